import PyProof.Rows.All
import Wide.All
import OpenK.AllK
import Wide.FinOn
import HandS.ForMost
import HandS.ForExc
import HandS.Wide
import HandS.Defaults
import HandS.HeadHook1
import HandS.HeadHook4
import HandS.Lambda
import HandS.Flow
import HandS.TupAny
import HandS.Style
import HandS.Deep
import HandS.NoneIn
import HandS.More
import HandS.Comp
import HandS.IsInst
import HandS.RaiseMore
import HandS.Conv
import HandS.SortInts
import PyProof.ReprRoads
import HandS.Ends
import HandS.HeadEnd
import HandS.HeadHook2
import HandS.HeadHook3
import HandS.Head0
import HandS.Head1
import HandS.Head2
import HandS.SortRule
import HandS.Property
import HandS.IterVal
import HandS.OwnEq
import KE.KOpsOwn
import KE.KOwnIter
import PyProof.InstNe
import HandS.Star
import KE.KExcLine
import HandS.ExcInit
import HandS.ExcField
import HandS.ExcIs
import KE.KExcIs
import HandS.HotCalls
import HandS.EndTab
import HandS.DeepEq
import PyProof.MaxThree
import PyProof.MeetsIn
import KE.KIndexOf
import HandS.Sort
import HandS.OwnIter
import KE.SortData
import HandS.Zip
import KE.DataMinMax
import HandS.DictComp
import KE.KDictPairs
import PyProof.EqAt
import PyProof.NeKinds
import PySem.Challenge.RW_pupilpairs_k23_lines_told
import PyProof.ReprLen
set_option Elab.async false
set_option linter.all false
set_option maxRecDepth 100000
set_option maxHeartbeats 0
namespace Sh
open PySem L2

inductive W where
  | non | bl (b : Bool) | int (i : Int) | str (x : Str)
  | tup (xs : List W) | lst (xs : List W) | dct (kvs : List (Key × W)) | dcT (kvs : List (List Key × W))
  | obj (C : Str) (fs : List (Str × W)) | exn (C : Str) (fs : List (Str × W)) (a : Addr) (d : Option Addr) | ref (a : Addr) | ty (n : String) | scr (ns : List Int) | glo (n : Str)
/-- an object that may be written -/
inductive SO where
  | lst (ws : List W) | dct (kvs : List (Key × W)) | dcT (kvs : List (List Key × W)) | ins (C : Str) (fs : List (Str × W)) | tbl (a : Addr) (d : Str)
inductive Slot where
  | none | val (w : W) | own (o : SO)
abbrev Sto := Addr → Option SO
structure Stt where
  ρ : List Slot
  S : Sto
/-- a result: a value; a new object that nobody else holds -/
inductive R where
  | val (w : W) | new (o : SO)
def SO.fz : SO → W
  | .lst ws => .lst ws
  | .dct kvs => .dct kvs
  | .dcT kvs => .dcT kvs
  | .ins C fs => .obj C fs
  | .tbl a _ => .ref a
def R.fz : R → W
  | .val w => w
  | .new o => o.fz

def FzL (Lv : Addr → Prop) (H : Hp) (a : Addr) (xs : List V) : Prop := H a = some (.lst xs) ∧ ¬ Lv a
/-- the script: read, never written -/
def FzS (K : PySem.W.Frag) (Lv : Addr → Prop) (H : Hp) (a : Addr) (xs : List V) : Prop :=
  ((∃ o, H a = some (.frz o (.lst xs))) ∧ ¬ Lv a) ∨ FzL Lv H a xs ∨ ∃ (o : Obj) (its : Array Value) (n : Nat), K.lookup a = some o ∧ o.cls = .type "list" ∧ o.dict = none ∧ o.data = .seq its n ∧ its.size ≤ sizeLine ∧ Vals xs its.toList
def FzT (K : PySem.W.Frag) (Lv : Addr → Prop) (H : Hp) (a : Addr) (xs : List V) : Prop :=
  (H a = some (.tup xs) ∧ ¬ Lv a) ∨ ∃ (o : Obj) (its : Array Value) (n : Nat), K.lookup a = some o ∧ o.cls = .type "tuple" ∧ o.data = .seq its n ∧ its.size ≤ sizeLine ∧ Vals xs its.toList
theorem FzL.sq {K : PySem.W.Frag} {Lv : Addr → Prop} {H : Hp} {a : Addr} {xs : List V} (h : FzL Lv H a xs) : SqL K H a xs := SqL.of h.1
theorem FzS.sq {K : PySem.W.Frag} {Lv : Addr → Prop} {H : Hp} {a : Addr} {xs : List V} (h : FzS K Lv H a xs) : SqL K H a xs := by
  rcases h with ⟨h, _⟩ | h | h
  · exact .inl (.inr h)
  · exact h.sq
  · exact .inr h
theorem FzT.sq {K : PySem.W.Frag} {Lv : Addr → Prop} {H : Hp} {a : Addr} {xs : List V} (h : FzT K Lv H a xs) : SqT K H a xs := h.imp (fun z => .inl z.1) id
mutual
inductive RelW (K : PySem.W.Frag) (Lv : Addr → Prop) (H : Hp) : W → V → Prop
  | non : RelW K Lv H .non .non
  | bl (b : Bool) : RelW K Lv H (.bl b) (.bl b)
  | int (i : Int) : RelW K Lv H (.int i) (.int i)
  | str (x : Str) : RelW K Lv H (.str x) (.str x)
  | ty (n : String) : RelW K Lv H (.ty n) (.ty n)
  | ref (a : Addr) : RelW K Lv H (.ref a) (.ref a)
  | glo (n : Str) : RelW K Lv H (.glo n) (.ref (He.ga K n))
  | tup {a : Addr} {ws : List W} {vs : List V} : FzT K Lv H a vs → RelWs K Lv H ws vs → RelW K Lv H (.tup ws) (.ref a)
  | scr {a : Addr} {ns : List Int} : FzS K Lv H a (ns.map V.int) → RelW K Lv H (.scr ns) (.ref a)
  | lst {a : Addr} {ws : List W} {vs : List V} : FzL Lv H a vs → RelWs K Lv H ws vs → RelW K Lv H (.lst ws) (.ref a)
  | dct {a : Addr} {ws : List (Key × W)} {vs : List (Key × V)} : H a = some (.dK vs) → ¬ Lv a → RelKs K Lv H ws vs → RelW K Lv H (.dct ws) (.ref a)
  | dcT {a : Addr} {ws : List (List Key × W)} {vs : List (List Key × V)} : H a = some (.dT vs) → ¬ Lv a → RelTs K Lv H ws vs → RelW K Lv H (.dcT ws) (.ref a)
  | obj {a dx : Addr} {C : Str} {ws : List (Str × W)} {vs : List (Str × V)} : H a = some (.ins (He.ga K C) dx vs) → ¬ Lv a → RelFs K Lv H ws vs → RelW K Lv H (.obj C ws) (.ref a)
  | exn0 {a : Addr} {C : Str} : RelW K Lv H (.exn C [] a none) (.ref a)
  | exn1 {a dd : Addr} {C : Str} {ws : List (Str × W)} {vs : List (Str × V)} : H dd = some (.xd vs) → ¬ Lv dd → RelFs K Lv H ws vs → RelW K Lv H (.exn C ws a (some dd)) (.ref a)
inductive RelWs (K : PySem.W.Frag) (Lv : Addr → Prop) (H : Hp) : List W → List V → Prop
  | nil : RelWs K Lv H [] []
  | cons {w : W} {v : V} {ws : List W} {vs : List V} : RelW K Lv H w v → RelWs K Lv H ws vs → RelWs K Lv H (w :: ws) (v :: vs)
inductive RelKs (K : PySem.W.Frag) (Lv : Addr → Prop) (H : Hp) : List (Key × W) → List (Key × V) → Prop
  | nil : RelKs K Lv H [] []
  | cons {k : Key} {w : W} {v : V} {ws : List (Key × W)} {vs : List (Key × V)} : RelW K Lv H w v → RelKs K Lv H ws vs → RelKs K Lv H ((k, w) :: ws) ((k, v) :: vs)
inductive RelTs (K : PySem.W.Frag) (Lv : Addr → Prop) (H : Hp) : List (List Key × W) → List (List Key × V) → Prop
  | nil : RelTs K Lv H [] []
  | cons {k : List Key} {w : W} {v : V} {ws : List (List Key × W)} {vs : List (List Key × V)} : RelW K Lv H w v → RelTs K Lv H ws vs → RelTs K Lv H ((k, w) :: ws) ((k, v) :: vs)
inductive RelFs (K : PySem.W.Frag) (Lv : Addr → Prop) (H : Hp) : List (Str × W) → List (Str × V) → Prop
  | nil : RelFs K Lv H [] []
  | cons {k : Str} {w : W} {v : V} {ws : List (Str × W)} {vs : List (Str × V)} : RelW K Lv H w v → RelFs K Lv H ws vs → RelFs K Lv H ((k, w) :: ws) ((k, v) :: vs)
end
/-- what is not live stays, and stays not live -/
def Mv (Lv : Addr → Prop) (H : Hp) (Lv' : Addr → Prop) (H' : Hp) : Prop := ∀ a u, H a = some u → ¬ Lv a → H' a = some u ∧ ¬ Lv' a
section
variable {K : PySem.W.Frag} {Lv Lv' : Addr → Prop} {H H' : Hp}
theorem FzL.mono (m : Mv Lv H Lv' H') {a : Addr} {xs : List V} (h : FzL Lv H a xs) : FzL Lv' H' a xs := m _ _ h.1 h.2
theorem FzS.mono (m : Mv Lv H Lv' H') {a : Addr} {xs : List V} (h : FzS K Lv H a xs) : FzS K Lv' H' a xs := by
  rcases h with ⟨⟨o, h⟩, n⟩ | h | h
  · exact .inl ⟨⟨o, (m _ _ h n).1⟩, (m _ _ h n).2⟩
  · exact .inr (.inl (h.mono m))
  · exact .inr (.inr h)
theorem FzT.mono (m : Mv Lv H Lv' H') {a : Addr} {xs : List V} (h : FzT K Lv H a xs) : FzT K Lv' H' a xs := by
  rcases h with ⟨h, n⟩ | h
  · exact .inl ⟨(m _ _ h n).1, (m _ _ h n).2⟩
  · exact .inr h
mutual
theorem RelW.mono (m : Mv Lv H Lv' H') : ∀ {w : W} {v : V}, RelW K Lv H w v → RelW K Lv' H' w v
  | _, _, .non => .non
  | _, _, .bl b => .bl b
  | _, _, .int i => .int i
  | _, _, .str x => .str x
  | _, _, .ty n => .ty n
  | _, _, .ref a => .ref a
  | _, _, .glo n => .glo n
  | _, _, .tup h r => .tup (h.mono m) (RelWs.mono m r)
  | _, _, .lst h r => .lst (h.mono m) (RelWs.mono m r)
  | _, _, .scr h => .scr (h.mono m)
  | _, _, .dct h n r => .dct (m _ _ h n).1 (m _ _ h n).2 (RelKs.mono m r)
  | _, _, .obj h n r => .obj (m _ _ h n).1 (m _ _ h n).2 (RelFs.mono m r)
  | _, _, .dcT h n r => .dcT (m _ _ h n).1 (m _ _ h n).2 (RelTs.mono m r)
  | _, _, .exn0 => .exn0
  | _, _, .exn1 h n r => .exn1 (m _ _ h n).1 (m _ _ h n).2 (RelFs.mono m r)
theorem RelWs.mono (m : Mv Lv H Lv' H') : ∀ {ws : List W} {vs : List V}, RelWs K Lv H ws vs → RelWs K Lv' H' ws vs
  | _, _, .nil => .nil
  | _, _, .cons h r => .cons (RelW.mono m h) (RelWs.mono m r)
theorem RelKs.mono (m : Mv Lv H Lv' H') : ∀ {ws : List (Key × W)} {vs : List (Key × V)}, RelKs K Lv H ws vs → RelKs K Lv' H' ws vs
  | _, _, .nil => .nil
  | _, _, .cons h r => .cons (RelW.mono m h) (RelKs.mono m r)
theorem RelTs.mono (m : Mv Lv H Lv' H') : ∀ {ws : List (List Key × W)} {vs : List (List Key × V)}, RelTs K Lv H ws vs → RelTs K Lv' H' ws vs
  | _, _, .nil => .nil
  | _, _, .cons h r => .cons (RelW.mono m h) (RelTs.mono m r)
theorem RelFs.mono (m : Mv Lv H Lv' H') : ∀ {ws : List (Str × W)} {vs : List (Str × V)}, RelFs K Lv H ws vs → RelFs K Lv' H' ws vs
  | _, _, .nil => .nil
  | _, _, .cons h r => .cons (RelW.mono m h) (RelFs.mono m r)
end
theorem RelWs.length : ∀ {ws : List W} {vs : List V}, RelWs K Lv H ws vs → ws.length = vs.length
  | _, _, .nil => rfl
  | _, _, .cons _ r => congrArg Nat.succ (RelWs.length r)
theorem RelWs.get : ∀ {ws : List W} {vs : List V} {i : Nat} {w : W}, RelWs K Lv H ws vs → ws[i]? = some w → ∃ v, vs[i]? = some v ∧ RelW K Lv H w v
  | _, _, _, _, .nil, e => by simp at e
  | _, _, 0, _, .cons h _, e => by
    have e2 := Option.some.inj e
    subst e2
    exact ⟨_, rfl, h⟩
  | _, _, i + 1, w, .cons _ r, e => RelWs.get (i := i) r (by simpa using e)
theorem RelWs.append : ∀ {ws ws' : List W} {vs vs' : List V}, RelWs K Lv H ws vs → RelWs K Lv H ws' vs' → RelWs K Lv H (ws ++ ws') (vs ++ vs')
  | _, _, _, _, .nil, s => s
  | _, _, _, _, .cons h r, s => .cons h (RelWs.append r s)
end
/-- the name of a lambda of a def -/
def lamN (d : Str) : Str := d ++ ".<locals>." ++ "<lambda>"
/-- the table of the lambdas of the def d -/
def TabO (K : PySem.W.Frag) (Lv : Addr → Prop) (H : Hp) (a : Addr) (d : Str) : Prop := a = (He.cT K (d, none)).2 ∧ ∃ ps : Array Value, H a = some (.tbl ps) ∧ TriplesOk ps.toList ∧ ∀ (pos : Pos) (cv : Value), codeAmong pos ps.toList = some cv → ∃ c, cv = .ref c ∧ H c = some (LamX.CodeO c (lamN d)) ∧ ¬ Lv c
/-- what stands at an address that may be written -/
def RelO (K : PySem.W.Frag) (Lv : Addr → Prop) (H : Hp) (a : Addr) : SO → Prop
  | .lst ws => ∃ vs, H a = some (.lst vs) ∧ RelWs K Lv H ws vs
  | .dct kvs => ∃ vs, H a = some (.dK vs) ∧ RelKs K Lv H kvs vs
  | .dcT kvs => ∃ vs, H a = some (.dT vs) ∧ RelTs K Lv H kvs vs
  | .ins C fs => ∃ dx vs, H a = some (.ins (He.ga K C) dx vs) ∧ RelFs K Lv H fs vs
  | .tbl b d => a = b ∧ TabO K Lv H a d
theorem RelO.at {K : PySem.W.Frag} {Lv : Addr → Prop} {H : Hp} {a : Addr} {o : SO} (h : RelO K Lv H a o) : ∃ u, H a = some u := by
  cases o with
  | lst ws => obtain ⟨vs, e, _⟩ := h; exact ⟨_, e⟩
  | dct ws => obtain ⟨vs, e, _⟩ := h; exact ⟨_, e⟩
  | dcT ws => obtain ⟨vs, e, _⟩ := h; exact ⟨_, e⟩
  | ins C ws => obtain ⟨dx, vs, e, _⟩ := h; exact ⟨_, e⟩
  | tbl b d => obtain ⟨_, _, ps, e, _⟩ := h; exact ⟨_, e⟩
theorem RelO.move {K : PySem.W.Frag} {Lv Lv' : Addr → Prop} {H H' : Hp} {a : Addr} {o : SO} (h : RelO K Lv H a o) (e : ∀ u, H a = some u → H' a = some u) (m : Mv Lv H Lv' H') : RelO K Lv' H' a o := by
  cases o with
  | lst ws => obtain ⟨vs, q, r⟩ := h; exact ⟨vs, e _ q, r.mono m⟩
  | dct ws => obtain ⟨vs, q, r⟩ := h; exact ⟨vs, e _ q, r.mono m⟩
  | dcT ws => obtain ⟨vs, q, r⟩ := h; exact ⟨vs, e _ q, r.mono m⟩
  | ins C ws => obtain ⟨dx, vs, q, r⟩ := h; exact ⟨dx, vs, e _ q, r.mono m⟩
  | tbl b d =>
    obtain ⟨e0, e1, ps, q, r1, r2⟩ := h
    refine ⟨e0, e1, ps, e _ q, r1, fun pos cv hc => ?_⟩
    obtain ⟨c, e2, e3, e4⟩ := r2 pos cv hc
    exact ⟨c, e2, (m _ _ e3 e4).1, (m _ _ e3 e4).2⟩
theorem RelO.fz {K : PySem.W.Frag} {Lv : Addr → Prop} {H : Hp} {a : Addr} {o : SO} (h : RelO K Lv H a o) (n : ¬ Lv a) : RelW K Lv H o.fz (.ref a) := by
  cases o with
  | lst ws => obtain ⟨vs, q, r⟩ := h; exact .lst ⟨q, n⟩ r
  | dct ws => obtain ⟨vs, q, r⟩ := h; exact .dct q n r
  | dcT ws => obtain ⟨vs, q, r⟩ := h; exact .dcT q n r
  | ins C ws => obtain ⟨dx, vs, q, r⟩ := h; exact .obj q n r
  | tbl b d => obtain ⟨e0, _⟩ := h; rw [e0]; exact .ref b

/-- the addresses of the objects that slots own -/
def Ow (ρ : List Slot) (σ : St) (a : Addr) : Prop := ∃ (i : Nat) (o : SO), ρ[i]? = some (.own o) ∧ σ[i]? = some (some (.ref a))
/-- may be written by us -/
def Wr (st : Stt) (σ : St) (a : Addr) : Prop := st.S a ≠ none ∨ Ow st.ρ σ a
def Live (F : Addr → Prop) (st : Stt) (σ : St) (a : Addr) : Prop := Wr st σ a ∨ F a
structure Lk (K : PySem.W.Frag) (F : Addr → Prop) (st : Stt) (σ : St) (H : Hp) : Prop where
  len : st.ρ.length = σ.length
  val : ∀ (i : Nat) (w : W), st.ρ[i]? = some (.val w) → ∃ v, σ[i]? = some (some v) ∧ RelW K (Live F st σ) H w v
  own : ∀ (i : Nat) (o : SO), st.ρ[i]? = some (.own o) → ∃ a, σ[i]? = some (some (.ref a)) ∧ RelO K (Live F st σ) H a o ∧ st.S a = none ∧ ¬ F a
  inj : ∀ (i j : Nat) (o o' : SO) (a : Addr), st.ρ[i]? = some (.own o) → st.ρ[j]? = some (.own o') → σ[i]? = some (some (.ref a)) → σ[j]? = some (some (.ref a)) → i = j
  sto : ∀ a o, st.S a = some o → RelO K (Live F st σ) H a o
  ftr : ∀ a, F a → ∃ u, H a = some u
  fdis : ∀ a, F a → st.S a = none
structure Step (st : Stt) (σ : St) (H : Hp) (st' : Stt) (σ' : St) (H' : Hp) : Prop where
  keep : ∀ a u, H a = some u → ¬ Wr st σ a → H' a = some u
  new : ∀ a, Wr st' σ' a → Wr st σ a ∨ H a = none
theorem Step.refl {st : Stt} {σ : St} {H : Hp} : Step st σ H st σ H := ⟨fun _ _ e _ => e, fun _ w => .inl w⟩
theorem Step.trans {st st1 st2 : Stt} {σ σ1 σ2 : St} {H H1 H2 : Hp} (a : Step st σ H st1 σ1 H1) (b : Step st1 σ1 H1 st2 σ2 H2) : Step st σ H st2 σ2 H2 := by
  refine ⟨fun x u e n => b.keep x u (a.keep x u e n) fun w => ?_, fun x w => ?_⟩
  · rcases a.new x w with z | z
    · exact n z
    · rw [e] at z; cases z
  · rcases b.new x w with z | z
    · exact a.new x z
    · by_cases h : Wr st σ x
      · exact .inl h
      · cases e : H x with
        | none => exact .inr rfl
        | some u =>
          rw [a.keep x u e h] at z
          cases z
theorem Step.mv {F : Addr → Prop} {st st' : Stt} {σ σ' : St} {H H' : Hp} (s : Step st σ H st' σ' H') : Mv (Live F st σ) H (Live F st' σ') H' := fun a u e n =>
  ⟨s.keep a u e fun w => n (.inl w), fun l => by
    rcases l with l | l
    · rcases s.new a l with z | z
      · exact n (.inl z)
      · rw [e] at z; cases z
    · exact n (.inr l)⟩
section
variable {K : PySem.W.Frag} {F : Addr → Prop} {st st' : Stt} {σ σ' : St} {H H' : Hp}
theorem Lk.wtr (l : Lk K F st σ H) {a : Addr} (w : Wr st σ a) : ∃ u, H a = some u := by
  rcases w with w | ⟨i, o, e1, e2⟩
  · cases e : st.S a with
    | none => exact absurd e w
    | some o => exact (l.sto a o e).at
  · obtain ⟨b, e3, r, _⟩ := l.own i o e1
    rw [e2] at e3
    cases e3
    exact r.at
theorem Lk.fresh (l : Lk K F st σ H) {a : Addr} (e : H a = none) : ¬ Live F st σ a := fun z => by
  rcases z with z | z
  · obtain ⟨u, q⟩ := l.wtr z
    rw [e] at q; cases q
  · obtain ⟨u, q⟩ := l.ftr a z
    rw [e] at q; cases q
/-- a new object, tracked, that is nobody's -/
theorem Step.laid (l : Lk K F st σ H) {p : Addr} {o : HO} (e : H p = none) : Step st σ H st σ (upd H p o) :=
  ⟨fun a u q _ => by rw [upd_ne (ne_of_none q e)]; exact q, fun _ w => .inl w⟩
theorem Lk.laid (l : Lk K F st σ H) {p : Addr} {o : HO} (e : H p = none) : Lk K F st σ (upd H p o) := by
  have s : Step st σ H st σ (upd H p o) := Step.laid l e
  have k : ∀ a u, H a = some u → upd H p o a = some u := fun a u q => by rw [upd_ne (ne_of_none q e)]; exact q
  refine ⟨l.len, fun i w q => ?_, fun i o q => ?_, l.inj, fun a o q => (l.sto a o q).move (k a) s.mv, fun a q => ?_, l.fdis⟩
  · obtain ⟨v, e1, r⟩ := l.val i w q
    exact ⟨v, e1, r.mono s.mv⟩
  · obtain ⟨a, e1, r, n1, n2⟩ := l.own i o q
    exact ⟨a, e1, r.move (k a) s.mv, n1, n2⟩
  · obtain ⟨u, z⟩ := l.ftr a q
    exact ⟨u, k a u z⟩
theorem FzT.new (l : Lk K F st σ H) {p : Addr} {vs : List V} (e : H p = none) : FzT K (Live F st σ) (upd H p (.tup vs)) p vs := .inl ⟨upd_same, l.fresh e⟩
theorem FzL.new (l : Lk K F st σ H) {p : Addr} {vs : List V} (e : H p = none) : FzL (Live F st σ) (upd H p (.lst vs)) p vs := ⟨upd_same, l.fresh e⟩
/-- fewer are foreign -/
theorem Lk.less {F' : Addr → Prop} (l : Lk K F st σ H) (h : ∀ a, F' a → F a) : Lk K F' st σ H := by
  have m : Mv (Live F st σ) H (Live F' st σ) H := fun a u e n => ⟨e, fun z => n (z.imp id (h a))⟩
  refine ⟨l.len, fun i w q => ?_, fun i o q => ?_, l.inj, fun a o q => (l.sto a o q).move (fun _ e => e) m, fun a q => l.ftr a (h a q), fun a q => l.fdis a (h a q)⟩
  · obtain ⟨v, e1, r⟩ := l.val i w q
    exact ⟨v, e1, r.mono m⟩
  · obtain ⟨a, e1, r, n1, n2⟩ := l.own i o q
    exact ⟨a, e1, r.move (fun _ e => e) m, n1, fun z => n2 (h a z)⟩
end
end Sh
namespace Sh
open PySem L2

structure Exn where
  C : Str
  fs : List (Str × W)
abbrev XI := Exn → Stt → Prop
abbrev IE := XI → Stt → (W → Stt → Prop) → Prop
abbrev IN := XI → Stt → (SO → Stt → Prop) → Prop
abbrev IT := XI → Stt → (Bool → Stt → Prop) → Prop
abbrev IA := XI → Stt → (List W → Stt → Prop) → Prop
structure IEnds where
  nx : Stt → Prop
  rt : R → Sto → Prop
  bk : Stt → Prop := fun _ => False
  ct : Stt → Prop := fun _ => False
abbrev IS := XI → IEnds → Stt → Prop
abbrev ISp := List W → Sto → (R → Sto → Prop) → (Exn → Sto → Prop) → Prop

/-- nobody else can know it -/
def NewAt (st : Stt) (σ : St) (H : Hp) (a : Addr) : Prop := Wr st σ a ∨ H a = none
def FA (F : Addr → Prop) (a : Addr) : Addr → Prop := fun b => F b ∨ b = a
def RelX (K : PySem.W.Frag) (Lv : Addr → Prop) (H : Hp) (x : Exn) (cls : Value) (d : Option Addr) : Prop :=
  cls = .ref (He.ga K x.C) ∧ ((x.fs = [] ∧ d = none) ∨ ∃ a vs, d = some a ∧ H a = some (.xd vs) ∧ ¬ Lv a ∧ RelFs K Lv H x.fs vs)
/-- an error leaves an expression: the slots are as they were -/
def UpX (K : PySem.W.Frag) (F : Addr → Prop) (Wx : WX) (st : Stt) (σ : St) (H : Hp) (EI : XI) : Prop :=
  ∀ x st' cls d H', EI x st' → Lk K F st' σ H' → Step st σ H st' σ H' → RelX K (Live F st' σ) H' x cls d → Wx cls d σ H'
/-- an error leaves a statement -/
def UpXs (K : PySem.W.Frag) (F : Addr → Prop) (Wx : WX) (st : Stt) (σ : St) (H : Hp) (EI : XI) : Prop :=
  ∀ x st' σ' cls d H', EI x st' → Lk K F st' σ' H' → Step st σ H st' σ' H' → RelX K (Live F st' σ') H' x cls d → Wx cls d σ' H'
def LE (K : PySem.W.Frag) (F : Addr → Prop) (Wx : WX) (i : IE) : TE := fun σ H Q => ∃ st QI EI, Lk K F st σ H ∧ i EI st QI ∧ UpX K F Wx st σ H EI ∧
  ∀ w st' v H', QI w st' → Lk K F st' σ H' → Step st σ H st' σ H' → RelW K (Live F st' σ) H' w v → Q v H'
def LT (K : PySem.W.Frag) (F : Addr → Prop) (Wx : WX) (i : IT) : TT := fun σ H Q => ∃ st QI EI, Lk K F st σ H ∧ i EI st QI ∧ UpX K F Wx st σ H EI ∧
  ∀ b st' H', QI b st' → Lk K F st' σ H' → Step st σ H st' σ H' → Q b H'
def LA (K : PySem.W.Frag) (F : Addr → Prop) (Wx : WX) (n : Nat) (i : IA) : TA := fun σ H Q => ∃ st QI EI, Lk K F st σ H ∧ i EI st QI ∧ UpX K F Wx st σ H EI ∧
  ∀ ws st' vs H', ws.length = n → QI ws st' → Lk K F st' σ H' → Step st σ H st' σ H' → RelWs K (Live F st' σ) H' ws vs → Q vs H'
def LN (K : PySem.W.Frag) (F : Addr → Prop) (Wx : WX) (i : IN) : TE := fun σ H Q => ∃ st QI EI, Lk K F st σ H ∧ i EI st QI ∧ UpX K F Wx st σ H EI ∧
  ∀ o st' a H', QI o st' → Lk K (FA F a) st' σ H' → Step st σ H st' σ H' → RelO K (Live (FA F a) st' σ) H' a o → NewAt st σ H a → Q (.ref a) H'
def RetOk (K : PySem.W.Frag) (F : Addr → Prop) (st : Stt) (σ : St) (H : Hp) (r : R) (S' : Sto) (v : V) (H' : Hp) : Prop :=
  Step st σ H ⟨[], S'⟩ [] H' ∧ match r with
    | .val w => Lk K F ⟨[], S'⟩ [] H' ∧ RelW K (Live F ⟨[], S'⟩ []) H' w v
    | .new o => ∃ a, v = .ref a ∧ Lk K (FA F a) ⟨[], S'⟩ [] H' ∧ RelO K (Live (FA F a) ⟨[], S'⟩ []) H' a o ∧ NewAt st σ H a
structure Up (K : PySem.W.Frag) (F : Addr → Prop) (Wx : WX) (st : Stt) (σ : St) (H : Hp) (EI : XI) (DI : IEnds) (D : Ends) : Prop where
  xs : UpXs K F Wx st σ H EI
  nx : ∀ st' σ' H', DI.nx st' → Lk K F st' σ' H' → Step st σ H st' σ' H' → D.nx σ' H'
  bk : ∀ st' σ' H', DI.bk st' → Lk K F st' σ' H' → Step st σ H st' σ' H' → D.bk σ' H'
  ct : ∀ st' σ' H', DI.ct st' → Lk K F st' σ' H' → Step st σ H st' σ' H' → D.ct σ' H'
  rt : ∀ r S' v H', DI.rt r S' → RetOk K F st σ H r S' v H' → D.rt v H'
def LS (K : PySem.W.Frag) (F : Addr → Prop) (Wx : WX) (i : IS) : TS := fun D σ H => ∃ st DI EI, Lk K F st σ H ∧ i EI DI st ∧ Up K F Wx st σ H EI DI D

section
variable {K : PySem.W.Frag} {F : Addr → Prop} {Wx : WX} {st st1 : Stt} {σ σ1 : St} {H H1 : Hp} {EI : XI} {DI : IEnds} {D : Ends}
theorem UpX.step (u : UpX K F Wx st σ H EI) (s : Step st σ H st1 σ H1) : UpX K F Wx st1 σ H1 EI := fun x st' cls d H' e l s' r => u x st' cls d H' e l (s.trans s') r
theorem UpXs.step (u : UpXs K F Wx st σ H EI) (s : Step st σ H st1 σ1 H1) : UpXs K F Wx st1 σ1 H1 EI := fun x st' σ' cls d H' e l s' r => u x st' σ' cls d H' e l (s.trans s') r
theorem Up.x (u : Up K F Wx st σ H EI DI D) : UpX K F Wx st σ H EI := fun x st' cls d H' e l s r => u.xs x st' σ cls d H' e l s r
theorem NewAt.step {a : Addr} (s : Step st σ H st1 σ1 H1) (h : NewAt st1 σ1 H1 a) : NewAt st σ H a := by
  rcases h with h | h
  · exact s.new a h
  · by_cases w : Wr st σ a
    · exact .inl w
    · cases q : H a with
      | none => exact .inr q
      | some u =>
        rw [s.keep a u q w] at h
        cases h
theorem NewAt.nf {a : Addr} (l : Lk K F st σ H) (h : NewAt st σ H a) : ¬ F a := fun z => by
  rcases h with (h | ⟨i, o, e1, e2⟩) | h
  · exact h (l.fdis a z)
  · obtain ⟨b, e3, _, _, n⟩ := l.own i o e1
    rw [e2] at e3
    cases e3
    exact n z
  · obtain ⟨u, q⟩ := l.ftr a z
    rw [h] at q
    cases q
theorem RetOk.step {r : R} {S' : Sto} {v : V} {H' : Hp} (s : Step st σ H st1 σ1 H1) (h : RetOk K F st1 σ1 H1 r S' v H') : RetOk K F st σ H r S' v H' := by
  obtain ⟨s', h⟩ := h
  refine ⟨s.trans s', ?_⟩
  cases r with
  | val w => exact h
  | new o =>
    obtain ⟨a, e, l, r, n⟩ := h
    exact ⟨a, e, l, r, n.step s⟩
theorem Up.step (u : Up K F Wx st σ H EI DI D) (s : Step st σ H st1 σ1 H1) : Up K F Wx st1 σ1 H1 EI DI D :=
  ⟨u.xs.step s, fun st' σ' H' q l s' => u.nx st' σ' H' q l (s.trans s'), fun st' σ' H' q l s' => u.bk st' σ' H' q l (s.trans s'), fun st' σ' H' q l s' => u.ct st' σ' H' q l (s.trans s'), fun r S' v H' q h => u.rt r S' v H' q (h.step s)⟩

def Stt.put (st : Stt) (i : Nat) (x : Slot) : Stt := { st with ρ := st.ρ.set i x }
theorem get_set {α : Type} {l : List α} {i j : Nat} {x y : α} (h : (l.set i x)[j]? = some y) : (j = i ∧ y = x ∧ i < l.length) ∨ (j ≠ i ∧ l[j]? = some y) := by
  by_cases e : j = i
  · subst e
    rw [List.getElem?_set_self'] at h
    cases q : l[j]? with
    | none =>
      rw [q] at h
      cases h
    | some z =>
      rw [q] at h
      exact .inl ⟨rfl, (Option.some.inj h).symm, (List.getElem?_eq_some_iff.mp q).1⟩
  · rw [List.getElem?_set_ne (Ne.symm e)] at h
    exact .inr ⟨e, h⟩
theorem set_get {α : Type} {l : List α} {i : Nat} {x : α} (h : i < l.length) : (l.set i x)[i]? = some x := by simp [h]
/-- a slot takes a value -/
theorem Ow.put {ρ : List Slot} {i : Nat} {w : W} {v : V} {a : Addr} (h : Ow (ρ.set i (.val w)) (σ.set i (some v)) a) : Ow ρ σ a := by
  obtain ⟨j, o, e1, e2⟩ := h
  rcases get_set e1 with ⟨_, z, _⟩ | ⟨n, e1⟩
  · cases z
  · rw [List.getElem?_set_ne (Ne.symm n)] at e2
    exact ⟨j, o, e1, e2⟩
theorem Step.put {i : Nat} {w : W} {v : V} : Step st σ H (st.put i (.val w)) (σ.set i (some v)) H :=
  ⟨fun _ _ e _ => e, fun a h => .inl (h.imp id Ow.put)⟩
theorem Lk.put (l : Lk K F st σ H) {i : Nat} {w : W} {v : V} (r : RelW K (Live F st σ) H w v) : Lk K F (st.put i (.val w)) (σ.set i (some v)) H := by
  have s : Step st σ H (st.put i (.val w)) (σ.set i (some v)) H := Step.put
  refine ⟨by simp [Stt.put, l.len], fun j y e => ?_, fun j o e => ?_, fun j k o o' a e1 e2 e3 e4 => ?_, fun a o e => (l.sto a o e).move (fun _ q => q) s.mv, l.ftr, l.fdis⟩
  · rcases get_set e with ⟨rfl, z, b⟩ | ⟨n, e⟩
    · cases z
      exact ⟨v, set_get (by rw [← l.len]; exact b), r.mono s.mv⟩
    · obtain ⟨u, e1, r1⟩ := l.val j y e
      exact ⟨u, by rw [List.getElem?_set_ne (Ne.symm n)]; exact e1, r1.mono s.mv⟩
  · rcases get_set e with ⟨_, z, _⟩ | ⟨n, e⟩
    · cases z
    · obtain ⟨a, e1, r1, n1, n2⟩ := l.own j o e
      exact ⟨a, by rw [List.getElem?_set_ne (Ne.symm n)]; exact e1, r1.move (fun _ q => q) s.mv, n1, n2⟩
  · rcases get_set e1 with ⟨_, z, _⟩ | ⟨n, e1⟩
    · cases z
    · rcases get_set e2 with ⟨_, z, _⟩ | ⟨m, e2⟩
      · cases z
      · rw [List.getElem?_set_ne (Ne.symm n)] at e3
        rw [List.getElem?_set_ne (Ne.symm m)] at e4
        exact l.inj j k o o' a e1 e2 e3 e4
/-- a slot is forgotten -/
theorem Lk.wipe (l : Lk K F st σ H) {i : Nat} {x : Option V} : Lk K F (st.put i .none) (σ.set i x) H ∧ Step st σ H (st.put i .none) (σ.set i x) H := by
  have ow : ∀ a, Ow (st.put i .none).ρ (σ.set i x) a → Ow st.ρ σ a := fun a h => by
    obtain ⟨j, o, e1, e2⟩ := h
    rcases get_set e1 with ⟨_, z, _⟩ | ⟨n, e1⟩
    · cases z
    · rw [List.getElem?_set_ne (Ne.symm n)] at e2
      exact ⟨j, o, e1, e2⟩
  have s : Step st σ H (st.put i .none) (σ.set i x) H := ⟨fun _ _ e _ => e, fun a h => .inl (h.imp id (ow a))⟩
  refine ⟨⟨by simp [Stt.put, l.len], fun j y e => ?_, fun j o e => ?_, fun j k o o' a e1 e2 e3 e4 => ?_, fun a o e => (l.sto a o e).move (fun _ q => q) s.mv, l.ftr, l.fdis⟩, s⟩
  · rcases get_set e with ⟨rfl, z, b⟩ | ⟨n, e⟩
    · cases z
    · obtain ⟨u, e1, r1⟩ := l.val j y e
      exact ⟨u, by rw [List.getElem?_set_ne (Ne.symm n)]; exact e1, r1.mono s.mv⟩
  · rcases get_set e with ⟨_, z, _⟩ | ⟨n, e⟩
    · cases z
    · obtain ⟨a, e1, r1, n1, n2⟩ := l.own j o e
      exact ⟨a, by rw [List.getElem?_set_ne (Ne.symm n)]; exact e1, r1.move (fun _ q => q) s.mv, n1, n2⟩
  · rcases get_set e1 with ⟨_, z, _⟩ | ⟨n, e1⟩
    · cases z
    · rcases get_set e2 with ⟨_, z, _⟩ | ⟨m, e2⟩
      · cases z
      · rw [List.getElem?_set_ne (Ne.symm n)] at e3
        rw [List.getElem?_set_ne (Ne.symm m)] at e4
        exact l.inj j k o o' a e1 e2 e3 e4
/-- an owned object is given free for reading, never to be written again -/
theorem Lk.freeze (l : Lk K F st σ H) {i : Nat} {o : SO} (e : st.ρ[i]? = some (.own o)) : Lk K F (st.put i (.val o.fz)) σ H ∧ Step st σ H (st.put i (.val o.fz)) σ H := by
  obtain ⟨a, ea, ra, na, nf⟩ := l.own i o e
  have hσ : σ.set i (some (.ref a)) = σ := by
    apply List.ext_getElem?
    intro j
    by_cases q : j = i
    · subst q
      rw [List.getElem?_set_self', ea]
      rfl
    · rw [List.getElem?_set_ne (Ne.symm q)]
  have s : Step st σ H (st.put i (.val o.fz)) σ H := by
    have z := Step.put (st := st) (σ := σ) (H := H) (i := i) (w := o.fz) (v := .ref a)
    rw [hσ] at z
    exact z
  have nl : ¬ Live F (st.put i (.val o.fz)) σ a := fun z => by
    rcases z with (z | ⟨j, o', e1, e2⟩) | z
    · exact z na
    · rcases get_set e1 with ⟨_, z, _⟩ | ⟨n, e1⟩
      · cases z
      · exact n (l.inj j i o' o a e1 e e2 ea)
    · exact nf z
  refine ⟨⟨by simp [Stt.put, l.len], fun j y q => ?_, fun j o' q => ?_, fun j k o1 o2 b e1 e2 e3 e4 => ?_, fun b o' q => (l.sto b o' q).move (fun _ q => q) s.mv, l.ftr, l.fdis⟩, s⟩
  · rcases get_set q with ⟨rfl, z, b⟩ | ⟨n, q⟩
    · cases z
      exact ⟨.ref a, ea, (ra.move (fun _ z => z) s.mv).fz nl⟩
    · obtain ⟨u, e1, r1⟩ := l.val j y q
      exact ⟨u, e1, r1.mono s.mv⟩
  · rcases get_set q with ⟨_, z, _⟩ | ⟨n, q⟩
    · cases z
    · obtain ⟨b, e1, r1, n1, n2⟩ := l.own j o' q
      exact ⟨b, e1, r1.move (fun _ q => q) s.mv, n1, n2⟩
  · rcases get_set e1 with ⟨_, z, _⟩ | ⟨n, e1⟩
    · cases z
    · rcases get_set e2 with ⟨_, z, _⟩ | ⟨m, e2⟩
      · cases z
      · exact l.inj j k o1 o2 b e1 e2 e3 e4
/-- a new object goes into a slot -/
theorem Lk.keepNew {a : Addr} {o : SO} {i : Nat} (l : Lk K (FA F a) st σ H) (r : RelO K (Live (FA F a) st σ) H a o) (nF : ¬ F a) : Lk K F (st.put i (.own o)) (σ.set i (some (.ref a))) H := by
  have ow : ∀ b, Ow (st.put i (.own o)).ρ (σ.set i (some (.ref a))) b → Ow st.ρ σ b ∨ b = a := fun b h => by
    obtain ⟨j, o', e1, e2⟩ := h
    rcases get_set e1 with ⟨rfl, _, b⟩ | ⟨n, e1⟩
    · rw [set_get (by rw [← l.len]; exact b)] at e2
      cases e2
      exact .inr rfl
    · rw [List.getElem?_set_ne (Ne.symm n)] at e2
      exact .inl ⟨j, o', e1, e2⟩
  have m : Mv (Live (FA F a) st σ) H (Live F (st.put i (.own o)) (σ.set i (some (.ref a)))) H := fun b u e n => ⟨e, fun z => n (by
    rcases z with (z | z) | z
    · exact .inl (.inl z)
    · rcases ow b z with z | z
      · exact .inl (.inr z)
      · exact .inr (.inr z)
    · exact .inr (.inl z))⟩
  have nS : st.S a = none := l.fdis a (.inr rfl)
  have nO : ∀ (j : Nat) (o' : SO), st.ρ[j]? = some (.own o') → σ[j]? = some (some (.ref a)) → False := fun j o' e1 e2 => by
    obtain ⟨b, e3, _, _, n⟩ := l.own j o' e1
    rw [e2] at e3
    cases e3
    exact n (.inr rfl)
  refine ⟨by simp [Stt.put, l.len], fun j y q => ?_, fun j o' q => ?_, fun j k o1 o2 b e1 e2 e3 e4 => ?_, fun b o' q => (l.sto b o' q).move (fun _ q => q) m, fun b q => l.ftr b (.inl q), fun b q => l.fdis b (.inl q)⟩
  · rcases get_set q with ⟨_, z, _⟩ | ⟨n, q⟩
    · cases z
    · obtain ⟨u, e1, r1⟩ := l.val j y q
      exact ⟨u, by rw [List.getElem?_set_ne (Ne.symm n)]; exact e1, r1.mono m⟩
  · rcases get_set q with ⟨rfl, z, b⟩ | ⟨n, q⟩
    · cases z
      refine ⟨a, set_get (by rw [← l.len]; exact b), r.move (fun _ q => q) m, nS, nF⟩
    · obtain ⟨b, e1, r1, n1, n2⟩ := l.own j o' q
      exact ⟨b, by rw [List.getElem?_set_ne (Ne.symm n)]; exact e1, r1.move (fun _ q => q) m, n1, fun z => n2 (.inl z)⟩
  · rcases get_set e1 with ⟨q1, z1, b1⟩ | ⟨n, e1⟩
    · rw [q1, set_get (by rw [← l.len]; exact b1)] at e3
      cases e3
      rcases get_set e2 with ⟨q2, z, _⟩ | ⟨m', e2⟩
      · rw [q1, q2]
      · rw [List.getElem?_set_ne (Ne.symm m')] at e4
        exact (nO _ _ e2 e4).elim
    · rw [List.getElem?_set_ne (Ne.symm n)] at e3
      rcases get_set e2 with ⟨q2, z, b2⟩ | ⟨m', e2⟩
      · rw [q2, set_get (by rw [← l.len]; exact b2)] at e4
        cases e4
        exact (nO _ _ e1 e3).elim
      · rw [List.getElem?_set_ne (Ne.symm m')] at e4
        exact l.inj j k o1 o2 b e1 e2 e3 e4
end
end Sh
namespace Sh
open PySem L2
open PyProof.Rows hiding St
section
variable {K : PySem.W.Frag} {F : Addr → Prop} {Wx : WX} {st st1 : Stt} {σ σ1 : L2.St} {H H1 : Hp} {EI : XI} {DI : IEnds} {D : Ends}
def Sto.put (S : Sto) (a : Addr) (o : SO) : Sto := fun b => if b = a then some o else S b
theorem Sto.put_same {S : Sto} {a : Addr} {o : SO} : S.put a o a = some o := if_pos rfl
theorem Sto.put_ne {S : Sto} {a b : Addr} {o : SO} (h : b ≠ a) : S.put a o b = S b := if_neg h
def Stt.puts (st : Stt) (a : Addr) (o : SO) : Stt := { st with S := st.S.put a o }
/-- what is written at a live address touches nothing that is frozen -/
theorem Mv.write {a : Addr} {u : HO} {Lv Lv' : Addr → Prop} (la : Lv a) (h : ∀ b, Lv' b → Lv b) : Mv Lv H Lv' (upd H a u) := fun b z e n =>
  ⟨(upd_ne (show b ≠ a from fun q => n (by rw [q]; exact la))).trans e, fun q => n (h b q)⟩
/-- an owned object is written -/
theorem Lk.write (l : Lk K F st σ H) {i : Nat} {o o' : SO} {a : Addr} {u : HO} (e : st.ρ[i]? = some (.own o)) (ea : σ[i]? = some (some (.ref a)))
    (r : RelO K (Live F st σ) (upd H a u) a o') : Lk K F (st.put i (.own o')) σ (upd H a u) ∧ Step st σ H (st.put i (.own o')) σ (upd H a u) := by
  have ow : ∀ b, Ow (st.put i (.own o')).ρ σ b → Ow st.ρ σ b := fun b h => by
    obtain ⟨j, q, e1, e2⟩ := h
    rcases get_set e1 with ⟨rfl, _, _⟩ | ⟨n, e1⟩
    · exact ⟨j, o, e, e2⟩
    · exact ⟨j, q, e1, e2⟩
  have lv : ∀ b, Live F (st.put i (.own o')) σ b → Live F st σ b := fun b z => z.imp (fun w => w.imp id (ow b)) id
  have la : Live F st σ a := .inl (.inr ⟨i, o, e, ea⟩)
  have m : Mv (Live F st σ) H (Live F (st.put i (.own o')) σ) (upd H a u) := Mv.write la lv
  have m2 : Mv (Live F st σ) (upd H a u) (Live F (st.put i (.own o')) σ) (upd H a u) := fun b z q n => ⟨q, fun w => n (lv b w)⟩
  obtain ⟨a', ea', _, na, nf⟩ := l.own i o e
  rw [ea] at ea'
  cases ea'
  refine ⟨⟨by simp [Stt.put, l.len], fun j y q => ?_, fun j q z => ?_, fun j k o1 o2 b e1 e2 e3 e4 => ?_, fun b q z => ?_, fun b z => ?_, l.fdis⟩, ⟨fun b z q n => ?_, fun b z => .inl (z.imp id (ow b))⟩⟩
  · rcases get_set q with ⟨_, z, _⟩ | ⟨n, q⟩
    · cases z
    · obtain ⟨v, e1, r1⟩ := l.val j y q
      exact ⟨v, e1, r1.mono m⟩
  · rcases get_set z with ⟨rfl, z, _⟩ | ⟨n, z⟩
    · cases z
      exact ⟨a, ea, r.move (fun _ q => q) m2, na, nf⟩
    · obtain ⟨b, e1, r1, n1, n2⟩ := l.own j q z
      have nb : b ≠ a := fun q' => n (l.inj j i q o a z e (by rw [e1, q']) ea)
      exact ⟨b, e1, r1.move (fun _ q => by rw [upd_ne nb]; exact q) m, n1, n2⟩
  · have e1' : ∃ o1', st.ρ[j]? = some (.own o1') := by
      rcases get_set e1 with ⟨rfl, _, _⟩ | ⟨_, z⟩
      · exact ⟨o, e⟩
      · exact ⟨o1, z⟩
    have e2' : ∃ o2', st.ρ[k]? = some (.own o2') := by
      rcases get_set e2 with ⟨rfl, _, _⟩ | ⟨_, z⟩
      · exact ⟨o, e⟩
      · exact ⟨o2, z⟩
    obtain ⟨o1', e1'⟩ := e1'
    obtain ⟨o2', e2'⟩ := e2'
    exact l.inj j k o1' o2' b e1' e2' e3 e4
  · have nb : b ≠ a := fun q' => by
      rw [q'] at z
      have z2 : st.S a = some q := z
      rw [na] at z2
      cases z2
    exact (l.sto b q z).move (fun _ q => by rw [upd_ne nb]; exact q) m
  · obtain ⟨x, q⟩ := l.ftr b z
    have nb : b ≠ a := fun q' => nf (q' ▸ z)
    exact ⟨x, by rw [upd_ne nb]; exact q⟩
  · have nb : b ≠ a := fun q' => n (.inr ⟨i, o, e, q' ▸ ea⟩)
    rw [upd_ne nb]
    exact q
/-- an object of the store is written -/
theorem Lk.writeS (l : Lk K F st σ H) {o o' : SO} {a : Addr} {u : HO} (e : st.S a = some o)
    (r : RelO K (Live F st σ) (upd H a u) a o') : Lk K F (st.puts a o') σ (upd H a u) ∧ Step st σ H (st.puts a o') σ (upd H a u) := by
  have sw : ∀ b, (st.puts a o').S b ≠ none → st.S b ≠ none := fun b h => by
    by_cases q : b = a
    · rw [q, e]
      exact fun z => nomatch z
    · have z : (st.puts a o').S b = st.S b := Sto.put_ne q
      rw [← z]
      exact h
  have lv : ∀ b, Live F (st.puts a o') σ b → Live F st σ b := fun b z => z.imp (fun w => w.imp (sw b) id) id
  have la : Live F st σ a := .inl (.inl (by rw [e]; exact fun z => nomatch z))
  have m : Mv (Live F st σ) H (Live F (st.puts a o') σ) (upd H a u) := Mv.write la lv
  have m2 : Mv (Live F st σ) (upd H a u) (Live F (st.puts a o') σ) (upd H a u) := fun b z q n => ⟨q, fun w => n (lv b w)⟩
  refine ⟨⟨l.len, fun j y q => ?_, fun j q z => ?_, l.inj, fun b q z => ?_, fun b z => ?_, fun b z => ?_⟩, ⟨fun b z q n => ?_, fun b z => .inl (z.imp (sw b) id)⟩⟩
  · obtain ⟨v, e1, r1⟩ := l.val j y q
    exact ⟨v, e1, r1.mono m⟩
  · obtain ⟨b, e1, r1, n1, n2⟩ := l.own j q z
    have nb : b ≠ a := fun q' => by
      rw [q', e] at n1
      cases n1
    exact ⟨b, e1, r1.move (fun _ q => by rw [upd_ne nb]; exact q) m, (Sto.put_ne nb).trans n1, n2⟩
  · by_cases nb : b = a
    · subst nb
      have z2 : st.S.put b o' b = some q := z
      rw [Sto.put_same] at z2
      cases z2
      exact r.move (fun _ q => q) m2
    · have z2 : st.S.put a o' b = some q := z
      rw [Sto.put_ne nb] at z2
      exact (l.sto b q z2).move (fun _ q => by rw [upd_ne nb]; exact q) m
  · obtain ⟨x, q⟩ := l.ftr b z
    have nb : b ≠ a := fun q' => by
      have q2 := l.fdis b z
      rw [q', e] at q2
      cases q2
    exact ⟨x, by rw [upd_ne nb]; exact q⟩
  · have nb : b ≠ a := fun q' => by
      have q2 := l.fdis b z
      rw [q', e] at q2
      cases q2
    exact (Sto.put_ne nb).trans (l.fdis b z)
  · have nb : b ≠ a := fun q' => n (.inl (by rw [q', e]; exact fun z => nomatch z))
    rw [upd_ne nb]
    exact q

/-- what a callee sees as foreign -/
def Fo (F : Addr → Prop) (st : Stt) (σ : L2.St) : Addr → Prop := fun a => F a ∨ Ow st.ρ σ a
theorem ow_nil {a : Addr} : ¬ Ow [] [] a := fun ⟨_, _, e, _⟩ => by simp at e
theorem live_enter {a : Addr} : Live (Fo F st σ) ⟨[], st.S⟩ [] a ↔ Live F st σ a := by
  constructor
  · rintro ((z | z) | (z | z))
    · exact .inl (.inl z)
    · exact (ow_nil z).elim
    · exact .inr z
    · exact .inl (.inr z)
  · rintro ((z | z) | z)
    · exact .inl (.inl z)
    · exact .inr (.inr z)
    · exact .inr (.inl z)
theorem mv_same {Lv Lv' : Addr → Prop} (h : ∀ a, Lv' a → Lv a) : Mv Lv H Lv' H := fun a _ e n => ⟨e, fun z => n (h a z)⟩
theorem Lk.enter (l : Lk K F st σ H) : Lk K (Fo F st σ) ⟨[], st.S⟩ [] H := by
  refine ⟨rfl, fun i w e => by simp at e, fun i o e => by simp at e, fun i j o o' a e => by simp at e, fun a o e => (l.sto a o e).move (fun _ q => q) (mv_same fun b z => live_enter.mp z), fun a z => ?_, fun a z => ?_⟩
  · rcases z with z | z
    · exact l.ftr a z
    · exact l.wtr (.inr z)
  · rcases z with z | ⟨i, o, e1, e2⟩
    · exact l.fdis a z
    · obtain ⟨b, e3, _, n, _⟩ := l.own i o e1
      rw [e2] at e3
      cases e3
      exact n
theorem Lk.back {F2 : Addr → Prop} {S' : Sto} (l : Lk K F st σ H) (s : Step ⟨[], st.S⟩ [] H ⟨[], S'⟩ [] H1) (l2 : Lk K (Fo F2 st σ) ⟨[], S'⟩ [] H1) (hF : ∀ a, F a → F2 a)
    (h2 : ∀ a, F2 a → F a ∨ st.S a ≠ none ∨ H a = none) : Lk K F2 { st with S := S' } σ H1 ∧ Step st σ H { st with S := S' } σ H1 := by
  have wr0 : ∀ a, ¬ Wr st σ a → ¬ Wr ⟨[], st.S⟩ [] a := fun a n z => z.elim (fun z => n (.inl z)) ow_nil
  have st' : Step st σ H { st with S := S' } σ H1 := by
    refine ⟨fun a u e n => s.keep a u e (wr0 a n), fun a z => ?_⟩
    rcases z with z | z
    · rcases s.new a (.inl z) with (z | z) | z
      · exact .inl (.inl z)
      · exact (ow_nil z).elim
      · exact .inr z
    · exact .inl (.inr z)
  have m : Mv (Live F st σ) H (Live F2 { st with S := S' } σ) H1 := fun a u e n => by
    refine ⟨st'.keep a u e fun z => n (.inl z), fun z => ?_⟩
    rcases z with z | z
    · rcases st'.new a z with z | z
      · exact n (.inl z)
      · rw [e] at z; cases z
    · rcases h2 a z with z | z | z
      · exact n (.inr z)
      · exact n (.inl (.inl z))
      · rw [e] at z; cases z
  have lv : ∀ a, Live F2 { st with S := S' } σ a → Live (Fo F2 st σ) ⟨[], S'⟩ [] a := fun a z => (live_enter (F := F2) (st := { st with S := S' }) (σ := σ)).mpr z
  refine ⟨⟨l.len, fun i w e => ?_, fun i o e => ?_, l.inj, fun a o e => (l2.sto a o e).move (fun _ q => q) (mv_same lv), fun a z => l2.ftr a (.inl z), fun a z => l2.fdis a (.inl z)⟩, st'⟩
  · obtain ⟨v, e1, r⟩ := l.val i w e
    exact ⟨v, e1, r.mono m⟩
  · obtain ⟨a, e1, r, n1, n2⟩ := l.own i o e
    have oa : Ow st.ρ σ a := ⟨i, o, e, e1⟩
    refine ⟨a, e1, r.move (fun u q => s.keep a u q fun z => z.elim (fun z => z n1) ow_nil) m, l2.fdis a (.inr oa), fun z => ?_⟩
    rcases h2 a z with z | z | z
    · exact n2 z
    · exact z n1
    · obtain ⟨u, q⟩ := r.at
      rw [z] at q
      cases q
end

/-- spec over values: from the arguments and the store -/
def spI (K : PySem.W.Frag) (n : Nat) (spec : ISp) : Sp := fun vs H Q E => ∃ F S ws QI EI, Lk K F ⟨[], S⟩ [] H ∧ RelWs K (Live F ⟨[], S⟩ []) H ws vs ∧ ws.length = n ∧ spec ws S QI EI ∧
  (∀ r S' v H', QI r S' → RetOk K F ⟨[], S⟩ [] H r S' v H' → Q v H') ∧
  ∀ x S' cls d H', EI x S' → Lk K F ⟨[], S'⟩ [] H' → Step ⟨[], S⟩ [] H ⟨[], S'⟩ [] H' → RelX K (Live F ⟨[], S'⟩ []) H' x cls d → E cls d H'
theorem spI.len {K : PySem.W.Frag} {n : Nat} {spec : ISp} {vs : List V} {H : Hp} {Q : VK} {E : XK} (h : spI K n spec vs H Q E) : vs.length = n := by
  obtain ⟨F, S, ws, QI, EI, _, r, e, _⟩ := h
  rw [← r.length, e]
theorem spI.imp {K : PySem.W.Frag} {n : Nat} {spec spec' : ISp} (h : ∀ ws S Q E, spec' ws S Q E → spec ws S Q E) {vs : List V} {H : Hp} {Q : VK} {E : XK} (q : spI K n spec' vs H Q E) : spI K n spec vs H Q E := by
  obtain ⟨F, S, ws, QI, EI, l, r, e, s, k1, k2⟩ := q
  exact ⟨F, S, ws, QI, EI, l, r, e, h _ _ _ _ s, k1, k2⟩
/-- the slots at the entry -/
def start0 (m : Nat) (ws : List W) : List Slot := ws.map .val ++ List.replicate (m - ws.length) .none
/-- a body as a spec -/
def bodyI (m : Nat) (ib : IS) : ISp := fun ws S Q E => ib (fun x st => E x st.S) { nx := fun st => Q (.val .non) st.S, rt := Q } ⟨start0 m ws, S⟩
theorem start_rel {K : PySem.W.Frag} {Lv : Addr → Prop} {H : Hp} : ∀ {ws : List W} {vs : List V} {m : Nat} {i : Nat} {w : W}, RelWs K Lv H ws vs → (ws.map Slot.val ++ List.replicate m .none)[i]? = some (.val w) →
    ∃ v, (vs.map some ++ List.replicate m none)[i]? = some (some v) ∧ RelW K Lv H w v
  | _, _, m, i, w, .nil, e => by
    have e2 : (List.replicate m Slot.none)[i]? = some (.val w) := by simpa using e
    rw [List.getElem?_replicate] at e2
    split at e2 <;> cases e2
  | _, _, m, 0, w, .cons h r, e => by
    have e2 := Option.some.inj e
    cases e2
    exact ⟨_, rfl, h⟩
  | _, _, m, i + 1, w, .cons _ r, e => start_rel (i := i) r (by simpa using e)
theorem start_own {ws : List W} {m i : Nat} {o : SO} (e : (ws.map Slot.val ++ List.replicate m .none)[i]? = some (.own o)) : False := by
  have h := List.mem_of_getElem? e
  rcases List.mem_append.mp h with h | h
  · obtain ⟨w, _, q⟩ := List.mem_map.mp h
    cases q
  · have q := List.eq_of_mem_replicate h
    cases q
structure FnG (P : Program) (w : World) (K : PySem.W.Frag) (mg : Str → Option Value) (base : Heap) (k : Nat) (f : Addr) (fd : FuncData) (ps : List Str) (sp : Sp) : Prop where
  len : ∀ {vs H Q E}, sp vs H Q E → vs.length = ps.length
  go : ∀ {A : Around} {outer : List Env} {s : Shared} {H : Hp} {args : Args} {us : List Value} {vs : List V} {Q : VK} {E : XK}, Room k A → A.guards = some [] → Env0 P w K mg base A outer s H →
    BindsTo s fd args (ps.zip us) → Vals vs us → sp vs H Q E → codeAny (model P w) A (.call (.ref f) args) (CR (L2.CX P w) outer P w H s Q E) s
theorem FnG.imp {P : Program} {w : World} {K : PySem.W.Frag} {mg : Str → Option Value} {base : Heap} {k : Nat} {f : Addr} {fd : FuncData} {ps : List Str} {sp sp' : Sp} (G : FnG P w K mg base k f fd ps sp) (h : ∀ {vs H Q E}, sp' vs H Q E → sp vs H Q E) : FnG P w K mg base k f fd ps sp' :=
  ⟨fun q => G.len (h q), fun r g e b v q => G.go r g e b v (h q)⟩
theorem FnG.up {P : Program} {w : World} {K : PySem.W.Frag} {mg : Str → Option Value} {base : Heap} {j k : Nat} {f : Addr} {fd : FuncData} {ps : List Str} {sp : Sp} (G : FnG P w K mg base j f fd ps sp) (h : j ≤ k) : FnG P w K mg base k f fd ps sp :=
  ⟨G.len, fun r g e b v q => G.go (r.mono h) g e b v q⟩
/-- a nicer spec -/
theorem FnG.spec {P : Program} {w : World} {K : PySem.W.Frag} {mg : Str → Option Value} {base : Heap} {k n : Nat} {f : Addr} {fd : FuncData} {ps : List Str} {spec spec' : ISp} (G : FnG P w K mg base k f fd ps (spI K n spec)) (h : ∀ ws S Q E, spec' ws S Q E → spec ws S Q E) : FnG P w K mg base k f fd ps (spI K n spec') :=
  G.imp fun q => spI.imp h q
section
variable {P : Program} {w : World} {K : PySem.W.Frag} {mg : Str → Option Value} {base : Heap} {x qual : Str} {params : Arguments} {body : List Stmt} {scope : Scope} {f : Addr} {fd : FuncData}
theorem fn_run {N ps : List Str} {k : Nat} {sp : Sp} (Fd : FunD K x qual params body scope [] [] f fd) (Sc : FnScope N ps scope) (len : ∀ {vs H Q E}, sp vs H Q E → vs.length = ps.length)
    (hbody : ∀ (cdv : Value) (A : Around) (outer : List Env) (s : Shared) (H : Hp) (vs : List V) (Q : VK) (E : XK), Room k (A.deeper (envOfC qual scope s.heap.objs.size f cdv)) → A.guards = some [] → sp vs H Q E →
      ∃ t, PSs (cxOf (L2.CX P w) P w K mg base N qual scope f cdv A outer s H E) body t ∧ t { nx := fun _ H' => Q .non H', rt := Q } (L2.start N vs) H) : FnG P w K mg base (k + 1) f fd ps sp := by
  obtain ⟨oc, od, dV, kV, doc, pm, an, cdv, ct, osl, rfl, lk, hcd, _, _⟩ := Fd.ex
  refine ⟨len, fun {A outer s H args us vs Q E} room gu e0 bd rel hq => ?_⟩
  have hv := len hq
  have kin : K.In s.heap := e0.mod.kin.keeps fun b o e => (e0.bs b o e).1
  have noLim : s.heap.NoLimit := e0.mod.nolimit.keeps fun b o e => (e0.bs b o e).1
  have kinds : ∀ y ∈ ps.zip us, scope.names.lookup y.1 = some .local ∨
      (scope.names.lookup y.1 = some .cell ∧ ((cellsFrom (s.heap.objs.size + 1) scope.names []).lookup y.1).isSome = true) := fun y hy => by
    rcases Sc.par y.1 (List.of_mem_zip hy).1 with q | q
    · exact .inl q
    · exact .inr ⟨q, PySem.W.cellsFrom_some _ _ _ (.inl q)⟩
  refine codeAny_call_function room.depth (kin _ _ lk) rfl Sc.co Sc.gen rfl (PySem.W.codeRec_of kin hcd) (bd _ _ _ _ ?_)
  refine wpAny_newFunctionEnv_cells Sc.kind kinds fun env he s1 z => ?_
  subst he
  refine ⟨noLim.keeps z.toInCall.keep, codeAny_func ?_⟩
  obtain ⟨t, ht, hq2⟩ := hbody cdv A outer s H vs Q E (room.deeper _) gu hq
  have I := inv_start (CX := L2.CX P w) (E := E) Sc room.hd e0 hv rel z
  refine wpAny_mono (ht.run [] s1 _ H _ I hq2) (fun fl s' hs => ?_) fun _ _ h => h
  have fin : ∀ {σ' : L2.St} {H' : Hp} {v : V} {u : Value}, Inv (cxOf (L2.CX P w) P w K mg base N qual scope f cdv A outer s H E) [] σ' H' s' →
      RelV v u → Q v H' → CE outer P w H s Q u s' := fun {σ' H' v u} J rv q => ⟨v, H', J.os, J.bare, J.base, J.hok, rv, q⟩
  cases fl with
  | ret u => obtain ⟨v, σ', H', J, rv, q⟩ := hs; exact fin J rv q
  | next => obtain ⟨σ', H', J, q⟩ := hs; exact fin (v := V.non) (u := Value.none) J rfl q
  | brk => obtain ⟨_, _, _, q⟩ := hs; exact q.elim
  | cont => obtain ⟨_, _, _, q⟩ := hs; exact q.elim
/-- THE RULE for a def -/
theorem fnI {N ps : List Str} {k : Nat} {ib : IS} (Fd : FunD K x qual params body scope [] [] f fd) (Sc : FnScope N ps scope)
    (hb : ∀ (cdv : Value) (A : Around) (outer : List Env) (s : Shared) (H : Hp) (E : XK), Room k (A.deeper (envOfC qual scope s.heap.objs.size f cdv)) → A.guards = some [] → ∀ (F : Addr → Prop) (Wx : WX), Takes (cxOf (L2.CX P w) P w K mg base N qual scope f cdv A outer s H E) Wx →
      PSs (cxOf (L2.CX P w) P w K mg base N qual scope f cdv A outer s H E) body (LS K F Wx ib)) : FnG P w K mg base (k + 1) f fd ps (spI K ps.length (bodyI N.length ib)) := by
  refine fn_run Fd Sc (fun h => h.len) fun cdv A outer s H vs Q E hr gu h => ?_
  obtain ⟨F, S, ws, QI, EI, l, r, e, hs, kr, kx⟩ := h
  refine ⟨_, hb cdv A outer s H E hr gu F (fun cls d _ H => E cls d H) (takes_of rfl rfl rfl rfl), ?_⟩
  have hlen : ws.length = vs.length := r.length
  have nOw : ∀ a, ¬ Ow (start0 N.length ws) (L2.start N vs) a := fun a ⟨i, o, e1, _⟩ => start_own e1
  have lv : ∀ a, Live F ⟨start0 N.length ws, S⟩ (L2.start N vs) a → Live F ⟨[], S⟩ [] a := fun a z => z.imp (fun z => z.elim .inl fun z => (nOw a z).elim) id
  have lk : Lk K F ⟨start0 N.length ws, S⟩ (L2.start N vs) H := by
    refine ⟨?_, fun i y q => ?_, fun i o q => (start_own q).elim, fun i j o o' a q => (start_own q).elim, fun a o q => (l.sto a o q).move (fun _ z => z) (mv_same lv), l.ftr, l.fdis⟩
    · simp [start0, L2.start, hlen]
    · have q2 : (ws.map Slot.val ++ List.replicate (N.length - ws.length) .none)[i]? = some (.val y) := q
      rw [hlen] at q2
      obtain ⟨v, e1, r1⟩ := start_rel r q2
      exact ⟨v, e1, r1.mono (mv_same lv)⟩
  have s0 : Step ⟨[], S⟩ [] H ⟨start0 N.length ws, S⟩ (L2.start N vs) H := ⟨fun _ _ e _ => e, fun a z => .inl (z.elim .inl fun z => (nOw a z).elim)⟩
  refine ⟨⟨start0 N.length ws, S⟩, _, _, lk, hs, ⟨fun x st' σ' cls d H' q l' s' r' => ?_, fun st' σ' H' q l' s' => ?_, fun _ _ _ q => q.elim, fun _ _ _ q => q.elim, fun r' S' v H' q h' => kr r' S' v H' q (h'.step s0)⟩⟩
  all_goals
    have nx : ∀ a, Live F ⟨[], st'.S⟩ [] a → Live F st' σ' a := fun a z => z.imp (fun z => z.elim .inl fun z => (ow_nil z).elim) id
    have l3 : Lk K F ⟨[], st'.S⟩ [] H' := ⟨rfl, fun i w e => by simp at e, fun i o e => by simp at e, fun i j o o' a e => by simp at e, fun a o e => (l'.sto a o e).move (fun _ q => q) (mv_same nx), l'.ftr, l'.fdis⟩
    have s3 : Step ⟨[], S⟩ [] H ⟨[], st'.S⟩ [] H' := (s0.trans s').trans ⟨fun _ _ e _ => e, fun a z => .inl (z.elim .inl fun z => (ow_nil z).elim)⟩
  · refine kx x st'.S cls d H' q l3 s3 ?_
    obtain ⟨e1, z⟩ := r'
    refine ⟨e1, z.imp id ?_⟩
    rintro ⟨a, vs', e2, e3, e4, e5⟩
    exact ⟨a, vs', e2, e3, fun z => e4 (nx a z), e5.mono (mv_same nx)⟩
  · exact kr (.val .non) st'.S .non H' q ⟨s3, l3, .non⟩
end
end Sh
namespace Sh
open PySem L2
open PyProof.Rows hiding St
theorem pe_imp {X : Cx} {e : Expr} {t t' : TE} (h : PE X e t) (m : ∀ σ H Q, t' σ H Q → t σ H Q) : PE X e t' := ⟨fun pins s σ H Q I q => h.run pins s σ H Q I (m _ _ _ q)⟩
theorem pt_imp {X : Cx} {e : Expr} {t t' : TT} (h : PT X e t) (m : ∀ σ H Q, t' σ H Q → t σ H Q) : PT X e t' := ⟨fun pins s σ H Q I q => h.run pins s σ H Q I (m _ _ _ q)⟩
theorem pw_imp {X : Cx} {e : Expr} {t t' : TT} (h : PW X e t) (m : ∀ σ H Q, t' σ H Q → t σ H Q) : PW X e t' := ⟨fun wh pins s σ H Q I q => h.run wh pins s σ H Q I (m _ _ _ q)⟩
theorem pa_imp {X : Cx} {es : List Expr} {t t' : TA} (h : PA X es t) (m : ∀ σ H Q, t' σ H Q → t σ H Q) : PA X es t' := ⟨fun pos pins s σ H Q I q => h.run pos pins s σ H Q I (m _ _ _ q)⟩

section
variable {X : Cx} {F : Addr → Prop} {Wx : WX} {a b c e : Expr} {es : List Expr} {pos : Pos} {ia ib ic : IE}
def iVar (i : Nat) : IE := fun _ st Q => match st.ρ[i]? with
  | some (.val w) => Q w st
  | some (.own o) => Q o.fz (st.put i (.val o.fz))
  | _ => False
theorem i_var (i : Nat) {x : Str} (hN : X.N[i]? = some x := by rfl) (hv : Vis X.env.scope x := by first | exact Or.inl rfl | exact Or.inr (Or.inl rfl) | exact Or.inr (Or.inr rfl)) (hd : (x == ("__debug__" : Str)) = false := by decide)
    (hcd : (x == ("__classdict__" : Str)) = false := by decide) : PE X (.Name x pos) (LE X.K F Wx (iVar i)) := by
  refine pe_imp (pe_var hN hv hd hcd) fun σ H Q h => ?_
  obtain ⟨st, QI, EI, l, q, ux, k⟩ := h
  unfold iVar at q
  split at q
  · rename_i w e
    obtain ⟨v, ev, r⟩ := l.val i w e
    exact ⟨v, ev, k w st v H q l .refl r⟩
  · rename_i o e
    obtain ⟨v, ev, r, _⟩ := l.own i o e
    obtain ⟨l2, s2⟩ := l.freeze e
    refine ⟨.ref v, ev, k _ _ _ H q l2 s2 ?_⟩
    obtain ⟨u, eu, r2⟩ := l2.val i o.fz (by
      have hi : i < st.ρ.length := (List.getElem?_eq_some_iff.mp e).1
      exact set_get hi)
    rw [ev] at eu
    cases eu
    exact r2
  · exact q.elim
def iC (w : W) : IE := fun _ st Q => Q w st
theorem i_c {w : W} {v : V} (h : PE X e (tC v)) (r : ∀ Lv H, RelW X.K Lv H w v) : PE X e (LE X.K F Wx (iC w)) := by
  refine pe_imp h fun σ H Q q => ?_
  obtain ⟨st, QI, EI, l, q, ux, k⟩ := q
  exact k w st v H q l .refl (r _ _)
theorem i_int {i : Int} {j : Nat} : PE X (.Constant (.int i) j pos) (LE X.K F Wx (iC (.int i))) := i_c pe_int fun _ _ => .int i
theorem i_bl {b : Bool} {j : Nat} : PE X (.Constant (.bool b) j pos) (LE X.K F Wx (iC (.bl b))) := i_c pe_bl fun _ _ => .bl b
theorem i_non {j : Nat} : PE X (.Constant .none j pos) (LE X.K F Wx (iC .non)) := i_c pe_non fun _ _ => .non
theorem i_str {x : Str} {j : Nat} : PE X (.Constant (.str x) j pos) (LE X.K F Wx (iC (.str x))) := i_c pe_str fun _ _ => .str x

def iNil : IA := fun _ st Q => Q [] st
def iCons (i : IE) (r : IA) : IA := fun EI st Q => i EI st fun w st1 => r EI st1 fun ws st2 => Q (w :: ws) st2
theorem ia_nil : PA X [] (LA X.K F Wx 0 iNil) := by
  refine pa_imp pa_nil fun σ H Q h => ?_
  obtain ⟨st, QI, EI, l, q, ux, k⟩ := h
  exact k [] st [] H rfl q l .refl .nil
theorem ia_cons {n : Nat} {ir : IA} (ha : PE X e (LE X.K F Wx ia)) (hr : PA X es (LA X.K F Wx n ir)) (hs : starEach (e :: es) X.env = (false, eval e X.env) :: starEach es X.env := by rfl) : PA X (e :: es) (LA X.K F Wx (n + 1) (iCons ia ir)) := by
  refine pa_imp (pa_cons ha hr hs) fun σ H Q h => ?_
  obtain ⟨st, QI, EI, l, q, ux, k⟩ := h
  refine ⟨st, _, EI, l, q, ux, fun w st1 v H1 q1 l1 s1 r1 => ⟨st1, _, EI, l1, q1, ux.step s1, fun ws st2 vs H2 hn q2 l2 s2 r2 => ?_⟩⟩
  exact k (w :: ws) st2 (v :: vs) H2 (by simp [hn]) q2 l2 (s1.trans s2) (.cons (r1.mono s2.mv) r2)
def iTup (i : IA) : IE := fun EI st Q => i EI st fun ws st1 => Q (.tup ws) st1
theorem i_tup {n : Nat} {i : IA} {x1} (h : PA X es (LA X.K F Wx n i)) (hn : n ≤ sizeLine := by decide) : PE X (.Tuple es x1 pos) (LE X.K F Wx (iTup i)) := by
  refine pe_imp (pe_tup h) fun σ H Q h => ?_
  obtain ⟨st, QI, EI, l, q, ux, k⟩ := h
  refine ⟨st, _, EI, l, q, ux, fun ws st1 vs H1 e1 q1 l1 s1 r1 => ⟨by rw [← r1.length, e1]; exact hn, fun p hp => ?_⟩⟩
  have s2 : Step st1 σ H1 st1 σ (upd H1 p (.tup vs)) := Step.laid l1 hp
  exact k (.tup ws) st1 (.ref p) _ q1 (l1.laid hp) (s1.trans s2) (.tup (FzT.new l1 hp) (r1.mono s2.mv))
def iLst (i : IA) : IE := fun EI st Q => i EI st fun ws st1 => Q (.lst ws) st1
theorem i_lst {n : Nat} {i : IA} (h : PA X es (LA X.K F Wx n i)) (hn : n ≤ sizeLine := by decide) : PE X (.List es pos) (LE X.K F Wx (iLst i)) := by
  refine pe_imp (pe_lst h) fun σ H Q h => ?_
  obtain ⟨st, QI, EI, l, q, ux, k⟩ := h
  refine ⟨st, _, EI, l, q, ux, fun ws st1 vs H1 e1 q1 l1 s1 r1 => ⟨by rw [← r1.length, e1]; exact hn, fun p hp => ?_⟩⟩
  have s2 : Step st1 σ H1 st1 σ (upd H1 p (.lst vs)) := Step.laid l1 hp
  exact k (.lst ws) st1 (.ref p) _ q1 (l1.laid hp) (s1.trans s2) (.lst (FzL.new l1 hp) (r1.mono s2.mv))
/-- a new object is foreign to all that stands -/
theorem Lk.foreign {K : PySem.W.Frag} {st : Stt} {σ : L2.St} {H : Hp} (l : Lk K F st σ H) {p : Addr} {u : HO} (e : H p = none) : Lk K (FA F p) st σ (upd H p u) := by
  have m : Mv (Live F st σ) H (Live (FA F p) st σ) (upd H p u) := fun b z q n => ⟨(upd_ne (ne_of_none q e)).trans q, fun w => by
    rcases w with w | w | w
    · exact n (.inl w)
    · exact n (.inr w)
    · rw [w, e] at q; cases q⟩
  have k : ∀ b z, H b = some z → upd H p u b = some z := fun b z q => (upd_ne (ne_of_none q e)).trans q
  refine ⟨l.len, fun i w q => ?_, fun i o q => ?_, l.inj, fun b o q => (l.sto b o q).move (k b) m, fun b q => ?_, fun b q => ?_⟩
  · obtain ⟨v, e1, r⟩ := l.val i w q
    exact ⟨v, e1, r.mono m⟩
  · obtain ⟨b, e1, r, n1, n2⟩ := l.own i o q
    refine ⟨b, e1, r.move (k b) m, n1, fun z => ?_⟩
    rcases z with z | z
    · exact n2 z
    · obtain ⟨u', q'⟩ := r.at
      rw [z, e] at q'
      cases q'
  · rcases q with q | q
    · obtain ⟨z, q'⟩ := l.ftr b q
      exact ⟨z, k b z q'⟩
    · exact ⟨u, by rw [q]; exact upd_same⟩
  · rcases q with q | q
    · exact l.fdis b q
    · rw [q]
      cases z : st.S p with
      | none => rfl
      | some o =>
        obtain ⟨u', q'⟩ := (l.sto p o z).at
        rw [e] at q'
        cases q'
theorem mv_foreign {K : PySem.W.Frag} {st : Stt} {σ : L2.St} {H : Hp} (l : Lk K F st σ H) {p : Addr} {u : HO} (e : H p = none) : Mv (Live F st σ) H (Live (FA F p) st σ) (upd H p u) := fun b z q n => ⟨(upd_ne (ne_of_none q e)).trans q, fun w => by
    rcases w with w | w | w
    · exact n (.inl w)
    · exact n (.inr w)
    · rw [w, e] at q; cases q⟩
def nLst (i : IA) : IN := fun EI st Q => i EI st fun ws st1 => Q (.lst ws) st1
theorem n_lst {n : Nat} {i : IA} (h : PA X es (LA X.K F Wx n i)) (hn : n ≤ sizeLine := by decide) : PE X (.List es pos) (LN X.K F Wx (nLst i)) := by
  refine pe_imp (pe_lst h) fun σ H Q h => ?_
  obtain ⟨st, QI, EI, l, q, ux, k⟩ := h
  refine ⟨st, _, EI, l, q, ux, fun ws st1 vs H1 e1 q1 l1 s1 r1 => ⟨by rw [← r1.length, e1]; exact hn, fun p hp => ?_⟩⟩
  have s2 : Step st1 σ H1 st1 σ (upd H1 p (.lst vs)) := Step.laid l1 hp
  exact k (.lst ws) st1 p _ q1 (l1.foreign hp) (s1.trans s2) ⟨vs, upd_same, r1.mono (mv_foreign l1 hp)⟩ (NewAt.step s1 (.inr hp))
/-- a new object as a value -/
def iFz (n : IN) : IE := fun EI st Q => n EI st fun o st1 => Q o.fz st1
theorem i_fz {n : IN} (h : PE X e (LN X.K F Wx n)) : PE X e (LE X.K F Wx (iFz n)) := by
  refine pe_imp h fun σ H Q h => ?_
  obtain ⟨st, QI, EI, l, q, ux, k⟩ := h
  refine ⟨st, _, EI, l, q, ux, fun o st1 a H1 q1 l1 s1 r1 n1 => ?_⟩
  have l2 : Lk X.K F st1 σ H1 := l1.less fun _ z => .inl z
  have m : Mv (Live (FA F a) st1 σ) H1 (Live F st1 σ) H1 := mv_same fun b z => z.imp id .inl
  have na : ¬ Live F st1 σ a := fun z => by
    rcases z with (z | ⟨i, o', e1, e2⟩) | z
    · exact z (l1.fdis a (.inr rfl))
    · obtain ⟨b, e3, _, _, n3⟩ := l1.own i o' e1
      rw [e2] at e3
      cases e3
      exact n3 (.inr rfl)
    · exact NewAt.nf l n1 z
  exact k o.fz st1 (.ref a) H1 q1 l2 s1 ((r1.move (fun _ z => z) m).fz na)

/-- what an operator of two values gives: the state stays -/
def OpG (K : PySem.W.Frag) (r : R2) (g : W → W → (W → Prop) → Prop) : Prop :=
  ∀ {F : Addr → Prop} {st : Stt} {σ : L2.St} {H : Hp} {x y : W} {v u : V} {P : W → Prop} {Q : VK}, g x y P → Lk K F st σ H → RelW K (Live F st σ) H x v → RelW K (Live F st σ) H y u →
    (∀ w z H', P w → Lk K F st σ H' → Step st σ H st σ H' → RelW K (Live F st σ) H' w z → Q z H') → r v u H Q
def iB (g : W → W → (W → Prop) → Prop) (ia ib : IE) : IE := fun EI st Q => ia EI st fun x st1 => ib EI st1 fun y st2 => g x y fun w => Q w st2
theorem LE_op {K : PySem.W.Frag} {r : R2} {g : W → W → (W → Prop) → Prop} (hg : OpG K r g) {σ : L2.St} {H : Hp} {Q : VK} (h : LE K F Wx (iB g ia ib) σ H Q) : tOp r (LE K F Wx ia) (LE K F Wx ib) σ H Q := by
  obtain ⟨st, QI, EI, l, q, ux, k⟩ := h
  refine ⟨st, _, EI, l, q, ux, fun x st1 v H1 q1 l1 s1 r1 => ⟨st1, _, EI, l1, q1, ux.step s1, fun y st2 u H2 q2 l2 s2 r2 => ?_⟩⟩
  exact hg q2 l2 (r1.mono s2.mv) r2 fun w z H3 p l3 s3 r3 => k w st2 z H3 p l3 ((s1.trans s2).trans s3) r3
theorem i_op {op : Operator} {r : R2} {g : W → W → (W → Prop) → Prop} (ho : OpR X (binaryOp op) r) (hg : OpG X.K r g) (ha : PE X a (LE X.K F Wx ia)) (hb : PE X b (LE X.K F Wx ib)) : PE X (.BinOp a op b pos) (LE X.K F Wx (iB g ia ib)) :=
  pe_imp (pe_op ho ha hb) fun _ _ _ h => LE_op hg h
theorem i_cmp {op : CmpOp} {r : R2} {g : W → W → (W → Prop) → Prop} (ho : OpR X (compareOp op) r) (hg : OpG X.K r g) (ha : PE X a (LE X.K F Wx ia)) (hb : PE X b (LE X.K F Wx ib)) (hm : behindInMarks op b = false) : PE X (.Compare a [op] [b] pos) (LE X.K F Wx (iB g ia ib)) :=
  pe_imp (pe_cmpR ho ha hb hm) fun _ _ _ h => LE_op hg h
theorem OpG.or {K : PySem.W.Frag} {r r' : R2} {g : W → W → (W → Prop) → Prop} (h : OpG K (fun x y H Q => r x y H Q ∨ r' x y H Q) g) : OpG K (fun x y H Q => r x y H Q ∨ r' x y H Q) g := h

def gI (f : Int → Int → W) : W → W → (W → Prop) → Prop := fun x y P => match x, y with
  | .int i, .int j => P (f i j)
  | _, _ => False
def gIC (C : Int → Int → Prop) (f : Int → Int → W) : W → W → (W → Prop) → Prop := fun x y P => match x, y with
  | .int i, .int j => C i j ∧ P (f i j)
  | _, _ => False
theorem gI_inv {f : Int → Int → W} {x y : W} {P : W → Prop} (h : gI f x y P) : ∃ i j, x = .int i ∧ y = .int j ∧ P (f i j) := by
  unfold gI at h
  split at h
  · exact ⟨_, _, rfl, rfl, h⟩
  · exact h.elim
theorem gIC_inv {C : Int → Int → Prop} {f : Int → Int → W} {x y : W} {P : W → Prop} (h : gIC C f x y P) : ∃ i j, x = .int i ∧ y = .int j ∧ C i j ∧ P (f i j) := by
  unfold gIC at h
  split at h
  · exact ⟨_, _, rfl, rfl, h⟩
  · exact h.elim
theorem opG_I {K : PySem.W.Frag} {f : Int → Int → W} {fv : Int → Int → V} (hf : ∀ i j Lv H, RelW K Lv H (f i j) (fv i j)) : OpG K (rI0 fv) (gI f) := by
  intro F st σ H x y v u P Q h l rx ry k
  obtain ⟨i, j, rfl, rfl, p⟩ := gI_inv h
  cases rx
  cases ry
  exact ⟨i, j, rfl, rfl, k _ _ H p l .refl (hf _ _ _ _)⟩
theorem opG_IC {K : PySem.W.Frag} {C : Int → Int → Prop} {f : Int → Int → W} {fv : Int → Int → V} (hf : ∀ i j Lv H, RelW K Lv H (f i j) (fv i j)) : OpG K (rI C fv) (gIC C f) := by
  intro F st σ H x y v u P Q h l rx ry k
  obtain ⟨i, j, rfl, rfl, c, p⟩ := gIC_inv h
  cases rx
  cases ry
  exact ⟨i, j, rfl, rfl, c, k _ _ H p l .refl (hf _ _ _ _)⟩
end
end Sh
namespace Sh
open PySem L2
open PyProof.Rows hiding St

def okD : Nat → W → Bool
  | _, .non => true
  | _, .bl _ => true
  | _, .int _ => true
  | _, .str x => PyData.strOk x
  | n + 1, .tup ws => ws.all (okD n)
  | n + 1, .lst ws => ws.all (okD n)
  | _, _ => false
mutual
def eqW : W → W → Bool
  | .non, .non => true
  | .bl a, .bl b => a == b
  | .bl a, .int j => (if a then 1 else 0) == j
  | .int i, .bl b => i == (if b then 1 else 0)
  | .int i, .int j => i == j
  | .str x, .str y => x == y
  | .lst xs, .lst ys => eqWs xs ys
  | .tup xs, .tup ys => eqWs xs ys
  | _, _ => false
def eqWs : List W → List W → Bool
  | [], [] => true
  | x :: xs, y :: ys => eqW x y && eqWs xs ys
  | _, _ => false
end
mutual
def toD : W → PyData
  | .bl b => .bool b
  | .int i => .int i
  | .str x => .str x
  | .tup ws => .tuple (toDs ws)
  | .lst ws => .list (toDs ws)
  | _ => .none
def toDs : List W → List PyData
  | [] => []
  | w :: ws => toD w :: toDs ws
end
section
variable {K : PySem.W.Frag} {Lv : Addr → Prop} {H : Hp}
mutual
theorem dp_of : ∀ {n : Nat} (w : W) {v : V}, okD n w = true → RelW K Lv H w v → Dp K H v (toD w)
  | _, .non, _, _, .non => .non
  | _, .bl b, _, _, .bl _ => .bl b
  | _, .int i, _, _, .int _ => .int i
  | _, .str x, _, _, .str _ => .str x
  | n + 1, .tup ws, _, h, .tup f r => .tup f.sq (dps_of ws (show ws.all (okD n) = true from h) r)
  | n + 1, .lst ws, _, h, .lst f r => .lst f.sq (dps_of ws (show ws.all (okD n) = true from h) r)
  | 0, .tup ws, _, h, _ => by simp [okD] at h
  | 0, .lst ws, _, h, _ => by simp [okD] at h
  | n, .dct _, _, h, _ => by cases n <;> simp [okD] at h
  | n, .obj _ _, _, h, _ => by cases n <;> simp [okD] at h
  | n, .dcT _, _, h, _ => by cases n <;> simp [okD] at h
  | n, .exn _ _ _ _, _, h, _ => by cases n <;> simp [okD] at h
  | n, .ref _, _, h, _ => by cases n <;> simp [okD] at h
  | n, .ty _, _, h, _ => by cases n <;> simp [okD] at h
  | n, .scr _, _, h, _ => by cases n <;> simp [okD] at h
  | n, .glo _, _, h, _ => by cases n <;> simp [okD] at h
theorem dps_of : ∀ {n : Nat} (ws : List W) {vs : List V}, ws.all (okD n) = true → RelWs K Lv H ws vs → DpAll K H vs (toDs ws)
  | _, [], _, _, .nil => .nil
  | n, w :: ws, _, h, .cons a r => by
    rw [List.all_cons, Bool.and_eq_true] at h
    exact .cons (dp_of w h.1 a) (dps_of ws h.2 r)
end
mutual
theorem lay_of : ∀ {n : Nat} (w : W), okD n w = true → (toD w).canLay0 = true ∧ (toD w).depth ≤ n
  | _, .non, _ => ⟨rfl, Nat.zero_le _⟩
  | _, .bl b, _ => ⟨rfl, Nat.zero_le _⟩
  | _, .int i, _ => ⟨rfl, Nat.zero_le _⟩
  | n, .str x, h => ⟨by cases n <;> exact h, Nat.zero_le _⟩
  | n + 1, .tup ws, h => by
    obtain ⟨h1, h2⟩ := lays_of ws (show ws.all (okD n) = true from h)
    exact ⟨h1, by show PyData.depthAll (toDs ws) + 1 ≤ n + 1; omega⟩
  | n + 1, .lst ws, h => by
    obtain ⟨h1, h2⟩ := lays_of ws (show ws.all (okD n) = true from h)
    exact ⟨h1, by show PyData.depthAll (toDs ws) + 1 ≤ n + 1; omega⟩
  | 0, .tup ws, h => by simp [okD] at h
  | 0, .lst ws, h => by simp [okD] at h
  | n, .dct _, h => by cases n <;> simp [okD] at h
  | n, .obj _ _, h => by cases n <;> simp [okD] at h
  | n, .dcT _, h => by cases n <;> simp [okD] at h
  | n, .exn _ _ _ _, h => by cases n <;> simp [okD] at h
  | n, .ref _, h => by cases n <;> simp [okD] at h
  | n, .ty _, h => by cases n <;> simp [okD] at h
  | n, .scr _, h => by cases n <;> simp [okD] at h
  | n, .glo _, h => by cases n <;> simp [okD] at h
theorem lays_of : ∀ {n : Nat} (ws : List W), ws.all (okD n) = true → PyData.canLayAll0 (toDs ws) = true ∧ PyData.depthAll (toDs ws) ≤ n
  | _, [], _ => ⟨rfl, Nat.zero_le _⟩
  | n, w :: ws, h => by
    rw [List.all_cons, Bool.and_eq_true] at h
    obtain ⟨h1, h2⟩ := lay_of w h.1
    obtain ⟨h3, h4⟩ := lays_of ws h.2
    exact ⟨by show ((toD w).canLay0 && PyData.canLayAll0 (toDs ws)) = true; rw [h1, h3]; rfl, by show max _ _ ≤ n; omega⟩
end
theorem eqvs_of {n m : Nat} (ih : ∀ (x y : W), okD n x = true → okD m y = true → PyData.eqv (toD x) (toD y) = eqW x y) : ∀ (xs ys : List W), xs.all (okD n) = true → ys.all (okD m) = true → PyData.eqvAll (toDs xs) (toDs ys) = eqWs xs ys
  | [], [], _, _ => rfl
  | [], _ :: _, _, _ => rfl
  | _ :: _, [], _, _ => rfl
  | x :: xs, y :: ys, hx, hy => by
    rw [List.all_cons, Bool.and_eq_true] at hx hy
    show (PyData.eqv (toD x) (toD y) && PyData.eqvAll (toDs xs) (toDs ys)) = (eqW x y && eqWs xs ys)
    rw [ih x y hx.1 hy.1, eqvs_of ih xs ys hx.2 hy.2]
theorem eqv_of {n : Nat} : ∀ {m : Nat} (x y : W), okD n x = true → okD m y = true → PyData.eqv (toD x) (toD y) = eqW x y := by
  induction n with
  | zero =>
    intro m x y hx hy
    cases x <;> cases y <;> first
      | rfl
      | (exfalso; clear hy; simp [okD] at hx; done)
      | (exfalso; clear hx; cases m <;> simp [okD] at hy <;> done)
  | succ n ih =>
    intro m x y hx hy
    cases x <;> cases y <;> first
      | rfl
      | (exfalso; clear hy; simp [okD] at hx; done)
      | (exfalso; clear hx; cases m <;> simp [okD] at hy <;> done)
      | (cases m with
         | zero => simp [okD] at hy
         | succ m => exact eqvs_of (fun x y => ih x y) _ _ hx hy)
theorem shaped_of {w : W} (h : okD 64 w = true) : SeqAt.shaped (toD w) = true := by
  obtain ⟨h1, h2⟩ := lay_of w h
  unfold SeqAt.shaped
  rw [h1, decide_eq_true h2]
  rfl
end
end Sh
namespace Sh
open PySem L2
open PyProof.Rows hiding St
def lim : Int := 10 ^ 200
def Bd (i : Int) : Prop := -lim < i ∧ i < lim
theorem lim_lt : lim.natAbs < 2 ^ 700 := by decide +kernel
theorem Bd.abs {i : Int} (h : Bd i) : i.natAbs < 2 ^ 700 := by
  have h1 := lim_lt
  obtain ⟨h2, h3⟩ := h
  omega
theorem Bd.mul {i j : Int} (h : Bd i) (k : Bd j) : CMulW i j := wide_mul h.abs k.abs (by decide) (by decide) (by decide)
section
variable {K : PySem.W.Frag} {Lv : Addr → Prop} {H : Hp}
theorem RelWs.drop : ∀ {ws : List W} {vs : List V} (n : Nat), RelWs K Lv H ws vs → RelWs K Lv H (ws.drop n) (vs.drop n)
  | _, _, 0, r => r
  | _, _, _ + 1, .nil => .nil
  | _, _, n + 1, .cons _ r => RelWs.drop n r
theorem RelWs.take : ∀ {ws : List W} {vs : List V} (n : Nat), RelWs K Lv H ws vs → RelWs K Lv H (ws.take n) (vs.take n)
  | _, _, 0, _ => .nil
  | _, _, _ + 1, .nil => .nil
  | _, _, n + 1, .cons h r => .cons h (RelWs.take n r)
theorem RelWs.ints : ∀ (ns : List Int), RelWs K Lv H (ns.map W.int) (ns.map V.int)
  | [] => .nil
  | n :: ns => .cons (.int n) (RelWs.ints ns)
theorem RelWs.reverse {ws : List W} {vs : List V} (r : RelWs K Lv H ws vs) : RelWs K Lv H ws.reverse vs.reverse := by
  induction ws generalizing vs with
  | nil => cases r; exact .nil
  | cons w ws ih =>
    cases r with
    | cons h r =>
      rw [List.reverse_cons, List.reverse_cons]
      exact (ih r).append (.cons h .nil)
end
section
variable {X : Cx} {F : Addr → Prop} {Wx : WX} {a b c e : Expr} {es : List Expr} {pos : Pos} {ia ib ic : IE}
abbrev rAddStr : R2 := fun x y H Q => ∃ i j, x = .str i ∧ y = .str j ∧ i.length + j.length ≤ sizeLine ∧ Q (.str (i ++ j)) H
def rAdds (K : PySem.W.Frag) : R2 := fun x y H Q => rI0 (fun i j => .int (i + j)) x y H Q ∨ rAddStr x y H Q ∨ rCatA K x y H Q ∨ rCat x y H Q
theorem op_adds : OpR X (binaryOp .Add) (rAdds X.K) := op_add.or (op_add_str.or (op_catA.or op_cat))
def gAdd : W → W → (W → Prop) → Prop := fun x y P => match x, y with
  | .int i, .int j => P (.int (i + j))
  | .str i, .str j => i.length + j.length ≤ sizeLine ∧ P (.str (i ++ j))
  | .tup xs, .tup ys => xs.length + ys.length ≤ sizeLine ∧ P (.tup (xs ++ ys))
  | .lst xs, .lst ys => xs.length + ys.length ≤ sizeLine ∧ P (.lst (xs ++ ys))
  | _, _ => False
theorem opG_add {K : PySem.W.Frag} : OpG K (rAdds K) gAdd := by
  intro F st σ H x y v u P Q h l rx ry k
  unfold gAdd at h
  split at h
  · cases rx; cases ry
    exact .inl ⟨_, _, rfl, rfl, k _ _ H h l .refl (.int _)⟩
  · cases rx; cases ry
    exact .inr (.inl ⟨_, _, rfl, rfl, h.1, k _ _ H h.2 l .refl (.str _)⟩)
  · cases rx with
    | tup fx rsx =>
      cases ry with
      | tup fy rsy =>
        rename_i a vs b us
        refine .inr (.inr (.inl ⟨a, b, vs, us, rfl, rfl, fx.sq, fy.sq, by rw [← rsx.length, ← rsy.length]; exact h.1, fun e => ?_, fun e1 e2 => ?_, fun _ _ p hp => ?_⟩))
        · subst e
          cases rsx
          exact k _ _ H h.2 l .refl (.tup fy rsy)
        · subst e2
          cases rsy
          exact k _ _ H h.2 l .refl (.tup fx (by rw [List.append_nil]; exact rsx))
        · have s := Step.laid (o := .tup (vs ++ us)) l hp
          exact k _ _ _ h.2 (l.laid hp) s (.tup (FzT.new l hp) ((rsx.append rsy).mono s.mv))
  · cases rx with
    | lst fx rsx =>
      cases ry with
      | lst fy rsy =>
        rename_i a vs b us
        refine .inr (.inr (.inr ⟨a, b, vs, us, rfl, rfl, fx.1, fy.1, by rw [← rsx.length, ← rsy.length]; exact h.1, fun p hp => ?_⟩))
        have s := Step.laid (o := .lst (vs ++ us)) l hp
        exact k _ _ _ h.2 (l.laid hp) s (.lst (FzL.new l hp) ((rsx.append rsy).mono s.mv))
  · exact h.elim
theorem i_add (ha : PE X a (LE X.K F Wx ia)) (hb : PE X b (LE X.K F Wx ib)) : PE X (.BinOp a .Add b pos) (LE X.K F Wx (iB gAdd ia ib)) := i_op op_adds opG_add ha hb
abbrev gSub := gI fun i j => .int (i - j)
theorem i_sub (ha : PE X a (LE X.K F Wx ia)) (hb : PE X b (LE X.K F Wx ib)) : PE X (.BinOp a .Sub b pos) (LE X.K F Wx (iB gSub ia ib)) := i_op op_sub (opG_I fun _ _ _ _ => .int _) ha hb
def MulOk (i j : Int) : Prop := (Bd i ∧ Bd j) ∨ (-(2 ^ 64) < i ∧ i < 2 ^ 64) ∨ (-(2 ^ 64) < j ∧ j < 2 ^ 64)
theorem MulOk.ok {i j : Int} (h : MulOk i j) : IntMulOk i j := by
  rcases h with h | h
  · exact (h.1.mul h.2).ok
  · exact CMul.ok h
def timesS (x : Str) (n : Nat) : Str := ⟨(List.replicate n x.cps).foldl (· ++ ·) #[]⟩
theorem times_size (xs : Array Nat) : ∀ (n : Nat) (acc : Array Nat), ((List.replicate n xs).foldl (· ++ ·) acc).size = acc.size + xs.size * n
  | 0, acc => by simp
  | n + 1, acc => by
    rw [List.replicate_succ, List.foldl_cons, times_size xs n, Array.size_append, Nat.mul_succ]
    omega
theorem timesS_len (x : Str) (n : Nat) : (timesS x n).length = x.length * n := by
  show (Array.size _) = x.cps.size * n
  unfold timesS
  rw [times_size]
  simp
abbrev rMulS : R2 := fun x y H Q => ∃ (i : Str) (n : Int), x = .str i ∧ y = .int n ∧ 2 ≤ n ∧ n ≤ 1000000 ∧ i.length ≠ 0 ∧ i.length * n.toNat ≤ sizeLine ∧ Q (.str (timesS i n.toNat)) H
theorem op_mul_str : OpR X (binaryOp .Mult) rMulS := by
  intro pins s σ H x y v u Q I rx ry h
  obtain ⟨i, n, rfl, rfl, h1, h2, h3, hz, q⟩ := h
  obtain ⟨t, rfl⟩ := rx
  obtain ⟨t', rfl⟩ := ry
  have e1 : ¬ n < 1 := by omega
  have e2 : (n == 1 || i.length == 0) = false := by
    have a : (n == 1) = false := by simp; omega
    have b : (i.length == 0) = false := by simp [h3]
    rw [a, b]; rfl
  refine PySem.P.mul_str ?_ (fun _ _ => ?_) (fun _ _ => ?_) ?_
  · have a : ¬ n < -(2 ^ 63 : Int) := by omega
    have b : ¬ n ≥ 2 ^ 63 := by omega
    rw [decide_eq_false a, decide_eq_false b]; rfl
  · have hs : (i.length : Int) * n ≤ sizeLine := by
      have e : ((i.length * n.toNat : Nat) : Int) = (i.length : Int) * n := by
        rw [Int.natCast_mul, Int.toNat_of_nonneg (by omega)]
      rw [← e]; exact_mod_cast hz
    have z : (sizeLine : Int) ≤ 2 ^ 63 - 1 := by decide
    intro w
    have w2 : (2 ^ 63 - 1) < (i.length : Int) * n := (Int.ediv_lt_iff_lt_mul (by omega)).mp w
    omega
  · exact (by unfold PySem.Builtin.Str.tooLong; exact decide_eq_false (Nat.not_lt.mpr hz))
  · rw [if_neg e1, e2, if_neg Bool.false_ne_true]
    refine ⟨?_, ⟨.str _, H, I.tok _, ⟨_, rfl⟩, q⟩⟩
    have e : (timesS i n.toNat).length = i.length * n.toNat := timesS_len i n.toNat
    exact Nat.le_trans (Nat.le_of_eq e) hz
def rMuls : R2 := fun x y H Q => rI MulOk (fun i j => .int (i * j)) x y H Q ∨ rMulS x y H Q ∨ rRep x y H Q
theorem op_mulI : OpR X (binaryOp .Mult) (rI MulOk fun i j => .int (i * j)) := opI fun _ _ _ _ _ _ _ hc q => mul_int q hc.ok
theorem op_muls : OpR X (binaryOp .Mult) rMuls := op_mulI.or (op_mul_str.or op_rep)
def gMul : W → W → (W → Prop) → Prop := fun x y P => match x, y with
  | .int i, .int j => MulOk i j ∧ P (.int (i * j))
  | .str i, .int n => 2 ≤ n ∧ n ≤ 1000000 ∧ i.length ≠ 0 ∧ i.length * n.toNat ≤ sizeLine ∧ P (.str (timesS i n.toNat))
  | .lst ws, .int k => -(2 ^ 63) ≤ k ∧ k < 2 ^ 63 ∧ ws.length * k.toNat ≤ sizeLine ∧ P (.lst (List.replicate k.toNat ws).flatten)
  | _, _ => False
theorem RelWs.times {K : PySem.W.Frag} {Lv : Addr → Prop} {H : Hp} {ws : List W} {vs : List V} (r : RelWs K Lv H ws vs) : ∀ n : Nat, RelWs K Lv H (List.replicate n ws).flatten (List.replicate n vs).flatten
  | 0 => .nil
  | n + 1 => by
    rw [List.replicate_succ, List.replicate_succ, List.flatten_cons, List.flatten_cons]
    exact r.append (RelWs.times r n)
theorem opG_mul {K : PySem.W.Frag} : OpG K rMuls gMul := by
  intro F st σ H x y v u P Q h l rx ry k
  unfold gMul at h
  split at h
  · cases rx; cases ry
    exact .inl ⟨_, _, rfl, rfl, h.1, k _ _ H h.2 l .refl (.int _)⟩
  · cases rx; cases ry
    obtain ⟨h1, h2, h3, h4, p⟩ := h
    exact .inr (.inl ⟨_, _, rfl, rfl, h1, h2, h3, h4, k _ _ H p l .refl (.str _)⟩)
  · cases rx with
    | lst f rs =>
      cases ry
      obtain ⟨h1, h2, h3, p⟩ := h
      refine .inr (.inr ⟨_, _, _, rfl, rfl, f.1, h1, h2, by rw [← rs.length]; exact h3, fun q hq => ?_⟩)
      exact k _ _ _ p (l.laid hq) (Step.laid l hq) (.lst (FzL.new l hq) ((rs.times _).mono (Step.laid l hq).mv))
  · exact h.elim
theorem OpR.cond {f : Value → Value → Sem Value} {C C' : Int → Int → Prop} {g : Int → Int → V} (h : OpR X f (rI C g)) (hc : ∀ i j, C' i j → C i j) : OpR X f (rI C' g) := by
  intro pins s σ H x y v u Q I rx ry q
  obtain ⟨i, j, e1, e2, c, q⟩ := q
  exact h pins s σ H x y v u Q I rx ry ⟨i, j, e1, e2, hc _ _ c, q⟩
theorem i_mul (ha : PE X a (LE X.K F Wx ia)) (hb : PE X b (LE X.K F Wx ib)) : PE X (.BinOp a .Mult b pos) (LE X.K F Wx (iB gMul ia ib)) := i_op op_muls opG_mul ha hb
abbrev gDiv := gIC (fun _ j => 0 < j ∧ Bd j) fun i j => .int (i / j)
theorem i_div (ha : PE X a (LE X.K F Wx ia)) (hb : PE X b (LE X.K F Wx ib)) : PE X (.BinOp a .FloorDiv b pos) (LE X.K F Wx (iB gDiv ia ib)) :=
  i_op (OpR.cond op_fdivW fun _ _ h => wide_div h.1 h.2.abs (by decide) (by decide)) (opG_IC fun _ _ _ _ => .int _) ha hb
abbrev gMod := gIC (fun _ j => 0 < j) fun i j => .int (i % j)
theorem i_mod (ha : PE X a (LE X.K F Wx ia)) (hb : PE X b (LE X.K F Wx ib)) : PE X (.BinOp a .Mod b pos) (LE X.K F Wx (iB gMod ia ib)) := i_op op_mod (opG_IC fun _ _ _ _ => .int _) ha hb
abbrev gPow := gIC CPow fun i j => .int (i ^ j.toNat)
theorem i_pow (ha : PE X a (LE X.K F Wx ia)) (hb : PE X b (LE X.K F Wx ib)) : PE X (.BinOp a .Pow b pos) (LE X.K F Wx (iB gPow ia ib)) := i_op op_pow (opG_IC fun _ _ _ _ => .int _) ha hb
def iNeg (ia : IE) : IE := fun EI st Q => ia EI st fun x st1 => match x with
  | .int i => Q (.int (-i)) st1
  | _ => False
theorem i_neg (ha : PE X a (LE X.K F Wx ia)) : PE X (.UnaryOp .USub a pos) (LE X.K F Wx (iNeg ia)) := by
  refine pe_imp (pe_un un_neg ha) fun σ H Q h => ?_
  obtain ⟨st, QI, EI, l, q, ux, k⟩ := h
  refine ⟨st, _, EI, l, q, ux, fun x st1 v H1 q1 l1 s1 r1 => ?_⟩
  split at q1
  · cases r1
    exact ⟨_, rfl, k _ _ _ H1 q1 l1 s1 (.int _)⟩
  · exact q1.elim

abbrev gLt := gI fun i j => .bl (decide (i < j))
abbrev gLe := gI fun i j => .bl (decide (i ≤ j))
abbrev gGt := gI fun i j => .bl (decide (j < i))
abbrev gGe := gI fun i j => .bl (decide (j ≤ i))
theorem og_lt {K : PySem.W.Frag} : OpG K (rI0 fun i j => .bl (decide (i < j))) gLt := opG_I fun _ _ _ _ => .bl _
theorem og_le {K : PySem.W.Frag} : OpG K (rI0 fun i j => .bl (decide (i ≤ j))) gLe := opG_I fun _ _ _ _ => .bl _
theorem og_gt {K : PySem.W.Frag} : OpG K (rI0 fun i j => .bl (decide (j < i))) gGt := opG_I fun _ _ _ _ => .bl _
theorem og_ge {K : PySem.W.Frag} : OpG K (rI0 fun i j => .bl (decide (j ≤ i))) gGe := opG_I fun _ _ _ _ => .bl _
/-- what == takes -/
def eqOk : W → W → Bool
  | .str _, .str _ => true
  | x, y => okD 64 x && okD 64 y
def gEq : W → W → (W → Prop) → Prop := fun x y P => eqOk x y = true ∧ P (.bl (eqW x y))
def gNe : W → W → (W → Prop) → Prop := fun x y P => eqOk x y = true ∧ P (.bl (!eqW x y))
def rEqS (K : PySem.W.Frag) : R2 := fun x y H Q => rEq x y H Q ∨ rEqD K x y H Q
def rNeS (K : PySem.W.Frag) : R2 := fun x y H Q => rNe x y H Q ∨ rNeD K x y H Q
theorem op_eqS (hu : X.A.units + 64 < cLine) : OpR X (compareOp .Eq) (rEqS X.K) := op_eq.or (op_eqD hu)
theorem op_neS (hu : X.A.units + 64 < cLine) : OpR X (compareOp .NotEq) (rNeS X.K) := op_ne.or (op_neD hu)
theorem eqOk_cases {x y : W} (h : eqOk x y = true) : (∃ a b, x = .str a ∧ y = .str b) ∨ okD 64 x = true ∧ okD 64 y = true := by
  unfold eqOk at h
  split at h
  · exact .inl ⟨_, _, rfl, rfl⟩
  · exact .inr (Bool.and_eq_true .. ▸ h)
theorem og_eq {K : PySem.W.Frag} : OpG K (rEqS K) gEq := by
  intro F st σ H x y v u P Q h l rx ry k
  obtain ⟨hx, p⟩ := h
  rcases eqOk_cases hx with ⟨a, b, rfl, rfl⟩ | ⟨hx, hy⟩
  · cases rx; cases ry
    refine .inl ⟨rfl, ?_⟩
    rw [dec_str]
    exact k _ _ H p l .refl (.bl _)
  · refine .inr ⟨_, _, dp_of x hx rx, dp_of y hy ry, shaped_of hx, shaped_of hy, ?_⟩
    rw [eqv_of x y hx hy]
    exact k _ _ H p l .refl (.bl _)
theorem og_ne {K : PySem.W.Frag} : OpG K (rNeS K) gNe := by
  intro F st σ H x y v u P Q h l rx ry k
  obtain ⟨hx, p⟩ := h
  rcases eqOk_cases hx with ⟨a, b, rfl, rfl⟩ | ⟨hx, hy⟩
  · cases rx; cases ry
    refine .inl ⟨rfl, ?_⟩
    rw [dec_str]
    exact k _ _ H p l .refl (.bl _)
  · refine .inr ⟨_, _, dp_of x hx rx, dp_of y hy ry, shaped_of hx, shaped_of hy, ?_⟩
    rw [eqv_of x y hx hy]
    exact k _ _ H p l .refl (.bl _)
/-- flat values -/
def flatW : W → Bool
  | .non => true
  | .bl _ => true
  | .int _ => true
  | .str _ => true
  | _ => false
theorem flat_rel {K : PySem.W.Frag} {Lv : Addr → Prop} {H : Hp} {w : W} {v : V} (f : flatW w = true) (r : RelW K Lv H w v) : flatV v = true := by
  cases r <;> first | rfl | cases f
theorem eqV_rel {K : PySem.W.Frag} {Lv : Addr → Prop} {H : Hp} {w y : W} {v u : V} (f : flatW w = true) (g : flatW y = true) (r : RelW K Lv H w v) (q : RelW K Lv H y u) : eqV v u = eqW w y := by
  cases r <;> cases q <;> first | rfl | cases f | cases g
theorem flats_rel {K : PySem.W.Frag} {Lv : Addr → Prop} {H : Hp} : ∀ {ws : List W} {vs : List V}, ws.all flatW = true → RelWs K Lv H ws vs → vs.all flatV = true
  | _, _, _, .nil => rfl
  | _, _, f, .cons h r => by
    rw [List.all_cons, Bool.and_eq_true] at f
    rw [List.all_cons, flat_rel f.1 h, flats_rel f.2 r]
    rfl
theorem inV_rel {K : PySem.W.Frag} {Lv : Addr → Prop} {H : Hp} {x : W} {v : V} (fx : flatW x = true) (rx : RelW K Lv H x v) : ∀ {ws : List W} {vs : List V}, ws.all flatW = true → RelWs K Lv H ws vs → inV v vs = ws.any fun y => eqW y x
  | _, _, _, .nil => rfl
  | _, _, f, .cons h r => by
    rw [List.all_cons, Bool.and_eq_true] at f
    show (eqV _ v || inV v _) = _
    rw [eqV_rel f.1 fx h rx, inV_rel fx rx f.2 r]
    rfl
def inW (x : W) (ws : List W) : Bool := ws.any fun y => eqW y x
def gIn (neg : Bool) : W → W → (W → Prop) → Prop := fun x y P => match y with
  | .lst ws => flatW x = true ∧ ws.all flatW = true ∧ P (.bl (if neg then !inW x ws else inW x ws))
  | .tup ws => flatW x = true ∧ ws.all flatW = true ∧ P (.bl (if neg then !inW x ws else inW x ws))
  | _ => False
theorem og_in {K : PySem.W.Frag} {neg : Bool} : OpG K (rIn K neg) (gIn neg) := by
  intro F st σ H x y v u P Q h l rx ry k
  unfold gIn at h
  split at h
  · obtain ⟨f1, f2, p⟩ := h
    cases ry with
    | lst fy rsy =>
      refine ⟨_, _, rfl, .inl fy.sq, flat_rel f1 rx, flats_rel f2 rsy, ?_⟩
      rw [inV_rel f1 rx f2 rsy]
      exact k _ _ H p l .refl (.bl _)
  · obtain ⟨f1, f2, p⟩ := h
    cases ry with
    | tup fy rsy =>
      refine ⟨_, _, rfl, .inr fy.sq, flat_rel f1 rx, flats_rel f2 rsy, ?_⟩
      rw [inV_rel f1 rx f2 rsy]
      exact k _ _ H p l .refl (.bl _)
  · exact h.elim
def isN : W → Bool
  | .non => true
  | _ => false
def gIsN (neg : Bool) : W → W → (W → Prop) → Prop := fun x y P => match y with
  | .non => P (.bl (if neg then !isN x else isN x))
  | _ => False
theorem i_ge (ha : PE X a (LE X.K F Wx ia)) (hb : PE X b (LE X.K F Wx ib)) : PE X (.Compare a [.GtE] [b] pos) (LE X.K F Wx (iB gGe ia ib)) := i_cmp op_ge og_ge ha hb (nomark _)
theorem i_eq (hu : X.A.units + 64 < cLine) (ha : PE X a (LE X.K F Wx ia)) (hb : PE X b (LE X.K F Wx ib)) : PE X (.Compare a [.Eq] [b] pos) (LE X.K F Wx (iB gEq ia ib)) := i_cmp (op_eqS hu) og_eq ha hb (nomark _)
theorem i_ne (hu : X.A.units + 64 < cLine) (ha : PE X a (LE X.K F Wx ia)) (hb : PE X b (LE X.K F Wx ib)) : PE X (.Compare a [.NotEq] [b] pos) (LE X.K F Wx (iB gNe ia ib)) := i_cmp (op_neS hu) og_ne ha hb (nomark _)
theorem i_in (ha : PE X a (LE X.K F Wx ia)) (hb : PE X b (LE X.K F Wx ib)) (hm : behindInMarks .In b = false := by rfl) : PE X (.Compare a [.In] [b] pos) (LE X.K F Wx (iB (gIn false) ia ib)) := i_cmp op_in_seq og_in ha hb hm
def iChain (g g' : W → W → (W → Prop) → Prop) (ia ib ic : IE) : IE := fun EI st Q => ia EI st fun x st1 => ib EI st1 fun y st2 => g x y fun z => match z with
  | .bl k => if k = true then ic EI st2 fun w st3 => g' y w fun r => Q r st3 else Q (.bl false) st2
  | _ => False
theorem i_chain {op op' : CmpOp} {r r' : R2} {g g' : W → W → (W → Prop) → Prop} (ho : OpR X (compareOp op) r) (ho' : OpR X (compareOp op') r') (hg : OpG X.K r g) (hg' : OpG X.K r' g') (ha : PE X a (LE X.K F Wx ia)) (hb : PE X b (LE X.K F Wx ib)) (hc : PE X c (LE X.K F Wx ic))
    (hm : lastMarks [op, op'] [b, c] = false := by with_unfolding_all rfl) : PE X (.Compare a [op, op'] [b, c] pos) (LE X.K F Wx (iChain g g' ia ib ic)) := by
  refine pe_imp (pe_chain ho ho' ha hb hc hm) fun σ H Q h => ?_
  obtain ⟨st, QI, EI, l, q, ux, k⟩ := h
  refine ⟨st, _, EI, l, q, ux, fun x st1 v H1 q1 l1 s1 r1 => ⟨st1, _, EI, l1, q1, ux.step s1, fun y st2 u H2 q2 l2 s2 r2 => ?_⟩⟩
  refine hg q2 l2 (r1.mono s2.mv) r2 fun w z H3 p l3 s3 r3 => ?_
  split at p
  · rename_i b'
    cases r3
    refine ⟨b', rfl, ?_⟩
    cases b' with
    | true =>
      rw [if_pos rfl] at p ⊢
      refine ⟨st2, _, EI, l3, p, (ux.step (s1.trans s2)).step s3, fun w' st4 v4 H4 q4 l4 s4 r4 => ?_⟩
      exact hg' q4 l4 ((r2.mono s3.mv).mono s4.mv) r4 fun w5 z5 H5 p5 l5 s5 r5 => k w5 st4 z5 H5 p5 l5 ((((s1.trans s2).trans s3).trans s4).trans s5) r5
    | false =>
      rw [if_neg Bool.false_ne_true] at p ⊢
      exact k _ _ _ H3 p l3 ((s1.trans s2).trans s3) (.bl false)
  · exact p.elim

def gTru (x : W) (P : Bool → Prop) : Prop := match x with
  | .non => P false
  | .bl b => P b
  | .int i => P (i != 0)
  | .str y => y.length ≤ sizeLine ∧ P ((y.length : Int) != 0)
  | .tup ws => P (!ws.isEmpty)
  | .lst ws => P (!ws.isEmpty)
  | .dct ws => P (!ws.isEmpty)
  | _ => False
theorem RelWs.empty {K : PySem.W.Frag} {Lv : Addr → Prop} {H : Hp} {ws : List W} {vs : List V} (r : RelWs K Lv H ws vs) : vs.isEmpty = ws.isEmpty := by
  cases r <;> rfl
theorem RelKs.empty {K : PySem.W.Frag} {Lv : Addr → Prop} {H : Hp} {ws : List (Key × W)} {vs : List (Key × V)} (r : RelKs K Lv H ws vs) : vs.isEmpty = ws.isEmpty := by
  cases r <;> rfl
theorem tru_rel {K : PySem.W.Frag} {Lv : Addr → Prop} {H : Hp} {w : W} {v : V} {P : Bool → Prop} (h : gTru w P) (r : RelW K Lv H w v) : ∃ k, TruV K v H k ∧ P k := by
  cases r with
  | non => exact ⟨_, rfl, h⟩
  | bl b => exact ⟨_, rfl, h⟩
  | int i => exact ⟨_, rfl, h⟩
  | str x => exact ⟨_, ⟨h.1, rfl⟩, h.2⟩
  | tup f rs => exact ⟨_, .inr (.inl ⟨_, f.sq, rfl⟩), by rw [rs.empty]; exact h⟩
  | lst f rs => exact ⟨_, .inl ⟨_, f.sq, rfl⟩, by rw [rs.empty]; exact h⟩
  | dct e n rs => exact ⟨_, .inr (.inr ⟨_, e, rfl⟩), by rw [rs.empty]; exact h⟩
  | ty n => exact h.elim
  | ref a => exact h.elim
  | obj e n rs => exact h.elim
  | dcT e n rs => exact h.elim
  | exn0 => exact h.elim
  | exn1 e n rs => exact h.elim
  | scr f => exact h.elim
  | glo n => exact h.elim
/-- a value as a test -/
def tTru' (ia : IE) : IT := fun EI st Q => ia EI st fun x st1 => gTru x fun b => Q b st1
theorem t_tru (ha : PE X a (LE X.K F Wx ia)) (he : ∀ whole, isTrue a X.env whole = (do let v ← whole; standAt a.pos; holding [v] (truthy v)) := by intro _; rfl) : PT X a (LT X.K F Wx (tTru' ia)) := by
  refine pt_imp (pt_truth ha he) fun σ H Q h => ?_
  obtain ⟨st, QI, EI, l, q, ux, k⟩ := h
  refine ⟨st, _, EI, l, q, ux, fun x st1 v H1 q1 l1 s1 r1 => ?_⟩
  obtain ⟨b, t, p⟩ := tru_rel q1 r1
  exact ⟨b, t, k b st1 H1 p l1 s1⟩
/-- a comparison as a test -/
def tBl (ia : IE) : IT := fun EI st Q => ia EI st fun x st1 => match x with
  | .bl b => Q b st1
  | _ => False
theorem t_of_bl {K : PySem.W.Frag} {σ : L2.St} {H : Hp} {Q : Bool → Hp → Prop} (h : LT K F Wx (tBl ia) σ H Q) : LE K F Wx ia σ H fun x H' => ∃ k, x = .bl k ∧ Q k H' := by
  obtain ⟨st, QI, EI, l, q, ux, k⟩ := h
  refine ⟨st, _, EI, l, q, ux, fun x st1 v H1 q1 l1 s1 r1 => ?_⟩
  split at q1
  · cases r1
    exact ⟨_, rfl, k _ st1 H1 q1 l1 s1⟩
  · exact q1.elim
theorem t_cmp {op : CmpOp} {r : R2} {g : W → W → (W → Prop) → Prop} (ho : OpR X (compareOp op) r) (hg : OpG X.K r g) (ha : PE X a (LE X.K F Wx ia)) (hb : PE X b (LE X.K F Wx ib)) (hm : behindInMarks op b = false) : PT X (.Compare a [op] [b] pos) (LT X.K F Wx (tBl (iB g ia ib))) :=
  pt_imp (pt_cmpR ho ha hb hm) fun _ _ _ h => LE_op hg (t_of_bl h)
theorem t_lt (ha : PE X a (LE X.K F Wx ia)) (hb : PE X b (LE X.K F Wx ib)) : PT X (.Compare a [.Lt] [b] pos) (LT X.K F Wx (tBl (iB gLt ia ib))) := t_cmp op_lt og_lt ha hb (nomark _)
theorem t_le (ha : PE X a (LE X.K F Wx ia)) (hb : PE X b (LE X.K F Wx ib)) : PT X (.Compare a [.LtE] [b] pos) (LT X.K F Wx (tBl (iB gLe ia ib))) := t_cmp op_le og_le ha hb (nomark _)
theorem t_gt (ha : PE X a (LE X.K F Wx ia)) (hb : PE X b (LE X.K F Wx ib)) : PT X (.Compare a [.Gt] [b] pos) (LT X.K F Wx (tBl (iB gGt ia ib))) := t_cmp op_gt og_gt ha hb (nomark _)
theorem t_ge (ha : PE X a (LE X.K F Wx ia)) (hb : PE X b (LE X.K F Wx ib)) : PT X (.Compare a [.GtE] [b] pos) (LT X.K F Wx (tBl (iB gGe ia ib))) := t_cmp op_ge og_ge ha hb (nomark _)
theorem t_eq (hu : X.A.units + 64 < cLine) (ha : PE X a (LE X.K F Wx ia)) (hb : PE X b (LE X.K F Wx ib)) : PT X (.Compare a [.Eq] [b] pos) (LT X.K F Wx (tBl (iB gEq ia ib))) := t_cmp (op_eqS hu) og_eq ha hb (nomark _)
theorem t_ne (hu : X.A.units + 64 < cLine) (ha : PE X a (LE X.K F Wx ia)) (hb : PE X b (LE X.K F Wx ib)) : PT X (.Compare a [.NotEq] [b] pos) (LT X.K F Wx (tBl (iB gNe ia ib))) := t_cmp (op_neS hu) og_ne ha hb (nomark _)
theorem t_in (ha : PE X a (LE X.K F Wx ia)) (hb : PE X b (LE X.K F Wx ib)) (hm : behindInMarks .In b = false := by rfl) : PT X (.Compare a [.In] [b] pos) (LT X.K F Wx (tBl (iB (gIn false) ia ib))) := t_cmp op_in_seq og_in ha hb hm
theorem t_notin (ha : PE X a (LE X.K F Wx ia)) (hb : PE X b (LE X.K F Wx ib)) (hm : behindInMarks .NotIn b = false := by rfl) : PT X (.Compare a [.NotIn] [b] pos) (LT X.K F Wx (tBl (iB (gIn true) ia ib))) := t_cmp op_notIn_seq og_in ha hb hm
def tAnd' (s t : IT) : IT := fun EI st Q => s EI st fun c st1 => if c = true then t EI st1 Q else Q false st1
def tOr' (s t : IT) : IT := fun EI st Q => s EI st fun c st1 => if c = true then Q true st1 else t EI st1 Q
def tNot' (s : IT) : IT := fun EI st Q => s EI st fun c st1 => Q (!c) st1
variable {ta tb : IT} {rest : List Expr}
theorem w_and1 (ha : PT X a (LT X.K F Wx ta)) : PW X (.BoolOp .And [a] pos) (LT X.K F Wx ta) := pw_and1 ha
theorem w_or1 (ha : PT X a (LT X.K F Wx ta)) : PW X (.BoolOp .Or [a] pos) (LT X.K F Wx ta) := pw_or1 ha
theorem w_and (ha : PT X a (LT X.K F Wx ta)) (hb : PW X (.BoolOp .And (b :: rest) pos) (LT X.K F Wx tb)) : PW X (.BoolOp .And (a :: b :: rest) pos) (LT X.K F Wx (tAnd' ta tb)) := by
  refine pw_imp (pw_and ha hb) fun σ H Q h => ?_
  obtain ⟨st, QI, EI, l, q, ux, k⟩ := h
  refine ⟨st, _, EI, l, q, ux, fun c st1 H1 q1 l1 s1 => ?_⟩
  cases c with
  | true =>
    rw [if_pos rfl] at q1 ⊢
    exact ⟨st1, _, EI, l1, q1, ux.step s1, fun b st2 H2 q2 l2 s2 => k b st2 H2 q2 l2 (s1.trans s2)⟩
  | false =>
    rw [if_neg Bool.false_ne_true] at q1 ⊢
    exact k _ _ H1 q1 l1 s1
theorem w_or (ha : PT X a (LT X.K F Wx ta)) (hb : PW X (.BoolOp .Or (b :: rest) pos) (LT X.K F Wx tb)) : PW X (.BoolOp .Or (a :: b :: rest) pos) (LT X.K F Wx (tOr' ta tb)) := by
  refine pw_imp (pw_or ha hb) fun σ H Q h => ?_
  obtain ⟨st, QI, EI, l, q, ux, k⟩ := h
  refine ⟨st, _, EI, l, q, ux, fun c st1 H1 q1 l1 s1 => ?_⟩
  cases c with
  | true =>
    rw [if_pos rfl] at q1 ⊢
    exact k _ _ H1 q1 l1 s1
  | false =>
    rw [if_neg Bool.false_ne_true] at q1 ⊢
    exact ⟨st1, _, EI, l1, q1, ux.step s1, fun b st2 H2 q2 l2 s2 => k b st2 H2 q2 l2 (s1.trans s2)⟩
theorem t_not (ha : PT X a (LT X.K F Wx ta)) : PT X (.UnaryOp .Not a pos) (LT X.K F Wx (tNot' ta)) := by
  refine pt_imp (pt_not ha) fun σ H Q h => ?_
  obtain ⟨st, QI, EI, l, q, ux, k⟩ := h
  exact ⟨st, _, EI, l, q, ux, fun c st1 H1 q1 l1 s1 => k _ _ H1 q1 l1 s1⟩
def iIf (t : IT) (ia ib : IE) : IE := fun EI st Q => t EI st fun c st1 => if c = true then ia EI st1 Q else ib EI st1 Q
theorem i_if (hc : PT X c (LT X.K F Wx ta)) (ha : PE X a (LE X.K F Wx ia)) (hb : PE X b (LE X.K F Wx ib)) : PE X (.IfExp c a b pos) (LE X.K F Wx (iIf ta ia ib)) := by
  refine pe_imp (pe_ifExp hc ha hb) fun σ H Q h => ?_
  obtain ⟨st, QI, EI, l, q, ux, k⟩ := h
  refine ⟨st, _, EI, l, q, ux, fun c st1 H1 q1 l1 s1 => ?_⟩
  cases c with
  | true =>
    rw [if_pos rfl] at q1 ⊢
    exact ⟨st1, _, EI, l1, q1, ux.step s1, fun w st2 v H2 q2 l2 s2 r2 => k w st2 v H2 q2 l2 (s1.trans s2) r2⟩
  | false =>
    rw [if_neg Bool.false_ne_true] at q1 ⊢
    exact ⟨st1, _, EI, l1, q1, ux.step s1, fun w st2 v H2 q2 l2 s2 r2 => k w st2 v H2 q2 l2 (s1.trans s2) r2⟩
/-- and, or, not as values -/
def iAnd (ia ib : IE) : IE := fun EI st Q => ia EI st fun x st1 => gTru x fun b => if b = true then ib EI st1 Q else Q x st1
def iOr (ia ib : IE) : IE := fun EI st Q => ia EI st fun x st1 => gTru x fun b => if b = true then Q x st1 else ib EI st1 Q
def iNot (ia : IE) : IE := fun EI st Q => ia EI st fun x st1 => gTru x fun b => Q (.bl (!b)) st1
theorem i_one {op : BoolOp} (h : PE X a (LE X.K F Wx ia)) : PE X (.BoolOp op [a] pos) (LE X.K F Wx ia) := pe_one h
theorem i_and (ha : PE X a (LE X.K F Wx ia)) (hb : PE X (.BoolOp .And (b :: rest) pos) (LE X.K F Wx ib)) : PE X (.BoolOp .And (a :: b :: rest) pos) (LE X.K F Wx (iAnd ia ib)) := by
  refine pe_imp (pe_andT ha hb) fun σ H Q h => ?_
  obtain ⟨st, QI, EI, l, q, ux, k⟩ := h
  refine ⟨st, _, EI, l, q, ux, fun x st1 v H1 q1 l1 s1 r1 => ?_⟩
  obtain ⟨c, t, p⟩ := tru_rel q1 r1
  refine ⟨c, t, ?_⟩
  cases c with
  | true =>
    rw [if_pos rfl] at p ⊢
    exact ⟨st1, _, EI, l1, p, ux.step s1, fun w st2 v H2 q2 l2 s2 r2 => k w st2 v H2 q2 l2 (s1.trans s2) r2⟩
  | false =>
    rw [if_neg Bool.false_ne_true] at p ⊢
    exact k _ _ _ H1 p l1 s1 r1
theorem i_or (ha : PE X a (LE X.K F Wx ia)) (hb : PE X (.BoolOp .Or (b :: rest) pos) (LE X.K F Wx ib)) : PE X (.BoolOp .Or (a :: b :: rest) pos) (LE X.K F Wx (iOr ia ib)) := by
  refine pe_imp (pe_orT ha hb) fun σ H Q h => ?_
  obtain ⟨st, QI, EI, l, q, ux, k⟩ := h
  refine ⟨st, _, EI, l, q, ux, fun x st1 v H1 q1 l1 s1 r1 => ?_⟩
  obtain ⟨c, t, p⟩ := tru_rel q1 r1
  refine ⟨c, t, ?_⟩
  cases c with
  | true =>
    rw [if_pos rfl] at p ⊢
    exact k _ _ _ H1 p l1 s1 r1
  | false =>
    rw [if_neg Bool.false_ne_true] at p ⊢
    exact ⟨st1, _, EI, l1, p, ux.step s1, fun w st2 v H2 q2 l2 s2 r2 => k w st2 v H2 q2 l2 (s1.trans s2) r2⟩
theorem i_not (ha : PE X a (LE X.K F Wx ia)) : PE X (.UnaryOp .Not a pos) (LE X.K F Wx (iNot ia)) := by
  refine pe_imp (pe_notT ha) fun σ H Q h => ?_
  obtain ⟨st, QI, EI, l, q, ux, k⟩ := h
  refine ⟨st, _, EI, l, q, ux, fun x st1 v H1 q1 l1 s1 r1 => ?_⟩
  obtain ⟨c, t, p⟩ := tru_rel q1 r1
  exact ⟨c, t, k _ _ _ H1 p l1 s1 (.bl _)⟩
end
end Sh
namespace Sh
open PySem L2
open PyProof.Rows hiding St
section
variable {X : Cx} {F : Addr → Prop} {Wx : WX} {a b c e : Expr} {es : List Expr} {pos : Pos} {ia ib ic : IE}
def atW (ws : List W) (i : Int) (P : W → Prop) : Prop := match atI ws i with
  | some w => P w
  | none => False
theorem atW_inv {ws : List W} {i : Int} {P : W → Prop} (h : atW ws i P) : ∃ w, atI ws i = some w ∧ P w := by
  unfold atW at h
  split at h
  · exact ⟨_, by assumption, h⟩
  · exact h.elim
theorem atI_rel {K : PySem.W.Frag} {Lv : Addr → Prop} {H : Hp} {ws : List W} {vs : List V} {i : Int} {w : W} (r : RelWs K Lv H ws vs) (e : atI ws i = some w) : ∃ v, atI vs i = some v ∧ RelW K Lv H w v := by
  unfold atI at e ⊢
  rw [← r.length]
  cases q : ixN ws.length i with
  | none => rw [q] at e; cases e
  | some j =>
    rw [q, Option.bind_some] at e
    rw [Option.bind_some]
    exact r.get e
/-- an item; of the store's lists too -/
def gIx (st : Stt) (x y : W) (P : W → Prop) : Prop := match x, y with
  | .tup ws, .int i => atW ws i P
  | .lst ws, .int i => atW ws i P
  | .ref a, .int i => (match st.S a with
    | some (.lst ws) => atW ws i P
    | _ => False)
  | .str z, .int i => z.length ≤ sizeLine ∧ (match atI z.cps.toList i with
    | some c => P (.str ⟨#[c]⟩)
    | none => False)
  | _, _ => False
def iIx (ia ib : IE) : IE := fun EI st Q => ia EI st fun x st1 => ib EI st1 fun y st2 => gIx st2 x y fun w => Q w st2
theorem ix_rel {K : PySem.W.Frag} {st : Stt} {σ : L2.St} {H : Hp} {x y : W} {v u : V} {P : W → Prop} {Q : VK} (h : gIx st x y P) (l : Lk K F st σ H) (rx : RelW K (Live F st σ) H x v) (ry : RelW K (Live F st σ) H y u)
    (k : ∀ w z, P w → RelW K (Live F st σ) H w z → Q z H) : rIx K v u H Q := by
  unfold gIx at h
  split at h
  · obtain ⟨w, e, p⟩ := atW_inv h
    cases rx with
    | tup f r =>
      cases ry
      obtain ⟨z, ez, rz⟩ := atI_rel r e
      exact .inr (.inl ⟨_, _, _, z, rfl, rfl, f.sq, ez, k w z p rz⟩)
  · obtain ⟨w, e, p⟩ := atW_inv h
    cases rx with
    | lst f r =>
      cases ry
      obtain ⟨z, ez, rz⟩ := atI_rel r e
      exact .inl ⟨_, _, _, z, rfl, rfl, f.sq, ez, k w z p rz⟩
  · split at h
    · rename_i ws es
      obtain ⟨w, e, p⟩ := atW_inv h
      cases rx
      cases ry
      obtain ⟨vs, ev, r⟩ := l.sto _ _ es
      obtain ⟨z, ez, rz⟩ := atI_rel r e
      exact .inl ⟨_, _, _, z, rfl, rfl, SqL.of ev, ez, k w z p rz⟩
    · exact h.elim
  · obtain ⟨hl, h⟩ := h
    cases rx
    cases ry
    split at h
    · rename_i c ec
      exact .inr (.inr ⟨_, _, c, rfl, rfl, hl, ec, k _ _ h (.str _)⟩)
    · exact h.elim
  · exact h.elim
theorem i_ix (ha : PE X a (LE X.K F Wx ia)) (hb : PE X b (LE X.K F Wx ib)) (hs : PlainIx b := by intro _ _; rfl) : PE X (.Subscript a b pos) (LE X.K F Wx (iIx ia ib)) := by
  refine pe_imp (pe_ix ix_seq ha hb hs) fun σ H Q h => ?_
  obtain ⟨st, QI, EI, l, q, ux, k⟩ := h
  refine ⟨st, _, EI, l, q, ux, fun x st1 v H1 q1 l1 s1 r1 => ⟨st1, _, EI, l1, q1, ux.step s1, fun y st2 u H2 q2 l2 s2 r2 => ?_⟩⟩
  exact ix_rel q2 l2 (r1.mono s2.mv) r2 fun w z p r => k w st2 z H2 p l2 (s1.trans s2) r
/-- an item of an owned list, which stays owned -/
def ownL (st : Stt) (i : Nat) (P : List W → Prop) : Prop := match st.ρ[i]? with
  | some (.own (.lst ws)) => P ws
  | _ => False
theorem ownL_inv {st : Stt} {i : Nat} {P : List W → Prop} (h : ownL st i P) : ∃ ws, st.ρ[i]? = some (.own (.lst ws)) ∧ P ws := by
  unfold ownL at h
  split at h
  · exact ⟨_, by assumption, h⟩
  · exact h.elim
def iIxO (i : Nat) (ib : IE) : IE := fun EI st Q => ownL st i fun _ => ib EI st fun y st1 => ownL st1 i fun ws => match y with
  | .int j => atW ws j fun w => Q w st1
  | _ => False
theorem i_ixO {i : Nat} {x : Str} {px : Pos} (hb : PE X b (LE X.K F Wx ib)) (hN : X.N[i]? = some x := by rfl) (hv : Vis X.env.scope x := by first | exact Or.inl rfl | exact Or.inr (Or.inl rfl) | exact Or.inr (Or.inr rfl)) (hd : (x == ("__debug__" : Str)) = false := by decide)
    (hcd : (x == ("__classdict__" : Str)) = false := by decide) (hs : PlainIx b := by intro _ _; rfl) : PE X (.Subscript (.Name x px) b pos) (LE X.K F Wx (iIxO i ib)) := by
  refine pe_imp (pe_ix ix_seq (pe_var hN hv hd hcd) hb hs) fun σ H Q h => ?_
  obtain ⟨st, QI, EI, l, q, ux, k⟩ := h
  obtain ⟨ws0, e0, q⟩ := ownL_inv q
  obtain ⟨a, ea, _⟩ := l.own i _ e0
  refine ⟨.ref a, ea, st, _, EI, l, q, ux, fun y st1 u H1 q1 l1 s1 r1 => ?_⟩
  obtain ⟨ws, es, q1⟩ := ownL_inv q1
  split at q1
  · rename_i j
    obtain ⟨w, e, p⟩ := atW_inv q1
    obtain ⟨a', ea', ⟨vs, hv, r⟩, _, _⟩ := l1.own i _ es
    rw [ea] at ea'
    cases ea'
    cases r1
    obtain ⟨z, ez, rz⟩ := atI_rel r e
    exact .inl ⟨_, _, _, z, rfl, rfl, SqL.of hv, ez, k w st1 z H1 p l1 s1 rz⟩
  · exact q1.elim

abbrev IO' := XI → Stt → (Option Int → Stt → Prop) → Prop
def LO (K : PySem.W.Frag) (F : Addr → Prop) (Wx : WX) (i : IO') : TO := fun σ H Q => ∃ st QI EI, Lk K F st σ H ∧ i EI st QI ∧ UpX K F Wx st σ H EI ∧
  ∀ o st' H', QI o st' → Lk K F st' σ H' → Step st σ H st' σ H' → Q o H'
theorem po_imp {X : Cx} {e : Option Expr} {t t' : TO} (h : PO X e t) (m : ∀ σ H Q, t' σ H Q → t σ H Q) : PO X e t' := ⟨fun pins s σ H Q I q => h.run pins s σ H Q I (m _ _ _ q)⟩
def oNone : IO' := fun _ st Q => Q none st
def oSome (ia : IE) : IO' := fun EI st Q => ia EI st fun x st1 => match x with
  | .int i => Q (some i) st1
  | _ => False
theorem o_none : PO X none (LO X.K F Wx oNone) := by
  refine po_imp po_none fun σ H Q h => ?_
  obtain ⟨st, QI, EI, l, q, ux, k⟩ := h
  exact k none st H q l .refl
theorem o_some (ha : PE X a (LE X.K F Wx ia)) : PO X (some a) (LO X.K F Wx (oSome ia)) := by
  refine po_imp (po_some ha) fun σ H Q h => ?_
  obtain ⟨st, QI, EI, l, q, ux, k⟩ := h
  refine ⟨st, _, EI, l, q, ux, fun x st1 v H1 q1 l1 s1 r1 => ?_⟩
  split at q1
  · cases r1
    exact ⟨_, rfl, k _ _ H1 q1 l1 s1⟩
  · exact q1.elim
def cutW {α : Type} (xs : List α) (lo hi : Option Int) : List α := (xs.drop (HT.sIx xs.length 0 lo)).take (HT.sIx xs.length xs.length hi - HT.sIx xs.length 0 lo)
theorem cut_rel {K : PySem.W.Frag} {Lv : Addr → Prop} {H : Hp} {ws : List W} {vs : List V} (r : RelWs K Lv H ws vs) (lo hi : Option Int) : RelWs K Lv H (cutW ws lo hi) (cutV vs lo hi) := by
  unfold cutW cutV
  rw [r.length]
  exact (r.drop _).take _
def rSls (K : PySem.W.Frag) : V → Option Int → Option Int → Hp → VK → Prop := fun x lo hi H Q => rSlA K x lo hi H Q ∨ rSlL K x lo hi H Q
theorem sl_any : SlR X (rSls X.K) := sl_tupA.or sl_list
def gSl (x : W) (lo hi : Option Int) (P : W → Prop) : Prop := match x with
  | .tup ws => P (.tup (cutW ws lo hi))
  | .lst ws => P (.lst (cutW ws lo hi))
  | .scr ns => P (.lst ((cutW ns lo hi).map .int))
  | _ => False
theorem cutV_map (ns : List Int) (lo hi : Option Int) : cutV (ns.map V.int) lo hi = (cutW ns lo hi).map V.int := by
  unfold cutW cutV
  rw [List.length_map, List.map_take, List.map_drop]
theorem cut_whole {α : Type} {xs : List α} {lo hi : Option Int} (h : HT.sIx xs.length 0 lo = 0 ∧ HT.sIx xs.length xs.length hi = xs.length) : cutW xs lo hi = xs := by
  unfold cutW
  rw [h.1, h.2]
  simp
theorem sl_rel {K : PySem.W.Frag} {st : Stt} {σ : L2.St} {H : Hp} {x : W} {v : V} {lo hi : Option Int} {P : W → Prop} {Q : VK} (h : gSl x lo hi P) (l : Lk K F st σ H) (rx : RelW K (Live F st σ) H x v)
    (k : ∀ w z H', P w → Lk K F st σ H' → Step st σ H st σ H' → RelW K (Live F st σ) H' w z → Q z H') : rSls K v lo hi H Q := by
  unfold gSl at h
  split at h
  · cases rx with
    | tup f r =>
      rename_i a vs
      refine .inl ⟨a, vs, rfl, f.sq, fun e => ?_, fun _ p hp => ?_⟩
      · rw [cut_whole (by rw [r.length]; exact e)] at h
        exact k _ _ H h l .refl (.tup f r)
      · have s := Step.laid (o := .tup (cutV vs lo hi)) l hp
        exact k _ _ _ h (l.laid hp) s (.tup (FzT.new l hp) ((cut_rel r lo hi).mono s.mv))
  · cases rx with
    | lst f r =>
      rename_i a vs
      refine .inr ⟨a, vs, rfl, f.sq, fun p hp => ?_⟩
      have s := Step.laid (o := .lst (cutV vs lo hi)) l hp
      exact k _ _ _ h (l.laid hp) s (.lst (FzL.new l hp) ((cut_rel r lo hi).mono s.mv))
  · cases rx with
    | scr f =>
      rename_i ns a
      refine .inr ⟨a, _, rfl, f.sq, fun p hp => ?_⟩
      have s := Step.laid (o := .lst (cutV (ns.map V.int) lo hi)) l hp
      refine k _ _ _ h (l.laid hp) s (.lst (FzL.new l hp) ?_)
      rw [cutV_map]
      exact RelWs.ints _
  · exact h.elim
def iSl (ia : IE) (lo hi : IO') : IE := fun EI st Q => ia EI st fun x st1 => lo EI st1 fun i st2 => hi EI st2 fun j st3 => gSl x i j fun w => Q w st3
theorem i_sl {lo hi : Option Expr} {il ih : IO'} {p2 : Pos} (ha : PE X a (LE X.K F Wx ia)) (hl : PO X lo (LO X.K F Wx il)) (hh : PO X hi (LO X.K F Wx ih)) : PE X (.Subscript a (.Slice lo hi none p2) pos) (LE X.K F Wx (iSl ia il ih)) := by
  refine pe_imp (pe_slice sl_any ha hl hh) fun σ H Q h => ?_
  obtain ⟨st, QI, EI, l, q, ux, k⟩ := h
  refine ⟨st, _, EI, l, q, ux, fun x st1 v H1 q1 l1 s1 r1 => ⟨st1, _, EI, l1, q1, ux.step s1, fun i st2 H2 q2 l2 s2 => ⟨st2, _, EI, l2, q2, ux.step (s1.trans s2), fun j st3 H3 q3 l3 s3 => ?_⟩⟩⟩
  exact sl_rel q3 l3 ((r1.mono s2.mv).mono s3.mv) fun w z H4 p l4 s4 r4 => k w st3 z H4 p l4 (((s1.trans s2).trans s3).trans s4) r4
/-- xs[::-1], a list -/
def iRevL (ia : IE) : IE := fun EI st Q => ia EI st fun x st1 => match x with
  | .lst ws => Q (.lst ws.reverse) st1
  | _ => False
def iCall (spec : ISp) (i : IA) : IE := fun EI st Q => i EI st fun ws st1 => spec ws st1.S (fun r S' => Q r.fz { st1 with S := S' }) fun x S' => EI x { st1 with S := S' }
def nCall (spec : ISp) (i : IA) : IN := fun EI st Q => i EI st fun ws st1 => spec ws st1.S (fun r S' => match r with
  | .new o => Q o { st1 with S := S' }
  | .val _ => False) fun x S' => EI x { st1 with S := S' }
theorem RetOk.fz {K : PySem.W.Frag} {st : Stt} {σ : L2.St} {H : Hp} {r : R} {S' : Sto} {v : V} {H' : Hp} (l : Lk K F st σ H) (h : RetOk K F st σ H r S' v H') : Lk K F ⟨[], S'⟩ [] H' ∧ RelW K (Live F ⟨[], S'⟩ []) H' r.fz v := by
  obtain ⟨s, h⟩ := h
  cases r with
  | val w => exact h
  | new o =>
    obtain ⟨a, rfl, l2, r, n⟩ := h
    have m : Mv (Live (FA F a) ⟨[], S'⟩ []) H' (Live F ⟨[], S'⟩ []) H' := mv_same fun b z => z.imp id .inl
    refine ⟨l2.less fun _ z => .inl z, (r.move (fun _ z => z) m).fz fun z => ?_⟩
    rcases z with (z | z) | z
    · exact z (l2.fdis a (.inr rfl))
    · exact ow_nil z
    · exact NewAt.nf l n z
/-- a promise is kept at a call -/
theorem call_ok {K : PySem.W.Frag} {n : Nat} {spec : ISp} {st : Stt} {σ : L2.St} {H : Hp} {ws : List W} {vs : List V} {QI : R → Sto → Prop} {EI : XI} {Q : VK} (l : Lk K F st σ H) (r : RelWs K (Live F st σ) H ws vs) (hn : ws.length = n)
    (hs : spec ws st.S QI fun x S' => EI x { st with S := S' }) (ux : UpX K F Wx st σ H EI)
    (k : ∀ r S' v H', QI r S' → RetOk K (Fo F st σ) ⟨[], st.S⟩ [] H r S' v H' → Q v H') : spI K n spec vs H Q (WE Wx σ) := by
  refine ⟨Fo F st σ, st.S, ws, _, _, l.enter, r.mono (mv_same fun a z => live_enter.mp z), hn, hs, k, fun x S' cls d H' e l2 s2 rx => ?_⟩
  obtain ⟨l3, s3⟩ := l.back s2 l2 (fun _ z => z) fun a z => .inl z
  refine ux x { st with S := S' } cls d H' e l3 s3 ?_
  obtain ⟨e1, z⟩ := rx
  refine ⟨e1, z.imp id ?_⟩
  rintro ⟨a, vs', e2, e3, e4, e5⟩
  have lv : ∀ b, Live F { st with S := S' } σ b → Live (Fo F st σ) ⟨[], S'⟩ [] b := fun b z => (live_enter (F := F) (st := { st with S := S' }) (σ := σ)).mpr z
  exact ⟨a, vs', e2, e3, fun z => e4 (lv a z), e5.mono (mv_same lv)⟩
theorem call_val {K : PySem.W.Frag} {n : Nat} {spec : ISp} {ia : IA} {σ : L2.St} {H : Hp} {Q : VK} (h : LE K F Wx (iCall spec ia) σ H Q) : tCallS (spI K n spec) (WE Wx) (LA K F Wx n ia) σ H Q := by
  obtain ⟨st, QI, EI, l, q, ux, k⟩ := h
  refine ⟨st, _, EI, l, q, ux, fun ws st1 vs H1 hn q1 l1 s1 r1 => ?_⟩
  refine call_ok l1 r1 hn q1 (ux.step s1) fun r S' v H2 q2 h2 => ?_
  have ⟨l2, rv⟩ := h2.fz l1.enter
  obtain ⟨l3, s3⟩ := l1.back h2.1 l2 (fun _ z => z) fun a z => .inl z
  exact k r.fz _ v H2 q2 l3 (s1.trans s3) (rv.mono (mv_same fun b z => (live_enter (F := F) (st := { st1 with S := S' }) (σ := σ)).mpr z))
theorem call_new {K : PySem.W.Frag} {n : Nat} {spec : ISp} {ia : IA} {σ : L2.St} {H : Hp} {Q : VK} (h : LN K F Wx (nCall spec ia) σ H Q) : tCallS (spI K n spec) (WE Wx) (LA K F Wx n ia) σ H Q := by
  obtain ⟨st, QI, EI, l, q, ux, k⟩ := h
  refine ⟨st, _, EI, l, q, ux, fun ws st1 vs H1 hn q1 l1 s1 r1 => ?_⟩
  refine call_ok l1 r1 hn q1 (ux.step s1) fun r S' v H2 q2 h2 => ?_
  cases r with
  | val w => exact q2.elim
  | new o =>
    obtain ⟨s2, a, rfl, l2, ro, na⟩ := h2
    have na1 : NewAt st1 σ H1 a := na.imp (fun z => z.elim .inl fun z => (ow_nil z).elim) id
    have l2' : Lk K (Fo (FA F a) st1 σ) ⟨[], S'⟩ [] H2 := l2.less fun b z => by
      rcases z with (z | z) | z
      · exact .inl (.inl z)
      · exact .inr z
      · exact .inl (.inr z)
    obtain ⟨l3, s3⟩ := l1.back (F2 := FA F a) s2 l2' (fun _ z => .inl z) fun b z => by
      rcases z with z | z
      · exact .inl z
      · rw [z]
        rcases na with (z | z) | z
        · exact .inr (.inl z)
        · exact (ow_nil z).elim
        · exact .inr (.inr z)
    refine k o _ a H2 q2 l3 (s1.trans s3) (ro.move (fun _ z => z) (mv_same fun b z => ?_)) (na1.step s1)
    have z2 := (live_enter (F := FA F a) (st := { st1 with S := S' }) (σ := σ)).mpr z
    rcases z2 with z2 | z2
    · exact .inl z2
    · rcases z2 with (z2 | z2) | z2
      · exact .inr (.inl (.inl z2))
      · exact .inr (.inr z2)
      · exact .inr (.inl (.inr z2))
variable {k' : Nat} {f : Addr} {fd : FuncData} {ps : List Str} {spec : ISp} {x : Str} {p : Pos} {n : Nat} {i : IA}
theorem run_fnG {pins : List (Addr × Obj)} {σ : L2.St} {H : Hp} {s : Shared} {Q : VK} {us : List Value} {vs : List V} {sp : Sp} (G : FnG X.prog X.w X.K X.mg X.base k' f fd ps sp) (hr : Room k' X.A) (hgd : X.A.guards = some []) (tk : Takes X Wx) (hb : Binds X.K fd ps [])
    (I : Inv X pins σ H s) (r : Vals vs us) (h : sp vs H Q (WE Wx σ)) : wpAny (model X.prog X.w) X.A (call (.ref f) us) (EP X pins σ Q) X.xe s := by
  have hl : us.length = ps.length := r.length.symm.trans (G.len h)
  have bd := hb s us I.kIn (by simpa using hl)
  rw [List.append_nil] at bd
  refine wpAny_call (codeAny_mono (G.go hr hgd I.env0 bd r h) fun res s' q => ?_)
  cases res with
  | error e => exact passAt tk σ pins H s e s' I q
  | ok fl => cases fl <;> first | exact I.after q | exact q.elim
theorem pe_callG {sp : Sp} {t : TA} (G : FnG X.prog X.w X.K X.mg X.base k' f fd ps sp) (hr : Room k' X.A) (hgd : X.A.guards = some []) (tk : Takes X Wx) (hm : X.mg x = some (.ref f)) (hk : PySem.W.keepIn X.K (.ref f) = true) (hb : Binds X.K fd ps [])
    (ha : PA X (e :: es) t) (hg : Gl X x) (hdb : (x == ("__debug__" : Str)) = false) (he : starEach (e :: es) X.env = (false, eval e X.env) :: starEach es X.env) (hpl : (backTo pos (starEach es X.env)).any (·.1) = false) :
    PE X (.Call (.Name x p) (e :: es) [] pos) (tCallS sp (WE Wx) t) := by
  refine ⟨fun pins s σ H Q I h => wpAny_Call_Name_kw (ld_glob I hg hm ?_ hdb)⟩
  exact PySem.W.callWith_K (h₀ := X.base) I.ok.mod.kin hk (thn (ha.run pos pins s σ H _ I h) fun us s1 ⟨vs, H1, I1, r, q⟩ => ⟨I1.kIn, run_fnG G hr hgd tk hb I1 r q⟩) he hpl
theorem i_call (G : FnG X.prog X.w X.K X.mg X.base k' f fd ps (spI X.K n spec)) (hr : Room k' X.A) (hgd : X.A.guards = some []) (tk : Takes X Wx) (hm : X.mg x = some (.ref f)) (hk : PySem.W.keepIn X.K (.ref f) = true) (hb : Binds X.K fd ps [])
    (ha : PA X (e :: es) (LA X.K F Wx n i)) (hg : Gl X x := by rfl) (hdb : (x == ("__debug__" : Str)) = false := by decide) (he : starEach (e :: es) X.env = (false, eval e X.env) :: starEach es X.env := by rfl) (hpl : (backTo pos (starEach es X.env)).any (·.1) = false := by rfl) :
    PE X (.Call (.Name x p) (e :: es) [] pos) (LE X.K F Wx (iCall spec i)) :=
  pe_imp (pe_callG G hr hgd tk hm hk hb ha hg hdb he hpl) fun _ _ _ h => call_val h
theorem n_call (G : FnG X.prog X.w X.K X.mg X.base k' f fd ps (spI X.K n spec)) (hr : Room k' X.A) (hgd : X.A.guards = some []) (tk : Takes X Wx) (hm : X.mg x = some (.ref f)) (hk : PySem.W.keepIn X.K (.ref f) = true) (hb : Binds X.K fd ps [])
    (ha : PA X (e :: es) (LA X.K F Wx n i)) (hg : Gl X x := by rfl) (hdb : (x == ("__debug__" : Str)) = false := by decide) (he : starEach (e :: es) X.env = (false, eval e X.env) :: starEach es X.env := by rfl) (hpl : (backTo pos (starEach es X.env)).any (·.1) = false := by rfl) :
    PE X (.Call (.Name x p) (e :: es) [] pos) (LN X.K F Wx (nCall spec i)) :=
  pe_imp (pe_callG G hr hgd tk hm hk hb ha hg hdb he hpl) fun _ _ _ h => call_new h
theorem pe_callG0 {sp : Sp} (G : FnG X.prog X.w X.K X.mg X.base k' f fd ps sp) (hr : Room k' X.A) (hgd : X.A.guards = some []) (tk : Takes X Wx) (hm : X.mg x = some (.ref f)) (hk : PySem.W.keepIn X.K (.ref f) = true) (hb : Binds X.K fd ps [])
    (hg : Gl X x) (hdb : (x == ("__debug__" : Str)) = false) : PE X (.Call (.Name x p) [] [] pos) (tCallS sp (WE Wx) tNil) := by
  refine ⟨fun pins s σ H Q I h => wpAny_Call_Name_kw (ld_glob I hg hm ?_ hdb)⟩
  exact PySem.W.callWith_K0 I.kIn hk (run_fnG (us := []) G hr hgd tk hb I .nil h)
theorem la_nil {K : PySem.W.Frag} {σ : L2.St} {H : Hp} {Q : List V → Hp → Prop} (h : LA K F Wx 0 iNil σ H Q) : tNil σ H Q := by
  obtain ⟨st, QI, EI, l, q, ux, k⟩ := h
  exact k [] st [] H rfl q l .refl .nil
theorem i_call0 (G : FnG X.prog X.w X.K X.mg X.base k' f fd ps (spI X.K 0 spec)) (hr : Room k' X.A) (hgd : X.A.guards = some []) (tk : Takes X Wx) (hm : X.mg x = some (.ref f)) (hk : PySem.W.keepIn X.K (.ref f) = true) (hb : Binds X.K fd ps [])
    (hg : Gl X x := by rfl) (hdb : (x == ("__debug__" : Str)) = false := by decide) : PE X (.Call (.Name x p) [] [] pos) (LE X.K F Wx (iCall spec iNil)) :=
  pe_imp (pe_callG0 G hr hgd tk hm hk hb hg hdb) fun _ _ _ h => la_nil (call_val (n := 0) h)
def BtG (K : PySem.W.Frag) (r : List V → Hp → VK → Prop) (g : List W → (W → Prop) → Prop) : Prop :=
  ∀ {F : Addr → Prop} {st : Stt} {σ : L2.St} {H : Hp} {ws : List W} {vs : List V} {P : W → Prop} {Q : VK}, g ws P → Lk K F st σ H → RelWs K (Live F st σ) H ws vs →
    (∀ w z H', P w → Lk K F st σ H' → Step st σ H st σ H' → RelW K (Live F st σ) H' w z → Q z H') → r vs H Q
def iFn (g : List W → (W → Prop) → Prop) (i : IA) : IE := fun EI st Q => i EI st fun ws st1 => g ws fun w => Q w st1
theorem fn_val {K : PySem.W.Frag} {r : List V → Hp → VK → Prop} {g : List W → (W → Prop) → Prop} (hg : BtG K r g) {σ : L2.St} {H : Hp} {Q : VK} (h : LE K F Wx (iFn g i) σ H Q) : tCB r (LA K F Wx n i) σ H Q := by
  obtain ⟨st, QI, EI, l, q, ux, k⟩ := h
  refine ⟨st, _, EI, l, q, ux, fun ws st1 vs H1 hn q1 l1 s1 r1 => ?_⟩
  exact hg q1 l1 r1 fun w z H2 p l2 s2 r2 => k w st1 z H2 p l2 (s1.trans s2) r2
theorem i_fn {id : String} {r : List V → Hp → VK → Prop} {g : List W → (W → Prop) → Prop} (hc : CallR X (.builtin id) r) (hgf : BtG X.K r g) (hm : X.mg x = none) (hv : bootBuiltins x = some (.builtin id)) (ha : PA X (e :: es) (LA X.K F Wx n i)) (hg : Gl X x := by rfl) (hn : x ≠ "__name__" := by decide)
    (hdb : (x == ("__debug__" : Str)) = false := by decide) (he : starEach (e :: es) X.env = (false, eval e X.env) :: starEach es X.env := by rfl) (hpl : (backTo pos (starEach es X.env)).any (·.1) = false := by rfl) : PE X (.Call (.Name x p) (e :: es) [] pos) (LE X.K F Wx (iFn g i)) :=
  pe_imp (pe_callB hc hg hm hv ha hn hdb he hpl) fun _ _ _ h => fn_val hgf h
theorem i_ty {T : String} {r : List V → Hp → VK → Prop} {g : List W → (W → Prop) → Prop} (hc : CallR X (.type T) r) (hgf : BtG X.K r g) (hm : X.mg x = none) (hv : bootBuiltins x = some (.type T)) (ha : PA X (e :: es) (LA X.K F Wx n i)) (hg : Gl X x := by rfl) (hn : x ≠ "__name__" := by decide)
    (hdb : (x == ("__debug__" : Str)) = false := by decide) (he : starEach (e :: es) X.env = (false, eval e X.env) :: starEach es X.env := by rfl) (hpl : (backTo pos (starEach es X.env)).any (·.1) = false := by rfl) : PE X (.Call (.Name x p) (e :: es) [] pos) (LE X.K F Wx (iFn g i)) :=
  pe_imp (pe_callTy hc hg hm hv ha hn hdb he hpl) fun _ _ _ h => fn_val hgf h
end
end Sh
namespace Sh
open PySem L2
open PyProof.Rows hiding St
theorem ps_imp {X : Cx} {s : Stmt} {t t' : TS} (h : PS X s t) (m : ∀ D σ H, t' D σ H → t D σ H) : PS X s t' := ⟨fun pins s σ H D I q => h.run pins s σ H D I (m _ _ _ q)⟩
theorem pss_imp {X : Cx} {s : List Stmt} {t t' : TS} (h : PSs X s t) (m : ∀ D σ H, t' D σ H → t D σ H) : PSs X s t' := ⟨fun pins s σ H D I q => h.run pins s σ H D I (m _ _ _ q)⟩
theorem pg_imp {X : Cx} {e : Expr} {t t' : TG} (h : PG X e t) (m : ∀ v σ H Q, t' v σ H Q → t v σ H Q) : PG X e t' := ⟨fun pins s σ H v u Q I r q => h.run pins s σ H v u Q I r (m _ _ _ _ q)⟩
theorem pgs_imp {X : Cx} {e : List Expr} {t t' : TGs} (h : PGs X e t) (m : ∀ v σ H Q, t' v σ H Q → t v σ H Q) : PGs X e t' := ⟨fun pins s σ H v u Q I r q => h.run pins s σ H v u Q I r (m _ _ _ _ q)⟩
/-- a state without its slots -/
theorem Lk.drop {K : PySem.W.Frag} {F : Addr → Prop} {st : Stt} {σ : L2.St} {H : Hp} (l : Lk K F st σ H) : Lk K F ⟨[], st.S⟩ [] H ∧ Step st σ H ⟨[], st.S⟩ [] H ∧ ∀ a, Live F ⟨[], st.S⟩ [] a → Live F st σ a := by
  have nx : ∀ a, Live F ⟨[], st.S⟩ [] a → Live F st σ a := fun a z => z.imp (fun z => z.elim .inl fun z => (ow_nil z).elim) id
  exact ⟨⟨rfl, fun i w e => by simp at e, fun i o e => by simp at e, fun i j o o' a e => by simp at e, fun a o e => (l.sto a o e).move (fun _ q => q) (mv_same nx), l.ftr, l.fdis⟩,
    ⟨fun _ _ e _ => e, fun a z => .inl (z.elim .inl fun z => (ow_nil z).elim)⟩, nx⟩
section
variable {X : Cx} {F : Addr → Prop} {Wx : WX} {a b c e : Expr} {es : List Expr} {pos : Pos} {ia ib ic : IE} {s : Stmt} {ss : List Stmt} {ip iq : IS} {nn : IN}
def sNext : IS := fun _ D st => D.nx st
def sSeq (p q : IS) : IS := fun EI D st => p EI { D with nx := q EI D } st
theorem s_nil : PSs X [] (LS X.K F Wx sNext) := pss_imp pss_nil fun D σ H h => by
  obtain ⟨st, DI, EI, l, q, u⟩ := h
  exact u.nx st σ H q l .refl
theorem s_cons (h1 : PS X s (LS X.K F Wx ip)) (h2 : PSs X ss (LS X.K F Wx iq)) : PSs X (s :: ss) (LS X.K F Wx (sSeq ip iq)) := pss_imp (pss_cons h1 h2) fun D σ H h => by
  obtain ⟨st, DI, EI, l, q, u⟩ := h
  exact ⟨st, _, EI, l, q, ⟨u.xs, fun st' σ' H' q' l' s' => ⟨st', DI, EI, l', q', u.step s'⟩, u.bk, u.ct, u.rt⟩⟩
theorem s_one (h1 : PS X s (LS X.K F Wx ip)) : PSs X [s] (LS X.K F Wx ip) := pss_one h1
def sNever : IS := fun _ _ _ => False
theorem s_never : PS X s (LS X.K F Wx sNever) := ps_imp ps_never fun D σ H h => by
  obtain ⟨st, DI, EI, l, q, u⟩ := h
  exact q
def sCont : IS := fun _ D st => D.ct st
def sBreak : IS := fun _ D st => D.bk st
def sDrop (ia : IE) : IS := fun EI D st => ia EI st fun _ st1 => D.nx st1
theorem s_expr (ha : PE X a (LE X.K F Wx ia)) (hs : swapsWith a none pos.line X.env = pure false := by rfl) : PS X (.Expr a pos) (LS X.K F Wx (sDrop ia)) := ps_imp (ps_expr ha hs) fun D σ H h => by
  obtain ⟨st, DI, EI, l, q, u⟩ := h
  exact ⟨st, _, EI, l, q, u.x, fun w st1 v H1 q1 l1 s1 r1 => u.nx st1 σ H1 q1 l1 s1⟩
def sRet (ia : IE) : IS := fun EI D st => ia EI st fun w st1 => D.rt (.val w) st1.S
theorem s_ret (ha : PE X a (LE X.K F Wx ia)) : PS X (.Return (some a) pos) (LS X.K F Wx (sRet ia)) := ps_imp (ps_ret ha) fun D σ H h => by
  obtain ⟨st, DI, EI, l, q, u⟩ := h
  refine ⟨st, _, EI, l, q, u.x, fun w st1 v H1 q1 l1 s1 r1 => ?_⟩
  obtain ⟨l2, s2, nx⟩ := l1.drop
  exact u.rt _ _ v H1 q1 ⟨s1.trans s2, l2, r1.mono (mv_same nx)⟩
def sRetN (nn : IN) : IS := fun EI D st => nn EI st fun o st1 => D.rt (.new o) st1.S
theorem s_retN (ha : PE X a (LN X.K F Wx nn)) : PS X (.Return (some a) pos) (LS X.K F Wx (sRetN nn)) := ps_imp (ps_ret ha) fun D σ H h => by
  obtain ⟨st, DI, EI, l, q, u⟩ := h
  refine ⟨st, _, EI, l, q, u.x, fun o st1 a H1 q1 l1 s1 r1 n1 => ?_⟩
  obtain ⟨l2, s2, nx⟩ := l1.drop
  exact u.rt _ _ _ H1 q1 ⟨s1.trans s2, a, rfl, l2, r1.move (fun _ z => z) (mv_same nx), n1⟩
/-- return of an owned object -/
def sRetO (i : Nat) : IS := fun _ D st => match st.ρ[i]? with
  | some (.own o) => D.rt (.new o) st.S
  | _ => False
theorem s_retO {i : Nat} {x : Str} {px : Pos} (hN : X.N[i]? = some x := by rfl) (hv : Vis X.env.scope x := by first | exact Or.inl rfl | exact Or.inr (Or.inl rfl) | exact Or.inr (Or.inr rfl)) (hd : (x == ("__debug__" : Str)) = false := by decide)
    (hcd : (x == ("__classdict__" : Str)) = false := by decide) : PS X (.Return (some (.Name x px)) pos) (LS X.K F Wx (sRetO i)) := ps_imp (ps_ret (pe_var hN hv hd hcd)) fun D σ H h => by
  obtain ⟨st, DI, EI, l, q, u⟩ := h
  unfold sRetO at q
  split at q
  · rename_i o e
    obtain ⟨a, ea, r, na, nf⟩ := l.own i o e
    refine ⟨.ref a, ea, u.rt _ _ _ H q ?_⟩
    have lv : ∀ b, Live (FA F a) ⟨[], st.S⟩ [] b → Live F st σ b := fun b z => by
      rcases z with (z | z) | z | z
      · exact .inl (.inl z)
      · exact (ow_nil z).elim
      · exact .inr z
      · exact .inl (.inr ⟨i, o, e, z ▸ ea⟩)
    refine ⟨⟨fun _ _ e _ => e, fun b z => .inl (z.elim .inl fun z => (ow_nil z).elim)⟩, a, rfl, ⟨rfl, fun i w e => by simp at e, fun i o e => by simp at e, fun i j o o' a e => by simp at e, fun b o e => (l.sto b o e).move (fun _ q => q) (mv_same lv), fun b z => ?_, fun b z => ?_⟩, r.move (fun _ z => z) (mv_same lv), .inl (.inr ⟨i, o, e, ea⟩)⟩
    · rcases z with z | z
      · exact l.ftr b z
      · rw [z]; exact r.at
    · rcases z with z | z
      · exact l.fdis b z
      · rw [z]; exact na
  · exact q.elim
def sRet0 : IS := fun _ D st => D.rt (.val .non) st.S
def sIf (t : IT) (p q : IS) : IS := fun EI D st => t EI st fun b st1 => if b = true then p EI D st1 else q EI D st1
theorem s_if {ta : IT} {sa sb : List Stmt} (hc : PT X c (LT X.K F Wx ta)) (ha : PSs X sa (LS X.K F Wx ip)) (hb : PSs X sb (LS X.K F Wx iq)) : PS X (.If c sa sb pos) (LS X.K F Wx (sIf ta ip iq)) := ps_imp (ps_if hc ha hb) fun D σ H h => by
  obtain ⟨st, DI, EI, l, q, u⟩ := h
  refine ⟨st, _, EI, l, q, u.x, fun b st1 H1 q1 l1 s1 => ?_⟩
  cases b with
  | true =>
    rw [if_pos rfl] at q1 ⊢
    exact ⟨st1, DI, EI, l1, q1, u.step s1⟩
  | false =>
    rw [if_neg Bool.false_ne_true] at q1 ⊢
    exact ⟨st1, DI, EI, l1, q1, u.step s1⟩
def sSet (i : Nat) (ia : IE) : IS := fun EI D st => ia EI st fun w st1 => D.nx (st1.put i (.val w))
def sSetN (i : Nat) (nn : IN) : IS := fun EI D st => nn EI st fun o st1 => D.nx (st1.put i (.own o))
theorem set_of {K : PySem.W.Frag} {i : Nat} {D : Ends} {σ : L2.St} {H : Hp} (h : LS K F Wx (sSet i ia) D σ H) : tAsg (LE K F Wx ia) (gName i) D σ H := by
  obtain ⟨st, DI, EI, l, q, u⟩ := h
  exact ⟨st, _, EI, l, q, u.x, fun w st1 v H1 q1 l1 s1 r1 => u.nx _ _ H1 q1 (l1.put r1) (s1.trans Step.put)⟩
theorem Step.keepNew {st : Stt} {σ : L2.St} {H : Hp} {i : Nat} {o : SO} {a : Addr} {st1 : Stt} {σ1 : L2.St} {H1 : Hp} (hl : st1.ρ.length = σ1.length) (s : Step st σ H st1 σ1 H1) (n : NewAt st σ H a) : Step st σ H (st1.put i (.own o)) (σ1.set i (some (.ref a))) H1 :=
  ⟨s.keep, fun b z => by
    rcases z with z | ⟨j, o', e1, e2⟩
    · exact s.new b (.inl z)
    · rcases get_set e1 with ⟨rfl, _, hj⟩ | ⟨nj, e1⟩
      · rw [set_get (by rw [← hl]; exact hj)] at e2
        cases e2
        exact n
      · rw [List.getElem?_set_ne (Ne.symm nj)] at e2
        exact s.new b (.inr ⟨j, o', e1, e2⟩)⟩
theorem setN_of {K : PySem.W.Frag} {i : Nat} {D : Ends} {σ : L2.St} {H : Hp} (h : LS K F Wx (sSetN i nn) D σ H) : tAsg (LN K F Wx nn) (gName i) D σ H := by
  obtain ⟨st, DI, EI, l, q, u⟩ := h
  exact ⟨st, _, EI, l, q, u.x, fun o st1 a H1 q1 l1 s1 r1 n1 => u.nx _ _ H1 q1 (l1.keepNew r1 (NewAt.nf l n1)) (Step.keepNew l1.len s1 n1)⟩
theorem s_set (i : Nat) {x : Str} {pos' : Pos} (hN : X.N.Nodup) (ha : PE X a (LE X.K F Wx ia)) (hi : X.N[i]? = some x := by rfl) (hx : Loc X.env.scope x := by first | exact Or.inl rfl | exact Or.inr rfl) (hs : swapsWith a (some (.Name x pos')) pos.line X.env = pure false := by rfl)
    (hf : X.fn x = true ∨ X.env.scope.names.lookup x = some .local := by first | exact .inl rfl | exact .inr rfl | assumption) : PS X (.Assign [.Name x pos'] a pos) (LS X.K F Wx (sSet i ia)) := ps_imp (ps_set hN hi hx ha hs hf) fun _ _ _ h => set_of h
theorem s_setN (i : Nat) {x : Str} {pos' : Pos} (hN : X.N.Nodup) (ha : PE X a (LN X.K F Wx nn)) (hi : X.N[i]? = some x := by rfl) (hx : Loc X.env.scope x := by first | exact Or.inl rfl | exact Or.inr rfl) (hs : swapsWith a (some (.Name x pos')) pos.line X.env = pure false := by rfl)
    (hf : X.fn x = true ∨ X.env.scope.names.lookup x = some .local := by first | exact .inl rfl | exact .inr rfl | assumption) : PS X (.Assign [.Name x pos'] a pos) (LS X.K F Wx (sSetN i nn)) := ps_imp (ps_set hN hi hx ha hs hf) fun _ _ _ h => setN_of h
/-- a, b = e1, e2 -/
def sPar (i j : Nat) (ia ib : IE) : IS := fun EI D st => ia EI st fun w st1 => ib EI st1 fun y st2 => D.nx ((st2.put i (.val w)).put j (.val y))
theorem s_par (i j : Nat) {x y : Str} {px py pt : Pos} {kt k2 pt2} (hN : X.N.Nodup) (ha : PE X a (LE X.K F Wx ia)) (hb : PE X b (LE X.K F Wx ib)) (hi : X.N[i]? = some x := by rfl) (hj : X.N[j]? = some y := by rfl) (hij : i ≠ j := by decide)
    (hx : X.env.scope.names.lookup x = some .local := by rfl) (hy : X.env.scope.names.lookup y = some .local := by rfl) (hc : X.calm = true := by rfl)
    (hw : swappedStores [.Tuple [.Name x px, .Name y py] kt pt] (.Tuple [a, b] k2 pt2) X.env = pure (some [x, y]) := by rfl)
    (hs : swapsWithSole [.Tuple [.Name x px, .Name y py] kt pt] (.Tuple [a, b] k2 pt2) pos.line X.env = pure false := by rfl)
    (h1 : starEach [a, b] X.env = (false, eval a X.env) :: starEach [b] X.env := by rfl) (h2 : starEach [b] X.env = (false, eval b X.env) :: starEach [] X.env := by rfl) :
    PS X (.Assign [.Tuple [.Name x px, .Name y py] kt pt] (.Tuple [a, b] k2 pt2) pos) (LS X.K F Wx (sPar i j ia ib)) := ps_imp (ps_par hc hN hi hj hij hx hy (pa_cons ha (pa_cons hb pa_nil h2) h1) hw hs) fun D σ H h => by
  obtain ⟨st, DI, EI, l, q, u⟩ := h
  refine ⟨st, _, EI, l, q, u.x, fun w st1 v H1 q1 l1 s1 r1 => ⟨st1, _, EI, l1, q1, u.x.step s1, fun w2 st2 v2 H2 q2 l2 s2 r2 => ⟨v, v2, rfl, ?_⟩⟩⟩
  have l3 := l2.put (i := i) (r1.mono s2.mv)
  have s3 : Step st2 σ H2 (st2.put i (.val w)) (σ.set i (some v)) H2 := Step.put
  exact u.nx _ _ H2 q2 (l3.put (r2.mono s3.mv)) (((s1.trans s2).trans s3).trans Step.put)
/-- the second one is new -/
def sParEN (i j : Nat) (ia : IE) (nn : IN) : IS := fun EI D st => ia EI st fun w st1 => nn EI st1 fun o st2 => D.nx ((st2.put i (.val w)).put j (.own o))
theorem Lk.putF {K : PySem.W.Frag} {st : Stt} {σ : L2.St} {H : Hp} {p : Addr} {o : SO} {i : Nat} {w : W} {v : V} (l : Lk K (FA F p) st σ H) (ro : RelO K (Live (FA F p) st σ) H p o) (r : RelW K (Live (FA F p) st σ) H w v) :
    Lk K (FA F p) (st.put i (.val w)) (σ.set i (some v)) H ∧ RelO K (Live (FA F p) (st.put i (.val w)) (σ.set i (some v))) H p o := by
  have s : Step st σ H (st.put i (.val w)) (σ.set i (some v)) H := Step.put
  exact ⟨l.put r, ro.move (fun _ z => z) s.mv⟩
/-- a value that stands is not the new object -/
theorem RelW.foreign {K : PySem.W.Frag} {st st1 : Stt} {σ : L2.St} {H H1 : Hp} {p : Addr} {w : W} {v : V} (l : Lk K F st σ H) (r : RelW K (Live F st σ) H w v) (s : Step st σ H st1 σ H1) (n : NewAt st σ H p) : RelW K (Live (FA F p) st1 σ) H1 w v :=
  r.mono fun b u e nl => ⟨s.keep b u e fun z => nl (.inl z), fun z => by
    rcases z with z | z | z
    · rcases s.new b z with z | z
      · exact nl (.inl z)
      · rw [e] at z; cases z
    · exact nl (.inr z)
    · subst z
      rcases n with n | n
      · exact nl (.inl n)
      · rw [e] at n; cases n⟩
theorem pe_ex {i : IE} (h : ∀ F, PE X e (LE X.K F Wx i)) : PE X e (fun σ H Q => ∃ F, LE X.K F Wx i σ H Q) := ⟨fun pins s σ H Q I ⟨F, q⟩ => (h F).run pins s σ H Q I q⟩
theorem UpX.more {K : PySem.W.Frag} {st : Stt} {σ : L2.St} {H : Hp} {EI : XI} {F' : Addr → Prop} (u : UpX K F Wx st σ H EI) (h : ∀ a, F a → F' a) : UpX K F' Wx st σ H EI := fun x st' cls d H' e l s r => by
  refine u x st' cls d H' e (l.less h) s ?_
  obtain ⟨e1, z⟩ := r
  refine ⟨e1, z.imp id ?_⟩
  rintro ⟨a, vs', e2, e3, e4, e5⟩
  have lv : ∀ b, Live F st' σ b → Live F' st' σ b := fun b z => z.imp id (h b)
  exact ⟨a, vs', e2, e3, fun z => e4 (lv a z), e5.mono (mv_same lv)⟩
/-- the first one is new -/
def sParNE (i j : Nat) (nn : IN) (ib : IE) : IS := fun EI D st => nn EI st fun o st1 => ib EI st1 fun w st2 => D.nx ((st2.put i (.own o)).put j (.val w))
theorem s_parNE (i j : Nat) {x y : Str} {px py pt : Pos} {kt k2 pt2} (hN : X.N.Nodup) (ha : PE X a (LN X.K F Wx nn)) (hb : ∀ F, PE X b (LE X.K F Wx ib)) (hi : X.N[i]? = some x := by rfl) (hj : X.N[j]? = some y := by rfl) (hij : i ≠ j := by decide)
    (hx : X.env.scope.names.lookup x = some .local := by rfl) (hy : X.env.scope.names.lookup y = some .local := by rfl) (hc : X.calm = true := by rfl)
    (hw : swappedStores [.Tuple [.Name x px, .Name y py] kt pt] (.Tuple [a, b] k2 pt2) X.env = pure (some [x, y]) := by rfl)
    (hs : swapsWithSole [.Tuple [.Name x px, .Name y py] kt pt] (.Tuple [a, b] k2 pt2) pos.line X.env = pure false := by rfl)
    (h1 : starEach [a, b] X.env = (false, eval a X.env) :: starEach [b] X.env := by rfl) (h2 : starEach [b] X.env = (false, eval b X.env) :: starEach [] X.env := by rfl) :
    PS X (.Assign [.Tuple [.Name x px, .Name y py] kt pt] (.Tuple [a, b] k2 pt2) pos) (LS X.K F Wx (sParNE i j nn ib)) := ps_imp (ps_par hc hN hi hj hij hx hy (pa_cons ha (pa_cons (pe_ex hb) pa_nil h2) h1) hw hs) fun D σ H h => by
  obtain ⟨st, DI, EI, l, q, u⟩ := h
  refine ⟨st, _, EI, l, q, u.x, fun o st1 p H1 q1 l1 s1 r1 n1 => ⟨FA F p, st1, _, EI, l1, q1, (u.x.step s1).more fun _ z => .inl z, fun w st2 v H2 q2 l2 s2 r2 => ⟨.ref p, v, rfl, ?_⟩⟩⟩
  have nw : ¬ Wr st1 σ p := fun z => by
    rcases z with z | ⟨k, o', e1, e2⟩
    · exact z (l1.fdis p (.inr rfl))
    · obtain ⟨b, e3, _, _, n3⟩ := l1.own k o' e1
      rw [e2] at e3
      cases e3
      exact n3 (.inr rfl)
  have ro : RelO X.K (Live (FA F p) st2 σ) H2 p o := r1.move (fun u e => s2.keep p u e nw) s2.mv
  -- store the value first, then the new one: the two orders are one
  obtain ⟨l3, ro3⟩ := l2.putF (i := j) ro r2
  have l4 : Lk X.K F ((st2.put j (.val w)).put i (.own o)) ((σ.set j (some v)).set i (some (.ref p))) H2 := l3.keepNew ro3 (NewAt.nf l n1)
  have s4 : Step st σ H ((st2.put j (.val w)).put i (.own o)) ((σ.set j (some v)).set i (some (.ref p))) H2 := Step.keepNew l3.len ((s1.trans s2).trans Step.put) n1
  have e1 : (st2.put j (.val w)).put i (.own o) = (st2.put i (.own o)).put j (.val w) := by
    unfold Stt.put
    simp only
    rw [List.set_comm _ _ (Ne.symm hij)]
  have e2 : (σ.set j (some v)).set i (some (V.ref p)) = (σ.set i (some (.ref p))).set j (some v) := List.set_comm _ _ (Ne.symm hij)
  rw [e1, e2] at l4 s4
  exact u.nx _ _ H2 q2 l4 s4
/-- three at once -/
def sPar3 (i j k : Nat) (ia ib ic : IE) : IS := fun EI D st => ia EI st fun w st1 => ib EI st1 fun y st2 => ic EI st2 fun z st3 => D.nx (((st3.put i (.val w)).put j (.val y)).put k (.val z))
abbrev IG := W → Stt → (Stt → Prop) → Prop
abbrev IGs := List W → Stt → (Stt → Prop) → Prop
theorem wipe_set {i : Nat} {x : Option V} : ∀ {vs : List Nat} (σ : L2.St), i ∈ vs → L2.wipe (σ.set i x) vs = L2.wipe σ vs
  | v :: vs, σ, h => by
    by_cases e : i ∈ vs
    · show (L2.wipe (σ.set i x) vs).set v none = (L2.wipe σ vs).set v none
      rw [wipe_set σ e]
    · have ev : i = v := by
        rcases List.mem_cons.mp h with h | h
        · exact h
        · exact absurd h e
      subst ev
      have key : ∀ (ws : List Nat) (τ : L2.St), (L2.wipe (τ.set i x) ws).set i none = (L2.wipe τ ws).set i none := by
        intro ws
        induction ws with
        | nil => intro τ; show (τ.set i x).set i none = τ.set i none; rw [List.set_set]
        | cons w ws ih =>
          intro τ
          show ((L2.wipe (τ.set i x) ws).set w none).set i none = ((L2.wipe τ ws).set w none).set i none
          by_cases q : w = i
          · subst q
            rw [List.set_set, List.set_set, ih]
          · rw [List.set_comm _ _ q, ih, List.set_comm _ _ (Ne.symm q)]
      exact key vs σ
def LG (K : PySem.W.Frag) (F : Addr → Prop) (vs : List Nat) (g : IG) : TG := fun v σ H Q => ∃ w st QI, Lk K F st σ H ∧ RelW K (Live F st σ) H w v ∧ g w st QI ∧ ∀ st' σ' H', QI st' → Lk K F st' σ' H' → Step st σ H st' σ' H' → L2.wipe σ' vs = L2.wipe σ vs → (∀ b u, H b = some u → H' b = some u) → Q σ' H'
def LGs (K : PySem.W.Frag) (F : Addr → Prop) (vs : List Nat) (g : IGs) : TGs := fun us σ H Q => ∃ ws st QI, Lk K F st σ H ∧ RelWs K (Live F st σ) H ws us ∧ g ws st QI ∧ ∀ st' σ' H', QI st' → Lk K F st' σ' H' → Step st σ H st' σ' H' → L2.wipe σ' vs = L2.wipe σ vs → (∀ b u, H b = some u → H' b = some u) → Q σ' H'
variable {vs : List Nat}
def gNm (i : Nat) : IG := fun w st Q => Q (st.put i (.val w))
def gsNil : IGs := fun ws st Q => match ws with
  | [] => Q st
  | _ => False
def gsCons (g : IG) (gs : IGs) : IGs := fun ws st Q => match ws with
  | w :: r => g w st fun st1 => gs r st1 Q
  | [] => False
def gTp (n : Nat) (gs : IGs) : IG := fun w st Q => match w with
  | .tup ws => ws.length = n ∧ gs ws st Q
  | .lst ws => ws.length = n ∧ gs ws st Q
  | _ => False
theorem g_name (i : Nat) {x : Str} (hN : X.N.Nodup) (hm : i ∈ vs := by decide) (hi : X.N[i]? = some x := by rfl) (hx : Loc X.env.scope x := by first | exact Or.inl rfl | exact Or.inr rfl) (hf : X.fn x = true ∨ X.env.scope.names.lookup x = some .local := by first | exact .inl rfl | exact .inr rfl | assumption) :
    PG X (.Name x pos) (LG X.K F vs (gNm i)) := pg_imp (pg_name hN hi hx hf) fun v σ H Q h => by
  obtain ⟨w, st, QI, l, r, q, k⟩ := h
  exact k _ _ H q (l.put r) Step.put (wipe_set σ hm) fun _ _ e => e
theorem gs_nil : PGs X [] (LGs X.K F vs gsNil) := pgs_imp pgs_nil fun v σ H Q h => by
  obtain ⟨ws, st, QI, l, r, q, k⟩ := h
  unfold gsNil at q
  split at q
  · cases r
    exact ⟨rfl, k st σ H q l .refl rfl fun _ _ e => e⟩
  · exact q.elim
theorem gs_cons {g : IG} {gs : IGs} (h1 : PG X e (LG X.K F vs g)) (h2 : PGs X es (LGs X.K F vs gs)) (hs : (assignEach (e :: es) X.env).map (·.2) = assign e X.env :: (assignEach es X.env).map (·.2) := by rfl) : PGs X (e :: es) (LGs X.K F vs (gsCons g gs)) := pgs_imp (pgs_cons h1 h2 hs) fun v σ H Q h => by
  obtain ⟨ws, st, QI, l, r, q, k⟩ := h
  unfold gsCons at q
  split at q
  · cases r with
    | cons ra rs => exact ⟨_, _, rfl, _, st, _, l, ra, q, fun st1 σ1 H1 q1 l1 s1 e1 k1 => ⟨_, st1, _, l1, rs.mono s1.mv, q1, fun st2 σ2 H2 q2 l2 s2 e2 k2 => k st2 σ2 H2 q2 l2 (s1.trans s2) (e2.trans e1) fun b u z => k2 b u (k1 b u z)⟩⟩
  · exact q.elim
theorem g_tup {gs : IGs} {k' n : Nat} (h : PGs X es (LGs X.K F vs gs)) (hc : X.calm = true := by rfl) (hn : (assignEach es X.env).length = n := by rfl) (hst : (assignEach es X.env).findIdx? (·.1) = none := by rfl) : PG X (.Tuple es k' pos) (LG X.K F vs (gTp n gs)) := pg_imp (t := fun v σ H Q => gTup X.K n (LGs X.K F vs gs) v σ H Q ∨ gUnl X.K n (LGs X.K F vs gs) v σ H Q) ⟨fun pins s σ H v u Q I r hw => hw.elim (fun z => (pg_tup hc h hn hst).run pins s σ H v u Q I r z) fun z => (pg_unl hc h hn hst).run pins s σ H v u Q I r z⟩ fun v σ H Q h => by
  obtain ⟨w, st, QI, l, r, q, k⟩ := h
  unfold gTp at q
  split at q
  · cases r with
    | tup f rs => exact .inl ⟨_, _, rfl, f.sq, by rw [← rs.length]; exact q.1, _, st, _, l, rs, q.2, k⟩
  · cases r with
    | lst f rs => exact .inr ⟨_, _, rfl, f.sq, by rw [← rs.length]; exact q.1, _, st, _, l, rs, q.2, k⟩
  · exact q.elim
def sAsg (ia : IE) (g : IG) : IS := fun EI D st => ia EI st fun w st1 => g w st1 D.nx
theorem s_asg {tg : Expr} {g : IG} (ha : PE X a (LE X.K F Wx ia)) (hg : PG X tg (LG X.K F vs g)) (hs : swapsWithSole [tg] a pos.line X.env = pure false := by rfl) (hw : swappedStores [tg] a X.env = pure none := by rfl)
    (h1 : (assignEach [tg] X.env).map (·.2) = [assign tg X.env] := by rfl) : PS X (.Assign [tg] a pos) (LS X.K F Wx (sAsg ia g)) := ps_imp (ps_asg ha hg hs hw h1) fun D σ H h => by
  obtain ⟨st, DI, EI, l, q, u⟩ := h
  exact ⟨st, _, EI, l, q, u.x, fun w st1 v H1 q1 l1 s1 r1 => ⟨w, st1, _, l1, r1, q1, fun st2 σ2 H2 q2 l2 s2 _ _ => u.nx st2 σ2 H2 q2 l2 (s1.trans s2)⟩⟩
def sAugI (i : Nat) (f : Int → Int → Int) (ia : IE) : IS := fun EI D st => match st.ρ[i]? with
  | some (.val (.int n)) => ia EI st fun w st1 => (match w with
    | .int m => D.nx (st1.put i (.val (.int (f n m))))
    | _ => False)
  | _ => False
theorem s_augI (i : Nat) {x : Str} {pos' : Pos} {op : Operator} {f : Int → Int → Int} (ho : PIp X op (ipI f)) (hN : X.N.Nodup) (ha : PE X a (LE X.K F Wx ia)) (hi : X.N[i]? = some x := by rfl) (hx : Loc X.env.scope x := by first | exact Or.inl rfl | exact Or.inr rfl)
    (hf : X.fn x = true ∨ X.env.scope.names.lookup x = some .local := by first | exact .inl rfl | exact .inr rfl | assumption) : PS X (.AugAssign (.Name x pos') op a pos) (LS X.K F Wx (sAugI i f ia)) := ps_imp (ps_aug hN hi hx ha ho hf) fun D σ H h => by
  obtain ⟨st, DI, EI, l, q, u⟩ := h
  unfold sAugI at q
  split at q
  · rename_i n e
    obtain ⟨v, ev, r⟩ := l.val i _ e
    cases r
    refine ⟨.int n, ev, st, _, EI, l, q, u.x, fun w st1 v H1 q1 l1 s1 r1 => ?_⟩
    split at q1
    · cases r1
      exact ⟨_, _, rfl, rfl, u.nx _ _ H1 q1 (l1.put (.int _)) (s1.trans Step.put)⟩
    · exact q1.elim
  · exact q.elim
end
end Sh
namespace Sh
open PySem L2
open PyProof.Rows hiding St
/-- from here on the iterator J yields ws -/
structure Yd (K : PySem.W.Frag) (F : Addr → Prop) (J : It) (ws : List W) (st : Stt) (σ : L2.St) (H : Hp) : Prop where
  go : ∀ (i : Nat) (F' : Addr → Prop) st' σ' H', i < ws.length → Lk K F' st' σ' H' → Mv (Live F st σ) H (Live F' st' σ') H' → J.go i H' ∧ ∀ x H2, J.yld i H' x H2 → ∃ w, ws[i]? = some w ∧ Lk K F' st' σ' H2 ∧ Step st' σ' H' st' σ' H2 ∧
    (∀ b u, H' b = some u → H2 b = some u) ∧ RelW K (Live F' st' σ') H2 w x
  stop : ∀ (i : Nat) (F' : Addr → Prop) st' σ' H', ws.length ≤ i → Mv (Live F st σ) H (Live F' st' σ') H' → J.stop i H'
abbrev IL := XI → Stt → (List W → Stt → Prop) → Prop
def LI (K : PySem.W.Frag) (F : Addr → Prop) (Wx : WX) (i : IL) : TI := fun σ H R => ∃ st QI EI, Lk K F st σ H ∧ i EI st QI ∧ UpX K F Wx st σ H EI ∧
  ∀ ws st' J H', QI ws st' → Lk K F st' σ H' → Step st σ H st' σ H' → Yd K F J ws st' σ H' → R J H'
theorem pi_imp {X : Cx} {tg it : Expr} {t t' : TI} (h : PI X tg it t) (m : ∀ σ H Q, t' σ H Q → t σ H Q) : PI X tg it t' := ⟨fun pins s σ H R I q => h.run pins s σ H R I (m _ _ _ q)⟩
/-- a list or a tuple, whichever -/
def iSeq (K : PySem.W.Frag) (tl : TE) : TI := fun σ H R => tl σ H fun x H1 => ∃ a, x = .ref a ∧ (((∃ xs, SqL K H1 a xs) ∧ R (Itl K a) H1) ∨ ((∃ xs, SqT K H1 a xs) ∧ R (Itt K a) H1))
theorem pi_seq {X : Cx} {tg l : Expr} {tl : TE} (hl : PE X l tl) : PI X tg l (iSeq X.K tl) := by
  refine ⟨fun pins s σ H R I h => ?_⟩
  refine thn (hl.run pins s σ H _ I h) fun v s1 ⟨x, H1, I1, r1, q1⟩ => ?_
  obtain ⟨a, e, q⟩ := q1
  subst e
  cases r1
  rcases q with ⟨⟨xs, hq⟩, q⟩ | ⟨⟨xs, hq⟩, q⟩
  · obtain ⟨its, rv, p, hz⟩ := I1.list hq
    refine wpAny_pyIter_list p.isList ?_
    refine ⟨s1.heap.objs.size, [s1.heap.objs.size], _, _, H1, rfl, I1.kept (t' := s1.toks) fun b o e => Heap.get?_push_of_some _ e, turn_list a _, ⟨_, Heap.get?_push_size _ rfl, rfl, rfl⟩, fun b hb => ?_, q⟩
    have e : b = s1.heap.objs.size := by simpa using hb
    subst e
    exact I1.fpOk (Nat.le_refl _) (I1.hok.fresh (Nat.le_refl _))
  · obtain ⟨its, rv, p, hz⟩ := I1.tuple hq
    refine wpAny_pyIter_tuple (show s1.heap.IsTuple a its.toArray from p) ?_
    refine ⟨s1.heap.objs.size, [s1.heap.objs.size], _, _, H1, rfl, I1.kept (t' := s1.toks) fun b o e => Heap.get?_push_of_some _ e, turn_tuple a _, ⟨_, Heap.get?_push_size _ rfl, rfl, rfl⟩, fun b hb => ?_, q⟩
    have e : b = s1.heap.objs.size := by simpa using hb
    subst e
    exact I1.fpOk (Nat.le_refl _) (I1.hok.fresh (Nat.le_refl _))
section
variable {X : Cx} {F : Addr → Prop} {Wx : WX} {vs : List Nat} {a b c e tg : Expr} {es : List Expr} {pos p : Pos} {ia ib ic : IE} {s : Stmt} {ss : List Stmt} {ip iq : IS} {nn : IN}
theorem some_of {α : Type} {l : List α} {i : Nat} (h : i < l.length) : ∃ x, l[i]? = some x := ⟨l[i], by simp [h]⟩
theorem yd_list {K : PySem.W.Frag} {st : Stt} {σ : L2.St} {H : Hp} {ws : List W} {a : Addr} {vs : List V} (f : ∀ (Lv' : Addr → Prop) H', Mv (Live F st σ) H Lv' H' → SqL K H' a vs) (r : RelWs K (Live F st σ) H ws vs) : Yd K F (Itl K a) ws st σ H where
  go := fun i F' st' σ' H' hi l m => by
    obtain ⟨w, ew⟩ := some_of hi
    obtain ⟨v, ev, rv⟩ := r.get ew
    refine ⟨⟨vs, v, f _ _ m, ev⟩, fun x H2 y => ?_⟩
    obtain ⟨rfl, y⟩ := y
    have ex := y vs (f _ _ m)
    rw [ev] at ex
    cases ex
    exact ⟨w, ew, l, .refl, fun _ _ e => e, rv.mono m⟩
  stop := fun i F' st' σ' H' hi m => ⟨vs, f _ _ m, by rw [← r.length]; exact hi⟩
theorem yd_tup {K : PySem.W.Frag} {st : Stt} {σ : L2.St} {H : Hp} {ws : List W} {a : Addr} {vs : List V} (f : ∀ (Lv' : Addr → Prop) H', Mv (Live F st σ) H Lv' H' → SqT K H' a vs) (r : RelWs K (Live F st σ) H ws vs) : Yd K F (Itt K a) ws st σ H where
  go := fun i F' st' σ' H' hi l m => by
    obtain ⟨w, ew⟩ := some_of hi
    obtain ⟨v, ev, rv⟩ := r.get ew
    refine ⟨⟨vs, v, f _ _ m, ev⟩, fun x H2 y => ?_⟩
    obtain ⟨rfl, y⟩ := y
    have ex := y vs (f _ _ m)
    rw [ev] at ex
    cases ex
    exact ⟨w, ew, l, .refl, fun _ _ e => e, rv.mono m⟩
  stop := fun i F' st' σ' H' hi m => ⟨vs, f _ _ m, by rw [← r.length]; exact hi⟩
/-- the items of a value -/
def gItems (x : W) (P : List W → Prop) : Prop := match x with
  | .lst ws => P ws
  | .tup ws => P ws
  | .scr ns => P (ns.map .int)
  | _ => False
def lSeq (ia : IE) : IL := fun EI st Q => ia EI st fun x st1 => gItems x fun ws => Q ws st1
theorem l_seq (ha : PE X a (LE X.K F Wx ia)) : PI X tg a (LI X.K F Wx (lSeq ia)) := pi_imp (pi_seq ha) fun σ H R h => by
  obtain ⟨st, QI, EI, l, q, ux, k⟩ := h
  refine ⟨st, _, EI, l, q, ux, fun x st1 v H1 q1 l1 s1 r1 => ?_⟩
  unfold gItems at q1
  split at q1
  · cases r1 with
    | lst f r => exact ⟨_, rfl, .inl ⟨⟨_, f.sq⟩, k _ _ _ H1 q1 l1 s1 (yd_list (fun _ _ m => (f.mono m).sq) r)⟩⟩
  · cases r1 with
    | tup f r => exact ⟨_, rfl, .inr ⟨⟨_, f.sq⟩, k _ _ _ H1 q1 l1 s1 (yd_tup (fun _ _ m => (f.mono m).sq) r)⟩⟩
  · cases r1 with
    | scr f => exact ⟨_, rfl, .inl ⟨⟨_, f.sq⟩, k _ _ _ H1 q1 l1 s1 (yd_list (fun _ _ m => (f.mono m).sq) (RelWs.ints _))⟩⟩
  · exact q1.elim
/-- lo, lo + 1, .. -/
def rng (lo : Int) (n : Nat) : List W := (List.range n).map fun (i : Nat) => W.int (lo + (i : Int))
theorem rng_length (lo : Int) (n : Nat) : (rng lo n).length = n := by simp [rng]
theorem rng_get {lo : Int} {n i : Nat} (h : i < n) : (rng lo n)[i]? = some (.int (lo + i)) := by simp [rng, h]
theorem yd_range {K : PySem.W.Frag} {st : Stt} {σ : L2.St} {H : Hp} (lo : Int) (n : Nat) : Yd K F (Itr lo n) (rng lo n) st σ H where
  go := fun i F' st' σ' H' hi l m => by
    rw [rng_length] at hi
    refine ⟨hi, fun x H2 y => ?_⟩
    obtain ⟨rfl, rfl⟩ := y
    exact ⟨_, rng_get hi, l, .refl, fun _ _ e => e, .int _⟩
  stop := fun i F' st' σ' H' hi m => by
    rw [rng_length] at hi
    exact hi
def i62 (i : Int) : Prop := -(2 ^ 62) ≤ i ∧ i < 2 ^ 62
def lRange1 (ia : IE) : IL := fun EI st Q => ia EI st fun x st1 => match x with
  | .int j => i62 j ∧ Q (rng 0 j.toNat) st1
  | _ => False
theorem l_range1 (hm : X.mg "range" = none) (ha : PE X a (LE X.K F Wx ia)) (hg : Gl X "range" := by rfl) (hs : starEach [a] X.env = [(false, eval a X.env)] := by rfl) (hs2 : starEach [a] X.env = (false, eval a X.env) :: starEach [] X.env := by rfl) :
    PI X tg (.Call (.Name "range" p) [a] [] pos) (LI X.K F Wx (lRange1 ia)) := pi_imp (pi_range1 hg hm (pa_cons ha pa_nil hs2) hs) fun σ H R h => by
  obtain ⟨st, QI, EI, l, q, ux, k⟩ := h
  refine ⟨st, _, EI, l, q, ux, fun x st1 v H1 q1 l1 s1 r1 => ?_⟩
  split at q1
  · cases r1
    exact ⟨_, rfl, q1.1.1, q1.1.2, k _ _ _ H1 q1.2 l1 s1 (yd_range 0 _)⟩
  · exact q1.elim
def forGo (g : IG) (body : IS) (EI : XI) (D : IEnds) : List W → Stt → Prop
  | [], st => D.nx st
  | w :: ws, st => g w st fun st1 => body EI { nx := forGo g body EI D ws, ct := forGo g body EI D ws, bk := D.nx, rt := D.rt } st1
def sFor (il : IL) (g : IG) (body : IS) : IS := fun EI D st => il EI st fun ws st1 => forGo g body EI D ws st1
theorem s_for {iter : Expr} {body : List Stmt} {il : IL} {g : IG} (hp : PassesOwn (model X.prog X.w) X.A X.env X.xe) (hi : PI X tg iter (LI X.K F Wx il)) (hg : PG X tg (LG X.K F vs g)) (hb : PSs X body (LS X.K F Wx ip)) (hc : X.calm = true := by rfl)
    (hs : ∀ x, foldedSetIterable iter X.env x = pure x := by intro _; rfl) : PS X (.For tg iter body [] pos) (LS X.K F Wx (sFor il g ip)) := ps_imp (ps_for hp hc hi hg hb hs) fun D σ H h => by
  obtain ⟨st, DI, EI, l, q, u⟩ := h
  refine ⟨st, _, EI, l, q, u.x, fun ws st1 J H1 q1 l1 s1 y => ?_⟩
  refine ⟨fun i m σ' H' => m = ws.length - i ∧ i ≤ ws.length ∧ ∃ st', Lk X.K F st' σ' H' ∧ Step st1 σ H1 st' σ' H' ∧ forGo g ip EI DI (ws.drop i) st', ⟨ws.length, by simp, Nat.zero_le _, st1, l1, .refl, q1⟩, ?_⟩
  rintro i m σ' H' ⟨rfl, hi, st', l', s', q'⟩
  by_cases hlt : i < ws.length
  · obtain ⟨go, yl⟩ := y.go i F st' σ' H' hlt l' s'.mv
    refine .inr ⟨go, fun σ2 H2 => ∃ st2, Lk X.K F st2 σ2 H2 ∧ Step st1 σ H1 st2 σ2 H2 ∧ forGo g ip EI DI (ws.drop (i + 1)) st2, fun σ2 H2 ⟨st2, l2, s2, q2⟩ => ⟨ws.length - (i + 1), by omega, rfl, hlt, st2, l2, s2, q2⟩, fun x H2 yx => ?_⟩
    obtain ⟨w, ew, l2, s2, _, rw'⟩ := yl x H2 yx
    have ed : ws.drop i = w :: ws.drop (i + 1) := by
      obtain ⟨h1, h2⟩ := List.getElem?_eq_some_iff.mp ew
      rw [← h2]
      exact List.drop_eq_getElem_cons h1
    rw [ed] at q'
    refine ⟨w, st', _, l2, rw', q', fun st3 σ3 H3 q3 l3 s3 _ _ => ⟨st3, _, EI, l3, q3, ?_⟩⟩
    have sx : Step st σ H st3 σ3 H3 := ((s1.trans s').trans s2).trans s3
    exact ⟨u.xs.step sx, fun st4 σ4 H4 q4 l4 s4 => ⟨st4, l4, ((s'.trans s2).trans s3).trans s4, q4⟩, fun st4 σ4 H4 q4 l4 s4 => u.nx st4 σ4 H4 q4 l4 (sx.trans s4), fun st4 σ4 H4 q4 l4 s4 => ⟨st4, l4, ((s'.trans s2).trans s3).trans s4, q4⟩, fun r S' v H4 q4 h4 => u.rt r S' v H4 q4 (h4.step sx)⟩
  · have e : i = ws.length := by omega
    subst e
    rw [List.drop_length] at q'
    exact .inl ⟨y.stop _ F st' σ' H' (Nat.le_refl _) s'.mv, u.nx st' σ' H' q' l' (s1.trans s')⟩
def Stt.wipe (st : Stt) : List Nat → Stt
  | [] => st
  | v :: vs => (st.wipe vs).put v .none
theorem Lk.wipes {K : PySem.W.Frag} {st : Stt} {σ : L2.St} {H : Hp} (l : Lk K F st σ H) : ∀ vs : List Nat, Lk K F (st.wipe vs) (L2.wipe σ vs) H ∧ Step st σ H (st.wipe vs) (L2.wipe σ vs) H
  | [] => ⟨l, .refl⟩
  | v :: vs => by
    obtain ⟨l1, s1⟩ := l.wipes vs
    obtain ⟨l2, s2⟩ := l1.wipe (i := v) (x := none)
    exact ⟨l2, s1.trans s2⟩
abbrev noX : XI := fun _ _ => False
abbrev W0 : WX := fun _ _ _ _ => False
def lcGo (g : IG) (t : IT) (ie : IE) (vs : List Nat) (Q : SO → Stt → Prop) : List W → List W → Stt → Prop
  | [], acc, st => Q (.lst acc) st
  | w :: ws, acc, st => g w (st.wipe vs) fun st1 => t noX st1 fun b st2 => if b = true then ie noX st2 fun y st3 => acc.length < sizeLine ∧ lcGo g t ie vs Q ws (acc ++ [y]) st3 else lcGo g t ie vs Q ws acc st2
def nLc (il : IL) (g : IG) (t : IT) (ie : IE) (vs : List Nat) : IN := fun EI st Q => il EI st fun ws st1 => lcGo g t ie vs (fun o st2 => Q o (st2.wipe vs)) ws [] st1
theorem Lk.writeF {K : PySem.W.Frag} {st : Stt} {σ : L2.St} {H : Hp} {D : Addr} {u : HO} (l : Lk K F st σ H) (fd : F D) : Lk K F st σ (upd H D u) ∧ Mv (Live F st σ) H (Live F st σ) (upd H D u) := by
  have m : Mv (Live F st σ) H (Live F st σ) (upd H D u) := Mv.write (.inr fd) fun _ z => z
  refine ⟨⟨l.len, fun i w e => ?_, fun i o e => ?_, l.inj, fun a o e => (l.sto a o e).move (fun x q => ?_) m, fun a z => ?_, l.fdis⟩, m⟩
  · obtain ⟨v, e1, r⟩ := l.val i w e
    exact ⟨v, e1, r.mono m⟩
  · obtain ⟨a, e1, r, n1, n2⟩ := l.own i o e
    have na : a ≠ D := fun q => n2 (q ▸ fd)
    exact ⟨a, e1, r.move (fun x q => by rw [upd_ne na]; exact q) m, n1, n2⟩
  · have na : a ≠ D := fun z => by
      have q2 := l.fdis D fd
      rw [← z, e] at q2
      cases q2
    rw [upd_ne na]
    exact q
  · by_cases na : a = D
    · rw [na]
      exact ⟨u, upd_same⟩
    · obtain ⟨x, q⟩ := l.ftr a z
      exact ⟨x, by rw [upd_ne na]; exact q⟩
theorem Lk.nwr {K : PySem.W.Frag} {st : Stt} {σ : L2.St} {H : Hp} {D : Addr} (l : Lk K F st σ H) (fd : F D) : ¬ Wr st σ D := fun z => by
  rcases z with z | ⟨i, o, e1, e2⟩
  · exact z (l.fdis D fd)
  · obtain ⟨b, e3, _, _, n⟩ := l.own i o e1
    rw [e2] at e3
    cases e3
    exact n fd
/-- slots that hold nothing may hold anything -/
theorem wipe_get {i : Nat} : ∀ (vs : List Nat) (st : Stt) (σ : L2.St) {x : Slot}, (st.wipe vs).ρ[i]? = some x → x ≠ .none → (L2.wipe σ vs)[i]? = σ[i]?
  | [], _, _, _, _, _ => rfl
  | v :: vs, st, σ, x, e, n => by
    have e' : ((st.wipe vs).ρ.set v .none)[i]? = some x := e
    rcases get_set e' with ⟨_, z, _⟩ | ⟨nv, e'⟩
    · exact absurd z n
    · show ((L2.wipe σ vs).set v none)[i]? = σ[i]?
      rw [List.getElem?_set_ne (Ne.symm nv)]
      exact wipe_get vs st σ e' n
theorem ow_wipe {vs : List Nat} {st : Stt} {σ : L2.St} {a : Addr} : Ow (st.wipe vs).ρ σ a ↔ Ow (st.wipe vs).ρ (L2.wipe σ vs) a := by
  constructor
  · rintro ⟨i, o, e1, e2⟩
    exact ⟨i, o, e1, by rw [wipe_get vs st σ e1 (fun z => nomatch z)]; exact e2⟩
  · rintro ⟨i, o, e1, e2⟩
    exact ⟨i, o, e1, by rw [← wipe_get vs st σ e1 (fun z => nomatch z)]; exact e2⟩
theorem live_wipe {vs : List Nat} {st : Stt} {σ : L2.St} {a : Addr} : Live F (st.wipe vs) σ a ↔ Live F (st.wipe vs) (L2.wipe σ vs) a := by
  unfold Live Wr
  rw [ow_wipe]
theorem Lk.unwipe {K : PySem.W.Frag} {vs : List Nat} {st : Stt} {σ : L2.St} {H : Hp} (l : Lk K F (st.wipe vs) (L2.wipe σ vs) H) : Lk K F (st.wipe vs) σ H := by
  have lv : ∀ a, Live F (st.wipe vs) σ a → Live F (st.wipe vs) (L2.wipe σ vs) a := fun a z => live_wipe.mp z
  have m : Mv (Live F (st.wipe vs) (L2.wipe σ vs)) H (Live F (st.wipe vs) σ) H := mv_same lv
  refine ⟨by rw [l.len, L2.wipe_length], fun i w e => ?_, fun i o e => ?_, fun i j o o' a e1 e2 e3 e4 => ?_, fun a o e => (l.sto a o e).move (fun _ q => q) m, l.ftr, l.fdis⟩
  · obtain ⟨v, e1, r⟩ := l.val i w e
    exact ⟨v, by rw [← wipe_get vs st σ e (fun z => nomatch z)]; exact e1, r.mono m⟩
  · obtain ⟨a, e1, r, n1, n2⟩ := l.own i o e
    exact ⟨a, by rw [← wipe_get vs st σ e (fun z => nomatch z)]; exact e1, r.move (fun _ q => q) m, n1, n2⟩
  · exact l.inj i j o o' a e1 e2 (by rw [wipe_get vs st σ e1 (fun z => nomatch z)]; exact e3) (by rw [wipe_get vs st σ e2 (fun z => nomatch z)]; exact e4)
theorem Step.unwipe {vs : List Nat} {st st' : Stt} {σ σ' : L2.St} {H H' : Hp} (s : Step st σ H (st'.wipe vs) (L2.wipe σ' vs) H') : Step st σ H (st'.wipe vs) σ' H' :=
  ⟨s.keep, fun a z => s.new a (z.imp id fun z => ow_wipe.mp z)⟩
theorem mv_new {st st' : Stt} {σ σ' : L2.St} {H H' : Hp} {D : Addr} (s : Step st σ H st' σ' H') (e : H D = none) : Mv (Live F st σ) H (Live (FA F D) st' σ') H' := fun a u q n =>
  ⟨s.keep a u q fun z => n (.inl z), fun z => by
    rcases z with z | z | z
    · rcases s.new a z with z | z
      · exact n (.inl z)
      · rw [q] at z; cases z
    · exact n (.inr z)
    · rw [z, e] at q; cases q⟩
theorem wipe_sub {vs : List Nat} (σ : L2.St) : ∀ ws : List Nat, (∀ i ∈ ws, i ∈ vs) → L2.wipe (L2.wipe σ ws) vs = L2.wipe σ vs
  | [], _ => rfl
  | w :: ws, h => by
    show L2.wipe ((L2.wipe σ ws).set w none) vs = _
    rw [wipe_set _ (h w List.mem_cons_self), wipe_sub σ ws fun i hi => h i (List.mem_cons_of_mem _ hi)]
theorem lc_of {K : PySem.W.Frag} {il : IL} {g : IG} {t : IT} {ie : IE} {σ : L2.St} {H : Hp} {Q : VK} (h : LN K F Wx (nLc il g t ie vs) σ H Q) :
    tLc (LI K F Wx il) (fun v σ H Q => ∃ F', LG K F' vs g v σ H Q) (fun σ H Q => ∃ F', LT K F' W0 t σ H Q) (fun σ H Q => ∃ F', LE K F' W0 ie σ H Q) vs σ H Q := by
  obtain ⟨st, QI, EI, l, q, ux, k⟩ := h
  refine ⟨st, _, EI, l, q, ux, fun ws st1 J H1 q1 l1 s1 y D hD => ?_⟩
  refine ⟨fun i m Hc => m = ws.length - i ∧ i ≤ ws.length ∧ ∃ stc acc us, Lk K (FA F D) (stc.wipe vs) (L2.wipe σ vs) Hc ∧ Step st1 σ H1 (stc.wipe vs) (L2.wipe σ vs) Hc ∧ Hc D = some (.lst us) ∧ RelWs K (Live (FA F D) (stc.wipe vs) (L2.wipe σ vs)) Hc acc us ∧
    lcGo g t ie vs (fun o st2 => QI o (st2.wipe vs)) (ws.drop i) acc stc, ⟨ws.length, by simp, Nat.zero_le _, st1, [], [], ?_, ?_, upd_same, .nil, q1⟩, ?_⟩
  · exact ((l1.foreign hD).wipes vs).1
  · exact (Step.laid l1 hD).trans ((l1.laid hD).wipes vs).2
  rintro i m Hc ⟨rfl, hi, stc, acc, us, lc, sc, eD, ra, qc⟩
  have mv1 : Mv (Live F st1 σ) H1 (Live (FA F D) (stc.wipe vs) (L2.wipe σ vs)) Hc := mv_new sc hD
  by_cases hlt : i < ws.length
  · obtain ⟨go, yl⟩ := y.go i (FA F D) (stc.wipe vs) (L2.wipe σ vs) Hc hlt lc mv1
    refine .inr ⟨go, fun H' => ∃ stc acc us, Lk K (FA F D) (stc.wipe vs) (L2.wipe σ vs) H' ∧ Step st1 σ H1 (stc.wipe vs) (L2.wipe σ vs) H' ∧ H' D = some (.lst us) ∧ RelWs K (Live (FA F D) (stc.wipe vs) (L2.wipe σ vs)) H' acc us ∧
      lcGo g t ie vs (fun o st2 => QI o (st2.wipe vs)) (ws.drop (i + 1)) acc stc, fun H' ⟨stc, acc, us, z⟩ => ⟨ws.length - (i + 1), by omega, rfl, hlt, stc, acc, us, z⟩, fun x H2 yx => ?_⟩
    obtain ⟨w, ew, l2, s2, k2, rw'⟩ := yl x H2 yx
    have ed : ws.drop i = w :: ws.drop (i + 1) := by
      obtain ⟨h1, h2⟩ := List.getElem?_eq_some_iff.mp ew
      rw [← h2]
      exact List.drop_eq_getElem_cons h1
    rw [ed] at qc
    refine ⟨FA F D, w, stc.wipe vs, _, l2, rw', qc, fun st3 σ3 H3 q3 l3 s3 e3' k3 => ?_⟩
    have e3 : L2.wipe σ3 vs = L2.wipe σ vs := e3'.trans (wipe_sub σ vs fun _ z => z)
    refine ⟨e3, ?_⟩
    have eD3 : H3 D = some (.lst us) := k3 _ _ (k2 _ _ eD)
    have ra3 : RelWs K (Live (FA F D) st3 σ3) H3 acc us := ra.mono (s2.trans s3).mv
    refine ⟨FA F D, st3, _, noX, l3, q3, fun _ _ _ _ _ z => z.elim, fun b st4 H4 q4 l4 s4 => ?_⟩
    have eD4 : H4 D = some (.lst us) := s4.keep _ _ eD3 (l3.nwr (.inr rfl))
    have ra4 : RelWs K (Live (FA F D) st4 σ3) H4 acc us := ra3.mono s4.mv
    cases b with
    | false =>
      rw [if_neg Bool.false_ne_true] at q4
      refine iteF ⟨st4, acc, us, ?_⟩
      obtain ⟨l5, s5⟩ := l4.wipes vs
      rw [e3] at l5 s5
      exact ⟨l5, (((sc.trans s2).trans s3).trans s4).trans s5, eD4, ra4.mono s5.mv, q4⟩
    | true =>
      rw [if_pos rfl] at q4
      refine iteT ⟨FA F D, st4, _, noX, l4, q4, fun _ _ _ _ _ z => z.elim, fun w5 st5 v5 H5 q5 l5 s5 r5 => ?_⟩
      have eD5 : H5 D = some (.lst us) := s5.keep _ _ eD4 (l4.nwr (.inr rfl))
      have ra5 : RelWs K (Live (FA F D) st5 σ3) H5 acc us := ra4.mono s5.mv
      refine ⟨us, eD5, by rw [← ra5.length]; exact q5.1, st5, acc ++ [w5], us ++ [v5], ?_⟩
      obtain ⟨l6, s6⟩ := l5.wipes vs
      rw [e3] at l6 s6
      obtain ⟨l7, m7⟩ := l6.writeF (D := D) (u := .lst (us ++ [v5])) (.inr rfl)
      refine ⟨l7, ?_, upd_same, ((ra5.append (.cons r5 .nil)).mono s6.mv).mono m7, q5.2⟩
      have s8 := ((((sc.trans s2).trans s3).trans s4).trans s5).trans s6
      exact ⟨fun a u e n => by rw [upd_ne (ne_of_none e hD)]; exact s8.keep a u e n, s8.new⟩
  · have e : i = ws.length := by omega
    subst e
    rw [List.drop_length] at qc
    refine .inl ⟨y.stop _ (FA F D) (stc.wipe vs) (L2.wipe σ vs) Hc (Nat.le_refl _) mv1, ?_⟩
    exact k (.lst acc) (stc.wipe vs) D Hc qc lc.unwipe (s1.trans sc.unwipe) ⟨us, eD, ra.mono (mv_same fun a z => live_wipe.mp z)⟩ (NewAt.step s1 (.inr hD))
theorem pt_ex {i : IT} {Wx : WX} (h : ∀ F, PT X e (LT X.K F Wx i)) : PT X e (fun σ H Q => ∃ F, LT X.K F Wx i σ H Q) := ⟨fun pins s σ H Q I ⟨F, q⟩ => (h F).run pins s σ H Q I q⟩
theorem pg_ex {g : IG} (h : ∀ F, PG X e (LG X.K F vs g)) : PG X e (fun v σ H Q => ∃ F, LG X.K F vs g v σ H Q) := ⟨fun pins s σ H v u Q I r ⟨F, q⟩ => (h F).run pins s σ H v u Q I r q⟩
def tYes' : IT := fun _ st Q => Q true st
structure PTI (X : Cx) (ifs : List Expr) (t : IT) : Prop where
  it : PTs X ifs (fun σ H Q => ∃ F, LT X.K F W0 t σ H Q)
theorem ti_nil : PTI X [] tYes' := ⟨⟨fun pins s σ H Q I ⟨F, st, QI, EI, l, q, ux, k⟩ => pts_nil.run pins s σ H Q I (k true st H q l .refl)⟩⟩
theorem ti_one {t : IT} (h : ∀ F, PT X c (LT X.K F W0 t)) : PTI X [c] t := ⟨pts_one (pt_ex h)⟩
variable {elt iter : Expr} {ifs : List Expr} {scope : Scope} {il : IL} {g : IG} {t : IT} {ie : IE}
theorem n_lc (own : List (Str × Nat)) (hN : X.N.Nodup) (hi : PI X tg iter (LI X.K F Wx il)) (ok : BlkOk X.N X.env.scope scope own)
    (hg : ∀ (s : Shared) (H : Hp) (C : Addr) (cl : List (Str × Addr)) (fp : List Addr) F, PG (X.blk s H scope (compEnvC scope cl C X.env) fp) tg (LG X.K F (own.map (·.2)) g))
    (ht : ∀ (s : Shared) (H : Hp) (C : Addr) (cl : List (Str × Addr)) (fp : List Addr), PTI (X.blk s H scope (compEnvC scope cl C X.env) fp) ifs t)
    (he : ∀ (s : Shared) (H : Hp) (C : Addr) (cl : List (Str × Addr)) (fp : List Addr) F, PE (X.blk s H scope (compEnvC scope cl C X.env) fp) elt (LE X.K F W0 ie)) (hc : X.calm = true := by rfl) (hs : ∀ x, foldedSetIterable iter X.env x = pure x := by intro _; rfl) :
    PE X (.ListComp elt [⟨tg, iter, ifs, 0⟩] scope pos) (LN X.K F Wx (nLc il g t ie (own.map (·.2)))) :=
  pe_imp (pe_lc hc hN hi ok (fun s H C cl fp => pg_ex fun F => hg s H C cl fp F) (fun s H C cl fp => (ht s H C cl fp).it) (fun s H C cl fp => pe_ex fun F => he s H C cl fp F) hs) fun _ _ _ h => lc_of h
end
end Sh
namespace Sh
open PySem L2
open PyProof.Rows hiding St
section
variable {X : Cx} {F : Addr → Prop} {Wx : WX} {a b c e o : Expr} {es : List Expr} {pos p apos cpos : Pos} {ia ib ic : IE} {i : IA} {n : Nat} {x name : Str} {id : String}
/-- from the items and the arguments: the items behind, the value -/
def MtG (r : V → List V → Hp → VK → Prop) (g : List W → List W → (List W → W → Prop) → Prop) : Prop :=
  ∀ {K : PySem.W.Frag} {Lv : Addr → Prop} {H : Hp} {l : Addr} {ws as : List W} {vs us : List V} {P : List W → W → Prop} {Q : VK}, g ws as P → H l = some (.lst vs) → RelWs K Lv H ws vs → RelWs K Lv H as us →
    (∀ ws' w vs' v, P ws' w → RelWs K Lv H ws' vs' → RelW K Lv H w v → Q v (upd H l (.lst vs'))) → r (.ref l) us H Q
def iMtO (j : Nat) (g : List W → List W → (List W → W → Prop) → Prop) (i : IA) : IE := fun EI st Q => ownL st j fun _ => i EI st fun as st1 => ownL st1 j fun ws => g ws as fun ws' w => Q w (st1.put j (.own (.lst ws')))
theorem i_mtO (j : Nat) {px : Pos} {r : V → List V → Hp → VK → Prop} {g : List W → List W → (List W → W → Prop) → Prop} (hg : MtG r g) (hm : MtR X id r) (slot : PySem.Slot "list" name id) (hty : typeOf (.builtin id) = pure (.type "method_descriptor")) (ha : PA X (e :: es) (LA X.K F Wx n i))
    (hN : X.N[j]? = some x := by rfl) (hv : Vis X.env.scope x := by first | exact Or.inl rfl | exact Or.inr (Or.inl rfl) | exact Or.inr (Or.inr rfl)) (hd : (x == ("__debug__" : Str)) = false := by decide) (hcd : (x == ("__classdict__" : Str)) = false := by decide)
    (hbase : attributeBase (.Name x px) name X.env (eval (.Name x px) X.env) = eval (.Name x px) X.env := by rfl)
    (hfew : ((backTo cpos (starEach (e :: es) X.env)).all (fun x => !x.1) && (backToKw cpos (keywordEach [] X.env)).all (fun x => x.1.isSome) && decide ((e :: es).length + ([] : List Keyword).length + (if ([] : List Keyword).isEmpty then 0 else 1) < 30)) = true := by rfl)
    (hline : (apos.endLine == cpos.line) = true := by rfl) (hs : starEach (e :: es) X.env = (false, eval e X.env) :: starEach es X.env := by rfl) (hplain : (backTo cpos (starEach es X.env)).any (·.1) = false := by rfl) :
    PE X (.Call (.Attribute (.Name x px) name apos) (e :: es) [] cpos) (LE X.K F Wx (iMtO j g i)) := by
  refine pe_imp (pe_bm PySem.F.plainAttrs_list slot hty hm (pe_var hN hv hd hcd) ha hbase hfew hline hs hplain) fun σ H Q h => ?_
  obtain ⟨st, QI, EI, l, q, ux, k⟩ := h
  obtain ⟨ws0, e0, q⟩ := ownL_inv q
  obtain ⟨b, eb, ⟨vs0, hv0, r0⟩, _⟩ := l.own j _ e0
  refine ⟨.ref b, eb, .inl ⟨rfl, _, SqL.of hv0⟩, st, _, EI, l, q, ux, fun as st1 us H1 hn q1 l1 s1 r1 => ?_⟩
  obtain ⟨ws, e1, q1⟩ := ownL_inv q1
  obtain ⟨b', eb', ⟨vs, hv1, rs⟩, _⟩ := l1.own j _ e1
  rw [eb] at eb'
  cases eb'
  refine hg q1 hv1 rs r1 fun ws' w vs' v p r2 rw' => ?_
  have la : Live F st1 σ b := .inl (.inr ⟨j, _, e1, eb⟩)
  have m : Mv (Live F st1 σ) H1 (Live F st1 σ) (upd H1 b (.lst vs')) := Mv.write la fun _ z => z
  obtain ⟨l2, s2⟩ := l1.write (o' := .lst ws') (u := .lst vs') e1 eb ⟨vs', upd_same, r2.mono m⟩
  exact k w _ v _ p l2 (s1.trans s2) (rw'.mono s2.mv)
def gAppend : List W → List W → (List W → W → Prop) → Prop := fun ws as P => match as with
  | [y] => ws.length < sizeLine ∧ P (ws ++ [y]) .non
  | _ => False
theorem mg_append : MtG rAppend gAppend := by
  intro K Lv H l ws as vs us P Q h hl rs ra k
  unfold gAppend at h
  split at h
  · cases ra with
    | cons r1 r2 =>
      cases r2
      exact ⟨l, vs, _, rfl, rfl, hl, by rw [← rs.length]; exact h.1, k _ _ _ _ h.2 (rs.append (.cons r1 .nil)) .non⟩
  · exact h.elim
abbrev rInsert : V → List V → Hp → VK → Prop := fun x vs H Q => ∃ (l : Addr) (xs : List V) (i : Int) (y : V), x = .ref l ∧ vs = [.int i, y] ∧ H l = some (.lst xs) ∧ xs.length < sizeLine ∧ 0 ≤ i ∧ i < 2 ^ 63 ∧
    Q .non (upd H l (.lst (xs.take i.toNat ++ [y] ++ xs.drop i.toNat)))
def gInsert : List W → List W → (List W → W → Prop) → Prop := fun ws as P => match as with
  | [.int i, y] => ws.length < sizeLine ∧ 0 ≤ i ∧ i < 2 ^ 63 ∧ P (ws.take i.toNat ++ [y] ++ ws.drop i.toNat) .non
  | _ => False
theorem mg_insert : MtG rInsert gInsert := by
  intro K Lv H l ws as vs us P Q h hl rs ra k
  unfold gInsert at h
  split at h
  · cases ra with
    | cons r1 r2 =>
      cases r1
      cases r2 with
      | cons r2 r3 =>
        cases r3
        exact ⟨l, vs, _, _, rfl, rfl, hl, by rw [← rs.length]; exact h.1, h.2.1, h.2.2.1, k _ _ _ _ h.2.2.2 (((rs.take _).append (.cons r2 .nil)).append (rs.drop _)) .non⟩
  · exact h.elim
def gExtend : List W → List W → (List W → W → Prop) → Prop := fun ws as P => match as with
  | [.lst ys] => ws.length + ys.length ≤ sizeLine ∧ P (ws ++ ys) .non
  | _ => False
def setW (ws : List W) (i : Int) (y : W) (P : List W → Prop) : Prop := match ixN ws.length i with
  | some j => P (ws.set j y)
  | none => False
theorem setW_inv {ws : List W} {i : Int} {y : W} {P : List W → Prop} (h : setW ws i y P) : ∃ j, ixN ws.length i = some j ∧ P (ws.set j y) := by
  unfold setW at h
  split at h
  · exact ⟨_, by assumption, h⟩
  · exact h.elim
theorem RelWs.set {K : PySem.W.Frag} {Lv : Addr → Prop} {H : Hp} {y : W} {v : V} (r : RelW K Lv H y v) : ∀ {ws : List W} {vs : List V} (j : Nat), RelWs K Lv H ws vs → RelWs K Lv H (ws.set j y) (vs.set j v)
  | _, _, _, .nil => .nil
  | _, _, 0, .cons _ t => .cons r t
  | _, _, j + 1, .cons q t => .cons q (RelWs.set r j t)
/-- of an owned list -/
def sIxO (j : Nat) (ii ie : IE) : IS := fun EI D st => ie EI st fun w st1 => ownL st1 j fun _ => ii EI st1 fun y st2 => ownL st2 j fun ws => match y with
  | .int k => setW ws k w fun ws' => D.nx (st2.put j (.own (.lst ws')))
  | _ => False
theorem s_ixO (j : Nat) {px tp : Pos} {ii ie : IE} {b : Expr} (he : PE X e (LE X.K F Wx ie)) (hi : PE X b (LE X.K F Wx ii)) (hN : X.N[j]? = some x := by rfl) (hv : Vis X.env.scope x := by first | exact Or.inl rfl | exact Or.inr (Or.inl rfl) | exact Or.inr (Or.inr rfl)) (hd : (x == ("__debug__" : Str)) = false := by decide)
    (hcd : (x == ("__classdict__" : Str)) = false := by decide) (hs : swapsWithSole [.Subscript (.Name x px) b tp] e pos.line X.env = pure false := by rfl) (hw : swappedStores [.Subscript (.Name x px) b tp] e X.env = pure none := by rfl)
    (h1 : (assignEach [.Subscript (.Name x px) b tp] X.env).map (·.2) = [assign (.Subscript (.Name x px) b tp) X.env] := by rfl)
    (ha : ∀ v, assign (.Subscript (.Name x px) b tp) X.env v = (do
      let ov ← holding [v] (eval (.Name x px) X.env)
      let iv ← holding [v, ov] (eval b X.env)
      standAt tp
      holding [v, ov, iv] (setItem ov iv v)
      release [v, ov, iv] []) := by intro _; rfl) :
    PS X (.Assign [.Subscript (.Name x px) b tp] e pos) (LS X.K F Wx (sIxO j ii ie)) := ps_imp (ps_asg he (pg_sub (pe_var hN hv hd hcd) hi set_list ha) hs hw h1) fun D σ H h => by
  obtain ⟨st, DI, EI, l, q, u⟩ := h
  refine ⟨st, _, EI, l, q, u.x, fun w st1 v H1 q1 l1 s1 r1 => ?_⟩
  obtain ⟨ws0, e0, q1⟩ := ownL_inv q1
  obtain ⟨b', eb, _⟩ := l1.own j _ e0
  refine ⟨.ref b', eb, st1, _, EI, l1, q1, u.x.step s1, fun y st2 v2 H2 q2 l2 s2 r2 => ?_⟩
  obtain ⟨ws, e1, q2⟩ := ownL_inv q2
  obtain ⟨b2, eb2, ⟨vs, hv1, rs⟩, _⟩ := l2.own j _ e1
  rw [eb] at eb2
  cases eb2
  split at q2
  · cases r2
    obtain ⟨jj, ej, p⟩ := setW_inv q2
    refine ⟨b', vs, _, jj, rfl, rfl, hv1, by rw [← rs.length]; exact ej, ?_⟩
    have la : Live F st2 σ b' := .inl (.inr ⟨j, _, e1, eb⟩)
    have m : Mv (Live F st2 σ) H2 (Live F st2 σ) (upd H2 b' (.lst (vs.set jj v))) := Mv.write la fun _ z => z
    obtain ⟨l3, s3⟩ := l2.write (o' := .lst (ws.set jj w)) (u := .lst (vs.set jj v)) e1 eb ⟨_, upd_same, (rs.set (r1.mono s2.mv) jj).mono m⟩
    exact u.nx _ _ _ p l3 ((s1.trans s2).trans s3)
  · exact q2.elim
/-- a list of the store, by a name -/
def stoL (st : Stt) (j : Nat) (P : Addr → List W → Prop) : Prop := match st.ρ[j]? with
  | some (.val (.ref a)) => (match st.S a with
    | some (.lst ws) => P a ws
    | _ => False)
  | _ => False
theorem stoL_inv {st : Stt} {j : Nat} {P : Addr → List W → Prop} (h : stoL st j P) : ∃ a ws, st.ρ[j]? = some (.val (.ref a)) ∧ st.S a = some (.lst ws) ∧ P a ws := by
  unfold stoL at h
  split at h
  · split at h
    · exact ⟨_, _, by assumption, by assumption, h⟩
    · exact h.elim
  · exact h.elim
def sIxS (j : Nat) (ii ie : IE) : IS := fun EI D st => ie EI st fun w st1 => stoL st1 j fun _ _ => ii EI st1 fun y st2 => stoL st2 j fun a ws => match y with
  | .int k => setW ws k w fun ws' => D.nx (st2.puts a (.lst ws'))
  | _ => False
theorem s_ixS (j : Nat) {px tp : Pos} {ii ie : IE} {b : Expr} (he : PE X e (LE X.K F Wx ie)) (hi : PE X b (LE X.K F Wx ii)) (hN : X.N[j]? = some x := by rfl) (hv : Vis X.env.scope x := by first | exact Or.inl rfl | exact Or.inr (Or.inl rfl) | exact Or.inr (Or.inr rfl)) (hd : (x == ("__debug__" : Str)) = false := by decide)
    (hcd : (x == ("__classdict__" : Str)) = false := by decide) (hs : swapsWithSole [.Subscript (.Name x px) b tp] e pos.line X.env = pure false := by rfl) (hw : swappedStores [.Subscript (.Name x px) b tp] e X.env = pure none := by rfl)
    (h1 : (assignEach [.Subscript (.Name x px) b tp] X.env).map (·.2) = [assign (.Subscript (.Name x px) b tp) X.env] := by rfl)
    (ha : ∀ v, assign (.Subscript (.Name x px) b tp) X.env v = (do
      let ov ← holding [v] (eval (.Name x px) X.env)
      let iv ← holding [v, ov] (eval b X.env)
      standAt tp
      holding [v, ov, iv] (setItem ov iv v)
      release [v, ov, iv] []) := by intro _; rfl) :
    PS X (.Assign [.Subscript (.Name x px) b tp] e pos) (LS X.K F Wx (sIxS j ii ie)) := ps_imp (ps_asg he (pg_sub (pe_var hN hv hd hcd) hi set_list ha) hs hw h1) fun D σ H h => by
  obtain ⟨st, DI, EI, l, q, u⟩ := h
  refine ⟨st, _, EI, l, q, u.x, fun w st1 v H1 q1 l1 s1 r1 => ?_⟩
  obtain ⟨a0, ws0, e0, _, q1⟩ := stoL_inv q1
  obtain ⟨v0, ev, r0⟩ := l1.val j _ e0
  cases r0
  refine ⟨.ref a0, ev, st1, _, EI, l1, q1, u.x.step s1, fun y st2 v2 H2 q2 l2 s2 r2 => ?_⟩
  obtain ⟨a1, ws, e1, es, q2⟩ := stoL_inv q2
  obtain ⟨v1, ev1, r1'⟩ := l2.val j _ e1
  rw [ev] at ev1
  cases ev1
  cases r1'
  split at q2
  · cases r2
    obtain ⟨jj, ej, p⟩ := setW_inv q2
    obtain ⟨vs, hv1, rs⟩ := l2.sto _ _ es
    refine ⟨a0, vs, _, jj, rfl, rfl, hv1, by rw [← rs.length]; exact ej, ?_⟩
    have la : Live F st2 σ a0 := .inl (.inl (by rw [es]; exact fun z => nomatch z))
    have m : Mv (Live F st2 σ) H2 (Live F st2 σ) (upd H2 a0 (.lst (vs.set jj v))) := Mv.write la fun _ z => z
    obtain ⟨l3, s3⟩ := l2.writeS (o' := .lst (ws.set jj w)) (u := .lst (vs.set jj v)) es ⟨_, upd_same, (rs.set (r1.mono s2.mv) jj).mono m⟩
    exact u.nx _ _ _ p l3 ((s1.trans s2).trans s3)
  · exact q2.elim
/-- xs[i] += e, a list of the store, numbers, i not below 0 -/
def rGetL : V → V → Hp → VK → Prop := fun x y H Q => ∃ p xs i v, x = .ref p ∧ y = .int i ∧ H p = some (.lst xs) ∧ 0 ≤ i ∧ i < 2 ^ 62 ∧ xs[i.toNat]? = some v ∧ Q v H
theorem get_list : PGet X rGetL := by
  intro pins s σ H x y v u Q I rx ry h
  obtain ⟨p, xs, i, z, rfl, rfl, hp, h0, h1, hz, q⟩ := h
  cases rx
  obtain ⟨t, rfl⟩ := ry
  obtain ⟨its, r, pl, _⟩ := I.list (SqL.of hp)
  obtain ⟨w, ew, rw'⟩ := r.get hz
  exact wpAny_getItem_list pl.isList h0 (by omega) (by simpa using ew) ⟨z, H, I, rw', q⟩
def sAugS (j : Nat) (f : Int → Int → Int) (ii ie : IE) : IS := fun EI D st => stoL st j fun _ _ => ii EI st fun y st1 => stoL st1 j fun _ ws => match y with
  | .int k => 0 ≤ k ∧ k < 2 ^ 62 ∧ (match ws[k.toNat]? with
    | some (.int n) => ie EI st1 fun z st2 => stoL st2 j fun a ws2 => (match z with
      | .int m => setW ws2 k (.int (f n m)) fun ws' => D.nx (st2.puts a (.lst ws'))
      | _ => False)
    | _ => False)
  | _ => False
theorem s_augS (j : Nat) {px tp : Pos} {ii ie : IE} {b : Expr} {op : Operator} {f : Int → Int → Int} (ho : PIp X op (ipI f)) (he : PE X e (LE X.K F Wx ie)) (hi : PE X b (LE X.K F Wx ii)) (hN : X.N[j]? = some x := by rfl) (hv : Vis X.env.scope x := by first | exact Or.inl rfl | exact Or.inr (Or.inl rfl) | exact Or.inr (Or.inr rfl)) (hd : (x == ("__debug__" : Str)) = false := by decide)
    (hcd : (x == ("__classdict__" : Str)) = false := by decide) (ha : ∀ ov iv new, augStore b ov iv new = (do holding [new, ov, iv] (setItem ov iv new); release [new, ov, iv] []; pure .next) := by intros; rfl) :
    PS X (.AugAssign (.Subscript (.Name x px) b tp) op e pos) (LS X.K F Wx (sAugS j f ii ie)) := ps_imp (ps_augS (pe_var hN hv hd hcd) hi get_list he ho set_list ha) fun D σ H h => by
  obtain ⟨st, DI, EI, l, q, u⟩ := h
  obtain ⟨a0, ws0, e0, _, q⟩ := stoL_inv q
  obtain ⟨v0, ev, r0⟩ := l.val j _ e0
  cases r0
  refine ⟨.ref a0, ev, st, _, EI, l, q, u.x, fun y st1 v1 H1 q1 l1 s1 r1 => ?_⟩
  obtain ⟨a1, ws1, e1, es1, q1⟩ := stoL_inv q1
  obtain ⟨v1', ev1, r1'⟩ := l1.val j _ e1
  rw [ev] at ev1
  cases ev1
  cases r1'
  split at q1
  · cases r1
    obtain ⟨hk0, hk1, q1⟩ := q1
    split at q1
    · rename_i m ew
      obtain ⟨vs1, hv1, rs1⟩ := l1.sto _ _ es1
      obtain ⟨z1, ez, rz⟩ := rs1.get ew
      cases rz
      refine ⟨a0, vs1, _, .int m, rfl, rfl, hv1, hk0, hk1, ez, st1, _, EI, l1, q1, u.x.step s1, fun z st2 v2 H2 q2 l2 s2 r2 => ?_⟩
      obtain ⟨a2, ws2, e2, es2, q2⟩ := stoL_inv q2
      obtain ⟨v2', ev2, r2'⟩ := l2.val j _ e2
      rw [ev] at ev2
      cases ev2
      cases r2'
      split at q2
      · rename_i m2
        cases r2
        obtain ⟨jj, ej, p⟩ := setW_inv q2
        obtain ⟨vs, hv2, rs⟩ := l2.sto _ _ es2
        refine ⟨_, _, rfl, rfl, a0, vs, _, jj, rfl, rfl, hv2, by rw [← rs.length]; exact ej, ?_⟩
        have la : Live F st2 σ a0 := .inl (.inl (by rw [es2]; exact fun z => nomatch z))
        have key : ∀ c : Int, Lk X.K F (st2.puts a0 (.lst (ws2.set jj (.int c)))) σ (upd H2 a0 (.lst (vs.set jj (.int c)))) ∧ Step st2 σ H2 (st2.puts a0 (.lst (ws2.set jj (.int c)))) σ (upd H2 a0 (.lst (vs.set jj (.int c)))) := fun c => by
          have m' : Mv (Live F st2 σ) H2 (Live F st2 σ) (upd H2 a0 (.lst (vs.set jj (.int c)))) := Mv.write la fun _ z => z
          exact l2.writeS es2 ⟨_, upd_same, (rs.set (.int c) jj).mono m'⟩
        obtain ⟨l3, s3⟩ := key _
        exact u.nx _ _ _ p l3 ((s1.trans s2).trans s3)
      · exact q2.elim
    · exact q1.elim
  · exact q1.elim
def gLen : List W → (W → Prop) → Prop := fun ws P => match ws with
  | [.str y] => y.length ≤ sizeLine ∧ P (.int y.length)
  | [.tup ys] => P (.int ys.length)
  | [.lst ys] => P (.int ys.length)
  | [.scr ns] => P (.int ns.length)
  | _ => False
theorem bt_len {K : PySem.W.Frag} : BtG K (fun xs H Q => ∃ x n, xs = [x] ∧ LenV K x H n ∧ Q (.int n) H) gLen := by
  intro F st σ H ws vs P Q h l r k
  unfold gLen at h
  split at h
  · cases r with
    | cons r1 r2 =>
      cases r2
      cases r1
      exact ⟨_, _, rfl, ⟨h.1, rfl⟩, k _ _ H h.2 l .refl (.int _)⟩
  · cases r with
    | cons r1 r2 =>
      cases r2
      cases r1 with
      | tup f rs => exact ⟨_, _, rfl, .inr ⟨_, f.sq, rfl⟩, by rw [← rs.length]; exact k _ _ H h l .refl (.int _)⟩
  · cases r with
    | cons r1 r2 =>
      cases r2
      cases r1 with
      | lst f rs => exact ⟨_, _, rfl, .inl ⟨_, f.sq, rfl⟩, by rw [← rs.length]; exact k _ _ H h l .refl (.int _)⟩
  · cases r with
    | cons r1 r2 =>
      cases r2
      cases r1 with
      | scr f => exact ⟨_, _, rfl, .inl ⟨_, f.sq, rfl⟩, by rw [List.length_map]; exact k _ _ H h l .refl (.int _)⟩
  · exact h.elim
theorem i_len (hm : X.mg "len" = none) (ha : PA X (e :: es) (LA X.K F Wx n i)) (hg : Gl X "len" := by rfl) (he : starEach (e :: es) X.env = (false, eval e X.env) :: starEach es X.env := by rfl) (hpl : (backTo pos (starEach es X.env)).any (·.1) = false := by rfl) :
    PE X (.Call (.Name "len" p) (e :: es) [] pos) (LE X.K F Wx (iFn gLen i)) := i_fn call_len bt_len hm PySem.boot_len ha hg (by decide) (by decide) he hpl
/-- len of an owned list -/
def iLenO (j : Nat) : IE := fun _ st Q => ownL st j fun ws => Q (.int ws.length) st
theorem i_lenO (j : Nat) {px : Pos} (hm : X.mg "len" = none) (hN : X.N[j]? = some x := by rfl) (hv : Vis X.env.scope x := by first | exact Or.inl rfl | exact Or.inr (Or.inl rfl) | exact Or.inr (Or.inr rfl)) (hd : (x == ("__debug__" : Str)) = false := by decide)
    (hcd : (x == ("__classdict__" : Str)) = false := by decide) (hg : Gl X "len" := by rfl) (he : starEach [.Name x px] X.env = (false, eval (.Name x px) X.env) :: starEach [] X.env := by rfl) (hpl : (backTo pos (starEach [] X.env)).any (·.1) = false := by rfl) :
    PE X (.Call (.Name "len" p) [.Name x px] [] pos) (LE X.K F Wx (iLenO j)) := pe_imp (pe_callB call_len hg hm PySem.boot_len (pa_cons (pe_var hN hv hd hcd) pa_nil he) (by decide) (by decide) he hpl) fun σ H Q h => by
  obtain ⟨st, QI, EI, l, q, ux, k⟩ := h
  obtain ⟨ws, e0, q⟩ := ownL_inv q
  obtain ⟨b, eb, ⟨vs, hv, rs⟩, _⟩ := l.own j _ e0
  exact ⟨.ref b, eb, _, _, rfl, .inl ⟨_, SqL.of hv, rfl⟩, by rw [← rs.length]; exact k _ _ _ H q l .refl (.int _)⟩
def gAbs : List W → (W → Prop) → Prop := fun ws P => match ws with
  | [.int j] => P (.int (if j < 0 then -j else j))
  | _ => False
theorem bt_abs {K : PySem.W.Frag} : BtG K (fun xs H Q => ∃ i, xs = [.int i] ∧ Q (.int (if i < 0 then -i else i)) H) gAbs := by
  intro F st σ H ws vs P Q h l r k
  unfold gAbs at h
  split at h
  · cases r with
    | cons r1 r2 =>
      cases r2
      cases r1
      exact ⟨_, rfl, k _ _ H h l .refl (.int _)⟩
  · exact h.elim
theorem boot_abs' : bootBuiltins "abs" = some (.builtin "abs") := by decide +kernel
theorem i_abs (hm : X.mg "abs" = none) (ha : PA X (e :: es) (LA X.K F Wx n i)) (hg : Gl X "abs" := by rfl) (he : starEach (e :: es) X.env = (false, eval e X.env) :: starEach es X.env := by rfl) (hpl : (backTo pos (starEach es X.env)).any (·.1) = false := by rfl) :
    PE X (.Call (.Name "abs" p) (e :: es) [] pos) (LE X.K F Wx (iFn gAbs i)) := i_fn call_abs bt_abs hm boot_abs' ha hg (by decide) (by decide) he hpl
def gInt : List W → (W → Prop) → Prop := fun ws P => match ws with
  | [.int j] => P (.int j)
  | [.bl k] => P (.int (if k then 1 else 0))
  | _ => False
theorem bt_int {K : PySem.W.Frag} : BtG K (fun xs H Q => (∃ i, xs = [.int i] ∧ Q (.int i) H) ∨ ∃ k, xs = [.bl k] ∧ Q (.int (if k then 1 else 0)) H) gInt := by
  intro F st σ H ws vs P Q h l r k
  unfold gInt at h
  split at h
  · cases r with
    | cons r1 r2 =>
      cases r2
      cases r1
      exact .inl ⟨_, rfl, k _ _ H h l .refl (.int _)⟩
  · cases r with
    | cons r1 r2 =>
      cases r2
      cases r1
      exact .inr ⟨_, rfl, k _ _ H h l .refl (.int _)⟩
  · exact h.elim
theorem boot_int' : bootBuiltins "int" = some (.type "int") := by decide +kernel
theorem i_toint (hm : X.mg "int" = none) (ha : PA X (e :: es) (LA X.K F Wx n i)) (hg : Gl X "int" := by rfl) (he : starEach (e :: es) X.env = (false, eval e X.env) :: starEach es X.env := by rfl) (hpl : (backTo pos (starEach es X.env)).any (·.1) = false := by rfl) :
    PE X (.Call (.Name "int" p) (e :: es) [] pos) (LE X.K F Wx (iFn gInt i)) := i_ty call_int1 bt_int hm boot_int' ha hg (by decide) (by decide) he hpl
def gMinMax (f : Int → Int → Int) : List W → (W → Prop) → Prop := fun ws P => match ws with
  | [.int a, .int b] => P (.int (f a b))
  | _ => False
/-- list(x), tuple(x) -/
def gList : List W → (W → Prop) → Prop := fun ws P => match ws with
  | [.lst ys] => P (.lst ys)
  | [.tup ys] => P (.lst ys)
  | _ => False
theorem bt_list {K : PySem.W.Frag} : BtG K (fun xs H Q => ∃ p ys, xs = [.ref p] ∧ (SqL K H p ys ∨ SqT K H p ys) ∧ ∀ l, H l = none → Q (.ref l) (upd H l (.lst ys))) gList := by
  intro F st σ H ws vs P Q h l r k
  have key : ∀ (ys : List W) (us : List V), RelWs K (Live F st σ) H ys us → P (.lst ys) → ∀ q, H q = none → Q (.ref q) (upd H q (.lst us)) := fun ys us rs p q hq => by
    have s := Step.laid (o := .lst us) l hq
    exact k _ _ _ p (l.laid hq) s (.lst (FzL.new l hq) (rs.mono s.mv))
  unfold gList at h
  split at h
  · cases r with
    | cons r1 r2 =>
      cases r2
      cases r1 with
      | lst f rs => exact ⟨_, _, rfl, .inl f.sq, key _ _ rs h⟩
  · cases r with
    | cons r1 r2 =>
      cases r2
      cases r1 with
      | tup f rs => exact ⟨_, _, rfl, .inr f.sq, key _ _ rs h⟩
  · exact h.elim
theorem boot_list' : bootBuiltins "list" = some (.type "list") := by decide +kernel
theorem boot_tuple' : bootBuiltins "tuple" = some (.type "tuple") := by decide +kernel
theorem i_list (hm : X.mg "list" = none) (ha : PA X (e :: es) (LA X.K F Wx n i)) (hg : Gl X "list" := by rfl) (he : starEach (e :: es) X.env = (false, eval e X.env) :: starEach es X.env := by rfl) (hpl : (backTo pos (starEach es X.env)).any (·.1) = false := by rfl) :
    PE X (.Call (.Name "list" p) (e :: es) [] pos) (LE X.K F Wx (iFn gList i)) := i_ty call_list_of bt_list hm boot_list' ha hg (by decide) (by decide) he hpl
def gTuple : List W → (W → Prop) → Prop := fun ws P => match ws with
  | [.lst ys] => P (.tup ys)
  | [.tup ys] => P (.tup ys)
  | _ => False
theorem bt_tuple {K : PySem.W.Frag} : BtG K (fun xs H Q => ∃ p ys, xs = [.ref p] ∧ ((SqL K H p ys ∧ ∀ l, H l = none → Q (.ref l) (upd H l (.tup ys))) ∨ (SqT K H p ys ∧ Q (.ref p) H))) gTuple := by
  intro F st σ H ws vs P Q h l r k
  unfold gTuple at h
  split at h
  · cases r with
    | cons r1 r2 =>
      cases r2
      cases r1 with
      | lst f rs =>
        rename_i us
        refine ⟨_, us, rfl, .inl ⟨f.sq, fun q hq => ?_⟩⟩
        have s := Step.laid (o := .tup us) l hq
        exact k _ _ _ h (l.laid hq) s (.tup (FzT.new l hq) (rs.mono s.mv))
  · cases r with
    | cons r1 r2 =>
      cases r2
      cases r1 with
      | tup f rs => exact ⟨_, _, rfl, .inr ⟨f.sq, k _ _ H h l .refl (.tup f rs)⟩⟩
  · exact h.elim
theorem i_tuple (hm : X.mg "tuple" = none) (ha : PA X (e :: es) (LA X.K F Wx n i)) (hg : Gl X "tuple" := by rfl) (he : starEach (e :: es) X.env = (false, eval e X.env) :: starEach es X.env := by rfl) (hpl : (backTo pos (starEach es X.env)).any (·.1) = false := by rfl) :
    PE X (.Call (.Name "tuple" p) (e :: es) [] pos) (LE X.K F Wx (iFn gTuple i)) := i_ty call_tuple_of bt_tuple hm boot_tuple' ha hg (by decide) (by decide) he hpl
/-- list(range(a)) -/
def iListRg (ia : IE) : IE := fun EI st Q => ia EI st fun x st1 => match x with
  | .int j => 0 ≤ j ∧ j ≤ 16777216 ∧ Q (.lst (rng 0 j.toNat)) st1
  | _ => False
theorem rng_rel {K : PySem.W.Frag} {Lv : Addr → Prop} {H : Hp} (lo hi : Int) : RelWs K Lv H (rng lo (hi - lo).toNat) (rgV lo hi) := by
  unfold rng rgV
  generalize (hi - lo).toNat = n
  induction (List.range n) with
  | nil => exact .nil
  | cons i l ih => exact .cons (.int _) ih
theorem i_listRg {p2 pos2 : Pos} (hm : X.mg "list" = none) (hm2 : X.mg "range" = none) (ha : PE X a (LE X.K F Wx ia)) (hc : X.calm = true := by rfl) (hg : Gl X "list" := by rfl) (hg2 : Gl X "range" := by rfl) (n1 : starEach [a] X.env = (false, eval a X.env) :: starEach [] X.env := by rfl)
    (na : starEach [.Call (.Name "range" p2) [a] [] pos2] X.env = (false, eval (.Call (.Name "range" p2) [a] [] pos2) X.env) :: starEach [] X.env := by rfl) : PE X (.Call (.Name "list" p) [.Call (.Name "range" p2) [a] [] pos2] [] pos) (LE X.K F Wx (iListRg ia)) := by
  refine pe_imp (pe_listRg hc hg hm (prg_1 hg2 hm2 ha n1) na) fun σ H Q h => ?_
  obtain ⟨st, QI, EI, l, q, ux, k⟩ := h
  refine ⟨st, _, EI, l, q, ux, fun x st1 v H1 q1 l1 s1 r1 => ?_⟩
  split at q1
  · rename_i j
    cases r1
    refine ⟨_, rfl, RgOk.of_le (by decide) q1.2.1 (by decide) q1.1, fun q hq => ?_⟩
    have s := Step.laid (o := .lst (rgV 0 j)) l1 hq
    have e1 : (j - 0).toNat = j.toNat := by rw [Int.sub_zero]
    have rr := rng_rel (K := X.K) (Lv := Live F st1 σ) (H := upd H1 q (.lst (rgV 0 j))) 0 j
    rw [e1] at rr
    exact k _ _ _ _ q1.2.2 (l1.laid hq) (s1.trans s) (.lst (FzL.new l1 hq) rr)
  · exact q1.elim
/-- all(..), any(..) of truths -/
def blsOf : List W → Option (List Bool)
  | [] => some []
  | .bl b :: ws => (blsOf ws).map (b :: ·)
  | _ => none
theorem bls_rel {K : PySem.W.Frag} {Lv : Addr → Prop} {H : Hp} : ∀ {ws : List W} {vs : List V} {bs : List Bool}, blsOf ws = some bs → RelWs K Lv H ws vs → vs = bs.map V.bl := by
  intro ws
  induction ws with
  | nil =>
    intro vs bs e r
    cases r
    cases e
    rfl
  | cons w ws ih =>
    intro vs bs e r
    cases r with
    | cons h r =>
      cases w with
      | bl b =>
        cases h
        unfold blsOf at e
        cases q : blsOf ws with
        | none => rw [q] at e; cases e
        | some bs =>
          rw [q] at e
          cases e
          rw [ih q r]
          rfl
      | _ => cases e
def gAll (f : List Bool → Bool) : List W → (W → Prop) → Prop := fun ws P => match ws with
  | [.lst ys] => (match blsOf ys with
    | some bs => P (.bl (f bs))
    | none => False)
  | _ => False
theorem bt_all {K : PySem.W.Frag} {f : List Bool → Bool} : BtG K (fun vs H Q => ∃ (a : Addr) (bs : List Bool), vs = [V.ref a] ∧ SqL K H a (bs.map V.bl) ∧ Q (.bl (f bs)) H) (gAll f) := by
  intro F st σ H ws vs P Q h l r k
  unfold gAll at h
  split at h
  · split at h
    · rename_i bs eb
      cases r with
      | cons r1 r2 =>
        cases r2
        cases r1 with
        | lst fz rs =>
          have e := bls_rel eb rs
          subst e
          exact ⟨_, bs, rfl, fz.sq, k _ _ H h l .refl (.bl _)⟩
    · exact h.elim
  · exact h.elim
theorem boot_all' : bootBuiltins "all" = some (.builtin "all") := by decide +kernel
theorem i_all (hm : X.mg "all" = none) (ha : PA X (e :: es) (LA X.K F Wx n i)) (hc : X.calm = true := by rfl) (hg : Gl X "all" := by rfl) (he : starEach (e :: es) X.env = (false, eval e X.env) :: starEach es X.env := by rfl) (hpl : (backTo pos (starEach es X.env)).any (·.1) = false := by rfl) :
    PE X (.Call (.Name "all" p) (e :: es) [] pos) (LE X.K F Wx (iFn (gAll fun bs => bs.all _root_.id) i)) := i_fn (cr_all hc) bt_all hm boot_all' ha hg (by decide) (by decide) he hpl
def tyN : W → Option String
  | .non => some "NoneType"
  | .bl _ => some "bool"
  | .int _ => some "int"
  | .str _ => some "str"
  | .tup _ => some "tuple"
  | .lst _ => some "list"
  | .dct _ => some "dict"
  | _ => none
def gIsi : List W → (W → Prop) → Prop := fun ws P => match ws with
  | [x, .ty T] => (match tyN x with
    | some S => (match kitB S T with
      | some b => P (.bl b)
      | none => False)
    | none => False)
  | _ => False
theorem tyx_of {K : PySem.W.Frag} {Lv : Addr → Prop} {H : Hp} {w : W} {v : V} {S : String} (e : tyN w = some S) (r : RelW K Lv H w v) : TyX K H v (.type S) := by
  cases r with
  | non => cases e; exact .base .non
  | bl b => cases e; exact .base (.bl b)
  | int j => cases e; exact .base (.int j)
  | str y => cases e; exact .base (.str y)
  | tup f rs =>
    cases e
    rcases f with ⟨f, _⟩ | ⟨o, _, _, h1, h2, _⟩
    · exact .base (.tup f)
    · exact .kTuple h1 h2
  | lst f rs => cases e; exact .base (.lst f.1)
  | dct f n rs => cases e; exact .base (.dK f)
  | ty => cases e
  | ref => cases e
  | obj f n rs => cases e
  | dcT f n rs => cases e
  | exn0 => cases e
  | exn1 f n rs => cases e
  | scr f => cases e
  | glo n => cases e
theorem bt_isi {K : PySem.W.Frag} : BtG K (rIsi K) gIsi := by
  intro F st σ H ws vs P Q h l r k
  unfold gIsi at h
  split at h
  · split at h
    · rename_i S eS
      split at h
      · rename_i b eb
        cases r with
        | cons r1 r2 =>
          cases r2 with
          | cons r2 r3 =>
            cases r2
            cases r3
            exact ⟨_, _, _, _, b, rfl, .ty _, tyx_of eS r1, kit_ty eb, k _ _ H h l .refl (.bl _)⟩
      · exact h.elim
    · exact h.elim
  · exact h.elim
theorem boot_isi' : bootBuiltins "isinstance" = some (.builtin "isinstance") := by decide +kernel
theorem i_isi (hm : X.mg "isinstance" = none) (ha : PA X (e :: es) (LA X.K F Wx n i)) (hg : Gl X "isinstance" := by rfl) (he : starEach (e :: es) X.env = (false, eval e X.env) :: starEach es X.env := by rfl) (hpl : (backTo pos (starEach es X.env)).any (·.1) = false := by rfl) :
    PE X (.Call (.Name "isinstance" p) (e :: es) [] pos) (LE X.K F Wx (iFn gIsi i)) := i_fn call_isi bt_isi hm boot_isi' ha hg (by decide) (by decide) he hpl
/-- a built-in type as a value -/
theorem i_tyv {T : String} (hm : X.mg x = none) (hv : bootBuiltins x = some (.type T)) (hg : Gl X x := by rfl) (hn : x ≠ "__name__" := by decide) (hdb : (x == ("__debug__" : Str)) = false := by decide) : PE X (.Name x pos) (LE X.K F Wx (iC (.ty T))) := i_c (pe_bltn (v := .ty T) hg hm hv rfl hn hdb) fun _ _ => .ty T
def RepOk (w : W) : Prop := okD 60 w = true ∧ (toD w).showable = true ∧ (toD w).shown.length ≤ sizeLine
def gRepr : List W → (W → Prop) → Prop := fun ws P => match ws with
  | [w] => RepOk w ∧ P (.str (toD w).shown)
  | _ => False
def rRepr (K : PySem.W.Frag) : List V → Hp → VK → Prop := fun vs H Q => ∃ (v : V) (d : PyData), vs = [v] ∧ Dp K H v d ∧ d.canLay0 = true ∧ d.depth ≤ 60 ∧ d.showable = true ∧ d.shown.length ≤ sizeLine ∧ Q (.str d.shown) H
theorem cr_repr (hgd : X.A.guards = some []) (hu : X.A.units + 64 < cLine) : CallR X (.builtin "repr") (rRepr X.K) := by
  intro pins s σ H xs us Q I r h
  obtain ⟨v, d, rfl, hd, hl, hdp, hs, hz, q⟩ := h
  obtain ⟨u, rfl, ru⟩ := vals1 r
  cases hd with
  | non => cases ru; exact PySem.P.repr_of_none ⟨.str _, H, I.tok _, ⟨_, rfl⟩, q⟩
  | bl b => cases ru; exact PySem.P.repr_of_bool ⟨.str _, H, I.tok _, ⟨_, rfl⟩, q⟩
  | int j =>
    obtain ⟨t, rfl⟩ := ru
    exact PySem.P.repr_of_int (of_decide_eq_true hs) ⟨.str _, H, I.tok _, ⟨_, rfl⟩, q⟩
  | str y =>
    obtain ⟨t, rfl⟩ := ru
    exact PySem.P.repr_of_str ⟨.str _, H, I.tok _, ⟨_, rfl⟩, q⟩ hz
  | lst f rs =>
    cases ru
    obtain ⟨as, rr⟩ := Dp.reads I _ _ _ (.lst f rs) rfl
    exact repr_of_reads' rr hs (PyData.noDict_hsm (PyData.hasDict_of_canLay _ hl)) hgd (by omega) (fun _ _ e => e) (fun h' u tk hk => ⟨.str _, H, I.kept hk, ⟨_, rfl⟩, q⟩) hz
  | tup f rs =>
    cases ru
    obtain ⟨as, rr⟩ := Dp.reads I _ _ _ (.tup f rs) rfl
    exact repr_of_reads' rr hs (PyData.noDict_hsm (PyData.hasDict_of_canLay _ hl)) hgd (by omega) (fun _ _ e => e) (fun h' u tk hk => ⟨.str _, H, I.kept hk, ⟨_, rfl⟩, q⟩) hz
theorem bt_repr {K : PySem.W.Frag} : BtG K (rRepr K) gRepr := by
  intro F st σ H ws vs P Q h l r k
  unfold gRepr at h
  split at h
  · cases r with
    | cons r1 r2 =>
      cases r2
      obtain ⟨⟨h1, h2, h3⟩, p⟩ := h
      obtain ⟨h4, h5⟩ := lay_of _ h1
      exact ⟨_, _, rfl, dp_of _ h1 r1, h4, h5, h2, h3, k _ _ H p l .refl (.str _)⟩
  · exact h.elim
theorem boot_repr' : bootBuiltins "repr" = some (.builtin "repr") := by decide +kernel
theorem i_repr (hgd : X.A.guards = some []) (hu : X.A.units + 64 < cLine) (hm : X.mg "repr" = none) (ha : PA X (e :: es) (LA X.K F Wx n i)) (hg : Gl X "repr" := by rfl) (he : starEach (e :: es) X.env = (false, eval e X.env) :: starEach es X.env := by rfl) (hpl : (backTo pos (starEach es X.env)).any (·.1) = false := by rfl) :
    PE X (.Call (.Name "repr" p) (e :: es) [] pos) (LE X.K F Wx (iFn gRepr i)) := i_fn (cr_repr hgd hu) bt_repr hm boot_repr' ha hg (by decide) (by decide) he hpl
end
end Sh
namespace Sh
open PySem L2
open PyProof.Rows hiding St
abbrev S0 : Sto := fun _ => none
theorem CX_none {P : Program} {w : World} {l : List Env} {H : Hp} {s : Shared} {e : Value} {s' : Shared} : ¬ L2.CX P w l H s (fun _ _ _ => False) e s' := fun ⟨_, _, _, _, _, _, _, _, _, _, _, _, z⟩ => z
section
variable {P : Program} {w : World} {K : PySem.W.Frag} {mg mb : Str → Option Value} {k : Nat} {fa a : Addr} {fd : FuncData} {x : Str} {sp : Sp} {sA : Shared} {us : List Value} {ns : List Int}
end
end Sh
namespace Sh
open PySem L2
open PyProof.Rows hiding St
section
variable {K : PySem.W.Frag} {F : Addr → Prop} {st : Stt} {σ : L2.St} {H : Hp} {a : Addr} {o : SO}
theorem live_pub : ∀ b, Live F (st.puts a o) σ b → Live (FA F a) st σ b := fun b z => by
  rcases z with (z | z) | z
  · by_cases e : b = a
    · exact .inr (.inr e)
    · refine .inl (.inl ?_)
      have q : (st.puts a o).S b = st.S b := Sto.put_ne e
      rw [q] at z
      exact z
  · exact .inl (.inr z)
  · exact .inr (.inl z)
/-- a new object goes into the store -/
theorem Lk.publish (l : Lk K (FA F a) st σ H) (r : RelO K (Live (FA F a) st σ) H a o) (nF : ¬ F a) : Lk K F (st.puts a o) σ H := by
  have m : Mv (Live (FA F a) st σ) H (Live F (st.puts a o) σ) H := mv_same live_pub
  refine ⟨l.len, fun i w e => ?_, fun i o' e => ?_, l.inj, fun b o' e => ?_, fun b z => l.ftr b (.inl z), fun b z => ?_⟩
  · obtain ⟨v, e1, r1⟩ := l.val i w e
    exact ⟨v, e1, r1.mono m⟩
  · obtain ⟨b, e1, r1, n1, n2⟩ := l.own i o' e
    refine ⟨b, e1, r1.move (fun _ q => q) m, ?_, fun z => n2 (.inl z)⟩
    have ne : b ≠ a := fun z => n2 (.inr z)
    exact (Sto.put_ne ne).trans n1
  · by_cases q : b = a
    · subst q
      have e2 : some o = some o' := Eq.trans (Sto.put_same (S := st.S)).symm e
      cases e2
      exact r.move (fun _ q => q) m
    · have e2 : st.S b = some o' := (Sto.put_ne q).symm.trans e
      exact (l.sto b o' e2).move (fun _ q => q) m
  · have ne : b ≠ a := fun q => nF (q ▸ z)
    exact (Sto.put_ne ne).trans (l.fdis b (.inl z))
theorem Step.publish {st0 : Stt} {σ0 : L2.St} {H0 : Hp} (s : Step st0 σ0 H0 st σ H) (n : NewAt st0 σ0 H0 a) : Step st0 σ0 H0 (st.puts a o) σ H :=
  ⟨s.keep, fun b z => by
    rcases z with z | z
    · by_cases e : b = a
      · rw [e]; exact n
      · have q : (st.puts a o).S b = st.S b := Sto.put_ne e
        rw [q] at z
        exact s.new b (.inl z)
    · exact s.new b (.inr z)⟩
end
section
variable {X : Cx} {F : Addr → Prop} {Wx : WX} {a b c e : Expr} {es : List Expr} {pos : Pos} {ia ib ic : IE} {nn : IN}
/-- x = a new object that is handed about: it goes into the store -/
def sSetP (i : Nat) (nn : IN) : IS := fun EI D st => nn EI st fun o st1 => ∀ a, st1.S a = none → D.nx ((st1.puts a o).put i (.val (.ref a)))
theorem setP_of {K : PySem.W.Frag} {i : Nat} {D : Ends} {σ : L2.St} {H : Hp} (h : LS K F Wx (sSetP i nn) D σ H) : tAsg (LN K F Wx nn) (gName i) D σ H := by
  obtain ⟨st, DI, EI, l, q, u⟩ := h
  exact ⟨st, _, EI, l, q, u.x, fun o st1 a H1 q1 l1 s1 r1 n1 => u.nx _ _ H1 (q1 a (l1.fdis a (.inr rfl))) ((l1.publish r1 (NewAt.nf l n1)).put (.ref a)) ((Step.publish s1 n1).trans Step.put)⟩
theorem s_setP (i : Nat) {x : Str} {pos' : Pos} (hN : X.N.Nodup) (ha : PE X a (LN X.K F Wx nn)) (hi : X.N[i]? = some x := by rfl) (hx : Loc X.env.scope x := by first | exact Or.inl rfl | exact Or.inr rfl) (hs : swapsWith a (some (.Name x pos')) pos.line X.env = pure false := by rfl)
    (hf : X.fn x = true ∨ X.env.scope.names.lookup x = some .local := by first | exact .inl rfl | exact .inr rfl | assumption) : PS X (.Assign [.Name x pos'] a pos) (LS X.K F Wx (sSetP i nn)) := ps_imp (ps_set hN hi hx ha hs hf) fun _ _ _ h => setP_of h
end
theorem boot_bool' : bootBuiltins "bool" = some (.type "bool") := by decide +kernel
theorem boot_str' : bootBuiltins "str" = some (.type "str") := by decide +kernel
structure Df (K : PySem.W.Frag) (mg : Str → Option Value) (x : Str) (s : Stmt) : Prop where
  ex : ∃ f fd, FunD K x x (defArgs s) (defBody s) (defScope s) [] [] f fd ∧ mg x = some (.ref f)
structure Cal (P : Program) (w : World) (K : PySem.W.Frag) (mg : Str → Option Value) (base : Heap) (x : Str) (k n : Nat) (spec : ISp) : Prop where
  ex : ∃ f fd ps, FnG P w K mg base k f fd ps (spI K n spec) ∧ mg x = some (.ref f) ∧ PySem.W.keepIn K (.ref f) = true ∧ Binds K fd ps []
section
variable {P : Program} {w : World} {K : PySem.W.Frag} {mg : Str → Option Value} {base : Heap} {x : Str} {k n : Nat}
theorem Cal.spec {sp sp' : ISp} (C : Cal P w K mg base x k n sp) (h : ∀ ws S Q E, sp' ws S Q E → sp ws S Q E) : Cal P w K mg base x k n sp' := by
  obtain ⟨f, fd, ps, G, r⟩ := C.ex
  exact ⟨f, fd, ps, G.spec h, r⟩
theorem Cal.up {sp : ISp} {k' : Nat} (C : Cal P w K mg base x k n sp) (h : k ≤ k') : Cal P w K mg base x k' n sp := by
  obtain ⟨f, fd, ps, G, r⟩ := C.ex
  exact ⟨f, fd, ps, G.up h, r⟩
/-- a def of the module keeps what its body does -/
theorem calI {s : Stmt} {N ps : List Str} {ib : IS} (D : Df K mg x s) (Sc : FnScope N ps (defScope s))
    (bd : ∀ (kV doc pm : Value) (an : Option Addr) (cdv ct : Value) (us : List Value), us.length = ps.length → bindArgs (PySem.W.fnOf x x (defArgs s) (defBody s) (defScope s) .none kV doc pm an cdv ct) ⟨us, []⟩ = pure (ps.zip us))
    (hb : ∀ (f : Addr) (cdv : Value) (A : Around) (outer : List Env) (s' : Shared) (H : Hp) (E : XK), Room k (A.deeper (envOfC x (defScope s) s'.heap.objs.size f cdv)) → A.guards = some [] → ∀ (F : Addr → Prop) (Wx : WX), Takes (cxOf (L2.CX P w) P w K mg base N x (defScope s) f cdv A outer s' H E) Wx →
      PSs (cxOf (L2.CX P w) P w K mg base N x (defScope s) f cdv A outer s' H E) (defBody s) (LS K F Wx ib)) : Cal P w K mg base x (k + 1) ps.length (bodyI N.length ib) := by
  obtain ⟨f, fd, Fd, hm⟩ := D.ex
  exact ⟨f, fd, ps, fnI Fd Sc (hb f), hm, Fd.kp, Fd.bindsN bd⟩
end
section
variable {X : Cx} {F : Addr → Prop} {Wx : WX} {e : Expr} {es : List Expr} {pos p : Pos} {k' n : Nat} {spec : ISp} {x : Str} {i : IA}
theorem i_cal (C : Cal X.prog X.w X.K X.mg X.base x k' n spec) (hr : Room k' X.A) (hgd : X.A.guards = some []) (tk : Takes X Wx) (ha : PA X (e :: es) (LA X.K F Wx n i)) (hg : Gl X x := by rfl) (hdb : (x == ("__debug__" : Str)) = false := by decide)
    (he : starEach (e :: es) X.env = (false, eval e X.env) :: starEach es X.env := by rfl) (hpl : (backTo pos (starEach es X.env)).any (·.1) = false := by rfl) : PE X (.Call (.Name x p) (e :: es) [] pos) (LE X.K F Wx (iCall spec i)) := by
  obtain ⟨f, fd, ps, G, hm, hk, hb⟩ := C.ex
  exact i_call G hr hgd tk hm hk hb ha hg hdb he hpl
theorem n_cal (C : Cal X.prog X.w X.K X.mg X.base x k' n spec) (hr : Room k' X.A) (hgd : X.A.guards = some []) (tk : Takes X Wx) (ha : PA X (e :: es) (LA X.K F Wx n i)) (hg : Gl X x := by rfl) (hdb : (x == ("__debug__" : Str)) = false := by decide)
    (he : starEach (e :: es) X.env = (false, eval e X.env) :: starEach es X.env := by rfl) (hpl : (backTo pos (starEach es X.env)).any (·.1) = false := by rfl) : PE X (.Call (.Name x p) (e :: es) [] pos) (LN X.K F Wx (nCall spec i)) := by
  obtain ⟨f, fd, ps, G, hm, hk, hb⟩ := C.ex
  exact n_call G hr hgd tk hm hk hb ha hg hdb he hpl
theorem i_cal0 (C : Cal X.prog X.w X.K X.mg X.base x k' 0 spec) (hr : Room k' X.A) (hgd : X.A.guards = some []) (tk : Takes X Wx) (hg : Gl X x := by rfl) (hdb : (x == ("__debug__" : Str)) = false := by decide) : PE X (.Call (.Name x p) [] [] pos) (LE X.K F Wx (iCall spec iNil)) := by
  obtain ⟨f, fd, ps, G, hm, hk, hb⟩ := C.ex
  exact i_call0 G hr hgd tk hm hk hb hg hdb
end
end Sh
namespace Sh
open PySem L2
open PyProof.Rows hiding St
mutual
def kvB (K : PySem.W.Frag) : Nat → Value → W → Bool
  | _, .none, .non => true
  | _, .bool b, .bl c => b == c
  | _, .int i _, .int j => i == j
  | _, .str x _, .str y => x == y
  | n + 1, .ref a, .tup ws => (match K.lookup a with
    | some ⟨.type c, _, .seq its _, _⟩ => decide (c = "tuple") && (decide (its.size ≤ sizeLine) && kvsB K n its.toList ws)
    | _ => false)
  | _, _, _ => false
def kvsB (K : PySem.W.Frag) : Nat → List Value → List W → Bool
  | _, [], [] => true
  | n, v :: vs, w :: ws => kvB K n v w && kvsB K n vs ws
  | _, _, _ => false
end
def KvOk (K : PySem.W.Frag) (u : Value) (w : W) : Prop := ∃ v : V, RelV v u ∧ ∀ Lv H, RelW K Lv H w v
theorem kvsB_ok {K : PySem.W.Frag} {n : Nat} (ih : ∀ u w, kvB K n u w = true → KvOk K u w) : ∀ (us : List Value) (ws : List W), kvsB K n us ws = true → ∃ vs, Vals vs us ∧ ∀ Lv H, RelWs K Lv H ws vs
  | [], [], _ => ⟨[], .nil, fun _ _ => .nil⟩
  | [], _ :: _, h => by simp [kvsB] at h
  | _ :: _, [], h => by simp [kvsB] at h
  | u :: us, w :: ws, h => by
    have h2 : (kvB K n u w && kvsB K n us ws) = true := by unfold kvsB at h; exact h
    rw [Bool.and_eq_true] at h2
    obtain ⟨v, r, q⟩ := ih u w h2.1
    obtain ⟨vs, rs, qs⟩ := kvsB_ok ih us ws h2.2
    exact ⟨v :: vs, .cons r rs, fun Lv H => .cons (q Lv H) (qs Lv H)⟩
theorem kvB_ok {K : PySem.W.Frag} : ∀ {n : Nat} (u : Value) (w : W), kvB K n u w = true → KvOk K u w := by
  intro n
  induction n with
  | zero =>
    intro u w h
    cases u <;> cases w <;> first
      | exact ⟨.non, rfl, fun _ _ => .non⟩
      | (unfold kvB at h; rw [beq_iff_eq] at h; subst h; first | exact ⟨.bl _, rfl, fun _ _ => .bl _⟩ | exact ⟨.int _, ⟨_, rfl⟩, fun _ _ => .int _⟩ | exact ⟨.str _, ⟨_, rfl⟩, fun _ _ => .str _⟩)
      | (simp [kvB] at h; done)
  | succ n ih =>
    intro u w h
    cases u <;> cases w <;> first
      | exact ⟨.non, rfl, fun _ _ => .non⟩
      | (unfold kvB at h; rw [beq_iff_eq] at h; subst h; first | exact ⟨.bl _, rfl, fun _ _ => .bl _⟩ | exact ⟨.int _, ⟨_, rfl⟩, fun _ _ => .int _⟩ | exact ⟨.str _, ⟨_, rfl⟩, fun _ _ => .str _⟩)
      | (simp [kvB] at h; done)
      | skip
    rename_i a ws
    unfold kvB at h
    split at h
    · rename_i c _ its _ _ q
      rw [Bool.and_eq_true, Bool.and_eq_true] at h
      obtain ⟨h1, h2, h3⟩ := h
      obtain ⟨vs, rs, qs⟩ := kvsB_ok ih _ _ h3
      exact ⟨.ref a, rfl, fun Lv H => .tup (.inr ⟨_, its, _, q, congrArg Value.type (of_decide_eq_true h1), rfl, of_decide_eq_true h2, rs⟩) (qs Lv H)⟩
    · cases h
/-- a name of the module stands for w -/
def Kc (K : PySem.W.Frag) (mg : Str → Option Value) (x : Str) (w : W) : Prop := ∃ u, mg x = some u ∧ KvOk K u w
def kcB (K : PySem.W.Frag) (x : Str) (w : W) : Bool := match PySem.W.nsIn K mainGlobals x with
  | some (some u) => kvB K 9 u w
  | _ => false
theorem kcB_ok {K : PySem.W.Frag} {h : Heap} {mg : Str → Option Value} (X : K.In h) (G : h.Ns mainGlobals mg) {x : Str} {w : W} (c : kcB K x w = true) : Kc K mg x w := by
  unfold kcB at c
  split at c
  · rename_i u e
    exact ⟨u, PySem.W.mg_of X G e, kvB_ok u w c⟩
  · cases c
section
variable {X : Cx} {F : Addr → Prop} {Wx : WX} {a b c e : Expr} {pos : Pos} {ia ib : IE} {x : Str} {w : W}
theorem i_k (k : Kc X.K X.mg x w) (hg : Gl X x := by rfl) (hd : (x == ("__debug__" : Str)) = false := by decide) : PE X (.Name x pos) (LE X.K F Wx (iC w)) := by
  obtain ⟨u, hm, v, r, q⟩ := k
  exact i_c (pe_glob hg hm r hd) q
end
def rowsB (K : PySem.W.Frag) : List DictEntry → List (Str × W) → Bool
  | [], [] => true
  | e :: es, (k, w) :: r => e.key.isStr k && (kvB K 9 e.val w && rowsB K es r)
  | _, _ => false
def kdB (K : PySem.W.Frag) (x : Str) (tbl : List (Str × W)) : Bool := match PySem.W.nsIn K mainGlobals x with
  | some (some (.ref d)) => decide (d = He.ga K x) && (match K.lookup d with
    | some ⟨_, _, .dict es _, _⟩ => rowsB K es.toList tbl
    | _ => false)
  | _ => false
theorem isStr_inv {v : Value} {x : Str} (h : v.isStr x = true) : ∃ t, v = .str x t := by
  unfold Value.isStr at h
  split at h
  · rw [beq_iff_eq] at h; subst h; exact ⟨_, rfl⟩
  · cases h
theorem rows_find {K : PySem.W.Frag} (z : Str) : ∀ (es : List DictEntry) (tbl : List (Str × W)), rowsB K es tbl = true → es.any (·.refKey) = false ∧
    ((tbl.lookup z = none ∧ es.find? (·.key.isStr z) = none) ∨ ∃ w e, tbl.lookup z = some w ∧ es.find? (·.key.isStr z) = some e ∧ KvOk K e.val w)
  | [], [], _ => ⟨rfl, .inl ⟨rfl, rfl⟩⟩
  | [], _ :: _, h => by simp [rowsB] at h
  | _ :: _, [], h => by simp [rowsB] at h
  | e :: es, (k, w) :: r, h => by
    have h2 : (e.key.isStr k && (kvB K 9 e.val w && rowsB K es r)) = true := h
    rw [Bool.and_eq_true, Bool.and_eq_true] at h2
    obtain ⟨h1, hv, hr⟩ := h2
    obtain ⟨t, ek⟩ := isStr_inv h1
    obtain ⟨i1, i2⟩ := rows_find z es r hr
    have nr : e.refKey = false := by unfold DictEntry.refKey; rw [ek]
    have es' : e.key.isStr z = (k == z) := by rw [ek]; rfl
    refine ⟨by rw [List.any_cons, nr, i1]; rfl, ?_⟩
    by_cases q : k = z
    · subst q
      refine .inr ⟨w, e, ?_, ?_, kvB_ok _ _ hv⟩
      · rw [List.lookup_cons]; simp
      · rw [List.find?_cons_of_pos (by rw [es']; simp)]
    · have l : List.lookup z ((k, w) :: r) = List.lookup z r := by
        rw [List.lookup_cons]
        have : (z == k) = false := by rw [beq_eq_false_iff_ne]; exact fun y => q y.symm
        rw [this]
      have f : (e :: es).find? (·.key.isStr z) = es.find? (·.key.isStr z) := List.find?_cons_of_neg (by rw [es']; simpa using q)
      rw [l, f]
      exact i2
structure Kd (K : PySem.W.Frag) (w : World) (mg : Str → Option Value) (x : Str) (tbl : List (Str × W)) : Prop where
  ex : ∃ d es n, mg x = some (.ref d) ∧ KDict K w d es n ∧ ∀ z, (tbl.lookup z = none ∧ PySem.W.nsIn K d z = some none) ∨ ∃ wv u, tbl.lookup z = some wv ∧ PySem.W.nsIn K d z = some (some u) ∧ KvOk K u wv
theorem kdB_ok {K : PySem.W.Frag} {h : Heap} {wd : World} {mg : Str → Option Value} (X : K.In h) (G : h.Ns mainGlobals mg) {x : Str} {tbl : List (Str × W)} (c : kdB K x tbl = true) (t : ∃ es n, KDict K wd (He.ga K x) es n) : Kd K wd mg x tbl := by
  unfold kdB at c
  split at c
  · rename_i d e
    rw [Bool.and_eq_true] at c
    obtain ⟨c1, c2⟩ := c
    have ed := of_decide_eq_true c1
    obtain ⟨es, n, D⟩ := t
    rw [← ed] at D
    refine ⟨d, es, n, PySem.W.mg_of X G e, D, fun z => ?_⟩
    rw [D.at_] at c2
    obtain ⟨i1, i2⟩ := rows_find z es.toList tbl c2
    have en : PySem.W.nsIn K d z = match es.toList.find? (·.key.isStr z) with
      | some e => some (some e.val)
      | none => if es.toList.any (·.refKey) then none else some none := by
      unfold PySem.W.nsIn
      rw [D.at_]
      rfl
    rcases i2 with ⟨l, f⟩ | ⟨w, e', l, f, k⟩
    · rw [f, i1] at en
      exact .inl ⟨l, en⟩
    · rw [f] at en
      exact .inr ⟨w, e'.val, l, en, k⟩
  · cases c
section
variable {X : Cx} {F : Addr → Prop} {Wx : WX} {a b c e : Expr} {pos p : Pos} {ia ib : IE} {x : Str} {tbl : List (Str × W)}
/-- word in TABLE -/
def tKdIn (neg : Bool) (tbl : List (Str × W)) (ia : IE) : IT := fun EI st Q => ia EI st fun v st1 => match v with
  | .str z => Q (if neg then !(tbl.lookup z).isSome else (tbl.lookup z).isSome) st1
  | _ => False
theorem kd_in {K : PySem.W.Frag} {neg : Bool} {d : Addr} {r : R2} (hr : ∀ z b H Q, ((∃ y, PySem.W.nsIn K d z = some y ∧ b = if neg then !y.isSome else y.isSome)) → Q (.bl b) H → r (.str z) (.ref d) H Q)
    (h : ∀ z, (tbl.lookup z = none ∧ PySem.W.nsIn K d z = some none) ∨ ∃ wv u, tbl.lookup z = some wv ∧ PySem.W.nsIn K d z = some (some u) ∧ KvOk K u wv) {σ : L2.St} {H : Hp} {Q : Bool → Hp → Prop} (q : LT K F Wx (tKdIn neg tbl ia) σ H Q) :
    tOp r (LE K F Wx ia) (tC (.ref d)) σ H fun x H' => ∃ k, x = .bl k ∧ Q k H' := by
  obtain ⟨st, QI, EI, l, q, ux, k⟩ := q
  refine ⟨st, _, EI, l, q, ux, fun w st1 v H1 q1 l1 s1 r1 => ?_⟩
  split at q1
  · rename_i z
    cases r1
    refine hr z _ H1 _ ?_ ⟨_, rfl, k _ st1 H1 q1 l1 s1⟩
    rcases h z with ⟨e1, e2⟩ | ⟨w, u, e1, e2, _⟩
    · exact ⟨none, e2, by rw [e1]; rfl⟩
    · exact ⟨some u, e2, by rw [e1]; rfl⟩
  · exact q1.elim
theorem t_kdnotin (k : Kd X.K X.w X.mg x tbl) (ha : PE X a (LE X.K F Wx ia)) (hg : Gl X x := by rfl) (hd : (x == ("__debug__" : Str)) = false := by decide) (hm : behindInMarks .NotIn (.Name x p) = false := by rfl) : PT X (.Compare a [.NotIn] [.Name x p] pos) (LT X.K F Wx (tKdIn true tbl ia)) := by
  obtain ⟨d, es, n, mgx, D, h⟩ := k.ex
  refine pt_imp (pt_cmpR (op_notIn_kd D) ha (pe_glob (v := .ref d) hg mgx rfl hd) hm) fun σ H Q q => kd_in (fun z b H Q ⟨y, e, eb⟩ q => ⟨z, y, rfl, rfl, e, by rw [eb] at q; exact q⟩) h q
def iOfT (t : IT) : IE := fun EI st Q => t EI st fun b st1 => Q (.bl b) st1
/-- TABLE[word] -/
def iKdIx (tbl : List (Str × W)) (ib : IE) : IE := fun EI st Q => ib EI st fun v st1 => match v with
  | .str z => (match tbl.lookup z with
    | some w => Q w st1
    | none => False)
  | _ => False
theorem i_kdix (k : Kd X.K X.w X.mg x tbl) (hb : PE X b (LE X.K F Wx ib)) (hs : PlainIx b := by intro _ _; rfl) (hg : Gl X x := by rfl) (hd : (x == ("__debug__" : Str)) = false := by decide) : PE X (.Subscript (.Name x p) b pos) (LE X.K F Wx (iKdIx tbl ib)) := by
  obtain ⟨d, es, n, mgx, D, h⟩ := k.ex
  refine pe_imp (pe_ix ix_kdict (pe_glob (v := .ref d) hg mgx rfl hd) hb hs) fun σ H Q q => ?_
  obtain ⟨st, QI, EI, l, q, ux, k⟩ := q
  refine ⟨st, _, EI, l, q, ux, fun w st1 v H1 q1 l1 s1 r1 => ?_⟩
  split at q1
  · rename_i z
    cases r1
    split at q1
    · rename_i wv e
      rcases h z with ⟨e1, _⟩ | ⟨w, u, e1, e2, v0, r0, rw0⟩
      · rw [e1] at e; cases e
      · rw [e1] at e
        cases e
        exact ⟨d, z, v0, rfl, rfl, ⟨es, n, u, D.at_, D.lit, e2, r0⟩, k _ st1 v0 H1 q1 l1 s1 (rw0 _ _)⟩
    · exact q1.elim
  · exact q1.elim
end
abbrev pairW (p : Int × Int) : W := .tup [.int p.1, .int p.2]
def lexLe (p q : Int × Int) : Prop := p.1 < q.1 ∨ (p.1 = q.1 ∧ p.2 ≤ q.2)
/-- of pairs of numbers, as they lie in K or the heap -/
def rSortZ (K : PySem.W.Frag) : List V → Hp → VK → Prop := fun vs H Q => ∃ (a : Addr) (zs : List ((Int × Int) × V)), vs = [V.ref a] ∧ SqL K H a (zs.map (·.2)) ∧ (∀ z ∈ zs, ∃ t, z.2 = V.ref t ∧ SqT K H t [.int z.1.1, .int z.1.2]) ∧
  ∀ (ys : List ((Int × Int) × V)) (p : Addr), ys.Perm zs → (ys.map (·.1)).Pairwise lexLe → H p = none → Q (.ref p) (upd H p (.lst (ys.map (·.2))))
open Classical in
theorem cr_sortZ {X : Cx} : CallR X (.builtin "sorted") (rSortZ X.K) := by
  intro pins s σ H vs us Q I r h
  obtain ⟨adr, zs, rfl, hs, hz, q⟩ := h
  obtain ⟨its, rv, il, sz⟩ := I.list hs
  obtain ⟨u, rfl, ru⟩ := vals1 r
  obtain rfl : u = Value.ref adr := ru
  let key : V → Int × Int := fun v => if hk : ∃ z ∈ zs, z.2 = v then (Classical.choose hk).1 else (0, 0)
  have keyOf : ∀ z ∈ zs, key z.2 = z.1 := fun z mz => by
    have hk : ∃ y ∈ zs, y.2 = z.2 := ⟨z, mz, rfl⟩
    have e : key z.2 = (Classical.choose hk).1 := dif_pos hk
    obtain ⟨my, ey⟩ := Classical.choose_spec hk
    obtain ⟨t, et, ht⟩ := hz _ my
    obtain ⟨t', et', ht'⟩ := hz z mz
    rw [ey, et'] at et
    cases et
    have := I.tuple_inj ht ht'
    rw [e]
    injection this with a1 a2
    injection a2 with a2 _
    exact Prod.ext (V.int.inj a1) (V.int.inj a2)
  have zk : zs = (zs.map (·.2)).map fun v => (key v, v) := by
    rw [List.map_map]
    conv => lhs; rw [← List.map_id zs]
    exact List.map_congr_left fun z mz => Prod.ext (keyOf z mz).symm rfl
  obtain ⟨b1, b2⟩ := refs_back rv fun x mx => by
    obtain ⟨z, mz, ez⟩ := List.mem_map.mp mx
    obtain ⟨t, et, _⟩ := hz z mz
    exact ⟨t, by rw [← ez, et]⟩
  refine SrtO.sorted_pairsO (k := fun u => key (backV u)) il.isList (by rw [← rv.length]; exact sz) (fun v mv => ?_) fun h' d out o1 o2 kp dd dn => ?_
  · obtain ⟨t, rfl⟩ := b2 v mv
    have mx : V.ref t ∈ zs.map (·.2) := by rw [b1]; exact List.mem_map.mpr ⟨_, mv, rfl⟩
    obtain ⟨z, mz, ez⟩ := List.mem_map.mp mx
    obtain ⟨t', et, ht⟩ := hz z mz
    rw [ez] at et
    cases et
    obtain ⟨its2, r2, ⟨o, ho, hc, n, hd⟩, _⟩ := I.tuple ht
    obtain ⟨u1, u2, e2, ri, rj⟩ := vals2 r2
    obtain ⟨t1, rfl⟩ := ri
    obtain ⟨t2, rfl⟩ := rj
    have ek : key (backV (Value.ref t)) = z.1 := by rw [← keyOf z mz, ez]; rfl
    simp only [ek]
    subst e2
    exact ⟨t, o, t1, t2, n, rfl, ho, hc, hd⟩
  · have o3 : ∀ u ∈ out, ∃ a, u = Value.ref a := fun u hu => b2 u (o2.perm.mem_iff.mp hu)
    obtain ⟨n, dn⟩ := dn
    have pm : ((out.map backV).map fun v => (key v, v)).Perm zs := by
      conv => rhs; rw [zk, b1]
      exact (o2.perm.map backV).map _
    have e2 : ((out.map backV).map fun v => (key v, v)).map (·.2) = out.map backV := by
      rw [List.map_map]
      exact List.map_id _
    have fin := q ((out.map backV).map fun v => (key v, v)) d pm ?_ (I.hok.fresh dd)
    · rw [e2] at fin
      refine ⟨.ref d, upd H d (.lst (out.map backV)), I.laid (t' := s.toks) kp dd ⟨?_, out, n, vals_back o3, dn⟩, rfl, fin⟩
      have := pm.length_eq
      rw [List.length_map] at this
      rw [this, ← List.length_map (f := (·.2))]
      exact sz
    · rw [List.map_map, List.map_map]
      refine List.pairwise_map.mpr (List.Pairwise.imp (fun {x y} hxy => ?_) o1)
      have l := SrtO.lexB_no.mp hxy
      show lexLe (key (backV x)) (key (backV y))
      unfold lexLe
      omega
def gSorted : List W → (W → Prop) → Prop := fun ws P =>
  (∃ ns : List Int, ws = [.lst (ns.map .int)] ∧ ∀ ns' : List Int, ns'.Perm ns → ns'.Pairwise (· ≤ ·) → P (.lst (ns'.map .int))) ∨
  ∃ ps : List (Int × Int), ws = [.lst (ps.map pairW)] ∧ ∀ ps' : List (Int × Int), ps'.Perm ps → ps'.Pairwise lexLe → P (.lst (ps'.map pairW))
theorem ints_of {K : PySem.W.Frag} {Lv : Addr → Prop} {H : Hp} : ∀ {ns : List Int} {vs : List V}, RelWs K Lv H (ns.map W.int) vs → vs = ns.map V.int
  | [], _, .nil => rfl
  | n :: ns, _, .cons r rs => by
    cases r
    rw [ints_of rs]; rfl
theorem pairs_of {K : PySem.W.Frag} {Lv : Addr → Prop} {H : Hp} : ∀ {ps : List (Int × Int)} {vs : List V}, RelWs K Lv H (ps.map pairW) vs → ∃ zs : List ((Int × Int) × V), zs.map (·.1) = ps ∧ zs.map (·.2) = vs ∧ ∀ z ∈ zs, RelW K Lv H (pairW z.1) z.2
  | [], _, .nil => ⟨[], rfl, rfl, fun z hz => by cases hz⟩
  | p :: ps, _, .cons (v := v) r rs => by
    obtain ⟨zs, e1, e2, h⟩ := pairs_of rs
    refine ⟨(p, v) :: zs, by rw [List.map_cons, e1], by rw [List.map_cons, e2], fun z hz => ?_⟩
    rcases List.mem_cons.mp hz with rfl | hz
    · exact r
    · exact h z hz
theorem rel_zs {K : PySem.W.Frag} {Lv : Addr → Prop} {H : Hp} : ∀ {zs : List ((Int × Int) × V)}, (∀ z ∈ zs, RelW K Lv H (pairW z.1) z.2) → RelWs K Lv H ((zs.map (·.1)).map pairW) (zs.map (·.2))
  | [], _ => .nil
  | z :: zs, h => .cons (h z (List.mem_cons_self ..)) (rel_zs fun y hy => h y (List.mem_cons_of_mem _ hy))
theorem bt_sorted {K : PySem.W.Frag} : BtG K (fun vs H Q => rSortedI K vs H Q ∨ rSortZ K vs H Q) gSorted := by
  intro F st σ H ws vs P Q h l r k
  rcases h with ⟨ns, rfl, h⟩ | ⟨ps, rfl, h⟩
  · cases r with
    | cons r1 r2 =>
      cases r2
      cases r1 with
      | lst f rs =>
        rw [ints_of rs] at f
        refine .inl ⟨_, ns, rfl, f.sq, fun ns' p pm pw hp => ?_⟩
        exact k _ _ _ (h ns' pm pw) (l.laid hp) (Step.laid l hp) (.lst (FzL.new l hp) (RelWs.ints _))
  · cases r with
    | cons r1 r2 =>
      cases r2
      cases r1 with
      | lst f rs =>
        obtain ⟨zs, e1, e2, hz⟩ := pairs_of rs
        rw [← e2] at f
        refine .inr ⟨_, zs, rfl, f.sq, fun z mz => ?_, fun ys p pm pw hp => ?_⟩
        · have r0 := hz z mz
          generalize ev : z.2 = v at r0
          cases r0 with
          | tup ft rt =>
            cases rt with
            | cons a1 rt =>
              cases rt with
              | cons a2 rt =>
                cases rt
                cases a1; cases a2
                exact ⟨_, rfl, ft.sq⟩
        · have pm2 : (ys.map (·.1)).Perm ps := by rw [← e1]; exact pm.map _
          exact k _ _ _ (h _ pm2 pw) (l.laid hp) (Step.laid l hp) (.lst (FzL.new l hp) ((rel_zs fun y hy => hz y (pm.mem_iff.mp hy)).mono (Step.laid l hp).mv))
section
variable {X : Cx} {F : Addr → Prop} {Wx : WX} {e : Expr} {es : List Expr} {pos p : Pos} {i : IA} {n : Nat}
theorem boot_sorted' : bootBuiltins "sorted" = some (.builtin "sorted") := by decide +kernel
theorem i_sorted (hm : X.mg "sorted" = none) (ha : PA X (e :: es) (LA X.K F Wx n i)) (hg : Gl X "sorted" := by rfl) (he : starEach (e :: es) X.env = (false, eval e X.env) :: starEach es X.env := by rfl) (hpl : (backTo pos (starEach es X.env)).any (·.1) = false := by rfl) :
    PE X (.Call (.Name "sorted" p) (e :: es) [] pos) (LE X.K F Wx (iFn gSorted i)) := i_fn (cr_sortedI.or cr_sortZ) bt_sorted hm boot_sorted' ha hg (by decide) (by decide) he hpl
end
end Sh
namespace Sh
open PySem L2
open PyProof.Rows hiding St
open He (ga ma)
section
variable {K : PySem.W.Frag} {Lv : Addr → Prop} {H : Hp}
theorem RelFs.get {f : Str} : ∀ {ws : List (Str × W)} {vs : List (Str × V)} {w : W}, RelFs K Lv H ws vs → ws.lookup f = some w → ∃ v, vs.lookup f = some v ∧ RelW K Lv H w v
  | _, _, _, .nil, e => by cases e
  | _, _, w, .cons (k := k) h r, e => by
    rw [List.lookup_cons] at e
    rw [List.lookup_cons]
    cases q : f == k with
    | true =>
      rw [q] at e
      cases e
      exact ⟨_, rfl, h⟩
    | false =>
      rw [q] at e
      exact RelFs.get r e
theorem RelFs.no {f : Str} : ∀ {ws : List (Str × W)} {vs : List (Str × V)}, RelFs K Lv H ws vs → ws.lookup f = none → vs.lookup f = none
  | _, _, .nil, _ => rfl
  | _, _, .cons (k := k) h r, e => by
    rw [List.lookup_cons] at e
    rw [List.lookup_cons]
    cases q : f == k with
    | true => rw [q] at e; cases e
    | false => rw [q] at e; exact RelFs.no r e
def putW (f : Str) (v : W) : List (Str × W) → List (Str × W)
  | [] => [(f, v)]
  | (g, x) :: r => if g = f then (g, v) :: r else (g, x) :: putW f v r
theorem RelFs.put {f : Str} {w : W} {v : V} (h : RelW K Lv H w v) : ∀ {ws : List (Str × W)} {vs : List (Str × V)}, RelFs K Lv H ws vs → RelFs K Lv H (putW f w ws) (putF f v vs)
  | _, _, .nil => .cons h .nil
  | _, _, .cons (k := k) a r => by
    unfold putW putF
    by_cases q : k = f
    · rw [if_pos q, if_pos q]; exact .cons h r
    · rw [if_neg q, if_neg q]; exact .cons a (RelFs.put h r)
theorem RelFs.length : ∀ {ws : List (Str × W)} {vs : List (Str × V)}, RelFs K Lv H ws vs → ws.length = vs.length
  | _, _, .nil => rfl
  | _, _, .cons _ r => congrArg Nat.succ (RelFs.length r)
end
/-- an object: frozen, or of the store -/
def objOf (st : Stt) (x : W) (P : Str → List (Str × W) → Prop) : Prop := match x with
  | .obj C fs => P C fs
  | .ref a => (match st.S a with
    | some (.ins C fs) => P C fs
    | _ => False)
  | _ => False
theorem objOf_inv {K : PySem.W.Frag} {F : Addr → Prop} {st : Stt} {σ : L2.St} {H : Hp} {x : W} {v : V} {P : Str → List (Str × W) → Prop} (h : objOf st x P) (l : Lk K F st σ H) (r : RelW K (Live F st σ) H x v) :
    ∃ a C fs dx vs, v = .ref a ∧ P C fs ∧ H a = some (.ins (ga K C) dx vs) ∧ RelFs K (Live F st σ) H fs vs := by
  unfold objOf at h
  split at h
  · cases r with
    | obj e n rf => exact ⟨_, _, _, _, _, rfl, h, e, rf⟩
  · split at h
    · rename_i C fs es
      cases r
      obtain ⟨dx, vs, e, rf⟩ := l.sto _ _ es
      exact ⟨_, _, _, _, _, rfl, h, e, rf⟩
    · exact h.elim
  · exact h.elim
structure Atr (K : PySem.W.Frag) (cs : List Str) (f : Str) : Prop where
  at_ : ∀ C ∈ cs, Cls K (ga K C) ∧ NoAttr K (ga K C) f
section
variable {X : Cx} {F : Addr → Prop} {Wx : WX} {a b c e o : Expr} {es : List Expr} {pos pos' : Pos} {ia ib ic : IE} {cs : List Str} {f : Str}
/-- x.f -/
def iFld (cs : List Str) (f : Str) (ia : IE) : IE := fun EI st Q => ia EI st fun x st1 => objOf st1 x fun C fs => C ∈ cs ∧ (match fs.lookup f with
  | some w => Q w st1
  | none => False)
theorem i_fld (T : Atr X.K cs f) (ha : PE X a (LE X.K F Wx ia)) (hb : attributeBase a f X.env (eval a X.env) = eval a X.env := by rfl) : PE X (.Attribute a f pos) (LE X.K F Wx (iFld cs f ia)) := by
  refine pe_imp (pe_fld ha hb) fun σ H Q h => ?_
  obtain ⟨st, QI, EI, l, q, ux, k⟩ := h
  refine ⟨st, _, EI, l, q, ux, fun x st1 v H1 q1 l1 s1 r1 => ?_⟩
  obtain ⟨p, C, fs, dx, vs, rfl, ⟨hC, q2⟩, e, rf⟩ := objOf_inv q1 l1 r1
  split at q2
  · rename_i w ew
    obtain ⟨u, eu, ru⟩ := rf.get ew
    exact ⟨p, _, dx, vs, u, rfl, e, (T.at_ C hC).1, (T.at_ C hC).2, eu, k w st1 u H1 q2 l1 s1 ru⟩
  · exact q2.elim
/-- o.f = e, an object of the store -/
def sAtt (cs : List Str) (f : Str) (io iv : IE) : IS := fun EI D st => iv EI st fun w st1 => io EI st1 fun x st2 => match x with
  | .ref a => (match st2.S a with
    | some (.ins C fs) => C ∈ cs ∧ fs.length < 1000 ∧ D.nx (st2.puts a (.ins C (putW f w fs)))
    | _ => False)
  | _ => False
theorem s_att (T : Atr X.K cs f) (ho : PE X o (LE X.K F Wx ia)) (hv : PE X e (LE X.K F Wx ib)) (hs : swapsWith e (some (.Attribute o f pos')) pos.line X.env = pure false := by rfl) : PS X (.Assign [.Attribute o f pos'] e pos) (LS X.K F Wx (sAtt cs f ia ib)) := ps_imp (ps_fld ho hv hs) fun D σ H h => by
  obtain ⟨st, DI, EI, l, q, u⟩ := h
  refine ⟨st, _, EI, l, q, u.x, fun w st1 v H1 q1 l1 s1 r1 => ⟨st1, _, EI, l1, q1, u.x.step s1, fun x st2 v2 H2 q2 l2 s2 r2 => ?_⟩⟩
  split at q2
  · split at q2
    · rename_i p _ C fs es
      obtain ⟨hC, hl, q2⟩ := q2
      cases r2
      obtain ⟨dx, vs, e2, rf⟩ := l2.sto _ _ es
      refine ⟨p, _, dx, vs, rfl, e2, (T.at_ C hC).1, (T.at_ C hC).2, by rw [← rf.length]; exact hl, ?_⟩
      have la : Live F st2 σ p := .inl (.inl (by rw [es]; exact fun z => nomatch z))
      have m : Mv (Live F st2 σ) H2 (Live F st2 σ) (upd H2 p (.ins (ga X.K C) dx (putF f v vs))) := Mv.write la fun _ z => z
      obtain ⟨l3, s3⟩ := l2.writeS (o' := .ins C (putW f w fs)) (u := .ins (ga X.K C) dx (putF f v vs)) es ⟨dx, _, upd_same, (RelFs.put ((r1.mono s2.mv)) rf |>.mono m)⟩
      exact u.nx _ _ _ q2 l3 ((s1.trans s2).trans s3)
    · exact q2.elim
  · exact q2.elim
end
structure CalM (P : Program) (w : World) (K : PySem.W.Frag) (mg : Str → Option Value) (base : Heap) (C m : Str) (k n : Nat) (spec : ISp) : Prop where
  ex : ∃ fd ps, Cls K (ga K C) ∧ Meth K (ga K C) m (ma K (ga K C) m) ∧ FnG P w K mg base k (ma K (ga K C) m) fd ps (spI K (n + 1) spec) ∧ Binds K fd ps []
theorem CalM.spec {P : Program} {w : World} {K : PySem.W.Frag} {mg : Str → Option Value} {base : Heap} {C m : Str} {k n : Nat} {sp sp' : ISp} (M : CalM P w K mg base C m k n sp) (h : ∀ ws S Q E, sp' ws S Q E → sp ws S Q E) : CalM P w K mg base C m k n sp' := by
  obtain ⟨fd, ps, c, hm, G, b⟩ := M.ex
  exact ⟨fd, ps, c, hm, G.spec h, b⟩
theorem CalM.up {P : Program} {w : World} {K : PySem.W.Frag} {mg : Str → Option Value} {base : Heap} {C m : Str} {k k' n : Nat} {sp : ISp} (M : CalM P w K mg base C m k n sp) (h : k ≤ k') : CalM P w K mg base C m k' n sp := by
  obtain ⟨fd, ps, c, hm, G, b⟩ := M.ex
  exact ⟨fd, ps, c, hm, G.up h, b⟩
/-- of several classes -/
structure Ms (P : Program) (w : World) (K : PySem.W.Frag) (mg : Str → Option Value) (base : Heap) (m : Str) (k n : Nat) (tb : List (Str × ISp)) : Prop where
  at_ : ∀ C sp, tb.lookup C = some sp → CalM P w K mg base C m k n sp
theorem Ms.nil {P : Program} {w : World} {K : PySem.W.Frag} {mg : Str → Option Value} {base : Heap} {m : Str} {k n : Nat} : Ms P w K mg base m k n [] := ⟨fun _ _ e => by cases e⟩
theorem Ms.cons {P : Program} {w : World} {K : PySem.W.Frag} {mg : Str → Option Value} {base : Heap} {C m : Str} {j k n : Nat} {sp : ISp} {tb : List (Str × ISp)} (M : CalM P w K mg base C m j n sp) (h : j ≤ k) (r : Ms P w K mg base m k n tb) : Ms P w K mg base m k n ((C, sp) :: tb) := ⟨fun D sp' e => by
  rw [List.lookup_cons] at e
  cases q : D == C with
  | true =>
    rw [q] at e
    cases e
    rw [eq_of_beq q]
    exact M.up h
  | false =>
    rw [q] at e
    exact r.at_ D sp' e⟩
section
variable {X : Cx} {F : Addr → Prop} {Wx : WX} {a b c e o : Expr} {es : List Expr} {pos apos : Pos} {ia ib ic : IE} {m : Str} {k' n : Nat} {tb : List (Str × ISp)} {i : IA}
def iMeth (tb : List (Str × ISp)) (m : Str) (ia : IE) (i : IA) : IE := fun EI st Q => ia EI st fun x st1 => objOf st1 x fun C fs => fs.lookup m = none ∧ (match tb.lookup C with
  | some spec => i EI st1 fun ws st2 => spec (x :: ws) st2.S (fun r S' => Q r.fz { st2 with S := S' }) fun x S' => EI x { st2 with S := S' }
  | none => False)
def nMeth (tb : List (Str × ISp)) (m : Str) (ia : IE) (i : IA) : IN := fun EI st Q => ia EI st fun x st1 => objOf st1 x fun C fs => fs.lookup m = none ∧ (match tb.lookup C with
  | some spec => i EI st1 fun ws st2 => spec (x :: ws) st2.S (fun r S' => match r with
    | .new o => Q o { st2 with S := S' }
    | .val _ => False) fun x S' => EI x { st2 with S := S' }
  | none => False)
/-- the reading by objects -/
def tMethG (X : Cx) (k' n : Nat) (m : Str) (Wx : WX) (ta : TE) (t : TA) : TE := fun σ H Q => ta σ H fun x H1 => ∃ a C dx fs f fd ps sp, x = .ref a ∧ H1 a = some (.ins C dx fs) ∧ Cls X.K C ∧ Meth X.K C m f ∧ FnG X.prog X.w X.K X.mg X.base k' f fd ps sp ∧ Binds X.K fd ps [] ∧ fs.lookup m = none ∧
  t σ H1 fun vs H2 => sp (x :: vs) H2 Q (WE Wx σ)
theorem pe_methG {ta : TE} {t : TA} {pl : Sem Bool} (he : PE X o ta) (hr : Room k' X.A) (hgd : X.A.guards = some []) (tk : Takes X Wx) (ha : PA X (e :: es) t)
    (hst : starEach (e :: es) X.env = (false, eval e X.env) :: starEach es X.env) (hpl : (backTo pos (starEach es X.env)).any (·.1) = false)
    (ht : eval (.Call (.Attribute o m apos) (e :: es) [] pos) X.env = (do
      let ov ← eval o X.env
      standAt apos.atName
      let (f, first) ← holding [ov] (getMethod ov m pl)
      callWith pos f first (backTo pos (starEach (e :: es) X.env)) (backToKw pos (keywordEach [] X.env)))) :
    PE X (.Call (.Attribute o m apos) (e :: es) [] pos) (tMethG X k' n m Wx ta t) := by
  refine ⟨fun pins s σ H Q I h => ?_⟩
  refine PySem.W.methodCall_KW (pl := pl) (thn (he.run pins s σ H _ I h) fun u s1 ⟨x, H1, I1, rx, a, C, dx, fs, f, fd, ps, sp, ex, ea, c, hm, G, hb, l, q⟩ => ?_) ht
  subst ex
  obtain rfl : u = Value.ref a := rx
  refine getmeth_ok I1 ea c hm l ?_
  refine PySem.W.callWith_K (first := [.ref a]) (h₀ := X.base) I.ok.mod.kin hm.kp (thn (ha.run pos pins s1 σ H1 _ I1 q) fun us s2 ⟨vs, H2, I2, r, q2⟩ => ⟨I2.kIn, ?_⟩) hst hpl
  exact run_fnG (us := .ref a :: us) (vs := .ref a :: vs) G hr hgd tk hb I2 (.cons rfl r) q2
theorem pe_methG0 {ta : TE} {pl : Sem Bool} (he : PE X o ta) (hr : Room k' X.A) (hgd : X.A.guards = some []) (tk : Takes X Wx)
    (ht : eval (.Call (.Attribute o m apos) [] [] pos) X.env = (do
      let ov ← eval o X.env
      standAt apos.atName
      let (f, first) ← holding [ov] (getMethod ov m pl)
      callWith pos f first (backTo pos (starEach [] X.env)) (backToKw pos (keywordEach [] X.env)))) :
    PE X (.Call (.Attribute o m apos) [] [] pos) (tMethG X k' n m Wx ta tNil) := by
  refine ⟨fun pins s σ H Q I h => ?_⟩
  refine PySem.W.methodCall_KW (pl := pl) (thn (he.run pins s σ H _ I h) fun u s1 ⟨x, H1, I1, rx, a, C, dx, fs, f, fd, ps, sp, ex, ea, c, hm, G, hb, l, q⟩ => ?_) ht
  subst ex
  obtain rfl : u = Value.ref a := rx
  refine getmeth_ok I1 ea c hm l ?_
  exact PySem.W.callWith_K0 (first := [.ref a]) I1.kIn hm.kp (run_fnG (us := [.ref a]) (vs := [.ref a]) G hr hgd tk hb I1 (.cons rfl .nil) q)
theorem meth_val {la : IA → TA} (hla : ∀ {i : IA} {σ : L2.St} {H : Hp} {Q : List V → Hp → Prop}, LA X.K F Wx n i σ H Q → la i σ H Q) (M : Ms X.prog X.w X.K X.mg X.base m k' n tb) {σ : L2.St} {H : Hp} {Q : VK} (h : LE X.K F Wx (iMeth tb m ia i) σ H Q) : tMethG X k' n m Wx (LE X.K F Wx ia) (la i) σ H Q := by
  obtain ⟨st, QI, EI, l, q, ux, k⟩ := h
  refine ⟨st, _, EI, l, q, ux, fun x st1 v H1 q1 l1 s1 r1 => ?_⟩
  obtain ⟨p, C, fs, dx, vs, rfl, ⟨hn, q2⟩, e, rf⟩ := objOf_inv q1 l1 r1
  split at q2
  · rename_i spec es
    obtain ⟨fd, ps, c, hm, G, b⟩ := (M.at_ C spec es).ex
    refine ⟨p, _, dx, vs, _, fd, ps, _, rfl, e, c, hm, G, b, rf.no hn, hla ⟨st1, _, EI, l1, q2, ux.step s1, fun ws st2 us H2 hl q3 l2 s2 r2 => ?_⟩⟩
    refine call_ok l2 (.cons (r1.mono s2.mv) r2) (by simp [hl]) q3 (ux.step (s1.trans s2)) fun r S' v H3 q4 h2 => ?_
    have ⟨l3, rv⟩ := h2.fz l2.enter
    obtain ⟨l4, s4⟩ := l2.back h2.1 l3 (fun _ z => z) fun a z => .inl z
    exact k r.fz _ v H3 q4 l4 ((s1.trans s2).trans s4) (rv.mono (mv_same fun b z => (live_enter (F := F) (st := { st2 with S := S' }) (σ := σ)).mpr z))
  · exact q2.elim
theorem i_meth {pl : Sem Bool} (M : Ms X.prog X.w X.K X.mg X.base m k' n tb) (hr : Room k' X.A) (hgd : X.A.guards = some []) (tk : Takes X Wx) (ho : PE X o (LE X.K F Wx ia)) (ha : PA X (e :: es) (LA X.K F Wx n i))
    (hst : starEach (e :: es) X.env = (false, eval e X.env) :: starEach es X.env := by rfl) (hpl : (backTo pos (starEach es X.env)).any (·.1) = false := by rfl)
    (ht : eval (.Call (.Attribute o m apos) (e :: es) [] pos) X.env = (do
      let ov ← eval o X.env
      standAt apos.atName
      let (f, first) ← holding [ov] (getMethod ov m pl)
      callWith pos f first (backTo pos (starEach (e :: es) X.env)) (backToKw pos (keywordEach [] X.env))) := by rfl) : PE X (.Call (.Attribute o m apos) (e :: es) [] pos) (LE X.K F Wx (iMeth tb m ia i)) :=
  pe_imp (pe_methG (k' := k') (n := n) (pl := pl) ho hr hgd tk ha hst hpl ht) fun _ _ _ h => meth_val (la := LA X.K F Wx n) (fun z => z) M h
theorem i_meth0 {pl : Sem Bool} (M : Ms X.prog X.w X.K X.mg X.base m k' 0 tb) (hr : Room k' X.A) (hgd : X.A.guards = some []) (tk : Takes X Wx) (ho : PE X o (LE X.K F Wx ia))
    (ht : eval (.Call (.Attribute o m apos) [] [] pos) X.env = (do
      let ov ← eval o X.env
      standAt apos.atName
      let (f, first) ← holding [ov] (getMethod ov m pl)
      callWith pos f first (backTo pos (starEach [] X.env)) (backToKw pos (keywordEach [] X.env))) := by rfl) : PE X (.Call (.Attribute o m apos) [] [] pos) (LE X.K F Wx (iMeth tb m ia iNil)) :=
  pe_imp (pe_methG0 (k' := k') (n := 0) (pl := pl) ho hr hgd tk ht) fun _ _ _ h => meth_val (i := iNil) (la := fun i σ H Q => LA X.K F Wx 0 i σ H Q) (fun z => z) M h |> fun z => (show tMethG X k' 0 m Wx (LE X.K F Wx ia) tNil _ _ _ from by
    obtain ⟨st, QI, EI, l, q, ux, kk⟩ := z
    refine ⟨st, QI, EI, l, q, ux, fun x st1 v H1 q1 l1 s1 r1 => ?_⟩
    obtain ⟨a, C, dx, fs, f, fd, ps, sp, e1, e2, c, hm, G, b, hn, t⟩ := kk x st1 v H1 q1 l1 s1 r1
    exact ⟨a, C, dx, fs, f, fd, ps, sp, e1, e2, c, hm, G, b, hn, la_nil t⟩)
end
structure CalP (P : Program) (w : World) (K : PySem.W.Frag) (mg : Str → Option Value) (base : Heap) (C f : Str) (k : Nat) (spec : ISp) : Prop where
  ex : ∃ p g fd ps, Cls K (ga K C) ∧ PropOf K (ga K C) f p g ∧ FnG P w K mg base k g fd ps (spI K 1 spec) ∧ Binds K fd ps []
theorem CalP.spec {P : Program} {w : World} {K : PySem.W.Frag} {mg : Str → Option Value} {base : Heap} {C f : Str} {k : Nat} {sp sp' : ISp} (M : CalP P w K mg base C f k sp) (h : ∀ ws S Q E, sp' ws S Q E → sp ws S Q E) : CalP P w K mg base C f k sp' := by
  obtain ⟨p, g, fd, ps, c, hm, G, b⟩ := M.ex
  exact ⟨p, g, fd, ps, c, hm, G.spec h, b⟩
theorem CalP.up {P : Program} {w : World} {K : PySem.W.Frag} {mg : Str → Option Value} {base : Heap} {C f : Str} {k k' : Nat} {sp : ISp} (M : CalP P w K mg base C f k sp) (h : k ≤ k') : CalP P w K mg base C f k' sp := by
  obtain ⟨p, g, fd, ps, c, hm, G, b⟩ := M.ex
  exact ⟨p, g, fd, ps, c, hm, G.up h, b⟩
structure Ps (P : Program) (w : World) (K : PySem.W.Frag) (mg : Str → Option Value) (base : Heap) (f : Str) (k : Nat) (tb : List (Str × ISp)) : Prop where
  at_ : ∀ C sp, tb.lookup C = some sp → CalP P w K mg base C f k sp
theorem Ps.nil {P : Program} {w : World} {K : PySem.W.Frag} {mg : Str → Option Value} {base : Heap} {f : Str} {k : Nat} : Ps P w K mg base f k [] := ⟨fun _ _ e => by cases e⟩
theorem Ps.cons {P : Program} {w : World} {K : PySem.W.Frag} {mg : Str → Option Value} {base : Heap} {C f : Str} {j k : Nat} {sp : ISp} {tb : List (Str × ISp)} (M : CalP P w K mg base C f j sp) (h : j ≤ k) (r : Ps P w K mg base f k tb) : Ps P w K mg base f k ((C, sp) :: tb) := ⟨fun D sp' e => by
  rw [List.lookup_cons] at e
  cases q : D == C with
  | true =>
    rw [q] at e
    cases e
    rw [eq_of_beq q]
    exact M.up h
  | false =>
    rw [q] at e
    exact r.at_ D sp' e⟩
section
variable {X : Cx} {F : Addr → Prop} {Wx : WX} {a b c e o : Expr} {es : List Expr} {pos apos : Pos} {ia ib ic : IE} {f : Str} {k' n : Nat} {tb : List (Str × ISp)} {i : IA}
/-- x.f, a property whose getter raises nothing -/
def iProp (tb : List (Str × ISp)) (f : Str) (ia : IE) : IE := fun EI st Q => ia EI st fun x st1 => objOf st1 x fun C fs => match tb.lookup C with
  | some spec => spec [x] st1.S (fun r S' => Q r.fz { st1 with S := S' }) fun _ _ => False
  | none => False
theorem prop_fnG {pins : List (Addr × Obj)} {σ : L2.St} {H : Hp} {s : Shared} {Q : VK} {bb : Bool} {E' : Value → Shared → Prop} {C p g av dx : Addr} {fs : List (Str × V)} {fd : FuncData} {ps : List Str} {sp : Sp} (I : Inv X pins σ H s) (ea : H av = some (.ins C dx fs)) (c : Cls X.K C) (hp : PropOf X.K C f p g)
    (G : FnG X.prog X.w X.K X.mg X.base k' g fd ps sp) (hr : Room (k' + 1) X.A) (hgd : X.A.guards = some []) (hb : Binds X.K fd ps []) (h : sp [.ref av] H Q fun _ _ _ => False) :
    wpAny (model X.prog X.w) X.A (getAttr (.ref av) f bb) (EP X pins σ Q) E' s := by
  obtain ⟨mA, O, _, _, _, _⟩ := ins_get I.hok ea
  obtain ⟨od, J, _⟩ := O.look
  obtain ⟨rest, hrec⟩ := hp.rec_
  have I1 := I.tok (s.toks + 1)
  have hl : ([Value.ref av]).length = ps.length := by rw [← G.len h]; rfl
  have hc : (PySem.W.clsIn X.K C).isSome = true := by
    obtain ⟨cd, hc, _⟩ := PySem.W.any_some c.hd
    rw [hc]
    rfl
  have bd := hb { s with toks := s.toks + 1 } [.ref av] I1.kIn (by simpa using hl)
  rw [List.append_nil] at bd
  refine PySem.W.get_bind I.kIn J (PySem.W.plainGet_of (c.get f)).1 (PySem.W.findObj_data hc hp.at_ hp.get hp.tak) (PySem.W.plainGet_of (c.get f)).2 (wpAny_call (PySem.W.prop_get (s := { s with toks := s.toks + 1 }) I.kIn hrec ?_))
  refine codeAny_mono (G.go (A := X.A.in1) (outer := X.stack) (s := { s with toks := s.toks + 1 }) (H := H) (args := ⟨[.ref av], []⟩) (us := [.ref av]) (vs := [.ref av]) (Q := Q) (E := fun _ _ _ => False) hr.in1 hgd I1.env0.in1 bd (.cons rfl .nil) h) fun r s' hq => ?_
  cases r with
  | error er => exact (CX_none hq).elim
  | ok fl =>
    cases fl with
    | ret u =>
      obtain ⟨v, H', I3, rv, q3⟩ := I1.after hq
      show wpAny _ _ (handedOut u) _ _ _
      rw [PySem.W.handedOut_of (handed_of rv)]
      exact wpAny_pure ⟨v, H', I3, rv, q3⟩
    | next => exact False.elim hq
    | brk => exact False.elim hq
    | cont => exact False.elim hq
theorem i_prop (M : Ps X.prog X.w X.K X.mg X.base f k' tb) (hr : Room (k' + 1) X.A) (hgd : X.A.guards = some []) (ha : PE X a (LE X.K F Wx ia)) (hab : attributeBase a f X.env (eval a X.env) = eval a X.env := by rfl) : PE X (.Attribute a f pos) (LE X.K F Wx (iProp tb f ia)) := by
  refine ⟨fun pins s σ H Q I h => ?_⟩
  obtain ⟨st, QI, EI, l, q, ux, k⟩ := h
  refine attr_of hab (thn (ha.run pins s σ H (fun v H1 => ∃ p C dx vs pp g fd ps sp, v = .ref p ∧ H1 p = some (.ins C dx vs) ∧ Cls X.K C ∧ PropOf X.K C f pp g ∧ FnG X.prog X.w X.K X.mg X.base k' g fd ps sp ∧ Binds X.K fd ps [] ∧ sp [.ref p] H1 Q fun _ _ _ => False) I ⟨st, _, EI, l, q, ux, fun x st1 v H1 q1 l1 s1 r1 => ?_⟩) fun u s1 hx => ?_)
  · obtain ⟨p, C, fs, dx, vs, rfl, q2, e, rf⟩ := objOf_inv q1 l1 r1
    split at q2
    · rename_i spec es
      obtain ⟨pp, g, fd, ps, c, hp, G, b⟩ := (M.at_ C spec es).ex
      refine ⟨p, _, dx, vs, pp, g, fd, ps, _, rfl, e, c, hp, G, b, ?_⟩
      refine ⟨Fo F st1 σ, st1.S, [x], _, _, l1.enter, .cons (r1.mono (mv_same fun a z => live_enter.mp z)) .nil, rfl, q2, fun r S' v H3 q4 h2 => ?_, fun _ _ _ _ _ z => z.elim⟩
      have ⟨l3, rv⟩ := h2.fz l1.enter
      obtain ⟨l4, s4⟩ := l1.back h2.1 l3 (fun _ z => z) fun a z => .inl z
      exact k r.fz _ v H3 q4 l4 (s1.trans s4) (rv.mono (mv_same fun b z => (live_enter (F := F) (st := { st1 with S := S' }) (σ := σ)).mpr z))
    · exact q2.elim
  · obtain ⟨x, H1, I1, rx, p, C, dx, vs, pp, g, fd, ps, sp, ex, e, c, hp, G, b, q⟩ := hx
    subst ex
    obtain rfl : u = Value.ref p := rx
    exact prop_fnG I1 e c hp G hr hgd b q
end
def Sto.del (S : Sto) (a : Addr) : Sto := fun b => if b = a then none else S b
theorem Sto.del_same {S : Sto} {a : Addr} : S.del a a = none := if_pos rfl
theorem Sto.del_ne {S : Sto} {a b : Addr} (h : b ≠ a) : S.del a b = S b := if_neg h
theorem Sto.del_put {S : Sto} {a : Addr} {o : SO} (h : S a = none) : (S.put a o).del a = S := by
  funext b
  unfold Sto.del Sto.put
  split
  · rename_i e; rw [e, h]
  · rfl
section
variable {K : PySem.W.Frag} {F : Addr → Prop} {st : Stt} {σ : L2.St} {H : Hp} {a : Addr} {o : SO}
theorem live_del (b : Addr) : Live (FA F a) { st with S := st.S.del a } σ b → st.S a ≠ none → Live F st σ b := fun z h => by
  rcases z with (z | z) | z | z
  · by_cases e : b = a
    · exact absurd (show st.S.del a b = none by rw [e]; exact Sto.del_same) z
    · exact .inl (.inl (by rw [← Sto.del_ne (S := st.S) e]; exact z))
  · exact .inl (.inr z)
  · exact .inr z
  · exact .inl (.inl (by rw [z]; exact h))
/-- an object is taken out of the store: nobody else's -/
theorem Lk.unpub (l : Lk K F st σ H) (e : st.S a = some o) : Lk K (FA F a) { st with S := st.S.del a } σ H ∧ RelO K (Live (FA F a) { st with S := st.S.del a } σ) H a o := by
  have ne : st.S a ≠ none := by rw [e]; exact fun z => nomatch z
  have m : Mv (Live F st σ) H (Live (FA F a) { st with S := st.S.del a } σ) H := mv_same fun b z => live_del b z ne
  have sd : ∀ b u, st.S.del a b = some u → st.S b = some u := fun b u q => by
    by_cases eb : b = a
    · rw [eb, Sto.del_same] at q; cases q
    · rw [Sto.del_ne eb] at q; exact q
  refine ⟨⟨l.len, fun i w q => ?_, fun i u q => ?_, l.inj, fun b u q => (l.sto b u (sd b u q)).move (fun _ z => z) m, fun b z => ?_, fun b z => ?_⟩, (l.sto a o e).move (fun _ z => z) m⟩
  · obtain ⟨v, e1, r⟩ := l.val i w q
    exact ⟨v, e1, r.mono m⟩
  · obtain ⟨b, e1, r, n1, n2⟩ := l.own i u q
    have nb : b ≠ a := fun z => by rw [z, e] at n1; cases n1
    exact ⟨b, e1, r.move (fun _ z => z) m, (Sto.del_ne nb).trans n1, fun z => z.elim n2 nb⟩
  · rcases z with z | z
    · exact l.ftr b z
    · rw [z]; exact (l.sto a o e).at
  · rcases z with z | z
    · have nb : b ≠ a := fun q => by have := l.fdis b z; rw [q, e] at this; cases this
      exact (Sto.del_ne nb).trans (l.fdis b z)
    · rw [z]; exact Sto.del_same
theorem Step.del {st0 : Stt} {σ0 : L2.St} {H0 : Hp} (s : Step st0 σ0 H0 st σ H) : Step st0 σ0 H0 { st with S := st.S.del a } σ H :=
  ⟨s.keep, fun b z => s.new b (z.imp (fun z q => z (by
    by_cases e : b = a
    · show st.S.del a b = none
      rw [e]; exact Sto.del_same
    · exact (Sto.del_ne e).trans q)) id)⟩
end
structure CalK (P : Program) (w : World) (K : PySem.W.Frag) (mg : Str → Option Value) (base : Heap) (C : Str) (k n : Nat) (spec : ISp) : Prop where
  ex : ∃ fd ps, Mk K (ga K C) (ma K (ga K C) "__init__") ∧ FnG P w K mg base k (ma K (ga K C) "__init__") fd ps (spI K (n + 1) spec) ∧ Binds K fd ps [] ∧ mg C = some (.ref (ga K C))
theorem CalK.spec {P : Program} {w : World} {K : PySem.W.Frag} {mg : Str → Option Value} {base : Heap} {C : Str} {k n : Nat} {sp sp' : ISp} (M : CalK P w K mg base C k n sp) (h : ∀ ws S Q E, sp' ws S Q E → sp ws S Q E) : CalK P w K mg base C k n sp' := by
  obtain ⟨fd, ps, m, G, b⟩ := M.ex
  exact ⟨fd, ps, m, G.spec h, b⟩
section
variable {X : Cx} {F : Addr → Prop} {Wx : WX} {a b c e o : Expr} {es : List Expr} {pos apos p : Pos} {ia ib ic : IE} {C : Str} {k' n : Nat} {spec : ISp} {i : IA}
def nMake (C : Str) (spec : ISp) (i : IA) : IN := fun EI st Q => i EI st fun ws st1 => ∀ a, st1.S a = none → spec (.ref a :: ws) (st1.S.put a (.ins C [])) (fun r S' => r = .val .non ∧ (match S' a with
    | some o => Q o { st1 with S := S'.del a }
    | none => False)) fun x S' => EI x { st1 with S := S'.del a }
theorem make_guards {A : Around} {C : Addr} {us : List Value} {kw : List (Str × Value)} (h : A.guards = some []) : (A.under (.builtin "type.__call__" ⟨.ref C :: us, kw⟩)).guards = some [] := by
  first
  | exact h
  | simp [Around.under, Code.guards, Code.isGuard, guardIds, pushGuards, h]
theorem run_makeG {pins : List (Addr × Obj)} {σ : L2.St} {H : Hp} {s : Shared} {Q : VK} {us : List Value} {vs : List V} {Ca f : Addr} {fd : FuncData} {ps : List Str} {sp : Sp} (M : Mk X.K Ca f) (G : FnG X.prog X.w X.K X.mg X.base k' f fd ps sp) (hr : Room (k' + 1) X.A) (hgd : X.A.guards = some []) (tk : Takes X Wx) (hb : Binds X.K fd ps [])
    (I : Inv X pins σ H s) (r : Vals vs us)
    (h : ∀ x dx, H x = none → H dx = none → dx ≠ x → sp (.ref x :: vs) (upd (upd H dx (.own x)) x (.ins Ca dx [])) (fun v H2 => v = .non ∧ Q (.ref x) H2) (WE Wx σ)) :
    wpAny (model X.prog X.w) X.A (call (.ref Ca) us) (EP X pins σ Q) X.xe s := by
  have hq := h (s.heap.objs.size + 1) s.heap.objs.size (I.hok.fresh (Nat.le_succ _)) (I.hok.fresh (Nat.le_refl _)) (Nat.ne_of_lt (Nat.lt_succ_self _))
  have I2 := Inv.made (C := Ca) I
  have r2 : Vals (V.ref (s.heap.objs.size + 1) :: vs) (Value.ref (s.heap.objs.size + 1) :: us) := .cons rfl r
  have hl : (Value.ref (s.heap.objs.size + 1) :: us).length = ps.length := by
    have e := r2.length
    rw [G.len hq] at e
    exact e.symm
  have bd := hb _ (Value.ref (s.heap.objs.size + 1) :: us) I2.kIn (by simpa using hl)
  rw [List.append_nil] at bd
  refine wpAny_call (make_map (f := f) I.kIn M.makes M.init (beq_iff_eq.mp M.fn) (codeAny_mono (G.go (hr.make Ca us []) (make_guards hgd) (I2.env0.make Ca us []) bd r2 hq) fun r s' hq' => ?_))
  cases r with
  | error e => exact passAt tk σ pins _ _ e s' I2 hq'
  | ok fl =>
    cases fl with
    | ret u =>
      obtain ⟨v, H', I3, rv, ev, q3⟩ := I2.after hq'
      subst ev
      exact ⟨rv, ⟨V.ref (s.heap.objs.size + 1), H', I3, rfl, q3⟩⟩
    | next => exact False.elim hq'
    | brk => exact False.elim hq'
    | cont => exact False.elim hq'
theorem RelX.less {K : PySem.W.Frag} {Lv Lv' : Addr → Prop} {H : Hp} {x : Exn} {cls : Value} {d : Option Addr} (h : ∀ b, Lv' b → Lv b) (r : RelX K Lv H x cls d) : RelX K Lv' H x cls d := by
  obtain ⟨e1, z⟩ := r
  refine ⟨e1, z.imp id ?_⟩
  rintro ⟨a, vs', e2, e3, e4, e5⟩
  exact ⟨a, vs', e2, e3, fun z => e4 (h a z), e5.mono (mv_same h)⟩
theorem make_spec {σ : L2.St} {st1 : Stt} {H1 : Hp} {ws : List W} {vs : List V} {EI : XI} {QI : SO → Stt → Prop} {Q : VK} {st : Stt} {H : Hp} (l1 : Lk X.K F st1 σ H1) (r1 : RelWs X.K (Live F st1 σ) H1 ws vs) (hl : ws.length = n) (s1 : Step st σ H st1 σ H1) (ux : UpX X.K F Wx st σ H EI)
    (q1 : ∀ a, st1.S a = none → spec (.ref a :: ws) (st1.S.put a (.ins C [])) (fun r S' => r = .val .non ∧ (match S' a with
      | some o => QI o { st1 with S := S'.del a }
      | none => False)) fun x S' => EI x { st1 with S := S'.del a })
    (k : ∀ o st' a H', QI o st' → Lk X.K (FA F a) st' σ H' → Step st σ H st' σ H' → RelO X.K (Live (FA F a) st' σ) H' a o → NewAt st σ H a → Q (.ref a) H') :
    ∀ x dx, H1 x = none → H1 dx = none → dx ≠ x → spI X.K (n + 1) spec (.ref x :: vs) (upd (upd H1 dx (.own x)) x (.ins (ga X.K C) dx [])) (fun v H2 => v = .non ∧ Q (.ref x) H2) (WE Wx σ) := by
  intro x dx hx hdx ne
  have nS : st1.S x = none := by
    cases z : st1.S x with
    | none => rfl
    | some o =>
      obtain ⟨u, q⟩ := (l1.sto x o z).at
      rw [hx] at q; cases q
  have nF : ¬ F x := fun z => by
    obtain ⟨u, q⟩ := l1.ftr x z
    rw [hx] at q; cases q
  have l2 := l1.laid (o := .own x) hdx
  have s2 := Step.laid (o := .own x) l1 hdx
  have hx2 : upd H1 dx (HO.own x) x = none := by rw [upd_ne (Ne.symm ne)]; exact hx
  have l3 := l2.foreign (u := .ins (ga X.K C) dx []) hx2
  have l4 := l3.publish (o := .ins C []) ⟨dx, [], upd_same, .nil⟩ nF
  have s3 : Step st1 σ (upd H1 dx (.own x)) (st1.puts x (.ins C [])) σ (upd (upd H1 dx (.own x)) x (.ins (ga X.K C) dx [])) := Step.publish (Step.laid l2 hx2) (.inr hx2)
  have sa := (s1.trans s2).trans s3
  have r2 : RelWs X.K (Live F (st1.puts x (.ins C [])) σ) (upd (upd H1 dx (.own x)) x (.ins (ga X.K C) dx [])) ws vs := r1.mono (s2.trans s3).mv
  refine ⟨Fo F (st1.puts x (.ins C [])) σ, _, .ref x :: ws, _, _, l4.enter, .cons (.ref x) (r2.mono (mv_same fun a z => live_enter.mp z)), by simp [hl], q1 x nS, fun r S' v H3 q4 h2 => ?_, fun xx S' cls d H3 q4 lx sx rx => ?_⟩
  · obtain ⟨er, q4⟩ := q4
    subst er
    obtain ⟨sc, lc, rv⟩ := h2
    cases rv
    refine ⟨rfl, ?_⟩
    split at q4
    · rename_i o eo
      obtain ⟨l5, s5⟩ := l4.back sc lc (fun _ z => z) fun a z => .inl z
      obtain ⟨l6, ro⟩ := l5.unpub (a := x) (o := o) eo
      have nx : NewAt st1 σ H1 x := .inr hx
      exact k o _ x H3 q4 l6 (sa.trans (Step.del s5)) ro (nx.step s1)
    · exact q4.elim
  · obtain ⟨l5, s5⟩ := l4.back sx lx (fun _ z => z) fun a z => .inl z
    have lv : ∀ b, Live F { st1.puts x (.ins C []) with S := S' } σ b → Live (Fo F (st1.puts x (.ins C [])) σ) ⟨[], S'⟩ [] b := fun b z => (live_enter (F := F) (st := { st1.puts x (.ins C []) with S := S' }) (σ := σ)).mpr z
    have rx2 := RelX.less lv rx
    have fin : Lk X.K F { st1 with S := S'.del x } σ H3 ∧ ∀ b, Live F { st1 with S := S'.del x } σ b → Live F { st1.puts x (.ins C []) with S := S' } σ b := by
      cases z : S' x with
      | none =>
        have e : S'.del x = S' := by
          funext b
          unfold Sto.del
          split
          · rename_i e; rw [e, z]
          · rfl
        rw [e]
        exact ⟨l5, fun _ w => w⟩
      | some o =>
        obtain ⟨l6, ro⟩ := l5.unpub (a := x) (o := o) z
        exact ⟨l6.less fun _ w => .inl w, fun b w => live_del (st := { st1.puts x (.ins C []) with S := S' }) (a := x) b (w.imp id .inl) (by show S' x ≠ none; rw [z]; exact fun y => nomatch y)⟩
    exact ux xx _ cls d H3 q4 fin.1 (sa.trans (Step.del s5)) (RelX.less fin.2 rx2)
theorem n_make (M : CalK X.prog X.w X.K X.mg X.base C k' n spec) (hr : Room (k' + 1) X.A) (hgd : X.A.guards = some []) (tk : Takes X Wx) (ha : PA X (e :: es) (LA X.K F Wx n i)) (hg : Gl X C := by rfl) (hdb : (C == ("__debug__" : Str)) = false := by decide)
    (he : starEach (e :: es) X.env = (false, eval e X.env) :: starEach es X.env := by rfl) (hpl : (backTo pos (starEach es X.env)).any (·.1) = false := by rfl) : PE X (.Call (.Name C p) (e :: es) [] pos) (LN X.K F Wx (nMake C spec i)) := by
  obtain ⟨fd, ps, Mk', G, hb, hm⟩ := M.ex
  refine ⟨fun pins s σ H Q I h => ?_⟩
  obtain ⟨st, QI, EI, l, q, ux, k⟩ := h
  refine wpAny_Call_Name_kw (ld_glob I hg hm ?_ hdb)
  refine PySem.W.callWith_K (h₀ := X.base) I.ok.mod.kin Mk'.kp (thn (ha.run pos pins s σ H (fun vs H1 => ∀ x dx, H1 x = none → H1 dx = none → dx ≠ x → spI X.K (n + 1) spec (.ref x :: vs) (upd (upd H1 dx (.own x)) x (.ins (ga X.K C) dx [])) (fun v H2 => v = .non ∧ Q (.ref x) H2) (WE Wx σ)) I ⟨st, _, EI, l, q, ux, fun ws st1 vs H1 hl q1 l1 s1 r1 => ?_⟩) fun us s1 ⟨vs, H1, I1, r, q⟩ => ⟨I1.kIn, ?_⟩) he hpl
  · exact make_spec l1 r1 hl s1 ux q1 k
  · exact run_makeG Mk' G hr hgd tk hb I1 r q
theorem i_make (M : CalK X.prog X.w X.K X.mg X.base C k' n spec) (hr : Room (k' + 1) X.A) (hgd : X.A.guards = some []) (tk : Takes X Wx) (ha : PA X (e :: es) (LA X.K F Wx n i)) (hg : Gl X C := by rfl) (hdb : (C == ("__debug__" : Str)) = false := by decide)
    (he : starEach (e :: es) X.env = (false, eval e X.env) :: starEach es X.env := by rfl) (hpl : (backTo pos (starEach es X.env)).any (·.1) = false := by rfl) : PE X (.Call (.Name C p) (e :: es) [] pos) (LE X.K F Wx (iFz (nMake C spec i))) := i_fz (n_make M hr hgd tk ha hg hdb he hpl)
end
end Sh
namespace Sh
open PySem L2
open PyProof.Rows hiding St
open He (ga ma)
section
variable {X : Cx} {F : Addr → Prop} {Wx : WX} {a b c e o : Expr} {es : List Expr} {pos apos p : Pos} {ia ib ic : IE} {m : Str} {k' n : Nat} {tb : List (Str × ISp)} {i : IA}
/-- a call one level in, that raises nothing -/
theorem run_in1 {pins : List (Addr × Obj)} {σ : L2.St} {H : Hp} {s : Shared} {Q : VK} {us : List Value} {vs : List V} {f : Addr} {fd : FuncData} {ps : List Str} {sp : Sp} {E' : Value → Shared → Prop} (G : FnG X.prog X.w X.K X.mg X.base k' f fd ps sp) (hr : Room (k' + 1) X.A) (hgd : X.A.guards = some []) (hb : Binds X.K fd ps [])
    (I : Inv X pins σ H s) (r : Vals vs us) (h : sp vs H Q fun _ _ _ => False) : wpAny (model X.prog X.w) X.A.in1 (call (.ref f) us) (EP X pins σ Q) E' s := by
  have hl : us.length = ps.length := r.length.symm.trans (G.len h)
  have bd := hb s us I.kIn (by simpa using hl)
  rw [List.append_nil] at bd
  refine wpAny_call (codeAny_mono (G.go hr.in1 hgd I.env0.in1 bd r h) fun res s' q => ?_)
  cases res with
  | error e => exact (CX_none q).elim
  | ok fl => cases fl <;> first | exact I.after q | exact q.elim
/-- a spec at one object, nothing raised -/
theorem one_ok {K : PySem.W.Frag} {spec : ISp} {st1 : Stt} {σ : L2.St} {H1 : Hp} {x : W} {v : V} {QI : R → Sto → Prop} {Q : VK} (l1 : Lk K F st1 σ H1) (r1 : RelW K (Live F st1 σ) H1 x v) (hs : spec [x] st1.S QI fun _ _ => False)
    (k : ∀ r S' v H', QI r S' → RetOk K (Fo F st1 σ) ⟨[], st1.S⟩ [] H1 r S' v H' → Q v H') : spI K 1 spec [v] H1 Q fun _ _ _ => False :=
  ⟨Fo F st1 σ, st1.S, [x], _, _, l1.enter, .cons (r1.mono (mv_same fun a z => live_enter.mp z)) .nil, rfl, hs, k, fun _ _ _ _ _ z => z.elim⟩
def iLenM (tb : List (Str × ISp)) (ia : IE) : IE := fun EI st Q => ia EI st fun x st1 => objOf st1 x fun C fs => match tb.lookup C with
  | some spec => spec [x] st1.S (fun r S' => match r with
    | .val (.int n) => 0 ≤ n ∧ n < 2 ^ 63 ∧ Q (.int n) { st1 with S := S' }
    | _ => False) fun _ _ => False
  | none => False
theorem i_lenM (M : Ms X.prog X.w X.K X.mg X.base "__len__" k' 0 tb) (hr : Room (k' + 1) X.A) (hgd : X.A.guards = some []) (hm : X.mg "len" = none) (ha : PE X a (LE X.K F Wx ia)) (hg : Gl X "len" := by rfl) (hst : starEach [a] X.env = (false, eval a X.env) :: starEach [] X.env := by rfl) :
    PE X (.Call (.Name "len" p) [a] [] pos) (LE X.K F Wx (iLenM tb ia)) := by
  refine ⟨fun pins s σ H Q I h => ?_⟩
  obtain ⟨st, QI, EI, l, q, ux, k⟩ := h
  refine wpAny_Call_Name_kw (ld_blt (u := .builtin "len") I hg hm boot_len ?_ (by decide) (by decide))
  have pa : PA X [a] _ := pa_cons ha pa_nil hst
  refine PyProof.Rows.callWith_builtin1 (thn (pa.run pos pins s σ H (fun vs H1 => ∃ p C dx fs f fd ps sp, vs = [.ref p] ∧ H1 p = some (.ins C dx fs) ∧ Cls X.K C ∧ Meth X.K C "__len__" f ∧ FnG X.prog X.w X.K X.mg X.base k' f fd ps sp ∧ Binds X.K fd ps [] ∧ sp [.ref p] H1 (fun v H2 => ∃ n, v = .int n ∧ 0 ≤ n ∧ n < 2 ^ 63 ∧ Q (.int n) H2) fun _ _ _ => False) I
    ⟨st, _, EI, l, q, ux, fun x st1 v H1 q1 l1 s1 r1 => ?_⟩) fun us s1 hx => ?_) hst rfl
  · obtain ⟨p, C, fs, dx, vs, rfl, q2, e, rf⟩ := objOf_inv q1 l1 r1
    split at q2
    · rename_i spec es
      obtain ⟨fd, ps, c, hm, G, b⟩ := (M.at_ C spec es).ex
      refine ⟨p, _, dx, vs, _, fd, ps, _, rfl, e, c, hm, G, b, one_ok l1 r1 q2 fun r S' v H3 q4 h2 => ?_⟩
      split at q4
      · rename_i n
        have ⟨l3, rv⟩ := h2.fz l1.enter
        cases rv
        obtain ⟨l4, s4⟩ := l1.back h2.1 l3 (fun _ z => z) fun a z => .inl z
        exact ⟨n, rfl, q4.1, q4.2.1, k _ _ _ H3 q4.2.2 l4 (s1.trans s4) (.int n)⟩
      · exact q4.elim
    · exact q2.elim
  · obtain ⟨vs, H1, I1, r1, p, C, dx, fs, f, fd, ps, sp, ev, e, c, hm, G, b, q⟩ := hx
    subst ev
    obtain ⟨u, rfl, ru⟩ := vals1 r1
    cases ru
    obtain ⟨mF, hF⟩ := I1.fr
    obtain ⟨mA, O, _, _, _, _⟩ := ins_get I1.hok e
    obtain ⟨od, J, _⟩ := O.look
    refine PySem.W.len_K hF I1.ok.mod.kin J hm.at_ hm.fn (wpAny_mono (run_in1 (us := [.ref p]) (vs := [.ref p]) G hr hgd b I1 (.cons rfl .nil) q) (fun v s2 hv => ?_) fun _ _ z => z)
    obtain ⟨w, H2, I2, rw', n, rfl, n0, n1, q2⟩ := hv
    obtain ⟨t, rfl⟩ := (show ∃ t, v = Value.int n t from rw')
    exact ⟨⟨n0, n1⟩, ⟨.int n, H2, I2.tok _, ⟨_, rfl⟩, q2⟩⟩
def iInv (tb : List (Str × ISp)) (ia : IE) : IE := fun EI st Q => ia EI st fun x st1 => objOf st1 x fun C fs => match tb.lookup C with
  | some spec => spec [x] st1.S (fun r S' => Q r.fz { st1 with S := S' }) fun x S' => EI x { st1 with S := S' }
  | none => False
end
section
variable {X : Cx} {F : Addr → Prop} {Wx : WX} {a b c e o : Expr} {es : List Expr} {pos apos p : Pos} {ia ib ic : IE} {C : Str} {k' n : Nat} {spec : ISp} {i : IA}
def iMulM (C : Str) (spec : ISp) (ia ib : IE) : IE := fun EI st Q => ia EI st fun x st1 => ib EI st1 fun y st2 => objOf st2 x fun C1 _ => objOf st2 y fun C2 _ => C1 = C ∧ C2 = C ∧ spec [x, y] st2.S (fun r S' => Q r.fz { st2 with S := S' }) fun x S' => EI x { st2 with S := S' }
end
def tiObj (t : Addr) : Obj := { cls := .type "tuple_iterator", data := .fields #[.ref t, .int 0 0] }
def ItT (t it : Addr) : HO := .ext fun h => h.get? it = some (tiObj t)
def ItL (t it : Addr) : HO := ItO t it 0
/-- a tuple or a list -/
def SqB (K : PySem.W.Frag) (H : Hp) (t : Addr) (xs : List V) : Bool → Prop
  | true => SqT K H t xs
  | false => SqL K H t xs
def ItB (t it : Addr) : Bool → HO
  | true => ItT t it
  | false => ItL t it
section
variable {P : Program} {w : World} {K : PySem.W.Frag} {mg : Str → Option Value} {base : Heap}
/-- the def at f gives the iterator of a field's tuple or list, a young one -/
structure FnIt (P : Program) (w : World) (K : PySem.W.Frag) (mg : Str → Option Value) (base : Heap) (k : Nat) (f : Addr) (fd : FuncData) (fld : Str) (C : Addr) : Prop where
  go : ∀ {A : Around} {outer : List Env} {s : Shared} {H : Hp} {args : Args} {a dx t : Addr} {fs : List (Str × V)} {xs : List V} {b : Bool}, Room k A → A.guards = some [] → Env0 P w K mg base A outer s H → BindsTo s fd args [(("self" : Str), .ref a)] →
    H a = some (.ins C dx fs) → fs.lookup fld = some (.ref t) → SqB K H t xs b →
    codeAny (model P w) A (.call (.ref f) args) (CR (L2.CX P w) outer P w H s (fun v H' => ∃ it, v = .ref it ∧ H it = none ∧ s.heap.objs.size ≤ it ∧ H' = upd H it (ItB t it b)) fun _ _ _ => False) s
end
def rIterT (K : PySem.W.Frag) (n : Nat) : List V → Hp → VK → Prop := fun xs H Q => ∃ (t : Addr) (zs : List V) (b : Bool), xs = [.ref t] ∧ SqB K H t zs b ∧ ∀ it, H it = none → n ≤ it → Q (.ref it) (upd H it (ItB t it b))
theorem call_iterTup {prog : Program} {w : World} {A : Around} {E : Value → Shared → Prop} {s : Shared} {t : Addr} {items : Array Value} {Q : Value → Shared → Prop} (ht : s.heap.IsTuple t items) (h : Q (.ref s.heap.objs.size) { s with heap := s.heap.push (tiObj t) }) : wpAny (model prog w) A (call (.builtin "iter") [.ref t]) Q E s := by
  refine Calls.call_function_entry (by decide +kernel) (by decide +kernel) PySem.W.kdk_entry_iter (PySem.W.kdk_args_iter _) ?_
  unfold Builtin.«iter»
  refine wpAny_bind (m := someArgs "iter" 1 2 _) (wpAny_of_eq (a := [Value.ref t]) (by first | rfl | kernel_rfl!) ?_)
  show wpAny _ _ (pyIter (.ref t) >>= _) _ _ _
  exact wpAny_bind (wpAny_pyIter_tuple ht (wpAny_pure ⟨_, rfl, h⟩))
theorem itT_ok {P : Program} {w : World} {H : Hp} {h : Heap} {t it : Addr} (e : h.get? it = some (tiObj t)) : ObjOk P w H h it (ItT t it) := ⟨e, ⟨_, e⟩, fun h1 h2 q k => k _ q⟩
theorem call_iterTN {X : Cx} : CallR X (.builtin "iter") (rIterT X.K X.s_0.heap.objs.size) := by
  intro pins s σ H xs us Q I r h
  obtain ⟨t, zs, b, rfl, hq, q⟩ := h
  obtain ⟨u, rfl, ru⟩ := vals1 r
  cases ru
  have hn := q _ (I.hok.fresh (Nat.le_refl _)) I.sz
  cases b with
  | true =>
    obtain ⟨its, rv, pl, hz⟩ := I.tuple hq
    refine call_iterTup (show s.heap.IsTuple t its.toArray from pl) ?_
    exact ⟨.ref s.heap.objs.size, _, I.laid (t' := s.toks) (fun b u e => Heap.get?_push_of_some _ e) (Nat.le_refl _) (itT_ok (Heap.get?_push_size _ rfl)), rfl, hn⟩
  | false =>
    obtain ⟨its, rv, pl, hz⟩ := I.list hq
    refine GNX.call_iter pl.isList ?_
    exact ⟨.ref s.heap.objs.size, _, I.laid (t' := s.toks) (fun b u e => Heap.get?_push_of_some _ e) (Nat.le_refl _) (itO_ok (Heap.get?_push_size _ rfl)), rfl, hn⟩
section
variable {P : Program} {w : World} {K : PySem.W.Frag} {mg : Str → Option Value} {base : Heap} {x qual : Str} {params : Arguments} {body : List Stmt} {scope : Scope} {f : Addr} {fd : FuncData}
/-- def __iter__(self): return iter(self.fld) -/
theorem fnIt_of {N : List Str} {fld : Str} {C : Addr} {p1 p2 p3 p4 p5 : Pos} (Fd : FunD K x qual params body scope [] [] f fd) (Sc : FnScope N [("self" : Str)] scope) (hN : N[0]? = some ("self" : Str)) (hbody : body = [.Return (some (.Call (.Name "iter" p1) [.Attribute (.Name "self" p2) fld p3] [] p4)) p5])
    (c : Cls K C) (nf : NoAttr K C fld) (hm : mg "iter" = none)
    (hgl : ∀ (cdv : Value) (A : Around) (outer : List Env) (s : Shared) (H : Hp) (E : XK), Gl (cxOf (L2.CX P w) P w K mg base N qual scope f cdv A outer s H E) "iter") : FnIt P w K mg base 1 f fd fld C := by
  subst hbody
  obtain ⟨oc, od, dV, kV, doc, pm, an, cdv, ct, osl, rfl, lk, hcd, _, _⟩ := Fd.ex
  refine ⟨fun {A outer s H args a dx t fs xs b} room gu e0 bd ea lf hsq => ?_⟩
  have kin : K.In s.heap := e0.mod.kin.keeps fun b o e => (e0.bs b o e).1
  have noLim : s.heap.NoLimit := e0.mod.nolimit.keeps fun b o e => (e0.bs b o e).1
  have kinds : ∀ y ∈ [(("self" : Str), Value.ref a)], scope.names.lookup y.1 = some .local ∨ (scope.names.lookup y.1 = some .cell ∧ ((cellsFrom (s.heap.objs.size + 1) scope.names []).lookup y.1).isSome = true) := fun y hy => by
    have ey : y = (("self" : Str), Value.ref a) := by simpa using hy
    rw [ey]
    rcases Sc.par ("self" : Str) (List.mem_singleton.mpr rfl) with q | q
    · exact .inl q
    · exact .inr ⟨q, PySem.W.cellsFrom_some _ _ _ (.inl q)⟩
  refine codeAny_call_function room.depth (kin _ _ lk) rfl Sc.co Sc.gen rfl (PySem.W.codeRec_of kin hcd) (bd _ _ _ _ ?_)
  refine wpAny_newFunctionEnv_cells Sc.kind kinds fun env he s1 z => ?_
  subst he
  refine ⟨noLim.keeps z.toInCall.keep, codeAny_func ?_⟩
  let Q : VK := fun v H' => ∃ it, v = .ref it ∧ H it = none ∧ s.heap.objs.size ≤ it ∧ H' = upd H it (ItB t it b)
  have I := inv_start (CX := L2.CX P w) (E := fun _ _ _ => False) (vs := [.ref a]) (us := [.ref a]) Sc room.hd e0 rfl (.cons rfl .nil) z
  have vis : Vis scope "self" := (Sc.par "self" (List.mem_singleton.mpr rfl)).elim (fun z => .inl z) (fun z => .inr (.inl z))
  have d := pss_one (X := cxOf (L2.CX P w) P w K mg base N qual scope f cdv A outer s H fun _ _ _ => False) (ps_ret (pos := p5) (pe_callB (p := p1) (pos := p4) call_iterTN (hgl cdv A outer s H _) hm (by decide +kernel) (pa_cons (pe_fld (f := fld) (pos := p3) (pe_var (pos := p2) (i := 0) hN vis) rfl) pa_nil)))
  have h0 : (L2.start N [V.ref a])[0]? = some (some (.ref a)) := rfl
  refine wpAny_mono (d.run [] s1 _ H { nx := fun _ H' => False, rt := Q } I ⟨.ref a, h0, a, C, dx, fs, .ref t, rfl, ea, c, nf, lf, t, xs, b, rfl, hsq, fun it hi hn => ⟨it, rfl, hi, hn, rfl⟩⟩) (fun fl s' hs => ?_) fun _ _ h => h
  cases fl with
  | ret u =>
    obtain ⟨v, σ', H', J, rv, q⟩ := hs
    exact ⟨v, H', J.os, J.bare, J.base, J.hok, rv, q⟩
  | next => obtain ⟨_, _, _, q⟩ := hs; exact q.elim
  | brk => obtain ⟨_, _, _, q⟩ := hs; exact q.elim
  | cont => obtain ⟨_, _, _, q⟩ := hs; exact q.elim
end
structure CalI (P : Program) (w : World) (K : PySem.W.Frag) (mg : Str → Option Value) (base : Heap) (C fld : Str) (k : Nat) : Prop where
  ex : ∃ fd, Cls K (ga K C) ∧ Meth K (ga K C) "__iter__" (ma K (ga K C) "__iter__") ∧ FnIt P w K mg base k (ma K (ga K C) "__iter__") fd fld (ga K C) ∧ Binds K fd [("self" : Str)] []
structure Is (P : Program) (w : World) (K : PySem.W.Frag) (mg : Str → Option Value) (base : Heap) (k : Nat) (tb : List (Str × Str)) : Prop where
  at_ : ∀ C fld, tb.lookup C = some fld → CalI P w K mg base C fld k
theorem Is.nil {P : Program} {w : World} {K : PySem.W.Frag} {mg : Str → Option Value} {base : Heap} {k : Nat} : Is P w K mg base k [] := ⟨fun _ _ e => by cases e⟩
theorem Is.cons {P : Program} {w : World} {K : PySem.W.Frag} {mg : Str → Option Value} {base : Heap} {C fld : Str} {k : Nat} {tb : List (Str × Str)} (M : CalI P w K mg base C fld k) (r : Is P w K mg base k tb) : Is P w K mg base k ((C, fld) :: tb) := ⟨fun D sp' e => by
  rw [List.lookup_cons] at e
  cases q : D == C with
  | true =>
    rw [q] at e
    cases e
    rw [eq_of_beq q]
    exact M
  | false =>
    rw [q] at e
    exact r.at_ D sp' e⟩
section
variable {X : Cx} {F : Addr → Prop} {Wx : WX} {a b c e o tg : Expr} {pos apos p : Pos} {ia ib ic : IE} {k' n : Nat} {tb : List (Str × Str)}
def lIter (tb : List (Str × Str)) (ia : IE) : IL := fun EI st Q => ia EI st fun x st1 => objOf st1 x fun C fs => match tb.lookup C with
  | some fld => (match fs.lookup fld with
    | some (.tup ws) => Q ws st1
    | some (.lst ws) => Q ws st1
    | _ => False)
  | none => False
theorem nextOf_tup {prog : Program} {w : World} {A : Around} {E : Value → Shared → Prop} {s : Shared} {Q : Value → Shared → Prop} {it t : Addr} {i : Nat} (h : s.heap.IsTupleIter it t i) (q : Q (.ref it) s) : PySem.W.OwitIt (model prog w) A Q E (.ref it) s :=
  wpAny_specialOf (name := Str.ofString "__next__") h.typeIs PySem.F.slot_tuple_iterator_next.lookup q
theorem nextOf_lst {prog : Program} {w : World} {A : Around} {E : Value → Shared → Prop} {s : Shared} {Q : Value → Shared → Prop} {it l : Addr} {i : Nat} (h : s.heap.get? it = some (GNX.itObj l i)) (q : Q (.ref it) s) : PySem.W.OwitIt (model prog w) A Q E (.ref it) s :=
  wpAny_specialOf (s := s) (name := Str.ofString "__next__") ⟨_, h, rfl⟩ slot_listiter_next.lookup q
theorem dropIt {H : Hp} {it : Addr} {o : HO} (h : H it = none) : ItX.dropH (upd H it o) it = H := ItX.dropH_upd h
theorem l_iter (M : Is X.prog X.w X.K X.mg X.base k' tb) (hr : Room k' X.A) (hgd : X.A.guards = some []) (ha : PE X a (LE X.K F Wx ia)) : PI X tg a (LI X.K F Wx (lIter tb ia)) := by
  refine ⟨fun pins s σ H R I h => ?_⟩
  obtain ⟨st, QI, EI, l, q, ux, k⟩ := h
  refine thn (ha.run pins s σ H (fun v H1 => ∃ p C dx fs t fld xs fd f bb, v = .ref p ∧ H1 p = some (.ins C dx fs) ∧ Cls X.K C ∧ Meth X.K C "__iter__" f ∧ FnIt X.prog X.w X.K X.mg X.base k' f fd fld C ∧ Binds X.K fd [("self" : Str)] [] ∧ fs.lookup fld = some (.ref t) ∧ SqB X.K H1 t xs bb ∧ R (match bb with | true => Itt X.K t | false => Itl X.K t) H1) I
    ⟨st, _, EI, l, q, ux, fun x st1 v H1 q1 l1 s1 r1 => ?_⟩) fun u s1 hx => ?_
  · obtain ⟨p, C, fs, dx, vs, rfl, q2, e, rf⟩ := objOf_inv q1 l1 r1
    split at q2
    · rename_i fld es
      obtain ⟨fd, c, hm, G, b⟩ := (M.at_ C fld es).ex
      split at q2
      · rename_i ws ew
        obtain ⟨w, ev, rw'⟩ := rf.get ew
        cases rw' with
        | tup ft rt =>
          refine ⟨p, _, dx, vs, _, fld, _, fd, _, true, rfl, e, c, hm, G, b, ev, ft.sq, k _ _ _ H1 q2 l1 s1 (yd_tup (fun _ _ m => (ft.mono m).sq) rt)⟩
      · rename_i ws ew
        obtain ⟨w, ev, rw'⟩ := rf.get ew
        cases rw' with
        | lst ft rt =>
          refine ⟨p, _, dx, vs, _, fld, _, fd, _, false, rfl, e, c, hm, G, b, ev, ft.sq, k _ _ _ H1 q2 l1 s1 (yd_list (fun _ _ m => (ft.mono m).sq) rt)⟩
      · exact q2.elim
    · exact q2.elim
  · obtain ⟨x, H1, I1, rx, p, C, dx, fs, t, fld, xs, fd, f, bb, ex, e, c, hm, G, b, lf, hsq, kR⟩ := hx
    subst ex
    obtain rfl : u = Value.ref p := rx
    obtain ⟨mF, hF⟩ := I1.fr
    obtain ⟨mA, O, _, _, _, _⟩ := ins_get I1.hok e
    obtain ⟨od, J, _⟩ := O.look
    have bd := b s1 [.ref p] I1.kIn rfl
    rw [List.append_nil] at bd
    refine PySem.W.owit_iter hF I1.ok.mod.kin J hm.at_ hm.fn (wpAny_call (codeAny_mono (G.go hr hgd I1.env0 bd e lf hsq) fun res s2 hq => ?_))
    cases res with
    | error er => exact (CX_none hq).elim
    | ok fl =>
      cases fl with
      | ret w =>
        obtain ⟨v, H2, I2, rv, it, ev, hit, hn, eH⟩ := I1.after hq
        subst eH
        subst ev
        obtain rfl : w = Value.ref it := rv
        have hy : X.s_0.heap.objs.size ≤ it := Nat.le_trans I1.sz hn
        cases bb with
        | true =>
          have eo : s2.heap.get? it = some (tiObj t) := (I2.hok it _ upd_same).1
          have hti : s2.heap.IsTupleIter it t 0 := ⟨_, eo, rfl, rfl⟩
          refine nextOf_tup hti ⟨it, [it], _, _, H1, rfl, ?_, turn_tuple t it, hti, fun b hb => ?_, kR⟩
          · have := ItX.inv_drop I2 (a := it) upd_same
            rw [dropIt hit] at this
            exact this
          · have eb : b = it := by simpa using hb
            rw [eb]
            have := ItX.inv_fp I2 (a := it) upd_same hy
            rw [dropIt hit] at this
            exact this
        | false =>
          have eo : s2.heap.get? it = some (GNX.itObj t 0) := (I2.hok it _ upd_same).1
          have hti : s2.heap.IsListIter it t 0 := ⟨_, eo, rfl, rfl⟩
          refine nextOf_lst eo ⟨it, [it], _, _, H1, rfl, ?_, turn_list t it, hti, fun b hb => ?_, kR⟩
          · have := ItX.inv_drop I2 (a := it) upd_same
            rw [dropIt hit] at this
            exact this
          · have eb : b = it := by simpa using hb
            rw [eb]
            have := ItX.inv_fp I2 (a := it) upd_same hy
            rw [dropIt hit] at this
            exact this
      | next => exact False.elim hq
      | brk => exact False.elim hq
      | cont => exact False.elim hq
end
end Sh
namespace Sh
open PySem L2
open PyProof.Rows hiding St
open He (ga ma)
def prA (K : PySem.W.Frag) (C f : Str) : Addr := match PySem.W.findIn K (.ref (ga K C)) f with
  | some (some (.ref p)) => p
  | _ => 0
def gtA (K : PySem.W.Frag) (C f : Str) : Addr := match PySem.W.recIn K (prA K C f) "property" with
  | some (.ref g :: _) => g
  | _ => 0
def fnA (K : PySem.W.Frag) (a : Addr) : He.FnW := match K.lookup a with
  | some ⟨_, _, .func d, _⟩ => some (d.name, d.qualname, d.params, d.body, d.scope, d.globals, d.closure, d.builtins)
  | _ => none
structure PrD where
  cls : Str
  nm : Str
  qual : Str
  params : Arguments
  body : List Stmt
  scope : Scope
def PrD.val (d : PrD) : He.FnW := some (d.nm, d.qual, d.params, .stmts d.body, d.scope, mainGlobals, [], builtinsNs)
def PrD.ok (K : PySem.W.Frag) (d : PrD) : Bool := He.eqO (PySem.W.findIn K (.ref (ga K d.cls)) d.nm) (some (some (.ref (prA K d.cls d.nm)))) && (He.eqO (PySem.W.specialIn K (.ref (prA K d.cls d.nm)) "__get__") (some (some (.builtin "property.__get__"))) &&
  (decide (PySem.W.takesIn K (.ref (prA K d.cls d.nm)) = some true) && ((match PySem.W.recIn K (prA K d.cls d.nm) "property" with
    | some (.ref _ :: _) => true
    | _ => false) && (PySem.W.keepIn K (.ref (gtA K d.cls d.nm)) && (match K.lookup (gtA K d.cls d.nm) with
    | some ⟨_, _, .func fd, _⟩ => PySem.W.codeIn K fd.code d.qual && He.dflB K fd.defaults []
    | _ => false)))))
theorem PrD.funD {K : PySem.W.Frag} {d : PrD} (e : fnA K (gtA K d.cls d.nm) = d.val) (c : d.ok K = true) : PropOf K (ga K d.cls) d.nm (prA K d.cls d.nm) (gtA K d.cls d.nm) ∧ ∃ fd, FunD K d.nm d.qual d.params d.body d.scope [] [] (gtA K d.cls d.nm) fd := by
  obtain ⟨c1, c⟩ := He.ba c
  obtain ⟨c2, c⟩ := He.ba c
  obtain ⟨c3, c⟩ := He.ba c
  obtain ⟨c4, c⟩ := He.ba c
  obtain ⟨c5, c6⟩ := He.ba c
  refine ⟨⟨He.eqO_ok c1, He.eqO_ok c2, of_decide_eq_true c3, ?_⟩, ?_⟩
  · cases q : PySem.W.recIn K (prA K d.cls d.nm) "property" with
    | none => rw [q] at c4; cases c4
    | some l =>
      cases l with
      | nil => rw [q] at c4; cases c4
      | cons v r =>
        cases v <;> first | (rw [q] at c4; cases c4; done) | skip
        rename_i g
        refine ⟨r, ?_⟩
        have : gtA K d.cls d.nm = g := by unfold gtA; rw [q]
        rw [this]
  · unfold fnA at e
    cases q : K.lookup (gtA K d.cls d.nm) with
    | none => rw [q] at c6; cases c6
    | some o =>
      obtain ⟨oc, od, dt, osl⟩ := o
      rw [q] at c6 e
      cases dt with
      | func fd =>
        obtain ⟨n1, n2, n3, n4, n5, n6, n7, n8, n9, n10, n11, n12, n13, n14, n15⟩ := fd
        have e2 : (some (n1, n2, n3, n4, n5, n6, n7, n15) : He.FnW) = some (d.nm, d.qual, d.params, .stmts d.body, d.scope, mainGlobals, [], builtinsNs) := e
        injection e2 with e2
        injection e2 with h1 e2
        injection e2 with h2 e2
        injection e2 with h3 e2
        injection e2 with h4 e2
        injection e2 with h5 e2
        injection e2 with h6 e2
        injection e2 with h7 h8
        subst h1 h2 h3 h4 h5 h6 h7 h8
        obtain ⟨k1, k3⟩ := He.ba (show (PySem.W.codeIn K n13 d.qual && He.dflB K n8 []) = true from c6)
        exact ⟨_, ⟨⟨oc, od, n8, n9, n10, n11, n12, n13, n14, osl, rfl, q, k1, He.dflB_ok k3, .inl rfl⟩, c5⟩⟩
      | _ => cases c6
def obsPr (pr : List PrD) (K : PySem.W.Frag) : Bool × List He.FnW := (pr.all fun d => d.ok K, pr.map fun d => fnA K (gtA K d.cls d.nm))
def valPr (pr : List PrD) : Bool × List He.FnW := (true, pr.map PrD.val)
structure SaysP (fa : List He.Fa) (fn : List He.DefD) (ts : List He.Tab) (ex : PySem.W.Frag → Bool) (pr : List PrD) (w : World) (h : Heap) (K : PySem.W.Frag) : Prop where
  x : He.SaysX fa fn ts [] ex w h K
  p : obsPr pr K = valPr pr
theorem SaysP.pr {fa : List He.Fa} {fn : List He.DefD} {ts : List He.Tab} {ex : PySem.W.Frag → Bool} {pr : List PrD} {w : World} {h : Heap} {K : PySem.W.Frag} (c : SaysP fa fn ts ex pr w h K) (i : Nat) {d : PrD} (hd : pr[i]? = some d := by rfl) :
    PropOf K (ga K d.cls) d.nm (prA K d.cls d.nm) (gtA K d.cls d.nm) ∧ ∃ fd, FunD K d.nm d.qual d.params d.body d.scope [] [] (gtA K d.cls d.nm) fd := by
  have c2 : (pr.all fun d => d.ok K) = true := congrArg (fun z : Bool × List He.FnW => z.1) c.p
  have e : pr.map (fun d => fnA K (gtA K d.cls d.nm)) = pr.map PrD.val := congrArg (fun z : Bool × List He.FnW => z.2) c.p
  have e2 : (pr.map fun d => fnA K (gtA K d.cls d.nm))[i]? = (pr.map PrD.val)[i]? := by rw [e]
  rw [List.getElem?_map, List.getElem?_map, hd] at e2
  exact PrD.funD (Option.some.inj e2) (List.all_eq_true.mp c2 d (List.mem_of_getElem? hd))
def clsBody (s : Stmt) (j : Nat) : Stmt := match s with
  | .ClassDef _ _ _ b _ _ _ _ _ _ _ => b.getD j (.Pass ⟨0, 0, 0, 0⟩)
  | _ => .Pass ⟨0, 0, 0, 0⟩
structure DfM (K : PySem.W.Frag) (C m qual : Str) (s : Stmt) : Prop where
  ex : ∃ fd, FunD K m qual (defArgs s) (defBody s) (defScope s) [] [] (ma K (ga K C) m) fd
structure DfP (K : PySem.W.Frag) (C f qual : Str) (s : Stmt) : Prop where
  ex : PropOf K (ga K C) f (prA K C f) (gtA K C f) ∧ ∃ fd, FunD K f qual (defArgs s) (defBody s) (defScope s) [] [] (gtA K C f) fd
section
variable {P : Program} {w : World} {K : PySem.W.Frag} {mg : Str → Option Value} {base : Heap} {C m f qual : Str} {k n : Nat} {s : Stmt} {N ps : List Str} {ib : IS}
theorem calMI (D : DfM K C m qual s) (c : Cls K (ga K C)) (hm : Meth K (ga K C) m (ma K (ga K C) m)) (Sc : FnScope N ps (defScope s)) (hn : ps.length = n + 1)
    (bd : ∀ (kV doc pm : Value) (an : Option Addr) (cdv ct : Value) (us : List Value), us.length = ps.length → bindArgs (PySem.W.fnOf m qual (defArgs s) (defBody s) (defScope s) .none kV doc pm an cdv ct) ⟨us, []⟩ = pure (ps.zip us))
    (hb : ∀ (f : Addr) (cdv : Value) (A : Around) (outer : List Env) (s' : Shared) (H : Hp) (E : XK), Room k (A.deeper (envOfC qual (defScope s) s'.heap.objs.size f cdv)) → A.guards = some [] → ∀ (F : Addr → Prop) (Wx : WX), Takes (cxOf (L2.CX P w) P w K mg base N qual (defScope s) f cdv A outer s' H E) Wx →
      PSs (cxOf (L2.CX P w) P w K mg base N qual (defScope s) f cdv A outer s' H E) (defBody s) (LS K F Wx ib)) : CalM P w K mg base C m (k + 1) n (bodyI N.length ib) := by
  obtain ⟨fd, Fd⟩ := D.ex
  refine ⟨fd, ps, c, hm, ?_, Fd.bindsN bd⟩
  have := fnI Fd Sc (hb _)
  rw [hn] at this
  exact this
theorem calKI (D : DfM K C "__init__" qual s) (hmk : Mk K (ga K C) (ma K (ga K C) "__init__")) (hC : mg C = some (.ref (ga K C))) (Sc : FnScope N ps (defScope s)) (hn : ps.length = n + 1)
    (bd : ∀ (kV doc pm : Value) (an : Option Addr) (cdv ct : Value) (us : List Value), us.length = ps.length → bindArgs (PySem.W.fnOf "__init__" qual (defArgs s) (defBody s) (defScope s) .none kV doc pm an cdv ct) ⟨us, []⟩ = pure (ps.zip us))
    (hb : ∀ (f : Addr) (cdv : Value) (A : Around) (outer : List Env) (s' : Shared) (H : Hp) (E : XK), Room k (A.deeper (envOfC qual (defScope s) s'.heap.objs.size f cdv)) → A.guards = some [] → ∀ (F : Addr → Prop) (Wx : WX), Takes (cxOf (L2.CX P w) P w K mg base N qual (defScope s) f cdv A outer s' H E) Wx →
      PSs (cxOf (L2.CX P w) P w K mg base N qual (defScope s) f cdv A outer s' H E) (defBody s) (LS K F Wx ib)) : CalK P w K mg base C (k + 1) n (bodyI N.length ib) := by
  obtain ⟨fd, Fd⟩ := D.ex
  refine ⟨fd, ps, hmk, ?_, Fd.bindsN bd, hC⟩
  have := fnI Fd Sc (hb _)
  rw [hn] at this
  exact this
theorem calPI (D : DfP K C f qual s) (c : Cls K (ga K C)) (Sc : FnScope N ps (defScope s)) (hn : ps.length = 1)
    (bd : ∀ (kV doc pm : Value) (an : Option Addr) (cdv ct : Value) (us : List Value), us.length = ps.length → bindArgs (PySem.W.fnOf f qual (defArgs s) (defBody s) (defScope s) .none kV doc pm an cdv ct) ⟨us, []⟩ = pure (ps.zip us))
    (hb : ∀ (f : Addr) (cdv : Value) (A : Around) (outer : List Env) (s' : Shared) (H : Hp) (E : XK), Room k (A.deeper (envOfC qual (defScope s) s'.heap.objs.size f cdv)) → A.guards = some [] → ∀ (F : Addr → Prop) (Wx : WX), Takes (cxOf (L2.CX P w) P w K mg base N qual (defScope s) f cdv A outer s' H E) Wx →
      PSs (cxOf (L2.CX P w) P w K mg base N qual (defScope s) f cdv A outer s' H E) (defBody s) (LS K F Wx ib)) : CalP P w K mg base C f (k + 1) (bodyI N.length ib) := by
  obtain ⟨hp, fd, Fd⟩ := D.ex
  refine ⟨_, _, fd, ps, c, hp, ?_, Fd.bindsN bd⟩
  have := fnI Fd Sc (hb _)
  rw [hn] at this
  exact this
theorem calII {fld : Str} {p1 p2 p3 p4 p5 : Pos} (D : DfM K C "__iter__" qual s) (c : Cls K (ga K C)) (hm : Meth K (ga K C) "__iter__" (ma K (ga K C) "__iter__")) (nf : NoAttr K (ga K C) fld) (Sc : FnScope N [("self" : Str)] (defScope s)) (hN : N[0]? = some ("self" : Str)) (hi : mg "iter" = none)
    (hbody : defBody s = [.Return (some (.Call (.Name "iter" p1) [.Attribute (.Name "self" p2) fld p3] [] p4)) p5])
    (bd : ∀ (kV doc pm : Value) (an : Option Addr) (cdv ct : Value) (us : List Value), us.length = 1 → bindArgs (PySem.W.fnOf "__iter__" qual (defArgs s) (defBody s) (defScope s) .none kV doc pm an cdv ct) ⟨us, []⟩ = pure ([("self" : Str)].zip us))
    (hgl : ∀ (f : Addr) (cdv : Value) (A : Around) (outer : List Env) (s' : Shared) (H : Hp) (E : XK), Gl (cxOf (L2.CX P w) P w K mg base N qual (defScope s) f cdv A outer s' H E) "iter") : CalI P w K mg base C fld 1 := by
  obtain ⟨fd, Fd⟩ := D.ex
  exact ⟨fd, c, hm, fnIt_of Fd Sc hN hbody c nf hi (hgl _), Fd.bindsN bd⟩
end
def bTys : List String := ["NoneType", "bool", "int", "str", "tuple", "list", "dict"]
structure KitF (K : PySem.W.Frag) (cs : List Str) : Prop where
  cl : ∀ n ∈ cs, Cls K (ga K n) ∧ PySem.W.findIn K (.ref (ga K n)) "__class__" = some (some (.builtin "object.__class__")) ∧ PySem.W.mroIn K (ga K n) (.type "object") = some true
  b1 : PySem.W.specialIn K (.builtin "object.__class__") "__get__" = some (some (.builtin "getset_descriptor.__get__"))
  b2 : PySem.W.takesIn K (.builtin "object.__class__") = some true
  to : ∀ n ∈ cs, ∀ T ∈ bTys, PySem.W.kitOne K (.type T) (.ref (ga K n)) = some false
  of : ∀ n ∈ cs, ∀ T ∈ bTys, PySem.W.kitOne K (.ref (ga K n)) (.type T) = some false
  own : ∀ n ∈ cs, ∀ m ∈ cs, PySem.W.kitOne K (.ref (ga K n)) (.ref (ga K m)) = some (n == m)
def kitFB (K : PySem.W.Frag) (cs : List Str) : Bool := (cs.all fun n => (He.Fa.cls n).ok K && (He.eqO (PySem.W.findIn K (.ref (ga K n)) "__class__") (some (some (.builtin "object.__class__"))) && decide (PySem.W.mroIn K (ga K n) (.type "object") = some true))) &&
  (He.eqO (PySem.W.specialIn K (.builtin "object.__class__") "__get__") (some (some (.builtin "getset_descriptor.__get__"))) && (decide (PySem.W.takesIn K (.builtin "object.__class__") = some true) &&
  ((cs.all fun n => bTys.all fun T => decide (PySem.W.kitOne K (.type T) (.ref (ga K n)) = some false)) && ((cs.all fun n => bTys.all fun T => decide (PySem.W.kitOne K (.ref (ga K n)) (.type T) = some false)) &&
  cs.all fun n => cs.all fun m => decide (PySem.W.kitOne K (.ref (ga K n)) (.ref (ga K m)) = some (n == m))))))
theorem kitFB_ok {K : PySem.W.Frag} {cs : List Str} (h : kitFB K cs = true) : KitF K cs := by
  obtain ⟨c1, h⟩ := He.ba h
  obtain ⟨c2, h⟩ := He.ba h
  obtain ⟨c3, h⟩ := He.ba h
  obtain ⟨c4, h⟩ := He.ba h
  obtain ⟨c5, c6⟩ := He.ba h
  refine ⟨fun n hn => ?_, He.eqO_ok c2, of_decide_eq_true c3, fun n hn T hT => ?_, fun n hn T hT => ?_, fun n hn m hm => ?_⟩
  · obtain ⟨d1, d2⟩ := He.ba (List.all_eq_true.mp c1 n hn)
    obtain ⟨d2, d3⟩ := He.ba d2
    exact ⟨He.cls_ok d1, He.eqO_ok d2, of_decide_eq_true d3⟩
  · exact of_decide_eq_true (List.all_eq_true.mp (List.all_eq_true.mp c4 n hn) T hT)
  · exact of_decide_eq_true (List.all_eq_true.mp (List.all_eq_true.mp c5 n hn) T hT)
  · exact of_decide_eq_true (List.all_eq_true.mp (List.all_eq_true.mp c6 n hn) m hm)
def tyS (st : Stt) : W → Option (Sum String Str)
  | .obj C _ => some (.inr C)
  | .ref a => (match st.S a with
    | some (.ins C _) => some (.inr C)
    | _ => none)
  | w => (tyN w).map .inl
def isOne (cs : List Str) (t : Sum String Str) (c : W) : Option Bool := match t, c with
  | .inl S, .ty T => kitB S T
  | .inr C, .ty T => if C ∈ cs ∧ T ∈ bTys then some false else none
  | .inl S, .glo m => if m ∈ cs ∧ S ∈ bTys then some false else none
  | .inr C, .glo m => if C ∈ cs ∧ m ∈ cs then some (C == m) else none
  | _, _ => none
def isAny (cs : List Str) (t : Sum String Str) : List W → Option Bool
  | [] => some false
  | c :: r => (match isOne cs t c with
    | some true => some true
    | some false => isAny cs t r
    | none => none)
def tyVal (K : PySem.W.Frag) : Sum String Str → Value
  | .inl S => .type S
  | .inr C => .ref (ga K C)
def clVal (K : PySem.W.Frag) : W → Value
  | .ty T => .type T
  | .glo m => .ref (ga K m)
  | _ => .none
theorem isOne_ok {K : PySem.W.Frag} {cs : List Str} (T : KitF K cs) {t : Sum String Str} {c : W} {b : Bool} (h : isOne cs t c = some b) : PySem.W.kitOne K (tyVal K t) (clVal K c) = some b := by
  unfold isOne at h
  split at h
  · exact kit_ty h
  · split at h
    · rename_i z; cases h; exact T.of _ z.1 _ z.2
    · cases h
  · split at h
    · rename_i z; cases h; exact T.to _ z.1 _ z.2
    · cases h
  · split at h
    · rename_i z; cases h; exact T.own _ z.1 _ z.2
    · cases h
  · cases h
theorem isAny_ok {K : PySem.W.Frag} {cs : List Str} (T : KitF K cs) {t : Sum String Str} : ∀ {ds : List W} {b : Bool}, isAny cs t ds = some b → PySem.W.kitAny K (tyVal K t) (ds.map (clVal K)) = some b
  | [], _, h => h
  | c :: r, b, h => by
    unfold isAny at h
    split at h
    · rename_i e; cases h; exact kitAny_cons (isOne_ok T e) (fun z => nomatch z) fun _ => rfl
    · rename_i e; exact kitAny_cons (isOne_ok T e) (fun _ => isAny_ok T h) fun z => nomatch z
    · cases h
theorem clsV_of {K : PySem.W.Frag} {Lv : Addr → Prop} {H : Hp} {cs : List Str} {t : Sum String Str} {c : W} {v : V} {b : Bool} (h : isOne cs t c = some b) (r : RelW K Lv H c v) : ClsV v (clVal K c) := by
  cases r <;> first
    | exact .ty _
    | exact .own _
    | (exfalso; cases t <;> cases h)
theorem clsVs_of {K : PySem.W.Frag} {Lv : Addr → Prop} {H : Hp} : ∀ {ds : List W} {vs : List V}, (∀ d ∈ ds, (∃ T, d = .ty T) ∨ ∃ m, d = .glo m) → RelWs K Lv H ds vs → Paired ClsV vs (ds.map (clVal K))
  | _, _, _, .nil => .nil
  | _, _, hd, .cons h r => by
    refine .cons ?_ (clsVs_of (fun d hm => hd d (List.mem_cons_of_mem _ hm)) r)
    rcases hd _ (List.mem_cons_self ..) with ⟨T, rfl⟩ | ⟨m, rfl⟩
    · cases h; exact .ty _
    · cases h; exact .own _
theorem tyS_ok {K : PySem.W.Frag} {F : Addr → Prop} {st : Stt} {σ : L2.St} {H : Hp} {cs : List Str} (T : KitF K cs) {x : W} {v : V} {t : Sum String Str} (h : tyS st x = some t) (hc : ∀ C, t = .inr C → C ∈ cs) (l : Lk K F st σ H) (r : RelW K (Live F st σ) H x v) : TyX K H v (tyVal K t) := by
  have ins : ∀ {a dx : Addr} {C : Str} {vs : List (Str × V)}, C ∈ cs → H a = some (.ins (ga K C) dx vs) → TyX K H (.ref a) (.ref (ga K C)) := fun hC e => by
    obtain ⟨c1, c2, c3⟩ := T.cl _ hC
    exact .base (.ins e c1 c2 T.b1 T.b2 c3)
  unfold tyS at h
  split at h
  · cases h
    cases r with
    | obj e n rf => exact ins (hc _ rfl) e
  · split at h
    · rename_i es
      cases h
      cases r
      obtain ⟨dx, vs, e, rf⟩ := l.sto _ _ es
      exact ins (hc _ rfl) e
    · cases h
  · cases e : tyN x with
    | none => rw [e] at h; cases h
    | some S =>
      rw [e] at h
      cases h
      exact tyx_of e r
section
variable {X : Cx} {F : Addr → Prop} {Wx : WX} {e : Expr} {es : List Expr} {pos p : Pos} {cs : List Str} {i : IA} {n : Nat} {x : Str}
def tyIn (cs : List Str) : Sum String Str → Bool
  | .inl _ => true
  | .inr C => decide (C ∈ cs)
def cOk : W → Bool
  | .ty _ => true
  | .glo _ => true
  | _ => false
/-- isinstance(x, c), c a class or a tuple of classes -/
def iIsi (cs : List Str) (i : IA) : IE := fun EI st Q => i EI st fun ws st1 => match ws with
  | [x, c] => (match tyS st1 x with
    | some t => tyIn cs t = true ∧ (match c with
      | .tup ds => ds.all cOk = true ∧ (match isAny cs t ds with
        | some b => Q (.bl b) st1
        | none => False)
      | c => (match isOne cs t c with
        | some b => Q (.bl b) st1
        | none => False))
    | none => False)
  | _ => False
def rIsis (K : PySem.W.Frag) : List V → Hp → VK → Prop := fun xs H Q => rIsi K xs H Q ∨ rIsiT K xs H Q ∨ rIsiK K xs H Q
theorem call_isis : CallR X (.builtin "isinstance") (rIsis X.K) := call_isi.or (call_isiT.or call_isiK)
theorem i_isiX (T : KitF X.K cs) (hm : X.mg "isinstance" = none) (ha : PA X (e :: es) (LA X.K F Wx n i)) (hg : Gl X "isinstance" := by rfl) (he : starEach (e :: es) X.env = (false, eval e X.env) :: starEach es X.env := by rfl) (hpl : (backTo pos (starEach es X.env)).any (·.1) = false := by rfl) :
    PE X (.Call (.Name "isinstance" p) (e :: es) [] pos) (LE X.K F Wx (iIsi cs i)) := by
  refine pe_imp (pe_callB call_isis hg hm boot_isi' ha (by decide) (by decide) he hpl) fun σ H Q h => ?_
  obtain ⟨st, QI, EI, l, q, ux, k⟩ := h
  refine ⟨st, _, EI, l, q, ux, fun ws st1 vs H1 hn q1 l1 s1 r1 => ?_⟩
  split at q1
  · rename_i x c
    cases r1 with
    | cons ra r1 =>
    cases r1 with
    | cons rc r1 =>
    cases r1
    split at q1
    · rename_i t et
      obtain ⟨ht, q1⟩ := q1
      have ty := tyS_ok T et (fun C e => by subst e; exact of_decide_eq_true ht) l1 ra
      split at q1
      · rename_i ds
        obtain ⟨hd, q1⟩ := q1
        split at q1
        · rename_i b eb
          have hd' : ∀ d ∈ ds, (∃ T, d = .ty T) ∨ ∃ m, d = .glo m := fun d hm => by
            have := List.all_eq_true.mp hd d hm
            cases d <;> first | exact .inl ⟨_, rfl⟩ | exact .inr ⟨_, rfl⟩ | cases this
          cases rc with
          | tup ft rt =>
            rcases ft with ⟨hr, _⟩ | ⟨o, its, m, h1, h2, h3, _, h4⟩
            · exact .inr (.inl ⟨_, _, _, _, _, b, rfl, hr, clsVs_of hd' rt, ty, isAny_ok T eb, k _ _ _ H1 q1 l1 s1 (.bl b)⟩)
            · obtain ⟨oc, od, dt, sl⟩ := o
              have h2' : oc = .type "tuple" := h2
              have h3' : dt = .seq its m := h3
              subst h2' h3'
              have e4 := ClsV.all (clsVs_of hd' rt) h4
              refine .inr (.inr ⟨_, _, od, its.toList, m, sl, _, b, rfl, ?_, ty, ?_, k _ _ _ H1 q1 l1 s1 (.bl b)⟩)
              · simpa using h1
              · rw [e4]; exact isAny_ok T eb
        · exact q1.elim
      · split at q1
        · rename_i b eb
          exact .inl ⟨_, _, _, _, b, rfl, clsV_of eb rc, ty, isOne_ok T eb, k _ _ _ H1 q1 l1 s1 (.bl b)⟩
        · exact q1.elim
    · exact q1.elim
  · exact q1.elim
/-- a def or a class of the module as a value -/
theorem i_glo (hm : X.mg x = some (.ref (ga X.K x))) (hg : Gl X x := by rfl) (hd : (x == ("__debug__" : Str)) = false := by decide) : PE X (.Name x pos) (LE X.K F Wx (iC (.glo x))) := by
  refine ⟨fun pins s σ H Q I h => ?_⟩
  obtain ⟨st, QI, EI, l, q, ux, k⟩ := h
  exact ld_glob I hg hm ⟨.ref (ga X.K x), H, I, rfl, k _ st _ H q l .refl (.glo x)⟩ hd
end
end Sh
namespace Sh
open PySem L2 HT
open PyProof.Rows hiding St
section
variable {prog : Program} {w : World} {A : Around} {E : Value → Shared → Prop} {s : Shared}
end
section
variable {X : Cx} {F : Addr → Prop} {Wx : WX} {a : Expr} {pos : Pos} {ia : IE}
def iRevT (ia : IE) : IE := fun EI st Q => ia EI st fun x st1 => match x with
  | .tup ws => Q (.tup ws.reverse) st1
  | _ => False
end
structure DfA (K : PySem.W.Frag) (mg : Str → Option Value) (x nm : Str) (s : Stmt) : Prop where
  ex : ∃ f fd, FunD K nm nm (defArgs s) (defBody s) (defScope s) [] [] f fd ∧ mg x = some (.ref f)
theorem calA {P : Program} {w : World} {K : PySem.W.Frag} {mg : Str → Option Value} {base : Heap} {x nm : Str} {k : Nat} {s : Stmt} {N ps : List Str} {ib : IS} (D : DfA K mg x nm s) (Sc : FnScope N ps (defScope s))
    (bd : ∀ (kV doc pm : Value) (an : Option Addr) (cdv ct : Value) (us : List Value), us.length = ps.length → bindArgs (PySem.W.fnOf nm nm (defArgs s) (defBody s) (defScope s) .none kV doc pm an cdv ct) ⟨us, []⟩ = pure (ps.zip us))
    (hb : ∀ (f : Addr) (cdv : Value) (A : Around) (outer : List Env) (s' : Shared) (H : Hp) (E : XK), Room k (A.deeper (envOfC nm (defScope s) s'.heap.objs.size f cdv)) → A.guards = some [] → ∀ (F : Addr → Prop) (Wx : WX), Takes (cxOf (L2.CX P w) P w K mg base N nm (defScope s) f cdv A outer s' H E) Wx →
      PSs (cxOf (L2.CX P w) P w K mg base N nm (defScope s) f cdv A outer s' H E) (defBody s) (LS K F Wx ib)) : Cal P w K mg base x (k + 1) ps.length (bodyI N.length ib) := by
  obtain ⟨f, fd, Fd, hm⟩ := D.ex
  exact ⟨f, fd, ps, fnI Fd Sc (hb f), hm, Fd.kp, Fd.bindsN bd⟩
end Sh
namespace Sh
open PySem L2
open PyProof.Rows hiding St
open He (ga ma)
section
variable {prog : Program} {w : World} {A : Around} {E : Value → Shared → Prop} {s : Shared} {K : PySem.W.Frag} {x C L f : Addr} {h₀ : Heap} {m : Str → Option Value} {ox : Obj} {od : Option Obj} {name : Str} {b tb : Value}
end
section
variable {X : Cx} {F : Addr → Prop} {Wx : WX} {a b c e o : Expr} {es : List Expr} {pos apos p : Pos} {ia ib ic : IE} {C : Str} {k' n : Nat} {spec : ISp} {i : IA}
def gOwn (neg : Bool) (C : Str) (spec : ISp) (st : Stt) (x y : W) (P : W → Stt → Prop) : Prop := objOf st x fun C1 _ => objOf st y fun C2 _ => C1 = C ∧ C2 = C ∧ spec [x, y] st.S (fun r S' => match r with
    | .val (.bl b) => P (.bl (neg ^^ b)) { st with S := S' }
    | _ => False) fun _ _ => False
def iEqM (neg : Bool) (C : Str) (spec : ISp) (ia ib : IE) : IE := fun EI st Q => ia EI st fun x st1 => ib EI st1 fun y st2 => gOwn neg C spec st2 x y Q
end
end Sh
namespace Sh
open PySem L2
open PyProof.Rows hiding St
section
variable {X : Cx} {F : Addr → Prop} {Wx : WX} {vs : List Nat} {a b c e tg : Expr} {es : List Expr} {pos p : Pos} {ia ib ic : IE}
def enumW (ws : List W) : List W := (List.range ws.length).map fun (i : Nat) => .tup [.int (i : Int), (ws[i]?).getD .non]
theorem enumW_length (ws : List W) : (enumW ws).length = ws.length := by simp [enumW]
theorem enumW_get {ws : List W} {i : Nat} {w : W} (h : ws[i]? = some w) : (enumW ws)[i]? = some (.tup [.int i, w]) := by
  obtain ⟨hi, _⟩ := List.getElem?_eq_some_iff.mp h
  unfold enumW
  rw [List.getElem?_map, List.getElem?_range hi]
  simp [h]
theorem yd_enum {K : PySem.W.Frag} {st : Stt} {σ : L2.St} {H : Hp} {ws : List W} {a : Addr} {vs : List V} (f : ∀ (Lv' : Addr → Prop) H', Mv (Live F st σ) H Lv' H' → SqL K H' a vs) (r : RelWs K (Live F st σ) H ws vs) : Yd K F (Ite K a) (enumW ws) st σ H where
  go := fun i F' st' σ' H' hi l m => by
    rw [enumW_length] at hi
    obtain ⟨w, ew⟩ := some_of hi
    obtain ⟨v, ev, rv⟩ := r.get ew
    refine ⟨⟨vs, v, f _ _ m, ev⟩, fun x H2 y => ?_⟩
    obtain ⟨T, x', rfl, hT, rfl, y⟩ := y
    have ex := y vs (f _ _ m)
    rw [ev] at ex
    cases ex
    have s2 : Step st' σ' H' st' σ' (upd H' T (.tup [.int (i : Nat), v])) := Step.laid l hT
    exact ⟨_, enumW_get ew, l.laid hT, s2, fun b u e => by rw [upd_ne (ne_of_none e hT)]; exact e, .tup (FzT.new l hT) (.cons (.int _) (.cons ((rv.mono m).mono s2.mv) .nil))⟩
  stop := fun i F' st' σ' H' hi m => ⟨vs, f _ _ m, by rw [enumW_length] at hi; rw [← r.length]; exact hi⟩
def lEnum (ia : IE) : IL := fun EI st Q => ia EI st fun x st1 => match x with
  | .lst ws => Q (enumW ws) st1
  | _ => False
theorem l_enum {elts : List Expr} {kk : Nat} {tpos : Pos} (hm : X.mg "enumerate" = none) (ha : PE X a (LE X.K F Wx ia)) (hg : Gl X "enumerate" := by rfl) (hs : starEach [a] X.env = [(false, eval a X.env)] := by rfl) (hs2 : starEach [a] X.env = (false, eval a X.env) :: starEach [] X.env := by rfl) :
    PI X (.Tuple elts kk tpos) (.Call (.Name "enumerate" p) [a] [] pos) (LI X.K F Wx (lEnum ia)) := pi_imp (pi_enum hg hm (pa_cons ha pa_nil hs2) hs) fun σ H R h => by
  obtain ⟨st, QI, EI, l, q, ux, k⟩ := h
  refine ⟨st, _, EI, l, q, ux, fun x st1 v H1 q1 l1 s1 r1 => ?_⟩
  split at q1
  · cases r1 with
    | lst f r => exact ⟨_, _, rfl, f.sq, k _ _ _ H1 q1 l1 s1 (yd_enum (fun _ _ m => (f.mono m).sq) r)⟩
  · exact q1.elim
def nRep (ia ib : IE) : IN := fun EI st Q => ia EI st fun x st1 => ib EI st1 fun y st2 => match x, y with
  | .lst ws, .int k => -(2 ^ 63) ≤ k ∧ k < 2 ^ 63 ∧ ws.length * k.toNat ≤ sizeLine ∧ Q (.lst (List.replicate k.toNat ws).flatten) st2
  | _, _ => False
theorem n_rep (ha : PE X a (LE X.K F Wx ia)) (hb : PE X b (LE X.K F Wx ib)) : PE X (.BinOp a .Mult b pos) (LN X.K F Wx (nRep ia ib)) := by
  refine pe_imp (pe_op op_rep ha hb) fun σ H Q h => ?_
  obtain ⟨st, QI, EI, l, q, ux, k⟩ := h
  refine ⟨st, _, EI, l, q, ux, fun x st1 v H1 q1 l1 s1 r1 => ⟨st1, _, EI, l1, q1, ux.step s1, fun y st2 u H2 q2 l2 s2 r2 => ?_⟩⟩
  split at q2
  · cases r1.mono s2.mv with
    | lst f rs =>
      cases r2
      obtain ⟨h1, h2, h3, p⟩ := q2
      refine ⟨_, _, _, rfl, rfl, f.1, h1, h2, by rw [← rs.length]; exact h3, fun q hq => ?_⟩
      exact k (.lst _) st2 q _ p (l2.foreign hq) ((s1.trans s2).trans (Step.laid l2 hq)) ⟨_, upd_same, (rs.times _).mono (mv_foreign l2 hq)⟩ (NewAt.step (s1.trans s2) (.inr hq))
  · exact q2.elim
end
end Sh
namespace Sh
open PySem L2
open PyProof.Rows hiding St
section
variable {X : Cx} {F : Addr → Prop} {Wx : WX} {a b c e f o : Expr} {es : List Expr} {pos apos cpos p : Pos} {ia ib ic : IE} {i : IA} {n : Nat}
/-- the value of a key -/
def valW (ws : List (Key × W)) (k : Key) : Option W := (ws.find? fun kv => decide (kv.1 = k)).map (·.2)
/-- d.get(k, x) -/
def iDGet2 (io ie id : IE) : IE := fun EI st Q => io EI st fun x st1 => match x with
  | .dct ws => ie EI st1 fun y st2 => id EI st2 fun z st3 => match y with
    | .int k => Q ((valW ws (.inl k)).getD z) st3
    | .str k => Q ((valW ws (.inr k)).getD z) st3
    | _ => False
  | _ => False
def putKW (kvs : List (Key × W)) (k : Key) (v : W) : List (Key × W) := if (kvs.any fun kv => decide (kv.1 = k)) = true then kvs.map (fun kv => if kv.1 = k then (kv.1, v) else kv) else kvs ++ [(k, v)]
def mergeW (kvs more : List (Key × W)) : List (Key × W) := more.foldl (fun acc kv => putKW acc kv.1 kv.2) kvs
theorem RelKs.any {K : PySem.W.Frag} {Lv : Addr → Prop} {H : Hp} {k : Key} : ∀ {ws : List (Key × W)} {vs : List (Key × V)}, RelKs K Lv H ws vs → (ws.any fun kv => decide (kv.1 = k)) = (vs.any fun kv => decide (kv.1 = k))
  | [], _, .nil => rfl
  | _ :: _, _, .cons _ rs => by rw [List.any_cons, List.any_cons, RelKs.any rs]
theorem RelKs.set {K : PySem.W.Frag} {Lv : Addr → Prop} {H : Hp} {k : Key} {w : W} {v : V} (r : RelW K Lv H w v) : ∀ {ws : List (Key × W)} {vs : List (Key × V)}, RelKs K Lv H ws vs → RelKs K Lv H (ws.map fun kv => if kv.1 = k then (kv.1, w) else kv) (vs.map fun kv => if kv.1 = k then (kv.1, v) else kv)
  | [], _, .nil => .nil
  | (j, _) :: _, _, .cons h rs => by
    rw [List.map_cons, List.map_cons]
    by_cases z : j = k
    · simp only [z, if_true]; exact .cons r (RelKs.set r rs)
    · simp only [z, if_false]; exact .cons h (RelKs.set r rs)
theorem RelKs.app {K : PySem.W.Frag} {Lv : Addr → Prop} {H : Hp} {ws' : List (Key × W)} {vs' : List (Key × V)} (r : RelKs K Lv H ws' vs') : ∀ {ws : List (Key × W)} {vs : List (Key × V)}, RelKs K Lv H ws vs → RelKs K Lv H (ws ++ ws') (vs ++ vs')
  | [], _, .nil => r
  | _ :: _, _, .cons h rs => .cons h (RelKs.app r rs)
theorem RelKs.put {K : PySem.W.Frag} {Lv : Addr → Prop} {H : Hp} {k : Key} {w : W} {v : V} {ws : List (Key × W)} {vs : List (Key × V)} (r : RelW K Lv H w v) (rs : RelKs K Lv H ws vs) : RelKs K Lv H (putKW ws k w) (putK vs k v) := by
  unfold putKW putK
  rw [rs.any]
  split
  · exact rs.set r
  · exact RelKs.app (.cons r .nil) rs
end
end Sh
namespace Sh
open PySem L2
open PyProof.Rows hiding St
structure CalS (P : Program) (w : World) (K : PySem.W.Frag) (mg : Str → Option Value) (base : Heap) (x : Str) (k : Nat) (spec : ISp) : Prop where
  ex : ∃ f, (∀ {n : Nat} {A : Around} {outer : List Env} {s : Shared} {H : Hp} {us : List Value} {vs : List V} {Q : VK} {E : XK}, Room k A → A.guards = some [] → Env0 P w K mg base A outer s H → Vals vs us → spI K n spec vs H Q E →
    codeAny (model P w) A (.call (.ref f) ⟨us, []⟩) (CR (L2.CX P w) outer P w H s Q E) s) ∧ mg x = some (.ref f) ∧ PySem.W.keepIn K (.ref f) = true
section
variable {P : Program} {w : World} {K : PySem.W.Frag} {mg : Str → Option Value} {base : Heap} {x : Str} {k n : Nat}
theorem CalS.spec {sp sp' : ISp} (C : CalS P w K mg base x k sp) (h : ∀ ws S Q E, sp' ws S Q E → sp ws S Q E) : CalS P w K mg base x k sp' := by
  obtain ⟨f, G, r⟩ := C.ex
  exact ⟨f, fun a b c d e => G a b c d (spI.imp h e), r⟩
end
section
variable {X : Cx} {F : Addr → Prop} {Wx : WX} {e : Expr} {es : List Expr} {pos p : Pos} {k' n : Nat} {spec : ISp} {x : Str} {i : IA}
end
end Sh
namespace Sh
open PySem L2
open PyProof.Rows hiding St
section
variable {X : Cx} {F : Addr → Prop} {Wx : WX} {vs : List Nat} {a b c e tg : Expr} {es : List Expr} {pos p px : Pos} {ia ib ic : IE} {x : Str}
def iAddO (i : Nat) (ib : IE) : IE := fun EI st Q => ownL st i fun _ => ib EI st fun y st1 => ownL st1 i fun ws => match y with
  | .lst us => ws.length + us.length ≤ sizeLine ∧ Q (.lst (ws ++ us)) st1
  | _ => False
end
def frzS : Slot → Slot
  | .own o => .val o.fz
  | x => x
def Stt.pk (st : Stt) : Stt := ⟨st.ρ.map frzS, fun _ => none⟩
mutual
def plainW : W → Bool
  | .int _ => true
  | .str _ => true
  | .bl _ => true
  | .non => true
  | .tup ws => plainWs ws
  | _ => false
def plainWs : List W → Bool
  | [] => true
  | w :: ws => plainW w && plainWs ws
end
section
variable {K : PySem.W.Frag} {F : Addr → Prop} {st : Stt} {σ : L2.St} {H H' : Hp} {Lv Lv' : Addr → Prop}
mutual
theorem RelW.plain (m : ∀ a vs, H a = some (.tup vs) → ¬ Lv a → ¬ Lv' a) : ∀ {w : W} {v : V}, RelW K Lv H w v → plainW w = true → RelW K Lv' H w v
  | _, _, .non, _ => .non
  | _, _, .bl b, _ => .bl b
  | _, _, .int i, _ => .int i
  | _, _, .str x, _ => .str x
  | _, _, .ty n, h => nomatch h
  | _, _, .ref a, h => nomatch h
  | _, _, .glo n, h => nomatch h
  | _, _, .tup f r, h => .tup (f.imp (fun z => ⟨z.1, m _ _ z.1 z.2⟩) id) (RelWs.plain m r h)
  | _, _, .lst _ _, h => nomatch h
  | _, _, .scr _, h => nomatch h
  | _, _, .dct _ _ _, h => nomatch h
  | _, _, .obj _ _ _, h => nomatch h
  | _, _, .dcT _ _ _, h => nomatch h
  | _, _, .exn0, h => nomatch h
  | _, _, .exn1 _ _ _, h => nomatch h
theorem RelWs.plain (m : ∀ a vs, H a = some (.tup vs) → ¬ Lv a → ¬ Lv' a) : ∀ {ws : List W} {vs : List V}, RelWs K Lv H ws vs → plainWs ws = true → RelWs K Lv' H ws vs
  | _, _, .nil, _ => .nil
  | _, _, .cons h r, p => .cons (RelW.plain m h (Bool.and_eq_true_iff.mp p).1) (RelWs.plain m r (Bool.and_eq_true_iff.mp p).2)
end
theorem Lk.ext (l : Lk K F st σ H) (e : ∀ a u, H a = some u → H' a = some u) : Lk K F st σ H' := by
  have m : Mv (Live F st σ) H (Live F st σ) H' := fun a u h n => ⟨e a u h, n⟩
  refine ⟨l.len, fun i w q => ?_, fun i o q => ?_, l.inj, fun a o q => (l.sto a o q).move (e a) m, fun a q => ?_, l.fdis⟩
  · obtain ⟨v, e1, r⟩ := l.val i w q
    exact ⟨v, e1, r.mono m⟩
  · obtain ⟨a, e1, r, n1, n2⟩ := l.own i o q
    exact ⟨a, e1, r.move (e a) m, n1, n2⟩
  · obtain ⟨u, z⟩ := l.ftr a q
    exact ⟨u, e a u z⟩
theorem pk_get {i : Nat} {x : Slot} (h : st.pk.ρ[i]? = some x) : (∃ o, st.ρ[i]? = some (.own o) ∧ x = .val o.fz) ∨ (st.ρ[i]? = some x ∧ ∀ o, x ≠ .own o) := by
  have h : (st.ρ.map frzS)[i]? = some x := h
  rw [List.getElem?_map] at h
  cases e : st.ρ[i]? with
  | none => rw [e] at h; cases h
  | some y =>
    rw [e] at h
    cases y with
    | own o => cases h; exact .inl ⟨o, rfl, rfl⟩
    | val w => cases h; exact .inr ⟨rfl, fun _ z => nomatch z⟩
    | none => cases h; exact .inr ⟨rfl, fun _ z => nomatch z⟩
theorem pk_wr {a : Addr} : ¬ Wr st.pk σ a := fun z => by
  rcases z with z | ⟨i, o, e, _⟩
  · exact z rfl
  · rcases pk_get e with ⟨_, _, q⟩ | ⟨_, q⟩
    · cases q
    · exact q o rfl
theorem Lk.pk (l : Lk K F st σ H) : Lk K F st.pk σ H := by
  have m : Mv (Live F st σ) H (Live F st.pk σ) H := mv_same fun a z => z.elim (fun z => (pk_wr z).elim) .inr
  refine ⟨?_, fun i w q => ?_, fun i o q => ?_, fun i j o o' a e => ?_, fun a o q => (nomatch q), l.ftr, fun _ _ => rfl⟩
  · rw [← l.len]; exact List.length_map ..
  · rcases pk_get q with ⟨o, e, q⟩ | ⟨e, _⟩
    · cases q
      obtain ⟨a, ea, ra, na, nf⟩ := l.own i o e
      exact ⟨.ref a, ea, (ra.move (fun _ z => z) m).fz fun z => z.elim (fun z => pk_wr z) nf⟩
    · obtain ⟨v, ev, r⟩ := l.val i w e
      exact ⟨v, ev, r.mono m⟩
  · rcases pk_get q with ⟨_, _, q⟩ | ⟨_, q⟩
    · cases q
    · exact (q o rfl).elim
  · rcases pk_get e with ⟨_, _, q⟩ | ⟨_, q⟩
    · cases q
    · exact (q o rfl).elim
end
section
variable {X : Cx} {F : Addr → Prop} {Wx : WX} {e : Expr} {ie : IE} {nn : IN}
def iPeek (ie : IE) : IE := fun _ st Q => ie (fun _ _ => False) st.pk fun w _ => plainW w = true ∧ Q w st
def nPeek (nn : IN) : IN := fun _ st Q => nn (fun _ _ => False) st.pk fun o _ => match o with
  | .lst ws => plainWs ws = true ∧ Q (.lst ws) st
  | _ => False
end
end Sh
namespace Sh
open PySem L2
open PyProof.Rows hiding St
section
variable {X : Cx} {F : Addr → Prop} {Wx : WX} {a b c e : Expr} {es : List Expr} {pos : Pos} {ia ib ic : IE} {nn : IN}
def isB (b : Bool) : W → Bool
  | .bl c => c == b
  | _ => false
def gIsB (neg : Bool) : W → W → (W → Prop) → Prop := fun x y P => match x, y with
  | .ty _, _ => False
  | x, .bl b => P (.bl (if neg then !isB b x else isB b x))
  | _, _ => False
inductive It where
  | e (i : IE) | n (i : IN)
def iItems : List It → XI → Stt → (List R → Stt → Prop) → Prop
  | [], _, st, Q => Q [] st
  | .e i :: r, EI, st, Q => i EI st fun w st1 => iItems r EI st1 fun rs st2 => Q (.val w :: rs) st2
  | .n i :: r, EI, st, Q => i EI st fun o st1 => iItems r EI st1 fun rs st2 => Q (.new o :: rs) st2
def R.slot : R → Slot
  | .val w => .val w
  | .new o => .own o
def putsR (st : Stt) : List Nat → List R → Stt
  | i :: is, r :: rs => putsR (st.put i r.slot) is rs
  | _, _ => st
def sParM (is : List Nat) (its : List It) : IS := fun EI D st => iItems its EI st fun rs st1 => D.nx (putsR st1 is rs)
def FAs (F : Addr → Prop) : List Addr → Addr → Prop
  | [] => F
  | a :: as => FA (FAs F as) a
theorem FAs_iff {F : Addr → Prop} {b : Addr} : ∀ {as : List Addr}, FAs F as b ↔ F b ∨ b ∈ as
  | [] => by simp [FAs]
  | a :: as => by
    show FAs F as b ∨ b = a ↔ _
    rw [FAs_iff (as := as), List.mem_cons]
    constructor
    · rintro ((h | h) | h)
      · exact .inl h
      · exact .inr (.inr h)
      · exact .inr (.inl h)
    · rintro (h | h | h)
      · exact .inl (.inl h)
      · exact .inr h
      · exact .inl (.inr h)
inductive RelRs (K : PySem.W.Frag) (Lv : Addr → Prop) (H : Hp) : List R → List V → List Addr → Prop
  | nil : RelRs K Lv H [] [] []
  | val {w : W} {v : V} {rs : List R} {vs : List V} {as : List Addr} : RelW K Lv H w v → RelRs K Lv H rs vs as → RelRs K Lv H (.val w :: rs) (v :: vs) as
  | new {o : SO} {a : Addr} {rs : List R} {vs : List V} {as : List Addr} : RelO K Lv H a o → a ∉ as → RelRs K Lv H rs vs as → RelRs K Lv H (.new o :: rs) (.ref a :: vs) (a :: as)
theorem RelRs.mono {K : PySem.W.Frag} {Lv Lv' : Addr → Prop} {H H' : Hp} {rs : List R} {vs : List V} {as : List Addr} (r : RelRs K Lv H rs vs as) (m : Mv Lv H Lv' H') (k : ∀ a ∈ as, ∀ u, H a = some u → H' a = some u) : RelRs K Lv' H' rs vs as := by
  induction r with
  | nil => exact .nil
  | val rw' _ ih => exact .val (rw'.mono m) (ih k)
  | new ro n _ ih => exact .new (ro.move (k _ (List.mem_cons_self ..)) m) n (ih fun b hb => k b (List.mem_cons_of_mem _ hb))
theorem RelRs.len {K : PySem.W.Frag} {Lv : Addr → Prop} {H : Hp} {rs : List R} {vs : List V} {as : List Addr} (r : RelRs K Lv H rs vs as) : vs.length = rs.length := by
  induction r with
  | nil => rfl
  | val _ _ ih => simp [ih]
  | new _ _ _ ih => simp [ih]
def LM (K : PySem.W.Frag) (F : Addr → Prop) (Wx : WX) (its : List It) : TA := fun σ H Q => ∃ st QI EI, Lk K F st σ H ∧ iItems its EI st QI ∧ UpX K F Wx st σ H EI ∧
  ∀ rs st' vs as H', rs.length = its.length → QI rs st' → Lk K (FAs F as) st' σ H' → Step st σ H st' σ H' → RelRs K (Live (FAs F as) st' σ) H' rs vs as → (∀ a ∈ as, NewAt st σ H a) → Q vs H'
theorem mv_news {st st1 : Stt} {σ : L2.St} {H H1 : Hp} {as : List Addr} (s : Step st σ H st1 σ H1) (n : ∀ a ∈ as, NewAt st σ H a) : Mv (Live F st σ) H (Live (FAs F as) st1 σ) H1 := fun b u e nl =>
  ⟨s.keep b u e fun z => nl (.inl z), fun z => by
    rcases z with z | z
    · rcases s.new b z with z | z
      · exact nl (.inl z)
      · rw [e] at z; cases z
    · rcases FAs_iff.mp z with z | z
      · exact nl (.inr z)
      · rcases n b z with z | z
        · exact nl (.inl z)
        · rw [e] at z; cases z⟩
theorem pm_nil : PA X [] (LM X.K F Wx []) := pa_imp pa_nil fun σ H Q h => by
  obtain ⟨st, QI, EI, l, q, ux, k⟩ := h
  exact k [] st [] [] H rfl q l .refl .nil fun _ z => nomatch z
theorem pm_n {i : IN} {its : List It} (ha : PE X e (LN X.K F Wx i)) (hr : ∀ a, PA X es (LM X.K (FA F a) Wx its)) (hs : starEach (e :: es) X.env = (false, eval e X.env) :: starEach es X.env := by rfl) : PA X (e :: es) (LM X.K F Wx (.n i :: its)) := by
  have hr' : PA X es (fun σ H Q => ∃ a, LM X.K (FA F a) Wx its σ H Q) := ⟨fun pos pins s σ H Q I ⟨a, q⟩ => (hr a).run pos pins s σ H Q I q⟩
  refine pa_imp (pa_cons ha hr' hs) fun σ H Q h => ?_
  obtain ⟨st, QI, EI, l, q, ux, k⟩ := h
  refine ⟨st, _, EI, l, q, ux, fun o st1 a H1 q1 l1 s1 r1 n1 => ⟨a, st1, _, EI, l1, q1, (ux.step s1).more fun _ z => .inl z, fun rs st2 vs as H2 hl q2 l2 s2 r2 n2 => ?_⟩⟩
  have nw : ¬ Wr st1 σ a := fun z => by
    rcases z with z | ⟨j, o', e1, e2⟩
    · exact z (l1.fdis a (.inr rfl))
    · obtain ⟨b, e3, _, _, n3⟩ := l1.own j o' e1
      rw [e2] at e3
      cases e3
      exact n3 (.inr rfl)
  obtain ⟨u, hu⟩ := r1.at
  have na : a ∉ as := fun z => by
    rcases n2 a z with z | z
    · exact nw z
    · rw [hu] at z; cases z
  have sub : ∀ b, FAs F (a :: as) b → FAs (FA F a) as b := fun b z => by
    rw [FAs_iff] at z ⊢
    rcases z with z | z
    · exact .inl (.inl z)
    · rcases List.mem_cons.mp z with z | z
      · exact .inl (.inr z)
      · exact .inr z
  have m3 : Mv (Live (FAs (FA F a) as) st2 σ) H2 (Live (FAs F (a :: as)) st2 σ) H2 := mv_same fun b z => z.imp id (sub b)
  have ro : RelO X.K (Live (FAs (FA F a) as) st2 σ) H2 a o := r1.move (fun u e => s2.keep a u e nw) (mv_news s2 n2)
  refine k (.new o :: rs) st2 (.ref a :: vs) (a :: as) H2 (by simp [hl]) q2 (l2.less sub) (s1.trans s2) (.new (ro.move (fun _ z => z) m3) na (r2.mono m3 fun _ _ _ z => z)) fun b hb => ?_
  rcases List.mem_cons.mp hb with rfl | hb
  · exact n1
  · exact (n2 b hb).step s1
def putsV (σ : L2.St) : List Nat → List V → L2.St
  | i :: is, v :: vs => putsV (σ.set i (some v)) is vs
  | _, _ => σ
theorem mv_keepNew {F' : Addr → Prop} {st : Stt} {σ : L2.St} {H : Hp} {i : Nat} {o : SO} {a : Addr} (l : st.ρ.length = σ.length) : Mv (Live (FA F' a) st σ) H (Live F' (st.put i (.own o)) (σ.set i (some (.ref a)))) H := fun b u e n => ⟨e, fun z => n (by
  rcases z with (z | ⟨j, o', e1, e2⟩) | z
  · exact .inl (.inl z)
  · rcases get_set e1 with ⟨rfl, _, hb⟩ | ⟨nj, e1⟩
    · rw [set_get (by rw [← l]; exact hb)] at e2
      cases e2
      exact .inr (.inr rfl)
    · rw [List.getElem?_set_ne (Ne.symm nj)] at e2
      exact .inl (.inr ⟨j, o', e1, e2⟩)
  · exact .inr (.inl z))⟩
theorem puts_lk {K : PySem.W.Frag} {st0 : Stt} {σ0 : L2.St} {H0 H : Hp} (l0 : Lk K F st0 σ0 H0) {rs : List R} : ∀ {is : List Nat} {vs : List V} {as : List Addr} {st : Stt} {σ : L2.St}, is.length = rs.length → Lk K (FAs F as) st σ H → Step st0 σ0 H0 st σ H →
    RelRs K (Live (FAs F as) st σ) H rs vs as → (∀ a ∈ as, NewAt st0 σ0 H0 a) → Lk K F (putsR st is rs) (putsV σ is vs) H ∧ Step st0 σ0 H0 (putsR st is rs) (putsV σ is vs) H := by
  induction rs with
  | nil =>
    intro is vs as st σ hl l s r n
    cases r
    cases is with
    | nil => exact ⟨l, s⟩
    | cons i is => cases hl
  | cons x rs ih =>
    intro is vs as st σ hl l s r n
    match is, hl with
    | i :: is, hl =>
    cases r with
    | val rw' rr => exact ih (by simpa using hl) (l.put rw') (s.trans Step.put) (rr.mono Step.put.mv fun _ _ _ z => z) n
    | @new o a rs' vs' as' ro na rr =>
      have nF : ¬ FAs F as' a := fun z => by
        rcases FAs_iff.mp z with z | z
        · exact NewAt.nf l0 (n a (List.mem_cons_self ..)) z
        · exact na z
      exact ih (by simpa using hl) (l.keepNew ro nF) (Step.keepNew l.len s (n a (List.mem_cons_self ..))) (rr.mono (mv_keepNew l.len) fun _ _ _ z => z) fun b hb => n b (List.mem_cons_of_mem _ hb)
theorem parM_of {K : PySem.W.Frag} {is : List Nat} {its : List It} {D : Ends} {σ : L2.St} {H : Hp} (hl : is.length = its.length) (h : LS K F Wx (sParM is its) D σ H) : LM K F Wx its σ H fun vs H1 => vs.length = is.length ∧ D.nx (putsV σ is vs) H1 := by
  obtain ⟨st, DI, EI, l, q, u⟩ := h
  refine ⟨st, _, EI, l, q, u.x, fun rs st1 vs as H1 hr q1 l1 s1 r1 n1 => ?_⟩
  obtain ⟨l2, s2⟩ := puts_lk (is := is) l (by rw [hl, hr]) l1 s1 r1 n1
  exact ⟨by rw [r1.len, hl, hr], u.nx _ _ H1 q1 l2 s2⟩
theorem s_parM2 (i j : Nat) {its : List It} {x y : Str} {px py pt : Pos} {kt k2 pt2} (hN : X.N.Nodup) (ha : PA X [a, b] (LM X.K F Wx its)) (hi : X.N[i]? = some x := by rfl) (hj : X.N[j]? = some y := by rfl) (hij : i ≠ j := by decide)
    (hx : X.env.scope.names.lookup x = some .local := by rfl) (hy : X.env.scope.names.lookup y = some .local := by rfl) (hc : X.calm = true := by rfl)
    (hw : swappedStores [.Tuple [.Name x px, .Name y py] kt pt] (.Tuple [a, b] k2 pt2) X.env = pure (some [x, y]) := by rfl)
    (hs : swapsWithSole [.Tuple [.Name x px, .Name y py] kt pt] (.Tuple [a, b] k2 pt2) pos.line X.env = pure false := by rfl) (hl : [i, j].length = its.length := by rfl) :
    PS X (.Assign [.Tuple [.Name x px, .Name y py] kt pt] (.Tuple [a, b] k2 pt2) pos) (LS X.K F Wx (sParM [i, j] its)) := by
  have ha' : PA X [a, b] (fun σ H Q => LM X.K F Wx its σ H Q) := ha
  refine ps_imp (ps_par hc hN hi hj hij hx hy ha' hw hs) fun D σ H h => ?_
  obtain ⟨st, QI, EI, l, q, ux, k⟩ := parM_of hl h
  refine ⟨st, QI, EI, l, q, ux, fun rs st1 vs as H1 hr q1 l1 s1 r1 n1 => ?_⟩
  obtain ⟨e, q2⟩ := k rs st1 vs as H1 hr q1 l1 s1 r1 n1
  match vs, e with
  | [v, w], _ => exact ⟨v, w, rfl, q2⟩
end
end Sh
namespace Sh
open PySem L2
open PyProof.Rows hiding St
section
variable {X : Cx} {F : Addr → Prop} {Wx : WX} {a b c e f o : Expr} {es : List Expr} {pos apos cpos p : Pos} {ia ib ic : IE} {i : IA} {n : Nat} {x : Str}
def iPairs : List (IE × IE) → XI → Stt → (List (W × W) → Stt → Prop) → Prop
  | [], _, st, Q => Q [] st
  | (ik, iv) :: r, EI, st, Q => ik EI st fun k st1 => iv EI st1 fun v st2 => iPairs r EI st2 fun ps st3 => Q ((k, v) :: ps) st3
def keyW : W → Option Key
  | .int i => some (.inl i)
  | .str s => some (.inr s)
  | _ => none
def keysW : List (W × W) → Option (List (Key × W))
  | [] => some []
  | (k, v) :: r => match keyW k, keysW r with
    | some k, some r => some ((k, v) :: r)
    | _, _ => none
def nDisp (its : List (IE × IE)) : IN := fun EI st Q => iPairs its EI st fun ps st1 => match keysW ps with
  | some kvs => Q (.dct (mergeW [] kvs)) st1
  | none => False
def nDNew : IN := fun _ st Q => Q (.dct []) st
theorem n_dnew : PE X (.Dict [] [] pos) (LN X.K F Wx nDNew) := by
  refine pe_imp pe_dnewK fun σ H Q h => ?_
  obtain ⟨st, QI, EI, l, q, ux, k⟩ := h
  intro p hp
  exact k (.dct []) st p _ q (l.foreign hp) (Step.laid l hp) ⟨[], upd_same, .nil⟩ (.inr hp)
/-- pairs of values, related -/
inductive RelPs (K : PySem.W.Frag) (Lv : Addr → Prop) (H : Hp) : List (W × W) → List (V × V) → Prop
  | nil : RelPs K Lv H [] []
  | cons {k v : W} {kv vv : V} {ws : List (W × W)} {vs : List (V × V)} : RelW K Lv H k kv → RelW K Lv H v vv → RelPs K Lv H ws vs → RelPs K Lv H ((k, v) :: ws) ((kv, vv) :: vs)
theorem RelPs.len {K : PySem.W.Frag} {Lv : Addr → Prop} {H : Hp} {ws : List (W × W)} {vs : List (V × V)} (r : RelPs K Lv H ws vs) : vs.length = ws.length := by
  induction r with
  | nil => rfl
  | cons _ _ _ ih => simp [ih]
theorem lay_new {K : PySem.W.Frag} {st : Stt} {σ : L2.St} {H : Hp} {ws : List W} {vs : List V} {p : Addr} (l : Lk K F st σ H) (r : RelWs K (Live F st σ) H ws vs) (hp : H p = none) :
    Lk K (FA F p) st σ (upd H p (.lst vs)) ∧ Step st σ H st σ (upd H p (.lst vs)) ∧ RelO K (Live (FA F p) st σ) (upd H p (.lst vs)) p (.lst ws) ∧ NewAt st σ H p :=
  ⟨l.foreign hp, Step.laid l hp, ⟨vs, upd_same, r.mono (mv_foreign l hp)⟩, .inr hp⟩
def BtN (K : PySem.W.Frag) (r : List V → Hp → VK → Prop) (g : List W → (SO → Prop) → Prop) : Prop :=
  ∀ {F : Addr → Prop} {st : Stt} {σ : L2.St} {H : Hp} {ws : List W} {vs : List V} {P : SO → Prop} {Q : VK}, g ws P → Lk K F st σ H → RelWs K (Live F st σ) H ws vs →
    (∀ o a H', P o → Lk K (FA F a) st σ H' → Step st σ H st σ H' → RelO K (Live (FA F a) st σ) H' a o → NewAt st σ H a → Q (.ref a) H') → r vs H Q
def nFn (g : List W → (SO → Prop) → Prop) (i : IA) : IN := fun EI st Q => i EI st fun ws st1 => g ws fun o => Q o st1
theorem fn_new {K : PySem.W.Frag} {r : List V → Hp → VK → Prop} {g : List W → (SO → Prop) → Prop} (hg : BtN K r g) {σ : L2.St} {H : Hp} {Q : VK} (h : LN K F Wx (nFn g i) σ H Q) : tCB r (LA K F Wx n i) σ H Q := by
  obtain ⟨st, QI, EI, l, q, ux, k⟩ := h
  refine ⟨st, _, EI, l, q, ux, fun ws st1 vs H1 hn q1 l1 s1 r1 => ?_⟩
  exact hg q1 l1 r1 fun o a H2 p l2 s2 r2 n2 => k o st1 a H2 p l2 (s1.trans s2) r2 (n2.step s1)
theorem n_ty {T : String} {r : List V → Hp → VK → Prop} {g : List W → (SO → Prop) → Prop} (hc : CallR X (.type T) r) (hgf : BtN X.K r g) (hm : X.mg x = none) (hv : bootBuiltins x = some (.type T)) (ha : PA X (e :: es) (LA X.K F Wx n i)) (hg : Gl X x := by rfl) (hn : x ≠ "__name__" := by decide)
    (hdb : (x == ("__debug__" : Str)) = false := by decide) (he : starEach (e :: es) X.env = (false, eval e X.env) :: starEach es X.env := by rfl) (hpl : (backTo pos (starEach es X.env)).any (·.1) = false := by rfl) : PE X (.Call (.Name x p) (e :: es) [] pos) (LN X.K F Wx (nFn g i)) :=
  pe_imp (pe_callTy hc hg hm hv ha hn hdb he hpl) fun _ _ _ h => fn_new hgf h
def gListN : List W → (SO → Prop) → Prop := fun ws P => match ws with
  | [.lst ys] => P (.lst ys)
  | [.tup ys] => P (.lst ys)
  | _ => False
theorem bn_list {K : PySem.W.Frag} : BtN K (fun xs H Q => ∃ p ys, xs = [.ref p] ∧ (SqL K H p ys ∨ SqT K H p ys) ∧ ∀ l, H l = none → Q (.ref l) (upd H l (.lst ys))) gListN := by
  intro F st σ H ws vs P Q h l r k
  have key : ∀ (ys : List W) (us : List V), RelWs K (Live F st σ) H ys us → P (.lst ys) → ∀ q, H q = none → Q (.ref q) (upd H q (.lst us)) := fun ys us rs p q hq => by
    obtain ⟨l2, s2, r2, n2⟩ := lay_new l rs hq
    exact k _ _ _ p l2 s2 r2 n2
  unfold gListN at h
  split at h
  · cases r with
    | cons r1 r2 =>
      cases r2
      cases r1 with
      | lst f rs => exact ⟨_, _, rfl, .inl f.sq, key _ _ rs h⟩
  · cases r with
    | cons r1 r2 =>
      cases r2
      cases r1 with
      | tup f rs => exact ⟨_, _, rfl, .inr f.sq, key _ _ rs h⟩
  · exact h.elim
theorem n_list (hm : X.mg "list" = none) (ha : PA X (e :: es) (LA X.K F Wx n i)) (hg : Gl X "list" := by rfl) (he : starEach (e :: es) X.env = (false, eval e X.env) :: starEach es X.env := by rfl) (hpl : (backTo pos (starEach es X.env)).any (·.1) = false := by rfl) :
    PE X (.Call (.Name "list" p) (e :: es) [] pos) (LN X.K F Wx (nFn gListN i)) := n_ty call_list_of bn_list hm boot_list' ha hg (by decide) (by decide) he hpl
/-- list(range(a)), a new one -/
def nListRg (ia : IE) : IN := fun EI st Q => ia EI st fun x st1 => match x with
  | .int j => 0 ≤ j ∧ j ≤ 16777216 ∧ Q (.lst (rng 0 j.toNat)) st1
  | _ => False
/-- tuple(range(a)) -/
def iTupRg (ia : IE) : IE := fun EI st Q => ia EI st fun x st1 => match x with
  | .int j => 0 ≤ j ∧ j ≤ 16777216 ∧ Q (.tup (rng 0 j.toNat)) st1
  | _ => False
/-- a new object, by a condition -/
def nIf (t : IT) (na nb : IN) : IN := fun EI st Q => t EI st fun c st1 => if c = true then na EI st1 Q else nb EI st1 Q
end
end Sh
namespace Sh
open PySem L2
open PyProof.Rows hiding St
/-- what stands in the written part about the def -/
structure SupF (P : Program) (K : PySem.W.Frag) (C fI : Addr) (x : Str) : Prop where
  ex : ∃ (self name qual : Str) (params : Arguments) (a1 a2 : Arg) (p0 p1 p2 p3 p4 p5 p6 p7 p8 p9 : Pos) (scope : Scope) (dV kV doc pm : Value) (an : Option Addr) (cda : Addr) (ct : Value) (cc : Addr) (oc : Value) (od : Option Addr) (osl : Array (Option Value))
      (ccl : Value) (cdd : Option Addr) (vs : Array Value) (ccs : Array (Option Value)) (file : Str) (tf : Tok) (cl : Value) (cld : Option Addr) (csl : Array (Option Value)) (cdC : ClassData),
    K.lookup fI = some ⟨oc, od, .func (PySem.W.ksFn name qual params [.Expr (.Call (.Attribute (.Call (.Name "super" p0) [] [] p1) "__init__" p2) [.Name x p3] [] p4) p5, .Assign [.Attribute (.Name self p6) x p7] (.Name x p8) p9] scope dV kV doc pm an (.ref cda) ct cc), osl⟩ ∧
    PySem.W.codeIn K (.ref cda) qual = true ∧ params.posonlyargs = [] ∧ params.args = [a1, a2] ∧ a1.arg = self ∧ a2.arg = x ∧
    (∀ us : List Value, us.length = 2 → bindArgs (PySem.W.ksFn name qual params [.Expr (.Call (.Attribute (.Call (.Name "super" p0) [] [] p1) "__init__" p2) [.Name x p3] [] p4) p5, .Assign [.Attribute (.Name self p6) x p7] (.Name x p8) p9] scope dV kV doc pm an (.ref cda) ct cc) ⟨us, []⟩ = pure ([self, x].zip us)) ∧
    K.lookup cda = some ⟨ccl, cdd, .fields vs, ccs⟩ ∧ vs[2]? = some (.str file tf) ∧ ((P.main.file : Str) == file) = true ∧ K.lookup cc = some ⟨cl, cld, .cell (some (.ref C)), csl⟩ ∧ PySem.W.clsIn K C = some cdC ∧
    (∀ n ∈ scope.names, n.2 ≠ .cell) ∧ scope.names.lookup self = some .local ∧ scope.names.lookup x = some .local ∧ scope.names.lookup ("super" : Str) = some .globalImplicit ∧ scope.names.lookup ("__class__" : Str) = some .free ∧
    scope.isCoroutine = false ∧ scope.isGenerator = false ∧ scope.kind = .function ∧ self ≠ x ∧ (self == ("__debug__" : Str)) = false ∧ (x == ("__debug__" : Str)) = false ∧ (p2.endLine == p4.line) = true
  sub : PySem.W.mroIn K C (.ref C) = some true
  init : PySem.W.ks_superIn K C C "__init__" = some (some (.builtin "ValueError.__init__"))
  sve : PySem.W.subIn K (.ref C) (.type "ValueError") = some true
  any : PySem.W.nsIn K cStatics "thirdparty.any" = some none
  noat : PySem.W.findIn K (.ref C) x = some none
  top : (P.main.scope.names.lookup ("super" : Str)).isSome = false
  xi : PySem.W.excInitIn K C [.type "ValueError", .type "Exception", .type "BaseException", .type "object"] "ValueError.__new__" = true
section
open PySem.W PySem.Calls
variable {prog : Program} {w : World} {A : Around} {R : Result → Shared → Prop} {hp : Heap} {g : Array GenState} {d : Drawn} {t : Nat} {os : OsState} {K : Frag} {mg mb : Str → Option Value} {C e t0 fI : Addr} {u : Value} {x : Str}
theorem method_call {o : Expr} {name : Str} {apos pos : Pos} {a : Expr} {env : Env} (hl : (apos.endLine == pos.line) = true) (hs : starEach [a] env = (false, eval a env) :: starEach [] env) : eval (.Call (.Attribute o name apos) [a] [] pos) env = (do
      let ov ← attributeBase o name env (eval o env)
      standAt apos.atName
      let (f, first) ← holding [ov] (getMethod ov name (do return (← importBound o env).getD true))
      callWith pos f first (backTo pos (starEach [a] env)) []) := by
  have e1 : methodCallPos true o env apos pos = pure pos := by
    unfold methodCallPos
    rw [hl]
    rfl
  have e2 : methodCallForm 1 (backTo pos (starEach [a] env)) [] = true := by
    rw [hs]
    rfl
  rw [arm_eval_Call]
  show (attributeBase o name env (eval o env) >>= fun ov => standAt apos.atName >>= fun _ => (holding [ov] (calleeOf (methodCallForm 1 (backTo pos (starEach [a] env)) []) o env ov name) >>= fun x => methodCallPos (methodCallForm 1 (backTo pos (starEach [a] env)) []) o env apos pos >>= fun cp => callWith cp x.1 x.2 (backTo pos (starEach [a] env)) [])) = _
  rw [e2, e1]
  rfl
theorem hide1 {h : Heap} {e : Addr} : (∀ b o, b ≠ e → h.get? b = some o → (hideAll h [e]).get? b = some o) ∧ (∀ b o, (hideAll h [e]).get? b = some o → h.get? b = some o) ∧ (hideAll h [e]).get? e = none ∧ (hideAll h [e]).objs.size = h.objs.size :=
  ⟨fun b o n q => hideAll_get [e] q (by simpa using n), fun b o q => of_hideAll [e] q, hideAll_none [e] (by simp), hideAll_size _ _⟩
/-- super() in such a def -/
theorem sup_node {L : Addr} {h₀ : Heap} {m : Str → Option Value} {news : List (Addr × Obj)} {s : Shared} {ox : Obj} {odx : Option Obj} {D f cc cda : Addr} {body : List Stmt} {q : Str} {scope : Scope} {p0 p1 : Pos} {attr : Str} {whole : Sem Value} {fd : FuncData} {ar : Arg} {vs : Array Value} {file : Str} {tf : Tok} {oc ccl cl : Value} {od cdd cld : Option Addr} {osl ccs csl : Array (Option Value)} {cdD : ClassData} {E : Value → Shared → Prop} {Q : Value → Shared → Prop}
    (F : Fr h₀ L s.heap m) (X₀ : K.In h₀) (N : News h₀ L s.heap news) (Gh : s.heap.Ns mainGlobals mg) (Bh : s.heap.Ns builtinsNs mb) (hmg : mg "super" = none) (hmb : mb "super" = some (.type "super"))
    (hf : K.lookup f = some ⟨oc, od, .func fd, osl⟩) (hp : (fd.params.posonlyargs ++ fd.params.args).head? = some ar) (hv : m ar.arg = some (.ref e)) (I : InstAt s.heap e ox C odx)
    (hcode : K.lookup cda = some ⟨ccl, cdd, .fields vs, ccs⟩) (hvs : vs[2]? = some (.str file tf)) (hfile : ((prog.main.file : Str) == file) = true)
    (hcell : K.lookup cc = some ⟨cl, cld, .cell (some (.ref D)), csl⟩) (hD : clsIn K D = some cdD) (hsub : mroIn K C (.ref D) = some true)
    (hat : (attr == ("__class__" : Str)) = false) (hks : scope.names.lookup ("super" : Str) = some .globalImplicit) (hkc : scope.names.lookup ("__class__" : Str) = some .free) (hka : scope.names.lookup ar.arg = some .local) (hk : scope.kind = .function)
    (htop : (prog.main.scope.names.lookup ("super" : Str)).isSome = false)
    (h : ∀ so h', Fr h₀ L h' m → News h₀ L h' ((so, ks_superObj D e C) :: news) → (∀ p ∈ news, p.1 < so) → (∀ b o, s.heap.get? b = some o → h'.get? b = some o) → Q (.ref so) { s with heap := h' }) :
    _root_.PySem.wpAt (model prog w) A (.func body (ksEnv q scope L f (.ref cda) cc)) (attributeBase (.Call (.Name "super" p0) [] [] p1) attr (ksEnv q scope L f (.ref cda) cc) whole) Q E s := by
  have X : K.In s.heap := X₀.keeps F.keep
  obtain ⟨hh, g, d, t, os⟩ := s
  obtain ⟨oD, hD1, hD2⟩ : ∃ oD, hh.get? D = some oD ∧ oD.data = .cls cdD := by
    unfold clsIn at hD
    split at hD
    · rename_i c d cd' sl ho
      cases hD
      exact ⟨_, X _ _ ho, rfl⟩
    · cases hD
  refine ks_wpAt_super_base (env := ksEnv q scope L f (.ref cda) cc) hks hkc hat rfl (X _ _ hf) rfl hp rfl (X _ _ hcode) rfl hvs hfile htop ?_
  refine ks_loadName_global hk hks (loadGlobal_builtin (env := ksEnv q scope L f (.ref cda) cc) Gh hmg Bh hmb ⟨rfl, ?_⟩)
  refine wpAny_loadName_free hk hkc rfl ⟨_, X _ _ hcell, rfl⟩ ?_
  refine wpAny_loadName_local hk hka F.ns hv ?_
  refine ks_wpAny_isType_cls hD1 hD2 ⟨rfl, ?_⟩
  refine ks_wpAny_call_super hD1 hD2 I.at_ I.cls (fun c e => ?_) (looks_mroIn X hsub) (fun h' e k => ?_)
  · have := I.no
    unfold notCls at this
    rw [e] at this
    exact Bool.noConfusion this
  · obtain ⟨F', N', l'⟩ := ks_newsPush (s := ⟨hh, g, d, t, os⟩) F N rfl e k
    exact h _ _ F' N' l' k
theorem sup_init (X : K.In hp) (G : hp.Ns mainGlobals mg) (B : hp.Ns builtinsNs mb) (lim : hp.NoLimit) (hb : mb "super" = bootBuiltins "super") (hm : mg "super" = none) (S : SupF prog K C fI x) (T : OexC K C)
    (he : hp.get? e = some (HandSPX.excO C t0)) (hKe : K.lookup e = none) (room : A.depth < recursionLimit)
    (hq : ∀ h' tk' t1 dx, (∀ b o, b ≠ e → hp.get? b = some o → h'.get? b = some o) → hp.objs.size ≤ dx → dx ≠ e → h'.get? e = some ({ cls := .ref C, dict := some dx, data := .fields #[.ref t1, .none, .none, .none, .bool false, .none] } : Obj) →
      h'.Ns1 dx (fun y => if y = x then some u else none) → R (.ok (.ret .none)) ⟨h', g, d, tk', os⟩) :
    codeAny (model prog w) A (.call (.ref fI) ⟨[.ref e, u], []⟩) R ⟨hp, g, d, t, os⟩ := by
  obtain ⟨self, name, qual, params, a1, a2, p0, p1, p2, p3, p4, p5, p6, p7, p8, p9, scope, dV, kV, doc, pm, an, cda, ct, cc, oc, od, osl, ccl, cdd, vs, ccs, file, tf, cl, cld, csl, cdC, lk, hcd, hpo, hpa, ha1, ha2, hbind, hcda, hvs, hfile, hcc, hcC, hcell, hself, hx, hsup, hcls, hco, hgen, hk, hsx, hsd, hxd, hline⟩ := S.ex
  obtain ⟨k1, k2, k3, k4⟩ := hide1 (h := hp) (e := e)
  refine ks_codeAny_call_defAt (fd := ksFn name qual params _ scope dV kV doc pm an (.ref cda) ct cc) (binds := [self, x].zip [.ref e, u]) room (X _ _ lk) rfl lim (codeRec_of X hcd) rfl (BindsTo.of_eq (hbind _ rfl)) hcell ?_ (fun h1 hns hk1 => ?_) hco hgen hk
  · intro y hy
    simp only [List.zip_cons_cons, List.zip_nil_right, List.mem_cons, List.not_mem_nil, or_false] at hy
    rcases hy with rfl | rfl
    · exact hself
    · exact hx
  have F1 : Fr (hideAll hp [e]) hp.objs.size h1 (fun y => ([self, x].zip [.ref e, u]).reverse.lookup y) := ⟨hns, fun b o q => hk1 b o (k2 b o q), by rw [k4]; exact Nat.le_refl _⟩
  have N1 : News (hideAll hp [e]) hp.objs.size h1 [(e, excObj C t0 none .none)] := fun p hp' => by
    rw [List.mem_singleton.mp hp']
    exact ⟨hk1 _ _ he, Nat.ne_of_lt (Heap.lt_size he), k3⟩
  have X0 : K.In (hideAll hp [e]) := fun b o q => k1 b o (fun z => by rw [z, hKe] at q; cases q) (X b o q)
  have hmb : mb "super" = some (.type "super") := hb.trans (by decide +kernel)
  have ms : ([self, x].zip [.ref e, u]).reverse.lookup self = some (.ref e) := by have z : (self == x) = false := beq_eq_false_iff_ne.mpr hsx; simp [List.lookup, z]
  have mx : ([self, x].zip [.ref e, u]).reverse.lookup x = some u := by simp [List.lookup]
  refine ks_wpAt_execs_cons (ks_wpAt_Expr_any (ks_wpAt_MethodCall ?_ (method_call hline rfl)) (by unfold interactive; simp [callEnv, newEnv, hk]) rfl)
  refine sup_node (ar := a1) F1 X0 N1 (G.keeps hk1) (B.keeps hk1) hm hmb lk (by rw [hpo, hpa]; rfl) (by rw [ha1]; exact ms) (InstAt.of_exc0 (t := t0) (c2 := .none) N1 (by simp)) hcda hvs hfile hcc hcC S.sub (by decide) hsup hcls (by rw [ha1]; exact hself) hk S.top fun so h2 F2 N2 l2 kk2 => ?_
  have kk2' : ∀ b o, hp.get? b = some o → h2.get? b = some o := fun b o q => kk2 b o (hk1 b o q)
  refine kxs_method (so := so) (x := e) (C := C) (D := C) kxs_ValueError F2 X0 N2 (by simp) (InstAt.of_exc0 (t := t0) (c2 := .none) N2 (by simp)) S.any S.init S.sve (by decide) fun q h3 F3 N3 l3 => ?_
  refine kxs_callWith1 (i := "ValueError.__init__") (x := e) N3 (by simp) (Calls.spliced_cons (ESX.ldL F3.ns mx (Calls.spliced_nil ⟨(N3 (q, kxs_mw "ValueError.__init__" e) (by simp)).1, ?_⟩) hk hx hxd)) rfl rfl
  have nq : q ≠ e := Nat.ne_of_gt (l3 (e, excObj C t0 none .none) (by simp))
  have ns : so ≠ e := Nat.ne_of_gt (l2 (e, excObj C t0 none .none) (by simp))
  refine kxs_call (t := t0) (dv := none) (c2 := .none) F3 X0 N3 PySem.F.excBase_ValueError S.xi (by simp) (.tail nq (.tail ns (.head (by simp)))) (by rw [sizeLine_eq]; show 1 ≤ _; omega) fun t1 h4 F4 N4 l4 => ?_
  -- self.x = x
  obtain ⟨nm, q', N', bs, bm, sn, sub, ab, col, dd, j0, j1, j2, j3, j5, hC, hbm⟩ := T.cls
  have hcl : clsIn K C = some { name := nm, bases := bs, mro := .ref C :: bm, ns := N', qualname := q', hasDict := true, slotNames := sn, subclasses := sub, abstract := ab, collection := col, hasDel := false } := by unfold clsIn; rw [hC] <;> rfl
  have X4 : K.In h4 := X0.keeps F4.keep
  have e4 : h4.get? e = some (excObj C t1 none .none) := (N4 (e, excObj C t1 none .none) (by simp)).1
  refine ks_wpAt_execs_cons (_root_.PySem.wpAt_of_wpAny (plainObj_wpAny_Assign_Attribute (ESX.ldL F4.ns mx (ESX.ldL F4.ns ms ?_ hk hself hsd) hk hx hxd) rfl))
  refine set_plain X4 (ox := excObj C t1 none .none) (od := none) ⟨e4, rfl, rfl, trivial⟩ T.sa ?_
  refine HandSPX.exc_osa X4 e4 hcl (show HandSPX.refsVE (.ref C :: bm) = true from hbm) rfl S.noat fun h' tk' dx k dn dne hx' hn => ?_
  refine _root_.PySem.wpAt_of_wpAny (wpAny_execs_nil ?_)
  have sz : hp.objs.size ≤ h4.objs.size := by
    obtain ⟨o, _, _, ho, _⟩ := F4.ns
    exact Nat.le_of_lt (Heap.lt_size ho)
  exact hq h' tk' t1 dx (fun b o n z => k b o n (F4.keep b o (k1 b o n z))) (Nat.le_trans sz dn) dne hx' hn
end
/-- C(e): an error with its field -/
def tMkS (C : Addr) (f : Str) (ta : TA) : L2.St → Hp → XK → Prop := fun σ H Q => ta σ H fun vs H1 => ∃ v, vs = [v] ∧ ∀ d, H1 d = none → Q (.ref C) (some d) (upd H1 d (.xd [(f, v)]))
section
variable {X : Cx} {F : Addr → Prop} {Wx : WX} {a b c e : Expr} {es : List Expr} {pos p : Pos} {ta : TA} {x : Str} {C fI : Addr} {f : Str}
theorem pmk_sup (T : OexC X.K C) (S : SupF X.prog X.K C fI f) (iC : PySem.W.findIn X.K (.ref C) "__init__" = some (some (.ref fI))) (tI : PySem.W.typeIn X.K (.ref fI) = some (.type "function")) (hs : X.mg "super" = none) (hr : Room 1 X.A) (hg : Gl X x) (hm : X.mg x = some (.ref C)) (ha : PA X [e] ta)
    (hdb : (x == ("__debug__" : Str)) = false := by decide) (he : starEach [e] X.env = (false, eval e X.env) :: starEach [] X.env := by rfl) (hpl : (backTo pos (starEach [] X.env)).any (·.1) = false := by rfl) :
    PMk X (.Call (.Name x p) [e] [] pos) (tMkS C f ta) := by
  intro pins s σ H Q I h
  obtain ⟨nm, q, N, bs, bm, sn, sub, ab, col, dd, k0, k1, k2, k3, k5, hC, hbm⟩ := T.cls
  refine wpAny_Call_Name_kw (ld_glob I hg hm ?_ hdb)
  refine PySem.W.callWith_K (h₀ := X.base) I.ok.mod.kin T.kC (thn (ha.run pos pins s σ H _ I h) fun us s1 ⟨vs, H1, I1, r1, v, ev, q1⟩ => ⟨I1.kIn, ?_⟩) he hpl
  subst ev
  obtain ⟨u, rfl, ru⟩ : ∃ u, us = [u] ∧ RelV v u := by
    cases r1 with
    | cons r rr => cases rr; exact ⟨_, rfl, r⟩
  show wpAny _ _ (call (.ref C) [u]) _ _ _
  obtain ⟨hp, g, dr, tk, os⟩ := s1
  have kk : ∀ b o, hp.get? b = some o → ((hp.push (PySem.W.kdv_tup [u])).push (PySem.HandSPX.excO C hp.objs.size)).get? b = some o := fun b o e => Heap.get?_push_of_some _ (Heap.get?_push_of_some _ e)
  have hget : ((hp.push (PySem.W.kdv_tup [u])).push (PySem.HandSPX.excO C hp.objs.size)).get? (hp.objs.size + 1) = some (PySem.HandSPX.excO C hp.objs.size) := by heap_get
  have kb : ∀ b o, X.base.get? b = some o → hp.get? b = some o := fun b o e => (I1.env0.bs b o e).1
  obtain ⟨mb, hmb, hbo⟩ := I1.ok.mod.blt
  refine wpAny_call (PySem.HandSPX.call_own F.excBase_ValueError (fun Y => PySem.HandSPX.refsVE_contains Y bm hbm) (I1.kIn _ _ hC) (PySem.W.looks_findIn I1.kIn iC) (fun self => PySem.W.bind_fn I1.kIn self tI) (by rw [sizeLine_eq]; show 1 ≤ _; omega) ?_)
  have KX := I1.kIn
  have hKe : X.K.lookup (hp.objs.size + 1) = none := by
    cases z : X.K.lookup (hp.objs.size + 1) with
    | none => rfl
    | some o => exact absurd (Heap.lt_size (KX _ _ z)) (by show ¬ (hp.objs.size + 1 < hp.objs.size); omega)
  refine sup_init (mg := X.mg) (mb := mb) (fun b o z => kk b o (KX b o z)) (((I1.ok.mod.glob).keeps kb).keeps kk) ((hmb.keeps kb).keeps kk) ((I1.ok.mod.nolimit.keeps kb).keeps kk) (hbo "super" (by decide)) hs S T hget hKe (hr.make C [u] []).depth fun h' tk' t1 dx k dn dne hx hn => ?_
  obtain ⟨k1', k2', k3', k4'⟩ := hide1 (h := h') (e := hp.objs.size + 1)
  have na : ∀ {b : Addr} {o : Obj}, hp.get? b = some o → b ≠ hp.objs.size + 1 := fun {b o} z => Nat.ne_of_lt (Nat.lt_succ_of_lt (Heap.lt_size z))
  have sz : hp.objs.size ≤ dx := Nat.le_trans (by simp [Heap.push]; omega) dn
  have hnd : H1 dx = none := I1.hok.fresh sz
  have J : Inv X pins σ (upd H1 dx (.xd [(f, v)])) ⟨PySem.W.hideAll h' [hp.objs.size + 1], g, dr, tk', os⟩ := by
    refine I1.laid (a := dx) (o := .xd [(f, v)]) (t' := tk') (fun b o z => k1' b o (na z) (k b o (na z) (kk b o z))) sz ?_
    exact ⟨_, hn.at fun o y => k1' dx o dne y, relO_put (fs := []) ru fun g => True.intro⟩
  refine ⟨rfl, hp.objs.size + 1, _, _, ⟨PySem.W.hideAll h' [hp.objs.size + 1], g, dr, tk', os⟩, _, .ref C, some dx, rfl, J, k2', k3', hx, ⟨rfl, rfl⟩, rfl, rfl, ?_, rfl, I1.bare, raises_own T.exC T.tyC, q1 dx hnd⟩
  rw [upd_ne (Ne.symm dne)]
  exact I1.hok.fresh (Nat.le_succ _)
end
end Sh
namespace Sh
open PySem L2 PySem.Spec
open PyProof.Rows hiding St
section
variable {X : Cx} {x n : Str} {c : Value} {i : Nat} {body suite : List Stmt} {b₀ : Stmt} {np pos pos' : Pos} {tb : WX → TS} {ts : Addr → Value → Option Addr → TS} {Wo : WX}
/-- what the clause does with an exception in the air -/
theorem as_caught {pins : List (Addr × Obj)} {D : Ends} {xe : Value → Shared → Prop} {u : Value} {s2 : Shared} (ok : X.Ok) (st : X.stack = X.env :: X.outer) (fr : X.env.frame = some X.env.locals) (nd : X.N.Nodup) (ni : X.N[i]? = some n) (kl : X.env.kindOf n = some .local) (cn : Names X x c) (tk : Takes X Wo)
    (su : ∀ (a : Addr) (oe : Obj) (cls : Value) (d : Option Addr) (pn : List (Addr × Obj)), Zc cls d oe → (∃ vs, oe.data = .fields vs) → PSs (X.suite a ((a, oe) :: pn)) (b₀ :: suite) (ts a cls d))
    (air : XE (X.tr (X.pn ++ pins) xe) (wAs X.K c i ts Wo D) u s2) :
    wpAny (model X.prog X.w) X.A (noteFrame u X.env) (fun _ s3 => wpAny (model X.prog X.w) X.A (setFlight u none) (fun _ s4 => wpAny (model X.prog X.w) X.A (handleBy u X.env [.ExceptHandler (some (.Name x np)) (some n) (b₀ :: suite) pos']) (SP X pins D) X.xe s4) X.xe s3) X.xe s2 := by
  have frames : X.A.frames = some (X.env :: X.outer) := ok.frames.trans (congrArg some st)
  obtain ⟨a, B, s1, ps1, σ1, H1, cls, d, rfl, I1, nb, up1, sky1, na, os1, ag1, hit, e1, yes, no⟩ := air
  have I2 : Inv X pins σ1 H1 s1 := I1.ofTry ok
  have sky2 : Sky B (X.env :: X.outer) a (Zc cls d) X.env.locals s2.heap := st ▸ sky1
  refine Sky.land Zc.steady frames fr sky2 fun h3 fl3 up3 => ?_
  have I3 : Inv X pins σ1 H1 { s2 with heap := h3 } := I2.landed nb fl3.1 (up1.trans up3) os1 ag1
  obtain ⟨o3, v3, g3, z3, d3⟩ := fl3.there
  have out : a ∉ frs (X.env :: X.outer) := fun hm => by
    obtain ⟨_, o', e', nf⟩ := fl3.2.2.1.mem hm
    have := g3.symm.trans e'
    cases this
    exact nf _ d3
  have n1 : a ≠ X.env.locals := fun z => out (List.mem_filterMap.mpr ⟨X.env, List.mem_cons_self, fr.trans (congrArg some z.symm)⟩)
  have n2 : a ∉ X.fs := fun hm => by
    obtain ⟨ev, hv, q⟩ := List.mem_filterMap.mp hm
    exact out (List.mem_filterMap.mpr ⟨ev, List.mem_cons_of_mem _ hv, q⟩)
  have J3 := I3.suite g3 d3 na n1 n2
  refine wpAny_handleBy_cons (codeAny_handlers_test ?_) fun q => nomatch q
  have lk1 : PySem.W.Looks (model X.prog X.w) h3 (typeOf (.ref a)) cls := fun _ _ _ _ k q => wpAny_typeOf_ref (k _ _ g3) (z3.1 ▸ q)
  have lk2 := PySem.W.exm_one (M := model X.prog X.w) I3.kIn lk1 e1
  have name : ∀ {Q : Value → Shared → Prop} {E : Value → Shared → Prop}, Q c { s2 with heap := h3 } → wpAny (model X.prog X.w) (X.A.mark (some (.ref a))) (eval (.Name x np) X.env) Q E { s2 with heap := h3 } := fun {Q E} q => by
    rcases cn with ⟨gl, db, m | ⟨m, v, nn⟩⟩
    · exact ld_glob (X := X.suite a ((a, o3) :: (X.pn ++ pins))) J3 gl m q db
    · exact ld_blt (X := X.suite a ((a, o3) :: (X.pn ++ pins))) J3 gl m v q nn db
  refine name (lk2.here ?_)
  cases hit with
  | true =>
    refine codeAny_handlers_suite_as (HandSPX.lands_againZ fl3 fun h4 fl4 up4 => ?_)
    have I4 : Inv X pins σ1 H1 { s2 with heap := h4 } := I2.landed nb fl4.1 ((up1.trans up3).trans up4) os1 ag1
    obtain ⟨o4, v4, g4, z4, d4⟩ := fl4.there
    refine store_ok (X := X.suite a ((a, o4) :: (X.pn ++ pins))) (v := .ref a) (I4.suite g4 d4 na n1 n2) nd ni (.inl kl) rfl (fun s5 J5 => ?_) (.inr kl)
    refine wpAny_mono ((su a o4 cls d (X.pn ++ pins) z4 ⟨_, d4⟩).run [] s5 _ H1 _ J5 (yes rfl a na)) (fun f s6 h6 => ?_) fun _ _ z => z.elim
    have goes : ∀ {σ6 : L2.St} {H6 : Hp} {Q : Shared → Prop}, Inv (X.suite a ((a, o4) :: (X.pn ++ pins))) [] σ6 H6 s6 → (∀ s7, Inv X pins (σ6.set i none) H6 s7 → Q s7) →
        wpAny (model X.prog X.w) X.A (do bindName X.env n .none; unbindBehindTheSuite X.env n pos') (fun _ s7 => Q s7) X.xe s6 := fun J6 k => gone_ok (J6.unsuite ok) nd ni kl k
    cases f with
    | ret w => obtain ⟨v6, σ6, H6, J6, r6, q6⟩ := h6; exact goes J6 fun s7 I7 => ⟨v6, _, H6, I7, r6, q6⟩
    | next => obtain ⟨σ6, H6, J6, q6⟩ := h6; exact goes J6 fun s7 I7 => ⟨_, H6, I7, q6⟩
    | brk => obtain ⟨σ6, H6, J6, q6⟩ := h6; exact goes J6 fun s7 I7 => ⟨_, H6, I7, q6⟩
    | cont => obtain ⟨σ6, H6, J6, q6⟩ := h6; exact goes J6 fun s7 I7 => ⟨_, H6, I7, q6⟩
  | false =>
    show wpAny _ X.A (handleBy (.ref a) X.env []) _ _ _
    refine wpAny_handleBy_nil ?_
    obtain ⟨_, _, _, oe, vs, T, oT, ts', g5, _, d5, f5, _⟩ := id fl3
    unfold PySem.passOn
    refine wpAny_bind (wpAny_field g5 d5 f5 ?_)
    rw [if_neg (show ¬ ((Value.ref T == Value.none) = true) by simp)]
    have on : wpAny (model X.prog X.w) X.A (setFlight (.ref a) X.env.frame) (fun _ s4 => wpAny (model X.prog X.w) X.A (throw (.ref a) : Sem Flow) (SP X pins D) X.xe s4) X.xe { s2 with heap := h3 } := by
      rw [fr]
      refine HandSPX.setFlight_upZ fl3 fun h4 hh4 up4 => wpAny_throw (tk _ _ ⟨a, B, s1, pins, σ1, H1, cls, d, rfl, I2, nb, (up1.trans up3).trans up4, .inr (.inr (st ▸ hh4)), na, os1, ag1, no rfl⟩)
    first
      | exact wpAny_bind (wpAny_pure (wpAny_bind on))
      | exact wpAny_bind on
theorem ps_try_asE {more : List Stmt} {tm : TS} (hm : PSs X more tm) (st : X.stack = X.env :: X.outer) (fr : X.env.frame = some X.env.locals) (nd : X.N.Nodup) (ni : X.N[i]? = some n) (kl : X.env.kindOf n = some .local) (cn : Names X x c) (tk : Takes X Wo)
    (hb : ∀ (W : WX) (pn : List (Addr × Obj)) (xe : Value → Shared → Prop), Takes (X.tr pn xe) W → PassesOwn (model X.prog X.w) X.A X.env xe → PSs (X.tr pn xe) body (tb W))
    (su : ∀ (a : Addr) (oe : Obj) (cls : Value) (d : Option Addr) (pn : List (Addr × Obj)), Zc cls d oe → (∃ vs, oe.data = .fields vs) → PSs (X.suite a ((a, oe) :: pn)) (b₀ :: suite) (ts a cls d)) :
    PS X (.Try body [.ExceptHandler (some (.Name x np)) (some n) (b₀ :: suite) pos'] more [] pos) (fun D σ H => tb (wAs X.K c i ts Wo D) { D with nx := tm D } σ H) := by
  refine ⟨fun pins s σ H D I h => wpAny_Try_except ?_⟩
  have ok := I.ok
  refine wpAny_mono ((hb (wAs X.K c i ts Wo D) (X.pn ++ pins) _ (fun u s' air => as_caught ok st fr nd ni kl cn tk su air) PassesOwn.looking).run [] s σ H _ (I.toTry _) h) (fun f s1 q => ?_) fun _ _ z => z
  cases f with
  | next => obtain ⟨σ', H', I', q⟩ := q; exact hm.run pins s1 σ' H' D (I'.ofTry ok) q
  | brk => obtain ⟨σ', H', I', q⟩ := q; exact ⟨σ', H', I'.ofTry ok, q⟩
  | cont => obtain ⟨σ', H', I', q⟩ := q; exact ⟨σ', H', I'.ofTry ok, q⟩
  | ret w => obtain ⟨v, σ', H', I', r, q⟩ := q; exact ⟨v, σ', H', I'.ofTry ok, r, q⟩
end
end Sh
namespace Sh
open PySem L2
open PyProof.Rows hiding St
open He (ga ma)
def oexB (K : PySem.W.Frag) (C : Addr) : Bool := (match K.lookup C with
  | some ⟨.type "type", _, .cls cd, sl⟩ => (match cd.mro, sl.toList with
    | .ref C' :: bm, [_, _, _, _, some (.builtin n), _] => C' == C && (n == "ValueError.__new__" && (!cd.hasDel && (cd.hasDict && PySem.HandSPX.refsVE bm)))
    | _, _ => false)
  | _ => false) && (He.eqO (PySem.W.findIn K (.ref C) "__setattr__") (some (some (.builtin "object.__setattr__"))) && (decide (PySem.W.subIn K (.ref C) (.type "BaseException") = some true) && (decide (PySem.W.typeIn K (.ref C) = some (.type "type")) && PySem.W.keepIn K (.ref C))))
theorem oexB_ok {K : PySem.W.Frag} {C : Addr} (h : oexB K C = true) : OexC K C := by
  obtain ⟨c1, h⟩ := He.ba h
  obtain ⟨c2, h⟩ := He.ba h
  obtain ⟨c3, h⟩ := He.ba h
  obtain ⟨c4, c5⟩ := He.ba h
  refine ⟨?_, He.eqO_ok c2, of_decide_eq_true c3, of_decide_eq_true c4, c5⟩
  split at c1
  · rename_i dd cd sl ho
    split at c1
    · rename_i C' bm k0 k1 k2 k3 n k5 hm hs
      simp only [Bool.and_eq_true, beq_iff_eq, Bool.not_eq_true'] at c1
      obtain ⟨rfl, rfl, hdel, hdct, hv⟩ := c1
      obtain ⟨nm, bs, mro, ns, qn, hd, sn, sub, ab, col, del⟩ := cd
      dsimp only at hm hdel hdct
      subst hm hdel hdct
      have hsl : sl = #[k0, k1, k2, k3, some (.builtin "ValueError.__new__"), k5] := by
        rw [← hs]
      subst hsl
      exact ⟨_, _, _, _, bm, _, _, _, _, _, _, _, _, _, _, ho, hv⟩
    · cases c1
  · cases c1
/-- an own error's __init__, as it stands in the text -/
structure SupD where
  cls : Str
  fld : Str
  qual : Str
  params : Arguments
  body : List Stmt
  scope : Scope
  file : Str
def fnE (K : PySem.W.Frag) (a : Addr) : He.FnW := match K.lookup a with
  | some ⟨_, _, .func d, _⟩ => some (d.name, d.qualname, d.params, d.body, d.scope, d.globals, [], d.builtins)
  | _ => none
def SupD.val (d : SupD) : He.FnW := some ("__init__", d.qual, d.params, .stmts d.body, d.scope, mainGlobals, [], builtinsNs)
def fileV (file : Str) : Option Value → Bool
  | some (Value.str y _) => decide (y = file)
  | _ => false
theorem fileV_ok {file : Str} {v : Option Value} (h : fileV file v = true) : ∃ tf, v = some (.str file tf) := by
  unfold fileV at h
  split at h
  · have := of_decide_eq_true h
    subst this
    exact ⟨_, rfl⟩
  · cases h
def fileB (K : PySem.W.Frag) (cda : Addr) (file : Str) : Bool := match K.lookup cda with
  | some ⟨_, _, .fields vs, _⟩ => fileV file vs[2]?
  | _ => false
theorem fileB_ok {K : PySem.W.Frag} {cda : Addr} {file : Str} (h : fileB K cda file = true) : ∃ ccl cdd vs ccs tf, K.lookup cda = some ⟨ccl, cdd, .fields vs, ccs⟩ ∧ vs[2]? = some (.str file tf) := by
  unfold fileB at h
  split at h
  · obtain ⟨tf, e⟩ := fileV_ok h
    exact ⟨_, _, _, _, tf, by assumption, e⟩
  · cases h
def supFn (K : PySem.W.Frag) (C : Addr) (qual file : Str) (fd : FuncData) : Bool := (match fd.closure with
    | [(n, cc)] => decide (n = ("__class__" : Str)) && (match K.lookup cc with
      | some ⟨_, _, .cell (some (.ref C')), _⟩ => C' == C
      | _ => false)
    | _ => false) && ((match fd.code with
    | .ref cda => PySem.W.codeIn K (.ref cda) qual && fileB K cda file
    | _ => false) && (match fd.defaults with
    | .none => true
    | _ => false))
theorem supFn_ok {K : PySem.W.Frag} {C : Addr} {qual file : Str} {fd : FuncData} (h : supFn K C qual file fd = true) : ∃ cc cl cld csl cda ccl cdd vs ccs tf, fd.closure = [(("__class__" : Str), cc)] ∧ K.lookup cc = some ⟨cl, cld, .cell (some (.ref C)), csl⟩ ∧ fd.code = .ref cda ∧ PySem.W.codeIn K (.ref cda) qual = true ∧
    K.lookup cda = some ⟨ccl, cdd, .fields vs, ccs⟩ ∧ vs[2]? = some (.str file tf) ∧ fd.defaults = .none := by
  unfold supFn at h
  obtain ⟨s1, h⟩ := He.ba h
  obtain ⟨s2, s3⟩ := He.ba h
  split at s1
  · rename_i n cc e1
    obtain ⟨s4, s5⟩ := He.ba s1
    have s4 := of_decide_eq_true s4
    subst s4
    split at s5
    · rename_i cl cld C' csl lkc
      have s5 := beq_iff_eq.mp s5
      subst s5
      split at s2
      · rename_i cda e2
        obtain ⟨s6, s7⟩ := He.ba s2
        obtain ⟨ccl, cdd, vs, ccs, tf, lkd, hv⟩ := fileB_ok s7
        split at s3
        · rename_i e3
          exact ⟨cc, cl, cld, csl, cda, ccl, cdd, vs, ccs, tf, e1, lkc, e2, s6, lkd, hv, e3⟩
        · cases s3
      · cases s2
    · cases s5
  · cases s1
def SupD.ok (K : PySem.W.Frag) (d : SupD) : Bool := (match K.lookup (ma K (ga K d.cls) "__init__") with
    | some ⟨_, _, .func fd, _⟩ => supFn K (ga K d.cls) d.qual d.file fd
    | _ => false) && (oexB K (ga K d.cls) && (He.eqO (PySem.W.findIn K (.ref (ga K d.cls)) "__init__") (some (some (.ref (ma K (ga K d.cls) "__init__")))) && (decide (PySem.W.typeIn K (.ref (ma K (ga K d.cls) "__init__")) = some (.type "function")) &&
  (decide (PySem.W.mroIn K (ga K d.cls) (.ref (ga K d.cls)) = some true) && (He.eqO (PySem.W.ks_superIn K (ga K d.cls) (ga K d.cls) "__init__") (some (some (.builtin "ValueError.__init__"))) && (decide (PySem.W.subIn K (.ref (ga K d.cls)) (.type "ValueError") = some true) &&
  (He.eqO (PySem.W.nsIn K cStatics "thirdparty.any") (some none) && (He.eqO (PySem.W.findIn K (.ref (ga K d.cls)) d.fld) (some none) && PySem.W.excInitIn K (ga K d.cls) [.type "ValueError", .type "Exception", .type "BaseException", .type "object"] "ValueError.__new__"))))))))
/-- all that a raise asks -/
structure ErrC (P : Program) (K : PySem.W.Frag) (mg : Str → Option Value) (C f : Str) : Prop where
  T : OexC K (ga K C)
  S : SupF P K (ga K C) (ma K (ga K C) "__init__") f
  i : PySem.W.findIn K (.ref (ga K C)) "__init__" = some (some (.ref (ma K (ga K C) "__init__")))
  t : PySem.W.typeIn K (.ref (ma K (ga K C) "__init__")) = some (.type "function")
  s : mg "super" = none
  m : mg C = some (.ref (ga K C))
theorem SupD.errC {P : Program} {K : PySem.W.Frag} {mg : Str → Option Value} {d : SupD} {self : Str} {a1 a2 : Arg} {p0 p1 p2 p3 p4 p5 p6 p7 p8 p9 : Pos} (e : fnE K (ma K (ga K d.cls) "__init__") = d.val) (c : d.ok K = true) (hP : ((P.main.file : Str) == d.file) = true) (hT : (P.main.scope.names.lookup ("super" : Str)).isSome = false) (hs : mg "super" = none) (hm : mg d.cls = some (.ref (ga K d.cls)))
    (hb : d.body = [.Expr (.Call (.Attribute (.Call (.Name "super" p0) [] [] p1) "__init__" p2) [.Name d.fld p3] [] p4) p5, .Assign [.Attribute (.Name self p6) d.fld p7] (.Name d.fld p8) p9])
    (hpo : d.params.posonlyargs = []) (hpa : d.params.args = [a1, a2]) (h1 : a1.arg = self) (h2 : a2.arg = d.fld)
    (bd : ∀ (kV doc pm : Value) (an : Option Addr) (cdv ct : Value) (cc : Addr) (us : List Value), us.length = 2 → bindArgs (PySem.W.ksFn "__init__" d.qual d.params d.body d.scope .none kV doc pm an cdv ct cc) ⟨us, []⟩ = pure ([self, d.fld].zip us))
    (k1 : ∀ n ∈ d.scope.names, n.2 ≠ .cell) (k2 : d.scope.names.lookup self = some .local) (k3 : d.scope.names.lookup d.fld = some .local) (k4 : d.scope.names.lookup ("super" : Str) = some .globalImplicit) (k5 : d.scope.names.lookup ("__class__" : Str) = some .free)
    (k6 : d.scope.isCoroutine = false) (k7 : d.scope.isGenerator = false) (k8 : d.scope.kind = .function) (k9 : self ≠ d.fld) (k10 : (self == ("__debug__" : Str)) = false) (k11 : (d.fld == ("__debug__" : Str)) = false) (k12 : (p2.endLine == p4.line) = true) : ErrC P K mg d.cls d.fld := by
  obtain ⟨c1, c⟩ := He.ba c
  obtain ⟨c2, c⟩ := He.ba c
  obtain ⟨c3, c⟩ := He.ba c
  obtain ⟨c4, c⟩ := He.ba c
  obtain ⟨c5, c⟩ := He.ba c
  obtain ⟨c6, c⟩ := He.ba c
  obtain ⟨c7, c⟩ := He.ba c
  obtain ⟨c8, c⟩ := He.ba c
  obtain ⟨c9, c10⟩ := He.ba c
  have T := oexB_ok c2
  refine ⟨T, ⟨?_, of_decide_eq_true c5, He.eqO_ok c6, of_decide_eq_true c7, He.eqO_ok c8, He.eqO_ok c9, hT, c10⟩, He.eqO_ok c3, of_decide_eq_true c4, hs, hm⟩
  obtain ⟨nm, q, N, bs, bm, sn, sub, ab, col, dd, j0, j1, j2, j3, j5, hC, hbm⟩ := T.cls
  have hcl : ∃ cdC, PySem.W.clsIn K (ga K d.cls) = some cdC := ⟨_, by unfold PySem.W.clsIn; rw [hC]⟩
  obtain ⟨cdC, hcl⟩ := hcl
  cases lk : K.lookup (ma K (ga K d.cls) "__init__") with
  | none => rw [lk] at c1; cases c1
  | some o =>
    obtain ⟨oc, od, dt, osl⟩ := o
    unfold fnE at e
    rw [lk] at c1 e
    cases dt with
    | func fd =>
      obtain ⟨n1, n2, n3, n4, n5, n6, n7, n8, n9, n10, n11, n12, n13, n14, n15⟩ := fd
      have e2 : (some (n1, n2, n3, n4, n5, n6, [], n15) : He.FnW) = some (("__init__" : Str), d.qual, d.params, FuncBody.stmts d.body, d.scope, mainGlobals, [], builtinsNs) := e
      injection e2 with e2
      injection e2 with h1' e2
      injection e2 with h2' e2
      injection e2 with h3' e2
      injection e2 with h4' e2
      injection e2 with h5' e2
      injection e2 with h6' e2
      injection e2 with h7' h8'
      subst h1' h2' h3' h4' h5' h6' h8'
      have c1 : supFn K (ga K d.cls) d.qual d.file _ = true := c1
      obtain ⟨cc, cl, cld, csl, cda, ccl, cdd, vs, ccs, tf, e1, lkc, e2, s6, lkd, hv, e3⟩ := supFn_ok c1
      dsimp only at e1 e2 e3
      subst e1 e2 e3
      rw [hb] at bd
      exact ⟨self, "__init__", d.qual, d.params, a1, a2, p0, p1, p2, p3, p4, p5, p6, p7, p8, p9, d.scope, .none, n9, n10, n11, n12, cda, n14, cc, oc, od, osl, ccl, cdd, vs, ccs, d.file, tf, cl, cld, csl, cdC,
        by rw [hb], s6, hpo, hpa, h1, h2, fun us hl => bd _ _ _ _ _ _ _ us hl, lkd, hv, hP, lkc, hcl, k1, k2, k3, k4, k5, k6, k7, k8, k9, k10, k11, k12⟩
    | _ => cases c1
section
variable {X : Cx} {F : Addr → Prop} {Wx : WX} {a b c e : Expr} {es : List Expr} {pos p p' : Pos} {ia ib ic : IE} {C f x : Str} {fI : Addr}
def sRaise1 (C f : Str) (ia : IE) : IS := fun EI _ st => ia EI st fun w st1 => EI ⟨C, [(f, w)]⟩ st1
def sRaise0 (C : Str) : IS := fun EI _ st => EI ⟨C, []⟩ st
theorem IE.cast {i : IE} {EI : XI} {st : Stt} {R R' : W → Stt → Prop} (h : i EI st R) (e : ∀ w st1, R w st1 ↔ R' w st1) : i EI st R' := by
  have : R = R' := funext fun w => funext fun st1 => propext (e w st1)
  exact this ▸ h
theorem s_raise1 (T : ErrC X.prog X.K X.mg C f) (hr : Room 1 X.A) (tk : Takes X Wx) (ha : PE X e (LE X.K F Wx ia)) (hc : X.calm = true := by rfl) (hg : Gl X C := by rfl)
    (hdb : (C == ("__debug__" : Str)) = false := by decide) (he : starEach [e] X.env = (false, eval e X.env) :: starEach [] X.env := by rfl) (hpl : (backTo pos (starEach [] X.env)).any (·.1) = false := by rfl) :
    PS X (.Raise (some (.Call (.Name C p) [e] [] pos)) none p') (LS X.K F Wx (sRaise1 C f ia)) := by
  refine ps_imp (ps_raise hc tk (pmk_sup T.T T.S T.i T.t T.s hr hg T.m (ia_cons ha ia_nil he) hdb he hpl)) fun D σ H h => ?_
  obtain ⟨st, DI, EI, l, q, u⟩ := h
  refine ⟨st, fun ws st1 => ∃ w, ws = [w] ∧ EI ⟨C, [(f, w)]⟩ st1, EI, l, ?_, u.x, fun ws st1 vs H1 hn q1 l1 s1 r1 => ?_⟩
  · exact IE.cast q fun w st1 => ⟨fun h => ⟨w, rfl, h⟩, fun ⟨w', e, h⟩ => by cases e; exact h⟩
  · obtain ⟨w, rfl, q1⟩ := q1
    cases r1 with
    | cons r rr =>
    cases rr
    refine ⟨_, rfl, fun d hd => ?_⟩
    rename_i v
    have s2 : Step st1 σ H1 st1 σ (upd H1 d (.xd [(f, v)])) := Step.laid l1 hd
    exact u.x _ st1 _ _ _ q1 (l1.laid hd) (s1.trans s2) ⟨rfl, .inr ⟨d, _, rfl, upd_same, l1.fresh hd, .cons (r.mono s2.mv) .nil⟩⟩
end
/-- the error that a suite holds -/
structure Hnd where
  x : Exn
  a : Addr
  d : Option Addr
def Hnd.w (h : Hnd) : W := .exn h.x.C h.x.fs h.a h.d
/-- try: body / except P as n: suite / else: more -/
def sTryE (i : Nat) (cs : List Str) (body : IS) (suite : Hnd → IS) (more : IS) : IS := fun EI D st =>
  body (fun x st1 => x.C ∈ cs ∧ ∀ a d, suite ⟨x, a, d⟩ (fun _ _ => False) { nx := fun st2 => D.nx (st2.put i .none), rt := D.rt, bk := fun st2 => D.bk (st2.put i .none), ct := fun st2 => D.ct (st2.put i .none) } (st1.put i (.val (Hnd.w ⟨x, a, d⟩)))) { D with nx := more EI D } st
theorem RelX.hnd {K : PySem.W.Frag} {Lv : Addr → Prop} {H : Hp} {x : Exn} {cls : Value} {d : Option Addr} {a : Addr} (h : RelX K Lv H x cls d) : RelW K Lv H (Hnd.w ⟨x, a, d⟩) (.ref a) := by
  obtain ⟨_, h⟩ := h
  rcases h with ⟨e1, e2⟩ | ⟨dd, vs, e1, e2, e3, e4⟩
  · obtain ⟨C, fs⟩ := x
    dsimp only at e1
    subst e1 e2
    exact .exn0
  · subst e1
    exact .exn1 e2 e3 e4
/-- what the clause's class catches -/
structure CatF (K : PySem.W.Frag) (cs : List Str) (P : Str) : Prop where
  hit : ∀ C ∈ cs, PySem.W.exmOne K (.ref (ga K C)) (.ref (ga K P)) = some true
def catFB (K : PySem.W.Frag) (cs : List Str) (P : Str) : Bool := cs.all fun C => decide (PySem.W.exmOne K (.ref (ga K C)) (.ref (ga K P)) = some true)
theorem catFB_ok {K : PySem.W.Frag} {cs : List Str} {P : Str} (h : catFB K cs P = true) : CatF K cs P := ⟨fun C hC => of_decide_eq_true (List.all_eq_true.mp h C hC)⟩
section
variable {X : Cx} {F : Addr → Prop} {Wx : WX} {x n : Str} {i : Nat} {body suite more : List Stmt} {b₀ : Stmt} {np pos pos' : Pos} {ib im : IS} {is : Hnd → IS} {cs : List Str}
end
theorem RelW.exnI {K : PySem.W.Frag} {Lv : Addr → Prop} {H : Hp} {C : Str} {fs : List (Str × W)} {a : Addr} {d : Option Addr} {v : V} (h : RelW K Lv H (.exn C fs a d) v) : v = .ref a ∧ ((fs = [] ∧ d = none) ∨ ∃ dd vs, d = some dd ∧ H dd = some (.xd vs) ∧ ¬ Lv dd ∧ RelFs K Lv H fs vs) := by
  cases h with
  | exn0 => exact ⟨rfl, .inl ⟨rfl, rfl⟩⟩
  | exn1 e1 e2 e3 => exact ⟨rfl, .inr ⟨_, _, rfl, e1, e2, e3⟩⟩
structure XfF (K : PySem.W.Frag) (cs : List Str) (f : Str) : Prop where
  at_ : ∀ C ∈ cs, XfC K (ga K C) ∧ PySem.W.findIn K (.ref (ga K C)) f = some none
def xfFB (K : PySem.W.Frag) (cs : List Str) (f : Str) : Bool := cs.all fun C => xfB K (ga K C) && He.eqO (PySem.W.findIn K (.ref (ga K C)) f) (some none)
theorem xfFB_ok {K : PySem.W.Frag} {cs : List Str} {f : Str} (h : xfFB K cs f = true) : XfF K cs f := ⟨fun C hC => by
  obtain ⟨c1, c2⟩ := He.ba (List.all_eq_true.mp h C hC)
  exact ⟨xfB_ok c1, He.eqO_ok c2⟩⟩
structure IsEF (K : PySem.W.Frag) (cs ds : List Str) : Prop where
  at_ : ∀ C ∈ cs, ExcC K (ga K C) ∧ (PySem.W.clsIn K (ga K C)).isSome = true
  is : ∀ C ∈ cs, ∀ D ∈ ds, PySem.W.kitOne K (.ref (ga K C)) (.ref (ga K D)) = some (C == D)
def isEFB (K : PySem.W.Frag) (cs ds : List Str) : Bool := He.eqO (PySem.W.specialIn K (.builtin "object.__class__") "__get__") (some (some (.builtin "getset_descriptor.__get__"))) && (decide (PySem.W.takesIn K (.builtin "object.__class__") = some true) && (cs.all fun C => He.eqO (PySem.W.findIn K (.ref (ga K C)) "__getattribute__") (some (some (.builtin "BaseException.__getattribute__"))) && (He.eqO (PySem.W.findIn K (.ref (ga K C)) "__getattr__") (some none) &&
  (decide (PySem.W.subIn K (.ref (ga K C)) (.type "BaseException") = some true) && (PySem.W.hasDictIn K (ga K C) && (He.eqO (PySem.W.findIn K (.ref (ga K C)) "__class__") (some (some (.builtin "object.__class__"))) && (decide (PySem.W.mroIn K (ga K C) (.type "object") = some true) && ((PySem.W.clsIn K (ga K C)).isSome &&
  ds.all fun D => decide (PySem.W.kitOne K (.ref (ga K C)) (.ref (ga K D)) = some (C == D))))))))))
theorem isEFB_ok {K : PySem.W.Frag} {cs ds : List Str} (h : isEFB K cs ds = true) : IsEF K cs ds := by
  obtain ⟨b1, h⟩ := He.ba h
  obtain ⟨b2, h⟩ := He.ba h
  have key : ∀ C ∈ cs, (ExcC K (ga K C) ∧ (PySem.W.clsIn K (ga K C)).isSome = true) ∧ ∀ D ∈ ds, PySem.W.kitOne K (.ref (ga K C)) (.ref (ga K D)) = some (C == D) := fun C hC => by
    obtain ⟨c1, c⟩ := He.ba (List.all_eq_true.mp h C hC)
    obtain ⟨c2, c⟩ := He.ba c
    obtain ⟨c3, c⟩ := He.ba c
    obtain ⟨c4, c⟩ := He.ba c
    obtain ⟨c5, c⟩ := He.ba c
    obtain ⟨c6, c⟩ := He.ba c
    obtain ⟨c7, c8⟩ := He.ba c
    exact ⟨⟨⟨He.eqO_ok c1, He.eqO_ok c2, of_decide_eq_true c3, c4, He.eqO_ok c5, He.eqO_ok b1, of_decide_eq_true b2, of_decide_eq_true c6⟩, c7⟩, fun D hD => of_decide_eq_true (List.all_eq_true.mp c8 D hD)⟩
  exact ⟨fun C hC => (key C hC).1, fun C hC => (key C hC).2⟩
section
variable {X : Cx} {F : Addr → Prop} {Wx : WX} {e : Expr} {es : List Expr} {pos p : Pos} {ia : IE} {i : IA} {n : Nat} {f x : Str} {cs ds : List Str} {h : Hnd} {oe : Obj} {pn : List (Addr × Obj)}
def iXf (cs : List Str) (f : Str) (h : Hnd) (ia : IE) : IE := fun EI st Q => ia EI st fun w st1 => match w with
  | .exn C fs a d => C = h.x.C ∧ a = h.a ∧ d = h.d ∧ C ∈ cs ∧ (match fs.lookup f with
    | some w => Q w st1
    | none => False)
  | _ => False
theorem i_xf (T : XfF X.K cs f) (hz : Zc (.ref (ga X.K h.x.C)) h.d oe) (hf : ∃ vs, oe.data = .fields vs) (he : PE (X.suite h.a ((h.a, oe) :: pn)) e (LE X.K F Wx ia)) (hb : attributeBase e f X.env (eval e X.env) = eval e X.env := by rfl) :
    PE (X.suite h.a ((h.a, oe) :: pn)) (.Attribute e f pos) (LE X.K F Wx (iXf cs f h ia)) := by
  refine ⟨fun pins s σ H Q I z => ?_⟩
  obtain ⟨st, QI, EI, l, q, ux, k⟩ := z
  refine attr_of hb (thn (he.run pins s σ H (fun v H1 => ∃ w st1, (match w with
      | .exn C fs a d => C = h.x.C ∧ a = h.a ∧ d = h.d ∧ C ∈ cs ∧ (match fs.lookup f with
        | some w => QI w st1
        | none => False)
      | _ => False) ∧ Lk X.K F st1 σ H1 ∧ Step st σ H st1 σ H1 ∧ RelW X.K (Live F st1 σ) H1 w v) I ⟨st, _, EI, l, q, ux, fun w st1 v H1 q1 l1 s1 r1 => ⟨w, st1, q1, l1, s1, r1⟩⟩) fun u s1 hh => ?_)
  obtain ⟨v, H1, I1, rv, w, st1, q1, l1, s1', r1⟩ := hh
  split at q1
  · rename_i C fs a d
    obtain ⟨rfl, rfl, rfl, hC, q1⟩ := q1
    obtain ⟨T1, T2⟩ := T.at_ _ hC
    split at q1
    · rename_i w el
      obtain ⟨ev, r1⟩ := r1.exnI
      rcases r1 with ⟨e0, _⟩ | ⟨dd, vs, ed, ea, nl, rf⟩
      · rw [e0] at el; cases el
      · subst ev
        obtain rfl : u = Value.ref h.a := rv
        obtain ⟨z, ez, rz⟩ := rf.get el
        obtain ⟨ha, _⟩ := I1.pin (h.a, oe) (List.mem_append_left _ List.mem_cons_self)
        obtain ⟨vs', hd⟩ := hf
        have hx : ObjOk X.prog X.w H1 s1.heap dd (.xd vs) := I1.hok dd _ ea
        obtain ⟨mA, hns, hr⟩ := hx
        obtain ⟨od, ho, hl⟩ := lookIn_ns hns
        obtain ⟨u, hu, ru⟩ := L2.RelO.some_of (v := z) (o := mA f) (by rw [← ez]; exact hr f)
        have J : PySem.W.InstAt s1.heap h.a oe (ga X.K h.x.C) (some od) := ⟨ha, hz.1, by unfold PySem.W.notCls; rw [hd] <;> rfl, by rw [hz.2, ed]; exact ho⟩
        exact HandSPX.exc_get I1.kIn J T1.ga T1.gg T1.exC (PySem.W.findObj_own T1.hdC T2 rfl (by rw [hl, hu])) (handed_of ru) ⟨z, H1, I1.tok _, ru, k w st1 z H1 q1 l1 s1' rz⟩
    · exact q1.elim
  · exact q1.elim
def iIsE (cs ds : List Str) (h : Hnd) (i : IA) : IE := fun EI st Q => i EI st fun ws st1 => match ws with
  | [.exn C _ a d, .glo D] => C = h.x.C ∧ a = h.a ∧ d = h.d ∧ C ∈ cs ∧ D ∈ ds ∧ Q (.bl (C == D)) st1
  | _ => False
def rIsE2 (K : PySem.W.Frag) (D a : Addr) (od : Option Addr) : List V → Hp → VK → Prop := fun xs H Q => (∀ d, od = some d → ∃ fs, H d = some (.xd fs)) ∧ rIsE K D a xs H Q
theorem call_isE2 {a D : Addr} {od : Option Addr} (C : ExcC X.K D) (hcl : (PySem.W.clsIn X.K D).isSome = true) (hz : Zc (.ref D) od oe) (hf : ∃ vs, oe.data = .fields vs) : CallR (X.suite a ((a, oe) :: pn)) (.builtin "isinstance") (rIsE2 X.K D a od) := by
  intro pins s σ H xs us Q I r z
  obtain ⟨zd, c, cv, b, rfl, hcv, e, q⟩ := z
  cases r with
  | cons rx rr =>
    cases rr with
    | cons rt rr =>
      cases rr
      cases rx
      have ec := hcv _ rt
      subst ec
      obtain ⟨hget, _⟩ := I.pin (a, oe) (List.mem_append.mpr (.inl List.mem_cons_self))
      obtain ⟨vs, hv⟩ := hf
      have J : ∃ dd, PySem.W.InstAt s.heap a oe D dd := by
        cases od with
        | none =>
          obtain ⟨oc, od, oda, osl⟩ := oe
          obtain ⟨h1, h2⟩ := hz
          dsimp only at h1 h2 hv
          subst h1 h2 hv
          exact ⟨none, hget, rfl, rfl, trivial⟩
        | some d =>
          obtain ⟨fs, ed⟩ := zd d rfl
          have hx : ObjOk X.prog X.w H s.heap d (.xd fs) := I.hok d _ ed
          obtain ⟨mA, hns, hr⟩ := hx
          obtain ⟨o, ho, hl⟩ := lookIn_ns hns
          exact ⟨some o, hget, hz.1, by unfold PySem.W.notCls; rw [hv] <;> rfl, by rw [hz.2]; exact ho⟩
      obtain ⟨dd, J⟩ := J
      exact PySem.W.kia_one (PySem.W.kitx_exc hcl C.hg C.hk C.hs C.ha C.hn C.ht C.hm) I.kIn J e (fun z => nomatch z) fun tk => ⟨.bl b, H, I.kept (t' := tk) fun _ _ z => z, rfl, q⟩
theorem i_isE (T : IsEF X.K cs ds) (hz : Zc (.ref (ga X.K h.x.C)) h.d oe) (hf : ∃ vs, oe.data = .fields vs) (hm : X.mg "isinstance" = none) (ha : PA (X.suite h.a ((h.a, oe) :: pn)) (e :: es) (LA X.K F Wx n i)) (hg : Gl X "isinstance" := by rfl) (he : starEach (e :: es) X.env = (false, eval e X.env) :: starEach es X.env := by rfl) (hpl : (backTo pos (starEach es X.env)).any (·.1) = false := by rfl) :
    PE (X.suite h.a ((h.a, oe) :: pn)) (.Call (.Name "isinstance" p) (e :: es) [] pos) (LE X.K F Wx (iIsE cs ds h i)) := by
  refine ⟨fun pins s σ H Q I z => ?_⟩
  by_cases hC : h.x.C ∈ cs
  · obtain ⟨C1, C2⟩ := T.at_ _ hC
    refine (pe_callB (X := X.suite h.a ((h.a, oe) :: pn)) (call_isE2 C1 C2 hz hf) hg hm boot_isi' ha (by decide) (by decide) he hpl).run pins s σ H Q I ?_
    obtain ⟨st, QI, EI, l, q, ux, k⟩ := z
    refine ⟨st, _, EI, l, q, ux, fun ws st1 vs H1 hn q1 l1 s1 r1 => ?_⟩
    split at q1
    · rename_i C fs a d D
      obtain ⟨rfl, rfl, rfl, _, hD, q1⟩ := q1
      cases r1 with
      | cons ra r1 =>
      cases r1 with
      | cons rc r1 =>
      obtain ⟨ev, rx⟩ := ra.exnI
      subst ev
      cases r1
      cases rc
      refine ⟨fun dd e => ?_, V.ref (ga X.K D), .ref (ga X.K D), _, rfl, fun u e => e, T.is _ hC _ hD, k _ _ _ H1 q1 l1 s1 (.bl _)⟩
      rcases rx with ⟨_, e0⟩ | ⟨d', vs', e0, e1, _, _⟩
      · exact absurd (e0.symm.trans e) (by simp)
      · have e5 := Option.some.inj (e0.symm.trans e)
        exact ⟨_, e5 ▸ e1⟩
    · exact q1.elim
  · obtain ⟨st, QI, EI, l, q, ux, k⟩ := z
    refine thn ((pe_callB (X := X.suite h.a ((h.a, oe) :: pn)) (r := fun _ _ _ => False) (fun _ _ _ _ _ _ _ _ _ z => z.elim) hg hm boot_isi' ha (by decide) (by decide) he hpl).run pins s σ H Q I ⟨st, _, EI, l, q, ux, fun ws st1 vs H1 hn q1 l1 s1 r1 => ?_⟩) fun u s1 hh => hh
    split at q1
    · rename_i C fs a d D
      exact (hC (q1.1 ▸ q1.2.2.2.1)).elim
    · exact q1.elim
end
end Sh
namespace Sh
open PySem L2
open PyProof.Rows hiding St
open He (ga ma)
def closO (o : Obj) : List Addr := match o.data with
  | .func fd => fd.closure.map (·.2)
  | _ => []
/-- the addresses that are new, forced; seen ones stand in a number's bits -/
def addF {α : Type} : List Addr → Nat → List Addr → (Nat → List Addr → α) → α
  | [], seen, new, k => k seen new
  | a :: as, seen, new, k => HandSHeadRun.frNat a fun a => match Nat.land (Nat.shiftRight seen a) 1 with
    | 0 => HandSHeadRun.frNat (Nat.lor seen (Nat.shiftLeft 1 a)) fun seen => addF as seen (a :: new) k
    | _ + 1 => addF as seen new k
def expF {α : Type} (g : Addr → Option Obj) : List Addr → Nat → List Addr → (Nat → List Addr → α) → α
  | [], seen, new, k => k seen new
  | a :: as, seen, new, k => match g a with
    | some o => addF (He.refsD o) seen new fun seen new => expF g as seen new k
    | none => expF g as seen new k
/-- what is reached in n steps; only what is new goes on -/
def asF (g : Addr → Option Obj) : Nat → Nat → List Addr → List Addr → List Addr
  | 0, _, all, _ => all
  | n + 1, seen, all, fr => expF g fr seen [] fun seen new => asF g n seen (new ++ all) new
def asN (g : Addr → Option Obj) (n : Nat) : List Addr := HandSHeadRun.frNat mainGlobals fun a => asF g n (Nat.shiftLeft 1 a) [a] [a]
def asS (g : Addr → Option Obj) (n : Nat) : List Addr := sysModules :: cStatics :: asN g n ++ (asN g n).flatMap fun a => match g a with
  | some o => closO o
  | none => []
abbrev AlS : Type := He.AlX × (Bool × List He.FnW) × (Bool × List He.FnW)
def obsSup (sp : List SupD) (K : PySem.W.Frag) : Bool × List He.FnW := (sp.all fun d => d.ok K, sp.map fun d => fnE K (ma K (ga K d.cls) "__init__"))
def valSup (sp : List SupD) : Bool × List He.FnW := (true, sp.map SupD.val)
def obsS (n : Nat) (fa : List He.Fa) (fn : List He.DefD) (ts : List He.Tab) (tf : List He.Defn) (ex : PySem.W.Frag → Bool) (pr : List PrD) (sp : List SupD) (g : Addr → Option Obj) : AlS :=
  ((He.obsT fa fn ts (He.frT g (asS g n)), ex (He.frT g (asS g n)) && He.tabsB g tf (He.frT g (asS g n))), obsPr pr (He.frT g (asS g n)), obsSup sp (He.frT g (asS g n)))
structure SaysS (fa : List He.Fa) (fn : List He.DefD) (ts : List He.Tab) (tf : List He.Defn) (ex : PySem.W.Frag → Bool) (pr : List PrD) (sp : List SupD) (w : World) (h : Heap) (K : PySem.W.Frag) : Prop where
  x : He.SaysX fa fn ts tf ex w h K
  p : obsPr pr K = valPr pr
  s : obsSup sp K = valSup sp
theorem saysX_at {as : List Addr} {fa : List He.Fa} {fn : List He.DefD} {ts : List He.Tab} {tf : List He.Defn} {ex : PySem.W.Frag → Bool} {w : World} {h : Heap} (e1 : He.obsT fa fn ts (He.frT h.get? as) = He.valT fn ts w) (e2 : (ex (He.frT h.get? as) && He.tabsB h.get? tf (He.frT h.get? as)) = true) :
    He.SaysX fa fn ts tf ex w h (He.frT h.get? as) := by
  obtain ⟨h1, h2⟩ := He.ba e2
  have all : ∀ p ∈ tf, PySem.W.codeHdIn (He.frT h.get? as) (He.cT (He.frT h.get? as) p).1 (He.cT (He.frT h.get? as) p).2 = true ∧ ∃ o, h.get? (He.cT (He.frT h.get? as) p).2 = some o ∧ He.emptyTab o = true := fun p hp => by
    obtain ⟨h3, h4⟩ := He.ba (List.all_eq_true.mp h2 p hp)
    refine ⟨h3, ?_⟩
    split at h4
    · exact ⟨_, by assumption, h4⟩
    · cases h4
  refine ⟨e1, h1, fun p hp => (all p hp).1, fun p hp => ?_, fun p hp => ?_⟩
  · obtain ⟨_, o, q1, q2⟩ := all p hp
    exact He.frT_none q1 q2
  · obtain ⟨_, o, q1, q2⟩ := all p hp
    rw [q1, He.emptyTab_eq q2]
def hookS (n : Nat) (fa : List He.Fa) (fn : List He.DefD) (ts : List He.Tab) (tf : List He.Defn) (ex : PySem.W.Frag → Bool) (pr : List PrD) (sp : List SupD) : PySem.W.Hook where
  α := AlS
  obs := fun s => obsS n fa fn ts tf ex pr sp s.heap.get?
  val := fun w => (He.valX fn ts w, valPr pr, valSup sp)
  says := fun w h => ∃ K : PySem.W.Frag, K.In h ∧ SaysS fa fn ts tf ex pr sp w h K
  of := fun w s e => ⟨He.frT s.heap.get? (asS s.heap.get? n), He.frT_in, saysX_at (congrArg (fun z : AlS => z.1.1) e) (congrArg (fun z : AlS => z.1.2) e), congrArg (fun z : AlS => z.2.1) e, congrArg (fun z : AlS => z.2.2) e⟩
  keeps := fun _ _ _ ⟨K, hK, c⟩ k => ⟨K, PySem.W.Frag.In.keeps hK k, ⟨c.x.t, c.x.more, c.x.hd, c.x.out, fun p hp => k _ _ (c.x.empty p hp)⟩, c.p, c.s⟩
theorem obsS_eq {n : Nat} {fa : List He.Fa} {fn : List He.DefD} {ts : List He.Tab} {tf : List He.Defn} {ex : PySem.W.Frag → Bool} {pr : List PrD} {sp : List SupD} {g : Addr → Option Obj} {s : Shared} (h : ∀ a, g a = s.heap.get? a) : obsS n fa fn ts tf ex pr sp g = (hookS n fa fn ts tf ex pr sp).obs s := by
  have e : g = s.heap.get? := funext h
  rw [e] <;> rfl
theorem SaysS.pr {fa : List He.Fa} {fn : List He.DefD} {ts : List He.Tab} {tf : List He.Defn} {ex : PySem.W.Frag → Bool} {pr : List PrD} {sp : List SupD} {w : World} {h : Heap} {K : PySem.W.Frag} (c : SaysS fa fn ts tf ex pr sp w h K) (i : Nat) {d : PrD} (hd : pr[i]? = some d := by rfl) :
    PropOf K (ga K d.cls) d.nm (prA K d.cls d.nm) (gtA K d.cls d.nm) ∧ ∃ fd, FunD K d.nm d.qual d.params d.body d.scope [] [] (gtA K d.cls d.nm) fd := by
  have c2 : (pr.all fun d => d.ok K) = true := congrArg (fun z : Bool × List He.FnW => z.1) c.p
  have e : pr.map (fun d => fnA K (gtA K d.cls d.nm)) = pr.map PrD.val := congrArg (fun z : Bool × List He.FnW => z.2) c.p
  have e2 : (pr.map fun d => fnA K (gtA K d.cls d.nm))[i]? = (pr.map PrD.val)[i]? := by rw [e]
  rw [List.getElem?_map, List.getElem?_map, hd] at e2
  exact PrD.funD (Option.some.inj e2) (List.all_eq_true.mp c2 d (List.mem_of_getElem? hd))
theorem SaysS.sup {fa : List He.Fa} {fn : List He.DefD} {ts : List He.Tab} {tf : List He.Defn} {ex : PySem.W.Frag → Bool} {pr : List PrD} {sp : List SupD} {w : World} {h : Heap} {K : PySem.W.Frag} (c : SaysS fa fn ts tf ex pr sp w h K) (i : Nat) {d : SupD} (hd : sp[i]? = some d := by rfl) :
    fnE K (ma K (ga K d.cls) "__init__") = d.val ∧ d.ok K = true := by
  have c2 : (sp.all fun d => d.ok K) = true := congrArg (fun z : Bool × List He.FnW => z.1) c.s
  have e : sp.map (fun d => fnE K (ma K (ga K d.cls) "__init__")) = sp.map SupD.val := congrArg (fun z : Bool × List He.FnW => z.2) c.s
  have e2 : (sp.map fun d => fnE K (ma K (ga K d.cls) "__init__"))[i]? = (sp.map SupD.val)[i]? := by rw [e]
  rw [List.getElem?_map, List.getElem?_map, hd] at e2
  exact ⟨Option.some.inj e2, List.all_eq_true.mp c2 d (List.mem_of_getElem? hd)⟩
end Sh
namespace Sh
open PySem L2
open PyProof.Rows hiding St
open He (ga ma)
theorem body_start {K : PySem.W.Frag} {N : List Str} {n : Nat} {ib : IS} {vs : List V} {H : Hp} {Q : VK} {E : XK} (h : spI K n (bodyI N.length ib) vs H Q E) : ∃ F, LS K F (fun cls d _ H => E cls d H) ib { nx := fun _ H' => Q .non H', rt := Q } (L2.start N vs) H := by
  obtain ⟨F, S, ws, QI, EI, l, r, e, hs, kr, kx⟩ := h
  have hlen : ws.length = vs.length := r.length
  have nOw : ∀ a, ¬ Ow (start0 N.length ws) (L2.start N vs) a := fun a ⟨i, o, e1, _⟩ => start_own e1
  have lv : ∀ a, Live F ⟨start0 N.length ws, S⟩ (L2.start N vs) a → Live F ⟨[], S⟩ [] a := fun a z => z.imp (fun z => z.elim .inl fun z => (nOw a z).elim) id
  have lk : Lk K F ⟨start0 N.length ws, S⟩ (L2.start N vs) H := by
    refine ⟨?_, fun i y q => ?_, fun i o q => (start_own q).elim, fun i j o o' a q => (start_own q).elim, fun a o q => (l.sto a o q).move (fun _ z => z) (mv_same lv), l.ftr, l.fdis⟩
    · simp [start0, L2.start, hlen]
    · have q2 : (ws.map Slot.val ++ List.replicate (N.length - ws.length) .none)[i]? = some (.val y) := q
      rw [hlen] at q2
      obtain ⟨v, e1, r1⟩ := start_rel r q2
      exact ⟨v, e1, r1.mono (mv_same lv)⟩
  have s0 : Step ⟨[], S⟩ [] H ⟨start0 N.length ws, S⟩ (L2.start N vs) H := ⟨fun _ _ e _ => e, fun a z => .inl (z.elim .inl fun z => (nOw a z).elim)⟩
  refine ⟨F, ⟨start0 N.length ws, S⟩, _, _, lk, hs, ⟨fun x st' σ' cls d H' q l' s' r' => ?_, fun st' σ' H' q l' s' => ?_, fun _ _ _ q => q.elim, fun _ _ _ q => q.elim, fun r' S' v H' q h' => kr r' S' v H' q (h'.step s0)⟩⟩
  all_goals
    have nx : ∀ a, Live F ⟨[], st'.S⟩ [] a → Live F st' σ' a := fun a z => z.imp (fun z => z.elim .inl fun z => (ow_nil z).elim) id
    have l3 : Lk K F ⟨[], st'.S⟩ [] H' := ⟨rfl, fun i w e => by simp at e, fun i o e => by simp at e, fun i j o o' a e => by simp at e, fun a o e => (l'.sto a o e).move (fun _ q => q) (mv_same nx), l'.ftr, l'.fdis⟩
    have s3 : Step ⟨[], S⟩ [] H ⟨[], st'.S⟩ [] H' := (s0.trans s').trans ⟨fun _ _ e _ => e, fun a z => .inl (z.elim .inl fun z => (ow_nil z).elim)⟩
  · refine kx x st'.S cls d H' q l3 s3 ?_
    obtain ⟨e1, z⟩ := r'
    refine ⟨e1, z.imp id ?_⟩
    rintro ⟨a, vs', e2, e3, e4, e5⟩
    exact ⟨a, vs', e2, e3, fun z => e4 (nx a z), e5.mono (mv_same nx)⟩
  · exact kr (.val .non) st'.S .non H' q ⟨s3, l3, .non⟩
structure FnHG (P : Program) (w : World) (K : PySem.W.Frag) (mg : Str → Option Value) (base : Heap) (k : Nat) (f : Addr) (fd : FuncData) (ps : List Str) (sp : Sp) : Prop where
  len : ∀ {vs H Q E}, sp vs H Q E → vs.length = ps.length
  go : ∀ {A : Around} {outer : List Env} {s : Shared} {H : Hp} {args : Args} {us : List Value} {vs : List V} {Q : VK} {E : XK} (p : Addr × Obj), L2H.RoomH k A → A.guards = some [] → L2H.PinOk outer H s p → Env0 P w K mg base A outer s H →
    BindsTo s fd args (ps.zip us) → Vals vs us → sp vs H Q E → codeAny (model P w) A (.call (.ref f) args) (CR (L2.CX P w) outer P w H s Q E) s
section
variable {P : Program} {w : World} {K : PySem.W.Frag} {mg : Str → Option Value} {base : Heap} {x qual : Str} {params : Arguments} {body : List Stmt} {scope : Scope} {f : Addr} {fd : FuncData}
end
structure CalH (P : Program) (w : World) (K : PySem.W.Frag) (mg : Str → Option Value) (base : Heap) (x : Str) (k n : Nat) (spec : ISp) : Prop where
  ex : ∃ f fd ps, FnHG P w K mg base k f fd ps (spI K n spec) ∧ mg x = some (.ref f) ∧ PySem.W.keepIn K (.ref f) = true ∧ Binds K fd ps []
theorem CalH.spec {P : Program} {w : World} {K : PySem.W.Frag} {mg : Str → Option Value} {base : Heap} {x : Str} {k n : Nat} {sp sp' : ISp} (C : CalH P w K mg base x k n sp) (h : ∀ ws S Q E, sp' ws S Q E → sp ws S Q E) : CalH P w K mg base x k n sp' := by
  obtain ⟨f, fd, ps, G, r⟩ := C.ex
  exact ⟨f, fd, ps, ⟨fun q => G.len (spI.imp h q), fun p a b c d e v q => G.go p a b c d e v (spI.imp h q)⟩, r⟩
theorem RoomH.units {k : Nat} {A : Around} (r : L2H.RoomH k A) : A.units + 64 < cLine := by have := r.un; omega
section
variable {X : Cx} {F : Addr → Prop} {Wx : WX} {e : Expr} {es : List Expr} {pos p : Pos} {k' k n : Nat} {spec : ISp} {x : Str} {i : IA} {h : Hnd} {oe : Obj} {pn : List (Addr × Obj)}
end
end Sh
namespace Sh
open PySem L2 LamX
open PyProof.Rows hiding St
open He (ga ma)
/-- what the heap is behind it -/
def LamH (H : Hp) (P : Addr) (q : Str) (c' : Addr) (H1 : Hp) : Prop :=
  (H1 = H ∧ H c' = some (CodeO c' q)) ∨ ∃ (ps more : Array Value) (l : Int) (m : Int), H c' = none ∧ H P = some (.tbl ps) ∧ TriplesOk (ps ++ more).toList ∧ H1 = upd (upd H P (.tbl (ps ++ more))) c' (CodeO c' q) ∧
    ∀ (pos : Pos) (cv : Value), codeAmong pos (ps ++ more).toList = some cv → codeAmong pos ps.toList = some cv ∨ cv = .ref c'
section
variable {X : Cx} {pins : List (Addr × Obj)} {σ : L2.St} {H : Hp} {s : Shared}
theorem lam_new {P c : Addr} {q : Str} {ps : Array Value} {params : Arguments} {body : Expr} {scope : Scope} {pos : Pos} {E Q : Value → Shared → Prop} (J : Inv X pins σ H s) (tb : TabB X.base X.mg c P) (ec : X.env.code = .ref c) (eq : X.env.qual ++ "<lambda>" = q)
    (tP : H P = some (.tbl ps)) (t3 : TriplesOk ps.toList) (tc : ∀ (pos : Pos) (cv : Value), codeAmong pos ps.toList = some cv → ∃ c, cv = .ref c ∧ H c = some (CodeO c q)) (ed : defaultsOf params X.env = ([], [])) (ef : ∀ y ∈ scope.names, y.2 = .free → ∃ c, X.env.cells.lookup y.1 = some c)
    (go : ∀ (f c' : Addr) (pm ctv : Value) (H1 : Hp) (s' : Shared), Inv X pins σ H1 s' → LamH H P q c' H1 → H1 c' = some (CodeO c' q) →
      s'.heap.get? f = some (PySem.W.kla_obj "<lambda>" (X.env.qual ++ "<lambda>") params body scope (cloFrom X.env.cells scope.names []) pm c' ctv) → H1 f = none → f ∉ frs X.stack → Q (.ref f) s') :
    wpAny (model X.prog X.w) X.A (eval (.Lambda params body scope pos) X.env) Q E s := by
  subst eq
  refine PySem.W.kla_eval ed ?_
  have oP : s.heap.get? P = some { cls := .none, data := .fields ps } := J.hok P _ tP
  have far : ∀ f : Addr, s.heap.objs.size ≤ f → f ∉ frs X.stack := fun f hf z => by
    rcases List.mem_cons.mp (J.stkSub _ z) with e | e
    · exact absurd J.lt (by rw [← e]; exact Nat.not_lt.mpr hf)
    · exact J.nofs hf e
  cases found : codeAmong pos ps.toList with
  | some cv =>
    obtain ⟨c', e, co⟩ := tc pos cv found
    subst e
    refine PySem.W.kla_makeFunctionHit (closure_ok ef) J.ok.glob (J.mod.glob.keeps J.bk) ec (tb.code.keeps J.bk) oP t3 found (tb.bm.keeps J.bk) fun ctv h' tk kp sz => ?_
    exact go h'.objs.size c' ((X.mg "__name__").getD .none) ctv H _ (J.kept fun b o e => Heap.get?_push_of_some _ (kp b o e)) (.inl ⟨rfl, co⟩) co (Heap.get?_push_size _ rfl) (J.hok.fresh sz) (far _ sz)
  | none =>
    refine PySem.W.kla_makeFunction (closure_ok ef) J.ok.glob (J.mod.glob.keeps J.bk) ec (tb.code.keeps J.bk) oP t3 found tb.gP (tb.bm.keeps J.bk) fun c' ctv h' tk kp ge lt rec tab => ?_
    obtain ⟨c2, oc, vs, t, e2, go1, go2, go3⟩ := rec
    cases e2
    have szs : s.heap.objs.size ≤ h'.objs.size := Nat.le_trans ge (Nat.le_of_lt lt)
    have nc : H c' = none := J.hok.fresh ge
    have J1 := inv_table (t' := tk) (more := #[rawInt pos.line, rawInt pos.col, .ref c']) (h' := h'.push (PySem.W.kla_obj "<lambda>" (X.env.qual ++ "<lambda>") params body scope (cloFrom X.env.cells scope.names []) ((X.mg "__name__").getD .none) c' ctv)) J tP
      (fun b o hb e => Heap.get?_push_of_some _ (kp b o hb e)) (Heap.get?_push_of_some _ tab) ge ⟨oc, vs, t, Heap.get?_push_of_some _ go1, go2, go3⟩
    have el : (ps ++ #[rawInt pos.line, rawInt pos.col, .ref c']).toList = ps.toList ++ [rawInt pos.line, rawInt pos.col, .ref c'] := by simp
    refine go h'.objs.size c' ((X.mg "__name__").getD .none) ctv _ _ J1 (.inr ⟨ps, #[rawInt pos.line, rawInt pos.col, .ref c'], 0, 0, nc, tP, by rw [el]; exact PySem.TriplesOk_snoc _ _ _ _ t3, rfl, fun p' cv hcv => ?_⟩) upd_same (Heap.get?_push_size _ rfl) ?_ (far _ szs)
    · rw [el] at hcv
      exact among_app _ t3 hcv
    · rw [upd_ne (Nat.ne_of_gt lt), upd_ne (Nat.ne_of_gt (Nat.lt_of_lt_of_le (Heap.lt_size oP) szs))]
      exact J.hok.fresh szs
end
/-- the state is as it was -/
theorem Lk.tab {K : PySem.W.Frag} {F : Addr → Prop} {st : Stt} {σ : L2.St} {H H1 : Hp} {P c' : Addr} {d : Str} (l : Lk K F st σ H) (eS : st.S P = some (.tbl P d)) (h : LamH H P (lamN d) c' H1) : Lk K F st σ H1 ∧ Step st σ H st σ H1 := by
  rcases h with ⟨e, _⟩ | ⟨ps, more, _, _, nc, hP, t3, e, am⟩
  · rw [e]; exact ⟨l, .refl⟩
  · have nPc : P ≠ c' := fun z => by rw [z, nc] at hP; cases hP
    have at_ : ∀ b u, H b = some u → b ≠ P → H1 b = some u := fun b u q n => by
      rw [e, upd_ne (fun z => by rw [z, nc] at q; cases q), upd_ne n]
      exact q
    have wP : Wr st σ P := .inl (by rw [eS]; exact fun z => nomatch z)
    have s : Step st σ H st σ H1 := ⟨fun a u q n => at_ a u q fun z => n (z ▸ wP), fun a w => .inl w⟩
    refine ⟨⟨l.len, fun i w q => ?_, fun i o q => ?_, l.inj, fun a o q => ?_, fun a q => ?_, l.fdis⟩, s⟩
    · obtain ⟨v, e1, r⟩ := l.val i w q
      exact ⟨v, e1, r.mono s.mv⟩
    · obtain ⟨a, e1, r, n1, n2⟩ := l.own i o q
      refine ⟨a, e1, r.move (fun u z => at_ a u z fun y => ?_) s.mv, n1, n2⟩
      rw [y, eS] at n1
      cases n1
    · by_cases y : a = P
      · subst y
        rw [eS] at q
        cases q
        obtain ⟨_, e1, ps', q1, _, q3⟩ := l.sto _ _ eS
        rw [hP] at q1
        cases q1
        refine ⟨rfl, e1, ps ++ more, by rw [e, upd_ne nPc, upd_same], t3, fun pos cv hc => ?_⟩
        rcases am pos cv hc with z | z
        · obtain ⟨c, e2, e3, e4⟩ := q3 pos cv z
          exact ⟨c, e2, (s.mv _ _ e3 e4).1, e4⟩
        · exact ⟨c', z, by rw [e, upd_same], l.fresh nc⟩
      · exact (l.sto a o q).move (fun u z => at_ a u z y) s.mv
    · obtain ⟨u, z⟩ := l.ftr a q
      refine ⟨u, at_ a u z fun y => ?_⟩
      have := l.fdis a q
      rw [y, eS] at this
      cases this
/-- f() from a frame on top of outer -/
structure ActOk (P : Program) (w : World) (K : PySem.W.Frag) (mg : Str → Option Value) (base : Heap) (k : Nat) (outer : List Env) (H : Hp) (s : Shared) (f : Addr) (F : Addr → Prop) (σ : L2.St) (il : IE) : Prop where
  at_ : ∀ s1 : Shared, Un (frs outer) [] H H s.heap s1.heap → PySem.W.FnAt f s1.heap
  run : ∀ {A : Around} {env : Env} {s1 : Shared} {Q : VK} {E : XK}, Room (k + 1) A → A.guards = some [] → Env0 P w K mg base A (env :: outer) s1 H → Un (frs outer) [] H H s.heap s1.heap → LE K F (fun cls d _ H => E cls d H) il σ H Q →
    codeAny (model P w) A (.call (.ref f) ⟨[], []⟩) (CR (L2.CX P w) (env :: outer) P w H s1 Q E) s1
section
variable {X : Cx} {pins : List (Addr × Obj)} {σ : L2.St} {H : Hp} {s : Shared} {F : Addr → Prop} {il : IE}
theorem act_of {f c' : Addr} {q : Str} {k : Nat} {pm ctv : Value} {params : Arguments} {body : Expr} {scope : Scope} (J : Inv X pins σ H s) (L : LamS X.env.scope scope)
    (at_ : s.heap.get? f = some (PySem.W.kla_obj "<lambda>" q params body scope (cloFrom X.env.cells scope.names []) pm c' ctv)) (eq : X.env.qual ++ "<lambda>" = q) (nf : H f = none) (nr : f ∉ frs X.stack) (co : H c' = some (CodeO c' q))
    (bd : bindArgs (PySem.W.kla_fn "<lambda>" q params body scope (cloFrom X.env.cells scope.names []) pm (.ref c') ctv) ⟨[], []⟩ = pure [])
    (hb : ∀ (A : Around) (outer : List Env) (s1 : Shared) (H1 : Hp) (E : XK), Room k (A.deeper (lamEnv X scope s1.heap.objs.size f c')) → A.guards = some [] → PE (lamCx X A outer s1 H1 E scope f c') body (LE X.K F (fun cls d _ H => E cls d H) il)) :
    ActOk X.prog X.w X.K X.mg X.base k X.stack H s f F σ il := by
  subst eq
  have stays : ∀ s1 : Shared, Un (frs X.stack) [] H H s.heap s1.heap → s1.heap.get? f = some (PySem.W.kla_obj "<lambda>" (X.env.qual ++ "<lambda>") params body scope (cloFrom X.env.cells scope.names []) pm c' ctv) := fun s1 un => un.keep f _ at_ nf nr fun z => nomatch (show f ∈ ([] : List Addr) from z)
  refine ⟨fun s1 un => ⟨_, _, _, _, stays s1 un⟩, fun {A env s1 Q E} room gu e0 un hq => ?_⟩
  have here := stays s1 un
  obtain ⟨⟨oc, vs, t, co1, co2, co3⟩, _, _⟩ := e0.hok c' _ co
  refine PySem.W.kla_callFunE room.depth here rfl L.co L.gen rfl ⟨c', oc, vs, t, rfl, co1, co2, co3⟩ ?_
  rw [bd]
  have lim : s1.heap.NoLimit := e0.mod.nolimit.keeps fun b o e => (e0.bs b o e).1
  refine wpAny_pure (wpAny_newFunctionEnv (fun y hy => (L.own y hy).2) (fun y hy => nomatch hy) (fun h₁ ns sb => ⟨lim.fresh _ sb, ?_⟩) L.kind)
  have kp : ∀ b o, s1.heap.get? b = some o → h₁.get? b = some o := fun b o e => sb.extBut b o (Nat.ne_of_lt (Heap.lt_size e)) (Heap.get?_push_of_some _ e)
  have J1 := lam_start2 (E := E) (f := f) (c' := c') (tk := s1.toks + ([] : List (Str × Value)).length) J L e0 room.hd un ns kp
  show codeAny _ _ (.expr body (lamEnv X scope s1.heap.objs.size f c')) _ _
  refine PySem.W.kla_codeExpr (wpAny_mono ((hb A (env :: X.stack) s1 H E (room.deeper _) gu).run [] _ _ H Q J1 hq) (fun v s' z => ?_) fun e s' z => z)
  obtain ⟨u, H', J2, rv, z⟩ := z
  exact ⟨u, H', J2.os, J2.bare, J2.base, J2.hok, rv, z⟩
/-- a(), in the def that got the lambda -/
theorem pe_actZ {K : PySem.W.Frag} {P : Program} {w : World} {mg : Str → Option Value} {base : Heap} {k i : Nat} {outer : List Env} {f g : Addr} {cdg : Value} {N : List Str} {qg a : Str} {sg : Scope} {A : Around} {E0 : XK} {pn : List (Addr × Obj)} {xe : Value → Shared → Prop} {W : WX} {p1 p2 : Pos} {s : Shared}
    (ac : ActOk P w K mg base k outer H s f F σ il) (tk : Takes ((cxOf (L2.CX P w) P w K mg base N qg sg g cdg A outer s H E0).tr pn xe) W) (room : Room (k + 1) (A.deeper (envOfC qg sg s.heap.objs.size g cdg))) (gu : A.guards = some [])
    (hN : N[i]? = some a) (hv : Vis sg a) (hd : (a == ("__debug__" : Str)) = false := by decide) (hcd : (a == ("__classdict__" : Str)) = false := by decide) :
    PE ((cxOf (L2.CX P w) P w K mg base N qg sg g cdg A outer s H E0).tr pn xe) (.Call (.Name a p1) [] [] p2)
      (fun σZ HZ Q => σZ[i]? = some (some (.ref f)) ∧ HZ = H ∧ LE K F (fun cls d _ H => W cls d σZ H) il σ H Q) := by
  refine ⟨fun pins s1 σZ HZ Q I h => ?_⟩
  obtain ⟨h1, h2, h3⟩ := h
  subst h2
  refine wpAny_Call_Name_kw (thn ((pe_var (pos := p1) (i := i) hN hv hd hcd).run pins s1 σZ HZ (fun v H1 => v = .ref f ∧ H1 = HZ) I ⟨.ref f, h1, rfl, rfl⟩) fun u s2 ⟨v, H1, I1, r1, ev, eH⟩ => ?_)
  subst ev eH
  obtain rfl : u = Value.ref f := r1
  have un := I1.base
  refine PySem.W.callWith_F0 (ac.at_ s2 un) ?_
  refine wpAny_call (codeAny_mono (ac.run (E := fun cls d H => W cls d σZ H) room gu I1.env0 un h3) fun r s' q => ?_)
  cases r with
  | error e => exact passAt tk σZ pins H1 s2 e s' I1 q
  | ok fl => cases fl <;> first | exact I1.after q | exact q.elim
end
abbrev LAct := (W → Sto → Prop) → (Exn → Sto → Prop) → Sto → Prop
abbrev LSp := LAct → Sto → (R → Sto → Prop) → Prop
def ilS (il : IE) (st : Stt) : LAct := fun Q E S => il (fun x st' => st'.ρ = st.ρ ∧ E x st'.S) ⟨st.ρ, S⟩ (fun w st' => st'.ρ = st.ρ ∧ Q w st'.S)
def nox : XI := fun _ _ => False
def retI (Q : R → Sto → Prop) : IEnds := { nx := fun _ => False, rt := Q }
def emp (m : Nat) : List Slot := List.replicate m .none
def hErr (m i : Nat) (cs : List Str) (is : Hnd → IS) (Q : R → Sto → Prop) : Exn → Sto → Prop := fun x S => x.C ∈ cs ∧ ∀ a d, is ⟨x, a, d⟩ nox (retI Q) ⟨(emp m).set i (.val (Hnd.w ⟨x, a, d⟩)), S⟩
/-- return ("told", a()) -/
def hRet (m i : Nat) (told : Str) (cs : List Str) (is : Hnd → IS) : LSp := fun al S Q => al (fun w S' => Q (.val (.tup [.str told, w])) S') (hErr m i cs is Q) S
structure CalL (P : Program) (w : World) (K : PySem.W.Frag) (mg : Str → Option Value) (base : Heap) (x : Str) (hI : LSp) : Prop where
  ex : ∃ g, mg x = some (.ref g) ∧ PySem.W.keepIn K (.ref g) = true ∧ ∀ {k : Nat} {A : Around} {outer : List Env} {s : Shared} {H : Hp} {f : Addr} {F : Addr → Prop} {st : Stt} {σ : L2.St} {il : IE} {Q : VK} {QI : R → Sto → Prop}, Room (k + 2) A → A.guards = some [] → Env0 P w K mg base A outer s H →
    ActOk P w K mg base k outer H s f F σ il → Lk K F st σ H → hI (ilS il st) st.S QI →
    (∀ r S' v H', QI r S' → Lk K F { st with S := S' } σ H' → Step st σ H { st with S := S' } σ H' → RelW K (Live F { st with S := S' } σ) H' r.fz v → Q v H') → codeAny (model P w) A (.call (.ref g) ⟨[.ref f], []⟩) (CR (L2.CX P w) outer P w H s Q fun _ _ _ => False) s
theorem emp_len {m : Nat} : (emp m).length = m := List.length_replicate ..
theorem emp_get {m i j : Nat} {w : W} {x : Slot} (h : ((emp m).set i (.val w))[j]? = some x) : (j = i ∧ x = .val w ∧ i < m) ∨ x = .none := by
  rcases get_set h with ⟨e, z, l⟩ | ⟨_, z⟩
  · exact .inl ⟨e, z, by rw [emp_len] at l; exact l⟩
  · exact .inr (List.eq_of_mem_replicate (List.mem_of_getElem? z))
/-- one name has a value, the others' values are not looked at -/
theorem Lk.one {K : PySem.W.Frag} {F : Addr → Prop} {S : Sto} {H : Hp} {m i : Nat} {w : W} {v : V} {σ : L2.St} (l : Lk K F ⟨[], S⟩ [] H) (r : RelW K (Live F ⟨[], S⟩ []) H w v) (hl : σ.length = m) : Lk K F ⟨(emp m).set i (.val w), S⟩ (σ.set i (some v)) H ∧ Step ⟨[], S⟩ [] H ⟨(emp m).set i (.val w), S⟩ (σ.set i (some v)) H := by
  have no : ∀ {j : Nat} {o : SO}, ((emp m).set i (.val w))[j]? = some (.own o) → False := fun h => by
    rcases emp_get h with ⟨_, z, _⟩ | z <;> cases z
  have nOw : ∀ a, ¬ Ow ((emp m).set i (.val w)) (σ.set i (some v)) a := fun a ⟨j, o, e, _⟩ => no e
  have lv : ∀ a, Live F ⟨(emp m).set i (.val w), S⟩ (σ.set i (some v)) a → Live F ⟨[], S⟩ [] a := fun a z => z.imp (fun z => z.elim .inl fun z => (nOw a z).elim) id
  refine ⟨⟨by simp [emp, hl], fun j y q => ?_, fun j o q => (no q).elim, fun j _ o _ a q => (no q).elim, fun a o q => (l.sto a o q).move (fun _ z => z) (mv_same lv), l.ftr, l.fdis⟩, ⟨fun _ _ e _ => e, fun a z => .inl (z.elim .inl fun z => (nOw a z).elim)⟩⟩
  rcases emp_get q with ⟨rfl, z, lt⟩ | z
  · cases z
    exact ⟨v, set_get (by rw [hl]; exact lt), r.mono (mv_same lv)⟩
  · cases z
theorem RelW.enter {K : PySem.W.Frag} {F : Addr → Prop} {st : Stt} {σ : L2.St} {H : Hp} {w : W} {v : V} (r : RelW K (Live F st σ) H w v) : RelW K (Live (Fo F st σ) ⟨[], st.S⟩ []) H w v := r.mono (mv_same fun _ z => live_enter.mp z)
/-- what the caller sees of the def's end -/
theorem ret_back {K : PySem.W.Frag} {F : Addr → Prop} {st st' : Stt} {σ σ2 : L2.St} {H H' H2 : Hp} {ρ2 : List Slot} {r : R} {S2 : Sto} {v : V} {Q : VK} (eρ : st'.ρ = st.ρ) (l : Lk K F st' σ H') (s : Step st σ H st' σ H') (s2 : Step ⟨[], st'.S⟩ [] H' ⟨ρ2, st'.S⟩ σ2 H')
    (ok : RetOk K (Fo F st' σ) ⟨ρ2, st'.S⟩ σ2 H' r S2 v H2) (k : Lk K F { st with S := S2 } σ H2 → Step st σ H { st with S := S2 } σ H2 → RelW K (Live F { st with S := S2 } σ) H2 r.fz v → Q v H2) : Q v H2 := by
  have ok2 : RetOk K (Fo F st' σ) ⟨[], st'.S⟩ [] H' r S2 v H2 := ok.step s2
  have ⟨l2, rv⟩ := ok2.fz l.enter
  obtain ⟨l3, s3⟩ := l.back ok2.1 l2 (fun _ z => z) fun a z => .inl z
  have e : ({ st' with S := S2 } : Stt) = { st with S := S2 } := by rw [show ({ st' with S := S2 } : Stt) = ⟨st'.ρ, S2⟩ from rfl, eρ]
  have rv2 := rv.mono (mv_same fun b z => (live_enter (F := F) (st := { st' with S := S2 }) (σ := σ)).mpr z)
  rw [e] at l3 s3 rv2
  exact k l3 (s.trans s3) rv2
theorem LS.ends {K : PySem.W.Frag} {F : Addr → Prop} {Wx : WX} {i : IS} {n : L2.St → Hp → Prop} {r : VK} {σ : L2.St} {H : Hp} (h : LS K F Wx i { nx := fun _ _ => False, rt := r } σ H) : LS K F Wx i { nx := n, rt := r } σ H := by
  obtain ⟨st, DI, EI, l, q, u⟩ := h
  exact ⟨st, DI, EI, l, q, ⟨u.xs, fun _ _ _ a b c => (u.nx _ _ _ a b c).elim, fun _ _ _ a b c => (u.bk _ _ _ a b c).elim, fun _ _ _ a b c => (u.ct _ _ _ a b c).elim, u.rt⟩⟩
/-- how the try's body goes on behind a() -/
abbrev Kont := Ends → L2.St → V → Hp → Prop
theorem heard_run {P : Program} {w : World} {K : PySem.W.Frag} {mg : Str → Option Value} {base : Heap} {x a e C : Str} {st0 : Stmt} {N : List Str} {i : Nat} {ts b₀ : Stmt} {suite more : List Stmt} {np pos pos' p1 p2 : Pos} {cs : List Str} {is : Hnd → IS} {im : IS} {Kn : Kont} {kI : (R → Sto → Prop) → W → Sto → Prop}
    (D : Df K mg x st0) (eb : defBody st0 = [.Try [ts] [.ExceptHandler (some (.Name C np)) (some e) (b₀ :: suite) pos'] more [] pos]) (Sc : FnScope N [a] (defScope st0))
    (bd : ∀ (kV doc pm : Value) (an : Option Addr) (cdv ct : Value) (us : List Value), us.length = 1 → bindArgs (PySem.W.fnOf x x (defArgs st0) (defBody st0) (defScope st0) .none kV doc pm an cdv ct) ⟨us, []⟩ = pure ([a].zip us)) (T : CatF K cs C) (hm : mg C = some (.ref (ga K C)))
    (ni : N[i]? = some e) (n0 : N[0]? = some a) (va : Vis (defScope st0) a) (kl : (defScope st0).names.lookup e = some .local) (gx : (defScope st0).names.lookup C = some .globalImplicit)
    (hts : ∀ {g : Addr} {cdg : Value} {A : Around} {outer : List Env} {s : Shared} {H : Hp} {E0 : XK} {pn : List (Addr × Obj)} {xe : Value → Shared → Prop} {te : TE}, PE ((cxOf (L2.CX P w) P w K mg base N x (defScope st0) g cdg A outer s H E0).tr pn xe) (.Call (.Name a p1) [] [] p2) te →
      PSs ((cxOf (L2.CX P w) P w K mg base N x (defScope st0) g cdg A outer s H E0).tr pn xe) [ts] (fun D σ H => te σ H (Kn D σ)))
    (su : ∀ (g : Addr) (cdg : Value) (A : Around) (outer : List Env) (s : Shared) (H : Hp) (E0 : XK) (F : Addr → Prop) (h : Hnd) (oe : Obj) (pn : List (Addr × Obj)), Room 1 (A.deeper (envOfC x (defScope st0) s.heap.objs.size g cdg)) → A.guards = some [] → Zc (.ref (ga K h.x.C)) h.d oe → (∃ vs, oe.data = .fields vs) →
      PSs ((cxOf (L2.CX P w) P w K mg base N x (defScope st0) g cdg A outer s H E0).suite h.a ((h.a, oe) :: pn)) (b₀ :: suite) (LS K F (fun _ _ _ _ => False) (is h)))
    (mo : ∀ (g : Addr) (cdg : Value) (A : Around) (outer : List Env) (s : Shared) (H : Hp) (E0 : XK) (F : Addr → Prop), Room 1 (A.deeper (envOfC x (defScope st0) s.heap.objs.size g cdg)) → A.guards = some [] → PSs (cxOf (L2.CX P w) P w K mg base N x (defScope st0) g cdg A outer s H E0) more (LS K F (fun _ _ _ _ => False) im))
    (hk : ∀ {F' : Addr → Prop} {S' : Sto} {QI : R → Sto → Prop} {w : W} {v : V} {H' : Hp} {σ : L2.St} {D : Ends}, σ.length = N.length → Lk K F' ⟨[], S'⟩ [] H' → RelW K (Live F' ⟨[], S'⟩ []) H' w v → kI QI w S' →
      (∀ σ' H2, (∃ F', LS K F' (fun _ _ _ _ => False) im { nx := fun _ _ => False, rt := D.rt } σ' H2) → D.nx σ' H2) → (∀ {ρ2 : List Slot} {σ2 : L2.St} {r : R} {S2 : Sto} {v : V} {H2 : Hp}, Step ⟨[], S'⟩ [] H' ⟨ρ2, S'⟩ σ2 H' → QI r S2 → RetOk K F' ⟨ρ2, S'⟩ σ2 H' r S2 v H2 → D.rt v H2) → Kn D σ v H')
    (dx : (C == ("__debug__" : Str)) = false := by decide) (d1 : (a == ("__debug__" : Str)) = false := by decide) (d2 : (a == ("__classdict__" : Str)) = false := by decide) :
    CalL P w K mg base x fun al S Q => al (kI Q) (hErr N.length i cs is Q) S := by
  obtain ⟨g, fd, Fd, hx⟩ := D.ex
  refine ⟨g, hx, Fd.kp, fun {k A outer s H f F st σ il Q QI} room gu e0 ac lk hq kr => ?_⟩
  obtain ⟨oc, od, dV, kV, doc, pm, an, cdv, ct, osl, rfl, lkp, hcd, _, _⟩ := Fd.ex
  have hb : BindsTo s (PySem.W.fnOf x x (defArgs st0) (defBody st0) (defScope st0) dV kV doc pm an cdv ct) ⟨[.ref f], []⟩ ([a].zip [.ref f]) := Fd.bindsN (ps := [a]) bd s [.ref f] (e0.mod.kin.keeps fun b o e => (e0.bs b o e).1) rfl
  refine run_ofS (N := N) (ps := [a]) (us := [.ref f]) (vs := [.ref f]) lkp hcd Sc (k := k + 1) room e0 hb (.cons rfl .nil) rfl fun room' => ?_
  rw [eb]
  have lenN : (L2.start N [V.ref f]).length = N.length := by
    have : 0 < N.length := by
      cases N with
      | nil => cases n0
      | cons _ _ => simp
    simp [L2.start]; omega
  have at0 : (L2.start N [V.ref f])[0]? = some (some (V.ref f)) := by simp [L2.start]
  refine ⟨_, pss_one (ps_try_asE (X := cxOf (L2.CX P w) P w K mg base N x (defScope st0) g cdv A outer s H fun _ _ _ => False) (c := .ref (ga K C)) (i := i) (Wo := fun _ _ _ _ => False)
    (tb := fun W D σ' H' => σ'[0]? = some (some (.ref f)) ∧ H' = H ∧ LE K F (fun cls d _ H => W cls d σ' H) il σ H (Kn D σ')) (ts := fun a cls d D σ H => ∃ y F', cls = .ref (ga K y.C) ∧ LS K F' (fun _ _ _ _ => False) (is ⟨y, a, d⟩) D σ H)
    (tm := fun D σ H => ∃ F', LS K F' (fun _ _ _ _ => False) im D σ H) ⟨fun pins s σ H D I z => ?_⟩ rfl rfl Sc.nd ni kl ⟨gx, dx, .inl hm⟩ LamX.takes0 (fun W pn xe tk _ => hts (pe_actZ ac tk room' gu n0 va d1 d2)) fun a oe cls d pn hz hf => ⟨fun pins s σ H D I z => ?_⟩), ?_⟩
  · obtain ⟨F', z⟩ := z
    exact (mo g cdv A outer _ _ _ F' (room'.mono (by omega)) gu).run pins s σ H D I z
  · obtain ⟨y, F', ec, z⟩ := z
    subst ec
    exact (su g cdv A outer _ _ _ F' ⟨y, a, d⟩ oe pn (room'.mono (by omega)) gu hz hf).run pins s σ H D I z
  · refine ⟨at0, rfl, st, _, _, lk, hq, fun y st' cls d H' q l' s' r' => ?_, fun w st' v H' q l' s' r' => ?_⟩
    · obtain ⟨eρ, hC, q⟩ := q
      refine ⟨true, ?_, fun _ b nb => ?_, fun z => nomatch z⟩
      · rw [r'.1]; exact T.hit _ hC
      · obtain ⟨l2, s2⟩ := Lk.one (i := i) l'.enter (r'.hnd (a := b)).enter lenN
        refine ⟨y, Fo F st' σ, r'.1, _, _, _, l2, q b d, ⟨fun _ _ _ _ _ _ z => z.elim, fun _ _ _ z => z.elim, fun _ _ _ z => z.elim, fun _ _ _ z => z.elim, fun r S2 v H2 z ok => ?_⟩⟩
        exact ret_back (Q := Q) eρ l' s' s2 ok fun a b c => kr r S2 v H2 z a b c
    · obtain ⟨eρ, q⟩ := q
      refine hk lenN l'.enter r'.enter q (fun σ' H2 ⟨F', z⟩ => ⟨F', LS.ends z⟩) fun {ρ2 σ2 r S2 v H2} s2 z ok => ?_
      exact ret_back (Q := Q) eρ l' s' s2 ok fun a b c => kr r S2 v H2 z a b c
theorem calRet {told : Str} {q1 : Nat} {q3} {q2 q4 q5 : Pos}{P : Program} {w : World} {K : PySem.W.Frag} {mg : Str → Option Value} {base : Heap} {x a e C : Str} {st0 : Stmt} {N : List Str} {i : Nat} {b₀ : Stmt} {suite : List Stmt} {np pos pos' p1 p2 : Pos} {cs : List Str} {is : Hnd → IS} 
    (D : Df K mg x st0) (eb : defBody st0 = [.Try [.Return (some (.Tuple [.Constant (.str told) q1 q2, .Call (.Name a p1) [] [] p2] q3 q4)) q5] [.ExceptHandler (some (.Name C np)) (some e) (b₀ :: suite) pos'] [] [] pos]) (Sc : FnScope N [a] (defScope st0))
    (bd : ∀ (kV doc pm : Value) (an : Option Addr) (cdv ct : Value) (us : List Value), us.length = 1 → bindArgs (PySem.W.fnOf x x (defArgs st0) (defBody st0) (defScope st0) .none kV doc pm an cdv ct) ⟨us, []⟩ = pure ([a].zip us)) (T : CatF K cs C) (hm : mg C = some (.ref (ga K C)))
    (ni : N[i]? = some e) (n0 : N[0]? = some a) (va : Vis (defScope st0) a) (kl : (defScope st0).names.lookup e = some .local) (gx : (defScope st0).names.lookup C = some .globalImplicit)
    
    (su : ∀ (g : Addr) (cdg : Value) (A : Around) (outer : List Env) (s : Shared) (H : Hp) (E0 : XK) (F : Addr → Prop) (h : Hnd) (oe : Obj) (pn : List (Addr × Obj)), Room 1 (A.deeper (envOfC x (defScope st0) s.heap.objs.size g cdg)) → A.guards = some [] → Zc (.ref (ga K h.x.C)) h.d oe → (∃ vs, oe.data = .fields vs) →
      PSs ((cxOf (L2.CX P w) P w K mg base N x (defScope st0) g cdg A outer s H E0).suite h.a ((h.a, oe) :: pn)) (b₀ :: suite) (LS K F (fun _ _ _ _ => False) (is h)))
    (dx : (C == ("__debug__" : Str)) = false := by decide) (d1 : (a == ("__debug__" : Str)) = false := by decide) (d2 : (a == ("__classdict__" : Str)) = false := by decide) :
    CalL P w K mg base x (hRet N.length i told cs is) := by
  refine heard_run (ts := .Return (some (.Tuple [.Constant (.str told) q1 q2, .Call (.Name a p1) [] [] p2] q3 q4)) q5) (Kn := fun D σ v H => [V.str told, v].length ≤ sizeLine ∧ ∀ t, H t = none → D.rt (.ref t) (upd H t (.tup [.str told, v]))) (kI := fun Q w S => Q (.val (.tup [.str told, w])) S) D eb Sc bd T hm ni n0 va kl gx (fun {g cdg A outer s H E0 pn xe te} pa => pss_one (ps_ret (pe_tup (pa_cons pe_str (pa_cons pa pa_nil))))) su (im := sNext) (fun g cdg A outer s H E0 F _ _ => s_nil) (fun {F' S' QI w v H' σ D} hl l r q hn hr => ⟨by rw [sizeLine_eq]; show 2 ≤ _; omega, fun t ht => hr (ρ2 := []) (σ2 := []) .refl q ⟨Step.laid l ht, l.laid ht, .tup (FzT.new l ht) (.cons (.str _) (.cons (r.mono (Step.laid (o := .tup [.str told, v]) l ht).mv) .nil))⟩⟩) dx d1 d2
section
variable {P : Program} {w : World} {K : PySem.W.Frag} {mg : Str → Option Value} {base : Heap} {x qual : Str} {params : Arguments} {body : List Stmt} {scope : Scope} {f : Addr} {fd : FuncData}
theorem fnIC {N ps : List Str} {k : Nat} {ib : IS} {q : He.Defn} (Fd : FunD K x qual params body scope [] [] f fd) (ef : f = He.fAd K q) (Sc : FnScope N ps scope)
    (hb : ∀ (cdv : Value) (A : Around) (outer : List Env) (s : Shared) (H : Hp) (E : XK), cdv = .ref (He.cT K q).1 → Room k (A.deeper (envOfC qual scope s.heap.objs.size f cdv)) → A.guards = some [] → ∀ (F : Addr → Prop) (Wx : WX), Takes (cxOf (L2.CX P w) P w K mg base N qual scope f cdv A outer s H E) Wx →
      PSs (cxOf (L2.CX P w) P w K mg base N qual scope f cdv A outer s H E) body (LS K F Wx ib)) : FnG P w K mg base (k + 1) f fd ps (spI K ps.length (bodyI N.length ib)) := by
  obtain ⟨oc, od, dV, kV, doc, pm, an, cdv, ct, osl, rfl, lk, hcd, _, _⟩ := Fd.ex
  obtain ⟨c, ec⟩ := He.codeIn_ref hcd
  have eq : He.codeOf K q = c := He.codeOf_eq (by rw [← ef]; exact lk) ec
  refine ⟨fun h => h.len, fun {A outer s H args us vs Q E} room gu e0 bd rel hq => ?_⟩
  have hv : vs.length = ps.length := hq.len
  have kin : K.In s.heap := e0.mod.kin.keeps fun b o e => (e0.bs b o e).1
  have noLim : s.heap.NoLimit := e0.mod.nolimit.keeps fun b o e => (e0.bs b o e).1
  have kinds : ∀ y ∈ ps.zip us, scope.names.lookup y.1 = some .local ∨
      (scope.names.lookup y.1 = some .cell ∧ ((cellsFrom (s.heap.objs.size + 1) scope.names []).lookup y.1).isSome = true) := fun y hy => by
    rcases Sc.par y.1 (List.of_mem_zip hy).1 with q | q
    · exact .inl q
    · exact .inr ⟨q, PySem.W.cellsFrom_some _ _ _ (.inl q)⟩
  refine codeAny_call_function room.depth (kin _ _ lk) rfl Sc.co Sc.gen rfl (PySem.W.codeRec_of kin hcd) (bd _ _ _ _ ?_)
  refine wpAny_newFunctionEnv_cells Sc.kind kinds fun env he s1 z => ?_
  subst he
  refine ⟨noLim.keeps z.toInCall.keep, codeAny_func ?_⟩
  obtain ⟨F, hq2⟩ := body_start hq
  have ht := hb cdv A outer s H E (by rw [ec, ← eq]; rfl) (room.deeper _) gu F (fun cls d _ H => E cls d H) (takes_of rfl rfl rfl rfl)
  have I := inv_start (CX := L2.CX P w) (E := E) Sc room.hd e0 hv rel z
  refine wpAny_mono (ht.run [] s1 _ H _ I hq2) (fun fl s' hs => ?_) fun _ _ h => h
  have fin : ∀ {σ' : L2.St} {H' : Hp} {v : V} {u : Value}, Inv (cxOf (L2.CX P w) P w K mg base N qual scope f cdv A outer s H E) [] σ' H' s' →
      RelV v u → Q v H' → CE outer P w H s Q u s' := fun {σ' H' v u} J rv q => ⟨v, H', J.os, J.bare, J.base, J.hok, rv, q⟩
  cases fl with
  | ret u => obtain ⟨v, σ', H', J, rv, q⟩ := hs; exact fin J rv q
  | next => obtain ⟨σ', H', J, q⟩ := hs; exact fin (v := V.non) (u := Value.none) J rfl q
  | brk => obtain ⟨_, _, _, q⟩ := hs; exact q.elim
  | cont => obtain ⟨_, _, _, q⟩ := hs; exact q.elim
end
theorem lam_tk {X : Cx} {A : Around} {outer : List Env} {s1 : Shared} {H1 : Hp} {E : XK} {scope : Scope} {f c' : Addr} : Takes (lamCx X A outer s1 H1 E scope f c') (fun cls d _ H => E cls d H) := takes_of rfl rfl rfl rfl
def iLam (d : Str) (hI : LSp) (il : IE) : IE := fun _ st Q => (∃ P, st.S P = some (.tbl P d)) ∧ hI (ilS il st) st.S fun r S' => Q r.fz { st with S := S' }
section
variable {X : Cx} {F : Addr → Prop} {Wx : WX}
theorem i_lam {x d : Str} {hI : LSp} {il : IE} {k : Nat} {params : Arguments} {body : Expr} {scope : Scope} {p lpos pos : Pos} (C : CalL X.prog X.w X.K X.mg X.base x hI) (hr : Room (k + 2) X.A) (gu : X.A.guards = some []) (TB : TabB X.base X.mg (He.cT X.K (d, none)).1 (He.cT X.K (d, none)).2)
    (ec : X.env.code = .ref (He.cT X.K (d, none)).1) (L : LamS X.env.scope scope) (hb : ∀ (A : Around) (outer : List Env) (s1 : Shared) (H1 : Hp) (E : XK) (f c' : Addr), Room k (A.deeper (lamEnv X scope s1.heap.objs.size f c')) → A.guards = some [] → PE (lamCx X A outer s1 H1 E scope f c') body (LE X.K F (fun cls d _ H => E cls d H) il))
    (ed : defaultsOf params X.env = ([], []) := by rfl) (eq : X.env.qual ++ "<lambda>" = lamN d := by rfl) (bd : ∀ (q : Str) (cl : List (Str × Addr)) (pm cv ctv : Value), bindArgs (PySem.W.kla_fn "<lambda>" q params body scope cl pm cv ctv) ⟨[], []⟩ = pure [] := by exact fun _ _ _ _ _ => rfl)
    (hg : Gl X x := by rfl) (hdb : (x == ("__debug__" : Str)) = false := by decide) :
    PE X (.Call (.Name x p) [.Lambda params body scope lpos] [] pos) (LE X.K F Wx (iLam d hI il)) := by
  refine ⟨fun pins s σ H Q I h => ?_⟩
  obtain ⟨st, QI, EI, l, ⟨⟨P, eP⟩, q⟩, ux, kk⟩ := h
  obtain ⟨g, hm, hkp, run⟩ := C.ex
  obtain ⟨_, e1, ps, t1, t2, t3⟩ := l.sto _ _ eP
  refine wpAny_Call_Name_kw (ld_glob I hg hm ?_ hdb)
  refine PySem.W.callWith_K (h₀ := X.base) I.ok.mod.kin hkp ?_ (by rfl) (by rfl)
  show wpAny _ _ (spliced ((false, eval (.Lambda params body scope lpos) X.env) :: backTo pos (starEach [] X.env))) _ _ s
  refine Calls.spliced_cons (lam_new I (by rw [e1]; exact TB) ec eq t1 t2 (fun pos cv hc => (t3 pos cv hc).imp fun c z => ⟨z.1, z.2.1⟩) ed (L.has I.ok) fun f c' pm ctv H1 s' I1 hH co hf nf nr => ?_)
  refine Calls.spliced_nil ⟨I1.kIn, ?_⟩
  obtain ⟨l1, s1⟩ := l.tab eP hH
  have ac := act_of (k := k) (F := F) (il := il) I1 L hf rfl nf nr (eq ▸ co) (bd _ _ _ _ _) fun A outer s1 H1 E r g => hb A outer s1 H1 E f c' r g
  refine wpAny_call (codeAny_mono (run hr gu I1.env0 ac l1 q fun r S' v H' q' l2 s2 r2 => kk r.fz _ v H' q' l2 (s1.trans s2) r2) fun r s2 hq => ?_)
  cases r with
  | error e => exact (CX_none hq).elim
  | ok fl => cases fl <;> first | exact I1.after hq | exact hq.elim
end
end Sh
namespace Sh
open PySem L2 LamX
open PyProof.Rows hiding St
open He (ga ma)
/-- the def's table stands in the store -/
def Tb (S : Sto) (d : Str) : Prop := ∃ P, S P = some (.tbl P d)
def tabD (K : PySem.W.Frag) (d : Str) : Addr := (He.cT K (d, none)).2
/-- all tables differ -/
def tabNB (K : PySem.W.Frag) (ds : List Str) : Bool := ds.all fun d => ds.all fun d' => decide (d = d') || !(tabD K d == tabD K d')
theorem tabNB_ok {K : PySem.W.Frag} {ds : List Str} (h : tabNB K ds = true) {d d' : Str} (hd : d ∈ ds) (hd' : d' ∈ ds) (e : tabD K d = tabD K d') : d = d' := by
  have z := List.all_eq_true.mp (List.all_eq_true.mp h d hd) d' hd'
  rw [Bool.or_eq_true] at z
  rcases z with z | z
  · exact of_decide_eq_true z
  · rw [e] at z; simp at z
/-- the store at the begin -/
def stoT (K : PySem.W.Frag) (ds : List Str) : Sto := fun b => (ds.find? fun d => tabD K d == b).map fun d => .tbl b d
theorem stoT_in {K : PySem.W.Frag} {ds : List Str} {b : Addr} {o : SO} (h : stoT K ds b = some o) : ∃ d ∈ ds, b = tabD K d ∧ o = .tbl b d := by
  unfold stoT at h
  cases e : ds.find? fun d => tabD K d == b with
  | none => rw [e] at h; cases h
  | some d =>
    rw [e] at h
    cases h
    have q := List.find?_some e
    exact ⟨d, List.mem_of_find?_eq_some e, (beq_iff_eq.mp q).symm, rfl⟩
theorem stoT_tb {K : PySem.W.Frag} {ds : List Str} (h : tabNB K ds = true) {d : Str} (hd : d ∈ ds) : Tb (stoT K ds) d := by
  refine ⟨tabD K d, ?_⟩
  unfold stoT
  cases e : ds.find? fun d' => tabD K d' == tabD K d with
  | none => exact absurd (List.find?_eq_none.mp e d hd) (by simp)
  | some d' =>
    have q0 : (tabD K d' == tabD K d) = true := List.find?_some (p := fun d' => tabD K d' == tabD K d) e
    have q := beq_iff_eq.mp q0
    rw [tabNB_ok h (List.mem_of_find?_eq_some e) hd q]
    rfl
theorem stoT_no {K : PySem.W.Frag} {ds : List Str} {b : Addr} (h : ∀ d ∈ ds, b ≠ tabD K d) : stoT K ds b = none := by
  cases e : stoT K ds b with
  | none => rfl
  | some o =>
    obtain ⟨d, hd, eb, _⟩ := stoT_in e
    exact absurd eb (h d hd)
section
variable {P : Program} {w : World} {K : PySem.W.Frag} {mg mb : Str → Option Value} {k : Nat} {fa a : Addr} {fd : FuncData} {x : Str} {sA : Shared} {us : List Value} {ns : List Int} {ds : List Str} {spec : ISp}
theorem lkT {H : Hp} (hT : ∀ d ∈ ds, H (tabD K d) = some (.tbl #[])) : Lk K (fun _ => False) ⟨[], stoT K ds⟩ [] H := by
  refine ⟨rfl, fun i w e => by simp at e, fun i o e => by simp at e, fun i j o o' a e => by simp at e, fun b o e => ?_, fun _ z => False.elim z, fun _ z => False.elim z⟩
  obtain ⟨d, hd, eb, eo⟩ := stoT_in e
  subst eo
  rw [eb]
  exact ⟨rfl, rfl, #[], hT d hd, True.intro, fun pos cv z => by simp [codeAmong] at z⟩
theorem lawT_at {H : Hp} (kin : K.In sA.heap) (gl : sA.heap.Ns mainGlobals mg) (bl : sA.heap.Ns builtinsNs mb) (bb : ∀ y : Str, y ≠ "__name__" → mb y = bootBuiltins y) (lim' : sA.heap.NoLimit) (gens : sA.gens = #[])
    (obj : sA.heap.get? a = some { cls := .type "list", data := .seq us.toArray }) (room : Room k callerA)
    (tabs : ∀ d ∈ ds, sA.heap.get? (tabD K d) = some { cls := .none, data := .fields #[] }) (tout : ∀ d ∈ ds, K.lookup (tabD K d) = none) (code : ∀ d ∈ ds, PySem.W.CodeHd sA.heap (He.cT K (d, none)).1 (tabD K d))
    (bmod : ∃ (bm : Addr) (ob : Obj), mg "__builtins__" = some (.ref bm) ∧ bm ≠ builtinsNs ∧ sA.heap.get? bm = some ob ∧ ob.cls = .type "module" ∧ ob.dict = some builtinsNs ∧ ob.data = .plain)
    (G : ∀ base : Heap, K.In base → base.Ns mainGlobals mg → (∀ d ∈ ds, TabB base mg (He.cT K (d, none)).1 (tabD K d)) → FnG P w K mg base k fa fd [x] (spI K 1 spec)) (bd : ∀ (s : Shared) (u : Value), BindsTo s fd ⟨[u], []⟩ [(x, u)])
    (q : spI K 1 spec [.ref a] H (fun v _ => v = .bl true) fun _ _ _ => False) (held : HOk P w H sA.heap) (hT : ∀ d ∈ ds, H (tabD K d) = some (.tbl #[]))
    (kinds : ∀ b, H b ≠ none → (∃ d ∈ ds, b = tabD K d) ∨ (b = a ∧ ∃ ob xs, H b = some (.frz ob xs))) (out : H a ≠ none → K.lookup a = none) :
    codeAny (model P w) callerA (.call (.ref fa) ⟨[.ref a], []⟩) (fun r s' => r = .ok (.ret (.bool true)) ∧ OldK sA.heap s'.heap ∧ s'.os = sA.os ∧ AllBare s'.gens) sA := by
  have free : ∀ {b : Addr} {o : Obj}, sA.heap.get? b = some o → o.data ≠ .fields #[] → (∀ vs m, o.data ≠ .seq vs m) → H b = none := fun {b o} e h1 h2 => by
    refine Classical.byContradiction fun z => ?_
    rcases kinds b z with ⟨d, hd, eb⟩ | ⟨eb, _⟩
    · rw [eb, tabs d hd] at e
      cases e
      exact h1 rfl
    · rw [eb, obj] at e
      cases e
      exact h2 _ _ rfl
  have ns' : ∀ {b : Addr} {f : Str → Option Value}, sA.heap.Ns b f → (hidT sA.heap H).Ns b f := fun {b f} ⟨o, es, m, e, d, r⟩ =>
    ⟨o, es, m, hidT_get e (free e (by rw [d]; exact fun z => nomatch z) (by rw [d]; exact fun _ _ z => nomatch z)), d, r⟩
  have kb : K.In (hidT sA.heap H) := fun b o e => by
    refine hidT_get (kin b o e) (Classical.byContradiction fun z => ?_)
    rcases kinds b z with ⟨d, hd, eb⟩ | ⟨eb, _⟩
    · rw [eb, tout d hd] at e; cases e
    · rw [eb] at z e
      rw [out z] at e; cases e
  obtain ⟨mc, c1, c2⟩ := lim'
  have md : Mod K mg (hidT sA.heap H) := ⟨kb, ns' gl, ⟨mb, ns' bl, bb⟩, ⟨mc, ns' c1, c2⟩⟩
  have tb : ∀ d ∈ ds, TabB (hidT sA.heap H) mg (He.cT K (d, none)).1 (tabD K d) := fun d hd => by
    obtain ⟨og, eg, mgm, g1, g2, _⟩ := id gl
    refine ⟨?_, ?_, fun z => ?_⟩
    · obtain ⟨o, vs, file, tf, flags, tg, inF, text, tt, e1, e2, e3, e4, r⟩ := code d hd
      refine ⟨o, vs, file, tf, flags, tg, inF, text, tt, hidT_get e1 (free e1 (fun z => ?_) fun _ _ z => ?_), e2, e3, e4, r⟩
      · rw [e3] at z
        cases z
        simp at e4
      · rw [e3] at z; cases z
    · obtain ⟨bm, ob, b1, b2, b3, b4, b5, b6⟩ := bmod
      refine ⟨bm, ob, b1, b2, fun z => ?_, fun z => ?_, hidT_get b3 (free b3 (by rw [b6]; exact fun z => nomatch z) (by rw [b6]; exact fun _ _ z => nomatch z)), b4, b5, b6⟩
      · rw [z, g1] at b3
        cases b3
        rw [g2] at b6
        cases b6
      · rw [z, tabs d hd] at b3
        cases b3
        cases b6
    · rw [z, tabs d hd] at g1
      cases g1
      cases g2
  have en : Env0 P w K mg (hidT sA.heap H) callerA [] sA H := ⟨rfl, md, fun _ _ e => of_hidT e, Nat.le_of_eq (hidT_size _ _), trivial, fun b z => (nomatch (show b ∈ ([] : List Addr) from z)), held, .of_eq gens⟩
  refine codeAny_mono ((G _ kb (ns' gl) tb).go (us := [.ref a]) (vs := [.ref a]) room rfl en (bd sA _) (.cons rfl .nil) q) fun r s' h => ?_
  cases r with
  | error e => exact (CX_none h).elim
  | ok fl =>
    cases fl with
    | next => exact h.elim
    | brk => exact h.elim
    | cont => exact h.elim
    | ret u =>
      obtain ⟨v, H', os, bare, un, held', rv, e⟩ := h
      have ev : v = .bl true := e
      subst ev
      have eu : u = Value.bool true := rv
      subst eu
      have same : ∀ b o, (∀ d ∈ ds, b ≠ tabD K d) → sA.heap.get? b = some o → s'.heap.get? b = some o := fun b o nb eb => by
        cases z : H b with
        | none => exact un.keep b o eb z (fun y => (nomatch (show b ∈ ([] : List Addr) from y))) (fun y => nomatch y)
        | some u =>
          rcases kinds b (by rw [z]; exact fun y => nomatch y) with ⟨d, hd, ed⟩ | ⟨_, ob, xs, z2⟩
          · exact absurd ed (nb d hd)
          · have e1 := (held b _ z2).1
            rw [eb] at e1
            cases e1
            exact (held' b _ (un.frzs b o _ z2)).1
      have grown : ∀ d ∈ ds, ∃ more : Array Value, s'.heap.get? (tabD K d) = some { cls := .none, data := .fields more } := fun d hd => by
        obtain ⟨more, z⟩ := un.tbls _ #[] (hT d hd)
        exact ⟨_, held' _ _ z⟩
      refine ⟨rfl, ⟨fun b o eb => ?_, fun b o eb => ?_⟩, os, bare⟩
      · by_cases hb : ∃ d ∈ ds, b = tabD K d
        · obtain ⟨d, hd, ed⟩ := hb
          obtain ⟨more, hm⟩ := grown d hd
          subst ed
          rw [tabs d hd] at eb
          cases eb
          exact .inr (.inl ⟨((code d hd).tab (tabs d hd)).isCodeTable, rfl, #[], more, rfl, by rw [Array.empty_append]; exact hm⟩)
        · exact .inl (same b o (fun d hd ed => hb ⟨d, hd, ed⟩) eb)
      · by_cases hb : ∃ d ∈ ds, b = tabD K d
        · obtain ⟨d, hd, ed⟩ := hb
          obtain ⟨more, hm⟩ := grown d hd
          subst ed
          exact ⟨_, hm⟩
        · exact ⟨o, same b o (fun d hd ed => hb ⟨d, hd, ed⟩) eb⟩
theorem liveT {a b : Addr} : Live (fun _ => False) ⟨[], stoT K ds⟩ [] b → stoT K ds b ≠ none := fun z => Or.elim z (fun z => Or.elim z id fun z => (ow_nil z).elim) False.elim
theorem lawT_go (kin : K.In sA.heap) (gl : sA.heap.Ns mainGlobals mg) (bl : sA.heap.Ns builtinsNs mb) (bb : ∀ y : Str, y ≠ "__name__" → mb y = bootBuiltins y) (lim' : sA.heap.NoLimit) (gens : sA.gens = #[])
    (obj : sA.heap.get? a = some { cls := .type "list", data := .seq us.toArray }) (ints' : IntsAre us ns) (len : ns.length ≤ sizeLine) (room : Room k callerA)
    (tabs : ∀ d ∈ ds, sA.heap.get? (tabD K d) = some { cls := .none, data := .fields #[] }) (tout : ∀ d ∈ ds, K.lookup (tabD K d) = none) (code : ∀ d ∈ ds, PySem.W.CodeHd sA.heap (He.cT K (d, none)).1 (tabD K d)) (dif : tabNB K ds = true)
    (bmod : ∃ (bm : Addr) (ob : Obj), mg "__builtins__" = some (.ref bm) ∧ bm ≠ builtinsNs ∧ sA.heap.get? bm = some ob ∧ ob.cls = .type "module" ∧ ob.dict = some builtinsNs ∧ ob.data = .plain)
    (G : ∀ base : Heap, K.In base → base.Ns mainGlobals mg → (∀ d ∈ ds, TabB base mg (He.cT K (d, none)).1 (tabD K d)) → FnG P w K mg base k fa fd [x] (spI K 1 spec)) (bd : ∀ (s : Shared) (u : Value), BindsTo s fd ⟨[u], []⟩ [(x, u)])
    (h : ∀ S : Sto, (∀ d ∈ ds, Tb S d) → spec [.scr ns] S (fun r _ => r = .val (.bl true)) fun _ _ => False) :
    codeAny (model P w) callerA (.call (.ref fa) ⟨[.ref a], []⟩) (fun r s' => r = .ok (.ret (.bool true)) ∧ OldK sA.heap s'.heap ∧ s'.os = sA.os ∧ AllBare s'.gens) sA := by
  have rel := vals_ints ints'
  have len2 : us.length = ns.length := ints'.length
  have aT : ∀ d ∈ ds, a ≠ tabD K d := fun d hd z => by
    have e := tabs d hd
    rw [← z, obj] at e
    have z' : Data.seq us.toArray _ = Data.fields #[] := congrArg Obj.data (Option.some.inj e)
    cases z'
  have sp : ∀ {H : Hp}, SqL K H a (ns.map V.int) → (∀ d ∈ ds, H (tabD K d) = some (.tbl #[])) → spI K 1 spec [.ref a] H (fun v _ => v = .bl true) fun _ _ _ => False := fun {H} hS hT => by
    have nl : ¬ Live (fun _ => False) ⟨[], stoT K ds⟩ [] a := fun z => liveT (a := a) z (stoT_no aT)
    have r : RelW K (Live (fun _ => False) ⟨[], stoT K ds⟩ []) H (.scr ns) (.ref a) := by
      refine .scr ?_
      rcases hS with (z | ⟨o, z⟩) | z
      · exact .inr (.inl ⟨z, nl⟩)
      · exact .inl ⟨⟨o, z⟩, nl⟩
      · exact .inr (.inr z)
    refine ⟨fun _ => False, stoT K ds, [.scr ns], _, _, lkT hT, .cons r .nil, rfl, h _ fun d hd => stoT_tb dif hd, fun r S' v H' q ok => ?_, fun _ _ _ _ _ z => False.elim z⟩
    have e : r = .val (.bl true) := q
    subst e
    obtain ⟨_, _, rv⟩ := ok
    cases rv
    rfl
  let HT : Hp := fun b => if b ∈ ds.map (tabD K) then some (.tbl #[]) else none
  have ht : ∀ d ∈ ds, HT (tabD K d) = some (.tbl #[]) := fun d hd => if_pos (List.mem_map.mpr ⟨d, hd, rfl⟩)
  have hn : ∀ b, HT b ≠ none → ∃ d ∈ ds, b = tabD K d := fun b z => by
    by_cases y : b ∈ ds.map (tabD K)
    · obtain ⟨d, hd, e⟩ := List.mem_map.mp y
      exact ⟨d, hd, e.symm⟩
    · exact absurd (if_neg y) z
  have hTa : HT a = none := if_neg fun y => by
    obtain ⟨d, hd, e⟩ := List.mem_map.mp y
    exact aT d hd e.symm
  have okT : ∀ b u, HT b = some u → ObjOk P w HT sA.heap b u ∧ ∃ d ∈ ds, b = tabD K d ∧ u = .tbl #[] := fun b u z => by
    obtain ⟨d, hd, e⟩ := hn b (by rw [z]; exact fun y => nomatch y)
    subst e
    rw [ht d hd] at z
    cases z
    exact ⟨tabs d hd, d, hd, rfl, rfl⟩
  cases e : K.lookup a with
  | some o =>
    have eo := (kin a o e).symm.trans obj
    cases eo
    have sq : SqL K HT a (ns.map V.int) := .inr ⟨_, us.toArray, _, e, rfl, rfl, rfl, by rw [List.size_toArray, len2]; exact len, by simpa using rel⟩
    exact lawT_at kin gl bl bb lim' gens obj room tabs tout code bmod G bd (sp sq ht) (fun b u z => (okT b u z).1) ht (fun b z => .inl (hn b z)) fun z => (z hTa).elim
  | none =>
    let H : Hp := upd HT a (.frz { cls := .type "list", data := .seq us.toArray } (.lst (ns.map V.int)))
    have at_a : H a = some (.frz { cls := .type "list", data := .seq us.toArray } (.lst (ns.map V.int))) := upd_same
    have off : ∀ b, b ≠ a → H b = HT b := fun b z => upd_ne z
    have hTs : ∀ d ∈ ds, H (tabD K d) = some (.tbl #[]) := fun d hd => (off _ (Ne.symm (aT d hd))).trans (ht d hd)
    refine lawT_at (H := H) kin gl bl bb lim' gens obj room tabs tout code bmod G bd (sp (.inl (.inr ⟨_, at_a⟩)) hTs) (fun b u z => ?_) hTs (fun b z => ?_) fun _ => e
    · by_cases y : b = a
      · subst y
        rw [at_a] at z
        cases z
        exact ⟨obj, by rw [List.length_map]; exact len, us, _, rel, obj⟩
      · rw [off b y] at z
        obtain ⟨_, d, hd, e1, e2⟩ := okT b u z
        subst e1 e2
        exact tabs d hd
    · by_cases y : b = a
      · exact .inr ⟨y, _, _, by rw [y]; exact at_a⟩
      · rw [off b y] at z
        exact .inl (hn b z)
end
/-- THE END of a law with lambdas -/
theorem walkT {l : PySem.W.OpenLaw} {n k : Nat} {q : Program} {loose : List Str} {XP : (Str → Option Value) → Heap → Prop} {YP : World → Heap → Prop} {d : DefRec} {x : Str} (hn : l.most = some n) (hn2 : n ≤ sizeLine) (hdf : d.params.defaults = []) (room : Room k callerA)
    (T : ∀ (w : World) (mg : Str → Option Value) (fa : Addr) (h : Heap), YP w h → h.Ns mainGlobals mg → mg d.name = some (.ref fa) → ∃ (K : PySem.W.Frag) (fd : FuncData) (spec : ISp) (ds : List Str), K.In h ∧ (∀ (s : Shared) (u : Value), BindsTo s fd ⟨[u], []⟩ [(x, u)]) ∧
      (∀ c ∈ ds, h.get? (tabD K c) = some { cls := .none, data := .fields #[] } ∧ K.lookup (tabD K c) = none ∧ PySem.W.CodeHd h (He.cT K (c, none)).1 (tabD K c)) ∧ tabNB K ds = true ∧
      (∀ ns : List Int, ns.length ≤ n → ∀ S : Sto, (∀ c ∈ ds, Tb S c) → spec [.scr ns] S (fun r _ => r = .val (.bl true)) fun _ _ => False) ∧
      ∀ base : Heap, K.In base → base.Ns mainGlobals mg → (∀ c ∈ ds, TabB base mg (He.cT K (c, none)).1 (tabD K c)) → FnG l.prog w K mg base k fa fd [x] (spI K 1 spec)) :
    PySem.W.WalkO q loose XP YP l.row.toRowW d [] (fun f vs => PySem.call f vs) :=
  Att.attach_call hn hdf fun w s₀ s₁ mg mb fa o pm cd doc a vs ns G Y ho hd hcd hmg hobj hints hlen hg => by
    obtain ⟨K, fd, spec, ds, kin, bd, tb, dif, sp, F⟩ := T w mg fa _ Y G.T.g hmg
    exact lawT_go kin G.T.g G.T.b G.T.builtins G.T.nolimit hg hobj hints (Nat.le_trans hlen hn2) room (fun c hc => (tb c hc).1) (fun c hc => (tb c hc).2.1) (fun c hc => (tb c hc).2.2) dif G.T.bmain F bd (sp ns hlen)
end Sh
namespace Sh
open PySem L2
open PyProof.Rows hiding St
def keyD : Key → PyData
  | .inl i => .int i
  | .inr x => .str x
section
variable {X : Cx} {F : Addr → Prop} {Wx : WX} {a b c e : Expr} {es : List Expr} {pos p : Pos} {ia ib : IE} {n : Nat} {i : IA}
theorem keyD_depth (k : Key) : (keyD k).depth = 0 := by cases k <;> rfl
end
end Sh
namespace Sh
open PySem L2
open PyProof.Rows hiding St
section
variable {X : Cx} {F : Addr → Prop} {Wx : WX} {a b c e o : Expr} {es : List Expr} {pos p apos cpos : Pos} {ia ib ic : IE} {it : IT} {i : IA} {x : Str}
def tPeek (it : IT) : IT := fun _ st Q => it (fun _ _ => False) st.pk fun b _ => Q b st
theorem t_peek (h : PT X e (LT X.K F Wx it)) : PT X e (LT X.K F Wx (tPeek it)) := pt_imp h fun σ H Q h => by
  obtain ⟨st, QI, EI, l, q, ux, k⟩ := h
  refine ⟨st.pk, _, _, l.pk, q, (fun _ _ _ _ _ z => z.elim), fun b st1 H1 q1 l1 s1 => ?_⟩
  have ext : ∀ a u, H a = some u → H1 a = some u := fun a u e => s1.keep a u e pk_wr
  exact k b st H1 q1 (l.ext ext) ⟨fun a u e _ => ext a u e, fun _ z => .inl z⟩
def gInD (neg : Bool) : W → W → (W → Prop) → Prop := fun x y P => match y with
  | .lst ws => okD 60 x = true ∧ ws.all (okD 60) = true ∧ P (.bl (if neg then !inW x ws else inW x ws))
  | _ => False
end
section
variable {X : Cx}
end
section
variable {X : Cx} {F : Addr → Prop} {Wx : WX} {o e : Expr} {apos cpos px : Pos} {ia ib : IE} {x name : Str} {id : String}
end
section
variable {X : Cx} {F : Addr → Prop} {Wx : WX} {apos cpos px : Pos} {x name : Str} {id : String}
def iMtO0 (j : Nat) (g : List W → List W → (List W → W → Prop) → Prop) : IE := fun _ st Q => ownL st j fun ws => g ws [] fun ws' w => Q w (st.put j (.own (.lst ws')))
theorem i_mtO0 (j : Nat) {r : V → List V → Hp → VK → Prop} {g : List W → List W → (List W → W → Prop) → Prop} (hg : MtG r g) (hm : MtR X id r) (slot : PySem.Slot "list" name id) (hty : typeOf (.builtin id) = pure (.type "method_descriptor"))
    (hN : X.N[j]? = some x := by rfl) (hv : Vis X.env.scope x := by first | exact Or.inl rfl | exact Or.inr (Or.inl rfl) | exact Or.inr (Or.inr rfl)) (hd : (x == ("__debug__" : Str)) = false := by decide) (hcd : (x == ("__classdict__" : Str)) = false := by decide)
    (hbase : attributeBase (.Name x px) name X.env (eval (.Name x px) X.env) = eval (.Name x px) X.env := by rfl) (hline : (apos.endLine == cpos.line) = true := by rfl) :
    PE X (.Call (.Attribute (.Name x px) name apos) [] [] cpos) (LE X.K F Wx (iMtO0 j g)) := by
  refine pe_imp (pe_bm0 PySem.F.plainAttrs_list slot hty hm (pe_var hN hv hd hcd) hbase hline) fun σ H Q h => ?_
  obtain ⟨st, QI, EI, l, q, ux, k⟩ := h
  obtain ⟨ws, e0, q⟩ := ownL_inv q
  obtain ⟨b, eb, ⟨vs, hv0, rs⟩, _⟩ := l.own j _ e0
  refine ⟨.ref b, eb, .inl ⟨rfl, _, SqL.of hv0⟩, hg q hv0 rs .nil fun ws' w vs' v p r2 rw' => ?_⟩
  have la : Live F st σ b := .inl (.inr ⟨j, _, e0, eb⟩)
  have m : Mv (Live F st σ) H (Live F st σ) (upd H b (.lst vs')) := Mv.write la fun _ z => z
  obtain ⟨l2, s2⟩ := l.write (o' := .lst ws') (u := .lst vs') e0 eb ⟨vs', upd_same, r2.mono m⟩
  exact k w _ v _ p l2 s2 (rw'.mono s2.mv)
def gClear : List W → List W → (List W → W → Prop) → Prop := fun _ as P => as = [] ∧ P [] .non
theorem mg_clear : MtG rClear gClear := by
  intro K Lv H l ws as vs us P Q h hl rs ra k
  obtain ⟨rfl, p⟩ := h
  cases ra
  exact ⟨l, vs, rfl, rfl, hl, k _ _ _ _ p .nil .non⟩
end
section
variable {X : Cx} {F : Addr → Prop} {Wx : WX} {e : Expr} {es : List Expr} {pos p : Pos} {i : IA} {n : Nat}
end
theorem pt_w {X : Cx} {e : Expr} {t : TT} (h : PW X e t) : PT X e t := h.pt
end Sh
namespace Sh
open PySem L2
open PyProof.Rows hiding St
section
variable {X : Cx} {F : Addr → Prop} {Wx : WX} {tg a b c : Expr} {pos p : Pos} {ia ib ic : IE}
end
section
variable {X : Cx} {F : Addr → Prop} {Wx : WX} {e : Expr} {es : List Expr} {pos p : Pos} {i : IA} {n : Nat}
def max3 (i j k : Int) : Int := if j > i then (if k > j then k else j) else (if k > i then k else i)
def gMax3 : List W → (W → Prop) → Prop := fun ws P => match ws with
  | [.int a, .int b, .int c] => P (.int (max3 a b c))
  | _ => False
end
end Sh
namespace Sh
open PySem L2
open PyProof.Rows hiding St
def okN : Nat → W → Bool
  | _, .non => true
  | _, .bl _ => true
  | _, .int _ => true
  | _, .str _ => true
  | n + 1, .tup ws => ws.all (okN n)
  | n + 1, .lst ws => ws.all (okN n)
  | n + 1, .dct kvs => kvs.all fun p => okN n p.2
  | _, _ => false
mutual
def toN : W → PyData
  | .bl b => .bool b
  | .int i => .int i
  | .str x => .str x
  | .tup ws => .tuple (toNs ws)
  | .lst ws => .list (toNs ws)
  | .dct kvs => .dict (toNk kvs)
  | _ => .none
def toNs : List W → List PyData
  | [] => []
  | w :: ws => toN w :: toNs ws
def toNk : List (Key × W) → List (PyData × PyData)
  | [] => []
  | (k, w) :: r => (keyD k, toN w) :: toNk r
end
mutual
inductive Dn (K : PySem.W.Frag) (H : Hp) : V → PyData → Prop
  | non : Dn K H .non .none
  | bl (b : Bool) : Dn K H (.bl b) (.bool b)
  | int (i : Int) : Dn K H (.int i) (.int i)
  | str (x : Str) : Dn K H (.str x) (.str x)
  | lst {a : Addr} {xs : List V} {ds : List PyData} : SqL K H a xs → DnAll K H xs ds → Dn K H (.ref a) (.list ds)
  | tup {a : Addr} {xs : List V} {ds : List PyData} : SqT K H a xs → DnAll K H xs ds → Dn K H (.ref a) (.tuple ds)
  | dct {a : Addr} {ks : List (Key × V)} {ds : List (PyData × PyData)} : H a = some (.dK ks) → DnKs K H ks ds → Dn K H (.ref a) (.dict ds)
inductive DnAll (K : PySem.W.Frag) (H : Hp) : List V → List PyData → Prop
  | nil : DnAll K H [] []
  | cons {v : V} {vs : List V} {d : PyData} {ds : List PyData} : Dn K H v d → DnAll K H vs ds → DnAll K H (v :: vs) (d :: ds)
inductive DnKs (K : PySem.W.Frag) (H : Hp) : List (Key × V) → List (PyData × PyData) → Prop
  | nil : DnKs K H [] []
  | cons {k : Key} {v : V} {vs : List (Key × V)} {d : PyData} {ds : List (PyData × PyData)} : Dn K H v d → DnKs K H vs ds → DnKs K H ((k, v) :: vs) ((keyD k, d) :: ds)
end
section
variable {K : PySem.W.Frag} {Lv : Addr → Prop} {H : Hp}
mutual
theorem dn_of : ∀ {n : Nat} (w : W) {v : V}, okN n w = true → RelW K Lv H w v → Dn K H v (toN w)
  | _, .non, _, _, .non => .non
  | _, .bl b, _, _, .bl _ => .bl b
  | _, .int i, _, _, .int _ => .int i
  | _, .str x, _, _, .str _ => .str x
  | n + 1, .tup ws, _, h, .tup f r => .tup f.sq (dns_of ws (show ws.all (okN n) = true from h) r)
  | n + 1, .lst ws, _, h, .lst f r => .lst f.sq (dns_of ws (show ws.all (okN n) = true from h) r)
  | n + 1, .dct kvs, _, h, .dct e _ r => .dct e (dnk_of kvs (show (kvs.all fun p => okN n p.2) = true from h) r)
  | 0, .tup ws, _, h, _ => by simp [okN] at h
  | 0, .lst ws, _, h, _ => by simp [okN] at h
  | 0, .dct ws, _, h, _ => by simp [okN] at h
  | n, .obj _ _, _, h, _ => by cases n <;> simp [okN] at h
  | n, .dcT _, _, h, _ => by cases n <;> simp [okN] at h
  | n, .exn _ _ _ _, _, h, _ => by cases n <;> simp [okN] at h
  | n, .ref _, _, h, _ => by cases n <;> simp [okN] at h
  | n, .ty _, _, h, _ => by cases n <;> simp [okN] at h
  | n, .scr _, _, h, _ => by cases n <;> simp [okN] at h
  | n, .glo _, _, h, _ => by cases n <;> simp [okN] at h
theorem dns_of : ∀ {n : Nat} (ws : List W) {vs : List V}, ws.all (okN n) = true → RelWs K Lv H ws vs → DnAll K H vs (toNs ws)
  | _, [], _, _, .nil => .nil
  | n, w :: ws, _, h, .cons r rs => by
    rw [List.all_cons, Bool.and_eq_true] at h
    exact .cons (dn_of w h.1 r) (dns_of ws h.2 rs)
theorem dnk_of : ∀ {n : Nat} (ws : List (Key × W)) {vs : List (Key × V)}, (ws.all fun p => okN n p.2) = true → RelKs K Lv H ws vs → DnKs K H vs (toNk ws)
  | _, [], _, _, .nil => .nil
  | n, (k, w) :: ws, _, h, .cons r rs => by
    rw [List.all_cons, Bool.and_eq_true] at h
    exact .cons (dn_of w h.1 r) (dnk_of ws h.2 rs)
end
end
/-- the interpreter's own dict is among what is looked at -/
def sysB (K : PySem.W.Frag) : Bool := match K.lookup sysModules with
  | some ⟨_, _, .dict _ _, _⟩ => true
  | _ => false
section
variable {X : Cx} {pins : List (Addr × Obj)} {σ : St} {H : Hp} {s : Shared}
theorem sys_at (I : Inv X pins σ H s) (h : sysB X.K = true) : ∃ o es n, s.heap.get? sysModules = some o ∧ o.data = .dict es n := by
  unfold sysB at h
  split at h
  · rename_i e
    exact ⟨_, _, _, I.kIn _ _ e, rfl⟩
  · cases h
mutual
theorem Dn.reads (I : Inv X pins σ H s) (hs : sysB X.K = true) : ∀ {d : PyData} {v : V} (u : Value), Dn X.K H v d → RelV v u → ∃ as, Reads s.heap u d as ∧ sysModules ∉ as
  | _, _, _, .non, r => by
    cases r
    exact ⟨_, Reads.none, by simp⟩
  | _, _, _, .bl b, r => by
    cases r
    exact ⟨_, Reads.bool b, by simp⟩
  | _, _, _, .int i, r => by
    obtain ⟨t, rfl⟩ := r
    exact ⟨_, Reads.int i t, by simp⟩
  | _, _, _, .str x, r => by
    obtain ⟨t, rfl⟩ := r
    exact ⟨_, Reads.str x t, by simp⟩
  | _, _, _, .lst (a := a) h1 h2, r => by
    cases r
    obtain ⟨its, rv, ⟨o, n, ho, hc, _, hd⟩, _⟩ := I.list h1
    obtain ⟨as, hr, hn⟩ := Dn.readsAll I hs its h2 rv
    refine ⟨_, Reads.list ho hc hd hr, fun z => ?_⟩
    rcases List.mem_cons.mp z with z | z
    · obtain ⟨o', _, _, e1, e2⟩ := sys_at I hs
      rw [z, ho] at e1
      cases e1
      rw [hd] at e2
      cases e2
    · exact hn z
  | _, _, _, .tup h1 h2, r => by
    cases r
    obtain ⟨its, rv, ⟨o, ho, hc, n, hd⟩, _⟩ := I.tuple h1
    obtain ⟨as, hr, hn⟩ := Dn.readsAll I hs its h2 rv
    exact ⟨_, Reads.tuple ho hc hd hr, hn⟩
  | _, _, _, .dct (a := a) (ks := ks) h1 h2, r => by
    cases r
    obtain ⟨_, ysm, va, kv, o, es, ep, ho, hex, hdat, _, pr, _⟩ := (show ObjOk X.prog X.w H s.heap a (.dK ks) from I.hok a _ h1)
    obtain ⟨bs, hk, hv, hn⟩ := Dn.readsKs I hs pr kv h2
    refine ⟨_, Reads.dict ho hex.1 hdat hk hv, fun z => ?_⟩
    simp only [List.append_nil, List.cons_append, List.nil_append, List.mem_cons] at z
    rcases z with z | z
    · rw [z] at ysm
      simp at ysm
    · exact hn z
theorem Dn.readsAll (I : Inv X pins σ H s) (hs : sysB X.K = true) : ∀ {ds : List PyData} {vs : List V} (us : List Value), DnAll X.K H vs ds → Vals vs us → ∃ as, ReadsAll s.heap us ds as ∧ sysModules ∉ as
  | _, _, _, .nil, r => by
    cases r
    exact ⟨_, ReadsAll.nil, by simp⟩
  | _, _, _, .cons h1 h2, r => by
    cases r with
    | cons r1 r2 =>
      obtain ⟨as, q1, n1⟩ := Dn.reads I hs _ h1 r1
      obtain ⟨bs, q2, n2⟩ := Dn.readsAll I hs _ h2 r2
      exact ⟨_, ReadsAll.cons q1 q2, fun z => (List.mem_append.mp z).elim n1 n2⟩
theorem Dn.readsKs (I : Inv X pins σ H s) (hs : sysB X.K = true) : ∀ {es : List DictEntry} {va : List (Key × Value)} {ks : List (Key × V)} {D : List (PyData × PyData)}, Pairs (mixKind X.prog X.w) es va → KV ks va → DnKs X.K H ks D →
    ∃ bs, ReadsAll s.heap (es.map (·.key)) (D.map (·.1)) [] ∧ ReadsAll s.heap (es.map (·.val)) (D.map (·.2)) bs ∧ sysModules ∉ bs
  | _, _, _, _, .nil, kv, .nil => ⟨_, .nil, .nil, by simp⟩
  | _, _, _, _, .cons h1 h2 r, kv, .cons d1 dr => by
    cases kv with
    | cons k1 kr =>
    obtain ⟨k1a, k1b⟩ := k1
    obtain ⟨as, q1, n1⟩ := Dn.reads I hs _ d1 k1b
    obtain ⟨bs, i1, i2, n2⟩ := Dn.readsKs I hs r kr dr
    refine ⟨as ++ bs, ?_, ?_, fun z => (List.mem_append.mp z).elim n1 n2⟩
    · rw [List.map_cons, List.map_cons]
      refine .cons (as := []) ?_ i1
      rw [← k1a] at h1
      rcases keyIs_shape h1 with ⟨i, t, e1, e2⟩ | ⟨x, t, e1, e2⟩
      · simp only at e1; subst e1; rw [e2]; exact Reads.int i t
      · simp only at e1; subst e1; rw [e2]; exact Reads.str x t
    · rw [List.map_cons, List.map_cons, h2]
      exact .cons q1 i2
end
end
mutual
theorem depth_of : ∀ {n : Nat} (w : W), okN n w = true → (toN w).depth ≤ n
  | _, .non, _ => Nat.zero_le _
  | _, .bl b, _ => Nat.zero_le _
  | _, .int i, _ => Nat.zero_le _
  | _, .str x, _ => Nat.zero_le _
  | n + 1, .tup ws, h => by
    have := depths_of ws (show ws.all (okN n) = true from h)
    show PyData.depthAll (toNs ws) + 1 ≤ n + 1
    omega
  | n + 1, .lst ws, h => by
    have := depths_of ws (show ws.all (okN n) = true from h)
    show PyData.depthAll (toNs ws) + 1 ≤ n + 1
    omega
  | n + 1, .dct ws, h => by
    have := depthk_of ws (show (ws.all fun p => okN n p.2) = true from h)
    show PyData.depthKv (toNk ws) + 1 ≤ n + 1
    omega
  | 0, .tup ws, h => by simp [okN] at h
  | 0, .lst ws, h => by simp [okN] at h
  | 0, .dct ws, h => by simp [okN] at h
  | n, .obj _ _, h => by cases n <;> simp [okN] at h
  | n, .dcT _, h => by cases n <;> simp [okN] at h
  | n, .exn _ _ _ _, h => by cases n <;> simp [okN] at h
  | n, .ref _, h => by cases n <;> simp [okN] at h
  | n, .ty _, h => by cases n <;> simp [okN] at h
  | n, .scr _, h => by cases n <;> simp [okN] at h
  | n, .glo _, h => by cases n <;> simp [okN] at h
theorem depths_of : ∀ {n : Nat} (ws : List W), ws.all (okN n) = true → PyData.depthAll (toNs ws) ≤ n
  | _, [], _ => Nat.zero_le _
  | n, w :: ws, h => by
    rw [List.all_cons, Bool.and_eq_true] at h
    have a := depth_of w h.1
    have b := depths_of ws h.2
    show max (toN w).depth (PyData.depthAll (toNs ws)) ≤ n
    omega
theorem depthk_of : ∀ {n : Nat} (ws : List (Key × W)), (ws.all fun p => okN n p.2) = true → PyData.depthKv (toNk ws) ≤ n
  | _, [], _ => Nat.zero_le _
  | n, (k, w) :: ws, h => by
    rw [List.all_cons, Bool.and_eq_true] at h
    have a := depth_of w h.1
    have b := depthk_of ws h.2
    show max (max (keyD k).depth (toN w).depth) (PyData.depthKv (toNk ws)) ≤ n
    rw [keyD_depth]
    omega
end
def RepN (w : W) : Prop := okN 60 w = true ∧ (toN w).showable = true ∧ (toN w).shown.length ≤ sizeLine
def refW : W → Bool
  | .tup _ => true
  | .lst _ => true
  | .dct _ => true
  | _ => false
theorem refW_tup (ws : List W) : refW (.tup ws) = true := rfl
theorem refW_lst (ws : List W) : refW (.lst ws) = true := rfl
theorem refW_dct (ws : List (Key × W)) : refW (.dct ws) = true := rfl
theorem refW_int (i : Int) : refW (.int i) = false := rfl
theorem refW_str (x : Str) : refW (.str x) = false := rfl
theorem refW_bl (b : Bool) : refW (.bl b) = false := rfl
theorem refW_non : refW .non = false := rfl
def gReprN : List W → (W → Prop) → Prop := fun ws P => match ws with
  | [w] => if refW w = true then RepN w ∧ P (.str (toN w).shown) else RepOk w ∧ P (.str (toD w).shown)
  | _ => False
def rReprN (K : PySem.W.Frag) : List V → Hp → VK → Prop := fun vs H Q => ∃ (a : Addr) (d : PyData), vs = [.ref a] ∧ Dn K H (.ref a) d ∧ d.showable = true ∧ d.shown.length ≤ sizeLine ∧ d.depth ≤ 60 ∧ Q (.str d.shown) H
def rReprNX (K : PySem.W.Frag) : List V → Hp → VK → Prop := fun vs H Q => rRepr K vs H Q ∨ rReprN K vs H Q
section
variable {X : Cx} {F : Addr → Prop} {Wx : WX} {a b c e : Expr} {es : List Expr} {pos p : Pos} {ia ib : IE} {n : Nat} {i : IA}
theorem cr_reprN (sys : sysB X.K = true) (hgd : X.A.guards = some []) (hu : X.A.units + 64 < cLine) : CallR X (.builtin "repr") (rReprN X.K) := by
  intro pins s σ H xs us Q I r h
  obtain ⟨a, d, rfl, hd, hs, hz, hdp, q⟩ := h
  obtain ⟨u, rfl, ru⟩ := vals1 r
  cases (show u = Value.ref a from ru)
  obtain ⟨as, rr, hn⟩ := Dn.reads I sys _ hd ru
  exact PySem.repr_of_reads' rr hs (fun _ => hn) hgd (by omega) (fun _ _ e => e) (fun h' u tk hk => ⟨.str _, H, I.kept hk, ⟨_, rfl⟩, q⟩) hz
theorem ref_of {K : PySem.W.Frag} {Lv : Addr → Prop} {H : Hp} {w : W} {v : V} (h : refW w = true) (r : RelW K Lv H w v) : ∃ a, v = .ref a := by
  cases r <;> first | exact ⟨_, rfl⟩ | cases h
theorem bt_reprN {K : PySem.W.Frag} : BtG K (rReprNX K) gReprN := by
  intro F st σ H ws vs P Q h l r k
  unfold gReprN at h
  split at h
  · rename_i _ w
    split at h
    · rename_i hr
      obtain ⟨⟨h1, h2, h3⟩, p⟩ := h
      cases r with
      | cons ra r1 =>
      cases r1
      obtain ⟨a, rfl⟩ := ref_of hr ra
      exact .inr ⟨a, _, rfl, dn_of w h1 ra, h2, h3, depth_of w h1, k _ _ H p l .refl (.str _)⟩
    · have h2 : gRepr [w] P := h
      exact .inl (bt_repr h2 l r k)
  · exact h.elim
theorem i_reprN (sys : sysB X.K = true) (hgd : X.A.guards = some []) (hu : X.A.units + 64 < cLine) (hm : X.mg "repr" = none) (ha : PA X (e :: es) (LA X.K F Wx n i)) (hg : Gl X "repr" := by rfl) (he : starEach (e :: es) X.env = (false, eval e X.env) :: starEach es X.env := by rfl) (hpl : (backTo pos (starEach es X.env)).any (·.1) = false := by rfl) :
    PE X (.Call (.Name "repr" p) (e :: es) [] pos) (LE X.K F Wx (iFn gReprN i)) := i_fn ((cr_repr hgd hu).or (cr_reprN sys hgd hu)) bt_reprN hm boot_repr' ha hg (by decide) (by decide) he hpl
end
section
variable {K : PySem.W.Frag} {Lv Lv' : Addr → Prop} {H : Hp}
end
section
variable {X : Cx} {pins : List (Addr × Obj)} {σ : St} {H : Hp} {s : Shared}
end
def gEqN : W → W → (W → Prop) → Prop := fun x y P => (x = y ∧ refW x = true ∧ okN 60 x = true ∧ P (.bl true)) ∨ (∃ us vs, x = .lst us ∧ y = .lst vs ∧ us.length ≠ vs.length ∧ P (.bl false)) ∨ gEq x y P
section
variable {X : Cx} {F : Addr → Prop} {Wx : WX} {a b : Expr} {pos : Pos} {ia ib : IE}
end
end Sh
namespace Sh
open PySem L2
open PyProof.Rows hiding St
def TupB (xs : List V) (p : Addr) : HO := .ext fun h => ∃ its : List Value, Vals xs its ∧ h.get? p = some { cls := .type "tuple", data := .seq its.toArray }
section
variable {X : Cx}
def rSlB (K : PySem.W.Frag) : V → Option Int → Option Int → Hp → VK → Prop := fun x lo hi H Q => ∃ a xs, x = .ref a ∧ SqT K H a xs ∧ ¬ (HT.sIx xs.length 0 lo = 0 ∧ HT.sIx xs.length xs.length hi = xs.length) ∧
  ∀ p, H p = none → Q (.ref p) (upd H p (TupB (cutV xs lo hi) p))
theorem sl_tupB : SlR X (rSlB X.K) := by
  intro pins s σ H x v vl vu lo hi sl Q I rx hs pl pu h
  obtain ⟨a, xs, rfl, hx, hw, q⟩ := h
  cases rx
  obtain ⟨its, r, ht, hz⟩ := I.tuple hx
  have hlen : its.toArray.size = xs.length := by rw [List.size_toArray]; exact r.length.symm
  refine ⟨"tuple", _, PyProof.Rows.slot_tuple_getitem.lookup, ht.typeIs, ?_⟩
  refine HT.getItem_tuple_cut ht hs pl pu (by rw [hlen]; exact hw) ?_ (by rw [hlen]; exact hz)
  rw [hlen]
  have r2 : Vals (cutV xs lo hi) ((its.toArray.toList.drop (HT.sIx xs.length 0 lo)).take (HT.sIx xs.length xs.length hi - HT.sIx xs.length 0 lo)) := (r.drop (HT.sIx xs.length 0 lo)).take (HT.sIx xs.length xs.length hi - HT.sIx xs.length 0 lo)
  refine ⟨.ref s.heap.objs.size, _, I.laid (t' := s.toks) (o := TupB (cutV xs lo hi) s.heap.objs.size) (fun b ob q => Heap.get?_push_of_some _ q) (Nat.le_refl _) ?_, rfl, q _ (I.hok.fresh (Nat.le_refl _))⟩
  exact ⟨⟨_, r2, Heap.get?_push_size _ rfl⟩, ⟨_, Heap.get?_push_size _ rfl⟩, fun h1 h2 ⟨z, r3, e⟩ k => ⟨z, r3, k _ e⟩⟩
variable {o e : Expr} {es : List Expr} {to : TE} {t : TA} {apos cpos : Pos}
def tIdxB (to : TE) (t : TA) : TE := fun σ H Q => to σ H fun x H1 => ∃ p ys, x = .ref p ∧ H1 p = some (TupB ys p) ∧ t σ H1 fun xs H2 => ∃ (ns : List Int) (k : Int), ys = ns.map V.int ∧ H2 p = some (TupB ys p) ∧ xs = [.int k] ∧ k ∈ ns ∧ Q (.int (ns.idxOf k : Nat)) H2
theorem pe_idxB (ho : PE X o to) (ha : PA X (e :: es) t)
    (hbase : attributeBase o "index" X.env (eval o X.env) = eval o X.env := by rfl)
    (hfew : ((backTo cpos (starEach (e :: es) X.env)).all (fun x => !x.1) && (backToKw cpos (keywordEach [] X.env)).all (fun x => x.1.isSome)
      && decide ((e :: es).length + ([] : List Keyword).length + (if ([] : List Keyword).isEmpty then 0 else 1) < 30)) = true := by rfl)
    (hline : (apos.endLine == cpos.line) = true := by rfl) (hs : starEach (e :: es) X.env = (false, eval e X.env) :: starEach es X.env := by rfl) (hplain : (backTo cpos (starEach es X.env)).any (·.1) = false := by rfl) :
    PE X (.Call (.Attribute o "index" apos) (e :: es) [] cpos) (tIdxB to t) := by
  refine ⟨fun pins s σ H Q I h => ?_⟩
  refine wpAny_Call_method_late hbase hfew hline rfl (thn (ho.run pins s σ H _ I h) fun v s1 ⟨x, H1, I1, r1, p, ys, e1, hp, q1⟩ => ?_)
  subst e1
  cases r1
  have z := I1.hok p _ hp
  obtain ⟨⟨its, rv, eg⟩, _⟩ := z
  have h1 : s1.TypeIs (.ref p) "tuple" := ⟨_, eg, rfl⟩
  have h2 : ∀ a, Value.ref p = .ref a → ∃ ob, s1.heap.get? a = some ob ∧ ob.dict = none := fun a ea => by cases ea; exact ⟨_, eg, rfl⟩
  refine ⟨"tuple", "tuple.index", PySem.F.plainAttrs_tuple, PySem.F.slot_tuple_index, PySem.F.type_tuple_index, h1, h2, ?_⟩
  have hA := ha.run cpos pins s1 σ H1 _ I1 q1
  rw [hs] at hA ⊢
  refine Calls.callWith_builtin (by show (false || (backTo cpos (starEach es X.env)).any (·.1)) = false; rw [hplain] <;> rfl) (Calls.evalArgs_plain ?_)
  refine thn hA fun us s2 ⟨vs, H2, I2, r2, ns, k, e2, hp2, e3, hk, q2⟩ => ?_
  subst e2 e3
  cases r2 with
  | cons ry rt =>
    cases rt
    obtain ⟨tk, rfl⟩ := ry
    obtain ⟨⟨its2, rv2, eg2⟩, _⟩ := I2.hok p _ hp2
    refine SeqAt.tuple_index_ints (vs := its2) (ns := ns) ⟨_, eg2, rfl, _, rfl⟩ (intsAre_of rv2) hk ?_
    exact ⟨.int (ns.idxOf k : Nat), H2, I2.tok _, ⟨_, rfl⟩, q2⟩
end
section
variable {X : Cx} {F : Addr → Prop} {Wx : WX} {a o e : Expr} {apos cpos pos p2 : Pos} {ia : IE}
def iIdxT (ia : IE) (lo hi : IO') (i : IA) : IE := fun EI st Q => ia EI st fun x st1 => lo EI st1 fun l st2 => hi EI st2 fun u st3 => match x with
  | .tup ws => ¬ (HT.sIx ws.length 0 l = 0 ∧ HT.sIx ws.length ws.length u = ws.length) ∧ i EI st3 fun as st4 => match as with
    | [.int k] => ∃ ns : List Int, cutW ws l u = ns.map W.int ∧ k ∈ ns ∧ Q (.int (ns.idxOf k : Nat)) st4
    | _ => False
  | _ => False
theorem rel_ints {K : PySem.W.Frag} {Lv : Addr → Prop} {H : Hp} : ∀ {ns : List Int} {vs : List V}, RelWs K Lv H (ns.map W.int) vs → vs = ns.map V.int
  | [], _, .nil => rfl
  | n :: ns, _, .cons h r => by cases h; rw [rel_ints r]; rfl
theorem i_idxT {n : Nat} {lo hi : Option Expr} {il ih : IO'} {i : IA} (ho : PE X a (LE X.K F Wx ia)) (hl : PO X lo (LO X.K F Wx il)) (hh : PO X hi (LO X.K F Wx ih)) (ha : PA X [e] (LA X.K F Wx n i))
    (hbase : attributeBase (.Subscript a (.Slice lo hi none p2) pos) "index" X.env (eval (.Subscript a (.Slice lo hi none p2) pos) X.env) = eval (.Subscript a (.Slice lo hi none p2) pos) X.env := by rfl)
    (hfew : ((backTo cpos (starEach [e] X.env)).all (fun x => !x.1) && (backToKw cpos (keywordEach [] X.env)).all (fun x => x.1.isSome) && decide ([e].length + ([] : List Keyword).length + (if ([] : List Keyword).isEmpty then 0 else 1) < 30)) = true := by rfl)
    (hline : (apos.endLine == cpos.line) = true := by rfl) (hs : starEach [e] X.env = (false, eval e X.env) :: starEach [] X.env := by rfl) (hplain : (backTo cpos (starEach [] X.env)).any (·.1) = false := by rfl) :
    PE X (.Call (.Attribute (.Subscript a (.Slice lo hi none p2) pos) "index" apos) [e] [] cpos) (LE X.K F Wx (iIdxT ia il ih i)) := by
  refine pe_imp (pe_idxB (pe_slice sl_tupB ho hl hh) ha hbase hfew hline hs hplain) fun σ H Q h => ?_
  obtain ⟨st, QI, EI, l, q, ux, k⟩ := h
  refine ⟨st, _, EI, l, q, ux, fun x st1 v H1 q1 l1 s1 r1 => ⟨st1, _, EI, l1, q1, ux.step s1, fun lo st2 H2 q2 l2 s2 => ⟨st2, _, EI, l2, q2, ux.step (s1.trans s2), fun hi st3 H3 q3 l3 s3 => ?_⟩⟩⟩
  have r3 := (r1.mono s2.mv).mono s3.mv
  split at q3
  · cases r3 with
    | tup f r =>
      rename_i vs
      obtain ⟨hw, q3⟩ := q3
      refine ⟨_, vs, rfl, f.sq, by rw [← r.length]; exact hw, fun p hp => ?_⟩
      have s4 := Step.laid (o := TupB (cutV vs lo hi) p) l3 hp
      have l4 := l3.laid (o := TupB (cutV vs lo hi) p) hp
      have s14 := ((s1.trans s2).trans s3).trans s4
      have nW : ¬ Wr st3 σ p := fun z => l3.fresh hp (.inl z)
      refine ⟨p, _, rfl, upd_same, st3, _, EI, l4, q3, ux.step s14, fun as st5 us H5 hn q5 l5 s5 r5 => ?_⟩
      split at q5
      · obtain ⟨ns, e1, hk, q5⟩ := q5
        cases r5 with
        | cons ry rt =>
          cases rt
          cases ry
          have rc := cut_rel r lo hi
          rw [e1] at rc
          exact ⟨ns, _, rel_ints rc, s5.keep _ _ upd_same nW, rfl, hk, k _ st5 _ H5 q5 l5 (s14.trans s5) (.int _)⟩
      · exact q5.elim
  · exact q3.elim
def rIdxL (K : PySem.W.Frag) : V → List V → Hp → VK → Prop := fun x xs H Q => ∃ (a : Addr) (ns : List Int) (k : Int), x = V.ref a ∧ xs = [.int k] ∧ SqL K H a (ns.map V.int) ∧ k ∈ ns ∧ Q (.int (ns.idxOf k : Nat)) H
theorem mt_index : MtR X "list.index" (rIdxL X.K) := by
  intro pins s σ H x xs v us Q I rx rxs h
  obtain ⟨a, ns, k, rfl, rfl, hs, hk, q⟩ := h
  cases rx
  cases rxs with
  | cons ry rt =>
    cases rt
    obtain ⟨tk, rfl⟩ := ry
    obtain ⟨its, rv, pl, hlen⟩ := I.list hs
    refine SeqAt.list_index_ints (vs := its) (ns := ns) pl.isList (intsAre_of rv) (by simpa using hlen) hk ?_
    exact ⟨.int (ns.idxOf k : Nat), H, I.tok _, ⟨_, rfl⟩, q⟩
def iIdxL (ia : IE) (i : IA) : IE := fun EI st Q => ia EI st fun x st1 => match x with
  | .lst ws => i EI st1 fun as st2 => match as with
    | [.int k] => ∃ ns : List Int, ws = ns.map W.int ∧ k ∈ ns ∧ Q (.int (ns.idxOf k : Nat)) st2
    | _ => False
  | _ => False
theorem i_idxL {n : Nat} {i : IA} (ho : PE X o (LE X.K F Wx ia)) (ha : PA X [e] (LA X.K F Wx n i))
    (hbase : attributeBase o "index" X.env (eval o X.env) = eval o X.env := by rfl)
    (hfew : ((backTo cpos (starEach [e] X.env)).all (fun x => !x.1) && (backToKw cpos (keywordEach [] X.env)).all (fun x => x.1.isSome) && decide ([e].length + ([] : List Keyword).length + (if ([] : List Keyword).isEmpty then 0 else 1) < 30)) = true := by rfl)
    (hline : (apos.endLine == cpos.line) = true := by rfl) (hs : starEach [e] X.env = (false, eval e X.env) :: starEach [] X.env := by rfl) (hplain : (backTo cpos (starEach [] X.env)).any (·.1) = false := by rfl) :
    PE X (.Call (.Attribute o "index" apos) [e] [] cpos) (LE X.K F Wx (iIdxL ia i)) := by
  refine pe_imp (pe_bm PySem.F.plainAttrs_list PySem.F.slot_list_index PySem.F.type_list_index mt_index ho ha hbase hfew hline hs hplain) fun σ H Q h => ?_
  obtain ⟨st, QI, EI, l, q, ux, k⟩ := h
  refine ⟨st, _, EI, l, q, ux, fun x st1 v H1 q1 l1 s1 r1 => ?_⟩
  split at q1
  · cases r1 with
    | lst f rs =>
      refine ⟨.inl ⟨rfl, _, f.sq⟩, st1, _, EI, l1, q1, ux.step s1, fun as st2 us H2 hn q2 l2 s2 r2 => ?_⟩
      split at q2
      · obtain ⟨ns, e1, hk, q2⟩ := q2
        cases r2 with
        | cons ry rt =>
          cases rt
          cases ry
          have r3 := (RelW.lst f rs).mono s2.mv
          cases r3 with
          | lst g rg =>
            subst e1
            have e4 := rel_ints rg
            subst e4
            exact ⟨_, ns, _, rfl, rfl, g.sq, hk, k _ st2 _ H2 q2 l2 (s1.trans s2) (.int _)⟩
      · exact q2.elim
  · exact q1.elim
end
end Sh
namespace Sh
open PySem L2
open PyProof.Rows hiding St
section
variable {X : Cx}
end
section
variable {X : Cx} {F : Addr → Prop} {Wx : WX} {a b c e o : Expr} {es : List Expr} {apos cpos pos p2 pos2 px : Pos} {ia ib : IE} {x name : Str} {id : String} {k' n : Nat} {i : IA} {nn : IN} {m : Str} {tb : List (Str × ISp)}
def iInRg (neg : Bool) (ia : IE) (i : IA) : IE := fun EI st Q => ia EI st fun x st1 => i EI st1 fun ws st2 => match x, ws with
  | .int k, [.int hi] => Q (.bl (if neg = true then !decide (0 ≤ k ∧ k < hi) else decide (0 ≤ k ∧ k < hi))) st2
  | .int k, [.int lo, .int hi] => Q (.bl (if neg = true then !decide (lo ≤ k ∧ k < hi) else decide (lo ≤ k ∧ k < hi))) st2
  | _, _ => False
def newP (P : SO → Stt → Prop) (st : Stt) : R → Prop
  | .new o => P o st
  | .val _ => False
theorem new_back {st1 : Stt} {σ : L2.St} {H1 H2 : Hp} {r : R} {S' : Sto} {v : V} {P : SO → Stt → Prop} (l1 : Lk X.K F st1 σ H1) (h2 : RetOk X.K (Fo F st1 σ) ⟨[], st1.S⟩ [] H1 r S' v H2)
    (q2 : newP P { st1 with S := S' } r) : ∃ o b, v = .ref b ∧ P o { st1 with S := S' } ∧ Lk X.K (FA F b) { st1 with S := S' } σ H2 ∧ Step st1 σ H1 { st1 with S := S' } σ H2 ∧ RelO X.K (Live (FA F b) { st1 with S := S' } σ) H2 b o ∧ NewAt st1 σ H1 b := by
  cases r with
  | val w => exact q2.elim
  | new o =>
    obtain ⟨s2, a, rfl, l2, ro, na⟩ := h2
    have na1 : NewAt st1 σ H1 a := na.imp (fun z => z.elim .inl fun z => (ow_nil z).elim) fun z => z
    have l2' : Lk X.K (Fo (FA F a) st1 σ) ⟨[], S'⟩ [] H2 := l2.less fun b z => by
      rcases z with (z | z) | z
      · exact .inl (.inl z)
      · exact .inr z
      · exact .inl (.inr z)
    obtain ⟨l3, s3⟩ := l1.back (F2 := FA F a) s2 l2' (fun _ z => .inl z) fun b z => by
      rcases z with z | z
      · exact .inl z
      · rw [z]
        rcases na with (z | z) | z
        · exact .inr (.inl z)
        · exact (ow_nil z).elim
        · exact .inr (.inr z)
    refine ⟨o, a, rfl, q2, l3, s3, ro.move (fun _ z => z) (mv_same fun b z => ?_), na1⟩
    have z2 := (live_enter (F := FA F a) (st := { st1 with S := S' }) (σ := σ)).mpr z
    rcases z2 with z2 | z2
    · exact .inl z2
    · rcases z2 with (z2 | z2) | z2
      · exact .inr (.inl (.inl z2))
      · exact .inr (.inr z2)
      · exact .inr (.inl (.inr z2))
theorem meth_new {la : IA → TA} (hla : ∀ {i : IA} {σ : L2.St} {H : Hp} {Q : List V → Hp → Prop}, LA X.K F Wx n i σ H Q → la i σ H Q) (M : Ms X.prog X.w X.K X.mg X.base m k' n tb) {σ : L2.St} {H : Hp} {Q : VK} (h : LN X.K F Wx (nMeth tb m ia i) σ H Q) : tMethG X k' n m Wx (LE X.K F Wx ia) (la i) σ H Q := by
  obtain ⟨st, QI, EI, l, q, ux, k⟩ := h
  refine ⟨st, _, EI, l, q, ux, fun x st1 v H1 q1 l1 s1 r1 => ?_⟩
  obtain ⟨p, C, fs, dx, vs, rfl, ⟨hn, q2⟩, e, rf⟩ := objOf_inv q1 l1 r1
  split at q2
  · rename_i spec es
    obtain ⟨fd, ps, c, hm, G, b⟩ := (M.at_ C spec es).ex
    refine ⟨p, _, dx, vs, _, fd, ps, _, rfl, e, c, hm, G, b, rf.no hn, hla ⟨st1, _, EI, l1, q2, ux.step s1, fun ws st2 us H2 hl q3 l2 s2 r2 => ?_⟩⟩
    refine call_ok l2 (.cons (r1.mono s2.mv) r2) (by simp [hl]) q3 (ux.step (s1.trans s2)) fun r S' v H3 q4 h2 => ?_
    obtain ⟨o, b, rfl, q5, l4, s4, ro, na⟩ := new_back (P := fun o st => QI o st) l2 h2 (by cases r <;> exact q4)
    exact k o _ b H3 q5 l4 ((s1.trans s2).trans s4) ro (na.step (s1.trans s2))
  · exact q2.elim
theorem n_meth {pl : Sem Bool} (M : Ms X.prog X.w X.K X.mg X.base m k' n tb) (hr : Room k' X.A) (hgd : X.A.guards = some []) (tk : Takes X Wx) (ho : PE X o (LE X.K F Wx ia)) (ha : PA X (e :: es) (LA X.K F Wx n i))
    (hst : starEach (e :: es) X.env = (false, eval e X.env) :: starEach es X.env := by rfl) (hpl : (backTo pos (starEach es X.env)).any (·.1) = false := by rfl)
    (ht : eval (.Call (.Attribute o m apos) (e :: es) [] pos) X.env = (do
      let ov ← eval o X.env
      standAt apos.atName
      let (f, first) ← holding [ov] (getMethod ov m pl)
      callWith pos f first (backTo pos (starEach (e :: es) X.env)) (backToKw pos (keywordEach [] X.env))) := by rfl) : PE X (.Call (.Attribute o m apos) (e :: es) [] pos) (LN X.K F Wx (nMeth tb m ia i)) :=
  pe_imp (pe_methG (k' := k') (n := n) (pl := pl) ho hr hgd tk ha hst hpl ht) fun _ _ _ h => meth_new (la := LA X.K F Wx n) (fun z => z) M h
theorem n_meth0 {pl : Sem Bool} (M : Ms X.prog X.w X.K X.mg X.base m k' 0 tb) (hr : Room k' X.A) (hgd : X.A.guards = some []) (tk : Takes X Wx) (ho : PE X o (LE X.K F Wx ia))
    (ht : eval (.Call (.Attribute o m apos) [] [] pos) X.env = (do
      let ov ← eval o X.env
      standAt apos.atName
      let (f, first) ← holding [ov] (getMethod ov m pl)
      callWith pos f first (backTo pos (starEach [] X.env)) (backToKw pos (keywordEach [] X.env))) := by rfl) : PE X (.Call (.Attribute o m apos) [] [] pos) (LN X.K F Wx (nMeth tb m ia iNil)) :=
  pe_imp (pe_methG0 (k' := k') (n := 0) (pl := pl) ho hr hgd tk ht) fun _ _ _ h => meth_new (i := iNil) (la := fun i σ H Q => LA X.K F Wx 0 i σ H Q) (fun z => z) M h |> fun z => (show tMethG X k' 0 m Wx (LE X.K F Wx ia) tNil _ _ _ from by
    obtain ⟨st, QI, EI, l, q, ux, kk⟩ := z
    refine ⟨st, QI, EI, l, q, ux, fun x st1 v H1 q1 l1 s1 r1 => ?_⟩
    obtain ⟨a, C, dx, fs, f, fd, ps, sp, e1, e2, c, hm, G, b, hn, t⟩ := kk x st1 v H1 q1 l1 s1 r1
    exact ⟨a, C, dx, fs, f, fd, ps, sp, e1, e2, c, hm, G, b, hn, la_nil t⟩)
def nSl (ia : IE) (lo hi : IO') : IN := fun EI st Q => ia EI st fun x st1 => lo EI st1 fun i st2 => hi EI st2 fun j st3 => match x with
  | .lst ws => Q (.lst (cutW ws i j)) st3
  | .scr ns => Q (.lst ((cutW ns i j).map .int)) st3
  | _ => False
theorem n_sl {lo hi : Option Expr} {il ih : IO'} (ha : PE X a (LE X.K F Wx ia)) (hl : PO X lo (LO X.K F Wx il)) (hh : PO X hi (LO X.K F Wx ih)) : PE X (.Subscript a (.Slice lo hi none p2) pos) (LN X.K F Wx (nSl ia il ih)) := by
  refine pe_imp (pe_slice sl_list ha hl hh) fun σ H Q h => ?_
  obtain ⟨st, QI, EI, l, q, ux, k⟩ := h
  refine ⟨st, _, EI, l, q, ux, fun x st1 v H1 q1 l1 s1 r1 => ⟨st1, _, EI, l1, q1, ux.step s1, fun i st2 H2 q2 l2 s2 => ⟨st2, _, EI, l2, q2, ux.step (s1.trans s2), fun j st3 H3 q3 l3 s3 => ?_⟩⟩⟩
  have r3 := (r1.mono s2.mv).mono s3.mv
  have s13 := (s1.trans s2).trans s3
  split at q3
  · cases r3 with
    | lst f r =>
      rename_i vs
      refine ⟨_, vs, rfl, f.sq, fun p hp => ?_⟩
      obtain ⟨l4, s4, r4, n4⟩ := lay_new l3 (cut_rel r i j) hp
      exact k _ st3 p _ q3 l4 (s13.trans s4) r4 (n4.step s13)
  · cases r3 with
    | scr f =>
      rename_i ns b
      refine ⟨b, _, rfl, f.sq, fun p hp => ?_⟩
      have rr : RelWs X.K (Live F st3 σ) H3 ((cutW ns i j).map .int) (cutV (ns.map V.int) i j) := by rw [cutV_map]; exact RelWs.ints _
      obtain ⟨l4, s4, r4, n4⟩ := lay_new l3 rr hp
      exact k _ st3 p _ q3 l4 (s13.trans s4) r4 (n4.step s13)
  · exact q3.elim
def nAdd (ia ib : IE) : IN := fun EI st Q => ia EI st fun x st1 => ib EI st1 fun y st2 => match x, y with
  | .lst ws, .lst us => ws.length + us.length ≤ sizeLine ∧ Q (.lst (ws ++ us)) st2
  | _, _ => False
def nAddO (j : Nat) (ib : IE) : IN := fun EI st Q => ownL st j fun _ => ib EI st fun y st1 => ownL st1 j fun ws => match y with
  | .lst us => ws.length + us.length ≤ sizeLine ∧ Q (.lst (ws ++ us)) st1
  | _ => False
/-- an owned object is given away -/
def nOwn (j : Nat) : IN := fun _ st Q => match st.ρ[j]? with
  | some (.own o) => Q o ⟨st.ρ.set j .none, st.S⟩
  | _ => False
/-- a method of a new list that nobody holds: e.append(x) -/
def iMtN (nn : IN) (g : List W → List W → (List W → W → Prop) → Prop) (i : IA) : IE := fun EI st Q => nn EI st fun o st1 => match o with
  | .lst ws => i noX st1 fun as st2 => g ws as fun _ w => w = .non ∧ Q .non st2
  | _ => False
end
end Sh
namespace Sh
open PySem L2
open PyProof.Rows hiding St
section
variable {prog : Program} {w : World} {A : Around} {E : Value → Shared → Prop} {s : Shared}
end
section
variable {X : Cx}
end
section
variable {X : Cx} {F : Addr → Prop} {Wx : WX} {e : Expr} {es : List Expr} {pos p : Pos} {i : IA} {n : Nat}
theorem n_fnB {id : String} {r : List V → Hp → VK → Prop} {g : List W → (SO → Prop) → Prop} {x : Str} (hc : CallR X (.builtin id) r) (hgf : BtN X.K r g) (hm : X.mg x = none) (hv : bootBuiltins x = some (.builtin id)) (ha : PA X (e :: es) (LA X.K F Wx n i)) (hg : Gl X x := by rfl) (hn : x ≠ "__name__" := by decide)
    (hdb : (x == ("__debug__" : Str)) = false := by decide) (he : starEach (e :: es) X.env = (false, eval e X.env) :: starEach es X.env := by rfl) (hpl : (backTo pos (starEach es X.env)).any (·.1) = false := by rfl) : PE X (.Call (.Name x p) (e :: es) [] pos) (LN X.K F Wx (nFn g i)) :=
  pe_imp (pe_callB hc hg hm hv ha hn hdb he hpl) fun _ _ _ h => fn_new hgf h
end
end Sh
namespace Sh
open PySem L2
open PyProof.Rows hiding St
open He (ga ma)
def TnB (it t : Addr) (i : Nat) (h : Heap) : Bool → Prop
  | true => h.IsTupleIter it t i
  | false => h.IsListIter it t i
section
variable {X : Cx} {pins : List (Addr × Obj)} {σ : L2.St} {H : Hp} {s : Shared}
theorem rd_upd {H : Hp} {t q : Addr} {o u : HO} (h : Rd H t o) (hq : H q = none) : Rd (upd H q u) t o := by
  rcases h with h | ⟨z, h⟩
  · exact .inl ((upd_ne (ne_of_none h hq)).trans h)
  · exact .inr ⟨z, (upd_ne (ne_of_none h hq)).trans h⟩
theorem SqB.upd {K : PySem.W.Frag} {H : Hp} {t q : Addr} {xs : List V} {b : Bool} {u : HO} (h : SqB K H t xs b) (hq : H q = none) : SqB K (upd H q u) t xs b := by
  cases b
  · rcases h with h | h
    · exact .inl (rd_upd h hq)
    · exact .inr h
  · rcases h with h | h
    · exact .inl (rd_upd h hq)
    · exact .inr h
theorem TnB.moved {it t q : Addr} {i : Nat} {h : Heap} {b : Bool} {f : Obj → Obj} (k : TnB it t i h b) (n : q ≠ it) : TnB it t i (h.update q f) b := by
  cases b
  · obtain ⟨o, e, c, d⟩ := k
    exact ⟨o, (Heap.get?_update_other h f n).trans e, c, d⟩
  · obtain ⟨o, e, c, d⟩ := k
    exact ⟨o, (Heap.get?_update_other h f n).trans e, c, d⟩
theorem fill_loop {A1 : Around} {b : Bool} {q t it : Addr} {xs : List V} {Rs : Result → Shared → Prop} (hh : A1.in1.handled = none) (hq : SqB X.K H t xs b) (hqn : H q = none) (fp : ∀ acc, FpOk X pins (upd H q (.lst acc)) it)
    (hdone : ∀ s, Inv X pins σ (upd H q (.lst xs)) s → Rs (.ok (.ret .none)) s) : ∀ (k i : Nat) (s : Shared), i + k = xs.length → Inv X pins σ (upd H q (.lst (xs.take i))) s → TnB it t i s.heap b →
      codeAny (model X.prog X.w) A1 (.builtin "list.extend.loop" ⟨[.ref q, .ref it, .none], []⟩) Rs s := by
  have nq : q ≠ it := fun z => by
    have := (fp []).1
    rw [← z, upd_same] at this
    cases this
  have sq : ∀ acc, SqB X.K (upd H q (.lst acc)) t xs b := fun acc => hq.upd hqn
  intro k
  induction k with
  | zero =>
    intro i s hi I tn
    refine codeAny_builtin PySem.F.entry_extend_loop ?_; rw [Around.under_plainId PySem.F.plain_extend_loop _]
    show wpAny _ A1.in1 (pyNext (.ref it) >>= _) _ _ s
    have ei : xs.take i = xs := List.take_of_length_le (by omega)
    rw [ei] at I
    obtain ⟨f0, f1, f2, f3, f4, f5⟩ := fp xs
    refine wpAny_bind ?_
    cases b
    · obtain ⟨its, rv, p, hz⟩ := I.list (sq xs)
      have hl := rv.length
      exact wpAny_pyNext_list_end hh tn p.isList (by simp; omega) fun h' eb => wpAny_pure (hdone _ (I.turned (t' := s.toks) (fun b o hb e => eb b o hb e) f0 f1 f3 f4 f5))
    · obtain ⟨its, rv, p, hz⟩ := I.tuple (sq xs)
      have hl := rv.length
      exact wpAny_pyNext_tuple_end hh tn (show s.heap.IsTuple t its.toArray from p) (by simp; omega) fun h' eb => wpAny_pure (hdone _ (I.turned (t' := s.toks) (fun b o hb e => eb b o hb e) f0 f1 f3 f4 f5))
  | succ k ih =>
    intro i s hi I tn
    have hlt : i < xs.length := by omega
    have et : xs.take i ++ [xs[i]] = xs.take (i + 1) := by rw [List.take_succ, List.getElem?_eq_getElem hlt]; rfl
    refine codeAny_builtin PySem.F.entry_extend_loop ?_; rw [Around.under_plainId PySem.F.plain_extend_loop _]
    show wpAny _ A1.in1 (pyNext (.ref it) >>= _) _ _ s
    obtain ⟨f0, f1, f2, f3, f4, f5⟩ := fp (xs.take i)
    have go : ∀ (u : Value) (h' : Heap), RelV xs[i] u → xs.length ≤ sizeLine → Inv X pins σ (upd H q (.lst (xs.take i))) { s with heap := h' } → TnB it t (i + 1) h' b → wpAny (model X.prog X.w) A1.in1 (updateSeq q (·.push u) >>= fun _ => again (.builtin "list.extend.loop" ⟨[.ref q, .ref it, .none], []⟩)) (fun fin s' => match fin with | .done f => Rs (.ok f) s' | .again c' => c'.quiet = true ∧ codeAny (model X.prog X.w) A1 c' Rs s') (fun e s' => Rs (.error e) s') { s with heap := h' } := fun u h' ru hz I' tn' => by
      obtain ⟨z, its, n, r2, hl, e⟩ := I'.lstM upd_same
      rw [List.length_take] at hl
      refine wpAny_bind (wpAny_updateSeq e rfl (wpAny_pure ⟨plainId_quiet PySem.F.plain_extend_loop _, ?_⟩) (by rw [List.size_toArray]; omega) (by show (its.toArray.push u).size ≤ sizeLine + 1; rw [Array.size_push, List.size_toArray]; omega))
      have I2 := I'.lset (f := (·.push u)) (its' := its ++ [u]) (ys := xs.take i ++ [xs[i]]) (t' := s.toks) upd_same e (by simp) (r2.append (.cons ru .nil)) (by rw [et, List.length_take]; omega)
      rw [upd_upd, et] at I2
      exact ih (i + 1) _ (by omega) I2 (tn'.moved nq)
    refine wpAny_bind ?_
    cases b
    · obtain ⟨its, rv, p, hz⟩ := I.list (sq (xs.take i))
      obtain ⟨u, hu, ru⟩ := rv.get (show xs[i]? = some xs[i] from List.getElem?_eq_getElem hlt)
      exact wpAny_pyNext_list_item tn p.isList (x := u) (by simpa using hu) fun h' st' sb => go u h' ru hz (I.turned (t' := s.toks) (fun b o hb e => (sb.2 b hb).trans e) f0 f1 f3 f4 f5) st'
    · obtain ⟨its, rv, p, hz⟩ := I.tuple (sq (xs.take i))
      obtain ⟨u, hu, ru⟩ := rv.get (show xs[i]? = some xs[i] from List.getElem?_eq_getElem hlt)
      exact wpAny_pyNext_tuple_item tn (show s.heap.IsTuple t its.toArray from p) (x := u) (by simpa using hu) fun h' st' sb => go u h' ru hz (I.turned (t' := s.toks) (fun b o hb e => (sb.2 b hb).trans e) f0 f1 f3 f4 f5) st'
/-- how long it is, says the object itself -/
theorem hint_own {A1 : Around} {M : Model} {E : Value → Shared → Prop} {Q : Bool → Shared → Prop} {K : PySem.W.Frag} {a C f : Addr} {ox : Obj} {od : Option Obj} (hm : Meth K C "__len__" f) (hK : K.In s.heap) (J : PySem.W.InstAt s.heap a ox C od)
    (h : wpAny M A1 (call (.builtin "len") [.ref a]) (fun v s' => ∃ n t, v = .int n t ∧ 0 ≤ n ∧ n ≤ sizeLine ∧ Q (n != 0) s') (fun _ _ => False) s) : wpAny M A1 (Builtin.List.listLengthHint (.ref a)) Q E s := by
  unfold Builtin.List.listLengthHint
  refine wpAny_bind (wpAny_bind (J.type.here ((PySem.W.looks_findIn hK hm.at_).here ?_)))
  refine PySem.W.KFB.if_not rfl ?_
  show wpAny M A1 (rule "list.length-hint.len" >>= fun _ => (call (.builtin "len") [.ref a]).attempt >>= _) Q E s
  refine wpAny_bind (wpAny_rule ?_)
  refine wpAny_bind (wpAny_attempt (wpAny_mono h (fun v s' hv => ?_) fun _ _ z => z.elim))
  obtain ⟨n, t, rfl, n0, n1, q⟩ := hv
  show wpAny M A1 (if Builtin.List.listTooLong n.toNat = true then _ else _) Q E s'
  rw [notLongL (by omega)]
  exact wpAny_pure q
end
section
variable {F : Addr → Prop}
/-- a foreign object is forgotten -/
theorem Lk.dropF {K : PySem.W.Frag} {st : Stt} {σ : L2.St} {H : Hp} {D : Addr} (l : Lk K (FA F D) st σ H) (nF : ¬ F D) : Lk K F st σ (ItX.dropH H D) ∧ Mv (Live (FA F D) st σ) H (Live F st σ) (ItX.dropH H D) := by
  have m : Mv (Live (FA F D) st σ) H (Live F st σ) (ItX.dropH H D) := fun a u e n => by
    have na : a ≠ D := fun z => n (.inr (.inr z))
    exact ⟨(ItX.dropH_ne na).trans e, fun z => n (z.imp (fun y => y) .inl)⟩
  refine ⟨⟨l.len, fun i w e => ?_, fun i o e => ?_, l.inj, fun a o e => (l.sto a o e).move (fun x q => ?_) m, fun a z => ?_, fun a z => l.fdis a (.inl z)⟩, m⟩
  · obtain ⟨v, e1, r⟩ := l.val i w e
    exact ⟨v, e1, r.mono m⟩
  · obtain ⟨a, e1, r, n1, n2⟩ := l.own i o e
    have na : a ≠ D := fun q => n2 (.inr q)
    exact ⟨a, e1, r.move (fun x q => by rw [ItX.dropH_ne na]; exact q) m, n1, fun z => n2 (.inl z)⟩
  · have na : a ≠ D := fun z => by
      have q2 := l.fdis D (.inr rfl)
      rw [← z, e] at q2
      cases q2
    rw [ItX.dropH_ne na]
    exact q
  · have na : a ≠ D := fun q => nF (q ▸ z)
    obtain ⟨x, q⟩ := l.ftr a (.inl z)
    exact ⟨x, by rw [ItX.dropH_ne na]; exact q⟩
theorem mv_trans {L1 L2 L3 : Addr → Prop} {H1 H2 H3 : Hp} (a : Mv L1 H1 L2 H2) (b : Mv L2 H2 L3 H3) : Mv L1 H1 L3 H3 := fun x u e n => have ⟨e2, n2⟩ := a x u e n; b x u e2 n2
end
theorem owit_mono {M : Model} {A : Around} {Q Q' : Value → Shared → Prop} {E : Value → Shared → Prop} {v : Value} {s : Shared} (h : PySem.W.OwitIt M A Q (fun _ _ => False) v s) (k : ∀ v s, Q v s → Q' v s) : PySem.W.OwitIt M A Q' E v s :=
  wpAny_mono h (fun r s' hr => by cases r with
    | none => exact hr.elim
    | some _ => exact k _ _ hr) fun _ _ z => z.elim
def sqW : Option W → Option (List W)
  | some (.tup ws) => some ws
  | some (.lst ws) => some ws
  | _ => none
def lenP (P : Sto → Prop) (r : R) (S' : Sto) : Prop := match r with
  | .val (.int n) => 0 ≤ n ∧ n ≤ sizeLine ∧ P S'
  | _ => False
section
variable {X : Cx} {F : Addr → Prop} {Wx : WX} {a : Expr} {pos p : Pos} {ia : IE} {kI kL : Nat} {tbI : List (Str × Str)} {tbL : List (Str × ISp)}
def nListM (tbI : List (Str × Str)) (tbL : List (Str × ISp)) (ia : IE) : IN := fun EI st Q => ia EI st fun x st1 => objOf st1 x fun C fs => ∃ fld spec ws, tbI.lookup C = some fld ∧ tbL.lookup C = some spec ∧ sqW (fs.lookup fld) = some ws ∧
  spec [x] st1.S (lenP fun S' => Q (.lst ws) { st1 with S := S' }) fun _ _ => False
theorem n_listM (MI : Is X.prog X.w X.K X.mg X.base kI tbI) (ML : Ms X.prog X.w X.K X.mg X.base "__len__" kL 0 tbL) (hr1 : Room (kI + 3) X.A) (hr2 : Room (kL + 3) X.A) (hgd : X.A.guards = some []) (hm : X.mg "list" = none) (ha : PE X a (LE X.K F Wx ia)) (hc : X.calm = true := by rfl) (hg : Gl X "list" := by rfl)
    (hst : starEach [a] X.env = (false, eval a X.env) :: starEach [] X.env := by rfl) : PE X (.Call (.Name "list" p) [a] [] pos) (LN X.K F Wx (nListM tbI tbL ia)) := by
  refine ⟨fun pins s σ H Q I h => ?_⟩
  obtain ⟨st, QI, EI, l, q, ux, k⟩ := h
  refine wpAny_Call_Name_kw (ld_blt (u := .type "list") I hg hm boot_list' ?_ (by decide) (by decide))
  have pa : PA X [a] _ := pa_cons ha pa_nil hst
  refine PyProof.Rows.callWith_type1 (thn (pa.run pos pins s σ H (fun vs H1 => ∃ p C dx fs t fld xs fi fdi bb fl fdl psl spl, vs = [.ref p] ∧ H1 p = some (.ins C dx fs) ∧ Cls X.K C ∧ Meth X.K C "__iter__" fi ∧ FnIt X.prog X.w X.K X.mg X.base kI fi fdi fld C ∧ Binds X.K fdi [("self" : Str)] [] ∧ fs.lookup fld = some (.ref t) ∧ SqB X.K H1 t xs bb ∧
      Meth X.K C "__len__" fl ∧ FnG X.prog X.w X.K X.mg X.base kL fl fdl psl spl ∧ Binds X.K fdl psl [] ∧ ∀ q it, H1 q = none → upd H1 q (.lst []) it = none → spl [.ref p] (upd (upd H1 q (.lst [])) it (ItB t it bb)) (fun v H2 => ∃ n, v = .int n ∧ 0 ≤ n ∧ n ≤ sizeLine ∧ H2 it = some (ItB t it bb) ∧ H2 q = some (.lst []) ∧
        SqB X.K (ItX.dropH (ItX.dropH H2 it) q) t xs bb ∧ Q (.ref q) (upd (ItX.dropH (ItX.dropH H2 it) q) q (.lst xs))) fun _ _ _ => False) I
    ⟨st, _, EI, l, q, ux, fun x st1 v H1 q1 l1 s1 r1 => ?_⟩) fun us s1 hx => ?_) hst rfl
  · obtain ⟨p, C, fs, dx, vs, rfl, q2, e, rf⟩ := objOf_inv q1 l1 r1
    obtain ⟨fld, spec, ws, eI, eL, ew, q2⟩ := q2
    obtain ⟨fdi, ci, hmi, Gi, bi⟩ := (MI.at_ C fld eI).ex
    obtain ⟨fdl, psl, cl, hml, Gn, bl⟩ := (ML.at_ C spec eL).ex
    have fnd : ∃ (bb : Bool) (t : Addr) (xs : List V), vs.lookup fld = some (.ref t) ∧ (∀ Lv' H', Mv (Live F st1 σ) H1 Lv' H' → SqB X.K H' t xs bb) ∧ RelWs X.K (Live F st1 σ) H1 ws xs := by
      unfold sqW at ew
      split at ew
      · rename_i us eu
        cases ew
        obtain ⟨w, ev, rw'⟩ := rf.get eu
        cases rw' with
        | tup ft rt => exact ⟨true, _, _, ev, fun _ _ m => (ft.mono m).sq, rt⟩
      · rename_i us eu
        cases ew
        obtain ⟨w, ev, rw'⟩ := rf.get eu
        cases rw' with
        | lst ft rt => exact ⟨false, _, _, ev, fun _ _ m => (ft.mono m).sq, rt⟩
      · cases ew
    obtain ⟨bb, t, xs, ev, sq, rt⟩ := fnd
    refine ⟨p, _, dx, vs, t, fld, xs, _, fdi, bb, _, fdl, psl, _, rfl, e, ci, hmi, Gi, bi, ev, sq _ _ (mv_same fun _ z => z), hml, Gn, bl, fun q it hq hit => ?_⟩
    have lq := l1.foreign (u := .lst []) hq
    have li := lq.foreign (u := ItB t it bb) hit
    have m12 := mv_trans (mv_foreign l1 (u := .lst []) hq) (mv_foreign lq (u := ItB t it bb) hit)
    have nqi : q ≠ it := fun z => by rw [← z, upd_same] at hit; cases hit
    have hit1 : H1 it = none := by rw [upd_ne (Ne.symm nqi)] at hit; exact hit
    have nF : ∀ b, H1 b = none → ¬ F b := fun b e z => by
      obtain ⟨u, w⟩ := l1.ftr b z
      rw [e] at w; cases w
    refine one_ok li (r1.mono m12) q2 fun r S' v H3 q4 h2 => ?_
    unfold lenP at q4
    split at q4
    · rename_i n
      have ⟨l3, rv⟩ := h2.fz li.enter
      cases rv
      obtain ⟨l4, s4⟩ := li.back h2.1 l3 (fun _ z => z) fun a z => .inl z
      have e1 : H3 it = some (ItB t it bb) := s4.keep it _ upd_same (li.nwr (.inr rfl))
      have e2 : H3 q = some (.lst []) := s4.keep q _ ((upd_ne nqi).trans upd_same) (li.nwr (.inl (.inr rfl)))
      obtain ⟨l5, m5⟩ := l4.dropF (fun z => z.elim (nF it hit1) fun z => nqi z.symm)
      obtain ⟨l6, m6⟩ := l5.dropF (nF q hq)
      have m := mv_trans (mv_trans (mv_trans m12 s4.mv) m5) m6
      obtain ⟨l7, s7, ro, na⟩ := lay_new l6 (rt.mono m) ItX.dropH_same
      refine ⟨n, rfl, q4.1, q4.2.1, e1, e2, sq _ _ m, k (.lst ws) _ q _ q4.2.2 l7 (s1.trans ⟨fun b u eb nb => ?_, fun b wb => ?_⟩) ro (NewAt.step s1 (.inr hq))⟩
      · have nb1 : b ≠ q := fun z => by rw [z, hq] at eb; cases eb
        have nb2 : b ≠ it := fun z => by rw [z, hit1] at eb; cases eb
        rw [upd_ne nb1, ItX.dropH_ne nb1, ItX.dropH_ne nb2]
        exact s4.keep b u ((upd_ne nb2).trans ((upd_ne nb1).trans eb)) nb
      · rcases s4.new b wb with z | z
        · exact .inl z
        · refine .inr ?_
          by_cases b1 : b = it
          · rw [b1]; exact hit1
          · rw [upd_ne b1] at z
            by_cases b2 : b = q
            · rw [b2]; exact hq
            · rw [upd_ne b2] at z; exact z
    · exact q4.elim
  · obtain ⟨vs, H1, I1, rv, p, C, dx, fs, t, fld, xs, fi, fdi, bb, fl, fdl, psl, spl, ev, e, c, hmi, Gi, bi, lf, hsq, hml, Gn, bl, kq⟩ := hx
    subst ev
    obtain ⟨u, rfl, ru⟩ := rv.one
    cases ru
    refine callType_codes (Q₁ := fun ob s2 => ob = .ref s1.heap.objs.size ∧ s2 = { s1 with heap := s1.heap.push { cls := .type "list", data := .seq #[] } }) PySem.F.called_list (PySem.F.typeCall_list_1 _) PySem.F.entry_list_init (code_list_new _ ⟨rfl, rfl⟩) fun ob s2 h2 => ?_
    obtain ⟨rfl, rfl⟩ := h2
    have hS : (s1.heap.push { cls := .type "list", data := .seq #[] }).get? s1.heap.objs.size = some { cls := .type "list", data := .seq #[] } := Heap.get?_push_size _ rfl
    refine ⟨⟨_, hS, rfl⟩, PySem.F.args_list_init_2 _ _, ?_⟩
    have fr : H1 s1.heap.objs.size = none := I1.hok.fresh (Nat.le_refl _)
    generalize eq : s1.heap.objs.size = q at hS fr ⊢
    have I2 : Inv X pins σ (upd H1 q (.lst [])) { s1 with heap := s1.heap.push { cls := .type "list", data := .seq #[] } } := by
      rw [← eq]; exact I1.lnew (its := []) (t' := s1.toks) .nil (Nat.zero_le _)
    show wpAny _ _ (do let old ← Builtin.List.listItems (.ref q); Builtin.List.listUpdate (.ref q) (fun _ => #[]); letGo old.toList.reverse; Builtin.List.listExtendWith (.ref q) (.ref p) .none) _ _ _
    refine wpAny_bind ?_; unfold Builtin.List.listItems; refine wpAny_bind (wpAny_seqItems hS rfl (wpAny_pure ?_))
    show wpAny _ _ (updateSeq q (fun _ => #[]) >>= fun _ => letGo (#[] : Array Value).toList.reverse >>= fun _ => Builtin.List.listExtendWith (.ref q) (.ref p) .none) _ _ _
    refine wpAny_bind (wpAny_updateSeq hS rfl ?_)
    have I3 := I2.lset (f := fun _ => #[]) (its := []) (its' := []) (ys := []) (t' := s1.toks) upd_same hS rfl .nil (Nat.zero_le _)
    rw [upd_upd] at I3; refine wpAny_bind (wpAny_letGo ?_)
    have e3 : upd H1 q (.lst []) p = some (.ins C dx fs) := (upd_ne (ne_of_none e fr)).trans e
    obtain ⟨mA, O, _⟩ := ins_get I3.hok e3
    obtain ⟨od, J, _⟩ := O.look
    obtain ⟨mF, hF⟩ := I3.fr
    have hne : q ≠ p := fun z => by rw [z, e] at fr; cases fr
    unfold Builtin.List.listExtendWith
    refine wpAny_bind (J.type.here ?_)
    have x1 : Builtin.List.listSameRef (.ref q) (.ref p) = false := by simp [Builtin.List.listSameRef, hne]
    have x2 : (Value.ref C == Value.type "list") = false := rfl
    have x3 : (Value.ref C == Value.type "tuple") = false := rfl
    simp only [x1, x2, x3, Bool.or_false, Bool.false_eq_true, if_false]
    have bd := bi _ [.ref p] I3.kIn rfl
    rw [List.append_nil] at bd
    refine wpAny_bind (PySem.W.owit_iter hF I3.ok.mod.kin J hmi.at_ hmi.fn (wpAny_call (codeAny_mono (Gi.go (hr1.in1.in1.mono (Nat.le_succ _)) hgd I3.env0.in1.in1 bd e3 lf (hsq.upd fr)) fun res s4 hq => ?_)))
    cases res with
    | error er => exact (CX_none hq).elim
    | ok fo =>
      cases fo with
      | next => exact False.elim hq
      | brk => exact False.elim hq
      | cont => exact False.elim hq
      | ret w =>
        obtain ⟨v, H4, I4, rv4, it, ev, hit, hn, eH⟩ := I3.after hq
        subst eH
        subst ev
        obtain rfl : w = Value.ref it := rv4
        have hy : X.s_0.heap.objs.size ≤ it := Nat.le_trans I3.sz hn
        have nxt : PySem.W.OwitIt (model X.prog X.w) X.A.in1.in1 (fun itv s5 => itv = Value.ref it ∧ s5 = s4) (fun _ _ => False) (.ref it) s4 := by
          cases bb
          · exact nextOf_lst (i := 0) (l := t) (I4.hok it _ upd_same).1 ⟨rfl, rfl⟩
          · have hti : s4.heap.IsTupleIter it t 0 := ⟨_, (I4.hok it _ upd_same).1, rfl, rfl⟩
            exact nextOf_tup hti ⟨rfl, rfl⟩
        refine owit_mono nxt ?_
        intro v5 s5 h5
        obtain ⟨e5, e6⟩ := h5
        rw [e5, e6]
        have e4 : upd (upd H1 q (.lst [])) it (ItB t it bb) p = some (.ins C dx fs) := (upd_ne (ne_of_none e3 hit)).trans e3
        obtain ⟨mA', O', _⟩ := ins_get I4.hok e4
        obtain ⟨od', J', _⟩ := O'.look
        obtain ⟨mF', hF'⟩ := I4.fr
        have bdl := bl s4 [.ref p] I4.kIn (by
          have := Gn.len (kq q it fr hit)
          simpa using this)
        rw [List.append_nil] at bdl
        refine wpAny_bind (wpAny_holding (hint_own hml I4.kIn J' (PySem.W.len_K hF' I4.ok.mod.kin J' hml.at_ hml.fn (wpAny_call (codeAny_mono (Gn.go hr2.in1.in1.in1 hgd I4.env0.in1.in1.in1 bdl (show Vals [V.ref p] [Value.ref p] from .cons rfl .nil) (kq q it fr hit)) fun res s6 hq => ?_)))))
        cases res with
        | error er => exact (CX_none hq).elim
        | ok fo6 =>
          cases fo6 with
          | next => exact False.elim hq
          | brk => exact False.elim hq
          | cont => exact False.elim hq
          | ret w6 =>
            obtain ⟨v6, H6, I6, rv6, n, ev6, n0, n1, e6i, e6q, sq6, fin6⟩ := I4.after hq
            subst ev6
            obtain ⟨t6, rfl⟩ := rv6
            have n2 : n < 2 ^ 63 := by have := sizeLine_eq; omega
            refine ⟨⟨n0, n2⟩, n, _, rfl, n0, n1, ?_⟩
            have nqi : q ≠ it := fun z => by rw [← z, upd_same] at hit; cases hit
            have tn0 : TnB it t 0 s6.heap bb := by
              cases bb
              · exact ⟨_, (I6.hok it _ e6i).1, rfl, rfl⟩
              · exact ⟨_, (I6.hok it _ e6i).1, rfl, rfl⟩
            obtain ⟨φ, e6x⟩ : ∃ φ, H6 it = some (.ext φ) := by cases bb <;> exact ⟨_, e6i⟩
            have I7 := (ItX.inv_drop I6 (a := it) e6x).tok (s6.toks + 1)
            have fp7 := ItX.inv_fp I6 (a := it) e6i hy
            have hH : upd (ItX.dropH (ItX.dropH H6 it) q) q (.lst []) = ItX.dropH H6 it := by
              funext b
              by_cases hb : b = q
              · rw [hb, upd_same, ItX.dropH_ne nqi, e6q]
              · rw [upd_ne hb, ItX.dropH_ne hb]
            have fp : ∀ acc, FpOk X pins (upd (ItX.dropH (ItX.dropH H6 it) q) q (.lst acc)) it := fun acc => ⟨by rw [upd_ne (Ne.symm nqi), ItX.dropH_ne (Ne.symm nqi)]; exact ItX.dropH_same, fp7.2⟩
            have lp : ∀ s8 : Shared, Inv X pins σ (ItX.dropH H6 it) s8 → TnB it t 0 s8.heap bb → codeAny (model X.prog X.w) X.A.in1 (.builtin "list.extend.loop" ⟨[.ref q, .ref it, .none], []⟩) (wants (fun r s₂ => r = Value.none ∧ EP X pins σ Q (Value.ref q) s₂) X.xe) s8 := fun s8 I8 tn8 =>
              fill_loop (H := ItX.dropH (ItX.dropH H6 it) q) (show (X.A.in1.in1).handled = none from I.ok.hd hc) sq6 ItX.dropH_same fp (fun s9 I9 => ⟨rfl, .ref q, _, I9, rfl, fin6⟩) xs.length 0 s8 (by omega) (by rw [List.take_zero, hH]; exact I8) tn8
            refine wpAny_ite_split (fun _ => ?_) (fun _ => wpAny_pure ⟨plainId_quiet PySem.F.plain_extend_loop _, lp _ I7 tn0⟩)
            refine wpAny_bind (wpAny_rule ?_); refine wpAny_bind ?_; show wpAny _ _ (updateSeq q (·.push .none) >>= fun _ => updateSeq q (·.pop)) _ _ _
            have e7q : ItX.dropH H6 it q = some (.lst []) := by rw [ItX.dropH_ne nqi]; exact e6q
            obtain ⟨z, its, c7, r7, hl7, e7⟩ := I7.lstM e7q
            cases r7
            refine wpAny_bind (wpAny_updateSeq e7 rfl ?_); have J1 := I7.lset (f := (·.push Value.none)) (its' := [Value.none]) (ys := [.non]) (t' := s6.toks + 1) e7q e7 (by simp) (.cons rfl .nil) (by rw [List.length_singleton, sizeLine_eq]; decide)
            obtain ⟨z4, its4, k4, r4, hl4, e4'⟩ := J1.lstM upd_same; obtain ⟨u4, rfl, ru4⟩ := r4.one
            refine wpAny_updateSeq e4' rfl ?_ (by show 1 ≤ sizeLine; rw [sizeLine_eq]; decide) (by show 0 ≤ sizeLine + 1; exact Nat.zero_le _); refine wpAny_pure ⟨plainId_quiet PySem.F.plain_extend_loop _, lp _ ?_ ((tn0.moved nqi).moved nqi)⟩
            have J2 := J1.lset (f := (·.pop)) (its := [u4]) (its' := []) (ys := []) (t' := s6.toks + 1) upd_same e4' (by rfl) .nil (Nat.zero_le _); rw [upd_upd] at J2
            have hq2 : upd (ItX.dropH H6 it) q (.lst []) = ItX.dropH H6 it := by
              funext b
              by_cases hb : b = q
              · rw [hb, upd_same, e7q]
              · rw [upd_ne hb]
            rw [hq2] at J2
            exact J2
/-- list(o), a value -/
theorem i_listM (MI : Is X.prog X.w X.K X.mg X.base kI tbI) (ML : Ms X.prog X.w X.K X.mg X.base "__len__" kL 0 tbL) (hr1 : Room (kI + 3) X.A) (hr2 : Room (kL + 3) X.A) (hgd : X.A.guards = some []) (hm : X.mg "list" = none) (ha : PE X a (LE X.K F Wx ia)) (hc : X.calm = true := by rfl) (hg : Gl X "list" := by rfl)
    (hst : starEach [a] X.env = (false, eval a X.env) :: starEach [] X.env := by rfl) : PE X (.Call (.Name "list" p) [a] [] pos) (LE X.K F Wx (iFz (nListM tbI tbL ia))) := i_fz (n_listM MI ML hr1 hr2 hgd hm ha hc hg hst)
end
end Sh
namespace Sh
open PySem L2
open PyProof.Rows hiding St
mutual
def drW (S : Sto) : W → W
  | .ref a => (match S a with
    | some (.lst ws) => .lst ws
    | _ => .ref a)
  | .tup ws => .tup (drWs S ws)
  | w => w
def drWs (S : Sto) : List W → List W
  | [] => []
  | w :: ws => drW S w :: drWs S ws
end
section
variable {K : PySem.W.Frag} {F : Addr → Prop} {st : Stt} {σ : L2.St} {H : Hp}
end
section
variable {X : Cx} {F : Addr → Prop} {Wx : WX} {a b c e o : Expr} {es : List Expr} {pos p apos cpos : Pos} {ia ib : IE} {i : IA} {nn : IN} {n : Nat} {x name : Str} {id : String}
def iBR (g : W → W → (W → Prop) → Prop) (ia ib : IE) : IE := fun EI st Q => ia EI st fun x st1 => ib EI st1 fun y st2 => g (drW st2.S x) (drW st2.S y) fun w => ∃ d, w = .bl d ∧ Q (.bl d) st2
def iFnR (g : List W → (W → Prop) → Prop) (i : IA) : IE := fun EI st Q => i EI st fun ws st1 => g (drWs st1.S ws) fun w => ∃ y, w = .str y ∧ Q (.str y) st1
/-- a new object that goes into the store -/
def iPub (nn : IN) : IE := fun EI st Q => nn EI st fun o st1 => ∀ a, st1.S a = none → Q (.ref a) (st1.puts a o)
theorem i_pub (h : PE X e (LN X.K F Wx nn)) : PE X e (LE X.K F Wx (iPub nn)) := pe_imp h fun σ H Q h => by
  obtain ⟨st, QI, EI, l, q, ux, k⟩ := h
  refine ⟨st, _, EI, l, q, ux, fun o st1 a H1 q1 l1 s1 r1 n1 => ?_⟩
  exact k (.ref a) (st1.puts a o) (.ref a) H1 (q1 a (l1.fdis a (.inr rfl))) (l1.publish r1 (NewAt.nf l n1)) (Step.publish s1 n1) (.ref a)
/-- a method that changes a list of the store -/
def iMtR (ie : IE) (g : List W → List W → (List W → W → Prop) → Prop) (i : IA) : IE := fun EI st Q => ie EI st fun x st1 => ∃ b ws0, x = .ref b ∧ st1.S b = some (.lst ws0) ∧ i EI st1 fun as st2 => ∃ ws, st2.S b = some (.lst ws) ∧ g ws as fun ws' w => Q w (st2.puts b (.lst ws'))
end
end Sh
namespace Sh
open PySem L2
open PyProof.Rows hiding St
section
variable {K : PySem.W.Frag} {Lv : Addr → Prop} {H : Hp}
def valT (ws : List (List Key × W)) (k : List Key) : Option W := (ws.find? fun kv => decide (kv.1 = k)).map (·.2)
def putKT (kvs : List (List Key × W)) (k : List Key) (v : W) : List (List Key × W) := if (kvs.any fun kv => decide (kv.1 = k)) = true then kvs.map (fun kv => if kv.1 = k then (kv.1, v) else kv) else kvs ++ [(k, v)]
theorem RelTs.any {k : List Key} : ∀ {ws : List (List Key × W)} {vs : List (List Key × V)}, RelTs K Lv H ws vs → (ws.any fun kv => decide (kv.1 = k)) = (vs.any fun kv => decide (kv.1 = k))
  | [], _, .nil => rfl
  | _ :: _, _, .cons _ rs => by rw [List.any_cons, List.any_cons, RelTs.any rs]
theorem RelTs.length : ∀ {ws : List (List Key × W)} {vs : List (List Key × V)}, RelTs K Lv H ws vs → ws.length = vs.length
  | [], _, .nil => rfl
  | _ :: _, _, .cons _ rs => by rw [List.length_cons, List.length_cons, RelTs.length rs]
theorem RelTs.set {k : List Key} {w : W} {v : V} (r : RelW K Lv H w v) : ∀ {ws : List (List Key × W)} {vs : List (List Key × V)}, RelTs K Lv H ws vs → RelTs K Lv H (ws.map fun kv => if kv.1 = k then (kv.1, w) else kv) (vs.map fun kv => if kv.1 = k then (kv.1, v) else kv)
  | [], _, .nil => .nil
  | (j, _) :: _, _, .cons h rs => by
    rw [List.map_cons, List.map_cons]
    by_cases z : j = k
    · simp only [z, if_true]; exact .cons r (RelTs.set r rs)
    · simp only [z, if_false]; exact .cons h (RelTs.set r rs)
theorem RelTs.app {ws' : List (List Key × W)} {vs' : List (List Key × V)} (r : RelTs K Lv H ws' vs') : ∀ {ws : List (List Key × W)} {vs : List (List Key × V)}, RelTs K Lv H ws vs → RelTs K Lv H (ws ++ ws') (vs ++ vs')
  | [], _, .nil => r
  | _ :: _, _, .cons h rs => .cons h (RelTs.app r rs)
theorem RelTs.put {k : List Key} {w : W} {v : V} {ws : List (List Key × W)} {vs : List (List Key × V)} (r : RelW K Lv H w v) (rs : RelTs K Lv H ws vs) : RelTs K Lv H (putKT ws k w) (putK vs k v) := by
  unfold putKT putK
  rw [rs.any]
  split
  · exact rs.set r
  · exact RelTs.app (.cons r .nil) rs
end
section
variable {X : Cx} {F : Addr → Prop} {Wx : WX} {a b c e f o : Expr} {es : List Expr} {pos apos cpos p px : Pos} {ia ib ic : IE} {x : Str}
end
end Sh
namespace Sh
open PySem L2
open PyProof.Rows hiding St
open He (ga ma)
section
variable {X : Cx} {F : Addr → Prop} {Wx : WX} {a b c e o : Expr} {es : List Expr} {pos apos p : Pos} {ia ib ic : IE} {C : Str} {k' n : Nat} {spec : ISp} {i : IA}
end
section
variable {K : PySem.W.Frag} {F : Addr → Prop} {Lv Lv' : Addr → Prop} {H : Hp}
theorem RelFs.plain (m : ∀ a vs, H a = some (.tup vs) → ¬ Lv a → ¬ Lv' a) : ∀ {fs : List (Str × W)} {vs : List (Str × V)}, RelFs K Lv H fs vs → plainWs (fs.map (·.2)) = true → RelFs K Lv' H fs vs
  | _, _, .nil, _ => .nil
  | _, _, .cons h r, p => .cons (RelW.plain m h (Bool.and_eq_true_iff.mp p).1) (RelFs.plain m r (Bool.and_eq_true_iff.mp p).2)
end
section
variable {X : Cx} {F : Addr → Prop} {Wx : WX} {a c : Expr} {pos p p1 p2 p3 p4 p5 : Pos} {ia : IE} {it : IT} {C x : Str} {k' : Nat} {spec : ISp}
end
end Sh
namespace Sh
open PySem L2
open PyProof.Rows hiding St
section
variable {X : Cx}
end
def tupW (is : List Int) : W := .tup (is.map .int)
def gSortedG : List W → (W → Prop) → Prop := fun ws P => ∃ ss : List (List Int), ws = [.lst (ss.map tupW)] ∧ (∀ is ∈ ss, is ≠ []) ∧ ∀ ss' : List (List Int), ss'.Perm ss → ss'.Pairwise (· ≤ ·) → P (.lst (ss'.map tupW))
section
variable {X : Cx} {F : Addr → Prop} {Wx : WX} {e a : Expr} {es : List Expr} {pos p : Pos} {i : IA} {n : Nat} {ia : IE}
def sAugL (i : Nat) (ia : IE) : IS := fun EI D st => ownL st i fun _ => ia EI st fun y st1 => ownL st1 i fun ws => match y with
  | .lst us => ws.length + us.length ≤ sizeLine ∧ D.nx (st1.put i (.own (.lst (ws ++ us))))
  | _ => False
def tTruO (j : Nat) : IT := fun _ st Q => ownL st j fun ws => Q (!ws.isEmpty) st
end
end Sh
namespace Sh
open PySem L2
open PyProof.Rows hiding St
section
variable {X : Cx} {F : Addr → Prop} {Wx : WX} {vs : List Nat} {a b c e tg : Expr} {es : List Expr} {pos p : Pos} {ia ib ic : IE}
def zipW (xs ys : List W) : List W := List.zipWith (fun x y => W.tup [x, y]) xs ys
def lZip (i : IA) : IL := fun EI st Q => i EI st fun ws st1 => match ws with
  | [.lst xs, .lst ys] => Q (zipW xs ys) st1
  | _ => False
end
end Sh
namespace Sh
open PySem L2
open PyProof.Rows hiding St
def noOwn : Slot → Slot
  | .own _ => .none
  | x => x
def psI : W → Bool
  | .int _ => true
  | _ => false
mutual
def psW : W → Bool
  | .int _ => true
  | .str _ => true
  | .bl _ => true
  | .non => true
  | .ref _ => true
  | .scr _ => true
  | .tup ws => psWs ws
  | .lst ws => ws.all psI
  | _ => false
def psWs : List W → Bool
  | [] => true
  | w :: ws => psW w && psWs ws
end
def psO : SO → Prop
  | .lst ws => psWs ws = true
  | .tbl _ _ => True
  | _ => False
def Stt.ps (st : Stt) (j : Nat) (ws : List W) : Stt := ⟨(st.ρ.map noOwn).set j (.val (.lst ws)), st.S⟩
section
variable {K : PySem.W.Frag} {F : Addr → Prop} {st : Stt} {σ : L2.St} {H H' : Hp} {Lv Lv' : Addr → Prop}
end
section
variable {X : Cx} {F : Addr → Prop} {Wx : WX} {e : Expr} {ie : IE}
def iPeekS (j : Nat) (ie : IE) : IE := fun _ st Q => ∃ tp ws, st.ρ[j]? = some (.own (.lst (.tup tp :: ws))) ∧ ie (fun _ _ => False) (st.ps j (.tup tp :: ws)) fun w st1 =>
  plainW w = true ∧ st1.ρ = (st.ps j (.tup tp :: ws)).ρ ∧ (∀ a o, st1.S a = some o → psO o) ∧ Q w ⟨st.ρ, st1.S⟩
end
end Sh
namespace Sh
open PySem L2
open PyProof.Rows hiding St
section
variable {X : Cx} {F : Addr → Prop} {Wx : WX} {a b : Expr} {pos p : Pos} {ia ib : IE}
end
end Sh
namespace Sh
open PySem L2
open PyProof.Rows hiding St
section
variable {X : Cx} {F : Addr → Prop} {Wx : WX} {a b c e o : Expr} {es : List Expr} {pos p : Pos} {ia ib : IE} {i : IA} {nn : IN}
end
end Sh
namespace Sh
open PySem L2
open PyProof.Rows hiding St
section
variable {X : Cx} {F : Addr → Prop} {Wx : WX} {o e : Expr} {apos cpos : Pos} {ia : IE}
end
section
variable {X : Cx} {F : Addr → Prop} {Wx : WX} {vs : List Nat} {a b c e tg : Expr} {es : List Expr} {pos p : Pos} {ia ib ic : IE} {s : Stmt} {ss : List Stmt} {ip iq : IS} {nn : IN}
variable {elt iter : Expr} {ifs : List Expr} {scope : Scope} {il : IL} {g : IG} {t : IT} {ie : IE}
end
end Sh
namespace Sh
open PySem L2
open PyProof.Rows hiding St
open He (ga ma)
structure CalMH (P : Program) (w : World) (K : PySem.W.Frag) (mg : Str → Option Value) (base : Heap) (C m : Str) (k n : Nat) (spec : ISp) : Prop where
  ex : ∃ fd ps, Cls K (ga K C) ∧ Meth K (ga K C) m (ma K (ga K C) m) ∧ FnHG P w K mg base k (ma K (ga K C) m) fd ps (spI K (n + 1) spec) ∧ Binds K fd ps []
theorem CalMH.spec {P : Program} {w : World} {K : PySem.W.Frag} {mg : Str → Option Value} {base : Heap} {C m : Str} {k n : Nat} {sp sp' : ISp} (M : CalMH P w K mg base C m k n sp) (h : ∀ ws S Q E, sp' ws S Q E → sp ws S Q E) : CalMH P w K mg base C m k n sp' := by
  obtain ⟨fd, ps, c, hm, G, b⟩ := M.ex
  exact ⟨fd, ps, c, hm, ⟨fun q => G.len (spI.imp h q), fun p a b c d e v q => G.go p a b c d e v (spI.imp h q)⟩, b⟩
section
variable {X : Cx} {F : Addr → Prop} {Wx : WX} {a b : Expr} {pos : Pos} {ia ib : IE} {C : Str} {k' : Nat} {spec : ISp} {p : Addr × Obj}
end
end Sh
namespace Sh
open PySem L2
open PyProof.Rows hiding St
section
variable {K : PySem.W.Frag} {F : Addr → Prop} {st : Stt} {σ : L2.St} {H : Hp}
theorem Lk.frz {j : Nat} {ws : List W} (l : Lk K F st σ H) (e : st.ρ[j]? = some (.own (.lst ws))) :
    Lk K F ⟨st.ρ.set j (.val (.lst ws)), st.S⟩ σ H ∧ Step st σ H ⟨st.ρ.set j (.val (.lst ws)), st.S⟩ σ H := by
  have get : ∀ i x, (st.ρ.set j (Slot.val (.lst ws)))[i]? = some x → (i = j ∧ x = .val (.lst ws)) ∨ (i ≠ j ∧ st.ρ[i]? = some x) := fun i x h => by
    rw [List.getElem?_set] at h
    by_cases q : j = i
    · rw [if_pos q] at h
      split at h
      · cases h; exact .inl ⟨q.symm, rfl⟩
      · cases h
    · rw [if_neg q] at h
      exact .inr ⟨fun z => q z.symm, h⟩
  have wr : ∀ a, Wr ⟨st.ρ.set j (.val (.lst ws)), st.S⟩ σ a → Wr st σ a := fun a z => z.imp id fun ⟨i, o, e1, e2⟩ => by
    rcases get i _ e1 with ⟨_, z⟩ | ⟨_, z⟩
    · cases z
    · exact ⟨i, o, z, e2⟩
  have nx : ∀ a, Live F ⟨st.ρ.set j (.val (.lst ws)), st.S⟩ σ a → Live F st σ a := fun a z => z.imp (wr a) id
  refine ⟨⟨by simpa using l.len, fun i w h => ?_, fun i o h => ?_, fun i i' o o' a h h' => ?_, fun a o h => (l.sto a o h).move (fun _ q => q) (mv_same nx), l.ftr, l.fdis⟩, ⟨fun _ _ e _ => e, fun a z => .inl (wr a z)⟩⟩
  · rcases get i _ h with ⟨rfl, z⟩ | ⟨_, z⟩
    · cases z
      obtain ⟨a, e1, ⟨vs, e2, r⟩, n1, n2⟩ := l.own _ _ e
      refine ⟨.ref a, e1, .lst ⟨e2, fun z => ?_⟩ (r.mono (mv_same nx))⟩
      rcases z with (z | ⟨k, o, z1, z2⟩) | z
      · exact z n1
      · rcases get k _ z1 with ⟨_, z⟩ | ⟨n, z⟩
        · cases z
        · exact n (l.inj _ _ _ _ a z e z2 e1)
      · exact n2 z
    · obtain ⟨v, e1, r⟩ := l.val i w z
      exact ⟨v, e1, r.mono (mv_same nx)⟩
  · rcases get i _ h with ⟨_, z⟩ | ⟨_, z⟩
    · cases z
    · obtain ⟨a, e1, r, n1, n2⟩ := l.own i o z
      exact ⟨a, e1, r.move (fun _ q => q) (mv_same nx), n1, n2⟩
  · rcases get i _ h with ⟨_, z⟩ | ⟨_, z⟩
    · cases z
    · rcases get i' _ h' with ⟨_, z'⟩ | ⟨_, z'⟩
      · cases z'
      · exact l.inj i i' o o' a z z'
end
section
variable {X : Cx} {F : Addr → Prop} {Wx : WX} {s : Stmt} {ib : IS}
end
end Sh
namespace Sh
open PySem L2
open PyProof.Rows hiding St
def gSortedLN : List W → (SO → Prop) → Prop := fun ws P => ∃ ns : List Int, ws = [.lst (ns.map .int)] ∧ ∀ ns' : List Int, ns'.Perm ns → ns'.Pairwise (· ≤ ·) → P (.lst (ns'.map .int))
theorem bn_sortedL {K : PySem.W.Frag} : BtN K (rSortedI K) gSortedLN := by
  intro F st σ H ws vs P Q h l r k
  obtain ⟨ns, rfl, h⟩ := h
  cases r with
  | cons r1 r2 =>
    cases r2
    cases r1 with
    | lst f rs =>
      rw [ints_of rs] at f
      refine ⟨_, ns, rfl, f.sq, fun ns' p pm pw hp => ?_⟩
      obtain ⟨l2, s2, r2, n2⟩ := lay_new l (ws := ns'.map .int) (RelWs.ints _) hp
      exact k _ _ _ (h ns' pm pw) l2 s2 r2 n2
section
variable {X : Cx} {F : Addr → Prop} {Wx : WX} {e : Expr} {es : List Expr} {pos p : Pos} {i : IA} {n : Nat}
theorem n_sortedL (hm : X.mg "sorted" = none) (ha : PA X (e :: es) (LA X.K F Wx n i)) (hg : Gl X "sorted" := by rfl) (he : starEach (e :: es) X.env = (false, eval e X.env) :: starEach es X.env := by rfl) (hpl : (backTo pos (starEach es X.env)).any (·.1) = false := by rfl) :
    PE X (.Call (.Name "sorted" p) (e :: es) [] pos) (LN X.K F Wx (nFn gSortedLN i)) := n_fnB cr_sortedI bn_sortedL hm boot_sorted' ha hg (by decide) (by decide) he hpl
end
end Sh
namespace Sh
open PySem L2
open PyProof.Rows hiding St
theorem RelKs.length {K : PySem.W.Frag} {Lv : Addr → Prop} {H : Hp} : ∀ {ws : List (Key × W)} {vs : List (Key × V)}, RelKs K Lv H ws vs → ws.length = vs.length
  | [], _, .nil => rfl
  | _ :: _, _, .cons _ rs => by rw [List.length_cons, List.length_cons, RelKs.length rs]
section
variable {X : Cx} {F : Addr → Prop} {Wx : WX} {a b c e f o : Expr} {es : List Expr} {pos apos cpos p px : Pos} {ia ib ic : IE} {x : Str}
end
end Sh
namespace Sh
open PySem L2
open PyProof.Rows hiding St
section
variable {X : Cx} {F : Addr → Prop} {Wx : WX} {e : Expr} {es : List Expr} {pos p : Pos} {i : IA} {n : Nat}
end
end Sh
namespace Sh
open PySem PySem.W PySem.Calls PyProof.Rows HandSHeadRun
end Sh
namespace Sh
open PySem L2
open PyProof.Rows hiding St
section
variable {X : Cx}
end
section
variable {X : Cx} {F : Addr → Prop} {Wx : WX} {e : Expr} {es : List Expr} {pos p : Pos} {i : IA} {n : Nat}
end
end Sh
namespace Sh
open PySem L2
open PyProof.Rows hiding St
section
variable {X : Cx}
variable {kx vx tg iter : Expr} {ifs : List Expr} {scope : Scope} {own : List (Str × Nat)} {pos : Pos} {wi : TI} {g : TG} {tt : TT} {tk tv : TE}
end
section
variable {X : Cx} {F : Addr → Prop} {Wx : WX} {kx vx tg iter : Expr} {ifs : List Expr} {scope : Scope} {pos : Pos} {il : IL} {g : IG} {t : IT} {ik iv : IE}
end
end Sh
namespace Sh
open PySem L2
open PyProof.Rows hiding St
section
variable {X : Cx}
end
section
variable {X : Cx} {F : Addr → Prop} {Wx : WX} {a b e : Expr} {es : List Expr} {pos p : Pos} {i : IA} {n : Nat}
end
end Sh
namespace Sh
open PySem L2
open PyProof.Rows hiding St
section
variable {X : Cx} {F : Addr → Prop} {Wx : WX} {a b : Expr} {pos p : Pos} {ia ib : IE}
end
end Sh
namespace Sh
open PySem L2
open PyProof.Rows hiding St
open He (ga ma)
section
open PySem.SeqAt AutoSeq1
theorem pair_ne {prog : Program} {w : World} {l b : Addr} {y0 y1 x0 x1 : Value} : MeetsIn prog w (Builtin.«tuple.__ne__» ⟨[.ref l, .ref b], []⟩)
    (fun A R s => s.heap.IsTuple l #[y0, y1] ∧ s.heap.IsTuple b #[x0, x1] ∧ EqAt A.in1 s y0 x0 true ∧ wpAny (model prog w) A.in1 (eqBool y1 x1) (fun d s' => R (.ok (.ret (.bool (!d)))) s') (fun e s' => R (.error e) s') s) := .of_wp fun A R s h => by
  obtain ⟨hp, g, d, tk, os⟩ := s
  obtain ⟨⟨⟨c1, dd, da, sl⟩, hl, ec, n, ed⟩, ⟨⟨c2, dd2, da2, sl2⟩, hb, ec2, n2, ed2⟩, he, h⟩ := h
  simp only at ec ed ec2 ed2
  subst ec ed ec2 ed2
  have f2 := AutoSeq1.sub_tuple_tuple
  have hz : ((#[y0, y1] : Array Value).toList.zip (#[x0, x1] : Array Value).toList) = [(y0, x0), (y1, x1)] := rfl
  wp_walk using wpAny_loadPart' hl, wpAny_loadPart' hb, wpAny_forIn_list _ (fun rest b s' => b.1 = none ∧ ((rest = [(y0, x0), (y1, x1)] ∧ s' = ⟨hp, g, d, tk, os⟩) ∨ (rest = [(y1, x1)] ∧ s' = ⟨hp, g, d, tk, os⟩) ∨ rest = [] ∧ R (.ok (.ret (.bool false))) s')) _
  case turn =>
    rintro ⟨y, x⟩ rest b s' ⟨hb', ⟨er, rfl⟩ | ⟨er, rfl⟩ | ⟨er, _⟩⟩
    · injection er with e1 e2
      cases e1
      refine wpAny_bind (he prog w _ _ ?_)
      wp_walk
      exact ⟨rfl, .inr (.inl ⟨e2, rfl⟩)⟩
    · injection er with e1 e2
      cases e1
      refine wpAny_bind (wpAny_mono h (fun k s2 hk => ?_) fun _ _ z => z)
      cases k with
      | true =>
        wp_walk
        exact ⟨rfl, .inr (.inr ⟨e2, hk⟩)⟩
      | false =>
        wp_walk
        exact ⟨_, rfl, hk⟩
    · cases er
  case fin =>
    rintro ⟨b1, b2⟩ s' ⟨hb', ⟨er, _⟩ | ⟨er, _⟩ | ⟨_, hR⟩⟩
    · cases er
    · cases er
    simp only at hb'
    subst hb'
    wp_walk
    exact ⟨_, rfl, by simpa [Builtin.Tuple.tupleCompareSizes] using hR⟩
  case h =>
    exact ⟨rfl, .inl ⟨hz, rfl⟩⟩
end
section
variable {X : Cx} {F : Addr → Prop} {Wx : WX} {a b : Expr} {pos : Pos} {ia ib : IE} {C : Str} {k' : Nat} {spec : ISp}
end
end Sh
namespace Sh
open PySem L2
open PyProof.Rows hiding St
inductive Cvs (P : Program) (w : World) (K : PySem.W.Frag) (mg : Str → Option Value) (base : Heap) (k n : Nat) : List (Str × ISp) → Prop
  | nil : Cvs P w K mg base k n []
  | cons {x : Str} {k' : Nat} {spec : ISp} {l : List (Str × ISp)} (C : Cal P w K mg base x k' n spec) (h : k' ≤ k) (g : mg x = some (.ref (He.ga K x))) (r : Cvs P w K mg base k n l) : Cvs P w K mg base k n ((x, spec) :: l)
theorem Cvs.get {P : Program} {w : World} {K : PySem.W.Frag} {mg : Str → Option Value} {base : Heap} {k n : Nat} {x : Str} {spec : ISp} : ∀ {l : List (Str × ISp)}, Cvs P w K mg base k n l → l.lookup x = some spec → Cal P w K mg base x k n spec ∧ mg x = some (.ref (He.ga K x))
  | _, .nil, e => by cases e
  | _, .cons (x := y) C h g r, e => by
    rw [List.lookup_cons] at e
    split at e
    · rename_i z
      cases e
      cases eq_of_beq z
      exact ⟨C.up h, g⟩
    · exact r.get e
section
variable {X : Cx} {F : Addr → Prop} {Wx : WX} {e : Expr} {es : List Expr} {pos p : Pos} {n k' i : Nat} {ia : IA} {x : Str} {cs : List (Str × ISp)}
end
end Sh
namespace Sh
open PySem L2
open PyProof.Rows hiding St
section
variable {X : Cx} {F : Addr → Prop} {Wx : WX} {e c0 c1 : Expr} {es : List Expr} {pos p : Pos} {n k' : Nat} {ic : IE} {ia : IA} {cs : List (Str × ISp)}
end
end Sh
namespace Sh
open PySem L2
open PyProof.Rows hiding St
section
open PySem.SeqAt
variable {X : Cx} {F : Addr → Prop} {Wx : WX} {a b : Expr} {pos : Pos} {ia ib : IE}
theorem eq_same {prog : Program} {w : World} {A : Around} {s : Shared} {p : Addr} {R : Bool → Shared → Prop} {E : Value → Shared → Prop} (q : R true s) : wpAny (model prog w) A (eqBool (.ref p) (.ref p)) R E s := by
  unfold eqBool
  refine wpAny_holding ?_
  exact wpAny_ite_split (fun _ => wpAny_bind (wpAny_rule (wpAny_pure q))) (fun ne => (ne BEq.rfl).elim)
def rEqI (K : PySem.W.Frag) (neg : Bool) : R2 := fun x y H Q => ∃ a b t p, x = .ref a ∧ y = .ref b ∧ SqT K H a [.str t, .ref p] ∧ SqT K H b [.str t, .ref p] ∧ Q (.bl (!neg)) H
theorem op_neI (hu : X.A.units + 64 < cLine) : OpR X (compareOp .NotEq) (rEqI X.K true) := by
  intro pins s σ H x y v u Q I rx ry h
  obtain ⟨l, b, t, p, rfl, rfl, h1, h2, q0⟩ := h
  obtain rfl : v = Value.ref l := rx
  obtain rfl : u = Value.ref b := ry
  obtain ⟨its, rv, ht, _⟩ := I.tuple h1
  obtain ⟨y0, y1, ei, ry0, ry1⟩ := vals2 rv
  subst ei
  cases ry1
  obtain ⟨its2, rv2, ht2, _⟩ := I.tuple h2
  obtain ⟨x0, x1, ei, rx0, rx1⟩ := vals2 rv2
  subst ei
  cases rx1
  obtain ⟨t1, e1⟩ := (show ∃ k, y0 = Value.str t k from ry0)
  obtain ⟨t2, e2⟩ := (show ∃ k, x0 = Value.str t k from rx0)
  subst e1 e2
  have ht : s.heap.IsTuple l #[.str t t1, .ref p] := ht
  have ht2 : s.heap.IsTuple b #[.str t t2, .ref p] := ht2
  have T1 : s.TypeIs (.ref l) "tuple" := ht.typeIs
  have T2 : s.TypeIs (.ref b) "tuple" := ht2.typeIs
  show wpAny _ _ (richCompare .NotEq _ _) _ _ _
  refine wpAny_richCompare_same_room T1 T2 PySem.F.slot_tuple_ne (call_meetsIn PySem.F.slot_tuple_ne T1 PySem.F.entry_tuple_ne (PySem.F.args_tuple_ne_2 _ _) pair_ne ⟨ht, ht2, ?_, ?_⟩) (by omega)
  · have := PySem.SeqAt.EqAt.str_str (A := X.A.in1) (s := s) t t1 t t2
    rwa [beq_self_eq_true] at this
  · exact eq_same ⟨(fun z => nomatch z), .bl false, H, I, rfl, q0⟩
def gNeI (x y : W) (P : W → Prop) : Prop := match x, y with
  | .tup [.str a, .ref p], .tup [.str b, .ref q] => a = b ∧ p = q ∧ P (.bl false)
  | _, _ => False
theorem neI_lift {σ : L2.St} {st : Stt} {H : Hp} {x y : W} {v u : V} {P : W → Prop} {Q : VK} (q : gNeI x y P) (l : Lk X.K F st σ H) (r1 : RelW X.K (Live F st σ) H x v) (r2 : RelW X.K (Live F st σ) H y u)
    (k : ∀ b, P (.bl b) → Q (.bl b) H) : rEqI X.K true v u H Q := by
  unfold gNeI at q
  split at q
  · obtain ⟨e, e2, p⟩ := q
    subst e e2
    cases r1 with
    | tup f rs =>
      cases rs with
      | cons ra rs =>
        cases ra
        cases rs with
        | cons rb rs =>
          cases rb
          cases rs
          cases r2 with
          | tup f2 rs =>
            cases rs with
            | cons rc rs =>
              cases rc
              cases rs with
              | cons rd rs =>
                cases rd
                cases rs
                exact ⟨_, _, _, _, rfl, rfl, f.sq, f2.sq, k _ p⟩
  · exact q.elim
theorem t_neI (hu : X.A.units + 64 < cLine) (ha : PE X a (LE X.K F Wx ia)) (hb : PE X b (LE X.K F Wx ib)) : PT X (.Compare a [.NotEq] [b] pos) (LT X.K F Wx (tBl (iB gNeI ia ib))) := by
  refine pt_imp (pt_cmpR (op_neI hu) ha hb (nomark _)) fun σ H Q h => ?_
  obtain ⟨st, QI, EI, l, q, ux, k⟩ := t_of_bl h
  exact ⟨st, _, EI, l, q, ux, fun x st1 v H1 q1 l1 s1 r1 => ⟨st1, _, EI, l1, q1, ux.step s1, fun y st2 u H2 q2 l2 s2 r2 => neI_lift q2 l2 (r1.mono s2.mv) r2 fun d q4 => k _ _ _ H2 q4 l2 (s1.trans s2) (.bl d)⟩⟩
end
end Sh
namespace Sh
open PySem L2
open PyProof.Rows hiding St
open He (ga ma)
section
variable {X : Cx} {F : Addr → Prop} {Wx : WX} {e : Expr} {es : List Expr} {pos p : Pos} {cs : List Str} {i : IA} {n : Nat} {x : Str}
end
end Sh
namespace Sh
open PySem L2
open PyProof.Rows hiding St
end Sh
namespace LawC
open PySem PySem.Spec L2 Sh
open PyProof.Rows hiding St
def kC_BY_NUMBER : W := .tup [.str "all", .str "up", .str "wheel"]
def kT_BY_FILES : List (Str × W) := [("all", .int (0)), ("up", .int (1)), ("swap", .int (2)), ("wheel", .int (2)), ("about", .int (0)), ("front", .int (2)), ("halve", .int (0)), ("pair", .int (0)), ("others", .int (0)), ("fill", .int (0))]
def kC_MOST_ROWS : W := .int (400)
end LawC
namespace Law0
open PySem PySem.Spec L2 Sh
open PyProof.Rows hiding St
open LawC
def top (i : Nat) : Stmt := PySem.Challenge.pw_pupilpairs_k23_lines_told.main.body.getD i (.Pass ⟨0, 0, 0, 0⟩)
abbrev s_l_bag : Stmt := top 36
abbrev s_l_take : Stmt := top 37
abbrev s_pv_is_integer : Stmt := top 2
abbrev s_p_is_files : Stmt := top 3
abbrev s_p_is_rows : Stmt := top 4
abbrev s_k_Line : Stmt := clsBody (top 34) 0
abbrev s_l_one : Stmt := top 38
abbrev s_l_number : Stmt := top 40
abbrev s_l_mixed : Stmt := top 39
abbrev s_l_two : Stmt := top 41
abbrev s_l_call : Stmt := top 42
abbrev s_l_calls : Stmt := top 44
abbrev s_l_all_kinds : Stmt := top 43
abbrev s_m_Script_files : Stmt := clsBody (top 30) 4
abbrev s_m_Line_follow : Stmt := clsBody (top 34) 12
abbrev s_p_number_of : Stmt := top 24
abbrev s_pv_is_index : Stmt := top 5
abbrev s_pv_is_place : Stmt := top 23
abbrev s_i_Script : Stmt := clsBody (top 30) 3
abbrev s_p_on_wheel : Stmt := top 12
abbrev s_p_on_open : Stmt := top 13
abbrev s_p_moved_by : Stmt := top 14
abbrev s_p_passed : Stmt := top 27
abbrev s_p_moved : Stmt := top 28
abbrev s_p_place_of_moves : Stmt := top 25
abbrev s_p_moves_of : Stmt := top 33
abbrev s_p_is_call : Stmt := top 10
abbrev s_k_Script : Stmt := clsBody (top 30) 0
abbrev s_m_Line_do : Stmt := clsBody (top 34) 13
abbrev s_l_brought_open : Stmt := top 46
abbrev s_l_brought : Stmt := top 45
abbrev s_l_done : Stmt := top 47
abbrev s_mn_Line_order : Stmt := clsBody (top 34) 6
abbrev s_m_Line_leaders : Stmt := clsBody (top 34) 10
abbrev s_i_Line : Stmt := clsBody (top 34) 3
abbrev s_m_Line___len__ : Stmt := clsBody (top 34) 2
abbrev s_m_Line_is_home : Stmt := clsBody (top 34) 11
abbrev s_m_Line_rows : Stmt := clsBody (top 34) 5
abbrev s_m_Line_files : Stmt := clsBody (top 34) 4
abbrev s_m_Line_place_of : Stmt := clsBody (top 34) 8
abbrev s_m_Line_at : Stmt := clsBody (top 34) 7
abbrev s_m_Line_row_of : Stmt := clsBody (top 34) 9
abbrev s_l_right : Stmt := top 49
abbrev s_l_heard : Stmt := top 48
abbrev s_mm_Line_order : Stmt := clsBody (top 34) 6
abbrev s_law : Stmt := top 50
abbrev s_k_NoPupil : Stmt := clsBody (top 21) 0
abbrev s_k_NoPlace : Stmt := clsBody (top 20) 0
abbrev R : PySem.W.OpenRow := PySem.W.OpenLaw.row PySem.Challenge.rw_pupilpairs_k23_lines_told
def dd_l_bag : He.DefD := ⟨("_law_bag", none), "_law_bag", "_law_bag", defArgs s_l_bag, defBody s_l_bag, defScope s_l_bag, [], []⟩
def dd_l_take : He.DefD := ⟨("_law_take", none), "_law_take", "_law_take", defArgs s_l_take, defBody s_l_take, defScope s_l_take, [], []⟩
def dd_pv_is_integer : He.DefD := ⟨("is_integer", none), "is_integer", "is_integer", defArgs s_pv_is_integer, defBody s_pv_is_integer, defScope s_pv_is_integer, [], []⟩
def dd_p_is_files : He.DefD := ⟨("is_files", none), "is_files", "is_files", defArgs s_p_is_files, defBody s_p_is_files, defScope s_p_is_files, [], []⟩
def dd_p_is_rows : He.DefD := ⟨("is_rows", none), "is_rows", "is_rows", defArgs s_p_is_rows, defBody s_p_is_rows, defScope s_p_is_rows, [], []⟩
def dd_l_one : He.DefD := ⟨("_law_one", none), "_law_one", "_law_one", defArgs s_l_one, defBody s_l_one, defScope s_l_one, [], []⟩
def dd_l_number : He.DefD := ⟨("_law_number", none), "_law_number", "_law_number", defArgs s_l_number, defBody s_l_number, defScope s_l_number, [], []⟩
def dd_l_mixed : He.DefD := ⟨("_law_mixed", none), "_law_mixed", "_law_mixed", defArgs s_l_mixed, defBody s_l_mixed, defScope s_l_mixed, [], []⟩
def dd_l_two : He.DefD := ⟨("_law_two", none), "_law_two", "_law_two", defArgs s_l_two, defBody s_l_two, defScope s_l_two, [], []⟩
def dd_l_call : He.DefD := ⟨("_law_call", none), "_law_call", "_law_call", defArgs s_l_call, defBody s_l_call, defScope s_l_call, [], []⟩
def dd_l_calls : He.DefD := ⟨("_law_calls", none), "_law_calls", "_law_calls", defArgs s_l_calls, defBody s_l_calls, defScope s_l_calls, [], []⟩
def dd_l_all_kinds : He.DefD := ⟨("_law_all_kinds", none), "_law_all_kinds", "_law_all_kinds", defArgs s_l_all_kinds, defBody s_l_all_kinds, defScope s_l_all_kinds, [], []⟩
def dd_p_number_of : He.DefD := ⟨("number_of", none), "number_of", "number_of", defArgs s_p_number_of, defBody s_p_number_of, defScope s_p_number_of, [], []⟩
def dd_pv_is_index : He.DefD := ⟨("is_index", none), "is_index", "is_index", defArgs s_pv_is_index, defBody s_pv_is_index, defScope s_pv_is_index, [], []⟩
def dd_pv_is_place : He.DefD := ⟨("is_place", none), "is_place", "is_place", defArgs s_pv_is_place, defBody s_pv_is_place, defScope s_pv_is_place, [], []⟩
def dd_p_on_wheel : He.DefD := ⟨("on_wheel", none), "on_wheel", "on_wheel", defArgs s_p_on_wheel, defBody s_p_on_wheel, defScope s_p_on_wheel, [], []⟩
def dd_p_on_open : He.DefD := ⟨("on_open", none), "on_open", "on_open", defArgs s_p_on_open, defBody s_p_on_open, defScope s_p_on_open, [], []⟩
def dd_p_moved_by : He.DefD := ⟨("moved_by", none), "moved_by", "moved_by", defArgs s_p_moved_by, defBody s_p_moved_by, defScope s_p_moved_by, [], []⟩
def dd_p_passed : He.DefD := ⟨("passed", none), "passed", "passed", defArgs s_p_passed, defBody s_p_passed, defScope s_p_passed, [], []⟩
def dd_p_moved : He.DefD := ⟨("moved", none), "moved", "moved", defArgs s_p_moved, defBody s_p_moved, defScope s_p_moved, [], []⟩
def dd_p_place_of_moves : He.DefD := ⟨("place_of_moves", none), "place_of", "place_of", defArgs s_p_place_of_moves, defBody s_p_place_of_moves, defScope s_p_place_of_moves, [], []⟩
def dd_p_moves_of : He.DefD := ⟨("moves_of", none), "moves_of", "moves_of", defArgs s_p_moves_of, defBody s_p_moves_of, defScope s_p_moves_of, [], []⟩
def dd_p_is_call : He.DefD := ⟨("is_call", none), "is_call", "is_call", defArgs s_p_is_call, defBody s_p_is_call, defScope s_p_is_call, [], []⟩
def dd_l_brought_open : He.DefD := ⟨("_law_brought_open", none), "_law_brought_open", "_law_brought_open", defArgs s_l_brought_open, defBody s_l_brought_open, defScope s_l_brought_open, [], []⟩
def dd_l_brought : He.DefD := ⟨("_law_brought", none), "_law_brought", "_law_brought", defArgs s_l_brought, defBody s_l_brought, defScope s_l_brought, [], []⟩
def dd_l_done : He.DefD := ⟨("_law_done", none), "_law_done", "_law_done", defArgs s_l_done, defBody s_l_done, defScope s_l_done, [], []⟩
def dd_l_right : He.DefD := ⟨("_law_right", none), "_law_right", "_law_right", defArgs s_l_right, defBody s_l_right, defScope s_l_right, [], []⟩
def dd_l_heard : He.DefD := ⟨("_law_heard", none), "_law_heard", "_law_heard", defArgs s_l_heard, defBody s_l_heard, defScope s_l_heard, [], []⟩
def dd_law : He.DefD := ⟨("law", none), "law", "law", defArgs s_law, defBody s_law, defScope s_law, [], []⟩
def dd_k_Line : He.DefD := ⟨("Line", some "__init__"), "__init__", "Line.__init__", defArgs s_k_Line, defBody s_k_Line, defScope s_k_Line, [], []⟩
def dd_m_Line_follow : He.DefD := ⟨("Line", some "follow"), "follow", "Line.follow", defArgs s_m_Line_follow, defBody s_m_Line_follow, defScope s_m_Line_follow, [], []⟩
def dd_i_Script : He.DefD := ⟨("Script", some "__iter__"), "__iter__", "Script.__iter__", defArgs s_i_Script, defBody s_i_Script, defScope s_i_Script, [], []⟩
def dd_k_Script : He.DefD := ⟨("Script", some "__init__"), "__init__", "Script.__init__", defArgs s_k_Script, defBody s_k_Script, defScope s_k_Script, [], []⟩
def dd_m_Line_do : He.DefD := ⟨("Line", some "do"), "do", "Line.do", defArgs s_m_Line_do, defBody s_m_Line_do, defScope s_m_Line_do, [], []⟩
def dd_mn_Line_order : He.DefD := ⟨("Line", some "order"), "order", "Line.order", defArgs s_mn_Line_order, defBody s_mn_Line_order, defScope s_mn_Line_order, [], []⟩
def dd_m_Line_leaders : He.DefD := ⟨("Line", some "leaders"), "leaders", "Line.leaders", defArgs s_m_Line_leaders, defBody s_m_Line_leaders, defScope s_m_Line_leaders, [], []⟩
def dd_i_Line : He.DefD := ⟨("Line", some "__iter__"), "__iter__", "Line.__iter__", defArgs s_i_Line, defBody s_i_Line, defScope s_i_Line, [], []⟩
def dd_m_Line___len__ : He.DefD := ⟨("Line", some "__len__"), "__len__", "Line.__len__", defArgs s_m_Line___len__, defBody s_m_Line___len__, defScope s_m_Line___len__, [], []⟩
def dd_m_Line_is_home : He.DefD := ⟨("Line", some "is_home"), "is_home", "Line.is_home", defArgs s_m_Line_is_home, defBody s_m_Line_is_home, defScope s_m_Line_is_home, [], []⟩
def dd_m_Line_place_of : He.DefD := ⟨("Line", some "place_of"), "place_of", "Line.place_of", defArgs s_m_Line_place_of, defBody s_m_Line_place_of, defScope s_m_Line_place_of, [], []⟩
def dd_m_Line_at : He.DefD := ⟨("Line", some "at"), "at", "Line.at", defArgs s_m_Line_at, defBody s_m_Line_at, defScope s_m_Line_at, [], []⟩
def dd_m_Line_row_of : He.DefD := ⟨("Line", some "row_of"), "row_of", "Line.row_of", defArgs s_m_Line_row_of, defBody s_m_Line_row_of, defScope s_m_Line_row_of, [], []⟩
def dd_mm_Line_order : He.DefD := ⟨("Line", some "order"), "order", "Line.order", defArgs s_mm_Line_order, defBody s_mm_Line_order, defScope s_mm_Line_order, [], []⟩
def fnA : List He.DefD := [dd_l_bag, dd_l_take, dd_pv_is_integer, dd_p_is_files, dd_p_is_rows, dd_l_one, dd_l_number, dd_l_mixed, dd_l_two, dd_l_call, dd_l_calls, dd_l_all_kinds, dd_p_number_of, dd_pv_is_index, dd_pv_is_place, dd_p_on_wheel, dd_p_on_open, dd_p_moved_by, dd_p_passed, dd_p_moved, dd_p_place_of_moves, dd_p_moves_of]
def fnB : List He.DefD := [dd_p_is_call, dd_l_brought_open, dd_l_brought, dd_l_done, dd_l_right, dd_l_heard, dd_law, dd_k_Line, dd_m_Line_follow, dd_i_Script, dd_k_Script, dd_m_Line_do, dd_mn_Line_order, dd_m_Line_leaders, dd_i_Line, dd_m_Line___len__, dd_m_Line_is_home, dd_m_Line_place_of, dd_m_Line_at, dd_m_Line_row_of, dd_mm_Line_order]
def fn : List He.DefD := fnA ++ fnB
def pd_m_Script_files : PrD := ⟨"Script", "files", "Script.files", defArgs s_m_Script_files, defBody s_m_Script_files, defScope s_m_Script_files⟩
def pd_m_Line_rows : PrD := ⟨"Line", "rows", "Line.rows", defArgs s_m_Line_rows, defBody s_m_Line_rows, defScope s_m_Line_rows⟩
def pd_m_Line_files : PrD := ⟨"Line", "files", "Line.files", defArgs s_m_Line_files, defBody s_m_Line_files, defScope s_m_Line_files⟩
def prL : List PrD := [pd_m_Script_files, pd_m_Line_rows, pd_m_Line_files]
def sd_NoPupil : SupD := ⟨"NoPupil", "pupil", "NoPupil.__init__", defArgs s_k_NoPupil, defBody s_k_NoPupil, defScope s_k_NoPupil, PySem.Challenge.pw_pupilpairs_k23_lines_told.main.file⟩
def sd_NoPlace : SupD := ⟨"NoPlace", "place", "NoPlace.__init__", defArgs s_k_NoPlace, defBody s_k_NoPlace, defScope s_k_NoPlace, PySem.Challenge.pw_pupilpairs_k23_lines_told.main.file⟩
def spL : List SupD := [sd_NoPupil, sd_NoPlace]
def fa0 : List He.Fa := [.glo "_law_bag", .glo "_law_take", .glo "is_integer", .glo "is_files", .glo "is_rows", .glo "_law_one", .glo "_law_number", .glo "_law_mixed", .glo "_law_two", .glo "_law_call", .glo "_law_calls", .glo "_law_all_kinds", .glo "number_of", .glo "is_index", .glo "is_place", .glo "on_wheel", .glo "on_open", .glo "moved_by", .glo "passed", .glo "moved", .glo "place_of_moves", .glo "moves_of", .glo "is_call", .glo "_law_brought_open", .glo "_law_brought", .glo "_law_done", .glo "_law_right", .glo "_law_heard", .glo "law", .free "abs", .free "len", .free "int", .free "isinstance", .free "bool", .free "list", .free "range", .free "enumerate", .free "tuple", .free "str", .free "all"]
def fa1 : List He.Fa := [.free "super", .free "sorted", .free "repr", .free "iter", .glo "NoPupil", .glo "NoPlace", .glo "Line", .cls "Line", .glo "Script", .cls "Script", .glo "PupilError", .mkr "Line", .meth "Line" "follow", .meth "Script" "__iter__", .noat "Script" "steps", .mkr "Script", .meth "Line" "do", .meth "Line" "order", .meth "Line" "leaders", .meth "Line" "__iter__", .noat "Line" "standing", .meth "Line" "__len__", .meth "Line" "is_home", .meth "Line" "place_of", .meth "Line" "at", .meth "Line" "row_of", .noat "Line" "width", .noat "Line" "deep", .noat "Script" "width"]
def faA : List He.Fa := fa0
def faB : List He.Fa := fa1
def fa : List He.Fa := faA ++ faB
def lo0 : List Str := ["_wall", "__name__", "is_integer", "is_files", "is_rows", "is_index", "BY_NUMBER", "BY_FILES", "OPEN_CALLS", "is_call", "turned", "on_wheel", "on_open", "moved_by", "PupilError", "Wrong", "NoCall", "Unlike", "NoPlace", "NoPupil", "is_place", "number_of", "place_of", "place_of_moves", "passed", "moved", "Script", "MOST_ROWS", "moves_of", "Line"]
def lo1 : List Str := ["_law_bag", "_law_take", "_law_one", "_law_mixed", "_law_number", "_law_two", "_law_call", "_law_all_kinds", "_law_calls", "_law_brought", "_law_brought_open", "_law_done", "_law_heard", "_law_right"]
def loose : List Str := lo0 ++ lo1
def tsL : List He.Tab := [(fun K => He.ga K "BY_FILES", ["all", "up", "swap", "wheel", "about", "front", "halve", "pair", "others", "fill"])]
def exL (K : PySem.W.Frag) : Bool := kcB K "MOST_ROWS" kC_MOST_ROWS && kdB K "BY_FILES" kT_BY_FILES && kcB K "BY_NUMBER" kC_BY_NUMBER && kitFB K ["Script", "Line"] && kitFB K [] && kitFB K ["Script"] && catFB K ["Wrong", "NoCall", "Unlike", "NoPlace", "NoPupil"] "PupilError" && isEFB K ["Wrong", "NoCall", "Unlike", "NoPlace", "NoPupil"] ["NoPlace", "NoPupil"] && xfFB K ["Wrong", "NoPlace"] "place" && xfFB K ["NoPupil"] "pupil" && sysB K && tabNB K ["law"] && true
abbrev hkL : PySem.W.Hook := hookS 5 fa fn tsL [("law", none)] exL prL spL
def obL (s : PySem.W.SharedT) : AlS := obsS 5 fa fn tsL [("law", none)] exL prL spL (HandSHeadRun.getT s)
theorem obL_eq (s : PySem.W.SharedT) : obL s = hkL.obs s.abs := obsS_eq (HandSHeadRun.getT_eq s)
theorem runF (w : World) : HandSHeadRun.RunEq R (PySem.W.view R.prog [50]) hkL obL 8000 loose (w.withFollow "special-get-raises" false) := by
  intro os
  kernel_rfl
theorem runT (w : World) : HandSHeadRun.RunEq R (PySem.W.view R.prog [50]) hkL obL 8000 loose (w.withFollow "special-get-raises" true) := by
  intro os
  kernel_rfl
theorem run (w : World) : HandSHeadRun.RunEq R (PySem.W.view R.prog [50]) hkL obL 8000 loose w :=
  PySem.W.byRow2 "special-get-raises" (P := fun w => HandSHeadRun.RunEq R (PySem.W.view R.prog [50]) hkL obL 8000 loose w) runF runT w
end Law0
namespace Sh
open PySem L2
open PyProof.Rows hiding St
theorem Sto.put_put {S : Sto} {a : Addr} {o o' : SO} : (S.put a o).put a o' = S.put a o' := by
  funext b
  unfold Sto.put
  split <;> rfl
theorem atI_0 {α : Type} {x : α} {xs : List α} : atI (x :: xs) 0 = some x := by
  unfold atI ixN
  rw [if_pos (by omega), if_pos (by rw [List.length_cons]; omega)]
  rfl
theorem atI_nat {α : Type} {xs : List α} {i : Nat} (h : i < xs.length) : atI xs (i : Int) = some xs[i] := by
  unfold atI ixN
  rw [if_pos (by omega), if_pos (by omega)]
  simp [h]
theorem atI_pos {α : Type} {xs : List α} {i : Int} (h0 : 0 ≤ i) (h : i < xs.length) : atI xs i = some (xs[i.toNat]'(by omega)) := by
  have e := atI_nat (xs := xs) (i := i.toNat) (by omega)
  rw [Int.toNat_of_nonneg h0] at e
  exact e
theorem atI_1 {α : Type} {x y : α} {xs : List α} : atI (x :: y :: xs) 1 = some y := by
  unfold atI ixN
  rw [if_pos (by omega), if_pos (by simp only [List.length_cons]; omega)]
  rfl
theorem atI_2 {α : Type} {x y z : α} {xs : List α} : atI (x :: y :: z :: xs) 2 = some z := by
  unfold atI ixN
  rw [if_pos (by omega), if_pos (by simp only [List.length_cons]; omega)]
  rfl
theorem atI_3 {α : Type} {x y z u : α} {xs : List α} : atI (x :: y :: z :: u :: xs) 3 = some u := by
  unfold atI ixN
  rw [if_pos (by omega), if_pos (by simp only [List.length_cons]; omega)]
  rfl
theorem ixN_4_0 : ixN (0 + 1 + 1 + 1 + 1) 0 = some 0 := rfl
theorem ixN_4_1 : ixN (0 + 1 + 1 + 1 + 1) 1 = some 1 := rfl
theorem ixN_4_2 : ixN (0 + 1 + 1 + 1 + 1) 2 = some 2 := rfl
theorem ixN_4_3 : ixN (0 + 1 + 1 + 1 + 1) 3 = some 3 := rfl
theorem toNat_2 : Int.toNat 2 = 2 := rfl
section
variable {α : Type} {a b c d : α}
theorem cut_13 : cutW [a, b, c, d] (some 1) (some 3) = [b, c] := rfl
theorem cut_1_2 : cutW [a, b] (some 1) none = [b] := rfl
theorem cut_1_3 : cutW [a, b, c] (some 1) none = [b, c] := rfl
theorem cut_m2 : cutW [a, b] none (some (-1)) = [a] := rfl
theorem cut_m3 : cutW [a, b, c] none (some (-1)) = [a, b] := rfl
theorem cut_m4 : cutW [a, b, c, d] none (some (-1)) = [a, b, c] := rfl
theorem atI_m2 : atI [a, b] (-1) = some b := rfl
theorem atI_m3 : atI [a, b, c] (-1) = some c := rfl
theorem atI_m4 : atI [a, b, c, d] (-1) = some d := rfl
end
theorem fz_val (w : W) : (R.val w).fz = w := rfl
theorem fz_new (o : SO) : (R.new o).fz = o.fz := rfl
theorem so_lst (ws : List W) : (SO.lst ws).fz = .lst ws := rfl
theorem so_dct (ws : List (Key × W)) : (SO.dct ws).fz = .dct ws := rfl
theorem so_ins (C) (ws : List (Str × W)) : (SO.ins C ws).fz = .obj C ws := rfl
section
variable {i j : Int} {x y : Str} {ws vs : List W} {v w : W} {a b : Bool} {n : Nat}
theorem eqW_ii : eqW (.int i) (.int j) = (i == j) := rfl
theorem eqW_ss : eqW (.str x) (.str y) = (x == y) := rfl
theorem eqW_tt : eqW (.tup ws) (.tup vs) = eqWs ws vs := rfl
theorem eqW_ll : eqW (.lst ws) (.lst vs) = eqWs ws vs := rfl
theorem eqW_nn : eqW .non .non = true := rfl
theorem eqW_bb : eqW (.bl a) (.bl b) = (a == b) := rfl
theorem eqW_ni : eqW .non (.int j) = false := rfl
theorem eqW_in : eqW (.int j) .non = false := rfl
theorem eqW_nt : eqW .non (.tup ws) = false := rfl
theorem eqW_tn : eqW (.tup ws) .non = false := rfl
theorem eqW_nl : eqW .non (.lst ws) = false := rfl
theorem eqW_ln : eqW (.lst ws) .non = false := rfl
theorem eqW_is : eqW (.int i) (.str x) = false := rfl
theorem eqW_si : eqW (.str x) (.int i) = false := rfl
theorem eqWs_nil : eqWs [] [] = true := rfl
theorem eqWs_cons : eqWs (v :: vs) (w :: ws) = (eqW v w && eqWs vs ws) := rfl
theorem eqWs_nc : eqWs [] (w :: ws) = false := rfl
theorem eqWs_cn : eqWs (w :: ws) [] = false := rfl
theorem okD_int : okD n (.int i) = true := by cases n <;> rfl
theorem okD_str : okD n (.str x) = PyData.strOk x := by cases n <;> rfl
theorem okD_bl : okD n (.bl a) = true := by cases n <;> rfl
theorem okD_non : okD n .non = true := by cases n <;> rfl
theorem okD_tup : okD (n + 1) (.tup ws) = ws.all (okD n) := rfl
theorem okD_lst : okD (n + 1) (.lst ws) = ws.all (okD n) := rfl
theorem eqOk_ii : eqOk (.int i) (.int j) = true := rfl
theorem eqOk_ss : eqOk (.str x) (.str y) = true := rfl
theorem eqOk_nn : eqOk .non .non = true := rfl
theorem eqOk_bb : eqOk (.bl a) (.bl b) = true := rfl
theorem eqOk_in : eqOk (.int i) .non = true := rfl
theorem eqOk_ni : eqOk .non (.int i) = true := rfl
theorem eqOk_tt : eqOk (.tup ws) (.tup vs) = (okD 64 (.tup ws) && okD 64 (.tup vs)) := rfl
theorem eqOk_ll : eqOk (.lst ws) (.lst vs) = (okD 64 (.lst ws) && okD 64 (.lst vs)) := rfl
theorem flatW_int : flatW (.int i) = true := rfl
theorem flatW_str : flatW (.str x) = true := rfl
theorem flatW_bl : flatW (.bl a) = true := rfl
theorem flatW_non : flatW .non = true := rfl
end
/-- a statement, then the rest, by name -/
theorem seq_go {p q : IS} {EI : XI} {D : IEnds} {st : Stt} (h : ∀ nx : Stt → Prop, nx = q EI D → p EI { D with nx := nx } st) : sSeq p q EI D st := h _ rfl
theorem lk_self {α : Type} (x : Str) (v : α) (r : List (Str × α)) : List.lookup x ((x, v) :: r) = some v := by rw [List.lookup_cons, beq_self_eq_true]
theorem lk_ne {α : Type} {x y : Str} (v : α) (r : List (Str × α)) (h : (x == y) = false) : List.lookup x ((y, v) :: r) = List.lookup x r := by rw [List.lookup_cons, h]
def IsBag (o : SO) : Prop := ∃ (n0 n1 n2 : Int) (cs : List Int), o = .lst [.int n0, .int n1, .int n2, .lst (cs.map .int)] ∧ 0 ≤ n0 ∧ 0 ≤ n1 ∧ n1 < 2147483647 ∧ 0 ≤ n2 ∧ ∀ c ∈ cs, 0 ≤ c
theorem Sto.put_eta {S : Sto} {a : Addr} {o : SO} (h : S a = some o) : S.put a o = S := by
  funext b
  unfold Sto.put
  split
  · rename_i e; rw [e, h]
  · rfl
theorem ifb {c : Bool} {P Q : Prop} (h1 : c = true → P) (h2 : c = false → Q) : if c = true then P else Q := by
  cases c
  · rw [if_neg Bool.false_ne_true]; exact h2 rfl
  · rw [if_pos rfl]; exact h1 rfl
theorem ifT {c : Bool} {P Q : Prop} (h : c = true) (p : P) : if c = true then P else Q := ifb (fun _ => p) fun z => by rw [h] at z; cases z
theorem ifF {c : Bool} {P Q : Prop} (h : c = false) (p : Q) : if c = true then P else Q := ifb (fun z => by rw [h] at z; cases z) fun _ => p
theorem seq_end {p q : IS} {EI : XI} {D : IEnds} {st : Stt} (h : ∀ nx : Stt → Prop, p EI { D with nx := nx } st) : sSeq p q EI D st := h _
theorem seq_cut {p q : IS} {EI : XI} {D : IEnds} {st : Stt} (M : Stt → Prop) (h1 : ∀ nx : Stt → Prop, (∀ st, M st → nx st) → p EI { D with nx := nx } st) (h2 : ∀ st, M st → q EI D st) : sSeq p q EI D st := h1 _ h2
theorem seq_step {p q : IS} {EI : XI} {D : IEnds} {st : Stt} (st' : Stt) (h1 : ∀ nx : Stt → Prop, nx st' → p EI { D with nx := nx } st) (h2 : q EI D st') : sSeq p q EI D st := h1 _ h2
theorem for_inv {g : IG} {body : IS} {EI : XI} {D : IEnds} (I : List W → Stt → Prop) : ∀ (ws : List W) (st : Stt), I ws st → (∀ st, I [] st → D.nx st) →
    (∀ w ws st (nx : Stt → Prop), I (w :: ws) st → (∀ st', I ws st' → nx st') → g w st fun st1 => body EI { nx := nx, ct := nx, bk := D.nx, rt := D.rt } st1) → forGo g body EI D ws st
  | [], st, h0, hd, _ => hd st h0
  | w :: ws, st, h0, hd, hs => hs w ws st (forGo g body EI D ws) h0 fun st' h' => for_inv I ws st' h' hd hs
def sp_l_take : ISp := fun ws S Q E => ∃ a n o, ws = [.ref a, .int n] ∧ 0 < n ∧ Bd n ∧ S a = some o ∧ IsBag o ∧ ∀ r o', 0 ≤ r → r < n → IsBag o' → Q (.val (.int r)) (S.put a o')
def ib_l_take : IS := (sSeq (sIf (tBl (iB gEq (iIx (iVar 0) (iC (.int 0))) (iC (.int 0)))) (sSeq (sSet 2 (iC (.int 0)))
    (sSeq (sIf (tBl (iB gLt (iIx (iVar 0) (iC (.int 2))) (iFn gLen (iCons (iIx (iVar 0) (iC (.int 3))) iNil)))) (sSet 2 (iIx (iIx (iVar 0) (iC (.int 3))) (iIx (iVar 0) (iC (.int 2))))) sNext)
    (sSeq (sAugS 0 (· + ·) (iC (.int 2)) (iC (.int 1)))
    (sSeq (sIf (tBl (iB gGe (iVar 2) (iC (.int 1000000000000000000)))) (sIxS 0 (iC (.int 0)) (iVar 2)) sNext)
    (sSeq (sSet 3 (iB gAdd (iB gAdd (iB gMul (iIx (iVar 0) (iC (.int 1))) (iC (.int 48271))) (iB gMod (iFn gInt (iCons (iVar 2) iNil)) (iC (.int 2147483647)))) (iB gMul (iC (.int 7919)) (iIx (iVar 0) (iC (.int 2))))))
    (sIxS 0 (iC (.int 1)) (iB gMod (iFn gInt (iCons (iVar 3) iNil)) (iC (.int 2147483647))))))))) sNext)
  (sSeq (sIf (tBl (iB gGt (iIx (iVar 0) (iC (.int 0))) (iC (.int 0)))) (sSeq (sSet 4 (iB gMod (iFn gInt (iCons (iIx (iVar 0) (iC (.int 0))) iNil)) (iVar 1)))
    (sSeq (sIxS 0 (iC (.int 0)) (iB gDiv (iFn gInt (iCons (iIx (iVar 0) (iC (.int 0))) iNil)) (iVar 1)))
    (sRet (iVar 4)))) sNext)
  (sSeq (sSet 5 (iB gMod (iFn gInt (iCons (iB gMul (iB gAdd (iIx (iVar 0) (iC (.int 1))) (iC (.int 1))) (iC (.int 39373))) iNil)) (iC (.int 1000000007))))
  (sSeq (sSet 6 (iB gMod (iFn gInt (iCons (iB gMul (iB gMod (iFn gInt (iCons (iB gMul (iVar 5) (iVar 5)) iNil)) (iC (.int 998244353))) (iC (.int 30011))) iNil)) (iC (.int 998244353))))
  (sRet (iB gMod (iFn gInt (iCons (iB gDiv (iVar 6) (iC (.int 7))) iNil)) (iVar 1)))))))
abbrev bagO (n0 n1 n2 : Int) (cs : List Int) : SO := .lst [.int n0, .int n1, .int n2, .lst (cs.map .int)]
theorem ok_l_take (ws : List W) (S : Sto) (Q : R → Sto → Prop) (E : Exn → Sto → Prop) (h : sp_l_take ws S Q E) : bodyI 7 ib_l_take ws S Q E := by
  obtain ⟨a, n, o, rfl, hn, bn, ha, ⟨n0, n1, n2, cs, rfl, h0, h1, h2, h3, h4⟩, q⟩ := h
  unfold ib_l_take
  show sSeq _ _ _ _ ⟨[.val (.ref a), .val (.int n), .none, .none, .none, .none, .none], S⟩
  refine seq_cut (fun st => ∃ n0 n1 n2 x2 x3, st = ⟨[.val (.ref a), .val (.int n), x2, x3, .none, .none, .none], S.put a (bagO n0 n1 n2 cs)⟩ ∧ 0 ≤ n0 ∧ 0 ≤ n1 ∧ n1 < 2147483647 ∧ 0 ≤ n2) (fun nx k => ?_) (fun st ⟨n0, n1, n2, x2, x3, e, h0, h1, h2, h3⟩ => ?_)
  · simp only [sIf, tBl, iB, iIx, iVar, iC, gIx, ha, atI_0, gEq, okD, eqOk, Bool.and_true, eqW, atW, List.getElem?_cons_zero, true_and]
    refine ifb (fun c => ?_) (fun c => ?_)
    · refine seq_step _ (fun nx h => h) ?_
      refine seq_cut (fun st => ∃ c : Int, 0 ≤ c ∧ st = ⟨[.val (.ref a), .val (.int n), .val (.int c), .none, .none, .none, .none], S⟩) (fun nx k => ?_) (fun st ⟨c, hc, e⟩ => ?_)
      · simp only [bodyI, start0, sSeq, sNext, sNever, sCont, sBreak, sDrop, sRet, sRetN, sRet0, sRetO, sIf, sSet, sSetN, sSetP, sPar, sParEN, sParNE, sPar3, sAsg, gNm, gsNil, gsCons, gTp, sAugI, sIxO, sIxS, sAugS, stoL, setW, iVar, iC, iNil, iCons, iTup, iLst, nLst, iFz, iB, gAdd, gI, gIC, gSub, gMul, gDiv, gMod, gPow, gLt, gLe, gGt, gGe, gEq, gNe, gIn, gIsN, isN, iNeg, tTru', gTru, tBl, iChain, tAnd', tOr', tNot', tYes', iIf, iAnd, iOr, iNot, iIx, gIx, atW, iIxO, ownL, oNone, oSome, iSl, gSl, iRevL, iCall, nCall, iFn, Sh.R.fz, SO.fz, Stt.put, Stt.puts, iMtO, gAppend, gInsert, gExtend, gLen, iLenO, gAbs, gInt, gMinMax, gList, gTuple, iListRg, gIsi, tyN, gRepr, flatW, eqW, okD, eqOk, cut_13, cut_1_2, cut_1_3, cut_m2, cut_m3, cut_m4, atI_m2, atI_m3, atI_m4, iOfT, tKdIn, iKdIx, atI_0, atI_1, atI_2, atI_3, ixN_4_0, ixN_4_1, ixN_4_2, ixN_4_3, Sto.put_same, Sto.put_put, toNat_2, List.map, List.replicate, List.length_cons, List.length_nil, List.getElem?_cons_zero, List.getElem?_cons_succ, List.getElem?_nil, List.set_cons_zero, List.set_cons_succ, List.set_nil, List.cons_append, List.nil_append, List.append_nil, if_true, if_false, ha]
        refine ifb (fun z => ?_) (fun z => ?_)
        · have z2 : n2 < (cs.length : Int) := by simpa using z
          have e : atI (cs.map W.int) n2 = some (.int (cs[n2.toNat]'(by omega))) := by
            rw [atI_pos h3 (by simpa using z2)]
            simp
          simp only [atW, e]
          exact k _ ⟨_, h4 _ (List.getElem_mem _), rfl⟩
        · exact k _ ⟨0, by omega, rfl⟩
      · subst e
        refine seq_step ⟨[.val (.ref a), .val (.int n), .val (.int c), .none, .none, .none, .none], S.put a (bagO n0 n1 (n2 + 1) cs)⟩ (fun nx h => ?_) ?_
        · simp only [bodyI, start0, sSeq, sNext, sNever, sCont, sBreak, sDrop, sRet, sRetN, sRet0, sRetO, sIf, sSet, sSetN, sSetP, sPar, sParEN, sParNE, sPar3, sAsg, gNm, gsNil, gsCons, gTp, sAugI, sIxO, sIxS, sAugS, stoL, setW, iVar, iC, iNil, iCons, iTup, iLst, nLst, iFz, iB, gAdd, gI, gIC, gSub, gMul, gDiv, gMod, gPow, gLt, gLe, gGt, gGe, gEq, gNe, gIn, gIsN, isN, iNeg, tTru', gTru, tBl, iChain, tAnd', tOr', tNot', tYes', iIf, iAnd, iOr, iNot, iIx, gIx, atW, iIxO, ownL, oNone, oSome, iSl, gSl, iRevL, iCall, nCall, iFn, Sh.R.fz, SO.fz, Stt.put, Stt.puts, iMtO, gAppend, gInsert, gExtend, gLen, iLenO, gAbs, gInt, gMinMax, gList, gTuple, iListRg, gIsi, tyN, gRepr, flatW, eqW, okD, eqOk, cut_13, cut_1_2, cut_1_3, cut_m2, cut_m3, cut_m4, atI_m2, atI_m3, atI_m4, iOfT, tKdIn, iKdIx, atI_0, atI_1, atI_2, atI_3, ixN_4_0, ixN_4_1, ixN_4_2, ixN_4_3, Sto.put_same, Sto.put_put, toNat_2, List.map, List.replicate, List.length_cons, List.length_nil, List.getElem?_cons_zero, List.getElem?_cons_succ, List.getElem?_nil, List.set_cons_zero, List.set_cons_succ, List.set_nil, List.cons_append, List.nil_append, List.append_nil, if_true, if_false, ha]
          exact ⟨by decide, by decide, h⟩
        · refine seq_cut (fun st => ∃ n0, 0 ≤ n0 ∧ st = ⟨[.val (.ref a), .val (.int n), .val (.int c), .none, .none, .none, .none], S.put a (bagO n0 n1 (n2 + 1) cs)⟩) (fun nx k => ?_) (fun st ⟨n0, hc, e⟩ => ?_)
          · simp only [bodyI, start0, sSeq, sNext, sNever, sCont, sBreak, sDrop, sRet, sRetN, sRet0, sRetO, sIf, sSet, sSetN, sSetP, sPar, sParEN, sParNE, sPar3, sAsg, gNm, gsNil, gsCons, gTp, sAugI, sIxO, sIxS, sAugS, stoL, setW, iVar, iC, iNil, iCons, iTup, iLst, nLst, iFz, iB, gAdd, gI, gIC, gSub, gMul, gDiv, gMod, gPow, gLt, gLe, gGt, gGe, gEq, gNe, gIn, gIsN, isN, iNeg, tTru', gTru, tBl, iChain, tAnd', tOr', tNot', tYes', iIf, iAnd, iOr, iNot, iIx, gIx, atW, iIxO, ownL, oNone, oSome, iSl, gSl, iRevL, iCall, nCall, iFn, Sh.R.fz, SO.fz, Stt.put, Stt.puts, iMtO, gAppend, gInsert, gExtend, gLen, iLenO, gAbs, gInt, gMinMax, gList, gTuple, iListRg, gIsi, tyN, gRepr, flatW, eqW, okD, eqOk, cut_13, cut_1_2, cut_1_3, cut_m2, cut_m3, cut_m4, atI_m2, atI_m3, atI_m4, iOfT, tKdIn, iKdIx, atI_0, atI_1, atI_2, atI_3, ixN_4_0, ixN_4_1, ixN_4_2, ixN_4_3, Sto.put_same, Sto.put_put, toNat_2, List.map, List.replicate, List.length_cons, List.length_nil, List.getElem?_cons_zero, List.getElem?_cons_succ, List.getElem?_nil, List.set_cons_zero, List.set_cons_succ, List.set_nil, List.cons_append, List.nil_append, List.append_nil, if_true, if_false]
            refine ifb (fun z => ?_) (fun z => ?_)
            · exact k _ ⟨c, hc, rfl⟩
            · exact k _ ⟨n0, h0, rfl⟩
          · subst e
            refine seq_step ?s (fun nx h => ?a) ?b
            case a =>
              simp only [bodyI, start0, sSeq, sNext, sNever, sCont, sBreak, sDrop, sRet, sRetN, sRet0, sRetO, sIf, sSet, sSetN, sSetP, sPar, sParEN, sParNE, sPar3, sAsg, gNm, gsNil, gsCons, gTp, sAugI, sIxO, sIxS, sAugS, stoL, setW, iVar, iC, iNil, iCons, iTup, iLst, nLst, iFz, iB, gAdd, gI, gIC, gSub, gMul, gDiv, gMod, gPow, gLt, gLe, gGt, gGe, gEq, gNe, gIn, gIsN, isN, iNeg, tTru', gTru, tBl, iChain, tAnd', tOr', tNot', tYes', iIf, iAnd, iOr, iNot, iIx, gIx, atW, iIxO, ownL, oNone, oSome, iSl, gSl, iRevL, iCall, nCall, iFn, Sh.R.fz, SO.fz, Stt.put, Stt.puts, iMtO, gAppend, gInsert, gExtend, gLen, iLenO, gAbs, gInt, gMinMax, gList, gTuple, iListRg, gIsi, tyN, gRepr, flatW, eqW, okD, eqOk, cut_13, cut_1_2, cut_1_3, cut_m2, cut_m3, cut_m4, atI_m2, atI_m3, atI_m4, iOfT, tKdIn, iKdIx, atI_0, atI_1, atI_2, atI_3, ixN_4_0, ixN_4_1, ixN_4_2, ixN_4_3, Sto.put_same, Sto.put_put, toNat_2, List.map, List.replicate, List.length_cons, List.length_nil, List.getElem?_cons_zero, List.getElem?_cons_succ, List.getElem?_nil, List.set_cons_zero, List.set_cons_succ, List.set_nil, List.cons_append, List.nil_append, List.append_nil, if_true, if_false]
              refine ⟨.inr (.inr (by omega)), by omega, .inr (.inl (by omega)), ?_⟩
              exact h
            case b =>
              simp only [bodyI, start0, sSeq, sNext, sNever, sCont, sBreak, sDrop, sRet, sRetN, sRet0, sRetO, sIf, sSet, sSetN, sSetP, sPar, sParEN, sParNE, sPar3, sAsg, gNm, gsNil, gsCons, gTp, sAugI, sIxO, sIxS, sAugS, stoL, setW, iVar, iC, iNil, iCons, iTup, iLst, nLst, iFz, iB, gAdd, gI, gIC, gSub, gMul, gDiv, gMod, gPow, gLt, gLe, gGt, gGe, gEq, gNe, gIn, gIsN, isN, iNeg, tTru', gTru, tBl, iChain, tAnd', tOr', tNot', tYes', iIf, iAnd, iOr, iNot, iIx, gIx, atW, iIxO, ownL, oNone, oSome, iSl, gSl, iRevL, iCall, nCall, iFn, Sh.R.fz, SO.fz, Stt.put, Stt.puts, iMtO, gAppend, gInsert, gExtend, gLen, iLenO, gAbs, gInt, gMinMax, gList, gTuple, iListRg, gIsi, tyN, gRepr, flatW, eqW, okD, eqOk, cut_13, cut_1_2, cut_1_3, cut_m2, cut_m3, cut_m4, atI_m2, atI_m3, atI_m4, iOfT, tKdIn, iKdIx, atI_0, atI_1, atI_2, atI_3, ixN_4_0, ixN_4_1, ixN_4_2, ixN_4_3, Sto.put_same, Sto.put_put, toNat_2, List.map, List.replicate, List.length_cons, List.length_nil, List.getElem?_cons_zero, List.getElem?_cons_succ, List.getElem?_nil, List.set_cons_zero, List.set_cons_succ, List.set_nil, List.cons_append, List.nil_append, List.append_nil, if_true, if_false]
              refine ⟨by omega, k _ ⟨_, _, _, _, _, rfl, hc, Int.emod_nonneg _ (by omega), Int.emod_lt_of_pos _ (by omega), by omega⟩⟩
    · exact k _ ⟨n0, n1, n2, .none, .none, by rw [Sto.put_eta ha], h0, h1, h2, h3⟩
  · subst e
    refine seq_cut (fun st => st = ⟨[.val (.ref a), .val (.int n), x2, x3, .none, .none, .none], S.put a (bagO n0 n1 n2 cs)⟩) (fun nx k => ?_) (fun st e => ?_)
    · simp only [bodyI, start0, sSeq, sNext, sNever, sCont, sBreak, sDrop, sRet, sRetN, sRet0, sRetO, sIf, sSet, sSetN, sSetP, sPar, sParEN, sParNE, sPar3, sAsg, gNm, gsNil, gsCons, gTp, sAugI, sIxO, sIxS, sAugS, stoL, setW, iVar, iC, iNil, iCons, iTup, iLst, nLst, iFz, iB, gAdd, gI, gIC, gSub, gMul, gDiv, gMod, gPow, gLt, gLe, gGt, gGe, gEq, gNe, gIn, gIsN, isN, iNeg, tTru', gTru, tBl, iChain, tAnd', tOr', tNot', tYes', iIf, iAnd, iOr, iNot, iIx, gIx, atW, iIxO, ownL, oNone, oSome, iSl, gSl, iRevL, iCall, nCall, iFn, Sh.R.fz, SO.fz, Stt.put, Stt.puts, iMtO, gAppend, gInsert, gExtend, gLen, iLenO, gAbs, gInt, gMinMax, gList, gTuple, iListRg, gIsi, tyN, gRepr, flatW, eqW, okD, eqOk, cut_13, cut_1_2, cut_1_3, cut_m2, cut_m3, cut_m4, atI_m2, atI_m3, atI_m4, iOfT, tKdIn, iKdIx, atI_0, atI_1, atI_2, atI_3, ixN_4_0, ixN_4_1, ixN_4_2, ixN_4_3, Sto.put_same, Sto.put_put, toNat_2, List.map, List.replicate, List.length_cons, List.length_nil, List.getElem?_cons_zero, List.getElem?_cons_succ, List.getElem?_nil, List.set_cons_zero, List.set_cons_succ, List.set_nil, List.cons_append, List.nil_append, List.append_nil, if_true, if_false]
      refine ifb (fun z => ?_) (fun z => k _ rfl)
      refine ⟨hn, ⟨hn, bn⟩, q _ _ (Int.emod_nonneg _ (by omega)) (Int.emod_lt_of_pos _ hn) ⟨_, _, _, _, rfl, Int.ediv_nonneg h0 (by omega), h1, h2, h3, h4⟩⟩
    · subst e
      simp only [bodyI, start0, sSeq, sNext, sNever, sCont, sBreak, sDrop, sRet, sRetN, sRet0, sRetO, sIf, sSet, sSetN, sSetP, sPar, sParEN, sParNE, sPar3, sAsg, gNm, gsNil, gsCons, gTp, sAugI, sIxO, sIxS, sAugS, stoL, setW, iVar, iC, iNil, iCons, iTup, iLst, nLst, iFz, iB, gAdd, gI, gIC, gSub, gMul, gDiv, gMod, gPow, gLt, gLe, gGt, gGe, gEq, gNe, gIn, gIsN, isN, iNeg, tTru', gTru, tBl, iChain, tAnd', tOr', tNot', tYes', iIf, iAnd, iOr, iNot, iIx, gIx, atW, iIxO, ownL, oNone, oSome, iSl, gSl, iRevL, iCall, nCall, iFn, Sh.R.fz, SO.fz, Stt.put, Stt.puts, iMtO, gAppend, gInsert, gExtend, gLen, iLenO, gAbs, gInt, gMinMax, gList, gTuple, iListRg, gIsi, tyN, gRepr, flatW, eqW, okD, eqOk, cut_13, cut_1_2, cut_1_3, cut_m2, cut_m3, cut_m4, atI_m2, atI_m3, atI_m4, iOfT, tKdIn, iKdIx, atI_0, atI_1, atI_2, atI_3, ixN_4_0, ixN_4_1, ixN_4_2, ixN_4_3, Sto.put_same, Sto.put_put, toNat_2, List.map, List.replicate, List.length_cons, List.length_nil, List.getElem?_cons_zero, List.getElem?_cons_succ, List.getElem?_nil, List.set_cons_zero, List.set_cons_succ, List.set_nil, List.cons_append, List.nil_append, List.append_nil, if_true, if_false]
      refine ⟨.inr (.inr (by omega)), by omega, .inr (.inl ⟨?_, ?_⟩), by omega, .inr (.inr (by omega)), by omega, ⟨by omega, by unfold Bd lim; omega⟩, hn, ?_⟩
      · have := Int.emod_nonneg ((n1 + 1) * 39373) (show (1000000007 : Int) ≠ 0 by omega); omega
      · have := Int.emod_lt_of_pos ((n1 + 1) * 39373) (show (0 : Int) < 1000000007 by omega); omega
      · exact q _ _ (Int.emod_nonneg _ (by omega)) (Int.emod_lt_of_pos _ hn) ⟨_, _, _, _, rfl, h0, h1, h2, h3, h4⟩
def stepQ (g : IG) (t : IT) (ie : IE) (st : Stt) (w : W) (Y : W → Stt → Prop) (Nn : Stt → Prop) : Prop := g w st fun st1 => t noX st1 fun b st2 => if b = true then ie noX st2 Y else Nn st2
theorem lc_map {g : IG} {t : IT} {ie : IE} {vs : List Nat} {Q : SO → Stt → Prop} (st0 : Stt) (f : W → Option W) : ∀ (ws acc : List W) (st : Stt),
    (∀ w ∈ ws, ∀ Y Nn, (∀ y st', f w = some y → st'.wipe vs = st0 → Y y st') → (∀ st', f w = none → st'.wipe vs = st0 → Nn st') → stepQ g t ie st0 w Y Nn) →
    st.wipe vs = st0 → acc.length + ws.length ≤ sizeLine → (∀ st', st'.wipe vs = st0 → Q (.lst (acc ++ ws.filterMap f)) st') → lcGo g t ie vs Q ws acc st
  | [], acc, st, _, e, _, q => by
    have := q st e
    rw [List.filterMap_nil, List.append_nil] at this
    exact this
  | w :: ws, acc, st, h, e, hl, q => by
    show stepQ g t ie (st.wipe vs) w (fun y st3 => acc.length < sizeLine ∧ lcGo g t ie vs Q ws (acc ++ [y]) st3) (fun st2 => lcGo g t ie vs Q ws acc st2)
    rw [List.length_cons] at hl
    rw [e]
    refine h w (List.mem_cons_self ..) _ _ (fun y st' ef es => ⟨by omega, lc_map st0 f ws _ _ (fun w' hw => h w' (List.mem_cons_of_mem _ hw)) es (by rw [List.length_append, List.length_singleton]; omega) fun st2 e2 => ?_⟩) (fun st' ef es => lc_map st0 f ws _ _ (fun w' hw => h w' (List.mem_cons_of_mem _ hw)) es (by omega) fun st2 e2 => ?_)
    · have := q st2 e2
      rw [List.filterMap_cons_some ef] at this
      rw [List.append_assoc]
      exact this
    · have := q st2 e2
      rw [List.filterMap_cons_none ef] at this
      exact this
theorem okD_mono : ∀ {d d' : Nat}, d ≤ d' → ∀ w : W, okD d w = true → okD d' w = true
  | 0, d', _, w, h => by
    cases w <;> first | (cases d' <;> first | rfl | exact h) | (exfalso; simp [okD] at h; done)
  | d + 1, 0, hd, _, _ => by omega
  | d + 1, d' + 1, hd, w, h => by
    cases w with
    | tup ws =>
      show ws.all (okD d') = true
      rw [List.all_eq_true]
      exact fun x hx => okD_mono (Nat.le_of_succ_le_succ hd) x (List.all_eq_true.mp (show ws.all (okD d) = true from h) x hx)
    | lst ws =>
      show ws.all (okD d') = true
      rw [List.all_eq_true]
      exact fun x hx => okD_mono (Nat.le_of_succ_le_succ hd) x (List.all_eq_true.mp (show ws.all (okD d) = true from h) x hx)
    | _ => exact h
def Rep (d n : Nat) (w : W) : Prop := okD d w = true ∧ (toD w).showable = true ∧ (toD w).shown.length ≤ n
theorem Rep.ok {d n : Nat} {w : W} (h : Rep d n w) (hd : d ≤ 60 := by decide) (hn : n ≤ sizeLine := by decide) : RepOk w := ⟨okD_mono hd w h.1, h.2.1, Nat.le_trans h.2.2 hn⟩
theorem Rep.up {d d' n n' : Nat} {w : W} (h : Rep d n w) (hd : d ≤ d') (hn : n ≤ n') : Rep d' n' w := ⟨okD_mono hd w h.1, h.2.1, Nat.le_trans h.2.2 hn⟩
theorem rep_int {d : Nat} {i : Int} (h : Bd i) : Rep d 201 (.int i) := by
  have hn : i.natAbs < 10 ^ 200 := by unfold Bd lim at h; omega
  refine ⟨by cases d <;> rfl, ?_, ?_⟩
  · have h7 := h.abs
    show decide (i.natAbs.log2 < 1920) = true
    refine decide_eq_true ?_
    by_cases z : i.natAbs = 0
    · rw [z]; decide
    · have := (Nat.log2_lt z).mpr h7
      omega
  · show (Str.ofString (toString i)).length ≤ 201
    rw [PySem.ofString_length]
    exact int_text_length_le10 (k := 200) (by decide) hn
theorem shown_sum {n : Nat} : ∀ (ws : List W), (∀ w ∈ ws, (toD w).shown.length ≤ n) → ((PyData.shownAll (toDs ws)).map (·.length)).sum ≤ n * ws.length ∧ (PyData.shownAll (toDs ws)).length = ws.length
  | [], _ => ⟨Nat.zero_le _, rfl⟩
  | w :: ws, h => by
    have a := shown_sum ws fun x hx => h x (List.mem_cons_of_mem _ hx)
    have b := h w (List.mem_cons_self ..)
    have e : PyData.shownAll (toDs (w :: ws)) = (toD w).shown :: PyData.shownAll (toDs ws) := rfl
    rw [e, List.map_cons, List.sum_cons, List.length_cons, List.length_cons, Nat.mul_succ]
    exact ⟨by omega, by omega⟩
theorem show_all : ∀ (ws : List W), (∀ w ∈ ws, (toD w).showable = true) → PyData.showableAll (toDs ws) = true
  | [], _ => rfl
  | w :: ws, h => by
    show ((toD w).showable && PyData.showableAll (toDs ws)) = true
    rw [h w (List.mem_cons_self ..), show_all ws fun x hx => h x (List.mem_cons_of_mem _ hx)]
    rfl
theorem rep_tup {d n : Nat} {ws : List W} (h : ∀ w ∈ ws, Rep d n w) : Rep (d + 1) (n * ws.length + 2 * ws.length + 3) (.tup ws) := by
  refine ⟨List.all_eq_true.mpr fun x hx => (h x hx).1, show_all ws fun x hx => (h x hx).2.1, ?_⟩
  obtain ⟨a, b⟩ := shown_sum ws fun x hx => (h x hx).2.2
  have := tupleText_len_le (PyData.shownAll (toDs ws))
  rw [b] at this
  exact Nat.le_trans this (by omega)
theorem rep_lst {d n : Nat} {ws : List W} (h : ∀ w ∈ ws, Rep d n w) : Rep (d + 1) (n * ws.length + 2 * ws.length + 3) (.lst ws) := by
  refine ⟨List.all_eq_true.mpr fun x hx => (h x hx).1, show_all ws fun x hx => (h x hx).2.1, ?_⟩
  obtain ⟨a, b⟩ := shown_sum ws fun x hx => (h x hx).2.2
  have := listText_len_le (PyData.shownAll (toDs ws))
  rw [b] at this
  exact Nat.le_trans this (by omega)
def ib_l_bag : IS := (sRetN (nLst (iCons (iC (.int 0)) (iCons (iC (.int 1234567891)) (iCons (iC (.int 0)) (iCons (iFz (nLc (lSeq (iSl (iVar 0) oNone (oSome (iC (.int 63))))) (gNm 1) tYes' (iFn gAbs (iCons (iVar 1) iNil)) [1])) iNil))))))
def sp_l_bag : ISp := fun ws S Q E => ∃ ns : List Int, ws = [.scr ns] ∧ ns.length ≤ 63 ∧ ∀ o, IsBag o → Q (.new o) S
def absI (j : Int) : Int := if j < 0 then -j else j
theorem ok_l_bag (ws : List W) (S : Sto) (Q : R → Sto → Prop) (E : Exn → Sto → Prop) (h : sp_l_bag ws S Q E) : bodyI 2 ib_l_bag ws S Q E := by
  obtain ⟨ns, rfl, hn, q⟩ := h
  unfold ib_l_bag
  simp only [bodyI, start0, sSeq, sNext, sNever, sCont, sBreak, sDrop, sRet, sRetN, sRet0, sRetO, sIf, sSet, sSetN, sSetP, sPar, sParEN, sParNE, sPar3, sAsg, gNm, gsNil, gsCons, gTp, sAugI, sIxO, sIxS, sAugS, stoL, setW, iVar, iC, iNil, iCons, iTup, iLst, nLst, iFz, iB, gAdd, gI, gIC, gSub, gMul, gDiv, gMod, gPow, gLt, gLe, gGt, gGe, gEq, gNe, gIn, gIsN, isN, iNeg, tTru', gTru, tBl, iChain, tAnd', tOr', tNot', tYes', iIf, iAnd, iOr, iNot, iIx, gIx, atW, iIxO, ownL, oNone, oSome, iSl, gSl, iRevL, iCall, nCall, iFn, Sh.R.fz, SO.fz, Stt.put, Stt.puts, iMtO, gAppend, gInsert, gExtend, gLen, iLenO, gAbs, gInt, gMinMax, gList, gTuple, iListRg, gIsi, tyN, gRepr, flatW, eqW, okD, eqOk, cut_13, cut_1_2, cut_1_3, cut_m2, cut_m3, cut_m4, atI_m2, atI_m3, atI_m4, iOfT, tKdIn, iKdIx, atI_0, atI_1, atI_2, atI_3, ixN_4_0, ixN_4_1, ixN_4_2, ixN_4_3, Sto.put_same, Sto.put_put, toNat_2, List.map, List.replicate, List.length_cons, List.length_nil, List.getElem?_cons_zero, List.getElem?_cons_succ, List.getElem?_nil, List.set_cons_zero, List.set_cons_succ, List.set_nil, List.cons_append, List.nil_append, List.append_nil, if_true, if_false, nLc, lSeq, gItems]
  have hc : (cutW ns none (some 63)).length ≤ 63 := by
    unfold cutW
    rw [List.length_take, List.length_drop]
    omega
  refine lc_map ⟨[.val (.scr ns), .none], S⟩ (fun w => match w with | .int i => some (.int (absI i)) | _ => none) _ _ _ (fun w hw Y Nn hY _ => ?_) rfl (by rw [List.length_map, List.length_nil, sizeLine_eq]; omega) fun st' e => ?_
  · obtain ⟨i, _, rfl⟩ := List.mem_map.mp hw
    exact hY _ _ rfl rfl
  · rw [e]
    refine q _ ⟨0, 1234567891, 0, (cutW ns none (some 63)).map absI, ?_, by omega, by omega, by omega, by omega, fun c hc => ?_⟩
    · rw [List.nil_append, List.filterMap_map, List.map_map]
      have : ((fun w : W => match w with | .int i => some (W.int (absI i)) | _ => none) ∘ W.int) = some ∘ (W.int ∘ absI) := rfl
      rw [this, List.filterMap_eq_map]
    · obtain ⟨i, _, rfl⟩ := List.mem_map.mp hc
      unfold absI
      split <;> omega
def ib_l_one : IS := (sRet (iIx (iVar 1) (iCall sp_l_take (iCons (iVar 0) (iCons (iFn gLen (iCons (iVar 1) iNil)) iNil)))))
def sp_l_one : ISp := fun ws S Q E => ∃ a xs o, ws = [.ref a, .lst xs] ∧ xs ≠ [] ∧ xs.length < 1000000000 ∧ S a = some o ∧ IsBag o ∧ ∀ x o', x ∈ xs → IsBag o' → Q (.val x) (S.put a o')
theorem ok_l_one (ws : List W) (S : Sto) (Q : R → Sto → Prop) (E : Exn → Sto → Prop) (h : sp_l_one ws S Q E) : bodyI 2 ib_l_one ws S Q E := by
  obtain ⟨a, xs, o, rfl, hx, hl, ha, hb, q⟩ := h
  unfold ib_l_one
  simp only [bodyI, start0, sSeq, sNext, sNever, sCont, sBreak, sDrop, sRet, sRetN, sRet0, sRetO, sIf, sSet, sSetN, sSetP, sPar, sParEN, sParNE, sPar3, sAsg, gNm, gsNil, gsCons, gTp, sAugI, sIxO, sIxS, sAugS, stoL, setW, iVar, iC, iNil, iCons, iTup, iLst, nLst, iFz, iB, gAdd, gI, gIC, gSub, gMul, gDiv, gMod, gPow, gLt, gLe, gGt, gGe, gEq, gNe, gIn, gIsN, isN, iNeg, tTru', gTru, tBl, iChain, tAnd', tOr', tNot', tYes', iIf, iAnd, iOr, iNot, iIx, gIx, atW, iIxO, ownL, oNone, oSome, iSl, gSl, iRevL, iCall, nCall, iFn, Sh.R.fz, SO.fz, Stt.put, Stt.puts, iMtO, gAppend, gInsert, gExtend, gLen, iLenO, gAbs, gInt, gMinMax, gList, gTuple, iListRg, gIsi, tyN, gRepr, flatW, eqW, okD, eqOk, cut_13, cut_1_2, cut_1_3, cut_m2, cut_m3, cut_m4, atI_m2, atI_m3, atI_m4, iOfT, tKdIn, iKdIx, atI_0, atI_1, atI_2, atI_3, ixN_4_0, ixN_4_1, ixN_4_2, ixN_4_3, Sto.put_same, Sto.put_put, toNat_2, List.map, List.replicate, List.length_cons, List.length_nil, List.getElem?_cons_zero, List.getElem?_cons_succ, List.getElem?_nil, List.set_cons_zero, List.set_cons_succ, List.set_nil, List.cons_append, List.nil_append, List.append_nil, if_true, if_false]
  have hp : 0 < xs.length := List.length_pos_iff.mpr hx
  refine ⟨a, xs.length, o, rfl, by omega, by unfold Bd lim; omega, ha, hb, fun r o' h0 h1 hb' => ?_⟩
  simp only [bodyI, start0, sSeq, sNext, sNever, sCont, sBreak, sDrop, sRet, sRetN, sRet0, sRetO, sIf, sSet, sSetN, sSetP, sPar, sParEN, sParNE, sPar3, sAsg, gNm, gsNil, gsCons, gTp, sAugI, sIxO, sIxS, sAugS, stoL, setW, iVar, iC, iNil, iCons, iTup, iLst, nLst, iFz, iB, gAdd, gI, gIC, gSub, gMul, gDiv, gMod, gPow, gLt, gLe, gGt, gGe, gEq, gNe, gIn, gIsN, isN, iNeg, tTru', gTru, tBl, iChain, tAnd', tOr', tNot', tYes', iIf, iAnd, iOr, iNot, iIx, gIx, atW, iIxO, ownL, oNone, oSome, iSl, gSl, iRevL, iCall, nCall, iFn, Sh.R.fz, SO.fz, Stt.put, Stt.puts, iMtO, gAppend, gInsert, gExtend, gLen, iLenO, gAbs, gInt, gMinMax, gList, gTuple, iListRg, gIsi, tyN, gRepr, flatW, eqW, okD, eqOk, cut_13, cut_1_2, cut_1_3, cut_m2, cut_m3, cut_m4, atI_m2, atI_m3, atI_m4, iOfT, tKdIn, iKdIx, atI_0, atI_1, atI_2, atI_3, ixN_4_0, ixN_4_1, ixN_4_2, ixN_4_3, Sto.put_same, Sto.put_put, toNat_2, List.map, List.replicate, List.length_cons, List.length_nil, List.getElem?_cons_zero, List.getElem?_cons_succ, List.getElem?_nil, List.set_cons_zero, List.set_cons_succ, List.set_nil, List.cons_append, List.nil_append, List.append_nil, if_true, if_false, atI_pos h0 h1]
  exact q _ _ (List.getElem_mem _) hb'
def isI : W → Bool
  | .int _ => true
  | _ => false
def sp_p_is_integer : ISp := fun ws S Q E => ∃ x, ws = [x] ∧ tyN x ≠ none ∧ Q (.val (.bl (isI x))) S
def isIx (x : W) (n : Int) : Bool := match x with
  | .int i => decide (0 ≤ i) && decide (i < n)
  | _ => false
def sp_p_is_index : ISp := fun ws S Q E => ∃ x n, ws = [x, .int n] ∧ tyN x ≠ none ∧ Q (.val (.bl (isIx x n))) S
def Cg (m a b : Int) : Prop := m ∣ a - b
theorem Cg.refl {m : Int} (a : Int) : Cg m a a := ⟨0, by grind⟩
theorem Cg.symm {m a b : Int} (h : Cg m a b) : Cg m b a := by
  obtain ⟨k, e⟩ := h
  exact ⟨-k, by grind⟩
theorem Cg.trans {m a b c : Int} (h : Cg m a b) (h2 : Cg m b c) : Cg m a c := by
  obtain ⟨k, e⟩ := h
  obtain ⟨l, e2⟩ := h2
  exact ⟨k + l, by grind⟩
theorem Cg.mul {m a b c d : Int} (h : Cg m a b) (h2 : Cg m c d) : Cg m (a * c) (b * d) := by
  obtain ⟨k, e⟩ := h
  obtain ⟨l, e2⟩ := h2
  exact ⟨k * c + b * l, by grind⟩
theorem Cg.add {m a b c d : Int} (h : Cg m a b) (h2 : Cg m c d) : Cg m (a + c) (b + d) := by
  obtain ⟨k, e⟩ := h
  obtain ⟨l, e2⟩ := h2
  exact ⟨k + l, by grind⟩
theorem cg_mod (m a : Int) : Cg m (a % m) a := ⟨-(a / m), by have := Int.mul_ediv_add_emod a m; grind⟩
theorem Cg.eq {m a b : Int} (h : Cg m a b) (h0 : 0 ≤ a) (h1 : a < m) (h2 : 0 ≤ b) (h3 : b < m) : a = b := by
  obtain ⟨k, e⟩ := h
  have hk : k = 0 := by
    by_cases z : k = 0
    · exact z
    · exfalso
      rcases Int.lt_or_gt_of_ne z with z | z
      · have : m * k ≤ m * (-1) := Int.mul_le_mul_of_nonneg_left (by omega) (by omega)
        omega
      · have : m * 1 ≤ m * k := Int.mul_le_mul_of_nonneg_left (by omega) (by omega)
        omega
  subst hk
  omega
theorem Cg.mod {m a b : Int} (h : Cg m a b) (hm : 0 < m) : a % m = b % m :=
  Cg.eq (((cg_mod m a).trans h).trans (cg_mod m b).symm) (Int.emod_nonneg _ (by omega)) (Int.emod_lt_of_pos _ hm) (Int.emod_nonneg _ (by omega)) (Int.emod_lt_of_pos _ hm)
def Pr (d : Nat) : Prop := 2 ≤ d ∧ ∀ e, 2 ≤ e → e < d → ¬ e ∣ d
open Classical in
/-- the prime divisors of n below k -/
theorem Pr.coprime {p q : Nat} (hp : Pr p) (hq : Pr q) (h : p ≠ q) : Nat.Coprime p q := by
  have d1 := Nat.gcd_dvd_left p q
  have d2 := Nat.gcd_dvd_right p q
  have p1 : 0 < Nat.gcd p q := Nat.gcd_pos_of_pos_left _ (by have := hp.1; omega)
  have l1 := Nat.le_of_dvd (by have := hp.1; omega) d1
  have l2 := Nat.le_of_dvd (by have := hq.1; omega) d2
  unfold Nat.Coprime
  by_cases z : Nat.gcd p q = 1
  · exact z
  · exfalso
    have e1 : Nat.gcd p q = p := by
      by_cases w : Nat.gcd p q < p
      · exact absurd d1 (hp.2 _ (by omega) w)
      · omega
    have e2 : Nat.gcd p q = q := by
      by_cases w : Nat.gcd p q < q
      · exact absurd d2 (hq.2 _ (by omega) w)
      · omega
    omega
/-- where the walk stands -/
def PrAt (n0 n d : Nat) : Prop := 0 < n ∧ n ∣ n0 ∧ 2 ≤ d ∧ (∀ e, 2 ≤ e → e < d → ¬ e ∣ n) ∧ ∀ p, d ≤ p → Pr p → p ∣ n0 → p ∣ n
theorem PrAt.prime {n0 n d : Nat} (h : PrAt n0 n d) (hd : d ∣ n) : Pr d := ⟨h.2.2.1, fun e e1 e2 e3 => h.2.2.2.1 e e1 e2 (Nat.dvd_trans e3 hd)⟩
theorem PrAt.next {n0 n d : Nat} (h : PrAt n0 n d) (hd : ¬ d ∣ n) : PrAt n0 n (d + 1) := by
  obtain ⟨h1, h2, h3, h4, h5⟩ := h
  refine ⟨h1, h2, by omega, fun e e1 e2 => ?_, fun p p1 => h5 p (by omega)⟩
  by_cases z : e = d
  · rw [z]; exact hd
  · exact h4 e e1 (by omega)
/-- what is left behind a factor -/
def PrIn (n0 n d : Nat) : Prop := 0 < n ∧ n ∣ n0 ∧ (∀ e, 2 ≤ e → e < d → ¬ e ∣ n) ∧ ∀ p, d + 1 ≤ p → Pr p → p ∣ n0 → p ∣ n
theorem PrIn.less {n0 n d : Nat} (h : PrIn n0 n d) (pd : Pr d) (hd : d ∣ n) : PrIn n0 (n / d) d := by
  obtain ⟨h1, h2, h4, h5⟩ := h
  have dp : 0 < d := by have := pd.1; omega
  have e : n = d * (n / d) := (Nat.mul_div_cancel' hd).symm
  have dv : n / d ∣ n := ⟨d, by rw [Nat.mul_comm]; exact e⟩
  refine ⟨Nat.div_pos (Nat.le_of_dvd h1 hd) dp, Nat.dvd_trans dv h2, fun x x1 x2 x3 => h4 x x1 x2 (Nat.dvd_trans x3 dv), fun p p1 p2 p3 => ?_⟩
  have := h5 p p1 p2 p3
  rw [e, Nat.mul_comm] at this
  exact Nat.Coprime.dvd_of_dvd_mul_right (p2.coprime pd (by omega)) this
/-- where an open call leads, by the law's own rule -/
def opn (w : Str) (fl n r f : Int) : Int × Int :=
  if w = "halve" then (r * fl + f - n * ((r * fl + f) / n), (r * fl + f) / n)
  else if w = "pair" then ((f * n + r) / fl, f * n + r - fl * ((f * n + r) / fl))
  else if w = "others" then (r / 2 + (n - n / 2) * (r - 2 * (r / 2)), f)
  else (2 * (r - (n - n / 2) * (if n - n / 2 ≤ r then 1 else 0)) + (if n - n / 2 ≤ r then 1 else 0), f)
theorem small_r {i j : Int} (h0 : -100 ≤ j) (h1 : j ≤ 100) : MulOk i j := .inr (.inr (by omega))
theorem small_l {i j : Int} (h0 : -100 ≤ i) (h1 : i ≤ 100) : MulOk i j := .inr (.inl (by omega))
theorem seq_same {p q : IS} {EI : XI} {D : IEnds} {st : Stt} (h1 : ∀ nx : Stt → Prop, nx st → p EI { D with nx := nx } st) (h2 : q EI D st) : sSeq p q EI D st := h1 _ h2
def isPl (F R : Int) : W → Bool
  | .tup [a, b] => isIx a R && isIx b F
  | _ => false
def okParts : W → Prop
  | .tup [a, b] => tyN a ≠ none ∧ tyN b ≠ none
  | _ => True
def sp_p_is_place : ISp := fun ws S Q E => ∃ (F R : Int) (x : W), ws = [.int F, .int R, x] ∧ tyN x ≠ none ∧ okParts x ∧ Q (.val (.bl (isPl F R x))) S
/-- the place of a number -/
def plc (F x : Int) : W := .tup [.int (x / F), .int (x % F)]
theorem plc_in {F R x : Int} (hF : 0 < F) (x0 : 0 ≤ x) (x1 : x < F * R) : 0 ≤ x / F ∧ x / F < R ∧ 0 ≤ x % F ∧ x % F < F ∧ x / F * F + x % F = x := by
  refine ⟨Int.ediv_nonneg x0 (by omega), Int.ediv_lt_of_lt_mul hF (by rw [Int.mul_comm]; exact x1), Int.emod_nonneg _ (by omega), Int.emod_lt_of_pos _ hF, ?_⟩
  have := Int.mul_ediv_add_emod x F
  rw [Int.mul_comm]
  exact this
def ib_p_place_of : IS := (sRet (iTup (iCons (iB gDiv (iVar 1) (iVar 0)) (iCons (iB gMod (iVar 1) (iVar 0)) iNil))))
def sp_p_place_of : ISp := fun ws S Q E => ∃ F x : Int, ws = [.int F, .int x] ∧ 0 < F ∧ Bd F ∧ Q (.val (plc F x)) S
theorem ok_p_place_of (ws : List W) (S : Sto) (Q : R → Sto → Prop) (E : Exn → Sto → Prop) (h : sp_p_place_of ws S Q E) : bodyI 2 ib_p_place_of ws S Q E := by
  obtain ⟨F, x, rfl, h0, h1, q⟩ := h
  exact ⟨⟨h0, h1⟩, h0, q⟩
def ib_p_number_of : IS := (sRet (iB gAdd (iB gMul (iIx (iVar 1) (iC (.int 0))) (iVar 0)) (iIx (iVar 1) (iC (.int 1)))))
def sp_p_number_of : ISp := fun ws S Q E => ∃ F r f : Int, ws = [.int F, .tup [.int r, .int f]] ∧ -100 ≤ F ∧ F ≤ 100 ∧ Q (.val (.int (r * F + f))) S
theorem ok_p_number_of (ws : List W) (S : Sto) (Q : R → Sto → Prop) (E : Exn → Sto → Prop) (h : sp_p_number_of ws S Q E) : bodyI 2 ib_p_number_of ws S Q E := by
  obtain ⟨F, r, f, rfl, h0, h1, q⟩ := h
  unfold ib_p_number_of
  simp only [bodyI, start0, sSeq, sNext, sNever, sCont, sBreak, sDrop, sRet, sRetN, sRet0, sRetO, sIf, sSet, sSetN, sSetP, sPar, sParEN, sParNE, sPar3, sAsg, gNm, gsNil, gsCons, gTp, sAugI, sIxO, sIxS, sAugS, stoL, setW, iVar, iC, iNil, iCons, iTup, iLst, nLst, iFz, iB, gAdd, gI, gIC, gSub, gMul, gDiv, gMod, gPow, gLt, gLe, gGt, gGe, gEq, gNe, gIn, gIsN, isN, iNeg, tTru', gTru, tBl, iChain, tAnd', tOr', tNot', tYes', iIf, iAnd, iOr, iNot, iIx, gIx, atW, iIxO, ownL, oNone, oSome, iSl, gSl, iRevL, iCall, nCall, iFn, Sh.R.fz, SO.fz, Stt.put, Stt.puts, iMtO, gAppend, gInsert, gExtend, gLen, iLenO, gAbs, gInt, gMinMax, gList, gTuple, iListRg, gIsi, tyN, gRepr, flatW, eqW, okD, eqOk, cut_13, cut_1_2, cut_1_3, cut_m2, cut_m3, cut_m4, atI_m2, atI_m3, atI_m4, iOfT, tKdIn, iKdIx, atI_0, atI_1, atI_2, atI_3, ixN_4_0, ixN_4_1, ixN_4_2, ixN_4_3, Sto.put_same, Sto.put_put, toNat_2, List.map, List.replicate, List.length_cons, List.length_nil, List.getElem?_cons_zero, List.getElem?_cons_succ, List.getElem?_nil, List.set_cons_zero, List.set_cons_succ, List.set_nil, List.cons_append, List.nil_append, List.append_nil, if_true, if_false]
  exact ⟨small_r h0 h1, q⟩
def hv (F R x k : Int) : Int := if x = F * R - 1 then x else if 0 ≤ k then x * (F ^ k.toNat % (F * R - 1)) % (F * R - 1) else x * (R ^ (-k).toNat % (F * R - 1)) % (F * R - 1)
/-- a line of a sober size -/
def Ln (F R : Int) : Prop := 2 ≤ F ∧ F ≤ 3 ∧ 1 ≤ R ∧ R < 10 ^ 100
section
variable {F R x k l y : Int}
end
inductive Call where
  | all (k : Int) | up (f k : Int) | swap (f g : Int) | wheel (f g k : Int) | about | front (f g : Int) | halve | pair | others | fill
def Call.w : Call → W
  | .all k => .tup [.str "all", .int k]
  | .up f k => .tup [.str "up", .int f, .int k]
  | .swap f g => .tup [.str "swap", .int f, .int g]
  | .wheel f g k => .tup [.str "wheel", .int f, .int g, .int k]
  | .about => .tup [.str "about"]
  | .front f g => .tup [.str "front", .int f, .int g]
  | .halve => .tup [.str "halve"]
  | .pair => .tup [.str "pair"]
  | .others => .tup [.str "others"]
  | .fill => .tup [.str "fill"]
/-- files that there are, two of them -/
def Two (F f g : Int) : Prop := 0 ≤ f ∧ f < F ∧ 0 ≤ g ∧ g < F ∧ f ≠ g
def Call.ok (F : Int) : Call → Prop
  | .all _ => True
  | .up f _ => 0 ≤ f ∧ f < F
  | .swap f g => Two F f g
  | .wheel f g _ => Two F f g
  | .front f g => Two F f g
  | _ => True
def whl (R g h k : Int) (p : Int × Int) : Int × Int :=
  if p.2 ≠ g ∧ p.2 ≠ h then p else
    let s := ((if p.2 = g then R - 1 - p.1 else R + p.1) + k) % (2 * R)
    if s < R then (R - 1 - s, g) else (s - R, h)
def mv (F R : Int) (c : Call) (p : Int × Int) : Int × Int := match c with
  | .all k => ((p.1 - k) % R, p.2)
  | .up g k => if p.2 = g then ((p.1 - k) % R, p.2) else p
  | .about => (R - 1 - p.1, F - 1 - p.2)
  | .wheel g h k => whl R g h k p
  | .swap g h => if p.2 ≠ g ∧ p.2 ≠ h then p else (p.1, if p.2 = g then h else g)
  | .front g h => if (p.2 ≠ g ∧ p.2 ≠ h) ∨ 0 < p.1 then p else (p.1, if p.2 = g then h else g)
  | .halve => ((p.1 * F + p.2) % R, (p.1 * F + p.2) / R)
  | .pair => ((p.2 * R + p.1) / F, (p.2 * R + p.1) % F)
  | .others => if p.1 % 2 = 0 then (p.1 / 2, p.2) else ((R + 1) / 2 + p.1 / 2, p.2)
  | .fill => if p.1 < (R + 1) / 2 then (2 * p.1, p.2) else (2 * (p.1 - (R + 1) / 2) + 1, p.2)
/-- a place of the line -/
def At (F R : Int) (p : Int × Int) : Prop := 0 ≤ p.1 ∧ p.1 < R ∧ 0 ≤ p.2 ∧ p.2 < F
theorem inW_two {i g h : Int} : inW (.int i) [.int g, .int h] = decide (i = g ∨ i = h) := by
  unfold inW
  simp only [List.any_cons, List.any_nil, eqW, Bool.or_false]
  by_cases a : i = g
  · subst a; simp
  · by_cases b : i = h
    · subst b; simp
    · simp [a, b, Ne.symm a, Ne.symm b]
def ib_p_on_wheel : IS := (sSeq (sAsg (iVar 2) (gTp 2 (gsCons (gNm 3) (gsCons (gNm 4) gsNil))))
  (sSeq (sIf (tBl (iB (gIn true) (iVar 4) (iSl (iVar 0) (oSome (iC (.int 1))) (oSome (iC (.int 3)))))) (sRet (iVar 2)) sNext)
  (sSeq (sSet 5 (iIf (tBl (iB gEq (iVar 4) (iIx (iVar 0) (iC (.int 1))))) (iB gSub (iB gSub (iVar 1) (iC (.int 1))) (iVar 3)) (iB gAdd (iVar 1) (iVar 3))))
  (sSeq (sSet 5 (iB gMod (iB gAdd (iVar 5) (iIx (iVar 0) (iC (.int 3)))) (iB gMul (iC (.int 2)) (iVar 1))))
  (sRet (iIf (tBl (iB gLt (iVar 5) (iVar 1))) (iTup (iCons (iB gSub (iB gSub (iVar 1) (iC (.int 1))) (iVar 5)) (iCons (iIx (iVar 0) (iC (.int 1))) iNil))) (iTup (iCons (iB gSub (iVar 5) (iVar 1)) (iCons (iIx (iVar 0) (iC (.int 2))) iNil)))))))))
def sp_p_on_wheel : ISp := fun ws S Q E => ∃ g h k R r f : Int, ws = [(Call.wheel g h k).w, .int R, pairW (r, f)] ∧ 0 < R ∧ Q (.val (pairW (whl R g h k (r, f)))) S
theorem ok_p_on_wheel (ws : List W) (S : Sto) (Q : R → Sto → Prop) (E : Exn → Sto → Prop) (h : sp_p_on_wheel ws S Q E) : bodyI 6 ib_p_on_wheel ws S Q E := by
  obtain ⟨g, h, k, R, r, f, rfl, hR, q⟩ := h
  unfold ib_p_on_wheel
  refine seq_step ⟨[.val (Call.wheel g h k).w, .val (.int R), .val (pairW (r, f)), .val (.int r), .val (.int f), .none], S⟩ (fun nx h => ⟨rfl, h⟩) ?_
  by_cases z : f ≠ g ∧ f ≠ h
  · refine seq_end fun nx => ?_
    simp only [bodyI, start0, sSeq, sNext, sNever, sCont, sBreak, sDrop, sRet, sRetN, sRet0, sRetO, sIf, sSet, sSetN, sSetP, sPar, sParEN, sParNE, sPar3, sAsg, gNm, gsNil, gsCons, gTp, sAugI, sIxO, sIxS, sAugS, stoL, setW, iVar, iC, iNil, iCons, iTup, iLst, nLst, iFz, iB, gAdd, gI, gIC, gSub, gMul, gDiv, gMod, gPow, gLt, gLe, gGt, gGe, gEq, gNe, gIn, gIsN, isN, iNeg, tTru', gTru, tBl, iChain, tAnd', tOr', tNot', tYes', iIf, iAnd, iOr, iNot, iIx, gIx, atW, iIxO, ownL, oNone, oSome, iSl, gSl, iRevL, iCall, nCall, iFn, Sh.R.fz, SO.fz, Stt.put, Stt.puts, iMtO, gAppend, gInsert, gExtend, gLen, iLenO, gAbs, gInt, gMinMax, gList, gTuple, iListRg, gIsi, tyN, gRepr, flatW, eqW, okD, eqOk, cut_13, cut_1_2, cut_1_3, cut_m2, cut_m3, cut_m4, atI_m2, atI_m3, atI_m4, iOfT, tKdIn, iKdIx, atI_0, atI_1, atI_2, atI_3, ixN_4_0, ixN_4_1, ixN_4_2, ixN_4_3, Sto.put_same, Sto.put_put, toNat_2, List.map, List.replicate, List.length_cons, List.length_nil, List.getElem?_cons_zero, List.getElem?_cons_succ, List.getElem?_nil, List.set_cons_zero, List.set_cons_succ, List.set_nil, List.cons_append, List.nil_append, List.append_nil, if_true, if_false, Call.w]
    rw [show whl R g h k (r, f) = (r, f) from if_pos z] at q
    refine ⟨trivial, rfl, ifT ?_ q⟩
    rw [inW_two, decide_eq_false (by omega)]
    rfl
  refine seq_same (fun nx hn => ?_) ?_
  · simp only [bodyI, start0, sSeq, sNext, sNever, sCont, sBreak, sDrop, sRet, sRetN, sRet0, sRetO, sIf, sSet, sSetN, sSetP, sPar, sParEN, sParNE, sPar3, sAsg, gNm, gsNil, gsCons, gTp, sAugI, sIxO, sIxS, sAugS, stoL, setW, iVar, iC, iNil, iCons, iTup, iLst, nLst, iFz, iB, gAdd, gI, gIC, gSub, gMul, gDiv, gMod, gPow, gLt, gLe, gGt, gGe, gEq, gNe, gIn, gIsN, isN, iNeg, tTru', gTru, tBl, iChain, tAnd', tOr', tNot', tYes', iIf, iAnd, iOr, iNot, iIx, gIx, atW, iIxO, ownL, oNone, oSome, iSl, gSl, iRevL, iCall, nCall, iFn, Sh.R.fz, SO.fz, Stt.put, Stt.puts, iMtO, gAppend, gInsert, gExtend, gLen, iLenO, gAbs, gInt, gMinMax, gList, gTuple, iListRg, gIsi, tyN, gRepr, flatW, eqW, okD, eqOk, cut_13, cut_1_2, cut_1_3, cut_m2, cut_m3, cut_m4, atI_m2, atI_m3, atI_m4, iOfT, tKdIn, iKdIx, atI_0, atI_1, atI_2, atI_3, ixN_4_0, ixN_4_1, ixN_4_2, ixN_4_3, Sto.put_same, Sto.put_put, toNat_2, List.map, List.replicate, List.length_cons, List.length_nil, List.getElem?_cons_zero, List.getElem?_cons_succ, List.getElem?_nil, List.set_cons_zero, List.set_cons_succ, List.set_nil, List.cons_append, List.nil_append, List.append_nil, if_true, if_false, Call.w]
    refine ⟨trivial, rfl, ifF ?_ hn⟩
    rw [inW_two, decide_eq_true (by omega)]
    rfl
  rw [show whl R g h k (r, f) = _ from if_neg z] at q
  simp only at q
  have fin : ∀ t : Int, (((if f = g then R - 1 - r else R + r) + k) % (2 * R)) = (t + k) % (2 * R) → sSeq (sSet 5 (iB gMod (iB gAdd (iVar 5) (iIx (iVar 0) (iC (.int 3)))) (iB gMul (iC (.int 2)) (iVar 1))))
      (sRet (iIf (tBl (iB gLt (iVar 5) (iVar 1))) (iTup (iCons (iB gSub (iB gSub (iVar 1) (iC (.int 1))) (iVar 5)) (iCons (iIx (iVar 0) (iC (.int 1))) iNil))) (iTup (iCons (iB gSub (iVar 5) (iVar 1)) (iCons (iIx (iVar 0) (iC (.int 2))) iNil))))) (fun x st => E x st.S) { nx := fun st => Q (.val .non) st.S, rt := Q } ⟨[.val (Call.wheel g h k).w, .val (.int R), .val (pairW (r, f)), .val (.int r), .val (.int f), .val (.int t)], S⟩ := fun t e => by
    rw [e] at q
    simp only [bodyI, start0, sSeq, sNext, sNever, sCont, sBreak, sDrop, sRet, sRetN, sRet0, sRetO, sIf, sSet, sSetN, sSetP, sPar, sParEN, sParNE, sPar3, sAsg, gNm, gsNil, gsCons, gTp, sAugI, sIxO, sIxS, sAugS, stoL, setW, iVar, iC, iNil, iCons, iTup, iLst, nLst, iFz, iB, gAdd, gI, gIC, gSub, gMul, gDiv, gMod, gPow, gLt, gLe, gGt, gGe, gEq, gNe, gIn, gIsN, isN, iNeg, tTru', gTru, tBl, iChain, tAnd', tOr', tNot', tYes', iIf, iAnd, iOr, iNot, iIx, gIx, atW, iIxO, ownL, oNone, oSome, iSl, gSl, iRevL, iCall, nCall, iFn, Sh.R.fz, SO.fz, Stt.put, Stt.puts, iMtO, gAppend, gInsert, gExtend, gLen, iLenO, gAbs, gInt, gMinMax, gList, gTuple, iListRg, gIsi, tyN, gRepr, flatW, eqW, okD, eqOk, cut_13, cut_1_2, cut_1_3, cut_m2, cut_m3, cut_m4, atI_m2, atI_m3, atI_m4, iOfT, tKdIn, iKdIx, atI_0, atI_1, atI_2, atI_3, ixN_4_0, ixN_4_1, ixN_4_2, ixN_4_3, Sto.put_same, Sto.put_put, toNat_2, List.map, List.replicate, List.length_cons, List.length_nil, List.getElem?_cons_zero, List.getElem?_cons_succ, List.getElem?_nil, List.set_cons_zero, List.set_cons_succ, List.set_nil, List.cons_append, List.nil_append, List.append_nil, if_true, if_false, Call.w]
    refine ⟨small_l (by omega) (by omega), by omega, ifb (fun y => ?_) (fun y => ?_)⟩
    · rw [if_pos (of_decide_eq_true y)] at q; exact q
    · rw [if_neg (of_decide_eq_false y)] at q; exact q
  by_cases y : f = g
  · refine seq_step _ (fun nx h => ?_) (fin (R - 1 - r) (by rw [if_pos y]))
    simp only [bodyI, start0, sSeq, sNext, sNever, sCont, sBreak, sDrop, sRet, sRetN, sRet0, sRetO, sIf, sSet, sSetN, sSetP, sPar, sParEN, sParNE, sPar3, sAsg, gNm, gsNil, gsCons, gTp, sAugI, sIxO, sIxS, sAugS, stoL, setW, iVar, iC, iNil, iCons, iTup, iLst, nLst, iFz, iB, gAdd, gI, gIC, gSub, gMul, gDiv, gMod, gPow, gLt, gLe, gGt, gGe, gEq, gNe, gIn, gIsN, isN, iNeg, tTru', gTru, tBl, iChain, tAnd', tOr', tNot', tYes', iIf, iAnd, iOr, iNot, iIx, gIx, atW, iIxO, ownL, oNone, oSome, iSl, gSl, iRevL, iCall, nCall, iFn, Sh.R.fz, SO.fz, Stt.put, Stt.puts, iMtO, gAppend, gInsert, gExtend, gLen, iLenO, gAbs, gInt, gMinMax, gList, gTuple, iListRg, gIsi, tyN, gRepr, flatW, eqW, okD, eqOk, cut_13, cut_1_2, cut_1_3, cut_m2, cut_m3, cut_m4, atI_m2, atI_m3, atI_m4, iOfT, tKdIn, iKdIx, atI_0, atI_1, atI_2, atI_3, ixN_4_0, ixN_4_1, ixN_4_2, ixN_4_3, Sto.put_same, Sto.put_put, toNat_2, List.map, List.replicate, List.length_cons, List.length_nil, List.getElem?_cons_zero, List.getElem?_cons_succ, List.getElem?_nil, List.set_cons_zero, List.set_cons_succ, List.set_nil, List.cons_append, List.nil_append, List.append_nil, if_true, if_false, Call.w]
    exact ⟨rfl, ifT (beq_iff_eq.mpr y) h⟩
  · refine seq_step _ (fun nx h => ?_) (fin (R + r) (by rw [if_neg y]))
    simp only [bodyI, start0, sSeq, sNext, sNever, sCont, sBreak, sDrop, sRet, sRetN, sRet0, sRetO, sIf, sSet, sSetN, sSetP, sPar, sParEN, sParNE, sPar3, sAsg, gNm, gsNil, gsCons, gTp, sAugI, sIxO, sIxS, sAugS, stoL, setW, iVar, iC, iNil, iCons, iTup, iLst, nLst, iFz, iB, gAdd, gI, gIC, gSub, gMul, gDiv, gMod, gPow, gLt, gLe, gGt, gGe, gEq, gNe, gIn, gIsN, isN, iNeg, tTru', gTru, tBl, iChain, tAnd', tOr', tNot', tYes', iIf, iAnd, iOr, iNot, iIx, gIx, atW, iIxO, ownL, oNone, oSome, iSl, gSl, iRevL, iCall, nCall, iFn, Sh.R.fz, SO.fz, Stt.put, Stt.puts, iMtO, gAppend, gInsert, gExtend, gLen, iLenO, gAbs, gInt, gMinMax, gList, gTuple, iListRg, gIsi, tyN, gRepr, flatW, eqW, okD, eqOk, cut_13, cut_1_2, cut_1_3, cut_m2, cut_m3, cut_m4, atI_m2, atI_m3, atI_m4, iOfT, tKdIn, iKdIx, atI_0, atI_1, atI_2, atI_3, ixN_4_0, ixN_4_1, ixN_4_2, ixN_4_3, Sto.put_same, Sto.put_put, toNat_2, List.map, List.replicate, List.length_cons, List.length_nil, List.getElem?_cons_zero, List.getElem?_cons_succ, List.getElem?_nil, List.set_cons_zero, List.set_cons_succ, List.set_nil, List.cons_append, List.nil_append, List.append_nil, if_true, if_false, Call.w]
    exact ⟨rfl, ifF (beq_eq_false_iff_ne.mpr y) h⟩
def ib_p_on_open : IS := (sSeq (sAsg (iVar 3) (gTp 2 (gsCons (gNm 4) (gsCons (gNm 5) gsNil))))
  (sSeq (sIf (tBl (iB gEq (iIx (iVar 0) (iC (.int 0))) (iC (.str "halve")))) (sSeq (sSet 6 (iB gAdd (iB gMul (iVar 4) (iVar 1)) (iVar 5)))
    (sRet (iTup (iCons (iB gMod (iVar 6) (iVar 2)) (iCons (iB gDiv (iVar 6) (iVar 2)) iNil))))) sNext)
  (sSeq (sIf (tBl (iB gEq (iIx (iVar 0) (iC (.int 0))) (iC (.str "pair")))) (sSeq (sSet 6 (iB gAdd (iB gMul (iVar 5) (iVar 2)) (iVar 4)))
    (sRet (iTup (iCons (iB gDiv (iVar 6) (iVar 1)) (iCons (iB gMod (iVar 6) (iVar 1)) iNil))))) sNext)
  (sSeq (sSet 7 (iB gDiv (iB gAdd (iVar 2) (iC (.int 1))) (iC (.int 2))))
  (sSeq (sIf (tBl (iB gEq (iIx (iVar 0) (iC (.int 0))) (iC (.str "others")))) (sRet (iIf (tBl (iB gEq (iB gMod (iVar 4) (iC (.int 2))) (iC (.int 0)))) (iTup (iCons (iB gDiv (iVar 4) (iC (.int 2))) (iCons (iVar 5) iNil))) (iTup (iCons (iB gAdd (iVar 7) (iB gDiv (iVar 4) (iC (.int 2)))) (iCons (iVar 5) iNil))))) sNext)
  (sRet (iIf (tBl (iB gLt (iVar 4) (iVar 7))) (iTup (iCons (iB gMul (iC (.int 2)) (iVar 4)) (iCons (iVar 5) iNil))) (iTup (iCons (iB gAdd (iB gMul (iC (.int 2)) (iB gSub (iVar 4) (iVar 7))) (iC (.int 1))) (iCons (iVar 5) iNil))))))))))
def Call.opn : Call → Bool
  | .halve => true
  | .pair => true
  | .others => true
  | .fill => true
  | _ => false
def sp_p_on_open : ISp := fun ws S Q E => ∃ (c : Call) (F R r f : Int), ws = [c.w, .int F, .int R, pairW (r, f)] ∧ c.opn = true ∧ Ln F R ∧ At F R (r, f) ∧ Q (.val (pairW (mv F R c (r, f)))) S
theorem ok_p_on_open (ws : List W) (S : Sto) (Q : R → Sto → Prop) (E : Exn → Sto → Prop) (h : sp_p_on_open ws S Q E) : bodyI 8 ib_p_on_open ws S Q E := by
  obtain ⟨c, F, R, r, f, rfl, ho, ⟨l1, l2, l3, l4⟩, ⟨r0, r1, f0, f1⟩, q⟩ := h
  simp only at r0 r1 f0 f1
  have bR : Bd R := by unfold Bd lim; omega
  have bF : Bd F := by unfold Bd lim; omega
  have b2 : Bd 2 := by unfold Bd lim; omega
  unfold ib_p_on_open
  refine seq_step ⟨[.val c.w, .val (.int F), .val (.int R), .val (pairW (r, f)), .val (.int r), .val (.int f), .none, .none], S⟩ (fun nx h => ⟨rfl, h⟩) ?_
  have half : ∀ (s : IS), s (fun x st => E x st.S) { nx := fun st => Q (.val .non) st.S, rt := Q } ⟨[.val c.w, .val (.int F), .val (.int R), .val (pairW (r, f)), .val (.int r), .val (.int f), .none, .val (.int ((R + 1) / 2))], S⟩ →
      sSeq (sSet 7 (iB gDiv (iB gAdd (iVar 2) (iC (.int 1))) (iC (.int 2)))) s (fun x st => E x st.S) { nx := fun st => Q (.val .non) st.S, rt := Q } ⟨[.val c.w, .val (.int F), .val (.int R), .val (pairW (r, f)), .val (.int r), .val (.int f), .none, .none], S⟩ := fun s h => ⟨⟨by omega, b2⟩, h⟩
  cases c with
  | halve =>
    refine seq_end fun nx => ?_
    simp only [bodyI, start0, sSeq, sNext, sNever, sCont, sBreak, sDrop, sRet, sRetN, sRet0, sRetO, sIf, sSet, sSetN, sSetP, sPar, sParEN, sParNE, sPar3, sAsg, gNm, gsNil, gsCons, gTp, sAugI, sIxO, sIxS, sAugS, stoL, setW, iVar, iC, iNil, iCons, iTup, iLst, nLst, iFz, iB, gAdd, gI, gIC, gSub, gMul, gDiv, gMod, gPow, gLt, gLe, gGt, gGe, gEq, gNe, gIn, gIsN, isN, iNeg, tTru', gTru, tBl, iChain, tAnd', tOr', tNot', tYes', iIf, iAnd, iOr, iNot, iIx, gIx, atW, iIxO, ownL, oNone, oSome, iSl, gSl, iRevL, iCall, nCall, iFn, Sh.R.fz, SO.fz, Stt.put, Stt.puts, iMtO, gAppend, gInsert, gExtend, gLen, iLenO, gAbs, gInt, gMinMax, gList, gTuple, iListRg, gIsi, tyN, gRepr, flatW, eqW, okD, eqOk, cut_13, cut_1_2, cut_1_3, cut_m2, cut_m3, cut_m4, atI_m2, atI_m3, atI_m4, iOfT, tKdIn, iKdIx, atI_0, atI_1, atI_2, atI_3, ixN_4_0, ixN_4_1, ixN_4_2, ixN_4_3, Sto.put_same, Sto.put_put, toNat_2, List.map, List.replicate, List.length_cons, List.length_nil, List.getElem?_cons_zero, List.getElem?_cons_succ, List.getElem?_nil, List.set_cons_zero, List.set_cons_succ, List.set_nil, List.cons_append, List.nil_append, List.append_nil, if_true, if_false, Call.w]
    exact ⟨trivial, ifT (by decide) ⟨small_r (by omega) (by omega), by omega, ⟨by omega, bR⟩, q⟩⟩
  | pair =>
    refine seq_same (fun nx h => ?_) (seq_end fun nx => ?_)
    · simp only [bodyI, start0, sSeq, sNext, sNever, sCont, sBreak, sDrop, sRet, sRetN, sRet0, sRetO, sIf, sSet, sSetN, sSetP, sPar, sParEN, sParNE, sPar3, sAsg, gNm, gsNil, gsCons, gTp, sAugI, sIxO, sIxS, sAugS, stoL, setW, iVar, iC, iNil, iCons, iTup, iLst, nLst, iFz, iB, gAdd, gI, gIC, gSub, gMul, gDiv, gMod, gPow, gLt, gLe, gGt, gGe, gEq, gNe, gIn, gIsN, isN, iNeg, tTru', gTru, tBl, iChain, tAnd', tOr', tNot', tYes', iIf, iAnd, iOr, iNot, iIx, gIx, atW, iIxO, ownL, oNone, oSome, iSl, gSl, iRevL, iCall, nCall, iFn, Sh.R.fz, SO.fz, Stt.put, Stt.puts, iMtO, gAppend, gInsert, gExtend, gLen, iLenO, gAbs, gInt, gMinMax, gList, gTuple, iListRg, gIsi, tyN, gRepr, flatW, eqW, okD, eqOk, cut_13, cut_1_2, cut_1_3, cut_m2, cut_m3, cut_m4, atI_m2, atI_m3, atI_m4, iOfT, tKdIn, iKdIx, atI_0, atI_1, atI_2, atI_3, ixN_4_0, ixN_4_1, ixN_4_2, ixN_4_3, Sto.put_same, Sto.put_put, toNat_2, List.map, List.replicate, List.length_cons, List.length_nil, List.getElem?_cons_zero, List.getElem?_cons_succ, List.getElem?_nil, List.set_cons_zero, List.set_cons_succ, List.set_nil, List.cons_append, List.nil_append, List.append_nil, if_true, if_false, Call.w]
      exact ⟨trivial, ifF (by decide) h⟩
    · simp only [bodyI, start0, sSeq, sNext, sNever, sCont, sBreak, sDrop, sRet, sRetN, sRet0, sRetO, sIf, sSet, sSetN, sSetP, sPar, sParEN, sParNE, sPar3, sAsg, gNm, gsNil, gsCons, gTp, sAugI, sIxO, sIxS, sAugS, stoL, setW, iVar, iC, iNil, iCons, iTup, iLst, nLst, iFz, iB, gAdd, gI, gIC, gSub, gMul, gDiv, gMod, gPow, gLt, gLe, gGt, gGe, gEq, gNe, gIn, gIsN, isN, iNeg, tTru', gTru, tBl, iChain, tAnd', tOr', tNot', tYes', iIf, iAnd, iOr, iNot, iIx, gIx, atW, iIxO, ownL, oNone, oSome, iSl, gSl, iRevL, iCall, nCall, iFn, Sh.R.fz, SO.fz, Stt.put, Stt.puts, iMtO, gAppend, gInsert, gExtend, gLen, iLenO, gAbs, gInt, gMinMax, gList, gTuple, iListRg, gIsi, tyN, gRepr, flatW, eqW, okD, eqOk, cut_13, cut_1_2, cut_1_3, cut_m2, cut_m3, cut_m4, atI_m2, atI_m3, atI_m4, iOfT, tKdIn, iKdIx, atI_0, atI_1, atI_2, atI_3, ixN_4_0, ixN_4_1, ixN_4_2, ixN_4_3, Sto.put_same, Sto.put_put, toNat_2, List.map, List.replicate, List.length_cons, List.length_nil, List.getElem?_cons_zero, List.getElem?_cons_succ, List.getElem?_nil, List.set_cons_zero, List.set_cons_succ, List.set_nil, List.cons_append, List.nil_append, List.append_nil, if_true, if_false, Call.w]
      exact ⟨trivial, ifT (by decide) ⟨small_l (by omega) (by omega), ⟨by omega, bF⟩, by omega, q⟩⟩
  | others =>
    refine seq_same (fun nx h => ?_) (seq_same (fun nx h => ?_) (half _ (seq_end fun nx => ?_)))
    · simp only [bodyI, start0, sSeq, sNext, sNever, sCont, sBreak, sDrop, sRet, sRetN, sRet0, sRetO, sIf, sSet, sSetN, sSetP, sPar, sParEN, sParNE, sPar3, sAsg, gNm, gsNil, gsCons, gTp, sAugI, sIxO, sIxS, sAugS, stoL, setW, iVar, iC, iNil, iCons, iTup, iLst, nLst, iFz, iB, gAdd, gI, gIC, gSub, gMul, gDiv, gMod, gPow, gLt, gLe, gGt, gGe, gEq, gNe, gIn, gIsN, isN, iNeg, tTru', gTru, tBl, iChain, tAnd', tOr', tNot', tYes', iIf, iAnd, iOr, iNot, iIx, gIx, atW, iIxO, ownL, oNone, oSome, iSl, gSl, iRevL, iCall, nCall, iFn, Sh.R.fz, SO.fz, Stt.put, Stt.puts, iMtO, gAppend, gInsert, gExtend, gLen, iLenO, gAbs, gInt, gMinMax, gList, gTuple, iListRg, gIsi, tyN, gRepr, flatW, eqW, okD, eqOk, cut_13, cut_1_2, cut_1_3, cut_m2, cut_m3, cut_m4, atI_m2, atI_m3, atI_m4, iOfT, tKdIn, iKdIx, atI_0, atI_1, atI_2, atI_3, ixN_4_0, ixN_4_1, ixN_4_2, ixN_4_3, Sto.put_same, Sto.put_put, toNat_2, List.map, List.replicate, List.length_cons, List.length_nil, List.getElem?_cons_zero, List.getElem?_cons_succ, List.getElem?_nil, List.set_cons_zero, List.set_cons_succ, List.set_nil, List.cons_append, List.nil_append, List.append_nil, if_true, if_false, Call.w]
      exact ⟨trivial, ifF (by decide) h⟩
    · simp only [bodyI, start0, sSeq, sNext, sNever, sCont, sBreak, sDrop, sRet, sRetN, sRet0, sRetO, sIf, sSet, sSetN, sSetP, sPar, sParEN, sParNE, sPar3, sAsg, gNm, gsNil, gsCons, gTp, sAugI, sIxO, sIxS, sAugS, stoL, setW, iVar, iC, iNil, iCons, iTup, iLst, nLst, iFz, iB, gAdd, gI, gIC, gSub, gMul, gDiv, gMod, gPow, gLt, gLe, gGt, gGe, gEq, gNe, gIn, gIsN, isN, iNeg, tTru', gTru, tBl, iChain, tAnd', tOr', tNot', tYes', iIf, iAnd, iOr, iNot, iIx, gIx, atW, iIxO, ownL, oNone, oSome, iSl, gSl, iRevL, iCall, nCall, iFn, Sh.R.fz, SO.fz, Stt.put, Stt.puts, iMtO, gAppend, gInsert, gExtend, gLen, iLenO, gAbs, gInt, gMinMax, gList, gTuple, iListRg, gIsi, tyN, gRepr, flatW, eqW, okD, eqOk, cut_13, cut_1_2, cut_1_3, cut_m2, cut_m3, cut_m4, atI_m2, atI_m3, atI_m4, iOfT, tKdIn, iKdIx, atI_0, atI_1, atI_2, atI_3, ixN_4_0, ixN_4_1, ixN_4_2, ixN_4_3, Sto.put_same, Sto.put_put, toNat_2, List.map, List.replicate, List.length_cons, List.length_nil, List.getElem?_cons_zero, List.getElem?_cons_succ, List.getElem?_nil, List.set_cons_zero, List.set_cons_succ, List.set_nil, List.cons_append, List.nil_append, List.append_nil, if_true, if_false, Call.w]
      exact ⟨trivial, ifF (by decide) h⟩
    · simp only [bodyI, start0, sSeq, sNext, sNever, sCont, sBreak, sDrop, sRet, sRetN, sRet0, sRetO, sIf, sSet, sSetN, sSetP, sPar, sParEN, sParNE, sPar3, sAsg, gNm, gsNil, gsCons, gTp, sAugI, sIxO, sIxS, sAugS, stoL, setW, iVar, iC, iNil, iCons, iTup, iLst, nLst, iFz, iB, gAdd, gI, gIC, gSub, gMul, gDiv, gMod, gPow, gLt, gLe, gGt, gGe, gEq, gNe, gIn, gIsN, isN, iNeg, tTru', gTru, tBl, iChain, tAnd', tOr', tNot', tYes', iIf, iAnd, iOr, iNot, iIx, gIx, atW, iIxO, ownL, oNone, oSome, iSl, gSl, iRevL, iCall, nCall, iFn, Sh.R.fz, SO.fz, Stt.put, Stt.puts, iMtO, gAppend, gInsert, gExtend, gLen, iLenO, gAbs, gInt, gMinMax, gList, gTuple, iListRg, gIsi, tyN, gRepr, flatW, eqW, okD, eqOk, cut_13, cut_1_2, cut_1_3, cut_m2, cut_m3, cut_m4, atI_m2, atI_m3, atI_m4, iOfT, tKdIn, iKdIx, atI_0, atI_1, atI_2, atI_3, ixN_4_0, ixN_4_1, ixN_4_2, ixN_4_3, Sto.put_same, Sto.put_put, toNat_2, List.map, List.replicate, List.length_cons, List.length_nil, List.getElem?_cons_zero, List.getElem?_cons_succ, List.getElem?_nil, List.set_cons_zero, List.set_cons_succ, List.set_nil, List.cons_append, List.nil_append, List.append_nil, if_true, if_false, Call.w]
      refine ⟨trivial, ifT (by decide) ⟨by omega, rfl, ifb (fun y => ?_) (fun y => ?_)⟩⟩
      · have : r % 2 = 0 := by simpa using y
        rw [show mv F R .others (r, f) = (r / 2, f) from if_pos this] at q
        exact ⟨⟨by omega, b2⟩, q⟩
      · have : ¬ r % 2 = 0 := by simpa using y
        rw [show mv F R .others (r, f) = ((R + 1) / 2 + r / 2, f) from if_neg this] at q
        exact ⟨⟨by omega, b2⟩, q⟩
  | fill =>
    refine seq_same (fun nx h => ?_) (seq_same (fun nx h => ?_) (half _ (seq_same (fun nx h => ?_) ?_)))
    · simp only [bodyI, start0, sSeq, sNext, sNever, sCont, sBreak, sDrop, sRet, sRetN, sRet0, sRetO, sIf, sSet, sSetN, sSetP, sPar, sParEN, sParNE, sPar3, sAsg, gNm, gsNil, gsCons, gTp, sAugI, sIxO, sIxS, sAugS, stoL, setW, iVar, iC, iNil, iCons, iTup, iLst, nLst, iFz, iB, gAdd, gI, gIC, gSub, gMul, gDiv, gMod, gPow, gLt, gLe, gGt, gGe, gEq, gNe, gIn, gIsN, isN, iNeg, tTru', gTru, tBl, iChain, tAnd', tOr', tNot', tYes', iIf, iAnd, iOr, iNot, iIx, gIx, atW, iIxO, ownL, oNone, oSome, iSl, gSl, iRevL, iCall, nCall, iFn, Sh.R.fz, SO.fz, Stt.put, Stt.puts, iMtO, gAppend, gInsert, gExtend, gLen, iLenO, gAbs, gInt, gMinMax, gList, gTuple, iListRg, gIsi, tyN, gRepr, flatW, eqW, okD, eqOk, cut_13, cut_1_2, cut_1_3, cut_m2, cut_m3, cut_m4, atI_m2, atI_m3, atI_m4, iOfT, tKdIn, iKdIx, atI_0, atI_1, atI_2, atI_3, ixN_4_0, ixN_4_1, ixN_4_2, ixN_4_3, Sto.put_same, Sto.put_put, toNat_2, List.map, List.replicate, List.length_cons, List.length_nil, List.getElem?_cons_zero, List.getElem?_cons_succ, List.getElem?_nil, List.set_cons_zero, List.set_cons_succ, List.set_nil, List.cons_append, List.nil_append, List.append_nil, if_true, if_false, Call.w]
      exact ⟨trivial, ifF (by decide) h⟩
    · simp only [bodyI, start0, sSeq, sNext, sNever, sCont, sBreak, sDrop, sRet, sRetN, sRet0, sRetO, sIf, sSet, sSetN, sSetP, sPar, sParEN, sParNE, sPar3, sAsg, gNm, gsNil, gsCons, gTp, sAugI, sIxO, sIxS, sAugS, stoL, setW, iVar, iC, iNil, iCons, iTup, iLst, nLst, iFz, iB, gAdd, gI, gIC, gSub, gMul, gDiv, gMod, gPow, gLt, gLe, gGt, gGe, gEq, gNe, gIn, gIsN, isN, iNeg, tTru', gTru, tBl, iChain, tAnd', tOr', tNot', tYes', iIf, iAnd, iOr, iNot, iIx, gIx, atW, iIxO, ownL, oNone, oSome, iSl, gSl, iRevL, iCall, nCall, iFn, Sh.R.fz, SO.fz, Stt.put, Stt.puts, iMtO, gAppend, gInsert, gExtend, gLen, iLenO, gAbs, gInt, gMinMax, gList, gTuple, iListRg, gIsi, tyN, gRepr, flatW, eqW, okD, eqOk, cut_13, cut_1_2, cut_1_3, cut_m2, cut_m3, cut_m4, atI_m2, atI_m3, atI_m4, iOfT, tKdIn, iKdIx, atI_0, atI_1, atI_2, atI_3, ixN_4_0, ixN_4_1, ixN_4_2, ixN_4_3, Sto.put_same, Sto.put_put, toNat_2, List.map, List.replicate, List.length_cons, List.length_nil, List.getElem?_cons_zero, List.getElem?_cons_succ, List.getElem?_nil, List.set_cons_zero, List.set_cons_succ, List.set_nil, List.cons_append, List.nil_append, List.append_nil, if_true, if_false, Call.w]
      exact ⟨trivial, ifF (by decide) h⟩
    · simp only [bodyI, start0, sSeq, sNext, sNever, sCont, sBreak, sDrop, sRet, sRetN, sRet0, sRetO, sIf, sSet, sSetN, sSetP, sPar, sParEN, sParNE, sPar3, sAsg, gNm, gsNil, gsCons, gTp, sAugI, sIxO, sIxS, sAugS, stoL, setW, iVar, iC, iNil, iCons, iTup, iLst, nLst, iFz, iB, gAdd, gI, gIC, gSub, gMul, gDiv, gMod, gPow, gLt, gLe, gGt, gGe, gEq, gNe, gIn, gIsN, isN, iNeg, tTru', gTru, tBl, iChain, tAnd', tOr', tNot', tYes', iIf, iAnd, iOr, iNot, iIx, gIx, atW, iIxO, ownL, oNone, oSome, iSl, gSl, iRevL, iCall, nCall, iFn, Sh.R.fz, SO.fz, Stt.put, Stt.puts, iMtO, gAppend, gInsert, gExtend, gLen, iLenO, gAbs, gInt, gMinMax, gList, gTuple, iListRg, gIsi, tyN, gRepr, flatW, eqW, okD, eqOk, cut_13, cut_1_2, cut_1_3, cut_m2, cut_m3, cut_m4, atI_m2, atI_m3, atI_m4, iOfT, tKdIn, iKdIx, atI_0, atI_1, atI_2, atI_3, ixN_4_0, ixN_4_1, ixN_4_2, ixN_4_3, Sto.put_same, Sto.put_put, toNat_2, List.map, List.replicate, List.length_cons, List.length_nil, List.getElem?_cons_zero, List.getElem?_cons_succ, List.getElem?_nil, List.set_cons_zero, List.set_cons_succ, List.set_nil, List.cons_append, List.nil_append, List.append_nil, if_true, if_false, Call.w]
      exact ⟨trivial, ifF (by decide) h⟩
    · simp only [bodyI, start0, sSeq, sNext, sNever, sCont, sBreak, sDrop, sRet, sRetN, sRet0, sRetO, sIf, sSet, sSetN, sSetP, sPar, sParEN, sParNE, sPar3, sAsg, gNm, gsNil, gsCons, gTp, sAugI, sIxO, sIxS, sAugS, stoL, setW, iVar, iC, iNil, iCons, iTup, iLst, nLst, iFz, iB, gAdd, gI, gIC, gSub, gMul, gDiv, gMod, gPow, gLt, gLe, gGt, gGe, gEq, gNe, gIn, gIsN, isN, iNeg, tTru', gTru, tBl, iChain, tAnd', tOr', tNot', tYes', iIf, iAnd, iOr, iNot, iIx, gIx, atW, iIxO, ownL, oNone, oSome, iSl, gSl, iRevL, iCall, nCall, iFn, Sh.R.fz, SO.fz, Stt.put, Stt.puts, iMtO, gAppend, gInsert, gExtend, gLen, iLenO, gAbs, gInt, gMinMax, gList, gTuple, iListRg, gIsi, tyN, gRepr, flatW, eqW, okD, eqOk, cut_13, cut_1_2, cut_1_3, cut_m2, cut_m3, cut_m4, atI_m2, atI_m3, atI_m4, iOfT, tKdIn, iKdIx, atI_0, atI_1, atI_2, atI_3, ixN_4_0, ixN_4_1, ixN_4_2, ixN_4_3, Sto.put_same, Sto.put_put, toNat_2, List.map, List.replicate, List.length_cons, List.length_nil, List.getElem?_cons_zero, List.getElem?_cons_succ, List.getElem?_nil, List.set_cons_zero, List.set_cons_succ, List.set_nil, List.cons_append, List.nil_append, List.append_nil, if_true, if_false, Call.w]
      refine ifb (fun y => ?_) (fun y => ?_)
      · rw [show mv F R .fill (r, f) = (2 * r, f) from if_pos (of_decide_eq_true y)] at q
        exact ⟨small_l (by omega) (by omega), q⟩
      · rw [show mv F R .fill (r, f) = (2 * (r - (R + 1) / 2) + 1, f) from if_neg (of_decide_eq_false y)] at q
        exact ⟨small_l (by omega) (by omega), q⟩
  | _ => cases ho
def ib_p_moved_by : IS := (sSeq (sAsg (iVar 3) (gTp 2 (gsCons (gNm 4) (gsCons (gNm 5) gsNil))))
  (sSeq (sIf (tBl (iB gEq (iIx (iVar 0) (iC (.int 0))) (iC (.str "all")))) (sRet (iTup (iCons (iB gMod (iB gSub (iVar 4) (iIx (iVar 0) (iC (.int 1)))) (iVar 2)) (iCons (iVar 5) iNil)))) sNext)
  (sSeq (sIf (tBl (iB gEq (iIx (iVar 0) (iC (.int 0))) (iC (.str "up")))) (sRet (iIf (tBl (iB gEq (iVar 5) (iIx (iVar 0) (iC (.int 1))))) (iTup (iCons (iB gMod (iB gSub (iVar 4) (iIx (iVar 0) (iC (.int 2)))) (iVar 2)) (iCons (iVar 5) iNil))) (iVar 3))) sNext)
  (sSeq (sIf (tBl (iB gEq (iIx (iVar 0) (iC (.int 0))) (iC (.str "about")))) (sRet (iTup (iCons (iB gSub (iB gSub (iVar 2) (iC (.int 1))) (iVar 4)) (iCons (iB gSub (iB gSub (iVar 1) (iC (.int 1))) (iVar 5)) iNil)))) sNext)
  (sSeq (sIf (tBl (iB gEq (iIx (iVar 0) (iC (.int 0))) (iC (.str "wheel")))) (sRet (iCall sp_p_on_wheel (iCons (iVar 0) (iCons (iVar 2) (iCons (iVar 3) iNil))))) sNext)
  (sSeq (sIf (tBl (iB (gIn false) (iIx (iVar 0) (iC (.int 0))) (iTup (iCons (iC (.str "swap")) (iCons (iC (.str "front")) iNil))))) (sSeq (sIf (tOr' (tBl (iB (gIn true) (iVar 5) (iSl (iVar 0) (oSome (iC (.int 1))) oNone))) (tAnd' (tBl (iB gEq (iIx (iVar 0) (iC (.int 0))) (iC (.str "front")))) (tBl (iB gGt (iVar 4) (iC (.int 0)))))) (sRet (iVar 3)) sNext)
    (sRet (iTup (iCons (iVar 4) (iCons (iIf (tBl (iB gEq (iVar 5) (iIx (iVar 0) (iC (.int 1))))) (iIx (iVar 0) (iC (.int 2))) (iIx (iVar 0) (iC (.int 1)))) iNil))))) sNext)
  (sRet (iCall sp_p_on_open (iCons (iVar 0) (iCons (iVar 1) (iCons (iVar 2) (iCons (iVar 3) iNil))))))))))))
def sp_p_moved_by : ISp := fun ws S Q E => ∃ (c : Call) (F R : Int) (p : Int × Int), ws = [c.w, .int F, .int R, pairW p] ∧ Ln F R ∧ At F R p ∧ Q (.val (pairW (mv F R c p))) S
/-- a call's word -/
def Call.word : Call → Str
  | .all _ => "all"
  | .up _ _ => "up"
  | .swap _ _ => "swap"
  | .wheel _ _ _ => "wheel"
  | .about => "about"
  | .front _ _ => "front"
  | .halve => "halve"
  | .pair => "pair"
  | .others => "others"
  | .fill => "fill"
theorem inW_sf (w : Str) : inW (.str w) [.str "swap", .str "front"] = (("swap" == w) || ("front" == w)) := by
  unfold inW
  simp only [List.any_cons, List.any_nil, eqW, Bool.or_false]
theorem ok_p_moved_by (ws : List W) (S : Sto) (Q : R → Sto → Prop) (E : Exn → Sto → Prop) (h : sp_p_moved_by ws S Q E) : bodyI 6 ib_p_moved_by ws S Q E := by
  obtain ⟨c, F, R, ⟨r, f⟩, rfl, hl, hp, q⟩ := h
  have hl' := hl
  have hp' := hp
  obtain ⟨l1, l2, l3, l4⟩ := hl'
  obtain ⟨r0, r1, f0, f1⟩ := hp'
  simp only at r0 r1 f0 f1
  unfold ib_p_moved_by
  refine seq_step ⟨[.val c.w, .val (.int F), .val (.int R), .val (pairW (r, f)), .val (.int r), .val (.int f)], S⟩ (fun nx h => ⟨rfl, h⟩) ?_
  have fin : ∀ (w : Str) (g h : Int), c.w = .tup [.str w, .int g, .int h] → Q (.val (pairW (r, if f = g then h else g))) S →
        (sRet (iTup (iCons (iVar 4) (iCons (iIf (tBl (iB gEq (iVar 5) (iIx (iVar 0) (iC (.int 1))))) (iIx (iVar 0) (iC (.int 2))) (iIx (iVar 0) (iC (.int 1)))) iNil)))) (fun x st => E x st.S) { nx := fun st => Q (.val .non) st.S, rt := Q } ⟨[.val c.w, .val (.int F), .val (.int R), .val (pairW (r, f)), .val (.int r), .val (.int f)], S⟩ := fun w g h ec q => by
    rw [ec]
    simp only [bodyI, start0, sSeq, sNext, sNever, sCont, sBreak, sDrop, sRet, sRetN, sRet0, sRetO, sIf, sSet, sSetN, sSetP, sPar, sParEN, sParNE, sPar3, sAsg, gNm, gsNil, gsCons, gTp, sAugI, sIxO, sIxS, sAugS, stoL, setW, iVar, iC, iNil, iCons, iTup, iLst, nLst, iFz, iB, gAdd, gI, gIC, gSub, gMul, gDiv, gMod, gPow, gLt, gLe, gGt, gGe, gEq, gNe, gIn, gIsN, isN, iNeg, tTru', gTru, tBl, iChain, tAnd', tOr', tNot', tYes', iIf, iAnd, iOr, iNot, iIx, gIx, atW, iIxO, ownL, oNone, oSome, iSl, gSl, iRevL, iCall, nCall, iFn, Sh.R.fz, SO.fz, Stt.put, Stt.puts, iMtO, gAppend, gInsert, gExtend, gLen, iLenO, gAbs, gInt, gMinMax, gList, gTuple, iListRg, gIsi, tyN, gRepr, flatW, eqW, okD, eqOk, cut_13, cut_1_2, cut_1_3, cut_m2, cut_m3, cut_m4, atI_m2, atI_m3, atI_m4, iOfT, tKdIn, iKdIx, atI_0, atI_1, atI_2, atI_3, ixN_4_0, ixN_4_1, ixN_4_2, ixN_4_3, Sto.put_same, Sto.put_put, toNat_2, List.map, List.replicate, List.length_cons, List.length_nil, List.getElem?_cons_zero, List.getElem?_cons_succ, List.getElem?_nil, List.set_cons_zero, List.set_cons_succ, List.set_nil, List.cons_append, List.nil_append, List.append_nil, if_true, if_false]
    refine ⟨rfl, ifb (fun y => ?_) (fun y => ?_)⟩
    · rw [if_pos (beq_iff_eq.mp y)] at q; exact q
    · rw [if_neg (beq_eq_false_iff_ne.mp y)] at q; exact q
  have skip : ∀ (x : Str) (s s' : IS) (nx : Stt → Prop), (x == c.word) = false → nx ⟨[.val c.w, .val (.int F), .val (.int R), .val (pairW (r, f)), .val (.int r), .val (.int f)], S⟩ →
      sIf (tBl (iB gEq (iIx (iVar 0) (iC (.int 0))) (iC (.str x)))) s sNext (fun x st => E x st.S) { nx := nx, rt := Q } ⟨[.val c.w, .val (.int F), .val (.int R), .val (pairW (r, f)), .val (.int r), .val (.int f)], S⟩ := fun x s s' nx e h => by
    have e2 : (c.word == x) = false := by rw [beq_eq_false_iff_ne] at e ⊢; exact fun z => e z.symm
    cases c <;> (simp only [bodyI, start0, sSeq, sNext, sNever, sCont, sBreak, sDrop, sRet, sRetN, sRet0, sRetO, sIf, sSet, sSetN, sSetP, sPar, sParEN, sParNE, sPar3, sAsg, gNm, gsNil, gsCons, gTp, sAugI, sIxO, sIxS, sAugS, stoL, setW, iVar, iC, iNil, iCons, iTup, iLst, nLst, iFz, iB, gAdd, gI, gIC, gSub, gMul, gDiv, gMod, gPow, gLt, gLe, gGt, gGe, gEq, gNe, gIn, gIsN, isN, iNeg, tTru', gTru, tBl, iChain, tAnd', tOr', tNot', tYes', iIf, iAnd, iOr, iNot, iIx, gIx, atW, iIxO, ownL, oNone, oSome, iSl, gSl, iRevL, iCall, nCall, iFn, Sh.R.fz, SO.fz, Stt.put, Stt.puts, iMtO, gAppend, gInsert, gExtend, gLen, iLenO, gAbs, gInt, gMinMax, gList, gTuple, iListRg, gIsi, tyN, gRepr, flatW, eqW, okD, eqOk, cut_13, cut_1_2, cut_1_3, cut_m2, cut_m3, cut_m4, atI_m2, atI_m3, atI_m4, iOfT, tKdIn, iKdIx, atI_0, atI_1, atI_2, atI_3, ixN_4_0, ixN_4_1, ixN_4_2, ixN_4_3, Sto.put_same, Sto.put_put, toNat_2, List.map, List.replicate, List.length_cons, List.length_nil, List.getElem?_cons_zero, List.getElem?_cons_succ, List.getElem?_nil, List.set_cons_zero, List.set_cons_succ, List.set_nil, List.cons_append, List.nil_append, List.append_nil, if_true, if_false, Call.w]; exact ⟨trivial, ifF e2 h⟩)
  have skip2 : ∀ (s s' : IS) (nx : Stt → Prop), ("swap" == c.word) = false → ("front" == c.word) = false → nx ⟨[.val c.w, .val (.int F), .val (.int R), .val (pairW (r, f)), .val (.int r), .val (.int f)], S⟩ →
      sIf (tBl (iB (gIn false) (iIx (iVar 0) (iC (.int 0))) (iTup (iCons (iC (.str "swap")) (iCons (iC (.str "front")) iNil))))) s sNext (fun x st => E x st.S) { nx := nx, rt := Q } ⟨[.val c.w, .val (.int F), .val (.int R), .val (pairW (r, f)), .val (.int r), .val (.int f)], S⟩ := fun s s' nx e e' h => by
    have key : inW (.str c.word) [.str "swap", .str "front"] = false := by rw [inW_sf, e, e']; rfl
    cases c <;> (simp only [bodyI, start0, sSeq, sNext, sNever, sCont, sBreak, sDrop, sRet, sRetN, sRet0, sRetO, sIf, sSet, sSetN, sSetP, sPar, sParEN, sParNE, sPar3, sAsg, gNm, gsNil, gsCons, gTp, sAugI, sIxO, sIxS, sAugS, stoL, setW, iVar, iC, iNil, iCons, iTup, iLst, nLst, iFz, iB, gAdd, gI, gIC, gSub, gMul, gDiv, gMod, gPow, gLt, gLe, gGt, gGe, gEq, gNe, gIn, gIsN, isN, iNeg, tTru', gTru, tBl, iChain, tAnd', tOr', tNot', tYes', iIf, iAnd, iOr, iNot, iIx, gIx, atW, iIxO, ownL, oNone, oSome, iSl, gSl, iRevL, iCall, nCall, iFn, Sh.R.fz, SO.fz, Stt.put, Stt.puts, iMtO, gAppend, gInsert, gExtend, gLen, iLenO, gAbs, gInt, gMinMax, gList, gTuple, iListRg, gIsi, tyN, gRepr, flatW, eqW, okD, eqOk, cut_13, cut_1_2, cut_1_3, cut_m2, cut_m3, cut_m4, atI_m2, atI_m3, atI_m4, iOfT, tKdIn, iKdIx, atI_0, atI_1, atI_2, atI_3, ixN_4_0, ixN_4_1, ixN_4_2, ixN_4_3, Sto.put_same, Sto.put_put, toNat_2, List.map, List.replicate, List.length_cons, List.length_nil, List.getElem?_cons_zero, List.getElem?_cons_succ, List.getElem?_nil, List.set_cons_zero, List.set_cons_succ, List.set_nil, List.cons_append, List.nil_append, List.append_nil, if_true, if_false, Call.w]; exact ⟨trivial, rfl, ifF key h⟩)
  have opn : c.opn = true → sRet (iCall sp_p_on_open (iCons (iVar 0) (iCons (iVar 1) (iCons (iVar 2) (iCons (iVar 3) iNil))))) (fun x st => E x st.S) { nx := fun st => Q (.val .non) st.S, rt := Q } ⟨[.val c.w, .val (.int F), .val (.int R), .val (pairW (r, f)), .val (.int r), .val (.int f)], S⟩ := fun ho => ⟨c, F, R, r, f, rfl, ho, hl, hp, q⟩
  cases c with
  | all k =>
    refine seq_end fun nx => ?_
    simp only [bodyI, start0, sSeq, sNext, sNever, sCont, sBreak, sDrop, sRet, sRetN, sRet0, sRetO, sIf, sSet, sSetN, sSetP, sPar, sParEN, sParNE, sPar3, sAsg, gNm, gsNil, gsCons, gTp, sAugI, sIxO, sIxS, sAugS, stoL, setW, iVar, iC, iNil, iCons, iTup, iLst, nLst, iFz, iB, gAdd, gI, gIC, gSub, gMul, gDiv, gMod, gPow, gLt, gLe, gGt, gGe, gEq, gNe, gIn, gIsN, isN, iNeg, tTru', gTru, tBl, iChain, tAnd', tOr', tNot', tYes', iIf, iAnd, iOr, iNot, iIx, gIx, atW, iIxO, ownL, oNone, oSome, iSl, gSl, iRevL, iCall, nCall, iFn, Sh.R.fz, SO.fz, Stt.put, Stt.puts, iMtO, gAppend, gInsert, gExtend, gLen, iLenO, gAbs, gInt, gMinMax, gList, gTuple, iListRg, gIsi, tyN, gRepr, flatW, eqW, okD, eqOk, cut_13, cut_1_2, cut_1_3, cut_m2, cut_m3, cut_m4, atI_m2, atI_m3, atI_m4, iOfT, tKdIn, iKdIx, atI_0, atI_1, atI_2, atI_3, ixN_4_0, ixN_4_1, ixN_4_2, ixN_4_3, Sto.put_same, Sto.put_put, toNat_2, List.map, List.replicate, List.length_cons, List.length_nil, List.getElem?_cons_zero, List.getElem?_cons_succ, List.getElem?_nil, List.set_cons_zero, List.set_cons_succ, List.set_nil, List.cons_append, List.nil_append, List.append_nil, if_true, if_false, Call.w]
    exact ⟨trivial, ifT (by decide) ⟨by omega, q⟩⟩
  | up g k =>
    refine seq_same (fun nx h => skip _ _ sNext nx (by simp only [Call.word]; decide) h) (seq_end fun nx => ?_)
    simp only [bodyI, start0, sSeq, sNext, sNever, sCont, sBreak, sDrop, sRet, sRetN, sRet0, sRetO, sIf, sSet, sSetN, sSetP, sPar, sParEN, sParNE, sPar3, sAsg, gNm, gsNil, gsCons, gTp, sAugI, sIxO, sIxS, sAugS, stoL, setW, iVar, iC, iNil, iCons, iTup, iLst, nLst, iFz, iB, gAdd, gI, gIC, gSub, gMul, gDiv, gMod, gPow, gLt, gLe, gGt, gGe, gEq, gNe, gIn, gIsN, isN, iNeg, tTru', gTru, tBl, iChain, tAnd', tOr', tNot', tYes', iIf, iAnd, iOr, iNot, iIx, gIx, atW, iIxO, ownL, oNone, oSome, iSl, gSl, iRevL, iCall, nCall, iFn, Sh.R.fz, SO.fz, Stt.put, Stt.puts, iMtO, gAppend, gInsert, gExtend, gLen, iLenO, gAbs, gInt, gMinMax, gList, gTuple, iListRg, gIsi, tyN, gRepr, flatW, eqW, okD, eqOk, cut_13, cut_1_2, cut_1_3, cut_m2, cut_m3, cut_m4, atI_m2, atI_m3, atI_m4, iOfT, tKdIn, iKdIx, atI_0, atI_1, atI_2, atI_3, ixN_4_0, ixN_4_1, ixN_4_2, ixN_4_3, Sto.put_same, Sto.put_put, toNat_2, List.map, List.replicate, List.length_cons, List.length_nil, List.getElem?_cons_zero, List.getElem?_cons_succ, List.getElem?_nil, List.set_cons_zero, List.set_cons_succ, List.set_nil, List.cons_append, List.nil_append, List.append_nil, if_true, if_false, Call.w]
    refine ⟨trivial, ifT (by decide) ⟨rfl, ifb (fun y => ?_) (fun y => ?_)⟩⟩
    · rw [show mv F R (.up g k) (r, f) = ((r - k) % R, f) from if_pos (beq_iff_eq.mp y)] at q
      exact ⟨by omega, q⟩
    · rw [show mv F R (.up g k) (r, f) = (r, f) from if_neg (beq_eq_false_iff_ne.mp y)] at q
      exact q
  | about =>
    refine seq_same (fun nx h => skip _ _ sNext nx (by simp only [Call.word]; decide) h) (seq_same (fun nx h => skip _ _ sNext nx (by simp only [Call.word]; decide) h) (seq_end fun nx => ?_))
    simp only [bodyI, start0, sSeq, sNext, sNever, sCont, sBreak, sDrop, sRet, sRetN, sRet0, sRetO, sIf, sSet, sSetN, sSetP, sPar, sParEN, sParNE, sPar3, sAsg, gNm, gsNil, gsCons, gTp, sAugI, sIxO, sIxS, sAugS, stoL, setW, iVar, iC, iNil, iCons, iTup, iLst, nLst, iFz, iB, gAdd, gI, gIC, gSub, gMul, gDiv, gMod, gPow, gLt, gLe, gGt, gGe, gEq, gNe, gIn, gIsN, isN, iNeg, tTru', gTru, tBl, iChain, tAnd', tOr', tNot', tYes', iIf, iAnd, iOr, iNot, iIx, gIx, atW, iIxO, ownL, oNone, oSome, iSl, gSl, iRevL, iCall, nCall, iFn, Sh.R.fz, SO.fz, Stt.put, Stt.puts, iMtO, gAppend, gInsert, gExtend, gLen, iLenO, gAbs, gInt, gMinMax, gList, gTuple, iListRg, gIsi, tyN, gRepr, flatW, eqW, okD, eqOk, cut_13, cut_1_2, cut_1_3, cut_m2, cut_m3, cut_m4, atI_m2, atI_m3, atI_m4, iOfT, tKdIn, iKdIx, atI_0, atI_1, atI_2, atI_3, ixN_4_0, ixN_4_1, ixN_4_2, ixN_4_3, Sto.put_same, Sto.put_put, toNat_2, List.map, List.replicate, List.length_cons, List.length_nil, List.getElem?_cons_zero, List.getElem?_cons_succ, List.getElem?_nil, List.set_cons_zero, List.set_cons_succ, List.set_nil, List.cons_append, List.nil_append, List.append_nil, if_true, if_false, Call.w]
    exact ⟨trivial, ifT (by decide) q⟩
  | wheel g h k =>
    refine seq_same (fun nx h => skip _ _ sNext nx (by simp only [Call.word]; decide) h) (seq_same (fun nx h => skip _ _ sNext nx (by simp only [Call.word]; decide) h) (seq_same (fun nx h => skip _ _ sNext nx (by simp only [Call.word]; decide) h) (seq_end fun nx => ?_)))
    simp only [bodyI, start0, sSeq, sNext, sNever, sCont, sBreak, sDrop, sRet, sRetN, sRet0, sRetO, sIf, sSet, sSetN, sSetP, sPar, sParEN, sParNE, sPar3, sAsg, gNm, gsNil, gsCons, gTp, sAugI, sIxO, sIxS, sAugS, stoL, setW, iVar, iC, iNil, iCons, iTup, iLst, nLst, iFz, iB, gAdd, gI, gIC, gSub, gMul, gDiv, gMod, gPow, gLt, gLe, gGt, gGe, gEq, gNe, gIn, gIsN, isN, iNeg, tTru', gTru, tBl, iChain, tAnd', tOr', tNot', tYes', iIf, iAnd, iOr, iNot, iIx, gIx, atW, iIxO, ownL, oNone, oSome, iSl, gSl, iRevL, iCall, nCall, iFn, Sh.R.fz, SO.fz, Stt.put, Stt.puts, iMtO, gAppend, gInsert, gExtend, gLen, iLenO, gAbs, gInt, gMinMax, gList, gTuple, iListRg, gIsi, tyN, gRepr, flatW, eqW, okD, eqOk, cut_13, cut_1_2, cut_1_3, cut_m2, cut_m3, cut_m4, atI_m2, atI_m3, atI_m4, iOfT, tKdIn, iKdIx, atI_0, atI_1, atI_2, atI_3, ixN_4_0, ixN_4_1, ixN_4_2, ixN_4_3, Sto.put_same, Sto.put_put, toNat_2, List.map, List.replicate, List.length_cons, List.length_nil, List.getElem?_cons_zero, List.getElem?_cons_succ, List.getElem?_nil, List.set_cons_zero, List.set_cons_succ, List.set_nil, List.cons_append, List.nil_append, List.append_nil, if_true, if_false, Call.w]
    exact ⟨trivial, ifT (by decide) ⟨g, h, k, R, r, f, rfl, by omega, q⟩⟩
  | swap g h =>
    refine seq_same (fun nx h => skip _ _ sNext nx (by simp only [Call.word]; decide) h) (seq_same (fun nx h => skip _ _ sNext nx (by simp only [Call.word]; decide) h) (seq_same (fun nx h => skip _ _ sNext nx (by simp only [Call.word]; decide) h) (seq_same (fun nx h => skip _ _ sNext nx (by simp only [Call.word]; decide) h) (seq_end fun nx => ?_))))
    refine ⟨rfl, rfl, ifT (by decide) ?_⟩
    by_cases a : f ≠ g ∧ f ≠ h
    · rw [show mv F R (.swap g h) (r, f) = (r, f) from if_pos a] at q
      refine seq_end fun nx => ?_
      simp only [bodyI, start0, sSeq, sNext, sNever, sCont, sBreak, sDrop, sRet, sRetN, sRet0, sRetO, sIf, sSet, sSetN, sSetP, sPar, sParEN, sParNE, sPar3, sAsg, gNm, gsNil, gsCons, gTp, sAugI, sIxO, sIxS, sAugS, stoL, setW, iVar, iC, iNil, iCons, iTup, iLst, nLst, iFz, iB, gAdd, gI, gIC, gSub, gMul, gDiv, gMod, gPow, gLt, gLe, gGt, gGe, gEq, gNe, gIn, gIsN, isN, iNeg, tTru', gTru, tBl, iChain, tAnd', tOr', tNot', tYes', iIf, iAnd, iOr, iNot, iIx, gIx, atW, iIxO, ownL, oNone, oSome, iSl, gSl, iRevL, iCall, nCall, iFn, Sh.R.fz, SO.fz, Stt.put, Stt.puts, iMtO, gAppend, gInsert, gExtend, gLen, iLenO, gAbs, gInt, gMinMax, gList, gTuple, iListRg, gIsi, tyN, gRepr, flatW, eqW, okD, eqOk, cut_13, cut_1_2, cut_1_3, cut_m2, cut_m3, cut_m4, atI_m2, atI_m3, atI_m4, iOfT, tKdIn, iKdIx, atI_0, atI_1, atI_2, atI_3, ixN_4_0, ixN_4_1, ixN_4_2, ixN_4_3, Sto.put_same, Sto.put_put, toNat_2, List.map, List.replicate, List.length_cons, List.length_nil, List.getElem?_cons_zero, List.getElem?_cons_succ, List.getElem?_nil, List.set_cons_zero, List.set_cons_succ, List.set_nil, List.cons_append, List.nil_append, List.append_nil, if_true, if_false, Call.w]
      refine ⟨trivial, rfl, ifT ?_ q⟩
      rw [inW_two, decide_eq_false (by omega)]
      rfl
    · rw [show mv F R (.swap g h) (r, f) = _ from if_neg a] at q
      refine seq_same (fun nx hn => ?_) (fin "swap" g h rfl q)
      simp only [bodyI, start0, sSeq, sNext, sNever, sCont, sBreak, sDrop, sRet, sRetN, sRet0, sRetO, sIf, sSet, sSetN, sSetP, sPar, sParEN, sParNE, sPar3, sAsg, gNm, gsNil, gsCons, gTp, sAugI, sIxO, sIxS, sAugS, stoL, setW, iVar, iC, iNil, iCons, iTup, iLst, nLst, iFz, iB, gAdd, gI, gIC, gSub, gMul, gDiv, gMod, gPow, gLt, gLe, gGt, gGe, gEq, gNe, gIn, gIsN, isN, iNeg, tTru', gTru, tBl, iChain, tAnd', tOr', tNot', tYes', iIf, iAnd, iOr, iNot, iIx, gIx, atW, iIxO, ownL, oNone, oSome, iSl, gSl, iRevL, iCall, nCall, iFn, Sh.R.fz, SO.fz, Stt.put, Stt.puts, iMtO, gAppend, gInsert, gExtend, gLen, iLenO, gAbs, gInt, gMinMax, gList, gTuple, iListRg, gIsi, tyN, gRepr, flatW, eqW, okD, eqOk, cut_13, cut_1_2, cut_1_3, cut_m2, cut_m3, cut_m4, atI_m2, atI_m3, atI_m4, iOfT, tKdIn, iKdIx, atI_0, atI_1, atI_2, atI_3, ixN_4_0, ixN_4_1, ixN_4_2, ixN_4_3, Sto.put_same, Sto.put_put, toNat_2, List.map, List.replicate, List.length_cons, List.length_nil, List.getElem?_cons_zero, List.getElem?_cons_succ, List.getElem?_nil, List.set_cons_zero, List.set_cons_succ, List.set_nil, List.cons_append, List.nil_append, List.append_nil, if_true, if_false, Call.w]
      refine ⟨trivial, rfl, ifF ?_ ⟨trivial, ifF (by decide) hn⟩⟩
      rw [inW_two, decide_eq_true (by omega)]
      rfl
  | front g h =>
    refine seq_same (fun nx h => skip _ _ sNext nx (by simp only [Call.word]; decide) h) (seq_same (fun nx h => skip _ _ sNext nx (by simp only [Call.word]; decide) h) (seq_same (fun nx h => skip _ _ sNext nx (by simp only [Call.word]; decide) h) (seq_same (fun nx h => skip _ _ sNext nx (by simp only [Call.word]; decide) h) (seq_end fun nx => ?_))))
    refine ⟨rfl, rfl, ifT (by decide) ?_⟩
    by_cases a : f ≠ g ∧ f ≠ h
    · rw [show mv F R (.front g h) (r, f) = (r, f) from if_pos (.inl a)] at q
      refine seq_end fun nx => ?_
      simp only [bodyI, start0, sSeq, sNext, sNever, sCont, sBreak, sDrop, sRet, sRetN, sRet0, sRetO, sIf, sSet, sSetN, sSetP, sPar, sParEN, sParNE, sPar3, sAsg, gNm, gsNil, gsCons, gTp, sAugI, sIxO, sIxS, sAugS, stoL, setW, iVar, iC, iNil, iCons, iTup, iLst, nLst, iFz, iB, gAdd, gI, gIC, gSub, gMul, gDiv, gMod, gPow, gLt, gLe, gGt, gGe, gEq, gNe, gIn, gIsN, isN, iNeg, tTru', gTru, tBl, iChain, tAnd', tOr', tNot', tYes', iIf, iAnd, iOr, iNot, iIx, gIx, atW, iIxO, ownL, oNone, oSome, iSl, gSl, iRevL, iCall, nCall, iFn, Sh.R.fz, SO.fz, Stt.put, Stt.puts, iMtO, gAppend, gInsert, gExtend, gLen, iLenO, gAbs, gInt, gMinMax, gList, gTuple, iListRg, gIsi, tyN, gRepr, flatW, eqW, okD, eqOk, cut_13, cut_1_2, cut_1_3, cut_m2, cut_m3, cut_m4, atI_m2, atI_m3, atI_m4, iOfT, tKdIn, iKdIx, atI_0, atI_1, atI_2, atI_3, ixN_4_0, ixN_4_1, ixN_4_2, ixN_4_3, Sto.put_same, Sto.put_put, toNat_2, List.map, List.replicate, List.length_cons, List.length_nil, List.getElem?_cons_zero, List.getElem?_cons_succ, List.getElem?_nil, List.set_cons_zero, List.set_cons_succ, List.set_nil, List.cons_append, List.nil_append, List.append_nil, if_true, if_false, Call.w]
      refine ⟨trivial, rfl, ifT ?_ q⟩
      rw [inW_two, decide_eq_false (by omega)]
      rfl
    · have key : inW (.int f) [.int g, .int h] = true := by rw [inW_two, decide_eq_true (by omega)]
      by_cases b : 0 < r
      · rw [show mv F R (.front g h) (r, f) = (r, f) from if_pos (.inr b)] at q
        refine seq_end fun nx => ?_
        simp only [bodyI, start0, sSeq, sNext, sNever, sCont, sBreak, sDrop, sRet, sRetN, sRet0, sRetO, sIf, sSet, sSetN, sSetP, sPar, sParEN, sParNE, sPar3, sAsg, gNm, gsNil, gsCons, gTp, sAugI, sIxO, sIxS, sAugS, stoL, setW, iVar, iC, iNil, iCons, iTup, iLst, nLst, iFz, iB, gAdd, gI, gIC, gSub, gMul, gDiv, gMod, gPow, gLt, gLe, gGt, gGe, gEq, gNe, gIn, gIsN, isN, iNeg, tTru', gTru, tBl, iChain, tAnd', tOr', tNot', tYes', iIf, iAnd, iOr, iNot, iIx, gIx, atW, iIxO, ownL, oNone, oSome, iSl, gSl, iRevL, iCall, nCall, iFn, Sh.R.fz, SO.fz, Stt.put, Stt.puts, iMtO, gAppend, gInsert, gExtend, gLen, iLenO, gAbs, gInt, gMinMax, gList, gTuple, iListRg, gIsi, tyN, gRepr, flatW, eqW, okD, eqOk, cut_13, cut_1_2, cut_1_3, cut_m2, cut_m3, cut_m4, atI_m2, atI_m3, atI_m4, iOfT, tKdIn, iKdIx, atI_0, atI_1, atI_2, atI_3, ixN_4_0, ixN_4_1, ixN_4_2, ixN_4_3, Sto.put_same, Sto.put_put, toNat_2, List.map, List.replicate, List.length_cons, List.length_nil, List.getElem?_cons_zero, List.getElem?_cons_succ, List.getElem?_nil, List.set_cons_zero, List.set_cons_succ, List.set_nil, List.cons_append, List.nil_append, List.append_nil, if_true, if_false, Call.w]
        refine ⟨trivial, rfl, ifF (by rw [key]; rfl) ⟨trivial, ifT (by decide) (ifT (decide_eq_true b) q)⟩⟩
      · rw [show mv F R (.front g h) (r, f) = _ from if_neg (fun z => z.elim a b)] at q
        refine seq_same (fun nx hn => ?_) (fin "front" g h rfl q)
        simp only [bodyI, start0, sSeq, sNext, sNever, sCont, sBreak, sDrop, sRet, sRetN, sRet0, sRetO, sIf, sSet, sSetN, sSetP, sPar, sParEN, sParNE, sPar3, sAsg, gNm, gsNil, gsCons, gTp, sAugI, sIxO, sIxS, sAugS, stoL, setW, iVar, iC, iNil, iCons, iTup, iLst, nLst, iFz, iB, gAdd, gI, gIC, gSub, gMul, gDiv, gMod, gPow, gLt, gLe, gGt, gGe, gEq, gNe, gIn, gIsN, isN, iNeg, tTru', gTru, tBl, iChain, tAnd', tOr', tNot', tYes', iIf, iAnd, iOr, iNot, iIx, gIx, atW, iIxO, ownL, oNone, oSome, iSl, gSl, iRevL, iCall, nCall, iFn, Sh.R.fz, SO.fz, Stt.put, Stt.puts, iMtO, gAppend, gInsert, gExtend, gLen, iLenO, gAbs, gInt, gMinMax, gList, gTuple, iListRg, gIsi, tyN, gRepr, flatW, eqW, okD, eqOk, cut_13, cut_1_2, cut_1_3, cut_m2, cut_m3, cut_m4, atI_m2, atI_m3, atI_m4, iOfT, tKdIn, iKdIx, atI_0, atI_1, atI_2, atI_3, ixN_4_0, ixN_4_1, ixN_4_2, ixN_4_3, Sto.put_same, Sto.put_put, toNat_2, List.map, List.replicate, List.length_cons, List.length_nil, List.getElem?_cons_zero, List.getElem?_cons_succ, List.getElem?_nil, List.set_cons_zero, List.set_cons_succ, List.set_nil, List.cons_append, List.nil_append, List.append_nil, if_true, if_false, Call.w]
        exact ⟨trivial, rfl, ifF (by rw [key]; rfl) ⟨trivial, ifT (by decide) (ifF (decide_eq_false b) hn)⟩⟩
  | halve => exact seq_same (fun nx h => skip _ _ sNext nx (by simp only [Call.word]; decide) h) (seq_same (fun nx h => skip _ _ sNext nx (by simp only [Call.word]; decide) h) (seq_same (fun nx h => skip _ _ sNext nx (by simp only [Call.word]; decide) h) (seq_same (fun nx h => skip _ _ sNext nx (by simp only [Call.word]; decide) h) (seq_same (fun nx h => skip2 _ sNext nx (by decide) (by decide) h) (opn rfl)))))
  | pair => exact seq_same (fun nx h => skip _ _ sNext nx (by simp only [Call.word]; decide) h) (seq_same (fun nx h => skip _ _ sNext nx (by simp only [Call.word]; decide) h) (seq_same (fun nx h => skip _ _ sNext nx (by simp only [Call.word]; decide) h) (seq_same (fun nx h => skip _ _ sNext nx (by simp only [Call.word]; decide) h) (seq_same (fun nx h => skip2 _ sNext nx (by decide) (by decide) h) (opn rfl)))))
  | others => exact seq_same (fun nx h => skip _ _ sNext nx (by simp only [Call.word]; decide) h) (seq_same (fun nx h => skip _ _ sNext nx (by simp only [Call.word]; decide) h) (seq_same (fun nx h => skip _ _ sNext nx (by simp only [Call.word]; decide) h) (seq_same (fun nx h => skip _ _ sNext nx (by simp only [Call.word]; decide) h) (seq_same (fun nx h => skip2 _ sNext nx (by decide) (by decide) h) (opn rfl)))))
  | fill => exact seq_same (fun nx h => skip _ _ sNext nx (by simp only [Call.word]; decide) h) (seq_same (fun nx h => skip _ _ sNext nx (by simp only [Call.word]; decide) h) (seq_same (fun nx h => skip _ _ sNext nx (by simp only [Call.word]; decide) h) (seq_same (fun nx h => skip _ _ sNext nx (by simp only [Call.word]; decide) h) (seq_same (fun nx h => skip2 _ sNext nx (by decide) (by decide) h) (opn rfl)))))
def kC_BY_NUMBER : W := .tup [.str "all", .str "up", .str "wheel"]
def Call.tn : Call → Call
  | .all k => .all (-k)
  | .up f k => .up f (-k)
  | .wheel f g k => .wheel f g (-k)
  | .halve => .pair
  | .pair => .halve
  | .others => .fill
  | .fill => .others
  | c => c
section
variable {F R : Int}
theorem ring_back {a k m : Int} (h0 : 0 ≤ a) (h1 : a < m) : ((a + k) % m + -k) % m = a := by
  have c : Cg m ((a + k) % m + -k) a := ((cg_mod m (a + k)).add (.refl (-k))).trans ⟨0, by grind⟩
  exact ((cg_mod m _).trans c).eq (Int.emod_nonneg _ (by omega)) (Int.emod_lt_of_pos _ (by omega)) h0 h1
theorem ring_back' {a k m : Int} (h0 : 0 ≤ a) (h1 : a < m) : ((a - k) % m - -k) % m = a := by
  have c : Cg m ((a - k) % m - -k) a := by
    have := (cg_mod m (a - k)).add (.refl k)
    rw [Int.sub_neg]
    exact this.trans ⟨0, by grind⟩
  exact ((cg_mod m _).trans c).eq (Int.emod_nonneg _ (by omega)) (Int.emod_lt_of_pos _ (by omega)) h0 h1
theorem num_in {r f : Int} (h : At F R (r, f)) : 0 ≤ r * F + f ∧ r * F + f < F * R := by
  obtain ⟨r0, r1, f0, f1⟩ := h
  simp only at r0 r1 f0 f1
  have a := Int.mul_nonneg r0 (show 0 ≤ F by omega)
  have b : r * F ≤ (R - 1) * F := Int.mul_le_mul_of_nonneg_right (by omega) (by omega)
  have e : (R - 1) * F = F * R - F := by grind
  omega
theorem at_swap {r f : Int} (h : At F R (r, f)) : At R F (f, r) := ⟨h.2.2.1, h.2.2.2, h.1, h.2.1⟩
theorem divmod_of {r f m : Int} (f0 : 0 ≤ f) (f1 : f < m) : (r * m + f) / m = r ∧ (r * m + f) % m = f := by
  constructor
  · rw [Int.add_comm, Int.add_mul_ediv_right _ _ (by omega), Int.ediv_eq_zero_of_lt f0 f1]; omega
  · rw [Int.add_comm, Int.add_mul_emod_self_right, Int.emod_eq_of_lt f0 f1]
theorem whl_seat {g h k s : Int} (hR : 0 < R) (hgh : g ≠ h) (s0 : 0 ≤ s) (s1 : s < 2 * R) : whl R g h k (if s < R then (R - 1 - s, g) else (s - R, h)) = (let t := (s + k) % (2 * R); if t < R then (R - 1 - t, g) else (t - R, h)) := by
  unfold whl
  by_cases z : s < R
  · rw [if_pos z]
    have e : (if (R - 1 - s, g).2 = g then R - 1 - (R - 1 - s, g).1 else R + (R - 1 - s, g).1) = s := by
      rw [if_pos rfl]
      show R - 1 - (R - 1 - s) = s
      omega
    rw [if_neg (fun y => y.1 rfl), e]
  · rw [if_neg z]
    have e : (if (s - R, h).2 = g then R - 1 - (s - R, h).1 else R + (s - R, h).1) = s := by
      rw [if_neg (show ¬ h = g from fun y => hgh y.symm)]
      show R + (s - R) = s
      omega
    rw [if_neg (fun y => y.2 rfl), e]
theorem whl_of {g h : Int} {p : Int × Int} (hR : 0 < R) (hgh : g ≠ h) (p0 : 0 ≤ p.1) (p1 : p.1 < R) (hp : ¬ (p.2 ≠ g ∧ p.2 ≠ h)) : ∃ s, 0 ≤ s ∧ s < 2 * R ∧ p = (if s < R then (R - 1 - s, g) else (s - R, h)) := by
  by_cases z : p.2 = g
  · refine ⟨R - 1 - p.1, by omega, by omega, ?_⟩
    rw [if_pos (by omega)]
    exact Prod.ext (by simp only; omega) z
  · refine ⟨R + p.1, by omega, by omega, ?_⟩
    rw [if_neg (by omega)]
    exact Prod.ext (by simp only; omega) (by simp only; omega)
theorem mv_in {c : Call} {p : Int × Int} (hF : 0 < F) (hR : 0 < R) (hc : c.ok F) (h : At F R p) : At F R (mv F R c p) := by
  obtain ⟨r, f⟩ := p
  have h' := h
  obtain ⟨r0, r1, f0, f1⟩ := h'
  simp only at r0 r1 f0 f1
  cases c with
  | all k => exact ⟨Int.emod_nonneg _ (by omega), Int.emod_lt_of_pos _ hR, f0, f1⟩
  | up g k =>
    show At F R (if f = g then ((r - k) % R, f) else (r, f))
    split
    · exact ⟨Int.emod_nonneg _ (by omega), Int.emod_lt_of_pos _ hR, f0, f1⟩
    · exact h
  | about =>
    refine ⟨?_, ?_, ?_, ?_⟩
    · show 0 ≤ R - 1 - r
      omega
    · show R - 1 - r < R
      omega
    · show 0 ≤ F - 1 - f
      omega
    · show F - 1 - f < F
      omega
  | wheel g h2 k =>
    obtain ⟨g0, g1, h0, h1, gh⟩ := hc
    show At F R (whl R g h2 k (r, f))
    unfold whl
    split
    · exact h
    · have s0 := Int.emod_nonneg ((if f = g then R - 1 - r else R + r) + k) (show (2 * R) ≠ 0 by omega)
      have s1 := Int.emod_lt_of_pos ((if f = g then R - 1 - r else R + r) + k) (show 0 < 2 * R by omega)
      simp only
      generalize ((if f = g then R - 1 - r else R + r) + k) % (2 * R) = s at *
      split
      · exact ⟨by simp only; omega, by simp only; omega, g0, g1⟩
      · exact ⟨by simp only; omega, by simp only; omega, h0, h1⟩
  | swap g h2 =>
    obtain ⟨g0, g1, h0, h1, gh⟩ := hc
    show At F R (if f ≠ g ∧ f ≠ h2 then (r, f) else (r, if f = g then h2 else g))
    split
    · exact h
    · split
      · exact ⟨r0, r1, h0, h1⟩
      · exact ⟨r0, r1, g0, g1⟩
  | front g h2 =>
    obtain ⟨g0, g1, h0, h1, gh⟩ := hc
    show At F R (if (f ≠ g ∧ f ≠ h2) ∨ 0 < r then (r, f) else (r, if f = g then h2 else g))
    split
    · exact h
    · split
      · exact ⟨r0, r1, h0, h1⟩
      · exact ⟨r0, r1, g0, g1⟩
  | halve =>
    obtain ⟨n0, n1⟩ := num_in h
    exact ⟨Int.emod_nonneg _ (by omega), Int.emod_lt_of_pos _ hR, Int.ediv_nonneg n0 (by omega), Int.ediv_lt_of_lt_mul hR n1⟩
  | pair =>
    obtain ⟨n0, n1⟩ := num_in (at_swap h)
    exact ⟨Int.ediv_nonneg n0 (by omega), Int.ediv_lt_of_lt_mul hF n1, Int.emod_nonneg _ (by omega), Int.emod_lt_of_pos _ hF⟩
  | others =>
    show At F R (if r % 2 = 0 then (r / 2, f) else ((R + 1) / 2 + r / 2, f))
    split
    · exact ⟨by simp only; omega, by simp only; omega, f0, f1⟩
    · exact ⟨by simp only; omega, by simp only; omega, f0, f1⟩
  | fill =>
    show At F R (if r < (R + 1) / 2 then (2 * r, f) else (2 * (r - (R + 1) / 2) + 1, f))
    split
    · exact ⟨by simp only; omega, by simp only; omega, f0, f1⟩
    · exact ⟨by simp only; omega, by simp only; omega, f0, f1⟩
theorem Call.tn_ok {c : Call} (h : c.ok F) : c.tn.ok F := by cases c <;> exact h
theorem mv_tn {c : Call} {p : Int × Int} (hF : 0 < F) (hR : 0 < R) (hc : c.ok F) (h : At F R p) : mv F R c.tn (mv F R c p) = p := by
  obtain ⟨r, f⟩ := p
  have h' := h
  obtain ⟨r0, r1, f0, f1⟩ := h'
  simp only at r0 r1 f0 f1
  cases c with
  | all k => exact Prod.ext (ring_back' r0 r1) rfl
  | up g k =>
    show mv F R (.up g (-k)) (if f = g then ((r - k) % R, f) else (r, f)) = (r, f)
    by_cases z : f = g
    · rw [if_pos z]
      show (if f = g then (((r - k) % R - -k) % R, f) else ((r - k) % R, f)) = (r, f)
      rw [if_pos z, ring_back' r0 r1]
    · rw [if_neg z]
      exact if_neg z
  | about =>
    refine Prod.ext ?_ ?_
    · show R - 1 - (R - 1 - r) = r
      omega
    · show F - 1 - (F - 1 - f) = f
      omega
  | wheel g h2 k =>
    obtain ⟨g0, g1, h0, h1, gh⟩ := hc
    show whl R g h2 (-k) (whl R g h2 k (r, f)) = (r, f)
    by_cases z : f ≠ g ∧ f ≠ h2
    · rw [show whl R g h2 k (r, f) = (r, f) from if_pos z]
      exact if_pos z
    · obtain ⟨s, s0, s1, e⟩ := whl_of (p := (r, f)) hR gh r0 r1 z
      rw [e, whl_seat hR gh s0 s1]
      simp only
      rw [whl_seat hR gh (Int.emod_nonneg _ (by omega)) (Int.emod_lt_of_pos _ (by omega)), ring_back s0 s1]
  | swap g h2 =>
    obtain ⟨g0, g1, h0, h1, gh⟩ := hc
    show mv F R (.swap g h2) (if f ≠ g ∧ f ≠ h2 then (r, f) else (r, if f = g then h2 else g)) = (r, f)
    by_cases z : f ≠ g ∧ f ≠ h2
    · rw [if_pos z]
      exact if_pos z
    · rw [if_neg z]
      by_cases y : f = g
      · rw [if_pos y]
        show (if h2 ≠ g ∧ h2 ≠ h2 then (r, h2) else (r, if h2 = g then h2 else g)) = (r, f)
        rw [if_neg (by omega), if_neg (fun e => gh e.symm), y]
      · rw [if_neg y]
        show (if g ≠ g ∧ g ≠ h2 then (r, g) else (r, if g = g then h2 else g)) = (r, f)
        rw [if_neg (by omega), if_pos rfl]
        exact Prod.ext rfl (by simp only; omega)
  | front g h2 =>
    obtain ⟨g0, g1, h0, h1, gh⟩ := hc
    show mv F R (.front g h2) (if (f ≠ g ∧ f ≠ h2) ∨ 0 < r then (r, f) else (r, if f = g then h2 else g)) = (r, f)
    by_cases z : (f ≠ g ∧ f ≠ h2) ∨ 0 < r
    · rw [if_pos z]
      exact if_pos z
    · rw [if_neg z]
      by_cases y : f = g
      · rw [if_pos y]
        show (if (h2 ≠ g ∧ h2 ≠ h2) ∨ 0 < r then (r, h2) else (r, if h2 = g then h2 else g)) = (r, f)
        rw [if_neg (by omega), if_neg (fun e => gh e.symm), y]
      · rw [if_neg y]
        show (if (g ≠ g ∧ g ≠ h2) ∨ 0 < r then (r, g) else (r, if g = g then h2 else g)) = (r, f)
        rw [if_neg (by omega), if_pos rfl]
        exact Prod.ext rfl (by simp only; omega)
  | halve =>
    have e := Int.mul_ediv_add_emod (r * F + f) R
    show (((r * F + f) / R * R + (r * F + f) % R) / F, ((r * F + f) / R * R + (r * F + f) % R) % F) = (r, f)
    rw [Int.mul_comm, e, (divmod_of f0 f1).1, (divmod_of f0 f1).2]
  | pair =>
    have e := Int.mul_ediv_add_emod (f * R + r) F
    show (((f * R + r) / F * F + (f * R + r) % F) % R, ((f * R + r) / F * F + (f * R + r) % F) / R) = (r, f)
    rw [Int.mul_comm, e, (divmod_of r0 r1).1, (divmod_of r0 r1).2]
  | others =>
    show mv F R .fill (if r % 2 = 0 then (r / 2, f) else ((R + 1) / 2 + r / 2, f)) = (r, f)
    by_cases z : r % 2 = 0
    · rw [if_pos z]
      show (if r / 2 < (R + 1) / 2 then (2 * (r / 2), f) else (2 * (r / 2 - (R + 1) / 2) + 1, f)) = (r, f)
      rw [if_pos (by omega)]
      exact Prod.ext (by simp only; omega) rfl
    · rw [if_neg z]
      show (if (R + 1) / 2 + r / 2 < (R + 1) / 2 then (2 * ((R + 1) / 2 + r / 2), f) else (2 * ((R + 1) / 2 + r / 2 - (R + 1) / 2) + 1, f)) = (r, f)
      rw [if_neg (by omega)]
      exact Prod.ext (by simp only; omega) rfl
  | fill =>
    show mv F R .others (if r < (R + 1) / 2 then (2 * r, f) else (2 * (r - (R + 1) / 2) + 1, f)) = (r, f)
    by_cases z : r < (R + 1) / 2
    · rw [if_pos z]
      show (if 2 * r % 2 = 0 then (2 * r / 2, f) else ((R + 1) / 2 + 2 * r / 2, f)) = (r, f)
      rw [if_pos (by omega)]
      exact Prod.ext (by simp only; omega) rfl
    · rw [if_neg z]
      show (if (2 * (r - (R + 1) / 2) + 1) % 2 = 0 then ((2 * (r - (R + 1) / 2) + 1) / 2, f) else ((R + 1) / 2 + (2 * (r - (R + 1) / 2) + 1) / 2, f)) = (r, f)
      rw [if_neg (by omega)]
      exact Prod.ext (by simp only; omega) rfl
end
local macro_rules | `(tactic| walk_at "r") => `(tactic| simp (decide := true) only [bodyI, start0, sSeq, sNext, sNever, sCont, sBreak, sDrop, sRet, sRetN, sRet0, sRetO, sIf, sSet, sSetN, sSetP, sPar, sParEN, sParNE, sPar3, sAsg, gNm, gsNil, gsCons, gTp, sAugI, sIxO, sIxS, sAugS, stoL, setW, iVar, iC, iNil, iCons, iTup, iLst, nLst, iFz, iB, gAdd, gI, gIC, gSub, gMul, gDiv, gMod, gPow, gLt, gLe, gGt, gGe, gEq, gNe, gIn, gIsN, isN, iNeg, tTru', gTru, tBl, iChain, tAnd', tOr', tNot', tYes', iIf, iAnd, iOr, iNot, iIx, gIx, atW, iIxO, ownL, oNone, oSome, iSl, gSl, iRevL, iCall, nCall, iFn, Stt.put, Stt.puts, iMtO, gAppend, gInsert, gExtend, gLen, iLenO, gAbs, gInt, gMinMax, gList, gTuple, iListRg, gIsi, tyN, gRepr, cut_13, cut_1_2, cut_1_3, cut_m2, cut_m3, cut_m4, atI_m2, atI_m3, atI_m4, iOfT, tKdIn, iKdIx, atI_0, atI_1, atI_2, atI_3, ixN_4_0, ixN_4_1, ixN_4_2, ixN_4_3, Sto.put_same, Sto.put_put, toNat_2, List.map, List.replicate, List.length_cons, List.length_nil, List.getElem?_cons_zero, List.getElem?_cons_succ, List.getElem?_nil, List.set_cons_zero, List.set_cons_succ, List.set_nil, List.cons_append, List.nil_append, List.append_nil, if_true, if_false, fz_val, fz_new, so_lst, so_dct, so_ins, eqW_ii, eqW_ss, eqW_tt, eqW_ll, eqW_nn, eqW_bb, eqW_ni, eqW_in, eqW_nt, eqW_tn, eqW_nl, eqW_ln, eqW_is, eqW_si, eqWs_nil, eqWs_cons, eqWs_nc, eqWs_cn, okD_int, okD_str, okD_bl, okD_non, okD_tup, okD_lst, eqOk_ii, eqOk_ss, eqOk_nn, eqOk_bb, eqOk_in, eqOk_ni, eqOk_tt, eqOk_ll, flatW_int, flatW_str, flatW_bl, flatW_non, inW, List.any_cons, List.any_nil, List.all_cons, List.all_nil, Bool.or_false, Bool.or_true, Bool.true_or, Bool.false_or, Bool.and_true, Bool.true_and, Bool.and_false, Bool.false_and, Bool.not_true, Bool.not_false, Bool.false_eq_true, true_and, and_true, beq_self_eq_true, List.isEmpty_cons, List.isEmpty_nil, Int.reduceNeg, eq_self, forall_const, iFld, objOf, iProp, iMeth, nMake, iInv, iMulM, iLenM, iIsi, sAtt, iRevT, lIter, nRep, lEnum, lZip, iEqM, gOwn, iDGet2, iAddO, nDisp, nDNew, iPairs, keysW, keyW, nFn, gListN, nListRg, iTupRg, nIf, sParM, iItems, putsR, Sh.R.slot, gIsB, isB, iPeek, tPeek, iPeekS, Stt.ps, noOwn, gInD, nPeek, Stt.pk, frzS, plainW, plainWs, tyS, tyIn, cOk, isAny, isOne, Option.map_some, lk_ne, List.lookup_nil, putW, lk_self, iXf, iIsE, Hnd.w, sRaise1, sRaise0, sTryE, gMax3, gEqN, gReprN, iIdxT, iIdxL, iInRg, nListM, iBR, iFnR, iPub, iMtR, drW, drWs, nOwn, nMeth, nSl, nAdd, nAddO, iMtN, sAugL, gSortedG, tTruO, refW_tup, refW_lst, refW_dct, refW_int, refW_str, refW_bl, refW_non])
local macro_rules | `(tactic| walk_at "rsFor_lSeq_gItems") => `(tactic| simp (decide := true) only [bodyI, start0, sSeq, sNext, sNever, sCont, sBreak, sDrop, sRet, sRetN, sRet0, sRetO, sIf, sSet, sSetN, sSetP, sPar, sParEN, sParNE, sPar3, sAsg, gNm, gsNil, gsCons, gTp, sAugI, sIxO, sIxS, sAugS, stoL, setW, iVar, iC, iNil, iCons, iTup, iLst, nLst, iFz, iB, gAdd, gI, gIC, gSub, gMul, gDiv, gMod, gPow, gLt, gLe, gGt, gGe, gEq, gNe, gIn, gIsN, isN, iNeg, tTru', gTru, tBl, iChain, tAnd', tOr', tNot', tYes', iIf, iAnd, iOr, iNot, iIx, gIx, atW, iIxO, ownL, oNone, oSome, iSl, gSl, iRevL, iCall, nCall, iFn, Stt.put, Stt.puts, iMtO, gAppend, gInsert, gExtend, gLen, iLenO, gAbs, gInt, gMinMax, gList, gTuple, iListRg, gIsi, tyN, gRepr, cut_13, cut_1_2, cut_1_3, cut_m2, cut_m3, cut_m4, atI_m2, atI_m3, atI_m4, iOfT, tKdIn, iKdIx, atI_0, atI_1, atI_2, atI_3, ixN_4_0, ixN_4_1, ixN_4_2, ixN_4_3, Sto.put_same, Sto.put_put, toNat_2, List.map, List.replicate, List.length_cons, List.length_nil, List.getElem?_cons_zero, List.getElem?_cons_succ, List.getElem?_nil, List.set_cons_zero, List.set_cons_succ, List.set_nil, List.cons_append, List.nil_append, List.append_nil, if_true, if_false, fz_val, fz_new, so_lst, so_dct, so_ins, eqW_ii, eqW_ss, eqW_tt, eqW_ll, eqW_nn, eqW_bb, eqW_ni, eqW_in, eqW_nt, eqW_tn, eqW_nl, eqW_ln, eqW_is, eqW_si, eqWs_nil, eqWs_cons, eqWs_nc, eqWs_cn, okD_int, okD_str, okD_bl, okD_non, okD_tup, okD_lst, eqOk_ii, eqOk_ss, eqOk_nn, eqOk_bb, eqOk_in, eqOk_ni, eqOk_tt, eqOk_ll, flatW_int, flatW_str, flatW_bl, flatW_non, inW, List.any_cons, List.any_nil, List.all_cons, List.all_nil, Bool.or_false, Bool.or_true, Bool.true_or, Bool.false_or, Bool.and_true, Bool.true_and, Bool.and_false, Bool.false_and, Bool.not_true, Bool.not_false, Bool.false_eq_true, true_and, and_true, beq_self_eq_true, List.isEmpty_cons, List.isEmpty_nil, Int.reduceNeg, eq_self, forall_const, iFld, objOf, iProp, iMeth, nMake, iInv, iMulM, iLenM, iIsi, sAtt, iRevT, lIter, nRep, lEnum, lZip, iEqM, gOwn, iDGet2, iAddO, nDisp, nDNew, iPairs, keysW, keyW, nFn, gListN, nListRg, iTupRg, nIf, sParM, iItems, putsR, Sh.R.slot, gIsB, isB, iPeek, tPeek, iPeekS, Stt.ps, noOwn, gInD, nPeek, Stt.pk, frzS, plainW, plainWs, tyS, tyIn, cOk, isAny, isOne, Option.map_some, lk_ne, List.lookup_nil, putW, lk_self, iXf, iIsE, Hnd.w, sRaise1, sRaise0, sTryE, gMax3, gEqN, gReprN, iIdxT, iIdxL, iInRg, nListM, iBR, iFnR, iPub, iMtR, drW, drWs, nOwn, nMeth, nSl, nAdd, nAddO, iMtN, sAugL, gSortedG, tTruO, refW_tup, refW_lst, refW_dct, refW_int, refW_str, refW_bl, refW_non, sFor, lSeq, gItems])
local macro_rules | `(tactic| walk_at "rsFor_lRange1") => `(tactic| simp (decide := true) only [bodyI, start0, sSeq, sNext, sNever, sCont, sBreak, sDrop, sRet, sRetN, sRet0, sRetO, sIf, sSet, sSetN, sSetP, sPar, sParEN, sParNE, sPar3, sAsg, gNm, gsNil, gsCons, gTp, sAugI, sIxO, sIxS, sAugS, stoL, setW, iVar, iC, iNil, iCons, iTup, iLst, nLst, iFz, iB, gAdd, gI, gIC, gSub, gMul, gDiv, gMod, gPow, gLt, gLe, gGt, gGe, gEq, gNe, gIn, gIsN, isN, iNeg, tTru', gTru, tBl, iChain, tAnd', tOr', tNot', tYes', iIf, iAnd, iOr, iNot, iIx, gIx, atW, iIxO, ownL, oNone, oSome, iSl, gSl, iRevL, iCall, nCall, iFn, Stt.put, Stt.puts, iMtO, gAppend, gInsert, gExtend, gLen, iLenO, gAbs, gInt, gMinMax, gList, gTuple, iListRg, gIsi, tyN, gRepr, cut_13, cut_1_2, cut_1_3, cut_m2, cut_m3, cut_m4, atI_m2, atI_m3, atI_m4, iOfT, tKdIn, iKdIx, atI_0, atI_1, atI_2, atI_3, ixN_4_0, ixN_4_1, ixN_4_2, ixN_4_3, Sto.put_same, Sto.put_put, toNat_2, List.map, List.replicate, List.length_cons, List.length_nil, List.getElem?_cons_zero, List.getElem?_cons_succ, List.getElem?_nil, List.set_cons_zero, List.set_cons_succ, List.set_nil, List.cons_append, List.nil_append, List.append_nil, if_true, if_false, fz_val, fz_new, so_lst, so_dct, so_ins, eqW_ii, eqW_ss, eqW_tt, eqW_ll, eqW_nn, eqW_bb, eqW_ni, eqW_in, eqW_nt, eqW_tn, eqW_nl, eqW_ln, eqW_is, eqW_si, eqWs_nil, eqWs_cons, eqWs_nc, eqWs_cn, okD_int, okD_str, okD_bl, okD_non, okD_tup, okD_lst, eqOk_ii, eqOk_ss, eqOk_nn, eqOk_bb, eqOk_in, eqOk_ni, eqOk_tt, eqOk_ll, flatW_int, flatW_str, flatW_bl, flatW_non, inW, List.any_cons, List.any_nil, List.all_cons, List.all_nil, Bool.or_false, Bool.or_true, Bool.true_or, Bool.false_or, Bool.and_true, Bool.true_and, Bool.and_false, Bool.false_and, Bool.not_true, Bool.not_false, Bool.false_eq_true, true_and, and_true, beq_self_eq_true, List.isEmpty_cons, List.isEmpty_nil, Int.reduceNeg, eq_self, forall_const, iFld, objOf, iProp, iMeth, nMake, iInv, iMulM, iLenM, iIsi, sAtt, iRevT, lIter, nRep, lEnum, lZip, iEqM, gOwn, iDGet2, iAddO, nDisp, nDNew, iPairs, keysW, keyW, nFn, gListN, nListRg, iTupRg, nIf, sParM, iItems, putsR, Sh.R.slot, gIsB, isB, iPeek, tPeek, iPeekS, Stt.ps, noOwn, gInD, nPeek, Stt.pk, frzS, plainW, plainWs, tyS, tyIn, cOk, isAny, isOne, Option.map_some, lk_ne, List.lookup_nil, putW, lk_self, iXf, iIsE, Hnd.w, sRaise1, sRaise0, sTryE, gMax3, gEqN, gReprN, iIdxT, iIdxL, iInRg, nListM, iBR, iFnR, iPub, iMtR, drW, drWs, nOwn, nMeth, nSl, nAdd, nAddO, iMtN, sAugL, gSortedG, tTruO, refW_tup, refW_lst, refW_dct, refW_int, refW_str, refW_bl, refW_non, sFor, lRange1])
local macro_rules | `(tactic| walk_at "rnLc_lRange1") => `(tactic| simp (decide := true) only [bodyI, start0, sSeq, sNext, sNever, sCont, sBreak, sDrop, sRet, sRetN, sRet0, sRetO, sIf, sSet, sSetN, sSetP, sPar, sParEN, sParNE, sPar3, sAsg, gNm, gsNil, gsCons, gTp, sAugI, sIxO, sIxS, sAugS, stoL, setW, iVar, iC, iNil, iCons, iTup, iLst, nLst, iFz, iB, gAdd, gI, gIC, gSub, gMul, gDiv, gMod, gPow, gLt, gLe, gGt, gGe, gEq, gNe, gIn, gIsN, isN, iNeg, tTru', gTru, tBl, iChain, tAnd', tOr', tNot', tYes', iIf, iAnd, iOr, iNot, iIx, gIx, atW, iIxO, ownL, oNone, oSome, iSl, gSl, iRevL, iCall, nCall, iFn, Stt.put, Stt.puts, iMtO, gAppend, gInsert, gExtend, gLen, iLenO, gAbs, gInt, gMinMax, gList, gTuple, iListRg, gIsi, tyN, gRepr, cut_13, cut_1_2, cut_1_3, cut_m2, cut_m3, cut_m4, atI_m2, atI_m3, atI_m4, iOfT, tKdIn, iKdIx, atI_0, atI_1, atI_2, atI_3, ixN_4_0, ixN_4_1, ixN_4_2, ixN_4_3, Sto.put_same, Sto.put_put, toNat_2, List.map, List.replicate, List.length_cons, List.length_nil, List.getElem?_cons_zero, List.getElem?_cons_succ, List.getElem?_nil, List.set_cons_zero, List.set_cons_succ, List.set_nil, List.cons_append, List.nil_append, List.append_nil, if_true, if_false, fz_val, fz_new, so_lst, so_dct, so_ins, eqW_ii, eqW_ss, eqW_tt, eqW_ll, eqW_nn, eqW_bb, eqW_ni, eqW_in, eqW_nt, eqW_tn, eqW_nl, eqW_ln, eqW_is, eqW_si, eqWs_nil, eqWs_cons, eqWs_nc, eqWs_cn, okD_int, okD_str, okD_bl, okD_non, okD_tup, okD_lst, eqOk_ii, eqOk_ss, eqOk_nn, eqOk_bb, eqOk_in, eqOk_ni, eqOk_tt, eqOk_ll, flatW_int, flatW_str, flatW_bl, flatW_non, inW, List.any_cons, List.any_nil, List.all_cons, List.all_nil, Bool.or_false, Bool.or_true, Bool.true_or, Bool.false_or, Bool.and_true, Bool.true_and, Bool.and_false, Bool.false_and, Bool.not_true, Bool.not_false, Bool.false_eq_true, true_and, and_true, beq_self_eq_true, List.isEmpty_cons, List.isEmpty_nil, Int.reduceNeg, eq_self, forall_const, iFld, objOf, iProp, iMeth, nMake, iInv, iMulM, iLenM, iIsi, sAtt, iRevT, lIter, nRep, lEnum, lZip, iEqM, gOwn, iDGet2, iAddO, nDisp, nDNew, iPairs, keysW, keyW, nFn, gListN, nListRg, iTupRg, nIf, sParM, iItems, putsR, Sh.R.slot, gIsB, isB, iPeek, tPeek, iPeekS, Stt.ps, noOwn, gInD, nPeek, Stt.pk, frzS, plainW, plainWs, tyS, tyIn, cOk, isAny, isOne, Option.map_some, lk_ne, List.lookup_nil, putW, lk_self, iXf, iIsE, Hnd.w, sRaise1, sRaise0, sTryE, gMax3, gEqN, gReprN, iIdxT, iIdxL, iInRg, nListM, iBR, iFnR, iPub, iMtR, drW, drWs, nOwn, nMeth, nSl, nAdd, nAddO, iMtN, sAugL, gSortedG, tTruO, refW_tup, refW_lst, refW_dct, refW_int, refW_str, refW_bl, refW_non, nLc, lRange1])
def Bg (S : Sto) (a : Addr) : Prop := ∃ o, S a = some o ∧ IsBag o
structure Bx (a : Addr) (S S' : Sto) : Prop where
  bg : Bg S' a
  fr : ∀ b, b ≠ a → S' b = S b
theorem Bx.refl {a : Addr} {S : Sto} (h : Bg S a) : Bx a S S := ⟨h, fun _ _ => rfl⟩
theorem Bx.trans {a : Addr} {S S1 S2 : Sto} (h : Bx a S S1) (k : Bx a S1 S2) : Bx a S S2 := ⟨k.bg, fun b n => (k.fr b n).trans (h.fr b n)⟩
theorem Bx.put {a : Addr} {S : Sto} {o : SO} (h : IsBag o) : Bx a S (S.put a o) := ⟨⟨o, Sto.put_same, h⟩, fun _ n => Sto.put_ne n⟩
theorem bd_of {n : Int} (h0 : -1000000000000 ≤ n) (h1 : n ≤ 1000000000000) : Bd n := by unfold Bd lim; omega
section
variable {a : Addr} {S : Sto} {Q : R → Sto → Prop} {E : Exn → Sto → Prop}
theorem cl_take {n : Int} (hn : 0 < n) (bn : Bd n) (hb : Bg S a) (k : ∀ r S', 0 ≤ r → r < n → Bx a S S' → Q (.val (.int r)) S') : sp_l_take [.ref a, .int n] S Q E := by
  obtain ⟨o, ho, hb⟩ := hb
  exact ⟨a, n, o, rfl, hn, bn, ho, hb, fun r o' r0 r1 hb' => k r _ r0 r1 (.put hb')⟩
theorem cl_one {xs : List W} (hx : xs ≠ []) (hl : xs.length < 1000000000) (hb : Bg S a) (k : ∀ x S', x ∈ xs → Bx a S S' → Q (.val x) S') : sp_l_one [.ref a, .lst xs] S Q E := by
  obtain ⟨o, ho, hb⟩ := hb
  exact ⟨a, xs, o, rfl, hx, hl, ho, hb, fun x o' hx' hb' => k x _ hx' (.put hb')⟩
end
def ib_l_number : IS := (sSeq (sSet 2 (iB gAdd (iC (.int 1)) (iCall sp_l_take (iCons (iVar 0) (iCons (iIx (iLst (iCons (iC (.int 2)) (iCons (iC (.int 4)) (iCons (iC (.int 4)) (iCons (iVar 1) iNil))))) (iCall sp_l_take (iCons (iVar 0) (iCons (iC (.int 4)) iNil)))) iNil)))))
  (sRet (iIf (tBl (iB gEq (iCall sp_l_take (iCons (iVar 0) (iCons (iC (.int 2)) iNil))) (iC (.int 0)))) (iVar 2) (iNeg (iVar 2)))))
def ib_l_mixed_1 : IS := (sDrop (iMtO 2 gInsert (iCons (iCall sp_l_take (iCons (iVar 0) (iCons (iB gAdd (iLenO 2) (iC (.int 1))) iNil))) (iCons (iVar 3) iNil))))
def ib_l_mixed : IS := (sSeq (sSetN 2 (nLst iNil))
  (sSeq (sFor (lSeq (iVar 1)) (gNm 3) ib_l_mixed_1)
  (sRetO 2)))
def ib_l_all_kinds : IS := (sRet (iLst (iCons (iC (.str "all")) (iCons (iC (.str "up")) (iCons (iC (.str "swap")) (iCons (iC (.str "wheel")) (iCons (iC (.str "about")) (iCons (iC (.str "front")) (iCons (iC (.str "halve")) (iCons (iC (.str "pair")) (iCons (iC (.str "others")) (iCons (iC (.str "fill")) iNil))))))))))))
def sp_l_number : ISp := fun ws S Q E => ∃ (a : Addr) (m : Int), ws = [.ref a, .int m] ∧ 0 < m ∧ Bd m ∧ Bg S a ∧ ∀ r S', r ≠ 0 → -(m + 4) ≤ r → r ≤ m + 4 → Bx a S S' → Q (.val (.int r)) S'
theorem ok_l_number (ws : List W) (S : Sto) (Q : R → Sto → Prop) (E : Exn → Sto → Prop) (h : sp_l_number ws S Q E) : bodyI 3 ib_l_number ws S Q E := by
  obtain ⟨a, m, rfl, hm, bm, hb, q⟩ := h
  unfold ib_l_number
  refine seq_go fun nx e => ?_
  walk_at "r"
  refine cl_take (by omega) (bd_of (by omega) (by omega)) hb fun i S1 i0 i1 b1 => ?_
  have hi : i = 0 ∨ i = 1 ∨ i = 2 ∨ i = 3 := by omega
  rcases hi with rfl | rfl | rfl | rfl
  all_goals
    walk_at "r"
    refine cl_take (by omega) (by first | exact bm | exact bd_of (by omega) (by omega)) b1.bg fun r S2 r0 r1 b2 => ?_
    subst e
    walk_at "r"
    refine cl_take (by omega) (bd_of (by omega) (by omega)) b2.bg fun j S3 j0 j1 b3 => ?_
    walk_at "r"
    exact ifb (fun _ => q _ _ (by omega) (by omega) (by omega) ((b1.trans b2).trans b3)) (fun _ => q _ _ (by omega) (by omega) (by omega) ((b1.trans b2).trans b3))
def sp_l_mixed : ISp := fun ws S Q E => ∃ (a : Addr) (xs : List W), ws = [.ref a, .lst xs] ∧ xs.length < 1000000 ∧ Bg S a ∧ ∀ ys S', ys.Perm xs → Bx a S S' → Q (.new (.lst ys)) S'
theorem insert_perm {α : Type} (x : α) : ∀ (l : List α) (i : Nat), (l.take i ++ x :: l.drop i).Perm (x :: l) := fun l i => by
  have := List.perm_middle (a := x) (l₁ := l.take i) (l₂ := l.drop i)
  rw [List.take_append_drop] at this
  exact this
theorem ok_l_mixed (ws : List W) (S : Sto) (Q : R → Sto → Prop) (E : Exn → Sto → Prop) (h : sp_l_mixed ws S Q E) : bodyI 4 ib_l_mixed ws S Q E := by
  obtain ⟨a, xs, rfl, hl, hb, q⟩ := h
  unfold ib_l_mixed
  refine seq_go fun nx e => ?_
  walk_at "r"
  subst e
  refine seq_cut (fun st => ∃ (x3 : Slot) (ys : List W) (S' : Sto), ys.Perm xs ∧ Bx a S S' ∧ st = ⟨[.val (.ref a), .val (.lst xs), .own (.lst ys), x3], S'⟩) (fun nx h => ?_) (fun st ⟨x3, ys, S', hp, hb', es⟩ => ?_)
  · walk_at "rsFor_lSeq_gItems"
    refine for_inv (fun zs st => ∃ (x3 : Slot) (ys : List W) (S' : Sto), (ys ++ zs).Perm xs ∧ Bx a S S' ∧ st = ⟨[.val (.ref a), .val (.lst xs), .own (.lst ys), x3], S'⟩) _ _ ⟨_, [], S, .refl _, .refl hb, rfl⟩ (fun st ⟨x3, ys, S', hp, hb', es⟩ => h _ ⟨x3, ys, S', by rw [List.append_nil] at hp; exact hp, hb', es⟩) fun z zs st nx ⟨x3, ys, S', hp, hb', es⟩ hn => ?_
    subst es
    unfold ib_l_mixed_1
    have hll := hp.length_eq
    rw [List.length_append, List.length_cons] at hll
    walk_at "r"
    refine cl_take (by omega) (bd_of (by omega) (by omega)) hb'.bg fun i S1 i0 i1 b1 => ?_
    walk_at "r"
    refine ⟨by rw [sizeLine_eq]; omega, i0, by omega, hn _ ⟨_, _, S1, ?_, hb'.trans b1, rfl⟩⟩
    refine List.Perm.trans ?_ hp
    rw [List.append_assoc (List.take i.toNat ys), List.singleton_append]
    refine ((insert_perm z ys i.toNat).append_right zs).trans ?_
    exact (List.perm_middle (a := z) (l₁ := ys) (l₂ := zs)).symm
  · subst es
    exact q _ _ hp hb'
theorem rng_nodup (lo : Int) (n : Nat) : (rng lo n).Nodup := by
  unfold rng
  refine List.pairwise_map.mpr (List.Pairwise.imp (fun {x y} h => fun z => h ?_) List.nodup_range)
  injection z with z
  omega
theorem rng_mem' {lo : Int} {n : Nat} {w : W} (h : w ∈ rng lo n) : ∃ i : Int, w = .int i ∧ lo ≤ i ∧ i < lo + n := by
  unfold rng at h
  obtain ⟨i, hi, e⟩ := List.mem_map.mp h
  have := List.mem_range.mp hi
  exact ⟨lo + i, e.symm, by omega, by omega⟩
def ib_l_two : IS := (sSeq (sSet 2 (iCall sp_l_mixed (iCons (iVar 0) (iCons (iListRg (iVar 1)) iNil))))
  (sRet (iTup (iCons (iIx (iVar 2) (iC (.int 0))) (iCons (iIx (iVar 2) (iC (.int 1))) iNil)))))
def sp_l_two : ISp := fun ws S Q E => ∃ (a : Addr) (F : Int), ws = [.ref a, .int F] ∧ 2 ≤ F ∧ F ≤ 3 ∧ Bg S a ∧ ∀ f g S', Two F f g → Bx a S S' → Q (.val (.tup [.int f, .int g])) S'
theorem ok_l_two (ws : List W) (S : Sto) (Q : R → Sto → Prop) (E : Exn → Sto → Prop) (h : sp_l_two ws S Q E) : bodyI 3 ib_l_two ws S Q E := by
  obtain ⟨a, F, rfl, h2, h3, hb, q⟩ := h
  unfold ib_l_two
  refine seq_go fun nx e => ?_
  walk_at "r"
  refine ⟨by omega, by omega, a, _, rfl, by rw [rng_length]; omega, hb, fun ys S' hp b => ?_⟩
  have hl := hp.length_eq
  rw [rng_length] at hl
  have hn := hp.nodup_iff.mpr (rng_nodup 0 F.toNat)
  match ys, hp, hl, hn with
  | [], _, hl, _ => simp only [List.length_nil] at hl; omega
  | [_], _, hl, _ => simp only [List.length_cons, List.length_nil] at hl; omega
  | y :: z :: rest, hp, hl, hn =>
    obtain ⟨f, rfl, f0, f1⟩ := rng_mem' (hp.mem_iff.mp (List.mem_cons_self ..))
    obtain ⟨g, rfl, g0, g1⟩ := rng_mem' (hp.mem_iff.mp (List.mem_cons_of_mem _ (List.mem_cons_self ..)))
    have ne : f ≠ g := fun z => by subst z; exact (List.nodup_cons.mp hn).1 (List.mem_cons_self ..)
    subst e
    walk_at "r"
    exact q f g S' ⟨f0, by omega, g0, by omega, ne⟩ b
def tenW : List Str := ["all", "up", "swap", "wheel", "about", "front", "halve", "pair", "others", "fill"]
/-- what is drawn for k -/
def Call.lt (m : Int) : Call → Prop
  | .all k => k ≠ 0 ∧ -m ≤ k ∧ k ≤ m
  | .up _ k => k ≠ 0 ∧ -m ≤ k ∧ k ≤ m
  | .wheel _ _ k => k ≠ 0 ∧ -m ≤ k ∧ k ≤ m
  | _ => True
def ib_l_call : IS := (sSeq (sSet 4 (iCall sp_l_one (iCons (iVar 0) (iCons (iVar 2) iNil))))
  (sSeq (sIf (tBl (iB gEq (iVar 4) (iC (.str "all")))) (sRet (iTup (iCons (iC (.str "all")) (iCons (iCall sp_l_number (iCons (iVar 0) (iCons (iVar 3) iNil))) iNil)))) sNext)
  (sSeq (sIf (tBl (iB gEq (iVar 4) (iC (.str "up")))) (sRet (iTup (iCons (iC (.str "up")) (iCons (iCall sp_l_take (iCons (iVar 0) (iCons (iVar 1) iNil))) (iCons (iCall sp_l_number (iCons (iVar 0) (iCons (iVar 3) iNil))) iNil))))) sNext)
  (sSeq (sIf (tBl (iB (gIn false) (iVar 4) (iTup (iCons (iC (.str "swap")) (iCons (iC (.str "front")) iNil))))) (sRet (iB gAdd (iTup (iCons (iVar 4) iNil)) (iCall sp_l_two (iCons (iVar 0) (iCons (iVar 1) iNil))))) sNext)
  (sSeq (sIf (tBl (iB gEq (iVar 4) (iC (.str "wheel")))) (sRet (iB gAdd (iB gAdd (iTup (iCons (iC (.str "wheel")) iNil)) (iCall sp_l_two (iCons (iVar 0) (iCons (iVar 1) iNil)))) (iTup (iCons (iCall sp_l_number (iCons (iVar 0) (iCons (iVar 3) iNil))) iNil)))) sNext)
  (sRet (iTup (iCons (iVar 4) iNil))))))))
def sp_l_call : ISp := fun ws S Q E => ∃ (a : Addr) (F m : Int) (ks : List Str), ws = [.ref a, .int F, .lst (ks.map .str), .int m] ∧ 2 ≤ F ∧ F ≤ 3 ∧ 0 < m ∧ Bd m ∧ ks ≠ [] ∧ ks.length < 100 ∧ (∀ k ∈ ks, k ∈ tenW) ∧ Bg S a ∧
  ∀ (c : Call) S', c.ok F → c.lt (m + 4) → c.word ∈ ks → Bx a S S' → Q (.val c.w) S'
theorem ok_l_call (ws : List W) (S : Sto) (Q : R → Sto → Prop) (E : Exn → Sto → Prop) (h : sp_l_call ws S Q E) : bodyI 5 ib_l_call ws S Q E := by
  obtain ⟨a, F, m, ks, rfl, h2, h3, hm, bm, hk, hkl, hks, hb, q⟩ := h
  unfold ib_l_call
  refine seq_go fun nx e => ?_
  walk_at "r"
  refine cl_one (fun z => hk (List.map_eq_nil_iff.mp z)) (by rw [List.length_map]; omega) hb fun x S1 hx b1 => ?_
  obtain ⟨k, hk1, rfl⟩ := List.mem_map.mp hx
  have hw := hks k hk1
  subst e
  simp only [tenW, List.mem_cons, List.not_mem_nil, or_false] at hw
  rcases hw with rfl | rfl | rfl | rfl | rfl | rfl | rfl | rfl | rfl | rfl
  all_goals walk_at "r"
  · exact ⟨a, m, rfl, hm, bm, b1.bg, fun r S2 r0 r1 r2 b2 => q (.all r) S2 trivial ⟨r0, r1, r2⟩ hk1 (b1.trans b2)⟩
  · refine cl_take (by omega) (bd_of (by omega) (by omega)) b1.bg fun f S2 f0 f1 b2 => ⟨a, m, rfl, hm, bm, b2.bg, fun r S3 r0 r1 r2 b3 => q (.up f r) S3 ⟨f0, f1⟩ ⟨r0, r1, r2⟩ hk1 ((b1.trans b2).trans b3)⟩
  · refine ⟨a, F, rfl, h2, h3, b1.bg, fun f g S2 fg b2 => ⟨by simp only [R.fz, gAdd, List.length_cons, List.length_nil]; decide, q (.swap f g) S2 fg trivial hk1 (b1.trans b2)⟩⟩
  · refine ⟨a, F, rfl, h2, h3, b1.bg, fun f g S2 fg b2 => ⟨by simp only [List.length_cons, List.length_nil]; decide, a, m, rfl, hm, bm, b2.bg, fun r S3 r0 r1 r2 b3 => ⟨by simp only [List.length_append, List.length_cons, List.length_nil]; decide, q (.wheel f g r) S3 fg ⟨r0, r1, r2⟩ hk1 ((b1.trans b2).trans b3)⟩⟩⟩
  · exact q .about S1 trivial trivial hk1 b1
  · refine ⟨a, F, rfl, h2, h3, b1.bg, fun f g S2 fg b2 => ⟨by simp only [R.fz, gAdd, List.length_cons, List.length_nil]; decide, q (.front f g) S2 fg trivial hk1 (b1.trans b2)⟩⟩
  · exact q .halve S1 trivial trivial hk1 b1
  · exact q .pair S1 trivial trivial hk1 b1
  · exact q .others S1 trivial trivial hk1 b1
  · exact q .fill S1 trivial trivial hk1 b1
def sp_l_all_kinds : ISp := fun ws S Q E => ws = [] ∧ Q (.val (.lst (tenW.map .str))) S
theorem ok_l_all_kinds (ws : List W) (S : Sto) (Q : R → Sto → Prop) (E : Exn → Sto → Prop) (h : sp_l_all_kinds ws S Q E) : bodyI 0 ib_l_all_kinds ws S Q E := by
  obtain ⟨rfl, q⟩ := h
  exact q
theorem for_rng {g : IG} {body : IS} {EI : XI} {D : IEnds} {lo : Int} (I : Nat → Stt → Prop) (n : Nat) (st : Stt) (h0 : I 0 st) (hd : ∀ st, I n st → D.nx st)
    (hs : ∀ i, i < n → ∀ st (nx : Stt → Prop), I i st → (∀ st', I (i + 1) st' → nx st') → g (.int (lo + i)) st fun st1 => body EI { nx := nx, ct := nx, bk := D.nx, rt := D.rt } st1) : forGo g body EI D (rng lo n) st := by
  have key : ∀ (m i : Nat) (st : Stt), i + m = n → I i st → forGo g body EI D ((List.range' i m).map fun (j : Nat) => W.int (lo + (j : Int))) st := by
    intro m
    induction m with
    | zero => intro i st e hi; exact hd st (by have : i = n := by omega
                                               rw [← this]; exact hi)
    | succ m ih =>
      intro i st e hi
      rw [List.range'_succ, List.map_cons]
      exact hs i (by omega) st _ hi fun st' h' => ih (i + 1) st' (by omega) h'
  have := key n 0 st (by omega) h0
  rw [← List.range_eq_range'] at this
  exact this
theorem lc_fn {g : IG} {ie : IE} {vs : List Nat} {Q : SO → Stt → Prop} {α : Type} (st0 : Stt) (enc f : α → W) (as : List α) (st : Stt) (h : ∀ a ∈ as, ∀ Y : W → Stt → Prop, (∀ st', st'.wipe vs = st0 → Y (f a) st') → g (enc a) st0 fun st1 => ie noX st1 Y)
    (e : st.wipe vs = st0) (hl : as.length ≤ sizeLine) (q : ∀ st', st'.wipe vs = st0 → Q (.lst (as.map f)) st') : lcGo g tYes' ie vs Q (as.map enc) [] st := by
  have key : ∀ (as' : List α) (acc : List W) (st : Stt), (∀ a ∈ as', a ∈ as) → st.wipe vs = st0 → acc.length + as'.length ≤ sizeLine → (∀ st', st'.wipe vs = st0 → Q (.lst (acc ++ as'.map f)) st') → lcGo g tYes' ie vs Q (as'.map enc) acc st := by
    intro as'
    induction as' with
    | nil =>
      intro acc st _ e _ q
      have := q st e
      rw [List.map_nil, List.append_nil] at this
      exact this
    | cons a as' ih =>
      intro acc st hm e hl q
      rw [List.length_cons] at hl
      show g (enc a) (st.wipe vs) fun st1 => if true = true then ie noX st1 fun y st3 => acc.length < sizeLine ∧ lcGo g tYes' ie vs Q (as'.map enc) (acc ++ [y]) st3 else lcGo g tYes' ie vs Q (as'.map enc) acc st1
      rw [e]
      simp only [if_true]
      refine h a (hm a (List.mem_cons_self ..)) _ fun st' es => ⟨by omega, ih _ _ (fun b hb => hm b (List.mem_cons_of_mem _ hb)) es (by rw [List.length_append, List.length_singleton]; omega) fun st2 e2 => ?_⟩
      have := q st2 e2
      rw [List.map_cons] at this
      rw [List.append_assoc]
      exact this
  exact key as [] st (fun _ h => h) e (by rw [List.length_nil]; omega) fun st' e => by rw [List.nil_append]; exact q st' e
local macro_rules | `(tactic| walk_at "rblsOf") => `(tactic| simp (decide := true) only [bodyI, start0, sSeq, sNext, sNever, sCont, sBreak, sDrop, sRet, sRetN, sRet0, sRetO, sIf, sSet, sSetN, sSetP, sPar, sParEN, sParNE, sPar3, sAsg, gNm, gsNil, gsCons, gTp, sAugI, sIxO, sIxS, sAugS, stoL, setW, iVar, iC, iNil, iCons, iTup, iLst, nLst, iFz, iB, gAdd, gI, gIC, gSub, gMul, gDiv, gMod, gPow, gLt, gLe, gGt, gGe, gEq, gNe, gIn, gIsN, isN, iNeg, tTru', gTru, tBl, iChain, tAnd', tOr', tNot', tYes', iIf, iAnd, iOr, iNot, iIx, gIx, atW, iIxO, ownL, oNone, oSome, iSl, gSl, iRevL, iCall, nCall, iFn, Stt.put, Stt.puts, iMtO, gAppend, gInsert, gExtend, gLen, iLenO, gAbs, gInt, gMinMax, gList, gTuple, iListRg, gIsi, tyN, gRepr, cut_13, cut_1_2, cut_1_3, cut_m2, cut_m3, cut_m4, atI_m2, atI_m3, atI_m4, iOfT, tKdIn, iKdIx, atI_0, atI_1, atI_2, atI_3, ixN_4_0, ixN_4_1, ixN_4_2, ixN_4_3, Sto.put_same, Sto.put_put, toNat_2, List.map, List.replicate, List.length_cons, List.length_nil, List.getElem?_cons_zero, List.getElem?_cons_succ, List.getElem?_nil, List.set_cons_zero, List.set_cons_succ, List.set_nil, List.cons_append, List.nil_append, List.append_nil, if_true, if_false, fz_val, fz_new, so_lst, so_dct, so_ins, eqW_ii, eqW_ss, eqW_tt, eqW_ll, eqW_nn, eqW_bb, eqW_ni, eqW_in, eqW_nt, eqW_tn, eqW_nl, eqW_ln, eqW_is, eqW_si, eqWs_nil, eqWs_cons, eqWs_nc, eqWs_cn, okD_int, okD_str, okD_bl, okD_non, okD_tup, okD_lst, eqOk_ii, eqOk_ss, eqOk_nn, eqOk_bb, eqOk_in, eqOk_ni, eqOk_tt, eqOk_ll, flatW_int, flatW_str, flatW_bl, flatW_non, inW, List.any_cons, List.any_nil, List.all_cons, List.all_nil, Bool.or_false, Bool.or_true, Bool.true_or, Bool.false_or, Bool.and_true, Bool.true_and, Bool.and_false, Bool.false_and, Bool.not_true, Bool.not_false, Bool.false_eq_true, true_and, and_true, beq_self_eq_true, List.isEmpty_cons, List.isEmpty_nil, Int.reduceNeg, eq_self, forall_const, iFld, objOf, iProp, iMeth, nMake, iInv, iMulM, iLenM, iIsi, sAtt, iRevT, lIter, nRep, lEnum, lZip, iEqM, gOwn, iDGet2, iAddO, nDisp, nDNew, iPairs, keysW, keyW, nFn, gListN, nListRg, iTupRg, nIf, sParM, iItems, putsR, Sh.R.slot, gIsB, isB, iPeek, tPeek, iPeekS, Stt.ps, noOwn, gInD, nPeek, Stt.pk, frzS, plainW, plainWs, tyS, tyIn, cOk, isAny, isOne, Option.map_some, lk_ne, List.lookup_nil, putW, lk_self, iXf, iIsE, Hnd.w, sRaise1, sRaise0, sTryE, gMax3, gEqN, gReprN, iIdxT, iIdxL, iInRg, nListM, iBR, iFnR, iPub, iMtR, drW, drWs, nOwn, nMeth, nSl, nAdd, nAddO, iMtN, sAugL, gSortedG, tTruO, refW_tup, refW_lst, refW_dct, refW_int, refW_str, refW_bl, refW_non, blsOf])
local macro_rules | `(tactic| simp! only [$xs,*]) => `(tactic| simp (decide := true) only [bodyI, start0, sSeq, sNext, sNever, sCont, sBreak, sDrop, sRet, sRetN, sRet0, sRetO, sIf, sSet, sSetN, sSetP, sPar, sParEN, sParNE, sPar3, sAsg, gNm, gsNil, gsCons, gTp, sAugI, sIxO, sIxS, sAugS, stoL, setW, iVar, iC, iNil, iCons, iTup, iLst, nLst, iFz, iB, gAdd, gI, gIC, gSub, gMul, gDiv, gMod, gPow, gLt, gLe, gGt, gGe, gEq, gNe, gIn, gIsN, isN, iNeg, tTru', gTru, tBl, iChain, tAnd', tOr', tNot', tYes', iIf, iAnd, iOr, iNot, iIx, gIx, atW, iIxO, ownL, oNone, oSome, iSl, gSl, iRevL, iCall, nCall, iFn, Stt.put, Stt.puts, iMtO, gAppend, gInsert, gExtend, gLen, iLenO, gAbs, gInt, gMinMax, gList, gTuple, iListRg, gIsi, tyN, gRepr, cut_13, cut_1_2, cut_1_3, cut_m2, cut_m3, cut_m4, atI_m2, atI_m3, atI_m4, iOfT, tKdIn, iKdIx, atI_0, atI_1, atI_2, atI_3, ixN_4_0, ixN_4_1, ixN_4_2, ixN_4_3, Sto.put_same, Sto.put_put, toNat_2, List.map, List.replicate, List.length_cons, List.length_nil, List.getElem?_cons_zero, List.getElem?_cons_succ, List.getElem?_nil, List.set_cons_zero, List.set_cons_succ, List.set_nil, List.cons_append, List.nil_append, List.append_nil, if_true, if_false, fz_val, fz_new, so_lst, so_dct, so_ins, eqW_ii, eqW_ss, eqW_tt, eqW_ll, eqW_nn, eqW_bb, eqW_ni, eqW_in, eqW_nt, eqW_tn, eqW_nl, eqW_ln, eqW_is, eqW_si, eqWs_nil, eqWs_cons, eqWs_nc, eqWs_cn, okD_int, okD_str, okD_bl, okD_non, okD_tup, okD_lst, eqOk_ii, eqOk_ss, eqOk_nn, eqOk_bb, eqOk_in, eqOk_ni, eqOk_tt, eqOk_ll, flatW_int, flatW_str, flatW_bl, flatW_non, inW, List.any_cons, List.any_nil, List.all_cons, List.all_nil, Bool.or_false, Bool.or_true, Bool.true_or, Bool.false_or, Bool.and_true, Bool.true_and, Bool.and_false, Bool.false_and, Bool.not_true, Bool.not_false, Bool.false_eq_true, true_and, and_true, beq_self_eq_true, List.isEmpty_cons, List.isEmpty_nil, Int.reduceNeg, eq_self, forall_const, iFld, objOf, iProp, iMeth, nMake, iInv, iMulM, iLenM, iIsi, sAtt, iRevT, lIter, nRep, lEnum, lZip, iEqM, gOwn, iDGet2, iAddO, nDisp, nDNew, iPairs, keysW, keyW, nFn, gListN, nListRg, iTupRg, nIf, sParM, iItems, putsR, Sh.R.slot, gIsB, isB, iPeek, tPeek, iPeekS, Stt.ps, noOwn, gInD, nPeek, Stt.pk, frzS, plainW, plainWs, tyS, tyIn, cOk, isAny, isOne, Option.map_some, lk_ne, List.lookup_nil, putW, lk_self, iXf, iIsE, Hnd.w, sRaise1, sRaise0, sTryE, gMax3, gEqN, gReprN, iIdxT, iIdxL, iInRg, nListM, iBR, iFnR, iPub, iMtR, drW, drWs, nOwn, nMeth, nSl, nAdd, nAddO, iMtN, sAugL, gSortedG, tTruO, refW_tup, refW_lst, refW_dct, refW_int, refW_str, refW_bl, refW_non, $xs,*])
def kT_BY_FILES : List (Str × W) := [("all", .int (0)), ("up", .int (1)), ("swap", .int (2)), ("wheel", .int (2)), ("about", .int (0)), ("front", .int (2)), ("halve", .int (0)), ("pair", .int (0)), ("others", .int (0)), ("fill", .int (0))]
def ib_p_is_files : IS := (sRet (iAnd (iCall sp_p_is_integer (iCons (iVar 0) iNil)) (iB (gIn false) (iVar 0) (iTup (iCons (iC (.int 2)) (iCons (iC (.int 3)) iNil))))))
def ib_p_is_call : IS := (sSeq (sIf (tOr' (tNot' (tTru' (iFn gIsi (iCons (iVar 1) (iCons (iC (.ty "tuple")) iNil))))) (tOr' (tBl (iB gEq (iFn gLen (iCons (iVar 1) iNil)) (iC (.int 0)))) (tOr' (tNot' (tTru' (iFn gIsi (iCons (iIx (iVar 1) (iC (.int 0))) (iCons (iC (.ty "str")) iNil))))) (tKdIn true kT_BY_FILES (iIx (iVar 1) (iC (.int 0))))))) (sRet (iC (.bl false))) sNext)
  (sSeq (sPar 2 3 (iKdIx kT_BY_FILES (iIx (iVar 1) (iC (.int 0)))) (iFn gInt (iCons (iB (gIn false) (iIx (iVar 1) (iC (.int 0))) (iC kC_BY_NUMBER)) iNil)))
  (sSeq (sIf (tOr' (tBl (iB gNe (iFn gLen (iCons (iVar 1) iNil)) (iB gAdd (iB gAdd (iC (.int 1)) (iVar 2)) (iVar 3)))) (tNot' (tTru' (iFn (gAll fun bs => bs.all id) (iCons (iFz (nLc (lSeq (iSl (iVar 1) (oSome (iC (.int 1))) (oSome (iB gAdd (iC (.int 1)) (iVar 2))))) (gNm 4) tYes' (iCall sp_p_is_index (iCons (iVar 4) (iCons (iVar 0) iNil))) [4])) iNil))))) (sRet (iC (.bl false))) sNext)
  (sSeq (sIf (tAnd' (tBl (iB gEq (iVar 2) (iC (.int 2)))) (tBl (iB gEq (iIx (iVar 1) (iC (.int 1))) (iIx (iVar 1) (iC (.int 2)))))) (sRet (iC (.bl false))) sNext)
  (sRet (iOr (iB gEq (iVar 3) (iC (.int 0))) (iAnd (iCall sp_p_is_integer (iCons (iIx (iVar 1) (iNeg (iC (.int 1)))) iNil)) (iB gNe (iIx (iVar 1) (iNeg (iC (.int 1)))) (iC (.int 0))))))))))
def sp_p_is_files : ISp := fun ws S Q E => ∃ F : Int, ws = [.int F] ∧ Q (.val (.bl (decide (F = 2 ∨ F = 3)))) S
theorem ok_p_is_files (ws : List W) (S : Sto) (Q : R → Sto → Prop) (E : Exn → Sto → Prop) (h : sp_p_is_files ws S Q E) : bodyI 1 ib_p_is_files ws S Q E := by
  obtain ⟨F, rfl, q⟩ := h
  unfold ib_p_is_files
  walk_at "r"
  refine ⟨_, rfl, (fun z => nomatch z), ?_⟩
  simp! only [isI]
  have e : ((2 == F) || (3 == F)) = decide (F = 2 ∨ F = 3) := by
    by_cases a : F = 2
    · subst a; rfl
    · by_cases b : F = 3
      · subst b; rfl
      · simp [a, b, Ne.symm a, Ne.symm b]
  rw [e]
  exact q
/-- k is not 0 -/
def Call.nz : Call → Prop
  | .all k => k ≠ 0
  | .up _ k => k ≠ 0
  | .wheel _ _ k => k ≠ 0
  | _ => True
structure Call.gd (F : Int) (c : Call) : Prop where
  ok : c.ok F
  nz : c.nz
def sp_p_is_call : ISp := fun ws S Q E => ∃ (F : Int) (c : Call), ws = [.int F, c.w] ∧ c.gd F ∧ Q (.val (.bl true)) S
theorem isIx_t {f F : Int} (h0 : 0 ≤ f) (h1 : f < F) : isIx (.int f) F = true := by
  unfold isIx
  simp [h0, h1]
theorem bf_all : kT_BY_FILES.lookup ("all" : Str) = some (W.int 0) := rfl
theorem bf_up : kT_BY_FILES.lookup ("up" : Str) = some (W.int 1) := rfl
theorem bf_swap : kT_BY_FILES.lookup ("swap" : Str) = some (W.int 2) := rfl
theorem bf_wheel : kT_BY_FILES.lookup ("wheel" : Str) = some (W.int 2) := rfl
theorem bf_about : kT_BY_FILES.lookup ("about" : Str) = some (W.int 0) := rfl
theorem bf_front : kT_BY_FILES.lookup ("front" : Str) = some (W.int 2) := rfl
theorem bf_halve : kT_BY_FILES.lookup ("halve" : Str) = some (W.int 0) := rfl
theorem bf_pair : kT_BY_FILES.lookup ("pair" : Str) = some (W.int 0) := rfl
theorem bf_others : kT_BY_FILES.lookup ("others" : Str) = some (W.int 0) := rfl
theorem bf_fill : kT_BY_FILES.lookup ("fill" : Str) = some (W.int 0) := rfl
section
variable {α : Type} {a b c d : α}
theorem cut1_11 : cutW [a] (some 1) (some 1) = [] := rfl
theorem cut2_11 : cutW [a, b] (some 1) (some 1) = [] := rfl
theorem cut3_12 : cutW [a, b, c] (some 1) (some 2) = [b] := rfl
theorem cut3_13 : cutW [a, b, c] (some 1) (some 3) = [b, c] := rfl
end
theorem z22 : (1 : Int) + 0 = 1 := rfl
theorem z23 : (1 : Int) + 1 = 2 := rfl
theorem z24 : (1 : Int) + 2 = 3 := rfl
theorem z25 : (2 : Int) + 1 = 3 := rfl
theorem z26 : (3 : Int) + 1 = 4 := rfl
theorem ok_p_is_call (ws : List W) (S : Sto) (Q : R → Sto → Prop) (E : Exn → Sto → Prop) (h : sp_p_is_call ws S Q E) : bodyI 5 ib_p_is_call ws S Q E := by
  obtain ⟨F, c, rfl, ⟨hc, hz⟩, q⟩ := h
  unfold ib_p_is_call
  have bo : ∀ {x : W} {n : Int} {Q : R → Sto → Prop}, (∃ f, x = .int f ∧ 0 ≤ f ∧ f < n) → Q (.val (.bl true)) S → sp_p_is_index [x, .int n] S Q fun _ _ => False := fun ⟨f, e, f0, f1⟩ q => by
    subst e
    exact ⟨_, _, rfl, (fun z => nomatch z), by rw [isIx_t f0 f1]; exact q⟩
  cases c with
  | all k =>
    refine seq_go fun nx e => ?_
    simp! only [Call.w, bf_all, kitB]
    subst e
    refine seq_go fun nx e => ?_
    simp! only [Call.w, bf_all, kC_BY_NUMBER]
    subst e
    refine seq_go fun nx e => ?_
    simp! only [nLc, lSeq, gItems, lcGo, Stt.wipe, cut1_11, cut2_11, cut3_12, cut3_13, cut_13, z22, z23, z24, z25, z26, gAll, blsOf]
    subst e
    refine seq_go fun nx e => ?_
    walk_at "r"
    subst e
    walk_at "r"
    refine ⟨_, rfl, (fun z => nomatch z), ?_⟩
    simp! only [isI]
    rw [beq_eq_false_iff_ne.mpr hz]
    exact q
  | up f k =>
    refine seq_go fun nx e => ?_
    simp! only [Call.w, bf_up, kitB]
    subst e
    refine seq_go fun nx e => ?_
    simp! only [Call.w, bf_up, kC_BY_NUMBER]
    subst e
    refine seq_go fun nx e => ?_
    simp! only [nLc, lSeq, gItems, lcGo, Stt.wipe, cut1_11, cut2_11, cut3_12, cut3_13, cut_13, z22, z23, z24, z25, z26, gAll, blsOf]
    refine bo ⟨_, rfl, hc.1, hc.2⟩ ?_
    walk_at "rblsOf"
    subst e
    refine seq_go fun nx e => ?_
    walk_at "r"
    subst e
    walk_at "r"
    refine ⟨_, rfl, (fun z => nomatch z), ?_⟩
    simp! only [isI]
    rw [beq_eq_false_iff_ne.mpr hz]
    exact q
  | swap f g =>
    refine seq_go fun nx e => ?_
    simp! only [Call.w, bf_swap, kitB]
    subst e
    refine seq_go fun nx e => ?_
    simp! only [Call.w, bf_swap, kC_BY_NUMBER]
    subst e
    refine seq_go fun nx e => ?_
    simp! only [nLc, lSeq, gItems, lcGo, Stt.wipe, cut1_11, cut2_11, cut3_12, cut3_13, cut_13, z22, z23, z24, z25, z26, gAll, blsOf]
    refine bo ⟨_, rfl, hc.1, hc.2.1⟩ ?_
    walk_at "rblsOf"
    refine bo ⟨_, rfl, hc.2.2.1, hc.2.2.2.1⟩ ?_
    walk_at "rblsOf"
    subst e
    refine seq_go fun nx e => ?_
    walk_at "r"
    refine ifF (beq_eq_false_iff_ne.mpr hc.2.2.2.2) ?_
    subst e
    walk_at "r"
    exact q
  | wheel f g k =>
    refine seq_go fun nx e => ?_
    simp! only [Call.w, bf_wheel, kitB]
    subst e
    refine seq_go fun nx e => ?_
    simp! only [Call.w, bf_wheel, kC_BY_NUMBER]
    subst e
    refine seq_go fun nx e => ?_
    simp! only [nLc, lSeq, gItems, lcGo, Stt.wipe, cut1_11, cut2_11, cut3_12, cut3_13, cut_13, z22, z23, z24, z25, z26, gAll, blsOf]
    refine bo ⟨_, rfl, hc.1, hc.2.1⟩ ?_
    walk_at "rblsOf"
    refine bo ⟨_, rfl, hc.2.2.1, hc.2.2.2.1⟩ ?_
    walk_at "rblsOf"
    subst e
    refine seq_go fun nx e => ?_
    walk_at "r"
    refine ifF (beq_eq_false_iff_ne.mpr hc.2.2.2.2) ?_
    subst e
    walk_at "r"
    refine ⟨_, rfl, (fun z => nomatch z), ?_⟩
    simp! only [isI]
    rw [beq_eq_false_iff_ne.mpr hz]
    exact q
  | front f g =>
    refine seq_go fun nx e => ?_
    simp! only [Call.w, bf_front, kitB]
    subst e
    refine seq_go fun nx e => ?_
    simp! only [Call.w, bf_front, kC_BY_NUMBER]
    subst e
    refine seq_go fun nx e => ?_
    simp! only [nLc, lSeq, gItems, lcGo, Stt.wipe, cut1_11, cut2_11, cut3_12, cut3_13, cut_13, z22, z23, z24, z25, z26, gAll, blsOf]
    refine bo ⟨_, rfl, hc.1, hc.2.1⟩ ?_
    walk_at "rblsOf"
    refine bo ⟨_, rfl, hc.2.2.1, hc.2.2.2.1⟩ ?_
    walk_at "rblsOf"
    subst e
    refine seq_go fun nx e => ?_
    walk_at "r"
    refine ifF (beq_eq_false_iff_ne.mpr hc.2.2.2.2) ?_
    subst e
    walk_at "r"
    exact q
  | about =>
    refine seq_go fun nx e => ?_
    simp! only [Call.w, bf_about, kitB]
    subst e
    refine seq_go fun nx e => ?_
    simp! only [Call.w, bf_about, kC_BY_NUMBER]
    subst e
    refine seq_go fun nx e => ?_
    simp! only [nLc, lSeq, gItems, lcGo, Stt.wipe, cut1_11, cut2_11, cut3_12, cut3_13, cut_13, z22, z23, z24, z25, z26, gAll, blsOf]
    subst e
    refine seq_go fun nx e => ?_
    walk_at "r"
    subst e
    walk_at "r"
    exact q
  | halve =>
    refine seq_go fun nx e => ?_
    simp! only [Call.w, bf_halve, kitB]
    subst e
    refine seq_go fun nx e => ?_
    simp! only [Call.w, bf_halve, kC_BY_NUMBER]
    subst e
    refine seq_go fun nx e => ?_
    simp! only [nLc, lSeq, gItems, lcGo, Stt.wipe, cut1_11, cut2_11, cut3_12, cut3_13, cut_13, z22, z23, z24, z25, z26, gAll, blsOf]
    subst e
    refine seq_go fun nx e => ?_
    walk_at "r"
    subst e
    walk_at "r"
    exact q
  | pair =>
    refine seq_go fun nx e => ?_
    simp! only [Call.w, bf_pair, kitB]
    subst e
    refine seq_go fun nx e => ?_
    simp! only [Call.w, bf_pair, kC_BY_NUMBER]
    subst e
    refine seq_go fun nx e => ?_
    simp! only [nLc, lSeq, gItems, lcGo, Stt.wipe, cut1_11, cut2_11, cut3_12, cut3_13, cut_13, z22, z23, z24, z25, z26, gAll, blsOf]
    subst e
    refine seq_go fun nx e => ?_
    walk_at "r"
    subst e
    walk_at "r"
    exact q
  | others =>
    refine seq_go fun nx e => ?_
    simp! only [Call.w, bf_others, kitB]
    subst e
    refine seq_go fun nx e => ?_
    simp! only [Call.w, bf_others, kC_BY_NUMBER]
    subst e
    refine seq_go fun nx e => ?_
    simp! only [nLc, lSeq, gItems, lcGo, Stt.wipe, cut1_11, cut2_11, cut3_12, cut3_13, cut_13, z22, z23, z24, z25, z26, gAll, blsOf]
    subst e
    refine seq_go fun nx e => ?_
    walk_at "r"
    subst e
    walk_at "r"
    exact q
  | fill =>
    refine seq_go fun nx e => ?_
    simp! only [Call.w, bf_fill, kitB]
    subst e
    refine seq_go fun nx e => ?_
    simp! only [Call.w, bf_fill, kC_BY_NUMBER]
    subst e
    refine seq_go fun nx e => ?_
    simp! only [nLc, lSeq, gItems, lcGo, Stt.wipe, cut1_11, cut2_11, cut3_12, cut3_13, cut_13, z22, z23, z24, z25, z26, gAll, blsOf]
    subst e
    refine seq_go fun nx e => ?_
    walk_at "r"
    subst e
    walk_at "r"
    exact q
local macro_rules | `(tactic| walk_at "rkitB_nLc_lSeq_gItems") => `(tactic| simp (decide := true) only [bodyI, start0, sSeq, sNext, sNever, sCont, sBreak, sDrop, sRet, sRetN, sRet0, sRetO, sIf, sSet, sSetN, sSetP, sPar, sParEN, sParNE, sPar3, sAsg, gNm, gsNil, gsCons, gTp, sAugI, sIxO, sIxS, sAugS, stoL, setW, iVar, iC, iNil, iCons, iTup, iLst, nLst, iFz, iB, gAdd, gI, gIC, gSub, gMul, gDiv, gMod, gPow, gLt, gLe, gGt, gGe, gEq, gNe, gIn, gIsN, isN, iNeg, tTru', gTru, tBl, iChain, tAnd', tOr', tNot', tYes', iIf, iAnd, iOr, iNot, iIx, gIx, atW, iIxO, ownL, oNone, oSome, iSl, gSl, iRevL, iCall, nCall, iFn, Stt.put, Stt.puts, iMtO, gAppend, gInsert, gExtend, gLen, iLenO, gAbs, gInt, gMinMax, gList, gTuple, iListRg, gIsi, tyN, gRepr, cut_13, cut_1_2, cut_1_3, cut_m2, cut_m3, cut_m4, atI_m2, atI_m3, atI_m4, iOfT, tKdIn, iKdIx, atI_0, atI_1, atI_2, atI_3, ixN_4_0, ixN_4_1, ixN_4_2, ixN_4_3, Sto.put_same, Sto.put_put, toNat_2, List.map, List.replicate, List.length_cons, List.length_nil, List.getElem?_cons_zero, List.getElem?_cons_succ, List.getElem?_nil, List.set_cons_zero, List.set_cons_succ, List.set_nil, List.cons_append, List.nil_append, List.append_nil, if_true, if_false, fz_val, fz_new, so_lst, so_dct, so_ins, eqW_ii, eqW_ss, eqW_tt, eqW_ll, eqW_nn, eqW_bb, eqW_ni, eqW_in, eqW_nt, eqW_tn, eqW_nl, eqW_ln, eqW_is, eqW_si, eqWs_nil, eqWs_cons, eqWs_nc, eqWs_cn, okD_int, okD_str, okD_bl, okD_non, okD_tup, okD_lst, eqOk_ii, eqOk_ss, eqOk_nn, eqOk_bb, eqOk_in, eqOk_ni, eqOk_tt, eqOk_ll, flatW_int, flatW_str, flatW_bl, flatW_non, inW, List.any_cons, List.any_nil, List.all_cons, List.all_nil, Bool.or_false, Bool.or_true, Bool.true_or, Bool.false_or, Bool.and_true, Bool.true_and, Bool.and_false, Bool.false_and, Bool.not_true, Bool.not_false, Bool.false_eq_true, true_and, and_true, beq_self_eq_true, List.isEmpty_cons, List.isEmpty_nil, Int.reduceNeg, eq_self, forall_const, iFld, objOf, iProp, iMeth, nMake, iInv, iMulM, iLenM, iIsi, sAtt, iRevT, lIter, nRep, lEnum, lZip, iEqM, gOwn, iDGet2, iAddO, nDisp, nDNew, iPairs, keysW, keyW, nFn, gListN, nListRg, iTupRg, nIf, sParM, iItems, putsR, Sh.R.slot, gIsB, isB, iPeek, tPeek, iPeekS, Stt.ps, noOwn, gInD, nPeek, Stt.pk, frzS, plainW, plainWs, tyS, tyIn, cOk, isAny, isOne, Option.map_some, lk_ne, List.lookup_nil, putW, lk_self, iXf, iIsE, Hnd.w, sRaise1, sRaise0, sTryE, gMax3, gEqN, gReprN, iIdxT, iIdxL, iInRg, nListM, iBR, iFnR, iPub, iMtR, drW, drWs, nOwn, nMeth, nSl, nAdd, nAddO, iMtN, sAugL, gSortedG, tTruO, refW_tup, refW_lst, refW_dct, refW_int, refW_str, refW_bl, refW_non, kitB, nLc, lSeq, gItems])
local macro_rules | `(tactic| walk_at "rnLc_lSeq_gItems") => `(tactic| simp (decide := true) only [bodyI, start0, sSeq, sNext, sNever, sCont, sBreak, sDrop, sRet, sRetN, sRet0, sRetO, sIf, sSet, sSetN, sSetP, sPar, sParEN, sParNE, sPar3, sAsg, gNm, gsNil, gsCons, gTp, sAugI, sIxO, sIxS, sAugS, stoL, setW, iVar, iC, iNil, iCons, iTup, iLst, nLst, iFz, iB, gAdd, gI, gIC, gSub, gMul, gDiv, gMod, gPow, gLt, gLe, gGt, gGe, gEq, gNe, gIn, gIsN, isN, iNeg, tTru', gTru, tBl, iChain, tAnd', tOr', tNot', tYes', iIf, iAnd, iOr, iNot, iIx, gIx, atW, iIxO, ownL, oNone, oSome, iSl, gSl, iRevL, iCall, nCall, iFn, Stt.put, Stt.puts, iMtO, gAppend, gInsert, gExtend, gLen, iLenO, gAbs, gInt, gMinMax, gList, gTuple, iListRg, gIsi, tyN, gRepr, cut_13, cut_1_2, cut_1_3, cut_m2, cut_m3, cut_m4, atI_m2, atI_m3, atI_m4, iOfT, tKdIn, iKdIx, atI_0, atI_1, atI_2, atI_3, ixN_4_0, ixN_4_1, ixN_4_2, ixN_4_3, Sto.put_same, Sto.put_put, toNat_2, List.map, List.replicate, List.length_cons, List.length_nil, List.getElem?_cons_zero, List.getElem?_cons_succ, List.getElem?_nil, List.set_cons_zero, List.set_cons_succ, List.set_nil, List.cons_append, List.nil_append, List.append_nil, if_true, if_false, fz_val, fz_new, so_lst, so_dct, so_ins, eqW_ii, eqW_ss, eqW_tt, eqW_ll, eqW_nn, eqW_bb, eqW_ni, eqW_in, eqW_nt, eqW_tn, eqW_nl, eqW_ln, eqW_is, eqW_si, eqWs_nil, eqWs_cons, eqWs_nc, eqWs_cn, okD_int, okD_str, okD_bl, okD_non, okD_tup, okD_lst, eqOk_ii, eqOk_ss, eqOk_nn, eqOk_bb, eqOk_in, eqOk_ni, eqOk_tt, eqOk_ll, flatW_int, flatW_str, flatW_bl, flatW_non, inW, List.any_cons, List.any_nil, List.all_cons, List.all_nil, Bool.or_false, Bool.or_true, Bool.true_or, Bool.false_or, Bool.and_true, Bool.true_and, Bool.and_false, Bool.false_and, Bool.not_true, Bool.not_false, Bool.false_eq_true, true_and, and_true, beq_self_eq_true, List.isEmpty_cons, List.isEmpty_nil, Int.reduceNeg, eq_self, forall_const, iFld, objOf, iProp, iMeth, nMake, iInv, iMulM, iLenM, iIsi, sAtt, iRevT, lIter, nRep, lEnum, lZip, iEqM, gOwn, iDGet2, iAddO, nDisp, nDNew, iPairs, keysW, keyW, nFn, gListN, nListRg, iTupRg, nIf, sParM, iItems, putsR, Sh.R.slot, gIsB, isB, iPeek, tPeek, iPeekS, Stt.ps, noOwn, gInD, nPeek, Stt.pk, frzS, plainW, plainWs, tyS, tyIn, cOk, isAny, isOne, Option.map_some, lk_ne, List.lookup_nil, putW, lk_self, iXf, iIsE, Hnd.w, sRaise1, sRaise0, sTryE, gMax3, gEqN, gReprN, iIdxT, iIdxL, iInRg, nListM, iBR, iFnR, iPub, iMtR, drW, drWs, nOwn, nMeth, nSl, nAdd, nAddO, iMtN, sAugL, gSortedG, tTruO, refW_tup, refW_lst, refW_dct, refW_int, refW_str, refW_bl, refW_non, nLc, lSeq, gItems])
abbrev scrF (F : Int) (cs : List Call) : List (Str × W) := [("width", .int F), ("steps", .tup (cs.map Call.w))]
abbrev scrW (F : Int) (cs : List Call) : W := .obj "Script" (scrF F cs)
def Fil (F : Int) : Prop := F = 2 ∨ F = 3
structure Gd (F : Int) (cs : List Call) : Prop where
  fil : Fil F
  gd : ∀ c ∈ cs, c.gd F
  len : cs.length ≤ 100000
def ib_k_Script : IS := (sSeq (sIf (tNot' (tTru' (iCall sp_p_is_files (iCons (iVar 1) iNil)))) sNever sNext)
  (sSeq (sIf (tOr' (tNot' (tTru' (iIsi [] (iCons (iVar 2) (iCons (iTup (iCons (iC (.ty "tuple")) (iCons (iC (.ty "list")) iNil))) iNil))))) (tNot' (tTru' (iFn (gAll fun bs => bs.all id) (iCons (iFz (nLc (lSeq (iVar 2)) (gNm 3) tYes' (iCall sp_p_is_call (iCons (iVar 1) (iCons (iVar 3) iNil))) [3])) iNil))))) sNever sNext)
  (sSeq (sAtt ["Script"] "width" (iVar 0) (iVar 1))
  (sAtt ["Script"] "steps" (iVar 0) (iFn gTuple (iCons (iVar 2) iNil))))))
def ib_m_Script_files : IS := (sRet (iFld ["Script"] "width" (iVar 0)))
def sp_k_Script : ISp := fun ws S Q E => ∃ (a : Addr) (F : Int) (cs : List Call) (x : W), ws = [.ref a, .int F, x] ∧ (x = .lst (cs.map Call.w) ∨ x = .tup (cs.map Call.w)) ∧ S a = some (.ins "Script" []) ∧ Gd F cs ∧ Q (.val .non) (S.put a (.ins "Script" (scrF F cs)))
theorem blsOf_true {α : Type} (as : List α) : blsOf (as.map fun _ => W.bl true) = some (as.map fun _ => true) := by
  induction as with
  | nil => rfl
  | cons a as ih => simp only [List.map_cons, blsOf, ih, Option.map]
theorem ok_k_Script (ws : List W) (S : Sto) (Q : R → Sto → Prop) (E : Exn → Sto → Prop) (h : sp_k_Script ws S Q E) : bodyI 4 ib_k_Script ws S Q E := by
  obtain ⟨a, F, cs, x, rfl, hx, ha, ⟨hF, hg, hl⟩, q⟩ := h
  unfold ib_k_Script
  refine seq_go fun nx e => ?_
  walk_at "r"
  refine ⟨F, rfl, ?_⟩
  simp! only [decide_eq_true (show F = 2 ∨ F = 3 from hF)]
  subst e
  rcases hx with rfl | rfl
  all_goals
    refine seq_go fun nx e => ?_
    walk_at "rkitB_nLc_lSeq_gItems"
    refine lc_fn ⟨[.val (.ref a), .val (.int F), .val _, .none], S⟩ Call.w (fun _ => .bl true) cs _ (fun c hc Y hY => ?_) rfl (by rw [sizeLine_eq]; omega) fun st' es => ?_
    · walk_at "r"
      exact ⟨F, c, rfl, hg c hc, hY _ rfl⟩
    · rw [es]
      simp! only [gAll, blsOf_true]
      have : ((cs.map fun _ => true).all id) = true := List.all_eq_true.mpr fun b hb => by
        obtain ⟨_, _, rfl⟩ := List.mem_map.mp hb
        rfl
      refine ifF (by simp only [this]; rfl) ?_
      subst e
      refine seq_go fun nx e => ?_
      simp! only [ha]
      subst e
      walk_at "r"
      exact q
def sp_m_Script_files : ISp := fun ws S Q E => ∃ F cs, ws = [scrW F cs] ∧ Q (.val (.int F)) S
theorem ok_m_Script_files (ws : List W) (S : Sto) (Q : R → Sto → Prop) (E : Exn → Sto → Prop) (h : sp_m_Script_files ws S Q E) : bodyI 1 ib_m_Script_files ws S Q E := by
  obtain ⟨F, cs, rfl, q⟩ := h
  unfold ib_m_Script_files
  walk_at "r"
  exact q
/-- a Script is made -/
theorem mk_Script {F : Int} {cs : List Call} {x : W} {S : Sto} {Q : R → Sto → Prop} {E : Exn → Sto → Prop} {a : Addr} (ha : S a = none) (hx : x = .lst (cs.map Call.w) ∨ x = .tup (cs.map Call.w)) (g : Gd F cs) (q : Q (.val .non) (S.put a (.ins "Script" (scrF F cs)))) : sp_k_Script [.ref a, .int F, x] (S.put a (.ins "Script" [])) Q E :=
  ⟨a, F, cs, x, rfl, hx, Sto.put_same, g, by rw [Sto.put_put]; exact q⟩
theorem Call.tn_gd {F : Int} {c : Call} (h : c.gd F) : c.tn.gd F := ⟨Call.tn_ok h.ok, by
  have := h.nz
  cases c <;> first | exact this | (simp only [Call.nz, Call.tn] at *; omega)⟩
theorem Gd.inv {F : Int} {cs : List Call} (g : Gd F cs) : Gd F (cs.reverse.map Call.tn) := ⟨g.fil, fun c hc => by
  obtain ⟨d, hd, rfl⟩ := List.mem_map.mp hc
  exact Call.tn_gd (g.gd d (List.mem_reverse.mp hd)), by rw [List.length_map, List.length_reverse]; exact g.len⟩
theorem Gd.app {F : Int} {cs ds : List Call} (g : Gd F cs) (h : Gd F ds) (l : cs.length + ds.length ≤ 100000) : Gd F (cs ++ ds) := ⟨g.fil, fun c hc => (List.mem_append.mp hc).elim (g.gd c) (h.gd c), by rw [List.length_append]; exact l⟩
/-- a script so many times -/
def timesC (cs : List Call) (k : Int) : List Call := (List.replicate k.natAbs (if 0 ≤ k then cs else cs.reverse.map Call.tn)).flatten
theorem len_rep {α : Type} (l : List α) (n : Nat) : (List.replicate n l).flatten.length = l.length * n := by
  induction n with
  | zero => simp
  | succ n ih => rw [List.replicate_succ, List.flatten_cons, List.length_append, ih, Nat.mul_succ]; omega
theorem Gd.times {F : Int} {cs : List Call} {k : Int} (g : Gd F cs) (l : cs.length * k.natAbs ≤ 100000) : Gd F (timesC cs k) := ⟨g.fil, fun c hc => by
  unfold timesC at hc
  obtain ⟨x, hx, hc⟩ := List.mem_flatten.mp hc
  have := List.eq_of_mem_replicate hx
  subst this
  split at hc
  · exact g.gd c hc
  · exact g.inv.gd c hc, by
  unfold timesC
  rw [len_rep]
  split
  · exact l
  · rw [List.length_map, List.length_reverse]; exact l⟩
local macro_rules | `(tactic| walk_at "rsFor") => `(tactic| simp (decide := true) only [bodyI, start0, sSeq, sNext, sNever, sCont, sBreak, sDrop, sRet, sRetN, sRet0, sRetO, sIf, sSet, sSetN, sSetP, sPar, sParEN, sParNE, sPar3, sAsg, gNm, gsNil, gsCons, gTp, sAugI, sIxO, sIxS, sAugS, stoL, setW, iVar, iC, iNil, iCons, iTup, iLst, nLst, iFz, iB, gAdd, gI, gIC, gSub, gMul, gDiv, gMod, gPow, gLt, gLe, gGt, gGe, gEq, gNe, gIn, gIsN, isN, iNeg, tTru', gTru, tBl, iChain, tAnd', tOr', tNot', tYes', iIf, iAnd, iOr, iNot, iIx, gIx, atW, iIxO, ownL, oNone, oSome, iSl, gSl, iRevL, iCall, nCall, iFn, Stt.put, Stt.puts, iMtO, gAppend, gInsert, gExtend, gLen, iLenO, gAbs, gInt, gMinMax, gList, gTuple, iListRg, gIsi, tyN, gRepr, cut_13, cut_1_2, cut_1_3, cut_m2, cut_m3, cut_m4, atI_m2, atI_m3, atI_m4, iOfT, tKdIn, iKdIx, atI_0, atI_1, atI_2, atI_3, ixN_4_0, ixN_4_1, ixN_4_2, ixN_4_3, Sto.put_same, Sto.put_put, toNat_2, List.map, List.replicate, List.length_cons, List.length_nil, List.getElem?_cons_zero, List.getElem?_cons_succ, List.getElem?_nil, List.set_cons_zero, List.set_cons_succ, List.set_nil, List.cons_append, List.nil_append, List.append_nil, if_true, if_false, fz_val, fz_new, so_lst, so_dct, so_ins, eqW_ii, eqW_ss, eqW_tt, eqW_ll, eqW_nn, eqW_bb, eqW_ni, eqW_in, eqW_nt, eqW_tn, eqW_nl, eqW_ln, eqW_is, eqW_si, eqWs_nil, eqWs_cons, eqWs_nc, eqWs_cn, okD_int, okD_str, okD_bl, okD_non, okD_tup, okD_lst, eqOk_ii, eqOk_ss, eqOk_nn, eqOk_bb, eqOk_in, eqOk_ni, eqOk_tt, eqOk_ll, flatW_int, flatW_str, flatW_bl, flatW_non, inW, List.any_cons, List.any_nil, List.all_cons, List.all_nil, Bool.or_false, Bool.or_true, Bool.true_or, Bool.false_or, Bool.and_true, Bool.true_and, Bool.and_false, Bool.false_and, Bool.not_true, Bool.not_false, Bool.false_eq_true, true_and, and_true, beq_self_eq_true, List.isEmpty_cons, List.isEmpty_nil, Int.reduceNeg, eq_self, forall_const, iFld, objOf, iProp, iMeth, nMake, iInv, iMulM, iLenM, iIsi, sAtt, iRevT, lIter, nRep, lEnum, lZip, iEqM, gOwn, iDGet2, iAddO, nDisp, nDNew, iPairs, keysW, keyW, nFn, gListN, nListRg, iTupRg, nIf, sParM, iItems, putsR, Sh.R.slot, gIsB, isB, iPeek, tPeek, iPeekS, Stt.ps, noOwn, gInD, nPeek, Stt.pk, frzS, plainW, plainWs, tyS, tyIn, cOk, isAny, isOne, Option.map_some, lk_ne, List.lookup_nil, putW, lk_self, iXf, iIsE, Hnd.w, sRaise1, sRaise0, sTryE, gMax3, gEqN, gReprN, iIdxT, iIdxL, iInRg, nListM, iBR, iFnR, iPub, iMtR, drW, drWs, nOwn, nMeth, nSl, nAdd, nAddO, iMtN, sAugL, gSortedG, tTruO, refW_tup, refW_lst, refW_dct, refW_int, refW_str, refW_bl, refW_non, sFor])
def run (F R : Int) (cs : List Call) (p : Int × Int) : Int × Int := cs.foldl (fun p c => mv F R c p) p
def trail (F R : Int) : List Call → Int × Int → List (Int × Int)
  | [], p => [p]
  | c :: cs, p => p :: trail F R cs (mv F R c p)
theorem run_in {F R : Int} {cs : List Call} {p : Int × Int} (hF : 0 < F) (hR : 0 < R) (hc : ∀ c ∈ cs, c.ok F) (h : At F R p) : At F R (run F R cs p) := by
  induction cs generalizing p with
  | nil => exact h
  | cons c cs ih => exact ih (fun d hd => hc d (List.mem_cons_of_mem _ hd)) (mv_in hF hR (hc c (List.mem_cons_self ..)) h)
theorem run_app {F R : Int} {cs ds : List Call} {p : Int × Int} : run F R (cs ++ ds) p = run F R ds (run F R cs p) := List.foldl_append
theorem Gd.ok {F : Int} {cs : List Call} (g : Gd F cs) : ∀ c ∈ cs, c.ok F := fun c hc => (g.gd c hc).ok
theorem Gd.pos {F : Int} {cs : List Call} (g : Gd F cs) : 0 < F := by have := g.fil; unfold Fil at this; omega
theorem run_inv {F R : Int} {cs : List Call} {p : Int × Int} (hF : 0 < F) (hR : 0 < R) (hc : ∀ c ∈ cs, c.ok F) (h : At F R p) : run F R (cs.reverse.map Call.tn) (run F R cs p) = p := by
  induction cs generalizing p with
  | nil => rfl
  | cons c cs ih =>
    rw [List.reverse_cons, List.map_append, run_app]
    show run F R [c.tn] (run F R (cs.reverse.map Call.tn) (run F R cs (mv F R c p))) = p
    rw [ih (fun d hd => hc d (List.mem_cons_of_mem _ hd)) (mv_in hF hR (hc c (List.mem_cons_self ..)) h)]
    exact mv_tn hF hR (hc c (List.mem_cons_self ..)) h
theorem isPl_at {F R : Int} {p : Int × Int} (h : At F R p) : isPl F R (pairW p) = true := by
  obtain ⟨h0, h1, h2, h3⟩ := h
  show (isIx (.int p.1) R && isIx (.int p.2) F) = true
  rw [isIx_t h0 h1, isIx_t h2 h3]; rfl
def ib_p_passed_1 : IS := (sDrop (iMtO 3 gAppend (iCons (iCall sp_p_moved_by (iCons (iVar 4) (iCons (iProp [("Script", sp_m_Script_files)] "files" (iVar 0)) (iCons (iVar 1) (iCons (iIxO 3 (iNeg (iC (.int 1)))) iNil))))) iNil)))
def ib_p_passed : IS := (sSeq (sIf (tNot' (tTru' (iCall sp_p_is_place (iCons (iProp [("Script", sp_m_Script_files)] "files" (iVar 0)) (iCons (iVar 1) (iCons (iVar 2) iNil)))))) sNever sNext)
  (sSeq (sSetN 3 (nLst (iCons (iVar 2) iNil)))
  (sSeq (sFor (lIter [("Script", "steps")] (iVar 0)) (gNm 4) ib_p_passed_1)
  (sRetO 3))))
def sp_p_passed : ISp := fun ws S Q E => ∃ (F R : Int) (cs : List Call) (p : Int × Int), ws = [scrW F cs, .int R, pairW p] ∧ Gd F cs ∧ Ln F R ∧ At F R p ∧ Q (.new (.lst ((trail F R cs p).map pairW))) S
theorem atI_last {α : Type} {xs : List α} {x : α} : atI (xs ++ [x]) (-1) = some x := by
  unfold atI ixN
  rw [if_neg (by decide), if_pos (by rw [List.length_append, List.length_singleton]; omega)]
  have e : ((-1 : Int) + ((xs ++ [x]).length : Int)).toNat = xs.length := by rw [List.length_append, List.length_singleton]; omega
  simp only [e]
  simp
theorem ok_p_passed (ws : List W) (S : Sto) (Q : R → Sto → Prop) (E : Exn → Sto → Prop) (h : sp_p_passed ws S Q E) : bodyI 5 ib_p_passed ws S Q E := by
  obtain ⟨F, R, cs, p, rfl, g, hl, hp, q⟩ := h
  have l2 := hl.2.2.1
  unfold ib_p_passed
  refine seq_go fun nx e => ?_
  walk_at "r"
  refine ⟨F, cs, rfl, ?_⟩
  walk_at "r"
  refine ⟨F, R, pairW p, rfl, (fun z => nomatch z), ?_, ?_⟩
  · exact ⟨(fun z => nomatch z), (fun z => nomatch z)⟩
  rw [isPl_at hp]
  walk_at "r"
  subst e
  refine seq_go fun nx e => ?_
  walk_at "r"
  subst e
  refine seq_cut (fun st => ∃ (x4 : Slot), st = ⟨[.val (scrW F cs), .val (.int R), .val (pairW p), .own (.lst ((trail F R cs p).map pairW)), x4], S⟩) (fun nx h => ?_) (fun st ⟨x4, es⟩ => by subst es; exact q)
  walk_at "rsFor"
  refine for_inv (fun zs st => ∃ (x4 : Slot) (ds : List Call) (ps : List (Int × Int)) (r : Int × Int), zs = ds.map Call.w ∧ (∀ c ∈ ds, c.ok F) ∧ At F R r ∧ ps.length + ds.length ≤ 100000 ∧ trail F R cs p = ps ++ trail F R ds r ∧ st = ⟨[.val (scrW F cs), .val (.int R), .val (pairW p), .own (.lst ((ps ++ [r]).map pairW)), x4], S⟩) _ _ ⟨.none, cs, [], p, rfl, g.ok, hp, by have := g.len; simpa using this, rfl, rfl⟩ ?_ ?_
  · rintro st ⟨x4, ds, ps, r, e1, _, _, _, e2, es⟩
    have : ds = [] := List.map_eq_nil_iff.mp e1.symm
    subst this
    exact h _ ⟨x4, by rw [es, e2]; rfl⟩
  · rintro z zs st nx ⟨x4, ds, ps, r, e1, hd, hr, hll, e2, es⟩ hn
    subst es
    match ds, e1 with
    | c :: ds, e1 =>
    rw [List.map_cons] at e1
    injection e1 with e3 e4
    subst e3 e4
    unfold ib_p_passed_1
    walk_at "r"
    refine ⟨F, cs, rfl, ?_⟩
    walk_at "r"
    rw [List.map_append]
    simp! only [atI_last]
    refine ⟨c, F, R, r, rfl, hl, hr, ?_⟩
    walk_at "r"
    refine ⟨by rw [sizeLine_eq, List.length_append, List.length_map]; simp only [List.length_cons, List.length_nil] at hll ⊢; omega, hn _ ⟨.val c.w, ds, ps ++ [r], mv F R c r, rfl, fun d h => hd d (List.mem_cons_of_mem _ h), mv_in g.pos (by omega) (hd c (List.mem_cons_self ..)) hr, by simp only [List.length_append, List.length_cons, List.length_nil] at hll ⊢; omega, by rw [e2, List.append_assoc]; rfl, ?_⟩⟩
    rw [List.map_append, List.map_append]
    rfl
local macro_rules | `(tactic| walk_at "ratI_last") => `(tactic| simp (decide := true) only [bodyI, start0, sSeq, sNext, sNever, sCont, sBreak, sDrop, sRet, sRetN, sRet0, sRetO, sIf, sSet, sSetN, sSetP, sPar, sParEN, sParNE, sPar3, sAsg, gNm, gsNil, gsCons, gTp, sAugI, sIxO, sIxS, sAugS, stoL, setW, iVar, iC, iNil, iCons, iTup, iLst, nLst, iFz, iB, gAdd, gI, gIC, gSub, gMul, gDiv, gMod, gPow, gLt, gLe, gGt, gGe, gEq, gNe, gIn, gIsN, isN, iNeg, tTru', gTru, tBl, iChain, tAnd', tOr', tNot', tYes', iIf, iAnd, iOr, iNot, iIx, gIx, atW, iIxO, ownL, oNone, oSome, iSl, gSl, iRevL, iCall, nCall, iFn, Stt.put, Stt.puts, iMtO, gAppend, gInsert, gExtend, gLen, iLenO, gAbs, gInt, gMinMax, gList, gTuple, iListRg, gIsi, tyN, gRepr, cut_13, cut_1_2, cut_1_3, cut_m2, cut_m3, cut_m4, atI_m2, atI_m3, atI_m4, iOfT, tKdIn, iKdIx, atI_0, atI_1, atI_2, atI_3, ixN_4_0, ixN_4_1, ixN_4_2, ixN_4_3, Sto.put_same, Sto.put_put, toNat_2, List.map, List.replicate, List.length_cons, List.length_nil, List.getElem?_cons_zero, List.getElem?_cons_succ, List.getElem?_nil, List.set_cons_zero, List.set_cons_succ, List.set_nil, List.cons_append, List.nil_append, List.append_nil, if_true, if_false, fz_val, fz_new, so_lst, so_dct, so_ins, eqW_ii, eqW_ss, eqW_tt, eqW_ll, eqW_nn, eqW_bb, eqW_ni, eqW_in, eqW_nt, eqW_tn, eqW_nl, eqW_ln, eqW_is, eqW_si, eqWs_nil, eqWs_cons, eqWs_nc, eqWs_cn, okD_int, okD_str, okD_bl, okD_non, okD_tup, okD_lst, eqOk_ii, eqOk_ss, eqOk_nn, eqOk_bb, eqOk_in, eqOk_ni, eqOk_tt, eqOk_ll, flatW_int, flatW_str, flatW_bl, flatW_non, inW, List.any_cons, List.any_nil, List.all_cons, List.all_nil, Bool.or_false, Bool.or_true, Bool.true_or, Bool.false_or, Bool.and_true, Bool.true_and, Bool.and_false, Bool.false_and, Bool.not_true, Bool.not_false, Bool.false_eq_true, true_and, and_true, beq_self_eq_true, List.isEmpty_cons, List.isEmpty_nil, Int.reduceNeg, eq_self, forall_const, iFld, objOf, iProp, iMeth, nMake, iInv, iMulM, iLenM, iIsi, sAtt, iRevT, lIter, nRep, lEnum, lZip, iEqM, gOwn, iDGet2, iAddO, nDisp, nDNew, iPairs, keysW, keyW, nFn, gListN, nListRg, iTupRg, nIf, sParM, iItems, putsR, Sh.R.slot, gIsB, isB, iPeek, tPeek, iPeekS, Stt.ps, noOwn, gInD, nPeek, Stt.pk, frzS, plainW, plainWs, tyS, tyIn, cOk, isAny, isOne, Option.map_some, lk_ne, List.lookup_nil, putW, lk_self, iXf, iIsE, Hnd.w, sRaise1, sRaise0, sTryE, gMax3, gEqN, gReprN, iIdxT, iIdxL, iInRg, nListM, iBR, iFnR, iPub, iMtR, drW, drWs, nOwn, nMeth, nSl, nAdd, nAddO, iMtN, sAugL, gSortedG, tTruO, refW_tup, refW_lst, refW_dct, refW_int, refW_str, refW_bl, refW_non, atI_last])
local macro_rules | `(tactic| walk_at "rCall_w") => `(tactic| simp (decide := true) only [bodyI, start0, sSeq, sNext, sNever, sCont, sBreak, sDrop, sRet, sRetN, sRet0, sRetO, sIf, sSet, sSetN, sSetP, sPar, sParEN, sParNE, sPar3, sAsg, gNm, gsNil, gsCons, gTp, sAugI, sIxO, sIxS, sAugS, stoL, setW, iVar, iC, iNil, iCons, iTup, iLst, nLst, iFz, iB, gAdd, gI, gIC, gSub, gMul, gDiv, gMod, gPow, gLt, gLe, gGt, gGe, gEq, gNe, gIn, gIsN, isN, iNeg, tTru', gTru, tBl, iChain, tAnd', tOr', tNot', tYes', iIf, iAnd, iOr, iNot, iIx, gIx, atW, iIxO, ownL, oNone, oSome, iSl, gSl, iRevL, iCall, nCall, iFn, Stt.put, Stt.puts, iMtO, gAppend, gInsert, gExtend, gLen, iLenO, gAbs, gInt, gMinMax, gList, gTuple, iListRg, gIsi, tyN, gRepr, cut_13, cut_1_2, cut_1_3, cut_m2, cut_m3, cut_m4, atI_m2, atI_m3, atI_m4, iOfT, tKdIn, iKdIx, atI_0, atI_1, atI_2, atI_3, ixN_4_0, ixN_4_1, ixN_4_2, ixN_4_3, Sto.put_same, Sto.put_put, toNat_2, List.map, List.replicate, List.length_cons, List.length_nil, List.getElem?_cons_zero, List.getElem?_cons_succ, List.getElem?_nil, List.set_cons_zero, List.set_cons_succ, List.set_nil, List.cons_append, List.nil_append, List.append_nil, if_true, if_false, fz_val, fz_new, so_lst, so_dct, so_ins, eqW_ii, eqW_ss, eqW_tt, eqW_ll, eqW_nn, eqW_bb, eqW_ni, eqW_in, eqW_nt, eqW_tn, eqW_nl, eqW_ln, eqW_is, eqW_si, eqWs_nil, eqWs_cons, eqWs_nc, eqWs_cn, okD_int, okD_str, okD_bl, okD_non, okD_tup, okD_lst, eqOk_ii, eqOk_ss, eqOk_nn, eqOk_bb, eqOk_in, eqOk_ni, eqOk_tt, eqOk_ll, flatW_int, flatW_str, flatW_bl, flatW_non, inW, List.any_cons, List.any_nil, List.all_cons, List.all_nil, Bool.or_false, Bool.or_true, Bool.true_or, Bool.false_or, Bool.and_true, Bool.true_and, Bool.and_false, Bool.false_and, Bool.not_true, Bool.not_false, Bool.false_eq_true, true_and, and_true, beq_self_eq_true, List.isEmpty_cons, List.isEmpty_nil, Int.reduceNeg, eq_self, forall_const, iFld, objOf, iProp, iMeth, nMake, iInv, iMulM, iLenM, iIsi, sAtt, iRevT, lIter, nRep, lEnum, lZip, iEqM, gOwn, iDGet2, iAddO, nDisp, nDNew, iPairs, keysW, keyW, nFn, gListN, nListRg, iTupRg, nIf, sParM, iItems, putsR, Sh.R.slot, gIsB, isB, iPeek, tPeek, iPeekS, Stt.ps, noOwn, gInD, nPeek, Stt.pk, frzS, plainW, plainWs, tyS, tyIn, cOk, isAny, isOne, Option.map_some, lk_ne, List.lookup_nil, putW, lk_self, iXf, iIsE, Hnd.w, sRaise1, sRaise0, sTryE, gMax3, gEqN, gReprN, iIdxT, iIdxL, iInRg, nListM, iBR, iFnR, iPub, iMtR, drW, drWs, nOwn, nMeth, nSl, nAdd, nAddO, iMtN, sAugL, gSortedG, tTruO, refW_tup, refW_lst, refW_dct, refW_int, refW_str, refW_bl, refW_non, Call.w])
theorem trail_last {F R : Int} {cs : List Call} {p : Int × Int} : ∃ xs, trail F R cs p = xs ++ [run F R cs p] := by
  induction cs generalizing p with
  | nil => exact ⟨[], rfl⟩
  | cons c cs ih =>
    obtain ⟨xs, h⟩ := ih (p := mv F R c p)
    exact ⟨p :: xs, by rw [trail, h]; rfl⟩
def ib_p_moved : IS := (sRet (iIx (iCall sp_p_passed (iCons (iVar 0) (iCons (iVar 1) (iCons (iVar 2) iNil)))) (iNeg (iC (.int 1)))))
def sp_p_moved : ISp := fun ws S Q E => ∃ (F R : Int) (cs : List Call) (p : Int × Int), ws = [scrW F cs, .int R, pairW p] ∧ Gd F cs ∧ Ln F R ∧ At F R p ∧ Q (.val (pairW (run F R cs p))) S
theorem ok_p_moved (ws : List W) (S : Sto) (Q : R → Sto → Prop) (E : Exn → Sto → Prop) (h : sp_p_moved ws S Q E) : bodyI 3 ib_p_moved ws S Q E := by
  obtain ⟨F, R, cs, p, rfl, g, hl, hp, q⟩ := h
  unfold ib_p_moved
  walk_at "r"
  refine ⟨F, R, cs, p, rfl, g, hl, hp, ?_⟩
  obtain ⟨xs, h⟩ := trail_last (F := F) (R := R) (cs := cs) (p := p)
  rw [h, List.map_append]
  walk_at "ratI_last"
  exact q
def ib_p_moves_of_1 : IS := (sDrop (iMtO 2 gAppend (iCons (iCall sp_p_number_of (iCons (iProp [("Script", sp_m_Script_files)] "files" (iVar 0)) (iCons (iCall sp_p_moved (iCons (iVar 0) (iCons (iVar 1) (iCons (iCall sp_p_place_of (iCons (iProp [("Script", sp_m_Script_files)] "files" (iVar 0)) (iCons (iVar 3) iNil))) iNil)))) iNil))) iNil)))
def ib_p_moves_of : IS := (sSeq (sSetN 2 (nLst iNil))
  (sSeq (sFor (lRange1 (iB gMul (iVar 1) (iProp [("Script", sp_m_Script_files)] "files" (iVar 0)))) (gNm 3) ib_p_moves_of_1)
  (sRetO 2)))
def plP (F x : Int) : Int × Int := (x / F, x % F)
def numP (F : Int) (p : Int × Int) : Int := p.1 * F + p.2
def movesL (F R : Int) (cs : List Call) : List Int := (List.range (R * F).toNat).map fun (i : Nat) => numP F (run F R cs (plP F i))
theorem plP_at {F R : Int} {i : Nat} (hF : 0 < F) (h : i < (R * F).toNat) : At F R (plP F i) := by
  have h' : (i : Int) < F * R := by rw [Int.mul_comm]; omega
  obtain ⟨a, b, c, d, _⟩ := plc_in hF (Int.natCast_nonneg i) h'
  exact ⟨a, b, c, d⟩
def sp_p_moves_of : ISp := fun ws S Q E => ∃ (F R : Int) (cs : List Call), ws = [scrW F cs, .int R] ∧ Gd F cs ∧ 1 ≤ R ∧ R ≤ 10000 ∧ Q (.new (.lst ((movesL F R cs).map .int))) S
theorem ok_p_moves_of (ws : List W) (S : Sto) (Q : R → Sto → Prop) (E : Exn → Sto → Prop) (h : sp_p_moves_of ws S Q E) : bodyI 4 ib_p_moves_of ws S Q E := by
  obtain ⟨F, R, cs, rfl, g, h1, h2, q⟩ := h
  have hf := g.fil
  unfold Fil at hf
  have hm : R * F ≤ 30000 := by have := Int.mul_le_mul h2 (show F ≤ 3 by omega) (by omega) (by omega); omega
  have hm0 : 0 ≤ R * F := Int.mul_nonneg (by omega) (by omega)
  unfold ib_p_moves_of
  refine seq_go fun nx e => ?_
  walk_at "r"
  subst e
  refine seq_cut (fun st => ∃ (x3 : Slot), st = ⟨[.val (scrW F cs), .val (.int R), .own (.lst ((movesL F R cs).map .int)), x3], S⟩) (fun nx h => ?_) (fun st ⟨x3, es⟩ => by subst es; exact q)
  walk_at "rsFor_lRange1"
  refine ⟨F, cs, rfl, ?_⟩
  walk_at "r"
  refine ⟨small_r (by omega) (by omega), by unfold i62; omega, for_rng (fun i st => ∃ x3 : Slot, st = ⟨[.val (scrW F cs), .val (.int R), .own (.lst (((List.range i).map fun (i : Nat) => numP F (run F R cs (plP F i))).map .int)), x3], S⟩) _ _ ⟨_, rfl⟩ (fun st ⟨x3, es⟩ => h _ ⟨x3, es⟩) fun i hi st nx ⟨x3, es⟩ hn => ?_⟩
  subst es
  unfold ib_p_moves_of_1
  walk_at "r"
  refine ⟨F, cs, rfl, ?_⟩
  walk_at "r"
  refine ⟨F, cs, rfl, ?_⟩
  walk_at "r"
  refine ⟨F, (i : Int), by rw [Int.zero_add], by omega, bd_of (by omega) (by omega), F, R, cs, plP F i, rfl, g, ⟨by omega, by omega, h1, by omega⟩, plP_at (by omega) hi, F, _, _, rfl, by omega, by omega, ?_⟩
  walk_at "r"
  refine ⟨by rw [sizeLine_eq, List.length_map, List.length_map, List.length_range]; omega, hn _ ⟨.val (.int (0 + i)), ?_⟩⟩
  rw [List.range_succ, List.map_append, List.map_append]
  rfl
def ib_l_calls_1 : IS := (sSeq (sSet 7 (iCall sp_l_call (iCons (iVar 0) (iCons (iVar 1) (iCons (iVar 2) (iCons (iC (.int 4)) iNil))))))
    (sSeq (sSet 8 (iIf (tBl (iB (gIn false) (iIx (iVar 7) (iC (.int 0))) (iTup (iCons (iC (.str "all")) (iCons (iC (.str "up")) (iCons (iC (.str "wheel")) iNil)))))) (iFn gAbs (iCons (iIx (iVar 7) (iNeg (iC (.int 1)))) iNil)) (iC (.int 1))))
    (sIf (tBl (iB gLe (iVar 8) (iVar 5))) (sSeq (sDrop (iMtO 4 gAppend (iCons (iVar 7) iNil)))
      (sAugI 5 (· - ·) (iVar 8))) sNext)))
def ib_l_calls : IS := (sSeq (sParNE 4 5 (nLst iNil) (iC (.int 15)))
  (sSeq (sFor (lRange1 (iVar 3)) (gNm 6) ib_l_calls_1)
  (sRetO 4)))
theorem eqWs_self_int (xs : List Int) : eqWs (xs.map .int) (xs.map .int) = true := by
  induction xs with
  | nil => rfl
  | cons x xs ih => simp only [List.map_cons, eqWs, eqW, ih, beq_self_eq_true, Bool.and_self]
/-- a call's size -/
def Call.sz : Call → Int
  | .all k => if k < 0 then -k else k
  | .up _ k => if k < 0 then -k else k
  | .wheel _ _ k => if k < 0 then -k else k
  | _ => 1
def szs (cs : List Call) : Int := (cs.map Call.sz).sum
theorem szs_app {cs : List Call} {c : Call} : szs (cs ++ [c]) = szs cs + c.sz := by
  unfold szs
  simp
def sp_l_calls : ISp := fun ws S Q E => ∃ (a : Addr) (F n : Int) (ks : List Str), ws = [.ref a, .int F, .lst (ks.map .str), .int n] ∧ 2 ≤ F ∧ F ≤ 3 ∧ 0 ≤ n ∧ n ≤ 1000 ∧ ks ≠ [] ∧ ks.length < 100 ∧ (∀ k ∈ ks, k ∈ tenW) ∧ Bg S a ∧
  ∀ (cs : List Call) S', Gd F cs → (cs.length : Int) ≤ n → szs cs ≤ 15 → (∀ c ∈ cs, c.word ∈ ks) → Bx a S S' → Q (.new (.lst (cs.map Call.w))) S'
theorem Call.lt_nz {m : Int} {c : Call} (h : c.lt m) : c.nz := by cases c <;> first | exact h.1 | trivial
theorem ok_l_calls (ws : List W) (S : Sto) (Q : R → Sto → Prop) (E : Exn → Sto → Prop) (h : sp_l_calls ws S Q E) : bodyI 9 ib_l_calls ws S Q E := by
  obtain ⟨a, F, n, ks, rfl, h2, h3, n0, n1, hk, hkl, hks, hb, q⟩ := h
  unfold ib_l_calls
  refine seq_go fun nx e => ?_
  walk_at "r"
  subst e
  refine seq_cut (fun st => ∃ (x5 x6 x7 x8 : Slot) (cs : List Call) (S' : Sto), Gd F cs ∧ (cs.length : Int) ≤ n ∧ szs cs ≤ 15 ∧ (∀ c ∈ cs, c.word ∈ ks) ∧ Bx a S S' ∧ st = ⟨[.val (.ref a), .val (.int F), .val (.lst (ks.map .str)), .val (.int n), .own (.lst (cs.map Call.w)), x5, x6, x7, x8], S'⟩) (fun nx h => ?_) (fun st ⟨x5, x6, x7, x8, cs, S', g1, g2, g3, g4, g5, es⟩ => by subst es; exact q cs S' g1 g2 g3 g4 g5)
  walk_at "rsFor_lRange1"
  refine ⟨by unfold i62; omega, for_rng (fun i st => ∃ (x6 x7 x8 : Slot) (cs : List Call) (S' : Sto), Gd F cs ∧ cs.length ≤ i ∧ szs cs ≤ 15 ∧ (∀ c ∈ cs, c.word ∈ ks) ∧ Bx a S S' ∧ st = ⟨[.val (.ref a), .val (.int F), .val (.lst (ks.map .str)), .val (.int n), .own (.lst (cs.map Call.w)), .val (.int (15 - szs cs)), x6, x7, x8], S'⟩) _ _ ⟨.none, .none, .none, [], S, ⟨by unfold Fil; omega, fun _ z => (nomatch z), by simp⟩, by simp, by decide, fun _ z => (nomatch z), .refl hb, rfl⟩ (fun st ⟨x6, x7, x8, cs, S', g1, g2, g3, g4, g5, es⟩ => h _ ⟨_, x6, x7, x8, cs, S', g1, by omega, g3, g4, g5, es⟩) fun i hi st nx ⟨x6, x7, x8, cs, S', g1, g2, g3, g4, g5, es⟩ hn => ?_⟩
  subst es
  unfold ib_l_calls_1
  refine seq_go fun ny e => ?_
  walk_at "r"
  refine ⟨a, F, 4, ks, rfl, h2, h3, by omega, bd_of (by omega) (by omega), hk, hkl, hks, g5.bg, fun c S2 c1 c2 c3 b2 => ?_⟩
  subst e
  refine seq_step ⟨[.val (.ref a), .val (.int F), .val (.lst (ks.map .str)), .val (.int n), .own (.lst (cs.map Call.w)), .val (.int (15 - szs cs)), .val (.int (0 + i)), .val c.w, .val (.int c.sz)], S2⟩ (fun ny h => ?_) ?_
  · cases c <;> walk_at "rCall_w" <;> exact h
  walk_at "r"
  refine ifb (fun z => ?_) (fun z => ?_)
  · have z := of_decide_eq_true z
    refine ⟨by rw [sizeLine_eq, List.length_map]; omega, hn _ ⟨.val (.int (0 + i)), .val c.w, .val (.int c.sz), cs ++ [c], S2, ⟨g1.fil, fun d hd => ?_, by rw [List.length_append, List.length_singleton]; omega⟩, by rw [List.length_append, List.length_singleton]; omega, by rw [szs_app]; omega, fun d hd => ?_, g5.trans b2, ?_⟩⟩
    · rcases List.mem_append.mp hd with hd | hd
      · exact g1.gd d hd
      · rw [List.mem_singleton.mp hd]; exact ⟨c1, Call.lt_nz (m := 4 + 4) c2⟩
    · rcases List.mem_append.mp hd with hd | hd
      · exact g4 d hd
      · rw [List.mem_singleton.mp hd]; exact c3
    · rw [szs_app, List.map_append, show 15 - (szs cs + c.sz) = 15 - szs cs - c.sz by omega]
      rfl
  · exact hn _ ⟨_, _, _, cs, S2, g1, by omega, g3, g4, g5.trans b2, rfl⟩
abbrev invC (cs : List Call) : List Call := cs.reverse.map Call.tn
/-- who stands at a number behind calls -/
def bk (F R : Int) (cs : List Call) (j : Int) : Int := numP F (run F R (invC cs) (plP F j))
def ordL (F R : Int) (cs : List Call) : List Int := (List.range (F * R).toNat).map fun (i : Nat) => bk F R cs i
section
variable {F R : Int} {cs ds es : List Call} {p : Int × Int} {j : Int}
def Oks (F : Int) (cs : List Call) : Prop := ∀ c ∈ cs, c.ok F
theorem Oks.app (h : Oks F cs) (k : Oks F ds) : Oks F (cs ++ ds) := fun c hc => (List.mem_append.mp hc).elim (h c) (k c)
theorem Oks.inv (h : Oks F cs) : Oks F (invC cs) := fun c hc => by
  obtain ⟨d, hd, rfl⟩ := List.mem_map.mp hc
  exact Call.tn_ok (h d (List.mem_reverse.mp hd))
theorem num_pl (hF : 0 < F) : numP F (plP F j) = j := by
  unfold numP plP
  have := Int.mul_ediv_add_emod j F
  rw [Int.mul_comm]
  exact this
theorem pl_num (h : At F R p) : plP F (numP F p) = p := by
  obtain ⟨_, _, h0, h1⟩ := h
  unfold plP numP
  have a : (p.1 * F + p.2) / F = p.1 := by
    rw [Int.add_comm, Int.add_mul_ediv_right _ _ (by omega), Int.ediv_eq_zero_of_lt h0 h1]; omega
  have b : (p.1 * F + p.2) % F = p.2 := by
    rw [Int.add_comm, Int.add_mul_emod_self_right, Int.emod_eq_of_lt h0 h1]
  rw [a, b]
theorem numP_in (h : At F R p) : 0 ≤ numP F p ∧ numP F p < F * R := by
  obtain ⟨h0, h1, h2, h3⟩ := h
  unfold numP
  have a := Int.mul_nonneg h0 (show 0 ≤ F by omega)
  have b : (p.1 + 1) * F ≤ R * F := Int.mul_le_mul_of_nonneg_right (by omega) (by omega)
  rw [Int.add_mul, Int.mul_comm R F] at b
  omega
theorem pl_at (hF : 0 < F) (h0 : 0 ≤ j) (h1 : j < F * R) : At F R (plP F j) := by
  obtain ⟨a, b, c, d, _⟩ := plc_in hF h0 h1
  exact ⟨a, b, c, d⟩
theorem run_inv' (hF : 0 < F) (hR : 0 < R) (hc : Oks F cs) (h : At F R p) : run F R cs (run F R (invC cs) p) = p := by
  have e : invC (invC cs) = cs := by
    unfold invC
    rw [← List.map_reverse, List.reverse_reverse, List.map_map]
    conv => rhs; rw [← List.map_id cs]
    exact List.map_congr_left fun c _ => by cases c <;> simp [Call.tn]
  have := run_inv (cs := invC cs) hF hR hc.inv h
  rw [show (invC cs).reverse.map Call.tn = cs from e] at this
  exact this
theorem bk_in (hF : 0 < F) (hR : 0 < R) (hc : Oks F cs) (h0 : 0 ≤ j) (h1 : j < F * R) : 0 ≤ bk F R cs j ∧ bk F R cs j < F * R := numP_in (run_in hF hR hc.inv (pl_at hF h0 h1))
theorem bk_app (hF : 0 < F) (hR : 0 < R) (hd : Oks F ds) (h0 : 0 ≤ j) (h1 : j < F * R) : bk F R (cs ++ ds) j = bk F R cs (bk F R ds j) := by
  unfold bk
  rw [pl_num (run_in hF hR hd.inv (pl_at hF h0 h1)), invC, List.reverse_append, List.map_append, run_app]
/-- where a number goes -/
def fw (F R : Int) (cs : List Call) (j : Int) : Int := numP F (run F R cs (plP F j))
theorem fw_bk (hF : 0 < F) (hR : 0 < R) (hc : Oks F cs) (h0 : 0 ≤ j) (h1 : j < F * R) : fw F R cs (bk F R cs j) = j := by
  have a := pl_at (R := R) hF h0 h1
  unfold fw bk
  rw [pl_num (run_in hF hR hc.inv a), run_inv' hF hR hc a, num_pl hF]
theorem bk_fw (hF : 0 < F) (hR : 0 < R) (hc : Oks F cs) (h0 : 0 ≤ j) (h1 : j < F * R) : bk F R cs (fw F R cs j) = j := by
  have a := pl_at (R := R) hF h0 h1
  unfold fw bk
  rw [pl_num (run_in hF hR hc a), run_inv hF hR hc a, num_pl hF]
theorem fw_in (hF : 0 < F) (hR : 0 < R) (hc : Oks F cs) (h0 : 0 ≤ j) (h1 : j < F * R) : 0 ≤ fw F R cs j ∧ fw F R cs j < F * R := numP_in (run_in hF hR hc (pl_at hF h0 h1))
/-- two lists of calls that do the same -/
def Same (F R : Int) (cs ds : List Call) : Prop := ∀ p, At F R p → run F R cs p = run F R ds p
theorem Same.refl : Same F R cs cs := fun _ _ => rfl
theorem Same.symm (h : Same F R cs ds) : Same F R ds cs := fun p hp => (h p hp).symm
theorem Same.trans (h : Same F R cs ds) (k : Same F R ds es) : Same F R cs es := fun p hp => (h p hp).trans (k p hp)
theorem Same.inv (hF : 0 < F) (hR : 0 < R) (hc : Oks F cs) (hd : Oks F ds) (h : Same F R cs ds) : Same F R (invC cs) (invC ds) := fun p hp => by
  have hq := run_in hF hR hd.inv hp
  have e := h _ hq
  rw [run_inv' hF hR hd hp] at e
  have := run_inv hF hR hc hq
  rw [e] at this
  exact this
theorem Same.app {cs' ds' : List Call} (hF : 0 < F) (hR : 0 < R) (hc : Oks F cs) (h : Same F R cs cs') (k : Same F R ds ds') : Same F R (cs ++ ds) (cs' ++ ds') := fun p hp => by
  rw [run_app, run_app, ← h p hp, k _ (run_in hF hR hc hp)]
theorem Oks.rep {n : Nat} (h : Oks F cs) : Oks F (List.replicate n cs).flatten := fun c hc => by
  obtain ⟨x, hx, hc⟩ := List.mem_flatten.mp hc
  rw [List.eq_of_mem_replicate hx] at hc
  exact h c hc
theorem Oks.times {k : Int} (h : Oks F cs) : Oks F (timesC cs k) := by
  unfold timesC
  split
  · exact h.rep
  · exact h.inv.rep
theorem ordL_nil (hF : 0 < F) : ordL F R [] = (List.range (F * R).toNat).map fun (i : Nat) => (i : Int) := by
  unfold ordL
  exact List.map_congr_left fun i _ => num_pl hF
end
abbrev lineF (F R : Int) (xs : List Int) : List (Str × W) := [("width", .int F), ("deep", .int R), ("standing", .lst (xs.map .int))]
/-- a line of which the pupils stand behind calls -/
abbrev lnO (F R : Int) (ds : List Call) : SO := .ins "Line" (lineF F R (ordL F R ds))
structure Lin (F R : Int) : Prop where
  fil : Fil F
  r1 : 1 ≤ R
  r2 : R ≤ 400
theorem Lin.F0 {F R : Int} (h : Lin F R) : 0 < F := by have := h.fil; unfold Fil at this; omega
theorem Lin.R0 {F R : Int} (h : Lin F R) : 0 < R := by have := h.r1; omega
theorem Lin.sz {F R : Int} (h : Lin F R) : 0 ≤ F * R ∧ F * R ≤ 1200 := by
  have a := h.fil; have b := h.r1; have c := h.r2
  unfold Fil at a
  rcases a with rfl | rfl <;> omega
def kC_MOST_ROWS : W := .int (400)
def ib_p_is_rows : IS := (sRet (iAnd (iCall sp_p_is_integer (iCons (iVar 0) iNil)) (iB gGe (iVar 0) (iC (.int 1)))))
def sp_p_is_rows : ISp := fun ws S Q E => ∃ R : Int, ws = [.int R] ∧ Q (.val (.bl (decide (1 ≤ R)))) S
theorem ok_p_is_rows (ws : List W) (S : Sto) (Q : R → Sto → Prop) (E : Exn → Sto → Prop) (h : sp_p_is_rows ws S Q E) : bodyI 1 ib_p_is_rows ws S Q E := by
  obtain ⟨R, rfl, q⟩ := h
  unfold ib_p_is_rows
  walk_at "r"
  refine ⟨_, rfl, (fun z => nomatch z), ?_⟩
  simp! only [isI]
  exact q
def ib_k_Line : IS := (sSeq (sIf (tNot' (tTru' (iCall sp_p_is_files (iCons (iVar 1) iNil)))) sNever sNext)
  (sSeq (sIf (tOr' (tNot' (tTru' (iCall sp_p_is_rows (iCons (iVar 2) iNil)))) (tBl (iB gGt (iVar 2) (iC kC_MOST_ROWS)))) sNever sNext)
  (sSeq (sAtt ["Line"] "width" (iVar 0) (iVar 1))
  (sSeq (sAtt ["Line"] "deep" (iVar 0) (iVar 2))
  (sAtt ["Line"] "standing" (iVar 0) (iListRg (iB gMul (iVar 1) (iVar 2))))))))
def sp_k_Line : ISp := fun ws S Q E => ∃ (a : Addr) (F R : Int), ws = [.ref a, .int F, .int R] ∧ S a = some (.ins "Line" []) ∧ Lin F R ∧ Q (.val .non) (S.put a (lnO F R []))
theorem ok_k_Line (ws : List W) (S : Sto) (Q : R → Sto → Prop) (E : Exn → Sto → Prop) (h : sp_k_Line ws S Q E) : bodyI 3 ib_k_Line ws S Q E := by
  obtain ⟨a, F, R, rfl, ha, hl, q⟩ := h
  have hs := hl.sz
  have h1 := hl.r1
  have h2 := hl.r2
  unfold ib_k_Line
  refine seq_go fun nx e => ?_
  walk_at "r"
  refine ⟨F, rfl, ?_⟩
  simp! only [decide_eq_true (show F = 2 ∨ F = 3 from hl.fil)]
  subst e
  refine seq_go fun nx e => ?_
  walk_at "r"
  refine ⟨R, rfl, ?_⟩
  simp! only [decide_eq_true h1, kC_MOST_ROWS, decide_eq_false (show ¬ 400 < R by omega)]
  subst e
  refine seq_go fun nx e => ?_
  simp! only [ha]
  subst e
  refine seq_go fun nx e => ?_
  walk_at "r"
  subst e
  walk_at "r"
  refine ⟨small_l (by have := hl.fil; unfold Fil at this; omega) (by have := hl.fil; unfold Fil at this; omega), hs.1, by omega, ?_⟩
  have e : rng 0 (F * R).toNat = (ordL F R []).map .int := by
    rw [ordL_nil hl.F0, List.map_map]
    unfold rng
    exact List.map_congr_left fun i _ => by simp
  rw [e]
  exact q
def ib_m_Line_follow_1 : IS := (sIxO 2 (iVar 4) (iIx (iFld ["Line"] "standing" (iVar 0)) (iVar 3)))
def ib_m_Line_follow : IS := (sSeq (sSetN 2 (nRep (iLst (iCons (iC (.int 0)) iNil)) (iFn gLen (iCons (iVar 1) iNil))))
  (sSeq (sFor (lEnum (iVar 1)) (gTp 2 (gsCons (gNm 3) (gsCons (gNm 4) gsNil))) ib_m_Line_follow_1)
  (sAtt ["Line"] "standing" (iVar 0) (iVar 2))))
def sp_m_Line_follow : ISp := fun ws S Q E => ∃ (a : Addr) (F R : Int) (cs ds : List Call), ws = [.ref a, .lst ((movesL F R cs).map .int)] ∧ S a = some (lnO F R ds) ∧ Lin F R ∧ Oks F cs ∧ Q (.val .non) (S.put a (lnO F R (ds ++ cs)))
theorem for_map {g : IG} {body : IS} {EI : XI} {D : IEnds} {f : Nat → W} (I : Nat → Stt → Prop) (n : Nat) (st : Stt) (h0 : I 0 st) (hd : ∀ st, I n st → D.nx st)
    (hs : ∀ i, i < n → ∀ st (nx : Stt → Prop), I i st → (∀ st', I (i + 1) st' → nx st') → g (f i) st fun st1 => body EI { nx := nx, ct := nx, bk := D.nx, rt := D.rt } st1) : forGo g body EI D ((List.range n).map f) st := by
  have key : ∀ (m i : Nat) (st : Stt), i + m = n → I i st → forGo g body EI D ((List.range' i m).map f) st := by
    intro m
    induction m with
    | zero => intro i st e hi; exact hd st (by have : i = n := by omega
                                               rw [← this]; exact hi)
    | succ m ih =>
      intro i st e hi
      rw [List.range'_succ, List.map_cons]
      exact hs i (by omega) st _ hi fun st' h' => ih (i + 1) st' (by omega) h'
  have := key n 0 st (by omega) h0
  rw [← List.range_eq_range'] at this
  exact this
/-- the list while it is filled -/
def fillL (F R : Int) (cs ds : List Call) (n : Int) : List Int := (List.range (F * R).toNat).map fun (j : Nat) => if bk F R cs j < n then bk F R ds (bk F R cs j) else 0
theorem ok_m_Line_follow (ws : List W) (S : Sto) (Q : R → Sto → Prop) (E : Exn → Sto → Prop) (h : sp_m_Line_follow ws S Q E) : bodyI 5 ib_m_Line_follow ws S Q E := by
  obtain ⟨a, F, R, cs, ds, rfl, ha, hl, hc, q⟩ := h
  have hF := hl.F0
  have hR := hl.R0
  have hs := hl.sz
  have ml : ((movesL F R cs).map W.int).length = (F * R).toNat := by unfold movesL; rw [List.length_map, List.length_map, List.length_range, Int.mul_comm]
  unfold ib_m_Line_follow
  refine seq_go fun nx e => ?_
  walk_at "r"
  refine ⟨by omega, by omega, by rw [ml, sizeLine_eq]; omega, ?_⟩
  rw [ml]
  subst e
  have e0 : (List.replicate ((F * R).toNat : Int).toNat [W.int 0]).flatten = (fillL F R cs ds 0).map .int := by
    rw [Int.toNat_natCast]
    unfold fillL
    have : ∀ n : Nat, n ≤ (F * R).toNat → (List.replicate n [W.int 0]).flatten = ((List.range n).map fun (j : Nat) => if bk F R cs j < 0 then bk F R ds (bk F R cs j) else 0).map W.int := by
      intro n
      induction n with
      | zero => intro _; rfl
      | succ n ih =>
        intro hn
        rw [List.replicate_succ', List.flatten_append, ih (by omega), List.range_succ, List.map_append, List.map_append]
        have := (bk_in (cs := cs) (j := n) hF hR hc (by omega) (by omega)).1
        simp only [List.map_cons, List.map_nil, List.flatten_cons, List.flatten_nil, List.append_nil]
        rw [if_neg (by omega)]
    exact this _ (Nat.le_refl _)
  rw [e0]
  refine seq_cut (fun st => ∃ (x3 x4 : Slot), st = ⟨[.val (.ref a), .val (.lst ((movesL F R cs).map .int)), .own (.lst ((fillL F R cs ds (F * R)).map .int)), x3, x4], S⟩) (fun nx h => ?_) (fun st ⟨x3, x4, es⟩ => ?_)
  · walk_at "rsFor"
    unfold enumW
    rw [ml]
    refine for_map (fun i st => ∃ (x3 x4 : Slot), st = ⟨[.val (.ref a), .val (.lst ((movesL F R cs).map .int)), .own (.lst ((fillL F R cs ds i).map .int)), x3, x4], S⟩) _ _ ⟨_, _, rfl⟩ (fun st ⟨x3, x4, es⟩ => h _ ⟨x3, x4, by rw [es, Int.toNat_of_nonneg hs.1]⟩) fun i hi st nx ⟨x3, x4, es⟩ hn => ?_
    subst es
    have em : (((movesL F R cs).map W.int)[i]?).getD .non = .int (fw F R cs i) := by
      unfold movesL
      rw [List.map_map, List.getElem?_map, List.getElem?_range (by rw [Int.mul_comm]; exact hi)]
      rfl
    rw [em]
    unfold ib_m_Line_follow_1
    simp! only [ha]
    have fi := fw_in (cs := cs) (j := i) hF hR hc (by omega) (by omega)
    have fl : ((fillL F R cs ds i).map W.int).length = (F * R).toNat := by unfold fillL; rw [List.length_map, List.length_map, List.length_range]
    have e1 : atI ((ordL F R ds).map W.int) (i : Int) = some (.int (bk F R ds i)) := by
      rw [atI_pos (by omega) (by unfold ordL; rw [List.length_map, List.length_map, List.length_range]; omega)]
      unfold ordL
      simp
    have e2 : ixN ((fillL F R cs ds i).map W.int).length (fw F R cs i) = some (fw F R cs i).toNat := by
      rw [fl]
      unfold ixN
      rw [if_pos fi.1, if_pos (by omega)]
    rw [e1, e2]
    simp only
    refine hn _ ⟨.val (.int i), .val (.int (fw F R cs i)), ?_⟩
    have e3 : ((fillL F R cs ds i).map W.int).set (fw F R cs i).toNat (.int (bk F R ds i)) = (fillL F R cs ds ((i + 1 : Nat) : Int)).map W.int := by
      unfold fillL
      refine List.ext_getElem (by simp) fun k h1 h2 => ?_
      simp only [List.length_set, List.length_map, List.length_range] at h1
      rw [List.getElem_set]
      simp only [List.getElem_map, List.getElem_range]
      have b0 := bk_in (cs := cs) (j := k) hF hR hc (by omega) (by omega)
      by_cases z : (fw F R cs i).toNat = k
      · have zk : (k : Int) = fw F R cs i := by omega
        rw [if_pos z, zk, bk_fw hF hR hc (by omega) (by omega), if_pos (by omega)]
      · rw [if_neg z]
        have : bk F R cs k ≠ i := fun y => z (by
          have := fw_bk (cs := cs) (j := k) hF hR hc (by omega) (by omega)
          rw [y] at this
          omega)
        by_cases y : bk F R cs k < i
        · rw [if_pos y, if_pos (by omega)]
        · rw [if_neg y, if_neg (by omega)]
    rw [e3]
  · subst es
    simp! only [ha]
    have e9 : fillL F R cs ds (F * R) = ordL F R (ds ++ cs) := by
      unfold fillL ordL
      refine List.map_congr_left fun j hj => ?_
      have hj := List.mem_range.mp hj
      rw [if_pos (bk_in hF hR hc (by omega) (by omega)).2, bk_app hF hR hc (by omega) (by omega)]
    rw [e9]
    exact q
def ib_m_Line_do : IS := (sIf (tAnd' (tTru' (iIsi ["Script"] (iCons (iVar 1) (iCons (iC (.glo "Script")) iNil)))) (tBl (iB gEq (iProp [("Script", sp_m_Script_files)] "files" (iVar 1)) (iFld ["Line"] "width" (iVar 0))))) (sDrop (iMeth [("Line", sp_m_Line_follow)] "follow" (iVar 0) (iCons (iCall sp_p_moves_of (iCons (iVar 1) (iCons (iFld ["Line"] "deep" (iVar 0)) iNil))) iNil))) (sIf (tTru' (iCall sp_p_is_call (iCons (iFld ["Line"] "width" (iVar 0)) (iCons (iVar 1) iNil)))) (sDrop (iMeth [("Line", sp_m_Line_follow)] "follow" (iVar 0) (iCons (iCall sp_p_moves_of (iCons (iFz (nMake "Script" sp_k_Script (iCons (iFld ["Line"] "width" (iVar 0)) (iCons (iLst (iCons (iVar 1) iNil)) iNil)))) (iCons (iFld ["Line"] "deep" (iVar 0)) iNil))) iNil))) sNever))
def ib_m_Line_order : IS := (sRet (iFn gList (iCons (iFld ["Line"] "standing" (iVar 0)) iNil)))
def sp_m_Line_do : ISp := fun ws S Q E => ∃ (a : Addr) (F R : Int) (cs ds : List Call) (x : W), ws = [.ref a, x] ∧ (x = scrW F cs ∨ ∃ c, x = c.w ∧ cs = [c]) ∧ S a = some (lnO F R ds) ∧ Lin F R ∧ Gd F cs ∧ Q (.val .non) (S.put a (lnO F R (ds ++ cs)))
theorem ok_m_Line_do (ws : List W) (S : Sto) (Q : R → Sto → Prop) (E : Exn → Sto → Prop) (h : sp_m_Line_do ws S Q E) : bodyI 2 ib_m_Line_do ws S Q E := by
  obtain ⟨a, F, R, cs, ds, x, rfl, hx, ha, hl, g, q⟩ := h
  have h1 := hl.r1
  have h2 := hl.r2
  unfold ib_m_Line_do
  rcases hx with rfl | ⟨c, rfl, rfl⟩
  · simp! only [ha]
    refine ⟨F, cs, rfl, ?_⟩
    simp! only [ha]
    refine ⟨F, R, cs, rfl, g, h1, by omega, ?_⟩
    simp! only [ha]
    refine ⟨a, F, R, cs, ds, rfl, ha, hl, g.ok, q⟩
  · have cw : tyN c.w = some "tuple" := by cases c <;> rfl
    have cw2 : ∃ ws, c.w = .tup ws := by cases c <;> exact ⟨_, rfl⟩
    obtain ⟨ws, ew⟩ := cw2
    have gi := g.gd c (List.mem_singleton.mpr rfl)
    rw [ew]
    simp! only [ha]
    refine ⟨F, c, by rw [ew], gi, ?_⟩
    simp! only [ha]
    have hS := ha
    refine fun a ha => mk_Script (cs := [c]) ha (.inl (by rw [List.map_cons, ew]; rfl)) g ⟨rfl, ?_⟩; simp only [Sto.put_same, so_ins, Sto.del_put ha]
    simp! only [hS]
    exact ⟨F, R, [c], rfl, g, h1, by omega, _, F, R, [c], ds, rfl, hS, hl, g.ok, q⟩
theorem okDs_int (xs : List Int) : (xs.map W.int).all (okD 63) = true := List.all_eq_true.mpr fun x hx => by
  obtain ⟨y, _, rfl⟩ := List.mem_map.mp hx
  rfl
theorem eqWs_ints (xs ys : List Int) : eqWs (xs.map .int) (ys.map .int) = decide (xs = ys) := by
  induction xs generalizing ys with
  | nil => cases ys <;> rfl
  | cons x xs ih =>
    cases ys with
    | nil => rfl
    | cons y ys =>
      simp only [List.map_cons, eqWs, eqW, ih, List.cons.injEq]
      by_cases a : x = y
      · subst a; simp
      · simp [a]
def sp_m_Line_order : ISp := fun ws S Q E => ∃ (a : Addr) (F R : Int) (ds : List Call), ws = [.ref a] ∧ S a = some (lnO F R ds) ∧ Q (.val (.lst ((ordL F R ds).map .int))) S
theorem ok_m_Line_order (ws : List W) (S : Sto) (Q : R → Sto → Prop) (E : Exn → Sto → Prop) (h : sp_m_Line_order ws S Q E) : bodyI 1 ib_m_Line_order ws S Q E := by
  obtain ⟨a, F, R, ds, rfl, ha, q⟩ := h
  unfold ib_m_Line_order
  simp! only [ha]
  exact q
/-- straight calls of a script -/
structure St5 (F : Int) (cs : List Call) : Prop where
  gd : Gd F cs
  st : ∀ c ∈ cs, c.opn = false
theorem St5.nil {F : Int} (h : Fil F) : St5 F [] := ⟨⟨h, fun _ z => (nomatch z), by simp⟩, fun _ z => nomatch z⟩
theorem St5.app {F : Int} {cs ds : List Call} (h : St5 F cs) (k : St5 F ds) (l : cs.length + ds.length ≤ 100000) : St5 F (cs ++ ds) := ⟨h.gd.app k.gd l, fun c hc => (List.mem_append.mp hc).elim (h.st c) (k.st c)⟩
theorem St5.one {F : Int} {c : Call} (h : Fil F) (g : c.gd F) (s : c.opn = false) : St5 F [c] := ⟨⟨h, fun d hd => by rw [List.mem_singleton.mp hd]; exact g, by simp⟩, fun d hd => by rw [List.mem_singleton.mp hd]; exact s⟩
theorem Call.tn_opn {c : Call} : c.tn.opn = c.opn := by cases c <;> rfl
theorem St5.inv {F : Int} {cs : List Call} (h : St5 F cs) : St5 F (invC cs) := ⟨h.gd.inv, fun c hc => by
  obtain ⟨d, hd, rfl⟩ := List.mem_map.mp hc
  rw [Call.tn_opn]
  exact h.st d (List.mem_reverse.mp hd)⟩
theorem St5.sub {F : Int} {cs ds : List Call} (h : St5 F cs) (m : ∀ c ∈ ds, c ∈ cs) (l : ds.length ≤ 100000) : St5 F ds := ⟨⟨h.gd.fil, fun c hc => h.gd.gd c (m c hc), l⟩, fun c hc => h.st c (m c hc)⟩
/-- from the front, or (b) from the back, so many rows; a file -/
structure Spt where
  b : Bool
  k : Int
  f : Int
def Spt.at (R : Int) (x : Spt) : Int × Int := (if x.b = true then R - 1 - x.k else x.k, x.f)
/-- d rows away from the end; through it to the other end -/
def Spt.sh (x : Spt) (d : Int) : Spt := if 0 ≤ x.k + d then ⟨x.b, x.k + d, x.f⟩ else ⟨!x.b, -(x.k + d) - 1, x.f⟩
/-- d rows away from the end; at the end into the file g -/
def Spt.wh (x : Spt) (d g : Int) : Spt := if 0 ≤ x.k + d then ⟨x.b, x.k + d, x.f⟩ else ⟨x.b, -(x.k + d) - 1, g⟩
def Spt.go (F : Int) (c : Call) (x : Spt) : Spt := match c with
  | .all k => x.sh (if x.b = true then k else -k)
  | .up g k => if x.f = g then x.sh (if x.b = true then k else -k) else x
  | .about => ⟨!x.b, x.k, F - 1 - x.f⟩
  | .wheel g h k => if x.f ≠ g ∧ x.f ≠ h then x else if x.f = g then x.wh (if x.b = true then k else -k) h else x.wh (if x.b = true then -k else k) g
  | .swap g h => if x.f ≠ g ∧ x.f ≠ h then x else ⟨x.b, x.k, if x.f = g then h else g⟩
  | .front g h => if (x.f ≠ g ∧ x.f ≠ h) ∨ x.b = true ∨ 0 < x.k then x else ⟨x.b, x.k, if x.f = g then h else g⟩
  | _ => x
def Spt.on (x : Spt) (t : Int) : Spt := ⟨x.b, x.k + t, x.f⟩
theorem lc_fil {g : IG} {t : IT} {ie : IE} {vs : List Nat} {Q : SO → Stt → Prop} {α : Type} (st0 : Stt) (enc f : α → W) (p : α → Bool) (as : List α) (st : Stt)
    (h : ∀ a ∈ as, ∀ (Y : W → Stt → Prop) (N : Stt → Prop), (p a = true → ∀ st', st'.wipe vs = st0 → Y (f a) st') → (p a = false → ∀ st', st'.wipe vs = st0 → N st') → g (enc a) st0 fun st1 => t noX st1 fun b st2 => if b = true then ie noX st2 Y else N st2)
    (e : st.wipe vs = st0) (hl : as.length ≤ sizeLine) (q : ∀ st', st'.wipe vs = st0 → Q (.lst ((as.filter p).map f)) st') : lcGo g t ie vs Q (as.map enc) [] st := by
  have key : ∀ (as' : List α) (acc : List W) (st : Stt), (∀ a ∈ as', a ∈ as) → st.wipe vs = st0 → acc.length + as'.length ≤ sizeLine → (∀ st', st'.wipe vs = st0 → Q (.lst (acc ++ (as'.filter p).map f)) st') → lcGo g t ie vs Q (as'.map enc) acc st := by
    intro as'
    induction as' with
    | nil =>
      intro acc st _ e _ q
      have := q st e
      rw [List.filter_nil, List.map_nil, List.append_nil] at this
      exact this
    | cons a as' ih =>
      intro acc st hm e hl q
      rw [List.length_cons] at hl
      show g (enc a) (st.wipe vs) fun st1 => t noX st1 fun b st2 => if b = true then ie noX st2 fun y st3 => acc.length < sizeLine ∧ lcGo g t ie vs Q (as'.map enc) (acc ++ [y]) st3 else lcGo g t ie vs Q (as'.map enc) acc st2
      rw [e]
      refine h a (hm a (List.mem_cons_self ..)) _ _ (fun hp st' es => ⟨by omega, ih _ _ (fun b hb => hm b (List.mem_cons_of_mem _ hb)) es (by rw [List.length_append, List.length_singleton]; omega) fun st2 e2 => ?_⟩) fun hp st' es => ih _ _ (fun b hb => hm b (List.mem_cons_of_mem _ hb)) es (by omega) fun st2 e2 => ?_
      · have := q st2 e2
        rw [List.filter_cons, if_pos hp, List.map_cons] at this
        rw [List.append_assoc]
        exact this
      · have := q st2 e2
        rw [List.filter_cons, if_neg (by rw [hp]; decide)] at this
        exact this
  exact key as [] st (fun _ h => h) e (by rw [List.length_nil]; omega) fun st' e => by rw [List.nil_append]; exact q st' e
theorem cut_to {α : Type} {xs : List α} {i : Int} (h0 : 0 ≤ i) : cutW xs none (some i) = xs.take i.toNat := by
  unfold cutW HT.sIx
  simp only [List.drop_zero, Nat.sub_zero]
  rw [if_neg (by omega)]
  by_cases h : i.toNat ≤ xs.length
  · rw [Nat.min_eq_left h]
  · rw [Nat.min_eq_right (by omega), List.take_length, List.take_of_length_le (by omega)]
theorem kb_NoneType_int : kitB "NoneType" "int" = some false := rfl
theorem kb_NoneType_bool : kitB "NoneType" "bool" = some false := rfl
theorem kb_NoneType_str : kitB "NoneType" "str" = some false := rfl
theorem kb_NoneType_tuple : kitB "NoneType" "tuple" = some false := rfl
theorem kb_NoneType_list : kitB "NoneType" "list" = some false := rfl
theorem kb_NoneType_dict : kitB "NoneType" "dict" = some false := rfl
theorem kb_bool_int : kitB "bool" "int" = some true := rfl
theorem kb_bool_bool : kitB "bool" "bool" = some true := rfl
theorem kb_bool_str : kitB "bool" "str" = some false := rfl
theorem kb_bool_tuple : kitB "bool" "tuple" = some false := rfl
theorem kb_bool_list : kitB "bool" "list" = some false := rfl
theorem kb_bool_dict : kitB "bool" "dict" = some false := rfl
theorem kb_int_int : kitB "int" "int" = some true := rfl
theorem kb_int_bool : kitB "int" "bool" = some false := rfl
theorem kb_int_str : kitB "int" "str" = some false := rfl
theorem kb_int_tuple : kitB "int" "tuple" = some false := rfl
theorem kb_int_list : kitB "int" "list" = some false := rfl
theorem kb_int_dict : kitB "int" "dict" = some false := rfl
theorem kb_str_int : kitB "str" "int" = some false := rfl
theorem kb_str_bool : kitB "str" "bool" = some false := rfl
theorem kb_str_str : kitB "str" "str" = some true := rfl
theorem kb_str_tuple : kitB "str" "tuple" = some false := rfl
theorem kb_str_list : kitB "str" "list" = some false := rfl
theorem kb_str_dict : kitB "str" "dict" = some false := rfl
theorem kb_tuple_int : kitB "tuple" "int" = some false := rfl
theorem kb_tuple_bool : kitB "tuple" "bool" = some false := rfl
theorem kb_tuple_str : kitB "tuple" "str" = some false := rfl
theorem kb_tuple_tuple : kitB "tuple" "tuple" = some true := rfl
theorem kb_tuple_list : kitB "tuple" "list" = some false := rfl
theorem kb_tuple_dict : kitB "tuple" "dict" = some false := rfl
theorem kb_list_int : kitB "list" "int" = some false := rfl
theorem kb_list_bool : kitB "list" "bool" = some false := rfl
theorem kb_list_str : kitB "list" "str" = some false := rfl
theorem kb_list_tuple : kitB "list" "tuple" = some false := rfl
theorem kb_list_list : kitB "list" "list" = some true := rfl
theorem kb_list_dict : kitB "list" "dict" = some false := rfl
theorem kb_dict_int : kitB "dict" "int" = some false := rfl
theorem kb_dict_bool : kitB "dict" "bool" = some false := rfl
theorem kb_dict_str : kitB "dict" "str" = some false := rfl
theorem kb_dict_tuple : kitB "dict" "tuple" = some false := rfl
theorem kb_dict_list : kitB "dict" "list" = some false := rfl
theorem kb_dict_dict : kitB "dict" "dict" = some true := rfl
def oddX (x : W) : Prop := tyN x ≠ none ∨ ∃ fs, x = .obj "Script" fs
theorem isPl_tup {F R : Int} {ws : List W} (h : ws.length ≠ 2) : isPl F R (.tup ws) = false := by
  match ws, h with
  | [], _ => rfl
  | [a], _ => rfl
  | [a, b], h => exact absurd rfl h
  | a :: b :: c :: r, _ => rfl
theorem isPl_non {F R : Int} {x : W} (h : ∀ ws, x ≠ .tup ws) : isPl F R x = false := by
  cases x <;> first | rfl | exact absurd rfl (h _)
theorem len2 {ws : List W} (h : ws.length = 2) : ∃ a b, ws = [a, b] := by
  match ws, h with
  | [a, b], _ => exact ⟨a, b, rfl⟩
/-- a value of any kind, or a line -/
def OddL (S : Sto) (x : W) : Prop := oddX x ∨ ∃ a fs, x = .ref a ∧ S a = some (.ins "Line" fs)
def ib_pv_is_integer : IS := (sRet (iAnd (iIsi ["Script", "Line"] (iCons (iVar 0) (iCons (iC (.ty "int")) iNil))) (iNot (iIsi ["Script", "Line"] (iCons (iVar 0) (iCons (iC (.ty "bool")) iNil))))))
def sp_pv_is_integer : ISp := fun ws S Q E => ∃ x, ws = [x] ∧ OddL S x ∧ Q (.val (.bl (isI x))) S
theorem ok_pv_is_integer (ws : List W) (S : Sto) (Q : R → Sto → Prop) (E : Exn → Sto → Prop) (h : sp_pv_is_integer ws S Q E) : bodyI 1 ib_pv_is_integer ws S Q E := by
  obtain ⟨x, rfl, hx, q⟩ := h
  unfold ib_pv_is_integer
  rcases hx with hx | ⟨a, fs, rfl, es⟩
  · rcases hx with hx | ⟨fs, rfl⟩
    · cases x <;> first | exact absurd rfl hx | (simp (decide := true) only [bodyI, start0, sSeq, sNext, sNever, sCont, sBreak, sDrop, sRet, sRetN, sRet0, sRetO, sIf, sSet, sSetN, sSetP, sPar, sParEN, sParNE, sPar3, sAsg, gNm, gsNil, gsCons, gTp, sAugI, sIxO, sIxS, sAugS, stoL, setW, iVar, iC, iNil, iCons, iTup, iLst, nLst, iFz, iB, gAdd, gI, gIC, gSub, gMul, gDiv, gMod, gPow, gLt, gLe, gGt, gGe, gEq, gNe, gIn, gIsN, isN, iNeg, tTru', gTru, tBl, iChain, tAnd', tOr', tNot', tYes', iIf, iAnd, iOr, iNot, iIx, gIx, atW, iIxO, ownL, oNone, oSome, iSl, gSl, iRevL, iCall, nCall, iFn, Stt.put, Stt.puts, iMtO, gAppend, gInsert, gExtend, gLen, iLenO, gAbs, gInt, gMinMax, gList, gTuple, iListRg, gIsi, tyN, gRepr, cut_13, cut_1_2, cut_1_3, cut_m2, cut_m3, cut_m4, atI_m2, atI_m3, atI_m4, iOfT, tKdIn, iKdIx, atI_0, atI_1, atI_2, atI_3, ixN_4_0, ixN_4_1, ixN_4_2, ixN_4_3, Sto.put_same, Sto.put_put, toNat_2, List.map, List.replicate, List.length_cons, List.length_nil, List.getElem?_cons_zero, List.getElem?_cons_succ, List.getElem?_nil, List.set_cons_zero, List.set_cons_succ, List.set_nil, List.cons_append, List.nil_append, List.append_nil, if_true, if_false, fz_val, fz_new, so_lst, so_dct, so_ins, eqW_ii, eqW_ss, eqW_tt, eqW_ll, eqW_nn, eqW_bb, eqW_ni, eqW_in, eqW_nt, eqW_tn, eqW_nl, eqW_ln, eqW_is, eqW_si, eqWs_nil, eqWs_cons, eqWs_nc, eqWs_cn, okD_int, okD_str, okD_bl, okD_non, okD_tup, okD_lst, eqOk_ii, eqOk_ss, eqOk_nn, eqOk_bb, eqOk_in, eqOk_ni, eqOk_tt, eqOk_ll, flatW_int, flatW_str, flatW_bl, flatW_non, inW, List.any_cons, List.any_nil, List.all_cons, List.all_nil, Bool.or_false, Bool.or_true, Bool.true_or, Bool.false_or, Bool.and_true, Bool.true_and, Bool.and_false, Bool.false_and, Bool.not_true, Bool.not_false, Bool.false_eq_true, true_and, and_true, beq_self_eq_true, List.isEmpty_cons, List.isEmpty_nil, Int.reduceNeg, eq_self, forall_const, iFld, objOf, iProp, iMeth, nMake, iInv, iMulM, iLenM, iIsi, sAtt, iRevT, lIter, nRep, lEnum, lZip, iEqM, gOwn, iDGet2, iAddO, nDisp, nDNew, iPairs, keysW, keyW, nFn, gListN, nListRg, iTupRg, nIf, sParM, iItems, putsR, Sh.R.slot, gIsB, isB, iPeek, tPeek, iPeekS, Stt.ps, noOwn, gInD, nPeek, Stt.pk, frzS, plainW, plainWs, tyS, tyIn, cOk, isAny, isOne, Option.map_some, lk_ne, List.lookup_nil, putW, lk_self, iXf, iIsE, Hnd.w, sRaise1, sRaise0, sTryE, gMax3, gEqN, gReprN, iIdxT, iIdxL, iInRg, nListM, iBR, iFnR, iPub, iMtR, drW, drWs, nOwn, nMeth, nSl, nAdd, nAddO, iMtN, sAugL, gSortedG, tTruO, refW_tup, refW_lst, refW_dct, refW_int, refW_str, refW_bl, refW_non, kb_NoneType_int, kb_NoneType_bool, kb_NoneType_str, kb_NoneType_tuple, kb_NoneType_list, kb_NoneType_dict, kb_bool_int, kb_bool_bool, kb_bool_str, kb_bool_tuple, kb_bool_list, kb_bool_dict, kb_int_int, kb_int_bool, kb_int_str, kb_int_tuple, kb_int_list, kb_int_dict, kb_str_int, kb_str_bool, kb_str_str, kb_str_tuple, kb_str_list, kb_str_dict, kb_tuple_int, kb_tuple_bool, kb_tuple_str, kb_tuple_tuple, kb_tuple_list, kb_tuple_dict, kb_list_int, kb_list_bool, kb_list_str, kb_list_tuple, kb_list_list, kb_list_dict, kb_dict_int, kb_dict_bool, kb_dict_str, kb_dict_tuple, kb_dict_list, kb_dict_dict]; exact q)
    · simp (decide := true) only [bodyI, start0, sSeq, sNext, sNever, sCont, sBreak, sDrop, sRet, sRetN, sRet0, sRetO, sIf, sSet, sSetN, sSetP, sPar, sParEN, sParNE, sPar3, sAsg, gNm, gsNil, gsCons, gTp, sAugI, sIxO, sIxS, sAugS, stoL, setW, iVar, iC, iNil, iCons, iTup, iLst, nLst, iFz, iB, gAdd, gI, gIC, gSub, gMul, gDiv, gMod, gPow, gLt, gLe, gGt, gGe, gEq, gNe, gIn, gIsN, isN, iNeg, tTru', gTru, tBl, iChain, tAnd', tOr', tNot', tYes', iIf, iAnd, iOr, iNot, iIx, gIx, atW, iIxO, ownL, oNone, oSome, iSl, gSl, iRevL, iCall, nCall, iFn, Stt.put, Stt.puts, iMtO, gAppend, gInsert, gExtend, gLen, iLenO, gAbs, gInt, gMinMax, gList, gTuple, iListRg, gIsi, tyN, gRepr, cut_13, cut_1_2, cut_1_3, cut_m2, cut_m3, cut_m4, atI_m2, atI_m3, atI_m4, iOfT, tKdIn, iKdIx, atI_0, atI_1, atI_2, atI_3, ixN_4_0, ixN_4_1, ixN_4_2, ixN_4_3, Sto.put_same, Sto.put_put, toNat_2, List.map, List.replicate, List.length_cons, List.length_nil, List.getElem?_cons_zero, List.getElem?_cons_succ, List.getElem?_nil, List.set_cons_zero, List.set_cons_succ, List.set_nil, List.cons_append, List.nil_append, List.append_nil, if_true, if_false, fz_val, fz_new, so_lst, so_dct, so_ins, eqW_ii, eqW_ss, eqW_tt, eqW_ll, eqW_nn, eqW_bb, eqW_ni, eqW_in, eqW_nt, eqW_tn, eqW_nl, eqW_ln, eqW_is, eqW_si, eqWs_nil, eqWs_cons, eqWs_nc, eqWs_cn, okD_int, okD_str, okD_bl, okD_non, okD_tup, okD_lst, eqOk_ii, eqOk_ss, eqOk_nn, eqOk_bb, eqOk_in, eqOk_ni, eqOk_tt, eqOk_ll, flatW_int, flatW_str, flatW_bl, flatW_non, inW, List.any_cons, List.any_nil, List.all_cons, List.all_nil, Bool.or_false, Bool.or_true, Bool.true_or, Bool.false_or, Bool.and_true, Bool.true_and, Bool.and_false, Bool.false_and, Bool.not_true, Bool.not_false, Bool.false_eq_true, true_and, and_true, beq_self_eq_true, List.isEmpty_cons, List.isEmpty_nil, Int.reduceNeg, eq_self, forall_const, iFld, objOf, iProp, iMeth, nMake, iInv, iMulM, iLenM, iIsi, sAtt, iRevT, lIter, nRep, lEnum, lZip, iEqM, gOwn, iDGet2, iAddO, nDisp, nDNew, iPairs, keysW, keyW, nFn, gListN, nListRg, iTupRg, nIf, sParM, iItems, putsR, Sh.R.slot, gIsB, isB, iPeek, tPeek, iPeekS, Stt.ps, noOwn, gInD, nPeek, Stt.pk, frzS, plainW, plainWs, tyS, tyIn, cOk, isAny, isOne, Option.map_some, lk_ne, List.lookup_nil, putW, lk_self, iXf, iIsE, Hnd.w, sRaise1, sRaise0, sTryE, gMax3, gEqN, gReprN, iIdxT, iIdxL, iInRg, nListM, iBR, iFnR, iPub, iMtR, drW, drWs, nOwn, nMeth, nSl, nAdd, nAddO, iMtN, sAugL, gSortedG, tTruO, refW_tup, refW_lst, refW_dct, refW_int, refW_str, refW_bl, refW_non, isOne, kb_NoneType_int, kb_NoneType_bool, kb_NoneType_str, kb_NoneType_tuple, kb_NoneType_list, kb_NoneType_dict, kb_bool_int, kb_bool_bool, kb_bool_str, kb_bool_tuple, kb_bool_list, kb_bool_dict, kb_int_int, kb_int_bool, kb_int_str, kb_int_tuple, kb_int_list, kb_int_dict, kb_str_int, kb_str_bool, kb_str_str, kb_str_tuple, kb_str_list, kb_str_dict, kb_tuple_int, kb_tuple_bool, kb_tuple_str, kb_tuple_tuple, kb_tuple_list, kb_tuple_dict, kb_list_int, kb_list_bool, kb_list_str, kb_list_tuple, kb_list_list, kb_list_dict, kb_dict_int, kb_dict_bool, kb_dict_str, kb_dict_tuple, kb_dict_list, kb_dict_dict]
      exact q
  · simp (decide := true) only [bodyI, start0, sSeq, sNext, sNever, sCont, sBreak, sDrop, sRet, sRetN, sRet0, sRetO, sIf, sSet, sSetN, sSetP, sPar, sParEN, sParNE, sPar3, sAsg, gNm, gsNil, gsCons, gTp, sAugI, sIxO, sIxS, sAugS, stoL, setW, iVar, iC, iNil, iCons, iTup, iLst, nLst, iFz, iB, gAdd, gI, gIC, gSub, gMul, gDiv, gMod, gPow, gLt, gLe, gGt, gGe, gEq, gNe, gIn, gIsN, isN, iNeg, tTru', gTru, tBl, iChain, tAnd', tOr', tNot', tYes', iIf, iAnd, iOr, iNot, iIx, gIx, atW, iIxO, ownL, oNone, oSome, iSl, gSl, iRevL, iCall, nCall, iFn, Stt.put, Stt.puts, iMtO, gAppend, gInsert, gExtend, gLen, iLenO, gAbs, gInt, gMinMax, gList, gTuple, iListRg, gIsi, tyN, gRepr, cut_13, cut_1_2, cut_1_3, cut_m2, cut_m3, cut_m4, atI_m2, atI_m3, atI_m4, iOfT, tKdIn, iKdIx, atI_0, atI_1, atI_2, atI_3, ixN_4_0, ixN_4_1, ixN_4_2, ixN_4_3, Sto.put_same, Sto.put_put, toNat_2, List.map, List.replicate, List.length_cons, List.length_nil, List.getElem?_cons_zero, List.getElem?_cons_succ, List.getElem?_nil, List.set_cons_zero, List.set_cons_succ, List.set_nil, List.cons_append, List.nil_append, List.append_nil, if_true, if_false, fz_val, fz_new, so_lst, so_dct, so_ins, eqW_ii, eqW_ss, eqW_tt, eqW_ll, eqW_nn, eqW_bb, eqW_ni, eqW_in, eqW_nt, eqW_tn, eqW_nl, eqW_ln, eqW_is, eqW_si, eqWs_nil, eqWs_cons, eqWs_nc, eqWs_cn, okD_int, okD_str, okD_bl, okD_non, okD_tup, okD_lst, eqOk_ii, eqOk_ss, eqOk_nn, eqOk_bb, eqOk_in, eqOk_ni, eqOk_tt, eqOk_ll, flatW_int, flatW_str, flatW_bl, flatW_non, inW, List.any_cons, List.any_nil, List.all_cons, List.all_nil, Bool.or_false, Bool.or_true, Bool.true_or, Bool.false_or, Bool.and_true, Bool.true_and, Bool.and_false, Bool.false_and, Bool.not_true, Bool.not_false, Bool.false_eq_true, true_and, and_true, beq_self_eq_true, List.isEmpty_cons, List.isEmpty_nil, Int.reduceNeg, eq_self, forall_const, iFld, objOf, iProp, iMeth, nMake, iInv, iMulM, iLenM, iIsi, sAtt, iRevT, lIter, nRep, lEnum, lZip, iEqM, gOwn, iDGet2, iAddO, nDisp, nDNew, iPairs, keysW, keyW, nFn, gListN, nListRg, iTupRg, nIf, sParM, iItems, putsR, Sh.R.slot, gIsB, isB, iPeek, tPeek, iPeekS, Stt.ps, noOwn, gInD, nPeek, Stt.pk, frzS, plainW, plainWs, tyS, tyIn, cOk, isAny, isOne, Option.map_some, lk_ne, List.lookup_nil, putW, lk_self, iXf, iIsE, Hnd.w, sRaise1, sRaise0, sTryE, gMax3, gEqN, gReprN, iIdxT, iIdxL, iInRg, nListM, iBR, iFnR, iPub, iMtR, drW, drWs, nOwn, nMeth, nSl, nAdd, nAddO, iMtN, sAugL, gSortedG, tTruO, refW_tup, refW_lst, refW_dct, refW_int, refW_str, refW_bl, refW_non, isOne, es, kb_NoneType_int, kb_NoneType_bool, kb_NoneType_str, kb_NoneType_tuple, kb_NoneType_list, kb_NoneType_dict, kb_bool_int, kb_bool_bool, kb_bool_str, kb_bool_tuple, kb_bool_list, kb_bool_dict, kb_int_int, kb_int_bool, kb_int_str, kb_int_tuple, kb_int_list, kb_int_dict, kb_str_int, kb_str_bool, kb_str_str, kb_str_tuple, kb_str_list, kb_str_dict, kb_tuple_int, kb_tuple_bool, kb_tuple_str, kb_tuple_tuple, kb_tuple_list, kb_tuple_dict, kb_list_int, kb_list_bool, kb_list_str, kb_list_tuple, kb_list_list, kb_list_dict, kb_dict_int, kb_dict_bool, kb_dict_str, kb_dict_tuple, kb_dict_list, kb_dict_dict]
    exact q
theorem altv_p_is_integer (ws : List W) (S : Sto) (Q : R → Sto → Prop) (E : Exn → Sto → Prop) (h : sp_p_is_integer ws S Q E) : sp_pv_is_integer ws S Q E := by
  obtain ⟨x, rfl, hx, q⟩ := h
  exact ⟨x, rfl, .inl (.inl hx), q⟩
def ib_pv_is_index : IS := (sRet (iAnd (iCall sp_pv_is_integer (iCons (iVar 0) iNil)) (iChain gLe gLt (iC (.int 0)) (iVar 0) (iVar 1))))
def sp_pv_is_index : ISp := fun ws S Q E => ∃ x n, ws = [x, .int n] ∧ OddL S x ∧ Q (.val (.bl (isIx x n))) S
theorem ok_pv_is_index (ws : List W) (S : Sto) (Q : R → Sto → Prop) (E : Exn → Sto → Prop) (h : sp_pv_is_index ws S Q E) : bodyI 2 ib_pv_is_index ws S Q E := by
  obtain ⟨x, n, rfl, hx, q⟩ := h
  unfold ib_pv_is_index
  refine ⟨x, rfl, hx, ?_⟩
  cases x with
  | int i =>
    show if decide (0 ≤ i) = true then Q (.val (.bl (decide (i < n)))) S else Q (.val (.bl false)) S
    unfold isIx at q
    simp only at q
    refine ifb (fun c => ?_) (fun c => ?_)
    · rw [c] at q; exact q
    · rw [c] at q; exact q
  | _ => exact q
theorem altv_p_is_index (ws : List W) (S : Sto) (Q : R → Sto → Prop) (E : Exn → Sto → Prop) (h : sp_p_is_index ws S Q E) : sp_pv_is_index ws S Q E := by
  obtain ⟨x, n, rfl, hx, q⟩ := h
  exact ⟨x, n, rfl, .inl (.inl hx), q⟩
def ib_pv_is_place : IS := (sSeq (sIf (tOr' (tNot' (tTru' (iIsi ["Script", "Line"] (iCons (iVar 2) (iCons (iC (.ty "tuple")) iNil))))) (tBl (iB gNe (iFn gLen (iCons (iVar 2) iNil)) (iC (.int 2))))) (sRet (iC (.bl false))) sNext)
  (sRet (iAnd (iCall sp_p_is_index (iCons (iIx (iVar 2) (iC (.int 0))) (iCons (iVar 1) iNil))) (iCall sp_p_is_index (iCons (iIx (iVar 2) (iC (.int 1))) (iCons (iVar 0) iNil))))))
def sp_pv_is_place : ISp := fun ws S Q E => ∃ (F R : Int) (x : W), ws = [.int F, .int R, x] ∧ OddL S x ∧ okParts x ∧ Q (.val (.bl (isPl F R x))) S
theorem ok_pv_is_place (ws : List W) (S : Sto) (Q : R → Sto → Prop) (E : Exn → Sto → Prop) (h : sp_pv_is_place ws S Q E) : bodyI 3 ib_pv_is_place ws S Q E := by
  obtain ⟨F, R, x, rfl, hx, hp, q⟩ := h
  unfold ib_pv_is_place
  refine seq_go fun nx e => ?_
  by_cases ht : ∃ ws, x = .tup ws
  · obtain ⟨ws, rfl⟩ := ht
    simp (decide := true) only [bodyI, start0, sSeq, sNext, sNever, sCont, sBreak, sDrop, sRet, sRetN, sRet0, sRetO, sIf, sSet, sSetN, sSetP, sPar, sParEN, sParNE, sPar3, sAsg, gNm, gsNil, gsCons, gTp, sAugI, sIxO, sIxS, sAugS, stoL, setW, iVar, iC, iNil, iCons, iTup, iLst, nLst, iFz, iB, gAdd, gI, gIC, gSub, gMul, gDiv, gMod, gPow, gLt, gLe, gGt, gGe, gEq, gNe, gIn, gIsN, isN, iNeg, tTru', gTru, tBl, iChain, tAnd', tOr', tNot', tYes', iIf, iAnd, iOr, iNot, iIx, gIx, atW, iIxO, ownL, oNone, oSome, iSl, gSl, iRevL, iCall, nCall, iFn, Stt.put, Stt.puts, iMtO, gAppend, gInsert, gExtend, gLen, iLenO, gAbs, gInt, gMinMax, gList, gTuple, iListRg, gIsi, tyN, gRepr, cut_13, cut_1_2, cut_1_3, cut_m2, cut_m3, cut_m4, atI_m2, atI_m3, atI_m4, iOfT, tKdIn, iKdIx, atI_0, atI_1, atI_2, atI_3, ixN_4_0, ixN_4_1, ixN_4_2, ixN_4_3, Sto.put_same, Sto.put_put, toNat_2, List.map, List.replicate, List.length_cons, List.length_nil, List.getElem?_cons_zero, List.getElem?_cons_succ, List.getElem?_nil, List.set_cons_zero, List.set_cons_succ, List.set_nil, List.cons_append, List.nil_append, List.append_nil, if_true, if_false, fz_val, fz_new, so_lst, so_dct, so_ins, eqW_ii, eqW_ss, eqW_tt, eqW_ll, eqW_nn, eqW_bb, eqW_ni, eqW_in, eqW_nt, eqW_tn, eqW_nl, eqW_ln, eqW_is, eqW_si, eqWs_nil, eqWs_cons, eqWs_nc, eqWs_cn, okD_int, okD_str, okD_bl, okD_non, okD_tup, okD_lst, eqOk_ii, eqOk_ss, eqOk_nn, eqOk_bb, eqOk_in, eqOk_ni, eqOk_tt, eqOk_ll, flatW_int, flatW_str, flatW_bl, flatW_non, inW, List.any_cons, List.any_nil, List.all_cons, List.all_nil, Bool.or_false, Bool.or_true, Bool.true_or, Bool.false_or, Bool.and_true, Bool.true_and, Bool.and_false, Bool.false_and, Bool.not_true, Bool.not_false, Bool.false_eq_true, true_and, and_true, beq_self_eq_true, List.isEmpty_cons, List.isEmpty_nil, Int.reduceNeg, eq_self, forall_const, iFld, objOf, iProp, iMeth, nMake, iInv, iMulM, iLenM, iIsi, sAtt, iRevT, lIter, nRep, lEnum, lZip, iEqM, gOwn, iDGet2, iAddO, nDisp, nDNew, iPairs, keysW, keyW, nFn, gListN, nListRg, iTupRg, nIf, sParM, iItems, putsR, Sh.R.slot, gIsB, isB, iPeek, tPeek, iPeekS, Stt.ps, noOwn, gInD, nPeek, Stt.pk, frzS, plainW, plainWs, tyS, tyIn, cOk, isAny, isOne, Option.map_some, lk_ne, List.lookup_nil, putW, lk_self, iXf, iIsE, Hnd.w, sRaise1, sRaise0, sTryE, gMax3, gEqN, gReprN, iIdxT, iIdxL, iInRg, nListM, iBR, iFnR, iPub, iMtR, drW, drWs, nOwn, nMeth, nSl, nAdd, nAddO, iMtN, sAugL, gSortedG, tTruO, refW_tup, refW_lst, refW_dct, refW_int, refW_str, refW_bl, refW_non, kb_NoneType_int, kb_NoneType_bool, kb_NoneType_str, kb_NoneType_tuple, kb_NoneType_list, kb_NoneType_dict, kb_bool_int, kb_bool_bool, kb_bool_str, kb_bool_tuple, kb_bool_list, kb_bool_dict, kb_int_int, kb_int_bool, kb_int_str, kb_int_tuple, kb_int_list, kb_int_dict, kb_str_int, kb_str_bool, kb_str_str, kb_str_tuple, kb_str_list, kb_str_dict, kb_tuple_int, kb_tuple_bool, kb_tuple_str, kb_tuple_tuple, kb_tuple_list, kb_tuple_dict, kb_list_int, kb_list_bool, kb_list_str, kb_list_tuple, kb_list_list, kb_list_dict, kb_dict_int, kb_dict_bool, kb_dict_str, kb_dict_tuple, kb_dict_list, kb_dict_dict]
    by_cases hl : ws.length = 2
    · obtain ⟨a, b, rfl⟩ := len2 hl
      refine ifF (by simp) ?_
      subst e
      walk_at "r"
      refine ⟨a, R, rfl, hp.1, ?_⟩
      walk_at "r"
      have q2 : Q (.val (.bl (isIx a R && isIx b F))) S := q
      refine ifb (fun z => ⟨b, F, rfl, hp.2, ?_⟩) (fun z => ?_)
      · rw [z] at q2; exact q2
      · rw [z] at q2 ⊢; exact q2
    · refine ifT (by simp; omega) ?_
      rw [isPl_tup hl] at q
      exact q
  · rw [isPl_non fun ws e => ht ⟨ws, e⟩] at q
    rcases hx with hx | ⟨a, fs, rfl, es⟩
    · rcases hx with hx | ⟨fs, rfl⟩
      · cases x <;> first | exact absurd rfl hx | (simp (decide := true) only [bodyI, start0, sSeq, sNext, sNever, sCont, sBreak, sDrop, sRet, sRetN, sRet0, sRetO, sIf, sSet, sSetN, sSetP, sPar, sParEN, sParNE, sPar3, sAsg, gNm, gsNil, gsCons, gTp, sAugI, sIxO, sIxS, sAugS, stoL, setW, iVar, iC, iNil, iCons, iTup, iLst, nLst, iFz, iB, gAdd, gI, gIC, gSub, gMul, gDiv, gMod, gPow, gLt, gLe, gGt, gGe, gEq, gNe, gIn, gIsN, isN, iNeg, tTru', gTru, tBl, iChain, tAnd', tOr', tNot', tYes', iIf, iAnd, iOr, iNot, iIx, gIx, atW, iIxO, ownL, oNone, oSome, iSl, gSl, iRevL, iCall, nCall, iFn, Stt.put, Stt.puts, iMtO, gAppend, gInsert, gExtend, gLen, iLenO, gAbs, gInt, gMinMax, gList, gTuple, iListRg, gIsi, tyN, gRepr, cut_13, cut_1_2, cut_1_3, cut_m2, cut_m3, cut_m4, atI_m2, atI_m3, atI_m4, iOfT, tKdIn, iKdIx, atI_0, atI_1, atI_2, atI_3, ixN_4_0, ixN_4_1, ixN_4_2, ixN_4_3, Sto.put_same, Sto.put_put, toNat_2, List.map, List.replicate, List.length_cons, List.length_nil, List.getElem?_cons_zero, List.getElem?_cons_succ, List.getElem?_nil, List.set_cons_zero, List.set_cons_succ, List.set_nil, List.cons_append, List.nil_append, List.append_nil, if_true, if_false, fz_val, fz_new, so_lst, so_dct, so_ins, eqW_ii, eqW_ss, eqW_tt, eqW_ll, eqW_nn, eqW_bb, eqW_ni, eqW_in, eqW_nt, eqW_tn, eqW_nl, eqW_ln, eqW_is, eqW_si, eqWs_nil, eqWs_cons, eqWs_nc, eqWs_cn, okD_int, okD_str, okD_bl, okD_non, okD_tup, okD_lst, eqOk_ii, eqOk_ss, eqOk_nn, eqOk_bb, eqOk_in, eqOk_ni, eqOk_tt, eqOk_ll, flatW_int, flatW_str, flatW_bl, flatW_non, inW, List.any_cons, List.any_nil, List.all_cons, List.all_nil, Bool.or_false, Bool.or_true, Bool.true_or, Bool.false_or, Bool.and_true, Bool.true_and, Bool.and_false, Bool.false_and, Bool.not_true, Bool.not_false, Bool.false_eq_true, true_and, and_true, beq_self_eq_true, List.isEmpty_cons, List.isEmpty_nil, Int.reduceNeg, eq_self, forall_const, iFld, objOf, iProp, iMeth, nMake, iInv, iMulM, iLenM, iIsi, sAtt, iRevT, lIter, nRep, lEnum, lZip, iEqM, gOwn, iDGet2, iAddO, nDisp, nDNew, iPairs, keysW, keyW, nFn, gListN, nListRg, iTupRg, nIf, sParM, iItems, putsR, Sh.R.slot, gIsB, isB, iPeek, tPeek, iPeekS, Stt.ps, noOwn, gInD, nPeek, Stt.pk, frzS, plainW, plainWs, tyS, tyIn, cOk, isAny, isOne, Option.map_some, lk_ne, List.lookup_nil, putW, lk_self, iXf, iIsE, Hnd.w, sRaise1, sRaise0, sTryE, gMax3, gEqN, gReprN, iIdxT, iIdxL, iInRg, nListM, iBR, iFnR, iPub, iMtR, drW, drWs, nOwn, nMeth, nSl, nAdd, nAddO, iMtN, sAugL, gSortedG, tTruO, refW_tup, refW_lst, refW_dct, refW_int, refW_str, refW_bl, refW_non, kb_NoneType_int, kb_NoneType_bool, kb_NoneType_str, kb_NoneType_tuple, kb_NoneType_list, kb_NoneType_dict, kb_bool_int, kb_bool_bool, kb_bool_str, kb_bool_tuple, kb_bool_list, kb_bool_dict, kb_int_int, kb_int_bool, kb_int_str, kb_int_tuple, kb_int_list, kb_int_dict, kb_str_int, kb_str_bool, kb_str_str, kb_str_tuple, kb_str_list, kb_str_dict, kb_tuple_int, kb_tuple_bool, kb_tuple_str, kb_tuple_tuple, kb_tuple_list, kb_tuple_dict, kb_list_int, kb_list_bool, kb_list_str, kb_list_tuple, kb_list_list, kb_list_dict, kb_dict_int, kb_dict_bool, kb_dict_str, kb_dict_tuple, kb_dict_list, kb_dict_dict]; exact q) | exact absurd ⟨_, rfl⟩ ht
      · simp (decide := true) only [bodyI, start0, sSeq, sNext, sNever, sCont, sBreak, sDrop, sRet, sRetN, sRet0, sRetO, sIf, sSet, sSetN, sSetP, sPar, sParEN, sParNE, sPar3, sAsg, gNm, gsNil, gsCons, gTp, sAugI, sIxO, sIxS, sAugS, stoL, setW, iVar, iC, iNil, iCons, iTup, iLst, nLst, iFz, iB, gAdd, gI, gIC, gSub, gMul, gDiv, gMod, gPow, gLt, gLe, gGt, gGe, gEq, gNe, gIn, gIsN, isN, iNeg, tTru', gTru, tBl, iChain, tAnd', tOr', tNot', tYes', iIf, iAnd, iOr, iNot, iIx, gIx, atW, iIxO, ownL, oNone, oSome, iSl, gSl, iRevL, iCall, nCall, iFn, Stt.put, Stt.puts, iMtO, gAppend, gInsert, gExtend, gLen, iLenO, gAbs, gInt, gMinMax, gList, gTuple, iListRg, gIsi, tyN, gRepr, cut_13, cut_1_2, cut_1_3, cut_m2, cut_m3, cut_m4, atI_m2, atI_m3, atI_m4, iOfT, tKdIn, iKdIx, atI_0, atI_1, atI_2, atI_3, ixN_4_0, ixN_4_1, ixN_4_2, ixN_4_3, Sto.put_same, Sto.put_put, toNat_2, List.map, List.replicate, List.length_cons, List.length_nil, List.getElem?_cons_zero, List.getElem?_cons_succ, List.getElem?_nil, List.set_cons_zero, List.set_cons_succ, List.set_nil, List.cons_append, List.nil_append, List.append_nil, if_true, if_false, fz_val, fz_new, so_lst, so_dct, so_ins, eqW_ii, eqW_ss, eqW_tt, eqW_ll, eqW_nn, eqW_bb, eqW_ni, eqW_in, eqW_nt, eqW_tn, eqW_nl, eqW_ln, eqW_is, eqW_si, eqWs_nil, eqWs_cons, eqWs_nc, eqWs_cn, okD_int, okD_str, okD_bl, okD_non, okD_tup, okD_lst, eqOk_ii, eqOk_ss, eqOk_nn, eqOk_bb, eqOk_in, eqOk_ni, eqOk_tt, eqOk_ll, flatW_int, flatW_str, flatW_bl, flatW_non, inW, List.any_cons, List.any_nil, List.all_cons, List.all_nil, Bool.or_false, Bool.or_true, Bool.true_or, Bool.false_or, Bool.and_true, Bool.true_and, Bool.and_false, Bool.false_and, Bool.not_true, Bool.not_false, Bool.false_eq_true, true_and, and_true, beq_self_eq_true, List.isEmpty_cons, List.isEmpty_nil, Int.reduceNeg, eq_self, forall_const, iFld, objOf, iProp, iMeth, nMake, iInv, iMulM, iLenM, iIsi, sAtt, iRevT, lIter, nRep, lEnum, lZip, iEqM, gOwn, iDGet2, iAddO, nDisp, nDNew, iPairs, keysW, keyW, nFn, gListN, nListRg, iTupRg, nIf, sParM, iItems, putsR, Sh.R.slot, gIsB, isB, iPeek, tPeek, iPeekS, Stt.ps, noOwn, gInD, nPeek, Stt.pk, frzS, plainW, plainWs, tyS, tyIn, cOk, isAny, isOne, Option.map_some, lk_ne, List.lookup_nil, putW, lk_self, iXf, iIsE, Hnd.w, sRaise1, sRaise0, sTryE, gMax3, gEqN, gReprN, iIdxT, iIdxL, iInRg, nListM, iBR, iFnR, iPub, iMtR, drW, drWs, nOwn, nMeth, nSl, nAdd, nAddO, iMtN, sAugL, gSortedG, tTruO, refW_tup, refW_lst, refW_dct, refW_int, refW_str, refW_bl, refW_non, isOne, kb_NoneType_int, kb_NoneType_bool, kb_NoneType_str, kb_NoneType_tuple, kb_NoneType_list, kb_NoneType_dict, kb_bool_int, kb_bool_bool, kb_bool_str, kb_bool_tuple, kb_bool_list, kb_bool_dict, kb_int_int, kb_int_bool, kb_int_str, kb_int_tuple, kb_int_list, kb_int_dict, kb_str_int, kb_str_bool, kb_str_str, kb_str_tuple, kb_str_list, kb_str_dict, kb_tuple_int, kb_tuple_bool, kb_tuple_str, kb_tuple_tuple, kb_tuple_list, kb_tuple_dict, kb_list_int, kb_list_bool, kb_list_str, kb_list_tuple, kb_list_list, kb_list_dict, kb_dict_int, kb_dict_bool, kb_dict_str, kb_dict_tuple, kb_dict_list, kb_dict_dict]
        exact q
    · simp (decide := true) only [bodyI, start0, sSeq, sNext, sNever, sCont, sBreak, sDrop, sRet, sRetN, sRet0, sRetO, sIf, sSet, sSetN, sSetP, sPar, sParEN, sParNE, sPar3, sAsg, gNm, gsNil, gsCons, gTp, sAugI, sIxO, sIxS, sAugS, stoL, setW, iVar, iC, iNil, iCons, iTup, iLst, nLst, iFz, iB, gAdd, gI, gIC, gSub, gMul, gDiv, gMod, gPow, gLt, gLe, gGt, gGe, gEq, gNe, gIn, gIsN, isN, iNeg, tTru', gTru, tBl, iChain, tAnd', tOr', tNot', tYes', iIf, iAnd, iOr, iNot, iIx, gIx, atW, iIxO, ownL, oNone, oSome, iSl, gSl, iRevL, iCall, nCall, iFn, Stt.put, Stt.puts, iMtO, gAppend, gInsert, gExtend, gLen, iLenO, gAbs, gInt, gMinMax, gList, gTuple, iListRg, gIsi, tyN, gRepr, cut_13, cut_1_2, cut_1_3, cut_m2, cut_m3, cut_m4, atI_m2, atI_m3, atI_m4, iOfT, tKdIn, iKdIx, atI_0, atI_1, atI_2, atI_3, ixN_4_0, ixN_4_1, ixN_4_2, ixN_4_3, Sto.put_same, Sto.put_put, toNat_2, List.map, List.replicate, List.length_cons, List.length_nil, List.getElem?_cons_zero, List.getElem?_cons_succ, List.getElem?_nil, List.set_cons_zero, List.set_cons_succ, List.set_nil, List.cons_append, List.nil_append, List.append_nil, if_true, if_false, fz_val, fz_new, so_lst, so_dct, so_ins, eqW_ii, eqW_ss, eqW_tt, eqW_ll, eqW_nn, eqW_bb, eqW_ni, eqW_in, eqW_nt, eqW_tn, eqW_nl, eqW_ln, eqW_is, eqW_si, eqWs_nil, eqWs_cons, eqWs_nc, eqWs_cn, okD_int, okD_str, okD_bl, okD_non, okD_tup, okD_lst, eqOk_ii, eqOk_ss, eqOk_nn, eqOk_bb, eqOk_in, eqOk_ni, eqOk_tt, eqOk_ll, flatW_int, flatW_str, flatW_bl, flatW_non, inW, List.any_cons, List.any_nil, List.all_cons, List.all_nil, Bool.or_false, Bool.or_true, Bool.true_or, Bool.false_or, Bool.and_true, Bool.true_and, Bool.and_false, Bool.false_and, Bool.not_true, Bool.not_false, Bool.false_eq_true, true_and, and_true, beq_self_eq_true, List.isEmpty_cons, List.isEmpty_nil, Int.reduceNeg, eq_self, forall_const, iFld, objOf, iProp, iMeth, nMake, iInv, iMulM, iLenM, iIsi, sAtt, iRevT, lIter, nRep, lEnum, lZip, iEqM, gOwn, iDGet2, iAddO, nDisp, nDNew, iPairs, keysW, keyW, nFn, gListN, nListRg, iTupRg, nIf, sParM, iItems, putsR, Sh.R.slot, gIsB, isB, iPeek, tPeek, iPeekS, Stt.ps, noOwn, gInD, nPeek, Stt.pk, frzS, plainW, plainWs, tyS, tyIn, cOk, isAny, isOne, Option.map_some, lk_ne, List.lookup_nil, putW, lk_self, iXf, iIsE, Hnd.w, sRaise1, sRaise0, sTryE, gMax3, gEqN, gReprN, iIdxT, iIdxL, iInRg, nListM, iBR, iFnR, iPub, iMtR, drW, drWs, nOwn, nMeth, nSl, nAdd, nAddO, iMtN, sAugL, gSortedG, tTruO, refW_tup, refW_lst, refW_dct, refW_int, refW_str, refW_bl, refW_non, isOne, es, kb_NoneType_int, kb_NoneType_bool, kb_NoneType_str, kb_NoneType_tuple, kb_NoneType_list, kb_NoneType_dict, kb_bool_int, kb_bool_bool, kb_bool_str, kb_bool_tuple, kb_bool_list, kb_bool_dict, kb_int_int, kb_int_bool, kb_int_str, kb_int_tuple, kb_int_list, kb_int_dict, kb_str_int, kb_str_bool, kb_str_str, kb_str_tuple, kb_str_list, kb_str_dict, kb_tuple_int, kb_tuple_bool, kb_tuple_str, kb_tuple_tuple, kb_tuple_list, kb_tuple_dict, kb_list_int, kb_list_bool, kb_list_str, kb_list_tuple, kb_list_list, kb_list_dict, kb_dict_int, kb_dict_bool, kb_dict_str, kb_dict_tuple, kb_dict_list, kb_dict_dict]
      exact q
theorem altv_p_is_place (ws : List W) (S : Sto) (Q : R → Sto → Prop) (E : Exn → Sto → Prop) (h : sp_p_is_place ws S Q E) : sp_pv_is_place ws S Q E := by
  obtain ⟨F, R, x, rfl, h1, h2, q⟩ := h
  exact ⟨F, R, x, rfl, .inl (.inl h1), h2, q⟩
theorem isPl_in {F R : Int} {x : W} (h : isPl F R x = true) : ∃ p : Int × Int, x = pairW p ∧ At F R p := by
  by_cases ht : ∃ ws, x = .tup ws
  · obtain ⟨ws, rfl⟩ := ht
    by_cases hl : ws.length = 2
    · obtain ⟨a, b, rfl⟩ := len2 hl
      have h : (isIx a R && isIx b F) = true := h
      rw [Bool.and_eq_true] at h
      obtain ⟨i, rfl, i0, i1⟩ : ∃ n : Int, a = .int n ∧ 0 ≤ n ∧ n < R := by
        have := h.1
        unfold isIx at this
        cases a <;> simp_all
      obtain ⟨j, rfl, j0, j1⟩ : ∃ n : Int, b = .int n ∧ 0 ≤ n ∧ n < F := by
        have := h.2
        unfold isIx at this
        cases b <;> simp_all
      exact ⟨(i, j), rfl, i0, i1, j0, j1⟩
    · rw [isPl_tup hl] at h
      cases h
  · rw [isPl_non fun ws e => ht ⟨ws, e⟩] at h
    cases h
theorem cut_mid {α : Type} {xs : List α} {a b : Int} (ha : 0 ≤ a) (hb : a ≤ b) (hl : b ≤ xs.length) : cutW xs (some a) (some b) = (xs.drop a.toNat).take (b - a).toNat := by
  unfold cutW HT.sIx
  simp only []
  rw [if_neg (by omega), if_neg (by omega), Nat.min_eq_left (by omega), Nat.min_eq_left (by omega), show b.toNat - a.toNat = (b - a).toNat by omega]
section
variable {F R : Int} {ds : List Call}
theorem ord_len : (ordL F R ds).length = (F * R).toNat := by
  unfold ordL
  rw [List.length_map, List.length_range]
theorem ord_at {j : Int} (h0 : 0 ≤ j) (h1 : j < F * R) : (ordL F R ds)[j.toNat]? = some (bk F R ds j) := by
  unfold ordL
  rw [List.getElem?_map, List.getElem?_range (by omega), Option.map_some, Int.toNat_of_nonneg h0]
theorem ord_nodup (hl : Lin F R) (hd : Oks F ds) : (ordL F R ds).Nodup := by
  unfold ordL
  refine List.pairwise_map.mpr (List.Pairwise.imp_of_mem (fun {x y} hx hy h => fun z => h ?_) List.nodup_range)
  have hx := List.mem_range.mp hx
  have hy := List.mem_range.mp hy
  have e1 := fw_bk hl.F0 hl.R0 hd (j := x) (by omega) (by omega)
  have e2 := fw_bk hl.F0 hl.R0 hd (j := y) (by omega) (by omega)
  rw [z, e2] at e1
  omega
theorem ord_mem (hl : Lin F R) (hd : Oks F ds) {n : Int} : n ∈ ordL F R ds ↔ 0 ≤ n ∧ n < F * R := by
  constructor
  · intro h
    unfold ordL at h
    obtain ⟨i, hi, rfl⟩ := List.mem_map.mp h
    have hi := List.mem_range.mp hi
    exact bk_in hl.F0 hl.R0 hd (by omega) (by omega)
  · rintro ⟨h0, h1⟩
    have e := bk_fw hl.F0 hl.R0 hd h0 h1
    obtain ⟨f0, f1⟩ := fw_in hl.F0 hl.R0 hd h0 h1
    have := ord_at (ds := ds) f0 f1
    rw [e] at this
    exact List.mem_of_getElem? this
theorem idx_of {α : Type} [BEq α] [LawfulBEq α] : ∀ {l : List α} {i : Nat} {x : α}, l.Nodup → l[i]? = some x → l.idxOf x = i
  | y :: l, 0, x, _, h => by
    have := Option.some.inj h
    subst this
    simp
  | y :: l, i + 1, x, hn, h => by
    obtain ⟨h1, h2⟩ := List.nodup_cons.mp hn
    have hx : l[i]? = some x := by simpa using h
    have ne : y ≠ x := fun e => h1 (e ▸ List.mem_of_getElem? hx)
    rw [List.idxOf_cons, beq_eq_false_iff_ne.mpr ne]
    exact congrArg Nat.succ (idx_of h2 hx)
theorem ord_idx (hl : Lin F R) (hd : Oks F ds) {n : Int} (h0 : 0 ≤ n) (h1 : n < F * R) : (ordL F R ds).idxOf n = (fw F R ds n).toNat := by
  obtain ⟨f0, f1⟩ := fw_in hl.F0 hl.R0 hd h0 h1
  have := ord_at (ds := ds) f0 f1
  rw [bk_fw hl.F0 hl.R0 hd h0 h1] at this
  exact idx_of (ord_nodup hl hd) this
theorem fw_pl (hl : Lin F R) (hd : Oks F ds) {n : Int} (h0 : 0 ≤ n) (h1 : n < F * R) : plP F (fw F R ds n) = run F R ds (plP F n) := pl_num (run_in hl.F0 hl.R0 hd (pl_at hl.F0 h0 h1))
end
def ib_mn_Line_order : IS := (sRetN (nFn gListN (iCons (iFld ["Line"] "standing" (iVar 0)) iNil)))
def ib_m_Line_leaders : IS := (sRetN (nSl (iFld ["Line"] "standing" (iVar 0)) oNone (oSome (iFld ["Line"] "width" (iVar 0)))))
def ib_m_Line___len__ : IS := (sRet (iFn gLen (iCons (iFld ["Line"] "standing" (iVar 0)) iNil)))
def ib_m_Line_is_home : IS := (sRet (iB gEq (iFld ["Line"] "standing" (iVar 0)) (iListRg (iFn gLen (iCons (iFld ["Line"] "standing" (iVar 0)) iNil)))))
def ib_m_Line_rows : IS := (sRet (iFld ["Line"] "deep" (iVar 0)))
def ib_m_Line_files : IS := (sRet (iFld ["Line"] "width" (iVar 0)))
def sp_m_Line_files : ISp := fun ws S Q E => ∃ (a : Addr) (F R : Int) (ds : List Call), ws = [.ref a] ∧ S a = some (lnO F R ds) ∧ Q (.val (.int F)) S
theorem ok_m_Line_files (ws : List W) (S : Sto) (Q : R → Sto → Prop) (E : Exn → Sto → Prop) (h : sp_m_Line_files ws S Q E) : bodyI 1 ib_m_Line_files ws S Q E := by
  obtain ⟨a, F, R, ds, rfl, ha, q⟩ := h
  unfold ib_m_Line_files
  simp! only [ha]
  exact q
def sp_m_Line_rows : ISp := fun ws S Q E => ∃ (a : Addr) (F R : Int) (ds : List Call), ws = [.ref a] ∧ S a = some (lnO F R ds) ∧ Q (.val (.int R)) S
theorem ok_m_Line_rows (ws : List W) (S : Sto) (Q : R → Sto → Prop) (E : Exn → Sto → Prop) (h : sp_m_Line_rows ws S Q E) : bodyI 1 ib_m_Line_rows ws S Q E := by
  obtain ⟨a, F, R, ds, rfl, ha, q⟩ := h
  unfold ib_m_Line_rows
  simp! only [ha]
  exact q
def sp_m_Line___len__ : ISp := fun ws S Q E => ∃ (a : Addr) (F R : Int) (ds : List Call), ws = [.ref a] ∧ S a = some (lnO F R ds) ∧ Lin F R ∧ Q (.val (.int (F * R))) S
theorem ord_lenW {F R : Int} {ds : List Call} (hl : Lin F R) : (((ordL F R ds).map W.int).length : Int) = F * R := by
  rw [List.length_map, ord_len]
  have := hl.sz
  omega
theorem ok_m_Line___len__ (ws : List W) (S : Sto) (Q : R → Sto → Prop) (E : Exn → Sto → Prop) (h : sp_m_Line___len__ ws S Q E) : bodyI 1 ib_m_Line___len__ ws S Q E := by
  obtain ⟨a, F, R, ds, rfl, ha, hl, q⟩ := h
  have e := ord_lenW (ds := ds) hl
  unfold ib_m_Line___len__
  simp! only [ha, e]
  exact q
def sp_mn_Line_order : ISp := fun ws S Q E => ∃ (a : Addr) (F R : Int) (ds : List Call), ws = [.ref a] ∧ S a = some (lnO F R ds) ∧ Q (.new (.lst ((ordL F R ds).map .int))) S
theorem ok_mn_Line_order (ws : List W) (S : Sto) (Q : R → Sto → Prop) (E : Exn → Sto → Prop) (h : sp_mn_Line_order ws S Q E) : bodyI 1 ib_mn_Line_order ws S Q E := by
  obtain ⟨a, F, R, ds, rfl, ha, q⟩ := h
  unfold ib_mn_Line_order
  simp! only [ha]
  exact q
def sp_m_Line_leaders : ISp := fun ws S Q E => ∃ (a : Addr) (F R : Int) (ds : List Call), ws = [.ref a] ∧ S a = some (lnO F R ds) ∧ Lin F R ∧ Q (.new (.lst (((ordL F R ds).take F.toNat).map .int))) S
theorem ok_m_Line_leaders (ws : List W) (S : Sto) (Q : R → Sto → Prop) (E : Exn → Sto → Prop) (h : sp_m_Line_leaders ws S Q E) : bodyI 1 ib_m_Line_leaders ws S Q E := by
  obtain ⟨a, F, R, ds, rfl, ha, hl, q⟩ := h
  have e : cutW ((ordL F R ds).map W.int) none (some F) = ((ordL F R ds).take F.toNat).map .int := by rw [cut_to (by have := hl.F0; omega), List.map_take]
  unfold ib_m_Line_leaders
  simp! only [ha, e]
  exact q
theorem ord_home {F R : Int} (hF : 0 < F) : rng 0 (F * R).toNat = (ordL F R []).map .int := by
  rw [ordL_nil hF, List.map_map]
  unfold rng
  exact List.map_congr_left fun i _ => by simp
def sp_m_Line_is_home : ISp := fun ws S Q E => ∃ (a : Addr) (F R : Int) (ds : List Call), ws = [.ref a] ∧ S a = some (lnO F R ds) ∧ Lin F R ∧ Q (.val (.bl (decide (ordL F R ds = ordL F R [])))) S
theorem ok_m_Line_is_home (ws : List W) (S : Sto) (Q : R → Sto → Prop) (E : Exn → Sto → Prop) (h : sp_m_Line_is_home ws S Q E) : bodyI 1 ib_m_Line_is_home ws S Q E := by
  obtain ⟨a, F, R, ds, rfl, ha, hl, q⟩ := h
  have e := ord_lenW (ds := ds) hl
  have hs := hl.sz
  unfold ib_m_Line_is_home
  simp! only [ha, e]
  refine ⟨by omega, by omega, ?_⟩
  rw [ord_home hl.F0, eqWs_ints, okDs_int, okDs_int]
  exact ⟨rfl, q⟩
def ib_p_place_of_moves : IS := (sRet (iTup (iCons (iB gDiv (iVar 1) (iVar 0)) (iCons (iB gMod (iVar 1) (iVar 0)) iNil))))
def ib_m_Line_place_of : IS := (sSeq (sIf (tNot' (tTru' (iCall sp_pv_is_index (iCons (iVar 1) (iCons (iFn gLen (iCons (iFld ["Line"] "standing" (iVar 0)) iNil)) iNil))))) (sRaise1 "NoPupil" "pupil" (iVar 1)) sNext)
  (sRet (iCall sp_p_place_of (iCons (iFld ["Line"] "width" (iVar 0)) (iCons (iIdxL (iFld ["Line"] "standing" (iVar 0)) (iCons (iVar 1) iNil)) iNil)))))
def sp_m_Line_place_of : ISp := fun ws S Q E => ∃ (a : Addr) (F R : Int) (ds : List Call) (x : W), ws = [.ref a, x] ∧ S a = some (lnO F R ds) ∧ Lin F R ∧ Oks F ds ∧ OddL S x ∧ (∀ n : Int, x = .int n → 0 ≤ n → n < F * R → Q (.val (pairW (run F R ds (plP F n)))) S) ∧ (isIx x (F * R) = false → E ⟨"NoPupil", [("pupil", x)]⟩ S)
theorem ok_m_Line_place_of (ws : List W) (S : Sto) (Q : R → Sto → Prop) (E : Exn → Sto → Prop) (h : sp_m_Line_place_of ws S Q E) : bodyI 2 ib_m_Line_place_of ws S Q E := by
  obtain ⟨a, F, R, ds, x, rfl, ha, hl, hd, hx, q1, q2⟩ := h
  have e0 := ord_lenW (ds := ds) hl
  unfold ib_m_Line_place_of
  refine seq_go fun nx e => ?_
  simp! only [ha, e0]
  refine ⟨x, F * R, rfl, hx, ?_⟩
  cases hi : isIx x (F * R) with
  | false =>
    walk_at "r"
    exact q2 hi
  | true =>
    walk_at "r"
    obtain ⟨n, rfl, h0, h1⟩ : ∃ n : Int, x = .int n ∧ 0 ≤ n ∧ n < F * R := by
      unfold isIx at hi
      cases x <;> simp_all
    subst e
    have ei := ord_idx hl hd h0 h1
    have hf := fw_in hl.F0 hl.R0 hd h0 h1
    simp! only [ha, iIdxL]
    refine ⟨ordL F R ds, rfl, (ord_mem hl hd).mpr ⟨h0, h1⟩, ?_⟩
    rw [ei, Int.toNat_of_nonneg hf.1]
    refine ⟨F, fw F R ds n, rfl, hl.F0, bd_of (by have := hl.F0; omega) (by have := hl.fil; unfold Fil at this; omega), ?_⟩
    have := q1 n rfl h0 h1
    rw [← fw_pl hl hd h0 h1] at this
    exact this
def ib_m_Line_at : IS := (sSeq (sIf (tNot' (tTru' (iCall sp_pv_is_place (iCons (iFld ["Line"] "width" (iVar 0)) (iCons (iFld ["Line"] "deep" (iVar 0)) (iCons (iVar 1) iNil)))))) (sRaise1 "NoPlace" "place" (iVar 1)) sNext)
  (sRet (iIx (iFld ["Line"] "standing" (iVar 0)) (iCall sp_p_number_of (iCons (iFld ["Line"] "width" (iVar 0)) (iCons (iVar 1) iNil))))))
def sp_m_Line_at : ISp := fun ws S Q E => ∃ (a : Addr) (F R : Int) (ds : List Call) (x : W), ws = [.ref a, x] ∧ S a = some (lnO F R ds) ∧ Lin F R ∧ OddL S x ∧ okParts x ∧ (∀ p, x = pairW p → At F R p → Q (.val (.int (bk F R ds (numP F p)))) S) ∧ (isPl F R x = false → E ⟨"NoPlace", [("place", x)]⟩ S)
theorem ok_m_Line_at (ws : List W) (S : Sto) (Q : R → Sto → Prop) (E : Exn → Sto → Prop) (h : sp_m_Line_at ws S Q E) : bodyI 2 ib_m_Line_at ws S Q E := by
  obtain ⟨a, F, R, ds, x, rfl, ha, hl, hx, hp, q1, q2⟩ := h
  unfold ib_m_Line_at
  refine seq_go fun nx e => ?_
  simp! only [ha]
  refine ⟨F, R, x, rfl, hx, hp, ?_⟩
  cases hi : isPl F R x with
  | false =>
    walk_at "r"
    exact q2 hi
  | true =>
    walk_at "r"
    obtain ⟨p, rfl, hp'⟩ := isPl_in hi
    subst e
    simp! only [ha]
    have hn := numP_in hp'
    refine ⟨F, p.1, p.2, rfl, by have := hl.F0; omega, by have := hl.fil; unfold Fil at this; omega, ?_⟩
    have ea : atI ((ordL F R ds).map W.int) (numP F p) = some (.int (bk F R ds (numP F p))) := by
      rw [atI_pos hn.1 (by have := ord_lenW (ds := ds) hl; have := hn.2; omega), List.getElem_map]
      have := ord_at (ds := ds) hn.1 hn.2
      rw [List.getElem?_eq_some_iff] at this
      obtain ⟨_, h2⟩ := this
      exact congrArg (fun z => some (W.int z)) h2
    unfold numP at ea
    simp! only [ea]
    exact q1 p rfl hp'
def ib_m_Line_row_of : IS := (sSeq (sSet 2 (iIx (iMeth [("Line", sp_m_Line_place_of)] "place_of" (iVar 0) (iCons (iVar 1) iNil)) (iC (.int 0))))
  (sSeq (sSet 3 (iSl (iFld ["Line"] "standing" (iVar 0)) (oSome (iB gMul (iVar 2) (iFld ["Line"] "width" (iVar 0)))) (oSome (iB gMul (iB gAdd (iVar 2) (iC (.int 1))) (iFld ["Line"] "width" (iVar 0))))))
  (sRetN (nFn gSortedLN (iCons (iFz (nLc (lSeq (iVar 3)) (gNm 4) (tBl (iB gNe (iVar 4) (iVar 1))) (iVar 4) [4])) iNil)))))
/-- the others in the row of a pupil -/
def rowO (F R : Int) (ds : List Call) (n : Int) : List Int := (((ordL F R ds).drop ((run F R ds (plP F n)).1 * F).toNat).take F.toNat).filter fun j => !(decide (j = n))
def sp_m_Line_row_of : ISp := fun ws S Q E => ∃ (a : Addr) (F R : Int) (ds : List Call) (x : W), ws = [.ref a, x] ∧ S a = some (lnO F R ds) ∧ Lin F R ∧ Oks F ds ∧ OddL S x ∧ (∀ n : Int, x = .int n → 0 ≤ n → n < F * R → ∀ l : List Int, l.Perm (rowO F R ds n) → l.Pairwise (· ≤ ·) → Q (.new (.lst (l.map .int))) S) ∧ (isIx x (F * R) = false → E ⟨"NoPupil", [("pupil", x)]⟩ S)
theorem ok_m_Line_row_of (ws : List W) (S : Sto) (Q : R → Sto → Prop) (E : Exn → Sto → Prop) (h : sp_m_Line_row_of ws S Q E) : bodyI 5 ib_m_Line_row_of ws S Q E := by
  obtain ⟨a, F, R, ds, x, rfl, ha, hl, hd, hx, q1, q2⟩ := h
  have e0 := ord_lenW (ds := ds) hl
  have F0 := hl.F0
  have F3 := hl.fil
  unfold Fil at F3
  unfold ib_m_Line_row_of
  refine seq_go fun nx e => ?_
  simp! only [ha]
  refine ⟨a, F, R, ds, x, rfl, ha, hl, hd, hx, fun n en h0 h1 => ?_, q2⟩
  subst en
  have q := q1 n rfl h0 h1
  unfold rowO at q
  have hp := run_in F0 hl.R0 hd (pl_at (R := R) F0 h0 h1)
  generalize run F R ds (plP F n) = p at q hp ⊢
  obtain ⟨r, f⟩ := p
  obtain ⟨r0, r1, f0, f1⟩ := hp
  have r0 : 0 ≤ r := r0
  have rF : 0 ≤ r * F := Int.mul_nonneg r0 (by omega)
  walk_at "r"
  subst e
  refine seq_go fun nx e => ?_
  have ec : cutW ((ordL F R ds).map W.int) (some (r * F)) (some ((r + 1) * F)) = (((ordL F R ds).drop (r * F).toNat).take F.toNat).map .int := by
    have hle : (r + 1) * F ≤ R * F := Int.mul_le_mul_of_nonneg_right (by omega) (by omega)
    have e1 : (r + 1) * F = r * F + F := by rw [Int.add_mul]; omega
    rw [Int.mul_comm R F] at hle
    rw [cut_mid rF (by omega) (by omega), List.map_take, List.map_drop, show ((r + 1) * F - r * F).toNat = F.toNat by omega]
  simp! only [ha, ec]
  refine ⟨.inr (.inr ⟨by omega, by omega⟩), ?_⟩
  refine ⟨.inr (.inr ⟨by omega, by omega⟩), ?_⟩
  subst e
  have hlen : (((ordL F R ds).drop (r * F).toNat).take F.toNat).length ≤ 3 := by
    rw [List.length_take]
    omega
  generalize ((ordL F R ds).drop (r * F).toNat).take F.toNat = some at q hlen ⊢
  walk_at "rnLc_lSeq_gItems"
  refine lc_fil ⟨[.val (.ref a), .val (.int n), .val (.int r), .val (.lst (some.map .int)), .none], S⟩ W.int W.int (fun j : Int => !(decide (j = n))) some _ (fun j hj Y N h1 h2 => ?_) rfl (by rw [sizeLine_eq]; omega) fun st' es => ?_
  · walk_at "r"
    refine ifb (fun z => h1 (by simpa using z) _ rfl) (fun z => h2 (by simpa using z) _ rfl)
  · rw [es]
    simp! only [gSortedLN]
    exact ⟨_, rfl, fun l hp hs => q l hp hs⟩
local macro_rules | `(tactic| walk_at "rCall_w_pairW") => `(tactic| simp (decide := true) only [bodyI, start0, sSeq, sNext, sNever, sCont, sBreak, sDrop, sRet, sRetN, sRet0, sRetO, sIf, sSet, sSetN, sSetP, sPar, sParEN, sParNE, sPar3, sAsg, gNm, gsNil, gsCons, gTp, sAugI, sIxO, sIxS, sAugS, stoL, setW, iVar, iC, iNil, iCons, iTup, iLst, nLst, iFz, iB, gAdd, gI, gIC, gSub, gMul, gDiv, gMod, gPow, gLt, gLe, gGt, gGe, gEq, gNe, gIn, gIsN, isN, iNeg, tTru', gTru, tBl, iChain, tAnd', tOr', tNot', tYes', iIf, iAnd, iOr, iNot, iIx, gIx, atW, iIxO, ownL, oNone, oSome, iSl, gSl, iRevL, iCall, nCall, iFn, Stt.put, Stt.puts, iMtO, gAppend, gInsert, gExtend, gLen, iLenO, gAbs, gInt, gMinMax, gList, gTuple, iListRg, gIsi, tyN, gRepr, cut_13, cut_1_2, cut_1_3, cut_m2, cut_m3, cut_m4, atI_m2, atI_m3, atI_m4, iOfT, tKdIn, iKdIx, atI_0, atI_1, atI_2, atI_3, ixN_4_0, ixN_4_1, ixN_4_2, ixN_4_3, Sto.put_same, Sto.put_put, toNat_2, List.map, List.replicate, List.length_cons, List.length_nil, List.getElem?_cons_zero, List.getElem?_cons_succ, List.getElem?_nil, List.set_cons_zero, List.set_cons_succ, List.set_nil, List.cons_append, List.nil_append, List.append_nil, if_true, if_false, fz_val, fz_new, so_lst, so_dct, so_ins, eqW_ii, eqW_ss, eqW_tt, eqW_ll, eqW_nn, eqW_bb, eqW_ni, eqW_in, eqW_nt, eqW_tn, eqW_nl, eqW_ln, eqW_is, eqW_si, eqWs_nil, eqWs_cons, eqWs_nc, eqWs_cn, okD_int, okD_str, okD_bl, okD_non, okD_tup, okD_lst, eqOk_ii, eqOk_ss, eqOk_nn, eqOk_bb, eqOk_in, eqOk_ni, eqOk_tt, eqOk_ll, flatW_int, flatW_str, flatW_bl, flatW_non, inW, List.any_cons, List.any_nil, List.all_cons, List.all_nil, Bool.or_false, Bool.or_true, Bool.true_or, Bool.false_or, Bool.and_true, Bool.true_and, Bool.and_false, Bool.false_and, Bool.not_true, Bool.not_false, Bool.false_eq_true, true_and, and_true, beq_self_eq_true, List.isEmpty_cons, List.isEmpty_nil, Int.reduceNeg, eq_self, forall_const, iFld, objOf, iProp, iMeth, nMake, iInv, iMulM, iLenM, iIsi, sAtt, iRevT, lIter, nRep, lEnum, lZip, iEqM, gOwn, iDGet2, iAddO, nDisp, nDNew, iPairs, keysW, keyW, nFn, gListN, nListRg, iTupRg, nIf, sParM, iItems, putsR, Sh.R.slot, gIsB, isB, iPeek, tPeek, iPeekS, Stt.ps, noOwn, gInD, nPeek, Stt.pk, frzS, plainW, plainWs, tyS, tyIn, cOk, isAny, isOne, Option.map_some, lk_ne, List.lookup_nil, putW, lk_self, iXf, iIsE, Hnd.w, sRaise1, sRaise0, sTryE, gMax3, gEqN, gReprN, iIdxT, iIdxL, iInRg, nListM, iBR, iFnR, iPub, iMtR, drW, drWs, nOwn, nMeth, nSl, nAdd, nAddO, iMtN, sAugL, gSortedG, tTruO, refW_tup, refW_lst, refW_dct, refW_int, refW_str, refW_bl, refW_non, Call.w, pairW])
local macro_rules | `(tactic| walk_at "rpairW") => `(tactic| simp (decide := true) only [bodyI, start0, sSeq, sNext, sNever, sCont, sBreak, sDrop, sRet, sRetN, sRet0, sRetO, sIf, sSet, sSetN, sSetP, sPar, sParEN, sParNE, sPar3, sAsg, gNm, gsNil, gsCons, gTp, sAugI, sIxO, sIxS, sAugS, stoL, setW, iVar, iC, iNil, iCons, iTup, iLst, nLst, iFz, iB, gAdd, gI, gIC, gSub, gMul, gDiv, gMod, gPow, gLt, gLe, gGt, gGe, gEq, gNe, gIn, gIsN, isN, iNeg, tTru', gTru, tBl, iChain, tAnd', tOr', tNot', tYes', iIf, iAnd, iOr, iNot, iIx, gIx, atW, iIxO, ownL, oNone, oSome, iSl, gSl, iRevL, iCall, nCall, iFn, Stt.put, Stt.puts, iMtO, gAppend, gInsert, gExtend, gLen, iLenO, gAbs, gInt, gMinMax, gList, gTuple, iListRg, gIsi, tyN, gRepr, cut_13, cut_1_2, cut_1_3, cut_m2, cut_m3, cut_m4, atI_m2, atI_m3, atI_m4, iOfT, tKdIn, iKdIx, atI_0, atI_1, atI_2, atI_3, ixN_4_0, ixN_4_1, ixN_4_2, ixN_4_3, Sto.put_same, Sto.put_put, toNat_2, List.map, List.replicate, List.length_cons, List.length_nil, List.getElem?_cons_zero, List.getElem?_cons_succ, List.getElem?_nil, List.set_cons_zero, List.set_cons_succ, List.set_nil, List.cons_append, List.nil_append, List.append_nil, if_true, if_false, fz_val, fz_new, so_lst, so_dct, so_ins, eqW_ii, eqW_ss, eqW_tt, eqW_ll, eqW_nn, eqW_bb, eqW_ni, eqW_in, eqW_nt, eqW_tn, eqW_nl, eqW_ln, eqW_is, eqW_si, eqWs_nil, eqWs_cons, eqWs_nc, eqWs_cn, okD_int, okD_str, okD_bl, okD_non, okD_tup, okD_lst, eqOk_ii, eqOk_ss, eqOk_nn, eqOk_bb, eqOk_in, eqOk_ni, eqOk_tt, eqOk_ll, flatW_int, flatW_str, flatW_bl, flatW_non, inW, List.any_cons, List.any_nil, List.all_cons, List.all_nil, Bool.or_false, Bool.or_true, Bool.true_or, Bool.false_or, Bool.and_true, Bool.true_and, Bool.and_false, Bool.false_and, Bool.not_true, Bool.not_false, Bool.false_eq_true, true_and, and_true, beq_self_eq_true, List.isEmpty_cons, List.isEmpty_nil, Int.reduceNeg, eq_self, forall_const, iFld, objOf, iProp, iMeth, nMake, iInv, iMulM, iLenM, iIsi, sAtt, iRevT, lIter, nRep, lEnum, lZip, iEqM, gOwn, iDGet2, iAddO, nDisp, nDNew, iPairs, keysW, keyW, nFn, gListN, nListRg, iTupRg, nIf, sParM, iItems, putsR, Sh.R.slot, gIsB, isB, iPeek, tPeek, iPeekS, Stt.ps, noOwn, gInD, nPeek, Stt.pk, frzS, plainW, plainWs, tyS, tyIn, cOk, isAny, isOne, Option.map_some, lk_ne, List.lookup_nil, putW, lk_self, iXf, iIsE, Hnd.w, sRaise1, sRaise0, sTryE, gMax3, gEqN, gReprN, iIdxT, iIdxL, iInRg, nListM, iBR, iFnR, iPub, iMtR, drW, drWs, nOwn, nMeth, nSl, nAdd, nAddO, iMtN, sAugL, gSortedG, tTruO, refW_tup, refW_lst, refW_dct, refW_int, refW_str, refW_bl, refW_non, pairW])
def ib_l_brought_open : IS := (sSeq (sAsg (iVar 3) (gTp 2 (gsCons (gNm 4) (gsCons (gNm 5) gsNil))))
  (sSeq (sIf (tBl (iB gEq (iIx (iVar 0) (iC (.int 0))) (iC (.str "halve")))) (sRet (iTup (iCons (iB gMod (iFn gInt (iCons (iB gAdd (iB gMul (iVar 4) (iVar 1)) (iVar 5)) iNil)) (iVar 2)) (iCons (iB gDiv (iFn gInt (iCons (iB gAdd (iB gMul (iVar 4) (iVar 1)) (iVar 5)) iNil)) (iVar 2)) iNil)))) sNext)
  (sSeq (sIf (tBl (iB gEq (iIx (iVar 0) (iC (.int 0))) (iC (.str "pair")))) (sRet (iTup (iCons (iB gDiv (iFn gInt (iCons (iB gAdd (iB gMul (iVar 5) (iVar 2)) (iVar 4)) iNil)) (iVar 1)) (iCons (iB gMod (iFn gInt (iCons (iB gAdd (iB gMul (iVar 5) (iVar 2)) (iVar 4)) iNil)) (iVar 1)) iNil)))) sNext)
  (sSeq (sSet 6 (iB gDiv (iFn gInt (iCons (iB gAdd (iVar 2) (iC (.int 1))) iNil)) (iC (.int 2))))
  (sSeq (sIf (tBl (iB gEq (iIx (iVar 0) (iC (.int 0))) (iC (.str "others")))) (sRet (iTup (iCons (iB gAdd (iB gDiv (iFn gInt (iCons (iVar 4) iNil)) (iC (.int 2))) (iB gMul (iVar 6) (iB gMod (iFn gInt (iCons (iVar 4) iNil)) (iC (.int 2))))) (iCons (iVar 5) iNil)))) sNext)
  (sSeq (sIf (tBl (iB gEq (iIx (iVar 0) (iC (.int 0))) (iC (.str "fill")))) (sRet (iTup (iCons (iIf (tBl (iB gLt (iVar 4) (iVar 6))) (iB gMul (iC (.int 2)) (iVar 4)) (iB gAdd (iB gMul (iC (.int 2)) (iB gSub (iVar 4) (iVar 6))) (iC (.int 1)))) (iCons (iVar 5) iNil)))) sNext)
  (sRet (iVar 3))))))))
def sp_l_brought_open : ISp := fun ws S Q E => ∃ (c : Call) (F R : Int) (p : Int × Int), ws = [c.w, .int F, .int R, pairW p] ∧ (c.opn = true ∨ mv F R c p = p ∧ (c.word = "up" ∨ c.word = "swap" ∨ c.word = "wheel" ∨ c.word = "front")) ∧ Ln F R ∧ At F R p ∧ Q (.val (pairW (mv F R c p))) S
theorem ok_l_brought_open (ws : List W) (S : Sto) (Q : R → Sto → Prop) (E : Exn → Sto → Prop) (h : sp_l_brought_open ws S Q E) : bodyI 7 ib_l_brought_open ws S Q E := by
  obtain ⟨c, F, R, ⟨r, f⟩, rfl, hc, hl, hp, q⟩ := h
  have hR : 0 < R := by have := hl.2.2.1; omega
  have bR : 0 < R ∧ Bd R := ⟨hR, by have := hl.2.2.2; unfold Bd lim; omega⟩
  have l0 := hl.1
  have l1 := hl.2.1
  obtain ⟨r0, r1, f0, f1⟩ := hp
  simp only at r0 r1 f0 f1
  have b2 : Bd 2 := bd_of (by omega) (by omega)
  have bF : 0 < F ∧ Bd F := ⟨by omega, bd_of (by omega) (by omega)⟩
  unfold ib_l_brought_open
  cases c with
  | halve =>
    simp! only [Call.w, pairW, b2]
    refine ⟨small_r (by omega) (by omega), bR.1, small_r (by omega) (by omega), bR, q⟩
  | pair =>
    simp! only [Call.w, pairW, b2]
    refine ⟨small_l (by omega) (by omega), bF, small_l (by omega) (by omega), bF.1, q⟩
  | others =>
    simp! only [Call.w, pairW, b2]
    refine ⟨small_r (by omega) (by omega), ?_⟩
    simp only [mv] at q
    by_cases z : r % 2 = 0
    · rw [if_pos z] at q
      rw [z, Int.mul_zero, Int.add_zero]
      exact q
    · rw [if_neg z] at q
      rw [show r % 2 = 1 by omega, Int.mul_one, Int.add_comm (r / 2)]
      exact q
  | fill =>
    simp! only [Call.w, pairW, b2]
    simp only [mv] at q
    refine ifb (fun y => ?_) (fun y => ?_)
    · have y := of_decide_eq_true y
      rw [if_pos y] at q
      exact ⟨small_l (by omega) (by omega), q⟩
    · have y := of_decide_eq_false y
      rw [if_neg y] at q
      exact ⟨small_l (by omega) (by omega), q⟩
  | up g k =>
    rcases hc with hc | ⟨hc, _⟩
    · cases hc
    rw [hc] at q
    simp! only [Call.w, pairW, b2]
    exact q
  | swap g h =>
    rcases hc with hc | ⟨hc, _⟩
    · cases hc
    rw [hc] at q
    simp! only [Call.w, pairW, b2]
    exact q
  | wheel g h k =>
    rcases hc with hc | ⟨hc, _⟩
    · cases hc
    rw [hc] at q
    simp! only [Call.w, pairW, b2]
    exact q
  | front g h =>
    rcases hc with hc | ⟨hc, _⟩
    · cases hc
    rw [hc] at q
    simp! only [Call.w, pairW, b2]
    exact q
  | all k => exfalso; rcases hc with hc | ⟨_, hc⟩ <;> revert hc <;> simp only [Call.opn, Call.word] <;> decide
  | about => exfalso; rcases hc with hc | ⟨_, hc⟩ <;> revert hc <;> simp only [Call.opn, Call.word] <;> decide
theorem idx_two {f g h : Int} : (([g, h].idxOf f : Nat) : Int) = if f = g then 0 else if f = h then 1 else 2 := by
  by_cases a : f = g
  · subst a; simp
  · have a' : (g == f) = false := by simp [Ne.symm a]
    by_cases b : f = h
    · subst b; simp [List.idxOf_cons, a, a']
    · have b' : (h == f) = false := by simp [Ne.symm b]
      simp [List.idxOf_cons, a, b, a', b']
theorem two_eq {f g h : Int} : (g == f || h == f) = decide (f = g ∨ f = h) := by
  by_cases a : f = g
  · subst a; simp
  · by_cases b : f = h
    · subst b; simp
    · simp [a, b, Ne.symm a, Ne.symm b]
def ib_l_brought : IS := (sSeq (sAsg (iVar 3) (gTp 2 (gsCons (gNm 4) (gsCons (gNm 5) gsNil))))
  (sSeq (sIf (tOr' (tBl (iB gEq (iIx (iVar 0) (iC (.int 0))) (iC (.str "all")))) (tAnd' (tBl (iB gEq (iIx (iVar 0) (iC (.int 0))) (iC (.str "up")))) (tBl (iB gEq (iIx (iVar 0) (iC (.int 1))) (iVar 5))))) (sRet (iTup (iCons (iB gMod (iFn gInt (iCons (iB gSub (iVar 4) (iIx (iVar 0) (iNeg (iC (.int 1))))) iNil)) (iVar 2)) (iCons (iVar 5) iNil)))) sNext)
  (sSeq (sIf (tOr' (tAnd' (tBl (iB gEq (iIx (iVar 0) (iC (.int 0))) (iC (.str "swap")))) (tBl (iB (gIn false) (iVar 5) (iSl (iVar 0) (oSome (iC (.int 1))) oNone)))) (tAnd' (tBl (iB gEq (iIx (iVar 0) (iC (.int 0))) (iC (.str "front")))) (tAnd' (tBl (iB (gIn false) (iVar 5) (iSl (iVar 0) (oSome (iC (.int 1))) oNone))) (tBl (iB gEq (iVar 4) (iC (.int 0))))))) (sRet (iTup (iCons (iVar 4) (iCons (iB gSub (iB gAdd (iIx (iVar 0) (iC (.int 1))) (iIx (iVar 0) (iC (.int 2)))) (iVar 5)) iNil)))) sNext)
  (sSeq (sIf (tAnd' (tBl (iB gEq (iIx (iVar 0) (iC (.int 0))) (iC (.str "wheel")))) (tBl (iB (gIn false) (iVar 5) (iSl (iVar 0) (oSome (iC (.int 1))) (oSome (iC (.int 3))))))) (sSeq (sSet 6 (iIx (iLst (iCons (iB gSub (iB gSub (iVar 2) (iC (.int 1))) (iVar 4)) (iCons (iB gAdd (iVar 2) (iVar 4)) iNil))) (iIdxT (iVar 0) (oSome (iC (.int 1))) (oSome (iC (.int 3))) (iCons (iVar 5) iNil))))
    (sSeq (sSet 6 (iB gMod (iFn gInt (iCons (iB gAdd (iVar 6) (iIx (iVar 0) (iC (.int 3)))) iNil)) (iB gMul (iC (.int 2)) (iVar 2))))
    (sRet (iIf (tBl (iB gLt (iVar 6) (iVar 2))) (iTup (iCons (iB gSub (iB gSub (iVar 2) (iC (.int 1))) (iVar 6)) (iCons (iIx (iVar 0) (iC (.int 1))) iNil))) (iTup (iCons (iB gSub (iVar 6) (iVar 2)) (iCons (iIx (iVar 0) (iC (.int 2))) iNil))))))) sNext)
  (sSeq (sIf (tBl (iB gEq (iIx (iVar 0) (iC (.int 0))) (iC (.str "about")))) (sRet (iTup (iCons (iB gSub (iB gSub (iVar 2) (iC (.int 1))) (iVar 4)) (iCons (iB gSub (iB gSub (iVar 1) (iC (.int 1))) (iVar 5)) iNil)))) sNext)
  (sRet (iCall sp_l_brought_open (iCons (iVar 0) (iCons (iVar 1) (iCons (iVar 2) (iCons (iVar 3) iNil)))))))))))
def sp_l_brought : ISp := fun ws S Q E => ∃ (c : Call) (F R : Int) (p : Int × Int), ws = [c.w, .int F, .int R, pairW p] ∧ c.ok F ∧ Ln F R ∧ At F R p ∧ Q (.val (pairW (mv F R c p))) S
theorem ok_l_brought (ws : List W) (S : Sto) (Q : R → Sto → Prop) (E : Exn → Sto → Prop) (h : sp_l_brought ws S Q E) : bodyI 7 ib_l_brought ws S Q E := by
  obtain ⟨c, F, R, ⟨r, f⟩, rfl, hc, hl, hp, q⟩ := h
  have hR : 0 < R := by have := hl.2.2.1; omega
  have bR : 0 < R ∧ Bd R := ⟨hR, by have := hl.2.2.2; unfold Bd lim; omega⟩
  have opc : (c.opn = true ∨ mv F R c (r, f) = (r, f) ∧ (c.word = "up" ∨ c.word = "swap" ∨ c.word = "wheel" ∨ c.word = "front")) → sp_l_brought_open [c.w, .int F, .int R, pairW (r, f)] S Q (fun x S' => E x S') := fun ho => ⟨c, F, R, (r, f), rfl, ho, hl, hp, q⟩
  unfold ib_l_brought
  cases c with
  | all k =>
    walk_at "rCall_w_pairW"
    exact ⟨hR, q⟩
  | up g k =>
    walk_at "rCall_w_pairW"
    by_cases z : f = g
    · subst z
      simp only [mv, if_true] at q
      exact ifT (by simp) ⟨hR, q⟩
    · exact ifF (by simpa using fun e => z e.symm) (opc (.inr ⟨if_neg z, .inl rfl⟩))
  | swap g h =>
    simp only [Call.ok, Two] at hc
    walk_at "rCall_w_pairW"
    by_cases z : f ≠ g ∧ f ≠ h
    · refine ifF ?_ (opc (.inr ⟨if_pos z, .inr (.inl rfl)⟩))
      rw [two_eq, decide_eq_false (by omega)]
    · simp only [mv] at q
      rw [if_neg z] at q
      have e : g + h - f = if f = g then h else g := by split <;> omega
      refine ifT ?_ ?_
      · rw [two_eq, decide_eq_true (by omega)]
      rw [e]
      exact q
  | wheel g h k =>
    simp only [Call.ok, Two] at hc
    walk_at "rCall_w_pairW"
    by_cases z : f ≠ g ∧ f ≠ h
    · refine ifF ?_ (opc (.inr ⟨?_, .inr (.inr (.inl rfl))⟩))
      · rw [two_eq, decide_eq_false (by omega)]
      · simp only [mv, whl]; rw [if_pos z]
    · simp only [mv, whl] at q
      rw [if_neg z] at q
      refine ifT ?_ ?_
      · rw [two_eq, decide_eq_true (by omega)]
      refine ⟨[g, h], rfl, by simp; omega, ?_⟩
      rw [idx_two]
      have key : ∀ i : Int, i = (if f = g then R - 1 - r else R + r) → MulOk 2 R ∧ 0 < 2 * R ∧ if decide ((i + k) % (2 * R) < R) = true then Q (Sh.R.val (W.tup [W.int (R - 1 - (i + k) % (2 * R)), W.int g])) S else Q (Sh.R.val (W.tup [W.int ((i + k) % (2 * R) - R), W.int h])) S := fun i ei => by
        rw [← ei] at q
        refine ⟨small_l (by omega) (by omega), by omega, ifb (fun y => ?_) (fun y => ?_)⟩
        · rw [if_pos (of_decide_eq_true y)] at q
          exact q
        · rw [if_neg (of_decide_eq_false y)] at q
          exact q
      by_cases zg : f = g
      · rw [if_pos zg]
        exact key _ (by rw [if_pos zg])
      · rw [if_neg zg, if_pos (by omega)]
        exact key _ (by rw [if_neg zg])
  | about => walk_at "rCall_w_pairW"; exact q
  | front g h =>
    simp only [Call.ok, Two] at hc
    walk_at "rCall_w_pairW"
    rw [two_eq]
    have r0 : 0 ≤ r := hp.1
    by_cases z : (f ≠ g ∧ f ≠ h) ∨ 0 < r
    · have o := opc (.inr ⟨if_pos z, .inr (.inr (.inr rfl))⟩)
      refine ifb (fun y => ifb (fun y2 => ?_) fun _ => o) fun _ => o
      have y := of_decide_eq_true y
      have y2 : r = 0 := by simpa using y2
      omega
    · simp only [mv] at q
      rw [if_neg z] at q
      have e : g + h - f = if f = g then h else g := by split <;> omega
      refine ifT (decide_eq_true (by omega)) (ifT (by simp; omega) ?_)
      rw [e]
      exact q
  | halve => walk_at "rCall_w"; exact opc (.inl rfl)
  | pair => walk_at "rCall_w"; exact opc (.inl rfl)
  | others => walk_at "rCall_w"; exact opc (.inl rfl)
  | fill => walk_at "rCall_w"; exact opc (.inl rfl)
def homeL (n : Int) : List Int := (List.range n.toNat).map fun (i : Nat) => (i : Int)
theorem mem_homeL {n i : Int} : i ∈ homeL n ↔ 0 ≤ i ∧ i < n := by
  unfold homeL
  constructor
  · intro h
    obtain ⟨k, hk, rfl⟩ := List.mem_map.mp h
    have := List.mem_range.mp hk
    omega
  · intro h
    exact List.mem_map.mpr ⟨i.toNat, List.mem_range.mpr (by omega), by omega⟩
theorem homeL_lt {n : Int} : (homeL n).Pairwise (· < ·) := by
  unfold homeL
  exact List.pairwise_map.mpr (List.Pairwise.imp (fun {a b} (h : a < b) => by omega) List.pairwise_lt_range)
theorem homeL_nodup {n : Int} : (homeL n).Nodup := List.Pairwise.imp (fun {a b} (h : a < b) => by omega) homeL_lt
theorem homeL_le {n : Int} : (homeL n).Pairwise (· ≤ ·) := List.Pairwise.imp (fun {a b} (h : a < b) => by omega) homeL_lt
theorem movesL_home {F R : Int} {cs : List Call} : movesL F R cs = (homeL (F * R)).map (fw F R cs) := by
  unfold movesL homeL
  rw [List.map_map, Int.mul_comm]
  rfl
theorem movesL_perm {F R : Int} {cs : List Call} (hF : 0 < F) (hR : 0 < R) (hc : Oks F cs) : (movesL F R cs).Perm (homeL (F * R)) := by
  rw [movesL_home]
  refine (List.perm_ext_iff_of_nodup ?_ homeL_nodup).mpr fun i => ?_
  · refine List.pairwise_map.mpr (List.Pairwise.imp_of_mem (fun {a b} ha hb h e => ?_) homeL_nodup)
    have ha := mem_homeL.mp ha
    have hb := mem_homeL.mp hb
    have e1 := bk_fw hF hR hc ha.1 ha.2
    rw [e, bk_fw hF hR hc hb.1 hb.2] at e1
    exact h e1.symm
  · constructor
    · intro h
      obtain ⟨j, hj, rfl⟩ := List.mem_map.mp h
      have hj := mem_homeL.mp hj
      exact mem_homeL.mpr (fw_in hF hR hc hj.1 hj.2)
    · intro h
      have hi := mem_homeL.mp h
      exact List.mem_map.mpr ⟨bk F R cs i, mem_homeL.mpr (bk_in hF hR hc hi.1 hi.2), fw_bk hF hR hc hi.1 hi.2⟩
theorem sorted_home {n : Int} {xs : List Int} (h : xs.Perm (homeL n)) (s : xs.Pairwise (· ≤ ·)) : xs = homeL n :=
  h.eq_of_pairwise (fun _ _ _ _ a b => by omega) s homeL_le
def RN (d n : Nat) (w : W) : Prop := okN d w = true ∧ (toN w).showable = true ∧ (toN w).shown.length ≤ n
def rnB (d n : Nat) (w : W) : Bool := okN d w && ((toN w).showable && decide ((toN w).shown.length ≤ n))
theorem rn_dec {d n : Nat} {w : W} (h : rnB d n w = true) : RN d n w := by
  simp only [rnB, Bool.and_eq_true, decide_eq_true_eq] at h
  exact h
theorem okN_up : ∀ {d d' : Nat}, d ≤ d' → ∀ w : W, okN d w = true → okN d' w = true
  | _, d', _, .non, _ => by cases d' <;> rfl
  | _, d', _, .bl _, _ => by cases d' <;> rfl
  | _, d', _, .int _, _ => by cases d' <;> rfl
  | _, d', _, .str _, _ => by cases d' <;> rfl
  | d + 1, d' + 1, h, .tup ws, k => List.all_eq_true.mpr fun x hx => okN_up (Nat.le_of_succ_le_succ h) x (List.all_eq_true.mp (show ws.all (okN d) = true from k) x hx)
  | d + 1, d' + 1, h, .lst ws, k => List.all_eq_true.mpr fun x hx => okN_up (Nat.le_of_succ_le_succ h) x (List.all_eq_true.mp (show ws.all (okN d) = true from k) x hx)
  | d + 1, d' + 1, h, .dct ws, k => List.all_eq_true.mpr fun x hx => okN_up (Nat.le_of_succ_le_succ h) x.2 (List.all_eq_true.mp (show (ws.all fun p => okN d p.2) = true from k) x hx)
  | 0, _, _, .tup ws, k => by simp [okN] at k
  | 0, _, _, .lst ws, k => by simp [okN] at k
  | 0, _, _, .dct ws, k => by simp [okN] at k
  | d + 1, 0, h, _, _ => by omega
  | d, _, _, .obj _ _, k => by cases d <;> simp [okN] at k
  | d, _, _, .dcT _, k => by cases d <;> simp [okN] at k
  | d, _, _, .exn _ _ _ _, k => by cases d <;> simp [okN] at k
  | d, _, _, .ref _, k => by cases d <;> simp [okN] at k
  | d, _, _, .ty _, k => by cases d <;> simp [okN] at k
  | d, _, _, .scr _, k => by cases d <;> simp [okN] at k
  | d, _, _, .glo _, k => by cases d <;> simp [okN] at k
theorem RN.up {d d' n n' : Nat} {w : W} (h : RN d n w) (hd : d ≤ d') (hn : n ≤ n') : RN d' n' w := ⟨okN_up hd w h.1, h.2.1, Nat.le_trans h.2.2 hn⟩
theorem RN.rep {d n : Nat} {w : W} (h : RN d n w) (hd : d ≤ 60 := by decide) (hn : n ≤ sizeLine := by decide) : RepN w := h.up hd hn
mutual
theorem toN_of : ∀ {d : Nat} (w : W), okD d w = true → toN w = toD w ∧ okN d w = true
  | d, .non, _ => by cases d <;> exact ⟨rfl, rfl⟩
  | d, .bl _, _ => by cases d <;> exact ⟨rfl, rfl⟩
  | d, .int _, _ => by cases d <;> exact ⟨rfl, rfl⟩
  | d, .str _, _ => by cases d <;> exact ⟨rfl, rfl⟩
  | d + 1, .tup ws, h => by
    obtain ⟨a, b⟩ := toNs_of ws (show ws.all (okD d) = true from h)
    exact ⟨congrArg PyData.tuple a, b⟩
  | d + 1, .lst ws, h => by
    obtain ⟨a, b⟩ := toNs_of ws (show ws.all (okD d) = true from h)
    exact ⟨congrArg PyData.list a, b⟩
  | 0, .tup ws, h => by simp [okD] at h
  | 0, .lst ws, h => by simp [okD] at h
  | d, .dct _, h => by cases d <;> simp [okD] at h
  | d, .obj _ _, h => by cases d <;> simp [okD] at h
  | d, .dcT _, h => by cases d <;> simp [okD] at h
  | d, .exn _ _ _ _, h => by cases d <;> simp [okD] at h
  | d, .ref _, h => by cases d <;> simp [okD] at h
  | d, .ty _, h => by cases d <;> simp [okD] at h
  | d, .scr _, h => by cases d <;> simp [okD] at h
  | d, .glo _, h => by cases d <;> simp [okD] at h
theorem toNs_of : ∀ {d : Nat} (ws : List W), ws.all (okD d) = true → toNs ws = toDs ws ∧ ws.all (okN d) = true
  | _, [], _ => ⟨rfl, rfl⟩
  | d, w :: ws, h => by
    rw [List.all_cons, Bool.and_eq_true] at h
    obtain ⟨a, b⟩ := toN_of w h.1
    obtain ⟨a2, b2⟩ := toNs_of ws h.2
    refine ⟨?_, by rw [List.all_cons, b, b2]; rfl⟩
    show toN w :: toNs ws = toD w :: toDs ws
    rw [a, a2]
end
theorem Rep.rn {d n : Nat} {w : W} (h : Rep d n w) : RN d n w := by
  obtain ⟨a, b⟩ := toN_of w h.1
  exact ⟨b, by rw [a]; exact h.2.1, by rw [a]; exact h.2.2⟩
theorem shownN_sum {n : Nat} : ∀ (ws : List W), (∀ w ∈ ws, (toN w).shown.length ≤ n) → ((PyData.shownAll (toNs ws)).map (·.length)).sum ≤ n * ws.length ∧ (PyData.shownAll (toNs ws)).length = ws.length
  | [], _ => ⟨Nat.zero_le _, rfl⟩
  | w :: ws, h => by
    have a := shownN_sum ws fun x hx => h x (List.mem_cons_of_mem _ hx)
    have b := h w (List.mem_cons_self ..)
    have e : PyData.shownAll (toNs (w :: ws)) = (toN w).shown :: PyData.shownAll (toNs ws) := rfl
    rw [e, List.map_cons, List.sum_cons, List.length_cons, List.length_cons, Nat.mul_succ]
    exact ⟨by omega, by omega⟩
theorem showN_all : ∀ (ws : List W), (∀ w ∈ ws, (toN w).showable = true) → PyData.showableAll (toNs ws) = true
  | [], _ => rfl
  | w :: ws, h => by
    show ((toN w).showable && PyData.showableAll (toNs ws)) = true
    rw [h w (List.mem_cons_self ..), showN_all ws fun x hx => h x (List.mem_cons_of_mem _ hx)]
    rfl
theorem rn_tup {d n : Nat} {ws : List W} (h : ∀ w ∈ ws, RN d n w) : RN (d + 1) (n * ws.length + 2 * ws.length + 3) (.tup ws) := by
  refine ⟨List.all_eq_true.mpr fun x hx => (h x hx).1, showN_all ws fun x hx => (h x hx).2.1, ?_⟩
  obtain ⟨a, b⟩ := shownN_sum ws fun x hx => (h x hx).2.2
  have := tupleText_len_le (PyData.shownAll (toNs ws))
  rw [b] at this
  exact Nat.le_trans this (by omega)
/-- what repr takes -/
def AlN (x : W) : Prop := if refW x = true then RepN x else RepOk x
theorem AlN.ref {x : W} (h : refW x = true) (r : RepN x) : AlN x := by unfold AlN; rw [if_pos h]; exact r
theorem AlN.sca {x : W} (h : refW x = false) (r : RepOk x) : AlN x := by unfold AlN; rw [if_neg (by rw [h]; decide)]; exact r
theorem alN_of {d n : Nat} {x : W} (h : RN d n x) (hd : d ≤ 60 := by decide) (hn : n ≤ sizeLine := by decide) (k : refW x = false → RepOk x) : AlN x := by
  cases e : refW x with
  | true => exact .ref e (h.rep hd hn)
  | false => exact .sca e (k e)
/-- the odd values -/
structure Od (x : W) : Prop where
  rn : RN 30 100000 x
  sc : refW x = false → RepOk x
theorem Od.al {x : W} (h : Od x) : AlN x := alN_of h.rn (k := h.sc)
theorem RepN.ok {x : W} (h : RepN x) : okN 60 x = true := h.1
local macro_rules | `(tactic| walk_at "rsFor_lEnum") => `(tactic| simp (decide := true) only [bodyI, start0, sSeq, sNext, sNever, sCont, sBreak, sDrop, sRet, sRetN, sRet0, sRetO, sIf, sSet, sSetN, sSetP, sPar, sParEN, sParNE, sPar3, sAsg, gNm, gsNil, gsCons, gTp, sAugI, sIxO, sIxS, sAugS, stoL, setW, iVar, iC, iNil, iCons, iTup, iLst, nLst, iFz, iB, gAdd, gI, gIC, gSub, gMul, gDiv, gMod, gPow, gLt, gLe, gGt, gGe, gEq, gNe, gIn, gIsN, isN, iNeg, tTru', gTru, tBl, iChain, tAnd', tOr', tNot', tYes', iIf, iAnd, iOr, iNot, iIx, gIx, atW, iIxO, ownL, oNone, oSome, iSl, gSl, iRevL, iCall, nCall, iFn, Stt.put, Stt.puts, iMtO, gAppend, gInsert, gExtend, gLen, iLenO, gAbs, gInt, gMinMax, gList, gTuple, iListRg, gIsi, tyN, gRepr, cut_13, cut_1_2, cut_1_3, cut_m2, cut_m3, cut_m4, atI_m2, atI_m3, atI_m4, iOfT, tKdIn, iKdIx, atI_0, atI_1, atI_2, atI_3, ixN_4_0, ixN_4_1, ixN_4_2, ixN_4_3, Sto.put_same, Sto.put_put, toNat_2, List.map, List.replicate, List.length_cons, List.length_nil, List.getElem?_cons_zero, List.getElem?_cons_succ, List.getElem?_nil, List.set_cons_zero, List.set_cons_succ, List.set_nil, List.cons_append, List.nil_append, List.append_nil, if_true, if_false, fz_val, fz_new, so_lst, so_dct, so_ins, eqW_ii, eqW_ss, eqW_tt, eqW_ll, eqW_nn, eqW_bb, eqW_ni, eqW_in, eqW_nt, eqW_tn, eqW_nl, eqW_ln, eqW_is, eqW_si, eqWs_nil, eqWs_cons, eqWs_nc, eqWs_cn, okD_int, okD_str, okD_bl, okD_non, okD_tup, okD_lst, eqOk_ii, eqOk_ss, eqOk_nn, eqOk_bb, eqOk_in, eqOk_ni, eqOk_tt, eqOk_ll, flatW_int, flatW_str, flatW_bl, flatW_non, inW, List.any_cons, List.any_nil, List.all_cons, List.all_nil, Bool.or_false, Bool.or_true, Bool.true_or, Bool.false_or, Bool.and_true, Bool.true_and, Bool.and_false, Bool.false_and, Bool.not_true, Bool.not_false, Bool.false_eq_true, true_and, and_true, beq_self_eq_true, List.isEmpty_cons, List.isEmpty_nil, Int.reduceNeg, eq_self, forall_const, iFld, objOf, iProp, iMeth, nMake, iInv, iMulM, iLenM, iIsi, sAtt, iRevT, lIter, nRep, lEnum, lZip, iEqM, gOwn, iDGet2, iAddO, nDisp, nDNew, iPairs, keysW, keyW, nFn, gListN, nListRg, iTupRg, nIf, sParM, iItems, putsR, Sh.R.slot, gIsB, isB, iPeek, tPeek, iPeekS, Stt.ps, noOwn, gInD, nPeek, Stt.pk, frzS, plainW, plainWs, tyS, tyIn, cOk, isAny, isOne, Option.map_some, lk_ne, List.lookup_nil, putW, lk_self, iXf, iIsE, Hnd.w, sRaise1, sRaise0, sTryE, gMax3, gEqN, gReprN, iIdxT, iIdxL, iInRg, nListM, iBR, iFnR, iPub, iMtR, drW, drWs, nOwn, nMeth, nSl, nAdd, nAddO, iMtN, sAugL, gSortedG, tTruO, refW_tup, refW_lst, refW_dct, refW_int, refW_str, refW_bl, refW_non, sFor, lEnum])
local macro_rules | `(tactic| walk_at "rsFor_lSeq") => `(tactic| simp (decide := true) only [bodyI, start0, sSeq, sNext, sNever, sCont, sBreak, sDrop, sRet, sRetN, sRet0, sRetO, sIf, sSet, sSetN, sSetP, sPar, sParEN, sParNE, sPar3, sAsg, gNm, gsNil, gsCons, gTp, sAugI, sIxO, sIxS, sAugS, stoL, setW, iVar, iC, iNil, iCons, iTup, iLst, nLst, iFz, iB, gAdd, gI, gIC, gSub, gMul, gDiv, gMod, gPow, gLt, gLe, gGt, gGe, gEq, gNe, gIn, gIsN, isN, iNeg, tTru', gTru, tBl, iChain, tAnd', tOr', tNot', tYes', iIf, iAnd, iOr, iNot, iIx, gIx, atW, iIxO, ownL, oNone, oSome, iSl, gSl, iRevL, iCall, nCall, iFn, Stt.put, Stt.puts, iMtO, gAppend, gInsert, gExtend, gLen, iLenO, gAbs, gInt, gMinMax, gList, gTuple, iListRg, gIsi, tyN, gRepr, cut_13, cut_1_2, cut_1_3, cut_m2, cut_m3, cut_m4, atI_m2, atI_m3, atI_m4, iOfT, tKdIn, iKdIx, atI_0, atI_1, atI_2, atI_3, ixN_4_0, ixN_4_1, ixN_4_2, ixN_4_3, Sto.put_same, Sto.put_put, toNat_2, List.map, List.replicate, List.length_cons, List.length_nil, List.getElem?_cons_zero, List.getElem?_cons_succ, List.getElem?_nil, List.set_cons_zero, List.set_cons_succ, List.set_nil, List.cons_append, List.nil_append, List.append_nil, if_true, if_false, fz_val, fz_new, so_lst, so_dct, so_ins, eqW_ii, eqW_ss, eqW_tt, eqW_ll, eqW_nn, eqW_bb, eqW_ni, eqW_in, eqW_nt, eqW_tn, eqW_nl, eqW_ln, eqW_is, eqW_si, eqWs_nil, eqWs_cons, eqWs_nc, eqWs_cn, okD_int, okD_str, okD_bl, okD_non, okD_tup, okD_lst, eqOk_ii, eqOk_ss, eqOk_nn, eqOk_bb, eqOk_in, eqOk_ni, eqOk_tt, eqOk_ll, flatW_int, flatW_str, flatW_bl, flatW_non, inW, List.any_cons, List.any_nil, List.all_cons, List.all_nil, Bool.or_false, Bool.or_true, Bool.true_or, Bool.false_or, Bool.and_true, Bool.true_and, Bool.and_false, Bool.false_and, Bool.not_true, Bool.not_false, Bool.false_eq_true, true_and, and_true, beq_self_eq_true, List.isEmpty_cons, List.isEmpty_nil, Int.reduceNeg, eq_self, forall_const, iFld, objOf, iProp, iMeth, nMake, iInv, iMulM, iLenM, iIsi, sAtt, iRevT, lIter, nRep, lEnum, lZip, iEqM, gOwn, iDGet2, iAddO, nDisp, nDNew, iPairs, keysW, keyW, nFn, gListN, nListRg, iTupRg, nIf, sParM, iItems, putsR, Sh.R.slot, gIsB, isB, iPeek, tPeek, iPeekS, Stt.ps, noOwn, gInD, nPeek, Stt.pk, frzS, plainW, plainWs, tyS, tyIn, cOk, isAny, isOne, Option.map_some, lk_ne, List.lookup_nil, putW, lk_self, iXf, iIsE, Hnd.w, sRaise1, sRaise0, sTryE, gMax3, gEqN, gReprN, iIdxT, iIdxL, iInRg, nListM, iBR, iFnR, iPub, iMtR, drW, drWs, nOwn, nMeth, nSl, nAdd, nAddO, iMtN, sAugL, gSortedG, tTruO, refW_tup, refW_lst, refW_dct, refW_int, refW_str, refW_bl, refW_non, sFor, lSeq])
local macro_rules | `(tactic| walk_at "rgItems") => `(tactic| simp (decide := true) only [bodyI, start0, sSeq, sNext, sNever, sCont, sBreak, sDrop, sRet, sRetN, sRet0, sRetO, sIf, sSet, sSetN, sSetP, sPar, sParEN, sParNE, sPar3, sAsg, gNm, gsNil, gsCons, gTp, sAugI, sIxO, sIxS, sAugS, stoL, setW, iVar, iC, iNil, iCons, iTup, iLst, nLst, iFz, iB, gAdd, gI, gIC, gSub, gMul, gDiv, gMod, gPow, gLt, gLe, gGt, gGe, gEq, gNe, gIn, gIsN, isN, iNeg, tTru', gTru, tBl, iChain, tAnd', tOr', tNot', tYes', iIf, iAnd, iOr, iNot, iIx, gIx, atW, iIxO, ownL, oNone, oSome, iSl, gSl, iRevL, iCall, nCall, iFn, Stt.put, Stt.puts, iMtO, gAppend, gInsert, gExtend, gLen, iLenO, gAbs, gInt, gMinMax, gList, gTuple, iListRg, gIsi, tyN, gRepr, cut_13, cut_1_2, cut_1_3, cut_m2, cut_m3, cut_m4, atI_m2, atI_m3, atI_m4, iOfT, tKdIn, iKdIx, atI_0, atI_1, atI_2, atI_3, ixN_4_0, ixN_4_1, ixN_4_2, ixN_4_3, Sto.put_same, Sto.put_put, toNat_2, List.map, List.replicate, List.length_cons, List.length_nil, List.getElem?_cons_zero, List.getElem?_cons_succ, List.getElem?_nil, List.set_cons_zero, List.set_cons_succ, List.set_nil, List.cons_append, List.nil_append, List.append_nil, if_true, if_false, fz_val, fz_new, so_lst, so_dct, so_ins, eqW_ii, eqW_ss, eqW_tt, eqW_ll, eqW_nn, eqW_bb, eqW_ni, eqW_in, eqW_nt, eqW_tn, eqW_nl, eqW_ln, eqW_is, eqW_si, eqWs_nil, eqWs_cons, eqWs_nc, eqWs_cn, okD_int, okD_str, okD_bl, okD_non, okD_tup, okD_lst, eqOk_ii, eqOk_ss, eqOk_nn, eqOk_bb, eqOk_in, eqOk_ni, eqOk_tt, eqOk_ll, flatW_int, flatW_str, flatW_bl, flatW_non, inW, List.any_cons, List.any_nil, List.all_cons, List.all_nil, Bool.or_false, Bool.or_true, Bool.true_or, Bool.false_or, Bool.and_true, Bool.true_and, Bool.and_false, Bool.false_and, Bool.not_true, Bool.not_false, Bool.false_eq_true, true_and, and_true, beq_self_eq_true, List.isEmpty_cons, List.isEmpty_nil, Int.reduceNeg, eq_self, forall_const, iFld, objOf, iProp, iMeth, nMake, iInv, iMulM, iLenM, iIsi, sAtt, iRevT, lIter, nRep, lEnum, lZip, iEqM, gOwn, iDGet2, iAddO, nDisp, nDNew, iPairs, keysW, keyW, nFn, gListN, nListRg, iTupRg, nIf, sParM, iItems, putsR, Sh.R.slot, gIsB, isB, iPeek, tPeek, iPeekS, Stt.ps, noOwn, gInD, nPeek, Stt.pk, frzS, plainW, plainWs, tyS, tyIn, cOk, isAny, isOne, Option.map_some, lk_ne, List.lookup_nil, putW, lk_self, iXf, iIsE, Hnd.w, sRaise1, sRaise0, sTryE, gMax3, gEqN, gReprN, iIdxT, iIdxL, iInRg, nListM, iBR, iFnR, iPub, iMtR, drW, drWs, nOwn, nMeth, nSl, nAdd, nAddO, iMtN, sAugL, gSortedG, tTruO, refW_tup, refW_lst, refW_dct, refW_int, refW_str, refW_bl, refW_non, gItems])
def ib_l_done_1 : IS := (sSeq (sSet 7 (iCall sp_l_brought (iCons (iVar 1) (iCons (iVar 2) (iCons (iVar 3) (iCons (iTup (iCons (iB gDiv (iVar 5) (iVar 2)) (iCons (iB gMod (iFn gInt (iCons (iVar 5) iNil)) (iVar 2)) iNil))) iNil))))))
    (sIxO 4 (iB gAdd (iB gMul (iIx (iVar 7) (iC (.int 0))) (iVar 2)) (iIx (iVar 7) (iC (.int 1)))) (iVar 6)))
def ib_l_done : IS := (sSeq (sSetN 4 (nRep (iLst (iCons (iC .non) iNil)) (iFn gLen (iCons (iVar 0) iNil))))
  (sSeq (sFor (lEnum (iVar 0)) (gTp 2 (gsCons (gNm 5) (gsCons (gNm 6) gsNil))) ib_l_done_1)
  (sRetO 4)))
/-- the own list while it is filled -/
def fillN (F R : Int) (cs ds : List Call) (n : Int) : List W := (List.range (F * R).toNat).map fun (j : Nat) => if bk F R cs j < n then .int (bk F R ds (bk F R cs j)) else .non
def sp_l_done : ISp := fun ws S Q E => ∃ (F R : Int) (ds : List Call) (c : Call), ws = [.lst ((ordL F R ds).map .int), c.w, .int F, .int R] ∧ Lin F R ∧ c.ok F ∧ Q (.new (.lst ((ordL F R (ds ++ [c])).map .int))) S
theorem ok_l_done (ws : List W) (S : Sto) (Q : R → Sto → Prop) (E : Exn → Sto → Prop) (h : sp_l_done ws S Q E) : bodyI 8 ib_l_done ws S Q E := by
  obtain ⟨F, R, ds, c, rfl, hl, hc1, q⟩ := h
  have hF := hl.F0
  have hR := hl.R0
  have hs := hl.sz
  have hc : Oks F [c] := fun d hd => by rw [List.mem_singleton.mp hd]; exact hc1
  have hf := hl.fil
  unfold Fil at hf
  have ln : Ln F R := ⟨by omega, by omega, by have := hl.r1; omega, by have := hl.r2; omega⟩
  have e0 := ord_lenW (ds := ds) hl
  unfold ib_l_done
  refine seq_go fun nx e => ?_
  simp! only [e0]
  refine ⟨by omega, by omega, by rw [sizeLine_eq]; omega, ?_⟩
  subst e
  have e1 : (List.replicate (F * R).toNat [W.non]).flatten = fillN F R [c] ds 0 := by
    unfold fillN
    have : ∀ n : Nat, n ≤ (F * R).toNat → (List.replicate n [W.non]).flatten = (List.range n).map fun (j : Nat) => if bk F R [c] j < 0 then W.int (bk F R ds (bk F R [c] j)) else .non := by
      intro n
      induction n with
      | zero => intro _; rfl
      | succ n ih =>
        intro hn
        rw [List.replicate_succ', List.flatten_append, ih (by omega), List.range_succ, List.map_append]
        have := (bk_in (cs := [c]) (j := n) hF hR hc (by omega) (by omega)).1
        simp only [List.map_cons, List.map_nil, List.flatten_cons, List.flatten_nil, List.append_nil]
        rw [if_neg (by omega)]
    exact this _ (Nat.le_refl _)
  rw [e1]
  refine seq_cut (fun st => ∃ (x5 x6 x7 : Slot), st = ⟨[.val (.lst ((ordL F R ds).map .int)), .val c.w, .val (.int F), .val (.int R), .own (.lst (fillN F R [c] ds (F * R))), x5, x6, x7], S⟩) (fun nx h => ?_) (fun st ⟨x5, x6, x7, es⟩ => ?_)
  · walk_at "rsFor_lEnum"
    unfold enumW
    rw [show ((ordL F R ds).map W.int).length = (F * R).toNat by rw [List.length_map, ord_len]]
    refine for_map (fun i st => ∃ (x5 x6 x7 : Slot), st = ⟨[.val (.lst ((ordL F R ds).map .int)), .val c.w, .val (.int F), .val (.int R), .own (.lst (fillN F R [c] ds i)), x5, x6, x7], S⟩) _ _ ⟨_, _, _, rfl⟩ (fun st ⟨x5, x6, x7, es⟩ => h _ ⟨x5, x6, x7, by rw [es, Int.toNat_of_nonneg hs.1]⟩) fun i hi st nx ⟨x5, x6, x7, es⟩ hn => ?_
    subst es
    have em : (((ordL F R ds).map W.int)[i]?).getD .non = .int (bk F R ds i) := by
      rw [List.getElem?_map]
      have := ord_at (ds := ds) (j := i) (F := F) (R := R) (by omega) (by omega)
      rw [Int.toNat_natCast] at this
      rw [this]
      rfl
    rw [em]
    unfold ib_l_done_1
    walk_at "r"
    have hp : At F R (plP F i) := pl_at hF (by omega) (by omega)
    refine ⟨⟨by omega, bd_of (by omega) (by omega)⟩, by omega, c, F, R, plP F i, rfl, hc1, ln, hp, ?_⟩
    have fi := fw_in (cs := [c]) (j := i) hF hR hc (by omega) (by omega)
    have ef : (mv F R c (plP F i)).1 * F + (mv F R c (plP F i)).2 = fw F R [c] i := rfl
    have fl : (fillN F R [c] ds i).length = (F * R).toNat := by unfold fillN; rw [List.length_map, List.length_range]
    have e2 : ixN (fillN F R [c] ds i).length (fw F R [c] i) = some (fw F R [c] i).toNat := by
      rw [fl]
      unfold ixN
      rw [if_pos fi.1, if_pos (by omega)]
    simp! only [pairW, ef, e2]
    refine ⟨.inr (.inr ⟨by omega, by omega⟩), ?_⟩
    have e3 : (fillN F R [c] ds i).set (fw F R [c] i).toNat (.int (bk F R ds i)) = fillN F R [c] ds ((i + 1 : Nat) : Int) := by
      unfold fillN
      refine List.ext_getElem (by simp) fun k h1 h2 => ?_
      simp only [List.length_set, List.length_map, List.length_range] at h1
      rw [List.getElem_set]
      simp only [List.getElem_map, List.getElem_range]
      have b0 := bk_in (cs := [c]) (j := k) hF hR hc (by omega) (by omega)
      by_cases z : (fw F R [c] i).toNat = k
      · have zk : (k : Int) = fw F R [c] i := by omega
        rw [if_pos z, zk, bk_fw hF hR hc (by omega) (by omega), if_pos (by omega)]
      · rw [if_neg z]
        have : bk F R [c] k ≠ i := fun y => z (by
          have := fw_bk (cs := [c]) (j := k) hF hR hc (by omega) (by omega)
          rw [y] at this
          omega)
        by_cases y : bk F R [c] k < i
        · rw [if_pos y, if_pos (by omega)]
        · rw [if_neg y, if_neg (by omega)]
    rw [e3]
    exact hn _ ⟨_, _, _, rfl⟩
  · subst es
    walk_at "r"
    have e9 : fillN F R [c] ds (F * R) = (ordL F R (ds ++ [c])).map .int := by
      unfold fillN ordL
      rw [List.map_map]
      refine List.map_congr_left fun j hj => ?_
      have hj := List.mem_range.mp hj
      rw [if_pos (bk_in hF hR hc (by omega) (by omega)).2, Function.comp_apply, bk_app hF hR hc (by omega) (by omega)]
    rw [e9]
    exact q
def ib_l_heard_1 (h : Hnd) : IS := (sSeq (sIf (tBl (iB gEq (iIsE ["Wrong", "NoCall", "Unlike", "NoPlace", "NoPupil"] ["NoPlace", "NoPupil"] h (iCons (iVar 1) (iCons (iC (.glo "NoPlace")) iNil))) (iIsE ["Wrong", "NoCall", "Unlike", "NoPlace", "NoPupil"] ["NoPlace", "NoPupil"] h (iCons (iVar 1) (iCons (iC (.glo "NoPupil")) iNil))))) (sRet (iTup (iCons (iC (.str "other")) (iCons (iC .non) iNil)))) sNext)
  (sRet (iIf (tTru' (iIsE ["Wrong", "NoCall", "Unlike", "NoPlace", "NoPupil"] ["NoPlace", "NoPupil"] h (iCons (iVar 1) (iCons (iC (.glo "NoPlace")) iNil)))) (iTup (iCons (iC (.str "place")) (iCons (iXf ["Wrong", "NoPlace"] "place" h (iVar 1)) iNil))) (iTup (iCons (iC (.str "pupil")) (iCons (iXf ["NoPupil"] "pupil" h (iVar 1)) iNil))))))
def hI_l_heard : LSp := hRet 2 1 "told" ["Wrong", "NoCall", "Unlike", "NoPlace", "NoPupil"] ib_l_heard_1
section
variable {al : LAct} {S : Sto} {Q : R → Sto → Prop}
theorem heard_p {x : W} (h : ∀ Qn E, E ⟨"NoPlace", [("place", x)]⟩ S → al Qn E S) (q : Q (.val (.tup [.str "place", x])) S) : hI_l_heard al S Q := by
  unfold hI_l_heard hRet
  refine h _ _ ⟨by show ("NoPlace" : Str) ∈ _; decide, fun a d => ?_⟩
  unfold ib_l_heard_1
  have e1 : (("NoPlace" : Str) == "NoPupil") = false := by decide
  simp! only [hErr, retI, emp, e1]
  exact q
theorem heard_u {x : W} (h : ∀ Qn E, E ⟨"NoPupil", [("pupil", x)]⟩ S → al Qn E S) (q : Q (.val (.tup [.str "pupil", x])) S) : hI_l_heard al S Q := by
  unfold hI_l_heard hRet
  refine h _ _ ⟨by show ("NoPupil" : Str) ∈ _; decide, fun a d => ?_⟩
  unfold ib_l_heard_1
  have e1 : (("NoPupil" : Str) == "NoPlace") = false := by decide
  simp! only [hErr, retI, emp, e1]
  exact q
end
theorem rp_ints {l : List Int} (hl : l.length ≤ 1300) (h : ∀ x ∈ l, 0 ≤ x ∧ x < 10000) : Rep 1 300000 (.lst (l.map .int)) := by
  refine (rep_lst (d := 0) (n := 201) (ws := l.map .int) fun w hw => ?_).up (Nat.le_refl _) (by rw [List.length_map]; omega)
  obtain ⟨x, hx, rfl⟩ := List.mem_map.mp hw
  have := h x hx
  exact rep_int (bd_of (by omega) (by omega))
theorem ord_perm {F R : Int} {ds : List Call} (hl : Lin F R) (hd : Oks F ds) : (ordL F R ds).Perm (homeL (F * R)) := by
  have e : ordL F R ds = movesL F R (invC ds) := by
    unfold ordL movesL
    rw [Int.mul_comm]
    rfl
  rw [e]
  exact movesL_perm hl.F0 hl.R0 hd.inv
theorem ord_home2 {F R : Int} (hF : 0 < F) : ordL F R [] = homeL (F * R) := ordL_nil hF
def ib_l_right_1_2 : IS := (sSeq (sSet 10 (iCall sp_l_take (iCons (iVar 0) (iCons (iB gMul (iVar 3) (iVar 4)) iNil))))
  (sSeq (sPar 11 12 (iB gDiv (iVar 10) (iVar 3)) (iB gMod (iFn gInt (iCons (iVar 10) iNil)) (iVar 3)))
  (sSeq (sSet 13 (iIx (iVar 2) (iVar 10)))
  (sSeq (sIf (tBl (iB gEq (iVar 5) (iC (.int 2)))) (sSeq (sSetN 6 (nLst (iCons (iMeth [("Line", sp_m_Line_at)] "at" (iVar 1) (iCons (iTup (iCons (iVar 11) (iCons (iVar 12) iNil))) iNil)) (iCons (iMeth [("Line", sp_m_Line_place_of)] "place_of" (iVar 1) (iCons (iVar 13) iNil)) iNil))))
      (sIf (tBl (iB gNe (iFn gRepr (iCons (iVar 6) iNil)) (iFn gRepr (iCons (iLst (iCons (iVar 13) (iCons (iTup (iCons (iVar 11) (iCons (iVar 12) iNil))) iNil))) iNil)))) (sRet (iC (.bl false))) sNext)) sNext)
  (sIf (tBl (iB gEq (iVar 5) (iC (.int 3)))) (sSeq (sSet 14 (iFn gSorted (iCons (iFz (nLc (lSeq (iSl (iVar 2) (oSome (iB gMul (iVar 11) (iVar 3))) (oSome (iB gAdd (iB gMul (iVar 11) (iVar 3)) (iVar 3))))) (gNm 15) (tBl (iB gNe (iVar 15) (iVar 13))) (iVar 15) [15])) iNil)))
      (sSeq (sSetN 6 (nMeth [("Line", sp_m_Line_row_of)] "row_of" (iVar 1) (iCons (iVar 13) iNil)))
      (sSeq (sIf (tPeek (tBl (iB gNe (iFn gRepr (iCons (iVar 6) iNil)) (iFn gRepr (iCons (iVar 14) iNil))))) (sRet (iC (.bl false))) sNext)
      (sDrop (iMtO 6 gAppend (iCons (iC .non) iNil)))))) sNext)))))
def ib_l_right_1 : IS := (sSeq (sIf (tBl (iB gEq (iVar 5) (iC (.int 0)))) (sSeq (sParM [6, 7] [.n (nMeth [("Line", sp_mn_Line_order)] "order" (iVar 1) iNil), .n (nMeth [("Line", sp_m_Line_leaders)] "leaders" (iVar 1) iNil)])
      (sSeq (sIf (tOr' (tPeek (tBl (iB gNe (iFn gRepr (iCons (iVar 6) iNil)) (iFn gRepr (iCons (iVar 2) iNil))))) (tPeek (tBl (iB gNe (iFn gRepr (iCons (iVar 7) iNil)) (iFn gRepr (iCons (iSl (iVar 2) oNone (oSome (iVar 3))) iNil)))))) (sRet (iC (.bl false))) sNext)
      (sSeq (sDrop (iMtO0 6 gClear))
      (sDrop (iMtO 7 gAppend (iCons (iC .non) iNil)))))) sNext)
  (sSeq (sIf (tBl (iB gEq (iVar 5) (iC (.int 1)))) (sSeq (sSet 8 (iFn gRepr (iCons (iLst (iCons (iProp [("Line", sp_m_Line_files)] "files" (iVar 1)) (iCons (iProp [("Line", sp_m_Line_rows)] "rows" (iVar 1)) (iCons (iLenM [("Line", sp_m_Line___len__)] (iVar 1)) (iCons (iMeth [("Line", sp_m_Line_is_home)] "is_home" (iVar 1) iNil) (iCons (iFz (nListM [("Line", "standing")] [("Line", sp_m_Line___len__)] (iVar 1))) iNil)))))) iNil)))
      (sSeq (sSet 9 (iLst (iCons (iVar 3) (iCons (iVar 4) (iCons (iB gMul (iVar 3) (iVar 4)) (iCons (iB gEq (iVar 2) (iFn gSorted (iCons (iVar 2) iNil))) (iCons (iVar 2) iNil)))))))
      (sIf (tBl (iB gNe (iVar 8) (iFn gRepr (iCons (iVar 9) iNil)))) (sRet (iC (.bl false))) sNext))) sNext)
  ib_l_right_1_2))
def ib_l_right : IS := (sSeq (sFor (lSeq (iCall sp_l_mixed (iCons (iVar 0) (iCons (iLst (iCons (iC (.int 0)) (iCons (iC (.int 1)) (iCons (iC (.int 2)) (iCons (iC (.int 3)) iNil))))) iNil)))) (gNm 5) ib_l_right_1)
  (sRet (iC (.bl true))))
structure Rq (S : Sto) (ad la : Addr) (F R : Int) (ds : List Call) : Prop where
  l : Lin F R
  d : Oks F ds
  b : Bg S ad
  s : S la = some (lnO F R ds)
theorem Rq.ne {S : Sto} {ad la : Addr} {F R : Int} {ds : List Call} (h : Rq S ad la F R ds) : la ≠ ad := fun z => by
  obtain ⟨x, e, i⟩ := h.b
  rw [← z, h.s] at e
  cases e
  obtain ⟨_, _, _, _, e, _⟩ := i
  cases e
theorem Rq.bx {S S' : Sto} {ad la : Addr} {F R : Int} {ds : List Call} (h : Rq S ad la F R ds) (b : Bx ad S S') : Rq S' ad la F R ds := ⟨h.l, h.d, b.bg, (b.fr la h.ne).trans h.s⟩
theorem Rq.om {S : Sto} {ad la : Addr} {F R : Int} {ds : List Call} (h : Rq S ad la F R ds) : ∀ x ∈ ordL F R ds, 0 ≤ x ∧ x < 10000 := fun x hx => by
  have := (ord_mem h.l h.d).mp hx
  have := h.l.sz
  omega
theorem Rq.ol {S : Sto} {ad la : Addr} {F R : Int} {ds : List Call} (h : Rq S ad la F R ds) : (ordL F R ds).length ≤ 1300 := by
  rw [ord_len]
  have := h.l.sz
  omega
theorem two_sort {l m k : List Int} (h1 : l.Perm k) (h2 : m.Perm k) (s1 : l.Pairwise (· ≤ ·)) (s2 : m.Pairwise (· ≤ ·)) : l = m :=
  (h1.trans h2.symm).eq_of_pairwise (fun _ _ _ _ a b => by omega) s1 s2
theorem right_2 {EI : XI} {D : IEnds} {S : Sto} {ad la : Addr} {F R w : Int} {ds : List Call} {x6 x7 x8 x9 x10 x11 x12 x13 x14 x15 : Slot} (h : Rq S ad la F R ds) (hw : w = 0 ∨ w = 1 ∨ w = 2 ∨ w = 3)
    (q : ∀ (S' : Sto) (x5 x6 x7 x8 x9 x10 x11 x12 x13 x14 x15 : Slot), Bx ad S S' → D.nx ⟨[.val (.ref ad), .val (.ref la), .val (.lst ((ordL F R ds).map .int)), .val (.int F), .val (.int R), x5, x6, x7, x8, x9, x10, x11, x12, x13, x14, x15], S'⟩) :
    ib_l_right_1_2 EI D ⟨[.val (.ref ad), .val (.ref la), .val (.lst ((ordL F R ds).map .int)), .val (.int F), .val (.int R), .val (.int w), x6, x7, x8, x9, x10, x11, x12, x13, x14, x15], S⟩ := by
  have hl := h.l
  have hF := hl.F0
  have hR := hl.R0
  have hs := hl.sz
  have hf := hl.fil
  unfold Fil at hf
  have FR1 : 0 < F * R := Int.mul_pos hF hR
  unfold ib_l_right_1_2
  refine seq_go fun nx e => ?_
  walk_at "r"
  refine ⟨small_l (by omega) (by omega), cl_take FR1 (bd_of (by omega) (by omega)) h.b fun n S1 n0 n1 b1 => ?_⟩
  have h := h.bx b1
  walk_at "r"
  subst e
  refine seq_go fun nx e => ?_
  walk_at "r"
  refine ⟨⟨by omega, bd_of (by omega) (by omega)⟩, by omega, ?_⟩
  subst e
  have hp : At F R (n / F, n % F) := pl_at hF n0 n1
  have hb := bk_in (cs := ds) hF hR h.d n0 n1
  have en : (((ordL F R ds).map W.int)[n.toNat]?) = some (.int (bk F R ds n)) := by rw [List.getElem?_map, ord_at n0 n1]; rfl
  have ea : atI ((ordL F R ds).map W.int) n = some (.int (bk F R ds n)) := by
    rw [atI_pos n0 (by have := ord_lenW (ds := ds) hl; omega)]
    rw [List.getElem?_eq_some_iff] at en
    obtain ⟨_, h2⟩ := en
    exact congrArg some h2
  refine seq_go fun nx e => ?_
  simp! only [ea]
  subst e
  have hfb := fw_bk hF hR h.d n0 n1
  have hpl := fw_pl hl h.d hb.1 hb.2
  rw [hfb] at hpl
  have hS := h.s
  have rd : ∀ x : Int, 0 ≤ x → x < 10000 → Rep 0 201 (.int x) := fun x h0 h1 => rep_int (bd_of (by omega) (by omega))
  refine seq_go fun nx e => ?_
  by_cases w2 : w = 2
  · subst w2
    simp! only [hS]
    refine ⟨la, F, R, ds, _, rfl, hS, hl, .inl (.inl (fun z => nomatch z)), ⟨(fun z => nomatch z), (fun z => nomatch z)⟩, fun p ep hp2 => ?_, fun z => ?_⟩
    · obtain rfl : p = (n / F, n % F) := by
        obtain ⟨p1, p2⟩ := p
        injection ep with ep
        injection ep with e1 ep
        injection e1 with e1
        injection ep with e2 ep
        injection e2 with e2
        rw [e1, e2]
      have enm : numP F (n / F, n % F) = n := num_pl hF
      rw [enm]
      simp! only [hS]
      refine ⟨la, F, R, ds, _, rfl, hS, hl, h.d, .inl (.inl (fun z => nomatch z)), fun m em m0 m1 => ?_, fun z => ?_⟩
      · injection em with em
        subst em
        rw [← hpl]
        have rp : RepOk (.lst [.int (bk F R ds n), .tup [.int (n / F), .int (n % F)]]) := by
          have h2 : Rep 1 500 (.tup [.int (n / F), .int (n % F)]) := (rep_tup (d := 0) (n := 201) (ws := [.int (n / F), .int (n % F)]) fun w hw => by
            obtain ⟨a1, a2, a3, a4⟩ := hp
            have a1 : 0 ≤ n / F := a1
            have a2 : n / F < R := a2
            have a3 : 0 ≤ n % F := a3
            have a4 : n % F < F := a4
            have := hl.r2
            simp only [List.mem_cons, List.not_mem_nil, or_false] at hw
            rcases hw with rfl | rfl
            · exact rd _ (by omega) (by omega)
            · exact rd _ (by omega) (by omega)).up (Nat.le_refl _) (show 201 * 2 + 2 * 2 + 3 ≤ 500 by decide)
          exact ((rep_lst (d := 1) (n := 500) (ws := [.int (bk F R ds n), .tup [.int (n / F), .int (n % F)]]) fun w hw => by
            simp only [List.mem_cons, List.not_mem_nil, or_false] at hw
            rcases hw with rfl | rfl
            · exact (rd _ hb.1 (by omega)).up (by decide) (by decide)
            · exact h2)).ok (by decide) (by rw [sizeLine_eq]; simp)
        simp! only [pairW, plP]
        refine ⟨rp, rp, ?_⟩
        subst e
        walk_at "r"
        exact q _ _ _ _ _ _ _ _ _ _ _ _ b1
      · have : isIx (.int (bk F R ds n)) (F * R) = true := by
          show (decide (0 ≤ bk F R ds n) && decide (bk F R ds n < F * R)) = true
          rw [decide_eq_true hb.1, decide_eq_true hb.2]
          rfl
        rw [this] at z
        cases z
    · have := isPl_at hp
      rw [show W.tup [.int (n / F), .int (n % F)] = pairW (n / F, n % F) from rfl, this] at z
      cases z
  · have e2 : (w == 2) = false := by simpa using w2
    simp! only [e2]
    subst e
    by_cases w3 : w = 3
    · subst w3
      have r0 : 0 ≤ n / F := Int.ediv_nonneg n0 (by omega)
      have rF : 0 ≤ n / F * F := Int.mul_nonneg r0 (by omega)
      have r1 : n / F < R := hp.2.1
      have hle : (n / F + 1) * F ≤ R * F := Int.mul_le_mul_of_nonneg_right (by omega) (by omega)
      rw [Int.add_mul, Int.one_mul, Int.mul_comm R F] at hle
      have ec : cutW ((ordL F R ds).map W.int) (some (n / F * F)) (some (n / F * F + F)) = (((ordL F R ds).drop (n / F * F).toNat).take F.toNat).map .int := by
        rw [cut_mid rF (by omega) (by have := ord_lenW (ds := ds) hl; omega), List.map_take, List.map_drop, show (n / F * F + F - n / F * F).toNat = F.toNat by omega]
      have hlen : (((ordL F R ds).drop (n / F * F).toNat).take F.toNat).length ≤ 3 := by
        rw [List.length_take]
        omega
      have hrow : rowO F R ds (bk F R ds n) = (((ordL F R ds).drop (n / F * F).toNat).take F.toNat).filter fun j => !(decide (j = bk F R ds n)) := by
        unfold rowO
        rw [← hpl]
        rfl
      have hmem : ∀ x ∈ ((ordL F R ds).drop (n / F * F).toNat).take F.toNat, 0 ≤ x ∧ x < 10000 := fun x hx => h.om x (List.mem_of_mem_drop (List.mem_of_mem_take hx))
      generalize ((ordL F R ds).drop (n / F * F).toNat).take F.toNat = some at ec hlen hrow hmem
      simp! only [nLc, lSeq, gItems, ec]
      refine ⟨.inr (.inr ⟨by omega, by omega⟩), .inr (.inr ⟨by omega, by omega⟩), ?_⟩
      refine lc_fil ⟨[.val (.ref ad), .val (.ref la), .val (.lst ((ordL F R ds).map .int)), .val (.int F), .val (.int R), .val (.int 3), x6, x7, x8, x9, .val (.int n), .val (.int (n / F)), .val (.int (n % F)), .val (.int (bk F R ds n)), x14, .none], S1⟩ W.int W.int (fun j : Int => !(decide (j = bk F R ds n))) some _ (fun j hj Y N h1 h2 => ?_) rfl (by rw [sizeLine_eq]; omega) fun st' es => ?_
      · walk_at "r"
        exact ifb (fun z => h1 (by simpa using z) _ rfl) (fun z => h2 (by simpa using z) _ rfl)
      rw [es, ← hrow]
      have hrl : ∀ x ∈ rowO F R ds (bk F R ds n), 0 ≤ x ∧ x < 10000 := fun x hx => by
        rw [hrow] at hx
        exact hmem x (List.mem_filter.mp hx).1
      have hrn : (rowO F R ds (bk F R ds n)).length ≤ 3 := by
        rw [hrow]
        have := List.length_filter_le (fun j : Int => !(decide (j = bk F R ds n))) some
        omega
      simp! only [gSorted]
      refine .inl ⟨_, rfl, fun l p1 s1 => ?_⟩
      simp! only [hS]
      refine ⟨la, F, R, ds, _, rfl, hS, hl, h.d, .inl (.inl (fun z => nomatch z)), fun m em m0 m1 l2 p2 s2 => ?_, fun z => ?_⟩
      · injection em with em
        subst em
        rw [two_sort p2 p1 s2 s1]
        have rp : RepOk (.lst (l.map .int)) := (rp_ints (by have := p1.length_eq; omega) (fun x hx => hrl x (p1.mem_iff.mp hx))).ok (by decide) (by rw [sizeLine_eq]; omega)
        walk_at "r"
        exact ⟨rp, rp, by rw [List.length_map, sizeLine_eq]; have := p1.length_eq; omega, q _ _ _ _ _ _ _ _ _ _ _ _ b1⟩
      · have : isIx (.int (bk F R ds n)) (F * R) = true := by
          show (decide (0 ≤ bk F R ds n) && decide (bk F R ds n < F * R)) = true
          rw [decide_eq_true hb.1, decide_eq_true hb.2]
          rfl
        rw [this] at z
        cases z
    · have e3 : (w == 3) = false := by simpa using w3
      simp! only [e3]
      exact q _ _ _ _ _ _ _ _ _ _ _ _ b1
def sp_l_right : ISp := fun ws S Q E => ∃ (ad la : Addr) (F R : Int) (ds : List Call), ws = [.ref ad, .ref la, .lst ((ordL F R ds).map .int), .int F, .int R] ∧ Rq S ad la F R ds ∧ ∀ S', Bx ad S S' → Q (.val (.bl true)) S'
theorem ok_l_right (ws : List W) (S : Sto) (Q : R → Sto → Prop) (E : Exn → Sto → Prop) (h : sp_l_right ws S Q E) : bodyI 16 ib_l_right ws S Q E := by
  obtain ⟨ad, la, F, R, ds, rfl, hr, q⟩ := h
  have hl := hr.l
  have hF := hl.F0
  have hR := hl.R0
  have hs := hl.sz
  have hf := hl.fil
  unfold Fil at hf
  unfold ib_l_right
  refine seq_cut (fun st => ∃ (S' : Sto), Bx ad S S' ∧ st.S = S') (fun nx h => ?_) (fun st ⟨S', b, es⟩ => by subst es; exact q _ b)
  walk_at "rsFor_lSeq"
  refine ⟨ad, _, rfl, by simp, hr.b, fun ys S0 hp b0 => ?_⟩
  walk_at "rgItems"
  refine for_inv (fun zs st => (∀ z ∈ zs, z = .int 0 ∨ z = .int 1 ∨ z = .int 2 ∨ z = .int 3) ∧ ∃ (S' : Sto) (x5 x6 x7 x8 x9 x10 x11 x12 x13 x14 x15 : Slot), Bx ad S S' ∧ st = ⟨[.val (.ref ad), .val (.ref la), .val (.lst ((ordL F R ds).map .int)), .val (.int F), .val (.int R), x5, x6, x7, x8, x9, x10, x11, x12, x13, x14, x15], S'⟩) _ _ ⟨fun z hz => ?_, S0, _, _, _, _, _, _, _, _, _, _, _, b0, rfl⟩ (fun st ⟨_, S', _, _, _, _, _, _, _, _, _, _, _, b, es⟩ => h st ⟨S', b, by rw [es]⟩) ?_
  · have := hp.mem_iff.mp hz
    simp only [List.mem_cons, List.not_mem_nil, or_false] at this
    exact this
  rintro z zs st ny ⟨hz, S1, x5, x6, x7, x8, x9, x10, x11, x12, x13, x14, x15, b1, es⟩ hn
  subst es
  have hz0 := hz z (List.mem_cons_self ..)
  have hn : ∀ (S' : Sto) (x5 x6 x7 x8 x9 x10 x11 x12 x13 x14 x15 : Slot), Bx ad S1 S' → ny ⟨[.val (.ref ad), .val (.ref la), .val (.lst ((ordL F R ds).map .int)), .val (.int F), .val (.int R), x5, x6, x7, x8, x9, x10, x11, x12, x13, x14, x15], S'⟩ := fun S' x5 x6 x7 x8 x9 x10 x11 x12 x13 x14 x15 b => hn _ ⟨fun y hy => hz y (List.mem_cons_of_mem _ hy), S', _, _, _, _, _, _, _, _, _, _, _, b1.trans b, rfl⟩
  have h1 := hr.bx b1
  have hS1 := h1.s
  have ro := rp_ints h1.ol h1.om
  have rk : RepOk (.lst ((ordL F R ds).map .int)) := ro.ok (by decide) (by rw [sizeLine_eq]; omega)
  walk_at "r"
  unfold ib_l_right_1
  rcases hz0 with rfl | rfl | rfl | rfl
  · have et : cutW ((ordL F R ds).map W.int) none (some F) = ((ordL F R ds).take F.toNat).map .int := by rw [cut_to (by omega), List.map_take]
    have rt : RepOk (.lst (((ordL F R ds).take F.toNat).map .int)) := (rp_ints (by rw [List.length_take]; omega) fun x hx => h1.om x (List.mem_of_mem_take hx)).ok (by decide) (by rw [sizeLine_eq]; omega)
    refine seq_go fun nz e => ?_
    simp! only [hS1]
    refine ⟨la, F, R, ds, rfl, hS1, ?_⟩
    simp! only [hS1]
    refine ⟨la, F, R, ds, rfl, hS1, hl, ?_⟩
    simp! only [et]
    refine ⟨rk, rk, rt, rt, ?_⟩
    simp! only [iMtO0, gClear]
    subst e
    refine ⟨by rw [List.length_map, List.length_take, sizeLine_eq]; omega, ?_⟩
    refine seq_go fun nz e => ?_
    walk_at "r"
    subst e
    exact right_2 h1 (.inl rfl) hn
  · refine seq_go fun nz e => ?_
    walk_at "r"
    subst e
    refine seq_go fun nz e => ?_
    simp! only [hS1]
    refine ⟨la, F, R, ds, rfl, hS1, ?_⟩
    simp! only [hS1]
    refine ⟨la, F, R, ds, rfl, hS1, ?_⟩
    simp! only [hS1]
    refine ⟨la, F, R, ds, rfl, hS1, hl, ?_⟩
    simp! only [hS1]
    refine ⟨by omega, by omega, la, F, R, ds, rfl, hS1, hl, ?_⟩
    simp! only [hS1]
    refine ⟨_, _, _, rfl, rfl, rfl, la, F, R, ds, rfl, hS1, hl, ?_⟩
    simp! only [lenP]
    have rr : ∀ b : Bool, RepOk (.lst [.int F, .int R, .int (F * R), .bl b, .lst ((ordL F R ds).map .int)]) := fun b => (rep_lst (d := 1) (n := 300000) (ws := [.int F, .int R, .int (F * R), .bl b, .lst ((ordL F R ds).map .int)]) fun w hw => by
      simp only [List.mem_cons, List.not_mem_nil, or_false] at hw
      rcases hw with rfl | rfl | rfl | rfl | rfl
      · exact (rep_int (d := 1) (bd_of (by omega) (by omega))).up (by decide) (by decide)
      · exact (rep_int (d := 1) (bd_of (by have := hl.r1; omega) (by have := hl.r2; omega))).up (by decide) (by decide)
      · exact (rep_int (d := 1) (bd_of (by omega) (by omega))).up (by decide) (by decide)
      · cases b <;> exact ⟨by decide +kernel, by decide +kernel, Nat.le_trans (show _ ≤ 10 by decide +kernel) (by decide)⟩
      · exact ro).ok (by decide) (by rw [sizeLine_eq]; simp)
    refine ⟨by omega, by rw [sizeLine_eq]; omega, rr _, small_l (by omega) (by have := hl.r2; omega), ?_⟩
    simp! only [gSorted]
    refine .inl ⟨_, rfl, fun l p1 s1 => ?_⟩
    have el : l = ordL F R [] := by rw [ord_home2 hF]; exact sorted_home (p1.trans (ord_perm hl hr.d)) s1
    subst el
    refine ⟨?_, rr _, ifF ?_ ?_⟩
    · show (((ordL F R ds).map W.int).all (okD 63) && ((ordL F R []).map W.int).all (okD 63)) = true
      rw [okDs_int, okDs_int]
      rfl
    · rw [eqWs_ints]
      simp
    subst e
    exact right_2 h1 (.inr (.inl rfl)) hn
  all_goals
    refine seq_go fun nz e => ?_
    walk_at "r"
    subst e
    refine seq_go fun nz e => ?_
    walk_at "r"
    subst e
    exact right_2 h1 (by omega) hn
theorem bag_tbl {P : Addr} {d : Str} (h : IsBag (.tbl P d)) : False := by
  obtain ⟨_, _, _, _, e, _⟩ := h
  cases e
theorem Tb.fresh {S : Sto} {d : Str} {a : Addr} {o : SO} (h : Tb S d) (ha : S a = none) : Tb (S.put a o) d := by
  obtain ⟨P, e⟩ := h
  exact ⟨P, (Sto.put_ne fun z => by rw [z, ha] at e; cases e).trans e⟩
theorem Bg.fresh {S : Sto} {a b : Addr} {o : SO} (h : Bg S b) (ha : S a = none) : Bg (S.put a o) b := by
  obtain ⟨x, e, i⟩ := h
  exact ⟨x, (Sto.put_ne fun z => by rw [z, ha] at e; cases e).trans e, i⟩
theorem Tb.bx {S S' : Sto} {a : Addr} {d : Str} (h : Tb S d) (hb : Bg S a) (b : Bx a S S') : Tb S' d := by
  obtain ⟨P, e⟩ := h
  refine ⟨P, ?_⟩
  by_cases z : P = a
  · subst z
    obtain ⟨o, ho, hbag⟩ := hb
    rw [e] at ho
    cases ho
    exact (bag_tbl hbag).elim
  · rw [b.fr P z, e]

def ib_mm_Line_order : IS := (sRet (iFn gList (iCons (iFld ["Line"] "standing" (iVar 0)) iNil)))
def ib_law_1 : IS := (sSeq (sDrop (iMeth [("Line", sp_m_Line_do)] "do" (iVar 5) (iCons (iVar 7) iNil)))
      (sSet 6 (iCall sp_l_done (iCons (iVar 6) (iCons (iVar 7) (iCons (iVar 3) (iCons (iVar 4) iNil)))))))
def ib_law_2 : IS := (sIf (tNot' (tTru' (iCall sp_l_right (iCons (iVar 1) (iCons (iVar 5) (iCons (iVar 6) (iCons (iVar 3) (iCons (iVar 4) iNil)))))))) (sRet (iC (.bl false))) sNext)
def ib_law_3 : IS := (sIf (tBl (iB gNe (iFn gReprN (iCons (iLam "law" hI_l_heard (iMeth [("Line", sp_m_Line_at)] "at" (iVar 5) (iCons (iVar 9) iNil))) iNil)) (iFn gReprN (iCons (iTup (iCons (iC (.str "place")) (iCons (iVar 9) iNil))) iNil)))) (sRet (iC (.bl false))) sNext)
def ib_law_4 : IS := (sSeq (sIf (tBl (iB gNe (iFn gReprN (iCons (iLam "law" hI_l_heard (iMeth [("Line", sp_m_Line_place_of)] "place_of" (iVar 5) (iCons (iVar 9) iNil))) iNil)) (iFn gReprN (iCons (iTup (iCons (iC (.str "pupil")) (iCons (iVar 9) iNil))) iNil)))) (sRet (iC (.bl false))) sNext)
      (sIf (tBl (iB gNe (iFn gReprN (iCons (iLam "law" hI_l_heard (iMeth [("Line", sp_m_Line_row_of)] "row_of" (iVar 5) (iCons (iVar 9) iNil))) iNil)) (iFn gReprN (iCons (iTup (iCons (iC (.str "pupil")) (iCons (iVar 9) iNil))) iNil)))) (sRet (iC (.bl false))) sNext))
def ib_law_5 : IS := (sSeq (sPar 3 4 (iB gAdd (iC (.int 2)) (iCall sp_l_take (iCons (iVar 1) (iCons (iC (.int 2)) iNil)))) (iIx (iLst (iCons (iB gAdd (iC (.int 1)) (iCall sp_l_take (iCons (iVar 1) (iCons (iC (.int 20)) iNil)))) (iCons (iC (.int 1)) (iCons (iC (.int 2)) (iCons (iC (.int 400)) iNil))))) (iCall sp_l_take (iCons (iVar 1) (iCons (iC (.int 4)) iNil)))))
    (sSeq (sAsg (iTup (iCons (iPub (nMake "Line" sp_k_Line (iCons (iVar 3) (iCons (iVar 4) iNil)))) (iCons (iListRg (iB gMul (iVar 3) (iVar 4))) iNil))) (gTp 2 (gsCons (gNm 5) (gsCons (gNm 6) gsNil))))
    (sSeq (sFor (lSeq (iCall sp_l_calls (iCons (iVar 1) (iCons (iVar 3) (iCons (iCall sp_l_all_kinds iNil) (iCons (iCall sp_l_take (iCons (iVar 1) (iCons (iC (.int 5)) iNil))) iNil)))))) (gNm 7) ib_law_1)
    (sSeq (sFor (lRange1 (iC (.int 2))) (gNm 8) ib_law_2)
    (sSeq (sFor (lSeq (iLst (iCons (iC .non) (iCons (iC (.str "0")) (iCons (iTup iNil) (iCons (iTup (iCons (iVar 4) (iCons (iC (.int 0)) iNil))) (iCons (iTup (iCons (iC (.int 0)) (iCons (iVar 3) iNil))) (iCons (iTup (iCons (iNeg (iC (.int 1))) (iCons (iC (.int 0)) iNil))) (iCons (iLst (iCons (iC (.int 0)) (iCons (iC (.int 0)) iNil))) (iCons (iTup (iCons (iC (.bl true)) (iCons (iC (.int 0)) iNil))) (iCons (iFz nDNew) (iCons (iTup (iCons (iC (.int 0)) (iCons (iC (.int 0)) (iCons (iC (.int 0)) iNil)))) (iCons (iTup (iCons (iC .non) (iCons (iC (.int 0)) iNil))) iNil))))))))))))) (gNm 9) ib_law_3)
    (sSeq (sFor (lSeq (iLst (iCons (iC .non) (iCons (iC (.str "0")) (iCons (iNeg (iC (.int 1))) (iCons (iB gMul (iVar 3) (iVar 4)) (iCons (iC (.bl true)) (iCons (iC (.bl false)) (iCons (iTup iNil) (iCons (iLst iNil) (iCons (iFz nDNew) (iCons (iTup (iCons (iC (.int 0)) iNil)) (iCons (iB gPow (iC (.int 10)) (iC (.int 30))) iNil))))))))))))) (gNm 9) ib_law_4)
    (sSeq (sIf (tBl (iB gNeI (iLam "law" hI_l_heard (iMeth [("Line", sp_m_Line_at)] "at" (iVar 5) (iCons (iVar 5) iNil))) (iTup (iCons (iC (.str "place")) (iCons (iVar 5) iNil))))) (sRet (iC (.bl false))) sNext)
    (sSeq (sIf (tBl (iB gNeI (iLam "law" hI_l_heard (iMeth [("Line", sp_m_Line_place_of)] "place_of" (iVar 5) (iCons (iVar 5) iNil))) (iTup (iCons (iC (.str "pupil")) (iCons (iVar 5) iNil))))) (sRet (iC (.bl false))) sNext)
    (sIf (tOr' (tBl (iB gNeI (iLam "law" hI_l_heard (iMeth [("Line", sp_m_Line_row_of)] "row_of" (iVar 5) (iCons (iVar 5) iNil))) (iTup (iCons (iC (.str "pupil")) (iCons (iVar 5) iNil))))) (tBl (iB gNe (iMeth [("Line", sp_m_Line_order)] "order" (iVar 5) iNil) (iVar 6)))) (sRet (iC (.bl false))) sNext)))))))))
def ib_law : IS := (sSeq (sSetP 1 (nCall sp_l_bag (iCons (iVar 0) iNil)))
  (sSeq (sFor (lRange1 (iC (.int 4))) (gNm 2) ib_law_5)
  (sRet (iC (.bl true)))))
theorem rn_pair {t : Str} {x : W} (ht : RN 4 2000 (.str t)) (h : RN 4 2000 x) : RepN (.tup [.str t, x]) := by
  refine RN.rep (d := 5) (n := 4007) ((rn_tup (d := 4) (n := 2000) fun w hw => ?_).up (Nat.le_refl _) (show 2000 * 2 + 2 * 2 + 3 ≤ 4007 by decide))
  simp only [List.mem_cons, List.not_mem_nil, or_false] at hw
  rcases hw with rfl | rfl
  · exact ht
  · exact h
theorem law_3 {EI : XI} {D : IEnds} {S : Sto} {F R : Int} {ds : List Call} {sc x cw : W} {ad a : Addr} {x_turn x_call_here x_again : Slot} (ht : Tb S "law") (hr : Rq S ad a F R ds) (ox : oddX x) (ok : okParts x) (no : isPl F R x = false) (rn : RN 4 2000 x)
    (q : ∀ (x_turn x_call_here x_again : Slot), D.nx ⟨[.val (sc), .val (.ref ad), x_turn, .val (.int F), .val (.int R), .val (.ref a), .val (cw), x_call_here, x_again, .val (x)], S⟩) :
    ib_law_3 EI D ⟨[.val (sc), .val (.ref ad), x_turn, .val (.int F), .val (.int R), .val (.ref a), .val (cw), x_call_here, x_again, .val (x)], S⟩ := by
  have rt : RepN (.tup [.str "place", x]) := rn_pair (rn_dec (by decide +kernel)) rn
  have hS := hr.s
  unfold ib_law_3
  simp! only [iLam]
  refine ⟨ht, heard_p (x := x) (fun Qn E k => ?_) ?_⟩
  · unfold ilS
    simp! only [hS]
    exact ⟨a, F, R, ds, x, rfl, hS, hr.l, .inl ox, ok, fun p e hp => (by rw [e, isPl_at hp] at no; cases no), fun _ => k⟩
  · walk_at "r"
    exact ⟨rt, rt, q _ _ _⟩
theorem law_4 {EI : XI} {D : IEnds} {S : Sto} {F R : Int} {ds : List Call} {sc x cw : W} {ad a : Addr} {x_turn x_call_here x_again : Slot} (ht : Tb S "law") (hr : Rq S ad a F R ds) (ox : oddX x) (no : isIx x (F * R) = false) (rn : RN 4 2000 x)
    (q : ∀ (x_turn x_call_here x_again : Slot), D.nx ⟨[.val (sc), .val (.ref ad), x_turn, .val (.int F), .val (.int R), .val (.ref a), .val (cw), x_call_here, x_again, .val (x)], S⟩) :
    ib_law_4 EI D ⟨[.val (sc), .val (.ref ad), x_turn, .val (.int F), .val (.int R), .val (.ref a), .val (cw), x_call_here, x_again, .val (x)], S⟩ := by
  have rt : RepN (.tup [.str "pupil", x]) := rn_pair (rn_dec (by decide +kernel)) rn
  have hS := hr.s
  have nn : ∀ n : Int, x = .int n → 0 ≤ n → n < F * R → False := fun n e h0 h1 => by
    rw [e] at no
    have : isIx (.int n) (F * R) = true := by
      show (decide (0 ≤ n) && decide (n < F * R)) = true
      rw [decide_eq_true h0, decide_eq_true h1]
      rfl
    rw [this] at no
    cases no
  unfold ib_law_4
  refine seq_go fun nx e => ?_
  simp! only [iLam]
  refine ⟨ht, heard_u (x := x) (fun Qn E k => ?_) ?_⟩
  · unfold ilS
    simp! only [hS]
    exact ⟨a, F, R, ds, x, rfl, hS, hr.l, hr.d, .inl ox, fun n e h0 h1 => (nn n e h0 h1).elim, fun _ => k⟩
  walk_at "r"
  refine ⟨rt, rt, ?_⟩
  subst e
  simp! only [iLam]
  refine ⟨ht, heard_u (x := x) (fun Qn E k => ?_) ?_⟩
  · unfold ilS
    simp! only [hS]
    exact ⟨a, F, R, ds, x, rfl, hS, hr.l, hr.d, .inl ox, fun n e h0 h1 => (nn n e h0 h1).elim, fun _ => k⟩
  walk_at "r"
  exact ⟨rt, rt, q _ _ _⟩
theorem law_5 {EI : XI} {D : IEnds} {S : Sto} {sc : W} {ad : Addr} {x_turn x_files x_rows x_line x_standing x_call_here x_again x_bad : Slot} (hb : Bg S ad) (ht : Tb S "law")
    (q : ∀ (x_turn x_files x_rows x_line x_standing x_call_here x_again x_bad : Slot) (S' : Sto), Bg S' ad → Tb S' "law" → D.nx ⟨[.val (sc), .val (.ref ad), x_turn, x_files, x_rows, x_line, x_standing, x_call_here, x_again, x_bad], S'⟩) :
    ib_law_5 EI D ⟨[.val (sc), .val (.ref ad), x_turn, x_files, x_rows, x_line, x_standing, x_call_here, x_again, x_bad], S⟩ := by
  unfold ib_law_5
  refine seq_cut (fun st => ∃ (F R : Int) (S' : Sto) (x_turn x_line x_standing x_call_here x_again x_bad : Slot), Lin F R ∧ Bg S' ad ∧ Tb S' "law" ∧ st = ⟨[.val (sc), .val (.ref ad), x_turn, .val (.int F), .val (.int R), x_line, x_standing, x_call_here, x_again, x_bad], S'⟩) (fun nx h => ?_) (fun st ⟨F, R, S1, x_turn, x_line, x_standing, x_call_here, x_again, x_bad, hl, hb, ht, es⟩ => ?_)
  · walk_at "r"
    refine cl_take (by omega) (bd_of (by omega) (by omega)) hb fun f S1 f0 f1 b1 => ?_
    walk_at "r"
    refine cl_take (by omega) (bd_of (by omega) (by omega)) b1.bg fun r S2 r0 r1 b2 => ?_
    walk_at "r"
    refine cl_take (by omega) (bd_of (by omega) (by omega)) b2.bg fun t S3 t0 t1 b3 => ?_
    have b := (b1.trans b2).trans b3
    have fin : ∀ R, 1 ≤ R → R ≤ 400 → nx ⟨[.val (sc), .val (.ref ad), x_turn, .val (.int (2 + f)), .val (.int R), x_line, x_standing, x_call_here, x_again, x_bad], S3⟩ := fun R h1 h2 => h _ ⟨2 + f, R, S3, x_turn, x_line, x_standing, x_call_here, x_again, x_bad, ⟨by unfold Fil; omega, h1, h2⟩, b.bg, ht.bx hb b, rfl⟩
    have ht : t = 0 ∨ t = 1 ∨ t = 2 ∨ t = 3 := by omega
    rcases ht with rfl | rfl | rfl | rfl
    all_goals
      walk_at "r"
      exact fin _ (by omega) (by omega)
  subst es
  have hF := hl.F0
  have hs := hl.sz
  have hf := hl.fil
  unfold Fil at hf
  refine seq_go fun nx e => ?_
  walk_at "r"
  refine fun a ha => ⟨a, F, R, rfl, Sto.put_same, hl, ?_⟩
  rw [Sto.put_put]
  refine ⟨rfl, ?_⟩
  simp only [Sto.put_same, Sto.del_put ha]
  refine fun la hla => ?_
  have hr : Rq (S1.put la (lnO F R [])) ad la F R [] := ⟨hl, (fun c hc => nomatch hc), hb.fresh hla, Sto.put_same⟩
  have ht := ht.fresh (o := lnO F R []) hla
  generalize S1.put la (lnO F R []) = S2 at hr ht ⊢
  refine ⟨small_l (by omega) (by have := hl.r2; omega), by omega, by omega, ?_⟩
  rw [ord_home hF]
  subst e
  refine seq_cut (fun st => ∃ (ds : List Call) (S' : Sto) (x_turn x_call_here x_again x_bad : Slot), Rq S' ad la F R ds ∧ Tb S' "law" ∧ st = ⟨[.val (sc), .val (.ref ad), x_turn, .val (.int F), .val (.int R), .val (.ref la), .val (.lst ((ordL F R ds).map .int)), x_call_here, x_again, x_bad], S'⟩) (fun nx h => ?_) (fun st ⟨ds, S3, x_turn, x_call_here, x_again, x_bad, hr, ht, es⟩ => ?_)
  · walk_at "rsFor_lSeq"
    refine ⟨rfl, cl_take (by omega) (bd_of (by omega) (by omega)) hr.b fun n S3 n0 n1 b3 => ⟨ad, F, n, tenW, rfl, by omega, by omega, by omega, by omega, by decide, by decide, fun _ h => h, b3.bg, fun cs S4 g c1 c2 _ b4 => ?_⟩⟩
    have hb2 := hr.b
    have hr := hr.bx (b3.trans b4)
    have ht := ht.bx hb2 (b3.trans b4)
    walk_at "rgItems"
    refine for_inv (fun zs st => ∃ (rs ds : List Call) (S' : Sto) (x_turn x_call_here x_again x_bad : Slot), zs = rs.map Call.w ∧ (∀ c ∈ rs, c.gd F) ∧ Rq S' ad la F R ds ∧ Tb S' "law" ∧ st = ⟨[.val (sc), .val (.ref ad), x_turn, .val (.int F), .val (.int R), .val (.ref la), .val (.lst ((ordL F R ds).map .int)), x_call_here, x_again, x_bad], S'⟩) _ _ ⟨cs, [], S4, _, _, _, _, rfl, g.gd, hr, ht, rfl⟩ ?_ ?_
    · rintro st ⟨rs, ds, S', x_turn, x_call_here, x_again, x_bad, _, _, h1, h2, es⟩
      exact h st ⟨ds, S', x_turn, x_call_here, x_again, x_bad, h1, h2, es⟩
    rintro z zs st ny ⟨rs, ds, S', x_turn, x_call_here, x_again, x_bad, e1, hg, h1, h2, es⟩ hn
    subst es
    match rs, e1, hg with
    | c :: rs, e1, hg =>
    rw [List.map_cons] at e1
    injection e1 with e2 e3
    subst e2 e3
    have gc := hg c (List.mem_cons_self ..)
    have hS := h1.s
    walk_at "r"
    unfold ib_law_1
    refine seq_go fun nz e => ?_
    simp! only [hS]
    refine ⟨la, F, R, [c], ds, c.w, rfl, .inr ⟨c, rfl, rfl⟩, hS, hl, ⟨hl.fil, fun d hd => by rw [List.mem_singleton.mp hd]; exact gc, by simp⟩, ?_⟩
    have h3 : Rq (S'.put la (lnO F R (ds ++ [c]))) ad la F R (ds ++ [c]) := ⟨hl, h1.d.app fun d hd => by rw [List.mem_singleton.mp hd]; exact gc.ok, by
      obtain ⟨x, e, i⟩ := h1.b
      exact ⟨x, (Sto.put_ne h1.ne.symm).trans e, i⟩, Sto.put_same⟩
    have h4 : Tb (S'.put la (lnO F R (ds ++ [c]))) "law" := by
      obtain ⟨P, e⟩ := h2
      exact ⟨P, (Sto.put_ne fun z => by rw [z, hS] at e; cases e).trans e⟩
    generalize S'.put la (lnO F R (ds ++ [c])) = S5 at h3 h4 ⊢
    subst e
    walk_at "r"
    refine ⟨F, R, ds, c, rfl, hl, gc.ok, ?_⟩
    walk_at "r"
    exact hn _ ⟨rs, ds ++ [c], S5, _, _, _, _, rfl, fun d hd => hg d (List.mem_cons_of_mem _ hd), h3, h4, rfl⟩
  subst es
  refine seq_cut (fun st => ∃ (S' : Sto) (x_turn x_call_here x_again x_bad : Slot), Rq S' ad la F R ds ∧ Tb S' "law" ∧ st = ⟨[.val (sc), .val (.ref ad), x_turn, .val (.int F), .val (.int R), .val (.ref la), .val (.lst ((ordL F R ds).map .int)), x_call_here, x_again, x_bad], S'⟩) (fun nx h => ?_) (fun st ⟨S4, x_turn, x_call_here, x_again, x_bad, hr, ht, es⟩ => ?_)
  · walk_at "rsFor_lRange1"
    refine ⟨by unfold i62; omega, for_rng (fun i st => ∃ (S' : Sto) (x_turn x_call_here x_again x_bad : Slot), Rq S' ad la F R ds ∧ Tb S' "law" ∧ st = ⟨[.val (sc), .val (.ref ad), x_turn, .val (.int F), .val (.int R), .val (.ref la), .val (.lst ((ordL F R ds).map .int)), x_call_here, x_again, x_bad], S'⟩) _ _ ⟨S3, _, _, _, _, hr, ht, rfl⟩ (fun st h1 => h st h1) fun i hi st ny ⟨S', x_turn, x_call_here, x_again, x_bad, h1, h2, es⟩ hn => ?_⟩
    subst es
    walk_at "r"
    unfold ib_law_2
    walk_at "r"
    refine ⟨ad, la, F, R, ds, rfl, h1, fun S5 b5 => ?_⟩
    walk_at "r"
    exact hn _ ⟨S5, _, _, _, _, h1.bx b5, h2.bx h1.b b5, rfl⟩
  subst es
  have FR1 : 0 < F * R := Int.mul_pos hF (by have := hl.R0; omega)
  have bad1 : ∀ z ∈ ([.non, .str "0", .tup [], .tup [.int R, .int 0], .tup [.int 0, .int F], .tup [.int (-1), .int 0], .lst [.int 0, .int 0], .tup [.bl true, .int 0], .dct [], .tup [.int 0, .int 0, .int 0], .tup [.non, .int 0]] : List W), oddX z ∧ okParts z ∧ isPl F R z = false ∧ RN 4 2000 z := fun z hz => by
    have rr : ∀ x : Int, 0 ≤ x → x < 10000 → RN 1 300 (.int x) := fun x h0 h1 => ((rep_int (d := 1) (bd_of (by omega) (by omega))).up (Nat.le_refl _) (by decide)).rn
    have r2 : ∀ x y : Int, 0 ≤ x → x < 10000 → 0 ≤ y → y < 10000 → RN 4 2000 (.tup [.int x, .int y]) := fun x y h0 h1 h2 h3 => (rn_tup (d := 1) (n := 300) (ws := [.int x, .int y]) fun w hw => by
      simp only [List.mem_cons, List.not_mem_nil, or_false] at hw
      rcases hw with rfl | rfl
      · exact rr _ h0 h1
      · exact rr _ h2 h3).up (by decide) (show 300 * 2 + 2 * 2 + 3 ≤ 2000 by decide)
    simp only [List.mem_cons, List.not_mem_nil, or_false] at hz
    rcases hz with rfl | rfl | rfl | rfl | rfl | rfl | rfl | rfl | rfl | rfl | rfl
    all_goals first
      | exact ⟨.inl (by simp [tyN]), (by first | trivial | exact ⟨by simp [tyN], by simp [tyN]⟩), (by simp [isPl, isIx]), rn_dec (by decide +kernel)⟩
      | exact ⟨.inl (by simp [tyN]), ⟨by simp [tyN], by simp [tyN]⟩, (by simp [isPl, isIx]), r2 _ _ (by have := hl.r1; omega) (by have := hl.r2; omega) (by omega) (by omega)⟩
  have bad2 : ∀ z ∈ ([.non, .str "0", .int (-1), .int (F * R), .bl true, .bl false, .tup [], .lst [], .dct [], .tup [.int 0], .int (10 ^ 30)] : List W), oddX z ∧ isIx z (F * R) = false ∧ RN 4 2000 z := fun z hz => by
    have rr : ∀ x : Int, Bd x → RN 4 2000 (.int x) := fun x h => ((rep_int (d := 1) h).up (by decide) (by decide)).rn
    simp only [List.mem_cons, List.not_mem_nil, or_false] at hz
    rcases hz with rfl | rfl | rfl | rfl | rfl | rfl | rfl | rfl | rfl | rfl | rfl
    all_goals refine ⟨.inl (by simp [tyN]), ?_, ?_⟩
    all_goals first
      | rfl
      | exact rn_dec (by decide +kernel)
      | exact rr _ (bd_of (by omega) (by omega))
      | exact rr _ (by unfold Bd lim; omega)
      | (simp [isIx]; done)
      | (simp [isIx]; omega)
  have hS := hr.s
  refine seq_cut (fun st => ∃ (x_turn x_call_here x_again x_bad : Slot), st = ⟨[.val (sc), .val (.ref ad), x_turn, .val (.int F), .val (.int R), .val (.ref la), .val (.lst ((ordL F R ds).map .int)), x_call_here, x_again, x_bad], S4⟩) (fun nx h => ?_) (fun st ⟨x_turn, x_call_here, x_again, x_bad, es⟩ => ?_)
  · walk_at "rsFor_lSeq_gItems"
    refine for_inv (fun zs st => (∀ z ∈ zs, oddX z ∧ okParts z ∧ isPl F R z = false ∧ RN 4 2000 z) ∧ ∃ (x_turn x_call_here x_again x_bad : Slot), st = ⟨[.val (sc), .val (.ref ad), x_turn, .val (.int F), .val (.int R), .val (.ref la), .val (.lst ((ordL F R ds).map .int)), x_call_here, x_again, x_bad], S4⟩) _ _ ⟨bad1, _, _, _, _, rfl⟩ ?_ ?_
    · rintro st ⟨_, x_turn, x_call_here, x_again, x_bad, es⟩
      exact h st ⟨_, _, _, _, es⟩
    rintro z zs st ny ⟨hz, x_turn, x_call_here, x_again, x_bad, es⟩ hn
    subst es
    obtain ⟨o1, o2, o3, o4⟩ := hz z (List.mem_cons_self ..)
    walk_at "r"
    exact law_3 ht hr o1 o2 o3 o4 fun x_turn x_call_here x_again => hn _ ⟨fun y hy => hz y (List.mem_cons_of_mem _ hy), _, _, _, _, rfl⟩
  subst es
  refine seq_cut (fun st => ∃ (x_turn x_call_here x_again x_bad : Slot), st = ⟨[.val (sc), .val (.ref ad), x_turn, .val (.int F), .val (.int R), .val (.ref la), .val (.lst ((ordL F R ds).map .int)), x_call_here, x_again, x_bad], S4⟩) (fun nx h => ?_) (fun st ⟨x_turn, x_call_here, x_again, x_bad, es⟩ => ?_)
  · walk_at "rsFor_lSeq_gItems"
    refine ⟨small_l (by omega) (by have := hl.r2; omega), by unfold CPow; decide, ?_⟩
    refine for_inv (fun zs st => (∀ z ∈ zs, oddX z ∧ isIx z (F * R) = false ∧ RN 4 2000 z) ∧ ∃ (x_turn x_call_here x_again x_bad : Slot), st = ⟨[.val (sc), .val (.ref ad), x_turn, .val (.int F), .val (.int R), .val (.ref la), .val (.lst ((ordL F R ds).map .int)), x_call_here, x_again, x_bad], S4⟩) _ _ ⟨bad2, _, _, _, _, rfl⟩ ?_ ?_
    · rintro st ⟨_, x_turn, x_call_here, x_again, x_bad, es⟩
      exact h st ⟨_, _, _, _, es⟩
    rintro z zs st ny ⟨hz, x_turn, x_call_here, x_again, x_bad, es⟩ hn
    subst es
    obtain ⟨o1, o3, o4⟩ := hz z (List.mem_cons_self ..)
    walk_at "r"
    exact law_4 ht hr o1 o3 o4 fun x_turn x_call_here x_again => hn _ ⟨fun y hy => hz y (List.mem_cons_of_mem _ hy), _, _, _, _, rfl⟩
  subst es
  have ol : OddL S4 (.ref la) := .inr ⟨la, _, rfl, hS⟩
  refine seq_go fun nx e => ?_
  simp! only [iLam]
  refine ⟨ht, heard_p (x := .ref la) (fun Qn E k => ?_) ?_⟩
  · unfold ilS
    simp! only [hS]
    exact ⟨la, F, R, ds, _, rfl, hS, hl, ol, trivial, fun p e hp => (nomatch e), fun _ => k⟩
  simp! only [gNeI]
  subst e
  refine seq_go fun nx e => ?_
  simp! only [iLam]
  refine ⟨ht, heard_u (x := .ref la) (fun Qn E k => ?_) ?_⟩
  · unfold ilS
    simp! only [hS]
    exact ⟨la, F, R, ds, _, rfl, hS, hl, hr.d, ol, fun n e h0 h1 => (nomatch e), fun _ => k⟩
  simp! only [gNeI]
  subst e
  simp! only [iLam]
  refine ⟨ht, heard_u (x := .ref la) (fun Qn E k => ?_) ?_⟩
  · unfold ilS
    simp! only [hS]
    exact ⟨la, F, R, ds, _, rfl, hS, hl, hr.d, ol, fun n e h0 h1 => (nomatch e), fun _ => k⟩
  simp! only [gNeI, hS]
  refine ⟨la, F, R, ds, rfl, hS, ?_⟩
  generalize hdue : W.lst ((ordL F R ds).map W.int) = due
  have e1 : eqOk due due = true := by
    rw [← hdue]
    have h : ((ordL F R ds).map W.int).all (okD 63) = true := okDs_int _
    walk_at "r"
    rw [h]
    rfl
  have e2 : eqW due due = true := by
    rw [← hdue]
    walk_at "r"
    exact eqWs_self_int _
  show eqOk due due = true ∧ if (!eqW due due) = true then _ else _
  rw [e1, e2]
  exact ⟨rfl, q _ _ _ _ _ _ _ _ S4 hr.b ht⟩
theorem pure_law (ns : List Int) (hn : ns.length ≤ 63) (S : Sto) (hS : ∀ d ∈ (["law"] : List Str), Tb S d) : bodyI 10 ib_law [.scr ns] S (fun r _ => r = .val (.bl true)) fun _ _ => False := by
  have ht := hS "law" (by simp)
  unfold ib_law
  refine seq_go fun nx e => ?_
  walk_at "r"
  refine ⟨ns, rfl, hn, fun o hb ad ha => ?_⟩
  have ht := ht.fresh (o := o) ha
  have hb : Bg (S.put ad o) ad := ⟨o, Sto.put_same, hb⟩
  generalize S.put ad o = S at ht hb ⊢
  subst e
  refine seq_cut (fun _ => True) (fun nx h => ?_) (fun st _ => rfl)
  walk_at "rsFor_lRange1"
  refine ⟨by unfold i62; omega, for_rng (fun i st => ∃ (x_turn x_files x_rows x_line x_standing x_call_here x_again x_bad : Slot) (S' : Sto), Bg S' ad ∧ Tb S' "law" ∧ st = ⟨[.val (.scr ns), .val (.ref ad), x_turn, x_files, x_rows, x_line, x_standing, x_call_here, x_again, x_bad], S'⟩) _ _ ⟨_, _, _, _, _, _, _, _, S, hb, ht, rfl⟩ (fun st _ => h st trivial) fun i hi st nx ⟨x_turn, x_files, x_rows, x_line, x_standing, x_call_here, x_again, x_bad, S4, b4, t4, es⟩ hn => ?_⟩
  subst es
  walk_at "r"
  exact law_5 b4 t4 fun x_turn x_files x_rows x_line x_standing x_call_here x_again x_bad S5 b5 t5 => hn _ ⟨x_turn, x_files, x_rows, x_line, x_standing, x_call_here, x_again, x_bad, S5, b5, t5, rfl⟩
end Sh
namespace Law
open PySem PySem.Spec L2 Sh
open PyProof.Rows hiding St
open Law0
section
variable {P : Program} {w : World} {K : PySem.W.Frag} {mg : Str → Option Value} {base : Heap}
theorem sc_l_bag : FnScope ["_law_script", "_law_cell"] ["_law_script"] (defScope s_l_bag) := ⟨rfl, rfl, rfl, by decide +kernel, rfl, by decide +kernel, by decide +kernel⟩
theorem d_l_bag (D : Df K mg "_law_bag" s_l_bag) (b_abs : mg "abs" = none) : Cal P w K mg base "_law_bag" 1 1 (bodyI 2 ib_l_bag) := by
  refine calI (k := 0) (ps := ["_law_script"]) (N := ["_law_script", "_law_cell"]) D sc_l_bag (fun _ _ _ _ _ _ us hl => match us, hl with | [_], _ => rfl) fun f cdv A outer s H E hr gu F Wx tk => ?_
  have hN := sc_l_bag.nd
  have hu := hr.units
  exact (s_one (s_retN (n_lst (ia_cons i_int (ia_cons i_int (ia_cons i_int (ia_cons (i_fz (n_lc [("_law_cell", 1)] hN (l_seq (i_sl (i_var 0) o_none (o_some i_int))) (blkOk_by rfl) (fun s H C cl fp F => (g_name (vs := [1]) 1 hN)) (fun s H C cl fp => ti_nil) (fun s H C cl fp F => (i_abs b_abs (ia_cons (i_var 1) ia_nil))))) ia_nil)))))))
theorem sc_l_take : FnScope ["_law_bag_here", "_law_many", "_law_cell", "_law_mixed_here", "_law_drawn", "_law_begin", "_law_second"] ["_law_bag_here", "_law_many"] (defScope s_l_take) := ⟨rfl, rfl, rfl, by decide +kernel, rfl, by decide +kernel, by decide +kernel⟩
theorem d_l_take (D : Df K mg "_law_take" s_l_take) (b_len : mg "len" = none) (b_int : mg "int" = none) : Cal P w K mg base "_law_take" 1 2 (bodyI 7 ib_l_take) := by
  refine calI (k := 0) (ps := ["_law_bag_here", "_law_many"]) (N := ["_law_bag_here", "_law_many", "_law_cell", "_law_mixed_here", "_law_drawn", "_law_begin", "_law_second"]) D sc_l_take (fun _ _ _ _ _ _ us hl => match us, hl with | [_, _], _ => rfl) fun f cdv A outer s H E hr gu F Wx tk => ?_
  have hN := sc_l_take.nd
  have hu := hr.units
  exact (s_cons (s_if (t_eq hu (i_ix (i_var 0) i_int) i_int) (s_cons (s_set 2 hN i_int)
    (s_cons (s_if (t_lt (i_ix (i_var 0) i_int) (i_len b_len (ia_cons (i_ix (i_var 0) i_int) ia_nil))) (s_one (s_set 2 hN (i_ix (i_ix (i_var 0) i_int) (i_ix (i_var 0) i_int)))) s_nil)
    (s_cons (s_augS 0 ip_add i_int i_int)
    (s_cons (s_if (t_ge (i_var 2) i_int) (s_one (s_ixS 0 (i_var 2) i_int)) s_nil)
    (s_cons (s_set 3 hN (i_add (i_add (i_mul (i_ix (i_var 0) i_int) i_int) (i_mod (i_toint b_int (ia_cons (i_var 2) ia_nil)) i_int)) (i_mul i_int (i_ix (i_var 0) i_int))))
    (s_one (s_ixS 0 (i_mod (i_toint b_int (ia_cons (i_var 3) ia_nil)) i_int) i_int))))))) s_nil)
  (s_cons (s_if (t_gt (i_ix (i_var 0) i_int) i_int) (s_cons (s_set 4 hN (i_mod (i_toint b_int (ia_cons (i_ix (i_var 0) i_int) ia_nil)) (i_var 1)))
    (s_cons (s_ixS 0 (i_div (i_toint b_int (ia_cons (i_ix (i_var 0) i_int) ia_nil)) (i_var 1)) i_int)
    (s_one (s_ret (i_var 4))))) s_nil)
  (s_cons (s_set 5 hN (i_mod (i_toint b_int (ia_cons (i_mul (i_add (i_ix (i_var 0) i_int) i_int) i_int) ia_nil)) i_int))
  (s_cons (s_set 6 hN (i_mod (i_toint b_int (ia_cons (i_mul (i_mod (i_toint b_int (ia_cons (i_mul (i_var 5) (i_var 5)) ia_nil)) i_int) i_int) ia_nil)) i_int))
  (s_one (s_ret (i_mod (i_toint b_int (ia_cons (i_div (i_var 6) i_int) ia_nil)) (i_var 1))))))))
theorem sc_pv_is_integer : FnScope ["thing"] ["thing"] (defScope s_pv_is_integer) := ⟨rfl, rfl, rfl, by decide +kernel, rfl, by decide +kernel, by decide +kernel⟩
theorem d_pv_is_integer (D : Df K mg "is_integer" s_pv_is_integer) (b_isinstance : mg "isinstance" = none) (b_int : mg "int" = none) (b_bool : mg "bool" = none) (kf_Script_Line : KitF K ["Script", "Line"]) : Cal P w K mg base "is_integer" 1 1 (bodyI 1 ib_pv_is_integer) := by
  refine calI (k := 0) (ps := ["thing"]) (N := ["thing"]) D sc_pv_is_integer (fun _ _ _ _ _ _ us hl => match us, hl with | [_], _ => rfl) fun f cdv A outer s H E hr gu F Wx tk => ?_
  have hN := sc_pv_is_integer.nd
  have hu := hr.units
  exact (s_one (s_ret (i_and (i_isiX kf_Script_Line b_isinstance (ia_cons (i_var 0) (ia_cons (i_tyv b_int boot_int') ia_nil))) (i_one (i_not (i_isiX kf_Script_Line b_isinstance (ia_cons (i_var 0) (ia_cons (i_tyv b_bool boot_bool') ia_nil))))))))
theorem sc_p_is_files : FnScope ["thing"] ["thing"] (defScope s_p_is_files) := ⟨rfl, rfl, rfl, by decide +kernel, rfl, by decide +kernel, by decide +kernel⟩
theorem d_p_is_files (D : Df K mg "is_files" s_p_is_files) (c_p_is_integer : Cal P w K mg base "is_integer" 1 1 sp_p_is_integer) : Cal P w K mg base "is_files" 2 1 (bodyI 1 ib_p_is_files) := by
  refine calI (k := 1) (ps := ["thing"]) (N := ["thing"]) D sc_p_is_files (fun _ _ _ _ _ _ us hl => match us, hl with | [_], _ => rfl) fun f cdv A outer s H E hr gu F Wx tk => ?_
  have hN := sc_p_is_files.nd
  have hu := hr.units
  exact (s_one (s_ret (i_and (i_cal c_p_is_integer (hr.mono (by decide)) gu tk (ia_cons (i_var 0) ia_nil)) (i_one (i_in (i_var 0) (i_tup (ia_cons i_int (ia_cons i_int ia_nil))))))))
theorem sc_p_is_rows : FnScope ["thing"] ["thing"] (defScope s_p_is_rows) := ⟨rfl, rfl, rfl, by decide +kernel, rfl, by decide +kernel, by decide +kernel⟩
theorem d_p_is_rows (D : Df K mg "is_rows" s_p_is_rows) (c_p_is_integer : Cal P w K mg base "is_integer" 1 1 sp_p_is_integer) : Cal P w K mg base "is_rows" 2 1 (bodyI 1 ib_p_is_rows) := by
  refine calI (k := 1) (ps := ["thing"]) (N := ["thing"]) D sc_p_is_rows (fun _ _ _ _ _ _ us hl => match us, hl with | [_], _ => rfl) fun f cdv A outer s H E hr gu F Wx tk => ?_
  have hN := sc_p_is_rows.nd
  have hu := hr.units
  exact (s_one (s_ret (i_and (i_cal c_p_is_integer (hr.mono (by decide)) gu tk (ia_cons (i_var 0) ia_nil)) (i_one (i_ge (i_var 0) i_int)))))
theorem sc_k_Line : FnScope ["self", "files", "rows"] ["self", "files", "rows"] (defScope s_k_Line) := ⟨rfl, rfl, rfl, by decide +kernel, rfl, by decide +kernel, by decide +kernel⟩
theorem d_k_Line (D : DfM K "Line" "__init__" "Line.__init__" s_k_Line) (mk : Mk K (He.ga K "Line") (He.ma K (He.ga K "Line") "__init__")) (glo : mg "Line" = some (.ref (He.ga K "Line"))) (b_list : mg "list" = none) (b_range : mg "range" = none) (k_MOST_ROWS : Kc K mg "MOST_ROWS" kC_MOST_ROWS) (a_width_Line : Atr K ["Line"] "width") (a_deep : Atr K ["Line"] "deep") (a_standing : Atr K ["Line"] "standing") (c_p_is_files : Cal P w K mg base "is_files" 2 1 sp_p_is_files) (c_p_is_rows : Cal P w K mg base "is_rows" 2 1 sp_p_is_rows) : CalK P w K mg base "Line" 3 2 (bodyI 3 ib_k_Line) := by
  refine calKI (k := 2) (ps := ["self", "files", "rows"]) (N := ["self", "files", "rows"]) D mk glo sc_k_Line rfl (fun _ _ _ _ _ _ us hl => match us, hl with | [_, _, _], _ => rfl) fun f cdv A outer s H E hr gu F Wx tk => ?_
  have hN := sc_k_Line.nd
  have hu := hr.units
  exact (s_cons (s_if (t_not (t_tru (i_cal c_p_is_files (hr.mono (by decide)) gu tk (ia_cons (i_var 1) ia_nil)))) (s_one s_never) s_nil)
  (s_cons (s_if (pt_w (w_or (t_not (t_tru (i_cal c_p_is_rows (hr.mono (by decide)) gu tk (ia_cons (i_var 2) ia_nil)))) (w_or1 (t_gt (i_var 2) (i_k k_MOST_ROWS))))) (s_one s_never) s_nil)
  (s_cons (s_att a_width_Line (i_var 0) (i_var 1))
  (s_cons (s_att a_deep (i_var 0) (i_var 2))
  (s_one (s_att a_standing (i_var 0) (i_listRg b_list b_range (i_mul (i_var 1) (i_var 2)))))))))
theorem sc_l_one : FnScope ["_law_bag_here", "_law_some"] ["_law_bag_here", "_law_some"] (defScope s_l_one) := ⟨rfl, rfl, rfl, by decide +kernel, rfl, by decide +kernel, by decide +kernel⟩
theorem d_l_one (D : Df K mg "_law_one" s_l_one) (b_len : mg "len" = none) (c_l_take : Cal P w K mg base "_law_take" 1 2 sp_l_take) : Cal P w K mg base "_law_one" 2 2 (bodyI 2 ib_l_one) := by
  refine calI (k := 1) (ps := ["_law_bag_here", "_law_some"]) (N := ["_law_bag_here", "_law_some"]) D sc_l_one (fun _ _ _ _ _ _ us hl => match us, hl with | [_, _], _ => rfl) fun f cdv A outer s H E hr gu F Wx tk => ?_
  have hN := sc_l_one.nd
  have hu := hr.units
  exact (s_one (s_ret (i_ix (i_var 1) (i_cal c_l_take (hr.mono (by decide)) gu tk (ia_cons (i_var 0) (ia_cons (i_len b_len (ia_cons (i_var 1) ia_nil)) ia_nil))))))
theorem sc_l_number : FnScope ["_law_bag_here", "_law_most", "_law_number_here"] ["_law_bag_here", "_law_most"] (defScope s_l_number) := ⟨rfl, rfl, rfl, by decide +kernel, rfl, by decide +kernel, by decide +kernel⟩
theorem d_l_number (D : Df K mg "_law_number" s_l_number) (c_l_take : Cal P w K mg base "_law_take" 1 2 sp_l_take) : Cal P w K mg base "_law_number" 2 2 (bodyI 3 ib_l_number) := by
  refine calI (k := 1) (ps := ["_law_bag_here", "_law_most"]) (N := ["_law_bag_here", "_law_most", "_law_number_here"]) D sc_l_number (fun _ _ _ _ _ _ us hl => match us, hl with | [_, _], _ => rfl) fun f cdv A outer s H E hr gu F Wx tk => ?_
  have hN := sc_l_number.nd
  have hu := hr.units
  exact (s_cons (s_set 2 hN (i_add i_int (i_cal c_l_take (hr.mono (by decide)) gu tk (ia_cons (i_var 0) (ia_cons (i_ix (i_lst (ia_cons i_int (ia_cons i_int (ia_cons i_int (ia_cons (i_var 1) ia_nil))))) (i_cal c_l_take (hr.mono (by decide)) gu tk (ia_cons (i_var 0) (ia_cons i_int ia_nil)))) ia_nil)))))
  (s_one (s_ret (i_if (t_eq hu (i_cal c_l_take (hr.mono (by decide)) gu tk (ia_cons (i_var 0) (ia_cons i_int ia_nil))) i_int) (i_var 2) (i_neg (i_var 2))))))
theorem sc_l_mixed : FnScope ["_law_bag_here", "_law_things", "_law_found", "_law_thing"] ["_law_bag_here", "_law_things"] (defScope s_l_mixed) := ⟨rfl, rfl, rfl, by decide +kernel, rfl, by decide +kernel, by decide +kernel⟩
theorem d_l_mixed (D : Df K mg "_law_mixed" s_l_mixed) (b_len : mg "len" = none) (c_l_take : Cal P w K mg base "_law_take" 1 2 sp_l_take) : Cal P w K mg base "_law_mixed" 2 2 (bodyI 4 ib_l_mixed) := by
  refine calI (k := 1) (ps := ["_law_bag_here", "_law_things"]) (N := ["_law_bag_here", "_law_things", "_law_found", "_law_thing"]) D sc_l_mixed (fun _ _ _ _ _ _ us hl => match us, hl with | [_, _], _ => rfl) fun f cdv A outer s H E hr gu F Wx tk => ?_
  have hN := sc_l_mixed.nd
  have hu := hr.units
  exact (s_cons (s_setN 2 hN (n_lst ia_nil))
  (s_cons (s_for (passes_of rfl) (l_seq (i_var 1)) (g_name (vs := [3]) 3 hN) (s_one (s_expr (i_mtO 2 mg_insert mt_insert PySem.F.slot_list_insert PySem.F.type_list_insert (ia_cons (i_cal c_l_take (hr.mono (by decide)) gu tk (ia_cons (i_var 0) (ia_cons (i_add (i_lenO 2 b_len) i_int) ia_nil))) (ia_cons (i_var 3) ia_nil))))))
  (s_one (s_retO (i := 2)))))
theorem sc_l_two : FnScope ["_law_bag_here", "_law_files", "_law_some"] ["_law_bag_here", "_law_files"] (defScope s_l_two) := ⟨rfl, rfl, rfl, by decide +kernel, rfl, by decide +kernel, by decide +kernel⟩
theorem d_l_two (D : Df K mg "_law_two" s_l_two) (b_list : mg "list" = none) (b_range : mg "range" = none) (c_l_mixed : Cal P w K mg base "_law_mixed" 2 2 sp_l_mixed) : Cal P w K mg base "_law_two" 3 2 (bodyI 3 ib_l_two) := by
  refine calI (k := 2) (ps := ["_law_bag_here", "_law_files"]) (N := ["_law_bag_here", "_law_files", "_law_some"]) D sc_l_two (fun _ _ _ _ _ _ us hl => match us, hl with | [_, _], _ => rfl) fun f cdv A outer s H E hr gu F Wx tk => ?_
  have hN := sc_l_two.nd
  have hu := hr.units
  exact (s_cons (s_set 2 hN (i_cal c_l_mixed (hr.mono (by decide)) gu tk (ia_cons (i_var 0) (ia_cons (i_listRg b_list b_range (i_var 1)) ia_nil))))
  (s_one (s_ret (i_tup (ia_cons (i_ix (i_var 2) i_int) (ia_cons (i_ix (i_var 2) i_int) ia_nil))))))
theorem sc_l_call : FnScope ["_law_bag_here", "_law_files", "_law_kinds", "_law_most", "_law_kind"] ["_law_bag_here", "_law_files", "_law_kinds", "_law_most"] (defScope s_l_call) := ⟨rfl, rfl, rfl, by decide +kernel, rfl, by decide +kernel, by decide +kernel⟩
theorem d_l_call (D : Df K mg "_law_call" s_l_call) (c_l_one : Cal P w K mg base "_law_one" 2 2 sp_l_one) (c_l_number : Cal P w K mg base "_law_number" 2 2 sp_l_number) (c_l_take : Cal P w K mg base "_law_take" 1 2 sp_l_take) (c_l_two : Cal P w K mg base "_law_two" 3 2 sp_l_two) : Cal P w K mg base "_law_call" 4 4 (bodyI 5 ib_l_call) := by
  refine calI (k := 3) (ps := ["_law_bag_here", "_law_files", "_law_kinds", "_law_most"]) (N := ["_law_bag_here", "_law_files", "_law_kinds", "_law_most", "_law_kind"]) D sc_l_call (fun _ _ _ _ _ _ us hl => match us, hl with | [_, _, _, _], _ => rfl) fun f cdv A outer s H E hr gu F Wx tk => ?_
  have hN := sc_l_call.nd
  have hu := hr.units
  exact (s_cons (s_set 4 hN (i_cal c_l_one (hr.mono (by decide)) gu tk (ia_cons (i_var 0) (ia_cons (i_var 2) ia_nil))))
  (s_cons (s_if (t_eq hu (i_var 4) i_str) (s_one (s_ret (i_tup (ia_cons i_str (ia_cons (i_cal c_l_number (hr.mono (by decide)) gu tk (ia_cons (i_var 0) (ia_cons (i_var 3) ia_nil))) ia_nil))))) s_nil)
  (s_cons (s_if (t_eq hu (i_var 4) i_str) (s_one (s_ret (i_tup (ia_cons i_str (ia_cons (i_cal c_l_take (hr.mono (by decide)) gu tk (ia_cons (i_var 0) (ia_cons (i_var 1) ia_nil))) (ia_cons (i_cal c_l_number (hr.mono (by decide)) gu tk (ia_cons (i_var 0) (ia_cons (i_var 3) ia_nil))) ia_nil)))))) s_nil)
  (s_cons (s_if (t_in (i_var 4) (i_tup (ia_cons i_str (ia_cons i_str ia_nil)))) (s_one (s_ret (i_add (i_tup (ia_cons (i_var 4) ia_nil)) (i_cal c_l_two (hr.mono (by decide)) gu tk (ia_cons (i_var 0) (ia_cons (i_var 1) ia_nil)))))) s_nil)
  (s_cons (s_if (t_eq hu (i_var 4) i_str) (s_one (s_ret (i_add (i_add (i_tup (ia_cons i_str ia_nil)) (i_cal c_l_two (hr.mono (by decide)) gu tk (ia_cons (i_var 0) (ia_cons (i_var 1) ia_nil)))) (i_tup (ia_cons (i_cal c_l_number (hr.mono (by decide)) gu tk (ia_cons (i_var 0) (ia_cons (i_var 3) ia_nil))) ia_nil))))) s_nil)
  (s_one (s_ret (i_tup (ia_cons (i_var 4) ia_nil)))))))))
theorem sc_l_calls : FnScope ["_law_bag_here", "_law_files", "_law_kinds", "_law_many", "_law_found", "_law_left", "_law_k", "_law_call_here", "_law_size"] ["_law_bag_here", "_law_files", "_law_kinds", "_law_many"] (defScope s_l_calls) := ⟨rfl, rfl, rfl, by decide +kernel, rfl, by decide +kernel, by decide +kernel⟩
theorem d_l_calls (D : Df K mg "_law_calls" s_l_calls) (b_range : mg "range" = none) (b_abs : mg "abs" = none) (c_l_call : Cal P w K mg base "_law_call" 4 4 sp_l_call) : Cal P w K mg base "_law_calls" 5 4 (bodyI 9 ib_l_calls) := by
  refine calI (k := 4) (ps := ["_law_bag_here", "_law_files", "_law_kinds", "_law_many"]) (N := ["_law_bag_here", "_law_files", "_law_kinds", "_law_many", "_law_found", "_law_left", "_law_k", "_law_call_here", "_law_size"]) D sc_l_calls (fun _ _ _ _ _ _ us hl => match us, hl with | [_, _, _, _], _ => rfl) fun f cdv A outer s H E hr gu F Wx tk => ?_
  have hN := sc_l_calls.nd
  have hu := hr.units
  exact (s_cons (s_parNE 4 5 hN (n_lst ia_nil) (fun F => i_int))
  (s_cons (s_for (passes_of rfl) (l_range1 b_range (i_var 3)) (g_name (vs := [6]) 6 hN) (s_cons (s_set 7 hN (i_cal c_l_call (hr.mono (by decide)) gu tk (ia_cons (i_var 0) (ia_cons (i_var 1) (ia_cons (i_var 2) (ia_cons i_int ia_nil))))))
    (s_cons (s_set 8 hN (i_if (t_in (i_ix (i_var 7) i_int) (i_tup (ia_cons i_str (ia_cons i_str (ia_cons i_str ia_nil))))) (i_abs b_abs (ia_cons (i_ix (i_var 7) (i_neg i_int)) ia_nil)) i_int))
    (s_one (s_if (t_le (i_var 8) (i_var 5)) (s_cons (s_expr (i_mtO 4 mg_append mt_append PySem.F.slot_list_append PySem.F.type_list_append (ia_cons (i_var 7) ia_nil)))
      (s_one (s_augI 5 ip_sub hN (i_var 8)))) s_nil)))))
  (s_one (s_retO (i := 4)))))
theorem sc_l_all_kinds : FnScope [] [] (defScope s_l_all_kinds) := ⟨rfl, rfl, rfl, by decide +kernel, rfl, by decide +kernel, by decide +kernel⟩
theorem d_l_all_kinds (D : Df K mg "_law_all_kinds" s_l_all_kinds) : Cal P w K mg base "_law_all_kinds" 1 0 (bodyI 0 ib_l_all_kinds) := by
  refine calI (k := 0) (ps := []) (N := []) D sc_l_all_kinds (fun _ _ _ _ _ _ us hl => match us, hl with | [], _ => rfl) fun f cdv A outer s H E hr gu F Wx tk => ?_
  have hN := sc_l_all_kinds.nd
  have hu := hr.units
  exact (s_one (s_ret (i_lst (ia_cons i_str (ia_cons i_str (ia_cons i_str (ia_cons i_str (ia_cons i_str (ia_cons i_str (ia_cons i_str (ia_cons i_str (ia_cons i_str (ia_cons i_str ia_nil)))))))))))))
theorem sc_m_Script_files : FnScope ["self"] ["self"] (defScope s_m_Script_files) := ⟨rfl, rfl, rfl, by decide +kernel, rfl, by decide +kernel, by decide +kernel⟩
theorem d_m_Script_files (D : DfP K "Script" "files" "Script.files" s_m_Script_files) (cls : Cls K (He.ga K "Script")) (a_width_Script : Atr K ["Script"] "width") : CalP P w K mg base "Script" "files" 1 (bodyI 1 ib_m_Script_files) := by
  refine calPI (k := 0) (ps := ["self"]) (N := ["self"]) D cls sc_m_Script_files rfl (fun _ _ _ _ _ _ us hl => match us, hl with | [_], _ => rfl) fun f cdv A outer s H E hr gu F Wx tk => ?_
  have hN := sc_m_Script_files.nd
  have hu := hr.units
  exact (s_one (s_ret (i_fld a_width_Script (i_var 0))))
theorem sc_m_Line_follow : FnScope ["self", "moves", "later", "number", "goal"] ["self", "moves"] (defScope s_m_Line_follow) := ⟨rfl, rfl, rfl, by decide +kernel, rfl, by decide +kernel, by decide +kernel⟩
theorem d_m_Line_follow (D : DfM K "Line" "follow" "Line.follow" s_m_Line_follow) (cls : Cls K (He.ga K "Line")) (mth : Meth K (He.ga K "Line") "follow" (He.ma K (He.ga K "Line") "follow")) (b_len : mg "len" = none) (b_enumerate : mg "enumerate" = none) (a_standing : Atr K ["Line"] "standing") : CalM P w K mg base "Line" "follow" 1 1 (bodyI 5 ib_m_Line_follow) := by
  refine calMI (k := 0) (ps := ["self", "moves"]) (N := ["self", "moves", "later", "number", "goal"]) D cls mth sc_m_Line_follow rfl (fun _ _ _ _ _ _ us hl => match us, hl with | [_, _], _ => rfl) fun f cdv A outer s H E hr gu F Wx tk => ?_
  have hN := sc_m_Line_follow.nd
  have hu := hr.units
  exact (s_cons (s_setN 2 hN (n_rep (i_lst (ia_cons i_int ia_nil)) (i_len b_len (ia_cons (i_var 1) ia_nil))))
  (s_cons (s_for (passes_of rfl) (l_enum b_enumerate (i_var 1)) (g_tup (gs_cons (g_name (vs := [3, 4]) 3 hN) (gs_cons (g_name (vs := [3, 4]) 4 hN) gs_nil))) (s_one (s_ixO 2 (i_ix (i_fld a_standing (i_var 0)) (i_var 3)) (i_var 4))))
  (s_one (s_att a_standing (i_var 0) (i_var 2)))))
theorem sc_p_number_of : FnScope ["files", "place"] ["files", "place"] (defScope s_p_number_of) := ⟨rfl, rfl, rfl, by decide +kernel, rfl, by decide +kernel, by decide +kernel⟩
theorem d_p_number_of (D : Df K mg "number_of" s_p_number_of) : Cal P w K mg base "number_of" 1 2 (bodyI 2 ib_p_number_of) := by
  refine calI (k := 0) (ps := ["files", "place"]) (N := ["files", "place"]) D sc_p_number_of (fun _ _ _ _ _ _ us hl => match us, hl with | [_, _], _ => rfl) fun f cdv A outer s H E hr gu F Wx tk => ?_
  have hN := sc_p_number_of.nd
  have hu := hr.units
  exact (s_one (s_ret (i_add (i_mul (i_ix (i_var 1) i_int) (i_var 0)) (i_ix (i_var 1) i_int))))
theorem sc_pv_is_index : FnScope ["thing", "many"] ["thing", "many"] (defScope s_pv_is_index) := ⟨rfl, rfl, rfl, by decide +kernel, rfl, by decide +kernel, by decide +kernel⟩
theorem d_pv_is_index (D : Df K mg "is_index" s_pv_is_index) (c_pv_is_integer : Cal P w K mg base "is_integer" 1 1 sp_pv_is_integer) : Cal P w K mg base "is_index" 2 2 (bodyI 2 ib_pv_is_index) := by
  refine calI (k := 1) (ps := ["thing", "many"]) (N := ["thing", "many"]) D sc_pv_is_index (fun _ _ _ _ _ _ us hl => match us, hl with | [_, _], _ => rfl) fun f cdv A outer s H E hr gu F Wx tk => ?_
  have hN := sc_pv_is_index.nd
  have hu := hr.units
  exact (s_one (s_ret (i_and (i_cal c_pv_is_integer (hr.mono (by decide)) gu tk (ia_cons (i_var 0) ia_nil)) (i_one (i_chain op_le op_lt og_le og_lt i_int (i_var 0) (i_var 1))))))
theorem sc_pv_is_place : FnScope ["files", "rows", "thing"] ["files", "rows", "thing"] (defScope s_pv_is_place) := ⟨rfl, rfl, rfl, by decide +kernel, rfl, by decide +kernel, by decide +kernel⟩
theorem d_pv_is_place (D : Df K mg "is_place" s_pv_is_place) (b_isinstance : mg "isinstance" = none) (b_tuple : mg "tuple" = none) (b_len : mg "len" = none) (kf_Script_Line : KitF K ["Script", "Line"]) (c_p_is_index : Cal P w K mg base "is_index" 2 2 sp_p_is_index) : Cal P w K mg base "is_place" 3 3 (bodyI 3 ib_pv_is_place) := by
  refine calI (k := 2) (ps := ["files", "rows", "thing"]) (N := ["files", "rows", "thing"]) D sc_pv_is_place (fun _ _ _ _ _ _ us hl => match us, hl with | [_, _, _], _ => rfl) fun f cdv A outer s H E hr gu F Wx tk => ?_
  have hN := sc_pv_is_place.nd
  have hu := hr.units
  exact (s_cons (s_if (pt_w (w_or (t_not (t_tru (i_isiX kf_Script_Line b_isinstance (ia_cons (i_var 2) (ia_cons (i_tyv b_tuple boot_tuple') ia_nil))))) (w_or1 (t_ne hu (i_len b_len (ia_cons (i_var 2) ia_nil)) i_int)))) (s_one (s_ret i_bl)) s_nil)
  (s_one (s_ret (i_and (i_cal c_p_is_index (hr.mono (by decide)) gu tk (ia_cons (i_ix (i_var 2) i_int) (ia_cons (i_var 1) ia_nil))) (i_one (i_cal c_p_is_index (hr.mono (by decide)) gu tk (ia_cons (i_ix (i_var 2) i_int) (ia_cons (i_var 0) ia_nil))))))))
theorem sc_i_Script : FnScope ["self"] ["self"] (defScope s_i_Script) := ⟨rfl, rfl, rfl, by decide +kernel, rfl, by decide +kernel, by decide +kernel⟩
theorem d_i_Script (D : DfM K "Script" "__iter__" "Script.__iter__" s_i_Script) (cls : Cls K (He.ga K "Script")) (mth : Meth K (He.ga K "Script") "__iter__" (He.ma K (He.ga K "Script") "__iter__")) (nf : NoAttr K (He.ga K "Script") "steps") (b_iter : mg "iter" = none) : CalI P w K mg base "Script" "steps" 1 :=
  calII (N := ["self"]) D cls mth nf sc_i_Script rfl b_iter rfl (fun _ _ _ _ _ _ us hl => match us, hl with | [_], _ => rfl) fun _ _ _ _ _ _ _ => by rfl
theorem sc_p_on_wheel : FnScope ["call", "rows", "place", "row", "file", "seat"] ["call", "rows", "place"] (defScope s_p_on_wheel) := ⟨rfl, rfl, rfl, by decide +kernel, rfl, by decide +kernel, by decide +kernel⟩
theorem d_p_on_wheel (D : Df K mg "on_wheel" s_p_on_wheel) : Cal P w K mg base "on_wheel" 1 3 (bodyI 6 ib_p_on_wheel) := by
  refine calI (k := 0) (ps := ["call", "rows", "place"]) (N := ["call", "rows", "place", "row", "file", "seat"]) D sc_p_on_wheel (fun _ _ _ _ _ _ us hl => match us, hl with | [_, _, _], _ => rfl) fun f cdv A outer s H E hr gu F Wx tk => ?_
  have hN := sc_p_on_wheel.nd
  have hu := hr.units
  exact (s_cons (s_asg (i_var 2) (g_tup (gs_cons (g_name (vs := [3, 4]) 3 hN) (gs_cons (g_name (vs := [3, 4]) 4 hN) gs_nil))))
  (s_cons (s_if (t_notin (i_var 4) (i_sl (i_var 0) (o_some i_int) (o_some i_int))) (s_one (s_ret (i_var 2))) s_nil)
  (s_cons (s_set 5 hN (i_if (t_eq hu (i_var 4) (i_ix (i_var 0) i_int)) (i_sub (i_sub (i_var 1) i_int) (i_var 3)) (i_add (i_var 1) (i_var 3))))
  (s_cons (s_set 5 hN (i_mod (i_add (i_var 5) (i_ix (i_var 0) i_int)) (i_mul i_int (i_var 1))))
  (s_one (s_ret (i_if (t_lt (i_var 5) (i_var 1)) (i_tup (ia_cons (i_sub (i_sub (i_var 1) i_int) (i_var 5)) (ia_cons (i_ix (i_var 0) i_int) ia_nil))) (i_tup (ia_cons (i_sub (i_var 5) (i_var 1)) (ia_cons (i_ix (i_var 0) i_int) ia_nil))))))))))
theorem sc_p_on_open : FnScope ["call", "files", "rows", "place", "row", "file", "number", "half"] ["call", "files", "rows", "place"] (defScope s_p_on_open) := ⟨rfl, rfl, rfl, by decide +kernel, rfl, by decide +kernel, by decide +kernel⟩
theorem d_p_on_open (D : Df K mg "on_open" s_p_on_open) : Cal P w K mg base "on_open" 1 4 (bodyI 8 ib_p_on_open) := by
  refine calI (k := 0) (ps := ["call", "files", "rows", "place"]) (N := ["call", "files", "rows", "place", "row", "file", "number", "half"]) D sc_p_on_open (fun _ _ _ _ _ _ us hl => match us, hl with | [_, _, _, _], _ => rfl) fun f cdv A outer s H E hr gu F Wx tk => ?_
  have hN := sc_p_on_open.nd
  have hu := hr.units
  exact (s_cons (s_asg (i_var 3) (g_tup (gs_cons (g_name (vs := [4, 5]) 4 hN) (gs_cons (g_name (vs := [4, 5]) 5 hN) gs_nil))))
  (s_cons (s_if (t_eq hu (i_ix (i_var 0) i_int) i_str) (s_cons (s_set 6 hN (i_add (i_mul (i_var 4) (i_var 1)) (i_var 5)))
    (s_one (s_ret (i_tup (ia_cons (i_mod (i_var 6) (i_var 2)) (ia_cons (i_div (i_var 6) (i_var 2)) ia_nil)))))) s_nil)
  (s_cons (s_if (t_eq hu (i_ix (i_var 0) i_int) i_str) (s_cons (s_set 6 hN (i_add (i_mul (i_var 5) (i_var 2)) (i_var 4)))
    (s_one (s_ret (i_tup (ia_cons (i_div (i_var 6) (i_var 1)) (ia_cons (i_mod (i_var 6) (i_var 1)) ia_nil)))))) s_nil)
  (s_cons (s_set 7 hN (i_div (i_add (i_var 2) i_int) i_int))
  (s_cons (s_if (t_eq hu (i_ix (i_var 0) i_int) i_str) (s_one (s_ret (i_if (t_eq hu (i_mod (i_var 4) i_int) i_int) (i_tup (ia_cons (i_div (i_var 4) i_int) (ia_cons (i_var 5) ia_nil))) (i_tup (ia_cons (i_add (i_var 7) (i_div (i_var 4) i_int)) (ia_cons (i_var 5) ia_nil)))))) s_nil)
  (s_one (s_ret (i_if (t_lt (i_var 4) (i_var 7)) (i_tup (ia_cons (i_mul i_int (i_var 4)) (ia_cons (i_var 5) ia_nil))) (i_tup (ia_cons (i_add (i_mul i_int (i_sub (i_var 4) (i_var 7))) i_int) (ia_cons (i_var 5) ia_nil)))))))))))
theorem sc_p_moved_by : FnScope ["call", "files", "rows", "place", "row", "file"] ["call", "files", "rows", "place"] (defScope s_p_moved_by) := ⟨rfl, rfl, rfl, by decide +kernel, rfl, by decide +kernel, by decide +kernel⟩
theorem d_p_moved_by (D : Df K mg "moved_by" s_p_moved_by) (c_p_on_wheel : Cal P w K mg base "on_wheel" 1 3 sp_p_on_wheel) (c_p_on_open : Cal P w K mg base "on_open" 1 4 sp_p_on_open) : Cal P w K mg base "moved_by" 2 4 (bodyI 6 ib_p_moved_by) := by
  refine calI (k := 1) (ps := ["call", "files", "rows", "place"]) (N := ["call", "files", "rows", "place", "row", "file"]) D sc_p_moved_by (fun _ _ _ _ _ _ us hl => match us, hl with | [_, _, _, _], _ => rfl) fun f cdv A outer s H E hr gu F Wx tk => ?_
  have hN := sc_p_moved_by.nd
  have hu := hr.units
  exact (s_cons (s_asg (i_var 3) (g_tup (gs_cons (g_name (vs := [4, 5]) 4 hN) (gs_cons (g_name (vs := [4, 5]) 5 hN) gs_nil))))
  (s_cons (s_if (t_eq hu (i_ix (i_var 0) i_int) i_str) (s_one (s_ret (i_tup (ia_cons (i_mod (i_sub (i_var 4) (i_ix (i_var 0) i_int)) (i_var 2)) (ia_cons (i_var 5) ia_nil))))) s_nil)
  (s_cons (s_if (t_eq hu (i_ix (i_var 0) i_int) i_str) (s_one (s_ret (i_if (t_eq hu (i_var 5) (i_ix (i_var 0) i_int)) (i_tup (ia_cons (i_mod (i_sub (i_var 4) (i_ix (i_var 0) i_int)) (i_var 2)) (ia_cons (i_var 5) ia_nil))) (i_var 3)))) s_nil)
  (s_cons (s_if (t_eq hu (i_ix (i_var 0) i_int) i_str) (s_one (s_ret (i_tup (ia_cons (i_sub (i_sub (i_var 2) i_int) (i_var 4)) (ia_cons (i_sub (i_sub (i_var 1) i_int) (i_var 5)) ia_nil))))) s_nil)
  (s_cons (s_if (t_eq hu (i_ix (i_var 0) i_int) i_str) (s_one (s_ret (i_cal c_p_on_wheel (hr.mono (by decide)) gu tk (ia_cons (i_var 0) (ia_cons (i_var 2) (ia_cons (i_var 3) ia_nil)))))) s_nil)
  (s_cons (s_if (t_in (i_ix (i_var 0) i_int) (i_tup (ia_cons i_str (ia_cons i_str ia_nil)))) (s_cons (s_if (pt_w (w_or (t_notin (i_var 5) (i_sl (i_var 0) (o_some i_int) o_none)) (w_or1 (pt_w (w_and (t_eq hu (i_ix (i_var 0) i_int) i_str) (w_and1 (t_gt (i_var 4) i_int))))))) (s_one (s_ret (i_var 3))) s_nil)
    (s_one (s_ret (i_tup (ia_cons (i_var 4) (ia_cons (i_if (t_eq hu (i_var 5) (i_ix (i_var 0) i_int)) (i_ix (i_var 0) i_int) (i_ix (i_var 0) i_int)) ia_nil)))))) s_nil)
  (s_one (s_ret (i_cal c_p_on_open (hr.mono (by decide)) gu tk (ia_cons (i_var 0) (ia_cons (i_var 1) (ia_cons (i_var 2) (ia_cons (i_var 3) ia_nil)))))))))))))
theorem sc_p_passed : FnScope ["script", "rows", "place", "found", "call"] ["script", "rows", "place"] (defScope s_p_passed) := ⟨rfl, rfl, rfl, by decide +kernel, rfl, by decide +kernel, by decide +kernel⟩
theorem d_p_passed (D : Df K mg "passed" s_p_passed) (c_p_is_place : Cal P w K mg base "is_place" 3 3 sp_p_is_place) (c_m_Script_files : CalP P w K mg base "Script" "files" 1 sp_m_Script_files) (c_i_Script : CalI P w K mg base "Script" "steps" 1) (c_p_moved_by : Cal P w K mg base "moved_by" 2 4 sp_p_moved_by) : Cal P w K mg base "passed" 4 3 (bodyI 5 ib_p_passed) := by
  refine calI (k := 3) (ps := ["script", "rows", "place"]) (N := ["script", "rows", "place", "found", "call"]) D sc_p_passed (fun _ _ _ _ _ _ us hl => match us, hl with | [_, _, _], _ => rfl) fun f cdv A outer s H E hr gu F Wx tk => ?_
  have hN := sc_p_passed.nd
  have hu := hr.units
  exact (s_cons (s_if (t_not (t_tru (i_cal c_p_is_place (hr.mono (by decide)) gu tk (ia_cons (i_prop (k' := 1) (Ps.cons c_m_Script_files (by decide) Ps.nil) (hr.mono (by decide)) gu (i_var 0)) (ia_cons (i_var 1) (ia_cons (i_var 2) ia_nil)))))) (s_one s_never) s_nil)
  (s_cons (s_setN 3 hN (n_lst (ia_cons (i_var 2) ia_nil)))
  (s_cons (s_for (passes_of rfl) (l_iter (k' := 1) (Is.cons c_i_Script Is.nil) (hr.mono (by decide)) gu (i_var 0)) (g_name (vs := [4]) 4 hN) (s_one (s_expr (i_mtO 3 mg_append mt_append PySem.F.slot_list_append PySem.F.type_list_append (ia_cons (i_cal c_p_moved_by (hr.mono (by decide)) gu tk (ia_cons (i_var 4) (ia_cons (i_prop (k' := 1) (Ps.cons c_m_Script_files (by decide) Ps.nil) (hr.mono (by decide)) gu (i_var 0)) (ia_cons (i_var 1) (ia_cons (i_ixO (i := 3) (i_neg i_int)) ia_nil))))) ia_nil)))))
  (s_one (s_retO (i := 3))))))
theorem sc_p_moved : FnScope ["script", "rows", "place"] ["script", "rows", "place"] (defScope s_p_moved) := ⟨rfl, rfl, rfl, by decide +kernel, rfl, by decide +kernel, by decide +kernel⟩
theorem d_p_moved (D : Df K mg "moved" s_p_moved) (c_p_passed : Cal P w K mg base "passed" 4 3 sp_p_passed) : Cal P w K mg base "moved" 5 3 (bodyI 3 ib_p_moved) := by
  refine calI (k := 4) (ps := ["script", "rows", "place"]) (N := ["script", "rows", "place"]) D sc_p_moved (fun _ _ _ _ _ _ us hl => match us, hl with | [_, _, _], _ => rfl) fun f cdv A outer s H E hr gu F Wx tk => ?_
  have hN := sc_p_moved.nd
  have hu := hr.units
  exact (s_one (s_ret (i_ix (i_cal c_p_passed (hr.mono (by decide)) gu tk (ia_cons (i_var 0) (ia_cons (i_var 1) (ia_cons (i_var 2) ia_nil)))) (i_neg i_int))))
theorem sc_p_place_of_moves : FnScope ["files", "number"] ["files", "number"] (defScope s_p_place_of_moves) := ⟨rfl, rfl, rfl, by decide +kernel, rfl, by decide +kernel, by decide +kernel⟩
theorem d_p_place_of_moves (D : DfA K mg "place_of_moves" "place_of" s_p_place_of_moves) : Cal P w K mg base "place_of_moves" 1 2 (bodyI 2 ib_p_place_of_moves) := by
  refine calA (k := 0) (ps := ["files", "number"]) (N := ["files", "number"]) D sc_p_place_of_moves (fun _ _ _ _ _ _ us hl => match us, hl with | [_, _], _ => rfl) fun f cdv A outer s H E hr gu F Wx tk => ?_
  have hN := sc_p_place_of_moves.nd
  have hu := hr.units
  exact (s_one (s_ret (i_tup (ia_cons (i_div (i_var 1) (i_var 0)) (ia_cons (i_mod (i_var 1) (i_var 0)) ia_nil)))))
theorem sc_p_moves_of : FnScope ["script", "rows", "found", "number"] ["script", "rows"] (defScope s_p_moves_of) := ⟨rfl, rfl, rfl, by decide +kernel, rfl, by decide +kernel, by decide +kernel⟩
theorem d_p_moves_of (D : Df K mg "moves_of" s_p_moves_of) (b_range : mg "range" = none) (c_m_Script_files : CalP P w K mg base "Script" "files" 1 sp_m_Script_files) (c_p_number_of : Cal P w K mg base "number_of" 1 2 sp_p_number_of) (c_p_moved : Cal P w K mg base "moved" 5 3 sp_p_moved) (c_p_place_of_moves : Cal P w K mg base "place_of_moves" 1 2 sp_p_place_of) : Cal P w K mg base "moves_of" 6 2 (bodyI 4 ib_p_moves_of) := by
  refine calI (k := 5) (ps := ["script", "rows"]) (N := ["script", "rows", "found", "number"]) D sc_p_moves_of (fun _ _ _ _ _ _ us hl => match us, hl with | [_, _], _ => rfl) fun f cdv A outer s H E hr gu F Wx tk => ?_
  have hN := sc_p_moves_of.nd
  have hu := hr.units
  exact (s_cons (s_setN 2 hN (n_lst ia_nil))
  (s_cons (s_for (passes_of rfl) (l_range1 b_range (i_mul (i_var 1) (i_prop (k' := 1) (Ps.cons c_m_Script_files (by decide) Ps.nil) (hr.mono (by decide)) gu (i_var 0)))) (g_name (vs := [3]) 3 hN) (s_one (s_expr (i_mtO 2 mg_append mt_append PySem.F.slot_list_append PySem.F.type_list_append (ia_cons (i_cal c_p_number_of (hr.mono (by decide)) gu tk (ia_cons (i_prop (k' := 1) (Ps.cons c_m_Script_files (by decide) Ps.nil) (hr.mono (by decide)) gu (i_var 0)) (ia_cons (i_cal c_p_moved (hr.mono (by decide)) gu tk (ia_cons (i_var 0) (ia_cons (i_var 1) (ia_cons (i_cal c_p_place_of_moves (hr.mono (by decide)) gu tk (ia_cons (i_prop (k' := 1) (Ps.cons c_m_Script_files (by decide) Ps.nil) (hr.mono (by decide)) gu (i_var 0)) (ia_cons (i_var 3) ia_nil))) ia_nil)))) ia_nil))) ia_nil)))))
  (s_one (s_retO (i := 2)))))
theorem sc_p_is_call : FnScope ["files", "thing", "many", "numbers", "file"] ["files", "thing"] (defScope s_p_is_call) := ⟨rfl, rfl, rfl, by decide +kernel, rfl, by decide +kernel, by decide +kernel⟩
theorem d_p_is_call (D : Df K mg "is_call" s_p_is_call) (b_isinstance : mg "isinstance" = none) (b_tuple : mg "tuple" = none) (b_len : mg "len" = none) (b_str : mg "str" = none) (b_int : mg "int" = none) (b_all : mg "all" = none) (k_BY_FILES : Kd K w mg "BY_FILES" kT_BY_FILES) (k_BY_NUMBER : Kc K mg "BY_NUMBER" kC_BY_NUMBER) (c_p_is_index : Cal P w K mg base "is_index" 2 2 sp_p_is_index) (c_p_is_integer : Cal P w K mg base "is_integer" 1 1 sp_p_is_integer) : Cal P w K mg base "is_call" 3 2 (bodyI 5 ib_p_is_call) := by
  refine calI (k := 2) (ps := ["files", "thing"]) (N := ["files", "thing", "many", "numbers", "file"]) D sc_p_is_call (fun _ _ _ _ _ _ us hl => match us, hl with | [_, _], _ => rfl) fun f cdv A outer s H E hr gu F Wx tk => ?_
  have hN := sc_p_is_call.nd
  have hu := hr.units
  exact (s_cons (s_if (pt_w (w_or (t_not (t_tru (i_isi b_isinstance (ia_cons (i_var 1) (ia_cons (i_tyv b_tuple boot_tuple') ia_nil))))) (w_or (t_eq hu (i_len b_len (ia_cons (i_var 1) ia_nil)) i_int) (w_or (t_not (t_tru (i_isi b_isinstance (ia_cons (i_ix (i_var 1) i_int) (ia_cons (i_tyv b_str boot_str') ia_nil))))) (w_or1 (t_kdnotin k_BY_FILES (i_ix (i_var 1) i_int))))))) (s_one (s_ret i_bl)) s_nil)
  (s_cons (s_par 2 3 hN (i_kdix k_BY_FILES (i_ix (i_var 1) i_int)) (i_toint b_int (ia_cons (i_in (i_ix (i_var 1) i_int) (i_k k_BY_NUMBER)) ia_nil)))
  (s_cons (s_if (pt_w (w_or (t_ne hu (i_len b_len (ia_cons (i_var 1) ia_nil)) (i_add (i_add i_int (i_var 2)) (i_var 3))) (w_or1 (t_not (t_tru (i_all b_all (ia_cons (i_fz (n_lc [("file", 4)] hN (l_seq (i_sl (i_var 1) (o_some i_int) (o_some (i_add i_int (i_var 2))))) (blkOk_by rfl) (fun s H C cl fp F => (g_name (vs := [4]) 4 hN)) (fun s H C cl fp => ti_nil) (fun s H C cl fp F => (i_cal c_p_is_index (hr.mono (by decide)) gu takes0 (ia_cons (i_var 4) (ia_cons (i_var 0) ia_nil)))))) ia_nil))))))) (s_one (s_ret i_bl)) s_nil)
  (s_cons (s_if (pt_w (w_and (t_eq hu (i_var 2) i_int) (w_and1 (t_eq hu (i_ix (i_var 1) i_int) (i_ix (i_var 1) i_int))))) (s_one (s_ret i_bl)) s_nil)
  (s_one (s_ret (i_or (i_eq hu (i_var 3) i_int) (i_one (i_and (i_cal c_p_is_integer (hr.mono (by decide)) gu tk (ia_cons (i_ix (i_var 1) (i_neg i_int)) ia_nil)) (i_one (i_ne hu (i_ix (i_var 1) (i_neg i_int)) i_int)))))))))))
theorem sc_k_Script : FnScope ["self", "files", "calls", "call"] ["self", "files", "calls"] (defScope s_k_Script) := ⟨rfl, rfl, rfl, by decide +kernel, rfl, by decide +kernel, by decide +kernel⟩
theorem d_k_Script (D : DfM K "Script" "__init__" "Script.__init__" s_k_Script) (mk : Mk K (He.ga K "Script") (He.ma K (He.ga K "Script") "__init__")) (glo : mg "Script" = some (.ref (He.ga K "Script"))) (b_isinstance : mg "isinstance" = none) (b_list : mg "list" = none) (b_tuple : mg "tuple" = none) (b_all : mg "all" = none) (a_width_Script : Atr K ["Script"] "width") (a_steps : Atr K ["Script"] "steps") (kf_ : KitF K []) (c_p_is_files : Cal P w K mg base "is_files" 2 1 sp_p_is_files) (c_p_is_call : Cal P w K mg base "is_call" 3 2 sp_p_is_call) : CalK P w K mg base "Script" 4 2 (bodyI 4 ib_k_Script) := by
  refine calKI (k := 3) (ps := ["self", "files", "calls"]) (N := ["self", "files", "calls", "call"]) D mk glo sc_k_Script rfl (fun _ _ _ _ _ _ us hl => match us, hl with | [_, _, _], _ => rfl) fun f cdv A outer s H E hr gu F Wx tk => ?_
  have hN := sc_k_Script.nd
  have hu := hr.units
  exact (s_cons (s_if (t_not (t_tru (i_cal c_p_is_files (hr.mono (by decide)) gu tk (ia_cons (i_var 1) ia_nil)))) (s_one s_never) s_nil)
  (s_cons (s_if (pt_w (w_or (t_not (t_tru (i_isiX kf_ b_isinstance (ia_cons (i_var 2) (ia_cons (i_tup (ia_cons (i_tyv b_tuple boot_tuple') (ia_cons (i_tyv b_list boot_list') ia_nil))) ia_nil))))) (w_or1 (t_not (t_tru (i_all b_all (ia_cons (i_fz (n_lc [("call", 3)] hN (l_seq (i_var 2)) (blkOk_by rfl) (fun s H C cl fp F => (g_name (vs := [3]) 3 hN)) (fun s H C cl fp => ti_nil) (fun s H C cl fp F => (i_cal c_p_is_call (hr.mono (by decide)) gu takes0 (ia_cons (i_var 1) (ia_cons (i_var 3) ia_nil)))))) ia_nil))))))) (s_one s_never) s_nil)
  (s_cons (s_att a_width_Script (i_var 0) (i_var 1))
  (s_one (s_att a_steps (i_var 0) (i_tuple b_tuple (ia_cons (i_var 2) ia_nil)))))))
theorem sc_m_Line_do : FnScope ["self", "thing"] ["self", "thing"] (defScope s_m_Line_do) := ⟨rfl, rfl, rfl, by decide +kernel, rfl, by decide +kernel, by decide +kernel⟩
theorem d_m_Line_do (D : DfM K "Line" "do" "Line.do" s_m_Line_do) (cls : Cls K (He.ga K "Line")) (mth : Meth K (He.ga K "Line") "do" (He.ma K (He.ga K "Line") "do")) (b_isinstance : mg "isinstance" = none) (a_width_Line : Atr K ["Line"] "width") (a_deep : Atr K ["Line"] "deep") (kf_Script : KitF K ["Script"]) (g_Script : mg "Script" = some (.ref (He.ga K "Script"))) (c_m_Script_files : CalP P w K mg base "Script" "files" 1 sp_m_Script_files) (c_m_Line_follow : CalM P w K mg base "Line" "follow" 1 1 sp_m_Line_follow) (c_p_moves_of : Cal P w K mg base "moves_of" 6 2 sp_p_moves_of) (c_p_is_call : Cal P w K mg base "is_call" 3 2 sp_p_is_call) (c_k_Script : CalK P w K mg base "Script" 4 2 sp_k_Script) : CalM P w K mg base "Line" "do" 7 1 (bodyI 2 ib_m_Line_do) := by
  refine calMI (k := 6) (ps := ["self", "thing"]) (N := ["self", "thing"]) D cls mth sc_m_Line_do rfl (fun _ _ _ _ _ _ us hl => match us, hl with | [_, _], _ => rfl) fun f cdv A outer s H E hr gu F Wx tk => ?_
  have hN := sc_m_Line_do.nd
  have hu := hr.units
  exact (s_one (s_if (pt_w (w_and (t_tru (i_isiX kf_Script b_isinstance (ia_cons (i_var 1) (ia_cons (i_glo g_Script) ia_nil)))) (w_and1 (t_eq hu (i_prop (k' := 1) (Ps.cons c_m_Script_files (by decide) Ps.nil) (hr.mono (by decide)) gu (i_var 1)) (i_fld a_width_Line (i_var 0)))))) (s_one (s_expr (i_meth (k' := 1) (Ms.cons c_m_Line_follow (by decide) Ms.nil) (hr.mono (by decide)) gu tk (i_var 0) (ia_cons (i_cal c_p_moves_of (hr.mono (by decide)) gu tk (ia_cons (i_var 1) (ia_cons (i_fld a_deep (i_var 0)) ia_nil))) ia_nil)))) (s_one (s_if (t_tru (i_cal c_p_is_call (hr.mono (by decide)) gu tk (ia_cons (i_fld a_width_Line (i_var 0)) (ia_cons (i_var 1) ia_nil)))) (s_one (s_expr (i_meth (k' := 1) (Ms.cons c_m_Line_follow (by decide) Ms.nil) (hr.mono (by decide)) gu tk (i_var 0) (ia_cons (i_cal c_p_moves_of (hr.mono (by decide)) gu tk (ia_cons (i_make c_k_Script (hr.mono (by decide)) gu tk (ia_cons (i_fld a_width_Line (i_var 0)) (ia_cons (i_lst (ia_cons (i_var 1) ia_nil)) ia_nil))) (ia_cons (i_fld a_deep (i_var 0)) ia_nil))) ia_nil)))) (s_one s_never)))))
theorem sc_l_brought_open : FnScope ["_law_call_here", "_law_files", "_law_rows", "_law_place", "_law_row", "_law_file", "_law_half"] ["_law_call_here", "_law_files", "_law_rows", "_law_place"] (defScope s_l_brought_open) := ⟨rfl, rfl, rfl, by decide +kernel, rfl, by decide +kernel, by decide +kernel⟩
theorem d_l_brought_open (D : Df K mg "_law_brought_open" s_l_brought_open) (b_int : mg "int" = none) : Cal P w K mg base "_law_brought_open" 1 4 (bodyI 7 ib_l_brought_open) := by
  refine calI (k := 0) (ps := ["_law_call_here", "_law_files", "_law_rows", "_law_place"]) (N := ["_law_call_here", "_law_files", "_law_rows", "_law_place", "_law_row", "_law_file", "_law_half"]) D sc_l_brought_open (fun _ _ _ _ _ _ us hl => match us, hl with | [_, _, _, _], _ => rfl) fun f cdv A outer s H E hr gu F Wx tk => ?_
  have hN := sc_l_brought_open.nd
  have hu := hr.units
  exact (s_cons (s_asg (i_var 3) (g_tup (gs_cons (g_name (vs := [4, 5]) 4 hN) (gs_cons (g_name (vs := [4, 5]) 5 hN) gs_nil))))
  (s_cons (s_if (t_eq hu (i_ix (i_var 0) i_int) i_str) (s_one (s_ret (i_tup (ia_cons (i_mod (i_toint b_int (ia_cons (i_add (i_mul (i_var 4) (i_var 1)) (i_var 5)) ia_nil)) (i_var 2)) (ia_cons (i_div (i_toint b_int (ia_cons (i_add (i_mul (i_var 4) (i_var 1)) (i_var 5)) ia_nil)) (i_var 2)) ia_nil))))) s_nil)
  (s_cons (s_if (t_eq hu (i_ix (i_var 0) i_int) i_str) (s_one (s_ret (i_tup (ia_cons (i_div (i_toint b_int (ia_cons (i_add (i_mul (i_var 5) (i_var 2)) (i_var 4)) ia_nil)) (i_var 1)) (ia_cons (i_mod (i_toint b_int (ia_cons (i_add (i_mul (i_var 5) (i_var 2)) (i_var 4)) ia_nil)) (i_var 1)) ia_nil))))) s_nil)
  (s_cons (s_set 6 hN (i_div (i_toint b_int (ia_cons (i_add (i_var 2) i_int) ia_nil)) i_int))
  (s_cons (s_if (t_eq hu (i_ix (i_var 0) i_int) i_str) (s_one (s_ret (i_tup (ia_cons (i_add (i_div (i_toint b_int (ia_cons (i_var 4) ia_nil)) i_int) (i_mul (i_var 6) (i_mod (i_toint b_int (ia_cons (i_var 4) ia_nil)) i_int))) (ia_cons (i_var 5) ia_nil))))) s_nil)
  (s_cons (s_if (t_eq hu (i_ix (i_var 0) i_int) i_str) (s_one (s_ret (i_tup (ia_cons (i_if (t_lt (i_var 4) (i_var 6)) (i_mul i_int (i_var 4)) (i_add (i_mul i_int (i_sub (i_var 4) (i_var 6))) i_int)) (ia_cons (i_var 5) ia_nil))))) s_nil)
  (s_one (s_ret (i_var 3)))))))))
theorem sc_l_brought : FnScope ["_law_call_here", "_law_files", "_law_rows", "_law_place", "_law_row", "_law_file", "_law_seat"] ["_law_call_here", "_law_files", "_law_rows", "_law_place"] (defScope s_l_brought) := ⟨rfl, rfl, rfl, by decide +kernel, rfl, by decide +kernel, by decide +kernel⟩
theorem d_l_brought (D : Df K mg "_law_brought" s_l_brought) (b_int : mg "int" = none) (c_l_brought_open : Cal P w K mg base "_law_brought_open" 1 4 sp_l_brought_open) : Cal P w K mg base "_law_brought" 2 4 (bodyI 7 ib_l_brought) := by
  refine calI (k := 1) (ps := ["_law_call_here", "_law_files", "_law_rows", "_law_place"]) (N := ["_law_call_here", "_law_files", "_law_rows", "_law_place", "_law_row", "_law_file", "_law_seat"]) D sc_l_brought (fun _ _ _ _ _ _ us hl => match us, hl with | [_, _, _, _], _ => rfl) fun f cdv A outer s H E hr gu F Wx tk => ?_
  have hN := sc_l_brought.nd
  have hu := hr.units
  exact (s_cons (s_asg (i_var 3) (g_tup (gs_cons (g_name (vs := [4, 5]) 4 hN) (gs_cons (g_name (vs := [4, 5]) 5 hN) gs_nil))))
  (s_cons (s_if (pt_w (w_or (t_eq hu (i_ix (i_var 0) i_int) i_str) (w_or1 (pt_w (w_and (t_eq hu (i_ix (i_var 0) i_int) i_str) (w_and1 (t_eq hu (i_ix (i_var 0) i_int) (i_var 5)))))))) (s_one (s_ret (i_tup (ia_cons (i_mod (i_toint b_int (ia_cons (i_sub (i_var 4) (i_ix (i_var 0) (i_neg i_int))) ia_nil)) (i_var 2)) (ia_cons (i_var 5) ia_nil))))) s_nil)
  (s_cons (s_if (pt_w (w_or (pt_w (w_and (t_eq hu (i_ix (i_var 0) i_int) i_str) (w_and1 (t_in (i_var 5) (i_sl (i_var 0) (o_some i_int) o_none))))) (w_or1 (pt_w (w_and (t_eq hu (i_ix (i_var 0) i_int) i_str) (w_and (t_in (i_var 5) (i_sl (i_var 0) (o_some i_int) o_none)) (w_and1 (t_eq hu (i_var 4) i_int)))))))) (s_one (s_ret (i_tup (ia_cons (i_var 4) (ia_cons (i_sub (i_add (i_ix (i_var 0) i_int) (i_ix (i_var 0) i_int)) (i_var 5)) ia_nil))))) s_nil)
  (s_cons (s_if (pt_w (w_and (t_eq hu (i_ix (i_var 0) i_int) i_str) (w_and1 (t_in (i_var 5) (i_sl (i_var 0) (o_some i_int) (o_some i_int)))))) (s_cons (s_set 6 hN (i_ix (i_lst (ia_cons (i_sub (i_sub (i_var 2) i_int) (i_var 4)) (ia_cons (i_add (i_var 2) (i_var 4)) ia_nil))) (i_idxT (i_var 0) (o_some i_int) (o_some i_int) (ia_cons (i_var 5) ia_nil))))
    (s_cons (s_set 6 hN (i_mod (i_toint b_int (ia_cons (i_add (i_var 6) (i_ix (i_var 0) i_int)) ia_nil)) (i_mul i_int (i_var 2))))
    (s_one (s_ret (i_if (t_lt (i_var 6) (i_var 2)) (i_tup (ia_cons (i_sub (i_sub (i_var 2) i_int) (i_var 6)) (ia_cons (i_ix (i_var 0) i_int) ia_nil))) (i_tup (ia_cons (i_sub (i_var 6) (i_var 2)) (ia_cons (i_ix (i_var 0) i_int) ia_nil)))))))) s_nil)
  (s_cons (s_if (t_eq hu (i_ix (i_var 0) i_int) i_str) (s_one (s_ret (i_tup (ia_cons (i_sub (i_sub (i_var 2) i_int) (i_var 4)) (ia_cons (i_sub (i_sub (i_var 1) i_int) (i_var 5)) ia_nil))))) s_nil)
  (s_one (s_ret (i_cal c_l_brought_open (hr.mono (by decide)) gu tk (ia_cons (i_var 0) (ia_cons (i_var 1) (ia_cons (i_var 2) (ia_cons (i_var 3) ia_nil))))))))))))
theorem sc_l_done : FnScope ["_law_standing", "_law_call_here", "_law_files", "_law_rows", "_law_found", "_law_number_here", "_law_pupil", "_law_goal"] ["_law_standing", "_law_call_here", "_law_files", "_law_rows"] (defScope s_l_done) := ⟨rfl, rfl, rfl, by decide +kernel, rfl, by decide +kernel, by decide +kernel⟩
theorem d_l_done (D : Df K mg "_law_done" s_l_done) (b_len : mg "len" = none) (b_enumerate : mg "enumerate" = none) (b_int : mg "int" = none) (c_l_brought : Cal P w K mg base "_law_brought" 2 4 sp_l_brought) : Cal P w K mg base "_law_done" 3 4 (bodyI 8 ib_l_done) := by
  refine calI (k := 2) (ps := ["_law_standing", "_law_call_here", "_law_files", "_law_rows"]) (N := ["_law_standing", "_law_call_here", "_law_files", "_law_rows", "_law_found", "_law_number_here", "_law_pupil", "_law_goal"]) D sc_l_done (fun _ _ _ _ _ _ us hl => match us, hl with | [_, _, _, _], _ => rfl) fun f cdv A outer s H E hr gu F Wx tk => ?_
  have hN := sc_l_done.nd
  have hu := hr.units
  exact (s_cons (s_setN 4 hN (n_rep (i_lst (ia_cons i_non ia_nil)) (i_len b_len (ia_cons (i_var 0) ia_nil))))
  (s_cons (s_for (passes_of rfl) (l_enum b_enumerate (i_var 0)) (g_tup (gs_cons (g_name (vs := [5, 6]) 5 hN) (gs_cons (g_name (vs := [5, 6]) 6 hN) gs_nil))) (s_cons (s_set 7 hN (i_cal c_l_brought (hr.mono (by decide)) gu tk (ia_cons (i_var 1) (ia_cons (i_var 2) (ia_cons (i_var 3) (ia_cons (i_tup (ia_cons (i_div (i_var 5) (i_var 2)) (ia_cons (i_mod (i_toint b_int (ia_cons (i_var 5) ia_nil)) (i_var 2)) ia_nil))) ia_nil))))))
    (s_one (s_ixO 4 (i_var 6) (i_add (i_mul (i_ix (i_var 7) i_int) (i_var 2)) (i_ix (i_var 7) i_int))))))
  (s_one (s_retO (i := 4)))))
theorem sc_mn_Line_order : FnScope ["self"] ["self"] (defScope s_mn_Line_order) := ⟨rfl, rfl, rfl, by decide +kernel, rfl, by decide +kernel, by decide +kernel⟩
theorem d_mn_Line_order (D : DfM K "Line" "order" "Line.order" s_mn_Line_order) (cls : Cls K (He.ga K "Line")) (mth : Meth K (He.ga K "Line") "order" (He.ma K (He.ga K "Line") "order")) (b_list : mg "list" = none) (a_standing : Atr K ["Line"] "standing") : CalM P w K mg base "Line" "order" 1 0 (bodyI 1 ib_mn_Line_order) := by
  refine calMI (k := 0) (ps := ["self"]) (N := ["self"]) D cls mth sc_mn_Line_order rfl (fun _ _ _ _ _ _ us hl => match us, hl with | [_], _ => rfl) fun f cdv A outer s H E hr gu F Wx tk => ?_
  have hN := sc_mn_Line_order.nd
  have hu := hr.units
  exact (s_one (s_retN (n_list b_list (ia_cons (i_fld a_standing (i_var 0)) ia_nil))))
theorem sc_m_Line_leaders : FnScope ["self"] ["self"] (defScope s_m_Line_leaders) := ⟨rfl, rfl, rfl, by decide +kernel, rfl, by decide +kernel, by decide +kernel⟩
theorem d_m_Line_leaders (D : DfM K "Line" "leaders" "Line.leaders" s_m_Line_leaders) (cls : Cls K (He.ga K "Line")) (mth : Meth K (He.ga K "Line") "leaders" (He.ma K (He.ga K "Line") "leaders")) (a_standing : Atr K ["Line"] "standing") (a_width_Line : Atr K ["Line"] "width") : CalM P w K mg base "Line" "leaders" 1 0 (bodyI 1 ib_m_Line_leaders) := by
  refine calMI (k := 0) (ps := ["self"]) (N := ["self"]) D cls mth sc_m_Line_leaders rfl (fun _ _ _ _ _ _ us hl => match us, hl with | [_], _ => rfl) fun f cdv A outer s H E hr gu F Wx tk => ?_
  have hN := sc_m_Line_leaders.nd
  have hu := hr.units
  exact (s_one (s_retN (n_sl (i_fld a_standing (i_var 0)) o_none (o_some (i_fld a_width_Line (i_var 0))))))
theorem sc_i_Line : FnScope ["self"] ["self"] (defScope s_i_Line) := ⟨rfl, rfl, rfl, by decide +kernel, rfl, by decide +kernel, by decide +kernel⟩
theorem d_i_Line (D : DfM K "Line" "__iter__" "Line.__iter__" s_i_Line) (cls : Cls K (He.ga K "Line")) (mth : Meth K (He.ga K "Line") "__iter__" (He.ma K (He.ga K "Line") "__iter__")) (nf : NoAttr K (He.ga K "Line") "standing") (b_iter : mg "iter" = none) : CalI P w K mg base "Line" "standing" 1 :=
  calII (N := ["self"]) D cls mth nf sc_i_Line rfl b_iter rfl (fun _ _ _ _ _ _ us hl => match us, hl with | [_], _ => rfl) fun _ _ _ _ _ _ _ => by rfl
theorem sc_m_Line___len__ : FnScope ["self"] ["self"] (defScope s_m_Line___len__) := ⟨rfl, rfl, rfl, by decide +kernel, rfl, by decide +kernel, by decide +kernel⟩
theorem d_m_Line___len__ (D : DfM K "Line" "__len__" "Line.__len__" s_m_Line___len__) (cls : Cls K (He.ga K "Line")) (mth : Meth K (He.ga K "Line") "__len__" (He.ma K (He.ga K "Line") "__len__")) (b_len : mg "len" = none) (a_standing : Atr K ["Line"] "standing") : CalM P w K mg base "Line" "__len__" 1 0 (bodyI 1 ib_m_Line___len__) := by
  refine calMI (k := 0) (ps := ["self"]) (N := ["self"]) D cls mth sc_m_Line___len__ rfl (fun _ _ _ _ _ _ us hl => match us, hl with | [_], _ => rfl) fun f cdv A outer s H E hr gu F Wx tk => ?_
  have hN := sc_m_Line___len__.nd
  have hu := hr.units
  exact (s_one (s_ret (i_len b_len (ia_cons (i_fld a_standing (i_var 0)) ia_nil))))
theorem sc_m_Line_is_home : FnScope ["self"] ["self"] (defScope s_m_Line_is_home) := ⟨rfl, rfl, rfl, by decide +kernel, rfl, by decide +kernel, by decide +kernel⟩
theorem d_m_Line_is_home (D : DfM K "Line" "is_home" "Line.is_home" s_m_Line_is_home) (cls : Cls K (He.ga K "Line")) (mth : Meth K (He.ga K "Line") "is_home" (He.ma K (He.ga K "Line") "is_home")) (b_list : mg "list" = none) (b_range : mg "range" = none) (b_len : mg "len" = none) (a_standing : Atr K ["Line"] "standing") : CalM P w K mg base "Line" "is_home" 1 0 (bodyI 1 ib_m_Line_is_home) := by
  refine calMI (k := 0) (ps := ["self"]) (N := ["self"]) D cls mth sc_m_Line_is_home rfl (fun _ _ _ _ _ _ us hl => match us, hl with | [_], _ => rfl) fun f cdv A outer s H E hr gu F Wx tk => ?_
  have hN := sc_m_Line_is_home.nd
  have hu := hr.units
  exact (s_one (s_ret (i_eq hu (i_fld a_standing (i_var 0)) (i_listRg b_list b_range (i_len b_len (ia_cons (i_fld a_standing (i_var 0)) ia_nil))))))
theorem sc_m_Line_rows : FnScope ["self"] ["self"] (defScope s_m_Line_rows) := ⟨rfl, rfl, rfl, by decide +kernel, rfl, by decide +kernel, by decide +kernel⟩
theorem d_m_Line_rows (D : DfP K "Line" "rows" "Line.rows" s_m_Line_rows) (cls : Cls K (He.ga K "Line")) (a_deep : Atr K ["Line"] "deep") : CalP P w K mg base "Line" "rows" 1 (bodyI 1 ib_m_Line_rows) := by
  refine calPI (k := 0) (ps := ["self"]) (N := ["self"]) D cls sc_m_Line_rows rfl (fun _ _ _ _ _ _ us hl => match us, hl with | [_], _ => rfl) fun f cdv A outer s H E hr gu F Wx tk => ?_
  have hN := sc_m_Line_rows.nd
  have hu := hr.units
  exact (s_one (s_ret (i_fld a_deep (i_var 0))))
theorem sc_m_Line_files : FnScope ["self"] ["self"] (defScope s_m_Line_files) := ⟨rfl, rfl, rfl, by decide +kernel, rfl, by decide +kernel, by decide +kernel⟩
theorem d_m_Line_files (D : DfP K "Line" "files" "Line.files" s_m_Line_files) (cls : Cls K (He.ga K "Line")) (a_width_Line : Atr K ["Line"] "width") : CalP P w K mg base "Line" "files" 1 (bodyI 1 ib_m_Line_files) := by
  refine calPI (k := 0) (ps := ["self"]) (N := ["self"]) D cls sc_m_Line_files rfl (fun _ _ _ _ _ _ us hl => match us, hl with | [_], _ => rfl) fun f cdv A outer s H E hr gu F Wx tk => ?_
  have hN := sc_m_Line_files.nd
  have hu := hr.units
  exact (s_one (s_ret (i_fld a_width_Line (i_var 0))))
theorem sc_m_Line_place_of : FnScope ["self", "pupil"] ["self", "pupil"] (defScope s_m_Line_place_of) := ⟨rfl, rfl, rfl, by decide +kernel, rfl, by decide +kernel, by decide +kernel⟩
theorem d_m_Line_place_of (D : DfM K "Line" "place_of" "Line.place_of" s_m_Line_place_of) (cls : Cls K (He.ga K "Line")) (mth : Meth K (He.ga K "Line") "place_of" (He.ma K (He.ga K "Line") "place_of")) (b_len : mg "len" = none) (b_super : mg "super" = none) (a_standing : Atr K ["Line"] "standing") (a_width_Line : Atr K ["Line"] "width") (er1_NoPupil : ErrC P K mg "NoPupil" "pupil") (c_pv_is_index : Cal P w K mg base "is_index" 2 2 sp_pv_is_index) (c_p_place_of_moves : Cal P w K mg base "place_of_moves" 1 2 sp_p_place_of) : CalM P w K mg base "Line" "place_of" 3 1 (bodyI 2 ib_m_Line_place_of) := by
  refine calMI (k := 2) (ps := ["self", "pupil"]) (N := ["self", "pupil"]) D cls mth sc_m_Line_place_of rfl (fun _ _ _ _ _ _ us hl => match us, hl with | [_, _], _ => rfl) fun f cdv A outer s H E hr gu F Wx tk => ?_
  have hN := sc_m_Line_place_of.nd
  have hu := hr.units
  exact (s_cons (s_if (t_not (t_tru (i_cal c_pv_is_index (hr.mono (by decide)) gu tk (ia_cons (i_var 1) (ia_cons (i_len b_len (ia_cons (i_fld a_standing (i_var 0)) ia_nil)) ia_nil))))) (s_one (s_raise1 er1_NoPupil (hr.mono (by decide)) tk (i_var 1))) s_nil)
  (s_one (s_ret (i_cal c_p_place_of_moves (hr.mono (by decide)) gu tk (ia_cons (i_fld a_width_Line (i_var 0)) (ia_cons (i_idxL (i_fld a_standing (i_var 0)) (ia_cons (i_var 1) ia_nil)) ia_nil))))))
theorem sc_m_Line_at : FnScope ["self", "place"] ["self", "place"] (defScope s_m_Line_at) := ⟨rfl, rfl, rfl, by decide +kernel, rfl, by decide +kernel, by decide +kernel⟩
theorem d_m_Line_at (D : DfM K "Line" "at" "Line.at" s_m_Line_at) (cls : Cls K (He.ga K "Line")) (mth : Meth K (He.ga K "Line") "at" (He.ma K (He.ga K "Line") "at")) (b_super : mg "super" = none) (a_deep : Atr K ["Line"] "deep") (a_width_Line : Atr K ["Line"] "width") (a_standing : Atr K ["Line"] "standing") (er1_NoPlace : ErrC P K mg "NoPlace" "place") (c_pv_is_place : Cal P w K mg base "is_place" 3 3 sp_pv_is_place) (c_p_number_of : Cal P w K mg base "number_of" 1 2 sp_p_number_of) : CalM P w K mg base "Line" "at" 4 1 (bodyI 2 ib_m_Line_at) := by
  refine calMI (k := 3) (ps := ["self", "place"]) (N := ["self", "place"]) D cls mth sc_m_Line_at rfl (fun _ _ _ _ _ _ us hl => match us, hl with | [_, _], _ => rfl) fun f cdv A outer s H E hr gu F Wx tk => ?_
  have hN := sc_m_Line_at.nd
  have hu := hr.units
  exact (s_cons (s_if (t_not (t_tru (i_cal c_pv_is_place (hr.mono (by decide)) gu tk (ia_cons (i_fld a_width_Line (i_var 0)) (ia_cons (i_fld a_deep (i_var 0)) (ia_cons (i_var 1) ia_nil)))))) (s_one (s_raise1 er1_NoPlace (hr.mono (by decide)) tk (i_var 1))) s_nil)
  (s_one (s_ret (i_ix (i_fld a_standing (i_var 0)) (i_cal c_p_number_of (hr.mono (by decide)) gu tk (ia_cons (i_fld a_width_Line (i_var 0)) (ia_cons (i_var 1) ia_nil)))))))
theorem sc_m_Line_row_of : FnScope ["self", "pupil", "row", "some", "other"] ["self", "pupil"] (defScope s_m_Line_row_of) := ⟨rfl, rfl, rfl, by decide +kernel, rfl, by decide +kernel, by decide +kernel⟩
theorem d_m_Line_row_of (D : DfM K "Line" "row_of" "Line.row_of" s_m_Line_row_of) (cls : Cls K (He.ga K "Line")) (mth : Meth K (He.ga K "Line") "row_of" (He.ma K (He.ga K "Line") "row_of")) (b_sorted : mg "sorted" = none) (a_standing : Atr K ["Line"] "standing") (a_width_Line : Atr K ["Line"] "width") (c_m_Line_place_of : CalM P w K mg base "Line" "place_of" 3 1 sp_m_Line_place_of) : CalM P w K mg base "Line" "row_of" 4 1 (bodyI 5 ib_m_Line_row_of) := by
  refine calMI (k := 3) (ps := ["self", "pupil"]) (N := ["self", "pupil", "row", "some", "other"]) D cls mth sc_m_Line_row_of rfl (fun _ _ _ _ _ _ us hl => match us, hl with | [_, _], _ => rfl) fun f cdv A outer s H E hr gu F Wx tk => ?_
  have hN := sc_m_Line_row_of.nd
  have hu := hr.units
  exact (s_cons (s_set 2 hN (i_ix (i_meth (k' := 3) (Ms.cons c_m_Line_place_of (by decide) Ms.nil) (hr.mono (by decide)) gu tk (i_var 0) (ia_cons (i_var 1) ia_nil)) i_int))
  (s_cons (s_set 3 hN (i_sl (i_fld a_standing (i_var 0)) (o_some (i_mul (i_var 2) (i_fld a_width_Line (i_var 0)))) (o_some (i_mul (i_add (i_var 2) i_int) (i_fld a_width_Line (i_var 0))))))
  (s_one (s_retN (n_sortedL b_sorted (ia_cons (i_fz (n_lc [("other", 4)] hN (l_seq (i_var 3)) (blkOk_by rfl) (fun s H C cl fp F => (g_name (vs := [4]) 4 hN)) (fun s H C cl fp => (ti_one fun F => (t_ne hu (i_var 4) (i_var 1)))) (fun s H C cl fp F => (i_var 4)))) ia_nil))))))
theorem sc_l_right : FnScope ["_law_bag_here", "_law_line", "_law_standing", "_law_files", "_law_rows", "_law_way", "_law_found", "_law_told", "_law_shown", "_law_wanted", "_law_number_here", "_law_row", "_law_file", "_law_pupil", "_law_due", "_law_one_here"] ["_law_bag_here", "_law_line", "_law_standing", "_law_files", "_law_rows"] (defScope s_l_right) := ⟨rfl, rfl, rfl, by decide +kernel, rfl, by decide +kernel, by decide +kernel⟩
theorem d_l_right (D : Df K mg "_law_right" s_l_right) (b_repr : mg "repr" = none) (b_list : mg "list" = none) (b_len : mg "len" = none) (b_sorted : mg "sorted" = none) (b_int : mg "int" = none) (c_l_mixed : Cal P w K mg base "_law_mixed" 2 2 sp_l_mixed) (c_mn_Line_order : CalM P w K mg base "Line" "order" 1 0 sp_mn_Line_order) (c_m_Line_leaders : CalM P w K mg base "Line" "leaders" 1 0 sp_m_Line_leaders) (c_i_Line : CalI P w K mg base "Line" "standing" 1) (c_m_Line___len__ : CalM P w K mg base "Line" "__len__" 1 0 sp_m_Line___len__) (c_m_Line_is_home : CalM P w K mg base "Line" "is_home" 1 0 sp_m_Line_is_home) (c_m_Line_rows : CalP P w K mg base "Line" "rows" 1 sp_m_Line_rows) (c_m_Line_files : CalP P w K mg base "Line" "files" 1 sp_m_Line_files) (c_l_take : Cal P w K mg base "_law_take" 1 2 sp_l_take) (c_m_Line_place_of : CalM P w K mg base "Line" "place_of" 3 1 sp_m_Line_place_of) (c_m_Line_at : CalM P w K mg base "Line" "at" 4 1 sp_m_Line_at) (c_m_Line_row_of : CalM P w K mg base "Line" "row_of" 4 1 sp_m_Line_row_of) : Cal P w K mg base "_law_right" 5 5 (bodyI 16 ib_l_right) := by
  refine calI (k := 4) (ps := ["_law_bag_here", "_law_line", "_law_standing", "_law_files", "_law_rows"]) (N := ["_law_bag_here", "_law_line", "_law_standing", "_law_files", "_law_rows", "_law_way", "_law_found", "_law_told", "_law_shown", "_law_wanted", "_law_number_here", "_law_row", "_law_file", "_law_pupil", "_law_due", "_law_one_here"]) D sc_l_right (fun _ _ _ _ _ _ us hl => match us, hl with | [_, _, _, _, _], _ => rfl) fun f cdv A outer s H E hr gu F Wx tk => ?_
  have hN := sc_l_right.nd
  have hu := hr.units
  exact (s_cons (s_for (passes_of rfl) (l_seq (i_cal c_l_mixed (hr.mono (by decide)) gu tk (ia_cons (i_var 0) (ia_cons (i_lst (ia_cons i_int (ia_cons i_int (ia_cons i_int (ia_cons i_int ia_nil))))) ia_nil)))) (g_name (vs := [5]) 5 hN) (s_cons (s_if (t_eq hu (i_var 5) i_int) (s_cons (s_parM2 6 7 hN (pm_n (n_meth0 (k' := 1) (Ms.cons c_mn_Line_order (by decide) Ms.nil) (hr.mono (by decide)) gu tk (i_var 1)) (fun _ => (pm_n (n_meth0 (k' := 1) (Ms.cons c_m_Line_leaders (by decide) Ms.nil) (hr.mono (by decide)) gu tk (i_var 1)) (fun _ => pm_nil)))))
      (s_cons (s_if (pt_w (w_or (t_peek (t_ne hu (i_repr gu hu b_repr (ia_cons (i_var 6) ia_nil)) (i_repr gu hu b_repr (ia_cons (i_var 2) ia_nil)))) (w_or1 (t_peek (t_ne hu (i_repr gu hu b_repr (ia_cons (i_var 7) ia_nil)) (i_repr gu hu b_repr (ia_cons (i_sl (i_var 2) o_none (o_some (i_var 3))) ia_nil))))))) (s_one (s_ret i_bl)) s_nil)
      (s_cons (s_expr (i_mtO0 6 mg_clear mt_clear PySem.F.slot_list_clear PySem.F.type_list_clear))
      (s_one (s_expr (i_mtO 7 mg_append mt_append PySem.F.slot_list_append PySem.F.type_list_append (ia_cons i_non ia_nil))))))) s_nil)
    (s_cons (s_if (t_eq hu (i_var 5) i_int) (s_cons (s_set 8 hN (i_repr gu hu b_repr (ia_cons (i_lst (ia_cons (i_prop (k' := 1) (Ps.cons c_m_Line_files (by decide) Ps.nil) (hr.mono (by decide)) gu (i_var 1)) (ia_cons (i_prop (k' := 1) (Ps.cons c_m_Line_rows (by decide) Ps.nil) (hr.mono (by decide)) gu (i_var 1)) (ia_cons (i_lenM (k' := 1) (Ms.cons c_m_Line___len__ (by decide) Ms.nil) (hr.mono (by decide)) gu b_len (i_var 1)) (ia_cons (i_meth0 (k' := 1) (Ms.cons c_m_Line_is_home (by decide) Ms.nil) (hr.mono (by decide)) gu tk (i_var 1)) (ia_cons (i_listM (kI := 1) (kL := 1) (Is.cons c_i_Line Is.nil) (Ms.cons c_m_Line___len__ (by decide) Ms.nil) (hr.mono (by decide)) (hr.mono (by decide)) gu b_list (i_var 1)) ia_nil)))))) ia_nil)))
      (s_cons (s_set 9 hN (i_lst (ia_cons (i_var 3) (ia_cons (i_var 4) (ia_cons (i_mul (i_var 3) (i_var 4)) (ia_cons (i_eq hu (i_var 2) (i_sorted b_sorted (ia_cons (i_var 2) ia_nil))) (ia_cons (i_var 2) ia_nil)))))))
      (s_one (s_if (t_ne hu (i_var 8) (i_repr gu hu b_repr (ia_cons (i_var 9) ia_nil))) (s_one (s_ret i_bl)) s_nil)))) s_nil)
    (s_cons (s_set 10 hN (i_cal c_l_take (hr.mono (by decide)) gu tk (ia_cons (i_var 0) (ia_cons (i_mul (i_var 3) (i_var 4)) ia_nil))))
    (s_cons (s_par 11 12 hN (i_div (i_var 10) (i_var 3)) (i_mod (i_toint b_int (ia_cons (i_var 10) ia_nil)) (i_var 3)))
    (s_cons (s_set 13 hN (i_ix (i_var 2) (i_var 10)))
    (s_cons (s_if (t_eq hu (i_var 5) i_int) (s_cons (s_setN 6 hN (n_lst (ia_cons (i_meth (k' := 4) (Ms.cons c_m_Line_at (by decide) Ms.nil) (hr.mono (by decide)) gu tk (i_var 1) (ia_cons (i_tup (ia_cons (i_var 11) (ia_cons (i_var 12) ia_nil))) ia_nil)) (ia_cons (i_meth (k' := 3) (Ms.cons c_m_Line_place_of (by decide) Ms.nil) (hr.mono (by decide)) gu tk (i_var 1) (ia_cons (i_var 13) ia_nil)) ia_nil))))
      (s_one (s_if (t_ne hu (i_repr gu hu b_repr (ia_cons (i_var 6) ia_nil)) (i_repr gu hu b_repr (ia_cons (i_lst (ia_cons (i_var 13) (ia_cons (i_tup (ia_cons (i_var 11) (ia_cons (i_var 12) ia_nil))) ia_nil))) ia_nil))) (s_one (s_ret i_bl)) s_nil))) s_nil)
    (s_one (s_if (t_eq hu (i_var 5) i_int) (s_cons (s_set 14 hN (i_sorted b_sorted (ia_cons (i_fz (n_lc [("_law_one_here", 15)] hN (l_seq (i_sl (i_var 2) (o_some (i_mul (i_var 11) (i_var 3))) (o_some (i_add (i_mul (i_var 11) (i_var 3)) (i_var 3))))) (blkOk_by rfl) (fun s H C cl fp F => (g_name (vs := [15]) 15 hN)) (fun s H C cl fp => (ti_one fun F => (t_ne hu (i_var 15) (i_var 13)))) (fun s H C cl fp F => (i_var 15)))) ia_nil)))
      (s_cons (s_setN 6 hN (n_meth (k' := 4) (Ms.cons c_m_Line_row_of (by decide) Ms.nil) (hr.mono (by decide)) gu tk (i_var 1) (ia_cons (i_var 13) ia_nil)))
      (s_cons (s_if (t_peek (t_ne hu (i_repr gu hu b_repr (ia_cons (i_var 6) ia_nil)) (i_repr gu hu b_repr (ia_cons (i_var 14) ia_nil)))) (s_one (s_ret i_bl)) s_nil)
      (s_one (s_expr (i_mtO 6 mg_append mt_append PySem.F.slot_list_append PySem.F.type_list_append (ia_cons i_non ia_nil))))))) s_nil)))))))))
  (s_one (s_ret i_bl)))
theorem sc_l_heard : FnScope ["_law_act", "e"] ["_law_act"] (defScope s_l_heard) := ⟨rfl, rfl, rfl, by decide +kernel, rfl, by decide +kernel, by decide +kernel⟩
theorem d_l_heard (D : Df K mg "_law_heard" s_l_heard) (b_isinstance : mg "isinstance" = none) (g_PupilError : mg "PupilError" = some (.ref (He.ga K "PupilError"))) (cat_PupilError : CatF K ["Wrong", "NoCall", "Unlike", "NoPlace", "NoPupil"] "PupilError") (ise_ : IsEF K ["Wrong", "NoCall", "Unlike", "NoPlace", "NoPupil"] ["NoPlace", "NoPupil"]) (g_NoPlace : mg "NoPlace" = some (.ref (He.ga K "NoPlace"))) (g_NoPupil : mg "NoPupil" = some (.ref (He.ga K "NoPupil"))) (xf_place : XfF K ["Wrong", "NoPlace"] "place") (xf_pupil : XfF K ["NoPupil"] "pupil") : CalL P w K mg base "_law_heard" hI_l_heard := calRet D rfl sc_l_heard (fun _ _ _ _ _ _ us hl => match us, hl with | [_], _ => rfl) cat_PupilError g_PupilError rfl rfl (.inl rfl) rfl rfl (fun g cdg A outer s H E0 F h oe pn hr gu hz hf => by have hN := sc_l_heard.nd; have hu := hr.units; exact (s_cons (s_if (t_eq hu (i_isE ise_ hz hf b_isinstance (ia_cons (i_var 1) (ia_cons (i_glo g_NoPlace) ia_nil))) (i_isE ise_ hz hf b_isinstance (ia_cons (i_var 1) (ia_cons (i_glo g_NoPupil) ia_nil)))) (s_one (s_ret (i_tup (ia_cons i_str (ia_cons i_non ia_nil))))) s_nil)
  (s_one (s_ret (i_if (t_tru (i_isE ise_ hz hf b_isinstance (ia_cons (i_var 1) (ia_cons (i_glo g_NoPlace) ia_nil)))) (i_tup (ia_cons i_str (ia_cons (i_xf xf_place hz hf (i_var 1)) ia_nil))) (i_tup (ia_cons i_str (ia_cons (i_xf xf_pupil hz hf (i_var 1)) ia_nil))))))))
theorem sc_mm_Line_order : FnScope ["self"] ["self"] (defScope s_mm_Line_order) := ⟨rfl, rfl, rfl, by decide +kernel, rfl, by decide +kernel, by decide +kernel⟩
theorem d_mm_Line_order (D : DfM K "Line" "order" "Line.order" s_mm_Line_order) (cls : Cls K (He.ga K "Line")) (mth : Meth K (He.ga K "Line") "order" (He.ma K (He.ga K "Line") "order")) (b_list : mg "list" = none) (a_standing : Atr K ["Line"] "standing") : CalM P w K mg base "Line" "order" 1 0 (bodyI 1 ib_mm_Line_order) := by
  refine calMI (k := 0) (ps := ["self"]) (N := ["self"]) D cls mth sc_mm_Line_order rfl (fun _ _ _ _ _ _ us hl => match us, hl with | [_], _ => rfl) fun f cdv A outer s H E hr gu F Wx tk => ?_
  have hN := sc_mm_Line_order.nd
  have hu := hr.units
  exact (s_one (s_ret (i_list b_list (ia_cons (i_fld a_standing (i_var 0)) ia_nil))))
theorem sc_law : FnScope ["_law_script", "_law_bag_here", "_law_turn", "_law_files", "_law_rows", "_law_line", "_law_standing", "_law_call_here", "_law_again", "_law_bad"] ["_law_script"] (defScope s_law) := ⟨rfl, rfl, rfl, by decide +kernel, rfl, by decide +kernel, by decide +kernel⟩
theorem g_law {f : Addr} {fd : FuncData} (Fd : FunD K "law" "law" (defArgs s_law) (defBody s_law) (defScope s_law) [] [] f fd) (ef : f = He.fAd K ("law", none)) (b_range : mg "range" = none) (b_list : mg "list" = none) (b_repr : mg "repr" = none) (tb_law : LamX.TabB base mg (He.cT K ("law", none)).1 (tabD K "law")) (sys_ : sysB K = true) (c_l_bag : Cal P w K mg base "_law_bag" 1 1 sp_l_bag) (c_l_take : Cal P w K mg base "_law_take" 1 2 sp_l_take) (c_k_Line : CalK P w K mg base "Line" 3 2 sp_k_Line) (c_l_calls : Cal P w K mg base "_law_calls" 5 4 sp_l_calls) (c_l_all_kinds : Cal P w K mg base "_law_all_kinds" 1 0 sp_l_all_kinds) (c_m_Line_do : CalM P w K mg base "Line" "do" 7 1 sp_m_Line_do) (c_l_done : Cal P w K mg base "_law_done" 3 4 sp_l_done) (c_l_right : Cal P w K mg base "_law_right" 5 5 sp_l_right) (c_l_heard : CalL P w K mg base "_law_heard" hI_l_heard) (c_m_Line_at : CalM P w K mg base "Line" "at" 4 1 sp_m_Line_at) (c_m_Line_place_of : CalM P w K mg base "Line" "place_of" 3 1 sp_m_Line_place_of) (c_m_Line_row_of : CalM P w K mg base "Line" "row_of" 4 1 sp_m_Line_row_of) (c_mm_Line_order : CalM P w K mg base "Line" "order" 1 0 sp_m_Line_order) : FnG P w K mg base 8 f fd ["_law_script"] (spI K 1 (bodyI 10 ib_law)) := by
  refine fnIC (k := 7) (ps := ["_law_script"]) (N := ["_law_script", "_law_bag_here", "_law_turn", "_law_files", "_law_rows", "_law_line", "_law_standing", "_law_call_here", "_law_again", "_law_bad"]) (q := ("law", none)) Fd ef sc_law fun cdv A outer s H E ec hr gu F Wx tk => ?_
  have hN := sc_law.nd
  have hu := hr.units
  exact (s_cons (s_setP 1 hN (n_cal c_l_bag (hr.mono (by decide)) gu tk (ia_cons (i_var 0) ia_nil)))
  (s_cons (s_for (passes_of rfl) (l_range1 b_range i_int) (g_name (vs := [2]) 2 hN) (s_cons (s_par 3 4 hN (i_add i_int (i_cal c_l_take (hr.mono (by decide)) gu tk (ia_cons (i_var 1) (ia_cons i_int ia_nil)))) (i_ix (i_lst (ia_cons (i_add i_int (i_cal c_l_take (hr.mono (by decide)) gu tk (ia_cons (i_var 1) (ia_cons i_int ia_nil)))) (ia_cons i_int (ia_cons i_int (ia_cons i_int ia_nil))))) (i_cal c_l_take (hr.mono (by decide)) gu tk (ia_cons (i_var 1) (ia_cons i_int ia_nil)))))
    (s_cons (s_asg (i_tup (ia_cons (i_pub (n_make c_k_Line (hr.mono (by decide)) gu tk (ia_cons (i_var 3) (ia_cons (i_var 4) ia_nil)))) (ia_cons (i_listRg b_list b_range (i_mul (i_var 3) (i_var 4))) ia_nil))) (g_tup (gs_cons (g_name (vs := [5, 6]) 5 hN) (gs_cons (g_name (vs := [5, 6]) 6 hN) gs_nil))))
    (s_cons (s_for (passes_of rfl) (l_seq (i_cal c_l_calls (hr.mono (by decide)) gu tk (ia_cons (i_var 1) (ia_cons (i_var 3) (ia_cons (i_cal0 c_l_all_kinds (hr.mono (by decide)) gu tk) (ia_cons (i_cal c_l_take (hr.mono (by decide)) gu tk (ia_cons (i_var 1) (ia_cons i_int ia_nil))) ia_nil)))))) (g_name (vs := [7]) 7 hN) (s_cons (s_expr (i_meth (k' := 7) (Ms.cons c_m_Line_do (by decide) Ms.nil) (hr.mono (by decide)) gu tk (i_var 5) (ia_cons (i_var 7) ia_nil)))
      (s_one (s_set 6 hN (i_cal c_l_done (hr.mono (by decide)) gu tk (ia_cons (i_var 6) (ia_cons (i_var 7) (ia_cons (i_var 3) (ia_cons (i_var 4) ia_nil)))))))))
    (s_cons (s_for (passes_of rfl) (l_range1 b_range i_int) (g_name (vs := [8]) 8 hN) (s_one (s_if (t_not (t_tru (i_cal c_l_right (hr.mono (by decide)) gu tk (ia_cons (i_var 1) (ia_cons (i_var 5) (ia_cons (i_var 6) (ia_cons (i_var 3) (ia_cons (i_var 4) ia_nil)))))))) (s_one (s_ret i_bl)) s_nil)))
    (s_cons (s_for (passes_of rfl) (l_seq (i_lst (ia_cons i_non (ia_cons i_str (ia_cons (i_tup ia_nil) (ia_cons (i_tup (ia_cons (i_var 4) (ia_cons i_int ia_nil))) (ia_cons (i_tup (ia_cons i_int (ia_cons (i_var 3) ia_nil))) (ia_cons (i_tup (ia_cons (i_neg i_int) (ia_cons i_int ia_nil))) (ia_cons (i_lst (ia_cons i_int (ia_cons i_int ia_nil))) (ia_cons (i_tup (ia_cons i_bl (ia_cons i_int ia_nil))) (ia_cons (i_fz n_dnew) (ia_cons (i_tup (ia_cons i_int (ia_cons i_int (ia_cons i_int ia_nil)))) (ia_cons (i_tup (ia_cons i_non (ia_cons i_int ia_nil))) ia_nil))))))))))))) (g_name (vs := [9]) 9 hN) (s_one (s_if (t_ne hu (i_reprN sys_ gu hu b_repr (ia_cons (i_lam (k := 4) c_l_heard (hr.mono (by decide)) gu tb_law ec (LamX.lamS_by (by show LamX.lamSB (defScope s_law) _ = true; decide +kernel)) (fun A outer s1 H1 E f c1 hr gu => (i_meth (k' := 4) (Ms.cons c_m_Line_at (by decide) Ms.nil) (hr.mono (by decide)) gu lam_tk (i_var 5) (ia_cons (i_var 9) ia_nil)))) ia_nil)) (i_reprN sys_ gu hu b_repr (ia_cons (i_tup (ia_cons i_str (ia_cons (i_var 9) ia_nil))) ia_nil))) (s_one (s_ret i_bl)) s_nil)))
    (s_cons (s_for (passes_of rfl) (l_seq (i_lst (ia_cons i_non (ia_cons i_str (ia_cons (i_neg i_int) (ia_cons (i_mul (i_var 3) (i_var 4)) (ia_cons i_bl (ia_cons i_bl (ia_cons (i_tup ia_nil) (ia_cons (i_lst ia_nil) (ia_cons (i_fz n_dnew) (ia_cons (i_tup (ia_cons i_int ia_nil)) (ia_cons (i_pow i_int i_int) ia_nil))))))))))))) (g_name (vs := [9]) 9 hN) (s_cons (s_if (t_ne hu (i_reprN sys_ gu hu b_repr (ia_cons (i_lam (k := 3) c_l_heard (hr.mono (by decide)) gu tb_law ec (LamX.lamS_by (by show LamX.lamSB (defScope s_law) _ = true; decide +kernel)) (fun A outer s1 H1 E f c1 hr gu => (i_meth (k' := 3) (Ms.cons c_m_Line_place_of (by decide) Ms.nil) (hr.mono (by decide)) gu lam_tk (i_var 5) (ia_cons (i_var 9) ia_nil)))) ia_nil)) (i_reprN sys_ gu hu b_repr (ia_cons (i_tup (ia_cons i_str (ia_cons (i_var 9) ia_nil))) ia_nil))) (s_one (s_ret i_bl)) s_nil)
      (s_one (s_if (t_ne hu (i_reprN sys_ gu hu b_repr (ia_cons (i_lam (k := 4) c_l_heard (hr.mono (by decide)) gu tb_law ec (LamX.lamS_by (by show LamX.lamSB (defScope s_law) _ = true; decide +kernel)) (fun A outer s1 H1 E f c1 hr gu => (i_meth (k' := 4) (Ms.cons c_m_Line_row_of (by decide) Ms.nil) (hr.mono (by decide)) gu lam_tk (i_var 5) (ia_cons (i_var 9) ia_nil)))) ia_nil)) (i_reprN sys_ gu hu b_repr (ia_cons (i_tup (ia_cons i_str (ia_cons (i_var 9) ia_nil))) ia_nil))) (s_one (s_ret i_bl)) s_nil))))
    (s_cons (s_if (t_neI hu (i_lam (k := 4) c_l_heard (hr.mono (by decide)) gu tb_law ec (LamX.lamS_by (by show LamX.lamSB (defScope s_law) _ = true; decide +kernel)) (fun A outer s1 H1 E f c1 hr gu => (i_meth (k' := 4) (Ms.cons c_m_Line_at (by decide) Ms.nil) (hr.mono (by decide)) gu lam_tk (i_var 5) (ia_cons (i_var 5) ia_nil)))) (i_tup (ia_cons i_str (ia_cons (i_var 5) ia_nil)))) (s_one (s_ret i_bl)) s_nil)
    (s_cons (s_if (t_neI hu (i_lam (k := 3) c_l_heard (hr.mono (by decide)) gu tb_law ec (LamX.lamS_by (by show LamX.lamSB (defScope s_law) _ = true; decide +kernel)) (fun A outer s1 H1 E f c1 hr gu => (i_meth (k' := 3) (Ms.cons c_m_Line_place_of (by decide) Ms.nil) (hr.mono (by decide)) gu lam_tk (i_var 5) (ia_cons (i_var 5) ia_nil)))) (i_tup (ia_cons i_str (ia_cons (i_var 5) ia_nil)))) (s_one (s_ret i_bl)) s_nil)
    (s_one (s_if (pt_w (w_or (t_neI hu (i_lam (k := 4) c_l_heard (hr.mono (by decide)) gu tb_law ec (LamX.lamS_by (by show LamX.lamSB (defScope s_law) _ = true; decide +kernel)) (fun A outer s1 H1 E f c1 hr gu => (i_meth (k' := 4) (Ms.cons c_m_Line_row_of (by decide) Ms.nil) (hr.mono (by decide)) gu lam_tk (i_var 5) (ia_cons (i_var 5) ia_nil)))) (i_tup (ia_cons i_str (ia_cons (i_var 5) ia_nil)))) (w_or1 (t_ne hu (i_meth0 (k' := 1) (Ms.cons c_mm_Line_order (by decide) Ms.nil) (hr.mono (by decide)) gu tk (i_var 5)) (i_var 6))))) (s_one (s_ret i_bl)) s_nil)))))))))))
  (s_one (s_ret i_bl))))
end
theorem facts {P : Program} {w : World} {K : PySem.W.Frag} {h : Heap} {mg : Str → Option Value} {f : Addr} (X : K.In h) (G : h.Ns mainGlobals mg) (hfa : mg ("law" : Str) = some (.ref f)) (cX : SaysS fa fn tsL [("law", none)] exL prL spL w h K) (hPf : ((P.main.file : Str) == PySem.Challenge.pw_pupilpairs_k23_lines_told.main.file) = true) (hPs : (P.main.scope.names.lookup ("super" : Str)).isSome = false) :
    ∃ fd : FuncData, (∀ (s : Shared) (v : Value), BindsTo s fd ⟨[v], []⟩ [("_law_script", v)]) ∧ ∀ base : Heap, K.In base → base.Ns mainGlobals mg → (∀ d ∈ (["law"] : List Str), LamX.TabB base mg (He.cT K (d, none)).1 (tabD K d)) → FnG P w K mg base 8 f fd ["_law_script"] (spI K 1 (bodyI 10 ib_law)) := by
  have c := cX.x.t.d
  have ex := cX.x.more
  simp only [exL, Bool.and_eq_true] at ex
  have k_MOST_ROWS : Kc K mg "MOST_ROWS" kC_MOST_ROWS := kcB_ok X G ex.1.1.1.1.1.1.1.1.1.1.1.1
  have k_BY_FILES : Kd K w mg "BY_FILES" kT_BY_FILES := kdB_ok X G ex.1.1.1.1.1.1.1.1.1.1.1.2 (cX.x.t.tab 0)
  have k_BY_NUMBER : Kc K mg "BY_NUMBER" kC_BY_NUMBER := kcB_ok X G ex.1.1.1.1.1.1.1.1.1.1.2
  have kf_Script_Line : KitF K ["Script", "Line"] := kitFB_ok ex.1.1.1.1.1.1.1.1.1.2
  have kf_ : KitF K [] := kitFB_ok ex.1.1.1.1.1.1.1.1.2
  have kf_Script : KitF K ["Script"] := kitFB_ok ex.1.1.1.1.1.1.1.2
  have cat_PupilError : CatF K ["Wrong", "NoCall", "Unlike", "NoPlace", "NoPupil"] "PupilError" := catFB_ok ex.1.1.1.1.1.1.2
  have ise_ : IsEF K ["Wrong", "NoCall", "Unlike", "NoPlace", "NoPupil"] ["NoPlace", "NoPupil"] := isEFB_ok ex.1.1.1.1.1.2
  have xf_place : XfF K ["Wrong", "NoPlace"] "place" := xfFB_ok ex.1.1.1.1.2
  have xf_pupil : XfF K ["NoPupil"] "pupil" := xfFB_ok ex.1.1.1.2
  have sys_ : sysB K = true := ex.1.1.2
  have b_abs : mg "abs" = none := He.free_ok X G (c.fact 29 (f := .free "abs") rfl)
  have b_len : mg "len" = none := He.free_ok X G (c.fact 30 (f := .free "len") rfl)
  have b_int : mg "int" = none := He.free_ok X G (c.fact 31 (f := .free "int") rfl)
  have b_isinstance : mg "isinstance" = none := He.free_ok X G (c.fact 32 (f := .free "isinstance") rfl)
  have b_bool : mg "bool" = none := He.free_ok X G (c.fact 33 (f := .free "bool") rfl)
  have b_list : mg "list" = none := He.free_ok X G (c.fact 34 (f := .free "list") rfl)
  have b_range : mg "range" = none := He.free_ok X G (c.fact 35 (f := .free "range") rfl)
  have b_enumerate : mg "enumerate" = none := He.free_ok X G (c.fact 36 (f := .free "enumerate") rfl)
  have b_tuple : mg "tuple" = none := He.free_ok X G (c.fact 37 (f := .free "tuple") rfl)
  have b_str : mg "str" = none := He.free_ok X G (c.fact 38 (f := .free "str") rfl)
  have b_all : mg "all" = none := He.free_ok X G (c.fact 39 (f := .free "all") rfl)
  have b_super : mg "super" = none := He.free_ok X G (c.fact 40 (f := .free "super") rfl)
  have b_sorted : mg "sorted" = none := He.free_ok X G (c.fact 41 (f := .free "sorted") rfl)
  have b_repr : mg "repr" = none := He.free_ok X G (c.fact 42 (f := .free "repr") rfl)
  have b_iter : mg "iter" = none := He.free_ok X G (c.fact 43 (f := .free "iter") rfl)
  have g_Script : mg "Script" = some (.ref (He.ga K "Script")) := He.glo_ok X G (c.fact 48 (f := .glo "Script") rfl)
  have g_PupilError : mg "PupilError" = some (.ref (He.ga K "PupilError")) := He.glo_ok X G (c.fact 50 (f := .glo "PupilError") rfl)
  have g_NoPlace : mg "NoPlace" = some (.ref (He.ga K "NoPlace")) := He.glo_ok X G (c.fact 45 (f := .glo "NoPlace") rfl)
  have g_NoPupil : mg "NoPupil" = some (.ref (He.ga K "NoPupil")) := He.glo_ok X G (c.fact 44 (f := .glo "NoPupil") rfl)
  have er1_NoPupil : ErrC P K mg "NoPupil" "pupil" := SupD.errC (d := sd_NoPupil) (self := "self") (cX.sup 0 (d := sd_NoPupil) rfl).1 (cX.sup 0 (d := sd_NoPupil) rfl).2 hPf hPs b_super (He.glo_ok X G (c.fact 44 (f := .glo "NoPupil") rfl)) rfl rfl rfl rfl rfl (fun _ _ _ _ _ _ _ us hl => match us, hl with | [_, _], _ => rfl) (by decide +kernel) rfl rfl rfl rfl rfl rfl rfl (by decide) rfl rfl rfl
  have er1_NoPlace : ErrC P K mg "NoPlace" "place" := SupD.errC (d := sd_NoPlace) (self := "self") (cX.sup 1 (d := sd_NoPlace) rfl).1 (cX.sup 1 (d := sd_NoPlace) rfl).2 hPf hPs b_super (He.glo_ok X G (c.fact 45 (f := .glo "NoPlace") rfl)) rfl rfl rfl rfl rfl (fun _ _ _ _ _ _ _ us hl => match us, hl with | [_, _], _ => rfl) (by decide +kernel) rfl rfl rfl rfl rfl rfl rfl (by decide) rfl rfl rfl
  have cl_Line : Cls K (He.ga K "Line") := He.cls_ok (c.fact 47 (f := .cls "Line") rfl)
  have cl_Script : Cls K (He.ga K "Script") := He.cls_ok (c.fact 49 (f := .cls "Script") rfl)
  have a_width_Line : Atr K ["Line"] "width" := ⟨fun C hC => by
    simp only [List.mem_cons, List.not_mem_nil, or_false] at hC
    rcases hC with rfl
    · exact ⟨cl_Line, He.noat_ok (c.fact 66 (f := .noat "Line" "width") rfl)⟩⟩
  have a_deep : Atr K ["Line"] "deep" := ⟨fun C hC => by
    simp only [List.mem_cons, List.not_mem_nil, or_false] at hC
    rcases hC with rfl
    · exact ⟨cl_Line, He.noat_ok (c.fact 67 (f := .noat "Line" "deep") rfl)⟩⟩
  have a_standing : Atr K ["Line"] "standing" := ⟨fun C hC => by
    simp only [List.mem_cons, List.not_mem_nil, or_false] at hC
    rcases hC with rfl
    · exact ⟨cl_Line, He.noat_ok (c.fact 60 (f := .noat "Line" "standing") rfl)⟩⟩
  have a_width_Script : Atr K ["Script"] "width" := ⟨fun C hC => by
    simp only [List.mem_cons, List.not_mem_nil, or_false] at hC
    rcases hC with rfl
    · exact ⟨cl_Script, He.noat_ok (c.fact 68 (f := .noat "Script" "width") rfl)⟩⟩
  have a_steps : Atr K ["Script"] "steps" := ⟨fun C hC => by
    simp only [List.mem_cons, List.not_mem_nil, or_false] at hC
    rcases hC with rfl
    · exact ⟨cl_Script, He.noat_ok (c.fact 54 (f := .noat "Script" "steps") rfl)⟩⟩
  have D_l_bag : Df K mg "_law_bag" s_l_bag := by
    obtain ⟨fd, F⟩ := c.def_ 0 (d := dd_l_bag) rfl
    exact ⟨_, fd, F, He.glo_ok X G (c.fact 0 (f := .glo "_law_bag") rfl)⟩
  have D_l_take : Df K mg "_law_take" s_l_take := by
    obtain ⟨fd, F⟩ := c.def_ 1 (d := dd_l_take) rfl
    exact ⟨_, fd, F, He.glo_ok X G (c.fact 1 (f := .glo "_law_take") rfl)⟩
  have D_pv_is_integer : Df K mg "is_integer" s_pv_is_integer := by
    obtain ⟨fd, F⟩ := c.def_ 2 (d := dd_pv_is_integer) rfl
    exact ⟨_, fd, F, He.glo_ok X G (c.fact 2 (f := .glo "is_integer") rfl)⟩
  have D_p_is_files : Df K mg "is_files" s_p_is_files := by
    obtain ⟨fd, F⟩ := c.def_ 3 (d := dd_p_is_files) rfl
    exact ⟨_, fd, F, He.glo_ok X G (c.fact 3 (f := .glo "is_files") rfl)⟩
  have D_p_is_rows : Df K mg "is_rows" s_p_is_rows := by
    obtain ⟨fd, F⟩ := c.def_ 4 (d := dd_p_is_rows) rfl
    exact ⟨_, fd, F, He.glo_ok X G (c.fact 4 (f := .glo "is_rows") rfl)⟩
  have D_l_one : Df K mg "_law_one" s_l_one := by
    obtain ⟨fd, F⟩ := c.def_ 5 (d := dd_l_one) rfl
    exact ⟨_, fd, F, He.glo_ok X G (c.fact 5 (f := .glo "_law_one") rfl)⟩
  have D_l_number : Df K mg "_law_number" s_l_number := by
    obtain ⟨fd, F⟩ := c.def_ 6 (d := dd_l_number) rfl
    exact ⟨_, fd, F, He.glo_ok X G (c.fact 6 (f := .glo "_law_number") rfl)⟩
  have D_l_mixed : Df K mg "_law_mixed" s_l_mixed := by
    obtain ⟨fd, F⟩ := c.def_ 7 (d := dd_l_mixed) rfl
    exact ⟨_, fd, F, He.glo_ok X G (c.fact 7 (f := .glo "_law_mixed") rfl)⟩
  have D_l_two : Df K mg "_law_two" s_l_two := by
    obtain ⟨fd, F⟩ := c.def_ 8 (d := dd_l_two) rfl
    exact ⟨_, fd, F, He.glo_ok X G (c.fact 8 (f := .glo "_law_two") rfl)⟩
  have D_l_call : Df K mg "_law_call" s_l_call := by
    obtain ⟨fd, F⟩ := c.def_ 9 (d := dd_l_call) rfl
    exact ⟨_, fd, F, He.glo_ok X G (c.fact 9 (f := .glo "_law_call") rfl)⟩
  have D_l_calls : Df K mg "_law_calls" s_l_calls := by
    obtain ⟨fd, F⟩ := c.def_ 10 (d := dd_l_calls) rfl
    exact ⟨_, fd, F, He.glo_ok X G (c.fact 10 (f := .glo "_law_calls") rfl)⟩
  have D_l_all_kinds : Df K mg "_law_all_kinds" s_l_all_kinds := by
    obtain ⟨fd, F⟩ := c.def_ 11 (d := dd_l_all_kinds) rfl
    exact ⟨_, fd, F, He.glo_ok X G (c.fact 11 (f := .glo "_law_all_kinds") rfl)⟩
  have D_p_number_of : Df K mg "number_of" s_p_number_of := by
    obtain ⟨fd, F⟩ := c.def_ 12 (d := dd_p_number_of) rfl
    exact ⟨_, fd, F, He.glo_ok X G (c.fact 12 (f := .glo "number_of") rfl)⟩
  have D_pv_is_index : Df K mg "is_index" s_pv_is_index := by
    obtain ⟨fd, F⟩ := c.def_ 13 (d := dd_pv_is_index) rfl
    exact ⟨_, fd, F, He.glo_ok X G (c.fact 13 (f := .glo "is_index") rfl)⟩
  have D_pv_is_place : Df K mg "is_place" s_pv_is_place := by
    obtain ⟨fd, F⟩ := c.def_ 14 (d := dd_pv_is_place) rfl
    exact ⟨_, fd, F, He.glo_ok X G (c.fact 14 (f := .glo "is_place") rfl)⟩
  have D_p_on_wheel : Df K mg "on_wheel" s_p_on_wheel := by
    obtain ⟨fd, F⟩ := c.def_ 15 (d := dd_p_on_wheel) rfl
    exact ⟨_, fd, F, He.glo_ok X G (c.fact 15 (f := .glo "on_wheel") rfl)⟩
  have D_p_on_open : Df K mg "on_open" s_p_on_open := by
    obtain ⟨fd, F⟩ := c.def_ 16 (d := dd_p_on_open) rfl
    exact ⟨_, fd, F, He.glo_ok X G (c.fact 16 (f := .glo "on_open") rfl)⟩
  have D_p_moved_by : Df K mg "moved_by" s_p_moved_by := by
    obtain ⟨fd, F⟩ := c.def_ 17 (d := dd_p_moved_by) rfl
    exact ⟨_, fd, F, He.glo_ok X G (c.fact 17 (f := .glo "moved_by") rfl)⟩
  have D_p_passed : Df K mg "passed" s_p_passed := by
    obtain ⟨fd, F⟩ := c.def_ 18 (d := dd_p_passed) rfl
    exact ⟨_, fd, F, He.glo_ok X G (c.fact 18 (f := .glo "passed") rfl)⟩
  have D_p_moved : Df K mg "moved" s_p_moved := by
    obtain ⟨fd, F⟩ := c.def_ 19 (d := dd_p_moved) rfl
    exact ⟨_, fd, F, He.glo_ok X G (c.fact 19 (f := .glo "moved") rfl)⟩
  have D_p_place_of_moves : DfA K mg "place_of_moves" "place_of" s_p_place_of_moves := by
    obtain ⟨fd, F⟩ := c.def_ 20 (d := dd_p_place_of_moves) rfl
    exact ⟨_, fd, F, He.glo_ok X G (c.fact 20 (f := .glo "place_of_moves") rfl)⟩
  have D_p_moves_of : Df K mg "moves_of" s_p_moves_of := by
    obtain ⟨fd, F⟩ := c.def_ 21 (d := dd_p_moves_of) rfl
    exact ⟨_, fd, F, He.glo_ok X G (c.fact 21 (f := .glo "moves_of") rfl)⟩
  have D_p_is_call : Df K mg "is_call" s_p_is_call := by
    obtain ⟨fd, F⟩ := c.def_ 22 (d := dd_p_is_call) rfl
    exact ⟨_, fd, F, He.glo_ok X G (c.fact 22 (f := .glo "is_call") rfl)⟩
  have D_l_brought_open : Df K mg "_law_brought_open" s_l_brought_open := by
    obtain ⟨fd, F⟩ := c.def_ 23 (d := dd_l_brought_open) rfl
    exact ⟨_, fd, F, He.glo_ok X G (c.fact 23 (f := .glo "_law_brought_open") rfl)⟩
  have D_l_brought : Df K mg "_law_brought" s_l_brought := by
    obtain ⟨fd, F⟩ := c.def_ 24 (d := dd_l_brought) rfl
    exact ⟨_, fd, F, He.glo_ok X G (c.fact 24 (f := .glo "_law_brought") rfl)⟩
  have D_l_done : Df K mg "_law_done" s_l_done := by
    obtain ⟨fd, F⟩ := c.def_ 25 (d := dd_l_done) rfl
    exact ⟨_, fd, F, He.glo_ok X G (c.fact 25 (f := .glo "_law_done") rfl)⟩
  have D_l_right : Df K mg "_law_right" s_l_right := by
    obtain ⟨fd, F⟩ := c.def_ 26 (d := dd_l_right) rfl
    exact ⟨_, fd, F, He.glo_ok X G (c.fact 26 (f := .glo "_law_right") rfl)⟩
  have D_l_heard : Df K mg "_law_heard" s_l_heard := by
    obtain ⟨fd, F⟩ := c.def_ 27 (d := dd_l_heard) rfl
    exact ⟨_, fd, F, He.glo_ok X G (c.fact 27 (f := .glo "_law_heard") rfl)⟩
  have D_k_Line : DfM K "Line" "__init__" "Line.__init__" s_k_Line := ⟨c.def_ 29 (d := dd_k_Line) rfl⟩
  have D_m_Line_follow : DfM K "Line" "follow" "Line.follow" s_m_Line_follow := ⟨c.def_ 30 (d := dd_m_Line_follow) rfl⟩
  have D_i_Script : DfM K "Script" "__iter__" "Script.__iter__" s_i_Script := ⟨c.def_ 31 (d := dd_i_Script) rfl⟩
  have D_k_Script : DfM K "Script" "__init__" "Script.__init__" s_k_Script := ⟨c.def_ 32 (d := dd_k_Script) rfl⟩
  have D_m_Line_do : DfM K "Line" "do" "Line.do" s_m_Line_do := ⟨c.def_ 33 (d := dd_m_Line_do) rfl⟩
  have D_mn_Line_order : DfM K "Line" "order" "Line.order" s_mn_Line_order := ⟨c.def_ 34 (d := dd_mn_Line_order) rfl⟩
  have D_m_Line_leaders : DfM K "Line" "leaders" "Line.leaders" s_m_Line_leaders := ⟨c.def_ 35 (d := dd_m_Line_leaders) rfl⟩
  have D_i_Line : DfM K "Line" "__iter__" "Line.__iter__" s_i_Line := ⟨c.def_ 36 (d := dd_i_Line) rfl⟩
  have D_m_Line___len__ : DfM K "Line" "__len__" "Line.__len__" s_m_Line___len__ := ⟨c.def_ 37 (d := dd_m_Line___len__) rfl⟩
  have D_m_Line_is_home : DfM K "Line" "is_home" "Line.is_home" s_m_Line_is_home := ⟨c.def_ 38 (d := dd_m_Line_is_home) rfl⟩
  have D_m_Line_place_of : DfM K "Line" "place_of" "Line.place_of" s_m_Line_place_of := ⟨c.def_ 39 (d := dd_m_Line_place_of) rfl⟩
  have D_m_Line_at : DfM K "Line" "at" "Line.at" s_m_Line_at := ⟨c.def_ 40 (d := dd_m_Line_at) rfl⟩
  have D_m_Line_row_of : DfM K "Line" "row_of" "Line.row_of" s_m_Line_row_of := ⟨c.def_ 41 (d := dd_m_Line_row_of) rfl⟩
  have D_mm_Line_order : DfM K "Line" "order" "Line.order" s_mm_Line_order := ⟨c.def_ 42 (d := dd_mm_Line_order) rfl⟩
  have D_m_Script_files : DfP K "Script" "files" "Script.files" s_m_Script_files := ⟨cX.pr 0 (d := pd_m_Script_files) rfl⟩
  have D_m_Line_rows : DfP K "Line" "rows" "Line.rows" s_m_Line_rows := ⟨cX.pr 1 (d := pd_m_Line_rows) rfl⟩
  have D_m_Line_files : DfP K "Line" "files" "Line.files" s_m_Line_files := ⟨cX.pr 2 (d := pd_m_Line_files) rfl⟩
  obtain ⟨fd, Fl⟩ := c.def_ 28 (d := dd_law) rfl
  have e := hfa.symm.trans (He.glo_ok X G (c.fact 28 (f := .glo "law") rfl))
  cases e
  have bd := FunD.bindsA (ps := ["_law_script"]) Fl fun _ _ _ _ _ _ us hl => match us, hl with | [_], _ => rfl
  refine ⟨fd, fun s v => bd s [v] rfl, fun base _ _ TB => ?_⟩
  have tb_law := TB "law" (by decide)
  have c_l_bag : Cal P w K mg base "_law_bag" 1 1 sp_l_bag := (d_l_bag D_l_bag b_abs).spec ok_l_bag
  have c_l_take : Cal P w K mg base "_law_take" 1 2 sp_l_take := (d_l_take D_l_take b_len b_int).spec ok_l_take
  have c_pv_is_integer : Cal P w K mg base "is_integer" 1 1 sp_pv_is_integer := (d_pv_is_integer D_pv_is_integer b_isinstance b_int b_bool kf_Script_Line).spec ok_pv_is_integer
  have c_p_is_integer : Cal P w K mg base "is_integer" 1 1 sp_p_is_integer := c_pv_is_integer.spec altv_p_is_integer
  have c_p_is_files : Cal P w K mg base "is_files" 2 1 sp_p_is_files := (d_p_is_files D_p_is_files c_p_is_integer).spec ok_p_is_files
  have c_p_is_rows : Cal P w K mg base "is_rows" 2 1 sp_p_is_rows := (d_p_is_rows D_p_is_rows c_p_is_integer).spec ok_p_is_rows
  have c_k_Line : CalK P w K mg base "Line" 3 2 sp_k_Line := (d_k_Line D_k_Line (He.mkr_ok (c.fact 51 (f := .mkr "Line") rfl)) (He.glo_ok X G (c.fact 46 (f := .glo "Line") rfl)) b_list b_range k_MOST_ROWS a_width_Line a_deep a_standing c_p_is_files c_p_is_rows).spec ok_k_Line
  have c_l_one : Cal P w K mg base "_law_one" 2 2 sp_l_one := (d_l_one D_l_one b_len c_l_take).spec ok_l_one
  have c_l_number : Cal P w K mg base "_law_number" 2 2 sp_l_number := (d_l_number D_l_number c_l_take).spec ok_l_number
  have c_l_mixed : Cal P w K mg base "_law_mixed" 2 2 sp_l_mixed := (d_l_mixed D_l_mixed b_len c_l_take).spec ok_l_mixed
  have c_l_two : Cal P w K mg base "_law_two" 3 2 sp_l_two := (d_l_two D_l_two b_list b_range c_l_mixed).spec ok_l_two
  have c_l_call : Cal P w K mg base "_law_call" 4 4 sp_l_call := (d_l_call D_l_call c_l_one c_l_number c_l_take c_l_two).spec ok_l_call
  have c_l_calls : Cal P w K mg base "_law_calls" 5 4 sp_l_calls := (d_l_calls D_l_calls b_range b_abs c_l_call).spec ok_l_calls
  have c_l_all_kinds : Cal P w K mg base "_law_all_kinds" 1 0 sp_l_all_kinds := (d_l_all_kinds D_l_all_kinds).spec ok_l_all_kinds
  have c_m_Script_files : CalP P w K mg base "Script" "files" 1 sp_m_Script_files := (d_m_Script_files D_m_Script_files cl_Script a_width_Script).spec ok_m_Script_files
  have c_m_Line_follow : CalM P w K mg base "Line" "follow" 1 1 sp_m_Line_follow := (d_m_Line_follow D_m_Line_follow cl_Line (He.meth_ok (c.fact 52 (f := .meth "Line" "follow") rfl)) b_len b_enumerate a_standing).spec ok_m_Line_follow
  have c_p_number_of : Cal P w K mg base "number_of" 1 2 sp_p_number_of := (d_p_number_of D_p_number_of).spec ok_p_number_of
  have c_pv_is_index : Cal P w K mg base "is_index" 2 2 sp_pv_is_index := (d_pv_is_index D_pv_is_index c_pv_is_integer).spec ok_pv_is_index
  have c_p_is_index : Cal P w K mg base "is_index" 2 2 sp_p_is_index := c_pv_is_index.spec altv_p_is_index
  have c_pv_is_place : Cal P w K mg base "is_place" 3 3 sp_pv_is_place := (d_pv_is_place D_pv_is_place b_isinstance b_tuple b_len kf_Script_Line c_p_is_index).spec ok_pv_is_place
  have c_p_is_place : Cal P w K mg base "is_place" 3 3 sp_p_is_place := c_pv_is_place.spec altv_p_is_place
  have c_i_Script : CalI P w K mg base "Script" "steps" 1 := d_i_Script D_i_Script cl_Script (He.meth_ok (c.fact 53 (f := .meth "Script" "__iter__") rfl)) (He.noat_ok (c.fact 54 (f := .noat "Script" "steps") rfl)) b_iter
  have c_p_on_wheel : Cal P w K mg base "on_wheel" 1 3 sp_p_on_wheel := (d_p_on_wheel D_p_on_wheel).spec ok_p_on_wheel
  have c_p_on_open : Cal P w K mg base "on_open" 1 4 sp_p_on_open := (d_p_on_open D_p_on_open).spec ok_p_on_open
  have c_p_moved_by : Cal P w K mg base "moved_by" 2 4 sp_p_moved_by := (d_p_moved_by D_p_moved_by c_p_on_wheel c_p_on_open).spec ok_p_moved_by
  have c_p_passed : Cal P w K mg base "passed" 4 3 sp_p_passed := (d_p_passed D_p_passed c_p_is_place c_m_Script_files c_i_Script c_p_moved_by).spec ok_p_passed
  have c_p_moved : Cal P w K mg base "moved" 5 3 sp_p_moved := (d_p_moved D_p_moved c_p_passed).spec ok_p_moved
  have c_p_place_of_moves : Cal P w K mg base "place_of_moves" 1 2 sp_p_place_of := (d_p_place_of_moves D_p_place_of_moves).spec ok_p_place_of
  have c_p_moves_of : Cal P w K mg base "moves_of" 6 2 sp_p_moves_of := (d_p_moves_of D_p_moves_of b_range c_m_Script_files c_p_number_of c_p_moved c_p_place_of_moves).spec ok_p_moves_of
  have c_p_is_call : Cal P w K mg base "is_call" 3 2 sp_p_is_call := (d_p_is_call D_p_is_call b_isinstance b_tuple b_len b_str b_int b_all k_BY_FILES k_BY_NUMBER c_p_is_index c_p_is_integer).spec ok_p_is_call
  have c_k_Script : CalK P w K mg base "Script" 4 2 sp_k_Script := (d_k_Script D_k_Script (He.mkr_ok (c.fact 55 (f := .mkr "Script") rfl)) (He.glo_ok X G (c.fact 48 (f := .glo "Script") rfl)) b_isinstance b_list b_tuple b_all a_width_Script a_steps kf_ c_p_is_files c_p_is_call).spec ok_k_Script
  have c_m_Line_do : CalM P w K mg base "Line" "do" 7 1 sp_m_Line_do := (d_m_Line_do D_m_Line_do cl_Line (He.meth_ok (c.fact 56 (f := .meth "Line" "do") rfl)) b_isinstance a_width_Line a_deep kf_Script g_Script c_m_Script_files c_m_Line_follow c_p_moves_of c_p_is_call c_k_Script).spec ok_m_Line_do
  have c_l_brought_open : Cal P w K mg base "_law_brought_open" 1 4 sp_l_brought_open := (d_l_brought_open D_l_brought_open b_int).spec ok_l_brought_open
  have c_l_brought : Cal P w K mg base "_law_brought" 2 4 sp_l_brought := (d_l_brought D_l_brought b_int c_l_brought_open).spec ok_l_brought
  have c_l_done : Cal P w K mg base "_law_done" 3 4 sp_l_done := (d_l_done D_l_done b_len b_enumerate b_int c_l_brought).spec ok_l_done
  have c_mn_Line_order : CalM P w K mg base "Line" "order" 1 0 sp_mn_Line_order := (d_mn_Line_order D_mn_Line_order cl_Line (He.meth_ok (c.fact 57 (f := .meth "Line" "order") rfl)) b_list a_standing).spec ok_mn_Line_order
  have c_m_Line_leaders : CalM P w K mg base "Line" "leaders" 1 0 sp_m_Line_leaders := (d_m_Line_leaders D_m_Line_leaders cl_Line (He.meth_ok (c.fact 58 (f := .meth "Line" "leaders") rfl)) a_standing a_width_Line).spec ok_m_Line_leaders
  have c_i_Line : CalI P w K mg base "Line" "standing" 1 := d_i_Line D_i_Line cl_Line (He.meth_ok (c.fact 59 (f := .meth "Line" "__iter__") rfl)) (He.noat_ok (c.fact 60 (f := .noat "Line" "standing") rfl)) b_iter
  have c_m_Line___len__ : CalM P w K mg base "Line" "__len__" 1 0 sp_m_Line___len__ := (d_m_Line___len__ D_m_Line___len__ cl_Line (He.meth_ok (c.fact 61 (f := .meth "Line" "__len__") rfl)) b_len a_standing).spec ok_m_Line___len__
  have c_m_Line_is_home : CalM P w K mg base "Line" "is_home" 1 0 sp_m_Line_is_home := (d_m_Line_is_home D_m_Line_is_home cl_Line (He.meth_ok (c.fact 62 (f := .meth "Line" "is_home") rfl)) b_list b_range b_len a_standing).spec ok_m_Line_is_home
  have c_m_Line_rows : CalP P w K mg base "Line" "rows" 1 sp_m_Line_rows := (d_m_Line_rows D_m_Line_rows cl_Line a_deep).spec ok_m_Line_rows
  have c_m_Line_files : CalP P w K mg base "Line" "files" 1 sp_m_Line_files := (d_m_Line_files D_m_Line_files cl_Line a_width_Line).spec ok_m_Line_files
  have c_m_Line_place_of : CalM P w K mg base "Line" "place_of" 3 1 sp_m_Line_place_of := (d_m_Line_place_of D_m_Line_place_of cl_Line (He.meth_ok (c.fact 63 (f := .meth "Line" "place_of") rfl)) b_len b_super a_standing a_width_Line er1_NoPupil c_pv_is_index c_p_place_of_moves).spec ok_m_Line_place_of
  have c_m_Line_at : CalM P w K mg base "Line" "at" 4 1 sp_m_Line_at := (d_m_Line_at D_m_Line_at cl_Line (He.meth_ok (c.fact 64 (f := .meth "Line" "at") rfl)) b_super a_deep a_width_Line a_standing er1_NoPlace c_pv_is_place c_p_number_of).spec ok_m_Line_at
  have c_m_Line_row_of : CalM P w K mg base "Line" "row_of" 4 1 sp_m_Line_row_of := (d_m_Line_row_of D_m_Line_row_of cl_Line (He.meth_ok (c.fact 65 (f := .meth "Line" "row_of") rfl)) b_sorted a_standing a_width_Line c_m_Line_place_of).spec ok_m_Line_row_of
  have c_l_right : Cal P w K mg base "_law_right" 5 5 sp_l_right := (d_l_right D_l_right b_repr b_list b_len b_sorted b_int c_l_mixed c_mn_Line_order c_m_Line_leaders c_i_Line c_m_Line___len__ c_m_Line_is_home c_m_Line_rows c_m_Line_files c_l_take c_m_Line_place_of c_m_Line_at c_m_Line_row_of).spec ok_l_right
  have c_l_heard : CalL P w K mg base "_law_heard" hI_l_heard := d_l_heard D_l_heard b_isinstance g_PupilError cat_PupilError ise_ g_NoPlace g_NoPupil xf_place xf_pupil
  have c_mm_Line_order : CalM P w K mg base "Line" "order" 1 0 sp_m_Line_order := (d_mm_Line_order D_mm_Line_order cl_Line (He.meth_ok (c.fact 57 (f := .meth "Line" "order") rfl)) b_list a_standing).spec ok_m_Line_order
  exact g_law Fl rfl b_range b_list b_repr tb_law sys_ c_l_bag c_l_take c_k_Line c_l_calls c_l_all_kinds c_m_Line_do c_l_done c_l_right c_l_heard c_m_Line_at c_m_Line_place_of c_m_Line_row_of c_mm_Line_order
theorem tabs_ok {w : World} {h : Heap} {K : PySem.W.Frag} (cX : SaysS fa fn tsL [("law", none)] exL prL spL w h K) : tabNB K ["law"] = true := by
  have ex := cX.x.more
  simp only [exL, Bool.and_eq_true] at ex
  exact ex.1.2
end Law
open PyProof.Rows PySem.Calls PySem.W PySem
theorem PySem.Challenge.cw_pupilpairs_k23_lines_told_holds : PySem.Challenge.rw_pupilpairs_k23_lines_told.Holds := by
  w_on; o_law
  refine HandSHeadRun.head_any (r := OpenLaw.row PySem.Challenge.rw_pupilpairs_k23_lines_told) (q := view (OpenLaw.row PySem.Challenge.rw_pupilpairs_k23_lines_told).prog [50]) (H := Law0.hkL) (ob := Law0.obL) (M := 8000) (loose := Law0.loose) (d := HandSHeadRun.topDef (OpenLaw.row PySem.Challenge.rw_pupilpairs_k23_lines_told).prog 50) (kwd := []) Law0.obL_eq
    (by kernel_rfl) (fun s => by kernel_rfl) Law0.run (by kernel_rfl) (by kernel_rfl) (by kernel_rfl) (by rfl) (by first | assumption | decide +kernel) (by decide +kernel) ⟨rfl, rfl, rfl, rfl, rfl, by decide +kernel⟩ ?hw ?hc
  case hw => w_witness2
  case hc =>
    refine Sh.walkT (l := PySem.Challenge.rw_pupilpairs_k23_lines_told) (n := 63) (k := 8) (x := "_law_script") rfl (by decide) (by kernel_rfl) ⟨rfl, by decide, by decide⟩ ?T
    intro w mg fa h Y G hmg0
    obtain ⟨K, KX, c⟩ := Y
    have hmg : mg ("law" : PySem.Str) = some (.ref fa) := by
      have e : (HandSHeadRun.topDef (OpenLaw.row PySem.Challenge.rw_pupilpairs_k23_lines_told).prog 50).name = ("law" : PySem.Str) := by kernel_rfl
      rw [← e]
      exact hmg0
    obtain ⟨fd, hb, hF⟩ := Law.facts (P := (PySem.Challenge.rw_pupilpairs_k23_lines_told).prog) (w := w) KX G hmg c (by kernel_rfl) (by kernel_rfl)
    exact ⟨K, fd, Sh.bodyI 10 Sh.ib_law, ["law"], KX, hb, fun c' hc => ⟨c.x.empty (c', none) (by simpa using hc), c.x.out (c', none) (by simpa using hc), PySem.W.codeHd_of_K KX (c.x.hd (c', none) (by simpa using hc))⟩, Law.tabs_ok c, fun ns hl S hS => Sh.pure_law ns hl S hS, hF⟩
