import PyProof.Rows.All
import Wide.All
import OpenK.AllK
import Wide.FinOn
import HandS.ForMost
import HandS.Walk
import HandS.Zip
import HandS.Comp
import HandS.Defaults
import HandS.IsInst
import HandS.Wide
import HandS.WideBits
import HandS.Gcd
import HandS.Conv
import HandS.Sort
import HandS.SortInts
import HandS.Replace
import HandS.Strs
import HandS.Style
import HandS.TupAny
import HandS.WordsDict
import PyProof.StrLawsFirst
import PyProof.ListStr
import PyProof.Rows.SortShellAny
import PyProof.Draws
import HandS.Dict
import HandS.Small
import HandS.TupLe
import HandS.More
import PyProof.CollectStr
import KE.DataMinMax
import PyProof.EnumMake
import KE.KTupSum
import KE.KDictZip
import PyProof.ListRange
import PyProof.Rows.StrRev
import KE.DataFind
import HandS.DictComp
import HandS.Iter
import HandS.SortKw
import HandS.Text
import HandS.TupMul
import PyProof.StrOps2
import PyProof.TupleOfSeq
import HandS.ReplaceLit
import PyProof.StrLawsChain
import PyProof.StrLawsTight
import PyProof.StrLawsReplace
import HandS.SetFor
import HandS.ListItems
import KE.KIndexOf
import KE.KDictPairs
import PySem.Challenge.RW_cordwheels_k24_whole_texts_columned
set_option Elab.async false
set_option linter.all false
set_option maxRecDepth 100000
set_option maxHeartbeats 4000000
namespace VL
open PySem PySem.Spec PyProof.Rows L2

/-! ### data -/
inductive Kd where
  | tmp | own | lock | froz
  deriving DecidableEq
abbrev DKey := Sum Int (List Nat)
inductive D where
  | non | bl (b : Bool) | int (i : Int) | str (l : List Nat) | tup (xs : List D) | seq (k : Kd) (xs : List D) | map (k : Kd) (kvs : List (DKey × D)) | mapT (k : Kd) (kvs : List (List DKey × D)) | ins (k : Kd) (C : Addr) (fs : List (Str × D)) | cache (φ : Addr → Heap → Prop) | val (v : V) | exn (a dd C : Addr) (f : Str) (d : D) | tupN (xs : List D)
abbrev VEnv := List (Option D)
def mkS (l : List Nat) : Str := ⟨l.toArray⟩
def kmap : DKey → Key
  | .inl i => .inl i
  | .inr l => .inr (mkS l)
def D.kd : D → Kd
  | .seq k _ => k
  | .map k _ => k
  | .mapT k _ => k
  | .ins k _ _ => k
  | _ => .froz
def D.brw (d : D) : Bool := match d.kd with
  | .own => true
  | .lock => true
  | _ => false
def D.isTmp (d : D) : Bool := match d.kd with
  | .tmp => true
  | _ => false
def D.imm (d : D) : Bool := match d.kd with
  | .froz => true
  | _ => false
def D.to (k : Kd) : D → D
  | .seq _ xs => .seq k xs
  | .map _ xs => .map k xs
  | .mapT _ xs => .mapT k xs
  | .ins _ C xs => .ins k C xs
  | d => d
theorem mkS_cps (s : Str) : mkS s.cps.toList = s := rfl
theorem mkS_inj {a b : List Nat} (h : mkS a = mkS b) : a = b := by
  have := congrArg (fun s : Str => s.cps.toList) h
  simpa [mkS] using this
theorem mkS_len (l : List Nat) : (mkS l).length = l.length := by simp [mkS, Str.length]
theorem mkS_app (a b : List Nat) : mkS a ++ mkS b = mkS (a ++ b) := by
  show Str.append (mkS a) (mkS b) = mkS (a ++ b)
  simp [Str.append, mkS]
theorem kmap_inj {a b : DKey} (h : kmap a = kmap b) : a = b := by
  cases a <;> cases b <;> simp only [kmap, Sum.inl.injEq, Sum.inr.injEq, reduceCtorEq] at h ⊢
  · exact h
  · exact mkS_inj h

def tkm (l : List DKey) : List Key := l.map kmap
theorem tkm_inj : ∀ {a b : List DKey}, tkm a = tkm b → a = b
  | [], [], _ => rfl
  | x :: a, y :: b, h => by
    unfold tkm at h
    rw [List.map_cons, List.map_cons, List.cons.injEq] at h
    rw [kmap_inj h.1, tkm_inj (a := a) (b := b) h.2]
  | [], _ :: _, h => by cases h
  | _ :: _, [], h => by cases h
/-- what a tuple of the written part has, and no key -/
def fixB (ds : List D) : Bool := ds.any fun
  | .int i => decide (i = 10)
  | .str _ => true
  | _ => false

/-- a dict that holds some of the entries of tab -/
def CacheAt (P : Program) (w : World) (tab : List (List Nat × List Nat)) (a : Addr) (h : Heap) : Prop :=
  ∃ kvs : List (List Nat × List Nat), (∀ p ∈ kvs, p ∈ tab) ∧ (kvs.map (·.1)).Nodup ∧ ObjOk P w (fun _ => none) h a (.dK (kvs.map fun p => (.inr (mkS p.1), .str (mkS p.2))))
/-! ### how values stand in the heap -/
/-- a list, a tuple of the written part -/
def WL (K : PySem.W.Frag) (a : Addr) (xs : List V) : Prop := ∀ H, SqL K H a xs
def WT (K : PySem.W.Frag) (a : Addr) (xs : List V) : Prop := ∀ H, SqT K H a xs
section
variable (K : PySem.W.Frag) (H : Hp) (M : Addr → Prop)
inductive R : V → D → Prop where
  | non : R .non .non
  | bl (b) : R (.bl b) (.bl b)
  | int (i) : R (.int i) (.int i)
  | str (l) : R (.str (mkS l)) (.str l)
  | tup {a vs ds} (h : (H a = some (.tup vs) ∧ ¬ M a) ∨ (WT K a vs ∧ fixB ds = true)) (hl : vs.length = ds.length) (hi : ∀ (i : Nat) v d, vs[i]? = some v → ds[i]? = some d → R v d) : R (.ref a) (.tup ds)
  | seq {a vs ds} (h : (Rd H a (.lst vs) ∧ ¬ M a) ∨ WL K a vs) (hl : vs.length = ds.length) (hi : ∀ (i : Nat) v d, vs[i]? = some v → ds[i]? = some d → R v d) : R (.ref a) (.seq .froz ds)
  | map {a} {kvs : List (Key × V)} {kds : List (DKey × D)} (h : H a = some (.dK kvs) ∧ ¬ M a) (hk : kvs.map (·.1) = kds.map (fun p => kmap p.1)) (hl : kvs.length = kds.length) (hi : ∀ (i : Nat) v d, (kvs.map (·.2))[i]? = some v → (kds.map (·.2))[i]? = some d → R v d) : R (.ref a) (.map .froz kds)
  | mapT {a} {kvs : List (List Key × V)} {kds : List (List DKey × D)} (h : H a = some (.dT kvs) ∧ ¬ M a) (hk : kvs.map (·.1) = kds.map (fun p => tkm p.1)) (hl : kvs.length = kds.length) (hi : ∀ (i : Nat) v d, (kvs.map (·.2))[i]? = some v → (kds.map (·.2))[i]? = some d → R v d) : R (.ref a) (.mapT .froz kds)
  | ins {a dx C} {vs : List (Str × V)} {fs : List (Str × D)} (h : H a = some (.ins C dx vs) ∧ ¬ M a) (h2 : H dx = some (.own a) ∧ ¬ M dx) (hk : vs.map (·.1) = fs.map (·.1)) (hl : vs.length = fs.length) (hi : ∀ (i : Nat) v d, (vs.map (·.2))[i]? = some v → (fs.map (·.2))[i]? = some d → R v d) : R (.ref a) (.ins .froz C fs)
  | cache {a} {φ : Addr → Heap → Prop} (h : H a = some (.ext (φ a)) ∧ ¬ M a) : R (.ref a) (.cache φ)
  | val {v} (h : ∀ a, v ≠ .ref a) : R v (.val v)
  | exn {a dd C fs f v d} (h : H dd = some (.xd fs) ∧ ¬ M dd) (hl : fs.lookup f = some v) (hi : R v d) : R (.ref a) (.exn a dd C f d)
  | tupN {a} {o : Obj} {vs ds} (h : H a = some (.frz o (.tup vs)) ∧ ¬ M a) (hc : o.cls = .type "tuple" ∧ o.dict = none) (hl : vs.length = ds.length) (hi : ∀ (i : Nat) v d, vs[i]? = some v → ds[i]? = some d → R v d) : R (.ref a) (.tupN ds)
def Rs (vs : List V) (ds : List D) : Prop := vs.length = ds.length ∧ ∀ (i : Nat) v d, vs[i]? = some v → ds[i]? = some d → R K H M v d
def Rk (kvs : List (Key × V)) (kds : List (DKey × D)) : Prop := kvs.map (·.1) = kds.map (fun p => kmap p.1) ∧ Rs K H M (kvs.map (·.2)) (kds.map (·.2))
def RkT (kvs : List (List Key × V)) (kds : List (List DKey × D)) : Prop := kvs.map (·.1) = kds.map (fun p => tkm p.1) ∧ Rs K H M (kvs.map (·.2)) (kds.map (·.2))
/-- the cell at a holds the container d -/
def RC (a : Addr) (d : D) : Prop := match d with
  | .seq _ ds => ∃ vs, H a = some (.lst vs) ∧ Rs K H M vs ds
  | .map _ kds => ∃ kvs, H a = some (.dK kvs) ∧ Rk K H M kvs kds
  | .mapT _ kds => ∃ kvs, H a = some (.dT kvs) ∧ RkT K H M kvs kds
  | .ins _ C fs => ∃ dx vs, H a = some (.ins C dx vs) ∧ (H dx = some (.own a) ∧ ¬ M dx) ∧ vs.map (·.1) = fs.map (·.1) ∧ Rs K H M (vs.map (·.2)) (fs.map (·.2))
  | _ => False
end
section
variable {K : PySem.W.Frag} {H H' : Hp} {M M' : Addr → Prop} {v : V} {d : D} {vs ws : List V} {ds es : List D}
theorem R.imm (r : R K H M v d) : d.imm = true := by cases r <;> rfl
theorem rd_ne {a : Addr} {u : HO} (h : Rd H a u) : H a ≠ none := by
  rcases h with h | ⟨o, h⟩ <;> rw [h] <;> exact fun z => by cases z
theorem rd_step {a : Addr} {u : HO} (f : ∀ b x, H b = some x → ¬ M b → H' b = some x) (h : Rd H a u) (n : ¬ M a) : Rd H' a u := by
  rcases h with h | ⟨o, h⟩
  · exact .inl (f _ _ h n)
  · exact .inr ⟨o, f _ _ h n⟩
theorem R.mono (f : ∀ b x, H b = some x → ¬ M b → H' b = some x) (m : ∀ b, M' b → M b ∨ H b = none) (r : R K H M v d) : R K H' M' v d := by
  have go : ∀ {a : Addr}, H a ≠ none → ¬ M a → ¬ M' a := fun h n z => (m _ z).elim n h
  induction r with
  | non => exact .non
  | bl b => exact .bl b
  | int i => exact .int i
  | str l => exact .str l
  | tup h hl hi ih => exact .tup (h.imp (fun ⟨h, n⟩ => ⟨f _ _ h n, go (by rw [h]; exact fun z => by cases z) n⟩) id) hl ih
  | seq h hl hi ih => exact .seq (h.imp (fun ⟨h, n⟩ => ⟨rd_step f h n, go (rd_ne h) n⟩) id) hl ih
  | map h hk hl hi ih => exact .map ⟨f _ _ h.1 h.2, go (by rw [h.1]; exact fun z => by cases z) h.2⟩ hk hl ih
  | mapT h hk hl hi ih => exact .mapT ⟨f _ _ h.1 h.2, go (by rw [h.1]; exact fun z => by cases z) h.2⟩ hk hl ih
  | ins h h2 hk hl hi ih => exact .ins ⟨f _ _ h.1 h.2, go (by rw [h.1]; exact fun z => by cases z) h.2⟩ ⟨f _ _ h2.1 h2.2, go (by rw [h2.1]; exact fun z => by cases z) h2.2⟩ hk hl ih
  | cache h => exact .cache ⟨f _ _ h.1 h.2, go (by rw [h.1]; exact fun z => by cases z) h.2⟩
  | val h => exact .val h
  | exn h hl hi ih => exact .exn ⟨f _ _ h.1 h.2, go (by rw [h.1]; exact fun z => by cases z) h.2⟩ hl ih
  | tupN h hc hl hi ih => exact .tupN ⟨f _ _ h.1 h.2, go (by rw [h.1]; exact fun z => by cases z) h.2⟩ hc hl ih
theorem Rs.mono (f : ∀ b x, H b = some x → ¬ M b → H' b = some x) (m : ∀ b, M' b → M b ∨ H b = none) (r : Rs K H M vs ds) : Rs K H' M' vs ds := ⟨r.1, fun i v d a b => (r.2 i v d a b).mono f m⟩
theorem Rs.nil : Rs K H M [] [] := ⟨rfl, fun i v d h => by simp at h⟩
theorem Rs.cons (r : R K H M v d) (t : Rs K H M vs ds) : Rs K H M (v :: vs) (d :: ds) := ⟨by simp [t.1], fun i x e a b => by
  cases i with
  | zero => simp at a b; subst a; subst b; exact r
  | succ i => exact t.2 i x e (by simpa using a) (by simpa using b)⟩
theorem Rs.uncons (t : Rs K H M (v :: vs) (d :: ds)) : R K H M v d ∧ Rs K H M vs ds := ⟨t.2 0 v d rfl rfl, by simpa using t.1, fun i x e a b => t.2 (i + 1) x e (by simpa using a) (by simpa using b)⟩
theorem Rs.append (a : Rs K H M vs ds) (b : Rs K H M ws es) : Rs K H M (vs ++ ws) (ds ++ es) := ⟨by simp [a.1, b.1], fun i x e h1 h2 => by
  by_cases hi : i < vs.length
  · rw [List.getElem?_append_left hi] at h1
    rw [List.getElem?_append_left (a.1 ▸ hi)] at h2
    exact a.2 i x e h1 h2
  · rw [List.getElem?_append_right (by omega)] at h1
    rw [List.getElem?_append_right (by have := a.1; omega), ← a.1] at h2
    exact b.2 _ x e h1 h2⟩
theorem Rs.get (r : Rs K H M vs ds) {i : Nat} (h : ds[i]? = some d) : ∃ v, vs[i]? = some v ∧ R K H M v d := by
  obtain ⟨hi, _⟩ := List.getElem?_eq_some_iff.mp h
  have hi' : i < vs.length := by rw [r.1]; exact hi
  exact ⟨vs[i], List.getElem?_eq_getElem hi', r.2 i _ d (List.getElem?_eq_getElem hi') h⟩
theorem Rs.getV (r : Rs K H M vs ds) {i : Nat} (h : vs[i]? = some v) : ∃ d, ds[i]? = some d ∧ R K H M v d := by
  obtain ⟨hi, _⟩ := List.getElem?_eq_some_iff.mp h
  have hi' : i < ds.length := by rw [← r.1]; exact hi
  exact ⟨ds[i], List.getElem?_eq_getElem hi', r.2 i v _ h (List.getElem?_eq_getElem hi')⟩
theorem Rs.sub (r : Rs K H M vs ds) (g : Nat → Nat) (hl : ws.length = es.length) (hw : ∀ i v, ws[i]? = some v → vs[g i]? = some v) (he : ∀ i d, es[i]? = some d → ds[g i]? = some d) : Rs K H M ws es :=
  ⟨hl, fun i v d a b => r.2 (g i) v d (hw i v a) (he i d b)⟩
theorem Rs.take (r : Rs K H M vs ds) (n : Nat) : Rs K H M (vs.take n) (ds.take n) := by
  refine r.sub id (by simp [r.1]) (fun i v h => ?_) fun i d h => ?_
  · rw [List.getElem?_take] at h
    split at h
    · exact h
    · cases h
  · rw [List.getElem?_take] at h
    split at h
    · exact h
    · cases h
theorem Rs.drop (r : Rs K H M vs ds) (n : Nat) : Rs K H M (vs.drop n) (ds.drop n) := by
  refine r.sub (fun i => n + i) (by simp [r.1]) (fun i v h => ?_) fun i d h => ?_
  · rw [List.getElem?_drop] at h; exact h
  · rw [List.getElem?_drop] at h; exact h
theorem Rs.set (r : Rs K H M vs ds) (q : R K H M v d) (n : Nat) : Rs K H M (vs.set n v) (ds.set n d) := ⟨by simp [r.1], fun i x e a b => by
  rw [List.getElem?_set] at a b
  split at a
  · rename_i h
    subst h
    have h2 : n < ds.length := by
      split at a
      · rename_i h; rw [← r.1]; exact h
      · cases a
    rw [if_pos rfl, if_pos h2] at b
    rw [if_pos (by rw [r.1]; exact h2)] at a
    cases a; cases b
    exact q
  · rename_i h
    rw [if_neg h] at b
    exact r.2 i x e a b⟩
theorem RC.mono {a : Addr} (ha : H' a = H a) (f : ∀ b x, H b = some x → ¬ M b → H' b = some x) (m : ∀ b, M' b → M b ∨ H b = none) (r : RC K H M a d) : RC K H' M' a d := by
  cases d <;> first
    | exact r
    | (obtain ⟨vs, h, q⟩ := r; exact ⟨vs, by rw [ha]; exact h, q.mono f m⟩)
    | (obtain ⟨vs, h, q1, q⟩ := r; exact ⟨vs, by rw [ha]; exact h, q1, q.mono f m⟩)
    | (obtain ⟨dx, vs, h, ⟨h2, n2⟩, q1, q⟩ := r; exact ⟨dx, vs, by rw [ha]; exact h, ⟨f _ _ h2 n2, fun z => (m _ z).elim n2 (by rw [h2]; exact fun z => by cases z)⟩, q1, q.mono f m⟩)
theorem RC.ne {a : Addr} (r : RC K H M a d) : H a ≠ none := by
  cases d <;> first
    | exact r.elim
    | (obtain ⟨vs, h, q⟩ := r; rw [h]; exact fun z => by cases z)
    | (obtain ⟨dx, vs, h, q⟩ := r; rw [h]; exact fun z => by cases z)
theorem RC.to {a : Addr} {k : Kd} (r : RC K H M a d) : RC K H M a (d.to k) := by cases d <;> exact r
/-- a container that nobody writes any more -/
theorem RC.froz {a : Addr} (r : RC K H M a d) (n : ¬ M a) : R K H M (.ref a) (d.to .froz) := by
  cases d <;> first
    | exact r.elim
    | (obtain ⟨vs, h, q⟩ := r; exact .seq (.inl ⟨.inl h, n⟩) q.1 q.2)
    | (obtain ⟨vs, h, q1, q⟩ := r; exact .map ⟨h, n⟩ q1 (by have := q.1; simpa using this) q.2)
    | (obtain ⟨vs, h, q1, q⟩ := r; exact .mapT ⟨h, n⟩ q1 (by have := q.1; simpa using this) q.2)
    | (obtain ⟨dx, vs, h, h2, q1, q⟩ := r; exact .ins ⟨h, n⟩ h2 q1 (by have := q.1; simpa using this) q.2)
/-- what a list is read as -/
theorem R.sql {a : Addr} (r : R K H M (.ref a) (.seq .froz ds)) : ∃ vs, SqL K H a vs ∧ Rs K H M vs ds := by
  cases r with
  | seq h hl hi => exact ⟨_, h.elim (fun h => .inl h.1) (fun h => h H), hl, hi⟩
theorem R.tupI (r : R K H M v (.tup ds)) : ∃ a vs, v = .ref a ∧ SqT K H a vs ∧ Rs K H M vs ds := by
  cases r with
  | tup h hl hi => exact ⟨_, _, rfl, h.elim (fun h => .inl (.inl h.1)) (fun h => h.1 H), hl, hi⟩
theorem R.intI {i : Int} (r : R K H M v (.int i)) : v = .int i := by cases r; rfl
theorem R.strI {l : List Nat} (r : R K H M v (.str l)) : v = .str (mkS l) := by cases r; rfl
theorem R.blI {b : Bool} (r : R K H M v (.bl b)) : v = .bl b := by cases r; rfl
theorem R.nonI (r : R K H M v .non) : v = .non := by cases r; rfl
end

/-! ### slots -/
def OwnAt (σ : L2.St) (ρ : VEnv) (i : Nat) (a : Addr) : Prop := σ[i]? = some (some (.ref a)) ∧ ∃ d, ρ[i]? = some (some d) ∧ d.brw = true
def Own (σ : L2.St) (ρ : VEnv) (a : Addr) : Prop := ∃ i, OwnAt σ ρ i a
def Mm (bad : Addr → Prop) (σ : L2.St) (ρ : VEnv) (a : Addr) : Prop := bad a ∨ Own σ ρ a
/-- a slot's value -/
def SlV (K : PySem.W.Frag) (H : Hp) (M : Addr → Prop) (v : V) (d : D) : Prop :=
  (d.brw = false ∧ R K H M v d) ∨ (d.brw = true ∧ ∃ a, v = .ref a ∧ RC K H M a d)
/-- the state of a def's run -/
structure Ok (K : PySem.W.Frag) (H0 : Hp) (pa : List (Option Addr)) (bad : Addr → Prop) (σ : L2.St) (ρ : VEnv) (H : Hp) : Prop where
  len : σ.length = ρ.length
  sl : ∀ (i : Nat) d, ρ[i]? = some (some d) → ∃ v, σ[i]? = some (some v) ∧ SlV K H (Mm bad σ ρ) v d
  inj : ∀ i j a, OwnAt σ ρ i a → OwnAt σ ρ j a → i = j
  new : ∀ (i : Nat) a, OwnAt σ ρ i a → pa[i]? = some (some a) ∨ (H0 a = none ∧ ∀ a', pa[i]? ≠ some (some a'))
  par : ∀ (i : Nat) a, pa[i]? = some (some a) → OwnAt σ ρ i a
  fr : ∀ b x, H0 b = some x → (∀ i : Nat, pa[i]? ≠ some (some b)) → H b = some x
  ob : ∀ a, Own σ ρ a → ¬ bad a
  dom : ∀ b, H b = none → H0 b = none ∧ ¬ bad b
/-- a step that leaves the slots -/
structure Stp (K : PySem.W.Frag) (H0 : Hp) (pa : List (Option Addr)) (σ : L2.St) (bad : Addr → Prop) (ρ : VEnv) (H : Hp) (bad' : Addr → Prop) (ρ' : VEnv) (H' : Hp) : Prop where
  ok : Ok K H0 pa bad' σ ρ' H'
  own : ∀ i a, OwnAt σ ρ' i a ↔ OwnAt σ ρ i a
  fr : ∀ b x, H b = some x → ¬ Own σ ρ b → H' b = some x
  dom : ∀ b, H' b = none → H b = none
  bd : ∀ b, bad b → bad' b
  bn : ∀ b, bad' b → bad b ∨ H b = none
  lk : ∀ (i : Nat) d, ρ'[i]? = some (some d) → d.kd = .lock → ∃ d0, ρ[i]? = some (some d0) ∧ d0.kd = .lock
section
variable {K : PySem.W.Frag} {H0 H H1 H2 : Hp} {pa : List (Option Addr)} {σ : L2.St} {bad bad1 bad2 : Addr → Prop} {ρ ρ1 ρ2 : VEnv} {v : V} {d : D}
theorem Ok.mdom (o : Ok K H0 pa bad σ ρ H) {b : Addr} (m : Mm bad σ ρ b) : H b ≠ none := by
  intro z
  rcases m with m | ⟨i, hσ, d, hρ, hb⟩
  · exact (o.dom b z).2 m
  · obtain ⟨v, e, s⟩ := o.sl i d hρ
    rw [hσ] at e; cases e
    rcases s with ⟨s, _⟩ | ⟨_, a, e, r⟩
    · rw [hb] at s; cases s
    · cases e; exact r.ne z
theorem Stp.refl (o : Ok K H0 pa bad σ ρ H) : Stp K H0 pa σ bad ρ H bad ρ H := ⟨o, fun _ _ => Iff.rfl, fun _ _ h _ => h, fun _ h => h, fun _ h => h, fun _ h => .inl h, fun _ d h k => ⟨d, h, k⟩⟩
theorem Stp.ow (t : Stp K H0 pa σ bad ρ H bad1 ρ1 H1) (a : Addr) : Own σ ρ1 a ↔ Own σ ρ a := ⟨fun ⟨i, h⟩ => ⟨i, (t.own i a).mp h⟩, fun ⟨i, h⟩ => ⟨i, (t.own i a).mpr h⟩⟩
theorem Stp.trans (a : Stp K H0 pa σ bad ρ H bad1 ρ1 H1) (b : Stp K H0 pa σ bad1 ρ1 H1 bad2 ρ2 H2) : Stp K H0 pa σ bad ρ H bad2 ρ2 H2 where
  ok := b.ok
  own := fun i c => (b.own i c).trans (a.own i c)
  fr := fun c x h n => b.fr c x (a.fr c x h n) fun z => n ((a.ow c).mp z)
  dom := fun c h => a.dom c (b.dom c h)
  bd := fun c h => b.bd c (a.bd c h)
  bn := fun c h => (b.bn c h).elim (fun h => a.bn c h) fun h => .inr (a.dom c h)
  lk := fun i d h k => let ⟨d1, h1, k1⟩ := b.lk i d h k; a.lk i d1 h1 k1
theorem Stp.m (a : Stp K H0 pa σ bad ρ H bad1 ρ1 H1) : ∀ b, Mm bad1 σ ρ1 b → Mm bad σ ρ b ∨ H b = none := fun b m => by
  rcases m with m | m
  · exact (a.bn b m).imp .inl id
  · exact .inl (.inr ((a.ow b).mp m))
theorem Stp.f (a : Stp K H0 pa σ bad ρ H bad1 ρ1 H1) : ∀ b x, H b = some x → ¬ Mm bad σ ρ b → H1 b = some x := fun b x h n => a.fr b x h fun z => n (.inr z)
theorem SlV.mono {M M' : Addr → Prop} (s : SlV K H M v d) (h : ∀ a, v = .ref a → d.brw = true → H1 a = H a) (f : ∀ b x, H b = some x → ¬ M b → H1 b = some x) (m : ∀ b, M' b → M b ∨ H b = none) : SlV K H1 M' v d := by
  rcases s with ⟨b, r⟩ | ⟨b, a, e, r⟩
  · exact .inl ⟨b, r.mono f m⟩
  · exact .inr ⟨b, a, e, r.mono (h a e b) f m⟩
/-- fewer bad ones -/
theorem Ok.less (o : Ok K H0 pa bad σ ρ H) (h : ∀ b, bad1 b → bad b) : Ok K H0 pa bad1 σ ρ H where
  len := o.len
  sl := fun i d e => by
    obtain ⟨v, e1, s⟩ := o.sl i d e
    exact ⟨v, e1, s.mono (fun _ _ _ => rfl) (fun _ _ h _ => h) fun b m => .inl (m.imp (h b) id)⟩
  inj := o.inj
  new := o.new
  par := o.par
  fr := o.fr
  ob := fun a h1 h2 => o.ob a h1 (h a h2)
  dom := fun b z => ⟨(o.dom b z).1, fun q => (o.dom b z).2 (h b q)⟩
theorem Stp.back (a : Stp K H0 pa σ bad ρ H bad1 ρ1 H1) : Stp K H0 pa σ bad ρ H bad ρ1 H1 :=
  ⟨a.ok.less a.bd, a.own, a.fr, a.dom, fun _ h => h, fun _ h => .inl h, a.lk⟩
theorem Stp.back1 (a : Stp K H0 pa σ bad ρ H bad1 ρ1 H1) (b : Stp K H0 pa σ bad1 ρ1 H1 bad2 ρ2 H2) : Stp K H0 pa σ bad ρ H bad1 ρ2 H2 := a.trans b.back

/-- an expression's value: unchangeable, a new container, or a slot's -/
def Va (K : PySem.W.Frag) (σ : L2.St) (bad : Addr → Prop) (ρ : VEnv) (Hs H : Hp) (v : V) (d : D) : Prop :=
  (d.imm = true ∧ R K H (Mm bad σ ρ) v d) ∨ (d.isTmp = true ∧ ∃ a, v = .ref a ∧ RC K H (Mm bad σ ρ) a d ∧ Hs a = none ∧ bad a) ∨ (d.brw = true ∧ ∃ i : Nat, ρ[i]? = some (some d) ∧ σ[i]? = some (some v))
/-- as it is read -/
def RVal (K : PySem.W.Frag) (H : Hp) (M : Addr → Prop) (v : V) (d : D) : Prop :=
  (d.imm = true ∧ R K H M v d) ∨ (d.imm = false ∧ ∃ a, v = .ref a ∧ RC K H M a d)
theorem brw_imm {d : D} (h : d.brw = true) : d.imm = false := by
  unfold D.brw at h; unfold D.imm; split at h <;> simp_all
theorem tmp_imm {d : D} (h : d.isTmp = true) : d.imm = false := by
  unfold D.isTmp at h; unfold D.imm; split at h <;> simp_all
theorem tmp_brw {d : D} (h : d.isTmp = true) : d.brw = false := by
  unfold D.isTmp at h; unfold D.brw; split at h <;> simp_all
theorem imm_brw {d : D} (h : d.imm = true) : d.brw = false := by
  unfold D.imm at h; unfold D.brw; split at h <;> simp_all
theorem Va.read {Hs : Hp} (o : Ok K H0 pa bad σ ρ H) (a : Va K σ bad ρ Hs H v d) : RVal K H (Mm bad σ ρ) v d := by
  rcases a with ⟨i, r⟩ | ⟨t, a, e, r, _⟩ | ⟨b, i, h1, h2⟩
  · exact .inl ⟨i, r⟩
  · exact .inr ⟨tmp_imm t, a, e, r⟩
  · obtain ⟨v', e, s⟩ := o.sl i d h1
    rw [h2] at e; cases e
    rcases s with ⟨s, _⟩ | ⟨_, a, e, r⟩
    · rw [b] at s; cases s
    · exact .inr ⟨brw_imm b, a, e, r⟩
theorem Va.keep {Hs : Hp} (o : Ok K H0 pa bad σ ρ H) (a : Va K σ bad ρ Hs H v d) (t : Stp K H0 pa σ bad ρ H bad1 ρ1 H1) (h : d.brw = false ∨ ρ1 = ρ) : Va K σ bad1 ρ1 Hs H1 v d := by
  rcases a with ⟨i, r⟩ | ⟨tm, a, e, r, n, ba⟩ | ⟨b, i, h1, h2⟩
  · exact .inl ⟨i, r.mono t.f t.m⟩
  · refine .inr (.inl ⟨tm, a, e, r.mono ?_ t.f t.m, n, t.bd a ba⟩)
    cases q : H a with
    | none => exact absurd ba (o.dom a q).2
    | some x => exact t.fr a x q fun z => o.ob a z ba
  · rcases h with h | h
    · rw [b] at h; cases h
    · subst h; exact .inr (.inr ⟨b, i, h1, h2⟩)
/-- what an expression leaves -/
structure Po (K : PySem.W.Frag) (H0 : Hp) (pa : List (Option Addr)) (σ : L2.St) (bad : Addr → Prop) (ρ : VEnv) (H : Hp) (v : V) (d : D) (bad' : Addr → Prop) (ρ' : VEnv) (H' : Hp) : Prop where
  st : Stp K H0 pa σ bad ρ H bad' ρ' H'
  va : Va K σ bad' ρ' H H' v d
/-- what an operation by values leaves -/
def Res (K : PySem.W.Frag) (M : Addr → Prop) (H : Hp) (v : V) (d : D) (H' : Hp) : Prop :=
  (∀ b x, H b = some x → H' b = some x) ∧ ((d.imm = true ∧ R K H' M v d) ∨ (d.isTmp = true ∧ ∃ a, v = .ref a ∧ H a = none ∧ RC K H' (fun b => M b ∨ b = a) a d))
theorem same_dom {H H' : Hp} (h : ∀ b x, H b = some x → H' b = some x) {b : Addr} (z : H' b = none) : H b = none := by
  cases q : H b with
  | none => rfl
  | some x => rw [h b x q] at z; cases z
theorem Ok.same {H' : Hp} (o : Ok K H0 pa bad σ ρ H) (s : ∀ b x, H b = some x → H' b = some x) : Ok K H0 pa bad σ ρ H' where
  len := o.len
  sl := fun i d e => by
    obtain ⟨v, e1, q⟩ := o.sl i d e
    refine ⟨v, e1, q.mono (fun a ea eb => ?_) (fun b x h _ => s b x h) fun b m => .inl m⟩
    subst ea
    cases z : H a with
    | none => exact absurd z (o.mdom (.inr ⟨i, e1, d, e, eb⟩))
    | some x => exact s a x z
  inj := o.inj
  new := o.new
  par := o.par
  fr := fun b x h n => s b x (o.fr b x h n)
  ob := o.ob
  dom := fun b z => o.dom b (same_dom s z)
/-- one more bad one, a new one -/
theorem Ok.more {H' : Hp} {a : Addr} (o : Ok K H0 pa bad σ ρ H) (s : ∀ b x, H b = some x → H' b = some x) (n : H a = none) (h : H' a ≠ none) : Ok K H0 pa (fun b => bad b ∨ b = a) σ ρ H' where
  len := o.len
  sl := fun i d e => by
    obtain ⟨v, e1, q⟩ := o.sl i d e
    refine ⟨v, e1, q.mono (fun a ea eb => ?_) (fun b x h _ => s b x h) fun b m => ?_⟩
    · subst ea
      cases z : H a with
      | none => exact absurd z (o.mdom (.inr ⟨i, e1, d, e, eb⟩))
      | some x => exact s a x z
    · rcases m with (m | rfl) | m
      · exact .inl (.inl m)
      · exact .inr n
      · exact .inl (.inr m)
  inj := o.inj
  new := o.new
  par := o.par
  fr := fun b x h n => s b x (o.fr b x h n)
  ob := fun b q z => z.elim (o.ob b q) fun e => absurd n (o.mdom (.inr (e ▸ q)))
  dom := fun b z => ⟨(o.dom b (same_dom s z)).1, fun q => q.elim (o.dom b (same_dom s z)).2 fun e => by subst e; exact h z⟩
theorem Res.po {H' : Hp} (o : Ok K H0 pa bad σ ρ H) (r : Res K (Mm bad σ ρ) H v d H') : ∃ bad', Po K H0 pa σ bad ρ H v d bad' ρ H' := by
  obtain ⟨s, ⟨i, r⟩ | ⟨t, a, e, n, r⟩⟩ := r
  · exact ⟨bad, ⟨o.same s, fun _ _ => Iff.rfl, fun b x h _ => s b x h, fun _ z => same_dom s z, fun _ h => h, fun _ h => .inl h, fun _ d h k => ⟨d, h, k⟩⟩, .inl ⟨i, r⟩⟩
  · refine ⟨fun b => bad b ∨ b = a, ⟨o.more s n r.ne, fun _ _ => Iff.rfl, fun b x h _ => s b x h, fun _ z => same_dom s z, fun _ h => .inl h, fun b h => h.imp id fun e => by subst e; exact n, fun _ d h k => ⟨d, h, k⟩⟩, .inr (.inl ⟨t, a, e, ?_, n, .inr rfl⟩)⟩
    have e : (Mm (fun b => bad b ∨ b = a) σ ρ) = (fun b => Mm bad σ ρ b ∨ b = a) := by
      funext b
      simp only [Mm, eq_iff_iff]
      constructor
      · rintro ((h | h) | h)
        · exact .inl (.inl h)
        · exact .inr h
        · exact .inl (.inr h)
      · rintro ((h | h) | h)
        · exact .inl (.inl h)
        · exact .inr h
        · exact .inl (.inr h)
    rw [e]; exact r
end

/-! ### the judgements -/
abbrev WE := VEnv → (D → VEnv → Prop) → Prop
abbrev WTs := VEnv → (Bool → VEnv → Prop) → Prop
inductive Arg where
  | val (d : D) | slot (i : Nat)
abbrev WA := VEnv → (List Arg → VEnv → Prop) → Prop
structure VEnd where
  nx : VEnv → Prop
  rt : D → VEnv → Prop
  bk : VEnv → Prop := fun _ => False
  ct : VEnv → Prop := fun _ => False
abbrev WS := VEnd → VEnv → Prop
def run (X : Cx) (e : Expr) : TE := fun σ H Q => ∀ (pins : List (Addr × Obj)) (s : Shared), Inv X pins σ H s → wpAny (model X.prog X.w) X.A (eval e X.env) (EP X pins σ Q) X.xe s
theorem pe_run {X : Cx} {e : Expr} : PE X e (run X e) := ⟨fun pins s _ _ _ I h => h pins s I⟩
theorem _root_.L2.PE.to {X : Cx} {e : Expr} {t : TE} (p : PE X e t) {σ : L2.St} {H : Hp} {Q : VK} (h : t σ H Q) : run X e σ H Q := fun pins s I => p.run pins s σ H Q I h
def runT (X : Cx) (e : Expr) : TT := fun σ H Q => ∀ (pins : List (Addr × Obj)) (s : Shared), Inv X pins σ H s → wpAny (model X.prog X.w) X.A (isTrue e X.env (eval e X.env)) (TP X pins σ Q) X.xe s
theorem pt_run {X : Cx} {e : Expr} : PT X e (runT X e) := ⟨fun pins s _ _ _ I h => h pins s I⟩
theorem _root_.L2.PT.to {X : Cx} {e : Expr} {t : TT} (p : PT X e t) {σ : L2.St} {H : Hp} {Q : Bool → Hp → Prop} (h : t σ H Q) : runT X e σ H Q := fun pins s I => p.run pins s σ H Q I h
def runW (X : Cx) (e : Expr) : TT := fun σ H Q => ∀ (whole : Sem Value) (pins : List (Addr × Obj)) (s : Shared), Inv X pins σ H s → wpAny (model X.prog X.w) X.A (isTrue e X.env whole) (TP X pins σ Q) X.xe s
theorem pw_run {X : Cx} {e : Expr} : PW X e (runW X e) := ⟨fun wh pins s _ _ _ I h => h wh pins s I⟩
theorem _root_.L2.PW.to {X : Cx} {e : Expr} {t : TT} (p : PW X e t) {σ : L2.St} {H : Hp} {Q : Bool → Hp → Prop} (h : t σ H Q) : runW X e σ H Q := fun wh pins s I => p.run wh pins s σ H Q I h
def runA (X : Cx) (es : List Expr) : TA := fun σ H Q => ∀ (pos : Pos) (pins : List (Addr × Obj)) (s : Shared), Inv X pins σ H s → wpAny (model X.prog X.w) X.A (spliced (backTo pos (starEach es X.env))) (AP X pins σ Q) X.xe s
theorem pa_run {X : Cx} {es : List Expr} : PA X es (runA X es) := ⟨fun pos pins s _ _ _ I h => h pos pins s I⟩
theorem _root_.L2.PA.to {X : Cx} {es : List Expr} {t : TA} (p : PA X es t) {σ : L2.St} {H : Hp} {Q : List V → Hp → Prop} (h : t σ H Q) : runA X es σ H Q := fun pos pins s I => p.run pos pins s σ H Q I h
def runS (X : Cx) (st : List Stmt) : TS := fun D σ H => ∀ (pins : List (Addr × Obj)) (s : Shared), Inv X pins σ H s → wpAny (model X.prog X.w) X.A (execs st X.env) (SP X pins D) X.xe s
theorem pss_run {X : Cx} {st : List Stmt} : PSs X st (runS X st) := ⟨fun pins s _ _ _ I h => h pins s I⟩
theorem _root_.L2.PSs.to {X : Cx} {st : List Stmt} {t : TS} (p : PSs X st t) {σ : L2.St} {H : Hp} {D : Ends} (h : t D σ H) : runS X st D σ H := fun pins s I => p.run pins s σ H D I h

/-- what is fixed through a def's run -/
structure Df where
  K : PySem.W.Frag
  H0 : Hp
  pa : List (Option Addr)
structure DE (X : Cx) (F : Df) (e : Expr) (w : WE) : Prop where
  go : ∀ (bad : Addr → Prop) (σ : L2.St) (ρ : VEnv) (H : Hp) (q : D → VEnv → Prop) (Q : VK), Ok F.K F.H0 F.pa bad σ ρ H → w ρ q → (∀ v d bad' ρ' H', Po F.K F.H0 F.pa σ bad ρ H v d bad' ρ' H' → q d ρ' → Q v H') → run X e σ H Q
structure DT (X : Cx) (F : Df) (e : Expr) (w : WTs) : Prop where
  go : ∀ (bad : Addr → Prop) (σ : L2.St) (ρ : VEnv) (H : Hp) (q : Bool → VEnv → Prop) (Q : Bool → Hp → Prop), Ok F.K F.H0 F.pa bad σ ρ H → w ρ q → (∀ b ρ' H', Stp F.K F.H0 F.pa σ bad ρ H bad ρ' H' → q b ρ' → Q b H') → runT X e σ H Q
structure DW (X : Cx) (F : Df) (e : Expr) (w : WTs) : Prop where
  go : ∀ (bad : Addr → Prop) (σ : L2.St) (ρ : VEnv) (H : Hp) (q : Bool → VEnv → Prop) (Q : Bool → Hp → Prop), Ok F.K F.H0 F.pa bad σ ρ H → w ρ q → (∀ b ρ' H', Stp F.K F.H0 F.pa σ bad ρ H bad ρ' H' → q b ρ' → Q b H') → runW X e σ H Q
/-- an argument's value at the end of all -/
def Arg.at (ρ : VEnv) : Arg → Option D
  | .val d => some d
  | .slot i => (ρ[i]?).join
def argsD (ρ : VEnv) : List Arg → Option (List D)
  | [] => some []
  | a :: r => match a.at ρ, argsD ρ r with
    | some d, some ds => some (d :: ds)
    | _, _ => none
/-- the arguments' values: of a slot, or by themselves (not of a slot); new containers are unlike ones -/
def ArgV (K : PySem.W.Frag) (σ : L2.St) (bad : Addr → Prop) (ρ : VEnv) (Hs H : Hp) (v : V) : Arg → Prop
  | .val d => d.brw = false ∧ Va K σ bad ρ Hs H v d
  | .slot i => ∀ d, ρ[i]? = some (some d) → σ[i]? = some (some v)
def newA : V → Arg → Option Addr
  | .ref a, .val d => if d.isTmp then some a else none
  | _, _ => none
structure PoA (K : PySem.W.Frag) (H0 : Hp) (pa : List (Option Addr)) (σ : L2.St) (bad : Addr → Prop) (ρ : VEnv) (H : Hp) (vs : List V) (as : List Arg) (bad' : Addr → Prop) (ρ' : VEnv) (H' : Hp) : Prop where
  st : Stp K H0 pa σ bad ρ H bad' ρ' H'
  len : vs.length = as.length
  va : ∀ (i : Nat) v a, vs[i]? = some v → as[i]? = some a → ArgV K σ bad' ρ' H H' v a
  un : ∀ (i j : Nat) v a v' a' z, vs[i]? = some v → as[i]? = some a → vs[j]? = some v' → as[j]? = some a' → newA v a = some z → newA v' a' = some z → i = j
structure DA (X : Cx) (F : Df) (es : List Expr) (w : WA) : Prop where
  go : ∀ (bad : Addr → Prop) (σ : L2.St) (ρ : VEnv) (H : Hp) (q : List Arg → VEnv → Prop) (Q : List V → Hp → Prop), Ok F.K F.H0 F.pa bad σ ρ H → w ρ q → (∀ vs as bad' ρ' H', PoA F.K F.H0 F.pa σ bad ρ H vs as bad' ρ' H' → q as ρ' → Q vs H') → runA X es σ H Q
/-- a step of a statement -/
structure Sst (F : Df) (bad : Addr → Prop) (σ : L2.St) (ρ : VEnv) (H : Hp) (σ' : L2.St) (ρ' : VEnv) (H' : Hp) : Prop where
  ok : Ok F.K F.H0 F.pa bad σ' ρ' H'
  fr : ∀ b x, H b = some x → ¬ Own σ ρ b → H' b = some x
  dom : ∀ b, H' b = none → H b = none
  own : ∀ a, Own σ' ρ' a → Own σ ρ a ∨ H a = none
structure Stl (F : Df) (bad : Addr → Prop) (σ : L2.St) (ρ : VEnv) (H : Hp) (σ' : L2.St) (ρ' : VEnv) (H' : Hp) : Prop extends Sst F bad σ ρ H σ' ρ' H' where
  lk : ∀ (i : Nat) d, ρ'[i]? = some (some d) → d.kd = .lock → (∃ d0, ρ[i]? = some (some d0) ∧ d0.kd = .lock) ∧ σ'[i]? = σ[i]?
/-- what is handed back -/
def RtV (F : Df) (bad : Addr → Prop) (σ : L2.St) (ρ : VEnv) (H : Hp) (v : V) (d : D) : Prop :=
  (d.imm = true ∧ R F.K H (Mm bad σ ρ) v d) ∨ (d.isTmp = true ∧ ∃ a, v = .ref a ∧ RC F.K H (fun b => bad b ∨ (∃ i : Nat, F.pa[i]? = some (some b)) ∨ b = a) a d ∧ F.H0 a = none ∧
    ∀ (i : Nat) c d', F.pa[i]? = some (some c) → ρ[i]? = some (some d') → RC F.K H (fun b => bad b ∨ (∃ i : Nat, F.pa[i]? = some (some b)) ∨ b = a) c d')
structure DS (X : Cx) (F : Df) (st : List Stmt) (w : WS) : Prop where
  go : ∀ (bad : Addr → Prop) (σ : L2.St) (ρ : VEnv) (H : Hp) (E : VEnd) (D : Ends), Ok F.K F.H0 F.pa bad σ ρ H → w E ρ →
    (∀ σ' ρ' H', Stl F bad σ ρ H σ' ρ' H' → E.nx ρ' → D.nx σ' H') → (∀ v d σ' ρ' H', Sst F bad σ ρ H σ' ρ' H' → RtV F bad σ' ρ' H' v d → E.rt d ρ' → D.rt v H') →
    (∀ σ' ρ' H', Stl F bad σ ρ H σ' ρ' H' → E.bk ρ' → D.bk σ' H') → (∀ σ' ρ' H', Stl F bad σ ρ H σ' ρ' H' → E.ct ρ' → D.ct σ' H') → runS X st D σ H
end VL

namespace VL
open PySem PySem.Spec PyProof.Rows L2
section
variable {K : PySem.W.Frag} {H0 H H1 H2 : Hp} {pa : List (Option Addr)} {σ : L2.St} {bad bad1 bad2 : Addr → Prop} {ρ ρ1 ρ2 : VEnv} {v : V} {d : D}
theorem Va.pre {Hs : Hp} (h : ∀ b, H b = none → Hs b = none) (a : Va K σ bad ρ H H1 v d) : Va K σ bad ρ Hs H1 v d := by
  rcases a with a | ⟨t, a, e, r, n, b⟩ | a
  · exact .inl a
  · exact .inr (.inl ⟨t, a, e, r, h a n, b⟩)
  · exact .inr (.inr a)
theorem Stp.po (t : Stp K H0 pa σ bad ρ H bad1 ρ1 H1) (p : Po K H0 pa σ bad1 ρ1 H1 v d bad2 ρ2 H2) : Po K H0 pa σ bad ρ H v d bad2 ρ2 H2 :=
  ⟨t.trans p.st, p.va.pre t.dom⟩
theorem Po.imm (o : Ok K H0 pa bad σ ρ H) (i : d.imm = true) (r : R K H (Mm bad σ ρ) v d) : Po K H0 pa σ bad ρ H v d bad ρ H := ⟨.refl o, .inl ⟨i, r⟩⟩
end
section
variable {X : Cx} {F : Df} {e a b c : Expr} {pos : Pos} {α β γ : WE}

/-! ### names, constants -/
def wVar (i : Nat) : WE := fun ρ q => ∃ d, ρ[i]? = some (some d) ∧ q d ρ
def wC (d : D) : WE := fun ρ q => q d ρ
theorem de_var (i : Nat) {x : Str} (hN : X.N[i]? = some x := by rfl) (hv : Vis X.env.scope x := by first | exact Or.inl rfl | exact Or.inr (Or.inl rfl) | exact Or.inr (Or.inr rfl)) (hd : (x == ("__debug__" : Str)) = false := by decide)
    (hcd : (x == ("__classdict__" : Str)) = false := by decide) : DE X F (.Name x pos) (wVar i) := by
  refine ⟨fun bad σ ρ H q Q o w k => ?_⟩
  obtain ⟨d, e, w⟩ := w
  obtain ⟨v, ev, s⟩ := o.sl i d e
  refine (pe_var hN hv hd hcd).to ⟨v, ev, k v d bad ρ H ⟨.refl o, ?_⟩ w⟩
  rcases s with ⟨_, r⟩ | ⟨b, _⟩
  · exact .inl ⟨r.imm, r⟩
  · exact .inr (.inr ⟨b, i, e, ev⟩)
theorem de_const {t : TE} {v : V} {d : D} (h : PE X e t) (ht : ∀ σ H Q, Q v H → t σ H Q) (i : d.imm = true) (r : ∀ H M, R F.K H M v d) : DE X F e (wC d) :=
  ⟨fun bad σ ρ H q Q o w k => h.to (ht _ _ _ (k v d bad ρ H (.imm o i (r _ _)) w))⟩
theorem de_int {i j} : DE X F (.Constant (.int i) j pos) (wC (.int i)) := de_const pe_int (fun _ _ _ h => h) rfl fun _ _ => .int _
theorem de_bl {i j} : DE X F (.Constant (.bool i) j pos) (wC (.bl i)) := de_const pe_bl (fun _ _ _ h => h) rfl fun _ _ => .bl _
theorem de_non {j} : DE X F (.Constant .none j pos) (wC .non) := de_const pe_non (fun _ _ _ h => h) rfl fun _ _ => .non
theorem de_str {x : Str} {l : List Nat} {j} (h : x = mkS l := by rfl) : DE X F (.Constant (.str x) j pos) (wC (.str l)) := by
  subst h; exact de_const pe_str (fun _ _ _ h => h) rfl fun _ _ => .str _
/-- a module's constant -/
theorem de_glob {x : Str} {v : V} {u : Value} {d : D} (hg : Gl X x) (hm : X.mg x = some u) (r : RelV v u) (i : d.imm = true) (rd : ∀ H M, R F.K H M v d) (hd : (x == ("__debug__" : Str)) = false := by decide) : DE X F (.Name x pos) (wC d) :=
  de_const (pe_glob hg hm r hd) (fun _ _ _ h => h) i rd

/-! ### operations by values -/
def wUn (f : D → (D → Prop) → Prop) (α : WE) : WE := fun ρ q => α ρ fun x ρ1 => f x fun d => q d ρ1
def wBin (f : D → D → (D → Prop) → Prop) (α β : WE) : WE := fun ρ q => α ρ fun x ρ1 => β ρ1 fun y ρ2 => (x.brw = false ∨ ρ2 = ρ1) ∧ f x y fun d => q d ρ2
def V1 (K : PySem.W.Frag) (r : V → Hp → VK → Prop) (f : D → (D → Prop) → Prop) : Prop := ∀ (H : Hp) (M : Addr → Prop) x dx (q : D → Prop) (Q : VK), (∀ b, M b → H b ≠ none) → RVal K H M x dx → f dx q → (∀ v d H', Res K M H v d H' → q d → Q v H') → r x H Q
def V2 (K : PySem.W.Frag) (r : R2) (f : D → D → (D → Prop) → Prop) : Prop := ∀ (H : Hp) (M : Addr → Prop) x dx y dy (q : D → Prop) (Q : VK), (∀ b, M b → H b ≠ none) → RVal K H M x dx → RVal K H M y dy → f dx dy q → (∀ v d H', Res K M H v d H' → q d → Q v H') → r x y H Q
def VN (K : PySem.W.Frag) (r : List V → Hp → VK → Prop) (f : List D → (D → Prop) → Prop) : Prop := ∀ (H : Hp) (M : Addr → Prop) xs ds (q : D → Prop) (Q : VK), (∀ b, M b → H b ≠ none) → xs.length = ds.length → (∀ (i : Nat) x d, xs[i]? = some x → ds[i]? = some d → RVal K H M x d) → f ds q → (∀ v d H', Res K M H v d H' → q d → Q v H') → r xs H Q
theorem de_un {r : V → Hp → VK → Prop} {f : D → (D → Prop) → Prop} (h : PE X e (tUn r (run X a))) (hv : V1 F.K r f) (ha : DE X F a α) : DE X F e (wUn f α) := by
  refine ⟨fun bad σ ρ H q Q o w k => h.to (ha.go bad σ ρ H _ _ o w fun x dx bad1 ρ1 H1 p1 w1 => ?_)⟩
  refine hv H1 _ x dx _ Q (fun b m => p1.st.ok.mdom m) (p1.va.read p1.st.ok) w1 fun v d H2 res qd => ?_
  obtain ⟨bad2, p2⟩ := res.po p1.st.ok
  exact k v d bad2 ρ1 H2 (p1.st.po p2) qd
theorem de_bin {r : R2} {f : D → D → (D → Prop) → Prop} (h : PE X e (tOp r (run X a) (run X b))) (hv : V2 F.K r f) (ha : DE X F a α) (hb : DE X F b β) : DE X F e (wBin f α β) := by
  refine ⟨fun bad σ ρ H q Q o w k => h.to (ha.go bad σ ρ H _ _ o w fun x dx bad1 ρ1 H1 p1 w1 => hb.go bad1 σ ρ1 H1 _ _ p1.st.ok w1 fun y dy bad2 ρ2 H2 p2 w2 => ?_)⟩
  obtain ⟨kp, w2⟩ := w2
  refine hv H2 _ x dx y dy _ Q (fun b m => p2.st.ok.mdom m) ((p1.va.keep p1.st.ok p2.st kp).read p2.st.ok) (p2.va.read p2.st.ok) w2 fun v d H3 res qd => ?_
  obtain ⟨bad3, p3⟩ := res.po p2.st.ok
  exact k v d bad3 ρ2 H3 ((p1.st.trans p2.st).po p3) qd
theorem de_op {op : Operator} {r : R2} {f : D → D → (D → Prop) → Prop} (ho : OpR X (binaryOp op) r) (hv : V2 F.K r f) (ha : DE X F a α) (hb : DE X F b β) : DE X F (.BinOp a op b pos) (wBin f α β) := de_bin (pe_op ho pe_run pe_run) hv ha hb
theorem de_cmp {op : CmpOp} {r : R2} {f : D → D → (D → Prop) → Prop} (ho : OpR X (compareOp op) r) (hv : V2 F.K r f) (ha : DE X F a α) (hb : DE X F b β) (hm : behindInMarks op b = false := by first | exact nomark _ | rfl) : DE X F (.Compare a [op] [b] pos) (wBin f α β) := de_bin (pe_cmpR ho pe_run pe_run hm) hv ha hb
theorem de_ix {r : R2} {f : D → D → (D → Prop) → Prop} (ho : IxR X r) (hv : V2 F.K r f) (ha : DE X F a α) (hb : DE X F b β) (hs : PlainIx b := by intro _ _; rfl) : DE X F (.Subscript a b pos) (wBin f α β) := de_bin (pe_ix ho pe_run pe_run hs) hv ha hb
/-- a < b < c -/
def wChain (f g : D → D → (D → Prop) → Prop) (α β γ : WE) : WE := fun ρ q => α ρ fun x ρ1 => β ρ1 fun y ρ2 => (x.brw = false ∨ ρ2 = ρ1) ∧ y.brw = false ∧ f x y fun d => ∃ k, d = .bl k ∧
  if k = true then γ ρ2 fun z ρ3 => g y z fun d => q d ρ3 else q (.bl false) ρ2

/-! ### tests -/
def wVal (α : WE) : WTs := fun ρ q => α ρ fun x ρ1 => ∃ k, x = .bl k ∧ q k ρ1
theorem dt_val (ha : DE X F e α) (he : ∀ whole, isTrue e X.env whole = (do let v ← whole; standAt e.pos; holding [v] (truthy v)) := by intro _; rfl) : DT X F e (wVal α) := by
  refine ⟨fun bad σ ρ H q Q o w k => (pt_val pe_run he).to (ha.go bad σ ρ H _ _ o w fun x dx bad1 ρ1 H1 p1 w1 => ?_)⟩
  obtain ⟨kk, rfl, w1⟩ := w1
  have r := p1.va.read p1.st.ok
  rcases r with ⟨_, r⟩ | ⟨z, _⟩
  · exact ⟨kk, r.blI, k kk ρ1 H1 p1.st.back w1⟩
  · cases z
/-- a comparison as a test -/
theorem dt_cmp {op : CmpOp} {r : R2} {f : D → D → (D → Prop) → Prop} (ho : OpR X (compareOp op) r) (hv : V2 F.K r f) (ha : DE X F a α) (hb : DE X F b β) (hm : behindInMarks op b = false := by first | exact nomark _ | rfl) : DT X F (.Compare a [op] [b] pos) (wVal (wBin f α β)) := by
  refine ⟨fun bad σ ρ H q Q o w k => (pt_cmpR ho pe_run pe_run hm).to (ha.go bad σ ρ H _ _ o w fun x dx bad1 ρ1 H1 p1 w1 => hb.go bad1 σ ρ1 H1 _ _ p1.st.ok w1 fun y dy bad2 ρ2 H2 p2 w2 => ?_)⟩
  obtain ⟨kp, w2⟩ := w2
  refine hv H2 _ x dx y dy _ _ (fun b m => p2.st.ok.mdom m) ((p1.va.keep p1.st.ok p2.st kp).read p2.st.ok) (p2.va.read p2.st.ok) w2 fun v d H3 res qd => ?_
  obtain ⟨bad3, p3⟩ := res.po p2.st.ok
  obtain ⟨kk, rfl, w3⟩ := qd
  have r := p3.va.read p3.st.ok
  rcases r with ⟨_, r⟩ | ⟨z, _⟩
  · exact ⟨kk, r.blI, k kk ρ2 H3 ((p1.st.trans p2.st).trans p3.st).back w3⟩
  · cases z
variable {θ η : WTs} {rest : List Expr}
def wAnd (θ η : WTs) : WTs := fun ρ q => θ ρ fun c ρ1 => if c = true then η ρ1 q else q false ρ1
def wOr (θ η : WTs) : WTs := fun ρ q => θ ρ fun c ρ1 => if c = true then q true ρ1 else η ρ1 q
def wNot (θ : WTs) : WTs := fun ρ q => θ ρ fun c ρ1 => q (!c) ρ1
theorem dw_and1 (ha : DT X F a θ) : DW X F (.BoolOp .And [a] pos) θ :=
  ⟨fun bad σ ρ H q Q o w k => (pw_and1 pt_run).to (ha.go bad σ ρ H q Q o w k)⟩
theorem dw_or1 (ha : DT X F a θ) : DW X F (.BoolOp .Or [a] pos) θ :=
  ⟨fun bad σ ρ H q Q o w k => (pw_or1 pt_run).to (ha.go bad σ ρ H q Q o w k)⟩
theorem dw_and (ha : DT X F a θ) (hb : DW X F (.BoolOp .And (b :: rest) pos) η) : DW X F (.BoolOp .And (a :: b :: rest) pos) (wAnd θ η) := by
  refine ⟨fun bad σ ρ H q Q o w k => (pw_and pt_run pw_run).to (ha.go bad σ ρ H _ _ o w fun c ρ1 H1 s1 w1 => ?_)⟩
  cases c with
  | true =>
    rw [if_pos rfl] at w1 ⊢
    exact hb.go bad σ ρ1 H1 q Q s1.ok w1 fun c ρ2 H2 s2 w2 => k c ρ2 H2 (s1.trans s2) w2
  | false =>
    rw [if_neg Bool.false_ne_true] at w1 ⊢
    exact k false ρ1 H1 s1 w1
theorem dw_or (ha : DT X F a θ) (hb : DW X F (.BoolOp .Or (b :: rest) pos) η) : DW X F (.BoolOp .Or (a :: b :: rest) pos) (wOr θ η) := by
  refine ⟨fun bad σ ρ H q Q o w k => (pw_or pt_run pw_run).to (ha.go bad σ ρ H _ _ o w fun c ρ1 H1 s1 w1 => ?_)⟩
  cases c with
  | false =>
    rw [if_neg Bool.false_ne_true] at w1 ⊢
    exact hb.go bad σ ρ1 H1 q Q s1.ok w1 fun c ρ2 H2 s2 w2 => k c ρ2 H2 (s1.trans s2) w2
  | true =>
    rw [if_pos rfl] at w1 ⊢
    exact k true ρ1 H1 s1 w1
theorem dw_t (h : DW X F e θ) : DT X F e θ := ⟨fun bad σ ρ H q Q o w k => (PW.pt pw_run).to (h.go bad σ ρ H q Q o w k)⟩
theorem dt_not (ha : DT X F a θ) : DT X F (.UnaryOp .Not a pos) (wNot θ) :=
  ⟨fun bad σ ρ H q Q o w k => (pt_not pt_run).to (ha.go bad σ ρ H _ _ o w fun c ρ1 H1 s1 w1 => k (!c) ρ1 H1 s1 w1)⟩
def wIfE (θ : WTs) (α β : WE) : WE := fun ρ q => θ ρ fun c ρ1 => if c = true then α ρ1 q else β ρ1 q
theorem de_if (hc : DT X F c θ) (ha : DE X F a α) (hb : DE X F b β) : DE X F (.IfExp c a b pos) (wIfE θ α β) := by
  refine ⟨fun bad σ ρ H q Q o w k => (pe_ifExp pt_run pe_run pe_run).to (hc.go bad σ ρ H _ _ o w fun c ρ1 H1 s1 w1 => ?_)⟩
  cases c with
  | true =>
    rw [if_pos rfl] at w1 ⊢
    exact ha.go bad σ ρ1 H1 q Q s1.ok w1 fun v d bad2 ρ2 H2 p2 w2 => k v d bad2 ρ2 H2 (s1.po p2) w2
  | false =>
    rw [if_neg Bool.false_ne_true] at w1 ⊢
    exact hb.go bad σ ρ1 H1 q Q s1.ok w1 fun v d bad2 ρ2 H2 p2 w2 => k v d bad2 ρ2 H2 (s1.po p2) w2

/-! ### arguments -/
theorem Stp.argV {σ : L2.St} {bad bad1 bad2 : Addr → Prop} {ρ ρ1 ρ2 : VEnv} {H H1 H2 : Hp} {v : V} {a : Arg} (o : Ok F.K F.H0 F.pa bad1 σ ρ1 H1) (h : ArgV F.K σ bad1 ρ1 H H1 v a) (t : Stp F.K F.H0 F.pa σ bad1 ρ1 H1 bad2 ρ2 H2) (hs : ∀ i, a = .slot i → ∀ d, ρ2[i]? = some (some d) → σ[i]? = some (some v)) : ArgV F.K σ bad2 ρ2 H H2 v a := by
  cases a with
  | val d => exact ⟨h.1, h.2.keep o t (.inl h.1)⟩
  | slot i => exact hs i rfl
def wN : WA := fun ρ q => q [] ρ
def wAE (α : WE) (τ : WA) : WA := fun ρ q => α ρ fun x ρ1 => x.brw = false ∧ τ ρ1 fun as ρ2 => q (.val x :: as) ρ2
def wAV (i : Nat) (τ : WA) : WA := fun ρ q => (∃ d, ρ[i]? = some (some d)) ∧ τ ρ fun as ρ2 => q (.slot i :: as) ρ2
theorem da_nil : DA X F [] wN := ⟨fun bad σ ρ H q Q o w k => pa_nil.to (k [] [] bad ρ H ⟨.refl o, rfl, fun i v a h => by simp at h, fun i j v a v' a' z h => by simp at h⟩ w)⟩
variable {es : List Expr} {τ : WA}
/-- an argument list's reading -/
def RdA (F : Df) (t : TA) (w : WA) : Prop := ∀ (bad : Addr → Prop) (σ : L2.St) (ρ : VEnv) (H : Hp) (q : List Arg → VEnv → Prop) (Q : List V → Hp → Prop), Ok F.K F.H0 F.pa bad σ ρ H → w ρ q → (∀ vs as bad' ρ' H', PoA F.K F.H0 F.pa σ bad ρ H vs as bad' ρ' H' → q as ρ' → Q vs H') → t σ H Q
theorem rd_e {t : TA} (ha : DE X F e α) (hr : RdA F t τ) : RdA F (tCons (run X e) t) (wAE α τ) := by
  refine fun bad σ ρ H q Q o w k => ha.go bad σ ρ H _ _ o w fun x dx bad1 ρ1 H1 p1 w1 => ?_
  obtain ⟨hb, w1⟩ := w1
  refine hr bad1 σ ρ1 H1 _ _ p1.st.ok w1 fun vs as bad2 ρ2 H2 p2 w2 => k (x :: vs) (.val dx :: as) bad2 ρ2 H2 ⟨p1.st.trans p2.st, by simp [p2.len], ?_, ?_⟩ w2
  · intro i v a h1 h2
    cases i with
    | zero =>
      simp at h1 h2; subst h1; subst h2
      exact ⟨hb, p1.va.keep p1.st.ok p2.st (.inl hb)⟩
    | succ i =>
      have := p2.va i v a (by simpa using h1) (by simpa using h2)
      cases a with
      | val d => exact ⟨this.1, this.2.pre p1.st.dom⟩
      | slot j => exact this
  · intro i j v a v' a' z h1 h2 h3 h4 n1 n2
    have hz : ∀ {v : V} {a : Arg} {z : Addr} {i : Nat}, vs[i]? = some v → as[i]? = some a → newA v a = some z → newA x (.val dx) = some z → False := fun {v a z i} e1 e2 e3 e4 => by
      have p := p2.va i v a e1 e2
      cases a with
      | slot j => cases v <;> simp [newA] at e3
      | val d =>
        have hx : x = .ref z ∧ dx.isTmp = true := by
          cases x <;> simp [newA] at e4
          exact ⟨by rw [e4.2], e4.1⟩
        have hv : v = .ref z ∧ d.isTmp = true := by
          cases v <;> simp [newA] at e3
          exact ⟨by rw [e3.2], e3.1⟩
        obtain ⟨rfl, tx⟩ := hx
        obtain ⟨rfl, tv⟩ := hv
        rcases p1.va with ⟨im, _⟩ | ⟨_, a, ea, ra, _, _⟩ | ⟨b, _⟩
        · rw [tmp_imm tx] at im; cases im
        · cases ea
          rcases p.2 with ⟨im, _⟩ | ⟨_, a', ea', _, n', _⟩ | ⟨b, _⟩
          · rw [tmp_imm tv] at im; cases im
          · cases ea'; exact ra.ne n'
          · rw [tmp_brw tv] at b; cases b
        · rw [tmp_brw tx] at b; cases b
    cases i with
    | zero =>
      simp at h1 h2; subst h1; subst h2
      cases j with
      | zero => rfl
      | succ j => exact (hz (by simpa using h3) (by simpa using h4) n2 n1).elim
    | succ i =>
      cases j with
      | zero =>
        simp at h3 h4; subst h3; subst h4
        exact (hz (by simpa using h1) (by simpa using h2) n1 n2).elim
      | succ j => rw [p2.un i j v a v' a' z (by simpa using h1) (by simpa using h2) (by simpa using h3) (by simpa using h4) n1 n2]
theorem da_e (ha : DE X F e α) (hr : DA X F es τ) (hs : starEach (e :: es) X.env = (false, eval e X.env) :: starEach es X.env := by rfl) : DA X F (e :: es) (wAE α τ) :=
  ⟨fun bad σ ρ H q Q o w k => (pa_cons pe_run pa_run hs).to (rd_e ha hr.go bad σ ρ H q Q o w k)⟩
theorem rd_v (i : Nat) {t : TA} (hr : RdA F t τ) : RdA F (tCons (tVar i) t) (wAV i τ) := by
  refine fun bad σ ρ H q Q o w k => ?_
  obtain ⟨⟨d, e⟩, w⟩ := w
  obtain ⟨v, ev, s⟩ := o.sl i d e
  refine ⟨v, ev, hr bad σ ρ H _ _ o w fun vs as bad2 ρ2 H2 p2 w2 => k (v :: vs) (.slot i :: as) bad2 ρ2 H2 ⟨p2.st, by simp [p2.len], ?_, ?_⟩ w2⟩
  · intro j v' a h1 h2
    cases j with
    | zero => simp at h1 h2; subst h1; subst h2; exact fun d' _ => ev
    | succ j => exact p2.va j v' a (by simpa using h1) (by simpa using h2)
  · intro j l v1 a1 v2 a2 z h1 h2 h3 h4 n1 n2
    cases j with
    | zero => simp at h1 h2; subst h1; subst h2; cases v <;> simp [newA] at n1
    | succ j =>
      cases l with
      | zero => simp at h3 h4; subst h3; subst h4; cases v <;> simp [newA] at n2
      | succ l => rw [p2.un j l v1 a1 v2 a2 z (by simpa using h1) (by simpa using h2) (by simpa using h3) (by simpa using h4) n1 n2]
theorem da_v (i : Nat) {x : Str} (hr : DA X F es τ) (hN : X.N[i]? = some x := by rfl) (hv : Vis X.env.scope x := by first | exact Or.inl rfl | exact Or.inr (Or.inl rfl) | exact Or.inr (Or.inr rfl)) (hd : (x == ("__debug__" : Str)) = false := by decide)
    (hcd : (x == ("__classdict__" : Str)) = false := by decide) (hs : starEach (.Name x pos :: es) X.env = (false, eval (.Name x pos) X.env) :: starEach es X.env := by rfl) : DA X F (.Name x pos :: es) (wAV i τ) :=
  ⟨fun bad σ ρ H q Q o w k => (pa_cons (pe_var hN hv hd hcd) pa_run hs).to (rd_v i hr.go bad σ ρ H q Q o w k)⟩
/-! keywords -/
def runK (X : Cx) (kws : List Keyword) : TA := fun σ H Q => ∀ (pos : Pos) (pins : List (Addr × Obj)) (s : Shared), Inv X pins σ H s → wpAny (model X.prog X.w) X.A (evalAll ((backToKw pos (keywordEach kws X.env)).map (·.2))) (AP X pins σ Q) X.xe s
theorem pk_run {kws : List Keyword} : PK X kws (runK X kws) := ⟨fun pos pins s _ _ _ I h => h pos pins s I⟩
structure DK (X : Cx) (F : Df) (kws : List Keyword) (w : WA) : Prop where
  go : RdA F (runK X kws) w
variable {kws : List Keyword} {nm : Option Str} {kpos : Pos}
theorem dk_nil : DK X F [] wN := ⟨fun bad σ ρ H q Q o w k pos pins s I => pk_nil.run pos pins s σ H Q I (k [] [] bad ρ H ⟨.refl o, rfl, fun i v a h => by simp at h, fun i j v a v' a' z h => by simp at h⟩ w)⟩
theorem dk_e (ha : DE X F e α) (hr : DK X F kws τ) : DK X F (⟨nm, e, kpos⟩ :: kws) (wAE α τ) :=
  ⟨fun bad σ ρ H q Q o w k pos pins s I => (pk_cons pe_run pk_run).run pos pins s σ H Q I (rd_e ha hr.go bad σ ρ H q Q o w k)⟩
theorem dk_v (i : Nat) {x : Str} (hr : DK X F kws τ) (hN : X.N[i]? = some x := by rfl) (hv : Vis X.env.scope x := by first | exact Or.inl rfl | exact Or.inr (Or.inl rfl) | exact Or.inr (Or.inr rfl)) (hd : (x == ("__debug__" : Str)) = false := by decide)
    (hcd : (x == ("__classdict__" : Str)) = false := by decide) : DK X F (⟨nm, .Name x pos, kpos⟩ :: kws) (wAV i τ) :=
  ⟨fun bad σ ρ H q Q o w k pos pins s I => (pk_cons (pe_var hN hv hd hcd) pk_run).run pos pins s σ H Q I (rd_v i hr.go bad σ ρ H q Q o w k)⟩
end
section
variable {K : PySem.W.Frag} {H0 H H1 H2 : Hp} {pa : List (Option Addr)} {σ : L2.St} {bad bad1 bad2 : Addr → Prop} {ρ ρ1 ρ2 : VEnv} {vs : List V} {as : List Arg} {ds : List D}
theorem argsD_get : ∀ {as : List Arg} {ds : List D}, argsD ρ as = some ds → as.length = ds.length ∧ ∀ (i : Nat) a, as[i]? = some a → ∃ d, ds[i]? = some d ∧ a.at ρ = some d
  | [], ds, h => by cases h; exact ⟨rfl, fun i a h => by simp at h⟩
  | a :: r, ds, h => by
    unfold argsD at h
    split at h
    · rename_i d es e1 e2
      cases h
      obtain ⟨h1, h2⟩ := argsD_get e2
      refine ⟨by simp [h1], fun i b hb => ?_⟩
      cases i with
      | zero => simp at hb; subst hb; exact ⟨d, rfl, e1⟩
      | succ i => exact h2 i b (by simpa using hb)
    · cases h
theorem PoA.vals (p : PoA K H0 pa σ bad ρ H vs as bad1 ρ1 H1) (h : argsD ρ1 as = some ds) : vs.length = ds.length ∧ ∀ (i : Nat) x d, vs[i]? = some x → ds[i]? = some d → RVal K H1 (Mm bad1 σ ρ1) x d := by
  obtain ⟨h1, h2⟩ := argsD_get h
  refine ⟨by rw [p.len, h1], fun i x d hx hd => ?_⟩
  have ha : i < as.length := by rw [h1]; exact (List.getElem?_eq_some_iff.mp hd).1
  obtain ⟨d', hd', e⟩ := h2 i as[i] (List.getElem?_eq_getElem ha)
  rw [hd] at hd'; cases hd'
  have q := p.va i x _ hx (List.getElem?_eq_getElem ha)
  generalize as[i] = a at e q
  cases a with
  | val d' => cases e; exact q.2.read p.st.ok
  | slot j =>
    have e' : ρ1[j]? = some (some d) := by
      have e : (ρ1[j]?).join = some d := e
      cases z : ρ1[j]? with
      | none => rw [z] at e; cases e
      | some y => rw [z] at e; simp at e; rw [e]
    have e2 := q d e'
    obtain ⟨v', e3, s⟩ := p.st.ok.sl j d e'
    rw [e2] at e3; cases e3
    rcases s with ⟨_, r⟩ | ⟨b, a, rfl, r⟩
    · exact .inl ⟨r.imm, r⟩
    · exact .inr ⟨brw_imm b, a, rfl, r⟩
end
section
variable {X : Cx} {F : Df} {e a b c : Expr} {pos : Pos} {α β γ : WE} {es : List Expr} {τ : WA}
/-- a built-in's call by values -/
def wCallN (f : List D → (D → Prop) → Prop) (τ : WA) : WE := fun ρ q => τ ρ fun as ρ1 => ∃ ds, argsD ρ1 as = some ds ∧ f ds fun d => q d ρ1
theorem de_calln {r : List V → Hp → VK → Prop} {f : List D → (D → Prop) → Prop} (h : PE X e (tCB r (runA X es))) (hv : VN F.K r f) (ha : DA X F es τ) : DE X F e (wCallN f τ) := by
  refine ⟨fun bad σ ρ H q Q o w k => h.to (ha.go bad σ ρ H _ _ o w fun vs as bad1 ρ1 H1 p1 w1 => ?_)⟩
  obtain ⟨ds, ed, w1⟩ := w1
  obtain ⟨hl, hr⟩ := p1.vals ed
  refine hv H1 _ vs ds _ Q (fun b m => p1.st.ok.mdom m) hl hr w1 fun v d H2 res qd => ?_
  obtain ⟨bad2, p2⟩ := res.po p1.st.ok
  exact k v d bad2 ρ1 H2 (p1.st.po p2) qd
theorem de_callB {id : String} {x : Str} {r : List V → Hp → VK → Prop} {f : List D → (D → Prop) → Prop} {p : Pos} (hc : CallR X (.builtin id) r) (hv : VN F.K r f) (hg : Gl X x) (hm : X.mg x = none) (hb : bootBuiltins x = some (.builtin id)) (ha : DA X F (e :: es) τ)
    (hn : x ≠ "__name__" := by decide) (hdb : (x == ("__debug__" : Str)) = false := by decide) (he : starEach (e :: es) X.env = (false, eval e X.env) :: starEach es X.env := by rfl) (hpl : (backTo pos (starEach es X.env)).any (·.1) = false := by rfl) : DE X F (.Call (.Name x p) (e :: es) [] pos) (wCallN f τ) :=
  de_calln (pe_callB hc hg hm hb pa_run hn hdb he hpl) hv ha
theorem de_callTy {T : String} {x : Str} {r : List V → Hp → VK → Prop} {f : List D → (D → Prop) → Prop} {p : Pos} (hc : CallR X (.type T) r) (hv : VN F.K r f) (hg : Gl X x) (hm : X.mg x = none) (hb : bootBuiltins x = some (.type T)) (ha : DA X F (e :: es) τ)
    (hn : x ≠ "__name__" := by decide) (hdb : (x == ("__debug__" : Str)) = false := by decide) (he : starEach (e :: es) X.env = (false, eval e X.env) :: starEach es X.env := by rfl) (hpl : (backTo pos (starEach es X.env)).any (·.1) = false := by rfl) : DE X F (.Call (.Name x p) (e :: es) [] pos) (wCallN f τ) :=
  de_calln (pe_callTy hc hg hm hb pa_run hn hdb he hpl) hv ha
/-- displays -/
def fTup (ds : List D) (q : D → Prop) : Prop := ds.all (fun d => !d.brw) = true ∧ ds.length ≤ sizeLine ∧ q (.tup (ds.map (D.to .froz)))
def fLst (ds : List D) (q : D → Prop) : Prop := ds.all (fun d => !d.brw) = true ∧ ds.length ≤ sizeLine ∧ q (.seq .tmp (ds.map (D.to .froz)))
end
end VL

namespace VL
open PySem PySem.Spec PyProof.Rows L2
section
variable {K : PySem.W.Frag} {H0 H H1 H2 : Hp} {pa : List (Option Addr)} {σ : L2.St} {bad bad1 bad2 : Addr → Prop} {ρ ρ1 ρ2 : VEnv} {v : V} {d : D} {vs : List V} {as : List Arg} {ds : List D}
theorem Mm.less (h : ∀ b, bad1 b → bad b) {b : Addr} (m : Mm bad1 σ ρ b) : Mm bad σ ρ b := m.imp (h b) id
theorem R.less {M M' : Addr → Prop} (r : R K H M v d) (h : ∀ b, M' b → M b) : R K H M' v d := r.mono (fun _ _ h _ => h) fun b m => .inl (h b m)
theorem RC.less {a : Addr} {M M' : Addr → Prop} (r : RC K H M a d) (h : ∀ b, M' b → M b) : RC K H M' a d := r.mono rfl (fun _ _ h _ => h) fun b m => .inl (h b m)
theorem to_froz_imm (h : d.imm = true) : d.to .froz = d := by
  cases d with
  | seq k xs => have : k = .froz := by cases k <;> first | rfl | cases h
                subst this; rfl
  | map k xs => have : k = .froz := by cases k <;> first | rfl | cases h
                subst this; rfl
  | mapT k xs => have : k = .froz := by cases k <;> first | rfl | cases h
                 subst this; rfl
  | ins k C xs => have : k = .froz := by cases k <;> first | rfl | cases h
                  subst this; rfl
  | _ => rfl
theorem three (d : D) : d.imm = true ∨ d.isTmp = true ∨ d.brw = true := by
  unfold D.imm D.isTmp D.brw
  cases d.kd <;> simp
/-- a value that is kept from now on -/
theorem Va.froz (o : Ok K H0 pa bad σ ρ H) (t : Stp K H0 pa σ bad ρ H bad1 ρ1 H1) (a : Va K σ bad1 ρ1 H H1 v d) (hb : d.brw = false) : R K H1 (Mm bad σ ρ1) v (d.to .froz) := by
  have lss : ∀ b, Mm bad σ ρ1 b → Mm bad1 σ ρ1 b := fun b m => m.imp (t.bd b) id
  rcases a with ⟨i, r⟩ | ⟨tm, a, e, r, n, ba⟩ | ⟨b, _⟩
  · rw [to_froz_imm i]; exact r.less lss
  · subst e
    refine (r.less lss).froz fun m => ?_
    rcases m with m | m
    · exact (o.dom a n).2 m
    · exact o.mdom (.inr ((t.ow a).mp m)) n
  · rw [hb] at b; cases b
theorem at_slot {j : Nat} (h : Arg.at ρ (.slot j) = some d) : ρ[j]? = some (some d) := by
  have e : (ρ[j]?).join = some d := h
  cases z : ρ[j]? with
  | none => rw [z] at e; cases e
  | some y => rw [z] at e; simp at e; rw [e]
theorem PoA.froz (o : Ok K H0 pa bad σ ρ H) (p : PoA K H0 pa σ bad ρ H vs as bad1 ρ1 H1) (h : argsD ρ1 as = some ds) (hb : ds.all (fun d => !d.brw) = true) : Rs K H1 (Mm bad σ ρ1) vs (ds.map (D.to .froz)) := by
  obtain ⟨h1, h2⟩ := argsD_get h
  refine ⟨by rw [p.len, h1, List.length_map], fun i x d hx hd => ?_⟩
  rw [List.getElem?_map] at hd
  cases z : ds[i]? with
  | none => rw [z] at hd; cases hd
  | some d1 =>
    rw [z] at hd; cases hd
    have nb : d1.brw = false := by
      have := List.all_eq_true.mp hb d1 (List.mem_of_getElem? z)
      simpa using this
    have ha : i < as.length := by rw [h1]; exact (List.getElem?_eq_some_iff.mp z).1
    obtain ⟨d', hd', e⟩ := h2 i as[i] (List.getElem?_eq_getElem ha)
    rw [z] at hd'; cases hd'
    have q := p.va i x _ hx (List.getElem?_eq_getElem ha)
    generalize as[i] = a at e q
    cases a with
    | val d' => cases e; exact q.2.froz o p.st nb
    | slot j =>
      have e' := at_slot e
      have e2 := q _ e'
      obtain ⟨v', e3, s⟩ := p.st.ok.sl j _ e'
      rw [e2] at e3; cases e3
      rcases s with ⟨_, r⟩ | ⟨b, _⟩
      · rw [to_froz_imm r.imm]; exact r.less fun b m => m.imp (p.st.bd b) id
      · rw [nb] at b; cases b
/-- a new object -/
theorem new_same {a : Addr} {o : HO} (n : H a = none) : ∀ b x, H b = some x → upd H a o b = some x := fun b x h => by
  rw [upd_ne (ne_of_none h n)]; exact h
theorem Rs.new {M : Addr → Prop} {a : Addr} {o : HO} (n : H a = none) (r : Rs K H M vs ds) : Rs K (upd H a o) (fun b => M b ∨ b = a) vs ds :=
  r.mono (fun b x h _ => new_same n b x h) fun b m => m.imp id fun e => by subst e; exact n
theorem Rs.same {M : Addr → Prop} (s : ∀ b x, H b = some x → H1 b = some x) (r : Rs K H M vs ds) : Rs K H1 M vs ds := r.mono (fun b x h _ => s b x h) fun b m => .inl m
theorem res_tup {M : Addr → Prop} {a : Addr} (dm : ∀ b, M b → H b ≠ none) (n : H a = none) (r : Rs K H M vs ds) : Res K M H (.ref a) (.tup ds) (upd H a (.tup vs)) :=
  ⟨new_same n, .inl ⟨rfl, by
    have q := r.same (new_same (o := .tup vs) n)
    exact .tup (.inl ⟨upd_same, fun m => dm a m n⟩) q.1 q.2⟩⟩
theorem res_lst {M : Addr → Prop} {a : Addr} (n : H a = none) (r : Rs K H M vs ds) : Res K M H (.ref a) (.seq .tmp ds) (upd H a (.lst vs)) :=
  ⟨new_same n, .inr ⟨rfl, a, rfl, n, vs, upd_same, r.new n⟩⟩
theorem res_imm {M : Addr → Prop} (i : d.imm = true) (r : R K H M v d) : Res K M H v d H := ⟨fun _ _ h => h, .inl ⟨i, r⟩⟩
theorem res_int {M : Addr → Prop} (i : Int) : Res K M H (.int i) (.int i) H := res_imm rfl (.int i)
theorem res_bl {M : Addr → Prop} (i : Bool) : Res K M H (.bl i) (.bl i) H := res_imm rfl (.bl i)
theorem res_str {M : Addr → Prop} (i : List Nat) : Res K M H (.str (mkS i)) (.str i) H := res_imm rfl (.str i)
theorem res_non {M : Addr → Prop} : Res K M H .non .non H := res_imm rfl .non
end

section
variable {X : Cx} {F : Df} {e a b c o : Expr} {pos apos cpos : Pos} {α β γ : WE} {es : List Expr} {τ : WA}
/-! ### displays -/
def wTup (τ : WA) : WE := fun ρ q => τ ρ fun as ρ1 => ∃ ds, argsD ρ1 as = some ds ∧ ds.all (fun d => !d.brw) = true ∧ ds.length ≤ sizeLine ∧ q (.tup (ds.map (D.to .froz))) ρ1
def wLst (τ : WA) : WE := fun ρ q => τ ρ fun as ρ1 => ∃ ds, argsD ρ1 as = some ds ∧ ds.all (fun d => !d.brw) = true ∧ ds.length ≤ sizeLine ∧ q (.seq .tmp (ds.map (D.to .froz))) ρ1
theorem de_tup {k} (ha : DA X F es τ) : DE X F (.Tuple es k pos) (wTup τ) := by
  refine ⟨fun bad σ ρ H q Q o w k => (pe_tup pa_run).to (ha.go bad σ ρ H _ _ o w fun vs as bad1 ρ1 H1 p1 w1 => ?_)⟩
  obtain ⟨ds, ed, hb, hz, w1⟩ := w1
  have r := p1.froz o ed hb
  refine ⟨by rw [r.1, List.length_map]; exact hz, fun p np => ?_⟩
  obtain ⟨bad2, p2⟩ := (res_tup (H := H1) (a := p) (fun b m => (p1.st.back).ok.mdom m) np r).po p1.st.back.ok
  exact k _ _ bad2 ρ1 _ (p1.st.back.po p2) w1
theorem de_lst {k} (ha : DA X F es τ) : DE X F (.List es k) (wLst τ) := by
  refine ⟨fun bad σ ρ H q Q o w k => (pe_lst pa_run).to (ha.go bad σ ρ H _ _ o w fun vs as bad1 ρ1 H1 p1 w1 => ?_)⟩
  obtain ⟨ds, ed, hb, hz, w1⟩ := w1
  have r := p1.froz o ed hb
  refine ⟨by rw [r.1, List.length_map]; exact hz, fun p np => ?_⟩
  obtain ⟨bad2, p2⟩ := (res_lst (H := H1) (a := p) np r).po p1.st.back.ok
  exact k _ _ bad2 ρ1 _ (p1.st.back.po p2) w1

/-! ### methods of built-in types, by values -/
def tyD (T : String) : D → Prop
  | .str _ => T = "str"
  | .int _ => T = "int"
  | .seq _ _ => T = "list"
  | .map _ _ => T = "dict"
  | .mapT _ _ => T = "dict"
  | _ => False
theorem tyD_V {K : PySem.W.Frag} {T : String} {H : Hp} {M : Addr → Prop} {x : V} {d : D} (h : tyD T d) (r : RVal K H M x d) : tyV K T x H := by
  cases d with
  | str l =>
    rcases r with ⟨_, r⟩ | ⟨z, _⟩
    · rw [r.strI]; exact h
    · cases z
  | int i =>
    rcases r with ⟨_, r⟩ | ⟨z, _⟩
    · rw [r.intI]; exact h
    · cases z
  | seq k ds =>
    rcases r with ⟨i, r⟩ | ⟨_, a, rfl, vs, e, _⟩
    · cases r with
      | seq h2 hl hi => exact .inl ⟨h, _, h2.elim (fun h => .inl h.1) (fun h => h H)⟩
    · exact .inl ⟨h, vs, .inl (.inl e)⟩
  | map k ds =>
    rcases r with ⟨i, r⟩ | ⟨_, a, rfl, vs, e, _⟩
    · cases r with
      | map h2 hk hl hi => exact .inr (.inr (.inl ⟨h, .inl ⟨_, h2.1⟩⟩))
    · exact .inr (.inr (.inl ⟨h, .inl ⟨_, e⟩⟩))
  | mapT k ds =>
    rcases r with ⟨i, r⟩ | ⟨_, a, rfl, vs, e, _⟩
    · cases r with
      | mapT h2 hk hl hi => exact .inr (.inr (.inl ⟨h, .inr ⟨_, h2.1⟩⟩))
    · exact .inr (.inr (.inl ⟨h, .inr ⟨_, e⟩⟩))
  | _ => exact False.elim h
def wMeth (T : String) (f : D → List D → (D → Prop) → Prop) (α : WE) (τ : WA) : WE := fun ρ q => α ρ fun x ρ1 => tyD T x ∧ τ ρ1 fun as ρ2 => (x.brw = false ∨ ρ2 = ρ1) ∧ ∃ ds, argsD ρ2 as = some ds ∧ f x ds fun d => q d ρ2
def VM (K : PySem.W.Frag) (r : V → List V → Hp → VK → Prop) (f : D → List D → (D → Prop) → Prop) : Prop := ∀ (H : Hp) (M : Addr → Prop) x dx xs ds (q : D → Prop) (Q : VK), (∀ b, M b → H b ≠ none) → RVal K H M x dx → xs.length = ds.length → (∀ (i : Nat) x d, xs[i]? = some x → ds[i]? = some d → RVal K H M x d) → f dx ds q → (∀ v d H', Res K M H v d H' → q d → Q v H') → r x xs H Q
theorem de_methn {T : String} {r : V → List V → Hp → VK → Prop} {f : D → List D → (D → Prop) → Prop} (h : PE X e (tBM X.K T r (run X o) (runA X es))) (hK : X.K = F.K) (hv : VM F.K r f) (ho : DE X F o α) (ha : DA X F es τ) : DE X F e (wMeth T f α τ) := by
  refine ⟨fun bad σ ρ H q Q o w k => h.to (ho.go bad σ ρ H _ _ o w fun x dx bad1 ρ1 H1 p1 w1 => ?_)⟩
  obtain ⟨ty, w1⟩ := w1
  refine ⟨by rw [hK]; exact tyD_V ty (p1.va.read p1.st.ok), ha.go bad1 σ ρ1 H1 _ _ p1.st.ok w1 fun vs as bad2 ρ2 H2 p2 w2 => ?_⟩
  obtain ⟨kp, ds, ed, w2⟩ := w2
  obtain ⟨hl, hr⟩ := p2.vals ed
  refine hv H2 _ x dx vs ds _ Q (fun b m => p2.st.ok.mdom m) ((p1.va.keep p1.st.ok p2.st kp).read p2.st.ok) hl hr w2 fun v d H3 res qd => ?_
  obtain ⟨bad3, p3⟩ := res.po p2.st.ok
  exact k v d bad3 ρ2 H3 ((p1.st.trans p2.st).po p3) qd
theorem de_meth {name : Str} {T id : String} {r : V → List V → Hp → VK → Prop} {f : D → List D → (D → Prop) → Prop} (pa : PlainAttrs T) (slot : Slot T name id) (hty : typeOf (.builtin id) = pure (.type "method_descriptor")) (hm : MtR X id r) (hK : X.K = F.K) (hv : VM F.K r f)
    (ho : DE X F o α) (ha : DA X F (e :: es) τ)
    (hbase : attributeBase o name X.env (eval o X.env) = eval o X.env := by rfl)
    (hfew : ((backTo cpos (starEach (e :: es) X.env)).all (fun x => !x.1) && (backToKw cpos (keywordEach [] X.env)).all (fun x => x.1.isSome)
      && decide ((e :: es).length + ([] : List Keyword).length + (if ([] : List Keyword).isEmpty then 0 else 1) < 30)) = true := by rfl)
    (hline : (apos.endLine == cpos.line) = true := by rfl) (hs : starEach (e :: es) X.env = (false, eval e X.env) :: starEach es X.env := by rfl) (hplain : (backTo cpos (starEach es X.env)).any (·.1) = false := by rfl) :
    DE X F (.Call (.Attribute o name apos) (e :: es) [] cpos) (wMeth T f α τ) := de_methn (pe_bm pa slot hty hm pe_run pa_run hbase hfew hline hs hplain) hK hv ho ha
def wMeth0 (T : String) (f : D → List D → (D → Prop) → Prop) (α : WE) : WE := fun ρ q => α ρ fun x ρ1 => tyD T x ∧ f x [] fun d => q d ρ1
theorem de_meth0 {name : Str} {T id : String} {r : V → List V → Hp → VK → Prop} {f : D → List D → (D → Prop) → Prop} (pa : PlainAttrs T) (slot : Slot T name id) (hty : typeOf (.builtin id) = pure (.type "method_descriptor")) (hm : MtR X id r) (hK : X.K = F.K) (hv : VM F.K r f)
    (ho : DE X F o α) (hbase : attributeBase o name X.env (eval o X.env) = eval o X.env := by rfl) (hline : (apos.endLine == cpos.line) = true := by rfl) : DE X F (.Call (.Attribute o name apos) [] [] cpos) (wMeth0 T f α) := by
  refine ⟨fun bad σ ρ H q Q o w k => (pe_bm0 pa slot hty hm pe_run hbase hline).to (ho.go bad σ ρ H _ _ o w fun x dx bad1 ρ1 H1 p1 w1 => ?_)⟩
  obtain ⟨ty, w1⟩ := w1
  refine ⟨by rw [hK]; exact tyD_V ty (p1.va.read p1.st.ok), ?_⟩
  refine hv H1 _ x dx [] [] _ Q (fun b m => p1.st.ok.mdom m) (p1.va.read p1.st.ok) rfl (fun i x d h => by simp at h) w1 fun v d H3 res qd => ?_
  obtain ⟨bad3, p3⟩ := res.po p1.st.ok
  exact k v d bad3 ρ1 H3 (p1.st.po p3) qd
end

/-! ### a slot's container is changed -/
section
variable {K : PySem.W.Frag} {H0 H H1 H2 : Hp} {pa : List (Option Addr)} {σ : L2.St} {bad bad1 bad2 : Addr → Prop} {ρ ρ1 ρ2 : VEnv} {v : V} {d d2 : D} {a : Addr} {ho : HO} {i : Nat}
theorem get_set_some {α : Type} {l : List α} {i j : Nat} {x y : α} (h : (l.set i x)[j]? = some y) : (j = i ∧ x = y ∧ i < l.length) ∨ (j ≠ i ∧ l[j]? = some y) := by
  by_cases hj : j = i
  · subst hj
    by_cases hl : j < l.length
    · rw [List.getElem?_set_self hl] at h; cases h; exact .inl ⟨rfl, rfl, hl⟩
    · rw [List.getElem?_eq_none (by simpa using hl)] at h; cases h
  · rw [List.getElem?_set_ne (Ne.symm hj)] at h; exact .inr ⟨hj, h⟩
theorem own_setc (hd : ρ[i]? = some (some d)) (hb : d.brw = true) (hb2 : d2.brw = true) (j : Nat) (c : Addr) : OwnAt σ (ρ.set i (some d2)) j c ↔ OwnAt σ ρ j c := by
  constructor
  · rintro ⟨h1, e, h2, h3⟩
    refine ⟨h1, ?_⟩
    rcases get_set_some h2 with ⟨rfl, h, _⟩ | ⟨_, h⟩
    · exact ⟨d, hd, hb⟩
    · exact ⟨e, h, h3⟩
  · rintro ⟨h1, e, h2, h3⟩
    refine ⟨h1, ?_⟩
    by_cases hj : j = i
    · subst hj
      exact ⟨d2, List.getElem?_set_self (List.getElem?_eq_some_iff.mp hd).1, hb2⟩
    · exact ⟨e, by rw [List.getElem?_set_ne (Ne.symm hj)]; exact h2, h3⟩
theorem mm_setc (hd : ρ[i]? = some (some d)) (hb : d.brw = true) (hb2 : d2.brw = true) : Mm bad σ (ρ.set i (some d2)) = Mm bad σ ρ := by
  funext b
  simp only [Mm, Own, own_setc hd hb hb2]
/-- the container at a of slot i is changed -/
theorem Stp.setc (o : Ok K H0 pa bad σ ρ H) (hd : ρ[i]? = some (some d)) (hb : d.brw = true) (hk2 : d2.kd = .own) (hb2 : d2.brw = true) (ha : σ[i]? = some (some (.ref a))) (r : RC K (upd H a ho) (Mm bad σ ρ) a d2) : Stp K H0 pa σ bad ρ H bad (ρ.set i (some d2)) (upd H a ho) := by
  have hO : OwnAt σ ρ i a := ⟨ha, d, hd, hb⟩
  have hne : H a ≠ none := o.mdom (.inr ⟨i, hO⟩)
  have ff : ∀ b x, H b = some x → ¬ Mm bad σ ρ b → upd H a ho b = some x := fun b x h n => by
    rw [upd_ne (fun e => n (.inr (by subst e; exact ⟨i, hO⟩)))]; exact h
  refine ⟨⟨?_, ?_, ?_, ?_, ?_, ?_, ?_, ?_⟩, fun j c => own_setc hd hb hb2 j c, fun b x h n => ?_, fun b h => ?_, fun _ h => h, fun _ h => .inl h, fun j e h k => ?_⟩
  · rw [List.length_set]; exact o.len
  · intro j e he
    rw [mm_setc hd hb hb2]
    rcases get_set_some he with ⟨rfl, h, _⟩ | ⟨hj, h⟩
    · cases h
      exact ⟨.ref a, ha, .inr ⟨hb2, a, rfl, r⟩⟩
    · obtain ⟨v, e1, s⟩ := o.sl j e h
      refine ⟨v, e1, s.mono (fun c ec eb => ?_) ff fun b m => .inl m⟩
      subst ec
      exact upd_ne fun z => hj (o.inj j i a ⟨z ▸ e1, e, h, eb⟩ hO)
  · intro j l c h1 h2
    exact o.inj j l c ((own_setc hd hb hb2 j c).mp h1) ((own_setc hd hb hb2 l c).mp h2)
  · intro j c h
    exact o.new j c ((own_setc hd hb hb2 j c).mp h)
  · intro j c h
    exact (own_setc hd hb hb2 j c).mpr (o.par j c h)
  · intro b x h n
    have hb : b ≠ a := fun z => by
      subst z
      rcases o.new i b hO with q | ⟨q, _⟩
      · exact n i q
      · rw [q] at h; cases h
    rw [upd_ne hb]; exact o.fr b x h n
  · rintro c ⟨j, h⟩ q
    exact o.ob c ⟨j, (own_setc hd hb hb2 j c).mp h⟩ q
  · intro b h
    have : b ≠ a := fun z => by rw [z, upd_same] at h; cases h
    rw [upd_ne this] at h
    exact o.dom b h
  · rw [upd_ne fun z => n ⟨i, by subst z; exact hO⟩]; exact h
  · have : b ≠ a := fun z => by rw [z, upd_same] at h; cases h
    rw [upd_ne this] at h; exact h
  · rcases get_set_some h with ⟨rfl, h, _⟩ | ⟨hj, h⟩
    · cases h; rw [hk2] at k; cases k
    · exact ⟨e, h, k⟩
end
section
variable {X : Cx} {F : Df} {e a b c o : Expr} {pos apos cpos npos : Pos} {α β γ : WE} {es : List Expr} {τ : WA} {x : Str}
/-- xs.m(..) of a slot's own container: g tells the content behind and the answer -/
def wMut (T : String) (i : Nat) (g : D → List D → (D → D → Prop) → Prop) (τ : WA) : WE := fun ρ q => (∃ d0, ρ[i]? = some (some d0) ∧ d0.brw = true ∧ tyD T d0) ∧ τ ρ fun as ρ1 => ∃ ds d1, argsD ρ1 as = some ds ∧ ρ1[i]? = some (some d1) ∧ d1.kd = .own ∧
  ds.all (fun d => !d.brw) = true ∧ g d1 (ds.map (D.to .froz)) fun d2 r => d2.kd = .own ∧ q r (ρ1.set i (some d2))
def VU (K : PySem.W.Frag) (r : V → List V → Hp → VK → Prop) (g : D → List D → (D → D → Prop) → Prop) : Prop := ∀ (H : Hp) (M : Addr → Prop) a d xs ds (q : D → D → Prop) (Q : VK), (∀ b, M b → H b ≠ none) → RC K H M a d → M a → Rs K H M xs ds → g d ds q →
  (∀ v r d2 ho, (∀ b x, H b = some x → ¬ M b → upd H a ho b = some x) → R K (upd H a ho) M v r → RC K (upd H a ho) M a d2 → q d2 r → Q v (upd H a ho)) → r (.ref a) xs H Q
theorem kd_own {d : D} (h : d.kd = .own) : d.brw = true := by unfold D.brw; rw [h]
theorem de_mutn {T : String} {i : Nat} {r : V → List V → Hp → VK → Prop} {g : D → List D → (D → D → Prop) → Prop} (h : PE X e (tBM X.K T r (tVar i) (runA X es))) (hK : X.K = F.K) (hv : VU F.K r g) (ha : DA X F es τ) : DE X F e (wMut T i g τ) := by
  refine ⟨fun bad σ ρ H q Q o w k => h.to ?_⟩
  obtain ⟨⟨d0, e0, b0, ty⟩, w⟩ := w
  obtain ⟨v, ev, s⟩ := o.sl i d0 e0
  obtain ⟨z, _⟩ | ⟨_, a, rfl, r0⟩ := s
  · rw [b0] at z; cases z
  refine ⟨.ref a, ev, by rw [hK]; exact tyD_V ty (.inr ⟨brw_imm b0, a, rfl, r0⟩), ha.go bad σ ρ H _ _ o w fun vs as bad1 ρ1 H1 p1 w1 => ?_⟩
  obtain ⟨ds, d1, ed, e1, k1, nb, w1⟩ := w1
  have o1 := p1.st.back.ok
  obtain ⟨v', ev', s'⟩ := o1.sl i d1 e1
  rw [ev] at ev'; cases ev'
  obtain ⟨z, _⟩ | ⟨_, a', ea, r1⟩ := s'
  · rw [kd_own k1] at z; cases z
  cases ea
  have hO : OwnAt σ ρ1 i a := ⟨ev, d1, e1, kd_own k1⟩
  refine hv H1 (Mm bad σ ρ1) a d1 vs _ _ Q (fun b m => o1.mdom m) r1 (.inr ⟨i, hO⟩) (p1.froz o ed nb) w1 fun v r d2 ho hf rv rc qd => ?_
  obtain ⟨k2, qd⟩ := qd
  have st := Stp.setc o1 e1 (kd_own k1) k2 (kd_own k2) ev rc
  exact k v r bad _ _ ((p1.st.back.trans st).po (.imm st.ok rv.imm (by rw [mm_setc e1 (kd_own k1) (kd_own k2)]; exact rv))) qd
theorem de_mut {i : Nat} {name : Str} {T id : String} {r : V → List V → Hp → VK → Prop} {g : D → List D → (D → D → Prop) → Prop} (pa : PlainAttrs T) (slot : Slot T name id) (hty : typeOf (.builtin id) = pure (.type "method_descriptor")) (hm : MtR X id r) (hK : X.K = F.K) (hv : VU F.K r g)
    (hN : X.N[i]? = some x) (hvis : Vis X.env.scope x) (ha : DA X F (e :: es) τ) (hd : (x == ("__debug__" : Str)) = false := by decide) (hcd : (x == ("__classdict__" : Str)) = false := by decide)
    (hbase : attributeBase (.Name x npos) name X.env (eval (.Name x npos) X.env) = eval (.Name x npos) X.env := by rfl)
    (hfew : ((backTo cpos (starEach (e :: es) X.env)).all (fun x => !x.1) && (backToKw cpos (keywordEach [] X.env)).all (fun x => x.1.isSome)
      && decide ((e :: es).length + ([] : List Keyword).length + (if ([] : List Keyword).isEmpty then 0 else 1) < 30)) = true := by rfl)
    (hline : (apos.endLine == cpos.line) = true := by rfl) (hs : starEach (e :: es) X.env = (false, eval e X.env) :: starEach es X.env := by rfl) (hplain : (backTo cpos (starEach es X.env)).any (·.1) = false := by rfl) :
    DE X F (.Call (.Attribute (.Name x npos) name apos) (e :: es) [] cpos) (wMut T i g τ) := de_mutn (pe_bm pa slot hty hm (pe_var hN hvis hd hcd) pa_run hbase hfew hline hs hplain) hK hv ha
def wMut0 (T : String) (i : Nat) (g : D → List D → (D → D → Prop) → Prop) : WE := fun ρ q => ∃ d1, ρ[i]? = some (some d1) ∧ d1.kd = .own ∧ tyD T d1 ∧ g d1 [] fun d2 r => d2.kd = .own ∧ q r (ρ.set i (some d2))
theorem de_mut0 {i : Nat} {name : Str} {T id : String} {r : V → List V → Hp → VK → Prop} {g : D → List D → (D → D → Prop) → Prop} (pa : PlainAttrs T) (slot : Slot T name id) (hty : typeOf (.builtin id) = pure (.type "method_descriptor")) (hm : MtR X id r) (hK : X.K = F.K) (hv : VU F.K r g)
    (hN : X.N[i]? = some x) (hvis : Vis X.env.scope x) (hd : (x == ("__debug__" : Str)) = false := by decide) (hcd : (x == ("__classdict__" : Str)) = false := by decide)
    (hbase : attributeBase (.Name x npos) name X.env (eval (.Name x npos) X.env) = eval (.Name x npos) X.env := by rfl) (hline : (apos.endLine == cpos.line) = true := by rfl) :
    DE X F (.Call (.Attribute (.Name x npos) name apos) [] [] cpos) (wMut0 T i g) := by
  refine ⟨fun bad σ ρ H q Q o w k => (pe_bm0 pa slot hty hm (pe_var hN hvis hd hcd) hbase hline).to ?_⟩
  obtain ⟨d1, e1, k1, ty, w1⟩ := w
  obtain ⟨v, ev, s⟩ := o.sl i d1 e1
  obtain ⟨z, _⟩ | ⟨_, a, rfl, r1⟩ := s
  · rw [kd_own k1] at z; cases z
  have hO : OwnAt σ ρ i a := ⟨ev, d1, e1, kd_own k1⟩
  refine ⟨.ref a, ev, by rw [hK]; exact tyD_V ty (.inr ⟨brw_imm (kd_own k1), a, rfl, r1⟩), ?_⟩
  refine hv H (Mm bad σ ρ) a d1 [] [] _ Q (fun b m => o.mdom m) r1 (.inr ⟨i, hO⟩) .nil w1 fun v r d2 ho hf rv rc qd => ?_
  obtain ⟨k2, qd⟩ := qd
  have st := Stp.setc o e1 (kd_own k1) k2 (kd_own k2) ev rc
  exact k v r bad _ _ (st.po (.imm st.ok rv.imm (by rw [mm_setc e1 (kd_own k1) (kd_own k2)]; exact rv))) qd
end
end VL

namespace VL
open PySem PySem.Spec PyProof.Rows L2
/-! ### a slot is stored -/
def D.keep (d : D) : D := if d.isTmp then d.to .own else d
def D.res (d : D) : D := if d.brw then d.to .tmp else d
theorem keep_imm {d : D} (h : d.imm = true) : d.keep = d := by
  unfold D.keep
  rw [if_neg]
  intro z; rw [tmp_imm z] at h; cases h
theorem keep_tmp {d : D} (h : d.isTmp = true) : d.keep = d.to .own := by
  unfold D.keep; rw [if_pos h]
theorem own_brw {d : D} (h : d.imm = false) : (d.to .own).brw = true := by
  cases d <;> first | rfl | cases h
section
variable {K : PySem.W.Frag} {H0 H H1 H2 : Hp} {pa : List (Option Addr)} {σ : L2.St} {bad bad1 bad2 : Addr → Prop} {ρ ρ1 ρ2 : VEnv} {v : V} {d : D} {vs : List V} {as : List Arg} {ds : List D} {i : Nat}
/-- may slot i be stored to: no parameter's own container stands there -/
def Fre (pa : List (Option Addr)) (i : Nat) : Prop := ∀ a : Addr, pa[i]? ≠ some (some a)
theorem Fre.of (h : pa.length ≤ i) : Fre pa i := fun a e => by rw [List.getElem?_eq_none h] at e; cases e
theorem Ok.fre (o : Ok K H0 pa bad σ ρ H) (h : ∀ d, ρ[i]? = some (some d) → d.brw = false) : Fre pa i := fun a e => by
  obtain ⟨_, d, h1, h2⟩ := o.par i a e
  rw [h d h1] at h2; cases h2
theorem Ok.rc_par {c : Addr} (o : Ok K H0 pa bad σ ρ H) (h : pa[i]? = some (some c)) (hd : ρ[i]? = some (some d)) : RC K H (Mm bad σ ρ) c d := by
  obtain ⟨h1, d', h2, h3⟩ := o.par i c h
  rw [hd] at h2; cases h2
  obtain ⟨v, ev, s⟩ := o.sl i d hd
  rw [h1] at ev; cases ev
  obtain ⟨z, _⟩ | ⟨_, a, e, r⟩ := s
  · rw [h3] at z; cases z
  · cases e; exact r
theorem Ok.put (o : Ok K H0 pa bad σ ρ H) (f : Fre pa i) (hi : i < ρ.length) (im : d.imm = true) (r : R K H (Mm bad σ ρ) v d) : Ok K H0 pa bad (σ.set i (some v)) (ρ.set i (some d)) H := by
  have own : ∀ j a, OwnAt (σ.set i (some v)) (ρ.set i (some d)) j a ↔ j ≠ i ∧ OwnAt σ ρ j a := fun j a => by
    constructor
    · rintro ⟨h1, e, h2, h3⟩
      rcases get_set_some h2 with ⟨rfl, h, _⟩ | ⟨hj, h⟩
      · cases h; rw [imm_brw im] at h3; cases h3
      · rw [List.getElem?_set_ne (Ne.symm hj)] at h1
        exact ⟨hj, h1, e, h, h3⟩
    · rintro ⟨hj, h1, e, h2, h3⟩
      exact ⟨by rw [List.getElem?_set_ne (Ne.symm hj)]; exact h1, e, by rw [List.getElem?_set_ne (Ne.symm hj)]; exact h2, h3⟩
  have mm : ∀ b, Mm bad (σ.set i (some v)) (ρ.set i (some d)) b → Mm bad σ ρ b := fun b m => m.imp id fun ⟨j, h⟩ => ⟨j, ((own j b).mp h).2⟩
  refine ⟨by rw [List.length_set, List.length_set]; exact o.len, fun j e he => ?_, fun j l a h1 h2 => o.inj j l a ((own j a).mp h1).2 ((own l a).mp h2).2, fun j a h => o.new j a ((own j a).mp h).2, fun j a h => (own j a).mpr ⟨?_, o.par j a h⟩, o.fr, fun a ⟨j, h⟩ => o.ob a ⟨j, ((own j a).mp h).2⟩, o.dom⟩
  · rcases get_set_some he with ⟨rfl, h, _⟩ | ⟨hj, h⟩
    · cases h
      exact ⟨v, List.getElem?_set_self (by rw [o.len]; exact hi), .inl ⟨imm_brw im, r.less mm⟩⟩
    · obtain ⟨u, e1, s⟩ := o.sl j e h
      exact ⟨u, by rw [List.getElem?_set_ne (Ne.symm hj)]; exact e1, s.mono (fun _ _ _ => rfl) (fun _ _ h _ => h) fun b m => .inl (mm b m)⟩
  · rintro rfl; exact f a h
theorem Ok.putT {a : Addr} (o : Ok K H0 pa bad σ ρ H) (f : Fre pa i) (hi : i < ρ.length) (t : d.imm = false) (r : RC K H (Mm bad σ ρ) a d) (h0 : H0 a = none) (hb : bad a) : Ok K H0 pa (fun b => bad b ∧ b ≠ a) (σ.set i (some (.ref a))) (ρ.set i (some (d.to .own))) H := by
  have own : ∀ j c, OwnAt (σ.set i (some (.ref a))) (ρ.set i (some (d.to .own))) j c ↔ (j ≠ i ∧ OwnAt σ ρ j c) ∨ (j = i ∧ c = a) := fun j c => by
    constructor
    · rintro ⟨h1, e, h2, h3⟩
      rcases get_set_some h2 with ⟨rfl, h, _⟩ | ⟨hj, h⟩
      · rw [List.getElem?_set_self (by rw [o.len]; exact hi)] at h1
        cases h1
        exact .inr ⟨rfl, rfl⟩
      · rw [List.getElem?_set_ne (Ne.symm hj)] at h1
        exact .inl ⟨hj, h1, e, h, h3⟩
    · rintro (⟨hj, h1, e, h2, h3⟩ | ⟨rfl, rfl⟩)
      · exact ⟨by rw [List.getElem?_set_ne (Ne.symm hj)]; exact h1, e, by rw [List.getElem?_set_ne (Ne.symm hj)]; exact h2, h3⟩
      · exact ⟨List.getElem?_set_self (by rw [o.len]; exact hi), _, List.getElem?_set_self hi, own_brw t⟩
  have na : ∀ c, Own σ ρ c → c ≠ a := fun c h e => o.ob c h (e ▸ hb)
  have mm : ∀ b, Mm (fun b => bad b ∧ b ≠ a) (σ.set i (some (.ref a))) (ρ.set i (some (d.to .own))) b → Mm bad σ ρ b := fun b m => by
    rcases m with m | ⟨j, h⟩
    · exact .inl m.1
    · rcases (own j b).mp h with h | ⟨_, rfl⟩
      · exact .inr ⟨j, h.2⟩
      · exact .inl hb
  refine ⟨by rw [List.length_set, List.length_set]; exact o.len, fun j e he => ?_, fun j l c h1 h2 => ?_, fun j c h => ?_, fun j c h => (own j c).mpr (.inl ⟨?_, o.par j c h⟩), o.fr, fun c ⟨j, h⟩ z => ?_, fun b z => ⟨(o.dom b z).1, fun q => (o.dom b z).2 q.1⟩⟩
  · rcases get_set_some he with ⟨rfl, h, _⟩ | ⟨hj, h⟩
    · cases h
      exact ⟨.ref a, List.getElem?_set_self (by rw [o.len]; exact hi), .inr ⟨own_brw t, a, rfl, (r.less mm).to⟩⟩
    · obtain ⟨u, e1, s⟩ := o.sl j e h
      exact ⟨u, by rw [List.getElem?_set_ne (Ne.symm hj)]; exact e1, s.mono (fun _ _ _ => rfl) (fun _ _ h _ => h) fun b m => .inl (mm b m)⟩
  · have q1 := (own j c).mp h1
    have q2 := (own l c).mp h2
    rcases q1 with q1 | ⟨e1, e2⟩
    · rcases q2 with q2 | ⟨e3, e4⟩
      · exact o.inj j l c q1.2 q2.2
      · exact (na c ⟨j, q1.2⟩ e4).elim
    · rcases q2 with q2 | ⟨e3, e4⟩
      · exact (na c ⟨l, q2.2⟩ e2).elim
      · rw [e1, e3]
  · rcases (own j c).mp h with h | ⟨rfl, rfl⟩
    · exact o.new j c h.2
    · exact .inr ⟨h0, f⟩
  · rintro rfl; exact f c h
  · rcases (own j c).mp h with h | ⟨rfl, rfl⟩
    · exact o.ob c ⟨j, h.2⟩ z.1
    · exact z.2 rfl
/-- a value goes to a slot -/
theorem Ok.putV {Hs : Hp} (o : Ok K H0 pa bad σ ρ H) (f : Fre pa i) (hi : i < ρ.length) (va : Va K σ bad ρ Hs H v d) (nb : d.brw = false) (h0 : ∀ a, Hs a = none → H0 a = none ∧ ¬ bad2 a) (hb2 : ∀ b, bad2 b → bad b) :
    ∃ bad3 : Addr → Prop, (∀ b, bad2 b → bad3 b) ∧ (∀ b, bad3 b → bad b) ∧ (∀ b, bad b → v ≠ .ref b ∨ d.imm = true → bad3 b) ∧ Ok K H0 pa bad3 (σ.set i (some v)) (ρ.set i (some d.keep)) H := by
  rcases va with ⟨im, r⟩ | ⟨t, a, rfl, r, n, ba⟩ | ⟨b, _⟩
  · rw [keep_imm im]
    exact ⟨bad, hb2, fun _ h => h, fun _ h _ => h, o.put f hi im r⟩
  · rw [keep_tmp t]
    refine ⟨fun b => bad b ∧ b ≠ a, fun b h => ⟨hb2 b h, ?_⟩, fun b h => h.1, fun b h1 h2 => ⟨h1, ?_⟩, o.putT f hi (tmp_imm t) r (h0 a n).1 ba⟩
    · rintro rfl; exact (h0 _ n).2 h
    · rintro rfl
      rcases h2 with h2 | h2
      · exact h2 rfl
      · rw [tmp_imm t] at h2; cases h2
  · rw [nb] at b; cases b
end
section
variable {F : Df} {bad : Addr → Prop} {σ σ1 σ2 : L2.St} {ρ ρ1 ρ2 : VEnv} {H H1 H2 : Hp}
theorem Stl.refl (o : Ok F.K F.H0 F.pa bad σ ρ H) : Stl F bad σ ρ H σ ρ H := ⟨⟨o, fun _ _ h _ => h, fun _ h => h, fun _ h => .inl h⟩, fun _ d h k => ⟨⟨d, h, k⟩, rfl⟩⟩
theorem Sst.trans (a : Sst F bad σ ρ H σ1 ρ1 H1) (b : Sst F bad σ1 ρ1 H1 σ2 ρ2 H2) : Sst F bad σ ρ H σ2 ρ2 H2 where
  ok := b.ok
  fr := fun c x h n => b.fr c x (a.fr c x h n) fun z => (a.own c z).elim n fun e => by rw [e] at h; cases h
  dom := fun c h => a.dom c (b.dom c h)
  own := fun c h => (b.own c h).elim (fun h => a.own c h) fun h => .inr (a.dom c h)
theorem Stl.trans (a : Stl F bad σ ρ H σ1 ρ1 H1) (b : Stl F bad σ1 ρ1 H1 σ2 ρ2 H2) : Stl F bad σ ρ H σ2 ρ2 H2 :=
  ⟨a.toSst.trans b.toSst, fun i d h k => let ⟨⟨d1, h1, k1⟩, e1⟩ := b.lk i d h k; let ⟨q, e2⟩ := a.lk i d1 h1 k1; ⟨q, e1.trans e2⟩⟩
theorem Stp.sst {bad1 : Addr → Prop} (t : Stp F.K F.H0 F.pa σ bad ρ H bad1 ρ1 H1) : Stl F bad σ ρ H σ ρ1 H1 := ⟨⟨t.back.ok, t.fr, t.dom, fun a h => .inl ((t.ow a).mp h)⟩, fun i d h k => ⟨t.lk i d h k, rfl⟩⟩
/-- a step, then a slot stored -/
theorem Stp.put {bad1 bad3 : Addr → Prop} {i : Nat} {v : V} {d : D} (t : Stp F.K F.H0 F.pa σ bad ρ H bad1 ρ1 H1) (h3 : ∀ b, bad b → bad3 b) (hv : ∀ a, v = .ref a → d.brw = true → H a = none) (hk : d.kd ≠ .lock) (o3 : Ok F.K F.H0 F.pa bad3 (σ.set i (some v)) (ρ1.set i (some d)) H1) : Stl F bad σ ρ H (σ.set i (some v)) (ρ1.set i (some d)) H1 := by
  refine ⟨⟨o3.less h3, t.fr, t.dom, fun a ⟨j, h1, e, h2, hb⟩ => ?_⟩, fun j e h k => ?_⟩
  · rcases get_set_some h2 with ⟨rfl, h, hl⟩ | ⟨hj, h⟩
    · cases h
      rcases get_set_some h1 with ⟨_, h, _⟩ | ⟨hj, _⟩
      · cases h; exact .inr (hv a rfl hb)
      · exact absurd rfl hj
    · rw [List.getElem?_set_ne (Ne.symm hj)] at h1
      exact .inl ((t.ow a).mp ⟨j, h1, e, h, hb⟩)
  · rcases get_set_some h with ⟨rfl, h, _⟩ | ⟨hj, h⟩
    · cases h; exact absurd k hk
    · exact ⟨t.lk j e h k, by rw [List.getElem?_set_ne (Ne.symm hj)]⟩
theorem keep_lock {d : D} (nb : d.brw = false) : d.keep.kd ≠ .lock := by
  rcases three d with h | h | h
  · rw [keep_imm h]; intro z; unfold D.imm at h; rw [z] at h; cases h
  · rw [keep_tmp h]; cases d <;> first | (intro z; cases z) | cases h
  · rw [nb] at h; cases h
end
section
variable {X : Cx} {F : Df} {e a b c o : Expr} {pos apos cpos : Pos} {α β γ : WE} {es : List Expr} {τ : WA} {θ : WTs} {st : Stmt} {sts rest : List Stmt} {w w1 w2 w' : WS}
/-! ### statements -/
def runS1 (X : Cx) (st : Stmt) : TS := fun D σ H => ∀ (pins : List (Addr × Obj)) (s : Shared), Inv X pins σ H s → wpAny (model X.prog X.w) X.A (exec st X.env) (SP X pins D) X.xe s
theorem ps_run : PS X st (runS1 X st) := ⟨fun pins s _ _ _ I h => h pins s I⟩
theorem _root_.L2.PS.to {t : TS} (p : PS X st t) {σ : L2.St} {H : Hp} {D : Ends} (h : t D σ H) : runS1 X st D σ H := fun pins s I => p.run pins s σ H D I h
structure D1 (X : Cx) (F : Df) (st : Stmt) (w : WS) : Prop where
  go : ∀ (bad : Addr → Prop) (σ : L2.St) (ρ : VEnv) (H : Hp) (E : VEnd) (D : Ends), Ok F.K F.H0 F.pa bad σ ρ H → w E ρ →
    (∀ σ' ρ' H', Stl F bad σ ρ H σ' ρ' H' → E.nx ρ' → D.nx σ' H') → (∀ v d σ' ρ' H', Sst F bad σ ρ H σ' ρ' H' → RtV F bad σ' ρ' H' v d → E.rt d ρ' → D.rt v H') →
    (∀ σ' ρ' H', Stl F bad σ ρ H σ' ρ' H' → E.bk ρ' → D.bk σ' H') → (∀ σ' ρ' H', Stl F bad σ ρ H σ' ρ' H' → E.ct ρ' → D.ct σ' H') → runS1 X st D σ H
def wNext : WS := fun E ρ => E.nx ρ
def wSeq (w w' : WS) : WS := fun E ρ => w { E with nx := fun ρ1 => w' E ρ1 } ρ
theorem ds_nil : DS X F [] wNext := ⟨fun bad σ ρ H E D o w kn kr kb kc => pss_nil.to (kn σ ρ H (.refl o) w)⟩
theorem ds_cons (h1 : D1 X F st w) (h2 : DS X F rest w') : DS X F (st :: rest) (wSeq w w') := by
  refine ⟨fun bad σ ρ H E D o hw kn kr kb kc => (pss_cons ps_run pss_run).to (h1.go bad σ ρ H _ _ o hw (fun σ1 ρ1 H1 s1 w1 => ?_) kr kb kc)⟩
  exact h2.go bad σ1 ρ1 H1 E D s1.ok w1 (fun σ2 ρ2 H2 s2 => kn σ2 ρ2 H2 (s1.trans s2)) (fun v d σ2 ρ2 H2 s2 => kr v d σ2 ρ2 H2 (s1.toSst.trans s2)) (fun σ2 ρ2 H2 s2 => kb σ2 ρ2 H2 (s1.trans s2)) fun σ2 ρ2 H2 s2 => kc σ2 ρ2 H2 (s1.trans s2)
theorem ds_one (h1 : D1 X F st w) : DS X F [st] w := ⟨fun bad σ ρ H E D o hw kn kr kb kc => (pss_one ps_run).to (h1.go bad σ ρ H E D o hw kn kr kb kc)⟩
theorem d1_pass : D1 X F (.Pass pos) wNext := ⟨fun bad σ ρ H E D o w kn kr kb kc => ps_pass.to (kn σ ρ H (.refl o) w)⟩
theorem d1_break : D1 X F (.Break pos) (fun E ρ => E.bk ρ) := ⟨fun bad σ ρ H E D o w kn kr kb kc => ps_break.to (kb σ ρ H (.refl o) w)⟩
theorem d1_cont : D1 X F (.Continue pos) (fun E ρ => E.ct ρ) := ⟨fun bad σ ρ H E D o w kn kr kb kc => ps_continue.to (kc σ ρ H (.refl o) w)⟩
theorem d1_doc {x j pos pos'} : D1 X F (.Expr (.Constant (.str x) j pos) pos') wNext := ⟨fun bad σ ρ H E D o w kn kr kb kc => ps_doc.to (kn σ ρ H (.refl o) w)⟩
theorem d1_never : D1 X F st (fun _ _ => False) := ⟨fun bad σ ρ H E D o w => w.elim⟩
theorem ds_never : DS X F sts (fun _ _ => False) := ⟨fun bad σ ρ H E D o w => w.elim⟩
def wExpr (α : WE) : WS := fun E ρ => α ρ fun _ ρ1 => E.nx ρ1
theorem d1_expr (ha : DE X F e α) (hs : swapsWith e none pos.line X.env = pure false := by rfl) : D1 X F (.Expr e pos) (wExpr α) :=
  ⟨fun bad σ ρ H E D o w kn kr kb kc => (ps_expr pe_run hs).to (ha.go bad σ ρ H _ _ o w fun v d bad1 ρ1 H1 p1 w1 => kn σ ρ1 H1 p1.st.sst w1)⟩
def wRet (α : WE) : WS := fun E ρ => α ρ fun x ρ1 => x.brw = false ∧ E.rt x ρ1
theorem d1_ret (ha : DE X F e α) : D1 X F (.Return (some e) pos) (wRet α) := by
  refine ⟨fun bad σ ρ H E D o w kn kr kb kc => (ps_ret pe_run).to (ha.go bad σ ρ H _ _ o w fun v d bad1 ρ1 H1 p1 w1 => ?_)⟩
  obtain ⟨nb, w1⟩ := w1
  refine kr v d σ ρ1 H1 p1.st.sst.toSst ?_ w1
  rcases p1.va with ⟨im, r⟩ | ⟨t, a, rfl, r, n, ba⟩ | ⟨b, _⟩
  · exact .inl ⟨im, r.less fun b m => m.imp (p1.st.bd b) id⟩
  · have lss : ∀ b, (bad b ∨ (∃ i : Nat, F.pa[i]? = some (some b)) ∨ b = a) → Mm bad1 σ ρ1 b := fun b m => by
      rcases m with m | ⟨i, m⟩ | rfl
      · exact .inl (p1.st.bd b m)
      · exact .inr ⟨i, p1.st.ok.par i b m⟩
      · exact .inl ba
    exact .inr ⟨t, a, rfl, r.less lss, (o.dom a n).1, fun i c d' h1 h2 => (p1.st.ok.rc_par h1 h2).less lss⟩
  · rw [nb] at b; cases b
theorem d1_retN : D1 X F (.Return none pos) (fun E ρ => E.rt .non ρ) := ⟨fun bad σ ρ H E D o w kn kr kb kc => ps_retN.to (kr .non .non σ ρ H (Stl.refl o).toSst (.inl ⟨rfl, .non⟩) w)⟩
/-- return of a local name, a container perhaps -/
def wRetV (i : Nat) : WS := fun E ρ => ∃ d, ρ[i]? = some (some d) ∧ E.rt d.res ρ
theorem d1_retv (i : Nat) {x : Str} {npos : Pos} (hp : F.pa.length ≤ i) (hN : X.N[i]? = some x := by rfl) (hv : Vis X.env.scope x := by first | exact Or.inl rfl | exact Or.inr (Or.inl rfl) | exact Or.inr (Or.inr rfl)) (hd : (x == ("__debug__" : Str)) = false := by decide)
    (hcd : (x == ("__classdict__" : Str)) = false := by decide) : D1 X F (.Return (some (.Name x npos)) pos) (wRetV i) := by
  refine ⟨fun bad σ ρ H E D o w kn kr kb kc => (ps_ret (pe_var hN hv hd hcd)).to ?_⟩
  obtain ⟨d, ed, w⟩ := w
  obtain ⟨v, ev, s⟩ := o.sl i d ed
  refine ⟨v, ev, kr v d.res σ ρ H (Stl.refl o).toSst ?_ w⟩
  rcases s with ⟨b, r⟩ | ⟨b, a, rfl, r⟩
  · unfold VL.D.res; rw [if_neg (by rw [b]; exact Bool.false_ne_true)]
    exact .inl ⟨r.imm, r⟩
  · unfold VL.D.res; rw [if_pos b]
    have hO : OwnAt σ ρ i a := ⟨ev, d, ed, b⟩
    have lss : ∀ b, (bad b ∨ (∃ i : Nat, F.pa[i]? = some (some b)) ∨ b = a) → Mm bad σ ρ b := fun c m => by
      rcases m with m | ⟨j, m⟩ | rfl
      · exact .inl m
      · exact .inr ⟨j, o.par j c m⟩
      · exact .inr ⟨i, hO⟩
    refine .inr ⟨?_, a, rfl, (r.less lss).to, ?_, fun i c d' h1 h2 => (o.rc_par h1 h2).less lss⟩
    · cases d <;> first | rfl | cases b
    · rcases o.new i a hO with z | z
      · rw [List.getElem?_eq_none hp] at z; cases z
      · exact z.1
def wIf (θ : WTs) (w w' : WS) : WS := fun E ρ => θ ρ fun c ρ1 => if c = true then w E ρ1 else w' E ρ1
theorem d1_if {sb : List Stmt} (hc : DT X F c θ) (ha : DS X F sts w) (hb : DS X F sb w') : D1 X F (.If c sts sb pos) (wIf θ w w') := by
  refine ⟨fun bad σ ρ H E D o hw kn kr kb kc => (ps_if pt_run pss_run pss_run).to (hc.go bad σ ρ H _ _ o hw fun cc ρ1 H1 s1 w1 => ?_)⟩
  have s1' := s1.sst
  cases cc with
  | true =>
    rw [if_pos rfl] at w1 ⊢
    exact ha.go bad σ ρ1 H1 E D s1.ok w1 (fun σ2 ρ2 H2 s2 => kn σ2 ρ2 H2 (s1'.trans s2)) (fun v d σ2 ρ2 H2 s2 => kr v d σ2 ρ2 H2 (s1'.toSst.trans s2)) (fun σ2 ρ2 H2 s2 => kb σ2 ρ2 H2 (s1'.trans s2)) fun σ2 ρ2 H2 s2 => kc σ2 ρ2 H2 (s1'.trans s2)
  | false =>
    rw [if_neg Bool.false_ne_true] at w1 ⊢
    exact hb.go bad σ ρ1 H1 E D s1.ok w1 (fun σ2 ρ2 H2 s2 => kn σ2 ρ2 H2 (s1'.trans s2)) (fun v d σ2 ρ2 H2 s2 => kr v d σ2 ρ2 H2 (s1'.toSst.trans s2)) (fun σ2 ρ2 H2 s2 => kb σ2 ρ2 H2 (s1'.trans s2)) fun σ2 ρ2 H2 s2 => kc σ2 ρ2 H2 (s1'.trans s2)
/-! ### x = e -/
def wSet (i : Nat) (α : WE) : WS := fun E ρ => α ρ fun x ρ1 => x.brw = false ∧ i < ρ1.length ∧ E.nx (ρ1.set i (some x.keep))
def wSetP (i : Nat) (α : WE) : WS := fun E ρ => α ρ fun x ρ1 => x.brw = false ∧ i < ρ1.length ∧ (∀ d, ρ1[i]? = some (some d) → d.brw = false) ∧ E.nx (ρ1.set i (some x.keep))
theorem Po.put {v : V} {d : D} {bad bad1 : Addr → Prop} {σ : L2.St} {ρ ρ1 : VEnv} {H H1 : Hp} {i : Nat} (o : Ok F.K F.H0 F.pa bad σ ρ H) (p : Po F.K F.H0 F.pa σ bad ρ H v d bad1 ρ1 H1) (f : Fre F.pa i) (hi : i < ρ1.length) (nb : d.brw = false) : Stl F bad σ ρ H (σ.set i (some v)) (ρ1.set i (some d.keep)) H1 := by
  obtain ⟨bad3, h1, _, _, o3⟩ := p.st.ok.putV f hi p.va nb (bad2 := bad) (fun a n => o.dom a n) p.st.bd
  refine p.st.put h1 (fun a e b => ?_) (keep_lock nb) o3
  rcases p.va with ⟨im, r⟩ | ⟨t, a', rfl, r, n, ba⟩ | ⟨b, _⟩
  · rw [keep_imm im, imm_brw im] at b; cases b
  · cases e; exact n
  · rw [nb] at b; cases b
theorem d1_set {i : Nat} {x : Str} {npos : Pos} (hp : F.pa.length ≤ i) (ha : DE X F e α) (hN : X.N.Nodup) (hi : X.N[i]? = some x := by rfl) (hx : Loc X.env.scope x := by first | exact Or.inl rfl | exact Or.inr rfl) (hs : swapsWith e (some (.Name x npos)) pos.line X.env = pure false := by rfl)
    (hf : X.fn x = true ∨ X.env.scope.names.lookup x = some .local := by first | exact .inl rfl | exact .inr rfl | assumption) : D1 X F (.Assign [.Name x npos] e pos) (wSet i α) := by
  refine ⟨fun bad σ ρ H E D o w kn kr kb kc => (ps_set hN hi hx pe_run hs hf).to (ha.go bad σ ρ H _ _ o w fun v d bad1 ρ1 H1 p1 w1 => ?_)⟩
  obtain ⟨nb, hl, w1⟩ := w1
  exact kn _ _ H1 (p1.put o (.of hp) hl nb) w1
theorem d1_setP {i : Nat} {x : Str} {npos : Pos} (ha : DE X F e α) (hN : X.N.Nodup) (hi : X.N[i]? = some x := by rfl) (hx : Loc X.env.scope x := by first | exact Or.inl rfl | exact Or.inr rfl) (hs : swapsWith e (some (.Name x npos)) pos.line X.env = pure false := by rfl)
    (hf : X.fn x = true ∨ X.env.scope.names.lookup x = some .local := by first | exact .inl rfl | exact .inr rfl | assumption) : D1 X F (.Assign [.Name x npos] e pos) (wSetP i α) := by
  refine ⟨fun bad σ ρ H E D o w kn kr kb kc => (ps_set hN hi hx pe_run hs hf).to (ha.go bad σ ρ H _ _ o w fun v d bad1 ρ1 H1 p1 w1 => ?_)⟩
  obtain ⟨nb, hl, hf, w1⟩ := w1
  exact kn _ _ H1 (p1.put o (p1.st.ok.fre hf) hl nb) w1
/-! ### while -/
def wWhile (θ : WTs) (w : WS) : WS := fun E ρ => ∃ W : Nat → VEnv → Prop, (∃ m, W m ρ) ∧ ∀ m ρ, W m ρ → θ ρ fun c ρ1 => if c = true then w { E with nx := fun ρ' => ∃ m', m' < m ∧ W m' ρ', ct := fun ρ' => ∃ m', m' < m ∧ W m' ρ', bk := E.nx } ρ1 else E.nx ρ1
theorem d1_while (hp : PassesOwn (model X.prog X.w) X.A X.env X.xe) (hc : DT X F c θ) (ha : DS X F sts w) : D1 X F (.While c sts [] pos) (wWhile θ w) := by
  refine ⟨fun bad σ ρ H E D o hw kn kr kb kc => (ps_while hp pt_run pss_run).to ?_⟩
  obtain ⟨W, ⟨m0, w0⟩, turn⟩ := hw
  refine ⟨fun m σ' H' => ∃ ρ', Stl F bad σ ρ H σ' ρ' H' ∧ W m ρ', ⟨m0, ρ, .refl o, w0⟩, ?_⟩
  rintro m σ1 H1 ⟨ρ1, s1, w1⟩
  refine hc.go bad σ1 ρ1 H1 _ _ s1.ok (turn m ρ1 w1) fun cc ρ2 H2 t2 w2 => ?_
  have s2 := s1.trans t2.sst
  cases cc with
  | true =>
    rw [if_pos rfl] at w2 ⊢
    refine ⟨fun σ' H' => ∃ ρ', Stl F bad σ ρ H σ' ρ' H' ∧ ∃ m', m' < m ∧ W m' ρ', fun σ' H' ⟨ρ', q, m', hm, q'⟩ => ⟨m', hm, ρ', q, q'⟩, ?_⟩
    exact ha.go bad σ1 ρ2 H2 _ _ s2.ok w2 (fun σ3 ρ3 H3 s3 q => ⟨ρ3, s2.trans s3, q⟩) (fun v d σ3 ρ3 H3 s3 => kr v d σ3 ρ3 H3 (s2.toSst.trans s3)) (fun σ3 ρ3 H3 s3 => kn σ3 ρ3 H3 (s2.trans s3)) fun σ3 ρ3 H3 s3 q => ⟨ρ3, s2.trans s3, q⟩
  | false =>
    rw [if_neg Bool.false_ne_true] at w2 ⊢
    exact kn σ1 ρ2 H2 s2 w2
end
end VL

namespace VL
open PySem PySem.Spec PyProof.Rows L2
/-! ### targets -/
abbrev WG := D → VEnv → (VEnv → Prop) → Prop
abbrev WGs := List D → VEnv → (VEnv → Prop) → Prop
def runG (X : Cx) (tg : Expr) : TG := fun v σ H Q => ∀ (pins : List (Addr × Obj)) (s : Shared) (u : Value), Inv X pins σ H s → RelV v u → wpAny (model X.prog X.w) X.A (assign tg X.env u) (fun _ s' => ∃ σ' H', Inv X pins σ' H' s' ∧ Q σ' H') X.xe s
theorem pg_run {X : Cx} {tg : Expr} : PG X tg (runG X tg) := ⟨fun pins s _ _ _ u _ I r h => h pins s u I r⟩
theorem _root_.L2.PG.to {X : Cx} {tg : Expr} {t : TG} (p : PG X tg t) {v : V} {σ : L2.St} {H : Hp} {Q : L2.St → Hp → Prop} (h : t v σ H Q) : runG X tg v σ H Q := fun pins s u I r => p.run pins s σ H v u Q I r h
def runGs (X : Cx) (tg : List Expr) : TGs := fun vs σ H Q => ∀ (pins : List (Addr × Obj)) (s : Shared) (us : List Value), Inv X pins σ H s → Vals vs us → wpAny (model X.prog X.w) X.A (assignInOrder ((assignEach tg X.env).map (·.2)) us) (fun _ s' => ∃ σ' H', Inv X pins σ' H' s' ∧ Q σ' H') X.xe s
theorem pgs_run {X : Cx} {tg : List Expr} : PGs X tg (runGs X tg) := ⟨fun pins s _ _ _ us _ I r h => h pins s us I r⟩
theorem _root_.L2.PGs.to {X : Cx} {tg : List Expr} {t : TGs} (p : PGs X tg t) {v : List V} {σ : L2.St} {H : Hp} {Q : L2.St → Hp → Prop} (h : t v σ H Q) : runGs X tg v σ H Q := fun pins s us I r => p.run pins s σ H v us Q I r h
structure DG (X : Cx) (F : Df) (tg : Expr) (g : WG) : Prop where
  go : ∀ (bad : Addr → Prop) (σ : L2.St) (ρ : VEnv) (H : Hp) (v : V) (d : D) (q : VEnv → Prop) (Q : L2.St → Hp → Prop), Ok F.K F.H0 F.pa bad σ ρ H → R F.K H (Mm bad σ ρ) v d → g d ρ q →
    (∀ σ' ρ' H', Stl F bad σ ρ H σ' ρ' H' → q ρ' → Q σ' H') → runG X tg v σ H Q
structure DGs (X : Cx) (F : Df) (tg : List Expr) (g : WGs) : Prop where
  go : ∀ (bad : Addr → Prop) (σ : L2.St) (ρ : VEnv) (H : Hp) (vs : List V) (ds : List D) (q : VEnv → Prop) (Q : L2.St → Hp → Prop), Ok F.K F.H0 F.pa bad σ ρ H → Rs F.K H (Mm bad σ ρ) vs ds → g ds ρ q →
    (∀ σ' ρ' H', Stl F bad σ ρ H σ' ρ' H' → q ρ' → Q σ' H') → runGs X tg vs σ H Q
section
variable {F : Df} {bad : Addr → Prop} {σ σ1 σ2 : L2.St} {ρ ρ1 ρ2 : VEnv} {H H1 H2 : Hp}
theorem Stl.f (s : Sst F bad σ ρ H σ1 ρ1 H1) : ∀ b x, H b = some x → ¬ Mm bad σ ρ b → H1 b = some x := fun b x h n => s.fr b x h fun z => n (.inr z)
theorem Stl.put {i : Nat} {v : V} {d : D} (s : Stl F bad σ ρ H σ1 ρ1 H1) (hv : ∀ a, v = .ref a → d.brw = true → H a = none) (hk : d.kd ≠ .lock) (o3 : Ok F.K F.H0 F.pa bad (σ1.set i (some v)) (ρ1.set i (some d)) H1) : Stl F bad σ ρ H (σ1.set i (some v)) (ρ1.set i (some d)) H1 := by
  refine ⟨⟨o3, s.fr, s.dom, fun a ⟨j, h1, e, h2, hb⟩ => ?_⟩, fun j e h k => ?_⟩
  · rcases get_set_some h2 with ⟨rfl, h, hl⟩ | ⟨hj, h⟩
    · cases h
      rcases get_set_some h1 with ⟨_, h, _⟩ | ⟨hj, _⟩
      · cases h; exact .inr (hv a rfl hb)
      · exact absurd rfl hj
    · rw [List.getElem?_set_ne (Ne.symm hj)] at h1
      exact s.own a ⟨j, h1, e, h, hb⟩
  · rcases get_set_some h with ⟨rfl, h, _⟩ | ⟨hj, h⟩
    · cases h; exact absurd k hk
    · obtain ⟨q, e2⟩ := s.lk j e h k
      exact ⟨q, by rw [List.getElem?_set_ne (Ne.symm hj)]; exact e2⟩
theorem Stl.m (s : Sst F bad σ ρ H σ1 ρ1 H1) : ∀ b, Mm bad σ1 ρ1 b → Mm bad σ ρ b ∨ H b = none := fun b m => m.elim (fun m => .inl (.inl m)) fun m => (s.own b m).imp .inr id
end
section
variable {X : Cx} {F : Df} {e a b c o tg : Expr} {pos apos cpos npos : Pos} {α β γ : WE} {es tgs : List Expr} {τ : WA} {θ : WTs} {st : Stmt} {sts rest : List Stmt} {w w1 w2 w' : WS} {g : WG} {gs : WGs}
def gN (i : Nat) : WG := fun d ρ q => i < ρ.length ∧ q (ρ.set i (some d))
theorem dg_name (i : Nat) {x : Str} (hp : F.pa.length ≤ i) (hN : X.N.Nodup) (hi : X.N[i]? = some x := by rfl) (hx : Loc X.env.scope x := by first | exact Or.inl rfl | exact Or.inr rfl) (hf : X.fn x = true ∨ X.env.scope.names.lookup x = some .local := by first | exact .inl rfl | exact .inr rfl | assumption) : DG X F (.Name x pos) (gN i) := by
  refine ⟨fun bad σ ρ H v d q Q o r w k => (pg_name hN hi hx hf).to ?_⟩
  obtain ⟨hl, w⟩ := w
  have o2 := o.put (.of hp) hl r.imm r
  have := (Stp.refl o).put (bad3 := bad) (v := v) (d := d) (i := i) (fun _ h => h) (fun a _ b => by rw [imm_brw r.imm] at b; cases b) (fun z => by have := r.imm; unfold D.imm at this; rw [z] at this; cases this) o2
  exact k _ _ _ this w
def gsN : WGs := fun ds ρ q => ds = [] ∧ q ρ
def gsC (g : WG) (gs : WGs) : WGs := fun ds ρ q => ∃ d r, ds = d :: r ∧ g d ρ fun ρ1 => gs r ρ1 q
theorem dgs_nil : DGs X F [] gsN := by
  refine ⟨fun bad σ ρ H vs ds q Q o r w k => pgs_nil.to ?_⟩
  obtain ⟨rfl, w⟩ := w
  exact ⟨List.eq_nil_of_length_eq_zero r.1, k σ ρ H (.refl o) w⟩
theorem dgs_cons (h1 : DG X F tg g) (h2 : DGs X F tgs gs) (hs : (assignEach (tg :: tgs) X.env).map (·.2) = assign tg X.env :: (assignEach tgs X.env).map (·.2) := by rfl) : DGs X F (tg :: tgs) (gsC g gs) := by
  refine ⟨fun bad σ ρ H vs ds q Q o r w k => (pgs_cons pg_run pgs_run hs).to ?_⟩
  obtain ⟨d, t, rfl, w⟩ := w
  cases vs with
  | nil => cases r.1
  | cons v vs =>
    obtain ⟨r1, r2⟩ := r.uncons
    refine ⟨v, vs, rfl, h1.go bad σ ρ H v d _ _ o r1 w fun σ1 ρ1 H1 s1 w1 => ?_⟩
    exact h2.go bad σ1 ρ1 H1 vs t q Q s1.ok (r2.mono (Stl.f s1.toSst) (Stl.m s1.toSst)) w1 fun σ2 ρ2 H2 s2 => k σ2 ρ2 H2 (s1.trans s2)
def gT (n : Nat) (gs : WGs) : WG := fun d ρ q => ∃ ds, d = .tup ds ∧ ds.length = n ∧ gs ds ρ q
theorem dg_tup {k n : Nat} (hK : X.K = F.K) (hc : X.calm = true) (h : DGs X F tgs gs) (hn : (assignEach tgs X.env).length = n := by rfl) (hst : (assignEach tgs X.env).findIdx? (·.1) = none := by rfl) : DG X F (.Tuple tgs k pos) (gT n gs) := by
  refine ⟨fun bad σ ρ H v d q Q o r w kk => (pg_tup hc pgs_run hn hst).to ?_⟩
  obtain ⟨ds, rfl, hl, w⟩ := w
  obtain ⟨a, vs, rfl, hq, rs⟩ := r.tupI
  exact ⟨a, vs, rfl, by rw [hK]; exact hq, by rw [rs.1, hl], h.go bad σ ρ H vs ds q Q o rs w kk⟩
/-- xs[e] = .. of a slot's own list, as a target -/
def gS (k : Nat) (α : WE) : WG := fun d ρ q => (∃ d0, ρ[k]? = some (some d0) ∧ d0.brw = true) ∧ α ρ fun x ρ1 => ∃ xs i j, ρ1[k]? = some (some (.seq .own xs)) ∧ x = .int i ∧ ixN xs.length i = some j ∧ q (ρ1.set k (some (.seq .own (xs.set j d))))
theorem dg_sub {x : Str} (k : Nat) (ha : DE X F e α) (hN : X.N[k]? = some x := by rfl) (hv : Vis X.env.scope x := by first | exact Or.inl rfl | exact Or.inr (Or.inl rfl) | exact Or.inr (Or.inr rfl)) (hd : (x == ("__debug__" : Str)) = false := by decide) (hcd : (x == ("__classdict__" : Str)) = false := by decide)
    (hs : ∀ v, assign (.Subscript (.Name x npos) e pos) X.env v = (do
      let ov ← holding [v] (eval (.Name x npos) X.env)
      let iv ← holding [v, ov] (eval e X.env)
      standAt pos
      holding [v, ov, iv] (setItem ov iv v)
      release [v, ov, iv] []) := by intro _; rfl) : DG X F (.Subscript (.Name x npos) e pos) (gS k α) := by
  refine ⟨fun bad σ ρ H v d q Q o r w kk => (pg_sub (pe_var hN hv hd hcd) pe_run set_list hs).to ?_⟩
  obtain ⟨⟨d0, e0, b0⟩, w⟩ := w
  obtain ⟨v0, ev, s⟩ := o.sl k d0 e0
  obtain ⟨z, _⟩ | ⟨_, a, rfl, r0⟩ := s
  · rw [b0] at z; cases z
  refine ⟨.ref a, ev, ha.go bad σ ρ H _ _ o w fun iv id bad1 ρ1 H1 p1 w1 => ?_⟩
  obtain ⟨xs, i, j, e1, rfl, hj, w1⟩ := w1
  have o1 := p1.st.back.ok
  have hi : iv = .int i := by
    rcases p1.va.read p1.st.ok with ⟨_, r⟩ | ⟨z, _⟩
    · exact r.intI
    · cases z
  subst hi
  obtain ⟨v', ev', s'⟩ := o1.sl k _ e1
  rw [ev] at ev'; cases ev'
  obtain ⟨z, _⟩ | ⟨_, a', ea, vs, hvs, rs⟩ := s'
  · cases z
  cases ea
  refine ⟨a, vs, i, j, rfl, rfl, hvs, by rw [rs.1]; exact hj, ?_⟩
  have r1 : R F.K H1 (Mm bad σ ρ1) v d := r.mono p1.st.back.f p1.st.back.m
  have hM : Mm bad σ ρ1 a := .inr ⟨k, ev, _, e1, rfl⟩
  have ff : ∀ b x, H1 b = some x → ¬ Mm bad σ ρ1 b → upd H1 a (.lst (vs.set j v)) b = some x := fun b x h n => by
    rw [upd_ne (fun z => n (by subst z; exact hM))]; exact h
  have rc : RC F.K (upd H1 a (.lst (vs.set j v))) (Mm bad σ ρ1) a (.seq .own (xs.set j d)) :=
    ⟨_, upd_same, (rs.set r1 j).mono ff fun b m => .inl m⟩
  have st := Stp.setc (d2 := .seq .own (xs.set j d)) o1 e1 rfl rfl rfl ev rc
  exact kk _ _ _ (p1.st.back.trans st).sst w1
def wAsg (α : WE) (g : WG) : WS := fun E ρ => α ρ fun x ρ1 => x.imm = true ∧ g x ρ1 E.nx
theorem d1_asg (ha : DE X F e α) (hg : DG X F tg g) (hs : swapsWithSole [tg] e pos.line X.env = pure false := by rfl) (hw : swappedStores [tg] e X.env = pure none := by rfl)
    (h1 : (assignEach [tg] X.env).map (·.2) = [assign tg X.env] := by rfl) : D1 X F (.Assign [tg] e pos) (wAsg α g) := by
  refine ⟨fun bad σ ρ H E D o w kn kr kb kc => (ps_asg pe_run pg_run hs hw h1).to (ha.go bad σ ρ H _ _ o w fun v d bad1 ρ1 H1 p1 w1 => ?_)⟩
  obtain ⟨im, w1⟩ := w1
  have r : R F.K H1 (Mm bad σ ρ1) v d := by
    rcases p1.va with ⟨_, r⟩ | ⟨t, _⟩ | ⟨b, _⟩
    · exact r.less fun b m => m.imp (p1.st.bd b) id
    · rw [tmp_imm t] at im; cases im
    · rw [brw_imm b] at im; cases im
  exact hg.go bad σ ρ1 H1 v d _ _ p1.st.back.ok r w1 fun σ2 ρ2 H2 s2 => kn σ2 ρ2 H2 (p1.st.sst.trans s2)
/-- a, b = e1, e2 -/
def wPar (i j : Nat) (τ : WA) : WS := fun E ρ => τ ρ fun as ρ1 => ∃ x y, argsD ρ1 as = some [x, y] ∧ x.brw = false ∧ y.brw = false ∧ i < ρ1.length ∧ j < ρ1.length ∧ E.nx ((ρ1.set i (some x.keep)).set j (some y.keep))
theorem PoA.vaD {K : PySem.W.Frag} {H0 H H1 : Hp} {pa : List (Option Addr)} {σ : L2.St} {bad bad1 : Addr → Prop} {ρ ρ1 : VEnv} {vs : List V} {as : List Arg} {ds : List D} (p : PoA K H0 pa σ bad ρ H vs as bad1 ρ1 H1) (h : argsD ρ1 as = some ds) {i : Nat} {v : V} {d : D} (hv : vs[i]? = some v) (hd : ds[i]? = some d) (nb : d.brw = false) :
    ∃ a, as[i]? = some a ∧ Va K σ bad1 ρ1 H H1 v d ∧ (∀ z, v = .ref z → d.isTmp = true → newA v a = some z) := by
  obtain ⟨h1, h2⟩ := argsD_get h
  have ha : i < as.length := by rw [h1]; exact (List.getElem?_eq_some_iff.mp hd).1
  obtain ⟨d', hd', e⟩ := h2 i as[i] (List.getElem?_eq_getElem ha)
  rw [hd] at hd'; cases hd'
  have q := p.va i v _ hv (List.getElem?_eq_getElem ha)
  refine ⟨as[i], List.getElem?_eq_getElem ha, ?_⟩
  generalize as[i] = a at e q
  cases a with
  | val d' => cases e; exact ⟨q.2, fun z e t => by subst e; simp [newA, t]⟩
  | slot j =>
    have e' := at_slot e
    have e2 := q _ e'
    obtain ⟨v', e3, s⟩ := p.st.ok.sl j _ e'
    rw [e2] at e3; cases e3
    rcases s with ⟨_, r⟩ | ⟨b, _⟩
    · exact ⟨.inl ⟨r.imm, r⟩, fun z _ t => by have := r.imm; rw [tmp_imm t] at this; cases this⟩
    · rw [nb] at b; cases b
theorem d1_par {i j : Nat} {x y : Str} {px py pt : Pos} {kt k2 pt2} (hp : F.pa.length ≤ i) (hp2 : F.pa.length ≤ j) (ha : DA X F [a, b] τ) (hc : X.calm = true) (hN : X.N.Nodup) (hi : X.N[i]? = some x := by rfl) (hj : X.N[j]? = some y := by rfl) (hij : i ≠ j := by decide)
    (hx : X.env.scope.names.lookup x = some .local := by rfl) (hy : X.env.scope.names.lookup y = some .local := by rfl)
    (hw : swappedStores [.Tuple [.Name x px, .Name y py] kt pt] (.Tuple [a, b] k2 pt2) X.env = pure (some [x, y]) := by rfl)
    (hs : swapsWithSole [.Tuple [.Name x px, .Name y py] kt pt] (.Tuple [a, b] k2 pt2) pos.line X.env = pure false := by rfl) :
    D1 X F (.Assign [.Tuple [.Name x px, .Name y py] kt pt] (.Tuple [a, b] k2 pt2) pos) (wPar i j τ) := by
  refine ⟨fun bad σ ρ H E D o w kn kr kb kc => (ps_par hc hN hi hj hij hx hy pa_run hw hs).to (ha.go bad σ ρ H _ _ o w fun vs as bad1 ρ1 H1 p1 w1 => ?_)⟩
  obtain ⟨dx, dy, ed, b1, b2, l1, l2, w1⟩ := w1
  have hl : vs.length = 2 := (p1.vals ed).1
  obtain ⟨v1, v2, rfl⟩ : ∃ v1 v2, vs = [v1, v2] := by
    match vs, hl with
    | [v1, v2], _ => exact ⟨v1, v2, rfl⟩
  refine ⟨v1, v2, rfl, ?_⟩
  obtain ⟨a1, ea1, va1, nw1⟩ := p1.vaD ed (i := 0) rfl rfl b1
  obtain ⟨a2, ea2, va2, nw2⟩ := p1.vaD ed (i := 1) rfl rfl b2
  obtain ⟨bad3, g1, g2, g3, o3⟩ := p1.st.ok.putV (.of hp) l1 va1 b1 (bad2 := bad) (fun a n => o.dom a n) p1.st.bd
  have s3 : Stl F bad σ ρ H (σ.set i (some v1)) (ρ1.set i (some dx.keep)) H1 := by
    refine p1.st.put g1 (fun a e b => ?_) (keep_lock b1) o3
    rcases va1 with ⟨im, r⟩ | ⟨t, a', rfl, r, n, ba⟩ | ⟨b, _⟩
    · rw [keep_imm im, imm_brw im] at b; cases b
    · cases e; exact n
    · rw [b1] at b; cases b
  have va3 : Va F.K (σ.set i (some v1)) bad3 (ρ1.set i (some dx.keep)) H H1 v2 dy := by
    have m : ∀ b, Mm bad3 (σ.set i (some v1)) (ρ1.set i (some dx.keep)) b → Mm bad1 σ ρ1 b := fun b m => by
      rcases m with m | ⟨j', h1, e, h2, hb⟩
      · exact .inl (g2 b m)
      · rcases get_set_some h2 with ⟨rfl, h, hl⟩ | ⟨hj, h⟩
        · cases h
          rcases get_set_some h1 with ⟨_, h, _⟩ | ⟨hj, _⟩
          · cases h
            rcases va1 with ⟨im, r⟩ | ⟨t, a', e, r, n, ba⟩ | ⟨b, _⟩
            · rw [keep_imm im, imm_brw im] at hb; cases hb
            · cases e; exact .inl ba
            · rw [b1] at b; cases b
          · exact absurd rfl hj
        · rw [List.getElem?_set_ne (Ne.symm hj)] at h1
          exact .inr ⟨j', h1, e, h, hb⟩
    rcases va2 with ⟨im, r⟩ | ⟨t, a', e, r, n, ba⟩ | ⟨b, _⟩
    · exact .inl ⟨im, r.less m⟩
    · refine .inr (.inl ⟨t, a', e, r.less m, n, g3 a' ba ?_⟩)
      rcases three dx with im | t1 | b
      · exact .inr im
      · refine .inl fun e1 => ?_
        have := p1.un 0 1 v1 a1 v2 a2 a' rfl ea1 rfl ea2 (nw1 a' e1 t1) (nw2 a' e t)
        cases this
      · rw [b1] at b; cases b
    · rw [b2] at b; cases b
  obtain ⟨bad4, f1, f2, f3, o4⟩ := o3.putV (.of hp2) (by rw [List.length_set]; exact l2) va3 b2 (bad2 := bad) (fun a n => o.dom a n) g1
  refine kn _ _ H1 (s3.put (fun a e b => ?_) (keep_lock b2) (o4.less f1)) w1
  rcases va3 with ⟨im, r⟩ | ⟨t, a', e', r, n, ba⟩ | ⟨b, _⟩
  · rw [keep_imm im, imm_brw im] at b; cases b
  · rw [e'] at e; cases e; exact n
  · rw [b2] at b; cases b
end
end VL

namespace VL
open PySem PySem.Spec PyProof.Rows L2
/-! ### what is walked -/
/-- a later state -/
structure Lat (F : Df) (bad : Addr → Prop) (σ : L2.St) (ρ : VEnv) (H : Hp) (bad2 : Addr → Prop) (σ2 : L2.St) (ρ2 : VEnv) (H2 : Hp) : Prop where
  ss : Sst F bad2 σ ρ H σ2 ρ2 H2
  bd : ∀ b, bad b → bad2 b
  bn : ∀ b, bad2 b → bad b ∨ H b = none
theorem Lat.of {F : Df} {bad : Addr → Prop} {σ σ2 : L2.St} {ρ ρ2 : VEnv} {H H2 : Hp} (s : Sst F bad σ ρ H σ2 ρ2 H2) : Lat F bad σ ρ H bad σ2 ρ2 H2 := ⟨s, fun _ h => h, fun _ h => .inl h⟩
theorem Lat.f {F : Df} {bad bad2 : Addr → Prop} {σ σ2 : L2.St} {ρ ρ2 : VEnv} {H H2 : Hp} (s : Lat F bad σ ρ H bad2 σ2 ρ2 H2) : ∀ b x, H b = some x → ¬ Mm bad σ ρ b → H2 b = some x := fun b x h n => s.ss.fr b x h fun z => n (.inr z)
theorem Lat.m {F : Df} {bad bad2 : Addr → Prop} {σ σ2 : L2.St} {ρ ρ2 : VEnv} {H H2 : Hp} (s : Lat F bad σ ρ H bad2 σ2 ρ2 H2) : ∀ b, Mm bad2 σ2 ρ2 b → Mm bad σ ρ b ∨ H b = none := fun b m => m.elim (fun m => (s.bn b m).imp .inl id) fun m => (s.ss.own b m).imp .inr id
/-- it gives the items, as long as the watched slot's container stays -/
structure JOk (F : Df) (bad : Addr → Prop) (σ : L2.St) (ρ : VEnv) (H : Hp) (wt : Option (Nat × D)) (J : It) (items : List D) : Prop where
  ex : ∃ (G : Hp → Prop) (Y : Nat → Hp → V → Hp → Prop), L2.Walk J items.length G Y ∧ ∀ bad2 σ2 ρ2 H2, Lat F bad σ ρ H bad2 σ2 ρ2 H2 →
    (∀ k d, wt = some (k, d) → ∃ a, σ[k]? = some (some (.ref a)) ∧ RC F.K H2 (Mm bad2 σ2 ρ2) a d) →
    G H2 ∧ ∀ i x H3, i < items.length → Y i H2 x H3 → (∀ b u, H2 b = some u → H3 b = some u) ∧ ∃ d, items[i]? = some d ∧ R F.K H3 (Mm bad2 σ2 ρ2) x d
abbrev WI := VEnv → (List D → Option (Nat × D) → VEnv → Prop) → Prop
def runI (X : Cx) (tg iter : Expr) : TI := fun σ H Rr => ∀ (pins : List (Addr × Obj)) (s : Shared), Inv X pins σ H s → wpAny (model X.prog X.w) X.A (eval iter X.env) (fun v s1 => wpAny (model X.prog X.w) X.A (pyIter v) (PIE X pins σ tg Rr) X.xe s1) X.xe s
theorem pi_runI {X : Cx} {tg iter : Expr} : PI X tg iter (runI X tg iter) := ⟨fun pins s _ _ _ I h => h pins s I⟩
theorem _root_.L2.PI.to {X : Cx} {tg iter : Expr} {t : TI} (p : PI X tg iter t) {σ : L2.St} {H : Hp} {Rr : It → Hp → Prop} (h : t σ H Rr) : runI X tg iter σ H Rr := fun pins s I => p.run pins s σ H Rr I h
/-- a slot's container is watched -/
def WtOk (ρ : VEnv) (wt : Option (Nat × D)) : Prop := ∀ k d, wt = some (k, d) → ρ[k]? = some (some d) ∧ d.brw = true
structure DI (X : Cx) (F : Df) (tg iter : Expr) (w : WI) : Prop where
  go : ∀ (bad : Addr → Prop) (σ : L2.St) (ρ : VEnv) (H : Hp) (q : List D → Option (Nat × D) → VEnv → Prop) (Rr : It → Hp → Prop), Ok F.K F.H0 F.pa bad σ ρ H → w ρ q →
    (∀ J items wt bad' ρ' H', Stp F.K F.H0 F.pa σ bad ρ H bad' ρ' H' → WtOk ρ' wt → JOk F bad' σ ρ' H' wt J items → q items wt ρ' → Rr J H') → runI X tg iter σ H Rr
section
variable {X : Cx} {F : Df} {e a b c o tg iter : Expr} {pos apos cpos npos : Pos} {α β γ : WE} {es tgs : List Expr} {τ : WA} {θ : WTs} {st : Stmt} {sts rest : List Stmt} {w w1 w2 w' : WS} {g : WG} {gs : WGs} {ι : WI}
/-! ### for -/
def setL (ρ : VEnv) (k : Nat) (d : D) : VEnv := ρ.set k (some d)
def lockE (ρ : VEnv) : Option (Nat × D) → VEnv
  | some (k, d) => ρ.set k (some (d.to .lock))
  | none => ρ
def unlE (ρ : VEnv) : Option (Nat × D) → VEnv
  | some (k, d) => ρ.set k (some d)
  | none => ρ
def isLk (ρ : VEnv) : Option (Nat × D) → Prop
  | some (k, d) => ρ[k]? = some (some (d.to .lock))
  | none => True
def wFor (ι : WI) (g : WG) (w : WS) : WS := fun E ρ => ι ρ fun items wt ρ1 => ∃ W : Nat → VEnv → Prop, W 0 (lockE ρ1 wt) ∧ ∀ i ρ, i ≤ items.length → W i ρ → isLk ρ wt ∧ (i = items.length → E.nx (unlE ρ wt)) ∧
  ∀ x, items[i]? = some x → g x ρ fun ρ2 => w { E with nx := fun ρ' => W (i + 1) ρ', ct := fun ρ' => W (i + 1) ρ', bk := fun ρ' => isLk ρ' wt ∧ E.nx (unlE ρ' wt) } ρ2
theorem to_kd {d : D} {k : Kd} (h : d.imm = false) : (d.to k).kd = k := by cases d <;> first | rfl | cases h
theorem to_to {d : D} {k j : Kd} : (d.to k).to j = d.to j := by cases d <;> rfl
theorem to_self {d : D} : d.to d.kd = d := by cases d <;> rfl
section
variable {K : PySem.W.Frag} {H0 H : Hp} {pa : List (Option Addr)} {σ : L2.St} {bad : Addr → Prop} {ρ : VEnv} {d d2 : D} {i : Nat}
/-- another way to hold the same container -/
theorem Ok.rek (o : Ok K H0 pa bad σ ρ H) (hd : ρ[i]? = some (some d)) (hb : d.brw = true) (hb2 : (d.to d2.kd) = d2) (hb3 : d2.brw = true) : Ok K H0 pa bad σ (ρ.set i (some d2)) H := by
  have own := fun j c => own_setc (σ := σ) hd hb hb3 j c
  have mm : Mm bad σ (ρ.set i (some d2)) = Mm bad σ ρ := mm_setc hd hb hb3
  refine ⟨by rw [List.length_set]; exact o.len, fun j e he => ?_, fun j l c h1 h2 => o.inj j l c ((own j c).mp h1) ((own l c).mp h2), fun j c h => o.new j c ((own j c).mp h), fun j c h => (own j c).mpr (o.par j c h), o.fr, fun c ⟨j, h⟩ => o.ob c ⟨j, (own j c).mp h⟩, o.dom⟩
  rw [mm]
  rcases get_set_some he with ⟨rfl, h, _⟩ | ⟨hj, h⟩
  · cases h
    obtain ⟨v, ev, s⟩ := o.sl j d hd
    rcases s with ⟨z, _⟩ | ⟨_, a, rfl, r⟩
    · rw [hb] at z; cases z
    · exact ⟨.ref a, ev, .inr ⟨hb3, a, rfl, by rw [← hb2]; exact r.to⟩⟩
  · exact o.sl j e h
end
theorem lock_ok {bad : Addr → Prop} {σ : L2.St} {ρ : VEnv} {H : Hp} {wt : Option (Nat × D)} (o : Ok F.K F.H0 F.pa bad σ ρ H) (h : WtOk ρ wt) : Ok F.K F.H0 F.pa bad σ (lockE ρ wt) H ∧ ∀ j c, OwnAt σ (lockE ρ wt) j c ↔ OwnAt σ ρ j c := by
  match wt, h with
  | none, _ => exact ⟨o, fun _ _ => Iff.rfl⟩
  | some (k, d), h =>
    obtain ⟨h1, h2⟩ := h k d rfl
    have kk : (d.to .lock).kd = .lock := to_kd (brw_imm h2)
    have b : (d.to .lock).brw = true := by unfold D.brw; rw [kk]
    exact ⟨o.rek h1 h2 (by rw [kk]) b, fun j c => own_setc h1 h2 b j c⟩
theorem unl_ok {bad : Addr → Prop} {σ : L2.St} {ρ ρ0 : VEnv} {H : Hp} {wt : Option (Nat × D)} (o : Ok F.K F.H0 F.pa bad σ ρ H) (h0 : WtOk ρ0 wt) (h : isLk ρ wt) : Ok F.K F.H0 F.pa bad σ (unlE ρ wt) H ∧ ∀ j c, OwnAt σ (unlE ρ wt) j c ↔ OwnAt σ ρ j c := by
  match wt, h0, h with
  | none, _, _ => exact ⟨o, fun _ _ => Iff.rfl⟩
  | some (k, d), h0, h =>
    obtain ⟨h1, h2⟩ := h0 k d rfl
    have kk : (d.to .lock).kd = .lock := to_kd (brw_imm h2)
    have b : (d.to .lock).brw = true := by unfold D.brw; rw [kk]
    exact ⟨o.rek h b (by rw [to_to, to_self]) h2, fun j c => own_setc h b h2 j c⟩
theorem d1_for (hp : PassesOwn (model X.prog X.w) X.A X.env X.xe) (hc : X.calm = true) (hi : DI X F tg iter ι) (hg : DG X F tg g) (hb : DS X F sts w) (hs : ∀ x, foldedSetIterable iter X.env x = pure x := by intro _; rfl) : D1 X F (.For tg iter sts [] pos) (wFor ι g w) := by
  refine ⟨fun bad σ ρ H E D o hw kn kr kb kc => (ps_for hp hc pi_runI pg_run pss_run hs).to (hi.go bad σ ρ H _ _ o hw fun J items wt bad1 ρ1 H1 s1 wo jo w1 => ?_)⟩
  obtain ⟨W, w0, turn⟩ := w1
  obtain ⟨G, Y, wk, jk⟩ := jo.ex
  obtain ⟨oL, ownL⟩ := lock_ok s1.ok wo
  -- a step from the locked start, as one from the start
  have up : ∀ {σ2 ρ2 H2}, Stl F bad1 σ (lockE ρ1 wt) H1 σ2 ρ2 H2 → Sst F bad1 σ ρ1 H1 σ2 ρ2 H2 := fun s => ⟨s.ok, fun b x h n => s.fr b x h fun ⟨j, z⟩ => n ⟨j, (ownL j b).mp z⟩, s.dom, fun b z => (s.own b z).imp (fun ⟨j, z⟩ => ⟨j, (ownL j b).mp z⟩) id⟩
  have all : ∀ {σ2 ρ2 H2}, Sst F bad1 σ ρ1 H1 σ2 ρ2 H2 → Sst F bad σ ρ H σ2 ρ2 H2 := fun s => ⟨s.ok.less s1.bd, fun b x h n => s.fr b x (s1.fr b x h n) fun z => n ((s1.ow b).mp z), fun b h => s1.dom b (s.dom b h), fun b z => (s.own b z).elim (fun z => .inl ((s1.ow b).mp z)) fun z => .inr (s1.dom b z)⟩
  have lkd : ∀ (k : Nat) (d : VL.D), wt = some (k, d) → ((lockE ρ1 wt)[k]? = some (some (d.to .lock))) ∧ (d.to .lock).kd = .lock ∧ d.brw = true := fun k d e => by
    obtain ⟨h1, h2⟩ := wo k d e
    subst e
    exact ⟨List.getElem?_set_self (List.getElem?_eq_some_iff.mp h1).1, to_kd (brw_imm h2), h2⟩
  -- behind the loop
  have fin : ∀ {σ2 ρ2 H2}, Stl F bad1 σ (lockE ρ1 wt) H1 σ2 ρ2 H2 → isLk ρ2 wt → Stl F bad σ ρ H σ2 (unlE ρ2 wt) H2 := fun {σ2 ρ2 H2} s hl => by
    obtain ⟨oU, ownU⟩ := unl_ok s.ok wo hl
    have q := all (up s)
    refine ⟨⟨oU.less s1.bd, q.fr, q.dom, fun b ⟨j, z⟩ => q.own b ⟨j, (ownU j b).mp z⟩⟩, fun i d h k => ?_⟩
    match wt, wo, hl, lkd with
    | none, _, _, _ =>
      obtain ⟨⟨d1, h1, k1⟩, e1⟩ := s.lk i d h k
      exact ⟨s1.lk i d1 h1 k1, e1⟩
    | some (kk, dd), wo, hl, lkd =>
      have h : (ρ2.set kk (some dd))[i]? = some (some d) := h
      obtain ⟨e1, e2, e3⟩ := lkd kk dd rfl
      rcases get_set_some h with ⟨rfl, h, _⟩ | ⟨hj, h⟩
      · cases h
        exact ⟨s1.lk i _ (wo i _ rfl).1 k, (s.lk i _ hl e2).2⟩
      · obtain ⟨⟨d1, h1, k1⟩, e1⟩ := s.lk i d h k
        have h1 : (ρ1.set kk (some (dd.to .lock)))[i]? = some (some d1) := h1
        rw [List.getElem?_set_ne (Ne.symm hj)] at h1
        exact ⟨s1.lk i d1 h1 k1, e1⟩
  have held : ∀ {σ2 ρ2 H2}, Stl F bad1 σ (lockE ρ1 wt) H1 σ2 ρ2 H2 → isLk ρ2 wt → ∀ k d, wt = some (k, d) → ∃ a, σ[k]? = some (some (.ref a)) ∧ RC F.K H2 (Mm bad1 σ2 ρ2) a d := fun {σ2 ρ2 H2} s hl k d e => by
    obtain ⟨e1, e2, e3⟩ := lkd k d e
    subst e
    have hl : ρ2[k]? = some (some (d.to .lock)) := hl
    obtain ⟨v, ev, q⟩ := s.ok.sl k _ hl
    rw [(s.lk k _ hl e2).2] at ev
    rcases q with ⟨z, _⟩ | ⟨_, a, rfl, r⟩
    · unfold VL.D.brw at z; rw [e2] at z; cases z
    · have r2 := r.to (k := d.kd)
      rw [to_to, to_self] at r2
      exact ⟨a, ev, r2⟩
  refine for_it wk (fun i σ' H' => ∃ ρ', Stl F bad1 σ (lockE ρ1 wt) H1 σ' ρ' H' ∧ i ≤ items.length ∧ W i ρ') ⟨_, .refl oL, Nat.zero_le _, w0⟩ ?_ ?_ ?_
  · rintro i σ2 H2 hle ⟨ρ2, s2, hi, w2⟩
    exact (jk bad1 σ2 ρ2 H2 (.of (up s2)) (held s2 (turn i ρ2 hi w2).1)).1
  · rintro i x σ2 H2 H3 hlt ⟨ρ2, s2, hi, w2⟩ y
    obtain ⟨hl, _, step⟩ := turn i ρ2 hi w2
    obtain ⟨hs, d, hd, r⟩ := (jk bad1 σ2 ρ2 H2 (.of (up s2)) (held s2 hl)).2 i x H3 hlt y
    have o3 := s2.ok.same hs
    have s3 : Stl F bad1 σ (lockE ρ1 wt) H1 σ2 ρ2 H3 := s2.trans ⟨⟨o3, fun b x h _ => hs b x h, fun b z => same_dom hs z, fun b z => .inl z⟩, fun j d h k => ⟨⟨d, h, k⟩, rfl⟩⟩
    refine hg.go bad1 σ2 ρ2 H3 x d _ _ o3 r (step d hd) fun σ4 ρ4 H4 s4 w4 => ?_
    have s4 := s3.trans s4
    refine hb.go bad1 σ4 ρ4 H4 _ _ s4.ok w4 (fun σ5 ρ5 H5 s5 q => ⟨ρ5, s4.trans s5, hlt, q⟩) (fun v d σ5 ρ5 H5 s5 rv => kr v d σ5 ρ5 H5 (all (up s4 |>.trans s5)) ?_) (fun σ5 ρ5 H5 s5 ⟨q1, q2⟩ => kn σ5 _ H5 (fin (s4.trans s5) q1) q2) fun σ5 ρ5 H5 s5 q => ⟨ρ5, s4.trans s5, hlt, q⟩
    rcases rv with ⟨im, r⟩ | ⟨t, a, e, r, n, rp⟩
    · exact .inl ⟨im, r.less fun b m => m.imp (s1.bd b) id⟩
    · exact .inr ⟨t, a, e, r.less fun b m => m.imp (s1.bd b) id, n, fun i c d' h1 h2 => (rp i c d' h1 h2).less fun b m => m.imp (s1.bd b) id⟩
  · rintro σ2 H2 ⟨ρ2, s2, hi, w2⟩
    obtain ⟨hl, nx, _⟩ := turn _ ρ2 (Nat.le_refl _) w2
    exact kn σ2 _ H2 (fin s2 hl) (nx rfl)
end
end VL

namespace VL
open PySem PySem.Spec PyProof.Rows L2
/-! ### walks -/
def rangeD (lo hi : Int) : List D := (List.range (hi - lo).toNat).map fun i => D.int (lo + (i : Nat))
def itemsOf : D → Option (List D)
  | .seq _ ds => some ds
  | .tup ds => some ds
  | .tupN ds => some ds
  | .str l => some (l.map fun c => .str [c])
  | _ => none
theorem walkL {K : PySem.W.Frag} {a : Addr} {n : Nat} : L2.Walk (Itl K a) n (fun H => ∃ xs, SqL K H a xs ∧ xs.length = n) (fun i H x H' => H' = H ∧ ∀ xs, SqL K H a xs → xs[i]? = some x) :=
  ⟨fun i _ hi ⟨xs, q, e⟩ => ⟨xs, xs[i]'(by omega), q, by simp [show i < xs.length by omega]⟩, fun _ ⟨xs, q, e⟩ => ⟨xs, q, by omega⟩, fun _ _ _ _ _ _ y => y⟩
theorem walkT {K : PySem.W.Frag} {a : Addr} {n : Nat} : L2.Walk (Itt K a) n (fun H => ∃ xs, SqT K H a xs ∧ xs.length = n) (fun i H x H' => H' = H ∧ ∀ xs, SqT K H a xs → xs[i]? = some x) :=
  ⟨fun i _ hi ⟨xs, q, e⟩ => ⟨xs, xs[i]'(by omega), q, by simp [show i < xs.length by omega]⟩, fun _ ⟨xs, q, e⟩ => ⟨xs, q, by omega⟩, fun _ _ _ _ _ _ y => y⟩
/-- a list, a tuple or a text, walked -/
def iAny (K : PySem.W.Frag) (te : TE) : TI := fun σ H Rr => te σ H fun v H1 => (∃ a, v = .ref a ∧ (∃ xs, SqL K H1 a xs) ∧ Rr (Itl K a) H1) ∨ (∃ a, v = .ref a ∧ (∃ xs, SqT K H1 a xs) ∧ Rr (Itt K a) H1) ∨ (∃ x, v = .str x ∧ Rr (Its x) H1)
theorem pi_any {X : Cx} {tg e : Expr} {te : TE} (he : PE X e te) : PI X tg e (iAny X.K te) := by
  refine ⟨fun pins s σ H Rr I h => ?_⟩
  refine thn (he.run pins s σ H _ I h) fun v s1 ⟨y, H1, I1, r1, q1⟩ => ?_
  rcases q1 with ⟨a, e, ⟨xs, hq⟩, q⟩ | ⟨a, e, ⟨xs, hq⟩, q⟩ | ⟨x, ex, q⟩
  · subst e
    cases r1
    obtain ⟨its, rv, p, hz⟩ := I1.list hq
    refine wpAny_pyIter_list p.isList ?_
    refine ⟨s1.heap.objs.size, [s1.heap.objs.size], _, _, H1, rfl, I1.kept (t' := s1.toks) fun b o e => Heap.get?_push_of_some _ e, turn_list a _, ⟨_, Heap.get?_push_size _ rfl, rfl, rfl⟩, fun b hb => ?_, q⟩
    have e : b = s1.heap.objs.size := by simpa using hb
    subst e
    exact I1.fpOk (Nat.le_refl _) (I1.hok.fresh (Nat.le_refl _))
  · subst e
    cases r1
    obtain ⟨its, rv, p, hz⟩ := I1.tuple hq
    refine wpAny_pyIter_tuple (show s1.heap.IsTuple a its.toArray from p) ?_
    refine ⟨s1.heap.objs.size, [s1.heap.objs.size], _, _, H1, rfl, I1.kept (t' := s1.toks) fun b o e => Heap.get?_push_of_some _ e, turn_tuple a _, ⟨_, Heap.get?_push_size _ rfl, rfl, rfl⟩, fun b hb => ?_, q⟩
    have e : b = s1.heap.objs.size := by simpa using hb
    subst e
    exact I1.fpOk (Nat.le_refl _) (I1.hok.fresh (Nat.le_refl _))
  · subst ex
    obtain ⟨t, rfl⟩ := r1
    cases ha : x.cps.all (· < 128)
    · exact wpAny_pyIter_wide ha (pi_one (tk := s1.toks) I1 _ (turn_str _ x t "str_iterator" (.inr rfl)) ⟨_, Heap.get?_push_size _ rfl, rfl, rfl⟩ q)
    · exact wpAny_pyIter_ascii ha (pi_one (tk := s1.toks) I1 _ (turn_str _ x t "str_ascii_iterator" (.inl rfl)) ⟨_, Heap.get?_push_size _ rfl, rfl, rfl⟩ q)
section
variable {F : Df} {bad : Addr → Prop} {σ : L2.St} {ρ : VEnv} {H : Hp} {v : V} {d : D} {ds : List D} {a : Addr} {vs : List V}
/-- a list that nobody writes while it is walked -/
theorem jok_list (hs : SqL F.K H a vs) (hp : ∀ bad2 σ2 ρ2 H2, Lat F bad σ ρ H bad2 σ2 ρ2 H2 → SqL F.K H2 a vs) (rs : Rs F.K H (Mm bad σ ρ) vs ds) : JOk F bad σ ρ H none (Itl F.K a) ds := by
  refine ⟨_, _, walkL, fun bad2 σ2 ρ2 H2 s _ => ⟨⟨vs, hp _ _ _ _ s, rs.1⟩, fun i x H3 hi y => ?_⟩⟩
  obtain ⟨rfl, y⟩ := y
  obtain ⟨d, hd, r⟩ := rs.getV (y vs (hp _ _ _ _ s))
  exact ⟨fun _ _ h => h, d, hd, r.mono s.f s.m⟩
theorem jok_tup (hp : ∀ bad2 σ2 ρ2 H2, Lat F bad σ ρ H bad2 σ2 ρ2 H2 → SqT F.K H2 a vs) (rs : Rs F.K H (Mm bad σ ρ) vs ds) : JOk F bad σ ρ H none (Itt F.K a) ds := by
  refine ⟨_, _, walkT, fun bad2 σ2 ρ2 H2 s _ => ⟨⟨vs, hp _ _ _ _ s, rs.1⟩, fun i x H3 hi y => ?_⟩⟩
  obtain ⟨rfl, y⟩ := y
  obtain ⟨d, hd, r⟩ := rs.getV (y vs (hp _ _ _ _ s))
  exact ⟨fun _ _ h => h, d, hd, r.mono s.f s.m⟩
theorem jok_watch {k : Nat} {kd : Kd} (hσ : σ[k]? = some (some (.ref a))) (hw : d = .seq kd ds) : JOk F bad σ ρ H (some (k, d)) (Itl F.K a) ds := by
  subst hw
  refine ⟨_, _, walkL, fun bad2 σ2 ρ2 H2 s h => ?_⟩
  obtain ⟨a', e, vs, hv, rs⟩ := h k _ rfl
  rw [hσ] at e; cases e
  refine ⟨⟨vs, .inl (.inl hv), rs.1⟩, fun i x H3 hi y => ?_⟩
  obtain ⟨rfl, y⟩ := y
  obtain ⟨d, hd, r⟩ := rs.getV (y vs (.inl (.inl hv)))
  exact ⟨fun _ _ h => h, d, hd, r⟩
theorem jok_str {l : List Nat} : JOk F bad σ ρ H none (Its (mkS l)) (l.map fun c => .str [c]) := by
  have h : (mkS l).cps.size = (l.map fun c => D.str [c]).length := by simp [mkS]
  refine ⟨_, _, h ▸ walk_str, fun bad2 σ2 ρ2 H2 s _ => ⟨trivial, fun i x H3 hi y => ?_⟩⟩
  obtain ⟨rfl, c, hc, rfl⟩ := y
  have hc : l[i]? = some c := by simpa [mkS] using hc
  exact ⟨fun _ _ h => h, .str [c], by simp [hc], .str [c]⟩
theorem jok_range {lo hi : Int} : JOk F bad σ ρ H none (Itr lo (hi - lo).toNat) (rangeD lo hi) := by
  have h : (rangeD lo hi).length = (hi - lo).toNat := by simp [rangeD]
  refine ⟨_, _, by rw [h]; exact walk_range, fun bad2 σ2 ρ2 H2 s _ => ⟨trivial, fun i x H3 hi' y => ?_⟩⟩
  obtain ⟨rfl, rfl⟩ := y
  refine ⟨fun _ _ h => h, .int (lo + i), ?_, .int _⟩
  rw [h] at hi'
  simp [rangeD, hi']
end
section
variable {X : Cx} {F : Df} {e a b c o tg iter : Expr} {pos apos cpos npos : Pos} {α β γ : WE} {es tgs : List Expr} {τ : WA} {θ : WTs}
theorem va_iter {bad1 : Addr → Prop} {σ : L2.St} {ρ1 : VEnv} {Hs H1 : Hp} {v : V} {d : D} {ds : List D} {Rr : It → Hp → Prop} (hK : X.K = F.K) (o : Ok F.K F.H0 F.pa bad1 σ ρ1 H1) (va : Va F.K σ bad1 ρ1 Hs H1 v d) (hd : itemsOf d = some ds) (nb : d.brw = false)
    (k : ∀ J, JOk F bad1 σ ρ1 H1 none J ds → Rr J H1) : (∃ a, v = .ref a ∧ (∃ xs, SqL X.K H1 a xs) ∧ Rr (Itl X.K a) H1) ∨ (∃ a, v = .ref a ∧ (∃ xs, SqT X.K H1 a xs) ∧ Rr (Itt X.K a) H1) ∨ (∃ x, v = .str x ∧ Rr (Its x) H1) := by
  rw [hK]
  have keepL : ∀ {a vs}, ((Rd H1 a (.lst vs) ∧ ¬ Mm bad1 σ ρ1 a) ∨ WL F.K a vs) → ∀ bad2 σ2 ρ2 H2, Lat F bad1 σ ρ1 H1 bad2 σ2 ρ2 H2 → SqL F.K H2 a vs := fun h bad2 σ2 ρ2 H2 s => by
    rcases h with ⟨h, n⟩ | h
    · exact .inl (rd_step (M := Mm bad1 σ ρ1) s.f h n)
    · exact h H2
  have keepT : ∀ {a vs}, ((Rd H1 a (.tup vs) ∧ ¬ Mm bad1 σ ρ1 a) ∨ WT F.K a vs) → ∀ bad2 σ2 ρ2 H2, Lat F bad1 σ ρ1 H1 bad2 σ2 ρ2 H2 → SqT F.K H2 a vs := fun h bad2 σ2 ρ2 H2 s => by
    rcases h with ⟨h, n⟩ | h
    · exact .inl (rd_step (M := Mm bad1 σ ρ1) s.f h n)
    · exact h H2
  have s0 := Lat.of (Stl.refl o).toSst
  rcases va with ⟨im, r⟩ | ⟨t, a, rfl, r, n, ba⟩ | ⟨b, _⟩
  · cases r with
    | tup h hl hi =>
      cases hd
      have h := h.imp (fun h => (⟨.inl h.1, h.2⟩ : Rd H1 _ (.tup _) ∧ _)) (·.1)
      exact .inr (.inl ⟨_, rfl, ⟨_, keepT h _ _ _ _ s0⟩, k _ (jok_tup (keepT h) ⟨hl, hi⟩)⟩)
    | @tupN a0 o0 vs0 _ h hc hl hi =>
      cases hd
      have h : (Rd H1 a0 (.tup vs0) ∧ ¬ Mm bad1 σ ρ1 a0) ∨ WT F.K a0 vs0 := .inl ⟨.inr ⟨_, h.1⟩, h.2⟩
      exact .inr (.inl ⟨_, rfl, ⟨_, keepT h _ _ _ _ s0⟩, k _ (jok_tup (keepT h) ⟨hl, hi⟩)⟩)
    | seq h hl hi =>
      cases hd
      exact .inl ⟨_, rfl, ⟨_, keepL h _ _ _ _ s0⟩, k _ (jok_list (keepL h _ _ _ _ s0) (keepL h) ⟨hl, hi⟩)⟩
    | str l =>
      cases hd
      exact .inr (.inr ⟨_, rfl, k _ jok_str⟩)
    | _ => cases hd
  · cases d with
    | seq kd xs =>
      cases hd
      obtain ⟨vs, hv, rs⟩ := r
      have hp : ∀ bad2 σ2 ρ2 H2, Lat F bad1 σ ρ1 H1 bad2 σ2 ρ2 H2 → SqL F.K H2 a vs := fun bad2 σ2 ρ2 H2 s => .inl (.inl (s.ss.fr _ _ hv fun z => o.ob a z ba))
      exact .inl ⟨a, rfl, ⟨vs, hp _ _ _ _ s0⟩, k _ (jok_list (hp _ _ _ _ s0) hp rs)⟩
    | map kd xs => cases hd
    | mapT kd xs => cases hd
    | ins kd C xs => cases hd
    | _ => exact r.elim
  · rw [nb] at b; cases b
def wI (α : WE) : WI := fun ρ q => α ρ fun x ρ1 => x.brw = false ∧ ∃ ds, itemsOf x = some ds ∧ q ds none ρ1
theorem di_e (hK : X.K = F.K) (ha : DE X F e α) : DI X F tg e (wI α) := by
  refine ⟨fun bad σ ρ H q Rr o w k => (pi_any pe_run).to ?_⟩
  refine ha.go bad σ ρ H _ _ o w fun v d bad1 ρ1 H1 p1 w1 => ?_
  obtain ⟨nb, ds, hd, w1⟩ := w1
  exact va_iter hK p1.st.ok p1.va hd nb fun J j => k J ds none bad1 ρ1 H1 p1.st (fun _ _ e => nomatch e) j w1
/-- a name: its container, if it is its own, is watched -/
def wIV (i : Nat) : WI := fun ρ q => ∃ d ds, ρ[i]? = some (some d) ∧ itemsOf d = some ds ∧ q ds (if d.brw then some (i, d) else none) ρ
theorem di_v (i : Nat) {x : Str} (hK : X.K = F.K) (hN : X.N[i]? = some x := by rfl) (hv : Vis X.env.scope x := by first | exact Or.inl rfl | exact Or.inr (Or.inl rfl) | exact Or.inr (Or.inr rfl)) (hd : (x == ("__debug__" : Str)) = false := by decide)
    (hcd : (x == ("__classdict__" : Str)) = false := by decide) : DI X F tg (.Name x pos) (wIV i) := by
  refine ⟨fun bad σ ρ H q Rr o w k => (pi_any (pe_var hN hv hd hcd)).to ?_⟩
  obtain ⟨d, ds, e, hi, w⟩ := w
  obtain ⟨v, ev, s⟩ := o.sl i d e
  refine ⟨v, ev, ?_⟩
  rcases s with ⟨b, r⟩ | ⟨b, a, rfl, r⟩
  · rw [b, if_neg Bool.false_ne_true] at w
    exact va_iter (Hs := H) hK o (.inl ⟨r.imm, r⟩) hi b fun J j => k J ds none bad ρ H (.refl o) (fun _ _ e => nomatch e) j w
  · rw [b, if_pos rfl] at w
    cases d with
    | seq kd xs =>
      obtain rfl : xs = ds := Option.some.inj hi
      obtain ⟨vs, hv, rs⟩ := r
      rw [hK]
      refine .inl ⟨a, rfl, ⟨vs, .inl (.inl hv)⟩, k _ xs (some (i, .seq kd xs)) bad ρ H (.refl o) (fun k d e' => by cases e'; exact ⟨e, b⟩) (jok_watch ev rfl) w⟩
    | map kd xs => cases hi
    | mapT kd xs => cases hi
    | ins kd C xs => cases hi
    | _ => exact r.elim
def wR1 (τ : WA) : WI := fun ρ q => τ ρ fun as ρ1 => ∃ n, argsD ρ1 as = some [.int n] ∧ (-(2 ^ 62) ≤ n ∧ n < 2 ^ 62) ∧ q (rangeD 0 n) none ρ1
def wR2 (τ : WA) : WI := fun ρ q => τ ρ fun as ρ1 => ∃ m n, argsD ρ1 as = some [.int m, .int n] ∧ (-(2 ^ 62) ≤ m ∧ m < 2 ^ 62 ∧ -(2 ^ 62) ≤ n ∧ n < 2 ^ 62) ∧ q (rangeD m n) none ρ1
theorem vals1D {K : PySem.W.Frag} {H0 H H1 : Hp} {pa : List (Option Addr)} {σ : L2.St} {bad bad1 : Addr → Prop} {ρ ρ1 : VEnv} {vs : List V} {as : List Arg} {n : Int} (p : PoA K H0 pa σ bad ρ H vs as bad1 ρ1 H1) (h : argsD ρ1 as = some [.int n]) : vs = [.int n] := by
  obtain ⟨hl, hr⟩ := p.vals h
  match vs, hl with
  | [v], _ =>
    rcases hr 0 v _ rfl rfl with ⟨_, r⟩ | ⟨z, _⟩
    · rw [r.intI]
    · cases z
theorem vals2D {K : PySem.W.Frag} {H0 H H1 : Hp} {pa : List (Option Addr)} {σ : L2.St} {bad bad1 : Addr → Prop} {ρ ρ1 : VEnv} {vs : List V} {as : List Arg} {m n : Int} (p : PoA K H0 pa σ bad ρ H vs as bad1 ρ1 H1) (h : argsD ρ1 as = some [.int m, .int n]) : vs = [.int m, .int n] := by
  obtain ⟨hl, hr⟩ := p.vals h
  match vs, hl with
  | [v, u], _ =>
    rcases hr 0 v _ rfl rfl with ⟨_, r⟩ | ⟨z, _⟩
    · rcases hr 1 u _ rfl rfl with ⟨_, r2⟩ | ⟨z, _⟩
      · rw [r.intI, r2.intI]
      · cases z
    · cases z
theorem vals3D {K : PySem.W.Frag} {H0 H H1 : Hp} {pa : List (Option Addr)} {σ : L2.St} {bad bad1 : Addr → Prop} {ρ ρ1 : VEnv} {vs : List V} {as : List Arg} {m n c : Int} (p : PoA K H0 pa σ bad ρ H vs as bad1 ρ1 H1) (h : argsD ρ1 as = some [.int m, .int n, .int c]) : vs = [.int m, .int n, .int c] := by
  obtain ⟨hl, hr⟩ := p.vals h
  match vs, hl with
  | [v, u, w], _ =>
    rcases hr 0 v _ rfl rfl with ⟨_, r⟩ | ⟨z, _⟩
    · rcases hr 1 u _ rfl rfl with ⟨_, r2⟩ | ⟨z, _⟩
      · rcases hr 2 w _ rfl rfl with ⟨_, r3⟩ | ⟨z, _⟩
        · rw [r.intI, r2.intI, r3.intI]
        · cases z
      · cases z
    · cases z
theorem di_range1 {p : Pos} (hg : Gl X "range") (hm : X.mg "range" = none) (ha : DA X F [a] τ) (hs : starEach [a] X.env = [(false, eval a X.env)] := by rfl) : DI X F tg (.Call (.Name "range" p) [a] [] pos) (wR1 τ) := by
  refine ⟨fun bad σ ρ H q Rr o w k => (pi_range1 hg hm pa_run hs).to (ha.go bad σ ρ H _ _ o w fun vs as bad1 ρ1 H1 p1 w1 => ?_)⟩
  obtain ⟨n, ed, ⟨b1, b2⟩, w1⟩ := w1
  have j := jok_range (F := F) (bad := bad1) (σ := σ) (ρ := ρ1) (H := H1) (lo := 0) (hi := n)
  rw [Int.sub_zero] at j
  exact ⟨n, vals1D p1 ed, b1, b2, k _ _ none bad1 ρ1 H1 p1.st (fun _ _ e => nomatch e) j w1⟩
theorem di_range2 {p : Pos} (hg : Gl X "range") (hm : X.mg "range" = none) (ha : DA X F [a, b] τ) (hs : starEach [a, b] X.env = [(false, eval a X.env), (false, eval b X.env)] := by rfl) (hs2 : starEach [b] X.env = [(false, eval b X.env)] := by rfl) : DI X F tg (.Call (.Name "range" p) [a, b] [] pos) (wR2 τ) := by
  refine ⟨fun bad σ ρ H q Rr o w k => (pi_range2 hg hm pa_run hs hs2).to (ha.go bad σ ρ H _ _ o w fun vs as bad1 ρ1 H1 p1 w1 => ?_)⟩
  obtain ⟨m, n, ed, b, w1⟩ := w1
  exact ⟨m, n, vals2D p1 ed, b, k _ _ none bad1 ρ1 H1 p1.st (fun _ _ e => nomatch e) jok_range w1⟩
end

/-! ### comprehensions -/
def wpE (ρ : VEnv) : List Nat → VEnv
  | [] => ρ
  | v :: vs => (wpE ρ vs).set v none
def unwE (ρ1 ρ : VEnv) : List Nat → VEnv
  | [] => ρ
  | v :: vs => (unwE ρ1 ρ vs).set v (ρ1[v]?).join
def NB (ρ : VEnv) (k : Nat) : Prop := ∀ d, ρ[k]? = some (some d) → d.brw = false
theorem wpE_length (ρ : VEnv) : ∀ vs, (wpE ρ vs).length = ρ.length
  | [] => rfl
  | v :: vs => by unfold wpE; rw [List.length_set, wpE_length ρ vs]
theorem wpE_some {ρ : VEnv} {i : Nat} {d : D} : ∀ {vs : List Nat}, (wpE ρ vs)[i]? = some (some d) → ρ[i]? = some (some d) ∧ i ∉ vs
  | [], h => ⟨h, by simp⟩
  | v :: vs, h => by
    unfold wpE at h
    rcases get_set_some h with ⟨_, h, _⟩ | ⟨hj, h⟩
    · cases h
    · obtain ⟨h1, h2⟩ := wpE_some h
      exact ⟨h1, by simp only [List.mem_cons, not_or]; exact ⟨hj, h2⟩⟩
theorem wpE_out {ρ : VEnv} {i : Nat} : ∀ {vs : List Nat}, i ∉ vs → (wpE ρ vs)[i]? = ρ[i]?
  | [], _ => rfl
  | v :: vs, h => by
    simp only [List.mem_cons, not_or] at h
    unfold wpE
    rw [List.getElem?_set_ne (Ne.symm h.1), wpE_out h.2]
theorem unwE_length (ρ1 ρ : VEnv) : ∀ vs, (unwE ρ1 ρ vs).length = ρ.length
  | [] => rfl
  | v :: vs => by unfold unwE; rw [List.length_set, unwE_length ρ1 ρ vs]
theorem unwE_out {ρ1 ρ : VEnv} {i : Nat} : ∀ {vs : List Nat}, i ∉ vs → (unwE ρ1 ρ vs)[i]? = ρ[i]?
  | [], _ => rfl
  | v :: vs, h => by
    simp only [List.mem_cons, not_or] at h
    unfold unwE
    rw [List.getElem?_set_ne (Ne.symm h.1), unwE_out h.2]
theorem unwE_in {ρ1 ρ : VEnv} {i : Nat} {d : D} : ∀ {vs : List Nat}, i ∈ vs → (unwE ρ1 ρ vs)[i]? = some (some d) → ρ1[i]? = some (some d)
  | v :: vs, hi, h => by
    unfold unwE at h
    rcases get_set_some h with ⟨rfl, h, _⟩ | ⟨hj, h⟩
    · cases z : ρ1[i]? with
      | none => rw [z] at h; cases h
      | some y => rw [z] at h; simp at h; rw [h]
    · exact unwE_in ((List.mem_cons.mp hi).resolve_left hj) h
section
variable {K : PySem.W.Frag} {H0 H H1 : Hp} {pa : List (Option Addr)} {σ σw : L2.St} {bad bad1 bad2 : Addr → Prop} {ρ ρ1 : VEnv} {vs : List Nat}
theorem own_wipe (nb : ∀ k ∈ vs, NB ρ k) (j : Nat) (c : Addr) : OwnAt (wipe σ vs) (wpE ρ vs) j c ↔ OwnAt σ ρ j c := by
  constructor
  · rintro ⟨h1, d, h2, h3⟩
    exact ⟨(wipe_some h1).1, d, (wpE_some h2).1, h3⟩
  · rintro ⟨h1, d, h2, h3⟩
    have hj : j ∉ vs := fun z => by rw [nb j z d h2] at h3; cases h3
    exact ⟨by rw [wipe_out hj]; exact h1, d, by rw [wpE_out hj]; exact h2, h3⟩
theorem mm_of (h : ∀ j c, OwnAt σw ρ1 j c ↔ OwnAt σ ρ j c) : Mm bad σw ρ1 = Mm bad σ ρ := by
  funext b
  simp only [Mm, Own, h]
theorem Ok.wipeS (o : Ok K H0 pa bad σ ρ H) (nb : ∀ k ∈ vs, NB ρ k) : Ok K H0 pa bad (wipe σ vs) (wpE ρ vs) H := by
  have own := own_wipe (σ := σ) nb
  have mm := mm_of (bad := bad) own
  refine ⟨by rw [wipe_length, wpE_length]; exact o.len, fun j d h => ?_, fun i j a h1 h2 => o.inj i j a ((own i a).mp h1) ((own j a).mp h2), fun i a h => o.new i a ((own i a).mp h), fun i a h => (own i a).mpr (o.par i a h), o.fr, fun a ⟨j, h⟩ => o.ob a ⟨j, (own j a).mp h⟩, o.dom⟩
  rw [mm]
  obtain ⟨h1, h2⟩ := wpE_some h
  obtain ⟨v, e, s⟩ := o.sl j d h1
  exact ⟨v, by rw [wipe_out h2]; exact e, s⟩
/-- the slots as they were ahead -/
theorem Ok.unwipe (o1 : Ok K H0 pa bad1 σ ρ1 H1) (nb1 : ∀ k ∈ vs, NB ρ1 k) (o : Ok K H0 pa bad (L2.wipe σ vs) ρ H) (nb : ∀ k ∈ vs, NB ρ k) (own1 : ∀ j c, OwnAt (L2.wipe σ vs) ρ j c ↔ OwnAt σ ρ1 j c)
    (fr : ∀ b x, H1 b = some x → ¬ Own σ ρ1 b → H b = some x) (bn : ∀ b, bad b → bad1 b ∨ H1 b = none) : Ok K H0 pa bad σ (unwE ρ1 ρ vs) H ∧ ∀ j c, OwnAt σ (unwE ρ1 ρ vs) j c ↔ OwnAt σ ρ1 j c := by
  have own : ∀ j c, OwnAt σ (unwE ρ1 ρ vs) j c ↔ OwnAt (L2.wipe σ vs) ρ j c := fun j c => by
    constructor
    · rintro ⟨h1, d, h2, h3⟩
      have hj : j ∉ vs := fun z => by rw [nb1 j z d (unwE_in z h2)] at h3; cases h3
      rw [unwE_out hj] at h2
      exact ⟨by rw [wipe_out hj]; exact h1, d, h2, h3⟩
    · rintro ⟨h1, d, h2, h3⟩
      have hj : j ∉ vs := fun z => by rw [nb j z d h2] at h3; cases h3
      exact ⟨(wipe_some h1).1, d, by rw [unwE_out hj]; exact h2, h3⟩
  have mm := mm_of (bad := bad) own
  refine ⟨⟨?_, fun j d h => ?_, fun i j a h1 h2 => o.inj i j a ((own i a).mp h1) ((own j a).mp h2), fun i a h => o.new i a ((own i a).mp h), fun i a h => (own i a).mpr (o.par i a h), o.fr, fun a ⟨j, h⟩ => o.ob a ⟨j, (own j a).mp h⟩, o.dom⟩, fun j c => (own j c).trans (own1 j c)⟩
  · rw [unwE_length]; have := o.len; rw [wipe_length] at this; exact this
  · rw [mm]
    by_cases hj : j ∈ vs
    · have h1 := unwE_in hj h
      obtain ⟨v, e, s⟩ := o1.sl j d h1
      refine ⟨v, e, ?_⟩
      rcases s with ⟨b, r⟩ | ⟨b, _⟩
      · refine .inl ⟨b, r.mono (fun b x h n => fr b x h fun z => n (.inr z)) fun b m => ?_⟩
        rcases m with m | ⟨j, m⟩
        · exact (bn b m).imp .inl id
        · exact .inl (.inr ⟨j, (own1 j b).mp m⟩)
      · rw [nb1 j hj d h1] at b; cases b
    · rw [unwE_out hj] at h
      obtain ⟨v, e, s⟩ := o.sl j d h
      exact ⟨v, (wipe_some e).1, s⟩
/-- a protected object is written -/
theorem Ok.updBad {a : Addr} {x : HO} (o : Ok K H0 pa bad σ ρ H) (ha : bad a) (h0 : H0 a = none) : Ok K H0 pa bad σ ρ (upd H a x) := by
  have hne : H a ≠ none := fun z => (o.dom a z).2 ha
  have ff : ∀ b y, H b = some y → ¬ Mm bad σ ρ b → upd H a x b = some y := fun b y h n => by
    rw [upd_ne (fun z => n (.inl (by subst z; exact ha)))]; exact h
  refine ⟨o.len, fun j d h => ?_, o.inj, o.new, o.par, fun b y h n => ?_, o.ob, fun b h => ?_⟩
  · obtain ⟨v, e, s⟩ := o.sl j d h
    refine ⟨v, e, s.mono (fun c ec eb => ?_) ff fun b m => .inl m⟩
    subst ec
    exact upd_ne fun z => o.ob c ⟨j, e, d, h, eb⟩ (z ▸ ha)
  · by_cases hb : b = a
    · subst hb; rw [h0] at h; cases h
    · rw [upd_ne hb]; exact o.fr b y h n
  · have : b ≠ a := fun z => by rw [z, upd_same] at h; cases h
    rw [upd_ne this] at h; exact o.dom b h
end
end VL

namespace VL
open PySem PySem.Spec PyProof.Rows L2
theorem wipe_get {σ : L2.St} {j : Nat} : ∀ {vs : List Nat}, (L2.wipe σ vs)[j]? = if j ∈ vs then (σ[j]?).map (fun _ => none) else σ[j]?
  | [] => by simp [L2.wipe]
  | v :: vs => by
    unfold L2.wipe
    by_cases h : j = v
    · subst h
      rw [if_pos (by simp)]
      by_cases hl : j < σ.length
      · rw [List.getElem?_set_self (by rw [wipe_length]; exact hl), List.getElem?_eq_getElem hl]; rfl
      · rw [List.getElem?_eq_none (by rw [List.length_set, wipe_length]; omega), List.getElem?_eq_none (by omega)]; rfl
    · rw [List.getElem?_set_ne (Ne.symm h), wipe_get (vs := vs)]
      simp [h]
theorem wipe_set {σ : L2.St} {i : Nat} {x : Option V} {vs : List Nat} (h : i ∈ vs) : L2.wipe (σ.set i x) vs = L2.wipe σ vs := by
  apply List.ext_getElem?
  intro j
  rw [wipe_get, wipe_get]
  by_cases hj : j = i
  · subst hj
    rw [if_pos h, if_pos h]
    by_cases hl : j < σ.length
    · rw [List.getElem?_set_self hl, List.getElem?_eq_getElem hl]; rfl
    · rw [List.getElem?_eq_none (by rw [List.length_set]; omega), List.getElem?_eq_none (by omega)]
  · rw [List.getElem?_set_ne (Ne.symm hj)]
theorem wipe_wipe {σ : L2.St} {vs : List Nat} : L2.wipe (L2.wipe σ vs) vs = L2.wipe σ vs := by
  apply List.ext_getElem?
  intro j
  rw [wipe_get, wipe_get]
  split
  · cases σ[j]? <;> rfl
  · rfl
/-! ### a comprehension's targets, tests -/
structure DGc (X : Cx) (F : Df) (vs : List Nat) (tg : Expr) (g : WG) : Prop where
  go : ∀ (bad : Addr → Prop) (σ : L2.St) (ρ : VEnv) (H : Hp) (v : V) (d : D) (q : VEnv → Prop) (Q : L2.St → Hp → Prop), Ok F.K F.H0 F.pa bad σ ρ H → R F.K H (Mm bad σ ρ) v d → g d ρ q → (∀ k ∈ vs, NB ρ k) →
    (∀ σ' ρ' H', Stl F bad σ ρ H σ' ρ' H' → L2.wipe σ' vs = L2.wipe σ vs → (∀ j c, OwnAt σ' ρ' j c ↔ OwnAt σ ρ j c) → (∀ k ∈ vs, NB ρ' k) → q ρ' → Q σ' H') → runG X tg v σ H Q
structure DGcs (X : Cx) (F : Df) (vs : List Nat) (tg : List Expr) (g : WGs) : Prop where
  go : ∀ (bad : Addr → Prop) (σ : L2.St) (ρ : VEnv) (H : Hp) (us : List V) (ds : List D) (q : VEnv → Prop) (Q : L2.St → Hp → Prop), Ok F.K F.H0 F.pa bad σ ρ H → Rs F.K H (Mm bad σ ρ) us ds → g ds ρ q → (∀ k ∈ vs, NB ρ k) →
    (∀ σ' ρ' H', Stl F bad σ ρ H σ' ρ' H' → L2.wipe σ' vs = L2.wipe σ vs → (∀ j c, OwnAt σ' ρ' j c ↔ OwnAt σ ρ j c) → (∀ k ∈ vs, NB ρ' k) → q ρ' → Q σ' H') → runGs X tg us σ H Q
section
variable {X : Cx} {F : Df} {e a b c o tg iter : Expr} {pos apos cpos npos : Pos} {α β γ : WE} {es tgs : List Expr} {τ : WA} {θ : WTs} {g : WG} {gs : WGs} {vs : List Nat}
theorem dgc_name (i : Nat) {x : Str} (hp : F.pa.length ≤ i) (hN : X.N.Nodup) (hv : i ∈ vs := by decide) (hi : X.N[i]? = some x := by rfl) (hx : Loc X.env.scope x := by first | exact Or.inl rfl | exact Or.inr rfl) (hf : X.fn x = true ∨ X.env.scope.names.lookup x = some .local := by first | exact .inl rfl | exact .inr rfl | assumption) : DGc X F vs (.Name x pos) (gN i) := by
  refine ⟨fun bad σ ρ H v d q Q o r w nb k => (pg_name hN hi hx hf).to ?_⟩
  obtain ⟨hl, w⟩ := w
  have o2 := o.put (.of hp) hl r.imm r
  have := (Stp.refl o).put (bad3 := bad) (v := v) (d := d) (i := i) (fun _ h => h) (fun a _ b => by rw [imm_brw r.imm] at b; cases b) (fun z => by have := r.imm; unfold D.imm at this; rw [z] at this; cases this) o2
  refine k _ _ _ this (wipe_set hv) (fun j c => ⟨?_, ?_⟩) (fun j hj e h => ?_) w
  · rintro ⟨h1, e, h2, h3⟩
    rcases get_set_some h2 with ⟨_, h, _⟩ | ⟨hj, h⟩
    · cases h; rw [imm_brw r.imm] at h3; cases h3
    · rw [List.getElem?_set_ne (Ne.symm hj)] at h1; exact ⟨h1, e, h, h3⟩
  · rintro ⟨h1, e, h2, h3⟩
    have hj : j ≠ i := fun z => by subst z; rw [nb j hv e h2] at h3; cases h3
    exact ⟨by rw [List.getElem?_set_ne (Ne.symm hj)]; exact h1, e, by rw [List.getElem?_set_ne (Ne.symm hj)]; exact h2, h3⟩
  · rcases get_set_some h with ⟨_, h, _⟩ | ⟨_, h⟩
    · cases h; exact imm_brw r.imm
    · exact nb j hj e h
theorem dgcs_nil : DGcs X F vs [] gsN := by
  refine ⟨fun bad σ ρ H us ds q Q o r w nb k => pgs_nil.to ?_⟩
  obtain ⟨rfl, w⟩ := w
  exact ⟨List.eq_nil_of_length_eq_zero r.1, k σ ρ H (.refl o) rfl (fun _ _ => Iff.rfl) nb w⟩
theorem dgcs_cons (h1 : DGc X F vs tg g) (h2 : DGcs X F vs tgs gs) (hs : (assignEach (tg :: tgs) X.env).map (·.2) = assign tg X.env :: (assignEach tgs X.env).map (·.2) := by rfl) : DGcs X F vs (tg :: tgs) (gsC g gs) := by
  refine ⟨fun bad σ ρ H us ds q Q o r w nb k => (pgs_cons pg_run pgs_run hs).to ?_⟩
  obtain ⟨d, t, rfl, w⟩ := w
  cases us with
  | nil => cases r.1
  | cons v us =>
    obtain ⟨r1, r2⟩ := r.uncons
    refine ⟨v, us, rfl, h1.go bad σ ρ H v d _ _ o r1 w nb fun σ1 ρ1 H1 s1 e1 ow1 nb1 w1 => ?_⟩
    exact h2.go bad σ1 ρ1 H1 us t q Q s1.ok (r2.mono (Stl.f s1.toSst) (Stl.m s1.toSst)) w1 nb1 fun σ2 ρ2 H2 s2 e2 ow2 nb2 => k σ2 ρ2 H2 (s1.trans s2) (e2.trans e1) (fun j c => (ow2 j c).trans (ow1 j c)) nb2
theorem dgc_tup {k n : Nat} (hK : X.K = F.K) (hc : X.calm = true) (h : DGcs X F vs tgs gs) (hn : (assignEach tgs X.env).length = n := by rfl) (hst : (assignEach tgs X.env).findIdx? (·.1) = none := by rfl) : DGc X F vs (.Tuple tgs k pos) (gT n gs) := by
  refine ⟨fun bad σ ρ H v d q Q o r w nb kk => (pg_tup hc pgs_run hn hst).to ?_⟩
  obtain ⟨ds, rfl, hl, w⟩ := w
  obtain ⟨a, us, rfl, hq, rs⟩ := r.tupI
  exact ⟨a, us, rfl, by rw [hK]; exact hq, by rw [rs.1, hl], h.go bad σ ρ H us ds q Q o rs w nb kk⟩
inductive DTs (X : Cx) (F : Df) : List Expr → WTs → Prop where
  | nil : DTs X F [] (fun ρ q => q true ρ)
  | one {c : Expr} {η : WTs} (h : DT X F c η) : DTs X F [c] η
def rT (X : Cx) : List Expr → TT
  | [] => tYes
  | [c] => runT X c
  | _ => fun _ _ _ => False
theorem DTs.pts {ifs : List Expr} (h : DTs X F ifs θ) : PTs X ifs (rT X ifs) := by
  cases h with
  | nil => exact pts_nil
  | one h => exact pts_one pt_run
theorem DTs.go {ifs : List Expr} (h : DTs X F ifs θ) {bad : Addr → Prop} {σ : L2.St} {ρ : VEnv} {H : Hp} {q : Bool → VEnv → Prop} {Q : Bool → Hp → Prop} (o : Ok F.K F.H0 F.pa bad σ ρ H) (w : θ ρ q) (k : ∀ b ρ' H', Stp F.K F.H0 F.pa σ bad ρ H bad ρ' H' → q b ρ' → Q b H') : rT X ifs σ H Q := by
  cases h with
  | nil => exact k true ρ H (.refl o) w
  | one h => exact h.go bad σ ρ H q Q o w k
end
def nbs (ρ : VEnv) (vs : List Nat) : Bool := vs.all fun k => match ρ[k]? with
  | some (some d) => !d.brw
  | _ => true
def wtOut : Option (Nat × D) → List Nat → Bool
  | some (k, _), vs => !vs.contains k
  | none, _ => true
def isWt (ρ : VEnv) : Option (Nat × D) → Prop
  | some (k, d) => ρ[k]? = some (some d)
  | none => True
theorem nbs_of {ρ : VEnv} {vs : List Nat} (h : nbs ρ vs = true) : ∀ k ∈ vs, NB ρ k := fun k hk d hd => by
  have := List.all_eq_true.mp h k hk
  rw [hd] at this
  simpa using this
def wLc (ι : WI) (g : WG) (vs : List Nat) (θ : WTs) (α : WE) : WE := fun ρ q => ι ρ fun items wt ρ1 => nbs ρ1 vs = true ∧ wtOut wt vs = true ∧ ∃ W : Nat → List D → VEnv → Prop, W 0 [] (wpE ρ1 vs) ∧ ∀ i acc ρ, i ≤ items.length → W i acc ρ → isWt ρ wt ∧ (i = items.length → q (.seq .tmp acc) (unwE ρ1 ρ vs)) ∧
  ∀ x, items[i]? = some x → g x ρ fun ρ2 => θ ρ2 fun b ρ3 => if b = true then α ρ3 fun y ρ4 => y.brw = false ∧ acc.length < sizeLine ∧ W (i + 1) (acc ++ [y.to .froz]) (wpE ρ4 vs) else W (i + 1) acc (wpE ρ3 vs)
section
variable {X : Cx} {F : Df} {tg iter elt : Expr} {pos : Pos} {α : WE} {θ : WTs} {g : WG} {ι : WI} {ifs : List Expr} {scope : Scope} {own : List (Str × Nat)}
abbrev bX (X : Cx) (scope : Scope) (s : Shared) (H : Hp) (C : Addr) (cl : List (Str × Addr)) (fp : List Addr) : Cx := X.blk s H scope (compEnvC scope cl C X.env) fp
def allG (X : Cx) (scope : Scope) (tg : Expr) : TG := fun v σ H Q => ∀ s H' C cl fp, runG (bX X scope s H' C cl fp) tg v σ H Q
def allT (X : Cx) (scope : Scope) (ifs : List Expr) : TT := fun σ H Q => ∀ s H' C cl fp, rT (bX X scope s H' C cl fp) ifs σ H Q
def allE (X : Cx) (scope : Scope) (e : Expr) : TE := fun σ H Q => ∀ s H' C cl fp, run (bX X scope s H' C cl fp) e σ H Q
theorem lc_read (hi : DI X F tg iter ι)
    (hg : ∀ s H C cl fp, DGc (bX X scope s H C cl fp) F (own.map (·.2)) tg g) (ht : ∀ s H C cl fp, DTs (bX X scope s H C cl fp) F ifs θ) (he : ∀ s H C cl fp, DE (bX X scope s H C cl fp) F elt α)
    {bad : Addr → Prop} {σ : L2.St} {ρ : VEnv} {H : Hp} {q : D → VEnv → Prop} {Q : VK} (o : Ok F.K F.H0 F.pa bad σ ρ H) (w : wLc ι g (own.map (·.2)) θ α ρ q)
    (k : ∀ v d bad' ρ' H', Po F.K F.H0 F.pa σ bad ρ H v d bad' ρ' H' → q d ρ' → Q v H') :
    tLc (runI X tg iter) (allG X scope tg) (allT X scope ifs) (allE X scope elt) (own.map (·.2)) σ H Q := by
  generalize own.map (·.2) = vs at hg w ⊢
  refine hi.go bad σ ρ H _ _ o w fun J items wt bad1 ρ1 H1 s1 wo jo w1 => ?_
  obtain ⟨nb0, wout, W, w0, turn⟩ := w1
  have nb1 := nbs_of nb0
  obtain ⟨G, Y, wk, jk⟩ := jo.ex
  intro Dd nD
  have h0D : F.H0 Dd = none := (s1.ok.dom Dd nD).1
  -- the state with the new list
  have oD : Ok F.K F.H0 F.pa (fun b => bad1 b ∨ b = Dd) σ ρ1 (upd H1 Dd (.lst [])) := s1.ok.more (new_same nD) nD (by rw [upd_same]; exact fun z => nomatch z)
  -- a state behind some turns, as the walk wants it
  have up : ∀ {ρ' H'}, Ok F.K F.H0 F.pa (fun b => bad1 b ∨ b = Dd) (L2.wipe σ vs) ρ' H' → (∀ b x, H1 b = some x → ¬ Own σ ρ1 b → H' b = some x) → (∀ b, H' b = none → H1 b = none) → (∀ j c, OwnAt (L2.wipe σ vs) ρ' j c ↔ OwnAt σ ρ1 j c) → Lat F bad1 σ ρ1 H1 (fun b => bad1 b ∨ b = Dd) (L2.wipe σ vs) ρ' H' := fun o' fr dm ow => ⟨⟨o', fr, dm, fun b ⟨j, z⟩ => .inl ⟨j, (ow j b).mp z⟩⟩, fun _ h => .inl h, fun b h => h.imp id fun e => by subst e; exact nD⟩
  have held : ∀ {ρ' H'}, Ok F.K F.H0 F.pa (fun b => bad1 b ∨ b = Dd) (L2.wipe σ vs) ρ' H' → (∀ j c, OwnAt (L2.wipe σ vs) ρ' j c ↔ OwnAt σ ρ1 j c) → isWt ρ' wt → ∀ k d, wt = some (k, d) → ∃ a, σ[k]? = some (some (.ref a)) ∧ RC F.K H' (Mm (fun b => bad1 b ∨ b = Dd) (L2.wipe σ vs) ρ') a d := fun {ρ' H'} o' ow hw k d e => by
    obtain ⟨h1, h2⟩ := wo k d e
    subst e
    obtain ⟨v, ev, s⟩ := s1.ok.sl k d h1
    obtain ⟨z, _⟩ | ⟨_, a, rfl, _⟩ := s
    · rw [h2] at z; cases z
    have hO := (ow k a).mpr ⟨ev, d, h1, h2⟩
    obtain ⟨v', ev', s'⟩ := o'.sl k d hw
    rw [hO.1] at ev'; cases ev'
    obtain ⟨z, _⟩ | ⟨_, a', e', r⟩ := s'
    · rw [h2] at z; cases z
    cases e'
    exact ⟨a, ev, r⟩
  refine lc_it wk (fun i H' => ∃ (ρ' : VEnv) (acc : List VL.D) (accV : List V), (Ok F.K F.H0 F.pa (fun b => bad1 b ∨ b = Dd) (L2.wipe σ vs) ρ' H' ∧ (∀ b x, H1 b = some x → ¬ Own σ ρ1 b → H' b = some x) ∧ (∀ b, H' b = none → H1 b = none) ∧
    (∀ j c, OwnAt (L2.wipe σ vs) ρ' j c ↔ OwnAt σ ρ1 j c) ∧ (∀ (j : Nat) (d : VL.D), ρ'[j]? = some (some d) → d.kd = .lock → ∃ d0, ρ1[j]? = some (some d0) ∧ d0.kd = .lock) ∧ (∀ k ∈ vs, NB ρ' k)) ∧
    H' Dd = some (.lst accV) ∧ Rs F.K H' (Mm (fun b => bad1 b ∨ b = Dd) (L2.wipe σ vs) ρ') accV acc ∧ i ≤ items.length ∧ W i acc ρ') ?_ ?_ ?_ ?_
  · refine ⟨wpE ρ1 vs, [], [], ⟨oD.wipeS nb1, fun b x h _ => new_same nD b x h, fun b z => same_dom (new_same nD) z, own_wipe nb1, fun j d h k => ⟨d, (wpE_some h).1, k⟩, fun j hj d h => absurd hj (wpE_some h).2⟩, upd_same, .nil, Nat.zero_le _, w0⟩
  · rintro i H' hle ⟨ρ', acc, accV, ⟨o', fr, dm, ow, lk, nb⟩, hD, rs, hi, hw⟩
    exact (jk _ _ _ _ (up o' fr dm ow) (held o' ow (turn i acc ρ' hi hw).1)).1
  · rintro i x H' H3 hlt ⟨ρ', acc, accV, ⟨o', fr, dm, ow, lk, nb⟩, hD, rs, hi, hw⟩ y s H0' C cl fp
    obtain ⟨hwt, _, step⟩ := turn i acc ρ' hi hw
    obtain ⟨hs, d, hd, r⟩ := (jk _ _ _ _ (up o' fr dm ow) (held o' ow hwt)).2 i x H3 hlt y
    have o3 := o'.same hs
    have rs3 := rs.same hs
    refine (hg s H0' C cl fp).go _ _ _ H3 x d _ _ o3 r (step d hd) nb fun σ4 ρ4 H4 s4 e4 ow4 nb4 w4 => ?_
    rw [wipe_wipe] at e4
    refine ⟨e4, fun s H0' C cl fp => (ht s H0' C cl fp).go s4.ok w4 fun b ρ5 H5 s5 w5 => ?_⟩
    -- what stands behind the element, or the test
    have fin : ∀ {ρ6 : VEnv} {H6 : Hp} {bad6 : Addr → Prop}, Stp F.K F.H0 F.pa σ4 (fun b => bad1 b ∨ b = Dd) ρ4 H4 bad6 ρ6 H6 →
        (Ok F.K F.H0 F.pa (fun b => bad1 b ∨ b = Dd) (L2.wipe σ vs) (wpE ρ6 vs) H6 ∧ (∀ b x, H1 b = some x → ¬ Own σ ρ1 b → H6 b = some x) ∧ (∀ b, H6 b = none → H1 b = none) ∧
        (∀ j c, OwnAt (L2.wipe σ vs) (wpE ρ6 vs) j c ↔ OwnAt σ ρ1 j c) ∧ (∀ (j : Nat) (d : VL.D), (wpE ρ6 vs)[j]? = some (some d) → d.kd = .lock → ∃ d0, ρ1[j]? = some (some d0) ∧ d0.kd = .lock) ∧ (∀ k ∈ vs, NB (wpE ρ6 vs) k)) ∧
        H6 Dd = some (.lst accV) ∧ Rs F.K H6 (Mm (fun b => bad1 b ∨ b = Dd) (L2.wipe σ vs) (wpE ρ6 vs)) accV acc ∧ Mm (fun b => bad1 b ∨ b = Dd) (L2.wipe σ vs) (wpE ρ6 vs) = Mm (fun b => bad1 b ∨ b = Dd) σ4 ρ6 := fun {ρ6 H6 bad6} t => by
      have nb6 : ∀ k ∈ vs, NB ρ6 k := fun k hk d hd => by
        cases hb : d.brw with
        | false => rfl
        | true =>
          obtain ⟨v, ev, q⟩ := t.ok.sl k d hd
          obtain ⟨z, _⟩ | ⟨_, a, rfl, _⟩ := q
          · rw [hb] at z; cases z
          obtain ⟨_, d4, h4, b4⟩ := (t.own k a).mp ⟨ev, d, hd, hb⟩
          rw [nb4 k hk d4 h4] at b4; cases b4
      have own6 : ∀ j c, OwnAt (L2.wipe σ vs) (wpE ρ6 vs) j c ↔ OwnAt σ ρ1 j c := fun j c => by
        have := own_wipe (σ := σ4) nb6 j c
        rw [e4] at this
        exact this.trans ((t.own j c).trans ((ow4 j c).trans (ow j c)))
      have fr46 : ∀ b x, H3 b = some x → ¬ Own σ ρ1 b → H6 b = some x := fun b x h n => t.fr b x (s4.fr b x h fun ⟨j, z⟩ => n ⟨j, (ow j b).mp z⟩) fun ⟨j, z⟩ => n ⟨j, (ow j b).mp ((ow4 j b).mp z)⟩
      have nOD : ¬ Own σ ρ1 Dd := fun ⟨j, z⟩ => o'.ob Dd ⟨j, (ow j Dd).mpr z⟩ (.inr rfl)
      have mm6 : Mm (fun b => bad1 b ∨ b = Dd) (L2.wipe σ vs) (wpE ρ6 vs) = Mm (fun b => bad1 b ∨ b = Dd) σ4 ρ6 := by
        rw [← e4]; exact mm_of (own_wipe nb6)
      refine ⟨⟨?_, fun b x h n => fr46 b x (hs b x (fr b x h n)) n, fun b z => dm b (same_dom hs (s4.dom b (t.dom b z))), own6, fun j d h k => ?_, fun k hk d h => absurd hk (wpE_some h).2⟩, fr46 _ _ (hs _ _ hD) nOD, ?_, mm6⟩
      · rw [← e4]; exact (t.back.ok).wipeS nb6
      · obtain ⟨d4, h4, k4⟩ := t.lk j d (wpE_some h).1 k
        obtain ⟨⟨d3, h3, k3⟩, _⟩ := s4.lk j d4 h4 k4
        exact lk j d3 h3 k3
      · refine rs3.mono (fun b x h n => fr46 b x h fun ⟨j, z⟩ => n (.inr ⟨j, (ow j b).mpr z⟩)) fun b m => .inl ?_
        rcases m with m | ⟨j, m⟩
        · exact .inl m
        · exact .inr ⟨j, (ow j b).mpr ((own6 j b).mp m)⟩
    cases b with
    | false =>
      rw [if_neg Bool.false_ne_true] at w5 ⊢
      obtain ⟨f1, f2, f3, _⟩ := fin s5
      exact ⟨_, acc, accV, f1, f2, f3, hlt, w5⟩
    | true =>
      rw [if_pos rfl] at w5 ⊢
      intro s H0' C cl fp
      refine (he s H0' C cl fp).go _ σ4 ρ5 H5 _ _ s5.ok w5 fun y dy bad6 ρ6 H6 p6 w6 => ?_
      obtain ⟨nby, hz, w6⟩ := w6
      obtain ⟨⟨f1, f2, f3, f4, f5, f6⟩, g2, g3, g4⟩ := fin (s5.trans p6.st)
      have ry : R F.K H6 (Mm (fun b => bad1 b ∨ b = Dd) (L2.wipe σ vs) (wpE ρ6 vs)) y (dy.to .froz) := by
        rw [g4]; exact p6.va.froz s5.ok p6.st nby
      have ff : ∀ b x, H6 b = some x → ¬ Mm (fun b => bad1 b ∨ b = Dd) (L2.wipe σ vs) (wpE ρ6 vs) b → upd H6 Dd (.lst (accV ++ [y])) b = some x := fun b x h n => by
        rw [upd_ne (fun z => n (.inl (.inr z)))]; exact h
      refine ⟨accV, g2, by rw [g3.1]; exact hz, wpE ρ6 vs, acc ++ [dy.to .froz], accV ++ [y], ⟨f1.updBad (.inr rfl) h0D, fun b x h n => ?_, fun b z => ?_, f4, f5, f6⟩, upd_same, (g3.append (.cons ry .nil)).mono ff fun b m => .inl m, hlt, w6⟩
      · have hb : b ≠ Dd := fun z => by subst z; rw [nD] at h; cases h
        rw [upd_ne hb]; exact f2 b x h n
      · have hb : b ≠ Dd := fun e => by rw [e, upd_same] at z; cases z
        rw [upd_ne hb] at z; exact f3 b z
  · rintro H' ⟨ρ', acc, accV, ⟨o', fr, dm, ow, lk, nb⟩, hD, rs, hi, hw⟩
    obtain ⟨_, nx, _⟩ := turn _ acc ρ' (Nat.le_refl _) hw
    have bn : ∀ b, (bad1 b ∨ b = Dd) → bad1 b ∨ H1 b = none := fun b h => h.imp id fun e => by subst e; exact nD
    obtain ⟨oU, ownU⟩ := s1.ok.unwipe nb1 o' nb ow fr bn
    have sU : Stp F.K F.H0 F.pa σ bad1 ρ1 H1 (fun b => bad1 b ∨ b = Dd) (unwE ρ1 ρ' vs) H' := by
      refine ⟨oU, ownU, fr, dm, fun b h => .inl h, bn, fun j d h k => ?_⟩
      by_cases hj : j ∈ vs
      · exact ⟨d, unwE_in hj h, k⟩
      · rw [unwE_out hj] at h; exact lk j d h k
    refine k (.ref Dd) (.seq .tmp acc) _ _ H' (s1.po ⟨sU, .inr (.inl ⟨rfl, Dd, rfl, ⟨accV, hD, ?_⟩, nD, .inr rfl⟩)⟩) (nx rfl)
    rw [mm_of ownU, ← mm_of ow]; exact rs
end
end VL

namespace VL
open PySem PySem.Spec PyProof.Rows L2
section
variable {X : Cx} {F : Df} {tg iter elt : Expr} {pos : Pos} {α : WE} {θ : WTs} {g : WG} {ι : WI} {ifs : List Expr} {scope : Scope} {own : List (Str × Nat)}
theorem de_lc (hc : X.calm = true) (hN : X.N.Nodup) (hi : DI X F tg iter ι) (ok : BlkOk X.N X.env.scope scope own)
    (hg : ∀ s H C cl fp, DGc (bX X scope s H C cl fp) F (own.map (·.2)) tg g) (ht : ∀ s H C cl fp, DTs (bX X scope s H C cl fp) F ifs θ) (he : ∀ s H C cl fp, DE (bX X scope s H C cl fp) F elt α) (hs : ∀ x, foldedSetIterable iter X.env x = pure x := by intro _; rfl) :
    DE X F (.ListComp elt [⟨tg, iter, ifs, 0⟩] scope pos) (wLc ι g (own.map (·.2)) θ α) :=
  ⟨fun bad σ ρ H q Q o w k => (pe_lc hc hN pi_runI ok (g := allG X scope tg) (tt := allT X scope ifs) (te := allE X scope elt) (fun s H C cl fp => ⟨fun pins st σ H' v u Q I r h => h s H C cl fp pins st u I r⟩)
    (fun s H C cl fp => ⟨fun pins st σ H' Q I h => (ht s H C cl fp).pts.run pins st σ H' Q I (h s H C cl fp)⟩) (fun s H C cl fp => ⟨fun pins st σ H' Q I h => h s H C cl fp pins st I⟩) hs).to (lc_read hi hg ht he o w k)⟩
theorem d1_setLc {i : Nat} {y : Str} {py : Pos} {spos : Pos} (hp : F.pa.length ≤ i) (hc : X.calm = true) (hN : X.N.Nodup) (hi : DI X F tg iter ι) (ok : BlkOk X.N X.env.scope scope own)
    (hg : ∀ s H C cl fp, DGc (bX X scope s H C cl fp) F (own.map (·.2)) tg g) (ht : ∀ s H C cl fp, DTs (bX X scope s H C cl fp) F ifs θ) (he : ∀ s H C cl fp, DE (bX X scope s H C cl fp) F elt α)
    (hsw : swapsWith (.ListComp elt [⟨tg, iter, ifs, 0⟩] scope pos) (some (.Name y py)) spos.line X.env = pure true := by exact sw_true rfl rfl rfl (by decide +kernel)) (hy : X.N[i]? = some y := by rfl) (hyl : X.env.scope.names.lookup y = some .local := by rfl) (hs : ∀ x, foldedSetIterable iter X.env x = pure x := by intro _; rfl) :
    D1 X F (.Assign [.Name y py] (.ListComp elt [⟨tg, iter, ifs, 0⟩] scope pos) spos) (wSet i (wLc ι g (own.map (·.2)) θ α)) := by
  refine ⟨fun bad σ ρ H E D o w kn kr kb kc => (ps_setLc hc hN hy hyl hsw pi_runI ok (g := allG X scope tg) (tt := allT X scope ifs) (te := allE X scope elt) (fun s H C cl fp => ⟨fun pins st σ H' v u Q I r h => h s H C cl fp pins st u I r⟩)
    (fun s H C cl fp => ⟨fun pins st σ H' Q I h => (ht s H C cl fp).pts.run pins st σ H' Q I (h s H C cl fp)⟩) (fun s H C cl fp => ⟨fun pins st σ H' Q I h => h s H C cl fp pins st I⟩) hs).to (lc_read hi hg ht he o w fun v d bad1 ρ1 H1 p1 w1 => ?_)⟩
  obtain ⟨nb, hl, w1⟩ := w1
  exact kn _ _ H1 (p1.put o (.of hp) hl nb) w1
end

/-! ### defs by their promises over data -/
abbrev Spec := List D → (D → List D → Prop) → Prop
def paOf : List V → List D → List (Option Addr)
  | v :: vs, d :: ds => (if d.brw then (match v with | .ref a => some a | _ => none) else none) :: paOf vs ds
  | _, _ => []
structure ArgsOk (K : PySem.W.Frag) (H : Hp) (M : Addr → Prop) (vs : List V) (ds : List D) : Prop where
  len : vs.length = ds.length
  va : ∀ (i : Nat) v d, vs[i]? = some v → ds[i]? = some d → SlV K H M v d
  ma : ∀ (i : Nat) a d, vs[i]? = some (.ref a) → ds[i]? = some d → d.brw = true → M a
  un : ∀ (i j : Nat) a d d', vs[i]? = some (.ref a) → vs[j]? = some (.ref a) → ds[i]? = some d → ds[j]? = some d' → d.brw = true → d'.brw = true → i = j
  dom : ∀ b, M b → H b ≠ none
def newM (M : Addr → Prop) (v : V) (d : D) : Addr → Prop := fun b => M b ∨ (d.isTmp = true ∧ v = .ref b)
structure CallPost (K : PySem.W.Frag) (H : Hp) (M : Addr → Prop) (vs : List V) (ds : List D) (v : V) (d : D) (ds' : List D) (H' : Hp) : Prop where
  fr : ∀ b x, H b = some x → (∀ i : Nat, (paOf vs ds)[i]? ≠ some (some b)) → H' b = some x
  dom : ∀ b, H' b = none → H b = none
  len : ds'.length = ds.length
  args : ∀ (i : Nat) a d0 d', (paOf vs ds)[i]? = some (some a) → ds[i]? = some d0 → ds'[i]? = some d' → RC K H' (newM M v d) a d' ∧ d'.kd = d0.kd
  val : (d.imm = true ∧ R K H' M v d) ∨ (d.isTmp = true ∧ ∃ a, v = .ref a ∧ H a = none ∧ RC K H' (newM M v d) a d)
def spV (K : PySem.W.Frag) (S : Spec) : Sp := fun vs H Q _ => ∃ M ds q, ArgsOk K H M vs ds ∧ S ds q ∧ ∀ v d ds' H', CallPost K H M vs ds v d ds' H' → q d ds' → Q v H'
/-- the arguments at the end -/
def finA : List D → VEnv → List D
  | d :: ds, r :: ρ => (if d.brw then (match r with | some d' => d'.to d.kd | none => d) else d) :: finA ds ρ
  | d :: ds, [] => d :: finA ds []
  | [], _ => []
theorem finA_length : ∀ (ds : List D) (ρ : VEnv), (finA ds ρ).length = ds.length
  | [], _ => rfl
  | d :: ds, [] => by unfold finA; rw [List.length_cons, finA_length ds [], List.length_cons]
  | d :: ds, r :: ρ => by unfold finA; rw [List.length_cons, finA_length ds ρ, List.length_cons]
theorem finA_get : ∀ {ds : List D} {ρ : VEnv} {i : Nat} {d d1 : D}, ds[i]? = some d → ρ[i]? = some (some d1) → d.brw = true → (finA ds ρ)[i]? = some (d1.to d.kd)
  | d :: ds, r :: ρ, 0, d0, d1, h1, h2, h3 => by
    simp at h1 h2; subst h1; subst h2
    simp [finA, h3]
  | d :: ds, r :: ρ, i + 1, d0, d1, h1, h2, h3 => by
    simp at h1 h2
    simp only [finA, List.getElem?_cons_succ]
    exact finA_get h1 h2 h3
theorem paOf_length : ∀ {vs : List V} {ds : List D}, vs.length = ds.length → (paOf vs ds).length = ds.length
  | [], [], _ => rfl
  | v :: vs, d :: ds, h => by simp only [paOf, List.length_cons]; rw [paOf_length (by simpa using h)]
theorem paOf_get : ∀ {vs : List V} {ds : List D} {i : Nat} {a : Addr}, (paOf vs ds)[i]? = some (some a) → ∃ d, vs[i]? = some (.ref a) ∧ ds[i]? = some d ∧ d.brw = true
  | [], ds, i, a, h => by simp [paOf] at h
  | v :: vs, [], i, a, h => by simp [paOf] at h
  | v :: vs, d :: ds, 0, a, h => by
    simp only [paOf, List.getElem?_cons_zero, Option.some.injEq] at h
    split at h
    · rename_i hb
      split at h
      · cases h; exact ⟨d, rfl, rfl, hb⟩
      · cases h
    · cases h
  | v :: vs, d :: ds, i + 1, a, h => by
    simp only [paOf, List.getElem?_cons_succ] at h
    obtain ⟨d', h1, h2, h3⟩ := paOf_get h
    exact ⟨d', by simpa using h1, by simpa using h2, h3⟩
theorem paOf_of : ∀ {vs : List V} {ds : List D} {i : Nat} {a : Addr} {d : D}, vs[i]? = some (.ref a) → ds[i]? = some d → d.brw = true → (paOf vs ds)[i]? = some (some a)
  | [], ds, i, a, d, h, _, _ => by simp at h
  | v :: vs, [], i, a, d, _, h, _ => by simp at h
  | v :: vs, d' :: ds, 0, a, d, h1, h2, h3 => by
    simp at h1 h2; subst h1; subst h2
    simp [paOf, h3]
  | v :: vs, d' :: ds, i + 1, a, d, h1, h2, h3 => by
    simp only [paOf, List.getElem?_cons_succ]
    exact paOf_of (by simpa using h1) (by simpa using h2) h3
def env0 (n : Nat) (ds : List D) : VEnv := ds.map some ++ List.replicate (n - ds.length) none
theorem env0_get {n : Nat} {ds : List D} {i : Nat} {d : D} (h : (env0 n ds)[i]? = some (some d)) : ds[i]? = some d := by
  unfold env0 at h
  by_cases hi : i < (ds.map some).length
  · rw [List.getElem?_append_left hi, List.getElem?_map] at h
    cases z : ds[i]? with
    | none => rw [z] at h; cases h
    | some e => rw [z] at h; simpa using h
  · rw [List.getElem?_append_right (by omega), List.getElem?_replicate] at h
    split at h <;> cases h
theorem env0_of {n : Nat} {ds : List D} {i : Nat} {d : D} (h : ds[i]? = some d) : (env0 n ds)[i]? = some (some d) := by
  unfold env0
  have hi : i < (ds.map some).length := by rw [List.length_map]; exact (List.getElem?_eq_some_iff.mp h).1
  rw [List.getElem?_append_left hi, List.getElem?_map, h]; rfl
theorem start_of {N : List Str} {vs : List V} {i : Nat} {v : V} (h : vs[i]? = some v) : (start N vs)[i]? = some (some v) := by
  unfold L2.start
  have hi : i < (vs.map some).length := by rw [List.length_map]; exact (List.getElem?_eq_some_iff.mp h).1
  rw [List.getElem?_append_left hi, List.getElem?_map, h]; rfl
theorem start_get {N : List Str} {vs : List V} {i : Nat} {v : V} (h : (start N vs)[i]? = some (some v)) : vs[i]? = some v := by
  unfold L2.start at h
  by_cases hi : i < (vs.map some).length
  · rw [List.getElem?_append_left hi, List.getElem?_map] at h
    cases z : vs[i]? with
    | none => rw [z] at h; cases h
    | some e => rw [z] at h; simpa using h
  · rw [List.getElem?_append_right (by omega), List.getElem?_replicate] at h
    split at h <;> cases h
section
variable {K : PySem.W.Frag} {H : Hp} {M : Addr → Prop} {vs : List V} {ds : List D} {N : List Str}
def badOf (M : Addr → Prop) (vs : List V) (ds : List D) : Addr → Prop := fun b => M b ∧ ∀ i : Nat, (paOf vs ds)[i]? ≠ some (some b)
theorem own0 (a : ArgsOk K H M vs ds) (i : Nat) (c : Addr) : OwnAt (start N vs) (env0 N.length ds) i c ↔ (paOf vs ds)[i]? = some (some c) := by
  constructor
  · rintro ⟨h1, d, h2, h3⟩
    exact paOf_of (start_get h1) (env0_get h2) h3
  · intro h
    obtain ⟨d, h1, h2, h3⟩ := paOf_get h
    exact ⟨start_of h1, d, env0_of h2, h3⟩
theorem ok0 (a : ArgsOk K H M vs ds) (hl : ds.length ≤ N.length) : Ok K H (paOf vs ds) (badOf M vs ds) (start N vs) (env0 N.length ds) H := by
  have mm : ∀ b, Mm (badOf M vs ds) (start N vs) (env0 N.length ds) b → M b := fun b m => by
    rcases m with m | ⟨i, m⟩
    · exact m.1
    · obtain ⟨d, h1, h2, h3⟩ := paOf_get ((own0 a i b).mp m)
      exact a.ma i b d h1 h2 h3
  refine ⟨?_, fun i d h => ?_, fun i j c h1 h2 => ?_, fun i c h => .inl ((own0 a i c).mp h), fun i c h => (own0 a i c).mpr h, fun b x h _ => h, fun c ⟨i, h⟩ z => z.2 i ((own0 a i c).mp h), fun b z => ⟨z, fun q => a.dom b q.1 z⟩⟩
  · unfold L2.start env0
    rw [List.length_append, List.length_append, List.length_map, List.length_map, List.length_replicate, List.length_replicate, a.len]
  · have h2 := env0_get h
    have hv : i < vs.length := by rw [a.len]; exact (List.getElem?_eq_some_iff.mp h2).1
    have e := List.getElem?_eq_getElem hv
    exact ⟨vs[i], start_of e, (a.va i _ d e h2).mono (fun _ _ _ => rfl) (fun _ _ h _ => h) fun b m => .inl (mm b m)⟩
  · obtain ⟨d, h3, h4, h5⟩ := paOf_get ((own0 a i c).mp h1)
    obtain ⟨d', h6, h7, h8⟩ := paOf_get ((own0 a j c).mp h2)
    exact a.un i j c d d' h3 h6 h4 h7 h5 h8
end
section
variable {P : Program} {w : World} {K : PySem.W.Frag} {mg : Str → Option Value} {base : Heap}
/-- a def keeps its promise over data: its body's judgement, and what the body's reading shows -/
theorem fnok {x qual : Str} {st : Stmt} {f : Addr} {fd : FuncData} {N ps : List Str} {k n : Nat} {S : Spec} {wb : WS} (F : Fun K x qual st f fd) (sc : FnScope N ps (defScope st)) (hps : ps.length = n) (hN : n ≤ N.length)
    (hlen : ∀ ds q, S ds q → ds.length = n)
    (hbody : ∀ (X : Cx) (Fd : Df) (cdv : Value) (A : Around) (outer : List Env) (s : Shared) (H : Hp) (E : XK), X = (cxOf CX0 P w K mg base N qual (defScope st) f cdv A outer s H E).nox → Fd.K = K → Fd.pa.length = n → Room k X.A → DS X Fd (defBody st) wb)
    (hvc : ∀ ds q, S ds q → wb { nx := fun ρ => q .non (finA ds ρ), rt := fun d ρ => q d (finA ds ρ) } (env0 N.length ds)) : FnOk P w K mg base CX0 (k + 1) f fd ps (spV K S) := by
  refine F.ok sc (fun vs H Q E h => ?_) (fun cdv A outer s H vs Q E hr h => ?_)
  · obtain ⟨M, ds, q, a, hs, _⟩ := h
    rw [a.len, hlen ds q hs, hps]
  · obtain ⟨M, ds, q, a, hs, k⟩ := h
    have hl := hlen ds q hs
    have hd := hbody _ ⟨K, H, paOf vs ds⟩ cdv A outer s H E rfl rfl (by rw [paOf_length a.len, hl]) hr
    have Mto : ∀ {σ' ρ' H'}, Sst ⟨K, H, paOf vs ds⟩ (badOf M vs ds) (start N vs) (env0 N.length ds) H σ' ρ' H' → ∀ b, M b → Mm (badOf M vs ds) σ' ρ' b := fun {σ' ρ' H'} s b m => by
      by_cases z : ∃ i : Nat, (paOf vs ds)[i]? = some (some b)
      · obtain ⟨i, z⟩ := z
        exact .inr ⟨i, s.ok.par i b z⟩
      · exact .inl ⟨m, fun i e => z ⟨i, e⟩⟩
    have fr : ∀ {σ' ρ' H'}, Sst ⟨K, H, paOf vs ds⟩ (badOf M vs ds) (start N vs) (env0 N.length ds) H σ' ρ' H' → ∀ b x, H b = some x → (∀ i : Nat, (paOf vs ds)[i]? ≠ some (some b)) → H' b = some x := fun {σ' ρ' H'} s b x h n =>
      s.fr b x h fun ⟨i, z⟩ => n i ((own0 a i b).mp z)
    have args : ∀ {σ' ρ' H'} {v : V} {d : VL.D}, Sst ⟨K, H, paOf vs ds⟩ (badOf M vs ds) (start N vs) (env0 N.length ds) H σ' ρ' H' → (∀ (i : Nat) c d', (paOf vs ds)[i]? = some (some c) → ρ'[i]? = some (some d') → RC K H' (newM M v d) c d') →
        ∀ (i : Nat) c d0 d', (paOf vs ds)[i]? = some (some c) → ds[i]? = some d0 → (finA ds ρ')[i]? = some d' → RC K H' (newM M v d) c d' ∧ d'.kd = d0.kd := fun {σ' ρ' H' v d} s hr i c d0 d' h1 h2 h3 => by
      obtain ⟨d1, _, e2, b⟩ := paOf_get h1
      rw [h2] at e2; cases e2
      obtain ⟨_, d2, e3, b2⟩ := s.ok.par i c h1
      rw [finA_get h2 e3 b] at h3
      cases h3
      exact ⟨(hr i c d2 h1 e3).to, to_kd (brw_imm b2)⟩
    refine ⟨_, pss_run, hd.go (badOf M vs ds) _ _ H _ _ (ok0 (N := N) a (by omega)) (hvc ds q hs) ?_ ?_ ?_ ?_⟩
    · intro σ' ρ' H' s e
      refine k .non .non _ H' ⟨fr s.toSst, s.dom, finA_length _ _, args s.toSst fun i c d' h1 h2 => (s.ok.rc_par h1 h2).less fun b m => ?_, .inl ⟨rfl, .non⟩⟩ e
      rcases m with m | ⟨z, _⟩
      · exact Mto s.toSst b m
      · cases z
    · intro v d σ' ρ' H' s rv e
      rcases rv with ⟨im, r⟩ | ⟨t, c, rfl, r, n, rp⟩
      · refine k v d _ H' ⟨fr s, s.dom, finA_length _ _, args s fun i c d' h1 h2 => (s.ok.rc_par h1 h2).less fun b m => ?_, .inl ⟨im, r.less (Mto s)⟩⟩ e
        rcases m with m | ⟨z, _⟩
        · exact Mto s b m
        · rw [tmp_imm z] at im; cases im
      · have lss : ∀ b, newM M (.ref c) d b → badOf M vs ds b ∨ (∃ i : Nat, (paOf vs ds)[i]? = some (some b)) ∨ b = c := fun b m => by
          rcases m with m | ⟨_, e⟩
          · by_cases z : ∃ i : Nat, (paOf vs ds)[i]? = some (some b)
            · exact .inr (.inl z)
            · exact .inl ⟨m, fun i e => z ⟨i, e⟩⟩
          · cases e; exact .inr (.inr rfl)
        exact k _ d _ H' ⟨fr s, s.dom, finA_length _ _, args s fun i c' d' h1 h2 => (rp i c' d' h1 h2).less lss, .inr ⟨t, c, rfl, n, r.less lss⟩⟩ e
    · intro σ' ρ' H' s e; exact e
    · intro σ' ρ' H' s e; exact e
end
end VL

namespace VL
open PySem PySem.Spec PyProof.Rows L2
/-- what borrowed slots hold behind a call -/
def updA (ρ : VEnv) : List Arg → List D → VEnv
  | .slot i :: as, d :: ds => if NBb ρ i then updA ρ as ds else (updA ρ as ds).set i (some d)
  | .val _ :: as, _ :: ds => updA ρ as ds
  | _, _ => ρ
where NBb (ρ : VEnv) (i : Nat) : Bool := match ρ[i]? with
  | some (some d) => !d.brw
  | _ => true
/-- the borrowed slots -/
def bslots (ρ : VEnv) : List Arg → List Nat
  | .slot i :: as => if updA.NBb ρ i then bslots ρ as else i :: bslots ρ as
  | .val _ :: as => bslots ρ as
  | [] => []
def nodupB : List Nat → Bool
  | [] => true
  | x :: xs => !xs.contains x && nodupB xs
theorem nodupB_of : ∀ {l : List Nat}, nodupB l = true → l.Nodup
  | [], _ => .nil
  | x :: xs, h => by
    simp only [nodupB, Bool.and_eq_true, Bool.not_eq_true', List.contains_eq_mem, decide_eq_false_iff_not] at h
    exact List.nodup_cons.mpr ⟨h.1, nodupB_of h.2⟩
theorem nbb_true {ρ : VEnv} {i : Nat} {d : D} (h : updA.NBb ρ i = true) (hd : ρ[i]? = some (some d)) : d.brw = false := by
  unfold updA.NBb at h; rw [hd] at h; simpa using h
theorem nbb_false {ρ : VEnv} {i : Nat} (h : updA.NBb ρ i = false) : ∃ d, ρ[i]? = some (some d) ∧ d.brw = true := by
  unfold updA.NBb at h
  split at h
  · rename_i d hd; exact ⟨d, hd, by simpa using h⟩
  · cases h
theorem updA_length (ρ : VEnv) : ∀ (as : List Arg) (ds : List D), (updA ρ as ds).length = ρ.length
  | .slot i :: as, d :: ds => by
    unfold updA; split
    · exact updA_length ρ as ds
    · rw [List.length_set]; exact updA_length ρ as ds
  | .val _ :: as, _ :: ds => by unfold updA; exact updA_length ρ as ds
  | .slot i :: as, [] => rfl
  | .val _ :: as, [] => rfl
  | [], _ => rfl
/-- a slot behind a call: as it was, or borrowed -/
theorem updA_get {ρ : VEnv} : ∀ {as : List Arg} {ds : List D} {j : Nat} {x : Option D}, (updA ρ as ds)[j]? = some x → ρ[j]? = some x ∧ (j ∉ bslots ρ as ∨ as.length > ds.length) ∨ ∃ (k : Nat) (d : D), as[k]? = some (.slot j) ∧ ds[k]? = some d ∧ x = some d ∧ updA.NBb ρ j = false
  | .slot i :: as, d :: ds, j, x, h => by
    unfold updA at h
    cases hb : updA.NBb ρ i with
    | true =>
      rw [hb, if_pos rfl] at h
      rcases updA_get h with ⟨h1, h2⟩ | ⟨k, d', h1, h2, h3, h4⟩
      · refine .inl ⟨h1, h2.imp (fun h2 => ?_) (fun h2 => by simp; omega)⟩
        unfold bslots; rw [hb, if_pos rfl]; exact h2
      · exact .inr ⟨k + 1, d', by simpa using h1, by simpa using h2, h3, h4⟩
    | false =>
      rw [hb, if_neg Bool.false_ne_true] at h
      rcases get_set_some h with ⟨rfl, h, _⟩ | ⟨hj, h⟩
      · exact .inr ⟨0, d, rfl, rfl, h.symm, hb⟩
      · rcases updA_get h with ⟨h1, h2⟩ | ⟨k, d', h1, h2, h3, h4⟩
        · refine .inl ⟨h1, h2.imp (fun h2 => ?_) (fun h2 => by simp; omega)⟩
          unfold bslots; rw [hb, if_neg Bool.false_ne_true]
          simp only [List.mem_cons, not_or]; exact ⟨hj, h2⟩
        · exact .inr ⟨k + 1, d', by simpa using h1, by simpa using h2, h3, h4⟩
  | .val _ :: as, _ :: ds, j, x, h => by
    unfold updA at h
    rcases updA_get h with ⟨h1, h2⟩ | ⟨k, d', h1, h2, h3, h4⟩
    · exact .inl ⟨h1, h2.imp (fun h2 => by unfold bslots; exact h2) (fun h2 => by simp; omega)⟩
    · exact .inr ⟨k + 1, d', by simpa using h1, by simpa using h2, h3, h4⟩
  | .slot i :: as, [], j, x, h => .inl ⟨h, .inr (by simp)⟩
  | .val _ :: as, [], j, x, h => .inl ⟨h, .inr (by simp)⟩
  | [], _, j, x, h => .inl ⟨h, .inl (by simp [bslots])⟩
theorem bslots_mem {ρ : VEnv} : ∀ {as : List Arg} {k j : Nat}, as[k]? = some (.slot j) → updA.NBb ρ j = false → j ∈ bslots ρ as
  | .slot i :: as, 0, j, h, hb => by
    simp at h; subst h
    unfold bslots; rw [hb, if_neg Bool.false_ne_true]; simp
  | .slot i :: as, k + 1, j, h, hb => by
    have := bslots_mem (as := as) (k := k) (by simpa using h) hb
    unfold bslots; split
    · exact this
    · exact List.mem_cons_of_mem _ this
  | .val _ :: as, 0, j, h, hb => by simp at h
  | .val _ :: as, k + 1, j, h, hb => by
    unfold bslots; exact bslots_mem (as := as) (k := k) (by simpa using h) hb
theorem bslots_un {ρ : VEnv} : ∀ {as : List Arg} {k l j : Nat}, (bslots ρ as).Nodup → as[k]? = some (.slot j) → as[l]? = some (.slot j) → updA.NBb ρ j = false → k = l
  | a :: as, 0, 0, j, _, _, _, _ => rfl
  | .slot i :: as, 0, l + 1, j, nd, h1, h2, hb => by
    simp at h1; subst h1
    unfold bslots at nd; rw [hb, if_neg Bool.false_ne_true] at nd
    exact ((List.nodup_cons.mp nd).1 (bslots_mem (k := l) (by simpa using h2) hb)).elim
  | .slot i :: as, k + 1, 0, j, nd, h1, h2, hb => by
    simp at h2; subst h2
    unfold bslots at nd; rw [hb, if_neg Bool.false_ne_true] at nd
    exact ((List.nodup_cons.mp nd).1 (bslots_mem (k := k) (by simpa using h1) hb)).elim
  | .slot i :: as, k + 1, l + 1, j, nd, h1, h2, hb => by
    have nd' : (bslots ρ as).Nodup := by
      unfold bslots at nd; split at nd
      · exact nd
      · exact (List.nodup_cons.mp nd).2
    rw [bslots_un nd' (k := k) (l := l) (by simpa using h1) (by simpa using h2) hb]
  | .val _ :: as, 0, _, j, nd, h1, h2, hb => by simp at h1
  | .val _ :: as, k + 1, 0, j, nd, h1, h2, hb => by simp at h2
  | .val _ :: as, k + 1, l + 1, j, nd, h1, h2, hb => by
    unfold bslots at nd
    rw [bslots_un nd (k := k) (l := l) (by simpa using h1) (by simpa using h2) hb]
section
variable {F : Df} {σ : L2.St} {bad bad1 : Addr → Prop} {ρ ρ1 : VEnv} {H H1 : Hp} {vs : List V} {as : List Arg} {ds : List D}
/-- an argument as the callee has it -/
theorem PoA.at (p : PoA F.K F.H0 F.pa σ bad ρ H vs as bad1 ρ1 H1) (h : argsD ρ1 as = some ds) {i : Nat} {v : V} {d : D} (hv : vs[i]? = some v) (hd : ds[i]? = some d) :
    (d.imm = true ∧ R F.K H1 (Mm bad1 σ ρ1) v d) ∨ (d.isTmp = true ∧ ∃ a, v = .ref a ∧ RC F.K H1 (Mm bad1 σ ρ1) a d ∧ H a = none ∧ bad1 a ∧ ∃ x, as[i]? = some x ∧ newA v x = some a) ∨
      (d.brw = true ∧ ∃ a j, v = .ref a ∧ RC F.K H1 (Mm bad1 σ ρ1) a d ∧ as[i]? = some (.slot j) ∧ OwnAt σ ρ1 j a ∧ updA.NBb ρ1 j = false ∧ ρ1[j]? = some (some d)) := by
  obtain ⟨h1, h2⟩ := argsD_get h
  have ha : i < as.length := by rw [h1]; exact (List.getElem?_eq_some_iff.mp hd).1
  obtain ⟨d', hd', e⟩ := h2 i as[i] (List.getElem?_eq_getElem ha)
  rw [hd] at hd'; cases hd'
  have ea := List.getElem?_eq_getElem ha
  have q := p.va i v _ hv ea
  generalize as[i] = a at e q ea
  cases a with
  | val d' =>
    cases e
    obtain ⟨nb, q⟩ := q
    rcases q with q | ⟨t, a, rfl, r, n, b⟩ | ⟨b, _⟩
    · exact .inl q
    · exact .inr (.inl ⟨t, a, rfl, r, n, b, _, ea, by simp [newA, t]⟩)
    · rw [nb] at b; cases b
  | slot j =>
    have e' := at_slot e
    have e2 := q _ e'
    obtain ⟨v', e3, s⟩ := p.st.ok.sl j _ e'
    rw [e2] at e3; cases e3
    rcases s with ⟨_, r⟩ | ⟨b, a, rfl, r⟩
    · exact .inl ⟨r.imm, r⟩
    · exact .inr (.inr ⟨b, a, j, rfl, r, ea, ⟨e2, d, e', b⟩, by unfold updA.NBb; rw [e']; simp [b], e'⟩)
def keepA (ds : List D) : List D := ds.map D.keep
theorem keepA_get {i : Nat} {d : D} (h : (keepA ds)[i]? = some d) : ∃ d0, ds[i]? = some d0 ∧ d = d0.keep := by
  unfold keepA at h; rw [List.getElem?_map] at h
  cases z : ds[i]? with
  | none => rw [z] at h; cases h
  | some d0 => rw [z] at h; exact ⟨d0, rfl, by simpa using h.symm⟩
theorem keep_brw {d : D} (h : d.brw = true) : d.keep = d := by
  unfold D.keep; rw [if_neg]; intro t; rw [tmp_brw t] at h; cases h
theorem PoA.args (p : PoA F.K F.H0 F.pa σ bad ρ H vs as bad1 ρ1 H1) (h : argsD ρ1 as = some ds) (nd : nodupB (bslots ρ1 as) = true) : ArgsOk F.K H1 (Mm bad1 σ ρ1) vs (keepA ds) := by
  obtain ⟨h1, h2⟩ := argsD_get h
  refine ⟨by unfold keepA; rw [p.len, h1, List.length_map], fun i v d hv hd => ?_, fun i a d hv hd hb => ?_, fun i j a d d' hi hj di dj bi bj => ?_, fun b m => p.st.ok.mdom m⟩
  · obtain ⟨d0, hd0, rfl⟩ := keepA_get hd
    rcases p.at h hv hd0 with ⟨im, r⟩ | ⟨t, a, rfl, r, _⟩ | ⟨b, a, j, rfl, r, _⟩
    · rw [keep_imm im]; exact .inl ⟨imm_brw im, r⟩
    · rw [keep_tmp t]; exact .inr ⟨own_brw (tmp_imm t), a, rfl, r.to⟩
    · rw [keep_brw b]; exact .inr ⟨b, a, rfl, r⟩
  · obtain ⟨d0, hd0, rfl⟩ := keepA_get hd
    rcases p.at h hv hd0 with ⟨im, r⟩ | ⟨t, a, e, r, _, b, _⟩ | ⟨b, a, j, e, r, _, o, _⟩
    · rw [keep_imm im, imm_brw im] at hb; cases hb
    · cases e; exact .inl b
    · cases e; exact .inr ⟨j, o⟩
  · obtain ⟨d0, hd0, rfl⟩ := keepA_get di
    obtain ⟨e0, he0, rfl⟩ := keepA_get dj
    rcases p.at h hi hd0 with ⟨im, r⟩ | ⟨t, c, e, r, n, b, x, hx, nx⟩ | ⟨b, c, k, e, r, hx, o, nb, _⟩
    · rw [keep_imm im, imm_brw im] at bi; cases bi
    · cases e
      rcases p.at h hj he0 with ⟨im, r⟩ | ⟨t, c, e, r, n, b, x', hx', nx'⟩ | ⟨b', c, k, e, r, hx', o, nb, _⟩
      · rw [keep_imm im, imm_brw im] at bj; cases bj
      · cases e; exact p.un i j _ x _ x' _ hi hx hj hx' nx nx'
      · cases e; exact (p.st.ok.ob _ ⟨k, o⟩ b).elim
    · cases e
      rcases p.at h hj he0 with ⟨im, r⟩ | ⟨t, c, e, r, n, b, x', hx', nx'⟩ | ⟨b', c, k', e, r, hx', o', nb', _⟩
      · rw [keep_imm im, imm_brw im] at bj; cases bj
      · cases e; exact (p.st.ok.ob _ ⟨k, o⟩ b).elim
      · cases e
        have := p.st.ok.inj k k' _ o o'
        subst this
        exact bslots_un (nodupB_of nd) hx hx' nb
/-- behind the call -/
theorem PoA.after {v : V} {d : D} {ds' : List D} {H2 : Hp} (o : Ok F.K F.H0 F.pa bad σ ρ H) (p : PoA F.K F.H0 F.pa σ bad ρ H vs as bad1 ρ1 H1) (h : argsD ρ1 as = some ds) (nd : nodupB (bslots ρ1 as) = true)
    (c : CallPost F.K H1 (Mm bad1 σ ρ1) vs (keepA ds) v d ds' H2) : ∃ bad2, Po F.K F.H0 F.pa σ bad ρ H v d bad2 (updA ρ1 as ds') H2 := by
  have aok := p.args h nd
  obtain ⟨h1, h2⟩ := argsD_get h
  have ldk : (keepA ds).length = ds.length := by unfold keepA; rw [List.length_map]
  have lds : ds'.length = as.length := by rw [c.len, ldk, h1]
  have lpa : (paOf vs (keepA ds)).length = as.length := by rw [paOf_length aok.len, ldk, h1]
  -- who is written by the callee
  have wr : ∀ (k : Nat) b, (paOf vs (keepA ds))[k]? = some (some b) → (∃ j d0, as[k]? = some (.slot j) ∧ OwnAt σ ρ1 j b ∧ updA.NBb ρ1 j = false ∧ ds[k]? = some d0 ∧ d0.brw = true) ∨ (bad1 b ∧ H b = none) := fun k b e => by
    obtain ⟨dk, e1, e2, e3⟩ := paOf_get e
    obtain ⟨d0, hd0, rfl⟩ := keepA_get e2
    rcases p.at h e1 hd0 with ⟨im, r⟩ | ⟨t, c, e, r, n, b, x, hx, nx⟩ | ⟨b, c, k, e, r, hx, o, nb, _⟩
    · rw [keep_imm im, imm_brw im] at e3; cases e3
    · cases e; exact .inr ⟨b, n⟩
    · cases e; exact .inl ⟨k, d0, hx, o, nb, hd0, b⟩
  -- a borrowed slot's place among the arguments
  have place : ∀ (k j : Nat) a, as[k]? = some (.slot j) → updA.NBb ρ1 j = false → OwnAt σ ρ1 j a → (paOf vs (keepA ds))[k]? = some (some a) ∧ ∃ d0, (keepA ds)[k]? = some d0 ∧ ρ1[j]? = some (some d0) ∧ d0.brw = true := fun k j a e nb oa => by
    obtain ⟨dj, hj, bj⟩ := nbb_false nb
    obtain ⟨d0, hd0, e0⟩ := h2 k _ e
    rw [at_slot e0] at hj; cases hj
    have hk : k < vs.length := by rw [p.len]; exact (List.getElem?_eq_some_iff.mp e).1
    have ev := List.getElem?_eq_getElem hk
    have := p.va k _ _ ev e dj (at_slot e0)
    rw [oa.1] at this
    have ev' : vs[k]? = some (.ref a) := by rw [ev]; simpa using this.symm
    have hkk : (keepA ds)[k]? = some dj := by unfold keepA; rw [List.getElem?_map, hd0]; simp [keep_brw bj]
    exact ⟨paOf_of ev' hkk bj, dj, hkk, at_slot e0, bj⟩
  have kdb : ∀ {x y : D}, x.kd = y.kd → x.brw = y.brw := fun e => by unfold D.brw; rw [e]
  have own : ∀ j a, OwnAt σ (updA ρ1 as ds') j a ↔ OwnAt σ ρ1 j a := fun j a => by
    constructor
    · rintro ⟨e1, d1, e2, b⟩
      rcases updA_get e2 with ⟨h3, _⟩ | ⟨k, d2, h3, h4, h5, h6⟩
      · exact ⟨e1, d1, h3, b⟩
      · obtain ⟨dj, hj, bj⟩ := nbb_false h6
        exact ⟨e1, dj, hj, bj⟩
    · rintro ⟨e1, d1, e2, b⟩
      refine ⟨e1, ?_⟩
      have hl : j < (updA ρ1 as ds').length := by rw [updA_length]; exact (List.getElem?_eq_some_iff.mp e2).1
      have e3 := List.getElem?_eq_getElem hl
      rcases updA_get e3 with ⟨h3, _⟩ | ⟨k, d2, h3, h4, h5, h6⟩
      · rw [e2] at h3; exact ⟨d1, by rw [e3, h3], b⟩
      · obtain ⟨q1, d0, q2, q3, q4⟩ := place k j a h3 h6 ⟨e1, d1, e2, b⟩
        obtain ⟨_, q5⟩ := c.args k a d0 d2 q1 q2 h4
        exact ⟨d2, by rw [e3, h5], by rw [kdb q5]; exact q4⟩
  have mm : ∀ (B : Addr → Prop), Mm B σ (updA ρ1 as ds') = Mm B σ ρ1 := fun B => mm_of own
  -- the bad ones behind: the result's own, if it is new
  have bad2N : ∀ b, (bad b ∨ (d.isTmp = true ∧ v = .ref b)) → bad b ∨ H1 b = none := fun b m => m.imp id fun ⟨t, e⟩ => by
    rcases c.val with ⟨im, _⟩ | ⟨_, a, e', n, _⟩
    · rw [tmp_imm t] at im; cases im
    · rw [e] at e'; cases e'; exact n
  have toN : ∀ b, Mm (fun b => bad b ∨ (d.isTmp = true ∧ v = .ref b)) σ ρ1 b → newM (Mm bad1 σ ρ1) v d b := fun b m => by
    rcases m with (m | m) | m
    · exact .inl (.inl (p.st.bd b m))
    · exact .inr m
    · exact .inl (.inr m)
  have ff : ∀ b x, H1 b = some x → ¬ Mm bad1 σ ρ1 b → H2 b = some x := fun b x hx n => c.fr b x hx fun k e => by
    rcases wr k b e with ⟨j, d0, _, oo, _⟩ | ⟨bb, _⟩
    · exact n (.inr ⟨j, oo⟩)
    · exact n (.inl bb)
  have mmm : ∀ b, Mm (fun b => bad b ∨ (d.isTmp = true ∧ v = .ref b)) σ ρ1 b → Mm bad1 σ ρ1 b ∨ H1 b = none := fun b m => by
    rcases m with m | m
    · exact (bad2N b m).imp (fun m => .inl (p.st.bd b m)) id
    · exact .inl (.inr m)
  refine ⟨fun b => bad b ∨ (d.isTmp = true ∧ v = .ref b), ⟨⟨?_, fun j d1 e => ?_, fun i j a q1 q2 => p.st.ok.inj i j a ((own i a).mp q1) ((own j a).mp q2), fun i a q => p.st.ok.new i a ((own i a).mp q), fun i a q => (own i a).mpr (p.st.ok.par i a q), fun b x hx n => ?_, fun a ⟨i, q⟩ z => ?_, fun b z => ?_⟩,
    fun i a => (own i a).trans (p.st.own i a), fun b x hx n => ?_, fun b z => p.st.dom b (c.dom b z), fun b m => .inl m, fun b m => (bad2N b m).imp id fun m => p.st.dom b m, fun j d1 e k => ?_⟩, ?_⟩
  · rw [updA_length]; exact p.st.ok.len
  · rw [mm]
    rcases updA_get e with ⟨h3, h4⟩ | ⟨k, d2, h3, h4, h5, h6⟩
    · obtain ⟨u, eu, s⟩ := p.st.ok.sl j d1 h3
      refine ⟨u, eu, s.mono (fun a ea eb => ?_) ff mmm⟩
      subst ea
      have oa : OwnAt σ ρ1 j a := ⟨eu, d1, h3, eb⟩
      cases z : H1 a with
      | none => exact absurd z (p.st.ok.mdom (.inr ⟨j, oa⟩))
      | some x =>
        refine c.fr a x z fun k e => ?_
        rcases wr k a e with ⟨j', d0, hx, oo, nb, _⟩ | ⟨bb, _⟩
        · have := p.st.ok.inj j j' a oa oo
          subst this
          rcases h4 with h4 | h4
          · exact h4 (bslots_mem hx nb)
          · omega
        · exact p.st.ok.ob a ⟨j, oa⟩ bb
    · cases h5
      obtain ⟨dj, hj, bj⟩ := nbb_false h6
      obtain ⟨u, eu, s⟩ := p.st.ok.sl j dj hj
      obtain ⟨z, _⟩ | ⟨_, a, rfl, _⟩ := s
      · rw [bj] at z; cases z
      obtain ⟨q1, d0, q2, q3, q4⟩ := place k j a h3 h6 ⟨eu, dj, hj, bj⟩
      obtain ⟨rc, kk⟩ := c.args k a d0 d1 q1 q2 h4
      exact ⟨.ref a, eu, .inr ⟨by rw [kdb kk]; exact q4, a, rfl, rc.less toN⟩⟩
  · refine c.fr b x (p.st.ok.fr b x hx n) fun k e => ?_
    rcases wr k b e with ⟨j, d0, _, oo, _⟩ | ⟨_, nn⟩
    · rcases p.st.ok.new j b oo with z | z
      · exact n j z
      · rw [z.1] at hx; cases hx
    · rw [(o.dom b nn).1] at hx; cases hx
  · have oo := (own i a).mp q
    rcases bad2N a z with z | z
    · exact p.st.ok.ob a ⟨i, oo⟩ (p.st.bd a z)
    · exact p.st.ok.mdom (.inr ⟨i, oo⟩) z
  · refine ⟨(p.st.ok.dom b (c.dom b z)).1, fun m => ?_⟩
    rcases m with m | ⟨t, e⟩
    · exact (o.dom b (p.st.dom b (c.dom b z))).2 m
    · rcases c.val with ⟨im, _⟩ | ⟨_, a, e', _, rc⟩
      · rw [tmp_imm t] at im; cases im
      · rw [e] at e'; cases e'; exact rc.ne z
  · refine c.fr b x (p.st.fr b x hx n) fun k e => ?_
    rcases wr k b e with ⟨j, d0, _, oo, _⟩ | ⟨_, nn⟩
    · exact n ⟨j, (p.st.own j b).mp oo⟩
    · rw [nn] at hx; cases hx
  · rcases updA_get e with ⟨h3, _⟩ | ⟨kk, d2, h3, h4, h5, h6⟩
    · exact p.st.lk j d1 h3 k
    · cases h5
      obtain ⟨dj, hj, bj⟩ := nbb_false h6
      obtain ⟨u, eu, s⟩ := p.st.ok.sl j dj hj
      obtain ⟨z, _⟩ | ⟨_, a, rfl, _⟩ := s
      · rw [bj] at z; cases z
      obtain ⟨q1, d0, q2, q3, q4⟩ := place kk j a h3 h6 ⟨eu, dj, hj, bj⟩
      obtain ⟨rc, ek⟩ := c.args kk a d0 d1 q1 q2 h4
      exact p.st.lk j d0 q3 (ek ▸ k)
  · rcases c.val with ⟨im, r⟩ | ⟨t, a, e, n, rc⟩
    · refine .inl ⟨im, r.less fun b m => ?_⟩
      rw [mm] at m
      rcases toN b m with m | ⟨t, _⟩
      · exact m
      · rw [tmp_imm t] at im; cases im
    · exact .inr (.inl ⟨t, a, e, rc.less (by rw [mm]; exact toN), p.st.dom a n, .inr ⟨t, e⟩⟩)
end
section
variable {X : Cx} {F : Df} {e : Expr} {es : List Expr} {τ : WA} {p pos : Pos} {x : Str} {S : Spec} {f : Addr} {fd : FuncData} {ps : List Str} {k : Nat}
def wCall (S : Spec) (τ : WA) : WE := fun ρ q => τ ρ fun as ρ1 => nodupB (bslots ρ1 as) = true ∧ ∃ ds, argsD ρ1 as = some ds ∧ S (keepA ds) fun d ds' => q d (updA ρ1 as ds')
theorem de_call (Fk : FnOk X.prog X.w X.K X.mg X.base CX0 k f fd ps (spV F.K S)) (hr : Room k X.A) (hg : Gl X x) (hm : X.mg x = some (.ref f)) (hk : PySem.W.keepIn X.K (.ref f) = true) (hb : Binds X.K fd ps []) (ha : DA X F (e :: es) τ)
    (hdb : (x == ("__debug__" : Str)) = false := by decide) (he : starEach (e :: es) X.env = (false, eval e X.env) :: starEach es X.env := by rfl) (hpl : (backTo pos (starEach es X.env)).any (·.1) = false := by rfl) :
    DE X F (.Call (.Name x p) (e :: es) [] pos) (wCall S τ) := by
  refine ⟨fun bad σ ρ H q Q o w kk => (pe_call Fk hr hg hm hk hb .nil pass0 pa_run hdb he hpl).to (ha.go bad σ ρ H _ _ o w fun vs as bad1 ρ1 H1 p1 w1 => ?_)⟩
  obtain ⟨nd, ds, ed, w1⟩ := w1
  rw [List.append_nil]
  refine ⟨Mm bad1 σ ρ1, keepA ds, _, p1.args ed nd, w1, fun v d ds' H2 c qd => ?_⟩
  obtain ⟨bad2, p2⟩ := p1.after o ed nd c
  exact kk v d bad2 _ H2 p2 qd

/-! keywords alone: pm tells for each parameter which of the keywords' values it gets -/
def pmL {α : Type} (z : α) (pm : List Nat) (l : List α) : List α := pm.map fun i => l.getD i z
theorem pmL_get {α : Type} {z : α} {pm : List Nat} {l : List α} {i : Nat} {v : α} (hb : ∀ j ∈ pm, j < l.length) (h : (pmL z pm l)[i]? = some v) : ∃ j, pm[i]? = some j ∧ l[j]? = some v := by
  unfold pmL at h; rw [List.getElem?_map] at h
  cases e : pm[i]? with
  | none => rw [e] at h; cases h
  | some j =>
    rw [e] at h
    have hj := hb j (List.mem_of_getElem? e)
    refine ⟨j, rfl, ?_⟩
    simp only [Option.map_some, Option.some.injEq] at h
    rw [List.getD_eq_getElem?_getD, List.getElem?_eq_getElem hj] at h
    rw [List.getElem?_eq_getElem hj, ← h]; rfl
theorem PoA.perm {σ : L2.St} {bad bad1 : Addr → Prop} {ρ ρ1 : VEnv} {H H1 : Hp} {vs : List V} {as : List Arg} {pm : List Nat} (p : PoA F.K F.H0 F.pa σ bad ρ H vs as bad1 ρ1 H1) (hb : ∀ j ∈ pm, j < as.length) (nd : pm.Nodup) : PoA F.K F.H0 F.pa σ bad ρ H (pmL .non pm vs) (pmL (.val .non) pm as) bad1 ρ1 H1 := by
  have hv : ∀ j ∈ pm, j < vs.length := fun j h => by rw [p.len]; exact hb j h
  refine ⟨p.st, by unfold pmL; rw [List.length_map, List.length_map], fun i v a h1 h2 => ?_, fun i j v a v' a' z h1 h2 h3 h4 n1 n2 => ?_⟩
  · obtain ⟨k, e1, e2⟩ := pmL_get hv h1
    obtain ⟨k', e3, e4⟩ := pmL_get hb h2
    rw [e1] at e3; cases e3
    exact p.va k v a e2 e4
  · obtain ⟨k, e1, e2⟩ := pmL_get hv h1
    obtain ⟨k', e3, e4⟩ := pmL_get hb h2
    rw [e1] at e3; cases e3
    obtain ⟨l, f1, f2⟩ := pmL_get hv h3
    obtain ⟨l', f3, f4⟩ := pmL_get hb h4
    rw [f1] at f3; cases f3
    have := p.un k l v a v' a' z e2 e4 f2 f4 n1 n2
    subst this
    exact nd_ix nd e1 f1
def wCallK (S : Spec) (pm : List Nat) (τ : WA) : WE := fun ρ q => τ ρ fun as ρ1 => as.length = pm.length ∧ nodupB (bslots ρ1 (pmL (.val .non) pm as)) = true ∧ ∃ ds, argsD ρ1 (pmL (.val .non) pm as) = some ds ∧ S (keepA ds) fun d ds' => q d (updA ρ1 (pmL (.val .non) pm as) ds')
theorem pe_callK0 {CX : CXT} {sp : Sp} {E : XK} {n : Nat} {ks : List Str} {kws : List Keyword} {tk : TA} {g : List Value → List Value → List Value} {gV : List V → List V → List V} (Fk : FnOk X.prog X.w X.K X.mg X.base CX k f fd ps sp) (hr : Room k X.A) (hg : Gl X x) (hm : X.mg x = some (.ref f)) (hk : PySem.W.keepIn X.K (.ref f) = true) (hb : KBn X.K fd ps 0 ks g gV) (hx : Passes CX X E)
    (hkw : PK X kws tk) (hall : (backToKw pos (keywordEach kws X.env)).all (·.1.isSome) = true := by rfl) (hks : (backToKw pos (keywordEach kws X.env)).filterMap (·.1) = ks := by rfl)
    (hdb : (x == ("__debug__" : Str)) = false := by decide)
    (hpl : ((backTo pos (starEach [] X.env)).any (·.1) || (backToKw pos (keywordEach kws X.env)).any (·.1.isNone)) = false := by rfl) :
    PE X (.Call (.Name x p) [] kws pos) (fun σ H Q => tk σ H fun zs H2 => zs.length = ks.length ∧ sp (gV [] zs) H2 Q E) := by
  refine ⟨fun pins s σ H Q I h => ?_⟩
  refine wpAny_Call_Name_kw (ld_glob I hg hm ?_ hdb)
  refine PySem.W.callWith_KW0 (h₀ := X.base) I.ok.mod.kin hk hall ?_ hpl
  refine thn (hkw.run pos pins s σ H _ I h) fun ws s2 ⟨zs, H2, I2, rz, l2, q2⟩ => ⟨I2.kIn, ?_⟩
  rw [hks]
  exact run_fnN Fk hr hb hx I2 .nil rz rfl l2 q2
theorem de_callK {ks : List Str} {kws : List Keyword} {pm : List Nat} {g : List Value → List Value → List Value} (Fk : FnOk X.prog X.w X.K X.mg X.base CX0 k f fd ps (spV F.K S)) (hr : Room k X.A) (hg : Gl X x) (hm : X.mg x = some (.ref f)) (hk : PySem.W.keepIn X.K (.ref f) = true) (hb : KBn X.K fd ps 0 ks g (fun _ zs => pmL .non pm zs))
    (ha : DK X F kws τ) (hpm : pm.all (fun j => decide (j < pm.length)) = true := by rfl) (hnd : nodupB pm = true := by rfl) (hkl : ks.length = pm.length := by rfl) (hall : (backToKw pos (keywordEach kws X.env)).all (·.1.isSome) = true := by rfl) (hks : (backToKw pos (keywordEach kws X.env)).filterMap (·.1) = ks := by rfl)
    (hdb : (x == ("__debug__" : Str)) = false := by decide)
    (hpl : ((backTo pos (starEach [] X.env)).any (·.1) || (backToKw pos (keywordEach kws X.env)).any (·.1.isNone)) = false := by rfl) :
    DE X F (.Call (.Name x p) [] kws pos) (wCallK S pm τ) := by
  refine ⟨fun bad σ ρ H q Q o w kk => (pe_callK0 (n := 0) Fk hr hg hm hk hb pass0 pk_run hall hks hdb hpl).to (ha.go bad σ ρ H _ _ o w fun vs as bad1 ρ1 H1 p1 w1 => ?_)⟩
  obtain ⟨la, nd, ds, ed, w1⟩ := w1
  refine ⟨by rw [p1.len, la, hkl], ?_⟩
  have p2 := p1.perm (pm := pm) (fun j h => by rw [la]; simpa using List.all_eq_true.mp hpm j h) (nodupB_of hnd)
  refine ⟨Mm bad1 σ ρ1, keepA ds, _, p2.args ed nd, w1, fun v d ds' H2 c qd => ?_⟩
  obtain ⟨bad2, p3⟩ := p2.after o ed nd c
  exact kk v d bad2 _ H2 p3 qd
end
end VL

namespace VL
open PySem PySem.Spec PyProof.Rows L2
section
variable {K : PySem.W.Frag} {H H' : Hp} {M : Addr → Prop} {x y v : V} {d : D} {ds : List D} {xs vs : List V}
theorem RVal.intE {i : Int} (r : RVal K H M x (.int i)) : x = .int i := by
  rcases r with ⟨_, r⟩ | ⟨z, _⟩
  · exact r.intI
  · cases z
theorem RVal.strE {l : List Nat} (r : RVal K H M x (.str l)) : x = .str (mkS l) := by
  rcases r with ⟨_, r⟩ | ⟨z, _⟩
  · exact r.strI
  · cases z
theorem RVal.blE {b : Bool} (r : RVal K H M x (.bl b)) : x = .bl b := by
  rcases r with ⟨_, r⟩ | ⟨z, _⟩
  · exact r.blI
  · cases z
theorem RVal.nonE (r : RVal K H M x .non) : x = .non := by
  rcases r with ⟨_, r⟩ | ⟨z, _⟩
  · exact r.nonI
  · cases z
theorem RVal.tupE (r : RVal K H M x (.tup ds)) : ∃ a vs, x = .ref a ∧ SqT K H a vs ∧ Rs K H M vs ds := by
  rcases r with ⟨_, r⟩ | ⟨z, _⟩
  · exact r.tupI
  · cases z
theorem RVal.seqE {k : Kd} (r : RVal K H M x (.seq k ds)) : ∃ a vs, x = .ref a ∧ SqL K H a vs ∧ Rs K H M vs ds ∧ (k ≠ .froz → H a = some (.lst vs)) := by
  rcases r with ⟨i, r⟩ | ⟨i, a, rfl, vs, e, rs⟩
  · cases r with
    | seq h hl hi => exact ⟨_, _, rfl, h.elim (fun h => .inl h.1) (fun h => h H), ⟨hl, hi⟩, fun z => absurd rfl z⟩
  · exact ⟨a, vs, rfl, .inl (.inl e), rs, fun _ => e⟩
theorem RVal.mapE {k : Kd} {kds : List (DKey × D)} (r : RVal K H M x (.map k kds)) : ∃ a kvs, x = .ref a ∧ H a = some (.dK kvs) ∧ Rk K H M kvs kds := by
  rcases r with ⟨i, r⟩ | ⟨i, a, rfl, kvs, e, rk⟩
  · cases r with
    | map h hk hl hi => exact ⟨_, _, rfl, h.1, hk, by simpa using hl, hi⟩
  · exact ⟨a, kvs, rfl, e, rk⟩
theorem RVal.mapTE {k : Kd} {kds : List (List DKey × D)} (r : RVal K H M x (.mapT k kds)) : ∃ a kvs, x = .ref a ∧ H a = some (.dT kvs) ∧ RkT K H M kvs kds := by
  rcases r with ⟨i, r⟩ | ⟨i, a, rfl, kvs, e, rk⟩
  · cases r with
    | mapT h hk hl hi => exact ⟨_, _, rfl, h.1, hk, by simpa using hl, hi⟩
  · exact ⟨a, kvs, rfl, e, rk⟩
theorem Rs.ints : ∀ {vs : List V} {ns : List Int}, Rs K H M vs (ns.map D.int) → vs = ns.map V.int
  | [], [], _ => rfl
  | v :: vs, n :: ns, r => by
    obtain ⟨r1, r2⟩ := Rs.uncons (d := .int n) (ds := ns.map D.int) r
    rw [r1.intI, Rs.ints r2]; rfl
  | [], n :: ns, r => by cases r.1
  | v :: vs, [], r => by cases r.1
theorem Rs.strs : ∀ {vs : List V} {ns : List (List Nat)}, Rs K H M vs (ns.map D.str) → vs = (ns.map mkS).map V.str
  | [], [], _ => rfl
  | v :: vs, n :: ns, r => by
    obtain ⟨r1, r2⟩ := Rs.uncons (d := .str n) (ds := ns.map D.str) r
    rw [r1.strI, Rs.strs r2]; rfl
  | [], n :: ns, r => by cases r.1
  | v :: vs, [], r => by cases r.1
theorem Rs.bls : ∀ {vs : List V} {ns : List Bool}, Rs K H M vs (ns.map D.bl) → vs = ns.map V.bl
  | [], [], _ => rfl
  | v :: vs, n :: ns, r => by
    obtain ⟨r1, r2⟩ := Rs.uncons (d := .bl n) (ds := ns.map D.bl) r
    rw [r1.blI, Rs.bls r2]; rfl
  | [], n :: ns, r => by cases r.1
  | v :: vs, [], r => by cases r.1
theorem rs_ints {ns : List Int} : Rs K H M (ns.map V.int) (ns.map D.int) := ⟨by simp, fun i v d a b => by
  rw [List.getElem?_map] at a b
  cases h : ns[i]? with
  | none => rw [h] at a; cases a
  | some n => rw [h] at a b; cases a; cases b; exact .int n⟩
theorem rs_strs {ns : List (List Nat)} : Rs K H M ((ns.map mkS).map V.str) (ns.map D.str) := ⟨by simp, fun i v d a b => by
  rw [List.getElem?_map, List.getElem?_map] at a
  rw [List.getElem?_map] at b
  cases h : ns[i]? with
  | none => rw [h] at a; cases a
  | some n => rw [h] at a b; cases a; cases b; exact .str n⟩
end
/-! ### arithmetic -/
def opAdd : D → D → (D → Prop) → Prop
  | .int i, .int j, q => q (.int (i + j))
  | .str a, .str b, q => a.length + b.length ≤ sizeLine ∧ q (.str (a ++ b))
  | .seq k a, .seq l b, q => k ≠ .froz ∧ l ≠ .froz ∧ a.length + b.length ≤ sizeLine ∧ q (.seq .tmp (a ++ b))
  | .tup a, .tup b, q => a.length + b.length ≤ sizeLine ∧ q (.tup (a ++ b))
  | _, _, _ => False
def opSub : D → D → (D → Prop) → Prop
  | .int i, .int j, q => q (.int (i - j))
  | _, _, _ => False
def opMul : D → D → (D → Prop) → Prop
  | .int i, .int j, q => CMul i j ∧ q (.int (i * j))
  | .seq k a, .int j, q => k ≠ .froz ∧ (-(2 ^ 63) ≤ j ∧ j < 2 ^ 63) ∧ a.length * j.toNat ≤ sizeLine ∧ q (.seq .tmp (List.replicate j.toNat a).flatten)
  | _, _, _ => False
def opFDiv : D → D → (D → Prop) → Prop
  | .int i, .int j, q => CDivW i j ∧ q (.int (i / j))
  | _, _, _ => False
def opMod : D → D → (D → Prop) → Prop
  | .int i, .int j, q => 0 < j ∧ q (.int (i % j))
  | _, _, _ => False
def opPow : D → D → (D → Prop) → Prop
  | .int i, .int j, q => CPow i j ∧ q (.int (i ^ j.toNat))
  | _, _, _ => False
def opLt : D → D → (D → Prop) → Prop
  | .int i, .int j, q => q (.bl (decide (i < j)))
  | .str i, .str j, q => q (.bl (decide (i < j)))
  | _, _, _ => False
def opLe : D → D → (D → Prop) → Prop
  | .int i, .int j, q => q (.bl (decide (i ≤ j)))
  | .str i, .str j, q => q (.bl (!decide (j < i)))
  | _, _, _ => False
def opGt : D → D → (D → Prop) → Prop
  | .int i, .int j, q => q (.bl (decide (j < i)))
  | .str i, .str j, q => q (.bl (decide (j < i)))
  | _, _, _ => False
def opGe : D → D → (D → Prop) → Prop
  | .int i, .int j, q => q (.bl (decide (j ≤ i)))
  | .str i, .str j, q => q (.bl (!decide (i < j)))
  | _, _, _ => False
section
variable {K : PySem.W.Frag}
theorem V2.mono {r r' : R2} {f : D → D → (D → Prop) → Prop} (h : V2 K r f) (hr : ∀ x y H Q, r x y H Q → r' x y H Q) : V2 K r' f :=
  fun H M x dx y dy q Q dm rx ry w k => hr _ _ _ _ (h H M x dx y dy q Q dm rx ry w k)
/-- ints alone -/
theorem v2_int {r : R2} {f : D → D → (D → Prop) → Prop} {C : Int → Int → Prop} {g : Int → Int → Int} (hf : ∀ a b q, f a b q → ∃ i j, a = .int i ∧ b = .int j ∧ C i j ∧ q (.int (g i j))) (hr : ∀ i j H (Q : VK), C i j → Q (.int (g i j)) H → r (.int i) (.int j) H Q) : V2 K r f := fun H M x dx y dy q Q dm rx ry w k => by
  obtain ⟨i, j, rfl, rfl, hc, qq⟩ := hf dx dy q w
  rw [rx.intE, ry.intE]
  exact hr i j H Q hc (k _ _ H (res_int _) qq)
theorem v2_add : V2 K (fun x y H Q => rI0 (fun i j => .int (i + j)) x y H Q ∨ ((∃ i j, x = .str i ∧ y = .str j ∧ i.length + j.length ≤ sizeLine ∧ Q (.str (i ++ j)) H) ∨ (rCat x y H Q ∨ rCatA K x y H Q))) opAdd := fun H M x dx y dy q Q dm rx ry w k => by
  match dx, dy, rx, ry, w with
  | .int i, .int j, rx, ry, w =>
    rw [rx.intE, ry.intE]
    exact .inl ⟨i, j, rfl, rfl, k _ _ H (res_int _) w⟩
  | .str a, .str b, rx, ry, w =>
    rw [rx.strE, ry.strE]
    exact .inr (.inl ⟨_, _, rfl, rfl, by rw [mkS_len, mkS_len]; exact w.1, by rw [mkS_app]; exact k _ _ H (res_str _) w.2⟩)
  | .seq kx a, .seq ky b, rx, ry, w =>
    obtain ⟨k1, k2, hz, w⟩ := w
    obtain ⟨p, vs, rfl, _, rs, e1⟩ := rx.seqE
    obtain ⟨p2, vs2, rfl, _, rs2, e2⟩ := ry.seqE
    exact .inr (.inr (.inl ⟨p, p2, vs, vs2, rfl, rfl, e1 k1, e2 k2, by rw [rs.1, rs2.1]; exact hz, fun a na => k _ _ _ (res_lst na (rs.append rs2)) w⟩))
  | .tup a, .tup b, rx, ry, w =>
    obtain ⟨hz, w⟩ := w
    have ix := rx
    have iy := ry
    obtain ⟨p, vs, rfl, t1, rs⟩ := rx.tupE
    obtain ⟨p2, vs2, rfl, t2, rs2⟩ := ry.tupE
    refine .inr (.inr (.inr ⟨p, p2, vs, vs2, rfl, rfl, t1, t2, by rw [rs.1, rs2.1]; exact hz, fun e => ?_, fun _ e => ?_, fun _ _ a na => k _ _ _ (res_tup dm na (rs.append rs2)) w⟩))
    · subst e
      have ea : a = [] := List.eq_nil_of_length_eq_zero rs.1.symm
      subst ea
      rcases iy with ⟨_, r⟩ | ⟨z, _⟩
      · exact k _ _ _ (res_imm rfl r) w
      · cases z
    · subst e
      have eb : b = [] := List.eq_nil_of_length_eq_zero rs2.1.symm
      subst eb
      rw [List.append_nil] at w
      rcases ix with ⟨_, r⟩ | ⟨z, _⟩
      · exact k _ _ _ (res_imm rfl r) w
      · cases z
theorem v2_sub : V2 K (rI0 fun i j => .int (i - j)) opSub := v2_int (C := fun _ _ => True) (fun a b q w => by
  match a, b, w with
  | .int i, .int j, w => exact ⟨i, j, rfl, rfl, trivial, w⟩) fun i j H Q _ q => ⟨i, j, rfl, rfl, q⟩
theorem v2_mul : V2 K (fun x y H Q => rI CMul (fun i j => .int (i * j)) x y H Q ∨ rRep x y H Q) opMul := fun H M x dx y dy q Q dm rx ry w k => by
  match dx, dy, rx, ry, w with
  | .int i, .int j, rx, ry, w =>
    rw [rx.intE, ry.intE]
    exact .inl ⟨i, j, rfl, rfl, w.1, k _ _ H (res_int _) w.2⟩
  | .seq kx a, .int j, rx, ry, w =>
    obtain ⟨k1, ⟨j1, j2⟩, hz, w⟩ := w
    obtain ⟨p, vs, rfl, _, rs, e1⟩ := rx.seqE
    rw [ry.intE]
    have rr : ∀ n : Nat, Rs K H M (List.replicate n vs).flatten (List.replicate n a).flatten := fun n => by
      induction n with
      | zero => exact .nil
      | succ n ih => rw [List.replicate_succ, List.replicate_succ, List.flatten_cons, List.flatten_cons]; exact rs.append ih
    exact .inr ⟨p, j, vs, rfl, rfl, e1 k1, j1, j2, by rw [rs.1]; exact hz, fun c nc => k _ _ _ (res_lst nc (rr _)) w⟩
theorem v2_fdiv : V2 K (rI CDivW fun i j => .int (i / j)) opFDiv := v2_int (fun a b q w => by
  match a, b, w with
  | .int i, .int j, w => exact ⟨i, j, rfl, rfl, w⟩) fun i j H Q c q => ⟨i, j, rfl, rfl, c, q⟩
theorem v2_mod : V2 K (rI (fun _ j => 0 < j) fun i j => .int (i % j)) opMod := v2_int (fun a b q w => by
  match a, b, w with
  | .int i, .int j, w => exact ⟨i, j, rfl, rfl, w⟩) fun i j H Q c q => ⟨i, j, rfl, rfl, c, q⟩
theorem v2_pow : V2 K (rI CPow fun i j => .int (i ^ j.toNat)) opPow := v2_int (fun a b q w => by
  match a, b, w with
  | .int i, .int j, w => exact ⟨i, j, rfl, rfl, w⟩) fun i j H Q c q => ⟨i, j, rfl, rfl, c, q⟩
theorem mkS_list (l : List Nat) : (mkS l).cps.toList = l := by simp [mkS]
/-- an order of ints, of texts -/
theorem v2_ord {r1 r2 : R2} {f : D → D → (D → Prop) → Prop} {p : Int → Int → Bool} {t : List Nat → List Nat → Bool}
    (hf : ∀ a b q, f a b q → (∃ i j, a = .int i ∧ b = .int j ∧ q (.bl (p i j))) ∨ ∃ i j, a = .str i ∧ b = .str j ∧ q (.bl (t i j)))
    (h1 : ∀ i j H (Q : VK), Q (.bl (p i j)) H → r1 (.int i) (.int j) H Q) (h2 : ∀ i j H (Q : VK), Q (.bl (t i j)) H → r2 (.str (mkS i)) (.str (mkS j)) H Q) : V2 K (fun x y H Q => r1 x y H Q ∨ r2 x y H Q) f := fun H M x dx y dy q Q dm rx ry w k => by
  rcases hf dx dy q w with ⟨i, j, rfl, rfl, qq⟩ | ⟨i, j, rfl, rfl, qq⟩
  · rw [rx.intE, ry.intE]; exact .inl (h1 i j H Q (k _ _ H (res_bl _) qq))
  · rw [rx.strE, ry.strE]; exact .inr (h2 i j H Q (k _ _ H (res_bl _) qq))
theorem v2_lt : V2 K (fun x y H Q => rI0 (fun i j => .bl (decide (i < j))) x y H Q ∨ (∃ i j, x = .str i ∧ y = .str j ∧ Q (.bl (decide (i.cps.toList < j.cps.toList))) H)) opLt := v2_ord (p := fun i j => decide (i < j)) (t := fun i j => decide (i < j)) (fun a b q w => by
  match a, b, w with
  | .int i, .int j, w => exact .inl ⟨i, j, rfl, rfl, w⟩
  | .str i, .str j, w => exact .inr ⟨i, j, rfl, rfl, w⟩) (fun i j H Q q => ⟨i, j, rfl, rfl, q⟩) fun i j H Q q => ⟨_, _, rfl, rfl, by rw [mkS_list, mkS_list]; exact q⟩
theorem v2_le : V2 K (fun x y H Q => rI0 (fun i j => .bl (decide (i ≤ j))) x y H Q ∨ (∃ i j, x = .str i ∧ y = .str j ∧ Q (.bl (!decide (j.cps.toList < i.cps.toList))) H)) opLe := v2_ord (p := fun i j => decide (i ≤ j)) (t := fun i j => !decide (j < i)) (fun a b q w => by
  match a, b, w with
  | .int i, .int j, w => exact .inl ⟨i, j, rfl, rfl, w⟩
  | .str i, .str j, w => exact .inr ⟨i, j, rfl, rfl, w⟩) (fun i j H Q q => ⟨i, j, rfl, rfl, q⟩) fun i j H Q q => ⟨_, _, rfl, rfl, by rw [mkS_list, mkS_list]; exact q⟩
theorem v2_gt : V2 K (fun x y H Q => rI0 (fun i j => .bl (decide (j < i))) x y H Q ∨ (∃ i j, x = .str i ∧ y = .str j ∧ Q (.bl (decide (j.cps.toList < i.cps.toList))) H)) opGt := v2_ord (p := fun i j => decide (j < i)) (t := fun i j => decide (j < i)) (fun a b q w => by
  match a, b, w with
  | .int i, .int j, w => exact .inl ⟨i, j, rfl, rfl, w⟩
  | .str i, .str j, w => exact .inr ⟨i, j, rfl, rfl, w⟩) (fun i j H Q q => ⟨i, j, rfl, rfl, q⟩) fun i j H Q q => ⟨_, _, rfl, rfl, by rw [mkS_list, mkS_list]; exact q⟩
theorem v2_ge : V2 K (fun x y H Q => rI0 (fun i j => .bl (decide (j ≤ i))) x y H Q ∨ (∃ i j, x = .str i ∧ y = .str j ∧ Q (.bl (!decide (i.cps.toList < j.cps.toList))) H)) opGe := v2_ord (p := fun i j => decide (j ≤ i)) (t := fun i j => !decide (i < j)) (fun a b q w => by
  match a, b, w with
  | .int i, .int j, w => exact .inl ⟨i, j, rfl, rfl, w⟩
  | .str i, .str j, w => exact .inr ⟨i, j, rfl, rfl, w⟩) (fun i j H Q q => ⟨i, j, rfl, rfl, q⟩) fun i j H Q q => ⟨_, _, rfl, rfl, by rw [mkS_list, mkS_list]; exact q⟩
end
/-! ### ==, != of data -/
mutual
def toP : D → PyData
  | .non => .none
  | .bl b => .bool b
  | .int i => .int i
  | .str l => .str (mkS l)
  | .tup xs => .tuple (toPs xs)
  | .seq _ xs => .list (toPs xs)
  | .map _ _ => .dict []
  | .mapT _ _ => .dict []
  | .ins _ _ _ => .dict []
  | .cache _ => .dict []
  | .val _ => .dict []
  | .exn _ _ _ _ _ => .dict []
  | .tupN _ => .dict []
def toPs : List D → List PyData
  | [] => []
  | x :: xs => toP x :: toPs xs
end
def opEq (x y : D) (q : D → Prop) : Prop := SeqAt.shaped (toP x) = true ∧ SeqAt.shaped (toP y) = true ∧ q (.bl (PyData.eqv (toP x) (toP y)))
def opNe (x y : D) (q : D → Prop) : Prop := SeqAt.shaped (toP x) = true ∧ SeqAt.shaped (toP y) = true ∧ q (.bl (!PyData.eqv (toP x) (toP y)))
section
variable {K : PySem.W.Frag} {H : Hp} {M : Addr → Prop} {x : V} {d : D}
theorem toPs_map (ds : List D) : toPs ds = ds.map toP := by
  induction ds with
  | nil => rfl
  | cons d ds ih => simp only [toPs, List.map_cons, ih]
theorem canLayAll_mem : ∀ {ds : List PyData}, PyData.canLayAll0 ds = true → ∀ d ∈ ds, PyData.canLay0 d = true
  | [], _, d, h => by cases h
  | x :: xs, e, d, h => by
    simp only [PyData.canLayAll0, Bool.and_eq_true] at e
    rcases List.mem_cons.mp h with rfl | h
    · exact e.1
    · exact canLayAll_mem e.2 d h
theorem dpAll_of {vs : List V} {ds : List D} : vs.length = ds.length → (∀ (i : Nat) v d, vs[i]? = some v → ds[i]? = some d → Dp K H v (toP d)) → DpAll K H vs (toPs ds) := by
  induction vs generalizing ds with
  | nil => intro h _; cases ds with
    | nil => exact .nil
    | cons _ _ => cases h
  | cons v vs ih => intro h f; cases ds with
    | nil => cases h
    | cons d ds => exact .cons (f 0 v d rfl rfl) (ih (by simpa using h) fun i v d a b => f (i + 1) v d (by simpa using a) (by simpa using b))
theorem dp_R (r : R K H M x d) (h : PyData.canLay0 (toP d) = true) : Dp K H x (toP d) := by
  induction r with
  | non => exact .non
  | bl b => exact .bl b
  | int i => exact .int i
  | str l => exact .str _
  | @tup a vs ds h1 hl hi ih =>
    have hm : ∀ d ∈ ds, PyData.canLay0 (toP d) = true := fun d hd => canLayAll_mem (ds := toPs ds) (by simpa [toP, PyData.canLay0] using h) (toP d) (by rw [toPs_map]; exact List.mem_map_of_mem hd)
    exact .tup (h1.elim (fun h => .inl (.inl h.1)) (fun h => h.1 H)) (dpAll_of hl fun i v d a b => ih i v d a b (hm d (List.mem_of_getElem? b)))
  | @seq a vs ds h1 hl hi ih =>
    have hm : ∀ d ∈ ds, PyData.canLay0 (toP d) = true := fun d hd => canLayAll_mem (ds := toPs ds) (by simpa [toP, PyData.canLay0] using h) (toP d) (by rw [toPs_map]; exact List.mem_map_of_mem hd)
    exact .lst (h1.elim (fun h => .inl h.1) (fun h => h H)) (dpAll_of hl fun i v d a b => ih i v d a b (hm d (List.mem_of_getElem? b)))
  | map h1 hk hl hi ih => cases h
  | mapT h1 hk hl hi ih => cases h
  | ins h1 h2 hk hl hi ih => cases h
  | cache h1 => cases h
  | val h1 => cases h
  | exn h1 h2 h3 ih => cases h
  | tupN h1 h2 h3 h4 ih => cases h
theorem dp_V (r : RVal K H M x d) (h : PyData.canLay0 (toP d) = true) : Dp K H x (toP d) := by
  rcases r with ⟨_, r⟩ | ⟨_, a, rfl, r⟩
  · exact dp_R r h
  · cases d with
    | seq k ds =>
      obtain ⟨vs, e, rs⟩ := r
      have hm : ∀ d ∈ ds, PyData.canLay0 (toP d) = true := fun d hd => canLayAll_mem (ds := toPs ds) (by simpa [toP, PyData.canLay0] using h) (toP d) (by rw [toPs_map]; exact List.mem_map_of_mem hd)
      exact .lst (.inl (.inl e)) (dpAll_of rs.1 fun i v d a b => dp_R (rs.2 i v d a b) (hm d (List.mem_of_getElem? b)))
    | map k ds => cases h
    | mapT k ds => cases h
    | ins k C ds => cases h
    | _ => exact r.elim
theorem v2_eq : V2 K (rEqD K) opEq := fun H M x dx y dy q Q dm rx ry w k => by
  obtain ⟨s1, s2, w⟩ := w
  exact ⟨_, _, dp_V rx (SeqAt.canLay_of_shaped s1), dp_V ry (SeqAt.canLay_of_shaped s2), s1, s2, k _ _ H (res_bl _) w⟩
theorem v2_ne : V2 K (rNeD K) opNe := fun H M x dx y dy q Q dm rx ry w k => by
  obtain ⟨s1, s2, w⟩ := w
  exact ⟨_, _, dp_V rx (SeqAt.canLay_of_shaped s1), dp_V ry (SeqAt.canLay_of_shaped s2), s1, s2, k _ _ H (res_bl _) w⟩
end
end VL

namespace VL
open PySem PySem.Spec PyProof.Rows L2
/-! ### in, is -/
def flD : D → Bool
  | .non => true
  | .bl _ => true
  | .int _ => true
  | .str _ => true
  | _ => false
def eqF : D → D → Bool
  | .non, .non => true
  | .bl a, .bl b => a == b
  | .bl a, .int b => (if a then 1 else 0) == b
  | .int a, .bl b => a == (if b then 1 else 0)
  | .int a, .int b => a == b
  | .str a, .str b => a == b
  | _, _ => false
def opIn (neg : Bool) : D → D → (D → Prop) → Prop
  | .str [c], .str z, q => q (.bl (if neg then !decide (c ∈ z) else decide (c ∈ z)))
  | x, .tup ds, q => flD x = true ∧ ds.all flD = true ∧ q (.bl (if neg then !ds.any (fun y => eqF y x) else ds.any (fun y => eqF y x)))
  | x, .seq _ ds, q => flD x = true ∧ ds.all flD = true ∧ q (.bl (if neg then !ds.any (fun y => eqF y x) else ds.any (fun y => eqF y x)))
  | _, _, _ => False
section
variable {K : PySem.W.Frag} {H : Hp} {M : Addr → Prop} {x y v : V} {d e : D} {ds : List D} {xs vs : List V}
theorem flat_of (r : R K H M x d) (h : flD d = true) : flatV x = true := by
  cases d <;> first | (cases h; done) | (cases r; rfl)
theorem eqF_of (r : R K H M x d) (r2 : R K H M y e) (h : flD d = true) (h2 : flD e = true) : eqV x y = eqF d e := by
  cases d <;> first | (cases h; done) | skip
  all_goals (cases e <;> first | (cases h2; done) | skip)
  all_goals (cases r; cases r2; first | rfl | skip)
  rename_i a b
  show (mkS a == mkS b) = (a == b)
  by_cases e : a = b
  · subst e; simp
  · rw [beq_eq_false_iff_ne.mpr e, beq_eq_false_iff_ne.mpr fun z => e (mkS_inj z)]
theorem flat_all (rs : Rs K H M vs ds) (h : ds.all flD = true) : vs.all flatV = true := by
  rw [List.all_eq_true] at h ⊢
  intro v hv
  obtain ⟨i, hi⟩ := List.getElem?_of_mem hv
  obtain ⟨d, hd, r⟩ := rs.getV hi
  exact flat_of r (h d (List.mem_of_getElem? hd))
theorem in_of : ∀ {vs : List V} {ds : List D}, Rs K H M vs ds → R K H M x d → flD d = true → ds.all flD = true → inV x vs = ds.any (fun y => eqF y d)
  | [], [], _, _, _, _ => rfl
  | v :: vs, e :: ds, rs, r, h, h2 => by
    obtain ⟨r1, r2⟩ := rs.uncons
    rw [List.all_cons, Bool.and_eq_true] at h2
    show (eqV v x || inV x vs) = _
    rw [eqF_of r1 r h2.1 h, in_of r2 r h h2.2]; rfl
  | [], _ :: _, rs, _, _, _ => by cases rs.1
  | _ :: _, [], rs, _, _, _ => by cases rs.1
theorem flR (r : RVal K H M x d) (h : flD d = true) : R K H M x d := by
  rcases r with ⟨_, r⟩ | ⟨i, _⟩
  · exact r
  · cases d <;> first | (cases h; done) | (cases i; done)
def rInA (K : PySem.W.Frag) (neg : Bool) : R2 := fun x y H Q => (∃ (c : Nat) (z : Str), x = .str ⟨#[c]⟩ ∧ y = .str z ∧ Q (.bl (if neg then !decide (c ∈ z.cps.toList) else decide (c ∈ z.cps.toList))) H) ∨ rIn K neg x y H Q
theorem op_inA {X : Cx} : OpR X (compareOp .In) (rInA X.K false) := op_in_sign.or op_in_seq
theorem op_notInA {X : Cx} : OpR X (compareOp .NotIn) (rInA X.K true) := op_notIn_sign.or op_notIn_seq
theorem v2_in {neg : Bool} : V2 K (rInA K neg) (opIn neg) := fun H M x dx y dy q Q dm rx ry w k => by
  have tp : ∀ {x dx ds}, RVal K H M x dx → (∃ p vs, y = .ref p ∧ (SqL K H p vs ∨ SqT K H p vs) ∧ Rs K H M vs ds) → flD dx = true ∧ ds.all flD = true ∧ q (.bl (if neg then !ds.any (fun y => eqF y dx) else ds.any (fun y => eqF y dx))) → rInA K neg x y H Q := fun {x dx ds} rx ⟨p, vs, ey, hs, rs⟩ ⟨h1, h2, w⟩ => by
    have r := flR rx h1
    refine .inr ⟨p, vs, ey, hs, flat_of r h1, flat_all rs h2, ?_⟩
    rw [in_of rs r h1 h2]
    exact k _ _ H (res_bl _) w
  cases dy with
  | str z =>
    match dx, rx, w with
    | .str [c], rx, w =>
      rw [rx.strE, ry.strE]
      exact .inl ⟨c, mkS z, rfl, rfl, by rw [mkS_list]; exact k _ _ H (res_bl _) w⟩
  | tup ds =>
    obtain ⟨p, vs, e, t, rs⟩ := ry.tupE
    refine tp rx ⟨p, vs, e, .inr t, rs⟩ ?_
    unfold opIn at w
    split at w <;> first | exact w | (cases ‹D.tup ds = _›; exact w) | simp_all
  | seq kd ds =>
    obtain ⟨p, vs, e, t, rs, _⟩ := ry.seqE
    refine tp rx ⟨p, vs, e, .inl t, rs⟩ ?_
    unfold opIn at w
    split at w <;> first | exact w | (cases ‹D.seq kd ds = _›; exact w) | simp_all
  | _ => unfold opIn at w; split at w <;> first | exact w.elim | simp_all
end
/-- is None -/
def isNonD : D → Bool
  | .non => true
  | _ => false
def opIsN (neg : Bool) (x y : D) (q : D → Prop) : Prop := (∀ v, x ≠ .val v) ∧ y = .non ∧ q (.bl (if neg then !isNonD x else isNonD x))
section
variable {K : PySem.W.Frag}
theorem non_iff {H : Hp} {M : Addr → Prop} {x : V} {d : D} (r : RVal K H M x d) (hv : ∀ v, d ≠ .val v) : decide (x = .non) = isNonD d := by
  rcases r with ⟨_, r⟩ | ⟨i, a, rfl, _⟩
  · cases r <;> first | rfl | exact absurd rfl (hv _)
  · cases d <;> first | rfl | cases i
theorem v2_isNone : V2 K (fun x y H Q => y = .non ∧ Q (.bl (decide (x = .non))) H) (opIsN false) := fun H M x dx y dy q Q dm rx ry w k => by
  obtain ⟨hv, rfl, w⟩ := w
  exact ⟨ry.nonE, by rw [non_iff rx hv]; exact k _ _ H (res_bl _) w⟩
theorem v2_isNotNone : V2 K (fun x y H Q => y = .non ∧ Q (.bl (!decide (x = .non))) H) (opIsN true) := fun H M x dx y dy q Q dm rx ry w k => by
  obtain ⟨hv, rfl, w⟩ := w
  exact ⟨ry.nonE, by rw [non_iff rx hv]; exact k _ _ H (res_bl _) w⟩
end
/-! ### subscripts, slices -/
def atD (ds : List D) (i : Int) : Option D := atI ds i
def opIx : D → D → (D → Prop) → Prop
  | .seq _ ds, .int i, q => ∃ d, atI ds i = some d ∧ q d
  | .tup ds, .int i, q => ∃ d, atI ds i = some d ∧ q d
  | .str l, .int i, q => l.length ≤ sizeLine ∧ ∃ c, atI l i = some c ∧ q (.str [c])
  | _, _, _ => False
section
variable {K : PySem.W.Frag} {H : Hp} {M : Addr → Prop} {vs : List V} {ds : List D} {d : D}
theorem rs_at {i : Int} (rs : Rs K H M vs ds) (h : atI ds i = some d) : ∃ v, atI vs i = some v ∧ R K H M v d := by
  unfold atI at h ⊢
  rw [← rs.1] at h
  cases e : ixN vs.length i with
  | none => rw [e] at h; cases h
  | some j =>
    rw [e] at h
    obtain ⟨v, h1, h2⟩ := rs.get (i := j) h
    exact ⟨v, h1, h2⟩
theorem v2_ix : V2 K (rIx K) opIx := fun H M x dx y dy q Q dm rx ry w k => by
  match dx, dy, rx, ry, w with
  | .seq kd ds, .int i, rx, ry, ⟨d, hd, w⟩ =>
    obtain ⟨p, vs, rfl, t, rs, _⟩ := rx.seqE
    obtain ⟨v, hv, r⟩ := rs_at rs hd
    rw [ry.intE]
    exact .inl ⟨p, vs, i, v, rfl, rfl, t, hv, k _ _ H (res_imm r.imm r) w⟩
  | .tup ds, .int i, rx, ry, ⟨d, hd, w⟩ =>
    obtain ⟨p, vs, rfl, t, rs⟩ := rx.tupE
    obtain ⟨v, hv, r⟩ := rs_at rs hd
    rw [ry.intE]
    exact .inr (.inl ⟨p, vs, i, v, rfl, rfl, t, hv, k _ _ H (res_imm r.imm r) w⟩)
  | .str l, .int i, rx, ry, ⟨hz, c, hc, w⟩ =>
    rw [rx.strE, ry.intE]
    exact .inr (.inr ⟨mkS l, i, c, rfl, rfl, by rw [mkS_len]; exact hz, by rw [mkS_list]; exact hc, k _ _ H (res_str [c]) w⟩)
end
/-- the part from lo to hi, clipped -/
def cutL {α : Type} (xs : List α) (lo hi : Option Int) : List α := (xs.drop (HT.sIx xs.length 0 lo)).take (HT.sIx xs.length xs.length hi - HT.sIx xs.length 0 lo)
def opSl (d : D) (lo hi : Option Int) (q : D → Prop) : Prop := match d with
  | .seq _ ds => q (.seq .tmp (cutL ds lo hi))
  | .tup ds => q (.tup (cutL ds lo hi))
  | .str l => l.length ≤ sizeLine ∧ q (.str (cutL l lo hi))
  | _ => False
abbrev WO := VEnv → (Option Int → VEnv → Prop) → Prop
def wNo : WO := fun ρ q => q none ρ
def wPt (α : WE) : WO := fun ρ q => α ρ fun x ρ1 => ∃ i, x = .int i ∧ q (some i) ρ1
structure DO (X : Cx) (F : Df) (e : Option Expr) (w : WO) : Prop where
  go : ∃ t : TO, PO X e t ∧ ∀ (bad : Addr → Prop) (σ : L2.St) (ρ : VEnv) (H : Hp) (q : Option Int → VEnv → Prop) (Q : Option Int → Hp → Prop), Ok F.K F.H0 F.pa bad σ ρ H → w ρ q → (∀ i bad' ρ' H', Stp F.K F.H0 F.pa σ bad ρ H bad' ρ' H' → q i ρ' → Q i H') → t σ H Q
def wSlice (α : WE) (lo hi : WO) : WE := fun ρ q => α ρ fun x ρ1 => lo ρ1 fun i ρ2 => hi ρ2 fun j ρ3 => (x.brw = false ∨ ρ3 = ρ1) ∧ opSl x i j fun d => q d ρ3
section
variable {X : Cx} {F : Df} {e a b c : Expr} {pos p2 : Pos} {α β γ : WE} {es : List Expr} {τ : WA} {lo hi : Option Expr} {wl wh : WO} {rest : List Expr}
theorem do_no : DO X F none wNo := ⟨tNoPart, po_none, fun bad σ ρ H q Q o w k => k none bad ρ H (.refl o) w⟩
theorem do_pt (ha : DE X F e α) : DO X F (some e) (wPt α) := ⟨tPart (run X e), po_some pe_run, fun bad σ ρ H q Q o w k => ha.go bad σ ρ H _ _ o w fun v d bad1 ρ1 H1 p1 ⟨i, e, w1⟩ => by
  subst e
  have := (p1.va.read p1.st.ok).intE
  exact ⟨i, this, k (some i) bad1 ρ1 H1 p1.st w1⟩⟩
theorem de_slice (hK : X.K = F.K) (ha : DE X F a α) (hl : DO X F lo wl) (hh : DO X F hi wh) : DE X F (.Subscript a (.Slice lo hi none p2) pos) (wSlice α wl wh) := by
  obtain ⟨tl, pl, gl⟩ := hl.go
  obtain ⟨th, ph, gh⟩ := hh.go
  refine ⟨fun bad σ ρ H q Q o w k => (pe_slice (sl_list.or ((sl_tupA (X := X)).or sl_str)) pe_run pl ph).to (ha.go bad σ ρ H _ _ o w fun x dx bad1 ρ1 H1 p1 w1 => gl bad1 σ ρ1 H1 _ _ p1.st.ok w1 fun i bad2 ρ2 H2 s2 w2 => gh bad2 σ ρ2 H2 _ _ s2.ok w2 fun j bad3 ρ3 H3 s3 w3 => ?_)⟩
  obtain ⟨kp, w3⟩ := w3
  have s23 := s2.trans s3
  have rx := (p1.va.keep p1.st.ok s23 kp).read s3.ok
  have sz : HT.sIx = HT.sIx := rfl
  have fin : ∀ v d H4, Res F.K (Mm bad3 σ ρ3) H3 v d H4 → q d ρ3 → Q v H4 := fun v d H4 res qd => by
    obtain ⟨bad4, p4⟩ := res.po s3.ok
    exact k v d bad4 ρ3 H4 ((p1.st.trans s23).po p4) qd
  have cut : ∀ {vs ds}, Rs F.K H3 (Mm bad3 σ ρ3) vs ds → Rs F.K H3 (Mm bad3 σ ρ3) (cutV vs i j) (cutL ds i j) := fun rs => by
    unfold cutV cutL; rw [rs.1]; exact (rs.drop _).take _
  match dx, rx, w3 with
  | .seq kd ds, rx, w3 =>
    obtain ⟨p, vs, rfl, t, rs, _⟩ := rx.seqE
    exact .inl ⟨p, vs, rfl, hK ▸ t, fun a na => fin _ _ _ (res_lst na (cut rs)) w3⟩
  | .tup ds, rx, w3 =>
    have rx' := rx
    obtain ⟨p, vs, rfl, t, rs⟩ := rx.tupE
    refine .inr (.inl ⟨p, vs, rfl, hK ▸ t, fun ⟨e1, e2⟩ => ?_, fun _ a na => fin _ _ _ (res_tup (fun b m => s3.ok.mdom m) na (cut rs)) w3⟩)
    have ec : cutL ds i j = ds := by unfold cutL; rw [← rs.1, e1, e2, Nat.sub_zero, List.drop_zero, rs.1, List.take_length]
    have w4 : q (.tup (cutL ds i j)) ρ3 := w3
    rw [ec] at w4
    rcases rx' with ⟨_, r⟩ | ⟨z, _⟩
    · exact fin _ _ _ (res_imm rfl r) w4
    · cases z
  | .str l, rx, w3 =>
    obtain ⟨hz, w3⟩ := w3
    rw [rx.strE]
    refine .inr (.inr ⟨mkS l, rfl, by rw [mkS_len]; exact hz, ?_⟩)
    have : cutS (mkS l) i j = mkS (cutL l i j) := by unfold cutS cutL; rw [mkS_list, mkS_len]; rfl
    rw [this]
    exact fin _ _ _ (res_str _) w3
/-! ### and, or, not, as values -/
def wAndV (α β : WE) : WE := fun ρ q => α ρ fun x ρ1 => ∃ c, x = .bl c ∧ if c = true then β ρ1 q else q (.bl false) ρ1
def wOrV (α β : WE) : WE := fun ρ q => α ρ fun x ρ1 => ∃ c, x = .bl c ∧ if c = true then q (.bl true) ρ1 else β ρ1 q
def wNotV (α : WE) : WE := fun ρ q => α ρ fun x ρ1 => ∃ c, x = .bl c ∧ q (.bl (!c)) ρ1
theorem de_one {op} (ha : DE X F a α) : DE X F (.BoolOp op [a] pos) α := ⟨fun bad σ ρ H q Q o w k => (pe_one pe_run).to (ha.go bad σ ρ H q Q o w k)⟩
theorem de_and (ha : DE X F a α) (hb : DE X F (.BoolOp .And (b :: rest) pos) β) : DE X F (.BoolOp .And (a :: b :: rest) pos) (wAndV α β) := by
  refine ⟨fun bad σ ρ H q Q o w k => (pe_and pe_run pe_run).to (ha.go bad σ ρ H _ _ o w fun x dx bad1 ρ1 H1 p1 w1 => ?_)⟩
  obtain ⟨c, rfl, w1⟩ := w1
  refine ⟨c, (p1.va.read p1.st.ok).blE, ?_⟩
  cases c with
  | true =>
    rw [if_pos rfl] at w1 ⊢
    exact hb.go bad1 σ ρ1 H1 q Q p1.st.ok w1 fun v d bad2 ρ2 H2 p2 w2 => k v d bad2 ρ2 H2 (p1.st.po p2) w2
  | false =>
    rw [if_neg Bool.false_ne_true] at w1 ⊢
    exact k _ _ bad1 ρ1 H1 (p1.st.po (.imm p1.st.ok rfl (.bl false))) w1
theorem de_or (ha : DE X F a α) (hb : DE X F (.BoolOp .Or (b :: rest) pos) β) : DE X F (.BoolOp .Or (a :: b :: rest) pos) (wOrV α β) := by
  refine ⟨fun bad σ ρ H q Q o w k => (pe_or pe_run pe_run).to (ha.go bad σ ρ H _ _ o w fun x dx bad1 ρ1 H1 p1 w1 => ?_)⟩
  obtain ⟨c, rfl, w1⟩ := w1
  refine ⟨c, (p1.va.read p1.st.ok).blE, ?_⟩
  cases c with
  | false =>
    rw [if_neg Bool.false_ne_true] at w1 ⊢
    exact hb.go bad1 σ ρ1 H1 q Q p1.st.ok w1 fun v d bad2 ρ2 H2 p2 w2 => k v d bad2 ρ2 H2 (p1.st.po p2) w2
  | true =>
    rw [if_pos rfl] at w1 ⊢
    exact k _ _ bad1 ρ1 H1 (p1.st.po (.imm p1.st.ok rfl (.bl true))) w1
theorem de_not (ha : DE X F a α) : DE X F (.UnaryOp .Not a pos) (wNotV α) := by
  refine ⟨fun bad σ ρ H q Q o w k => (pe_not pe_run).to (ha.go bad σ ρ H _ _ o w fun x dx bad1 ρ1 H1 p1 w1 => ?_)⟩
  obtain ⟨c, rfl, w1⟩ := w1
  exact ⟨c, (p1.va.read p1.st.ok).blE, k _ _ bad1 ρ1 H1 (p1.st.po (.imm p1.st.ok rfl (.bl _))) w1⟩
/-- -a -/
def opNeg : D → (D → Prop) → Prop
  | .int i, q => q (.int (-i))
  | _, _ => False
theorem v1_neg {K : PySem.W.Frag} : V1 K (rU fun i => .int (-i)) opNeg := fun H M x dx q Q dm rx w k => by
  match dx, rx, w with
  | .int i, rx, w => rw [rx.intE]; exact ⟨i, rfl, k _ _ H (res_int _) w⟩
theorem de_neg (ha : DE X F a α) : DE X F (.UnaryOp .USub a pos) (wUn opNeg α) := de_un (pe_un un_neg pe_run) v1_neg ha
/-- a < b < c, of ints -/
theorem de_chain {op op' : CmpOp} {r r' : R2} {f g : D → D → (D → Prop) → Prop} (ho : OpR X (compareOp op) r) (ho' : OpR X (compareOp op') r') (hv : V2 F.K r f) (hv' : V2 F.K r' g) (ha : DE X F a α) (hb : DE X F b β) (hc : DE X F c γ)
    (hm : lastMarks [op, op'] [b, c] = false := by with_unfolding_all rfl) : DE X F (.Compare a [op, op'] [b, c] pos) (wChain f g α β γ) := by
  refine ⟨fun bad σ ρ H q Q o w k => (pe_chain ho ho' pe_run pe_run pe_run hm).to (ha.go bad σ ρ H _ _ o w fun x dx bad1 ρ1 H1 p1 w1 => hb.go bad1 σ ρ1 H1 _ _ p1.st.ok w1 fun y dy bad2 ρ2 H2 p2 w2 => ?_)⟩
  obtain ⟨kp, nby, w2⟩ := w2
  refine hv H2 _ x dx y dy _ _ (fun b m => p2.st.ok.mdom m) ((p1.va.keep p1.st.ok p2.st kp).read p2.st.ok) (p2.va.read p2.st.ok) w2 fun v d H3 res qd => ?_
  obtain ⟨bad3, p3⟩ := res.po p2.st.ok
  obtain ⟨kk, rfl, w3⟩ := qd
  refine ⟨kk, (p3.va.read p3.st.ok).blE, ?_⟩
  cases kk with
  | true =>
    rw [if_pos rfl] at w3 ⊢
    refine hc.go bad3 σ ρ2 H3 _ _ p3.st.ok w3 fun z dz bad4 ρ4 H4 p4 w4 => ?_
    refine hv' H4 _ y dy z dz _ _ (fun b m => p4.st.ok.mdom m) ((p2.va.keep p2.st.ok (p3.st.trans p4.st) (.inl nby)).read p4.st.ok) (p4.va.read p4.st.ok) w4 fun v d H5 res qd => ?_
    obtain ⟨bad5, p5⟩ := res.po p4.st.ok
    exact k v d bad5 ρ4 H5 ((((p1.st.trans p2.st).trans p3.st).trans p4.st).po p5) qd
  | false =>
    rw [if_neg Bool.false_ne_true] at w3 ⊢
    exact k _ _ bad3 ρ2 H3 (((p1.st.trans p2.st).trans p3.st).po (.imm p3.st.ok rfl (.bl false))) w3
theorem dt_chain {op op' : CmpOp} {r r' : R2} {f g : D → D → (D → Prop) → Prop} (ho : OpR X (compareOp op) r) (ho' : OpR X (compareOp op') r') (hv : V2 F.K r f) (hv' : V2 F.K r' g) (ha : DE X F a α) (hb : DE X F b β) (hc : DE X F c γ)
    (hm : lastMarks [op, op'] [b, c] = false := by with_unfolding_all rfl) : DT X F (.Compare a [op, op'] [b, c] pos) (wVal (wChain f g α β γ)) := by
  refine ⟨fun bad σ ρ H q Q o w k => (pt_chain ho ho' pe_run pe_run pe_run hm).to (ha.go bad σ ρ H _ _ o w fun x dx bad1 ρ1 H1 p1 w1 => hb.go bad1 σ ρ1 H1 _ _ p1.st.ok w1 fun y dy bad2 ρ2 H2 p2 w2 => ?_)⟩
  obtain ⟨kp, nby, w2⟩ := w2
  refine hv H2 _ x dx y dy _ _ (fun b m => p2.st.ok.mdom m) ((p1.va.keep p1.st.ok p2.st kp).read p2.st.ok) (p2.va.read p2.st.ok) w2 fun v d H3 res qd => ?_
  obtain ⟨bad3, p3⟩ := res.po p2.st.ok
  obtain ⟨kk, rfl, w3⟩ := qd
  refine ⟨kk, (p3.va.read p3.st.ok).blE, ?_⟩
  cases kk with
  | true =>
    rw [if_pos rfl] at w3 ⊢
    refine hc.go bad3 σ ρ2 H3 _ _ p3.st.ok w3 fun z dz bad4 ρ4 H4 p4 w4 => ?_
    refine hv' H4 _ y dy z dz _ _ (fun b m => p4.st.ok.mdom m) ((p2.va.keep p2.st.ok (p3.st.trans p4.st) (.inl nby)).read p4.st.ok) (p4.va.read p4.st.ok) w4 fun v d H5 res qd => ?_
    obtain ⟨bad5, p5⟩ := res.po p4.st.ok
    obtain ⟨k2, rfl, qd⟩ := qd
    exact ⟨k2, (p5.va.read p5.st.ok).blE, k k2 ρ4 H5 ((((p1.st.trans p2.st).trans p3.st).trans p4.st).trans p5.st).back qd⟩
  | false =>
    rw [if_neg Bool.false_ne_true] at w3 ⊢
    obtain ⟨k2, e2, qd⟩ := w3
    cases e2
    exact ⟨false, rfl, k false ρ2 H3 ((p1.st.trans p2.st).trans p3.st).back qd⟩
end
end VL

namespace VL
open PySem PySem.Spec PyProof.Rows L2
/-! ### built-in functions -/
section
variable {K : PySem.W.Frag} {H : Hp} {M : Addr → Prop} {x y v : V} {d e : D} {ds : List D} {xs vs : List V}
/-- one value -/
theorem vn1 {r : List V → Hp → VK → Prop} {f : D → (D → Prop) → Prop} (h : V1 K (fun x => r [x]) f) : VN K r (fun ds q => match ds with | [d] => f d q | _ => False) := fun H M xs ds q Q dm hl hr w k => by
  match ds, xs, hl, w with
  | [d], [x], _, w => exact h H M x d q Q dm (hr 0 x d rfl rfl) w k
theorem vn2 {r : List V → Hp → VK → Prop} {f : D → D → (D → Prop) → Prop} (h : V2 K (fun x y => r [x, y]) f) : VN K r (fun ds q => match ds with | [d, e] => f d e q | _ => False) := fun H M xs ds q Q dm hl hr w k => by
  match ds, xs, hl, w with
  | [d, e], [x, y], _, w => exact h H M x d y e q Q dm (hr 0 x d rfl rfl) (hr 1 y e rfl rfl) w k
end
def opLen : D → (D → Prop) → Prop
  | .str l, q => l.length ≤ sizeLine ∧ q (.int l.length)
  | .tup ds, q => q (.int ds.length)
  | .seq _ ds, q => q (.int ds.length)
  | .map _ ds, q => q (.int ds.length)
  | _, _ => False
theorem call_lenA {X : Cx} : CallR X (.builtin "len") (fun xs H Q => (∃ x n, xs = [x] ∧ LenV X.K x H n ∧ Q (.int n) H) ∨ ∃ a kvs, xs = [V.ref a] ∧ H a = some (.dK kvs) ∧ Q (.int kvs.length) H) := call_len.or call_lenD
theorem Rk.length {K : PySem.W.Frag} {H : Hp} {M : Addr → Prop} {kvs : List (Key × V)} {kds : List (DKey × D)} (r : Rk K H M kvs kds) : kvs.length = kds.length := by
  have := congrArg List.length r.1
  simpa using this
theorem v1_len {K : PySem.W.Frag} : V1 K (fun x H Q => (∃ z n, [x] = [z] ∧ LenV K z H n ∧ Q (.int n) H) ∨ ∃ a kvs, [x] = [V.ref a] ∧ H a = some (.dK kvs) ∧ Q (.int kvs.length) H) opLen := fun H M x dx q Q dm rx w k => by
  match dx, rx, w with
  | .str l, rx, w =>
    rw [rx.strE]
    exact .inl ⟨_, l.length, rfl, ⟨by rw [mkS_len]; exact w.1, by rw [mkS_len]⟩, k _ _ H (res_int _) w.2⟩
  | .tup ds, rx, w =>
    obtain ⟨a, vs, rfl, t, rs⟩ := rx.tupE
    exact .inl ⟨_, vs.length, rfl, .inr ⟨vs, t, rfl⟩, by rw [rs.1]; exact k _ _ H (res_int _) w⟩
  | .seq kd ds, rx, w =>
    obtain ⟨a, vs, rfl, t, rs, _⟩ := rx.seqE
    exact .inl ⟨_, vs.length, rfl, .inl ⟨vs, t, rfl⟩, by rw [rs.1]; exact k _ _ H (res_int _) w⟩
  | .map kd ds, rx, w =>
    obtain ⟨a, kvs, rfl, t, rk⟩ := rx.mapE
    exact .inr ⟨a, kvs, rfl, t, by rw [rk.length]; exact k _ _ H (res_int _) w⟩
/-! isinstance -/
inductive TyT where
  | int | bool | str | tuple | list | dict
def TyT.name : TyT → String
  | .int => "int" | .bool => "bool" | .str => "str" | .tuple => "tuple" | .list => "list" | .dict => "dict"
def tyName : D → Option String
  | .non => some "NoneType" | .bl _ => some "bool" | .int _ => some "int" | .str _ => some "str" | .tup _ => some "tuple" | .seq _ _ => some "list" | .map _ _ => some "dict" | .mapT _ _ => none | .ins _ _ _ => none | .cache _ => none | .val _ => none | .exn _ _ _ _ _ => none | .tupN _ => none
def isT : TyT → D → Bool
  | .int, .int _ => true | .int, .bl _ => true | .bool, .bl _ => true | .str, .str _ => true | .tuple, .tup _ => true | .list, .seq _ _ => true | .dict, .map _ _ => true
  | _, _ => false
theorem kitB_of (T : TyT) (d : D) (t : String) (h : tyName d = some t) : kitB t T.name = some (isT T d) := by
  cases d <;> cases h <;> cases T <;> first | rfl | decide +kernel
theorem tyX_of {K : PySem.W.Frag} {H : Hp} {M : Addr → Prop} {x : V} {d : D} {t : String} (r : RVal K H M x d) (h : tyName d = some t) : TyX K H x (.type t) := by
  cases d with
  | non => cases h; rw [r.nonE]; exact .base .non
  | bl b => cases h; rw [r.blE]; exact .base (.bl _)
  | int b => cases h; rw [r.intE]; exact .base (.int _)
  | str b => cases h; rw [r.strE]; exact .base (.str _)
  | tup ds =>
    cases h
    rcases r with ⟨_, r⟩ | ⟨z, _⟩
    · cases r with
      | tup h hl hi =>
        rcases h with ⟨h, _⟩ | ⟨h, _⟩
        · exact .base (.tup h)
        · rcases h (fun _ => none) with h | ⟨o, its, n, h1, h2, _⟩
          · rcases h with h | ⟨o, h⟩ <;> cases h
          · exact .kTuple h1 h2
    · cases z
  | seq kd ds =>
    cases h
    rcases r with ⟨_, r⟩ | ⟨_, a, rfl, vs, e, _⟩
    · cases r with
      | seq h hl hi =>
        rcases h with ⟨h | ⟨o, h⟩, _⟩ | h
        · exact .base (.lst h)
        · exact .base (.frz h)
        · rcases h (fun _ => none) with h | ⟨o, its, n, h1, h2, _⟩
          · rcases h with h | ⟨o, h⟩ <;> cases h
          · exact .kList h1 h2
    · exact .base (.lst e)
  | map kd ds =>
    cases h
    obtain ⟨a, kvs, rfl, e, _⟩ := r.mapE
    exact .base (.dK e)
  | mapT kd ds => cases h
  | ins kd C ds => cases h
  | cache φ => cases h
  | val v => cases h
  | exn a dd C f d => cases h
  | tupN ds => cases h
def wIsi (T : TyT) (α : WE) : WE := fun ρ q => α ρ fun x ρ1 => (∃ t, tyName x = some t) ∧ q (.bl (isT T x)) ρ1
section
variable {X : Cx} {F : Df} {e a b c : Expr} {pos p p1 p2 : Pos} {α β γ : WE} {es : List Expr} {τ : WA}
theorem de_isi (T : TyT) (hK : X.K = F.K) (hg : Gl X "isinstance") (hm : X.mg "isinstance" = none) (hg2 : Gl X T.name) (hm2 : X.mg T.name = none) (ha : DE X F a α) (hb : bootBuiltins (T.name : Str) = some (.type T.name) := by decide +kernel) (hn : (T.name : Str) ≠ "__name__" := by decide) (hd : ((T.name : Str) == ("__debug__" : Str)) = false := by decide)
    (hv : bootBuiltins "isinstance" = some (.builtin "isinstance") := by decide +kernel)
    (he : starEach (a :: [.Name T.name p2]) X.env = (false, eval a X.env) :: starEach [.Name T.name p2] X.env := by rfl) (hs2 : starEach (.Name T.name p2 :: []) X.env = (false, eval (.Name T.name p2) X.env) :: starEach [] X.env := by rfl) (hpl : (backTo pos (starEach [.Name T.name p2] X.env)).any (·.1) = false := by rfl) :
    DE X F (.Call (.Name "isinstance" p) [a, .Name T.name p2] [] pos) (wIsi T α) := by
  refine ⟨fun bad σ ρ H q Q o w k => (pe_callB call_isi hg hm hv (pa_cons pe_run (pa_cons (pe_bltn (v := .ty T.name) hg2 hm2 hb rfl hn hd) pa_nil hs2) he) (by decide) (by decide) he hpl).to (ha.go bad σ ρ H _ _ o w fun v d bad1 ρ1 H1 p1 w1 => ?_)⟩
  obtain ⟨⟨t, ht⟩, w1⟩ := w1
  exact ⟨v, .ty T.name, .type t, .type T.name, isT T d, rfl, .ty _, hK ▸ tyX_of (p1.va.read p1.st.ok) ht, kit_ty (kitB_of T d t ht), k _ _ bad1 ρ1 H1 (p1.st.po (.imm p1.st.ok rfl (.bl _))) w1⟩
end
/-! all, any, sum, max, min, abs, int -/
def blsOf : List D → Option (List Bool)
  | [] => some []
  | .bl b :: r => (blsOf r).map (b :: ·)
  | _ :: _ => none
def intsOf : List D → Option (List Int)
  | [] => some []
  | .int b :: r => (intsOf r).map (b :: ·)
  | _ :: _ => none
def strsOf : List D → Option (List (List Nat))
  | [] => some []
  | .str b :: r => (strsOf r).map (b :: ·)
  | _ :: _ => none
theorem blsOf_eq : ∀ {ds : List D} {bs : List Bool}, blsOf ds = some bs → ds = bs.map D.bl
  | [], _, h => by cases h; rfl
  | .bl b :: r, bs, h => by
    unfold blsOf at h
    cases z : blsOf r with
    | none => rw [z] at h; cases h
    | some t => rw [z] at h; cases h; rw [blsOf_eq z]; rfl
theorem intsOf_eq : ∀ {ds : List D} {bs : List Int}, intsOf ds = some bs → ds = bs.map D.int
  | [], _, h => by cases h; rfl
  | .int b :: r, bs, h => by
    unfold intsOf at h
    cases z : intsOf r with
    | none => rw [z] at h; cases h
    | some t => rw [z] at h; cases h; rw [intsOf_eq z]; rfl
theorem strsOf_eq : ∀ {ds : List D} {bs : List (List Nat)}, strsOf ds = some bs → ds = bs.map D.str
  | [], _, h => by cases h; rfl
  | .str b :: r, bs, h => by
    unfold strsOf at h
    cases z : strsOf r with
    | none => rw [z] at h; cases h
    | some t => rw [z] at h; cases h; rw [strsOf_eq z]; rfl
@[simp] theorem blsOf_map (bs : List Bool) : blsOf (bs.map D.bl) = some bs := by induction bs with | nil => rfl | cons b bs ih => simp [blsOf, ih]
@[simp] theorem intsOf_map (bs : List Int) : intsOf (bs.map D.int) = some bs := by induction bs with | nil => rfl | cons b bs ih => simp [intsOf, ih]
@[simp] theorem strsOf_map (bs : List (List Nat)) : strsOf (bs.map D.str) = some bs := by induction bs with | nil => rfl | cons b bs ih => simp [strsOf, ih]
def opAll : D → (D → Prop) → Prop
  | .seq _ ds, q => ∃ bs, blsOf ds = some bs ∧ q (.bl (bs.all id))
  | _, _ => False
def opAny : D → (D → Prop) → Prop
  | .seq _ ds, q => ∃ bs, blsOf ds = some bs ∧ q (.bl (bs.any id))
  | _, _ => False
def opSum : D → (D → Prop) → Prop
  | .seq _ ds, q => ∃ ns, intsOf ds = some ns ∧ q (.int ns.sum)
  | _, _ => False
section
variable {K : PySem.W.Frag}
theorem v1_all : V1 K (fun x => rAll K [x]) opAll := fun H M x dx q Q dm rx w k => by
  match dx, rx, w with
  | .seq kd ds, rx, ⟨bs, e, w⟩ =>
    obtain ⟨a, vs, rfl, t, rs, _⟩ := rx.seqE
    rw [blsOf_eq e] at rs
    exact ⟨a, bs, rfl, by rw [← rs.bls]; exact t, k _ _ H (res_bl _) w⟩
theorem v1_any : V1 K (fun x => rAny K [x]) opAny := fun H M x dx q Q dm rx w k => by
  match dx, rx, w with
  | .seq kd ds, rx, ⟨bs, e, w⟩ =>
    obtain ⟨a, vs, rfl, t, rs, _⟩ := rx.seqE
    rw [blsOf_eq e] at rs
    exact ⟨a, bs, rfl, by rw [← rs.bls]; exact t, k _ _ H (res_bl _) w⟩
theorem v1_sum : V1 K (fun x => rSum K [x]) opSum := fun H M x dx q Q dm rx w k => by
  match dx, rx, w with
  | .seq kd ds, rx, ⟨ns, e, w⟩ =>
    obtain ⟨a, vs, rfl, t, rs, _⟩ := rx.seqE
    rw [intsOf_eq e] at rs
    exact ⟨a, ns, rfl, by rw [← rs.ints]; exact t, k _ _ H (res_int _) w⟩
end
def opMax2 : D → D → (D → Prop) → Prop
  | .int i, .int j, q => q (.int (if j > i then j else i))
  | _, _, _ => False
def opMin2 : D → D → (D → Prop) → Prop
  | .int i, .int j, q => q (.int (if j < i then j else i))
  | _, _, _ => False
def opAbs : D → (D → Prop) → Prop
  | .int i, q => q (.int (if i < 0 then -i else i))
  | _, _ => False
def opInt : D → (D → Prop) → Prop
  | .int i, q => q (.int i)
  | .bl b, q => q (.int (if b then 1 else 0))
  | _, _ => False
def opGcd : D → D → (D → Prop) → Prop
  | .int i, .int j, q => q (.int ((Nat.gcd i.natAbs j.natAbs : Nat) : Int))
  | _, _, _ => False
def opDivmod : D → D → (D → Prop) → Prop
  | .int i, .int j, q => CDiv i j ∧ q (.tup [.int (i / j), .int (i % j)])
  | _, _, _ => False
section
variable {K : PySem.W.Frag}
theorem v2_max2 : V2 K (fun x y H Q => ∃ i j, [x, y] = [V.int i, .int j] ∧ Q (.int (if j > i then j else i)) H) opMax2 := fun H M x dx y dy q Q dm rx ry w k => by
  match dx, dy, rx, ry, w with
  | .int i, .int j, rx, ry, w => rw [rx.intE, ry.intE]; exact ⟨i, j, rfl, k _ _ H (res_int _) w⟩
theorem v2_min2 : V2 K (fun x y H Q => ∃ i j, [x, y] = [V.int i, .int j] ∧ Q (.int (if j < i then j else i)) H) opMin2 := fun H M x dx y dy q Q dm rx ry w k => by
  match dx, dy, rx, ry, w with
  | .int i, .int j, rx, ry, w => rw [rx.intE, ry.intE]; exact ⟨i, j, rfl, k _ _ H (res_int _) w⟩
theorem v2_gcd : V2 K (fun x y => rGcd [x, y]) opGcd := fun H M x dx y dy q Q dm rx ry w k => by
  match dx, dy, rx, ry, w with
  | .int i, .int j, rx, ry, w => rw [rx.intE, ry.intE]; exact ⟨i, j, rfl, k _ _ H (res_int _) w⟩
theorem v2_divmod : V2 K (fun x y H Q => ∃ i j, [x, y] = [V.int i, .int j] ∧ CDiv i j ∧ ∀ p, H p = none → Q (.ref p) (upd H p (.tup [.int (i / j), .int (i % j)]))) opDivmod := fun H M x dx y dy q Q dm rx ry w k => by
  match dx, dy, rx, ry, w with
  | .int i, .int j, rx, ry, w =>
    rw [rx.intE, ry.intE]
    exact ⟨i, j, rfl, w.1, fun p np => k _ _ _ (res_tup dm np (.cons (.int _) (.cons (.int _) .nil))) w.2⟩
theorem v1_abs : V1 K (fun x H Q => ∃ i, [x] = [V.int i] ∧ Q (.int (if i < 0 then -i else i)) H) opAbs := fun H M x dx q Q dm rx w k => by
  match dx, rx, w with
  | .int i, rx, w => rw [rx.intE]; exact ⟨i, rfl, k _ _ H (res_int _) w⟩
theorem v1_int : V1 K (fun x H Q => (∃ i, [x] = [V.int i] ∧ Q (.int i) H) ∨ ∃ k, [x] = [V.bl k] ∧ Q (.int (if k then 1 else 0)) H) opInt := fun H M x dx q Q dm rx w k => by
  match dx, rx, w with
  | .int i, rx, w => rw [rx.intE]; exact .inl ⟨i, rfl, k _ _ H (res_int _) w⟩
  | .bl b, rx, w => rw [rx.blE]; exact .inr ⟨b, rfl, k _ _ H (res_int _) w⟩
end
/-! list, tuple, sorted -/
theorem call_listStr {X : Cx} (hc : X.calm = true) : CallR X (.type "list") (fun xs H Q => ∃ z : Str, xs = [.str z] ∧ z.length ≤ sizeLine ∧ ∀ l, H l = none → Q (.ref l) (upd H l (.lst (z.cps.toList.map fun c => .str ⟨#[c]⟩)))) := by
  intro pins s σ H xs us Q I r h
  obtain ⟨z, rfl, hz, q⟩ := h
  obtain ⟨u, rfl, t, rfl⟩ := vals1 r
  refine call_list_str (I.ok.hd hc) z t (fun h' tk acc' c' hk hS hacc => ?_) hz
  have I1 : Inv X pins σ (upd H s.heap.objs.size (.lst (z.cps.toList.map fun c => .str ⟨#[c]⟩))) { s with heap := h', toks := tk } := by
    refine I.laid hk (Nat.le_refl _) ⟨by rw [List.length_map]; exact hz, acc'.toList, c', ?_, by simpa using hS⟩
    refine vals_of_at (by rw [List.length_map, Array.length_toList, Array.length_toList, hacc.1]) fun j x u hx hu => ?_
    obtain ⟨c, t', hc, rfl⟩ := hacc.2 j u (by simpa using hu)
    rw [List.getElem?_map, Array.getElem?_toList, hc] at hx
    cases hx
    exact ⟨t', rfl⟩
  exact ⟨.ref _, _, I1, rfl, q _ (I.hok.fresh (Nat.le_refl _))⟩
def opList : D → (D → Prop) → Prop
  | .seq _ ds, q => q (.seq .tmp ds)
  | .tup ds, q => q (.seq .tmp ds)
  | .str l, q => l.length ≤ sizeLine ∧ q (.seq .tmp (l.map fun c => .str [c]))
  | _, _ => False
def opTuple : D → (D → Prop) → Prop
  | .seq _ ds, q => q (.tup ds)
  | .tup ds, q => q (.tup ds)
  | _, _ => False
section
variable {K : PySem.W.Frag}
theorem rs_signs {H : Hp} {M : Addr → Prop} {l : List Nat} : Rs K H M (l.map fun c => V.str ⟨#[c]⟩) (l.map fun c => D.str [c]) := ⟨by simp, fun i v d a b => by
  rw [List.getElem?_map] at a b
  cases h : l[i]? with
  | none => rw [h] at a; cases a
  | some n => rw [h] at a b; cases a; cases b; exact .str [n]⟩
theorem v1_list : V1 K (fun x H Q => (∃ p ys, [x] = [V.ref p] ∧ (SqL K H p ys ∨ SqT K H p ys) ∧ ∀ l, H l = none → Q (.ref l) (upd H l (.lst ys))) ∨ (∃ z : Str, [x] = [V.str z] ∧ z.length ≤ sizeLine ∧ ∀ l, H l = none → Q (.ref l) (upd H l (.lst (z.cps.toList.map fun c => .str ⟨#[c]⟩))))) opList := fun H M x dx q Q dm rx w k => by
  match dx, rx, w with
  | .seq kd ds, rx, w =>
    obtain ⟨a, vs, rfl, t, rs, _⟩ := rx.seqE
    exact .inl ⟨a, vs, rfl, .inl t, fun l nl => k _ _ _ (res_lst nl rs) w⟩
  | .tup ds, rx, w =>
    obtain ⟨a, vs, rfl, t, rs⟩ := rx.tupE
    exact .inl ⟨a, vs, rfl, .inr t, fun l nl => k _ _ _ (res_lst nl rs) w⟩
  | .str l, rx, w =>
    rw [rx.strE]
    exact .inr ⟨mkS l, rfl, by rw [mkS_len]; exact w.1, fun p np => by rw [mkS_list]; exact k _ _ _ (res_lst np rs_signs) w.2⟩
theorem v1_tuple : V1 K (fun x H Q => ∃ p ys, [x] = [V.ref p] ∧ ((SqL K H p ys ∧ ∀ l, H l = none → Q (.ref l) (upd H l (.tup ys))) ∨ (SqT K H p ys ∧ Q (.ref p) H))) opTuple := fun H M x dx q Q dm rx w k => by
  match dx, rx, w with
  | .seq kd ds, rx, w =>
    obtain ⟨a, vs, rfl, t, rs, _⟩ := rx.seqE
    exact ⟨a, vs, rfl, .inl ⟨t, fun l nl => k _ _ _ (res_tup dm nl rs) w⟩⟩
  | .tup ds, rx, w =>
    have rx' := rx
    obtain ⟨a, vs, rfl, t, rs⟩ := rx.tupE
    rcases rx' with ⟨_, r⟩ | ⟨z, _⟩
    · exact ⟨a, vs, rfl, .inr ⟨t, k _ _ _ (res_imm rfl r) w⟩⟩
    · cases z
end
def rSortedSA (K : PySem.W.Frag) : List V → Hp → VK → Prop := fun vs H Q => ∃ (a : Addr) (xs : List Str), vs = [V.ref a] ∧ SqL K H a (xs.map V.str) ∧
  ∀ (ys : List Str) (p : Addr), ys.Perm xs → sortedS ys = true → H p = none → Q (.ref p) (upd H p (.lst (ys.map V.str)))
theorem cr_sortedSA {X : Cx} : CallR X (.builtin "sorted") (rSortedSA X.K) := by
  intro pins s σ H vs us Q I r h
  obtain ⟨a, xs, rfl, hs, q⟩ := h
  obtain ⟨its, rv, hl, hz⟩ := I.list hs
  rw [Vals.ref1 r]
  have hlen0 := rv.length
  refine PyProof.Rows.sorted_strsAny hl.isList rv.strs (by rw [← hlen0]; exact hz) fun out ys h1 h2 h3 => ?_
  obtain ⟨ep, he'⟩ := PyProof.Rows.sortedAll_at s.heap its out
  have hlen : (ys.map V.str).length ≤ sizeLine := by rw [List.length_map, h2.length_eq]; rw [List.length_map] at hz; exact hz
  exact ⟨.ref _, upd H (s.heap.objs.size + 1) (.lst (ys.map V.str)), I.laid (t' := s.toks) (fun _ _ => PyProof.Rows.sortedAll_old) (Nat.le_succ _) ⟨hlen, out.toList, ep, vals_of_strs h1, he'⟩, rfl, q ys _ h2 h3 (I.hok.fresh (Nat.le_succ _))⟩
/-- each is not less than the one ahead -/
def chainLe : List (List Nat) → Prop
  | a :: b :: r => ltCps b a = false ∧ chainLe (b :: r)
  | _ => True
theorem chainLe_of : ∀ {ss : List (List Nat)}, sortedS (ss.map mkS) = true → chainLe ss
  | [], _ => trivial
  | [_], _ => trivial
  | a :: b :: r, h => by
    have h : risingS (mkS a) ((b :: r).map mkS) = true := h
    have h : (!ltCps (mkS b).cps.toList (mkS a).cps.toList && risingS (mkS b) (r.map mkS)) = true := h
    rw [Bool.and_eq_true, mkS_list, mkS_list] at h
    exact ⟨by simpa using h.1, chainLe_of (ss := b :: r) h.2⟩
def opSorted : D → (D → Prop) → Prop
  | .seq _ ds, q => (∃ ns, intsOf ds = some ns ∧ ∀ ns' : List Int, ns'.Perm ns → ns'.Pairwise (· ≤ ·) → q (.seq .tmp (ns'.map D.int))) ∨ (∃ ss, strsOf ds = some ss ∧ ∀ ss' : List (List Nat), ss'.Perm ss → chainLe ss' → q (.seq .tmp (ss'.map D.str)))
  | _, _ => False
theorem call_sortedA {X : Cx} : CallR X (.builtin "sorted") (fun vs H Q => rSortedI X.K vs H Q ∨ rSortedSA X.K vs H Q) := cr_sortedI.or cr_sortedSA
theorem map_mkS_inv (ys : List Str) : ys = (ys.map fun s => s.cps.toList).map mkS := by
  rw [List.map_map]
  have : (mkS ∘ fun s : Str => s.cps.toList) = id := by funext s; rfl
  rw [this, List.map_id]
theorem v1_sorted {K : PySem.W.Frag} : V1 K (fun x H Q => rSortedI K [x] H Q ∨ rSortedSA K [x] H Q) opSorted := fun H M x dx q Q dm rx w k => by
  match dx, rx, w with
  | .seq kd ds, rx, .inl ⟨ns, e, w⟩ =>
    obtain ⟨a, vs, rfl, t, rs, _⟩ := rx.seqE
    rw [intsOf_eq e] at rs
    exact .inl ⟨a, ns, rfl, by rw [← rs.ints]; exact t, fun ns' p h1 h2 np => k _ _ _ (res_lst np rs_ints) (w ns' h1 h2)⟩
  | .seq kd ds, rx, .inr ⟨ss, e, w⟩ =>
    obtain ⟨a, vs, rfl, t, rs, _⟩ := rx.seqE
    rw [strsOf_eq e] at rs
    refine .inr ⟨a, ss.map mkS, rfl, by rw [← rs.strs]; exact t, fun ys p h1 h2 np => ?_⟩
    have hp : (ys.map fun s => s.cps.toList).Perm ss := by
      have := h1.map (fun s : Str => s.cps.toList)
      rw [List.map_map] at this
      have e : ((fun s : Str => s.cps.toList) ∘ mkS) = id := by funext s; simp [mkS]
      rw [e, List.map_id] at this
      exact this
    rw [map_mkS_inv ys] at h2
    have := k _ _ _ (res_lst np rs_strs) (w _ hp (chainLe_of h2))
    rw [← map_mkS_inv] at this
    exact this
/-! ### methods -/
def opJoin : D → List D → (D → Prop) → Prop
  | .str [], [.seq _ ds], q => ∃ ss, strsOf ds = some ss ∧ ss.flatten.length ≤ 16777216 ∧ q (.str ss.flatten)
  | _, _, _ => False
theorem foldl_glue : ∀ (r : List (List Nat)) (acc : Array Nat), (r.map mkS).foldl (fun acc p => acc ++ (mkS []).cps ++ p.cps) acc = acc ++ r.flatten.toArray
  | [], acc => by simp
  | x :: r, acc => by
    rw [List.map_cons, List.foldl_cons, foldl_glue r]
    simp [mkS]
theorem txt_join_nil : ∀ ss : List (List Nat), Txt.join (mkS []) (ss.map mkS) = mkS ss.flatten
  | [] => rfl
  | x :: r => by
    show (⟨((r.map mkS)).foldl (fun acc p => acc ++ (mkS []).cps ++ p.cps) (mkS x).cps⟩ : Str) = _
    rw [foldl_glue]
    simp [mkS]
section
variable {K : PySem.W.Frag}
theorem sum_lens (ss : List (List Nat)) : ((ss.map mkS).map (·.length)).sum = ss.flatten.length := by
  induction ss with
  | nil => rfl
  | cons x r ih =>
    rw [List.map_cons, List.map_cons, List.sum_cons, ih, mkS_len]; simp
theorem vm_join : VM K (fun x xs H Q => ∃ a p, ∃ ys : List Str, x = .str a ∧ xs = [.ref p] ∧ (SqL K H p (ys.map V.str) ∨ SqT K H p (ys.map V.str)) ∧ (ys.map (·.length)).sum + ys.length * a.length ≤ 16777216 ∧ Q (.str (Txt.join a ys)) H) opJoin := fun H M x dx xs ds q Q dm rx hl hr w k => by
  match dx, ds, xs, hl, w with
  | .str [], [.seq kd ds], [y], _, ⟨ss, e, hz, w⟩ =>
    obtain ⟨a, vs, rfl, t, rs, _⟩ := (hr 0 y _ rfl rfl).seqE
    rw [strsOf_eq e] at rs
    rw [rx.strE]
    refine ⟨mkS [], a, ss.map mkS, rfl, rfl, .inl (by rw [← rs.strs]; exact t), ?_, ?_⟩
    · rw [sum_lens]; simpa [mkS_len] using hz
    · rw [txt_join_nil]; exact k _ _ H (res_str _) w
/-- text.index(sign) -/
def opSIndex : D → List D → (D → Prop) → Prop
  | .str l, [.str [c]], q => c ∈ l ∧ q (.int (l.idxOf c))
  | _, _, _ => False
theorem occ_sign {l : List Nat} {c : Nat} (h : c ∈ l) : ∃ r, Builtin.Str.occurrences (mkS l) (mkS [c]) 0 (mkS l).length 1 = l.idxOf c :: r := by
  have key : ∀ i, PySem.StrLaws.At (mkS l) (mkS [c]) (mkS l).length i ↔ l[i]? = some c := fun i => by
    have := PySem.StrLaws.subAt_one (mkS l) c i
    rw [mkS_list] at this
    exact this
  rcases PySem.StrLaws.occ_head (mkS l) (mkS [c]) 1 (Nat.le_refl 1) with ⟨_, h0⟩ | ⟨i, r, e, h1, h2⟩
  · obtain ⟨i, hi⟩ := List.getElem?_of_mem h
    exact absurd ((key i).mpr hi) (h0 i)
  · refine ⟨r, ?_⟩
    have hi := (key i).mp h1
    obtain ⟨hlt, hi⟩ := List.getElem?_eq_some_iff.mp hi
    have hx : l.idxOf c = i := by
      have a1 : l.idxOf c ≤ i := by
        refine Nat.le_of_not_lt fun z => ?_
        have := List.not_of_lt_findIdx (p := (· == c)) (xs := l) z
        simp [hi] at this
      have a2 : ¬ l.idxOf c < i := fun z => by
        have hl : l.idxOf c < l.length := List.idxOf_lt_length_iff.mpr h
        exact h2 _ z ((key _).mpr (by rw [List.getElem?_eq_getElem hl, List.getElem_idxOf hl]))
      omega
    rw [hx]; exact e
theorem vm_sindex : VM K (fun x xs H Q => ∃ a b i rest, x = .str a ∧ xs = [.str b] ∧ Builtin.Str.occurrences a b 0 a.length 1 = i :: rest ∧ Q (.int (i : Nat)) H) opSIndex := fun H M x dx xs ds q Q dm rx hl hr w k => by
  match dx, ds, xs, hl, w with
  | .str l, [.str [c]], [y], _, ⟨hc, w⟩ =>
    rw [rx.strE, (hr 0 y _ rfl rfl).strE]
    obtain ⟨r, e⟩ := occ_sign hc
    exact ⟨_, _, _, r, rfl, rfl, e, k _ _ H (res_int _) w⟩
end
/-! lists that are changed -/
def opAppend (d : D) (ds : List D) (q : D → D → Prop) : Prop := match d, ds with
  | .seq k xs, [y] => xs.length < sizeLine ∧ q (.seq k (xs ++ [y])) .non
  | _, _ => False
def opPop (d : D) (ds : List D) (q : D → D → Prop) : Prop := match d, ds with
  | .seq k xs, [] => ∃ y, xs[xs.length - 1]? = some y ∧ q (.seq k xs.dropLast) y
  | .seq k xs, [.int i] => 0 ≤ i ∧ i < 2 ^ 63 ∧ ∃ y, xs[i.toNat]? = some y ∧ q (.seq k (xs.eraseIdx i.toNat)) y
  | _, _ => False
section
variable {K : PySem.W.Frag} {H : Hp} {M : Addr → Prop} {vs : List V} {ds : List D}
theorem Rs.dropLast (r : Rs K H M vs ds) : Rs K H M vs.dropLast ds.dropLast := by
  rw [List.dropLast_eq_take, List.dropLast_eq_take, r.1]; exact r.take _
theorem Rs.erase (r : Rs K H M vs ds) (i : Nat) : Rs K H M (vs.eraseIdx i) (ds.eraseIdx i) := by
  rw [List.eraseIdx_eq_take_drop_succ, List.eraseIdx_eq_take_drop_succ]
  exact (r.take i).append (r.drop (i + 1))
theorem ff_upd {a : Addr} {o : HO} (h : M a) : ∀ b x, H b = some x → ¬ M b → upd H a o b = some x := fun b x hx n => by
  rw [upd_ne (fun z => n (by subst z; exact h))]; exact hx
theorem vu_append : VU K rAppend opAppend := fun H M a d xs ds q Q dm rc hM rs w k => by
  match d, ds, xs, rc, rs, w with
  | .seq kd zs, [y], [v], ⟨vs, hv, r⟩, rs, ⟨hz, w⟩ =>
    refine ⟨a, vs, v, rfl, rfl, hv, by rw [r.1]; exact hz, k _ _ (.seq kd (zs ++ [y])) _ (ff_upd hM) .non ⟨_, upd_same, ?_⟩ w⟩
    exact (r.append rs).mono (ff_upd hM) fun b m => .inl m
  | .seq kd zs, [y], [], _, rs, _ => cases rs.1
  | .seq kd zs, [y], _ :: _ :: _, _, rs, _ => exact absurd rs.1 (by simp)
theorem vu_pop : VU K (fun x vs H Q => rPop x vs H Q ∨ rPopAt x vs H Q) opPop := fun H M a d xs ds q Q dm rc hM rs w k => by
  match d, ds, xs, rc, rs, w with
  | .seq kd zs, [], [], ⟨vs, hv, r⟩, rs, ⟨y, hy, w⟩ =>
    rw [← r.1] at hy
    obtain ⟨v, hvv, ry⟩ := r.get hy
    refine .inl ⟨a, vs, v, rfl, rfl, hv, hvv, k _ _ (.seq kd zs.dropLast) _ (ff_upd hM) (ry.mono (ff_upd hM) fun b m => .inl m) ⟨_, upd_same, ?_⟩ w⟩
    exact r.dropLast.mono (ff_upd hM) fun b m => .inl m
  | .seq kd zs, [.int i], [v], ⟨vs, hv, r⟩, rs, ⟨h0, h1, y, hy, w⟩ =>
    obtain ⟨v', hvv, ry⟩ := r.get hy
    have e := rs.uncons.1.intI
    subst e
    have hlt : i.toNat < vs.length := (List.getElem?_eq_some_iff.mp hvv).1
    refine .inr ⟨a, vs, i, i.toNat, v', rfl, rfl, hv, by omega, h1, ?_, hvv, k _ _ (.seq kd (zs.eraseIdx i.toNat)) _ (ff_upd hM) (ry.mono (ff_upd hM) fun b m => .inl m) ⟨_, upd_same, ?_⟩ w⟩
    · exact (ixN_seq (by unfold ixN; rw [if_pos h0, if_pos (by omega)])).1
    · exact (r.erase _).mono (ff_upd hM) fun b m => .inl m
  | .seq kd zs, [], _ :: _, _, rs, _ => exact absurd rs.1 (by simp)
  | .seq kd zs, [.int i], [], _, rs, _ => cases rs.1
  | .seq kd zs, [.int i], _ :: _ :: _, _, rs, _ => exact absurd rs.1 (by simp)
end
theorem mt_popA {X : Cx} : MtR X "list.pop" (fun x vs H Q => rPop x vs H Q ∨ rPopAt x vs H Q) := MtR.or (show MtR X "list.pop" rPop from mt_pop) mt_popAt
section
variable {X : Cx} {F : Df} {e a b c o : Expr} {pos apos cpos npos : Pos} {α : WE} {x : Str}
/-- xs.extend(e), e a list of its own -/
def wExt (i : Nat) (α : WE) : WE := fun ρ q => (∃ d0, ρ[i]? = some (some d0) ∧ d0.brw = true ∧ tyD "list" d0) ∧ α ρ fun y ρ1 => ∃ k ds zs, y = .seq k ds ∧ k ≠ .froz ∧ ρ1[i]? = some (some (.seq .own zs)) ∧ zs.length + ds.length ≤ sizeLine ∧ q .non (ρ1.set i (some (.seq .own (zs ++ ds))))
theorem de_extend {i : Nat} (hK : X.K = F.K) (ha : DE X F e α) (hN : X.N[i]? = some x) (hvis : Vis X.env.scope x) (hd : (x == ("__debug__" : Str)) = false := by decide) (hcd : (x == ("__classdict__" : Str)) = false := by decide)
    (hbase : attributeBase (.Name x npos) "extend" X.env (eval (.Name x npos) X.env) = eval (.Name x npos) X.env := by rfl)
    (hfew : ((backTo cpos (starEach (e :: []) X.env)).all (fun x => !x.1) && (backToKw cpos (keywordEach [] X.env)).all (fun x => x.1.isSome)
      && decide ((e :: ([] : List Expr)).length + ([] : List Keyword).length + (if ([] : List Keyword).isEmpty then 0 else 1) < 30)) = true := by rfl)
    (hline : (apos.endLine == cpos.line) = true := by rfl) (hs : starEach (e :: []) X.env = (false, eval e X.env) :: starEach [] X.env := by rfl) (hplain : (backTo cpos (starEach [] X.env)).any (·.1) = false := by rfl) :
    DE X F (.Call (.Attribute (.Name x npos) "extend" apos) [e] [] cpos) (wExt i α) := by
  refine ⟨fun bad σ ρ H q Q o w k => (pe_bm PySem.F.plainAttrs_list PySem.F.slot_list_extend PySem.F.type_list_extend mt_extend (pe_var hN hvis hd hcd) (pa_cons pe_run pa_nil hs) hbase hfew hline hs hplain).to ?_⟩
  obtain ⟨⟨d0, e0, b0, ty⟩, w⟩ := w
  obtain ⟨v, ev, s⟩ := o.sl i d0 e0
  obtain ⟨z, _⟩ | ⟨_, a, rfl, r0⟩ := s
  · rw [b0] at z; cases z
  refine ⟨.ref a, ev, by rw [hK]; exact tyD_V ty (.inr ⟨brw_imm b0, a, rfl, r0⟩), ha.go bad σ ρ H _ _ o w fun y dy bad1 ρ1 H1 p1 w1 => ?_⟩
  obtain ⟨kd, ds, zs, rfl, hk, e1, hz, w1⟩ := w1
  have o1 := p1.st.back.ok
  obtain ⟨v', ev', s'⟩ := o1.sl i _ e1
  rw [ev] at ev'; cases ev'
  obtain ⟨z, _⟩ | ⟨_, a', ea, vs, hv, rs⟩ := s'
  · cases z
  cases ea
  obtain ⟨b, us, rfl, _, rus, hb⟩ := (p1.va.read p1.st.ok).seqE
  have hM : Mm bad σ ρ1 a := .inr ⟨i, ev, _, e1, rfl⟩
  have rus' : Rs F.K H1 (Mm bad σ ρ1) us ds := rus.mono (fun _ _ h _ => h) fun b m => .inl (m.imp (p1.st.bd b) id)
  have rc : RC F.K (upd H1 a (.lst (vs ++ us))) (Mm bad σ ρ1) a (.seq .own (zs ++ ds)) := ⟨_, upd_same, (rs.append rus').mono (ff_upd hM) fun b m => .inl m⟩
  have st := Stp.setc (d2 := .seq .own (zs ++ ds)) o1 e1 rfl rfl rfl ev rc
  exact ⟨a, b, vs, us, rfl, rfl, hv, hb hk, by rw [rs.1, rus.1]; exact hz, k .non .non bad _ _ ((p1.st.back.trans st).po (.imm st.ok rfl .non)) w1⟩
end
end VL

namespace VL
open PySem PySem.Spec PyProof.Rows L2
/-! ### zip of lists, tuples and texts -/
inductive ZS where
  | lst (a : Addr) | tup (a : Addr) | str (x : Str)
def ZS.ad : ZS → Option Addr
  | .lst a => some a
  | .tup a => some a
  | .str _ => none
/-- the iterator at p over it, i turns on -/
def ZSt (c : ZS) (p : Addr) (i : Nat) (h : Heap) : Prop := match c with
  | .lst a => h.IsListIter p a i
  | .tup a => h.IsTupleIter p a i
  | .str x => ∃ t ty, (ty = "str_ascii_iterator" ∨ ty = "str_iterator") ∧ h.IsStrIter p ty x t i
/-- what stands there: n items, the i-th one with G i -/
def ZC (c : ZS) (n : Nat) (G : Nat → Value → Prop) (h : Heap) : Prop := match c with
  | .lst a => ∃ zs : Array Value, h.IsList a zs ∧ zs.size = n ∧ ∀ i v, zs[i]? = some v → G i v
  | .tup a => ∃ zs : Array Value, h.IsTuple a zs ∧ zs.size = n ∧ ∀ i v, zs[i]? = some v → G i v
  | .str x => x.cps.size = n ∧ ∀ i c u, x.cps[i]? = some c → G i (.str ⟨#[c]⟩ u)
theorem ZSt.on {c : ZS} {p : Addr} {i : Nat} {h h2 : Heap} (z : ZSt c p i h) (k : ∀ o, h.get? p = some o → h2.get? p = some o) : ZSt c p i h2 := by
  cases c with
  | lst a => exact Heap.IsListIter.at z k
  | tup a => exact Heap.IsTupleIter.at z k
  | str x => obtain ⟨t, ty, e, o, ho, r⟩ := z; exact ⟨t, ty, e, o, k o ho, r⟩
theorem ZSt.obj {c : ZS} {p : Addr} {i : Nat} {h : Heap} (z : ZSt c p i h) : ∃ o, h.get? p = some o ∧ ∀ v, o.data ≠ .cell v := by
  cases c with
  | lst a => obtain ⟨o, e, _, d⟩ := z; exact ⟨o, e, fun v q => by rw [d] at q; cases q⟩
  | tup a => obtain ⟨o, e, _, d⟩ := z; exact ⟨o, e, fun v q => by rw [d] at q; cases q⟩
  | str x => obtain ⟨t, ty, _, o, e, _, d⟩ := z; exact ⟨o, e, fun v q => by rw [d] at q; cases q⟩
theorem ZC.on {c : ZS} {n : Nat} {G : Nat → Value → Prop} {h h2 : Heap} (z : ZC c n G h) (k : ∀ a o, c.ad = some a → h.get? a = some o → h2.get? a = some o) : ZC c n G h2 := by
  cases c with
  | lst a => obtain ⟨zs, q, r⟩ := z; exact ⟨zs, Heap.IsList.at q fun o e => k a o rfl e, r⟩
  | tup a => obtain ⟨zs, ⟨o, e, q⟩, r⟩ := z; exact ⟨zs, ⟨o, k a o rfl e, q⟩, r⟩
  | str x => exact z
section
variable {prog : Program} {w : World} {A : Around} {E : Value → Shared → Prop} {s : Shared}
theorem z_item {c : ZS} {p : Addr} {i n : Nat} {G : Nat → Value → Prop} {Q : Value → Shared → Prop} (st : ZSt c p i s.heap) (zc : ZC c n G s.heap) (hi : i < n)
    (k : ∀ v h2 tk, G i v → ZSt c p (i + 1) h2 → Heap.SameBut p s.heap h2 → Q v { s with heap := h2, toks := tk }) : wpAny (model prog w) A (Builtin.SmallTypes.nextOf (.ref p)) Q E s := by
  cases c with
  | lst a =>
    obtain ⟨zs, q, rfl, g⟩ := zc
    exact wpAny_nextOf_list_item st q (Array.getElem?_eq_getElem hi) fun h2 z sb => k _ h2 s.toks (g i _ (Array.getElem?_eq_getElem hi)) z sb
  | tup a =>
    obtain ⟨zs, q, rfl, g⟩ := zc
    exact RZ.nextOf_tuple_item st q (Array.getElem?_eq_getElem hi) fun h2 z sb => k _ h2 s.toks (g i _ (Array.getElem?_eq_getElem hi)) z sb
  | str x =>
    obtain ⟨rfl, g⟩ := zc
    obtain ⟨t, ty, e | e, st⟩ := st
    · subst e
      exact wpAny_nextOf_ascii_item st (Array.getElem?_eq_getElem hi) fun h2 z sb => k _ h2 _ (g i _ _ (Array.getElem?_eq_getElem hi)) ⟨t, _, .inl rfl, z⟩ sb
    · subst e
      exact wpAny_nextOf_wide_item st (Array.getElem?_eq_getElem hi) fun h2 z sb => k _ h2 _ (g i _ _ (Array.getElem?_eq_getElem hi)) ⟨t, _, .inr rfl, z⟩ sb
theorem z_end {c : ZS} {p : Addr} {i n : Nat} {G : Nat → Value → Prop} {Q : Value → Shared → Prop} (hh : A.handled = none) (st : ZSt c p i s.heap) (zc : ZC c n G s.heap) (hi : n ≤ i)
    (k : ∀ h2 e, Heap.ExtBut p s.heap h2 → (∃ o, h2.get? e = some o ∧ o.cls = .type "StopIteration") → E (.ref e) { s with heap := h2 }) : wpAny (model prog w) A (Builtin.SmallTypes.nextOf (.ref p)) Q E s := by
  cases c with
  | lst a =>
    obtain ⟨zs, q, rfl, g⟩ := zc
    exact wpAny_nextOf_list_end hh st q (Array.getElem?_eq_none hi) k
  | tup a =>
    obtain ⟨zs, q, rfl, g⟩ := zc
    exact RZ.nextOf_tuple_end hh st q (Array.getElem?_eq_none hi) k
  | str x =>
    obtain ⟨rfl, g⟩ := zc
    obtain ⟨t, ty, e | e, st⟩ := st
    · subst e; exact wpAny_nextOf_ascii_end hh st (Array.getElem?_eq_none hi) k
    · subst e; exact wpAny_nextOf_wide_end hh st (Array.getElem?_eq_none hi) k
end
/-- all apart -/
structure ZAp (z ti tt p q : Addr) (c d : ZS) : Prop where
  a1 : ti ≠ z
  a2 : tt ≠ z
  a3 : p ≠ z
  a4 : q ≠ z
  a5 : ti ≠ tt
  a6 : ti ≠ p
  a7 : ti ≠ q
  a8 : tt ≠ p
  a9 : tt ≠ q
  a0 : p ≠ q
  c1 : ∀ a, c.ad = some a → a ≠ z ∧ a ≠ tt ∧ a ≠ p ∧ a ≠ q
  d1 : ∀ a, d.ad = some a → a ≠ z ∧ a ≠ tt ∧ a ≠ p ∧ a ≠ q
section
variable {prog : Program} {w : World} {A : Around} {E : Value → Shared → Prop} {s : Shared}
theorem z_next_item {z ti tt p q : Addr} {c d : ZS} {i n m : Nat} {G K : Nat → Value → Prop} {u v : Value} {Q : Value → Shared → Prop} (D : ZAp z ti tt p q c d)
    (hz : IsZip s.heap z ti tt .none) (h1 : IsPair s.heap ti (.ref p) (.ref q)) (h2 : IsPair s.heap tt u v) (sp : ZSt c p i s.heap) (sq : ZSt d q i s.heap) (zc : ZC c n G s.heap) (zd : ZC d m K s.heap) (hi : i < n) (hj : i < m)
    (k : ∀ x y hp tk, G i x → K i y → IsZip hp z ti tt (rawInt s.heap.objs.size) → IsPair hp tt x y → ZSt c p (i + 1) hp → ZSt d q (i + 1) hp → IsPair hp s.heap.objs.size x y → hp.objs.size = s.heap.objs.size + 1 →
      (∀ b o, b ≠ z → b ≠ tt → b ≠ p → b ≠ q → s.heap.get? b = some o → hp.get? b = some o) → Q (.ref s.heap.objs.size) { s with heap := hp, toks := tk }) :
    wpAny (model prog w) A (Builtin.«zip.__next__» ⟨[.ref z], []⟩) (fun fin s' => ∃ v, fin = .done (.ret v) ∧ Q v s') E s := by
  obtain ⟨H, g, dd, tk0, os⟩ := s
  show wpAny _ _ (field (.ref z) 2 >>= _) _ _ _
  refine wpAny_bind (wpAny_field hz rfl (x := .bool false) rfl ?_); show wpAny _ _ (field (.ref z) 3 >>= _) _ _ _
  refine wpAny_bind (wpAny_field hz rfl (x := .ref ti) rfl (wpAny_bind (wpAny_seqItems h1 rfl ?_)))
  show wpAny _ _ (Builtin.SmallTypes.ownedTupleIsFree (.ref z) >>= _) _ _ _
  refine wpAny_bind ?_; unfold Builtin.SmallTypes.ownedTupleIsFree
  refine wpAny_bind (wpAny_field hz rfl (x := .none) rfl (wpAny_pure ?_)); simp only [if_true]
  refine wpAny_bind (wpAny_rule (wpAny_bind (wpAny_field hz rfl (x := .ref tt) rfl (wpAny_bind (wpAny_setField_rec hz (by simp) fun H1 z1 e1 => ?_)))))
  replace z1 : IsZip H1 z ti tt .ellipsis := z1; replace e1 : Heap.SameBut z H H1 := e1
  refine wpAny_bind ?_; simp only [List.zipIdx_cons, List.zipIdx_nil, List.forIn_cons, List.forIn_nil]
  have nc : ∀ a, c.ad = some a → a ≠ z := fun a e => (D.c1 a e).1
  have nd : ∀ a, d.ad = some a → a ≠ z := fun a e => (D.d1 a e).1
  refine wpAny_bind (wpAny_bind (wpAny_onRaise ?_)); show wpAny _ _ (Builtin.SmallTypes.nextOf (.ref p) >>= _) _ _ _
  refine wpAny_bind (z_item (s := ⟨H1, g, dd, tk0, os⟩) (sp.on fun o => e1.extBut _ _ D.a3) (zc.on fun a o e => e1.extBut _ _ (nc a e)) hi fun x H2 tk1 gx p2 e2 => wpAny_pure ?_)
  replace e2 : Heap.SameBut p H1 H2 := e2
  have t2 : IsPair H2 tt u v := e2.extBut _ _ D.a8 (e1.extBut _ _ D.a2 h2)
  refine wpAny_bind (wpAny_seqItems t2 rfl (wpAny_bind (wpAny_updateSeq_pair t2 fun H3 t3 e3 => wpAny_bind (wpAny_letGo (wpAny_pure ?_)))))
  replace t3 : IsPair H3 tt x v := t3; replace e3 : Heap.SameBut tt H2 H3 := e3
  refine wpAny_bind (wpAny_bind (wpAny_onRaise ?_)); show wpAny _ _ (Builtin.SmallTypes.nextOf (.ref q) >>= _) _ _ _
  refine wpAny_bind (z_item (s := ⟨H3, g, dd, tk1, os⟩) (((sq.on fun o => e1.extBut _ _ D.a4).on fun o => e2.extBut _ _ D.a0.symm).on fun o => e3.extBut _ _ D.a9.symm)
    (((zd.on fun a o e => e1.extBut _ _ (nd a e)).on fun a o e => e2.extBut _ _ (D.d1 a e).2.2.1).on fun a o e => e3.extBut _ _ (D.d1 a e).2.1) hj fun y H4 tk2 gy q4 e4 => wpAny_pure ?_)
  replace e4 : Heap.SameBut q H3 H4 := e4
  have t4 : IsPair H4 tt x v := e4.extBut _ _ D.a9 t3
  refine wpAny_bind (wpAny_seqItems t4 rfl (wpAny_bind (wpAny_updateSeq_pair t4 fun H5 t5 e5 => wpAny_bind (wpAny_letGo (wpAny_pure (wpAny_pure ?_))))))
  replace t5 : IsPair H5 tt x y := t5; replace e5 : Heap.SameBut tt H4 H5 := e5
  refine wpAny_bind (wpAny_seqItems t5 rfl (wpAny_bind (wpAny_newTuple ?_)))
  have sz : H5.objs.size = H.objs.size := by rw [e5.1, e4.1, e3.1, e2.1, e1.1]
  have z5 : IsZip H5 z ti tt .ellipsis := e5.extBut _ _ D.a2.symm (e4.extBut _ _ D.a4.symm (e3.extBut _ _ D.a2.symm (e2.extBut _ _ D.a3.symm z1)))
  have k5 : ∀ b o, b ≠ z → b ≠ tt → b ≠ p → b ≠ q → H.get? b = some o → H5.get? b = some o := fun b o b1 b2 b3 b4 e => e5.extBut _ _ b2 (e4.extBut _ _ b4 (e3.extBut _ _ b2 (e2.extBut _ _ b3 (e1.extBut _ _ b1 e))))
  have p5 : ZSt c p (i + 1) H5 := ((p2.on fun o => e3.extBut _ _ D.a8.symm).on fun o => e4.extBut _ _ D.a0).on fun o => e5.extBut _ _ D.a8.symm
  have q5 : ZSt d q (i + 1) H5 := q4.on fun o => e5.extBut _ _ D.a9.symm
  have zl : z < H5.objs.size := Heap.lt_size z5
  show wpAny _ _ (Builtin.SmallTypes.ownedTupleHandOut (.ref z) (.ref H5.objs.size) >>= _) _ _ _
  refine wpAny_bind ?_; unfold Builtin.SmallTypes.ownedTupleHandOut
  have z6 : IsZip (H5.push { cls := .type "tuple", data := .seq #[x, y] }) z ti tt .ellipsis := Heap.get?_push_of_some _ z5
  refine wpAny_bind (wpAny_setField_rec z6 (by simp) fun H7 z7 e7 => ?_); replace z7 : IsZip H7 z ti tt (rawInt H5.objs.size) := z7
  refine wpAny_setField_rec z7 (by simp) fun H8 z8 e8 => ?_; replace z8 : IsZip H8 z ti tt (rawInt H5.objs.size) := z8
  have up : ∀ b o, b ≠ z → H5.get? b = some o → H8.get? b = some o := fun b o b1 e => e8.extBut _ _ b1 (e7.extBut _ _ b1 (Heap.get?_push_of_some _ e))
  have n8 : IsPair H8 H5.objs.size x y := e8.extBut _ _ (Nat.ne_of_gt zl) (e7.extBut _ _ (Nat.ne_of_gt zl) (Heap.get?_push_size _ rfl))
  have s8 : H8.objs.size = H5.objs.size + 1 := by rw [e8.1, e7.1, Heap.size_push]
  rw [sz] at z8 n8 s8
  refine wpAny_pure ⟨_, rfl, ?_⟩
  show Q (.ref H5.objs.size) _; rw [sz]
  exact k x y H8 tk2 gx gy z8 (up _ _ D.a2 t5) (p5.on fun o => up _ o D.a3) (q5.on fun o => up _ o D.a4) n8 s8 fun b o b1 b2 b3 b4 e => up b o b1 (k5 b o b1 b2 b3 b4 e)
theorem z_next_end {z ti tt p q : Addr} {c d : ZS} {i n m : Nat} {G K : Nat → Value → Prop} {u v : Value} {Q : Fin → Shared → Prop} (hh : A.handled = none) (D : ZAp z ti tt p q c d)
    (hz : IsZip s.heap z ti tt .none) (h1 : IsPair s.heap ti (.ref p) (.ref q)) (h2 : IsPair s.heap tt u v) (sp : ZSt c p i s.heap) (sq : ZSt d q i s.heap) (zc : ZC c n G s.heap) (zd : ZC d m K s.heap) (hi : n ≤ i ∨ m ≤ i)
    (k : ∀ hp e tk, (∀ b o, b ≠ z → b ≠ tt → b ≠ p → b ≠ q → s.heap.get? b = some o → hp.get? b = some o) → (∃ o, hp.get? e = some o ∧ o.cls = .type "StopIteration") → E (.ref e) { s with heap := hp, toks := tk }) :
    wpAny (model prog w) A (Builtin.«zip.__next__» ⟨[.ref z], []⟩) Q E s := by
  obtain ⟨H, g, dd, tk0, os⟩ := s
  show wpAny _ _ (field (.ref z) 2 >>= _) _ _ _
  refine wpAny_bind (wpAny_field hz rfl (x := .bool false) rfl ?_); show wpAny _ _ (field (.ref z) 3 >>= _) _ _ _
  refine wpAny_bind (wpAny_field hz rfl (x := .ref ti) rfl (wpAny_bind (wpAny_seqItems h1 rfl ?_)))
  show wpAny _ _ (Builtin.SmallTypes.ownedTupleIsFree (.ref z) >>= _) _ _ _
  refine wpAny_bind ?_; unfold Builtin.SmallTypes.ownedTupleIsFree
  refine wpAny_bind (wpAny_field hz rfl (x := .none) rfl (wpAny_pure ?_)); simp only [if_true]
  refine wpAny_bind (wpAny_rule (wpAny_bind (wpAny_field hz rfl (x := .ref tt) rfl (wpAny_bind (wpAny_setField_rec hz (by simp) fun H1 z1 e1 => ?_)))))
  replace z1 : IsZip H1 z ti tt .ellipsis := z1; replace e1 : Heap.SameBut z H H1 := e1
  refine wpAny_bind ?_; simp only [List.zipIdx_cons, List.zipIdx_nil, List.forIn_cons, List.forIn_nil]
  have nc : ∀ a, c.ad = some a → a ≠ z := fun a e => (D.c1 a e).1
  have nd : ∀ a, d.ad = some a → a ≠ z := fun a e => (D.d1 a e).1
  refine wpAny_bind (wpAny_bind (wpAny_onRaise ?_)); show wpAny _ _ (Builtin.SmallTypes.nextOf (.ref p) >>= _) _ _ _
  have zc1 : ZC c n G H1 := zc.on fun a o e => e1.extBut _ _ (nc a e)
  have sp1 : ZSt c p i H1 := sp.on fun o => e1.extBut _ _ D.a3
  by_cases hn : n ≤ i
  · refine wpAny_bind (z_end hh (s := ⟨H1, g, dd, tk0, os⟩) sp1 zc1 hn fun H2 e e2 he => ?_)
    replace e2 : Heap.ExtBut p H1 H2 := e2
    obtain ⟨oe, he, hc⟩ := he
    have z2 : IsZip H2 z ti tt .ellipsis := e2 _ _ D.a3.symm z1
    have ez : e ≠ z := fun x => by subst x; rw [z2] at he; cases he; simp at hc
    refine wpAny_setField_rec z2 (by simp) fun H3 _ e3 => k H3 e tk0 (fun b o b1 _ b3 _ x => e3.extBut _ _ b1 (e2 _ _ b3 (e1.extBut _ _ b1 x))) ⟨oe, e3.extBut _ _ ez he, hc⟩
  · have hm : m ≤ i := hi.resolve_left hn
    refine wpAny_bind (z_item (s := ⟨H1, g, dd, tk0, os⟩) sp1 zc1 (Nat.lt_of_not_le hn) fun x H2 tk1 gx p2 e2 => wpAny_pure ?_)
    replace e2 : Heap.SameBut p H1 H2 := e2
    have t2 : IsPair H2 tt u v := e2.extBut _ _ D.a8 (e1.extBut _ _ D.a2 h2)
    refine wpAny_bind (wpAny_seqItems t2 rfl (wpAny_bind (wpAny_updateSeq_pair t2 fun H3 t3 e3 => wpAny_bind (wpAny_letGo (wpAny_pure ?_)))))
    replace e3 : Heap.SameBut tt H2 H3 := e3
    refine wpAny_bind (wpAny_bind (wpAny_onRaise ?_)); show wpAny _ _ (Builtin.SmallTypes.nextOf (.ref q) >>= _) _ _ _
    refine wpAny_bind (z_end hh (s := ⟨H3, g, dd, tk1, os⟩) (((sq.on fun o => e1.extBut _ _ D.a4).on fun o => e2.extBut _ _ D.a0.symm).on fun o => e3.extBut _ _ D.a9.symm)
      (((zd.on fun a o e => e1.extBut _ _ (nd a e)).on fun a o e => e2.extBut _ _ (D.d1 a e).2.2.1).on fun a o e => e3.extBut _ _ (D.d1 a e).2.1) hm fun H4 e e4 he => ?_)
    replace e4 : Heap.ExtBut q H3 H4 := e4
    obtain ⟨oe, he, hc⟩ := he
    have z4 : IsZip H4 z ti tt .ellipsis := e4 _ _ D.a4.symm (e3.extBut _ _ D.a2.symm (e2.extBut _ _ D.a3.symm z1))
    have ez : e ≠ z := fun x => by subst x; rw [z4] at he; cases he; simp at hc
    refine wpAny_setField_rec z4 (by simp) fun H5 _ e5 => k H5 e tk1 (fun b o b1 b2 b3 b4 x => e5.extBut _ _ b1 (e4 _ _ b4 (e3.extBut _ _ b2 (e2.extBut _ _ b3 (e1.extBut _ _ b1 x))))) ⟨oe, e5.extBut _ _ ez he, hc⟩
end
end VL

namespace VL
open PySem PySem.Spec PyProof.Rows L2
/-- may be walked -/
def ZG (c : ZS) (h : Heap) : Prop := match c with
  | .lst a => ∃ zs : Array Value, h.IsList a zs
  | .tup a => ∃ zs : Array Value, h.IsTuple a zs
  | .str _ => True
def zval : ZS → V
  | .lst a => .ref a
  | .tup a => .ref a
  | .str x => .str x
abbrev PyI (G : Heap → Prop) (v : Value) (o : Obj) : Prop := ∀ {prog : Program} {w : World} {A : Around} {E : Value → Shared → Prop} {s : Shared} {Q : Value → Shared → Prop}, G s.heap → Q (.ref s.heap.objs.size) { s with heap := s.heap.push o } → wpAny (model prog w) A (pyIter v) Q E s
theorem ZG.push {c : ZS} {h : Heap} (z : ZG c h) (o : Obj) : ZG c (h.push o) := by
  cases c with
  | lst a => obtain ⟨zs, z⟩ := z; exact ⟨zs, Heap.IsList.push z o⟩
  | tup a => obtain ⟨zs, z⟩ := z; exact ⟨zs, Heap.IsTuple.push z o⟩
  | str x => trivial
theorem z_iter (c : ZS) {u : Value} (r : RelV (zval c) u) : ∃ o, PyI (ZG c) u o ∧ o.isFreed = false ∧ ∀ p h, h.get? p = some o → ZSt c p 0 h := by
  cases c with
  | lst a =>
    cases r
    exact ⟨_, fun ⟨zs, z⟩ k => wpAny_pyIter_list z k, rfl, fun p h e => ⟨_, e, rfl, rfl⟩⟩
  | tup a =>
    cases r
    exact ⟨_, fun ⟨zs, z⟩ k => wpAny_pyIter_tuple z k, rfl, fun p h e => ⟨_, e, rfl, rfl⟩⟩
  | str x =>
    obtain ⟨t, rfl⟩ := r
    cases ha : x.cps.all (· < 128) with
    | false => exact ⟨_, fun _ k => wpAny_pyIter_wide ha k, rfl, fun p h e => ⟨t, _, .inr rfl, _, e, rfl, rfl⟩⟩
    | true => exact ⟨_, fun _ k => wpAny_pyIter_ascii ha k, rfl, fun p h e => ⟨t, _, .inl rfl, _, e, rfl, rfl⟩⟩
/-- the heap behind zip(u, v) -/
abbrev zhp (h : Heap) (o o2 : Obj) : Heap := ((((h.push o).push o2).push { cls := .type "tuple", data := .seq #[.ref h.objs.size, .ref (h.push o).objs.size] }).push { cls := .type "tuple", data := .seq #[.none, .none] }).push
  { cls := .type "zip", data := .fields #[.none, .bool false, .bool false, .ref ((h.push o).push o2).objs.size, .ref (((h.push o).push o2).push { cls := .type "tuple", data := .seq #[.ref h.objs.size, .ref (h.push o).objs.size] }).objs.size] }
theorem z_meets {G G2 : Heap → Prop} {u v : Value} {o o2 : Obj} (h1 : PyI G u o) (h2 : PyI G2 v o2) :
    Meets (Builtin.«zip.__new__» ⟨[.type "zip", u, v], []⟩) (fun _ R s => G s.heap ∧ G2 (s.heap.push o) ∧
      R (.ok (.ret (.ref ((((s.heap.push o).push o2).push { cls := .type "tuple", data := .seq #[.ref s.heap.objs.size, .ref (s.heap.push o).objs.size] }).push { cls := .type "tuple", data := .seq #[.none, .none] }).objs.size))) { s with heap := zhp s.heap o o2 }) :=
  .of_wp fun prog w A R s h => by
    obtain ⟨hp, g, d, tk, os⟩ := s; obtain ⟨g1, g2, h⟩ := h
    have sz := sub_zip
    have k1 : G (Shared.heap ⟨hp, g, d, tk, os⟩) := g1
    have k2 : G2 (Shared.heap ⟨hp.push o, g, d, tk, os⟩) := g2
    wp_walk using h1 k1, h2 k2
    exact ⟨_, rfl, h⟩
section
variable {prog : Program} {w : World} {A : Around} {E : Value → Shared → Prop} {s : Shared}
theorem z_call {G G2 : Heap → Prop} {u v : Value} {o o2 : Obj} {Q : Value → Shared → Prop} (h1 : PyI G u o) (h2 : PyI G2 v o2) (f1 : o.isFreed = false) (f2 : o2.isFreed = false) (g1 : G s.heap) (g2 : G2 (s.heap.push o))
    (k : ∀ hp, IsZip hp (s.heap.objs.size + 4) (s.heap.objs.size + 2) (s.heap.objs.size + 3) .none → IsPair hp (s.heap.objs.size + 2) (.ref s.heap.objs.size) (.ref (s.heap.objs.size + 1)) → IsPair hp (s.heap.objs.size + 3) .none .none →
      hp.get? s.heap.objs.size = some o → hp.get? (s.heap.objs.size + 1) = some o2 → (∀ b x, s.heap.get? b = some x → hp.get? b = some x) → Q (.ref (s.heap.objs.size + 4)) { s with heap := hp }) :
    wpAny (model prog w) A (call (.type "zip") [u, v]) Q E s := by
  refine callType_new F.called_zip (by decide) (F.typeCall_zip_2 _ _) (F.newCall_zip_2 _ _) (fun z => F.args_object_init_3 z _ _) F.entry_zip_new (z_meets h1 h2) ⟨g1, g2, ?_⟩
  have z1 : (s.heap.push o).objs.size = s.heap.objs.size + 1 := Heap.size_push ..
  have z2 : ((s.heap.push o).push o2).objs.size = s.heap.objs.size + 2 := by rw [Heap.size_push, z1]
  have z3 : (((s.heap.push o).push o2).push { cls := .type "tuple", data := .seq #[.ref s.heap.objs.size, .ref (s.heap.push o).objs.size] }).objs.size = s.heap.objs.size + 3 := by rw [Heap.size_push, z2]
  have z4 : ((((s.heap.push o).push o2).push { cls := .type "tuple", data := .seq #[.ref s.heap.objs.size, .ref (s.heap.push o).objs.size] }).push { cls := .type "tuple", data := .seq #[.none, .none] }).objs.size = s.heap.objs.size + 4 := by rw [Heap.size_push, z3]
  have e5 : (zhp s.heap o o2).get? ((((s.heap.push o).push o2).push { cls := .type "tuple", data := .seq #[.ref s.heap.objs.size, .ref (s.heap.push o).objs.size] }).push { cls := .type "tuple", data := .seq #[.none, .none] }).objs.size = some _ := Heap.get?_push_size _ rfl
  have e4 : (zhp s.heap o o2).get? (((s.heap.push o).push o2).push { cls := .type "tuple", data := .seq #[.ref s.heap.objs.size, .ref (s.heap.push o).objs.size] }).objs.size = some _ := Heap.get?_push_of_some _ (Heap.get?_push_size _ rfl)
  have e3 : (zhp s.heap o o2).get? ((s.heap.push o).push o2).objs.size = some _ := Heap.get?_push_of_some _ (Heap.get?_push_of_some _ (Heap.get?_push_size _ rfl))
  have e2 : (zhp s.heap o o2).get? (s.heap.push o).objs.size = some o2 := Heap.get?_push_of_some _ (Heap.get?_push_of_some _ (Heap.get?_push_of_some _ (Heap.get?_push_size _ f2)))
  have e1 : (zhp s.heap o o2).get? s.heap.objs.size = some o := Heap.get?_push_of_some _ (Heap.get?_push_of_some _ (Heap.get?_push_of_some _ (Heap.get?_push_of_some _ (Heap.get?_push_size _ f1))))
  show _ ∧ _
  rw [z2, z3, z4] at e5; rw [z1, z2] at e3; rw [z3] at e4; rw [z1] at e2; rw [z4]
  exact ⟨⟨_, e5, rfl⟩, k _ e5 e3 e4 e1 e2 fun b x e => Heap.get?_push_of_some _ (Heap.get?_push_of_some _ (Heap.get?_push_of_some _ (Heap.get?_push_of_some _ (Heap.get?_push_of_some _ e))))⟩
theorem z_pyNext {z ti tt p q : Addr} {c d : ZS} {i n m : Nat} {G K : Nat → Value → Prop} {u v : Value} {Q : Option Value → Shared → Prop} (D : ZAp z ti tt p q c d)
    (hz : IsZip s.heap z ti tt .none) (h1 : IsPair s.heap ti (.ref p) (.ref q)) (h2 : IsPair s.heap tt u v) (sp : ZSt c p i s.heap) (sq : ZSt d q i s.heap) (zc : ZC c n G s.heap) (zd : ZC d m K s.heap) (hi : i < n) (hj : i < m)
    (k : ∀ x y hp tk, G i x → K i y → IsZip hp z ti tt (rawInt s.heap.objs.size) → IsPair hp tt x y → ZSt c p (i + 1) hp → ZSt d q (i + 1) hp → IsPair hp s.heap.objs.size x y → hp.objs.size = s.heap.objs.size + 1 →
      (∀ b o, b ≠ z → b ≠ tt → b ≠ p → b ≠ q → s.heap.get? b = some o → hp.get? b = some o) → Q (some (.ref s.heap.objs.size)) { s with heap := hp, toks := tk }) : wpAny (model prog w) A (pyNext (.ref z)) Q E s := by
  have ty : s.TypeIs (.ref z) "zip" := ⟨_, hz, rfl⟩
  unfold pyNext
  exact wpAny_bind (wpAny_attempt (wpAny_callSpecial?_slot (name := Str.ofString "__next__") ty F.slot_zip_next (wpAny_call_entry F.slot_zip_next ty F.entry_zip_next
    (z_next_item D hz h1 h2 sp sq zc zd hi hj fun x y hp tk a1 a2 a3 a4 a5 a6 a7 a8 a9 => wpAny_pure (k x y hp tk a1 a2 a3 a4 a5 a6 a7 a8 a9)) (F.args_zip_next_1 _))))
theorem z_pyEnd {z ti tt p q : Addr} {c d : ZS} {i n m : Nat} {G K : Nat → Value → Prop} {u v : Value} {Q : Option Value → Shared → Prop} (hh : A.handled = none) (D : ZAp z ti tt p q c d)
    (hz : IsZip s.heap z ti tt .none) (h1 : IsPair s.heap ti (.ref p) (.ref q)) (h2 : IsPair s.heap tt u v) (sp : ZSt c p i s.heap) (sq : ZSt d q i s.heap) (zc : ZC c n G s.heap) (zd : ZC d m K s.heap) (hi : n ≤ i ∨ m ≤ i)
    (k : ∀ hp tk, (∀ b o, b ≠ z → b ≠ tt → b ≠ p → b ≠ q → s.heap.get? b = some o → hp.get? b = some o) → Q none { s with heap := hp, toks := tk }) : wpAny (model prog w) A (pyNext (.ref z)) Q E s := by
  have ty : s.TypeIs (.ref z) "zip" := ⟨_, hz, rfl⟩
  unfold pyNext
  refine wpAny_bind (wpAny_attempt (wpAny_callSpecial?_slot (name := Str.ofString "__next__") ty F.slot_zip_next (wpAny_call_entry F.slot_zip_next ty F.entry_zip_next
    (z_next_end hh D hz h1 h2 sp sq zc zd hi fun hp e tk hk he => ?_) (F.args_zip_next_1 _))))
  obtain ⟨oe, he, hc⟩ := he
  exact wpAny_bind (wpAny_isInstance (T := "StopIteration") (b := true) ⟨oe, he, hc⟩ isSubtype_stop (wpAny_pure (k _ tk hk)))
end
/-- its values -/
def ZD (K : PySem.W.Frag) (H : Hp) (c : ZS) (vs : List V) : Prop := match c with
  | .lst a => SqL K H a vs
  | .tup a => SqT K H a vs
  | .str x => vs = x.cps.toList.map fun c => V.str ⟨#[c]⟩
theorem paired_u {α β : Type} {R : α → β → Prop} : ∀ {xs : List α} {ys : List β}, Paired R xs ys → ∀ {i : Nat} {y : β}, ys[i]? = some y → ∃ x, xs[i]? = some x ∧ R x y
  | _, _, .nil, i, y, h => by simp at h
  | x :: _, _ :: _, .cons r t, 0, y, h => by simp at h; subst h; exact ⟨x, rfl, r⟩
  | _ :: _, _ :: _, .cons r t, i + 1, y, h => paired_u t (i := i) (by simpa using h)
theorem zap {c d : ZS} (N : Nat) (h : ∀ a : Addr, c.ad = some a → Nat.lt a N) (h2 : ∀ a : Addr, d.ad = some a → Nat.lt a N) : ZAp (N + 4) (N + 2) (N + 3) N (N + 1) c d := by
  have n : ∀ {i j : Nat}, i ≠ j → (N + i : Nat) ≠ N + j := fun h => by omega
  have go : ∀ a : Nat, a < N → a ≠ N + 4 ∧ a ≠ N + 3 ∧ a ≠ N ∧ a ≠ N + 1 := fun a h => by omega
  exact ⟨n (by decide), n (by decide), n (i := 0) (by decide), n (by decide), n (by decide), n (j := 0) (by decide), n (by decide), n (j := 0) (by decide), n (by decide), n (i := 0) (by decide), fun a e => go a (h a e), fun a e => go a (h2 a e)⟩
section
variable {X : Cx} {pins : List (Addr × Obj)} {σ : L2.St} {H : Hp} {s : Shared} {c : ZS} {vs ws : List V}
theorem ZD.zc (I : Inv X pins σ H s) (z : ZD X.K H c vs) : ZC c vs.length (fun i u => ∃ x, vs[i]? = some x ∧ RelV x u) s.heap ∧ ZG c s.heap ∧ ∀ a, c.ad = some a → a < s.heap.objs.size := by
  cases c with
  | lst a =>
    obtain ⟨its, rv, p, _⟩ := I.list z
    refine ⟨⟨its.toArray, p.isList, by simp [rv.length], fun i v h => ?_⟩, ⟨_, p.isList⟩, fun a e => by cases e; exact p.lt⟩
    obtain ⟨x, h1, h2⟩ := paired_u rv (by simpa using h)
    exact ⟨x, h1, h2⟩
  | tup a =>
    obtain ⟨its, rv, p, _⟩ := I.tuple z
    refine ⟨⟨its.toArray, p, by simp [rv.length], fun i v h => ?_⟩, ⟨_, p⟩, fun a e => by cases e; exact p.lt⟩
    obtain ⟨x, h1, h2⟩ := paired_u rv (by simpa using h)
    exact ⟨x, h1, h2⟩
  | str x =>
    cases z
    exact ⟨⟨by simp, fun i c u h => ⟨.str ⟨#[c]⟩, by simp [h], ⟨u, rfl⟩⟩⟩, trivial, fun a e => nomatch e⟩
theorem ZD.inj (I : Inv X pins σ H s) (z : ZD X.K H c vs) (z2 : ZD X.K H c ws) : ws = vs := by
  cases c with
  | lst a => exact I.list_inj z2 z
  | tup a => exact I.tuple_inj z2 z
  | str x => cases z; exact z2
end
def Itq (K : PySem.W.Frag) (c d : ZS) : It :=
  ⟨fun i H => ∃ xs ys : List V, ZD K H c xs ∧ ZD K H d ys ∧ i < xs.length ∧ i < ys.length,
    fun i H v H2 => ∃ T x y, v = .ref T ∧ H T = none ∧ H2 = upd H T (.tup [x, y]) ∧ (∀ xs, ZD K H c xs → xs[i]? = some x) ∧ ∀ ys, ZD K H d ys → ys[i]? = some y,
    fun i H => ∃ xs ys : List V, ZD K H c xs ∧ ZD K H d ys ∧ (xs.length ≤ i ∨ ys.length ≤ i)⟩
theorem turn_zipq {P : Program} {w : World} {K : PySem.W.Frag} {elts : List Expr} {kk : Nat} {tpos : Pos} {c d : ZS} {z ti tt p q : Addr} (D : ZAp z ti tt p q c d) :
    Turn P w K (.Tuple elts kk tpos) (Itq K c d) [z, ti, tt, p, q] z (fun i h => IsZip h z ti tt .none ∧ IsPair h ti (.ref p) (.ref q) ∧ (∃ x y, IsPair h tt x y) ∧ ZSt c p i h ∧ ZSt d q i h) where
  mem := by simp
  obj := fun i h ⟨hz, h1, ⟨x, y, h2⟩, sp, sq⟩ b hb => by
    simp only [List.mem_cons, List.not_mem_nil, or_false] at hb
    rcases hb with e | e | e | e | e
    · rw [e]; exact ⟨_, hz, fun v q => nomatch q⟩
    · rw [e]; exact ⟨_, h1, fun v q => nomatch q⟩
    · rw [e]; exact ⟨_, h2, fun v q => nomatch q⟩
    · rw [e]; exact sp.obj
    · rw [e]; exact sq.obj
  keep := fun i h h2 ⟨hz, g1, ⟨x, y, g2⟩, sp, sq⟩ k => ⟨k z (by simp) _ hz, k ti (by simp) _ g1, ⟨x, y, k tt (by simp) _ g2⟩, sp.on (k p (by simp)), sq.on (k q (by simp))⟩
  item := by
    intro X hP hw hK hc i pins s σ H E I hf ⟨hz, h1, ⟨x0, y0, h2⟩, sp, sq⟩ ⟨xs, ys, zx, zy, lx, ly⟩
    subst hP hw hK
    obtain ⟨zc, _, _⟩ := zx.zc I
    obtain ⟨zd, _, _⟩ := zy.zc I
    have zl : z < s.heap.objs.size := Heap.lt_size hz
    refine z_pyNext D hz h1 h2 sp sq zc zd lx ly fun u u2 hp tk ⟨x, ex, rx⟩ ⟨y, ey, ry⟩ z' t' sp' sq' nt sz k => ?_
    refine ⟨_, rfl, wpAny_letOwnedTupleGo_zip (s := { s with heap := hp, toks := tk }) z' fun h3 z3 sb => ?_⟩
    have n3 : h3.get? s.heap.objs.size = some { cls := .type "tuple", data := .seq #[u, u2] } := (sb.2 _ (Nat.ne_of_gt zl)).trans nt
    have new : ObjOk X.prog X.w (upd H s.heap.objs.size (.tup [x, y])) h3 s.heap.objs.size (.tup [x, y]) := ⟨by show 2 ≤ sizeLine; decide, [u, u2], .cons rx (.cons ry .nil), ⟨_, n3, rfl, _, rfl⟩⟩
    have I1 : Inv X pins σ (upd H s.heap.objs.size (.tup [x, y])) { s with heap := h3, toks := tk } := by
      refine I.turnedNew (ch := [z, ti, tt, p, q]) (fun b o hb e => ?_) hf (Nat.le_refl _) new
      simp only [List.mem_cons, List.not_mem_nil, or_false, not_or] at hb
      exact (sb.2 b hb.1).trans (k b o hb.1 hb.2.2.1 hb.2.2.2.1 hb.2.2.2.2 e)
    have g1 : IsPair hp ti (.ref p) (.ref q) := k _ _ D.a1 D.a5 D.a6 D.a7 h1
    refine ⟨.ref s.heap.objs.size, _, I1, rfl, ⟨_, x, y, rfl, I.hok.fresh (Nat.le_refl _), rfl, fun l hl => by rw [zx.inj I hl]; exact ex, fun l hl => by rw [zy.inj I hl]; exact ey⟩, ⟨z3, (sb.2 _ D.a1).trans g1, ⟨u, u2, (sb.2 _ D.a2).trans t'⟩, sp'.on fun o e => (sb.2 _ D.a3).trans e, sq'.on fun o e => (sb.2 _ D.a4).trans e⟩, fun b hb => ?_⟩
    have lt : b < s.heap.objs.size := by
      simp only [List.mem_cons, List.not_mem_nil, or_false] at hb
      rcases hb with e | e | e | e | e
      · rw [e]; exact zl
      · rw [e]; exact Heap.lt_size h1
      · rw [e]; exact Heap.lt_size h2
      · rw [e]; obtain ⟨_, e1, _⟩ := sp.obj; exact Heap.lt_size e1
      · rw [e]; obtain ⟨_, e1, _⟩ := sq.obj; exact Heap.lt_size e1
    rw [upd_ne (Nat.ne_of_lt lt)]; exact (hf b hb).1
  done := by
    intro X hP hw hK hc i pins s σ H E I hf ⟨hz, h1, ⟨x0, y0, h2⟩, sp, sq⟩ ⟨xs, ys, zx, zy, hl⟩
    subst hP hw hK
    obtain ⟨zc, _, _⟩ := zx.zc I
    obtain ⟨zd, _, _⟩ := zy.zc I
    refine z_pyEnd (I.ok.hd hc) D hz h1 h2 sp sq zc zd hl fun hp tk k => ⟨rfl, I.turnedL (ch := [z, ti, tt, p, q]) (fun b o hb e => ?_) hf⟩
    simp only [List.mem_cons, List.not_mem_nil, or_false, not_or] at hb
    exact k b o hb.1 hb.2.2.1 hb.2.2.2.1 hb.2.2.2.2 e
  self := fun A i s Q E st h => wpAny_pyIter_zip st.1 h
def iZipq (K : PySem.W.Frag) (ta : TA) : TI := fun σ H R => ta σ H fun vs H1 => ∃ c d xs ys, vs = [zval c, zval d] ∧ ZD K H1 c xs ∧ ZD K H1 d ys ∧ R (Itq K c d) H1
theorem pi_zipq {X : Cx} {e e2 : Expr} {ta : TA} {p pos tpos : Pos} {elts : List Expr} {kk : Nat} (hg : Gl X "zip") (hm : X.mg "zip" = none) (ha : PA X [e, e2] ta)
    (hs : starEach [e, e2] X.env = (false, eval e X.env) :: starEach [e2] X.env := by rfl) (hpl : (backTo pos (starEach [e2] X.env)).any (·.1) = false := by rfl) :
    PI X (.Tuple elts kk tpos) (.Call (.Name "zip" p) [e, e2] [] pos) (iZipq X.K ta) := by
  refine ⟨fun pins s σ H R I h => Call_ (ld_blt I hg hm PyProof.Rows.boot_zip (PyProof.Rows.callWith_type1 (thn (ha.run pos pins s σ H _ I h) fun us s1 ⟨vs, H1, I1, r1, q1⟩ => ?_) hs hpl))⟩
  obtain ⟨c, d, xs, ys, rfl, zx, zy, q⟩ := q1
  cases r1 with
  | cons r rr =>
  cases rr with
  | cons r2 rr =>
  cases rr
  obtain ⟨zc, g1, l1⟩ := zx.zc I1
  obtain ⟨zd, g2, l2⟩ := zy.zc I1
  obtain ⟨o, i1, f1, t1⟩ := z_iter c r
  obtain ⟨o2, i2, f2, t2⟩ := z_iter d r2
  refine z_call i1 i2 f1 f2 g1 (g2.push o) fun hp hz p1 p2 e1 e2 hk => wpAny_pyIter_zip hz ?_
  have I2 : Inv X pins σ H1 { s1 with heap := hp } := I1.kept (t' := s1.toks) hk
  refine ⟨s1.heap.objs.size + 4, [s1.heap.objs.size + 4, s1.heap.objs.size + 2, s1.heap.objs.size + 3, s1.heap.objs.size, s1.heap.objs.size + 1], _, _, H1, rfl, I2, turn_zipq (zap _ l1 l2), ⟨hz, p1, ⟨_, _, p2⟩, t1 _ _ e1, t2 _ _ e2⟩, fun b hb => ?_, q⟩
  have le : s1.heap.objs.size ≤ b := by
    simp only [List.mem_cons, List.not_mem_nil, or_false] at hb
    rcases hb with e | e | e | e | e <;> rw [e] <;> first | exact Nat.le_refl _ | exact Nat.le_add_right _ _
  exact I1.fpOk le (I1.hok.fresh le)
end VL

namespace VL
open PySem PySem.Spec PyProof.Rows L2
def ZOk (F : Df) (bad : Addr → Prop) (σ : L2.St) (ρ : VEnv) (H : Hp) (wt : Option (Nat × D)) (c : ZS) (ds : List D) : Prop := ∀ bad2 σ2 ρ2 H2, Lat F bad σ ρ H bad2 σ2 ρ2 H2 →
    (∀ k d, wt = some (k, d) → ∃ a, σ[k]? = some (some (.ref a)) ∧ RC F.K H2 (Mm bad2 σ2 ρ2) a d) → ∃ vs, ZD F.K H2 c vs ∧ Rs F.K H2 (Mm bad2 σ2 ρ2) vs ds
def pairD (x y : D) : D := .tup [x, y]
section
variable {F : Df} {bad : Addr → Prop} {σ : L2.St} {ρ : VEnv} {H : Hp} {v : V} {d : D} {ds es : List D} {a : Addr} {vs : List V} {c c2 : ZS} {wt : Option (Nat × D)}
theorem ZOk.w (z : ZOk F bad σ ρ H none c ds) : ZOk F bad σ ρ H wt c ds := fun bad2 σ2 ρ2 H2 s _ => z bad2 σ2 ρ2 H2 s fun _ _ e => nomatch e
theorem zok_of {Hs : Hp} (o : Ok F.K F.H0 F.pa bad σ ρ H) (va : Va F.K σ bad ρ Hs H v d) (hd : itemsOf d = some ds) (nb : d.brw = false) : ∃ c, v = zval c ∧ ZOk F bad σ ρ H wt c ds := by
  rcases va with ⟨im, r⟩ | ⟨t, a, rfl, r, n, ba⟩ | ⟨b, _⟩
  · cases r with
    | tup h hl hi =>
      cases hd
      refine ⟨.tup _, rfl, fun bad2 σ2 ρ2 H2 s _ => ⟨_, ?_, Rs.mono s.f s.m ⟨hl, hi⟩⟩⟩
      rcases h with ⟨h, n⟩ | h
      · exact .inl (.inl (s.f _ _ h n))
      · exact h.1 H2
    | tupN h hc hl hi =>
      cases hd
      exact ⟨.tup _, rfl, fun bad2 σ2 ρ2 H2 s _ => ⟨_, .inl (.inr ⟨_, s.f _ _ h.1 h.2⟩), Rs.mono s.f s.m ⟨hl, hi⟩⟩⟩
    | seq h hl hi =>
      cases hd
      refine ⟨.lst _, rfl, fun bad2 σ2 ρ2 H2 s _ => ⟨_, ?_, Rs.mono s.f s.m ⟨hl, hi⟩⟩⟩
      rcases h with ⟨h, n⟩ | h
      · exact .inl (rd_step (M := Mm bad σ ρ) s.f h n)
      · exact h H2
    | str l =>
      cases hd
      exact ⟨.str (mkS l), rfl, fun bad2 σ2 ρ2 H2 s _ => ⟨_, rfl, by rw [mkS_list]; exact rs_signs⟩⟩
    | _ => cases hd
  · cases d with
    | seq kd xs =>
      cases hd
      obtain ⟨vs, hv, rs⟩ := r
      exact ⟨.lst a, rfl, fun bad2 σ2 ρ2 H2 s _ => ⟨vs, .inl (.inl (s.ss.fr _ _ hv fun z => o.ob a z ba)), rs.mono s.f s.m⟩⟩
    | map kd xs => cases hd
    | mapT kd xs => cases hd
    | ins kd C xs => cases hd
    | _ => exact r.elim
  · rw [nb] at b; cases b
theorem zok_slot {k : Nat} (o : Ok F.K F.H0 F.pa bad σ ρ H) (hk : ρ[k]? = some (some d)) (hv : σ[k]? = some (some v)) (hd : itemsOf d = some ds) (b : d.brw = true) : ∃ c, v = zval c ∧ ZOk F bad σ ρ H (some (k, d)) c ds := by
  obtain ⟨v', ev, s⟩ := o.sl k d hk
  rw [hv] at ev; cases ev
  obtain ⟨z, _⟩ | ⟨_, a, rfl, r0⟩ := s
  · rw [b] at z; cases z
  cases d with
  | seq kd xs =>
    cases hd
    refine ⟨.lst a, rfl, fun bad2 σ2 ρ2 H2 s h => ?_⟩
    obtain ⟨a', e, vs, hvs, rs⟩ := h k _ rfl
    rw [hv] at e; cases e
    exact ⟨vs, .inl (.inl hvs), rs⟩
  | map kd xs => cases hd
  | mapT kd xs => cases hd
  | ins kd C xs => cases hd
  | _ => exact r0.elim
theorem jok_zip (z1 : ZOk F bad σ ρ H wt c ds) (z2 : ZOk F bad σ ρ H wt c2 es) : JOk F bad σ ρ H wt (Itq F.K c c2) (List.zipWith pairD ds es) := by
  refine ⟨fun H => ∃ xs ys, ZD F.K H c xs ∧ ZD F.K H c2 ys ∧ xs.length = ds.length ∧ ys.length = es.length, (Itq F.K c c2).yld, ⟨fun i H hi ⟨xs, ys, h1, h2, l1, l2⟩ => ?_, fun H ⟨xs, ys, h1, h2, l1, l2⟩ => ?_, fun _ _ _ _ _ _ y => y⟩, fun bad2 σ2 ρ2 H2 s h => ?_⟩
  · rw [List.length_zipWith] at hi
    exact ⟨xs, ys, h1, h2, by omega, by omega⟩
  · refine ⟨xs, ys, h1, h2, ?_⟩
    rw [List.length_zipWith]; omega
  · obtain ⟨xs, h1, r1⟩ := z1 bad2 σ2 ρ2 H2 s h
    obtain ⟨ys, h2, r2⟩ := z2 bad2 σ2 ρ2 H2 s h
    refine ⟨⟨xs, ys, h1, h2, r1.1, r2.1⟩, fun i x H3 hi y => ?_⟩
    obtain ⟨T, u, w, rfl, nT, rfl, f1, f2⟩ := y
    obtain ⟨d1, e1, q1⟩ := r1.getV (f1 xs h1)
    obtain ⟨d2, e2, q2⟩ := r2.getV (f2 ys h2)
    have rr := res_tup (M := Mm bad2 σ2 ρ2) (fun b m => s.ss.ok.mdom m) nT (.cons q1 (.cons q2 .nil))
    refine ⟨rr.1, pairD d1 d2, ?_, ?_⟩
    · rw [List.getElem?_zipWith, e1, e2]
    · rcases rr.2 with ⟨_, r⟩ | ⟨t, _⟩
      · exact r
      · cases t
end
def wtZ : List Arg → D → D → Option (Option (Nat × D))
  | [a, b], x, y => if x.brw then (if y.brw then none else match a with
    | .slot k => some (some (k, x))
    | _ => none) else if y.brw then (match b with
    | .slot k => some (some (k, y))
    | _ => none) else some none
  | _, _, _ => none
def wZip (τ : WA) : WI := fun ρ q => τ ρ fun as ρ1 => ∃ x y ds es wt, argsD ρ1 as = some [x, y] ∧ itemsOf x = some ds ∧ itemsOf y = some es ∧ wtZ as x y = some wt ∧ q (List.zipWith pairD ds es) wt ρ1
section
variable {X : Cx} {F : Df} {e a b c o tg iter : Expr} {pos apos cpos npos p tpos : Pos} {τ : WA} {elts : List Expr} {kk : Nat}
theorem di_zip (hK : X.K = F.K) (hg : Gl X "zip") (hm : X.mg "zip" = none) (ha : DA X F [a, b] τ)
    (hs : starEach [a, b] X.env = (false, eval a X.env) :: starEach [b] X.env := by rfl) (hpl : (backTo pos (starEach [b] X.env)).any (·.1) = false := by rfl) :
    DI X F (.Tuple elts kk tpos) (.Call (.Name "zip" p) [a, b] [] pos) (wZip τ) := by
  refine ⟨fun bad σ ρ H q Rr o w k => (pi_zipq hg hm pa_run hs hpl).to (ha.go bad σ ρ H _ _ o w fun vs as bad1 ρ1 H1 p1 w1 => ?_)⟩
  obtain ⟨x, y, ds, es, wt, ed, e1, e2, ew, w1⟩ := w1
  rw [hK]
  have la : as.length = 2 := by obtain ⟨h, _⟩ := argsD_get ed; rw [h]; rfl
  have lv : vs.length = 2 := by rw [p1.len, la]
  obtain ⟨a1, a2, rfl⟩ : ∃ a1 a2, as = [a1, a2] := by
    match as, la with
    | [a1, a2], _ => exact ⟨a1, a2, rfl⟩
  obtain ⟨v1, v2, rfl⟩ : ∃ v1 v2, vs = [v1, v2] := by
    match vs, lv with
    | [v1, v2], _ => exact ⟨v1, v2, rfl⟩
  have o1 := p1.st.ok
  obtain ⟨_, hat⟩ := argsD_get ed
  have wo : WtOk ρ1 wt ∧ (∃ c, v1 = zval c ∧ ZOk F bad1 σ ρ1 H1 wt c ds) ∧ ∃ c, v2 = zval c ∧ ZOk F bad1 σ ρ1 H1 wt c es := by
    cases bx : x.brw with
    | true =>
      cases b2 : y.brw with
      | true => simp [wtZ, bx, b2] at ew
      | false =>
        cases a1 with
        | val d => simp [wtZ, bx, b2] at ew
        | slot j =>
          simp [wtZ, bx, b2] at ew
          subst ew
          obtain ⟨d0, hd0, e0⟩ := hat 0 _ rfl
          cases hd0
          have hj := at_slot e0
          refine ⟨fun k d e => by cases e; exact ⟨hj, bx⟩, zok_slot o1 hj (p1.va 0 _ _ rfl rfl _ hj) e1 bx, ?_⟩
          obtain ⟨_, _, va, _⟩ := p1.vaD ed (i := 1) rfl rfl b2
          exact zok_of o1 va e2 b2
    | false =>
      obtain ⟨_, _, va, _⟩ := p1.vaD ed (i := 0) rfl rfl bx
      cases b2 : y.brw with
      | true =>
        cases a2 with
        | val d => simp [wtZ, bx, b2] at ew
        | slot j =>
          simp [wtZ, bx, b2] at ew
          subst ew
          obtain ⟨d0, hd0, e0⟩ := hat 1 _ rfl
          cases hd0
          have hj := at_slot e0
          exact ⟨fun k d e => by cases e; exact ⟨hj, b2⟩, zok_of o1 va e1 bx, zok_slot o1 hj (p1.va 1 _ _ rfl rfl _ hj) e2 b2⟩
      | false =>
        simp [wtZ, bx, b2] at ew
        subst ew
        obtain ⟨_, _, va2, _⟩ := p1.vaD ed (i := 1) rfl rfl b2
        exact ⟨(fun _ _ e => nomatch e), zok_of o1 va e1 bx, zok_of o1 va2 e2 b2⟩
  obtain ⟨wo, ⟨c, rfl, z1⟩, c2, rfl, z2⟩ := wo
  have s0 := Lat.of (Stl.refl o1).toSst
  have held : ∀ k d, wt = some (k, d) → ∃ a, σ[k]? = some (some (.ref a)) ∧ RC F.K H1 (Mm bad1 σ ρ1) a d := fun k d e => by
    obtain ⟨h1, h2⟩ := wo k d e
    obtain ⟨v, ev, s⟩ := o1.sl k d h1
    obtain ⟨z, _⟩ | ⟨_, a, rfl, r⟩ := s
    · rw [h2] at z; cases z
    · exact ⟨a, ev, r⟩
  obtain ⟨xs, zx, _⟩ := z1 _ _ _ _ s0 held
  obtain ⟨ys, zy, _⟩ := z2 _ _ _ _ s0 held
  exact ⟨c, c2, xs, ys, rfl, zx, zy, k _ _ wt bad1 ρ1 H1 p1.st wo (jok_zip z1 z2) w1⟩
end
end VL

namespace VL
open PySem PySem.Spec PyProof.Rows L2
/-! ### slices with a step, of lists -/
def stepIx (lo hi st : Option Int) (n : Nat) : List Nat := sliceRange (sliceBounds lo hi st n).1 (sliceBounds lo hi st n).2.1 (sliceBounds lo hi st n).2.2
def picked {α : Type} (js : List Nat) (xs : List α) : List α := js.filterMap (xs[·]?)
theorem picked_cons {α : Type} (j : Nat) (js : List Nat) (xs : List α) : picked (j :: js) xs = (xs[j]?).toList ++ picked js xs := by
  unfold picked; rw [List.filterMap_cons]; cases xs[j]? <;> rfl
theorem vals_picked {vs : List V} {us : List Value} (r : Vals vs us) : ∀ js : List Nat, Vals (picked js vs) (picked js us)
  | [] => .nil
  | j :: js => by
    rw [picked_cons, picked_cons]
    have ih := vals_picked r js
    by_cases h : j < vs.length
    · obtain ⟨u, h1, h2⟩ := r.get (List.getElem?_eq_getElem h)
      rw [h1, List.getElem?_eq_getElem h]
      exact .cons h2 ih
    · rw [List.getElem?_eq_none (Nat.le_of_not_lt h), List.getElem?_eq_none (by rw [← r.length]; exact Nat.le_of_not_lt h)]
      exact ih
theorem rs_picked {K : PySem.W.Frag} {H : Hp} {M : Addr → Prop} {vs : List V} {ds : List D} (r : Rs K H M vs ds) : ∀ js : List Nat, Rs K H M (picked js vs) (picked js ds)
  | [] => .nil
  | j :: js => by
    rw [picked_cons, picked_cons]
    have ih := rs_picked r js
    by_cases h : j < vs.length
    · have h2 : j < ds.length := by rw [← r.1]; exact h
      rw [List.getElem?_eq_getElem h, List.getElem?_eq_getElem h2]
      exact .cons (r.2 j _ _ (List.getElem?_eq_getElem h) (List.getElem?_eq_getElem h2)) ih
    · rw [List.getElem?_eq_none (Nat.le_of_not_lt h), List.getElem?_eq_none (by rw [← r.1]; exact Nat.le_of_not_lt h)]
      exact ih
theorem picked_len {α β : Type} {xs : List α} {ys : List β} (h : xs.length = ys.length) : ∀ js : List Nat, (picked js xs).length = (picked js ys).length
  | [] => rfl
  | j :: js => by
    rw [picked_cons, picked_cons, List.length_append, List.length_append, picked_len h js]
    by_cases hj : j < xs.length
    · rw [List.getElem?_eq_getElem hj, List.getElem?_eq_getElem (by rw [← h]; exact hj)]; rfl
    · rw [List.getElem?_eq_none (Nat.le_of_not_lt hj), List.getElem?_eq_none (by rw [← h]; exact Nat.le_of_not_lt hj)]; rfl
theorem picked_rev {α : Type} (xs : List α) : picked (stepIx none none (some (-1)) xs.length) xs = xs.reverse := by
  unfold stepIx
  rw [PySem.W.krv_bounds]
  show picked (sliceRange ((xs.length : Int) - 1) (-1) (-1)) xs = _
  rw [PySem.W.krv_sliceRange, PySem.W.krv_range]
  unfold picked
  rw [List.filterMap_reverse]
  have := PySem.W.krv_all xs.toArray
  simpa using this
theorem picked_tail {α : Type} (xs : List α) : picked (stepIx none (some 0) (some (-1)) xs.length) xs = (xs.drop 1).reverse := by
  have hb : sliceBounds none (some 0) (some (-1)) xs.length = ((xs.length : Int) - 1, max (-1) (min 0 ((xs.length : Int) - 1)), -1) := rfl
  unfold stepIx
  rw [hb]
  cases xs with
  | nil => rfl
  | cons x xs =>
    have e : max (-1 : Int) (min 0 (((x :: xs).length : Int) - 1)) = 0 := by rw [List.length_cons]; omega
    show picked (sliceRange (((x :: xs).length : Int) - 1) (max (-1) (min 0 (((x :: xs).length : Int) - 1))) (-1)) (x :: xs) = _
    rw [e]
    have hr : sliceRange (((x :: xs).length : Int) - 1) 0 (-1) = ((List.range xs.length).map Nat.succ).reverse := by
      unfold sliceRange
      rw [if_neg (by decide)]
      by_cases h : (((x :: xs).length : Int) - 1) > 0
      · rw [if_pos h]
        have e2 : ((((x :: xs).length : Int) - 1 - 0 - -1 - 1) / (- -1)).toNat = xs.length := by
          rw [show (- -1 : Int) = 1 by decide, Int.ediv_one, List.length_cons]; omega
        show List.map _ (List.range ((((x :: xs).length : Int) - 1 - 0 - -1 - 1) / (- -1)).toNat) = _
        rw [e2]
        apply List.ext_getElem
        · simp
        · intro i h1 h2
          simp only [List.length_map, List.length_range] at h1
          simp only [List.getElem_map, List.getElem_range, List.getElem_reverse, List.length_cons, List.length_map, List.length_range]
          omega
      · rw [if_neg h]
        have : xs = [] := by
          cases xs with
          | nil => rfl
          | cons y ys => rw [List.length_cons, List.length_cons] at h; omega
        subst this; rfl
    rw [hr]
    unfold picked
    rw [List.filterMap_reverse, List.filterMap_map]
    have := PySem.W.krv_all xs.toArray
    have e3 : ((x :: xs)[·]?) ∘ Nat.succ = (xs[·]?) := by funext i; rfl
    rw [e3]
    simpa using this
def opSl3 (d : D) (lo hi st : Option Int) (q : D → Prop) : Prop := match d with
  | .seq _ ds => st ≠ some 0 ∧ (picked (stepIx lo hi st ds.length) ds).length ≤ sizeLine ∧ q (.seq .tmp (picked (stepIx lo hi st ds.length) ds))
  | _ => False
def wSl3 (α : WE) (lo hi st : WO) : WE := fun ρ q => α ρ fun x ρ1 => lo ρ1 fun i ρ2 => hi ρ2 fun j ρ3 => st ρ3 fun k ρ4 => (x.brw = false ∨ ρ4 = ρ1) ∧ opSl3 x i j k fun d => q d ρ4
section
variable {X : Cx} {F : Df} {e a b c iter tg : Expr} {pos p p2 : Pos} {α β γ : WE} {lo hi st : Option Expr} {wl wh ws : WO} {θ : WTs} {ι κ : WI} {τ : WA}
theorem pe_slice3 {te : TE} {tl th ts : TO} (he : PE X e te) (hl : PO X lo tl) (hu : PO X hi th) (hs : PO X st ts) (hops : ∀ v sl : Value, subscripted (.Slice lo hi st p2) false v sl = operate [v, sl] (getItem v sl)) :
    PE X (.Subscript e (.Slice lo hi st p2) pos) (fun σ H Q => te σ H fun x H1 => tl σ H1 fun l H2 => th σ H2 fun h H3 => ts σ H3 fun k H4 => ∃ a xs, x = .ref a ∧ SqL X.K H4 a xs ∧ k ≠ some 0 ∧ (picked (stepIx l h k xs.length) xs).length ≤ sizeLine ∧
      ∀ p, H4 p = none → Q (.ref p) (upd H4 p (.lst (picked (stepIx l h k xs.length) xs)))) := by
  refine ⟨fun pins s σ H Q I h => Subscript_ (thn (he.run pins s σ H _ I h) fun v s1 ⟨x, H1, I1, r1, q1⟩ => ?_)⟩
  refine wpAny_Slice (thn (hl.run pins s1 σ H1 _ I1 q1) fun vl s2 ⟨l, H2, I2, pl, q2⟩ => thn (hu.run pins s2 σ H2 _ I2 q2) fun vu s3 ⟨u, H3, I3, pu, q3⟩ => thn (hs.run pins s3 σ H3 _ I3 q3) fun vk s4 ⟨k, H4, I4, pk, a, xs, ex, hx, k0, hz, q⟩ => ?_)
  subst ex
  cases r1
  have I5 : Inv X pins σ H4 { s4 with heap := s4.heap.push { cls := .type "slice", data := .fields #[vl, vu, vk] } } := I4.kept (t' := s4.toks) fun b ob q => Heap.get?_push_of_some _ q
  obtain ⟨its, r, ht, hzz⟩ := I5.list hx
  have len := r.length
  show wpAny (model X.prog X.w) X.A (subscriptTail e (.Slice lo hi st p2) (.ref a) (.ref s4.heap.objs.size)) (EP X pins σ Q) X.xe { s4 with heap := s4.heap.push { cls := .type "slice", data := .fields #[vl, vu, vk] } }
  refine tail_any (ops := [.ref a, .ref s4.heap.objs.size]) ht.isList.typeIs (PySem.slot_list_getitem.lookup) ?_ (hops _ _)
  refine wpAny_getItem_list_slice ht.isList (Heap.IsSliceOf.new _ vl vu vk) pl pu pk k0 ?_ (by rw [List.size_toArray]; omega)
  have ep : slicePick its.toArray l u k = (picked (stepIx l u k xs.length) its).toArray := by
    unfold slicePick picked stepIx
    simp [len]
  rw [ep]
  exact ⟨.ref _, _, I5.laid (t' := s4.toks) (o := .lst (picked (stepIx l u k xs.length) xs)) (fun b ob q => Heap.get?_push_of_some _ q) (Nat.le_refl _) ⟨hz, _, 0, vals_picked r _, Heap.get?_push_size _ rfl⟩, rfl, q _ (I5.hok.fresh (Nat.le_refl _))⟩
theorem de_slice3 (hK : X.K = F.K) (ha : DE X F a α) (hl : DO X F lo wl) (hh : DO X F hi wh) (hs : DO X F st ws) (hx : ∀ v sl : Value, subscripted (.Slice lo hi st p2) false v sl = operate [v, sl] (getItem v sl) := by intro _ _; with_unfolding_all rfl) : DE X F (.Subscript a (.Slice lo hi st p2) pos) (wSl3 α wl wh ws) := by
  obtain ⟨tl, pl, gl⟩ := hl.go
  obtain ⟨th, ph, gh⟩ := hh.go
  obtain ⟨ts, ps, gs⟩ := hs.go
  refine ⟨fun bad σ ρ H q Q o w k => (pe_slice3 pe_run pl ph ps hx).to (ha.go bad σ ρ H _ _ o w fun x dx bad1 ρ1 H1 p1 w1 => gl bad1 σ ρ1 H1 _ _ p1.st.ok w1 fun i bad2 ρ2 H2 s2 w2 => gh bad2 σ ρ2 H2 _ _ s2.ok w2 fun j bad3 ρ3 H3 s3 w3 =>
    gs bad3 σ ρ3 H3 _ _ s3.ok w3 fun n bad4 ρ4 H4 s4 w4 => ?_)⟩
  obtain ⟨kp, w4⟩ := w4
  have s24 := (s2.trans s3).trans s4
  have rx := (p1.va.keep p1.st.ok s24 kp).read s4.ok
  match dx, rx, w4 with
  | .seq kd ds, rx, ⟨k0, hz, w4⟩ =>
    obtain ⟨p, vs, rfl, t, rs, _⟩ := rx.seqE
    refine ⟨p, vs, rfl, hK ▸ t, k0, ?_, fun a na => ?_⟩
    · rw [rs.1, picked_len rs.1]; exact hz
    · rw [rs.1]
      obtain ⟨bad5, p5⟩ := (res_lst (K := F.K) na (rs_picked rs _)).po s4.ok
      exact k _ _ bad5 ρ4 _ ((p1.st.trans s24).po p5) w4
/-! ### more to walk -/
def wIfI (θ : WTs) (ι κ : WI) : WI := fun ρ q => θ ρ fun c ρ1 => if c = true then ι ρ1 q else κ ρ1 q
theorem di_if (hc : DT X F c θ) (ha : DI X F tg a ι) (hb : DI X F tg b κ) : DI X F tg (.IfExp c a b pos) (wIfI θ ι κ) := by
  refine ⟨fun bad σ ρ H q Rr o w k pins s I => wpAny_IfExp (thn (hc.go bad σ ρ H (fun c ρ1 => if c = true then ι ρ1 q else κ ρ1 q)
    (fun c H1 => if c = true then runI X tg a σ H1 Rr else runI X tg b σ H1 Rr) o w (fun c ρ1 H1 s1 w1 => ?_) pins s I) fun c s1 ⟨H1, I1, q1⟩ => ?_)⟩
  · cases c with
    | true =>
      rw [if_pos rfl] at w1 ⊢
      exact ha.go bad σ ρ1 H1 q Rr s1.ok w1 fun J items wt bad' ρ' H' s2 => k J items wt bad' ρ' H' (s1.trans s2)
    | false =>
      rw [if_neg Bool.false_ne_true] at w1 ⊢
      exact hb.go bad σ ρ1 H1 q Rr s1.ok w1 fun J items wt bad' ρ' H' s2 => k J items wt bad' ρ' H' (s1.trans s2)
  · cases c with
    | true => exact q1 pins s1 I1
    | false => exact q1 pins s1 I1
/-- hi - 1 .. lo + 1, downwards -/
def downD (hi lo : Int) : List D := (List.range (hi - lo).toNat).map fun i => D.int (hi - (i : Nat))
def wR3d (τ : WA) : WI := fun ρ q => τ ρ fun as ρ1 => ∃ m n, argsD ρ1 as = some [.int m, .int n, .int (-1)] ∧ (-(2 ^ 62) ≤ m ∧ m < 2 ^ 62 ∧ -(2 ^ 62) ≤ n ∧ n < 2 ^ 62) ∧ q (downD m n) none ρ1
theorem di_range3d (hg : Gl X "range") (hm : X.mg "range" = none) (ha : DA X F [a, b, c] τ)
    (hs : starEach [a, b, c] X.env = (false, eval a X.env) :: starEach [b, c] X.env := by rfl) (hpl : (backTo pos (starEach [b, c] X.env)).any (·.1) = false := by rfl) : DI X F tg (.Call (.Name "range" p) [a, b, c] [] pos) (wR3d τ) := by
  refine ⟨fun bad σ ρ H q Rr o w k => (pi_range3 hg hm pa_run hs hpl).to (ha.go bad σ ρ H _ _ o w fun vs as bad1 ρ1 H1 p1 w1 => ?_)⟩
  obtain ⟨m, n, ed, ⟨b1, b2, b3, b4⟩, w1⟩ := w1
  refine ⟨m, n, -1, (m - n).toNat, vals3D p1 ed, RgC.neg b1 b2 b3 b4, k _ _ none bad1 ρ1 H1 p1.st (fun _ _ e => nomatch e) ?_ w1⟩
  have h : (downD m n).length = (m - n).toNat := by simp [downD]
  refine ⟨_, _, by rw [h]; exact walk_rangeC, fun bad2 σ2 ρ2 H2 s _ => ⟨trivial, fun i x H3 hi' y => ?_⟩⟩
  obtain ⟨rfl, rfl⟩ := y
  rw [h] at hi'
  refine ⟨fun _ _ h => h, .int (m + (i : Nat) * -1), ?_, .int _⟩
  have e : m + (i : Nat) * (-1 : Int) = m - (i : Nat) := by omega
  rw [e]
  simp [downD, hi']
/-! ### list(range(n)) -/
def wLR1 (α : WE) : WE := fun ρ q => α ρ fun x ρ1 => ∃ n, x = .int n ∧ (0 ≤ n ∧ n ≤ 16777216) ∧ q (.seq .tmp (rangeD 0 n)) ρ1
def wLR2 (α β : WE) : WE := fun ρ q => α ρ fun x ρ1 => ∃ m, x = .int m ∧ β ρ1 fun y ρ2 => ∃ n, y = .int n ∧ RgOk m n ∧ q (.seq .tmp (rangeD m n)) ρ2
theorem rs_range {K : PySem.W.Frag} {H : Hp} {M : Addr → Prop} {m n : Int} : Rs K H M (rgV m n) (rangeD m n) := ⟨by simp [rgV, rangeD], fun i v d a b => by
  have hi : i < (n - m).toNat := by have := (List.getElem?_eq_some_iff.mp a).1; rw [rgV_length] at this; exact this
  have e1 : (rgV m n)[i]? = some (.int (m + (i : Nat))) := by simp [rgV, hi]
  have e2 : (rangeD m n)[i]? = some (.int (m + (i : Nat))) := by simp [rangeD, hi]
  rw [e1] at a; rw [e2] at b; cases a; cases b; exact .int _⟩
theorem de_listRg1 {p3 p4 : Pos} (hc : X.calm = true) (hg : Gl X "list") (hm : X.mg "list" = none) (hg2 : Gl X "range") (hm2 : X.mg "range" = none) (ha : DE X F a α)
    (na : starEach [.Call (.Name "range" p3) [a] [] p4] X.env = (false, eval (.Call (.Name "range" p3) [a] [] p4) X.env) :: starEach [] X.env := by rfl) (nb : starEach [a] X.env = (false, eval a X.env) :: starEach [] X.env := by rfl) :
    DE X F (.Call (.Name "list" p) [.Call (.Name "range" p3) [a] [] p4] [] pos) (wLR1 α) := by
  refine ⟨fun bad σ ρ H q Q o w k => (pe_listRg hc hg hm (prg_1 hg2 hm2 pe_run nb) na).to (ha.go bad σ ρ H _ _ o w fun v d bad1 ρ1 H1 p1 w1 => ?_)⟩
  obtain ⟨n, rfl, ⟨h0, h1⟩, w1⟩ := w1
  refine ⟨n, (p1.va.read p1.st.ok).intE, RgOk.of_le (Int.le_refl 0) h1 (by decide) h0, fun p np => ?_⟩
  obtain ⟨bad2, p2⟩ := (res_lst (K := F.K) np (rs_range (m := 0) (n := n))).po p1.st.ok
  exact k _ _ bad2 ρ1 _ (p1.st.po p2) w1
theorem de_listRg2 {p3 p4 : Pos} (hc : X.calm = true) (hg : Gl X "list") (hm : X.mg "list" = none) (hg2 : Gl X "range") (hm2 : X.mg "range" = none) (ha : DE X F a α) (hb : DE X F b β)
    (na : starEach [.Call (.Name "range" p3) [a, b] [] p4] X.env = (false, eval (.Call (.Name "range" p3) [a, b] [] p4) X.env) :: starEach [] X.env := by rfl) (nb : starEach [a, b] X.env = (false, eval a X.env) :: starEach [b] X.env := by rfl) (nc : starEach [b] X.env = (false, eval b X.env) :: starEach [] X.env := by rfl) (hp : (backTo p4 (starEach [b] X.env)).any (·.1) = false := by rfl) :
    DE X F (.Call (.Name "list" p) [.Call (.Name "range" p3) [a, b] [] p4] [] pos) (wLR2 α β) := by
  refine ⟨fun bad σ ρ H q Q o w k => (pe_listRg hc hg hm (prg_2 hg2 hm2 pe_run pe_run nb nc hp) na).to (ha.go bad σ ρ H _ _ o w fun v d bad1 ρ1 H1 p1 w1 => ?_)⟩
  obtain ⟨m, rfl, w1⟩ := w1
  have e1 := (p1.va.read p1.st.ok).intE
  refine hb.go bad1 σ ρ1 H1 _ _ p1.st.ok w1 fun u d bad2 ρ2 H2 p2 w2 => ?_
  obtain ⟨n, rfl, ok, w2⟩ := w2
  refine ⟨m, n, e1, (p2.va.read p2.st.ok).intE, ok, fun p np => ?_⟩
  obtain ⟨bad3, p3⟩ := (res_lst (K := F.K) np (rs_range (m := m) (n := n))).po p2.st.ok
  exact k _ _ bad3 ρ2 _ ((p1.st.trans p2.st).po p3) w2
end
end VL

namespace VL
open PySem PySem.Spec PyProof.Rows L2
/-! ### rules by name -/
def CmR (X : Cx) (F : Df) (op : CmpOp) (f : D → D → (D → Prop) → Prop) : Prop := ∃ r, OpR X (compareOp op) r ∧ V2 F.K r f
def BiR (X : Cx) (F : Df) (op : Operator) (f : D → D → (D → Prop) → Prop) : Prop := ∃ r, OpR X (binaryOp op) r ∧ V2 F.K r f
section
variable {X : Cx} {F : Df} {e a b c o : Expr} {pos p p1 p2 apos cpos : Pos} {α β γ : WE} {es : List Expr} {τ : WA} {θ : WTs} {op op2 : CmpOp} {bop : Operator} {f g : D → D → (D → Prop) → Prop}
theorem bi_add (hK : X.K = F.K) : BiR X F .Add opAdd := ⟨_, op_add.or (op_add_str.or (op_cat.or op_catA)), by rw [hK]; exact v2_add⟩
theorem bi_sub : BiR X F .Sub opSub := ⟨_, op_sub, v2_sub⟩
theorem bi_mul : BiR X F .Mult opMul := ⟨_, op_mul.or op_rep, v2_mul⟩
theorem bi_fdiv : BiR X F .FloorDiv opFDiv := ⟨_, op_fdivW, v2_fdiv⟩
theorem bi_mod : BiR X F .Mod opMod := ⟨_, op_mod, v2_mod⟩
theorem bi_pow : BiR X F .Pow opPow := ⟨_, op_pow, v2_pow⟩
theorem cm_lt : CmR X F .Lt opLt := ⟨_, op_lt.or op_lt_str, v2_lt⟩
theorem cm_le : CmR X F .LtE opLe := ⟨_, op_le.or op_le_str, v2_le⟩
theorem cm_gt : CmR X F .Gt opGt := ⟨_, op_gt.or op_gt_str, v2_gt⟩
theorem cm_ge : CmR X F .GtE opGe := ⟨_, op_ge.or op_ge_str, v2_ge⟩
theorem cm_eq (hu : X.A.units + 64 < cLine) (hK : X.K = F.K) : CmR X F .Eq opEq := ⟨_, op_eqD hu, by rw [hK]; exact v2_eq⟩
theorem cm_ne (hu : X.A.units + 64 < cLine) (hK : X.K = F.K) : CmR X F .NotEq opNe := ⟨_, op_neD hu, by rw [hK]; exact v2_ne⟩
theorem cm_in (hK : X.K = F.K) : CmR X F .In (opIn false) := ⟨_, op_inA, by rw [hK]; exact v2_in⟩
theorem cm_notIn (hK : X.K = F.K) : CmR X F .NotIn (opIn true) := ⟨_, op_notInA, by rw [hK]; exact v2_in⟩
theorem cm_is : CmR X F .Is (opIsN false) := ⟨_, op_isN, v2_isNone⟩
theorem cm_isNot : CmR X F .IsNot (opIsN true) := ⟨_, op_notN, v2_isNotNone⟩
theorem de_bi (h : BiR X F bop f) (ha : DE X F a α) (hb : DE X F b β) : DE X F (.BinOp a bop b pos) (wBin f α β) := by obtain ⟨r, h1, h2⟩ := h; exact de_op h1 h2 ha hb
theorem de_cm (h : CmR X F op f) (ha : DE X F a α) (hb : DE X F b β) (hm : behindInMarks op b = false := by first | exact nomark _ | rfl) : DE X F (.Compare a [op] [b] pos) (wBin f α β) := by obtain ⟨r, h1, h2⟩ := h; exact de_cmp h1 h2 ha hb hm
theorem dt_cm (h : CmR X F op f) (ha : DE X F a α) (hb : DE X F b β) (hm : behindInMarks op b = false := by first | exact nomark _ | rfl) : DT X F (.Compare a [op] [b] pos) (wVal (wBin f α β)) := by obtain ⟨r, h1, h2⟩ := h; exact dt_cmp h1 h2 ha hb hm
theorem de_ch (h : CmR X F op f) (h' : CmR X F op2 g) (ha : DE X F a α) (hb : DE X F b β) (hc : DE X F c γ) (hm : lastMarks [op, op2] [b, c] = false := by with_unfolding_all rfl) : DE X F (.Compare a [op, op2] [b, c] pos) (wChain f g α β γ) := by
  obtain ⟨r, h1, h2⟩ := h; obtain ⟨r', h3, h4⟩ := h'; exact de_chain h1 h3 h2 h4 ha hb hc hm
theorem dt_ch (h : CmR X F op f) (h' : CmR X F op2 g) (ha : DE X F a α) (hb : DE X F b β) (hc : DE X F c γ) (hm : lastMarks [op, op2] [b, c] = false := by with_unfolding_all rfl) : DT X F (.Compare a [op, op2] [b, c] pos) (wVal (wChain f g α β γ)) := by
  obtain ⟨r, h1, h2⟩ := h; obtain ⟨r', h3, h4⟩ := h'; exact dt_chain h1 h3 h2 h4 ha hb hc hm
theorem r_ix (hK : X.K = F.K) (ha : DE X F a α) (hb : DE X F b β) (hs : PlainIx b := by intro _ _; rfl) : DE X F (.Subscript a b pos) (wBin opIx α β) := de_ix ix_seq (by rw [hK]; exact v2_ix) ha hb hs
/-! calls of built-in functions -/
def f1 (f : D → (D → Prop) → Prop) : List D → (D → Prop) → Prop := fun ds q => match ds with | [d] => f d q | _ => False
def f2 (f : D → D → (D → Prop) → Prop) : List D → (D → Prop) → Prop := fun ds q => match ds with | [d, e] => f d e q | _ => False
theorem b_sum : bootBuiltins "sum" = some (.builtin "sum") := by decide +kernel
theorem b_all : bootBuiltins "all" = some (.builtin "all") := by decide +kernel
theorem b_any : bootBuiltins "any" = some (.builtin "any") := by decide +kernel
theorem b_len : bootBuiltins "len" = some (.builtin "len") := by decide +kernel
theorem b_max : bootBuiltins "max" = some (.builtin "max") := by decide +kernel
theorem b_min : bootBuiltins "min" = some (.builtin "min") := by decide +kernel
theorem b_abs : bootBuiltins "abs" = some (.builtin "abs") := by decide +kernel
theorem b_divmod : bootBuiltins "divmod" = some (.builtin "divmod") := by decide +kernel
theorem b_sorted : bootBuiltins "sorted" = some (.builtin "sorted") := by decide +kernel
theorem b_int : bootBuiltins "int" = some (.type "int") := by decide +kernel
theorem b_list : bootBuiltins "list" = some (.type "list") := by decide +kernel
theorem b_tuple : bootBuiltins "tuple" = some (.type "tuple") := by decide +kernel
theorem r_len (hK : X.K = F.K) (hm : X.mg "len" = none) (hg : Gl X "len") (ha : DA X F [a] τ) (he : starEach [a] X.env = (false, eval a X.env) :: starEach [] X.env := by rfl) : DE X F (.Call (.Name "len" p) [a] [] pos) (wCallN (f1 opLen) τ) := de_callB call_lenA (by rw [hK]; exact vn1 v1_len) hg hm b_len ha (by decide) (by decide) he rfl
theorem r_all (hc : X.calm = true) (hK : X.K = F.K) (hm : X.mg "all" = none) (hg : Gl X "all") (ha : DA X F [a] τ) (he : starEach [a] X.env = (false, eval a X.env) :: starEach [] X.env := by rfl) : DE X F (.Call (.Name "all" p) [a] [] pos) (wCallN (f1 opAll) τ) := de_callB (cr_all hc) (by rw [hK]; exact vn1 v1_all) hg hm b_all ha (by decide) (by decide) he rfl
theorem r_any (hc : X.calm = true) (hK : X.K = F.K) (hm : X.mg "any" = none) (hg : Gl X "any") (ha : DA X F [a] τ) (he : starEach [a] X.env = (false, eval a X.env) :: starEach [] X.env := by rfl) : DE X F (.Call (.Name "any" p) [a] [] pos) (wCallN (f1 opAny) τ) := de_callB (cr_any hc) (by rw [hK]; exact vn1 v1_any) hg hm b_any ha (by decide) (by decide) he rfl
theorem r_sum (hc : X.calm = true) (hK : X.K = F.K) (hm : X.mg "sum" = none) (hg : Gl X "sum") (ha : DA X F [a] τ) (he : starEach [a] X.env = (false, eval a X.env) :: starEach [] X.env := by rfl) : DE X F (.Call (.Name "sum" p) [a] [] pos) (wCallN (f1 opSum) τ) := de_callB (cr_sum hc) (by rw [hK]; exact vn1 v1_sum) hg hm b_sum ha (by decide) (by decide) he rfl
theorem r_abs (hm : X.mg "abs" = none) (hg : Gl X "abs") (ha : DA X F [a] τ) (he : starEach [a] X.env = (false, eval a X.env) :: starEach [] X.env := by rfl) : DE X F (.Call (.Name "abs" p) [a] [] pos) (wCallN (f1 opAbs) τ) := de_callB call_abs (vn1 v1_abs) hg hm b_abs ha (by decide) (by decide) he rfl
theorem r_sorted (hK : X.K = F.K) (hm : X.mg "sorted" = none) (hg : Gl X "sorted") (ha : DA X F [a] τ) (he : starEach [a] X.env = (false, eval a X.env) :: starEach [] X.env := by rfl) : DE X F (.Call (.Name "sorted" p) [a] [] pos) (wCallN (f1 opSorted) τ) := de_callB call_sortedA (by rw [hK]; exact vn1 v1_sorted) hg hm b_sorted ha (by decide) (by decide) he rfl
theorem r_int (hm : X.mg "int" = none) (hg : Gl X "int") (ha : DA X F [a] τ) (he : starEach [a] X.env = (false, eval a X.env) :: starEach [] X.env := by rfl) : DE X F (.Call (.Name "int" p) [a] [] pos) (wCallN (f1 opInt) τ) := de_callTy call_int1 (vn1 v1_int) hg hm b_int ha (by decide) (by decide) he rfl
theorem r_list (hc : X.calm = true) (hK : X.K = F.K) (hm : X.mg "list" = none) (hg : Gl X "list") (ha : DA X F [a] τ) (he : starEach [a] X.env = (false, eval a X.env) :: starEach [] X.env := by rfl) : DE X F (.Call (.Name "list" p) [a] [] pos) (wCallN (f1 opList) τ) := de_callTy (call_list_of.or (call_listStr hc)) (by rw [hK]; exact vn1 v1_list) hg hm b_list ha (by decide) (by decide) he rfl
theorem r_tuple (hK : X.K = F.K) (hm : X.mg "tuple" = none) (hg : Gl X "tuple") (ha : DA X F [a] τ) (he : starEach [a] X.env = (false, eval a X.env) :: starEach [] X.env := by rfl) : DE X F (.Call (.Name "tuple" p) [a] [] pos) (wCallN (f1 opTuple) τ) := de_callTy call_tuple_of (by rw [hK]; exact vn1 v1_tuple) hg hm b_tuple ha (by decide) (by decide) he rfl
theorem r_max (hc : X.calm = true) (hm : X.mg "max" = none) (hg : Gl X "max") (ha : DA X F [a, b] τ) (he : starEach [a, b] X.env = (false, eval a X.env) :: starEach [b] X.env := by rfl) (hpl : (backTo pos (starEach [b] X.env)).any (·.1) = false := by rfl) : DE X F (.Call (.Name "max" p) [a, b] [] pos) (wCallN (f2 opMax2) τ) := de_callB (call_max2 hc) (vn2 v2_max2) hg hm b_max ha (by decide) (by decide) he hpl
theorem r_min (hc : X.calm = true) (hm : X.mg "min" = none) (hg : Gl X "min") (ha : DA X F [a, b] τ) (he : starEach [a, b] X.env = (false, eval a X.env) :: starEach [b] X.env := by rfl) (hpl : (backTo pos (starEach [b] X.env)).any (·.1) = false := by rfl) : DE X F (.Call (.Name "min" p) [a, b] [] pos) (wCallN (f2 opMin2) τ) := de_callB (call_min2 hc) (vn2 v2_min2) hg hm b_min ha (by decide) (by decide) he hpl
theorem r_divmod (hm : X.mg "divmod" = none) (hg : Gl X "divmod") (ha : DA X F [a, b] τ) (he : starEach [a, b] X.env = (false, eval a X.env) :: starEach [b] X.env := by rfl) (hpl : (backTo pos (starEach [b] X.env)).any (·.1) = false := by rfl) : DE X F (.Call (.Name "divmod" p) [a, b] [] pos) (wCallN (f2 opDivmod) τ) := de_callB call_divmod (vn2 v2_divmod) hg hm b_divmod ha (by decide) (by decide) he hpl
/-! methods -/
theorem r_join (hK : X.K = F.K) (ho : DE X F o α) (ha : DA X F [e] τ) (hbase : attributeBase o "join" X.env (eval o X.env) = eval o X.env := by rfl)
    (hfew : ((backTo cpos (starEach [e] X.env)).all (fun x => !x.1) && (backToKw cpos (keywordEach [] X.env)).all (fun x => x.1.isSome) && decide ([e].length + ([] : List Keyword).length + (if ([] : List Keyword).isEmpty then 0 else 1) < 30)) = true := by rfl)
    (hline : (apos.endLine == cpos.line) = true := by rfl) (hs : starEach [e] X.env = (false, eval e X.env) :: starEach [] X.env := by rfl) : DE X F (.Call (.Attribute o "join" apos) [e] [] cpos) (wMeth "str" opJoin α τ) :=
  de_meth PySem.F.plainAttrs_str PySem.F.slot_str_join PySem.F.type_str_join mt_join hK (by rw [hK]; exact vm_join) ho ha hbase hfew hline hs rfl
theorem r_sindex (hK : X.K = F.K) (ho : DE X F o α) (ha : DA X F [e] τ) (hbase : attributeBase o "index" X.env (eval o X.env) = eval o X.env := by rfl)
    (hfew : ((backTo cpos (starEach [e] X.env)).all (fun x => !x.1) && (backToKw cpos (keywordEach [] X.env)).all (fun x => x.1.isSome) && decide ([e].length + ([] : List Keyword).length + (if ([] : List Keyword).isEmpty then 0 else 1) < 30)) = true := by rfl)
    (hline : (apos.endLine == cpos.line) = true := by rfl) (hs : starEach [e] X.env = (false, eval e X.env) :: starEach [] X.env := by rfl) : DE X F (.Call (.Attribute o "index" apos) [e] [] cpos) (wMeth "str" opSIndex α τ) :=
  de_meth PySem.F.plainAttrs_str PySem.F.slot_str_index PySem.F.type_str_index mt_sindex hK vm_sindex ho ha hbase hfew hline hs rfl
section
variable {x : Str} {npos : Pos} {i : Nat}
theorem r_append (i : Nat) (hK : X.K = F.K) (ha : DA X F [e] τ) (hN : X.N[i]? = some x := by rfl) (hvis : Vis X.env.scope x := by first | exact Or.inl rfl | exact Or.inr (Or.inl rfl) | exact Or.inr (Or.inr rfl)) (hd : (x == ("__debug__" : Str)) = false := by decide) (hcd : (x == ("__classdict__" : Str)) = false := by decide)
    (hbase : attributeBase (.Name x npos) "append" X.env (eval (.Name x npos) X.env) = eval (.Name x npos) X.env := by rfl)
    (hfew : ((backTo cpos (starEach [e] X.env)).all (fun x => !x.1) && (backToKw cpos (keywordEach [] X.env)).all (fun x => x.1.isSome) && decide ([e].length + ([] : List Keyword).length + (if ([] : List Keyword).isEmpty then 0 else 1) < 30)) = true := by rfl)
    (hline : (apos.endLine == cpos.line) = true := by rfl) (hs : starEach [e] X.env = (false, eval e X.env) :: starEach [] X.env := by rfl) : DE X F (.Call (.Attribute (.Name x npos) "append" apos) [e] [] cpos) (wMut "list" i opAppend τ) :=
  de_mut PySem.F.plainAttrs_list PySem.F.slot_list_append PySem.F.type_list_append mt_append hK vu_append hN hvis ha hd hcd hbase hfew hline hs rfl
theorem r_pop (i : Nat) (hK : X.K = F.K) (ha : DA X F [e] τ) (hN : X.N[i]? = some x := by rfl) (hvis : Vis X.env.scope x := by first | exact Or.inl rfl | exact Or.inr (Or.inl rfl) | exact Or.inr (Or.inr rfl)) (hd : (x == ("__debug__" : Str)) = false := by decide) (hcd : (x == ("__classdict__" : Str)) = false := by decide)
    (hbase : attributeBase (.Name x npos) "pop" X.env (eval (.Name x npos) X.env) = eval (.Name x npos) X.env := by rfl)
    (hfew : ((backTo cpos (starEach [e] X.env)).all (fun x => !x.1) && (backToKw cpos (keywordEach [] X.env)).all (fun x => x.1.isSome) && decide ([e].length + ([] : List Keyword).length + (if ([] : List Keyword).isEmpty then 0 else 1) < 30)) = true := by rfl)
    (hline : (apos.endLine == cpos.line) = true := by rfl) (hs : starEach [e] X.env = (false, eval e X.env) :: starEach [] X.env := by rfl) : DE X F (.Call (.Attribute (.Name x npos) "pop" apos) [e] [] cpos) (wMut "list" i opPop τ) :=
  de_mut PySem.F.plainAttrs_list PySem.F.slot_list_pop PySem.F.type_list_pop mt_popA hK vu_pop hN hvis ha hd hcd hbase hfew hline hs rfl
theorem r_pop0 (i : Nat) (hK : X.K = F.K) (hN : X.N[i]? = some x := by rfl) (hvis : Vis X.env.scope x := by first | exact Or.inl rfl | exact Or.inr (Or.inl rfl) | exact Or.inr (Or.inr rfl)) (hd : (x == ("__debug__" : Str)) = false := by decide) (hcd : (x == ("__classdict__" : Str)) = false := by decide)
    (hbase : attributeBase (.Name x npos) "pop" X.env (eval (.Name x npos) X.env) = eval (.Name x npos) X.env := by rfl) (hline : (apos.endLine == cpos.line) = true := by rfl) : DE X F (.Call (.Attribute (.Name x npos) "pop" apos) [] [] cpos) (wMut0 "list" i opPop) :=
  de_mut0 PySem.F.plainAttrs_list PySem.F.slot_list_pop PySem.F.type_list_pop mt_popA hK vu_pop hN hvis hd hcd hbase hline
theorem r_extend (i : Nat) (hK : X.K = F.K) (ha : DE X F e α) (hN : X.N[i]? = some x := by rfl) (hvis : Vis X.env.scope x := by first | exact Or.inl rfl | exact Or.inr (Or.inl rfl) | exact Or.inr (Or.inr rfl)) (hd : (x == ("__debug__" : Str)) = false := by decide) (hcd : (x == ("__classdict__" : Str)) = false := by decide)
    (hbase : attributeBase (.Name x npos) "extend" X.env (eval (.Name x npos) X.env) = eval (.Name x npos) X.env := by rfl)
    (hfew : ((backTo cpos (starEach [e] X.env)).all (fun x => !x.1) && (backToKw cpos (keywordEach [] X.env)).all (fun x => x.1.isSome) && decide ([e].length + ([] : List Keyword).length + (if ([] : List Keyword).isEmpty then 0 else 1) < 30)) = true := by rfl)
    (hline : (apos.endLine == cpos.line) = true := by rfl) (hs : starEach [e] X.env = (false, eval e X.env) :: starEach [] X.env := by rfl) : DE X F (.Call (.Attribute (.Name x npos) "extend" apos) [e] [] cpos) (wExt i α) :=
  de_extend hK ha hN hvis hd hcd hbase hfew hline hs rfl
end
/-! ### the module's own: constants, defs -/
/-- a module's constant, the data d -/
def GC (K : PySem.W.Frag) (mg : Str → Option Value) (x : Str) (d : D) : Prop := ∃ u v, mg x = some u ∧ RelV v u ∧ d.imm = true ∧ ∀ H M, R K H M v d
theorem de_gc {x : Str} {d : D} (h : GC X.K X.mg x d) (hK : X.K = F.K) (hg : Gl X x) (hd : (x == ("__debug__" : Str)) = false := by decide) : DE X F (.Name x pos) (wC d) := by
  obtain ⟨u, v, h1, h2, h3, h4⟩ := h
  exact de_glob hg h1 h2 h3 (by rw [← hK]; exact h4) hd
/-- a def stands in the module -/
def DefAt (K : PySem.W.Frag) (mg : Str → Option Value) (x : Str) (st : Stmt) (ps : List Str) : Prop := ∃ f fd, Fun K x x st f fd ∧ mg x = some (.ref f) ∧ Binds K fd ps []
/-- a def keeps its promise -/
def Ck (P : Program) (w : World) (K : PySem.W.Frag) (mg : Str → Option Value) (base : Heap) (k : Nat) (x : Str) (st : Stmt) (ps : List Str) (S : Spec) : Prop :=
  ∃ f fd, FnOk P w K mg base CX0 k f fd ps (spV K S) ∧ mg x = some (.ref f) ∧ Fun K x x st f fd ∧ Binds K fd ps []
theorem de_ck {k : Nat} {x : Str} {st : Stmt} {ps : List Str} {S : Spec} (h : Ck X.prog X.w X.K X.mg X.base k x st ps S) (hr : Room k X.A) (hK : X.K = F.K) (hg : Gl X x) (ha : DA X F (e :: es) τ)
    (hdb : (x == ("__debug__" : Str)) = false := by decide) (he : starEach (e :: es) X.env = (false, eval e X.env) :: starEach es X.env := by rfl) (hpl : (backTo pos (starEach es X.env)).any (·.1) = false := by rfl) :
    DE X F (.Call (.Name x p) (e :: es) [] pos) (wCall S τ) := by
  obtain ⟨f, fd, h1, h2, h3, h4⟩ := h
  rw [hK] at h1
  exact de_call (F := F) (by rw [hK]; exact h1) hr hg h2 h3.kp h4 ha hdb he hpl
theorem relV_non : RelV .non .none := rfl
theorem vals_pm : ∀ (pm : List Nat) {vs : List V} {us : List Value}, Vals vs us → Vals (pmL .non pm vs) (pmL .none pm us)
  | [], _, _, _ => .nil
  | i :: pm, vs, us, r => by
    refine .cons ?_ (vals_pm pm r)
    show RelV (vs.getD i .non) (us.getD i .none)
    by_cases h : i < vs.length
    · obtain ⟨u, h1, h2⟩ := r.get (List.getElem?_eq_getElem h)
      rw [List.getD_eq_getElem?_getD, List.getD_eq_getElem?_getD, h1, List.getElem?_eq_getElem h]; exact h2
    · rw [List.getD_eq_getElem?_getD, List.getD_eq_getElem?_getD, List.getElem?_eq_none (Nat.le_of_not_lt h), List.getElem?_eq_none (by rw [← r.length]; exact Nat.le_of_not_lt h)]; exact relV_non
theorem kb_mk {K : PySem.W.Frag} {x qual : Str} {st : Stmt} {fa : Addr} {fd : FuncData} {ps ks : List Str} {pm : List Nat} (h : Fun K x qual st fa fd)
    (hb : ∀ (kV doc pm' : Value) (an : Option Addr) (cdv ct : Value) (ws : List Value), ws.length = ks.length → bindArgs (PySem.W.fnOf x qual (defArgs st) (defBody st) (defScope st) .none kV doc pm' an cdv ct) ⟨[], ks.zip ws⟩ = pure (ps.zip (pmL .none pm ws))) :
    KBn K fd ps 0 ks (fun _ ws => pmL .none pm ws) (fun _ zs => pmL .non pm zs) := by
  obtain ⟨oc, od, kV, doc, pm', an, cdv, ct, osl, rfl, lk, hcd⟩ := h.ex
  exact ⟨fun s us ws _ hu hw => by rw [List.eq_nil_of_length_eq_zero hu]; exact .of_eq (hb kV doc pm' an cdv ct ws hw), fun _ r => vals_pm pm r⟩
theorem de_ckK {k : Nat} {x : Str} {st : Stmt} {ps ks : List Str} {S : Spec} {kws : List Keyword} (pm : List Nat) (h : Ck X.prog X.w X.K X.mg X.base k x st ps S) (hr : Room k X.A) (hK : X.K = F.K) (hg : Gl X x) (ha : DK X F kws τ)
    (hb : ∀ (kV doc pm' : Value) (an : Option Addr) (cdv ct : Value) (ws : List Value), ws.length = ks.length → bindArgs (PySem.W.fnOf x x (defArgs st) (defBody st) (defScope st) .none kV doc pm' an cdv ct) ⟨[], ks.zip ws⟩ = pure (ps.zip (pmL .none pm ws)))
    (hpm : pm.all (fun j => decide (j < pm.length)) = true := by rfl) (hnd : nodupB pm = true := by rfl) (hkl : ks.length = pm.length := by rfl) (hall : (backToKw pos (keywordEach kws X.env)).all (·.1.isSome) = true := by rfl) (hks : (backToKw pos (keywordEach kws X.env)).filterMap (·.1) = ks := by rfl)
    (hdb : (x == ("__debug__" : Str)) = false := by decide) (hpl : ((backTo pos (starEach [] X.env)).any (·.1) || (backToKw pos (keywordEach kws X.env)).any (·.1.isNone)) = false := by rfl) :
    DE X F (.Call (.Name x p) [] kws pos) (wCallK S pm τ) := by
  obtain ⟨f, fd, h1, h2, h3, h4⟩ := h
  exact de_callK (F := F) (by rw [hK] at h1 ⊢; exact h1) hr hg h2 h3.kp (kb_mk h3 hb) ha hpm hnd hkl hall hks hdb hpl
end
theorem units_of {k : Nat} {A : Around} (h : Room k A) : A.units + 64 < cLine := by have := h.un; omega
section
variable {P : Program} {w : World} {K : PySem.W.Frag} {mg : Str → Option Value} {base : Heap}
/-- THE RULE for a def of the module -/
theorem ck_mk {x : Str} {st : Stmt} {N ps : List Str} {k n : Nat} {S : Spec} {wb : WS} (h : DefAt K mg x st ps) (sc : FnScope N ps (defScope st)) (hps : ps.length = n) (hN : n ≤ N.length) (hlen : ∀ ds q, S ds q → ds.length = n)
    (hbody : ∀ (H0 : Hp) (pa : List (Option Addr)) (cdv : Value) (A : Around) (outer : List Env) (s : Shared) (H : Hp) (E : XK) (f : Addr), pa.length = n → Room k (A.deeper (envOfC x (defScope st) s.heap.objs.size f cdv)) → DS (cxOf CX0 P w K mg base N x (defScope st) f cdv A outer s H E).nox ⟨K, H0, pa⟩ (defBody st) wb)
    (hvc : ∀ ds q, S ds q → wb { nx := fun ρ => q .non (finA ds ρ), rt := fun d ρ => q d (finA ds ρ) } (env0 N.length ds)) : Ck P w K mg base (k + 1) x st ps S := by
  obtain ⟨f, fd, F, hm, hb⟩ := h
  refine ⟨f, fd, fnok F sc hps hN hlen (fun X Fd cdv A outer s H E hX hK hpa hr => ?_) hvc, hm, F, hb⟩
  obtain ⟨K', H0, pa⟩ := Fd
  subst hX
  cases hK
  exact hbody H0 pa cdv A outer s H E f hpa hr
end
end VL

namespace VL
open PySem PySem.Spec PyProof.Rows L2
/-! ### what the top has written -/
section
variable {K : PySem.W.Frag} {mg : Str → Option Value} {h : Heap} {x : Str}
theorem def_mk {st : Stmt} {ps : List Str} {f : Addr} {oc kV doc pm cdv ct : Value} {od an : Option Addr} {osl : Array (Option Value)} (X : K.In h) (G : h.Ns mainGlobals mg) (a : PySem.W.nsIn K mainGlobals x = some (some (.ref f)))
    (l : K.lookup f = some ⟨oc, od, .func (PySem.W.fnOf x x (defArgs st) (defBody st) (defScope st) .none kV doc pm an cdv ct), osl⟩) (c : PySem.W.codeIn K cdv x = true) (k : PySem.W.keepIn K (.ref f) = true)
    (b : ∀ (kV doc pm : Value) (an : Option Addr) (cdv ct : Value) (us : List Value), us.length = ps.length → bindArgs (PySem.W.fnOf x x (defArgs st) (defBody st) (defScope st) .none kV doc pm an cdv ct) ⟨us, []⟩ = pure (ps.zip us)) : DefAt K mg x st ps :=
  ⟨f, _, fun_mk l c k, PySem.W.mg_of X G a, (fun_mk l c k).binds b⟩
theorem gc_str {s : Str} {t : Tok} {l : List Nat} (X : K.In h) (G : h.Ns mainGlobals mg) (a : PySem.W.nsIn K mainGlobals x = some (some (.str s t))) (e : s = mkS l) : GC K mg x (.str l) := by
  subst e; exact ⟨_, .str (mkS l), PySem.W.mg_of X G a, ⟨t, rfl⟩, rfl, fun _ _ => .str l⟩
theorem gc_int {i : Int} {t : Tok} (X : K.In h) (G : h.Ns mainGlobals mg) (a : PySem.W.nsIn K mainGlobals x = some (some (.int i t))) : GC K mg x (.int i) := ⟨_, .int i, PySem.W.mg_of X G a, ⟨t, rfl⟩, rfl, fun _ _ => .int i⟩
/-- items of a written tuple -/
def itemV : Value → Option (V × D)
  | .int i _ => some (.int i, .int i)
  | .str s _ => some (.str s, .str s.cps.toList)
  | .bool b => some (.bl b, .bl b)
  | .none => some (.non, .non)
  | _ => none
def itemsV : List Value → Option (List (V × D))
  | [] => some []
  | u :: us => match itemV u, itemsV us with
    | some p, some ps => some (p :: ps)
    | _, _ => none
theorem itemV_ok {u : Value} {p : V × D} (e : itemV u = some p) : RelV p.1 u ∧ ∀ H M, R K H M p.1 p.2 := by
  cases u <;> cases e
  · exact ⟨rfl, fun _ _ => .non⟩
  · exact ⟨rfl, fun _ _ => .bl _⟩
  · exact ⟨⟨_, rfl⟩, fun _ _ => .int _⟩
  · rename_i s t; exact ⟨⟨_, rfl⟩, fun _ _ => by have := R.str (K := K) (H := ‹_›) (M := ‹_›) s.cps.toList; rwa [mkS_cps] at this⟩
theorem itemsV_ok : ∀ {us : List Value} {ps : List (V × D)}, itemsV us = some ps → Vals (ps.map (·.1)) us ∧ ∀ H M, Rs K H M (ps.map (·.1)) (ps.map (·.2))
  | [], _, e => by cases e; exact ⟨.nil, fun _ _ => .nil⟩
  | u :: us, ps, e => by
    unfold itemsV at e
    split at e
    · rename_i p qs e1 e2
      cases e
      obtain ⟨h1, h2⟩ := itemV_ok (K := K) e1
      obtain ⟨h3, h4⟩ := itemsV_ok (us := us) e2
      exact ⟨.cons h1 h3, fun H M => .cons (h2 H M) (h4 H M)⟩
    · cases e
theorem gc_tup {p : Addr} {o : Obj} {its : Array Value} {n : Nat} {ps : List (V × D)} {ds : List D} (X : K.In h) (G : h.Ns mainGlobals mg) (a : PySem.W.nsIn K mainGlobals x = some (some (.ref p))) (l : K.lookup p = some o) (c : o.cls = .type "tuple") (d : o.data = .seq its n) (z : its.size ≤ sizeLine)
    (e : itemsV its.toList = some ps) (e2 : ps.map (·.2) = ds) (fx : fixB ds = true) : GC K mg x (.tup ds) := by
  subst e2
  obtain ⟨h1, h2⟩ := itemsV_ok (K := K) e
  exact ⟨_, .ref p, PySem.W.mg_of X G a, rfl, rfl, fun H M => .tup (.inr ⟨fun H' => .inr ⟨o, its, n, l, c, d, z, h1⟩, fx⟩) (h2 H M).1 (h2 H M).2⟩
theorem no_mk (X : K.In h) (G : h.Ns mainGlobals mg) (a : PySem.W.nsIn K mainGlobals x = some none) : mg x = none := PySem.W.mg_none_of X G a
end
section
variable {K : PySem.W.Frag} {mg : Str → Option Value} {h : Heap} {x : Str} {Z : Prop}
theorem st_def {st : Stmt} {ps : List Str} {f : Addr} {oc kV doc pm cdv ct : Value} {od an : Option Addr} {osl : Array (Option Value)} (X : K.In h) (G : h.Ns mainGlobals mg) (a : PySem.W.nsIn K mainGlobals x = some (some (.ref f)))
    (l : K.lookup f = some ⟨oc, od, .func (PySem.W.fnOf x x (defArgs st) (defBody st) (defScope st) .none kV doc pm an cdv ct), osl⟩) (c : PySem.W.codeIn K cdv x = true) (k : PySem.W.keepIn K (.ref f) = true)
    (b : ∀ (kV doc pm : Value) (an : Option Addr) (cdv ct : Value) (us : List Value), us.length = ps.length → bindArgs (PySem.W.fnOf x x (defArgs st) (defBody st) (defScope st) .none kV doc pm an cdv ct) ⟨us, []⟩ = pure (ps.zip us)) (z : DefAt K mg x st ps → Z) : Z := z (def_mk X G a l c k b)
theorem st_str {s : Str} {t : Tok} (l : List Nat) (X : K.In h) (G : h.Ns mainGlobals mg) (a : PySem.W.nsIn K mainGlobals x = some (some (.str s t))) (e : s = mkS l) (z : GC K mg x (.str l) → Z) : Z := z (gc_str X G a e)
theorem st_int {t : Tok} (i : Int) (X : K.In h) (G : h.Ns mainGlobals mg) (a : PySem.W.nsIn K mainGlobals x = some (some (.int i t))) (z : GC K mg x (.int i) → Z) : Z := z (gc_int X G a)
theorem st_tup {p : Addr} {o : Obj} {its : Array Value} {n : Nat} {ps : List (V × D)} (ds : List D) (X : K.In h) (G : h.Ns mainGlobals mg) (a : PySem.W.nsIn K mainGlobals x = some (some (.ref p))) (l : K.lookup p = some o) (c : o.cls = .type "tuple") (d : o.data = .seq its n) (y : its.size ≤ sizeLine)
    (e : itemsV its.toList = some ps) (e2 : ps.map (·.2) = ds) (z : GC K mg x (.tup ds) → Z) (fx : fixB ds = true := by decide) : Z := z (gc_tup X G a l c d y e e2 fx)
theorem st_no (X : K.In h) (G : h.Ns mainGlobals mg) (a : PySem.W.nsIn K mainGlobals x = some none) (z : mg x = none → Z) : Z := z (no_mk X G a)
end
/-! ### the law's own promise -/
def S_law : Spec := fun ds q => ∃ ns : List Int, ds = [.seq .froz (ns.map D.int)] ∧ ns.length ≤ 63 ∧ ∀ ds', q (.bl true) ds'
theorem law_sp {K : PySem.W.Frag} {H : Hp} {a : Addr} {ns : List Int} (hl : ns.length ≤ 63) (hS : SqL K H a (ns.map V.int)) : spV K S_law [.ref a] H (fun v _ => v = .bl true) fun _ _ _ => False := by
  refine ⟨fun _ => False, [.seq .froz (ns.map D.int)], fun d _ => d = .bl true, ⟨rfl, fun i v d h1 h2 => ?_, fun i b d _ h2 h3 => ?_, fun i j b d d' _ _ h2 _ h3 => ?_, fun _ h => h.elim⟩, ⟨ns, rfl, hl, fun _ => rfl⟩, fun v d ds' H' c e => ?_⟩
  · cases i with
    | zero =>
      cases h1; cases h2
      refine .inl ⟨rfl, .seq ?_ (by simp) rs_ints.2⟩
      rcases hS with h | h
      · exact .inl ⟨h, fun z => z⟩
      · exact .inr fun H' => .inr h
    | succ i => simp at h1
  · cases i with
    | zero => cases h2; cases h3
    | succ i => simp at h2
  · cases i with
    | zero => cases h2; cases h3
    | succ i => simp at h2
  · subst e
    rcases c.val with ⟨_, r⟩ | ⟨t, _⟩
    · exact r.blI
    · cases t
theorem law_end {P : Program} {w : World} {K : PySem.W.Frag} {mg : Str → Option Value} {fa : Addr} {k : Nat} {st : Stmt} (hfa : mg "law" = some (.ref fa)) (hd : DefAt K mg "law" st ["script"])
    (hb : ∀ (kV doc pm : Value) (an : Option Addr) (cdv ct v : Value), bindArgs (PySem.W.fnOf "law" "law" (defArgs st) (defBody st) (defScope st) .none kV doc pm an cdv ct) ⟨[v], []⟩ = pure [(("script" : Str), v)])
    (h : ∀ base : Heap, Ck P w K mg base k "law" st ["script"] S_law) : ∃ fd : FuncData, (∀ (s : Shared) (v : Value), BindsTo s fd ⟨[v], []⟩ [("script", v)]) ∧ ∀ base : Heap, K.In base → base.Ns mainGlobals mg → FnOk P w K mg base CX0 k fa fd ["script"] (spV K S_law) := by
  obtain ⟨f, fd, F, hm, _⟩ := hd
  have e := hfa.symm.trans hm
  cases e
  refine ⟨fd, fun s v => ?_, fun base _ _ => ?_⟩
  · obtain ⟨oc, od, kV, doc, pm, an, cdv, ct, osl, rfl, lk, hcd⟩ := F.ex
    exact .of_eq (hb kV doc pm an cdv ct v)
  · obtain ⟨f', fd', h1, h2, h3, _⟩ := h base
    have e := hm.symm.trans h2
    cases e
    obtain ⟨oc, od, kV, doc, pm, an, cdv, ct, osl, rfl, lk, hcd⟩ := F.ex
    obtain ⟨oc', od', kV', doc', pm', an', cdv', ct', osl', rfl, lk', hcd'⟩ := h3.ex
    have e := lk.symm.trans lk'
    cases e
    exact h1
end VL

namespace VL
open PySem PySem.Spec PyProof.Rows L2
/-! ### x = y, of local names: a container goes over -/
section
variable {K : PySem.W.Frag} {H0 H : Hp} {pa : List (Option Addr)} {σ : L2.St} {bad : Addr → Prop} {ρ : VEnv} {d : D} {j : Nat} {a : Addr}
theorem Ok.lose (o : Ok K H0 pa bad σ ρ H) (f : Fre pa j) (hd : ρ[j]? = some (some d)) (hb : d.brw = true) (hs : σ[j]? = some (some (.ref a))) : Ok K H0 pa (fun b => bad b ∨ b = a) σ (ρ.set j none) H := by
  have hO : OwnAt σ ρ j a := ⟨hs, d, hd, hb⟩
  have own : ∀ i c, OwnAt σ (ρ.set j none) i c ↔ i ≠ j ∧ OwnAt σ ρ i c := fun i c => by
    constructor
    · rintro ⟨h1, e, h2, h3⟩
      rcases get_set_some h2 with ⟨_, h, _⟩ | ⟨hj, h⟩
      · cases h
      · exact ⟨hj, h1, e, h, h3⟩
    · rintro ⟨hj, h1, e, h2, h3⟩
      exact ⟨h1, e, by rw [List.getElem?_set_ne (Ne.symm hj)]; exact h2, h3⟩
  have mm : ∀ b, Mm (fun b => bad b ∨ b = a) σ (ρ.set j none) b → Mm bad σ ρ b := fun b m => by
    rcases m with (m | rfl) | ⟨i, h⟩
    · exact .inl m
    · exact .inr ⟨j, hO⟩
    · exact .inr ⟨i, ((own i b).mp h).2⟩
  have hne : H a ≠ none := o.mdom (.inr ⟨j, hO⟩)
  refine ⟨by rw [List.length_set]; exact o.len, fun i e he => ?_, fun i l c h1 h2 => o.inj i l c ((own i c).mp h1).2 ((own l c).mp h2).2, fun i c h => o.new i c ((own i c).mp h).2, fun i c h => (own i c).mpr ⟨?_, o.par i c h⟩, o.fr, fun c ⟨i, h⟩ z => ?_, fun b z => ⟨(o.dom b z).1, fun q => ?_⟩⟩
  · rcases get_set_some he with ⟨_, h, _⟩ | ⟨hj, h⟩
    · cases h
    · obtain ⟨u, e1, s⟩ := o.sl i e h
      exact ⟨u, e1, s.mono (fun _ _ _ => rfl) (fun _ _ h _ => h) fun b m => .inl (mm b m)⟩
  · rintro rfl; exact f c h
  · obtain ⟨hj, h⟩ := (own i c).mp h
    rcases z with z | rfl
    · exact o.ob c ⟨i, h⟩ z
    · exact hj (o.inj i j c h hO)
  · rcases q with q | rfl
    · exact (o.dom b z).2 q
    · exact hne z
end
def wSetV (i j : Nat) : WS := fun E ρ => ∃ d, ρ[j]? = some (some d) ∧ i < ρ.length ∧ if d.brw = true then i ≠ j ∧ d.kd = .own ∧ E.nx ((ρ.set j none).set i (some d)) else E.nx (ρ.set i (some d))
section
variable {X : Cx} {F : Df} {pos npos : Pos} {τ : WA}
theorem d1_setv {i j : Nat} {x y : Str} {px py : Pos} (hp : F.pa.length ≤ i) (hp2 : F.pa.length ≤ j) (hN : X.N.Nodup) (hi : X.N[i]? = some x := by rfl) (hj : X.N[j]? = some y := by rfl) (hx : Loc X.env.scope x := by first | exact Or.inl rfl | exact Or.inr rfl) (hv : Vis X.env.scope y := by first | exact Or.inl rfl | exact Or.inr (Or.inl rfl) | exact Or.inr (Or.inr rfl))
    (hd : (y == ("__debug__" : Str)) = false := by decide) (hcd : (y == ("__classdict__" : Str)) = false := by decide) (hs : swapsWith (.Name y py) (some (.Name x px)) pos.line X.env = pure false := by rfl)
    (hf : X.fn x = true ∨ X.env.scope.names.lookup x = some .local := by first | exact .inl rfl | exact .inr rfl | assumption) : D1 X F (.Assign [.Name x px] (.Name y py) pos) (wSetV i j) := by
  refine ⟨fun bad σ ρ H E D o w kn kr kb kc => (ps_set hN hi hx (pe_var hj hv hd hcd) hs hf).to ?_⟩
  obtain ⟨d, ed, hl, w⟩ := w
  obtain ⟨v, ev, s⟩ := o.sl j d ed
  refine ⟨v, ev, ?_⟩
  rcases s with ⟨b, r⟩ | ⟨b, a, rfl, r⟩
  · rw [if_neg (by rw [b]; exact Bool.false_ne_true)] at w
    have o2 := o.put (.of hp) hl r.imm r
    exact kn _ _ H ((Stp.refl o).put (bad3 := bad) (fun _ h => h) (fun a _ b => by rw [imm_brw r.imm] at b; cases b) (fun z => by have := r.imm; unfold VL.D.imm at this; rw [z] at this; cases this) o2) w
  · rw [if_pos b] at w
    obtain ⟨hij, hk, w⟩ := w
    have hO : OwnAt σ ρ j a := ⟨ev, d, ed, b⟩
    have h0 : F.H0 a = none := by
      rcases o.new j a hO with z | z
      · rw [List.getElem?_eq_none hp2] at z; cases z
      · exact z.1
    have o1 := o.lose (.of hp2) ed b ev
    have lss : ∀ c, Mm (fun b => bad b ∨ b = a) σ (ρ.set j none) c → Mm bad σ ρ c := fun c m => by
      rcases m with (m | rfl) | ⟨i, h1, e, h2, h3⟩
      · exact .inl m
      · exact .inr ⟨j, hO⟩
      · rcases get_set_some h2 with ⟨_, h, _⟩ | ⟨hj, h⟩
        · cases h
        · exact .inr ⟨i, h1, e, h, h3⟩
    have o2 := o1.putT (.of hp) (by rw [List.length_set]; exact hl) (brw_imm b) (r.less lss) h0 (.inr rfl)
    have ed2 : d.to .own = d := by rw [← hk]; exact to_self
    rw [ed2] at o2
    have o3 : Ok F.K F.H0 F.pa bad (σ.set i (some (.ref a))) ((ρ.set j none).set i (some d)) H := o2.less fun c h => ⟨.inl h, fun e => by subst e; exact o.ob c ⟨j, hO⟩ h⟩
    refine kn _ _ H ⟨⟨o3, fun _ _ h _ => h, fun _ h => h, fun c ⟨l, h1, e, h2, h3⟩ => ?_⟩, fun l e h k => ?_⟩ w
    · rcases get_set_some h2 with ⟨rfl, h, _⟩ | ⟨hl, h⟩
      · rcases get_set_some h1 with ⟨_, h, _⟩ | ⟨hj, _⟩
        · cases h; exact .inl ⟨j, hO⟩
        · exact absurd rfl hj
      · rw [List.getElem?_set_ne (Ne.symm hl)] at h1
        rcases get_set_some h with ⟨_, h, _⟩ | ⟨hj, h⟩
        · cases h
        · exact .inl ⟨l, h1, e, h, h3⟩
    · rcases get_set_some h with ⟨rfl, h, _⟩ | ⟨hl, h⟩
      · cases h; rw [hk] at k; cases k
      · rcases get_set_some h with ⟨_, h, _⟩ | ⟨hj, h⟩
        · cases h
        · exact ⟨⟨e, h, k⟩, by rw [List.getElem?_set_ne (Ne.symm hl)]⟩
/-- xs[e], xs a local name: the content is read behind e -/
def wIxV (i : Nat) (β : WE) : WE := fun ρ q => (∃ d, ρ[i]? = some (some d)) ∧ β ρ fun y ρ2 => ∃ d, ρ2[i]? = some (some d) ∧ opIx d y fun r => q r ρ2
theorem r_ixv {b : Expr} {β : WE} (i : Nat) {x : Str} (hK : X.K = F.K) (hb : DE X F b β) (hN : X.N[i]? = some x := by rfl) (hv : Vis X.env.scope x := by first | exact Or.inl rfl | exact Or.inr (Or.inl rfl) | exact Or.inr (Or.inr rfl)) (hd : (x == ("__debug__" : Str)) = false := by decide) (hcd : (x == ("__classdict__" : Str)) = false := by decide)
    (hs : PlainIx b := by intro _ _; rfl) : DE X F (.Subscript (.Name x npos) b pos) (wIxV i β) := by
  refine ⟨fun bad σ ρ H q Q o w k => (pe_ix ix_seq (pe_var hN hv hd hcd) pe_run hs).to ?_⟩
  obtain ⟨⟨d0, e0⟩, w⟩ := w
  obtain ⟨v, ev, _⟩ := o.sl i d0 e0
  refine ⟨v, ev, hb.go bad σ ρ H _ _ o w fun y dy bad1 ρ1 H1 p1 w1 => ?_⟩
  obtain ⟨d, e1, w1⟩ := w1
  obtain ⟨v', ev', s⟩ := p1.st.ok.sl i d e1
  rw [ev] at ev'; cases ev'
  have rx : RVal F.K H1 (Mm bad1 σ ρ1) v d := by
    rcases s with ⟨_, r⟩ | ⟨b, a, rfl, r⟩
    · exact .inl ⟨r.imm, r⟩
    · exact .inr ⟨brw_imm b, a, rfl, r⟩
  rw [hK]
  refine v2_ix H1 _ v d y dy _ Q (fun b m => p1.st.ok.mdom m) rx (p1.va.read p1.st.ok) w1 fun v d H2 res qd => ?_
  obtain ⟨bad2, p2⟩ := res.po p1.st.ok
  exact k v d bad2 ρ1 H2 (p1.st.po p2) qd
end
end VL

namespace VL
open PySem PySem.Spec PyProof.Rows L2
/-! ### reading of terms, for simp -/
def asB : D → (Bool → Prop) → Prop
  | .bl k, p => p k
  | _, _ => False
def as2 : List D → (D → D → Prop) → Prop
  | [x, y], p => p x y
  | _, _ => False
def as3 : List D → (D → D → D → Prop) → Prop
  | [x, y, z], p => p x y z
  | _, _ => False
def asI : D → (Int → Prop) → Prop
  | .int i, p => p i
  | _, _ => False
@[simp] theorem asI_int {i : Int} {p : Int → Prop} : asI (.int i) p = p i := rfl
@[simp] theorem as2_eq {x y : D} {p : D → D → Prop} : as2 [x, y] p = p x y := rfl
@[simp] theorem as3_eq {x y z : D} {p : D → D → D → Prop} : as3 [x, y, z] p = p x y z := rfl
theorem as2_iff {o : Option (List D)} {p : D → D → Prop} : (∃ x y, o = some [x, y] ∧ p x y) = ∃ ds, o = some ds ∧ as2 ds p := propext ⟨fun ⟨x, y, e, h⟩ => ⟨_, e, h⟩, fun ⟨ds, e, h⟩ => by
  match ds, h with
  | [x, y], h => exact ⟨x, y, e, h⟩⟩
theorem asI2_iff {o : Option (List D)} {p : Int → Int → Prop} : (∃ x y, o = some [.int x, .int y] ∧ p x y) = ∃ ds, o = some ds ∧ as2 ds fun a b => asI a fun i => asI b fun j => p i j := propext ⟨fun ⟨x, y, e, h⟩ => ⟨_, e, h⟩, fun ⟨ds, e, h⟩ => by
  match ds, e, h with
  | [x, y], e, h =>
    cases x <;> first | exact h.elim | skip
    cases y <;> first | exact h.elim | exact ⟨_, _, e, h⟩⟩
theorem asI3_iff {o : Option (List D)} {p : Int → Int → Prop} : (∃ x y, o = some [.int x, .int y, .int (-1)] ∧ p x y) = ∃ ds, o = some ds ∧ as3 ds fun a b c => asI a fun i => asI b fun j => c = .int (-1) ∧ p i j := propext ⟨fun ⟨x, y, e, h⟩ => ⟨_, e, rfl, h⟩, fun ⟨ds, e, h⟩ => by
  match ds, e, h with
  | [x, y, z], e, h =>
    cases x <;> first | exact h.elim | skip
    cases y <;> first | exact h.elim | skip
    obtain ⟨e2, h⟩ := h
    subst e2
    exact ⟨_, _, e, h⟩⟩
@[simp] theorem asB_bl {k : Bool} {p : Bool → Prop} : asB (.bl k) p = p k := rfl
theorem asB_eq {x : D} {p : Bool → Prop} : (∃ k, x = .bl k ∧ p k) = asB x p := propext ⟨fun ⟨k, e, h⟩ => by subst e; exact h, fun h => by
  cases x <;> first | exact ⟨_, rfl, h⟩ | exact h.elim⟩
section
variable {i j n : Nat} {ρ : VEnv} {q : D → VEnv → Prop} {qb : Bool → VEnv → Prop} {qa : List Arg → VEnv → Prop} {qi : List D → Option (Nat × D) → VEnv → Prop} {qo : Option Int → VEnv → Prop} {qg : VEnv → Prop} {α β γ : WE} {θ η : WTs} {τ : WA} {ι κ : WI} {g : WG} {gs : WGs} {E : VEnd} {w w2 : WS} {lo hi st : WO} {S : Spec} {d x y : D} {ds es : List D} {k : Kd} {l l2 : List Nat} {c m : Int} {b b2 : Bool} {p : D → Prop} {T : TyT} {s : String}
@[simp] theorem x_var : wVar i ρ q = ∃ d, ρ[i]? = some (some d) ∧ q d ρ := rfl
@[simp] theorem x_c : wC d ρ q = q d ρ := rfl
@[simp] theorem x_un {f : D → (D → Prop) → Prop} : wUn f α ρ q = α ρ fun x ρ1 => f x fun d => q d ρ1 := rfl
@[simp] theorem x_bin {f : D → D → (D → Prop) → Prop} : wBin f α β ρ q = α ρ fun x ρ1 => β ρ1 fun y ρ2 => (x.brw = false ∨ ρ2 = ρ1) ∧ f x y fun d => q d ρ2 := rfl
@[simp] theorem x_ixv : wIxV i β ρ q = ((∃ d, ρ[i]? = some (some d)) ∧ β ρ fun y ρ2 => ∃ d, ρ2[i]? = some (some d) ∧ opIx d y fun r => q r ρ2) := rfl
@[simp] theorem x_chain {f g : D → D → (D → Prop) → Prop} : wChain f g α β γ ρ q = α ρ fun x ρ1 => β ρ1 fun y ρ2 => (x.brw = false ∨ ρ2 = ρ1) ∧ y.brw = false ∧ f x y fun d => asB d fun k => if k = true then γ ρ2 fun z ρ3 => g y z fun d => q d ρ3 else q (.bl false) ρ2 := by unfold wChain; simp only [asB_eq]
@[simp] theorem x_val : wVal α ρ qb = α ρ fun x ρ1 => asB x fun k => qb k ρ1 := by unfold wVal; simp only [asB_eq]
@[simp] theorem x_and : wAnd θ η ρ qb = θ ρ fun c ρ1 => if c = true then η ρ1 qb else qb false ρ1 := rfl
@[simp] theorem x_or : wOr θ η ρ qb = θ ρ fun c ρ1 => if c = true then qb true ρ1 else η ρ1 qb := rfl
@[simp] theorem x_not : wNot θ ρ qb = θ ρ fun c ρ1 => qb (!c) ρ1 := rfl
@[simp] theorem x_ifE : wIfE θ α β ρ q = θ ρ fun c ρ1 => if c = true then α ρ1 q else β ρ1 q := rfl
@[simp] theorem x_n : wN ρ qa = qa [] ρ := rfl
@[simp] theorem x_ae : wAE α τ ρ qa = α ρ fun x ρ1 => x.brw = false ∧ τ ρ1 fun as ρ2 => qa (.val x :: as) ρ2 := rfl
@[simp] theorem x_av : wAV i τ ρ qa = ((∃ d, ρ[i]? = some (some d)) ∧ τ ρ fun as ρ2 => qa (.slot i :: as) ρ2) := rfl
@[simp] theorem x_calln {f : List D → (D → Prop) → Prop} : wCallN f τ ρ q = τ ρ fun as ρ1 => ∃ ds, argsD ρ1 as = some ds ∧ f ds fun d => q d ρ1 := rfl
@[simp] theorem x_f1 {f : D → (D → Prop) → Prop} : f1 f [d] p = f d p := rfl
@[simp] theorem x_f2 {f : D → D → (D → Prop) → Prop} : f2 f [d, x] p = f d x p := rfl
@[simp] theorem x_tup : wTup τ ρ q = τ ρ fun as ρ1 => ∃ ds, argsD ρ1 as = some ds ∧ ds.all (fun d => !d.brw) = true ∧ ds.length ≤ sizeLine ∧ q (.tup (ds.map (D.to .froz))) ρ1 := rfl
@[simp] theorem x_lst : wLst τ ρ q = τ ρ fun as ρ1 => ∃ ds, argsD ρ1 as = some ds ∧ ds.all (fun d => !d.brw) = true ∧ ds.length ≤ sizeLine ∧ q (.seq .tmp (ds.map (D.to .froz))) ρ1 := rfl
@[simp] theorem x_meth {f : D → List D → (D → Prop) → Prop} : wMeth s f α τ ρ q = α ρ fun x ρ1 => tyD s x ∧ τ ρ1 fun as ρ2 => (x.brw = false ∨ ρ2 = ρ1) ∧ ∃ ds, argsD ρ2 as = some ds ∧ f x ds fun d => q d ρ2 := rfl
@[simp] theorem x_meth0 {f : D → List D → (D → Prop) → Prop} : wMeth0 s f α ρ q = α ρ fun x ρ1 => tyD s x ∧ f x [] fun d => q d ρ1 := rfl
@[simp] theorem x_mut {f : D → List D → (D → D → Prop) → Prop} : wMut s i f τ ρ q = ((∃ d0, ρ[i]? = some (some d0) ∧ d0.brw = true ∧ tyD s d0) ∧ τ ρ fun as ρ1 => ∃ ds d1, argsD ρ1 as = some ds ∧ ρ1[i]? = some (some d1) ∧ d1.kd = .own ∧ ds.all (fun d => !d.brw) = true ∧ f d1 (ds.map (D.to .froz)) fun d2 r => d2.kd = .own ∧ q r (ρ1.set i (some d2))) := rfl
@[simp] theorem x_mut0 {f : D → List D → (D → D → Prop) → Prop} : wMut0 s i f ρ q = ∃ d1, ρ[i]? = some (some d1) ∧ d1.kd = .own ∧ tyD s d1 ∧ f d1 [] fun d2 r => d2.kd = .own ∧ q r (ρ.set i (some d2)) := rfl
@[simp] theorem x_ext : wExt i α ρ q = ((∃ d0, ρ[i]? = some (some d0) ∧ d0.brw = true ∧ tyD "list" d0) ∧ α ρ fun y ρ1 => ∃ k ds zs, y = .seq k ds ∧ k ≠ .froz ∧ ρ1[i]? = some (some (.seq .own zs)) ∧ zs.length + ds.length ≤ sizeLine ∧ q .non (ρ1.set i (some (.seq .own (zs ++ ds))))) := rfl
@[simp] theorem x_next : wNext E ρ = E.nx ρ := rfl
@[simp] theorem x_seq : wSeq w w2 E ρ = w { E with nx := fun ρ1 => w2 E ρ1 } ρ := rfl
@[simp] theorem x_expr : wExpr α E ρ = α ρ fun _ ρ1 => E.nx ρ1 := rfl
@[simp] theorem x_ret : wRet α E ρ = α ρ fun x ρ1 => x.brw = false ∧ E.rt x ρ1 := rfl
@[simp] theorem x_retV : wRetV i E ρ = ∃ d, ρ[i]? = some (some d) ∧ E.rt d.res ρ := rfl
@[simp] theorem x_if : wIf θ w w2 E ρ = θ ρ fun c ρ1 => if c = true then w E ρ1 else w2 E ρ1 := rfl
@[simp] theorem x_set : wSet i α E ρ = α ρ fun x ρ1 => x.brw = false ∧ i < ρ1.length ∧ E.nx (ρ1.set i (some x.keep)) := rfl
@[simp] theorem x_setV : wSetV i j E ρ = ∃ d, ρ[j]? = some (some d) ∧ i < ρ.length ∧ if d.brw = true then i ≠ j ∧ d.kd = .own ∧ E.nx ((ρ.set j none).set i (some d)) else E.nx (ρ.set i (some d)) := rfl
@[simp] theorem x_setP : wSetP i α E ρ = α ρ fun x ρ1 => x.brw = false ∧ i < ρ1.length ∧ (∀ d, ρ1[i]? = some (some d) → d.brw = false) ∧ E.nx (ρ1.set i (some x.keep)) := rfl
@[simp] theorem x_asg : wAsg α g E ρ = α ρ fun x ρ1 => x.imm = true ∧ g x ρ1 E.nx := rfl
@[simp] theorem x_par : wPar i j τ E ρ = τ ρ fun as ρ1 => ∃ ds, argsD ρ1 as = some ds ∧ as2 ds fun x y => x.brw = false ∧ y.brw = false ∧ i < ρ1.length ∧ j < ρ1.length ∧ E.nx ((ρ1.set i (some x.keep)).set j (some y.keep)) := by unfold wPar; simp only [as2_iff]
@[simp] theorem x_gN : gN i d ρ qg = (i < ρ.length ∧ qg (ρ.set i (some d))) := rfl
@[simp] theorem x_gsN : gsN ds ρ qg = (ds = [] ∧ qg ρ) := rfl
@[simp] theorem x_gsC : gsC g gs ds ρ qg = ∃ d r, ds = d :: r ∧ g d ρ fun ρ1 => gs r ρ1 qg := rfl
@[simp] theorem x_gT : gT n gs d ρ qg = ∃ ds, d = .tup ds ∧ ds.length = n ∧ gs ds ρ qg := rfl
@[simp] theorem x_gS : gS i α d ρ qg = ((∃ d0, ρ[i]? = some (some d0) ∧ d0.brw = true) ∧ α ρ fun x ρ1 => ∃ xs c j, ρ1[i]? = some (some (.seq .own xs)) ∧ x = .int c ∧ ixN xs.length c = some j ∧ qg (ρ1.set i (some (.seq .own (xs.set j d))))) := rfl
@[simp] theorem x_I : wI α ρ qi = α ρ fun x ρ1 => x.brw = false ∧ ∃ ds, itemsOf x = some ds ∧ qi ds none ρ1 := rfl
@[simp] theorem x_IV : wIV i ρ qi = ∃ d ds, ρ[i]? = some (some d) ∧ itemsOf d = some ds ∧ qi ds (if d.brw then some (i, d) else none) ρ := rfl
@[simp] theorem x_R1 : wR1 τ ρ qi = τ ρ fun as ρ1 => ∃ n, argsD ρ1 as = some [.int n] ∧ (-(2 ^ 62) ≤ n ∧ n < 2 ^ 62) ∧ qi (rangeD 0 n) none ρ1 := rfl
@[simp] theorem x_R2 : wR2 τ ρ qi = τ ρ fun as ρ1 => ∃ ds, argsD ρ1 as = some ds ∧ as2 ds fun a b => asI a fun m => asI b fun n => (-(2 ^ 62) ≤ m ∧ m < 2 ^ 62 ∧ -(2 ^ 62) ≤ n ∧ n < 2 ^ 62) ∧ qi (rangeD m n) none ρ1 := by unfold wR2; simp only [asI2_iff]
@[simp] theorem x_R3d : wR3d τ ρ qi = τ ρ fun as ρ1 => ∃ ds, argsD ρ1 as = some ds ∧ as3 ds fun a b c => asI a fun m => asI b fun n => c = .int (-1) ∧ (-(2 ^ 62) ≤ m ∧ m < 2 ^ 62 ∧ -(2 ^ 62) ≤ n ∧ n < 2 ^ 62) ∧ qi (downD m n) none ρ1 := by unfold wR3d; simp only [asI3_iff]
@[simp] theorem x_zip : wZip τ ρ qi = τ ρ fun as ρ1 => ∃ zs, argsD ρ1 as = some zs ∧ as2 zs fun x y => ∃ ds es wt, itemsOf x = some ds ∧ itemsOf y = some es ∧ wtZ as x y = some wt ∧ qi (List.zipWith pairD ds es) wt ρ1 := by
  unfold wZip
  congr
  funext as ρ1
  refine propext ⟨fun ⟨x, y, ds, es, wt, e, h⟩ => ⟨_, e, ds, es, wt, h⟩, fun ⟨zs, e, h⟩ => ?_⟩
  match zs, e, h with
  | [x, y], e, ⟨ds, es, wt, h⟩ => exact ⟨x, y, ds, es, wt, e, h⟩
@[simp] theorem x_ifI : wIfI θ ι κ ρ qi = θ ρ fun c ρ1 => if c = true then ι ρ1 qi else κ ρ1 qi := rfl
@[simp] theorem x_slice : wSlice α lo hi ρ q = α ρ fun x ρ1 => lo ρ1 fun i ρ2 => hi ρ2 fun j ρ3 => (x.brw = false ∨ ρ3 = ρ1) ∧ opSl x i j fun d => q d ρ3 := rfl
@[simp] theorem x_sl3 : wSl3 α lo hi st ρ q = α ρ fun x ρ1 => lo ρ1 fun i ρ2 => hi ρ2 fun j ρ3 => st ρ3 fun k ρ4 => (x.brw = false ∨ ρ4 = ρ1) ∧ opSl3 x i j k fun d => q d ρ4 := rfl
@[simp] theorem x_no : wNo ρ qo = qo none ρ := rfl
@[simp] theorem x_pt : wPt α ρ qo = α ρ fun x ρ1 => ∃ i, x = .int i ∧ qo (some i) ρ1 := rfl
@[simp] theorem x_andV : wAndV α β ρ q = α ρ fun x ρ1 => asB x fun c => if c = true then β ρ1 q else q (.bl false) ρ1 := by unfold wAndV; simp only [asB_eq]
@[simp] theorem x_orV : wOrV α β ρ q = α ρ fun x ρ1 => asB x fun c => if c = true then q (.bl true) ρ1 else β ρ1 q := by unfold wOrV; simp only [asB_eq]
@[simp] theorem x_notV : wNotV α ρ q = α ρ fun x ρ1 => asB x fun c => q (.bl (!c)) ρ1 := by unfold wNotV; simp only [asB_eq]
@[simp] theorem x_isi : wIsi T α ρ q = α ρ fun x ρ1 => (∃ t, tyName x = some t) ∧ q (.bl (isT T x)) ρ1 := rfl
@[simp] theorem x_call : wCall S τ ρ q = τ ρ fun as ρ1 => nodupB (bslots ρ1 as) = true ∧ ∃ ds, argsD ρ1 as = some ds ∧ S (keepA ds) fun d ds' => q d (updA ρ1 as ds') := rfl
@[simp] theorem x_callK {pm : List Nat} : wCallK S pm τ ρ q = τ ρ fun as ρ1 => as.length = pm.length ∧ nodupB (bslots ρ1 (pmL (.val .non) pm as)) = true ∧ ∃ ds, argsD ρ1 (pmL (.val .non) pm as) = some ds ∧ S (keepA ds) fun d ds' => q d (updA ρ1 (pmL (.val .non) pm as) ds') := rfl
@[simp] theorem x_LR1 : wLR1 α ρ q = α ρ fun x ρ1 => ∃ n, x = .int n ∧ (0 ≤ n ∧ n ≤ 16777216) ∧ q (.seq .tmp (rangeD 0 n)) ρ1 := rfl
@[simp] theorem x_LR2 : wLR2 α β ρ q = α ρ fun x ρ1 => ∃ m, x = .int m ∧ β ρ1 fun y ρ2 => ∃ n, y = .int n ∧ RgOk m n ∧ q (.seq .tmp (rangeD m n)) ρ2 := rfl
/-! data -/
@[simp] theorem y_argsN : argsD ρ [] = some [] := rfl
@[simp] theorem y_argsV {as : List Arg} : argsD ρ (.val d :: as) = (argsD ρ as).map (d :: ·) := by
  conv => lhs; unfold argsD
  simp only [Arg.at]; cases argsD ρ as <;> rfl
@[simp] theorem y_argsS {as : List Arg} : argsD ρ (.slot i :: as) = ((ρ[i]?).join).bind fun d => (argsD ρ as).map (d :: ·) := by
  conv => lhs; unfold argsD
  simp only [Arg.at]; cases (ρ[i]?).join <;> cases argsD ρ as <;> rfl
@[simp] theorem y_b1 : D.brw .non = false := rfl
@[simp] theorem y_b2 : D.brw (.bl b) = false := rfl
@[simp] theorem y_b3 : D.brw (.int c) = false := rfl
@[simp] theorem y_b4 : D.brw (.str l) = false := rfl
@[simp] theorem y_b5 : D.brw (.tup ds) = false := rfl
@[simp] theorem y_b6 : D.brw (.seq .tmp ds) = false := rfl
@[simp] theorem y_b7 : D.brw (.seq .froz ds) = false := rfl
@[simp] theorem y_b8 : D.brw (.seq .own ds) = true := rfl
@[simp] theorem y_b9 : D.brw (.seq .lock ds) = true := rfl
@[simp] theorem y_i1 : D.imm .non = true := rfl
@[simp] theorem y_i2 : D.imm (.bl b) = true := rfl
@[simp] theorem y_i3 : D.imm (.int c) = true := rfl
@[simp] theorem y_i4 : D.imm (.str l) = true := rfl
@[simp] theorem y_i5 : D.imm (.tup ds) = true := rfl
@[simp] theorem y_i6 : D.imm (.seq .froz ds) = true := rfl
@[simp] theorem y_k1 : D.keep .non = .non := rfl
@[simp] theorem y_k2 : D.keep (.bl b) = .bl b := rfl
@[simp] theorem y_k3 : D.keep (.int c) = .int c := rfl
@[simp] theorem y_k4 : D.keep (.str l) = .str l := rfl
@[simp] theorem y_k5 : D.keep (.tup ds) = .tup ds := rfl
@[simp] theorem y_k6 : D.keep (.seq .tmp ds) = .seq .own ds := rfl
@[simp] theorem y_k7 : D.keep (.seq .froz ds) = .seq .froz ds := rfl
@[simp] theorem y_k8 : D.keep (.seq .own ds) = .seq .own ds := rfl
@[simp] theorem y_k9 : D.keep (.seq .lock ds) = .seq .lock ds := rfl
@[simp] theorem y_r1 : D.res .non = .non := rfl
@[simp] theorem y_r2 : D.res (.bl b) = .bl b := rfl
@[simp] theorem y_r3 : D.res (.int c) = .int c := rfl
@[simp] theorem y_r4 : D.res (.str l) = .str l := rfl
@[simp] theorem y_r5 : D.res (.tup ds) = .tup ds := rfl
@[simp] theorem y_r6 : D.res (.seq .own ds) = .seq .tmp ds := rfl
@[simp] theorem y_r7 : D.res (.seq .froz ds) = .seq .froz ds := rfl
@[simp] theorem y_t1 : D.to k .non = .non := rfl
@[simp] theorem y_t2 : D.to k (.bl b) = .bl b := rfl
@[simp] theorem y_t3 : D.to k (.int c) = .int c := rfl
@[simp] theorem y_t4 : D.to k (.str l) = .str l := rfl
@[simp] theorem y_t5 : D.to k (.tup ds) = .tup ds := rfl
@[simp] theorem y_t6 {k2 : Kd} : D.to k (.seq k2 ds) = .seq k ds := rfl
@[simp] theorem y_kd : D.kd (.seq k ds) = k := rfl
@[simp] theorem y_ka : keepA ds = ds.map D.keep := rfl
@[simp] theorem y_tyl : tyD "list" (.seq k ds) := rfl
@[simp] theorem y_tys : tyD "str" (.str l) := rfl
@[simp] theorem y_n1 : tyName .non = some "NoneType" := rfl
@[simp] theorem y_n2 : tyName (.bl b) = some "bool" := rfl
@[simp] theorem y_n3 : tyName (.int c) = some "int" := rfl
@[simp] theorem y_n4 : tyName (.str l) = some "str" := rfl
@[simp] theorem y_n5 : tyName (.tup ds) = some "tuple" := rfl
@[simp] theorem y_n6 : tyName (.seq k ds) = some "list" := rfl
@[simp] theorem y_it1 : itemsOf (.seq k ds) = some ds := rfl
@[simp] theorem y_it2 : itemsOf (.tup ds) = some ds := rfl
@[simp] theorem y_it3 : itemsOf (.str l) = some (l.map fun c => .str [c]) := rfl
theorem mono_dummy : True := trivial
@[simp] theorem y_cast {a b : Nat} : ((a : Int) = (b : Int)) = (a = b) := propext ⟨fun h => by omega, fun h => by rw [h]⟩
/-! operations -/
@[simp] theorem o_add : opAdd (.int c) (.int m) p = p (.int (c + m)) := rfl
@[simp] theorem o_addS : opAdd (.str l) (.str l2) p = (l.length + l2.length ≤ sizeLine ∧ p (.str (l ++ l2))) := rfl
@[simp] theorem o_addL {k2 : Kd} : opAdd (.seq k ds) (.seq k2 es) p = (k ≠ .froz ∧ k2 ≠ .froz ∧ ds.length + es.length ≤ sizeLine ∧ p (.seq .tmp (ds ++ es))) := rfl
@[simp] theorem o_addT : opAdd (.tup ds) (.tup es) p = (ds.length + es.length ≤ sizeLine ∧ p (.tup (ds ++ es))) := rfl
@[simp] theorem o_mulL : opMul (.seq k ds) (.int c) p = (k ≠ .froz ∧ (-(2 ^ 63) ≤ c ∧ c < 2 ^ 63) ∧ ds.length * c.toNat ≤ sizeLine ∧ p (.seq .tmp (List.replicate c.toNat ds).flatten)) := rfl
@[simp] theorem o_pow : opPow (.int c) (.int m) p = (CPow c m ∧ p (.int (c ^ m.toNat))) := rfl
@[simp] theorem o_sub : opSub (.int c) (.int m) p = p (.int (c - m)) := rfl
@[simp] theorem o_mul : opMul (.int c) (.int m) p = (CMul c m ∧ p (.int (c * m))) := rfl
@[simp] theorem o_mod : opMod (.int c) (.int m) p = (0 < m ∧ p (.int (c % m))) := rfl
@[simp] theorem o_fdiv : opFDiv (.int c) (.int m) p = (CDivW c m ∧ p (.int (c / m))) := rfl
@[simp] theorem o_lt : opLt (.int c) (.int m) p = p (.bl (decide (c < m))) := rfl
@[simp] theorem o_le : opLe (.int c) (.int m) p = p (.bl (decide (c ≤ m))) := rfl
@[simp] theorem o_gt : opGt (.int c) (.int m) p = p (.bl (decide (m < c))) := rfl
@[simp] theorem o_ge : opGe (.int c) (.int m) p = p (.bl (decide (m ≤ c))) := rfl
@[simp] theorem o_neg : opNeg (.int c) p = p (.int (-c)) := rfl
@[simp] theorem o_abs : opAbs (.int c) p = p (.int (if c < 0 then -c else c)) := rfl
@[simp] theorem o_int : opInt (.int c) p = p (.int c) := rfl
@[simp] theorem o_intb : opInt (.bl b) p = p (.int (if b then 1 else 0)) := rfl
@[simp] theorem o_max : opMax2 (.int c) (.int m) p = p (.int (if m > c then m else c)) := rfl
@[simp] theorem o_min : opMin2 (.int c) (.int m) p = p (.int (if m < c then m else c)) := rfl
@[simp] theorem o_divmod : opDivmod (.int c) (.int m) p = (CDiv c m ∧ p (.tup [.int (c / m), .int (c % m)])) := rfl
@[simp] theorem o_len1 : opLen (.str l) p = (l.length ≤ sizeLine ∧ p (.int l.length)) := rfl
@[simp] theorem o_len2 : opLen (.tup ds) p = p (.int ds.length) := rfl
@[simp] theorem o_len3 : opLen (.seq k ds) p = p (.int ds.length) := rfl
@[simp] theorem o_ix1 : opIx (.seq k ds) (.int c) p = ∃ d, atI ds c = some d ∧ p d := rfl
@[simp] theorem o_ix2 : opIx (.tup ds) (.int c) p = ∃ d, atI ds c = some d ∧ p d := rfl
@[simp] theorem o_ix3 : opIx (.str l) (.int c) p = (l.length ≤ sizeLine ∧ ∃ n, atI l c = some n ∧ p (.str [n])) := rfl
@[simp] theorem o_all : opAll (.seq k ds) p = ∃ bs, blsOf ds = some bs ∧ p (.bl (bs.all id)) := rfl
@[simp] theorem o_any : opAny (.seq k ds) p = ∃ bs, blsOf ds = some bs ∧ p (.bl (bs.any id)) := rfl
@[simp] theorem o_sum : opSum (.seq k ds) p = ∃ bs, intsOf ds = some bs ∧ p (.int bs.sum) := rfl
@[simp] theorem o_list1 : opList (.seq k ds) p = p (.seq .tmp ds) := rfl
@[simp] theorem o_list2 : opList (.tup ds) p = p (.seq .tmp ds) := rfl
@[simp] theorem o_list3 : opList (.str l) p = (l.length ≤ sizeLine ∧ p (.seq .tmp (l.map fun c => .str [c]))) := rfl
@[simp] theorem o_tup1 : opTuple (.seq k ds) p = p (.tup ds) := rfl
@[simp] theorem o_tup2 : opTuple (.tup ds) p = p (.tup ds) := rfl
@[simp] theorem o_in1 : opIn b (.str [n]) (.str l) p = p (.bl (if b then !decide (n ∈ l) else decide (n ∈ l))) := rfl
@[simp] theorem o_sl1 {a a2 : Option Int} : opSl (.seq k ds) a a2 p = p (.seq .tmp (cutL ds a a2)) := rfl
@[simp] theorem o_sl2 {a a2 : Option Int} : opSl (.tup ds) a a2 p = p (.tup (cutL ds a a2)) := rfl
@[simp] theorem o_sl3 {a a2 : Option Int} : opSl (.str l) a a2 p = (l.length ≤ sizeLine ∧ p (.str (cutL l a a2))) := rfl
@[simp] theorem o_join : opJoin (.str []) [.seq k ds] p = ∃ ss, strsOf ds = some ss ∧ ss.flatten.length ≤ 16777216 ∧ p (.str ss.flatten) := rfl
@[simp] theorem o_sindex : opSIndex (.str l) [.str [n]] p = (n ∈ l ∧ p (.int (l.idxOf n))) := rfl
@[simp] theorem o_append {p2 : D → D → Prop} : opAppend (.seq k ds) [d] p2 = (ds.length < sizeLine ∧ p2 (.seq k (ds ++ [d])) .non) := rfl
@[simp] theorem o_pop {p2 : D → D → Prop} : opPop (.seq k ds) [.int c] p2 = (0 ≤ c ∧ c < 2 ^ 63 ∧ ∃ y, ds[c.toNat]? = some y ∧ p2 (.seq k (ds.eraseIdx c.toNat)) y) := rfl
@[simp] theorem o_pop0 {p2 : D → D → Prop} : opPop (.seq k ds) [] p2 = ∃ y, ds[ds.length - 1]? = some y ∧ p2 (.seq k ds.dropLast) y := rfl
end
theorem small_le {n : Nat} (h : n ≤ 1000000) : n ≤ sizeLine := Nat.le_trans h (by decide)
theorem small_lt {n : Nat} (h : n < 1000000) : n < sizeLine := Nat.lt_of_lt_of_le h (by decide)
end VL

namespace VL
open PySem PySem.Spec PyProof.Rows L2
/-! ### sorted of a text -/
def rSortedStr : List V → Hp → VK → Prop := fun vs H Q => ∃ z : Str, vs = [V.str z] ∧ z.length ≤ sizeLine ∧
  ∀ (ys : List Str) (p : Addr), ys.Perm (z.cps.toList.map fun c => ⟨#[c]⟩) → sortedS ys = true → H p = none → Q (.ref p) (upd H p (.lst (ys.map V.str)))
theorem cr_sortedStr {X : Cx} (hc : X.calm = true) : CallR X (.builtin "sorted") rSortedStr := by
  intro pins s σ H xs us Q I r q
  obtain ⟨z, rfl, hz, q⟩ := q
  obtain ⟨u, rfl, t, rfl⟩ := vals1 r
  have hz' : z.cps.size ≤ sizeLine := hz
  refine Calls.call_function_entry PyProof.Rows.kind_sorted PyProof.Rows.plain_sorted PyProof.Rows.entry_sorted (PyProof.Rows.args_sorted1 _) ?_
  unfold Builtin.«sorted»
  refine wpAny_bind (m := checkCount "sorted" 1 1 _) (wpAny_pure ?_)
  refine wpAny_bind (wpAny_collect_str (A := X.A.in1) (I.ok.hd hc) z t (fun s' acc hk hg hd ho hacc => ?_) hz')
  obtain ⟨h', g', d', tk, o'⟩ := s'
  cases hg; cases hd; cases ho
  have hal : acc.toList.length = (z.cps.toList.map fun c => (⟨#[c]⟩ : Str)).length := by rw [Array.length_toList, hacc.1, List.length_map, Array.length_toList]
  have hL : acc.toList.length ≤ sizeLine := by rw [Array.length_toList, hacc.1]; exact hz'
  have hS : StrsAre acc.toList (z.cps.toList.map fun c => (⟨#[c]⟩ : Str)) := L2.strs_at hal fun j v e => by
    obtain ⟨c, t', hc, rfl⟩ := hacc.2 j v (by simpa using e)
    exact ⟨⟨#[c]⟩, t', by rw [List.getElem?_map, Array.getElem?_toList, hc]; rfl, rfl⟩
  have I1 : Inv X pins σ H { s with heap := h', toks := tk } := I.kept hk
  refine wpAny_bind (wpAny_newList ?_ hL)
  have hoL : (h'.push (seqObj "list" acc.toList.toArray 0)).get? h'.objs.size = some (seqObj "list" acc.toList.toArray 0) := Heap.get?_push_size _ rfl
  show wpAny _ _ _ _ _ { s with heap := h'.push (seqObj "list" acc.toList.toArray 0), toks := tk }
  refine wpAny_bind (wpAny_holding (wpAny_call_entry PyProof.Rows.slot_list_sort ⟨_, hoL, rfl⟩ PyProof.Rows.entry_list_sort
    (list_sort_treeKAny strKind_oneLt (s := { s with heap := h'.push (seqObj "list" acc.toList.toArray 0), toks := tk }) hoL hS.keysOf (fun v₁ v₂ rest e => keyKind_strs (by rw [← e]; exact hS)) hL fun st' hp hs => ⟨_, rfl, ?_⟩)
    (PyProof.Rows.args_list_sort _)))
  obtain ⟨ys, g1, g2, g3⟩ := sorted_out_str hS hp hs
  obtain ⟨e', he'⟩ := PyProof.Rows.sortedHeap_at (vs := acc.toList) (out := (arrOf st').map (·.2)) hoL
  have hlen : (ys.map V.str).length ≤ sizeLine := by
    rw [List.length_map, g2.length_eq, ← hal]; exact hL
  refine wpAny_pure ⟨_, rfl, .ref h'.objs.size, upd H h'.objs.size (.lst (ys.map V.str)), I1.laid (t' := tk) (fun b u e => ?_) (Nat.le_refl _)
    (show ObjOk X.prog X.w _ _ _ (.lst (ys.map V.str)) from ⟨hlen, ((arrOf st').map (·.2)).toList, e', vals_of_strs g1, by rw [Array.toArray_toList]; exact he'⟩), rfl, q ys _ g2 g3 (I1.hok.fresh (Nat.le_refl _))⟩
  have hb : b < h'.objs.size := Heap.lt_size e
  rw [PyProof.Rows.sortedHeap_old (Nat.ne_of_lt hb) (by rw [size_push']; exact Nat.lt_succ_of_lt hb)]
  exact Heap.get?_push_of_some _ e
def opSortedA : D → (D → Prop) → Prop
  | .str l, q => l.length ≤ sizeLine ∧ ∀ l' : List Nat, l'.Perm l → l'.Pairwise (· ≤ ·) → q (.seq .tmp (l'.map fun c => .str [c]))
  | d, q => opSorted d q
theorem perm_map_inj {α β : Type} {f : α → β} : ∀ {l : List α} {m : List β}, m.Perm (l.map f) → ∃ l' : List α, l'.Perm l ∧ m = l'.map f := fun {l m} h => by
  generalize e : l.map f = x at h
  induction h generalizing l with
  | nil => exact ⟨l, .refl _, e.symm⟩
  | cons a h ih =>
    cases l with
    | nil => cases e
    | cons b l =>
      rw [List.map_cons, List.cons.injEq] at e
      obtain ⟨l', p, rfl⟩ := ih e.2
      exact ⟨b :: l', p.cons b, by rw [List.map_cons, e.1]⟩
  | swap a b l0 =>
    match l, e with
    | x :: y :: l, e =>
      simp only [List.map_cons, List.cons.injEq] at e
      exact ⟨y :: x :: l, .swap .., by simp [e.1, e.2.1, e.2.2]⟩
  | trans h1 h2 ih1 ih2 =>
    obtain ⟨l1, p1, rfl⟩ := ih2 e
    obtain ⟨l2, p2, e2⟩ := ih1 rfl
    exact ⟨l2, p2.trans p1, e2⟩
theorem chain_sg : ∀ {l : List Nat}, chainLe (l.map fun c => [c]) → l.Pairwise (· ≤ ·)
  | [], _ => .nil
  | [a], _ => by simp
  | a :: b :: r, h => by
    obtain ⟨h1, h2⟩ := (h : ltCps [b] [a] = false ∧ chainLe ((b :: r).map fun c => [c]))
    have hp := chain_sg (l := b :: r) h2
    have hab : a ≤ b := by
      rw [ltCps_eq] at h1
      have : ¬ ([b] < [a]) := by simpa using h1
      rcases Nat.lt_or_ge b a with h | h
      · exact absurd (List.cons_lt_cons_iff.mpr (.inl h)) this
      · exact h
    refine List.pairwise_cons.mpr ⟨fun x hx => ?_, hp⟩
    rcases List.mem_cons.mp hx with rfl | hx
    · exact hab
    · exact Nat.le_trans hab ((List.pairwise_cons.mp hp).1 x hx)
theorem call_sortedB {X : Cx} (hc : X.calm = true) : CallR X (.builtin "sorted") (fun vs H Q => (rSortedI X.K vs H Q ∨ rSortedSA X.K vs H Q) ∨ rSortedStr vs H Q) := call_sortedA.or (cr_sortedStr hc)
theorem v1_sortedA {K : PySem.W.Frag} : V1 K (fun x H Q => (rSortedI K [x] H Q ∨ rSortedSA K [x] H Q) ∨ rSortedStr [x] H Q) opSortedA := fun H M x dx q Q dm rx w k => by
  match dx, rx, w with
  | .str l, rx, w =>
    rw [rx.strE]
    refine .inr ⟨mkS l, rfl, by rw [mkS_len]; exact w.1, fun ys p hp hs np => ?_⟩
    obtain ⟨l', pl, rfl⟩ := perm_map_inj hp
    rw [mkS_list] at pl
    have h : (l'.map fun c => (⟨#[c]⟩ : Str)) = (l'.map fun c => [c]).map mkS := by rw [List.map_map]; rfl
    rw [h] at hs ⊢
    refine k _ (.seq .tmp (l'.map fun c => .str [c])) _ ?_ (w.2 l' pl (chain_sg (chainLe_of hs)))
    have rr : Rs K H M (((l'.map fun c => [c]).map mkS).map V.str) ((l'.map fun c => [c]).map D.str) := rs_strs
    have := res_lst (K := K) (M := M) np rr
    rw [List.map_map (g := D.str)] at this
    exact this
  | .seq _ _, rx, w => exact .inl (v1_sorted H M x _ q Q dm rx w k)
section
variable {X : Cx} {F : Df} {e a b c : Expr} {pos p : Pos} {α β γ : WE} {τ : WA}
theorem r_sortedA (hc : X.calm = true) (hK : X.K = F.K) (hm : X.mg "sorted" = none) (hg : Gl X "sorted") (ha : DA X F [a] τ) (he : starEach [a] X.env = (false, eval a X.env) :: starEach [] X.env := by rfl) : DE X F (.Call (.Name "sorted" p) [a] [] pos) (wCallN (f1 opSortedA) τ) := de_callB (call_sortedB hc) (by rw [hK]; exact vn1 v1_sortedA) hg hm b_sorted ha (by decide) (by decide) he rfl
/-! ### gcd -/
theorem r_gcd (hm : X.mg "gcd" = some (.builtin "math.gcd")) (hg : Gl X "gcd") (ha : DA X F [a, b] τ) (he : starEach [a, b] X.env = (false, eval a X.env) :: starEach [b] X.env := by rfl) (hpl : (backTo pos (starEach [b] X.env)).any (·.1) = false := by rfl) : DE X F (.Call (.Name "gcd" p) [a, b] [] pos) (wCallN (f2 opGcd) τ) :=
  de_calln (pe_callBfun cr_gcd hg hm pa_run (by decide) he hpl) (vn2 v2_gcd) ha
end
/-! ### is True, is False, is None -/
def isD (b : Bool) : D → Bool
  | .bl c => c == b
  | _ => false
def opIs (neg : Bool) (x y : D) (q : D → Prop) : Prop := match y with
  | .non => opIsN neg x .non q
  | .bl b => (∀ v, x ≠ .val v) ∧ q (.bl (if neg then !isD b x else isD b x))
  | _ => False
def pv : V → Bool
  | .non => true
  | .bl _ => true
  | .int _ => true
  | .str _ => true
  | .ref _ => true
  | _ => false
theorem op_isB {X : Cx} : OpR X (compareOp .Is) (fun x y H Q => ∃ b, pv x = true ∧ y = .bl b ∧ Q (.bl (decide (x = .bl b))) H) := by
  intro pins s σ H x y v u Q I rx ry h
  obtain ⟨b, hx, rfl, q⟩ := h
  cases (show u = Value.bool b from ry)
  cases x <;> first | (cases hx; done) | skip
  · cases (show v = Value.none from rx); exact wpAny_is_other rfl (fun z => by cases z) ⟨.bl false, H, I, rfl, q⟩
  · rename_i c
    cases (show v = Value.bool c from rx)
    by_cases e : c = b
    · subst e; exact wpAny_is_self rfl ⟨.bl true, H, I, rfl, by simpa using q⟩
    · exact wpAny_is_other rfl (fun z => e (Value.bool.inj z)) ⟨.bl false, H, I, rfl, by simpa [e] using q⟩
  · obtain ⟨t, rfl⟩ := rx; exact wpAny_is_other rfl (fun z => by cases z) ⟨.bl false, H, I, rfl, q⟩
  · obtain ⟨t, rfl⟩ := rx; exact wpAny_is_other rfl (fun z => by cases z) ⟨.bl false, H, I, rfl, q⟩
  · rename_i a; cases (show v = Value.ref a from rx); exact wpAny_is_other rfl (fun z => by cases z) ⟨.bl false, H, I, rfl, q⟩
theorem op_notB {X : Cx} : OpR X (compareOp .IsNot) (fun x y H Q => ∃ b, pv x = true ∧ y = .bl b ∧ Q (.bl (!decide (x = .bl b))) H) := by
  intro pins s σ H x y v u Q I rx ry h
  obtain ⟨b, hx, rfl, q⟩ := h
  cases (show u = Value.bool b from ry)
  cases x <;> first | (cases hx; done) | skip
  · cases (show v = Value.none from rx); exact wpAny_isNot_other rfl (fun z => by cases z) ⟨.bl true, H, I, rfl, q⟩
  · rename_i c
    cases (show v = Value.bool c from rx)
    by_cases e : c = b
    · subst e; exact wpAny_isNot_self rfl ⟨.bl false, H, I, rfl, by simpa using q⟩
    · exact wpAny_isNot_other rfl (fun z => e (Value.bool.inj z)) ⟨.bl true, H, I, rfl, by simpa [e] using q⟩
  · obtain ⟨t, rfl⟩ := rx; exact wpAny_isNot_other rfl (fun z => by cases z) ⟨.bl true, H, I, rfl, q⟩
  · obtain ⟨t, rfl⟩ := rx; exact wpAny_isNot_other rfl (fun z => by cases z) ⟨.bl true, H, I, rfl, q⟩
  · rename_i a; cases (show v = Value.ref a from rx); exact wpAny_isNot_other rfl (fun z => by cases z) ⟨.bl true, H, I, rfl, q⟩
section
variable {K : PySem.W.Frag}
theorem bl_iff {H : Hp} {M : Addr → Prop} {x : V} {d : D} {b : Bool} (r : RVal K H M x d) (hv : ∀ v, d ≠ .val v) : pv x = true ∧ decide (x = .bl b) = isD b d := by
  rcases r with ⟨_, r⟩ | ⟨i, a, rfl, _⟩
  · cases r with
    | bl c => refine ⟨rfl, ?_⟩; cases b <;> cases c <;> rfl
    | val h => exact absurd rfl (hv _)
    | _ => exact ⟨rfl, rfl⟩
  · cases d <;> first | exact ⟨rfl, rfl⟩ | cases i
theorem v2_is : V2 K (fun x y H Q => (y = .non ∧ Q (.bl (decide (x = .non))) H) ∨ ∃ b, pv x = true ∧ y = .bl b ∧ Q (.bl (decide (x = .bl b))) H) (opIs false) := fun H M x dx y dy q Q dm rx ry w k => by
  match dy, ry, w with
  | .non, ry, w => exact .inl (v2_isNone H M x dx y .non q Q dm rx ry w k)
  | .bl b, ry, w => exact .inr ⟨b, (bl_iff (b := b) rx w.1).1, ry.blE, by rw [(bl_iff rx w.1).2]; exact k _ _ H (res_bl _) w.2⟩
theorem v2_isNot : V2 K (fun x y H Q => (y = .non ∧ Q (.bl (!decide (x = .non))) H) ∨ ∃ b, pv x = true ∧ y = .bl b ∧ Q (.bl (!decide (x = .bl b))) H) (opIs true) := fun H M x dx y dy q Q dm rx ry w k => by
  match dy, ry, w with
  | .non, ry, w => exact .inl (v2_isNotNone H M x dx y .non q Q dm rx ry w k)
  | .bl b, ry, w => exact .inr ⟨b, (bl_iff (b := b) rx w.1).1, ry.blE, by rw [(bl_iff rx w.1).2]; exact k _ _ H (res_bl _) w.2⟩
end
theorem cm_isA {X : Cx} {F : Df} : CmR X F .Is (opIs false) := ⟨_, op_isN.or op_isB, v2_is⟩
theorem cm_isNotA {X : Cx} {F : Df} : CmR X F .IsNot (opIs true) := ⟨_, op_notN.or op_notB, v2_isNot⟩
/-! ### dicts -/
def keyD : D → Option DKey
  | .int i => some (.inl i)
  | .str l => some (.inr l)
  | _ => none
def dget (kds : List (DKey × D)) (k : DKey) : Option D := (kds.find? fun p => decide (p.1 = k)).map (·.2)
def dput (kds : List (DKey × D)) (k : DKey) (d : D) : List (DKey × D) :=
  if (kds.any fun p => decide (p.1 = k)) = true then kds.map (fun p => if p.1 = k then (p.1, d) else p) else kds ++ [(k, d)]
section
variable {K : PySem.W.Frag} {H : Hp} {M : Addr → Prop}
theorem key_of {y : V} {d : D} {k : DKey} (r : RVal K H M y d) (h : keyD d = some k) : y = kV (kmap k) := by
  cases d <;> first | (cases h; done) | skip
  · cases h; rw [r.intE]; rfl
  · cases h; rw [r.strE]; rfl
theorem Rk.uncons {a : Key} {v : V} {b : DKey} {d : D} {kvs : List (Key × V)} {kds : List (DKey × D)} (r : Rk K H M ((a, v) :: kvs) ((b, d) :: kds)) : a = kmap b ∧ R K H M v d ∧ Rk K H M kvs kds := by
  obtain ⟨h1, h2⟩ := r
  rw [List.map_cons, List.map_cons, List.cons.injEq] at h1
  rw [List.map_cons, List.map_cons] at h2
  exact ⟨h1.1, h2.uncons.1, h1.2, h2.uncons.2⟩
theorem Rk.consI {v : V} {b : DKey} {d : D} {kvs : List (Key × V)} {kds : List (DKey × D)} (h : R K H M v d) (r : Rk K H M kvs kds) : Rk K H M ((kmap b, v) :: kvs) ((b, d) :: kds) :=
  ⟨by rw [List.map_cons, List.map_cons, r.1], by rw [List.map_cons, List.map_cons]; exact r.2.cons h⟩
theorem kmap_dec {a b : DKey} : decide (kmap a = kmap b) = decide (a = b) := by
  by_cases h : a = b
  · subst h; simp
  · rw [decide_eq_false h, decide_eq_false fun z => h (kmap_inj z)]
theorem rk_get : ∀ {kvs : List (Key × V)} {kds : List (DKey × D)} {k : DKey}, Rk K H M kvs kds → (∀ d, dget kds k = some d → ∃ v, valV kvs (kmap k) = some v ∧ R K H M v d) ∧ (dget kds k = none → valV kvs (kmap k) = none)
  | [], [], k, _ => ⟨fun d h => (by cases h), fun _ => rfl⟩
  | (a, v) :: kvs, (b, d) :: kds, k, r => by
    obtain ⟨rfl, r1, r2⟩ := r.uncons
    have ih := rk_get (k := k) r2
    unfold dget valV at ih ⊢
    rw [List.find?_cons, List.find?_cons]
    show (∀ d', Option.map _ (match decide (b = k) with | true => _ | false => _) = some d' → ∃ v', Option.map _ (match decide (kmap b = kmap k) with | true => _ | false => _) = some v' ∧ _) ∧ _
    rw [kmap_dec]
    cases decide (b = k) with
    | true => exact ⟨fun d' h => (by cases h; exact ⟨v, rfl, r1⟩), fun h => (by cases h)⟩
    | false => exact ih
  | [], _ :: _, _, r => by have := r.length; cases this
  | _ :: _, [], _, r => by have := r.length; cases this
theorem rk_any : ∀ {kvs : List (Key × V)} {kds : List (DKey × D)} {k : DKey}, Rk K H M kvs kds → (kvs.any fun p => decide (p.1 = kmap k)) = kds.any fun p => decide (p.1 = k)
  | [], [], k, _ => rfl
  | (a, v) :: kvs, (b, d) :: kds, k, r => by
    obtain ⟨rfl, r1, r2⟩ := r.uncons
    rw [List.any_cons, List.any_cons, rk_any r2, kmap_dec]
  | [], _ :: _, _, r => by have := r.length; cases this
  | _ :: _, [], _, r => by have := r.length; cases this
theorem rk_upd {v : V} {d : D} (h : R K H M v d) : ∀ {kvs : List (Key × V)} {kds : List (DKey × D)} {k : DKey}, Rk K H M kvs kds → Rk K H M (kvs.map fun p => if p.1 = kmap k then (p.1, v) else p) (kds.map fun p => if p.1 = k then (p.1, d) else p)
  | [], [], k, r => r
  | (a, v') :: kvs, (b, d') :: kds, k, r => by
    obtain ⟨rfl, r1, r2⟩ := r.uncons
    have ih := rk_upd h (k := k) r2
    rw [List.map_cons, List.map_cons]
    by_cases e : b = k
    · subst e; rw [if_pos rfl, if_pos rfl]; exact ih.consI h
    · rw [if_neg e, if_neg fun z => e (kmap_inj z)]; exact ih.consI r1
  | [], _ :: _, _, r => by have := r.length; cases this
  | _ :: _, [], _, r => by have := r.length; cases this
theorem rk_app {v : V} {d : D} {k : DKey} (h : R K H M v d) {kvs : List (Key × V)} {kds : List (DKey × D)} (r : Rk K H M kvs kds) : Rk K H M (kvs ++ [(kmap k, v)]) (kds ++ [(k, d)]) :=
  ⟨by rw [List.map_append, List.map_append, r.1]; rfl, by rw [List.map_append, List.map_append]; exact r.2.append (Rs.nil.cons h)⟩
theorem rk_put {v : V} {d : D} {k : DKey} (h : R K H M v d) {kvs : List (Key × V)} {kds : List (DKey × D)} (r : Rk K H M kvs kds) : Rk K H M (putK kvs (kmap k) v) (dput kds k d) := by
  unfold putK dput
  rw [rk_any r]
  split
  · exact rk_upd h r
  · exact rk_app h r
def opDIx : D → D → (D → Prop) → Prop
  | .map _ kds, y, q => ∃ k d, keyD y = some k ∧ dget kds k = some d ∧ q d
  | _, _, _ => False
def rIxDk : R2 := fun x y H Q => ∃ a v, x = .ref a ∧ DGet H a y (some v) ∧ Q v H
theorem ix_dk {X : Cx} (hu : X.A.units + 1 < cLine) : IxR X rIxDk := by
  intro value slice pins s σ H x y v u Q I rx ry h hs
  obtain ⟨a, v0, rfl, g, q⟩ := h
  obtain rfl : v = Value.ref a := rx
  exact tail_any (dict_typeIs I g) slot_dict_getitem.lookup (d_getItem hu I g ry fun w' s3 I3 rw' => ⟨v0, H, I3, rw', q⟩) hs
theorem v2_dix : V2 K rIxDk opDIx := fun H M x dx y dy q Q dm rx ry w k => by
  match dx, rx, w with
  | .map kd kds, rx, ⟨ky, d, hk, hd, w⟩ =>
    obtain ⟨a, kvs, rfl, e, rk⟩ := rx.mapE
    obtain ⟨v, hv, r⟩ := (rk_get rk).1 d hd
    rw [key_of ry hk]
    exact ⟨a, v, rfl, .inl ⟨kvs, kmap ky, .inl e, rfl, hv.symm⟩, k _ _ H (res_imm r.imm r) w⟩
def opDIn (neg : Bool) : D → D → (D → Prop) → Prop
  | y, .map _ kds, q => ∃ k, keyD y = some k ∧ q (.bl (if neg then !(dget kds k).isSome else (dget kds k).isSome))
  | _, _, _ => False
def rDIn (neg : Bool) : R2 := fun y x H Q => ∃ a o, x = .ref a ∧ DGet H a y o ∧ Q (.bl (if neg then !o.isSome else o.isSome)) H
theorem op_din {X : Cx} (hu : X.A.units + 1 < cLine) : OpR X (compareOp .In) (rDIn false) := by
  intro pins s σ H y x u v Q I ry rx h
  obtain ⟨a, o, rfl, g, q⟩ := h
  obtain rfl : v = Value.ref a := rx
  exact d_in hu I g ry fun s3 I3 => ⟨.bl o.isSome, H, I3, rfl, q⟩
theorem op_dnotIn {X : Cx} (hu : X.A.units + 1 < cLine) : OpR X (compareOp .NotIn) (rDIn true) := by
  intro pins s σ H y x u v Q I ry rx h
  obtain ⟨a, o, rfl, g, q⟩ := h
  obtain rfl : v = Value.ref a := rx
  exact d_notIn hu I g ry fun s3 I3 => ⟨.bl (!o.isSome), H, I3, rfl, q⟩
theorem v2_din {neg : Bool} : V2 K (rDIn neg) (opDIn neg) := fun H M x dx y dy q Q dm rx ry w k => by
  match dy, ry, w with
  | .map kd kds, ry, ⟨ky, hk, w⟩ =>
    obtain ⟨a, kvs, rfl, e, rk⟩ := ry.mapE
    rw [key_of rx hk]
    refine ⟨a, valV kvs (kmap ky), rfl, .inl ⟨kvs, kmap ky, .inl e, rfl, rfl⟩, ?_⟩
    have h : (valV kvs (kmap ky)).isSome = (dget kds ky).isSome := by
      cases z : dget kds ky with
      | none => rw [(rk_get rk).2 z]; rfl
      | some d => obtain ⟨v, hv, _⟩ := (rk_get rk).1 d z; rw [hv]; rfl
    rw [h]
    exact k _ _ H (res_bl _) w
end
theorem cm_din {X : Cx} {F : Df} (hu : X.A.units + 64 < cLine) : CmR X F .In (opDIn false) := ⟨_, op_din (by omega), v2_din⟩
theorem cm_dnotIn {X : Cx} {F : Df} (hu : X.A.units + 64 < cLine) : CmR X F .NotIn (opDIn true) := ⟨_, op_dnotIn (by omega), v2_din⟩
section
variable {X : Cx} {F : Df} {e a b c tg : Expr} {pos p npos : Pos} {α β γ : WE} {τ : WA}
theorem r_dix (hu : X.A.units + 64 < cLine) (ha : DE X F a α) (hb : DE X F b β) (hs : PlainIx b := by intro _ _; rfl) : DE X F (.Subscript a b pos) (wBin opDIx α β) := de_ix (ix_dk (by omega)) v2_dix ha hb hs
theorem res_map {K : PySem.W.Frag} {H : Hp} {M : Addr → Prop} {a : Addr} {kvs : List (Key × V)} {kds : List (DKey × D)} (n : H a = none) (r : Rk K H M kvs kds) : Res K M H (.ref a) (.map .tmp kds) (upd H a (.dK kvs)) := by
  have ff : ∀ b x, H b = some x → upd H a (.dK kvs) b = some x := fun b x h => by
    rw [upd_ne (fun z => by subst z; rw [n] at h; cases h)]; exact h
  refine ⟨ff, .inr ⟨rfl, a, rfl, n, kvs, upd_same, r.1, r.2.mono (fun b x h _ => ff b x h) fun b m => m.imp id fun e => by subst e; exact n⟩⟩
theorem de_dnew : DE X F (.Dict [] [] pos) (wC (.map .tmp [])) := by
  refine ⟨fun bad σ ρ H q Q o w k => pe_dnewK.to fun p np => ?_⟩
  obtain ⟨bad2, p2⟩ := (res_map (K := F.K) (M := Mm bad σ ρ) (kvs := []) (kds := []) np ⟨rfl, Rs.nil⟩).po o
  exact k _ _ bad2 ρ _ p2 w
def gD (k : Nat) (α : WE) : WG := fun d ρ q => (∃ d0, ρ[k]? = some (some d0) ∧ d0.brw = true) ∧ α ρ fun x ρ1 => ∃ kds ky, ρ1[k]? = some (some (.map .own kds)) ∧ keyD x = some ky ∧ kds.length < sizeLine ∧ q (ρ1.set k (some (.map .own (dput kds ky d))))
theorem dg_put (hu : X.A.units + 64 < cLine) {x : Str} (k : Nat) (ha : DE X F e α) (hN : X.N[k]? = some x := by rfl) (hv : Vis X.env.scope x := by first | exact Or.inl rfl | exact Or.inr (Or.inl rfl) | exact Or.inr (Or.inr rfl)) (hd : (x == ("__debug__" : Str)) = false := by decide) (hcd : (x == ("__classdict__" : Str)) = false := by decide)
    (hs : ∀ v, assign (.Subscript (.Name x npos) e pos) X.env v = (do
      let ov ← holding [v] (eval (.Name x npos) X.env)
      let iv ← holding [v, ov] (eval e X.env)
      standAt pos
      holding [v, ov, iv] (setItem ov iv v)
      release [v, ov, iv] []) := by intro _; rfl) : DG X F (.Subscript (.Name x npos) e pos) (gD k α) := by
  refine ⟨fun bad σ ρ H v d q Q o r w kk => (pg_sub (pe_var hN hv hd hcd) pe_run (set_dict (by omega)) hs).to ?_⟩
  obtain ⟨⟨d0, e0, b0⟩, w⟩ := w
  obtain ⟨v0, ev, s⟩ := o.sl k d0 e0
  obtain ⟨z, _⟩ | ⟨_, a, rfl, r0⟩ := s
  · rw [b0] at z; cases z
  refine ⟨.ref a, ev, ha.go bad σ ρ H _ _ o w fun iv id bad1 ρ1 H1 p1 w1 => ?_⟩
  obtain ⟨kds, ky, e1, hk, hl, w1⟩ := w1
  have o1 := p1.st.back.ok
  have hi := key_of (p1.va.read p1.st.ok) hk
  obtain ⟨v', ev', s'⟩ := o1.sl k _ e1
  rw [ev] at ev'; cases ev'
  obtain ⟨z, _⟩ | ⟨_, a', ea, kvs, hvs, rk⟩ := s'
  · cases z
  cases ea
  refine ⟨a, upd H1 a (.dK (putK kvs (kmap ky) v)), rfl, .inl ⟨kvs, kmap ky, hvs, hi, by rw [rk.length]; exact hl, rfl⟩, ?_⟩
  have r1 : R F.K H1 (Mm bad σ ρ1) v d := r.mono p1.st.back.f p1.st.back.m
  have hM : Mm bad σ ρ1 a := .inr ⟨k, ev, _, e1, rfl⟩
  have ff : ∀ b x, H1 b = some x → ¬ Mm bad σ ρ1 b → upd H1 a (.dK (putK kvs (kmap ky) v)) b = some x := fun b x h n => by
    rw [upd_ne (fun z => n (by subst z; exact hM))]; exact h
  have rk2 := rk_put (k := ky) r1 rk
  have rc : RC F.K (upd H1 a (.dK (putK kvs (kmap ky) v))) (Mm bad σ ρ1) a (.map .own (dput kds ky d)) :=
    ⟨_, upd_same, rk2.1, rk2.2.mono ff fun b m => .inl m⟩
  have st := Stp.setc (d2 := .map .own (dput kds ky d)) o1 e1 rfl rfl rfl ev rc
  exact kk _ _ _ (p1.st.back.trans st).sst w1
/-! ### range(i, j, c), upwards -/
def upN (lo hi : Int) (c : Nat) : Nat := if lo < hi then ((hi - lo).toNat + c - 1) / c else 0
def upD (lo hi : Int) (c : Nat) : List D := (List.range (upN lo hi c)).map fun i => D.int (lo + (i : Nat) * (c : Int))
def wR3u (c : Nat) (τ : WA) : WI := fun ρ q => τ ρ fun as ρ1 => ∃ m n, argsD ρ1 as = some [.int m, .int n, .int c] ∧ (-(2 ^ 60) ≤ m ∧ m < 2 ^ 60 ∧ -(2 ^ 60) ≤ n ∧ n < 2 ^ 60) ∧ q (upD m n c) none ρ1
theorem up_size {m n : Int} {c : Nat} (hc : 0 < c) : Builtin.Range.rangeSize m n c = (upN m n c : Int) := by
  unfold Builtin.Range.rangeSize upN
  rw [if_pos (by omega : (c : Int) > 0)]
  by_cases h : m < n
  · rw [if_pos h, if_pos h]
    obtain ⟨k, hk⟩ : ∃ k : Nat, n - m = (k : Int) + 1 := ⟨(n - m - 1).toNat, by omega⟩
    rw [show (n - m).toNat = k + 1 by omega, show n - m - 1 = (k : Int) by omega, show k + 1 + c - 1 = k + c by omega, Nat.add_div_right _ hc]
    omega
  · rw [if_neg h, if_neg h]; rfl
end
section
variable {X : Cx} {F : Df} {e a b c tg : Expr} {pos p npos : Pos} {α β γ : WE} {τ : WA}
/-- a, b = e1, e2 of captured names -/
theorem d1_parG {i j : Nat} {x y : Str} {px py pt : Pos} {kt k2 pt2} (hp : F.pa.length ≤ i) (hp2 : F.pa.length ≤ j) (ha : DA X F [a, b] τ) (hc : X.calm = true) (hN : X.N.Nodup) (hi : X.N[i]? = some x := by rfl) (hj : X.N[j]? = some y := by rfl) (hij : i ≠ j := by decide)
    (hx : Loc X.env.scope x := by first | exact Or.inl rfl | exact Or.inr rfl) (hy : Loc X.env.scope y := by first | exact Or.inl rfl | exact Or.inr rfl)
    (hfx : X.fn x = true ∨ X.env.scope.names.lookup x = some .local := by first | exact .inl rfl | exact .inr rfl) (hfy : X.fn y = true ∨ X.env.scope.names.lookup y = some .local := by first | exact .inl rfl | exact .inr rfl)
    (hw : swappedStores [.Tuple [.Name x px, .Name y py] kt pt] (.Tuple [a, b] k2 pt2) X.env = pure none := by rfl)
    (hs : swapsWithSole [.Tuple [.Name x px, .Name y py] kt pt] (.Tuple [a, b] k2 pt2) pos.line X.env = pure false := by rfl)
    (h1 : (assignEach [.Tuple [.Name x px, .Name y py] kt pt] X.env).map (·.2) = [assign (.Tuple [.Name x px, .Name y py] kt pt) X.env] := by rfl)
    (hn : (assignEach [.Name x px, .Name y py] X.env).length = 2 := by rfl) (hst : (assignEach [.Name x px, .Name y py] X.env).findIdx? (·.1) = none := by rfl)
    (hs1 : (assignEach [.Name x px, .Name y py] X.env).map (·.2) = assign (.Name x px) X.env :: (assignEach [.Name y py] X.env).map (·.2) := by rfl)
    (hs2 : (assignEach [.Name y py] X.env).map (·.2) = assign (.Name y py) X.env :: (assignEach [] X.env).map (·.2) := by rfl) :
    D1 X F (.Assign [.Tuple [.Name x px, .Name y py] kt pt] (.Tuple [a, b] k2 pt2) pos) (wPar i j τ) := by
  refine ⟨fun bad σ ρ H E D o w kn kr kb kc => (ps_asg (pe_tup pa_run) (pg_tup hc (pgs_cons (pg_name hN hi hx hfx) (pgs_cons (pg_name hN hj hy hfy) pgs_nil hs2) hs1) hn hst) hs hw h1).to (ha.go bad σ ρ H _ _ o w fun vs as bad1 ρ1 H1 p1 w1 => ?_)⟩
  obtain ⟨dx, dy, ed, b1, b2, l1, l2, w1⟩ := w1
  have hl : vs.length = 2 := (p1.vals ed).1
  obtain ⟨v1, v2, rfl⟩ : ∃ v1 v2, vs = [v1, v2] := by
    match vs, hl with
    | [v1, v2], _ => exact ⟨v1, v2, rfl⟩
  refine ⟨by rw [hl]; decide, fun pp np => ⟨pp, [v1, v2], rfl, .inl (.inl upd_same), rfl, v1, [v2], rfl, v2, [], rfl, rfl, ?_⟩⟩
  have hs : ∀ b x, H1 b = some x → upd H1 pp (.tup [v1, v2]) b = some x := fun b x h => by
    rw [upd_ne (fun z => by subst z; rw [np] at h; cases h)]; exact h
  have tt : Stp F.K F.H0 F.pa σ bad1 ρ1 H1 bad1 ρ1 (upd H1 pp (.tup [v1, v2])) := ⟨p1.st.ok.same hs, fun _ _ => Iff.rfl, fun b x h _ => hs b x h, fun _ z => same_dom hs z, fun _ h => h, fun _ h => .inl h, fun _ d h k => ⟨d, h, k⟩⟩
  have p1 : PoA F.K F.H0 F.pa σ bad ρ H [v1, v2] as bad1 ρ1 (upd H1 pp (.tup [v1, v2])) := ⟨p1.st.trans tt, p1.len, fun i v a h1 h2 => Stp.argV (bad := bad) (ρ := ρ) p1.st.ok (p1.va i v a h1 h2) tt (fun j ej d e => by subst ej; exact p1.va i v (.slot j) h1 h2 d e), p1.un⟩
  generalize upd H1 pp (.tup [v1, v2]) = H1 at p1
  obtain ⟨a1, ea1, va1, nw1⟩ := p1.vaD ed (i := 0) rfl rfl b1
  obtain ⟨a2, ea2, va2, nw2⟩ := p1.vaD ed (i := 1) rfl rfl b2
  obtain ⟨bad3, g1, g2, g3, o3⟩ := p1.st.ok.putV (.of hp) l1 va1 b1 (bad2 := bad) (fun a n => o.dom a n) p1.st.bd
  have s3 : Stl F bad σ ρ H (σ.set i (some v1)) (ρ1.set i (some dx.keep)) H1 := by
    refine p1.st.put g1 (fun a e b => ?_) (keep_lock b1) o3
    rcases va1 with ⟨im, r⟩ | ⟨t, a', rfl, r, n, ba⟩ | ⟨b, _⟩
    · rw [keep_imm im, imm_brw im] at b; cases b
    · cases e; exact n
    · rw [b1] at b; cases b
  have va3 : Va F.K (σ.set i (some v1)) bad3 (ρ1.set i (some dx.keep)) H H1 v2 dy := by
    have m : ∀ b, Mm bad3 (σ.set i (some v1)) (ρ1.set i (some dx.keep)) b → Mm bad1 σ ρ1 b := fun b m => by
      rcases m with m | ⟨j', h1, e, h2, hb⟩
      · exact .inl (g2 b m)
      · rcases get_set_some h2 with ⟨rfl, h, hl⟩ | ⟨hj, h⟩
        · cases h
          rcases get_set_some h1 with ⟨_, h, _⟩ | ⟨hj, _⟩
          · cases h
            rcases va1 with ⟨im, r⟩ | ⟨t, a', e, r, n, ba⟩ | ⟨b, _⟩
            · rw [keep_imm im, imm_brw im] at hb; cases hb
            · cases e; exact .inl ba
            · rw [b1] at b; cases b
          · exact absurd rfl hj
        · rw [List.getElem?_set_ne (Ne.symm hj)] at h1
          exact .inr ⟨j', h1, e, h, hb⟩
    rcases va2 with ⟨im, r⟩ | ⟨t, a', e, r, n, ba⟩ | ⟨b, _⟩
    · exact .inl ⟨im, r.less m⟩
    · refine .inr (.inl ⟨t, a', e, r.less m, n, g3 a' ba ?_⟩)
      rcases three dx with im | t1 | b
      · exact .inr im
      · refine .inl fun e1 => ?_
        have := p1.un 0 1 v1 a1 v2 a2 a' rfl ea1 rfl ea2 (nw1 a' e1 t1) (nw2 a' e t)
        cases this
      · rw [b1] at b; cases b
    · rw [b2] at b; cases b
  obtain ⟨bad4, f1, f2, f3, o4⟩ := o3.putV (.of hp2) (by rw [List.length_set]; exact l2) va3 b2 (bad2 := bad) (fun a n => o.dom a n) g1
  refine kn _ _ H1 (s3.put (fun a e b => ?_) (keep_lock b2) (o4.less f1)) w1
  rcases va3 with ⟨im, r⟩ | ⟨t, a', e', r, n, ba⟩ | ⟨b, _⟩
  · rw [keep_imm im, imm_brw im] at b; cases b
  · rw [e'] at e; cases e; exact n
  · rw [b2] at b; cases b
end
section
variable {X : Cx} {F : Df} {e a b c tg : Expr} {pos p npos : Pos} {α β γ : WE} {τ : WA}
theorem RgC.up {i j : Int} {c : Nat} (hc : 0 < c) (hc' : c < 1000000) (ha : -(2 ^ 60) ≤ i) (ha' : i < 2 ^ 60) (hb : -(2 ^ 60) ≤ j) (hb' : j < 2 ^ 60) : RgC i j (c : Int) (upN i j c) := by
  refine ⟨by omega, by omega, ?_, up_size hc⟩
  unfold Builtin.Range.small
  rw [up_size hc]
  have h : upN i j c ≤ 2 ^ 61 := by
    unfold upN
    split
    · rw [Nat.div_le_iff_le_mul_add_pred hc]
      have : 2 ^ 61 ≤ c * 2 ^ 61 := Nat.le_mul_of_pos_left _ hc
      omega
    · omega
  simp only [Builtin.Range.rangeFitsLong, Bool.and_eq_true, Bool.or_eq_true, decide_eq_true_eq, beq_iff_eq]
  split <;> (try simp only [Bool.and_eq_true, decide_eq_true_eq]) <;> omega
theorem di_range3u (cn : Nat) (hg : Gl X "range") (hm : X.mg "range" = none) (ha : DA X F [a, b, c] τ) (h0 : 0 < cn := by decide) (h1 : cn < 1000000 := by decide)
    (hs : starEach [a, b, c] X.env = (false, eval a X.env) :: starEach [b, c] X.env := by rfl) (hpl : (backTo pos (starEach [b, c] X.env)).any (·.1) = false := by rfl) : DI X F tg (.Call (.Name "range" p) [a, b, c] [] pos) (wR3u cn τ) := by
  refine ⟨fun bad σ ρ H q Rr o w k => (pi_range3 hg hm pa_run hs hpl).to (ha.go bad σ ρ H _ _ o w fun vs as bad1 ρ1 H1 p1 w1 => ?_)⟩
  obtain ⟨m, n, ed, ⟨b1, b2, b3, b4⟩, w1⟩ := w1
  refine ⟨m, n, cn, upN m n cn, vals3D p1 ed, RgC.up h0 h1 b1 b2 b3 b4, k _ _ none bad1 ρ1 H1 p1.st (fun _ _ e => nomatch e) ?_ w1⟩
  have h : (upD m n cn).length = upN m n cn := by simp [upD]
  refine ⟨_, _, by rw [h]; exact walk_rangeC, fun bad2 σ2 ρ2 H2 s _ => ⟨trivial, fun i x H3 hi' y => ?_⟩⟩
  obtain ⟨rfl, rfl⟩ := y
  rw [h] at hi'
  refine ⟨fun _ _ h => h, .int (m + (i : Nat) * (cn : Int)), ?_, .int _⟩
  simp [upD, hi']
end
/-! ### reading of the new terms, for simp -/
section
variable {i j n : Nat} {c : Int} {ρ : VEnv} {q : D → VEnv → Prop} {qi : List D → Option (Nat × D) → VEnv → Prop} {qg : VEnv → Prop} {α β : WE} {τ : WA} {d x : D} {p : D → Prop} {kds : List (DKey × D)} {l : List Nat} {k : Kd}
@[simp] theorem x_gD : gD i α d ρ qg = ((∃ d0, ρ[i]? = some (some d0) ∧ d0.brw = true) ∧ α ρ fun x ρ1 => ∃ kds ky, ρ1[i]? = some (some (.map .own kds)) ∧ keyD x = some ky ∧ kds.length < sizeLine ∧ qg (ρ1.set i (some (.map .own (dput kds ky d))))) := rfl
@[simp] theorem x_R3u {m : Nat} : wR3u m τ ρ qi = τ ρ fun as ρ1 => ∃ ds, argsD ρ1 as = some ds ∧ as3 ds fun a b c => asI a fun i => asI b fun j => c = .int m ∧ (-(2 ^ 60) ≤ i ∧ i < 2 ^ 60 ∧ -(2 ^ 60) ≤ j ∧ j < 2 ^ 60) ∧ qi (upD i j m) none ρ1 := by
  unfold wR3u
  congr
  funext as ρ1
  refine propext ⟨fun ⟨m, n, e, h⟩ => ⟨_, e, rfl, h⟩, fun ⟨ds, e, h⟩ => ?_⟩
  match ds, e, h with
  | [x, y, z], e, h =>
    cases x <;> first | exact h.elim | skip
    cases y <;> first | exact h.elim | skip
    obtain ⟨e2, h⟩ := h
    subst e2
    exact ⟨_, _, e, h⟩
@[simp] theorem y_b10 : D.brw (.map .tmp kds) = false := rfl
@[simp] theorem y_b11 : D.brw (.map .own kds) = true := rfl
@[simp] theorem y_k10 : D.keep (.map .tmp kds) = .map .own kds := rfl
@[simp] theorem y_k11 : D.keep (.map .own kds) = .map .own kds := rfl
@[simp] theorem y_r10 : D.res (.map .own kds) = .map .tmp kds := rfl
@[simp] theorem y_t10 {k2 : Kd} : D.to k (.map k2 kds) = .map k kds := rfl
@[simp] theorem y_kd2 : D.kd (.map k kds) = k := rfl
@[simp] theorem o_key1 : keyD (.int c) = some (.inl c) := rfl
@[simp] theorem o_key2 : keyD (.str l) = some (.inr l) := rfl
@[simp] theorem o_dix : opDIx (.map k kds) x p = ∃ ky d, keyD x = some ky ∧ dget kds ky = some d ∧ p d := rfl
@[simp] theorem o_din {b : Bool} : opDIn b x (.map k kds) p = ∃ ky, keyD x = some ky ∧ p (.bl (if b then !(dget kds ky).isSome else (dget kds ky).isSome)) := by
  unfold opDIn; rfl
@[simp] theorem o_isT {b c : Bool} : opIs b (.bl c) (.bl true) p = p (.bl (if b then !c else c)) := by
  unfold opIs; cases c <;> simp [isD]
@[simp] theorem o_isF {b c : Bool} : opIs b (.bl c) (.bl false) p = p (.bl (if b then c else !c)) := by
  unfold opIs; cases c <;> simp [isD]
@[simp] theorem o_isS {b c : Bool} : opIs b (.str l) (.bl c) p = p (.bl b) := by
  unfold opIs; cases b <;> simp [isD]
@[simp] theorem o_isI {b c : Bool} {m : Int} : opIs b (.int m) (.bl c) p = p (.bl b) := by
  unfold opIs; cases b <;> simp [isD]
@[simp] theorem o_isU {b c : Bool} {ds : List D} : opIs b (.tup ds) (.bl c) p = p (.bl b) := by
  unfold opIs; cases b <;> simp [isD]
@[simp] theorem o_isN {b c : Bool} : opIs b .non (.bl c) p = p (.bl b) := by
  unfold opIs; cases b <;> simp [isD]
@[simp] theorem o_isNN {b : Bool} : opIs b x .non p = opIsN b x .non p := rfl
@[simp] theorem o_sortT : opSortedA (.str l) p = (l.length ≤ sizeLine ∧ ∀ l' : List Nat, l'.Perm l → l'.Pairwise (· ≤ ·) → p (.seq .tmp (l'.map fun c => .str [c]))) := rfl
theorem dget_put_same {ky : DKey} : ∀ {kds : List (DKey × D)}, dget (dput kds ky d) ky = some d := fun {kds} => by
  unfold dput
  split
  · rename_i h
    induction kds with
    | nil => cases h
    | cons a r ih =>
      obtain ⟨a, v⟩ := a
      rw [List.map_cons]
      unfold dget
      rw [List.find?_cons]
      by_cases e : a = ky
      · subst e; simp
      · rw [if_neg e]
        simp only [decide_eq_false e]
        rw [List.any_cons] at h
        simp only [decide_eq_false e, Bool.false_or] at h
        exact ih h
  · rename_i h
    unfold dget
    rw [List.find?_append]
    have : kds.find? (fun p => decide (p.1 = ky)) = none := by
      rw [List.find?_eq_none]; intro x hx hd
      exact h (List.any_eq_true.mpr ⟨x, hx, hd⟩)
    rw [this]; simp
theorem dget_put_other {ky kz : DKey} (hn : kz ≠ ky) : ∀ {kds : List (DKey × D)}, dget (dput kds ky d) kz = dget kds kz := fun {kds} => by
  unfold dput
  split
  · rename_i h
    clear h
    induction kds with
    | nil => rfl
    | cons a r ih =>
      obtain ⟨a, v⟩ := a
      rw [List.map_cons]
      unfold dget at ih ⊢
      rw [List.find?_cons, List.find?_cons]
      by_cases e : a = ky
      · subst e
        simp only [if_true, decide_eq_false (Ne.symm hn)]
        exact ih
      · rw [if_neg e]
        by_cases e2 : a = kz
        · subst e2; simp
        · simp only [decide_eq_false e2]; exact ih
  · unfold dget
    rw [List.find?_append]
    cases z : kds.find? (fun p => decide (p.1 = kz)) with
    | some v => simp
    | none => simp [Ne.symm hn]
theorem dput_len {ky : DKey} : (dput kds ky d).length ≤ kds.length + 1 := by
  unfold dput; split <;> simp
end
/-- an imported built-in function -/
theorem st_bi {K : PySem.W.Frag} {mg : Str → Option Value} {h : Heap} {x : Str} {Z : Prop} (id : String) (X : K.In h) (G : h.Ns mainGlobals mg) (a : PySem.W.nsIn K mainGlobals x = some (some (.builtin id))) (z : mg x = some (.builtin id) → Z) : Z := z (PySem.W.mg_of X G a)
end VL

namespace VL
open PySem PySem.Spec PyProof.Rows L2
/-! ### max, min of one row -/
def rMinStr : List V → Hp → VK → Prop := fun vs H Q => ∃ z : Str, vs = [V.str z] ∧ 0 < z.cps.size ∧ ∀ c, c ∈ z.cps.toList → (∀ d ∈ z.cps.toList, c ≤ d) → Q (.str ⟨#[c]⟩) H
theorem cr_minStr {X : Cx} (hc : X.calm = true) : CallR X (.builtin "min") rMinStr := by
  intro pins s σ H vs us Q I r h
  obtain ⟨z, rfl, hz, q⟩ := h
  obtain ⟨u, rfl, t, rfl⟩ := vals1 r
  have hh : X.A.in1.in1.handled = none := I.ok.hd hc
  refine call_min_walkH (wpAny_pyIter_str fun o St W hst => ?_)
  have lt0 : ∀ a b : Nat, decide (([a] : List Nat) < [b]) = decide ((a : Int) < (b : Int)) := fun a b => by
    by_cases e : a < b
    · rw [decide_eq_true (List.cons_lt_cons_iff.mpr (.inl e)), decide_eq_true (by omega)]
    · rw [decide_eq_false, decide_eq_false (by omega)]
      intro h
      rcases List.cons_lt_cons_iff.mp h with h | ⟨_, h⟩
      · exact e h
      · cases h
  refine ⟨_, _, _, _, _, _, _, ({} : Heap), fun i j => decide (((z.cps[i]?.getD 0 : Nat) : Int) < ((z.cps[j]?.getD 0 : Nat) : Int)), rfl, (W X.A.in1 (I.ok.hd hc)).toS, hst, ?_, hz, ?_, ?_, ?_, fun v s' hP hm => ?_⟩
  · intro b hb
    rw [List.mem_singleton.mp hb]
    show s.heap.objs.size < (s.heap.push o).objs.size
    rw [size_push']; exact Nat.lt_succ_self _
  · intro b o h; exact absurd h (by simp [Heap.get?])
  · intro b o h; exact absurd h (by simp [Heap.get?])
  · intro i j vi vj s2 Q2 E2 _ hi hj hq
    obtain ⟨a, ta, ea, rfl⟩ := hi
    obtain ⟨b, tb, eb, rfl⟩ := hj
    refine lt_str ?_
    show Q2 (.bool (decide (([a] : List Nat) < [b]))) s2
    rw [lt0]
    have e1 : z.cps[i]?.getD 0 = a := by rw [ea]; rfl
    have e2 : z.cps[j]?.getD 0 = b := by rw [eb]; rfl
    have hq : Q2 (.bool (decide (((z.cps[i]?.getD 0 : Nat) : Int) < ((z.cps[j]?.getD 0 : Nat) : Int)))) s2 := hq
    rw [e1, e2] at hq
    exact hq
  · obtain ⟨h1, h2⟩ := argBest_lt (fun i => ((z.cps[i]?.getD 0 : Nat) : Int)) (z.cps.size - 1)
    obtain ⟨c, tc, ec, rfl⟩ := hP
    obtain ⟨h', g', d', tk, o'⟩ := s'
    have hg := hm.gens
    have hd := hm.drawn
    have ho := hm.os
    cases hg; cases hd; cases ho
    refine ⟨.str ⟨#[c]⟩, H, I.kept (t' := tk) fun b u e => ?_, ⟨tc, rfl⟩, q c ?_ fun d hd => ?_⟩
    · refine hm.heap b u (fun hb => ?_) (Heap.get?_push_of_some _ e)
      rw [List.mem_singleton.mp hb] at e
      exact absurd (Heap.lt_size e) (Nat.lt_irrefl _)
    · rw [Array.mem_toList_iff]; exact Array.mem_of_getElem? ec
    · rw [Array.mem_toList_iff] at hd
      obtain ⟨j, hj, rfl⟩ := Array.mem_iff_getElem.mp hd
      have h3 := h2 j (by omega)
      have e1 : z.cps[argBest (fun i j => decide (((z.cps[i]?.getD 0 : Nat) : Int) < ((z.cps[j]?.getD 0 : Nat) : Int))) (z.cps.size - 1)]?.getD 0 = c := by rw [ec]; rfl
      rw [e1] at h3
      have e2 : z.cps[j]?.getD 0 = z.cps[j] := by rw [Array.getElem?_eq_getElem hj]; rfl
      rw [e2] at h3
      omega
def opMin1 : D → (D → Prop) → Prop
  | .str l, q => l ≠ [] ∧ ∀ c, c ∈ l → (∀ d ∈ l, c ≤ d) → q (.str [c])
  | .seq _ ds, q => ∃ ns, intsOf ds = some ns ∧ ns ≠ [] ∧ ∀ m, m ∈ ns → (∀ y ∈ ns, m ≤ y) → q (.int m)
  | _, _ => False
def opMax1 : D → (D → Prop) → Prop
  | .seq _ ds, q => ∃ ns, intsOf ds = some ns ∧ ns ≠ [] ∧ ∀ m, m ∈ ns → (∀ y ∈ ns, y ≤ m) → q (.int m)
  | _, _ => False
theorem v1_min1 {K : PySem.W.Frag} : V1 K (fun x H Q => rMin K [x] H Q ∨ rMinStr [x] H Q) opMin1 := fun H M x dx q Q dm rx w k => by
  match dx, rx, w with
  | .str l, rx, ⟨w1, w2⟩ =>
    rw [rx.strE]
    exact .inr ⟨mkS l, rfl, by have := List.length_pos_iff.mpr w1; simpa [mkS] using this, fun c hc hd => k _ _ H (res_str [c]) (w2 c (by rw [mkS_list] at hc; exact hc) (by rw [mkS_list] at hd; exact hd))⟩
  | .seq kd ds, rx, ⟨ns, w1, w2, w3⟩ =>
    obtain ⟨a, vs, rfl, t, rs, _⟩ := rx.seqE
    rw [intsOf_eq w1] at rs
    exact .inl ⟨a, ns, rfl, by rw [← rs.ints]; exact t, List.length_pos_iff.mpr w2, fun m h1 h2 => k _ _ H (res_int m) (w3 m h1 h2)⟩
theorem v1_max1 {K : PySem.W.Frag} : V1 K (fun x H Q => rMax K [x] H Q) opMax1 := fun H M x dx q Q dm rx w k => by
  match dx, rx, w with
  | .seq kd ds, rx, ⟨ns, w1, w2, w3⟩ =>
    obtain ⟨a, vs, rfl, t, rs, _⟩ := rx.seqE
    rw [intsOf_eq w1] at rs
    exact ⟨a, ns, rfl, by rw [← rs.ints]; exact t, List.length_pos_iff.mpr w2, fun m h1 h2 => k _ _ H (res_int m) (w3 m h1 h2)⟩
section
variable {X : Cx} {F : Df} {a : Expr} {pos p : Pos} {τ : WA}
theorem r_min1 (hc : X.calm = true) (hK : X.K = F.K) (hm : X.mg "min" = none) (hg : Gl X "min") (ha : DA X F [a] τ) (he : starEach [a] X.env = (false, eval a X.env) :: starEach [] X.env := by rfl) : DE X F (.Call (.Name "min" p) [a] [] pos) (wCallN (f1 opMin1) τ) := de_callB ((cr_min hc).or (cr_minStr hc)) (by rw [hK]; exact vn1 v1_min1) hg hm b_min ha (by decide) (by decide) he rfl
theorem r_max1 (hc : X.calm = true) (hK : X.K = F.K) (hm : X.mg "max" = none) (hg : Gl X "max") (ha : DA X F [a] τ) (he : starEach [a] X.env = (false, eval a X.env) :: starEach [] X.env := by rfl) : DE X F (.Call (.Name "max" p) [a] [] pos) (wCallN (f1 opMax1) τ) := de_callB (cr_max hc) (by rw [hK]; exact vn1 v1_max1) hg hm b_max ha (by decide) (by decide) he rfl
end
@[simp] theorem o_min1s {l : List Nat} {p : D → Prop} : opMin1 (.str l) p = (l ≠ [] ∧ ∀ c, c ∈ l → (∀ d ∈ l, c ≤ d) → p (.str [c])) := rfl
@[simp] theorem o_max1 {k : Kd} {ds : List D} {p : D → Prop} : opMax1 (.seq k ds) p = ∃ ns, intsOf ds = some ns ∧ ns ≠ [] ∧ ∀ m, m ∈ ns → (∀ y ∈ ns, y ≤ m) → p (.int m) := rfl
end VL

namespace VL
open PySem PySem.Spec PyProof.Rows L2
/-! ### enumerate of a list, a tuple, a text -/
theorem z_draws {prog : Program} {w : World} {A : Around} (hh : A.handled = none) {c : ZS} {it : Addr} {n : Nat} {G : Nat → Value → Prop} (hne : ∀ a, c.ad = some a → a ≠ it) :
    Draws prog w A it (it :: c.ad.toList) n G (fun i h => ZSt c it i h ∧ ZC c n G h) where
  live := fun _ _ st => let ⟨o, ho, _⟩ := st.1.obj; ⟨o, ho⟩
  frame := fun _ _ _ st hk => ⟨st.1.on fun o e => hk it (by simp) o e, st.2.on fun a o e => hk a (by simp [e]) o⟩
  item := fun i s Q E hi st hQ => z_item st.1 st.2 hi fun v h2 tk g z sb => hQ v h2 tk g ⟨z, st.2.on fun a o e ho => sb.extBut a o (hne a e) ho⟩ sb
  done := fun s Q E st hE => z_end hh st.1 st.2 (Nat.le_refl _) hE
theorem e_meets {G : Heap → Prop} {u : Value} {o : Obj} (h1 : PyI G u o) :
    Meets (Builtin.«enumerate.__new__» ⟨[.type "enumerate", u], []⟩) (fun _ R s => G s.heap ∧
      R (.ok (.ret (.ref (s.heap.push o).objs.size))) { s with heap := (s.heap.push o).push { cls := .type "enumerate", data := .fields #[.none, .bool false, .ref s.heap.objs.size, rawInt 0, .none, .none] } }) :=
  .of_wp fun prog w A R s h => by
    obtain ⟨hp, g, d, tk, os⟩ := s; obtain ⟨g1, h⟩ := h
    have hsub := sub_enumerate
    have k1 : G (Shared.heap ⟨hp, g, d, tk, os⟩) := g1
    wp_walk using h1 k1
    refine wpAny_stack_any fun st => wpAny_pure ?_
    split
    · rename_i c _ _ _ _ _
      cases (c == Value.type "enumerate")
      · wp_walk using h1 k1
        exact ⟨_, rfl, h⟩
      · wp_walk using h1 k1
        exact ⟨_, rfl, h⟩
    · wp_walk using h1 k1
      exact ⟨_, rfl, h⟩
section
variable {prog : Program} {w : World} {A : Around} {E : Value → Shared → Prop} {s : Shared}
theorem e_call {G : Heap → Prop} {u : Value} {o : Obj} {Q : Value → Shared → Prop} (h1 : PyI G u o) (f1 : o.isFreed = false) (g1 : G s.heap)
    (k : ∀ hp, IsEnum hp (s.heap.objs.size + 1) s.heap.objs.size 0 .none → hp.get? s.heap.objs.size = some o → (∀ b x, s.heap.get? b = some x → hp.get? b = some x) → Q (.ref (s.heap.objs.size + 1)) { s with heap := hp }) :
    wpAny (model prog w) A (call (.type "enumerate") [u]) Q E s := by
  refine callType_new F.called_enumerate (by decide) (F.typeCall_enumerate_1 _) (F.newCall_enumerate_1 _) (fun obj => F.args_object_init_2 obj _) F.entry_enumerate_new (e_meets h1) ⟨g1, ?_⟩
  have hz : (s.heap.push o).objs.size = s.heap.objs.size + 1 := Heap.size_push ..
  show _ ∧ _
  rw [hz]
  have he : IsEnum ((s.heap.push o).push { cls := .type "enumerate", data := .fields #[.none, .bool false, .ref s.heap.objs.size, rawInt 0, .none, .none] }) (s.heap.objs.size + 1) s.heap.objs.size 0 .none := by
    have := Heap.get?_push_size (s.heap.push o) (o := { cls := .type "enumerate", data := .fields #[.none, .bool false, .ref s.heap.objs.size, rawInt 0, .none, .none] }) rfl
    rw [hz] at this; exact this
  exact ⟨⟨_, he, rfl⟩, k _ he (Heap.get?_push_of_some _ (Heap.get?_push_size _ f1)) fun b o x => Heap.get?_push_of_some _ (Heap.get?_push_of_some _ x)⟩
end
def Itm (K : PySem.W.Frag) (c : ZS) : It :=
  ⟨fun i H => ∃ xs : List V, ZD K H c xs ∧ i < xs.length,
    fun i H v H2 => ∃ T x, v = .ref T ∧ H T = none ∧ H2 = upd H T (.tup [.int (i : Nat), x]) ∧ ∀ xs, ZD K H c xs → xs[i]? = some x,
    fun i H => ∃ xs : List V, ZD K H c xs ∧ xs.length ≤ i⟩
theorem turn_enumq {P : Program} {w : World} {K : PySem.W.Frag} {elts : List Expr} {kk : Nat} {tpos : Pos} {c : ZS} (e it : Addr) (hei : e ≠ it) (hce : ∀ a, c.ad = some a → a ≠ e) (hci : ∀ a, c.ad = some a → a ≠ it) :
    Turn P w K (.Tuple elts kk tpos) (Itm K c) [e, it] e (fun i h => (∃ old, IsEnum h e it ((i : Nat) : Int) old) ∧ ZSt c it i h) where
  mem := by simp
  obj := fun i h st b hb => by
    obtain ⟨⟨old, he⟩, sp⟩ := st
    have e' : b = e ∨ b = it := by simpa using hb
    rcases e' with z | z
    · rw [z]; exact ⟨_, he, fun v q => nomatch q⟩
    · rw [z]; exact sp.obj
  keep := fun i h h' st k => let ⟨⟨old, he⟩, sp⟩ := st; ⟨⟨old, k e (by simp) _ he⟩, sp.on (k it (by simp))⟩
  item := by
    intro X hP hw hK hc i pins s σ H E I hf st hg
    subst hP hw hK
    obtain ⟨⟨old, he⟩, sp⟩ := st
    obtain ⟨xs, zx, lx⟩ := hg
    obtain ⟨zc, _, la⟩ := zx.zc I
    have hel : e < s.heap.objs.size := Heap.lt_size he
    have hil : it < s.heap.objs.size := by obtain ⟨_, q, _⟩ := sp.obj; exact Heap.lt_size q
    have hef : e ∉ it :: c.ad.toList := fun m => by
      rcases List.mem_cons.mp m with m | m
      · exact hei m
      · have : c.ad = some e := by simpa using m
        exact hce e this rfl
    refine wpAny_pyNext_enum_itemD (z_draws (A := X.A.in1) (I.ok.hd hc) hci) he ⟨sp, zc⟩ lx hei hef fun u h' tk ⟨x, hx, ru⟩ ho st' hT hsz hk => ?_
    refine ⟨_, rfl, wpAny_letOwnedTupleGo_enum (s := { s with heap := h', toks := tk + 1 }) ho fun h'' he' sb => ?_⟩
    have hT2 : h''.get? s.heap.objs.size = some { cls := .type "tuple", data := .seq #[.int i tk, u] } := (sb.2 _ (Nat.ne_of_gt hel)).trans hT
    have new : ObjOk X.prog X.w (upd H s.heap.objs.size (.tup [.int (i : Nat), x])) h'' s.heap.objs.size (.tup [.int (i : Nat), x]) :=
      ⟨by show 2 ≤ sizeLine; decide, [.int i tk, u], .cons ⟨_, rfl⟩ (.cons ru .nil), ⟨_, hT2, rfl, _, rfl⟩⟩
    have I1 : Inv X pins σ (upd H s.heap.objs.size (.tup [.int (i : Nat), x])) { s with heap := h'', toks := tk + 1 } :=
      I.turnedNew (ch := [e, it]) (fun b ob hb q => (sb.2 b (fun z => hb (by simp [z]))).trans (hk b ob (fun z => hb (by simp [z])) (fun z => hb (by simp [z])) q)) hf (Nat.le_refl _) new
    refine ⟨.ref s.heap.objs.size, _, I1, rfl, ⟨_, x, rfl, I.hok.fresh (Nat.le_refl _), rfl, fun ys hy => by rw [zx.inj I hy]; exact hx⟩, ⟨⟨u, ?_⟩, st'.1.on fun o q => (sb.2 it (Ne.symm hei)).trans q⟩, fun b hb => ?_⟩
    · have e1 : ((i + 1 : Nat) : Int) = (i : Int) + 1 := by omega
      rw [e1]; exact he'
    · have hb' : b < s.heap.objs.size := by
        have e' : b = e ∨ b = it := by simpa using hb
        rcases e' with z | z
        · rw [z]; exact hel
        · rw [z]; exact hil
      rw [upd_ne (Nat.ne_of_lt hb')]
      exact (hf b hb).1
  done := by
    intro X hP hw hK hc i pins s σ H E I hf st hg
    subst hP hw hK
    obtain ⟨⟨old, he⟩, sp⟩ := st
    obtain ⟨xs, zx, lx⟩ := hg
    obtain ⟨zc, _, la⟩ := zx.zc I
    obtain ⟨f0, f1, f2, f3, f4, f5⟩ := hf it (by simp)
    have D : Draws X.prog X.w X.A.in1 it (it :: c.ad.toList) 0 (fun i u => ∃ x, xs[i]? = some x ∧ RelV x u) (fun _ h => ZSt c it i h ∧ ZC c xs.length (fun i u => ∃ x, xs[i]? = some x ∧ RelV x u) h) :=
      { live := fun _ _ st => let ⟨o, ho, _⟩ := st.1.obj; ⟨o, ho⟩
        frame := fun _ _ _ st hk => ⟨st.1.on fun o e => hk it (by simp) o e, st.2.on fun a o e => hk a (by simp [e]) o⟩
        item := fun j s Q E hj st hQ => absurd hj (Nat.not_lt_zero _)
        done := fun s Q E st hE => z_end (I.ok.hd hc) st.1 st.2 lx hE }
    exact wpAny_pyNext_enum_endD D he ⟨sp, zc⟩ fun h' eb => ⟨rfl, I.turned (t' := s.toks) (fun b o hb q => eb b o hb q) f0 f1 f3 f4 f5⟩
  self := fun A i s Q E st h => let ⟨⟨_, he⟩, _⟩ := st; wpAny_pyIter_enum he h
def iEnumq (K : PySem.W.Frag) (ta : TA) : TI := fun σ H R => ta σ H fun vs H1 => ∃ c xs, vs = [zval c] ∧ ZD K H1 c xs ∧ R (Itm K c) H1
theorem pi_enumq {X : Cx} {e : Expr} {ta : TA} {p pos tpos : Pos} {elts : List Expr} {kk : Nat} (hg : Gl X "enumerate") (hm : X.mg "enumerate" = none) (ha : PA X [e] ta)
    (hs : starEach [e] X.env = [(false, eval e X.env)] := by rfl) :
    PI X (.Tuple elts kk tpos) (.Call (.Name "enumerate" p) [e] [] pos) (iEnumq X.K ta) := by
  refine ⟨fun pins s σ H R I h => Call_ (ld_blt I hg hm boot_enumerate (PyProof.Rows.callWith_type1 (thn (ha.run pos pins s σ H _ I h) fun us s1 ⟨vs, H1, I1, r1, q1⟩ => ?_) hs rfl))⟩
  obtain ⟨c, xs, rfl, zx, q⟩ := q1
  cases r1 with
  | cons r rr =>
  cases rr
  obtain ⟨zc, g1, l1⟩ := zx.zc I1
  obtain ⟨o, i1, f1, t1⟩ := z_iter c r
  refine e_call i1 f1 g1 fun hp he e1 hk => wpAny_pyIter_enum he ?_
  have I2 : Inv X pins σ H1 { s1 with heap := hp } := I1.kept (t' := s1.toks) hk
  have hlt : ∀ a, c.ad = some a → (a : Nat) < (s1.heap.objs.size : Nat) := l1
  refine ⟨s1.heap.objs.size + 1, [s1.heap.objs.size + 1, s1.heap.objs.size], _, _, H1, rfl, I2, turn_enumq (c := c) (s1.heap.objs.size + 1) s1.heap.objs.size (Nat.succ_ne_self _) (fun a e z => by have := hlt a e; rw [z] at this; exact absurd this (Nat.not_lt.mpr (Nat.le_succ _))) (fun a e z => by have := hlt a e; rw [z] at this; exact absurd this (Nat.lt_irrefl _)), ⟨⟨.none, he⟩, t1 _ _ e1⟩, fun b hb => ?_, q⟩
  have le : s1.heap.objs.size ≤ b := by
    have e' : b = s1.heap.objs.size + 1 ∨ b = s1.heap.objs.size := by simpa using hb
    rcases e' with z | z
    · rw [z]; exact Nat.le_add_right _ _
    · rw [z]; exact Nat.le_refl _
  exact I1.fpOk le (I1.hok.fresh le)
/-- number and item -/
def enumD (ds : List D) : List D := List.zipWith pairD ((List.range ds.length).map fun i : Nat => D.int i) ds
section
variable {F : Df} {bad : Addr → Prop} {σ : L2.St} {ρ : VEnv} {H : Hp} {v : V} {d : D} {ds es : List D} {a : Addr} {vs : List V} {c c2 : ZS} {wt : Option (Nat × D)}
theorem jok_enum (z1 : ZOk F bad σ ρ H wt c ds) : JOk F bad σ ρ H wt (Itm F.K c) (enumD ds) := by
  have len : (enumD ds).length = ds.length := by simp [enumD]
  refine ⟨fun H => ∃ xs, ZD F.K H c xs ∧ xs.length = ds.length, (Itm F.K c).yld, ⟨fun i H hi ⟨xs, h1, l1⟩ => ?_, fun H ⟨xs, h1, l1⟩ => ?_, fun _ _ _ _ _ _ y => y⟩, fun bad2 σ2 ρ2 H2 s h => ?_⟩
  · rw [len] at hi
    exact ⟨xs, h1, by omega⟩
  · refine ⟨xs, h1, ?_⟩
    rw [len]; omega
  · obtain ⟨xs, h1, r1⟩ := z1 bad2 σ2 ρ2 H2 s h
    refine ⟨⟨xs, h1, r1.1⟩, fun i x H3 hi y => ?_⟩
    obtain ⟨T, u, rfl, nT, rfl, f1⟩ := y
    obtain ⟨d1, e1, q1⟩ := r1.getV (f1 xs h1)
    have rr := res_tup (M := Mm bad2 σ2 ρ2) (fun b m => s.ss.ok.mdom m) nT (.cons (.int (i : Nat)) (.cons q1 .nil))
    refine ⟨rr.1, pairD (.int (i : Nat)) d1, ?_, ?_⟩
    · have hi' : i < ds.length := (List.getElem?_eq_some_iff.mp e1).1
      unfold enumD
      rw [List.getElem?_zipWith, e1, List.getElem?_map, List.getElem?_range hi']; rfl
    · rcases rr.2 with ⟨_, r⟩ | ⟨t, _⟩
      · exact r
      · cases t
end
def wEnum (τ : WA) : WI := fun ρ q => τ ρ fun as ρ1 => ∃ x ds, argsD ρ1 as = some [x] ∧ x.brw = false ∧ itemsOf x = some ds ∧ q (enumD ds) none ρ1
section
variable {X : Cx} {F : Df} {e a b c o tg iter : Expr} {pos apos cpos npos p tpos : Pos} {τ : WA} {elts : List Expr} {kk : Nat}
theorem di_enum (hK : X.K = F.K) (hg : Gl X "enumerate") (hm : X.mg "enumerate" = none) (ha : DA X F [a] τ)
    (hs : starEach [a] X.env = [(false, eval a X.env)] := by rfl) :
    DI X F (.Tuple elts kk tpos) (.Call (.Name "enumerate" p) [a] [] pos) (wEnum τ) := by
  refine ⟨fun bad σ ρ H q Rr o w k => (pi_enumq hg hm pa_run hs).to (ha.go bad σ ρ H _ _ o w fun vs as bad1 ρ1 H1 p1 w1 => ?_)⟩
  obtain ⟨x, ds, ed, nb, e1, w1⟩ := w1
  rw [hK]
  have la : as.length = 1 := by obtain ⟨h, _⟩ := argsD_get ed; rw [h]; rfl
  have lv : vs.length = 1 := by rw [p1.len, la]
  obtain ⟨v1, rfl⟩ : ∃ v1, vs = [v1] := by
    match vs, lv with
    | [v1], _ => exact ⟨v1, rfl⟩
  have o1 := p1.st.ok
  obtain ⟨_, _, va, _⟩ := p1.vaD ed (i := 0) rfl rfl nb
  obtain ⟨c, rfl, z1⟩ := zok_of (wt := none) o1 va e1 nb
  have s0 := Lat.of (Stl.refl o1).toSst
  obtain ⟨xs, zx, _⟩ := z1 _ _ _ _ s0 (fun _ _ e => nomatch e)
  exact ⟨c, xs, rfl, zx, k _ _ none bad1 ρ1 H1 p1.st (fun _ _ e => nomatch e) (jok_enum z1) w1⟩
end
@[simp] theorem x_enum {ρ : VEnv} {τ : WA} {qi : List D → Option (Nat × D) → VEnv → Prop} : wEnum τ ρ qi = τ ρ fun as ρ1 => ∃ x ds, argsD ρ1 as = some [x] ∧ x.brw = false ∧ itemsOf x = some ds ∧ qi (enumD ds) none ρ1 := rfl
end VL

namespace VL
open PySem PySem.Spec PyProof.Rows L2
/-! ### sum of a tuple -/
def rSumT (K : PySem.W.Frag) : List V → Hp → VK → Prop := fun vs H Q => ∃ (a : Addr) (ns : List Int), vs = [V.ref a] ∧ SqT K H a (ns.map V.int) ∧ Q (.int ns.sum) H
theorem cr_sumT {X : Cx} (hc : X.calm = true) : CallR X (.builtin "sum") (rSumT X.K) := by
  intro pins s σ H vs us Q I r h
  obtain ⟨a, ns, rfl, hs, q⟩ := h
  obtain ⟨its, rv, hl, _⟩ := I.tuple hs
  rw [Vals.ref1 r]
  have hi := rv.ints
  obtain ⟨xs, e⟩ := hi.allInts.items
  have hn : numsOf (intItems xs).toList = ns := by rw [← e]; exact hi.numsOf
  rw [nums_intItems] at hn
  have hl : s.heap.IsTuple a its.toArray := hl
  rw [e] at hl
  refine PySem.W.ktm_sumG (I.ok.hd hc) hl fun h' tk t' hk => ?_
  rw [preSum_eq, List.take_of_length_le (by simp), hn]
  exact ⟨.int _, H, I.kept hk, ⟨_, rfl⟩, q⟩
def opSumA : D → (D → Prop) → Prop
  | .tup ds, q => ∃ ns, intsOf ds = some ns ∧ q (.int ns.sum)
  | d, q => opSum d q
theorem v1_sumA {K : PySem.W.Frag} : V1 K (fun x H Q => rSum K [x] H Q ∨ rSumT K [x] H Q) opSumA := fun H M x dx q Q dm rx w k => by
  match dx, rx, w with
  | .tup ds, rx, ⟨ns, e, w⟩ =>
    obtain ⟨a, vs, rfl, t, rs⟩ := rx.tupE
    rw [intsOf_eq e] at rs
    exact .inr ⟨a, ns, rfl, by rw [← rs.ints]; exact t, k _ _ H (res_int _) w⟩
  | .seq kd ds, rx, w => exact .inl (v1_sum H M x _ q Q dm rx w k)
section
variable {X : Cx} {F : Df} {a : Expr} {pos p : Pos} {τ : WA}
theorem r_sumA (hc : X.calm = true) (hK : X.K = F.K) (hm : X.mg "sum" = none) (hg : Gl X "sum") (ha : DA X F [a] τ) (he : starEach [a] X.env = (false, eval a X.env) :: starEach [] X.env := by rfl) : DE X F (.Call (.Name "sum" p) [a] [] pos) (wCallN (f1 opSumA) τ) := de_callB ((cr_sum hc).or (cr_sumT hc)) (by rw [hK]; exact vn1 v1_sumA) hg hm b_sum ha (by decide) (by decide) he rfl
end
@[simp] theorem o_sumT {ds : List D} {p : D → Prop} : opSumA (.tup ds) p = ∃ ns, intsOf ds = some ns ∧ p (.int ns.sum) := rfl
/-! ### join of a tuple -/
def opJoinA : D → List D → (D → Prop) → Prop
  | .str [], [.tup ds], q => ∃ ss, strsOf ds = some ss ∧ ss.flatten.length ≤ 16777216 ∧ q (.str ss.flatten)
  | d, ds, q => opJoin d ds q
theorem vm_joinA {K : PySem.W.Frag} : VM K (fun x xs H Q => ∃ a p, ∃ ys : List Str, x = .str a ∧ xs = [.ref p] ∧ (SqL K H p (ys.map V.str) ∨ SqT K H p (ys.map V.str)) ∧ (ys.map (·.length)).sum + ys.length * a.length ≤ 16777216 ∧ Q (.str (Txt.join a ys)) H) opJoinA := fun H M x dx xs ds q Q dm rx hl hr w k => by
  match dx, ds, xs, hl, w with
  | .str [], [.tup ds], [y], _, ⟨ss, e, hz, w⟩ =>
    obtain ⟨a, vs, rfl, t, rs⟩ := (hr 0 y _ rfl rfl).tupE
    rw [strsOf_eq e] at rs
    rw [rx.strE]
    refine ⟨mkS [], a, ss.map mkS, rfl, rfl, .inr (by rw [← rs.strs]; exact t), ?_, ?_⟩
    · rw [sum_lens]; simpa [mkS_len] using hz
    · rw [txt_join_nil]; exact k _ _ H (res_str _) w
  | .str [], [.seq kd ds], [y], hl, w => exact vm_join H M x (.str []) [y] [.seq kd ds] q Q dm rx hl hr w k
section
variable {X : Cx} {F : Df} {o e : Expr} {pos p apos cpos : Pos} {α : WE} {τ : WA}
theorem r_joinA (hK : X.K = F.K) (ho : DE X F o α) (ha : DA X F [e] τ) (hbase : attributeBase o "join" X.env (eval o X.env) = eval o X.env := by rfl)
    (hfew : ((backTo cpos (starEach [e] X.env)).all (fun x => !x.1) && (backToKw cpos (keywordEach [] X.env)).all (fun x => x.1.isSome) && decide ([e].length + ([] : List Keyword).length + (if ([] : List Keyword).isEmpty then 0 else 1) < 30)) = true := by rfl)
    (hline : (apos.endLine == cpos.line) = true := by rfl) (hs : starEach [e] X.env = (false, eval e X.env) :: starEach [] X.env := by rfl) : DE X F (.Call (.Attribute o "join" apos) [e] [] cpos) (wMeth "str" opJoinA α τ) :=
  de_meth PySem.F.plainAttrs_str PySem.F.slot_str_join PySem.F.type_str_join mt_join hK (by rw [hK]; exact vm_joinA) ho ha hbase hfew hline hs rfl
end
@[simp] theorem o_joinT {ds : List D} {p : D → Prop} : opJoinA (.str []) [.tup ds] p = ∃ ss, strsOf ds = some ss ∧ ss.flatten.length ≤ 16777216 ∧ p (.str ss.flatten) := rfl
end VL

namespace VL
open PySem PySem.Spec PyProof.Rows L2
/-! ### a, b, c = e1, e2, e3 -/
section
variable {K : PySem.W.Frag} {H0 H H1 H2 : Hp} {pa : List (Option Addr)} {σ : L2.St} {bad bad1 bad3 : Addr → Prop} {ρ ρ1 : VEnv} {v v1 v2 : V} {d dx dy : D} {i : Nat}
theorem Va.after (b1 : dx.brw = false) (va1 : Va K σ bad1 ρ1 H H1 v1 dx) (g2 : ∀ b, bad3 b → bad1 b) (g3 : ∀ b, bad1 b → v1 ≠ .ref b ∨ dx.imm = true → bad3 b) (b2 : dy.brw = false) (va2 : Va K σ bad1 ρ1 H H1 v2 dy)
    (un : ∀ a, v1 = .ref a → v2 = .ref a → dx.isTmp = true → dy.isTmp = true → False) : Va K (σ.set i (some v1)) bad3 (ρ1.set i (some dx.keep)) H H1 v2 dy := by
  have m : ∀ b, Mm bad3 (σ.set i (some v1)) (ρ1.set i (some dx.keep)) b → Mm bad1 σ ρ1 b := fun b m => by
    rcases m with m | ⟨j', h1, e, h2, hb⟩
    · exact .inl (g2 b m)
    · rcases get_set_some h2 with ⟨rfl, h, hl⟩ | ⟨hj, h⟩
      · cases h
        rcases get_set_some h1 with ⟨_, h, _⟩ | ⟨hj, _⟩
        · cases h
          rcases va1 with ⟨im, r⟩ | ⟨t, a', e, r, n, ba⟩ | ⟨b, _⟩
          · rw [keep_imm im, imm_brw im] at hb; cases hb
          · cases e; exact .inl ba
          · rw [b1] at b; cases b
        · exact absurd rfl hj
      · rw [List.getElem?_set_ne (Ne.symm hj)] at h1
        exact .inr ⟨j', h1, e, h, hb⟩
  rcases va2 with ⟨im, r⟩ | ⟨t, a', e, r, n, ba⟩ | ⟨b, _⟩
  · exact .inl ⟨im, r.less m⟩
  · refine .inr (.inl ⟨t, a', e, r.less m, n, g3 a' ba ?_⟩)
    rcases three dx with im | t1 | b
    · exact .inr im
    · exact .inl fun e1 => un a' e1 e t1 t
    · rw [b1] at b; cases b
  · rw [b2] at b; cases b
theorem Va.own (nb : d.brw = false) (va : Va K σ bad1 ρ1 H H1 v d) : ∀ a, v = .ref a → d.keep.brw = true → H a = none := fun a e b => by
  rcases va with ⟨im, r⟩ | ⟨t, a', rfl, r, n, ba⟩ | ⟨b, _⟩
  · rw [keep_imm im, imm_brw im] at b; cases b
  · cases e; exact n
  · rw [nb] at b; cases b
end
def wPar3 (i j l : Nat) (τ : WA) : WS := fun E ρ => τ ρ fun as ρ1 => ∃ x y z, argsD ρ1 as = some [x, y, z] ∧ x.brw = false ∧ y.brw = false ∧ z.brw = false ∧ i < ρ1.length ∧ j < ρ1.length ∧ l < ρ1.length ∧ E.nx (((ρ1.set i (some x.keep)).set j (some y.keep)).set l (some z.keep))
theorem as3_iff {o : Option (List D)} {p : D → D → D → Prop} : (∃ x y z, o = some [x, y, z] ∧ p x y z) = ∃ ds, o = some ds ∧ as3 ds p := propext ⟨fun ⟨x, y, z, e, h⟩ => ⟨_, e, h⟩, fun ⟨ds, e, h⟩ => by
  match ds, h with
  | [x, y, z], h => exact ⟨x, y, z, e, h⟩⟩
@[simp] theorem x_par3 {i j l : Nat} {τ : WA} {E : VEnd} {ρ : VEnv} : wPar3 i j l τ E ρ = τ ρ fun as ρ1 => ∃ ds, argsD ρ1 as = some ds ∧ as3 ds fun x y z => x.brw = false ∧ y.brw = false ∧ z.brw = false ∧ i < ρ1.length ∧ j < ρ1.length ∧ l < ρ1.length ∧ E.nx (((ρ1.set i (some x.keep)).set j (some y.keep)).set l (some z.keep)) := by
  unfold wPar3; simp only [as3_iff]
section
variable {X : Cx} {F : Df} {e a b c tg : Expr} {pos p npos : Pos} {α β γ : WE} {τ : WA}
theorem d1_par3 {i j l : Nat} {x y z : Str} {px py pz pt : Pos} {kt k2 pt2} (hp : F.pa.length ≤ i) (hp2 : F.pa.length ≤ j) (hp3 : F.pa.length ≤ l) (ha : DA X F [a, b, c] τ) (hc : X.calm = true) (hN : X.N.Nodup) (hi : X.N[i]? = some x := by rfl) (hj : X.N[j]? = some y := by rfl) (hl : X.N[l]? = some z := by rfl)
    (hij : i ≠ j := by decide) (hil : i ≠ l := by decide) (hjl : j ≠ l := by decide)
    (hx : X.env.scope.names.lookup x = some .local := by rfl) (hy : X.env.scope.names.lookup y = some .local := by rfl) (hz : X.env.scope.names.lookup z = some .local := by rfl)
    (hw : swappedStores [.Tuple [.Name x px, .Name y py, .Name z pz] kt pt] (.Tuple [a, b, c] k2 pt2) X.env = pure (some [x, y, z]) := by rfl)
    (hs : swapsWithSole [.Tuple [.Name x px, .Name y py, .Name z pz] kt pt] (.Tuple [a, b, c] k2 pt2) pos.line X.env = pure false := by rfl) :
    D1 X F (.Assign [.Tuple [.Name x px, .Name y py, .Name z pz] kt pt] (.Tuple [a, b, c] k2 pt2) pos) (wPar3 i j l τ) := by
  refine ⟨fun bad σ ρ H E D o w kn kr kb kc => (ps_par3 hc hN hi hj hl hij hil hjl hx hy hz pa_run hw hs).to (ha.go bad σ ρ H _ _ o w fun vs as bad1 ρ1 H1 p1 w1 => ?_)⟩
  obtain ⟨dx, dy, dz, ed, b1, b2, b3, l1, l2, l3, w1⟩ := w1
  have hl : vs.length = 3 := (p1.vals ed).1
  obtain ⟨v1, v2, v3, rfl⟩ : ∃ v1 v2 v3, vs = [v1, v2, v3] := by
    match vs, hl with
    | [v1, v2, v3], _ => exact ⟨v1, v2, v3, rfl⟩
  refine ⟨v1, v2, v3, rfl, ?_⟩
  obtain ⟨a1, ea1, va1, nw1⟩ := p1.vaD ed (i := 0) rfl rfl b1
  obtain ⟨a2, ea2, va2, nw2⟩ := p1.vaD ed (i := 1) rfl rfl b2
  obtain ⟨a3, ea3, va3, nw3⟩ := p1.vaD ed (i := 2) rfl rfl b3
  obtain ⟨bad3, g1, g2, g3, o3⟩ := p1.st.ok.putV (.of hp) l1 va1 b1 (bad2 := bad) (fun a n => o.dom a n) p1.st.bd
  have s3 : Stl F bad σ ρ H (σ.set i (some v1)) (ρ1.set i (some dx.keep)) H1 := p1.st.put g1 (va1.own b1) (keep_lock b1) o3
  have va2' := Va.after (i := i) b1 va1 g2 g3 b2 va2 fun a e1 e2 t1 t2 => by
    have := p1.un 0 1 v1 a1 v2 a2 a rfl ea1 rfl ea2 (nw1 a e1 t1) (nw2 a e2 t2)
    cases this
  have va3' := Va.after (i := i) b1 va1 g2 g3 b3 va3 fun a e1 e2 t1 t2 => by
    have := p1.un 0 2 v1 a1 v3 a3 a rfl ea1 rfl ea3 (nw1 a e1 t1) (nw3 a e2 t2)
    cases this
  obtain ⟨bad4, f1, f2, f3, o4⟩ := o3.putV (.of hp2) (by rw [List.length_set]; exact l2) va2' b2 (bad2 := bad) (fun a n => o.dom a n) g1
  have s4 := s3.put (va2'.own b2) (keep_lock b2) (o4.less f1)
  have va3'' := Va.after (i := j) b2 va2' f2 f3 b3 va3' fun a e1 e2 t1 t2 => by
    have := p1.un 1 2 v2 a2 v3 a3 a rfl ea2 rfl ea3 (nw2 a e1 t1) (nw3 a e2 t2)
    cases this
  obtain ⟨bad5, f1', f2', f3', o5⟩ := o4.putV (.of hp3) (by rw [List.length_set, List.length_set]; exact l3) va3'' b3 (bad2 := bad) (fun a n => o.dom a n) f1
  exact kn _ _ H1 (s4.put (va3''.own b3) (keep_lock b3) (o5.less f1')) w1
end
/-! ### dicts whose keys are tuples -/
def keysD : List D → Option (List DKey)
  | [] => some []
  | d :: r => match keyD d, keysD r with
    | some k, some l => some (k :: l)
    | _, _ => none
def keyT : D → Option (List DKey)
  | .tup ds => if fixB ds = true then none else keysD ds
  | _ => none
def dgetT (kds : List (List DKey × D)) (k : List DKey) : Option D := (kds.find? fun p => decide (p.1 = k)).map (·.2)
def dputT (kds : List (List DKey × D)) (k : List DKey) (d : D) : List (List DKey × D) :=
  if (kds.any fun p => decide (p.1 = k)) = true then kds.map (fun p => if p.1 = k then (p.1, d) else p) else kds ++ [(k, d)]
section
variable {K : PySem.W.Frag} {H : Hp} {M : Addr → Prop}
theorem keys_of : ∀ {vs : List V} {ds : List D} {k : List DKey}, Rs K H M vs ds → keysD ds = some k → vs = (tkm k).map kV
  | [], [], k, _, h => by cases h; rfl
  | v :: vs, d :: ds, k, r, h => by
    obtain ⟨r1, r2⟩ := r.uncons
    unfold keysD at h
    split at h
    · rename_i k1 l e1 e2
      cases h
      rw [keys_of r2 e2]
      have : v = kV (kmap k1) := by
        cases d <;> first | (cases e1; done) | skip
        · cases e1; rw [r1.intI]; rfl
        · cases e1; rw [r1.strI]; rfl
      rw [this]; rfl
    · cases h
  | [], _ :: _, _, r, _ => by cases r.1
  | _ :: _, [], _, r, _ => by cases r.1
theorem key_ofT {y : V} {d : D} {k : List DKey} (r : RVal K H M y d) (h : keyT d = some k) : ∃ b, y = .ref b ∧ H b = some (.tup ((tkm k).map kV)) := by
  cases d <;> first | (cases h; done) | skip
  rename_i ds
  have nf : ¬ fixB ds = true := fun z => by
    have : keyT (.tup ds) = none := if_pos z
    rw [this] at h; cases h
  have h : keysD ds = some k := by
    have : keyT (.tup ds) = keysD ds := if_neg nf
    rw [this] at h; exact h
  rcases r with ⟨_, r⟩ | ⟨z, _⟩
  · cases r with
    | tup h1 hl hi =>
      rcases h1 with ⟨h1, _⟩ | ⟨_, fx⟩
      · rw [keys_of ⟨hl, hi⟩ h] at h1
        exact ⟨_, rfl, h1⟩
      · exact absurd fx nf
  · cases z
theorem RkT.length {kvs : List (List Key × V)} {kds : List (List DKey × D)} (r : RkT K H M kvs kds) : kvs.length = kds.length := by
  have := congrArg List.length r.1
  simpa using this
theorem RkT.uncons {a : List Key} {v : V} {b : List DKey} {d : D} {kvs : List (List Key × V)} {kds : List (List DKey × D)} (r : RkT K H M ((a, v) :: kvs) ((b, d) :: kds)) : a = tkm b ∧ R K H M v d ∧ RkT K H M kvs kds := by
  obtain ⟨h1, h2⟩ := r
  rw [List.map_cons, List.map_cons, List.cons.injEq] at h1
  rw [List.map_cons, List.map_cons] at h2
  exact ⟨h1.1, h2.uncons.1, h1.2, h2.uncons.2⟩
theorem RkT.consI {v : V} {b : List DKey} {d : D} {kvs : List (List Key × V)} {kds : List (List DKey × D)} (h : R K H M v d) (r : RkT K H M kvs kds) : RkT K H M ((tkm b, v) :: kvs) ((b, d) :: kds) :=
  ⟨by rw [List.map_cons, List.map_cons, r.1], by rw [List.map_cons, List.map_cons]; exact r.2.cons h⟩
theorem tkm_dec {a b : List DKey} : decide (tkm a = tkm b) = decide (a = b) := by
  by_cases h : a = b
  · subst h; simp
  · rw [decide_eq_false h, decide_eq_false fun z => h (tkm_inj z)]
theorem rkT_get : ∀ {kvs : List (List Key × V)} {kds : List (List DKey × D)} {k : List DKey}, RkT K H M kvs kds → (∀ d, dgetT kds k = some d → ∃ v, valV kvs (tkm k) = some v ∧ R K H M v d) ∧ (dgetT kds k = none → valV kvs (tkm k) = none)
  | [], [], k, _ => ⟨fun d h => (by cases h), fun _ => rfl⟩
  | (a, v) :: kvs, (b, d) :: kds, k, r => by
    obtain ⟨rfl, r1, r2⟩ := r.uncons
    have ih := rkT_get (k := k) r2
    unfold dgetT valV at ih ⊢
    rw [List.find?_cons, List.find?_cons]
    show (∀ d', Option.map _ (match decide (b = k) with | true => _ | false => _) = some d' → ∃ v', Option.map _ (match decide (tkm b = tkm k) with | true => _ | false => _) = some v' ∧ _) ∧ _
    rw [tkm_dec]
    cases decide (b = k) with
    | true => exact ⟨fun d' h => (by cases h; exact ⟨v, rfl, r1⟩), fun h => (by cases h)⟩
    | false => exact ih
  | [], _ :: _, _, r => by have := r.length; cases this
  | _ :: _, [], _, r => by have := r.length; cases this
theorem rkT_any : ∀ {kvs : List (List Key × V)} {kds : List (List DKey × D)} {k : List DKey}, RkT K H M kvs kds → (kvs.any fun p => decide (p.1 = tkm k)) = kds.any fun p => decide (p.1 = k)
  | [], [], k, _ => rfl
  | (a, v) :: kvs, (b, d) :: kds, k, r => by
    obtain ⟨rfl, r1, r2⟩ := r.uncons
    rw [List.any_cons, List.any_cons, rkT_any r2, tkm_dec]
  | [], _ :: _, _, r => by have := r.length; cases this
  | _ :: _, [], _, r => by have := r.length; cases this
theorem rkT_upd {v : V} {d : D} (h : R K H M v d) : ∀ {kvs : List (List Key × V)} {kds : List (List DKey × D)} {k : List DKey}, RkT K H M kvs kds → RkT K H M (kvs.map fun p => if p.1 = tkm k then (p.1, v) else p) (kds.map fun p => if p.1 = k then (p.1, d) else p)
  | [], [], k, r => r
  | (a, v') :: kvs, (b, d') :: kds, k, r => by
    obtain ⟨rfl, r1, r2⟩ := r.uncons
    have ih := rkT_upd h (k := k) r2
    rw [List.map_cons, List.map_cons]
    by_cases e : b = k
    · subst e; rw [if_pos rfl, if_pos rfl]; exact ih.consI h
    · rw [if_neg e, if_neg fun z => e (tkm_inj z)]; exact ih.consI r1
  | [], _ :: _, _, r => by have := r.length; cases this
  | _ :: _, [], _, r => by have := r.length; cases this
theorem rkT_app {v : V} {d : D} {k : List DKey} (h : R K H M v d) {kvs : List (List Key × V)} {kds : List (List DKey × D)} (r : RkT K H M kvs kds) : RkT K H M (kvs ++ [(tkm k, v)]) (kds ++ [(k, d)]) :=
  ⟨by rw [List.map_append, List.map_append, r.1]; rfl, by rw [List.map_append, List.map_append]; exact r.2.append (Rs.nil.cons h)⟩
theorem rkT_put {v : V} {d : D} {k : List DKey} (h : R K H M v d) {kvs : List (List Key × V)} {kds : List (List DKey × D)} (r : RkT K H M kvs kds) : RkT K H M (putK kvs (tkm k) v) (dputT kds k d) := by
  unfold putK dputT
  rw [rkT_any r]
  split
  · exact rkT_upd h r
  · exact rkT_app h r
def opDIxT : D → D → (D → Prop) → Prop
  | .mapT _ kds, y, q => ∃ k d, keyT y = some k ∧ dgetT kds k = some d ∧ q d
  | _, _, _ => False
theorem v2_dixT : V2 K rIxDk opDIxT := fun H M x dx y dy q Q dm rx ry w k => by
  match dx, rx, w with
  | .mapT kd kds, rx, ⟨ky, d, hk, hd, w⟩ =>
    obtain ⟨a, kvs, rfl, e, rk⟩ := rx.mapTE
    obtain ⟨v, hv, r⟩ := (rkT_get rk).1 d hd
    obtain ⟨b, rfl, eb⟩ := key_ofT ry hk
    exact ⟨a, v, rfl, .inr ⟨kvs, tkm ky, b, .inl e, rfl, eb, hv.symm⟩, k _ _ H (res_imm r.imm r) w⟩
def opDInT (neg : Bool) : D → D → (D → Prop) → Prop
  | y, .mapT _ kds, q => ∃ k, keyT y = some k ∧ q (.bl (if neg then !(dgetT kds k).isSome else (dgetT kds k).isSome))
  | _, _, _ => False
theorem v2_dinT {neg : Bool} : V2 K (rDIn neg) (opDInT neg) := fun H M x dx y dy q Q dm rx ry w k => by
  match dy, ry, w with
  | .mapT kd kds, ry, ⟨ky, hk, w⟩ =>
    obtain ⟨a, kvs, rfl, e, rk⟩ := ry.mapTE
    obtain ⟨b, rfl, eb⟩ := key_ofT rx hk
    refine ⟨a, valV kvs (tkm ky), rfl, .inr ⟨kvs, tkm ky, b, .inl e, rfl, eb, rfl⟩, ?_⟩
    have h : (valV kvs (tkm ky)).isSome = (dgetT kds ky).isSome := by
      cases z : dgetT kds ky with
      | none => rw [(rkT_get rk).2 z]; rfl
      | some d => obtain ⟨v, hv, _⟩ := (rkT_get rk).1 d z; rw [hv]; rfl
    rw [h]
    exact k _ _ H (res_bl _) w
end
theorem cm_dinT {X : Cx} {F : Df} (hu : X.A.units + 64 < cLine) : CmR X F .In (opDInT false) := ⟨_, op_din (by omega), v2_dinT⟩
theorem cm_dnotInT {X : Cx} {F : Df} (hu : X.A.units + 64 < cLine) : CmR X F .NotIn (opDInT true) := ⟨_, op_dnotIn (by omega), v2_dinT⟩
section
variable {X : Cx} {F : Df} {e a b c tg : Expr} {pos p npos : Pos} {α β γ : WE} {τ : WA}
theorem r_dixT (hu : X.A.units + 64 < cLine) (ha : DE X F a α) (hb : DE X F b β) (hs : PlainIx b := by intro _ _; rfl) : DE X F (.Subscript a b pos) (wBin opDIxT α β) := de_ix (ix_dk (by omega)) v2_dixT ha hb hs
theorem res_mapT {K : PySem.W.Frag} {H : Hp} {M : Addr → Prop} {a : Addr} {kvs : List (List Key × V)} {kds : List (List DKey × D)} (n : H a = none) (r : RkT K H M kvs kds) : Res K M H (.ref a) (.mapT .tmp kds) (upd H a (.dT kvs)) := by
  have ff : ∀ b x, H b = some x → upd H a (.dT kvs) b = some x := fun b x h => by
    rw [upd_ne (fun z => by subst z; rw [n] at h; cases h)]; exact h
  refine ⟨ff, .inr ⟨rfl, a, rfl, n, kvs, upd_same, r.1, r.2.mono (fun b x h _ => ff b x h) fun b m => m.imp id fun e => by subst e; exact n⟩⟩
theorem de_dnewT : DE X F (.Dict [] [] pos) (wC (.mapT .tmp [])) := by
  refine ⟨fun bad σ ρ H q Q o w k => pe_dnewT.to fun p np => ?_⟩
  obtain ⟨bad2, p2⟩ := (res_mapT (K := F.K) (M := Mm bad σ ρ) (kvs := []) (kds := []) np ⟨rfl, Rs.nil⟩).po o
  exact k _ _ bad2 ρ _ p2 w
def gDT (k : Nat) (α : WE) : WG := fun d ρ q => (∃ d0, ρ[k]? = some (some d0) ∧ d0.brw = true) ∧ α ρ fun x ρ1 => ∃ kds ky, ρ1[k]? = some (some (.mapT .own kds)) ∧ keyT x = some ky ∧ kds.length < sizeLine ∧ q (ρ1.set k (some (.mapT .own (dputT kds ky d))))
@[simp] theorem x_gDT {k : Nat} {α : WE} {d : D} {ρ : VEnv} {q : VEnv → Prop} : gDT k α d ρ q = ((∃ d0, ρ[k]? = some (some d0) ∧ d0.brw = true) ∧ α ρ fun x ρ1 => ∃ kds ky, ρ1[k]? = some (some (.mapT .own kds)) ∧ keyT x = some ky ∧ kds.length < sizeLine ∧ q (ρ1.set k (some (.mapT .own (dputT kds ky d))))) := rfl
theorem dg_putT (hu : X.A.units + 64 < cLine) {x : Str} (k : Nat) (ha : DE X F e α) (hN : X.N[k]? = some x := by rfl) (hv : Vis X.env.scope x := by first | exact Or.inl rfl | exact Or.inr (Or.inl rfl) | exact Or.inr (Or.inr rfl)) (hd : (x == ("__debug__" : Str)) = false := by decide) (hcd : (x == ("__classdict__" : Str)) = false := by decide)
    (hs : ∀ v, assign (.Subscript (.Name x npos) e pos) X.env v = (do
      let ov ← holding [v] (eval (.Name x npos) X.env)
      let iv ← holding [v, ov] (eval e X.env)
      standAt pos
      holding [v, ov, iv] (setItem ov iv v)
      release [v, ov, iv] []) := by intro _; rfl) : DG X F (.Subscript (.Name x npos) e pos) (gDT k α) := by
  refine ⟨fun bad σ ρ H v d q Q o r w kk => (pg_sub (pe_var hN hv hd hcd) pe_run (set_dict (by omega)) hs).to ?_⟩
  obtain ⟨⟨d0, e0, b0⟩, w⟩ := w
  obtain ⟨v0, ev, s⟩ := o.sl k d0 e0
  obtain ⟨z, _⟩ | ⟨_, a, rfl, r0⟩ := s
  · rw [b0] at z; cases z
  refine ⟨.ref a, ev, ha.go bad σ ρ H _ _ o w fun iv id bad1 ρ1 H1 p1 w1 => ?_⟩
  obtain ⟨kds, ky, e1, hk, hl, w1⟩ := w1
  have o1 := p1.st.back.ok
  obtain ⟨b, hib, eb⟩ := key_ofT (p1.va.read p1.st.ok) hk
  obtain ⟨v', ev', s'⟩ := o1.sl k _ e1
  rw [ev] at ev'; cases ev'
  obtain ⟨z, _⟩ | ⟨_, a', ea, kvs, hvs, rk⟩ := s'
  · cases z
  cases ea
  refine ⟨a, upd H1 a (.dT (putK kvs (tkm ky) v)), rfl, .inr ⟨kvs, tkm ky, b, hvs, hib, eb, by rw [rk.length]; exact hl, rfl⟩, ?_⟩
  have r1 : R F.K H1 (Mm bad σ ρ1) v d := r.mono p1.st.back.f p1.st.back.m
  have hM : Mm bad σ ρ1 a := .inr ⟨k, ev, _, e1, rfl⟩
  have ff : ∀ b x, H1 b = some x → ¬ Mm bad σ ρ1 b → upd H1 a (.dT (putK kvs (tkm ky) v)) b = some x := fun b x h n => by
    rw [upd_ne (fun z => n (by subst z; exact hM))]; exact h
  have rk2 := rkT_put (k := ky) r1 rk
  have rc : RC F.K (upd H1 a (.dT (putK kvs (tkm ky) v))) (Mm bad σ ρ1) a (.mapT .own (dputT kds ky d)) :=
    ⟨_, upd_same, rk2.1, rk2.2.mono ff fun b m => .inl m⟩
  have st := Stp.setc (d2 := .mapT .own (dputT kds ky d)) o1 e1 rfl rfl rfl ev rc
  exact kk _ _ _ (p1.st.back.trans st).sst w1
end
@[simp] theorem y_mt1 {ds : List (List DKey × D)} : D.brw (.mapT .tmp ds) = false := rfl
@[simp] theorem y_mt2 {ds : List (List DKey × D)} : D.brw (.mapT .own ds) = true := rfl
@[simp] theorem y_mt3 {ds : List (List DKey × D)} : D.keep (.mapT .tmp ds) = .mapT .own ds := rfl
@[simp] theorem y_mt4 {ds : List (List DKey × D)} : D.keep (.mapT .own ds) = .mapT .own ds := rfl
end VL

namespace VL
open PySem PySem.Spec PyProof.Rows L2
/-! ### instances: what stands in their fields -/
section
variable {K : PySem.W.Frag} {H : Hp} {M : Addr → Prop} {x : V} {C : Addr} {k : Kd} {fs : List (Str × D)} {vs : List (Str × V)} {f : Str} {d : D}
theorem RVal.insE (r : RVal K H M x (.ins k C fs)) : ∃ a dx vs, x = .ref a ∧ H a = some (.ins C dx vs) ∧ vs.map (·.1) = fs.map (·.1) ∧ Rs K H M (vs.map (·.2)) (fs.map (·.2)) := by
  rcases r with ⟨_, r⟩ | ⟨_, a, rfl, dx, vs, e, _, hk, rs⟩
  · cases r with
    | ins h h2 hk hl hi => exact ⟨_, _, _, rfl, h.1, hk, by simpa using hl, hi⟩
  · exact ⟨a, dx, vs, rfl, e, hk, rs⟩
theorem fld_get : ∀ {vs : List (Str × V)} {fs : List (Str × D)}, vs.map (·.1) = fs.map (·.1) → Rs K H M (vs.map (·.2)) (fs.map (·.2)) → (∀ d, fs.lookup f = some d → ∃ v, vs.lookup f = some v ∧ R K H M v d) ∧ (fs.lookup f = none → vs.lookup f = none)
  | [], [], _, _ => ⟨fun d h => by simp at h, fun _ => rfl⟩
  | (g, v) :: vs, (g', d') :: fs, hk, rs => by
    simp only [List.map_cons, List.cons.injEq] at hk
    obtain ⟨rfl, hk⟩ := hk
    obtain ⟨r, rs⟩ := Rs.uncons rs
    have ih := fld_get hk rs
    simp only [List.lookup_cons]
    cases hb : (f == g) with
    | true => exact ⟨fun d h => by cases h; exact ⟨v, rfl, r⟩, fun h => by cases h⟩
    | false => exact ih
  | [], _ :: _, hk, _ => by simp at hk
  | _ :: _, [], hk, _ => by simp at hk
def putD (f : Str) (d : D) : List (Str × D) → List (Str × D)
  | [] => [(f, d)]
  | (g, x) :: r => if g = f then (g, d) :: r else (g, x) :: putD f d r
theorem fld_put {v : V} (r : R K H M v d) : ∀ {vs : List (Str × V)} {fs : List (Str × D)}, vs.map (·.1) = fs.map (·.1) → Rs K H M (vs.map (·.2)) (fs.map (·.2)) → (putF f v vs).map (·.1) = (putD f d fs).map (·.1) ∧ Rs K H M ((putF f v vs).map (·.2)) ((putD f d fs).map (·.2))
  | [], [], _, _ => ⟨rfl, .cons r .nil⟩
  | (g, w) :: vs, (g', e) :: fs, hk, rs => by
    simp only [List.map_cons, List.cons.injEq] at hk
    obtain ⟨rfl, hk⟩ := hk
    obtain ⟨q, rs⟩ := Rs.uncons rs
    obtain ⟨i1, i2⟩ := fld_put r hk rs
    unfold putF putD
    by_cases h : g = f
    · rw [if_pos h, if_pos h]; exact ⟨by simp [hk], .cons r rs⟩
    · rw [if_neg h, if_neg h]; exact ⟨by simp [i1], .cons q i2⟩
  | [], _ :: _, hk, _ => by simp at hk
  | _ :: _, [], hk, _ => by simp at hk
end
/-! ### e.f -/
def wAttr (C : Addr) (f : Str) (α : WE) : WE := fun ρ q => α ρ fun x ρ1 => ∃ k fs d, x = .ins k C fs ∧ fs.lookup f = some d ∧ q d ρ1
section
variable {X : Cx} {F : Df} {e a b c tg : Expr} {pos p npos apos cpos : Pos} {α β γ : WE} {τ : WA} {C : Addr} {f x m : Str} {es : List Expr}
theorem de_attr (cl : Cls X.K C) (na : NoAttr X.K C f) (ha : DE X F e α) (hK : X.K = F.K) (hb : attributeBase e f X.env (eval e X.env) = eval e X.env := by rfl) : DE X F (.Attribute e f pos) (wAttr C f α) := by
  refine ⟨fun bad σ ρ H q Q o w k => (pe_fld pe_run hb).to (ha.go bad σ ρ H _ _ o w fun x dx bad1 ρ1 H1 p1 w1 => ?_)⟩
  obtain ⟨kk, fs, d, rfl, hl, w1⟩ := w1
  obtain ⟨a, dx, vs, rfl, e, hk, rs⟩ := (p1.va.read p1.st.ok).insE
  obtain ⟨v, hv, r⟩ := (fld_get hk rs).1 d hl
  exact ⟨a, C, dx, vs, v, rfl, e, cl, na, hv, k v d bad1 ρ1 H1 (p1.st.po (.imm p1.st.ok r.imm r)) w1⟩
/-! ### e.f = value, of an instance of one's own -/
def gAt (C : Addr) (f : Str) (i : Nat) : WG := fun d ρ q => ∃ fs, ρ[i]? = some (some (.ins .own C fs)) ∧ fs.length < 900 ∧ q (ρ.set i (some (.ins .own C (putD f d fs))))
theorem dg_at (cl : Cls X.K C) (na : NoAttr X.K C f) (i : Nat) (hN : X.N[i]? = some x := by rfl) (hv : Vis X.env.scope x := by first | exact Or.inl rfl | exact Or.inr (Or.inl rfl) | exact Or.inr (Or.inr rfl)) (hd : (x == ("__debug__" : Str)) = false := by decide) (hcd : (x == ("__classdict__" : Str)) = false := by decide) :
    DG X F (.Attribute (.Name x npos) f pos) (gAt C f i) := by
  refine ⟨fun bad σ ρ H v d q Q o r w kk pins s u I rv => ?_⟩
  obtain ⟨fs, e1, hl, w⟩ := w
  obtain ⟨v0, ev, s0⟩ := o.sl i _ e1
  obtain ⟨z, _⟩ | ⟨_, a, rfl, dx, vs, ha, hdx, hk, rs⟩ := s0
  · cases z
  rw [assign_Attribute]
  have len : vs.length = fs.length := by have := rs.1; simpa using this
  refine wpAny_bind (wpAny_holding (thn ((pe_var hN hv hd hcd).run pins s σ H (fun v1 H1 => v1 = .ref a ∧ H1 = H) I ⟨_, ev, rfl, rfl⟩) fun ov s1 ⟨v1, H1, I1, r1, e1', e2'⟩ => ?_))
  subst e1'; subst e2'
  obtain rfl : ov = Value.ref a := r1
  refine wpAny_bind (wpAny_standAt (wpAny_bind (wpAny_holding (setattr_ok I1 ha cl na (by omega) rv fun s2 I2 => wpAny_release ?_))))
  have hM : Mm bad σ ρ a := .inr ⟨i, ev, _, e1, rfl⟩
  have ff : ∀ b y, H1 b = some y → ¬ Mm bad σ ρ b → upd H1 a (.ins C dx (putF f v vs)) b = some y := fun b y h n => by
    rw [upd_ne (fun z => n (by subst z; exact hM))]; exact h
  obtain ⟨k1, k2⟩ := fld_put (f := f) r hk rs
  have rc : RC F.K (upd H1 a (.ins C dx (putF f v vs))) (Mm bad σ ρ) a (.ins .own C (putD f d fs)) :=
    ⟨dx, _, upd_same, ⟨ff _ _ hdx.1 hdx.2, hdx.2⟩, k1, k2.mono ff fun b m => .inl m⟩
  have st := Stp.setc (d2 := .ins .own C (putD f d fs)) o e1 rfl rfl rfl ev rc
  exact ⟨σ, _, I2, kk _ _ _ st.sst w⟩
/-- value: a new container is kept for ever -/
def wAsgF (α : WE) (g : WG) : WS := fun E ρ => α ρ fun x ρ1 => x.brw = false ∧ g (x.to .froz) ρ1 E.nx
theorem d1_asgF (ha : DE X F e α) {g : WG} (hg : DG X F tg g) (hs : swapsWithSole [tg] e pos.line X.env = pure false := by rfl) (hw : swappedStores [tg] e X.env = pure none := by rfl)
    (h1 : (assignEach [tg] X.env).map (·.2) = [assign tg X.env] := by rfl) : D1 X F (.Assign [tg] e pos) (wAsgF α g) := by
  refine ⟨fun bad σ ρ H E D o w kn kr kb kc => (ps_asg pe_run pg_run hs hw h1).to (ha.go bad σ ρ H _ _ o w fun v d bad1 ρ1 H1 p1 w1 => ?_)⟩
  obtain ⟨nb, w1⟩ := w1
  have r : R F.K H1 (Mm bad σ ρ1) v (d.to .froz) := Va.froz o p1.st p1.va nb
  exact hg.go bad σ ρ1 H1 v _ _ _ p1.st.back.ok r w1 fun σ2 ρ2 H2 s2 => kn σ2 ρ2 H2 (p1.st.sst.trans s2)
end
end VL

namespace VL
open PySem PySem.Spec PyProof.Rows L2
/-! ### one more argument ahead of the others -/
section
variable {K : PySem.W.Frag} {H H1 H' : Hp} {M M' : Addr → Prop} {vs : List V} {ds : List D} {v : V} {d : D}
theorem ArgsOk.mono (a : ArgsOk K H M vs ds) (f : ∀ b x, H b = some x → H' b = some x) (m1 : ∀ b, M b → M' b) (m2 : ∀ b, M' b → M b ∨ H b = none) (dm : ∀ b, M' b → H' b ≠ none) : ArgsOk K H' M' vs ds where
  len := a.len
  va := fun i v d hv hd => (a.va i v d hv hd).mono (fun c ec eb => by
    subst ec
    cases z : H c with
    | none => exact absurd z (a.dom c (a.ma i c d hv hd eb))
    | some y => exact f c y z) (fun b x h _ => f b x h) m2
  ma := fun i c d hv hd hb => m1 c (a.ma i c d hv hd hb)
  un := a.un
  dom := dm
theorem ArgsOk.consI (a : ArgsOk K H M vs ds) (i : d.imm = true) (r : R K H M v d) : ArgsOk K H M (v :: vs) (d :: ds) where
  len := by simp [a.len]
  va := fun i x e hv hd => by
    cases i with
    | zero => simp at hv hd; subst hv; subst hd; exact .inl ⟨imm_brw (by assumption), r⟩
    | succ i => exact a.va i x e (by simpa using hv) (by simpa using hd)
  ma := fun j c e hv hd hb => by
    cases j with
    | zero => simp at hv hd; subst hd; rw [imm_brw i] at hb; cases hb
    | succ j => exact a.ma j c e (by simpa using hv) (by simpa using hd) hb
  un := fun j l c e e' h1 h2 h3 h4 b1 b2 => by
    cases j with
    | zero => simp at h3; subst h3; rw [imm_brw i] at b1; cases b1
    | succ j =>
      cases l with
      | zero => simp at h4; subst h4; rw [imm_brw i] at b2; cases b2
      | succ l => rw [a.un j l c e e' (by simpa using h1) (by simpa using h2) (by simpa using h3) (by simpa using h4) b1 b2]
  dom := a.dom
theorem paOf_cons {i : Nat} : (paOf (v :: vs) (d :: ds))[i + 1]? = (paOf vs ds)[i]? := rfl
theorem CallPost.tail {u : V} {r : D} {e : D} {ds' : List D} (c : CallPost K H M (v :: vs) (d :: ds) u r (e :: ds') H') (hd : d.brw = false) : CallPost K H M vs ds u r ds' H' where
  fr := fun b x h n => c.fr b x h fun i => by
    cases i with
    | zero => simp [paOf, hd]
    | succ i => rw [paOf_cons]; exact n i
  dom := c.dom
  len := by have := c.len; simpa using this
  args := fun i a d0 d' h1 h2 h3 => c.args (i + 1) a d0 d' (by rw [paOf_cons]; exact h1) (by simpa using h2) (by simpa using h3)
  val := c.val
end
/-! ### contracts of methods -/
def MethAt (K : PySem.W.Frag) (C : Addr) (m qual : Str) (st : Stmt) (ps : List Str) : Prop := ∃ f fd, Fun K m qual st f fd ∧ Meth K C m f ∧ Binds K fd ps []
def InitAt (K : PySem.W.Frag) (C : Addr) (qual : Str) (st : Stmt) (ps : List Str) : Prop := ∃ f fd, Fun K "__init__" qual st f fd ∧ Mk K C f ∧ Binds K fd ps []
def CkM (P : Program) (w : World) (K : PySem.W.Frag) (mg : Str → Option Value) (base : Heap) (k : Nat) (C : Addr) (m : Str) (ps : List Str) (S : Spec) : Prop :=
  ∃ f fd, FnOk P w K mg base CX0 k f fd ps (spV K S) ∧ Meth K C m f ∧ Binds K fd ps []
def CkI (P : Program) (w : World) (K : PySem.W.Frag) (mg : Str → Option Value) (base : Heap) (k : Nat) (C : Addr) (ps : List Str) (S : Spec) : Prop :=
  ∃ f fd, FnOk P w K mg base CX0 k f fd ps (spV K S) ∧ Mk K C f ∧ Binds K fd ps []
section
variable {P : Program} {w : World} {K : PySem.W.Frag} {mg : Str → Option Value} {base : Heap}
theorem ckm_mk {m qual : Str} {C : Addr} {st : Stmt} {N ps : List Str} {k n : Nat} {S : Spec} {wb : WS} (h : MethAt K C m qual st ps) (sc : FnScope N ps (defScope st)) (hps : ps.length = n) (hN : n ≤ N.length) (hlen : ∀ ds q, S ds q → ds.length = n)
    (hbody : ∀ (H0 : Hp) (pa : List (Option Addr)) (cdv : Value) (A : Around) (outer : List Env) (s : Shared) (H : Hp) (E : XK) (f : Addr), pa.length = n → Room k (A.deeper (envOfC qual (defScope st) s.heap.objs.size f cdv)) → DS (cxOf CX0 P w K mg base N qual (defScope st) f cdv A outer s H E).nox ⟨K, H0, pa⟩ (defBody st) wb)
    (hvc : ∀ ds q, S ds q → wb { nx := fun ρ => q .non (finA ds ρ), rt := fun d ρ => q d (finA ds ρ) } (env0 N.length ds)) : CkM P w K mg base (k + 1) C m ps S := by
  obtain ⟨f, fd, F, hm, hb⟩ := h
  refine ⟨f, fd, fnok F sc hps hN hlen (fun X Fd cdv A outer s H E hX hK hpa hr => ?_) hvc, hm, hb⟩
  obtain ⟨K', H0, pa⟩ := Fd
  subst hX
  cases hK
  exact hbody H0 pa cdv A outer s H E f hpa hr
theorem cki_mk {qual : Str} {C : Addr} {st : Stmt} {N ps : List Str} {k n : Nat} {S : Spec} {wb : WS} (h : InitAt K C qual st ps) (sc : FnScope N ps (defScope st)) (hps : ps.length = n) (hN : n ≤ N.length) (hlen : ∀ ds q, S ds q → ds.length = n)
    (hbody : ∀ (H0 : Hp) (pa : List (Option Addr)) (cdv : Value) (A : Around) (outer : List Env) (s : Shared) (H : Hp) (E : XK) (f : Addr), pa.length = n → Room k (A.deeper (envOfC qual (defScope st) s.heap.objs.size f cdv)) → DS (cxOf CX0 P w K mg base N qual (defScope st) f cdv A outer s H E).nox ⟨K, H0, pa⟩ (defBody st) wb)
    (hvc : ∀ ds q, S ds q → wb { nx := fun ρ => q .non (finA ds ρ), rt := fun d ρ => q d (finA ds ρ) } (env0 N.length ds)) : CkI P w K mg base (k + 1) C ps S := by
  obtain ⟨f, fd, F, hm, hb⟩ := h
  refine ⟨f, fd, fnok F sc hps hN hlen (fun X Fd cdv A outer s H E hX hK hpa hr => ?_) hvc, hm, hb⟩
  obtain ⟨K', H0, pa⟩ := Fd
  subst hX
  cases hK
  exact hbody H0 pa cdv A outer s H E f hpa hr
end
section
variable {X : Cx} {F : Df} {e o : Expr} {es : List Expr} {pos p npos apos : Pos} {α : WE} {τ : WA} {C : Addr} {f x m : Str} {k : Nat} {ps : List Str} {S : Spec}
/-- o.m(..) of an instance that nobody writes any more -/
def wMethE (C : Addr) (m : Str) (S : Spec) (α : WE) (τ : WA) : WE := fun ρ q => α ρ fun x ρ1 => (∃ fs, x = .ins .froz C fs ∧ fs.lookup m = none) ∧ τ ρ1 fun as ρ2 => nodupB (bslots ρ2 as) = true ∧ ∃ ds, argsD ρ2 as = some ds ∧ S (x :: keepA ds) fun d ds' => ∃ e es, ds' = e :: es ∧ q d (updA ρ2 as es)
theorem de_methE (cl : Cls X.K C) (h : CkM X.prog X.w X.K X.mg X.base k C m ps S) (hr : Room k X.A) (ho : DE X F o α) (ha : DA X F (e :: es) τ) (hK : X.K = F.K) {pl : Sem Bool}
    (hst : starEach (e :: es) X.env = (false, eval e X.env) :: starEach es X.env := by rfl) (hpl : (backTo pos (starEach es X.env)).any (·.1) = false := by rfl)
    (ht : eval (.Call (.Attribute o m apos) (e :: es) [] pos) X.env = (do
      let ov ← eval o X.env
      standAt apos.atName
      let (f, first) ← holding [ov] (getMethod ov m pl)
      callWith pos f first (backTo pos (starEach (e :: es) X.env)) (backToKw pos (keywordEach [] X.env))) := by rfl) :
    DE X F (.Call (.Attribute o m apos) (e :: es) [] pos) (wMethE C m S α τ) := by
  obtain ⟨fa, fd, h1, h2, h3⟩ := h
  refine ⟨fun bad σ ρ H q Q ok w kk => (pe_meth pe_run cl h2 h1 hr h3 .nil pass0 pa_run hst hpl ht).to (ho.go bad σ ρ H _ _ ok w fun x dx bad1 ρ1 H1 p1 w1 => ?_)⟩
  obtain ⟨⟨fs, rfl, hl⟩, w1⟩ := w1
  have rx := p1.va.read p1.st.ok
  have va := p1.va
  obtain ⟨a, dx, vs, rfl, e1, hk, rs⟩ := rx.insE
  refine ⟨a, dx, vs, rfl, e1, (fld_get hk rs).2 hl, ha.go bad1 σ ρ1 H1 _ _ p1.st.ok w1 fun us as bad2 ρ2 H2 p2 w2 => ?_⟩
  obtain ⟨nd, ds, ed, w2⟩ := w2
  rw [List.append_nil]
  have va2 := va.keep p1.st.ok p2.st (.inl rfl)
  have r2 : R F.K H2 (Mm bad2 σ ρ2) (.ref a) (.ins .froz C fs) := by
    rcases va2 with ⟨_, r⟩ | ⟨t, _⟩ | ⟨b, _⟩
    · exact r
    · cases t
    · cases b
  rw [hK]
  refine ⟨Mm bad2 σ ρ2, .ins .froz C fs :: keepA ds, _, (p2.args ed nd).consI rfl r2, w2, fun v d ds' H3 c qd => ?_⟩
  obtain ⟨d0, es', rfl, qd⟩ := qd
  obtain ⟨bad3, p3⟩ := p2.after p1.st.ok ed nd (c.tail rfl)
  exact kk v d bad3 _ H3 (p1.st.po p3) qd
/-- i.m(..) of the instance of a slot -/
def wMethV (C : Addr) (m : Str) (S : Spec) (i : Nat) (τ : WA) : WE := fun ρ q => (∃ k fs, ρ[i]? = some (some (.ins k C fs)) ∧ fs.lookup m = none) ∧ wCall S (wAV i τ) ρ q
theorem de_methV (i : Nat) (cl : Cls X.K C) (h : CkM X.prog X.w X.K X.mg X.base k C m ps S) (hr : Room k X.A) (ha : DA X F (e :: es) τ) (hK : X.K = F.K) {pl : Sem Bool} (hN : X.N[i]? = some x := by rfl) (hv : Vis X.env.scope x := by first | exact Or.inl rfl | exact Or.inr (Or.inl rfl) | exact Or.inr (Or.inr rfl)) (hd : (x == ("__debug__" : Str)) = false := by decide) (hcd : (x == ("__classdict__" : Str)) = false := by decide)
    (hst : starEach (e :: es) X.env = (false, eval e X.env) :: starEach es X.env := by rfl) (hpl : (backTo pos (starEach es X.env)).any (·.1) = false := by rfl)
    (ht : eval (.Call (.Attribute (.Name x npos) m apos) (e :: es) [] pos) X.env = (do
      let ov ← eval (.Name x npos) X.env
      standAt apos.atName
      let (f, first) ← holding [ov] (getMethod ov m pl)
      callWith pos f first (backTo pos (starEach (e :: es) X.env)) (backToKw pos (keywordEach [] X.env))) := by rfl) :
    DE X F (.Call (.Attribute (.Name x npos) m apos) (e :: es) [] pos) (wMethV C m S i τ) := by
  obtain ⟨fa, fd, h1, h2, h3⟩ := h
  refine ⟨fun bad σ ρ H q Q ok w kk => (pe_meth (pe_var hN hv hd hcd) cl h2 h1 hr h3 .nil pass0 pa_run hst hpl ht).to ?_⟩
  obtain ⟨⟨kk0, fs, e0, hl⟩, w⟩ := w
  have go := rd_v i (t := runA X (e :: es)) ha.go bad σ ρ H _ (fun vs H2 => spV F.K S vs H2 Q fun _ _ _ => False) ok w fun us as bad2 ρ2 H2 p2 w2 => by
    obtain ⟨nd, ds, ed, w2⟩ := w2
    refine ⟨Mm bad2 σ ρ2, keepA ds, _, p2.args ed nd, w2, fun v d ds' H3 c qd => ?_⟩
    obtain ⟨bad3, p3⟩ := p2.after ok ed nd c
    exact kk v d bad3 _ H3 p3 qd
  obtain ⟨v, ev, go⟩ := go
  obtain ⟨v', ev', s⟩ := ok.sl i _ e0
  rw [ev] at ev'; cases ev'
  have hi : ∃ a dx vs, v = .ref a ∧ H a = some (.ins C dx vs) ∧ vs.map (·.1) = fs.map (·.1) ∧ Rs F.K H (Mm bad σ ρ) (vs.map (·.2)) (fs.map (·.2)) := by
    rcases s with ⟨_, r⟩ | ⟨b, a, rfl, r⟩
    · exact RVal.insE (k := kk0) (.inl ⟨r.imm, r⟩)
    · exact RVal.insE (k := kk0) (.inr ⟨brw_imm b, a, rfl, r⟩)
  obtain ⟨a, dx, vs, rfl, e1, hk, rs⟩ := hi
  refine ⟨.ref a, ev, a, dx, vs, rfl, e1, (fld_get hk rs).2 hl, ?_⟩
  rw [hK]
  simpa only [List.append_nil] using go
/-- C(..): the new instance -/
def wMake (C : Addr) (S : Spec) (τ : WA) : WE := fun ρ q => τ ρ fun as ρ1 => nodupB (bslots ρ1 as) = true ∧ ∃ ds, argsD ρ1 as = some ds ∧ S (.ins .own C [] :: keepA ds) fun d ds' => d = .non ∧ ∃ fs es, ds' = .ins .own C fs :: es ∧ q (.ins .froz C fs) (updA ρ1 as es)
theorem de_make (h : CkI X.prog X.w X.K X.mg X.base k C ps S) (hm : X.mg x = some (.ref C)) (hr : Room (k + 1) X.A) (ha : DA X F (e :: es) τ) (hK : X.K = F.K) (hg : Gl X x)
    (hdb : (x == ("__debug__" : Str)) = false := by decide) (he : starEach (e :: es) X.env = (false, eval e X.env) :: starEach es X.env := by rfl) (hpl : (backTo pos (starEach es X.env)).any (·.1) = false := by rfl) :
    DE X F (.Call (.Name x p) (e :: es) [] pos) (wMake C S τ) := by
  obtain ⟨fa, fd, h1, h2, h3⟩ := h
  refine ⟨fun bad σ ρ H q Q ok w kk => (pe_make h2 h1 hr hg hm h3 .nil pass0 pa_run hdb he hpl).to (ha.go bad σ ρ H _ _ ok w fun us as bad1 ρ1 H1 p1 w1 => ?_)⟩
  obtain ⟨nd, ds, ed, w1⟩ := w1
  intro a dx n1 n2 ne
  rw [List.append_nil, hK]
  have nM : ∀ b, Mm bad1 σ ρ1 b → H1 b ≠ none := fun b m => p1.st.ok.mdom m
  have A1 := p1.args ed nd
  have ff : ∀ b y, H1 b = some y → upd (upd H1 dx (.own a)) a (.ins C dx []) b = some y := fun b y h => by
    rw [upd_ne (fun z => by subst z; rw [n1] at h; cases h), upd_ne (fun z => by subst z; rw [n2] at h; cases h)]; exact h
  have dm : ∀ b, (Mm bad1 σ ρ1 b ∨ b = a) → upd (upd H1 dx (.own a)) a (.ins C dx []) b ≠ none := fun b m => by
    rcases m with m | rfl
    · cases z : H1 b with
      | none => exact absurd z (nM b m)
      | some y => rw [ff b y z]; exact fun z => by cases z
    · rw [upd_same]; exact fun z => by cases z
  have A2 := A1.mono (M' := fun b => Mm bad1 σ ρ1 b ∨ b = a) ff (fun b => .inl) (fun b m => m.imp id fun e => by subst e; exact n1) dm
  have hdx : upd (upd H1 dx (.own a)) a (.ins C dx []) dx = some (.own a) := by rw [upd_ne ne, upd_same]
  have A3 : ArgsOk F.K (upd (upd H1 dx (.own a)) a (.ins C dx [])) (fun b => Mm bad1 σ ρ1 b ∨ b = a) (.ref a :: us) (.ins .own C [] :: keepA ds) := {
    len := by simp [A2.len]
    va := fun i x e hv hd => by
      cases i with
      | zero =>
        simp at hv hd; subst hv; subst hd
        exact .inr ⟨rfl, a, rfl, dx, [], upd_same, ⟨hdx, fun m => m.elim (fun m => nM dx m n2) ne⟩, rfl, .nil⟩
      | succ i => exact A2.va i x e (by simpa using hv) (by simpa using hd)
    ma := fun j c e hv hd hb => by
      cases j with
      | zero => simp at hv; exact .inr hv.symm
      | succ j => exact A2.ma j c e (by simpa using hv) (by simpa using hd) hb
    un := fun j l c e e' q1 q2 q3 q4 b1 b2 => by
      have fresh : ∀ (j : Nat) e, us[j]? = some (.ref a) → (keepA ds)[j]? = some e → e.brw = true → False := fun j e q1 q3 b => A1.dom a (A1.ma j a e q1 q3 b) n1
      cases j with
      | zero =>
        cases l with
        | zero => rfl
        | succ l => simp at q1; subst q1; exact (fresh l e' (by simpa using q2) (by simpa using q4) b2).elim
      | succ j =>
        cases l with
        | zero => simp at q2; subst q2; exact (fresh j e (by simpa using q1) (by simpa using q3) b1).elim
        | succ l => rw [A2.un j l c e e' (by simpa using q1) (by simpa using q2) (by simpa using q3) (by simpa using q4) b1 b2]
    dom := dm }
  refine ⟨_, _, _, A3, w1, fun v d ds' H3 c qd => ?_⟩
  obtain ⟨rfl, fs, es', rfl, qd⟩ := qd
  have ev : v = .non := by
    rcases c.val with ⟨_, r⟩ | ⟨z, _⟩
    · exact r.nonI
    · cases z
  refine ⟨ev, ?_⟩
  have less : ∀ b, Mm bad1 σ ρ1 b → newM (fun b => Mm bad1 σ ρ1 b ∨ b = a) v (.non : D) b := fun b m => .inl (.inl m)
  obtain ⟨ra, _⟩ := c.args 0 a (.ins .own C []) (.ins .own C fs) rfl rfl rfl
  have rz : R F.K H3 (Mm bad1 σ ρ1) (.ref a) (.ins .froz C fs) := (ra.less less).froz fun m => nM a m n1
  have c2 : CallPost F.K H1 (Mm bad1 σ ρ1) us (keepA ds) (.ref a) (.ins .froz C fs) es' H3 := {
    fr := fun b y h n => c.fr b y (ff b y h) fun i => by
      cases i with
      | zero => intro z; simp [paOf, show (D.ins .own C []).brw = true from rfl] at z; subst z; rw [n1] at h; cases h
      | succ i => rw [paOf_cons]; exact n i
    dom := fun b z => by
      have := c.dom b z
      cases q : H1 b with
      | none => rfl
      | some y => rw [ff b y q] at this; cases this
    len := by have := c.len; simpa using this
    args := fun i c0 d0 d' q1 q2 q3 => by
      obtain ⟨r, k1⟩ := c.args (i + 1) c0 d0 d' (by rw [paOf_cons]; exact q1) (by simpa using q2) (by simpa using q3)
      refine ⟨r.less fun b m => ?_, k1⟩
      rcases m with m | ⟨t, _⟩
      · exact less b m
      · cases t
    val := .inl ⟨rfl, rz⟩ }
  obtain ⟨bad2, p2⟩ := p1.after ok ed nd c2
  exact kk _ _ bad2 _ H3 p2 qd
end
end VL

namespace VL
open PySem PySem.Spec PyProof.Rows L2
/-! ### a dict that keeps answers: its content is known as a part of a table -/
def ck (kvs : List (List Nat × List Nat)) : List (Key × V) := kvs.map fun p => (.inr (mkS p.1), .str (mkS p.2))
def putN (kvs : List (List Nat × List Nat)) (k t : List Nat) : List (List Nat × List Nat) :=
  if kvs.any (fun p => decide (p.1 = k)) then kvs.map fun p => if p.1 = k then (p.1, t) else p else kvs ++ [(k, t)]
theorem ck_dec {a b : List Nat} : decide ((Sum.inr (mkS a) : Key) = .inr (mkS b)) = decide (a = b) := decide_eq_decide.mpr ⟨fun h => mkS_inj (Sum.inr.inj h), fun h => by rw [h]⟩
theorem ck_put (kvs : List (List Nat × List Nat)) (k t : List Nat) : putK (ck kvs) (.inr (mkS k)) (.str (mkS t)) = ck (putN kvs k t) := by
  unfold putK putN
  have h : (ck kvs).any (fun p => decide (p.1 = .inr (mkS k))) = kvs.any fun p => decide (p.1 = k) := by
    unfold ck; rw [List.any_map]; congr 1; funext p; exact ck_dec
  rw [h]
  split
  · unfold ck; rw [List.map_map, List.map_map]
    refine List.map_congr_left fun p _ => ?_
    have := @ck_dec p.1 k
    by_cases e : p.1 = k
    · have e2 : (Sum.inr (mkS p.1) : Key) = .inr (mkS k) := by rw [e]
      simp only [Function.comp, if_pos e, if_pos e2]
    · have e2 : ¬ (Sum.inr (mkS p.1) : Key) = .inr (mkS k) := fun z => e (mkS_inj (Sum.inr.inj z))
      simp only [Function.comp, if_neg e, if_neg e2]
  · unfold ck; rw [List.map_append]; rfl
theorem put_sub {kvs tab : List (List Nat × List Nat)} {k t : List Nat} (h : ∀ p ∈ kvs, p ∈ tab) (hk : (k, t) ∈ tab) : ∀ p ∈ putN kvs k t, p ∈ tab := by
  intro p hp
  unfold putN at hp
  split at hp
  · obtain ⟨q, hq, rfl⟩ := List.mem_map.mp hp
    by_cases e : q.1 = k
    · rw [if_pos e, e]; exact hk
    · rw [if_neg e]; exact h q hq
  · rcases List.mem_append.mp hp with hp | hp
    · exact h p hp
    · simp at hp; subst hp; exact hk
theorem put_nd {kvs : List (List Nat × List Nat)} {k t : List Nat} (h : (kvs.map (·.1)).Nodup) : ((putN kvs k t).map (·.1)).Nodup := by
  unfold putN
  split
  · rw [List.map_map]
    have : (kvs.map ((·.1) ∘ fun p : List Nat × List Nat => if p.1 = k then (p.1, t) else p)) = kvs.map (·.1) := by
      refine List.map_congr_left fun p _ => ?_
      simp only [Function.comp]; split <;> rfl
    rw [this]; exact h
  · rename_i hn
    rw [List.map_append, List.nodup_append]
    refine ⟨h, by simp, fun x hx y hy e => ?_⟩
    simp at hy; subst hy; subst e
    obtain ⟨p, hp, e⟩ := List.mem_map.mp hx
    exact hn (List.any_eq_true.mpr ⟨p, hp, by simpa using e⟩)
theorem ck_val {kvs : List (List Nat × List Nat)} {k : List Nat} {v : V} (h : valV (ck kvs) (.inr (mkS k)) = some v) : ∃ t, v = .str (mkS t) ∧ (k, t) ∈ kvs := by
  induction kvs with
  | nil => simp [valV, ck] at h
  | cons p kvs ih =>
    have := @ck_dec p.1 k
    unfold valV ck at h ih
    rw [List.map_cons, List.find?_cons] at h
    by_cases e : p.1 = k
    · rw [show decide ((Sum.inr (mkS p.1) : Key) = .inr (mkS k)) = true by rw [ck_dec]; simp [e]] at h
      simp at h
      exact ⟨p.2, h.symm, by rw [← e]; exact List.mem_cons_self⟩
    · rw [show decide ((Sum.inr (mkS p.1) : Key) = .inr (mkS k)) = false by rw [ck_dec]; simp [e]] at h
      obtain ⟨t, h1, h2⟩ := ih h
      exact ⟨t, h1, List.mem_cons_of_mem _ h2⟩
theorem sub_len {kvs tab : List (List Nat × List Nat)} (h : ∀ p ∈ kvs, p ∈ tab) (nd : (kvs.map (·.1)).Nodup) : kvs.length ≤ tab.length := by
  have := nd.length_le_of_subset (l₂ := tab.map (·.1)) fun x hx => by
    obtain ⟨p, hp, rfl⟩ := List.mem_map.mp hx
    exact List.mem_map_of_mem (h p hp)
  simpa using this
section
variable {X : Cx} {pins : List (Addr × Obj)} {σ : L2.St} {H : Hp} {s : Shared} {a : Addr} {tab kvs : List (List Nat × List Nat)}
theorem open_ (I : L2.Inv X pins σ H s) (e : H a = some (.ext (CacheAt X.prog X.w tab a))) : ∃ kvs, (∀ p ∈ kvs, p ∈ tab) ∧ (kvs.map (·.1)).Nodup ∧ L2.Inv X pins σ (upd H a (.dK (ck kvs))) s := by
  have h0 : ObjOk X.prog X.w H s.heap a (.ext (CacheAt X.prog X.w tab a)) := I.hok a _ e
  obtain ⟨⟨kvs, h1, h2, h3⟩, h4, _⟩ := h0
  exact ⟨kvs, h1, h2, I.write (x := a) (e := a) (t' := s.toks) (h' := s.heap) (by rw [e]; exact trivial) (.inl rfl) (fun b u _ h => h) h4 h3⟩
theorem cache_ok {P : Program} {w : World} {H : Hp} {h : Heap} (h1 : ∀ p ∈ kvs, p ∈ tab) (h2 : (kvs.map (·.1)).Nodup) (h3 : ObjOk P w H h a (.dK (ck kvs))) : ObjOk P w H h a (.ext (CacheAt P w tab a)) := by
  have h3' : ObjOk P w (fun _ => none) h a (.dK (ck kvs)) := h3
  refine ⟨⟨kvs, h1, h2, h3'⟩, ?_, fun ha hb ⟨kvs', q1, q2, q3⟩ k => ⟨kvs', q1, q2, ?_⟩⟩
  · obtain ⟨_, _, vs, _, o, es, ep, ho, _⟩ := h3'
    exact ⟨o, ho⟩
  · obtain ⟨z1, z2, vs, z3, o, es, ep, ho, r⟩ := q3
    exact ⟨z1, z2, vs, z3, o, es, ep, k _ ho, r⟩
theorem close_ {o : HO} (I : L2.Inv X pins σ (upd H a (.dK (ck kvs))) s) (e : H a = some (.ext (CacheAt X.prog X.w tab a))) (h1 : ∀ p ∈ kvs, p ∈ tab) (h2 : (kvs.map (·.1)).Nodup) : L2.Inv X pins σ H s := by
  have h0 : ObjOk X.prog X.w (upd H a (.dK (ck kvs))) s.heap a (.dK (ck kvs)) := I.hok a _ upd_same
  have := I.write (x := a) (e := a) (t' := s.toks) (h' := s.heap) (o := .ext (CacheAt X.prog X.w tab a)) (by rw [upd_same]; exact trivial) (.inl rfl) (fun b u _ h => h) (by obtain ⟨_, _, vs, _, o, es, ep, ho, _⟩ := h0; exact ⟨o, ho⟩) (cache_ok h1 h2 h0)
  rw [upd_upd] at this
  have eq : upd H a (.ext (CacheAt X.prog X.w tab a)) = H := by
    funext b; unfold upd; split
    · rename_i h; rw [h, e]
    · rfl
  rw [eq] at this
  exact this
end
/-- {} that will keep answers -/
def wNewC (P : Program) (w : World) : WE := fun ρ q => ∃ tab : List (List Nat × List Nat), q (.cache (CacheAt P w tab)) ρ
section
variable {X : Cx} {F : Df} {e : Expr} {pos : Pos} {α : WE}
theorem de_newC : DE X F (.Dict [] [] pos) (wNewC X.prog X.w) := by
  refine ⟨fun bad σ ρ H q Q o w k pins s I => ?_⟩
  obtain ⟨tab, w⟩ := w
  refine thn ((pe_dnewK (X := X)).run pins s σ H (fun v H' => ∃ p, v = .ref p ∧ H p = none ∧ H' = upd H p (.dK [])) I fun p np => ⟨p, rfl, np, rfl⟩) fun u s1 ⟨v, H1, I1, rv, p, ev, np, eH⟩ => ?_
  subst ev; subst eH
  have h0 : ObjOk X.prog X.w (upd H p (.dK [])) s1.heap p (.dK (ck [])) := I1.hok p _ upd_same
  have I2 := I1.write (x := p) (e := p) (t' := s1.toks) (h' := s1.heap) (o := .ext (CacheAt X.prog X.w tab p)) (by rw [upd_same]; exact trivial) (.inl rfl) (fun b u _ h => h) (by obtain ⟨_, _, vs, _, o, es, ep, ho, _⟩ := h0; exact ⟨o, ho⟩) (cache_ok (kvs := []) (fun p h => by simp at h) (by simp) h0)
  rw [upd_upd] at I2
  have res : Res F.K (Mm bad σ ρ) H (.ref p) (.cache (CacheAt X.prog X.w tab)) (upd H p (.ext (CacheAt X.prog X.w tab p))) :=
    ⟨new_same np, .inl ⟨rfl, .cache ⟨upd_same, fun m => o.mdom m np⟩⟩⟩
  obtain ⟨bad2, p2⟩ := res.po o
  exact ⟨_, _, I2, rv, k _ _ bad2 ρ _ p2 w⟩
end
end VL

namespace VL
open PySem PySem.Spec PyProof.Rows L2
/-! ### if k not in self.f: .. self.f[k] = e; return self.f[k] -/
section
variable {X : Cx} {F : Df} {e : Expr} {s1 : Stmt} {w1 : WS} {α : WE} {C : Addr} {f xs xk : Str} {i j : Nat}
def wMemo (P : Program) (w : World) (C : Addr) (f : Str) (i j : Nat) (w1 : WS) (α : WE) : WS := fun E ρ => ∃ fs tab k, ρ[i]? = some (some (.ins .froz C fs)) ∧ fs.lookup f = some (.cache (CacheAt P w tab)) ∧ ρ[j]? = some (some (.str k)) ∧ tab.length ≤ 1000000 ∧
  (∀ t, (k, t) ∈ tab → E.rt (.str t) ρ) ∧ w1 { E with nx := fun ρ2 => α ρ2 fun d ρ3 => ∃ t fs', d = .str t ∧ (k, t) ∈ tab ∧ ρ3[i]? = some (some (.ins .froz C fs')) ∧ fs'.lookup f = some (.cache (CacheAt P w tab)) ∧ ρ3[j]? = some (some (.str k)) ∧ E.rt (.str t) ρ3 } ρ
theorem self_at {σ : L2.St} {ρ : VEnv} {H : Hp} {bad : Addr → Prop} {fs : List (Str × D)} {tab : List (List Nat × List Nat)} {P : Program} {w : World} (o : Ok F.K F.H0 F.pa bad σ ρ H) (e0 : ρ[i]? = some (some (.ins .froz C fs))) (hf : fs.lookup f = some (.cache (CacheAt P w tab))) :
    ∃ a dx vs kn, σ[i]? = some (some (.ref a)) ∧ H a = some (.ins C dx vs) ∧ vs.lookup f = some (.ref kn) ∧ H kn = some (.ext (CacheAt P w tab kn)) ∧ a ≠ kn := by
  obtain ⟨v, ev, s⟩ := o.sl i _ e0
  obtain ⟨_, r⟩ | ⟨z, _⟩ := s
  · obtain ⟨a, dx, vs, rfl, e, hk, rs⟩ := RVal.insE (.inl ⟨rfl, r⟩)
    obtain ⟨v, hv, r2⟩ := (fld_get hk rs).1 _ hf
    cases r2 with
    | cache h => exact ⟨a, dx, vs, _, ev, e, hv, h.1, fun z => by subst z; rw [e] at h; cases h.1⟩
  · cases z
theorem key_at {σ : L2.St} {ρ : VEnv} {H : Hp} {bad : Addr → Prop} {k : List Nat} (o : Ok F.K F.H0 F.pa bad σ ρ H) (e1 : ρ[j]? = some (some (.str k))) : σ[j]? = some (some (.str (mkS k))) := by
  obtain ⟨v, ev, s⟩ := o.sl j _ e1
  obtain ⟨_, r⟩ | ⟨z, _⟩ := s
  · rw [r.strI] at ev; exact ev
  · cases z
theorem ret_open {σ : L2.St} {H1 Hc : Hp} {E : Ends} {a dx kn : Addr} {vs : List (Str × V)} {kv : List (Key × V)} {k : List Nat} {v : V} {p1 p2 p3 p4 p5 : Pos} (cl : Cls X.K C) (na : NoAttr X.K C f) (hu : X.A.units + 64 < cLine) (hNi : X.N[i]? = some xs) (hvi : Vis X.env.scope xs) (hdi : (xs == ("__debug__" : Str)) = false) (hci : (xs == ("__classdict__" : Str)) = false)
    (hNj : X.N[j]? = some xk) (hvj : Vis X.env.scope xk) (hdj : (xk == ("__debug__" : Str)) = false) (hcj : (xk == ("__classdict__" : Str)) = false) (hb : attributeBase (.Name xs p3) f X.env (eval (.Name xs p3) X.env) = eval (.Name xs p3) X.env) (hs : NoSl (.Name xk p5))
    (e1 : σ[i]? = some (some (.ref a))) (e2 : H1 a = some (.ins C dx vs)) (e3 : vs.lookup f = some (.ref kn)) (e4 : H1 kn = some (.dK kv)) (e5 : σ[j]? = some (some (.str (mkS k)))) (e6 : valV kv (.inr (mkS k)) = some v)
    (hc : ∀ pins σ s, L2.Inv X pins σ H1 s → L2.Inv X pins σ Hc s) (hD : E.rt v Hc) : runS1 X (.Return (some (.Subscript (.Attribute (.Name xs p3) f p2) (.Name xk p5) p4)) p1) E σ H1 := by
  intro pins s I
  refine thn ((ps_ret (pe_dget (by omega) (pe_fld (pe_var hNi hvi hdi hci) hb) (pe_var hNj hvj hdj hcj) hs)).run pins s σ H1 { nx := fun _ _ => False, rt := fun v' H' => v' = v ∧ H' = H1 } I ?_) fun g s' q => ?_
  · exact ⟨.ref a, e1, a, C, dx, vs, .ref kn, rfl, e2, cl, na, e3, .str (mkS k), e5, kn, v, rfl, .inl ⟨kv, .inr (mkS k), .inl e4, rfl, e6.symm⟩, rfl, rfl⟩
  · cases g with
    | next => obtain ⟨_, _, _, z⟩ := q; exact z.elim
    | brk => obtain ⟨_, _, _, z⟩ := q; exact z.elim
    | cont => obtain ⟨_, _, _, z⟩ := q; exact z.elim
    | ret u =>
      obtain ⟨v', σ', H', I', r, rfl, rfl⟩ := q
      exact ⟨_, σ', Hc, hc _ _ _ I', r, hD⟩
theorem ds_memo {q1 q2 q3 q4 q5 q6 q7 q8 q9 q10 q12 q13 q14 q15 q16 : Pos} (i j : Nat) (hu : X.A.units + 64 < cLine) (cl : Cls X.K C) (na : NoAttr X.K C f) (hK : X.K = F.K) (h1 : D1 X F s1 w1) (he : DE X F e α)
    (hNi : X.N[i]? = some xs := by rfl) (hvi : Vis X.env.scope xs := by first | exact Or.inl rfl | exact Or.inr (Or.inl rfl) | exact Or.inr (Or.inr rfl)) (hdi : (xs == ("__debug__" : Str)) = false := by decide) (hci : (xs == ("__classdict__" : Str)) = false := by decide)
    (hNj : X.N[j]? = some xk := by rfl) (hvj : Vis X.env.scope xk := by first | exact Or.inl rfl | exact Or.inr (Or.inl rfl) | exact Or.inr (Or.inr rfl)) (hdj : (xk == ("__debug__" : Str)) = false := by decide) (hcj : (xk == ("__classdict__" : Str)) = false := by decide)
    (hb1 : attributeBase (.Name xs q2) f X.env (eval (.Name xs q2) X.env) = eval (.Name xs q2) X.env := by rfl) (hb2 : attributeBase (.Name xs q5) f X.env (eval (.Name xs q5) X.env) = eval (.Name xs q5) X.env := by rfl) (hb3 : attributeBase (.Name xs q12) f X.env (eval (.Name xs q12) X.env) = eval (.Name xs q12) X.env := by rfl)
    (hm : behindInMarks .NotIn (.Attribute (.Name xs q2) f q3) = false := by rfl)
    (ha : ∀ v, assign (.Subscript (.Attribute (.Name xs q5) f q6) (.Name xk q7) q8) X.env v = (do
      let ov ← holding [v] (eval (.Attribute (.Name xs q5) f q6) X.env)
      let iv ← holding [v, ov] (eval (.Name xk q7) X.env)
      standAt q8
      holding [v, ov, iv] (setItem ov iv v)
      release [v, ov, iv] []) := by intro _; rfl)
    (hsw : swapsWithSole [.Subscript (.Attribute (.Name xs q5) f q6) (.Name xk q7) q8] e q9.line X.env = pure false := by rfl) (hw : swappedStores [.Subscript (.Attribute (.Name xs q5) f q6) (.Name xk q7) q8] e X.env = pure none := by rfl)
    (h2 : (assignEach [.Subscript (.Attribute (.Name xs q5) f q6) (.Name xk q7) q8] X.env).map (·.2) = [assign (.Subscript (.Attribute (.Name xs q5) f q6) (.Name xk q7) q8) X.env] := by rfl)
    (hs : NoSl (.Name xk q14) := by intro _ _; rfl) :
    DS X F [.If (.Compare (.Name xk q1) [.NotIn] [.Attribute (.Name xs q2) f q3] q4) [s1, .Assign [.Subscript (.Attribute (.Name xs q5) f q6) (.Name xk q7) q8] e q9] [] q10, .Return (some (.Subscript (.Attribute (.Name xs q12) f q13) (.Name xk q14) q15)) q16] (wMemo X.prog X.w C f i j w1 α) := by
  refine ⟨fun bad σ ρ H E D o w kn kr kb kc => ?_⟩
  obtain ⟨fs, tab, k, e0, hf, e1, hz, hkn, w⟩ := w
  obtain ⟨a, dx, vs, c, ea, ha1, hl, hc, hac⟩ := self_at o e0 hf
  have ek := key_at o e1
  refine (pss_cons (ps_if pt_run pss_run pss_nil) (pss_one ps_run)).to ?_
  intro pins s I
  obtain ⟨kvs, c1, c2, I1⟩ := open_ I hc
  have ha2 : upd H c (.dK (ck kvs)) a = some (.ins C dx vs) := by rw [upd_ne hac]; exact ha1
  refine (pt_cmpR (op_dnotIn (by omega)) (pe_var hNj hvj hdj hcj) (pe_fld (pe_var hNi hvi hdi hci) hb1) hm).run pins s σ (upd H c (.dK (ck kvs))) _ I1 ?_
  refine ⟨.str (mkS k), ek, .ref a, ea, a, C, dx, vs, .ref c, rfl, ha2, cl, na, hl, c, valV (ck kvs) (.inr (mkS k)), rfl, .inl ⟨ck kvs, .inr (mkS k), .inl upd_same, rfl, rfl⟩, _, rfl, ?_⟩
  cases hval : valV (ck kvs) (.inr (mkS k)) with
  | some v =>
    simp only [Option.isSome_some, Bool.not_true, if_true, Bool.false_eq_true, if_false]
    obtain ⟨t, rfl, ht⟩ := ck_val hval
    refine ret_open cl na hu hNi hvi hdi hci hNj hvj hdj hcj hb3 hs ea ha2 hl upd_same ek hval (fun pins σ s I => close_ (o := .dK []) I hc c1 c2) ?_
    exact kr _ _ σ ρ H (Stl.refl o).toSst (.inl ⟨rfl, .str t⟩) (hkn t (c1 _ ht))
  | none =>
    simp only [Option.isSome_none, Bool.not_false, if_true]
    intro pins s I
    refine (pss_cons ps_run (pss_one ps_run)).run pins s σ H _ (close_ (o := .dK []) I hc c1 c2) ?_
    refine h1.go bad σ ρ H _ _ o w (fun σ2 ρ2 H2 st2 w2 => ?_) (fun v d σ2 ρ2 H2 st2 rv e2 => kr v d σ2 ρ2 H2 st2 rv e2) (fun σ2 ρ2 H2 st2 e2 => kb σ2 ρ2 H2 st2 e2) (fun σ2 ρ2 H2 st2 e2 => kc σ2 ρ2 H2 st2 e2)
    refine (ps_asg pe_run pg_run hsw hw h2).to (he.go bad σ2 ρ2 H2 _ _ st2.ok w2 fun v d bad3 ρ3 H3 p3 w3 => ?_)
    obtain ⟨t, fs', rfl, ht, f0, ff, f1, w3⟩ := w3
    have o3 := p3.st.back.ok
    have rv : v = .str (mkS t) := by
      rcases p3.va.read p3.st.ok with ⟨_, r⟩ | ⟨z, _⟩
      · exact r.strI
      · cases z
    subst rv
    obtain ⟨a3, dx3, vs3, c3, ea3, ha3, hl3, hc3, hac3⟩ := self_at o3 f0 ff
    have ek3 := key_at o3 f1
    intro pins s u I r
    obtain ⟨kvs3, d1, d2, I3⟩ := open_ I hc3
    have ha4 : upd H3 c3 (.dK (ck kvs3)) a3 = some (.ins C dx3 vs3) := by rw [upd_ne hac3]; exact ha3
    refine (pg_sub (pe_fld (pe_var hNi hvi hdi hci) hb2) (pe_var hNj hvj hdj hcj) (set_dict (by omega)) ha).run pins s σ2 (upd H3 c3 (.dK (ck kvs3))) (.str (mkS t)) u _ I3 r ?_
    have hlen : (ck kvs3).length < sizeLine := by
      have := sub_len d1 d2
      unfold ck; rw [List.length_map, sizeLine_eq]; omega
    refine ⟨.ref a3, ea3, a3, C, dx3, vs3, .ref c3, rfl, ha4, cl, na, hl3, .str (mkS k), ek3, c3, upd (upd H3 c3 (.dK (ck kvs3))) c3 (.dK (putK (ck kvs3) (.inr (mkS k)) (.str (mkS t)))), rfl, .inl ⟨ck kvs3, .inr (mkS k), upd_same, rfl, hlen, rfl⟩, ?_⟩
    rw [upd_upd, ck_put]
    have ha5 : upd H3 c3 (.dK (ck (putN kvs3 k t))) a3 = some (.ins C dx3 vs3) := by rw [upd_ne hac3]; exact ha3
    have hv5 : valV (ck (putN kvs3 k t)) (.inr (mkS k)) = some (.str (mkS t)) := by rw [← ck_put, valV_put, if_pos rfl]
    refine ret_open cl na hu hNi hvi hdi hci hNj hvj hdj hcj hb3 hs ea3 ha5 hl3 upd_same ek3 hv5 (fun pins σ s I => close_ (o := .dK []) I hc3 (put_sub d1 ht) (put_nd d2)) ?_
    exact kr _ _ σ2 ρ3 H3 (st2.trans p3.st.sst).toSst (.inl ⟨rfl, .str t⟩) w3
end
end VL

namespace VL
open PySem PySem.Spec PyProof.Rows L2
/-! ### the head's facts of a class -/
section
variable {K : PySem.W.Frag} {mg : Str → Option Value} {h : Heap} {x : Str} {Z : Prop} {C : Addr}
theorem st_cls (X : K.In h) (G : h.Ns mainGlobals mg) (a : PySem.W.nsIn K mainGlobals x = some (some (.ref C))) (pg : PySem.W.plainGet K C Str.empty = true) (hd : PySem.W.hasDictIn K C = true) (po : PySem.W.plainOver K C = true)
    (sa : PySem.W.findIn K (.ref C) "__setattr__" = some (some (.builtin "object.__setattr__"))) (z : mg x = some (.ref C) → Cls K C → Z) : Z := z (PySem.W.mg_of X G a) ⟨pg, hd, po, sa⟩
theorem st_na (f : Str) (cl : Cls K C) (a : PySem.W.findIn K (.ref C) f = some none) (z : NoAttr K C f → Z) : Z := z a
theorem st_init {qual : Str} {st : Stmt} {ps : List Str} {f : Addr} {oc kV doc pm cdv ct : Value} {od an : Option Addr} {osl : Array (Option Value)} (cl : Cls K C) (a : PySem.W.findIn K (.ref C) "__init__" = some (some (.ref f))) (i : PySem.W.isFn K (.ref f) = true)
    (l : K.lookup f = some ⟨oc, od, .func (PySem.W.fnOf "__init__" qual (defArgs st) (defBody st) (defScope st) .none kV doc pm an cdv ct), osl⟩) (c : PySem.W.codeIn K cdv qual = true) (k : PySem.W.keepIn K (.ref f) = true) (mk : PySem.W.makesIn K C = true) (kc : PySem.W.keepIn K (.ref C) = true)
    (b : ∀ (kV doc pm : Value) (an : Option Addr) (cdv ct : Value) (us : List Value), us.length = ps.length → bindArgs (PySem.W.fnOf "__init__" qual (defArgs st) (defBody st) (defScope st) .none kV doc pm an cdv ct) ⟨us, []⟩ = pure (ps.zip us)) (z : InitAt K C qual st ps → Z) : Z :=
  z ⟨f, _, fun_mk l c k, ⟨mk, a, i, kc⟩, (fun_mk l c k).binds b⟩
theorem st_meth {m qual : Str} {st : Stmt} {ps : List Str} {f : Addr} {oc kV doc pm cdv ct : Value} {od an : Option Addr} {osl : Array (Option Value)} (cl : Cls K C) (a : PySem.W.findIn K (.ref C) m = some (some (.ref f))) (i : PySem.W.isFn K (.ref f) = true)
    (l : K.lookup f = some ⟨oc, od, .func (PySem.W.fnOf m qual (defArgs st) (defBody st) (defScope st) .none kV doc pm an cdv ct), osl⟩) (c : PySem.W.codeIn K cdv qual = true) (k : PySem.W.keepIn K (.ref f) = true)
    (b : ∀ (kV doc pm : Value) (an : Option Addr) (cdv ct : Value) (us : List Value), us.length = ps.length → bindArgs (PySem.W.fnOf m qual (defArgs st) (defBody st) (defScope st) .none kV doc pm an cdv ct) ⟨us, []⟩ = pure (ps.zip us)) (z : MethAt K C m qual st ps → Z) : Z :=
  z ⟨f, _, fun_mk l c k, ⟨a, i, k⟩, (fun_mk l c k).binds b⟩
end
/-! ### reading of the new terms, for simp -/
section
variable {i j n : Nat} {ρ : VEnv} {q : D → VEnv → Prop} {qg : VEnv → Prop} {α β : WE} {τ : WA} {d x : D} {C : Addr} {f m : Str} {E : VEnd} {S : Spec} {k : Kd} {fs : List (Str × D)} {g : WG} {w1 : WS} {P : Program} {w : World} {φ : Addr → Heap → Prop}
@[simp] theorem x_attr : wAttr C f α ρ q = α ρ fun x ρ1 => ∃ k fs d, x = .ins k C fs ∧ fs.lookup f = some d ∧ q d ρ1 := rfl
@[simp] theorem x_gAt : gAt C f i d ρ qg = ∃ fs, ρ[i]? = some (some (.ins .own C fs)) ∧ fs.length < 900 ∧ qg (ρ.set i (some (.ins .own C (putD f d fs)))) := rfl
@[simp] theorem x_asgF : wAsgF α g E ρ = α ρ fun x ρ1 => x.brw = false ∧ g (x.to .froz) ρ1 E.nx := rfl
@[simp] theorem x_methE : wMethE C m S α τ ρ q = α ρ fun x ρ1 => (∃ fs, x = .ins .froz C fs ∧ fs.lookup m = none) ∧ τ ρ1 fun as ρ2 => nodupB (bslots ρ2 as) = true ∧ ∃ ds, argsD ρ2 as = some ds ∧ S (x :: keepA ds) fun d ds' => ∃ e es, ds' = e :: es ∧ q d (updA ρ2 as es) := rfl
@[simp] theorem x_methV : wMethV C m S i τ ρ q = ((∃ k fs, ρ[i]? = some (some (.ins k C fs)) ∧ fs.lookup m = none) ∧ wCall S (wAV i τ) ρ q) := rfl
@[simp] theorem x_make : wMake C S τ ρ q = τ ρ fun as ρ1 => nodupB (bslots ρ1 as) = true ∧ ∃ ds, argsD ρ1 as = some ds ∧ S (.ins .own C [] :: keepA ds) fun d ds' => d = .non ∧ ∃ fs es, ds' = .ins .own C fs :: es ∧ q (.ins .froz C fs) (updA ρ1 as es) := rfl
@[simp] theorem x_newC : wNewC P w ρ q = ∃ tab : List (List Nat × List Nat), q (.cache (CacheAt P w tab)) ρ := rfl
@[simp] theorem y_b20 : D.brw (.ins .own C fs) = true := rfl
@[simp] theorem y_b21 : D.brw (.ins .froz C fs) = false := rfl
@[simp] theorem y_b22 : D.brw (.cache φ) = false := rfl
@[simp] theorem y_i20 : D.imm (.ins .froz C fs) = true := rfl
@[simp] theorem y_i21 : D.imm (.cache φ) = true := rfl
@[simp] theorem y_k20 : D.keep (.ins .own C fs) = .ins .own C fs := rfl
@[simp] theorem y_k21 : D.keep (.ins .froz C fs) = .ins .froz C fs := rfl
@[simp] theorem y_k22 : D.keep (.cache φ) = .cache φ := rfl
@[simp] theorem y_t20 {k2 : Kd} : D.to k (.ins k2 C fs) = .ins k C fs := rfl
@[simp] theorem y_t21 : D.to k (.cache φ) = .cache φ := rfl
@[simp] theorem y_kd20 : D.kd (.ins k C fs) = k := rfl
@[simp] theorem n_fin20 {ds : List D} {ρ : VEnv} {x : D} : finA (.ins .own C fs :: ds) (some x :: ρ) = x.to .own :: finA ds ρ := rfl
@[simp] theorem n_fin21 {ds : List D} {ρ : VEnv} {r : Option D} : finA (.ins .froz C fs :: ds) (r :: ρ) = .ins .froz C fs :: finA ds ρ := rfl
end
end VL

namespace VL
open PySem PySem.Spec PyProof.Rows L2
/-! ### list(zip(x, y)) -/
theorem zip_no_len : typeLookup (.type "zip") "__len__" = pure none := am_miss_of_fast (by decide +kernel)
theorem zip_no_hint : typeLookup (.type "zip") "__length_hint__" = pure none := am_miss_of_fast (by decide +kernel)
section
variable {prog : Program} {w : World} {A : Around} {E : Value → Shared → Prop} {s : Shared}
/-- next, while the tuple given out before is still there -/
theorem zh_item {z ti tt T p q : Addr} {f : Bool} {oT : Obj} {c d : ZS} {i n m : Nat} {G K : Nat → Value → Prop} {Q : Value → Shared → Prop} (D : ZAp z ti tt p q c d)
    (hz : IsZipHeld s.heap z ti tt T f) (hT : s.heap.get? T = some oT) (h1 : IsPair s.heap ti (.ref p) (.ref q)) (sp : ZSt c p i s.heap) (sq : ZSt d q i s.heap) (zc : ZC c n G s.heap) (zd : ZC d m K s.heap) (hi : i < n) (hj : i < m)
    (k : ∀ x y hp tk, G i x → K i y → IsZipHeld hp z ti tt T true → ZSt c p (i + 1) hp → ZSt d q (i + 1) hp → IsPair hp s.heap.objs.size x y → hp.objs.size = s.heap.objs.size + 1 →
      (∀ b o, b ≠ z → b ≠ p → b ≠ q → s.heap.get? b = some o → hp.get? b = some o) → Q (.ref s.heap.objs.size) { s with heap := hp, toks := tk }) :
    wpAny (model prog w) A (Builtin.«zip.__next__» ⟨[.ref z], []⟩) (fun fin s' => ∃ v, fin = .done (.ret v) ∧ Q v s') E s := by
  obtain ⟨H, g, dd, tk0, os⟩ := s
  show wpAny _ _ (field (.ref z) 2 >>= _) _ _ _
  refine wpAny_bind (wpAny_field hz rfl (x := .bool false) rfl ?_); show wpAny _ _ (field (.ref z) 3 >>= _) _ _ _
  refine wpAny_bind (wpAny_field hz rfl (x := .ref ti) rfl (wpAny_bind (wpAny_seqItems h1 rfl ?_)))
  show wpAny _ _ (Builtin.SmallTypes.ownedTupleIsFree (.ref z) >>= _) _ _ _
  refine wpAny_bind (wpAny_tupleHeld_zip hz hT fun H1 z1 e1 => ?_)
  replace z1 : IsZipHeld H1 z ti tt T true := z1; replace e1 : Heap.SameBut z H H1 := e1
  simp only [Bool.false_eq_true, if_false]
  refine wpAny_bind ?_
  rw [← Array.forIn_toList]
  simp only [List.forIn_cons, List.forIn_nil]
  have nc : ∀ a, c.ad = some a → a ≠ z := fun a e => (D.c1 a e).1
  have nd : ∀ a, d.ad = some a → a ≠ z := fun a e => (D.d1 a e).1
  refine wpAny_bind (wpAny_bind (wpAny_holding ?_))
  show wpAny _ _ (Builtin.SmallTypes.nextOf (.ref p) >>= _) _ _ _
  refine wpAny_bind (z_item (s := ⟨H1, g, dd, tk0, os⟩) (sp.on fun o => e1.extBut _ _ D.a3) (zc.on fun a o e => e1.extBut _ _ (nc a e)) hi fun x H2 tk1 gx p2 e2 => wpAny_pure ?_)
  replace e2 : Heap.SameBut p H1 H2 := e2
  refine wpAny_pure ?_
  refine wpAny_bind (wpAny_bind (wpAny_holding ?_))
  show wpAny _ _ (Builtin.SmallTypes.nextOf (.ref q) >>= _) _ _ _
  refine wpAny_bind (z_item (s := ⟨H2, g, dd, tk1, os⟩) ((sq.on fun o => e1.extBut _ _ D.a4).on fun o => e2.extBut _ _ D.a0.symm)
    ((zd.on fun a o e => e1.extBut _ _ (nd a e)).on fun a o e => e2.extBut _ _ (D.d1 a e).2.2.1) hj fun y H4 tk2 gy q4 e4 => wpAny_pure ?_)
  replace e4 : Heap.SameBut q H2 H4 := e4
  refine wpAny_pure (wpAny_pure ?_)
  show wpAny _ _ (newTuple [x, y] >>= _) _ _ _
  refine wpAny_bind (wpAny_newTuple ?_)
  have sz : H4.objs.size = H.objs.size := by rw [e4.1, e2.1, e1.1]
  have z5 : IsZipHeld H4 z ti tt T true := e4.extBut _ _ D.a4.symm (e2.extBut _ _ D.a3.symm z1)
  have k5 : ∀ b o, b ≠ z → b ≠ p → b ≠ q → H.get? b = some o → H4.get? b = some o := fun b o b1 b3 b4 e => e4.extBut _ _ b4 (e2.extBut _ _ b3 (e1.extBut _ _ b1 e))
  have p5 : ZSt c p (i + 1) H4 := p2.on fun o => e4.extBut _ _ D.a0
  refine wpAny_pure ⟨_, rfl, ?_⟩
  show Q (.ref H4.objs.size) _
  have n8 : IsPair (H4.push { cls := .type "tuple", data := .seq #[x, y] }) H4.objs.size x y := Heap.get?_push_size _ rfl
  have s8 : (H4.push { cls := .type "tuple", data := .seq #[x, y] }).objs.size = H4.objs.size + 1 := Heap.size_push ..
  rw [sz] at n8 s8 ⊢
  exact k x y _ tk2 gx gy (Heap.get?_push_of_some _ z5) (p5.on fun o e => Heap.get?_push_of_some _ e) (q4.on fun o e => Heap.get?_push_of_some _ e) n8 s8 fun b o b1 b3 b4 e => Heap.get?_push_of_some _ (k5 b o b1 b3 b4 e)
theorem zh_end {z ti tt T p q : Addr} {f : Bool} {oT : Obj} {c d : ZS} {i n m : Nat} {G K : Nat → Value → Prop} {Q : Fin → Shared → Prop} (hh : A.handled = none) (D : ZAp z ti tt p q c d)
    (hz : IsZipHeld s.heap z ti tt T f) (hT : s.heap.get? T = some oT) (h1 : IsPair s.heap ti (.ref p) (.ref q)) (sp : ZSt c p i s.heap) (sq : ZSt d q i s.heap) (zc : ZC c n G s.heap) (zd : ZC d m K s.heap) (hi : n ≤ i ∨ m ≤ i)
    (k : ∀ hp e tk, (∀ b o, b ≠ z → b ≠ p → b ≠ q → s.heap.get? b = some o → hp.get? b = some o) → (∃ o, hp.get? e = some o ∧ o.cls = .type "StopIteration") → E (.ref e) { s with heap := hp, toks := tk }) :
    wpAny (model prog w) A (Builtin.«zip.__next__» ⟨[.ref z], []⟩) Q E s := by
  obtain ⟨H, g, dd, tk0, os⟩ := s
  show wpAny _ _ (field (.ref z) 2 >>= _) _ _ _
  refine wpAny_bind (wpAny_field hz rfl (x := .bool false) rfl ?_); show wpAny _ _ (field (.ref z) 3 >>= _) _ _ _
  refine wpAny_bind (wpAny_field hz rfl (x := .ref ti) rfl (wpAny_bind (wpAny_seqItems h1 rfl ?_)))
  show wpAny _ _ (Builtin.SmallTypes.ownedTupleIsFree (.ref z) >>= _) _ _ _
  refine wpAny_bind (wpAny_tupleHeld_zip hz hT fun H1 z1 e1 => ?_)
  replace e1 : Heap.SameBut z H H1 := e1
  simp only [Bool.false_eq_true, if_false]
  refine wpAny_bind ?_
  rw [← Array.forIn_toList]
  simp only [List.forIn_cons, List.forIn_nil]
  have nc : ∀ a, c.ad = some a → a ≠ z := fun a e => (D.c1 a e).1
  have nd : ∀ a, d.ad = some a → a ≠ z := fun a e => (D.d1 a e).1
  refine wpAny_bind (wpAny_bind (wpAny_holding ?_))
  show wpAny _ _ (Builtin.SmallTypes.nextOf (.ref p) >>= _) _ _ _
  have zc1 : ZC c n G H1 := zc.on fun a o e => e1.extBut _ _ (nc a e)
  have sp1 : ZSt c p i H1 := sp.on fun o => e1.extBut _ _ D.a3
  by_cases hn : n ≤ i
  · refine wpAny_bind (z_end hh (s := ⟨H1, g, dd, tk0, os⟩) sp1 zc1 hn fun H2 e e2 he => ?_)
    exact k H2 e tk0 (fun b o b1 b3 _ x => e2 _ _ b3 (e1.extBut _ _ b1 x)) he
  · have hm : m ≤ i := hi.resolve_left hn
    refine wpAny_bind (z_item (s := ⟨H1, g, dd, tk0, os⟩) sp1 zc1 (Nat.lt_of_not_le hn) fun x H2 tk1 gx p2 e2 => wpAny_pure ?_)
    replace e2 : Heap.SameBut p H1 H2 := e2
    refine wpAny_pure ?_
    refine wpAny_bind (wpAny_bind (wpAny_holding ?_))
    show wpAny _ _ (Builtin.SmallTypes.nextOf (.ref q) >>= _) _ _ _
    refine wpAny_bind (z_end hh (s := ⟨H2, g, dd, tk1, os⟩) ((sq.on fun o => e1.extBut _ _ D.a4).on fun o => e2.extBut _ _ D.a0.symm)
      ((zd.on fun a o e => e1.extBut _ _ (nd a e)).on fun a o e => e2.extBut _ _ (D.d1 a e).2.2.1) hm fun H4 e e4 he => ?_)
    exact k H4 e tk1 (fun b o b1 b3 b4 x => e4 _ _ b4 (e2.extBut _ _ b3 (e1.extBut _ _ b1 x))) he
theorem zh_pyNext {z ti tt T p q : Addr} {f : Bool} {oT : Obj} {c d : ZS} {i n m : Nat} {G K : Nat → Value → Prop} {Q : Option Value → Shared → Prop} (D : ZAp z ti tt p q c d)
    (hz : IsZipHeld s.heap z ti tt T f) (hT : s.heap.get? T = some oT) (h1 : IsPair s.heap ti (.ref p) (.ref q)) (sp : ZSt c p i s.heap) (sq : ZSt d q i s.heap) (zc : ZC c n G s.heap) (zd : ZC d m K s.heap) (hi : i < n) (hj : i < m)
    (k : ∀ x y hp tk, G i x → K i y → IsZipHeld hp z ti tt T true → ZSt c p (i + 1) hp → ZSt d q (i + 1) hp → IsPair hp s.heap.objs.size x y → hp.objs.size = s.heap.objs.size + 1 →
      (∀ b o, b ≠ z → b ≠ p → b ≠ q → s.heap.get? b = some o → hp.get? b = some o) → Q (some (.ref s.heap.objs.size)) { s with heap := hp, toks := tk }) : wpAny (model prog w) A (pyNext (.ref z)) Q E s := by
  have ty : s.TypeIs (.ref z) "zip" := ⟨_, hz, rfl⟩
  unfold pyNext
  exact wpAny_bind (wpAny_attempt (wpAny_callSpecial?_slot (name := Str.ofString "__next__") ty F.slot_zip_next (wpAny_call_entry F.slot_zip_next ty F.entry_zip_next
    (zh_item D hz hT h1 sp sq zc zd hi hj fun x y hp tk a1 a2 a3 a4 a5 a6 a7 a8 => wpAny_pure (k x y hp tk a1 a2 a3 a4 a5 a6 a7 a8)) (F.args_zip_next_1 _))))
theorem zh_pyEnd {z ti tt T p q : Addr} {f : Bool} {oT : Obj} {c d : ZS} {i n m : Nat} {G K : Nat → Value → Prop} {Q : Option Value → Shared → Prop} (hh : A.handled = none) (D : ZAp z ti tt p q c d)
    (hz : IsZipHeld s.heap z ti tt T f) (hT : s.heap.get? T = some oT) (h1 : IsPair s.heap ti (.ref p) (.ref q)) (sp : ZSt c p i s.heap) (sq : ZSt d q i s.heap) (zc : ZC c n G s.heap) (zd : ZC d m K s.heap) (hi : n ≤ i ∨ m ≤ i)
    (k : ∀ hp tk, (∀ b o, b ≠ z → b ≠ p → b ≠ q → s.heap.get? b = some o → hp.get? b = some o) → Q none { s with heap := hp, toks := tk }) : wpAny (model prog w) A (pyNext (.ref z)) Q E s := by
  have ty : s.TypeIs (.ref z) "zip" := ⟨_, hz, rfl⟩
  unfold pyNext
  refine wpAny_bind (wpAny_attempt (wpAny_callSpecial?_slot (name := Str.ofString "__next__") ty F.slot_zip_next (wpAny_call_entry F.slot_zip_next ty F.entry_zip_next
    (zh_end hh D hz hT h1 sp sq zc zd hi fun hp e tk hk he => ?_) (F.args_zip_next_1 _))))
  obtain ⟨oe, he, hc⟩ := he
  exact wpAny_bind (wpAny_isInstance (T := "StopIteration") (b := true) ⟨oe, he, hc⟩ isSubtype_stop (wpAny_pure (k _ tk hk)))
end
/-- the list at S holds the tuples at as -/
structure LzEnd (h1 h : Heap) (S z tt p q : Addr) (G K : Nat → Value → Prop) (i : Nat) (as : List Addr) (acc : Array Value) : Prop where
  lst : ∃ cc, h.get? S = some { cls := .type "list", dict := none, data := .seq acc cc, slots := #[] }
  len : as.length = i
  acc : acc.toList = as.map Value.ref
  rise : as.Pairwise (· < ·)
  above : ∀ t ∈ as, h1.objs.size ≤ t ∧ t < h.objs.size
  prs : ∀ (j : Nat) t, as[j]? = some t → ∃ x y, IsPair h t x y ∧ G j x ∧ K j y
  fr : ∀ b o, b ≠ S → b ≠ z → b ≠ tt → b ≠ p → b ≠ q → h1.get? b = some o → h.get? b = some o
structure LzSt (h1 h : Heap) (S z ti tt p q : Addr) (c d : ZS) (n m : Nat) (G K : Nat → Value → Prop) (i : Nat) (as : List Addr) (acc : Array Value) : Prop extends LzEnd h1 h S z tt p q G K i as acc where
  size : h1.objs.size ≤ h.objs.size
  zst : (IsZip h z ti tt .none ∧ as = [] ∧ ∃ a b, IsPair h tt a b) ∨ ∃ T f, T ∈ as ∧ IsZipHeld h z ti tt T f
  ti : IsPair h ti (.ref p) (.ref q)
  sp : ZSt c p i h
  sq : ZSt d q i h
  zc : ZC c n G h
  zd : ZC d m K h
theorem LzEnd.on {h1 h h2 : Heap} {S z tt p q : Addr} {G K : Nat → Value → Prop} {i : Nat} {as : List Addr} {acc : Array Value} (e : LzEnd h1 h S z tt p q G K i as acc) (lo : S < h1.objs.size ∧ z < h1.objs.size ∧ tt < h1.objs.size ∧ p < h1.objs.size ∧ q < h1.objs.size) (dS : S ≠ z ∧ S ≠ tt ∧ S ≠ p ∧ S ≠ q)
    (k : ∀ b o, b ≠ z → b ≠ tt → b ≠ p → b ≠ q → h.get? b = some o → h2.get? b = some o) : LzEnd h1 h2 S z tt p q G K i as acc := by
  obtain ⟨l1, l2, l4, l5, l6⟩ := lo
  obtain ⟨d1, d3, d4, d5⟩ := dS
  obtain ⟨cc, hS⟩ := e.lst
  have up : ∀ t, h1.objs.size ≤ t → ∀ o, h.get? t = some o → h2.get? t = some o := fun t ht o => k t o (Nat.ne_of_gt (Nat.lt_of_lt_of_le l2 ht)) (Nat.ne_of_gt (Nat.lt_of_lt_of_le l4 ht)) (Nat.ne_of_gt (Nat.lt_of_lt_of_le l5 ht)) (Nat.ne_of_gt (Nat.lt_of_lt_of_le l6 ht))
  refine ⟨⟨cc, k _ _ d1 d3 d4 d5 hS⟩, e.len, e.acc, e.rise, fun t ht => ⟨(e.above t ht).1, ?_⟩, fun j t hj => ?_, fun b o b0 b1 b2 b3 b4 q => k b o b1 b2 b3 b4 (e.fr b o b0 b1 b2 b3 b4 q)⟩
  · obtain ⟨j, hj⟩ := List.getElem?_of_mem ht
    obtain ⟨x, y, hp, _⟩ := e.prs j t hj
    exact Heap.lt_size (up t (e.above t ht).1 _ hp)
  · obtain ⟨x, y, hp, g1, g2⟩ := e.prs j t hj
    exact ⟨x, y, up t (e.above t (List.mem_of_getElem? hj)).1 _ hp, g1, g2⟩
section
variable {prog : Program} {w : World} {A : Around} {R : Result → Shared → Prop}
theorem lz_loop {h1 : Heap} {S z ti tt p q : Addr} {c d : ZS} {n m : Nat} {G K : Nat → Value → Prop} (hh : A.handled = none) (D : ZAp z ti tt p q c d) (lo : S < h1.objs.size ∧ z < h1.objs.size ∧ ti < h1.objs.size ∧ tt < h1.objs.size ∧ p < h1.objs.size ∧ q < h1.objs.size)
    (dS : S ≠ z ∧ S ≠ ti ∧ S ≠ tt ∧ S ≠ p ∧ S ≠ q ∧ (∀ a, c.ad = some a → a ≠ S) ∧ ∀ a, d.ad = some a → a ≠ S) (hn : min n m ≤ sizeLine) (res : Value) :
    ∀ (k i : Nat) (s : Shared) (as : List Addr) (acc : Array Value), min n m - i = k → i ≤ min n m → LzSt h1 s.heap S z ti tt p q c d n m G K i as acc →
    (∀ h' tk as' acc', LzEnd h1 h' S z tt p q G K (min n m) as' acc' → R (.ok (.ret res)) { s with heap := h', toks := tk }) →
    codeAny (model prog w) A (.builtin "list.extend.loop" ⟨[.ref S, .ref z, res], []⟩) R s := by
  obtain ⟨l1, l2, l3, l4, l5, l6⟩ := lo
  obtain ⟨d1, d2, d3, d4, d5, d6, d7⟩ := dS
  intro k
  induction k with
  | zero =>
    intro i s as acc hk hi st hR
    have hin : i = min n m := by omega
    subst hin
    refine codeAny_builtin F.entry_extend_loop ?_
    rw [Around.under_plainId F.plain_extend_loop _]
    show wpAny _ A.in1 (pyNext (.ref z) >>= _) _ _ s
    have he : n ≤ min n m ∨ m ≤ min n m := by omega
    refine wpAny_bind ?_
    rcases st.zst with ⟨hz, _, a, b, ht⟩ | ⟨T, f, hT, hz⟩
    · exact z_pyEnd hh D hz st.ti ht st.sp st.sq st.zc st.zd he fun hp tk kk => wpAny_pure (hR hp tk as acc (st.toLzEnd.on ⟨l1, l2, l4, l5, l6⟩ ⟨d1, d3, d4, d5⟩ fun b o b1 b2 b3 b4 e => kk b o b1 b2 b3 b4 e))
    · obtain ⟨j, hj⟩ := List.getElem?_of_mem hT
      obtain ⟨x, y, hp, _⟩ := st.prs j T hj
      exact zh_pyEnd hh D hz hp st.ti st.sp st.sq st.zc st.zd he fun hp tk kk => wpAny_pure (hR hp tk as acc (st.toLzEnd.on ⟨l1, l2, l4, l5, l6⟩ ⟨d1, d3, d4, d5⟩ fun b o b1 b2 b3 b4 e => kk b o b1 b3 b4 e))
  | succ k ih =>
    intro i s as acc hk hi st hR
    have hlt : i < min n m := by omega
    have hin : i < n := by omega
    have him : i < m := by omega
    refine codeAny_builtin F.entry_extend_loop ?_
    rw [Around.under_plainId F.plain_extend_loop _]
    show wpAny _ A.in1 (pyNext (.ref z) >>= _) _ _ s
    refine wpAny_bind ?_
    have step : ∀ x y hp tk, G i x → K i y → (IsZip hp z ti tt (rawInt s.heap.objs.size) ∨ ∃ T, T ∈ as ∧ IsZipHeld hp z ti tt T true) → ZSt c p (i + 1) hp → ZSt d q (i + 1) hp → IsPair hp s.heap.objs.size x y → hp.objs.size = s.heap.objs.size + 1 →
        (∀ b o, b ≠ z → b ≠ tt → b ≠ p → b ≠ q → s.heap.get? b = some o → hp.get? b = some o) →
        wpAny (model prog w) A.in1 (updateSeq S (·.push (.ref s.heap.objs.size)) >>= fun _ => again (.builtin "list.extend.loop" ⟨[.ref S, .ref z, res], []⟩)) (fun fin s' => match fin with | .done f => R (.ok f) s' | .again c' => c'.quiet = true ∧ codeAny (model prog w) A c' R s') (fun e s' => R (.error e) s') { s with heap := hp, toks := tk } := by
      intro x y hp tk gx gy hz sp sq np sz kk
      have E1 := st.toLzEnd.on (h2 := hp) ⟨l1, l2, l4, l5, l6⟩ ⟨d1, d3, d4, d5⟩ kk
      obtain ⟨cc, hS⟩ := E1.lst
      have asz : acc.size = i := by rw [← Array.length_toList, st.acc, List.length_map, st.len]
      refine wpAny_bind ?_
      have oth : ∀ b o, b ≠ S → hp.get? b = some o → (hp.update S (Obj.mapSeq (·.push (.ref s.heap.objs.size)))).get? b = some o := fun b o hb e => (Heap.get?_update_other _ _ (Ne.symm hb)).trans e
      refine wpAny_updateSeq hS rfl (wpAny_pure ⟨plainId_quiet F.plain_extend_loop _, ih (i + 1) _ (as ++ [s.heap.objs.size]) (acc.push (.ref s.heap.objs.size)) (by omega) hlt ?_ fun h' tk' as' acc' e => hR h' tk' as' acc' e⟩) (by rw [asz]; omega) (by show (acc.push _).size ≤ sizeLine + 1; rw [Array.size_push, asz]; omega)
      have nS : s.heap.objs.size ≠ S := Nat.ne_of_gt (Nat.lt_of_lt_of_le l1 st.size)
      have usz : (hp.update S (Obj.mapSeq (·.push (.ref s.heap.objs.size)))).objs.size = hp.objs.size := Heap.size_update ..
      refine { lst := ⟨_, Heap.get?_update_self _ hS rfl⟩, len := by rw [List.length_append, st.len]; rfl, acc := ?_, rise := ?_, above := ?_, prs := ?_, fr := ?_, size := ?_, zst := ?_, ti := ?_, sp := ?_, sq := ?_, zc := ?_, zd := ?_ }
      · rw [Array.toList_push, st.acc, List.map_append]; rfl
      · rw [List.pairwise_append]
        exact ⟨st.rise, by simp, fun a ha b hb => by simp at hb; subst hb; exact (st.above a ha).2⟩
      · intro t ht
        show h1.objs.size ≤ t ∧ t < (hp.update S _).objs.size
        rw [usz]
        rcases List.mem_append.mp ht with ht | ht
        · exact E1.above t ht
        · simp at ht; subst ht; exact ⟨st.size, by rw [sz]; exact Nat.lt_succ_self _⟩
      · intro j t hj
        have tS : t ≠ S := by
          rcases List.mem_append.mp (List.mem_of_getElem? hj) with ht | ht
          · exact Nat.ne_of_gt (Nat.lt_of_lt_of_le l1 (st.above t ht).1)
          · simp at ht; subst ht; exact nS
        by_cases hj2 : j < as.length
        · rw [List.getElem?_append_left hj2] at hj
          obtain ⟨x', y', h', g1, g2⟩ := E1.prs j t hj
          exact ⟨x', y', oth _ _ tS h', g1, g2⟩
        · rw [List.getElem?_append_right (by omega)] at hj
          have hj0 : j - as.length = 0 := by
            have := (List.getElem?_eq_some_iff.mp hj).1
            simp at this; omega
          rw [hj0] at hj
          simp at hj; subst hj
          have : j = i := by rw [← st.len]; omega
          subst this
          exact ⟨x, y, oth _ _ nS np, gx, gy⟩
      · exact fun b o b0 b1 b2 b3 b4 e => oth b o b0 (E1.fr b o b0 b1 b2 b3 b4 e)
      · show h1.objs.size ≤ (hp.update S _).objs.size
        rw [usz, sz]; exact Nat.le_succ_of_le st.size
      · rcases hz with hz | ⟨T, hT, hz⟩
        · exact .inr ⟨s.heap.objs.size, false, by simp, oth _ _ d1.symm hz⟩
        · exact .inr ⟨T, true, by simp [hT], oth _ _ d1.symm hz⟩
      · exact oth _ _ d2.symm (kk _ _ D.a1 D.a5 D.a6 D.a7 st.ti)
      · exact sp.on fun o e => oth _ _ d4.symm e
      · exact sq.on fun o e => oth _ _ d5.symm e
      · exact (st.zc.on fun a o e h => kk a o (D.c1 a e).1 (D.c1 a e).2.1 (D.c1 a e).2.2.1 (D.c1 a e).2.2.2 h).on fun a o e h => oth a o (d6 a e) h
      · exact (st.zd.on fun a o e h => kk a o (D.d1 a e).1 (D.d1 a e).2.1 (D.d1 a e).2.2.1 (D.d1 a e).2.2.2 h).on fun a o e h => oth a o (d7 a e) h
    rcases st.zst with ⟨hz, _, a, b, ht⟩ | ⟨T, f, hT, hz⟩
    · exact z_pyNext D hz st.ti ht st.sp st.sq st.zc st.zd hin him fun x y hp tk gx gy hz' _ sp sq np sz kk => step x y hp tk gx gy (.inl hz') sp sq np sz kk
    · obtain ⟨j, hj⟩ := List.getElem?_of_mem hT
      obtain ⟨x0, y0, hp0, _⟩ := st.prs j T hj
      exact zh_pyNext D hz hp0 st.ti st.sp st.sq st.zc st.zd hin him fun x y hp tk gx gy hz' sp sq np sz kk => step x y hp tk gx gy (.inr ⟨T, hT, hz'⟩) sp sq np sz fun b o b1 _ b3 b4 e => kk b o b1 b3 b4 e
end
section
variable {prog : Program} {w : World} {A : Around} {E : Value → Shared → Prop} {s : Shared}
/-- list(zip(x, y)), the zip new -/
theorem call_list_zip {z ti tt p q : Addr} {c d : ZS} {n m : Nat} {G K : Nat → Value → Prop} {Q : Value → Shared → Prop} (hh : A.handled = none) (D : ZAp z ti tt p q c d)
    (hz : IsZip s.heap z ti tt .none) (h1 : IsPair s.heap ti (.ref p) (.ref q)) (h2 : ∃ a b, IsPair s.heap tt a b) (sp : ZSt c p 0 s.heap) (sq : ZSt d q 0 s.heap) (zc : ZC c n G s.heap) (zd : ZC d m K s.heap) (lc : ∀ a, c.ad = some a → a < s.heap.objs.size) (ld : ∀ a, d.ad = some a → a < s.heap.objs.size) (hn : min n m ≤ sizeLine)
    (k : ∀ (h' : Heap) (tk : Nat) (as : List Addr) (acc : Array Value), (∃ cc, h'.get? s.heap.objs.size = some { cls := .type "list", dict := none, data := .seq acc cc, slots := #[] }) → as.length = min n m → acc.toList = as.map Value.ref → as.Pairwise (· < ·) → (∀ t ∈ as, s.heap.objs.size < t) →
      (∀ (j : Nat) t, as[j]? = some t → ∃ x y, IsPair h' t x y ∧ G j x ∧ K j y) → (∀ b o, b ≠ z → b ≠ tt → b ≠ p → b ≠ q → s.heap.get? b = some o → h'.get? b = some o) → Q (.ref s.heap.objs.size) { s with heap := h', toks := tk }) :
    wpAny (model prog w) A (call (.type "list") [.ref z]) Q E s := by
  refine callType_codes (Q₁ := fun obj s₁ => obj = .ref s.heap.objs.size ∧ s₁ = { s with heap := s.heap.push { cls := .type "list", data := .seq #[] } }) F.called_list (F.typeCall_list_1 _) F.entry_list_init
    (code_list_new _ ⟨rfl, rfl⟩) fun obj s₁ h₁ => ?_
  obtain ⟨rfl, rfl⟩ := h₁
  have hS : (s.heap.push { cls := .type "list", data := .seq #[] }).get? s.heap.objs.size = some { cls := .type "list", data := .seq #[] } := Heap.get?_push_size _ rfl
  refine ⟨⟨_, hS, rfl⟩, F.args_list_init_2 _ _, ?_⟩
  have lt : ∀ {b : Addr} {o : Obj}, s.heap.get? b = some o → b < s.heap.objs.size := fun e => Heap.lt_size e
  have lz := lt hz
  have lti := lt h1
  obtain ⟨a0, b0, ht⟩ := h2
  have ltt := lt ht
  obtain ⟨op, ep, _⟩ := sp.obj
  obtain ⟨oq, eq, _⟩ := sq.obj
  have lp := lt ep
  have lq := lt eq
  show wpAny _ _ (do let old ← Builtin.List.listItems (.ref s.heap.objs.size); Builtin.List.listUpdate (.ref s.heap.objs.size) (fun _ => #[]); letGo old.toList.reverse; Builtin.List.listExtendWith (.ref s.heap.objs.size) (.ref z) .none) _ _ _
  refine wpAny_bind ?_
  unfold Builtin.List.listItems
  refine wpAny_bind (wpAny_seqItems hS rfl (wpAny_pure ?_))
  show wpAny _ _ (updateSeq s.heap.objs.size (fun _ => #[]) >>= fun _ => letGo (#[] : Array Value).toList.reverse >>= fun _ => Builtin.List.listExtendWith (.ref s.heap.objs.size) (.ref z) .none) _ _ _
  refine wpAny_bind (wpAny_updateSeq hS rfl ?_)
  have hS2 := Heap.get?_update_self (Obj.mapSeq (fun _ => (#[] : Array Value))) hS rfl
  refine wpAny_bind (wpAny_letGo ?_)
  unfold Builtin.List.listExtendWith
  have oth : ∀ b o, b ≠ s.heap.objs.size → s.heap.get? b = some o → ((s.heap.push { cls := .type "list", data := .seq #[] }).update s.heap.objs.size (Obj.mapSeq (fun _ => (#[] : Array Value)))).get? b = some o :=
    fun b o hb e => (Heap.get?_update_other _ _ (Ne.symm hb)).trans (Heap.get?_push_of_some _ e)
  have hz2 := oth z _ (Nat.ne_of_lt lz) hz
  refine wpAny_bind (wpAny_typeOf (T := "zip") ⟨_, hz2, rfl⟩ ?_)
  have g1 : Builtin.List.listSameRef (.ref s.heap.objs.size) (.ref z) = false := by simp [Builtin.List.listSameRef, Nat.ne_of_gt lz]
  have g2 : (Value.type "zip" == Value.type "list") = false := by decide
  have g3 : (Value.type "zip" == Value.type "tuple") = false := by decide
  simp only [g1, g2, g3, Bool.or_false, Bool.false_eq_true, if_false]
  refine wpAny_bind (wpAny_pyIter_zip hz2 ?_)
  refine wpAny_bind (wpAny_holding ?_)
  unfold Builtin.List.listLengthHint
  refine wpAny_bind (wpAny_specialOf (T := "zip") ⟨_, hz2, rfl⟩ zip_no_len ?_)
  show wpAny _ _ (specialOf (Value.ref z) (Str.ofString "__length_hint__") >>= _) _ _ _
  refine wpAny_bind (wpAny_specialOf (T := "zip") ⟨_, hz2, rfl⟩ zip_no_hint ?_)
  refine wpAny_pure ?_
  show wpAny _ _ (rule "list.extend.makes-room" >>= fun _ => Builtin.List.listTouch (.ref s.heap.objs.size) >>= fun _ =>
    again (.builtin "list.extend.loop" ⟨[.ref s.heap.objs.size, .ref z, .none], []⟩)) _ _ _
  refine wpAny_bind (wpAny_rule ?_)
  refine wpAny_bind ?_
  show wpAny _ _ (updateSeq s.heap.objs.size (·.push .none) >>= fun _ => updateSeq s.heap.objs.size (·.pop)) _ _ _
  refine wpAny_bind (wpAny_updateSeq hS2 rfl ?_)
  have hS3 := Heap.get?_update_self (Obj.mapSeq (·.push Value.none)) hS2 rfl
  refine wpAny_updateSeq (hz := by seq_fits) hS3 rfl ?_
  have hS4 := Heap.get?_update_self (Obj.mapSeq (·.pop)) hS3 rfl
  generalize hgen : (((s.heap.push { cls := .type "list", data := .seq #[] }).update s.heap.objs.size (Obj.mapSeq (fun _ => (#[] : Array Value)))).update s.heap.objs.size (Obj.mapSeq (·.push Value.none))).update s.heap.objs.size (Obj.mapSeq (·.pop)) = h0 at hS4
  have up : ∀ b o, b ≠ s.heap.objs.size → s.heap.get? b = some o → h0.get? b = some o := fun b o hb e => by
    rw [← hgen]
    exact (Heap.get?_update_other _ _ (Ne.symm hb)).trans ((Heap.get?_update_other _ _ (Ne.symm hb)).trans (oth b o hb e))
  have sz0 : h0.objs.size = s.heap.objs.size + 1 := by rw [← hgen, Heap.size_update, Heap.size_update, Heap.size_update, Heap.size_push]
  have up' : ∀ b o, s.heap.get? b = some o → h0.get? b = some o := fun b o e => up b o (Nat.ne_of_lt (lt e)) e
  refine wpAny_pure ⟨plainId_quiet F.plain_extend_loop _, ?_⟩
  have lw : ∀ {b : Addr}, b ≤ s.heap.objs.size → b < h0.objs.size := fun h => by rw [sz0]; exact Nat.lt_succ_of_le h
  refine lz_loop (A := A.in1) (G := G) (K := K) (h1 := h0) hh D ⟨lw (Nat.le_refl _), lw (Nat.le_of_lt lz), lw (Nat.le_of_lt lti), lw (Nat.le_of_lt ltt), lw (Nat.le_of_lt lp), lw (Nat.le_of_lt lq)⟩ ⟨Nat.ne_of_gt lz, Nat.ne_of_gt lti, Nat.ne_of_gt ltt, Nat.ne_of_gt lp, Nat.ne_of_gt lq, fun a e => Nat.ne_of_lt (lc a e), fun a e => Nat.ne_of_lt (ld a e)⟩ hn .none (min n m) 0 _ [] #[] rfl (Nat.zero_le _) ?_ fun h' tk as acc e => ?_
  · exact { lst := ⟨_, hS4⟩, len := rfl, acc := rfl, rise := .nil, above := fun t h => (by cases h), prs := fun j t h => (by simp at h), fr := fun b o _ _ _ _ _ e => e, size := Nat.le_refl _, zst := .inl ⟨up' _ _ hz, rfl, a0, b0, up' _ _ ht⟩, ti := up' _ _ h1, sp := sp.on fun o => up' _ o, sq := sq.on fun o => up' _ o, zc := zc.on fun a o _ => up' a o, zd := zd.on fun a o _ => up' a o }
  · exact ⟨rfl, k h' tk as acc e.lst e.len e.acc e.rise (fun t ht => by have := (e.above t ht).1; rw [sz0] at this; exact this) e.prs fun b o b1 b2 b3 b4 q => e.fr b o (Nat.ne_of_lt (lt q)) b1 b2 b3 b4 (up' b o q)⟩
end
end VL

namespace VL
open PySem PySem.Spec PyProof.Rows L2
theorem vals_refsV : ∀ as : List Addr, Vals (as.map V.ref) (as.map Value.ref)
  | [] => .nil
  | _ :: as => .cons rfl (vals_refsV as)
/-- the tuples tracked at their addresses -/
def putP : Hp → List Addr → List (V × V) → Hp
  | H, a :: as, p :: ps => putP (upd H a (.tup [p.1, p.2])) as ps
  | H, _, _ => H
theorem putP_off {b : Addr} : ∀ (as : List Addr) (ps : List (V × V)) (H : Hp), b ∉ as → putP H as ps b = H b
  | [], _, _, _ => rfl
  | _ :: _, [], _, _ => rfl
  | a :: as, p :: ps, H, h => by
    show putP (upd H a (.tup [p.1, p.2])) as ps b = H b
    rw [putP_off as ps _ (fun z => h (List.mem_cons_of_mem _ z)), upd_ne (fun z => h (by rw [z]; exact List.mem_cons_self))]
theorem putP_at : ∀ (as : List Addr) (ps : List (V × V)) (H : Hp), as.length = ps.length → as.Nodup → ∀ (j : Nat) t p, as[j]? = some t → ps[j]? = some p → putP H as ps t = some (.tup [p.1, p.2])
  | [], _, _, _, _, j, t, p, h, _ => by simp at h
  | _ :: _, [], _, h, _, _, _, _, _, _ => by cases h
  | a :: as, q :: ps, H, h, hn, j, t, p, h1, h2 => by
    have hn' := List.nodup_cons.mp hn
    show putP (upd H a (.tup [q.1, q.2])) as ps t = some (.tup [p.1, p.2])
    cases j with
    | zero =>
      simp at h1 h2; subst h1; subst h2
      rw [putP_off as ps _ hn'.1, upd_same]
    | succ j => exact putP_at as ps _ (Nat.succ.inj h) hn'.2 j t p (by simpa using h1) (by simpa using h2)
section
variable {X : Cx} {pins : List (Addr × Obj)} {σ : L2.St} {H : Hp} {s : Shared} {h' : Heap} {tk : Nat} {ps : List (V × V)} {acc : Array Value} {cc : Nat} {as : List Addr} {S : Addr}
theorem pairs_laid (I : Inv X pins σ H s) (hk : ∀ b o, s.heap.get? b = some o → h'.get? b = some o) (lS : s.heap.objs.size ≤ S) (hS : h'.get? S = some { cls := .type "list", dict := none, data := .seq acc cc, slots := #[] }) (hl : as.length = ps.length) (hz : ps.length ≤ sizeLine) (rise : as.Pairwise (· < ·)) (hi : ∀ t ∈ as, S < t) (hacc : acc.toList = as.map Value.ref)
    (hp : ∀ (j : Nat) t, as[j]? = some t → ∃ x y p, IsPair h' t x y ∧ ps[j]? = some p ∧ RelV p.1 x ∧ RelV p.2 y) :
    ∃ H' : Hp, (∀ b o, H b = some o → H' b = some o) ∧ H S = none ∧ (∀ t ∈ as, H t = none) ∧ S ∉ as ∧ H' S = some (.lst (as.map V.ref)) ∧ (∀ (j : Nat) t p, as[j]? = some t → ps[j]? = some p → H' t = some (.tup [p.1, p.2])) ∧ Inv X pins σ H' { s with heap := h', toks := tk } := by
  have hSn : S ∉ as := fun z => Nat.lt_irrefl _ (hi _ z)
  have nd : as.Nodup := List.Pairwise.imp (fun {a b} (h : a < b) => Nat.ne_of_lt h) rise
  have new : ∀ t ∈ as, H t = none := fun t ht => I.hok.fresh (Nat.le_of_lt (Nat.lt_of_le_of_lt lS (hi t ht)))
  have newS : H S = none := I.hok.fresh lS
  have atP := putP_at as ps (upd H S (.lst (as.map V.ref))) hl nd
  have off : ∀ b, b ∉ as → b ≠ S → putP (upd H S (.lst (as.map V.ref))) as ps b = H b := fun b h1 h2 => by rw [putP_off as ps _ h1, upd_ne h2]
  have low : ∀ b o, s.heap.get? b = some o → b ∉ as ∧ b ≠ S := fun b o e => ⟨fun z => absurd (Heap.lt_size e) (Nat.not_lt.mpr (Nat.le_of_lt (Nat.lt_of_le_of_lt lS (hi b z)))), Nat.ne_of_lt (Nat.lt_of_lt_of_le (Heap.lt_size e) lS)⟩
  have kp : ∀ b u, H b = some u → (putP (upd H S (.lst (as.map V.ref))) as ps) b = some u := fun b u e => by
    rw [off b (fun z => by rw [new b z] at e; cases e) (fun z => by rw [z, newS] at e; cases e)]
    exact e
  have eS : putP (upd H S (.lst (as.map V.ref))) as ps S = some (.lst (as.map V.ref)) := by rw [putP_off as ps _ hSn, upd_same]
  refine ⟨putP (upd H S (.lst (as.map V.ref))) as ps, kp, newS, new, hSn, eS, atP, ?_⟩
  refine I.call' (ch := []) rfl ⟨fun b o q _ _ _ => hk b o q, fun b o q _ _ _ => ⟨o.slots, hk b o q⟩, fun b o q n _ => ?_, fun b o q _ => ⟨o, hk b o q⟩, fun b xs q => kp b _ q, fun b o u q => kp b _ q, fun b ps q => ⟨#[], by rw [kp b _ q]; simp⟩⟩ (fun b u q => ?_) I.bare fun b z => by simp at z
  · obtain ⟨z1, z2⟩ := low b o q
    rw [off b z1 z2]
    exact n
  · by_cases hb : b ∈ as
    · obtain ⟨j, ej⟩ := List.getElem?_of_mem hb
      obtain ⟨x, y, p, f1, f2, f3, f4⟩ := hp j b ej
      rw [atP j b p ej f2] at q
      cases q
      exact ⟨by show 2 ≤ sizeLine; decide, [x, y], .cons f3 (.cons f4 .nil), ⟨_, f1, rfl, _, rfl⟩⟩
    · by_cases hb2 : b = S
      · rw [hb2] at q ⊢
        rw [eS] at q
        cases q
        refine ⟨by rw [List.length_map]; omega, acc.toList, cc, by rw [hacc]; exact vals_refsV as, ?_⟩
        rw [Array.toArray_toList]
        exact hS
      · rw [off b hb hb2] at q
        exact (I.hok b u q).stay (fun d v _ y => hk d v y) (fun d y => kp d _ y) fun d xs y => kp d _ y
end
def tLZ (K : PySem.W.Frag) (ta : TA) : TE := fun σ H Q => ta σ H fun vs H1 => ∃ c d xs ys, vs = [zval c, zval d] ∧ ZD K H1 c xs ∧ ZD K H1 d ys ∧ min xs.length ys.length ≤ sizeLine ∧
  ∀ (H' : Hp) (p : Addr) (ts : List Addr), (∀ b o, H1 b = some o → H' b = some o) → H1 p = none → (∀ t ∈ ts, H1 t = none) → p ∉ ts → ts.length = min xs.length ys.length → H' p = some (.lst (ts.map V.ref)) → (∀ (j : Nat) t, ts[j]? = some t → ∃ x y, xs[j]? = some x ∧ ys[j]? = some y ∧ H' t = some (.tup [x, y])) → Q (.ref p) H'
section
variable {X : Cx} {F : Df} {e a b : Expr} {pos p p2 pos2 : Pos} {ta : TA} {τ : WA}
theorem pe_listZip (hc : X.calm = true) (hg : Gl X "list") (hm : X.mg "list" = none) (hg2 : Gl X "zip") (hm2 : X.mg "zip" = none) (ha : PA X [a, b] ta)
    (na : starEach [.Call (.Name "zip" p2) [a, b] [] pos2] X.env = (false, eval (.Call (.Name "zip" p2) [a, b] [] pos2) X.env) :: starEach [] X.env := by rfl) (hs : starEach [a, b] X.env = (false, eval a X.env) :: starEach [b] X.env := by rfl) (hpl : (backTo pos2 (starEach [b] X.env)).any (·.1) = false := by rfl) :
    PE X (.Call (.Name "list" p) [.Call (.Name "zip" p2) [a, b] [] pos2] [] pos) (tLZ X.K ta) := by
  refine ⟨fun pins s σ H Q I h => ?_⟩
  refine Call_ (ld_blt I hg hm boot_list (PyProof.Rows.callWith_type1 (PyProof.Rows.args_cons ?_ na) na))
  refine Call_ (ld_blt I hg2 hm2 PyProof.Rows.boot_zip (PyProof.Rows.callWith_type1 (thn (ha.run pos2 pins s σ H _ I h) fun us s1 ⟨vs, H1, I1, r1, q1⟩ => ?_) hs hpl))
  obtain ⟨c, d, xs, ys, rfl, zx, zy, hz, q⟩ := q1
  cases r1 with
  | cons r rr =>
  cases rr with
  | cons r2 rr =>
  cases rr
  obtain ⟨zc, g1, l1⟩ := zx.zc I1
  obtain ⟨zd, g2, l2⟩ := zy.zc I1
  obtain ⟨o, i1, f1, t1⟩ := z_iter c r
  obtain ⟨o2, i2, f2, t2⟩ := z_iter d r2
  refine z_call i1 i2 f1 f2 g1 (g2.push o) fun hp hzz p1 p2 e1 e2 hk => ?_
  refine PyProof.Rows.args_nil ?_
  have low : ∀ {b : Addr} {i : Nat}, b < s1.heap.objs.size → b < (s1.heap.objs.size + i : Nat) := fun h => Nat.lt_of_lt_of_le h (Nat.le_add_right _ _)
  have lz : (s1.heap.objs.size + 4 : Nat) < hp.objs.size := Heap.lt_size hzz
  have D := zap (c := c) (d := d) s1.heap.objs.size l1 l2
  have ne : ∀ {b : Addr} {o : Obj}, s1.heap.get? b = some o → b ≠ (s1.heap.objs.size + 4 : Nat) ∧ b ≠ (s1.heap.objs.size + 3 : Nat) ∧ b ≠ s1.heap.objs.size ∧ b ≠ (s1.heap.objs.size + 1 : Nat) := fun {b o} e => by
    have h : Nat.lt b s1.heap.objs.size := Heap.lt_size e
    exact ⟨Nat.ne_of_lt (Nat.lt_of_lt_of_le h (Nat.le_add_right _ _)), Nat.ne_of_lt (Nat.lt_of_lt_of_le h (Nat.le_add_right _ _)), Nat.ne_of_lt h, Nat.ne_of_lt (Nat.lt_of_lt_of_le h (Nat.le_add_right _ _))⟩
  refine call_list_zip (s := { s1 with heap := hp }) (c := c) (d := d) (n := xs.length) (m := ys.length) (I1.ok.hd hc) D hzz p1 ⟨_, _, p2⟩ (t1 _ _ e1) (t2 _ _ e2) (zc.on fun a o _ => hk a o) (zd.on fun a o _ => hk a o) (fun a e => Nat.lt_of_lt_of_le (l1 a e) (Nat.le_of_lt (Nat.lt_of_le_of_lt (Nat.le_add_right _ _) lz))) (fun a e => Nat.lt_of_lt_of_le (l2 a e) (Nat.le_of_lt (Nat.lt_of_le_of_lt (Nat.le_add_right _ _) lz))) hz fun h' tk as acc hS hl hacc rise above prs fr => ?_
  obtain ⟨cc, hS⟩ := hS
  have hzip : (xs.zip ys).length = min xs.length ys.length := List.length_zip
  obtain ⟨H', k1, k2, k3, k4, k5, k6, J⟩ := pairs_laid (h' := h') (tk := tk) (ps := xs.zip ys) (as := as) (acc := acc) (cc := cc) (S := hp.objs.size) I1 (fun b o e => by
      obtain ⟨n1, n2, n3, n4⟩ := ne e
      exact fr b o n1 n2 n3 n4 (hk b o e)) (Nat.le_of_lt (Nat.lt_of_le_of_lt (Nat.le_add_right _ _) lz)) hS (by rw [hl, hzip]) (by rw [hzip]; exact hz) rise above hacc (fun j t hj => by
      obtain ⟨x, y, f1, ⟨vx, f2, f3⟩, vy, f4, f5⟩ := prs j t hj
      exact ⟨x, y, (vx, vy), f1, by rw [List.getElem?_zip_eq_some]; exact ⟨f2, f4⟩, f3, f5⟩)
  refine ⟨.ref hp.objs.size, H', J, rfl, q H' _ as k1 k2 k3 k4 hl k5 fun j t hj => ?_⟩
  obtain ⟨x, y, f1, ⟨vx, f2, f3⟩, vy, f4, f5⟩ := prs j t hj
  exact ⟨vx, vy, f2, f4, k6 j t (vx, vy) hj (by rw [List.getElem?_zip_eq_some]; exact ⟨f2, f4⟩)⟩
theorem rval_items {K : PySem.W.Frag} {H : Hp} {M : Addr → Prop} {v : V} {d : D} {ds : List D} (r : RVal K H M v d) (e : itemsOf d = some ds) : ∃ c xs, v = zval c ∧ ZD K H c xs ∧ Rs K H M xs ds := by
  cases d with
  | seq k xs => cases e; obtain ⟨a, vs, rfl, t, rs, _⟩ := r.seqE; exact ⟨.lst a, vs, rfl, t, rs⟩
  | tup xs => cases e; obtain ⟨a, vs, rfl, t, rs⟩ := r.tupE; exact ⟨.tup a, vs, rfl, t, rs⟩
  | tupN xs =>
    cases e
    rcases r with ⟨_, r⟩ | ⟨z, _⟩
    · cases r with
      | tupN h hc hl hi => exact ⟨.tup _, _, rfl, .inl (.inr ⟨_, h.1⟩), hl, hi⟩
    · cases z
  | str l =>
    cases e
    rw [r.strE]
    refine ⟨.str (mkS l), _, rfl, rfl, ?_⟩
    have : Rs K H M (((l.map fun c => [c]).map mkS).map V.str) ((l.map fun c => [c]).map D.str) := rs_strs
    rw [List.map_map (g := D.str), List.map_map (g := V.str), List.map_map] at this
    rw [mkS_list]
    exact this
  | _ => cases e
def wLZ (τ : WA) : WE := fun ρ q => τ ρ fun as ρ1 => ∃ x y ds es, argsD ρ1 as = some [x, y] ∧ itemsOf x = some ds ∧ itemsOf y = some es ∧ min ds.length es.length ≤ 1000000 ∧ q (.seq .tmp (List.zipWith pairD ds es)) ρ1
theorem de_listZip (hc : X.calm = true) (hm : X.mg "list" = none) (hm2 : X.mg "zip" = none) (ha : DA X F [a, b] τ) (hK : X.K = F.K) (hg : Gl X "list") (hg2 : Gl X "zip")
    (na : starEach [.Call (.Name "zip" p2) [a, b] [] pos2] X.env = (false, eval (.Call (.Name "zip" p2) [a, b] [] pos2) X.env) :: starEach [] X.env := by rfl) (hs : starEach [a, b] X.env = (false, eval a X.env) :: starEach [b] X.env := by rfl) (hpl : (backTo pos2 (starEach [b] X.env)).any (·.1) = false := by rfl) :
    DE X F (.Call (.Name "list" p) [.Call (.Name "zip" p2) [a, b] [] pos2] [] pos) (wLZ τ) := by
  refine ⟨fun bad σ ρ H q Q o w k => (pe_listZip hc hg hm hg2 hm2 pa_run na hs hpl).to (ha.go bad σ ρ H _ _ o w fun vs as bad1 ρ1 H1 p1 w1 => ?_)⟩
  obtain ⟨x, y, ds, es, ed, e1, e2, hz, w1⟩ := w1
  obtain ⟨lv, rv⟩ := p1.vals ed
  obtain ⟨v1, v2, rfl⟩ : ∃ v1 v2, vs = [v1, v2] := by
    match vs, lv with
    | [v1, v2], _ => exact ⟨v1, v2, rfl⟩
  obtain ⟨c, xs, rfl, zx, rx⟩ := rval_items (rv 0 _ _ rfl rfl) e1
  obtain ⟨d, ys, rfl, zy, ry⟩ := rval_items (rv 1 _ _ rfl rfl) e2
  rw [hK]
  refine ⟨c, d, xs, ys, rfl, zx, zy, by rw [rx.1, ry.1, sizeLine_eq]; omega, fun H' p ts k1 k2 k3 k4 k5 k6 k7 => ?_⟩
  have dm : ∀ b, Mm bad1 σ ρ1 b → H1 b ≠ none := fun b m => p1.st.ok.mdom m
  have rs : Rs F.K H' (fun b => Mm bad1 σ ρ1 b ∨ b = p) (ts.map V.ref) (List.zipWith pairD ds es) := by
    refine ⟨by rw [List.length_map, k5, List.length_zipWith, rx.1, ry.1], fun i v dd h1 h2 => ?_⟩
    rw [List.getElem?_map] at h1
    cases ht : ts[i]? with
    | none => rw [ht] at h1; cases h1
    | some t =>
      rw [ht] at h1; cases h1
      obtain ⟨u1, u2, f1, f2, f3⟩ := k7 i t ht
      obtain ⟨d1, g1, r1⟩ := rx.getV f1
      obtain ⟨d2, g2, r2⟩ := ry.getV f2
      rw [List.getElem?_zipWith, g1, g2] at h2
      cases h2
      have mem := List.mem_of_getElem? ht
      have up : ∀ {v : V} {d : D}, R F.K H1 (Mm bad1 σ ρ1) v d → R F.K H' (fun b => Mm bad1 σ ρ1 b ∨ b = p) v d := fun r => r.mono (fun b x h _ => k1 b x h) fun b m => m.imp id fun e => by subst e; exact k2
      exact .tup (.inl ⟨f3, fun m => m.elim (fun m => dm t m (k3 t mem)) fun e => k4 (e ▸ mem)⟩) rfl fun j v d a b => (Rs.cons (up r1) (.cons (up r2) .nil)).2 j v d a b
  have res : Res F.K (Mm bad1 σ ρ1) H1 (.ref p) (.seq .tmp (List.zipWith pairD ds es)) H' := ⟨k1, .inr ⟨rfl, p, rfl, k2, _, k6, rs⟩⟩
  obtain ⟨bad2, p2⟩ := res.po p1.st.ok
  exact k _ _ bad2 ρ1 H' (p1.st.po p2) w1
@[simp] theorem x_LZ {ρ : VEnv} {q : D → VEnv → Prop} : wLZ τ ρ q = τ ρ fun as ρ1 => ∃ zs, argsD ρ1 as = some zs ∧ as2 zs fun x y => ∃ ds es, itemsOf x = some ds ∧ itemsOf y = some es ∧ min ds.length es.length ≤ 1000000 ∧ q (.seq .tmp (List.zipWith pairD ds es)) ρ1 := by
  unfold wLZ
  congr
  funext as ρ1
  refine propext ⟨fun ⟨x, y, ds, es, e, h⟩ => ⟨_, e, ds, es, h⟩, fun ⟨zs, e, h⟩ => ?_⟩
  match zs, e, h with
  | [x, y], e, ⟨ds, es, h⟩ => exact ⟨x, y, ds, es, e, h⟩
end
end VL

namespace VL
open PySem PySem.Spec PyProof.Rows L2
/-! ### xs.index(i), a list of ints -/
def opLIndex : D → List D → (D → Prop) → Prop
  | .seq _ xs, [.int i], q => ∃ ns, intsOf xs = some ns ∧ i ∈ ns ∧ q (.int (ns.idxOf i : Nat))
  | _, _, _ => False
theorem vm_lindex {K : PySem.W.Frag} : VM K (rIndex K) opLIndex := fun H M x dx xs ds q Q dm rx hl hr w k => by
  match dx, ds, xs, hl, w with
  | .seq kd ys, [.int i], [y], _, ⟨ns, e, hi, w⟩ =>
    obtain ⟨a, vs, rfl, t, rs, _⟩ := rx.seqE
    rw [intsOf_eq e] at rs
    rw [(hr 0 y _ rfl rfl).intE]
    have ev := rs.ints
    subst ev
    have hlt : ns.idxOf i < ns.length := List.idxOf_lt_length_iff.mpr hi
    refine ⟨a, _, .int i, ns.idxOf i, .int i, rfl, rfl, t, rfl, by simp [List.all_map, flatV, Function.comp_def], ?_, by simp [eqV], fun m z' hm hz => ?_, k _ _ H (res_int _) w⟩
    · rw [List.getElem?_map, List.getElem?_eq_getElem hlt, List.getElem_idxOf hlt]; rfl
    · rw [List.getElem?_map] at hz
      have hml : m < ns.length := by omega
      rw [List.getElem?_eq_getElem hml] at hz
      cases hz
      have := List.not_of_lt_findIdx (p := (· == i)) (xs := ns) (i := m) hm
      simpa [eqV] using this
section
variable {X : Cx} {F : Df} {e o : Expr} {apos cpos : Pos} {α : WE} {τ : WA}
theorem r_lindex (hK : X.K = F.K) (ho : DE X F o α) (ha : DA X F [e] τ) (hbase : attributeBase o "index" X.env (eval o X.env) = eval o X.env := by rfl)
    (hfew : ((backTo cpos (starEach [e] X.env)).all (fun x => !x.1) && (backToKw cpos (keywordEach [] X.env)).all (fun x => x.1.isSome) && decide ([e].length + ([] : List Keyword).length + (if ([] : List Keyword).isEmpty then 0 else 1) < 30)) = true := by rfl)
    (hline : (apos.endLine == cpos.line) = true := by rfl) (hs : starEach [e] X.env = (false, eval e X.env) :: starEach [] X.env := by rfl) : DE X F (.Call (.Attribute o "index" apos) [e] [] cpos) (wMeth "list" opLIndex α τ) :=
  de_meth PySem.F.plainAttrs_list PySem.F.slot_list_index PySem.F.type_list_index mt_index hK (by rw [hK]; exact vm_lindex) ho ha hbase hfew hline hs rfl
@[simp] theorem o_lindex {k : Kd} {xs : List D} {i : Int} {p : D → Prop} : opLIndex (.seq k xs) [.int i] p = ∃ ns, intsOf xs = some ns ∧ i ∈ ns ∧ p (.int (ns.idxOf i : Nat)) := rfl
end
end VL

namespace VL
open PySem PySem.Spec PyProof.Rows L2 PySem.Builtin PySem.Builtin.Str
/-! ### a text turned round: t[::-1] -/
section
variable {X : Cx} {F : Df} {e : Expr} {α : WE}
theorem rev_made (l : List Nat) (u : Tok) : (Txt.sliceBy (mkS l) none none (-1, u)) = mkS l.reverse := by
  have h := step_rev_list (mkS l) u
  have h2 : (List.range (mkS l).length).map (fun k => (mkS l).cps.getD ((mkS l).length - 1 - k) 0) = l.reverse := by
    rw [mkS_len]
    apply List.ext_getElem?
    intro i
    by_cases hi : i < l.length
    · rw [List.getElem?_map, List.getElem?_range hi, List.getElem?_reverse hi]
      show some ((mkS l).cps.getD (l.length - 1 - i) 0) = _
      have : (mkS l).cps = l.toArray := rfl
      rw [this, List.getElem?_eq_getElem (by omega)]
      simp only [Array.getD, List.size_toArray]
      rw [dif_pos (by omega)]; rfl
    · rw [List.getElem?_eq_none (by simp; omega), List.getElem?_eq_none (by simp; omega)]
  rw [h2] at h
  generalize Txt.sliceBy (mkS l) none none (-1, u) = z at h
  obtain ⟨c⟩ := z
  show (⟨c⟩ : Str) = ⟨l.reverse.toArray⟩
  have : c = l.reverse.toArray := by rw [← h]
  rw [this]
def tRevS (te : TE) : TE := fun σ H Q => te σ H fun x H1 => ∃ l : List Nat, x = .str (mkS l) ∧ l.length ≤ sizeLine ∧ Q (.str (mkS l.reverse)) H1
theorem pe_revS {te : TE} {k : Nat} {p1 p2 p3 pos : Pos} (he : PE X e te) : PE X (.Subscript e (.Slice none none (some (.UnaryOp .USub (.Constant (.int 1) k p1) p2)) p3) pos) (tRevS te) := by
  refine ⟨fun pins s σ H Q I h => ?_⟩
  refine Subscript_ (thn (he.run pins s σ H _ I h) fun v s1 ⟨x, H1, I1, r1, q1⟩ => ?_)
  obtain ⟨z, ex, hz, q⟩ := q1
  subst ex
  obtain ⟨t, rfl⟩ := r1
  have hst : PO X (some (.UnaryOp .USub (.Constant (.int 1) k p1) p2)) (tPart (tUn (rU fun i => .int (-i)) (tC (.int 1)))) := po_some (pe_un un_neg pe_int)
  refine wpAny_Slice (thn (po_none.run pins s1 σ H1 (fun o H2 => o = none ∧ H2 = H1) I1 ⟨rfl, rfl⟩) fun vl s2 ⟨l, H2, I2, pl, el, e2⟩ => ?_)
  subst el e2
  refine thn (po_none.run pins s2 σ H2 (fun o H3 => o = none ∧ H3 = H2) I2 ⟨rfl, rfl⟩) fun vu s3 ⟨u, H3, I3, pu, eu, e3⟩ => ?_
  subst eu e3
  refine thn (hst.run pins s3 σ H3 (fun o H4 => o = some (-1) ∧ H4 = H3) I3 ⟨1, rfl, -1, rfl, rfl, rfl⟩) fun vs s4 ⟨o, H4, I4, ps, eo, e4⟩ => ?_
  subst eo e4
  have I5 : Inv X pins σ H4 { s4 with heap := s4.heap.push { cls := .type "slice", data := .fields #[vl, vu, vs] } } := I4.kept (t' := s4.toks) fun b ob q => Heap.get?_push_of_some _ q
  show wpAny (model X.prog X.w) X.A (subscriptTail e (.Slice none none (some (.UnaryOp .USub (.Constant (.int 1) k p1) p2)) p3) (.str (mkS z) t) (.ref s4.heap.objs.size)) (EP X pins σ Q) X.xe { s4 with heap := s4.heap.push { cls := .type "slice", data := .fields #[vl, vu, vs] } }
  refine tail_any (ops := [.ref s4.heap.objs.size, .str (mkS z) t]) (typeIs_str _ _ _) F.slot_str_getitem.lookup ?_ (by with_unfolding_all rfl)
  obtain ⟨os, hos, hcs, hds⟩ := Heap.IsSliceOf.new s4.heap vl vu vs
  obtain ⟨l0, rfl, e0⟩ := IsPart.raw pl
  obtain ⟨u0, rfl, e1⟩ := IsPart.raw pu
  obtain ⟨k0, rfl, e2⟩ := IsPart.raw ps
  match l0, u0, k0, e0, e1, e2 with
  | none, none, some (i, tk), _, _, e2 =>
    have ei : i = -1 := by simpa using e2
    subst ei
    refine wpAny_getItem_str_slice (l := none) (u := none) (st := some (-1, tk)) ⟨os, hos, hcs, hds⟩ rfl ?_
    have hm := rev_made z tk
    unfold Txt.sliceBy at hm
    rw [if_neg (by simp)] at hm
    unfold sliceMade
    rw [if_neg (by simp), hm]
    exact ⟨by rw [mkS_len, List.length_reverse]; exact hz, .str _, H4, I5.tok _, ⟨_, rfl⟩, q⟩
def wRevS (α : WE) : WE := fun ρ q => α ρ fun x ρ1 => ∃ l, x = .str l ∧ l.length ≤ sizeLine ∧ q (.str l.reverse) ρ1
theorem de_revS {k : Nat} {p1 p2 p3 pos : Pos} (ha : DE X F e α) : DE X F (.Subscript e (.Slice none none (some (.UnaryOp .USub (.Constant (.int 1) k p1) p2)) p3) pos) (wRevS α) := by
  refine ⟨fun bad σ ρ H q Q o w kk => (pe_revS pe_run).to (ha.go bad σ ρ H _ _ o w fun x dx bad1 ρ1 H1 p1 w1 => ?_)⟩
  obtain ⟨l, rfl, hz, w1⟩ := w1
  have rx := p1.va.read p1.st.ok
  refine ⟨l, rx.strE, hz, ?_⟩
  obtain ⟨bad2, p2⟩ := (res_str (K := F.K) (M := Mm bad1 σ ρ1) (H := H1) l.reverse).po p1.st.ok
  exact kk _ _ bad2 ρ1 H1 (p1.st.po p2) w1
@[simp] theorem x_revS {ρ : VEnv} {q : D → VEnv → Prop} : wRevS α ρ q = α ρ fun x ρ1 => ∃ l, x = .str l ∧ l.length ≤ sizeLine ∧ q (.str l.reverse) ρ1 := rfl
end
end VL

namespace VL
open PySem PySem.Spec PyProof.Rows L2
/-! ### tuples whose object is known: methods of tuples -/
section
variable {X : Cx}
/-- tuple(a list): the new object has no dict -/
theorem call_tupleN : CallR X (.type "tuple") (fun xs H Q => ∃ p ys, xs = [.ref p] ∧ SqL X.K H p ys ∧ ∀ (l : Addr) (o : Obj), H l = none → o.cls = .type "tuple" → o.dict = none → Q (.ref l) (upd H l (.frz o (.tup ys)))) := by
  intro pins s σ H xs us Q I r h
  obtain ⟨p, ys, rfl, hq, q⟩ := h
  obtain ⟨u, rfl, rx⟩ := vals1 r
  cases rx
  obtain ⟨its, r', pl, hz⟩ := I.list hq
  have hlen := r'.length
  refine call_tuple_list pl.isList (fun h' kp => ?_) (by simp only [List.size_toArray] <;> omega)
  have I1 : Inv X pins σ H { s with heap := h' } := I.kept (t' := s.toks) kp
  have I2 : Inv X pins σ (upd H h'.objs.size (.frz { cls := .type "tuple", data := .seq its.toArray } (.tup ys))) { s with heap := h'.push { cls := .type "tuple", data := .seq its.toArray } } :=
    I1.laid (t' := s.toks) (fun b o e => Heap.get?_push_of_some _ e) (Nat.le_refl _) (show ObjOk X.prog X.w _ _ _ (.frz _ (.tup ys)) from ⟨Heap.get?_push_size _ rfl, hz, its, r', IsTup.new _ _⟩)
  exact ⟨.ref h'.objs.size, _, I2, rfl, q _ _ (I1.hok.fresh (Nat.le_refl _)) rfl rfl⟩
/-- such a tuple -/
def TupN (H : Hp) (x : V) (ys : List V) : Prop := ∃ (p : Addr) (o : Obj), x = .ref p ∧ H p = some (.frz o (.tup ys)) ∧ o.cls = .type "tuple" ∧ o.dict = none
theorem TupN.is {pins : List (Addr × Obj)} {σ : L2.St} {H : Hp} {s : Shared} {x : V} {v : Value} {ys : List V} (I : Inv X pins σ H s) (r : RelV x v) (t : TupN H x ys) : s.TypeIs v "tuple" ∧ ∀ a, v = .ref a → ∃ ob, s.heap.get? a = some ob ∧ ob.dict = none := by
  obtain ⟨p, o, rfl, e, hc, hd⟩ := t
  obtain rfl : v = .ref p := r
  obtain ⟨g, _⟩ := I.hok p _ e
  exact ⟨⟨o, g, hc⟩, fun a ea => by cases ea; exact ⟨o, g, hd⟩⟩
def tBMT (r : V → List V → Hp → VK → Prop) (to : TE) (t : TA) : TE := fun σ H Q => to σ H fun x H1 => (∃ ys, TupN H1 x ys) ∧ t σ H1 fun xs H2 => r x xs H2 Q
variable {o e : Expr} {es : List Expr} {to : TE} {t : TA} {name : Str} {apos cpos : Pos} {id : String} {r : V → List V → Hp → VK → Prop}
theorem pe_bmT (slot : Slot "tuple" name id) (hty : typeOf (.builtin id) = pure (.type "method_descriptor")) (hm : MtR X id r) (ho : PE X o to) (ha : PA X (e :: es) t)
    (hbase : attributeBase o name X.env (eval o X.env) = eval o X.env := by rfl)
    (hfew : ((backTo cpos (starEach (e :: es) X.env)).all (fun x => !x.1) && (backToKw cpos (keywordEach [] X.env)).all (fun x => x.1.isSome)
      && decide ((e :: es).length + ([] : List Keyword).length + (if ([] : List Keyword).isEmpty then 0 else 1) < 30)) = true := by rfl)
    (hline : (apos.endLine == cpos.line) = true := by rfl) (hs : starEach (e :: es) X.env = (false, eval e X.env) :: starEach es X.env := by rfl) (hplain : (backTo cpos (starEach es X.env)).any (·.1) = false := by rfl) :
    PE X (.Call (.Attribute o name apos) (e :: es) [] cpos) (tBMT r to t) := by
  refine ⟨fun pins s σ H Q I h => ?_⟩
  refine wpAny_Call_method_late hbase hfew hline rfl (thn (ho.run pins s σ H _ I h) fun v s1 ⟨x, H1, I1, r1, ⟨ys, ty⟩, q1⟩ => ?_)
  obtain ⟨h1, h2⟩ := ty.is I1 r1
  refine ⟨"tuple", id, PySem.F.plainAttrs_tuple, slot, hty, h1, h2, ?_⟩
  have hA := ha.run cpos pins s1 σ H1 _ I1 q1
  rw [hs] at hA ⊢
  refine Calls.callWith_builtin (by show (false || (backTo cpos (starEach es X.env)).any (·.1)) = false; rw [hplain] <;> rfl) (Calls.evalArgs_plain ?_)
  exact thn hA fun us s2 ⟨vs, H2, I2, r2, q2⟩ => hm pins s2 σ H2 x vs v us Q I2 r1 r2 q2
end
end VL

namespace VL
open PySem PySem.Spec PyProof.Rows L2
theorem dpAll_ints {K : PySem.W.Frag} {H : Hp} : ∀ ns : List Int, DpAll K H (ns.map V.int) (ns.map PyData.int)
  | [] => .nil
  | i :: ns => .cons (.int i) (dpAll_ints ns)
theorem plainAll_ints : ∀ ns : List Int, PyData.plainAll (ns.map PyData.int) = true
  | [] => rfl
  | i :: ns => by
    show (PyData.plain (.int i) && PyData.plainAll (ns.map PyData.int)) = true
    rw [plainAll_ints ns]; rfl
theorem count_ints (i : Int) : ∀ ns : List Int, (ns.map PyData.int).countP (fun y => PyData.eqv y (.int i)) = ns.count i
  | [] => rfl
  | a :: ns => by
    rw [List.map_cons, List.countP_cons, List.count_cons, count_ints i ns]; rfl
/-- t.count(i), of ints -/
theorem mt_countT {X : Cx} (hu : X.A.units + 64 < cLine) : MtR X "tuple.count" (fun x xs H Q => ∃ (ns : List Int) (i : Int), TupN H x (ns.map V.int) ∧ xs = [.int i] ∧ Q (.int (ns.count i : Nat)) H) := by
  intro pins s σ H x xs v us Q I r rs h
  obtain ⟨ns, i, ⟨p, o, rfl, e, hc, hd⟩, rfl, q⟩ := h
  obtain rfl : v = .ref p := r
  obtain ⟨u, rfl, ru⟩ := Vals.one rs
  have g := I.hok p _ e
  obtain ⟨g1, hz, its, rv, ht⟩ := g
  obtain ⟨as, ra⟩ := Dp.readsAll I (ns.map PyData.int) (ns.map V.int) its (dpAll_ints ns) rv
  obtain ⟨bs, rb⟩ := Dp.reads I (.int i) (.int i) u (.int i) ru
  refine PySem.SeqAt.count_tuple_data (vs := its.toArray) (xs := ns.map PyData.int) (d := .int i) (as := as) ht (by simpa using ra) rb (plainAll_ints ns) rfl ?_ ?_
  · show X.A.units + 1 + min _ 0 < cLine
    rw [Nat.min_zero]; omega
  · rw [count_ints]
    exact ⟨.int _, H, I.tok _, ⟨_, rfl⟩, q⟩
end VL

namespace VL
open PySem PySem.Spec PyProof.Rows L2 PySem.W
/-! ### tuples whose object is known -/
theorem res_tupN {K : PySem.W.Frag} {H : Hp} {M : Addr → Prop} {a : Addr} {o : Obj} {vs : List V} {ds : List D} (dm : ∀ b, M b → H b ≠ none) (n : H a = none) (hc : o.cls = .type "tuple" ∧ o.dict = none) (r : Rs K H M vs ds) : Res K M H (.ref a) (.tupN ds) (upd H a (.frz o (.tup vs))) :=
  ⟨new_same n, .inl ⟨rfl, by
    have q := r.same (new_same (o := .frz o (.tup vs)) n)
    exact .tupN ⟨upd_same, fun m => dm a m n⟩ hc q.1 q.2⟩⟩
def opTupleN : D → (D → Prop) → Prop
  | .seq _ ds, q => q (.tupN ds)
  | _, _ => False
@[simp] theorem o_tupleN {k : Kd} {ds : List D} {p : D → Prop} : opTupleN (.seq k ds) p = p (.tupN ds) := rfl
theorem v1_tupleN {K : PySem.W.Frag} : V1 K (fun x H Q => ∃ p ys, [x] = [V.ref p] ∧ SqL K H p ys ∧ ∀ (l : Addr) (o : Obj), H l = none → o.cls = .type "tuple" → o.dict = none → Q (.ref l) (upd H l (.frz o (.tup ys)))) opTupleN := fun H M x dx q Q dm rx w k => by
  match dx, rx, w with
  | .seq kd ds, rx, w =>
    obtain ⟨a, vs, rfl, t, rs, _⟩ := rx.seqE
    exact ⟨a, vs, rfl, t, fun l o nl h1 h2 => k _ _ _ (res_tupN dm nl ⟨h1, h2⟩ rs) w⟩
theorem rval_tupN {K : PySem.W.Frag} {H : Hp} {M : Addr → Prop} {v : V} {ds : List D} (r : RVal K H M v (.tupN ds)) : ∃ vs, TupN H v vs ∧ Rs K H M vs ds := by
  rcases r with ⟨_, r⟩ | ⟨z, _⟩
  · cases r with
    | tupN h hc hl hi => exact ⟨_, ⟨_, _, rfl, h.1, hc.1, hc.2⟩, hl, hi⟩
  · cases z
section
variable {X : Cx} {F : Df} {a b e o : Expr} {es : List Expr} {pos p cpos apos : Pos} {α : WE} {τ : WA}
theorem r_tupleN (hK : X.K = F.K) (hm : X.mg "tuple" = none) (hg : Gl X "tuple") (ha : DA X F [a] τ) (he : starEach [a] X.env = (false, eval a X.env) :: starEach [] X.env := by rfl) : DE X F (.Call (.Name "tuple" p) [a] [] pos) (wCallN (f1 opTupleN) τ) := de_callTy call_tupleN (by rw [hK]; exact vn1 v1_tupleN) hg hm b_tuple ha (by decide) (by decide) he rfl
/-- t.count(i), of ints -/
def wCountT (α : WE) (τ : WA) : WE := fun ρ q => α ρ fun x ρ1 => ∃ ns : List Int, x = .tupN (ns.map D.int) ∧ τ ρ1 fun as ρ2 => ∃ i : Int, argsD ρ2 as = some [.int i] ∧ q (.int (ns.count i : Nat)) ρ2
theorem de_countT (hu : X.A.units + 64 < cLine) (ho : DE X F o α) (ha : DA X F [e] τ)
    (hbase : attributeBase o "count" X.env (eval o X.env) = eval o X.env := by rfl)
    (hfew : ((backTo cpos (starEach [e] X.env)).all (fun x => !x.1) && (backToKw cpos (keywordEach [] X.env)).all (fun x => x.1.isSome)
      && decide ([e].length + ([] : List Keyword).length + (if ([] : List Keyword).isEmpty then 0 else 1) < 30)) = true := by rfl)
    (hline : (apos.endLine == cpos.line) = true := by rfl) (hs : starEach [e] X.env = (false, eval e X.env) :: starEach [] X.env := by rfl) (hplain : (backTo cpos (starEach [] X.env)).any (·.1) = false := by rfl) :
    DE X F (.Call (.Attribute o "count" apos) [e] [] cpos) (wCountT α τ) := by
  refine ⟨fun bad σ ρ H q Q o1 w k => (pe_bmT (name := "count") (id := "tuple.count") PySem.F.slot_tuple_count PySem.F.type_tuple_count (mt_countT hu) pe_run pa_run hbase hfew hline hs hplain).to (ho.go bad σ ρ H _ _ o1 w fun x dx bad1 ρ1 H1 p1 w1 => ?_)⟩
  obtain ⟨ns, rfl, w1⟩ := w1
  have rx := p1.va.read p1.st.ok
  obtain ⟨vs, tn, rs⟩ := rval_tupN rx
  refine ⟨⟨vs, tn⟩, ha.go bad1 σ ρ1 H1 _ _ p1.st.ok w1 fun us as bad2 ρ2 H2 p2 w2 => ?_⟩
  obtain ⟨i, ed, w2⟩ := w2
  have va2 := p1.va.keep p1.st.ok p2.st (.inl rfl)
  obtain ⟨vs2, tn2, rs2⟩ := rval_tupN (va2.read p2.st.ok)
  have e2 : vs2 = ns.map V.int := by
    have : (D.tupN (ns.map D.int)) = .tupN (ns.map D.int) := rfl
    exact rs2.ints
  rw [e2] at tn2
  refine ⟨ns, i, tn2, vals1D p2 ed, ?_⟩
  obtain ⟨bad3, p3⟩ := (res_int (K := F.K) (M := Mm bad2 σ ρ2) (H := H2) (ns.count i : Nat)).po p2.st.ok
  exact k _ _ bad3 ρ2 H2 ((p1.st.trans p2.st).po p3) w2
@[simp] theorem x_countT {ρ : VEnv} {q : D → VEnv → Prop} : wCountT α τ ρ q = α ρ fun x ρ1 => ∃ ns : List Int, x = .tupN (ns.map D.int) ∧ τ ρ1 fun as ρ2 => ∃ i : Int, argsD ρ2 as = some [.int i] ∧ q (.int (ns.count i : Nat)) ρ2 := rfl
end
/-! ### min(a list of ints, default=None) -/
theorem alike_ints : ∀ ns : List Int, AlikeAll (ns.map PyData.int) := fun ns => ⟨fun x hx y hy => by
  obtain ⟨a, _, rfl⟩ := List.mem_map.mp hx
  obtain ⟨b, _, rfl⟩ := List.mem_map.mp hy
  rfl, fun x hx => by
  obtain ⟨a, _, rfl⟩ := List.mem_map.mp hx
  exact fun z => by cases z⟩
theorem depth_ints : ∀ ns : List Int, PyData.depthAll (ns.map PyData.int) = 0
  | [] => rfl
  | i :: ns => by
    show max 0 (PyData.depthAll (ns.map PyData.int)) = 0
    rw [depth_ints ns]; rfl
def rMinD (K : PySem.W.Frag) : List V → List V → Hp → VK → Prop := fun xs zs H Q => ∃ (a : Addr) (ns : List Int), xs = [.ref a] ∧ zs = [.non] ∧ SqL K H a (ns.map V.int) ∧ (ns = [] → Q .non H) ∧ ∀ m ∈ ns, Q (.int m) H
theorem cr_minD {X : Cx} (hc : X.calm = true) (hu : X.A.units + 64 < cLine) : CallRK X (.builtin "min") [Str.ofString "default"] (rMinD X.K) := by
  intro pins s σ H xs zs us ws Q I r rz h
  obtain ⟨a, ns, rfl, rfl, hs, q0, q1⟩ := h
  obtain ⟨its, rv, hl, hz⟩ := I.list hs
  rw [Vals.ref1 r]
  obtain ⟨u, rfl, ru⟩ := Vals.one rz
  obtain ⟨as, ra⟩ := Dp.readsAll I (ns.map PyData.int) (ns.map V.int) its (dpAll_ints ns) rv
  refine min_list_default (vs := its.toArray) (xs := ns.map PyData.int) (as := as) (I.ok.hd hc) hl.isList (by simpa using ra) (alike_ints ns) (by rw [depth_ints]; omega) (fun e h' tk hk => ?_) fun y ys i v h' tk bs e hv rd hk => ?_
  · exact ⟨.non, H, I.kept (t' := tk) hk, ru, q0 (by simpa using e)⟩
  · have hv : its[i]? = some v := by simpa using hv
    obtain ⟨x, hx, rxv⟩ := paired_u rv hv
    rw [List.getElem?_map] at hx
    cases hn : ns[i]? with
    | none => rw [hn] at hx; cases hx
    | some m =>
      rw [hn] at hx; cases hx
      exact ⟨.int m, H, I.kept (t' := tk) hk, rxv, q1 m (List.mem_of_getElem? hn)⟩
section
variable {X : Cx} {F : Df} {a b e o : Expr} {es : List Expr} {pos p kpos npos cpos apos : Pos} {j : Nat} {α : WE} {τ : WA}
def wMinD (τ : WA) : WE := fun ρ q => τ ρ fun as ρ1 => ∃ x ds ns, argsD ρ1 as = some [x] ∧ (∃ k, x = .seq k ds) ∧ intsOf ds = some ns ∧ (ns = [] → q .non ρ1) ∧ ∀ m ∈ ns, q (.int m) ρ1
theorem r_minD (hc : X.calm = true) (hK : X.K = F.K) (hu : X.A.units + 64 < cLine) (hm : X.mg "min" = none) (hg : Gl X "min") (ha : DA X F [a] τ)
    (he : backTo pos (starEach [a] X.env) = (false, eval a X.env) :: backTo pos (starEach [] X.env) := by rfl) (hpl : (backTo pos (starEach [a] X.env)).any (·.1) = false := by rfl)
    (hall : (backToKw pos (keywordEach [⟨some "default", .Constant .none j npos, kpos⟩] X.env)).all (·.1.isSome) = true := by rfl) (hnone : (backToKw pos (keywordEach [⟨some "default", .Constant .none j npos, kpos⟩] X.env)).any (·.1.isNone) = false := by rfl)
    (hks : (backToKw pos (keywordEach [⟨some "default", .Constant .none j npos, kpos⟩] X.env)).filterMap (·.1) = [Str.ofString "default"] := by rfl) :
    DE X F (.Call (.Name "min" p) [a] [⟨some "default", .Constant .none j npos, kpos⟩] pos) (wMinD τ) := by
  refine ⟨fun bad σ ρ H q Q o1 w k => (pe_callBK (cr_minD hc hu) hg hm b_min pa_run (pk_cons pe_non pk_nil) (by decide) (by decide) he hpl hall hnone hks).to (ha.go bad σ ρ H _ _ o1 w fun vs as bad1 ρ1 H1 p1 w1 => ?_)⟩
  obtain ⟨x, ds, ns, ed, ⟨kd, rfl⟩, en, w0, w1⟩ := w1
  obtain ⟨lv, rv⟩ := p1.vals ed
  obtain ⟨v1, rfl⟩ : ∃ v1, vs = [v1] := by
    match vs, lv with
    | [v1], _ => exact ⟨v1, rfl⟩
  obtain ⟨a, us, rfl, t, rs, _⟩ := (rv 0 _ _ rfl rfl).seqE
  rw [intsOf_eq en] at rs
  rw [rs.ints] at t
  refine ⟨a, ns, rfl, rfl, by rw [hK]; exact t, fun e => ?_, fun m hm => ?_⟩
  · obtain ⟨bad3, p3⟩ := (res_imm (K := F.K) (M := Mm bad1 σ ρ1) (H := H1) (d := .non) rfl .non).po p1.st.ok
    exact k _ _ bad3 ρ1 H1 (p1.st.po p3) (w0 e)
  · obtain ⟨bad3, p3⟩ := (res_int (K := F.K) (M := Mm bad1 σ ρ1) (H := H1) m).po p1.st.ok
    exact k _ _ bad3 ρ1 H1 (p1.st.po p3) (w1 m hm)
@[simp] theorem x_minD {ρ : VEnv} {q : D → VEnv → Prop} : wMinD τ ρ q = τ ρ fun as ρ1 => ∃ x ds ns, argsD ρ1 as = some [x] ∧ (∃ k, x = .seq k ds) ∧ intsOf ds = some ns ∧ (ns = [] → q .non ρ1) ∧ ∀ m ∈ ns, q (.int m) ρ1 := rfl
end
end VL

namespace VL
open PySem PySem.Spec PyProof.Rows L2
/-! ### {k: v for target in items if ..} -/
section
variable {J : It} {n : Nat} {G : Hp → Prop} {Y : Nat → Hp → V → Hp → Prop}
theorem dc_it (w : L2.Walk J n G Y) {g : TG} {tt : TT} {tk te : TE} {vs : List Nat} {σ : L2.St} {H1 : Hp} {D : Addr} {Qd : Hp → Prop} (Pv : Nat → Hp → Prop) (h0 : Pv 0 (upd H1 D (.dK []))) (hG : ∀ i H, i ≤ n → Pv i H → G H)
    (hs : ∀ i x H H', i < n → Pv i H → Y i H x H' → g x (L2.wipe σ vs) H' fun σ2 H2 => L2.wipe σ2 vs = L2.wipe σ vs ∧ tt σ2 H2 fun b H3 =>
      if b = true then tk σ2 H3 fun y H4 => te σ2 H4 fun z H5 => ∃ kvs k, y = kV k ∧ H5 D = some (.dK kvs) ∧ kvs.length < sizeLine ∧ Pv (i + 1) (upd H5 D (.dK (putK kvs k z))) else Pv (i + 1) H3) (hd : ∀ H, Pv n H → Qd H) :
    ∃ W : Nat → Nat → Hp → Prop, (∃ m, W 0 m (upd H1 D (.dK []))) ∧ ∀ i m H, W i m H →
      (J.stop i H ∧ Qd H) ∨ (J.go i H ∧ ∃ Nx : Hp → Prop, (∀ H', Nx H' → ∃ m', m' < m ∧ W (i + 1) m' H') ∧ ∀ x H', J.yld i H x H' → g x (L2.wipe σ vs) H' fun σ2 H2 => L2.wipe σ2 vs = L2.wipe σ vs ∧ tt σ2 H2 fun b H3 =>
        if b = true then tk σ2 H3 fun y H4 => te σ2 H4 fun z H5 => ∃ kvs k, y = kV k ∧ H5 D = some (.dK kvs) ∧ kvs.length < sizeLine ∧ Nx (upd H5 D (.dK (putK kvs k z))) else Nx H3) := by
  refine ⟨fun i m H => m = n - i ∧ i ≤ n ∧ Pv i H, ⟨n, by simp, Nat.zero_le _, h0⟩, ?_⟩
  rintro i m H ⟨rfl, hi, p⟩
  have q := hG i H hi p
  by_cases hlt : i < n
  · refine .inr ⟨w.goes i H hlt q, Pv (i + 1), fun H' p' => ⟨n - (i + 1), by omega, rfl, hlt, p'⟩, fun x H' y => hs i x H H' hlt p (w.yields i H x H' hlt q y)⟩
  · have e : i = n := by omega
    subst e
    exact .inl ⟨w.stops H q, hd H p⟩
end
def wDc (ι : WI) (g : WG) (vs : List Nat) (θ : WTs) (κ α : WE) : WE := fun ρ q => ι ρ fun items wt ρ1 => nbs ρ1 vs = true ∧ wtOut wt vs = true ∧ ∃ W : Nat → List (DKey × D) → VEnv → Prop, W 0 [] (wpE ρ1 vs) ∧ ∀ i acc ρ, i ≤ items.length → W i acc ρ → isWt ρ wt ∧ (i = items.length → q (.map .tmp acc) (unwE ρ1 ρ vs)) ∧
  ∀ x, items[i]? = some x → g x ρ fun ρ2 => θ ρ2 fun b ρ3 => if b = true then κ ρ3 fun kd ρ4 => ∃ ky, keyD kd = some ky ∧ α ρ4 fun y ρ5 => y.brw = false ∧ acc.length < sizeLine ∧ W (i + 1) (dput acc ky (y.to .froz)) (wpE ρ5 vs) else W (i + 1) acc (wpE ρ3 vs)
section
variable {X : Cx} {F : Df} {tg iter elt kx : Expr} {pos : Pos} {α κ : WE} {θ : WTs} {g : WG} {ι : WI} {ifs : List Expr} {scope : Scope} {own : List (Str × Nat)}
theorem dc_read (hi : DI X F tg iter ι)
    (hg : ∀ s H C cl fp, DGc (bX X scope s H C cl fp) F (own.map (·.2)) tg g) (ht : ∀ s H C cl fp, DTs (bX X scope s H C cl fp) F ifs θ) (hk : ∀ s H C cl fp, DE (bX X scope s H C cl fp) F kx κ) (he : ∀ s H C cl fp, DE (bX X scope s H C cl fp) F elt α)
    {bad : Addr → Prop} {σ : L2.St} {ρ : VEnv} {H : Hp} {q : D → VEnv → Prop} {Q : VK} (o : Ok F.K F.H0 F.pa bad σ ρ H) (w : wDc ι g (own.map (·.2)) θ κ α ρ q)
    (k : ∀ v d bad' ρ' H', Po F.K F.H0 F.pa σ bad ρ H v d bad' ρ' H' → q d ρ' → Q v H') :
    L2.tDc (runI X tg iter) (allG X scope tg) (allT X scope ifs) (allE X scope kx) (allE X scope elt) (own.map (·.2)) σ H Q := by
  generalize own.map (·.2) = vs at hg w ⊢
  refine hi.go bad σ ρ H _ _ o w fun J items wt bad1 ρ1 H1 s1 wo jo w1 => ?_
  obtain ⟨nb0, wout, W, w0, turn⟩ := w1
  have nb1 := nbs_of nb0
  obtain ⟨G, Y, wk, jk⟩ := jo.ex
  intro Dd nD
  have h0D : F.H0 Dd = none := (s1.ok.dom Dd nD).1
  -- the state with the new list
  have oD : Ok F.K F.H0 F.pa (fun b => bad1 b ∨ b = Dd) σ ρ1 (upd H1 Dd (.dK [])) := s1.ok.more (new_same nD) nD (by rw [upd_same]; exact fun z => nomatch z)
  -- a state behind some turns, as the walk wants it
  have up : ∀ {ρ' H'}, Ok F.K F.H0 F.pa (fun b => bad1 b ∨ b = Dd) (L2.wipe σ vs) ρ' H' → (∀ b x, H1 b = some x → ¬ Own σ ρ1 b → H' b = some x) → (∀ b, H' b = none → H1 b = none) → (∀ j c, OwnAt (L2.wipe σ vs) ρ' j c ↔ OwnAt σ ρ1 j c) → Lat F bad1 σ ρ1 H1 (fun b => bad1 b ∨ b = Dd) (L2.wipe σ vs) ρ' H' := fun o' fr dm ow => ⟨⟨o', fr, dm, fun b ⟨j, z⟩ => .inl ⟨j, (ow j b).mp z⟩⟩, fun _ h => .inl h, fun b h => h.imp id fun e => by subst e; exact nD⟩
  have held : ∀ {ρ' H'}, Ok F.K F.H0 F.pa (fun b => bad1 b ∨ b = Dd) (L2.wipe σ vs) ρ' H' → (∀ j c, OwnAt (L2.wipe σ vs) ρ' j c ↔ OwnAt σ ρ1 j c) → isWt ρ' wt → ∀ k d, wt = some (k, d) → ∃ a, σ[k]? = some (some (.ref a)) ∧ RC F.K H' (Mm (fun b => bad1 b ∨ b = Dd) (L2.wipe σ vs) ρ') a d := fun {ρ' H'} o' ow hw k d e => by
    obtain ⟨h1, h2⟩ := wo k d e
    subst e
    obtain ⟨v, ev, s⟩ := s1.ok.sl k d h1
    obtain ⟨z, _⟩ | ⟨_, a, rfl, _⟩ := s
    · rw [h2] at z; cases z
    have hO := (ow k a).mpr ⟨ev, d, h1, h2⟩
    obtain ⟨v', ev', s'⟩ := o'.sl k d hw
    rw [hO.1] at ev'; cases ev'
    obtain ⟨z, _⟩ | ⟨_, a', e', r⟩ := s'
    · rw [h2] at z; cases z
    cases e'
    exact ⟨a, ev, r⟩
  refine dc_it wk (fun i H' => ∃ (ρ' : VEnv) (acc : List (DKey × VL.D)) (accV : List (Key × V)), (Ok F.K F.H0 F.pa (fun b => bad1 b ∨ b = Dd) (L2.wipe σ vs) ρ' H' ∧ (∀ b x, H1 b = some x → ¬ Own σ ρ1 b → H' b = some x) ∧ (∀ b, H' b = none → H1 b = none) ∧
    (∀ j c, OwnAt (L2.wipe σ vs) ρ' j c ↔ OwnAt σ ρ1 j c) ∧ (∀ (j : Nat) (d : VL.D), ρ'[j]? = some (some d) → d.kd = .lock → ∃ d0, ρ1[j]? = some (some d0) ∧ d0.kd = .lock) ∧ (∀ k ∈ vs, NB ρ' k)) ∧
    H' Dd = some (.dK accV) ∧ Rk F.K H' (Mm (fun b => bad1 b ∨ b = Dd) (L2.wipe σ vs) ρ') accV acc ∧ i ≤ items.length ∧ W i acc ρ') ?_ ?_ ?_ ?_
  · refine ⟨wpE ρ1 vs, [], [], ⟨oD.wipeS nb1, fun b x h _ => new_same nD b x h, fun b z => same_dom (new_same nD) z, own_wipe nb1, fun j d h k => ⟨d, (wpE_some h).1, k⟩, fun j hj d h => absurd hj (wpE_some h).2⟩, upd_same, ⟨rfl, Rs.nil⟩, Nat.zero_le _, w0⟩
  · rintro i H' hle ⟨ρ', acc, accV, ⟨o', fr, dm, ow, lk, nb⟩, hD, rs, hi, hw⟩
    exact (jk _ _ _ _ (up o' fr dm ow) (held o' ow (turn i acc ρ' hi hw).1)).1
  · rintro i x H' H3 hlt ⟨ρ', acc, accV, ⟨o', fr, dm, ow, lk, nb⟩, hD, rs, hi, hw⟩ y s H0' C cl fp
    obtain ⟨hwt, _, step⟩ := turn i acc ρ' hi hw
    obtain ⟨hs, d, hd, r⟩ := (jk _ _ _ _ (up o' fr dm ow) (held o' ow hwt)).2 i x H3 hlt y
    have o3 := o'.same hs
    have rs3 := rs.2.same hs
    refine (hg s H0' C cl fp).go _ _ _ H3 x d _ _ o3 r (step d hd) nb fun σ4 ρ4 H4 s4 e4 ow4 nb4 w4 => ?_
    rw [wipe_wipe] at e4
    refine ⟨e4, fun s H0' C cl fp => (ht s H0' C cl fp).go s4.ok w4 fun b ρ5 H5 s5 w5 => ?_⟩
    -- what stands behind the element, or the test
    have fin : ∀ {ρ6 : VEnv} {H6 : Hp} {bad6 : Addr → Prop}, Stp F.K F.H0 F.pa σ4 (fun b => bad1 b ∨ b = Dd) ρ4 H4 bad6 ρ6 H6 →
        (Ok F.K F.H0 F.pa (fun b => bad1 b ∨ b = Dd) (L2.wipe σ vs) (wpE ρ6 vs) H6 ∧ (∀ b x, H1 b = some x → ¬ Own σ ρ1 b → H6 b = some x) ∧ (∀ b, H6 b = none → H1 b = none) ∧
        (∀ j c, OwnAt (L2.wipe σ vs) (wpE ρ6 vs) j c ↔ OwnAt σ ρ1 j c) ∧ (∀ (j : Nat) (d : VL.D), (wpE ρ6 vs)[j]? = some (some d) → d.kd = .lock → ∃ d0, ρ1[j]? = some (some d0) ∧ d0.kd = .lock) ∧ (∀ k ∈ vs, NB (wpE ρ6 vs) k)) ∧
        H6 Dd = some (.dK accV) ∧ Rk F.K H6 (Mm (fun b => bad1 b ∨ b = Dd) (L2.wipe σ vs) (wpE ρ6 vs)) accV acc ∧ Mm (fun b => bad1 b ∨ b = Dd) (L2.wipe σ vs) (wpE ρ6 vs) = Mm (fun b => bad1 b ∨ b = Dd) σ4 ρ6 := fun {ρ6 H6 bad6} t => by
      have nb6 : ∀ k ∈ vs, NB ρ6 k := fun k hk d hd => by
        cases hb : d.brw with
        | false => rfl
        | true =>
          obtain ⟨v, ev, q⟩ := t.ok.sl k d hd
          obtain ⟨z, _⟩ | ⟨_, a, rfl, _⟩ := q
          · rw [hb] at z; cases z
          obtain ⟨_, d4, h4, b4⟩ := (t.own k a).mp ⟨ev, d, hd, hb⟩
          rw [nb4 k hk d4 h4] at b4; cases b4
      have own6 : ∀ j c, OwnAt (L2.wipe σ vs) (wpE ρ6 vs) j c ↔ OwnAt σ ρ1 j c := fun j c => by
        have := own_wipe (σ := σ4) nb6 j c
        rw [e4] at this
        exact this.trans ((t.own j c).trans ((ow4 j c).trans (ow j c)))
      have fr46 : ∀ b x, H3 b = some x → ¬ Own σ ρ1 b → H6 b = some x := fun b x h n => t.fr b x (s4.fr b x h fun ⟨j, z⟩ => n ⟨j, (ow j b).mp z⟩) fun ⟨j, z⟩ => n ⟨j, (ow j b).mp ((ow4 j b).mp z)⟩
      have nOD : ¬ Own σ ρ1 Dd := fun ⟨j, z⟩ => o'.ob Dd ⟨j, (ow j Dd).mpr z⟩ (.inr rfl)
      have mm6 : Mm (fun b => bad1 b ∨ b = Dd) (L2.wipe σ vs) (wpE ρ6 vs) = Mm (fun b => bad1 b ∨ b = Dd) σ4 ρ6 := by
        rw [← e4]; exact mm_of (own_wipe nb6)
      refine ⟨⟨?_, fun b x h n => fr46 b x (hs b x (fr b x h n)) n, fun b z => dm b (same_dom hs (s4.dom b (t.dom b z))), own6, fun j d h k => ?_, fun k hk d h => absurd hk (wpE_some h).2⟩, fr46 _ _ (hs _ _ hD) nOD, ?_, mm6⟩
      · rw [← e4]; exact (t.back.ok).wipeS nb6
      · obtain ⟨d4, h4, k4⟩ := t.lk j d (wpE_some h).1 k
        obtain ⟨⟨d3, h3, k3⟩, _⟩ := s4.lk j d4 h4 k4
        exact lk j d3 h3 k3
      · refine ⟨rs.1, rs3.mono (fun b x h n => fr46 b x h fun ⟨j, z⟩ => n (.inr ⟨j, (ow j b).mpr z⟩)) fun b m => .inl ?_⟩
        rcases m with m | ⟨j, m⟩
        · exact .inl m
        · exact .inr ⟨j, (ow j b).mpr ((own6 j b).mp m)⟩
    cases b with
    | false =>
      rw [if_neg Bool.false_ne_true] at w5 ⊢
      obtain ⟨f1, f2, f3, _⟩ := fin s5
      exact ⟨_, acc, accV, f1, f2, f3, hlt, w5⟩
    | true =>
      rw [if_pos rfl] at w5 ⊢
      intro s H0' C cl fp
      refine (hk s H0' C cl fp).go _ σ4 ρ5 H5 _ _ s5.ok w5 fun yk dk badk ρk Hk pk wk1 => ?_
      obtain ⟨ky, hky, wk1⟩ := wk1
      have ek := key_of (pk.va.read pk.st.ok) hky
      intro s H0' C cl fp
      refine (he s H0' C cl fp).go _ σ4 ρk Hk _ _ pk.st.ok wk1 fun y dy bad6 ρ6 H6 p6 w6 => ?_
      obtain ⟨nby, hz, w6⟩ := w6
      obtain ⟨⟨f1, f2, f3, f4, f5, f6⟩, g2, g3, g4⟩ := fin ((s5.trans pk.st).trans p6.st)
      have ry : R F.K H6 (Mm (fun b => bad1 b ∨ b = Dd) (L2.wipe σ vs) (wpE ρ6 vs)) y (dy.to .froz) := by
        rw [g4]
        exact (p6.va.froz pk.st.ok p6.st nby).less fun b m => m.imp (pk.st.bd b) id
      have ff : ∀ b x, H6 b = some x → ¬ Mm (fun b => bad1 b ∨ b = Dd) (L2.wipe σ vs) (wpE ρ6 vs) b → upd H6 Dd (.dK (putK accV (kmap ky) y)) b = some x := fun b x h n => by
        rw [upd_ne (fun z => n (.inl (.inr z)))]; exact h
      have rp := rk_put (k := ky) ry g3
      refine ⟨accV, kmap ky, ek, g2, by rw [g3.length]; exact hz, wpE ρ6 vs, dput acc ky (dy.to .froz), putK accV (kmap ky) y, ⟨f1.updBad (.inr rfl) h0D, fun b x h n => ?_, fun b z => ?_, f4, f5, f6⟩, upd_same, ⟨rp.1, rp.2.mono ff fun b m => .inl m⟩, hlt, w6⟩
      · have hb : b ≠ Dd := fun z => by subst z; rw [nD] at h; cases h
        rw [upd_ne hb]; exact f2 b x h n
      · have hb : b ≠ Dd := fun e => by rw [e, upd_same] at z; cases z
        rw [upd_ne hb] at z; exact f3 b z
  · rintro H' ⟨ρ', acc, accV, ⟨o', fr, dm, ow, lk, nb⟩, hD, rs, hi, hw⟩
    obtain ⟨_, nx, _⟩ := turn _ acc ρ' (Nat.le_refl _) hw
    have bn : ∀ b, (bad1 b ∨ b = Dd) → bad1 b ∨ H1 b = none := fun b h => h.imp id fun e => by subst e; exact nD
    obtain ⟨oU, ownU⟩ := s1.ok.unwipe nb1 o' nb ow fr bn
    have sU : Stp F.K F.H0 F.pa σ bad1 ρ1 H1 (fun b => bad1 b ∨ b = Dd) (unwE ρ1 ρ' vs) H' := by
      refine ⟨oU, ownU, fr, dm, fun b h => .inl h, bn, fun j d h k => ?_⟩
      by_cases hj : j ∈ vs
      · exact ⟨d, unwE_in hj h, k⟩
      · rw [unwE_out hj] at h; exact lk j d h k
    refine k (.ref Dd) (.map .tmp acc) _ _ H' (s1.po ⟨sU, .inr (.inl ⟨rfl, Dd, rfl, ⟨accV, hD, rs.1, ?_⟩, nD, .inr rfl⟩)⟩) (nx rfl)
    rw [mm_of ownU, ← mm_of ow]; exact rs.2
theorem de_dc (hc : X.calm = true) (hN : X.N.Nodup) (hi : DI X F tg iter ι) (ok : BlkOk X.N X.env.scope scope own)
    (hg : ∀ s H C cl fp, DGc (bX X scope s H C cl fp) F (own.map (·.2)) tg g) (ht : ∀ s H C cl fp, DTs (bX X scope s H C cl fp) F ifs θ) (hk : ∀ s H C cl fp, DE (bX X scope s H C cl fp) F kx κ) (he : ∀ s H C cl fp, DE (bX X scope s H C cl fp) F elt α) (hs : ∀ x, foldedSetIterable iter X.env x = pure x := by intro _; rfl) :
    DE X F (.DictComp kx elt [⟨tg, iter, ifs, 0⟩] scope pos) (wDc ι g (own.map (·.2)) θ κ α) :=
  ⟨fun bad σ ρ H q Q o w k => (pe_dc hc hN pi_runI ok (g := allG X scope tg) (tt := allT X scope ifs) (tk := allE X scope kx) (tv := allE X scope elt) (fun s H C cl fp => ⟨fun pins st σ H' v u Q I r h => h s H C cl fp pins st u I r⟩)
    (fun s H C cl fp => ⟨fun pins st σ H' Q I h => (ht s H C cl fp).pts.run pins st σ H' Q I (h s H C cl fp)⟩) (fun s H C cl fp => ⟨fun pins st σ H' Q I h => h s H C cl fp pins st I⟩) (fun s H C cl fp => ⟨fun pins st σ H' Q I h => h s H C cl fp pins st I⟩) hs).to (dc_read hi hg ht hk he o w k)⟩
end
/-! ### d.items(), walked, of a dict that nobody else has -/
def tFrz (td : TE) : TE := fun σ H Q => td σ H fun x H1 => ∃ d kvs, x = .ref d ∧ H1 d = some (.dK kvs) ∧ ∀ o, Q x (upd H1 d (.frz o (.dK kvs)))
theorem pe_frz {X : Cx} {e : Expr} {td : TE} (he : PE X e td) : PE X e (tFrz td) := by
  refine ⟨fun pins s σ H Q I h => thn (he.run pins s σ H _ I h) fun v s1 ⟨x, H1, I1, r1, d, kvs, ex, hd, q⟩ => ?_⟩
  have ok := I1.hok d _ hd
  obtain ⟨z, hds, vs, rel, dd⟩ := dk_of I1.hok hd
  obtain ⟨o, ho⟩ : ∃ o, s1.heap.get? d = some o := let ⟨q, _, _, hq, _⟩ := dd; ⟨q, hq⟩
  have new : ObjOk X.prog X.w (upd H1 d (.frz o (.dK kvs))) s1.heap d (.frz o (.dK kvs)) := show s1.heap.get? d = some o ∧ _ from ⟨ho, dk_new z hds rel dd⟩
  exact ⟨x, _, d_write (t' := s1.toks) I1 (by rw [hd]; exact True.intro) ⟨rfl, fun _ _ => rfl⟩ ⟨o, ho⟩ new, r1, q o⟩
def keyV : DKey → D
  | .inl i => .int i
  | .inr l => .str l
def itemsM (kds : List (DKey × D)) : List D := kds.map fun p => pairD (keyV p.1) p.2
def wItems (α : WE) : WI := fun ρ q => α ρ fun x ρ1 => ∃ kds, x = .map .tmp kds ∧ q (itemsM kds) none ρ1
section
variable {F : Df} {bad : Addr → Prop} {σ : L2.St} {ρ : VEnv} {H : Hp}
theorem r_keyV {K : PySem.W.Frag} {H : Hp} {M : Addr → Prop} (k : DKey) : R K H M (kV (kmap k)) (keyV k) := by
  cases k with
  | inl i => exact .int i
  | inr l => exact .str l
theorem jok_items {a : Addr} {o : Obj} {kvs : List (Key × V)} {kds : List (DKey × D)} (h : H a = some (.frz o (.dK kvs))) (n : ¬ Mm bad σ ρ a ∨ bad a) (no : ¬ Own σ ρ a) (rk : Rk F.K H (Mm bad σ ρ) kvs kds) : JOk F bad σ ρ H none (Iti a o kvs) (itemsM kds) := by
  have e : (itemsM kds).length = kvs.length := by unfold itemsM; rw [List.length_map, rk.length]
  refine ⟨_, _, by rw [e]; exact walk_items, fun bad2 σ2 ρ2 H2 s _ => ⟨s.ss.fr a _ h no, fun i x H3 hi y => ?_⟩⟩
  obtain ⟨T, u, w, rfl, nT, rfl, h1, h2⟩ := y
  rw [e] at hi
  have h1 : (kvs[i]?.map fun kv => kV kv.1) = some u := h1
  have h2 : kvs[i]?.map Prod.snd = some w := h2
  have e1 : (kvs.map (·.1))[i]? = (kds.map fun p => kmap p.1)[i]? := by rw [rk.1]
  rw [List.getElem?_map, List.getElem?_map] at e1
  obtain ⟨dw, hd, rw_⟩ := rk.2.getV (i := i) (v := w) (by rw [List.getElem?_map]; exact h2)
  rw [List.getElem?_map] at hd
  cases hk : kds[i]? with
  | none => rw [hk] at hd; cases hd
  | some p =>
    rw [hk] at hd e1; cases hd
    cases hv : kvs[i]? with
    | none => rw [hv] at h1; cases h1
    | some pv =>
      rw [hv] at h1 e1
      simp at h1 e1
      subst h1
      rw [e1]
      have rr := res_tup (M := Mm bad2 σ2 ρ2) (fun b m => s.ss.ok.mdom m) nT (.cons (r_keyV p.1) (.cons (rw_.mono s.f s.m) .nil))
      refine ⟨rr.1, pairD (keyV p.1) p.2, by unfold itemsM; rw [List.getElem?_map, hk]; rfl, ?_⟩
      rcases rr.2 with ⟨_, r⟩ | ⟨t, _⟩
      · exact r
      · cases t
end
section
variable {X : Cx} {F : Df} {e : Expr} {pos apos cpos tpos : Pos} {α : WE} {elts : List Expr} {kk : Nat}
theorem di_items (ha : DE X F e α) (hbase : attributeBase e "items" X.env (eval e X.env) = eval e X.env := by rfl) (hline : (apos.endLine == cpos.line) = true := by rfl) :
    DI X F (.Tuple elts kk tpos) (.Call (.Attribute e "items" apos) [] [] cpos) (wItems α) := by
  refine ⟨fun bad σ ρ H q Rr o w k => (pi_items (pe_frz pe_run) hbase hline).to (ha.go bad σ ρ H _ _ o w fun v d bad1 ρ1 H1 p1 w1 => ?_)⟩
  obtain ⟨kds, rfl, w1⟩ := w1
  rcases p1.va with ⟨im, _⟩ | ⟨_, a, rfl, ⟨kvs, hv, rk⟩, n, ba⟩ | ⟨b, _⟩
  · cases im
  · have h0 : F.H0 a = none := (o.dom a n).1
    have no : ¬ Own σ ρ1 a := fun z => p1.st.ok.ob a z ba
    refine ⟨a, kvs, rfl, hv, fun ob => ⟨a, ob, kvs, rfl, upd_same, ?_⟩⟩
    have ff : ∀ b x, H1 b = some x → ¬ Mm bad1 σ ρ1 b → upd H1 a (.frz ob (.dK kvs)) b = some x := fun b x h m => by
      rw [upd_ne (fun z => m (.inl (by subst z; exact ba)))]; exact h
    have st : Stp F.K F.H0 F.pa σ bad ρ H bad1 ρ1 (upd H1 a (.frz ob (.dK kvs))) := ⟨p1.st.ok.updBad ba h0, p1.st.own, fun b x h m => by
      rw [upd_ne (fun z => by subst z; rw [n] at h; cases h)]; exact p1.st.fr b x h m, fun b z => by
      have hb : b ≠ a := fun e => by rw [e, upd_same] at z; cases z
      rw [upd_ne hb] at z; exact p1.st.dom b z, p1.st.bd, p1.st.bn, p1.st.lk⟩
    exact k _ (itemsM kds) none bad1 ρ1 _ st (fun _ _ e => nomatch e) (jok_items upd_same (.inr ba) no ⟨rk.1, rk.2.mono ff fun b m => .inl m⟩) w1
  · cases b
@[simp] theorem x_items {ρ : VEnv} {qi : List D → Option (Nat × D) → VEnv → Prop} : wItems α ρ qi = α ρ fun x ρ1 => ∃ kds, x = .map .tmp kds ∧ qi (itemsM kds) none ρ1 := rfl
end
end VL

namespace VL
open PySem PySem.Spec PyProof.Rows L2 PySem.W
/-! ### {k: v} -/
def wDisp1 (κ α : WE) : WE := fun ρ q => κ ρ fun kd ρ1 => ∃ ky, keyD kd = some ky ∧ α ρ1 fun y ρ2 => y.brw = false ∧ q (.map .tmp [(ky, y.to .froz)]) ρ2
section
variable {X : Cx} {F : Df} {a b e o : Expr} {es : List Expr} {pos p cpos apos : Pos} {κ α β : WE} {τ : WA}
theorem Ok.plus {K : PySem.W.Frag} {H0 H : Hp} {pa : List (Option Addr)} {bad : Addr → Prop} {σ : L2.St} {ρ : VEnv} {x : HO} {p : Addr} (o : Ok K H0 pa bad σ ρ H) (n : H p = none) : Stp K H0 pa σ bad ρ H (fun b => bad b ∨ b = p) ρ (upd H p x) :=
  ⟨o.more (new_same n) n (by rw [upd_same]; exact fun z => nomatch z), fun _ _ => Iff.rfl, fun b y h _ => new_same n b y h, fun b z => same_dom (new_same n) z, fun b h => .inl h, fun b h => h.imp id fun e => by subst e; exact n, fun j d h k => ⟨d, h, k⟩⟩
theorem de_disp1 (hk : DE X F a κ) (hv : DE X F b α) : DE X F (.Dict [some a] [b] pos) (wDisp1 κ α) := by
  refine ⟨fun bad σ ρ H q Q o w k => (pe_disp (pps_cons pe_run pe_run pps_nil) rfl rfl (by simp) (by simp)).to fun p n => ?_⟩
  have s0 := o.plus (x := .dK []) n
  have h0 : F.H0 p = none := (o.dom p n).1
  refine hk.go _ σ ρ _ _ _ s0.ok w fun kv kd bad1 ρ1 H1 p1 w1 => ?_
  obtain ⟨ky, hky, w1⟩ := w1
  have ek := key_of (p1.va.read p1.st.ok) hky
  refine hv.go bad1 σ ρ1 H1 _ _ p1.st.ok w1 fun y dy bad2 ρ2 H2 p2 w2 => ?_
  obtain ⟨nby, w2⟩ := w2
  have b1 : bad1 p := p1.st.bd p (.inr rfl)
  have b2 : bad2 p := p2.st.bd p b1
  have n0 : ¬ Own σ ρ p := fun z => s0.ok.ob p z (.inr rfl)
  have n1 : ¬ Own σ ρ1 p := fun z => p1.st.ok.ob p z b1
  have e1 : H1 p = some (.dK []) := p1.st.fr p _ upd_same n0
  have e2 : H2 p = some (.dK []) := p2.st.fr p _ e1 n1
  have ry : R F.K H2 (Mm bad1 σ ρ2) y (dy.to .froz) := p2.va.froz p1.st.ok p2.st nby
  have st := Stp.back1 (s0.trans p1.st) p2.st
  refine ⟨e2, [(kmap ky, y)], by rw [ek]; rfl, by simp, ?_⟩
  have em : mergeK [] [(kmap ky, y)] = [(kmap ky, y)] := rfl
  rw [em]
  have ff : ∀ b x, H2 b = some x → ¬ Mm bad1 σ ρ2 b → upd H2 p (.dK [(kmap ky, y)]) b = some x := fun b x h m => by
    rw [upd_ne (fun z => m (.inl (by subst z; exact b1)))]; exact h
  have st' : Stp F.K F.H0 F.pa σ bad ρ H bad1 ρ2 (upd H2 p (.dK [(kmap ky, y)])) := ⟨st.ok.updBad b1 h0, st.own, fun b x h m => by
    rw [upd_ne (fun z => by subst z; rw [n] at h; cases h)]; exact st.fr b x h m, fun b z => by
    have hb : b ≠ p := fun e => by rw [e, upd_same] at z; cases z
    rw [upd_ne hb] at z; exact st.dom b z, st.bd, st.bn, st.lk⟩
  exact k (.ref p) (.map .tmp [(ky, dy.to .froz)]) bad1 ρ2 _ ⟨st', .inr (.inl ⟨rfl, p, rfl, ⟨_, upd_same, rfl, Rs.cons (ry.mono ff fun b m => .inl m) .nil⟩, n, b1⟩)⟩ w2
@[simp] theorem x_disp1 {ρ : VEnv} {q : D → VEnv → Prop} : wDisp1 κ α ρ q = κ ρ fun kd ρ1 => ∃ ky, keyD kd = some ky ∧ α ρ1 fun y ρ2 => y.brw = false ∧ q (.map .tmp [(ky, y.to .froz)]) ρ2 := rfl
/-! ### text.upper() -/
def upL (l : List Nat) : List Nat := (PySem.Txt.upper (mkS l)).cps.toList
def opUpper : D → List D → (D → Prop) → Prop
  | .str l, [], q => l.length ≤ 1000000 ∧ q (.str (upL l))
  | _, _, _ => False
theorem vm_upper {K : PySem.W.Frag} : VM K (fun x xs H Q => ∃ a, x = .str a ∧ xs = [] ∧ a.length ≤ 5592405 ∧ Q (.str (PySem.Txt.upper a)) H) opUpper := fun H M x dx xs ds q Q dm rx hl hr w k => by
  match dx, ds, w with
  | .str l, [], w =>
    rw [rx.strE]
    refine ⟨mkS l, rfl, List.eq_nil_of_length_eq_zero hl, by rw [mkS_len]; exact Nat.le_trans (show l.length ≤ 1000000 from w.1) (by decide), ?_⟩
    have e : PySem.Txt.upper (mkS l) = mkS (upL l) := (mkS_cps _).symm
    rw [e]
    exact k _ _ H (res_str _) w.2
theorem r_upper (hK : X.K = F.K) (ho : DE X F o α) (hbase : attributeBase o "upper" X.env (eval o X.env) = eval o X.env := by rfl) (hline : (apos.endLine == cpos.line) = true := by rfl) : DE X F (.Call (.Attribute o "upper" apos) [] [] cpos) (wMeth0 "str" opUpper α) :=
  de_meth0 PySem.F.plainAttrs_str PySem.F.slot_str_upper PySem.F.type_str_upper mt_upper hK vm_upper ho hbase hline
@[simp] theorem o_upper {l : List Nat} {p : D → Prop} : opUpper (.str l) [] p = (l.length ≤ 1000000 ∧ p (.str (upL l))) := rfl
/-! ### text * 2, tuple * k -/
def opMulS : D → D → (D → Prop) → Prop
  | .str l, .int j, q => 2 ≤ j ∧ j ≤ 1000 ∧ 1 ≤ l.length ∧ l.length ≤ 1000 ∧ q (.str (List.replicate j.toNat l).flatten)
  | .tup xs, .int j, q => 2 ≤ j ∧ j ≤ 1000 ∧ xs ≠ [] ∧ xs.length ≤ 1000 ∧ q (.tup (List.replicate j.toNat xs).flatten)
  | _, _, _ => False
def rRepS : R2 := fun x y H Q => ∃ (l : List Nat) (j : Int), x = .str (mkS l) ∧ y = .int j ∧ 2 ≤ j ∧ j ≤ 1000 ∧ 1 ≤ l.length ∧ l.length ≤ 1000 ∧ Q (.str (mkS (List.replicate j.toNat l).flatten)) H
theorem fold_rep (a : Array Nat) : ∀ (m : Nat) (acc : Array Nat), (List.replicate m a).foldl (· ++ ·) acc = acc ++ (List.replicate m a.toList).flatten.toArray
  | 0, acc => by simp
  | m + 1, acc => by
    rw [List.replicate_succ, List.foldl_cons, fold_rep a m, List.replicate_succ, List.flatten_cons]
    apply Array.toList_inj.mp
    simp
theorem len_rep {l : List Nat} (m : Nat) : (List.replicate m l).flatten.length = m * l.length := by simp
theorem op_repS {X : Cx} : OpR X (binaryOp .Mult) rRepS := by
  intro pins s σ H x y v u Q I rx ry h
  obtain ⟨l, j, rfl, rfl, h1, h2, h3, h4, q⟩ := h
  obtain ⟨t, rfl⟩ := rx
  obtain ⟨t2, rfl⟩ := ry
  have hlen : (mkS l).length = l.length := mkS_len l
  have hm : j.toNat * l.length ≤ 1000 * 1000 := Nat.mul_le_mul (by omega) h4
  refine PySem.P.mul_str (by rw [decide_eq_false (by omega), decide_eq_false (by omega)] <;> rfl) (fun _ _ => ?_) (fun _ _ => ?_) ?_
  · rw [hlen]
    have : (1000 : Int) ≤ (2 ^ 63 - 1) / j := Int.le_ediv_of_mul_le (by omega) (by omega)
    have hl4 : ((l.length : Nat) : Int) ≤ 1000 := by omega
    exact Int.not_lt.mpr (Int.le_trans hl4 this)
  · rw [hlen]
    unfold PySem.Builtin.Str.tooLong
    rw [Nat.mul_comm]
    exact decide_eq_false (by rw [sizeLine_eq]; omega)
  · have c1 : ¬ j < 1 := by omega
    have c2 : ¬ (j == 1 || (mkS l).length == 0) = true := by
      rw [hlen, Bool.or_eq_true, not_or]
      exact ⟨by simp; omega, by simp; intro e; rw [e] at h3; simp at h3⟩
    rw [if_neg c1, if_neg c2]
    have e : (⟨(List.replicate j.toNat (mkS l).cps).foldl (· ++ ·) #[]⟩ : Str) = mkS (List.replicate j.toNat l).flatten := by
      rw [fold_rep]; simp [mkS]
    rw [e]
    refine ⟨?_, .str _, H, I.tok _, ⟨_, rfl⟩, q⟩
    rw [mkS_len, len_rep, sizeLine_eq]; omega
theorem v2_mulS {K : PySem.W.Frag} : V2 K (fun x y H Q => rRepS x y H Q ∨ rRepT K x y H Q) opMulS := fun H M x dx y dy q Q dm rx ry w k => by
  match dx, dy, rx, ry, w with
  | .str l, .int j, rx, ry, ⟨w1, w2, w3, w4, w⟩ =>
    rw [rx.strE, ry.intE]
    exact .inl ⟨l, j, rfl, rfl, w1, w2, w3, w4, k _ _ H (res_str _) w⟩
  | .tup a, .int j, rx, ry, ⟨w1, w2, w3, w4, w⟩ =>
    obtain ⟨p, vs, rfl, t, rs⟩ := rx.tupE
    rw [ry.intE]
    have rr : ∀ n : Nat, Rs K H M (List.replicate n vs).flatten (List.replicate n a).flatten := fun n => by
      induction n with
      | zero => exact .nil
      | succ n ih => rw [List.replicate_succ, List.replicate_succ, List.flatten_cons, List.flatten_cons]; exact rs.append ih
    refine .inr ⟨p, j, vs, rfl, rfl, t, fun e => ?_, w1, w2, by rw [rs.1]; exact w4, fun c nc => k _ _ _ (res_tup dm nc (rr _)) w⟩
    have := rs.1
    rw [e] at this
    exact w3 (List.eq_nil_of_length_eq_zero this.symm)
theorem bi_mulS (hK : X.K = F.K) : BiR X F .Mult opMulS := ⟨_, op_repS.or op_repT, by rw [hK]; exact v2_mulS⟩
@[simp] theorem o_mulSs {l : List Nat} {j : Int} {p : D → Prop} : opMulS (.str l) (.int j) p = (2 ≤ j ∧ j ≤ 1000 ∧ 1 ≤ l.length ∧ l.length ≤ 1000 ∧ p (.str (List.replicate j.toNat l).flatten)) := rfl
@[simp] theorem o_mulSt {l : List D} {j : Int} {p : D → Prop} : opMulS (.tup l) (.int j) p = (2 ≤ j ∧ j ≤ 1000 ∧ l ≠ [] ∧ l.length ≤ 1000 ∧ p (.tup (List.replicate j.toNat l).flatten)) := rfl
/-! ### max of a tuple of ints: one of them -/
def opMaxT : D → (D → Prop) → Prop
  | .tup ds, q => ∃ ns, intsOf ds = some ns ∧ ns ≠ [] ∧ ∀ m ∈ ns, q (.int m)
  | _, _ => False
def rMaxT (K : PySem.W.Frag) : List V → Hp → VK → Prop := fun vs H Q => ∃ (a : Addr) (ns : List Int), vs = [V.ref a] ∧ SqT K H a (ns.map V.int) ∧ ns ≠ [] ∧ ∀ m ∈ ns, Q (.int m) H
theorem cr_maxT (hc : X.calm = true) (hu : X.A.units + 64 < cLine) : CallR X (.builtin "max") (rMaxT X.K) := by
  intro pins s σ H vs us Q I r h
  obtain ⟨a, ns, rfl, hs, hne, q⟩ := h
  obtain ⟨its, rv, hl, hz⟩ := I.tuple hs
  rw [Vals.ref1 r]
  obtain ⟨n0, nr, rfl⟩ : ∃ n0 nr, ns = n0 :: nr := by
    cases ns with
    | nil => exact absurd rfl hne
    | cons a b => exact ⟨a, b, rfl⟩
  obtain ⟨as, ra⟩ := Dp.readsAll I ((n0 :: nr).map PyData.int) ((n0 :: nr).map V.int) its (dpAll_ints (n0 :: nr)) rv
  have hd := depth_ints (n0 :: nr)
  have ha := alike_ints (n0 :: nr)
  rw [List.map_cons] at hd ha ra
  have hu0 : X.A.units + 1 + PyData.depthAll (PyData.int n0 :: nr.map PyData.int) < cLine := by rw [hd]; omega
  have ra' : ReadsAll s.heap its.toArray.toList (PyData.int n0 :: nr.map PyData.int) as := by simpa using ra
  refine max_tuple_data (vs := its.toArray) (x := .int n0) (xs := nr.map PyData.int) (as := as) (I.ok.hd hc) hl ra' ha hu0 fun i v h' tk bs hv rd hk => ?_
  have hv : its[i]? = some v := by simpa using hv
  obtain ⟨x, hx, rxv⟩ := paired_u rv hv
  rw [List.getElem?_map] at hx
  cases hn : (n0 :: nr)[i]? with
  | none => rw [hn] at hx; cases hx
  | some m =>
    rw [hn] at hx; cases hx
    exact ⟨.int m, H, I.kept (t' := tk) hk, rxv, q m (List.mem_of_getElem? hn)⟩
theorem v1_maxT {K : PySem.W.Frag} : V1 K (fun x H Q => rMaxT K [x] H Q) opMaxT := fun H M x dx q Q dm rx w k => by
  match dx, rx, w with
  | .tup ds, rx, ⟨ns, w1, w2, w3⟩ =>
    obtain ⟨a, vs, rfl, t, rs⟩ := rx.tupE
    rw [intsOf_eq w1] at rs
    exact ⟨a, ns, rfl, by rw [← rs.ints]; exact t, w2, fun m h => k _ _ H (res_int m) (w3 m h)⟩
theorem r_maxT (hc : X.calm = true) (hK : X.K = F.K) (hu : X.A.units + 64 < cLine) (hm : X.mg "max" = none) (hg : Gl X "max") (ha : DA X F [a] τ) (he : starEach [a] X.env = (false, eval a X.env) :: starEach [] X.env := by rfl) : DE X F (.Call (.Name "max" p) [a] [] pos) (wCallN (f1 opMaxT) τ) := de_callB (cr_maxT hc hu) (by rw [hK]; exact vn1 v1_maxT) hg hm b_max ha (by decide) (by decide) he rfl
@[simp] theorem o_maxT {ds : List D} {p : D → Prop} : opMaxT (.tup ds) p = ∃ ns, intsOf ds = some ns ∧ ns ≠ [] ∧ ∀ m ∈ ns, p (.int m) := rfl
/-! ### dicts with ints as values, compared -/
def opEqM : D → D → (D → Prop) → Prop
  | .map _ a, .map _ b, q => ∃ l : List (DKey × Int), a = l.map (fun p => (p.1, .int p.2)) ∧ b = a ∧ (l.map (·.1)).Nodup ∧ q (.bl true)
  | _, _, _ => False
theorem rk_int {K : PySem.W.Frag} {H : Hp} {M : Addr → Prop} : ∀ {l : List (DKey × Int)} {kvs : List (Key × V)}, Rk K H M kvs (l.map fun p => (p.1, D.int p.2)) → kvs = l.map fun p => (kmap p.1, .int p.2)
  | [], [], _ => rfl
  | p :: l, (a, v) :: kvs, r => by
    obtain ⟨rfl, r1, r2⟩ := r.uncons
    rw [r1.intI, rk_int r2]; rfl
  | [], _ :: _, r => by have := r.length; cases this
  | _ :: _, [], r => by have := r.length; cases this
theorem v2_eqM {K : PySem.W.Frag} : V2 K (fun x y H Q => ∃ a b kvs, x = .ref a ∧ y = .ref b ∧ H a = some (.dK kvs) ∧ H b = some (.dK kvs) ∧ (kvs.map (·.1)).Nodup ∧ (∀ p ∈ kvs, flatB p.2 = true) ∧ Q (.bl true) H) opEqM := fun H M x dx y dy q Q dm rx ry w k => by
  match dx, dy, rx, ry, w with
  | .map ka a, .map kb b, rx, ry, ⟨l, e1, e2, nd, w⟩ =>
    subst e1; subst e2
    obtain ⟨p1, kvs1, rfl, h1, r1⟩ := rx.mapE
    obtain ⟨p2, kvs2, rfl, h2, r2⟩ := ry.mapE
    rw [rk_int r1] at h1
    rw [rk_int r2] at h2
    refine ⟨p1, p2, _, rfl, rfl, h1, h2, ?_, fun p hp => ?_, k _ _ H (res_bl _) w⟩
    · rw [List.map_map]
      have : (l.map ((fun x : Key × V => x.1) ∘ fun p : DKey × Int => (kmap p.1, V.int p.2))) = (l.map (·.1)).map kmap := by rw [List.map_map]; rfl
      rw [this]
      rw [List.nodup_iff_pairwise_ne, List.pairwise_map]
      exact (List.nodup_iff_pairwise_ne.mp nd).imp fun h e => h (kmap_inj e)
    · obtain ⟨z, _, rfl⟩ := List.mem_map.mp hp
      rfl
theorem cm_eqM (hu : X.A.units + 64 < cLine) : CmR X F .Eq opEqM := ⟨_, op_eq_dict (by omega), v2_eqM⟩
end
end VL

namespace VL
open PySem PySem.Spec PyProof.Rows L2
/-! ### sep.join(a list of texts) -/
def joinR (sep : List Nat) : List (List Nat) → List Nat
  | [] => []
  | y :: r => sep ++ y ++ joinR sep r
def joinL (sep : List Nat) : List (List Nat) → List Nat
  | [] => []
  | x :: r => x ++ joinR sep r
theorem foldl_glueS (sep : List Nat) : ∀ (r : List (List Nat)) (acc : Array Nat), (r.map mkS).foldl (fun acc p => acc ++ (mkS sep).cps ++ p.cps) acc = acc ++ (joinR sep r).toArray
  | [], acc => by simp [joinR]
  | x :: r, acc => by
    rw [List.map_cons, List.foldl_cons, foldl_glueS sep r]
    apply Array.toList_inj.mp
    simp [mkS, joinR]
theorem txt_joinS (sep : List Nat) : ∀ ss : List (List Nat), Txt.join (mkS sep) (ss.map mkS) = mkS (joinL sep ss)
  | [] => rfl
  | x :: r => by
    show (⟨((r.map mkS)).foldl (fun acc p => acc ++ (mkS sep).cps ++ p.cps) (mkS x).cps⟩ : Str) = _
    rw [foldl_glueS]
    simp [mkS, joinL]
theorem joinR_len (sep : List Nat) : ∀ r : List (List Nat), (joinR sep r).length = r.flatten.length + r.length * sep.length
  | [] => by simp [joinR]
  | y :: r => by
    simp only [joinR, List.length_append, joinR_len sep r, List.flatten_cons, List.length_cons, Nat.succ_mul]
    omega
theorem joinL_len (sep : List Nat) (ss : List (List Nat)) : (joinL sep ss).length ≤ ss.flatten.length + ss.length * sep.length := by
  cases ss with
  | nil => simp [joinL]
  | cons x r =>
    simp only [joinL, List.length_append, joinR_len, List.flatten_cons, List.length_cons, Nat.succ_mul]
    omega
def opJoinS : D → List D → (D → Prop) → Prop
  | .str sep, [.seq _ ds], q => ∃ ss, strsOf ds = some ss ∧ ss.flatten.length + ss.length * sep.length ≤ 16777216 ∧ q (.str (joinL sep ss))
  | _, _, _ => False
@[simp] theorem o_joinSp {k : Kd} {sep : List Nat} {ds : List D} {p : D → Prop} : opJoinS (.str sep) [.seq k ds] p = ∃ ss, strsOf ds = some ss ∧ ss.flatten.length + ss.length * sep.length ≤ 16777216 ∧ p (.str (joinL sep ss)) := rfl
theorem vm_joinS {K : PySem.W.Frag} : VM K (fun x xs H Q => ∃ a p, ∃ ys : List Str, x = .str a ∧ xs = [.ref p] ∧ (SqL K H p (ys.map V.str) ∨ SqT K H p (ys.map V.str)) ∧ (ys.map (·.length)).sum + ys.length * a.length ≤ 16777216 ∧ Q (.str (Txt.join a ys)) H) opJoinS := fun H M x dx xs ds q Q dm rx hl hr w k => by
  match dx, ds, xs, hl, w with
  | .str sep, [.seq kd ds], [y], _, ⟨ss, e, hz, w⟩ =>
    obtain ⟨a, vs, rfl, t, rs, _⟩ := (hr 0 y _ rfl rfl).seqE
    rw [strsOf_eq e] at rs
    rw [rx.strE]
    refine ⟨mkS sep, a, ss.map mkS, rfl, rfl, .inl (by rw [← rs.strs]; exact t), ?_, ?_⟩
    · rw [sum_lens]; simpa [mkS_len] using hz
    · rw [txt_joinS]; exact k _ _ H (res_str _) w
section
variable {X : Cx} {F : Df} {e o : Expr} {pos cpos apos : Pos} {α : WE} {τ : WA}
theorem r_joinS (hK : X.K = F.K) (ho : DE X F o α) (ha : DA X F [e] τ) (hbase : attributeBase o "join" X.env (eval o X.env) = eval o X.env := by rfl)
    (hfew : ((backTo cpos (starEach [e] X.env)).all (fun x => !x.1) && (backToKw cpos (keywordEach [] X.env)).all (fun x => x.1.isSome) && decide ([e].length + ([] : List Keyword).length + (if ([] : List Keyword).isEmpty then 0 else 1) < 30)) = true := by rfl)
    (hline : (apos.endLine == cpos.line) = true := by rfl) (hs : starEach [e] X.env = (false, eval e X.env) :: starEach [] X.env := by rfl) : DE X F (.Call (.Attribute o "join" apos) [e] [] cpos) (wMeth "str" opJoinS α τ) :=
  de_meth PySem.F.plainAttrs_str PySem.F.slot_str_join PySem.F.type_str_join mt_join hK (by rw [hK]; exact vm_joinS) ho ha hbase hfew hline hs rfl
/-! ### x = e, where nobody writes x's container any more -/
def wSetF (i : Nat) (w : WE) : WS := fun E ρ => w ρ fun x ρ1 => x.brw = false ∧ i < ρ1.length ∧ E.nx (ρ1.set i (some (x.to .froz)))
theorem d1_setF {i : Nat} {x : Str} {npos : Pos} (hp : F.pa.length ≤ i) (ha : DE X F e α) (hN : X.N.Nodup) (hi : X.N[i]? = some x := by rfl) (hx : Loc X.env.scope x := by first | exact Or.inl rfl | exact Or.inr rfl) (hs : swapsWith e (some (.Name x npos)) pos.line X.env = pure false := by rfl)
    (hf : X.fn x = true ∨ X.env.scope.names.lookup x = some .local := by first | exact .inl rfl | exact .inr rfl | assumption) : D1 X F (.Assign [.Name x npos] e pos) (wSetF i α) := by
  refine ⟨fun bad σ ρ H E D o hw kn kr kb kc => (ps_set hN hi hx pe_run hs hf).to (ha.go bad σ ρ H _ _ o hw fun v d bad1 ρ1 H1 p1 w1 => ?_)⟩
  obtain ⟨nb, hl, w1⟩ := w1
  have r := p1.va.froz o p1.st nb
  have o1 := p1.st.back.ok
  have st := (Stp.refl o1).put (bad3 := bad) (v := v) (d := d.to .froz) (i := i) (fun _ h => h) (fun a _ b => by rw [imm_brw r.imm] at b; cases b) (fun z => by have := r.imm; unfold VL.D.imm at this; rw [z] at this; cases this) (o1.put (.of hp) hl r.imm r)
  exact kn _ _ H1 (p1.st.back.sst.trans st) w1
@[simp] theorem x_setF {i : Nat} {E : VEnd} {ρ : VEnv} : wSetF i α E ρ = α ρ fun x ρ1 => x.brw = false ∧ i < ρ1.length ∧ E.nx (ρ1.set i (some (x.to .froz))) := rfl
end
end VL

namespace VL
open PySem PySem.Spec PyProof.Rows L2
/-! ### tuple(text) -/
theorem meets_tuple_new_str (x : Str) (t : Tok) (hsz : x.cps.size ≤ sizeLine) : Meets (Builtin.«tuple.__new__» ⟨[.type "tuple", .str x t], []⟩)
    (fun A R s => A.handled = none ∧ ∀ (s' : Shared) (acc : Array Value), (∀ b o, s.heap.get? b = some o → s'.heap.get? b = some o) → s'.gens = s.gens → s'.drawn = s.drawn → s'.os = s.os → ItemsOf (SignAt x) acc x.cps.size → R (.ok (.ret (.ref s'.heap.objs.size))) { s' with heap := s'.heap.push { cls := .type "tuple", data := .seq acc } }) :=
  .of_wp fun prog w A R s h => by
    obtain ⟨hp, g, d, tk, os⟩ := s; obtain ⟨hh, h⟩ := h
    have hsub := sub_tuple_self
    have hinit := init_tuple_lookup
    have hmh := madeHere_tuple
    have hh1 : A.in1.handled = none := hh
    have hT : Shared.TypeIs ⟨hp, g, d, tk, os⟩ (.str x t) "str" := rfl
    wp_walk using wpAny_typeOf hT, wpAny_collect_str (hn := hsz) (A := A.in1) hh1 x t
    intro s' acc k1 k2 k3 k4 k5
    show wpAny _ _ (Builtin.Tuple.tupleExact acc.toList.toArray >>= fun v => ret v) _ _ _
    unfold Builtin.Tuple.tupleExact
    have e : acc.toList.toArray = acc := by simp
    rw [e]
    have hz : acc.size ≤ sizeLine := by rw [k5.1]; exact hsz
    refine wpAny_bind (wpAny_newObj_type ?_ (by show acc.size ≤ sizeLine; exact hz))
    exact wpAny_pure ⟨_, rfl, h s' acc k1 k2 k3 k4 k5⟩
theorem call_tuple_str {prog : Program} {w : World} {A : Around} {E : Value → Shared → Prop} {s : Shared} {Q : Value → Shared → Prop} (hh : A.handled = none) (x : Str) (t : Tok) (hsz : x.cps.size ≤ sizeLine)
    (h : ∀ (s' : Shared) (acc : Array Value), (∀ b o, s.heap.get? b = some o → s'.heap.get? b = some o) → s'.gens = s.gens → s'.drawn = s.drawn → s'.os = s.os → ItemsOf (SignAt x) acc x.cps.size → Q (.ref s'.heap.objs.size) { s' with heap := s'.heap.push { cls := .type "tuple", data := .seq acc } }) :
    wpAny (model prog w) A (call (.type "tuple") [.str x t]) Q E s :=
  callType_new F.called_tuple (by decide) (F.typeCall_tuple_1 _) (F.newCall_tuple_1 _) (fun obj => F.args_object_init_2 obj _) F.entry_tuple_new
    (meets_tuple_new_str x t hsz) ⟨hh, fun s' acc k1 k2 k3 k4 k5 => ⟨⟨_, Heap.get?_push_size _ rfl, rfl⟩, h s' acc k1 k2 k3 k4 k5⟩⟩
theorem call_tupleStr {X : Cx} (hc : X.calm = true) : CallR X (.type "tuple") (fun xs H Q => ∃ z : Str, xs = [.str z] ∧ z.length ≤ sizeLine ∧ ∀ l, H l = none → Q (.ref l) (upd H l (.tup (z.cps.toList.map fun c => .str ⟨#[c]⟩)))) := by
  intro pins s σ H xs us Q I r h
  obtain ⟨z, rfl, hz, q⟩ := h
  obtain ⟨u, rfl, t, rfl⟩ := vals1 r
  refine call_tuple_str (I.ok.hd hc) z t hz fun s' acc k1 k2 k3 k4 hacc => ?_
  obtain ⟨hp, g, d, tk, os⟩ := s'
  cases k2; cases k3; cases k4
  have I0 : Inv X pins σ H { s with heap := hp, toks := tk } := I.kept (t' := tk) k1
  have I1 : Inv X pins σ (upd H hp.objs.size (.tup (z.cps.toList.map fun c => .str ⟨#[c]⟩))) { s with heap := hp.push { cls := .type "tuple", data := .seq acc }, toks := tk } := by
    refine I0.laid (t' := tk) (fun b o e => Heap.get?_push_of_some _ e) (Nat.le_refl _) ⟨by rw [List.length_map]; exact hz, acc.toList, ?_, IsTup.new _ _⟩
    refine vals_of_at (by rw [List.length_map, Array.length_toList, Array.length_toList, hacc.1]) fun j x u hx hu => ?_
    obtain ⟨c, t', hc, rfl⟩ := hacc.2 j u (by simpa using hu)
    rw [List.getElem?_map, Array.getElem?_toList, hc] at hx
    cases hx
    exact ⟨t', rfl⟩
  exact ⟨.ref _, _, I1, rfl, q _ (I0.hok.fresh (Nat.le_refl _))⟩
def opTupleS : D → (D → Prop) → Prop
  | .str l, q => l.length ≤ sizeLine ∧ q (.tup (l.map fun c => .str [c]))
  | _, _ => False
@[simp] theorem o_tupleS {l : List Nat} {p : D → Prop} : opTupleS (.str l) p = (l.length ≤ sizeLine ∧ p (.tup (l.map fun c => .str [c]))) := rfl
theorem v1_tupleS {K : PySem.W.Frag} : V1 K (fun x H Q => ∃ z : Str, [x] = [V.str z] ∧ z.length ≤ sizeLine ∧ ∀ l, H l = none → Q (.ref l) (upd H l (.tup (z.cps.toList.map fun c => .str ⟨#[c]⟩)))) opTupleS := fun H M x dx q Q dm rx w k => by
  match dx, rx, w with
  | .str l, rx, w =>
    rw [rx.strE]
    exact ⟨mkS l, rfl, by rw [mkS_len]; exact w.1, fun p np => by rw [mkS_list]; exact k _ _ _ (res_tup dm np rs_signs) w.2⟩
section
variable {X : Cx} {F : Df} {a : Expr} {pos p : Pos} {τ : WA}
theorem r_tupleS (hc : X.calm = true) (hm : X.mg "tuple" = none) (hg : Gl X "tuple") (ha : DA X F [a] τ) (he : starEach [a] X.env = (false, eval a X.env) :: starEach [] X.env := by rfl) : DE X F (.Call (.Name "tuple" p) [a] [] pos) (wCallN (f1 opTupleS) τ) := de_callTy (call_tupleStr hc) (vn1 v1_tupleS) hg hm b_tuple ha (by decide) (by decide) he rfl
end
end VL

namespace VL
open PySem PySem.Spec PyProof.Rows L2
/-! ### text.replace("a", "b"), where a token is out -/
def runE1 (X : Cx) (e : Expr) : TE := fun σ H Q => ∀ (pins : List (Addr × Obj)) (s : Shared), 1 ≤ s.toks → Inv X pins σ H s → wpAny (model X.prog X.w) X.A (eval e X.env) (EP X pins σ Q) X.xe s
def runA1 (X : Cx) (es : List Expr) : TA := fun σ H Q => ∀ (pos : Pos) (pins : List (Addr × Obj)) (s : Shared), 1 ≤ s.toks → Inv X pins σ H s → wpAny (model X.prog X.w) X.A (spliced (backTo pos (starEach es X.env))) (AP X pins σ Q) X.xe s
theorem pet_run {X : Cx} {e : Expr} : PET X e (runE1 X e) := fun pins s _ _ _ h0 I h => h pins s h0 I
theorem pat_run {X : Cx} {es : List Expr} : PAT X es (runA1 X es) := fun pos pins s _ _ _ h0 I h => h pos pins s h0 I
structure DE1 (X : Cx) (F : Df) (e : Expr) (w : WE) : Prop where
  go : ∀ (bad : Addr → Prop) (σ : L2.St) (ρ : VEnv) (H : Hp) (q : D → VEnv → Prop) (Q : VK), Ok F.K F.H0 F.pa bad σ ρ H → w ρ q → (∀ v d bad' ρ' H', Po F.K F.H0 F.pa σ bad ρ H v d bad' ρ' H' → q d ρ' → Q v H') → runE1 X e σ H Q
structure DA1 (X : Cx) (F : Df) (es : List Expr) (w : WA) : Prop where
  go : RdA F (runA1 X es) w
section
variable {X : Cx} {F : Df} {e o : Expr} {es : List Expr} {pos p apos cpos : Pos} {α : WE} {τ : WA}
theorem de1_of (h : DE X F e α) : DE1 X F e α := ⟨fun bad σ ρ H q Q o w k pins s _ I => h.go bad σ ρ H q Q o w k pins s I⟩
theorem da1_of (h : DA X F es τ) : DA1 X F es τ := ⟨fun bad σ ρ H q Q o w k pos pins s _ I => h.go bad σ ρ H q Q o w k pos pins s I⟩
/-- a value's reading -/
def RdE (F : Df) (t : TE) (w : WE) : Prop := ∀ (bad : Addr → Prop) (σ : L2.St) (ρ : VEnv) (H : Hp) (q : D → VEnv → Prop) (Q : VK), Ok F.K F.H0 F.pa bad σ ρ H → w ρ q → (∀ v d bad' ρ' H', Po F.K F.H0 F.pa σ bad ρ H v d bad' ρ' H' → q d ρ' → Q v H') → t σ H Q
theorem rd_g {t0 : TE} {t : TA} (ha : RdE F t0 α) (hr : RdA F t τ) : RdA F (tCons t0 t) (wAE α τ) := by
  refine fun bad σ ρ H q Q o w k => ha bad σ ρ H _ _ o w fun x dx bad1 ρ1 H1 p1 w1 => ?_
  obtain ⟨hb, w1⟩ := w1
  refine hr bad1 σ ρ1 H1 _ _ p1.st.ok w1 fun vs as bad2 ρ2 H2 p2 w2 => k (x :: vs) (.val dx :: as) bad2 ρ2 H2 ⟨p1.st.trans p2.st, by simp [p2.len], ?_, ?_⟩ w2
  · intro i v a h1 h2
    cases i with
    | zero =>
      simp at h1 h2; subst h1; subst h2
      exact ⟨hb, p1.va.keep p1.st.ok p2.st (.inl hb)⟩
    | succ i =>
      have := p2.va i v a (by simpa using h1) (by simpa using h2)
      cases a with
      | val d => exact ⟨this.1, this.2.pre p1.st.dom⟩
      | slot j => exact this
  · intro i j v a v' a' z h1 h2 h3 h4 n1 n2
    have hz : ∀ {v : V} {a : Arg} {z : Addr} {i : Nat}, vs[i]? = some v → as[i]? = some a → newA v a = some z → newA x (.val dx) = some z → False := fun {v a z i} e1 e2 e3 e4 => by
      have p := p2.va i v a e1 e2
      cases a with
      | slot j => cases v <;> simp [newA] at e3
      | val d =>
        have hx : x = .ref z ∧ dx.isTmp = true := by
          cases x <;> simp [newA] at e4
          exact ⟨by rw [e4.2], e4.1⟩
        have hv : v = .ref z ∧ d.isTmp = true := by
          cases v <;> simp [newA] at e3
          exact ⟨by rw [e3.2], e3.1⟩
        obtain ⟨rfl, tx⟩ := hx
        obtain ⟨rfl, tv⟩ := hv
        rcases p1.va with ⟨im, _⟩ | ⟨_, a, ea, ra, _, _⟩ | ⟨b, _⟩
        · rw [tmp_imm tx] at im; cases im
        · cases ea
          rcases p.2 with ⟨im, _⟩ | ⟨_, a', ea', _, n', _⟩ | ⟨b, _⟩
          · rw [tmp_imm tv] at im; cases im
          · cases ea'; exact ra.ne n'
          · rw [tmp_brw tv] at b; cases b
        · rw [tmp_brw tx] at b; cases b
    cases i with
    | zero =>
      simp at h1 h2; subst h1; subst h2
      cases j with
      | zero => rfl
      | succ j => exact (hz (by simpa using h3) (by simpa using h4) n2 n1).elim
    | succ i =>
      cases j with
      | zero =>
        simp at h3 h4; subst h3; subst h4
        exact (hz (by simpa using h1) (by simpa using h2) n1 n2).elim
      | succ j => rw [p2.un i j v a v' a' z (by simpa using h1) (by simpa using h2) (by simpa using h3) (by simpa using h4) n1 n2]
theorem rd_e1 {t : TA} (ha : DE1 X F e α) (hr : RdA F t τ) : RdA F (tCons (runE1 X e) t) (wAE α τ) := rd_g ha.go hr
theorem da1_e (ha : DE1 X F e α) (hr : DA1 X F es τ) (hs : starEach (e :: es) X.env = (false, eval e X.env) :: starEach es X.env := by rfl) : DA1 X F (e :: es) (wAE α τ) :=
  ⟨fun bad σ ρ H q Q o w k pos pins s h0 I => pat_cons pet_run pat_run hs pos pins s σ H Q h0 I (rd_e1 ha hr.go bad σ ρ H q Q o w k)⟩
/-- behind a written text a token is out -/
theorem da_s {x : Str} {l : List Nat} {j : Nat} (hr : DA1 X F es τ) (hx : x = mkS l := by rfl) (hs : starEach (.Constant (.str x) j p :: es) X.env = (false, eval (.Constant (.str x) j p) X.env) :: starEach es X.env := by rfl) : DA X F (.Constant (.str x) j p :: es) (wAE (wC (.str l)) τ) := by
  subst hx
  refine ⟨fun bad σ ρ H q Q o w k pos pins s I => ?_⟩
  have z := rd_g (t0 := tC (.str (mkS l))) (t := runA1 X es) (α := wC (.str l)) (fun bad σ ρ H q Q o w k => k (.str (mkS l)) (.str l) bad ρ H (.imm o rfl (.str l)) w) hr.go bad σ ρ H q Q o w k
  rw [hs]
  show wpAny _ _ (spliced ((false, eval _ X.env) :: backTo pos (starEach es X.env))) _ _ s
  refine Calls.spliced_cons (Calls.Constant_str ?_)
  exact thn (z pos pins _ (by show 1 ≤ s.toks + 1; omega) (I.tok _)) fun us s2 ⟨xs, H2, I2, r2, q2⟩ => ⟨.str (mkS l) :: xs, H2, I2, .cons ⟨s.toks, rfl⟩ r2, q2⟩
/-- text.replace of one written sign by another one -/
def sbL (c d : Nat) (l : List Nat) : List Nat := l.map fun k => if k = c then d else k
def wRepl (c d : Nat) (α : WE) : WE := fun ρ q => α ρ fun x ρ1 => ∃ l, x = .str l ∧ l.length ≤ 1000 ∧ q (.str (sbL c d l)) ρ1
theorem sb_free (c d : Nat) : ∀ l : List Nat, c ∉ l → sbL c d l = l
  | [], _ => rfl
  | k :: r, h => by
    have h1 : ¬ k = c := fun e => h (e ▸ List.mem_cons_self ..)
    have h2 : c ∉ r := fun m => h (List.mem_cons_of_mem _ m)
    have ih := sb_free c d r h2
    unfold sbL at ih ⊢
    rw [List.map_cons, if_neg h1, ih]
theorem sb_join (c d : Nat) : ∀ parts : List Str, (∀ p ∈ parts, c ∉ p.cps.toList) → sbL c d (Str.join ⟨#[c]⟩ parts).cps.toList = (Str.join ⟨#[d]⟩ parts).cps.toList
  | [], _ => rfl
  | [p], h => sb_free c d _ (h p (List.mem_singleton.mpr rfl))
  | p :: q :: r, h => by
    have ih := sb_join c d (q :: r) fun a ha => h a (List.mem_cons_of_mem _ ha)
    show sbL c d (p ++ ⟨#[c]⟩ ++ Str.join ⟨#[c]⟩ (q :: r)).cps.toList = (p ++ ⟨#[d]⟩ ++ Str.join ⟨#[d]⟩ (q :: r)).cps.toList
    simp only [Str.cps_append, Array.toList_append]
    rw [← ih]
    have e := sb_free c d _ (h p (List.mem_cons_self ..))
    unfold sbL at e ⊢
    rw [List.map_append, List.map_append, e]
    simp
theorem repl_sb (x : Str) (c d : Nat) : (Txt.replace x ⟨#[c]⟩ ⟨#[d]⟩).cps.toList = sbL c d x.cps.toList := by
  rw [StrLaws.replace_one, ← sb_join c d _ (StrLaws.split_free x c), StrLaws.join_split]
theorem de1_repl {c d j k : Nat} {y z : Str} {c0 c1 : Pos} (ho : DE X F o α) (hyz : (y == z) = false := by decide) (hy : y = ⟨#[c]⟩ := by rfl) (hz : z = ⟨#[d]⟩ := by rfl)
    (hst : starEach [.Constant (.str y) j c0, .Constant (.str z) k c1] X.env = [(false, eval (.Constant (.str y) j c0) X.env), (false, eval (.Constant (.str z) k c1) X.env)] := by rfl)
    (hbase : attributeBase o "replace" X.env (eval o X.env) = eval o X.env := by rfl) (hline : (apos.endLine == cpos.line) = true := by rfl) :
    DE1 X F (.Call (.Attribute o "replace" apos) [.Constant (.str y) j c0, .Constant (.str z) k c1] [] cpos) (wRepl c d α) := by
  refine ⟨fun bad σ ρ H q Q ok w kk pins s h0 I => CwR.pet_replC pe_run hyz hst hbase hline pins s σ H Q h0 I ?_⟩
  refine ho.go bad σ ρ H _ _ ok w fun v dv bad1 ρ1 H1 p1 w1 => ?_
  obtain ⟨l, rfl, hl, w1⟩ := w1
  have r := p1.va.read p1.st.ok
  rw [r.strE]
  subst hy; subst hz
  refine ⟨mkS l, rfl, by rw [mkS_len]; show l.length + (l.length + 1) * 1 ≤ 16777216; omega, ?_⟩
  have e : Txt.replace (mkS l) ⟨#[c]⟩ ⟨#[d]⟩ = mkS (sbL c d l) := by
    have h := repl_sb (mkS l) c d
    rw [show (mkS l).cps.toList = l from rfl] at h
    show _ = (⟨(sbL c d l).toArray⟩ : Str)
    rw [← h]
  rw [e]
  obtain ⟨bad2, p2⟩ := (res_str (sbL c d l)).po p1.st.ok
  exact kk _ _ bad2 ρ1 H1 (p1.st.po p2) w1
@[simp] theorem x_repl {c d : Nat} {ρ : VEnv} {q : D → VEnv → Prop} : wRepl c d α ρ q = α ρ fun x ρ1 => ∃ l, x = .str l ∧ l.length ≤ 1000 ∧ q (.str (sbL c d l)) ρ1 := rfl
end
section
variable {X : Cx} {F : Df} {b : Expr} {β : WE} {bop : Operator} {f : D → D → (D → Prop) → Prop} {npos pos : Pos}
/-- x op e, x a local name: the content is read behind e -/
def wBinV (i : Nat) (f : D → D → (D → Prop) → Prop) (β : WE) : WE := fun ρ q => (∃ d, ρ[i]? = some (some d)) ∧ β ρ fun y ρ2 => ∃ d, ρ2[i]? = some (some d) ∧ f d y fun r => q r ρ2
theorem de_biV (i : Nat) {x : Str} (h : BiR X F bop f) (hb : DE X F b β) (hN : X.N[i]? = some x := by rfl) (hv : Vis X.env.scope x := by first | exact Or.inl rfl | exact Or.inr (Or.inl rfl) | exact Or.inr (Or.inr rfl)) (hd : (x == ("__debug__" : Str)) = false := by decide) (hcd : (x == ("__classdict__" : Str)) = false := by decide) :
    DE X F (.BinOp (.Name x npos) bop b pos) (wBinV i f β) := by
  obtain ⟨r, h1, h2⟩ := h
  refine ⟨fun bad σ ρ H q Q o w k => (pe_op h1 (pe_var hN hv hd hcd) pe_run).to ?_⟩
  obtain ⟨⟨d0, e0⟩, w⟩ := w
  obtain ⟨v, ev, _⟩ := o.sl i d0 e0
  refine ⟨v, ev, hb.go bad σ ρ H _ _ o w fun y dy bad1 ρ1 H1 p1 w1 => ?_⟩
  obtain ⟨d, e1, w1⟩ := w1
  obtain ⟨v', ev', s⟩ := p1.st.ok.sl i d e1
  rw [ev] at ev'; cases ev'
  have rx : RVal F.K H1 (Mm bad1 σ ρ1) v d := by
    rcases s with ⟨_, r⟩ | ⟨b, a, rfl, r⟩
    · exact .inl ⟨r.imm, r⟩
    · exact .inr ⟨brw_imm b, a, rfl, r⟩
  refine h2 H1 _ v d y dy _ Q (fun b m => p1.st.ok.mdom m) rx (p1.va.read p1.st.ok) w1 fun v d H2 res qd => ?_
  obtain ⟨bad2, p2⟩ := res.po p1.st.ok
  exact k v d bad2 ρ1 H2 (p1.st.po p2) qd
@[simp] theorem x_binV {i : Nat} {ρ : VEnv} {q : D → VEnv → Prop} : wBinV i f β ρ q = ((∃ d, ρ[i]? = some (some d)) ∧ β ρ fun y ρ2 => ∃ d, ρ2[i]? = some (some d) ∧ f d y fun r => q r ρ2) := rfl
end
end VL

namespace VL
open PySem PySem.Spec PyProof.Rows L2
/-! ### {k1: v1, k2: v2}, of texts -/
def wDisp2 (κ1 α1 κ2 α2 : WE) : WE := fun ρ q => κ1 ρ fun x1 ρ1 => α1 ρ1 fun y1 ρ2 => κ2 ρ2 fun x2 ρ3 => α2 ρ3 fun y2 ρ4 => ∃ a b c d, x1 = .str a ∧ y1 = .str b ∧ x2 = .str c ∧ y2 = .str d ∧ q (.map .tmp (dput [(.inr a, .str b)] (.inr c) (.str d))) ρ4
section
variable {X : Cx} {F : Df} {a b c d e f o : Expr} {es : List Expr} {pos p cpos apos : Pos} {κ1 κ2 α1 α2 α β γ : WE} {τ : WA}
theorem Po.str {σ : L2.St} {bad bad' : Addr → Prop} {ρ ρ' : VEnv} {H H' : Hp} {v : V} {l : List Nat} (p : Po F.K F.H0 F.pa σ bad ρ H v (.str l) bad' ρ' H') : v = .str (mkS l) := (p.va.read p.st.ok).strE
theorem de_disp2 (h1 : DE X F a κ1) (h2 : DE X F b α1) (h3 : DE X F c κ2) (h4 : DE X F d α2) : DE X F (.Dict [some a, some c] [b, d] pos) (wDisp2 κ1 α1 κ2 α2) := by
  refine ⟨fun bad σ ρ H q Q o w k => (pe_disp (pps_cons pe_run pe_run (pps_cons pe_run pe_run pps_nil)) rfl rfl (by simp) (by simp)).to fun p n => ?_⟩
  have s0 := o.plus (x := .dK []) n
  have h0 : F.H0 p = none := (o.dom p n).1
  refine h1.go _ σ ρ _ _ _ s0.ok w fun x1 d1 bad1 ρ1 H1 p1 w1 => h2.go bad1 σ ρ1 H1 _ _ p1.st.ok w1 fun x2 d2 bad2 ρ2 H2 p2 w2 => h3.go bad2 σ ρ2 H2 _ _ p2.st.ok w2 fun x3 d3 bad3 ρ3 H3 p3 w3 => h4.go bad3 σ ρ3 H3 _ _ p3.st.ok w3 fun x4 d4 bad4 ρ4 H4 p4 w4 => ?_
  obtain ⟨la, lb, lc, ld, rfl, rfl, rfl, rfl, w4⟩ := w4
  have b1 : bad1 p := p1.st.bd p (.inr rfl)
  have b2 : bad2 p := p2.st.bd p b1
  have b3 : bad3 p := p3.st.bd p b2
  have b4 : bad4 p := p4.st.bd p b3
  have e1 : H1 p = some (.dK []) := p1.st.fr p _ upd_same fun z => s0.ok.ob p z (.inr rfl)
  have e2 : H2 p = some (.dK []) := p2.st.fr p _ e1 fun z => p1.st.ok.ob p z b1
  have e3 : H3 p = some (.dK []) := p3.st.fr p _ e2 fun z => p2.st.ok.ob p z b2
  have e4 : H4 p = some (.dK []) := p4.st.fr p _ e3 fun z => p3.st.ok.ob p z b3
  rw [p1.str, p2.str, p3.str, p4.str]
  have st := ((s0.trans p1.st).trans p2.st).trans (p3.st.trans p4.st)
  refine ⟨e4, [(kmap (.inr la), .str (mkS lb)), (kmap (.inr lc), .str (mkS ld))], rfl, by simp, ?_⟩
  have em : mergeK [] [(kmap (.inr la), V.str (mkS lb)), (kmap (.inr lc), .str (mkS ld))] = putK [(kmap (.inr la), .str (mkS lb))] (kmap (.inr lc)) (.str (mkS ld)) := rfl
  rw [em]
  have rk : ∀ (H : Hp) (M : Addr → Prop), Rk F.K H M (putK [(kmap (.inr la), .str (mkS lb))] (kmap (.inr lc)) (.str (mkS ld))) (dput [(.inr la, .str lb)] (.inr lc) (.str ld)) := fun H M => rk_put (.str ld) (Rk.consI (.str lb) ⟨rfl, Rs.nil⟩)
  have st' : Stp F.K F.H0 F.pa σ bad ρ H bad4 ρ4 (upd H4 p (.dK (putK [(kmap (.inr la), .str (mkS lb))] (kmap (.inr lc)) (.str (mkS ld))))) := ⟨st.ok.updBad b4 h0, st.own, fun b x h m => by
    rw [upd_ne (fun z => by subst z; rw [n] at h; cases h)]; exact st.fr b x h m, fun b z => by
    have hb : b ≠ p := fun e => by rw [e, upd_same] at z; cases z
    rw [upd_ne hb] at z; exact st.dom b z, fun b h => st.bd b h, st.bn, st.lk⟩
  exact k (.ref p) (.map .tmp (dput [(.inr la, .str lb)] (.inr lc) (.str ld))) bad4 ρ4 _ ⟨st', .inr (.inl ⟨rfl, p, rfl, ⟨_, upd_same, (rk (fun _ => none) (fun _ => False)).1, (rk _ _).2⟩, n, b4⟩)⟩ w4
@[simp] theorem x_disp2 {ρ : VEnv} {q : D → VEnv → Prop} : wDisp2 κ1 α1 κ2 α2 ρ q = κ1 ρ fun x1 ρ1 => α1 ρ1 fun y1 ρ2 => κ2 ρ2 fun x2 ρ3 => α2 ρ3 fun y2 ρ4 => ∃ a b c d, x1 = .str a ∧ y1 = .str b ∧ x2 = .str c ∧ y2 = .str d ∧ q (.map .tmp (dput [(.inr a, .str b)] (.inr c) (.str d))) ρ4 := rfl
/-! ### d.get(k, z) -/
def wDGet2 (α β γ : WE) : WE := fun ρ q => α ρ fun x ρ1 => ∃ kd kds, x = .map kd kds ∧ β ρ1 fun y ρ2 => γ ρ2 fun z ρ3 => ρ2 = ρ1 ∧ ρ3 = ρ2 ∧ z.imm = true ∧ ∃ ky, keyD y = some ky ∧ q ((dget kds ky).getD z) ρ3
theorem de_dget2 (hu : X.A.units + 64 < cLine) (ho : DE X F o α) (he : DE X F e β) (hf : DE X F f γ) (hbase : attributeBase o "get" X.env (eval o X.env) = eval o X.env := by rfl)
    (hfew : ((backTo cpos (starEach [e, f] X.env)).all (fun x => !x.1) && (backToKw cpos (keywordEach [] X.env)).all (fun x => x.1.isSome) && decide (([e, f] : List Expr).length + ([] : List Keyword).length + (if ([] : List Keyword).isEmpty then 0 else 1) < 30)) = true := by rfl)
    (hline : (apos.endLine == cpos.line) = true := by rfl) (htr : backTo cpos (starEach [e, f] X.env) = [(false, eval e X.env), (false, eval f X.env)] := by rfl) : DE X F (.Call (.Attribute o "get" apos) [e, f] [] cpos) (wDGet2 α β γ) := by
  refine ⟨fun bad σ ρ H q Q o1 w k => (pe_dget2 (by omega) pe_run pe_run pe_run ⟨hbase, hfew, hline, htr⟩).to (ho.go bad σ ρ H _ _ o1 w fun x dx bad1 ρ1 H1 p1 w1 => ?_)⟩
  obtain ⟨kd, kds, rfl, w1⟩ := w1
  obtain ⟨a, kvs, rfl, e1, rk⟩ := (p1.va.read p1.st.ok).mapE
  refine ⟨a, rfl, .inl ⟨kvs, .inl e1⟩, he.go bad1 σ ρ1 H1 _ _ p1.st.ok w1 fun y dy bad2 ρ2 H2 p2 w2 => hf.go bad2 σ ρ2 H2 _ _ p2.st.ok w2 fun z dz bad3 ρ3 H3 p3 w3 => ?_⟩
  obtain ⟨k1, k2, iz, ky, hk, w3⟩ := w3
  have v2 := p1.va.keep p1.st.ok p2.st (.inr k1)
  have v3 := v2.keep p2.st.ok p3.st (.inr k2)
  obtain ⟨a', kvs', ea, e3, rk3⟩ := (v3.read p3.st.ok).mapE
  cases ea
  have ry := (p2.va.keep p2.st.ok p3.st (.inr k2)).read p3.st.ok
  rw [key_of ry hk]
  refine ⟨valV kvs' (kmap ky), .inl ⟨kvs', kmap ky, .inl e3, rfl, rfl⟩, ?_⟩
  have st := (p1.st.trans p2.st).trans p3.st
  cases hd : dget kds ky with
  | none =>
    rw [(rk_get rk3).2 hd]
    rw [hd] at w3
    have rz : R F.K H3 (Mm bad3 σ ρ3) z dz := by
      rcases p3.va.read p3.st.ok with ⟨_, r⟩ | ⟨i, _⟩
      · exact r
      · rw [iz] at i; cases i
    obtain ⟨bad4, p4⟩ := (res_imm (K := F.K) (M := Mm bad3 σ ρ3) (H := H3) iz rz).po p3.st.ok
    exact k _ _ bad4 ρ3 H3 (st.po p4) w3
  | some d =>
    obtain ⟨v, hv, r⟩ := (rk_get rk3).1 d hd
    rw [hv]
    rw [hd] at w3
    obtain ⟨bad4, p4⟩ := (res_imm (K := F.K) (M := Mm bad3 σ ρ3) (H := H3) r.imm r).po p3.st.ok
    exact k _ _ bad4 ρ3 H3 (st.po p4) w3
@[simp] theorem x_dget2 {ρ : VEnv} {q : D → VEnv → Prop} : wDGet2 α β γ ρ q = α ρ fun x ρ1 => ∃ kd kds, x = .map kd kds ∧ β ρ1 fun y ρ2 => γ ρ2 fun z ρ3 => ρ2 = ρ1 ∧ ρ3 = ρ2 ∧ z.imm = true ∧ ∃ ky, keyD y = some ky ∧ q ((dget kds ky).getD z) ρ3 := rfl
end
/-! ### a def that stands under another name: x = y behind def y -/
def DefAl (K : PySem.W.Frag) (mg : Str → Option Value) (x y : Str) (st : Stmt) (ps : List Str) : Prop := ∃ f fd, Fun K y y st f fd ∧ mg x = some (.ref f) ∧ Binds K fd ps []
def CkA (P : Program) (w : World) (K : PySem.W.Frag) (mg : Str → Option Value) (base : Heap) (k : Nat) (x y : Str) (st : Stmt) (ps : List Str) (S : Spec) : Prop :=
  ∃ f fd, FnOk P w K mg base CX0 k f fd ps (spV K S) ∧ mg x = some (.ref f) ∧ Fun K y y st f fd ∧ Binds K fd ps []
section
variable {X : Cx} {F : Df} {e : Expr} {es : List Expr} {pos p : Pos} {τ : WA}
theorem de_ckA {k : Nat} {x y : Str} {st : Stmt} {ps : List Str} {S : Spec} (h : CkA X.prog X.w X.K X.mg X.base k x y st ps S) (hr : Room k X.A) (hK : X.K = F.K) (hg : Gl X x) (ha : DA X F (e :: es) τ)
    (hdb : (x == ("__debug__" : Str)) = false := by decide) (he : starEach (e :: es) X.env = (false, eval e X.env) :: starEach es X.env := by rfl) (hpl : (backTo pos (starEach es X.env)).any (·.1) = false := by rfl) :
    DE X F (.Call (.Name x p) (e :: es) [] pos) (wCall S τ) := by
  obtain ⟨f, fd, h1, h2, h3, h4⟩ := h
  rw [hK] at h1
  exact de_call (F := F) (by rw [hK]; exact h1) hr hg h2 h3.kp h4 ha hdb he hpl
theorem de_ckKA {k : Nat} {x y : Str} {st : Stmt} {ps ks : List Str} {S : Spec} {kws : List Keyword} (pm : List Nat) (h : CkA X.prog X.w X.K X.mg X.base k x y st ps S) (hr : Room k X.A) (hK : X.K = F.K) (hg : Gl X x) (ha : DK X F kws τ)
    (hb : ∀ (kV doc pm' : Value) (an : Option Addr) (cdv ct : Value) (ws : List Value), ws.length = ks.length → bindArgs (PySem.W.fnOf y y (defArgs st) (defBody st) (defScope st) .none kV doc pm' an cdv ct) ⟨[], ks.zip ws⟩ = pure (ps.zip (pmL .none pm ws)))
    (hpm : pm.all (fun j => decide (j < pm.length)) = true := by rfl) (hnd : nodupB pm = true := by rfl) (hkl : ks.length = pm.length := by rfl) (hall : (backToKw pos (keywordEach kws X.env)).all (·.1.isSome) = true := by rfl) (hks : (backToKw pos (keywordEach kws X.env)).filterMap (·.1) = ks := by rfl)
    (hdb : (x == ("__debug__" : Str)) = false := by decide) (hpl : ((backTo pos (starEach [] X.env)).any (·.1) || (backToKw pos (keywordEach kws X.env)).any (·.1.isNone)) = false := by rfl) :
    DE X F (.Call (.Name x p) [] kws pos) (wCallK S pm τ) := by
  obtain ⟨f, fd, h1, h2, h3, h4⟩ := h
  exact de_callK (F := F) (by rw [hK] at h1 ⊢; exact h1) hr hg h2 h3.kp (kb_mk h3 hb) ha hpm hnd hkl hall hks hdb hpl
end
section
variable {P : Program} {w : World} {K : PySem.W.Frag} {mg : Str → Option Value} {base : Heap}
theorem ckA_mk {x y : Str} {st : Stmt} {N ps : List Str} {k n : Nat} {S : Spec} {wb : WS} (h : DefAl K mg x y st ps) (sc : FnScope N ps (defScope st)) (hps : ps.length = n) (hN : n ≤ N.length) (hlen : ∀ ds q, S ds q → ds.length = n)
    (hbody : ∀ (H0 : Hp) (pa : List (Option Addr)) (cdv : Value) (A : Around) (outer : List Env) (s : Shared) (H : Hp) (E : XK) (f : Addr), pa.length = n → Room k (A.deeper (envOfC y (defScope st) s.heap.objs.size f cdv)) → DS (cxOf CX0 P w K mg base N y (defScope st) f cdv A outer s H E).nox ⟨K, H0, pa⟩ (defBody st) wb)
    (hvc : ∀ ds q, S ds q → wb { nx := fun ρ => q .non (finA ds ρ), rt := fun d ρ => q d (finA ds ρ) } (env0 N.length ds)) : CkA P w K mg base (k + 1) x y st ps S := by
  obtain ⟨f, fd, F, hm, hb⟩ := h
  refine ⟨f, fd, fnok F sc hps hN hlen (fun X Fd cdv A outer s H E hX hK hpa hr => ?_) hvc, hm, F, hb⟩
  obtain ⟨K', H0, pa⟩ := Fd
  subst hX
  cases hK
  exact hbody H0 pa cdv A outer s H E f hpa hr
end
theorem st_defA {K : PySem.W.Frag} {mg : Str → Option Value} {h : Heap} {x y : Str} {Z : Prop} {st : Stmt} {ps : List Str} {f : Addr} {oc kV doc pm cdv ct : Value} {od an : Option Addr} {osl : Array (Option Value)} (X : K.In h) (G : h.Ns mainGlobals mg) (a : PySem.W.nsIn K mainGlobals x = some (some (.ref f)))
    (l : K.lookup f = some ⟨oc, od, .func (PySem.W.fnOf y y (defArgs st) (defBody st) (defScope st) .none kV doc pm an cdv ct), osl⟩) (c : PySem.W.codeIn K cdv y = true) (k : PySem.W.keepIn K (.ref f) = true)
    (b : ∀ (kV doc pm : Value) (an : Option Addr) (cdv ct : Value) (us : List Value), us.length = ps.length → bindArgs (PySem.W.fnOf y y (defArgs st) (defBody st) (defScope st) .none kV doc pm an cdv ct) ⟨us, []⟩ = pure (ps.zip us)) (z : DefAl K mg x y st ps → Z) : Z := z ⟨f, _, fun_mk l c k, PySem.W.mg_of X G a, (fun_mk l c k).binds b⟩
end VL

namespace VL
open PySem PySem.Spec PyProof.Rows L2 PySem.Builtin PySem.Builtin.Str
/-! ### a short text's rest, turned round: t[:0:-1] -/
theorem rest_ix : ∀ n, n ≤ 10 → strSliceIndices none (some 0) (-1) n = ((List.range n).drop 1).reverse := by decide +kernel
theorem rest_get : ∀ l : List Nat, ((List.range l.length).drop 1).filterMap (l[·]?) = l.drop 1
  | [] => rfl
  | x :: xs => by
    have e : (List.range (x :: xs).length).drop 1 = (List.range xs.length).map Nat.succ := by
      rw [List.length_cons, List.range_succ_eq_map]; rfl
    rw [e, List.filterMap_map]
    have e3 : ((fun i => (x :: xs)[i]?) ∘ Nat.succ) = (xs[·]?) := by funext i; rfl
    rw [e3]
    have := PySem.W.krv_all xs.toArray
    simpa using this
def tRest (te : TE) : TE := fun σ H Q => te σ H fun x H1 => ∃ l : List Nat, x = .str (mkS l) ∧ l.length ≤ 10 ∧ Q (.str (mkS (l.drop 1).reverse)) H1
section
variable {X : Cx} {F : Df} {e : Expr} {α : WE}
theorem pe_rest {te : TE} {k j : Nat} {p0 p1 p2 p3 pos : Pos} (he : PE X e te) : PE X (.Subscript e (.Slice none (some (.Constant (.int 0) j p0)) (some (.UnaryOp .USub (.Constant (.int 1) k p1) p2)) p3) pos) (tRest te) := by
  refine ⟨fun pins s σ H Q I h => ?_⟩
  refine Subscript_ (thn (he.run pins s σ H _ I h) fun v s1 ⟨x, H1, I1, r1, q1⟩ => ?_)
  obtain ⟨z, ex, hz, q⟩ := q1
  subst ex
  obtain ⟨t, rfl⟩ := r1
  have hst : PO X (some (.UnaryOp .USub (.Constant (.int 1) k p1) p2)) (tPart (tUn (rU fun i => .int (-i)) (tC (.int 1)))) := po_some (pe_un un_neg pe_int)
  have hup : PO X (some (.Constant (.int 0) j p0)) (tPart (tC (.int 0))) := po_some pe_int
  refine wpAny_Slice (thn (po_none.run pins s1 σ H1 (fun o H2 => o = none ∧ H2 = H1) I1 ⟨rfl, rfl⟩) fun vl s2 ⟨l, H2, I2, pl, el, e2⟩ => ?_)
  subst el e2
  refine thn (hup.run pins s2 σ H2 (fun o H3 => o = some 0 ∧ H3 = H2) I2 ⟨0, rfl, rfl, rfl⟩) fun vu s3 ⟨u, H3, I3, pu, eu, e3⟩ => ?_
  subst eu e3
  refine thn (hst.run pins s3 σ H3 (fun o H4 => o = some (-1) ∧ H4 = H3) I3 ⟨1, rfl, -1, rfl, rfl, rfl⟩) fun vs s4 ⟨o, H4, I4, ps, eo, e4⟩ => ?_
  subst eo e4
  have I5 : Inv X pins σ H4 { s4 with heap := s4.heap.push { cls := .type "slice", data := .fields #[vl, vu, vs] } } := I4.kept (t' := s4.toks) fun b ob q => Heap.get?_push_of_some _ q
  show wpAny (model X.prog X.w) X.A (subscriptTail e (.Slice none (some (.Constant (.int 0) j p0)) (some (.UnaryOp .USub (.Constant (.int 1) k p1) p2)) p3) (.str (mkS z) t) (.ref s4.heap.objs.size)) (EP X pins σ Q) X.xe { s4 with heap := s4.heap.push { cls := .type "slice", data := .fields #[vl, vu, vs] } }
  refine tail_any (ops := [.ref s4.heap.objs.size, .str (mkS z) t]) (typeIs_str _ _ _) F.slot_str_getitem.lookup ?_ (by with_unfolding_all rfl)
  obtain ⟨os, hos, hcs, hds⟩ := Heap.IsSliceOf.new s4.heap vl vu vs
  obtain ⟨l0, rfl, e0⟩ := IsPart.raw pl
  obtain ⟨u0, rfl, e1⟩ := IsPart.raw pu
  obtain ⟨k0, rfl, e2⟩ := IsPart.raw ps
  match l0, u0, k0, e0, e1, e2 with
  | none, some (i0, t0), some (i, tk), _, e1, e2 =>
    have ei : i = -1 := by simpa using e2
    have e0 : i0 = 0 := by simpa using e1
    subst ei
    subst e0
    refine wpAny_getItem_str_slice (l := none) (u := some (0, t0)) (st := some (-1, tk)) ⟨os, hos, hcs, hds⟩ rfl ?_
    have hm : ((slicePicked (mkS z) none (some (0, t0)) (some (-1, tk))).filterMap ((mkS z).cps[·]?)) = (z.drop 1).reverse := by
      unfold slicePicked
      show (strSliceIndices none (some 0) (-1) (mkS z).length).filterMap _ = _
      rw [mkS_len, rest_ix _ hz, List.filterMap_reverse]
      congr 1
      have : (fun i : Nat => (mkS z).cps[i]?) = fun i : Nat => z[i]? := by funext i; simp [mkS]
      rw [this]
      exact rest_get z
    unfold sliceMade
    rw [if_neg (by simp), hm]
    exact ⟨by
      have h1 : ((z.drop 1).reverse).length ≤ 1000000 := by rw [List.length_reverse, List.length_drop]; omega
      exact small_le h1, .str _, H4, I5.tok _, ⟨_, rfl⟩, q⟩
def wRest (α : WE) : WE := fun ρ q => α ρ fun x ρ1 => ∃ l, x = .str l ∧ l.length ≤ 10 ∧ q (.str (l.drop 1).reverse) ρ1
theorem de_rest {j k : Nat} {p0 p1 p2 p3 pos : Pos} (ha : DE X F e α) : DE X F (.Subscript e (.Slice none (some (.Constant (.int 0) j p0)) (some (.UnaryOp .USub (.Constant (.int 1) k p1) p2)) p3) pos) (wRest α) := by
  refine ⟨fun bad σ ρ H q Q o w kk => (pe_rest pe_run).to (ha.go bad σ ρ H _ _ o w fun x dx bad1 ρ1 H1 p1 w1 => ?_)⟩
  obtain ⟨l, rfl, hl, w1⟩ := w1
  rw [p1.str]
  refine ⟨l, rfl, hl, ?_⟩
  obtain ⟨bad2, p2⟩ := (res_str (l.drop 1).reverse).po p1.st.ok
  exact kk _ _ bad2 ρ1 H1 (p1.st.po p2) w1
@[simp] theorem x_rest {ρ : VEnv} {q : D → VEnv → Prop} : wRest α ρ q = α ρ fun x ρ1 => ∃ l, x = .str l ∧ l.length ≤ 10 ∧ q (.str (l.drop 1).reverse) ρ1 := rfl
end
end VL

namespace VL
open PySem PySem.Spec PyProof.Rows L2
/-! ### text.split of one sign -/
theorem str_joinS (sep : List Nat) : ∀ ss : List (List Nat), Str.join (mkS sep) (ss.map mkS) = mkS (joinL sep ss)
  | [] => rfl
  | [x] => by simp [Str.join, joinL, joinR]
  | x :: y :: r => by
    show mkS x ++ mkS sep ++ Str.join (mkS sep) ((y :: r).map mkS) = _
    rw [str_joinS sep (y :: r), mkS_app, mkS_app]
    simp [joinL, joinR]
theorem txt_split_ne (x y : Str) : Txt.split x y ≠ [] := by
  unfold Txt.split
  split
  · simp
  · split
    · simp
    · intro e
      have := length_partsBetween x (Builtin.Str.occurrences x y 0 x.length (x.length + 1)) y.length
      rw [e] at this
      simp at this
def splL (c : Nat) (l : List Nat) : List (List Nat) := (Txt.split (mkS l) ⟨#[c]⟩).map fun s => s.cps.toList
theorem spl_mk (c : Nat) (l : List Nat) : Txt.split (mkS l) ⟨#[c]⟩ = (splL c l).map mkS := by
  unfold splL
  rw [List.map_map]
  have : (mkS ∘ fun s : Str => s.cps.toList) = (id : Str → Str) := by funext s; rfl
  rw [this, List.map_id]
theorem spl_free (c : Nat) (l : List Nat) : ∀ p ∈ splL c l, c ∉ p := fun p hp => by
  obtain ⟨s, hs, rfl⟩ := List.mem_map.mp hp
  exact StrLaws.split_free _ _ s hs
theorem spl_join (c : Nat) (l : List Nat) : joinL [c] (splL c l) = l := by
  have h := StrLaws.join_split (mkS l) ⟨#[c]⟩
  rw [spl_mk] at h
  have e : Str.join ⟨#[c]⟩ ((splL c l).map mkS) = mkS (joinL [c] (splL c l)) := str_joinS [c] _
  rw [e] at h
  exact mkS_inj h
/-- the parts are told by the whole, once there is some -/
theorem join_free (c : Nat) : ∀ a b : List (List Nat), (∀ p ∈ a, c ∉ p) → (∀ p ∈ b, c ∉ p) → a ≠ [] → b ≠ [] → joinL [c] a = joinL [c] b → a = b := by
  have cut : ∀ (x y r s : List Nat), c ∉ x → c ∉ y → x ++ r = y ++ s → (r = [] ∨ ∃ r', r = c :: r') → (s = [] ∨ ∃ s', s = c :: s') → x = y ∧ r = s := fun x => by
    induction x with
    | nil =>
      intro y r s _ hy e hr hs
      cases y with
      | nil => exact ⟨rfl, by simpa using e⟩
      | cons k y =>
        exfalso
        rcases hr with rfl | ⟨r', rfl⟩
        · simp at e
        · simp at e
          exact hy (by simp [e.1])
    | cons k x ih =>
      intro y r s hx hy e hr hs
      cases y with
      | nil =>
        exfalso
        rcases hs with rfl | ⟨s', rfl⟩
        · simp at e
        · simp at e
          exact hx (by simp [e.1])
      | cons k' y =>
        simp at e
        obtain ⟨rfl, e⟩ := e
        obtain ⟨rfl, rfl⟩ := ih y r s (fun h => hx (by simp [h])) (fun h => hy (by simp [h])) e hr hs
        exact ⟨rfl, rfl⟩
  have form : ∀ r : List (List Nat), joinR [c] r = [] ∨ ∃ r', joinR [c] r = c :: r' := fun r => by
    cases r with
    | nil => exact .inl rfl
    | cons y r => exact .inr ⟨y ++ joinR [c] r, rfl⟩
  have go : ∀ (r s : List (List Nat)), (∀ p ∈ r, c ∉ p) → (∀ p ∈ s, c ∉ p) → joinR [c] r = joinR [c] s → r = s := fun r => by
    induction r with
    | nil =>
      intro s _ _ e
      cases s with
      | nil => rfl
      | cons y s => simp [joinR] at e
    | cons x r ih =>
      intro s hr hs e
      cases s with
      | nil => simp [joinR] at e
      | cons y s =>
        simp [joinR] at e
        obtain ⟨e1, e2⟩ := cut x y _ _ (hr x (by simp)) (hs y (by simp)) e (form _) (form _)
        rw [e1, ih s (fun p hp => hr p (by simp [hp])) (fun p hp => hs p (by simp [hp])) e2]
  intro a b ha hb na nb e
  cases a with
  | nil => exact absurd rfl na
  | cons x a =>
    cases b with
    | nil => exact absurd rfl nb
    | cons y b =>
      simp [joinL] at e
      obtain ⟨e1, e2⟩ := cut x y _ _ (ha x (by simp)) (hb y (by simp)) e (form _) (form _)
      rw [e1, go a b (fun p hp => ha p (by simp [hp])) (fun p hp => hb p (by simp [hp])) e2]
theorem spl_ne (c : Nat) (l : List Nat) : splL c l ≠ [] := fun e => by
  have h := txt_split_ne (mkS l) ⟨#[c]⟩
  rw [spl_mk, e] at h
  exact h rfl
theorem spl_of (c : Nat) (a : List (List Nat)) (h : ∀ p ∈ a, c ∉ p) (n : a ≠ []) : splL c (joinL [c] a) = a :=
  join_free c _ _ (spl_free c _) h (spl_ne c _) n (spl_join c _)
theorem joinR_mem {sep : List Nat} : ∀ {r : List (List Nat)} {x : Nat}, x ∈ joinR sep r → x ∈ sep ∨ ∃ p ∈ r, x ∈ p
  | [], x, h => by cases h
  | y :: r, x, h => by
    simp only [joinR, List.mem_append] at h
    rcases h with (h | h) | h
    · exact .inl h
    · exact .inr ⟨y, by simp, h⟩
    · exact (joinR_mem h).imp id fun ⟨p, hp, hx⟩ => ⟨p, by simp [hp], hx⟩
theorem joinL_mem {sep : List Nat} {r : List (List Nat)} {x : Nat} (h : x ∈ joinL sep r) : x ∈ sep ∨ ∃ p ∈ r, x ∈ p := by
  cases r with
  | nil => cases h
  | cons y r =>
    simp only [joinL, List.mem_append] at h
    rcases h with h | h
    · exact .inr ⟨y, by simp, h⟩
    · exact (joinR_mem h).imp id fun ⟨p, hp, hx⟩ => ⟨p, by simp [hp], hx⟩
theorem mem_joinR {sep : List Nat} : ∀ {r : List (List Nat)} {p : List Nat} {x : Nat}, p ∈ r → x ∈ p → x ∈ joinR sep r
  | [], _, _, h, _ => by cases h
  | y :: r, p, x, h, hx => by
    simp only [joinR, List.mem_append]
    rcases List.mem_cons.mp h with rfl | h
    · exact .inl (.inr hx)
    · exact .inr (mem_joinR h hx)
theorem mem_joinL {sep : List Nat} {r : List (List Nat)} {p : List Nat} {x : Nat} (h : p ∈ r) (hx : x ∈ p) : x ∈ joinL sep r := by
  cases r with
  | nil => cases h
  | cons y r =>
    simp only [joinL, List.mem_append]
    rcases List.mem_cons.mp h with rfl | h
    · exact .inl hx
    · exact .inr (mem_joinR h hx)
theorem joinL_eqlen (c : Nat) {r : List (List Nat)} (h : r ≠ []) : (joinL [c] r).length + 1 = r.flatten.length + r.length := by
  cases r with
  | nil => exact absurd rfl h
  | cons x r => simp only [joinL, List.length_append, joinR_len, List.flatten_cons, List.length_cons, List.length_nil]; omega
theorem spl_len (c : Nat) (l : List Nat) : (splL c l).flatten.length + (splL c l).length = l.length + 1 := by
  have h := joinL_eqlen c (spl_ne c l)
  rw [spl_join] at h; omega
theorem spl_mem {c : Nat} {l p : List Nat} {x : Nat} (h : p ∈ splL c l) (hx : x ∈ p) : x ∈ l := by
  have := mem_joinL (sep := [c]) h hx
  rw [spl_join] at this; exact this
def opSplit : D → List D → (D → Prop) → Prop
  | .str l, [.str [c]], q => l.length ≤ 1000000 ∧ q (.seq .tmp ((splL c l).map D.str))
  | _, _, _ => False
@[simp] theorem o_split {l : List Nat} {c : Nat} {p : D → Prop} : opSplit (.str l) [.str [c]] p = (l.length ≤ 1000000 ∧ p (.seq .tmp ((splL c l).map D.str))) := rfl
theorem vm_split {K : PySem.W.Frag} : VM K (fun x xs H Q => ∃ a b, x = .str a ∧ xs = [.str b] ∧ (b.length == 0) = false ∧ a.length + 2 ≤ sizeLine ∧ rNewStrs (Txt.split a b) H Q) opSplit := fun H M x dx xs ds q Q dm rx hl hr w k => by
  match dx, ds, xs, hl, w with
  | .str l, [.str [c]], [y], _, w =>
    have hy := hr 0 y _ rfl rfl
    rw [rx.strE, hy.strE]
    refine ⟨mkS l, mkS [c], rfl, rfl, rfl, ?_, fun p np => ?_⟩
    · rw [mkS_len]
      have h1 : l.length ≤ 1000000 := w.1
      have h2 : 1000002 ≤ sizeLine := by decide
      omega
    · rw [show Txt.split (mkS l) (mkS [c]) = (splL c l).map mkS from spl_mk c l]
      exact k _ _ _ (res_lst np rs_strs) w.2
section
variable {X : Cx} {F : Df} {e o a b : Expr} {es : List Expr} {pos cpos apos npos p : Pos} {α β : WE} {τ : WA}
theorem r_split (hK : X.K = F.K) (ho : DE X F o α) (ha : DA X F [e] τ) (hbase : attributeBase o "split" X.env (eval o X.env) = eval o X.env := by rfl)
    (hfew : ((backTo cpos (starEach [e] X.env)).all (fun x => !x.1) && (backToKw cpos (keywordEach [] X.env)).all (fun x => x.1.isSome) && decide ([e].length + ([] : List Keyword).length + (if ([] : List Keyword).isEmpty then 0 else 1) < 30)) = true := by rfl)
    (hline : (apos.endLine == cpos.line) = true := by rfl) (hs : starEach [e] X.env = (false, eval e X.env) :: starEach [] X.env := by rfl) : DE X F (.Call (.Attribute o "split" apos) [e] [] cpos) (wMeth "str" opSplit α τ) :=
  de_meth PySem.F.plainAttrs_str PySem.F.slot_str_split PySem.F.type_str_split mt_split hK vm_split ho ha hbase hfew hline hs rfl
/-! ### text.replace of one written sign by any written text -/
def repL (c : Nat) (z l : List Nat) : List Nat := joinL z (splL c l)
def wReplT (c : Nat) (z : List Nat) (α : WE) : WE := fun ρ q => α ρ fun x ρ1 => ∃ l, x = .str l ∧ l.length ≤ 1000 ∧ z.length ≤ 1000 ∧ q (.str (repL c z l)) ρ1
theorem rep_len (c : Nat) (z l : List Nat) : (repL c z l).length ≤ l.length + (l.length + 1) * z.length := by
  have h1 := joinL_len z (splL c l)
  have h2 := spl_len c l
  have h3 : (splL c l).length * z.length ≤ (l.length + 1) * z.length := Nat.mul_le_mul_right _ (by omega)
  unfold repL
  have h4 : (splL c l).length ≠ 0 := fun e => spl_ne c l (List.eq_nil_of_length_eq_zero e)
  omega
theorem rep_mem {c : Nat} {z l : List Nat} {x : Nat} (h : x ∈ repL c z l) : x ∈ z ∨ x ∈ l :=
  (joinL_mem h).imp id fun ⟨p, hp, hx⟩ => spl_mem hp hx
theorem rep_mk (c : Nat) (z l : List Nat) : Txt.replace (mkS l) ⟨#[c]⟩ (mkS z) = mkS (repL c z l) := by
  rw [StrLaws.replace_one, spl_mk, str_joinS]; rfl
theorem de1_replT {c j k : Nat} {zl : List Nat} {y z : Str} {c0 c1 : Pos} (ho : DE X F o α) (hyz : (y == z) = false := by decide) (hy : y = ⟨#[c]⟩ := by rfl) (hz : z = mkS zl := by rfl)
    (hst : starEach [.Constant (.str y) j c0, .Constant (.str z) k c1] X.env = [(false, eval (.Constant (.str y) j c0) X.env), (false, eval (.Constant (.str z) k c1) X.env)] := by rfl)
    (hbase : attributeBase o "replace" X.env (eval o X.env) = eval o X.env := by rfl) (hline : (apos.endLine == cpos.line) = true := by rfl) :
    DE1 X F (.Call (.Attribute o "replace" apos) [.Constant (.str y) j c0, .Constant (.str z) k c1] [] cpos) (wReplT c zl α) := by
  refine ⟨fun bad σ ρ H q Q ok w kk pins s h0 I => CwR.pet_replC pe_run hyz hst hbase hline pins s σ H Q h0 I ?_⟩
  refine ho.go bad σ ρ H _ _ ok w fun v dv bad1 ρ1 H1 p1 w1 => ?_
  obtain ⟨l, rfl, hl, hl2, w1⟩ := w1
  have r := p1.va.read p1.st.ok
  rw [r.strE]
  subst hy; subst hz
  refine ⟨mkS l, rfl, ?_, ?_⟩
  · rw [mkS_len, mkS_len]
    have : (l.length + 1) * zl.length ≤ 1001 * 1000 := Nat.mul_le_mul (by omega) hl2
    omega
  rw [rep_mk]
  obtain ⟨bad2, p2⟩ := (res_str (repL c zl l)).po p1.st.ok
  exact kk _ _ bad2 ρ1 H1 (p1.st.po p2) w1
@[simp] theorem x_replT {c : Nat} {z : List Nat} {ρ : VEnv} {q : D → VEnv → Prop} : wReplT c z α ρ q = α ρ fun x ρ1 => ∃ l, x = .str l ∧ l.length ≤ 1000 ∧ z.length ≤ 1000 ∧ q (.str (repL c z l)) ρ1 := rfl
/-- a token is out behind 'text' + e, too -/
def runE2 (X : Cx) (e : Expr) : TE := fun σ H Q => ∀ (pins : List (Addr × Obj)) (s : Shared), Inv X pins σ H s → wpAny (model X.prog X.w) X.A (eval e X.env) (fun v s1 => 1 ≤ s1.toks ∧ EP X pins σ Q v s1) X.xe s
theorem run2_bin {x : Str} {op : Operator} {r : R2} {j : Nat} {σ : L2.St} {H : Hp} {Q : VK} (ho : OpR X (binaryOp op) r) (h : tOp r (tC (.str x)) (run X b) σ H Q) : runE2 X (.BinOp (.Constant (.str x) j p) op b pos) σ H Q := by
  intro pins s I
  refine wpAny_BinOp (Calls.Constant_str ?_)
  refine PySem.wpAny_with_toks (n := 1) (by show 1 ≤ s.toks + 1; omega) (wpAny_mono (h pins { s with toks := s.toks + 1 } (I.tok _)) (fun u s2 ⟨y, H2, I2, r2, q2⟩ hk => ?_) fun _ _ z _ => z)
  exact PySem.wpAny_with_toks (n := 1) hk (wpAny_mono (ho pins s2 σ H2 (.str x) y (.str x s.toks) u Q I2 ⟨s.toks, rfl⟩ r2 q2) (fun v s3 q hk' => ⟨hk', q⟩) fun _ _ z _ => z)
theorem rde_bin {x : Str} {l : List Nat} {r : R2} {f : D → D → (D → Prop) → Prop} (hv : V2 F.K r f) (hb : DE X F b β) : RdE F (tOp r (tC (.str (mkS l))) (run X b)) (wBin f (wC (.str l)) β) := by
  refine fun bad σ ρ H q Q o w k => ?_
  refine hb.go bad σ ρ H _ _ o w fun y dy bad2 ρ2 H2 p2 w2 => ?_
  obtain ⟨_, w2⟩ := w2
  refine hv H2 (Mm bad2 σ ρ2) (.str (mkS l)) (.str l) y dy _ Q (fun b m => p2.st.ok.mdom m) (.inl ⟨rfl, .str l⟩) (p2.va.read p2.st.ok) w2 fun v d H3 res qd => ?_
  obtain ⟨bad3, p3⟩ := res.po p2.st.ok
  exact k v d bad3 ρ2 H3 (p2.st.po p3) qd
theorem da_sb {x : Str} {l : List Nat} {j : Nat} {op : Operator} {f : D → D → (D → Prop) → Prop} (h : BiR X F op f) (hb : DE X F b β) (hr : DA1 X F es τ) (hx : x = mkS l := by rfl)
    (hs : starEach (.BinOp (.Constant (.str x) j p) op b pos :: es) X.env = (false, eval (.BinOp (.Constant (.str x) j p) op b pos) X.env) :: starEach es X.env := by rfl) :
    DA X F (.BinOp (.Constant (.str x) j p) op b pos :: es) (wAE (wBin f (wC (.str l)) β) τ) := by
  subst hx
  obtain ⟨r, h1, h2⟩ := h
  refine ⟨fun bad σ ρ H q Q o w k pos' pins s I => ?_⟩
  have z := rd_g (rde_bin (x := mkS l) (l := l) h2 hb) hr.go bad σ ρ H q Q o w k
  rw [hs]
  show wpAny _ _ (spliced ((false, eval _ X.env) :: backTo pos' (starEach es X.env))) _ _ s
  refine Calls.spliced_cons (wpAny_mono (run2_bin h1 z pins s I) (fun v s1 ⟨hk, x, H1, I1, r1, q1⟩ => ?_) fun _ _ z => z)
  exact thn (q1 pos' pins s1 hk I1) fun us s2 ⟨xs, H2, I2, r2, q2⟩ => ⟨x :: xs, H2, I2, .cons r1 r2, q2⟩
/-! ### d.update(another dict) -/
theorem mt_dupd : MtR X "dict.update" (fun x xs H Q => ∃ a b kvs more, x = .ref a ∧ xs = [.ref b] ∧ a ≠ b ∧ H a = some (.dK kvs) ∧ Rd H b (.dK more) ∧ kvs.length + more.length ≤ sizeLine ∧ Q .non (upd H a (.dK (mergeK kvs more)))) := by
  intro pins s σ H x xs v us Q I rx rs h
  obtain ⟨a, b, kvs, more, rfl, rfl, hab, ha, hb, hz, h⟩ := h
  obtain rfl : v = Value.ref a := rx
  cases rs with
  | cons r1 rs =>
    cases rs
    obtain rfl := (show _ = Value.ref b from r1)
    obtain ⟨z, hd, vs, rel, dd⟩ := dk_of I.hok ha
    obtain ⟨z2, hd2, vs2, rel2, dd2⟩ := dk_rd I.hok hb
    refine call_meetsIn PySem.F.slot_dict_update dd.typeIs PySem.F.entry_dict_update (PySem.F.args_dict_update_2 _ _) (PySem.meets_dict_update (mixKind X.prog X.w) a b hab hd2)
      ⟨vs, vs2, dd, dd2, by rw [← rel.length, ← rel2.length]; exact hz, fun h' dd' _ hs => ?_⟩
    have he : ∃ q, h'.get? a = some q := let ⟨q, _, _, hq, _⟩ := dd'; ⟨q, hq⟩
    have hl : (mergeK kvs more).length ≤ sizeLine := Nat.le_trans (length_mergeK more kvs) hz
    exact ⟨.non, _, d_write (t' := s.toks) I (by rw [ha]; exact True.intro) hs he (dk_new hl hd (rel2.merge rel) dd'), rfl, h⟩
def dmerge (kds more : List (DKey × D)) : List (DKey × D) := more.foldl (fun acc p => dput acc p.1 p.2) kds
theorem rk_merge {K : PySem.W.Frag} {H : Hp} {M : Addr → Prop} : ∀ {more : List (Key × V)} {mds : List (DKey × D)} {kvs : List (Key × V)} {kds : List (DKey × D)}, Rk K H M more mds → Rk K H M kvs kds → Rk K H M (mergeK kvs more) (dmerge kds mds)
  | [], [], kvs, kds, _, r => r
  | (a, v) :: more, (b, d) :: mds, kvs, kds, r, r2 => by
    obtain ⟨rfl, r1, r3⟩ := r.uncons
    exact rk_merge (more := more) (mds := mds) r3 (rk_put r1 r2)
  | [], _ :: _, _, _, r, _ => by have := r.length; cases this
  | _ :: _, [], _, _, r, _ => by have := r.length; cases this
def opDUpd : D → List D → (D → D → Prop) → Prop
  | .map k kds, [.map _ mds], q => kds.length + mds.length ≤ sizeLine ∧ q (.map k (dmerge kds mds)) .non
  | _, _, _ => False
@[simp] theorem o_dupd {k k2 : Kd} {kds mds : List (DKey × D)} {q : D → D → Prop} : opDUpd (.map k kds) [.map k2 mds] q = (kds.length + mds.length ≤ sizeLine ∧ q (.map k (dmerge kds mds)) .non) := rfl
theorem vu_dupd {K : PySem.W.Frag} : VU K (fun x xs H Q => ∃ a b kvs more, x = .ref a ∧ xs = [.ref b] ∧ a ≠ b ∧ H a = some (.dK kvs) ∧ Rd H b (.dK more) ∧ kvs.length + more.length ≤ sizeLine ∧ Q .non (upd H a (.dK (mergeK kvs more)))) opDUpd := fun H M a d xs ds q Q dm rc ha rs w k => by
  match d, ds, xs, rs, rc, w with
  | .map k1 kds, [.map k2 mds], [y], rs, rc, w =>
    obtain ⟨kvs, e, rk⟩ := rc
    have ry := rs.uncons.1
    cases ry with
    | map h hk hl hi =>
      rename_i b more
      have hab : a ≠ b := fun z => h.2 (z ▸ ha)
      have rk2 : Rk K H M more mds := ⟨hk, by simpa using hl, hi⟩
      have ff : ∀ c x, H c = some x → ¬ M c → upd H a (.dK (mergeK kvs more)) c = some x := fun c x h n => by
        rw [upd_ne (fun z => n (by subst z; exact ha))]; exact h
      refine ⟨a, b, kvs, more, rfl, rfl, hab, e, .inl h.1, by rw [rk.length, rk2.length]; exact w.1, ?_⟩
      have rm := rk_merge rk2 rk
      exact k .non .non (.map k1 (dmerge kds mds)) (.dK (mergeK kvs more)) ff .non ⟨_, upd_same, rm.1, rm.2.mono ff fun b m => .inl m⟩ w.2
theorem r_dupd (i : Nat) {x : Str} (hK : X.K = F.K) (ha : DA X F (e :: es) τ) (hN : X.N[i]? = some x := by rfl) (hvis : Vis X.env.scope x := by first | exact Or.inl rfl | exact Or.inr (Or.inl rfl) | exact Or.inr (Or.inr rfl)) (hd : (x == ("__debug__" : Str)) = false := by decide) (hcd : (x == ("__classdict__" : Str)) = false := by decide)
    (hbase : attributeBase (.Name x npos) "update" X.env (eval (.Name x npos) X.env) = eval (.Name x npos) X.env := by rfl)
    (hfew : ((backTo cpos (starEach (e :: es) X.env)).all (fun x => !x.1) && (backToKw cpos (keywordEach [] X.env)).all (fun x => x.1.isSome)
      && decide ((e :: es).length + ([] : List Keyword).length + (if ([] : List Keyword).isEmpty then 0 else 1) < 30)) = true := by rfl)
    (hline : (apos.endLine == cpos.line) = true := by rfl) (hs : starEach (e :: es) X.env = (false, eval e X.env) :: starEach es X.env := by rfl) (hplain : (backTo cpos (starEach es X.env)).any (·.1) = false := by rfl) :
    DE X F (.Call (.Attribute (.Name x npos) "update" apos) (e :: es) [] cpos) (wMut "dict" i opDUpd τ) :=
  de_mut PySem.F.plainAttrs_dict PySem.F.slot_dict_update PySem.F.type_dict_update mt_dupd hK vu_dupd hN hvis ha hd hcd hbase hfew hline hs hplain
end
end VL

namespace VL
open PySem PySem.Spec PyProof.Rows L2
/-! ### xs.count(i), a list of ints -/
def opLCount : D → List D → (D → Prop) → Prop
  | .seq _ xs, [.int i], q => ∃ ns, intsOf xs = some ns ∧ q (.int (ns.count i : Nat))
  | _, _, _ => False
@[simp] theorem o_lcount {k : Kd} {xs : List D} {i : Int} {p : D → Prop} : opLCount (.seq k xs) [.int i] p = ∃ ns, intsOf xs = some ns ∧ p (.int (ns.count i : Nat)) := rfl
theorem vm_lcount {K : PySem.W.Frag} : VM K (rCntI K) opLCount := fun H M x dx xs ds q Q dm rx hl hr w k => by
  match dx, ds, xs, hl, w with
  | .seq kd ys, [.int i], [y], _, ⟨ns, e, w⟩ =>
    obtain ⟨a, vs, rfl, t, rs, _⟩ := rx.seqE
    rw [intsOf_eq e] at rs
    rw [(hr 0 y _ rfl rfl).intE]
    have ev := rs.ints
    subst ev
    exact ⟨a, ns, i, rfl, rfl, t, k _ _ H (res_int _) w⟩
/-! ### list(d.items()) -/
def dkD : DKey → D
  | .inl i => .int i
  | .inr l => .str l
theorem r_dk {K : PySem.W.Frag} {H : Hp} {M : Addr → Prop} (k : DKey) : R K H M (kV (kmap k)) (dkD k) := by
  cases k with
  | inl i => exact .int i
  | inr l => exact .str l
def opListItems : D → (D → Prop) → Prop
  | .map _ kds, q => q (.seq .tmp (kds.map fun p => .tup [dkD p.1, p.2]))
  | _, _ => False
@[simp] theorem o_listItems {k : Kd} {kds : List (DKey × D)} {p : D → Prop} : opListItems (.map k kds) p = p (.seq .tmp (kds.map fun p => .tup [dkD p.1, p.2])) := rfl
theorem rs_items {K : PySem.W.Frag} {H H' : Hp} {M : Addr → Prop} {a : Addr} (dm : ∀ b, M b → H b ≠ none) (same : ∀ b o, H b = some o → H' b = some o) (na : H a = none) : ∀ {ts : List Addr} {kvs : List (Key × V)} {kds : List (DKey × D)}, (∀ t ∈ ts, H t = none) → a ∉ ts → Paired (fun (t : Addr) (q : Key × V) => H' t = some (.tup [kV q.1, q.2])) ts kvs → Rk K H M kvs kds → Rs K H' (fun b => M b ∨ b = a) (ts.map V.ref) (kds.map fun p => .tup [dkD p.1, p.2])
  | [], [], [], _, _, _, _ => Rs.nil
  | t :: ts, (k0, v) :: kvs, (b, d) :: kds, hn, ha, .cons h hp, r => by
    obtain ⟨rfl, r1, r2⟩ := r.uncons
    have nt := hn t (by simp)
    have nM : ¬ (M t ∨ t = a) := fun z => z.elim (fun m => dm t m nt) fun e => ha (by simp [e])
    have rv : R K H' (fun b => M b ∨ b = a) v d := r1.mono (fun b x e _ => same b x e) fun b m => m.imp id fun e => by subst e; exact na
    have rt : Rs K H' (fun b => M b ∨ b = a) [kV (kmap b), v] [dkD b, d] := .cons (r_dk b) (.cons rv .nil)
    exact .cons (.tup (.inl ⟨h, nM⟩) rt.1 rt.2) (rs_items dm same na (fun t' h' => hn t' (by simp [h'])) (fun z => ha (by simp [z])) hp r2)
  | [], [], _ :: _, _, _, _, r => by have := r.length; cases this
  | [], _ :: _, _, _, _, h, _ => by cases h
  | _ :: _, [], _, _, _, h, _ => by cases h
  | _ :: _, _ :: _, [], _, _, _, r => by have := r.length; cases this
theorem v1_listItems {K : PySem.W.Frag} : V1 K LiI.rItemsL opListItems := fun H M x dx q Q dm rx w k => by
  match dx, rx, w with
  | .map kd kds, rx, w =>
    obtain ⟨a, kvs, rfl, e, rk⟩ := rx.mapE
    refine ⟨a, kvs, rfl, e, fun H' p ts same np nt pts hp pr => ?_⟩
    exact k (.ref p) (.seq .tmp (kds.map fun (z : DKey × VL.D) => VL.D.tup [dkD z.1, z.2])) H' ⟨same, .inr ⟨rfl, p, rfl, np, _, hp, rs_items dm same np nt pts pr rk⟩⟩ w
/-! ### dict(a list of pairs) -/
def opDictP : D → (D → Prop) → Prop
  | .seq _ ds, q => ∃ kds : List (DKey × D), ds = kds.map (fun p => .tup [dkD p.1, p.2]) ∧ q (.map .tmp (dmerge [] kds))
  | _, _ => False
@[simp] theorem o_dictP {k : Kd} {ds : List D} {p : D → Prop} : opDictP (.seq k ds) p = ∃ kds : List (DKey × D), ds = kds.map (fun p => .tup [dkD p.1, p.2]) ∧ p (.map .tmp (dmerge [] kds)) := rfl
theorem rd_dk {K : PySem.W.Frag} {H : Hp} {M : Addr → Prop} {v : V} {k : DKey} (r : R K H M v (dkD k)) : v = kV (kmap k) := by
  cases k with
  | inl i => exact r.intI
  | inr l => exact r.strI
theorem pairs_of_rs {K : PySem.W.Frag} {H : Hp} {M : Addr → Prop} : ∀ {vs : List V} {kds : List (DKey × D)}, Rs K H M vs (kds.map fun p => .tup [dkD p.1, p.2]) → ∃ (ps : List Addr) (kvs : List (Key × V)), vs = ps.map V.ref ∧ Paired (fun p kv => SqT K H p [kV kv.1, kv.2]) ps kvs ∧ Rk K H M kvs kds
  | [], [], _ => ⟨[], [], rfl, .nil, rfl, Rs.nil⟩
  | v :: vs, (k, d) :: kds, r => by
    rw [List.map_cons] at r
    obtain ⟨r1, r2⟩ := r.uncons
    obtain ⟨ps, kvs, e, pr, rk⟩ := pairs_of_rs r2
    obtain ⟨a, ws, ev, hq, rw2⟩ := r1.tupI
    match ws, rw2 with
    | [x, y], rw2 =>
      obtain ⟨q1, q2⟩ := rw2.uncons
      obtain ⟨q2, _⟩ := q2.uncons
      have ex := rd_dk q1
      subst ex
      exact ⟨a :: ps, (kmap k, y) :: kvs, by rw [ev, e]; rfl, .cons hq pr, rk.consI q2⟩
    | [], rw2 => have := rw2.1; cases this
    | [_], rw2 => have := rw2.1; cases this
    | _ :: _ :: _ :: _, rw2 => have := rw2.1; simp at this
  | [], _ :: _, r => by have := r.1; cases this
  | _ :: _, [], r => by have := r.1; cases this
theorem v1_dictP {K : PySem.W.Frag} : V1 K (fun x H Q => ∃ (a : Addr) (ps : List Addr) (kvs : List (Key × V)), [x] = [V.ref a] ∧ SqL K H a (ps.map V.ref) ∧ Paired (fun p kv => SqT K H p [kV kv.1, kv.2]) ps kvs ∧
    ∀ p, H p = none → Q (.ref p) (upd H p (.dK (mergeK [] kvs)))) opDictP := fun H M x dx q Q dm rx w k => by
  match dx, rx, w with
  | .seq kd ds, rx, ⟨kds, e, w⟩ =>
    obtain ⟨a, vs, rfl, t, rs, _⟩ := rx.seqE
    subst e
    obtain ⟨ps, kvs, rfl, pr, rk⟩ := pairs_of_rs rs
    exact ⟨a, ps, kvs, rfl, t, pr, fun p np => k _ _ _ (res_map np (rk_merge rk ⟨rfl, Rs.nil⟩)) w⟩
section
variable {X : Cx} {F : Df} {a e o : Expr} {pos p cpos apos : Pos} {α : WE} {τ : WA}
theorem r_lcount (hK : X.K = F.K) (ho : DE X F o α) (ha : DA X F [e] τ) (hbase : attributeBase o "count" X.env (eval o X.env) = eval o X.env := by rfl)
    (hfew : ((backTo cpos (starEach [e] X.env)).all (fun x => !x.1) && (backToKw cpos (keywordEach [] X.env)).all (fun x => x.1.isSome) && decide ([e].length + ([] : List Keyword).length + (if ([] : List Keyword).isEmpty then 0 else 1) < 30)) = true := by rfl)
    (hline : (apos.endLine == cpos.line) = true := by rfl) (hs : starEach [e] X.env = (false, eval e X.env) :: starEach [] X.env := by rfl) : DE X F (.Call (.Attribute o "count" apos) [e] [] cpos) (wMeth "list" opLCount α τ) :=
  de_meth PySem.F.plainAttrs_list PySem.F.slot_list_count PySem.F.type_list_count mt_lcount hK (by rw [hK]; exact vm_lcount) ho ha hbase hfew hline hs rfl
theorem r_listItems (hc : X.calm = true) (hm : X.mg "list" = none) (hg : Gl X "list") (ho : DE X F o α) (hbase : attributeBase o "items" X.env (eval o X.env) = eval o X.env := by rfl) (hline : (apos.endLine == cpos.line) = true := by rfl)
    (hs : starEach [.Call (.Attribute o "items" apos) [] [] cpos] X.env = (false, eval (.Call (.Attribute o "items" apos) [] [] cpos) X.env) :: starEach [] X.env := by rfl) : DE X F (.Call (.Name "list" p) [.Call (.Attribute o "items" apos) [] [] cpos] [] pos) (wUn opListItems α) :=
  de_un (LiI.pe_listItems hc pe_run hg hm (by rfl) hbase hline hs) v1_listItems ho
theorem r_dictP (hc : X.calm = true) (hK : X.K = F.K) (hm : X.mg "dict" = none) (hg : Gl X "dict") (ha : DA X F [a] τ) (hb : bootBuiltins "dict" = some (.type "dict") := by decide +kernel) (he : starEach [a] X.env = (false, eval a X.env) :: starEach [] X.env := by rfl) : DE X F (.Call (.Name "dict" p) [a] [] pos) (wCallN (f1 opDictP) τ) := de_callTy (call_dictP hc) (by rw [hK]; exact vn1 v1_dictP) hg hm hb ha (by decide) (by decide) he rfl
end
end VL

namespace VL
open PySem PySem.Spec PyProof.Rows L2
/-! ### tuples whose object is known: displays, len, sorted, isinstance, index -/
section
variable {X : Cx} {F : Df} {a e o : Expr} {es : List Expr} {pos p p2 cpos apos : Pos} {α : WE} {τ : WA} {t : TA}
def tTupN (t : TA) : TE := fun σ H Q => t σ H fun xs H1 => xs.length ≤ sizeLine ∧ ∀ (l : Addr) (o : Obj), H1 l = none → o.cls = .type "tuple" → o.dict = none → Q (.ref l) (upd H1 l (.frz o (.tup xs)))
theorem pe_tupN {x1} (h : PA X es t) : PE X (.Tuple es x1 pos) (tTupN t) := by
  refine ⟨fun pins s σ H Q I hq => ?_⟩
  refine wpAny_Tuple_spliced (thn (h.run pos pins s σ H _ I hq) fun us s1 ⟨xs, H1, I1, r, z, q⟩ => ⟨by rw [← r.length]; exact z, ?_⟩)
  have hf : H1 s1.heap.objs.size = none := I1.hok.fresh (Nat.le_refl _)
  refine ⟨.ref s1.heap.objs.size, upd H1 s1.heap.objs.size (.frz _ (.tup xs)), I1.laid (t' := s1.toks) (fun b u e => Heap.get?_push_of_some _ e) (Nat.le_refl _) (show ObjOk X.prog X.w _ _ _ (.frz _ (.tup xs)) from ⟨Heap.get?_push_size _ rfl, z, us, r, ⟨_, Heap.get?_push_size _ rfl, rfl, _, rfl⟩⟩), rfl, q _ _ hf rfl rfl⟩
def wTupN (τ : WA) : WE := fun ρ q => τ ρ fun as ρ1 => ∃ ds, argsD ρ1 as = some ds ∧ (∀ d ∈ ds, d.brw = false) ∧ ds.length ≤ sizeLine ∧ q (.tupN (ds.map (·.to .froz))) ρ1
@[simp] theorem x_tupN {ρ : VEnv} {q : D → VEnv → Prop} : wTupN τ ρ q = τ ρ fun as ρ1 => ∃ ds, argsD ρ1 as = some ds ∧ (∀ d ∈ ds, d.brw = false) ∧ ds.length ≤ sizeLine ∧ q (.tupN (ds.map (·.to .froz))) ρ1 := rfl
theorem de_tupN {k} (ha : DA X F es τ) : DE X F (.Tuple es k pos) (wTupN τ) := by
  refine ⟨fun bad σ ρ H q Q o w k => (pe_tupN pa_run).to (ha.go bad σ ρ H _ _ o w fun vs as bad1 ρ1 H1 p1 w1 => ?_)⟩
  obtain ⟨ds, ed, hb, hz, w1⟩ := w1
  have r := p1.froz o ed (List.all_eq_true.mpr fun d hd => by simp [hb d hd])
  refine ⟨by rw [r.1, List.length_map]; exact hz, fun p ob np h1 h2 => ?_⟩
  obtain ⟨bad2, p2⟩ := (res_tupN (H := H1) (a := p) (fun b m => (p1.st.back).ok.mdom m) np ⟨h1, h2⟩ r).po p1.st.back.ok
  exact k _ _ bad2 ρ1 _ (p1.st.back.po p2) w1
/-! len -/
def opLenN : D → (D → Prop) → Prop
  | .tupN ds, q => q (.int ds.length)
  | _, _ => False
@[simp] theorem o_lenN {ds : List D} {p : D → Prop} : opLenN (.tupN ds) p = p (.int ds.length) := rfl
theorem TupN.sq {K : PySem.W.Frag} {H : Hp} {v : V} {vs : List V} (t : TupN H v vs) : ∃ a, v = .ref a ∧ SqT K H a vs := by
  obtain ⟨a, o, rfl, e, _⟩ := t
  exact ⟨a, rfl, .inl (.inr ⟨o, e⟩)⟩
theorem v1_lenN {K : PySem.W.Frag} : V1 K (fun x H Q => (∃ z n, [x] = [z] ∧ LenV K z H n ∧ Q (.int n) H) ∨ ∃ a kvs, [x] = [V.ref a] ∧ H a = some (.dK kvs) ∧ Q (.int kvs.length) H) opLenN := fun H M x dx q Q dm rx w k => by
  match dx, rx, w with
  | .tupN ds, rx, w =>
    obtain ⟨vs, tn, rs⟩ := rval_tupN rx
    obtain ⟨a, rfl, t⟩ := tn.sq (K := K)
    exact .inl ⟨_, vs.length, rfl, .inr ⟨vs, t, rfl⟩, by rw [rs.1]; exact k _ _ H (res_int _) w⟩
theorem r_lenN (hK : X.K = F.K) (hm : X.mg "len" = none) (hg : Gl X "len") (ha : DA X F [a] τ) (he : starEach [a] X.env = (false, eval a X.env) :: starEach [] X.env := by rfl) : DE X F (.Call (.Name "len" p) [a] [] pos) (wCallN (f1 opLenN) τ) := de_callB call_lenA (by rw [hK]; exact vn1 v1_lenN) hg hm b_len ha (by decide) (by decide) he rfl
/-! sorted, of ints -/
def rSortedTI (K : PySem.W.Frag) : List V → Hp → VK → Prop := fun vs H Q => ∃ (a : Addr) (ns : List Int), vs = [V.ref a] ∧ SqT K H a (ns.map V.int) ∧
  ∀ (ns' : List Int) (p : Addr), ns'.Perm ns → ns'.Pairwise (· ≤ ·) → H p = none → Q (.ref p) (upd H p (.lst (ns'.map V.int)))
theorem cr_sortedTI : CallR X (.builtin "sorted") (rSortedTI X.K) := by
  intro pins s σ H vs us Q I r h
  obtain ⟨a, ns, rfl, hs, q⟩ := h
  obtain ⟨its, rv, hl, hz⟩ := I.tuple hs
  rw [Vals.ref1 r]
  have hi := rv.ints
  have hln := rv.length
  have hsz : its.length ≤ sizeLine := by rw [← hln]; exact hz
  obtain ⟨o, ho, hc, n, hd⟩ := hl
  refine Calls.call_function_entry PyProof.Rows.kind_sorted PyProof.Rows.plain_sorted PyProof.Rows.entry_sorted (PyProof.Rows.args_sorted1 _) ?_
  unfold Builtin.«sorted»
  refine wpAny_bind (m := checkCount "sorted" 1 1 _) (wpAny_pure ?_)
  refine wpAny_bind (wpAny_collect_seq (A := X.A.in1) a (.inr rfl) ho hc hd (fun h' hk => ?_) (by simpa using hsz))
  show wpAny _ _ _ _ _ { s with heap := h' }
  refine wpAny_bind (wpAny_newList ?_ hsz)
  have hoL : (h'.push (seqObj "list" its.toArray 0)).get? h'.objs.size = some (seqObj "list" its.toArray 0) := Heap.get?_push_size _ rfl
  show wpAny _ _ _ _ _ { s with heap := h'.push (seqObj "list" its.toArray 0) }
  refine wpAny_bind (wpAny_holding (wpAny_call_entry PyProof.Rows.slot_list_sort ⟨_, hoL, rfl⟩ PyProof.Rows.entry_list_sort
    (SrtO.list_sort_ord SrtO.swo_int hoL hsz (fun h2 => SrtO.ints_sortable hi h2) fun out h1 h2 => ⟨_, rfl, ?_⟩) (PyProof.Rows.args_list_sort _)))
  obtain ⟨k1, k2, k3⟩ := SrtO.ints_out hi h1 h2
  obtain ⟨e', he'⟩ := PyProof.Rows.sortedHeap_at (vs := its) (out := out.toArray) hoL
  have hlen : ((out.map SrtO.iv).map V.int).length ≤ sizeLine := by
    rw [List.length_map, k2.length_eq]
    rw [List.length_map] at hz
    exact hz
  have I1 : Inv X pins σ H { s with heap := h' } := I.kept (t' := s.toks) hk
  refine wpAny_pure ⟨_, rfl, .ref h'.objs.size, upd H h'.objs.size (.lst ((out.map SrtO.iv).map V.int)), I1.laid (t' := s.toks) (fun b u e => ?_) (Nat.le_refl _)
    (show ObjOk X.prog X.w _ _ _ (.lst _) from ⟨hlen, out, e', vals_of_ints k1, he'⟩), rfl, q _ _ k2 k3 (I1.hok.fresh (Nat.le_refl _))⟩
  have hb : b < h'.objs.size := Heap.lt_size e
  rw [PyProof.Rows.sortedHeap_old (Nat.ne_of_lt hb) (by rw [size_push']; exact Nat.lt_succ_of_lt hb)]
  exact Heap.get?_push_of_some _ e
def opSortedN : D → (D → Prop) → Prop
  | .tupN ds, q => ∃ ns, intsOf ds = some ns ∧ ∀ ns' : List Int, ns'.Perm ns → ns'.Pairwise (· ≤ ·) → q (.seq .tmp (ns'.map D.int))
  | _, _ => False
@[simp] theorem o_sortedN {ds : List D} {q : D → Prop} : opSortedN (.tupN ds) q = ∃ ns, intsOf ds = some ns ∧ ∀ ns' : List Int, ns'.Perm ns → ns'.Pairwise (· ≤ ·) → q (.seq .tmp (ns'.map D.int)) := rfl
theorem v1_sortedN {K : PySem.W.Frag} : V1 K (fun x H Q => rSortedTI K [x] H Q) opSortedN := fun H M x dx q Q dm rx w k => by
  match dx, rx, w with
  | .tupN ds, rx, ⟨ns, e, w⟩ =>
    obtain ⟨vs, tn, rs⟩ := rval_tupN rx
    obtain ⟨a, rfl, t⟩ := tn.sq (K := K)
    rw [intsOf_eq e] at rs
    exact ⟨a, ns, rfl, by rw [← rs.ints]; exact t, fun ns' p h1 h2 np => k _ _ _ (res_lst np rs_ints) (w ns' h1 h2)⟩
theorem r_sortedN (hK : X.K = F.K) (hm : X.mg "sorted" = none) (hg : Gl X "sorted") (ha : DA X F [a] τ) (he : starEach [a] X.env = (false, eval a X.env) :: starEach [] X.env := by rfl) : DE X F (.Call (.Name "sorted" p) [a] [] pos) (wCallN (f1 opSortedN) τ) := de_callB cr_sortedTI (by rw [hK]; exact vn1 v1_sortedN) hg hm b_sorted ha (by decide) (by decide) he rfl
/-! isinstance -/
def wIsiN (T : TyT) (α : WE) : WE := fun ρ q => α ρ fun x ρ1 => (∃ ds, x = .tupN ds) ∧ q (.bl (decide (T.name = "tuple"))) ρ1
@[simp] theorem x_isiN {T : TyT} {ρ : VEnv} {q : D → VEnv → Prop} : wIsiN T α ρ q = α ρ fun x ρ1 => (∃ ds, x = .tupN ds) ∧ q (.bl (decide (T.name = "tuple"))) ρ1 := rfl
theorem de_isiN (T : TyT) (hK : X.K = F.K) (hg : Gl X "isinstance") (hm : X.mg "isinstance" = none) (hg2 : Gl X T.name) (hm2 : X.mg T.name = none) (ha : DE X F a α) (hb : bootBuiltins (T.name : Str) = some (.type T.name) := by decide +kernel) (hn : (T.name : Str) ≠ "__name__" := by decide) (hd : ((T.name : Str) == ("__debug__" : Str)) = false := by decide)
    (hv : bootBuiltins "isinstance" = some (.builtin "isinstance") := by decide +kernel)
    (he : starEach (a :: [.Name T.name p2]) X.env = (false, eval a X.env) :: starEach [.Name T.name p2] X.env := by rfl) (hs2 : starEach (.Name T.name p2 :: []) X.env = (false, eval (.Name T.name p2) X.env) :: starEach [] X.env := by rfl) (hpl : (backTo pos (starEach [.Name T.name p2] X.env)).any (·.1) = false := by rfl) :
    DE X F (.Call (.Name "isinstance" p) [a, .Name T.name p2] [] pos) (wIsiN T α) := by
  refine ⟨fun bad σ ρ H q Q o w k => (pe_callB call_isi hg hm hv (pa_cons pe_run (pa_cons (pe_bltn (v := .ty T.name) hg2 hm2 hb rfl hn hd) pa_nil hs2) he) (by decide) (by decide) he hpl).to (ha.go bad σ ρ H _ _ o w fun v d bad1 ρ1 H1 p1 w1 => ?_)⟩
  obtain ⟨⟨ds, rfl⟩, w1⟩ := w1
  obtain ⟨vs, ⟨a1, ob, rfl, e1, _⟩, _⟩ := rval_tupN (p1.va.read p1.st.ok)
  have kb : kitB "tuple" T.name = some (decide (T.name = "tuple")) := by cases T <;> first | rfl | decide +kernel
  exact ⟨_, .ty T.name, .type "tuple", .type T.name, decide (T.name = "tuple"), rfl, .ty _, .fTuple e1, kit_ty kb, k _ _ bad1 ρ1 H1 (p1.st.po (.imm p1.st.ok rfl (.bl _))) w1⟩
/-! index, of ints -/
theorem mt_indexT : MtR X "tuple.index" (fun x xs H Q => ∃ (ns : List Int) (i : Int), TupN H x (ns.map V.int) ∧ xs = [.int i] ∧ i ∈ ns ∧ Q (.int (ns.idxOf i : Nat)) H) := by
  intro pins s σ H x xs v us Q I r rs h
  obtain ⟨ns, i, ⟨p, o, rfl, e, hc, hd⟩, rfl, hm, q⟩ := h
  obtain rfl : v = .ref p := r
  obtain ⟨u, rfl, ru⟩ := Vals.one rs
  obtain ⟨t, rfl⟩ := ru
  have g := I.hok p _ e
  obtain ⟨g1, hz, its, rv, ht⟩ := g
  exact PySem.SeqAt.tuple_index_ints (vs := its) ht rv.ints hm ⟨.int _, H, I.tok _, ⟨_, rfl⟩, q⟩
def wIndexT (α : WE) (τ : WA) : WE := fun ρ q => α ρ fun x ρ1 => ∃ ns : List Int, x = .tupN (ns.map D.int) ∧ τ ρ1 fun as ρ2 => ∃ i : Int, argsD ρ2 as = some [.int i] ∧ i ∈ ns ∧ q (.int (ns.idxOf i : Nat)) ρ2
@[simp] theorem x_indexT {ρ : VEnv} {q : D → VEnv → Prop} : wIndexT α τ ρ q = α ρ fun x ρ1 => ∃ ns : List Int, x = .tupN (ns.map D.int) ∧ τ ρ1 fun as ρ2 => ∃ i : Int, argsD ρ2 as = some [.int i] ∧ i ∈ ns ∧ q (.int (ns.idxOf i : Nat)) ρ2 := rfl
theorem de_indexT (ho : DE X F o α) (ha : DA X F [e] τ)
    (hbase : attributeBase o "index" X.env (eval o X.env) = eval o X.env := by rfl)
    (hfew : ((backTo cpos (starEach [e] X.env)).all (fun x => !x.1) && (backToKw cpos (keywordEach [] X.env)).all (fun x => x.1.isSome)
      && decide ([e].length + ([] : List Keyword).length + (if ([] : List Keyword).isEmpty then 0 else 1) < 30)) = true := by rfl)
    (hline : (apos.endLine == cpos.line) = true := by rfl) (hs : starEach [e] X.env = (false, eval e X.env) :: starEach [] X.env := by rfl) (hplain : (backTo cpos (starEach [] X.env)).any (·.1) = false := by rfl) :
    DE X F (.Call (.Attribute o "index" apos) [e] [] cpos) (wIndexT α τ) := by
  refine ⟨fun bad σ ρ H q Q o1 w k => (pe_bmT (name := "index") (id := "tuple.index") PySem.F.slot_tuple_index PySem.F.type_tuple_index mt_indexT pe_run pa_run hbase hfew hline hs hplain).to (ho.go bad σ ρ H _ _ o1 w fun x dx bad1 ρ1 H1 p1 w1 => ?_)⟩
  obtain ⟨ns, rfl, w1⟩ := w1
  have rx := p1.va.read p1.st.ok
  obtain ⟨vs, tn, rs⟩ := rval_tupN rx
  refine ⟨⟨vs, tn⟩, ha.go bad1 σ ρ1 H1 _ _ p1.st.ok w1 fun us as bad2 ρ2 H2 p2 w2 => ?_⟩
  obtain ⟨i, ed, hm, w2⟩ := w2
  have va2 := p1.va.keep p1.st.ok p2.st (.inl rfl)
  obtain ⟨vs2, tn2, rs2⟩ := rval_tupN (va2.read p2.st.ok)
  have e2 : vs2 = ns.map V.int := rs2.ints
  rw [e2] at tn2
  refine ⟨ns, i, tn2, vals1D p2 ed, hm, ?_⟩
  obtain ⟨bad3, p3⟩ := (res_int (K := F.K) (M := Mm bad2 σ ρ2) (H := H2) (ns.idxOf i : Nat)).po p2.st.ok
  exact k _ _ bad3 ρ2 H2 ((p1.st.trans p2.st).po p3) w2
end
end VL

namespace VL
open PySem PySem.Spec PyProof.Rows L2
/-! ### list(range(a, b, c)) -/
def rgC (i c : Int) (n : Nat) : List V := (List.range n).map fun k => V.int (i + (k : Nat) * c)
theorem vals_rgC {i c : Int} {n : Nat} {acc : Array Value} (h : ItemsOf (fun k v => ∃ t, v = .int (i + k * c) t) acc n) : Vals (rgC i c n) acc.toList := by
  have e : acc.toList.length = n := by rw [Array.length_toList]; exact h.1
  unfold rgC
  rw [← e]
  refine vals_of_get acc.toList _ fun j u hj => ?_
  obtain ⟨t, rfl⟩ := h.2 j u (by rw [← hj, Array.getElem?_toList])
  exact ⟨t, rfl⟩
def tLstRg3 (ta : TA) : TE := fun σ H Q => ta σ H fun vs H1 => ∃ (i j c : Int) (n : Nat), vs = [.int i, .int j, .int c] ∧ RgC i j c n ∧ n ≤ 2 ^ 24 ∧ ∀ q, H1 q = none → Q (.ref q) (upd H1 q (.lst (rgC i c n)))
section
variable {X : Cx} {F : Df} {a b c : Expr} {pos p p3 p4 : Pos} {ta : TA} {τ : WA}
theorem pe_listRg3 (hc : X.calm = true) (hg : Gl X "list") (hm : X.mg "list" = none) (hg2 : Gl X "range") (hm2 : X.mg "range" = none) (ha : PA X [a, b, c] ta)
    (na : starEach [.Call (.Name "range" p3) [a, b, c] [] p4] X.env = (false, eval (.Call (.Name "range" p3) [a, b, c] [] p4) X.env) :: starEach [] X.env)
    (hs : starEach [a, b, c] X.env = (false, eval a X.env) :: starEach [b, c] X.env) (hpl : (backTo p4 (starEach [b, c] X.env)).any (·.1) = false) :
    PE X (.Call (.Name "list" p) [.Call (.Name "range" p3) [a, b, c] [] p4] [] pos) (tLstRg3 ta) := by
  refine ⟨fun pins s σ H Q I h => ?_⟩
  refine Call_ (ld_blt I hg hm boot_list (PyProof.Rows.callWith_type1 (args_cons (wpAny_mono (Q := fun v s' => ∃ r i j k n t u w H1, v = .ref r ∧ IsRange s'.heap r i j k t u w ∧ Inv X pins σ H1 s' ∧ RgC i j k n ∧ n ≤ 2 ^ 24 ∧ ∀ q, H1 q = none → Q (.ref q) (upd H1 q (.lst (rgC i k n))))
    (Call_ (ld_blt I hg2 hm2 boot_range (PyProof.Rows.callWith_type1 (thn (ha.run p4 pins s σ H _ I h) fun us s1 ⟨vs, H1, I1, r1, q1⟩ => ?_) hs hpl))) (fun x s1 hx => args_nil ?_) fun _ _ e => e) na) na))
  · obtain ⟨i, j, k, n, e, rc, hn, q⟩ := q1
    subst e
    cases r1 with
    | cons r rr =>
      cases rr with
      | cons r' rr =>
        cases rr with
        | cons r'' rr =>
          cases rr
          obtain ⟨t, rfl⟩ := r
          obtain ⟨t', rfl⟩ := r'
          obtain ⟨t'', rfl⟩ := r''
          refine call_range_3 rc.1 ?_ (.inl (PyProof.noPylong_small rc.2.1))
          exact ⟨_, i, j, k, n, _, _, _, H1, rfl, IsRange.new _ _ _ _ _ _ _, I1.kept (t' := s1.toks) fun b o e => Heap.get?_push_of_some _ e, rc, hn, q⟩
  · obtain ⟨r, i, j, k, n, t, u, w, H1, ex, hr, I1, ⟨c0, c1, c2, c3⟩, hn, q⟩ := hx
    subst ex
    refine call_list_range (n := n) (I1.ok.hd hc) hr c2 c3 hn fun h' tk acc c' hk e' hi => ?_
    refine ⟨.ref s1.heap.objs.size, upd H1 s1.heap.objs.size (.lst (rgC i k n)), I1.laid hk (Nat.le_refl _) (show ObjOk X.prog X.w _ _ _ (.lst (rgC i k n)) from ⟨?_, acc.toList, c', vals_rgC hi, ?_⟩), rfl, q _ (I1.hok.fresh (Nat.le_refl _))⟩
    · simp only [rgC, List.length_map, List.length_range]; rw [sizeLine_eq]; omega
    · rw [Array.toArray_toList]; exact e'
def wLR3 (τ : WA) : WE := fun ρ q => τ ρ fun as ρ1 => ∃ (m n : Int) (c : Nat), argsD ρ1 as = some [.int m, .int n, .int c] ∧ 0 < c ∧ c < 1000000 ∧ (-(2 ^ 60) ≤ m ∧ m < 2 ^ 60 ∧ -(2 ^ 60) ≤ n ∧ n < 2 ^ 60) ∧ upN m n c ≤ 2 ^ 24 ∧ q (.seq .tmp (upD m n c)) ρ1
theorem rs_rgC {K : PySem.W.Frag} {H : Hp} {M : Addr → Prop} {m n : Int} {c : Nat} : Rs K H M (rgC m c (upN m n c)) (upD m n c) := ⟨by simp [rgC, upD], fun i v d a b => by
  have hi : i < upN m n c := by have := (List.getElem?_eq_some_iff.mp a).1; simpa [rgC] using this
  have e1 : (rgC m c (upN m n c))[i]? = some (.int (m + (i : Nat) * (c : Int))) := by simp [rgC, hi]
  have e2 : (upD m n c)[i]? = some (.int (m + (i : Nat) * (c : Int))) := by simp [upD, hi]
  rw [e1] at a; rw [e2] at b; cases a; cases b; exact .int _⟩
theorem de_listRg3 (hc : X.calm = true) (hg : Gl X "list") (hm : X.mg "list" = none) (hg2 : Gl X "range") (hm2 : X.mg "range" = none) (ha : DA X F [a, b, c] τ)
    (na : starEach [.Call (.Name "range" p3) [a, b, c] [] p4] X.env = (false, eval (.Call (.Name "range" p3) [a, b, c] [] p4) X.env) :: starEach [] X.env := by rfl)
    (hs : starEach [a, b, c] X.env = (false, eval a X.env) :: starEach [b, c] X.env := by rfl) (hpl : (backTo p4 (starEach [b, c] X.env)).any (·.1) = false := by rfl) :
    DE X F (.Call (.Name "list" p) [.Call (.Name "range" p3) [a, b, c] [] p4] [] pos) (wLR3 τ) := by
  refine ⟨fun bad σ ρ H q Q o w k => (pe_listRg3 hc hg hm hg2 hm2 pa_run na hs hpl).to (ha.go bad σ ρ H _ _ o w fun vs as bad1 ρ1 H1 p1 w1 => ?_)⟩
  obtain ⟨m, n, cn, ed, h0, h1, ⟨b1, b2, b3, b4⟩, hz, w1⟩ := w1
  refine ⟨m, n, cn, upN m n cn, vals3D p1 ed, RgC.up h0 h1 b1 b2 b3 b4, hz, fun p np => ?_⟩
  obtain ⟨bad3, p3⟩ := (res_lst (K := F.K) np (rs_rgC (m := m) (n := n) (c := cn))).po p1.st.ok
  exact k _ _ bad3 ρ1 _ (p1.st.po p3) w1
end
theorem lr3_iff {o : Option (List D)} {p : Int → Int → Nat → Prop} : (∃ (m n : Int) (c : Nat), o = some [.int m, .int n, .int c] ∧ p m n c) = ∃ ds, o = some ds ∧ as3 ds fun x y z => asI x fun m => asI y fun n => ∃ c : Nat, z = .int c ∧ p m n c := by
  refine propext ⟨fun ⟨m, n, c, e, h⟩ => ⟨_, e, c, rfl, h⟩, fun ⟨ds, e, h⟩ => ?_⟩
  match ds, e, h with
  | [x, y, z], e, h =>
    cases x <;> first | exact h.elim | skip
    cases y <;> first | exact h.elim | skip
    obtain ⟨c, rfl, h⟩ := h
    exact ⟨_, _, c, e, h⟩
@[simp] theorem x_LR3 {ρ : VEnv} {q : D → VEnv → Prop} {τ : WA} : wLR3 τ ρ q = τ ρ fun as ρ1 => ∃ ds, argsD ρ1 as = some ds ∧ as3 ds fun x y z => asI x fun m => asI y fun n => ∃ c : Nat, z = .int c ∧ 0 < c ∧ c < 1000000 ∧ (-(2 ^ 60) ≤ m ∧ m < 2 ^ 60 ∧ -(2 ^ 60) ≤ n ∧ n < 2 ^ 60) ∧ upN m n c ≤ 2 ^ 24 ∧ q (.seq .tmp (upD m n c)) ρ1 := by
  unfold wLR3; simp only [lr3_iff]
end VL

namespace VL
open PySem PySem.Spec PyProof.Rows L2
/-! ### dict(zip(a list of keys, a list or a text)) -/
section
variable {prog : Program} {w : World} {A : Around} {E : Value → Shared → Prop} {s : Shared} {K : Type} [DecidableEq K] {T : String} {a : Addr} {fp wr : List Addr} {n : Nat} {Rel : Nat → Value → Value → Prop} {OK : Heap → Prop}
theorem call_dict_rel {knd : KeyKind prog w K} {ks : List K} {VR : Nat → Value → Prop} {Q : Value → Shared → Prop} (P : PairArg prog w T a fp wr n Rel OK) (hh : A.handled = none) (ok : OK s.heap) (hn : ks.length = n) (hc : ∀ i key v, Rel i key v → ∃ k, ks[i]? = some k ∧ knd.is k key = true ∧ VR i v) (hsz : n ≤ sizeLine)
    (h : ∀ h' tk (prs : List (K × Value)), prs.length = n → prs.map (·.1) = ks → (∀ j p, prs[j]? = some p → VR j p.2) → h'.DictOf knd s.heap.objs.size (merged [] prs) → (∀ b o, b ∉ wr → s.heap.get? b = some o → h'.get? b = some o) → Q (.ref s.heap.objs.size) { s with heap := h', toks := tk }) :
    wpAny (model prog w) A (call (.type "dict") [.ref a]) Q E s := by
  refine call_dict_arg P ok fun s₁ hs₁ hdf ok₁ => ?_
  subst hs₁
  refine updateFrom_arg (A := A.in1) (Tab := fun i h => ∃ prs : List (K × Value), prs.length = i ∧ prs.map (·.1) = ks.take i ∧ (∀ j p, prs[j]? = some p → VR j p.2) ∧ h.DictOf knd s.heap.objs.size (merged [] prs)) P .none hh ok₁ hdf ⟨[], rfl, rfl, by simp, Heap.DictOf.new s.heap⟩ (fun _ _ ⟨_, _, _, _, tb⟩ => tb.lt_size) (fun i h h' wr' hd _ ⟨prs, a1, a2, a3, tb⟩ hk => ⟨prs, a1, a2, a3, tb.at' fun o e => hk _ o hd e⟩) ?_ ?_
  · intro i key v s' Q' E' hi hrel ⟨prs, a1, a2, a3, tb⟩ _ hQ
    obtain ⟨k, hk, his, hv⟩ := hc i key v hrel
    refine wpAny_dictSet_pairs (hsz := by have := merged_length [] prs; simp at this; omega) his tb fun h' hm' hs => hQ h' _ ⟨prs ++ [(k, v)], by simp [a1], ?_, fun j p hj => ?_, ?_⟩ hs
    · rw [List.map_append, a2, List.take_add_one, hk]; rfl
    · by_cases hj' : j < prs.length
      · rw [List.getElem?_append_left hj'] at hj; exact a3 j p hj
      · have : j = prs.length := by
          have := (List.getElem?_eq_some_iff.mp hj).1
          simp at this; omega
        subst this
        rw [List.getElem?_append_right (Nat.le_refl _)] at hj
        simp at hj; subst hj
        rw [a1]; exact hv
    · have e := merged_take_succ [] (prs ++ [(k, v)]) prs.length (k, v) (by rw [List.getElem?_append_right (Nat.le_refl _)]; simp)
      rw [show (prs ++ [(k, v)]).take (prs.length + 1) = prs ++ [(k, v)] from List.take_of_length_le (by simp), List.take_left'  rfl] at e
      rw [e]; exact hm'
  · rintro h' tk ⟨prs, a1, a2, a3, tb⟩ hk
    exact ⟨rfl, h h' tk prs a1 (by rw [a2]; exact List.take_of_length_le (Nat.le_of_eq hn)) a3 tb fun b o hw e => hk b o (Nat.ne_of_lt (Heap.lt_size e)) hw (Heap.get?_push_of_some _ e)⟩
end
section
variable {prog : Program} {w : World}
theorem pairArg_zipq (z ti tt p q : Addr) (c d : ZS) (D : ZAp z ti tt p q c d) (n m : Nat) (G K : Nat → Value → Prop) :
    PairArg prog w "zip" z ([z, ti, tt, p, q] ++ (c.ad.toList ++ d.ad.toList)) [z, tt, p, q] (min n m) (fun i k v => G i k ∧ K i v)
      (fun h => IsZip h z ti tt .none ∧ IsPair h ti (.ref p) (.ref q) ∧ (∃ a b, IsPair h tt a b) ∧ ZSt c p 0 h ∧ ZSt d q 0 h ∧ ZC c n G h ∧ ZC d m K h ∧ (∀ a, c.ad = some a → ∃ o, h.get? a = some o) ∧ ∀ a, d.ad = some a → ∃ o, h.get? a = some o) where
  type := fun s ok => ⟨_, ok.1, rfl⟩
  notDict := by decide
  keep := fun h h' ok hk => by
    obtain ⟨hz, hTI, ⟨a, b, hTO⟩, h1, h2, hl1, hl2, e1, e2⟩ := ok
    exact ⟨hk _ _ hz, hk _ _ hTI, ⟨a, b, hk _ _ hTO⟩, h1.on fun o e => hk _ o e, h2.on fun o e => hk _ o e, hl1.on fun a o _ e => hk _ o e, hl2.on fun a o _ e => hk _ o e, fun a ea => let ⟨o, ho⟩ := e1 a ea; ⟨o, hk _ _ ho⟩, fun a ea => let ⟨o, ho⟩ := e2 a ea; ⟨o, hk _ _ ho⟩⟩
  there := fun h ok b hb => by
    obtain ⟨hz, hTI, ⟨a, c', hTO⟩, h1, h2, hl1, hl2, e1, e2⟩ := ok
    simp only [List.mem_append, List.mem_cons, List.not_mem_nil, or_false, Option.mem_toList] at hb
    rcases hb with (rfl | rfl | rfl | rfl | rfl) | hb | hb
    · exact ⟨_, hz⟩
    · exact ⟨_, hTI⟩
    · exact ⟨_, hTO⟩
    · obtain ⟨o, e, _⟩ := h1.obj; exact ⟨o, e⟩
    · obtain ⟨o, e, _⟩ := h2.obj; exact ⟨o, e⟩
    · exact e1 b hb
    · exact e2 b hb
  sub := fun b hb => by simp at hb ⊢; rcases hb with rfl | rfl | rfl | rfl <;> simp
  noKeys := fun A s Q E hA ok h => getAttrOr_miss_zip ok.1 rfl rfl rfl zip_no_keys (by decide +kernel) hA h
  iter := fun A s dd Q E hA ok hd hdf h => by
    obtain ⟨hz, hTI, ⟨a, b, hTO⟩, h1, h2, hl1, hl2, _, _⟩ := ok
    simp only [List.mem_append, List.mem_cons, List.not_mem_nil, or_false, not_or, Option.mem_toList] at hdf
    obtain ⟨⟨dz, dTI, dTO, di1, di2⟩, dl1, dl2⟩ := hdf
    refine wpAny_pyIter_zip hz (h z [z, tt, p, q] (fun i h => IsPair h ti (.ref p) (.ref q) ∧ ZSt c p i h ∧ ZSt d q i h ∧ ZC c n G h ∧ ZC d m K h ∧
      ((IsZip h z ti tt .none ∧ ∃ a b, IsPair h tt a b) ∨ ∃ T f oT, IsZipHeld h z ti tt T f ∧ h.get? T = some oT ∧ T ≠ z ∧ T ≠ p ∧ T ≠ q ∧ T ≠ dd)) s.heap s.toks ?_
      ⟨hTI, h1, h2, hl1, hl2, .inl ⟨hz, a, b, hTO⟩⟩ (fun _ _ e => e) fun b hb => .inl hb)
    have nc : ∀ a, c.ad = some a → a ≠ dd := fun a e z => dl1 (by rw [e, z])
    have nd : ∀ a, d.ad = some a → a ≠ dd := fun a e z => dl2 (by rw [e, z])
    exact {
      off := fun hm => by
        simp only [List.mem_cons, List.not_mem_nil, or_false] at hm
        rcases hm with e | e | e | e
        · exact dz e
        · exact dTO e
        · exact di1 e
        · exact di2 e
      frame := fun i h₁ h₂ st hk => by
        obtain ⟨hTI, h1, h2, hl1, hl2, hz⟩ := st
        refine ⟨hk _ _ (Ne.symm dTI) hTI, h1.on fun o e => hk _ o (Ne.symm di1) e, h2.on fun o e => hk _ o (Ne.symm di2) e, hl1.on fun a o ea e => hk _ o (nc a ea) e, hl2.on fun a o ea e => hk _ o (nd a ea) e, ?_⟩
        rcases hz with ⟨hz, a, b, hTO⟩ | ⟨T, f, oT, hz, hT, r1, r2, r3, r4⟩
        · exact .inl ⟨hk _ _ (Ne.symm dz) hz, a, b, hk _ _ (Ne.symm dTO) hTO⟩
        · exact .inr ⟨T, f, oT, hk _ _ (Ne.symm dz) hz, hk _ _ r4 hT, r1, r2, r3, r4⟩
      item := fun i s₁ Q₁ E₁ hi st hds hQ => by
        obtain ⟨hTI, h1, h2, hl1, hl2, hz⟩ := st
        have hix : i < n := Nat.lt_of_lt_of_le hi (Nat.min_le_left ..)
        have hiy : i < m := Nat.lt_of_lt_of_le hi (Nat.min_le_right ..)
        have lt : ∀ {c o}, s₁.heap.get? c = some o → s₁.heap.objs.size ≠ c := fun e => Nat.ne_of_gt (Heap.lt_size e)
        have n1 : s₁.heap.objs.size ≠ p := let ⟨_, e, _⟩ := h1.obj; lt e
        have n2 : s₁.heap.objs.size ≠ q := let ⟨_, e, _⟩ := h2.obj; lt e
        rcases hz with ⟨hz, a, b, hTO⟩ | ⟨T, f, oT, hz, hT, r1, r2, r3, r4⟩
        · refine z_pyNext D hz hTI hTO h1 h2 hl1 hl2 hix hiy fun x y h' tk g1 g2 a1 a2 a3 a4 a5 a6 hk => ?_
          exact hQ s₁.heap.objs.size _ _ h' tk ⟨g1, g2⟩ (.inl ⟨_, a5, rfl, _, rfl⟩)
            ⟨hk _ _ D.a1 D.a5 D.a6 D.a7 hTI, a3, a4, hl1.on fun a o ea e => hk _ o (D.c1 a ea).1 (D.c1 a ea).2.1 (D.c1 a ea).2.2.1 (D.c1 a ea).2.2.2 e, hl2.on fun a o ea e => hk _ o (D.d1 a ea).1 (D.d1 a ea).2.1 (D.d1 a ea).2.2.1 (D.d1 a ea).2.2.2 e,
              .inr ⟨s₁.heap.objs.size, false, _, a1, a5, lt hz, n1, n2, Nat.ne_of_gt hds⟩⟩
            fun c o hc e => hk c o (fun x => hc (by simp [x])) (fun x => hc (by simp [x])) (fun x => hc (by simp [x])) (fun x => hc (by simp [x])) e
        · refine zh_pyNext D hz hT hTI h1 h2 hl1 hl2 hix hiy fun x y h' tk g1 g2 a1 a3 a4 a5 a6 hk => ?_
          exact hQ s₁.heap.objs.size _ _ h' tk ⟨g1, g2⟩ (.inl ⟨_, a5, rfl, _, rfl⟩)
            ⟨hk _ _ D.a1 D.a6 D.a7 hTI, a3, a4, hl1.on fun a o ea e => hk _ o (D.c1 a ea).1 (D.c1 a ea).2.2.1 (D.c1 a ea).2.2.2 e, hl2.on fun a o ea e => hk _ o (D.d1 a ea).1 (D.d1 a ea).2.2.1 (D.d1 a ea).2.2.2 e,
              .inr ⟨T, true, oT, a1, hk _ _ r1 r2 r3 hT, r1, r2, r3, r4⟩⟩
            fun c o hc e => hk c o (fun x => hc (by simp [x])) (fun x => hc (by simp [x])) (fun x => hc (by simp [x])) e
      done := fun s₁ Q₁ E₁ st hQ => by
        obtain ⟨hTI, h1, h2, hl1, hl2, hz⟩ := st
        have hend : n ≤ min n m ∨ m ≤ min n m := by omega
        rcases hz with ⟨hz, a, b, hTO⟩ | ⟨T, f, oT, hz, hT, r1, r2, r3, r4⟩
        · exact z_pyEnd hA D hz hTI hTO h1 h2 hl1 hl2 hend fun h' tk hk => hQ h' tk fun c o hc e => hk c o (fun x => hc (by simp [x])) (fun x => hc (by simp [x])) (fun x => hc (by simp [x])) (fun x => hc (by simp [x])) e
        · exact zh_pyEnd hA D hz hT hTI h1 h2 hl1 hl2 hend fun h' tk hk => hQ h' tk fun c o hc e => hk c o (fun x => hc (by simp [x])) (fun x => hc (by simp [x])) (fun x => hc (by simp [x])) e }
end
end VL

namespace VL
open PySem PySem.Spec PyProof.Rows L2
/-! ### dict(zip(keys, values)) -/
def tDZ (K : PySem.W.Frag) (ta : TA) : TE := fun σ H Q => ta σ H fun vs H1 => ∃ (c d : ZS) (ks : List Key) (ys : List V), vs = [zval c, zval d] ∧ ZD K H1 c (ks.map kV) ∧ ZD K H1 d ys ∧ ks.length = ys.length ∧ ys.length ≤ sizeLine ∧ ∀ p, H1 p = none → Q (.ref p) (upd H1 p (.dK (mergeK [] (ks.zip ys))))
theorem lt_off {a N : Nat} (h : a < N) : ¬ (a = N + 4 ∨ a = N + 3 ∨ a = N ∨ a = N + 1) := by omega
theorem zc_ex {c : ZS} {n : Nat} {G : Nat → Value → Prop} {h : Heap} (z : ZC c n G h) : ∀ a, c.ad = some a → ∃ o, h.get? a = some o := by
  cases c with
  | lst a => intro a' e; cases e; obtain ⟨zs, ⟨o, e, _⟩, _⟩ := z; exact ⟨o, e⟩
  | tup a => intro a' e; cases e; obtain ⟨zs, ⟨o, e, _⟩, _⟩ := z; exact ⟨o, e⟩
  | str x => intro a e; cases e
theorem kv_of : ∀ {ks : List Key} {ys : List V} {prs : List (Key × Value)}, prs.map (·.1) = ks → prs.length = ys.length → (∀ (j : Nat) (p : Key × Value), prs[j]? = some p → ∃ y, ys[j]? = some y ∧ RelV y p.2) → KV (ks.zip ys) prs
  | _, [], [], e, _, _ => by subst e; exact .nil
  | _, y :: ys, p :: prs, e, hl, h => by
    subst e
    obtain ⟨y', e1, r⟩ := h 0 p rfl
    cases e1
    exact .cons ⟨rfl, r⟩ (kv_of rfl (Nat.succ.inj hl) fun j q hq => h (j + 1) q (by simpa using hq))
  | _, [], _ :: _, _, hl, _ => by cases hl
  | _, _ :: _, [], _, hl, _ => by cases hl
section
variable {X : Cx} {F : Df} {e a b : Expr} {pos p p2 pos2 : Pos} {ta : TA} {τ : WA}
theorem pe_dictZip (hc : X.calm = true) (hg : Gl X "dict") (hm : X.mg "dict" = none) (hb : bootBuiltins "dict" = some (.type "dict")) (hg2 : Gl X "zip") (hm2 : X.mg "zip" = none) (ha : PA X [a, b] ta)
    (na : starEach [.Call (.Name "zip" p2) [a, b] [] pos2] X.env = (false, eval (.Call (.Name "zip" p2) [a, b] [] pos2) X.env) :: starEach [] X.env) (hs : starEach [a, b] X.env = (false, eval a X.env) :: starEach [b] X.env) (hpl : (backTo pos2 (starEach [b] X.env)).any (·.1) = false) :
    PE X (.Call (.Name "dict" p) [.Call (.Name "zip" p2) [a, b] [] pos2] [] pos) (tDZ X.K ta) := by
  refine ⟨fun pins s σ H Q I h => ?_⟩
  refine Call_ (ld_blt I hg hm hb (PyProof.Rows.callWith_type1 (PyProof.Rows.args_cons ?_ na) na))
  refine Call_ (ld_blt I hg2 hm2 PyProof.Rows.boot_zip (PyProof.Rows.callWith_type1 (thn (ha.run pos2 pins s σ H _ I h) fun us s1 ⟨vs, H1, I1, r1, q1⟩ => ?_) hs hpl))
  obtain ⟨c, d, ks, ys, rfl, zx, zy, hl, hz, q⟩ := q1
  cases r1 with
  | cons r rr =>
  cases rr with
  | cons r2 rr =>
  cases rr
  obtain ⟨zc, g1, l1⟩ := zx.zc I1
  obtain ⟨zd, g2, l2⟩ := zy.zc I1
  obtain ⟨o, i1, f1, t1⟩ := z_iter c r
  obtain ⟨o2, i2, f2, t2⟩ := z_iter d r2
  refine z_call i1 i2 f1 f2 g1 (g2.push o) fun hp hzz p1 p2 e1 e2 hk => ?_
  refine PyProof.Rows.args_nil ?_
  have lz : (s1.heap.objs.size + 4 : Nat) < hp.objs.size := Heap.lt_size hzz
  have D := zap (c := c) (d := d) s1.heap.objs.size l1 l2
  have I2 : Inv X pins σ H1 { s1 with heap := hp } := I1.kept (t' := s1.toks) fun b o e => hk b o e
  have zc2 := zc.on (h2 := hp) fun a o _ => hk a o
  have zd2 := zd.on (h2 := hp) fun a o _ => hk a o
  have P := pairArg_zipq (prog := X.prog) (w := X.w) _ _ _ _ _ c d D (ks.map kV).length ys.length (fun i u => ∃ x, (ks.map kV)[i]? = some x ∧ RelV x u) (fun i u => ∃ x, ys[i]? = some x ∧ RelV x u)
  refine call_dict_rel (s := { s1 with heap := hp }) (knd := mixKind X.prog X.w) (ks := ks) (VR := fun i v => ∃ y, ys[i]? = some y ∧ RelV y v) P (I1.ok.hd hc) ⟨hzz, p1, ⟨_, _, p2⟩, t1 _ _ e1, t2 _ _ e2, zc2, zd2, zc_ex zc2, zc_ex zd2⟩ (by simp [hl]) (fun i key v hr => ?_) (by simp [hl]; exact hz) fun h' tk prs b1 b2 b3 b4 fr => ?_
  · obtain ⟨⟨x, f1, f2⟩, y, f3, f4⟩ := hr
    rw [List.getElem?_map] at f1
    cases hks : ks[i]? with
    | none => rw [hks] at f1; cases f1
    | some k =>
      rw [hks] at f1; cases f1
      exact ⟨k, rfl, kV_is (P := X.prog) (w := X.w) f2, y, f3, f4⟩
  · have hkv : KV (ks.zip ys) prs := kv_of b2 (by rw [b1]; simp [hl]) b3
    have kp : ∀ b u, s1.heap.get? b = some u → h'.get? b = some u := fun b u e => fr b u (fun z => by
      have lt : b < s1.heap.objs.size := Heap.lt_size e
      simp only [List.mem_cons, List.not_mem_nil, or_false] at z
      exact lt_off lt z) (hk b u e)
    have le : s1.heap.objs.size ≤ hp.objs.size := by omega
    have hm : (hp.objs.size == sysModules) = false := beq_eq_false_iff_ne.mpr (Nat.ne_of_gt (Nat.lt_of_lt_of_le I1.big le))
    have hlen : (mergeK [] (ks.zip ys)).length ≤ sizeLine := by
      refine Nat.le_trans (length_mergeK (ks.zip ys) []) ?_
      rw [List.length_nil, Nat.zero_add, List.length_zip]
      exact Nat.le_trans (Nat.min_le_right ..) hz
    exact ⟨.ref hp.objs.size, upd H1 hp.objs.size (.dK (mergeK [] (ks.zip ys))), I1.laid (t' := tk) kp le (show ObjOk X.prog X.w _ _ _ (.dK (mergeK [] (ks.zip ys))) from ⟨hlen, hm, merged [] prs, KV.merge hkv .nil, b4⟩), rfl, q _ (I1.hok.fresh le)⟩
end
end VL

namespace VL
open PySem PySem.Spec PyProof.Rows L2
/-! ### dict(zip(keys, values)), on data -/
def wDZ (τ : WA) : WE := fun ρ q => τ ρ fun as ρ1 => ∃ (x y : D) (ks : List DKey) (es : List D), argsD ρ1 as = some [x, y] ∧ itemsOf x = some (ks.map dkD) ∧ itemsOf y = some es ∧ ks.length = es.length ∧ es.length ≤ 1000000 ∧ q (.map .tmp (dmerge [] (ks.zip es))) ρ1
theorem rs_dks {K : PySem.W.Frag} {H : Hp} {M : Addr → Prop} : ∀ {xs : List V} {ks : List DKey}, Rs K H M xs (ks.map dkD) → xs = (ks.map kmap).map kV
  | [], [], _ => rfl
  | v :: vs, k :: ks, r => by
    rw [List.map_cons] at r
    obtain ⟨r1, r2⟩ := r.uncons
    rw [rd_dk r1, rs_dks r2]; rfl
  | [], _ :: _, r => by have := r.1; cases this
  | _ :: _, [], r => by have := r.1; cases this
theorem rk_zip {K : PySem.W.Frag} {H : Hp} {M : Addr → Prop} : ∀ {ys : List V} {es : List D} {ks : List DKey}, Rs K H M ys es → Rk K H M ((ks.map kmap).zip ys) (ks.zip es)
  | [], [], ks, _ => by cases ks <;> exact ⟨rfl, Rs.nil⟩
  | y :: ys, e :: es, [], _ => ⟨rfl, Rs.nil⟩
  | y :: ys, e :: es, k :: ks, r => by
    obtain ⟨r1, r2⟩ := r.uncons
    exact (rk_zip (ks := ks) r2).consI r1
  | [], _ :: _, _, r => by have := r.1; cases this
  | _ :: _, [], _, r => by have := r.1; cases this
section
variable {X : Cx} {F : Df} {e a b : Expr} {pos p p2 pos2 : Pos} {τ : WA}
theorem de_dictZip (hc : X.calm = true) (hm : X.mg "dict" = none) (hm2 : X.mg "zip" = none) (ha : DA X F [a, b] τ) (hK : X.K = F.K) (hg : Gl X "dict") (hg2 : Gl X "zip") (hb : bootBuiltins "dict" = some (.type "dict") := by decide +kernel)
    (na : starEach [.Call (.Name "zip" p2) [a, b] [] pos2] X.env = (false, eval (.Call (.Name "zip" p2) [a, b] [] pos2) X.env) :: starEach [] X.env := by rfl) (hs : starEach [a, b] X.env = (false, eval a X.env) :: starEach [b] X.env := by rfl) (hpl : (backTo pos2 (starEach [b] X.env)).any (·.1) = false := by rfl) :
    DE X F (.Call (.Name "dict" p) [.Call (.Name "zip" p2) [a, b] [] pos2] [] pos) (wDZ τ) := by
  refine ⟨fun bad σ ρ H q Q o w k => (pe_dictZip hc hg hm hb hg2 hm2 pa_run na hs hpl).to (ha.go bad σ ρ H _ _ o w fun vs as bad1 ρ1 H1 p1 w1 => ?_)⟩
  obtain ⟨x, y, ks, es, ed, e1, e2, hl, hz, w1⟩ := w1
  obtain ⟨lv, rv⟩ := p1.vals ed
  obtain ⟨v1, v2, rfl⟩ : ∃ v1 v2, vs = [v1, v2] := by
    match vs, lv with
    | [v1, v2], _ => exact ⟨v1, v2, rfl⟩
  obtain ⟨c, xs, rfl, zx, rx⟩ := rval_items (rv 0 _ _ rfl rfl) e1
  obtain ⟨d, ys, rfl, zy, ry⟩ := rval_items (rv 1 _ _ rfl rfl) e2
  have ex := rs_dks rx
  subst ex
  rw [hK]
  refine ⟨c, d, ks.map kmap, ys, rfl, zx, zy, by rw [List.length_map, ry.1, hl], by rw [ry.1, sizeLine_eq]; omega, fun pp np => ?_⟩
  have res : Res F.K (Mm bad1 σ ρ1) H1 (.ref pp) (.map .tmp (dmerge [] (ks.zip es))) (upd H1 pp (.dK (mergeK [] ((ks.map kmap).zip ys)))) := res_map np (rk_merge (rk_zip ry) ⟨rfl, Rs.nil⟩)
  obtain ⟨bad2, p2⟩ := res.po p1.st.ok
  exact k _ _ bad2 ρ1 _ (p1.st.po p2) w1
@[simp] theorem x_DZ {ρ : VEnv} {q : D → VEnv → Prop} : wDZ τ ρ q = τ ρ fun as ρ1 => ∃ zs, argsD ρ1 as = some zs ∧ as2 zs fun x y => ∃ (ks : List DKey) (es : List D), itemsOf x = some (ks.map dkD) ∧ itemsOf y = some es ∧ ks.length = es.length ∧ es.length ≤ 1000000 ∧ q (.map .tmp (dmerge [] (ks.zip es))) ρ1 := by
  unfold wDZ
  congr
  funext as ρ1
  refine propext ⟨fun ⟨x, y, ds, es, e, h⟩ => ⟨_, e, ds, es, h⟩, fun ⟨zs, e, h⟩ => ?_⟩
  match zs, e, h with
  | [x, y], e, ⟨ds, es, h⟩ => exact ⟨x, y, ds, es, e, h⟩
end
end VL

namespace VL
open PySem PySem.Spec PyProof.Rows L2
def shp (d : D) : Prop := SeqAt.shaped (toP d) = true
def okS (l : List Nat) : Prop := PyData.strOk (mkS l) = true
section
variable {ρ : VEnv} {q : D → VEnv → Prop} {p : D → Prop} {a b : Int} {l l2 : List Nat} {d x : D} {ds : List D} {k : Kd} {n : Nat} {r : Option D} {v w : Bool}
theorem shp_int : shp (.int a) := by unfold shp SeqAt.shaped; simp [toP, PyData.canLay0, PyData.depth]
theorem shp_bl : shp (.bl v) := by unfold shp SeqAt.shaped; simp [toP, PyData.canLay0, PyData.depth]
theorem shp_non : shp .non := by unfold shp SeqAt.shaped; simp [toP, PyData.canLay0, PyData.depth]
theorem shp_str (h : okS l) : shp (.str l) := by
  have h : PyData.strOk (mkS l) = true := h
  unfold shp SeqAt.shaped; simp [toP, PyData.canLay0, PyData.depth, h]
@[simp] theorem o_eqI : opEq (.int a) (.int b) p = p (.bl (a == b)) := by
  show (shp (.int a) ∧ shp (.int b) ∧ p (.bl (a == b))) = _
  simp [shp_int]
@[simp] theorem o_neI : opNe (.int a) (.int b) p = p (.bl (!(a == b))) := by
  show (shp (.int a) ∧ shp (.int b) ∧ p (.bl (!(a == b)))) = _
  simp [shp_int]
@[simp] theorem o_eqB : opEq (.bl v) (.bl w) p = p (.bl (v == w)) := by
  show (shp (.bl v) ∧ shp (.bl w) ∧ p (.bl (v == w))) = _
  simp [shp_bl]
@[simp] theorem o_neB : opNe (.bl v) (.bl w) p = p (.bl (!(v == w))) := by
  show (shp (.bl v) ∧ shp (.bl w) ∧ p (.bl (!(v == w)))) = _
  simp [shp_bl]
theorem mkS_beq : (mkS l == mkS l2) = (l == l2) := by
  by_cases e : l = l2
  · subst e; simp
  · rw [beq_eq_false_iff_ne.mpr e, beq_eq_false_iff_ne.mpr fun z => e (mkS_inj z)]
@[simp] theorem o_eqS : opEq (.str l) (.str l2) p = (okS l ∧ okS l2 ∧ p (.bl (l == l2))) := by
  have e : PyData.eqv (toP (.str l)) (toP (.str l2)) = (l == l2) := mkS_beq
  unfold opEq; rw [e]
  have h : ∀ l, (SeqAt.shaped (toP (.str l)) = true) = okS l := fun l => by
    unfold SeqAt.shaped okS; simp [toP, PyData.canLay0, PyData.depth]
  rw [h, h]
@[simp] theorem o_neS : opNe (.str l) (.str l2) p = (okS l ∧ okS l2 ∧ p (.bl (!(l == l2)))) := by
  have e : PyData.eqv (toP (.str l)) (toP (.str l2)) = (l == l2) := mkS_beq
  unfold opNe; rw [e]
  have h : ∀ l, (SeqAt.shaped (toP (.str l)) = true) = okS l := fun l => by
    unfold SeqAt.shaped okS; simp [toP, PyData.canLay0, PyData.depth]
  rw [h, h]
/-! frames -/
@[simp] theorem n_env0 {ds : List D} : env0 n ds = ds.map some ++ List.replicate (n - ds.length) none := rfl
@[simp] theorem n_finN {ρ : VEnv} : finA [] ρ = [] := by cases ρ <;> rfl
theorem n_fin1 {ρ : VEnv} (h : d.brw = false) : finA (d :: ds) (r :: ρ) = d :: finA ds ρ := by
  show (if d.brw then _ else d) :: _ = _
  rw [h]; rfl
@[simp] theorem n_fin2 {xs : List D} {ρ : VEnv} : finA (.seq .own xs :: ds) (some x :: ρ) = x.to .own :: finA ds ρ := rfl
@[simp] theorem n_fin3 {ρ : VEnv} : finA (.int a :: ds) (r :: ρ) = .int a :: finA ds ρ := rfl
@[simp] theorem n_fin4 {ρ : VEnv} : finA (.str l :: ds) (r :: ρ) = .str l :: finA ds ρ := rfl
@[simp] theorem n_fin5 {ρ : VEnv} {xs : List D} : finA (.tup xs :: ds) (r :: ρ) = .tup xs :: finA ds ρ := rfl
@[simp] theorem n_fin6 {ρ : VEnv} {xs : List D} : finA (.seq .froz xs :: ds) (r :: ρ) = .seq .froz xs :: finA ds ρ := rfl
@[simp] theorem n_fin7 {ρ : VEnv} : finA (.bl v :: ds) (r :: ρ) = .bl v :: finA ds ρ := rfl
@[simp] theorem n_updN {ρ : VEnv} {es : List D} : updA ρ [] es = ρ := by cases es <;> rfl
@[simp] theorem n_updV {ρ : VEnv} {as : List Arg} {es : List D} : updA ρ (.val d :: as) (x :: es) = updA ρ as es := rfl
@[simp] theorem n_updS {ρ : VEnv} {as : List Arg} {es : List D} : updA ρ (.slot n :: as) (x :: es) = if updA.NBb ρ n then updA ρ as es else (updA ρ as es).set n (some x) := rfl
@[simp] theorem n_nb {ρ : VEnv} : updA.NBb ρ n = match ρ[n]? with | some (some d) => !d.brw | _ => true := rfl
@[simp] theorem n_bsN {ρ : VEnv} : bslots ρ [] = [] := rfl
@[simp] theorem n_bsV {ρ : VEnv} {as : List Arg} : bslots ρ (.val d :: as) = bslots ρ as := rfl
@[simp] theorem n_bsS {ρ : VEnv} {as : List Arg} : bslots ρ (.slot n :: as) = if updA.NBb ρ n then bslots ρ as else n :: bslots ρ as := rfl
@[simp] theorem n_ndN : nodupB [] = true := rfl
@[simp] theorem n_ndC {xs : List Nat} : nodupB (n :: xs) = (!xs.contains n && nodupB xs) := rfl
end
/-! ### comprehensions without a state -/
section
variable {ι : WI} {g : WG} {vs : List Nat} {θ : WTs} {α : WE} {ρ ρ1 : VEnv} {q : D → VEnv → Prop} {items : List D} {wt : Option (Nat × D)}
/-- what stands behind the iterable: each item x gives f x, or nothing -/
def LcGo (items : List D) (wt : Option (Nat × D)) (ρ1 : VEnv) (g : WG) (vs : List Nat) (θ : WTs) (α : WE) (q : D → VEnv → Prop) : Prop := nbs ρ1 vs = true ∧ wtOut wt vs = true ∧ ∃ W : Nat → List D → VEnv → Prop, W 0 [] (wpE ρ1 vs) ∧ ∀ i acc ρ, i ≤ items.length → W i acc ρ → isWt ρ wt ∧ (i = items.length → q (.seq .tmp acc) (unwE ρ1 ρ vs)) ∧
  ∀ x, items[i]? = some x → g x ρ fun ρ2 => θ ρ2 fun b ρ3 => if b = true then α ρ3 fun y ρ4 => y.brw = false ∧ acc.length < sizeLine ∧ W (i + 1) (acc ++ [y.to .froz]) (wpE ρ4 vs) else W (i + 1) acc (wpE ρ3 vs)
theorem x_lc : wLc ι g vs θ α ρ q = ι ρ fun items wt ρ1 => LcGo items wt ρ1 g vs θ α q := rfl
theorem lc_go (f : D → Option D) (h1 : nbs ρ1 vs = true) (h2 : wtOut wt vs = true) (h3 : isWt (wpE ρ1 vs) wt) (hz : items.length ≤ sizeLine) (h4 : unwE ρ1 (wpE ρ1 vs) vs = ρ1)
    (hb : ∀ (i : Nat) x, items[i]? = some x → ∀ acc : List D, acc.length < sizeLine → ∀ W : List D → VEnv → Prop, W (acc ++ (f x).toList) (wpE ρ1 vs) → g x (wpE ρ1 vs) fun ρ2 => θ ρ2 fun b ρ3 => if b = true then α ρ3 fun y ρ4 => y.brw = false ∧ acc.length < sizeLine ∧ W (acc ++ [y.to .froz]) (wpE ρ4 vs) else W acc (wpE ρ3 vs))
    (hq : q (.seq .tmp (items.filterMap f)) ρ1) : LcGo items wt ρ1 g vs θ α q := by
  refine ⟨h1, h2, fun i acc ρ => ρ = wpE ρ1 vs ∧ acc = (items.take i).filterMap f, ⟨rfl, by simp⟩, ?_⟩
  rintro i acc ρ hi ⟨rfl, rfl⟩
  refine ⟨h3, fun e => ?_, fun x hx => ?_⟩
  · rw [h4, e, List.take_length]; exact hq
  · have hlt : i < items.length := (List.getElem?_eq_some_iff.mp hx).1
    have hle : ((items.take i).filterMap f).length < sizeLine := by
      have := List.length_filterMap_le f (items.take i)
      rw [List.length_take] at this
      omega
    refine hb i x hx _ hle (fun acc ρ => ρ = wpE ρ1 vs ∧ acc = (items.take (i + 1)).filterMap f) ⟨rfl, ?_⟩
    rw [List.take_add_one, List.filterMap_append, hx]
    cases h : f x <;> simp [h]
theorem lc_map {A : Type} (xs : List A) (mk out : A → D) (he : items = xs.map mk) (h1 : nbs ρ1 vs = true) (h2 : wtOut wt vs = true) (h3 : isWt (wpE ρ1 vs) wt) (hz : xs.length ≤ sizeLine) (h4 : unwE ρ1 (wpE ρ1 vs) vs = ρ1)
    (hb : ∀ (i : Nat) a, xs[i]? = some a → ∀ acc : List D, acc.length < sizeLine → ∀ W : List D → VEnv → Prop, W (acc ++ [out a]) (wpE ρ1 vs) → g (mk a) (wpE ρ1 vs) fun ρ2 => θ ρ2 fun b ρ3 => if b = true then α ρ3 fun y ρ4 => y.brw = false ∧ acc.length < sizeLine ∧ W (acc ++ [y.to .froz]) (wpE ρ4 vs) else W acc (wpE ρ3 vs))
    (hq : q (.seq .tmp (xs.map out)) ρ1) : LcGo items wt ρ1 g vs θ α q := by
  subst he
  refine ⟨h1, h2, fun i acc ρ => ρ = wpE ρ1 vs ∧ acc = (xs.take i).map out, ⟨rfl, by simp⟩, ?_⟩
  rintro i acc ρ hi ⟨rfl, rfl⟩
  rw [List.length_map] at hi
  refine ⟨h3, fun e => ?_, fun x hx => ?_⟩
  · rw [List.length_map] at e
    rw [h4, e, List.take_length]; exact hq
  · rw [List.getElem?_map] at hx
    cases hxa : xs[i]? with
    | none => rw [hxa] at hx; cases hx
    | some a =>
      rw [hxa] at hx; cases hx
      have hlt : i < xs.length := (List.getElem?_eq_some_iff.mp hxa).1
      have hle : ((xs.take i).map out).length < sizeLine := by rw [List.length_map, List.length_take]; omega
      refine hb i a hxa _ hle (fun acc ρ => ρ = wpE ρ1 vs ∧ acc = (xs.take (i + 1)).map out) ⟨rfl, ?_⟩
      rw [List.take_add_one, hxa]; simp
theorem lc_filter {A : Type} (xs : List A) (mk : A → D) (f : A → Option D) (he : items = xs.map mk) (h1 : nbs ρ1 vs = true) (h2 : wtOut wt vs = true) (h3 : isWt (wpE ρ1 vs) wt) (hz : xs.length ≤ sizeLine) (h4 : unwE ρ1 (wpE ρ1 vs) vs = ρ1)
    (hb : ∀ (i : Nat) a, xs[i]? = some a → ∀ acc : List D, acc.length < sizeLine → ∀ W : List D → VEnv → Prop, W (acc ++ (f a).toList) (wpE ρ1 vs) → g (mk a) (wpE ρ1 vs) fun ρ2 => θ ρ2 fun b ρ3 => if b = true then α ρ3 fun y ρ4 => y.brw = false ∧ acc.length < sizeLine ∧ W (acc ++ [y.to .froz]) (wpE ρ4 vs) else W acc (wpE ρ3 vs))
    (hq : q (.seq .tmp (xs.filterMap f)) ρ1) : LcGo items wt ρ1 g vs θ α q := by
  subst he
  refine ⟨h1, h2, fun i acc ρ => ρ = wpE ρ1 vs ∧ acc = (xs.take i).filterMap f, ⟨rfl, by simp⟩, ?_⟩
  rintro i acc ρ hi ⟨rfl, rfl⟩
  rw [List.length_map] at hi
  refine ⟨h3, fun e => ?_, fun x hx => ?_⟩
  · rw [List.length_map] at e
    rw [h4, e, List.take_length]; exact hq
  · rw [List.getElem?_map] at hx
    cases hxa : xs[i]? with
    | none => rw [hxa] at hx; cases hx
    | some a =>
      rw [hxa] at hx; cases hx
      have hlt : i < xs.length := (List.getElem?_eq_some_iff.mp hxa).1
      have hle : ((xs.take i).filterMap f).length < sizeLine := by
        have := List.length_filterMap_le f (xs.take i)
        rw [List.length_take] at this
        omega
      refine hb i a hxa _ hle (fun acc ρ => ρ = wpE ρ1 vs ∧ acc = (xs.take (i + 1)).filterMap f) ⟨rfl, ?_⟩
      rw [List.take_add_one, List.filterMap_append, hxa]
      cases h : f a <;> simp [h]
/-- a comprehension whose turns change the frame: J i outs ρ -/
theorem lc_inv {A : Type} (xs : List A) (mk : A → D) (J : Nat → List D → VEnv → Prop) (he : items = xs.map mk) (h1 : nbs ρ1 vs = true) (h2 : wtOut wt vs = true) (hz : xs.length ≤ sizeLine) (h0 : J 0 [] (wpE ρ1 vs)) (hl : ∀ i acc ρ, J i acc ρ → acc.length ≤ i ∧ isWt ρ wt)
    (hb : ∀ (i : Nat) a acc ρ, xs[i]? = some a → J i acc ρ → acc.length < sizeLine → g (mk a) ρ fun ρ2 => θ ρ2 fun b ρ3 => if b = true then α ρ3 fun y ρ4 => y.brw = false ∧ acc.length < sizeLine ∧ J (i + 1) (acc ++ [y.to .froz]) (wpE ρ4 vs) else J (i + 1) acc (wpE ρ3 vs))
    (hq : ∀ acc ρ, J xs.length acc ρ → q (.seq .tmp acc) (unwE ρ1 ρ vs)) : LcGo items wt ρ1 g vs θ α q := by
  subst he
  refine ⟨h1, h2, J, h0, ?_⟩
  rintro i acc ρ hi hJ
  rw [List.length_map] at hi
  refine ⟨(hl i acc ρ hJ).2, fun e => ?_, fun x hx => ?_⟩
  · rw [List.length_map] at e
    subst e; exact hq acc ρ hJ
  · rw [List.getElem?_map] at hx
    cases hxa : xs[i]? with
    | none => rw [hxa] at hx; cases hx
    | some a =>
      rw [hxa] at hx; cases hx
      have hlt : i < xs.length := (List.getElem?_eq_some_iff.mp hxa).1
      exact hb i a acc ρ hxa hJ (by have := (hl i acc ρ hJ).1; omega)
end
/-! ### for -/
section
variable {ι : WI} {g : WG} {ρ ρ1 : VEnv} {items : List D} {wt : Option (Nat × D)} {w : WS} {E : VEnd}
def ForGo (items : List D) (wt : Option (Nat × D)) (ρ1 : VEnv) (g : WG) (w : WS) (E : VEnd) : Prop := ∃ W : Nat → VEnv → Prop, W 0 (lockE ρ1 wt) ∧ ∀ i ρ, i ≤ items.length → W i ρ → isLk ρ wt ∧ (i = items.length → E.nx (unlE ρ wt)) ∧
  ∀ x, items[i]? = some x → g x ρ fun ρ2 => w { E with nx := fun ρ' => W (i + 1) ρ', ct := fun ρ' => W (i + 1) ρ', bk := fun ρ' => isLk ρ' wt ∧ E.nx (unlE ρ' wt) } ρ2
theorem x_for : wFor ι g w E ρ = ι ρ fun items wt ρ1 => ForGo items wt ρ1 g w E := rfl
theorem for_inv {A : Type} (xs : List A) (mk : A → D) (J : Nat → VEnv → Prop) (he : items = xs.map mk) (h0 : J 0 (lockE ρ1 wt)) (hl : ∀ i ρ, J i ρ → isLk ρ wt) (hq : ∀ ρ, J xs.length ρ → E.nx (unlE ρ wt))
    (hb : ∀ (i : Nat) a ρ, xs[i]? = some a → J i ρ → g (mk a) ρ fun ρ2 => w { E with nx := fun ρ' => J (i + 1) ρ', ct := fun ρ' => J (i + 1) ρ', bk := fun ρ' => isLk ρ' wt ∧ E.nx (unlE ρ' wt) } ρ2) : ForGo items wt ρ1 g w E := by
  subst he
  refine ⟨J, h0, fun i ρ hi hJ => ⟨hl i ρ hJ, fun e => ?_, fun x hx => ?_⟩⟩
  · rw [List.length_map] at e; subst e; exact hq ρ hJ
  · rw [List.getElem?_map] at hx
    cases hxa : xs[i]? with
    | none => rw [hxa] at hx; cases hx
    | some a => rw [hxa] at hx; cases hx; exact hb i a ρ hxa hJ
end
section
variable {A : Type} {xs : List A}
@[simp] theorem bls_mapf (f : A → Bool) : blsOf (xs.map fun a => D.bl (f a)) = some (xs.map f) := by
  have := blsOf_map (xs.map f); rwa [List.map_map] at this
@[simp] theorem ints_mapf (f : A → Int) : intsOf (xs.map fun a => D.int (f a)) = some (xs.map f) := by
  have := intsOf_map (xs.map f); rwa [List.map_map] at this
@[simp] theorem strs_mapf (f : A → List Nat) : strsOf (xs.map fun a => D.str (f a)) = some (xs.map f) := by
  have := strsOf_map (xs.map f); rwa [List.map_map] at this
theorem flat_one (f : A → Nat) : (xs.map fun a => [f a]).flatten = xs.map f := by induction xs with | nil => rfl | cons x xs ih => simp [ih]
end
end VL

namespace VL
open PySem PySem.Spec PyProof.Rows L2
/-! ### the signs -/
def SG : List Nat := [97, 98, 99, 100, 101, 102, 103, 104, 105, 106]
def tx (p : List Nat) : List Nat := p.map (97 + ·)
@[simp] theorem sg_len : SG.length = 10 := rfl
@[simp] theorem tx_len (p : List Nat) : (tx p).length = p.length := by simp [tx]
@[simp] theorem tx_nil : tx [] = [] := rfl
@[simp] theorem tx_mem {p : List Nat} {i : Nat} : 97 + i ∈ tx p ↔ i ∈ p := by simp [tx]
theorem mem_tx {p : List Nat} {c : Nat} : c ∈ tx p ↔ ∃ i ∈ p, c = 97 + i := by
  simp only [tx, List.mem_map]
  exact ⟨fun ⟨i, h, e⟩ => ⟨i, h, e.symm⟩, fun ⟨i, h, e⟩ => ⟨i, h, e.symm⟩⟩
theorem tx_get (p : List Nat) (i : Nat) : (tx p)[i]? = (p[i]?).map (97 + ·) := by simp [tx]
theorem tx_app (p q : List Nat) : tx (p ++ q) = tx p ++ tx q := by simp [tx]
theorem tx_inj {p q : List Nat} (h : tx p = tx q) : p = q := by
  induction p generalizing q with
  | nil => cases q <;> simp [tx] at h ⊢
  | cons x p ih =>
    cases q with
    | nil => simp [tx] at h
    | cons y q =>
      simp only [tx, List.map_cons, List.cons.injEq] at h
      rw [ih h.2]; congr 1; omega
@[simp] theorem tx_eq {p q : List Nat} : (tx p = tx q) = (p = q) := propext ⟨tx_inj, fun h => by rw [h]⟩
theorem tx_map {A : Type} (t : List A) (f : A → Nat) : tx (t.map f) = t.map fun i => 97 + f i := by simp [tx]
@[simp high] theorem o_join1 {A : Type} {k : Kd} {xs : List A} {f : A → Nat} {p : D → Prop} : opJoin (.str []) [.seq k (xs.map fun a => .str [f a])] p = (xs.length ≤ 16777216 ∧ p (.str (xs.map f))) := by
  rw [o_join]; simp only [strs_mapf, flat_one, Option.some.injEq, exists_eq_left', List.length_map]
theorem sg_tx : SG = tx (List.range 10) := by decide
theorem sg_take {n : Nat} (h : n ≤ 10) : SG.take n = tx (List.range n) := by
  have : ∀ n : Fin 11, SG.take n.val = tx (List.range n.val) := by decide
  exact this ⟨n, by omega⟩
theorem sg_mem {i : Nat} (h : i < 10) : 97 + i ∈ SG := by rw [sg_tx, tx_mem]; simpa using h
theorem sg_idx {i : Nat} (h : i < 10) : SG.idxOf (97 + i) = i := by
  have : ∀ n : Fin 10, SG.idxOf (97 + n.val) = n.val := by decide
  exact this ⟨i, h⟩
theorem sg_get {i : Nat} (h : i < 10) : SG[i]? = some (97 + i) := by
  have : ∀ n : Fin 10, SG[n.val]? = some (97 + n.val) := by decide
  exact this ⟨i, h⟩
theorem okS_of {l : List Nat} (h : ∀ c ∈ l, c < 1114112) : okS l := by
  unfold okS PyData.strOk
  show (l.toArray.all _) = true
  simp only [List.all_toArray, List.all_eq_true, decide_eq_true_eq]
  exact h
theorem okS_tx {p : List Nat} (h : ∀ i ∈ p, i < 10) : okS (tx p) := okS_of fun c hc => by
  obtain ⟨i, hi, rfl⟩ := mem_tx.mp hc
  have := h i hi; omega
@[simp] theorem okS_nil : okS [] := okS_of fun c h => by cases h
/-! slices, subscripts -/
section
variable {α : Type} {xs : List α}
theorem cut_to (n : Nat) : cutL xs none (some (n : Int)) = xs.take n := by
  unfold cutL
  rw [show HT.sIx xs.length xs.length (some (n : Int)) = min n xs.length from HT.sIx_nat xs.length _ n, HT.sIx_none, List.drop_zero, Nat.sub_zero]
  by_cases h : n ≤ xs.length
  · rw [Nat.min_eq_left h]
  · rw [Nat.min_eq_right (by omega), List.take_length, List.take_of_length_le (by omega)]
theorem cut_from (n : Nat) : cutL xs (some (n : Int)) none = xs.drop n := by
  unfold cutL
  rw [show HT.sIx xs.length 0 (some (n : Int)) = min n xs.length from HT.sIx_nat xs.length _ n, HT.sIx_none]
  rw [List.take_of_length_le (by rw [List.length_drop]; omega)]
  by_cases h : n ≤ xs.length
  · rw [Nat.min_eq_left h]
  · rw [Nat.min_eq_right (by omega), List.drop_length, List.drop_eq_nil_of_le (by omega)]
theorem cut_from1 : cutL xs (some 1) none = xs.drop 1 := cut_from 1
theorem cut2 {A : Type} {f : A → D} {xs : List A} : cutL (xs.map f) none (some 2) = (xs.take 2).map f := by rw [List.map_take]; exact cut_to 2
theorem cut5 {A : Type} {f : A → D} {xs : List A} : cutL (xs.map f) none (some 5) = (xs.take 5).map f := by rw [List.map_take]; exact cut_to 5
theorem cut_last : cutL xs none (some (-1)) = xs.dropLast := by
  unfold cutL
  have h : HT.sIx xs.length xs.length (some (-1)) = xs.length - 1 := by
    unfold HT.sIx
    simp
    omega
  rw [h, HT.sIx_none, List.drop_zero, Nat.sub_zero, List.dropLast_eq_take]
theorem at_nat {i : Nat} {x : α} (h : xs[i]? = some x) : atI xs (i : Int) = some x := atI_nat h
theorem at_last {x : α} (h : xs.getLast? = some x) : atI xs (-1) = some x := by
  rw [List.getLast?_eq_some_iff] at h
  obtain ⟨ys, rfl⟩ := h
  exact atI_last _ _
theorem zw {A B : Type} (xs : List A) (ys : List B) (f : A → D) (g : B → D) : List.zipWith pairD (xs.map f) (ys.map g) = (xs.zip ys).map fun ab => pairD (f ab.1) (g ab.2) := by
  induction xs generalizing ys with
  | nil => rfl
  | cons x xs ih =>
    cases ys with
    | nil => rfl
    | cons y ys => simp [ih]
end
theorem zwf {A B C : Type} (f : A → B → C) (xs : List A) (ys : List B) : List.zipWith f xs ys = (xs.zip ys).map fun ab => f ab.1 ab.2 := by
  induction xs generalizing ys with
  | nil => rfl
  | cons x xs ih =>
    cases ys with
    | nil => rfl
    | cons y ys => simp [ih]
@[simp] theorem o_lt1 {a b : Nat} {p : D → Prop} : opLt (.str [a]) (.str [b]) p = p (.bl (decide (a < b))) := by
  have e : decide ([a] < [b]) = decide (a < b) := decide_eq_decide.mpr (by rw [List.cons_lt_cons_iff]; simp)
  show p (.bl (decide ([a] < [b]))) = _
  rw [e]
@[simp] theorem all_true {A : Type} (xs : List A) : (xs.all fun _ => true) = true := by induction xs <;> simp
/-! ### letterings, boxes -/
structure Lt (n : Nat) (p : List Nat) : Prop where
  len : p.length = n
  perm : p.Perm (List.range n)
def Inv (p : List Nat) : Prop := ∀ i j : Nat, p[i]? = some j → p[j]? = some i
def Fix0 (p : List Nat) : Prop := ∀ i : Nat, p[i]? ≠ some i
def Nt (n : Nat) (z : List Nat) : Prop := z.Pairwise (· < ·) ∧ ∀ i ∈ z, i < n
def Nn (n : Nat) : Prop := n = 4 ∨ n = 6 ∨ n = 8 ∨ n = 10
theorem Nn.le {n : Nat} (h : Nn n) : n ≤ 10 := by unfold Nn at h; omega
theorem Nn.pos {n : Nat} (h : Nn n) : 0 < n := by unfold Nn at h; omega
theorem Lt.lt {n : Nat} {p : List Nat} (h : Lt n p) : ∀ i ∈ p, i < n := fun i hi => by simpa using h.perm.subset hi
theorem Lt.mem {n i : Nat} {p : List Nat} (h : Lt n p) (hi : i < n) : i ∈ p := h.perm.symm.subset (by simpa using hi)
theorem Lt.lt' {n i j : Nat} {p : List Nat} (h : Lt n p) (e : p[i]? = some j) : j < n := h.lt j (List.mem_of_getElem? e)
def whD (w : List Nat × List Nat) : D := .tup [.str (tx w.1), .str (tx w.2)]
def bxD (co : List Nat) (ws : List (List Nat × List Nat)) (pl : List Nat) : D := .tup [.str (tx co), .tup (ws.map whD), .str (tx pl)]
section
variable {co pl co2 pl2 : List Nat} {ws ws2 : List (List Nat × List Nat)} {w w2 : List Nat × List Nat} {k : Kd} {ds : List D} {r : Option D} {ρ : VEnv}
@[simp] theorem bx_brw : (bxD co ws pl).brw = false := rfl
@[simp] theorem bx_keep : (bxD co ws pl).keep = bxD co ws pl := rfl
@[simp] theorem bx_to : (bxD co ws pl).to k = bxD co ws pl := rfl
@[simp] theorem bx_imm : (bxD co ws pl).imm = true := rfl
@[simp] theorem bx_fin : finA (bxD co ws pl :: ds) (r :: ρ) = bxD co ws pl :: finA ds ρ := rfl
@[simp] theorem wh_brw : (whD w).brw = false := rfl
@[simp] theorem wh_keep : (whD w).keep = whD w := rfl
@[simp] theorem wh_to : (whD w).to k = whD w := rfl
@[simp] theorem wh_imm : (whD w).imm = true := rfl
@[simp] theorem wh_fin : finA (whD w :: ds) (r :: ρ) = whD w :: finA ds ρ := rfl
@[simp] theorem wh_inj : (whD w = whD w2) = (w = w2) := by
  obtain ⟨a, b⟩ := w; obtain ⟨c, d⟩ := w2
  simp [whD]
@[simp] theorem whs_inj : (ws.map whD = ws2.map whD) = (ws = ws2) := propext ⟨fun h => by
  induction ws generalizing ws2 with
  | nil => cases ws2 <;> simp at h ⊢
  | cons x xs ih =>
    cases ws2 with
    | nil => simp at h
    | cons y ys =>
      simp only [List.map_cons, List.cons.injEq, wh_inj] at h
      rw [h.1, ih h.2], fun h => by rw [h]⟩
@[simp] theorem bx_inj : (bxD co ws pl = bxD co2 ws2 pl2) = (co = co2 ∧ ws = ws2 ∧ pl = pl2) := by simp [bxD]
@[simp] theorem bx_ix0 {p : D → Prop} : opIx (bxD co ws pl) (.int 0) p = p (.str (tx co)) := propext ⟨fun ⟨d, e, h⟩ => by
  rw [show atI [D.str (tx co), .tup (ws.map whD), .str (tx pl)] 0 = some (.str (tx co)) from atI_nat (j := 0) rfl] at e; cases e; exact h, fun h => ⟨_, atI_nat (j := 0) rfl, h⟩⟩
@[simp] theorem bx_ix1 {p : D → Prop} : opIx (bxD co ws pl) (.int 1) p = p (.tup (ws.map whD)) := propext ⟨fun ⟨d, e, h⟩ => by
  rw [show atI [D.str (tx co), .tup (ws.map whD), .str (tx pl)] 1 = some (.tup (ws.map whD)) from atI_nat (j := 1) rfl] at e; cases e; exact h, fun h => ⟨_, atI_nat (j := 1) rfl, h⟩⟩
@[simp] theorem bx_ix2 {p : D → Prop} : opIx (bxD co ws pl) (.int 2) p = p (.str (tx pl)) := propext ⟨fun ⟨d, e, h⟩ => by
  rw [show atI [D.str (tx co), .tup (ws.map whD), .str (tx pl)] 2 = some (.str (tx pl)) from atI_nat (j := 2) rfl] at e; cases e; exact h, fun h => ⟨_, atI_nat (j := 2) rfl, h⟩⟩
@[simp] theorem wh_ix0 {p : D → Prop} : opIx (whD w) (.int 0) p = p (.str (tx w.1)) := propext ⟨fun ⟨d, e, h⟩ => by
  rw [show atI [D.str (tx w.1), .str (tx w.2)] 0 = some (.str (tx w.1)) from atI_nat (j := 0) rfl] at e; cases e; exact h, fun h => ⟨_, atI_nat (j := 0) rfl, h⟩⟩
@[simp] theorem wh_ix1 {p : D → Prop} : opIx (whD w) (.int 1) p = p (.str (tx w.2)) := propext ⟨fun ⟨d, e, h⟩ => by
  rw [show atI [D.str (tx w.1), .str (tx w.2)] 1 = some (.str (tx w.2)) from atI_nat (j := 1) rfl] at e; cases e; exact h, fun h => ⟨_, atI_nat (j := 1) rfl, h⟩⟩
theorem nd_len {z : List Nat} {n : Nat} (hs : z.Nodup) (h : ∀ i ∈ z, i < n) : z.length ≤ n := by
  have := (List.Nodup.length_le_of_subset hs (l₂ := List.range n) fun i hi => by simpa using h i hi)
  simpa using this
end
theorem rangeD_nat (n : Nat) : rangeD 0 (n : Int) = (List.range n).map fun i : Nat => D.int i := by simp [rangeD]
def sgs (L : List Nat) : List D := L.map fun i => .str [97 + i]
@[simp] theorem sgs_len (L : List Nat) : (sgs L).length = L.length := by simp [sgs]
theorem sgs_get (L : List Nat) (i : Nat) : (sgs L)[i]? = (L[i]?).map fun i => .str [97 + i] := by simp [sgs]
theorem sgs_tx (L : List Nat) : (tx L).map (fun c => D.str [c]) = sgs L := by simp [tx, sgs]
theorem sgs_app (L M : List Nat) : sgs (L ++ M) = sgs L ++ sgs M := by simp [sgs]
theorem map_erase {A B : Type} (f : A → B) (L : List A) (i : Nat) : (L.map f).eraseIdx i = (L.eraseIdx i).map f := by
  rw [List.eraseIdx_eq_take_drop_succ, List.eraseIdx_eq_take_drop_succ, List.map_append, List.map_take, List.map_drop]
theorem sgs_erase (L : List Nat) (i : Nat) : (sgs L).eraseIdx i = sgs (L.eraseIdx i) := map_erase _ L i
theorem sgs_set (L : List Nat) (i j : Nat) : (sgs L).set i (.str [97 + j]) = sgs (L.set i j) := by simp [sgs, List.map_set]
@[simp high] theorem o_joinS {k : Kd} {L : List Nat} {p : D → Prop} : opJoin (.str []) [.seq k (sgs L)] p = (L.length ≤ 16777216 ∧ p (.str (tx L))) := by unfold sgs; rw [o_join1]; rfl
theorem erase_perm {A : Type} : ∀ {L : List A} {r : Nat} {x : A}, L[r]? = some x → (x :: L.eraseIdx r).Perm L
  | y :: L, 0, x, h => by simp at h; subst h; simp
  | y :: L, r + 1, x, h => by
    have ih := erase_perm (L := L) (r := r) (x := x) (by simpa using h)
    rw [List.eraseIdx_cons_succ]
    exact (List.Perm.swap y x _).trans (ih.cons y)
/-! ### the well -/
def wlD (a b c : Int) : D := .seq .own [.int a, .int b, .int c]
structure WlOk (a b : Int) : Prop where
  a0 : 0 ≤ a
  b0 : 0 ≤ b
  b1 : b < 2147483563
section
variable {a b c a2 b2 c2 : Int} {k : Kd} {ds : List D} {r : Option D} {x : D} {ρ : VEnv}
@[simp] theorem wl_brw : (wlD a b c).brw = true := rfl
@[simp] theorem wl_keep : (wlD a b c).keep = wlD a b c := rfl
@[simp] theorem wl_to : (wlD a b c).to .own = wlD a b c := rfl
@[simp] theorem wl_kd : (wlD a b c).kd = .own := rfl
@[simp] theorem wl_fin : finA (wlD a b c :: ds) (some x :: ρ) = x.to .own :: finA ds ρ := rfl
@[simp] theorem wl_inj : (wlD a b c = wlD a2 b2 c2) = (a = a2 ∧ b = b2 ∧ c = c2) := by simp [wlD]
end
structure BxOk (n : Nat) (co : List Nat) (ws : List (List Nat × List Nat)) (pl : List Nat) : Prop where
  nn : Nn n
  lc : Lt n co
  ic : Inv co
  w1 : 1 ≤ ws.length
  w3 : ws.length ≤ 3
  wk : ∀ w ∈ ws, Lt n w.1 ∧ Nt n w.2
  lp : Lt n pl
  ip : Inv pl
  fp : Fix0 pl
theorem led_inv {n : Nat} {p : List Nat} (h : Lt n p) (hi : Inv p) : p.map (fun i => p[i]?.getD 0) = List.range n := by
  apply List.ext_getElem?
  intro k
  rw [List.getElem?_map]
  by_cases hk : k < p.length
  · have e := List.getElem?_eq_getElem hk
    have := hi k _ e
    rw [e]
    simp only [Option.map_some, this, Option.getD_some]
    rw [List.getElem?_range (by rw [← h.len]; exact hk)]
  · rw [List.getElem?_eq_none (by omega), List.getElem?_eq_none (by rw [List.length_range, ← h.len]; omega)]; rfl
end VL

namespace VL
open PySem PySem.Spec PyProof.Rows L2
abbrev Vc (wb : WS) (n : Nat) (S : Spec) : Prop := ∀ ds q, S ds q → wb { nx := fun ρ => q .non (finA ds ρ), rt := fun d ρ => q d (finA ds ρ) } (env0 n ds)
@[simp] theorem o_in2 {b : Bool} {a : Int} {ds : List D} {p : D → Prop} : opIn b (.int a) (.tup ds) p = (flD (.int a) = true ∧ ds.all flD = true ∧ p (.bl (if b then !ds.any (fun y => eqF y (.int a)) else ds.any (fun y => eqF y (.int a))))) := rfl
@[simp] theorem o_in3 {b : Bool} {l : List Nat} {ds : List D} {p : D → Prop} : opIn b (.str l) (.tup ds) p = (flD (.str l) = true ∧ ds.all flD = true ∧ p (.bl (if b then !ds.any (fun y => eqF y (.str l)) else ds.any (fun y => eqF y (.str l))))) := by
  match l with
  | [] => rfl
  | [_] => rfl
  | _ :: _ :: _ => rfl
def S_is_whole : Spec := fun ds q => ∃ d, ds = [d] ∧ d.brw = false ∧ (∃ t, tyName d = some t) ∧ q (.bl (isT .int d && !isT .bool d)) [d]
def S_is_tuple_of : Spec := fun ds q => ∃ (xs : List D) (m : Int), ds = [.tup xs, .int m] ∧ q (.bl ((xs.length : Int) == m)) ds
def S_is_text_of : Spec := fun ds q => ∃ l z, ds = [.str l, .str z] ∧ l.length ≤ 1000000 ∧ q (.bl (l.all fun c => decide (c ∈ z))) ds
def S_is_ascending : Spec := fun ds q => ∃ l, ds = [.str (tx l)] ∧ l.length ≤ 1000000 ∧ l.Pairwise (· < ·) ∧ q (.bl true) ds
def S_is_number : Spec := fun ds q => ∃ n : Nat, ds = [.int n] ∧ Nn n ∧ q (.bl true) ds
def S_signs_of : Spec := fun ds q => ∃ n : Nat, ds = [.int n] ∧ n ≤ 10 ∧ q (.str (tx (List.range n))) ds
def S_is_lettering_of : Spec := fun ds q => ∃ (n : Nat) (p : List Nat), ds = [.int n, .str (tx p)] ∧ n ≤ 10 ∧ Lt n p ∧ q (.bl true) ds
def S_is_lettered : Spec := fun ds q => ∃ (n : Nat) (p : List Nat), ds = [.str (tx p)] ∧ Nn n ∧ Lt n p ∧ q (.bl true) ds
def S_led : Spec := fun ds q => ∃ (p : List Nat) (i j : Nat), ds = [.str (tx p), .str [97 + i]] ∧ i < 10 ∧ p.length ≤ 10 ∧ p[i]? = some j ∧ q (.str [97 + j]) ds
def S_led_text : Spec := fun ds q => ∃ (p t : List Nat), ds = [.str (tx p), .str (tx t)] ∧ p.length ≤ 10 ∧ t.length ≤ 1000000 ∧ (∀ i ∈ t, i < p.length) ∧ q (.str (tx (t.map fun i => p[i]?.getD 0))) ds
def S_plain_of : Spec := S_signs_of
def S_product_of : Spec := fun ds q => ∃ (p t : List Nat), ds = [.str (tx t), .str (tx p)] ∧ p.length ≤ 10 ∧ t.length ≤ 1000000 ∧ (∀ i ∈ t, i < p.length) ∧ q (.str (tx (t.map fun i => p[i]?.getD 0))) ds
def S_still_of : Spec := fun ds q => ∃ p, ds = [.str (tx p)] ∧ p.length ≤ 10 ∧ (∀ i ∈ p, i < 10) ∧ Fix0 p ∧ q (.str []) ds
def S_are_corded : Spec := fun ds q => ∃ (n : Nat) (p : List Nat), ds = [.str (tx p)] ∧ Nn n ∧ Lt n p ∧ Inv p ∧ q (.bl true) ds
def S_is_paired : Spec := fun ds q => ∃ (n : Nat) (p : List Nat), ds = [.str (tx p)] ∧ Nn n ∧ Lt n p ∧ Inv p ∧ Fix0 p ∧ q (.bl true) ds
def S_is_pairing_of : Spec := fun ds q => ∃ (n : Nat) (p : List Nat), ds = [.int n, .str (tx p)] ∧ Nn n ∧ Lt n p ∧ Inv p ∧ Fix0 p ∧ q (.bl true) ds
def S_are_notches_of : Spec := fun ds q => ∃ (n : Nat) (z : List Nat), ds = [.int n, .str (tx z)] ∧ n ≤ 10 ∧ z.length ≤ 1000000 ∧ Nt n z ∧ q (.bl true) ds
-- is_whole [(0, 'value')]
def wb_is_whole : WS := (wRet (wAndV (wIsi .int (wVar 0)) (wNotV (wIsi .bool (wVar 0)))))
-- is_tuple_of [(0, 'value'), (1, 'many')]
def wb_is_tuple_of : WS := (wRet (wAndV (wIsi .tuple (wVar 0)) (wBin opEq (wCallN (f1 opLen) (wAV 0 wN)) (wVar 1))))
-- is_text_of [(0, 'value'), (1, 'signs'), (2, 'sign')]
def wb_is_text_of : WS := (wRet (wAndV (wIsi .str (wVar 0)) (wCallN (f1 opAll) (wAE (wLc (wIV 0) (gN 2) [2] (fun ρ q => q true ρ) (wBin (opIn false) (wVar 2) (wVar 1))) wN))))
-- is_ascending [(0, 'row'), (1, 'one'), (2, 'two')]
def wb_is_ascending : WS := (wRet (wCallN (f1 opAll) (wAE (wLc (wZip (wAV 0 (wAE (wSlice (wVar 0) (wPt (wC (.int 1))) wNo) wN))) (gT 2 (gsC (gN 1) (gsC (gN 2) gsN))) [1, 2] (fun ρ q => q true ρ) (wBin opLt (wVar 1) (wVar 2))) wN)))
-- is_number [(0, 'value')]
def wb_is_number : WS := (wRet (wAndV (wCall S_is_whole (wAV 0 wN)) (wBin (opIn false) (wVar 0) (wC (.tup [(.int 4), (.int 6), (.int 8), (.int 10)])))))
-- signs_of [(0, 'number')]
def wb_signs_of : WS := (wRet (wSlice (wC (.str SG)) wNo (wPt (wVar 0))))
-- is_lettering_of [(0, 'number'), (1, 'value'), (2, 'sign')]
def wb_is_lettering_of : WS := (wSeq (wIf (wOr (wNot (wVal (wCall S_is_text_of (wAV 1 (wAE (wCall S_signs_of (wAV 0 wN)) wN))))) (wVal (wBin opNe (wCallN (f1 opLen) (wAV 1 wN)) (wVar 0))))
 (wRet (wC (.bl false)))
 wNext)
 (wRet (wCallN (f1 opAll) (wAE (wLc (wI (wCall S_signs_of (wAV 0 wN))) (gN 2) [2] (fun ρ q => q true ρ) (wBin (opIn false) (wVar 2) (wVar 1))) wN))))
-- is_lettered [(0, 'value')]
def wb_is_lettered : WS := (wRet (wAndV (wIsi .str (wVar 0)) (wAndV (wCall S_is_number (wAE (wCallN (f1 opLen) (wAV 0 wN)) wN)) (wCall S_is_lettering_of (wAE (wCallN (f1 opLen) (wAV 0 wN)) (wAV 0 wN))))))
-- led [(0, 'lettering'), (1, 'sign')]
def wb_led : WS := (wRet (wBin opIx (wVar 0) (wMeth "str" opSIndex (wC (.str SG)) (wAV 1 wN))))
-- led_text [(0, 'lettering'), (1, 'text'), (2, 'sign')]
def wb_led_text : WS := (wRet (wMeth "str" opJoin (wC (.str [])) (wAE (wLc (wIV 1) (gN 2) [2] (fun ρ q => q true ρ) (wCall S_led (wAV 0 (wAV 2 wN)))) wN)))
-- plain_of [(0, 'number')]
def wb_plain_of : WS := (wRet (wCall S_signs_of (wAV 0 wN)))
-- product_of [(0, 'lettering'), (1, 'other')]
def wb_product_of : WS := (wRet (wCall S_led_text (wAV 1 (wAV 0 wN))))
-- still_of [(0, 'lettering'), (1, 'sign'), (2, 'there')]
def wb_still_of : WS := (wRet (wMeth "str" opJoin (wC (.str [])) (wAE (wLc (wZip (wAE (wC (.str SG)) (wAV 0 wN))) (gT 2 (gsC (gN 1) (gsC (gN 2) gsN))) [1, 2] (wVal (wBin opEq (wVar 1) (wVar 2))) (wVar 1)) wN)))
-- are_corded [(0, 'value')]
def wb_are_corded : WS := (wRet (wAndV (wCall S_is_lettered (wAV 0 wN)) (wBin opEq (wCall S_product_of (wAV 0 (wAV 0 wN))) (wCall S_plain_of (wAE (wCallN (f1 opLen) (wAV 0 wN)) wN)))))
-- is_paired [(0, 'value')]
def wb_is_paired : WS := (wRet (wAndV (wCall S_are_corded (wAV 0 wN)) (wBin opEq (wCall S_still_of (wAV 0 wN)) (wC (.str [])))))
-- is_pairing_of [(0, 'number'), (1, 'value')]
def wb_is_pairing_of : WS := (wRet (wAndV (wCall S_is_paired (wAV 1 wN)) (wBin opEq (wCallN (f1 opLen) (wAV 1 wN)) (wVar 0))))
-- are_notches_of [(0, 'number'), (1, 'value')]
def wb_are_notches_of : WS := (wRet (wAndV (wCall S_is_text_of (wAV 1 (wAE (wCall S_signs_of (wAV 0 wN)) wN))) (wCall S_is_ascending (wAV 1 wN))))
theorem vc_is_whole : Vc wb_is_whole 1 S_is_whole := by
  rintro ds q ⟨d, rfl, hb, ⟨t, ht⟩, h⟩
  simp [wb_is_whole, ht, n_fin1 hb]
  cases hh : isT .int d <;> rw [hh] at h <;> simpa using h
theorem vc_is_tuple_of : Vc wb_is_tuple_of 2 S_is_tuple_of := by
  rintro ds q ⟨xs, m, rfl, h⟩
  simpa [wb_is_tuple_of, isT] using h
theorem vc_is_text_of : Vc wb_is_text_of 3 S_is_text_of := by
  rintro ds q ⟨l, z, rfl, hl, h⟩
  simp [wb_is_text_of, x_lc, isT]
  refine lc_map l (fun c => .str [c]) (fun c => .bl (decide (c ∈ z))) rfl (by simp [nbs]) rfl trivial (small_le hl) (by simp [wpE, unwE]) (fun i x hx acc ha W hW => ?_) ?_
  · simp [wpE] at hW ⊢
    exact ⟨ha, hW⟩
  · simpa [List.all_map] using h
theorem zip_lt : ∀ {l : List Nat}, l.Pairwise (· < ·) → ∀ ab ∈ l.zip (l.drop 1), ab.1 < ab.2
  | [], _, ab, h => by simp at h
  | [x], _, ab, h => by simp at h
  | x :: y :: r, hp, ab, h => by
    simp only [List.drop_succ_cons, List.drop_zero, List.zip_cons_cons, List.mem_cons] at h
    rcases h with rfl | h
    · exact (List.pairwise_cons.mp hp).1 y (by simp)
    · exact zip_lt (List.pairwise_cons.mp hp).2 ab (by simpa using h)
theorem vc_is_ascending : Vc wb_is_ascending 3 S_is_ascending := by
  rintro ds q ⟨l, rfl, hl, hp, h⟩
  simp [wb_is_ascending, x_lc, wtZ, cut_from1]
  refine ⟨small_le hl, ?_⟩
  refine lc_map (l.zip (l.drop 1)) (fun ab => pairD (.str [97 + ab.1]) (.str [97 + ab.2])) (fun _ => .bl true) ?_ (by simp [nbs]) rfl trivial (small_le ?_) (by simp [wpE, unwE]) (fun i x hx acc ha W hW => ?_) ?_
  · simp only [tx, List.map_map, ← List.map_tail]
    rw [zw, List.drop_one]; rfl
  · rw [List.length_zip, List.length_drop]; omega
  · have := zip_lt hp x (List.mem_of_getElem? hx)
    simp [wpE, pairD, and_assoc, this] at hW ⊢
    exact ⟨ha, hW⟩
  · simp [List.map_map, Function.comp_def]; simpa using h
theorem vc_is_number : Vc wb_is_number 1 S_is_number := by
  rintro ds q ⟨n, rfl, hn, h⟩
  simp [wb_is_number, S_is_whole, isT, flD, eqF]
  have e : ((4 : Int) == n || ((6 : Int) == n || ((8 : Int) == n || (10 : Int) == n))) = true := by
    rcases hn with rfl | rfl | rfl | rfl <;> decide
  rw [e]; exact h
theorem vc_signs_of : Vc wb_signs_of 1 S_signs_of := by
  rintro ds q ⟨n, rfl, hn, h⟩
  simp [wb_signs_of, cut_to, sg_take hn]
  exact ⟨by decide, h⟩
theorem all_in {n : Nat} {p : List Nat} (h : ∀ i ∈ p, i < n) : ((tx p).all fun c => decide (c ∈ tx (List.range n))) = true := by
  simp only [List.all_eq_true, decide_eq_true_eq]
  intro c hc
  obtain ⟨i, hi, rfl⟩ := mem_tx.mp hc
  simpa using h i hi
theorem vc_is_lettering_of : Vc wb_is_lettering_of 3 S_is_lettering_of := by
  rintro ds q ⟨n, p, rfl, hn, hp, h⟩
  have hl := hp.len
  have hs : ∀ x, x ∈ tx p → x ∈ tx (List.range n) := fun x hx => by simpa using List.all_eq_true.mp (all_in hp.lt) x hx
  simp [wb_is_lettering_of, S_is_text_of, S_signs_of, hn, hl, x_lc, and_assoc]
  rw [if_pos hs]
  refine ⟨by omega, small_le (by omega), ?_⟩
  refine lc_map (List.range n) (fun i => .str [97 + i]) (fun _ => .bl true) (by simp [tx]) (by simp [nbs]) rfl trivial (small_le (by simp; omega)) (by simp [wpE, unwE]) (fun i x hx acc ha W hW => ?_) ?_
  · have hx' : x ∈ p := hp.mem (by simpa using List.mem_of_getElem? hx)
    simp [wpE, hx'] at hW ⊢
    exact ⟨ha, hW⟩
  · simpa using h
theorem vc_is_lettered : Vc wb_is_lettered 1 S_is_lettered := by
  rintro ds q ⟨n, p, rfl, hn, hp, h⟩
  have hl := hp.len
  have h1 := hn.le
  simp [wb_is_lettered, isT, S_is_number, S_is_lettering_of, hl, hn, h1, and_assoc]
  exact ⟨small_le (by omega), hp, h⟩
theorem vc_led : Vc wb_led 2 S_led := by
  rintro ds q ⟨p, i, j, rfl, hi, hp, e, h⟩
  simp [wb_led, sg_mem hi, sg_idx hi]
  refine ⟨small_le (by omega), _, at_nat (by rw [tx_get, e]; rfl), h⟩
theorem vc_led_text : Vc wb_led_text 3 S_led_text := by
  rintro ds q ⟨p, t, rfl, hp, ht, hm, h⟩
  simp [wb_led_text, x_lc]
  refine lc_map t (fun i => .str [97 + i]) (fun i => .str [97 + p[i]?.getD 0]) (by simp [tx]) (by simp [nbs]) rfl trivial (small_le ht) (by simp [wpE, unwE]) (fun i x hx acc ha W hW => ?_) ?_
  · have hx' := hm x (List.mem_of_getElem? hx)
    simp [wpE, S_led] at hW ⊢
    refine ⟨p, x, ⟨rfl, rfl⟩, by omega, hp, p[x], List.getElem?_eq_getElem hx', ha, ?_⟩
    rw [List.getElem?_eq_getElem hx'] at hW
    exact hW
  · simp [flat_one]
    refine ⟨by omega, ?_⟩
    rw [tx, List.map_map] at h
    simpa [Function.comp_def] using h
theorem vc_plain_of : Vc wb_plain_of 1 S_plain_of := by
  rintro ds q ⟨n, rfl, hn, h⟩
  simp [wb_plain_of, S_signs_of, hn]
  exact h
theorem vc_product_of : Vc wb_product_of 2 S_product_of := by
  rintro ds q ⟨p, t, rfl, hp, ht, hm, h⟩
  simp [wb_product_of, S_led_text]
  exact ⟨p, t, ⟨rfl, rfl⟩, hp, ht, hm, by simpa using h⟩
theorem vc_still_of : Vc wb_still_of 3 S_still_of := by
  rintro ds q ⟨p, rfl, hp, hb, hf, h⟩
  simp [wb_still_of, x_lc, wtZ]
  refine lc_filter (SG.zip (tx p)) (fun ab => pairD (.str [ab.1]) (.str [ab.2])) (fun _ => none) ?_ (by simp [nbs]) rfl trivial (small_le ?_) (by simp [wpE, unwE]) (fun i x hx acc ha W hW => ?_) ?_
  · rw [zwf]
  · rw [List.length_zip]; simp; omega
  · rw [List.getElem?_zip_eq_some] at hx
    obtain ⟨h1, h2⟩ := hx
    have hi : i < 10 := (List.getElem?_eq_some_iff.mp h1).1
    rw [sg_get hi] at h1
    rw [tx_get] at h2
    have hne : (x.1 == x.2) = false := by
      cases e : p[i]? with
      | none => rw [e] at h2; cases h2
      | some j =>
        rw [e] at h2
        have : j ≠ i := fun z => hf i (z ▸ e)
        simp at h1 h2
        rw [← h1, ← h2]
        simp; omega
    have o1 : okS [x.1] := okS_of fun c hc => by
      simp at hc h1; omega
    have o2 : okS [x.2] := okS_of fun c hc => by
      simp at hc
      cases e : p[i]? with
      | none => rw [e] at h2; cases h2
      | some j =>
        rw [e] at h2
        simp at h2
        have := hb j (List.mem_of_getElem? e)
        omega
    simp [wpE, pairD, hne, o1, o2, and_assoc] at hW ⊢
    have hne' : x.1 ≠ x.2 := by simpa using hne
    exact hW
  · have e : (SG.zip (tx p)).filterMap (fun _ => (none : Option D)) = [] := by simp
    rw [e]
    simp [strsOf]; exact h
theorem vc_are_corded : Vc wb_are_corded 1 S_are_corded := by
  rintro ds q ⟨n, p, rfl, hn, hp, hi, h⟩
  have hl := hp.len
  have h1 := hn.le
  have e := led_inv hp hi
  have hm : ∀ i, i ∈ p → i < n := hp.lt
  simp [wb_are_corded, S_is_lettered, S_product_of, S_plain_of, S_signs_of, hl, hn, h1, and_assoc]
  rw [e]
  have ok : okS (tx (List.range n)) := okS_tx fun i h => by simp at h; omega
  refine ⟨n, hn, hp, by omega, hm, small_le (by omega), ok, ok, ?_⟩
  simpa using h
theorem vc_is_paired : Vc wb_is_paired 1 S_is_paired := by
  rintro ds q ⟨n, p, rfl, hn, hp, hi, hf, h⟩
  have hl := hp.len
  have h1 := hn.le
  simp [wb_is_paired, S_are_corded, S_still_of, hl, hn, h1, hi, and_assoc]
  exact ⟨n, hn, hp, fun i h => by have := hp.lt i h; omega, hf, h⟩
theorem vc_is_pairing_of : Vc wb_is_pairing_of 2 S_is_pairing_of := by
  rintro ds q ⟨n, p, rfl, hn, hp, hi, hf, h⟩
  have hl := hp.len
  have h1 := hn.le
  simp [wb_is_pairing_of, S_is_paired, hl, hn, h1, hi, hf, and_assoc]
  exact ⟨n, hn, hp, small_le (by omega), h⟩
theorem vc_are_notches_of : Vc wb_are_notches_of 2 S_are_notches_of := by
  rintro ds q ⟨n, z, rfl, hn, hz, ⟨h1, h2⟩, h⟩
  have hs : ∀ x, x ∈ tx z → x ∈ tx (List.range n) := fun x hx => by simpa using List.all_eq_true.mp (all_in h2) x hx
  simp [wb_are_notches_of, S_is_text_of, S_signs_of, S_is_ascending, hz, hn, and_assoc]
  rw [if_pos hs]
  exact ⟨h1, h⟩
end VL

namespace VL
open PySem PySem.Spec PyProof.Rows L2
def S__law_well : Spec := fun ds q => ∃ (ns : List Int) (t : Nat), ds = [.seq .froz (ns.map D.int), .int t] ∧ ns.length ≤ 63 ∧ t ≤ 100 ∧ ∀ a b c, WlOk a b → q (.seq .tmp [.int a, .int b, .int c]) ds
def S__law_take : Spec := fun ds q => ∃ (a b c : Int) (m : Nat), ds = [wlD a b c, .int m] ∧ WlOk a b ∧ 1 ≤ m ∧ m < 1073741824 ∧ ∀ (r : Nat) a' b' c', r < m → WlOk a' b' → q (.int r) [wlD a' b' c', .int m]
def S__law_pick : Spec := fun ds q => ∃ (a b c : Int) (xs : List D), ds = [wlD a b c, .seq .own xs] ∧ WlOk a b ∧ 1 ≤ xs.length ∧ xs.length < 1073741824 ∧ (∀ d ∈ xs, d.brw = false) ∧ ∀ d a' b' c', d ∈ xs → WlOk a' b' → q d [wlD a' b' c', .seq .own xs]
def S__law_signs : Spec := S_signs_of
def S__law_lettering : Spec := fun ds q => ∃ (a b c : Int) (n : Nat), ds = [wlD a b c, .int n] ∧ WlOk a b ∧ n ≤ 10 ∧ ∀ p a' b' c', Lt n p → WlOk a' b' → q (.str (tx p)) [wlD a' b' c', .int n]
-- _law_well [(0, 'script'), (1, 'turn'), (2, 'own'), (3, 'stir'), (4, 'cell')]
def wb__law_well : WS := (wSeq (wSet 2 (wIfE (wVal (wBin opLt (wVar 1) (wCallN (f1 opLen) (wAV 0 wN)))) (wCallN (f1 opInt) (wAE (wBin opIx (wVar 0) (wVar 1)) wN)) (wBin opAdd (wBin opAdd (wBin opMul (wC (.int 9311)) (wVar 1)) (wBin opMod (wCallN (f1 opInt) (wAE (wCallN (f1 opSum) (wAE (wSlice (wVar 0) wNo (wPt (wC (.int 2)))) wN)) wN)) (wC (.int 1000003)))) (wC (.int 71)))))
 (wSeq (wSet 3 (wBin opAdd (wC (.int 50021)) (wBin opMul (wC (.int 1013)) (wVar 1))))
 (wSeq (wFor (wI (wBin opAdd (wSlice (wVar 0) wNo (wPt (wC (.int 5)))) (wLst (wAV 2 wN)))) (gN 4)
 (wSet 3 (wBin opMod (wCallN (f1 opInt) (wAE (wBin opAdd (wBin opAdd (wBin opMul (wVar 3) (wC (.int 45013))) (wBin opMod (wCallN (f1 opInt) (wAV 4 wN)) (wC (.int 2147483399)))) (wC (.int 37))) wN)) (wC (.int 2147483563)))))
 (wRet (wLst (wAE (wIfE (wOr (wVal (wBin opLt (wVar 2) (wC (.int 0)))) (wVal (wBin opGe (wVar 2) (wBin opPow (wC (.int 10)) (wC (.int 17)))))) (wCallN (f1 opAbs) (wAV 2 wN)) (wC (.int 0))) (wAV 3 (wAE (wC (.int 0)) wN))))))))
-- _law_take [(0, 'well'), (1, 'many'), (2, 'figure'), (3, 'by')]
def wb__law_take : WS := (wSeq (wIf (wVal (wBin opGt (wBin opIx (wVar 0) (wC (.int 0))) (wC (.int 0))))
 (wSeq (wAsg (wCallN (f2 opDivmod) (wAE (wBin opIx (wVar 0) (wC (.int 0))) (wAV 1 wN))) (gT 2 (gsC (gS 0 (wC (.int 0))) (gsC (gN 2) gsN))))
 (wRetV 2))
 wNext)
 (wSeq (wAsg (wBin opAdd (wBin opIx (wVar 0) (wC (.int 2))) (wC (.int 1))) (gS 0 (wC (.int 2))))
 (wSeq (wSet 3 (wBin opAdd (wBin opMod (wCallN (f1 opInt) (wAE (wBin opIx (wVar 0) (wC (.int 1))) wN)) (wC (.int 28657))) (wC (.int 40009))))
 (wSeq (wAsg (wBin opMod (wCallN (f1 opInt) (wAE (wBin opAdd (wBin opAdd (wBin opMul (wBin opIx (wVar 0) (wC (.int 1))) (wVar 3)) (wBin opMul (wC (.int 50023)) (wBin opIx (wVar 0) (wC (.int 2))))) (wC (.int 17))) wN)) (wC (.int 2147483563))) (gS 0 (wC (.int 1))))
 (wRet (wBin opMod (wCallN (f1 opInt) (wAE (wBin opFDiv (wBin opIx (wVar 0) (wC (.int 1))) (wC (.int 83))) wN)) (wVar 1)))))))
-- _law_pick [(0, 'well'), (1, 'some')]
def wb__law_pick : WS := (wRet (wIxV 1 (wCall S__law_take (wAV 0 (wAE (wCallN (f1 opLen) (wAV 1 wN)) wN)))))
-- _law_signs [(0, 'many')]
def wb__law_signs : WS := (wRet (wSlice (wC (.str SG)) wNo (wPt (wVar 0))))
-- _law_lettering [(0, 'well'), (1, 'many'), (2, 'left'), (3, 'turn')]
def wb__law_lettering : WS := (wSeq (wSet 2 (wCallN (f1 opList) (wAE (wCall S__law_signs (wAV 1 wN)) wN)))
 (wRet (wMeth "str" opJoin (wC (.str [])) (wAE (wLc (wR1 (wAV 1 wN)) (gN 3) [3] (fun ρ q => q true ρ) (wMut "list" 2 opPop (wAE (wCall S__law_take (wAV 0 (wAE (wCallN (f1 opLen) (wAV 2 wN)) wN))) wN))) wN))))
theorem ix0 {α : Type} {x : α} {r : List α} : atI (x :: r) 0 = some x := atI_nat (j := 0) rfl
theorem ix1 {α : Type} {x y : α} {r : List α} : atI (x :: y :: r) 1 = some y := atI_nat (j := 1) rfl
theorem ix2 {α : Type} {x y z : α} {r : List α} : atI (x :: y :: z :: r) 2 = some z := atI_nat (j := 2) rfl
@[simp] theorem wl_ix0 {a b c : Int} {p : D → Prop} : opIx (wlD a b c) (.int 0) p = p (.int a) := propext ⟨fun ⟨d, e, h⟩ => by rw [ix0] at e; cases e; exact h, fun h => ⟨_, ix0, h⟩⟩
@[simp] theorem wl_ix1 {a b c : Int} {p : D → Prop} : opIx (wlD a b c) (.int 1) p = p (.int b) := propext ⟨fun ⟨d, e, h⟩ => by rw [ix1] at e; cases e; exact h, fun h => ⟨_, ix1, h⟩⟩
@[simp] theorem wl_ix2 {a b c : Int} {p : D → Prop} : opIx (wlD a b c) (.int 2) p = p (.int c) := propext ⟨fun ⟨d, e, h⟩ => by rw [ix2] at e; cases e; exact h, fun h => ⟨_, ix2, h⟩⟩
theorem ixN0 : ixN 3 0 = some 0 := by decide
theorem ixN1 : ixN 3 1 = some 1 := by decide
theorem ixN2 : ixN 3 2 = some 2 := by decide
/-- a store to the well -/
theorem wl_own {a b c : Int} {xs : List D} : (wlD a b c = .seq .own xs) = (xs = [.int a, .int b, .int c]) := by
  simp only [wlD, D.seq.injEq, true_and]; exact propext ⟨Eq.symm, Eq.symm⟩
@[simp] theorem wl_fold {a b c : Int} : D.seq .own [.int a, .int b, .int c] = wlD a b c := rfl
theorem vc__law_take : Vc wb__law_take 4 S__law_take := by
  rintro ds q ⟨a, b, c, m, rfl, hw, h1, h2, h⟩
  have hm : (0 : Int) < m := by omega
  by_cases ha : 0 < a
  · simp [wb__law_take, ha, wl_own, ixN0, and_assoc]
    refine ⟨⟨hm, by omega⟩, ?_⟩
    have e : a % (m : Int) = ((a % (m : Int)).toNat : Int) := (Int.toNat_of_nonneg (Int.emod_nonneg _ (by omega))).symm
    have l := Int.emod_lt_of_pos a hm
    rw [e]
    exact h _ _ _ _ (by omega) ⟨Int.ediv_nonneg hw.a0 (by omega), hw.b0, hw.b1⟩
  · simp [wb__law_take, ha, wl_own, ixN0, ixN1, ixN2, ix0, ix1, ix2, and_assoc]
    have hb0 := hw.b0
    have hb1 := hw.b1
    generalize hB : (b * (b % 28657 + 40009) + 50023 * (c + 1) + 17) % 2147483563 = B
    have B0 : 0 ≤ B := by rw [← hB]; exact Int.emod_nonneg _ (by decide)
    have B1 : B < 2147483563 := by rw [← hB]; exact Int.emod_lt_of_pos _ (by decide)
    refine ⟨.inl ⟨by omega, by omega⟩, .inl ⟨by decide, by decide⟩, ⟨by decide, by decide⟩, by omega, ?_⟩
    have e : B / 83 % (m : Int) = ((B / 83 % (m : Int)).toNat : Int) := (Int.toNat_of_nonneg (Int.emod_nonneg _ (by omega))).symm
    have l := Int.emod_lt_of_pos (B / 83) hm
    rw [e]
    exact h _ _ _ _ (by omega) ⟨hw.a0, B0, B1⟩
theorem vc__law_pick : Vc wb__law_pick 2 S__law_pick := by
  rintro ds q ⟨a, b, c, xs, rfl, hw, h1, h2, hb, h⟩
  simp [wb__law_pick, S__law_take, and_assoc]
  refine ⟨hw, h1, h2, fun r a' b' c' hr hw' => ⟨xs[r], at_nat (List.getElem?_eq_getElem hr), hb _ (List.getElem_mem hr), h _ _ _ _ (List.getElem_mem hr) hw'⟩⟩
theorem vc__law_signs : Vc wb__law_signs 1 S__law_signs := by
  rintro ds q ⟨n, rfl, hn, h⟩
  simp [wb__law_signs, cut_to, sg_take hn]
  exact ⟨by decide, h⟩
theorem vc__law_well : Vc wb__law_well 5 S__law_well := by
  rintro ds q ⟨ns, t, rfl, hl, ht, h⟩
  have c1 : CMul 9311 (t : Int) := .inl ⟨by decide, by decide⟩
  have c2 : CMul 1013 (t : Int) := .inl ⟨by decide, by decide⟩
  simp [wb__law_well, x_for, cut2, cut5, c1, c2, and_assoc]
  by_cases hlt : t < ns.length
  · rw [if_pos hlt]
    refine ⟨_, at_nat (by rw [List.getElem?_map, List.getElem?_eq_getElem hlt]; rfl), ?_⟩
    simp
    refine ⟨by decide, small_le (by omega), ?_⟩
    refine for_inv (ns.take 5 ++ [ns[t]]) D.int (fun i ρ => ∃ (s : Int) (r : Option D), ρ = [some (.seq .froz (ns.map D.int)), some (.int t), some (.int (ns[t])), some (.int s), r] ∧ 0 ≤ s ∧ s < 2147483563) (by simp) ⟨_, _, rfl, by omega, by omega⟩ (fun _ _ _ => trivial) ?_ ?_
    · rintro ρ ⟨s, r, rfl, s0, s1⟩
      generalize ns[t] = o at *
      have hp : CPow 10 17 := ⟨by decide, by decide, by decide⟩
      have hz : (3 : Nat) ≤ sizeLine := by decide
      simp [unlE, hp, hz]
      split
      · rename_i ho
        exact h _ _ _ ⟨by omega, s0, s1⟩
      · split
        · rename_i ho _
          exact h _ _ _ ⟨by omega, s0, s1⟩
        · exact h _ _ _ ⟨by omega, s0, s1⟩
    · rintro i x ρ hx ⟨s, r, rfl, s0, s1⟩
      have c3 : CMul s 45013 := .inr ⟨by decide, by decide⟩
      simp [c3]
      exact ⟨Int.emod_nonneg _ (by decide), Int.emod_lt_of_pos _ (by decide)⟩
  · rw [if_neg hlt]
    refine ⟨(ns.take 2), by rw [← List.map_take, intsOf_map], by decide, small_le (by omega), ?_⟩
    generalize hown : (9311 * (t : Int) + (ns.take 2).sum % 1000003 + 71) = ow
    refine for_inv (ns.take 5 ++ [ow]) D.int (fun i ρ => ∃ (s : Int) (r : Option D), ρ = [some (.seq .froz (ns.map D.int)), some (.int t), some (.int (ow)), some (.int s), r] ∧ 0 ≤ s ∧ s < 2147483563) (by simp) ⟨_, _, rfl, by omega, by omega⟩ (fun _ _ _ => trivial) ?_ ?_
    · rintro ρ ⟨s, r, rfl, s0, s1⟩
      generalize ow = o at *
      have hp : CPow 10 17 := ⟨by decide, by decide, by decide⟩
      have hz : (3 : Nat) ≤ sizeLine := by decide
      simp [unlE, hp, hz]
      split
      · rename_i ho
        exact h _ _ _ ⟨by omega, s0, s1⟩
      · split
        · rename_i ho _
          exact h _ _ _ ⟨by omega, s0, s1⟩
        · exact h _ _ _ ⟨by omega, s0, s1⟩
    · rintro i x ρ hx ⟨s, r, rfl, s0, s1⟩
      have c3 : CMul s 45013 := .inr ⟨by decide, by decide⟩
      simp [c3]
      exact ⟨Int.emod_nonneg _ (by decide), Int.emod_lt_of_pos _ (by decide)⟩
theorem vc__law_lettering : Vc wb__law_lettering 4 S__law_lettering := by
  rintro ds q ⟨a, b, c, n, rfl, hw, hn, h⟩
  simp [wb__law_lettering, S__law_signs, S_signs_of, x_lc, hn, and_assoc]
  refine ⟨small_le (by omega), by omega, ?_⟩
  rw [sgs_tx]
  refine lc_inv (List.range n) (fun i : Nat => .int i) (fun i acc ρ => ∃ a b c L os, ρ = [some (wlD a b c), some (.int n), some (.seq .own (sgs L)), none] ∧ WlOk a b ∧ acc = sgs os ∧ (os ++ L).Perm (List.range n) ∧ os.length = i) (rangeD_nat n) (by simp [nbs]) rfl (small_le (by simp; omega)) ⟨a, b, c, List.range n, [], rfl, hw, rfl, by simp, rfl⟩ ?_ ?_ ?_
  · rintro i acc ρ ⟨a, b, c, L, os, rfl, hw, rfl, hp, hi⟩
    simp [isWt, hi]
  · rintro i x acc ρ hx ⟨a, b, c, L, os, rfl, hw, rfl, hp, hi⟩ hz
    have hlen := hp.length_eq
    have hin : i < n := by have := (List.getElem?_eq_some_iff.mp hx).1; simpa using this
    simp at hlen hz
    have hL : 1 ≤ L.length := by omega
    simp [S__law_take, and_assoc]
    refine ⟨hw, hL, by omega, fun r a' b' c' hr hw' => ⟨by omega, .str [97 + L[r]], by rw [sgs_get, List.getElem?_eq_getElem hr]; rfl, rfl, hz, a', b', c', L.eraseIdx r, by simp [wpE, sgs_erase], hw', os ++ [L[r]], by simp [sgs], ?_, by simp [hi]⟩⟩
    rw [List.append_assoc]
    exact ((erase_perm (List.getElem?_eq_getElem hr)).append_left os).trans hp
  · rintro acc ρ ⟨a, b, c, L, os, rfl, hw, rfl, hp, hi⟩
    have hlen := hp.length_eq
    simp at hlen hi
    have hL : L = [] := List.eq_nil_of_length_eq_zero (by omega)
    subst hL
    rw [List.append_nil] at hp
    simp [unwE]
    exact ⟨by omega, h _ _ _ _ ⟨hi, hp⟩ hw⟩
def ins (L : List Nat) : List D := L.map fun i : Nat => .int i
end VL

namespace VL
/-! ### letterings as lists of places: powers, cycles, turned ones -/
def nx (p : List Nat) (i : Nat) : Nat := p[i]?.getD 0
def it (p : List Nat) : Nat → Nat → Nat
  | 0, i => i
  | k + 1, i => nx p (it p k i)
section
variable {n : Nat} {p q s : List Nat}
theorem Lt.nodup (h : Lt n p) : p.Nodup := h.perm.nodup_iff.mpr List.nodup_range
theorem nx_get (h : Lt n p) {i : Nat} (hi : i < n) : p[i]? = some (nx p i) := by
  have : i < p.length := by rw [h.len]; exact hi
  unfold nx; rw [List.getElem?_eq_getElem this]; rfl
theorem nx_lt (h : Lt n p) {i : Nat} (hi : i < n) : nx p i < n := h.lt _ (List.mem_of_getElem? (nx_get h hi))
theorem nx_inj (h : Lt n p) {i j : Nat} (hi : i < n) (hj : j < n) (e : nx p i = nx p j) : i = j := by
  have h1 := nx_get h hi
  have h2 := nx_get h hj
  rw [← e, ← h1] at h2
  exact ((List.getElem?_inj (by rw [h.len]; exact hi) h.nodup).mp h2.symm)
theorem nx_sur (h : Lt n p) {j : Nat} (hj : j < n) : ∃ i, i < n ∧ nx p i = j := by
  obtain ⟨i, hi, e⟩ := List.getElem_of_mem (h.mem hj)
  refine ⟨i, by rw [← h.len]; exact hi, ?_⟩
  unfold nx; rw [List.getElem?_eq_getElem hi, e]; rfl
theorem idx_lt (h : Lt n p) {i : Nat} (hi : i < n) : p.idxOf i < n := by rw [← h.len]; exact List.idxOf_lt_length_of_mem (h.mem hi)
theorem nx_idx (h : Lt n p) {i : Nat} (hi : i < n) : nx p (p.idxOf i) = i := by
  unfold nx
  have := List.idxOf_lt_length_of_mem (h.mem hi)
  rw [List.getElem?_eq_getElem this, List.getElem_idxOf this]; rfl
theorem idx_nx (h : Lt n p) {i : Nat} (hi : i < n) : p.idxOf (nx p i) = i := nx_inj h (idx_lt h (nx_lt h hi)) hi (nx_idx h (nx_lt h hi))
theorem lt_of_inj (hl : q.length = n) (hlt : ∀ i, i < n → nx q i < n) (hi : ∀ i j, i < n → j < n → nx q i = nx q j → i = j) : Lt n q := by
  have hg : ∀ (i : Nat) (h : i < q.length), q[i] = nx q i := fun i h => by unfold nx; rw [List.getElem?_eq_getElem h]; rfl
  have nd : q.Nodup := by
    rw [List.nodup_iff_pairwise_ne, List.pairwise_iff_getElem]
    intro i j h1 h2 hij e
    rw [hg, hg] at e
    have := hi i j (by omega) (by omega) e
    omega
  have hs : ∀ x ∈ q, x ∈ List.range n := fun x hx => by
    obtain ⟨i, h, rfl⟩ := List.getElem_of_mem hx
    rw [hg]; simpa using hlt i (by omega)
  refine ⟨hl, (List.perm_ext_iff_of_nodup nd List.nodup_range).mpr fun x => ⟨hs x, fun hx => ?_⟩⟩
  apply Classical.byContradiction
  intro hn
  have h := nd_len (z := x :: q) (n := n) (List.nodup_cons.mpr ⟨hn, nd⟩) fun y hy => by
    rcases List.mem_cons.mp hy with rfl | hy
    · simpa using hx
    · simpa using hs y hy
  simp [hl] at h
  omega
/-- two letterings that lead alike -/
theorem lt_ext (h : Lt n p) (h' : Lt n q) (e : ∀ i, i < n → nx p i = nx q i) : p = q := by
  refine List.ext_getElem? fun i => ?_
  by_cases hi : i < n
  · rw [nx_get h hi, nx_get h' hi, e i hi]
  · rw [List.getElem?_eq_none (by rw [h.len]; omega), List.getElem?_eq_none (by rw [h'.len]; omega)]
def prodL (t p : List Nat) : List Nat := t.map fun i => nx p i
def invL (p : List Nat) : List Nat := (List.range p.length).map fun i => p.idxOf i
def conj (p s : List Nat) : List Nat := prodL (prodL (invL s) p) s
def idL (n : Nat) : List Nat := List.range n
theorem nx_map {f : Nat → Nat} {t : List Nat} {i : Nat} (hi : i < t.length) : nx (t.map f) i = f (nx t i) := by
  unfold nx
  rw [List.getElem?_map, List.getElem?_eq_getElem hi]; rfl
theorem nx_range {i : Nat} (hi : i < n) : nx (List.range n) i = i := by
  unfold nx; rw [List.getElem?_eq_getElem (by simpa using hi)]; simp
theorem nx_prod (h : Lt n p) {i : Nat} (hi : i < n) : nx (prodL p q) i = nx q (nx p i) := nx_map (by rw [h.len]; exact hi)
theorem lt_id : Lt n (idL n) := ⟨by simp [idL], by simp [idL]⟩
theorem nx_id {i : Nat} (hi : i < n) : nx (idL n) i = i := nx_range hi
theorem lt_prod (h : Lt n p) (h' : Lt n q) : Lt n (prodL p q) := by
  refine lt_of_inj (by simp [prodL, h.len]) (fun i hi => ?_) fun i j hi hj e => ?_
  · rw [nx_prod h hi]; exact nx_lt h' (nx_lt h hi)
  · rw [nx_prod h hi, nx_prod h hj] at e
    exact nx_inj h hi hj (nx_inj h' (nx_lt h hi) (nx_lt h hj) e)
theorem nx_inv (h : Lt n p) {i : Nat} (hi : i < n) : nx (invL p) i = p.idxOf i := by
  unfold invL; rw [nx_map (by simpa [h.len] using hi), h.len, nx_range hi]
theorem lt_inv (h : Lt n p) : Lt n (invL p) := by
  refine lt_of_inj (by simp [invL, h.len]) (fun i hi => ?_) fun i j hi hj e => ?_
  · rw [nx_inv h hi]; exact idx_lt h hi
  · rw [nx_inv h hi, nx_inv h hj] at e
    rw [← nx_idx h hi, e, nx_idx h hj]
theorem inv_nx (h : Lt n p) {i : Nat} (hi : i < n) : nx (invL p) (nx p i) = i := by rw [nx_inv h (nx_lt h hi), idx_nx h hi]
theorem nx_invr (h : Lt n p) {i : Nat} (hi : i < n) : nx p (nx (invL p) i) = i := by rw [nx_inv h hi, nx_idx h hi]
theorem lt_conj (h : Lt n p) (h' : Lt n s) : Lt n (conj p s) := lt_prod (lt_prod (lt_inv h') h) h'
theorem nx_conj (h : Lt n p) (h' : Lt n s) {i : Nat} (hi : i < n) : nx (conj p s) (nx s i) = nx s (nx p i) := by
  unfold conj
  rw [nx_prod (lt_prod (lt_inv h') h) (nx_lt h' hi), nx_prod (lt_inv h') (nx_lt h' hi), inv_nx h' hi]
theorem conj_of (h : Lt n p) (h' : Lt n s) (hq : Lt n q) (e : ∀ i, i < n → nx q (nx s i) = nx s (nx p i)) : conj p s = q := by
  refine lt_ext (lt_conj h h') hq fun j hj => ?_
  obtain ⟨i, hi, rfl⟩ := nx_sur h' hj
  rw [nx_conj h h' hi, e i hi]
theorem conj_conj {r : List Nat} (h : Lt n p) (h' : Lt n s) (hr : Lt n r) : conj (conj p s) r = conj p (prodL s r) := by
  refine (conj_of h (lt_prod h' hr) (lt_conj (lt_conj h h') hr) fun i hi => ?_).symm
  rw [nx_prod h' hi, nx_conj (lt_conj h h') hr (nx_lt h' hi), nx_conj h h' hi, nx_prod h' (nx_lt h hi)]
theorem conj_inv (h : Lt n p) (h' : Lt n s) : conj (conj p s) (invL s) = p := by
  refine conj_of (lt_conj h h') (lt_inv h') h fun j hj => ?_
  obtain ⟨i, hi, rfl⟩ := nx_sur h' hj
  rw [inv_nx h' hi, nx_conj h h' hi, inv_nx h' (nx_lt h hi)]
theorem conj_id (h : Lt n p) : conj p (idL n) = p := conj_of h lt_id h fun i hi => by rw [nx_id hi, nx_id (nx_lt h hi)]
theorem conj_prod (h : Lt n p) (hq : Lt n q) (h' : Lt n s) : conj (prodL p q) s = prodL (conj p s) (conj q s) := by
  refine conj_of (lt_prod h hq) h' (lt_prod (lt_conj h h') (lt_conj hq h')) fun i hi => ?_
  rw [nx_prod (lt_conj h h') (nx_lt h' hi), nx_conj h h' hi, nx_conj hq h' (nx_lt h hi), nx_prod h hi]
theorem conj_invL (h : Lt n p) (h' : Lt n s) : conj (invL p) s = invL (conj p s) := by
  refine conj_of (lt_inv h) h' (lt_inv (lt_conj h h')) fun i hi => ?_
  obtain ⟨k, hk, rfl⟩ := nx_sur h hi
  rw [inv_nx h hk, ← nx_conj h h' hk, inv_nx (lt_conj h h') (nx_lt h' hk)]
/-- powers -/
def powL (p : List Nat) : Nat → List Nat
  | 0 => idL p.length
  | k + 1 => prodL (powL p k) p
theorem lt_pow (h : Lt n p) : ∀ k, Lt n (powL p k)
  | 0 => by unfold powL; rw [h.len]; exact lt_id
  | k + 1 => lt_prod (lt_pow h k) h
theorem conj_idL (h' : Lt n s) : conj (idL n) s = idL n := conj_of lt_id h' lt_id fun i hi => by rw [nx_id (nx_lt h' hi), nx_id hi]
theorem conj_pow (h : Lt n p) (h' : Lt n s) : ∀ k, conj (powL p k) s = powL (conj p s) k
  | 0 => by unfold powL; rw [h.len, (lt_conj h h').len]; exact conj_idL h'
  | k + 1 => by
    show conj (prodL (powL p k) p) s = prodL (powL (conj p s) k) (conj p s)
    rw [conj_prod (lt_pow h k) h h', conj_pow h h' k]
/-! ### round trips -/
theorem it_lt (h : Lt n p) {i : Nat} (hi : i < n) : ∀ k, it p k i < n
  | 0 => hi
  | k + 1 => nx_lt h (it_lt h hi k)
theorem it_add (p : List Nat) (a i : Nat) : ∀ b, it p (a + b) i = it p b (it p a i)
  | 0 => rfl
  | b + 1 => by show nx p (it p (a + b) i) = nx p (it p b (it p a i)); rw [it_add p a i b]
theorem it_inj (h : Lt n p) {i j : Nat} (hi : i < n) (hj : j < n) : ∀ k, it p k i = it p k j → i = j
  | 0, e => e
  | k + 1, e => it_inj h hi hj k (nx_inj h (it_lt h hi k) (it_lt h hj k) e)
theorem it_ret (h : Lt n p) {i : Nat} (hi : i < n) : ∃ k, 1 ≤ k ∧ k ≤ n ∧ it p k i = i := by
  apply Classical.byContradiction
  intro hn
  have nd : ((List.range (n + 1)).map fun k => it p k i).Nodup := by
    rw [List.nodup_iff_pairwise_ne, List.pairwise_iff_getElem]
    intro a b h1 h2 hab e
    simp at h1 h2 e
    refine hn ⟨b - a, by omega, by omega, ?_⟩
    have e2 : it p b i = it p a (it p (b - a) i) := by rw [← it_add]; congr 1; omega
    exact (it_inj h hi (it_lt h hi _) a (e.trans e2)).symm
  have := nd_len nd (n := n) fun x hx => by
    obtain ⟨k, _, rfl⟩ := List.mem_map.mp hx
    exact it_lt h hi k
  simp at this
  omega
def per (p : List Nat) (i : Nat) : Nat := ((List.range' 1 p.length).find? fun k => it p k i == i).getD 0
theorem find_least : ∀ {l : List Nat} {f : Nat → Bool} {k : Nat}, l.Pairwise (· < ·) → l.find? f = some k → k ∈ l ∧ f k = true ∧ ∀ j ∈ l, j < k → f j = false
  | [], _, _, _, e => by cases e
  | x :: l, f, k, hp, e => by
    rw [List.find?_cons] at e
    obtain ⟨h1, h2⟩ := List.pairwise_cons.mp hp
    cases hx : f x with
    | true => rw [hx] at e; cases e; exact ⟨by simp, hx, fun j hj hjk => by
        rcases List.mem_cons.mp hj with rfl | hj
        · omega
        · have := h1 j hj; omega⟩
    | false =>
      rw [hx] at e
      obtain ⟨a, b, c⟩ := find_least h2 e
      exact ⟨by simp [a], b, fun j hj hjk => by
        rcases List.mem_cons.mp hj with rfl | hj
        · exact hx
        · exact c j hj hjk⟩
theorem per_ok (h : Lt n p) {i : Nat} (hi : i < n) : 1 ≤ per p i ∧ per p i ≤ n ∧ it p (per p i) i = i ∧ ∀ k, 1 ≤ k → k < per p i → it p k i ≠ i := by
  obtain ⟨k0, a, b, c⟩ := it_ret h hi
  cases e : (List.range' 1 p.length).find? fun k => it p k i == i with
  | none =>
    have := List.find?_eq_none.mp e k0 (by rw [h.len, List.mem_range'_1]; omega)
    simp [c] at this
  | some k =>
    obtain ⟨h1, h2, h3⟩ := find_least (by exact List.pairwise_lt_range') e
    rw [h.len, List.mem_range'_1] at h1
    have hk : per p i = k := by unfold per; rw [e]; rfl
    rw [hk]
    refine ⟨h1.1, by omega, by simpa using h2, fun j hj hjk => ?_⟩
    have := h3 j (by rw [h.len, List.mem_range'_1]; omega) hjk
    simpa using this
def orb (p : List Nat) (i : Nat) : List Nat := (List.range (per p i)).map fun k => it p k i
theorem orb_len : (orb p i).length = per p i := by simp [orb]
theorem orb_lt (h : Lt n p) {i : Nat} (hi : i < n) : ∀ j ∈ orb p i, j < n := fun j hj => by
  obtain ⟨k, _, rfl⟩ := List.mem_map.mp hj
  exact it_lt h hi k
theorem orb_nodup (h : Lt n p) {i : Nat} (hi : i < n) : (orb p i).Nodup := by
  obtain ⟨p1, p2, p3, p4⟩ := per_ok h hi
  rw [List.nodup_iff_pairwise_ne, List.pairwise_iff_getElem]
  intro a b h1 h2 hab e
  simp [orb] at h1 h2 e
  have e2 : it p b i = it p a (it p (b - a) i) := by rw [← it_add]; congr 1; omega
  exact p4 (b - a) (by omega) (by omega) (it_inj h hi (it_lt h hi _) a (e.trans e2)).symm
theorem it_mul (h : Lt n p) {i : Nat} (hi : i < n) : ∀ m, it p (m * per p i) i = i
  | 0 => by simp [it]
  | m + 1 => by rw [Nat.succ_mul, it_add, it_mul h hi m]; exact (per_ok h hi).2.2.1
theorem it_mod (h : Lt n p) {i : Nat} (hi : i < n) (k : Nat) : it p k i = it p (k % per p i) i := by
  conv => lhs; rw [← Nat.div_add_mod k (per p i), Nat.mul_comm, it_add, it_mul h hi]
theorem mem_orb (h : Lt n p) {i : Nat} (hi : i < n) {j : Nat} : j ∈ orb p i ↔ ∃ k, it p k i = j := by
  constructor
  · intro hj; obtain ⟨k, _, e⟩ := List.mem_map.mp hj; exact ⟨k, e⟩
  · rintro ⟨k, rfl⟩
    rw [it_mod h hi]
    exact List.mem_map.mpr ⟨_, by simpa using Nat.mod_lt _ (per_ok h hi).1, rfl⟩
theorem orb_self (h : Lt n p) {i : Nat} (hi : i < n) : i ∈ orb p i := (mem_orb h hi).mpr ⟨0, rfl⟩
theorem orb_symm (h : Lt n p) {i j : Nat} (hi : i < n) (hj : j ∈ orb p i) : i ∈ orb p j := by
  obtain ⟨k, rfl⟩ := (mem_orb h hi).mp hj
  refine (mem_orb h (it_lt h hi k)).mpr ⟨k * per p i - k, ?_⟩
  rw [← it_add]
  have : k ≤ k * per p i := Nat.le_mul_of_pos_right k (per_ok h hi).1
  rw [Nat.add_sub_cancel' this, it_mul h hi]
theorem orb_trans (h : Lt n p) {i j k : Nat} (hi : i < n) (hj : j ∈ orb p i) (hk : k ∈ orb p j) : k ∈ orb p i := by
  obtain ⟨a, rfl⟩ := (mem_orb h hi).mp hj
  obtain ⟨b, rfl⟩ := (mem_orb h (it_lt h hi a)).mp hk
  exact (mem_orb h hi).mpr ⟨a + b, it_add p a i b⟩
theorem orb_perm (h : Lt n p) {i j : Nat} (hi : i < n) (hj : j ∈ orb p i) : (orb p j).Perm (orb p i) :=
  (List.perm_ext_iff_of_nodup (orb_nodup h (orb_lt h hi j hj)) (orb_nodup h hi)).mpr fun x => ⟨orb_trans h hi hj, fun hx => orb_trans h (orb_lt h hi j hj) (orb_symm h hi hj) hx⟩
/-- the cycles -/
def cycF (p : List Nat) (acc : List (List Nat)) (i : Nat) : List (List Nat) := if i ∈ acc.flatten then acc else acc ++ [orb p i]
def cycs (p : List Nat) : List (List Nat) := (List.range p.length).foldl (cycF p) []
structure CycOk (n : Nat) (p : List Nat) (m : Nat) (Cs : List (List Nat)) : Prop where
  orb : ∀ C ∈ Cs, ∃ i, i < n ∧ C = orb p i
  all : ∀ i, i < m → i ∈ Cs.flatten
  dis : Cs.Pairwise fun C C' => ∀ x ∈ C, x ∉ C'
theorem CycOk.step (h : Lt n p) {m : Nat} {Cs : List (List Nat)} (c : CycOk n p m Cs) (hm : m < n) : CycOk n p (m + 1) (cycF p Cs m) := by
  unfold cycF
  split
  · rename_i hi
    exact ⟨c.orb, fun i h => by rcases Nat.lt_or_ge i m with h' | h'; exact c.all i h'; rw [show i = m by omega]; exact hi, c.dis⟩
  · rename_i hi
    refine ⟨fun C hC => ?_, fun i hi' => ?_, ?_⟩
    · rcases List.mem_append.mp hC with hC | hC
      · exact c.orb C hC
      · exact ⟨m, hm, by simpa using hC⟩
    · rw [List.flatten_append, List.mem_append]
      rcases Nat.lt_or_ge i m with h' | h'
      · exact .inl (c.all i h')
      · right; rw [show i = m by omega]; simpa using orb_self h hm
    · rw [List.pairwise_append]
      refine ⟨c.dis, by simp, fun C hC C' hC' x hx hx' => hi ?_⟩
      rw [List.mem_singleton] at hC'; subst hC'
      obtain ⟨i, hi', rfl⟩ := c.orb C hC
      refine List.mem_flatten.mpr ⟨_, hC, ?_⟩
      exact orb_trans h hi' hx (orb_symm h hm hx')
theorem cycs_fold (h : Lt n p) : ∀ m, m ≤ n → CycOk n p m ((List.range m).foldl (cycF p) [])
  | 0, _ => ⟨by simp, fun i h => by omega, .nil⟩
  | m + 1, hm => by rw [List.range_succ, List.foldl_append]; exact (cycs_fold h m (by omega)).step h (by omega)
theorem cycs_ok (h : Lt n p) : CycOk n p n (cycs p) := by unfold cycs; rw [h.len]; exact cycs_fold h n (Nat.le_refl _)
/-! ### sorted rows -/
def srt (l : List Nat) : List Nat := l.mergeSort fun a b => decide (a ≤ b)
theorem srt_perm (l : List Nat) : (srt l).Perm l := List.mergeSort_perm _ _
theorem srt_pw (l : List Nat) : (srt l).Pairwise (· ≤ ·) := by
  have := List.pairwise_mergeSort (le := fun a b : Nat => decide (a ≤ b)) (fun a b c h1 h2 => by simp at *; omega) (fun a b => by simp; omega) l
  exact this.imp fun h => by simpa using h
theorem sorted_uni {l m : List Nat} (hp : l.Perm m) (h1 : l.Pairwise (· ≤ ·)) (h2 : m.Pairwise (· ≤ ·)) : l = m :=
  List.Perm.eq_of_pairwise (le := (· ≤ ·)) (fun a b _ _ h h' => Nat.le_antisymm h h') h1 h2 hp
theorem srt_uni {l m : List Nat} (hp : m.Perm l) (h : m.Pairwise (· ≤ ·)) : m = srt l := sorted_uni (hp.trans (srt_perm l).symm) h (srt_pw l)
theorem srt_eq {l m : List Nat} : srt l = srt m ↔ l.Perm m := ⟨fun e => (srt_perm l).symm.trans (e ▸ srt_perm m), fun h => srt_uni ((srt_perm l).trans h) (srt_pw l)⟩
/-! ### the cycles of a turned one -/
theorem it_conj (h : Lt n p) (h' : Lt n s) {i : Nat} (hi : i < n) : ∀ k, it (conj p s) k (nx s i) = nx s (it p k i)
  | 0 => rfl
  | k + 1 => by show nx (conj p s) (it (conj p s) k (nx s i)) = _; rw [it_conj h h' hi k, nx_conj h h' (it_lt h hi k)]; rfl
theorem per_conj (h : Lt n p) (h' : Lt n s) {i : Nat} (hi : i < n) : per (conj p s) (nx s i) = per p i := by
  unfold per
  rw [(lt_conj h h').len, h.len]
  congr 2
  funext k
  rw [it_conj h h' hi]
  by_cases e : it p k i = i
  · simp [e]
  · have : nx s (it p k i) ≠ nx s i := fun z => e (nx_inj h' (it_lt h hi k) hi z)
    rw [beq_eq_false_iff_ne.mpr e, beq_eq_false_iff_ne.mpr this]
theorem orb_conj (h : Lt n p) (h' : Lt n s) {i : Nat} (hi : i < n) : orb (conj p s) (nx s i) = (orb p i).map (nx s) := by
  unfold orb
  rw [per_conj h h' hi, List.map_map]
  exact List.map_congr_left fun k _ => it_conj h h' hi k
theorem cyc_nodup (h : Lt n p) {Cs : List (List Nat)} (c : CycOk n p n Cs) {f : List Nat → List Nat} (hf : ∀ C ∈ Cs, ∀ C' ∈ Cs, f C = f C' → ∃ x, x ∈ C ∧ x ∈ C') : (Cs.map f).Nodup := by
  rw [List.nodup_iff_pairwise_ne, List.pairwise_map]
  refine List.Pairwise.imp_of_mem ?_ c.dis
  intro C C' hC hC' hd e
  obtain ⟨x, h1, h2⟩ := hf C hC C' hC' e
  exact hd x h1 h2
theorem cycs_conj (h : Lt n p) (h' : Lt n s) : ((cycs p).map fun C => srt (C.map (nx s))).Perm ((cycs (conj p s)).map srt) := by
  have c := cycs_ok h
  have c' := cycs_ok (lt_conj h h')
  have inhab : ∀ {q : List Nat} {C : List Nat} (hq : Lt n q), (∃ i, i < n ∧ C = orb q i) → ∃ x, x ∈ C := fun hq ⟨i, hi, e⟩ => ⟨i, e ▸ orb_self hq hi⟩
  refine (List.perm_ext_iff_of_nodup (cyc_nodup h c fun C hC C' hC' e => ?_) (cyc_nodup (lt_conj h h') c' fun C hC C' hC' e => ?_)).mpr fun A => ⟨fun hA => ?_, fun hA => ?_⟩
  · obtain ⟨x, hx⟩ := inhab h (c.orb C hC)
    have hp := srt_eq.mp e
    have hm := hp.subset (List.mem_map_of_mem hx)
    obtain ⟨y, hy, ey⟩ := List.mem_map.mp hm
    obtain ⟨i, hi, rfl⟩ := c.orb C hC
    obtain ⟨j, hj, rfl⟩ := c.orb C' hC'
    have := nx_inj h' (orb_lt h hj y hy) (orb_lt h hi x hx) ey
    subst this
    exact ⟨y, hx, hy⟩
  · obtain ⟨x, hx⟩ := inhab (lt_conj h h') (c'.orb C hC)
    exact ⟨x, hx, (srt_eq.mp e).subset hx⟩
  · obtain ⟨C, hC, rfl⟩ := List.mem_map.mp hA
    obtain ⟨i, hi, rfl⟩ := c.orb C hC
    rw [← orb_conj h h' hi]
    obtain ⟨C', hC', hx⟩ := List.mem_flatten.mp (c'.all (nx s i) (nx_lt h' hi))
    obtain ⟨j, hj, rfl⟩ := c'.orb C' hC'
    exact List.mem_map.mpr ⟨_, hC', (srt_eq.mpr (orb_perm (lt_conj h h') hj hx)).symm⟩
  · obtain ⟨C', hC', rfl⟩ := List.mem_map.mp hA
    obtain ⟨j, hj, rfl⟩ := c'.orb C' hC'
    obtain ⟨i, hi, rfl⟩ := nx_sur h' hj
    obtain ⟨C, hC, hx⟩ := List.mem_flatten.mp (c.all i hi)
    obtain ⟨k, hk, rfl⟩ := c.orb C hC
    refine List.mem_map.mpr ⟨_, hC, ?_⟩
    show srt ((orb p k).map (nx s)) = srt (orb (conj p s) (nx s i))
    rw [orb_conj h h' hi]
    exact srt_eq.mpr ((orb_perm h hk hx).symm.map _)
def lensL (p : List Nat) : List Nat := srt ((cycs p).map List.length)
theorem lens_conj (h : Lt n p) (h' : Lt n s) : lensL (conj p s) = lensL p := by
  have := (cycs_conj h h').map List.length
  rw [List.map_map, List.map_map] at this
  have e1 : (List.length ∘ fun C => srt (C.map (nx s))) = List.length := by funext C; simp [(srt_perm _).length_eq]
  have e2 : (List.length ∘ srt) = List.length := by funext C; simp [(srt_perm _).length_eq]
  rw [e1, e2] at this
  exact srt_eq.mpr this.symm
theorem count_conj (h : Lt n p) (h' : Lt n s) : (cycs (conj p s)).length = (cycs p).length := by
  have := (cycs_conj h h').length_eq
  simpa using this.symm
/-- the still ones -/
def stillL (p : List Nat) : List Nat := (List.range p.length).filter fun i => nx p i == i
theorem still_conj (h : Lt n p) (h' : Lt n s) : stillL (conj p s) = srt ((stillL p).map (nx s)) := by
  refine srt_uni ((List.perm_ext_iff_of_nodup ?_ ?_).mpr fun x => ?_) ?_
  · exact List.nodup_range.filter _
  · rw [List.nodup_iff_pairwise_ne, List.pairwise_map]
    refine List.Pairwise.imp_of_mem ?_ (List.nodup_iff_pairwise_ne.mp (List.nodup_range.filter _))
    intro a b ha hb hne e
    have ha' : a < n := by have := (List.mem_filter.mp ha).1; rw [h.len] at this; simpa using this
    have hb' : b < n := by have := (List.mem_filter.mp hb).1; rw [h.len] at this; simpa using this
    exact hne (nx_inj h' ha' hb' e)
  · unfold stillL
    rw [(lt_conj h h').len, h.len, List.mem_map, List.mem_filter]
    constructor
    · rintro ⟨h1, h2⟩
      have h1 : x < n := by simpa using h1
      obtain ⟨i, hi, rfl⟩ := nx_sur h' h1
      rw [nx_conj h h' hi] at h2
      exact ⟨i, List.mem_filter.mpr ⟨by simpa using hi, by simpa using nx_inj h' (nx_lt h hi) hi (by simpa using h2)⟩, rfl⟩
    · rintro ⟨i, hi, rfl⟩
      obtain ⟨h1, h2⟩ := List.mem_filter.mp hi
      have h1 : i < n := by simpa using h1
      refine ⟨by simpa using nx_lt h' h1, ?_⟩
      rw [nx_conj h h' h1]
      simp only [beq_iff_eq] at h2 ⊢
      rw [h2]
  · unfold stillL
    exact (List.pairwise_lt_range.filter _).imp fun h => Nat.le_of_lt h
end
end VL

namespace VL
open PySem PySem.Spec PyProof.Rows L2
/-! ### lists of texts compared -/
def oksA (A : List (List Nat)) : Prop := ∀ a ∈ A, okS a
theorem lay_strs : ∀ {A : List (List Nat)}, oksA A → PyData.canLayAll0 (toPs (A.map D.str)) = true
  | [], _ => rfl
  | a :: A, h => by
    have h1 : PyData.strOk (mkS a) = true := h a (by simp)
    show (PyData.canLay0 (.str (mkS a)) && PyData.canLayAll0 (toPs (A.map D.str))) = true
    rw [lay_strs (fun x hx => h x (by simp [hx]))]
    simp [PyData.canLay0, h1]
theorem dep_strs : ∀ (A : List (List Nat)), PyData.depthAll (toPs (A.map D.str)) = 0
  | [] => rfl
  | a :: A => by
    show max 0 (PyData.depthAll (toPs (A.map D.str))) = 0
    rw [dep_strs A]; rfl
theorem shp_strs {k : Kd} {A : List (List Nat)} (h : oksA A) : SeqAt.shaped (toP (.seq k (A.map D.str))) = true := by
  unfold SeqAt.shaped
  show (PyData.canLayAll0 (toPs (A.map D.str)) && decide (PyData.depthAll (toPs (A.map D.str)) + 1 ≤ 64)) = true
  rw [lay_strs h, dep_strs]; rfl
theorem eqv_strs : ∀ (A B : List (List Nat)), PyData.eqvAll (toPs (A.map D.str)) (toPs (B.map D.str)) = (A == B)
  | [], [] => rfl
  | [], _ :: _ => rfl
  | _ :: _, [] => rfl
  | a :: A, b :: B => by
    show ((mkS a == mkS b) && PyData.eqvAll (toPs (A.map D.str)) (toPs (B.map D.str))) = _
    rw [eqv_strs A B, mkS_beq]; rfl
theorem o_neL {k k2 : Kd} {A B : List (List Nat)} {p : D → Prop} (hA : oksA A) (hB : oksA B) : opNe (.seq k (A.map D.str)) (.seq k2 (B.map D.str)) p = p (.bl (!(A == B))) := by
  unfold opNe
  rw [shp_strs hA, shp_strs hB]
  have : PyData.eqv (toP (.seq k (A.map D.str))) (toP (.seq k2 (B.map D.str))) = (A == B) := eqv_strs A B
  rw [this]; simp
theorem o_eqL {k k2 : Kd} {A B : List (List Nat)} {p : D → Prop} (hA : oksA A) (hB : oksA B) : opEq (.seq k (A.map D.str)) (.seq k2 (B.map D.str)) p = p (.bl (A == B)) := by
  unfold opEq
  rw [shp_strs hA, shp_strs hB]
  have : PyData.eqv (toP (.seq k (A.map D.str))) (toP (.seq k2 (B.map D.str))) = (A == B) := eqv_strs A B
  rw [this]; simp
@[simp] theorem o_neS1 {a b : Nat} {p : D → Prop} : opNe (.str [97 + a]) (.str [97 + b]) p = (okS [97 + a] ∧ okS [97 + b] ∧ p (.bl (!(a == b)))) := by
  rw [o_neS]
  have : (([97 + a] : List Nat) == [97 + b]) = (a == b) := by
    by_cases e : a = b
    · subst e; simp
    · rw [beq_eq_false_iff_ne.mpr e, beq_eq_false_iff_ne.mpr (by simpa using e)]
  rw [this]
theorem okS_1 {a : Nat} (h : a < 10) : okS [97 + a] := okS_of fun c hc => by simp at hc; omega
/-! ### contracts -/
def S_inverse_of : Spec := fun ds q => ∃ (n : Nat) (p : List Nat), ds = [.str (tx p)] ∧ n ≤ 10 ∧ Lt n p ∧ q (.str (tx (invL p))) ds
def S_turned_by : Spec := fun ds q => ∃ (n : Nat) (p s : List Nat), ds = [.str (tx p), .str (tx s)] ∧ n ≤ 10 ∧ Lt n p ∧ Lt n s ∧ q (.str (tx (conj p s))) ds
def S_cycle_from : Spec := fun ds q => ∃ (n : Nat) (p : List Nat) (i : Nat), ds = [.str (tx p), .str [97 + i]] ∧ n ≤ 10 ∧ Lt n p ∧ i < n ∧ q (.str (tx (orb p i))) ds
def txsL (rs : List (List Nat)) : List D := rs.map fun t => .str (tx t)
def S_cycles_of : Spec := fun ds q => ∃ (n : Nat) (p : List Nat), ds = [.str (tx p)] ∧ n ≤ 10 ∧ Lt n p ∧ q (.seq .tmp (txsL (cycs p))) ds
def lnsD (ls : List Nat) : D := .tup (ls.map fun l : Nat => .int l)
def S_lengths_of : Spec := fun ds q => ∃ (n : Nat) (p : List Nat), ds = [.str (tx p)] ∧ n ≤ 10 ∧ Lt n p ∧ q (lnsD (lensL p)) ds
def ordF (f l : Nat) : Nat := f / Nat.gcd f l * l
def ordL (ls : List Nat) : Nat := ls.foldl ordF 1
def S_order_of : Spec := fun ds q => ∃ (n : Nat) (p : List Nat), ds = [.str (tx p)] ∧ n ≤ 10 ∧ Lt n p ∧ q (.int (ordL (lensL p))) ds
def S_power_of : Spec := fun ds q => ∃ (n : Nat) (p : List Nat) (k : Nat), ds = [.str (tx p), .int k] ∧ n ≤ 10 ∧ Lt n p ∧ q (.str (tx (powL p (k % ordL (lensL p))))) ds
def S_still_ofG : Spec := fun ds q => ∃ (n : Nat) (p : List Nat), ds = [.str (tx p)] ∧ n ≤ 10 ∧ Lt n p ∧ q (.str (tx (stillL p))) ds
def oddB (p : List Nat) : Bool := (p.length - (cycs p).length) % 2 == 1
def S_is_odd_by : Spec := fun ds q => ∃ (n : Nat) (p : List Nat), ds = [.str (tx p)] ∧ n ≤ 10 ∧ Lt n p ∧ q (.bl (oddB p)) ds
def S_check_lettering : Spec := fun ds q => ∃ (n : Nat) (p : List Nat), ds = [.str (tx p)] ∧ Nn n ∧ Lt n p ∧ q .non ds
def S_check_two_letterings : Spec := fun ds q => ∃ (n : Nat) (p s : List Nat), ds = [.str (tx p), .str (tx s)] ∧ Nn n ∧ Lt n p ∧ Lt n s ∧ q .non ds
def S_check_number : Spec := fun ds q => ∃ n : Nat, ds = [.int n] ∧ Nn n ∧ q .non ds
def S_is_between : Spec := fun ds q => ∃ a b c : Int, ds = [.int a, .int b, .int c] ∧ q (.bl (decide (b ≤ a) && decide (a ≤ c))) ds
def S_check_whole : Spec := fun ds q => ∃ a b c : Int, ds = [.int a, .int b, .int c] ∧ b ≤ a ∧ a ≤ c ∧ q .non ds
def S_turned : Spec := fun ds q => ∃ (n : Nat) (p s : List Nat), ds = [.str (tx p), .str (tx s)] ∧ Nn n ∧ Lt n p ∧ Lt n s ∧ q (.str (tx (conj p s))) ds
def S_plain : Spec := fun ds q => ∃ n : Nat, ds = [.int n] ∧ Nn n ∧ q (.str (tx (idL n))) ds
def S_product : Spec := fun ds q => ∃ (n : Nat) (p s : List Nat), ds = [.str (tx p), .str (tx s)] ∧ Nn n ∧ Lt n p ∧ Lt n s ∧ q (.str (tx (prodL p s))) ds
def S_inverse : Spec := fun ds q => ∃ (n : Nat) (p : List Nat), ds = [.str (tx p)] ∧ Nn n ∧ Lt n p ∧ q (.str (tx (invL p))) ds
def S_power : Spec := fun ds q => ∃ (n : Nat) (p : List Nat) (k : Nat), ds = [.str (tx p), .int k] ∧ Nn n ∧ Lt n p ∧ k ≤ 9999 ∧ q (.str (tx (powL p (k % ordL (lensL p))))) ds
def S_cycles : Spec := fun ds q => ∃ (n : Nat) (p : List Nat), ds = [.str (tx p)] ∧ Nn n ∧ Lt n p ∧ q (.tup (txsL (cycs p))) ds
def S_lengths : Spec := fun ds q => ∃ (n : Nat) (p : List Nat), ds = [.str (tx p)] ∧ Nn n ∧ Lt n p ∧ q (lnsD (lensL p)) ds
def S_order : Spec := fun ds q => ∃ (n : Nat) (p : List Nat), ds = [.str (tx p)] ∧ Nn n ∧ Lt n p ∧ q (.int (ordL (lensL p))) ds
def S_still_signs : Spec := fun ds q => ∃ (n : Nat) (p : List Nat), ds = [.str (tx p)] ∧ Nn n ∧ Lt n p ∧ q (.str (tx (stillL p))) ds
def S_is_odd : Spec := fun ds q => ∃ (n : Nat) (p : List Nat), ds = [.str (tx p)] ∧ Nn n ∧ Lt n p ∧ q (.bl (oddB p)) ds
-- is_between [(0, 'value'), (1, 'low'), (2, 'high')]
def wb_is_between : WS := (wRet (wAndV (wCall S_is_whole (wAV 0 wN)) (wChain opLe opLe (wVar 1) (wVar 0) (wVar 2))))
-- inverse_of [(0, 'lettering'), (1, 'sign')]
def wb_inverse_of : WS := (wRet (wMeth "str" opJoin (wC (.str [])) (wAE (wLc (wI (wCall S_signs_of (wAE (wCallN (f1 opLen) (wAV 0 wN)) wN))) (gN 1) [1] (fun ρ q => q true ρ) (wBin opIx (wC (.str SG)) (wMeth "str" opSIndex (wVar 0) (wAV 1 wN)))) wN)))
-- turned_by [(0, 'lettering'), (1, 'other')]
def wb_turned_by : WS := (wRet (wCall S_product_of (wAE (wCall S_product_of (wAE (wCall S_inverse_of (wAV 1 wN)) (wAV 0 wN))) (wAV 1 wN))))
-- cycle_from [(0, 'lettering'), (1, 'sign'), (2, 'found'), (3, 'here')]
def wb_cycle_from : WS := (wSeq (wPar 2 3 (wAV 1 (wAE (wCall S_led (wAV 0 (wAV 1 wN))) wN)))
 (wSeq (wWhile (wVal (wBin opNe (wVar 3) (wVar 1)))
 (wPar 2 3 (wAE (wBin opAdd (wVar 2) (wVar 3)) (wAE (wCall S_led (wAV 0 (wAV 3 wN))) wN))))
 (wRetV 2)))
-- cycles_of [(0, 'lettering'), (1, 'found'), (2, 'known'), (3, 'sign')]
def bd0_cycles_of : WS := (wIf (wVal (wBin (opIn true) (wVar 3) (wVar 2)))
 (wSeq (wExpr (wMut "list" 1 opAppend (wAE (wCall S_cycle_from (wAV 0 (wAV 3 wN))) wN)))
 (wSet 2 (wBin opAdd (wVar 2) (wBin opIx (wVar 1) (wUn opNeg (wC (.int 1)))))))
 wNext)
def wb_cycles_of : WS := (wSeq (wPar 1 2 (wAE (wLst wN) (wAE (wC (.str [])) wN)))
 (wSeq (wFor (wI (wCall S_signs_of (wAE (wCallN (f1 opLen) (wAV 0 wN)) wN))) (gN 3) bd0_cycles_of)
 (wRetV 1)))
-- lengths_of [(0, 'lettering'), (1, 'cycle')]
def wb_lengths_of : WS := (wRet (wCallN (f1 opTuple) (wAE (wCallN (f1 opSorted) (wAE (wLc (wI (wCall S_cycles_of (wAV 0 wN))) (gN 1) [1] (fun ρ q => q true ρ) (wCallN (f1 opLen) (wAV 1 wN))) wN)) wN)))
-- order_of [(0, 'lettering'), (1, 'found'), (2, 'length')]
def bd0_order_of : WS := (wSet 1 (wBin opMul (wBin opFDiv (wVar 1) (wCallN (f2 opGcd) (wAV 1 (wAV 2 wN)))) (wVar 2)))
def wb_order_of : WS := (wSeq (wSet 1 (wC (.int 1)))
 (wSeq (wFor (wI (wCall S_lengths_of (wAV 0 wN))) (gN 2) bd0_order_of)
 (wRetV 1)))
-- power_of [(0, 'lettering'), (1, 'number'), (2, 'found'), (3, '_')]
def bd0_power_of : WS := (wSet 2 (wCall S_product_of (wAV 2 (wAV 0 wN))))
def wb_power_of : WS := (wSeq (wSet 2 (wCall S_plain_of (wAE (wCallN (f1 opLen) (wAV 0 wN)) wN)))
 (wSeq (wFor (wR1 (wAE (wBin opMod (wVar 1) (wCall S_order_of (wAV 0 wN))) wN)) (gN 3) bd0_power_of)
 (wRetV 2)))
-- is_odd_by [(0, 'lettering')]
def wb_is_odd_by : WS := (wRet (wBin opEq (wBin opMod (wBin opSub (wCallN (f1 opLen) (wAV 0 wN)) (wCallN (f1 opLen) (wAE (wCall S_cycles_of (wAV 0 wN)) wN))) (wC (.int 2))) (wC (.int 1))))
-- check_lettering [(0, 'lettering')]
def wb_check_lettering : WS := (wIf (wNot (wVal (wCall S_is_lettered (wAV 0 wN))))
 (fun _ _ => False)
 wNext)
-- check_two_letterings [(0, 'lettering'), (1, 'other')]
def wb_check_two_letterings : WS := (wSeq (wExpr (wCall S_check_lettering (wAV 0 wN)))
 (wIf (wNot (wVal (wCall S_is_lettering_of (wAE (wCallN (f1 opLen) (wAV 0 wN)) (wAV 1 wN)))))
 (fun _ _ => False)
 wNext))
-- check_number [(0, 'number')]
def wb_check_number : WS := (wIf (wNot (wVal (wCall S_is_number (wAV 0 wN))))
 (fun _ _ => False)
 wNext)
-- check_whole [(0, 'value'), (1, 'low'), (2, 'high')]
def wb_check_whole : WS := (wIf (wNot (wVal (wCall S_is_between (wAV 0 (wAV 1 (wAV 2 wN))))))
 (fun _ _ => False)
 wNext)
-- turned [(0, 'lettering'), (1, 'other')]
def wb_turned : WS := (wSeq (wExpr (wCall S_check_two_letterings (wAV 0 (wAV 1 wN))))
 (wRet (wCall S_turned_by (wAV 0 (wAV 1 wN)))))
-- plain [(0, 'number')]
def wb_plain : WS := (wSeq (wExpr (wCall S_check_number (wAV 0 wN)))
 (wRet (wCall S_plain_of (wAV 0 wN))))
-- product [(0, 'lettering'), (1, 'other')]
def wb_product : WS := (wSeq (wExpr (wCall S_check_two_letterings (wAV 0 (wAV 1 wN))))
 (wRet (wCall S_product_of (wAV 0 (wAV 1 wN)))))
-- inverse [(0, 'lettering')]
def wb_inverse : WS := (wSeq (wExpr (wCall S_check_lettering (wAV 0 wN)))
 (wRet (wCall S_inverse_of (wAV 0 wN))))
-- power [(0, 'lettering'), (1, 'number')]
def wb_power : WS := (wSeq (wExpr (wCall S_check_lettering (wAV 0 wN)))
 (wSeq (wExpr (wCall S_check_whole (wAV 1 (wAE (wC (.int 0)) (wAE (wC (.int 9999)) wN)))))
 (wRet (wCall S_power_of (wAV 0 (wAV 1 wN))))))
-- cycles [(0, 'lettering')]
def wb_cycles : WS := (wSeq (wExpr (wCall S_check_lettering (wAV 0 wN)))
 (wRet (wCallN (f1 opTuple) (wAE (wCall S_cycles_of (wAV 0 wN)) wN))))
-- lengths [(0, 'lettering')]
def wb_lengths : WS := (wSeq (wExpr (wCall S_check_lettering (wAV 0 wN)))
 (wRet (wCall S_lengths_of (wAV 0 wN))))
-- order [(0, 'lettering')]
def wb_order : WS := (wSeq (wExpr (wCall S_check_lettering (wAV 0 wN)))
 (wRet (wCall S_order_of (wAV 0 wN))))
-- still_signs [(0, 'lettering')]
def wb_still_signs : WS := (wSeq (wExpr (wCall S_check_lettering (wAV 0 wN)))
 (wRet (wCall S_still_ofG (wAV 0 wN))))
-- is_odd [(0, 'lettering')]
def wb_is_odd : WS := (wSeq (wExpr (wCall S_check_lettering (wAV 0 wN)))
 (wRet (wCall S_is_odd_by (wAV 0 wN))))
def wb_still_ofG : WS := wb_still_of
theorem prod_tx {p t : List Nat} : (tx (t.map fun i => p[i]?.getD 0)) = tx (prodL t p) := rfl
theorem okS_lt {n : Nat} {p : List Nat} (hn : n ≤ 10) (h : Lt n p) : okS (tx p) := okS_tx fun i hi => by have := h.lt i hi; omega
theorem vc_is_between : Vc wb_is_between 3 S_is_between := by
  rintro ds q ⟨a, b, c, rfl, h⟩
  simp [wb_is_between, S_is_whole, isT]
  by_cases e : b ≤ a
  · simpa [e] using h
  · simpa [e] using h
theorem vc_inverse_of : Vc wb_inverse_of 2 S_inverse_of := by
  rintro ds q ⟨n, p, rfl, hn, hp, h⟩
  have hl := hp.len
  simp [wb_inverse_of, S_signs_of, hl, hn, x_lc, and_assoc]
  refine ⟨small_le (by omega), ?_⟩
  refine lc_map (List.range n) (fun i => .str [97 + i]) (fun i => .str [97 + p.idxOf i]) (by simp [tx]) (by simp [nbs]) rfl trivial (small_le (by simp; omega)) (by simp [wpE, unwE]) (fun i x hx acc ha W hW => ?_) ?_
  · have hx' : x < n := by simpa using List.mem_of_getElem? hx
    have hi := idx_lt hp hx'
    have e : (tx p).idxOf (97 + x) = p.idxOf x := by
      have h1 := List.idxOf_lt_length_of_mem (hp.mem hx')
      have h2 := List.idxOf_lt_length_of_mem (l := tx p) (tx_mem.mpr (hp.mem hx'))
      have nd : (tx p).Nodup := by
        unfold tx
        rw [List.nodup_iff_pairwise_ne, List.pairwise_map]
        exact (List.nodup_iff_pairwise_ne.mp hp.nodup).imp fun h e => h (by omega)
      have e1 : (tx p)[p.idxOf x]? = (tx p)[(tx p).idxOf (97 + x)]? := by
        rw [List.getElem?_eq_getElem h2, List.getElem_idxOf h2, tx_get, List.getElem?_eq_getElem h1, List.getElem_idxOf h1]; rfl
      exact ((List.getElem?_inj (by simpa using h1) nd).mp e1).symm
    have ei : atI SG (p.idxOf x : Int) = some (97 + p.idxOf x) := at_nat (sg_get (by omega))
    simp [wpE, hp.mem hx', e, ei] at hW ⊢
    exact ⟨by decide, ha, hW⟩
  · simp [flat_one]
    refine ⟨by omega, ?_⟩
    have : tx (invL p) = (List.range n).map fun i => 97 + p.idxOf i := by rw [invL, hl, tx_map]
    rw [← this]; exact h
theorem vc_turned_by : Vc wb_turned_by 2 S_turned_by := by
  rintro ds q ⟨n, p, s, rfl, hn, hp, hs, h⟩
  have h1 := lt_inv hs
  have h2 := lt_prod h1 hp
  simp [wb_turned_by, S_inverse_of, S_product_of, and_assoc]
  refine ⟨n, hn, hs, by rw [hp.len]; exact hn, by rw [h1.len]; omega, fun i hi => by rw [hp.len]; exact h1.lt i hi, by rw [hs.len]; exact hn, by rw [h1.len]; omega, fun i hi => ?_, ?_⟩
  · rw [hs.len]; exact nx_lt hp (h1.lt i hi)
  · simpa [conj, prodL, nx, Function.comp_def] using h
theorem vc_cycle_from : Vc wb_cycle_from 4 S_cycle_from := by
  rintro ds q ⟨n, p, i, rfl, hn, hp, hi, h⟩
  obtain ⟨p1, p2, p3, p4⟩ := per_ok hp hi
  have hl := hp.len
  simp [wb_cycle_from, S_led, hl, hn, and_assoc]
  refine ⟨by omega, nx p i, nx_get hp hi, ?_⟩
  refine ⟨fun m ρ => ∃ k, ρ = [some (.str (tx p)), some (.str [97 + i]), some (.str (tx ((List.range (k + 1)).map fun j => it p j i))), some (.str [97 + it p (k + 1) i])] ∧ k + 1 ≤ per p i ∧ m = per p i - k, ⟨_, 0, ?_, by omega, rfl⟩, ?_⟩
  · simp [tx, it]
  · rintro m ρ ⟨k, rfl, hk, rfl⟩
    have hk1 := it_lt hp hi (k + 1)
    have o1 : okS [97 + it p (k + 1) i] := okS_1 (by omega)
    have o2 : okS [97 + i] := okS_1 (by omega)
    simp [o1, o2]
    by_cases e : k + 1 = per p i
    · have e2 : it p (k + 1) i = i := by rw [e]; exact p3
      simp [e2]
      rw [e]; exact h
    · have e2 : it p (k + 1) i ≠ i := p4 (k + 1) (by omega) (by omega)
      simp [e2, S_led, hl, hn, and_assoc]
      refine ⟨small_le (by omega), by omega, nx p (it p (k + 1) i), nx_get hp hk1, per p i - (k + 1), by omega, k + 1, ?_, rfl, by omega, rfl⟩
      have e3 : List.range (k + 1 + 1) = List.range (k + 1) ++ [k + 1] := List.range_succ
      rw [e3, List.map_append, tx_app]; rfl
theorem sum_le_of {l : List (List Nat)} (h : ∀ C ∈ l, 1 ≤ C.length) : l.length ≤ l.flatten.length := by
  induction l with
  | nil => simp
  | cons a l ih =>
    have := h a (by simp)
    have := ih fun C hC => h C (by simp [hC])
    simp at this ⊢
    omega
theorem flat_nd {n m : Nat} {p : List Nat} (h : Lt n p) {Cs : List (List Nat)} (c : CycOk n p m Cs) : Cs.flatten.Nodup := by
  rw [List.nodup_iff_pairwise_ne, List.pairwise_flatten]
  refine ⟨fun C hC => ?_, c.dis.imp (by intro C C' hd x hx y hy e; subst e; exact hd x hx hy)⟩
  obtain ⟨i, hi, rfl⟩ := c.orb C hC
  exact List.nodup_iff_pairwise_ne.mp (orb_nodup h hi)
theorem flat_lt {n m : Nat} {p : List Nat} (h : Lt n p) {Cs : List (List Nat)} (c : CycOk n p m Cs) : ∀ i ∈ Cs.flatten, i < n := fun x hx => by
  obtain ⟨C, hC, hx⟩ := List.mem_flatten.mp hx
  obtain ⟨i, hi, rfl⟩ := c.orb C hC
  exact orb_lt h hi x hx
theorem cyc_len {n m : Nat} {p : List Nat} (h : Lt n p) {Cs : List (List Nat)} (c : CycOk n p m Cs) : Cs.flatten.length ≤ n ∧ Cs.length ≤ n ∧ ∀ C ∈ Cs, 1 ≤ C.length ∧ C.length ≤ n := by
  have h1 := nd_len (flat_nd h c) (flat_lt h c)
  have h2 : ∀ C ∈ Cs, 1 ≤ C.length ∧ C.length ≤ n := fun C hC => by
    obtain ⟨i, hi, rfl⟩ := c.orb C hC
    rw [orb_len]
    exact ⟨(per_ok h hi).1, (per_ok h hi).2.1⟩
  exact ⟨h1, Nat.le_trans (sum_le_of fun C hC => (h2 C hC).1) h1, h2⟩
theorem txsL_app {A B : List (List Nat)} : txsL (A ++ B) = txsL A ++ txsL B := by simp [txsL]
@[simp] theorem txsL_len {A : List (List Nat)} : (txsL A).length = A.length := by simp [txsL]
theorem vc_cycles_of : Vc wb_cycles_of 4 S_cycles_of := by
  rintro ds q ⟨n, p, rfl, hn, hp, h⟩
  have hl := hp.len
  simp [wb_cycles_of, S_signs_of, hl, hn, x_for, and_assoc]
  refine ⟨small_le (by omega), ?_⟩
  obtain ⟨J, hJ⟩ : ∃ J : Nat → VEnv → Prop, ∀ m ρ, J m ρ ↔ ∃ x, ρ = [some (.str (tx p)), some (.seq .own (txsL ((List.range m).foldl (cycF p) []))), some (.str (tx ((List.range m).foldl (cycF p) []).flatten)), x] := ⟨_, fun _ _ => Iff.rfl⟩
  refine for_inv (List.range n) (fun i => .str [97 + i]) J (by simp [tx]) ((hJ _ _).mpr ⟨none, rfl⟩) (fun _ _ _ => trivial) ?_ ?_
  · intro ρ h'
    obtain ⟨x, rfl⟩ := (hJ _ _).mp h'
    simp [unlE]
    unfold cycs at h; rw [hl] at h
    exact h
  · intro i a ρ hx h'
    obtain ⟨x, rfl⟩ := (hJ _ _).mp h'
    have hi : i < n := by have := (List.getElem?_eq_some_iff.mp hx).1; simpa using this
    rw [List.getElem?_range hi] at hx
    cases hx
    clear h'
    have c := cycs_fold hp i (by omega)
    have hstep : (List.range (i + 1)).foldl (cycF p) [] = cycF p ((List.range i).foldl (cycF p) []) i := by rw [List.range_succ, List.foldl_append]; rfl
    rw [show J (i + 1) = J (i + 1) from rfl]
    have hJ1 := hJ (i + 1)
    rw [hstep] at hJ1
    generalize (List.range i).foldl (cycF p) [] = Cs at *
    obtain ⟨l1, l2, l3⟩ := cyc_len hp c
    have o1 := (cyc_len hp (c.step hp hi)).1
    by_cases e : i ∈ Cs.flatten
    · have ec : cycF p Cs i = Cs := if_pos e
      rw [ec] at hJ1
      simp [bd0_cycles_of, e, gN]
      exact (hJ1 _).mpr ⟨_, rfl⟩
    · have ec : cycF p Cs i = Cs ++ [orb p i] := if_neg e
      rw [ec] at hJ1 o1
      have ea : atI (txsL Cs ++ [D.str (tx (orb p i))]) (-1) = some (.str (tx (orb p i))) := at_last (by simp)
      simp [bd0_cycles_of, e, gN, S_cycle_from, ea, and_assoc]
      refine ⟨n, hn, hp, hi, small_lt (by omega), ?_, (hJ1 _).mpr ⟨some (.str [97 + i]), by rw [txsL_app]; simp [txsL, tx_app]⟩⟩
      have : (List.map List.length Cs).sum + (orb p i).length = (Cs ++ [orb p i]).flatten.length := by simp [List.length_flatten]
      rw [this]; exact small_le (by omega)
theorem ints_srt {L : List Nat} {ns : List Int} (hp : ns.Perm (L.map fun l : Nat => (l : Int))) (hs : ns.Pairwise (· ≤ ·)) : ns = (srt L).map fun l : Nat => (l : Int) := by
  obtain ⟨l', h1, rfl⟩ := perm_map_inj hp
  rw [List.pairwise_map] at hs
  rw [srt_uni h1 (hs.imp fun h => by omega)]
theorem vc_lengths_of : Vc wb_lengths_of 2 S_lengths_of := by
  rintro ds q ⟨n, p, rfl, hn, hp, h⟩
  obtain ⟨l1, l2, l3⟩ := cyc_len hp (cycs_ok hp)
  simp [wb_lengths_of, S_cycles_of, x_lc, and_assoc]
  refine ⟨n, hn, hp, ?_⟩
  refine lc_map (cycs p) (fun C => .str (tx C)) (fun C => .int C.length) rfl (by simp [nbs]) rfl trivial (small_le (by omega)) (by simp [wpE, unwE]) (fun i x hx acc ha W hW => ?_) ?_
  · have := (l3 x (List.mem_of_getElem? hx)).2
    simp [wpE] at hW ⊢
    exact ⟨small_le (by omega), ha, hW⟩
  · simp
    refine .inl ⟨(cycs p).map fun C => (C.length : Int), ints_mapf _, fun ns' h1 h2 => ?_⟩
    have e : (cycs p).map (fun C => (C.length : Int)) = ((cycs p).map List.length).map fun l : Nat => (l : Int) := by rw [List.map_map]; rfl
    rw [e] at h1
    rw [ints_srt h1 h2]
    simp [List.map_map]
    exact h
theorem ordF_lcm (f l : Nat) : ordF f l = Nat.lcm f l := by
  unfold ordF Nat.lcm
  rw [Nat.div_mul_right_comm (Nat.gcd_dvd_left f l)]
theorem ord_fold : ∀ (ls : List Nat) (f : Nat), (∀ l ∈ ls, 1 ≤ l ∧ l ≤ 10) → 0 < f → f ∣ 2520 → 0 < ls.foldl ordF f ∧ ls.foldl ordF f ∣ 2520
  | [], f, _, h1, h2 => ⟨h1, h2⟩
  | l :: ls, f, h, h1, h2 => by
    have hl := h l (by simp)
    have hd : l ∣ 2520 := by
      have : ∀ l : Fin 11, 1 ≤ l.val → l.val ∣ 2520 := by decide
      exact this ⟨l, by omega⟩ hl.1
    show 0 < ls.foldl ordF (ordF f l) ∧ _
    refine ord_fold ls (ordF f l) (fun x hx => h x (by simp [hx])) ?_ ?_
    · rw [ordF_lcm]; exact Nat.lcm_pos h1 hl.1
    · rw [ordF_lcm]; exact Nat.lcm_dvd h2 hd
theorem lens_ok {n : Nat} {p : List Nat} (hn : n ≤ 10) (h : Lt n p) : ∀ l ∈ lensL p, 1 ≤ l ∧ l ≤ 10 := fun l hl => by
  have := (srt_perm _).subset hl
  obtain ⟨C, hC, rfl⟩ := List.mem_map.mp this
  have := (cyc_len h (cycs_ok h)).2.2 C hC
  omega
theorem lens_len {n : Nat} {p : List Nat} (h : Lt n p) : (lensL p).length ≤ n := by
  rw [lensL, (srt_perm _).length_eq, List.length_map]; exact (cyc_len h (cycs_ok h)).2.1
theorem ord_ok {n : Nat} {p : List Nat} (hn : n ≤ 10) (h : Lt n p) : 0 < ordL (lensL p) ∧ ordL (lensL p) ≤ 2520 := by
  obtain ⟨h1, h2⟩ := ord_fold (lensL p) 1 (lens_ok hn h) (by decide) (by decide)
  exact ⟨h1, Nat.le_of_dvd (by decide) h2⟩
@[simp] theorem o_gcd {a b : Nat} {p : D → Prop} : opGcd (.int a) (.int b) p = p (.int (Nat.gcd a b : Nat)) := rfl
theorem vc_order_of : Vc wb_order_of 3 S_order_of := by
  rintro ds q ⟨n, p, rfl, hn, hp, h⟩
  have l1 := lens_ok hn hp
  have l2 := lens_len hp
  simp [wb_order_of, S_lengths_of, lnsD, x_for, and_assoc]
  refine ⟨n, hn, hp, ?_⟩
  unfold ordL at h
  generalize lensL p = L at *
  obtain ⟨J, hJ⟩ : ∃ J : Nat → VEnv → Prop, ∀ m ρ, J m ρ ↔ ∃ x, ρ = [some (.str (tx p)), some (.int ((L.take m).foldl ordF 1 : Nat)), x] := ⟨_, fun _ _ => Iff.rfl⟩
  refine for_inv L (fun i : Nat => .int i) J rfl ((hJ _ _).mpr ⟨none, rfl⟩) (fun _ _ _ => trivial) ?_ ?_
  · intro ρ h'
    obtain ⟨x, rfl⟩ := (hJ _ _).mp h'
    simp [unlE]
    exact h
  · intro i l ρ hx h'
    obtain ⟨x, rfl⟩ := (hJ _ _).mp h'
    have hs : L.take (i + 1) = L.take i ++ [l] := by rw [List.take_add_one, hx]; rfl
    obtain ⟨f1, f2⟩ := ord_fold (L.take i) 1 (fun x hx => l1 x (List.mem_of_mem_take hx)) (by decide) (by decide)
    have f3 := Nat.le_of_dvd (by decide) f2
    have hJ1 := hJ (i + 1)
    rw [hs, List.foldl_append] at hJ1
    generalize (L.take i).foldl ordF 1 = f at *
    have hl := l1 l (List.mem_of_getElem? hx)
    have hg : 0 < Nat.gcd f l := Nat.gcd_pos_of_pos_left l f1
    have hg2 := Nat.gcd_le_right f hl.1
    have c1 : CDivW (f : Int) (Nat.gcd f l : Nat) := by
      refine ⟨by omega, ?_⟩
      rw [Int.natAbs_natCast]
      refine Nat.lt_of_le_of_lt (Nat.log2_self_le (n := Nat.gcd f l) (by omega) |> fun _ => Nat.log2_le_self _) (by omega)
    have c2 : CMul ((f : Int) / (Nat.gcd f l : Nat)) l := .inr ⟨by omega, by omega⟩
    simp [bd0_order_of, gN, c1, c2]
    refine (hJ1 _).mpr ⟨some (.int l), ?_⟩
    simp [ordF]
theorem vc_power_of : Vc wb_power_of 4 S_power_of := by
  rintro ds q ⟨n, p, k, rfl, hn, hp, h⟩
  have hl := hp.len
  obtain ⟨o1, o2⟩ := ord_ok hn hp
  simp [wb_power_of, S_plain_of, S_signs_of, S_order_of, x_for, hl, hn, and_assoc]
  have hm : k % ordL (lensL p) < 2520 := by have := Nat.mod_lt k o1; omega
  obtain ⟨m, hmm⟩ : ∃ m, k % ordL (lensL p) = m := ⟨_, rfl⟩
  have em : (k : Int) % (ordL (lensL p) : Int) = (m : Int) := by rw [← hmm]; rfl
  rw [hmm] at h hm
  rw [em]
  refine ⟨small_le (by omega), n, hn, hp, o1, by omega, by omega, ?_⟩
  obtain ⟨J, hJ⟩ : ∃ J : Nat → VEnv → Prop, ∀ j ρ, J j ρ ↔ ∃ x, ρ = [some (.str (tx p)), some (.int k), some (.str (tx (powL p j))), x] := ⟨_, fun _ _ => Iff.rfl⟩
  refine for_inv (List.range m) (fun i : Nat => .int i) J (rangeD_nat m) ((hJ _ _).mpr ⟨none, by simp [powL, idL, hl, lockE]⟩) (fun _ _ _ => trivial) ?_ ?_
  · intro ρ h'
    obtain ⟨x, rfl⟩ := (hJ _ _).mp h'
    simp [unlE]
    exact h
  · intro i l ρ hx h'
    obtain ⟨x, rfl⟩ := (hJ _ _).mp h'
    have hq := lt_pow hp i
    simp [bd0_power_of, gN, S_product_of, hl, hn, and_assoc]
    refine ⟨by rw [hq.len]; omega, fun j hj => hq.lt j hj, (hJ _ _).mpr ⟨some (.int l), by simp [powL, prodL, nx]⟩⟩
theorem vc_is_odd_by : Vc wb_is_odd_by 1 S_is_odd_by := by
  rintro ds q ⟨n, p, rfl, hn, hp, h⟩
  have hl := hp.len
  have h2 := (cyc_len hp (cycs_ok hp)).2.1
  simp [wb_is_odd_by, S_cycles_of, hl, and_assoc]
  refine ⟨small_le (by omega), n, hn, hp, ?_⟩
  have e : (((n : Int) - ((cycs p).length : Int)) % 2 == 1) = oddB p := by
    unfold oddB
    rw [hl, Bool.eq_iff_iff]
    simp only [beq_iff_eq]
    omega
  rw [e]; exact h
theorem zip_nx {n : Nat} {p : List Nat} (hn : n ≤ 10) (hp : Lt n p) {A : Type} (f : Nat → Nat → A) : List.zipWith f SG (tx p) = (List.range n).map fun i => f (97 + i) (97 + nx p i) := by
  have hl := hp.len
  apply List.ext_getElem?
  intro k
  rw [List.getElem?_zipWith, List.getElem?_map]
  by_cases hk : k < n
  · rw [sg_get (by omega), tx_get, nx_get hp hk, List.getElem?_range hk]; rfl
  · rw [List.getElem?_eq_none (l := List.range n) (by simp; omega), List.getElem?_eq_none (l := tx p) (by simp; omega)]
    cases SG[k]? <;> rfl
theorem filter_sg {L : List Nat} {f : Nat → Bool} : L.filterMap (fun i => if f i = true then some (D.str [97 + i]) else none) = sgs (L.filter f) := by
  induction L with
  | nil => rfl
  | cons a L ih =>
    cases e : f a with
    | true => rw [List.filterMap_cons_some (b := D.str [97 + a]) (by simp [e]), List.filter_cons_of_pos e, ih]; rfl
    | false => rw [List.filterMap_cons_none (by simp [e]), List.filter_cons_of_neg (by simp [e]), ih]
theorem sgs_strs (L : List Nat) : strsOf (sgs L) = some (L.map fun i => [97 + i]) := by unfold sgs; exact strs_mapf _
theorem flat_sgs (L : List Nat) : (L.map fun i => [97 + i]).flatten = tx L := by rw [flat_one]; rfl
theorem vc_still_ofG : Vc wb_still_ofG 3 S_still_ofG := by
  rintro ds q ⟨n, p, rfl, hn, hp, h⟩
  have hl := hp.len
  simp [wb_still_ofG, wb_still_of, x_lc, wtZ]
  refine lc_filter (List.range n) (fun i => pairD (.str [97 + i]) (.str [97 + nx p i])) (fun i => if nx p i == i then some (.str [97 + i]) else none) (zip_nx hn hp _) (by simp [nbs]) rfl trivial (small_le (by simp; omega)) (by simp [wpE, unwE]) (fun i x hx acc ha W hW => ?_) ?_
  · have hx' : x < n := by simpa using List.mem_of_getElem? hx
    have hx2 := nx_lt hp hx'
    have o1 : okS [97 + x] := okS_1 (by omega)
    have o2 : okS [97 + nx p x] := okS_1 (by omega)
    by_cases e : nx p x = x
    · simp [wpE, pairD, e, o1, o2, and_assoc] at hW ⊢
      exact ⟨ha, hW⟩
    · have e2 : ¬ x = nx p x := fun z => e z.symm
      simp [wpE, pairD, e, e2, o1, o2, and_assoc] at hW ⊢
      exact hW
  · rw [filter_sg]
    have hs : (List.range n).filter (fun i => nx p i == i) = stillL p := by unfold stillL; rw [hl]
    rw [hs]
    have hlen : (stillL p).length ≤ n := by rw [← hs]; exact Nat.le_trans (List.length_filter_le _ _) (by simp)
    simp [sgs_strs, flat_sgs]
    exact ⟨by omega, h⟩
theorem vc_check_lettering : Vc wb_check_lettering 1 S_check_lettering := by
  rintro ds q ⟨n, p, rfl, hn, hp, h⟩
  simp [wb_check_lettering, S_is_lettered, and_assoc]
  exact ⟨n, hn, hp, h⟩
theorem vc_check_two_letterings : Vc wb_check_two_letterings 2 S_check_two_letterings := by
  rintro ds q ⟨n, p, s, rfl, hn, hp, hs, h⟩
  have hl := hp.len
  have h1 := hn.le
  simp [wb_check_two_letterings, S_check_lettering, S_is_lettering_of, hl, h1, and_assoc]
  exact ⟨n, hn, hp, small_le (by omega), hs, h⟩
theorem vc_check_number : Vc wb_check_number 1 S_check_number := by
  rintro ds q ⟨n, rfl, hn, h⟩
  simp [wb_check_number, S_is_number, hn]
  exact h
theorem vc_check_whole : Vc wb_check_whole 3 S_check_whole := by
  rintro ds q ⟨a, b, c, rfl, h1, h2, h⟩
  simp [wb_check_whole, S_is_between, and_assoc]
  exact ⟨h1, h2, h⟩
theorem vc_turned : Vc wb_turned 2 S_turned := by
  rintro ds q ⟨n, p, s, rfl, hn, hp, hs, h⟩
  simp [wb_turned, S_check_two_letterings, S_turned_by, and_assoc]
  exact ⟨n, hn, hp, hs, n, hn.le, hp, hs, h⟩
theorem vc_plain : Vc wb_plain 1 S_plain := by
  rintro ds q ⟨n, rfl, hn, h⟩
  simp [wb_plain, S_check_number, S_plain_of, S_signs_of, hn, hn.le]
  exact h
theorem vc_product : Vc wb_product 2 S_product := by
  rintro ds q ⟨n, p, s, rfl, hn, hp, hs, h⟩
  have h1 := hn.le
  simp [wb_product, S_check_two_letterings, S_product_of, hs.len, hp.len, h1, and_assoc]
  exact ⟨n, hn, hp, hs, by omega, fun i hi => hp.lt i hi, h⟩
theorem vc_inverse : Vc wb_inverse 1 S_inverse := by
  rintro ds q ⟨n, p, rfl, hn, hp, h⟩
  simp [wb_inverse, S_check_lettering, S_inverse_of, and_assoc]
  exact ⟨n, hn, hp, n, hn.le, hp, h⟩
theorem vc_power : Vc wb_power 2 S_power := by
  rintro ds q ⟨n, p, k, rfl, hn, hp, hk, h⟩
  simp [wb_power, S_check_lettering, S_check_whole, S_power_of, and_assoc]
  exact ⟨n, hn, hp, by omega, n, hn.le, hp, h⟩
theorem vc_cycles : Vc wb_cycles 1 S_cycles := by
  rintro ds q ⟨n, p, rfl, hn, hp, h⟩
  simp [wb_cycles, S_check_lettering, S_cycles_of, and_assoc]
  exact ⟨n, hn, hp, n, hn.le, hp, h⟩
theorem vc_lengths : Vc wb_lengths 1 S_lengths := by
  rintro ds q ⟨n, p, rfl, hn, hp, h⟩
  simp [wb_lengths, S_check_lettering, S_lengths_of, and_assoc]
  exact ⟨n, hn, hp, n, hn.le, hp, rfl, h⟩
theorem vc_order : Vc wb_order 1 S_order := by
  rintro ds q ⟨n, p, rfl, hn, hp, h⟩
  simp [wb_order, S_check_lettering, S_order_of, and_assoc]
  exact ⟨n, hn, hp, n, hn.le, hp, h⟩
theorem vc_still_signs : Vc wb_still_signs 1 S_still_signs := by
  rintro ds q ⟨n, p, rfl, hn, hp, h⟩
  simp [wb_still_signs, S_check_lettering, S_still_ofG, and_assoc]
  exact ⟨n, hn, hp, n, hn.le, hp, h⟩
theorem vc_is_odd : Vc wb_is_odd 1 S_is_odd := by
  rintro ds q ⟨n, p, rfl, hn, hp, h⟩
  simp [wb_is_odd, S_check_lettering, S_is_odd_by, and_assoc]
  exact ⟨n, hn, hp, n, hn.le, hp, h⟩
end VL

namespace VL
open PySem PySem.Spec PyProof.Rows L2
/-! ### dict comprehensions -/
section
variable {ι : WI} {g : WG} {vs : List Nat} {θ : WTs} {κ α : WE} {ρ ρ1 : VEnv} {q : D → VEnv → Prop} {items : List D} {wt : Option (Nat × D)}
def DcGo (items : List D) (wt : Option (Nat × D)) (ρ1 : VEnv) (g : WG) (vs : List Nat) (θ : WTs) (κ α : WE) (q : D → VEnv → Prop) : Prop := nbs ρ1 vs = true ∧ wtOut wt vs = true ∧ ∃ W : Nat → List (DKey × D) → VEnv → Prop, W 0 [] (wpE ρ1 vs) ∧ ∀ i acc ρ, i ≤ items.length → W i acc ρ → isWt ρ wt ∧ (i = items.length → q (.map .tmp acc) (unwE ρ1 ρ vs)) ∧
  ∀ x, items[i]? = some x → g x ρ fun ρ2 => θ ρ2 fun b ρ3 => if b = true then κ ρ3 fun kd ρ4 => ∃ ky, keyD kd = some ky ∧ α ρ4 fun y ρ5 => y.brw = false ∧ acc.length < sizeLine ∧ W (i + 1) (dput acc ky (y.to .froz)) (wpE ρ5 vs) else W (i + 1) acc (wpE ρ3 vs)
theorem x_dc : wDc ι g vs θ κ α ρ q = ι ρ fun items wt ρ1 => DcGo items wt ρ1 g vs θ κ α q := rfl
theorem dput_le1 (kds : List (DKey × D)) (k : DKey) (d : D) : (dput kds k d).length ≤ kds.length + 1 := by
  unfold dput; split
  · simp
  · simp
theorem dc_inv {A : Type} (xs : List A) (mk : A → D) (J : Nat → List (DKey × D) → VEnv → Prop) (he : items = xs.map mk) (h1 : nbs ρ1 vs = true) (h2 : wtOut wt vs = true) (hz : xs.length ≤ sizeLine) (h0 : J 0 [] (wpE ρ1 vs)) (hl : ∀ i acc ρ, J i acc ρ → acc.length ≤ i ∧ isWt ρ wt)
    (hb : ∀ (i : Nat) a acc ρ, xs[i]? = some a → J i acc ρ → acc.length < sizeLine → g (mk a) ρ fun ρ2 => θ ρ2 fun b ρ3 => if b = true then κ ρ3 fun kd ρ4 => ∃ ky, keyD kd = some ky ∧ α ρ4 fun y ρ5 => y.brw = false ∧ acc.length < sizeLine ∧ J (i + 1) (dput acc ky (y.to .froz)) (wpE ρ5 vs) else J (i + 1) acc (wpE ρ3 vs))
    (hq : ∀ acc ρ, J xs.length acc ρ → q (.map .tmp acc) (unwE ρ1 ρ vs)) : DcGo items wt ρ1 g vs θ κ α q := by
  subst he
  refine ⟨h1, h2, J, h0, ?_⟩
  rintro i acc ρ hi hJ
  rw [List.length_map] at hi
  refine ⟨(hl i acc ρ hJ).2, fun e => ?_, fun x hx => ?_⟩
  · rw [List.length_map] at e
    subst e; exact hq acc ρ hJ
  · rw [List.getElem?_map] at hx
    cases hxa : xs[i]? with
    | none => rw [hxa] at hx; cases hx
    | some a =>
      rw [hxa] at hx; cases hx
      have hlt : i < xs.length := (List.getElem?_eq_some_iff.mp hxa).1
      exact hb i a acc ρ hxa hJ (by have := (hl i acc ρ hJ).1; omega)
theorem dput_mem {kds : List (DKey × D)} {k : DKey} {d : D} {p : DKey × D} (h : p ∈ dput kds k d) : p = (k, d) ∨ p ∈ kds := by
  unfold dput at h
  split at h
  · obtain ⟨p', h1, h2⟩ := List.mem_map.mp h
    split at h2
    · rename_i e; left; rw [← h2, e]
    · right; rw [← h2]; exact h1
  · rcases List.mem_append.mp h with h | h
    · exact .inr h
    · left; simpa using h
theorem dput_new {kds : List (DKey × D)} {k : DKey} {d : D} : (k, d) ∈ dput kds k d := by
  unfold dput
  split
  · rename_i e
    obtain ⟨p, h1, h2⟩ := List.any_eq_true.mp e
    have h2 : p.1 = k := by simpa using h2
    exact List.mem_map.mpr ⟨p, h1, by rw [if_pos h2, h2]⟩
  · simp
theorem dput_old {kds : List (DKey × D)} {k : DKey} {d : D} {p : DKey × D} (h : p ∈ kds) (n : p.1 ≠ k) : p ∈ dput kds k d := by
  unfold dput
  split
  · exact List.mem_map.mpr ⟨p, h, by rw [if_neg n]⟩
  · exact List.mem_append_left _ h
end
@[simp] theorem i_tupN {ds : List D} : itemsOf (.tupN ds) = some ds := rfl
@[simp] theorem n_tupN {ds : List D} : (D.tupN ds).brw = false := rfl
@[simp] theorem keep_tupN {ds : List D} : (D.tupN ds).keep = .tupN ds := rfl
@[simp] theorem to_tupN {k : Kd} {ds : List D} : (D.tupN ds).to k = .tupN ds := rfl
/-! ### how many cycles of each length -/
def lnsN (ls : List Nat) : D := .tupN (ls.map fun l : Nat => .int l)
def S_lengths_ofN : Spec := fun ds q => ∃ (n : Nat) (p : List Nat), ds = [.str (tx p)] ∧ n ≤ 10 ∧ Lt n p ∧ q (lnsN (lensL p)) ds
def cntP (ls : List Nat) (l : Nat) : DKey × D := (.inl (l : Int), .int (ls.count l : Nat))
def S_by_lengths : Spec := fun ds q => ∃ (n : Nat) (p : List Nat), ds = [.str (tx p)] ∧ n ≤ 10 ∧ Lt n p ∧ ∀ kds : List (DKey × D), kds.length ≤ 10 → (∀ x ∈ kds, ∃ l ∈ lensL p, x = cntP (lensL p) l) → (∀ l ∈ lensL p, cntP (lensL p) l ∈ kds) → q (.map .tmp kds) ds
def twoB (p : List Nat) : Bool := (lensL p).all fun l => (lensL p).count l % 2 == 0
def S_odd_length : Spec := fun ds q => ∃ (n : Nat) (p : List Nat), ds = [.str (tx p)] ∧ n ≤ 10 ∧ Lt n p ∧ (twoB p = true → q .non ds) ∧ (∀ m ∈ lensL p, (lensL p).count m % 2 = 1 → q (.int (m : Nat)) ds)
def S_is_of_two_by : Spec := fun ds q => ∃ (n : Nat) (p : List Nat), ds = [.str (tx p)] ∧ n ≤ 10 ∧ Lt n p ∧ q (.bl (twoB p)) ds
-- lengths_of [(0, 'lettering'), (1, 'cycle')]
def wb_lengths_ofN : WS := (wRet (wCallN (f1 opTupleN) (wAE (wCallN (f1 opSorted) (wAE (wLc (wI (wCall S_cycles_of (wAV 0 wN))) (gN 1) [1] (fun ρ q => q true ρ) (wCallN (f1 opLen) (wAV 1 wN))) wN)) wN)))
-- by_lengths [(0, 'lettering'), (1, 'lengths'), (2, 'length')]
def wb_by_lengths : WS := (wSeq (wSet 1 (wCall S_lengths_ofN (wAV 0 wN)))
 (wRet (wDc (wIV 1) (gN 2) [2] (fun ρ q => q true ρ) (wVar 2) (wCountT (wVar 1) (wAV 2 wN)))))
-- odd_length [(0, 'lettering'), (1, 'length'), (2, 'many')]
def wb_odd_length : WS := (wRet (wMinD (wAE (wLc (wItems (wCall S_by_lengths (wAV 0 wN))) (gT 2 (gsC (gN 1) (gsC (gN 2) gsN))) [1, 2] (wVal (wBin opEq (wBin opMod (wVar 2) (wC (.int 2))) (wC (.int 1)))) (wVar 1)) wN)))
-- is_of_two_by [(0, 'lettering')]
def wb_is_of_two_by : WS := (wRet (wBin (opIsN false) (wCall S_odd_length (wAV 0 wN)) (wC .non)))
theorem vc_lengths_ofN : Vc wb_lengths_ofN 2 S_lengths_ofN := by
  rintro ds q ⟨n, p, rfl, hn, hp, h⟩
  obtain ⟨l1, l2, l3⟩ := cyc_len hp (cycs_ok hp)
  simp [wb_lengths_ofN, S_cycles_of, x_lc, and_assoc]
  refine ⟨n, hn, hp, ?_⟩
  refine lc_map (cycs p) (fun C => .str (tx C)) (fun C => .int C.length) rfl (by simp [nbs]) rfl trivial (small_le (by omega)) (by simp [wpE, unwE]) (fun i x hx acc ha W hW => ?_) ?_
  · have := (l3 x (List.mem_of_getElem? hx)).2
    simp [wpE] at hW ⊢
    exact ⟨small_le (by omega), ha, hW⟩
  · simp
    refine .inl ⟨(cycs p).map fun C => (C.length : Int), ints_mapf _, fun ns' h1 h2 => ?_⟩
    have e : (cycs p).map (fun C => (C.length : Int)) = ((cycs p).map List.length).map fun l : Nat => (l : Int) := by rw [List.map_map]; rfl
    rw [e] at h1
    rw [ints_srt h1 h2]
    simp [List.map_map]
    exact h
theorem count_nat (ls : List Nat) (l : Nat) : (ls.map fun l : Nat => (l : Int)).count (l : Int) = ls.count l := by
  induction ls with
  | nil => rfl
  | cons a ls ih =>
    rw [List.map_cons, List.count_cons, List.count_cons, ih]
    by_cases e : a = l
    · subst e; simp
    · rw [beq_eq_false_iff_ne.mpr e, beq_eq_false_iff_ne.mpr (by omega)]
theorem vc_by_lengths : Vc wb_by_lengths 3 S_by_lengths := by
  rintro ds q ⟨n, p, rfl, hn, hp, h⟩
  have hl := lens_len hp
  simp [wb_by_lengths]
  refine ⟨n, p, rfl, hn, hp, ?_⟩
  have e : (lnsN (lensL p)) = .tupN ((lensL p).map fun l : Nat => .int l) := rfl
  generalize lensL p = ls at *
  rw [e]
  simp [x_dc, and_assoc]
  obtain ⟨J, hJ⟩ : ∃ J : Nat → List (DKey × D) → VEnv → Prop, ∀ i acc ρ, J i acc ρ ↔ ρ = [some (.str (tx p)), some (.tupN (ls.map fun l : Nat => .int l)), none] ∧ acc.length ≤ i ∧ (∀ x ∈ acc, ∃ l ∈ ls, x = cntP ls l) ∧ ∀ l ∈ ls.take i, cntP ls l ∈ acc := ⟨_, fun _ _ _ => Iff.rfl⟩
  refine dc_inv ls (fun l : Nat => .int l) J rfl (by simp [nbs]) rfl (small_le (by omega)) ((hJ _ _ _).mpr ⟨by simp [wpE], by simp, by simp, by simp⟩) (fun i acc ρ h' => ⟨((hJ _ _ _).mp h').2.1, trivial⟩) ?_ ?_
  · intro i l acc ρ hx h' hz
    obtain ⟨rfl, h1, h2, h3⟩ := (hJ _ _ _).mp h'
    clear h'
    have hli := List.mem_of_getElem? hx
    simp [keyD]
    refine ⟨ls.map fun l : Nat => (l : Int), by simp [List.map_map, Function.comp_def], hz, ?_⟩
    rw [count_nat]
    refine (hJ _ _ _).mpr ⟨by simp [wpE], by have := dput_le1 acc (.inl (l : Int)) (.int (ls.count l : Nat)); simp at this ⊢; omega, fun x hx => ?_, fun m hm => ?_⟩
    · rcases dput_mem hx with rfl | hx
      · exact ⟨l, hli, rfl⟩
      · exact h2 x hx
    · by_cases e : m = l
      · subst e; exact dput_new
      · rw [List.take_add_one, hx] at hm
        rcases List.mem_append.mp hm with hm | hm
        · exact dput_old (h3 m hm) (by simp [cntP]; omega)
        · simp at hm; exact absurd hm e
  · intro acc ρ h'
    obtain ⟨rfl, h1, h2, h3⟩ := (hJ _ _ _).mp h'
    clear h'
    rw [List.take_length] at h3
    simp [unwE]
    exact h acc (by omega) h2 h3
theorem cnt_list {ls : List Nat} : ∀ kds : List (DKey × D), (∀ x ∈ kds, ∃ l ∈ ls, x = cntP ls l) → ∃ ms : List Nat, kds = ms.map (cntP ls) ∧ ∀ m ∈ ms, m ∈ ls
  | [], _ => ⟨[], rfl, by simp⟩
  | x :: kds, h => by
    obtain ⟨l, hl, rfl⟩ := h x (by simp)
    obtain ⟨ms, rfl, hm⟩ := cnt_list kds fun x hx => h x (by simp [hx])
    exact ⟨l :: ms, rfl, fun m hm' => by
      rcases List.mem_cons.mp hm' with rfl | hm'
      · exact hl
      · exact hm m hm'⟩
theorem vc_odd_length : Vc wb_odd_length 3 S_odd_length := by
  rintro ds q ⟨n, p, rfl, hn, hp, h0, h1⟩
  have hl := lens_len hp
  simp [wb_odd_length]
  rw [x_lc]
  simp
  refine ⟨n, p, rfl, hn, hp, fun kds hk k1 k2 => ?_⟩
  simp
  obtain ⟨ms, rfl, hm⟩ := cnt_list kds k1
  rw [List.length_map] at hk
  have e2 : itemsM (ms.map (cntP (lensL p))) = ms.map fun m => pairD (.int (m : Nat)) (.int ((lensL p).count m : Nat)) := by
    unfold itemsM; rw [List.map_map]; rfl
  refine lc_filter ms (fun m => pairD (.int (m : Nat)) (.int ((lensL p).count m : Nat))) (fun m => if (lensL p).count m % 2 = 1 then some (.int (m : Nat)) else none) e2 (by simp [nbs]) rfl trivial (small_le (by omega)) (by simp [wpE, unwE]) (fun i m hx acc ha W hW => ?_) ?_
  · have e3 : (((lensL p).count m : Nat) : Int) % 2 = ((((lensL p).count m) % 2 : Nat) : Int) := by omega
    simp [wpE] at hW
    simp [wpE, pairD, gT, gsC, gN, gsN]
    refine ⟨_, _, ⟨rfl, rfl⟩, _, _, rfl, rfl, ?_⟩
    by_cases e : (lensL p).count m % 2 = 1
    · simp [e3, e] at hW ⊢
      exact ⟨ha, hW⟩
    · have e0 : (lensL p).count m % 2 = 0 := by omega
      simp [e3, e0] at hW ⊢
      exact hW
  · have e4 : (ms.filterMap fun m => if (lensL p).count m % 2 = 1 then some (D.int (m : Nat)) else none) = (ms.filter fun m => decide ((lensL p).count m % 2 = 1)).map fun m : Nat => D.int (m : Int) := by
      clear hk e2 hm k1 k2
      induction ms with
      | nil => rfl
      | cons a ms ih =>
        by_cases e : (lensL p).count a % 2 = 1
        · simp [e, ih]
        · simp [e, ih]
    rw [e4]
    simp
    refine ⟨fun e => h0 ?_, fun m x hx ho e => by subst e; exact h1 x (hm x hx) ho⟩
    unfold twoB
    rw [List.all_eq_true]
    intro l hl'
    have hlm : l ∈ ms := by
      obtain ⟨m, h2, h3⟩ := List.mem_map.mp (k2 l hl')
      have : (m : Int) = l := by have := congrArg Prod.fst h3; simpa [cntP] using this
      have : m = l := by omega
      exact this ▸ h2
    have h5 := e l hlm
    simp at h5 ⊢
    exact h5
theorem vc_is_of_two_by : Vc wb_is_of_two_by 1 S_is_of_two_by := by
  rintro ds q ⟨n, p, rfl, hn, hp, h⟩
  simp [wb_is_of_two_by]
  refine ⟨n, p, rfl, hn, hp, fun e => ?_, fun m hm ho => ?_⟩
  · rw [e] at h
    simpa [opIsN, isNonD] using h
  · have e : twoB p = false := by
      unfold twoB
      rw [List.all_eq_false]
      exact ⟨m, hm, by simp; omega⟩
    rw [e] at h
    simpa [opIsN, isNonD] using h
end VL

namespace VL
open PySem PySem.Spec PyProof.Rows L2
theorem layN : ∀ (A : List Nat), PyData.canLayAll0 (toPs (A.map fun l : Nat => D.int l)) = true
  | [] => rfl
  | a :: A => by
    show (PyData.canLay0 (.int (a : Int)) && PyData.canLayAll0 (toPs (A.map fun l : Nat => D.int l))) = true
    rw [layN A]; simp [PyData.canLay0]
theorem depN : ∀ (A : List Nat), PyData.depthAll (toPs (A.map fun l : Nat => D.int l)) = 0
  | [] => rfl
  | a :: A => by
    show max 0 (PyData.depthAll (toPs (A.map fun l : Nat => D.int l))) = 0
    rw [depN A]; rfl
theorem shpN {k : Kd} {A : List Nat} : SeqAt.shaped (toP (.seq k (A.map fun l : Nat => D.int l))) = true := by
  unfold SeqAt.shaped
  show (PyData.canLayAll0 (toPs (A.map fun l : Nat => D.int l)) && decide (PyData.depthAll (toPs (A.map fun l : Nat => D.int l)) + 1 ≤ 64)) = true
  rw [layN, depN]; rfl
theorem eqvN : ∀ (A B : List Nat), PyData.eqvAll (toPs (A.map fun l : Nat => D.int l)) (toPs (B.map fun l : Nat => D.int l)) = (A == B)
  | [], [] => rfl
  | [], _ :: _ => rfl
  | _ :: _, [] => rfl
  | a :: A, b :: B => by
    show (((a : Int) == (b : Int)) && PyData.eqvAll (toPs (A.map fun l : Nat => D.int l)) (toPs (B.map fun l : Nat => D.int l))) = _
    rw [eqvN A B]
    have : ((a : Int) == (b : Int)) = (a == b) := by rw [Bool.eq_iff_iff, beq_iff_eq, beq_iff_eq]; omega
    rw [this]; rfl
theorem o_neN {k k2 : Kd} {A B : List Nat} {p : D → Prop} : opNe (.seq k (A.map fun l : Nat => D.int l)) (.seq k2 (B.map fun l : Nat => D.int l)) p = p (.bl (!(A == B))) := by
  unfold opNe
  rw [shpN, shpN]
  have : PyData.eqv (toP (.seq k (A.map fun l : Nat => D.int l))) (toP (.seq k2 (B.map fun l : Nat => D.int l))) = (A == B) := eqvN A B
  rw [this]; simp
theorem o_eqN {k k2 : Kd} {A B : List Nat} {p : D → Prop} : opEq (.seq k (A.map fun l : Nat => D.int l)) (.seq k2 (B.map fun l : Nat => D.int l)) p = p (.bl (A == B)) := by
  unfold opEq
  rw [shpN, shpN]
  have : PyData.eqv (toP (.seq k (A.map fun l : Nat => D.int l))) (toP (.seq k2 (B.map fun l : Nat => D.int l))) = (A == B) := eqvN A B
  rw [this]; simp
end VL

namespace VL
open PySem PySem.Spec PyProof.Rows L2
/-! ### shared by the laws of letterings -/
theorem strs_srt {L : List Nat} {ss : List (List Nat)} (hp : ss.Perm (L.map fun i => [97 + i])) (hs : chainLe ss) : ss = (srt L).map fun i => [97 + i] := by
  obtain ⟨l', h1, rfl⟩ := perm_map_inj hp
  have h2 : chainLe ((l'.map (97 + ·)).map fun c => [c]) := by rw [List.map_map]; exact hs
  have h3 := chain_sg h2
  rw [List.pairwise_map] at h3
  rw [srt_uni h1 (h3.imp fun h => by omega)]
theorem txt_srt {p l : List Nat} (hp : l.Perm (tx p)) (hs : l.Pairwise (· ≤ ·)) : l = tx (srt p) := by
  obtain ⟨l', h1, rfl⟩ := perm_map_inj (f := (97 + ·)) hp
  rw [List.pairwise_map] at hs
  rw [srt_uni h1 (hs.imp fun h => by omega)]; rfl
theorem chain_pw : ∀ {ss : List (List Nat)}, chainLe ss → ss.Pairwise (· ≤ ·)
  | [], _ => .nil
  | [a], _ => by simp
  | a :: b :: r, h => by
    obtain ⟨h1, h2⟩ := (h : ltCps b a = false ∧ chainLe (b :: r))
    have hp := chain_pw h2
    have hab : a ≤ b := by
      rw [ltCps_eq] at h1
      exact (by simpa using h1 : ¬ b < a)
    refine List.pairwise_cons.mpr ⟨fun x hx => ?_, hp⟩
    rcases List.mem_cons.mp hx with rfl | hx
    · exact hab
    · exact List.le_trans hab ((List.pairwise_cons.mp hp).1 x hx)
theorem chain_uni {A B : List (List Nat)} (hp : A.Perm B) (h1 : chainLe A) (h2 : chainLe B) : A = B :=
  List.Perm.eq_of_pairwise (le := (· ≤ ·)) (fun a b _ _ h h' => List.le_antisymm h h') (chain_pw h1) (chain_pw h2) hp
theorem srt_range {n : Nat} {p : List Nat} (h : Lt n p) : srt p = List.range n := (srt_uni h.perm.symm (List.pairwise_lt_range.imp fun h => Nat.le_of_lt h)).symm
def flatD (d : D) : Prop := (∃ a, d = .str a ∧ okS a) ∨ (∃ i, d = .int i) ∨ ∃ b, d = .bl b
def tupD (P : D → Prop) (d : D) : Prop := flatD d ∨ ∃ xs, d = .tup xs ∧ xs.length ≤ 1000 ∧ ∀ x ∈ xs, P x ∧ x.brw = false ∧ x.keep = x
def samS (P : D → Prop) : Spec := fun ds q => ∃ d, ds = [d, d] ∧ P d ∧ q (.bl true) ds
def S_none : Spec := fun _ _ => False
def flat1 : D → Prop := tupD flatD
def flat2 : D → Prop := tupD flat1
theorem flat_brw {d : D} (h : flatD d) : d.brw = false ∧ d.keep = d := by
  rcases h with ⟨a, rfl, _⟩ | ⟨i, rfl⟩ | ⟨b, rfl⟩ <;> exact ⟨rfl, rfl⟩
theorem tx_idx_nd {p : List Nat} (hn : p.Nodup) {x : Nat} (hx : x ∈ p) : (tx p).idxOf (97 + x) = p.idxOf x := by
  have h1 := List.idxOf_lt_length_of_mem hx
  have h2 := List.idxOf_lt_length_of_mem (l := tx p) (tx_mem.mpr hx)
  have nd : (tx p).Nodup := by
    unfold tx
    rw [List.nodup_iff_pairwise_ne, List.pairwise_map]
    exact (List.nodup_iff_pairwise_ne.mp hn).imp fun h e => h (by omega)
  have e1 : (tx p)[p.idxOf x]? = (tx p)[(tx p).idxOf (97 + x)]? := by
    rw [List.getElem?_eq_getElem h2, List.getElem_idxOf h2, tx_get, List.getElem?_eq_getElem h1, List.getElem_idxOf h1]; rfl
  exact ((List.getElem?_inj (by simpa using h1) nd).mp e1).symm
theorem sgs_eq (L : List Nat) : sgs L = (L.map fun i => [97 + i]).map D.str := by rw [List.map_map]; rfl
theorem ne_nil {M : List Nat} {p : D → Prop} (hm : ∀ i ∈ M, i < 10) : opNe (.seq .own (sgs M)) (.seq .tmp []) p = p (.bl (!M.isEmpty)) := by
  rw [sgs_eq, show ([] : List D) = ([] : List (List Nat)).map D.str from rfl, o_neL (fun a ha => by
    obtain ⟨i, hi, rfl⟩ := List.mem_map.mp ha
    exact okS_1 (hm i hi)) (fun a ha => by cases ha)]
  cases M <;> rfl
theorem nx_set {L : List Nat} {i k v : Nat} (hi : i < L.length) : nx (L.set i v) k = if k = i then v else nx L k := by
  unfold nx
  rw [List.getElem?_set]
  by_cases e : i = k
  · subst e; simp [hi]
  · have : ¬ k = i := fun z => e z.symm
    simp [e, this]
theorem ixNatK {n k : Nat} (h : k < n) : ixN n (k : Int) = some k := by
  unfold ixN; rw [if_pos (by omega), if_pos (by omega)]; simp
theorem take_orb {p : List Nat} {i k : Nat} (hk : k < per p i) : (orb p i).take (k + 1) = (orb p i).take k ++ [it p k i] := by
  have : (orb p i)[k]? = some (it p k i) := by
    unfold orb; rw [List.getElem?_map, List.getElem?_range hk]; rfl
  rw [List.take_add_one, this]; rfl
end VL

namespace VL
open PySem PySem.Spec PyProof.Rows L2
/-! ### sorted rows of texts -/
/-! ### contracts -/
def S__law_same0 : Spec := samS flatD
def S__law_same1 : Spec := samS flat1
def S__law_same : Spec := samS flat2
def SgsX (L : List Nat) (X : D) : Prop := X = .str (tx L) ∨ X = .seq .own (sgs L)
def S__law_shuffled : Spec := fun ds q => ∃ (a b c : Int) (L : List Nat) (X : D), ds = [wlD a b c, X] ∧ SgsX L X ∧ WlOk a b ∧ L.length ≤ 10 ∧ (∀ i ∈ L, i < 10) ∧ ∀ L' a' b' c', L'.Perm L → WlOk a' b' → q (.seq .tmp (sgs L')) [wlD a' b' c', X]
def S__law_times : Spec := fun ds q => ∃ (n : Nat) (t p : List Nat), ds = [.str (tx t), .str (tx p)] ∧ n ≤ 10 ∧ Lt n t ∧ Lt n p ∧ q (.str (tx (prodL t p))) ds
def S__law_back : Spec := S_inverse_of
def S__law_letteringB : Spec := fun ds q => ∃ (a b c : Int) (n : Nat), ds = [wlD a b c, .int n] ∧ WlOk a b ∧ Nn n ∧ ∀ p a' b' c', Lt n p → WlOk a' b' → q (.str (tx p)) [wlD a' b' c', .int n]
def S__law_pairing : Spec := S__law_letteringB
def S__law_turned : Spec := S_turned_by
def S__law_led : Spec := fun ds q => ∃ (n : Nat) (t p : List Nat), ds = [.str (tx t), .str (tx p)] ∧ n ≤ 10 ∧ Lt n p ∧ t.length ≤ 10 ∧ (∀ i ∈ t, i < n) ∧ q (.str (tx (srt (t.map (nx p))))) ds
def S__law_two_right : Spec := fun ds q => ∃ (a b c : Int) (n : Nat) (p s : List Nat), ds = [wlD a b c, .str (tx p), .str (tx s)] ∧ WlOk a b ∧ Nn n ∧ Lt n p ∧ Lt n s ∧ ∀ a' b' c', WlOk a' b' → q (.bl true) [wlD a' b' c', .str (tx p), .str (tx s)]
def S__law_round : Spec := fun ds q => ∃ (a b c : Int), ds = [wlD a b c] ∧ WlOk a b ∧ ∀ a' b' c', WlOk a' b' → q (.bl true) [wlD a' b' c']
-- _law_same [(0, 'told'), (1, 'due'), (2, 'at')]
def wb__law_same (S : Spec) : WS := (wSeq (wIf (wVal (wIsi .tuple (wVar 1)))
 (wSeq (wIf (wOr (wNot (wVal (wIsi .tuple (wVar 0)))) (wVal (wBin opNe (wCallN (f1 opLen) (wAV 0 wN)) (wCallN (f1 opLen) (wAV 1 wN)))))
 (wRet (wC (.bl false)))
 wNext)
 (wRet (wCallN (f1 opAll) (wAE (wLc (wR1 (wAE (wCallN (f1 opLen) (wAV 1 wN)) wN)) (gN 2) [2] (fun ρ q => q true ρ) (wCall S (wAE (wBin opIx (wVar 0) (wVar 2)) (wAE (wBin opIx (wVar 1) (wVar 2)) wN)))) wN))))
 wNext)
 (wSeq (wIf (wOr (wVal (wBin (opIsN false) (wVar 1) (wC .non))) (wOr (wVal (wBin (opIs false) (wVar 1) (wC (.bl true)))) (wVal (wBin (opIs false) (wVar 1) (wC (.bl false))))))
 (wRet (wOrV (wAndV (wBin (opIsN false) (wVar 1) (wC .non)) (wBin (opIsN false) (wVar 0) (wC .non))) (wOrV (wAndV (wBin (opIs false) (wVar 1) (wC (.bl true))) (wBin (opIs false) (wVar 0) (wC (.bl true)))) (wAndV (wBin (opIs false) (wVar 1) (wC (.bl false))) (wBin (opIs false) (wVar 0) (wC (.bl false)))))))
 wNext)
 (wSeq (wIf (wVal (wIsi .int (wVar 1)))
 (wRet (wAndV (wIsi .int (wVar 0)) (wAndV (wNotV (wIsi .bool (wVar 0))) (wBin opEq (wVar 0) (wVar 1)))))
 wNext)
 (wRet (wAndV (wIsi .str (wVar 0)) (wBin opEq (wVar 0) (wVar 1)))))))
-- _law_shuffled [(0, 'well'), (1, 'some'), (2, 'left'), (3, 'made')]
def wb__law_shuffled : WS := (wSeq (wPar 2 3 (wAE (wCallN (f1 opList) (wAV 1 wN)) (wAE (wLst wN) wN)))
 (wSeq (wWhile (wVal (wBin opNe (wVar 2) (wLst wN)))
 (wExpr (wMut "list" 3 opAppend (wAE (wMut "list" 2 opPop (wAE (wCall S__law_take (wAV 0 (wAE (wCallN (f1 opLen) (wAV 2 wN)) wN))) wN)) wN))))
 (wRetV 3)))
-- _law_times [(0, 'one'), (1, 'two'), (2, 'sign')]
def wb__law_times : WS := (wRet (wMeth "str" opJoin (wC (.str [])) (wAE (wLc (wIV 0) (gN 2) [2] (fun ρ q => q true ρ) (wBin opIx (wVar 1) (wMeth "str" opSIndex (wC (.str SG)) (wAV 2 wN)))) wN)))
-- _law_back [(0, 'one'), (1, 'sign')]
def wb__law_back : WS := (wRet (wMeth "str" opJoin (wC (.str [])) (wAE (wLc (wI (wCallN (f1 opSortedA) (wAV 0 wN))) (gN 1) [1] (fun ρ q => q true ρ) (wBin opIx (wC (.str SG)) (wMeth "str" opSIndex (wVar 0) (wAV 1 wN)))) wN)))
-- _law_pairing [(0, 'well'), (1, 'number'), (2, 'lot'), (3, 'made'), (4, 'at'), (5, 'sign')]
def bd0__law_pairing : WS := (wAsg (wTup (wAE (wBin opIx (wVar 2) (wBin opAdd (wVar 4) (wC (.int 1)))) (wAE (wBin opIx (wVar 2) (wVar 4)) wN))) (gT 2 (gsC (gD 3 (wBin opIx (wVar 2) (wVar 4))) (gsC (gD 3 (wBin opIx (wVar 2) (wBin opAdd (wVar 4) (wC (.int 1))))) gsN))))
def wb__law_pairing : WS := (wSeq (wPar 2 3 (wAE (wCall S__law_shuffled (wAV 0 (wAE (wSlice (wC (.str SG)) wNo (wPt (wVar 1))) wN))) (wAE (wC (.map .tmp [])) wN)))
 (wSeq (wFor (wR3u 2 (wAE (wC (.int 0)) (wAV 1 (wAE (wC (.int 2)) wN)))) (gN 4) bd0__law_pairing)
 (wRet (wMeth "str" opJoin (wC (.str [])) (wAE (wLc (wI (wSlice (wC (.str SG)) wNo (wPt (wVar 1)))) (gN 5) [5] (fun ρ q => q true ρ) (wBin opDIx (wVar 3) (wVar 5))) wN)))))
-- _law_lettering [(0, 'well'), (1, 'number'), (2, 'way'), (3, 'signs'), (4, 'turn'), (5, 'one'), (6, 'two')]
def bd0__law_letteringB : WS := (wSeq (wPar 5 6 (wAE (wCall S__law_take (wAV 0 (wAV 1 wN))) (wAE (wCall S__law_take (wAV 0 (wAV 1 wN))) wN)))
 (wAsg (wTup (wAE (wBin opIx (wVar 3) (wVar 6)) (wAE (wBin opIx (wVar 3) (wVar 5)) wN))) (gT 2 (gsC (gS 3 (wVar 5)) (gsC (gS 3 (wVar 6)) gsN)))))
def wb__law_letteringB : WS := (wSeq (wPar 2 3 (wAE (wCall S__law_take (wAV 0 (wAE (wC (.int 4)) wN))) (wAE (wCallN (f1 opList) (wAE (wSlice (wC (.str SG)) wNo (wPt (wVar 1))) wN)) wN)))
 (wSeq (wIf (wVal (wBin opEq (wVar 2) (wC (.int 0))))
 (wRet (wCall S__law_times (wAE (wCall S__law_pairing (wAV 0 (wAV 1 wN))) (wAE (wCall S__law_pairing (wAV 0 (wAV 1 wN))) wN))))
 wNext)
 (wSeq (wIf (wVal (wBin opEq (wVar 2) (wC (.int 1))))
 (wSeq (wFor (wR1 (wAE (wCall S__law_take (wAV 0 (wAE (wC (.int 4)) wN))) wN)) (gN 4) bd0__law_letteringB)
 (wRet (wMeth "str" opJoin (wC (.str [])) (wAV 3 wN))))
 wNext)
 (wRet (wMeth "str" opJoin (wC (.str [])) (wAE (wCall S__law_shuffled (wAV 0 (wAV 3 wN))) wN))))))
-- _law_turned [(0, 'one'), (1, 'other')]
def wb__law_turned : WS := (wRet (wCall S__law_times (wAE (wCall S__law_times (wAE (wCall S__law_back (wAV 1 wN)) (wAV 0 wN))) (wAV 1 wN))))
-- _law_led [(0, 'signs'), (1, 'other'), (2, 'sign')]
def wb__law_led : WS := (wRet (wMeth "str" opJoin (wC (.str [])) (wAE (wCallN (f1 opSorted) (wAE (wLc (wIV 0) (gN 2) [2] (fun ρ q => q true ρ) (wBin opIx (wVar 1) (wMeth "str" opSIndex (wC (.str SG)) (wAV 2 wN)))) wN)) wN)))
-- _law_two_right [(0, 'well'), (1, 'one'), (2, 'other'), (3, 'due'), (4, 'number'), (5, 'third'), (6, 'many'), (7, 'at'), (8, 'cycle')]
def wb__law_two_right_7 : WS := (wRet (wCall S__law_same (wAE (wTup (wAE (wCall S_turned (wAE (wCall S_product (wAV 1 (wAV 5 wN))) (wAV 2 wN))) (wAE (wCall S_turned (wAE (wCall S_power (wAV 1 (wAV 6 wN))) (wAV 2 wN))) (wAE (wCall S_turned (wAE (wCall S_inverse (wAV 1 wN)) (wAV 2 wN))) wN)))) (wAE (wTup (wAE (wCall S_product (wAV 3 (wAE (wCall S_turned (wAV 5 (wAV 2 wN))) wN))) (wAE (wCall S_power (wAV 3 (wAV 6 wN))) (wAE (wCall S_inverse (wAV 3 wN)) wN)))) wN))))
def wb__law_two_right_6 : WS := (wSeq (wIf (wNot (wVal (wCall S__law_same (wAE (wTup (wAE (wCall S_turned (wAV 3 (wAV 5 wN))) (wAE (wCall S_turned (wAV 3 (wAE (wCall S_inverse (wAV 2 wN)) wN))) (wAE (wCall S_turned (wAV 1 (wAE (wCall S_plain (wAV 4 wN)) wN))) wN)))) (wAE (wTup (wAE (wCall S_turned (wAV 1 (wAE (wCall S_product (wAV 2 (wAV 5 wN))) wN))) (wAV 1 (wAV 1 wN)))) wN)))))
 (wRet (wC (.bl false)))
 wNext)
 wb__law_two_right_7)
def wb__law_two_right_5 : WS := (wSeq (wPar 5 6 (wAE (wCall S__law_letteringB (wAV 0 (wAV 4 wN))) (wAE (wCall S__law_take (wAV 0 (wAE (wC (.int 9)) wN))) wN)))
 wb__law_two_right_6)
def wb__law_two_right_4 : WS := (wSeq (wIf (wVal (wBin opNe (wCallN (f1 opSorted) (wAE (wLc (wI (wCall S_cycles (wAV 1 wN))) (gN 8) [8] (fun ρ q => q true ρ) (wCall S__law_led (wAV 8 (wAV 2 wN)))) wN)) (wCallN (f1 opSorted) (wAE (wLc (wI (wCall S_cycles (wAV 3 wN))) (gN 8) [8] (fun ρ q => q true ρ) (wMeth "str" opJoin (wC (.str [])) (wAE (wCallN (f1 opSortedA) (wAV 8 wN)) wN))) wN))))
 (wRet (wC (.bl false)))
 wNext)
 wb__law_two_right_5)
def wb__law_two_right_3 : WS := (wSeq (wIf (wNot (wVal (wCall S__law_same (wAE (wTup (wAE (wCall S_lengths (wAV 3 wN)) (wAE (wCall S_order (wAV 3 wN)) (wAE (wCall S_is_odd (wAV 3 wN)) (wAE (wCall S_still_signs (wAV 3 wN)) wN))))) (wAE (wTup (wAE (wCall S_lengths (wAV 1 wN)) (wAE (wCall S_order (wAV 1 wN)) (wAE (wCall S_is_odd (wAV 1 wN)) (wAE (wCall S__law_led (wAE (wCall S_still_signs (wAV 1 wN)) (wAV 2 wN))) wN))))) wN)))))
 (wRet (wC (.bl false)))
 wNext)
 wb__law_two_right_4)
def wb__law_two_right_2 : WS := (wSeq (wIf (wNot (wVal (wCallN (f1 opAll) (wAE (wLc (wR1 (wAV 4 wN)) (gN 7) [7] (fun ρ q => q true ρ) (wBin opEq (wBin opIx (wVar 3) (wMeth "str" opSIndex (wC (.str SG)) (wAE (wBin opIx (wVar 2) (wVar 7)) wN))) (wBin opIx (wVar 2) (wMeth "str" opSIndex (wC (.str SG)) (wAE (wBin opIx (wVar 1) (wVar 7)) wN))))) wN))))
 (wRet (wC (.bl false)))
 wNext)
 wb__law_two_right_3)
def wb__law_two_right_1 : WS := (wSeq (wIf (wNot (wVal (wCall S__law_same (wAE (wTup (wAE (wCall S_turned (wAV 1 (wAV 2 wN))) (wAE (wCallK S_turned [1, 0] (wAV 2 (wAV 1 wN))) (wAE (wCall S_product (wAE (wCall S_product (wAE (wCall S_inverse (wAV 2 wN)) (wAV 1 wN))) (wAV 2 wN))) wN)))) (wAE (wTup (wAV 3 (wAV 3 (wAV 3 wN)))) wN)))))
 (wRet (wC (.bl false)))
 wNext)
 wb__law_two_right_2)
def wb__law_two_right : WS := (wSeq (wPar 3 4 (wAE (wCall S__law_turned (wAV 1 (wAV 2 wN))) (wAE (wCallN (f1 opLen) (wAV 1 wN)) wN)))
 wb__law_two_right_1)
-- _law_round [(0, 'well'), (1, 'turn'), (2, 'number')]
def bd0__law_round : WS := (wSeq (wSet 2 (wCall S__law_pick (wAV 0 (wAE (wLst (wAE (wC (.int 4)) (wAE (wC (.int 6)) (wAE (wC (.int 8)) (wAE (wC (.int 10)) wN))))) wN))))
 (wIf (wNot (wVal (wCall S__law_two_right (wAV 0 (wAE (wCall S__law_letteringB (wAV 0 (wAV 2 wN))) (wAE (wCall S__law_letteringB (wAV 0 (wAV 2 wN))) wN))))))
 (wRet (wC (.bl false)))
 wNext))
def wb__law_round : WS := (wSeq (wFor (wR1 (wAE (wC (.int 16)) wN)) (gN 1) bd0__law_round)
 (wRet (wC (.bl true))))
-- law [(0, 'script'), (1, 'turn')]
def wb_law : WS := (wRet (wCallN (f1 opAll) (wAE (wLc (wR1 (wAE (wCallN (f2 opMax2) (wAE (wC (.int 2)) (wAE (wCallN (f2 opMin2) (wAE (wCallN (f1 opLen) (wAV 0 wN)) (wAE (wC (.int 3)) wN))) wN))) wN)) (gN 1) [1] (fun ρ q => q true ρ) (wCall S__law_round (wAE (wCall S__law_well (wAV 0 (wAV 1 wN))) wN))) wN)))
/-! ### comparing -/
theorem vc_same_flat {S : Spec} : Vc (wb__law_same S) 3 S__law_same0 := by
  rintro ds q ⟨d, rfl, hd, h⟩
  rcases hd with ⟨a, rfl, ha⟩ | ⟨i, rfl⟩ | ⟨b, rfl⟩
  · simp [wb__law_same, isT, opIsN, isNonD, ha]; exact h
  · simp [wb__law_same, isT, opIsN, isNonD]; exact h
  · cases b <;> (simp [wb__law_same, isT, opIsN, isNonD]; exact h)
theorem vc_same_tup {P : D → Prop} : Vc (wb__law_same (samS P)) 3 (samS (tupD P)) := by
  rintro ds q ⟨d, rfl, hd, h⟩
  rcases hd with hd | ⟨xs, rfl, hl, hx⟩
  · exact vc_same_flat _ q ⟨d, rfl, hd, h⟩
  · simp [wb__law_same, isT, x_lc, and_assoc]
    refine ⟨by omega, ?_⟩
    refine lc_map (List.range xs.length) (fun i : Nat => .int i) (fun _ => .bl true) (rangeD_nat _) (by simp [nbs]) rfl trivial (small_le (by simp; omega)) (by simp [wpE, unwE]) (fun i x hx' acc ha W hW => ?_) ?_
    · have hi : x < xs.length := by simpa using List.mem_of_getElem? hx'
      have e : atI xs (x : Int) = some xs[x] := at_nat (List.getElem?_eq_getElem hi)
      obtain ⟨h1, h2, h3⟩ := hx xs[x] (List.getElem_mem hi)
      simp [wpE, e, samS, h1, h2, h3, and_assoc] at hW ⊢
      exact ⟨ha, hW⟩
    · simpa using h
theorem vc__law_same0 : Vc (wb__law_same S_none) 3 S__law_same0 := vc_same_flat
theorem vc__law_same1 : Vc (wb__law_same S__law_same0) 3 S__law_same1 := vc_same_tup
theorem vc__law_same : Vc (wb__law_same S__law_same1) 3 S__law_same := vc_same_tup
/-! ### drawn letterings -/
theorem vc__law_times : Vc wb__law_times 3 S__law_times := by
  rintro ds q ⟨n, t, p, rfl, hn, ht, hp, h⟩
  have hl := ht.len
  have hl2 := hp.len
  simp [wb__law_times, x_lc]
  refine lc_map t (fun i => .str [97 + i]) (fun i => .str [97 + nx p i]) (by simp [tx]) (by simp [nbs]) rfl trivial (small_le (by omega)) (by simp [wpE, unwE]) (fun i x hx acc ha W hW => ?_) ?_
  · have hx' := ht.lt x (List.mem_of_getElem? hx)
    have e : atI (tx p) (x : Int) = some (97 + nx p x) := at_nat (by rw [tx_get, nx_get hp hx']; rfl)
    have hx10 : x < 10 := by omega
    simp [wpE, sg_mem hx10, sg_idx hx10, e] at hW ⊢
    exact ⟨small_le (by omega), ha, hW⟩
  · simp [flat_one]
    refine ⟨by omega, ?_⟩
    have : tx (prodL t p) = t.map fun i => 97 + nx p i := by rw [prodL, tx_map]
    rw [← this]; exact h
theorem vc__law_back : Vc wb__law_back 2 S__law_back := by
  rintro ds q ⟨n, p, rfl, hn, hp, h⟩
  have hl := hp.len
  simp [wb__law_back, hl, x_lc, and_assoc]
  refine ⟨small_le (by omega), fun l' h1 h2 => ?_⟩
  have e := txt_srt h1 h2
  rw [srt_range hp] at e
  subst e
  refine lc_map (List.range n) (fun i => .str [97 + i]) (fun i => .str [97 + p.idxOf i]) (by simp [tx]) (by simp [nbs]) rfl trivial (small_le (by simp; omega)) (by simp [wpE, unwE]) (fun i x hx acc ha W hW => ?_) ?_
  · have hx' : x < n := by simpa using List.mem_of_getElem? hx
    have hi := idx_lt hp hx'
    have ei : atI SG (p.idxOf x : Int) = some (97 + p.idxOf x) := at_nat (sg_get (by omega))
    simp [wpE, hp.mem hx', tx_idx_nd hp.nodup (hp.mem hx'), ei] at hW ⊢
    exact ⟨by decide, ha, hW⟩
  · simp [flat_one]
    refine ⟨by omega, ?_⟩
    have : tx (invL p) = (List.range n).map fun i => 97 + p.idxOf i := by rw [invL, hl, tx_map]
    rw [← this]; exact h
theorem vc__law_turned : Vc wb__law_turned 2 S__law_turned := by
  rintro ds q ⟨n, p, s, rfl, hn, hp, hs, h⟩
  have h1 := lt_inv hs
  have h2 := lt_prod h1 hp
  simp [wb__law_turned, S__law_back, S_inverse_of, S__law_times, and_assoc]
  exact ⟨n, hn, hs, n, hn, h1, hp, n, hn, h2, hs, h⟩
theorem vc__law_led : Vc wb__law_led 3 S__law_led := by
  rintro ds q ⟨n, t, p, rfl, hn, hp, ht, hm, h⟩
  have hl2 := hp.len
  simp [wb__law_led, x_lc]
  refine lc_map t (fun i => .str [97 + i]) (fun i => .str [97 + nx p i]) (by simp [tx]) (by simp [nbs]) rfl trivial (small_le (by omega)) (by simp [wpE, unwE]) (fun i x hx acc ha W hW => ?_) ?_
  · have hx' := hm x (List.mem_of_getElem? hx)
    have e : atI (tx p) (x : Int) = some (97 + nx p x) := at_nat (by rw [tx_get, nx_get hp hx']; rfl)
    have hx10 : x < 10 := by omega
    simp [wpE, sg_mem hx10, sg_idx hx10, e] at hW ⊢
    exact ⟨small_le (by omega), ha, hW⟩
  · simp
    refine .inr ⟨t.map fun i => [97 + nx p i], strs_mapf _, fun ss h1 h2 => ?_⟩
    have e : (t.map fun i => [97 + nx p i]) = (t.map (nx p)).map fun i => [97 + i] := by rw [List.map_map]; rfl
    rw [e] at h1
    rw [strs_srt h1 h2]
    have e2 : ((srt (t.map (nx p))).map fun i => [97 + i]).map D.str = sgs (srt (t.map (nx p))) := by rw [List.map_map]; rfl
    have hlen : (srt (t.map (nx p))).length ≤ 10 := by rw [(srt_perm _).length_eq]; simpa using ht
    rw [e2]
    simp [sgs_strs, flat_sgs]
    exact ⟨by omega, h⟩
theorem len_erL {M : List Nat} {r : Nat} (h : r < M.length) : (M.eraseIdx r).length + 1 = M.length := by rw [List.length_eraseIdx_of_lt h]; omega
theorem shuf_go {X : D} {E : VEnd} {L : List Nat} {a b c : Int} (hl : L.length ≤ 10) (hm : ∀ i ∈ L, i < 10) (hw : WlOk a b) (hE : ∀ L' a b c, L'.Perm L → WlOk a b → E.nx [some (wlD a b c), some X, some (.seq .own []), some (.seq .own (sgs L'))]) :
    wWhile (wVal (wBin opNe (wVar 2) (wLst wN))) (wExpr (wMut "list" 3 opAppend (wAE (wMut "list" 2 opPop (wAE (wCall S__law_take (wAV 0 (wAE (wCallN (f1 opLen) (wAV 2 wN)) wN))) wN)) wN))) E
      [some (wlD a b c), some X, some (.seq .own (sgs L)), some (.seq .own [])] := by
  refine ⟨fun m ρ => ∃ a b c M O, ρ = [some (wlD a b c), some X, some (.seq .own (sgs M)), some (.seq .own (sgs O))] ∧ WlOk a b ∧ (O ++ M).Perm L ∧ m = M.length, ⟨_, a, b, c, L, [], rfl, hw, by simp, rfl⟩, ?_⟩
  rintro m ρ ⟨a, b, c, M, O, rfl, hw, hp, rfl⟩
  have hM : ∀ i ∈ M, i < 10 := fun i hi => hm i (hp.subset (by simp [hi]))
  have hlen := hp.length_eq
  rw [List.length_append] at hlen
  simp [ne_nil hM]
  by_cases e : M = []
  · subst e
    rw [List.append_nil] at hp
    simp
    exact hE _ _ _ _ hp hw
  · have hpos : 1 ≤ M.length := List.length_pos_iff.mpr e
    simp [e, S__law_take, and_assoc]
    refine ⟨hw, hpos, by omega, fun r a' b' hr hw' => ?_⟩
    have er := len_erL hr
    refine ⟨by omega, .str [97 + M[r]], by rw [sgs_get, List.getElem?_eq_getElem hr]; rfl, rfl, small_lt (by omega), (M.eraseIdx r).length, by omega, M.eraseIdx r, sgs_erase M r, O ++ [M[r]], by simp [sgs], hw', ?_, rfl⟩
    rw [List.append_assoc]
    exact ((erase_perm (List.getElem?_eq_getElem hr)).append_left O).trans hp
theorem vc__law_shuffled : Vc wb__law_shuffled 4 S__law_shuffled := by
  rintro ds q ⟨a, b, c, L, X, rfl, hX, hw, hl, hm, h⟩
  rcases hX with rfl | rfl
  · simp [wb__law_shuffled, sgs_tx, and_assoc]
    refine ⟨small_le (by omega), shuf_go hl hm hw fun L' a b c hp hw' => ?_⟩
    simp
    exact h _ _ _ _ hp hw'
  · simp [wb__law_shuffled, sgs_tx, and_assoc]
    refine shuf_go hl hm hw fun L' a b c hp hw' => ?_
    simp
    exact h _ _ _ _ hp hw'
/-- the mate of a place -/
def mate (k : Nat) : Nat := if k % 2 = 0 then k + 1 else k - 1
theorem mate_lt {n k : Nat} (hn : n % 2 = 0) (h : k < n) : mate k < n := by unfold mate; split <;> omega
theorem mate_inj {j k : Nat} (h : mate j = mate k) : j = k := by unfold mate at h; split at h <;> split at h <;> omega
def pairL (n : Nat) (L : List Nat) : List Nat := (List.range n).map fun x => nx L (mate (L.idxOf x))
theorem lt_pairL {n : Nat} {L : List Nat} (hn : n % 2 = 0) (h : Lt n L) : Lt n (pairL n L) := by
  have e : ∀ i, i < n → nx (pairL n L) i = nx L (mate (L.idxOf i)) := fun i hi => by
    unfold pairL; rw [nx_map (by simpa using hi), nx_range hi]
  refine lt_of_inj (by simp [pairL]) (fun i hi => ?_) fun i j hi hj he => ?_
  · rw [e i hi]; exact nx_lt h (mate_lt hn (idx_lt h hi))
  · rw [e i hi, e j hj] at he
    have := mate_inj (nx_inj h (mate_lt hn (idx_lt h hi)) (mate_lt hn (idx_lt h hj)) he)
    rw [← nx_idx h hi, this, nx_idx h hj]
theorem up_even {n : Nat} (hn : n % 2 = 0) : upD 0 (n : Int) 2 = (List.range (n / 2)).map fun i : Nat => D.int ((2 * i : Nat) : Int) := by
  unfold upD upN
  have : (if (0 : Int) < n then (((n : Int) - 0).toNat + 2 - 1) / 2 else 0) = n / 2 := by split <;> omega
  rw [this]
  refine List.map_congr_left fun i _ => ?_
  congr 1; omega
theorem Nn.even {n : Nat} (h : Nn n) : n % 2 = 0 := by unfold Nn at h; omega
theorem vc__law_pairing : Vc wb__law_pairing 6 S__law_pairing := by
  rintro ds q ⟨a, b, c, n, rfl, hw, hn, h⟩
  have h10 := hn.le
  have he := hn.even
  simp [wb__law_pairing, cut_to, sg_take h10, S__law_shuffled, and_assoc]
  have hr : ∀ i ∈ List.range n, i < 10 := fun i hi => by
    have : i < n := by simpa using hi
    omega
  refine ⟨by decide, List.range n, .inl rfl, hw, by simpa using h10, hr, fun L a b c hL hw' => ?_⟩
  have hLt : Lt n L := ⟨by simpa using hL.length_eq, hL⟩
  have up := up_even he
  simp [x_for, up]
  refine ⟨by omega, ?_⟩
  obtain ⟨J, hJ⟩ : ∃ J : Nat → VEnv → Prop, ∀ i ρ, J i ρ ↔ ∃ kds x4, ρ = [some (wlD a b c), some (.int n), some (.seq .own (sgs L)), some (.map .own kds), x4, none] ∧ kds.length ≤ 2 * i ∧ ∀ k, k < 2 * i → dget kds (.inr [97 + nx L k]) = some (.str [97 + nx L (mate k)]) := ⟨_, fun _ _ => Iff.rfl⟩
  refine for_inv (List.range (n / 2)) (fun i : Nat => .int ((2 * i : Nat) : Int)) J (by simp) ((hJ _ _).mpr ⟨[], none, rfl, by simp, fun k hk => by omega⟩) (fun _ _ _ => trivial) ?_ ?_
  · intro ρ h'
    obtain ⟨kds, x4, rfl, h1, h2⟩ := (hJ _ _).mp h'
    clear h' hJ
    simp at h1 h2
    simp [unlE, x_lc, cut_to, sg_take h10]
    refine ⟨by decide, ?_⟩
    rw [sgs_tx]
    refine lc_map (List.range n) (fun i => .str [97 + i]) (fun x => .str [97 + nx L (mate (L.idxOf x))]) rfl (by cases x4 <;> simp [nbs]) rfl trivial (small_le (by simp; omega)) (by simp [wpE, unwE]) (fun i x hx acc ha W hW => ?_) ?_
    · have hx' : x < n := by simpa using List.mem_of_getElem? hx
      have hi := idx_lt hLt hx'
      have h3 := h2 (L.idxOf x) (by omega)
      rw [nx_idx hLt hx'] at h3
      simp [wpE, h3] at hW ⊢
      exact ⟨ha, hW⟩
    · simp [flat_one]
      refine ⟨by omega, ?_⟩
      have : tx (pairL n L) = (List.range n).map fun x => 97 + nx L (mate (L.idxOf x)) := by rw [pairL, tx_map]
      rw [← this]; exact h _ _ _ _ (lt_pairL he hLt) hw'
  · intro i l ρ hx h'
    obtain ⟨kds, x4, rfl, h1, h2⟩ := (hJ _ _).mp h'
    clear h'
    have hi : i < n / 2 := by have := (List.getElem?_eq_some_iff.mp hx).1; simpa using this
    rw [List.getElem?_range hi] at hx
    cases hx
    have e0 : atI (sgs L) ((2 * i : Nat) : Int) = some (.str [97 + nx L (2 * i)]) := at_nat (by rw [sgs_get, nx_get hLt (by omega)]; rfl)
    have e1 : atI (sgs L) (((2 * i : Nat) : Int) + 1) = some (.str [97 + nx L (2 * i + 1)]) := at_nat (i := 2 * i + 1) (by rw [sgs_get, nx_get hLt (by omega)]; rfl)
    have hJ1 := hJ (i + 1)
    generalize hX : ((2 * i : Nat) : Int) = X at *
    simp [bd0__law_pairing, gN, e0, e1, and_assoc]
    have d1 : (dput kds (Sum.inr [97 + nx L (2 * i)]) (D.str [97 + nx L (2 * i + 1)])).length ≤ kds.length + 1 := dput_len
    have d2 : (dput (dput kds (Sum.inr [97 + nx L (2 * i)]) (D.str [97 + nx L (2 * i + 1)])) (Sum.inr [97 + nx L (2 * i + 1)]) (D.str [97 + nx L (2 * i)])).length ≤ (dput kds (Sum.inr [97 + nx L (2 * i)]) (D.str [97 + nx L (2 * i + 1)])).length + 1 := dput_len
    refine ⟨by decide, small_lt (by omega), small_lt (by omega), (hJ1 _).mpr ⟨_, some (.int X), rfl, by omega, fun k hk => ?_⟩⟩
    have kn : ∀ {a b : Nat}, a < n → b < n → a ≠ b → (Sum.inr [97 + nx L a] : DKey) ≠ Sum.inr [97 + nx L b] := fun {a b} ha hb hab e => by
      simp at e
      exact hab (nx_inj hLt ha hb e)
    by_cases e1 : k = 2 * i + 1
    · subst e1
      rw [dget_put_same]
      have : mate (2 * i + 1) = 2 * i := by unfold mate; split <;> omega
      rw [this]
    · rw [dget_put_other (kn (by omega) (by omega) e1)]
      by_cases e2 : k = 2 * i
      · subst e2
        rw [dget_put_same]
        have : mate (2 * i) = 2 * i + 1 := by unfold mate; split <;> omega
        rw [this]
      · rw [dget_put_other (kn (by omega) (by omega) e2)]
        exact h2 k (by omega)
end VL

namespace VL
/-! ### the cycles by their least ones -/
section
variable {n : Nat} {p q s : List Nat}
def isMin (p : List Nat) (x : Nat) : Bool := (orb p x).all fun y => decide (x ≤ y)
theorem isMin_iff (h : Lt n p) {x : Nat} (hx : x < n) : isMin p x = true ↔ ∀ k, x ≤ it p k x := by
  unfold isMin
  rw [List.all_eq_true]
  constructor
  · intro a k
    simpa using a _ ((mem_orb h hx).mpr ⟨k, rfl⟩)
  · intro a y hy
    obtain ⟨k, rfl⟩ := (mem_orb h hx).mp hy
    simpa using a k
def cycM (p : List Nat) (m : Nat) : List (List Nat) := ((List.range m).filter (isMin p)).map (orb p)
theorem orb_has_min (h : Lt n p) {x : Nat} (hx : x < n) : ∃ y, y < n ∧ y ≤ x ∧ x ∈ orb p y ∧ isMin p y = true := by
  obtain ⟨y, hy⟩ : ∃ y, y ∈ orb p x ∧ ∀ z ∈ orb p x, y ≤ z := by
    have key : ∀ l : List Nat, l ≠ [] → ∃ y, y ∈ l ∧ ∀ z ∈ l, y ≤ z := by
      intro l
      induction l with
      | nil => intro h; exact absurd rfl h
      | cons a l ih =>
        intro _
        by_cases e : l = []
        · subst e; exact ⟨a, by simp, by simp⟩
        · obtain ⟨y, h1, h2⟩ := ih e
          by_cases hc : a ≤ y
          · exact ⟨a, by simp, fun z hz => by
              rcases List.mem_cons.mp hz with rfl | hz
              · exact Nat.le_refl _
              · exact Nat.le_trans hc (h2 z hz)⟩
          · exact ⟨y, by simp [h1], fun z hz => by
              rcases List.mem_cons.mp hz with rfl | hz
              · omega
              · exact h2 z hz⟩
    exact key _ (List.ne_nil_of_mem (orb_self h hx))
  have hyn := orb_lt h hx y hy.1
  refine ⟨y, hyn, hy.2 x (orb_self h hx), orb_symm h hx hy.1, ?_⟩
  unfold isMin
  rw [List.all_eq_true]
  intro z hz
  simpa using hy.2 z (orb_trans h hx hy.1 hz)
theorem cycs_min (h : Lt n p) : ∀ m, m ≤ n → (List.range m).foldl (cycF p) [] = cycM p m
  | 0, _ => rfl
  | m + 1, hm => by
    have ih := cycs_min h m (by omega)
    rw [List.range_succ, List.foldl_append]
    show cycF p ((List.range m).foldl (cycF p) []) m = _
    rw [ih]
    unfold cycM
    rw [List.range_succ, List.filter_append, List.map_append]
    unfold cycF
    by_cases hmin : isMin p m = true
    · rw [if_neg, List.filter_cons_of_pos hmin]; rfl
      intro hmem
      obtain ⟨C, hC, hx⟩ := List.mem_flatten.mp hmem
      obtain ⟨i, hi, rfl⟩ := List.mem_map.mp hC
      have hi1 := (List.mem_filter.mp hi).1
      have hi2 : i < m := by simpa using hi1
      have := orb_symm h (by omega) hx
      unfold isMin at hmin
      rw [List.all_eq_true] at hmin
      have := hmin i this
      simp at this
      omega
    · rw [if_pos, List.filter_cons_of_neg hmin]; simp
      obtain ⟨y, hy, hyx, hxy, hym⟩ := orb_has_min h (by omega : m < n)
      have : y ≠ m := fun e => hmin (e ▸ hym)
      exact List.mem_flatten.mpr ⟨_, List.mem_map.mpr ⟨y, List.mem_filter.mpr ⟨by simp; omega, hym⟩, rfl⟩, hxy⟩
theorem cycs_eq (h : Lt n p) : cycs p = cycM p n := by unfold cycs; rw [h.len]; exact cycs_min h n (Nat.le_refl _)
theorem cycs_count (h : Lt n p) : (cycs p).length = ((List.range n).filter (isMin p)).length := by rw [cycs_eq h]; simp [cycM]
/-! ### inversions -/
def smaller (x : Nat) (l : List Nat) : Nat := (l.filter fun y => decide (y < x)).length
def invN : List Nat → Nat
  | [] => 0
  | x :: l => smaller x l + invN l
theorem smaller_app (x : Nat) (a b : List Nat) : smaller x (a ++ b) = smaller x a + smaller x b := by simp [smaller]
theorem smaller_perm {x : Nat} {a b : List Nat} (h : a.Perm b) : smaller x a = smaller x b := by unfold smaller; exact (h.filter _).length_eq
theorem inv_adj (A B : List Nat) {x y : Nat} (h : x ≠ y) : invN (A ++ x :: y :: B) % 2 ≠ invN (A ++ y :: x :: B) % 2 := by
  induction A with
  | nil =>
    show (smaller x (y :: B) + (smaller y B + invN B)) % 2 ≠ (smaller y (x :: B) + (smaller x B + invN B)) % 2
    have e1 : smaller x (y :: B) = (if y < x then 1 else 0) + smaller x B := by unfold smaller; rw [List.filter_cons]; split <;> simp_all <;> omega
    have e2 : smaller y (x :: B) = (if x < y then 1 else 0) + smaller y B := by unfold smaller; rw [List.filter_cons]; split <;> simp_all <;> omega
    rw [e1, e2]
    rcases Nat.lt_or_gt_of_ne h with hh | hh
    · rw [if_neg (by omega), if_pos hh]; omega
    · rw [if_pos hh, if_neg (by omega)]; omega
  | cons a A ih =>
    show (smaller a (A ++ x :: y :: B) + invN (A ++ x :: y :: B)) % 2 ≠ (smaller a (A ++ y :: x :: B) + invN (A ++ y :: x :: B)) % 2
    rw [smaller_perm ((List.Perm.swap y x B).append_left A)]
    omega
theorem inv_move (M : List Nat) : ∀ (A B : List Nat) {x : Nat}, x ∉ M → invN (A ++ x :: (M ++ B)) % 2 = (invN (A ++ M ++ x :: B) + M.length) % 2 := by
  induction M with
  | nil => intro A B x _; simp
  | cons y M ih =>
    intro A B x hx
    have hxy : x ≠ y := fun e => hx (by simp [e])
    have h1 := inv_adj A (M ++ B) hxy
    have h2 := ih (A ++ [y]) B (x := x) (fun z => hx (by simp [z]))
    simp only [List.append_assoc, List.singleton_append, List.cons_append, List.nil_append, List.length_cons] at h2 ⊢
    omega
theorem inv_swap' (A M B : List Nat) {x y : Nat} (hx : x ∉ M) (hy : y ∉ M) (hxy : x ≠ y) : invN (A ++ x :: (M ++ y :: B)) % 2 ≠ invN (A ++ y :: (M ++ x :: B)) % 2 := by
  have h1 := inv_move M A (y :: B) hx
  have h2 := inv_move M A (x :: B) hy
  have h3 := inv_adj (A ++ M) B hxy
  rw [h1, h2]
  omega
def invB (p : List Nat) : Bool := invN p % 2 == 1
/-- exchanged entries -/
def swp (p : List Nat) (i j : Nat) : List Nat := (p.set i (nx p j)).set j (nx p i)
theorem split_two {l : List Nat} {i j : Nat} (hij : i < j) (hj : j < l.length) : l = l.take i ++ l[i] :: ((l.drop (i + 1)).take (j - i - 1) ++ l[j] :: l.drop (j + 1)) := by
  apply List.ext_getElem?
  intro k
  by_cases h1 : k < i
  · rw [List.getElem?_append_left (by simp; omega), List.getElem?_take_of_lt h1]
  · rw [List.getElem?_append_right (by simp; omega)]
    have e : (l.take i).length = i := by simp; omega
    rw [e]
    by_cases h2 : k = i
    · subst h2; simp
    · obtain ⟨m, rfl⟩ : ∃ m, k = i + 1 + m := ⟨k - i - 1, by omega⟩
      rw [show i + 1 + m - i = m + 1 by omega, List.getElem?_cons_succ]
      have e2 : ((l.drop (i + 1)).take (j - i - 1)).length = j - i - 1 := by simp; omega
      by_cases h3 : m < j - i - 1
      · rw [List.getElem?_append_left (by omega), List.getElem?_take_of_lt h3, List.getElem?_drop]
      · rw [List.getElem?_append_right (by omega), e2]
        by_cases h4 : m = j - i - 1
        · subst h4; rw [Nat.sub_self, List.getElem?_cons_zero, show i + 1 + (j - i - 1) = j by omega, List.getElem?_eq_getElem hj]
        · obtain ⟨r, rfl⟩ : ∃ r, m = j - i - 1 + 1 + r := ⟨m - (j - i), by omega⟩
          rw [show j - i - 1 + 1 + r - (j - i - 1) = r + 1 by omega, List.getElem?_cons_succ, List.getElem?_drop]
          congr 1; omega
theorem set_two (A M B : List Nat) (a b y z : Nat) : ((A ++ a :: (M ++ b :: B)).set A.length y).set (A.length + 1 + M.length) z = A ++ y :: (M ++ z :: B) := by
  rw [List.set_append_right _ _ (Nat.le_refl _), Nat.sub_self, List.set_cons_zero, List.set_append_right _ _ (by omega), show A.length + 1 + M.length - A.length = M.length + 1 by omega, List.set_cons_succ, List.set_append_right _ _ (Nat.le_refl _), Nat.sub_self, List.set_cons_zero]
theorem swp_lt (h : Lt n p) {i j : Nat} (hij : i < j) (hj : j < n) : invB (swp p i j) = !invB p := by
  have hl := h.len
  have hjl : j < p.length := by omega
  have hil : i < p.length := by omega
  have e1 := split_two hij hjl
  have hs : (swp p i j).length = p.length := by simp [swp]
  have g : ∀ (k : Nat) (hk : k < p.length), p[k] = nx p k := fun k hk => by unfold nx; rw [List.getElem?_eq_getElem hk]; rfl
  have e2 : swp p i j = p.take i ++ p[j] :: ((p.drop (i + 1)).take (j - i - 1) ++ p[i] :: p.drop (j + 1)) := by
    have l1 : (p.take i).length = i := by simp; omega
    have l2 : ((p.drop (i + 1)).take (j - i - 1)).length = j - i - 1 := by simp; omega
    have := set_two (p.take i) ((p.drop (i + 1)).take (j - i - 1)) (p.drop (j + 1)) p[i] p[j] p[j] p[i]
    rw [← e1, l1, l2, show i + 1 + (j - i - 1) = j by omega] at this
    unfold swp
    rw [← g j hjl, ← g i hil]
    exact this
  have nd := h.nodup
  have key : p[i] ∉ (p.drop (i + 1)).take (j - i - 1) ∧ p[j] ∉ (p.drop (i + 1)).take (j - i - 1) ∧ p[i] ≠ p[j] := by
    have nd2 := nd
    rw [e1] at nd2
    generalize (p.drop (i + 1)).take (j - i - 1) = M at nd2 ⊢
    rw [List.nodup_append, List.nodup_cons, List.nodup_append, List.nodup_cons] at nd2
    obtain ⟨_, ⟨h1, h2, h3, h4⟩, _⟩ := nd2
    refine ⟨fun z => h1 (List.mem_append_left _ z), fun z => h4 _ z _ (List.mem_cons_self ..) rfl, fun z => h1 (by rw [z]; exact List.mem_append_right _ (List.mem_cons_self ..))⟩
  have hh := inv_swap' (p.take i) ((p.drop (i + 1)).take (j - i - 1)) (p.drop (j + 1)) key.1 key.2.1 key.2.2
  rw [← e1, ← e2] at hh
  unfold invB
  rcases Nat.mod_two_eq_zero_or_one (invN p) with h5 | h5 <;> rcases Nat.mod_two_eq_zero_or_one (invN (swp p i j)) with h6 | h6
  · exact absurd (h5.trans h6.symm) hh
  · rw [h5, h6]; rfl
  · rw [h5, h6]; rfl
  · exact absurd (h5.trans h6.symm) hh
theorem swp_comm {i j : Nat} (hij : i ≠ j) : swp p i j = swp p j i := by unfold swp; exact List.set_comm _ _ hij
theorem swp_inv (h : Lt n p) {i j : Nat} (hij : i ≠ j) (hi : i < n) (hj : j < n) : invB (swp p i j) = !invB p := by
  rcases Nat.lt_or_gt_of_ne hij with hh | hh
  · exact swp_lt h hh hj
  · rw [swp_comm hij]; exact swp_lt h hh hi
theorem nx_swp (h : Lt n p) {i j k : Nat} (hi : i < n) (hj : j < n) : nx (swp p i j) k = nx p (if k = j then i else if k = i then j else k) := by
  have hl := h.len
  have ns : ∀ {L : List Nat} {i k v : Nat}, i < L.length → nx (L.set i v) k = if k = i then v else nx L k := fun {L i k v} hi => by
    unfold nx
    rw [List.getElem?_set]
    by_cases e : i = k
    · subst e; simp [hi]
    · have : ¬ k = i := fun z => e z.symm
      simp [e, this]
  unfold swp
  rw [ns (by rw [List.length_set]; omega), ns (by omega)]
  by_cases e1 : k = j
  · simp [e1]
  · by_cases e2 : k = i
    · subst e2; simp [e1]
    · simp [e1, e2]
theorem lt_swp (h : Lt n p) {i j : Nat} (hi : i < n) (hj : j < n) : Lt n (swp p i j) := by
  refine lt_of_inj (by simp [swp, h.len]) (fun k hk => ?_) fun k m hk hm he => ?_
  · rw [nx_swp h hi hj]; exact nx_lt h (by split; exact hi; split; exact hj; exact hk)
  · rw [nx_swp h hi hj, nx_swp h hi hj] at he
    have := nx_inj h (by split; exact hi; split; exact hj; exact hk) (by split; exact hi; split; exact hj; exact hm) he
    split at this <;> split at this <;> (try split at this) <;> (try split at this) <;> omega
/-! ### one place set right -/
/-- the greatest place not led to itself -/
theorem top_moved (h : Lt n p) (hne : p ≠ idL n) : ∃ i, i < n ∧ nx p i ≠ i ∧ ∀ j, j < n → nx p j ≠ j → j ≤ i := by
  have h1 : ∃ i, i < n ∧ nx p i ≠ i := by
    apply Classical.byContradiction
    intro hn
    refine hne (lt_ext h lt_id fun i hi => ?_)
    rw [nx_id hi]
    apply Classical.byContradiction
    intro z; exact hn ⟨i, hi, z⟩
  have key : ∀ m, (∃ i, i < m ∧ i < n ∧ nx p i ≠ i) → ∃ i, i < n ∧ nx p i ≠ i ∧ ∀ j, j < m → j < n → nx p j ≠ j → j ≤ i := by
    intro m
    induction m with
    | zero => rintro ⟨i, hi, _⟩; omega
    | succ m ih =>
      rintro ⟨i, hi, hin, hne⟩
      by_cases hm : m < n ∧ nx p m ≠ m
      · exact ⟨m, hm.1, hm.2, fun j hj _ _ => by omega⟩
      · obtain ⟨k, k1, k2, k3⟩ := ih ⟨i, by
          rcases Nat.lt_or_ge i m with h | h
          · exact h
          · exact absurd (by rw [show m = i by omega]; exact ⟨hin, hne⟩) hm, hin, hne⟩
        refine ⟨k, k1, k2, fun j hj hjn hjne => ?_⟩
        rcases Nat.lt_or_ge j m with h | h
        · exact k3 j h hjn hjne
        · exact absurd (by rw [show m = j by omega]; exact ⟨hjn, hjne⟩) hm
  obtain ⟨i, hi, hne⟩ := h1
  obtain ⟨k, k1, k2, k3⟩ := key n ⟨i, hi, hi, hne⟩
  exact ⟨k, k1, k2, fun j hj => k3 j hj hj⟩
theorem it_moved (h : Lt n p) {x : Nat} (hx : x < n) (hm : nx p x ≠ x) : ∀ k, nx p (it p k x) ≠ it p k x
  | 0 => hm
  | k + 1 => fun e => it_moved h hx hm k (nx_inj h (nx_lt h (it_lt h hx k)) (it_lt h hx k) e)
theorem it_fix {x : Nat} (e : nx p x = x) : ∀ k, it p k x = x
  | 0 => rfl
  | k + 1 => by show nx p (it p k x) = x; rw [it_fix e k, e]
/-- exchanging at the greatest moved place and the one led to it -/
theorem fix_count (h : Lt n p) {i : Nat} (hi : i < n) (hm : nx p i ≠ i) (htop : ∀ j, j < n → nx p j ≠ j → j ≤ i) :
    ((List.range n).filter (isMin (swp p i (p.idxOf i)))).length = ((List.range n).filter (isMin p)).length + 1 := by
  have hj := idx_lt h hi
  have ej := nx_idx h hi
  generalize hjd : p.idxOf i = j at *
  have hij : i ≠ j := fun e => hm (by rw [e]; exact ej.trans e)
  have hq := lt_swp h hi hj
  have qi : nx (swp p i j) i = i := by rw [nx_swp h hi hj, if_neg hij, if_pos rfl, ej]
  have qj : nx (swp p i j) j = nx p i := by rw [nx_swp h hi hj, if_pos rfl]
  have qo : ∀ k, k ≠ i → k ≠ j → nx (swp p i j) k = nx p k := fun k h1 h2 => by rw [nx_swp h hi hj, if_neg h2, if_neg h1]
  generalize swp p i j = q at *
  have pj : ∀ k, k < n → nx p k = i → k = j := fun k hk e => nx_inj h hk hj (e.trans ej.symm)
  -- the least ones are the same but for i
  have m1 : isMin q i = true := (isMin_iff hq hi).mpr fun k => by rw [it_fix qi k]; exact Nat.le_refl _
  have m0 : isMin p i = false := by
    rw [Bool.eq_false_iff]
    intro z
    have h1 := (isMin_iff h hi).mp z 1
    have h2 : nx p i ≤ i := htop _ (nx_lt h hi) (it_moved h hi hm 1)
    have h3 : i ≤ nx p i := h1
    exact hm (Nat.le_antisymm h2 h3)
  have step : ∀ x, x < n → x ≠ i → ∀ m, ∃ k, if it p m x = i then it q k x = nx p i else it q k x = it p m x := by
    intro x hx hxi m
    induction m with
    | zero => exact ⟨0, by rw [if_neg (show ¬ it p 0 x = i from hxi)]; rfl⟩
    | succ m ih =>
      obtain ⟨k, hk⟩ := ih
      have hy := it_lt h hx m
      by_cases e : it p m x = i
      · rw [if_pos e] at hk
        refine ⟨k, ?_⟩
        have e2 : it p (m + 1) x = nx p i := by show nx p (it p m x) = _; rw [e]
        rw [e2, if_neg hm, hk]
      · rw [if_neg e] at hk
        refine ⟨k + 1, ?_⟩
        have e3 : it q (k + 1) x = nx q (it p m x) := by show nx q (it q k x) = _; rw [hk]
        have e4 : it p (m + 1) x = nx p (it p m x) := rfl
        by_cases e5 : it p m x = j
        · rw [e3, e4, e5, ej, if_pos rfl, qj]
        · have : nx p (it p m x) ≠ i := fun z => e5 (pj _ hy z)
          rw [e3, e4, if_neg this, qo _ e e5]
  have back : ∀ x, x < n → x ≠ i → ∀ k, it q k x ≠ i ∧ ∃ m, it p m x = it q k x := by
    intro x hx hxi k
    induction k with
    | zero => exact ⟨hxi, 0, rfl⟩
    | succ k ih =>
      obtain ⟨h1, m, h2⟩ := ih
      have e3 : it q (k + 1) x = nx q (it q k x) := rfl
      by_cases e5 : it q k x = j
      · rw [e3, e5, qj]
        exact ⟨hm, m + 2, by show nx p (nx p (it p m x)) = _; rw [h2, e5, ej]⟩
      · rw [e3, qo _ h1 e5]
        exact ⟨fun z => e5 (pj _ (by rw [← h2]; exact it_lt h hx m) z), m + 1, by show nx p (it p m x) = _; rw [h2]⟩
  have same : ∀ x, x < n → x ≠ i → isMin q x = isMin p x := by
    intro x hx hxi
    rw [Bool.eq_iff_iff, isMin_iff hq hx, isMin_iff h hx]
    constructor
    · intro a m
      obtain ⟨k, hk⟩ := step x hx hxi m
      by_cases e : it p m x = i
      · rw [e]
        by_cases hf : nx p x = x
        · rw [it_fix hf m] at e; exact absurd e hxi
        · exact htop x hx hf
      · rw [if_neg e] at hk
        rw [← hk]; exact a k
    · intro a k
      obtain ⟨_, m, hm'⟩ := back x hx hxi k
      rw [← hm']; exact a m
  have cnt : ∀ m, m ≤ n → ((List.range m).filter (isMin q)).length = ((List.range m).filter (isMin p)).length + (if i < m then 1 else 0) := by
    intro m
    induction m with
    | zero => intro _; simp
    | succ m ih =>
      intro hm'
      have ih := ih (by omega)
      rw [List.range_succ, List.filter_append, List.filter_append, List.length_append, List.length_append, ih]
      by_cases e : m = i
      · subst e
        rw [List.filter_cons_of_pos m1, List.filter_cons_of_neg (by simp [m0]), if_neg (Nat.lt_irrefl _), if_pos (by omega)]
        simp
      · have hs := same m (by omega) e
        have : ([m].filter (isMin q)) = ([m].filter (isMin p)) := by
          cases z : isMin p m with
          | true => rw [List.filter_cons_of_pos (hs.trans z), List.filter_cons_of_pos z]; rfl
          | false => rw [List.filter_cons_of_neg (by rw [hs, z]; simp), List.filter_cons_of_neg (by simp [z])]; rfl
        rw [this]
        by_cases e2 : i < m
        · rw [if_pos e2, if_pos (by omega)]; omega
        · rw [if_neg e2, if_neg (by omega)]; omega
  have := cnt n (Nat.le_refl _)
  rwa [if_pos hi] at this
theorem moved_less (h : Lt n p) {i : Nat} (hi : i < n) (hm : nx p i ≠ i) : ((List.range n).filter fun x => nx (swp p i (p.idxOf i)) x != x).length < ((List.range n).filter fun x => nx p x != x).length := by
  have hj := idx_lt h hi
  have ej := nx_idx h hi
  generalize hjd : p.idxOf i = j at *
  have hij : i ≠ j := fun e => hm (by rw [e]; exact ej.trans e)
  have qi : nx (swp p i j) i = i := by rw [nx_swp h hi hj, if_neg hij, if_pos rfl, ej]
  have qo : ∀ k, k ≠ i → k ≠ j → nx (swp p i j) k = nx p k := fun k h1 h2 => by rw [nx_swp h hi hj, if_neg h2, if_neg h1]
  have pjj : nx p j ≠ j := fun e => hij (ej.symm.trans e)
  have hsub : ∀ x ∈ (List.range n).filter (fun x => nx (swp p i j) x != x), x ∈ ((List.range n).filter fun x => nx p x != x).erase i := by
    intro x hx
    obtain ⟨h1, h2⟩ := List.mem_filter.mp hx
    have hxi : x ≠ i := fun e => by subst e; simp [qi] at h2
    rw [List.mem_erase_of_ne hxi]
    refine List.mem_filter.mpr ⟨h1, ?_⟩
    by_cases e : x = j
    · subst e; simpa using pjj
    · rw [qo x hxi e] at h2; exact h2
  have hle := List.Nodup.length_le_of_subset (List.nodup_range.filter _) hsub
  have hmem : i ∈ (List.range n).filter fun x => nx p x != x := List.mem_filter.mpr ⟨by simpa using hi, by simpa using hm⟩
  rw [List.length_erase_of_mem hmem] at hle
  have := List.length_pos_of_mem hmem
  omega
theorem invN_id (m : Nat) : invN (List.range m) = 0 := by
  have key : ∀ (l : List Nat), l.Pairwise (· < ·) → invN l = 0 := by
    intro l
    induction l with
    | nil => intro _; rfl
    | cons a l ih =>
      intro h
      obtain ⟨h1, h2⟩ := List.pairwise_cons.mp h
      show smaller a l + invN l = 0
      rw [ih h2]
      have : l.filter (fun y => decide (y < a)) = [] := List.filter_eq_nil_iff.mpr fun y hy => by have := h1 y hy; simp; omega
      unfold smaller; rw [this]; rfl
  exact key _ List.pairwise_lt_range
theorem min_count_le (m : Nat) : ((List.range n).filter (isMin p)).length ≤ n := Nat.le_trans (List.length_filter_le _ _) (by simp)
/-- both ways to tell whether it is odd -/
theorem odd_inv : ∀ (m : Nat) {p : List Nat}, Lt n p → ((List.range n).filter fun x => nx p x != x).length ≤ m → oddB p = invB p := by
  intro m
  induction m with
  | zero =>
    intro p h hm
    have : p = idL n := by
      apply Classical.byContradiction
      intro hne
      obtain ⟨i, hi, hne, _⟩ := top_moved h hne
      have hmem : i ∈ (List.range n).filter fun x => nx p x != x := List.mem_filter.mpr ⟨by simpa using hi, by simpa using hne⟩
      have := List.length_pos_of_mem hmem
      omega
    subst this
    have e1 : invB (idL n) = false := by unfold invB idL; rw [invN_id]; rfl
    rw [e1]
    unfold oddB
    rw [cycs_count h, h.len]
    have : (List.range n).filter (isMin (idL n)) = List.range n := List.filter_eq_self.mpr fun x hx => by
      have hx : x < n := by simpa using hx
      rw [isMin_iff h hx]
      intro k; rw [it_fix (nx_id hx) k]; exact Nat.le_refl _
    rw [this]; simp
  | succ m ih =>
    intro p h hm
    by_cases hne : p = idL n
    · exact ih h (by
        subst hne
        have : (List.range n).filter (fun x => nx (idL n) x != x) = [] := List.filter_eq_nil_iff.mpr fun x hx => by
          have hx : x < n := by simpa using hx
          simp [nx_id hx]
        rw [this]; simp)
    · obtain ⟨i, hi, hne, htop⟩ := top_moved h hne
      have hj := idx_lt h hi
      have ej := nx_idx h hi
      have hij : i ≠ p.idxOf i := fun e => hne (by conv => lhs; rw [e]
                                                   exact ej)
      have h1 := ih (lt_swp h hi hj) (by have := moved_less h hi hne; omega)
      have h2 := fix_count h hi hne htop
      have h3 := swp_inv h hij hi hj
      rw [h3] at h1
      have hq := lt_swp h hi hj
      unfold oddB at h1 ⊢
      rw [cycs_count hq, hq.len, h2] at h1
      rw [cycs_count h, h.len]
      have hle : ((List.range n).filter (isMin p)).length + 1 ≤ n := by rw [← h2]; exact min_count_le 0
      generalize ((List.range n).filter (isMin p)).length = c at *
      cases hv : invB p <;> rw [hv] at h1 <;> simp at h1 ⊢ <;> omega
theorem odd_is_inv (h : Lt n p) : oddB p = invB p := odd_inv _ h (Nat.le_refl _)
theorem odd_swp (h : Lt n p) {i j : Nat} (hij : i ≠ j) (hi : i < n) (hj : j < n) : oddB (swp p i j) = !oddB p := by
  rw [odd_is_inv h, odd_is_inv (lt_swp h hi hj), swp_inv h hij hi hj]
/-- a product is odd exactly if one of both is -/
theorem inv_prod (hs : Lt n s) : ∀ (m : Nat) {p : List Nat}, Lt n p → ((List.range n).filter fun x => nx p x != x).length ≤ m → invB (prodL p s) = (invB p != invB s) := by
  intro m
  induction m with
  | zero =>
    intro p h hm
    have : p = idL n := by
      apply Classical.byContradiction
      intro hne
      obtain ⟨i, hi, hne, _⟩ := top_moved h hne
      have hmem : i ∈ (List.range n).filter fun x => nx p x != x := List.mem_filter.mpr ⟨by simpa using hi, by simpa using hne⟩
      have := List.length_pos_of_mem hmem
      omega
    subst this
    have e1 : invB (idL n) = false := by unfold invB idL; rw [invN_id]; rfl
    have e2 : prodL (idL n) s = s := lt_ext (lt_prod h hs) hs fun i hi => by rw [nx_prod h hi, nx_id hi]
    rw [e1, e2]; cases invB s <;> rfl
  | succ m ih =>
    intro p h hm
    by_cases hne : p = idL n
    · exact ih h (by
        subst hne
        have : (List.range n).filter (fun x => nx (idL n) x != x) = [] := List.filter_eq_nil_iff.mpr fun x hx => by
          have hx : x < n := by simpa using hx
          simp [nx_id hx]
        rw [this]; simp)
    · obtain ⟨i, hi, hne, htop⟩ := top_moved h hne
      have hj := idx_lt h hi
      have ej := nx_idx h hi
      have hij : i ≠ p.idxOf i := fun e => hne (by conv => lhs; rw [e]
                                                   exact ej)
      have hq := lt_swp h hi hj
      have h1 := ih hq (by have := moved_less h hi hne; omega)
      have e : prodL (swp p i (p.idxOf i)) s = swp (prodL p s) i (p.idxOf i) := lt_ext (lt_prod hq hs) (lt_swp (lt_prod h hs) hi hj) fun k hk => by
        have hlt : (if k = p.idxOf i then i else if k = i then p.idxOf i else k) < n := by split; exact hi; split; exact hj; exact hk
        rw [nx_prod hq hk, nx_swp h hi hj, nx_swp (lt_prod h hs) hi hj, nx_prod h hlt]
      rw [e, swp_inv (lt_prod h hs) hij hi hj, swp_inv h hij hi hj] at h1
      revert h1
      cases invB p <;> cases invB s <;> cases invB (prodL p s) <;> simp
theorem odd_prod (h : Lt n p) (hs : Lt n s) : oddB (prodL p s) = (oddB p != oddB s) := by
  rw [odd_is_inv h, odd_is_inv hs, odd_is_inv (lt_prod h hs), inv_prod hs _ h (Nat.le_refl _)]
end
end VL

namespace VL
section
variable {n : Nat} {p q s : List Nat}
/-! ### which rows are the cycles -/
theorem sorted_lt_uni {l m : List Nat} (h1 : l.Pairwise (· < ·)) (h2 : m.Pairwise (· < ·)) (h : ∀ x, x ∈ l ↔ x ∈ m) : l = m := by
  have n1 : l.Nodup := List.nodup_iff_pairwise_ne.mpr (h1.imp fun h => Nat.ne_of_lt h)
  have n2 : m.Nodup := List.nodup_iff_pairwise_ne.mpr (h2.imp fun h => Nat.ne_of_lt h)
  exact sorted_uni ((List.perm_ext_iff_of_nodup n1 n2).mpr h) (h1.imp fun h => Nat.le_of_lt h) (h2.imp fun h => Nat.le_of_lt h)
theorem cycs_uni (h : Lt n p) {hs : List Nat} (h1 : ∀ i ∈ hs, i < n ∧ isMin p i = true) (h2 : ∀ x, x < n → ∃ i ∈ hs, x ∈ orb p i) (h3 : hs.Pairwise (· < ·)) : hs.map (orb p) = cycs p := by
  rw [cycs_eq h]
  unfold cycM
  congr 1
  refine sorted_lt_uni h3 (List.pairwise_lt_range.filter _) fun x => ⟨fun hx => ?_, fun hx => ?_⟩
  · obtain ⟨a, b⟩ := h1 x hx
    exact List.mem_filter.mpr ⟨by simpa using a, b⟩
  · obtain ⟨a, b⟩ := List.mem_filter.mp hx
    have a : x < n := by simpa using a
    obtain ⟨i, hi, hxi⟩ := h2 x a
    obtain ⟨c, d⟩ := h1 i hi
    obtain ⟨k, rfl⟩ := (mem_orb h c).mp hxi
    have e1 := (isMin_iff h c).mp d k
    obtain ⟨m, hm⟩ := (mem_orb h a).mp (orb_symm h c hxi)
    have e2 := (isMin_iff h a).mp b m
    rw [hm] at e2
    rw [Nat.le_antisymm e2 e1]; exact hi
/-! ### turned rows -/
theorem per_it (h : Lt n p) {i : Nat} (hi : i < n) (k : Nat) : per p (it p k i) = per p i := by
  have := (orb_perm h hi ((mem_orb h hi).mpr ⟨k, rfl⟩)).length_eq
  rwa [orb_len, orb_len] at this
theorem orb_get (k i : Nat) (hk : k < per p i) : (orb p i)[k]? = some (it p k i) := by
  unfold orb; rw [List.getElem?_map, List.getElem?_range hk]; rfl
theorem orb_rot (h : Lt n p) {i : Nat} (hi : i < n) {k : Nat} (hk : k < per p i) : (orb p i).drop k ++ (orb p i).take k = orb p (it p k i) := by
  apply List.ext_getElem?
  intro m
  have hl : (orb p i).length = per p i := orb_len
  have hp := per_it h hi k
  by_cases hm : m < per p i
  · rw [orb_get m _ (by rw [hp]; exact hm), ← it_add]
    by_cases h1 : m < per p i - k
    · rw [List.getElem?_append_left (by rw [List.length_drop, hl]; exact h1), List.getElem?_drop, orb_get _ _ (by omega)]
    · rw [List.getElem?_append_right (by rw [List.length_drop, hl]; omega), List.length_drop, hl, List.getElem?_take_of_lt (by omega), orb_get _ _ (by omega)]
      congr 1
      rw [it_mod h hi (k + m)]
      congr 1
      have : k + m = (m - (per p i - k)) + per p i := by omega
      rw [this, Nat.add_mod_right, Nat.mod_eq_of_lt (by omega)]
  · rw [List.getElem?_eq_none (by rw [List.length_append, List.length_drop, List.length_take, hl]; omega), List.getElem?_eq_none (by rw [orb_len, hp]; omega)]
/-- a row from its least one on -/
def minL : List Nat → Nat
  | [] => 0
  | [a] => a
  | a :: b :: l => min a (minL (b :: l))
theorem minL_ok : ∀ {l : List Nat}, l ≠ [] → minL l ∈ l ∧ ∀ x ∈ l, minL l ≤ x
  | [], h => absurd rfl h
  | [a], _ => ⟨by simp [minL], by simp [minL]⟩
  | a :: b :: l, _ => by
    obtain ⟨h1, h2⟩ := minL_ok (l := b :: l) (by simp)
    show min a (minL (b :: l)) ∈ _ ∧ ∀ x ∈ _, min a (minL (b :: l)) ≤ x
    refine ⟨?_, fun x hx => ?_⟩
    · by_cases e : a ≤ minL (b :: l)
      · rw [Nat.min_eq_left e]; simp
      · rw [Nat.min_eq_right (by omega)]; exact List.mem_cons_of_mem _ h1
    · rcases List.mem_cons.mp hx with rfl | hx
      · exact Nat.min_le_left _ _
      · exact Nat.le_trans (Nat.min_le_right _ _) (h2 x hx)
def anew (l : List Nat) : List Nat := l.drop (l.idxOf (minL l)) ++ l.take (l.idxOf (minL l))
theorem anew_orb (h : Lt n p) {i : Nat} (hi : i < n) : ∃ j, j < n ∧ isMin p j = true ∧ j ∈ orb p i ∧ j = minL (orb p i) ∧ anew (orb p i) = orb p j := by
  have hne : orb p i ≠ [] := List.ne_nil_of_mem (orb_self h hi)
  obtain ⟨h1, h2⟩ := minL_ok hne
  have h3 := List.idxOf_lt_length_of_mem h1
  have h4 := List.getElem_idxOf h3
  rw [orb_len] at h3
  have h5 := orb_get (p := p) _ i h3
  rw [List.getElem?_eq_getElem (by rw [orb_len]; exact h3), h4] at h5
  have e : minL (orb p i) = it p ((orb p i).idxOf (minL (orb p i))) i := Option.some.inj h5
  have hj := orb_lt h hi _ h1
  refine ⟨_, hj, (isMin_iff h hj).mpr fun k => ?_, h1, rfl, ?_⟩
  · exact h2 _ (orb_trans h hi h1 ((mem_orb h hj).mpr ⟨k, rfl⟩))
  · unfold anew
    rw [orb_rot h hi h3, ← e]
theorem anew_perm (l : List Nat) : (anew l).Perm l := by
  unfold anew
  exact List.perm_append_comm.trans (by rw [List.take_append_drop])
theorem anew_head {l : List Nat} (h : l ≠ []) : ∃ r, anew l = minL l :: r := by
  have h1 := (minL_ok h).1
  have h3 := List.idxOf_lt_length_of_mem h1
  unfold anew
  rw [List.drop_eq_getElem_cons h3, List.getElem_idxOf h3]
  exact ⟨_, rfl⟩
theorem orb_head (h : Lt n p) {i : Nat} (hi : i < n) : ∃ r, orb p i = i :: r := by
  have h1 := (per_ok h hi).1
  obtain ⟨m, hm⟩ : ∃ m, per p i = m + 1 := ⟨per p i - 1, by omega⟩
  unfold orb
  rw [hm, List.range_succ_eq_map, List.map_cons]
  exact ⟨_, rfl⟩
/-! ### the order -/
theorem nx_pow (h : Lt n p) {x : Nat} (hx : x < n) : ∀ k, nx (powL p k) x = it p k x
  | 0 => by unfold powL; rw [h.len]; exact nx_id hx
  | k + 1 => by
    show nx (prodL (powL p k) p) x = nx p (it p k x)
    rw [nx_prod (lt_pow h k) hx, nx_pow h hx k]
theorem it_id_iff (h : Lt n p) {x : Nat} (hx : x < n) (k : Nat) : it p k x = x ↔ per p x ∣ k := by
  obtain ⟨a, b, c, d⟩ := per_ok h hx
  rw [it_mod h hx]
  constructor
  · intro e
    apply Nat.dvd_of_mod_eq_zero
    apply Classical.byContradiction
    intro hn
    exact d _ (by omega) (Nat.mod_lt _ a) e
  · intro e
    rw [Nat.mod_eq_zero_of_dvd e]; rfl
theorem mem_lens (h : Lt n p) {l : Nat} : l ∈ lensL p ↔ ∃ x, x < n ∧ l = per p x := by
  unfold lensL
  rw [(srt_perm _).mem_iff, List.mem_map]
  have c := cycs_ok h
  constructor
  · rintro ⟨C, hC, rfl⟩
    obtain ⟨i, hi, rfl⟩ := c.orb C hC
    exact ⟨i, hi, orb_len⟩
  · rintro ⟨x, hx, rfl⟩
    obtain ⟨C, hC, hxC⟩ := List.mem_flatten.mp (c.all x hx)
    obtain ⟨i, hi, rfl⟩ := c.orb C hC
    obtain ⟨k, rfl⟩ := (mem_orb h hi).mp hxC
    exact ⟨_, hC, by rw [orb_len, per_it h hi]⟩
theorem ord_dvd : ∀ (ls : List Nat) (f k : Nat), ls.foldl ordF f ∣ k ↔ f ∣ k ∧ ∀ l ∈ ls, l ∣ k
  | [], f, k => by simp
  | l :: ls, f, k => by
    show ls.foldl ordF (ordF f l) ∣ k ↔ _
    rw [ord_dvd ls, ordF_lcm, Nat.lcm_dvd_iff]
    simp [and_assoc]
theorem pow_id (h : Lt n p) (k : Nat) : powL p k = idL n ↔ ordL (lensL p) ∣ k := by
  unfold ordL
  rw [ord_dvd]
  constructor
  · intro e
    refine ⟨Nat.one_dvd k, fun l hl => ?_⟩
    obtain ⟨x, hx, rfl⟩ := (mem_lens h).mp hl
    rw [← it_id_iff h hx, ← nx_pow h hx, e, nx_id hx]
  · rintro ⟨_, e⟩
    refine lt_ext (lt_pow h k) lt_id fun x hx => ?_
    rw [nx_pow h hx, nx_id hx, it_id_iff h hx]
    exact e _ ((mem_lens h).mpr ⟨x, hx, rfl⟩)
/-! ### the inverse -/
theorem it_inv (h : Lt n p) {x : Nat} (hx : x < n) : ∀ k, it p k (it (invL p) k x) = x
  | 0 => rfl
  | k + 1 => by
    have h' := lt_inv h
    have := it_add p 1 (it (invL p) (k + 1) x) k
    rw [Nat.add_comm] at this
    rw [this]
    show it p k (nx p (nx (invL p) (it (invL p) k x))) = x
    rw [nx_invr h (it_lt h' hx k), it_inv h hx k]
theorem it_inv_id (h : Lt n p) {x : Nat} (hx : x < n) (k : Nat) : it (invL p) k x = x ↔ it p k x = x := by
  constructor
  · intro e
    have := it_inv h hx k
    rwa [e] at this
  · intro e
    exact it_inj h (it_lt (lt_inv h) hx k) hx k ((it_inv h hx k).trans e.symm)
theorem per_inv (h : Lt n p) {x : Nat} (hx : x < n) : per (invL p) x = per p x := by
  unfold per
  rw [(lt_inv h).len, h.len]
  congr 2
  funext k
  rw [Bool.eq_iff_iff, beq_iff_eq, beq_iff_eq]
  exact it_inv_id h hx k
theorem isMin_inv (h : Lt n p) {x : Nat} (hx : x < n) : isMin (invL p) x = isMin p x := by
  have h' := lt_inv h
  rw [Bool.eq_iff_iff, isMin_iff h' hx, isMin_iff h hx]
  have key : ∀ {q : List Nat}, Lt n q → (∀ k, x ≤ it q k x) → ∀ y, y < n → (∃ k, it q k y = x) → x ≤ y := by
    intro q hq a y hy ⟨k, e⟩
    have hm := (mem_orb hq hy).mpr ⟨k, e⟩
    obtain ⟨m, hm⟩ := (mem_orb hq hx).mp (orb_symm hq hy hm)
    rw [← hm]; exact a m
  constructor
  · intro a k
    refine key h' a _ (it_lt h hx k) ⟨k, ?_⟩
    have := it_inv h' hx k
    have e : invL (invL p) = p := lt_ext (lt_inv h') h fun i hi => nx_inj h' (nx_lt (lt_inv h') hi) (nx_lt h hi) (by rw [nx_invr h' hi, inv_nx h hi])
    rwa [e] at this
  · intro a k
    exact key h a _ (it_lt h' hx k) ⟨k, it_inv h hx k⟩
theorem lens_inv (h : Lt n p) : lensL (invL p) = lensL p := by
  unfold lensL
  rw [cycs_eq h, cycs_eq (lt_inv h)]
  unfold cycM
  rw [List.map_map, List.map_map]
  have e : (List.range n).filter (isMin (invL p)) = (List.range n).filter (isMin p) := List.filter_congr fun x hx => isMin_inv h (by simpa using hx)
  rw [e]
  congr 1
  refine List.map_congr_left fun x hx => ?_
  have hx : x < n := by simpa using (List.mem_filter.mp hx).1
  show (orb (invL p) x).length = (orb p x).length
  rw [orb_len, orb_len, per_inv h hx]
end
end VL

namespace VL
section
variable {n : Nat} {ns : List Nat}
/-! ### the places of a text written under an order, column by column -/
def plL (n : Nat) (ns : List Nat) : List Nat := (List.range ns.length).flatMap fun r => (List.range n).filter fun a => a % ns.length == ns.idxOf r
theorem pl_mem (h : Lt ns.length ns) (h0 : 0 < ns.length) {a : Nat} : a ∈ plL n ns ↔ a < n := by
  unfold plL
  rw [List.mem_flatMap]
  constructor
  · rintro ⟨r, hr, ha⟩
    have := (List.mem_filter.mp ha).1
    simpa using this
  · intro ha
    have hm : a % ns.length < ns.length := Nat.mod_lt _ h0
    refine ⟨nx ns (a % ns.length), by simpa using nx_lt h hm, List.mem_filter.mpr ⟨by simpa using ha, ?_⟩⟩
    rw [idx_nx h hm]; simp
theorem pl_nodup (h : Lt ns.length ns) : (plL n ns).Nodup := by
  unfold plL
  rw [List.nodup_iff_pairwise_ne, List.pairwise_flatMap]
  refine ⟨fun r hr => List.nodup_iff_pairwise_ne.mp (List.nodup_range.filter _), ?_⟩
  refine (List.nodup_iff_pairwise_ne.mp List.nodup_range).imp_of_mem fun {r r'} hr hr' hne x hx y hy e => hne ?_
  subst e
  have e1 : x % ns.length = ns.idxOf r := by simpa using (List.mem_filter.mp hx).2
  have e2 : x % ns.length = ns.idxOf r' := by simpa using (List.mem_filter.mp hy).2
  have e3 := nx_idx h (i := r) (by simpa using hr)
  have e4 := nx_idx h (i := r') (by simpa using hr')
  rw [← e3, ← e4, ← e1, ← e2]
theorem lt_pl (h : Lt ns.length ns) (h0 : 0 < ns.length) : Lt n (plL n ns) := by
  have p : (plL n ns).Perm (List.range n) := (List.perm_ext_iff_of_nodup (pl_nodup h) List.nodup_range).mpr fun a => by rw [pl_mem h h0]; simp
  exact ⟨by rw [p.length_eq]; simp, p⟩
theorem up_nat {i n c k : Nat} (hc : 0 < c) : k < upN (i : Int) (n : Int) c ↔ i + k * c < n := by
  unfold upN
  by_cases h : i < n
  · rw [if_pos (by omega), Nat.lt_iff_add_one_le, Nat.le_div_iff_mul_le hc, show ((n : Int) - (i : Int)).toNat = n - i from by omega, Nat.add_mul, Nat.one_mul]
    omega
  · rw [if_neg (by omega)]
    have := Nat.zero_le (k * c)
    omega
theorem up_pl {i n c : Nat} (hi : i < c) : upD (i : Int) (n : Int) c = ((List.range n).filter fun a => a % c == i).map fun a : Nat => D.int a := by
  have hc : 0 < c := by omega
  have e : ((List.range (upN (i : Int) (n : Int) c)).map fun k => i + k * c) = (List.range n).filter fun a => a % c == i := by
    refine sorted_lt_uni ?_ (List.pairwise_lt_range.filter _) fun x => ?_
    · rw [List.pairwise_map]
      exact List.pairwise_lt_range.imp fun {a b} h => Nat.add_lt_add_left (Nat.mul_lt_mul_of_pos_right h hc) i
    · rw [List.mem_map, List.mem_filter]
      constructor
      · rintro ⟨k, hk, rfl⟩
        have hk := (up_nat hc).mp (by simpa using hk)
        refine ⟨by simpa using hk, ?_⟩
        rw [Nat.add_mul_mod_self_right, Nat.mod_eq_of_lt hi]; simp
      · rintro ⟨hx, hm⟩
        have hx : x < n := by simpa using hx
        have hm : x % c = i := by simpa using hm
        have hd := Nat.mod_add_div x c
        have e : i + x / c * c = x := by rw [Nat.mul_comm, ← hm]; exact hd
        exact ⟨x / c, by have := (up_nat (i := i) (n := n) (k := x / c) hc).mpr (by omega); simpa using this, e⟩
  rw [← e, List.map_map]
  unfold upD
  refine List.map_congr_left fun k _ => ?_
  simp
theorem up_le {i n c : Nat} (hc : 0 < c) : upN (i : Int) (n : Int) c ≤ n := by
  rcases Nat.lt_or_ge n (upN (i : Int) (n : Int) c) with h | h
  · have := (up_nat (k := n) hc).mp h
    have := Nat.le_mul_of_pos_right n hc
    omega
  · exact h
/-! ### how often until it comes back -/
variable {p : List Nat}
def ordC (p : List Nat) : Nat := ordL ((cycs p).map List.length)
theorem ordC_eq : ordC p = ordL (lensL p) := by
  unfold ordC ordL lensL
  have m : ∀ l, l ∈ srt ((cycs p).map List.length) ↔ l ∈ (cycs p).map List.length := fun l => (srt_perm _).mem_iff
  refine Nat.dvd_antisymm ((ord_dvd _ _ _).mpr ⟨Nat.one_dvd _, fun l hl => ((ord_dvd _ 1 _).mp (Nat.dvd_refl _)).2 l ((m l).mpr hl)⟩) ((ord_dvd _ _ _).mpr ⟨Nat.one_dvd _, fun l hl => ((ord_dvd _ 1 _).mp (Nat.dvd_refl _)).2 l ((m l).mp hl)⟩)
end
end VL

namespace VL
open PySem PySem.Spec PyProof.Rows
/-! ### orders of columns, texts columned -/
def Ord (ns : List Nat) : Prop := 1 ≤ ns.length ∧ ns.length ≤ 6 ∧ Lt ns.length ns
def intsD (l : List Nat) : List D := l.map fun i : Nat => .int i
@[simp] theorem intsD_len {l : List Nat} : (intsD l).length = l.length := by simp [intsD]
def S_is_tuple_ofN : Spec := fun ds q => ∃ (xs : List D) (m : Int), ds = [.tupN xs, .int m] ∧ q (.bl ((xs.length : Int) == m)) ds
def S_are_wholes : Spec := fun ds q => ∃ ns : List Nat, ds = [lnsN ns, .int ns.length] ∧ ns.length ≤ 1000 ∧ q (.bl true) ds
def S_is_order : Spec := fun ds q => ∃ ns : List Nat, ds = [lnsN ns] ∧ Ord ns ∧ q (.bl true) ds
def S_columned_places : Spec := fun ds q => ∃ (n : Nat) (ns : List Nat), ds = [.int n, lnsN ns] ∧ n ≤ 200 ∧ Ord ns ∧ q (.seq .tmp (intsD (plL n ns))) ds
def S_put_by : Spec := fun ds q => ∃ (n : Nat) (p t : List Nat), ds = [.str (tx t), .seq .own (intsD p)] ∧ n ≤ 1000 ∧ t.length = n ∧ Lt n p ∧ q (.str (tx (prodL p t))) ds
def S_put_back_by : Spec := fun ds q => ∃ (n : Nat) (p t : List Nat), ds = [.str (tx t), .seq .own (intsD p)] ∧ n ≤ 1000 ∧ t.length = n ∧ Lt n p ∧ q (.str (tx (prodL (invL p) t))) ds
def S_times_back : Spec := fun ds q => ∃ (n : Nat) (p : List Nat), ds = [.seq .own (intsD p)] ∧ n ≤ 1000 ∧ Lt n p ∧ q (.int (ordC p)) ds
def S_is_typed_textC : Spec := fun ds q => ∃ (n : Nat) (t : List Nat), ds = [.int n, .str (tx t)] ∧ n ≤ 10 ∧ t.length ≤ 200 ∧ (∀ i ∈ t, i < n) ∧ q (.bl true) ds
def S_check_textC : Spec := fun ds q => ∃ (n : Nat) (t : List Nat), ds = [.int n, .str (tx t)] ∧ n ≤ 10 ∧ t.length ≤ 200 ∧ (∀ i ∈ t, i < n) ∧ q .non ds
def S_check_order : Spec := fun ds q => ∃ ns : List Nat, ds = [lnsN ns] ∧ Ord ns ∧ q .non ds
def TxOk (t : List Nat) : Prop := t.length ≤ 200 ∧ ∀ i ∈ t, i < 10
def S_columned : Spec := fun ds q => ∃ ns t : List Nat, ds = [.str (tx t), lnsN ns] ∧ TxOk t ∧ Ord ns ∧ q (.str (tx (prodL (plL t.length ns) t))) ds
def S_columned_back : Spec := fun ds q => ∃ ns t : List Nat, ds = [.str (tx t), lnsN ns] ∧ TxOk t ∧ Ord ns ∧ q (.str (tx (prodL (invL (plL t.length ns)) t))) ds
def S_column_order : Spec := fun ds q => ∃ (n : Nat) (ns : List Nat), ds = [.int n, lnsN ns] ∧ 1 ≤ n ∧ n ≤ 200 ∧ Ord ns ∧ q (.int (ordC (plL n ns))) ds
-- is_tuple_of [(0, 'value'), (1, 'many')]
def wb_is_tuple_ofN : WS := (wRet (wAndV (wIsiN .tuple (wVar 0)) (wBin opEq (wCallN (f1 opLenN) (wAV 0 wN)) (wVar 1))))
-- are_wholes [(0, 'value'), (1, 'many'), (2, 'each')]
def wb_are_wholes : WS := (wRet (wAndV (wCall S_is_tuple_ofN (wAV 0 (wAV 1 wN))) (wCallN (f1 opAll) (wAE (wLc (wIV 0) (gN 2) [2] (fun ρ q => q true ρ) (wCall S_is_whole (wAV 2 wN))) wN))))
-- is_order [(0, 'value')]
def wb_is_order : WS := (wSeq (wIf (wOr (wNot (wVal (wIsiN .tuple (wVar 0)))) (wOr (wNot (wVal (wChain opLe opLe (wC (.int 1)) (wCallN (f1 opLenN) (wAV 0 wN)) (wC (.int 6))))) (wNot (wVal (wCall S_are_wholes (wAV 0 (wAE (wCallN (f1 opLenN) (wAV 0 wN)) wN)))))))
 (wRet (wC (.bl false)))
 wNext)
 (wRet (wBin opEq (wCallN (f1 opSortedN) (wAV 0 wN)) (wLR1 (wCallN (f1 opLenN) (wAV 0 wN))))))
-- columned_places [(0, 'size'), (1, 'order'), (2, 'found'), (3, 'rank')]
def cp_in : WS := (wExpr (wExt 2 (wLR3 (wAE (wIndexT (wVar 1) (wAV 3 wN)) (wAV 0 (wAE (wCallN (f1 opLenN) (wAV 1 wN)) wN))))))
def wb_columned_places : WS := (wSeq (wSet 2 (wLst wN))
 (wSeq (wFor (wR1 (wAE (wCallN (f1 opLenN) (wAV 1 wN)) wN)) (gN 3)
 cp_in)
 (wRetV 2)))
-- put_by [(0, 'text'), (1, 'places'), (2, 'place')]
def wb_put_by : WS := (wRet (wMeth "str" opJoin (wC (.str [])) (wAE (wLc (wIV 1) (gN 2) [2] (fun ρ q => q true ρ) (wBin opIx (wVar 0) (wVar 2))) wN)))
-- put_back_by [(0, 'text'), (1, 'places'), (2, 'found'), (3, 'place')]
def wb_put_back_by : WS := (wSeq (wSet 2 (wDZ (wAV 1 (wAV 0 wN))))
 (wRet (wMeth "str" opJoin (wC (.str [])) (wAE (wLc (wR1 (wAE (wCallN (f1 opLen) (wAV 0 wN)) wN)) (gN 3) [3] (fun ρ q => q true ρ) (wBin opDIx (wVar 2) (wVar 3))) wN))))
-- is_typed_text [(0, 'number'), (1, 'value')]
def wb_is_typed_textC : WS := (wRet (wAndV (wCall S_is_text_of (wAV 1 (wAE (wCall S_signs_of (wAV 0 wN)) wN))) (wBin opLe (wCallN (f1 opLen) (wAV 1 wN)) (wC (.int 200)))))
-- check_text [(0, 'number'), (1, 'text')]
def wb_check_textC : WS := (wIf (wNot (wVal (wCall S_is_typed_textC (wAV 0 (wAV 1 wN)))))
 (fun _ _ => False)
 wNext)
-- check_order [(0, 'order')]
def wb_check_order : WS := (wIf (wNot (wVal (wCall S_is_order (wAV 0 wN))))
 (fun _ _ => False)
 wNext)
-- columned [(0, 'text'), (1, 'order')]
def wb_columned : WS := (wSeq (wExpr (wCall S_check_textC (wAE (wCallN (f1 opLen) (wAE (wC (.str SG)) wN)) (wAV 0 wN))))
 (wSeq (wExpr (wCall S_check_order (wAV 1 wN)))
 (wRet (wCall S_put_by (wAV 0 (wAE (wCall S_columned_places (wAE (wCallN (f1 opLen) (wAV 0 wN)) (wAV 1 wN))) wN))))))
-- columned_back [(0, 'text'), (1, 'order')]
def wb_columned_back : WS := (wSeq (wExpr (wCall S_check_textC (wAE (wCallN (f1 opLen) (wAE (wC (.str SG)) wN)) (wAV 0 wN))))
 (wSeq (wExpr (wCall S_check_order (wAV 1 wN)))
 (wRet (wCall S_put_back_by (wAV 0 (wAE (wCall S_columned_places (wAE (wCallN (f1 opLen) (wAV 0 wN)) (wAV 1 wN))) wN))))))
-- column_order [(0, 'number'), (1, 'order')]
def wb_column_order : WS := (wSeq (wExpr (wCall S_check_whole (wAV 0 (wAE (wC (.int 1)) (wAE (wC (.int 200)) wN)))))
 (wSeq (wExpr (wCall S_check_order (wAV 1 wN)))
 (wRet (wCall S_times_back (wAE (wCall S_columned_places (wAV 0 (wAV 1 wN))) wN)))))
@[simp] theorem lnsN_brw {ns : List Nat} : (lnsN ns).brw = false := rfl
@[simp] theorem lnsN_keep {ns : List Nat} : (lnsN ns).keep = lnsN ns := rfl
@[simp] theorem lnsN_to {ns : List Nat} {k : Kd} : (lnsN ns).to k = lnsN ns := rfl
@[simp] theorem lnsN_inj {a b : List Nat} : (lnsN a = lnsN b) = (a = b) := propext ⟨fun h => by
  have h2 := D.tupN.inj h
  exact List.map_inj_right (f := fun l : Nat => D.int l) (fun x y e => by simpa using e) |>.mp h2, fun h => by rw [h]⟩
@[simp] theorem o_lenNs {ns : List Nat} {p : D → Prop} : opLenN (lnsN ns) p = p (.int ns.length) := by simp [lnsN]
@[simp] theorem i_lnsN {ns : List Nat} : itemsOf (lnsN ns) = some (intsD ns) := rfl
theorem isN_lns {ns : List Nat} : ∃ ds, lnsN ns = .tupN ds := ⟨_, rfl⟩
theorem dget_at : ∀ {kds : List (DKey × D)} {j : Nat} {k : DKey} {d : D}, (kds.map (·.1)).Nodup → kds[j]? = some (k, d) → dget kds k = some d
  | [], j, k, d, _, e => by simp at e
  | (k', d') :: kds, 0, k, d, _, e => by
    simp at e
    obtain ⟨rfl, rfl⟩ := e
    simp [dget]
  | (k', d') :: kds, j + 1, k, d, hn, e => by
    have hn := List.nodup_cons.mp (by simpa using hn : (k' :: kds.map (·.1)).Nodup)
    have e' : kds[j]? = some (k, d) := by simpa using e
    have ne : k' ≠ k := fun z => hn.1 (by rw [z]; exact List.mem_map.mpr ⟨(k, d), List.mem_of_getElem? e', rfl⟩)
    have := dget_at (kds := kds) hn.2 e'
    unfold dget at this ⊢
    rw [List.find?_cons_of_neg (by simp [ne])]
    exact this
theorem dput_freshC {kds : List (DKey × D)} {k : DKey} {d : D} (h : k ∉ kds.map (·.1)) : dput kds k d = kds ++ [(k, d)] := by
  unfold dput
  have : (kds.any fun p => decide (p.1 = k)) = false := by
    rw [List.any_eq_false]
    intro p hp
    have : p.1 ≠ k := fun e => h (List.mem_map.mpr ⟨p, hp, e⟩)
    simpa using this
  rw [this]; simp
theorem idx_cast : ∀ (ns : List Nat) (l : Nat), (ns.map fun i : Nat => (i : Int)).idxOf (l : Int) = ns.idxOf l
  | [], _ => rfl
  | a :: ns, l => by
    rw [List.map_cons, List.idxOf_cons, List.idxOf_cons, idx_cast ns l]
    have : ((a : Int) == (l : Int)) = (a == l) := by rw [Bool.eq_iff_iff, beq_iff_eq, beq_iff_eq]; omega
    rw [this]
theorem dmerge_ndC : ∀ {more kds : List (DKey × D)}, ((kds ++ more).map (·.1)).Nodup → dmerge kds more = kds ++ more
  | [], kds, _ => by simp [dmerge]
  | (k, d) :: more, kds, h => by
    have e : (kds ++ (k, d) :: more).map (·.1) = kds.map (·.1) ++ k :: more.map (·.1) := by simp
    rw [e, List.nodup_append] at h
    have hk : k ∉ kds.map (·.1) := fun z => h.2.2 k z k (by simp) rfl
    show dmerge (dput kds k d) more = _
    rw [dput_freshC hk, dmerge_ndC (by
      rw [show ((kds ++ [(k, d)]) ++ more).map (·.1) = kds.map (·.1) ++ k :: more.map (·.1) from by simp, List.nodup_append]
      exact h)]
    simp
theorem vc_is_tuple_ofN : Vc wb_is_tuple_ofN 2 S_is_tuple_ofN := by
  rintro ds q ⟨xs, m, rfl, h⟩
  simp [wb_is_tuple_ofN]
  exact h
theorem vc_check_order : Vc wb_check_order 1 S_check_order := by
  rintro ds q ⟨ns, rfl, ho, h⟩
  simp [wb_check_order, S_is_order, ho, h, finA, nodupB]
theorem vc_check_textC : Vc wb_check_textC 2 S_check_textC := by
  rintro ds q ⟨n, t, rfl, hn, hl, ht, h⟩
  simp [wb_check_textC, S_is_typed_textC, and_assoc]
  exact ⟨hn, hl, ht, h⟩
theorem vc_is_typed_textC : Vc wb_is_typed_textC 2 S_is_typed_textC := by
  rintro ds q ⟨n, t, rfl, hn, hl, ht, h⟩
  simp [wb_is_typed_textC, S_is_text_of, S_signs_of, hn, and_assoc]
  refine ⟨by omega, ?_⟩
  rw [if_pos fun x hx => by simpa using List.all_eq_true.mp (all_in ht) x hx]
  have e : decide ((t.length : Int) ≤ 200) = true := by simp; omega
  simp [e]
  exact ⟨small_le (by omega), h⟩
theorem vc_columned : Vc wb_columned 2 S_columned := by
  rintro ds q ⟨ns, t, rfl, ht, ho, h⟩
  simp [wb_columned, S_check_textC, S_check_order, S_columned_places, S_put_by, and_assoc]
  exact ⟨small_le (by omega), 10, rfl, by decide, ht.1, ht.2, ho, small_le (by have := ht.1; omega), ht.1, ho, t.length, plL t.length ns, rfl, by have := ht.1; omega, rfl, lt_pl ho.2.2 ho.1, h⟩
theorem vc_columned_back : Vc wb_columned_back 2 S_columned_back := by
  rintro ds q ⟨ns, t, rfl, ht, ho, h⟩
  simp [wb_columned_back, S_check_textC, S_check_order, S_columned_places, S_put_back_by, and_assoc]
  exact ⟨small_le (by omega), 10, rfl, by decide, ht.1, ht.2, ho, small_le (by have := ht.1; omega), ht.1, ho, t.length, plL t.length ns, rfl, by have := ht.1; omega, rfl, lt_pl ho.2.2 ho.1, h⟩
theorem vc_column_order : Vc wb_column_order 2 S_column_order := by
  rintro ds q ⟨n, ns, rfl, h1, hn, ho, h⟩
  simp [wb_column_order, S_check_whole, S_check_order, S_columned_places, S_times_back, and_assoc]
  exact ⟨by omega, by omega, ho, hn, ho, n, plL n ns, rfl, by omega, lt_pl ho.2.2 ho.1, h⟩
theorem vc_are_wholes : Vc wb_are_wholes 3 S_are_wholes := by
  rintro ds q ⟨ns, rfl, hl, h⟩
  simp [wb_are_wholes, S_is_tuple_ofN, x_lc, and_assoc]
  refine ⟨_, rfl, ?_⟩
  rw [if_pos (by simp)]
  refine lc_map ns (fun i : Nat => .int i) (fun _ => .bl true) rfl (by simp [nbs]) rfl trivial (small_le (by omega)) (by simp [wpE, unwE]) (fun i x hx acc ha W hW => ?_) ?_
  · simp [wpE, S_is_whole, isT, finA, nodupB] at hW ⊢
    exact ⟨ha, hW⟩
  · simp
    exact h
theorem vc_is_order : Vc wb_is_order 1 S_is_order := by
  rintro ds q ⟨ns, rfl, ⟨h1, h2, h3⟩, h⟩
  have h1' : (1 : Int) ≤ ns.length := by omega
  have h2' : (ns.length : Int) ≤ 6 := by omega
  simp [wb_is_order, S_are_wholes, and_assoc, isN_lns]
  rw [if_pos (show TyT.tuple.name = "tuple" from rfl), if_pos h1', if_pos h2']
  refine ⟨by omega, ?_⟩
  refine ⟨ns.map fun i : Nat => (i : Int), ints_mapf _, fun ns' hp hs => ⟨by omega, ?_⟩⟩
  have e := ints_srt hp hs
  have e2 : List.range ns.length = srt ns := srt_uni h3.perm.symm (List.pairwise_lt_range.imp fun h => Nat.le_of_lt h)
  rw [← e2] at e
  rw [e, rangeD_nat, List.map_map]
  show opEq (.seq .tmp ((List.range ns.length).map fun l : Nat => D.int l)) _ _
  rw [o_eqN]
  simp
  exact h
theorem vc_put_by : Vc wb_put_by 3 S_put_by := by
  rintro ds q ⟨n, p, t, rfl, hn, ht, hp, h⟩
  simp [wb_put_by, x_lc, intsD, and_assoc]
  refine lc_map p (fun i : Nat => .int i) (fun i => .str [97 + nx t i]) rfl (by simp [nbs]) rfl rfl (small_le (by rw [hp.len]; omega)) (by simp [wpE, unwE]) (fun i x hx acc ha W hW => ?_) ?_
  · have hx' : x < t.length := by rw [ht]; exact hp.lt x (List.mem_of_getElem? hx)
    have e : L2.atI (tx t) (x : Int) = some (97 + nx t x) := at_nat (by rw [tx_get]; unfold nx; rw [List.getElem?_eq_getElem hx']; rfl)
    simp [wpE, e] at hW ⊢
    exact ⟨small_le (by omega), ha, hW⟩
  · simp [flat_one]
    rw [prodL, tx_map] at h
    exact ⟨by rw [hp.len]; omega, h⟩
theorem vc_put_back_by : Vc wb_put_back_by 4 S_put_back_by := by
  rintro ds q ⟨n, p, t, rfl, hn, ht, hp, h⟩
  have hl := hp.len
  simp [wb_put_back_by, x_lc, and_assoc]
  refine ⟨p.map fun i : Nat => Sum.inl (i : Int), by simp [intsD, dkD, Function.comp_def], by simp [hl, ht], by omega, small_le (by omega), by omega, ?_⟩
  have nd : ((([] : List (DKey × D)) ++ ((p.map fun i : Nat => (Sum.inl (i : Int) : DKey)).zip ((tx t).map fun c => D.str [c]))).map (·.1)).Nodup := by
    rw [List.nil_append, List.map_fst_zip (by simp [hl, ht])]
    exact List.nodup_iff_pairwise_ne.mpr (List.pairwise_map.mpr ((List.nodup_iff_pairwise_ne.mp hp.nodup).imp fun h e => h (by simpa using e)))
  rw [dmerge_ndC nd]
  rw [List.nil_append] at nd ⊢
  refine lc_map (List.range t.length) (fun i : Nat => .int i) (fun i => .str [97 + nx t (p.idxOf i)]) (rangeD_nat _) (by simp [nbs]) rfl trivial (small_le (by simp; omega)) (by simp [wpE, unwE]) (fun i x hx acc ha W hW => ?_) ?_
  · have hx' : x < n := by have := List.mem_of_getElem? hx; simpa [ht] using this
    have hi := idx_lt hp hx'
    have e := dget_at (j := p.idxOf x) (k := Sum.inl (x : Int)) (d := .str [97 + nx t (p.idxOf x)]) nd (by
      rw [List.getElem?_zip_eq_some]
      refine ⟨?_, ?_⟩
      · have := nx_get hp hi
        rw [nx_idx hp hx'] at this
        simp [this]
      · rw [List.getElem?_map, tx_get, nx, List.getElem?_eq_getElem (by omega)]; rfl)
    simp [wpE, keyD, e] at hW ⊢
    exact ⟨ha, hW⟩
  · simp [flat_one]
    rw [prodL, invL, List.map_map, tx_map, hl, ← ht] at h
    exact ⟨by omega, h⟩
theorem vc_columned_places : Vc wb_columned_places 4 S_columned_places := by
  rintro ds q ⟨n, ns, rfl, hn, ⟨h1, h2, h3⟩, h⟩
  simp [wb_columned_places, x_for, and_assoc]
  refine ⟨by omega, ?_⟩
  obtain ⟨J, hJ⟩ : ∃ J : Nat → VEnv → Prop, ∀ j ρ, J j ρ ↔ ∃ x, ρ = [some (.int n), some (lnsN ns), some (.seq .own (intsD ((List.range j).flatMap fun r => (List.range n).filter fun a => a % ns.length == ns.idxOf r))), x] := ⟨_, fun _ _ => Iff.rfl⟩
  refine for_inv (List.range ns.length) (fun i : Nat => .int i) J (rangeD_nat _) ((hJ _ _).mpr ⟨none, by simp [intsD, lockE]⟩) (fun _ _ _ => trivial) ?_ ?_
  · intro ρ h'
    obtain ⟨x, rfl⟩ := (hJ _ _).mp h'
    simp [unlE]
    simp at h'
    exact h
  · intro i l ρ hx h'
    obtain ⟨x, rfl⟩ := (hJ _ _).mp h'
    have hl : l < ns.length := by have := List.mem_of_getElem? hx; simpa using this
    have ei : i = l := by rw [List.getElem?_range (List.getElem?_eq_some_iff.mp hx).1 |> fun _ => (by have := (List.getElem?_eq_some_iff.mp hx).2; simpa using this : i = l)]
    subst ei
    have hb : ((List.range (i + 1)).flatMap fun r => (List.range n).filter fun a => a % ns.length == ns.idxOf r).length ≤ n := by
      have e1 := (lt_pl (n := n) h3 h1).len
      have e2 : plL n ns = ((List.range (i + 1)).flatMap fun r => (List.range n).filter fun a => a % ns.length == ns.idxOf r) ++ (((List.range ns.length).drop (i + 1)).flatMap fun r => (List.range n).filter fun a => a % ns.length == ns.idxOf r) := by
        rw [← List.flatMap_append, ← show (List.range ns.length).take (i + 1) = List.range (i + 1) from by rw [List.take_range]; congr 1; omega, List.take_append_drop]; rfl
      rw [e2, List.length_append] at e1
      omega
    have hs : ((List.range (i + 1)).flatMap fun r => (List.range n).filter fun a => a % ns.length == ns.idxOf r) = ((List.range i).flatMap fun r => (List.range n).filter fun a => a % ns.length == ns.idxOf r) ++ (List.range n).filter fun a => a % ns.length == ns.idxOf i := by
      rw [List.range_succ, List.flatMap_append]; simp
    rw [hs, List.length_append] at hb
    have hJ1 := hJ (i + 1)
    rw [hs] at hJ1
    generalize ((List.range i).flatMap fun r => (List.range n).filter fun a => a % ns.length == ns.idxOf r) = G at *
    simp [cp_in, gN]
    refine ⟨ns.map fun i : Nat => (i : Int), by simp [lnsN, Function.comp_def], by simpa using h3.mem hl, h1, by omega, ?_⟩
    rw [idx_cast]
    have hi := idx_lt h3 hl
    refine ⟨⟨by omega, by omega⟩, Nat.le_trans (up_le h1) (by omega), .tmp, _, ⟨rfl, rfl⟩, by decide, ?_, (hJ1 _).mpr ⟨some (.int i), ?_⟩⟩
    · rw [up_pl hi, List.length_map]; exact small_le (by omega)
    · rw [up_pl hi]; simp [intsD]
end VL

namespace VL
open PySem PySem.Spec PyProof.Rows
/-! ### how often until a row of places comes back: the walk over the cycles -/
def knD (L : List Nat) : List (DKey × D) := L.map fun i : Nat => (.inl (i : Int), .bl true)
theorem kn_get {x : Nat} : ∀ {L : List Nat}, dget (knD L) (.inl (x : Int)) = if x ∈ L then some (.bl true) else none
  | [] => rfl
  | a :: L => by
    have ih := kn_get (x := x) (L := L)
    unfold dget knD at ih ⊢
    rw [List.map_cons]
    by_cases e : a = x
    · subst e; simp
    · rw [List.find?_cons_of_neg (by simp; omega), ih]
      have : (x ∈ a :: L) = (x ∈ L) := by simp [show ¬ x = a from fun z => e z.symm]
      simp only [this]
theorem kn_put {L : List Nat} {x : Nat} (h : x ∉ L) : dput (knD L) (.inl (x : Int)) (.bl true) = knD (L ++ [x]) := by
  rw [dput_freshC]
  · simp [knD]
  · intro z
    simp [knD] at z
    exact h z
section
variable {n m : Nat} {p : List Nat} {Cs : List (List Nat)}
def stepK (p : List Nat) (Cs : List (List Nat)) (m : Nat) : Nat := if m ∈ Cs.flatten then 0 else per p m
def seenK (p : List Nat) (Cs : List (List Nat)) (m k : Nat) : List Nat := Cs.flatten ++ (List.range k).map fun j => it p j m
theorem orb_new (h : Lt n p) (c : CycOk n p m Cs) (hm : m < n) (hn : m ∉ Cs.flatten) (k : Nat) : it p k m ∉ Cs.flatten := by
  intro hx
  obtain ⟨C, hC, hx⟩ := List.mem_flatten.mp hx
  obtain ⟨i, hi, rfl⟩ := c.orb C hC
  exact hn (List.mem_flatten.mpr ⟨_, hC, orb_trans h hi hx (orb_symm h hm ((mem_orb h hm).mpr ⟨k, rfl⟩))⟩)
theorem seen_iff (h : Lt n p) (c : CycOk n p m Cs) (hm : m < n) {k : Nat} (hk : k ≤ stepK p Cs m) : it p k m ∈ seenK p Cs m k ↔ k = stepK p Cs m := by
  unfold stepK seenK at *
  by_cases hi : m ∈ Cs.flatten
  · rw [if_pos hi] at hk ⊢
    have : k = 0 := by omega
    subst this
    simp only [List.mem_append, iff_true]
    exact .inl hi
  · rw [if_neg hi] at hk ⊢
    obtain ⟨p1, p2, p3, p4⟩ := per_ok h hm
    rw [List.mem_append, or_iff_right (orb_new h c hm hi k), List.mem_map]
    constructor
    · rintro ⟨j, hj, e⟩
      have hj : j < k := by simpa using hj
      rcases Nat.lt_or_ge k (per p m) with hlt | hge
      · have nd := orb_nodup h hm
        have := (List.getElem?_inj (i := j) (j := k) (by rw [orb_len]; omega) nd).mp (by rw [orb_get _ _ (by omega), orb_get _ _ hlt, e])
        omega
      · omega
    · intro e
      exact ⟨0, by simp; omega, by rw [e, p3]; rfl⟩
theorem seen_end : seenK p Cs m (stepK p Cs m) = (cycF p Cs m).flatten := by
  unfold seenK stepK cycF
  by_cases hi : m ∈ Cs.flatten
  · rw [if_pos hi, if_pos hi]; simp
  · rw [if_neg hi, if_neg hi]; simp [orb]
def ordCs (Cs : List (List Nat)) : Nat := (Cs.map List.length).foldl ordF 1
theorem ordF_pos {f l : Nat} (h : 0 < f) (h' : 0 < l) : 0 < ordF f l := by rw [ordF_lcm]; exact Nat.lcm_pos h h'
theorem fold_pos : ∀ {ls : List Nat} {f : Nat}, 0 < f → (∀ l ∈ ls, 1 ≤ l) → 0 < ls.foldl ordF f
  | [], f, h, _ => h
  | l :: ls, f, h, hl => fold_pos (ls := ls) (ordF_pos h (hl l (by simp))) fun x hx => hl x (by simp [hx])
theorem ordCs_pos (h : Lt n p) (c : CycOk n p m Cs) : 0 < ordCs Cs := fold_pos (by decide) fun l hl => by
  obtain ⟨C, hC, rfl⟩ := List.mem_map.mp hl
  exact ((cyc_len h c).2.2 C hC).1
theorem ordCs_step (h : Lt n p) (hm : m < n) : ordCs (cycF p Cs m) = if 0 < stepK p Cs m then ordF (ordCs Cs) (stepK p Cs m) else ordCs Cs := by
  unfold stepK cycF
  by_cases hi : m ∈ Cs.flatten
  · rw [if_pos hi, if_pos hi]; rfl
  · rw [if_neg hi, if_neg hi, if_pos (by have := (per_ok h hm).1; omega)]
    simp [ordCs, orb_len]
theorem step_le (h : Lt n p) (hm : m < n) : stepK p Cs m ≤ n := by
  unfold stepK
  split
  · omega
  · exact (per_ok h hm).2.1
theorem seen_len (h : Lt n p) (c : CycOk n p m Cs) {k : Nat} : (seenK p Cs m k).length ≤ n + k := by
  have := (cyc_len h c).1
  simp [seenK] at this ⊢
  omega
theorem seen_succ {k : Nat} : seenK p Cs m (k + 1) = seenK p Cs m k ++ [it p k m] := by simp [seenK, List.range_succ]
end
-- times_back [(0, 'places'), (1, 'known'), (2, 'found'), (3, 'start'), (4, 'length'), (5, 'here')]
def tb_while : WS := (wWhile (wVal (wBin (opDIn true) (wVar 5) (wVar 1)))
 (wSeq (wAsg (wC (.bl true)) (gD 1 (wVar 5)))
 (wPar 4 5 (wAE (wBin opAdd (wVar 4) (wC (.int 1))) (wAE (wBin opIx (wVar 0) (wVar 5)) wN)))))
def tb_in : WS := (wSeq (wPar 4 5 (wAE (wC (.int 0)) (wAV 3 wN)))
 (wSeq tb_while
 (wSet 2 (wIfE (wVal (wBin opGt (wVar 4) (wC (.int 0)))) (wBin opMul (wBin opFDiv (wVar 2) (wCallN (f2 opGcd) (wAV 2 (wAV 4 wN)))) (wVar 4)) (wVar 2)))))
def wb_times_back : WS := (wSeq (wPar 1 2 (wAE (wC (.map .tmp [])) (wAE (wC (.int 1)) wN)))
 (wSeq (wFor (wR1 (wAE (wCallN (f1 opLen) (wAV 0 wN)) wN)) (gN 3)
 tb_in)
 (wRetV 2)))
def tbF (p L : List Nat) (f : Nat) (m k h : Option Nat) : VEnv := [some (.seq .own (intsD p)), some (.map .own (knD L)), some (.int f), m.map fun x => .int x, k.map fun x => .int x, h.map fun x => .int x]
theorem tb_while_ok {E : VEnd} {n m f : Nat} {p : List Nat} {Cs : List (List Nat)} (hn : n ≤ 1000) (hp : Lt n p) (c : CycOk n p m Cs) (hm : m < n)
    (h : ∀ x, E.nx (tbF p (cycF p Cs m).flatten f (some m) (some (stepK p Cs m)) x)) : tb_while E (tbF p Cs.flatten f (some m) (some 0) (some m)) := by
  refine ⟨fun r ρ => ∃ k, ρ = tbF p (seenK p Cs m k) f (some m) (some k) (some (it p k m)) ∧ k ≤ stepK p Cs m ∧ r = stepK p Cs m - k, ⟨_, 0, ?_, Nat.zero_le _, rfl⟩, ?_⟩
  · simp [tbF, seenK, it]
  · rintro r ρ ⟨k, rfl, hk, rfl⟩
    have hi := seen_iff hp c hm hk
    have hlt := it_lt hp hm k
    have hsl := step_le (Cs := Cs) hp hm
    have hlen := seen_len (k := k) hp c
    simp [tbF, keyD, kn_get]
    by_cases e : k = stepK p Cs m
    · rw [if_pos (hi.mpr e)]
      have := h (some (it p k m))
      rw [← seen_end, ← e] at this
      exact this
    · have hni : it p k m ∉ seenK p Cs m k := fun z => e (hi.mp z)
      rw [if_neg hni]
      have hk' : k < stepK p Cs m := by omega
      have ea : L2.atI (intsD p) ((it p k m : Nat) : Int) = some (.int (nx p (it p k m))) := at_nat (by unfold intsD; rw [List.getElem?_map, nx_get hp hlt]; rfl)
      refine ⟨small_le (by simp [knD]; omega), _, ea, rfl, stepK p Cs m - (k + 1), by omega, k + 1, ⟨?_, by omega, rfl⟩, by omega, rfl⟩
      rw [kn_put hni, seen_succ]
theorem vc_times_back : Vc wb_times_back 6 S_times_back := by
  rintro ds q ⟨n, p, rfl, hn, hp, h⟩
  have hl := hp.len
  simp [wb_times_back, x_for, hl, and_assoc]
  refine ⟨by omega, ?_⟩
  obtain ⟨J, hJ⟩ : ∃ J : Nat → VEnv → Prop, ∀ j ρ, J j ρ ↔ ∃ x y z, ρ = tbF p ((List.range j).foldl (cycF p) []).flatten (ordCs ((List.range j).foldl (cycF p) [])) x y z := ⟨_, fun _ _ => Iff.rfl⟩
  refine for_inv (List.range n) (fun i : Nat => .int i) J (rangeD_nat n) ((hJ _ _).mpr ⟨none, none, none, by simp [tbF, knD, ordCs, lockE]⟩) (fun _ _ _ => trivial) ?_ ?_
  · intro ρ h'
    obtain ⟨x, y, z, rfl⟩ := (hJ _ _).mp h'
    simp [unlE, tbF]
    unfold ordC ordL cycs at h
    rw [hl] at h
    exact h
  · intro i l ρ hx h'
    obtain ⟨x, y, z, rfl⟩ := (hJ _ _).mp h'
    have ei : i = l := by have := (List.getElem?_eq_some_iff.mp hx).2; simpa using this
    subst ei
    have hi : i < n := by have := (List.getElem?_eq_some_iff.mp hx).1; simpa using this
    have c := cycs_fold hp i (by omega)
    have hJ1 := hJ (i + 1)
    rw [List.range_succ, List.foldl_append] at hJ1
    generalize (List.range i).foldl (cycF p) [] = Cs at *
    simp [tb_in, gN, tbF]
    refine tb_while_ok hn hp c hi fun x => ?_
    have hs := step_le (Cs := Cs) hp hi
    have hpos := ordCs_pos hp c
    simp [tbF]
    by_cases e : 0 < stepK p Cs i
    · have hg : 0 < Nat.gcd (ordCs Cs) (stepK p Cs i) := Nat.gcd_pos_of_pos_left _ hpos
      have hg2 := Nat.gcd_le_right (ordCs Cs) e
      have c1 : L2.CDivW (ordCs Cs : Int) (Nat.gcd (ordCs Cs) (stepK p Cs i) : Nat) := by
        refine ⟨by omega, ?_⟩
        rw [Int.natAbs_natCast]
        refine Nat.lt_of_le_of_lt (Nat.log2_self_le (n := Nat.gcd (ordCs Cs) (stepK p Cs i)) (by omega) |> fun _ => Nat.log2_le_self _) (by omega)
      have c2 : L2.CMul ((ordCs Cs : Int) / (Nat.gcd (ordCs Cs) (stepK p Cs i) : Nat)) (stepK p Cs i) := .inr ⟨by omega, by omega⟩
      simp [e, c1, c2]
      exact (hJ1 _).mpr ⟨some i, some (stepK p Cs i), x, by simp [tbF, ordCs_step hp hi, e, ordF]⟩
    · simp [e]
      exact (hJ1 _).mpr ⟨some i, some (stepK p Cs i), x, by simp [tbF, ordCs_step hp hi, e]⟩
def S__law_places : Spec := S_columned_places
-- _law_places [(0, 'number'), (1, 'order'), (2, 'made'), (3, 'turn'), (4, 'at')]
def lp_in : WS := (wExpr (wExt 2 (wLc (wR1 (wAV 0 wN)) (gN 4) [4] (wVal (wBin opEq (wBin opMod (wCallN (f1 opInt) (wAV 4 wN)) (wCallN (f1 opLenN) (wAV 1 wN))) (wIndexT (wVar 1) (wAV 3 wN)))) (wVar 4))))
def wb__law_places : WS := (wSeq (wSet 2 (wLst wN))
 (wSeq (wFor (wR1 (wAE (wCallN (f1 opLenN) (wAV 1 wN)) wN)) (gN 3)
 lp_in)
 (wRetV 2)))
theorem filter_int {L : List Nat} {f : Nat → Bool} : L.filterMap (fun i => if f i = true then some (D.int (i : Int)) else none) = intsD (L.filter f) := by
  induction L with
  | nil => rfl
  | cons a L ih =>
    by_cases e : f a = true
    · rw [List.filterMap_cons_some (by simp [e]; rfl), ih, List.filter_cons_of_pos e]; rfl
    · rw [List.filterMap_cons_none (by simp [e]), ih, List.filter_cons_of_neg e]
theorem vc__law_places : Vc wb__law_places 5 S__law_places := by
  rintro ds q ⟨n, ns, rfl, hn, ⟨h1, h2, h3⟩, h⟩
  simp [wb__law_places, x_for, and_assoc]
  refine ⟨by omega, ?_⟩
  obtain ⟨J, hJ⟩ : ∃ J : Nat → VEnv → Prop, ∀ j ρ, J j ρ ↔ ∃ x, ρ = [some (.int n), some (lnsN ns), some (.seq .own (intsD ((List.range j).flatMap fun r => (List.range n).filter fun a => a % ns.length == ns.idxOf r))), x, none] := ⟨_, fun _ _ => Iff.rfl⟩
  refine for_inv (List.range ns.length) (fun i : Nat => .int i) J (rangeD_nat _) ((hJ _ _).mpr ⟨none, by simp [intsD, lockE]⟩) (fun _ _ _ => trivial) ?_ ?_
  · intro ρ h'
    obtain ⟨x, rfl⟩ := (hJ _ _).mp h'
    simp [unlE]
    simp at h'
    exact h
  · intro i l ρ hx h'
    obtain ⟨x, rfl⟩ := (hJ _ _).mp h'
    have hl : l < ns.length := by have := List.mem_of_getElem? hx; simpa using this
    have ei : i = l := by have := (List.getElem?_eq_some_iff.mp hx).2; simpa using this
    subst ei
    have hb : ((List.range (i + 1)).flatMap fun r => (List.range n).filter fun a => a % ns.length == ns.idxOf r).length ≤ n := by
      have e1 := (lt_pl (n := n) h3 h1).len
      have e2 : plL n ns = ((List.range (i + 1)).flatMap fun r => (List.range n).filter fun a => a % ns.length == ns.idxOf r) ++ (((List.range ns.length).drop (i + 1)).flatMap fun r => (List.range n).filter fun a => a % ns.length == ns.idxOf r) := by
        rw [← List.flatMap_append, ← show (List.range ns.length).take (i + 1) = List.range (i + 1) from by rw [List.take_range]; congr 1; omega, List.take_append_drop]; rfl
      rw [e2, List.length_append] at e1
      omega
    have hs : ((List.range (i + 1)).flatMap fun r => (List.range n).filter fun a => a % ns.length == ns.idxOf r) = ((List.range i).flatMap fun r => (List.range n).filter fun a => a % ns.length == ns.idxOf r) ++ (List.range n).filter fun a => a % ns.length == ns.idxOf i := by
      rw [List.range_succ, List.flatMap_append]; simp
    rw [hs, List.length_append] at hb
    have hJ1 := hJ (i + 1)
    rw [hs] at hJ1
    generalize ((List.range i).flatMap fun r => (List.range n).filter fun a => a % ns.length == ns.idxOf r) = G at *
    simp [lp_in, gN, x_lc, and_assoc]
    refine ⟨by omega, ?_⟩
    refine lc_filter (List.range n) (fun a : Nat => .int a) (fun a : Nat => if (a % ns.length == ns.idxOf i) = true then some (.int (a : Int)) else none) (rangeD_nat n) (by simp [nbs]) rfl trivial (small_le (by simp; omega)) (by simp [wpE, unwE]) (fun j x hx acc ha W hW => ?_) ?_
    · simp [wpE] at hW ⊢
      refine ⟨h1, ns.map fun i : Nat => (i : Int), by simp [lnsN, Function.comp_def], by simpa using h3.mem hl, ?_⟩
      rw [idx_cast]
      have em : ((x : Int) % (ns.length : Int)) = ((x % ns.length : Nat) : Int) := rfl
      by_cases e : x % ns.length = ns.idxOf i
      · rw [em, e]
        simp [e] at hW ⊢
        exact ⟨ha, hW⟩
      · have e' : ¬ (x : Int) % (ns.length : Int) = (ns.idxOf i : Int) := by rw [em]; omega
        simp only [if_neg e] at hW
        simp only [if_neg e']
        simpa using hW
    · rw [filter_int]
      exact ⟨.tmp, _, rfl, by decide, _, rfl, small_le (by simp; omega), (hJ1 _).mpr ⟨some (.int i), by simp [intsD]⟩⟩
def S__law_comes_back : Spec := S_times_back
-- _law_comes_back [(0, 'places'), (1, 'made'), (2, 'gone'), (3, 'start'), (4, 'here'), (5, 'many'), (6, 'one'), (7, 'two')]
def cb_while : WS := (wWhile (wNot (wVal (wDGet2 (wVar 2) (wVar 4) (wC (.bl false)))))
 (wSeq (wAsg (wC (.bl true)) (gD 2 (wVar 4)))
 (wPar 4 5 (wAE (wBin opIx (wVar 0) (wVar 4)) (wAE (wBin opAdd (wVar 5) (wC (.int 1))) wN)))))
def cb_gcd : WS := (wWhile (wVal (wBin opGt (wVar 7) (wC (.int 0))))
 (wPar 6 7 (wAV 7 (wAE (wBin opMod (wCallN (f1 opInt) (wAV 6 wN)) (wVar 7)) wN))))
def cb_in : WS := (wSeq (wPar 4 5 (wAV 3 (wAE (wC (.int 0)) wN)))
 (wSeq cb_while
 (wSeq (wPar 6 7 (wAV 1 (wAV 5 wN)))
 (wSeq cb_gcd
 (wSet 1 (wIfE (wVal (wBin opGt (wVar 5) (wC (.int 0)))) (wBin opFDiv (wBin opMul (wVar 1) (wVar 5)) (wVar 6)) (wVar 1)))))))
def wb__law_comes_back : WS := (wSeq (wPar 1 2 (wAE (wC (.int 1)) (wAE (wC (.map .tmp [])) wN)))
 (wSeq (wFor (wR1 (wAE (wCallN (f1 opLen) (wAV 0 wN)) wN)) (gN 3)
 cb_in)
 (wRetV 1)))
abbrev nI (k : Nat) : Option D := some (.int k)
def cbF (p L : List Nat) (f : Nat) (x3 x4 x5 x6 x7 : Option D) : VEnv := [some (.seq .own (intsD p)), some (.int f), some (.map .own (knD L)), x3, x4, x5, x6, x7]
theorem cb_while_ok {E : VEnd} {n m f : Nat} {p : List Nat} {Cs : List (List Nat)} {a b : Option D} (hn : n ≤ 1000) (hp : Lt n p) (c : CycOk n p m Cs) (hm : m < n)
    (h : ∀ x : Nat, E.nx (cbF p (cycF p Cs m).flatten f (nI m) (nI x) (nI (stepK p Cs m)) a b)) : cb_while E (cbF p Cs.flatten f (nI m) (nI m) (nI 0) a b) := by
  refine ⟨fun r ρ => ∃ k, ρ = cbF p (seenK p Cs m k) f (nI m) (nI (it p k m)) (nI k) a b ∧ k ≤ stepK p Cs m ∧ r = stepK p Cs m - k, ⟨_, 0, ?_, Nat.zero_le _, rfl⟩, ?_⟩
  · simp [cbF, seenK, it]
  · rintro r ρ ⟨k, rfl, hk, rfl⟩
    have hi := seen_iff hp c hm hk
    have hlt := it_lt hp hm k
    have hsl := step_le (Cs := Cs) hp hm
    have hlen := seen_len (k := k) hp c
    simp [cbF, keyD]
    refine ⟨_, _, ⟨rfl, rfl⟩, ?_⟩
    rw [kn_get]
    by_cases e : k = stepK p Cs m
    · rw [if_pos (hi.mpr e)]
      have := h (it p k m)
      rw [← seen_end, ← e] at this
      simp [asB]
      exact this
    · have hni : it p k m ∉ seenK p Cs m k := fun z => e (hi.mp z)
      rw [if_neg hni]
      have hk' : k < stepK p Cs m := by omega
      have ea : L2.atI (intsD p) ((it p k m : Nat) : Int) = some (.int (nx p (it p k m))) := at_nat (by unfold intsD; rw [List.getElem?_map, nx_get hp hlt]; rfl)
      simp [asB]
      refine ⟨small_le (by simp [knD]; omega), _, ea, rfl, stepK p Cs m - (k + 1), by omega, k + 1, ⟨?_, rfl, by omega⟩, by omega, rfl⟩
      rw [kn_put hni, seen_succ]
theorem cb_gcd_ok {E : VEnd} {f k : Nat} {p L : List Nat} {m h : Option D}
    (hq : E.nx (cbF p L f m h (nI k) (nI (Nat.gcd f k)) (nI 0))) : cb_gcd E (cbF p L f m h (nI k) (nI f) (nI k)) := by
  refine ⟨fun r ρ => ∃ a b : Nat, ρ = cbF p L f m h (nI k) (nI a) (nI b) ∧ Nat.gcd a b = Nat.gcd f k ∧ r = b, ⟨_, f, k, rfl, rfl, rfl⟩, ?_⟩
  rintro r ρ ⟨a, b, rfl, hg, rfl⟩
  simp [cbF]
  by_cases e : r = 0
  · subst e
    simp
    rw [Nat.gcd_zero_right] at hg
    subst hg
    exact hq
  · have hr : 0 < r := by omega
    simp [hr]
    exact ⟨a % r, Nat.mod_lt _ hr, r, ⟨rfl, by simp⟩, by rw [← hg, Nat.gcd_comm r, Nat.gcd_comm a r]; exact (Nat.gcd_rec r a).symm⟩
theorem vc__law_comes_back : Vc wb__law_comes_back 8 S__law_comes_back := by
  rintro ds q ⟨n, p, rfl, hn, hp, h⟩
  have hl := hp.len
  simp [wb__law_comes_back, x_for, hl, and_assoc]
  refine ⟨by omega, ?_⟩
  obtain ⟨J, hJ⟩ : ∃ J : Nat → VEnv → Prop, ∀ j ρ, J j ρ ↔ ∃ x y z a b, ρ = cbF p ((List.range j).foldl (cycF p) []).flatten (ordCs ((List.range j).foldl (cycF p) [])) x y z a b := ⟨_, fun _ _ => Iff.rfl⟩
  refine for_inv (List.range n) (fun i : Nat => .int i) J (rangeD_nat n) ((hJ _ _).mpr ⟨none, none, none, none, none, by simp [cbF, knD, ordCs, lockE]⟩) (fun _ _ _ => trivial) ?_ ?_
  · intro ρ h'
    obtain ⟨x, y, z, a, b, rfl⟩ := (hJ _ _).mp h'
    simp [unlE, cbF]
    unfold ordC ordL cycs at h
    rw [hl] at h
    exact h
  · intro i l ρ hx h'
    obtain ⟨x, y, z, a, b, rfl⟩ := (hJ _ _).mp h'
    have ei : i = l := by have := (List.getElem?_eq_some_iff.mp hx).2; simpa using this
    subst ei
    have hi : i < n := by have := (List.getElem?_eq_some_iff.mp hx).1; simpa using this
    have c := cycs_fold hp i (by omega)
    have hJ1 := hJ (i + 1)
    rw [List.range_succ, List.foldl_append] at hJ1
    generalize (List.range i).foldl (cycF p) [] = Cs at *
    simp [cb_in, gN, cbF]
    refine cb_while_ok hn hp c hi fun x => ?_
    have hs := step_le (Cs := Cs) hp hi
    have hpos := ordCs_pos hp c
    simp [cbF]
    refine cb_gcd_ok ?_
    simp [cbF]
    by_cases e : 0 < stepK p Cs i
    · have hg : 0 < Nat.gcd (ordCs Cs) (stepK p Cs i) := Nat.gcd_pos_of_pos_left _ hpos
      have hg2 := Nat.gcd_le_right (ordCs Cs) e
      have c2 : L2.CMul (ordCs Cs : Int) (stepK p Cs i) := .inr ⟨by omega, by omega⟩
      have c1 : L2.CDivW ((ordCs Cs : Int) * stepK p Cs i) (Nat.gcd (ordCs Cs) (stepK p Cs i) : Nat) := by
        refine ⟨by omega, ?_⟩
        rw [Int.natAbs_natCast]
        refine Nat.lt_of_le_of_lt (Nat.log2_self_le (n := Nat.gcd (ordCs Cs) (stepK p Cs i)) (by omega) |> fun _ => Nat.log2_le_self _) (by omega)
      simp [e, c1, c2]
      have e4 : ((ordCs Cs : Int) * (stepK p Cs i : Int)) / ((Nat.gcd (ordCs Cs) (stepK p Cs i) : Nat) : Int) = ((ordF (ordCs Cs) (stepK p Cs i) : Nat) : Int) := by
        rw [ordF_lcm]; rfl
      exact (hJ1 _).mpr ⟨nI i, nI x, nI (stepK p Cs i), nI (Nat.gcd (ordCs Cs) (stepK p Cs i)), nI 0, by simp [cbF, ordCs_step hp hi, e, e4]⟩
    · simp [e]
      exact (hJ1 _).mpr ⟨nI i, nI x, nI (stepK p Cs i), nI (Nat.gcd (ordCs Cs) (stepK p Cs i)), nI 0, by simp [cbF, ordCs_step hp hi, e]⟩
end VL

namespace VL
open PySem PySem.Spec PyProof.Rows
def S__law_shuffledI : Spec := fun ds q => ∃ (a b c : Int) (L : List Nat), ds = [wlD a b c, .seq .own (intsD L)] ∧ WlOk a b ∧ L.length ≤ 1000 ∧ ∀ L' a' b' c', L'.Perm L → WlOk a' b' → q (.seq .tmp (intsD L')) [wlD a' b' c', .seq .own (intsD L)]
def S__law_order : Spec := fun ds q => ∃ a b c : Int, ds = [wlD a b c] ∧ WlOk a b ∧ ∀ ns a' b' c', Ord ns → WlOk a' b' → q (lnsN ns) [wlD a' b' c']
-- _law_shuffled [(0, 'well'), (1, 'some'), (2, 'left'), (3, 'made')]
def wb__law_shuffledI : WS := (wSeq (wPar 2 3 (wAE (wCallN (f1 opList) (wAV 1 wN)) (wAE (wLst wN) wN)))
 (wSeq (wWhile (wVal (wBin opNe (wVar 2) (wLst wN)))
 (wExpr (wMut "list" 3 opAppend (wAE (wMut "list" 2 opPop (wAE (wCall S__law_take (wAV 0 (wAE (wCallN (f1 opLen) (wAV 2 wN)) wN))) wN)) wN))))
 (wRetV 3)))
-- _law_order [(0, 'well')]
def wb__law_order : WS := (wRet (wCallN (f1 opTupleN) (wAE (wCall S__law_shuffledI (wAV 0 (wAE (wLR1 (wBin opAdd (wC (.int 1)) (wCall S__law_take (wAV 0 (wAE (wC (.int 6)) wN))))) wN))) wN)))
theorem ne_nilI {k k2 : Kd} {M : List Nat} {p : D → Prop} : opNe (.seq k (intsD M)) (.seq k2 []) p = p (.bl (!(M == []))) := o_neN (B := [])
theorem intsD_get (M : List Nat) (r : Nat) : (intsD M)[r]? = (M[r]?).map fun i : Nat => D.int i := by simp [intsD]
theorem intsD_erase (M : List Nat) (r : Nat) : (intsD M).eraseIdx r = intsD (M.eraseIdx r) := map_erase _ M r
theorem len_erC {M : List Nat} {r : Nat} (h : r < M.length) : (M.eraseIdx r).length + 1 = M.length := by rw [List.length_eraseIdx_of_lt h]; omega
theorem shufI_go {X : D} {E : VEnd} {L : List Nat} {a b c : Int} (hl : L.length ≤ 1000) (hw : WlOk a b) (hE : ∀ L' a b c, L'.Perm L → WlOk a b → E.nx [some (wlD a b c), some X, some (.seq .own []), some (.seq .own (intsD L'))]) :
    wWhile (wVal (wBin opNe (wVar 2) (wLst wN))) (wExpr (wMut "list" 3 opAppend (wAE (wMut "list" 2 opPop (wAE (wCall S__law_take (wAV 0 (wAE (wCallN (f1 opLen) (wAV 2 wN)) wN))) wN)) wN))) E
      [some (wlD a b c), some X, some (.seq .own (intsD L)), some (.seq .own [])] := by
  refine ⟨fun m ρ => ∃ a b c M O, ρ = [some (wlD a b c), some X, some (.seq .own (intsD M)), some (.seq .own (intsD O))] ∧ WlOk a b ∧ (O ++ M).Perm L ∧ m = M.length, ⟨_, a, b, c, L, [], rfl, hw, by simp, rfl⟩, ?_⟩
  rintro m ρ ⟨a, b, c, M, O, rfl, hw, hp, rfl⟩
  have hlen := hp.length_eq
  rw [List.length_append] at hlen
  simp [ne_nilI]
  by_cases e : M = []
  · subst e
    rw [List.append_nil] at hp
    simp
    exact hE _ _ _ _ hp hw
  · have hpos : 1 ≤ M.length := List.length_pos_iff.mpr e
    simp [e, S__law_take, and_assoc]
    refine ⟨hw, hpos, by omega, fun r a' b' hr hw' => ?_⟩
    have er := len_erC hr
    refine ⟨by omega, .int (M[r] : Nat), by rw [intsD_get, List.getElem?_eq_getElem hr]; rfl, rfl, small_lt (by omega), (M.eraseIdx r).length, by omega, M.eraseIdx r, intsD_erase M r, O ++ [M[r]], by simp [intsD], hw', ?_, rfl⟩
    rw [List.append_assoc]
    exact ((erase_perm (List.getElem?_eq_getElem hr)).append_left O).trans hp
theorem vc__law_shuffledI : Vc wb__law_shuffledI 4 S__law_shuffledI := by
  rintro ds q ⟨a, b, c, L, rfl, hw, hl, h⟩
  simp [wb__law_shuffledI, and_assoc]
  refine shufI_go hl hw fun L' a b c hp hw' => ?_
  simp
  exact h _ _ _ _ hp hw'
theorem vc__law_order : Vc wb__law_order 1 S__law_order := by
  rintro ds q ⟨a, b, c, rfl, hw, h⟩
  simp [wb__law_order, S__law_take, S__law_shuffledI, and_assoc]
  refine ⟨6, rfl, hw, by decide, by decide, fun r a' b' hr hw' => ⟨by omega, by omega, List.range (1 + r), ?_, hw', by simp; omega, fun L' a b c hp hw => ?_⟩⟩
  · rw [show (1 + (r : Int)) = ((1 + r : Nat) : Int) from by omega, rangeD_nat]; rfl
  · have hl : L'.length = 1 + r := by rw [hp.length_eq]; simp
    exact h L' a b c ⟨by omega, by omega, ⟨rfl, by rw [hl]; exact hp⟩⟩ hw
def S__law_text_right : Spec := fun ds q => ∃ ns t : List Nat, ds = [.str (tx t), lnsN ns] ∧ TxOk t ∧ Ord ns ∧ q (.bl true) ds
def S__law_number_right : Spec := fun ds q => ∃ (n : Nat) (ns : List Nat), ds = [.int n, lnsN ns] ∧ 1 ≤ n ∧ n ≤ 200 ∧ Ord ns ∧ q (.bl true) ds
-- _law_text_right [(0, 'text'), (1, 'order'), (2, 'due'), (3, 'at')]
def tr_3 : WS := (wRet (wAndV (wBin opEq (wCall S_columned (wAE (wCall S_columned_back (wAV 0 (wAV 1 wN))) (wAV 1 wN))) (wVar 0)) (wAndV (wBin opEq (wCallN (f1 opSortedA) (wAV 2 wN)) (wCallN (f1 opSortedA) (wAV 0 wN))) (wBin opEq (wCall S_columned (wAV 0 (wAE (wTupN (wAE (wC (.int 0)) wN)) wN))) (wVar 0)))))
def tr_2 : WS := (wSeq (wIf (wNot (wVal (wCall S__law_same (wAE (wTup (wAE (wCall S_columned_back (wAV 2 (wAV 1 wN))) (wAE (wCallK S_columned_back [1, 0] (wAV 1 (wAV 2 wN))) wN))) (wAE (wTup (wAV 0 (wAV 0 wN))) wN)))))
 (wRet (wC (.bl false)))
 wNext)
 tr_3)
def tr_1 : WS := (wSeq (wIf (wNot (wVal (wCall S__law_same (wAE (wTup (wAE (wCall S_columned (wAV 0 (wAV 1 wN))) (wAE (wCallK S_columned [1, 0] (wAV 1 (wAV 0 wN))) wN))) (wAE (wTup (wAV 2 (wAV 2 wN))) wN)))))
 (wRet (wC (.bl false)))
 wNext)
 tr_2)
def wb__law_text_right : WS := (wSeq (wSet 2 (wMeth "str" opJoin (wC (.str [])) (wAE (wLc (wI (wCall S__law_places (wAE (wCallN (f1 opLen) (wAV 0 wN)) (wAV 1 wN)))) (gN 3) [3] (fun ρ q => q true ρ) (wBin opIx (wVar 0) (wVar 3))) wN)))
 tr_1)
-- _law_number_right [(0, 'number'), (1, 'order'), (2, 'due'), (3, 'text'), (4, 'here'), (5, 'many')]
def nr_3 : WS := (wSeq (wWhile (wAnd (wVal (wBin opNe (wVar 4) (wVar 3))) (wVal (wBin opLt (wVar 5) (wBin opAdd (wVar 2) (wC (.int 1))))))
 (wPar 4 5 (wAE (wCall S_columned (wAV 4 (wAV 1 wN))) (wAE (wBin opAdd (wVar 5) (wC (.int 1))) wN))))
 (wRet (wBin opEq (wVar 5) (wVar 2))))
def nr_2 : WS := (wSeq (wSet 3 (wSlice (wC (.str SG)) wNo (wPt (wVar 0))))
 (wSeq (wPar 4 5 (wAE (wCall S_columned (wAV 3 (wAV 1 wN))) (wAE (wC (.int 1)) wN)))
 nr_3))
def wb__law_number_right : WS := (wSeq (wSet 2 (wCall S__law_comes_back (wAE (wCall S__law_places (wAV 0 (wAV 1 wN))) wN)))
 (wSeq (wIf (wNot (wVal (wCall S__law_same (wAE (wTup (wAE (wCall S_column_order (wAV 0 (wAV 1 wN))) (wAE (wCallK S_column_order [1, 0] (wAV 1 (wAV 0 wN))) wN))) (wAE (wTup (wAV 2 (wAV 2 wN))) wN)))))
 (wRet (wC (.bl false)))
 wNext)
 (wSeq (wIf (wVal (wBin opGt (wVar 0) (wC (.int 10))))
 (wRet (wC (.bl true)))
 wNext)
 nr_2)))
def trF (t ns u : List Nat) : VEnv := [some (.str (tx t)), some (lnsN ns), some (.str (tx u)), none]
theorem tx_prod (t p : List Nat) : (p.map fun i => 97 + nx t i) = tx (prodL p t) := by rw [prodL, tx_map]
theorem e_columned {ns t : List Nat} {q : D → List D → Prop} (ht : TxOk t) (ho : Ord ns) : S_columned [.str (tx t), lnsN ns] q = q (.str (tx (prodL (plL t.length ns) t))) [.str (tx t), lnsN ns] :=
  propext ⟨fun ⟨ns', t', e, _, _, h⟩ => by simp at e; obtain ⟨rfl, rfl⟩ := e; exact h, fun h => ⟨ns, t, rfl, ht, ho, h⟩⟩
theorem e_columned_back {ns t : List Nat} {q : D → List D → Prop} (ht : TxOk t) (ho : Ord ns) : S_columned_back [.str (tx t), lnsN ns] q = q (.str (tx (prodL (invL (plL t.length ns)) t))) [.str (tx t), lnsN ns] :=
  propext ⟨fun ⟨ns', t', e, _, _, h⟩ => by simp at e; obtain ⟨rfl, rfl⟩ := e; exact h, fun h => ⟨ns, t, rfl, ht, ho, h⟩⟩
theorem e_column_order {n : Nat} {ns : List Nat} {q : D → List D → Prop} (h1 : 1 ≤ n) (hn : n ≤ 200) (ho : Ord ns) : S_column_order [.int n, lnsN ns] q = q (.int (ordC (plL n ns))) [.int n, lnsN ns] :=
  propext ⟨fun ⟨n', ns', e, _, _, _, h⟩ => by
    simp at e
    obtain ⟨e, rfl⟩ := e
    have : n = n' := by omega
    subst this
    exact h, fun h => ⟨n, ns, rfl, h1, hn, ho, h⟩⟩
theorem e_sameC {a : D} {q : D → List D → Prop} (h : flat2 a) (hq : q (.bl true) [a, a]) : S__law_same [a, a] q := ⟨a, rfl, h, hq⟩
theorem ok_txo {t : List Nat} (ht : TxOk t) : okS (tx t) := okS_tx fun i hi => by have := ht.2 i hi; omega
theorem flat_two {x y : D} (hx : flatD x) (hy : flatD y) : flat2 (.tup [x, y]) := .inr ⟨_, rfl, by simp, fun d hd => by
  simp at hd
  rcases hd with rfl | rfl
  · exact ⟨.inl hx, flat_brw hx⟩
  · exact ⟨.inl hy, flat_brw hy⟩⟩
section
variable {n : Nat} {P Q t ns : List Nat}
theorem prod_assocT (h : ∀ i ∈ P, i < Q.length) : prodL P (prodL Q t) = prodL (prodL P Q) t := by
  unfold prodL
  rw [List.map_map]
  exact List.map_congr_left fun i hi => nx_map (h i hi)
theorem prod_idT : prodL (idL t.length) t = t := by
  unfold prodL idL
  refine List.ext_getElem (by simp) fun i h1 h2 => ?_
  simp [nx, h2]
theorem prod_back (h : Lt t.length P) : prodL P (prodL (invL P) t) = t := by
  have h' := lt_inv h
  rw [prod_assocT fun i hi => by rw [h'.len]; exact h.lt i hi]
  have : prodL P (invL P) = idL t.length := lt_ext (lt_prod h h') lt_id fun i hi => by rw [nx_prod h hi, inv_nx h hi, nx_id hi]
  rw [this, prod_idT]
theorem back_prod (h : Lt t.length P) : prodL (invL P) (prodL P t) = t := by
  have h' := lt_inv h
  rw [prod_assocT fun i hi => by rw [h.len]; exact h'.lt i hi]
  have : prodL (invL P) P = idL t.length := lt_ext (lt_prod h' h) lt_id fun i hi => by rw [nx_prod h' hi, nx_invr h hi, nx_id hi]
  rw [this, prod_idT]
theorem prod_len (h : Lt t.length P) : (prodL P t).length = t.length := by unfold prodL; rw [List.length_map, h.len]
theorem tx_okP (h : Lt t.length P) (ht : TxOk t) : TxOk (prodL P t) := by
  refine ⟨by rw [prod_len h]; exact ht.1, fun i hi => ?_⟩
  obtain ⟨j, hj, rfl⟩ := List.mem_map.mp hi
  have := h.lt j hj
  refine ht.2 _ ?_
  unfold nx
  rw [List.getElem?_eq_getElem this]
  exact List.getElem_mem _
theorem prod_permT (h : Lt t.length P) : (prodL P t).Perm t := by
  have := h.perm.map (nx t)
  have e : (List.range t.length).map (nx t) = t := prod_idT
  rw [e] at this
  exact this
theorem ord_0 : Ord [0] := ⟨by decide, by decide, ⟨rfl, by decide⟩⟩
theorem pl_0 : plL n [0] = idL n := by
  unfold plL idL
  have : (List.range n).filter (fun a => a % 1 == ([0] : List Nat).idxOf 0) = List.range n := List.filter_eq_self.mpr fun a _ => by simp [Nat.mod_one]
  simpa using this
end
theorem lns_0 : D.tupN [D.int 0] = lnsN [0] := rfl
theorem sgl_map (l : List Nat) : l.map (fun c => D.str [c]) = (l.map fun c => [c]).map D.str := by simp
theorem tr_3_ok {E : VEnd} {t ns : List Nat} (ht : TxOk t) (ho : Ord ns) (h : E.rt (.bl true) (trF t ns (prodL (plL t.length ns) t))) : tr_3 E (trF t ns (prodL (plL t.length ns) t)) := by
  have hp := lt_pl (n := t.length) ho.2.2 ho.1
  have hb := tx_okP (lt_inv hp) ht
  have lb : (prodL (invL (plL t.length ns)) t).length = t.length := prod_len (lt_inv hp)
  simp [tr_3, trF, e_columned_back ht ho, e_columned hb ho, lb, prod_back hp, ok_txo ht]
  refine ⟨small_le (by rw [prod_len hp]; have := ht.1; omega), fun l1 p1 s1 => ⟨small_le (by have := ht.1; omega), fun l2 p2 s2 => ?_⟩⟩
  have e : l1 = l2 := by
    refine sorted_uni (p1.trans (List.Perm.trans ?_ p2.symm)) s1 s2
    exact (prod_permT hp).map _
  subst e
  have ok : oksA (l1.map fun c => [c]) := fun a ha => by
    obtain ⟨c, hc, rfl⟩ := List.mem_map.mp ha
    obtain ⟨i, hi, rfl⟩ := mem_tx.mp (p2.subset hc)
    exact okS_1 (ht.2 i hi)
  rw [sgl_map, o_eqL ok ok]
  simp [lns_0, e_columned ht ord_0, pl_0, prod_idT, ok_txo ht]
  exact ⟨small_le (by omega), h⟩
theorem tr_1_ok {E : VEnd} {t ns : List Nat} (ht : TxOk t) (ho : Ord ns) (h : E.rt (.bl true) (trF t ns (prodL (plL t.length ns) t))) : tr_1 E (trF t ns (prodL (plL t.length ns) t)) := by
  have hp := lt_pl (n := t.length) ho.2.2 ho.1
  have hd := tx_okP hp ht
  have ld : (prodL (plL t.length ns) t).length = t.length := prod_len hp
  have f1 : flatD (.str (tx (prodL (plL t.length ns) t))) := .inl ⟨_, rfl, ok_txo hd⟩
  have f2 : flatD (.str (tx t)) := .inl ⟨_, rfl, ok_txo ht⟩
  have eb : prodL (invL (plL t.length ns)) (prodL (plL t.length ns) t) = t := back_prod hp
  simp [tr_1, trF, e_columned ht ho, pmL]
  refine ⟨small_le (by omega), e_sameC (flat_two f1 f1) ?_⟩
  simp [asB, tr_2, e_columned_back hd ho, ld, eb, pmL]
  refine ⟨small_le (by omega), e_sameC (flat_two f2 f2) ?_⟩
  simp [asB]
  exact tr_3_ok ht ho h
theorem vc__law_text_right : Vc wb__law_text_right 4 S__law_text_right := by
  rintro ds q ⟨ns, t, rfl, ht, ho, h⟩
  simp [wb__law_text_right, S__law_places, S_columned_places, x_lc, and_assoc]
  refine ⟨small_le (by have := ht.1; omega), ht.1, ho, ?_⟩
  have hp := lt_pl (n := t.length) ho.2.2 ho.1
  refine lc_map (plL t.length ns) (fun i : Nat => .int i) (fun i => .str [97 + nx t i]) rfl (by simp [nbs]) rfl trivial (small_le (by rw [hp.len]; have := ht.1; omega)) (by simp [wpE, unwE]) (fun i x hx acc ha W hW => ?_) ?_
  · have hx' : x < t.length := hp.lt x (List.mem_of_getElem? hx)
    have e : L2.atI (tx t) (x : Int) = some (97 + nx t x) := at_nat (by rw [tx_get]; unfold nx; rw [List.getElem?_eq_getElem hx']; rfl)
    simp [wpE, e] at hW ⊢
    exact ⟨small_le (by have := ht.1; omega), ha, hW⟩
  · simp [flat_one]
    refine ⟨by rw [hp.len]; have := ht.1; omega, ?_⟩
    rw [tx_prod]
    refine tr_1_ok ht ho ?_
    exact h
theorem e_back {n : Nat} {p : List Nat} {q : D → List D → Prop} (hn : n ≤ 1000) (hp : Lt n p) (h : q (.int (ordC p)) [.seq .own (intsD p)]) : S__law_comes_back [.seq .own (intsD p)] q := ⟨n, p, rfl, hn, hp, h⟩
theorem pow_left {n : Nat} {p : List Nat} (h : Lt n p) (k : Nat) : prodL p (powL p k) = powL p (k + 1) :=
  lt_ext (lt_prod h (lt_pow h k)) (lt_pow h _) fun i hi => by
    rw [nx_prod h hi, nx_pow h (nx_lt h hi), nx_pow h hi]
    have := it_add p 1 i k
    rw [Nat.add_comm] at this
    exact this.symm
def nrF (n : Nat) (ns : List Nat) (o : Nat) (x3 x4 x5 : Option D) : VEnv := [nI n, some (lnsN ns), nI o, x3, x4, x5]
theorem nr_3_ok {E : VEnd} {n : Nat} {ns : List Nat} (h1 : 1 ≤ n) (hn : n ≤ 10) (ho : Ord ns)
    (h : ∀ x3 x4 x5, E.rt (.bl true) (nrF n ns (ordC (plL n ns)) x3 x4 x5)) : nr_3 E (nrF n ns (ordC (plL n ns)) (some (.str (tx (idL n)))) (some (.str (tx (plL n ns)))) (nI 1)) := by
  have hp := lt_pl (n := n) ho.2.2 ho.1
  have hpos : 0 < ordC (plL n ns) := ordCs_pos hp (cycs_ok hp)
  have hp1 : powL (plL n ns) 1 = plL n ns := by
    have := pow_left hp 0
    rw [← this]
    unfold powL
    exact lt_ext (lt_prod hp (by rw [hp.len]; exact lt_id)) hp fun i hi => by rw [nx_prod hp hi, hp.len, nx_id (nx_lt hp hi)]
  simp [nr_3]
  refine ⟨fun r ρ => ∃ k : Nat, ρ = nrF n ns (ordC (plL n ns)) (some (.str (tx (idL n)))) (some (.str (tx (powL (plL n ns) k)))) (nI k) ∧ 1 ≤ k ∧ k ≤ ordC (plL n ns) ∧ r = ordC (plL n ns) - k, ⟨_, 1, by rw [hp1], Nat.le_refl _, hpos, rfl⟩, ?_⟩
  rintro r ρ ⟨k, rfl, hk1, hk2, rfl⟩
  have hq := lt_pow hp k
  have tq : TxOk (powL (plL n ns) k) := ⟨by rw [hq.len]; omega, fun i hi => by have := hq.lt i hi; omega⟩
  have ti : TxOk (idL n) := ⟨by simp [idL]; omega, fun i hi => by simp [idL] at hi; omega⟩
  have hid := pow_id hp k
  rw [← ordC_eq] at hid
  simp [nrF, ok_txo tq, ok_txo ti]
  by_cases e : powL (plL n ns) k = idL n
  · have hk : k = ordC (plL n ns) := Nat.le_antisymm hk2 (Nat.le_of_dvd (by omega) (hid.mp e))
    simp [e]
    have eb : ((k : Int) == (ordC (plL n ns) : Int)) = true := by rw [← hk]; simp
    rw [eb]
    exact h _ _ _
  · have hk : k < ordC (plL n ns) := by
      rcases Nat.lt_or_ge k (ordC (plL n ns)) with h | h
      · exact h
      · exact absurd (hid.mpr (by rw [Nat.le_antisymm hk2 h]; exact Nat.dvd_refl _)) e
    have hk' : (k : Int) < (ordC (plL n ns) : Int) + 1 := by omega
    simp [e]
    rw [if_pos hk', e_columned tq ho]
    simp [hq.len, pow_left hp]
    exact ⟨ordC (plL n ns) - (k + 1), by omega, k + 1, ⟨rfl, by omega⟩, by omega, by omega, rfl⟩
theorem vc__law_number_right : Vc wb__law_number_right 6 S__law_number_right := by
  rintro ds q ⟨n, ns, rfl, h1, hn, ho, h⟩
  have hp := lt_pl (n := n) ho.2.2 ho.1
  simp [wb__law_number_right, S__law_places, S_columned_places, and_assoc]
  refine ⟨hn, ho, e_back (by omega) hp ?_⟩
  simp [e_column_order h1 hn ho, pmL]
  refine ⟨small_le (by omega), e_sameC (flat_two (.inr (.inl ⟨_, rfl⟩)) (.inr (.inl ⟨_, rfl⟩))) ?_⟩
  simp [asB]
  by_cases e : 10 < n
  · rw [if_pos (by omega)]
    exact h
  · rw [if_neg (by omega)]
    have ti : TxOk (idL n) := ⟨by simp [idL]; omega, fun i hi => by simp [idL] at hi; omega⟩
    have li : (idL n).length = n := by simp [idL]
    have ei : prodL (plL n ns) (idL n) = plL n ns := by
      exact lt_ext (lt_prod hp lt_id) hp fun i hi => by rw [nx_prod hp hi, nx_id (nx_lt hp hi)]
    have ec : cutL SG none (some (n : Int)) = tx (idL n) := by rw [cut_to, sg_take (by omega)]; rfl
    have en : ∀ q, S_columned [.str (tx (idL n)), lnsN ns] q = q (.str (tx (plL n ns))) [.str (tx (idL n)), lnsN ns] := fun q => by rw [e_columned ti ho, li, ei]
    simp [nr_2, ec, en]
    refine ⟨small_le (by omega), ?_⟩
    exact nr_3_ok h1 (by omega) ho fun _ _ _ => h
def S__law_pickC : Spec := fun ds q => S__law_pick ds q ∨ ∃ (a b c : Int) (l : List Nat), ds = [wlD a b c, .str (tx l)] ∧ WlOk a b ∧ 1 ≤ l.length ∧ l.length ≤ 1000000 ∧ ∀ x a' b' c', x ∈ l → WlOk a' b' → q (.str [97 + x]) [wlD a' b' c', .str (tx l)]
def wb__law_pickC : WS := wb__law_pick
theorem vc__law_pickC : Vc wb__law_pickC 2 S__law_pickC := by
  rintro ds q (h | ⟨a, b, c, l, rfl, hw, h1, h2, h⟩)
  · exact vc__law_pick ds q h
  · simp [wb__law_pickC, wb__law_pick, S__law_take, and_assoc]
    refine ⟨small_le h2, hw, h1, by omega, fun r a' b' c' hr hw' => ⟨small_le h2, 97 + l[r], at_nat (by rw [tx_get, List.getElem?_eq_getElem hr]; rfl), h _ _ _ _ (List.getElem_mem hr) hw'⟩⟩
def S__law_roundC : Spec := fun ds q => ∃ a b c : Int, ds = [wlD a b c] ∧ WlOk a b ∧ ∀ a' b' c', q (.bl true) [wlD a' b' c']
-- _law_round [(0, 'well'), (1, 'turn'), (2, 'many'), (3, 'text'), (4, 'at')]
def rc_4 : WS := (wIf (wNot (wVal (wCall S__law_number_right (wAE (wBin opAdd (wC (.int 1)) (wCall S__law_take (wAV 0 (wAE (wCall S__law_pickC (wAV 0 (wAE (wLst (wAE (wC (.int 10)) (wAE (wC (.int 10)) (wAE (wC (.int 200)) wN)))) wN))) wN)))) (wAE (wCall S__law_order (wAV 0 wN)) wN)))))
 (wRet (wC (.bl false)))
 wNext)
def rc_3 : WS := (wSeq (wIf (wNot (wVal (wCall S__law_text_right (wAV 3 (wAE (wCall S__law_order (wAV 0 wN)) wN)))))
 (wRet (wC (.bl false)))
 wNext)
 rc_4)
def rc_2 : WS := (wSeq (wSet 3 (wMeth "str" opJoin (wC (.str [])) (wAE (wLc (wR1 (wAV 2 wN)) (gN 4) [4] (fun ρ q => q true ρ) (wCall S__law_pickC (wAV 0 (wAE (wC (.str SG)) wN)))) wN)))
 rc_3)
def rc_1 : WS := (wSeq (wSet 2 (wCall S__law_pickC (wAV 0 (wAE (wLst (wAE (wCall S__law_take (wAV 0 (wAE (wC (.int 30)) wN))) (wAE (wC (.int 200)) (wAE (wCall S__law_take (wAV 0 (wAE (wC (.int 8)) wN))) (wAE (wCall S__law_take (wAV 0 (wAE (wC (.int 201)) wN))) wN))))) wN))))
 rc_2)
def wb__law_roundC : WS := (wSeq (wFor (wR1 (wAE (wC (.int 12)) wN)) (gN 1)
 rc_1)
 (wRet (wC (.bl true))))
def rcF (a b c : Int) (x1 x2 x3 : Option D) : VEnv := [some (wlD a b c), x1, x2, x3, none]
theorem rc_4_ok {E : VEnd} {a b c : Int} {x1 x2 x3 : Option D} (hw : WlOk a b) (h : ∀ a b c, WlOk a b → E.nx (rcF a b c x1 x2 x3)) : rc_4 E (rcF a b c x1 x2 x3) := by
  simp [rc_4, rcF, and_assoc]
  refine ⟨small_le (by omega), .inl ⟨a, b, c, [.int 10, .int 10, .int 200], rfl, hw, by decide, by decide, by simp, fun d a' b' c' hd hw' => ?_⟩⟩
  obtain ⟨m, rfl, hm1, hm2⟩ : ∃ m : Nat, d = .int m ∧ 1 ≤ m ∧ m ≤ 200 := by
    simp at hd
    rcases hd with rfl | rfl
    · exact ⟨10, rfl, by omega, by omega⟩
    · exact ⟨200, rfl, by omega, by omega⟩
  simp [S__law_take, and_assoc]
  refine ⟨hw', hm1, by omega, fun r a b c hr hw => ?_⟩
  simp [S__law_order, and_assoc]
  refine ⟨hw, fun ns a b c ho hw => ⟨1 + r, ns, by simp, by omega, by omega, ho, ?_⟩⟩
  simp [asB]
  exact h _ _ _ hw
theorem rc_3_ok {E : VEnd} {a b c : Int} {x1 x2 : Option D} {t : List Nat} (ht : TxOk t) (hw : WlOk a b) (h : ∀ a b c, WlOk a b → E.nx (rcF a b c x1 x2 (some (.str (tx t))))) : rc_3 E (rcF a b c x1 x2 (some (.str (tx t)))) := by
  simp [rc_3, rcF, S__law_order, and_assoc]
  refine ⟨hw, fun ns a b c ho hw => ⟨ns, t, rfl, ht, ho, ?_⟩⟩
  simp [asB]
  exact rc_4_ok hw h
theorem rc_2_ok {E : VEnd} {a b c : Int} {x1 x3 : Option D} {m : Nat} (hm : m ≤ 200) (hw : WlOk a b) (h : ∀ a b c x3, WlOk a b → E.nx (rcF a b c x1 (nI m) x3)) : rc_2 E (rcF a b c x1 (nI m) x3) := by
  simp [rc_2, rcF, x_lc, and_assoc]
  refine ⟨by omega, ?_⟩
  obtain ⟨J, hJ⟩ : ∃ J : Nat → List D → VEnv → Prop, ∀ i acc ρ, J i acc ρ ↔ ∃ (a b c : Int) (os : List Nat), ρ = rcF a b c x1 (nI m) x3 ∧ WlOk a b ∧ acc = sgs os ∧ os.length = i ∧ ∀ x ∈ os, x < 10 := ⟨_, fun _ _ _ => Iff.rfl⟩
  refine lc_inv (List.range m) (fun i : Nat => .int i) J (rangeD_nat m) (by simp [nbs]) rfl (small_le (by simp; omega)) ((hJ _ _ _).mpr ⟨a, b, c, [], rfl, hw, rfl, rfl, by simp⟩) ?_ ?_ ?_
  · intro i acc ρ h'
    obtain ⟨a, b, c, os, rfl, hw, rfl, hi, ho⟩ := (hJ _ _ _).mp h'
    simp [isWt, hi]
  · intro i x acc ρ hx h' hz
    obtain ⟨a, b, c, os, rfl, hw, rfl, hi, ho⟩ := (hJ _ _ _).mp h'
    clear h'
    simp at hz
    simp [rcF, S__law_pickC, hz, gN, sg_tx, and_assoc]
    refine .inr ⟨hw, fun y a1 b1 c1 hy hw1 => (hJ _ _ _).mpr ⟨a1, b1, c1, os ++ [y], by simp [wpE, rcF], hw1, by simp [sgs], by simp [hi], fun z hz => ?_⟩⟩
    rcases List.mem_append.mp hz with h | h
    · exact ho z h
    · simp at h; subst h; exact hy
  · intro acc ρ h'
    obtain ⟨a, b, c, os, rfl, hw, rfl, hi, ho⟩ := (hJ _ _ _).mp h'
    simp at hi
    simp [unwE, rcF]
    exact ⟨by omega, rc_3_ok ⟨by omega, ho⟩ hw fun a b c hw => h _ _ _ _ hw⟩
theorem rc_1_ok {E : VEnd} {a b c : Int} {x1 x2 x3 : Option D} (hw : WlOk a b) (h : ∀ a b c x2 x3, WlOk a b → E.nx (rcF a b c x1 x2 x3)) : rc_1 E (rcF a b c x1 x2 x3) := by
  simp [rc_1, rcF, S__law_take, and_assoc]
  refine ⟨30, rfl, hw, by decide, by decide, fun r1 a b h1 hw => ⟨8, rfl, hw, by decide, by decide, fun r2 a b h2 hw => ⟨201, rfl, hw, by decide, by decide, fun r3 a b c h3 hw => ⟨small_le (by omega), .inl ⟨a, b, c, _, rfl, hw, by simp, by simp, by simp, fun d a b c hd hw => ?_⟩⟩⟩⟩⟩
  obtain ⟨m, rfl, hm⟩ : ∃ m : Nat, d = .int m ∧ m ≤ 200 := by
    simp at hd
    rcases hd with rfl | rfl | rfl | rfl
    · exact ⟨r1, rfl, by omega⟩
    · exact ⟨200, rfl, by omega⟩
    · exact ⟨r2, rfl, by omega⟩
    · exact ⟨r3, rfl, by omega⟩
  simp
  exact rc_2_ok hm hw fun a b c x3 hw => h _ _ _ _ _ hw
theorem vc__law_roundC : Vc wb__law_roundC 5 S__law_roundC := by
  rintro ds q ⟨a, b, c, rfl, hw, h⟩
  simp [wb__law_roundC, x_for]
  obtain ⟨J, hJ⟩ : ∃ J : Nat → VEnv → Prop, ∀ i ρ, J i ρ ↔ ∃ a b c x1 x2 x3, ρ = rcF a b c x1 x2 x3 ∧ WlOk a b := ⟨_, fun _ _ => Iff.rfl⟩
  refine for_inv (List.range 12) (fun i : Nat => .int i) J (rangeD_nat 12) ((hJ _ _).mpr ⟨a, b, c, none, none, none, rfl, hw⟩) (fun _ _ _ => trivial) ?_ ?_
  · intro ρ h'
    obtain ⟨a, b, c, x1, x2, x3, rfl, hw⟩ := (hJ _ _).mp h'
    simp [unlE, rcF]
    exact h _ _ _
  · intro i l ρ hx h'
    obtain ⟨a, b, c, x1, x2, x3, rfl, hw⟩ := (hJ _ _).mp h'
    clear h'
    simp [gN, rcF]
    exact rc_1_ok hw fun a b c x2 x3 hw => (hJ _ _).mpr ⟨a, b, c, _, x2, x3, rfl, hw⟩
theorem turnsC (m : Nat) : ∃ t : Nat, t ≤ 3 ∧ (if (2 : Int) < if (3 : Int) < (m : Int) then 3 else (m : Int) then if (3 : Int) < (m : Int) then 3 else (m : Int) else 2) = (t : Int) := by
  by_cases h1 : 3 < m
  · exact ⟨3, by omega, by simp [show (3 : Int) < m by omega]⟩
  · by_cases h2 : 2 < m
    · exact ⟨m, by omega, by simp [show ¬ (3 : Int) < m by omega, show (2 : Int) < m by omega]⟩
    · exact ⟨2, by omega, by simp [show ¬ (3 : Int) < m by omega, show ¬ (2 : Int) < m by omega]⟩
def S_lawC : Spec := S_law
-- law [(0, 'script'), (1, 'turn')]
def wb_lawC : WS := (wRet (wCallN (f1 opAll) (wAE (wLc (wR1 (wAE (wCallN (f2 opMax2) (wAE (wC (.int 2)) (wAE (wCallN (f2 opMin2) (wAE (wCallN (f1 opLen) (wAV 0 wN)) (wAE (wC (.int 3)) wN))) wN))) wN)) (gN 1) [1] (fun ρ q => q true ρ) (wCall S__law_roundC (wAE (wCall S__law_well (wAV 0 (wAV 1 wN))) wN))) wN)))
theorem vc_lawC : Vc wb_lawC 2 S_lawC := by
  rintro ds q ⟨ns, rfl, hl, h⟩
  obtain ⟨t, ht, e⟩ := turnsC ns.length
  simp [wb_lawC, x_lc, e]
  refine ⟨by omega, ?_⟩
  refine lc_map (List.range t) (fun i : Nat => .int i) (fun _ => .bl true) (rangeD_nat t) (by simp [nbs]) rfl trivial (small_le (by simp; omega)) (by simp [wpE, unwE]) (fun i x hx acc ha W hW => ?_) ?_
  · have hx' : x < t := by simpa using List.mem_of_getElem? hx
    simp [wpE, S__law_well, S__law_roundC, and_assoc] at hW ⊢
    exact ⟨ns, rfl, hl, by omega, fun a b hw => ⟨hw, ha, hW⟩⟩
  · simp
    exact h _
end VL

namespace VL
open PySem PySem.Spec PyProof.Rows L2
def topS (i : Nat) : Stmt := PySem.Challenge.pw_cordwheels_k24_whole_texts_columned.main.body.getD i (.Pass ⟨0, 0, 0, 0⟩)
abbrev s_is_whole : Stmt := topS 2
abbrev s_is_between : Stmt := topS 3
abbrev s_is_tuple_of : Stmt := topS 4
abbrev s_are_wholes : Stmt := topS 5
abbrev s_is_text_of : Stmt := topS 6
abbrev s_is_order : Stmt := topS 9
abbrev s_columned_places : Stmt := topS 10
abbrev s_signs_of : Stmt := topS 18
abbrev s_is_typed_text : Stmt := topS 21
abbrev s_check_whole : Stmt := topS 23
abbrev s_check_text : Stmt := topS 24
abbrev s_put_by : Stmt := topS 26
abbrev s_put_back_by : Stmt := topS 27
abbrev s_times_back : Stmt := topS 28
abbrev s_check_order : Stmt := topS 30
abbrev s_columned : Stmt := topS 31
abbrev s_columned_back : Stmt := topS 32
abbrev s_column_order : Stmt := topS 33
abbrev s__law_well : Stmt := topS 35
abbrev s__law_take : Stmt := topS 36
abbrev s__law_pick : Stmt := topS 37
abbrev s__law_same : Stmt := topS 38
abbrev s__law_shuffled : Stmt := topS 39
abbrev s__law_places : Stmt := topS 40
abbrev s__law_comes_back : Stmt := topS 41
abbrev s__law_text_right : Stmt := topS 42
abbrev s__law_number_right : Stmt := topS 43
abbrev s__law_order : Stmt := topS 44
abbrev s__law_round : Stmt := topS 45
abbrev s_law : Stmt := topS 46
structure Lw (K : PySem.W.Frag) (mg : Str → Option Value) : Prop where
  d_is_whole : DefAt K mg "is_whole" s_is_whole ["value"]
  d_is_between : DefAt K mg "is_between" s_is_between ["value", "low", "high"]
  d_is_tuple_of : DefAt K mg "is_tuple_of" s_is_tuple_of ["value", "many"]
  d_are_wholes : DefAt K mg "are_wholes" s_are_wholes ["value", "many"]
  d_is_text_of : DefAt K mg "is_text_of" s_is_text_of ["value", "signs"]
  d_is_order : DefAt K mg "is_order" s_is_order ["value"]
  d_columned_places : DefAt K mg "columned_places" s_columned_places ["size", "order"]
  d_signs_of : DefAt K mg "signs_of" s_signs_of ["number"]
  d_is_typed_text : DefAt K mg "is_typed_text" s_is_typed_text ["number", "value"]
  d_check_whole : DefAt K mg "check_whole" s_check_whole ["value", "low", "high"]
  d_check_text : DefAt K mg "check_text" s_check_text ["number", "text"]
  d_put_by : DefAt K mg "put_by" s_put_by ["text", "places"]
  d_put_back_by : DefAt K mg "put_back_by" s_put_back_by ["text", "places"]
  d_times_back : DefAt K mg "times_back" s_times_back ["places"]
  d_check_order : DefAt K mg "check_order" s_check_order ["order"]
  d_columned : DefAt K mg "columned" s_columned ["text", "order"]
  d_columned_back : DefAt K mg "columned_back" s_columned_back ["text", "order"]
  d_column_order : DefAt K mg "column_order" s_column_order ["number", "order"]
  d__law_well : DefAt K mg "_law_well" s__law_well ["script", "turn"]
  d__law_take : DefAt K mg "_law_take" s__law_take ["well", "many"]
  d__law_pick : DefAt K mg "_law_pick" s__law_pick ["well", "some"]
  d__law_same : DefAt K mg "_law_same" s__law_same ["told", "due"]
  d__law_shuffled : DefAt K mg "_law_shuffled" s__law_shuffled ["well", "some"]
  d__law_places : DefAt K mg "_law_places" s__law_places ["number", "order"]
  d__law_comes_back : DefAt K mg "_law_comes_back" s__law_comes_back ["places"]
  d__law_text_right : DefAt K mg "_law_text_right" s__law_text_right ["text", "order"]
  d__law_number_right : DefAt K mg "_law_number_right" s__law_number_right ["number", "order"]
  d__law_order : DefAt K mg "_law_order" s__law_order ["well"]
  d__law_round : DefAt K mg "_law_round" s__law_round ["well"]
  d_law : DefAt K mg "law" s_law ["script"]
  c_MOST_COLUMNS : GC K mg "MOST_COLUMNS" (.int 6)
  c_SIGNS : GC K mg "SIGNS" (.str SG)
  c_LONGEST : GC K mg "LONGEST" (.int 200)
  z_abs : mg "abs" = none
  z_all : mg "all" = none
  z_bool : mg "bool" = none
  z_dict : mg "dict" = none
  z_divmod : mg "divmod" = none
  z_int : mg "int" = none
  z_isinstance : mg "isinstance" = none
  z_len : mg "len" = none
  z_list : mg "list" = none
  z_max : mg "max" = none
  z_min : mg "min" = none
  z_range : mg "range" = none
  z_sorted : mg "sorted" = none
  z_str : mg "str" = none
  z_sum : mg "sum" = none
  z_tuple : mg "tuple" = none
  z_zip : mg "zip" = none
  g_gcd : mg "gcd" = some (.builtin "math.gcd")
theorem sc_is_whole : FnScope ["value"] ["value"] (defScope s_is_whole) := ⟨rfl, rfl, rfl, by decide +kernel, rfl, by decide +kernel, by decide +kernel⟩
theorem ok_is_whole {P : Program} {w : World} {K : PySem.W.Frag} {mg : Str → Option Value} {base : Heap} {k : Nat}  (L : Lw K mg) : Ck P w K mg base (k + 1) "is_whole" s_is_whole ["value"] S_is_whole := by
  refine ck_mk (N := ["value"]) (wb := (wb_is_whole)) L.d_is_whole sc_is_whole rfl (by decide) (fun ds q h => by first | ((repeat (obtain ⟨_, h⟩ := h)); subst_vars; rfl; done) | (rcases h with h | h <;> ((repeat (obtain ⟨_, h⟩ := h)); subst_vars; rfl; done)) | (rcases h with (h | h) | h <;> ((repeat (obtain ⟨_, h⟩ := h)); subst_vars; rfl; done)) | (rcases h with h | h | h <;> ((repeat (obtain ⟨_, h⟩ := h)); subst_vars; rfl; done)) | (rcases h with h | h | h | h <;> ((repeat (obtain ⟨_, h⟩ := h)); subst_vars; rfl; done))) (fun H0 pa cdv A outer s H E f hl hr => ?_) vc_is_whole
  have hu := units_of hr
  have nd := sc_is_whole.nd
  have hp : ∀ i, 1 ≤ i → pa.length ≤ i := fun i h => hl ▸ h
  exact (ds_one (d1_ret (de_and (de_isi .int rfl (by rfl) L.z_isinstance (by rfl) L.z_int (de_var 0)) (de_one (de_not (de_isi .bool rfl (by rfl) L.z_isinstance (by rfl) L.z_bool (de_var 0)))))))
theorem sc_is_tuple_of : FnScope ["value", "many"] ["value", "many"] (defScope s_is_tuple_of) := ⟨rfl, rfl, rfl, by decide +kernel, rfl, by decide +kernel, by decide +kernel⟩
theorem ok_is_tuple_of {P : Program} {w : World} {K : PySem.W.Frag} {mg : Str → Option Value} {base : Heap} {k : Nat}  (L : Lw K mg) : Ck P w K mg base (k + 1) "is_tuple_of" s_is_tuple_of ["value", "many"] S_is_tuple_ofN := by
  refine ck_mk (N := ["value", "many"]) (wb := (wb_is_tuple_ofN)) L.d_is_tuple_of sc_is_tuple_of rfl (by decide) (fun ds q h => by first | ((repeat (obtain ⟨_, h⟩ := h)); subst_vars; rfl; done) | (rcases h with h | h <;> ((repeat (obtain ⟨_, h⟩ := h)); subst_vars; rfl; done)) | (rcases h with (h | h) | h <;> ((repeat (obtain ⟨_, h⟩ := h)); subst_vars; rfl; done)) | (rcases h with h | h | h <;> ((repeat (obtain ⟨_, h⟩ := h)); subst_vars; rfl; done)) | (rcases h with h | h | h | h <;> ((repeat (obtain ⟨_, h⟩ := h)); subst_vars; rfl; done))) (fun H0 pa cdv A outer s H E f hl hr => ?_) vc_is_tuple_ofN
  have hu := units_of hr
  have nd := sc_is_tuple_of.nd
  have hp : ∀ i, 2 ≤ i → pa.length ≤ i := fun i h => hl ▸ h
  exact (ds_one (d1_ret (de_and (de_isiN .tuple rfl (by rfl) L.z_isinstance (by rfl) L.z_tuple (de_var 0)) (de_one (de_cm (cm_eq hu rfl) (r_lenN rfl L.z_len (by rfl) (da_v 0 da_nil)) (de_var 1))))))
theorem sc_is_text_of : FnScope ["value", "signs", "sign"] ["value", "signs"] (defScope s_is_text_of) := ⟨rfl, rfl, rfl, by decide +kernel, rfl, by decide +kernel, by decide +kernel⟩
theorem ok_is_text_of {P : Program} {w : World} {K : PySem.W.Frag} {mg : Str → Option Value} {base : Heap} {k : Nat}  (L : Lw K mg) : Ck P w K mg base (k + 1) "is_text_of" s_is_text_of ["value", "signs"] S_is_text_of := by
  refine ck_mk (N := ["value", "signs", "sign"]) (wb := (wb_is_text_of)) L.d_is_text_of sc_is_text_of rfl (by decide) (fun ds q h => by first | ((repeat (obtain ⟨_, h⟩ := h)); subst_vars; rfl; done) | (rcases h with h | h <;> ((repeat (obtain ⟨_, h⟩ := h)); subst_vars; rfl; done)) | (rcases h with (h | h) | h <;> ((repeat (obtain ⟨_, h⟩ := h)); subst_vars; rfl; done)) | (rcases h with h | h | h <;> ((repeat (obtain ⟨_, h⟩ := h)); subst_vars; rfl; done)) | (rcases h with h | h | h | h <;> ((repeat (obtain ⟨_, h⟩ := h)); subst_vars; rfl; done))) (fun H0 pa cdv A outer s H E f hl hr => ?_) vc_is_text_of
  have hu := units_of hr
  have nd := sc_is_text_of.nd
  have hp : ∀ i, 2 ≤ i → pa.length ≤ i := fun i h => hl ▸ h
  exact (ds_one (d1_ret (de_and (de_isi .str rfl (by rfl) L.z_isinstance (by rfl) L.z_str (de_var 0)) (de_one (r_all rfl rfl L.z_all (by rfl) (da_e (de_lc rfl nd (di_v 0 rfl) (blkOk_by (own := [("sign", 2)]) (by rfl)) (fun s H C cl fp => (dgc_name 2 (hp 2 (by decide)) nd)) (fun s H C cl fp => .nil) (fun s H C cl fp => (de_cm (cm_in rfl) (de_var 2) (de_var 1)))) da_nil))))))
theorem sc_columned_places : FnScope ["size", "order", "found", "rank"] ["size", "order"] (defScope s_columned_places) := ⟨rfl, rfl, rfl, by decide +kernel, rfl, by decide +kernel, by decide +kernel⟩
theorem ok_columned_places {P : Program} {w : World} {K : PySem.W.Frag} {mg : Str → Option Value} {base : Heap} {k : Nat}  (L : Lw K mg) : Ck P w K mg base (k + 1) "columned_places" s_columned_places ["size", "order"] S_columned_places := by
  refine ck_mk (N := ["size", "order", "found", "rank"]) (wb := (wb_columned_places)) L.d_columned_places sc_columned_places rfl (by decide) (fun ds q h => by first | ((repeat (obtain ⟨_, h⟩ := h)); subst_vars; rfl; done) | (rcases h with h | h <;> ((repeat (obtain ⟨_, h⟩ := h)); subst_vars; rfl; done)) | (rcases h with (h | h) | h <;> ((repeat (obtain ⟨_, h⟩ := h)); subst_vars; rfl; done)) | (rcases h with h | h | h <;> ((repeat (obtain ⟨_, h⟩ := h)); subst_vars; rfl; done)) | (rcases h with h | h | h | h <;> ((repeat (obtain ⟨_, h⟩ := h)); subst_vars; rfl; done))) (fun H0 pa cdv A outer s H E f hl hr => ?_) vc_columned_places
  have hu := units_of hr
  have nd := sc_columned_places.nd
  have hp : ∀ i, 2 ≤ i → pa.length ≤ i := fun i h => hl ▸ h
  exact (ds_cons (d1_set (hp 2 (by decide)) (de_lst da_nil) nd)
 (ds_cons (d1_for PassesOwn.never rfl (di_range1 (by rfl) L.z_range (da_e (r_lenN rfl L.z_len (by rfl) (da_v 1 da_nil)) da_nil)) (dg_name 3 (hp 3 (by decide)) nd)
 (ds_one (d1_expr (r_extend 2 rfl (de_listRg3 rfl (by rfl) L.z_list (by rfl) L.z_range (da_e (de_indexT (de_var 1) (da_v 3 da_nil)) (da_v 0 (da_e (r_lenN rfl L.z_len (by rfl) (da_v 1 da_nil)) da_nil))) rfl rfl (by rfl))))))
 (ds_one (d1_retv 2 (hp 2 (by decide))))))
theorem sc_signs_of : FnScope ["number"] ["number"] (defScope s_signs_of) := ⟨rfl, rfl, rfl, by decide +kernel, rfl, by decide +kernel, by decide +kernel⟩
theorem ok_signs_of {P : Program} {w : World} {K : PySem.W.Frag} {mg : Str → Option Value} {base : Heap} {k : Nat}  (L : Lw K mg) : Ck P w K mg base (k + 1) "signs_of" s_signs_of ["number"] S_signs_of := by
  refine ck_mk (N := ["number"]) (wb := (wb_signs_of)) L.d_signs_of sc_signs_of rfl (by decide) (fun ds q h => by first | ((repeat (obtain ⟨_, h⟩ := h)); subst_vars; rfl; done) | (rcases h with h | h <;> ((repeat (obtain ⟨_, h⟩ := h)); subst_vars; rfl; done)) | (rcases h with (h | h) | h <;> ((repeat (obtain ⟨_, h⟩ := h)); subst_vars; rfl; done)) | (rcases h with h | h | h <;> ((repeat (obtain ⟨_, h⟩ := h)); subst_vars; rfl; done)) | (rcases h with h | h | h | h <;> ((repeat (obtain ⟨_, h⟩ := h)); subst_vars; rfl; done))) (fun H0 pa cdv A outer s H E f hl hr => ?_) vc_signs_of
  have hu := units_of hr
  have nd := sc_signs_of.nd
  have hp : ∀ i, 1 ≤ i → pa.length ≤ i := fun i h => hl ▸ h
  exact (ds_one (d1_ret (de_slice rfl (de_gc L.c_SIGNS rfl (by rfl)) do_no (do_pt (de_var 0)))))
theorem sc_put_by : FnScope ["text", "places", "place"] ["text", "places"] (defScope s_put_by) := ⟨rfl, rfl, rfl, by decide +kernel, rfl, by decide +kernel, by decide +kernel⟩
theorem ok_put_by {P : Program} {w : World} {K : PySem.W.Frag} {mg : Str → Option Value} {base : Heap} {k : Nat}  (L : Lw K mg) : Ck P w K mg base (k + 1) "put_by" s_put_by ["text", "places"] S_put_by := by
  refine ck_mk (N := ["text", "places", "place"]) (wb := (wb_put_by)) L.d_put_by sc_put_by rfl (by decide) (fun ds q h => by first | ((repeat (obtain ⟨_, h⟩ := h)); subst_vars; rfl; done) | (rcases h with h | h <;> ((repeat (obtain ⟨_, h⟩ := h)); subst_vars; rfl; done)) | (rcases h with (h | h) | h <;> ((repeat (obtain ⟨_, h⟩ := h)); subst_vars; rfl; done)) | (rcases h with h | h | h <;> ((repeat (obtain ⟨_, h⟩ := h)); subst_vars; rfl; done)) | (rcases h with h | h | h | h <;> ((repeat (obtain ⟨_, h⟩ := h)); subst_vars; rfl; done))) (fun H0 pa cdv A outer s H E f hl hr => ?_) vc_put_by
  have hu := units_of hr
  have nd := sc_put_by.nd
  have hp : ∀ i, 2 ≤ i → pa.length ≤ i := fun i h => hl ▸ h
  exact (ds_one (d1_ret (r_join rfl (de_str (l := [])) (da_e (de_lc rfl nd (di_v 1 rfl) (blkOk_by (own := [("place", 2)]) (by rfl)) (fun s H C cl fp => (dgc_name 2 (hp 2 (by decide)) nd)) (fun s H C cl fp => .nil) (fun s H C cl fp => (r_ix rfl (de_var 0) (de_var 2)))) da_nil))))
theorem sc_put_back_by : FnScope ["text", "places", "found", "place"] ["text", "places"] (defScope s_put_back_by) := ⟨rfl, rfl, rfl, by decide +kernel, rfl, by decide +kernel, by decide +kernel⟩
theorem ok_put_back_by {P : Program} {w : World} {K : PySem.W.Frag} {mg : Str → Option Value} {base : Heap} {k : Nat}  (L : Lw K mg) : Ck P w K mg base (k + 1) "put_back_by" s_put_back_by ["text", "places"] S_put_back_by := by
  refine ck_mk (N := ["text", "places", "found", "place"]) (wb := (wb_put_back_by)) L.d_put_back_by sc_put_back_by rfl (by decide) (fun ds q h => by first | ((repeat (obtain ⟨_, h⟩ := h)); subst_vars; rfl; done) | (rcases h with h | h <;> ((repeat (obtain ⟨_, h⟩ := h)); subst_vars; rfl; done)) | (rcases h with (h | h) | h <;> ((repeat (obtain ⟨_, h⟩ := h)); subst_vars; rfl; done)) | (rcases h with h | h | h <;> ((repeat (obtain ⟨_, h⟩ := h)); subst_vars; rfl; done)) | (rcases h with h | h | h | h <;> ((repeat (obtain ⟨_, h⟩ := h)); subst_vars; rfl; done))) (fun H0 pa cdv A outer s H E f hl hr => ?_) vc_put_back_by
  have hu := units_of hr
  have nd := sc_put_back_by.nd
  have hp : ∀ i, 2 ≤ i → pa.length ≤ i := fun i h => hl ▸ h
  exact (ds_cons (d1_set (hp 2 (by decide)) (de_dictZip rfl L.z_dict L.z_zip (da_v 1 (da_v 0 da_nil)) rfl (by rfl) (by rfl)) nd)
 (ds_one (d1_ret (r_join rfl (de_str (l := [])) (da_e (de_lc rfl nd (di_range1 (by rfl) L.z_range (da_e (r_len rfl L.z_len (by rfl) (da_v 0 da_nil)) da_nil)) (blkOk_by (own := [("place", 3)]) (by rfl)) (fun s H C cl fp => (dgc_name 3 (hp 3 (by decide)) nd)) (fun s H C cl fp => .nil) (fun s H C cl fp => (r_dix hu (de_var 2) (de_var 3)))) da_nil)))))
theorem sc_times_back : FnScope ["places", "known", "found", "start", "length", "here"] ["places"] (defScope s_times_back) := ⟨rfl, rfl, rfl, by decide +kernel, rfl, by decide +kernel, by decide +kernel⟩
theorem ok_times_back {P : Program} {w : World} {K : PySem.W.Frag} {mg : Str → Option Value} {base : Heap} {k : Nat}  (L : Lw K mg) : Ck P w K mg base (k + 1) "times_back" s_times_back ["places"] S_times_back := by
  refine ck_mk (N := ["places", "known", "found", "start", "length", "here"]) (wb := (wb_times_back)) L.d_times_back sc_times_back rfl (by decide) (fun ds q h => by first | ((repeat (obtain ⟨_, h⟩ := h)); subst_vars; rfl; done) | (rcases h with h | h <;> ((repeat (obtain ⟨_, h⟩ := h)); subst_vars; rfl; done)) | (rcases h with (h | h) | h <;> ((repeat (obtain ⟨_, h⟩ := h)); subst_vars; rfl; done)) | (rcases h with h | h | h <;> ((repeat (obtain ⟨_, h⟩ := h)); subst_vars; rfl; done)) | (rcases h with h | h | h | h <;> ((repeat (obtain ⟨_, h⟩ := h)); subst_vars; rfl; done))) (fun H0 pa cdv A outer s H E f hl hr => ?_) vc_times_back
  have hu := units_of hr
  have nd := sc_times_back.nd
  have hp : ∀ i, 1 ≤ i → pa.length ≤ i := fun i h => hl ▸ h
  exact (ds_cons (d1_par (hp 1 (by decide)) (hp 2 (by decide)) (da_e de_dnew (da_e de_int da_nil)) rfl nd)
 (ds_cons (d1_for PassesOwn.never rfl (di_range1 (by rfl) L.z_range (da_e (r_len rfl L.z_len (by rfl) (da_v 0 da_nil)) da_nil)) (dg_name 3 (hp 3 (by decide)) nd)
 (ds_cons (d1_par (hp 4 (by decide)) (hp 5 (by decide)) (da_e de_int (da_v 3 da_nil)) rfl nd)
 (ds_cons (d1_while PassesOwn.never (dt_cm (cm_dnotIn hu) (de_var 5) (de_var 1))
 (ds_cons (d1_asg de_bl (dg_put hu 1 (de_var 5)))
 (ds_one (d1_par (hp 4 (by decide)) (hp 5 (by decide)) (da_e (de_bi (bi_add rfl) (de_var 4) de_int) (da_e (r_ix rfl (de_var 0) (de_var 5)) da_nil)) rfl nd))))
 (ds_one (d1_set (hp 2 (by decide)) (de_if (dt_cm cm_gt (de_var 4) de_int) (de_bi (bi_mul) (de_bi (bi_fdiv) (de_var 2) (r_gcd L.g_gcd (by rfl) (da_v 2 (da_v 4 da_nil)))) (de_var 4)) (de_var 2)) nd)))))
 (ds_one (d1_retv 2 (hp 2 (by decide))))))
theorem sc__law_well : FnScope ["script", "turn", "own", "stir", "cell"] ["script", "turn"] (defScope s__law_well) := ⟨rfl, rfl, rfl, by decide +kernel, rfl, by decide +kernel, by decide +kernel⟩
theorem ok__law_well {P : Program} {w : World} {K : PySem.W.Frag} {mg : Str → Option Value} {base : Heap} {k : Nat}  (L : Lw K mg) : Ck P w K mg base (k + 1) "_law_well" s__law_well ["script", "turn"] S__law_well := by
  refine ck_mk (N := ["script", "turn", "own", "stir", "cell"]) (wb := (wb__law_well)) L.d__law_well sc__law_well rfl (by decide) (fun ds q h => by first | ((repeat (obtain ⟨_, h⟩ := h)); subst_vars; rfl; done) | (rcases h with h | h <;> ((repeat (obtain ⟨_, h⟩ := h)); subst_vars; rfl; done)) | (rcases h with (h | h) | h <;> ((repeat (obtain ⟨_, h⟩ := h)); subst_vars; rfl; done)) | (rcases h with h | h | h <;> ((repeat (obtain ⟨_, h⟩ := h)); subst_vars; rfl; done)) | (rcases h with h | h | h | h <;> ((repeat (obtain ⟨_, h⟩ := h)); subst_vars; rfl; done))) (fun H0 pa cdv A outer s H E f hl hr => ?_) vc__law_well
  have hu := units_of hr
  have nd := sc__law_well.nd
  have hp : ∀ i, 2 ≤ i → pa.length ≤ i := fun i h => hl ▸ h
  exact (ds_cons (d1_set (hp 2 (by decide)) (de_if (dt_cm cm_lt (de_var 1) (r_len rfl L.z_len (by rfl) (da_v 0 da_nil))) (r_int L.z_int (by rfl) (da_e (r_ix rfl (de_var 0) (de_var 1)) da_nil)) (de_bi (bi_add rfl) (de_bi (bi_add rfl) (de_bi (bi_mul) de_int (de_var 1)) (de_bi (bi_mod) (r_int L.z_int (by rfl) (da_e (r_sum rfl rfl L.z_sum (by rfl) (da_e (de_slice rfl (de_var 0) do_no (do_pt de_int)) da_nil)) da_nil)) de_int)) de_int)) nd)
 (ds_cons (d1_set (hp 3 (by decide)) (de_bi (bi_add rfl) de_int (de_bi (bi_mul) de_int (de_var 1))) nd)
 (ds_cons (d1_for PassesOwn.never rfl (di_e rfl (de_bi (bi_add rfl) (de_slice rfl (de_var 0) do_no (do_pt de_int)) (de_lst (da_v 2 da_nil)))) (dg_name 4 (hp 4 (by decide)) nd)
 (ds_one (d1_set (hp 3 (by decide)) (de_bi (bi_mod) (r_int L.z_int (by rfl) (da_e (de_bi (bi_add rfl) (de_bi (bi_add rfl) (de_bi (bi_mul) (de_var 3) de_int) (de_bi (bi_mod) (r_int L.z_int (by rfl) (da_v 4 da_nil)) de_int)) de_int) da_nil)) de_int) nd)))
 (ds_one (d1_ret (de_lst (da_e (de_if (dw_t (dw_or (dt_cm cm_lt (de_var 2) de_int) (dw_or1 (dt_cm cm_ge (de_var 2) (de_bi (bi_pow) de_int de_int))))) (r_abs L.z_abs (by rfl) (da_v 2 da_nil)) de_int) (da_v 3 (da_e de_int da_nil)))))))))
theorem sc__law_take : FnScope ["well", "many", "figure", "by"] ["well", "many"] (defScope s__law_take) := ⟨rfl, rfl, rfl, by decide +kernel, rfl, by decide +kernel, by decide +kernel⟩
theorem ok__law_take {P : Program} {w : World} {K : PySem.W.Frag} {mg : Str → Option Value} {base : Heap} {k : Nat}  (L : Lw K mg) : Ck P w K mg base (k + 1) "_law_take" s__law_take ["well", "many"] S__law_take := by
  refine ck_mk (N := ["well", "many", "figure", "by"]) (wb := (wb__law_take)) L.d__law_take sc__law_take rfl (by decide) (fun ds q h => by first | ((repeat (obtain ⟨_, h⟩ := h)); subst_vars; rfl; done) | (rcases h with h | h <;> ((repeat (obtain ⟨_, h⟩ := h)); subst_vars; rfl; done)) | (rcases h with (h | h) | h <;> ((repeat (obtain ⟨_, h⟩ := h)); subst_vars; rfl; done)) | (rcases h with h | h | h <;> ((repeat (obtain ⟨_, h⟩ := h)); subst_vars; rfl; done)) | (rcases h with h | h | h | h <;> ((repeat (obtain ⟨_, h⟩ := h)); subst_vars; rfl; done))) (fun H0 pa cdv A outer s H E f hl hr => ?_) vc__law_take
  have hu := units_of hr
  have nd := sc__law_take.nd
  have hp : ∀ i, 2 ≤ i → pa.length ≤ i := fun i h => hl ▸ h
  exact (ds_cons (d1_if (dt_cm cm_gt (r_ix rfl (de_var 0) de_int) de_int)
 (ds_cons (d1_asg (r_divmod L.z_divmod (by rfl) (da_e (r_ix rfl (de_var 0) de_int) (da_v 1 da_nil))) (dg_tup rfl rfl (dgs_cons (dg_sub 0 de_int) (dgs_cons (dg_name 2 (hp 2 (by decide)) nd) dgs_nil))))
 (ds_one (d1_retv 2 (hp 2 (by decide)))))
 ds_nil)
 (ds_cons (d1_asg (de_bi (bi_add rfl) (r_ix rfl (de_var 0) de_int) de_int) (dg_sub 0 de_int))
 (ds_cons (d1_set (hp 3 (by decide)) (de_bi (bi_add rfl) (de_bi (bi_mod) (r_int L.z_int (by rfl) (da_e (r_ix rfl (de_var 0) de_int) da_nil)) de_int) de_int) nd)
 (ds_cons (d1_asg (de_bi (bi_mod) (r_int L.z_int (by rfl) (da_e (de_bi (bi_add rfl) (de_bi (bi_add rfl) (de_bi (bi_mul) (r_ix rfl (de_var 0) de_int) (de_var 3)) (de_bi (bi_mul) de_int (r_ix rfl (de_var 0) de_int))) de_int) da_nil)) de_int) (dg_sub 0 de_int))
 (ds_one (d1_ret (de_bi (bi_mod) (r_int L.z_int (by rfl) (da_e (de_bi (bi_fdiv) (r_ix rfl (de_var 0) de_int) de_int) da_nil)) (de_var 1))))))))
theorem sc__law_places : FnScope ["number", "order", "made", "turn", "at"] ["number", "order"] (defScope s__law_places) := ⟨rfl, rfl, rfl, by decide +kernel, rfl, by decide +kernel, by decide +kernel⟩
theorem ok__law_places {P : Program} {w : World} {K : PySem.W.Frag} {mg : Str → Option Value} {base : Heap} {k : Nat}  (L : Lw K mg) : Ck P w K mg base (k + 1) "_law_places" s__law_places ["number", "order"] S__law_places := by
  refine ck_mk (N := ["number", "order", "made", "turn", "at"]) (wb := (wb__law_places)) L.d__law_places sc__law_places rfl (by decide) (fun ds q h => by first | ((repeat (obtain ⟨_, h⟩ := h)); subst_vars; rfl; done) | (rcases h with h | h <;> ((repeat (obtain ⟨_, h⟩ := h)); subst_vars; rfl; done)) | (rcases h with (h | h) | h <;> ((repeat (obtain ⟨_, h⟩ := h)); subst_vars; rfl; done)) | (rcases h with h | h | h <;> ((repeat (obtain ⟨_, h⟩ := h)); subst_vars; rfl; done)) | (rcases h with h | h | h | h <;> ((repeat (obtain ⟨_, h⟩ := h)); subst_vars; rfl; done))) (fun H0 pa cdv A outer s H E f hl hr => ?_) vc__law_places
  have hu := units_of hr
  have nd := sc__law_places.nd
  have hp : ∀ i, 2 ≤ i → pa.length ≤ i := fun i h => hl ▸ h
  exact (ds_cons (d1_set (hp 2 (by decide)) (de_lst da_nil) nd)
 (ds_cons (d1_for PassesOwn.never rfl (di_range1 (by rfl) L.z_range (da_e (r_lenN rfl L.z_len (by rfl) (da_v 1 da_nil)) da_nil)) (dg_name 3 (hp 3 (by decide)) nd)
 (ds_one (d1_expr (r_extend 2 rfl (de_lc rfl nd (di_range1 (by rfl) L.z_range (da_v 0 da_nil)) (blkOk_by (own := [("at", 4)]) (by rfl)) (fun s H C cl fp => (dgc_name 4 (hp 4 (by decide)) nd)) (fun s H C cl fp => (.one (dt_cm (cm_eq hu rfl) (de_bi (bi_mod) (r_int L.z_int (by rfl) (da_v 4 da_nil)) (r_lenN rfl L.z_len (by rfl) (da_v 1 da_nil))) (de_indexT (de_var 1) (da_v 3 da_nil))))) (fun s H C cl fp => (de_var 4)))))))
 (ds_one (d1_retv 2 (hp 2 (by decide))))))
theorem sc__law_comes_back : FnScope ["places", "made", "gone", "start", "here", "many", "one", "two"] ["places"] (defScope s__law_comes_back) := ⟨rfl, rfl, rfl, by decide +kernel, rfl, by decide +kernel, by decide +kernel⟩
theorem ok__law_comes_back {P : Program} {w : World} {K : PySem.W.Frag} {mg : Str → Option Value} {base : Heap} {k : Nat}  (L : Lw K mg) : Ck P w K mg base (k + 1) "_law_comes_back" s__law_comes_back ["places"] S__law_comes_back := by
  refine ck_mk (N := ["places", "made", "gone", "start", "here", "many", "one", "two"]) (wb := (wb__law_comes_back)) L.d__law_comes_back sc__law_comes_back rfl (by decide) (fun ds q h => by first | ((repeat (obtain ⟨_, h⟩ := h)); subst_vars; rfl; done) | (rcases h with h | h <;> ((repeat (obtain ⟨_, h⟩ := h)); subst_vars; rfl; done)) | (rcases h with (h | h) | h <;> ((repeat (obtain ⟨_, h⟩ := h)); subst_vars; rfl; done)) | (rcases h with h | h | h <;> ((repeat (obtain ⟨_, h⟩ := h)); subst_vars; rfl; done)) | (rcases h with h | h | h | h <;> ((repeat (obtain ⟨_, h⟩ := h)); subst_vars; rfl; done))) (fun H0 pa cdv A outer s H E f hl hr => ?_) vc__law_comes_back
  have hu := units_of hr
  have nd := sc__law_comes_back.nd
  have hp : ∀ i, 1 ≤ i → pa.length ≤ i := fun i h => hl ▸ h
  exact (ds_cons (d1_par (hp 1 (by decide)) (hp 2 (by decide)) (da_e de_int (da_e de_dnew da_nil)) rfl nd)
 (ds_cons (d1_for PassesOwn.never rfl (di_range1 (by rfl) L.z_range (da_e (r_len rfl L.z_len (by rfl) (da_v 0 da_nil)) da_nil)) (dg_name 3 (hp 3 (by decide)) nd)
 (ds_cons (d1_par (hp 4 (by decide)) (hp 5 (by decide)) (da_v 3 (da_e de_int da_nil)) rfl nd)
 (ds_cons (d1_while PassesOwn.never (dt_not (dt_val (de_dget2 hu (de_var 2) (de_var 4) de_bl)))
 (ds_cons (d1_asg de_bl (dg_put hu 2 (de_var 4)))
 (ds_one (d1_par (hp 4 (by decide)) (hp 5 (by decide)) (da_e (r_ix rfl (de_var 0) (de_var 4)) (da_e (de_bi (bi_add rfl) (de_var 5) de_int) da_nil)) rfl nd))))
 (ds_cons (d1_par (hp 6 (by decide)) (hp 7 (by decide)) (da_v 1 (da_v 5 da_nil)) rfl nd)
 (ds_cons (d1_while PassesOwn.never (dt_cm cm_gt (de_var 7) de_int)
 (ds_one (d1_par (hp 6 (by decide)) (hp 7 (by decide)) (da_v 7 (da_e (de_bi (bi_mod) (r_int L.z_int (by rfl) (da_v 6 da_nil)) (de_var 7)) da_nil)) rfl nd)))
 (ds_one (d1_set (hp 1 (by decide)) (de_if (dt_cm cm_gt (de_var 5) de_int) (de_bi (bi_fdiv) (de_bi (bi_mul) (de_var 1) (de_var 5)) (de_var 6)) (de_var 1)) nd)))))))
 (ds_one (d1_retv 1 (hp 1 (by decide))))))
theorem sc_is_between : FnScope ["value", "low", "high"] ["value", "low", "high"] (defScope s_is_between) := ⟨rfl, rfl, rfl, by decide +kernel, rfl, by decide +kernel, by decide +kernel⟩
theorem ok_is_between {P : Program} {w : World} {K : PySem.W.Frag} {mg : Str → Option Value} {base : Heap} {k : Nat}  (L : Lw K mg) : Ck P w K mg base (k + 2) "is_between" s_is_between ["value", "low", "high"] S_is_between := by
  have c_is_whole : Ck P w K mg base (k + 1) "is_whole" s_is_whole ["value"] S_is_whole := ok_is_whole (k := k + 0) L
  refine ck_mk (N := ["value", "low", "high"]) (wb := (wb_is_between)) L.d_is_between sc_is_between rfl (by decide) (fun ds q h => by first | ((repeat (obtain ⟨_, h⟩ := h)); subst_vars; rfl; done) | (rcases h with h | h <;> ((repeat (obtain ⟨_, h⟩ := h)); subst_vars; rfl; done)) | (rcases h with (h | h) | h <;> ((repeat (obtain ⟨_, h⟩ := h)); subst_vars; rfl; done)) | (rcases h with h | h | h <;> ((repeat (obtain ⟨_, h⟩ := h)); subst_vars; rfl; done)) | (rcases h with h | h | h | h <;> ((repeat (obtain ⟨_, h⟩ := h)); subst_vars; rfl; done))) (fun H0 pa cdv A outer s H E f hl hr => ?_) vc_is_between
  have hu := units_of hr
  have nd := sc_is_between.nd
  have hp : ∀ i, 3 ≤ i → pa.length ≤ i := fun i h => hl ▸ h
  exact (ds_one (d1_ret (de_and (de_ck c_is_whole hr rfl (by rfl) (da_v 0 da_nil)) (de_one (de_ch cm_le cm_le (de_var 1) (de_var 0) (de_var 2))))))
theorem sc_are_wholes : FnScope ["value", "many", "each"] ["value", "many"] (defScope s_are_wholes) := ⟨rfl, rfl, rfl, by decide +kernel, rfl, by decide +kernel, by decide +kernel⟩
theorem ok_are_wholes {P : Program} {w : World} {K : PySem.W.Frag} {mg : Str → Option Value} {base : Heap} {k : Nat}  (L : Lw K mg) : Ck P w K mg base (k + 2) "are_wholes" s_are_wholes ["value", "many"] S_are_wholes := by
  have c_is_tuple_of : Ck P w K mg base (k + 1) "is_tuple_of" s_is_tuple_of ["value", "many"] S_is_tuple_ofN := ok_is_tuple_of (k := k + 0) L
  have c_is_whole : Ck P w K mg base (k + 1) "is_whole" s_is_whole ["value"] S_is_whole := ok_is_whole (k := k + 0) L
  refine ck_mk (N := ["value", "many", "each"]) (wb := (wb_are_wholes)) L.d_are_wholes sc_are_wholes rfl (by decide) (fun ds q h => by first | ((repeat (obtain ⟨_, h⟩ := h)); subst_vars; rfl; done) | (rcases h with h | h <;> ((repeat (obtain ⟨_, h⟩ := h)); subst_vars; rfl; done)) | (rcases h with (h | h) | h <;> ((repeat (obtain ⟨_, h⟩ := h)); subst_vars; rfl; done)) | (rcases h with h | h | h <;> ((repeat (obtain ⟨_, h⟩ := h)); subst_vars; rfl; done)) | (rcases h with h | h | h | h <;> ((repeat (obtain ⟨_, h⟩ := h)); subst_vars; rfl; done))) (fun H0 pa cdv A outer s H E f hl hr => ?_) vc_are_wholes
  have hu := units_of hr
  have nd := sc_are_wholes.nd
  have hp : ∀ i, 2 ≤ i → pa.length ≤ i := fun i h => hl ▸ h
  exact (ds_one (d1_ret (de_and (de_ck c_is_tuple_of hr rfl (by rfl) (da_v 0 (da_v 1 da_nil))) (de_one (r_all rfl rfl L.z_all (by rfl) (da_e (de_lc rfl nd (di_v 0 rfl) (blkOk_by (own := [("each", 2)]) (by rfl)) (fun s H C cl fp => (dgc_name 2 (hp 2 (by decide)) nd)) (fun s H C cl fp => .nil) (fun s H C cl fp => (de_ck c_is_whole hr rfl (by rfl) (da_v 2 da_nil)))) da_nil))))))
theorem sc_is_typed_text : FnScope ["number", "value"] ["number", "value"] (defScope s_is_typed_text) := ⟨rfl, rfl, rfl, by decide +kernel, rfl, by decide +kernel, by decide +kernel⟩
theorem ok_is_typed_text {P : Program} {w : World} {K : PySem.W.Frag} {mg : Str → Option Value} {base : Heap} {k : Nat}  (L : Lw K mg) : Ck P w K mg base (k + 2) "is_typed_text" s_is_typed_text ["number", "value"] S_is_typed_textC := by
  have c_is_text_of : Ck P w K mg base (k + 1) "is_text_of" s_is_text_of ["value", "signs"] S_is_text_of := ok_is_text_of (k := k + 0) L
  have c_signs_of : Ck P w K mg base (k + 1) "signs_of" s_signs_of ["number"] S_signs_of := ok_signs_of (k := k + 0) L
  refine ck_mk (N := ["number", "value"]) (wb := (wb_is_typed_textC)) L.d_is_typed_text sc_is_typed_text rfl (by decide) (fun ds q h => by first | ((repeat (obtain ⟨_, h⟩ := h)); subst_vars; rfl; done) | (rcases h with h | h <;> ((repeat (obtain ⟨_, h⟩ := h)); subst_vars; rfl; done)) | (rcases h with (h | h) | h <;> ((repeat (obtain ⟨_, h⟩ := h)); subst_vars; rfl; done)) | (rcases h with h | h | h <;> ((repeat (obtain ⟨_, h⟩ := h)); subst_vars; rfl; done)) | (rcases h with h | h | h | h <;> ((repeat (obtain ⟨_, h⟩ := h)); subst_vars; rfl; done))) (fun H0 pa cdv A outer s H E f hl hr => ?_) vc_is_typed_textC
  have hu := units_of hr
  have nd := sc_is_typed_text.nd
  have hp : ∀ i, 2 ≤ i → pa.length ≤ i := fun i h => hl ▸ h
  exact (ds_one (d1_ret (de_and (de_ck c_is_text_of hr rfl (by rfl) (da_v 1 (da_e (de_ck c_signs_of hr rfl (by rfl) (da_v 0 da_nil)) da_nil))) (de_one (de_cm cm_le (r_len rfl L.z_len (by rfl) (da_v 1 da_nil)) (de_gc L.c_LONGEST rfl (by rfl)))))))
theorem sc__law_pick : FnScope ["well", "some"] ["well", "some"] (defScope s__law_pick) := ⟨rfl, rfl, rfl, by decide +kernel, rfl, by decide +kernel, by decide +kernel⟩
theorem ok__law_pick {P : Program} {w : World} {K : PySem.W.Frag} {mg : Str → Option Value} {base : Heap} {k : Nat}  (L : Lw K mg) : Ck P w K mg base (k + 2) "_law_pick" s__law_pick ["well", "some"] S__law_pickC := by
  have c__law_take : Ck P w K mg base (k + 1) "_law_take" s__law_take ["well", "many"] S__law_take := ok__law_take (k := k + 0) L
  refine ck_mk (N := ["well", "some"]) (wb := (wb__law_pickC)) L.d__law_pick sc__law_pick rfl (by decide) (fun ds q h => by first | ((repeat (obtain ⟨_, h⟩ := h)); subst_vars; rfl; done) | (rcases h with h | h <;> ((repeat (obtain ⟨_, h⟩ := h)); subst_vars; rfl; done)) | (rcases h with (h | h) | h <;> ((repeat (obtain ⟨_, h⟩ := h)); subst_vars; rfl; done)) | (rcases h with h | h | h <;> ((repeat (obtain ⟨_, h⟩ := h)); subst_vars; rfl; done)) | (rcases h with h | h | h | h <;> ((repeat (obtain ⟨_, h⟩ := h)); subst_vars; rfl; done))) (fun H0 pa cdv A outer s H E f hl hr => ?_) vc__law_pickC
  have hu := units_of hr
  have nd := sc__law_pick.nd
  have hp : ∀ i, 2 ≤ i → pa.length ≤ i := fun i h => hl ▸ h
  exact (ds_one (d1_ret (r_ixv 1 rfl (de_ck c__law_take hr rfl (by rfl) (da_v 0 (da_e (r_len rfl L.z_len (by rfl) (da_v 1 da_nil)) da_nil))))))
theorem sc__law_shuffled : FnScope ["well", "some", "left", "made"] ["well", "some"] (defScope s__law_shuffled) := ⟨rfl, rfl, rfl, by decide +kernel, rfl, by decide +kernel, by decide +kernel⟩
theorem ok__law_shuffled {P : Program} {w : World} {K : PySem.W.Frag} {mg : Str → Option Value} {base : Heap} {k : Nat}  (L : Lw K mg) : Ck P w K mg base (k + 2) "_law_shuffled" s__law_shuffled ["well", "some"] S__law_shuffledI := by
  have c__law_take : Ck P w K mg base (k + 1) "_law_take" s__law_take ["well", "many"] S__law_take := ok__law_take (k := k + 0) L
  refine ck_mk (N := ["well", "some", "left", "made"]) (wb := (wb__law_shuffledI)) L.d__law_shuffled sc__law_shuffled rfl (by decide) (fun ds q h => by first | ((repeat (obtain ⟨_, h⟩ := h)); subst_vars; rfl; done) | (rcases h with h | h <;> ((repeat (obtain ⟨_, h⟩ := h)); subst_vars; rfl; done)) | (rcases h with (h | h) | h <;> ((repeat (obtain ⟨_, h⟩ := h)); subst_vars; rfl; done)) | (rcases h with h | h | h <;> ((repeat (obtain ⟨_, h⟩ := h)); subst_vars; rfl; done)) | (rcases h with h | h | h | h <;> ((repeat (obtain ⟨_, h⟩ := h)); subst_vars; rfl; done))) (fun H0 pa cdv A outer s H E f hl hr => ?_) vc__law_shuffledI
  have hu := units_of hr
  have nd := sc__law_shuffled.nd
  have hp : ∀ i, 2 ≤ i → pa.length ≤ i := fun i h => hl ▸ h
  exact (ds_cons (d1_par (hp 2 (by decide)) (hp 3 (by decide)) (da_e (r_list rfl rfl L.z_list (by rfl) (da_v 1 da_nil)) (da_e (de_lst da_nil) da_nil)) rfl nd)
 (ds_cons (d1_while PassesOwn.never (dt_cm (cm_ne hu rfl) (de_var 2) (de_lst da_nil))
 (ds_one (d1_expr (r_append 3 rfl (da_e (r_pop 2 rfl (da_e (de_ck c__law_take hr rfl (by rfl) (da_v 0 (da_e (r_len rfl L.z_len (by rfl) (da_v 2 da_nil)) da_nil))) da_nil)) da_nil)))))
 (ds_one (d1_retv 3 (hp 3 (by decide))))))
theorem sc_is_order : FnScope ["value"] ["value"] (defScope s_is_order) := ⟨rfl, rfl, rfl, by decide +kernel, rfl, by decide +kernel, by decide +kernel⟩
theorem ok_is_order {P : Program} {w : World} {K : PySem.W.Frag} {mg : Str → Option Value} {base : Heap} {k : Nat}  (L : Lw K mg) : Ck P w K mg base (k + 3) "is_order" s_is_order ["value"] S_is_order := by
  have c_are_wholes : Ck P w K mg base (k + 2) "are_wholes" s_are_wholes ["value", "many"] S_are_wholes := ok_are_wholes (k := k + 0) L
  refine ck_mk (N := ["value"]) (wb := (wb_is_order)) L.d_is_order sc_is_order rfl (by decide) (fun ds q h => by first | ((repeat (obtain ⟨_, h⟩ := h)); subst_vars; rfl; done) | (rcases h with h | h <;> ((repeat (obtain ⟨_, h⟩ := h)); subst_vars; rfl; done)) | (rcases h with (h | h) | h <;> ((repeat (obtain ⟨_, h⟩ := h)); subst_vars; rfl; done)) | (rcases h with h | h | h <;> ((repeat (obtain ⟨_, h⟩ := h)); subst_vars; rfl; done)) | (rcases h with h | h | h | h <;> ((repeat (obtain ⟨_, h⟩ := h)); subst_vars; rfl; done))) (fun H0 pa cdv A outer s H E f hl hr => ?_) vc_is_order
  have hu := units_of hr
  have nd := sc_is_order.nd
  have hp : ∀ i, 1 ≤ i → pa.length ≤ i := fun i h => hl ▸ h
  exact (ds_cons (d1_if (dw_t (dw_or (dt_not (dt_val (de_isiN .tuple rfl (by rfl) L.z_isinstance (by rfl) L.z_tuple (de_var 0)))) (dw_or (dt_not (dt_ch cm_le cm_le de_int (r_lenN rfl L.z_len (by rfl) (da_v 0 da_nil)) (de_gc L.c_MOST_COLUMNS rfl (by rfl)))) (dw_or1 (dt_not (dt_val (de_ck c_are_wholes hr rfl (by rfl) (da_v 0 (da_e (r_lenN rfl L.z_len (by rfl) (da_v 0 da_nil)) da_nil)))))))))
 (ds_one (d1_ret de_bl))
 ds_nil)
 (ds_one (d1_ret (de_cm (cm_eq hu rfl) (r_sortedN rfl L.z_sorted (by rfl) (da_v 0 da_nil)) (de_listRg1 rfl (by rfl) L.z_list (by rfl) L.z_range (r_lenN rfl L.z_len (by rfl) (da_v 0 da_nil)))))))
theorem sc_check_whole : FnScope ["value", "low", "high"] ["value", "low", "high"] (defScope s_check_whole) := ⟨rfl, rfl, rfl, by decide +kernel, rfl, by decide +kernel, by decide +kernel⟩
theorem ok_check_whole {P : Program} {w : World} {K : PySem.W.Frag} {mg : Str → Option Value} {base : Heap} {k : Nat}  (L : Lw K mg) : Ck P w K mg base (k + 3) "check_whole" s_check_whole ["value", "low", "high"] S_check_whole := by
  have c_is_between : Ck P w K mg base (k + 2) "is_between" s_is_between ["value", "low", "high"] S_is_between := ok_is_between (k := k + 0) L
  refine ck_mk (N := ["value", "low", "high"]) (wb := (wb_check_whole)) L.d_check_whole sc_check_whole rfl (by decide) (fun ds q h => by first | ((repeat (obtain ⟨_, h⟩ := h)); subst_vars; rfl; done) | (rcases h with h | h <;> ((repeat (obtain ⟨_, h⟩ := h)); subst_vars; rfl; done)) | (rcases h with (h | h) | h <;> ((repeat (obtain ⟨_, h⟩ := h)); subst_vars; rfl; done)) | (rcases h with h | h | h <;> ((repeat (obtain ⟨_, h⟩ := h)); subst_vars; rfl; done)) | (rcases h with h | h | h | h <;> ((repeat (obtain ⟨_, h⟩ := h)); subst_vars; rfl; done))) (fun H0 pa cdv A outer s H E f hl hr => ?_) vc_check_whole
  have hu := units_of hr
  have nd := sc_check_whole.nd
  have hp : ∀ i, 3 ≤ i → pa.length ≤ i := fun i h => hl ▸ h
  exact (ds_one (d1_if (dt_not (dt_val (de_ck c_is_between hr rfl (by rfl) (da_v 0 (da_v 1 (da_v 2 da_nil))))))
 (ds_one d1_never)
 ds_nil))
theorem sc_check_text : FnScope ["number", "text"] ["number", "text"] (defScope s_check_text) := ⟨rfl, rfl, rfl, by decide +kernel, rfl, by decide +kernel, by decide +kernel⟩
theorem ok_check_text {P : Program} {w : World} {K : PySem.W.Frag} {mg : Str → Option Value} {base : Heap} {k : Nat}  (L : Lw K mg) : Ck P w K mg base (k + 3) "check_text" s_check_text ["number", "text"] S_check_textC := by
  have c_is_typed_text : Ck P w K mg base (k + 2) "is_typed_text" s_is_typed_text ["number", "value"] S_is_typed_textC := ok_is_typed_text (k := k + 0) L
  refine ck_mk (N := ["number", "text"]) (wb := (wb_check_textC)) L.d_check_text sc_check_text rfl (by decide) (fun ds q h => by first | ((repeat (obtain ⟨_, h⟩ := h)); subst_vars; rfl; done) | (rcases h with h | h <;> ((repeat (obtain ⟨_, h⟩ := h)); subst_vars; rfl; done)) | (rcases h with (h | h) | h <;> ((repeat (obtain ⟨_, h⟩ := h)); subst_vars; rfl; done)) | (rcases h with h | h | h <;> ((repeat (obtain ⟨_, h⟩ := h)); subst_vars; rfl; done)) | (rcases h with h | h | h | h <;> ((repeat (obtain ⟨_, h⟩ := h)); subst_vars; rfl; done))) (fun H0 pa cdv A outer s H E f hl hr => ?_) vc_check_textC
  have hu := units_of hr
  have nd := sc_check_text.nd
  have hp : ∀ i, 2 ≤ i → pa.length ≤ i := fun i h => hl ▸ h
  exact (ds_one (d1_if (dt_not (dt_val (de_ck c_is_typed_text hr rfl (by rfl) (da_v 0 (da_v 1 da_nil)))))
 (ds_one d1_never)
 ds_nil))
theorem sc__law_order : FnScope ["well"] ["well"] (defScope s__law_order) := ⟨rfl, rfl, rfl, by decide +kernel, rfl, by decide +kernel, by decide +kernel⟩
theorem ok__law_order {P : Program} {w : World} {K : PySem.W.Frag} {mg : Str → Option Value} {base : Heap} {k : Nat}  (L : Lw K mg) : Ck P w K mg base (k + 3) "_law_order" s__law_order ["well"] S__law_order := by
  have c__law_shuffled : Ck P w K mg base (k + 2) "_law_shuffled" s__law_shuffled ["well", "some"] S__law_shuffledI := ok__law_shuffled (k := k + 0) L
  have c__law_take : Ck P w K mg base (k + 2) "_law_take" s__law_take ["well", "many"] S__law_take := ok__law_take (k := k + 1) L
  refine ck_mk (N := ["well"]) (wb := (wb__law_order)) L.d__law_order sc__law_order rfl (by decide) (fun ds q h => by first | ((repeat (obtain ⟨_, h⟩ := h)); subst_vars; rfl; done) | (rcases h with h | h <;> ((repeat (obtain ⟨_, h⟩ := h)); subst_vars; rfl; done)) | (rcases h with (h | h) | h <;> ((repeat (obtain ⟨_, h⟩ := h)); subst_vars; rfl; done)) | (rcases h with h | h | h <;> ((repeat (obtain ⟨_, h⟩ := h)); subst_vars; rfl; done)) | (rcases h with h | h | h | h <;> ((repeat (obtain ⟨_, h⟩ := h)); subst_vars; rfl; done))) (fun H0 pa cdv A outer s H E f hl hr => ?_) vc__law_order
  have hu := units_of hr
  have nd := sc__law_order.nd
  have hp : ∀ i, 1 ≤ i → pa.length ≤ i := fun i h => hl ▸ h
  exact (ds_one (d1_ret (r_tupleN rfl L.z_tuple (by rfl) (da_e (de_ck c__law_shuffled hr rfl (by rfl) (da_v 0 (da_e (de_listRg1 rfl (by rfl) L.z_list (by rfl) L.z_range (de_bi (bi_add rfl) de_int (de_ck c__law_take hr rfl (by rfl) (da_v 0 (da_e de_int da_nil))))) da_nil))) da_nil))))
theorem sc_check_order : FnScope ["order"] ["order"] (defScope s_check_order) := ⟨rfl, rfl, rfl, by decide +kernel, rfl, by decide +kernel, by decide +kernel⟩
theorem ok_check_order {P : Program} {w : World} {K : PySem.W.Frag} {mg : Str → Option Value} {base : Heap} {k : Nat}  (L : Lw K mg) : Ck P w K mg base (k + 4) "check_order" s_check_order ["order"] S_check_order := by
  have c_is_order : Ck P w K mg base (k + 3) "is_order" s_is_order ["value"] S_is_order := ok_is_order (k := k + 0) L
  refine ck_mk (N := ["order"]) (wb := (wb_check_order)) L.d_check_order sc_check_order rfl (by decide) (fun ds q h => by first | ((repeat (obtain ⟨_, h⟩ := h)); subst_vars; rfl; done) | (rcases h with h | h <;> ((repeat (obtain ⟨_, h⟩ := h)); subst_vars; rfl; done)) | (rcases h with (h | h) | h <;> ((repeat (obtain ⟨_, h⟩ := h)); subst_vars; rfl; done)) | (rcases h with h | h | h <;> ((repeat (obtain ⟨_, h⟩ := h)); subst_vars; rfl; done)) | (rcases h with h | h | h | h <;> ((repeat (obtain ⟨_, h⟩ := h)); subst_vars; rfl; done))) (fun H0 pa cdv A outer s H E f hl hr => ?_) vc_check_order
  have hu := units_of hr
  have nd := sc_check_order.nd
  have hp : ∀ i, 1 ≤ i → pa.length ≤ i := fun i h => hl ▸ h
  exact (ds_one (d1_if (dt_not (dt_val (de_ck c_is_order hr rfl (by rfl) (da_v 0 da_nil))))
 (ds_one d1_never)
 ds_nil))
theorem sc__law_same : FnScope ["told", "due", "at"] ["told", "due"] (defScope s__law_same) := ⟨rfl, rfl, rfl, by decide +kernel, rfl, by decide +kernel, by decide +kernel⟩
theorem ok__law_same_0 {P : Program} {w : World} {K : PySem.W.Frag} {mg : Str → Option Value} {base : Heap} {k : Nat}  (L : Lw K mg) : Ck P w K mg base (k + 1) "_law_same" s__law_same ["told", "due"] S_none := by
  refine ck_mk (N := ["told", "due", "at"]) (wb := (fun _ _ => False)) L.d__law_same sc__law_same rfl (by decide) (fun ds q h => h.elim) (fun H0 pa cdv A outer s H E f hl hr => ?_) (fun _ _ h => h.elim)
  exact ds_never
theorem ok__law_same_1 {P : Program} {w : World} {K : PySem.W.Frag} {mg : Str → Option Value} {base : Heap} {k : Nat}  (L : Lw K mg) : Ck P w K mg base (k + 2) "_law_same" s__law_same ["told", "due"] S__law_same0 := by
  have c__law_same : Ck P w K mg base (k + 1) "_law_same" s__law_same ["told", "due"] S_none := ok__law_same_0 (k := k) L
  refine ck_mk (N := ["told", "due", "at"]) (wb := (wb__law_same S_none)) L.d__law_same sc__law_same rfl (by decide) (fun ds q h => by first | ((repeat (obtain ⟨_, h⟩ := h)); subst_vars; rfl; done) | (rcases h with h | h <;> ((repeat (obtain ⟨_, h⟩ := h)); subst_vars; rfl; done)) | (rcases h with (h | h) | h <;> ((repeat (obtain ⟨_, h⟩ := h)); subst_vars; rfl; done)) | (rcases h with h | h | h <;> ((repeat (obtain ⟨_, h⟩ := h)); subst_vars; rfl; done)) | (rcases h with h | h | h | h <;> ((repeat (obtain ⟨_, h⟩ := h)); subst_vars; rfl; done))) (fun H0 pa cdv A outer s H E f hl hr => ?_) vc__law_same0
  have hu := units_of hr
  have nd := sc__law_same.nd
  have hp : ∀ i, 2 ≤ i → pa.length ≤ i := fun i h => hl ▸ h
  exact (ds_cons (d1_if (dt_val (de_isi .tuple rfl (by rfl) L.z_isinstance (by rfl) L.z_tuple (de_var 1)))
 (ds_cons (d1_if (dw_t (dw_or (dt_not (dt_val (de_isi .tuple rfl (by rfl) L.z_isinstance (by rfl) L.z_tuple (de_var 0)))) (dw_or1 (dt_cm (cm_ne hu rfl) (r_len rfl L.z_len (by rfl) (da_v 0 da_nil)) (r_len rfl L.z_len (by rfl) (da_v 1 da_nil))))))
 (ds_one (d1_ret de_bl))
 ds_nil)
 (ds_one (d1_ret (r_all rfl rfl L.z_all (by rfl) (da_e (de_lc rfl nd (di_range1 (by rfl) L.z_range (da_e (r_len rfl L.z_len (by rfl) (da_v 1 da_nil)) da_nil)) (blkOk_by (own := [("at", 2)]) (by rfl)) (fun s H C cl fp => (dgc_name 2 (hp 2 (by decide)) nd)) (fun s H C cl fp => .nil) (fun s H C cl fp => (de_ck c__law_same hr rfl (by rfl) (da_e (r_ix rfl (de_var 0) (de_var 2)) (da_e (r_ix rfl (de_var 1) (de_var 2)) da_nil))))) da_nil)))))
 ds_nil)
 (ds_cons (d1_if (dw_t (dw_or (dt_cm cm_is (de_var 1) de_non) (dw_or (dt_cm cm_isA (de_var 1) de_bl) (dw_or1 (dt_cm cm_isA (de_var 1) de_bl)))))
 (ds_one (d1_ret (de_or (de_and (de_cm cm_is (de_var 1) de_non) (de_one (de_cm cm_is (de_var 0) de_non))) (de_or (de_and (de_cm cm_isA (de_var 1) de_bl) (de_one (de_cm cm_isA (de_var 0) de_bl))) (de_one (de_and (de_cm cm_isA (de_var 1) de_bl) (de_one (de_cm cm_isA (de_var 0) de_bl))))))))
 ds_nil)
 (ds_cons (d1_if (dt_val (de_isi .int rfl (by rfl) L.z_isinstance (by rfl) L.z_int (de_var 1)))
 (ds_one (d1_ret (de_and (de_isi .int rfl (by rfl) L.z_isinstance (by rfl) L.z_int (de_var 0)) (de_and (de_not (de_isi .bool rfl (by rfl) L.z_isinstance (by rfl) L.z_bool (de_var 0))) (de_one (de_cm (cm_eq hu rfl) (de_var 0) (de_var 1)))))))
 ds_nil)
 (ds_one (d1_ret (de_and (de_isi .str rfl (by rfl) L.z_isinstance (by rfl) L.z_str (de_var 0)) (de_one (de_cm (cm_eq hu rfl) (de_var 0) (de_var 1)))))))))
theorem ok__law_same_2 {P : Program} {w : World} {K : PySem.W.Frag} {mg : Str → Option Value} {base : Heap} {k : Nat}  (L : Lw K mg) : Ck P w K mg base (k + 3) "_law_same" s__law_same ["told", "due"] S__law_same1 := by
  have c__law_same : Ck P w K mg base (k + 2) "_law_same" s__law_same ["told", "due"] S__law_same0 := ok__law_same_1 (k := k) L
  refine ck_mk (N := ["told", "due", "at"]) (wb := (wb__law_same S__law_same0)) L.d__law_same sc__law_same rfl (by decide) (fun ds q h => by first | ((repeat (obtain ⟨_, h⟩ := h)); subst_vars; rfl; done) | (rcases h with h | h <;> ((repeat (obtain ⟨_, h⟩ := h)); subst_vars; rfl; done)) | (rcases h with (h | h) | h <;> ((repeat (obtain ⟨_, h⟩ := h)); subst_vars; rfl; done)) | (rcases h with h | h | h <;> ((repeat (obtain ⟨_, h⟩ := h)); subst_vars; rfl; done)) | (rcases h with h | h | h | h <;> ((repeat (obtain ⟨_, h⟩ := h)); subst_vars; rfl; done))) (fun H0 pa cdv A outer s H E f hl hr => ?_) vc__law_same1
  have hu := units_of hr
  have nd := sc__law_same.nd
  have hp : ∀ i, 2 ≤ i → pa.length ≤ i := fun i h => hl ▸ h
  exact (ds_cons (d1_if (dt_val (de_isi .tuple rfl (by rfl) L.z_isinstance (by rfl) L.z_tuple (de_var 1)))
 (ds_cons (d1_if (dw_t (dw_or (dt_not (dt_val (de_isi .tuple rfl (by rfl) L.z_isinstance (by rfl) L.z_tuple (de_var 0)))) (dw_or1 (dt_cm (cm_ne hu rfl) (r_len rfl L.z_len (by rfl) (da_v 0 da_nil)) (r_len rfl L.z_len (by rfl) (da_v 1 da_nil))))))
 (ds_one (d1_ret de_bl))
 ds_nil)
 (ds_one (d1_ret (r_all rfl rfl L.z_all (by rfl) (da_e (de_lc rfl nd (di_range1 (by rfl) L.z_range (da_e (r_len rfl L.z_len (by rfl) (da_v 1 da_nil)) da_nil)) (blkOk_by (own := [("at", 2)]) (by rfl)) (fun s H C cl fp => (dgc_name 2 (hp 2 (by decide)) nd)) (fun s H C cl fp => .nil) (fun s H C cl fp => (de_ck c__law_same hr rfl (by rfl) (da_e (r_ix rfl (de_var 0) (de_var 2)) (da_e (r_ix rfl (de_var 1) (de_var 2)) da_nil))))) da_nil)))))
 ds_nil)
 (ds_cons (d1_if (dw_t (dw_or (dt_cm cm_is (de_var 1) de_non) (dw_or (dt_cm cm_isA (de_var 1) de_bl) (dw_or1 (dt_cm cm_isA (de_var 1) de_bl)))))
 (ds_one (d1_ret (de_or (de_and (de_cm cm_is (de_var 1) de_non) (de_one (de_cm cm_is (de_var 0) de_non))) (de_or (de_and (de_cm cm_isA (de_var 1) de_bl) (de_one (de_cm cm_isA (de_var 0) de_bl))) (de_one (de_and (de_cm cm_isA (de_var 1) de_bl) (de_one (de_cm cm_isA (de_var 0) de_bl))))))))
 ds_nil)
 (ds_cons (d1_if (dt_val (de_isi .int rfl (by rfl) L.z_isinstance (by rfl) L.z_int (de_var 1)))
 (ds_one (d1_ret (de_and (de_isi .int rfl (by rfl) L.z_isinstance (by rfl) L.z_int (de_var 0)) (de_and (de_not (de_isi .bool rfl (by rfl) L.z_isinstance (by rfl) L.z_bool (de_var 0))) (de_one (de_cm (cm_eq hu rfl) (de_var 0) (de_var 1)))))))
 ds_nil)
 (ds_one (d1_ret (de_and (de_isi .str rfl (by rfl) L.z_isinstance (by rfl) L.z_str (de_var 0)) (de_one (de_cm (cm_eq hu rfl) (de_var 0) (de_var 1)))))))))
theorem ok__law_same {P : Program} {w : World} {K : PySem.W.Frag} {mg : Str → Option Value} {base : Heap} {k : Nat}  (L : Lw K mg) : Ck P w K mg base (k + 4) "_law_same" s__law_same ["told", "due"] S__law_same := by
  have c__law_same : Ck P w K mg base (k + 3) "_law_same" s__law_same ["told", "due"] S__law_same1 := ok__law_same_2 (k := k) L
  refine ck_mk (N := ["told", "due", "at"]) (wb := (wb__law_same S__law_same1)) L.d__law_same sc__law_same rfl (by decide) (fun ds q h => by first | ((repeat (obtain ⟨_, h⟩ := h)); subst_vars; rfl; done) | (rcases h with h | h <;> ((repeat (obtain ⟨_, h⟩ := h)); subst_vars; rfl; done)) | (rcases h with (h | h) | h <;> ((repeat (obtain ⟨_, h⟩ := h)); subst_vars; rfl; done)) | (rcases h with h | h | h <;> ((repeat (obtain ⟨_, h⟩ := h)); subst_vars; rfl; done)) | (rcases h with h | h | h | h <;> ((repeat (obtain ⟨_, h⟩ := h)); subst_vars; rfl; done))) (fun H0 pa cdv A outer s H E f hl hr => ?_) vc__law_same
  have hu := units_of hr
  have nd := sc__law_same.nd
  have hp : ∀ i, 2 ≤ i → pa.length ≤ i := fun i h => hl ▸ h
  exact (ds_cons (d1_if (dt_val (de_isi .tuple rfl (by rfl) L.z_isinstance (by rfl) L.z_tuple (de_var 1)))
 (ds_cons (d1_if (dw_t (dw_or (dt_not (dt_val (de_isi .tuple rfl (by rfl) L.z_isinstance (by rfl) L.z_tuple (de_var 0)))) (dw_or1 (dt_cm (cm_ne hu rfl) (r_len rfl L.z_len (by rfl) (da_v 0 da_nil)) (r_len rfl L.z_len (by rfl) (da_v 1 da_nil))))))
 (ds_one (d1_ret de_bl))
 ds_nil)
 (ds_one (d1_ret (r_all rfl rfl L.z_all (by rfl) (da_e (de_lc rfl nd (di_range1 (by rfl) L.z_range (da_e (r_len rfl L.z_len (by rfl) (da_v 1 da_nil)) da_nil)) (blkOk_by (own := [("at", 2)]) (by rfl)) (fun s H C cl fp => (dgc_name 2 (hp 2 (by decide)) nd)) (fun s H C cl fp => .nil) (fun s H C cl fp => (de_ck c__law_same hr rfl (by rfl) (da_e (r_ix rfl (de_var 0) (de_var 2)) (da_e (r_ix rfl (de_var 1) (de_var 2)) da_nil))))) da_nil)))))
 ds_nil)
 (ds_cons (d1_if (dw_t (dw_or (dt_cm cm_is (de_var 1) de_non) (dw_or (dt_cm cm_isA (de_var 1) de_bl) (dw_or1 (dt_cm cm_isA (de_var 1) de_bl)))))
 (ds_one (d1_ret (de_or (de_and (de_cm cm_is (de_var 1) de_non) (de_one (de_cm cm_is (de_var 0) de_non))) (de_or (de_and (de_cm cm_isA (de_var 1) de_bl) (de_one (de_cm cm_isA (de_var 0) de_bl))) (de_one (de_and (de_cm cm_isA (de_var 1) de_bl) (de_one (de_cm cm_isA (de_var 0) de_bl))))))))
 ds_nil)
 (ds_cons (d1_if (dt_val (de_isi .int rfl (by rfl) L.z_isinstance (by rfl) L.z_int (de_var 1)))
 (ds_one (d1_ret (de_and (de_isi .int rfl (by rfl) L.z_isinstance (by rfl) L.z_int (de_var 0)) (de_and (de_not (de_isi .bool rfl (by rfl) L.z_isinstance (by rfl) L.z_bool (de_var 0))) (de_one (de_cm (cm_eq hu rfl) (de_var 0) (de_var 1)))))))
 ds_nil)
 (ds_one (d1_ret (de_and (de_isi .str rfl (by rfl) L.z_isinstance (by rfl) L.z_str (de_var 0)) (de_one (de_cm (cm_eq hu rfl) (de_var 0) (de_var 1)))))))))
theorem sc_columned : FnScope ["text", "order"] ["text", "order"] (defScope s_columned) := ⟨rfl, rfl, rfl, by decide +kernel, rfl, by decide +kernel, by decide +kernel⟩
theorem ok_columned {P : Program} {w : World} {K : PySem.W.Frag} {mg : Str → Option Value} {base : Heap} {k : Nat}  (L : Lw K mg) : Ck P w K mg base (k + 5) "columned" s_columned ["text", "order"] S_columned := by
  have c_check_text : Ck P w K mg base (k + 4) "check_text" s_check_text ["number", "text"] S_check_textC := ok_check_text (k := k + 1) L
  have c_check_order : Ck P w K mg base (k + 4) "check_order" s_check_order ["order"] S_check_order := ok_check_order (k := k + 0) L
  have c_put_by : Ck P w K mg base (k + 4) "put_by" s_put_by ["text", "places"] S_put_by := ok_put_by (k := k + 3) L
  have c_columned_places : Ck P w K mg base (k + 4) "columned_places" s_columned_places ["size", "order"] S_columned_places := ok_columned_places (k := k + 3) L
  refine ck_mk (N := ["text", "order"]) (wb := (wb_columned)) L.d_columned sc_columned rfl (by decide) (fun ds q h => by first | ((repeat (obtain ⟨_, h⟩ := h)); subst_vars; rfl; done) | (rcases h with h | h <;> ((repeat (obtain ⟨_, h⟩ := h)); subst_vars; rfl; done)) | (rcases h with (h | h) | h <;> ((repeat (obtain ⟨_, h⟩ := h)); subst_vars; rfl; done)) | (rcases h with h | h | h <;> ((repeat (obtain ⟨_, h⟩ := h)); subst_vars; rfl; done)) | (rcases h with h | h | h | h <;> ((repeat (obtain ⟨_, h⟩ := h)); subst_vars; rfl; done))) (fun H0 pa cdv A outer s H E f hl hr => ?_) vc_columned
  have hu := units_of hr
  have nd := sc_columned.nd
  have hp : ∀ i, 2 ≤ i → pa.length ≤ i := fun i h => hl ▸ h
  exact (ds_cons (d1_expr (de_ck c_check_text hr rfl (by rfl) (da_e (r_len rfl L.z_len (by rfl) (da_e (de_gc L.c_SIGNS rfl (by rfl)) da_nil)) (da_v 0 da_nil))))
 (ds_cons (d1_expr (de_ck c_check_order hr rfl (by rfl) (da_v 1 da_nil)))
 (ds_one (d1_ret (de_ck c_put_by hr rfl (by rfl) (da_v 0 (da_e (de_ck c_columned_places hr rfl (by rfl) (da_e (r_len rfl L.z_len (by rfl) (da_v 0 da_nil)) (da_v 1 da_nil))) da_nil)))))))
theorem sc_columned_back : FnScope ["text", "order"] ["text", "order"] (defScope s_columned_back) := ⟨rfl, rfl, rfl, by decide +kernel, rfl, by decide +kernel, by decide +kernel⟩
theorem ok_columned_back {P : Program} {w : World} {K : PySem.W.Frag} {mg : Str → Option Value} {base : Heap} {k : Nat}  (L : Lw K mg) : Ck P w K mg base (k + 5) "columned_back" s_columned_back ["text", "order"] S_columned_back := by
  have c_check_text : Ck P w K mg base (k + 4) "check_text" s_check_text ["number", "text"] S_check_textC := ok_check_text (k := k + 1) L
  have c_check_order : Ck P w K mg base (k + 4) "check_order" s_check_order ["order"] S_check_order := ok_check_order (k := k + 0) L
  have c_put_back_by : Ck P w K mg base (k + 4) "put_back_by" s_put_back_by ["text", "places"] S_put_back_by := ok_put_back_by (k := k + 3) L
  have c_columned_places : Ck P w K mg base (k + 4) "columned_places" s_columned_places ["size", "order"] S_columned_places := ok_columned_places (k := k + 3) L
  refine ck_mk (N := ["text", "order"]) (wb := (wb_columned_back)) L.d_columned_back sc_columned_back rfl (by decide) (fun ds q h => by first | ((repeat (obtain ⟨_, h⟩ := h)); subst_vars; rfl; done) | (rcases h with h | h <;> ((repeat (obtain ⟨_, h⟩ := h)); subst_vars; rfl; done)) | (rcases h with (h | h) | h <;> ((repeat (obtain ⟨_, h⟩ := h)); subst_vars; rfl; done)) | (rcases h with h | h | h <;> ((repeat (obtain ⟨_, h⟩ := h)); subst_vars; rfl; done)) | (rcases h with h | h | h | h <;> ((repeat (obtain ⟨_, h⟩ := h)); subst_vars; rfl; done))) (fun H0 pa cdv A outer s H E f hl hr => ?_) vc_columned_back
  have hu := units_of hr
  have nd := sc_columned_back.nd
  have hp : ∀ i, 2 ≤ i → pa.length ≤ i := fun i h => hl ▸ h
  exact (ds_cons (d1_expr (de_ck c_check_text hr rfl (by rfl) (da_e (r_len rfl L.z_len (by rfl) (da_e (de_gc L.c_SIGNS rfl (by rfl)) da_nil)) (da_v 0 da_nil))))
 (ds_cons (d1_expr (de_ck c_check_order hr rfl (by rfl) (da_v 1 da_nil)))
 (ds_one (d1_ret (de_ck c_put_back_by hr rfl (by rfl) (da_v 0 (da_e (de_ck c_columned_places hr rfl (by rfl) (da_e (r_len rfl L.z_len (by rfl) (da_v 0 da_nil)) (da_v 1 da_nil))) da_nil)))))))
theorem sc_column_order : FnScope ["number", "order"] ["number", "order"] (defScope s_column_order) := ⟨rfl, rfl, rfl, by decide +kernel, rfl, by decide +kernel, by decide +kernel⟩
theorem ok_column_order {P : Program} {w : World} {K : PySem.W.Frag} {mg : Str → Option Value} {base : Heap} {k : Nat}  (L : Lw K mg) : Ck P w K mg base (k + 5) "column_order" s_column_order ["number", "order"] S_column_order := by
  have c_check_whole : Ck P w K mg base (k + 4) "check_whole" s_check_whole ["value", "low", "high"] S_check_whole := ok_check_whole (k := k + 1) L
  have c_check_order : Ck P w K mg base (k + 4) "check_order" s_check_order ["order"] S_check_order := ok_check_order (k := k + 0) L
  have c_times_back : Ck P w K mg base (k + 4) "times_back" s_times_back ["places"] S_times_back := ok_times_back (k := k + 3) L
  have c_columned_places : Ck P w K mg base (k + 4) "columned_places" s_columned_places ["size", "order"] S_columned_places := ok_columned_places (k := k + 3) L
  refine ck_mk (N := ["number", "order"]) (wb := (wb_column_order)) L.d_column_order sc_column_order rfl (by decide) (fun ds q h => by first | ((repeat (obtain ⟨_, h⟩ := h)); subst_vars; rfl; done) | (rcases h with h | h <;> ((repeat (obtain ⟨_, h⟩ := h)); subst_vars; rfl; done)) | (rcases h with (h | h) | h <;> ((repeat (obtain ⟨_, h⟩ := h)); subst_vars; rfl; done)) | (rcases h with h | h | h <;> ((repeat (obtain ⟨_, h⟩ := h)); subst_vars; rfl; done)) | (rcases h with h | h | h | h <;> ((repeat (obtain ⟨_, h⟩ := h)); subst_vars; rfl; done))) (fun H0 pa cdv A outer s H E f hl hr => ?_) vc_column_order
  have hu := units_of hr
  have nd := sc_column_order.nd
  have hp : ∀ i, 2 ≤ i → pa.length ≤ i := fun i h => hl ▸ h
  exact (ds_cons (d1_expr (de_ck c_check_whole hr rfl (by rfl) (da_v 0 (da_e de_int (da_e (de_gc L.c_LONGEST rfl (by rfl)) da_nil)))))
 (ds_cons (d1_expr (de_ck c_check_order hr rfl (by rfl) (da_v 1 da_nil)))
 (ds_one (d1_ret (de_ck c_times_back hr rfl (by rfl) (da_e (de_ck c_columned_places hr rfl (by rfl) (da_v 0 (da_v 1 da_nil))) da_nil))))))
theorem sc__law_text_right : FnScope ["text", "order", "due", "at"] ["text", "order"] (defScope s__law_text_right) := ⟨rfl, rfl, rfl, by decide +kernel, rfl, by decide +kernel, by decide +kernel⟩
theorem ok__law_text_right {P : Program} {w : World} {K : PySem.W.Frag} {mg : Str → Option Value} {base : Heap} {k : Nat}  (L : Lw K mg) : Ck P w K mg base (k + 6) "_law_text_right" s__law_text_right ["text", "order"] S__law_text_right := by
  have c__law_same : Ck P w K mg base (k + 5) "_law_same" s__law_same ["told", "due"] S__law_same := ok__law_same (k := k + 1) L
  have c_columned : Ck P w K mg base (k + 5) "columned" s_columned ["text", "order"] S_columned := ok_columned (k := k + 0) L
  have c__law_places : Ck P w K mg base (k + 5) "_law_places" s__law_places ["number", "order"] S__law_places := ok__law_places (k := k + 4) L
  have c_columned_back : Ck P w K mg base (k + 5) "columned_back" s_columned_back ["text", "order"] S_columned_back := ok_columned_back (k := k + 0) L
  refine ck_mk (N := ["text", "order", "due", "at"]) (wb := (wb__law_text_right)) L.d__law_text_right sc__law_text_right rfl (by decide) (fun ds q h => by first | ((repeat (obtain ⟨_, h⟩ := h)); subst_vars; rfl; done) | (rcases h with h | h <;> ((repeat (obtain ⟨_, h⟩ := h)); subst_vars; rfl; done)) | (rcases h with (h | h) | h <;> ((repeat (obtain ⟨_, h⟩ := h)); subst_vars; rfl; done)) | (rcases h with h | h | h <;> ((repeat (obtain ⟨_, h⟩ := h)); subst_vars; rfl; done)) | (rcases h with h | h | h | h <;> ((repeat (obtain ⟨_, h⟩ := h)); subst_vars; rfl; done))) (fun H0 pa cdv A outer s H E f hl hr => ?_) vc__law_text_right
  have hu := units_of hr
  have nd := sc__law_text_right.nd
  have hp : ∀ i, 2 ≤ i → pa.length ≤ i := fun i h => hl ▸ h
  exact (ds_cons (d1_set (hp 2 (by decide)) (r_join rfl (de_str (l := [])) (da_e (de_lc rfl nd (di_e rfl (de_ck c__law_places hr rfl (by rfl) (da_e (r_len rfl L.z_len (by rfl) (da_v 0 da_nil)) (da_v 1 da_nil)))) (blkOk_by (own := [("at", 3)]) (by rfl)) (fun s H C cl fp => (dgc_name 3 (hp 3 (by decide)) nd)) (fun s H C cl fp => .nil) (fun s H C cl fp => (r_ix rfl (de_var 0) (de_var 3)))) da_nil)) nd)
 (ds_cons (d1_if (dt_not (dt_val (de_ck c__law_same hr rfl (by rfl) (da_e (de_tup (da_e (de_ck c_columned hr rfl (by rfl) (da_v 0 (da_v 1 da_nil))) (da_e (de_ckK (ks := ["order", "text"]) [1, 0] c_columned hr rfl (by rfl) (dk_v 1 (dk_v 0 dk_nil)) (fun _ _ _ _ _ _ ws hl => match ws, hl with | [_, _], _ => rfl)) da_nil))) (da_e (de_tup (da_v 2 (da_v 2 da_nil))) da_nil)))))
 (ds_one (d1_ret de_bl))
 ds_nil)
 (ds_cons (d1_if (dt_not (dt_val (de_ck c__law_same hr rfl (by rfl) (da_e (de_tup (da_e (de_ck c_columned_back hr rfl (by rfl) (da_v 2 (da_v 1 da_nil))) (da_e (de_ckK (ks := ["order", "text"]) [1, 0] c_columned_back hr rfl (by rfl) (dk_v 1 (dk_v 2 dk_nil)) (fun _ _ _ _ _ _ ws hl => match ws, hl with | [_, _], _ => rfl)) da_nil))) (da_e (de_tup (da_v 0 (da_v 0 da_nil))) da_nil)))))
 (ds_one (d1_ret de_bl))
 ds_nil)
 (ds_one (d1_ret (de_and (de_cm (cm_eq hu rfl) (de_ck c_columned hr rfl (by rfl) (da_e (de_ck c_columned_back hr rfl (by rfl) (da_v 0 (da_v 1 da_nil))) (da_v 1 da_nil))) (de_var 0)) (de_and (de_cm (cm_eq hu rfl) (r_sortedA rfl rfl L.z_sorted (by rfl) (da_v 2 da_nil)) (r_sortedA rfl rfl L.z_sorted (by rfl) (da_v 0 da_nil))) (de_one (de_cm (cm_eq hu rfl) (de_ck c_columned hr rfl (by rfl) (da_v 0 (da_e (de_tupN (da_e de_int da_nil)) da_nil))) (de_var 0))))))))))
theorem sc__law_number_right : FnScope ["number", "order", "due", "text", "here", "many"] ["number", "order"] (defScope s__law_number_right) := ⟨rfl, rfl, rfl, by decide +kernel, rfl, by decide +kernel, by decide +kernel⟩
theorem ok__law_number_right {P : Program} {w : World} {K : PySem.W.Frag} {mg : Str → Option Value} {base : Heap} {k : Nat}  (L : Lw K mg) : Ck P w K mg base (k + 6) "_law_number_right" s__law_number_right ["number", "order"] S__law_number_right := by
  have c__law_comes_back : Ck P w K mg base (k + 5) "_law_comes_back" s__law_comes_back ["places"] S__law_comes_back := ok__law_comes_back (k := k + 4) L
  have c__law_places : Ck P w K mg base (k + 5) "_law_places" s__law_places ["number", "order"] S__law_places := ok__law_places (k := k + 4) L
  have c__law_same : Ck P w K mg base (k + 5) "_law_same" s__law_same ["told", "due"] S__law_same := ok__law_same (k := k + 1) L
  have c_columned : Ck P w K mg base (k + 5) "columned" s_columned ["text", "order"] S_columned := ok_columned (k := k + 0) L
  have c_column_order : Ck P w K mg base (k + 5) "column_order" s_column_order ["number", "order"] S_column_order := ok_column_order (k := k + 0) L
  refine ck_mk (N := ["number", "order", "due", "text", "here", "many"]) (wb := (wb__law_number_right)) L.d__law_number_right sc__law_number_right rfl (by decide) (fun ds q h => by first | ((repeat (obtain ⟨_, h⟩ := h)); subst_vars; rfl; done) | (rcases h with h | h <;> ((repeat (obtain ⟨_, h⟩ := h)); subst_vars; rfl; done)) | (rcases h with (h | h) | h <;> ((repeat (obtain ⟨_, h⟩ := h)); subst_vars; rfl; done)) | (rcases h with h | h | h <;> ((repeat (obtain ⟨_, h⟩ := h)); subst_vars; rfl; done)) | (rcases h with h | h | h | h <;> ((repeat (obtain ⟨_, h⟩ := h)); subst_vars; rfl; done))) (fun H0 pa cdv A outer s H E f hl hr => ?_) vc__law_number_right
  have hu := units_of hr
  have nd := sc__law_number_right.nd
  have hp : ∀ i, 2 ≤ i → pa.length ≤ i := fun i h => hl ▸ h
  exact (ds_cons (d1_set (hp 2 (by decide)) (de_ck c__law_comes_back hr rfl (by rfl) (da_e (de_ck c__law_places hr rfl (by rfl) (da_v 0 (da_v 1 da_nil))) da_nil)) nd)
 (ds_cons (d1_if (dt_not (dt_val (de_ck c__law_same hr rfl (by rfl) (da_e (de_tup (da_e (de_ck c_column_order hr rfl (by rfl) (da_v 0 (da_v 1 da_nil))) (da_e (de_ckK (ks := ["order", "number"]) [1, 0] c_column_order hr rfl (by rfl) (dk_v 1 (dk_v 0 dk_nil)) (fun _ _ _ _ _ _ ws hl => match ws, hl with | [_, _], _ => rfl)) da_nil))) (da_e (de_tup (da_v 2 (da_v 2 da_nil))) da_nil)))))
 (ds_one (d1_ret de_bl))
 ds_nil)
 (ds_cons (d1_if (dt_cm cm_gt (de_var 0) de_int)
 (ds_one (d1_ret de_bl))
 ds_nil)
 (ds_cons (d1_set (hp 3 (by decide)) (de_slice rfl (de_str (l := SG)) do_no (do_pt (de_var 0))) nd)
 (ds_cons (d1_par (hp 4 (by decide)) (hp 5 (by decide)) (da_e (de_ck c_columned hr rfl (by rfl) (da_v 3 (da_v 1 da_nil))) (da_e de_int da_nil)) rfl nd)
 (ds_cons (d1_while PassesOwn.never (dw_t (dw_and (dt_cm (cm_ne hu rfl) (de_var 4) (de_var 3)) (dw_and1 (dt_cm cm_lt (de_var 5) (de_bi (bi_add rfl) (de_var 2) de_int)))))
 (ds_one (d1_par (hp 4 (by decide)) (hp 5 (by decide)) (da_e (de_ck c_columned hr rfl (by rfl) (da_v 4 (da_v 1 da_nil))) (da_e (de_bi (bi_add rfl) (de_var 5) de_int) da_nil)) rfl nd)))
 (ds_one (d1_ret (de_cm (cm_eq hu rfl) (de_var 5) (de_var 2))))))))))
theorem sc__law_round : FnScope ["well", "turn", "many", "text", "at"] ["well"] (defScope s__law_round) := ⟨rfl, rfl, rfl, by decide +kernel, rfl, by decide +kernel, by decide +kernel⟩
theorem ok__law_round {P : Program} {w : World} {K : PySem.W.Frag} {mg : Str → Option Value} {base : Heap} {k : Nat}  (L : Lw K mg) : Ck P w K mg base (k + 7) "_law_round" s__law_round ["well"] S__law_roundC := by
  have c__law_pick : Ck P w K mg base (k + 6) "_law_pick" s__law_pick ["well", "some"] S__law_pickC := ok__law_pick (k := k + 4) L
  have c__law_text_right : Ck P w K mg base (k + 6) "_law_text_right" s__law_text_right ["text", "order"] S__law_text_right := ok__law_text_right (k := k + 0) L
  have c__law_number_right : Ck P w K mg base (k + 6) "_law_number_right" s__law_number_right ["number", "order"] S__law_number_right := ok__law_number_right (k := k + 0) L
  have c__law_take : Ck P w K mg base (k + 6) "_law_take" s__law_take ["well", "many"] S__law_take := ok__law_take (k := k + 5) L
  have c__law_order : Ck P w K mg base (k + 6) "_law_order" s__law_order ["well"] S__law_order := ok__law_order (k := k + 3) L
  refine ck_mk (N := ["well", "turn", "many", "text", "at"]) (wb := (wb__law_roundC)) L.d__law_round sc__law_round rfl (by decide) (fun ds q h => by first | ((repeat (obtain ⟨_, h⟩ := h)); subst_vars; rfl; done) | (rcases h with h | h <;> ((repeat (obtain ⟨_, h⟩ := h)); subst_vars; rfl; done)) | (rcases h with (h | h) | h <;> ((repeat (obtain ⟨_, h⟩ := h)); subst_vars; rfl; done)) | (rcases h with h | h | h <;> ((repeat (obtain ⟨_, h⟩ := h)); subst_vars; rfl; done)) | (rcases h with h | h | h | h <;> ((repeat (obtain ⟨_, h⟩ := h)); subst_vars; rfl; done))) (fun H0 pa cdv A outer s H E f hl hr => ?_) vc__law_roundC
  have hu := units_of hr
  have nd := sc__law_round.nd
  have hp : ∀ i, 1 ≤ i → pa.length ≤ i := fun i h => hl ▸ h
  exact (ds_cons (d1_for PassesOwn.never rfl (di_range1 (by rfl) L.z_range (da_e de_int da_nil)) (dg_name 1 (hp 1 (by decide)) nd)
 (ds_cons (d1_set (hp 2 (by decide)) (de_ck c__law_pick hr rfl (by rfl) (da_v 0 (da_e (de_lst (da_e (de_ck c__law_take hr rfl (by rfl) (da_v 0 (da_e de_int da_nil))) (da_e de_int (da_e (de_ck c__law_take hr rfl (by rfl) (da_v 0 (da_e de_int da_nil))) (da_e (de_ck c__law_take hr rfl (by rfl) (da_v 0 (da_e de_int da_nil))) da_nil))))) da_nil))) nd)
 (ds_cons (d1_set (hp 3 (by decide)) (r_join rfl (de_str (l := [])) (da_e (de_lc rfl nd (di_range1 (by rfl) L.z_range (da_v 2 da_nil)) (blkOk_by (own := [("at", 4)]) (by rfl)) (fun s H C cl fp => (dgc_name 4 (hp 4 (by decide)) nd)) (fun s H C cl fp => .nil) (fun s H C cl fp => (de_ck c__law_pick hr rfl (by rfl) (da_v 0 (da_e (de_str (l := SG)) da_nil))))) da_nil)) nd)
 (ds_cons (d1_if (dt_not (dt_val (de_ck c__law_text_right hr rfl (by rfl) (da_v 3 (da_e (de_ck c__law_order hr rfl (by rfl) (da_v 0 da_nil)) da_nil)))))
 (ds_one (d1_ret de_bl))
 ds_nil)
 (ds_one (d1_if (dt_not (dt_val (de_ck c__law_number_right hr rfl (by rfl) (da_e (de_bi (bi_add rfl) de_int (de_ck c__law_take hr rfl (by rfl) (da_v 0 (da_e (de_ck c__law_pick hr rfl (by rfl) (da_v 0 (da_e (de_lst (da_e de_int (da_e de_int (da_e de_int da_nil)))) da_nil))) da_nil)))) (da_e (de_ck c__law_order hr rfl (by rfl) (da_v 0 da_nil)) da_nil)))))
 (ds_one (d1_ret de_bl))
 ds_nil))))))
 (ds_one (d1_ret de_bl)))
theorem sc_law : FnScope ["script", "turn"] ["script"] (defScope s_law) := ⟨rfl, rfl, rfl, by decide +kernel, rfl, by decide +kernel, by decide +kernel⟩
theorem ok_law {P : Program} {w : World} {K : PySem.W.Frag} {mg : Str → Option Value} {base : Heap} {k : Nat}  (L : Lw K mg) : Ck P w K mg base (k + 8) "law" s_law ["script"] S_lawC := by
  have c__law_round : Ck P w K mg base (k + 7) "_law_round" s__law_round ["well"] S__law_roundC := ok__law_round (k := k + 0) L
  have c__law_well : Ck P w K mg base (k + 7) "_law_well" s__law_well ["script", "turn"] S__law_well := ok__law_well (k := k + 6) L
  refine ck_mk (N := ["script", "turn"]) (wb := (wb_lawC)) L.d_law sc_law rfl (by decide) (fun ds q h => by first | ((repeat (obtain ⟨_, h⟩ := h)); subst_vars; rfl; done) | (rcases h with h | h <;> ((repeat (obtain ⟨_, h⟩ := h)); subst_vars; rfl; done)) | (rcases h with (h | h) | h <;> ((repeat (obtain ⟨_, h⟩ := h)); subst_vars; rfl; done)) | (rcases h with h | h | h <;> ((repeat (obtain ⟨_, h⟩ := h)); subst_vars; rfl; done)) | (rcases h with h | h | h | h <;> ((repeat (obtain ⟨_, h⟩ := h)); subst_vars; rfl; done))) (fun H0 pa cdv A outer s H E f hl hr => ?_) vc_lawC
  have hu := units_of hr
  have nd := sc_law.nd
  have hp : ∀ i, 1 ≤ i → pa.length ≤ i := fun i h => hl ▸ h
  exact (ds_one (d1_ret (r_all rfl rfl L.z_all (by rfl) (da_e (de_lc rfl nd (di_range1 (by rfl) L.z_range (da_e (r_max rfl L.z_max (by rfl) (da_e de_int (da_e (r_min rfl L.z_min (by rfl) (da_e (r_len rfl L.z_len (by rfl) (da_v 0 da_nil)) (da_e de_int da_nil))) da_nil))) da_nil)) (blkOk_by (own := [("turn", 1)]) (by rfl)) (fun s H C cl fp => (dgc_name 1 (hp 1 (by decide)) nd)) (fun s H C cl fp => .nil) (fun s H C cl fp => (de_ck c__law_round hr rfl (by rfl) (da_e (de_ck c__law_well hr rfl (by rfl) (da_v 0 (da_v 1 da_nil))) da_nil)))) da_nil))))
end VL
open PySem PySem.W PyProof.Rows
set_option maxHeartbeats 0 in
theorem PySem.Challenge.cw_cordwheels_k24_whole_texts_columned_holds : PySem.Challenge.rw_cordwheels_k24_whole_texts_columned.Holds := by
  w_on; o_law; k_head; (case hw => w_witness2)
  k_fill
  refine L2.walk_ofK (l := PySem.Challenge.rw_cordwheels_k24_whole_texts_columned) (n := 63) (k := 8) (x := "script") (CX := L2.CX0) (sp := fun K => VL.spV K VL.S_law) rfl (by decide) rfl ⟨rfl, by decide, by decide⟩ (fun w h Y => PySem.W.kIn_of Y) ?F (fun _ _ a ns hl _ hS => VL.law_sp hl hS) (fun _ _ _ _ h => h)
  case F =>
    intro w mg fa h KX G hmg
    refine' VL.st_def (x := "is_whole") (st := VL.s_is_whole) (ps := ["value"]) KX G ?qa ?ql ?qc ?qk (fun _ _ _ _ _ _ us hl => match us, hl with | [_], _ => rfl) (fun d_is_whole => ?z0)
    (case qa => k_is); (case ql => k_is); (case qc => k_is); (case qk => k_is)
    refine' VL.st_def (x := "is_between") (st := VL.s_is_between) (ps := ["value", "low", "high"]) KX G ?qa ?ql ?qc ?qk (fun _ _ _ _ _ _ us hl => match us, hl with | [_, _, _], _ => rfl) (fun d_is_between => ?z1)
    (case qa => k_is); (case ql => k_is); (case qc => k_is); (case qk => k_is)
    refine' VL.st_def (x := "is_tuple_of") (st := VL.s_is_tuple_of) (ps := ["value", "many"]) KX G ?qa ?ql ?qc ?qk (fun _ _ _ _ _ _ us hl => match us, hl with | [_, _], _ => rfl) (fun d_is_tuple_of => ?z2)
    (case qa => k_is); (case ql => k_is); (case qc => k_is); (case qk => k_is)
    refine' VL.st_def (x := "are_wholes") (st := VL.s_are_wholes) (ps := ["value", "many"]) KX G ?qa ?ql ?qc ?qk (fun _ _ _ _ _ _ us hl => match us, hl with | [_, _], _ => rfl) (fun d_are_wholes => ?z3)
    (case qa => k_is); (case ql => k_is); (case qc => k_is); (case qk => k_is)
    refine' VL.st_def (x := "is_text_of") (st := VL.s_is_text_of) (ps := ["value", "signs"]) KX G ?qa ?ql ?qc ?qk (fun _ _ _ _ _ _ us hl => match us, hl with | [_, _], _ => rfl) (fun d_is_text_of => ?z4)
    (case qa => k_is); (case ql => k_is); (case qc => k_is); (case qk => k_is)
    refine' VL.st_def (x := "is_order") (st := VL.s_is_order) (ps := ["value"]) KX G ?qa ?ql ?qc ?qk (fun _ _ _ _ _ _ us hl => match us, hl with | [_], _ => rfl) (fun d_is_order => ?z5)
    (case qa => k_is); (case ql => k_is); (case qc => k_is); (case qk => k_is)
    refine' VL.st_def (x := "columned_places") (st := VL.s_columned_places) (ps := ["size", "order"]) KX G ?qa ?ql ?qc ?qk (fun _ _ _ _ _ _ us hl => match us, hl with | [_, _], _ => rfl) (fun d_columned_places => ?z6)
    (case qa => k_is); (case ql => k_is); (case qc => k_is); (case qk => k_is)
    refine' VL.st_def (x := "signs_of") (st := VL.s_signs_of) (ps := ["number"]) KX G ?qa ?ql ?qc ?qk (fun _ _ _ _ _ _ us hl => match us, hl with | [_], _ => rfl) (fun d_signs_of => ?z7)
    (case qa => k_is); (case ql => k_is); (case qc => k_is); (case qk => k_is)
    refine' VL.st_def (x := "is_typed_text") (st := VL.s_is_typed_text) (ps := ["number", "value"]) KX G ?qa ?ql ?qc ?qk (fun _ _ _ _ _ _ us hl => match us, hl with | [_, _], _ => rfl) (fun d_is_typed_text => ?z8)
    (case qa => k_is); (case ql => k_is); (case qc => k_is); (case qk => k_is)
    refine' VL.st_def (x := "check_whole") (st := VL.s_check_whole) (ps := ["value", "low", "high"]) KX G ?qa ?ql ?qc ?qk (fun _ _ _ _ _ _ us hl => match us, hl with | [_, _, _], _ => rfl) (fun d_check_whole => ?z9)
    (case qa => k_is); (case ql => k_is); (case qc => k_is); (case qk => k_is)
    refine' VL.st_def (x := "check_text") (st := VL.s_check_text) (ps := ["number", "text"]) KX G ?qa ?ql ?qc ?qk (fun _ _ _ _ _ _ us hl => match us, hl with | [_, _], _ => rfl) (fun d_check_text => ?z10)
    (case qa => k_is); (case ql => k_is); (case qc => k_is); (case qk => k_is)
    refine' VL.st_def (x := "put_by") (st := VL.s_put_by) (ps := ["text", "places"]) KX G ?qa ?ql ?qc ?qk (fun _ _ _ _ _ _ us hl => match us, hl with | [_, _], _ => rfl) (fun d_put_by => ?z11)
    (case qa => k_is); (case ql => k_is); (case qc => k_is); (case qk => k_is)
    refine' VL.st_def (x := "put_back_by") (st := VL.s_put_back_by) (ps := ["text", "places"]) KX G ?qa ?ql ?qc ?qk (fun _ _ _ _ _ _ us hl => match us, hl with | [_, _], _ => rfl) (fun d_put_back_by => ?z12)
    (case qa => k_is); (case ql => k_is); (case qc => k_is); (case qk => k_is)
    refine' VL.st_def (x := "times_back") (st := VL.s_times_back) (ps := ["places"]) KX G ?qa ?ql ?qc ?qk (fun _ _ _ _ _ _ us hl => match us, hl with | [_], _ => rfl) (fun d_times_back => ?z13)
    (case qa => k_is); (case ql => k_is); (case qc => k_is); (case qk => k_is)
    refine' VL.st_def (x := "check_order") (st := VL.s_check_order) (ps := ["order"]) KX G ?qa ?ql ?qc ?qk (fun _ _ _ _ _ _ us hl => match us, hl with | [_], _ => rfl) (fun d_check_order => ?z14)
    (case qa => k_is); (case ql => k_is); (case qc => k_is); (case qk => k_is)
    refine' VL.st_def (x := "columned") (st := VL.s_columned) (ps := ["text", "order"]) KX G ?qa ?ql ?qc ?qk (fun _ _ _ _ _ _ us hl => match us, hl with | [_, _], _ => rfl) (fun d_columned => ?z15)
    (case qa => k_is); (case ql => k_is); (case qc => k_is); (case qk => k_is)
    refine' VL.st_def (x := "columned_back") (st := VL.s_columned_back) (ps := ["text", "order"]) KX G ?qa ?ql ?qc ?qk (fun _ _ _ _ _ _ us hl => match us, hl with | [_, _], _ => rfl) (fun d_columned_back => ?z16)
    (case qa => k_is); (case ql => k_is); (case qc => k_is); (case qk => k_is)
    refine' VL.st_def (x := "column_order") (st := VL.s_column_order) (ps := ["number", "order"]) KX G ?qa ?ql ?qc ?qk (fun _ _ _ _ _ _ us hl => match us, hl with | [_, _], _ => rfl) (fun d_column_order => ?z17)
    (case qa => k_is); (case ql => k_is); (case qc => k_is); (case qk => k_is)
    refine' VL.st_def (x := "_law_well") (st := VL.s__law_well) (ps := ["script", "turn"]) KX G ?qa ?ql ?qc ?qk (fun _ _ _ _ _ _ us hl => match us, hl with | [_, _], _ => rfl) (fun d__law_well => ?z18)
    (case qa => k_is); (case ql => k_is); (case qc => k_is); (case qk => k_is)
    refine' VL.st_def (x := "_law_take") (st := VL.s__law_take) (ps := ["well", "many"]) KX G ?qa ?ql ?qc ?qk (fun _ _ _ _ _ _ us hl => match us, hl with | [_, _], _ => rfl) (fun d__law_take => ?z19)
    (case qa => k_is); (case ql => k_is); (case qc => k_is); (case qk => k_is)
    refine' VL.st_def (x := "_law_pick") (st := VL.s__law_pick) (ps := ["well", "some"]) KX G ?qa ?ql ?qc ?qk (fun _ _ _ _ _ _ us hl => match us, hl with | [_, _], _ => rfl) (fun d__law_pick => ?z20)
    (case qa => k_is); (case ql => k_is); (case qc => k_is); (case qk => k_is)
    refine' VL.st_def (x := "_law_same") (st := VL.s__law_same) (ps := ["told", "due"]) KX G ?qa ?ql ?qc ?qk (fun _ _ _ _ _ _ us hl => match us, hl with | [_, _], _ => rfl) (fun d__law_same => ?z21)
    (case qa => k_is); (case ql => k_is); (case qc => k_is); (case qk => k_is)
    refine' VL.st_def (x := "_law_shuffled") (st := VL.s__law_shuffled) (ps := ["well", "some"]) KX G ?qa ?ql ?qc ?qk (fun _ _ _ _ _ _ us hl => match us, hl with | [_, _], _ => rfl) (fun d__law_shuffled => ?z22)
    (case qa => k_is); (case ql => k_is); (case qc => k_is); (case qk => k_is)
    refine' VL.st_def (x := "_law_places") (st := VL.s__law_places) (ps := ["number", "order"]) KX G ?qa ?ql ?qc ?qk (fun _ _ _ _ _ _ us hl => match us, hl with | [_, _], _ => rfl) (fun d__law_places => ?z23)
    (case qa => k_is); (case ql => k_is); (case qc => k_is); (case qk => k_is)
    refine' VL.st_def (x := "_law_comes_back") (st := VL.s__law_comes_back) (ps := ["places"]) KX G ?qa ?ql ?qc ?qk (fun _ _ _ _ _ _ us hl => match us, hl with | [_], _ => rfl) (fun d__law_comes_back => ?z24)
    (case qa => k_is); (case ql => k_is); (case qc => k_is); (case qk => k_is)
    refine' VL.st_def (x := "_law_text_right") (st := VL.s__law_text_right) (ps := ["text", "order"]) KX G ?qa ?ql ?qc ?qk (fun _ _ _ _ _ _ us hl => match us, hl with | [_, _], _ => rfl) (fun d__law_text_right => ?z25)
    (case qa => k_is); (case ql => k_is); (case qc => k_is); (case qk => k_is)
    refine' VL.st_def (x := "_law_number_right") (st := VL.s__law_number_right) (ps := ["number", "order"]) KX G ?qa ?ql ?qc ?qk (fun _ _ _ _ _ _ us hl => match us, hl with | [_, _], _ => rfl) (fun d__law_number_right => ?z26)
    (case qa => k_is); (case ql => k_is); (case qc => k_is); (case qk => k_is)
    refine' VL.st_def (x := "_law_order") (st := VL.s__law_order) (ps := ["well"]) KX G ?qa ?ql ?qc ?qk (fun _ _ _ _ _ _ us hl => match us, hl with | [_], _ => rfl) (fun d__law_order => ?z27)
    (case qa => k_is); (case ql => k_is); (case qc => k_is); (case qk => k_is)
    refine' VL.st_def (x := "_law_round") (st := VL.s__law_round) (ps := ["well"]) KX G ?qa ?ql ?qc ?qk (fun _ _ _ _ _ _ us hl => match us, hl with | [_], _ => rfl) (fun d__law_round => ?z28)
    (case qa => k_is); (case ql => k_is); (case qc => k_is); (case qk => k_is)
    refine' VL.st_def (x := "law") (st := VL.s_law) (ps := ["script"]) KX G ?qa ?ql ?qc ?qk (fun _ _ _ _ _ _ us hl => match us, hl with | [_], _ => rfl) (fun d_law => ?z29)
    (case qa => k_is); (case ql => k_is); (case qc => k_is); (case qk => k_is)
    refine' VL.st_int (x := "MOST_COLUMNS") 6 KX G ?qa (fun c_MOST_COLUMNS => ?z30)
    (case qa => k_is)
    refine' VL.st_str (x := "SIGNS") VL.SG KX G ?qa ?qe (fun c_SIGNS => ?z31)
    (case qa => k_is); (case qe => rfl)
    refine' VL.st_int (x := "LONGEST") 200 KX G ?qa (fun c_LONGEST => ?z32)
    (case qa => k_is)
    refine' VL.st_no (x := "abs") KX G ?qa (fun z_abs => ?zz33)
    (case qa => k_is)
    refine' VL.st_no (x := "all") KX G ?qa (fun z_all => ?zz34)
    (case qa => k_is)
    refine' VL.st_no (x := "bool") KX G ?qa (fun z_bool => ?zz35)
    (case qa => k_is)
    refine' VL.st_no (x := "dict") KX G ?qa (fun z_dict => ?zz36)
    (case qa => k_is)
    refine' VL.st_no (x := "divmod") KX G ?qa (fun z_divmod => ?zz37)
    (case qa => k_is)
    refine' VL.st_no (x := "int") KX G ?qa (fun z_int => ?zz38)
    (case qa => k_is)
    refine' VL.st_no (x := "isinstance") KX G ?qa (fun z_isinstance => ?zz39)
    (case qa => k_is)
    refine' VL.st_no (x := "len") KX G ?qa (fun z_len => ?zz40)
    (case qa => k_is)
    refine' VL.st_no (x := "list") KX G ?qa (fun z_list => ?zz41)
    (case qa => k_is)
    refine' VL.st_no (x := "max") KX G ?qa (fun z_max => ?zz42)
    (case qa => k_is)
    refine' VL.st_no (x := "min") KX G ?qa (fun z_min => ?zz43)
    (case qa => k_is)
    refine' VL.st_no (x := "range") KX G ?qa (fun z_range => ?zz44)
    (case qa => k_is)
    refine' VL.st_no (x := "sorted") KX G ?qa (fun z_sorted => ?zz45)
    (case qa => k_is)
    refine' VL.st_no (x := "str") KX G ?qa (fun z_str => ?zz46)
    (case qa => k_is)
    refine' VL.st_no (x := "sum") KX G ?qa (fun z_sum => ?zz47)
    (case qa => k_is)
    refine' VL.st_no (x := "tuple") KX G ?qa (fun z_tuple => ?zz48)
    (case qa => k_is)
    refine' VL.st_no (x := "zip") KX G ?qa (fun z_zip => ?zz49)
    (case qa => k_is)
    refine' VL.st_bi (x := "gcd") "math.gcd" KX G ?qa (fun g_gcd => ?zi50)
    (case qa => k_is)
    exact VL.law_end hmg d_law (fun _ _ _ _ _ _ _ => rfl) fun base => VL.ok_law (k := 0) ⟨d_is_whole, d_is_between, d_is_tuple_of, d_are_wholes, d_is_text_of, d_is_order, d_columned_places, d_signs_of, d_is_typed_text, d_check_whole, d_check_text, d_put_by, d_put_back_by, d_times_back, d_check_order, d_columned, d_columned_back, d_column_order, d__law_well, d__law_take, d__law_pick, d__law_same, d__law_shuffled, d__law_places, d__law_comes_back, d__law_text_right, d__law_number_right, d__law_order, d__law_round, d_law, c_MOST_COLUMNS, c_SIGNS, c_LONGEST, z_abs, z_all, z_bool, z_dict, z_divmod, z_int, z_isinstance, z_len, z_list, z_max, z_min, z_range, z_sorted, z_str, z_sum, z_tuple, z_zip, g_gcd⟩
