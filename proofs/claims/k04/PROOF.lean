import PyProof.Rows.All
import OpenK.AllK
import HandS.ForMost
import HandS.ForExc
import HandS.Walk
import HandS.Flow
import HandS.NoneIn
import HandS.Small
import HandS.IsInst
import HandS.CallSlots
import HandS.Wide
import HandS.Ends
import HandS.More
import HandS.Words
import HandS.WordsExc
import HandS.Defaults
import HandS.Head0
import HandS.Head1
import HandS.Head2
import HandS.HeadEnd
import HandS.HeadHook1
import HandS.HeadHook2
import KE.KeyNested
import HandS.TupAny
import HandS.Deep
import HandS.Zip
import HandS.ExcIs
import HandS.Style
import KE.KRevSl
import HandS.WideBits
import KE.SortData
import KE.DataMinMax
import HandS.Sort
import KE.KDictSum
import HandS.Conv
import HandS.TupLen
import HandS.ClsMeth
import HandS.SortKw
import HandS.SetFor
import HandS.Strs
import KE.DataFind
import PyProof.TupleOps
import KE.GoesMore
import KE.GoesEnum
import HandS.Finally
import KE.KDictZip
import HandS.Text
import HandS.RaiseMore
import HandS.TryOnly
import HandS.Codes
import PySem.Challenge.RW_twomakes_k04_written_and_read
set_option Elab.async false
set_option linter.all false
set_option maxRecDepth 100000
set_option maxHeartbeats 4000000
namespace Tw
open PySem PySem.Spec PyProof.Rows L2

abbrev D := PyData
inductive M where
  | dead
  | fz (d : D)
  | lst (l : List M)
  | tup (l : List M)
  | dct (l : List (Key × M))
  | ins (c : String) (l : List (Str × M))
  | exc (c : String)
  | scr (ns : List Int)
  | tds (ks : List NestedKey)
abbrev Γ := List M
structure Mg where
  f : Str → Option Value
  w : World
instance : CoeFun Mg (fun _ => Str → Option Value) := ⟨Mg.f⟩
abbrev _root_.L2.Cx.mgw (X : Cx) : Mg := ⟨X.mg, X.w⟩
abbrev Fr := PySem.W.Frag

def keyDt : Key → D
  | .inl i => .int i
  | .inr s => .str s
mutual
def M.frz : M → Option D
  | .fz d => some d
  | .lst l => (M.frzs l).map .list
  | .tup l => (M.frzs l).map .tuple
  | .dct l => (M.frzk l).map .dict
  | _ => none
def M.frzk : List (Key × M) → Option (List (D × D))
  | [] => some []
  | (k, m) :: ms => match m.frz with
    | none => none
    | some d => match M.frzk ms with
      | none => none
      | some ds => some ((keyDt k, d) :: ds)
def M.frzs : List M → Option (List D)
  | [] => some []
  | m :: ms => match m.frz with
    | none => none
    | some d => match M.frzs ms with
      | none => none
      | some ds => some (d :: ds)
end
@[simp] theorem frz_fz (d : D) : (M.fz d).frz = some d := by simp [M.frz]
@[simp] theorem frz_lst (l : List M) : (M.lst l).frz = (M.frzs l).map .list := by simp [M.frz]
@[simp] theorem frz_tup (l : List M) : (M.tup l).frz = (M.frzs l).map .tuple := by simp [M.frz]
@[simp] theorem frz_dct (l : List (Key × M)) : (M.dct l).frz = (M.frzk l).map .dict := by simp [M.frz]
@[simp] theorem frzk_nil : M.frzk [] = some [] := by simp [M.frzk]
@[simp] theorem frzk_cons (k : Key) (m : M) (ms : List (Key × M)) : M.frzk ((k, m) :: ms) = (match m.frz with
    | none => none
    | some d => match M.frzk ms with
      | none => none
      | some ds => some ((keyDt k, d) :: ds)) := by simp [M.frzk]
@[simp] theorem frzs_nil : M.frzs [] = some [] := by simp [M.frzs]
@[simp] theorem frzs_cons (m : M) (ms : List M) : M.frzs (m :: ms) = (match m.frz with
    | none => none
    | some d => match M.frzs ms with
      | none => none
      | some ds => some (d :: ds)) := by simp [M.frzs]
@[simp] theorem frzs_map (ds : List D) : M.frzs (ds.map .fz) = some ds := by
  induction ds with
  | nil => simp
  | cons d ds ih => simp [ih]

def ScrAt (K : Fr) (H : Hp) (a : Addr) (xs : List V) : Prop := (∃ o, H a = some (.frz o (.lst xs))) ∨
  ∃ (o : Obj) (its : Array Value) (n : Nat), K.lookup a = some o ∧ o.cls = .type "list" ∧ o.dict = none ∧ o.data = .seq its n ∧ its.size ≤ sizeLine ∧ Vals xs its.toList
theorem ScrAt.of {K : Fr} {H : Hp} {a : Addr} {xs : List V} (h : SqL K H a xs) (o : Only H) : ScrAt K H a xs := by
  rcases h with (h | h) | h
  · rcases o a with z | ⟨ob, ys, z⟩ <;> rw [h] at z <;> cases z
  · exact .inl h
  · exact .inr h
def ExH (C a : Addr) : HO := .ext fun h => ∃ oe : Obj, h.get? a = some oe ∧ Zc (.ref C) none oe ∧ ∃ vs, oe.data = .fields vs
noncomputable def isMut (b : Addr) : HO → Bool
  | .lst _ => true
  | .dK _ => true
  | .ins _ _ _ => true
  | .ext φ => @decide (¬ ∀ h : Heap, φ h → ∃ o vs, h.get? b = some o ∧ o.data = .fields vs) (Classical.propDecidable _)
  | _ => false
theorem exh_mut (C a : Addr) : isMut a (ExH C a) = false := by
  unfold isMut ExH
  simp only
  exact @decide_eq_false _ (Classical.propDecidable _) fun z => z fun h ⟨oe, h1, _, vs, h2⟩ => ⟨oe, vs, h1, h2⟩
def tdEnt (w : World) (x : NestedKey × Addr) : DictEntry := ⟨x.1.hash w, .ref x.2, .bool true⟩
def tdP (w : World) (a : Addr) (xs : List (NestedKey × Addr)) (h : Heap) : Prop := ∃ o es ep, h.get? a = some o ∧ o.ExactDict ∧ o.data = .dict es ep ∧ es.toList = xs.map (tdEnt w)
def tdO (w : World) (a : Addr) (xs : List (NestedKey × Addr)) : HO := .ext (tdP w a xs)
theorem heap_with (a : Addr) (o : Obj) (hf : o.isFreed = false) : ∃ h : Heap, h.get? a = some o := by
  refine ⟨⟨Array.replicate (a + 1) o, {}⟩, ?_⟩
  have e : (Array.replicate (a + 1) o)[a]? = some o := by simp
  unfold Heap.get?
  simp only [e]
  obtain ⟨c, d, dt, sl⟩ := o
  cases dt <;> first | rfl | cases hf
theorem td_mut (w : World) (a : Addr) (xs : List (NestedKey × Addr)) : isMut a (tdO w a xs) = true := by
  unfold isMut tdO
  simp only
  refine @decide_eq_true _ (Classical.propDecidable _) fun z => ?_
  obtain ⟨h, e⟩ := heap_with a { cls := .type "dict", data := .dict (xs.map (tdEnt w)).toArray } rfl
  obtain ⟨o, vs, h1, h2⟩ := z h ⟨_, _, _, e, ⟨rfl, rfl, rfl⟩, rfl, by simp⟩
  rw [e] at h1
  cases h1
  cases h2
section
variable (K : Fr) (mg : Mg) (H : Hp) (U : Addr → Prop)
def keyD : D → Key → Prop
  | .int i, k => k = .inl i
  | .str s, k => k = .inr s
  | _, _ => False
mutual
/-- v is the frozen data d: no list of it is at an address of U -/
def RD : D → V → Prop
  | .none, v => v = .non
  | .bool b, v => v = .bl b
  | .int i, v => v = .int i
  | .str s, v => v = .str s
  | .tuple ds, v => ∃ a xs, v = .ref a ∧ SqT K H a xs ∧ RDs ds xs
  | .list ds, v => ∃ a xs, v = .ref a ∧ H a = some (.lst xs) ∧ ¬ U a ∧ RDs ds xs
  | .dict kvs, v => ∃ a, v = .ref a ∧ ((∃ ks, H a = some (.dK ks) ∧ ¬ U a ∧ RKs kvs ks) ∨ RSp kvs a)
def RDs : List D → List V → Prop
  | [], xs => xs = []
  | d :: ds, xs => ∃ v vs, xs = v :: vs ∧ RD d v ∧ RDs ds vs
def RKs : List (D × D) → List (Key × V) → Prop
  | [], xs => xs = []
  | (k, d) :: ds, xs => ∃ q v vs, xs = (q, v) :: vs ∧ keyD k q ∧ RD d v ∧ RKs ds vs
/-- a dict with the one key None stands for a tuple of which it is known that it has no dict of its own -/
def RSp : List (D × D) → Addr → Prop
  | [], _ => False
  | (k, d) :: r, a => (k = .none ∧ r = []) ∧ RD d (.ref a) ∧ ∃ o xs, H a = some (.frz o (.tup xs)) ∧ o.cls = .type "tuple" ∧ o.dict = none
end
mutual
/-- v is m, its owned objects at S -/
def RM : M → V → List Addr → Prop
  | .dead, _, _ => False
  | .fz d, v, S => RD K H U d v ∧ S = []
  | .lst ms, v, S => ∃ a xs S', v = .ref a ∧ H a = some (.lst xs) ∧ S = a :: S' ∧ RMs ms xs S'
  | .tup ms, v, S => ∃ a xs, v = .ref a ∧ SqT K H a xs ∧ RMs ms xs S
  | .dct kms, v, S => ∃ a ks S', v = .ref a ∧ H a = some (.dK ks) ∧ S = a :: S' ∧ RMk kms ks S'
  | .ins c fms, v, S => ∃ a C dx fs S', v = .ref a ∧ mg (Str.ofString c) = some (.ref C) ∧ H a = some (.ins C dx fs) ∧ S = a :: S' ∧ RMf fms fs S'
  | .exc c, v, S => (∃ a C, v = .ref a ∧ mg (Str.ofString c) = some (.ref C) ∧ H a = some (ExH C a)) ∧ S = []
  | .scr ns, v, S => (∃ a, v = .ref a ∧ ScrAt K H a (ns.map V.int)) ∧ S = []
  | .tds ks, v, S => ∃ a xs, v = .ref a ∧ xs.map (·.1) = ks ∧ H a = some (tdO mg.w a xs) ∧ ks.Nodup ∧ (a == sysModules) = false ∧ (∀ x ∈ xs, RD K H U (NestedKey.data x.1) (.ref x.2) ∧ x.1.depth ≤ 8) ∧ S = [a]
def RMs : List M → List V → List Addr → Prop
  | [], xs, S => xs = [] ∧ S = []
  | m :: ms, xs, S => ∃ v vs S1 S2, xs = v :: vs ∧ S = S1 ++ S2 ∧ RM m v S1 ∧ RMs ms vs S2
def RMk : List (Key × M) → List (Key × V) → List Addr → Prop
  | [], xs, S => xs = [] ∧ S = []
  | (k, m) :: ms, xs, S => ∃ v vs S1 S2, xs = (k, v) :: vs ∧ S = S1 ++ S2 ∧ RM m v S1 ∧ RMk ms vs S2
def RMf : List (Str × M) → List (Str × V) → List Addr → Prop
  | [], xs, S => xs = [] ∧ S = []
  | (k, m) :: ms, xs, S => ∃ v vs S1 S2, xs = (k, v) :: vs ∧ S = S1 ++ S2 ∧ RM m v S1 ∧ RMf ms vs S2
end
def R1 (m : M) (s : Option V) (S : List Addr) : Prop := match m with
  | .dead => S = []
  | m => ∃ v, s = some v ∧ RM K mg H U m v S
def RS : List M → List (Option V) → List Addr → Prop
  | [], σ, S => σ = [] ∧ S = []
  | m :: ms, σ, S => ∃ s σ' S1 S2, σ = s :: σ' ∧ S = S1 ++ S2 ∧ R1 K mg H U m s S1 ∧ RS ms σ' S2
end

section
variable {K : Fr} {mg : Mg} {H H' : Hp} {U U' : Addr → Prop}
structure Keep (H H' : Hp) (U U' : Addr → Prop) : Prop where
  obj : ∀ b o, H b = some o → (isMut b o = true → ¬ U b) → H' b = some o
  un : ∀ b, H b ≠ none → ¬ U b → ¬ U' b
theorem Keep.sqT (k : Keep H H' U U') {a : Addr} {xs : List V} (h : SqT K H a xs) : SqT K H' a xs := by
  rcases h with (h | ⟨o, h⟩) | h
  · exact .inl (.inl (k.obj _ _ h (by intro z; cases z)))
  · exact .inl (.inr ⟨o, k.obj _ _ h (by intro z; cases z)⟩)
  · exact .inr h
theorem Keep.rdL (k : Keep H H' U U') {a : Addr} {xs : List V} (h : H a = some (.lst xs)) (u : ¬ U a) : H' a = some (.lst xs) ∧ ¬ U' a :=
  ⟨k.obj _ _ h fun _ => u, k.un a (by rw [h]; exact (fun z => nomatch z)) u⟩
theorem Keep.scr (k : Keep H H' U U') {a : Addr} {xs : List V} (h : ScrAt K H a xs) : ScrAt K H' a xs := by
  rcases h with ⟨o, h⟩ | h
  · exact .inl ⟨o, k.obj _ _ h (by intro z; cases z)⟩
  · exact .inr h
mutual
theorem RD.keep (k : Keep H H' U U') : ∀ (d : D) (v : V), RD K H U d v → RD K H' U' d v
  | .none, _, h => by simpa only [RD] using h
  | .bool _, _, h => by simpa only [RD] using h
  | .int _, _, h => by simpa only [RD] using h
  | .str _, _, h => by simpa only [RD] using h
  | .tuple ds, v, h => by
    rw [RD] at h
    obtain ⟨a, xs, e, q, r⟩ := h
    rw [RD]
    exact ⟨a, xs, e, k.sqT q, RDs.keep k ds xs r⟩
  | .list ds, v, h => by
    rw [RD] at h
    obtain ⟨a, xs, e, q, u, r⟩ := h
    rw [RD]
    obtain ⟨q', u'⟩ := k.rdL q u
    exact ⟨a, xs, e, q', u', RDs.keep k ds xs r⟩
  | .dict kvs, v, h => by
    rw [RD] at h
    obtain ⟨a, e, ⟨xs, q, u, r⟩ | r⟩ := h
    · rw [RD]
      exact ⟨a, e, .inl ⟨xs, k.obj _ _ q fun _ => u, k.un a (by rw [q]; exact (fun z => nomatch z)) u, RKs.keep k kvs xs r⟩⟩
    · rw [RD]
      exact ⟨a, e, .inr (RSp.keep k kvs a r)⟩
theorem RSp.keep (k : Keep H H' U U') : ∀ (ds : List (D × D)) (a : Addr), RSp K H U ds a → RSp K H' U' ds a
  | [], _, h => by rw [RSp] at h; exact h.elim
  | (x, d) :: ds, a, h => by
    rw [RSp] at h
    obtain ⟨e, r, o, xs, q, c1, c2⟩ := h
    rw [RSp]
    exact ⟨e, RD.keep k d _ r, o, xs, k.obj _ _ q (by intro z; cases z), c1, c2⟩
theorem RDs.keep (k : Keep H H' U U') : ∀ (ds : List D) (vs : List V), RDs K H U ds vs → RDs K H' U' ds vs
  | [], _, h => by simpa only [RDs] using h
  | d :: ds, vs, h => by
    rw [RDs] at h
    obtain ⟨v, ws, e, r, q⟩ := h
    rw [RDs]
    exact ⟨v, ws, e, RD.keep k d v r, RDs.keep k ds ws q⟩
theorem RKs.keep (k : Keep H H' U U') : ∀ (ds : List (D × D)) (vs : List (Key × V)), RKs K H U ds vs → RKs K H' U' ds vs
  | [], _, h => by simpa only [RKs] using h
  | (x, d) :: ds, vs, h => by
    rw [RKs] at h
    obtain ⟨q, v, ws, e, z, r, y⟩ := h
    rw [RKs]
    exact ⟨q, v, ws, e, z, RD.keep k d v r, RKs.keep k ds ws y⟩
end
structure KeepM (H H' : Hp) (U U' : Addr → Prop) (S : List Addr) : Prop extends Keep H H' U U' where
  own : ∀ b ∈ S, ∀ o, H b = some o → H' b = some o
theorem KeepM.sub {S S' : List Addr} (k : KeepM H H' U U' S) (h : ∀ b ∈ S', b ∈ S) : KeepM H H' U U' S' := ⟨k.toKeep, fun b hb => k.own b (h b hb)⟩
mutual
theorem RM.keep : ∀ (m : M) (v : V) (S : List Addr), KeepM H H' U U' S → RM K mg H U m v S → RM K mg H' U' m v S
  | .dead, _, _, _, h => by simp only [RM] at h
  | .fz d, v, S, k, h => by
    rw [RM] at h ⊢
    exact ⟨RD.keep k.toKeep d v h.1, h.2⟩
  | .lst ms, v, S, k, h => by
    rw [RM] at h ⊢
    obtain ⟨a, xs, S', e, q, z, r⟩ := h
    exact ⟨a, xs, S', e, k.own a (by rw [z]; exact List.mem_cons_self) _ q, z, RMs.keep ms xs S' (k.sub fun b hb => by rw [z]; exact List.mem_cons_of_mem _ hb) r⟩
  | .tup ms, v, S, k, h => by
    rw [RM] at h ⊢
    obtain ⟨a, xs, e, q, r⟩ := h
    exact ⟨a, xs, e, k.sqT q, RMs.keep ms xs S k r⟩
  | .dct ms, v, S, k, h => by
    rw [RM] at h ⊢
    obtain ⟨a, xs, S', e, q, z, r⟩ := h
    exact ⟨a, xs, S', e, k.own a (by rw [z]; exact List.mem_cons_self) _ q, z, RMk.keep ms xs S' (k.sub fun b hb => by rw [z]; exact List.mem_cons_of_mem _ hb) r⟩
  | .ins c ms, v, S, k, h => by
    rw [RM] at h ⊢
    obtain ⟨a, C, dx, fs, S', e, g, q, z, r⟩ := h
    exact ⟨a, C, dx, fs, S', e, g, k.own a (by rw [z]; exact List.mem_cons_self) _ q, z, RMf.keep ms fs S' (k.sub fun b hb => by rw [z]; exact List.mem_cons_of_mem _ hb) r⟩
  | .exc c, v, S, k, h => by
    rw [RM] at h ⊢
    obtain ⟨⟨a, C, e, g, q⟩, z⟩ := h
    exact ⟨⟨a, C, e, g, k.obj _ _ q fun m => absurd m (by rw [exh_mut]; decide)⟩, z⟩
  | .scr ns, v, S, k, h => by
    rw [RM] at h ⊢
    obtain ⟨⟨a, e, q⟩, z⟩ := h
    exact ⟨⟨a, e, k.toKeep.scr q⟩, z⟩
  | .tds ks, v, S, k, h => by
    rw [RM] at h ⊢
    obtain ⟨a, xs, e, x, t1, t2, t3, t4, z⟩ := h
    exact ⟨a, xs, e, x, k.own a (by rw [z]; exact List.mem_cons_self) _ t1, t2, t3, fun y hy => ⟨RD.keep k.toKeep _ _ (t4 y hy).1, (t4 y hy).2⟩, z⟩
theorem RMs.keep : ∀ (ms : List M) (vs : List V) (S : List Addr), KeepM H H' U U' S → RMs K mg H U ms vs S → RMs K mg H' U' ms vs S
  | [], _, _, _, h => by simpa only [RMs] using h
  | m :: ms, vs, S, k, h => by
    rw [RMs] at h ⊢
    obtain ⟨v, ws, S1, S2, e, z, r, q⟩ := h
    exact ⟨v, ws, S1, S2, e, z, RM.keep m v S1 (k.sub fun b hb => by rw [z]; exact List.mem_append_left _ hb) r, RMs.keep ms ws S2 (k.sub fun b hb => by rw [z]; exact List.mem_append_right _ hb) q⟩
theorem RMk.keep : ∀ (ms : List (Key × M)) (vs : List (Key × V)) (S : List Addr), KeepM H H' U U' S → RMk K mg H U ms vs S → RMk K mg H' U' ms vs S
  | [], _, _, _, h => by simpa only [RMk] using h
  | (x, m) :: ms, vs, S, k, h => by
    rw [RMk] at h ⊢
    obtain ⟨v, ws, S1, S2, e, z, r, q⟩ := h
    exact ⟨v, ws, S1, S2, e, z, RM.keep m v S1 (k.sub fun b hb => by rw [z]; exact List.mem_append_left _ hb) r, RMk.keep ms ws S2 (k.sub fun b hb => by rw [z]; exact List.mem_append_right _ hb) q⟩
theorem RMf.keep : ∀ (ms : List (Str × M)) (vs : List (Str × V)) (S : List Addr), KeepM H H' U U' S → RMf K mg H U ms vs S → RMf K mg H' U' ms vs S
  | [], _, _, _, h => by simpa only [RMf] using h
  | (x, m) :: ms, vs, S, k, h => by
    rw [RMf] at h ⊢
    obtain ⟨v, ws, S1, S2, e, z, r, q⟩ := h
    exact ⟨v, ws, S1, S2, e, z, RM.keep m v S1 (k.sub fun b hb => by rw [z]; exact List.mem_append_left _ hb) r, RMf.keep ms ws S2 (k.sub fun b hb => by rw [z]; exact List.mem_append_right _ hb) q⟩
end
theorem R1.keep {m : M} {s : Option V} {S : List Addr} (k : KeepM H H' U U' S) (h : R1 K mg H U m s S) : R1 K mg H' U' m s S := by
  cases m with
  | dead => exact h
  | _ =>
    obtain ⟨v, e, r⟩ := h
    exact ⟨v, e, RM.keep _ v S k r⟩
theorem RS.keep : ∀ (ms : List M) (vs : List (Option V)) (S : List Addr), KeepM H H' U U' S → RS K mg H U ms vs S → RS K mg H' U' ms vs S
  | [], _, _, _, h => by simpa only [RS] using h
  | m :: ms, vs, S, k, h => by
    rw [RS] at h ⊢
    obtain ⟨v, ws, S1, S2, e, z, r, q⟩ := h
    exact ⟨v, ws, S1, S2, e, z, R1.keep (k.sub fun b hb => by rw [z]; exact List.mem_append_left _ hb) r, RS.keep ms ws S2 (k.sub fun b hb => by rw [z]; exact List.mem_append_right _ hb) q⟩

mutual
theorem RM.mut : ∀ (m : M) (v : V) (S : List Addr), RM K mg H U m v S → ∀ b ∈ S, ∃ o, H b = some o ∧ isMut b o = true
  | .dead, _, _, h => by simp only [RM] at h
  | .fz d, v, S, h => by
    rw [RM] at h
    rw [h.2]
    intro b hb
    cases hb
  | .lst ms, v, S, h => by
    rw [RM] at h
    obtain ⟨a, xs, S', e, q, z, r⟩ := h
    subst z
    intro b hb
    rcases List.mem_cons.mp hb with rfl | hb
    · exact ⟨_, q, rfl⟩
    · exact RMs.mut ms xs S' r b hb
  | .tup ms, v, S, h => by
    rw [RM] at h
    obtain ⟨a, xs, e, q, r⟩ := h
    exact RMs.mut ms xs S r
  | .dct ms, v, S, h => by
    rw [RM] at h
    obtain ⟨a, xs, S', e, q, z, r⟩ := h
    subst z
    intro b hb
    rcases List.mem_cons.mp hb with rfl | hb
    · exact ⟨_, q, rfl⟩
    · exact RMk.mut ms xs S' r b hb
  | .ins c ms, v, S, h => by
    rw [RM] at h
    obtain ⟨a, C, dx, fs, S', e, g, q, z, r⟩ := h
    subst z
    intro b hb
    rcases List.mem_cons.mp hb with rfl | hb
    · exact ⟨_, q, rfl⟩
    · exact RMf.mut ms fs S' r b hb
  | .exc c, v, S, h => by
    rw [RM] at h
    rw [h.2]
    intro b hb
    cases hb
  | .scr ns, v, S, h => by
    rw [RM] at h
    rw [h.2]
    intro b hb
    cases hb
  | .tds ks, v, S, h => by
    rw [RM] at h
    obtain ⟨a, xs, e, x, t1, t2, t3, t4, z⟩ := h
    rw [z]
    intro b hb
    rw [List.mem_singleton.mp hb]
    exact ⟨_, t1, td_mut _ _ _⟩
theorem RMs.mut : ∀ (ms : List M) (vs : List V) (S : List Addr), RMs K mg H U ms vs S → ∀ b ∈ S, ∃ o, H b = some o ∧ isMut b o = true
  | [], _, S, h => by
    rw [RMs] at h
    rw [h.2]
    intro b hb
    cases hb
  | m :: ms, vs, S, h => by
    rw [RMs] at h
    obtain ⟨v, ws, S1, S2, e, z, r, q⟩ := h
    subst z
    intro b hb
    rcases List.mem_append.mp hb with hb | hb
    · exact RM.mut m v S1 r b hb
    · exact RMs.mut ms ws S2 q b hb
theorem RMk.mut : ∀ (ms : List (Key × M)) (vs : List (Key × V)) (S : List Addr), RMk K mg H U ms vs S → ∀ b ∈ S, ∃ o, H b = some o ∧ isMut b o = true
  | [], _, S, h => by
    rw [RMk] at h
    rw [h.2]
    intro b hb
    cases hb
  | (x, m) :: ms, vs, S, h => by
    rw [RMk] at h
    obtain ⟨v, ws, S1, S2, e, z, r, q⟩ := h
    subst z
    intro b hb
    rcases List.mem_append.mp hb with hb | hb
    · exact RM.mut m v S1 r b hb
    · exact RMk.mut ms ws S2 q b hb
theorem RMf.mut : ∀ (ms : List (Str × M)) (vs : List (Str × V)) (S : List Addr), RMf K mg H U ms vs S → ∀ b ∈ S, ∃ o, H b = some o ∧ isMut b o = true
  | [], _, S, h => by
    rw [RMf] at h
    rw [h.2]
    intro b hb
    cases hb
  | (x, m) :: ms, vs, S, h => by
    rw [RMf] at h
    obtain ⟨v, ws, S1, S2, e, z, r, q⟩ := h
    subst z
    intro b hb
    rcases List.mem_append.mp hb with hb | hb
    · exact RM.mut m v S1 r b hb
    · exact RMf.mut ms ws S2 q b hb
end
theorem R1.mut {m : M} {s : Option V} {S : List Addr} (h : R1 K mg H U m s S) : ∀ b ∈ S, ∃ o, H b = some o ∧ isMut b o = true := by
  cases m with
  | dead => rw [show S = [] from h]; intro b hb; cases hb
  | _ =>
    obtain ⟨v, e, r⟩ := h
    exact RM.mut _ v S r
theorem RS.mut : ∀ (ms : List M) (vs : List (Option V)) (S : List Addr), RS K mg H U ms vs S → ∀ b ∈ S, ∃ o, H b = some o ∧ isMut b o = true
  | [], _, S, h => by
    rw [RS] at h
    rw [h.2]
    intro b hb
    cases hb
  | m :: ms, vs, S, h => by
    rw [RS] at h
    obtain ⟨v, ws, S1, S2, e, z, r, q⟩ := h
    subst z
    intro b hb
    rcases List.mem_append.mp hb with hb | hb
    · exact R1.mut r b hb
    · exact RS.mut ms ws S2 q b hb

mutual
theorem RM.frz : ∀ (m : M) (v : V) (S : List Addr) (d : D), RM K mg H U m v S → m.frz = some d → (∀ b, H b ≠ none → ¬ U b ∨ b ∈ S → ¬ U' b) → RD K H U' d v
  | .dead, _, _, _, h, _, _ => by simp only [RM] at h
  | .fz d, v, S, d', h, e, hu => by
    rw [RM] at h
    rw [frz_fz] at e
    cases e
    exact RD.keep ⟨fun b o q _ => q, fun b hb u => hu b hb (.inl u)⟩ d v h.1
  | .lst ms, v, S, d', h, e, hu => by
    rw [RM] at h
    obtain ⟨a, xs, S', e1, q, z, r⟩ := h
    rw [frz_lst] at e
    cases hq : M.frzs ms with
    | none => rw [hq] at e; cases e
    | some ds =>
      rw [hq] at e
      cases e
      rw [RD]
      exact ⟨a, xs, e1, q, hu a (by rw [q]; exact (fun z => nomatch z)) (.inr (by rw [z]; exact List.mem_cons_self)), RMs.frz ms xs S' ds r hq fun b hb hc => hu b hb (hc.elim .inl fun hm => .inr (by rw [z]; exact List.mem_cons_of_mem _ hm))⟩
  | .tup ms, v, S, d', h, e, hu => by
    rw [RM] at h
    obtain ⟨a, xs, e1, q, r⟩ := h
    rw [frz_tup] at e
    cases hq : M.frzs ms with
    | none => rw [hq] at e; cases e
    | some ds =>
      rw [hq] at e
      cases e
      rw [RD]
      exact ⟨a, xs, e1, q, RMs.frz ms xs S ds r hq hu⟩
  | .dct ms, v, S, d', h, e, hu => by
    rw [RM] at h
    obtain ⟨a, xs, S', e1, q, z, r⟩ := h
    rw [frz_dct] at e
    cases hq : M.frzk ms with
    | none => rw [hq] at e; cases e
    | some ds =>
      rw [hq] at e
      cases e
      rw [RD]
      exact ⟨a, e1, .inl ⟨xs, q, hu a (by rw [q]; exact (fun z => nomatch z)) (.inr (by rw [z]; exact List.mem_cons_self)), RMk.frz ms xs S' ds r hq fun b hb hc => hu b hb (hc.elim .inl fun hm => .inr (by rw [z]; exact List.mem_cons_of_mem _ hm))⟩⟩
  | .ins _ _, _, _, _, _, e, _ => by simp [M.frz] at e
  | .exc _, _, _, _, _, e, _ => by simp [M.frz] at e
  | .scr _, _, _, _, _, e, _ => by simp [M.frz] at e
theorem RMk.frz : ∀ (ms : List (Key × M)) (vs : List (Key × V)) (S : List Addr) (ds : List (D × D)), RMk K mg H U ms vs S → M.frzk ms = some ds → (∀ b, H b ≠ none → ¬ U b ∨ b ∈ S → ¬ U' b) → RKs K H U' ds vs
  | [], vs, S, ds, h, e, _ => by
    rw [RMk] at h
    rw [frzk_nil] at e
    cases e
    rw [RKs]
    exact h.1
  | (k, m) :: ms, vs, S, ds, h, e, hu => by
    rw [RMk] at h
    obtain ⟨v, ws, S1, S2, e1, z, r, q⟩ := h
    rw [frzk_cons] at e
    cases h1 : m.frz with
    | none => rw [h1] at e; cases e
    | some d =>
      rw [h1] at e
      cases h2 : M.frzk ms with
      | none => rw [h2] at e; cases e
      | some ds' =>
        rw [h2] at e
        cases e
        rw [RKs]
        exact ⟨k, v, ws, e1, (by cases k <;> rfl), RM.frz m v S1 d r h1 fun b hb hc => hu b hb (hc.elim .inl fun hm => .inr (by rw [z]; exact List.mem_append_left _ hm)), RMk.frz ms ws S2 ds' q h2 fun b hb hc => hu b hb (hc.elim .inl fun hm => .inr (by rw [z]; exact List.mem_append_right _ hm))⟩
theorem RMs.frz : ∀ (ms : List M) (vs : List V) (S : List Addr) (ds : List D), RMs K mg H U ms vs S → M.frzs ms = some ds → (∀ b, H b ≠ none → ¬ U b ∨ b ∈ S → ¬ U' b) → RDs K H U' ds vs
  | [], _, _, _, h, e, _ => by
    rw [RMs] at h
    rw [frzs_nil] at e
    cases e
    rw [RDs]
    exact h.1
  | m :: ms, vs, S, ds, h, e, hu => by
    rw [RMs] at h
    obtain ⟨v, ws, S1, S2, e1, z, r, q⟩ := h
    rw [frzs_cons] at e
    cases h1 : m.frz with
    | none => rw [h1] at e; cases e
    | some d =>
      rw [h1] at e
      cases h2 : M.frzs ms with
      | none => rw [h2] at e; cases e
      | some ds' =>
        rw [h2] at e
        cases e
        rw [RDs]
        exact ⟨v, ws, e1, RM.frz m v S1 d r h1 fun b hb hc => hu b hb (hc.elim .inl fun hm => .inr (by rw [z]; exact List.mem_append_left _ hm)), RMs.frz ms ws S2 ds' q h2 fun b hb hc => hu b hb (hc.elim .inl fun hm => .inr (by rw [z]; exact List.mem_append_right _ hm))⟩
end
end
end Tw

namespace Tw
open PySem PySem.Spec L2

inductive Out (α : Type) where
  | ok (a : α) (g : Γ)
  | err (c : String) (g : Γ)
  | bad
structure Tag {α : Type} (a : α) : Type where
def Out.bind {α β : Type} (x : Out α) (f : α → Γ → Out β) (_ : Tag f := ⟨⟩) : Out β := match x with
  | .ok a g => f a g
  | .err c g => .err c g
  | .bad => .bad
@[simp] theorem bind_ok {α β : Type} (a : α) (g : Γ) (f : α → Γ → Out β) : (Out.ok a g).bind f = f a g := (id rfl)
@[simp] theorem bind_err {α β : Type} (c : String) (g : Γ) (f : α → Γ → Out β) : (Out.err c g : Out α).bind f = .err c g := (id rfl)
@[simp] theorem bind_bad {α β : Type} (f : α → Γ → Out β) : (Out.bad : Out α).bind f = .bad := (id rfl)
inductive Fl where
  | nx | brk | ct
  | ret (m : M)
abbrev ME := Γ → Out M
abbrev MT := Γ → Out Bool
abbrev MA := Γ → Out (List M)
abbrev MS := Γ → Out Fl

abbrev Ad := Addr → Prop
def adT (A : Ad) (T : List Addr) : Ad := fun a => A a ∨ a ∈ T
def us (A : Ad) (S : List Addr) : Ad := fun a => A a ∨ a ∈ S
abbrev Pv := Nat → Option V

structure Env (K : Fr) (mg : Mg) (pv : Pv) (A : Ad) (σ : St) (γ : Γ) (H : Hp) (S : List Addr) : Prop where
  rep : RS K mg H (us A S) γ σ S
  nd : S.Nodup
  am : ∀ a, A a → a ∉ S ∧ H a ≠ none
  pin : ∀ i v, pv i = some v → σ[i]? = some (some v)
structure Go (H : Hp) (S : List Addr) (H' : Hp) (S' : List Addr) : Prop where
  obj : ∀ b o, H b = some o → b ∉ S → H' b = some o
  new : ∀ b ∈ S', b ∈ S ∨ H b = none
  keep : ∀ b, H b ≠ none → H' b ≠ none
theorem Go.refl {H : Hp} {S : List Addr} : Go H S H S := ⟨fun _ _ h _ => h, fun _ h => .inl h, fun _ h => h⟩
theorem Go.trans {H H1 H2 : Hp} {S S1 S2 : List Addr} (a : Go H S H1 S1) (b : Go H1 S1 H2 S2) : Go H S H2 S2 where
  obj := fun c o h hn => b.obj c o (a.obj c o h hn) fun hc => (a.new c hc).elim hn fun z => by rw [z] at h; cases h
  new := fun c hc => (b.new c hc).elim (fun h => a.new c h) fun z => .inr (by
    cases q : H c with
    | none => rfl
    | some o => exact absurd z (a.keep c (by rw [q]; exact (fun z => nomatch z))))
  keep := fun c h => b.keep c (a.keep c h)
theorem Go.sub {H H' : Hp} {S S' S2 : List Addr} (a : Go H S H' S') (h : ∀ b ∈ S2, b ∈ S') : Go H S H' S2 := ⟨a.obj, fun b hb => a.new b (h b hb), a.keep⟩
theorem Go.same {H H' : Hp} {S : List Addr} (h : Same H H') : Go H S H' S := ⟨fun b o e _ => h b o e, fun _ z => .inl z, fun b hb => by
  cases q : H b with
  | none => exact absurd q hb
  | some o => rw [h b o q]; exact (fun z => nomatch z)⟩

section
variable {K : Fr} {mg : Mg} {pv : Pv} {A A' : Ad} {σ : St} {γ : Γ} {H H' : Hp} {S S' T : List Addr}
theorem Env.mut (E : Env K mg pv A σ γ H S) : ∀ b ∈ S, ∃ o, H b = some o ∧ isMut b o = true := RS.mut γ σ S E.rep
theorem Env.here (E : Env K mg pv A σ γ H S) : ∀ b, us A S b → H b ≠ none := fun b h => h.elim (fun z => (E.am b z).2) fun z => by
  obtain ⟨o, q, _⟩ := E.mut b z
  rw [q]
  exact (fun z => nomatch z)
theorem Env.keep (E : Env K mg pv A σ γ H S) (g : Go H S H' S') : Keep H H' (us A S) (us A S') where
  obj := fun b o e hm => g.obj b o e fun hb => by
    obtain ⟨o', e', m⟩ := E.mut b hb
    rw [e] at e'
    cases e'
    exact hm m (.inr hb)
  un := fun b hb hn h => h.elim (fun z => hn (.inl z)) fun z => (g.new b z).elim (fun q => hn (.inr q)) hb
theorem Env.less (E : Env K mg pv A σ γ H S) (h : ∀ a, A' a → A a) : Env K mg pv A' σ γ H S where
  rep := RS.keep γ σ S ⟨⟨fun _ _ q _ => q, fun b _ hn hu => hn (hu.imp (h b) id)⟩, fun _ _ _ q => q⟩ E.rep
  nd := E.nd
  am := fun a ha => E.am a (h a ha)
  pin := E.pin
theorem Env.same (E : Env K mg pv A σ γ H S) (h : Same H H') : Env K mg pv A σ γ H' S where
  rep := RS.keep γ σ S ⟨⟨fun b o q _ => h b o q, fun b _ hn => hn⟩, fun b _ o q => h b o q⟩ E.rep
  nd := E.nd
  am := fun a ha => ⟨(E.am a ha).1, by
    cases q : H a with
    | none => exact absurd q (E.am a ha).2
    | some o => rw [h a o q]; exact (fun z => nomatch z)⟩
  pin := E.pin
end

section
variable (K : Fr) (mg : Mg) (W : WX)
def WantG {α : Type} (R : α → Γ → Prop) (Er : String → Γ → Prop) : Out α → Prop
  | .ok a g => R a g
  | .err c g => Er c g
  | .bad => False
def ErE (pv : Pv) (A : Ad) (σ : St) (H : Hp) (S : List Addr) (c : String) (γ' : Γ) : Prop :=
  ∀ C H' S', mg (Str.ofString c) = some (.ref C) → Go H S H' S' → Env K mg pv A σ γ' H' S' → W (.ref C) none σ H'
def WantE (pu : Bool) (pv : Pv) (A : Ad) (σ : St) (H : Hp) (S : List Addr) (Q : VK) : Out M → Prop :=
  WantG (fun r γ' => ∀ v H' S' T, Go H S H' (T ++ S') → (pu = true → S' = S ∧ Same H H') → Env K mg pv (adT A T) σ γ' H' S' → RM K mg H' (us (adT A T) S') r v T → T.Nodup → Q v H') (ErE K mg W pv A σ H S)
def WantT (pu : Bool) (pv : Pv) (A : Ad) (σ : St) (H : Hp) (S : List Addr) (Q : Bool → Hp → Prop) : Out Bool → Prop :=
  WantG (fun b γ' => ∀ H' S', Go H S H' S' → (pu = true → S' = S ∧ Same H H') → Env K mg pv A σ γ' H' S' → Q b H') (ErE K mg W pv A σ H S)
def WantD (pu : Bool) (pv : Pv) (A : Ad) (σ : St) (H : Hp) (S : List Addr) (Q : VK) : Out D → Prop :=
  WantG (fun d γ' => ∀ v H' S', Go H S H' S' → (pu = true → S' = S ∧ Same H H') → Env K mg pv A σ γ' H' S' → RD K H' (us A S') d v → Q v H') (ErE K mg W pv A σ H S)
def WantS (pv : Pv) (A : Ad) (H : Hp) (S : List Addr) (D : Ends) : Out Fl → Prop
  | .ok .nx γ' => ∀ σ' H' S', Go H S H' S' → Env K mg pv A σ' γ' H' S' → D.nx σ' H'
  | .ok .brk γ' => ∀ σ' H' S', Go H S H' S' → Env K mg pv A σ' γ' H' S' → D.bk σ' H'
  | .ok .ct γ' => ∀ σ' H' S', Go H S H' S' → Env K mg pv A σ' γ' H' S' → D.ct σ' H'
  | .ok (.ret r) γ' => ∀ v σ' H' S' T, Go H S H' (T ++ S') → Env K mg pv (adT A T) σ' γ' H' S' → RM K mg H' (us (adT A T) S') r v T → T.Nodup → D.rt v H'
  | .err c γ' => ∀ C σ' H' S', mg (Str.ofString c) = some (.ref C) → Go H S H' S' → Env K mg pv A σ' γ' H' S' → W (.ref C) none σ' H'
  | .bad => False
def tE (pu : Bool) (m : ME) : TE := fun σ H Q => ∃ pv A γ S, Env K mg pv A σ γ H S ∧ WantE K mg W pu pv A σ H S Q (m γ)
def tT (pu : Bool) (m : MT) : TT := fun σ H Q => ∃ pv A γ S, Env K mg pv A σ γ H S ∧ WantT K mg W pu pv A σ H S Q (m γ)
end
theorem WantG.mono {α : Type} {R R' : α → Γ → Prop} {Er Er' : String → Γ → Prop} : ∀ {o : Out α}, WantG R Er o → (∀ a g, R a g → R' a g) → (∀ c g, Er c g → Er' c g) → WantG R' Er' o
  | .ok _ _, w, h, _ => h _ _ w
  | .err _ _, w, _, h => h _ _ w
  | .bad, w, _, _ => w
theorem WantG.bind {α β : Type} {R : β → Γ → Prop} {Er : String → Γ → Prop} {k : α → Γ → Out β} : ∀ {o : Out α}, WantG R Er (o.bind k) → WantG (fun a g => WantG R Er (k a g)) Er o
  | .ok _ _, w => w
  | .err _ _, w => w
  | .bad, w => w
def Quiet {α : Type} (m : Γ → Out α) : Prop := ∀ γ, match m γ with
  | .ok _ γ' => γ' = γ
  | .err _ γ' => γ' = γ
  | .bad => True
structure J (X : Cx) (W : WX) (pu : Bool) (e : Expr) (m : ME) : Prop where
  pe : PE X e (tE X.K X.mgw W pu m)
  quiet : pu = true → Quiet m
structure JT (X : Cx) (W : WX) (pu : Bool) (e : Expr) (m : MT) : Prop where
  pe : PT X e (tT X.K X.mgw W pu m)
  quiet : pu = true → Quiet m
theorem PE.imp {X : Cx} {e : Expr} {t t' : TE} (h : PE X e t) (i : ∀ σ H Q, t' σ H Q → t σ H Q) : PE X e t' := ⟨fun pins s σ H Q I q => h.run pins s σ H Q I (i σ H Q q)⟩
theorem PT.imp {X : Cx} {e : Expr} {t t' : TT} (h : PT X e t) (i : ∀ σ H Q, t' σ H Q → t σ H Q) : PT X e t' := ⟨fun pins s σ H Q I q => h.run pins s σ H Q I (i σ H Q q)⟩
theorem PW.imp {X : Cx} {e : Expr} {t t' : TT} (h : PW X e t) (i : ∀ σ H Q, t' σ H Q → t σ H Q) : PW X e t' := ⟨fun w pins s σ H Q I q => h.run w pins s σ H Q I (i σ H Q q)⟩
theorem PA.imp {X : Cx} {e : List Expr} {t t' : TA} (h : PA X e t) (i : ∀ σ H Q, t' σ H Q → t σ H Q) : PA X e t' := ⟨fun pos pins s σ H Q I q => h.run pos pins s σ H Q I (i σ H Q q)⟩
theorem PS.imp {X : Cx} {e : Stmt} {t t' : TS} (h : PS X e t) (i : ∀ D σ H, t' D σ H → t D σ H) : PS X e t' := ⟨fun pins s σ H D I q => h.run pins s σ H D I (i D σ H q)⟩
theorem PSs.imp {X : Cx} {e : List Stmt} {t t' : TS} (h : PSs X e t) (i : ∀ D σ H, t' D σ H → t D σ H) : PSs X e t' := ⟨fun pins s σ H D I q => h.run pins s σ H D I (i D σ H q)⟩

section
variable {K : Fr} {mg : Mg} {W : WX} {pu : Bool} {pv : Pv} {A : Ad} {σ : St} {γ : Γ} {H H1 : Hp} {S S1 T : List Addr}
theorem ErE.go (g : Go H S H1 S1) {c : String} {γ' : Γ} (w : ErE K mg W pv A σ H S c γ') : ErE K mg W pv A σ H1 S1 c γ' := fun C H' S' hC g' => w C H' S' hC (g.trans g')
theorem WantS.go {D : Ends} (g : Go H S H1 S1) : ∀ {o : Out Fl}, WantS K mg W pv A H S D o → WantS K mg W pv A H1 S1 D o
  | .ok .nx _, w => fun σ' H' S' g' => w σ' H' S' (g.trans g')
  | .ok .brk _, w => fun σ' H' S' g' => w σ' H' S' (g.trans g')
  | .ok .ct _, w => fun σ' H' S' g' => w σ' H' S' (g.trans g')
  | .ok (.ret _) _, w => fun v σ' H' S' T g' => w v σ' H' S' T (g.trans g')
  | .err _ _, w => fun C σ' H' S' hC g' => w C σ' H' S' hC (g.trans g')
  | .bad, w => w
end

end Tw

namespace Tw
open PySem PySem.Spec L2

section
variable {K : Fr} {mg : Mg} {H : Hp} {U : Addr → Prop}
theorem RS.get : ∀ {ms : List M} {σ : St} {S : List Addr} {i : Nat} {m : M}, RS K mg H U ms σ S → ms[i]? = some m → ∃ s S1 S2 S3, σ[i]? = some s ∧ S = S1 ++ (S2 ++ S3) ∧ R1 K mg H U m s S2 ∧
    ∀ m' s' S2', R1 K mg H U m' s' S2' → RS K mg H U (ms.set i m') (σ.set i s') (S1 ++ (S2' ++ S3))
  | [], _, _, i, _, _, e => by simp at e
  | m0 :: ms, σ, S, i, m, h, e => by
    rw [RS] at h
    obtain ⟨s, σ', S1, S2, e1, z, r, q⟩ := h
    subst e1 z
    cases i with
    | zero =>
      have e' : m0 = m := by simpa using e
      subst e'
      refine ⟨s, [], S1, S2, rfl, rfl, r, fun m' s' S2' r' => ?_⟩
      show RS K mg H U (m' :: ms) (s' :: σ') (S2' ++ S2)
      rw [RS]
      exact ⟨s', σ', S2', S2, rfl, rfl, r', q⟩
    | succ i =>
      obtain ⟨s2, T1, T2, T3, h1, h2, h3, h4⟩ := RS.get (i := i) (m := m) q (by simpa using e)
      refine ⟨s2, S1 ++ T1, T2, T3, by simpa using h1, by rw [h2, List.append_assoc], h3, fun m' s' S2' r' => ?_⟩
      show RS K mg H U (m0 :: ms.set i m') (s :: σ'.set i s') _
      rw [RS]
      exact ⟨s, σ'.set i s', S1, T1 ++ (S2' ++ T3), rfl, by rw [List.append_assoc], r, h4 m' s' S2' r'⟩
theorem RS.len : ∀ {ms : List M} {σ : St} {S : List Addr}, RS K mg H U ms σ S → ms.length = σ.length
  | [], _, _, h => by rw [RS] at h; rw [h.1]; rfl
  | m :: ms, _, _, h => by
    rw [RS] at h
    obtain ⟨s, σ', S1, S2, e1, z, r, q⟩ := h
    rw [e1, List.length_cons, List.length_cons, q.len]
theorem R1.of {m : M} {v : V} {S : List Addr} (h : RM K mg H U m v S) : R1 K mg H U m (some v) S := by
  cases m with
  | dead => rw [RM] at h; exact h.elim
  | _ => exact ⟨v, rfl, h⟩
theorem R1.dead {s : Option V} : R1 K mg H U .dead s [] := rfl
theorem R1.val {m : M} {s : Option V} {S : List Addr} (h : R1 K mg H U m s S) (hd : m ≠ .dead) : ∃ v, s = some v ∧ RM K mg H U m v S := by
  cases m with
  | dead => exact absurd rfl hd
  | _ => exact h
end

section
variable {K : Fr} {mg : Mg} {pv : Pv} {A : Ad} {σ : St} {γ : Γ} {H H' : Hp} {S S' T : List Addr}
theorem Env.get (E : Env K mg pv A σ γ H S) {i : Nat} {m : M} (e : γ[i]? = some m) (hd : m ≠ .dead) : ∃ v S1 S2 S3, σ[i]? = some (some v) ∧ S = S1 ++ (S2 ++ S3) ∧ RM K mg H (us A S) m v S2 := by
  obtain ⟨s, S1, S2, S3, h1, h2, h3, _⟩ := E.rep.get e
  obtain ⟨v, rfl, r⟩ := h3.val hd
  exact ⟨v, S1, S2, S3, h1, h2, r⟩
theorem Env.fz (E : Env K mg pv A σ γ H S) {i : Nat} {d : D} (e : γ[i]? = some (.fz d)) : ∃ v, σ[i]? = some (some v) ∧ RD K H (us A S) d v := by
  obtain ⟨v, S1, S2, S3, h1, _, r⟩ := E.get e (by intro z; cases z)
  rw [RM] at r
  exact ⟨v, h1, r.1⟩
theorem RM.same {U U' : Addr → Prop} {m : M} {v : V} (h : RM K mg H U m v S) (i : ∀ b, H b ≠ none → U' b → U b) : RM K mg H U' m v S :=
  RM.keep m v S ⟨⟨fun _ _ q _ => q, fun b hb hn hu => hn (i b hb hu)⟩, fun _ _ _ q => q⟩ h
theorem RD.same {U U' : Addr → Prop} {d : D} {v : V} (h : RD K H U d v) (i : ∀ b, H b ≠ none → U' b → U b) : RD K H U' d v :=
  RD.keep ⟨fun _ _ q _ => q, fun b hb hn hu => hn (i b hb hu)⟩ d v h
theorem RD.up {U : Addr → Prop} {d : D} {v : V} (h : RD K H U d v) (s : Same H H') : RD K H' U d v :=
  RD.keep ⟨fun b o q _ => s b o q, fun b hb hn hu => hn hu⟩ d v h
theorem Env.put (E : Env K mg pv (adT A T) σ γ H S) {i : Nat} {m : M} {v : V} (hi : i < γ.length) (r : RM K mg H (us (adT A T) S) m v T) (nd : T.Nodup) (hA : ∀ a, A a → a ∉ T) (hp : pv i = none) :
    ∃ S', Env K mg pv A (σ.set i (some v)) (γ.set i m) H S' ∧ ∀ b ∈ S', b ∈ T ++ S := by
  obtain ⟨s, S1, S2, S3, h1, h2, h3, h4⟩ := E.rep.get (List.getElem?_eq_getElem hi)
  have q := h4 m (some v) T (R1.of r)
  have sub : ∀ b ∈ S1 ++ (T ++ S3), b ∈ T ∨ b ∈ S := fun b hb => by
    rw [h2]
    rcases List.mem_append.mp hb with hb | hb
    · exact .inr (List.mem_append_left _ hb)
    · rcases List.mem_append.mp hb with hb | hb
      · exact .inl hb
      · exact .inr (List.mem_append_right _ (List.mem_append_right _ hb))
  refine ⟨S1 ++ (T ++ S3), ⟨RS.keep _ _ _ ⟨⟨fun _ _ q _ => q, fun b _ hn hu => hn ?_⟩, fun _ _ _ q => q⟩ q, ?_, ?_, ?_⟩, fun b hb => List.mem_append.mpr (sub b hb)⟩
  · rcases hu with hu | hu
    · exact .inl (.inl hu)
    · rcases sub b hu with z | z
      · exact .inl (.inr z)
      · exact .inr z
  · have nS := E.nd
    rw [h2] at nS
    obtain ⟨n1, n23, d1⟩ := List.nodup_append.mp nS
    obtain ⟨n2, n3, d2⟩ := List.nodup_append.mp n23
    have hTS : ∀ b ∈ T, b ∉ S := fun b hb => (E.am b (.inr hb)).1
    refine List.nodup_append.mpr ⟨n1, List.nodup_append.mpr ⟨nd, n3, fun a ha b hb z => ?_⟩, fun a ha b hb z => ?_⟩
    · exact hTS a ha (by rw [h2, z]; exact List.mem_append_right _ (List.mem_append_right _ hb))
    · subst z
      rcases List.mem_append.mp hb with hb | hb
      · exact hTS a hb (by rw [h2]; exact List.mem_append_left _ ha)
      · exact d1 a ha a (List.mem_append_right _ hb) rfl
  · intro a ha
    refine ⟨fun hb => (sub a hb).elim (hA a ha) (E.am a (.inl ha)).1, (E.am a (.inl ha)).2⟩
  · intro j w hw
    have hne : i ≠ j := fun z => by rw [z, hw] at hp; cases hp
    rw [List.getElem?_set_ne hne]
    exact E.pin j w hw
end

section
variable (K : Fr) (mg : Mg) (W : WX)
def tD (pu : Bool) (m : Γ → Out D) : TE := fun σ H Q => ∃ pv A γ S, Env K mg pv A σ γ H S ∧ WantD K mg W pu pv A σ H S Q (m γ)
end
abbrev MD := Γ → Out D
structure JD (X : Cx) (W : WX) (pu : Bool) (e : Expr) (m : MD) : Prop where
  pe : PE X e (tD X.K X.mgw W pu m)
  quiet : pu = true → Quiet m
def mF (m : MD) : ME := fun γ => (m γ).bind fun d γ' => .ok (.fz d) γ'
def ofO {α β : Type} (o : Option α) (f : α → Out β) (_ : Tag f := ⟨⟩) : Out β := match o with
  | some a => f a
  | none => .bad
@[simp] theorem ofO_some {α β : Type} (a : α) (f : α → Out β) : ofO (some a) f = f a := (id rfl)
@[simp] theorem ofO_none {α β : Type} (f : α → Out β) : ofO (none : Option α) f = .bad := (id rfl)
def mD (m : ME) : MD := fun γ => (m γ).bind fun r γ' => ofO r.frz fun d => .ok d γ'
theorem quiet_bind {α β : Type} {m : Γ → Out α} {f : α → Γ → Out β} (h : Quiet m) (h2 : ∀ a, Quiet (f a)) : Quiet (fun γ => (m γ).bind f) := fun γ => by
  have q := h γ
  show match (m γ).bind f with | .ok _ γ' => γ' = γ | .err _ γ' => γ' = γ | .bad => True
  cases e : m γ with
  | bad => trivial
  | err c g => rw [e] at q; exact q
  | ok a g =>
    rw [e] at q
    have q' : g = γ := q
    subst q'
    exact h2 a g
theorem quiet_ok {α : Type} (a : α) : Quiet (fun γ => Out.ok a γ) := fun _ => rfl
theorem quiet_bad {α : Type} : Quiet (fun _ => (Out.bad : Out α)) := fun _ => trivial
theorem quiet_opt {α β : Type} (o : Option α) (f : α → Γ → Out β) (h : ∀ a, Quiet (f a)) : Quiet (fun γ => ofO o fun a => f a γ) := by
  cases o with
  | none => exact quiet_bad
  | some a => exact h a
section
variable {X : Cx} {W : WX} {pu pu' : Bool} {e : Expr} {m : MD} {me : ME}
theorem JD.j (h : JD X W pu e m) : J X W pu e (mF m) := by
  refine ⟨PE.imp h.pe fun σ H Q ⟨pv, A, γ, S, E, w⟩ => ⟨pv, A, γ, S, E, ?_⟩, fun z => quiet_bind (h.quiet z) fun a => quiet_ok _⟩
  unfold mF at w
  cases e : m γ with
  | bad => rw [e] at w; exact w
  | err c g => rw [e] at w; exact w
  | ok d g =>
    rw [e] at w
    exact fun v H' S' go p E' r => w v H' S' [] go p (E'.less fun a ha => ha.elim id fun z => nomatch z) ⟨r.same fun b hb hu => hu.imp (fun z => z.elim id fun z => nomatch z) id, rfl⟩ List.nodup_nil
theorem J.d (h : J X W pu e me) : JD X W pu e (mD me) := by
  refine ⟨PE.imp h.pe fun σ H Q ⟨pv, A, γ, S, E, w⟩ => ⟨pv, A, γ, S, E, ?_⟩, fun z => quiet_bind (h.quiet z) fun a => quiet_opt _ (fun d γ => Out.ok d γ) fun d => quiet_ok d⟩
  unfold mD at w
  cases e : me γ with
  | bad => rw [e] at w; exact w
  | err c g => rw [e] at w; exact w
  | ok r g =>
    rw [e] at w
    have w' : WantD X.K X.mgw W pu pv A σ H S Q (ofO r.frz fun d => .ok d g) := w
    cases q : r.frz with
    | none => rw [q] at w'; exact w'.elim
    | some d =>
      rw [q] at w'
      intro v H' S' T go p E' rm nd
      refine w' v H' S' (go.sub fun b hb => List.mem_append_right _ hb) p (E'.less fun a ha => .inl ha) (RM.frz r v T d rm q fun b hb hc hu => ?_)
      rcases hc with hc | hc
      · exact hc (hu.imp .inl id)
      · rcases hu with hu | hu
        · exact (go.new b (List.mem_append_left _ hc)).elim (E.am b hu).1 (E.am b hu).2
        · exact (E'.am b (.inr hc)).1 hu
end
end Tw

namespace Tw
open PySem PySem.Spec L2

section
variable {K : Fr} {mg : Mg} {H H' : Hp} {U : Addr → Prop}
@[simp] theorem rd_none {v : V} : RD K H U .none v ↔ v = .non := by rw [RD]
@[simp] theorem rd_bool {b : Bool} {v : V} : RD K H U (.bool b) v ↔ v = .bl b := by rw [RD]
@[simp] theorem rd_int {i : Int} {v : V} : RD K H U (.int i) v ↔ v = .int i := by rw [RD]
@[simp] theorem rd_str {x : Str} {v : V} : RD K H U (.str x) v ↔ v = .str x := by rw [RD]
theorem RDs.length : ∀ {ds : List D} {vs : List V}, RDs K H U ds vs → vs.length = ds.length
  | [], _, h => by rw [RDs] at h; rw [h]; rfl
  | d :: ds, _, h => by
    rw [RDs] at h
    obtain ⟨v, ws, e, r, q⟩ := h
    rw [e, List.length_cons, List.length_cons, q.length]
theorem RDs.append : ∀ {ds es : List D} {vs ws : List V}, RDs K H U ds vs → RDs K H U es ws → RDs K H U (ds ++ es) (vs ++ ws)
  | [], _, _, _, h, q => by rw [RDs] at h; rw [h]; exact q
  | d :: ds, es, _, ws, h, q => by
    rw [RDs] at h
    obtain ⟨v, us, e, r, z⟩ := h
    rw [e]
    show RDs K H U (d :: (ds ++ es)) _
    rw [RDs]
    exact ⟨v, us ++ ws, rfl, r, RDs.append z q⟩
theorem RDs.get : ∀ {ds : List D} {vs : List V} {i : Nat} {d : D}, RDs K H U ds vs → ds[i]? = some d → ∃ v, vs[i]? = some v ∧ RD K H U d v
  | [], _, _, _, _, e => by simp at e
  | d0 :: ds, _, i, d, h, e => by
    rw [RDs] at h
    obtain ⟨v, us, e1, r, z⟩ := h
    subst e1
    cases i with
    | zero =>
      have e' : d0 = d := by simpa using e
      subst e'
      exact ⟨v, rfl, r⟩
    | succ i =>
      obtain ⟨w, h1, h2⟩ := RDs.get (i := i) z (by simpa using e)
      exact ⟨w, by simpa using h1, h2⟩
theorem RDs.drop : ∀ {ds : List D} {vs : List V} (n : Nat), RDs K H U ds vs → RDs K H U (ds.drop n) (vs.drop n)
  | _, _, 0, h => h
  | [], _, n + 1, h => by rw [RDs] at h; rw [h]; rw [List.drop_nil, List.drop_nil, RDs]
  | d :: ds, _, n + 1, h => by
    rw [RDs] at h
    obtain ⟨v, us, e1, r, z⟩ := h
    subst e1
    exact RDs.drop n z
theorem RDs.take : ∀ {ds : List D} {vs : List V} (n : Nat), RDs K H U ds vs → RDs K H U (ds.take n) (vs.take n)
  | _, _, 0, _ => by rw [List.take_zero, List.take_zero, RDs]
  | [], _, n + 1, h => by rw [RDs] at h; rw [h]; rw [List.take_nil, List.take_nil, RDs]
  | d :: ds, _, n + 1, h => by
    rw [RDs] at h
    obtain ⟨v, us, e1, r, z⟩ := h
    subst e1
    rw [List.take_succ_cons, List.take_succ_cons, RDs]
    exact ⟨v, us.take n, rfl, r, RDs.take n z⟩
theorem RDs.up {ds : List D} {vs : List V} (h : RDs K H U ds vs) (s : Same H H') : RDs K H' U ds vs :=
  RDs.keep ⟨fun b o q _ => s b o q, fun b hb hn hu => hn hu⟩ ds vs h
theorem same_new {p : Addr} {o : HO} (h : H p = none) : Same H (upd H p o) := fun b u e => by
  rw [upd_ne (ne_of_none e h)]
  exact e
theorem rd_tup {ds : List D} {v : V} (h : RD K H U (.tuple ds) v) : ∃ a xs, v = .ref a ∧ SqT K H a xs ∧ RDs K H U ds xs := by rw [RD] at h; exact h
theorem rd_lst {ds : List D} {v : V} (h : RD K H U (.list ds) v) : ∃ a xs, v = .ref a ∧ H a = some (.lst xs) ∧ ¬ U a ∧ RDs K H U ds xs := by rw [RD] at h; exact h
mutual
/-- to the library's data, where == is asked -/
theorem RD.dp : ∀ (d : D) (v : V), RD K H U d v → PyData.canLay0 d = true → Dp K H v d
  | .none, v, h, _ => by rw [rd_none] at h; rw [h]; exact .non
  | .bool b, v, h, _ => by rw [rd_bool] at h; rw [h]; exact .bl b
  | .int i, v, h, _ => by rw [rd_int] at h; rw [h]; exact .int i
  | .str x, v, h, _ => by rw [rd_str] at h; rw [h]; exact .str x
  | .tuple ds, v, h, c => by
    obtain ⟨a, xs, e, q, r⟩ := rd_tup h
    rw [e]
    rw [PyData.canLay0] at c
    exact .tup q (RDs.dp ds xs r c)
  | .list ds, v, h, c => by
    obtain ⟨a, xs, e, q, u, r⟩ := rd_lst h
    rw [e]
    rw [PyData.canLay0] at c
    exact .lst (SqL.of q) (RDs.dp ds xs r c)
  | .dict _, _, _, c => by rw [PyData.canLay0] at c; cases c
theorem RDs.dp : ∀ (ds : List D) (vs : List V), RDs K H U ds vs → PyData.canLayAll0 ds = true → DpAll K H vs ds
  | [], _, h, _ => by rw [RDs] at h; rw [h]; exact .nil
  | d :: ds, _, h, c => by
    rw [RDs] at h
    obtain ⟨v, ws, e, r, q⟩ := h
    rw [PyData.canLayAll0, Bool.and_eq_true] at c
    rw [e]
    exact .cons (RD.dp d v r c.1) (RDs.dp ds ws q c.2)
end
end

section
variable {K : Fr} {mg : Mg} {W : WX} {pu : Bool} {pv : Pv} {A : Ad} {σ : St} {γ : Γ} {H H1 : Hp} {S S1 : List Addr}
theorem pure2 {p q : Bool} {H2 : Hp} {S2 : List Addr} (h1 : p = true → S1 = S ∧ Same H H1) (h2 : q = true → S2 = S1 ∧ Same H1 H2) : (p && q) = true → S2 = S ∧ Same H H2 := fun z => by
  rw [Bool.and_eq_true] at z
  obtain ⟨e1, s1⟩ := h1 z.1
  obtain ⟨e2, s2⟩ := h2 z.2
  exact ⟨e2.trans e1, s1.trans s2⟩
end


section
variable {X : Cx}
theorem RDs.rep {K : Fr} {H : Hp} {U : Addr → Prop} {ds : List D} {vs : List V} (h : RDs K H U ds vs) : ∀ n : Nat, RDs K H U (List.replicate n ds).flatten (List.replicate n vs).flatten
  | 0 => by rw [List.replicate_zero, List.replicate_zero, List.flatten_nil, List.flatten_nil, RDs]
  | n + 1 => by
    rw [List.replicate_succ, List.replicate_succ, List.flatten_cons, List.flatten_cons]
    exact h.append (RDs.rep h n)
end
end Tw

namespace Tw
open PySem PySem.Spec L2

structure JW (X : Cx) (W : WX) (pu : Bool) (e : Expr) (m : MT) : Prop where
  pw : PW X e (tT X.K X.mgw W pu m)
  quiet : pu = true → Quiet m
theorem JW.t {X : Cx} {W : WX} {pu : Bool} {e : Expr} {m : MT} (h : JW X W pu e m) : JT X W pu e m := ⟨h.pw.pt, h.quiet⟩
section
variable {K : Fr} {mg : Mg} {W : WX} {pu : Bool} {pv : Pv} {A : Ad} {σ : St} {γ : Γ} {H H1 : Hp} {S S1 : List Addr}
theorem WantD.at {q : Bool} {Q : VK} {o : Out D} (g : Go H S H1 S1) (h1 : pu = true → S1 = S ∧ Same H H1) (w : WantD K mg W (pu && q) pv A σ H S Q o) : WantD K mg W q pv A σ H1 S1 Q o :=
  WantG.mono w (fun d γ' w v H' S' go p E r => w v H' S' (g.trans go) (pure2 h1 p) E r) fun _ _ w => w.go g
theorem WantT.at {q : Bool} {Q : Bool → Hp → Prop} {o : Out Bool} (g : Go H S H1 S1) (h1 : pu = true → S1 = S ∧ Same H H1) (w : WantT K mg W (pu && q) pv A σ H S Q o) : WantT K mg W q pv A σ H1 S1 Q o :=
  WantG.mono w (fun d γ' w H' S' go p E => w H' S' (g.trans go) (pure2 h1 p) E) fun _ _ w => w.go g
theorem WantE.at {q : Bool} {Q : VK} {o : Out M} (g : Go H S H1 S1) (h1 : pu = true → S1 = S ∧ Same H H1) (w : WantE K mg W (pu && q) pv A σ H S Q o) : WantE K mg W q pv A σ H1 S1 Q o :=
  WantG.mono w (fun d γ' w v H' S' T go p E r nd => w v H' S' T (g.trans go) (pure2 h1 p) E r nd) fun _ _ w => w.go g
end

end Tw

namespace Tw
open PySem PySem.Spec L2

abbrev MO := Γ → Out (Option Int)
section
variable (K : Fr) (mg : Mg) (W : WX)
def WantDs (pu : Bool) (pv : Pv) (A : Ad) (σ : St) (H : Hp) (S : List Addr) (Q : List V → Hp → Prop) : Out (List D) → Prop :=
  WantG (fun ds γ' => ∀ vs H' S', Go H S H' S' → (pu = true → S' = S ∧ Same H H') → Env K mg pv A σ γ' H' S' → RDs K H' (us A S') ds vs → Q vs H') (ErE K mg W pv A σ H S)
end
theorem PO.imp {X : Cx} {e : Option Expr} {t t' : TO} (h : PO X e t) (i : ∀ σ H Q, t' σ H Q → t σ H Q) : PO X e t' := ⟨fun pins s σ H Q I q => h.run pins s σ H Q I (i σ H Q q)⟩
section
variable {K : Fr} {mg : Mg} {W : WX} {pu : Bool} {pv : Pv} {A : Ad} {σ : St} {γ : Γ} {H H1 : Hp} {S S1 : List Addr}
theorem WantDs.at {q : Bool} {Q : List V → Hp → Prop} {o : Out (List D)} (g : Go H S H1 S1) (h1 : pu = true → S1 = S ∧ Same H H1) (w : WantDs K mg W (pu && q) pv A σ H S Q o) : WantDs K mg W q pv A σ H1 S1 Q o :=
  WantG.mono w (fun d γ' w v H' S' go p E r => w v H' S' (g.trans go) (pure2 h1 p) E r) fun _ _ w => w.go g
end
end Tw

namespace Tw
open PySem PySem.Spec L2

section
variable {K : Fr} {mg : Mg} {H H' : Hp} {U : Addr → Prop}
theorem rds_nil {vs : List V} (h : RDs K H U [] vs) : vs = [] := by rw [RDs] at h; exact h
theorem rds_cons {d : D} {ds : List D} {vs : List V} (h : RDs K H U (d :: ds) vs) : ∃ v ws, vs = v :: ws ∧ RD K H U d v ∧ RDs K H U ds ws := by rw [RDs] at h; exact h
theorem rms_fz : ∀ {ds : List D} {vs : List V}, RDs K H U ds vs → RMs K mg H U (ds.map .fz) vs []
  | [], _, h => by rw [rds_nil h, List.map_nil, RMs]; exact ⟨rfl, rfl⟩
  | d :: ds, _, h => by
    obtain ⟨v, ws, e, r, q⟩ := rds_cons h
    rw [List.map_cons, RMs]
    exact ⟨v, ws, [], [], e, rfl, by rw [RM]; exact ⟨r, rfl⟩, rms_fz q⟩
end
end Tw

namespace Tw
open PySem PySem.Spec L2

section
variable {X : Cx} {W : WX} {pu pu' : Bool} {a e : Expr} {es : List Expr} {ms : Γ → Out (List D)} {me : ME} {mas : MA} {pos : Pos}
theorem RMs.length {K : Fr} {mg : Mg} {H : Hp} {U : Addr → Prop} : ∀ {ms : List M} {vs : List V} {S : List Addr}, RMs K mg H U ms vs S → vs.length = ms.length
  | [], _, _, h => by rw [RMs] at h; rw [h.1]; rfl
  | m :: ms, _, _, h => by
    rw [RMs] at h
    obtain ⟨v, ws, S1, S2, e, z, r, q⟩ := h
    rw [e, List.length_cons, List.length_cons, RMs.length q]
theorem RMs.one {K : Fr} {mg : Mg} {H : Hp} {U : Addr → Prop} {ms : List M} {vs : List V} {S : List Addr} {p : Addr} {o : HO} {U' : Addr → Prop} (h : RMs K mg H U ms vs S) (hp : H p = none) (hu : ∀ b, H b ≠ none → U' b → U b) : RMs K mg (upd H p o) U' ms vs S :=
  RMs.keep ms vs S ⟨⟨fun b o q _ => same_new hp b o q, fun b hb hn h => hn (hu b hb h)⟩, fun b _ o q => same_new hp b o q⟩ h
end

abbrev MG := M → Γ → Option Γ
theorem PG.imp {X : Cx} {e : Expr} {t t' : TG} (h : PG X e t) (i : ∀ v σ H Q, t' v σ H Q → t v σ H Q) : PG X e t' := ⟨fun pins s σ H v u Q I r q => h.run pins s σ H v u Q I r (i v σ H Q q)⟩
theorem PGs.imp {X : Cx} {e : List Expr} {t t' : TGs} (h : PGs X e t) (i : ∀ v σ H Q, t' v σ H Q → t v σ H Q) : PGs X e t' := ⟨fun pins s σ H v u Q I r q => h.run pins s σ H v u Q I r (i v σ H Q q)⟩
end Tw

namespace Tw
open PySem PySem.Spec L2

structure ItOk (K : Fr) (A : Ad) (H' : Hp) (S' : List Addr) (J : It) (ds : List D) : Prop where
  go : ∀ i H1 S1, i < ds.length → Go H' S' H1 S1 → J.go i H1
  stop : ∀ H1 S1, Go H' S' H1 S1 → J.stop ds.length H1
  yld : ∀ i d H1 S1 x H2, ds[i]? = some d → Go H' S' H1 S1 → J.yld i H1 x H2 → Same H1 H2 ∧ ∀ U : Addr → Prop, (∀ b, U b → us A S' b ∨ H' b = none) → RD K H2 U d x
section
variable (K : Fr) (mg : Mg) (W : WX)
def WantI (pu : Bool) (pv : Pv) (A : Ad) (σ : L2.St) (H : Hp) (S : List Addr) (R : It → Hp → Prop) : Out (List D) → Prop :=
  WantG (fun ds γ' => ∀ J H' S', Go H S H' S' → (pu = true → S' = S ∧ Same H H') → Env K mg pv A σ γ' H' S' → ItOk K A H' S' J ds → R J H') (ErE K mg W pv A σ H S)
def tI (pu : Bool) (m : Γ → Out (List D)) : TI := fun σ H R => ∃ pv A γ S, Env K mg pv A σ γ H S ∧ WantI K mg W pu pv A σ H S R (m γ)
end
abbrev MI := Γ → Out (List D)
structure JI (X : Cx) (W : WX) (pu : Bool) (tg it : Expr) (m : MI) : Prop where
  pi : PI X tg it (tI X.K X.mgw W pu m)
  quiet : pu = true → Quiet m
theorem PI.imp {X : Cx} {tg e : Expr} {t t' : TI} (h : PI X tg e t) (i : ∀ σ H Q, t' σ H Q → t σ H Q) : PI X tg e t' := ⟨fun pins s σ H Q I q => h.run pins s σ H Q I (i σ H Q q)⟩


end Tw

namespace Tw
open PySem PySem.Spec L2

def nonOwn : M → Bool
  | .fz _ => true
  | .scr _ => true
  | .exc _ => true
  | _ => false
theorem nonOwn_S {K : Fr} {mg : Mg} {H : Hp} {U : Addr → Prop} {m : M} {v : V} {S : List Addr} (h : RM K mg H U m v S) (n : nonOwn m = true) : S = [] := by
  cases m <;> first | (cases n; done) | skip
  · rw [RM] at h; exact h.2
  · rw [RM] at h; exact h.2
  · rw [RM] at h; exact h.2
def isDead : M → Bool
  | .dead => true
  | _ => false
def back (wb : List Nat) : Nat → List M → Γ → Option (List M)
  | _, [], _ => some []
  | _, _ :: _, [] => none
  | i, m :: ms, g :: γ => (back wb (i + 1) ms γ).bind fun r => if wb.contains i = true then (if isDead g = true then none else some (g :: r)) else some (m :: r)
section
variable (K : Fr) (mg : Mg)
structure Args (A : Ad) (H : Hp) (ms : List M) (vs : List V) (S : List Addr) : Prop where
  rep : RMs K mg H (us A S) ms vs S
  nd : S.Nodup
  am : ∀ a, A a → a ∉ S ∧ H a ≠ none
def WantF (A : Ad) (H : Hp) (S : List Addr) (vs : List V) (Q : VK) (E : XK) : Out M → Prop
  | .ok r ms' => ∀ v H' S' T, Go H S H' (T ++ S') → Args K mg (adT A T) H' ms' vs S' → RM K mg H' (us (adT A T) S') r v T → T.Nodup → Q v H'
  | .err c ms' => ∀ C H' S', mg (Str.ofString c) = some (.ref C) → Go H S H' S' → Args K mg A H' ms' vs S' → E (.ref C) none H'
  | .bad => False
def spM (n : Nat) (f : List M → Out M) : Sp := fun vs H Q E => ∃ A ms S, ms.length = n ∧ Args K mg A H ms vs S ∧ WantF K mg A H S vs Q E (f ms)
end

end Tw

namespace Tw
open PySem PySem.Spec L2

section
variable {K : Fr} {mg : Mg} {pv : Pv} {A : Ad} {σ : L2.St} {γ : Γ} {H H' : Hp} {S S' T : List Addr} {U : Addr → Prop}
theorem RMs.same {U' : Addr → Prop} {ms : List M} {vs : List V} (h : RMs K mg H U ms vs S) (i : ∀ b, H b ≠ none → U' b → U b) : RMs K mg H U' ms vs S :=
  RMs.keep ms vs S ⟨⟨fun _ _ q _ => q, fun b hb hn hu => hn (i b hb hu)⟩, fun _ _ _ q => q⟩ h
theorem Env.out (E : Env K mg pv A σ γ H S) {i : Nat} {m : M} (e : γ[i]? = some m) (hd : m ≠ .dead) :
    ∃ v S2 S', σ[i]? = some (some v) ∧ RM K mg H (us A S) m v S2 ∧ S2.Nodup ∧ Env K mg pv (adT A S2) σ (γ.set i .dead) H S' ∧ (∀ b, b ∈ S ↔ b ∈ S2 ∨ b ∈ S') ∧ ∀ b ∈ S2, b ∉ S' := by
  obtain ⟨s, S1, S2, S3, h1, h2, h3, h4⟩ := E.rep.get e
  obtain ⟨v, rfl, r⟩ := h3.val hd
  have q := h4 .dead (some v) [] R1.dead
  have nS := E.nd
  rw [h2] at nS
  obtain ⟨n1, n23, d1⟩ := List.nodup_append.mp nS
  obtain ⟨n2, n3, d2⟩ := List.nodup_append.mp n23
  have eσ : σ.set i (some v) = σ := by
    apply List.ext_getElem?
    intro j
    by_cases hj : i = j
    · subst hj
      rw [List.getElem?_set_self (List.getElem?_eq_some_iff.mp h1).1, h1]
    · rw [List.getElem?_set_ne hj]
  rw [eσ] at q
  have mem : ∀ b, b ∈ S ↔ b ∈ S2 ∨ b ∈ S1 ++ ([] ++ S3) := fun b => by
    rw [h2]
    simp only [List.mem_append, List.nil_append]
    constructor
    · rintro (h | h | h)
      · exact .inr (.inl h)
      · exact .inl h
      · exact .inr (.inr h)
    · rintro (h | h | h)
      · exact .inr (.inl h)
      · exact .inl h
      · exact .inr (.inr h)
  have apart : ∀ b ∈ S2, b ∉ S1 ++ ([] ++ S3) := fun b hb hc => by
    rcases List.mem_append.mp hc with hc | hc
    · exact d1 b hc b (List.mem_append_left _ hb) rfl
    · exact d2 b hb b (by simpa using hc) rfl
  refine ⟨v, S2, S1 ++ ([] ++ S3), h1, r, n2, ⟨RS.keep _ _ _ ⟨⟨fun _ _ q _ => q, fun b _ hn hu => hn ?_⟩, fun _ _ _ q => q⟩ q, ?_, ?_, E.pin⟩, mem, apart⟩
  · rcases hu with (z | z) | z
    · exact .inl z
    · exact .inr ((mem b).mpr (.inl z))
    · exact .inr ((mem b).mpr (.inr z))
  · exact List.nodup_append.mpr ⟨n1, by simpa using n3, fun a ha b hb z => d1 a ha b (List.mem_append_right _ (by simpa using hb)) z⟩
  · intro a ha
    rcases ha with ha | ha
    · exact ⟨fun z => (E.am a ha).1 ((mem a).mpr (.inr z)), (E.am a ha).2⟩
    · exact ⟨apart a ha, E.here a (.inr ((mem a).mpr (.inl ha)))⟩
theorem Env.back (E : Env K mg pv (adT A T) σ γ H S) {i : Nat} {m : M} {v : V} (hσ : σ[i]? = some (some v)) (r : RM K mg H (us (adT A T) S) m v T) (nd : T.Nodup) (hA : ∀ a, A a → a ∉ T) :
    ∃ S', Env K mg pv A σ (γ.set i m) H S' ∧ ∀ b ∈ S', b ∈ T ++ S := by
  have hi : i < γ.length := by rw [E.rep.len]; exact (List.getElem?_eq_some_iff.mp hσ).1
  have E2 : Env K mg (fun _ => none) (adT A T) σ γ H S := ⟨E.rep, E.nd, E.am, fun _ _ z => nomatch z⟩
  obtain ⟨S', E', sub⟩ := E2.put hi r nd hA rfl
  have eσ : σ.set i (some v) = σ := by
    apply List.ext_getElem?
    intro j
    by_cases hj : i = j
    · subst hj
      rw [List.getElem?_set_self (List.getElem?_eq_some_iff.mp hσ).1, hσ]
    · rw [List.getElem?_set_ne hj]
  rw [eσ] at E'
  exact ⟨S', ⟨E'.rep, E'.nd, E'.am, E.pin⟩, sub⟩
end

inductive Ar where
  | val (m : M)
  | slot (i : Nat)
section
variable (K : Fr) (mg : Mg) (H : Hp) (U : Addr → Prop) (σ : L2.St)
def RAr : List Ar → List V → Prop
  | [], vs => vs = []
  | .val m :: as, vs => ∃ v ws, vs = v :: ws ∧ nonOwn m = true ∧ RM K mg H U m v [] ∧ RAr as ws
  | .slot i :: as, vs => ∃ v ws, vs = v :: ws ∧ σ[i]? = some (some v) ∧ RAr as ws
end
section
variable {K : Fr} {mg : Mg} {pv : Pv} {A : Ad} {σ : L2.St} {γ : Γ} {H H' : Hp} {S S' T : List Addr} {U U' : Addr → Prop}
theorem RAr.keep (k : Keep H H' U U') : ∀ {as : List Ar} {vs : List V}, RAr K mg H U σ as vs → RAr K mg H' U' σ as vs
  | [], _, h => by rw [RAr] at h ⊢; exact h
  | .val m :: as, vs, h => by
    rw [RAr] at h ⊢
    obtain ⟨v, ws, e, n, r, q⟩ := h
    exact ⟨v, ws, e, n, RM.keep m v [] ⟨k, fun _ z => nomatch z⟩ r, q.keep k⟩
  | .slot i :: as, vs, h => by
    rw [RAr] at h ⊢
    obtain ⟨v, ws, e, r, q⟩ := h
    exact ⟨v, ws, e, r, q.keep k⟩
end
abbrev MR := Γ → Out (List Ar)
def keepG {α : Type} (o : Out α) (γ : Γ) : Out α := match o with
  | .ok r _ => .ok r γ
  | .err c _ => .err c γ
  | .bad => .bad
@[simp] theorem keepG_ok {α : Type} (a : α) (g γ : Γ) : keepG (.ok a g) γ = .ok a γ := (id rfl)
@[simp] theorem keepG_err {α : Type} (c : String) (g γ : Γ) : keepG (.err c g : Out α) γ = .err c γ := (id rfl)
end Tw

namespace Tw
open PySem PySem.Spec L2

section
variable (K : Fr) (mg : Mg) (pv : Pv) (A : Ad) (σ : L2.St) (F : M → Γ) (H : Hp) (S : List Addr)
def Foc (m : M) (v : V) : Prop := ∃ Sm So : List Addr, (∀ a, A a → a ∉ S) ∧ (∀ b, b ∈ S ↔ b ∈ Sm ∨ b ∈ So) ∧ (∀ b ∈ Sm, b ∉ So) ∧ Sm.Nodup ∧ RM K mg H (us A S) m v Sm ∧
  ∀ (A2 : Ad) (H' : Hp) (m' : M) (S' : List Addr), (∀ b o, H b = some o → b ∉ Sm → H' b = some o) → (∀ b, H b ≠ none → H' b ≠ none) → (∀ a, A2 a → (A a ∨ a ∈ Sm) ∧ a ∉ S') → (∀ b ∈ S', b ∈ Sm ∨ H b = none ∨ A b) → S'.Nodup →
    (∀ U : Addr → Prop, (∀ b, U b → us A2 S' b ∨ b ∈ So) → RM K mg H' U m' v S') → ∃ S2, Env K mg pv A2 σ (F m') H' S2 ∧ ∀ b, b ∈ S2 ↔ b ∈ S' ∨ b ∈ So
end
section
variable {K : Fr} {mg : Mg} {pv : Pv} {A : Ad} {σ : L2.St} {γ : Γ} {F : M → Γ} {H H' : Hp} {S S' T : List Addr} {U : Addr → Prop}
theorem RMs.at : ∀ {ms : List M} {xs : List V} {S : List Addr} {j : Nat} {c : M}, RMs K mg H U ms xs S → ms[j]? = some c → ∃ x S1 S2 S3, xs[j]? = some x ∧ S = S1 ++ (S2 ++ S3) ∧ RM K mg H U c x S2 ∧
    ∀ (H' : Hp) (U' : Addr → Prop) (c' : M) (x' : V) (S2' : List Addr), KeepM H H' U U' (S1 ++ S3) → RM K mg H' U' c' x' S2' → RMs K mg H' U' (ms.set j c') (xs.set j x') (S1 ++ (S2' ++ S3))
  | [], _, _, j, _, _, e => by simp at e
  | m0 :: ms, xs, S, j, c, h, e => by
    rw [RMs] at h
    obtain ⟨v, ws, S1, S2, e1, z, r, q⟩ := h
    subst e1 z
    cases j with
    | zero =>
      have e' : m0 = c := by simpa using e
      subst e'
      refine ⟨v, [], S1, S2, rfl, rfl, r, fun H' U' c' x' S2' k r' => ?_⟩
      show RMs K mg H' U' (c' :: ms) (x' :: ws) (S2' ++ S2)
      rw [RMs]
      exact ⟨x', ws, S2', S2, rfl, rfl, r', RMs.keep ms ws S2 (k.sub fun b hb => hb) q⟩
    | succ j =>
      obtain ⟨x, T1, T2, T3, h1, h2, h3, h4⟩ := RMs.at (j := j) (c := c) q (by simpa using e)
      refine ⟨x, S1 ++ T1, T2, T3, by simpa using h1, by rw [h2, List.append_assoc], h3, fun H' U' c' x' S2' k r' => ?_⟩
      show RMs K mg H' U' (m0 :: ms.set j c') (v :: ws.set j x') _
      rw [RMs]
      exact ⟨v, ws.set j x', S1, T1 ++ (S2' ++ T3), rfl, by rw [List.append_assoc], RM.keep m0 v S1 (k.sub fun b hb => List.mem_append_left _ (List.mem_append_left _ hb)) r,
        h4 H' U' c' x' S2' (k.sub fun b hb => (List.mem_append.mp hb).elim (fun z => List.mem_append_left _ (List.mem_append_right _ z)) fun z => List.mem_append_right _ z) r'⟩
theorem set_self {α : Type} {xs : List α} {j : Nat} {x : α} (h : xs[j]? = some x) : xs.set j x = xs := by
  apply List.ext_getElem?
  intro i
  by_cases hj : j = i
  · subst hj
    rw [List.getElem?_set_self (List.getElem?_eq_some_iff.mp h).1, h]
  · rw [List.getElem?_set_ne hj]
end
end Tw

namespace Tw
open PySem PySem.Spec L2

abbrev MP := Γ → Option (M × (M → Γ))
def val {α : Type} (o : Out α) : Option α := match o with
  | .ok a _ => some a
  | _ => none
@[simp] theorem val_ok {α : Type} (a : α) (g : Γ) : val (.ok a g) = some a := (id rfl)
@[simp] theorem val_err {α : Type} (c : String) (g : Γ) : val (.err c g : Out α) = none := (id rfl)
@[simp] theorem val_bad {α : Type} : val (.bad : Out α) = none := (id rfl)
section
variable {K : Fr} {mg : Mg} {pv : Pv} {A : Ad} {σ : L2.St} {γ : Γ} {F : M → Γ} {H H' : Hp} {S S' T : List Addr} {U : Addr → Prop} {m : M} {v : V}
theorem Foc.rm (f : Foc K mg pv A σ F H S m v) : ∃ Sm, RM K mg H (us A S) m v Sm ∧ ∀ b ∈ Sm, b ∈ S := by
  obtain ⟨Sm, So, hA, mem, ap, nd, rm, k⟩ := f
  exact ⟨Sm, rm, fun b hb => (mem b).mpr (.inl hb)⟩
theorem Foc.fz {d : D} (f : Foc K mg pv A σ F H S (.fz d) v) : RD K H (us A S) d v := by
  obtain ⟨Sm, rm, _⟩ := f.rm
  rw [RM] at rm
  exact rm.1
theorem Foc.view (f : Foc K mg pv A σ F H S m v) {d : D} (e : m.frz = some d) : RD K H A d v := by
  obtain ⟨Sm, So, hA, mem, ap, nd, rm, k⟩ := f
  exact RM.frz m v Sm d rm e fun b hb hc hu => hc.elim (fun z => z (.inl hu)) fun z => hA b hu ((mem b).mpr (.inl z))
theorem Foc.write (f : Foc K mg pv A σ F H S (.lst ms) v) : ∃ a xs Si, v = .ref a ∧ H a = some (.lst xs) ∧ RMs K mg H (us A S) ms xs Si ∧ (∀ b ∈ a :: Si, b ∈ S) ∧ (a :: Si).Nodup ∧ (∀ a, A a → a ∉ S) ∧
    ∀ (A2 : Ad) (xs' : List V) (ms' : List M) (Si' : List Addr), (∀ b, A2 b → (A b ∨ b ∈ a :: Si) ∧ b ∉ a :: Si') → (∀ b ∈ Si', b ∈ Si ∨ A b) → (a :: Si').Nodup →
      (∀ U : Addr → Prop, KeepM H (upd H a (.lst xs')) (us A S) U Si → RMs K mg (upd H a (.lst xs')) U ms' xs' Si') → ∃ S2, Env K mg pv A2 σ (F (.lst ms')) (upd H a (.lst xs')) S2 ∧ ∀ b ∈ S2, b ∈ Si' ∨ b ∈ S := by
  obtain ⟨Sm, So, hA, mem, ap, nd, rm, k⟩ := f
  have mu := RM.mut _ _ _ rm
  rw [RM] at rm
  obtain ⟨a, xs, Si, e1, h1, z, r⟩ := rm
  subst e1 z
  refine ⟨a, xs, Si, rfl, h1, r, fun b hb => (mem b).mpr (.inl hb), nd, hA, fun A2 xs' ms' Si' c1 c2 nd' hr => ?_⟩
  have ne : ∀ b, b ∉ a :: Si → b ≠ a := fun b hb z => hb (by rw [z]; exact List.mem_cons_self)
  have q4 : ∀ U : Addr → Prop, (∀ b, U b → us A2 (a :: Si') b ∨ b ∈ So) → RM K mg (upd H a (.lst xs')) U (.lst ms') (.ref a) (a :: Si') := fun U hU => by
    rw [RM]
    refine ⟨a, xs', Si', rfl, upd_same, rfl, hr U ⟨⟨fun b o q hn => ?_, fun b hb hn hu => ?_⟩, fun b hb o q => ?_⟩⟩
    · by_cases hba : b = a
      · subst hba
        rw [h1] at q
        cases q
        exact absurd (.inr ((mem b).mpr (.inl List.mem_cons_self))) (hn rfl)
      · rw [upd_ne hba]
        exact q
    · rcases hU b hu with (z | z) | z
      · rcases (c1 b z).1 with y | y
        · exact hn (.inl y)
        · exact hn (.inr ((mem b).mpr (.inl y)))
      · rcases List.mem_cons.mp z with z | z
        · exact hn (.inr ((mem b).mpr (.inl (by rw [z]; exact List.mem_cons_self))))
        · rcases c2 b z with y | y
          · exact hn (.inr ((mem b).mpr (.inl (List.mem_cons_of_mem _ y))))
          · exact hn (.inl y)
      · exact hn (.inr ((mem b).mpr (.inr z)))
    · have hba : b ≠ a := fun z => (List.nodup_cons.mp nd).1 (z ▸ hb)
      rw [upd_ne hba]
      exact q
  obtain ⟨S2, E2, m2⟩ := k A2 (upd H a (.lst xs')) (.lst ms') (a :: Si') (fun b o q hn => by rw [upd_ne (ne b hn)]; exact q) (fun b hb => by
    by_cases hba : b = a
    · rw [hba, upd_same]; exact (fun z => nomatch z)
    · rw [upd_ne hba]; exact hb) c1 (fun b hb => by
    rcases List.mem_cons.mp hb with z | z
    · exact .inl (by rw [z]; exact List.mem_cons_self)
    · exact (c2 b z).imp (fun y => List.mem_cons_of_mem _ y) .inr) nd' q4
  refine ⟨S2, E2, fun b hb => ?_⟩
  rcases (m2 b).mp hb with z | z
  · rcases List.mem_cons.mp z with z | z
    · exact .inr ((mem b).mpr (.inl (by rw [z]; exact List.mem_cons_self)))
    · exact .inl z
  · exact .inr ((mem b).mpr (.inr z))
theorem go_upd {a : Addr} {o : HO} {Si' S2 : List Addr} (ha : a ∈ S) (hT : ∀ b ∈ Si', b ∈ S) (h2 : ∀ b ∈ S2, b ∈ Si' ∨ b ∈ S) : Go H S (upd H a o) S2 :=
  ⟨fun b u q hn => by
    have hne : b ≠ a := fun z => hn (by rw [z]; exact ha)
    rw [upd_ne hne]; exact q, fun b hb => .inl ((h2 b hb).elim (hT b) id), fun b hb => by
    by_cases hba : b = a
    · rw [hba, upd_same]; exact (fun z => nomatch z)
    · rw [upd_ne hba]; exact hb⟩
theorem RMs.append {ms' : List M} {xs' : List V} : ∀ {ms : List M} {xs : List V} {S : List Addr}, RMs K mg H U ms xs S → RMs K mg H U ms' xs' S' → RMs K mg H U (ms ++ ms') (xs ++ xs') (S ++ S')
  | [], _, _, h, q => by
    rw [RMs] at h
    rw [h.1, h.2]
    exact q
  | m :: ms, _, _, h, q => by
    rw [RMs] at h
    obtain ⟨v, ws, S1, S2, e1, z, r, y⟩ := h
    subst e1 z
    show RMs K mg H U (m :: (ms ++ ms')) _ _
    rw [RMs]
    exact ⟨v, ws ++ xs', S1, S2 ++ S', rfl, by rw [List.append_assoc], r, RMs.append (ms := ms) (ms' := ms') (xs := ws) y q⟩
theorem rms_split : ∀ {ms : List M} {xs : List V} {S : List Addr} (n : Nat), RMs K mg H U ms xs S → ∃ S1 S2, S = S1 ++ S2 ∧ RMs K mg H U (ms.take n) (xs.take n) S1 ∧ RMs K mg H U (ms.drop n) (xs.drop n) S2
  | ms, xs, S, 0, h => ⟨[], S, rfl, by rw [List.take_zero, List.take_zero, RMs]; exact ⟨rfl, rfl⟩, h⟩
  | [], xs, S, n + 1, h => by
    rw [RMs] at h
    rw [h.1, h.2]
    exact ⟨[], [], rfl, by rw [List.take_nil, List.take_nil, RMs]; exact ⟨rfl, rfl⟩, by rw [List.drop_nil, List.drop_nil, RMs]; exact ⟨rfl, rfl⟩⟩
  | m :: ms, _, _, n + 1, h => by
    rw [RMs] at h
    obtain ⟨v, ws, S1, S2, e1, z, r, y⟩ := h
    subst e1 z
    obtain ⟨T1, T2, e2, h1, h2⟩ := rms_split n y
    subst e2
    refine ⟨S1 ++ T1, T2, by rw [List.append_assoc], ?_, h2⟩
    rw [List.take_succ_cons, List.take_succ_cons, RMs]
    exact ⟨v, ws.take n, S1, T1, rfl, rfl, r, h1⟩
end

section
variable {X : Cx} {W : WX} {pu pu' : Bool} {a b o e : Expr} {es : List Expr} {mp : MP} {ma mb md : MD} {me : ME} {pos apos p : Pos} {x : Str} {wb : List Nat}
theorem dead_ne {m : M} (h : ¬ isDead m = true) : m ≠ .dead := by
  intro z
  rw [z] at h
  exact h rfl
theorem Foc.same {K : Fr} {mg : Mg} {pv : Pv} {A : Ad} {σ : L2.St} {F : M → Γ} {H H' : Hp} {S : List Addr} {m : M} {v : V} (f : Foc K mg pv A σ F H S m v) (s : Same H H') (hA : ∀ b, H b ≠ none ∨ ¬ A b) : Foc K mg pv A σ F H' S m v := by
  obtain ⟨Sm, So, h1, mem, ap, nd, rm, k⟩ := f
  refine ⟨Sm, So, h1, mem, ap, nd, RM.keep m v Sm ⟨⟨fun b o q _ => s b o q, fun _ _ q => q⟩, fun b _ o q => s b o q⟩ rm, fun A2 H2 m' S' ho hk c1 c2 nd' rm' => ?_⟩
  refine k A2 H2 m' S' (fun b o q hn => ho b o (s b o q) hn) (fun b hb => hk b ?_) c1 (fun b hb => ?_) nd' rm'
  · cases q : H b with
    | none => exact absurd q hb
    | some u => rw [s b u q]; exact (fun z => nomatch z)
  · rcases c2 b hb with z | z | z
    · exact .inl z
    · cases q : H b with
      | none => exact .inr (.inl rfl)
      | some u => rw [s b u q] at z; cases z
    · exact .inr (.inr z)
mutual
def flatT : D → Bool
  | .none => true
  | .bool _ => true
  | .int _ => true
  | .str _ => true
  | .tuple ds => flatTs ds
  | _ => false
def flatTs : List D → Bool
  | [] => true
  | d :: ds => flatT d && flatTs ds
end
section
variable {K : Fr} {mg : Mg} {H : Hp} {U U' : Addr → Prop}
mutual
theorem rd_flatT : ∀ (d : D) (v : V), RD K H U d v → flatT d = true → RD K H U' d v
  | .none, v, h, _ => by rw [RD] at *; exact h
  | .bool _, v, h, _ => by rw [RD] at *; exact h
  | .int _, v, h, _ => by rw [RD] at *; exact h
  | .str _, v, h, _ => by rw [RD] at *; exact h
  | .tuple ds, v, h, f => by
    rw [flatT] at f
    rw [RD] at h ⊢
    obtain ⟨a, xs, e, q, r⟩ := h
    exact ⟨a, xs, e, q, rds_flatT ds xs r f⟩
  | .list _, v, h, f => by simp [flatT] at f
  | .dict _, v, h, f => by simp [flatT] at f
theorem rds_flatT : ∀ (ds : List D) (vs : List V), RDs K H U ds vs → flatTs ds = true → RDs K H U' ds vs
  | [], vs, h, _ => by rw [RDs] at *; exact h
  | d :: ds, vs, h, f => by
    rw [flatTs, Bool.and_eq_true] at f
    rw [RDs] at h ⊢
    obtain ⟨v, ws, e, r, q⟩ := h
    exact ⟨v, ws, e, rd_flatT d v r f.1, rds_flatT ds ws q f.2⟩
end
end
end
end Tw

namespace Tw
open PySem PySem.Spec L2

section
variable {K : Fr} {mg : Mg} {pv : Pv} {A : Ad} {σ : L2.St} {γ : Γ} {F : M → Γ} {H H' : Hp} {S S' T : List Addr} {U : Addr → Prop} {m : M} {v : V}
theorem Foc.set {ms : List M} {r : M} {x : V} {k : Int} {j : Nat} (f : Foc K mg pv (adT A T) σ F H S (.lst ms) v) (rm : RM K mg H (us (adT A T) S) r x T) (nd : T.Nodup) (hA : ∀ a, A a → a ∉ T) (hj : ixN ms.length k = some j) :
    ∃ a xs, v = .ref a ∧ H a = some (.lst xs) ∧ xs.length = ms.length ∧ ∃ S2, Env K mg pv A σ (F (.lst (ms.set j r))) (upd H a (.lst (xs.set j x))) S2 ∧ Go H (T ++ S) (upd H a (.lst (xs.set j x))) S2 := by
  obtain ⟨a, xs, Si, e1, h1, rs, sub, ndS, dis, wr⟩ := f.write
  have hjl : j < ms.length := (ixN_seq hj).2.1
  obtain ⟨x0, S1, S2, S3, g1, g2, g3, g4⟩ := rs.at (List.getElem?_eq_getElem hjl)
  have hT : ∀ b ∈ T, b ∉ S := fun b hb => dis b (.inr hb)
  have sub1 : ∀ b ∈ S1 ++ S3, b ∈ Si := fun b hb => by
    rw [g2]
    rcases List.mem_append.mp hb with hb | hb
    · exact List.mem_append_left _ hb
    · exact List.mem_append_right _ (List.mem_append_right _ hb)
  obtain ⟨na, nS⟩ := List.nodup_cons.mp ndS
  rw [g2] at nS
  obtain ⟨n1, n23, d1⟩ := List.nodup_append.mp nS
  obtain ⟨n2, n3, d2⟩ := List.nodup_append.mp n23
  have all : ∀ b ∈ S1 ++ (T ++ S3), b ∈ T ∨ b ∈ S1 ++ S3 := fun b hb => by
    rcases List.mem_append.mp hb with hb | hb
    · exact .inr (List.mem_append_left _ hb)
    · rcases List.mem_append.mp hb with hb | hb
      · exact .inl hb
      · exact .inr (List.mem_append_right _ hb)
  have q1 : ∀ b, A b → (adT A T b ∨ b ∈ a :: Si) ∧ b ∉ a :: (S1 ++ (T ++ S3)) := fun b hb => ⟨.inl (.inl hb), fun z => by
    rcases List.mem_cons.mp z with z | z
    · exact dis b (.inl hb) (sub b (by rw [z]; exact List.mem_cons_self))
    · rcases all b z with z | z
      · exact hA b hb z
      · exact dis b (.inl hb) (sub b (List.mem_cons_of_mem _ (sub1 b z)))⟩
  have q2 : ∀ b ∈ S1 ++ (T ++ S3), b ∈ Si ∨ adT A T b := fun b hb => by
    rcases all b hb with z | z
    · exact .inr (.inr z)
    · exact .inl (sub1 b z)
  have q3 : (a :: (S1 ++ (T ++ S3))).Nodup := by
    refine List.nodup_cons.mpr ⟨fun z => ?_, List.nodup_append.mpr ⟨n1, List.nodup_append.mpr ⟨nd, n3, fun c hc d hd z => ?_⟩, fun c hc d hd z => ?_⟩⟩
    · rcases all a z with z | z
      · exact hT a z (sub a List.mem_cons_self)
      · exact na (sub1 a z)
    · subst z
      exact hT c hc (sub c (List.mem_cons_of_mem _ (sub1 c (List.mem_append_right _ hd))))
    · subst z
      rcases List.mem_append.mp hd with hd | hd
      · exact hT c hd (sub c (List.mem_cons_of_mem _ (sub1 c (List.mem_append_left _ hc))))
      · exact d1 c hc c (List.mem_append_right _ hd) rfl
  have hlen : xs.length = ms.length := rs.length
  have q4 : ∀ U : Addr → Prop, KeepM H (upd H a (.lst (xs.set j x))) (us (adT A T) S) U Si → RMs K mg (upd H a (.lst (xs.set j x))) U (ms.set j r) (xs.set j x) (S1 ++ (T ++ S3)) := fun U kp => by
    refine g4 _ U r x T (kp.sub sub1) (RM.keep r x T ⟨kp.toKeep, fun b hb o q => ?_⟩ rm)
    have hne : b ≠ a := fun z => hT b hb (sub b (by rw [z]; exact List.mem_cons_self))
    rw [upd_ne hne]
    exact q
  obtain ⟨S4, E4, m4⟩ := wr A (xs.set j x) (ms.set j r) (S1 ++ (T ++ S3)) q1 q2 q3 q4
  refine ⟨a, xs, e1, h1, hlen, S4, E4, ?_⟩
  have ha : a ∈ T ++ S := List.mem_append_right _ (sub a List.mem_cons_self)
  refine go_upd (Si' := T ++ S) ha (fun b hb => hb) fun b hb => ?_
  rcases m4 b hb with z | z
  · rcases all b z with z | z
    · exact .inl (List.mem_append_left _ z)
    · exact .inl (List.mem_append_right _ (sub b (List.mem_cons_of_mem _ (sub1 b z))))
  · exact .inl (List.mem_append_right _ z)
end
end Tw

namespace Tw
open PySem PySem.Spec L2

section
variable {X : Cx} {W : WX} {pu pu' : Bool} {a b o e : Expr} {es : List Expr} {mp : MP} {ma mb md mi : MD} {me : ME} {pos apos cpos p : Pos} {x : Str} {wb : List Nat}
theorem Foc.at {K : Fr} {mg : Mg} {pv : Pv} {A : Ad} {σ : L2.St} {γ : Γ} {F : M → Γ} {H H' : Hp} {S : List Addr} {m : M} {v : V} (f : Foc K mg pv A σ F H S m v) (s : Same H H') (E : Env K mg pv A σ γ H S) : Foc K mg pv A σ F H' S m v := f.same s fun b => by
  by_cases hb : A b
  · exact .inl (E.am b hb).2
  · exact .inr hb
end
end Tw

namespace Tw
open PySem PySem.Spec L2

mutual
/-- a tree of our own: no list of another's in it -/
def flatM : M → Bool
  | .fz d => flatT d
  | .lst ms => flatMs ms
  | .tup ms => flatMs ms
  | .dct kms => flatMk kms
  | .ins _ fms => flatMf fms
  | _ => false
def flatMs : List M → Bool
  | [] => true
  | m :: ms => flatM m && flatMs ms
def flatMk : List (Key × M) → Bool
  | [] => true
  | (_, m) :: ms => flatM m && flatMk ms
def flatMf : List (Str × M) → Bool
  | [] => true
  | (_, m) :: ms => flatM m && flatMf ms
end
section
variable {K : Fr} {mg : Mg} {H : Hp} {U U' : Addr → Prop}
mutual
theorem rm_flatM : ∀ (m : M) (v : V) (S : List Addr), RM K mg H U m v S → flatM m = true → RM K mg H U' m v S
  | .dead, v, S, h, f => by rw [flatM] at f; all_goals (first | (cases f; done) | (intros; contradiction))
  | .scr _, v, S, h, f => by rw [flatM] at f; all_goals (first | (cases f; done) | (intros; contradiction))
  | .exc _, v, S, h, f => by rw [flatM] at f; all_goals (first | (cases f; done) | (intros; contradiction))
  | .fz d, v, S, h, f => by
    rw [flatM] at f
    rw [RM] at h ⊢
    exact ⟨rd_flatT d v h.1 f, h.2⟩
  | .lst ms, v, S, h, f => by
    rw [flatM] at f
    rw [RM] at h ⊢
    obtain ⟨a, xs, S', e, q, z, r⟩ := h
    exact ⟨a, xs, S', e, q, z, rms_flatM ms xs S' r f⟩
  | .tup ms, v, S, h, f => by
    rw [flatM] at f
    rw [RM] at h ⊢
    obtain ⟨a, xs, e, q, r⟩ := h
    exact ⟨a, xs, e, q, rms_flatM ms xs S r f⟩
  | .dct kms, v, S, h, f => by
    rw [flatM] at f
    rw [RM] at h ⊢
    obtain ⟨a, ks, S', e, q, z, r⟩ := h
    exact ⟨a, ks, S', e, q, z, rmk_flatM kms ks S' r f⟩
  | .ins c fms, v, S, h, f => by
    rw [flatM] at f
    rw [RM] at h ⊢
    obtain ⟨a, C, dx, fs, S', e, hc, q, z, r⟩ := h
    exact ⟨a, C, dx, fs, S', e, hc, q, z, rmf_flatM fms fs S' r f⟩
theorem rms_flatM : ∀ (ms : List M) (vs : List V) (S : List Addr), RMs K mg H U ms vs S → flatMs ms = true → RMs K mg H U' ms vs S
  | [], vs, S, h, _ => by rw [RMs] at *; exact h
  | m :: ms, vs, S, h, f => by
    rw [flatMs, Bool.and_eq_true] at f
    rw [RMs] at h ⊢
    obtain ⟨v, ws, S1, S2, e, z, r, q⟩ := h
    exact ⟨v, ws, S1, S2, e, z, rm_flatM m v S1 r f.1, rms_flatM ms ws S2 q f.2⟩
theorem rmk_flatM : ∀ (ms : List (Key × M)) (vs : List (Key × V)) (S : List Addr), RMk K mg H U ms vs S → flatMk ms = true → RMk K mg H U' ms vs S
  | [], vs, S, h, _ => by rw [RMk] at *; exact h
  | (k, m) :: ms, vs, S, h, f => by
    rw [flatMk, Bool.and_eq_true] at f
    rw [RMk] at h ⊢
    obtain ⟨v, ws, S1, S2, e, z, r, q⟩ := h
    exact ⟨v, ws, S1, S2, e, z, rm_flatM m v S1 r f.1, rmk_flatM ms ws S2 q f.2⟩
theorem rmf_flatM : ∀ (ms : List (Str × M)) (vs : List (Str × V)) (S : List Addr), RMf K mg H U ms vs S → flatMf ms = true → RMf K mg H U' ms vs S
  | [], vs, S, h, _ => by rw [RMf] at *; exact h
  | (k, m) :: ms, vs, S, h, f => by
    rw [flatMf, Bool.and_eq_true] at f
    rw [RMf] at h ⊢
    obtain ⟨v, ws, S1, S2, e, z, r, q⟩ := h
    exact ⟨v, ws, S1, S2, e, z, rm_flatM m v S1 r f.1, rmf_flatM ms ws S2 q f.2⟩
end
end
end Tw

namespace Tw
open PySem PySem.Spec L2

structure Cal (P : Program) (w : World) (K : Fr) (mg : Str → Option Value) (base : Heap) (x : Str) (k : Nat) (ps : List Str) (g : List M → Out M) : Prop where
  ex : ∃ f fd, FnOk P w K mg base (L2.CX P w) k f fd ps (spM K ⟨mg, w⟩ ps.length g) ∧ mg x = some (.ref f) ∧ PySem.W.keepIn K (.ref f) = true ∧ Binds K fd ps []
section
variable {P : Program} {w : World} {K : Fr} {mg : Str → Option Value} {base : Heap} {x : Str} {k : Nat} {ps : List Str} {g : List M → Out M}
theorem Cal.up (C : Cal P w K mg base x k ps g) {j : Nat} (h : k ≤ j) : Cal P w K mg base x j ps g := by
  obtain ⟨f, fd, F, r⟩ := C.ex
  exact ⟨f, fd, F.mono h, r⟩
end
structure Fine (X : Cx) (W : WX) (k : Nat) : Prop where
  room : Room k X.A
  tk : Takes X W
  po : PassesOwn (model X.prog X.w) X.A X.env X.xe
  calm : X.calm = true
  nd : X.N.Nodup
theorem Fine.hu {X : Cx} {W : WX} {k : Nat} (f : Fine X W k) : X.A.units + 65 < cLine := by
  have := f.room.un
  omega
theorem Fine.rm {X : Cx} {W : WX} {k : Nat} (f : Fine X W k) {j : Nat} (h : j ≤ k := by decide) : Room j X.A := f.room.mono h
end Tw

namespace Tw
open PySem PySem.Spec L2

def wipeG (γ : Γ) : List Nat → Γ
  | [] => γ
  | v :: vs => (wipeG γ vs).set v .dead
def okWipe (γ : Γ) (vs : List Nat) : Bool := vs.all fun i => match γ[i]? with
  | some m => nonOwn m || isDead m
  | none => false
def restG (γ1 : Γ) (γ2 : Γ) : List Nat → Γ
  | [] => γ2
  | v :: vs => restG γ1 (γ2.set v (γ1.getD v .dead)) vs
section
variable {K : Fr} {mg : Mg} {pv : Pv} {A : Ad} {σ : L2.St} {γ : Γ} {H H' : Hp} {S S' T : List Addr} {U : Addr → Prop}
theorem wipeG_length : ∀ vs : List Nat, (wipeG γ vs).length = γ.length
  | [] => rfl
  | v :: vs => by show ((wipeG γ vs).set v .dead).length = _; rw [List.length_set, wipeG_length vs]
theorem wipeG_in : ∀ {vs : List Nat} {i : Nat}, i < γ.length → (wipeG γ vs)[i]? = if i ∈ vs then some .dead else γ[i]?
  | [], i, h => by rw [if_neg (fun z => nomatch z)]; rfl
  | v :: vs, i, h => by
    show ((wipeG γ vs).set v .dead)[i]? = _
    by_cases hv : v = i
    · subst hv
      rw [List.getElem?_set_self (by rw [wipeG_length]; exact h), if_pos List.mem_cons_self]
    · rw [List.getElem?_set_ne hv, wipeG_in h]
      by_cases hm : i ∈ vs
      · rw [if_pos hm, if_pos (List.mem_cons_of_mem _ hm)]
      · rw [if_neg hm, if_neg fun z => (List.mem_cons.mp z).elim (fun e => hv e.symm) hm]
theorem RS.wipe : ∀ {vs : List Nat} {γ : Γ}, RS K mg H U γ σ S → okWipe γ vs = true → RS K mg H U (wipeG γ vs) (L2.wipe σ vs) S
  | [], γ, h, _ => h
  | v :: vs, γ, h, ok => by
    unfold okWipe at ok
    rw [List.all_cons, Bool.and_eq_true] at ok
    have q := RS.wipe (vs := vs) h ok.2
    cases hm : γ[v]? with
    | none => have := ok.1; rw [hm] at this; cases this
    | some m =>
      have ok1 := ok.1
      rw [hm] at ok1
      have hl : v < γ.length := (List.getElem?_eq_some_iff.mp hm).1
      have hw := wipeG_in (γ := γ) (vs := vs) hl
      show RS K mg H U ((wipeG γ vs).set v .dead) ((L2.wipe σ vs).set v none) S
      have go : ∀ m' : M, (wipeG γ vs)[v]? = some m' → (nonOwn m' || isDead m') = true → RS K mg H U ((wipeG γ vs).set v .dead) ((L2.wipe σ vs).set v none) S := fun m' e ok' => by
        obtain ⟨s, S1, S2, S3, h1, h2, h3, h4⟩ := RS.get q e
        have e2 : S2 = [] := by
          by_cases hd : isDead m' = true
          · cases m' <;> first | (cases hd; done) | exact h3
          · obtain ⟨w, _, rm⟩ := h3.val (dead_ne hd)
            refine nonOwn_S rm ?_
            cases hn : nonOwn m' with
            | true => rfl
            | false => rw [hn] at ok'; exact absurd ok' hd
        subst e2
        have := h4 .dead none [] R1.dead
        rw [h2]
        exact this
      by_cases hmem : v ∈ vs
      · rw [if_pos hmem] at hw
        exact go _ hw rfl
      · rw [if_neg hmem, hm] at hw
        exact go _ hw ok1
theorem Env.wipe (E : Env K mg pv A σ γ H S) {vs : List Nat} (ok : okWipe γ vs = true) : Env K mg (fun _ => none) A (L2.wipe σ vs) (wipeG γ vs) H S :=
  ⟨E.rep.wipe ok, E.nd, E.am, fun _ _ z => nomatch z⟩
theorem RS.rest {γ1 : Γ} : ∀ {vs : List Nat} {γ2 : Γ}, RS K mg H U γ2 (L2.wipe σ vs) S → (∀ i ∈ vs, γ2[i]? = some .dead) → vs.Nodup → γ2.length = σ.length → (∀ i ∈ vs, ∃ s, σ[i]? = some s ∧ R1 K mg H U (γ1.getD i .dead) s []) → RS K mg H U (restG γ1 γ2 vs) σ S
  | [], γ2, h, _, _, _, _ => h
  | v :: vs, γ2, h, hd, nd, hl, hr => by
    obtain ⟨s, hs, r1⟩ := hr v List.mem_cons_self
    obtain ⟨nv, nd'⟩ := List.nodup_cons.mp nd
    have q : RS K mg H U γ2 ((L2.wipe σ vs).set v none) S := h
    obtain ⟨s0, S1, S2, S3, h1, h2, h3, h4⟩ := RS.get q (hd v List.mem_cons_self)
    have e2 : S2 = [] := h3
    subst e2
    have z := h4 (γ1.getD v .dead) s [] r1
    have ew : (L2.wipe σ vs)[v]? = some s := by
      have : ∀ (vs : List Nat), v ∉ vs → (L2.wipe σ vs)[v]? = σ[v]? := by
        intro ws
        induction ws with
        | nil => intro _; rfl
        | cons w ws ih =>
          intro hm
          show ((L2.wipe σ ws).set w none)[v]? = _
          rw [List.getElem?_set_ne fun e => hm (by rw [e]; exact List.mem_cons_self)]
          exact ih fun e => hm (List.mem_cons_of_mem _ e)
      rw [this vs nv, hs]
    rw [List.set_set, set_self ew, ← h2] at z
    refine RS.rest (γ1 := γ1) (vs := vs) z (fun i hi => ?_) nd' (by rw [List.length_set]; exact hl) fun i hi => hr i (List.mem_cons_of_mem _ hi)
    rw [List.getElem?_set_ne fun e => nv (by rw [e]; exact hi)]
    exact hd i (List.mem_cons_of_mem _ hi)
end


section
variable {X : Cx} {W : WX} {pu pt pe' pi' : Bool} {vs : List Nat} {tg iter elt c : Expr} {ifs : List Expr} {scope : Scope} {own : List (Str × Nat)} {g : MG} {mi : MI} {mt : MT} {me : ME} {pos : Pos}
theorem PTs.imp {X : Cx} {e : List Expr} {t t' : TT} (h : PTs X e t) (i : ∀ σ H Q, t' σ H Q → t σ H Q) : PTs X e t' := ⟨fun pins s σ H Q I q => h.run pins s σ H Q I (i σ H Q q)⟩
end
end Tw

namespace Tw
open PySem PySem.Spec PyProof.Rows L2
def ItB (b : Bool) (h : Heap) (it l : Addr) (i : Nat) : Prop := match b with
  | true => h.IsListIter it l i
  | false => h.IsTupleIter it l i
def SqB (b : Bool) (h : Heap) (l : Addr) (xs : Array Value) : Prop := match b with
  | true => h.IsList l xs
  | false => h.IsTuple l xs
section
variable {b c : Bool} {h h' : Heap} {it l : Addr} {i : Nat} {xs : Array Value}
theorem ItB.at_ (x : ItB b h it l i) (e : ∀ o, h.get? it = some o → h'.get? it = some o) : ItB b h' it l i := by
  cases b
  · exact Heap.IsTupleIter.at x e
  · exact Heap.IsListIter.at x e
theorem ItB.ext {a : Addr} (x : ItB b h it l i) (hs : Heap.ExtBut a h h') (n : it ≠ a) : ItB b h' it l i := x.at_ fun o e => hs _ _ n e
theorem SqB.at_ (x : SqB b h l xs) (e : ∀ o, h.get? l = some o → h'.get? l = some o) : SqB b h' l xs := by
  cases b
  · exact Heap.IsTuple.at x e
  · exact Heap.IsList.at x e
theorem SqB.ext {a : Addr} (x : SqB b h l xs) (hs : Heap.ExtBut a h h') (n : l ≠ a) : SqB b h' l xs := x.at_ fun o e => hs _ _ n e
theorem ItB.obj (x : ItB b h it l i) : ∃ o, h.get? it = some o ∧ ∃ fs, o.data = .fields fs := by
  cases b <;> obtain ⟨o, e, _, d⟩ := x <;> exact ⟨o, e, _, d⟩
theorem SqB.obj (x : SqB b h l xs) : ∃ o, h.get? l = some o := by
  cases b <;> obtain ⟨o, e, _⟩ := x <;> exact ⟨o, e⟩
end
end Tw




namespace Tw
open PySem PySem.Spec L2
abbrev Look := Fr → Bool
abbrev AlX : Type := He.AlD × Bool
def obsX (n : Nat) (fa : List He.Fa) (fn : List He.DefD) (ex : List Look) (g : Addr → Option Obj) : AlX := (He.obsDG n fa fn g, ex.all fun e => e (He.frG g (He.asD g n)))
def hookX (n : Nat) (fa : List He.Fa) (fn : List He.DefD) (ex : List Look) : PySem.W.Hook where
  α := AlX
  obs := fun s => obsX n fa fn ex s.heap.get?
  val := fun _ => (He.valD fn, true)
  says := fun _ h => ∃ K : Fr, K.In h ∧ He.SaysD fa fn K ∧ (ex.all fun e => e K) = true
  of := fun _ _ e => ⟨_, He.frG_in, congrArg (fun z : AlX => z.1) e, congrArg (fun z : AlX => z.2) e⟩
  keeps := fun _ _ _ h k => by
    obtain ⟨K, hK, c⟩ := h
    exact ⟨K, PySem.W.Frag.In.keeps hK k, c⟩
theorem obsX_eq {n : Nat} {fa : List He.Fa} {fn : List He.DefD} {ex : List Look} {g : Addr → Option Obj} {s : Shared} (h : ∀ a, g a = s.heap.get? a) : obsX n fa fn ex g = (hookX n fa fn ex).obs s := by
  have e : g = s.heap.get? := funext h
  subst e
  rfl
end Tw

namespace Tw
open PySem PySem.Spec PyProof.Rows L2
def clsOf (K : Fr) (x : String) : Value := if x = "ValueError" then .type "ValueError" else .ref (He.ga K (Str.ofString x))
end Tw


namespace Tw
open PySem PySem.Spec PyProof.Rows L2
def excCB (K : Fr) (D : Addr) : Bool := decide (PySem.W.findIn K (.ref D) "__getattribute__" = some (some (.builtin "BaseException.__getattribute__"))) && (decide (PySem.W.findIn K (.ref D) "__getattr__" = some none) && (decide (PySem.W.subIn K (.ref D) (.type "BaseException") = some true) && (PySem.W.hasDictIn K D &&
  (decide (PySem.W.findIn K (.ref D) "__class__" = some (some (.builtin "object.__class__"))) && (decide (PySem.W.specialIn K (.builtin "object.__class__") "__get__" = some (some (.builtin "getset_descriptor.__get__"))) && (decide (PySem.W.takesIn K (.builtin "object.__class__") = some true) && decide (PySem.W.mroIn K D (.type "object") = some true)))))))
def kinB (cs : List String) (sub : String → String → Bool) : Look := fun K => cs.all fun c => (He.Fa.glo (Str.ofString c)).ok K && ((He.Fa.exc (Str.ofString c)).ok K && (excCB K (He.ga K (Str.ofString c)) &&
  ((("ValueError" :: cs).all fun x => decide (PySem.W.kitOne K (.ref (He.ga K (Str.ofString c))) (clsOf K x) = some (sub c x))) && cs.all fun x => decide (PySem.W.exmOne K (.ref (He.ga K (Str.ofString c))) (.ref (He.ga K (Str.ofString x))) = some (sub c x)))))
def subM (c x : String) : Bool := c == x || (x == "MakeError" || x == "ValueError")
end Tw


namespace Tw
open PySem PySem.Spec PyProof.Rows L2

def killG (ks : List Nat) (γ : Γ) : Γ := ks.foldl (fun γ i => γ.set i .dead) γ
@[simp] theorem killG_nil (γ : Γ) : killG [] γ = γ := (id rfl)
@[simp] theorem killG_cons (k : Nat) (ks : List Nat) (γ : Γ) : killG (k :: ks) γ = killG ks (γ.set k .dead) := (id rfl)
def frzAt (i : Nat) (γ : Γ) : Option Γ := match γ[i]? with
  | some m => if isDead m = true then some γ else m.frz.map fun d => γ.set i (.fz d)
  | none => none
def frzG : List Nat → Γ → Option Γ
  | [], γ => some γ
  | i :: fs, γ => (frzAt i γ).bind fun γ' => frzG fs γ'
@[simp] theorem frzG_nil (γ : Γ) : frzG [] γ = some γ := (id rfl)
@[simp] theorem frzG_cons (i : Nat) (fs : List Nat) (γ : Γ) : frzG (i :: fs) γ = (frzAt i γ).bind fun γ' => frzG fs γ' := (id rfl)
section
variable {K : Fr} {mg : Mg} {pv : Pv} {A : Ad} {σ : L2.St} {γ γ' : Γ} {H H' : Hp} {S S' : List Addr}
theorem Env.kill1 (E : Env K mg pv A σ γ H S) (i : Nat) : ∃ S', Env K mg pv A σ (γ.set i .dead) H S' ∧ ∀ b ∈ S', b ∈ S := by
  by_cases hi : i < γ.length
  · obtain ⟨m, e⟩ : ∃ m, γ[i]? = some m := ⟨γ[i], List.getElem?_eq_getElem hi⟩
    by_cases hd : m = .dead
    · subst hd
      rw [set_self e]
      exact ⟨S, E, fun b hb => hb⟩
    · obtain ⟨v, S2, S', _, _, _, E', mem, _⟩ := E.out e hd
      exact ⟨S', E'.less fun a ha => .inl ha, fun b hb => (mem b).mpr (.inr hb)⟩
  · rw [List.set_eq_of_length_le (Nat.le_of_not_lt hi)]
    exact ⟨S, E, fun b hb => hb⟩
theorem Env.frz1 (E : Env K mg pv A σ γ H S) {i : Nat} (h : frzAt i γ = some γ') : ∃ S', Env K mg pv A σ γ' H S' ∧ ∀ b ∈ S', b ∈ S := by
  unfold frzAt at h
  cases e : γ[i]? with
  | none => rw [e] at h; cases h
  | some m =>
    rw [e] at h
    replace h : (if isDead m = true then some γ else m.frz.map fun d => γ.set i (.fz d)) = some γ' := h
    by_cases hd : isDead m = true
    · rw [if_pos hd] at h
      cases h
      exact ⟨S, E, fun b hb => hb⟩
    · rw [if_neg hd] at h
      cases ef : m.frz with
      | none => rw [ef] at h; cases h
      | some d =>
        rw [ef] at h
        cases h
        obtain ⟨v, S2, S', hσ, rm, nd, E', mem, apart⟩ := E.out e (fun z => hd (by rw [z]; rfl))
        have rd : RD K H (us (adT A []) S') d v := RM.frz m v S2 d rm ef fun b hb hc hu => by
          rcases hu with (hA | hA) | hS
          · rcases hc with hc | hc
            · exact hc (.inl hA)
            · exact (E.am b hA).1 ((mem b).mpr (.inl hc))
          · cases hA
          · rcases hc with hc | hc
            · exact hc (.inr ((mem b).mpr (.inr hS)))
            · exact apart b hc hS
        have E2 : Env K mg pv (adT A []) σ (γ.set i .dead) H S' := E'.less fun a ha => ha.elim .inl fun z => nomatch z
        obtain ⟨S3, E3, h3⟩ := E2.back (i := i) (m := .fz d) (v := v) hσ (by rw [RM]; exact ⟨rd, rfl⟩) List.nodup_nil (fun _ _ z => nomatch z)
        rw [List.set_set] at E3
        exact ⟨S3, E3, fun b hb => (mem b).mpr (.inr (by simpa using h3 b hb))⟩
theorem Env.frzs : ∀ (fs : List Nat) {γ γ' : Γ} {S : List Addr}, Env K mg pv A σ γ H S → frzG fs γ = some γ' → ∃ S', Env K mg pv A σ γ' H S' ∧ ∀ b ∈ S', b ∈ S
  | [], γ, γ', S, E, h => by
    cases h
    exact ⟨S, E, fun b hb => hb⟩
  | i :: fs, γ, γ', S, E, h => by
    rw [frzG_cons] at h
    cases e : frzAt i γ with
    | none => rw [e] at h; cases h
    | some γ1 =>
      rw [e] at h
      obtain ⟨S1, E1, h1⟩ := E.frz1 e
      obtain ⟨S2, E2, h2⟩ := Env.frzs fs E1 h
      exact ⟨S2, E2, fun b hb => h1 b (h2 b hb)⟩
end
end Tw

namespace Tw
open PySem PySem.Spec PyProof.Rows L2

section
variable {K : Fr} {mg : Mg} {pv : Pv} {A : Ad} {σ : L2.St} {γ γ' : Γ} {H H' : Hp} {S S' : List Addr} {U : Addr → Prop}
theorem Env.rest (E : Env K mg pv A σ γ H S) (go : Go H [] H' S') : Env K mg pv A σ γ H' S ∧ Go H S H' S := by
  have hk : ∀ b o, H b = some o → H' b = some o := fun b o h => go.obj b o h (fun z => nomatch z)
  refine ⟨⟨RS.keep _ _ _ ⟨⟨fun b o h _ => hk b o h, fun b _ hu => hu⟩, fun b _ o h => hk b o h⟩ E.rep, E.nd, fun a ha => ⟨(E.am a ha).1, go.keep a (E.am a ha).2⟩, E.pin⟩, ⟨fun b o h _ => hk b o h, fun b hb => .inl hb, go.keep⟩⟩
end
end Tw




namespace Tw
open PySem PySem.Spec PyProof.Rows L2
def kinN (cs : List String) : Look := fun K => ("ValueError" :: cs).all fun x => decide (PySem.W.kitOne K (.type "NoneType") (clsOf K x) = some false)
end Tw

namespace Tw
open PySem PySem.Spec PyProof.Rows L2
section
variable {K : Fr} {mg : Mg} {pv : Pv} {A : Ad} {σ : L2.St} {F : M → Γ} {H : Hp} {S : List Addr} {v : V}
theorem Foc.ins {ms : List M} {ds : List D} {ys : List V} {n : Nat} (f : Foc K mg pv A σ F H S (.lst ms) v) (rd : RDs K H (us A S) ds ys) :
    ∃ a xs, v = .ref a ∧ H a = some (.lst xs) ∧ xs.length = ms.length ∧ ∃ S2, Env K mg pv A σ (F (.lst (ms.take n ++ (ds.map .fz ++ ms.drop n)))) (upd H a (.lst (xs.take n ++ (ys ++ xs.drop n)))) S2 ∧ Go H S (upd H a (.lst (xs.take n ++ (ys ++ xs.drop n)))) S2 := by
  obtain ⟨a, xs, Si, e1, h1, rs, sub, ndS, dis, wr⟩ := f.write
  obtain ⟨S1, S2, e2, r1, r2⟩ := rms_split n rs
  obtain ⟨S4, E4, m4⟩ := wr A (xs.take n ++ (ys ++ xs.drop n)) (ms.take n ++ (ds.map .fz ++ ms.drop n)) Si (fun b hb => ⟨.inl hb, fun z => dis b hb (sub b z)⟩) (fun b hb => .inl hb) ndS fun U kp => by
    subst e2
    refine RMs.append (RMs.keep _ _ S1 (kp.sub fun b hb => List.mem_append_left _ hb) r1) ?_
    have : RMs K mg _ U (ds.map .fz ++ ms.drop n) (ys ++ xs.drop n) ([] ++ S2) := RMs.append (rms_fz (RDs.keep kp.toKeep ds ys rd)) (RMs.keep _ _ S2 (kp.sub fun b hb => List.mem_append_right _ hb) r2)
    exact this
  refine ⟨a, xs, e1, h1, rs.length, S4, E4, go_upd (Si' := S) (sub a List.mem_cons_self) (fun b hb => hb) fun b hb => ?_⟩
  rcases m4 b hb with z | z
  · exact .inl (sub b (List.mem_cons_of_mem _ z))
  · exact .inl z
end
end Tw

namespace Tw
open PySem PySem.Spec PyProof.Rows L2
def strB (x z : Str) : Look := fun K => (He.Fa.str x z).ok K
end Tw



namespace Tw
open PySem PySem.Spec PyProof.Rows L2
section
variable {K : Fr} {mg : Mg} {pv : Pv} {A : Ad} {σ : L2.St} {γ : Γ} {F : M → Γ} {H H' : Hp} {S S' T : List Addr} {U U' : Addr → Prop} {m : M} {v : V}
theorem Foc.writeD {ms : List (Key × M)} (f : Foc K mg pv A σ F H S (.dct ms) v) : ∃ a xs Si, v = .ref a ∧ H a = some (.dK xs) ∧ RMk K mg H (us A S) ms xs Si ∧ (∀ b ∈ a :: Si, b ∈ S) ∧ (a :: Si).Nodup ∧ (∀ a, A a → a ∉ S) ∧
    ∀ (A2 : Ad) (xs' : List (Key × V)) (ms' : List (Key × M)) (Si' : List Addr), (∀ b, A2 b → (A b ∨ b ∈ a :: Si) ∧ b ∉ a :: Si') → (∀ b ∈ Si', b ∈ Si ∨ A b) → (a :: Si').Nodup →
      (∀ U : Addr → Prop, KeepM H (upd H a (.dK xs')) (us A S) U Si → RMk K mg (upd H a (.dK xs')) U ms' xs' Si') → ∃ S2, Env K mg pv A2 σ (F (.dct ms')) (upd H a (.dK xs')) S2 ∧ ∀ b ∈ S2, b ∈ Si' ∨ b ∈ S := by
  obtain ⟨Sm, So, hA, mem, ap, nd, rm, k⟩ := f
  have mu := RM.mut _ _ _ rm
  rw [RM] at rm
  obtain ⟨a, xs, Si, e1, h1, z, r⟩ := rm
  subst e1 z
  refine ⟨a, xs, Si, rfl, h1, r, fun b hb => (mem b).mpr (.inl hb), nd, hA, fun A2 xs' ms' Si' c1 c2 nd' hr => ?_⟩
  have ne : ∀ b, b ∉ a :: Si → b ≠ a := fun b hb z => hb (by rw [z]; exact List.mem_cons_self)
  have q4 : ∀ U : Addr → Prop, (∀ b, U b → us A2 (a :: Si') b ∨ b ∈ So) → RM K mg (upd H a (.dK xs')) U (.dct ms') (.ref a) (a :: Si') := fun U hU => by
    rw [RM]
    refine ⟨a, xs', Si', rfl, upd_same, rfl, hr U ⟨⟨fun b o q hn => ?_, fun b hb hn hu => ?_⟩, fun b hb o q => ?_⟩⟩
    · by_cases hba : b = a
      · subst hba
        rw [h1] at q
        cases q
        exact absurd (.inr ((mem b).mpr (.inl List.mem_cons_self))) (hn rfl)
      · rw [upd_ne hba]
        exact q
    · rcases hU b hu with (z | z) | z
      · rcases (c1 b z).1 with y | y
        · exact hn (.inl y)
        · exact hn (.inr ((mem b).mpr (.inl y)))
      · rcases List.mem_cons.mp z with z | z
        · exact hn (.inr ((mem b).mpr (.inl (by rw [z]; exact List.mem_cons_self))))
        · rcases c2 b z with y | y
          · exact hn (.inr ((mem b).mpr (.inl (List.mem_cons_of_mem _ y))))
          · exact hn (.inl y)
      · exact hn (.inr ((mem b).mpr (.inr z)))
    · have hba : b ≠ a := fun z => (List.nodup_cons.mp nd).1 (z ▸ hb)
      rw [upd_ne hba]
      exact q
  obtain ⟨S2, E2, m2⟩ := k A2 (upd H a (.dK xs')) (.dct ms') (a :: Si') (fun b o q hn => by rw [upd_ne (ne b hn)]; exact q) (fun b hb => by
    by_cases hba : b = a
    · rw [hba, upd_same]; exact (fun z => nomatch z)
    · rw [upd_ne hba]; exact hb) c1 (fun b hb => by
    rcases List.mem_cons.mp hb with z | z
    · exact .inl (by rw [z]; exact List.mem_cons_self)
    · exact (c2 b z).imp (fun y => List.mem_cons_of_mem _ y) .inr) nd' q4
  refine ⟨S2, E2, fun b hb => ?_⟩
  rcases (m2 b).mp hb with z | z
  · rcases List.mem_cons.mp z with z | z
    · exact .inr ((mem b).mpr (.inl (by rw [z]; exact List.mem_cons_self)))
    · exact .inl z
  · exact .inr ((mem b).mpr (.inr z))

theorem putK_nil {k : Key} {x : V} : putK ([] : List (Key × V)) k x = [(k, x)] := rfl
theorem putK_hit {k : Key} {v x : V} {vs : List (Key × V)} (h : ∀ p ∈ vs, p.1 ≠ k) : putK ((k, v) :: vs) k x = (k, x) :: vs := by
  unfold putK
  rw [if_pos (by simp)]
  rw [List.map_cons, if_pos rfl]
  congr 1
  have : ∀ l : List (Key × V), (∀ p ∈ l, p.1 ≠ k) → l.map (fun kv => if kv.1 = k then (kv.1, x) else kv) = l := by
    intro l
    induction l with
    | nil => intro _; rfl
    | cons p l ih =>
      intro hl
      rw [List.map_cons, if_neg (hl p List.mem_cons_self), ih fun q hq => hl q (List.mem_cons_of_mem _ hq)]
  exact this vs h
theorem putK_miss {k q : Key} {v x : V} {vs : List (Key × V)} (h : ¬ q = k) : putK ((q, v) :: vs) k x = (q, v) :: putK vs k x := by
  unfold putK
  rw [List.any_cons, decide_eq_false h, Bool.false_or]
  split
  · rw [List.map_cons, if_neg h]
  · rfl
def putM : List (Key × M) → Key → M → Option (List (Key × M))
  | [], k, r => some [(k, r)]
  | (q, m) :: ms, k, r => if q = k then (if (ms.all fun p => decide (p.1 ≠ k)) = true then some ((q, r) :: ms) else none) else (putM ms k r).map ((q, m) :: ·)
theorem RMk.keys {k : Key} : ∀ {ms : List (Key × M)} {xs : List (Key × V)} {S : List Addr}, RMk K mg H U ms xs S → (∀ p ∈ ms, p.1 ≠ k) → ∀ p ∈ xs, p.1 ≠ k
  | [], xs, S, h, _, p, hp => by
    rw [RMk] at h
    rw [h.1] at hp
    exact nomatch hp
  | (q, m) :: ms, xs, S, h, hk, p, hp => by
    rw [RMk] at h
    obtain ⟨v, vs, S1, S2, e1, z, r, y⟩ := h
    subst e1
    rcases List.mem_cons.mp hp with hp | hp
    · subst hp
      exact hk (q, m) List.mem_cons_self
    · exact RMk.keys y (fun p hp => hk p (List.mem_cons_of_mem _ hp)) p hp
theorem RMk.length : ∀ {ms : List (Key × M)} {xs : List (Key × V)} {S : List Addr}, RMk K mg H U ms xs S → xs.length = ms.length
  | [], xs, S, h => by rw [RMk] at h; rw [h.1]; rfl
  | (q, m) :: ms, xs, S, h => by
    rw [RMk] at h
    obtain ⟨v, vs, S1, S2, e1, z, r, y⟩ := h
    subst e1
    rw [List.length_cons, List.length_cons, RMk.length y]
theorem RMk.put {k : Key} {r : M} : ∀ {ms ms' : List (Key × M)} {xs : List (Key × V)} {S : List Addr}, RMk K mg H U ms xs S → putM ms k r = some ms' → ∃ S1 S2 S3, S = S1 ++ (S2 ++ S3) ∧
    ∀ (H' : Hp) (U' : Addr → Prop) (x : V) (T : List Addr), KeepM H H' U U' (S1 ++ S3) → RM K mg H' U' r x T → RMk K mg H' U' ms' (putK xs k x) (S1 ++ (T ++ S3))
  | [], ms', xs, S, h, e => by
    rw [RMk] at h
    cases e
    refine ⟨[], [], [], h.2, fun H' U' x T kp rm => ?_⟩
    rw [h.1, putK_nil, RMk]
    exact ⟨x, [], T, [], rfl, rfl, rm, by rw [RMk]; exact ⟨rfl, rfl⟩⟩
  | (q, m) :: ms, ms', xs, S, h, e => by
    rw [RMk] at h
    obtain ⟨v, vs, S1, S2, e1, z, rm0, y⟩ := h
    subst e1 z
    rw [putM] at e
    by_cases hq : q = k
    · subst hq
      rw [if_pos rfl] at e
      by_cases ha : (ms.all fun p => decide (p.1 ≠ q)) = true
      · rw [if_pos ha] at e
        cases e
        have hk : ∀ p ∈ ms, p.1 ≠ q := fun p hp => of_decide_eq_true (List.all_eq_true.mp ha p hp)
        refine ⟨[], S1, S2, rfl, fun H' U' x T kp rm => ?_⟩
        rw [putK_hit (RMk.keys y hk), RMk]
        exact ⟨x, vs, T, S2, rfl, rfl, rm, RMk.keep ms vs S2 (kp.sub fun b hb => List.mem_append_right _ hb) y⟩
      · rw [if_neg ha] at e
        cases e
    · rw [if_neg hq] at e
      cases em : putM ms k r with
      | none => rw [em] at e; cases e
      | some ms2 =>
        rw [em] at e
        cases e
        obtain ⟨T1, T2, T3, e2, g⟩ := RMk.put y em
        subst e2
        refine ⟨S1 ++ T1, T2, T3, by rw [List.append_assoc], fun H' U' x T kp rm => ?_⟩
        rw [putK_miss hq, RMk]
        refine ⟨v, putK vs k x, S1, T1 ++ (T ++ T3), rfl, by rw [List.append_assoc], RM.keep m v S1 (kp.sub fun b hb => List.mem_append_left _ (List.mem_append_left _ hb)) rm0, g H' U' x T (kp.sub fun b hb => ?_) rm⟩
        rcases List.mem_append.mp hb with hb | hb
        · exact List.mem_append_left _ (List.mem_append_right _ hb)
        · exact List.mem_append_right _ hb
end
end Tw

namespace Tw
open PySem PySem.Spec PyProof.Rows L2
section
variable {K : Fr} {mg : Mg} {pv : Pv} {A : Ad} {σ : L2.St} {γ : Γ} {F : M → Γ} {H H' : Hp} {S S' T : List Addr} {U U' : Addr → Prop} {m : M} {v : V}
theorem Foc.put {ms ms' : List (Key × M)} {r : M} {x : V} {k : Key} (f : Foc K mg pv (adT A T) σ F H S (.dct ms) v) (rm : RM K mg H (us (adT A T) S) r x T) (nd : T.Nodup) (hA : ∀ a, A a → a ∉ T) (hj : putM ms k r = some ms') :
    ∃ a xs, v = .ref a ∧ H a = some (.dK xs) ∧ xs.length = ms.length ∧ ∃ S2, Env K mg pv A σ (F (.dct ms')) (upd H a (.dK (putK xs k x))) S2 ∧ Go H (T ++ S) (upd H a (.dK (putK xs k x))) S2 := by
  obtain ⟨a, xs, Si, e1, h1, rs, sub, ndS, dis, wr⟩ := f.writeD
  obtain ⟨S1, S2, S3, g2, g4⟩ := RMk.put rs hj
  have hT : ∀ b ∈ T, b ∉ S := fun b hb => dis b (.inr hb)
  have sub1 : ∀ b ∈ S1 ++ S3, b ∈ Si := fun b hb => by
    rw [g2]
    rcases List.mem_append.mp hb with hb | hb
    · exact List.mem_append_left _ hb
    · exact List.mem_append_right _ (List.mem_append_right _ hb)
  obtain ⟨na, nS⟩ := List.nodup_cons.mp ndS
  rw [g2] at nS
  obtain ⟨n1, n23, d1⟩ := List.nodup_append.mp nS
  obtain ⟨n2, n3, d2⟩ := List.nodup_append.mp n23
  have all : ∀ b ∈ S1 ++ (T ++ S3), b ∈ T ∨ b ∈ S1 ++ S3 := fun b hb => by
    rcases List.mem_append.mp hb with hb | hb
    · exact .inr (List.mem_append_left _ hb)
    · rcases List.mem_append.mp hb with hb | hb
      · exact .inl hb
      · exact .inr (List.mem_append_right _ hb)
  have q1 : ∀ b, A b → (adT A T b ∨ b ∈ a :: Si) ∧ b ∉ a :: (S1 ++ (T ++ S3)) := fun b hb => ⟨.inl (.inl hb), fun z => by
    rcases List.mem_cons.mp z with z | z
    · exact dis b (.inl hb) (sub b (by rw [z]; exact List.mem_cons_self))
    · rcases all b z with z | z
      · exact hA b hb z
      · exact dis b (.inl hb) (sub b (List.mem_cons_of_mem _ (sub1 b z)))⟩
  have q2 : ∀ b ∈ S1 ++ (T ++ S3), b ∈ Si ∨ adT A T b := fun b hb => by
    rcases all b hb with z | z
    · exact .inr (.inr z)
    · exact .inl (sub1 b z)
  have q3 : (a :: (S1 ++ (T ++ S3))).Nodup := by
    refine List.nodup_cons.mpr ⟨fun z => ?_, List.nodup_append.mpr ⟨n1, List.nodup_append.mpr ⟨nd, n3, fun c hc d hd z => ?_⟩, fun c hc d hd z => ?_⟩⟩
    · rcases all a z with z | z
      · exact hT a z (sub a List.mem_cons_self)
      · exact na (sub1 a z)
    · subst z
      exact hT c hc (sub c (List.mem_cons_of_mem _ (sub1 c (List.mem_append_right _ hd))))
    · subst z
      rcases List.mem_append.mp hd with hd | hd
      · exact hT c hd (sub c (List.mem_cons_of_mem _ (sub1 c (List.mem_append_left _ hc))))
      · exact d1 c hc c (List.mem_append_right _ hd) rfl
  have hlen : xs.length = ms.length := rs.length
  have q4 : ∀ U : Addr → Prop, KeepM H (upd H a (.dK (putK xs k x))) (us (adT A T) S) U Si → RMk K mg (upd H a (.dK (putK xs k x))) U ms' (putK xs k x) (S1 ++ (T ++ S3)) := fun U kp => by
    refine g4 _ U x T (kp.sub sub1) (RM.keep r x T ⟨kp.toKeep, fun b hb o q => ?_⟩ rm)
    have hne : b ≠ a := fun z => hT b hb (sub b (by rw [z]; exact List.mem_cons_self))
    rw [upd_ne hne]
    exact q
  obtain ⟨S4, E4, m4⟩ := wr A (putK xs k x) ms' (S1 ++ (T ++ S3)) q1 q2 q3 q4
  refine ⟨a, xs, e1, h1, hlen, S4, E4, ?_⟩
  have ha : a ∈ T ++ S := List.mem_append_right _ (sub a List.mem_cons_self)
  refine go_upd (Si' := T ++ S) ha (fun b hb => hb) fun b hb => ?_
  rcases m4 b hb with z | z
  · rcases all b z with z | z
    · exact .inl (List.mem_append_left _ z)
    · exact .inl (List.mem_append_right _ (sub b (List.mem_cons_of_mem _ (sub1 b z))))
  · exact .inl (List.mem_append_right _ z)
end
end Tw

namespace Tw
open PySem PySem.Spec PyProof.Rows L2
def lookM : List (Key × M) → Key → Option M
  | [], _ => none
  | (q, m) :: ms, k => if q = k then some m else lookM ms k
end Tw









namespace Tw
open PySem PySem.Spec PyProof.Rows L2
def setM : List (Key × M) → Key → M → List (Key × M)
  | [], _, _ => []
  | (q, m) :: ms, k, r => if q = k then (q, r) :: ms else (q, m) :: setM ms k r
section
variable {K : Fr} {mg : Mg} {pv : Pv} {A : Ad} {σ : L2.St} {F : M → Γ} {H : Hp} {S : List Addr} {U : Addr → Prop} {m c : M} {v : V}
theorem RMk.at_ {k : Key} {c : M} : ∀ {ms : List (Key × M)} {xs : List (Key × V)} {S : List Addr}, RMk K mg H U ms xs S → lookM ms k = some c → ∃ x S1 S2 S3, valV xs k = some x ∧ S = S1 ++ (S2 ++ S3) ∧ RM K mg H U c x S2 ∧
    ∀ (H' : Hp) (U' : Addr → Prop) (c' : M) (S2' : List Addr), KeepM H H' U U' (S1 ++ S3) → RM K mg H' U' c' x S2' → RMk K mg H' U' (setM ms k c') xs (S1 ++ (S2' ++ S3))
  | [], xs, S, h, e => by cases e
  | (q, m0) :: ms, xs, S, h, e => by
    rw [RMk] at h
    obtain ⟨v, vs, S1, S2, e1, z, rm0, y⟩ := h
    subst e1 z
    rw [lookM] at e
    by_cases hq : q = k
    · rw [if_pos hq] at e
      cases e
      refine ⟨v, [], S1, S2, valV_pos hq, rfl, rm0, fun H' U' c' S2' kp rc => ?_⟩
      rw [setM, if_pos hq, RMk]
      exact ⟨v, vs, S2', S2, rfl, rfl, rc, RMk.keep ms vs S2 (kp.sub fun b hb => List.mem_append_right _ hb) y⟩
    · rw [if_neg hq] at e
      obtain ⟨x, T1, T2, T3, h1, h2, h3, h4⟩ := RMk.at_ y e
      subst h2
      refine ⟨x, S1 ++ T1, T2, T3, by rw [valV_neg (by exact hq)]; exact h1, by rw [List.append_assoc], h3, fun H' U' c' S2' kp rc => ?_⟩
      rw [setM, if_neg hq, RMk]
      refine ⟨v, vs, S1, T1 ++ (S2' ++ T3), rfl, by rw [List.append_assoc], RM.keep m0 v S1 (kp.sub fun b hb => List.mem_append_left _ (List.mem_append_left _ hb)) rm0, h4 H' U' c' S2' (kp.sub fun b hb => ?_) rc⟩
      rcases List.mem_append.mp hb with z | z
      · exact List.mem_append_left _ (List.mem_append_right _ z)
      · exact List.mem_append_right _ z
end
end Tw




namespace Tw
open PySem PySem.Spec PyProof.Rows L2
def tri (x : NestedKey × Addr) : NestedKey × Addr × Value := (x.1, x.2, .bool true)
section
variable {X : Cx} {pins : List (Addr × Obj)} {σ : L2.St} {H : Hp} {s : Shared} {U : Addr → Prop}
mutual
theorem nested_rd (I : Inv X pins σ H s) : ∀ (k : NestedKey) (v : V) (u : Value), RD X.K H U (NestedKey.data k) v → RelV v u → NestedIs s.heap k u
  | .none, v, u, r, rv => by
    rw [NestedKey.data, rd_none] at r
    subst r
    have : u = .none := rv
    rw [this]
    exact .none
  | .num i, v, u, r, rv => by
    rw [NestedKey.data, rd_int] at r
    subst r
    obtain ⟨t, rfl⟩ := (show ∃ t, u = Value.int i t from rv)
    exact .int i t
  | .text i, v, u, r, rv => by
    rw [NestedKey.data, rd_str] at r
    subst r
    obtain ⟨t, rfl⟩ := (show ∃ t, u = Value.str i t from rv)
    exact .text i t
  | .tup ks, v, u, r, rv => by
    rw [NestedKey.data] at r
    obtain ⟨a, xs, rfl, q, rr⟩ := rd_tup r
    obtain rfl : u = Value.ref a := rv
    obtain ⟨its, rvs, ⟨o, ho, hc, n, hd⟩, _⟩ := I.tuple q
    exact .tup ho hc hd (nested_rds I ks xs its rr rvs)
theorem nested_rds (I : Inv X pins σ H s) : ∀ (ks : List NestedKey) (vs : List V) (us : List Value), RDs X.K H U (NestedKey.datas ks) vs → Vals vs us → NestedAll s.heap ks us
  | [], vs, us, r, rv => by
    rw [NestedKey.datas] at r
    rw [rds_nil r] at rv
    cases rv
    exact .nil
  | k :: ks, vs, us, r, rv => by
    rw [NestedKey.datas] at r
    obtain ⟨v, ws, rfl, r1, r2⟩ := rds_cons r
    cases rv with
    | cons a b => exact .cons (nested_rd I k v _ r1 a) (nested_rds I ks ws _ r2 b)
end
structure TdAt (K : Fr) (w : World) (H : Hp) (U : Addr → Prop) (a : Addr) (xs : List (NestedKey × Addr)) : Prop where
  at_ : H a = some (tdO w a xs)
  nd : (xs.map (·.1)).Nodup
  ns : (a == sysModules) = false
  key : ∀ x ∈ xs, RD K H U (NestedKey.data x.1) (.ref x.2) ∧ x.1.depth ≤ 8
theorem TdAt.dict {a : Addr} {xs : List (NestedKey × Addr)} (I : Inv X pins σ H s) (t : TdAt X.K X.w H U a xs) : s.heap.DictOfH (nestedKind X.prog X.w) a (xs.map tri) := by
  obtain ⟨⟨o, es, ep, h1, h2, h3, h4⟩, _⟩ := (show ObjOk X.prog X.w H s.heap a (tdO X.w a xs) from I.hok a _ t.at_)
  refine ⟨o, es, ep, h1, h2, h3, ?_, fun x hx => ?_, ?_⟩
  · rw [h4, List.map_map]
    rfl
  · obtain ⟨y, hy, rfl⟩ := List.mem_map.mp hx
    exact ⟨nested_rd I _ _ _ (t.key y hy).1 rfl, (t.key y hy).2⟩
  · rw [List.map_map]
    exact t.nd
end
end Tw


namespace Tw
open PySem PySem.Spec L2
section
variable {K : Fr} {mg : Mg} {pv : Pv} {A : Ad} {σ : L2.St} {F : M → Γ} {H : Hp} {S : List Addr} {v : V}
theorem Foc.ext {ms : List M} {ds : List D} {ys : List V} (f : Foc K mg pv (adT A []) σ F H S (.lst ms) v) (rd : RDs K H (us (adT A []) S) ds ys) :
    ∃ a xs, v = .ref a ∧ H a = some (.lst xs) ∧ xs.length = ms.length ∧ ∃ S2, Env K mg pv A σ (F (.lst (ms ++ ds.map .fz))) (upd H a (.lst (xs ++ ys))) S2 ∧ Go H S (upd H a (.lst (xs ++ ys))) S2 := by
  obtain ⟨a, xs, Si, e1, h1, rs, sub, ndS, dis, wr⟩ := f.write
  obtain ⟨na, nS⟩ := List.nodup_cons.mp ndS
  have q1 : ∀ b, A b → (adT A [] b ∨ b ∈ a :: Si) ∧ b ∉ a :: (Si ++ []) := fun b hb => ⟨.inl (.inl hb), fun z => by
    rw [List.append_nil] at z
    exact dis b (.inl hb) (sub b z)⟩
  have q2 : ∀ b ∈ Si ++ [], b ∈ Si ∨ adT A [] b := fun b hb => by rw [List.append_nil] at hb; exact .inl hb
  have q3 : (a :: (Si ++ [])).Nodup := by rw [List.append_nil]; exact ndS
  obtain ⟨S4, E4, m4⟩ := wr A (xs ++ ys) (ms ++ ds.map .fz) (Si ++ []) q1 q2 q3 fun U kp =>
    RMs.append (RMs.keep ms xs Si kp rs) (RMs.keep (ds.map .fz) ys [] ⟨kp.toKeep, fun b hb => nomatch hb⟩ (rms_fz rd))
  refine ⟨a, xs, e1, h1, rs.length, S4, E4, ?_⟩
  refine go_upd (Si' := S) (sub a List.mem_cons_self) (fun b hb => hb) fun b hb => ?_
  rcases m4 b hb with z | z
  · rw [List.append_nil] at z
    exact .inl (sub b (List.mem_cons_of_mem _ z))
  · exact .inl z
end
end Tw



namespace Tw
open PySem PySem.Spec L2

structure ItOkP (K : Fr) (A : Ad) (H' : Hp) (S' : List Addr) (J : It) (ds : List D) : Prop where
  go : ∀ i H1, i < ds.length → Same H' H1 → J.go i H1
  stop : ∀ H1, Same H' H1 → J.stop ds.length H1
  yld : ∀ i d H1 x H2, ds[i]? = some d → Same H' H1 → J.yld i H1 x H2 → Same H1 H2 ∧ ∀ U : Addr → Prop, (∀ b, U b → us A S' b ∨ H' b = none) → RD K H2 U d x
theorem ItOk.p {K : Fr} {A : Ad} {H' : Hp} {S' : List Addr} {J : It} {ds : List D} (h : ItOk K A H' S' J ds) : ItOkP K A H' S' J ds :=
  ⟨fun i H1 hi s => h.go i H1 S' hi (Go.same s), fun H1 s => h.stop H1 S' (Go.same s), fun i d H1 x H2 hd s hy => h.yld i d H1 S' x H2 hd (Go.same s) hy⟩
section
variable (K : Fr) (mg : Mg) (W : WX)
def WantIP (pu : Bool) (pv : Pv) (A : Ad) (σ : L2.St) (H : Hp) (S : List Addr) (R : It → Hp → Prop) : Out (List D) → Prop :=
  WantG (fun ds γ' => ∀ J H' S', Go H S H' S' → (pu = true → S' = S ∧ Same H H') → Env K mg pv A σ γ' H' S' → ItOkP K A H' S' J ds → R J H') (ErE K mg W pv A σ H S)
def tIP (pu : Bool) (m : Γ → Out (List D)) : TI := fun σ H R => ∃ pv A γ S, Env K mg pv A σ γ H S ∧ WantIP K mg W pu pv A σ H S R (m γ)
end
structure JIP (X : Cx) (W : WX) (pu : Bool) (tg it : Expr) (m : MI) : Prop where
  pi : PI X tg it (tIP X.K X.mgw W pu m)
  quiet : pu = true → Quiet m
section
variable {X : Cx} {W : WX} {pu : Bool} {tg it c e : Expr} {mi : MI} {mt : MT} {mp : MP}
theorem JI.p (h : JI X W pu tg it mi) : JIP X W pu tg it mi :=
  ⟨PI.imp h.pi fun σ H R ⟨pv, A, γ, S, E, w⟩ => ⟨pv, A, γ, S, E, WantG.mono w (fun ds γ' w J H' S' go p E' io => w J H' S' go p E' io.p) fun _ _ w => w⟩, h.quiet⟩
end
end Tw

namespace Tw
open PySem PySem.Spec L2

def lookF : List (Str × M) → Str → Option M
  | [], _ => none
  | (g, m) :: r, f => if g = f then some m else lookF r f
def setF : List (Str × M) → Str → M → List (Str × M)
  | [], f, m => [(f, m)]
  | (g, x) :: r, f, m => if g = f then (g, m) :: r else (g, x) :: setF r f m
section
variable {K : Fr} {mg : Mg} {pv : Pv} {A : Ad} {σ : L2.St} {γ : Γ} {F : M → Γ} {H H' : Hp} {S S' T : List Addr} {U U' : Addr → Prop} {m c : M} {v : V}
theorem lookup_pos {g f : Str} {x : V} {r : List (Str × V)} (h : g = f) : List.lookup f ((g, x) :: r) = some x := by
  have hb : (f == g) = true := beq_iff_eq.mpr h.symm
  simp only [List.lookup, hb]
theorem lookup_neg {g f : Str} {x : V} {r : List (Str × V)} (h : ¬ g = f) : List.lookup f ((g, x) :: r) = List.lookup f r := by
  have hb : (f == g) = false := by
    cases q : (f == g) with
    | false => rfl
    | true => exact absurd (beq_iff_eq.mp q).symm h
  simp only [List.lookup, hb]
theorem RMf.len : ∀ {ms : List (Str × M)} {xs : List (Str × V)} {S : List Addr}, RMf K mg H U ms xs S → xs.length = ms.length
  | [], xs, S, h => by rw [RMf] at h; rw [h.1]; rfl
  | (q, m) :: ms, xs, S, h => by
    rw [RMf] at h
    obtain ⟨v, vs, S1, S2, e1, z, r, y⟩ := h
    subst e1
    rw [List.length_cons, List.length_cons, RMf.len y]
theorem RMf.length : ∀ {ms : List (Str × M)} {xs : List (Str × V)} {S : List Addr}, RMf K mg H U ms xs S → xs.length = ms.length := RMf.len
theorem RMf.at_ {f : Str} {c : M} : ∀ {ms : List (Str × M)} {xs : List (Str × V)} {S : List Addr}, RMf K mg H U ms xs S → lookF ms f = some c → ∃ x S1 S2 S3, List.lookup f xs = some x ∧ S = S1 ++ (S2 ++ S3) ∧ RM K mg H U c x S2 ∧
    ∀ (H' : Hp) (U' : Addr → Prop) (c' : M) (S2' : List Addr), KeepM H H' U U' (S1 ++ S3) → RM K mg H' U' c' x S2' → RMf K mg H' U' (setF ms f c') xs (S1 ++ (S2' ++ S3))
  | [], xs, S, h, e => by cases e
  | (q, m0) :: ms, xs, S, h, e => by
    rw [RMf] at h
    obtain ⟨v, vs, S1, S2, e1, z, rm0, y⟩ := h
    subst e1 z
    rw [lookF] at e
    by_cases hq : q = f
    · rw [if_pos hq] at e
      cases e
      refine ⟨v, [], S1, S2, lookup_pos hq, rfl, rm0, fun H' U' c' S2' kp rc => ?_⟩
      rw [setF, if_pos hq, RMf]
      exact ⟨v, vs, S2', S2, rfl, rfl, rc, RMf.keep ms vs S2 (kp.sub fun b hb => List.mem_append_right _ hb) y⟩
    · rw [if_neg hq] at e
      obtain ⟨x, T1, T2, T3, h1, h2, h3, h4⟩ := RMf.at_ y e
      subst h2
      refine ⟨x, S1 ++ T1, T2, T3, by rw [lookup_neg hq]; exact h1, by rw [List.append_assoc], h3, fun H' U' c' S2' kp rc => ?_⟩
      rw [setF, if_neg hq, RMf]
      refine ⟨v, vs, S1, T1 ++ (S2' ++ T3), rfl, by rw [List.append_assoc], RM.keep m0 v S1 (kp.sub fun b hb => List.mem_append_left _ (List.mem_append_left _ hb)) rm0, h4 H' U' c' S2' (kp.sub fun b hb => ?_) rc⟩
      rcases List.mem_append.mp hb with z | z
      · exact List.mem_append_left _ (List.mem_append_right _ z)
      · exact List.mem_append_right _ z
theorem RMf.put (f : Str) (r : M) : ∀ {ms : List (Str × M)} {xs : List (Str × V)} {S : List Addr}, RMf K mg H U ms xs S → ∃ S1 S2 S3, S = S1 ++ (S2 ++ S3) ∧
    ∀ (H' : Hp) (U' : Addr → Prop) (x : V) (T : List Addr), KeepM H H' U U' (S1 ++ S3) → RM K mg H' U' r x T → RMf K mg H' U' (setF ms f r) (putF f x xs) (S1 ++ (T ++ S3))
  | [], xs, S, h => by
    rw [RMf] at h
    refine ⟨[], [], [], h.2, fun H' U' x T kp rm => ?_⟩
    rw [h.1]
    show RMf K mg H' U' [(f, r)] [(f, x)] (T ++ [])
    rw [RMf]
    exact ⟨x, [], T, [], rfl, rfl, rm, by rw [RMf]; exact ⟨rfl, rfl⟩⟩
  | (q, m) :: ms, xs, S, h => by
    rw [RMf] at h
    obtain ⟨v, vs, S1, S2, e1, z, rm0, y⟩ := h
    subst e1 z
    by_cases hq : q = f
    · refine ⟨[], S1, S2, rfl, fun H' U' x T kp rm => ?_⟩
      rw [setF, if_pos hq]
      show RMf K mg H' U' ((q, r) :: ms) (if q = f then (q, x) :: vs else (q, v) :: putF f x vs) (T ++ S2)
      rw [if_pos hq, RMf]
      exact ⟨x, vs, T, S2, rfl, rfl, rm, RMf.keep ms vs S2 (kp.sub fun b hb => List.mem_append_right _ hb) y⟩
    · obtain ⟨T1, T2, T3, e2, g⟩ := RMf.put f r y
      subst e2
      refine ⟨S1 ++ T1, T2, T3, by rw [List.append_assoc], fun H' U' x T kp rm => ?_⟩
      rw [setF, if_neg hq]
      show RMf K mg H' U' ((q, m) :: setF ms f r) (if q = f then (q, x) :: vs else (q, v) :: putF f x vs) _
      rw [if_neg hq, RMf]
      refine ⟨v, putF f x vs, S1, T1 ++ (T ++ T3), rfl, by rw [List.append_assoc], RM.keep m v S1 (kp.sub fun b hb => List.mem_append_left _ (List.mem_append_left _ hb)) rm0, g H' U' x T (kp.sub fun b hb => ?_) rm⟩
      rcases List.mem_append.mp hb with hb | hb
      · exact List.mem_append_left _ (List.mem_append_right _ hb)
      · exact List.mem_append_right _ hb
end

structure ClsF (K : Fr) (mg : Str → Option Value) (c : String) : Prop where
  at_ : mg (Str.ofString c) = some (.ref (He.ga K (Str.ofString c)))
  cl : Cls K (He.ga K (Str.ofString c))
end Tw

namespace Tw
open PySem PySem.Spec L2

structure CalM (P : Program) (w : World) (K : Fr) (mg : Str → Option Value) (base : Heap) (m : Str) (k : Nat) (n : Nat) (tab : String → Option (List M → Out M)) : Prop where
  ok : ∀ c g, tab c = some g → ClsF K mg c ∧ ∃ f fd ps, Meth K (He.ga K (Str.ofString c)) m f ∧ FnOk P w K mg base (L2.CX P w) k f fd ps (spM K ⟨mg, w⟩ n g) ∧ Binds K fd ps []
theorem CalM.up {P : Program} {w : World} {K : Fr} {mg : Str → Option Value} {base : Heap} {m : Str} {k j n : Nat} {tab : String → Option (List M → Out M)} (C : CalM P w K mg base m k n tab) (h : k ≤ j) : CalM P w K mg base m j n tab :=
  ⟨fun c g e => let ⟨cl, f, fd, ps, hm, F, hb⟩ := C.ok c g e; ⟨cl, f, fd, ps, hm, F.mono h, hb⟩⟩

end Tw

namespace Tw
open PySem PySem.Spec L2

def frzF (i : Nat) (f : Str) (γ : Γ) : Option Γ := match γ[i]? with
  | some (.ins c fs) => (lookF fs f).bind fun m => m.frz.map fun d => γ.set i (.ins c (setF fs f (.fz d)))
  | _ => none
section
variable {K : Fr} {mg : Mg} {pv : Pv} {A : Ad} {σ : L2.St} {γ γ' : Γ} {H H' : Hp} {S S' : List Addr}
theorem Env.frzF (E : Env K mg pv A σ γ H S) {i : Nat} {f : Str} (h : Tw.frzF i f γ = some γ') : ∃ S', Env K mg pv A σ γ' H S' ∧ ∀ b ∈ S', b ∈ S := by
  unfold Tw.frzF at h
  split at h
  · rename_i c fs e
    cases el : lookF fs f with
    | none => rw [el] at h; cases h
    | some m0 =>
      rw [el, Option.bind_some] at h
      cases ef : m0.frz with
      | none => rw [ef] at h; cases h
      | some d =>
        rw [ef] at h
        cases h
        obtain ⟨v, S2, S', hσ, rm, nd, E', mem, apart⟩ := E.out e (fun z => nomatch z)
        rw [RM] at rm
        obtain ⟨a, C, dx, xs, Si, e1, hC, h1, z, rf⟩ := rm
        subst z
        obtain ⟨x, T1, T2, T3, h2, h3, h4, h5⟩ := rf.at_ el
        subst h3
        obtain ⟨na, nS⟩ := List.nodup_cons.mp nd
        obtain ⟨n1, n23, d1⟩ := List.nodup_append.mp nS
        obtain ⟨n2, n3, d2⟩ := List.nodup_append.mp n23
        have inS : ∀ b ∈ a :: (T1 ++ ([] ++ T3)), b ∈ a :: (T1 ++ (T2 ++ T3)) := fun b hb => by
          simp only [List.mem_cons, List.mem_append, List.nil_append] at hb ⊢
          rcases hb with z | z | z
          · exact .inl z
          · exact .inr (.inl z)
          · exact .inr (.inr (.inr z))
        have ap2 : ∀ b ∈ T2, b ∉ a :: (T1 ++ ([] ++ T3)) := fun b hb hc => by
          simp only [List.mem_cons, List.mem_append, List.nil_append] at hc
          rcases hc with z | z | z
          · exact na (by rw [← z]; exact List.mem_append_right _ (List.mem_append_left _ hb))
          · exact d1 b z b (List.mem_append_left _ hb) rfl
          · exact d2 b hb b z rfl
        have hU : ∀ b, us (adT A (a :: (T1 ++ ([] ++ T3)))) S' b → us A S b := fun b hu => by
          rcases hu with (z | z) | z
          · exact .inl z
          · exact .inr ((mem b).mpr (.inl (inS b z)))
          · exact .inr ((mem b).mpr (.inr z))
        have E2 : Env K mg pv (adT A (a :: (T1 ++ ([] ++ T3)))) σ (γ.set i .dead) H S' := E'.less fun b hb => hb.imp id (inS b)
        have ndN : (a :: (T1 ++ ([] ++ T3))).Nodup := by
          refine List.nodup_cons.mpr ⟨fun z => ?_, List.nodup_append.mpr ⟨n1, by rw [List.nil_append]; exact n3, fun b hb c hc z => ?_⟩⟩
          · simp only [List.mem_append, List.nil_append] at z
            rcases z with z | z
            · exact na (List.mem_append_left _ z)
            · exact na (List.mem_append_right _ (List.mem_append_right _ z))
          · rw [List.nil_append] at hc
            exact d1 b hb c (List.mem_append_right _ hc) z
        have rmN : RM K mg H (us (adT A (a :: (T1 ++ ([] ++ T3)))) S') (.ins c (setF fs f (.fz d))) v (a :: (T1 ++ ([] ++ T3))) := by
          rw [RM]
          refine ⟨a, C, dx, xs, T1 ++ ([] ++ T3), e1, hC, h1, rfl, h5 H _ (.fz d) [] ⟨⟨fun _ _ q _ => q, fun b _ hn hu => hn (hU b hu)⟩, fun _ _ _ q => q⟩ ?_⟩
          rw [RM]
          refine ⟨RM.frz m0 x T2 d h4 ef fun b hb hc hu => ?_, rfl⟩
          rcases hc with hc | hc
          · exact hc (hU b hu)
          · rcases hu with (z | z) | z
            · exact (E.am b z).1 ((mem b).mpr (.inl (List.mem_cons_of_mem _ (List.mem_append_right _ (List.mem_append_left _ hc)))))
            · exact ap2 b hc z
            · exact apart b (List.mem_cons_of_mem _ (List.mem_append_right _ (List.mem_append_left _ hc))) z
        obtain ⟨S3, E3, h3'⟩ := E2.back (i := i) hσ rmN ndN (fun b hb hc => (E.am b hb).1 ((mem b).mpr (.inl (inS b hc))))
        rw [List.set_set] at E3
        refine ⟨S3, E3, fun b hb => ?_⟩
        rcases List.mem_append.mp (h3' b hb) with z | z
        · exact (mem b).mpr (.inl (inS b z))
        · exact (mem b).mpr (.inr z)
  · cases h
end

end Tw

namespace Tw
open PySem PySem.Spec PyProof.Rows L2

def frzFs : List (Nat × Str) → Γ → Option Γ
  | [], γ => some γ
  | (i, f) :: r, γ => (frzF i f γ).bind fun γ' => frzFs r γ'
@[simp] theorem frzFs_nil (γ : Γ) : frzFs [] γ = some γ := (id rfl)
@[simp] theorem frzFs_cons (i : Nat) (f : Str) (r : List (Nat × Str)) (γ : Γ) : frzFs ((i, f) :: r) γ = (frzF i f γ).bind fun γ' => frzFs r γ' := (id rfl)
section
variable {K : Fr} {mg : Mg} {pv : Pv} {A : Ad} {σ : L2.St} {H : Hp}
theorem Env.frzFs : ∀ (Fs : List (Nat × Str)) {γ γ' : Γ} {S : List Addr}, Env K mg pv A σ γ H S → Tw.frzFs Fs γ = some γ' → ∃ S', Env K mg pv A σ γ' H S' ∧ ∀ b ∈ S', b ∈ S
  | [], γ, γ', S, E, h => by
    cases h
    exact ⟨S, E, fun b hb => hb⟩
  | (i, f) :: r, γ, γ', S, E, h => by
    rw [frzFs_cons] at h
    cases e : Tw.frzF i f γ with
    | none => rw [e] at h; cases h
    | some γ1 =>
      rw [e] at h
      obtain ⟨S1, E1, h1⟩ := E.frzF e
      obtain ⟨S2, E2, h2⟩ := Env.frzFs r E1 h
      exact ⟨S2, E2, fun b hb => h1 b (h2 b hb)⟩
theorem Env.view {fs : List Nat} {Fs : List (Nat × Str)} {γ γ' : Γ} {S : List Addr} (E : Env K mg pv A σ γ H S) (h : (frzG fs γ).bind (Tw.frzFs Fs) = some γ') : ∃ S', Env K mg pv A σ γ' H S' ∧ ∀ b ∈ S', b ∈ S := by
  cases e : frzG fs γ with
  | none => rw [e] at h; cases h
  | some γ1 =>
    rw [e] at h
    obtain ⟨S1, E1, h1⟩ := Env.frzs fs E e
    obtain ⟨S2, E2, h2⟩ := Env.frzFs Fs E1 h
    exact ⟨S2, E2, fun b hb => h1 b (h2 b hb)⟩
end

end Tw




namespace Tw
open PySem PySem.Spec PyProof.Rows L2
def dropM (ms : List (Key × M)) (k : Key) : List (Key × M) := ms.filter fun p => decide (p.1 ≠ k)
section
variable {K : Fr} {mg : Mg} {pv : Pv} {A : Ad} {σ : L2.St} {F : M → Γ} {H H' : Hp} {S : List Addr} {U U' : Addr → Prop} {m c : M} {v : V}
theorem RMk.drop (k : Key) : ∀ {ms : List (Key × M)} {xs : List (Key × V)} {S : List Addr}, RMk K mg H U ms xs S → ∃ Sr, RMk K mg H U (dropM ms k) (dropK xs k) Sr ∧ Sr.Sublist S
  | [], xs, S, h => by
    rw [RMk] at h
    obtain ⟨rfl, rfl⟩ := h
    exact ⟨[], by rw [show dropM ([] : List (Key × M)) k = [] from rfl, RMk]; exact ⟨rfl, rfl⟩, .refl _⟩
  | (q, m0) :: ms, xs, S, h => by
    rw [RMk] at h
    obtain ⟨v, vs, S1, S2, e1, z, rm0, y⟩ := h
    subst e1 z
    obtain ⟨Sr, h1, h2⟩ := RMk.drop k y
    by_cases hq : q = k
    · refine ⟨Sr, ?_, h2.trans (List.sublist_append_right _ _)⟩
      have d1 : dropM ((q, m0) :: ms) k = dropM ms k := by unfold dropM; rw [List.filter_cons, if_neg (by simp [hq])]
      have d2 : dropK ((q, v) :: vs) k = dropK vs k := by unfold dropK; rw [List.filter_cons, if_neg (by simp [hq])]
      rw [d1, d2]
      exact h1
    · refine ⟨S1 ++ Sr, ?_, List.Sublist.append (.refl _) h2⟩
      have d1 : dropM ((q, m0) :: ms) k = (q, m0) :: dropM ms k := by unfold dropM; rw [List.filter_cons, if_pos (by simp [hq])]
      have d2 : dropK ((q, v) :: vs) k = (q, v) :: dropK vs k := by unfold dropK; rw [List.filter_cons, if_pos (by simp [hq])]
      rw [d1, d2, RMk]
      exact ⟨v, _, S1, Sr, rfl, rfl, rm0, h1⟩
theorem RMk.none {k : Key} : ∀ {ms : List (Key × M)} {xs : List (Key × V)} {S : List Addr}, RMk K mg H U ms xs S → lookM ms k = Option.none → valV xs k = Option.none
  | [], xs, S, h, _ => by
    rw [RMk] at h
    rw [h.1]
    rfl
  | (q, m0) :: ms, xs, S, h, e => by
    rw [RMk] at h
    obtain ⟨v, vs, S1, S2, e1, z, rm0, y⟩ := h
    subst e1 z
    rw [lookM] at e
    by_cases hq : q = k
    · rw [if_pos hq] at e; cases e
    · rw [if_neg hq] at e
      rw [valV_neg (by exact hq)]
      exact RMk.none y e
end
end Tw





namespace Tw
open PySem PySem.Spec L2
theorem RS.non {K : Fr} {mg : Mg} {H : Hp} {U : Addr → Prop} : ∀ {γ : Γ} {σ : St} {S : List Addr}, RS K mg H U γ σ S → (∀ m ∈ γ, nonOwn m = true ∨ m = .dead) → S = []
  | [], σ, S, h, _ => by
    rw [RS] at h
    exact h.2
  | m :: γ, σ, S, h, hn => by
    rw [RS] at h
    obtain ⟨s, σ', S1, S2, e1, e2, r1, r2⟩ := h
    have h2 := RS.non r2 fun x hx => hn x (List.mem_cons_of_mem _ hx)
    have h1 : S1 = [] := by
      rcases hn m List.mem_cons_self with z | z
      · by_cases hd : m = .dead
        · subst hd
          exact r1
        · obtain ⟨v, _, rm⟩ := r1.val hd
          exact nonOwn_S rm z
      · subst z
        exact r1
    rw [e2, h1, h2]
    rfl
end Tw

namespace Tw
open PySem PySem.Spec PyProof.Rows L2
section
variable {K : Fr} {mg : Mg} {pv : Pv} {A : Ad} {σ : L2.St} {F : M → Γ} {H : Hp} {S S' T : List Addr} {U : Addr → Prop} {v : V}
theorem RMk.append {ms' : List (Key × M)} {xs' : List (Key × V)} : ∀ {ms : List (Key × M)} {xs : List (Key × V)} {S : List Addr}, RMk K mg H U ms xs S → RMk K mg H U ms' xs' S' → RMk K mg H U (ms ++ ms') (xs ++ xs') (S ++ S')
  | [], _, _, h, q => by
    rw [RMk] at h
    rw [h.1, h.2]
    exact q
  | (k, m) :: ms, _, _, h, q => by
    rw [RMk] at h
    obtain ⟨v, ws, S1, S2, e1, z, r, y⟩ := h
    subst e1 z
    show RMk K mg H U ((k, m) :: (ms ++ ms')) _ _
    rw [RMk]
    exact ⟨v, ws ++ xs', S1, S2 ++ S', rfl, by rw [List.append_assoc], r, RMk.append (ms := ms) (ms' := ms') (xs := ws) y q⟩
end
end Tw

namespace Tw
open PySem PySem.Spec PyProof.Rows L2

mutual
def eqD : D → D → Bool
  | .none, .none => true
  | .bool a, .bool b => a == b
  | .int a, .int b => decide (a = b)
  | .str a, .str b => decide (a = b)
  | .list a, .list b => eqDs a b
  | .tuple a, .tuple b => eqDs a b
  | .dict a, .dict b => eqDk a b
  | _, _ => false
def eqDs : List D → List D → Bool
  | [], [] => true
  | a :: r, b :: s => eqD a b && eqDs r s
  | _, _ => false
def eqDk : List (D × D) → List (D × D) → Bool
  | [], [] => true
  | (a, x) :: r, (b, y) :: s => eqD a b && (eqD x y && eqDk r s)
  | _, _ => false
end
mutual
theorem eqD_eq : ∀ a b : D, eqD a b = true → a = b
  | .none, .none, _ => rfl
  | .bool a, .bool b, h => by simp [eqD] at h; rw [h]
  | .int a, .int b, h => by simp [eqD] at h; rw [h]
  | .str a, .str b, h => by simp [eqD] at h; rw [h]
  | .list a, .list b, h => by rw [eqD] at h; rw [eqDs_eq a b h]
  | .tuple a, .tuple b, h => by rw [eqD] at h; rw [eqDs_eq a b h]
  | .dict a, .dict b, h => by rw [eqD] at h; rw [eqDk_eq a b h]
  | .none, .bool _, h | .none, .int _, h | .none, .str _, h | .none, .list _, h | .none, .tuple _, h | .none, .dict _, h => by simp [eqD] at h
  | .bool _, .none, h | .bool _, .int _, h | .bool _, .str _, h | .bool _, .list _, h | .bool _, .tuple _, h | .bool _, .dict _, h => by simp [eqD] at h
  | .int _, .none, h | .int _, .bool _, h | .int _, .str _, h | .int _, .list _, h | .int _, .tuple _, h | .int _, .dict _, h => by simp [eqD] at h
  | .str _, .none, h | .str _, .bool _, h | .str _, .int _, h | .str _, .list _, h | .str _, .tuple _, h | .str _, .dict _, h => by simp [eqD] at h
  | .list _, .none, h | .list _, .bool _, h | .list _, .int _, h | .list _, .str _, h | .list _, .tuple _, h | .list _, .dict _, h => by simp [eqD] at h
  | .tuple _, .none, h | .tuple _, .bool _, h | .tuple _, .int _, h | .tuple _, .str _, h | .tuple _, .list _, h | .tuple _, .dict _, h => by simp [eqD] at h
  | .dict _, .none, h | .dict _, .bool _, h | .dict _, .int _, h | .dict _, .str _, h | .dict _, .list _, h | .dict _, .tuple _, h => by simp [eqD] at h
theorem eqDs_eq : ∀ a b : List D, eqDs a b = true → a = b
  | [], [], _ => rfl
  | a :: r, b :: s, h => by
    rw [eqDs, Bool.and_eq_true] at h
    rw [eqD_eq a b h.1, eqDs_eq r s h.2]
  | [], _ :: _, h => by simp [eqDs] at h
  | _ :: _, [], h => by simp [eqDs] at h
theorem eqDk_eq : ∀ a b : List (D × D), eqDk a b = true → a = b
  | [], [], _ => rfl
  | (a, x) :: r, (b, y) :: s, h => by
    rw [eqDk, Bool.and_eq_true, Bool.and_eq_true] at h
    rw [eqD_eq a b h.1, eqD_eq x y h.2.1, eqDk_eq r s h.2.2]
  | [], _ :: _, h => by simp [eqDk] at h
  | _ :: _, [], h => by simp [eqDk] at h
end
mutual
theorem eqD_self : ∀ a : D, eqD a a = true
  | .none => by simp [eqD]
  | .bool a => by simp [eqD]
  | .int a => by simp [eqD]
  | .str a => by simp [eqD]
  | .list a => by rw [eqD]; exact eqDs_self a
  | .tuple a => by rw [eqD]; exact eqDs_self a
  | .dict a => by rw [eqD]; exact eqDk_self a
theorem eqDs_self : ∀ a : List D, eqDs a a = true
  | [] => by simp [eqDs]
  | a :: r => by rw [eqDs, eqD_self a, eqDs_self r]; rfl
theorem eqDk_self : ∀ a : List (D × D), eqDk a a = true
  | [] => by simp [eqDk]
  | (a, x) :: r => by rw [eqDk, eqD_self a, eqD_self x, eqDk_self r]; rfl
end
def sameFz : M → M → Bool
  | .fz d, .fz e => eqD d e
  | _, _ => false
def isScr : M → Bool
  | .scr _ => true
  | _ => false
def okW (m0 m : M) : Bool := isDead m || (isScr m || (sameFz m0 m || flatM m))
def chkW : Γ → Γ → Bool
  | [], [] => true
  | m0 :: γ0, m :: γ => okW m0 m && chkW γ0 γ
  | _, _ => false
@[simp] theorem sameFz_self (d : D) : sameFz (.fz d) (.fz d) = true := eqD_self d
@[simp] theorem chkW_nil : chkW [] [] = true := (id rfl)
@[simp] theorem chkW_cons (m0 m : M) (γ0 γ : Γ) : chkW (m0 :: γ0) (m :: γ) = (okW m0 m && chkW γ0 γ) := (id rfl)
section
variable {K : Fr} {mg : Mg} {pv : Pv} {A : Ad} {σ : L2.St} {γ γ' : Γ} {H H' : Hp} {S S' : List Addr} {U U1 U' : Addr → Prop}
theorem rs_wide (k : Keep H H' U U') : ∀ {γ0 γ1 : Γ} {σ : L2.St} {S0 S1 : List Addr}, RS K mg H U γ0 σ S0 → RS K mg H' U1 γ1 σ S1 → chkW γ0 γ1 = true → RS K mg H' U' γ1 σ S1
  | [], [], σ, S0, S1, h0, h1, _ => by rw [RS] at h1 ⊢; exact h1
  | [], _ :: _, _, _, _, _, _, c => by cases c
  | _ :: _, [], _, _, _, _, _, c => by cases c
  | m0 :: γ0, m :: γ1, σ, S0, S1, h0, h1, c => by
    rw [chkW_cons, Bool.and_eq_true] at c
    rw [RS] at h0 h1 ⊢
    obtain ⟨s, σ', A1, A2, e, z, r0, q0⟩ := h0
    obtain ⟨s1, σ1, B1, B2, e1, z1, r1, q1⟩ := h1
    rw [e] at e1
    injection e1 with es eσ
    subst es eσ
    refine ⟨s, σ', B1, B2, e, z1, ?_, rs_wide k q0 q1 c.2⟩
    have c1 := c.1
    unfold okW at c1
    rcases Bool.or_eq_true _ _ ▸ c1 with h | c1
    · cases m with
      | dead => exact r1
      | _ => cases h
    rcases Bool.or_eq_true _ _ ▸ c1 with h | c1
    · cases m with
      | scr ns =>
        obtain ⟨v, hv, rm⟩ := r1
        refine ⟨v, hv, ?_⟩
        rw [RM] at rm ⊢
        exact rm
      | _ => cases h
    rcases Bool.or_eq_true _ _ ▸ c1 with h | h
    · cases m with
      | fz d =>
        cases m0 with
        | fz d0 =>
          have := eqD_eq d0 d h
          subst this
          obtain ⟨v, hv, rm⟩ := r1
          obtain ⟨v0, hv0, rm0⟩ := r0
          rw [hv] at hv0
          cases hv0
          have hB : B1 = [] := by rw [RM] at rm; exact rm.2
          have hA : A1 = [] := by rw [RM] at rm0; exact rm0.2
          subst hB hA
          exact ⟨v, hv, RM.keep _ v [] ⟨k, fun _ z => nomatch z⟩ rm0⟩
        | _ => cases h
      | _ => cases m0 <;> cases h
    · cases m with
      | dead => rw [flatM] at h; cases h; all_goals (intros; contradiction)
      | _ =>
        obtain ⟨v, hv, rm⟩ := r1
        exact ⟨v, hv, rm_flatM _ v B1 rm h⟩
theorem Env.seen (E : Env K mg pv A σ γ H S) {i : Nat} {m : M} {d : D} (e : γ[i]? = some m) (hd : ¬ isDead m = true) (ef : m.frz = some d) :
    ∃ S3, Env K mg pv A σ (γ.set i (.fz d)) H S3 ∧ ∀ {T Sx : List Addr} {γ' : Γ} {H' : Hp}, Go H S3 H' (T ++ Sx) → Env K mg pv (adT A T) σ γ' H' Sx → chkW γ (γ'.set i .dead) = true →
      ∃ S'', Go H S H' (T ++ S'') ∧ Env K mg pv (adT A T) σ (γ'.set i m) H' S'' := by
  obtain ⟨v, S2, S', hσ, rm, nd, E', mem, apart⟩ := E.out e (fun z => hd (by rw [z]; rfl))
  have rd : RD K H (us (adT A []) S') d v := RM.frz m v S2 d rm ef fun b hb hc hu => by
    rcases hu with (hA | hA) | hS
    · rcases hc with hc | hc
      · exact hc (.inl hA)
      · exact (E.am b hA).1 ((mem b).mpr (.inl hc))
    · cases hA
    · rcases hc with hc | hc
      · exact hc (.inr ((mem b).mpr (.inr hS)))
      · exact apart b hc hS
  have E2 : Env K mg pv (adT A []) σ (γ.set i .dead) H S' := E'.less fun a ha => ha.elim .inl fun z => nomatch z
  obtain ⟨S3, E3, h3⟩ := E2.back (i := i) (m := .fz d) (v := v) hσ (by rw [RM]; exact ⟨rd, rfl⟩) List.nodup_nil (fun _ _ z => nomatch z)
  rw [List.set_set] at E3
  have h3' : ∀ b ∈ S3, b ∈ S' := fun b hb => by simpa using h3 b hb
  refine ⟨S3, E3, fun {T Sx γ' H'} go Ex chk => ?_⟩
  have live2 : ∀ b ∈ S2, H b ≠ none := fun b hb => by
    obtain ⟨o, q, _⟩ := RM.mut m v S2 rm b hb
    rw [q]
    exact (fun z => nomatch z)
  have ap2 : ∀ b ∈ S2, b ∉ T ++ Sx := fun b hb hc => (go.new b hc).elim (fun z => apart b hb (h3' b z)) (live2 b hb)
  have subS : ∀ b ∈ S3, b ∈ S := fun b hb => (mem b).mpr (.inr (h3' b hb))
  obtain ⟨Sy, Ey, hy⟩ := Ex.kill1 i
  have keep : Keep H H' (us A S) (us (adT (adT A T) S2) Sy) := ⟨fun b o q hn => go.obj b o q fun hb => by
      obtain ⟨o', q', mo⟩ := E3.mut b hb
      rw [q] at q'
      cases q'
      exact hn mo (.inr (subS b hb)), fun b hb hn hu => by
    rcases hu with ((z | z) | z) | z
    · exact hn (.inl z)
    · exact (go.new b (List.mem_append_left _ z)).elim (fun y => hn (.inr (subS b y))) hb
    · exact hn (.inr ((mem b).mpr (.inl z)))
    · exact (go.new b (List.mem_append_right _ (hy b z))).elim (fun y => hn (.inr (subS b y))) hb⟩
  have Ez : Env K mg pv (adT (adT A T) S2) σ (γ'.set i .dead) H' Sy := ⟨rs_wide keep E.rep Ey.rep chk, Ey.nd, fun a ha => by
    rcases ha with ha | ha
    · exact Ey.am a ha
    · exact ⟨fun z => ap2 a ha (List.mem_append_right _ (hy a z)), go.keep a (live2 a ha)⟩, Ey.pin⟩
  have rm' : RM K mg H' (us (adT (adT A T) S2) Sy) m v S2 := RM.keep m v S2 ⟨keep, fun b hb o q => go.obj b o q fun z => apart b hb (h3' b z)⟩ rm
  obtain ⟨S'', E'', sub⟩ := Ez.back (i := i) hσ rm' nd (fun a ha z => by
    rcases ha with ha | ha
    · exact (E.am a ha).1 ((mem a).mpr (.inl z))
    · exact ap2 a z (List.mem_append_left _ ha))
  rw [List.set_set] at E''
  refine ⟨S'', ⟨fun b o q hn => go.obj b o q fun z => hn (subS b z), fun b hb => ?_, go.keep⟩, E''⟩
  rcases List.mem_append.mp hb with hb | hb
  · exact (go.new b (List.mem_append_left _ hb)).imp (subS b) id
  · rcases List.mem_append.mp (sub b hb) with z | z
    · exact .inl ((mem b).mpr (.inl z))
    · exact (go.new b (List.mem_append_right _ (hy b z))).imp (subS b) id
end
end Tw

namespace Tw
open PySem PySem.Spec L2

abbrev MQ := Γ → Out (List Ar × List M)
end Tw





namespace Tw
open PySem PySem.Spec PyProof.Rows L2
def ZipS (h : Heap) (z TI TO : Addr) : Prop := IsZip h z TI TO .none ∨ ∃ T f, IsZipHeld h z TI TO T f
section
variable {prog : Program} {w : World} {A : Around} {E : Value → Shared → Prop} {s : Shared}
theorem ZipS.keep {h h' : Heap} {z TI TO : Addr} (x : ZipS h z TI TO) (k : ∀ o, h.get? z = some o → h'.get? z = some o) : ZipS h' z TI TO := by
  rcases x with x | ⟨T, f, x⟩
  · exact .inl (k _ x)
  · exact .inr ⟨T, f, k _ x⟩
theorem ZipS.obj {h : Heap} {z TI TO : Addr} (x : ZipS h z TI TO) : ∃ o, h.get? z = some o ∧ o.cls = .type "zip" ∧ ∃ fs, o.data = .fields fs := by
  rcases x with x | ⟨T, f, x⟩
  · exact ⟨_, x, rfl, _, rfl⟩
  · exact ⟨_, x, rfl, _, rfl⟩
end
end Tw






namespace Tw
open PySem PySem.Spec PyProof.Rows L2
section
variable (K : Fr) (mg : Mg)
def WantM (A : Ad) (H : Hp) (S : List Addr) (Q : VK) : Out M → Prop
  | .ok r _ => ∀ v H' T, Go H S H' T → RM K mg H' (us (adT A T) []) r v T → T.Nodup → Q v H'
  | _ => False
def spMM (n : Nat) (f : List M → Out M) : Sp := fun vs H Q E => ∃ A ms S, ms.length = n ∧ Args K mg A H ms vs S ∧ WantM K mg A H S Q (f ms)
end
structure CalG (P : Program) (w : World) (K : Fr) (mg : Str → Option Value) (base : Heap) (x : Str) (k : Nat) (ps : List Str) (g : List M → Out M) : Prop where
  ex : ∃ f fd, FnOk P w K mg base (L2.CX P w) k f fd ps (spMM K ⟨mg, w⟩ ps.length g) ∧ mg x = some (.ref f) ∧ PySem.W.keepIn K (.ref f) = true ∧ Binds K fd ps []
section
variable {P : Program} {w : World} {K : Fr} {mg : Str → Option Value} {base : Heap} {x : Str} {k : Nat} {ps : List Str} {g : List M → Out M}
theorem CalG.up (C : CalG P w K mg base x k ps g) {j : Nat} (h : k ≤ j) : CalG P w K mg base x j ps g := by
  obtain ⟨f, fd, F, r⟩ := C.ex
  exact ⟨f, fd, F.mono h, r⟩
end
end Tw



namespace Tw
open PySem PySem.Spec PyProof.Rows L2
section
variable {K : Fr} {mg : Mg} {H H' : Hp} {U U' : Addr → Prop}
structure KeepX (H H' : Hp) (U U' : Addr → Prop) : Prop where
  obj : ∀ b o, H b = some o → (isMut b o = true → ¬ U b) → (∀ od kv, o ≠ .frz od (.dK kv)) → H' b = some o
  un : ∀ b, H b ≠ none → ¬ U b → ¬ U' b
theorem KeepX.sqT (k : KeepX H H' U U') {a : Addr} {xs : List V} (h : SqT K H a xs) : SqT K H' a xs := by
  rcases h with (h | ⟨o, h⟩) | h
  · exact .inl (.inl (k.obj _ _ h (by intro z; cases z) (fun _ _ z => nomatch z)))
  · exact .inl (.inr ⟨o, k.obj _ _ h (by intro z; cases z) (fun _ _ z => nomatch z)⟩)
  · exact .inr h
theorem KeepX.rdL (k : KeepX H H' U U') {a : Addr} {xs : List V} (h : H a = some (.lst xs)) (u : ¬ U a) : H' a = some (.lst xs) ∧ ¬ U' a :=
  ⟨k.obj _ _ h (fun _ => u) (fun _ _ z => nomatch z), k.un a (by rw [h]; exact (fun z => nomatch z)) u⟩
theorem KeepX.scr (k : KeepX H H' U U') {a : Addr} {xs : List V} (h : ScrAt K H a xs) : ScrAt K H' a xs := by
  rcases h with ⟨o, h⟩ | h
  · exact .inl ⟨o, k.obj _ _ h (by intro z; cases z) (fun _ _ z => nomatch z)⟩
  · exact .inr h
structure KeepMX (H H' : Hp) (U U' : Addr → Prop) (S : List Addr) : Prop extends KeepX H H' U U' where
  own : ∀ b ∈ S, ∀ o, H b = some o → H' b = some o
theorem KeepMX.sub {S S' : List Addr} (k : KeepMX H H' U U' S) (h : ∀ b ∈ S', b ∈ S) : KeepMX H H' U U' S' := ⟨k.toKeepX, fun b hb => k.own b (h b hb)⟩
end
end Tw







namespace Tw
open PySem PySem.Spec L2
theorem frzs_comp {α : Type} (f : α → D) (xs : List α) : M.frzs (xs.map (M.fz ∘ f)) = some (xs.map f) := by
  have := frzs_map (xs.map f)
  rwa [List.map_map] at this
end Tw

namespace Tw
open PySem PySem.Spec L2
inductive Alk : Nat → D → Prop where
  | non (n : Nat) : Alk n .none
  | bl (n : Nat) (b : Bool) : Alk n (.bool b)
  | int (n : Nat) (i : Int) : Alk n (.int i)
  | str (n : Nat) (x : Str) (h : PyData.strOk x = true) : Alk n (.str x)
  | lst (n : Nat) (ds : List D) (h : ∀ d ∈ ds, Alk n d) (hl : ds.length ≤ 1048576) : Alk (n + 1) (.list ds)
  | tup (n : Nat) (ds : List D) (h : ∀ d ∈ ds, Alk n d) (hl : ds.length ≤ 1048576) : Alk (n + 1) (.tuple ds)
theorem Alk.up : ∀ {n : Nat} {d : D}, Alk n d → ∀ m, n ≤ m → Alk m d := by
  intro n d h
  induction h with
  | non n => exact fun m _ => .non m
  | bl n b => exact fun m _ => .bl m b
  | int n i => exact fun m _ => .int m i
  | str n x h => exact fun m _ => .str m x h
  | lst n ds h hl ih =>
    intro m hm
    obtain ⟨k, rfl⟩ : ∃ k, m = k + 1 := ⟨m - 1, by omega⟩
    exact .lst k ds (fun d hd => ih d hd k (by omega)) hl
  | tup n ds h hl ih =>
    intro m hm
    obtain ⟨k, rfl⟩ : ∃ k, m = k + 1 := ⟨m - 1, by omega⟩
    exact .tup k ds (fun d hd => ih d hd k (by omega)) hl
theorem layAllN : ∀ (n : Nat) (ds : List D), (∀ d ∈ ds, PyData.canLay0 d = true ∧ PyData.depth d ≤ n) → PyData.canLayAll0 ds = true ∧ PyData.depthAll ds ≤ n
  | n, [], _ => by simp [PyData.canLayAll0, PyData.depthAll]
  | n, d :: ds, h => by
    obtain ⟨h1, h2⟩ := h d (by simp)
    obtain ⟨h3, h4⟩ := layAllN n ds fun e he => h e (by simp [he])
    simp [PyData.canLayAll0, PyData.depthAll, h1, h3]
    omega
theorem Alk.lay {n : Nat} {d : D} (h : Alk n d) : PyData.canLay0 d = true ∧ PyData.depth d ≤ n := by
  induction h with
  | non n => simp [PyData.canLay0, PyData.depth]
  | bl n b => simp [PyData.canLay0, PyData.depth]
  | int n i => simp [PyData.canLay0, PyData.depth]
  | str n x h => simp [PyData.canLay0, PyData.depth, h]
  | lst n ds h hl ih =>
    obtain ⟨h1, h2⟩ := layAllN n ds ih
    simp [PyData.canLay0, PyData.depth, h1]
    omega
  | tup n ds h hl ih =>
    obtain ⟨h1, h2⟩ := layAllN n ds ih
    simp [PyData.canLay0, PyData.depth, h1]
    omega
def gd (xs : List Int) (i : Nat) : Int := xs.getD i 0
inductive RowT where
  | put (d : Nat) (n : Int) | sum (d a b : Nat) | mul (d a b : Nat) | less (d a b : Nat) | take (d a n : Nat) | lay (b a n : Nat) | go (a p : Nat) | shut | opn | home
def RowT.Ok (many : Nat) : RowT → Prop
  | .put d n => d < 8 ∧ 0 ≤ n ∧ n < 4294967296
  | .sum d a b => d < 8 ∧ a < 8 ∧ b < 8
  | .mul d a b => d < 8 ∧ a < 8 ∧ b < 8
  | .less d a b => d < 8 ∧ a < 8 ∧ b < 8
  | .take d a n => d < 8 ∧ a < 8 ∧ n < 16
  | .lay b a n => b < 8 ∧ a < 8 ∧ n < 16
  | .go a p => a < 8 ∧ p ≤ many
  | _ => True
structure Mill (rows : List RowT) (bells : List Nat) : Prop where
  one : 1 ≤ rows.length
  most : rows.length ≤ 40
  row : ∀ r ∈ rows, r.Ok rows.length
  few : bells.length ≤ 4
  bell : ∀ b ∈ bells, b ≤ rows.length
structure Stt where
  place : Nat
  spots : List Int
  cells : List Int
  shut : Bool
  kept : Option Nat
def Worth (w : Int) : Prop := 0 ≤ w ∧ w < 4294967296
structure Stt.Ok (many : Nat) (s : Stt) : Prop where
  place : s.place ≤ many
  spots : s.spots.length = 8
  cells : s.cells.length = 16
  ws : ∀ w ∈ s.spots, Worth w
  wc : ∀ w ∈ s.cells, Worth w
  kept : ∀ k, s.kept = some k → k ≤ many
end Tw

namespace Tw
open PySem PySem.Spec L2
inductive Wrote where
  | non | spot (d : Nat) (w : Int) | cell (a : Nat) (w : Int)
def cellAt (sp : List Int) (a n : Nat) : Nat := ((gd sp a + n) % 16).toNat
def worthBy (r : RowT) (sp ce : List Int) : Int := match r with
  | .put _ n => n
  | .sum _ a b => (gd sp a + gd sp b) % 4294967296
  | .mul _ a b => (gd sp a * gd sp b) % 4294967296
  | .less _ a b => if gd sp a < gd sp b then 1 else 0
  | .take _ a n => gd ce (cellAt sp a n)
  | _ => 0
def wroteBy (r : RowT) (sp ce : List Int) : Wrote := match r with
  | .lay b a n => .cell (cellAt sp a n) (gd sp b)
  | .put d _ => .spot d (worthBy r sp ce)
  | .sum d _ _ => .spot d (worthBy r sp ce)
  | .mul d _ _ => .spot d (worthBy r sp ce)
  | .less d _ _ => .spot d (worthBy r sp ce)
  | .take d _ _ => .spot d (worthBy r sp ce)
  | _ => .non
def leads (r : RowT) (place : Nat) (sp : List Int) (kept : Option Nat) : Nat := match r with
  | .go a p => if gd sp a = 0 then place + 1 else p
  | .home => kept.getD (place + 1)
  | _ => place + 1
def shutBy (r : RowT) (shut : Bool) : Bool := match r with
  | .shut => true
  | .opn => false
  | .home => false
  | _ => shut
def keptBy (r : RowT) (kept : Option Nat) : Option Nat := match r with
  | .home => none
  | _ => kept
def spotsBy (w : Wrote) (sp : List Int) : List Int := match w with
  | .spot d x => sp.set d x
  | _ => sp
def cellsBy (w : Wrote) (ce : List Int) : List Int := match w with
  | .cell a x => ce.set a x
  | _ => ce
def stepS (r : RowT) (s : Stt) : Stt := ⟨leads r s.place s.spots s.kept, spotsBy (wroteBy r s.spots s.cells) s.spots, cellsBy (wroteBy r s.spots s.cells) s.cells, shutBy r s.shut, keptBy r s.kept⟩
theorem worth_getD {sp : List Int} (h : ∀ w ∈ sp, Worth w) (a : Nat) : Worth (gd sp a) := by
  unfold gd
  rw [List.getD_eq_getElem?_getD]
  cases e : sp[a]? with
  | none => exact ⟨by decide, by decide⟩
  | some w => exact h w (List.mem_of_getElem? e)
theorem worth_mod (x : Int) : Worth (x % 4294967296) := ⟨Int.emod_nonneg _ (by decide), Int.emod_lt_of_pos _ (by decide)⟩
theorem worthBy_ok {r : RowT} {m : Nat} {sp ce : List Int} (hr : r.Ok m) (h2 : ∀ w ∈ ce, Worth w) : Worth (worthBy r sp ce) := by
  cases r with
  | put d n => exact hr.2
  | sum d a b => exact worth_mod _
  | mul d a b => exact worth_mod _
  | less d a b =>
    show Worth (if gd sp a < gd sp b then 1 else 0)
    split
    · exact ⟨by decide, by decide⟩
    · exact ⟨by decide, by decide⟩
  | take d a n => exact worth_getD h2 _
  | _ => exact (⟨by decide, by decide⟩ : Worth 0)
theorem mem_set_worth {sp : List Int} (h : ∀ w ∈ sp, Worth w) {d : Nat} {x : Int} (hx : Worth x) : ∀ w ∈ sp.set d x, Worth w := fun w hw => by
  rcases List.mem_or_eq_of_mem_set hw with z | z
  · exact h w z
  · rw [z]; exact hx
theorem stepS_ok {r : RowT} {m : Nat} {s : Stt} (hr : r.Ok m) (h : s.Ok m) (hp : s.place < m) : (stepS r s).Ok m where
  place := by
    show leads r s.place s.spots s.kept ≤ m
    unfold leads
    split
    · rename_i a p
      split
      · omega
      · exact hr.2
    · cases e : s.kept with
      | none => show s.place + 1 ≤ m; omega
      | some k => exact h.kept k e
    · omega
  spots := by
    show (spotsBy (wroteBy r s.spots s.cells) s.spots).length = 8
    unfold spotsBy
    split
    · rw [List.length_set]; exact h.spots
    · exact h.spots
  cells := by
    show (cellsBy (wroteBy r s.spots s.cells) s.cells).length = 16
    unfold cellsBy
    split
    · rw [List.length_set]; exact h.cells
    · exact h.cells
  ws := by
    have hw := worthBy_ok (sp := s.spots) hr h.wc
    show ∀ w ∈ spotsBy (wroteBy r s.spots s.cells) s.spots, Worth w
    cases r <;> first | exact h.ws | exact mem_set_worth h.ws hw
  wc := by
    show ∀ w ∈ cellsBy (wroteBy r s.spots s.cells) s.cells, Worth w
    cases r <;> first | exact h.wc | exact mem_set_worth h.wc (worth_getD h.ws _)
  kept := by
    show ∀ k, keptBy r s.kept = some k → k ≤ m
    cases r <;> first | exact h.kept | exact fun k e => nomatch e
end Tw

namespace Tw
open PySem PySem.Spec L2
abbrev EndT := Nat × Wrote
abbrev Bp := Nat × Nat
def bellS (p : Nat) (s : Stt) : Stt := ⟨p, s.spots, s.cells, true, some s.place⟩
def bellDue (bs : List Bp) (n k : Nat) (shut : Bool) : Bool := decide (k < bs.length) && (decide ((bs.getD k (0, 0)).1 ≤ n) && !shut)
def rowAt (rows : List RowT) (p : Nat) : RowT := rows.getD p .home
def runN (rows : List RowT) (mb : List Nat) (bs : List Bp) (most : Nat) : Nat → Stt → List EndT → Nat → Stt × List EndT
  | 0, s, es, _ => (s, es)
  | n + 1, s, es, k => if bellDue bs es.length k s.shut = true then runN rows mb bs most n (bellS (mb.getD (bs.getD k (0, 0)).2 0) s) es (k + 1)
    else if most ≤ es.length ∨ s.place = rows.length then (s, es)
    else runN rows mb bs most n (stepS (rowAt rows s.place) s) (es ++ [(s.place, wroteBy (rowAt rows s.place) s.spots s.cells)]) k
theorem bellS_ok {rows : List RowT} {bells : List Nat} (m : Mill rows bells) {s : Stt} (h : s.Ok rows.length) {b : Nat} (hb : b < bells.length) : (bellS (bells.getD b 0) s).Ok rows.length where
  place := by
    show bells.getD b 0 ≤ rows.length
    rw [List.getD_eq_getElem?_getD, List.getElem?_eq_getElem hb]
    exact m.bell _ (List.getElem_mem hb)
  spots := h.spots
  cells := h.cells
  ws := h.ws
  wc := h.wc
  kept := fun k e => by cases e; exact h.place
structure Bells (many : Nat) (bs : List Bp) : Prop where
  bell : ∀ p ∈ bs, p.2 < many
  few : bs.length ≤ 100
theorem Bells.at_ {many : Nat} {bs : List Bp} (h : Bells many bs) {k : Nat} (hk : k < bs.length) : (bs.getD k (0, 0)).2 < many := by
  rw [List.getD_eq_getElem?_getD, List.getElem?_eq_getElem hk]
  exact h.bell _ (List.getElem_mem hk)
structure RunAt (rows : List RowT) (mb : List Nat) (bs : List Bp) (most n : Nat) (r : Stt × List EndT) (s : Stt) (es : List EndT) (k : Nat) : Prop where
  ok : s.Ok rows.length
  le : es.length ≤ most
  kb : k ≤ bs.length
  fuel : (most - es.length) + (bs.length - k) < n
  eq : runN rows mb bs most n s es k = r
section
variable {rows : List RowT} {mb : List Nat} {bs : List Bp} {most n : Nat} {r : Stt × List EndT} {s : Stt} {es : List EndT} {k : Nat}
theorem RunAt.bell (m : Mill rows mb) (b : Bells mb.length bs) (h : RunAt rows mb bs most (n + 1) r s es k) (hd : bellDue bs es.length k s.shut = true) :
    k < bs.length ∧ (bs.getD k (0, 0)).1 ≤ es.length ∧ s.shut = false ∧ (bs.getD k (0, 0)).2 < mb.length ∧ RunAt rows mb bs most n r (bellS (mb.getD (bs.getD k (0, 0)).2 0) s) es (k + 1) := by
  have q := h.eq
  rw [runN, if_pos hd] at q
  simp only [bellDue, Bool.and_eq_true, decide_eq_true_eq, Bool.not_eq_true'] at hd
  have f := h.fuel
  have hb := b.at_ hd.1
  exact ⟨hd.1, hd.2.1, hd.2.2, hb, bellS_ok m h.ok hb, h.le, by omega, by omega, q⟩
theorem RunAt.stop (h : RunAt rows mb bs most (n + 1) r s es k) (hd : ¬ bellDue bs es.length k s.shut = true) (hs : most ≤ es.length ∨ s.place = rows.length) : r = (s, es) := by
  have q := h.eq
  rw [runN, if_neg hd, if_pos hs] at q
  exact q.symm
end
end Tw

namespace Tw
open PySem PySem.Spec L2
def dM (g : List Int) : List M := g.map (M.fz ∘ PyData.int)
theorem dM_frz (g : List Int) : M.frzs (dM g) = some (g.map .int) := by unfold dM; exact frzs_comp _ _
def dkM (g : List Int) (f c : Int) : M := .lst [.lst (dM g), .fz (.int f), .fz (.int c)]
theorem dkM_frz (g : List Int) (f c : Int) : (dkM g f c).frz = some (.list [.list (g.map .int), .int f, .int c]) := by simp [dkM, dM_frz]
def DkOk (n : Nat) (t : M) : Prop := ∃ g f c, t = dkM g f c ∧ 0 ≤ f ∧ f < 2 ^ 61 ∧ 0 ≤ c ∧ c + n ≤ 2 ^ 40 ∧ g.length ≤ 63
theorem DkOk.less {n m : Nat} {t : M} (h : DkOk n t) (hm : m ≤ n) : DkOk m t := by
  obtain ⟨g, f, c, e, h1, h2, h3, h4, h5⟩ := h
  exact ⟨g, f, c, e, h1, h2, h3, by omega, h5⟩
theorem DkOk.frz {n : Nat} {t : M} (h : DkOk n t) : ∃ d, t.frz = some d := by
  obtain ⟨g, f, c, rfl, _⟩ := h
  exact ⟨_, dkM_frz g f c⟩
def lBounds : List Int := [4, 8, 9, 5, 4, 4, 4, 4]
def Fit (p : Int × Int) : Prop := 1 ≤ p.1 ∧ p.1 ≤ p.2
instance (p : Int × Int) : Decidable (Fit p) := by unfold Fit; infer_instance
def Fits (xs : List Int) : Prop := xs.length = 8 ∧ ∀ p ∈ xs.zip lBounds, Fit p
instance (xs : List Int) : Decidable (Fits xs) := by unfold Fits; infer_instance
end Tw

namespace Tw
open PySem PySem.Spec L2
def bRing (mb : List Nat) (bs : List Bp) (s : Stt) (n k : Nat) : Stt × Nat := if bellDue bs n k s.shut = true then (bellS (mb.getD (bs.getD k (0, 0)).2 0) s, k + 1) else (s, k)
def endAt (rows : List RowT) (s : Stt) : EndT := (s.place, wroteBy (rowAt rows s.place) s.spots s.cells)
def go (rows : List RowT) (mb : List Nat) (bs : List Bp) : Nat → Stt → Nat → Nat → Stt × List EndT
  | 0, s, n, k => ((bRing mb bs s n k).1, [])
  | d + 1, s, n, k => if (bRing mb bs s n k).1.place = rows.length then ((bRing mb bs s n k).1, [])
    else ((go rows mb bs d (stepS (rowAt rows (bRing mb bs s n k).1.place) (bRing mb bs s n k).1) (n + 1) (bRing mb bs s n k).2).1,
      endAt rows (bRing mb bs s n k).1 :: (go rows mb bs d (stepS (rowAt rows (bRing mb bs s n k).1.place) (bRing mb bs s n k).1) (n + 1) (bRing mb bs s n k).2).2)
def Rising (bs : List Bp) : Prop := bs.Pairwise fun p q => p.1 ≤ q.1
theorem Rising.drop {bs : List Bp} (h : Rising bs) (k : Nat) : Rising (bs.drop k) := List.Pairwise.sublist (List.drop_sublist k bs) h
theorem Rising.snoc {bs : List Bp} {p : Bp} (h : Rising bs) (hp : ∀ q ∈ bs, q.1 ≤ p.1) : Rising (bs ++ [p]) := by
  unfold Rising
  rw [List.pairwise_append]
  exact ⟨h, by simp, fun a ha b hb => by rw [List.mem_singleton.mp hb]; exact hp a ha⟩
end Tw



namespace Tw
open PySem PySem.Spec L2
abbrev bagL (a b c d e : M) : List (Key × M) := [(.inr "great", a), (.inr "at", b), (.inr "left", c), (.inr "turn", d), (.inr "fold", e)]
def bagM (g : List Int) (at_ : Nat) (left turn fold : Int) : M := .dct (bagL (.lst (dM g)) (.fz (.int at_)) (.fz (.int left)) (.fz (.int turn)) (.fz (.int fold)))
def BagOk (n : Nat) (t : M) : Prop := ∃ g a l u f, t = bagM g a l u f ∧ a ≤ g.length ∧ g.length ≤ 126 ∧ 0 ≤ u ∧ u + n ≤ 2 ^ 40 ∧ 0 ≤ f ∧ f < 2 ^ 31
theorem BagOk.less {n m : Nat} {t : M} (h : BagOk n t) (hm : m ≤ n) : BagOk m t := by
  obtain ⟨g, a, l, u, f, e, h1, h2, h3, h4, h5⟩ := h
  exact ⟨g, a, l, u, f, e, h1, h2, h3, by omega, h5⟩
end Tw

namespace Tw
open PySem PySem.Spec L2
structure Stp where
  place : Nat
  reads : List Nat
  wrote : Option Nat
structure Stp.Ok (s : Stp) : Prop where
  reads : ∀ k ∈ s.reads, k < 24
  few : s.reads.length ≤ 3
  wrote : ∀ k, s.wrote = some k → k < 24
  place : s.place < 41
def handsL (t : Nat) : Nat → List Stp → List Nat
  | _, [] => []
  | j, s :: r => (if t ∈ s.reads then [j] else []) ++ (if s.wrote = some t then [] else handsL t (j + 1) r)
end Tw

namespace Tw
open PySem PySem.Spec L2
structure En where
  place : Nat
  wrote : Option (Nat × Option Nat)
def En.Ok (e : En) : Prop := ∀ k w, e.wrote = some (k, w) → k < 24
end Tw

namespace Tw
open PySem PySem.Spec L2
structure Rc where
  bells : List Int
  place : Int
  cell : Bool
  at_ : Nat
  worth : Nat
  way : Nat
abbrev Wr := Option (Bool × Nat × Option Nat)
inductive Ev where
  | bell (b k : Int)
  | fin (b p : Int) (w : Wr)
  | late (b : Int) (n w : Nat)
  | down (b n : Int) (a w : Nat)
def Rc.wr (r : Rc) (told : Bool) : Wr := if r.way = 0 then none else some (r.cell, r.at_, if r.way = 3 ∨ (r.way = 2 ∧ told = false) then none else some r.worth)
def Rc.Ok (r : Rc) : Prop := r.bells.length ≤ 2 ∧ r.way ≤ 3 ∧ r.at_ < 16
def isFin : Ev → Bool
  | .fin _ _ _ => true
  | _ => false
def endsN (ds : List Ev) : Nat := (ds.filter isFin).length
theorem endsN_app (ds es : List Ev) : endsN (ds ++ es) = endsN ds + endsN es := by simp [endsN]
inductive Dia (rs : List Rc) : List Ev → Nat → List (Nat × Int) → List Nat → Prop where
  | nil : Dia rs [] 0 [] []
  | bell {ds n bs ls} (b k : Int) : Dia rs ds n bs ls → Dia rs (ds ++ [.bell b k]) n (bs ++ [(n, k)]) ls
  | fin {ds n bs ls} (b : Int) (h : n < rs.length) : Dia rs ds n bs ls → Dia rs (ds ++ [.fin b rs[n].place (rs[n].wr false)]) (n + 1) bs ls
  | late {ds n bs ls} (b : Int) (m : Nat) (h : m < n) (hm : m < rs.length) (hw : rs[m].way = 2) : Dia rs ds n bs ls → Dia rs (ds ++ [.late b m rs[m].worth]) n bs (ls ++ [m])
  | down {ds n bs ls} (b i : Int) (a w : Nat) : Dia rs ds n bs ls → Dia rs (ds ++ [.down b i a w]) n bs ls
def WInv (rs : List Rc) (ds : List Ev) (ws : List Nat) (e : Nat) (bs : List (Nat × Int)) : Prop := ∃ ls, Dia rs ds e bs ls ∧ (∀ m ∈ ws, m < e ∧ ∃ h : m < rs.length, rs[m].way = 2) ∧ (∀ m (h : m < rs.length), m < e → rs[m].way = 2 → m ∈ ls ∨ m ∈ ws) ∧ ws.length ≤ e
theorem WInv.nil (rs : List Rc) : WInv rs [] [] 0 [] := ⟨[], .nil, (fun _ h => nomatch h), (fun m _ h => absurd h (Nat.not_lt_zero m)), Nat.le_refl _⟩
theorem WInv.down {rs : List Rc} {ds : List Ev} {ws : List Nat} {e : Nat} {bs : List (Nat × Int)} (h : WInv rs ds ws e bs) (b i : Int) (a w : Nat) : WInv rs (ds ++ [.down b i a w]) ws e bs :=
  let ⟨ls, h1, h2, h3, h4⟩ := h
  ⟨ls, h1.down b i a w, h2, h3, h4⟩
theorem WInv.bell {rs : List Rc} {ds : List Ev} {ws : List Nat} {e : Nat} {bs : List (Nat × Int)} (h : WInv rs ds ws e bs) (b k : Int) : WInv rs (ds ++ [.bell b k]) ws e (bs ++ [(e, k)]) :=
  let ⟨ls, h1, h2, h3, h4⟩ := h
  ⟨ls, h1.bell b k, h2, h3, h4⟩
theorem WInv.fin {rs : List Rc} {ds : List Ev} {ws : List Nat} {e : Nat} {bs : List (Nat × Int)} (h : WInv rs ds ws e bs) (b : Int) (he : e < rs.length) : WInv rs (ds ++ [.fin b rs[e].place (rs[e].wr false)]) (if rs[e].way = 2 then ws ++ [e] else ws) (e + 1) bs := by
  obtain ⟨ls, h1, h2, h3, h4⟩ := h
  refine ⟨ls, h1.fin b he, fun m hm => ?_, fun m hr hm hw => ?_, ?_⟩
  · split at hm
    · rename_i hw
      rcases List.mem_append.mp hm with hm | hm
      · exact ⟨Nat.lt_succ_of_lt (h2 m hm).1, (h2 m hm).2⟩
      · rw [List.mem_singleton.mp hm]
        exact ⟨Nat.lt_succ_self e, he, hw⟩
    · exact ⟨Nat.lt_succ_of_lt (h2 m hm).1, (h2 m hm).2⟩
  · by_cases e1 : m = e
    · subst e1
      rw [if_pos hw]
      exact .inr (List.mem_append_right _ List.mem_cons_self)
    · refine (h3 m hr (by omega) hw).imp id fun z => ?_
      split
      · exact List.mem_append_left _ z
      · exact z
  · split
    · rw [List.length_append, List.length_singleton]; omega
    · omega
theorem WInv.lt {rs : List Rc} {ds : List Ev} {ws : List Nat} {e : Nat} {bs : List (Nat × Int)} (h : WInv rs ds ws e bs) {m : Nat} (hm : m ∈ ws) : m < rs.length :=
  let ⟨_, _, h2, _, _⟩ := h
  (h2 m hm).2.1
theorem WInv.late {rs : List Rc} {ds : List Ev} {ws : List Nat} {e m : Nat} {bs : List (Nat × Int)} (h : WInv rs ds (m :: ws) e bs) (b : Int) : WInv rs (ds ++ [.late b m (rs[m]'(h.lt List.mem_cons_self)).worth]) ws e bs := by
  have hr := h.lt List.mem_cons_self
  obtain ⟨ls, h1, h2, h3, h4⟩ := h
  obtain ⟨g1, _, g2⟩ := h2 m List.mem_cons_self
  refine ⟨ls ++ [m], h1.late b m g1 hr g2, fun k hk => h2 k (List.mem_cons_of_mem _ hk), fun k hk hm hw => ?_, by rw [List.length_cons] at h4; omega⟩
  rcases h3 k hk hm hw with z | z
  · exact .inl (List.mem_append_left _ z)
  · rcases List.mem_cons.mp z with z | z
    · rw [z]; exact .inl (List.mem_append_right _ List.mem_cons_self)
    · exact .inr z
end Tw

namespace Tw
open PySem PySem.Spec L2
def EvOk (rs : List Rc) (n : Nat) : Ev → Prop
  | .bell _ _ => True
  | .fin _ p w => ∃ h : n < rs.length, p = rs[n].place ∧ w = rs[n].wr false
  | .late _ m w => m < n ∧ ∃ h : m < rs.length, rs[m].way = 2 ∧ w = rs[m].worth
  | .down _ _ _ _ => True
def DiaOk (rs : List Rc) (ds : List Ev) : Prop := ∀ (i : Nat) (e : Ev), ds[i]? = some e → EvOk rs (endsN (ds.take i)) e
theorem DiaOk.take {rs : List Rc} {ds : List Ev} (h : DiaOk rs ds) (k : Nat) : DiaOk rs (ds.take k) := fun i e he => by
  obtain ⟨hi, _⟩ := List.getElem?_eq_some_iff.mp he
  rw [List.length_take] at hi
  rw [List.getElem?_take_of_lt (by omega)] at he
  rw [List.take_take, Nat.min_eq_left (by omega)]
  exact h i e he
theorem DiaOk.snoc {rs : List Rc} {ds : List Ev} {e : Ev} (h : DiaOk rs ds) (he : EvOk rs (endsN ds) e) : DiaOk rs (ds ++ [e]) := fun i x hx => by
  obtain ⟨hi, _⟩ := List.getElem?_eq_some_iff.mp hx
  rw [List.length_append, List.length_singleton] at hi
  by_cases c : i < ds.length
  · rw [List.getElem?_append_left c] at hx
    rw [List.take_append_of_le_length (by omega)]
    exact h i x hx
  · obtain rfl : i = ds.length := by omega
    rw [List.getElem?_append_right (Nat.le_refl _), Nat.sub_self] at hx
    cases hx
    rw [List.take_left]
    exact he
def latesN (ds : List Ev) : List Nat := ds.filterMap fun e => match e with
  | .late _ m _ => some m
  | _ => none
theorem latesN_app (ds es : List Ev) : latesN (ds ++ es) = latesN ds ++ latesN es := by simp [latesN]
theorem Dia.ok {rs : List Rc} {ds : List Ev} {n : Nat} {bs : List (Nat × Int)} {ls : List Nat} (h : Dia rs ds n bs ls) : DiaOk rs ds ∧ endsN ds = n ∧ latesN ds = ls := by
  induction h with
  | nil => exact ⟨(fun i e he => by cases he), rfl, rfl⟩
  | bell b k h ih => exact ⟨ih.1.snoc True.intro, by rw [endsN_app, ih.2.1]; rfl, by rw [latesN_app, ih.2.2]; exact List.append_nil _⟩
  | fin b hn h ih => exact ⟨ih.1.snoc (by rw [ih.2.1]; exact ⟨hn, rfl, rfl⟩), by rw [endsN_app, ih.2.1]; rfl, by rw [latesN_app, ih.2.2]; exact List.append_nil _⟩
  | late b m hn hm hw h ih => exact ⟨ih.1.snoc (by rw [ih.2.1]; exact ⟨hn, hm, hw, rfl⟩), by rw [endsN_app, ih.2.1]; rfl, by rw [latesN_app, ih.2.2]; rfl⟩
  | down b i a w h ih => exact ⟨ih.1.snoc True.intro, by rw [endsN_app, ih.2.1]; rfl, by rw [latesN_app, ih.2.2]; exact List.append_nil _⟩
end Tw

namespace Tw
open PySem PySem.Spec L2
def handsO (w : List Stp) (i : Nat) : Option Nat → List Nat
  | some t => handsL t (i + 1) (w.drop (i + 1))
  | none => []
def wrOf (w : List Stp) (j : Nat) : Option Nat := (w[j]?).bind (·.wrote)
theorem handsL_lt : ∀ (t k : Nat) (r : List Stp), ∀ j ∈ handsL t k r, j < k + r.length
  | t, k, [], j, h => nomatch h
  | t, k, s :: r, j, h => by
    rw [handsL] at h
    rw [List.length_cons]
    rcases List.mem_append.mp h with h | h
    · split at h
      · rw [List.mem_singleton.mp h]; omega
      · exact nomatch h
    · split at h
      · exact nomatch h
      · have := handsL_lt t (k + 1) r j h
        omega
theorem handsL_ge : ∀ (t k : Nat) (r : List Stp), ∀ j ∈ handsL t k r, k ≤ j
  | t, k, [], j, h => nomatch h
  | t, k, s :: r, j, h => by
    rw [handsL] at h
    rcases List.mem_append.mp h with h | h
    · split at h
      · rw [List.mem_singleton.mp h]; omega
      · exact nomatch h
    · split at h
      · exact nomatch h
      · have := handsL_ge t (k + 1) r j h
        omega
theorem handsO_lt {w : List Stp} {i : Nat} (hi : i < w.length) (x : Option Nat) : ∀ j ∈ handsO w i x, j < w.length := by
  intro j h
  cases x with
  | none => exact nomatch h
  | some t =>
    have := handsL_lt t (i + 1) (w.drop (i + 1)) j h
    rw [List.length_drop] at this
    omega
theorem handsO_gt {w : List Stp} {i : Nat} (x : Option Nat) : ∀ j ∈ handsO w i x, i < j := by
  intro j h
  cases x with
  | none => exact nomatch h
  | some t => exact handsL_ge t (i + 1) (w.drop (i + 1)) j h
def IsSeen (w : List Stp) (fs : List Nat) (P : Nat → Bool) : Prop := ∀ i, i < w.length → P i = (decide (i ∈ fs) || (handsO w i (wrOf w i)).any P)
theorem any_congr {α : Type} {P Q : α → Bool} : ∀ {l : List α}, (∀ x ∈ l, P x = Q x) → l.any P = l.any Q
  | [], _ => rfl
  | x :: l, h => by
    rw [List.any_cons, List.any_cons, h x List.mem_cons_self, any_congr fun y hy => h y (List.mem_cons_of_mem _ hy)]
def LedAt (w : List Stp) (fs : List Nat) (P : Nat → Bool) (m : Nat) (ks : List Nat) : Prop := ks.Nodup ∧ ∀ x, x ∈ ks ↔ x ∈ fs ∨ (m ≤ x ∧ x < w.length ∧ P x = true)
theorem LedAt.skip {w : List Stp} {fs ks : List Nat} {P : Nat → Bool} {i : Nat} (hP : IsSeen w fs P) (hi : i < w.length) (h : LedAt w fs P (i + 1) ks) (hm : i ∈ ks) : LedAt w fs P i ks := ⟨h.1, fun x => by
  rw [h.2 x]
  refine ⟨fun z => z.imp id fun y => ⟨by omega, y.2⟩, fun z => ?_⟩
  rcases z with z | ⟨z, y⟩
  · exact .inl z
  · by_cases c : x = i
    · subst c
      exact ((h.2 x).mp hm).imp id fun q => by omega
    · exact .inr ⟨by omega, y⟩⟩
theorem LedAt.any {w : List Stp} {fs ks : List Nat} {P : Nat → Bool} {i : Nat} (hP : IsSeen w fs P) (hi : i < w.length) (h : LedAt w fs P (i + 1) ks) : (handsO w i (wrOf w i)).any (fun j => decide (j ∈ ks)) = (handsO w i (wrOf w i)).any P := any_congr fun j hj => by
  have h1 := handsO_gt (wrOf w i) j hj
  have h2 := handsO_lt hi (wrOf w i) j hj
  have e : j ∈ ks ↔ P j = true := by
    rw [h.2 j]
    refine ⟨fun z => z.elim (fun y => ?_) fun y => y.2.2, fun z => .inr ⟨by omega, h2, z⟩⟩
    rw [hP j h2, decide_eq_true y]
    rfl
  by_cases c : j ∈ ks
  · rw [decide_eq_true c, e.mp c]
  · rw [decide_eq_false c]
    cases q : P j with
    | true => exact absurd (e.mpr q) c
    | false => rfl
end Tw


namespace Tw
open PySem PySem.Spec L2
def rk (k : Nat) : Nat := if k < 8 then 16 + k else k - 8
end Tw

namespace Tw
open PySem PySem.Spec L2
def un (a b : Option Nat) : Bool := a.isSome && b.isSome && decide (a ≠ b)
end Tw

namespace Tw
open PySem PySem.Spec L2

inductive Wro where
  | non
  | spot (d : Nat) (x : Option Int)
  | cell (a : Nat) (x : Int)
inductive Evt where
  | fin (b p : Nat) (w : Wro)
  | late (b n : Nat) (x : Int)
  | down (b n a : Nat) (x : Int)
  | bell (b k : Nat)
structure Lay where
  w : Nat
  dp : Nat
  sl : Nat
  sp : Nat
  rm : Nat
  qu : Nat
  lk : Nat
  eb : Nat
structure Lay.Ok (l : Lay) : Prop where
  w1 : 1 ≤ l.w
  w2 : l.w ≤ 4
  dp1 : 1 ≤ l.dp
  dp2 : l.dp ≤ 8
  sl1 : 1 ≤ l.sl
  sl2 : l.sl ≤ 9
  sp1 : 1 ≤ l.sp
  sp2 : l.sp ≤ 5
  rm1 : 1 ≤ l.rm
  rm2 : l.rm ≤ 4
  qu1 : 1 ≤ l.qu
  qu2 : l.qu ≤ 4
  lk1 : 1 ≤ l.lk
  lk2 : l.lk ≤ 4
  eb1 : 1 ≤ l.eb
  eb2 : l.eb ≤ 4
structure LC where
  rows : List RowT
  bells : List Nat
  lay : Lay
  slips : List (Int × Int)
structure Ow where
  n : Nat
  due : Nat
  d : Nat
  x : Int
structure La where
  n : Nat
  a : Nat
  x : Int
structure LG where
  s : Stt
  inner : List Nat
  nx : Option Nat
  owed : List Ow
  laid : List La
  dia : List Evt
  panes : List (List Nat)
  ends : Nat
  beat : Nat
  left : List (Int × Nat)

def rdS : RowT → List Nat
  | .sum _ a b => if a = b then [a] else [a, b]
  | .mul _ a b => if a = b then [a] else [a, b]
  | .less _ a b => if a = b then [a] else [a, b]
  | .lay b a _ => if b = a then [b] else [b, a]
  | .take _ a _ => [a]
  | .go a _ => [a]
  | _ => []
def wrS : RowT → Option Nat
  | .put d _ => some d
  | .sum d _ _ => some d
  | .mul d _ _ => some d
  | .less d _ _ => some d
  | .take d _ _ => some d
  | _ => none
def slowR : RowT → Bool
  | .mul _ _ _ => true
  | .take _ _ _ => true
  | _ => false
def Stt.put (s : Stt) (d : Nat) (x : Int) : Stt := { s with spots := s.spots.set d x }
def LG.down (C : LC) (g : LG) : LG := match g.laid with
  | [] => g
  | o :: r => if g.beat % C.lay.eb = 0 then { g with laid := r, s := { g.s with cells := g.s.cells.set o.a o.x }, dia := g.dia ++ [.down g.beat o.n o.a o.x] } else g
def LG.bellNow (r : Bool) (C : LC) (g : LG) : Option Nat := if r = true then (if g.beat % C.lay.lk ≠ 0 ∨ g.s.shut = true then none else ((g.left.filter fun p => decide (p.1 ≤ (g.beat : Int))).map (·.2)).min?)
  else if g.s.shut = true then none else match g.left with
    | [] => none
    | p :: _ => if (g.ends : Int) < p.1 then none else some p.2
def slipX (slips : List (Int × Int)) (n : Nat) (x : Int) : Int := slips.foldl (fun x p => if p.1 = (n : Int) then (x + p.2) % 4294967296 else x) x
def slipW (slips : List (Int × Int)) (n : Nat) : Wrote → Wrote
  | .non => .non
  | .spot d x => .spot d (slipX slips n x)
  | .cell a x => .cell a (slipX slips n x)
def seenC (la : List La) (ce : List Int) : List Int := la.foldl (fun c o => c.set o.a o.x) ce
def LG.keptW (C : LC) (slow : Bool) (g : LG) : Wrote → LG × Wro
  | .non => (g, .non)
  | .cell a x => ({ g with laid := g.laid ++ [⟨g.ends, a, x⟩] }, .cell a x)
  | .spot d x => if slow = true then ({ g with owed := g.owed ++ [⟨g.ends, g.beat + (C.lay.sl + g.ends % C.lay.sp), d, x⟩] }, .spot d none) else ({ g with s := g.s.put d x }, .spot d (some x))
def LG.seen (g : LG) : Stt := { g.s with cells := seenC g.laid g.s.cells }
def LG.behind (g : LG) (row : RowT) : Stt := { g.s with place := (stepS row g.seen).place, shut := (stepS row g.seen).shut, kept := (stepS row g.seen).kept }
def LG.told (C : LC) (g : LG) (row : RowT) : LG × Wro := LG.keptW C (slowR row) { g with s := g.behind row } (slipW C.slips g.ends (wroteBy row g.s.spots (seenC g.laid g.s.cells)))
def LG.zero (s : Stt) (left : List (Int × Nat)) : LG := ⟨s, [], some s.place, [], [], [], [], 0, 0, left⟩
structure LC.Ok (C : LC) : Prop where
  m : Mill C.rows C.bells
  l : C.lay.Ok
structure LG.Ok (C : LC) (g : LG) : Prop where
  s : g.s.Ok C.rows.length
  inn : ∀ p ∈ g.inner, p < C.rows.length
  innl : g.inner.length ≤ 8
  hd : (g.inner.map some ++ [g.nx]).head? = some (some g.s.place)
  owl : g.owed.length ≤ 4
  ow : ∀ o ∈ g.owed, o.d < 8 ∧ Worth o.x
  lal : g.laid.length ≤ 4
  la : ∀ o ∈ g.laid, o.a < 16 ∧ Worth o.x
  nx : ∀ p, g.nx = some p → p ≤ C.rows.length
  lf : ∀ p ∈ g.left, p.2 < C.bells.length
end Tw


namespace Tw
open PySem PySem.Spec L2

theorem LG.Ok.down {C : LC} {g : LG} (h : g.Ok C) : (g.down C).Ok C ∧ (g.down C).dia.length ≤ g.dia.length + 1 ∧ (g.down C).left = g.left ∧ (g.down C).panes = g.panes ∧ (g.down C).beat = g.beat ∧ (g.down C).inner = g.inner ∧ (g.down C).nx = g.nx ∧ (g.down C).s.place = g.s.place := by
  unfold LG.down
  cases hl : g.laid with
  | nil => exact ⟨h, Nat.le_add_right _ _, rfl, rfl, rfl, rfl, rfl, rfl⟩
  | cons o rest =>
    dsimp only
    split
    · have ho := h.la o (by rw [hl]; exact List.mem_cons_self)
      refine ⟨⟨⟨h.s.place, h.s.spots, by show (g.s.cells.set o.a o.x).length = 16; rw [List.length_set]; exact h.s.cells, h.s.ws, mem_set_worth h.s.wc ho.2, h.s.kept⟩, h.inn, h.innl, h.hd, h.owl, h.ow, ?_, fun p hp => h.la p (by rw [hl]; exact List.mem_cons_of_mem _ hp), h.nx, h.lf⟩, by simp, rfl, rfl, rfl, rfl, rfl, rfl⟩
      have := h.lal
      rw [hl] at this
      simp at this
      show rest.length ≤ 4
      omega
    · exact ⟨h, Nat.le_add_right _ _, rfl, rfl, rfl, rfl, rfl, rfl⟩
end Tw

namespace Tw
open PySem PySem.Spec L2
abbrev Rng := Int × Nat
end Tw

namespace Tw
open PySem PySem.Spec L2
def Evt.bt : Evt → Nat
  | .fin b _ _ => b
  | .late b _ _ => b
  | .down b _ _ _ => b
  | .bell b _ => b
def isEnE : Evt → Bool
  | .fin _ _ _ => true
  | _ => false
def Evt.Ok (rows bells : Nat) : Evt → Prop
  | .fin _ p _ => p < rows
  | .bell _ k => k < bells
  | _ => True
end Tw


namespace Tw
open PySem PySem.Spec L2
def LG.rings (r : Bool) (C : LC) (g : LG) : List Evt := match g.bellNow r C with
  | none => []
  | some k => [.bell g.beat k]
end Tw

namespace Tw
open PySem PySem.Spec L2
def dl (eb : Nat) : Nat → List La → List (Nat × Nat × Nat × Int)
  | _, [] => []
  | due, o :: r => (o.n, due, o.a, o.x) :: dl eb (due + eb) r
end Tw








namespace Tw
open PySem PySem.Spec L2
theorem drop_nil {α : Type} {l : List α} {k : Nat} (h : l.drop k = []) : l.length ≤ k := by
  by_cases z : k < l.length
  · rw [List.drop_eq_getElem_cons z] at h; cases h
  · omega
end Tw


namespace Tw
open PySem PySem.Spec L2
def netS (ps : List (Int × Int)) (n : Nat) : Int := (((ps.filter fun p => decide (p.1 = (n : Int))).map (·.2)).sum) % 4294967296
def tellW (ends : Nat) : Evt → Option (Nat × Int)
  | .late _ n x => some (n, x)
  | .fin _ _ (.spot _ (some x)) => some (ends, x)
  | .fin _ _ (.cell _ x) => some (ends, x)
  | _ => none
def evW (y : Int) : Evt → Evt
  | .late b n _ => .late b n y
  | .fin b p (.spot d _) => .fin b p (.spot d (some y))
  | .fin b p (.cell a _) => .fin b p (.cell a y)
  | e => e
def chE (ps : List (Int × Int)) (ends : Nat) (e : Evt) : Option Evt := match tellW ends e with
  | none => none
  | some t => if netS ps t.1 = 0 then none else some (evW ((t.2 + netS ps t.1) % 4294967296) e)
def enN (es : List Evt) : Nat := (es.filter isEnE).length
def noCh (ps : List (Int × Int)) : Nat → List Evt → Prop
  | _, [] => True
  | k, e :: es => chE ps k e = none ∧ noCh ps (k + if isEnE e = true then 1 else 0) es
theorem enN_app (a b : List Evt) : enN (a ++ b) = enN a + enN b := by unfold enN; rw [List.filter_append, List.length_append]
theorem enN_cons (e : Evt) (es : List Evt) : enN (e :: es) = (if isEnE e = true then 1 else 0) + enN es := by
  unfold enN
  cases h : isEnE e with
  | true => rw [List.filter_cons_of_pos h, List.length_cons, if_pos rfl]; omega
  | false => rw [List.filter_cons_of_neg (by rw [h]; exact Bool.false_ne_true), if_neg Bool.false_ne_true]; omega
theorem noCh_app (ps : List (Int × Int)) : ∀ (a b : List Evt) (k : Nat), noCh ps k (a ++ b) ↔ noCh ps k a ∧ noCh ps (k + enN a) b
  | [], b, k => ⟨fun h => ⟨trivial, h⟩, fun h => h.2⟩
  | e :: a, b, k => by
    rw [List.cons_append, noCh, noCh, noCh_app ps a b, enN_cons, and_assoc, Nat.add_assoc]
def BrkD (ps : List (Int × Int)) (d d' : List Evt) (b : Nat) : Prop := ∃ (L : List Evt) (e e' : Evt) (r r' : List Evt), d = L ++ e :: r ∧ d' = L ++ e' :: r' ∧ noCh ps 0 L ∧ chE ps (enN L) e = some e' ∧ e.bt = b
theorem BrkD.ext {ps : List (Int × Int)} {d d' : List Evt} {b : Nat} (h : BrkD ps d d' b) (x y : List Evt) : BrkD ps (d ++ x) (d' ++ y) b := by
  obtain ⟨L, e, e', r, r', h1, h2, h3, h4, h5⟩ := h
  exact ⟨L, e, e', r ++ x, r' ++ y, by rw [h1, List.append_assoc]; rfl, by rw [h2, List.append_assoc]; rfl, h3, h4, h5⟩
theorem BrkD.new {ps : List (Int × Int)} {d : List Evt} {e e' : Evt} (h : noCh ps 0 d) (h2 : chE ps (enN d) e = some e') (x y : List Evt) : BrkD ps (d ++ e :: x) (d ++ e' :: y) e.bt := ⟨d, e, e', x, y, rfl, rfl, h, h2, rfl⟩
structure Gd (ps : List (Int × Int)) (g : LG) : Prop where
  no : noCh ps 0 g.dia
  en : g.ends = enN g.dia
theorem Gd.snoc {ps : List (Int × Int)} {g g' : LG} (h : Gd ps g) {x : List Evt} (hd : g'.dia = g.dia ++ x) (h1 : noCh ps (enN g.dia) x) (h2 : g'.ends = g.ends + enN x) : Gd ps g' :=
  ⟨by rw [hd, noCh_app, Nat.zero_add]; exact ⟨h.no, h1⟩, by rw [h2, hd, enN_app, h.en]⟩
end Tw


namespace Tw
open PySem PySem.Spec L2
inductive WrG where
  | non
  | some (cell : Bool) (n : Int) (x : Option Int)
inductive EvG where
  | fin (b p : Int) (w : WrG)
  | late (b n x : Int)
  | down (b n a x : Int)
  | bell (b k : Int)
def EvG.bt : EvG → Int
  | .fin b _ _ => b
  | .late b _ _ => b
  | .down b _ _ _ => b
  | .bell b _ => b
structure OwG where
  n : Nat
  d : Nat
  x : Int
  since : Int
structure LaG where
  n : Nat
  a : Nat
  x : Int
structure Sd where
  s : Stt
  last : Int
  crowd : Nat
  pressed : Nat
  owed : List OwG
  laid : List LaG
  took : List Int
  ends : Nat
structure Tms where
  w : Int
  rm : Int
  qu : Int
  pa : Int
  lw : Int
structure RC where
  rows : List RowT
  bells : List Nat
  rings : List (Int × Int)
  tm : Tms
def rungBy (rings : List (Int × Int)) (b : Int) : List Int := (rings.filter fun p => decide (p.1 ≤ b)).map (·.2)
def touchS (r : RowT) (d : Nat) : Bool := decide (d ∈ rdS r) || decide (wrS r = some d)
def firstG (s : Stt) : Sd := ⟨s, 0, 0, 0, [], [], [], 0⟩
structure Hol where
  z : Sd
  many : Nat
  cause : Option Str
structure Sd.Ok (C : RC) (z : Sd) : Prop where
  s : z.s.Ok C.rows.length
  owl : z.owed.length ≤ z.ends
  lal : z.laid.length ≤ z.ends
  ow : ∀ o ∈ z.owed, o.n < z.ends
structure RC.Ok (C : RC) : Prop where
  m : Mill C.rows C.bells
  rl : C.rings.length ≤ 900
  rk : ∀ p ∈ C.rings, 0 ≤ p.2 ∧ p.2 < (C.bells.length : Int)
structure Hol.Ok (C : RC) (n : Nat) (h : Hol) : Prop where
  z : h.z.Ok C
  en : h.z.ends ≤ n
  tk : h.z.took.length ≤ n
  mn : h.many ≤ n
end Tw

namespace Tw
open PySem PySem.Spec L2
def Lead1 (p : Nat) : RowT → Prop
  | .go _ q => q = p + 1
  | _ => True
def stN (rows : List RowT) (s : Stt) : Nat → Stt
  | 0 => s
  | n + 1 => match rows[(stN rows s n).place]? with
    | some row => stepS row (stN rows s n)
    | none => stN rows s n
def rowN (rows : List RowT) (s : Stt) (n : Nat) : RowT := rows.getD (s.place + n) .shut
def dueNN (rows : List RowT) (s : Stt) (n : Nat) : Wrote := wroteBy (rowN rows s n) (stN rows s n).spots (stN rows s n).cells
structure Strt (rows : List RowT) (s : Stt) : Prop where
  ok : s.Ok rows.length
  row : ∀ r ∈ rows, r.Ok rows.length
  ld : ∀ i r, rows[i]? = some r → Lead1 i r
  kn : s.kept = none
theorem Strt.at_ {rows : List RowT} {s : Stt} (h : Strt rows s) : ∀ n, s.place + n ≤ rows.length → (stN rows s n).Ok rows.length ∧ (stN rows s n).place = s.place + n ∧ (stN rows s n).kept = none
  | 0, _ => ⟨h.ok, rfl, h.kn⟩
  | n + 1, hn => by
    obtain ⟨h1, h2, h3⟩ := h.at_ n (by omega)
    have hp : s.place + n < rows.length := by omega
    have hr : rows[(stN rows s n).place]? = some rows[s.place + n] := by rw [h2]; exact List.getElem?_eq_getElem hp
    have hl := h.ld _ _ (List.getElem?_eq_getElem hp)
    have hok := h.row _ (List.getElem_mem hp)
    rw [stN, hr]
    dsimp only
    generalize rows[s.place + n] = row at *
    refine ⟨stepS_ok hok h1 (by rw [h2]; exact hp), ?_, ?_⟩
    · show leads row (stN rows s n).place _ (stN rows s n).kept = _
      rw [h2, h3]
      cases row with
      | go a q =>
        show (if gd _ a = 0 then s.place + n + 1 else q) = _
        have : q = s.place + n + 1 := hl
        rw [this]
        split <;> rfl
      | _ => rfl
    · show keptBy row (stN rows s n).kept = none
      rw [h3]
      cases row <;> rfl
theorem Strt.row_at {rows : List RowT} {s : Stt} (h : Strt rows s) {n : Nat} (hn : s.place + n < rows.length) : rows[(stN rows s n).place]? = some (rowN rows s n) ∧ (rowN rows s n).Ok rows.length := by
  have e : rowN rows s n = rows[s.place + n] := by unfold rowN; rw [List.getD_eq_getElem?_getD, List.getElem?_eq_getElem hn]; rfl
  rw [(h.at_ n (by omega)).2.1, e]
  exact ⟨List.getElem?_eq_getElem hn, h.row _ (List.getElem_mem hn)⟩
theorem Strt.succ {rows : List RowT} {s : Stt} (h : Strt rows s) {n : Nat} (hn : s.place + n < rows.length) : stN rows s (n + 1) = stepS (rowN rows s n) (stN rows s n) := by
  rw [stN, (h.row_at hn).1]
end Tw



namespace Tw
open PySem PySem.Spec L2
structure WD where
  n : Nat
  L : List LaG
  b : Int
variable {rows : List RowT} {s : Stt}
structure WD.Ok (rows : List RowT) (W : WD) : Prop where
  n : W.n ≤ rows.length
  lt : ∀ la ∈ W.L, la.n < W.n
  up : W.L.Pairwise (fun a b => a.n < b.n)
  a : ∀ la ∈ W.L, la.a < 16 ∧ Worth la.x
  b : 0 ≤ W.b
  l : W.L.length ≤ W.n
end Tw

namespace Tw
open PySem PySem.Spec L2
structure Gb (C : RC) (z : Sd) (b : Int) (c : Nat) : Prop where
  ow : z.owed = []
  la : z.laid = []
  ok : z.s.Ok C.rows.length
  le : z.last ≤ b
  cr : (if z.last < b then 0 else z.crowd) = c
def bellZ (C : RC) (z : Sd) (b : Int) (c : Nat) (k : Int) : Sd := ⟨bellS (C.bells.getD k.toNat 0) z.s, b, c, 0, [], [], z.took ++ [k], z.ends⟩
section
variable {C : RC} {z : Sd} {b : Int} {c : Nat} (h : Gb C z b c)
include h
theorem Gb.bell {k : Nat} (hk : k < C.bells.length) (hB : ∀ b ∈ C.bells, b ≤ C.rows.length) : Gb C (bellZ C z b c k) b c := by
  refine ⟨rfl, rfl, ?_, Int.le_refl _, by show (if b < b then 0 else c) = c; rw [if_neg (by omega)]⟩
  have hs := h.ok
  refine ⟨?_, hs.spots, hs.cells, hs.ws, hs.wc, fun j hj => ?_⟩
  · show C.bells.getD (k : Int).toNat 0 ≤ _
    rw [Int.toNat_natCast, List.getD_eq_getElem?_getD, List.getElem?_eq_getElem hk]
    exact hB _ (List.getElem_mem hk)
  · cases hj
    exact hs.place
end
theorem Gb.first (C : RC) {s : Stt} (hs : s.Ok C.rows.length) {b : Int} (hb : 0 ≤ b) : Gb C (firstG s) b 0 := ⟨rfl, rfl, hs, hb, by show (if (0 : Int) < b then 0 else 0) = 0; split <;> rfl⟩
end Tw

namespace Tw
open PySem PySem.Spec L2
structure Loose (l : Lay) (t : Tms) : Prop where
  w : (l.w : Int) ≤ t.w
  rm : (l.rm : Int) ≤ t.rm
  qu : (l.qu : Int) ≤ t.qu
  pa : ((l.lk * l.w : Nat) : Int) ≤ t.pa
  lw : (l.sl : Int) + l.sp - 1 ≤ t.lw
end Tw


namespace Tw
open PySem PySem.Spec L2
def lfI (l : List (Int × Nat)) : List (Int × Int) := l.map fun p => (p.1, (p.2 : Int))
structure RI (R : List (Int × Int)) (g : LG) (z : Sd) (B : Nat) : Prop where
  cnt : ∀ (b k : Int), (g.beat : Int) ≤ b → (rungBy R b).count k = (rungBy (lfI g.left) b).count k + z.took.count k
  srt : g.left.Pairwise fun p q => p.1 ≤ q.1
  wt : z.s.shut = false → 0 < z.pressed → ∃ k, k ∈ rungBy (lfI g.left) (g.beat : Int)
  bd : z.s.shut = false → z.pressed ≤ B
theorem RI.same {R : List (Int × Int)} {g g' : LG} {z z' : Sd} {B : Nat} (h : RI R g z B) (h1 : g'.beat = g.beat) (h2 : g'.left = g.left) (h3 : z'.took = z.took) (h4 : z'.pressed = z.pressed) (h5 : z'.s = z.s) : RI R g' z' B :=
  ⟨by rw [h1, h2, h3]; exact h.cnt, by rw [h2]; exact h.srt, by rw [h5, h4, h2, h1]; exact h.wt, by rw [h5, h4]; exact h.bd⟩
end Tw



namespace Tw
open PySem PySem.Spec L2
structure KyT where
  b : Int
  t : Nat
  k : Nat
def ltK (p q : KyT) : Bool := decide (p.b < q.b ∨ (p.b = q.b ∧ (p.t < q.t ∨ (p.t = q.t ∧ p.k < q.k))))
theorem ltK_iff {p q : KyT} : ltK p q = true ↔ p.b < q.b ∨ (p.b = q.b ∧ (p.t < q.t ∨ (p.t = q.t ∧ p.k < q.k))) := by unfold ltK; exact decide_eq_true_iff
structure Kys (N : Nat) (bt : Nat → Int) (L : List KyT) : Prop where
  so : L.Pairwise fun a b => ltK a b = true
  fin : ∀ k, k < N → (⟨bt k, 1, k⟩ : KyT) ∈ L
  is : ∀ p ∈ L, p.k < N ∧ (p.t = 1 → p.b = bt p.k) ∧ (p.t ≠ 1 → ltK ⟨bt p.k, 1, p.k⟩ p = true)
  un : ∀ p ∈ L, ∀ q ∈ L, p.t ≠ 1 → q.t ≠ 1 → p.k = q.k → p = q
  ex : ∀ k, k < N → ∃ p ∈ L, p.t ≠ 1 ∧ p.k = k
  mono : ∀ j k, j ≤ k → k < N → bt j ≤ bt k
def nE (L : List KyT) (i : Nat) : Nat := ((L.take i).filter fun p => decide (p.t = 1)).length
theorem take_succ {α : Type} {L : List α} {i : Nat} {c : α} (h : L[i]? = some c) : L.take (i + 1) = L.take i ++ [c] := by rw [List.take_add_one, h]; rfl
theorem mem_takes {α : Type} {L : List α} {i : Nat} {a : α} : a ∈ L.take i ↔ ∃ m, m < i ∧ L[m]? = some a := by
  rw [List.mem_iff_getElem?]
  constructor
  · rintro ⟨m, h⟩
    rw [List.getElem?_take] at h
    split at h
    · exact ⟨m, by assumption, h⟩
    · cases h
  · rintro ⟨m, h1, h2⟩
    exact ⟨m, by rw [List.getElem?_take, if_pos h1, h2]⟩
section
variable {N : Nat} {bt : Nat → Int} {L : List KyT} (K : Kys N bt L)
include K
theorem Kys.at_lt {m i : Nat} {a c : KyT} (hm : L[m]? = some a) (hi : L[i]? = some c) (h : m < i) : ltK a c = true := by
  have h1 := (List.getElem?_eq_some_iff.mp hm)
  have h2 := (List.getElem?_eq_some_iff.mp hi)
  have := (List.pairwise_iff_getElem.mp K.so) m i h1.1 h2.1 h
  rw [h1.2, h2.2] at this
  exact this
theorem Kys.before {a c : KyT} (ha : a ∈ L) {i : Nat} (hi : L[i]? = some c) (h : ltK a c = true) : a ∈ L.take i := by
  obtain ⟨m, hm⟩ := List.mem_iff_getElem?.mp ha
  refine mem_takes.mpr ⟨m, ?_, hm⟩
  rw [ltK_iff] at h
  by_cases h1 : m = i
  · subst h1
    rw [hm] at hi
    cases hi
    omega
  · by_cases h2 : m < i
    · exact h2
    · have := K.at_lt hi hm (by omega)
      rw [ltK_iff] at this
      omega
theorem Kys.after {a c : KyT} {i : Nat} (ha : a ∈ L.take i) (hi : L[i]? = some c) : ltK a c = true := by
  obtain ⟨m, h1, h2⟩ := mem_takes.mp ha
  exact K.at_lt h2 hi h1
theorem Kys.out {a b : KyT} {i : Nat} (ha : a ∈ L.take i) (hb : b ∈ L) (hn : b ∉ L.take i) : ltK a b = true := by
  obtain ⟨m, h1, h2⟩ := mem_takes.mp ha
  obtain ⟨j, hj⟩ := List.mem_iff_getElem?.mp hb
  refine K.at_lt h2 hj ?_
  by_cases h : j < i
  · exact (hn (mem_takes.mpr ⟨j, h, hj⟩)).elim
  · omega
theorem Kys.fin_lt {j k : Nat} (h : j < k) (hk : k < N) : ltK ⟨bt j, 1, j⟩ ⟨bt k, 1, k⟩ = true := by
  rw [ltK_iff]
  have := K.mono j k (by omega) hk
  dsimp only
  omega
theorem Kys.ends : ∀ i, i ≤ L.length → nE L i ≤ N ∧ ∀ j, j < N → ((⟨bt j, 1, j⟩ : KyT) ∈ L.take i ↔ j < nE L i)
  | 0, _ => ⟨Nat.zero_le _, fun j _ => ⟨(fun h => nomatch h), (fun h => nomatch h)⟩⟩
  | i + 1, hi => by
    obtain ⟨h1, h2⟩ := Kys.ends i (by omega)
    obtain ⟨c, hc⟩ : ∃ c, L[i]? = some c := ⟨_, List.getElem?_eq_getElem (by omega)⟩
    have hm : c ∈ L := List.mem_iff_getElem?.mpr ⟨i, hc⟩
    obtain ⟨c1, c2, c3⟩ := K.is c hm
    have hn : nE L (i + 1) = nE L i + (if c.t = 1 then 1 else 0) := by
      unfold nE
      rw [take_succ hc, List.filter_append, List.length_append]
      split <;> simp [*]
    rw [hn, take_succ hc]
    split
    · rename_i ht
      have hc' : c = ⟨bt c.k, 1, c.k⟩ := by
        obtain ⟨cb, ct, ck⟩ := c
        dsimp only at *
        rw [ht, c2 ht]
      have hk : c.k = nE L i := by
        have n1 : ¬ c.k < nE L i := fun h => by
          have := K.after ((h2 c.k c1).mpr h) hc
          rw [hc'] at this
          rw [ltK_iff] at this
          dsimp only at this
          omega
        by_cases h : nE L i < c.k
        · have h3 := K.fin_lt h c1
          rw [← hc'] at h3
          have := (h2 _ (by omega)).mp (K.before (K.fin (nE L i) (by omega)) hc h3)
          omega
        · omega
      refine ⟨by omega, fun j hj => ?_⟩
      rw [List.mem_append, h2 j hj, List.mem_singleton]
      constructor
      · rintro (h | h)
        · omega
        · rw [← h] at hk
          dsimp only at hk
          omega
      · intro h
        by_cases h' : j < nE L i
        · exact .inl h'
        · right
          have : j = c.k := by omega
          rw [this]
          exact hc'.symm
    · rename_i ht
      refine ⟨h1, fun j hj => ?_⟩
      rw [List.mem_append, h2 j hj, List.mem_singleton, Nat.add_zero]
      constructor
      · rintro (h | h)
        · exact h
        · rw [← h] at ht
          exact (ht rfl).elim
      · exact .inl
end
structure SlowC (C : RC) (s : Stt) (N : Nat) (ord : Nat → Nat) (x : Nat → Int) : Prop where
  st : Strt C.rows s
  p0 : s.place = 0
  len : C.rows.length = N + 1
  due : ∀ k, k < N → dueNN C.rows s k = .spot (ord k) (x k)
  slow : ∀ k, k < N → slowR (rowN C.rows s k) = true
  tch : ∀ k, k < N → ∀ j, j < k → touchS (rowN C.rows s k) (ord j) = false
  rings : C.rings = []
end Tw


namespace Tw
open PySem PySem.Spec L2
def ltB (p q : Rng) : Prop := p.2 < q.2 ∨ (p.2 = q.2 ∧ p.1 < q.1)
instance (p q : Rng) : Decidable (ltB p q) := inferInstanceAs (Decidable (_ ∨ _))
def DueS (g : LG) : Prop := ∀ o ∈ g.owed, g.beat < o.due
theorem DueS.down {C : LC} {g : LG} (h : DueS g) : DueS (g.down C) := by
  unfold LG.down
  split
  · exact h
  · split
    · exact h
    · exact h
end Tw










set_option maxHeartbeats 0
namespace Lwk04
open PySem PySem.Spec L2 Tw
def top (i : Nat) : Stmt := PySem.Challenge.pw_twomakes_k04_written_and_read.main.body.getD i (.Pass ⟨0, 0, 0, 0⟩)
def cs : List String := ["MakeError", "NoMill", "NoText"]
abbrev s_limits_of : Stmt := top 10
abbrev s_is_row : Stmt := top 11
abbrev s_mill_of : Stmt := top 12
abbrev s_show_row : Stmt := top 16
abbrev s_show_mill : Stmt := top 17
abbrev s_is_number : Stmt := top 18
abbrev s_number_in : Stmt := top 19
abbrev s_row_in : Stmt := top 20
abbrev s_read_mill : Stmt := top 21
abbrev s__law_tray : Stmt := top 23
abbrev s__law_draw : Stmt := top 24
abbrev s__law_worth : Stmt := top 25
abbrev s__law_row : Stmt := top 26
abbrev s__law_mill : Stmt := top 27
abbrev s__law_alike : Stmt := top 28
abbrev s__law_shown : Stmt := top 29
abbrev s_law : Stmt := top 30
def d_limits_of : He.DefD := ⟨("limits_of", none), "limits_of", "limits_of", defArgs s_limits_of, defBody s_limits_of, defScope s_limits_of, [], []⟩
def d_is_row : He.DefD := ⟨("is_row", none), "is_row", "is_row", defArgs s_is_row, defBody s_is_row, defScope s_is_row, [], []⟩
def d_mill_of : He.DefD := ⟨("mill_of", none), "mill_of", "mill_of", defArgs s_mill_of, defBody s_mill_of, defScope s_mill_of, [], []⟩
def d_show_row : He.DefD := ⟨("show_row", none), "show_row", "show_row", defArgs s_show_row, defBody s_show_row, defScope s_show_row, [], []⟩
def d_show_mill : He.DefD := ⟨("show_mill", none), "show_mill", "show_mill", defArgs s_show_mill, defBody s_show_mill, defScope s_show_mill, [], []⟩
def d_is_number : He.DefD := ⟨("is_number", none), "is_number", "is_number", defArgs s_is_number, defBody s_is_number, defScope s_is_number, [], []⟩
def d_number_in : He.DefD := ⟨("number_in", none), "number_in", "number_in", defArgs s_number_in, defBody s_number_in, defScope s_number_in, [], []⟩
def d_row_in : He.DefD := ⟨("row_in", none), "row_in", "row_in", defArgs s_row_in, defBody s_row_in, defScope s_row_in, [], []⟩
def d_read_mill : He.DefD := ⟨("read_mill", none), "read_mill", "read_mill", defArgs s_read_mill, defBody s_read_mill, defScope s_read_mill, [], []⟩
def d__law_tray : He.DefD := ⟨("_law_tray", none), "_law_tray", "_law_tray", defArgs s__law_tray, defBody s__law_tray, defScope s__law_tray, [], []⟩
def d__law_draw : He.DefD := ⟨("_law_draw", none), "_law_draw", "_law_draw", defArgs s__law_draw, defBody s__law_draw, defScope s__law_draw, [], []⟩
def d__law_worth : He.DefD := ⟨("_law_worth", none), "_law_worth", "_law_worth", defArgs s__law_worth, defBody s__law_worth, defScope s__law_worth, [], []⟩
def d__law_row : He.DefD := ⟨("_law_row", none), "_law_row", "_law_row", defArgs s__law_row, defBody s__law_row, defScope s__law_row, [], []⟩
def d__law_mill : He.DefD := ⟨("_law_mill", none), "_law_mill", "_law_mill", defArgs s__law_mill, defBody s__law_mill, defScope s__law_mill, [], []⟩
def d__law_alike : He.DefD := ⟨("_law_alike", none), "_law_alike", "_law_alike", defArgs s__law_alike, defBody s__law_alike, defScope s__law_alike, [], []⟩
def d__law_shown : He.DefD := ⟨("_law_shown", none), "_law_shown", "_law_shown", defArgs s__law_shown, defBody s__law_shown, defScope s__law_shown, [], []⟩
def d_law : He.DefD := ⟨("law", none), "law", "law", defArgs s_law, defBody s_law, defScope s_law, [], []⟩
def fn : List He.DefD := [d_limits_of, d_is_row, d_mill_of, d_show_row, d_show_mill, d_is_number, d_number_in, d_row_in, d_read_mill, d__law_tray, d__law_draw, d__law_worth, d__law_row, d__law_mill, d__law_alike, d__law_shown, d_law]
def fa : List He.Fa := [.glo "limits_of", .glo "is_row", .glo "mill_of", .glo "show_row", .glo "show_mill", .glo "is_number", .glo "number_in", .glo "row_in", .glo "read_mill", .glo "_law_tray", .glo "_law_draw", .glo "_law_worth", .glo "_law_row", .glo "_law_mill", .glo "_law_alike", .glo "_law_shown", .glo "law", .free "bool", .free "int", .free "isinstance", .free "len", .free "list", .free "max", .free "range", .free "str", .free "tuple", .free "zip", .int "CELLS" 16, .int "MOST_BELLS" 4, .int "MOST_FIGURES" 10, .int "MOST_ROWS" 40, .int "SPOTS" 8, .int "WORTHS" 4294967296]
abbrev R : PySem.W.OpenRow := PySem.W.OpenLaw.row PySem.Challenge.rw_twomakes_k04_written_and_read
def exs : List Look := [kinB cs subM, kinN cs, strB "FIGURES" "0123456789"]
abbrev hk : PySem.W.Hook := hookX 4 fa fn exs
def ob (s : PySem.W.SharedT) : AlX := obsX 4 fa fn exs (HandSHeadRun.getT s)
theorem ob_eq (s : PySem.W.SharedT) : ob s = hk.obs s.abs := obsX_eq (HandSHeadRun.getT_eq s)
def lo : List PySem.Str := ["limits_of", "is_row", "mill_of", "show_row", "show_mill", "is_number", "number_in", "row_in", "read_mill", "_law_tray", "_law_draw", "_law_worth", "_law_row", "_law_mill", "_law_alike", "_law_shown", "MakeError", "NoMill", "NoText", "SPOTS", "CELLS", "WORTHS", "MOST_ROWS", "MOST_BELLS", "FIGURES", "MOST_FIGURES"]
theorem run (w : World) : HandSHeadRun.RunEq R (PySem.W.view R.prog [30]) hk ob 16000 lo w := by
  intro os
  kernel_rfl
end Lwk04
set_option maxHeartbeats 4000000
namespace Tw
open PySem PySem.Spec PyProof.Rows L2

theorem ScrAt.sqL {K : Fr} {H : Hp} {a : Addr} {xs : List V} (h : ScrAt K H a xs) : SqL K H a xs := h.imp (fun ⟨o, z⟩ => .inr ⟨o, z⟩) id

end Tw

namespace Tw
open PySem PySem.Spec L2

section
variable {K : Fr} {mg : Mg} {pv : Pv} {A A' : Ad} {σ : St} {γ : Γ} {H H' : Hp} {S S' T : List Addr}
theorem Env.more (E : Env K mg pv A σ γ H S) (h : Same H H') (hT : ∀ b ∈ T, H b = none) (hT' : ∀ b ∈ T, H' b ≠ none) : Env K mg pv (adT A T) σ γ H' S where
  rep := RS.keep γ σ S ⟨⟨fun b o q _ => h b o q, fun b hb hn hu => hu.elim (fun z => z.elim (fun z => hn (.inl z)) fun z => hb (hT b z)) fun z => hn (.inr z)⟩, fun b _ o q => h b o q⟩ E.rep
  nd := E.nd
  am := fun a ha => ha.elim (fun ha => ⟨(E.am a ha).1, by
    cases q : H a with
    | none => exact absurd q (E.am a ha).2
    | some o => rw [h a o q]; exact (fun z => nomatch z)⟩) fun ha => ⟨fun hs => E.here a (.inr hs) (hT a ha), hT' a ha⟩
  pin := E.pin
end

section
variable (K : Fr) (mg : Mg) (W : WX)
def WantA (pu : Bool) (pv : Pv) (A : Ad) (σ : St) (H : Hp) (S : List Addr) (Q : List V → Hp → Prop) : Out (List M) → Prop :=
  WantG (fun r γ' => ∀ vs H' S' T, Go H S H' (T ++ S') → (pu = true → S' = S ∧ Same H H') → Env K mg pv (adT A T) σ γ' H' S' → RMs K mg H' (us (adT A T) S') r vs T → T.Nodup → Q vs H') (ErE K mg W pv A σ H S)
def tA (pu : Bool) (m : MA) : TA := fun σ H Q => ∃ pv A γ S, Env K mg pv A σ γ H S ∧ WantA K mg W pu pv A σ H S Q (m γ)
def tS (wb : List Nat) (m : MS) : TS := fun D σ H => ∃ pv A γ S, (∀ i, wb.contains i = false → pv i = none) ∧ Env K mg pv A σ γ H S ∧ WantS K mg W pv A H S D (m γ)
end
structure JA (X : Cx) (W : WX) (pu : Bool) (es : List Expr) (m : MA) : Prop where
  pe : PA X es (tA X.K X.mgw W pu m)
  quiet : pu = true → Quiet m
structure JS (X : Cx) (W : WX) (wb : List Nat) (st : Stmt) (m : MS) : Prop where
  ps : PS X st (tS X.K X.mgw W wb m)
structure JB (X : Cx) (W : WX) (wb : List Nat) (st : List Stmt) (m : MS) : Prop where
  ps : PSs X st (tS X.K X.mgw W wb m)


section
variable {X : Cx} {W : WX} {wb : List Nat} {st : Stmt} {rest : List Stmt} {m m' : MS} {pos : Pos}
def sNil : MS := fun γ => .ok .nx γ
def sSeq (a b : MS) : MS := fun γ => (a γ).bind fun f γ' => match f with
  | .nx => b γ'
  | f => .ok f γ'
theorem jb_nil : JB X W wb [] sNil := ⟨PSs.imp pss_nil fun D σ H ⟨pv, A, γ, S, _, E, w⟩ => w σ H S .refl E⟩
theorem jb_cons (h1 : JS X W wb st m) (h2 : JB X W wb rest m') : JB X W wb (st :: rest) (sSeq m m') := by
  refine ⟨PSs.imp (pss_cons h1.ps h2.ps) fun D σ H ⟨pv, A, γ, S, hp, E, w⟩ => ⟨pv, A, γ, S, hp, E, ?_⟩⟩
  unfold sSeq at w
  cases e : m γ with
  | bad => rw [e] at w; exact w
  | err c g => rw [e] at w; exact w
  | ok f g =>
    rw [e] at w
    cases f with
    | nx => exact fun σ' H' S' go E' => ⟨pv, A, g, S', hp, E', WantS.go go w⟩
    | brk => exact w
    | ct => exact w
    | ret r => exact w
theorem jb_one (h1 : JS X W wb st m) : JB X W wb [st] m := by
  refine ⟨pss_one h1.ps⟩
variable {e : Expr} {me : ME} {pu : Bool}
def sRet (me : ME) : MS := fun γ => (me γ).bind fun r γ' => .ok (.ret r) γ'
theorem js_ret (h : J X W pu e me) : JS X W wb (.Return (some e) pos) (sRet me) := by
  refine ⟨PS.imp (ps_ret h.pe) fun D σ H ⟨pv, A, γ, S, hp, E, w⟩ => ⟨pv, A, γ, S, E, ?_⟩⟩
  unfold sRet at w
  cases e : me γ with
  | bad => rw [e] at w; exact w
  | err c g => rw [e] at w; exact fun C H' S' hC go E' => w C σ H' S' hC go E'
  | ok r g => rw [e] at w; exact fun v H' S' T go _ E' r' nd => w v σ H' S' T go E' r' nd
def sIf (c : MT) (a b : MS) : MS := fun γ => (c γ).bind fun k γ' => if k = true then a γ' else b γ'
theorem js_if {c : Expr} {a b : List Stmt} {mc : MT} {ma mb : MS} (hc : JT X W pu c mc) (ha : JB X W wb a ma) (hb : JB X W wb b mb) : JS X W wb (.If c a b pos) (sIf mc ma mb) := by
  refine ⟨PS.imp (ps_if hc.pe ha.ps hb.ps) fun D σ H ⟨pv, A, γ, S, hp, E, w⟩ => ⟨pv, A, γ, S, E, ?_⟩⟩
  unfold sIf at w
  cases e : mc γ with
  | bad => rw [e] at w; exact w
  | err c g => rw [e] at w; exact fun C H' S' hC go E' => w C σ H' S' hC go E'
  | ok k g =>
    rw [e] at w
    intro H' S' go _ E'
    cases k with
    | true => exact ⟨pv, A, g, S', hp, E', WantS.go go w⟩
    | false => exact ⟨pv, A, g, S', hp, E', WantS.go go w⟩
def sDrop (me : ME) : MS := fun γ => (me γ).bind fun _ γ' => .ok .nx γ'
theorem js_expr (h : J X W pu e me) (hs : swapsWith e none pos.line X.env = pure false := by rfl) : JS X W wb (.Expr e pos) (sDrop me) := by
  refine ⟨PS.imp (ps_expr h.pe hs) fun D σ H ⟨pv, A, γ, S, hp, E, w⟩ => ⟨pv, A, γ, S, E, ?_⟩⟩
  unfold sDrop at w
  cases e : me γ with
  | bad => rw [e] at w; exact w
  | err c g => rw [e] at w; exact fun C H' S' hC go E' => w C σ H' S' hC go E'
  | ok r g => rw [e] at w; exact fun v H' S' T go _ E' r' nd => w σ H' S' (go.sub fun b hb => List.mem_append_right _ hb) (E'.less fun a h => .inl h)
end
end Tw

namespace Tw
open PySem PySem.Spec L2



theorem quiet_ite {α : Type} (c : Bool) {f g : Γ → Out α} (h1 : Quiet f) (h2 : Quiet g) : Quiet (fun γ => if c = true then f γ else g γ) := by
  cases c with
  | false => exact h2
  | true => exact h1

end Tw

namespace Tw
open PySem PySem.Spec L2

section
variable {K : Fr} {mg : Mg} {H H' : Hp} {U : Addr → Prop}
theorem rd_newL {ds : List D} {vs : List V} {p : Addr} (h : RDs K H U ds vs) (hp : H p = none) (hU : ∀ a, U a → H a ≠ none) : RD K (upd H p (.lst vs)) U (.list ds) (.ref p) := by
  rw [RD]
  exact ⟨p, vs, rfl, upd_same, fun z => hU p z hp, h.up (same_new hp)⟩
theorem rd_newT {ds : List D} {vs : List V} {p : Addr} (h : RDs K H U ds vs) (hp : H p = none) : RD K (upd H p (.tup vs)) U (.tuple ds) (.ref p) := by
  rw [RD]
  exact ⟨p, vs, rfl, SqT.of upd_same, h.up (same_new hp)⟩
def spD : List (D × D) → Bool
  | (.none, _) :: _ => true
  | _ => false
theorem rd_dct {kvs : List (D × D)} {v : V} (h : RD K H U (.dict kvs) v) (g : spD kvs = false) : ∃ a ks, v = .ref a ∧ H a = some (.dK ks) ∧ ¬ U a ∧ RKs K H U kvs ks := by
  rw [RD] at h
  obtain ⟨a, e, ⟨ks, q, u, r⟩ | r⟩ := h
  · exact ⟨a, ks, e, q, u, r⟩
  · cases kvs with
    | nil => rw [RSp] at r; exact r.elim
    | cons p kvs =>
      obtain ⟨x, d⟩ := p
      rw [RSp] at r
      rw [r.1.1] at g
      cases g
end

def OpD (X : Cx) (f : Value → Value → Sem Value) (g : D → D → Option D) : Prop :=
  ∃ r : R2, OpR X f r ∧ ∀ (U : Addr → Prop) (H : Hp) (d e : D) (x y : V) (res : D) (Q : VK), (∀ a, U a → H a ≠ none) → RD X.K H U d x → RD X.K H U e y → g d e = some res →
    (∀ v H', Same H H' → RD X.K H' U res v → Q v H') → r x y H Q
def mBin (g : D → D → Option D) (ma mb : MD) : MD := fun γ => (ma γ).bind fun d γ1 => (mb γ1).bind fun e γ2 => ofO (g d e) fun r => .ok r γ2
def mUn (g : D → Option D) (ma : MD) : MD := fun γ => (ma γ).bind fun d γ1 => ofO (g d) fun r => .ok r γ1

section
variable {K : Fr} {mg : Mg} {W : WX} {pu : Bool} {pv : Pv} {A : Ad} {σ : St} {γ : Γ} {H H1 : Hp} {S S1 : List Addr}
theorem seqD {β : Type} {R : β → Γ → Prop} {m : MD} {k : D → Γ → Out β} {Q : VK} (w : WantG R (ErE K mg W pv A σ H S) ((m γ).bind k))
    (h : ∀ d γ1 v H1 S1, Go H S H1 S1 → (pu = true → S1 = S ∧ Same H H1) → Env K mg pv A σ γ1 H1 S1 → RD K H1 (us A S1) d v → WantG R (ErE K mg W pv A σ H S) (k d γ1) → Q v H1) : WantD K mg W pu pv A σ H S Q (m γ) :=
  WantG.mono w.bind (fun d γ1 w1 v H1 S1 go p E1 r => h d γ1 v H1 S1 go p E1 r w1) fun _ _ q => q
theorem seqD' {β : Type} {R : β → Γ → Prop} {m : MD} {k : D → Γ → Out β} {Q : VK} (g : Go H S H1 S1) (w : WantG R (ErE K mg W pv A σ H S) ((m γ).bind k))
    (h : ∀ d γ1 v H2 S2, Go H1 S1 H2 S2 → (pu = true → S2 = S1 ∧ Same H1 H2) → Env K mg pv A σ γ1 H2 S2 → RD K H2 (us A S2) d v → WantG R (ErE K mg W pv A σ H S) (k d γ1) → Q v H2) : WantD K mg W pu pv A σ H1 S1 Q (m γ) :=
  WantG.mono w.bind (fun d γ1 w1 v H1 S1 go p E1 r => h d γ1 v H1 S1 go p E1 r w1) fun _ _ q => q.go g
end

section
variable {X : Cx} {W : WX} {pu pu' : Bool} {a b : Expr} {ma mb : MD} {pos : Pos} {g g' : D → D → Option D} {f : Value → Value → Sem Value}
theorem OpD.or (h : OpD X f g) (h' : OpD X f g') : OpD X f (fun d e => (g d e).or (g' d e)) := by
  obtain ⟨r, hr, k⟩ := h
  obtain ⟨r', hr', k'⟩ := h'
  refine ⟨_, hr.or hr', fun U H d e x y res Q hU rx ry hg q => ?_⟩
  have hg' : (g d e).or (g' d e) = some res := hg
  cases z : g d e with
  | some w =>
    rw [z] at hg'
    have : w = res := by simpa using hg'
    subst this
    exact .inl (k U H d e x y w Q hU rx ry z q)
  | none =>
    rw [z] at hg'
    exact .inr (k' U H d e x y res Q hU rx ry (by simpa using hg') q)
theorem two_ok {r : R2} (ha : JD X W pu a ma) (hb : JD X W pu' b mb) (k : ∀ (U : Addr → Prop) (H : Hp) (d e : D) (x y : V) (res : D) (Q : VK), (∀ a, U a → H a ≠ none) → RD X.K H U d x → RD X.K H U e y → g d e = some res →
    (∀ v H', Same H H' → RD X.K H' U res v → Q v H') → r x y H Q) {σ : St} {H : Hp} {Q : VK} (h : tD X.K X.mgw W (pu && pu') (mBin g ma mb) σ H Q) : tOp r (tD X.K X.mgw W pu ma) (tD X.K X.mgw W pu' mb) σ H Q := by
  obtain ⟨pv, A, γ, S, E, w⟩ := h
  refine ⟨pv, A, γ, S, E, seqD w fun d γ1 x H1 S1 go1 p1 E1 r1 w1 => ?_⟩
  refine ⟨pv, A, γ1, S1, E1, seqD' go1 w1 fun e γ2 y H2 S2 go2 p2 E2 r2 w2 => ?_⟩
  cases q : g d e with
  | none => rw [q] at w2; exact w2.elim
  | some res =>
    rw [q] at w2
    refine k (us A S2) H2 d e x y res Q E2.here (RD.keep (E1.keep go2) d x r1) r2 q fun v H' sm rv => ?_
    exact w2 v H' S2 ((go1.trans go2).trans (Go.same sm)) (fun z => let ⟨a, b⟩ := pure2 p1 p2 z; ⟨a, b.trans sm⟩) (E2.same sm) rv
theorem quiet_two (ha : JD X W pu a ma) (hb : JD X W pu' b mb) : (pu && pu') = true → Quiet (mBin g ma mb) := fun z => by
  rw [Bool.and_eq_true] at z
  exact quiet_bind (ha.quiet z.1) fun d => quiet_bind (hb.quiet z.2) fun e => quiet_opt _ (fun r γ => Out.ok r γ) fun r => quiet_ok r
theorem jd_bin {op : Operator} (ho : OpD X (binaryOp op) g) (ha : JD X W pu a ma) (hb : JD X W pu' b mb) : JD X W (pu && pu') (.BinOp a op b pos) (mBin g ma mb) := by
  obtain ⟨r, hr, k⟩ := ho
  exact ⟨PE.imp (pe_op hr ha.pe hb.pe) fun σ H Q h => two_ok ha hb k h, quiet_two ha hb⟩
theorem jd_cmp {op : CmpOp} (ho : OpD X (compareOp op) g) (ha : JD X W pu a ma) (hb : JD X W pu' b mb) (hm : behindInMarks op b = false := by first | exact nomark _ | with_unfolding_all rfl) : JD X W (pu && pu') (.Compare a [op] [b] pos) (mBin g ma mb) := by
  obtain ⟨r, hr, k⟩ := ho
  exact ⟨PE.imp (pe_cmpR hr ha.pe hb.pe hm) fun σ H Q h => two_ok ha hb k h, quiet_two ha hb⟩
def mVar (i : Nat) : MD := fun γ => match γ[i]? with
  | some (.fz d) => .ok d γ
  | _ => .bad
def mC (d : D) : MD := fun γ => .ok d γ
theorem jd_var (i : Nat) {x : Str} (hN : X.N[i]? = some x := by rfl) (hv : Vis X.env.scope x := by first | exact Or.inl rfl | exact Or.inr (Or.inl rfl) | exact Or.inr (Or.inr rfl)) (hd : (x == ("__debug__" : Str)) = false := by decide)
    (hcd : (x == ("__classdict__" : Str)) = false := by decide) : JD X W true (.Name x pos) (mVar i) := by
  refine ⟨PE.imp (pe_var hN hv hd hcd) fun σ H Q ⟨pv, A, γ, S, E, w⟩ => ?_, fun _ γ => ?_⟩
  · unfold mVar at w
    split at w
    · rename_i d e
      obtain ⟨v, h1, h2⟩ := E.fz e
      exact ⟨v, h1, w v H S .refl (fun _ => ⟨rfl, .refl H⟩) E h2⟩
    · exact w.elim
  · unfold mVar
    split <;> rename_i h
    · split at h
      · cases h; rfl
      · cases h
    · split at h <;> cases h
    · trivial
theorem jd_c {d : D} {v : V} (h : PE X a (tC v)) (hd : ∀ H U, RD X.K H U d v) : JD X W true a (mC d) :=
  ⟨PE.imp h fun σ H Q ⟨pv, A, γ, S, E, w⟩ => w v H S .refl (fun _ => ⟨rfl, .refl H⟩) E (hd _ _), fun _ => quiet_ok d⟩
theorem jd_int {i : Int} {j} : JD X W true (.Constant (.int i) j pos) (mC (.int i)) := jd_c pe_int fun _ _ => rd_int.mpr rfl
theorem jd_bl {i : Bool} {j} : JD X W true (.Constant (.bool i) j pos) (mC (.bool i)) := jd_c pe_bl fun _ _ => rd_bool.mpr rfl
theorem jd_non {j} : JD X W true (.Constant .none j pos) (mC .none) := jd_c pe_non fun _ _ => rd_none.mpr rfl
theorem jd_str {x : Str} {j} : JD X W true (.Constant (.str x) j pos) (mC (.str x)) := jd_c pe_str fun _ _ => rd_str.mpr rfl
theorem jd_glob {x : Str} {d : D} {v : V} {u : Value} (hg : Gl X x) (hm : X.mg x = some u) (r : RelV v u) (hd : ∀ H U, RD X.K H U d v) (hdb : (x == ("__debug__" : Str)) = false := by decide) : JD X W true (.Name x pos) (mC d) :=
  jd_c (pe_glob hg hm r hdb) hd
end

def small64 (i : Int) : Bool := decide (i.natAbs < 18446744073709551616)
def mulOk (i j : Int) : Bool := small64 i || small64 j || decide (i.natAbs.log2 + j.natAbs.log2 < 1000000)
def gAdd : D → D → Option D
  | .int a, .int b => some (.int (a + b))
  | .str a, .str b => if a.length + b.length ≤ sizeLine then some (.str (a ++ b)) else none
  | .list a, .list b => if a.length + b.length ≤ sizeLine then some (.list (a ++ b)) else none
  | .tuple a, .tuple b => if a.length + b.length ≤ sizeLine then some (.tuple (a ++ b)) else none
  | _, _ => none
def gSub : D → D → Option D
  | .int a, .int b => some (.int (a - b))
  | _, _ => none
def gMul : D → D → Option D
  | .int a, .int b => if mulOk a b = true then some (.int (a * b)) else none
  | .list a, .int k => if k.natAbs < 9223372036854775808 ∧ a.length * k.toNat ≤ sizeLine then some (.list (List.replicate k.toNat a).flatten) else none
  | _, _ => none
def gDiv : D → D → Option D
  | .int a, .int b => if 0 < b ∧ b.natAbs.log2 < 9000 then some (.int (a / b)) else none
  | _, _ => none
def gMod : D → D → Option D
  | .int a, .int b => if 0 < b then some (.int (a % b)) else none
  | _, _ => none
def gPow : D → D → Option D
  | .int a, .int b => if 0 ≤ b ∧ b ≤ 1000000 ∧ a.natAbs < 18446744073709551616 then some (.int (a ^ b.toNat)) else none
  | _, _ => none
def gNeg : D → Option D
  | .int a => some (.int (-a))
  | _ => none
def gLt : D → D → Option D
  | .int a, .int b => some (.bool (decide (a < b)))
  | _, _ => none
def gLe : D → D → Option D
  | .int a, .int b => some (.bool (decide (a ≤ b)))
  | _, _ => none
def gGt : D → D → Option D
  | .int a, .int b => some (.bool (decide (b < a)))
  | _, _ => none
def gGe : D → D → Option D
  | .int a, .int b => some (.bool (decide (b ≤ a)))
  | _, _ => none
def deq (d e : D) : Bool := PyData.eqv d e
def gEq (d e : D) : Option D := if SeqAt.shaped d = true ∧ SeqAt.shaped e = true then some (.bool (deq d e)) else none
def gNe (d e : D) : Option D := if SeqAt.shaped d = true ∧ SeqAt.shaped e = true then some (.bool (!deq d e)) else none
def isN : D → Bool
  | .none => true
  | _ => false
def gIs : D → D → Option D
  | d, .none => some (.bool (isN d))
  | _, _ => none
def gIsNot : D → D → Option D
  | d, .none => some (.bool (!isN d))
  | _, _ => none
def flatD : D → Bool
  | .none => true
  | .bool _ => true
  | .int _ => true
  | .str _ => true
  | _ => false
def inD (d : D) (ds : List D) : Bool := ds.any fun z => deq z d
def gIn : D → D → Option D
  | d, .list ds => if SeqAt.shaped d = true ∧ SeqAt.shaped (.list ds) = true then some (.bool (inD d ds)) else none
  | d, .tuple ds => if flatD d = true ∧ ds.all flatD = true then some (.bool (inD d ds)) else none
  | .str x, .str y => some (.bool (!(Builtin.Str.occurrences y x 0 y.length 1).isEmpty))
  | _, _ => none
def gNot : D → Option D
  | .bool b => some (.bool (!b))
  | _ => none
def gNotIn (d e : D) : Option D := (gIn d e).bind gNot

section
variable {X : Cx}
theorem od_int {f : Value → Value → Sem Value} {C : Int → Int → Prop} {o : Int → Int → V} {r : D → D → Option D} (ho : OpR X f (rI C o)) (k : ∀ d e res, r d e = some res → ∃ a b, d = .int a ∧ e = .int b ∧ C a b ∧ ∀ H U, RD X.K H U res (o a b)) : OpD X f r := by
  refine ⟨_, ho, fun U H d e x y res Q hU rx ry hg q => ?_⟩
  obtain ⟨a, b, rfl, rfl, c, rr⟩ := k d e res hg
  rw [rd_int] at rx ry
  exact ⟨a, b, rx, ry, c, q _ H (.refl H) (rr H U)⟩
theorem od_int0 {f : Value → Value → Sem Value} {o : Int → Int → V} {r : D → D → Option D} (ho : OpR X f (rI0 o)) (k : ∀ d e res, r d e = some res → ∃ a b, d = .int a ∧ e = .int b ∧ ∀ H U, RD X.K H U res (o a b)) : OpD X f r := by
  refine ⟨_, ho, fun U H d e x y res Q hU rx ry hg q => ?_⟩
  obtain ⟨a, b, rfl, rfl, rr⟩ := k d e res hg
  rw [rd_int] at rx ry
  exact ⟨a, b, rx, ry, q _ H (.refl H) (rr H U)⟩
theorem od_sub : OpD X (binaryOp .Sub) gSub := od_int0 op_sub fun d e res h => by
  unfold gSub at h
  split at h <;> cases h
  exact ⟨_, _, rfl, rfl, fun _ _ => rd_int.mpr rfl⟩
theorem od_mod : OpD X (binaryOp .Mod) gMod := od_int op_mod fun d e res h => by
  unfold gMod at h
  split at h <;> try cases h
  split at h <;> cases h
  exact ⟨_, _, rfl, rfl, ‹_›, fun _ _ => rd_int.mpr rfl⟩
theorem od_div : OpD X (binaryOp .FloorDiv) gDiv := od_int op_fdivW fun d e res h => by
  unfold gDiv at h
  split at h <;> try cases h
  split at h <;> cases h
  exact ⟨_, _, rfl, rfl, ‹_›, fun _ _ => rd_int.mpr rfl⟩
theorem od_pow : OpD X (binaryOp .Pow) gPow := od_int op_pow fun d e res h => by
  unfold gPow at h
  split at h <;> try cases h
  split at h <;> cases h
  exact ⟨_, _, rfl, rfl, ‹_›, fun _ _ => rd_int.mpr rfl⟩
theorem od_lt : OpD X (compareOp .Lt) gLt := od_int0 op_lt fun d e res h => by
  unfold gLt at h
  split at h <;> cases h
  exact ⟨_, _, rfl, rfl, fun _ _ => rd_bool.mpr rfl⟩
theorem od_gt : OpD X (compareOp .Gt) gGt := od_int0 op_gt fun d e res h => by
  unfold gGt at h
  split at h <;> cases h
  exact ⟨_, _, rfl, rfl, fun _ _ => rd_bool.mpr rfl⟩
theorem od_ge : OpD X (compareOp .GtE) gGe := od_int0 op_ge fun d e res h => by
  unfold gGe at h
  split at h <;> cases h
  exact ⟨_, _, rfl, rfl, fun _ _ => rd_bool.mpr rfl⟩
theorem od_mul : OpD X (binaryOp .Mult) gMul := by
  refine ⟨_, (op_mul.or op_mulW).or op_rep, fun U H d e x y res Q hU rx ry hg q => ?_⟩
  unfold gMul at hg
  split at hg
  · split at hg <;> cases hg
    rename_i a b h
    rw [rd_int] at rx ry
    unfold mulOk small64 at h
    rw [Bool.or_eq_true, Bool.or_eq_true] at h
    have fin := q _ H (.refl H) (rd_int.mpr rfl)
    rcases h with (h | h) | h
    · exact .inl (.inl ⟨a, b, rx, ry, .inl (by have := of_decide_eq_true h; omega), fin⟩)
    · exact .inl (.inl ⟨a, b, rx, ry, .inr (by have := of_decide_eq_true h; omega), fin⟩)
    · exact .inl (.inr ⟨a, b, rx, ry, (of_decide_eq_true h : a.natAbs.log2 + b.natAbs.log2 < 1000000), fin⟩)
  · split at hg <;> cases hg
    rename_i ds k h
    rw [rd_int] at ry
    obtain ⟨p, xs, e, hp, u, r⟩ := rd_lst rx
    refine .inr ⟨p, k, xs, e, ry, hp, (by have := h.1; omega), (by have := h.1; omega), by rw [r.length]; exact h.2, fun p hp => q _ _ (same_new hp) (rd_newL (RDs.rep r k.toNat) hp hU)⟩
  · cases hg
theorem od_add : OpD X (binaryOp .Add) gAdd := by
  refine ⟨_, ((op_add.or op_add_str).or op_cat).or op_catA, fun U H d e x y res Q hU rx ry hg q => ?_⟩
  unfold gAdd at hg
  split at hg
  · cases hg
    rw [rd_int] at rx ry
    exact .inl (.inl (.inl ⟨_, _, rx, ry, q _ H (.refl H) (rd_int.mpr rfl)⟩))
  · split at hg <;> cases hg
    rename_i h
    rw [rd_str] at rx ry
    exact .inl (.inl (.inr ⟨_, _, rx, ry, h, q _ H (.refl H) (rd_str.mpr rfl)⟩))
  · split at hg <;> cases hg
    rename_i h
    obtain ⟨p1, xs, e1, h1, u1, r1⟩ := rd_lst rx
    obtain ⟨p2, ys, e2, h2, u2, r2⟩ := rd_lst ry
    exact .inl (.inr ⟨p1, p2, xs, ys, e1, e2, h1, h2, by rw [r1.length, r2.length]; exact h, fun p hp => q _ _ (same_new hp) (rd_newL (r1.append r2) hp hU)⟩)
  · split at hg <;> cases hg
    rename_i as bs h
    obtain ⟨p1, xs, e1, h1, r1⟩ := rd_tup rx
    obtain ⟨p2, ys, e2, h2, r2⟩ := rd_tup ry
    refine .inr ⟨p1, p2, xs, ys, e1, e2, h1, h2, by rw [r1.length, r2.length]; exact h, fun z => ?_, fun z z2 => ?_, fun _ _ p hp => q _ _ (same_new hp) (rd_newT (r1.append r2) hp)⟩
    · have la : as = [] := by
        have := r1.length
        rw [z] at this
        exact List.length_eq_zero_iff.mp this.symm
      have rr : RD X.K H U (.tuple (as ++ bs)) y := by rw [la]; exact ry
      rw [e2] at rr
      exact q _ H (.refl H) rr
    · have lb : bs = [] := by
        have := r2.length
        rw [z2] at this
        exact List.length_eq_zero_iff.mp this.symm
      have rr : RD X.K H U (.tuple (as ++ bs)) x := by rw [lb, List.append_nil]; exact rx
      rw [e1] at rr
      exact q _ H (.refl H) rr
  · cases hg
theorem shaped_lay {d : D} (h : SeqAt.shaped d = true) : PyData.canLay0 d = true := SeqAt.canLay_of_shaped h
theorem od_eq (hu : X.A.units + 65 < cLine) : OpD X (compareOp .Eq) gEq := by
  refine ⟨_, op_eqD (by omega), fun U H d e x y res Q hU rx ry hg q => ?_⟩
  unfold gEq at hg
  split at hg <;> cases hg
  rename_i h
  exact ⟨d, e, rx.dp _ _ (shaped_lay h.1), ry.dp _ _ (shaped_lay h.2), h.1, h.2, q _ H (.refl H) (rd_bool.mpr rfl)⟩
theorem od_ne (hu : X.A.units + 65 < cLine) : OpD X (compareOp .NotEq) gNe := by
  refine ⟨_, op_neD (by omega), fun U H d e x y res Q hU rx ry hg q => ?_⟩
  unfold gNe at hg
  split at hg <;> cases hg
  rename_i h
  exact ⟨d, e, rx.dp _ _ (shaped_lay h.1), ry.dp _ _ (shaped_lay h.2), h.1, h.2, q _ H (.refl H) (rd_bool.mpr rfl)⟩
theorem rd_isN {K : Fr} {H : Hp} {U : Addr → Prop} {d : D} {x : V} (h : RD K H U d x) : decide (x = .non) = isN d := by
  cases d with
  | none => rw [rd_none] at h; rw [h]; rfl
  | bool b => rw [rd_bool] at h; rw [h]; rfl
  | int b => rw [rd_int] at h; rw [h]; rfl
  | str b => rw [rd_str] at h; rw [h]; rfl
  | tuple b =>
    obtain ⟨_, _, e, _⟩ := rd_tup h
    rw [e]; rfl
  | list b =>
    obtain ⟨_, _, e, _⟩ := rd_lst h
    rw [e]; rfl
  | dict b =>
    rw [RD] at h
    obtain ⟨_, e, _⟩ := h
    rw [e]; rfl
theorem od_is : OpD X (compareOp .Is) gIs := by
  refine ⟨_, op_isN, fun U H d e x y res Q hU rx ry hg q => ?_⟩
  unfold gIs at hg
  split at hg <;> cases hg
  exact ⟨rd_none.mp ry, q _ H (.refl H) (rd_bool.mpr (by rw [rd_isN rx]))⟩
theorem rd_flat {K : Fr} {H : Hp} {U : Addr → Prop} {d : D} {x : V} (h : RD K H U d x) (f : flatD d = true) : flatV x = true ∧ ∀ (e : D) (y : V), RD K H U e y → flatD e = true → eqV x y = deq d e := by
  cases d with
  | none =>
    rw [rd_none] at h
    subst h
    refine ⟨rfl, fun e y r g => ?_⟩
    cases e <;> simp [flatD] at g <;> simp only [rd_none, rd_bool, rd_int, rd_str] at r <;> subst r <;> simp [eqV, deq, PyData.eqv]
  | bool b =>
    rw [rd_bool] at h
    subst h
    refine ⟨rfl, fun e y r g => ?_⟩
    cases e <;> simp [flatD] at g <;> simp only [rd_none, rd_bool, rd_int, rd_str] at r <;> subst r <;> simp [eqV, deq, PyData.eqv]
  | int b =>
    rw [rd_int] at h
    subst h
    refine ⟨rfl, fun e y r g => ?_⟩
    cases e <;> simp [flatD] at g <;> simp only [rd_none, rd_bool, rd_int, rd_str] at r <;> subst r <;> simp [eqV, deq, PyData.eqv]
  | str b =>
    rw [rd_str] at h
    subst h
    refine ⟨rfl, fun e y r g => ?_⟩
    cases e <;> simp [flatD] at g <;> simp only [rd_none, rd_bool, rd_int, rd_str] at r <;> subst r <;> simp [eqV, deq, PyData.eqv]
  | tuple b => simp [flatD] at f
  | list b => simp [flatD] at f
  | dict b => simp [flatD] at f
theorem rds_flat {K : Fr} {H : Hp} {U : Addr → Prop} {d : D} {x : V} (hx : RD K H U d x) (fx : flatD d = true) : ∀ {ds : List D} {xs : List V}, RDs K H U ds xs → ds.all flatD = true → xs.all flatV = true ∧ inV x xs = inD d ds
  | [], _, h, _ => by rw [RDs] at h; rw [h]; exact ⟨rfl, rfl⟩
  | e :: ds, _, h, f => by
    rw [RDs] at h
    obtain ⟨v, ws, e1, r, q⟩ := h
    rw [List.all_cons, Bool.and_eq_true] at f
    obtain ⟨h1, h2⟩ := rds_flat hx fx q f.2
    have z := (rd_flat r f.1)
    refine ⟨by rw [e1, List.all_cons, z.1, h1]; rfl, ?_⟩
    rw [e1]
    unfold inV inD at *
    rw [List.any_cons, List.any_cons, h2, z.2 d x hx fx]
theorem gIn_dp {K : Fr} {H : Hp} {U : Addr → Prop} {ds : List D} {y : V} (h : RD K H U (.list ds) y) (hs : SeqAt.shaped (.list ds) = true) : Dp K H y (.list ds) := RD.dp _ _ h (shaped_lay hs)
theorem od_notin (hu : X.A.units + 65 < cLine) : OpD X (compareOp .NotIn) gNotIn := by
  refine ⟨_, ((op_notInD hu).or op_notIn_seq).or op_notIn_str, fun U H d e x y res Q hU rx ry hg q => ?_⟩
  unfold gNotIn gIn at hg
  split at hg
  · split at hg <;> simp only [Option.bind_some, Option.bind_none, gNot] at hg <;> cases hg
    rename_i h
    exact .inl (.inl ⟨d, _, rx.dp _ _ (shaped_lay h.1), gIn_dp ry h.2, h.1, h.2, q _ H (.refl H) (rd_bool.mpr rfl)⟩)
  · split at hg <;> simp only [Option.bind_some, Option.bind_none, gNot] at hg <;> cases hg
    rename_i h
    obtain ⟨p2, ys, e2, h2, r2⟩ := rd_tup ry
    obtain ⟨f1, f2⟩ := rds_flat rx h.1 r2 h.2
    refine .inl (.inr ⟨p2, ys, e2, .inr h2, (rd_flat rx h.1).1, f1, ?_⟩)
    rw [if_pos rfl]
    exact q _ H (.refl H) (rd_bool.mpr (by rw [f2]))
  · simp only [Option.bind_some, gNot] at hg
    cases hg
    rw [rd_str] at rx ry
    exact .inr ⟨_, _, rx, ry, q _ H (.refl H) (rd_bool.mpr rfl)⟩
  · cases hg
end
end Tw

namespace Tw
open PySem PySem.Spec L2

def truD : D → Option Bool
  | .none => some false
  | .bool b => some b
  | .int i => some (i != 0)
  | .str x => if x.length ≤ sizeLine then some ((x.length : Int) != 0) else none
  | .list l => some (!l.isEmpty)
  | .tuple l => some (!l.isEmpty)
  | .dict l => if spD l = true then none else some (!l.isEmpty)
def mTru (m : MD) : MT := fun γ => (m γ).bind fun d γ' => ofO (truD d) fun b => .ok b γ'
def blD : D → Option Bool
  | .bool b => some b
  | _ => none
def mBl (m : MD) : MT := fun γ => (m γ).bind fun d γ' => ofO (blD d) fun b => .ok b γ'
theorem rdk_len {K : Fr} {H : Hp} {U : Addr → Prop} : ∀ {ds : List (D × D)} {vs : List (Key × V)}, RKs K H U ds vs → vs.length = ds.length
  | [], _, h => by rw [RKs] at h; rw [h]; rfl
  | (k, d) :: ds, _, h => by
    rw [RKs] at h
    obtain ⟨q, v, ws, e, z, r, y⟩ := h
    rw [e, List.length_cons, List.length_cons, rdk_len y]
theorem emp_len {α β : Type} {l : List α} {m : List β} (h : l.length = m.length) : l.isEmpty = m.isEmpty := by
  cases l <;> cases m <;> simp at h <;> rfl
theorem tru_of {K : Fr} {H : Hp} {U : Addr → Prop} {d : D} {x : V} {b : Bool} (h : RD K H U d x) (e : truD d = some b) : TruV K x H b := by
  cases d with
  | none => rw [rd_none] at h; subst h; cases e; rfl
  | bool c => rw [rd_bool] at h; subst h; cases e; rfl
  | int c => rw [rd_int] at h; subst h; cases e; rfl
  | str c =>
    rw [rd_str] at h
    subst h
    have e' : (if c.length ≤ sizeLine then some ((c.length : Int) != 0) else none) = some b := e
    by_cases hl : c.length ≤ sizeLine
    · rw [if_pos hl] at e'
      cases e'
      exact ⟨hl, rfl⟩
    · rw [if_neg hl] at e'
      cases e'
  | tuple c =>
    obtain ⟨a, xs, e1, q, r⟩ := rd_tup h
    subst e1
    cases e
    exact .inr (.inl ⟨xs, q, by rw [emp_len r.length]⟩)
  | list c =>
    obtain ⟨a, xs, e1, q, u, r⟩ := rd_lst h
    subst e1
    cases e
    exact .inl ⟨xs, SqL.of q, by rw [emp_len r.length]⟩
  | dict c =>
    unfold truD at e
    dsimp only at e
    split at e
    · cases e
    rename_i g
    obtain ⟨a, ks, e1, q, u, r⟩ := rd_dct h (Bool.eq_false_iff.mpr g)
    subst e1
    cases e
    exact .inr (.inr ⟨ks, q, by rw [emp_len (rdk_len r)]⟩)
def mAnd (a b : MT) : MT := fun γ => (a γ).bind fun k γ' => if k = true then b γ' else .ok false γ'
def mOr (a b : MT) : MT := fun γ => (a γ).bind fun k γ' => if k = true then .ok true γ' else b γ'
def mNot (a : MT) : MT := fun γ => (a γ).bind fun k γ' => .ok (!k) γ'

section
variable {K : Fr} {mg : Mg} {W : WX} {pu : Bool} {pv : Pv} {A : Ad} {σ : St} {γ : Γ} {H H1 : Hp} {S S1 : List Addr}
theorem seqT {β : Type} {R : β → Γ → Prop} {m : MT} {k : Bool → Γ → Out β} {Q : Bool → Hp → Prop} (w : WantG R (ErE K mg W pv A σ H S) ((m γ).bind k))
    (h : ∀ d γ1 H1 S1, Go H S H1 S1 → (pu = true → S1 = S ∧ Same H H1) → Env K mg pv A σ γ1 H1 S1 → WantG R (ErE K mg W pv A σ H S) (k d γ1) → Q d H1) : WantT K mg W pu pv A σ H S Q (m γ) :=
  WantG.mono w.bind (fun d γ1 w1 H1 S1 go p E1 => h d γ1 H1 S1 go p E1 w1) fun _ _ q => q
end

section
variable {X : Cx} {W : WX} {pu pu' : Bool} {a b c e : Expr} {rest : List Expr} {ma mb : MD} {mt mu : MT} {pos : Pos} {g g' : D → D → Option D}
theorem jt_truth (h : JD X W pu a ma) (he : ∀ whole, isTrue a X.env whole = (do let v ← whole; standAt a.pos; holding [v] (truthy v)) := by intro _; rfl) : JT X W pu a (mTru ma) := by
  refine ⟨PT.imp (pt_truth h.pe he) fun σ H Q ⟨pv, A, γ, S, E, w⟩ => ⟨pv, A, γ, S, E, seqD w fun d γ1 v H1 S1 go p E1 r w1 => ?_⟩, fun z => quiet_bind (h.quiet z) fun d => quiet_opt _ (fun b γ => Out.ok b γ) fun b => quiet_ok b⟩
  cases q : truD d with
  | none => rw [q] at w1; exact w1.elim
  | some k => rw [q] at w1; exact ⟨k, tru_of r q, w1 H1 S1 go p E1⟩
theorem jt_cmp {op : CmpOp} (ho : OpD X (compareOp op) g) (ha : JD X W pu a ma) (hb : JD X W pu' b mb) (hm : behindInMarks op b = false := by first | exact nomark _ | with_unfolding_all rfl) : JT X W (pu && pu') (.Compare a [op] [b] pos) (mBl (mBin g ma mb)) := by
  obtain ⟨r, hr, k⟩ := ho
  refine ⟨PT.imp (pt_cmpR hr ha.pe hb.pe hm) fun σ H Q ⟨pv, A, γ, S, E, w⟩ => ?_, fun z => quiet_bind (quiet_two ha hb z) fun d => quiet_opt _ (fun b γ => Out.ok b γ) fun b => quiet_ok b⟩
  refine two_ok ha hb k ⟨pv, A, γ, S, E, seqD w fun d γ1 v H1 S1 go p E1 r w1 => ?_⟩
  cases q : blD d with
  | none => rw [q] at w1; exact w1.elim
  | some c =>
    rw [q] at w1
    cases d <;> cases q
    exact ⟨c, rd_bool.mp r, w1 H1 S1 go p E1⟩
theorem jw_and1 (h : JT X W pu a mt) : JW X W pu (.BoolOp .And [a] pos) mt := ⟨pw_and1 h.pe, h.quiet⟩
theorem jw_or1 (h : JT X W pu a mt) : JW X W pu (.BoolOp .Or [a] pos) mt := ⟨pw_or1 h.pe, h.quiet⟩
theorem jw_and (h : JT X W pu a mt) (h2 : JW X W pu' (.BoolOp .And (b :: rest) pos) mu) : JW X W (pu && pu') (.BoolOp .And (a :: b :: rest) pos) (mAnd mt mu) := by
  refine ⟨PW.imp (pw_and h.pe h2.pw) fun σ H Q ⟨pv, A, γ, S, E, w⟩ => ⟨pv, A, γ, S, E, seqT w fun k γ1 H1 S1 go p E1 w1 => ?_⟩, fun z => ?_⟩
  · cases k with
    | true => exact ⟨pv, A, γ1, S1, E1, WantT.at go p w1⟩
    | false => exact w1 H1 S1 go (fun z => p (by rw [Bool.and_eq_true] at z; exact z.1)) E1
  · rw [Bool.and_eq_true] at z
    exact quiet_bind (h.quiet z.1) fun k => quiet_ite k (h2.quiet z.2) (quiet_ok false)
theorem jw_or (h : JT X W pu a mt) (h2 : JW X W pu' (.BoolOp .Or (b :: rest) pos) mu) : JW X W (pu && pu') (.BoolOp .Or (a :: b :: rest) pos) (mOr mt mu) := by
  refine ⟨PW.imp (pw_or h.pe h2.pw) fun σ H Q ⟨pv, A, γ, S, E, w⟩ => ⟨pv, A, γ, S, E, seqT w fun k γ1 H1 S1 go p E1 w1 => ?_⟩, fun z => ?_⟩
  · cases k with
    | true => exact w1 H1 S1 go (fun z => p (by rw [Bool.and_eq_true] at z; exact z.1)) E1
    | false => exact ⟨pv, A, γ1, S1, E1, WantT.at go p w1⟩
  · rw [Bool.and_eq_true] at z
    exact quiet_bind (h.quiet z.1) fun k => quiet_ite k (quiet_ok true) (h2.quiet z.2)
theorem jt_not (h : JT X W pu a mt) : JT X W pu (.UnaryOp .Not a pos) (mNot mt) := by
  refine ⟨PT.imp (pt_not h.pe) fun σ H Q ⟨pv, A, γ, S, E, w⟩ => ⟨pv, A, γ, S, E, seqT w fun k γ1 H1 S1 go p E1 w1 => w1 H1 S1 go p E1⟩, fun z => quiet_bind (h.quiet z) fun k => quiet_ok _⟩
def mAndV (a b : MD) : MD := fun γ => (a γ).bind fun d γ' => ofO (truD d) fun k => if k = true then b γ' else .ok d γ'
def mOrV (a b : MD) : MD := fun γ => (a γ).bind fun d γ' => ofO (truD d) fun k => if k = true then .ok d γ' else b γ'
def mNotV (a : MD) : MD := fun γ => (a γ).bind fun d γ' => ofO (truD d) fun k => .ok (.bool (!k)) γ'
theorem jd_one {op} (h : JD X W pu a ma) : JD X W pu (.BoolOp op [a] pos) ma := ⟨pe_one h.pe, h.quiet⟩
theorem jd_and (h : JD X W pu a ma) (h2 : JD X W pu' (.BoolOp .And (b :: rest) pos) mb) : JD X W (pu && pu') (.BoolOp .And (a :: b :: rest) pos) (mAndV ma mb) := by
  refine ⟨PE.imp (pe_andT h.pe h2.pe) fun σ H Q ⟨pv, A, γ, S, E, w⟩ => ⟨pv, A, γ, S, E, seqD w fun d γ1 v H1 S1 go p E1 r w1 => ?_⟩, fun z => ?_⟩
  · cases q : truD d with
    | none => rw [q] at w1; exact w1.elim
    | some k =>
      rw [q] at w1
      refine ⟨k, tru_of r q, ?_⟩
      cases k with
      | true => exact ⟨pv, A, γ1, S1, E1, WantD.at go p w1⟩
      | false => exact w1 v H1 S1 go (fun z => p (by rw [Bool.and_eq_true] at z; exact z.1)) E1 r
  · rw [Bool.and_eq_true] at z
    exact quiet_bind (h.quiet z.1) fun d => quiet_opt (truD d) (fun k γ => if k = true then mb γ else Out.ok d γ) fun k => quiet_ite k (h2.quiet z.2) (quiet_ok d)
theorem jd_or (h : JD X W pu a ma) (h2 : JD X W pu' (.BoolOp .Or (b :: rest) pos) mb) : JD X W (pu && pu') (.BoolOp .Or (a :: b :: rest) pos) (mOrV ma mb) := by
  refine ⟨PE.imp (pe_orT h.pe h2.pe) fun σ H Q ⟨pv, A, γ, S, E, w⟩ => ⟨pv, A, γ, S, E, seqD w fun d γ1 v H1 S1 go p E1 r w1 => ?_⟩, fun z => ?_⟩
  · cases q : truD d with
    | none => rw [q] at w1; exact w1.elim
    | some k =>
      rw [q] at w1
      refine ⟨k, tru_of r q, ?_⟩
      cases k with
      | true => exact w1 v H1 S1 go (fun z => p (by rw [Bool.and_eq_true] at z; exact z.1)) E1 r
      | false => exact ⟨pv, A, γ1, S1, E1, WantD.at go p w1⟩
  · rw [Bool.and_eq_true] at z
    exact quiet_bind (h.quiet z.1) fun d => quiet_opt (truD d) (fun k γ => if k = true then Out.ok d γ else mb γ) fun k => quiet_ite k (quiet_ok d) (h2.quiet z.2)
theorem jd_not (h : JD X W pu a ma) : JD X W pu (.UnaryOp .Not a pos) (mNotV ma) := by
  refine ⟨PE.imp (pe_notT h.pe) fun σ H Q ⟨pv, A, γ, S, E, w⟩ => ⟨pv, A, γ, S, E, seqD w fun d γ1 v H1 S1 go p E1 r w1 => ?_⟩, fun z => quiet_bind (h.quiet z) fun d => quiet_opt (truD d) (fun k γ => Out.ok (PyData.bool (!k)) γ) fun k => quiet_ok _⟩
  cases q : truD d with
  | none => rw [q] at w1; exact w1.elim
  | some k =>
    rw [q] at w1
    exact ⟨k, tru_of r q, w1 _ H1 S1 go p E1 (rd_bool.mpr rfl)⟩
def gIx : D → D → Option D
  | .list ds, .int i => atI ds i
  | .tuple ds, .int i => atI ds i
  | .str z, .int i => if z.length ≤ sizeLine then (atI z.cps.toList i).map fun c => .str ⟨#[c]⟩ else none
  | _, _ => none
theorem rds_atI {K : Fr} {H : Hp} {U : Addr → Prop} {ds : List D} {vs : List V} {i : Int} {d : D} (h : RDs K H U ds vs) (e : atI ds i = some d) : ∃ v, atI vs i = some v ∧ RD K H U d v := by
  unfold atI at e ⊢
  rw [h.length]
  cases q : ixN ds.length i with
  | none => rw [q] at e; cases e
  | some j => rw [q] at e; exact h.get e
theorem jd_ix (ha : JD X W pu a ma) (hb : JD X W pu' b mb) (hs : PlainIx b := by intro _ _; rfl) : JD X W (pu && pu') (.Subscript a b pos) (mBin gIx ma mb) := by
  refine ⟨PE.imp (pe_ix ix_seq ha.pe hb.pe hs) fun σ H Q h => two_ok ha hb (fun U H d e x y res Q hU rx ry hg q => ?_) h, quiet_two ha hb⟩
  unfold gIx at hg
  split at hg
  · rw [rd_int] at ry
    obtain ⟨p, xs, e1, h1, u, r⟩ := rd_lst rx
    obtain ⟨v, h2, h3⟩ := rds_atI r hg
    exact .inl ⟨p, xs, _, v, e1, ry, SqL.of h1, h2, q v H (.refl H) h3⟩
  · rw [rd_int] at ry
    obtain ⟨p, xs, e1, h1, r⟩ := rd_tup rx
    obtain ⟨v, h2, h3⟩ := rds_atI r hg
    exact .inr (.inl ⟨p, xs, _, v, e1, ry, h1, h2, q v H (.refl H) h3⟩)
  · rw [rd_int] at ry
    rw [rd_str] at rx
    split at hg
    · rename_i z i h
      cases q1 : atI z.cps.toList i with
      | none => rw [q1] at hg; cases hg
      | some c =>
        rw [q1] at hg
        cases hg
        exact .inr (.inr ⟨z, i, c, rx, ry, h, q1, q _ H (.refl H) (rd_str.mpr rfl)⟩)
    · cases hg
  · cases hg
end
end Tw

namespace Tw
open PySem PySem.Spec L2

def gSl (lo hi : Option Int) : D → Option D
  | .list ds => some (.list ((ds.drop (HT.sIx ds.length 0 lo)).take (HT.sIx ds.length ds.length hi - HT.sIx ds.length 0 lo)))
  | .tuple ds => some (.tuple ((ds.drop (HT.sIx ds.length 0 lo)).take (HT.sIx ds.length ds.length hi - HT.sIx ds.length 0 lo)))
  | .str z => if z.length ≤ sizeLine then some (.str (cutS z lo hi)) else none
  | _ => none
section
variable (K : Fr) (mg : Mg) (W : WX)
def WantO (pu : Bool) (pv : Pv) (A : Ad) (σ : St) (H : Hp) (S : List Addr) (Q : Option Int → Hp → Prop) : Out (Option Int) → Prop :=
  WantG (fun b γ' => ∀ H' S', Go H S H' S' → (pu = true → S' = S ∧ Same H H') → Env K mg pv A σ γ' H' S' → Q b H') (ErE K mg W pv A σ H S)
def tO (pu : Bool) (m : MO) : TO := fun σ H Q => ∃ pv A γ S, Env K mg pv A σ γ H S ∧ WantO K mg W pu pv A σ H S Q (m γ)
def tDs (pu : Bool) (m : Γ → Out (List D)) : TA := fun σ H Q => ∃ pv A γ S, Env K mg pv A σ γ H S ∧ WantDs K mg W pu pv A σ H S Q (m γ)
end
structure JO (X : Cx) (W : WX) (pu : Bool) (e : Option Expr) (m : MO) : Prop where
  po : PO X e (tO X.K X.mgw W pu m)
  quiet : pu = true → Quiet m
structure JDs (X : Cx) (W : WX) (pu : Bool) (es : List Expr) (m : Γ → Out (List D)) : Prop where
  pa : PA X es (tDs X.K X.mgw W pu m)
  quiet : pu = true → Quiet m
def intD : D → Option Int
  | .int i => some i
  | _ => none
def mNo : MO := fun γ => .ok none γ
def mSo (m : MD) : MO := fun γ => (m γ).bind fun d γ' => ofO (intD d) fun i => .ok (some i) γ'
def mSl (ma : MD) (ml mh : MO) : MD := fun γ => (ma γ).bind fun d γ1 => (ml γ1).bind fun lo γ2 => (mh γ2).bind fun hi γ3 => ofO (gSl lo hi d) fun r => .ok r γ3
section
variable {K : Fr} {mg : Mg} {W : WX} {pu : Bool} {pv : Pv} {A : Ad} {σ : St} {γ : Γ} {H H1 : Hp} {S S1 : List Addr}
theorem seqO' {β : Type} {R : β → Γ → Prop} {m : MO} {k : Option Int → Γ → Out β} {Q : Option Int → Hp → Prop} (g : Go H S H1 S1) (w : WantG R (ErE K mg W pv A σ H S) ((m γ).bind k))
    (h : ∀ d γ1 H2 S2, Go H1 S1 H2 S2 → (pu = true → S2 = S1 ∧ Same H1 H2) → Env K mg pv A σ γ1 H2 S2 → WantG R (ErE K mg W pv A σ H S) (k d γ1) → Q d H2) : WantO K mg W pu pv A σ H1 S1 Q (m γ) :=
  WantG.mono w.bind (fun d γ1 w1 H1 S1 go p E1 => h d γ1 H1 S1 go p E1 w1) fun _ _ q => q.go g
theorem seqDs {β : Type} {R : β → Γ → Prop} {m : Γ → Out (List D)} {k : List D → Γ → Out β} {Q : List V → Hp → Prop} (w : WantG R (ErE K mg W pv A σ H S) ((m γ).bind k))
    (h : ∀ d γ1 v H1 S1, Go H S H1 S1 → (pu = true → S1 = S ∧ Same H H1) → Env K mg pv A σ γ1 H1 S1 → RDs K H1 (us A S1) d v → WantG R (ErE K mg W pv A σ H S) (k d γ1) → Q v H1) : WantDs K mg W pu pv A σ H S Q (m γ) :=
  WantG.mono w.bind (fun d γ1 w1 v H1 S1 go p E1 r => h d γ1 v H1 S1 go p E1 r w1) fun _ _ q => q
end
section
variable {X : Cx} {W : WX} {pu pu' pu2 : Bool} {a b c e : Expr} {es : List Expr} {lo hi : Option Expr} {ma mb : MD} {ml mh : MO} {pos p2 : Pos}
theorem jo_none : JO X W true none mNo := ⟨PO.imp po_none fun σ H Q ⟨pv, A, γ, S, E, w⟩ => w H S .refl (fun _ => ⟨rfl, .refl H⟩) E, fun _ => quiet_ok none⟩
theorem jo_some (h : JD X W pu a ma) : JO X W pu (some a) (mSo ma) := by
  refine ⟨PO.imp (po_some h.pe) fun σ H Q ⟨pv, A, γ, S, E, w⟩ => ⟨pv, A, γ, S, E, seqD w fun d γ1 v H1 S1 go p E1 r w1 => ?_⟩, fun z => quiet_bind (h.quiet z) fun d => quiet_opt _ (fun i γ => Out.ok (some i) γ) fun i => quiet_ok _⟩
  cases q : intD d with
  | none => rw [q] at w1; exact w1.elim
  | some i =>
    rw [q] at w1
    cases d <;> cases q
    exact ⟨i, rd_int.mp r, w1 H1 S1 go p E1⟩
theorem jd_slice (ha : JD X W pu a ma) (hl : JO X W pu' lo ml) (hh : JO X W pu2 hi mh) : JD X W (pu && (pu' && pu2)) (.Subscript a (.Slice lo hi none p2) pos) (mSl ma ml mh) := by
  refine ⟨PE.imp (pe_slice ((sl_list.or sl_tupA).or sl_str) ha.pe hl.po hh.po) fun σ H Q ⟨pv, A, γ, S, E, w⟩ => ⟨pv, A, γ, S, E, seqD w fun d γ1 x H1 S1 go1 p1 E1 r1 w1 => ?_⟩, fun z => ?_⟩
  · refine ⟨pv, A, γ1, S1, E1, seqO' go1 w1 fun l γ2 H2 S2 go2 p2 E2 w2 => ?_⟩
    refine ⟨pv, A, γ2, S2, E2, seqO' (go1.trans go2) w2 fun u γ3 H3 S3 go3 p3 E3 w3 => ?_⟩
    have r3 := RD.keep (E2.keep go3) d x (RD.keep (E1.keep go2) d x r1)
    cases q : gSl l u d with
    | none => rw [q] at w3; exact w3.elim
    | some res =>
      rw [q] at w3
      have fin : ∀ v H', Same H3 H' → RD X.K H' (us A S3) res v → Q v H' := fun v H' sm rv =>
        w3 v H' S3 (((go1.trans go2).trans go3).trans (Go.same sm)) (fun z => let ⟨a, b⟩ := pure2 p1 (pure2 p2 p3) z; ⟨a, b.trans sm⟩) (E3.same sm) rv
      unfold gSl at q
      split at q
      · cases q
        obtain ⟨p, xs, e1, h1, u1, r⟩ := rd_lst r3
        refine .inl (.inl ⟨p, xs, e1, SqL.of h1, fun p hp => fin _ _ (same_new hp) (rd_newL ?_ hp E3.here)⟩)
        unfold cutV
        rw [r.length]
        exact (r.drop _).take _
      · cases q
        obtain ⟨p, xs, e1, h1, r⟩ := rd_tup r3
        refine .inl (.inr ⟨p, xs, e1, h1, fun hw => fin _ _ (.refl _) ?_, fun hw p hp => fin _ _ (same_new hp) (rd_newT ?_ hp)⟩)
        · rw [r.length] at hw
          rw [hw.1, hw.2, List.drop_zero, Nat.sub_zero, List.take_length]
          rw [e1] at r3
          exact r3
        · unfold cutV
          rw [r.length]
          exact (r.drop _).take _
      · split at q <;> cases q
        rw [rd_str] at r3
        exact .inr ⟨_, r3, ‹_›, fin _ _ (.refl _) (rd_str.mpr rfl)⟩
      · cases q
  · rw [Bool.and_eq_true, Bool.and_eq_true] at z
    exact quiet_bind (ha.quiet z.1) fun d => quiet_bind (hl.quiet z.2.1) fun l => quiet_bind (hh.quiet z.2.2) fun u => quiet_opt _ (fun r γ => Out.ok r γ) fun r => quiet_ok r

def aNil : Γ → Out (List D) := fun γ => .ok [] γ
def aCons (ma : MD) (ms : Γ → Out (List D)) : Γ → Out (List D) := fun γ => (ma γ).bind fun d γ1 => (ms γ1).bind fun ds γ2 => .ok (d :: ds) γ2
theorem jds_nil : JDs X W true [] aNil := ⟨PA.imp pa_nil fun σ H Q ⟨pv, A, γ, S, E, w⟩ => w [] H S .refl (fun _ => ⟨rfl, .refl H⟩) E (by rw [RDs]), fun _ => quiet_ok _⟩
theorem jds_cons {ms : Γ → Out (List D)} (h : JD X W pu e ma) (hr : JDs X W pu' es ms) (hs : starEach (e :: es) X.env = (false, eval e X.env) :: starEach es X.env := by rfl) : JDs X W (pu && pu') (e :: es) (aCons ma ms) := by
  refine ⟨PA.imp (pa_cons h.pe hr.pa hs) fun σ H Q ⟨pv, A, γ, S, E, w⟩ => ⟨pv, A, γ, S, E, seqD w fun d γ1 x H1 S1 go1 p1 E1 r1 w1 => ?_⟩, fun z => ?_⟩
  · refine ⟨pv, A, γ1, S1, E1, ?_⟩
    refine WantG.mono w1.bind (fun ds γ2 w2 vs H2 S2 go2 p2 E2 r2 => ?_) fun _ _ q => q.go go1
    refine w2 _ H2 S2 (go1.trans go2) (pure2 p1 p2) E2 ?_
    rw [RDs]
    exact ⟨x, vs, rfl, RD.keep (E1.keep go2) d x r1, r2⟩
  · rw [Bool.and_eq_true] at z
    exact quiet_bind (h.quiet z.1) fun d => quiet_bind (hr.quiet z.2) fun ds => quiet_ok _

def CallD (X : Cx) (f : Value) (g : List D → Option D) : Prop :=
  ∃ r, CallR X f r ∧ ∀ (U : Addr → Prop) (H : Hp) (ds : List D) (xs : List V) (res : D) (Q : VK), (∀ a, U a → H a ≠ none) → RDs X.K H U ds xs → g ds = some res → (∀ v H', Same H H' → RD X.K H' U res v → Q v H') → r xs H Q
def mCall (g : List D → Option D) (ms : Γ → Out (List D)) : MD := fun γ => (ms γ).bind fun ds γ1 => ofO (g ds) fun r => .ok r γ1
theorem CallD.or {f : Value} {g g' : List D → Option D} (h : CallD X f g) (h' : CallD X f g') : CallD X f (fun d => (g d).or (g' d)) := by
  obtain ⟨r, hr, k⟩ := h
  obtain ⟨r', hr', k'⟩ := h'
  refine ⟨_, hr.or hr', fun U H ds xs res Q hU rx hg q => ?_⟩
  have hg' : (g ds).or (g' ds) = some res := hg
  cases z : g ds with
  | some w =>
    rw [z] at hg'
    have : w = res := by simpa using hg'
    subst this
    exact .inl (k U H ds xs w Q hU rx z q)
  | none =>
    rw [z] at hg'
    exact .inr (k' U H ds xs res Q hU rx (by simpa using hg') q)
theorem callD_ok {r : List V → Hp → VK → Prop} {ms : Γ → Out (List D)} {g : List D → Option D} (h : JDs X W pu es ms) (k : ∀ (U : Addr → Prop) (H : Hp) (ds : List D) (xs : List V) (res : D) (Q : VK), (∀ a, U a → H a ≠ none) → RDs X.K H U ds xs → g ds = some res → (∀ v H', Same H H' → RD X.K H' U res v → Q v H') → r xs H Q)
    {σ : St} {H : Hp} {Q : VK} (q : tD X.K X.mgw W pu (mCall g ms) σ H Q) : tCB r (tDs X.K X.mgw W pu ms) σ H Q := by
  obtain ⟨pv, A, γ, S, E, w⟩ := q
  refine ⟨pv, A, γ, S, E, seqDs w fun ds γ1 x H1 S1 go1 p1 E1 r1 w1 => ?_⟩
  cases q : g ds with
  | none => rw [q] at w1; exact w1.elim
  | some res =>
    rw [q] at w1
    refine k (us A S1) H1 ds x res Q E1.here r1 q fun v H' sm rv => ?_
    exact w1 v H' S1 (go1.trans (Go.same sm)) (fun z => ⟨(p1 z).1, (p1 z).2.trans sm⟩) (E1.same sm) rv
theorem new_ok {K : Fr} {mg : Mg} {pv : Pv} {A : Ad} {σ : St} {γ1 : Γ} {H H1 H' : Hp} {S S1 T : List Addr} {res : M} {v : V} {Q : VK} (go1 : Go H S H1 S1) (p1 : pu = true → S1 = S ∧ Same H H1) (E1 : Env K mg pv A σ γ1 H1 S1) (sm : Same H1 H') (n1 : ∀ b ∈ T, H1 b = none) (n2 : ∀ b ∈ T, H' b ≠ none)
    (nd : T.Nodup) (rm : RM K mg H' (adT (us A S1) T) res v T)
    (w : ∀ v H' S' T, Go H S H' (T ++ S') → (pu = true → S' = S ∧ Same H H') → Env K mg pv (adT A T) σ γ1 H' S' → RM K mg H' (us (adT A T) S') res v T → T.Nodup → Q v H') : Q v H' := by
  refine w v H' S1 T ⟨fun b o e hn => sm b o (go1.obj b o e hn), fun b hb => ?_, fun b hb => (Go.same (S := S1) sm).keep b (go1.keep b hb)⟩ (fun z => ⟨(p1 z).1, (p1 z).2.trans sm⟩) (E1.more sm n1 n2) (rm.same fun b hb hu => ?_) nd
  · rcases List.mem_append.mp hb with hb | hb
    · refine .inr ?_
      cases q : H b with
      | none => rfl
      | some o => exact absurd (n1 b hb) (go1.keep b (by rw [q]; exact (fun z => nomatch z)))
    · exact go1.new b hb
  · rcases hu with (z | z) | z
    · exact .inl (.inl z)
    · exact .inr z
    · exact .inl (.inr z)
theorem quiet_call {ms : Γ → Out (List D)} {β : Type} {g : List D → Option β} (h : JDs X W pu es ms) : pu = true → Quiet (fun γ => (ms γ).bind fun ds γ1 => ofO (g ds) fun r => Out.ok r γ1) := fun z => quiet_bind (h.quiet z) fun ds => quiet_opt _ (fun r γ => Out.ok r γ) fun r => quiet_ok r
theorem jd_callB {x : Str} {id : String} {p : Pos} {ms : Γ → Out (List D)} {g : List D → Option D} (hc : CallD X (.builtin id) g) (hg : Gl X x) (hm : X.mg x = none) (hv : bootBuiltins x = some (.builtin id)) (ha : JDs X W pu (e :: es) ms) (hn : x ≠ "__name__" := by decide) (hdb : (x == ("__debug__" : Str)) = false := by decide)
    (he : starEach (e :: es) X.env = (false, eval e X.env) :: starEach es X.env := by rfl) (hpl : (backTo pos (starEach es X.env)).any (·.1) = false := by rfl) :
    JD X W pu (.Call (.Name x p) (e :: es) [] pos) (mCall g ms) := by
  obtain ⟨r, hr, k⟩ := hc
  exact ⟨PE.imp (pe_callB hr hg hm hv ha.pa hn hdb he hpl) fun σ H Q q => callD_ok ha k q, quiet_call ha⟩
theorem jd_callTy {x : Str} {T : String} {p : Pos} {ms : Γ → Out (List D)} {g : List D → Option D} (hc : CallD X (.type T) g) (hg : Gl X x) (hm : X.mg x = none) (hv : bootBuiltins x = some (.type T)) (ha : JDs X W pu (e :: es) ms) (hn : x ≠ "__name__" := by decide) (hdb : (x == ("__debug__" : Str)) = false := by decide)
    (he : starEach (e :: es) X.env = (false, eval e X.env) :: starEach es X.env := by rfl) (hpl : (backTo pos (starEach es X.env)).any (·.1) = false := by rfl) :
    JD X W pu (.Call (.Name x p) (e :: es) [] pos) (mCall g ms) := by
  obtain ⟨r, hr, k⟩ := hc
  exact ⟨PE.imp (pe_callTy hr hg hm hv ha.pa hn hdb he hpl) fun σ H Q q => callD_ok ha k q, quiet_call ha⟩
end
end Tw

namespace Tw
open PySem PySem.Spec L2

def gLen : List D → Option D
  | [.str x] => if x.length ≤ sizeLine then some (.int x.length) else none
  | [.list l] => some (.int l.length)
  | [.tuple l] => some (.int l.length)
  | [.dict l] => if spD l = true then none else some (.int l.length)
  | _ => none
def gMax2 : List D → Option D
  | [.int i, .int j] => some (.int (if j > i then j else i))
  | _ => none
def gTup : List D → Option D
  | [.list l] => some (.tuple l)
  | [.tuple l] => some (.tuple l)
  | _ => none
section
variable {K : Fr} {mg : Mg} {H H' : Hp} {U : Addr → Prop}
theorem rds1 {d : D} {vs : List V} (h : RDs K H U [d] vs) : ∃ v, vs = [v] ∧ RD K H U d v := by
  obtain ⟨v, ws, e, r, q⟩ := rds_cons h
  exact ⟨v, by rw [e, rds_nil q], r⟩
theorem rds2 {d e : D} {vs : List V} (h : RDs K H U [d, e] vs) : ∃ v w, vs = [v, w] ∧ RD K H U d v ∧ RD K H U e w := by
  obtain ⟨v, ws, e, r, q⟩ := rds_cons h
  obtain ⟨w, e2, r2⟩ := rds1 q
  exact ⟨v, w, by rw [e, e2], r, r2⟩
end
section
variable {X : Cx}
theorem cd_len : CallD X (.builtin "len") gLen := by
  refine ⟨_, call_len.or call_lenD, fun U H ds xs res Q hU rx hg q => ?_⟩
  unfold gLen at hg
  split at hg
  · split at hg <;> cases hg
    rename_i x h
    obtain ⟨v, e, r⟩ := rds1 rx
    rw [rd_str] at r
    subst e r
    exact .inl ⟨_, _, rfl, ⟨h, rfl⟩, q _ H (.refl H) (rd_int.mpr rfl)⟩
  · cases hg
    obtain ⟨v, e, r⟩ := rds1 rx
    obtain ⟨a, ys, e1, h1, u, r1⟩ := rd_lst r
    subst e e1
    exact .inl ⟨_, ys.length, rfl, .inl ⟨ys, SqL.of h1, rfl⟩, q _ H (.refl H) (rd_int.mpr (by rw [r1.length]))⟩
  · cases hg
    obtain ⟨v, e, r⟩ := rds1 rx
    obtain ⟨a, ys, e1, h1, r1⟩ := rd_tup r
    subst e e1
    exact .inl ⟨_, ys.length, rfl, .inr ⟨ys, h1, rfl⟩, q _ H (.refl H) (rd_int.mpr (by rw [r1.length]))⟩
  · split at hg
    · cases hg
    rename_i g
    cases hg
    obtain ⟨v, e, r⟩ := rds1 rx
    obtain ⟨a, ks, e1, h1, u, r1⟩ := rd_dct r (Bool.eq_false_iff.mpr g)
    subst e e1
    exact .inr ⟨a, ks, rfl, h1, q _ H (.refl H) (rd_int.mpr (by rw [rdk_len r1]))⟩
  · cases hg
theorem cd_max2 (hc : X.calm = true) : CallD X (.builtin "max") gMax2 := by
  refine ⟨_, call_max2 hc, fun U H ds xs res Q hU rx hg q => ?_⟩
  unfold gMax2 at hg
  split at hg <;> cases hg
  obtain ⟨v, w, e, r, r2⟩ := rds2 rx
  rw [rd_int] at r r2
  subst e r r2
  exact ⟨_, _, rfl, q _ H (.refl H) (rd_int.mpr rfl)⟩
theorem cd_tup : CallD X (.type "tuple") gTup := by
  refine ⟨_, call_tuple_of, fun U H ds xs res Q hU rx hg q => ?_⟩
  unfold gTup at hg
  split at hg <;> cases hg
  · obtain ⟨v, e, r⟩ := rds1 rx
    obtain ⟨a, ys, e1, h1, u, r1⟩ := rd_lst r
    subst e e1
    exact ⟨a, ys, rfl, .inl ⟨SqL.of h1, fun p hp => q _ _ (same_new hp) (rd_newT r1 hp)⟩⟩
  · obtain ⟨v, e, r⟩ := rds1 rx
    obtain ⟨a, ys, e1, h1, r1⟩ := rd_tup r
    subst e e1
    exact ⟨a, ys, rfl, .inr ⟨h1, q _ H (.refl H) r⟩⟩
def tyD : D → String
  | .none => "NoneType"
  | .bool _ => "bool"
  | .int _ => "int"
  | .str _ => "str"
  | .list _ => "list"
  | .tuple _ => "tuple"
  | .dict l => if spD l = true then "tuple" else "dict"
theorem ty_of {K : Fr} {H : Hp} {U : Addr → Prop} {d : D} {x : V} (h : RD K H U d x) : TyX K H x (.type (tyD d)) := by
  cases d with
  | none => rw [rd_none] at h; subst h; exact .base .non
  | bool b => rw [rd_bool] at h; subst h; exact .base (.bl b)
  | int b => rw [rd_int] at h; subst h; exact .base (.int b)
  | str b => rw [rd_str] at h; subst h; exact .base (.str b)
  | tuple b =>
    obtain ⟨a, xs, e, q, r⟩ := rd_tup h
    subst e
    rcases q with (q | ⟨o, q⟩) | ⟨o, its, n, q, c, _⟩
    · exact .base (.tup q)
    · exact .fTuple q
    · exact .kTuple q c
  | list b =>
    obtain ⟨a, xs, e, q, u, r⟩ := rd_lst h
    subst e
    exact .base (.lst q)
  | dict b =>
    rw [RD] at h
    obtain ⟨a, e, ⟨ks, q, u, r⟩ | r⟩ := h
    · subst e
      have g : spD b = false := by
        cases b with
        | nil => rfl
        | cons p b =>
          obtain ⟨x, d⟩ := p
          rw [RKs] at r
          obtain ⟨_, _, _, _, z, _⟩ := r
          cases x <;> first | rfl | exact z.elim
      unfold tyD
      dsimp only
      rw [if_neg (by rw [g]; decide)]
      exact .base (.dK q)
    · cases b with
      | nil => rw [RSp] at r; exact r.elim
      | cons p b =>
        obtain ⟨x, d⟩ := p
        rw [RSp] at r
        obtain ⟨⟨z, _⟩, _, o, xs, q, _⟩ := r
        subst e z
        exact .fTuple q
def isB (T : String) (d : D) : Bool := match d with
  | .none => T == "NoneType"
  | .bool _ => T == "bool" || T == "int"
  | .int _ => T == "int"
  | .str _ => T == "str"
  | .list _ => T == "list"
  | .tuple _ => T == "tuple"
  | .dict l => if spD l = true then T == "tuple" else T == "dict"
def tyOk (T : String) : Bool := ["NoneType", "bool", "int", "str", "list", "tuple", "dict"].all fun a => kitB a T == some (if a == "bool" then (T == "bool" || T == "int") else T == a)
theorem kit_of {K : Fr} {T : String} (h : tyOk T = true) (d : D) : PySem.W.kitOne K (.type (tyD d)) (.type T) = some (isB T d) := by
  refine kit_ty ?_
  unfold tyOk at h
  rw [List.all_eq_true] at h
  have k : ∀ a, a ∈ ["NoneType", "bool", "int", "str", "list", "tuple", "dict"] → kitB a T = some (if a == "bool" then (T == "bool" || T == "int") else T == a) := fun a ha => eq_of_beq (h a ha)
  cases d
  · exact k "NoneType" (by decide)
  · exact k "bool" (by decide)
  · exact k "int" (by decide)
  · exact k "str" (by decide)
  · exact k "list" (by decide)
  · exact k "tuple" (by decide)
  · rename_i l
    unfold tyD isB
    dsimp only
    split
    · exact k "tuple" (by decide)
    · exact k "dict" (by decide)
def gIsi (T : String) (d : D) : Option D := some (.bool (isB T d))
variable {W : WX} {pu : Bool} {a c : Expr} {ma : MD} {pos p : Pos}
theorem jd_isi {x : Str} {T : String} {pc : Pos} (ha : JD X W pu a ma) (hg : Gl X "isinstance") (hm : X.mg "isinstance" = none) (hgx : Gl X x) (hmx : X.mg x = none) (hvx : bootBuiltins x = some (.type T)) (ht : tyOk T = true) (hn : x ≠ "__name__" := by decide) (hdb : (x == ("__debug__" : Str)) = false := by decide)
    (he : starEach [a, .Name x pc] X.env = (false, eval a X.env) :: starEach [.Name x pc] X.env := by rfl) (he2 : starEach [.Name x pc] X.env = (false, eval (.Name x pc) X.env) :: starEach [] X.env := by rfl) (hpl : (backTo pos (starEach [.Name x pc] X.env)).any (·.1) = false := by rfl)
    (hv : bootBuiltins "isinstance" = some (.builtin "isinstance") := by decide +kernel) : JD X W pu (.Call (.Name "isinstance" p) [a, .Name x pc] [] pos) (mUn (gIsi T) ma) := by
  refine ⟨PE.imp (pe_callB call_isi hg hm hv (pa_cons ha.pe (pa_cons (pe_bltn (v := .ty T) hgx hmx hvx rfl hn hdb) pa_nil he2) he) (by decide) (by decide) he hpl) fun σ H Q ⟨pv, A, γ, S, E, w⟩ => ⟨pv, A, γ, S, E, seqD w fun d γ1 x H1 S1 go1 p1 E1 r1 w1 => ?_⟩, fun z => quiet_bind (ha.quiet z) fun d => quiet_ok _⟩
  exact ⟨x, .ty T, _, _, _, rfl, .ty T, ty_of r1, kit_of ht d, w1 _ H1 S1 go1 p1 E1 (rd_bool.mpr rfl)⟩
end
end Tw

namespace Tw
open PySem PySem.Spec L2

def aLst (ms : Γ → Out (List D)) : MD := fun γ => (ms γ).bind fun ds γ' => if decide (ds.length ≤ sizeLine) = true then .ok (.list ds) γ' else .bad
def aTup (ms : Γ → Out (List D)) : MD := fun γ => (ms γ).bind fun ds γ' => if decide (ds.length ≤ sizeLine) = true then .ok (.tuple ds) γ' else .bad
section
variable {X : Cx} {W : WX} {pu pu' : Bool} {a e : Expr} {es : List Expr} {ms : Γ → Out (List D)} {me : ME} {mas : MA} {pos : Pos}
theorem jd_lst (h : JDs X W pu es ms) : JD X W pu (.List es pos) (aLst ms) := by
  refine ⟨PE.imp (pe_lst h.pa) fun σ H Q ⟨pv, A, γ, S, E, w⟩ => ⟨pv, A, γ, S, E, seqDs w fun ds γ1 xs H1 S1 go p E1 r w1 => ?_⟩, fun z => quiet_bind (h.quiet z) fun ds => quiet_ite _ (quiet_ok _) quiet_bad⟩
  by_cases hl : ds.length ≤ sizeLine
  · rw [if_pos (decide_eq_true hl)] at w1
    refine ⟨by rw [r.length]; exact hl, fun p1 hp => ?_⟩
    exact w1 _ _ S1 (go.trans (Go.same (same_new hp))) (fun z => ⟨(p z).1, (p z).2.trans (same_new hp)⟩) (E1.same (same_new hp)) (rd_newL r hp E1.here)
  · rw [if_neg (by simpa using hl)] at w1
    exact w1.elim
theorem jd_tup {k} (h : JDs X W pu es ms) : JD X W pu (.Tuple es k pos) (aTup ms) := by
  refine ⟨PE.imp (pe_tup h.pa) fun σ H Q ⟨pv, A, γ, S, E, w⟩ => ⟨pv, A, γ, S, E, seqDs w fun ds γ1 xs H1 S1 go p E1 r w1 => ?_⟩, fun z => quiet_bind (h.quiet z) fun ds => quiet_ite _ (quiet_ok _) quiet_bad⟩
  by_cases hl : ds.length ≤ sizeLine
  · rw [if_pos (decide_eq_true hl)] at w1
    refine ⟨by rw [r.length]; exact hl, fun p1 hp => ?_⟩
    exact w1 _ _ S1 (go.trans (Go.same (same_new hp))) (fun z => ⟨(p z).1, (p z).2.trans (same_new hp)⟩) (E1.same (same_new hp)) (rd_newT r hp)
  · rw [if_neg (by simpa using hl)] at w1
    exact w1.elim
def mNil : MA := fun γ => .ok [] γ
def mCons (m : ME) (ms : MA) : MA := fun γ => (m γ).bind fun r γ1 => (ms γ1).bind fun rs γ2 => .ok (r :: rs) γ2
theorem ja_nil : JA X W true [] mNil := ⟨PA.imp pa_nil fun σ H Q ⟨pv, A, γ, S, E, w⟩ => w [] H S [] .refl (fun _ => ⟨rfl, .refl H⟩) (E.less fun a ha => ha.elim id fun z => nomatch z) (by rw [RMs]; exact ⟨rfl, rfl⟩) List.nodup_nil, fun _ => quiet_ok _⟩
theorem ja_cons (h : J X W pu e me) (hr : JA X W pu' es mas) (hs : starEach (e :: es) X.env = (false, eval e X.env) :: starEach es X.env := by rfl) : JA X W (pu && pu') (e :: es) (mCons me mas) := by
  refine ⟨PA.imp (pa_cons h.pe hr.pe hs) fun σ H Q ⟨pv, A, γ, S, E, w⟩ => ⟨pv, A, γ, S, E, WantG.mono (WantG.bind w) (fun r γ1 w1 v H1 S1 T1 go1 p1 E1 rm1 nd1 => ?_) fun _ _ q => q⟩, fun z => ?_⟩
  · refine ⟨pv, adT A T1, γ1, S1, E1, WantG.mono w1.bind (fun rs γ2 w2 vs H2 S2 T2 go2 p2 E2 rm2 nd2 => ?_) fun c g q C H' S' hC go' E' => ?_⟩
    · have am1 : ∀ b ∈ T1, b ∉ S1 ∧ H1 b ≠ none := fun b hb => E1.am b (.inr hb)
      have k1 : RM X.K X.mgw H2 (us (adT A (T1 ++ T2)) S2) r v T1 := RM.keep r v T1 ⟨⟨fun b o q hn => (E1.keep (go2.sub fun b hb => List.mem_append_right _ hb)).obj b o q hn, fun b hb hn hu => ?_⟩, fun b hb o q => go2.obj b o q (am1 b hb).1⟩ rm1
      · refine w2 (v :: vs) H2 S2 (T1 ++ T2) ⟨fun b o q hn => go2.obj b o (go1.obj b o q hn) fun z => (go1.new b (List.mem_append_right _ z)).elim hn fun y => (by rw [y] at q; cases q), fun b hb => ?_, fun b hb => go2.keep b (go1.keep b hb)⟩ (pure2 p1 p2) (E2.less fun a ha => ?_) ?_ ?_
        · have lift : b ∈ S1 ∨ H1 b = none → b ∈ S ∨ H b = none := fun z => z.elim (fun z => go1.new b (List.mem_append_right _ z)) fun z => .inr (by
            cases q : H b with
            | none => rfl
            | some o => exact absurd z (go1.keep b (by rw [q]; exact (fun z => nomatch z))))
          rcases List.mem_append.mp hb with hb | hb
          · rcases List.mem_append.mp hb with hb | hb
            · exact go1.new b (List.mem_append_left _ hb)
            · exact lift (go2.new b (List.mem_append_left _ hb))
          · exact lift (go2.new b (List.mem_append_right _ hb))
        · rcases ha with ha | ha
          · exact .inl (.inl ha)
          · rcases List.mem_append.mp ha with ha | ha
            · exact .inl (.inr ha)
            · exact .inr ha
        · rw [RMs]
          refine ⟨v, vs, T1, T2, rfl, rfl, k1, ?_⟩
          refine RMs.keep rs vs T2 ⟨⟨fun _ _ q _ => q, fun b hb hn hu => hn ?_⟩, fun _ _ _ q => q⟩ rm2
          rcases hu with (z | z) | z
          · exact .inl (.inl (.inl z))
          · rcases List.mem_append.mp z with z | z
            · exact .inl (.inl (.inr z))
            · exact .inl (.inr z)
          · exact .inr z
        · refine List.nodup_append.mpr ⟨nd1, nd2, fun a ha b hb z => ?_⟩
          subst z
          rcases go2.new a (List.mem_append_left _ hb) with z | z
          · exact (am1 a ha).1 z
          · exact (am1 a ha).2 z
      · rcases hu with (z | z) | z
        · exact hn (.inl (.inl z))
        · rcases List.mem_append.mp z with z | z
          · exact hn (.inl (.inr z))
          · rcases go2.new b (List.mem_append_left _ z) with z | z
            · exact hn (.inr z)
            · exact hb z
        · rcases go2.new b (List.mem_append_right _ z) with z | z
          · exact hn (.inr z)
          · exact hb z
    · exact q C H' S' hC ((go1.sub fun b hb => List.mem_append_right _ hb).trans go') (E'.less fun a ha => .inl ha)
  · rw [Bool.and_eq_true] at z
    exact quiet_bind (h.quiet z.1) fun d => quiet_bind (hr.quiet z.2) fun ds => quiet_ok _
def fzs : List M → Option (List D)
  | [] => some []
  | .fz d :: ms => (fzs ms).map (d :: ·)
  | _ => none
def mkTup (ms : List M) : M := match fzs ms with
  | some ds => .fz (.tuple ds)
  | none => .tup ms
def mLst (ms : MA) : ME := fun γ => (ms γ).bind fun rs γ' => if decide (rs.length ≤ sizeLine) = true then .ok (.lst rs) γ' else .bad
def mTup (ms : MA) : ME := fun γ => (ms γ).bind fun rs γ' => if decide (rs.length ≤ sizeLine) = true then .ok (mkTup rs) γ' else .bad
theorem fzs_ok {K : Fr} {mg : Mg} {H : Hp} {U : Addr → Prop} : ∀ {ms : List M} {ds : List D} {vs : List V} {S : List Addr}, fzs ms = some ds → RMs K mg H U ms vs S → RDs K H U ds vs ∧ S = []
  | [], ds, _, _, e, h => by
    cases e
    rw [RMs] at h
    rw [RDs]
    exact h
  | .fz d :: ms, ds, vs, S, e, h => by
    rw [RMs] at h
    obtain ⟨v, ws, S1, S2, e1, z, r, q⟩ := h
    unfold fzs at e
    cases q1 : fzs ms with
    | none => rw [q1] at e; cases e
    | some es =>
      rw [q1] at e
      cases e
      obtain ⟨h1, h2⟩ := fzs_ok q1 q
      rw [RM] at r
      rw [RDs]
      exact ⟨⟨v, ws, e1, r.1, h1⟩, by rw [z, r.2, h2]; rfl⟩
  | .dead :: _, _, _, _, e, _ => by cases e
  | .lst _ :: _, _, _, _, e, _ => by cases e
  | .tup _ :: _, _, _, _, e, _ => by cases e
  | .dct _ :: _, _, _, _, e, _ => by cases e
  | .ins _ _ :: _, _, _, _, e, _ => by cases e
  | .exc _ :: _, _, _, _, e, _ => by cases e
  | .scr _ :: _, _, _, _, e, _ => by cases e
theorem mkTup_ok {K : Fr} {mg : Mg} {H : Hp} {U : Addr → Prop} {ms : List M} {a : Addr} {vs : List V} {S : List Addr} (h : RMs K mg H U ms vs S) (ha : SqT K H a vs) : RM K mg H U (mkTup ms) (.ref a) S := by
  unfold mkTup
  cases q : fzs ms with
  | some ds =>
    obtain ⟨h1, h2⟩ := fzs_ok q h
    show RM K mg H U (.fz (.tuple ds)) (.ref a) S
    rw [RM, RD]
    exact ⟨⟨a, vs, rfl, ha, h1⟩, h2⟩
  | none =>
    show RM K mg H U (.tup ms) (.ref a) S
    rw [RM]
    exact ⟨a, vs, rfl, ha, h⟩
theorem j_lst (h : JA X W pu es mas) : J X W pu (.List es pos) (mLst mas) := by
  refine ⟨PE.imp (pe_lst h.pe) fun σ H Q ⟨pv, A, γ, S, E, w⟩ => ⟨pv, A, γ, S, E, WantG.mono (WantG.bind w) (fun rs γ1 w1 xs H1 S1 T go p E1 rm nd => ?_) fun _ _ q => q⟩, fun z => quiet_bind (h.quiet z) fun ds => quiet_ite _ (quiet_ok _) quiet_bad⟩
  by_cases hl : rs.length ≤ sizeLine
  · rw [if_pos (decide_eq_true hl)] at w1
    refine ⟨by rw [RMs.length rm]; exact hl, fun q hq => ?_⟩
    have nT : q ∉ T := fun z => (E1.am q (.inr z)).2 hq
    refine w1 (.ref q) _ S1 (q :: T) ⟨fun b o e hn => same_new hq b o (go.obj b o e hn), fun b hb => ?_, fun b hb => (Go.same (S := S1) (same_new hq)).keep b (go.keep b hb)⟩ (fun z => ⟨(p z).1, (p z).2.trans (same_new hq)⟩) ?_ ?_ (List.nodup_cons.mpr ⟨nT, nd⟩)
    · rcases List.mem_cons.mp hb with hb | hb
      · refine .inr ?_
        rw [hb]
        cases z : H q with
        | none => rfl
        | some o => exact absurd hq (go.keep q (by rw [z]; exact (fun z => nomatch z)))
      · exact go.new b hb
    · refine (E1.more (T := [q]) (same_new hq) (fun b hb => by rw [List.mem_singleton.mp hb]; exact hq) fun b hb => by rw [List.mem_singleton.mp hb, upd_same]; exact (fun z => nomatch z)).less fun a ha => ?_
      rcases ha with ha | ha
      · exact .inl (.inl ha)
      · rcases List.mem_cons.mp ha with ha | ha
        · exact .inr (by rw [ha]; exact List.mem_singleton.mpr rfl)
        · exact .inl (.inr ha)
    · rw [RM]
      refine ⟨q, xs, T, rfl, upd_same, rfl, RMs.one rm hq fun b hb hu => ?_⟩
      rcases hu with (z | z) | z
      · exact .inl (.inl z)
      · rcases List.mem_cons.mp z with z | z
        · exact absurd (by rw [z]; exact hq) hb
        · exact .inl (.inr z)
      · exact .inr z
  · rw [if_neg (by simpa using hl)] at w1
    exact w1.elim
theorem j_tup {k} (h : JA X W pu es mas) : J X W pu (.Tuple es k pos) (mTup mas) := by
  refine ⟨PE.imp (pe_tup h.pe) fun σ H Q ⟨pv, A, γ, S, E, w⟩ => ⟨pv, A, γ, S, E, WantG.mono (WantG.bind w) (fun rs γ1 w1 xs H1 S1 T go p E1 rm nd => ?_) fun _ _ q => q⟩, fun z => quiet_bind (h.quiet z) fun ds => quiet_ite _ (quiet_ok _) quiet_bad⟩
  by_cases hl : rs.length ≤ sizeLine
  · rw [if_pos (decide_eq_true hl)] at w1
    refine ⟨by rw [RMs.length rm]; exact hl, fun q hq => ?_⟩
    refine w1 (.ref q) _ S1 T (go.trans ⟨fun b o e _ => same_new hq b o e, fun b hb => .inl hb, (Go.same (S := S1) (same_new hq)).keep⟩) (fun z => ⟨(p z).1, (p z).2.trans (same_new hq)⟩) (E1.same (same_new hq)) (mkTup_ok (RMs.one rm hq fun b hb hu => hu) (SqT.of upd_same)) nd
  · rw [if_neg (by simpa using hl)] at w1
    exact w1.elim
end

section
variable (K : Fr) (mg : Mg) (wb : List Nat)
def WantU (pv : Pv) (A : Ad) (H : Hp) (S : List Addr) (Q : L2.St → Hp → Prop) (o : Option Γ) : Prop :=
  ∃ γ', o = some γ' ∧ ∀ σ' H' S', Go H S H' S' → Env K mg pv A σ' γ' H' S' → Q σ' H'
def tG (g : MG) : TG := fun v σ H Q => ∃ pv A γ S T m, (∀ i, wb.contains i = false → pv i = none) ∧ (∀ a, A a → a ∉ T) ∧ Env K mg pv (adT A T) σ γ H S ∧ RM K mg H (us (adT A T) S) m v T ∧ T.Nodup ∧ WantU K mg pv A H (T ++ S) Q (g m γ)
def tGs (g : List M → Γ → Option Γ) : TGs := fun vs σ H Q => ∃ pv A γ S T ms, (∀ i, wb.contains i = false → pv i = none) ∧ (∀ a, A a → a ∉ T) ∧ Env K mg pv (adT A T) σ γ H S ∧ RMs K mg H (us (adT A T) S) ms vs T ∧ T.Nodup ∧ WantU K mg pv A H (T ++ S) Q (g ms γ)
end
structure JG (X : Cx) (wb : List Nat) (tg : Expr) (g : MG) : Prop where
  pg : PG X tg (tG X.K X.mgw wb g)
structure JGs (X : Cx) (wb : List Nat) (tg : List Expr) (g : List M → Γ → Option Γ) : Prop where
  pg : PGs X tg (tGs X.K X.mgw wb g)
def gSet (i : Nat) : MG := fun m γ => if i < γ.length then some (γ.set i m) else none
def gsNil : List M → Γ → Option Γ := fun ms γ => match ms with
  | [] => some γ
  | _ => none
def gsCons (g : MG) (gs : List M → Γ → Option Γ) : List M → Γ → Option Γ := fun ms γ => match ms with
  | m :: ms => (g m γ).bind fun γ' => gs ms γ'
  | [] => none
def partsOf : M → Option (List M)
  | .fz (.tuple ds) => some (ds.map .fz)
  | .fz (.list ds) => some (ds.map .fz)
  | .tup ms => some ms
  | _ => none
def gUnE (K : PySem.W.Frag) (n : Nat) (t : TGs) : TG := fun v σ H Q => ∃ a xs, v = .ref a ∧ (SqT K H a xs ∨ SqL K H a xs) ∧ xs.length = n ∧ t xs σ H Q
theorem pg_une {X : Cx} {pos : Pos} {es : List Expr} {k : Nat} {t : TGs} {n : Nat} (hc : X.calm = true) (h : PGs X es t)
    (hn : (assignEach es X.env).length = n := by rfl) (hst : (assignEach es X.env).findIdx? (·.1) = none := by rfl) : PG X (.Tuple es k pos) (gUnE X.K n t) :=
  ⟨fun pins s σ H v u Q I r ⟨a, xs, e1, hq, hl, hw⟩ => hq.elim (fun z => (pg_tup hc h hn hst).run pins s σ H v u Q I r ⟨a, xs, e1, z, hl, hw⟩) (fun z => (pg_unl hc h hn hst).run pins s σ H v u Q I r ⟨a, xs, e1, z, hl, hw⟩)⟩
def gTupM (n : Nat) (gs : List M → Γ → Option Γ) : MG := fun m γ => (partsOf m).bind fun ms => if ms.length = n then gs ms γ else none
theorem parts_ok {K : Fr} {mg : Mg} {H : Hp} {U : Addr → Prop} {m : M} {ms : List M} {v : V} {S : List Addr} (e : partsOf m = some ms) (h : RM K mg H U m v S) : ∃ a xs, v = .ref a ∧ (SqT K H a xs ∨ SqL K H a xs) ∧ RMs K mg H U ms xs S := by
  unfold partsOf at e
  split at e <;> cases e
  · rw [RM] at h
    obtain ⟨a, xs, e1, q, r⟩ := rd_tup h.1
    exact ⟨a, xs, e1, .inl q, by rw [h.2]; exact rms_fz r⟩
  · rw [RM] at h
    obtain ⟨a, xs, e1, q, _, r⟩ := rd_lst h.1
    exact ⟨a, xs, e1, .inr (SqL.of q), by rw [h.2]; exact rms_fz r⟩
  · rw [RM] at h
    obtain ⟨a, xs, e1, q, r⟩ := h
    exact ⟨a, xs, e1, .inl q, r⟩
section
variable {X : Cx} {W : WX} {wb : List Nat} {pu : Bool} {e tg : Expr} {es : List Expr} {g : MG} {gs : List M → Γ → Option Γ} {pos : Pos}
theorem jg_name (i : Nat) {x : Str} (hN : X.N.Nodup) (hi : X.N[i]? = some x := by rfl) (hw : wb.contains i = false := by rfl) (hx : Loc X.env.scope x := by first | exact Or.inl rfl | exact Or.inr rfl) (hf : X.fn x = true ∨ X.env.scope.names.lookup x = some .local := by first | exact .inl rfl | exact .inr rfl | assumption) : JG X wb (.Name x pos) (gSet i) := by
  refine ⟨PG.imp (pg_name hN hi hx hf) fun v σ H Q ⟨pv, A, γ, S, T, m, hp, hA, E, rm, nd, w⟩ => ?_⟩
  obtain ⟨γ', e, w⟩ := w
  unfold gSet at e
  split at e <;> cases e
  rename_i hlt
  obtain ⟨S', E', sub⟩ := E.put hlt rm nd hA (hp i hw)
  exact w _ H S' (Go.refl.sub sub) E'
theorem jgs_nil : JGs X wb [] gsNil := by
  refine ⟨PGs.imp pgs_nil fun v σ H Q ⟨pv, A, γ, S, T, ms, hp, hA, E, rm, nd, w⟩ => ?_⟩
  cases ms with
  | nil =>
    rw [RMs] at rm
    obtain ⟨e1, e2⟩ := rm
    subst e1 e2
    obtain ⟨γ', e, w⟩ := w
    cases e
    exact ⟨rfl, w σ H S .refl (E.less fun a ha => .inl ha)⟩
  | cons m ms =>
    obtain ⟨γ', e, w⟩ := w
    cases e
theorem jgs_cons (h : JG X wb tg g) (h2 : JGs X wb es gs) (hs : (assignEach (tg :: es) X.env).map (·.2) = assign tg X.env :: (assignEach es X.env).map (·.2) := by rfl) : JGs X wb (tg :: es) (gsCons g gs) := by
  refine ⟨PGs.imp (pgs_cons h.pg h2.pg hs) fun vs σ H Q ⟨pv, A, γ, S, T, ms, hp, hA, E, rm, nd, w⟩ => ?_⟩
  obtain ⟨γ', e, w⟩ := w
  cases ms with
  | nil => cases e
  | cons m ms =>
    rw [RMs] at rm
    obtain ⟨v, ws, T1, T2, e1, e2, r1, r2⟩ := rm
    subst e1 e2
    obtain ⟨n1, n2, dj⟩ := List.nodup_append.mp nd
    have e' : (g m γ).bind (fun γ' => gs ms γ') = some γ' := e
    cases q1 : g m γ with
    | none => rw [q1] at e'; cases e'
    | some γ1 =>
    rw [q1] at e'
    have e3 : gs ms γ1 = some γ' := e'
    have uu : ∀ b, H b ≠ none → us (adT (adT A T2) T1) S b → us (adT A (T1 ++ T2)) S b := fun b _ hu => by
      rcases hu with ((z | z) | z) | z
      · exact .inl (.inl z)
      · exact .inl (.inr (List.mem_append_right _ z))
      · exact .inl (.inr (List.mem_append_left _ z))
      · exact .inr z
    refine ⟨v, ws, rfl, pv, adT A T2, γ, S, T1, m, hp, fun a ha hb => ?_, E.less fun a ha => ?_, r1.same uu, n1, γ1, q1, fun σ' H1 S1 go1 E1 => ?_⟩
    · rcases ha with ha | ha
      · exact hA a ha (List.mem_append_left _ hb)
      · exact dj a hb a ha rfl
    · rcases ha with (z | z) | z
      · exact .inl z
      · exact .inr (List.mem_append_right _ z)
      · exact .inr (List.mem_append_left _ z)
    · have am2 : ∀ b ∈ T2, b ∉ T1 ++ S ∧ H b ≠ none := fun b hb => ⟨fun z => (List.mem_append.mp z).elim (fun z => dj b z b hb rfl) (E.am b (.inr (List.mem_append_right _ hb))).1, (E.am b (.inr (List.mem_append_right _ hb))).2⟩
      have mutS : ∀ b ∈ T1 ++ S, ∃ o, H b = some o ∧ isMut b o = true := fun b hb => (List.mem_append.mp hb).elim (fun z => RM.mut m v T1 r1 b z) fun z => E.mut b z
      refine ⟨pv, A, γ1, S1, T2, ms, hp, fun a ha hb => hA a ha (List.mem_append_right _ hb), E1, ?_, n2, ?_⟩
      · refine RMs.keep ms ws T2 ⟨⟨fun b o q hn => go1.obj b o q fun z => ?_, fun b hb hn hu => ?_⟩, fun b hb o q => go1.obj b o q (am2 b hb).1⟩ r2
        · obtain ⟨o', q', mo⟩ := mutS b z
          rw [q] at q'
          cases q'
          refine hn mo ?_
          rcases List.mem_append.mp z with z | z
          · exact .inl (.inr (List.mem_append_left _ z))
          · exact .inr z
        · rcases hu with (z | z) | z
          · exact hn (.inl (.inl z))
          · exact hn (.inl (.inr (List.mem_append_right _ z)))
          · rcases go1.new b z with z | z
            · rcases List.mem_append.mp z with z | z
              · exact hn (.inl (.inr (List.mem_append_left _ z)))
              · exact hn (.inr z)
            · exact hb z
      · refine ⟨γ', e3, fun σ2 H2 S2 go2 E2 => w σ2 H2 S2 ⟨fun b o q hn => go2.obj b o (go1.obj b o q fun z => hn ?_) fun z => ?_, fun b hb => ?_, fun b hb => go2.keep b (go1.keep b hb)⟩ E2⟩
        · rcases List.mem_append.mp z with z | z
          · exact List.mem_append_left _ (List.mem_append_left _ z)
          · exact List.mem_append_right _ z
        · rcases List.mem_append.mp z with z | z
          · exact hn (List.mem_append_left _ (List.mem_append_right _ z))
          · rcases go1.new b z with z | z
            · rcases List.mem_append.mp z with z | z
              · exact hn (List.mem_append_left _ (List.mem_append_left _ z))
              · exact hn (List.mem_append_right _ z)
            · rw [z] at q; cases q
        · rcases go2.new b hb with z | z
          · rcases List.mem_append.mp z with z | z
            · exact .inl (List.mem_append_left _ (List.mem_append_right _ z))
            · rcases go1.new b z with z | z
              · rcases List.mem_append.mp z with z | z
                · exact .inl (List.mem_append_left _ (List.mem_append_left _ z))
                · exact .inl (List.mem_append_right _ z)
              · exact .inr z
          · refine .inr ?_
            cases q : H b with
            | none => rfl
            | some o => exact absurd z (go1.keep b (by rw [q]; exact (fun z => nomatch z)))
theorem jg_tup {k : Nat} {n : Nat} (hc : X.calm = true) (h : JGs X wb es gs) (hn : (assignEach es X.env).length = n := by rfl) (hst : (assignEach es X.env).findIdx? (·.1) = none := by rfl) : JG X wb (.Tuple es k pos) (gTupM n gs) := by
  refine ⟨PG.imp (pg_une hc h.pg hn hst) fun v σ H Q ⟨pv, A, γ, S, T, m, hp, hA, E, rm, nd, w⟩ => ?_⟩
  obtain ⟨γ', e, w⟩ := w
  unfold gTupM at e
  cases q : partsOf m with
  | none => rw [q] at e; cases e
  | some ms =>
    rw [q] at e
    obtain ⟨a, xs, e1, h1, r1⟩ := parts_ok q rm
    have e' : (if ms.length = n then gs ms γ else none) = some γ' := e
    split at e'
    · rename_i hl
      exact ⟨a, xs, e1, h1, by rw [RMs.length r1]; exact hl, pv, A, γ, S, T, ms, hp, hA, E, r1, nd, γ', e', w⟩
    · cases e'
def sAsg (g : MG) (me : ME) : MS := fun γ => (me γ).bind fun r γ' => ofO (g r γ') fun γ'' => .ok .nx γ''
theorem js_asg {me : ME} (he : J X W pu e me) (hg : JG X wb tg g) (hs : swapsWithSole [tg] e pos.line X.env = pure false := by rfl) (hw : swappedStores [tg] e X.env = pure none := by rfl) (h1 : (assignEach [tg] X.env).map (·.2) = [assign tg X.env] := by rfl) : JS X W wb (.Assign [tg] e pos) (sAsg g me) := by
  refine ⟨PS.imp (ps_asg he.pe hg.pg hs hw h1) fun D σ H ⟨pv, A, γ, S, hp, E, w⟩ => ⟨pv, A, γ, S, E, ?_⟩⟩
  unfold sAsg at w
  cases e : me γ with
  | bad => rw [e] at w; exact w
  | err c g => rw [e] at w; exact fun C H' S' hC go E' => w C σ H' S' hC go E'
  | ok r g1 =>
    rw [e] at w
    intro v H' S' T go _ E' rm nd
    refine ⟨pv, A, g1, S', T, r, hp, fun a ha hb => ?_, E', rm, nd, ?_⟩
    · exact (go.new a (List.mem_append_left _ hb)).elim (E.am a ha).1 (E.am a ha).2
    · have w' : WantS X.K X.mgw W pv A H S D (ofO (g r g1) fun γ'' => .ok .nx γ'') := w
      cases e2 : g r g1 with
      | none => rw [e2] at w'; exact w'.elim
      | some g2 =>
        rw [e2] at w'
        exact ⟨g2, rfl, fun σ' H'' S'' go2 E2 => w' σ' H'' S'' (go.trans go2) E2⟩
end
end Tw

namespace Tw
open PySem PySem.Spec L2

def loopM (g : MG) (mb : MS) : List D → Γ → Out Fl
  | [], γ => .ok .nx γ
  | d :: ds, γ => ofO (g (.fz d) γ) fun γ1 => (mb γ1).bind fun f γ2 => match f with
    | .nx => loopM g mb ds γ2
    | .ct => loopM g mb ds γ2
    | .brk => .ok .nx γ2
    | .ret r => .ok (.ret r) γ2
def sFor (g : MG) (mi : MI) (mb : MS) : MS := fun γ => (mi γ).bind fun ds γ' => loopM g mb ds γ'
def whileM (c : MT) (mb : MS) : Nat → Γ → Out Fl
  | 0, _ => .bad
  | n + 1, γ => (c γ).bind fun k γ1 => if k = true then (mb γ1).bind fun f γ2 => match f with
      | .nx => whileM c mb n γ2
      | .ct => whileM c mb n γ2
      | .brk => .ok .nx γ2
      | .ret r => .ok (.ret r) γ2
    else .ok .nx γ1
def bigN : Nat := 2 ^ 100
def sWhile (c : MT) (mb : MS) : MS := fun γ => whileM c mb bigN γ

section
variable {X : Cx} {W : WX} {wb : List Nat} {pu : Bool} {tg it c : Expr} {body : List Stmt} {g : MG} {mi : MI} {mt : MT} {mb : MS} {pos : Pos}
theorem env_nil {K : Fr} {mg : Mg} {pv : Pv} {A : Ad} {σ : L2.St} {γ : Γ} {H : Hp} {S : List Addr} (E : Env K mg pv A σ γ H S) : Env K mg pv (adT A []) σ γ H S := E.less fun a h => h.elim id fun z => nomatch z
theorem us_nil {A : Ad} {S : List Addr} {b : Addr} (h : us (adT A []) S b) : us A S b := h.imp (fun z => z.elim id fun z => nomatch z) id
theorem js_for (hp : PassesOwn (model X.prog X.w) X.A X.env X.xe) (hc : X.calm = true) (hi : JI X W pu tg it mi) (hg : JG X wb tg g) (hb : JB X W wb body mb)
    (hs : ∀ x, foldedSetIterable it X.env x = pure x := by intro _; rfl) : JS X W wb (.For tg it body [] pos) (sFor g mi mb) := by
  refine ⟨PS.imp (ps_for hp hc hi.pi hg.pg hb.ps hs) fun D σ H ⟨pv, A, γ, S, hp, E, w⟩ => ⟨pv, A, γ, S, E, ?_⟩⟩
  unfold sFor at w
  cases e : mi γ with
  | bad => rw [e] at w; exact w
  | err c g => rw [e] at w; exact fun C H' S' hC go E' => w C σ H' S' hC go E'
  | ok ds γ' =>
    rw [e] at w
    intro J H' S' go _ E' io
    have w' : WantS X.K X.mgw W pv A H S D (loopM g mb ds γ') := w
    refine ⟨fun i m σ1 H1 => m = ds.length - i ∧ i ≤ ds.length ∧ ∃ γ1 S1, Go H' S' H1 S1 ∧ Env X.K X.mgw pv A σ1 γ1 H1 S1 ∧ WantS X.K X.mgw W pv A H1 S1 D (loopM g mb (ds.drop i) γ1),
      ⟨ds.length, by simp, Nat.zero_le _, γ', S', .refl, E', by rw [List.drop_zero]; exact WantS.go go w'⟩, ?_⟩
    rintro i m σ1 H1 ⟨rfl, hi, γ1, S1, go1, E1, w1⟩
    by_cases hlt : i < ds.length
    · refine .inr ⟨io.go i H1 S1 hlt go1, fun σ2 H2 => ds.length - (i + 1) = ds.length - (i + 1) ∧ i + 1 ≤ ds.length ∧ ∃ γ1 S1, Go H' S' H2 S1 ∧ Env X.K X.mgw pv A σ2 γ1 H2 S1 ∧ WantS X.K X.mgw W pv A H2 S1 D (loopM g mb (ds.drop (i + 1)) γ1),
        fun σ2 H2 h2 => ⟨ds.length - (i + 1), by omega, h2⟩, fun x H2 hy => ?_⟩
      have hd : ds.drop i = ds[i] :: ds.drop (i + 1) := (List.getElem_cons_drop hlt).symm
      rw [hd] at w1
      obtain ⟨sm, rd⟩ := io.yld i ds[i] H1 S1 x H2 (List.getElem?_eq_getElem hlt) go1 hy
      have w2 : WantS X.K X.mgw W pv A H1 S1 D (ofO (g (.fz ds[i]) γ1) fun γ1 => (mb γ1).bind fun f γ2 => match f with | .nx => loopM g mb (ds.drop (i + 1)) γ2 | .ct => loopM g mb (ds.drop (i + 1)) γ2 | .brk => .ok .nx γ2 | .ret r => .ok (.ret r) γ2) := w1
      cases eg : g (.fz ds[i]) γ1 with
      | none => rw [eg] at w2; exact w2.elim
      | some γ2 =>
        rw [eg] at w2
        refine ⟨pv, A, γ1, S1, [], .fz ds[i], hp, (fun _ _ z => nomatch z), env_nil (E1.same sm), by rw [RM]; exact ⟨rd _ fun b h => (us_nil h).elim (fun z => .inl (.inl z)) fun z => (go1.new b z).imp .inr id, rfl⟩, List.nodup_nil, γ2, eg, fun σ3 H3 S3 go3 E3 => ?_⟩
        have go13 : Go H1 S1 H3 S3 := (Go.same sm).trans go3
        have w3 : WantS X.K X.mgw W pv A H1 S1 D ((mb γ2).bind fun f γ2 => match f with | .nx => loopM g mb (ds.drop (i + 1)) γ2 | .ct => loopM g mb (ds.drop (i + 1)) γ2 | .brk => .ok .nx γ2 | .ret r => .ok (.ret r) γ2) := w2
        refine ⟨pv, A, γ2, S3, hp, E3, ?_⟩
        cases eb : mb γ2 with
        | bad => rw [eb] at w3; exact w3.elim
        | err c g => rw [eb] at w3; exact fun C σ' H4 S4 hC go4 E4 => w3 C σ' H4 S4 hC (go13.trans go4) E4
        | ok f γ3 =>
          rw [eb] at w3
          cases f with
          | nx => exact fun σ4 H4 S4 go4 E4 => ⟨rfl, hlt, γ3, S4, (go1.trans go13).trans go4, E4, WantS.go (go13.trans go4) w3⟩
          | ct => exact fun σ4 H4 S4 go4 E4 => ⟨rfl, hlt, γ3, S4, (go1.trans go13).trans go4, E4, WantS.go (go13.trans go4) w3⟩
          | brk => exact fun σ4 H4 S4 go4 E4 => w3 σ4 H4 S4 (go13.trans go4) E4
          | ret r => exact fun v σ4 H4 S4 T go4 E4 rm nd => w3 v σ4 H4 S4 T (go13.trans go4) E4 rm nd
    · have e0 : i = ds.length := by omega
      subst e0
      refine .inl ⟨io.stop H1 S1 go1, ?_⟩
      rw [List.drop_length] at w1
      exact w1 σ1 H1 S1 .refl E1
theorem js_while (hp : PassesOwn (model X.prog X.w) X.A X.env X.xe) (hc : JT X W pu c mt) (hb : JB X W wb body mb) : JS X W wb (.While c body [] pos) (sWhile mt mb) := by
  refine ⟨PS.imp (ps_while hp hc.pe hb.ps) fun D σ H ⟨pv, A, γ, S, hp, E, w⟩ => ?_⟩
  refine ⟨fun m σ1 H1 => ∃ γ1 S1, Go H S H1 S1 ∧ Env X.K X.mgw pv A σ1 γ1 H1 S1 ∧ WantS X.K X.mgw W pv A H1 S1 D (whileM mt mb m γ1), ⟨bigN, γ, S, .refl, E, w⟩, ?_⟩
  rintro m σ1 H1 ⟨γ1, S1, go1, E1, w1⟩
  cases m with
  | zero => exact w1.elim
  | succ m =>
    have w2 : WantS X.K X.mgw W pv A H1 S1 D ((mt γ1).bind fun k γ1 => if k = true then (mb γ1).bind fun f γ2 => match f with | .nx => whileM mt mb m γ2 | .ct => whileM mt mb m γ2 | .brk => .ok .nx γ2 | .ret r => .ok (.ret r) γ2 else .ok .nx γ1) := w1
    refine ⟨pv, A, γ1, S1, E1, ?_⟩
    cases e : mt γ1 with
    | bad => rw [e] at w2; exact w2
    | err c g => rw [e] at w2; exact fun C H' S' hC go E' => w2 C σ1 H' S' hC go E'
    | ok k γ2 =>
      rw [e] at w2
      intro H2 S2 go2 _ E2
      cases k with
      | false =>
        show D.nx σ1 H2
        exact w2 σ1 H2 S2 go2 E2
      | true =>
        have w3 : WantS X.K X.mgw W pv A H1 S1 D ((mb γ2).bind fun f γ2 => match f with | .nx => whileM mt mb m γ2 | .ct => whileM mt mb m γ2 | .brk => .ok .nx γ2 | .ret r => .ok (.ret r) γ2) := w2
        refine ⟨fun σ' H' => ∃ γ1 S1, Go H S H' S1 ∧ Env X.K X.mgw pv A σ' γ1 H' S1 ∧ WantS X.K X.mgw W pv A H' S1 D (whileM mt mb m γ1), fun σ' H' h => ⟨m, Nat.lt_succ_self m, h⟩, pv, A, γ2, S2, hp, E2, ?_⟩
        cases eb : mb γ2 with
        | bad => rw [eb] at w3; exact w3.elim
        | err c g => rw [eb] at w3; exact fun C σ' H4 S4 hC go4 E4 => w3 C σ' H4 S4 hC (go2.trans go4) E4
        | ok f γ3 =>
          rw [eb] at w3
          cases f with
          | nx => exact fun σ4 H4 S4 go4 E4 => ⟨γ3, S4, (go1.trans go2).trans go4, E4, WantS.go (go2.trans go4) w3⟩
          | ct => exact fun σ4 H4 S4 go4 E4 => ⟨γ3, S4, (go1.trans go2).trans go4, E4, WantS.go (go2.trans go4) w3⟩
          | brk => exact fun σ4 H4 S4 go4 E4 => w3 σ4 H4 S4 (go2.trans go4) E4
          | ret r => exact fun v σ4 H4 S4 T go4 E4 rm nd => w3 v σ4 H4 S4 T (go2.trans go4) E4 rm nd
end

section
variable {X : Cx} {W : WX} {pu pu' : Bool} {tg a b c e : Expr} {ma mb mc : MD} {ms : Γ → Out (List D)} {pos p : Pos}
def iSeq (K : PySem.W.Frag) (tl : TE) : TI := fun σ H R => tl σ H fun x H1 => ∃ a, x = .ref a ∧ (((∃ xs, SqL K H1 a xs) ∧ R (Itl K a) H1) ∨ ((∃ xs, SqT K H1 a xs) ∧ R (Itt K a) H1))
theorem pi_seq {l : Expr} {tl : TE} (hl : PE X l tl) : PI X tg l (iSeq X.K tl) := by
  refine ⟨fun pins s σ H R I h => thn (hl.run pins s σ H _ I h) fun v s1 hv => ?_⟩
  obtain ⟨x, H1, I1, r1, a, rfl, q⟩ := hv
  obtain rfl : v = Value.ref a := r1
  have fp : ∀ b ∈ [s1.heap.objs.size], FpOk X pins H1 b := fun b hb => by
    rw [List.mem_singleton.mp hb]
    exact I1.fpOk (Nat.le_refl _) (I1.hok.fresh (Nat.le_refl _))
  rcases q with ⟨⟨xs, hq⟩, q⟩ | ⟨⟨xs, hq⟩, q⟩
  · obtain ⟨us', ru, pl, _⟩ := I1.list hq
    exact wpAny_pyIter_list pl.isList ⟨_, [s1.heap.objs.size], _, _, H1, rfl, I1.kept (t' := s1.toks) fun b o z => Heap.get?_push_of_some _ z, turn_list a _, ⟨_, Heap.get?_push_size _ rfl, rfl, rfl⟩, fp, q⟩
  · obtain ⟨us', ru, pl, _⟩ := I1.tuple hq
    exact wpAny_pyIter_tuple (show s1.heap.IsTuple a us'.toArray from pl) ⟨_, [s1.heap.objs.size], _, _, H1, rfl, I1.kept (t' := s1.toks) fun b o z => Heap.get?_push_of_some _ z, turn_tuple a _, ⟨_, Heap.get?_push_size _ rfl, rfl, rfl⟩, fp, q⟩
def seqOf : D → Option (List D)
  | .list ds => some ds
  | .tuple ds => some ds
  | _ => none
def iD (m : MD) : MI := fun γ => (m γ).bind fun d γ' => ofO (seqOf d) fun ds => .ok ds γ'
theorem itok_list {K : Fr} {mg : Mg} {pv : Pv} {A : Ad} {σ : L2.St} {γ : Γ} {H : Hp} {S : List Addr} (E : Env K mg pv A σ γ H S) {a : Addr} {xs : List V} {ds : List D} (h : H a = some (.lst xs)) (u : ¬ us A S a) (r : RDs K H (us A S) ds xs) : ItOk K A H S (Itl K a) ds where
  go := fun i H1 S1 hi g => ⟨xs, xs[i]'(by rw [r.length]; exact hi), SqL.of (g.obj a _ h fun z => u (.inr z)), by simp [r.length, hi]⟩
  stop := fun H1 S1 g => ⟨xs, SqL.of (g.obj a _ h fun z => u (.inr z)), by rw [r.length]; exact Nat.le_refl _⟩
  yld := fun i d H1 S1 x H2 hd g hy => by
    obtain ⟨e, hx⟩ := hy
    subst e
    obtain ⟨v, h1, h2⟩ := r.get hd
    have := hx xs (SqL.of (g.obj a _ h fun z => u (.inr z)))
    rw [h1] at this
    cases this
    exact ⟨.refl _, fun U hU => RD.keep ⟨(E.keep g).obj, fun b hb hn hu => (hU b hu).elim hn hb⟩ d _ h2⟩
theorem itok_tup {K : Fr} {mg : Mg} {pv : Pv} {A : Ad} {σ : L2.St} {γ : Γ} {H : Hp} {S : List Addr} (E : Env K mg pv A σ γ H S) {a : Addr} {xs : List V} {ds : List D} (h : SqT K H a xs) (r : RDs K H (us A S) ds xs) : ItOk K A H S (Itt K a) ds where
  go := fun i H1 S1 hi g => ⟨xs, xs[i]'(by rw [r.length]; exact hi), (E.keep g).sqT h, by simp [r.length, hi]⟩
  stop := fun H1 S1 g => ⟨xs, (E.keep g).sqT h, by rw [r.length]; exact Nat.le_refl _⟩
  yld := fun i d H1 S1 x H2 hd g hy => by
    obtain ⟨e, hx⟩ := hy
    subst e
    obtain ⟨v, h1, h2⟩ := r.get hd
    have := hx xs ((E.keep g).sqT h)
    rw [h1] at this
    cases this
    exact ⟨.refl _, fun U hU => RD.keep ⟨(E.keep g).obj, fun b hb hn hu => (hU b hu).elim hn hb⟩ d _ h2⟩
theorem ji_seq (h : JD X W pu e ma) : JI X W pu tg e (iD ma) := by
  refine ⟨PI.imp (pi_seq h.pe) fun σ H R ⟨pv, A, γ, S, E, w⟩ => ⟨pv, A, γ, S, E, seqD w fun d γ1 v H1 S1 go p E1 r w1 => ?_⟩, fun z => quiet_bind (h.quiet z) fun d => quiet_opt _ (fun ds γ => Out.ok ds γ) fun _ => quiet_ok _⟩
  cases q : seqOf d with
  | none => rw [q] at w1; exact w1.elim
  | some ds =>
    rw [q] at w1
    unfold seqOf at q
    split at q <;> cases q
    · obtain ⟨a, xs, e1, h1, u, r1⟩ := rd_lst r
      exact ⟨a, e1, .inl ⟨⟨xs, SqL.of h1⟩, w1 _ H1 S1 go p E1 (itok_list E1 h1 u r1)⟩⟩
    · obtain ⟨a, xs, e1, h1, r1⟩ := rd_tup r
      exact ⟨a, e1, .inr ⟨⟨xs, h1⟩, w1 _ H1 S1 go p E1 (itok_tup E1 h1 r1)⟩⟩
def iScr (i : Nat) : MI := fun γ => match γ[i]? with
  | some (.scr ns) => .ok (ns.map .int) γ
  | _ => .bad
theorem vs_int {ns : List Int} {i : Nat} {x : V} (h : (ns.map V.int)[i]? = some x) : ∃ n, ns[i]? = some n ∧ x = .int n := by
  rw [List.getElem?_map] at h
  cases e : ns[i]? with
  | none => rw [e] at h; cases h
  | some n => rw [e] at h; exact ⟨n, rfl, (Option.some.inj h).symm⟩
theorem ji_scr (i : Nat) {x : Str} (hN : X.N[i]? = some x := by rfl) (hv : Vis X.env.scope x := by first | exact Or.inl rfl | exact Or.inr (Or.inl rfl) | exact Or.inr (Or.inr rfl)) (hd : (x == ("__debug__" : Str)) = false := by decide)
    (hcd : (x == ("__classdict__" : Str)) = false := by decide) : JI X W true tg (.Name x pos) (iScr i) := by
  refine ⟨PI.imp (pi_list (pe_var hN hv hd hcd)) fun σ H R ⟨pv, A, γ, S, E, w⟩ => ?_, fun _ γ => ?_⟩
  · unfold iScr at w
    split at w
    · rename_i ns e
      obtain ⟨v, S1, S2, S3, h1, h2, r⟩ := E.get e (by intro z; cases z)
      rw [RM] at r
      obtain ⟨⟨a, e1, h3⟩, _⟩ := r
      subst e1
      refine ⟨_, h1, a, rfl, ⟨_, h3.sqL⟩, w _ H S .refl (fun _ => ⟨rfl, .refl H⟩) E ⟨fun i H1 S1 hi g => ⟨ns.map V.int, .int (ns[i]'(by simpa using hi)), ((E.keep g).scr h3).sqL, ?_⟩, fun H1 S1 g => ⟨ns.map V.int, ((E.keep g).scr h3).sqL, by simp⟩, fun i d H1 S1 x H2 hd g hy => ?_⟩⟩
      · rw [List.getElem?_map, List.getElem?_eq_getElem (by simpa using hi)]
        rfl
      · obtain ⟨e, hx⟩ := hy
        subst e
        obtain ⟨n, h4, h5⟩ := vs_int (hx _ ((E.keep g).scr h3).sqL)
        rw [List.getElem?_map, h4] at hd
        cases hd
        exact ⟨.refl _, fun U _ => by rw [h5]; exact rd_int.mpr rfl⟩
    · exact w.elim
  · unfold iScr
    split <;> rename_i h
    · split at h
      · cases h; rfl
      · cases h
    · split at h <;> cases h
    · trivial
def inR (i : Int) : Bool := decide (i.natAbs < 4611686018427387904)
def rngD (lo : Int) (n : Nat) : List D := (List.range n).map fun i => .int (lo + (i : Nat))
def rng1 : List D → Option (List D)
  | [.int j] => if inR j = true then some (rngD 0 j.toNat) else none
  | _ => none
def iRg (f : List D → Option (List D)) (ms : Γ → Out (List D)) : MI := fun γ => (ms γ).bind fun ds γ' => ofO (f ds) fun r => .ok r γ'
theorem itok_rng {K : Fr} {A : Ad} {H : Hp} {S : List Addr} (lo : Int) (n : Nat) : ItOk K A H S (Itr lo n) (rngD lo n) where
  go := fun i H1 S1 hi g => by
    show i < n
    simpa [rngD] using hi
  stop := fun H1 S1 g => by
    show n ≤ (rngD lo n).length
    simp [rngD]
  yld := fun i d H1 S1 x H2 hd g hy => by
    obtain ⟨e, hx⟩ := hy
    subst e
    unfold rngD at hd
    rw [List.getElem?_map] at hd
    cases q : (List.range n)[i]? with
    | none => rw [q] at hd; cases hd
    | some k =>
      rw [q] at hd
      cases hd
      have : k = i := by
        obtain ⟨h1, h2⟩ := List.getElem?_eq_some_iff.mp q
        simpa using h2.symm
      subst this
      exact ⟨.refl _, fun U _ => by rw [hx]; exact rd_int.mpr rfl⟩
theorem ji_range1 (hg : Gl X "range") (hm : X.mg "range" = none) (ha : JDs X W pu [a] ms) (hs : starEach [a] X.env = [(false, eval a X.env)] := by rfl) : JI X W pu tg (.Call (.Name "range" p) [a] [] pos) (iRg rng1 ms) := by
  refine ⟨PI.imp (pi_range1 hg hm ha.pa hs) fun σ H R ⟨pv, A, γ, S, E, w⟩ => ⟨pv, A, γ, S, E, seqDs w fun ds γ1 v H1 S1 go p E1 r w1 => ?_⟩, fun z => quiet_bind (ha.quiet z) fun d => quiet_opt _ (fun ds γ => Out.ok ds γ) fun _ => quiet_ok _⟩
  cases q : rng1 ds with
  | none => rw [q] at w1; exact w1.elim
  | some rs =>
    rw [q] at w1
    unfold rng1 at q
    split at q
    · split at q <;> cases q
      rename_i j h
      obtain ⟨x, e1, r1⟩ := rds1 r
      rw [rd_int] at r1
      have h' := of_decide_eq_true h
      exact ⟨j, by rw [e1, r1], (by omega), (by omega), w1 _ H1 S1 go p E1 (itok_rng 0 _)⟩
    · cases q
end
end Tw

namespace Tw
open PySem PySem.Spec L2

def okArgs (wb : List Nat) : Nat → List M → Bool
  | _, [] => true
  | i, m :: ms => (if wb.contains i = true then !isDead m else nonOwn m) && okArgs wb (i + 1) ms
def runF (wb : List Nat) (k : Nat) (body : MS) (ms : List M) : Out M :=
  if okArgs wb 0 ms = true then match body (ms ++ List.replicate k .dead) with
    | .ok (.ret r) γ => ofO (back wb 0 ms γ) fun b => .ok r b
    | .ok .nx γ => ofO (back wb 0 ms γ) fun b => .ok (.fz .none) b
    | .err c γ => ofO (back wb 0 ms γ) fun b => .err c b
    | _ => .bad
  else .bad
section
variable {K : Fr} {mg : Mg} {A : Ad} {H : Hp} {U : Addr → Prop} {S : List Addr} {wb : List Nat}
theorem rs_dead : ∀ (k : Nat), RS K mg H U (List.replicate k .dead) (List.replicate k none) []
  | 0 => by rw [List.replicate_zero, List.replicate_zero, RS]; exact ⟨rfl, rfl⟩
  | k + 1 => by
    rw [List.replicate_succ, List.replicate_succ, RS]
    exact ⟨none, _, [], [], rfl, rfl, rfl, rs_dead k⟩
theorem rs_start (k : Nat) : ∀ {ms : List M} {vs : List V} {S : List Addr}, RMs K mg H U ms vs S → RS K mg H U (ms ++ List.replicate k .dead) (vs.map some ++ List.replicate k none) S
  | [], vs, S, h => by
    rw [RMs] at h
    obtain ⟨e1, e2⟩ := h
    subst e1 e2
    exact rs_dead k
  | m :: ms, _, _, h => by
    rw [RMs] at h
    obtain ⟨v, ws, S1, S2, e, z, r, q⟩ := h
    subst e z
    show RS K mg H U (m :: (ms ++ _)) (some v :: (ws.map some ++ _)) _
    rw [RS]
    exact ⟨_, _, S1, S2, rfl, rfl, R1.of r, rs_start k q⟩
theorem back_ok {wb : List Nat} {U0 : Addr → Prop} {H0 : Hp} : ∀ {ms : List M} {vs : List V} {S0 : List Addr} (i : Nat) {γ : Γ} {σ : L2.St} {S : List Addr} {b : List M}, RMs K mg H0 U0 ms vs S0 → RS K mg H U γ σ S → okArgs wb i ms = true →
    (∀ j v, wb.contains (i + j) = true → vs[j]? = some v → σ[j]? = some (some v)) → back wb i ms γ = some b → (∀ m v, nonOwn m = true → RM K mg H0 U0 m v [] → RM K mg H U m v []) → S.Nodup →
    ∃ S', RMs K mg H U b vs S' ∧ S'.Nodup ∧ ∀ a ∈ S', a ∈ S
  | [], vs, S0, i, γ, σ, S, b, h, _, _, _, e, _, _ => by
    rw [RMs] at h
    cases γ <;> cases e <;> exact ⟨[], by rw [RMs]; exact ⟨h.1, rfl⟩, List.nodup_nil, fun _ z => nomatch z⟩
  | m :: ms, vs, S0, i, [], σ, S, b, _, _, _, _, e, _, _ => by cases e
  | m :: ms, vs, S0, i, g :: γ, σ, S, b, h, hs, hk, hp, e, hn, nd => by
    rw [RMs] at h
    obtain ⟨v, ws, T1, T2, e1, z, r, q⟩ := h
    rw [RS] at hs
    obtain ⟨s, σ', S1, S2, e2, z2, r2, q2⟩ := hs
    subst e1 e2 z2
    obtain ⟨n1, n2, dj⟩ := List.nodup_append.mp nd
    unfold okArgs at hk
    rw [Bool.and_eq_true] at hk
    unfold back at e
    cases hb : back wb (i + 1) ms γ with
    | none => rw [hb] at e; cases e
    | some b' =>
      rw [hb] at e
      obtain ⟨S', h1, h2, h3⟩ := back_ok (i + 1) q q2 hk.2 (fun j w hj hw => by
        have := hp (j + 1) w (by rw [← hj]; congr 1; omega) (by simpa using hw)
        simpa using this) hb hn n2
      have e' : (if wb.contains i = true then (if isDead g = true then none else some (g :: b')) else some (m :: b')) = some b := e
      by_cases hw : wb.contains i = true
      · rw [if_pos hw] at e'
        have hσ := hp 0 v (by simpa using hw) rfl
        have es : s = some v := by simpa using hσ
        subst es
        by_cases hd : isDead g = true
        · rw [if_pos hd] at e'; cases e'
        · rw [if_neg hd] at e'
          cases e'
          obtain ⟨v', ev, rm⟩ := r2.val (by intro z; rw [z] at hd; exact hd rfl)
          cases ev
          refine ⟨S1 ++ S', ?_, List.nodup_append.mpr ⟨n1, h2, fun a ha b hb z => dj a ha b (h3 b hb) z⟩, fun a ha => ?_⟩
          · rw [RMs]
            exact ⟨v, ws, S1, S', rfl, rfl, rm, h1⟩
          · rcases List.mem_append.mp ha with ha | ha
            · exact List.mem_append_left _ ha
            · exact List.mem_append_right _ (h3 a ha)
      · rw [if_neg hw] at e'
        cases e'
        have hn1 : nonOwn m = true := by
          have := hk.1
          rw [if_neg hw] at this
          exact this
        have := nonOwn_S r hn1
        subst this
        refine ⟨S', ?_, h2, fun a ha => List.mem_append_right _ (h3 a ha)⟩
        rw [RMs]
        exact ⟨v, ws, [], S', rfl, rfl, hn m v hn1 r, h1⟩
end

section
variable {P : Program} {w : World} {K : Fr} {mg : Str → Option Value} {base : Heap} {wb : List Nat}
theorem fn_ok {x qual : Str} {params : Arguments} {bd : List Stmt} {sc : Scope} {dvs : List V} {kws : List (Str × V)} {f : Addr} {fd : FuncData} {N ps : List Str} {k : Nat} {m : MS} (F : FunD K x qual params bd sc dvs kws f fd) (Sc : FnScope N ps sc) (hlen : ps.length ≤ N.length)
    (body : ∀ (cdv : Value) (A : Around) (outer : List PySem.Env) (s : Shared) (H : Hp) (E : XK), Room k (A.deeper (PyProof.Rows.envOfC qual sc s.heap.objs.size f cdv)) →
      JB (cxOf (L2.CX P w) P w K mg base N qual sc f cdv A outer s H E) (fun cls d _ H => E cls d H) wb bd m) :
    FnOk P w K mg base (L2.CX P w) (k + 1) f fd ps (spM K ⟨mg, w⟩ ps.length (runF wb (N.length - ps.length) m)) := by
  refine F.ok Sc (fun vs H Q E h => ?_) (fun cdv A outer s H vs Q E hr h => ⟨_, (body cdv A outer s H E hr).ps, ?_⟩)
  · obtain ⟨A, ms, S, hl, a, _⟩ := h
    rw [a.rep.length, hl]
  · obtain ⟨A, ms, S, hl, a, wf⟩ := h
    have hvl : vs.length = ps.length := by rw [a.rep.length, hl]
    unfold runF at wf
    by_cases hk : okArgs wb 0 ms = true
    · rw [if_pos hk] at wf
      have E0 : Env K ⟨mg, w⟩ (fun i => if wb.contains i = true then vs[i]? else none) A (L2.start N vs) (ms ++ List.replicate (N.length - ps.length) .dead) H S := by
        refine ⟨?_, a.nd, a.am, fun i v hv => ?_⟩
        · unfold L2.start
          rw [hvl]
          exact rs_start _ a.rep
        · have hv' : (if wb.contains i = true then vs[i]? else none) = some v := hv
          split at hv'
          · unfold L2.start
            have hlt : i < vs.length := (List.getElem?_eq_some_iff.mp hv').1
            rw [List.getElem?_append_left (by simpa using hlt), List.getElem?_map, hv']
            rfl
          · cases hv'
      refine ⟨_, A, _, S, fun i hi => ?_, E0, ?_⟩
      · show (if wb.contains i = true then vs[i]? else none) = none
        rw [if_neg (by rw [hi]; exact Bool.false_ne_true)]
      · -- what stands behind the body
        have fin : ∀ {γ' : Γ} {b : List M} {A' : Ad} {σ' : L2.St} {H' : Hp} {S' T' : List Addr}, back wb 0 ms γ' = some b → Go H S H' (T' ++ S') → (∀ a, A' a → A a ∨ a ∈ T') → Env K ⟨mg, w⟩ (fun i => if wb.contains i = true then vs[i]? else none) A' σ' γ' H' S' →
            ∃ S'', Args K ⟨mg, w⟩ A' H' b vs S'' ∧ ∀ c ∈ S'', c ∈ S' := fun {γ' b A' σ' H' S' T'} hb go hA E' => by
          have hx : ∀ (m : M) (v : V), nonOwn m = true → RM K ⟨mg, w⟩ H (us A S) m v [] → RM K ⟨mg, w⟩ H' (us A' S') m v [] := fun m v hn rm => by
            refine RM.keep m v [] ⟨⟨fun b o q hn => go.obj b o q fun hb => ?_, fun b hb hn hu => ?_⟩, fun b hb => absurd hb (fun z => nomatch z)⟩ rm
            · obtain ⟨o', q', mo⟩ := RMs.mut ms vs S a.rep b hb
              rw [q] at q'
              cases q'
              exact hn mo (.inr hb)
            · rcases hu with hu | hu
              · rcases hA b hu with z | z
                · exact hn (.inl z)
                · exact (go.new b (List.mem_append_left _ z)).elim (fun z => hn (.inr z)) hb
              · exact (go.new b (List.mem_append_right _ hu)).elim (fun z => hn (.inr z)) hb
          obtain ⟨S'', h1, h2, h3⟩ := back_ok (wb := wb) 0 a.rep E'.rep hk (fun j v hj hv => E'.pin j v (by
            show (if wb.contains j = true then vs[j]? else none) = some v
            rw [if_pos (by simpa using hj)]
            exact hv)) hb hx E'.nd
          exact ⟨S'', ⟨RMs.keep b vs S'' ⟨⟨fun _ _ q _ => q, fun b hb hn hu => hn (hu.imp id (h3 b))⟩, fun _ _ _ q => q⟩ h1, h2, fun c hc => ⟨fun z => (E'.am c hc).1 (h3 c z), (E'.am c hc).2⟩⟩, h3⟩
        cases e : m (ms ++ List.replicate (N.length - ps.length) .dead) with
        | bad => rw [e] at wf; exact wf.elim
        | err c γ' =>
          rw [e] at wf
          have wf' : WantF K ⟨mg, w⟩ A H S vs Q E (ofO (back wb 0 ms γ') fun b => .err c b) := wf
          cases hb : back wb 0 ms γ' with
          | none => rw [hb] at wf'; exact wf'.elim
          | some b =>
            rw [hb] at wf'
            intro C σ' H' S' hC go E'
            obtain ⟨S'', ar, sub⟩ := fin (T' := []) hb go (fun a ha => .inl ha) E'
            exact wf' C H' S'' hC (go.sub sub) ar
        | ok fl γ' =>
          rw [e] at wf
          cases fl with
          | brk => exact wf.elim
          | ct => exact wf.elim
          | nx =>
            have wf' : WantF K ⟨mg, w⟩ A H S vs Q E (ofO (back wb 0 ms γ') fun b => .ok (.fz .none) b) := wf
            cases hb : back wb 0 ms γ' with
            | none => rw [hb] at wf'; exact wf'.elim
            | some b =>
              rw [hb] at wf'
              intro σ' H' S' go E'
              obtain ⟨S'', ar, sub⟩ := fin (T' := []) hb go (fun a ha => .inl ha) (env_nil E' |>.less fun a ha => .inl ha)
              refine wf' .non H' S'' [] (go.sub sub) ⟨RMs.keep b vs S'' ⟨⟨fun _ _ q _ => q, fun b _ hn hu => hn (us_nil hu)⟩, fun _ _ _ q => q⟩ ar.rep, ar.nd, fun a ha => ar.am a (ha.elim id fun z => nomatch z)⟩ ⟨rd_none.mpr rfl, rfl⟩ List.nodup_nil
          | ret r =>
            have wf' : WantF K ⟨mg, w⟩ A H S vs Q E (ofO (back wb 0 ms γ') fun b => .ok r b) := wf
            cases hb : back wb 0 ms γ' with
            | none => rw [hb] at wf'; exact wf'.elim
            | some b =>
              rw [hb] at wf'
              intro v σ' H' S' T go E' rm nd
              obtain ⟨S'', ar, sub⟩ := fin hb go (fun a ha => ha) E'
              refine wf' v H' S'' T (go.sub fun c hc => (List.mem_append.mp hc).elim (List.mem_append_left _) fun z => List.mem_append_right _ (sub c z)) ar (rm.same fun b _ hu => ?_) nd
              exact hu.imp id (sub b)
    · rw [if_neg hk] at wf
      exact wf.elim
end
end Tw

namespace Tw
open PySem PySem.Spec L2

section
variable {K : Fr} {mg : Mg} {pv : Pv} {A : Ad} {σ : L2.St} {γ : Γ} {H H' : Hp} {S S' T : List Addr} {U : Addr → Prop}
theorem rms_nonOwn : ∀ {ms : List M} {vs : List V} {S : List Addr}, RMs K mg H U ms vs S → ms.all nonOwn = true → S = []
  | [], _, _, h, _ => by rw [RMs] at h; exact h.2
  | m :: ms, _, _, h, n => by
    rw [RMs] at h
    obtain ⟨v, ws, S1, S2, e, z, r, q⟩ := h
    rw [List.all_cons, Bool.and_eq_true] at n
    rw [z, nonOwn_S r n.1, rms_nonOwn q n.2]
    rfl
end

section
variable {K : Fr} {mg : Mg} {pv : Pv} {A : Ad} {σ : L2.St} {γ : Γ} {H H' : Hp} {S S' T : List Addr} {U U' : Addr → Prop}
def takeAll : List Ar → Γ → Option (List M × Γ)
  | [], γ => some ([], γ)
  | .val m :: as, γ => (takeAll as γ).map fun p => (m :: p.1, p.2)
  | .slot i :: as, γ => (γ[i]?).bind fun m => if isDead m = true then none else (takeAll as (γ.set i .dead)).map fun p => (m :: p.1, p.2)
def putAll : List Ar → List M → Γ → Option Γ
  | [], [], γ => some γ
  | .val _ :: as, _ :: ms, γ => putAll as ms γ
  | .slot i :: as, m :: ms, γ => putAll as ms (γ.set i m)
  | _, _, _ => none
theorem take_ok : ∀ {as : List Ar} {vs : List V} {A : Ad} {γ : Γ} {S : List Addr} {ms : List M} {γ' : Γ}, Env K mg pv A σ γ H S → RAr K mg H (us A S) σ as vs → takeAll as γ = some (ms, γ') →
    ∃ Sa S', Args K mg (adT A S') H ms vs Sa ∧ Env K mg pv (adT A Sa) σ γ' H S' ∧ ∀ b, b ∈ S ↔ b ∈ Sa ∨ b ∈ S'
  | [], vs, A, γ, S, ms, γ', E, r, e => by
    cases e
    rw [RAr] at r
    exact ⟨[], S, ⟨by rw [RMs]; exact ⟨r, rfl⟩, List.nodup_nil, fun a ha => ⟨(fun z => nomatch z), ha.elim (fun z => (E.am a z).2) fun z => E.here a (.inr z)⟩⟩, env_nil E, fun b => ⟨.inr, fun z => z.elim (fun z => nomatch z) id⟩⟩
  | .val m :: as, vs, A, γ, S, ms, γ', E, r, e => by
    rw [RAr] at r
    obtain ⟨v, ws, e1, n, rm, q⟩ := r
    unfold takeAll at e
    cases h : takeAll as γ with
    | none => rw [h] at e; cases e
    | some p =>
      rw [h] at e
      cases e
      obtain ⟨Sa, S', a, E', mem⟩ := take_ok E q h
      refine ⟨Sa, S', ⟨?_, a.nd, a.am⟩, E', mem⟩
      rw [RMs]
      refine ⟨v, ws, [], Sa, e1, rfl, rm.same fun b _ hu => ?_, a.rep⟩
      rcases hu with (z | z) | z
      · exact .inl z
      · exact .inr ((mem b).mpr (.inr z))
      · exact .inr ((mem b).mpr (.inl z))
  | .slot i :: as, vs, A, γ, S, ms, γ', E, r, e => by
    rw [RAr] at r
    obtain ⟨v, ws, e1, hσ, q⟩ := r
    unfold takeAll at e
    cases hm : γ[i]? with
    | none => rw [hm] at e; cases e
    | some m =>
      rw [hm] at e
      have e' : (if isDead m = true then none else (takeAll as (γ.set i .dead)).map fun p => (m :: p.1, p.2)) = some (ms, γ') := e
      by_cases hd : isDead m = true
      · rw [if_pos hd] at e'; cases e'
      · rw [if_neg hd] at e'
        cases h : takeAll as (γ.set i .dead) with
        | none => rw [h] at e'; cases e'
        | some p =>
          rw [h] at e'
          cases e'
          obtain ⟨v', S2, S1, hv, rm, n2, E1, mem1, ap⟩ := E.out hm (by intro z; rw [z] at hd; exact hd rfl)
          rw [hσ] at hv
          cases hv
          have q' : RAr K mg H (us (adT A S2) S1) σ as ws := q.keep ⟨fun _ _ q _ => q, fun b _ hn hu => hn (by
            rcases hu with (z | z) | z
            · exact .inl z
            · exact .inr ((mem1 b).mpr (.inl z))
            · exact .inr ((mem1 b).mpr (.inr z)))⟩
          obtain ⟨Sa, S', a, E', mem⟩ := take_ok E1 q' h
          have amS2 : ∀ b ∈ S2, b ∉ Sa ∧ b ∉ S' := fun b hb => ⟨(a.am b (.inl (.inr hb))).1, (E'.am b (.inl (.inr hb))).1⟩
          have uu : ∀ b, us (adT A S') (S2 ++ Sa) b → us A S b := fun b hu => by
            rcases hu with (z | z) | z
            · exact .inl z
            · exact .inr ((mem1 b).mpr (.inr ((mem b).mpr (.inr z))))
            · rcases List.mem_append.mp z with z | z
              · exact .inr ((mem1 b).mpr (.inl z))
              · exact .inr ((mem1 b).mpr (.inr ((mem b).mpr (.inl z))))
          refine ⟨S2 ++ Sa, S', ⟨?_, List.nodup_append.mpr ⟨n2, a.nd, fun c hc d hd z => (amS2 c hc).1 (z ▸ hd)⟩, fun c hc => ?_⟩, E'.less fun c hc => ?_, fun b => ?_⟩
          · rw [RMs]
            refine ⟨v, ws, S2, Sa, e1, rfl, rm.same fun b _ hu => uu b hu, RMs.same a.rep fun b _ hu => ?_⟩
            rcases hu with (z | z) | z
            · exact .inl (.inl (.inl z))
            · exact .inl (.inr z)
            · rcases List.mem_append.mp z with z | z
              · exact .inl (.inl (.inr z))
              · exact .inr z
          · rcases hc with hc | hc
            · refine ⟨fun z => (E.am c hc).1 ?_, (E.am c hc).2⟩
              rcases List.mem_append.mp z with z | z
              · exact (mem1 c).mpr (.inl z)
              · exact (mem1 c).mpr (.inr ((mem c).mpr (.inl z)))
            · refine ⟨fun z => ?_, (a.am c (.inr hc)).2⟩
              rcases List.mem_append.mp z with z | z
              · exact (amS2 c z).2 hc
              · exact (a.am c (.inr hc)).1 z
          · rcases hc with hc | hc
            · exact .inl (.inl hc)
            · rcases List.mem_append.mp hc with hc | hc
              · exact .inl (.inr hc)
              · exact .inr hc
          · rw [mem1 b, mem b, List.mem_append]
            constructor
            · rintro (h | h | h)
              · exact .inl (.inl h)
              · exact .inl (.inr h)
              · exact .inr h
            · rintro ((h | h) | h)
              · exact .inl h
              · exact .inr (.inl h)
              · exact .inr (.inr h)
theorem put_ok : ∀ {as : List Ar} {vs : List V} {A : Ad} {γ : Γ} {Sa S : List Addr} {ms : List M} {γ' : Γ}, Env K mg pv (adT A Sa) σ γ H S → RMs K mg H (us (adT A Sa) S) ms vs Sa → Sa.Nodup → (∀ a, A a → a ∉ Sa) →
    (∀ (j i : Nat) (v : V), as[j]? = some (.slot i) → vs[j]? = some v → σ[i]? = some (some v)) → putAll as ms γ = some γ' → ∃ S', Env K mg pv A σ γ' H S' ∧ ∀ b ∈ S', b ∈ Sa ++ S
  | [], vs, A, γ, Sa, S, ms, γ', E, r, nd, hA, hs, e => by
    cases ms <;> cases e
    exact ⟨S, E.less fun a ha => .inl ha, fun b hb => List.mem_append_right _ hb⟩
  | .val m :: as, vs, A, γ, Sa, S, ms, γ', E, r, nd, hA, hs, e => by
    cases ms with
    | nil => cases e
    | cons m' ms =>
      rw [RMs] at r
      obtain ⟨v, ws, T1, T2, e1, z, rm, q⟩ := r
      subst e1 z
      obtain ⟨n1, n2, dj⟩ := List.nodup_append.mp nd
      obtain ⟨S', E', sub⟩ := put_ok (A := A) (Sa := T2) (E.less fun a ha => ha.imp id fun z => List.mem_append_right _ z) (RMs.same q fun b _ hu => by
        rcases hu with (z | z) | z
        · exact .inl (.inl z)
        · exact .inl (.inr (List.mem_append_right _ z))
        · exact .inr z) n2 (fun a ha z => hA a ha (List.mem_append_right _ z)) (fun j i v h1 h2 => hs (j + 1) i v (by simpa using h1) (by simpa using h2)) e
      refine ⟨S', E', fun b hb => ?_⟩
      rcases List.mem_append.mp (sub b hb) with z | z
      · exact List.mem_append_left _ (List.mem_append_right _ z)
      · exact List.mem_append_right _ z
  | .slot i :: as, vs, A, γ, Sa, S, ms, γ', E, r, nd, hA, hs, e => by
    cases ms with
    | nil => cases e
    | cons m ms =>
      rw [RMs] at r
      obtain ⟨v, ws, T1, T2, e1, z, rm, q⟩ := r
      subst e1 z
      obtain ⟨n1, n2, dj⟩ := List.nodup_append.mp nd
      have uu : ∀ b, us (adT (adT A T2) T1) S b → us (adT A (T1 ++ T2)) S b := fun b hu => by
        rcases hu with ((z | z) | z) | z
        · exact .inl (.inl z)
        · exact .inl (.inr (List.mem_append_right _ z))
        · exact .inl (.inr (List.mem_append_left _ z))
        · exact .inr z
      have E1 : Env K mg pv (adT (adT A T2) T1) σ γ H S := E.less fun a ha => by
        rcases ha with (z | z) | z
        · exact .inl z
        · exact .inr (List.mem_append_right _ z)
        · exact .inr (List.mem_append_left _ z)
      obtain ⟨S1, E2, sub1⟩ := E1.back (hs 0 i v rfl rfl) (rm.same fun b _ hu => uu b hu) n1 (fun a ha hb => ha.elim (fun z => hA a z (List.mem_append_left _ hb)) fun z => dj a hb a z rfl)
      obtain ⟨S', E', sub⟩ := put_ok (A := A) (Sa := T2) E2 (RMs.same q fun b _ hu => by
        rcases hu with (z | z) | z
        · exact .inl (.inl z)
        · exact .inl (.inr (List.mem_append_right _ z))
        · rcases List.mem_append.mp (sub1 b z) with z | z
          · exact .inl (.inr (List.mem_append_left _ z))
          · exact .inr z) n2 (fun a ha z => hA a ha (List.mem_append_right _ z)) (fun j i v h1 h2 => hs (j + 1) i v (by simpa using h1) (by simpa using h2)) e
      refine ⟨S', E', fun b hb => ?_⟩
      rcases List.mem_append.mp (sub b hb) with z | z
      · exact List.mem_append_left _ (List.mem_append_right _ z)
      · rcases List.mem_append.mp (sub1 b z) with z | z
        · exact List.mem_append_left _ (List.mem_append_left _ z)
        · exact List.mem_append_right _ z
end
section
variable (K : Fr) (mg : Mg) (W : WX)
def WantR (pv : Pv) (A : Ad) (σ : L2.St) (H : Hp) (S : List Addr) (Q : List V → Hp → Prop) : Out (List Ar) → Prop :=
  WantG (fun as γ' => ∀ vs H' S', Go H S H' S' → Env K mg pv A σ γ' H' S' → RAr K mg H' (us A S') σ as vs → Q vs H') (ErE K mg W pv A σ H S)
def tR (m : Γ → Out (List Ar)) : TA := fun σ H Q => ∃ pv A γ S, Env K mg pv A σ γ H S ∧ WantR K mg W pv A σ H S Q (m γ)
end
structure JR (X : Cx) (W : WX) (es : List Expr) (m : MR) : Prop where
  pa : PA X es (tR X.K X.mgw W m)
def rNil : MR := fun γ => .ok [] γ
def rVal (me : ME) (mr : MR) : MR := fun γ => (me γ).bind fun r γ1 => if nonOwn r = true then (mr γ1).bind fun as γ2 => .ok (.val r :: as) γ2 else .bad
def rSlot (i : Nat) (mr : MR) : MR := fun γ => ofO (γ[i]?) fun m => if isDead m = true then .bad else (mr γ).bind fun as γ2 => .ok (.slot i :: as) γ2
theorem quiet_keep {α : Type} (o : Out α) : Quiet (fun γ => keepG o γ) := fun γ => by cases o <;> first | rfl | trivial
def mCall0 (f : List M → Out M) (ms : MA) : ME := fun γ => (ms γ).bind fun rs γ1 => if rs.all nonOwn = true then keepG (f rs) γ1 else .bad
def mCallW (f : List M → Out M) (mr : MR) : ME := fun γ => (mr γ).bind fun as γ1 => ofO (takeAll as γ1) fun p => match f p.1 with
  | .ok r ms' => ofO (putAll as ms' p.2) fun γ3 => .ok r γ3
  | .err c ms' => ofO (putAll as ms' p.2) fun γ3 => .err c γ3
  | .bad => .bad
theorem rar_slot {K : Fr} {mg : Mg} {H : Hp} {U : Addr → Prop} {σ : L2.St} : ∀ {as : List Ar} {vs : List V}, RAr K mg H U σ as vs → ∀ (j i : Nat) (v : V), as[j]? = some (.slot i) → vs[j]? = some v → σ[i]? = some (some v)
  | [], _, _, _, _, _, e, _ => by simp at e
  | .val m :: as, vs, h, j, i, v, e, e2 => by
    rw [RAr] at h
    obtain ⟨w, ws, e1, n, r, q⟩ := h
    subst e1
    cases j with
    | zero => simp at e
    | succ j => exact rar_slot q j i v (by simpa using e) (by simpa using e2)
  | .slot k :: as, vs, h, j, i, v, e, e2 => by
    rw [RAr] at h
    obtain ⟨w, ws, e1, r, q⟩ := h
    subst e1
    cases j with
    | zero =>
      have : k = i := by simpa using e
      have : w = v := by simpa using e2
      subst this; subst k
      exact r
    | succ j => exact rar_slot q j i v (by simpa using e) (by simpa using e2)
section
variable {X : Cx} {W : WX} {pu pu' : Bool} {e : Expr} {es : List Expr} {me : ME} {mas : MA} {mr : MR} {pos p : Pos} {k n : Nat} {f : Addr} {fd : FuncData} {ps : List Str} {g : List M → Out M} {x : Str}
theorem jr_nil : JR X W [] rNil := ⟨PA.imp pa_nil fun σ H Q ⟨pv, A, γ, S, E, w⟩ => w [] H S .refl E (by rw [RAr])⟩
theorem jr_val (h : J X W pu e me) (hr : JR X W es mr) (hs : starEach (e :: es) X.env = (false, eval e X.env) :: starEach es X.env := by rfl) : JR X W (e :: es) (rVal me mr) := by
  refine ⟨PA.imp (pa_cons h.pe hr.pa hs) fun σ H Q ⟨pv, A, γ, S, E, w⟩ => ⟨pv, A, γ, S, E, WantG.mono (WantG.bind w) (fun r γ1 w1 v H1 S1 T go p E1 rm nd => ?_) fun _ _ q => q⟩⟩
  by_cases hn : nonOwn r = true
  · rw [if_pos hn] at w1
    have := nonOwn_S rm hn
    subst this
    have E1' : Env X.K X.mgw pv A σ γ1 H1 S1 := E1.less fun a ha => .inl ha
    refine ⟨pv, A, γ1, S1, E1', WantG.mono w1.bind (fun as γ2 w2 vs H2 S2 go2 E2 ra => ?_) fun c g q => q.go go⟩
    refine w2 (v :: vs) H2 S2 (go.trans go2) E2 ?_
    rw [RAr]
    exact ⟨v, vs, rfl, hn, RM.keep r v [] ⟨E1'.keep go2, fun _ z => nomatch z⟩ (rm.same fun b _ hu => hu.imp .inl id), ra⟩
  · rw [if_neg hn] at w1
    exact w1.elim
theorem jr_slot (i : Nat) {mr : MR} (hr : JR X W es mr) (hN : X.N[i]? = some x := by rfl) (hv : Vis X.env.scope x := by first | exact Or.inl rfl | exact Or.inr (Or.inl rfl) | exact Or.inr (Or.inr rfl)) (hd : (x == ("__debug__" : Str)) = false := by decide)
    (hcd : (x == ("__classdict__" : Str)) = false := by decide) (hs : starEach (.Name x p :: es) X.env = (false, eval (.Name x p) X.env) :: starEach es X.env := by rfl) : JR X W (.Name x p :: es) (rSlot i mr) := by
  refine ⟨PA.imp (pa_cons (pe_var hN hv hd hcd) hr.pa hs) fun σ H Q ⟨pv, A, γ, S, E, w⟩ => ?_⟩
  unfold rSlot at w
  cases hm : γ[i]? with
  | none => rw [hm] at w; exact w.elim
  | some m =>
    rw [hm] at w
    have w' : WantR X.K X.mgw W pv A σ H S Q (if isDead m = true then .bad else (mr γ).bind fun as γ2 => .ok (.slot i :: as) γ2) := w
    by_cases hdm : isDead m = true
    · rw [if_pos hdm] at w'; exact w'.elim
    · rw [if_neg hdm] at w'
      obtain ⟨v, _, _, _, h1, _, _⟩ := E.get hm (by intro z; rw [z] at hdm; exact hdm rfl)
      refine ⟨v, h1, pv, A, γ, S, E, WantG.mono w'.bind (fun as γ2 w2 vs H2 S2 go2 E2 ra => ?_) fun c g q => q⟩
      refine w2 (v :: vs) H2 S2 go2 E2 ?_
      rw [RAr]
      exact ⟨v, vs, rfl, h1, ra⟩
theorem j_call0 (F : FnOk X.prog X.w X.K X.mg X.base (L2.CX X.prog X.w) k f fd ps (spM X.K X.mgw n g)) (hr : Room k X.A) (hg : Gl X x) (hm : X.mg x = some (.ref f)) (hk : PySem.W.keepIn X.K (.ref f) = true) (hb : Binds X.K fd ps []) (tk : Takes X W)
    (ha : JA X W pu (e :: es) mas) (hn : ∀ γ rs γ', mas γ = .ok rs γ' → rs.length = n) (hdb : (x == ("__debug__" : Str)) = false := by decide) (he : starEach (e :: es) X.env = (false, eval e X.env) :: starEach es X.env := by rfl) (hpl : (backTo pos (starEach es X.env)).any (·.1) = false := by rfl) :
    J X W pu (.Call (.Name x p) (e :: es) [] pos) (mCall0 g mas) := by
  refine ⟨PE.imp (pe_callS F hr hg hm hk hb (fun σ => passAt tk σ) ha.pe hdb he hpl) fun σ H Q ⟨pv, A, γ, S, E, w⟩ => ⟨pv, A, γ, S, E, ?_⟩, fun z => quiet_bind (ha.quiet z) fun rs => quiet_ite _ (quiet_keep _) quiet_bad⟩
  · unfold mCall0 at w
    cases em : mas γ with
    | bad => rw [em] at w; exact w
    | err c g => rw [em] at w; exact w
    | ok rs γ1 =>
      rw [em] at w
      intro vs H1 S1 T go p E1 rms nd
      have w1 : WantE X.K X.mgw W pu pv A σ H S Q (if rs.all nonOwn = true then keepG (g rs) γ1 else .bad) := w
      by_cases hno : rs.all nonOwn = true
      · rw [if_pos hno] at w1
        have := rms_nonOwn rms hno
        subst this
        have E1' : Env X.K X.mgw pv A σ γ1 H1 S1 := E1.less fun a ha => .inl ha
        refine ⟨adT A S1, rs, [], hn γ rs γ1 em, ⟨RMs.same rms fun b _ hu => ?_, List.nodup_nil, fun a ha => ⟨(fun z => nomatch z), ha.elim (fun z => (E1'.am a z).2) fun z => E1'.here a (.inr z)⟩⟩, ?_⟩
        · rcases hu with (z | z) | z
          · exact .inl (.inl z)
          · exact .inr z
          · exact nomatch z
        · cases eg : g rs with
          | bad => rw [eg] at w1; exact w1.elim
          | err c ms' =>
            rw [eg] at w1
            intro C H' S' hC go' _
            have sm : Same H1 H' := fun b o q => go'.obj b o q fun z => nomatch z
            exact w1 C H' S1 hC ((go.sub fun b hb => List.mem_append_right _ hb).trans (Go.same sm)) (E1'.same sm)
          | ok r ms' =>
            rw [eg] at w1
            intro v H' S' T' go' _ rm nd'
            have sm : Same H1 H' := fun b o q => go'.obj b o q fun z => nomatch z
            have n1 : ∀ b ∈ T', H1 b = none := fun b hb => (go'.new b (List.mem_append_left _ hb)).elim (fun z => nomatch z) id
            refine new_ok (go.sub fun b hb => List.mem_append_right _ hb) p E1' sm n1 (fun b hb => ?_) nd' (rm.same fun b _ hu => ?_) w1
            · obtain ⟨o, q, _⟩ := RM.mut r v T' rm b hb
              rw [q]
              exact (fun z => nomatch z)
            · rcases hu with (z | z) | z
              · exact .inl (.inl (.inl z))
              · exact .inl (.inl (.inr z))
              · exact .inl (.inr z)
      · rw [if_neg hno] at w1
        exact w1.elim
theorem j_callW (F : FnOk X.prog X.w X.K X.mg X.base (L2.CX X.prog X.w) k f fd ps (spM X.K X.mgw n g)) (hr : Room k X.A) (hg : Gl X x) (hm : X.mg x = some (.ref f)) (hk : PySem.W.keepIn X.K (.ref f) = true) (hb : Binds X.K fd ps []) (tk : Takes X W)
    (ha : JR X W (e :: es) mr) (hn : ∀ γ as γ', mr γ = .ok as γ' → as.length = n) (hdb : (x == ("__debug__" : Str)) = false := by decide) (he : starEach (e :: es) X.env = (false, eval e X.env) :: starEach es X.env := by rfl) (hpl : (backTo pos (starEach es X.env)).any (·.1) = false := by rfl) :
    J X W false (.Call (.Name x p) (e :: es) [] pos) (mCallW g mr) := by
  refine ⟨PE.imp (pe_callS F hr hg hm hk hb (fun σ => passAt tk σ) ha.pa hdb he hpl) fun σ H Q ⟨pv, A, γ, S, E, w⟩ => ⟨pv, A, γ, S, E, ?_⟩, fun z => nomatch z⟩
  unfold mCallW at w
  cases em : mr γ with
  | bad => rw [em] at w; exact w
  | err c g => rw [em] at w; exact w
  | ok as γ1 =>
    rw [em] at w
    intro vs H1 S1 go E1 ra
    have w1 : WantE X.K X.mgw W false pv A σ H S Q (ofO (takeAll as γ1) fun p => match g p.1 with | .ok r ms' => ofO (putAll as ms' p.2) fun γ3 => .ok r γ3 | .err c ms' => ofO (putAll as ms' p.2) fun γ3 => .err c γ3 | .bad => .bad) := w
    cases et : takeAll as γ1 with
    | none => rw [et] at w1; exact w1.elim
    | some q =>
      obtain ⟨ms, γ2⟩ := q
      rw [et] at w1
      have w2 : WantE X.K X.mgw W false pv A σ H S Q (match g ms with | .ok r ms' => ofO (putAll as ms' γ2) fun γ3 => .ok r γ3 | .err c ms' => ofO (putAll as ms' γ2) fun γ3 => .err c γ3 | .bad => .bad) := w1
      obtain ⟨Sa, S2, ar, E2, mem⟩ := take_ok E1 ra et
      have hl : ms.length = n := by
        rw [← hn γ as γ1 em]
        have t : ∀ (as : List Ar) (γ : Γ) (ms : List M) (γ' : Γ), takeAll as γ = some (ms, γ') → ms.length = as.length := by
          intro as
          induction as with
          | nil => intro γ ms γ' e; cases e; rfl
          | cons a as ih =>
            intro γ ms γ' e
            cases a with
            | val m =>
              unfold takeAll at e
              cases h : takeAll as γ with
              | none => rw [h] at e; cases e
              | some p => rw [h] at e; cases e; rw [List.length_cons, List.length_cons, ih γ p.1 p.2 h]
            | slot i =>
              unfold takeAll at e
              cases hm : γ[i]? with
              | none => rw [hm] at e; cases e
              | some m =>
                rw [hm] at e
                have e' : (if isDead m = true then none else (takeAll as (γ.set i .dead)).map fun p => (m :: p.1, p.2)) = some (ms, γ') := e
                split at e'
                · cases e'
                · cases h : takeAll as (γ.set i .dead) with
                  | none => rw [h] at e'; cases e'
                  | some p => rw [h] at e'; cases e'; rw [List.length_cons, List.length_cons, ih _ p.1 p.2 h]
        exact t as γ1 ms γ2 et
      refine ⟨adT A S2, ms, Sa, hl, ar, ?_⟩
      -- the frame's own stand behind the call
      have keepE : ∀ {H' : Hp} {T' Sa' : List Addr}, Go H1 Sa H' (T' ++ Sa') → Args X.K X.mgw (adT (adT A S2) T') H' ms vs Sa' ∨ True → (∀ a, adT (adT A S2) T' a → a ∉ Sa' ∧ H' a ≠ none) → (∀ b ∈ Sa', H' b ≠ none) → Env X.K X.mgw pv (adT (adT A T') Sa') σ γ2 H' S2 := fun {H' T' Sa'} go' _ am here => by
        have mu : ∀ b ∈ Sa, ∃ o, H1 b = some o ∧ isMut b o = true := RMs.mut ms vs Sa ar.rep
        refine ⟨RS.keep γ2 σ S2 ⟨⟨fun b o q hn => go'.obj b o q fun hb => ?_, fun b hb hn hu => ?_⟩, fun b hb o q => go'.obj b o q (ar.am b (.inr hb)).1⟩ E2.rep, E2.nd, fun a ha => ?_, E2.pin⟩
        · obtain ⟨o', q', mo⟩ := mu b hb
          rw [q] at q'
          cases q'
          exact hn mo (.inl (.inr hb))
        · have nw : b ∈ T' ++ Sa' → False := fun z => (go'.new b z).elim (fun z => hn (.inl (.inr z))) hb
          rcases hu with ((z | z) | z) | z
          · exact hn (.inl (.inl z))
          · exact nw (List.mem_append_left _ z)
          · exact nw (List.mem_append_right _ z)
          · exact hn (.inr z)
        · rcases ha with (z | z) | z
          · exact ⟨(E2.am a (.inl z)).1, (am a (.inl (.inl z))).2⟩
          · refine ⟨fun h => ?_, (am a (.inr z)).2⟩
            rcases go'.new a (List.mem_append_left _ z) with y | y
            · exact (ar.am a (.inr h)).1 y
            · exact (ar.am a (.inr h)).2 y
          · exact ⟨fun h => (am a (.inl (.inr h))).1 z, here a z⟩
      have go2 : ∀ {H' : Hp} {T' Sa' S3 : List Addr}, Go H1 Sa H' (T' ++ Sa') → (∀ b ∈ S3, b ∈ Sa' ++ S2) → Go H S H' (T' ++ S3) := fun {H' T' Sa' S3} go' sub => by
        refine go.trans ⟨fun b o q hn => go'.obj b o q fun z => hn ((mem b).mpr (.inl z)), fun b hb => ?_, go'.keep⟩
        rcases List.mem_append.mp hb with hb | hb
        · exact (go'.new b (List.mem_append_left _ hb)).imp (fun z => (mem b).mpr (.inl z)) id
        · rcases List.mem_append.mp (sub b hb) with z | z
          · exact (go'.new b (List.mem_append_right _ z)).imp (fun z => (mem b).mpr (.inl z)) id
          · exact .inl ((mem b).mpr (.inr z))
      cases eg : g ms with
      | bad => rw [eg] at w2; exact w2.elim
      | err c ms' =>
        rw [eg] at w2
        have w3 : WantE X.K X.mgw W false pv A σ H S Q (ofO (putAll as ms' γ2) fun γ3 => .err c γ3) := w2
        intro C H' Sa' hC go' ar'
        cases ep : putAll as ms' γ2 with
        | none => rw [ep] at w3; exact w3.elim
        | some γ3 =>
          rw [ep] at w3
          have E3 := keepE (T' := []) (Sa' := Sa') go' (.inr trivial) (fun a ha => ar'.am a (ha.elim id fun z => nomatch z)) fun b hb => by
            obtain ⟨o, q, _⟩ := RMs.mut ms' vs Sa' ar'.rep b hb
            rw [q]
            exact (fun z => nomatch z)
          have E4 : Env X.K X.mgw pv (adT A Sa') σ γ2 H' S2 := E3.less fun a ha => ha.imp .inl id
          obtain ⟨S3, E5, sub⟩ := put_ok E4 (RMs.same ar'.rep fun b _ hu => by
            rcases hu with (z | z) | z
            · exact .inl (.inl z)
            · exact .inr z
            · exact .inl (.inr z)) ar'.nd (fun a ha => (ar'.am a (.inl ha)).1) (rar_slot ra) ep
          exact w3 C H' S3 hC (go2 (T' := []) go' sub) E5
      | ok r ms' =>
        rw [eg] at w2
        have w3 : WantE X.K X.mgw W false pv A σ H S Q (ofO (putAll as ms' γ2) fun γ3 => .ok r γ3) := w2
        intro v H' Sa' T' go' ar' rm nd'
        cases ep : putAll as ms' γ2 with
        | none => rw [ep] at w3; exact w3.elim
        | some γ3 =>
          rw [ep] at w3
          have E3 := keepE (T' := T') (Sa' := Sa') go' (.inr trivial) (fun a ha => ar'.am a ha) fun b hb => by
            obtain ⟨o, q, _⟩ := RMs.mut ms' vs Sa' ar'.rep b hb
            rw [q]
            exact (fun z => nomatch z)
          obtain ⟨S3, E5, sub⟩ := put_ok E3 (RMs.same ar'.rep fun b _ hu => by
            rcases hu with ((z | z) | z) | z
            · exact .inl (.inl (.inl z))
            · exact .inl (.inr z)
            · exact .inr z
            · exact .inl (.inl (.inr z))) ar'.nd (fun a ha => ha.elim (fun z => (ar'.am a (.inl (.inl z))).1) fun z => (ar'.am a (.inr z)).1) (rar_slot ra) ep
          refine w3 v H' S3 T' (go2 go' sub) (fun z => nomatch z) E5 (rm.same fun b _ hu => ?_) nd'
          rcases hu with (z | z) | z
          · exact .inl (.inl (.inl z))
          · exact .inl (.inr z)
          · rcases List.mem_append.mp (sub b z) with z | z
            · exact .inr z
            · exact .inl (.inl (.inr z))
end
end Tw

namespace Tw
open PySem PySem.Spec L2

section
variable {K : Fr} {mg : Mg} {pv : Pv} {A : Ad} {σ : L2.St} {γ : Γ} {F : M → Γ} {H H' : Hp} {S S' T : List Addr} {U : Addr → Prop}
theorem Env.foc (E : Env K mg pv A σ γ H S) {i : Nat} {m : M} (e : γ[i]? = some m) (hd : m ≠ .dead) : ∃ v, σ[i]? = some (some v) ∧ Foc K mg pv A σ (fun m' => γ.set i m') H S m v := by
  obtain ⟨s, S1, S2, S3, h1, h2, h3, h4⟩ := E.rep.get e
  obtain ⟨v, rfl, r⟩ := h3.val hd
  have nS := E.nd
  rw [h2] at nS
  obtain ⟨n1, n23, d1⟩ := List.nodup_append.mp nS
  obtain ⟨n2, n3, d2⟩ := List.nodup_append.mp n23
  have eσ : σ.set i (some v) = σ := by
    apply List.ext_getElem?
    intro j
    by_cases hj : i = j
    · subst hj
      rw [List.getElem?_set_self (List.getElem?_eq_some_iff.mp h1).1, h1]
    · rw [List.getElem?_set_ne hj]
  have mem : ∀ b, b ∈ S ↔ b ∈ S2 ∨ b ∈ S1 ++ S3 := fun b => by
    rw [h2]
    simp only [List.mem_append]
    constructor
    · rintro (h | h | h)
      · exact .inr (.inl h)
      · exact .inl h
      · exact .inr (.inr h)
    · rintro (h | h | h)
      · exact .inr (.inl h)
      · exact .inl h
      · exact .inr (.inr h)
  have apart : ∀ b ∈ S2, b ∉ S1 ++ S3 := fun b hb hc => by
    rcases List.mem_append.mp hc with hc | hc
    · exact d1 b hc b (List.mem_append_left _ hb) rfl
    · exact d2 b hb b hc rfl
  refine ⟨v, h1, S2, S1 ++ S3, (fun a ha => (E.am a ha).1), mem, apart, n2, r, fun A2 H' m' S' ho hk c1 c2 nd' rm => ?_⟩
  have mut2 := RM.mut m v S2 r
  -- what is kept: the other slots
  have apS : ∀ b ∈ S', b ∉ S1 ++ S3 := fun b hb hc => by
    rcases c2 b hb with z | z | z
    · exact apart b z hc
    · exact E.here b (.inr ((mem b).mpr (.inr hc))) z
    · exact (E.am b z).1 ((mem b).mpr (.inr hc))
  have kept : KeepM H H' (us A S) (us A2 (S1 ++ (S' ++ S3))) (S1 ++ S3) := ⟨⟨fun b o q hn => ho b o q fun hb => by
      obtain ⟨o', q', mo⟩ := mut2 b hb
      rw [q] at q'
      cases q'
      exact hn mo (.inr ((mem b).mpr (.inl hb))), fun b hb hn hu => by
      rcases hu with z | z
      · rcases (c1 b z).1 with y | y
        · exact hn (.inl y)
        · exact hn (.inr ((mem b).mpr (.inl y)))
      · rcases List.mem_append.mp z with z | z
        · exact hn (.inr ((mem b).mpr (.inr (List.mem_append_left _ z))))
        · rcases List.mem_append.mp z with z | z
          · rcases c2 b z with y | y | y
            · exact hn (.inr ((mem b).mpr (.inl y)))
            · exact hb y
            · exact hn (.inl y)
          · exact hn (.inr ((mem b).mpr (.inr (List.mem_append_right _ z))))⟩,
    fun b hb o q => ho b o q fun z => apart b z hb⟩
  have q0 := h4 .dead (some v) [] R1.dead
  rw [eσ] at q0
  have q1 : RS K mg H' (us A2 (S1 ++ (S' ++ S3))) (γ.set i .dead) σ (S1 ++ ([] ++ S3)) := RS.keep _ _ _ (by simpa using kept) q0
  have hi : i < γ.length := (List.getElem?_eq_some_iff.mp e).1
  have q2 : (γ.set i .dead)[i]? = some .dead := by rw [List.getElem?_set_self hi]
  -- by places, once more
  obtain ⟨s', T1, T2, T3, g1, g2, g3, g4⟩ := RS.get q1 q2
  have hT2 : T2 = [] := g3
  subst hT2
  have rm' := rm (us A2 (S1 ++ (S' ++ S3))) fun b hb => by
    rcases hb with z | z
    · exact .inl (.inl z)
    · rcases List.mem_append.mp z with z | z
      · exact .inr (List.mem_append_left _ z)
      · rcases List.mem_append.mp z with z | z
        · exact .inl (.inr z)
        · exact .inr (List.mem_append_right _ z)
  have q3 := g4 m' (some v) S' (R1.of rm')
  rw [eσ, List.set_set] at q3
  have memT : ∀ b, b ∈ T1 ++ T3 ↔ b ∈ S1 ++ S3 := fun b => by
    have z : S1 ++ ([] ++ S3) = T1 ++ ([] ++ T3) := g2
    rw [List.nil_append, List.nil_append] at z
    rw [z]
  have nT : (T1 ++ T3).Nodup := by
    have z : S1 ++ ([] ++ S3) = T1 ++ ([] ++ T3) := g2
    rw [List.nil_append, List.nil_append] at z
    rw [← z]
    exact List.nodup_append.mpr ⟨n1, n3, fun a ha b hb => d1 a ha b (List.mem_append_right _ hb)⟩
  obtain ⟨m1, m3, dj⟩ := List.nodup_append.mp nT
  have all : ∀ b, b ∈ T1 ++ (S' ++ T3) ↔ b ∈ S' ∨ b ∈ S1 ++ S3 := fun b => by
    rw [← memT b]
    simp only [List.mem_append]
    constructor
    · rintro (h | h | h)
      · exact .inr (.inl h)
      · exact .inl h
      · exact .inr (.inr h)
    · rintro (h | h | h)
      · exact .inr (.inl h)
      · exact .inl h
      · exact .inr (.inr h)
  refine ⟨T1 ++ (S' ++ T3), ⟨RS.keep _ _ _ ⟨⟨fun _ _ q _ => q, fun b _ hn hu => hn ?_⟩, fun _ _ _ q => q⟩ q3, ?_, fun a ha => ?_, E.pin⟩, all⟩
  · rcases hu with z | z
    · exact .inl z
    · refine .inr ?_
      rcases (all b).mp z with z | z
      · exact List.mem_append_right _ (List.mem_append_left _ z)
      · rcases List.mem_append.mp z with z | z
        · exact List.mem_append_left _ z
        · exact List.mem_append_right _ (List.mem_append_right _ z)
  · refine List.nodup_append.mpr ⟨m1, List.nodup_append.mpr ⟨nd', m3, fun a ha b hb z => ?_⟩, fun a ha b hb z => ?_⟩
    · subst z
      exact apS a ha ((memT a).mp (List.mem_append_right _ hb))
    · subst z
      rcases List.mem_append.mp hb with hb | hb
      · exact apS a hb ((memT a).mp (List.mem_append_left _ ha))
      · exact dj a ha a hb rfl
  · refine ⟨fun z => ?_, hk a ?_⟩
    · rcases (all a).mp z with z | z
      · exact (c1 a ha).2 z
      · rcases (c1 a ha).1 with y | y
        · exact (E.am a y).1 ((mem a).mpr (.inr z))
        · exact apart a y z
    · rcases (c1 a ha).1 with y | y
      · exact (E.am a y).2
      · exact E.here a (.inr ((mem a).mpr (.inl y)))
theorem Foc.ix (f : Foc K mg pv A σ F H S (.lst ms) v) {j : Nat} {c : M} (e : ms[j]? = some c) : ∃ a xs x, v = .ref a ∧ H a = some (.lst xs) ∧ xs.length = ms.length ∧ xs[j]? = some x ∧ Foc K mg pv A σ (fun c' => F (.lst (ms.set j c'))) H S c x := by
  obtain ⟨Sm, So, hA, mem, ap, nd, rm, k⟩ := f
  have mu := RM.mut _ _ _ rm
  rw [RM] at rm
  obtain ⟨a, xs, S', e1, h1, z, r⟩ := rm
  subst e1 z
  obtain ⟨x, S1, S2, S3, h2, h3, h4, h5⟩ := r.at e
  subst h3
  obtain ⟨na, nd'⟩ := List.nodup_cons.mp nd
  obtain ⟨n1, n23, d1⟩ := List.nodup_append.mp nd'
  obtain ⟨n2, n3, d2⟩ := List.nodup_append.mp n23
  have memL : ∀ b, b ∈ a :: (S1 ++ (S2 ++ S3)) ↔ b ∈ S2 ∨ b ∈ a :: (S1 ++ S3) := fun b => by
    simp only [List.mem_cons, List.mem_append]
    constructor
    · rintro (h | h | h | h)
      · exact .inr (.inl h)
      · exact .inr (.inr (.inl h))
      · exact .inl h
      · exact .inr (.inr (.inr h))
    · rintro (h | h | h | h)
      · exact .inr (.inr (.inl h))
      · exact .inl h
      · exact .inr (.inl h)
      · exact .inr (.inr (.inr h))
  have ap2 : ∀ b ∈ S2, b ∉ a :: (S1 ++ S3) := fun b hb hc => by
    rcases List.mem_cons.mp hc with z | hc
    · exact na (by rw [← z]; exact List.mem_append_right _ (List.mem_append_left _ hb))
    · rcases List.mem_append.mp hc with hc | hc
      · exact d1 b hc b (List.mem_append_left _ hb) rfl
      · exact d2 b hb b hc rfl
  refine ⟨a, xs, x, rfl, h1, r.length, h2, S2, (a :: (S1 ++ S3)) ++ So, hA, fun b => ?_, fun b hb hc => ?_, n2, h4, fun A2 H' m' S'' ho hk c1 c2 nd'' rm' => ?_⟩
  · rw [mem b, memL b, List.mem_append]
    constructor
    · rintro ((h | h) | h)
      · exact .inl h
      · exact .inr (.inl h)
      · exact .inr (.inr h)
    · rintro (h | h | h)
      · exact .inl (.inl h)
      · exact .inl (.inr h)
      · exact .inr h
  · rcases List.mem_append.mp hc with hc | hc
    · exact ap2 b hb hc
    · exact ap b ((memL b).mpr (.inl hb)) hc
  · have apS : ∀ b ∈ S'', b ∉ a :: (S1 ++ S3) := fun b hb hc => by
      have inS : b ∈ S := (mem b).mpr (.inl ((memL b).mpr (.inr hc)))
      rcases c2 b hb with z | z | z
      · exact ap2 b z hc
      · obtain ⟨o, q, _⟩ := mu b ((memL b).mpr (.inr hc))
        rw [z] at q
        cases q
      · exact hA b z inS
    have muS : ∀ b ∈ S2, ∃ o, H b = some o ∧ isMut b o = true := fun b hb => mu b ((memL b).mpr (.inl hb))
    have inS2 : ∀ b ∈ S2, b ∈ S := fun b hb => (mem b).mpr (.inl ((memL b).mpr (.inl hb)))
    have allP : ∀ b, b ∈ a :: (S1 ++ (S'' ++ S3)) ↔ b ∈ S'' ∨ b ∈ a :: (S1 ++ S3) := fun b => by
      simp only [List.mem_cons, List.mem_append]
      constructor
      · rintro (h | h | h | h)
        · exact .inr (.inl h)
        · exact .inr (.inr (.inl h))
        · exact .inl h
        · exact .inr (.inr (.inr h))
      · rintro (h | h | h | h)
        · exact .inr (.inr (.inl h))
        · exact .inl h
        · exact .inr (.inl h)
        · exact .inr (.inr (.inr h))
    have q1 : ∀ b, A2 b → (A b ∨ b ∈ a :: (S1 ++ (S2 ++ S3))) ∧ b ∉ a :: (S1 ++ (S'' ++ S3)) := fun b hb => ⟨(c1 b hb).1.imp id fun z => (memL b).mpr (.inl z), fun z => by
      rcases (allP b).mp z with z | z
      · exact (c1 b hb).2 z
      · rcases (c1 b hb).1 with y | y
        · exact hA b y ((mem b).mpr (.inl ((memL b).mpr (.inr z))))
        · exact ap2 b y z⟩
    have q2 : ∀ b ∈ a :: (S1 ++ (S'' ++ S3)), b ∈ a :: (S1 ++ (S2 ++ S3)) ∨ H b = none ∨ A b := fun b hb => by
      rcases (allP b).mp hb with z | z
      · exact (c2 b z).imp (fun y => (memL b).mpr (.inl y)) id
      · exact .inl ((memL b).mpr (.inr z))
    have q3 : (a :: (S1 ++ (S'' ++ S3))).Nodup := by
      refine List.nodup_cons.mpr ⟨fun z => ?_, List.nodup_append.mpr ⟨n1, List.nodup_append.mpr ⟨nd'', n3, fun c hc d hd z => apS c hc (List.mem_cons_of_mem _ (List.mem_append_right _ (z ▸ hd)))⟩, fun c hc d hd z => ?_⟩⟩
      · rcases List.mem_append.mp z with z | z
        · exact na (List.mem_append_left _ z)
        · rcases List.mem_append.mp z with z | z
          · exact apS a z List.mem_cons_self
          · exact na (List.mem_append_right _ (List.mem_append_right _ z))
      · subst z
        rcases List.mem_append.mp hd with hd | hd
        · exact apS c hd (List.mem_cons_of_mem _ (List.mem_append_left _ hc))
        · exact d1 c hc c (List.mem_append_right _ hd) rfl
    have q4 : ∀ U : Addr → Prop, (∀ b, U b → us A2 (a :: (S1 ++ (S'' ++ S3))) b ∨ b ∈ So) → RM K mg H' U (.lst (ms.set j m')) (.ref a) (a :: (S1 ++ (S'' ++ S3))) := fun U hU => by
      rw [RM]
      refine ⟨a, xs, S1 ++ (S'' ++ S3), rfl, ho a _ h1 fun z => na (List.mem_append_right _ (List.mem_append_left _ z)), rfl, (congrArg (fun l => RMs K mg H' U (ms.set j m') l (S1 ++ (S'' ++ S3))) (set_self h2)).mp (h5 H' U m' x S'' ⟨⟨fun b o q hn => ho b o q fun hb => ?_, fun b hb hn hu => ?_⟩, fun b hb o q => ho b o q fun z => ap2 b z (List.mem_cons_of_mem _ hb)⟩ (rm' U fun b hb => ?_))⟩
      · obtain ⟨o', q', mo⟩ := muS b hb
        rw [q] at q'
        cases q'
        exact hn mo (.inr (inS2 b hb))
      · rcases hU b hu with (z | z) | z
        · rcases (c1 b z).1 with y | y
          · exact hn (.inl y)
          · exact hn (.inr (inS2 b y))
        · rcases (allP b).mp z with z | z
          · rcases c2 b z with y | y | y
            · exact hn (.inr (inS2 b y))
            · exact hb y
            · exact hn (.inl y)
          · exact hn (.inr ((mem b).mpr (.inl ((memL b).mpr (.inr z)))))
        · exact hn (.inr ((mem b).mpr (.inr z)))
      · rcases hU b hb with (z | z) | z
        · exact .inl (.inl z)
        · rcases (allP b).mp z with z | z
          · exact .inl (.inr z)
          · exact .inr (List.mem_append_left _ z)
        · exact .inr (List.mem_append_right _ z)
    obtain ⟨S4, E4, m4⟩ := k A2 H' (.lst (ms.set j m')) (a :: (S1 ++ (S'' ++ S3))) (fun b o q hn => ho b o q fun z => hn ((memL b).mpr (.inl z))) hk q1 q2 q3 q4
    refine ⟨S4, E4, fun b => ?_⟩
    rw [m4 b, allP b, List.mem_append]
    constructor
    · rintro ((h | h) | h)
      · exact .inl h
      · exact .inr (.inl h)
      · exact .inr (.inr h)
    · rintro (h | h | h)
      · exact .inl (.inl h)
      · exact .inl (.inr h)
      · exact .inr h
end
end Tw

namespace Tw
open PySem PySem.Spec L2

section
variable (K : Fr) (mg : Mg)
def tP (mp : MP) : TE := fun σ H Q => ∃ pv A γ S m F, Env K mg pv A σ γ H S ∧ mp γ = some (m, F) ∧ ∀ v H', Same H H' → Env K mg pv A σ γ H' S → Foc K mg pv A σ F H' S m v → Q v H'
def tV (mv : Γ → Option D) : TE := fun σ H Q => ∃ pv A γ S d, Env K mg pv A σ γ H S ∧ mv γ = some d ∧ ∀ v H', Same H H' → Env K mg pv A σ γ H' S → RD K H' A d v → Q v H'
end
structure JP (X : Cx) (e : Expr) (mp : MP) : Prop where
  pe : PE X e (tP X.K X.mgw mp)
structure JV (X : Cx) (e : Expr) (mv : Γ → Option D) : Prop where
  pe : PE X e (tV X.K X.mgw mv)
def WF : WX := fun _ _ _ _ => False
section
variable {K : Fr} {mg : Mg} {pv : Pv} {A : Ad} {σ : L2.St} {γ : Γ} {F : M → Γ} {H H' : Hp} {S S' T : List Addr} {U : Addr → Prop} {m : M} {v : V}
theorem val_some {α : Type} {o : Out α} {a : α} (h : val o = some a) : ∃ g, o = .ok a g := by
  cases o <;> cases h
  exact ⟨_, rfl⟩
theorem rms_one (h : RM K mg H U m v S) : RMs K mg H U [m] [v] S := by
  rw [RMs]
  refine ⟨v, [], S, [], rfl, by rw [List.append_nil], h, ?_⟩
  rw [RMs]
  exact ⟨rfl, rfl⟩
end

section
variable {X : Cx} {W : WX} {pu pu' : Bool} {a b o e : Expr} {es : List Expr} {mp : MP} {ma mb md : MD} {me : ME} {pos apos p : Pos} {x : Str} {wb : List Nat}
def mpVar (i : Nat) : MP := fun γ => (γ[i]?).bind fun m => if isDead m = true then none else some (m, fun m' => γ.set i m')
theorem jp_var (i : Nat) (hN : X.N[i]? = some x := by rfl) (hv : Vis X.env.scope x := by first | exact Or.inl rfl | exact Or.inr (Or.inl rfl) | exact Or.inr (Or.inr rfl)) (hd : (x == ("__debug__" : Str)) = false := by decide)
    (hcd : (x == ("__classdict__" : Str)) = false := by decide) : JP X (.Name x pos) (mpVar i) := by
  refine ⟨PE.imp (pe_var hN hv hd hcd) fun σ H Q ⟨pv, A, γ, S, m, F, E, em, q⟩ => ?_⟩
  unfold mpVar at em
  cases hm : γ[i]? with
  | none => rw [hm] at em; cases em
  | some m0 =>
    rw [hm] at em
    have em' : (if isDead m0 = true then none else some (m0, fun m' => γ.set i m')) = some (m, F) := em
    by_cases hdm : isDead m0 = true
    · rw [if_pos hdm] at em'; cases em'
    · rw [if_neg hdm] at em'
      cases em'
      obtain ⟨v, h1, f⟩ := E.foc hm (dead_ne hdm)
      exact ⟨v, h1, q v H (.refl H) E f⟩
theorem quiet_ofO {α β : Type} (o : Γ → Option α) (f : α → Γ → Out β) (h : ∀ a, Quiet (f a)) : Quiet (fun γ => ofO (o γ) fun a => f a γ) := fun γ => by
  show match ofO (o γ) fun a => f a γ with | .ok _ γ' => γ' = γ | .err _ γ' => γ' = γ | .bad => True
  cases o γ with
  | none => trivial
  | some a => exact h a γ
end
end Tw

namespace Tw
open PySem PySem.Spec L2

section
variable {K : Fr} {mg : Mg} {pv : Pv} {A : Ad} {σ : L2.St} {γ : Γ} {F : M → Γ} {H H' : Hp} {S S' T : List Addr} {U : Addr → Prop} {m : M} {v : V}
theorem Foc.app {ms : List M} {r : M} {x : V} (f : Foc K mg pv (adT A T) σ F H S (.lst ms) v) (rm : RM K mg H (us (adT A T) S) r x T) (nd : T.Nodup) (hA : ∀ a, A a → a ∉ T) :
    ∃ a xs, v = .ref a ∧ H a = some (.lst xs) ∧ xs.length = ms.length ∧ ∃ S2, Env K mg pv A σ (F (.lst (ms ++ [r]))) (upd H a (.lst (xs ++ [x]))) S2 ∧ Go H (T ++ S) (upd H a (.lst (xs ++ [x]))) S2 := by
  obtain ⟨a, xs, Si, e1, h1, rs, sub, ndS, dis, wr⟩ := f.write
  have hT : ∀ b ∈ T, b ∉ S := fun b hb => dis b (.inr hb)
  obtain ⟨na, nS⟩ := List.nodup_cons.mp ndS
  have q1 : ∀ b, A b → (adT A T b ∨ b ∈ a :: Si) ∧ b ∉ a :: (Si ++ T) := fun b hb => ⟨.inl (.inl hb), fun z => by
    rcases List.mem_cons.mp z with z | z
    · exact dis b (.inl hb) (sub b (by rw [z]; exact List.mem_cons_self))
    · rcases List.mem_append.mp z with z | z
      · exact dis b (.inl hb) (sub b (List.mem_cons_of_mem _ z))
      · exact hA b hb z⟩
  have q2 : ∀ b ∈ Si ++ T, b ∈ Si ∨ adT A T b := fun b hb => (List.mem_append.mp hb).imp id .inr
  have q3 : (a :: (Si ++ T)).Nodup := by
    refine List.nodup_cons.mpr ⟨fun z => ?_, List.nodup_append.mpr ⟨nS, nd, fun c hc d hd z => ?_⟩⟩
    · rcases List.mem_append.mp z with z | z
      · exact na z
      · exact hT a z (sub a List.mem_cons_self)
    · subst z
      exact hT c hd (sub c (List.mem_cons_of_mem _ hc))
  obtain ⟨S4, E4, m4⟩ := wr A (xs ++ [x]) (ms ++ [r]) (Si ++ T) q1 q2 q3 fun U kp => by
    refine RMs.append (ms' := [r]) (xs' := [x]) (RMs.keep ms xs Si kp rs) (rms_one (RM.keep r x T ⟨kp.toKeep, fun b hb o q => ?_⟩ rm))
    have hne : b ≠ a := fun z => hT b hb (sub b (by rw [z]; exact List.mem_cons_self))
    rw [upd_ne hne]
    exact q
  refine ⟨a, xs, e1, h1, rs.length, S4, E4, ?_⟩
  have ha : a ∈ T ++ S := List.mem_append_right _ (sub a List.mem_cons_self)
  refine go_upd (Si' := T ++ S) ha (fun b hb => hb) fun b hb => ?_
  rcases m4 b hb with z | z
  · rcases List.mem_append.mp z with z | z
    · exact .inl (List.mem_append_right _ (sub b (List.mem_cons_of_mem _ z)))
    · exact .inl (List.mem_append_left _ z)
  · exact .inl (List.mem_append_right _ z)
theorem Foc.pop {ms : List M} {c : M} {j : Nat} (f : Foc K mg pv A σ F H S (.lst ms) v) (hj : ms[j]? = some c) :
    ∃ a xs x, v = .ref a ∧ H a = some (.lst xs) ∧ xs.length = ms.length ∧ xs[j]? = some x ∧ ∃ T S2, T.Nodup ∧ RM K mg (upd H a (.lst (xs.eraseIdx j))) (us (adT A T) S2) c x T ∧ Env K mg pv (adT A T) σ (F (.lst (ms.eraseIdx j))) (upd H a (.lst (xs.eraseIdx j))) S2 ∧ Go H S (upd H a (.lst (xs.eraseIdx j))) (T ++ S2) := by
  obtain ⟨a, xs, Si, e1, h1, rs, sub, ndS, dis, wr⟩ := f.write
  have hjl : j < ms.length := (List.getElem?_eq_some_iff.mp hj).1
  obtain ⟨x, S1, T, S3, g1, g2, g3, g4⟩ := rs.at hj
  obtain ⟨na, nS⟩ := List.nodup_cons.mp ndS
  rw [g2] at nS
  obtain ⟨n1, n23, d1⟩ := List.nodup_append.mp nS
  obtain ⟨n2, n3, d2⟩ := List.nodup_append.mp n23
  have inT : ∀ b ∈ T, b ∈ Si := fun b hb => by rw [g2]; exact List.mem_append_right _ (List.mem_append_left _ hb)
  -- the rest of the items
  have er : ∀ {α : Type} (l : List α), l.eraseIdx j = l.take j ++ l.drop (j + 1) := fun l => List.eraseIdx_eq_take_drop_succ l j
  obtain ⟨P1, P2, p1, p2, p3⟩ := rms_split j rs
  have hd : ms.drop j = c :: ms.drop (j + 1) := by
    have := (List.getElem_cons_drop hjl).symm
    rw [List.getElem?_eq_getElem hjl] at hj
    rw [this, Option.some.inj hj]
  have hdx : xs.drop j = x :: xs.drop (j + 1) := by
    obtain ⟨l1, l2⟩ := List.getElem?_eq_some_iff.mp g1
    have := (List.getElem_cons_drop l1).symm
    rw [this, l2]
  rw [hd, hdx, RMs] at p3
  obtain ⟨x', ws, Q1, Q2, y1, y2, y3, y4⟩ := p3
  injection y1 with y5 y6
  subst y5
  have nP : (P1 ++ (Q1 ++ Q2)).Nodup := by rw [← y2, ← p1]; exact (List.nodup_cons.mp ndS).2
  obtain ⟨m1, m23, e4⟩ := List.nodup_append.mp nP
  obtain ⟨m2, m3, e5⟩ := List.nodup_append.mp m23
  have inP : ∀ b ∈ P1 ++ Q2, b ∈ Si := fun b hb => by
    rw [p1, y2]
    rcases List.mem_append.mp hb with hb | hb
    · exact List.mem_append_left _ hb
    · exact List.mem_append_right _ (List.mem_append_right _ hb)
  have inQ : ∀ b ∈ Q1, b ∈ Si := fun b hb => by
    rw [p1, y2]
    exact List.mem_append_right _ (List.mem_append_left _ hb)
  have apQ : ∀ b ∈ Q1, b ∉ P1 ++ Q2 := fun b hb hc => by
    rcases List.mem_append.mp hc with hc | hc
    · exact e4 b hc b (List.mem_append_left _ hb) rfl
    · exact e5 b hb b hc rfl
  have q1 : ∀ b, adT A Q1 b → (A b ∨ b ∈ a :: Si) ∧ b ∉ a :: (P1 ++ Q2) := fun b hb => by
    rcases hb with hb | hb
    · refine ⟨.inl hb, fun z => dis b hb (sub b ?_)⟩
      rcases List.mem_cons.mp z with z | z
      · rw [z]; exact List.mem_cons_self
      · exact List.mem_cons_of_mem _ (inP b z)
    · refine ⟨.inr (List.mem_cons_of_mem _ (inQ b hb)), fun z => ?_⟩
      rcases List.mem_cons.mp z with z | z
      · exact na (by rw [← z]; exact inQ b hb)
      · exact apQ b hb z
  have q3 : (a :: (P1 ++ Q2)).Nodup := List.nodup_cons.mpr ⟨fun z => na (inP a z), List.nodup_append.mpr ⟨m1, m3, fun c hc d hd => e4 c hc d (List.mem_append_right _ hd)⟩⟩
  obtain ⟨S4, E4, m4⟩ := wr (adT A Q1) (xs.eraseIdx j) (ms.eraseIdx j) (P1 ++ Q2) q1 (fun b hb => .inl (inP b hb)) q3 fun U kp => by
    have hh := RMs.append (RMs.keep _ _ _ (kp.sub fun b hb => inP b (List.mem_append_left _ hb)) p2) (RMs.keep _ _ _ (kp.sub fun b hb => inP b (List.mem_append_right _ hb)) y4)
    rw [← y6, ← er ms, ← er xs] at hh
    exact hh
  have inS4 : ∀ b ∈ S4, b ∈ S := fun b hb => (m4 b hb).elim (fun z => sub b (List.mem_cons_of_mem _ (inP b z))) id
  refine ⟨a, xs, x, e1, h1, rs.length, g1, Q1, S4, m2, ?_, E4, ?_⟩
  · refine RM.keep c x Q1 ⟨⟨fun b o q hn => ?_, fun b hb hn hu => ?_⟩, fun b hb o q => ?_⟩ y3
    · by_cases hba : b = a
      · subst hba
        rw [h1] at q
        cases q
        exact absurd (.inr (sub b List.mem_cons_self)) (hn rfl)
      · rw [upd_ne hba]; exact q
    · rcases hu with (z | z) | z
      · exact hn (.inl z)
      · exact hn (.inr (sub b (List.mem_cons_of_mem _ (inQ b z))))
      · exact hn (.inr (inS4 b z))
    · have hba : b ≠ a := fun z => na (by rw [← z]; exact inQ b hb)
      rw [upd_ne hba]; exact q
  · refine go_upd (Si' := S) (sub a List.mem_cons_self) (fun b hb => hb) fun b hb => ?_
    rcases List.mem_append.mp hb with hb | hb
    · exact .inl (sub b (List.mem_cons_of_mem _ (inQ b hb)))
    · exact .inl (inS4 b hb)
end
end Tw

namespace Tw
open PySem PySem.Spec L2

section
variable {X : Cx} {W : WX} {pu pu' : Bool} {a b o e : Expr} {es : List Expr} {mp : MP} {ma mb md mi : MD} {me : ME} {pos apos cpos p : Pos} {x : Str} {wb : List Nat}
def gSubP (mp : MP) (mi : MD) : MG := fun r γ => (mp γ).bind fun q => (val (mi γ)).bind fun d => match q.1, d with
  | .lst ms, .int k => (ixN ms.length k).map fun j => q.2 (.lst (ms.set j r))
  | _, _ => none
theorem jg_sub (ho : JP X o mp) (hi : JD X WF true b mi)
    (ha : ∀ v, assign (.Subscript o b pos) X.env v = (do
      let ov ← holding [v] (eval o X.env)
      let iv ← holding [v, ov] (eval b X.env)
      standAt pos
      holding [v, ov, iv] (setItem ov iv v)
      release [v, ov, iv] []) := by intro _; rfl) : JG X wb (.Subscript o b pos) (gSubP mp mi) := by
  refine ⟨PG.imp (pg_sub ho.pe hi.pe set_list ha) fun v σ H Q ⟨pv, A, γ, S, T, m, hp, hA, E, rm, nd, γ', em, w⟩ => ?_⟩
  unfold gSubP at em
  cases h1 : mp γ with
  | none => rw [h1] at em; cases em
  | some q1 =>
    obtain ⟨m1, F1⟩ := q1
    rw [h1] at em
    cases h2 : val (mi γ) with
    | none => rw [h2] at em; cases em
    | some d =>
      rw [h2] at em
      obtain ⟨g, h2'⟩ := val_some h2
      have eg : g = γ := by
        have := hi.quiet rfl γ
        rw [h2'] at this
        exact this
      subst eg
      refine ⟨pv, adT A T, g, S, m1, F1, E, h1, fun ov H1 s1 E1 f1 => ⟨pv, adT A T, g, S, E1, ?_⟩⟩
      rw [h2']
      intro y H2 S2 go p E2 rd
      obtain ⟨e2, s2⟩ := p rfl
      subst e2
      have f2 := f1.same s2 fun b => by
        by_cases hb : adT A T b
        · exact .inl (E1.am b hb).2
        · exact .inr hb
      cases m1 with
      | lst ms =>
        cases d with
        | int k =>
          cases hj : ixN ms.length k with
          | none => simp only [Option.bind_some, hj] at em; cases em
          | some j =>
            simp only [Option.bind_some, hj] at em
            cases em
            have rm2 := RM.keep m v T ⟨⟨fun b o q _ => (s1.trans s2) b o q, fun _ _ q => q⟩, fun b _ o q => (s1.trans s2) b o q⟩ rm
            obtain ⟨a1, xs, e1, h3, hl, S4, E4, go4⟩ := f2.set rm2 nd hA hj
            rw [rd_int] at rd
            refine ⟨a1, xs, k, j, e1, rd, h3, by rw [hl]; exact hj, w σ _ S4 ?_ E4⟩
            exact (Go.same (s1.trans s2)).trans go4
        | _ => cases em
      | _ => cases em

structure M1Ok (X : Cx) (o e : Expr) (name : Str) (apos cpos : Pos) : Prop where
  base : attributeBase o name X.env (eval o X.env) = eval o X.env
  few : ((backTo cpos (starEach (e :: []) X.env)).all (fun x => !x.1) && (backToKw cpos (keywordEach [] X.env)).all (fun x => x.1.isSome) && decide ((e :: []).length + ([] : List Keyword).length + (if ([] : List Keyword).isEmpty then 0 else 1) < 30)) = true
  line : (apos.endLine == cpos.line) = true
  star : starEach (e :: []) X.env = (false, eval e X.env) :: starEach [] X.env
  plain : (backTo cpos (starEach [] X.env)).any (·.1) = false
structure M0Ok (X : Cx) (o : Expr) (name : Str) (apos cpos : Pos) : Prop where
  base : attributeBase o name X.env (eval o X.env) = eval o X.env
  line : (apos.endLine == cpos.line) = true
def mApp (i : Nat) (me : ME) : ME := fun γ => match γ[i]? with
  | some (.lst _) => (me γ).bind fun r γ1 => match γ1[i]? with
    | some (.lst ms) => if decide (ms.length < sizeLine) = true then .ok (.fz .none) (γ1.set i (.lst (ms ++ [r]))) else .bad
    | _ => .bad
  | _ => .bad
theorem disj_of {K : Fr} {mg : Mg} {pv : Pv} {A : Ad} {σ : L2.St} {γ : Γ} {H H1 : Hp} {S S1 T : List Addr} (E : Env K mg pv A σ γ H S) (go : Go H S H1 (T ++ S1)) : ∀ a, A a → a ∉ T := fun a ha hb => (go.new a (List.mem_append_left _ hb)).elim (E.am a ha).1 (E.am a ha).2
theorem j_app (i : Nat) (he : J X W pu e me) (hN : X.N[i]? = some x := by rfl) (hv : Vis X.env.scope x := by first | exact Or.inl rfl | exact Or.inr (Or.inl rfl) | exact Or.inr (Or.inr rfl)) (hd : (x == ("__debug__" : Str)) = false := by decide) (hcd : (x == ("__classdict__" : Str)) = false := by decide)
    (k : M1Ok X (.Name x pos) e "append" apos cpos := by exact ⟨rfl, rfl, rfl, rfl, rfl⟩) : J X W false (.Call (.Attribute (.Name x pos) "append" apos) [e] [] cpos) (mApp i me) := by
  refine ⟨PE.imp (pe_bm (es := []) PySem.F.plainAttrs_list PySem.F.slot_list_append PySem.F.type_list_append mt_append (pe_var hN hv hd hcd) (pa_cons he.pe pa_nil k.star) k.base k.few k.line k.star k.plain) fun σ H Q ⟨pv, A, γ, S, E, w⟩ => ?_, fun z => nomatch z⟩
  unfold mApp at w
  split at w
  · rename_i ms0 em
    obtain ⟨v, hσ, f⟩ := E.foc em (by intro z; cases z)
    obtain ⟨a0, xs0, _, e0, h0, _⟩ := f.write
    subst e0
    refine ⟨.ref a0, hσ, .inl ⟨rfl, xs0, SqL.of h0⟩, pv, A, γ, S, E, ?_⟩
    cases ee : me γ with
    | bad => rw [ee] at w; exact w.elim
    | err c g => rw [ee] at w; exact w
    | ok r γ1 =>
      rw [ee] at w
      intro y H1 S1 T go p E1 rm nd
      have w1 : WantE X.K X.mgw W false pv A σ H S Q (match γ1[i]? with | some (.lst ms) => if decide (ms.length < sizeLine) = true then .ok (.fz .none) (γ1.set i (.lst (ms ++ [r]))) else .bad | _ => .bad) := w
      split at w1
      · rename_i ms em1
        split at w1
        · rename_i hl
          obtain ⟨v1, hσ1, f1⟩ := E1.foc em1 (by intro z; cases z)
          rw [hσ] at hσ1
          cases hσ1
          obtain ⟨a, xs, e1, h1, hlen, S2, E2, go2⟩ := f1.app rm nd (disj_of E go)
          cases e1
          refine ⟨_, xs, y, rfl, rfl, h1, by rw [hlen]; exact of_decide_eq_true hl, ?_⟩
          refine w1 .non _ S2 [] ?_ (fun z => nomatch z) (env_nil E2) ⟨rd_none.mpr rfl, rfl⟩ List.nodup_nil
          exact go.trans go2
        · exact w1.elim
      · exact w1.elim
  · exact w.elim
def mPopAt (mp : MP) (md : MD) : ME := fun γ => ofO (mp γ) fun q => ofO (val (md γ)) fun d => match q.1, d with
  | .lst ms, .int k => if k.natAbs < 9223372036854775808 then ofO (seqIndex? k ms.length) fun j => ofO (ms[j]?) fun c => .ok c (q.2 (.lst (ms.eraseIdx j))) else .bad
  | _, _ => .bad
theorem j_popAt (ho : JP X o mp) (he : JD X WF true e md) (k : M1Ok X o e "pop" apos cpos := by exact ⟨rfl, rfl, rfl, rfl, rfl⟩) : J X W false (.Call (.Attribute o "pop" apos) [e] [] cpos) (mPopAt mp md) := by
  refine ⟨PE.imp (pe_bm (es := []) PySem.F.plainAttrs_list PySem.F.slot_list_pop PySem.F.type_list_pop mt_popAt ho.pe (pa_cons he.pe pa_nil k.star) k.base k.few k.line k.star k.plain) fun σ H Q ⟨pv, A, γ, S, E, w⟩ => ?_, fun z => nomatch z⟩
  unfold mPopAt at w
  cases em : mp γ with
  | none => rw [em] at w; exact w.elim
  | some q =>
    obtain ⟨m, F⟩ := q
    rw [em] at w
    cases ed : val (md γ) with
    | none => rw [ed] at w; exact w.elim
    | some d =>
      rw [ed] at w
      obtain ⟨g, ed'⟩ := val_some ed
      have eg : g = γ := by
        have := he.quiet rfl γ
        rw [ed'] at this
        exact this
      subst eg
      cases m with
      | lst ms =>
        cases d with
        | int kk =>
          refine ⟨pv, A, g, S, _, F, E, em, fun v H1 s1 E1 f1 => ?_⟩
          obtain ⟨a0, xs0, _, e0, h0, _⟩ := f1.write
          subst e0
          refine ⟨.inl ⟨rfl, xs0, SqL.of h0⟩, pv, A, g, S, E1, ?_⟩
          rw [ed']
          intro y H2 S2 go p E2 rd
          obtain ⟨e2, s2⟩ := p rfl
          subst e2
          have w1 : WantE X.K X.mgw W false pv A σ H S2 Q (if kk.natAbs < 9223372036854775808 then ofO (seqIndex? kk ms.length) fun j => ofO (ms[j]?) fun c => .ok c (F (.lst (ms.eraseIdx j))) else .bad) := w
          split at w1
          · rename_i hl
            cases ej : seqIndex? kk ms.length with
            | none => rw [ej] at w1; exact w1.elim
            | some j =>
              rw [ej] at w1
              cases ec : ms[j]? with
              | none => simp only [ofO_some, ec] at w1; exact w1.elim
              | some c =>
                simp only [ofO_some, ec] at w1
                obtain ⟨a, xs, x, e1, h1, hlen, hx, T, S4, nd, rm, E4, go4⟩ := (f1.at s2 E1).pop ec
                cases e1
                rw [rd_int] at rd
                refine ⟨_, xs, kk, j, x, rfl, by rw [rd], h1, (by omega), (by omega), by rw [hlen]; exact ej, hx, ?_⟩
                exact w1 x _ S4 T ((Go.same (s1.trans s2)).trans go4) (fun z => nomatch z) E4 rm nd
          · exact w1.elim
        | _ => exact w.elim
      | _ => exact w.elim
def mMove (i : Nat) : ME := fun γ => ofO (γ[i]?) fun m => if isDead m = true then .bad else .ok m (γ.set i .dead)
theorem j_move (i : Nat) (hN : X.N[i]? = some x := by rfl) (hv : Vis X.env.scope x := by first | exact Or.inl rfl | exact Or.inr (Or.inl rfl) | exact Or.inr (Or.inr rfl)) (hd : (x == ("__debug__" : Str)) = false := by decide)
    (hcd : (x == ("__classdict__" : Str)) = false := by decide) : J X W false (.Name x pos) (mMove i) := by
  refine ⟨PE.imp (pe_var hN hv hd hcd) fun σ H Q ⟨pv, A, γ, S, E, w⟩ => ?_, fun z => nomatch z⟩
  unfold mMove at w
  cases em : γ[i]? with
  | none => rw [em] at w; exact w.elim
  | some m =>
    rw [em] at w
    have w1 : WantE X.K X.mgw W false pv A σ H S Q (if isDead m = true then .bad else .ok m (γ.set i .dead)) := w
    split at w1
    · exact w1.elim
    · rename_i hdm
      obtain ⟨v, S2, S', hσ, rm, nd, E', mem, ap⟩ := E.out em (dead_ne hdm)
      refine ⟨v, hσ, w1 v H S' S2 (Go.refl.sub fun b hb => (mem b).mpr (List.mem_append.mp hb)) (fun z => nomatch z) E' (rm.same fun b _ hu => ?_) nd⟩
      rcases hu with (z | z) | z
      · exact .inl z
      · exact .inr ((mem b).mpr (.inl z))
      · exact .inr ((mem b).mpr (.inr z))
def mName (i : Nat) : ME := fun γ => ofO (γ[i]?) fun m => if nonOwn m = true then .ok m γ else .bad
theorem j_name (i : Nat) (hN : X.N[i]? = some x := by rfl) (hv : Vis X.env.scope x := by first | exact Or.inl rfl | exact Or.inr (Or.inl rfl) | exact Or.inr (Or.inr rfl)) (hd : (x == ("__debug__" : Str)) = false := by decide)
    (hcd : (x == ("__classdict__" : Str)) = false := by decide) : J X W true (.Name x pos) (mName i) := by
  refine ⟨PE.imp (pe_var hN hv hd hcd) fun σ H Q ⟨pv, A, γ, S, E, w⟩ => ?_, fun _ => quiet_ofO (fun γ => γ[i]?) (fun m γ => if nonOwn m = true then Out.ok m γ else .bad) fun m => quiet_ite _ (quiet_ok m) quiet_bad⟩
  unfold mName at w
  cases em : γ[i]? with
  | none => rw [em] at w; exact w.elim
  | some m =>
    rw [em] at w
    have w1 : WantE X.K X.mgw W true pv A σ H S Q (if nonOwn m = true then .ok m γ else .bad) := w
    split at w1
    · rename_i hn
      obtain ⟨v, S1, S2, S3, hσ, _, rm⟩ := E.get em (by intro z; rw [z] at hn; cases hn)
      have := nonOwn_S rm hn
      subst this
      exact ⟨v, hσ, w1 v H S [] .refl (fun _ => ⟨rfl, .refl H⟩) (env_nil E) (rm.same fun b _ hu => us_nil hu) List.nodup_nil⟩
    · exact w1.elim
def mScrSl (i : Nat) (ml mh : MO) : MD := fun γ => match γ[i]? with
  | some (.scr ns) => (ml γ).bind fun lo γ2 => (mh γ2).bind fun hi γ3 => .ok (.list (((ns.drop (HT.sIx ns.length 0 lo)).take (HT.sIx ns.length ns.length hi - HT.sIx ns.length 0 lo)).map .int)) γ3
  | _ => .bad
theorem rds_ints {K : Fr} {H : Hp} {U : Addr → Prop} : ∀ ns : List Int, RDs K H U (ns.map .int) (ns.map V.int)
  | [] => by rw [List.map_nil, List.map_nil, RDs]
  | n :: ns => by rw [List.map_cons, List.map_cons, RDs]; exact ⟨_, _, rfl, rd_int.mpr rfl, rds_ints ns⟩
theorem jd_scrSl (i : Nat) {lo hi : Option Expr} {ml mh : MO} {p2 : Pos} (hl : JO X W pu lo ml) (hh : JO X W pu' hi mh) (hN : X.N[i]? = some x := by rfl) (hv : Vis X.env.scope x := by first | exact Or.inl rfl | exact Or.inr (Or.inl rfl) | exact Or.inr (Or.inr rfl)) (hd : (x == ("__debug__" : Str)) = false := by decide)
    (hcd : (x == ("__classdict__" : Str)) = false := by decide) : JD X W (pu && pu') (.Subscript (.Name x p) (.Slice lo hi none p2) pos) (mScrSl i ml mh) := by
  refine ⟨PE.imp (pe_slice sl_list (pe_var hN hv hd hcd) hl.po hh.po) fun σ H Q ⟨pv, A, γ, S, E, w⟩ => ?_, fun z γ => ?_⟩
  · unfold mScrSl at w
    split at w
    · rename_i ns em
      obtain ⟨v, _, _, _, hσ, _, rm⟩ := E.get em (by intro z; cases z)
      rw [RM] at rm
      obtain ⟨⟨a, e1, h1⟩, _⟩ := rm
      subst e1
      refine ⟨_, hσ, pv, A, γ, S, E, seqO' .refl w fun l γ2 H2 S2 go2 p2 E2 w2 => ?_⟩
      refine ⟨pv, A, γ2, S2, E2, seqO' go2 w2 fun u γ3 H3 S3 go3 p3 E3 w3 => ?_⟩
      refine ⟨a, ns.map V.int, rfl, ((E2.keep go3).scr ((E.keep go2).scr h1)).sqL, fun p hp => ?_⟩
      refine w3 _ _ S3 ((go2.trans go3).trans (Go.same (same_new hp))) (fun z => let ⟨a, b⟩ := pure2 p2 p3 z; ⟨a, b.trans (same_new hp)⟩) (E3.same (same_new hp)) (rd_newL ?_ hp E3.here)
      unfold cutV
      rw [List.length_map, ← List.map_drop, ← List.map_take]
      exact rds_ints _
    · exact w.elim
  · rw [Bool.and_eq_true] at z
    have q := quiet_bind (hl.quiet z.1) (f := fun lo γ2 => (mh γ2).bind fun hi γ3 => (match γ[i]? with | some (.scr ns) => Out.ok (PyData.list (((ns.drop (HT.sIx ns.length 0 lo)).take (HT.sIx ns.length ns.length hi - HT.sIx ns.length 0 lo)).map .int)) γ3 | _ => .bad)) (fun l => quiet_bind (hh.quiet z.2) fun u => by
      intro γ3
      cases γ[i]? with
      | none => trivial
      | some m => cases m <;> first | rfl | trivial) γ
    unfold mScrSl
    cases hm : γ[i]? with
    | none => trivial
    | some m =>
      rw [hm] at q
      cases m <;> first | exact q | trivial
end
end Tw

namespace Tw
open PySem PySem.Spec L2

def tVs (K : Fr) (mg : Mg) (mv : Γ → Option (List D)) : TA := fun σ H Q => ∃ pv A γ S ds, Env K mg pv A σ γ H S ∧ mv γ = some ds ∧ ∀ vs H', Same H H' → Env K mg pv A σ γ H' S → RDs K H' A ds vs → Q vs H'
structure JVs (X : Cx) (es : List Expr) (mv : Γ → Option (List D)) : Prop where
  pa : PA X es (tVs X.K X.mgw mv)
end Tw

namespace Tw
open PySem PySem.Spec L2

section
variable {P : Program} {w : World} {K : Fr} {mg : Str → Option Value} {base : Heap} {x : Str} {k : Nat} {ps : List Str} {g : List M → Out M}
theorem Cal.bot {f : Addr} {fd : FuncData} (hm : mg x = some (.ref f)) (hk : PySem.W.keepIn K (.ref f) = true) (hb : Binds K fd ps []) : Cal P w K mg base x 0 ps fun _ => .bad :=
  ⟨f, fd, ⟨fun _ _ _ _ ⟨_, _, _, _, _, z⟩ => z.elim, fun _ _ _ _ _ _ _ _ _ _ _ _ _ ⟨_, _, _, _, _, z⟩ => z.elim⟩, hm, hk, hb⟩
end
theorem lenA_nil : ∀ γ rs γ', mNil γ = .ok rs γ' → rs.length = 0 := fun γ rs γ' h => by
  cases h
  rfl
theorem lenA_cons {me : ME} {ms : MA} {n : Nat} (h : ∀ γ rs γ', ms γ = .ok rs γ' → rs.length = n) : ∀ γ rs γ', mCons me ms γ = .ok rs γ' → rs.length = n + 1 := fun γ rs γ' e => by
  unfold mCons at e
  cases e1 : me γ with
  | bad => rw [e1] at e; cases e
  | err c g => rw [e1] at e; cases e
  | ok r γ1 =>
    rw [e1] at e
    cases e2 : ms γ1 with
    | bad => rw [bind_ok, e2] at e; cases e
    | err c g => rw [bind_ok, e2] at e; cases e
    | ok rs1 γ2 =>
      rw [bind_ok, e2] at e
      cases e
      rw [List.length_cons, h _ _ _ e2]
theorem lenR_nil : ∀ γ rs γ', rNil γ = .ok rs γ' → rs.length = 0 := fun γ rs γ' h => by
  cases h
  rfl
theorem lenR_val {me : ME} {mr : MR} {n : Nat} (h : ∀ γ rs γ', mr γ = .ok rs γ' → rs.length = n) : ∀ γ rs γ', rVal me mr γ = .ok rs γ' → rs.length = n + 1 := fun γ rs γ' e => by
  unfold rVal at e
  cases e1 : me γ with
  | bad => rw [e1] at e; cases e
  | err c g => rw [e1] at e; cases e
  | ok r γ1 =>
    rw [e1, bind_ok] at e
    by_cases hn : nonOwn r = true
    · rw [if_pos hn] at e
      cases e2 : mr γ1 with
      | bad => rw [e2] at e; cases e
      | err c g => rw [e2] at e; cases e
      | ok rs1 γ2 =>
        rw [e2] at e
        cases e
        rw [List.length_cons, h _ _ _ e2]
    · rw [if_neg hn] at e; cases e
theorem lenR_slot {i : Nat} {mr : MR} {n : Nat} (h : ∀ γ rs γ', mr γ = .ok rs γ' → rs.length = n) : ∀ γ rs γ', rSlot i mr γ = .ok rs γ' → rs.length = n + 1 := fun γ rs γ' e => by
  unfold rSlot at e
  cases e1 : γ[i]? with
  | none => rw [e1] at e; cases e
  | some m =>
    rw [e1, ofO_some] at e
    by_cases hn : isDead m = true
    · rw [if_pos hn] at e; cases e
    · rw [if_neg hn] at e
      cases e2 : mr γ with
      | bad => rw [e2] at e; cases e
      | err c g => rw [e2] at e; cases e
      | ok rs1 γ2 =>
        rw [e2] at e
        cases e
        rw [List.length_cons, h _ _ _ e2]
section
variable {X : Cx} {W : WX} {pu : Bool} {e : Expr} {es : List Expr} {mas : MA} {mr : MR} {mv : Γ → Option (List D)} {pos p : Pos} {k n : Nat} {ps : List Str} {g : List M → Out M} {x : Str}
theorem j_f0 (C : Cal X.prog X.w X.K X.mg X.base x k ps g) (hr : Room k X.A) (tk : Takes X W) (ha : JA X W pu (e :: es) mas) (hn : ∀ γ rs γ', mas γ = .ok rs γ' → rs.length = n) (hl : n = ps.length := by rfl) (hg : Gl X x := by rfl)
    (hdb : (x == ("__debug__" : Str)) = false := by decide) (he : starEach (e :: es) X.env = (false, eval e X.env) :: starEach es X.env := by rfl) (hpl : (backTo pos (starEach es X.env)).any (·.1) = false := by rfl) :
    J X W pu (.Call (.Name x p) (e :: es) [] pos) (mCall0 g mas) := by
  obtain ⟨f, fd, F, hm, hk, hb⟩ := C.ex
  exact j_call0 F hr hg hm hk hb tk ha (fun γ rs γ' h => (hn γ rs γ' h).trans hl) hdb he hpl
theorem j_fW (C : Cal X.prog X.w X.K X.mg X.base x k ps g) (hr : Room k X.A) (tk : Takes X W) (ha : JR X W (e :: es) mr) (hn : ∀ γ as γ', mr γ = .ok as γ' → as.length = n) (hl : n = ps.length := by rfl) (hg : Gl X x := by rfl)
    (hdb : (x == ("__debug__" : Str)) = false := by decide) (he : starEach (e :: es) X.env = (false, eval e X.env) :: starEach es X.env := by rfl) (hpl : (backTo pos (starEach es X.env)).any (·.1) = false := by rfl) :
    J X W false (.Call (.Name x p) (e :: es) [] pos) (mCallW g mr) := by
  obtain ⟨f, fd, F, hm, hk, hb⟩ := C.ex
  exact j_callW F hr hg hm hk hb tk ha (fun γ rs γ' h => (hn γ rs γ' h).trans hl) hdb he hpl
end
section
variable {P : Program} {w : World} {K : Fr} {mg : Str → Option Value} {base : Heap}
structure Df (K : Fr) (mg : Str → Option Value) (x : Str) (params : Arguments) (bd : List Stmt) (sc : Scope) (ps : List Str) (f : Addr) (fd : FuncData) : Prop where
  fn : FunD K x x params bd sc [] [] f fd
  mg : mg x = some (.ref f)
  bi : Binds K fd ps []
theorem fn_mk {x : Str} {params : Arguments} {bd : List Stmt} {sc : Scope} {N ps : List Str} {f : Addr} {fd : FuncData} {k : Nat} {m : MS} (F : Df K mg x params bd sc ps f fd) (Sc : FnScope N ps sc) (wb : List Nat) (hlen : ps.length ≤ N.length)
    (body : ∀ (cdv : Value) (A : Around) (outer : List PySem.Env) (s : Shared) (H : Hp) (E : XK), Fine (cxOf (L2.CX P w) P w K mg base N x sc f cdv A outer s H E) (fun cls d _ H => E cls d H) k →
      JB (cxOf (L2.CX P w) P w K mg base N x sc f cdv A outer s H E) (fun cls d _ H => E cls d H) wb bd m) :
    FnOk P w K mg base (L2.CX P w) (k + 1) f fd ps (spM K ⟨mg, w⟩ ps.length (runF wb (N.length - ps.length) m)) :=
  fn_ok F.fn Sc hlen fun cdv A outer s H E hr => body cdv A outer s H E ⟨hr, takes_of rfl rfl rfl rfl, passes_of rfl, rfl, Sc.nd⟩
theorem cal_mk {x : Str} {params : Arguments} {bd : List Stmt} {sc : Scope} {N ps : List Str} {f : Addr} {fd : FuncData} {k : Nat} {m : MS} (F : Df K mg x params bd sc ps f fd) (Sc : FnScope N ps sc) (wb : List Nat) (hlen : ps.length ≤ N.length)
    (body : ∀ (cdv : Value) (A : Around) (outer : List PySem.Env) (s : Shared) (H : Hp) (E : XK), Fine (cxOf (L2.CX P w) P w K mg base N x sc f cdv A outer s H E) (fun cls d _ H => E cls d H) k →
      JB (cxOf (L2.CX P w) P w K mg base N x sc f cdv A outer s H E) (fun cls d _ H => E cls d H) wb bd m) :
    Cal P w K mg base x (k + 1) ps (runF wb (N.length - ps.length) m) :=
  ⟨f, fd, fn_ok F.fn Sc hlen fun cdv A outer s H E hr => body cdv A outer s H E ⟨hr, takes_of rfl rfl rfl rfl, passes_of rfl, rfl, Sc.nd⟩, F.mg, F.fn.kp, F.bi⟩
end
theorem bt_len : bootBuiltins "len" = some (.builtin "len") := by decide +kernel
theorem bt_max : bootBuiltins "max" = some (.builtin "max") := by decide +kernel
theorem bt_int : bootBuiltins "int" = some (.type "int") := by decide +kernel
theorem bt_tuple : bootBuiltins "tuple" = some (.type "tuple") := by decide +kernel
theorem bt_list : bootBuiltins "list" = some (.type "list") := by decide +kernel
theorem bt_str : bootBuiltins "str" = some (.type "str") := by decide +kernel
theorem bt_bool : bootBuiltins "bool" = some (.type "bool") := by decide +kernel
theorem law_end {l : PySem.W.OpenLaw} {n k : Nat} {q : Program} {loose : List Str} {XP : (Str → Option Value) → Heap → Prop} {YP : World → Heap → Prop} {d : DefRec} {x : Str}
    (hn : l.most = some n) (hn2 : n ≤ sizeLine) (hdf : d.params.defaults = []) (hr : Room k callerA)
    (F : ∀ (w : World) (mg : Str → Option Value) (fa : Addr) (h : Heap), YP w h → h.Ns mainGlobals mg → mg d.name = some (.ref fa) →
      ∃ (K : Fr) (fd : FuncData) (g : List M → Out M), K.In h ∧ (∀ (s : Shared) (u : Value), BindsTo s fd ⟨[u], []⟩ [(x, u)]) ∧ (∀ ns : List Int, ns.length ≤ n → ∃ γ, g [.scr ns] = .ok (.fz (.bool true)) γ) ∧
        ∀ base : Heap, K.In base → base.Ns mainGlobals mg → FnOk l.prog w K mg base (L2.CX l.prog w) k fa fd [x] (spM K ⟨mg, w⟩ 1 g)) :
    PySem.W.WalkO q loose XP YP l.row.toRowW d [] (fun f vs => PySem.call f vs) := by
  apply Att.attach_call hn hdf
  intro w s₀ s₁ mg mb fa o pm cd doc a vs ns G Y ho hd hcd hmg hobj hints hlen hg
  obtain ⟨K, fd, g, KX, hb, hsp, hF⟩ := F w mg fa _ Y G.T.g hmg
  refine law_call KX G.T.g G.T.b G.T.builtins G.T.nolimit hg hobj hints (Nat.le_trans hlen hn2) hr hF hb (fun H hO hS => ?_) fun H e s' z => ?_
  · obtain ⟨γ, e⟩ := hsp ns hlen
    refine ⟨fun _ => False, [.scr ns], [], rfl, ⟨?_, List.nodup_nil, fun a z => z.elim⟩, ?_⟩
    · exact rms_one (by rw [RM]; exact ⟨⟨a, rfl, ScrAt.of hS hO⟩, rfl⟩)
    · rw [e]
      intro v H' S' T go ar rm nd
      rw [RM] at rm
      exact rd_bool.mp rm.1
  · obtain ⟨_, _, _, _, _, _, _, _, _, _, _, _, z⟩ := z
    exact z
end Tw

namespace Tw
open PySem PySem.Spec L2

def loopC (vs : List Nat) (g : MG) (mt : MT) (me : ME) : List D → Γ → List M → Out (List M)
  | [], γ, acc => .ok acc γ
  | d :: ds, γ, acc => ofO (g (.fz d) γ) fun γ1 => (mt γ1).bind fun b γ2 => if b = true then (me γ2).bind fun r γ3 => if (decide (acc.length < sizeLine) && okWipe γ3 vs) = true then loopC vs g mt me ds (wipeG γ3 vs) (acc ++ [r]) else .bad
      else if okWipe γ2 vs = true then loopC vs g mt me ds (wipeG γ2 vs) acc else .bad
def noErr {α : Type} : Out α → Out α
  | .ok a g => .ok a g
  | _ => .bad
def mLc (vs : List Nat) (g : MG) (mi : MI) (mt : MT) (me : ME) : ME := fun γ => (mi γ).bind fun ds γ1 => if okWipe γ1 vs = true then
    (noErr (loopC vs g mt me ds (wipeG γ1 vs) [])).bind fun acc γ2 => .ok (.lst acc) (restG γ1 γ2 vs) else .bad
def tYesM : MT := fun γ => .ok true γ

section
variable {K : Fr} {mg : Mg} {pv : Pv} {A : Ad} {σ : L2.St} {γ : Γ} {H H' : Hp} {S S' T : List Addr} {U : Addr → Prop}
theorem wipe_self : ∀ {vs : List Nat} {σ : L2.St} {i : Nat} {s : Option V}, i ∈ vs → L2.wipe (σ.set i s) vs = L2.wipe σ vs
  | v :: vs, σ, i, s, h => by
    show (L2.wipe (σ.set i s) vs).set v none = (L2.wipe σ vs).set v none
    by_cases hm : i ∈ vs
    · rw [wipe_self hm]
    · have e : i = v := (List.mem_cons.mp h).resolve_right hm
      subst e
      apply List.ext_getElem?
      intro j
      by_cases hj : i = j
      · subst hj
        by_cases hl : i < σ.length
        · rw [List.getElem?_set_self (by rw [wipe_length, List.length_set]; exact hl), List.getElem?_set_self (by rw [wipe_length]; exact hl)]
        · rw [List.getElem?_eq_none (by rw [List.length_set, wipe_length, List.length_set]; omega), List.getElem?_eq_none (by rw [List.length_set, wipe_length]; omega)]
      · rw [List.getElem?_set_ne hj, List.getElem?_set_ne hj]
        have off : ∀ (vs : List Nat) (σ1 σ2 : L2.St), σ1.length = σ2.length → σ1[j]? = σ2[j]? → (L2.wipe σ1 vs)[j]? = (L2.wipe σ2 vs)[j]? := by
          intro vs
          induction vs with
          | nil => intro σ1 σ2 _ h; exact h
          | cons w ws ih =>
            intro σ1 σ2 hl h
            show ((L2.wipe σ1 ws).set w none)[j]? = ((L2.wipe σ2 ws).set w none)[j]?
            by_cases hw : w = j
            · subst hw
              by_cases hl2 : w < σ1.length
              · rw [List.getElem?_set_self (by rw [wipe_length]; exact hl2), List.getElem?_set_self (by rw [wipe_length, ← hl]; exact hl2)]
              · rw [List.getElem?_eq_none (by rw [List.length_set, wipe_length]; omega), List.getElem?_eq_none (by rw [List.length_set, wipe_length, ← hl]; omega)]
            · rw [List.getElem?_set_ne hw, List.getElem?_set_ne hw]
              exact ih σ1 σ2 hl h
        exact off vs _ _ (by rw [List.length_set]) (List.getElem?_set_ne hj)
end

section
variable (K : Fr) (mg : Mg) (vs : List Nat)
def tC' (g : MG) : TG := fun v σ H Q => ∃ A γ S d γ', Env K mg (fun _ => none) A σ γ H S ∧ RD K H (us A S) d v ∧ g (.fz d) γ = some γ' ∧ ∀ σ', L2.wipe σ' vs = L2.wipe σ vs → Env K mg (fun _ => none) A σ' γ' H S → Q σ' H
def tCs (g : List M → Γ → Option Γ) : TGs := fun v σ H Q => ∃ A γ S ds γ', Env K mg (fun _ => none) A σ γ H S ∧ RDs K H (us A S) ds v ∧ g (ds.map .fz) γ = some γ' ∧ ∀ σ', L2.wipe σ' vs = L2.wipe σ vs → Env K mg (fun _ => none) A σ' γ' H S → Q σ' H
end
structure JC (X : Cx) (vs : List Nat) (tg : Expr) (g : MG) : Prop where
  pg : PG X tg (tC' X.K X.mgw vs g)
structure JCs (X : Cx) (vs : List Nat) (tg : List Expr) (g : List M → Γ → Option Γ) : Prop where
  pg : PGs X tg (tCs X.K X.mgw vs g)
section
variable {X : Cx} {W : WX} {vs : List Nat} {tg : Expr} {es : List Expr} {g : MG} {gs : List M → Γ → Option Γ} {pos : Pos}
theorem env_fz {K : Fr} {mg : Mg} {A : Ad} {σ : L2.St} {γ : Γ} {H : Hp} {S : List Addr} (E : Env K mg (fun _ => none) A σ γ H S) {i : Nat} {d : D} {v : V} (hi : i < γ.length) (hd : ∀ m, γ[i]? = some m → (nonOwn m || isDead m) = true) (r : RD K H (us A S) d v) : Env K mg (fun _ => none) A (σ.set i (some v)) (γ.set i (.fz d)) H S := by
  obtain ⟨s, S1, S2, S3, h1, h2, h3, h4⟩ := E.rep.get (List.getElem?_eq_getElem hi)
  have ok' := hd _ (List.getElem?_eq_getElem hi)
  have e2 : S2 = [] := by
    by_cases hdd : isDead γ[i] = true
    · generalize γ[i] = m' at h3 hdd
      cases m' <;> first | (cases hdd; done) | exact h3
    · obtain ⟨w, _, rm⟩ := h3.val (dead_ne hdd)
      refine nonOwn_S rm ?_
      cases hn : nonOwn γ[i] with
      | true => rfl
      | false => rw [hn] at ok'; exact absurd ok' hdd
  subst e2
  have := h4 (.fz d) (some v) [] ⟨v, rfl, by rw [RM]; exact ⟨r, rfl⟩⟩
  rw [← h2] at this
  exact ⟨this, E.nd, E.am, fun _ _ z => nomatch z⟩
def gSetC (i : Nat) : MG := fun m γ => match γ[i]? with
  | some m0 => if (nonOwn m0 || isDead m0) = true then some (γ.set i m) else none
  | none => none
theorem jc_name (i : Nat) {x : Str} (hm : vs.contains i = true := by rfl) (hN : X.N.Nodup) (hi : X.N[i]? = some x := by rfl) (hx : Loc X.env.scope x := by first | exact Or.inl rfl | exact Or.inr rfl) (hf : X.fn x = true ∨ X.env.scope.names.lookup x = some .local := by first | exact .inl rfl | exact .inr rfl | assumption) : JC X vs (.Name x pos) (gSetC i) := by
  refine ⟨PG.imp (pg_name hN hi hx hf) fun v σ H Q ⟨A, γ, S, d, γ', E, r, e, q⟩ => ?_⟩
  unfold gSetC at e
  split at e
  · rename_i m0 hm0
    split at e <;> cases e
    rename_i ok
    refine q _ (wipe_self (by simpa using hm)) (env_fz E (List.getElem?_eq_some_iff.mp hm0).1 (fun m hm => ?_) r)
    rw [hm0] at hm
    cases hm
    exact ok
  · cases e
end

section
variable {X : Cx} {W : WX} {pu pt pe' pi' : Bool} {vs : List Nat} {tg iter elt c : Expr} {ifs : List Expr} {scope : Scope} {own : List (Str × Nat)} {g : MG} {mi : MI} {mt : MT} {me : ME} {pos : Pos}
structure JTs (X : Cx) (ifs : List Expr) (m : MT) : Prop where
  pt : PTs X ifs (tT X.K X.mgw WF false m)
theorem jts_nil : JTs X [] tYesM := ⟨PTs.imp pts_nil fun σ H Q ⟨pv, A, γ, S, E, w⟩ => w H S .refl (fun _ => ⟨rfl, .refl H⟩) E⟩
theorem wipe_get : ∀ {vs : List Nat} {σ : L2.St} {j : Nat}, j < σ.length → (L2.wipe σ vs)[j]? = if j ∈ vs then some none else σ[j]?
  | [], σ, j, h => by rw [if_neg (fun z => nomatch z)]; rfl
  | v :: vs, σ, j, h => by
    show ((L2.wipe σ vs).set v none)[j]? = _
    by_cases hv : v = j
    · subst hv
      rw [List.getElem?_set_self (by rw [wipe_length]; exact h), if_pos List.mem_cons_self]
    · rw [List.getElem?_set_ne hv, wipe_get h]
      by_cases hm : j ∈ vs
      · rw [if_pos hm, if_pos (List.mem_cons_of_mem _ hm)]
      · rw [if_neg hm, if_neg fun z => (List.mem_cons.mp z).elim (fun e => hv e.symm) hm]
theorem wipe_idem {vs : List Nat} {σ : L2.St} : L2.wipe (L2.wipe σ vs) vs = L2.wipe σ vs := by
  apply List.ext_getElem?
  intro j
  by_cases h : j < σ.length
  · rw [wipe_get (by rw [wipe_length]; exact h), wipe_get h]
    by_cases hm : j ∈ vs
    · rw [if_pos hm, if_pos hm]
    · rw [if_neg hm, if_neg hm]
  · rw [List.getElem?_eq_none (by rw [wipe_length, wipe_length]; omega), List.getElem?_eq_none (by rw [wipe_length]; omega)]
theorem Go.under {H1 H2 H3 : Hp} {S1 P S2 S3 : List Addr} (a : Go H1 S1 H2 (P ++ S2)) (b : Go H2 S2 H3 S3) : Go H1 S1 H3 (P ++ S3) where
  obj := fun c o h hn => b.obj c o (a.obj c o h hn) fun hc => (a.new c (List.mem_append_right _ hc)).elim hn fun z => by rw [z] at h; cases h
  new := fun c hc => (List.mem_append.mp hc).elim (fun z => a.new c (List.mem_append_left _ z)) fun z => (b.new c z).elim (fun y => a.new c (List.mem_append_right _ y)) fun y => .inr (by
    cases q : H1 c with
    | none => rfl
    | some o => exact absurd y (a.keep c (by rw [q]; exact (fun z => nomatch z))))
  keep := fun c h => b.keep c (a.keep c h)
theorem Env.updAm {K : Fr} {mg : Mg} {pv : Pv} {A : Ad} {σ : L2.St} {γ : Γ} {H : Hp} {S : List Addr} {p : Addr} {o : HO} (E : Env K mg pv A σ γ H S) (hp : A p) (hm : ∀ q, H p = some q → isMut p q = true) : Env K mg pv A σ γ (upd H p o) S where
  rep := RS.keep γ σ S ⟨⟨fun b u q hn => by
    by_cases hb : b = p
    · subst hb
      exact absurd (.inl hp) (hn (hm u q))
    · rw [upd_ne hb]; exact q, fun b _ hn => hn⟩, fun b hb u q => by
    have hbp : b ≠ p := fun z => (E.am p hp).1 (z ▸ hb)
    rw [upd_ne hbp]; exact q⟩ E.rep
  nd := E.nd
  am := fun a ha => ⟨(E.am a ha).1, by
    by_cases hb : a = p
    · rw [hb, upd_same]; exact (fun z => nomatch z)
    · rw [upd_ne hb]; exact (E.am a ha).2⟩
  pin := E.pin
theorem wipeG_dead {γ : Γ} {vs : List Nat} (ok : okWipe γ vs = true) : ∀ j ∈ vs, (wipeG γ vs)[j]? = some .dead := fun j hj => by
  have hj' : j < γ.length := by
    have := List.all_eq_true.mp ok j hj
    cases hg : γ[j]? with
    | none => rw [hg] at this; cases this
    | some m => exact (List.getElem?_eq_some_iff.mp hg).1
  rw [wipeG_in hj', if_pos hj]
theorem lc_ok (hvs : own.map (·.2) = vs) (hnd : vs.Nodup) {σ : L2.St} {H : Hp} {Q : VK} (h : tE X.K X.mgw W false (mLc vs g mi mt me) σ H Q) :
    tLc (tI X.K X.mgw W pi' mi) (tC' X.K X.mgw vs g) (tT X.K X.mgw WF false mt) (tE X.K X.mgw WF pe' me) (own.map (·.2)) σ H Q := by
  rw [hvs]
  obtain ⟨pv, A, γ, S, E, w⟩ := h
  refine ⟨pv, A, γ, S, E, ?_⟩
  unfold mLc at w
  cases emi : mi γ with
  | bad => rw [emi] at w; exact w
  | err c g => rw [emi] at w; exact w
  | ok ds γ1 =>
    rw [emi] at w
    intro J H1 S1 go1 _ E1 io p hp
    have w1 : WantE X.K X.mgw W false pv A σ H S Q (if okWipe γ1 vs = true then (noErr (loopC vs g mt me ds (wipeG γ1 vs) [])).bind fun acc γ2 => .ok (.lst acc) (restG γ1 γ2 vs) else .bad) := w
    by_cases ok : okWipe γ1 vs = true
    · rw [if_pos ok] at w1
      cases eL : loopC vs g mt me ds (wipeG γ1 vs) [] with
      | bad => rw [eL] at w1; exact w1.elim
      | err c g => rw [eL] at w1; exact w1.elim
      | ok accF γF =>
        rw [eL] at w1
        have w2 : ∀ v H' S' T, Go H S H' (T ++ S') → Env X.K X.mgw pv (adT A T) σ (restG γ1 γF vs) H' S' → RM X.K X.mgw H' (us (adT A T) S') (.lst accF) v T → T.Nodup → Q v H' := fun v H' S' T go E' rm nd => w1 v H' S' T go (fun z => nomatch z) E' rm nd
        have sm0 : Same H1 (upd H1 p (.lst [])) := same_new hp
        have pA : ∀ a, A a → a ≠ p := fun a ha z => (E1.am a ha).2 (z ▸ hp)
        -- at turn i: what is made so far at p, owning Tl
        let Pv : Nat → Hp → Prop := fun i H' => i ≤ ds.length ∧ ∃ (γi : Γ) (acc : List M) (xs : List V) (Tl S' : List Addr), Go H1 S1 H' (p :: (Tl ++ S')) ∧ Env X.K X.mgw (fun _ => none) (adT A (p :: Tl)) (L2.wipe σ vs) γi H' S' ∧ (∀ j ∈ vs, γi[j]? = some .dead) ∧ H' p = some (.lst xs) ∧
          RMs X.K X.mgw H' (us (adT A (p :: Tl)) S') acc xs Tl ∧ (p :: Tl).Nodup ∧ loopC vs g mt me (ds.drop i) γi acc = .ok accF γF
        have start : Pv 0 (upd H1 p (.lst [])) := by
          refine ⟨Nat.zero_le _, wipeG γ1 vs, [], [], [], S1, ⟨fun b o q hn => sm0 b o q, fun b hb => ?_, fun b hb => (Go.same (S := S1) sm0).keep b hb⟩, ?_, fun j hj => ?_, upd_same, by rw [RMs]; exact ⟨rfl, rfl⟩, List.nodup_cons.mpr ⟨(fun z => nomatch z), List.nodup_nil⟩, eL⟩
          · rcases List.mem_cons.mp hb with z | z
            · exact .inr (by rw [z]; exact hp)
            · exact .inl z
          · exact (E1.wipe ok).more sm0 (fun b hb => by rw [List.mem_singleton.mp hb]; exact hp) fun b hb => by rw [List.mem_singleton.mp hb, upd_same]; exact (fun z => nomatch z)
          · have hj' : j < γ1.length := by
              have := List.all_eq_true.mp ok j hj
              cases hg : γ1[j]? with
              | none => rw [hg] at this; cases this
              | some m => exact (List.getElem?_eq_some_iff.mp hg).1
            rw [wipeG_in hj', if_pos hj]
        refine ⟨fun i m H' => m = ds.length - i ∧ Pv i H', ⟨ds.length, by simp, start⟩, ?_⟩
        rintro i m H' ⟨rfl, hi, γi, acc, xs, Tl, S', goi, Ei, hdead, hpx, rmi, ndi, hloop⟩
        have goi' : Go H1 S1 H' S' := goi.sub fun b hb => List.mem_cons_of_mem _ (List.mem_append_right _ hb)
        by_cases hlt : i < ds.length
        · have hd : ds.drop i = ds[i] :: ds.drop (i + 1) := (List.getElem_cons_drop hlt).symm
          rw [hd] at hloop
          refine .inr ⟨io.go i H' S' hlt goi', fun H2 => ds.length - (i + 1) = ds.length - (i + 1) ∧ Pv (i + 1) H2, fun H2 h2 => ⟨ds.length - (i + 1), by omega, h2⟩, fun x H2 hy => ?_⟩
          obtain ⟨sm, rd⟩ := io.yld i ds[i] H' S' x H2 (List.getElem?_eq_getElem hlt) goi' hy
          have E2 := Ei.same sm
          have goi2 : Go H1 S1 H' ((p :: Tl) ++ S') := goi
          have rd' : RD X.K H2 (us (adT A (p :: Tl)) S') ds[i] x := rd _ fun b hb => by
            rcases hb with (z | z) | z
            · exact .inl (.inl z)
            · exact (goi2.new b (List.mem_append_left _ z)).imp .inr id
            · exact (goi2.new b (List.mem_append_right _ z)).imp .inr id
          have pam := Ei.am p (.inr List.mem_cons_self)
          have tam : ∀ b ∈ Tl, b ∉ S' ∧ H' b ≠ none := fun b hb => Ei.am b (.inr (List.mem_cons_of_mem _ hb))
          cases eg : g (.fz ds[i]) γi with
          | none => unfold loopC at hloop; rw [eg] at hloop; cases hloop
          | some γ2 =>
            have hl2 : (mt γ2).bind (fun b γ2 => if b = true then (me γ2).bind fun r γ3 => if (decide (acc.length < sizeLine) && okWipe γ3 vs) = true then loopC vs g mt me (ds.drop (i + 1)) (wipeG γ3 vs) (acc ++ [r]) else .bad
                else if okWipe γ2 vs = true then loopC vs g mt me (ds.drop (i + 1)) (wipeG γ2 vs) acc else .bad) = .ok accF γF := by
              have z := hloop
              unfold loopC at z
              rw [eg] at z
              exact z
            refine ⟨adT A (p :: Tl), γi, S', ds[i], γ2, E2, rd', eg, fun σ3 hσ E3 => ⟨hσ.trans wipe_idem, ?_⟩⟩
            have hσ2 : L2.wipe σ3 vs = L2.wipe σ vs := hσ.trans wipe_idem
            refine ⟨fun _ => none, adT A (p :: Tl), γ2, S', E3, ?_⟩
            cases em : mt γ2 with
            | bad => rw [em] at hl2; cases hl2
            | err c g => rw [em] at hl2; cases hl2
            | ok b γ3 =>
              rw [em] at hl2
              intro H3 S3 go3 _ E4
              have go' : Go H' S' H3 S3 := (Go.same sm).trans go3
              have hp3 : H3 p = some (.lst xs) := go'.obj p _ hpx pam.1
              cases b with
              | false =>
                have hl3 : (if okWipe γ3 vs = true then loopC vs g mt me (ds.drop (i + 1)) (wipeG γ3 vs) acc else .bad) = .ok accF γF := hl2
                by_cases okw : okWipe γ3 vs = true
                · rw [if_pos okw] at hl3
                  show ds.length - (i + 1) = ds.length - (i + 1) ∧ Pv (i + 1) H3
                  refine ⟨rfl, hlt, wipeG γ3 vs, acc, xs, Tl, S3, goi2.under go', hσ2 ▸ E4.wipe okw, wipeG_dead okw, hp3, RMs.keep acc xs Tl ⟨Ei.keep go', fun b hb o q => go'.obj b o q (tam b hb).1⟩ rmi, ndi, hl3⟩
                · rw [if_neg okw] at hl3; cases hl3
              | true =>
                have hl3 : (me γ3).bind (fun r γ3 => if (decide (acc.length < sizeLine) && okWipe γ3 vs) = true then loopC vs g mt me (ds.drop (i + 1)) (wipeG γ3 vs) (acc ++ [r]) else .bad) = .ok accF γF := hl2
                show tE X.K X.mgw WF pe' me σ3 H3 _
                refine ⟨fun _ => none, adT A (p :: Tl), γ3, S3, E4, ?_⟩
                cases ee : me γ3 with
                | bad => rw [ee] at hl3; cases hl3
                | err c g => rw [ee] at hl3; cases hl3
                | ok r γ4 =>
                  rw [ee] at hl3
                  intro v H4 S4 T go4 _ E5 rm nd
                  have hl4 : (if (decide (acc.length < sizeLine) && okWipe γ4 vs) = true then loopC vs g mt me (ds.drop (i + 1)) (wipeG γ4 vs) (acc ++ [r]) else .bad) = .ok accF γF := hl3
                  by_cases okw : (decide (acc.length < sizeLine) && okWipe γ4 vs) = true
                  · rw [if_pos okw] at hl4
                    rw [Bool.and_eq_true] at okw
                    have pam3 := E4.am p (.inr List.mem_cons_self)
                    have tam3 : ∀ b ∈ Tl, b ∉ S3 ∧ H3 b ≠ none := fun b hb => E4.am b (.inr (List.mem_cons_of_mem _ hb))
                    have hp4 : H4 p = some (.lst xs) := go4.obj p _ hp3 pam3.1
                    have pT : p ∉ T := fun z => (go4.new p (List.mem_append_left _ z)).elim pam3.1 fun y => pam3.2 y
                    have tT : ∀ b ∈ Tl, b ∉ T := fun b hb z => (go4.new b (List.mem_append_left _ z)).elim (tam3 b hb).1 fun y => (tam3 b hb).2 y
                    have hlen : xs.length = acc.length := rmi.length
                    obtain ⟨np, nT⟩ := List.nodup_cons.mp ndi
                    refine ⟨xs, hp4, by rw [hlen]; exact of_decide_eq_true okw.1, ?_⟩
                    show ds.length - (i + 1) = ds.length - (i + 1) ∧ Pv (i + 1) (upd H4 p (.lst (xs ++ [v])))
                    have go5 : Go H1 S1 H4 ((p :: Tl) ++ (T ++ S4)) := (goi2.under go').under go4
                    have uu : ∀ b, us (adT A (p :: (Tl ++ T))) S4 b → us (adT (adT A (p :: Tl)) T) S4 b := fun b hb => by
                      rcases hb with (z | z) | z
                      · exact .inl (.inl (.inl z))
                      · rcases List.mem_cons.mp z with z | z
                        · exact .inl (.inl (.inr (by rw [z]; exact List.mem_cons_self)))
                        · rcases List.mem_append.mp z with z | z
                          · exact .inl (.inl (.inr (List.mem_cons_of_mem _ z)))
                          · exact .inl (.inr z)
                      · exact .inr z
                    have aa : ∀ b, adT A (p :: (Tl ++ T)) b → adT (adT A (p :: Tl)) T b := fun b hb => by
                      rcases hb with z | z
                      · exact .inl (.inl z)
                      · rcases List.mem_cons.mp z with z | z
                        · exact .inl (.inr (by rw [z]; exact List.mem_cons_self))
                        · rcases List.mem_append.mp z with z | z
                          · exact .inl (.inr (List.mem_cons_of_mem _ z))
                          · exact .inr z
                    have k5 : ∀ (Sx : List Addr), p ∉ Sx → KeepM H4 (upd H4 p (.lst (xs ++ [v]))) (us (adT (adT A (p :: Tl)) T) S4) (us (adT A (p :: (Tl ++ T))) S4) Sx := fun Sx hx => ⟨⟨fun b o q hn => by
                      by_cases hb : b = p
                      · subst hb
                        rw [hp4] at q
                        cases q
                        exact absurd (.inl (.inl (.inr List.mem_cons_self))) (hn rfl)
                      · rw [upd_ne hb]; exact q, fun b _ hn hu => hn (uu b hu)⟩, fun b hb o q => by
                      have hbp : b ≠ p := fun z => hx (z ▸ hb)
                      rw [upd_ne hbp]; exact q⟩
                    have kA : Keep H' H4 (us (adT A (p :: Tl)) S') (us (adT (adT A (p :: Tl)) T) S4) := by
                      constructor
                      · intro b o q hn
                        refine go4.obj b o (go'.obj b o q fun hb => ?_) fun hb => ?_
                        · obtain ⟨o', e', mo⟩ := Ei.mut b hb
                          rw [q] at e'
                          cases e'
                          exact hn mo (.inr hb)
                        · rcases go'.new b hb with z | z
                          · obtain ⟨o2, e2, mo2⟩ := Ei.mut b z
                            rw [q] at e2
                            cases e2
                            exact hn mo2 (.inr z)
                          · rw [z] at q
                            cases q
                      · intro b hb hn hu
                        rcases hu with (z | z) | z
                        · exact hn (.inl z)
                        · exact (go4.new b (List.mem_append_left _ z)).elim (fun y => (go'.new b y).elim (fun w => hn (.inr w)) hb) fun y => go'.keep b hb y
                        · exact (go4.new b (List.mem_append_right _ z)).elim (fun y => (go'.new b y).elim (fun w => hn (.inr w)) hb) fun y => go'.keep b hb y
                    have r4 : RMs X.K X.mgw H4 (us (adT (adT A (p :: Tl)) T) S4) acc xs Tl := RMs.keep acc xs Tl ⟨kA, fun b hb o q => go4.obj b o (go'.obj b o q (tam b hb).1) (tam3 b hb).1⟩ rmi
                    refine ⟨rfl, hlt, wipeG γ4 vs, acc ++ [r], xs ++ [v], Tl ++ T, S4, ⟨fun b o q hn => ?_, fun b hb => go5.new b (by simpa using hb), fun b hb => ?_⟩, ?_, wipeG_dead okw.2, upd_same, RMs.append (RMs.keep acc xs Tl (k5 Tl np) r4) (rms_one (RM.keep r v T (k5 T pT) rm)), List.nodup_cons.mpr ⟨fun z => (List.mem_append.mp z).elim np pT, List.nodup_append.mpr ⟨nT, nd, fun a ha b hb z => tT a ha (z ▸ hb)⟩⟩, hl4⟩
                    · have hb : b ≠ p := fun z => by rw [z, hp] at q; cases q
                      rw [upd_ne hb]
                      exact go5.obj b o q hn
                    · by_cases hbp : b = p
                      · rw [hbp, upd_same]; exact (fun z => nomatch z)
                      · rw [upd_ne hbp]; exact go5.keep b hb
                    · have E6 := (E5.wipe okw.2).less aa
                      rw [hσ2] at E6
                      exact E6.updAm (.inr List.mem_cons_self) fun q hq => by
                        rw [hp4] at hq
                        cases hq
                        rfl
                  · rw [if_neg okw] at hl4; cases hl4
        · have e0 : i = ds.length := by omega
          subst e0
          rw [List.drop_length] at hloop
          have hfin : acc = accF ∧ γi = γF := by
            unfold loopC at hloop
            cases hloop
            exact ⟨rfl, rfl⟩
          obtain ⟨rfl, rfl⟩ := hfin
          refine .inl ⟨io.stop H' S' goi', ?_⟩
          have goi2 : Go H1 S1 H' ((p :: Tl) ++ S') := goi
          have goF : Go H S H' ((p :: Tl) ++ S') := ⟨fun b o q hn => goi2.obj b o (go1.obj b o q hn) fun z => (go1.new b z).elim hn fun y => (by rw [y] at q; cases q), fun b hb => (goi2.new b hb).elim (fun z => go1.new b z) fun z => .inr (by
            cases q : H b with
            | none => rfl
            | some o => exact absurd z (go1.keep b (by rw [q]; exact (fun z => nomatch z)))), fun b hb => goi2.keep b (go1.keep b hb)⟩
          refine w2 (.ref p) H' S' (p :: Tl) goF ⟨?_, Ei.nd, Ei.am, E1.pin⟩ (by rw [RM]; exact ⟨p, xs, Tl, rfl, hpx, rfl, rmi⟩) ndi
          refine RS.rest Ei.rep hdead hnd (by rw [Ei.rep.len, wipe_length]) fun j hj => ?_
          have okj := List.all_eq_true.mp ok j hj
          cases hg : γ1[j]? with
          | none => rw [hg] at okj; cases okj
          | some m =>
            rw [hg] at okj
            obtain ⟨s, T1, T2, T3, h1, h2, h3, h4⟩ := E1.rep.get hg
            have e2 : T2 = [] := by
              by_cases hd : isDead m = true
              · cases m <;> first | (cases hd; done) | exact h3
              · obtain ⟨w, _, rm⟩ := h3.val (dead_ne hd)
                refine nonOwn_S rm ?_
                cases hn : nonOwn m with
                | true => rfl
                | false =>
                  have okj' : (nonOwn m || isDead m) = true := okj
                  rw [hn] at okj'
                  exact absurd okj' hd
            subst e2
            refine ⟨s, h1, ?_⟩
            have eg : γ1.getD j .dead = m := by rw [List.getD_eq_getElem?_getD, hg]; rfl
            rw [eg]
            refine R1.keep ⟨⟨fun b o q hn => goi2.obj b o q fun z => ?_, fun b hb hn hu => ?_⟩, fun b hb => nomatch hb⟩ h3
            · obtain ⟨o', e', mo⟩ := E1.mut b z
              rw [q] at e'
              cases e'
              exact hn mo (.inr z)
            · rcases hu with (z | z) | z
              · exact hn (.inl z)
              · exact (goi2.new b (List.mem_append_left _ z)).elim (fun y => hn (.inr y)) hb
              · exact (goi2.new b (List.mem_append_right _ z)).elim (fun y => hn (.inr y)) hb
    · rw [if_neg ok] at w1
      exact w1.elim
end
theorem Fine.blk {X : Cx} {W : WX} {k : Nat} (f : Fine X W k) {s : Shared} {H : Hp} {scope : Scope} {cenv : PySem.Env} {fp : List Addr} : Fine (X.blk s H scope cenv fp) WF k :=
  ⟨f.room, fun u s' ⟨_, _, _, _, _, _, _, _, _, _, _, _, _, _, _, _, w⟩ => w.elim, PassesOwn.never, f.calm, f.nd⟩
section
variable {X : Cx} {W : WX} {k : Nat} {pt pe' pi' : Bool} {tg iter elt : Expr} {ifs : List Expr} {scope : Scope} {own : List (Str × Nat)} {g : MG} {mi : MI} {mt : MT} {me : ME} {pos py : Pos} {wb : List Nat}
theorem j_lc (f : Fine X W k) (own : List (Str × Nat)) (hi : JI X W pi' tg iter mi) (hg : ∀ (s : Shared) (H : Hp) (C : Addr) (cl : List (Str × Addr)) (fp : List Addr), Fine (X.blk s H scope (compEnvC scope cl C X.env) fp) WF k → JC (X.blk s H scope (compEnvC scope cl C X.env) fp) (own.map (·.2)) tg g)
    (ht : ∀ (s : Shared) (H : Hp) (C : Addr) (cl : List (Str × Addr)) (fp : List Addr), Fine (X.blk s H scope (compEnvC scope cl C X.env) fp) WF k → JTs (X.blk s H scope (compEnvC scope cl C X.env) fp) ifs mt)
    (he : ∀ (s : Shared) (H : Hp) (C : Addr) (cl : List (Str × Addr)) (fp : List Addr), Fine (X.blk s H scope (compEnvC scope cl C X.env) fp) WF k → J (X.blk s H scope (compEnvC scope cl C X.env) fp) WF pe' elt me)
    (ok : blkC X.N X.env.scope scope own = true := by decide +kernel) (hnd : (own.map (·.2)).Nodup := by decide) (hs : ∀ x, foldedSetIterable iter X.env x = pure x := by intro _; rfl) :
    J X W false (.ListComp elt [⟨tg, iter, ifs, 0⟩] scope pos) (mLc (own.map (·.2)) g mi mt me) :=
  ⟨PE.imp (pe_lc f.calm f.nd hi.pi (blkOk_by ok) (fun s H C cl fp => (hg s H C cl fp f.blk).pg) (fun s H C cl fp => (ht s H C cl fp f.blk).pt) (fun s H C cl fp => (he s H C cl fp f.blk).pe) hs) fun σ H Q h => lc_ok rfl hnd h, fun z => nomatch z⟩
theorem js_setLc (i : Nat) {y : Str} {spos : Pos} (f : Fine X W k) (own : List (Str × Nat)) (hi : JI X W pi' tg iter mi) (hg : ∀ (s : Shared) (H : Hp) (C : Addr) (cl : List (Str × Addr)) (fp : List Addr), Fine (X.blk s H scope (compEnvC scope cl C X.env) fp) WF k → JC (X.blk s H scope (compEnvC scope cl C X.env) fp) (own.map (·.2)) tg g)
    (ht : ∀ (s : Shared) (H : Hp) (C : Addr) (cl : List (Str × Addr)) (fp : List Addr), Fine (X.blk s H scope (compEnvC scope cl C X.env) fp) WF k → JTs (X.blk s H scope (compEnvC scope cl C X.env) fp) ifs mt)
    (he : ∀ (s : Shared) (H : Hp) (C : Addr) (cl : List (Str × Addr)) (fp : List Addr), Fine (X.blk s H scope (compEnvC scope cl C X.env) fp) WF k → J (X.blk s H scope (compEnvC scope cl C X.env) fp) WF pe' elt me)
    (hy : X.N[i]? = some y := by rfl) (hyl : X.env.scope.names.lookup y = some .local := by rfl) (hw : wb.contains i = false := by rfl) (hsw : swapsWith (.ListComp elt [⟨tg, iter, ifs, 0⟩] scope pos) (some (.Name y py)) spos.line X.env = pure true := by exact sw_true rfl rfl rfl (by decide +kernel))
    (ok : blkC X.N X.env.scope scope own = true := by decide +kernel) (hnd : (own.map (·.2)).Nodup := by decide) (hs : ∀ x, foldedSetIterable iter X.env x = pure x := by intro _; rfl) :
    JS X W wb (.Assign [.Name y py] (.ListComp elt [⟨tg, iter, ifs, 0⟩] scope pos) spos) (sAsg (gSet i) (mLc (own.map (·.2)) g mi mt me)) := by
  refine ⟨PS.imp (ps_setLc (te := tE X.K X.mgw WF pe' me) (tt := tT X.K X.mgw WF false mt) (g := tC' X.K X.mgw (own.map (·.2)) g) f.calm f.nd hy hyl hsw hi.pi (blkOk_by ok) (fun s H C cl fp => (hg s H C cl fp f.blk).pg) (fun s H C cl fp => (ht s H C cl fp f.blk).pt) (fun s H C cl fp => (he s H C cl fp f.blk).pe) hs) fun D σ H ⟨pv, A, γ, S, hp, E, w⟩ => ?_⟩
  refine lc_ok (W := W) rfl hnd ⟨pv, A, γ, S, E, ?_⟩
  unfold sAsg at w
  cases e : mLc (own.map (·.2)) g mi mt me γ with
  | bad => rw [e] at w; exact w
  | err c g => rw [e] at w; exact fun C H' S' hC go E' => w C σ H' S' hC go E'
  | ok r g1 =>
    rw [e] at w
    intro v H' S' T go _ E' rm nd
    have w' : WantS X.K X.mgw W pv A H S D (ofO (gSet i r g1) fun γ'' => .ok .nx γ'') := w
    unfold gSet at w'
    by_cases hlt : i < g1.length
    · rw [if_pos hlt] at w'
      obtain ⟨S2, E2, sub⟩ := E'.put hlt rm nd (fun a ha hb => (go.new a (List.mem_append_left _ hb)).elim (E.am a ha).1 (E.am a ha).2) (hp i hw)
      exact w' _ H' S2 (go.sub sub) E2
    · rw [if_neg hlt] at w'
      exact w'.elim
end
end Tw

namespace Tw
open PySem PySem.Spec PyProof.Rows L2
section
variable {prog : Program} {w : World} {A : Around} {E : Value → Shared → Prop} {s : Shared} {b c : Bool} {it l : Addr} {i : Nat} {xs : Array Value}
theorem nextB_item {x : Value} {Q : Value → Shared → Prop} (hit : ItB b s.heap it l i) (hl : SqB b s.heap l xs) (hx : xs[i]? = some x) (hQ : ∀ h', ItB b h' it l (i + 1) → Heap.SameBut it s.heap h' → Q x { s with heap := h' }) :
    wpAny (model prog w) A (Builtin.SmallTypes.nextOf (.ref it)) Q E s := by
  cases b
  · exact RZ.nextOf_tuple_item hit hl hx hQ
  · exact wpAny_nextOf_list_item hit hl hx hQ
theorem nextB_end {Q : Value → Shared → Prop} (hh : A.handled = none) (hit : ItB b s.heap it l i) (hl : SqB b s.heap l xs) (hx : xs[i]? = none) (hE : ∀ h' e, Heap.ExtBut it s.heap h' → (∃ o, h'.get? e = some o ∧ o.cls = .type "StopIteration") → E (.ref e) { s with heap := h' }) :
    wpAny (model prog w) A (Builtin.SmallTypes.nextOf (.ref it)) Q E s := by
  cases b
  · exact RZ.nextOf_tuple_end hh hit hl hx hE
  · exact wpAny_nextOf_list_end hh hit hl hx hE
theorem zipB_item {z TI TO i1 i2 l1 l2 : Addr} {k : Nat} {xs ys : Array Value} {x y u v : Value} {Q : Value → Shared → Prop} (D : ZipApart z TI TO i1 i2 l1 l2) (hz : IsZip s.heap z TI TO .none) (hTI : IsPair s.heap TI (.ref i1) (.ref i2)) (hTO : IsPair s.heap TO u v)
    (h1 : ItB b s.heap i1 l1 k) (h2 : ItB c s.heap i2 l2 k) (hl1 : SqB b s.heap l1 xs) (hl2 : SqB c s.heap l2 ys) (hx : xs[k]? = some x) (hy : ys[k]? = some y)
    (hQ : ∀ h', IsZip h' z TI TO (rawInt s.heap.objs.size) → IsPair h' TO x y → ItB b h' i1 l1 (k + 1) → ItB c h' i2 l2 (k + 1) → IsPair h' s.heap.objs.size x y → (∀ e o, e ≠ z → e ≠ TO → e ≠ i1 → e ≠ i2 → s.heap.get? e = some o → h'.get? e = some o) → Q (.ref s.heap.objs.size) { s with heap := h' }) :
    wpAny (model prog w) A (Builtin.«zip.__next__» ⟨[.ref z], []⟩) (fun fin s' => ∃ v, fin = .done (.ret v) ∧ Q v s') E s := by
  show wpAny _ _ (field (.ref z) 2 >>= _) _ _ _; refine wpAny_bind (wpAny_field hz rfl (x := .bool false) rfl ?_); show wpAny _ _ (field (.ref z) 3 >>= _) _ _ _
  refine wpAny_bind (wpAny_field hz rfl (x := .ref TI) rfl (wpAny_bind (wpAny_seqItems hTI rfl ?_))); show wpAny _ _ (Builtin.SmallTypes.ownedTupleIsFree (.ref z) >>= _) _ _ _
  refine wpAny_bind ?_; unfold Builtin.SmallTypes.ownedTupleIsFree; refine wpAny_bind (wpAny_field hz rfl (x := .none) rfl (wpAny_pure ?_)); simp only [if_true]
  refine wpAny_bind (wpAny_rule (wpAny_bind (wpAny_field hz rfl (x := .ref TO) rfl (wpAny_bind (wpAny_setField_rec hz (by simp) fun g1 z1 s1 => ?_)))))
  have z1' : IsZip g1 z TI TO .ellipsis := z1
  refine wpAny_bind ?_; simp only [List.zipIdx_cons, List.zipIdx_nil, List.forIn_cons, List.forIn_nil]; refine wpAny_bind (wpAny_bind (wpAny_onRaise ?_)); show wpAny _ _ (Builtin.SmallTypes.nextOf (.ref i1) >>= _) _ _ _
  refine wpAny_bind (nextB_item (h1.ext s1.extBut D.i1z) (hl1.ext s1.extBut D.l1z) hx fun g2 n1 s2 => wpAny_pure ?_)
  have o2 : IsPair g2 TO u v := s2.extBut _ _ D.TOi1 (s1.extBut _ _ D.TOz hTO)
  refine wpAny_bind (wpAny_seqItems o2 rfl (wpAny_bind (wpAny_updateSeq_pair o2 fun g3 o3 s3 => wpAny_bind (wpAny_letGo (wpAny_pure ?_)))))
  have o3' : IsPair g3 TO x v := o3
  refine wpAny_bind (wpAny_bind (wpAny_onRaise ?_)); show wpAny _ _ (Builtin.SmallTypes.nextOf (.ref i2) >>= _) _ _ _
  have q2 : ItB c g3 i2 l2 k := ((h2.ext s1.extBut D.i2z).ext s2.extBut D.i12.symm).ext s3.extBut D.TOi2.symm
  have r2 : SqB c g3 l2 ys := ((hl2.ext s1.extBut D.l2z).ext s2.extBut D.l2i1).ext s3.extBut D.l2TO
  refine wpAny_bind (nextB_item q2 r2 hy fun g4 n2 s4 => wpAny_pure ?_)
  have o4 : IsPair g4 TO x v := s4.extBut _ _ D.TOi2 o3'
  refine wpAny_bind (wpAny_seqItems o4 rfl (wpAny_bind (wpAny_updateSeq_pair o4 fun g5 o5 s5 => wpAny_bind (wpAny_letGo (wpAny_pure (wpAny_pure ?_))))))
  have o5' : IsPair g5 TO x y := o5
  refine wpAny_bind (wpAny_seqItems o5' rfl (wpAny_bind (wpAny_newTuple ?_)))
  have sz : g5.objs.size = s.heap.objs.size := by rw [s5.1, s4.1, s3.1, s2.1, s1.1]
  have z5 : IsZip g5 z TI TO .ellipsis := s5.extBut _ _ D.TOz.symm (s4.extBut _ _ D.i2z.symm (s3.extBut _ _ D.TOz.symm (s2.extBut _ _ D.i1z.symm z1')))
  have k5 : ∀ e o, e ≠ z → e ≠ TO → e ≠ i1 → e ≠ i2 → s.heap.get? e = some o → g5.get? e = some o := fun e o c1 c2 c3 c4 q => s5.extBut _ _ c2 (s4.extBut _ _ c4 (s3.extBut _ _ c2 (s2.extBut _ _ c3 (s1.extBut _ _ c1 q))))
  have a1 : ItB b g5 i1 l1 (k + 1) := ((n1.ext s3.extBut D.TOi1.symm).ext s4.extBut D.i12).ext s5.extBut D.TOi1.symm
  have a2 : ItB c g5 i2 l2 (k + 1) := n2.ext s5.extBut D.TOi2.symm
  have zl : z < g5.objs.size := Heap.lt_size z5
  show wpAny _ _ (Builtin.SmallTypes.ownedTupleHandOut (.ref z) (.ref g5.objs.size) >>= _) _ _ _; refine wpAny_bind ?_; unfold Builtin.SmallTypes.ownedTupleHandOut
  have z6 : IsZip (g5.push { cls := .type "tuple", data := .seq #[x, y] }) z TI TO .ellipsis := Heap.get?_push_of_some _ z5
  refine wpAny_bind (wpAny_setField_rec z6 (by simp) fun g7 z7 s7 => ?_)
  have z7' : IsZip g7 z TI TO (rawInt g5.objs.size) := z7
  refine wpAny_setField_rec z7' (by simp) fun g8 z8 s8 => ?_
  have z8' : IsZip g8 z TI TO (rawInt g5.objs.size) := z8
  have up : ∀ e o, e ≠ z → g5.get? e = some o → g8.get? e = some o := fun e o n q => s8.extBut _ _ n (s7.extBut _ _ n (Heap.get?_push_of_some _ q))
  have t8 : IsPair g8 g5.objs.size x y := s8.extBut _ _ (Nat.ne_of_gt zl) (s7.extBut _ _ (Nat.ne_of_gt zl) (Heap.get?_push_size _ rfl))
  rw [sz] at z8' t8
  refine wpAny_pure ⟨_, rfl, ?_⟩; show Q (.ref g5.objs.size) _; rw [sz]
  exact hQ g8 z8' (up _ _ D.TOz o5') (a1.at_ fun o q => up _ o D.i1z q) (a2.at_ fun o q => up _ o D.i2z q) t8 fun e o c1 c2 c3 c4 q => up e o c1 (k5 e o c1 c2 c3 c4 q)
theorem zipB_end {z TI TO i1 i2 l1 l2 : Addr} {k : Nat} {xs ys : Array Value} {u v : Value} {Q : Fin → Shared → Prop} (hh : A.handled = none) (D : ZipApart z TI TO i1 i2 l1 l2) (hz : IsZip s.heap z TI TO .none) (hTI : IsPair s.heap TI (.ref i1) (.ref i2)) (hTO : IsPair s.heap TO u v)
    (h1 : ItB b s.heap i1 l1 k) (h2 : ItB c s.heap i2 l2 k) (hl1 : SqB b s.heap l1 xs) (hl2 : SqB c s.heap l2 ys) (hend : xs[k]? = none ∨ ys[k]? = none)
    (hE : ∀ h' e, (∀ e o, e ≠ z → e ≠ TO → e ≠ i1 → e ≠ i2 → s.heap.get? e = some o → h'.get? e = some o) → (∃ o, h'.get? e = some o ∧ o.cls = .type "StopIteration") → E (.ref e) { s with heap := h' }) :
    wpAny (model prog w) A (Builtin.«zip.__next__» ⟨[.ref z], []⟩) Q E s := by
  show wpAny _ _ (field (.ref z) 2 >>= _) _ _ _; refine wpAny_bind (wpAny_field hz rfl (x := .bool false) rfl ?_); show wpAny _ _ (field (.ref z) 3 >>= _) _ _ _
  refine wpAny_bind (wpAny_field hz rfl (x := .ref TI) rfl (wpAny_bind (wpAny_seqItems hTI rfl ?_))); show wpAny _ _ (Builtin.SmallTypes.ownedTupleIsFree (.ref z) >>= _) _ _ _
  refine wpAny_bind ?_; unfold Builtin.SmallTypes.ownedTupleIsFree; refine wpAny_bind (wpAny_field hz rfl (x := .none) rfl (wpAny_pure ?_)); simp only [if_true]
  refine wpAny_bind (wpAny_rule (wpAny_bind (wpAny_field hz rfl (x := .ref TO) rfl (wpAny_bind (wpAny_setField_rec hz (by simp) fun g1 z1 s1 => ?_)))))
  have z1' : IsZip g1 z TI TO .ellipsis := z1
  refine wpAny_bind ?_; simp only [List.zipIdx_cons, List.zipIdx_nil, List.forIn_cons, List.forIn_nil]; refine wpAny_bind (wpAny_bind (wpAny_onRaise ?_)); show wpAny _ _ (Builtin.SmallTypes.nextOf (.ref i1) >>= _) _ _ _
  cases hx : xs[k]? with
  | none =>
    refine wpAny_bind (nextB_end hh (h1.ext s1.extBut D.i1z) (hl1.ext s1.extBut D.l1z) hx fun g2 e s2 ⟨oe, he, ce⟩ => ?_)
    have z2 : IsZip g2 z TI TO .ellipsis := s2 _ _ D.i1z.symm z1'
    have ez : e ≠ z := fun q => by subst q; rw [z2] at he; cases he; simp at ce
    exact wpAny_setField_rec z2 (by simp) fun g3 _ s3 => hE g3 e (fun d o c1 _ c3 _ q => s3.extBut _ _ c1 (s2 _ _ c3 (s1.extBut _ _ c1 q))) ⟨oe, s3.extBut _ _ ez he, ce⟩
  | some x =>
    have hy : ys[k]? = none := hend.resolve_left (by rw [hx]; exact (fun q => nomatch q))
    refine wpAny_bind (nextB_item (h1.ext s1.extBut D.i1z) (hl1.ext s1.extBut D.l1z) hx fun g2 n1 s2 => wpAny_pure ?_)
    have o2 : IsPair g2 TO u v := s2.extBut _ _ D.TOi1 (s1.extBut _ _ D.TOz hTO)
    refine wpAny_bind (wpAny_seqItems o2 rfl (wpAny_bind (wpAny_updateSeq_pair o2 fun g3 o3 s3 => wpAny_bind (wpAny_letGo (wpAny_pure ?_)))))
    refine wpAny_bind (wpAny_bind (wpAny_onRaise ?_)); show wpAny _ _ (Builtin.SmallTypes.nextOf (.ref i2) >>= _) _ _ _
    have q2 : ItB c g3 i2 l2 k := ((h2.ext s1.extBut D.i2z).ext s2.extBut D.i12.symm).ext s3.extBut D.TOi2.symm
    have r2 : SqB c g3 l2 ys := ((hl2.ext s1.extBut D.l2z).ext s2.extBut D.l2i1).ext s3.extBut D.l2TO
    refine wpAny_bind (nextB_end hh q2 r2 hy fun g4 e s4 ⟨oe, he, ce⟩ => ?_)
    have z4 : IsZip g4 z TI TO .ellipsis := s4 _ _ D.i2z.symm (s3.extBut _ _ D.TOz.symm (s2.extBut _ _ D.i1z.symm z1'))
    have ez : e ≠ z := fun q => by subst q; rw [z4] at he; cases he; simp at ce
    exact wpAny_setField_rec z4 (by simp) fun g5 _ s5 => hE g5 e (fun d o c1 c2 c3 c4 q => s5.extBut _ _ c1 (s4 _ _ c4 (s3.extBut _ _ c2 (s2.extBut _ _ c3 (s1.extBut _ _ c1 q))))) ⟨oe, s5.extBut _ _ ez he, ce⟩
theorem pyZip_item {z TI TO i1 i2 l1 l2 : Addr} {k : Nat} {xs ys : Array Value} {x y u v : Value} {Q : Option Value → Shared → Prop} (D : ZipApart z TI TO i1 i2 l1 l2) (hz : IsZip s.heap z TI TO .none) (hTI : IsPair s.heap TI (.ref i1) (.ref i2)) (hTO : IsPair s.heap TO u v)
    (h1 : ItB b s.heap i1 l1 k) (h2 : ItB c s.heap i2 l2 k) (hl1 : SqB b s.heap l1 xs) (hl2 : SqB c s.heap l2 ys) (hx : xs[k]? = some x) (hy : ys[k]? = some y)
    (hQ : ∀ h', IsZip h' z TI TO (rawInt s.heap.objs.size) → IsPair h' TO x y → ItB b h' i1 l1 (k + 1) → ItB c h' i2 l2 (k + 1) → IsPair h' s.heap.objs.size x y → (∀ e o, e ≠ z → e ≠ TO → e ≠ i1 → e ≠ i2 → s.heap.get? e = some o → h'.get? e = some o) → Q (some (.ref s.heap.objs.size)) { s with heap := h' }) :
    wpAny (model prog w) A (pyNext (.ref z)) Q E s := by
  have hT : s.TypeIs (.ref z) "zip" := ⟨_, hz, rfl⟩
  unfold pyNext; refine wpAny_bind (wpAny_attempt (wpAny_callSpecial?_slot (name := Str.ofString "__next__") hT F.slot_zip_next (wpAny_call_entry F.slot_zip_next hT F.entry_zip_next ?_ (F.args_zip_next_1 _))))
  exact zipB_item D hz hTI hTO h1 h2 hl1 hl2 hx hy fun h' a1 a2 a3 a4 a5 a6 => wpAny_pure (hQ h' a1 a2 a3 a4 a5 a6)
theorem pyZip_end {z TI TO i1 i2 l1 l2 : Addr} {k : Nat} {xs ys : Array Value} {u v : Value} {Q : Option Value → Shared → Prop} (hh : A.handled = none) (D : ZipApart z TI TO i1 i2 l1 l2) (hz : IsZip s.heap z TI TO .none) (hTI : IsPair s.heap TI (.ref i1) (.ref i2)) (hTO : IsPair s.heap TO u v)
    (h1 : ItB b s.heap i1 l1 k) (h2 : ItB c s.heap i2 l2 k) (hl1 : SqB b s.heap l1 xs) (hl2 : SqB c s.heap l2 ys) (hend : xs[k]? = none ∨ ys[k]? = none)
    (hQ : ∀ h', (∀ e o, e ≠ z → e ≠ TO → e ≠ i1 → e ≠ i2 → s.heap.get? e = some o → h'.get? e = some o) → Q none { s with heap := h' }) : wpAny (model prog w) A (pyNext (.ref z)) Q E s := by
  have hT : s.TypeIs (.ref z) "zip" := ⟨_, hz, rfl⟩
  unfold pyNext; refine wpAny_bind (wpAny_attempt (wpAny_callSpecial?_slot (name := Str.ofString "__next__") hT F.slot_zip_next (wpAny_call_entry F.slot_zip_next hT F.entry_zip_next ?_ (F.args_zip_next_1 _))))
  exact zipB_end hh D hz hTI hTO h1 h2 hl1 hl2 hend fun h' e hk ⟨o, ho, hc⟩ => wpAny_bind (wpAny_isInstance (T := "StopIteration") (b := true) ⟨o, ho, hc⟩ isSubtype_stop (wpAny_pure (hQ _ hk)))
end
end Tw

namespace Tw
open PySem PySem.Spec PyProof.Rows L2
def itOb (b : Bool) (l : Addr) : Obj := { cls := .type (match b with | true => "list_iterator" | false => "tuple_iterator"), data := .fields #[.ref l, .int 0 0] }
abbrev hB1 (h : Heap) (b : Bool) (l1 : Addr) : Heap := h.push (itOb b l1)
abbrev hB2 (h : Heap) (b c : Bool) (l1 l2 : Addr) : Heap := (hB1 h b l1).push (itOb c l2)
abbrev hB3 (h : Heap) (b c : Bool) (l1 l2 : Addr) : Heap := (hB2 h b c l1 l2).push { cls := .type "tuple", data := .seq #[.ref h.objs.size, .ref (hB1 h b l1).objs.size] }
abbrev hB4 (h : Heap) (b c : Bool) (l1 l2 : Addr) : Heap := (hB3 h b c l1 l2).push { cls := .type "tuple", data := .seq #[.none, .none] }
abbrev hB5 (h : Heap) (b c : Bool) (l1 l2 : Addr) : Heap := (hB4 h b c l1 l2).push { cls := .type "zip", data := .fields #[.none, .bool false, .bool false, .ref (hB2 h b c l1 l2).objs.size, .ref (hB3 h b c l1 l2).objs.size] }
theorem meetsB (b c : Bool) (l1 l2 : Addr) (xs ys : Array Value) : Meets (Builtin.«zip.__new__» ⟨[.type "zip", .ref l1, .ref l2], []⟩) (fun _ R s => SqB b s.heap l1 xs ∧ SqB c s.heap l2 ys ∧ R (.ok (.ret (.ref (hB4 s.heap b c l1 l2).objs.size))) { s with heap := hB5 s.heap b c l1 l2 }) := by
  cases b <;> cases c
  · exact RZ.meets_zipT_new l1 l2 xs ys
  · refine .of_wp fun prog w A R s h => ?_
    obtain ⟨hp, g, d, tk, os⟩ := s
    obtain ⟨hl1, hl2, h⟩ := h
    have hsub := sub_zip
    have e1 : Heap.IsTuple (Shared.heap ⟨hp, g, d, tk, os⟩) l1 xs := hl1
    have e2 : Heap.IsList (Shared.heap ⟨hp.push { cls := .type "tuple_iterator", data := .fields #[.ref l1, .int 0 0] }, g, d, tk, os⟩) l2 ys := Heap.IsList.push hl2 _
    wp_walk using wpAny_pyIter_tuple e1, wpAny_pyIter_list e2
    exact ⟨_, rfl, h⟩
  · refine .of_wp fun prog w A R s h => ?_
    obtain ⟨hp, g, d, tk, os⟩ := s
    obtain ⟨hl1, hl2, h⟩ := h
    have hsub := sub_zip
    have e1 : Heap.IsList (Shared.heap ⟨hp, g, d, tk, os⟩) l1 xs := hl1
    have e2 : Heap.IsTuple (Shared.heap ⟨hp.push { cls := .type "list_iterator", data := .fields #[.ref l1, .int 0 0] }, g, d, tk, os⟩) l2 ys := Heap.IsTuple.push hl2 _
    wp_walk using wpAny_pyIter_list e1, wpAny_pyIter_tuple e2
    exact ⟨_, rfl, h⟩
  · exact meets_zip_new l1 l2 xs ys
theorem itB_of {b : Bool} {h : Heap} {it l : Addr} (e : h.get? it = some (itOb b l)) : ItB b h it l 0 := by
  cases b
  · exact ⟨_, e, rfl, rfl⟩
  · exact ⟨_, e, rfl, rfl⟩
theorem itOb_live (b : Bool) (l : Addr) : (itOb b l).isFreed = false := by cases b <;> rfl
section
variable {prog : Program} {w : World} {A : Around} {E : Value → Shared → Prop} {s : Shared}
theorem callB {b c : Bool} {l1 l2 : Addr} {xs ys : Array Value} {Q : Value → Shared → Prop} (hl1 : SqB b s.heap l1 xs) (hl2 : SqB c s.heap l2 ys)
    (h : ∀ h', IsZip h' (s.heap.objs.size + 4) (s.heap.objs.size + 2) (s.heap.objs.size + 3) .none → IsPair h' (s.heap.objs.size + 2) (.ref s.heap.objs.size) (.ref (s.heap.objs.size + 1)) → IsPair h' (s.heap.objs.size + 3) .none .none →
      ItB b h' s.heap.objs.size l1 0 → ItB c h' (s.heap.objs.size + 1) l2 0 → (∀ d o, s.heap.get? d = some o → h'.get? d = some o) → Q (.ref (s.heap.objs.size + 4)) { s with heap := h' }) : wpAny (model prog w) A (call (.type "zip") [.ref l1, .ref l2]) Q E s := by
  refine callType_new F.called_zip (by decide) (F.typeCall_zip_2 _ _) (F.newCall_zip_2 _ _) (fun obj => F.args_object_init_3 obj _ _) F.entry_zip_new (meetsB b c l1 l2 xs ys) ⟨hl1, hl2, ?_⟩
  have e1 : (hB1 s.heap b l1).objs.size = s.heap.objs.size + 1 := Heap.size_push ..
  have e2 : (hB2 s.heap b c l1 l2).objs.size = s.heap.objs.size + 2 := (Heap.size_push ..).trans (by rw [e1])
  have e3 : (hB3 s.heap b c l1 l2).objs.size = s.heap.objs.size + 3 := (Heap.size_push ..).trans (by rw [e2])
  have e4 : (hB4 s.heap b c l1 l2).objs.size = s.heap.objs.size + 4 := (Heap.size_push ..).trans (by rw [e3])
  have up : ∀ {h : Heap} {o o' : Obj} {d : Addr}, h.get? d = some o → (h.push o').get? d = some o := fun e => Heap.get?_push_of_some _ e
  have f5 : (hB5 s.heap b c l1 l2).get? (hB4 s.heap b c l1 l2).objs.size = some _ := Heap.get?_push_size _ rfl
  have f4 : (hB5 s.heap b c l1 l2).get? (hB3 s.heap b c l1 l2).objs.size = some _ := up (Heap.get?_push_size _ rfl)
  have f3 : (hB5 s.heap b c l1 l2).get? (hB2 s.heap b c l1 l2).objs.size = some _ := up (up (Heap.get?_push_size _ rfl))
  have f2 : (hB5 s.heap b c l1 l2).get? (hB1 s.heap b l1).objs.size = some (itOb c l2) := up (up (up (Heap.get?_push_size _ (itOb_live c l2))))
  have f1 : (hB5 s.heap b c l1 l2).get? s.heap.objs.size = some (itOb b l1) := up (up (up (up (Heap.get?_push_size _ (itOb_live b l1)))))
  rw [e2, e3, e4] at f5; rw [e1, e2] at f3; rw [e3] at f4; rw [e1] at f2
  show _ ∧ _
  rw [e4]
  exact ⟨⟨_, f5, rfl⟩, h _ f5 f3 f4 (itB_of f1) (itB_of f2) fun d o q => up (up (up (up (up q))))⟩
end
def SqE (b : Bool) (K : Fr) (H : Hp) (a : Addr) (xs : List V) : Prop := match b with
  | true => SqL K H a xs
  | false => SqT K H a xs
def ItzB (K : Fr) (b c : Bool) (p q : Addr) : It :=
  ⟨fun i H => ∃ (xs ys : List V) (x y : V), SqE b K H p xs ∧ SqE c K H q ys ∧ xs[i]? = some x ∧ ys[i]? = some y,
    fun i H v H' => ∃ T x y, v = .ref T ∧ H T = none ∧ H' = upd H T (.tup [x, y]) ∧ (∀ xs, SqE b K H p xs → xs[i]? = some x) ∧ ∀ ys, SqE c K H q ys → ys[i]? = some y,
    fun i H => ∃ xs ys : List V, SqE b K H p xs ∧ SqE c K H q ys ∧ (xs.length ≤ i ∨ ys.length ≤ i)⟩
section
variable {X : Cx} {pins : List (Addr × Obj)} {σ : L2.St} {H : Hp} {s : Shared}
theorem sqE_at {b : Bool} {a : Addr} {xs : List V} (I : Inv X pins σ H s) (h : SqE b X.K H a xs) : ∃ its, Vals xs its ∧ SqB b s.heap a its.toArray := by
  cases b
  · obtain ⟨its, rv, p, _⟩ := I.tuple h; exact ⟨its, rv, p⟩
  · obtain ⟨its, rv, p, _⟩ := I.list h; exact ⟨its, rv, p.isList⟩
theorem sqE_inj {b : Bool} {a : Addr} {xs ys : List V} (I : Inv X pins σ H s) (h : SqE b X.K H a xs) (h2 : SqE b X.K H a ys) : xs = ys := by
  cases b
  · exact I.tuple_inj h h2
  · exact I.list_inj h h2
end
theorem turnB {P : Program} {w : World} {K : Fr} {elts : List Expr} {kk : Nat} {tpos : Pos} {b c : Bool} {p q z TI TO i1 i2 : Addr} (D : ZipApart z TI TO i1 i2 p q) :
    Turn P w K (.Tuple elts kk tpos) (ItzB K b c p q) [z, TI, TO, i1, i2] z (fun i h => IsZip h z TI TO .none ∧ IsPair h TI (.ref i1) (.ref i2) ∧ (∃ x y, IsPair h TO x y) ∧ ItB b h i1 p i ∧ ItB c h i2 q i) where
  mem := List.mem_cons_self
  obj := fun i h ⟨hz, hTI, ⟨x, y, hTO⟩, h1, h2⟩ d hd => by
    have e' : d = z ∨ d = TI ∨ d = TO ∨ d = i1 ∨ d = i2 := by simpa using hd
    obtain ⟨o1, e1, f1, d1⟩ := h1.obj
    obtain ⟨o2, e2, f2, d2⟩ := h2.obj
    rcases e' with e | e | e | e | e <;> rw [e]
    · exact ⟨_, hz, fun v t => nomatch t⟩
    · exact ⟨_, hTI, fun v t => nomatch t⟩
    · exact ⟨_, hTO, fun v t => nomatch t⟩
    · exact ⟨o1, e1, fun v t => by rw [d1] at t; cases t⟩
    · exact ⟨o2, e2, fun v t => by rw [d2] at t; cases t⟩
  keep := fun i h h' ⟨hz, hTI, ⟨x, y, hTO⟩, h1, h2⟩ k => ⟨k z (by simp) _ hz, k TI (by simp) _ hTI, ⟨x, y, k TO (by simp) _ hTO⟩, h1.at_ fun o t => k i1 (by simp) o t, h2.at_ fun o t => k i2 (by simp) o t⟩
  item := by
    intro X hP hw hK hc i pins s σ H E I hf ⟨hz, hTI, ⟨x0, y0, hTO⟩, h1, h2⟩ ⟨xs, ys, x, y, hqx, hqy, hx, hy⟩
    subst hP hw hK
    obtain ⟨its, rv, pa⟩ := sqE_at I hqx
    obtain ⟨its2, rv2, pb⟩ := sqE_at I hqy
    obtain ⟨u, hu, ru⟩ := rv.get hx
    obtain ⟨u2, hu2, ru2⟩ := rv2.get hy
    have zl : z < s.heap.objs.size := Heap.lt_size hz
    have five : ∀ d, d ∈ [z, TI, TO, i1, i2] → d = z ∨ d = TI ∨ d = TO ∨ d = i1 ∨ d = i2 := fun d hd => by simpa using hd
    refine pyZip_item D hz hTI hTO h1 h2 pa pb (x := u) (y := u2) (by simpa using hu) (by simpa using hu2) fun h' z' TO' h1' h2' hT hk => ?_
    refine ⟨_, rfl, wpAny_letOwnedTupleGo_zip (s := { s with heap := h' }) z' fun h'' z'' sb => ?_⟩
    have hT2 : h''.get? s.heap.objs.size = some { cls := .type "tuple", data := .seq #[u, u2] } := (sb.2 _ (Nat.ne_of_gt zl)).trans hT
    have ob : ObjOk X.prog X.w (upd H s.heap.objs.size (.tup [x, y])) h'' s.heap.objs.size (.tup [x, y]) := ⟨(by show 2 ≤ sizeLine; decide), [u, u2], .cons ru (.cons ru2 .nil), ⟨_, hT2, rfl, _, rfl⟩⟩
    have I1 : Inv X pins σ (upd H s.heap.objs.size (.tup [x, y])) { s with heap := h'' } := I.turnedNew (t' := s.toks) (ch := [z, TI, TO, i1, i2]) (fun d o hd t => (sb.2 d fun e => hd (by simp [e])).trans (hk d o (fun e => hd (by simp [e])) (fun e => hd (by simp [e])) (fun e => hd (by simp [e])) (fun e => hd (by simp [e])) t)) hf (Nat.le_refl _) ob
    refine ⟨.ref s.heap.objs.size, _, I1, rfl, ⟨_, x, y, rfl, I.hok.fresh (Nat.le_refl _), rfl, fun l hl => by rw [sqE_inj I hl hqx]; exact hx, fun l hl => by rw [sqE_inj I hl hqy]; exact hy⟩, ⟨z'', ?_, ⟨u, u2, ?_⟩, ?_, ?_⟩, fun d hd => ?_⟩
    · exact (sb.2 _ D.TIz).trans (hk _ _ D.TIz D.TITO D.TIi1 D.TIi2 hTI)
    · exact (sb.2 _ D.TOz).trans TO'
    · exact h1'.at_ fun o t => (sb.2 _ D.i1z).trans t
    · exact h2'.at_ fun o t => (sb.2 _ D.i2z).trans t
    · have lt : d < s.heap.objs.size := by
        obtain ⟨o1, e1, _⟩ := h1.obj
        obtain ⟨o2, e2, _⟩ := h2.obj
        rcases five d hd with e | e | e | e | e <;> rw [e]
        · exact zl
        · exact Heap.lt_size hTI
        · exact Heap.lt_size hTO
        · exact Heap.lt_size e1
        · exact Heap.lt_size e2
      rw [upd_ne (Nat.ne_of_lt lt)]
      exact (hf d hd).1
  done := by
    intro X hP hw hK hc i pins s σ H E I hf ⟨hz, hTI, ⟨x0, y0, hTO⟩, h1, h2⟩ ⟨xs, ys, hqx, hqy, hend⟩
    subst hP hw hK
    obtain ⟨its, rv, pa⟩ := sqE_at I hqx
    obtain ⟨its2, rv2, pb⟩ := sqE_at I hqy
    have l1 := rv.length
    have l2 := rv2.length
    have he : its.toArray[i]? = none ∨ its2.toArray[i]? = none := hend.imp (fun t => by simp; omega) fun t => by simp; omega
    exact pyZip_end (I.ok.hd hc) D hz hTI hTO h1 h2 pa pb he fun h' hk => ⟨rfl, I.turnedL (t' := s.toks) (ch := [z, TI, TO, i1, i2]) (fun d o hd t => hk d o (fun e => hd (by simp [e])) (fun e => hd (by simp [e])) (fun e => hd (by simp [e])) (fun e => hd (by simp [e])) t) hf⟩
  self := fun A i s Q E st h => wpAny_pyIter_zip st.1 h
end Tw

namespace Tw
open PySem PySem.Spec PyProof.Rows L2
def iZipB (K : Fr) (ta : TA) : TI := fun σ H R => ta σ H fun vs H1 => ∃ b c p q xs ys, vs = [.ref p, .ref q] ∧ SqE b K H1 p xs ∧ SqE c K H1 q ys ∧ R (ItzB K b c p q) H1
theorem pi_zipB {X : Cx} {e e2 : Expr} {ta : TA} {p pos tpos : Pos} {elts : List Expr} {kk : Nat} (hg : Gl X "zip") (hm : X.mg "zip" = none) (ha : PA X [e, e2] ta)
    (hs : starEach [e, e2] X.env = (false, eval e X.env) :: starEach [e2] X.env := by rfl) (hpl : (backTo pos (starEach [e2] X.env)).any (·.1) = false := by rfl) : PI X (.Tuple elts kk tpos) (.Call (.Name "zip" p) [e, e2] [] pos) (iZipB X.K ta) := by
  constructor
  intro pins s σ H R I h
  refine Call_ (ld_blt I hg hm PyProof.Rows.boot_zip (PyProof.Rows.callWith_type1 (thn (ha.run pos pins s σ H _ I h) fun us s1 hx => ?_) hs hpl))
  obtain ⟨vs, H1, I1, r1, b, c, l1, l2, xs, ys, ex, q1, q2, q⟩ := hx
  subst ex
  obtain _ | ⟨r, rr⟩ := r1
  obtain _ | ⟨r', rr⟩ := rr
  cases rr; cases r; cases r'
  obtain ⟨its, rv, p1⟩ := sqE_at I1 q1
  obtain ⟨its2, rv2, p2⟩ := sqE_at I1 q2
  obtain ⟨o1, g1⟩ := p1.obj
  obtain ⟨o2, g2⟩ := p2.obj
  refine callB p1 p2 fun h' hz hTI hTO h1 h2 hk => wpAny_pyIter_zip hz ?_
  refine ⟨s1.heap.objs.size + 4, [s1.heap.objs.size + 4, s1.heap.objs.size + 2, s1.heap.objs.size + 3, s1.heap.objs.size, s1.heap.objs.size + 1], _, _, H1, rfl, I1.kept (t' := s1.toks) hk, turnB (PySem.W.ktu_apart s1.heap.objs.size l1 l2 (Heap.lt_size g1) (Heap.lt_size g2)), ⟨hz, hTI, ⟨_, _, hTO⟩, h1, h2⟩, fun d hd => ?_, q⟩
  have le : s1.heap.objs.size ≤ d := by
    have e' : d = s1.heap.objs.size + 4 ∨ d = s1.heap.objs.size + 2 ∨ d = s1.heap.objs.size + 3 ∨ d = s1.heap.objs.size ∨ d = s1.heap.objs.size + 1 := by simpa using hd
    rcases e' with e | e | e | e | e <;> rw [e] <;> first | exact Nat.le_add_right _ _ | exact Nat.le_refl _
  exact I1.fpOk le (I1.hok.fresh le)
theorem seq_at {K : Fr} {mg : Mg} {pv : Pv} {A : Ad} {σ : L2.St} {γ : Γ} {H : Hp} {S : List Addr} (E : Env K mg pv A σ γ H S) {d : D} {ds : List D} {v : V} (e : seqOf d = some ds) (r : RD K H (us A S) d v) :
    ∃ b a xs, v = .ref a ∧ SqE b K H a xs ∧ RDs K H (us A S) ds xs ∧ ∀ H1 S1, Go H S H1 S1 → SqE b K H1 a xs := by
  unfold seqOf at e
  split at e <;> cases e
  · obtain ⟨a, xs, e1, h1, u, r1⟩ := rd_lst r
    exact ⟨true, a, xs, e1, SqL.of h1, r1, fun H1 S1 g => SqL.of (g.obj a _ h1 fun z => u (.inr z))⟩
  · obtain ⟨a, xs, e1, h1, r1⟩ := rd_tup r
    exact ⟨false, a, xs, e1, h1, r1, fun H1 S1 g => (E.keep g).sqT h1⟩
def zipD (ds es : List D) : List D := (ds.zip es).map fun p => .tuple [p.1, p.2]
theorem zipD_get {ds es : List D} {i : Nat} {t : D} (h : (zipD ds es)[i]? = some t) : ∃ d e, ds[i]? = some d ∧ es[i]? = some e ∧ t = .tuple [d, e] := by
  unfold zipD at h
  rw [List.getElem?_map] at h
  cases q : (ds.zip es)[i]? with
  | none => rw [q] at h; cases h
  | some p =>
    rw [q] at h
    obtain ⟨h1, h2⟩ := List.getElem?_zip_eq_some.mp q
    exact ⟨p.1, p.2, h1, h2, (Option.some.inj h).symm⟩
theorem zipD_len {ds es : List D} : (zipD ds es).length = min ds.length es.length := by simp [zipD]
theorem itok_zip {K : Fr} {mg : Mg} {pv : Pv} {A : Ad} {σ : L2.St} {γ : Γ} {H : Hp} {S : List Addr} (E : Env K mg pv A σ γ H S) {b c : Bool} {p q : Addr} {xs ys : List V} {ds es : List D} (r : RDs K H (us A S) ds xs) (r2 : RDs K H (us A S) es ys)
    (k : ∀ H1 S1, Go H S H1 S1 → SqE b K H1 p xs) (k2 : ∀ H1 S1, Go H S H1 S1 → SqE c K H1 q ys) : ItOk K A H S (ItzB K b c p q) (zipD ds es) where
  go := fun i H1 S1 hi g => by
    rw [zipD_len] at hi
    exact ⟨xs, ys, xs[i]'(by rw [r.length]; omega), ys[i]'(by rw [r2.length]; omega), k H1 S1 g, k2 H1 S1 g, List.getElem?_eq_getElem _, List.getElem?_eq_getElem _⟩
  stop := fun H1 S1 g => by
    refine ⟨xs, ys, k H1 S1 g, k2 H1 S1 g, ?_⟩
    rw [zipD_len, r.length, r2.length]
    omega
  yld := fun i d H1 S1 x H2 hd g hy => by
    obtain ⟨T, x1, y1, e1, hT, e2, f1, f2⟩ := hy
    subst e1 e2
    obtain ⟨d1, d2, g1, g2, e3⟩ := zipD_get hd
    subst e3
    obtain ⟨v1, w1, q1⟩ := r.get g1
    obtain ⟨v2, w2, q2⟩ := r2.get g2
    have z1 := f1 xs (k H1 S1 g)
    have z2 := f2 ys (k2 H1 S1 g)
    rw [w1] at z1
    rw [w2] at z2
    cases z1
    cases z2
    refine ⟨same_new hT, fun U hU => ?_⟩
    have kp : Keep H H1 (us A S) U := ⟨(E.keep g).obj, fun b hb hn hu => (hU b hu).elim hn hb⟩
    exact rd_newT (by rw [RDs]; exact ⟨_, _, rfl, RD.keep kp d1 _ q1, by rw [RDs]; exact ⟨_, _, rfl, RD.keep kp d2 _ q2, by rw [RDs]⟩⟩) hT
def zip2 : List D → Option (List D)
  | [d, e] => (seqOf d).bind fun ds => (seqOf e).map fun es => zipD ds es
  | _ => none
section
variable {X : Cx} {W : WX} {pu : Bool} {a b : Expr} {ms : Γ → Out (List D)} {p pos tpos : Pos} {elts : List Expr} {kk : Nat}
theorem ji_zip (hg : Gl X "zip") (hm : X.mg "zip" = none) (ha : JDs X W pu [a, b] ms) (hs : starEach [a, b] X.env = (false, eval a X.env) :: starEach [b] X.env := by rfl) (hpl : (backTo pos (starEach [b] X.env)).any (·.1) = false := by rfl) :
    JI X W pu (.Tuple elts kk tpos) (.Call (.Name "zip" p) [a, b] [] pos) (iRg zip2 ms) := by
  refine ⟨PI.imp (pi_zipB hg hm ha.pa hs hpl) fun σ H R ⟨pv, A, γ, S, E, w⟩ => ⟨pv, A, γ, S, E, seqDs w fun ds γ1 v H1 S1 go p E1 r w1 => ?_⟩, fun z => quiet_bind (ha.quiet z) fun d => quiet_opt _ (fun ds γ => Out.ok ds γ) fun _ => quiet_ok _⟩
  cases q : zip2 ds with
  | none => rw [q] at w1; exact w1.elim
  | some rs =>
    rw [q] at w1
    unfold zip2 at q
    split at q
    · rename_i d e
      obtain ⟨x, y, e1, r1, r2⟩ := rds2 r
      cases q1 : seqOf d with
      | none => rw [q1] at q; cases q
      | some ds =>
        cases q2 : seqOf e with
        | none => rw [q1, q2] at q; cases q
        | some es =>
          rw [q1, q2] at q
          cases q
          obtain ⟨b1, a1, xs, x1, s1, t1, k1⟩ := seq_at E1 q1 r1
          obtain ⟨b2, a2, ys, x2, s2, t2, k2⟩ := seq_at E1 q2 r2
          exact ⟨b1, b2, a1, a2, xs, ys, by rw [e1, x1, x2], s1, s2, w1 _ H1 S1 go p E1 (itok_zip E1 t1 t2 k1 k2)⟩
    · cases q
theorem jd_glI {x : Str} {i : Int} (h : ∃ t, X.mg x = some (.int i t)) (hg : Gl X x := by rfl) (hdb : (x == ("__debug__" : Str)) = false := by decide) : JD X W true (.Name x pos) (mC (.int i)) := by
  obtain ⟨t, h⟩ := h
  exact jd_glob hg h (v := .int i) ⟨t, rfl⟩ (fun _ _ => rd_int.mpr rfl) hdb
end
end Tw

namespace Tw
open PySem PySem.Spec PyProof.Rows L2
structure ErrC (K : Fr) (mg : Str → Option Value) (c : String) (C : Addr) : Prop where
  mg : mg (Str.ofString c) = some (.ref C)
  ex : PySem.W.excIn K C He.veBase "ValueError.__new__" = true
  kp : PySem.W.keepIn K (.ref C) = true
  sb : PySem.W.subIn K (.ref C) (.type "BaseException") = some true
  ty : PySem.W.typeIn K (.ref C) = some (.type "type")
def sRaise (c : String) : MS := fun γ => .err c γ
section
variable {X : Cx} {W : WX} {k : Nat} {wb : List Nat} {pos p p2 pos2 : Pos} {j : Nat} {m : Str}
theorem js_raise (f : Fine X W k) (c : String) {C : Addr} (e : ErrC X.K X.mg c C) (hg : Gl X (Str.ofString c) := by rfl) (hdb : ((Str.ofString c) == ("__debug__" : Str)) = false := by decide) :
    JS X W wb (.Raise (some (.Call (.Name (Str.ofString c) p) [.Constant (.str m) j p2] [] pos2)) none pos) (sRaise c) :=
  ⟨PS.imp (ps_raise f.calm f.tk (pmk_own PySem.F.excBase_ValueError e.ex e.mg e.kp (raises_own e.sb e.ty) hg hdb)) fun D σ H ⟨pv, A, γ, S, hp, E, w⟩ => w C σ H S e.mg .refl E⟩
end
end Tw

namespace Tw
open PySem PySem.Spec L2
theorem look_at {ex : List Look} {K : Fr} (c : (ex.all fun e => e K) = true) (i : Nat) {e : Look} (h : ex[i]? = some e := by rfl) : e K = true := List.all_eq_true.mp c e (List.mem_of_getElem? h)
end Tw

namespace Tw
open PySem PySem.Spec PyProof.Rows L2
structure Kin (K : Fr) (mg : Str → Option Value) (cs : List String) (sub : String → String → Bool) : Prop where
  mg : ∀ c ∈ cs, mg (Str.ofString c) = some (.ref (He.ga K (Str.ofString c)))
  exc : ∀ c ∈ cs, ExcC K (He.ga K (Str.ofString c))
  kit : ∀ c ∈ cs, ∀ x ∈ "ValueError" :: cs, PySem.W.kitOne K (.ref (He.ga K (Str.ofString c))) (clsOf K x) = some (sub c x)
  exm : ∀ c ∈ cs, ∀ x ∈ cs, PySem.W.exmOne K (.ref (He.ga K (Str.ofString c))) (.ref (He.ga K (Str.ofString x))) = some (sub c x)
end Tw

namespace Tw
open PySem PySem.Spec PyProof.Rows L2
structure JSu (X : Cx) (wb : List Nat) (i : Nat) (cs : List String) (suite : List Stmt) (su : String → MS) : Prop where
  ps : ∀ (a : Addr) (oe : Obj) (pn : List (Addr × Obj)) (c : String), c ∈ cs → Zc (.ref (He.ga X.K (Str.ofString c))) none oe → (∃ vs, oe.data = .fields vs) →
    PSs (X.suite a ((a, oe) :: pn)) suite (fun D σ H => ∃ pv A γ S, pv i = some (.ref a) ∧ (∀ j, wb.contains j = false → j ≠ i → pv j = none) ∧ Env X.K X.mgw pv A σ γ H S ∧ WantS X.K X.mgw WF pv A H S D (su c γ))
section
variable {X : Cx} {W : WX} {k : Nat} {wb : List Nat} {i : Nat} {cs : List String} {sub : String → String → Bool} {body suite : List Stmt} {b₀ : Stmt} {mb : MS} {su : String → MS} {n : Str} {np pos pos' : Pos}
theorem Fine.tr (f : Fine X W k) {W' : WX} {pn : List (Addr × Obj)} {xe : Value → Shared → Prop} (tk : Takes (X.tr pn xe) W') (po : PassesOwn (model X.prog X.w) X.A X.env xe) : Fine (X.tr pn xe) W' k := ⟨f.room, tk, po, f.calm, f.nd⟩
end
end Tw

namespace Tw
open PySem PySem.Spec PyProof.Rows L2
theorem excC_of {K : Fr} {D : Addr} (h : excCB K D = true) : ExcC K D := by
  unfold excCB at h
  simp only [Bool.and_eq_true, decide_eq_true_eq] at h
  obtain ⟨h1, h2, h3, h4, h5, h6, h7, h8⟩ := h
  exact ⟨h1, h2, h3, h4, h5, h6, h7, h8⟩
theorem kin_ok {K : Fr} {h : Heap} {mg : Str → Option Value} {cs : List String} {sub : String → String → Bool} (X : K.In h) (G : h.Ns mainGlobals mg) (c : kinB cs sub K = true) : Kin K mg cs sub ∧ ∀ x ∈ cs, ErrC K mg x (He.ga K (Str.ofString x)) := by
  have q : ∀ x ∈ cs, _ := List.all_eq_true.mp c
  refine ⟨⟨fun x hx => ?_, fun x hx => ?_, fun x hx y hy => ?_, fun x hx y hy => ?_⟩, fun x hx => ?_⟩
  all_goals
    have z := q x hx
    simp only [Bool.and_eq_true] at z
    obtain ⟨z1, z2, z3, z4, z5⟩ := z
  · exact He.glo_ok X G z1
  · exact excC_of z3
  · exact of_decide_eq_true (List.all_eq_true.mp z4 y hy)
  · exact of_decide_eq_true (List.all_eq_true.mp z5 y hy)
  · obtain ⟨e1, e2, e3, e4⟩ := He.exc_ok z2
    exact ⟨He.glo_ok X G z1, e1, e2, e3, e4⟩
end Tw


namespace Tw
open PySem PySem.Spec PyProof.Rows L2

def adjG (ks fs : List Nat) (γ : Γ) : Option Γ := frzG fs (killG ks γ)
section
variable {K : Fr} {mg : Mg} {pv : Pv} {A : Ad} {σ : L2.St} {γ γ' : Γ} {H H' : Hp} {S S' : List Addr}
theorem Env.kill : ∀ (ks : List Nat) {γ : Γ} {S : List Addr}, Env K mg pv A σ γ H S → ∃ S', Env K mg pv A σ (killG ks γ) H S' ∧ ∀ b ∈ S', b ∈ S
  | [], γ, S, E => ⟨S, E, fun b hb => hb⟩
  | k :: ks, γ, S, E => by
    obtain ⟨S1, E1, h1⟩ := E.kill1 k
    obtain ⟨S2, E2, h2⟩ := Env.kill ks E1
    exact ⟨S2, E2, fun b hb => h1 b (h2 b hb)⟩
theorem Env.adj (E : Env K mg pv A σ γ H S) {ks fs : List Nat} (h : adjG ks fs γ = some γ') : ∃ S', Env K mg pv A σ γ' H S' ∧ ∀ b ∈ S', b ∈ S := by
  obtain ⟨S1, E1, h1⟩ := Env.kill ks E
  obtain ⟨S2, E2, h2⟩ := Env.frzs fs E1 h
  exact ⟨S2, E2, fun b hb => h1 b (h2 b hb)⟩
end
def sPre (ks fs : List Nat) (m : MS) : MS := fun γ => ofO (adjG ks fs γ) m
def sPost (ks fs : List Nat) (m : MS) : MS := fun γ => (m γ).bind fun f γ' => match f with
  | .nx => ofO (adjG ks fs γ') fun γ2 => .ok .nx γ2
  | .ct => ofO (adjG ks fs γ') fun γ2 => .ok .ct γ2
  | f => .ok f γ'
section
variable {X : Cx} {W : WX} {wb : List Nat} {st : Stmt} {b : List Stmt} {m : MS}
theorem pre_ok {D : Ends} {σ : L2.St} {H : Hp} {ks fs : List Nat} (h : tS X.K X.mgw W wb (sPre ks fs m) D σ H) : tS X.K X.mgw W wb m D σ H := by
  obtain ⟨pv, A, γ, S, hp, E, w⟩ := h
  unfold sPre at w
  cases e : adjG ks fs γ with
  | none => rw [e] at w; exact w.elim
  | some γ' =>
    rw [e] at w
    obtain ⟨S', E', h'⟩ := E.adj e
    exact ⟨pv, A, γ', S', hp, E', WantS.go (Go.refl.sub h') w⟩
theorem post_ok {D : Ends} {σ : L2.St} {H : Hp} {ks fs : List Nat} (h : tS X.K X.mgw W wb (sPost ks fs m) D σ H) : tS X.K X.mgw W wb m D σ H := by
  obtain ⟨pv, A, γ, S, hp, E, w⟩ := h
  refine ⟨pv, A, γ, S, hp, E, ?_⟩
  unfold sPost at w
  cases e : m γ with
  | bad => rw [e] at w; exact w
  | err c g => rw [e] at w; exact w
  | ok f g =>
    rw [e] at w
    cases f with
    | brk => exact w
    | ret r => exact w
    | nx =>
      intro σ' H' S' go E'
      replace w : WantS X.K X.mgw W pv A H S D (ofO (adjG ks fs g) fun γ2 => .ok .nx γ2) := w
      cases e2 : adjG ks fs g with
      | none => rw [e2] at w; exact w.elim
      | some γ2 =>
        rw [e2] at w
        obtain ⟨S2, E2, h2⟩ := E'.adj e2
        exact w σ' H' S2 (go.sub h2) E2
    | ct =>
      intro σ' H' S' go E'
      replace w : WantS X.K X.mgw W pv A H S D (ofO (adjG ks fs g) fun γ2 => .ok .ct γ2) := w
      cases e2 : adjG ks fs g with
      | none => rw [e2] at w; exact w.elim
      | some γ2 =>
        rw [e2] at w
        obtain ⟨S2, E2, h2⟩ := E'.adj e2
        exact w σ' H' S2 (go.sub h2) E2
theorem js_pre (ks fs : List Nat) (h : JS X W wb st m) : JS X W wb st (sPre ks fs m) := ⟨PS.imp h.ps fun _ _ _ w => pre_ok w⟩
theorem js_post (ks fs : List Nat) (h : JS X W wb st m) : JS X W wb st (sPost ks fs m) := ⟨PS.imp h.ps fun _ _ _ w => post_ok w⟩
theorem jb_pre (ks fs : List Nat) (h : JB X W wb b m) : JB X W wb b (sPre ks fs m) := ⟨PSs.imp h.ps fun _ _ _ w => pre_ok w⟩
theorem jb_post (ks fs : List Nat) (h : JB X W wb b m) : JB X W wb b (sPost ks fs m) := ⟨PSs.imp h.ps fun _ _ _ w => post_ok w⟩
end
end Tw

namespace Tw
open PySem PySem.Spec PyProof.Rows L2

def restS (γ : Γ) : Bool := γ.all fun m => nonOwn m || isDead m
def mView {α : Type} (fs : List Nat) (ok : α → Bool) (m : Γ → Out α) : Γ → Out α := fun γ => ofO (frzG fs γ) fun γf => match m γf with
  | .ok a _ => if ok a = true then .ok a γ else .bad
  | .err c _ => if restS γf = true then .err c γ else .bad
  | .bad => .bad
theorem quiet_view {α : Type} (fs : List Nat) (ok : α → Bool) (m : Γ → Out α) : Quiet (mView fs ok m) := fun γ => by
  unfold mView
  cases frzG fs γ with
  | none => trivial
  | some γf =>
    show match (match m γf with | .ok a _ => if ok a = true then Out.ok a γ else .bad | .err c _ => if restS γf = true then .err c γ else .bad | .bad => .bad) with | .ok _ γ' => γ' = γ | .err _ γ' => γ' = γ | .bad => True
    cases m γf with
    | bad => trivial
    | err c g =>
      show match (if restS γf = true then Out.err c γ else .bad : Out α) with | .ok _ γ' => γ' = γ | .err _ γ' => γ' = γ | .bad => True
      by_cases k : restS γf = true
      · rw [if_pos k]
      · rw [if_neg k]; trivial
    | ok a g =>
      show match (if ok a = true then Out.ok a γ else .bad : Out α) with | .ok _ γ' => γ' = γ | .err _ γ' => γ' = γ | .bad => True
      by_cases k : ok a = true
      · rw [if_pos k]
      · rw [if_neg k]; trivial
section
variable {K : Fr} {mg : Mg} {pv : Pv} {A : Ad} {σ : L2.St} {γ γ' : Γ} {H H' : Hp} {S S' : List Addr} {U : Addr → Prop}
theorem rs_rest : ∀ {γ : Γ} {σ : L2.St} {S : List Addr}, RS K mg H U γ σ S → restS γ = true → S = []
  | [], _, _, h, _ => by rw [RS] at h; exact h.2
  | m :: ms, _, _, h, n => by
    rw [RS] at h
    obtain ⟨s, σ', S1, S2, e, z, r, q⟩ := h
    unfold restS at n
    rw [List.all_cons, Bool.and_eq_true] at n
    have h2 := rs_rest q n.2
    have h1 : S1 = [] := by
      rcases Bool.or_eq_true _ _ ▸ n.1 with k | k
      · cases m with
        | dead => exact r
        | _ =>
          obtain ⟨v, _, rm⟩ := r
          exact nonOwn_S rm k
      · cases m with
        | dead => exact r
        | _ => cases k
    rw [z, h1, h2]
    rfl
end
section
variable {X : Cx} {W : WX} {pu : Bool} {e : Expr} {md : MD} {mt : MT} {me : ME}
theorem view_err {K : Fr} {mg : Mg} {pv : Pv} {A : Ad} {σ : L2.St} {γ γf : Γ} {H : Hp} {S S1 : List Addr} (E : Env K mg pv A σ γ H S) (E1 : Env K mg pv A σ γf H S1) (hr : restS γf = true) {c : String} (w : ErE K mg W pv A σ H S c γ) {g : Γ} : ErE K mg W pv A σ H S1 c g := by
  intro C H' S' hC go E'
  have := rs_rest E1.rep hr
  subst this
  obtain ⟨E2, go2⟩ := E.rest go
  exact w C H' S hC go2 E2
theorem jd_view (fs : List Nat) (h : JD X W pu e md) (hp : pu = true := by rfl) : JD X W true e (mView fs flatT md) := by
  subst hp
  refine ⟨PE.imp h.pe fun σ H Q ⟨pv, A, γ, S, E, w⟩ => ?_, fun _ => quiet_view _ _ _⟩
  unfold mView at w
  cases ef : frzG fs γ with
  | none => rw [ef] at w; exact w.elim
  | some γf =>
    rw [ef, ofO_some] at w
    obtain ⟨S1, E1, h1⟩ := Env.frzs fs E ef
    refine ⟨pv, A, γf, S1, E1, ?_⟩
    have qt := h.quiet rfl γf
    cases em : md γf with
    | bad => rw [em] at w; exact w
    | err c g =>
      rw [em] at w
      replace w : WantD X.K X.mgw W true pv A σ H S Q (if restS γf = true then .err c γ else .bad) := w
      by_cases hr : restS γf = true
      · rw [if_pos hr] at w
        exact view_err E E1 hr w
      · rw [if_neg hr] at w; exact w.elim
    | ok d g =>
      rw [em] at w
      replace w : WantD X.K X.mgw W true pv A σ H S Q (if flatT d = true then .ok d γ else .bad) := w
      by_cases hf : flatT d = true
      · rw [if_pos hf] at w
        intro v H' S' go p E' r
        obtain ⟨_, sm⟩ := p rfl
        exact w v H' S (Go.same sm) (fun _ => ⟨rfl, sm⟩) (E.same sm) (rd_flatT d v r hf)
      · rw [if_neg hf] at w; exact w.elim
theorem jt_view (fs : List Nat) (h : JT X W pu e mt) (hp : pu = true := by rfl) : JT X W true e (mView fs (fun _ => true) mt) := by
  subst hp
  refine ⟨PT.imp h.pe fun σ H Q ⟨pv, A, γ, S, E, w⟩ => ?_, fun _ => quiet_view _ _ _⟩
  unfold mView at w
  cases ef : frzG fs γ with
  | none => rw [ef] at w; exact w.elim
  | some γf =>
    rw [ef, ofO_some] at w
    obtain ⟨S1, E1, h1⟩ := Env.frzs fs E ef
    refine ⟨pv, A, γf, S1, E1, ?_⟩
    cases em : mt γf with
    | bad => rw [em] at w; exact w
    | err c g =>
      rw [em] at w
      replace w : WantT X.K X.mgw W true pv A σ H S Q (if restS γf = true then .err c γ else .bad) := w
      by_cases hr : restS γf = true
      · rw [if_pos hr] at w
        exact view_err E E1 hr w
      · rw [if_neg hr] at w; exact w.elim
    | ok d g =>
      rw [em] at w
      replace w : WantT X.K X.mgw W true pv A σ H S Q (.ok d γ) := w
      intro H' S' go p E'
      obtain ⟨_, sm⟩ := p rfl
      exact w H' S (Go.same sm) (fun _ => ⟨rfl, sm⟩) (E.same sm)
theorem j_view (fs : List Nat) (h : J X W pu e me) (hp : pu = true := by rfl) : J X W true e (mView fs flatM me) := by
  subst hp
  refine ⟨PE.imp h.pe fun σ H Q ⟨pv, A, γ, S, E, w⟩ => ?_, fun _ => quiet_view _ _ _⟩
  unfold mView at w
  cases ef : frzG fs γ with
  | none => rw [ef] at w; exact w.elim
  | some γf =>
    rw [ef, ofO_some] at w
    obtain ⟨S1, E1, h1⟩ := Env.frzs fs E ef
    refine ⟨pv, A, γf, S1, E1, ?_⟩
    cases em : me γf with
    | bad => rw [em] at w; exact w
    | err c g =>
      rw [em] at w
      replace w : WantE X.K X.mgw W true pv A σ H S Q (if restS γf = true then .err c γ else .bad) := w
      by_cases hr : restS γf = true
      · rw [if_pos hr] at w
        exact view_err E E1 hr w
      · rw [if_neg hr] at w; exact w.elim
    | ok r g =>
      rw [em] at w
      replace w : WantE X.K X.mgw W true pv A σ H S Q (if flatM r = true then .ok r γ else .bad) := w
      by_cases hf : flatM r = true
      · rw [if_pos hf] at w
        intro v H' S' T go p E' rm nd
        obtain ⟨es, sm⟩ := p rfl
        -- what the answer owns is new
        have hT : ∀ b ∈ T, H b = none := fun b hb => by
          rcases go.new b (List.mem_append_left _ hb) with z | z
          · exact absurd (es ▸ z) (E'.am b (.inr hb)).1
          · exact z
        have hT' : ∀ b ∈ T, H' b ≠ none := fun b hb => (E'.am b (.inr hb)).2
        refine w v H' S T ⟨fun b o hb _ => sm b o hb, fun b hb => ?_, fun b hb => (Go.same (S := S) sm).keep b hb⟩ (fun _ => ⟨rfl, sm⟩) (E.more sm hT hT') (rm_flatM r v T rm hf) nd
        rcases List.mem_append.mp hb with hb | hb
        · exact .inr (hT b hb)
        · exact .inl hb
      · rw [if_neg hf] at w; exact w.elim
end
end Tw

namespace Tw
open PySem PySem.Spec PyProof.Rows L2
structure CalN (P : Program) (w : World) (K : Fr) (mg : Str → Option Value) (base : Heap) (x : Str) (k : Nat) (ps : List Str) (m : Nat) (g : List M → Out M) : Prop where
  ex : ∃ f fd ds, FnOk P w K mg base (L2.CX P w) k f fd ps (spM K ⟨mg, w⟩ ps.length g) ∧ mg x = some (.ref f) ∧ PySem.W.keepIn K (.ref f) = true ∧ Vals (List.replicate m V.non) ds ∧ Binds K fd ps ds
structure DfN (K : Fr) (mg : Str → Option Value) (x : Str) (params : Arguments) (bd : List Stmt) (sc : Scope) (nd : Nat) (ps : List Str) (f : Addr) (fd : FuncData) : Prop where
  fn : FunD K x x params bd sc (List.replicate nd V.non) [] f fd
  mg : mg x = some (.ref f)
  bn : ∀ m, m ≤ nd → ∃ ds, Vals (List.replicate m V.non) ds ∧ Binds K fd ps ds
structure CalB (P : Program) (w : World) (K : Fr) (mg : Str → Option Value) (base : Heap) (x : Str) (k : Nat) (ps : List Str) (nd : Nat) (g : List M → Out M) : Prop where
  all : Cal P w K mg base x k ps g
  less : ∀ m, m ≤ nd → CalN P w K mg base x k ps m g
end Tw

namespace Tw
open PySem PySem.Spec PyProof.Rows L2
section
variable {K : Fr} {mg : Mg} {pv : Pv} {A : Ad} {σ : L2.St} {γ : Γ} {F : M → Γ} {H H' : Hp} {S S' T : List Addr} {U : Addr → Prop} {m c : M} {v x : V} {G : M → M}
theorem Foc.part {Φ : V → Prop} (f : Foc K mg pv A σ F H S m v) (dec : ∀ Sm, RM K mg H (us A S) m v Sm → ∃ x P S2 S3, Φ x ∧ Sm = P ++ (S2 ++ S3) ∧ RM K mg H (us A S) c x S2 ∧
    ∀ (H' : Hp) (U' : Addr → Prop) (c' : M) (S2' : List Addr), KeepM H H' (us A S) U' (P ++ S3) → RM K mg H' U' c' x S2' → RM K mg H' U' (G c') v (P ++ (S2' ++ S3))) : ∃ x, Φ x ∧ Foc K mg pv A σ (fun c' => F (G c')) H S c x := by
  obtain ⟨Sm, So, hA, mem, ap, nd, rm, k⟩ := f
  have mu := RM.mut _ _ _ rm
  obtain ⟨x, P, S2, S3, h0, h3, h4, h5⟩ := dec Sm rm
  subst h3
  obtain ⟨n1, n23, d1⟩ := List.nodup_append.mp nd
  obtain ⟨n2, n3, d2⟩ := List.nodup_append.mp n23
  have memL : ∀ b, b ∈ P ++ (S2 ++ S3) ↔ b ∈ S2 ∨ b ∈ P ++ S3 := fun b => by
    simp only [List.mem_append]
    constructor
    · rintro (h | h | h)
      · exact .inr (.inl h)
      · exact .inl h
      · exact .inr (.inr h)
    · rintro (h | h | h)
      · exact .inr (.inl h)
      · exact .inl h
      · exact .inr (.inr h)
  have ap2 : ∀ b ∈ S2, b ∉ P ++ S3 := fun b hb hc => by
    rcases List.mem_append.mp hc with hc | hc
    · exact d1 b hc b (List.mem_append_left _ hb) rfl
    · exact d2 b hb b hc rfl
  refine ⟨x, h0, S2, (P ++ S3) ++ So, hA, fun b => ?_, fun b hb hc => ?_, n2, h4, fun A2 H' m' S'' ho hk c1 c2 nd'' rm' => ?_⟩
  · rw [mem b, memL b, List.mem_append (s := P ++ S3) (t := So)]
    constructor
    · rintro ((h | h) | h)
      · exact .inl h
      · exact .inr (.inl h)
      · exact .inr (.inr h)
    · rintro (h | h | h)
      · exact .inl (.inl h)
      · exact .inl (.inr h)
      · exact .inr h
  · rcases List.mem_append.mp hc with hc | hc
    · exact ap2 b hb hc
    · exact ap b ((memL b).mpr (.inl hb)) hc
  · have apS : ∀ b ∈ S'', b ∉ P ++ S3 := fun b hb hc => by
      have inS : b ∈ S := (mem b).mpr (.inl ((memL b).mpr (.inr hc)))
      rcases c2 b hb with z | z | z
      · exact ap2 b z hc
      · obtain ⟨o, q, _⟩ := mu b ((memL b).mpr (.inr hc))
        rw [z] at q
        cases q
      · exact hA b z inS
    have muS : ∀ b ∈ S2, ∃ o, H b = some o ∧ isMut b o = true := fun b hb => mu b ((memL b).mpr (.inl hb))
    have inS2 : ∀ b ∈ S2, b ∈ S := fun b hb => (mem b).mpr (.inl ((memL b).mpr (.inl hb)))
    have allP : ∀ b, b ∈ P ++ (S'' ++ S3) ↔ b ∈ S'' ∨ b ∈ P ++ S3 := fun b => by
      simp only [List.mem_append]
      constructor
      · rintro (h | h | h)
        · exact .inr (.inl h)
        · exact .inl h
        · exact .inr (.inr h)
      · rintro (h | h | h)
        · exact .inr (.inl h)
        · exact .inl h
        · exact .inr (.inr h)
    have q1 : ∀ b, A2 b → (A b ∨ b ∈ P ++ (S2 ++ S3)) ∧ b ∉ P ++ (S'' ++ S3) := fun b hb => ⟨(c1 b hb).1.imp id fun z => (memL b).mpr (.inl z), fun z => by
      rcases (allP b).mp z with z | z
      · exact (c1 b hb).2 z
      · rcases (c1 b hb).1 with y | y
        · exact hA b y ((mem b).mpr (.inl ((memL b).mpr (.inr z))))
        · exact ap2 b y z⟩
    have q2 : ∀ b ∈ P ++ (S'' ++ S3), b ∈ P ++ (S2 ++ S3) ∨ H b = none ∨ A b := fun b hb => by
      rcases (allP b).mp hb with z | z
      · exact (c2 b z).imp (fun y => (memL b).mpr (.inl y)) id
      · exact .inl ((memL b).mpr (.inr z))
    have q3 : (P ++ (S'' ++ S3)).Nodup := by
      refine List.nodup_append.mpr ⟨n1, List.nodup_append.mpr ⟨nd'', n3, fun c hc d hd z => apS c hc (List.mem_append_right _ (z ▸ hd))⟩, fun c hc d hd z => ?_⟩
      subst z
      rcases List.mem_append.mp hd with hd | hd
      · exact apS c hd (List.mem_append_left _ hc)
      · exact d1 c hc c (List.mem_append_right _ hd) rfl
    have q4 : ∀ U : Addr → Prop, (∀ b, U b → us A2 (P ++ (S'' ++ S3)) b ∨ b ∈ So) → RM K mg H' U (G m') v (P ++ (S'' ++ S3)) := fun U hU => by
      refine h5 H' U m' S'' ⟨⟨fun b o q hn => ho b o q fun hb => ?_, fun b hb hn hu => ?_⟩, fun b hb o q => ho b o q fun hc => ap2 b hc hb⟩ (rm' U fun b hb => ?_)
      · obtain ⟨o', q', mo⟩ := muS b hb
        rw [q] at q'
        cases q'
        exact hn mo (.inr (inS2 b hb))
      · rcases hU b hu with (z | z) | z
        · rcases (c1 b z).1 with y | y
          · exact hn (.inl y)
          · exact hn (.inr (inS2 b y))
        · rcases (allP b).mp z with z | z
          · rcases c2 b z with y | y | y
            · exact hn (.inr (inS2 b y))
            · exact hb y
            · exact hn (.inl y)
          · exact hn (.inr ((mem b).mpr (.inl ((memL b).mpr (.inr z)))))
        · exact hn (.inr ((mem b).mpr (.inr z)))
      · rcases hU b hb with (z | z) | z
        · exact .inl (.inl z)
        · rcases (allP b).mp z with z | z
          · exact .inl (.inr z)
          · exact .inr (List.mem_append_left _ z)
        · exact .inr (List.mem_append_right _ z)
    obtain ⟨S4, E4, m4⟩ := k A2 H' (G m') (P ++ (S'' ++ S3)) (fun b o q hn => ho b o q fun z => hn ((memL b).mpr (.inl z))) hk q1 q2 q3 q4
    refine ⟨S4, E4, fun b => ?_⟩
    rw [m4 b, allP b, List.mem_append (s := P ++ S3) (t := So)]
    constructor
    · rintro ((h | h) | h)
      · exact .inl h
      · exact .inr (.inl h)
      · exact .inr (.inr h)
    · rintro (h | h | h)
      · exact .inl (.inl h)
      · exact .inl (.inr h)
      · exact .inr h
theorem Foc.ixT {ms : List M} (f : Foc K mg pv A σ F H S (.tup ms) v) {j : Nat} (e : ms[j]? = some c) : ∃ a xs x, v = .ref a ∧ SqT K H a xs ∧ xs.length = ms.length ∧ xs[j]? = some x ∧ Foc K mg pv A σ (fun c' => F (.tup (ms.set j c'))) H S c x := by
  obtain ⟨x, ⟨a, xs, e1, h1, hl, h2⟩, f'⟩ := f.part (c := c) (G := fun c' => .tup (ms.set j c')) (Φ := fun x => ∃ a xs, v = .ref a ∧ SqT K H a xs ∧ xs.length = ms.length ∧ xs[j]? = some x) fun Sm rm => by
    rw [RM] at rm
    obtain ⟨a, xs, e1, h1, r⟩ := rm
    obtain ⟨x, S1, S2, S3, h2, h3, h4, h5⟩ := r.at e
    refine ⟨x, S1, S2, S3, ⟨a, xs, e1, h1, r.length, h2⟩, h3, h4, fun H' U' c' S2' kp rc => ?_⟩
    have := h5 H' U' c' x S2' kp rc
    rw [set_self h2] at this
    rw [RM]
    exact ⟨a, xs, e1, kp.toKeep.sqT h1, this⟩
  exact ⟨a, xs, x, e1, h1, hl, h2, f'⟩
end
section
variable {X : Cx} {o b : Expr} {mp : MP} {pos : Pos}
def mpIt (mp : MP) (mi : MD) : MP := fun γ => (mp γ).bind fun q => (val (mi γ)).bind fun d => match q.1, d with
  | .lst ms, .int k => (ixN ms.length k).bind fun j => (ms[j]?).bind fun c => some (c, fun c' => q.2 (.lst (ms.set j c')))
  | .tup ms, .int k => (ixN ms.length k).bind fun j => (ms[j]?).bind fun c => some (c, fun c' => q.2 (.tup (ms.set j c')))
  | _, _ => none
theorem jp_it {mi : MD} {pu : Bool} (ho : JP X o mp) (hi : JD X WF pu b mi) (hp : pu = true := by rfl) (hs : PlainIx b := by intro _ _; rfl) : JP X (.Subscript o b pos) (mpIt mp mi) := by
  subst hp
  refine ⟨PE.imp (pe_ix ix_seq ho.pe hi.pe hs) fun σ H Q ⟨pv, A, γ, S, m, F, E, em, q⟩ => ?_⟩
  unfold mpIt at em
  cases h1 : mp γ with
  | none => rw [h1] at em; cases em
  | some q1 =>
    obtain ⟨m1, F1⟩ := q1
    rw [h1] at em
    cases h2 : val (mi γ) with
    | none => rw [h2] at em; cases em
    | some d =>
      rw [h2] at em
      obtain ⟨g, h2'⟩ := val_some h2
      refine ⟨pv, A, γ, S, m1, F1, E, h1, fun v H1 s1 E1 f1 => ⟨pv, A, γ, S, E1, ?_⟩⟩
      rw [h2']
      intro y H2 S2 go p E2 rd
      obtain ⟨e2, s2⟩ := p rfl
      subst e2
      have eg : g = γ := by
        have := hi.quiet rfl γ
        rw [h2'] at this
        exact this
      subst eg
      have f2 := f1.same s2 fun b => by
        by_cases hb : A b
        · exact .inl (E1.am b hb).2
        · exact .inr hb
      cases m1 with
      | lst ms =>
        cases d with
        | int k =>
          cases hj : ixN ms.length k with
          | none => simp only [Option.bind_some, hj] at em; cases em
          | some j =>
            cases hc : ms[j]? with
            | none => simp only [Option.bind_some, hj, hc] at em; cases em
            | some c =>
              simp only [Option.bind_some, hj, hc] at em
              cases em
              obtain ⟨a1, xs, x1, e1, h3, hl, h4, f3⟩ := f2.ix hc
              subst e1
              rw [rd_int] at rd
              refine .inl ⟨a1, xs, k, x1, rfl, rd, SqL.of h3, ?_, q x1 H2 (s1.trans s2) E2 f3⟩
              unfold atI
              rw [hl, hj]
              exact h4
        | _ => cases em
      | tup ms =>
        cases d with
        | int k =>
          cases hj : ixN ms.length k with
          | none => simp only [Option.bind_some, hj] at em; cases em
          | some j =>
            cases hc : ms[j]? with
            | none => simp only [Option.bind_some, hj, hc] at em; cases em
            | some c =>
              simp only [Option.bind_some, hj, hc] at em
              cases em
              obtain ⟨a1, xs, x1, e1, h3, hl, h4, f3⟩ := f2.ixT hc
              subst e1
              rw [rd_int] at rd
              refine .inr (.inl ⟨a1, xs, k, x1, rfl, rd, h3, ?_, q x1 H2 (s1.trans s2) E2 f3⟩)
              unfold atI
              rw [hl, hj]
              exact h4
        | _ => cases em
      | _ => cases em
end
end Tw


namespace Tw
open PySem PySem.Spec PyProof.Rows L2
structure KinN (K : Fr) (cs : List String) : Prop where
  kn : ∀ x ∈ "ValueError" :: cs, PySem.W.kitOne K (.type "NoneType") (clsOf K x) = some false
theorem kinN_ok {K : Fr} {cs : List String} (c : kinN cs K = true) : KinN K cs := ⟨fun x hx => of_decide_eq_true (List.all_eq_true.mp c x hx)⟩
end Tw

namespace Tw
open PySem PySem.Spec PyProof.Rows L2
section
variable {X : Cx} {W : WX} {o e1 e2 : Expr} {mp : MP} {apos cpos : Pos}
structure M2Ok (X : Cx) (o e e2 : Expr) (name : Str) (apos cpos : Pos) : Prop where
  base : attributeBase o name X.env (eval o X.env) = eval o X.env
  few : ((backTo cpos (starEach (e :: [e2]) X.env)).all (fun x => !x.1) && (backToKw cpos (keywordEach [] X.env)).all (fun x => x.1.isSome) && decide ((e :: [e2]).length + ([] : List Keyword).length + (if ([] : List Keyword).isEmpty then 0 else 1) < 30)) = true
  line : (apos.endLine == cpos.line) = true
  star : starEach (e :: [e2]) X.env = (false, eval e X.env) :: starEach [e2] X.env
  plain : (backTo cpos (starEach [e2] X.env)).any (·.1) = false
end
end Tw

namespace Tw
open PySem PySem.Spec PyProof.Rows L2
def GlD (K : Fr) (mg : Str → Option Value) (x : Str) (d : D) : Prop := ∃ v u, mg x = some u ∧ RelV v u ∧ ∀ H U, RD K H U d v
theorem strB_ok {K : Fr} {h : Heap} {mg : Str → Option Value} {x z : Str} (X : K.In h) (G : h.Ns mainGlobals mg) (c : strB x z K = true) : GlD K mg x (.str z) := by
  obtain ⟨t, e⟩ := He.str_ok X G c
  exact ⟨.str z, _, e, ⟨t, rfl⟩, fun H U => rd_str.mpr rfl⟩
section
variable {X : Cx} {W : WX} {x : Str} {d : D} {pos : Pos}
theorem jd_glD (h : GlD X.K X.mg x d) (hg : Gl X x := by rfl) (hdb : (x == ("__debug__" : Str)) = false := by decide) : JD X W true (.Name x pos) (mC d) := by
  obtain ⟨v, u, e, r, hd⟩ := h
  exact jd_glob hg e r hd hdb
end
end Tw

namespace Tw
open PySem PySem.Spec PyProof.Rows L2
inductive AsL (X : Cx) (n : Str) : List ExceptHandler → List (Value × (Addr → Value → Option Addr → TS)) → Prop
  | nil : AsL X n [] []
  | cons {x : Str} {c : Value} {ts : Addr → Value → Option Addr → TS} {s0 : Stmt} {ss : List Stmt} {p1 p2 : Pos} {hds : List ExceptHandler} {l : List (Value × (Addr → Value → Option Addr → TS))} (hc : Names X x c)
      (hsu : ∀ (a : Addr) (oe : Obj) (cls : Value) (d : Option Addr) (pn : List (Addr × Obj)), Zc cls d oe → (∃ vs, oe.data = .fields vs) → PSs (X.suite a ((a, oe) :: pn)) (s0 :: ss) (ts a cls d)) (r : AsL X n hds l) :
      AsL X n (.ExceptHandler (some (.Name x p1)) (some n) (s0 :: ss) p2 :: hds) ((c, ts) :: l)
inductive JHs (X : Cx) (wb : List Nat) (i : Nat) (n : Str) (cs : List String) : List ExceptHandler → List (String × (String → MS)) → Prop
  | nil : JHs X wb i n cs [] []
  | cons {x : String} {su : String → MS} {s0 : Stmt} {ss : List Stmt} {p1 p2 : Pos} {hds : List ExceptHandler} {l : List (String × (String → MS))} (hx : x ∈ cs) (hgx : Gl X (Str.ofString x)) (hdx : ((Str.ofString x) == ("__debug__" : Str)) = false)
      (hsu : JSu X wb i cs (s0 :: ss) su) (r : JHs X wb i n cs hds l) : JHs X wb i n cs (.ExceptHandler (some (.Name (Str.ofString x) p1)) (some n) (s0 :: ss) p2 :: hds) ((x, su) :: l)
end Tw





namespace Tw
open PySem PySem.Spec PyProof.Rows L2
structure JPs (X : Cx) (W : WX) (pu : Bool) (pos : Pos) (keys : List (Option Expr)) (es : List Expr) (ks : List Str) (mas : MA) : Prop where
  pps : ∃ trs, PPs X pos keys es trs ∧ ∀ (σ : L2.St) (H : Hp) (Q : List (V × V) → Hp → Prop), tA X.K X.mgw W pu mas σ H (fun vs H' => Q ((ks.map V.str).zip vs) H') → tPairs trs σ H Q
  all : keys.all (·.isSome) = true
  quiet : pu = true → Quiet mas
  len : keys.length = es.length
  lenk : ks.length = es.length
end Tw



namespace Tw
open PySem PySem.Spec PyProof.Rows L2
section
variable {K : Fr} {mg : Mg} {pv : Pv} {A : Ad} {σ : L2.St} {γ γ' : Γ} {H : Hp} {S T : List Addr}
def parG : List Nat → List M → Γ → Option Γ
  | [], [], γ => some γ
  | i :: is, m :: ms, γ => if i < γ.length then parG is ms (γ.set i m) else none
  | _, _, _ => none
end
end Tw














namespace Tw
open PySem PySem.Spec L2

structure JTsP (X : Cx) (ifs : List Expr) (m : MT) : Prop where
  pt : PTs X ifs (tT X.K X.mgw WF true m)
end Tw


namespace Tw
open PySem PySem.Spec L2

structure CalC (P : Program) (w : World) (K : Fr) (mg : Str → Option Value) (base : Heap) (c : String) (m : Str) (k : Nat) (n : Nat) (g : List M → Out M) : Prop where
  ok : ∃ f fd ps mc, mg (Str.ofString c) = some (.ref (He.ga K (Str.ofString c))) ∧ ClX.CRead K (He.ga K (Str.ofString c)) mc ∧ ClX.CVal K (He.ga K (Str.ofString c)) mc m (.ref f) (.ref f) ∧ PySem.W.keepIn K (.ref f) = true ∧ FnOk P w K mg base (L2.CX P w) k f fd ps (spM K ⟨mg, w⟩ n g) ∧ Binds K fd ps []
structure CalK (P : Program) (w : World) (K : Fr) (mg : Str → Option Value) (base : Heap) (c : String) (k : Nat) (n : Nat) (g : List M → Out M) : Prop where
  ok : mg (Str.ofString c) = some (.ref (He.ga K (Str.ofString c))) ∧ ∃ f fd ps, Mk K (He.ga K (Str.ofString c)) f ∧ FnOk P w K mg base (L2.CX P w) k f fd ps (spM K ⟨mg, w⟩ n g) ∧ Binds K fd ps []


end Tw

namespace Tw
open PySem PySem.Spec L2


structure JL (X : Cx) (it : Expr) (i : Nat) (sel : M → Option (List M)) : Prop where
  ex : ∃ At : Hp → V → Addr → Prop, PE X it (fun σ H Q => ∃ v a, σ[i]? = some (some v) ∧ At H v a ∧ Q (.ref a) H) ∧
    ∀ (H : Hp) (U : Addr → Prop) (m : M) (v : V) (Sa : List Addr) (ms : List M), RM X.K X.mgw H U m v Sa → sel m = some ms → ∃ a xs Sx, At H v a ∧ H a = some (.lst xs) ∧ a ∈ Sa ∧ RMs X.K X.mgw H U ms xs Sx
end Tw













namespace Tw
open PySem PySem.Spec L2

section
variable (K : Fr) (mg : Mg) (W : WX)
def WantQ (pv : Pv) (A : Ad) (σ : L2.St) (H : Hp) (S : List Addr) (Q : List V → Hp → Prop) : Out (List Ar × List M) → Prop :=
  WantG (fun q γ' => ∀ vs H' S' T, Go H S H' (T ++ S') → Env K mg pv (adT A T) σ γ' H' S' → (∃ v1 v2, vs = v1 ++ v2 ∧ RAr K mg H' (us (adT A T) S') σ q.1 v1 ∧ RMs K mg H' (us (adT A T) S') q.2 v2 T) → T.Nodup → Q vs H') (ErE K mg W pv A σ H S)
def tQ (m : Γ → Out (List Ar × List M)) : TA := fun σ H Q => ∃ pv A γ S, Env K mg pv A σ γ H S ∧ WantQ K mg W pv A σ H S Q (m γ)
end
structure JQ (X : Cx) (W : WX) (es : List Expr) (m : MQ) : Prop where
  pa : PA X es (tQ X.K X.mgw W m)
end Tw







namespace Tw
open PySem PySem.Spec PyProof.Rows L2
structure EApart (e z TI TO i1 i2 : Addr) : Prop where
  z : e ≠ z
  TO : e ≠ TO
  i1 : e ≠ i1
  i2 : e ≠ i2
  TI : e ≠ TI
end Tw










namespace Tw
open PySem PySem.Spec L2
def strsOf : List D → Option (List Str)
  | [] => some []
  | .str x :: r => (strsOf r).map (x :: ·)
  | _ => none
theorem strsOf_ok : ∀ {ds : List D} {ys : List Str}, strsOf ds = some ys → ds = ys.map .str
  | [], ys, h => by cases h; rfl
  | d :: ds, ys, h => by
    cases d with
    | str x =>
      unfold strsOf at h
      cases q : strsOf ds with
      | none => rw [q] at h; cases h
      | some zs => rw [q] at h; cases h; rw [strsOf_ok q]; rfl
    | _ => cases h
theorem strsOf_map (ys : List Str) : strsOf (ys.map .str) = some ys := by
  induction ys with
  | nil => rfl
  | cons y ys ih => show (strsOf (ys.map .str)).map (y :: ·) = _; rw [ih]; rfl
def isStr : D → Bool
  | .str _ => true
  | _ => false
def mM1 (g : D → D → Option D) (ma mb : MD) : MD := fun γ => (ma γ).bind fun d γ1 => if isStr d = true then (mb γ1).bind fun e γ2 => ofO (g d e) fun r => .ok r γ2 else .bad
def signsD (x : Str) : List D := x.cps.toList.map fun c => .str ⟨#[c]⟩
def strIt : D → Option (List D)
  | .str x => some (signsD x)
  | _ => none
def iStrD (m : MD) : MI := fun γ => (m γ).bind fun d γ' => ofO (strIt d) fun ds => .ok ds γ'
def gSplit : D → D → Option D
  | .str a, .str b => if (b.length == 0) = false ∧ a.length + 2 ≤ sizeLine then some (.list ((Txt.split a b).map .str)) else none
  | _, _ => none
def gPart : D → D → Option D
  | .str a, .str b => if (b.length == 0) = false ∧ a.length ≤ sizeLine then some (.tuple [.str (Txt.partition a b).1, .str (Txt.partition a b).2.1, .str (Txt.partition a b).2.2]) else none
  | _, _ => none
def gJoin : D → D → Option D
  | .str a, .list ds => (strsOf ds).bind fun ys => if (ys.map (·.length)).sum + ys.length * a.length ≤ 16777216 then some (.str (Txt.join a ys)) else none
  | _, _ => none
def gStrI : List D → Option D
  | [.int i] => if i.natAbs.log2 < 1920 then some (.str (toString i)) else none
  | [.str a] => some (.str a)
  | _ => none
def gIntT : List D → Option D
  | [.str a] => if a.length ≤ 640 then (PySem.intText? a).map .int else none
  | _ => none
section
variable {K : Fr} {H : Hp} {U : Addr → Prop}
theorem rds_strs : ∀ (ys : List Str), RDs K H U (ys.map .str) (ys.map V.str)
  | [] => by simp [RDs]
  | y :: ys => by
    rw [List.map_cons, List.map_cons, RDs]
    exact ⟨_, _, rfl, rd_str.mpr rfl, rds_strs ys⟩
theorem rds_strsI : ∀ {ys : List Str} {xs : List V}, RDs K H U (ys.map .str) xs → xs = ys.map V.str
  | [], xs, r => rds_nil r
  | y :: ys, xs, r => by
    obtain ⟨x, zs, e2, h2, h3⟩ := rds_cons (r : RDs K H U (.str y :: ys.map .str) xs)
    rw [e2, rd_str.mp h2, rds_strsI h3]
    rfl
end
section
variable {X : Cx} {W : WX} {pu pu' : Bool} {o e : Expr} {ma mb : MD} {pos p apos : Pos}
theorem jd_m1 {id : String} {name : Str} {r : V → List V → Hp → VK → Prop} {g : D → D → Option D} (slot : Slot "str" name id) (ty : typeOf (.builtin id) = pure (.type "method_descriptor")) (rule : MtR X id r)
    (hk : ∀ (U : Addr → Prop) (H : Hp) (d e : D) (x y : V) (res : D) (Q : VK), (∀ a, U a → H a ≠ none) → RD X.K H U d x → RD X.K H U e y → g d e = some res → (∀ v H', Same H H' → RD X.K H' U res v → Q v H') → r x [y] H Q)
    (ho : JD X W pu o ma) (he : JD X W pu' e mb)
    (hs : starEach [e] X.env = [(false, eval e X.env)] := by rfl) (hbase : attributeBase o name X.env (eval o X.env) = eval o X.env := by rfl) (hline : (apos.endLine == pos.line) = true := by rfl) :
    JD X W (pu && pu') (.Call (.Attribute o name apos) [e] [] pos) (mM1 g ma mb) := by
  refine ⟨PE.imp (pe_m1 slot ty rule ho.pe he.pe hs hbase hline) fun σ H Q ⟨pv, A, γ, S, E, w⟩ => ⟨pv, A, γ, S, E, seqD w fun d γ1 x H1 S1 go p E1 r1 w1 => ?_⟩, fun z => ?_⟩
  rotate_left
  · rw [Bool.and_eq_true] at z
    exact quiet_bind (ho.quiet z.1) fun d => quiet_ite _ (quiet_bind (he.quiet z.2) fun e => quiet_opt (g d e) (fun r γ => Out.ok r γ) fun r => quiet_ok r) quiet_bad
  cases d with
  | str a =>
    refine ⟨⟨a, rd_str.mp r1⟩, pv, A, γ1, S1, E1, ?_⟩
    refine seqD' go w1 fun e2 γ2 y H2 S2 go2 p2 E2 r2 w2 => ?_
    cases q : g (.str a) e2 with
    | none => rw [q] at w2; exact w2.elim
    | some res =>
      rw [q] at w2
      exact hk _ H2 _ _ x y res Q E2.here (RD.keep (E1.keep go2) (.str a) x r1) r2 q fun v H' sm rv => w2 v H' S2 ((go.trans go2).trans (Go.same sm)) (fun z => let ⟨a, b⟩ := pure2 p p2 z; ⟨a, b.trans sm⟩) (E2.same sm) rv
  | _ => exact w1.elim

theorem jd_split (ho : JD X W pu o ma) (he : JD X W pu' e mb) (hs : starEach [e] X.env = [(false, eval e X.env)] := by rfl) (hbase : attributeBase o "split" X.env (eval o X.env) = eval o X.env := by rfl) (hline : (apos.endLine == pos.line) = true := by rfl) :
    JD X W (pu && pu') (.Call (.Attribute o "split" apos) [e] [] pos) (mM1 gSplit ma mb) :=
  jd_m1 F.slot_str_split F.type_str_split mt_split (fun U H d e x y res Q hU rx ry hg q => by
    unfold gSplit at hg
    split at hg
    · split at hg <;> cases hg
      rename_i a b h
      rw [rd_str] at rx ry
      exact ⟨a, b, rx, by rw [ry], h.1, h.2, fun p hp => q _ _ (same_new hp) (rd_newL (rds_strs _) hp hU)⟩
    · cases hg) ho he hs hbase hline
theorem rds_three {K : Fr} {H : Hp} {U : Addr → Prop} (a b c : Str) : RDs K H U [.str a, .str b, .str c] [V.str a, V.str b, V.str c] := rds_strs [a, b, c]
theorem jd_part (ho : JD X W pu o ma) (he : JD X W pu' e mb) (hs : starEach [e] X.env = [(false, eval e X.env)] := by rfl) (hbase : attributeBase o "partition" X.env (eval o X.env) = eval o X.env := by rfl) (hline : (apos.endLine == pos.line) = true := by rfl) :
    JD X W (pu && pu') (.Call (.Attribute o "partition" apos) [e] [] pos) (mM1 gPart ma mb) :=
  jd_m1 F.slot_str_partition F.type_str_partition mt_partition (fun U H d e x y res Q hU rx ry hg q => by
    unfold gPart at hg
    split at hg
    · split at hg <;> cases hg
      rename_i a b h
      rw [rd_str] at rx ry
      exact ⟨a, b, rx, by rw [ry], h.1, h.2, fun p hp => q _ _ (same_new hp) (rd_newT (rds_three _ _ _) hp)⟩
    · cases hg) ho he hs hbase hline
theorem jd_join (ho : JD X W pu o ma) (he : JD X W pu' e mb) (hs : starEach [e] X.env = [(false, eval e X.env)] := by rfl) (hbase : attributeBase o "join" X.env (eval o X.env) = eval o X.env := by rfl) (hline : (apos.endLine == pos.line) = true := by rfl) :
    JD X W (pu && pu') (.Call (.Attribute o "join" apos) [e] [] pos) (mM1 gJoin ma mb) :=
  jd_m1 F.slot_str_join F.type_str_join mt_join (fun U H d e x y res Q hU rx ry hg q => by
    unfold gJoin at hg
    split at hg
    · rename_i a ds
      cases qs : strsOf ds with
      | none => rw [qs] at hg; cases hg
      | some ys =>
        rw [qs, Option.bind_some] at hg
        split at hg <;> cases hg
        rename_i h
        rw [rd_str] at rx
        have := strsOf_ok qs
        subst this
        obtain ⟨p, xs, e1, h1, u1, r1⟩ := rd_lst ry
        have := rds_strsI r1
        subst this
        exact ⟨a, p, ys, rx, by rw [e1], .inl (SqL.of h1), h, q _ H (.refl H) (rd_str.mpr rfl)⟩
    · cases hg) ho he hs hbase hline
theorem cd_strI : CallD X (.type "str") gStrI := by
  refine ⟨_, call_str_int.or SkE.call_str_str, fun U H ds xs res Q hU rx hg q => ?_⟩
  unfold gStrI at hg
  split at hg
  · split at hg <;> cases hg
    rename_i i h
    obtain ⟨v, e, r⟩ := rds1 rx
    rw [rd_int] at r
    subst e r
    exact .inl ⟨i, rfl, h, q _ H (.refl H) (rd_str.mpr rfl)⟩
  · cases hg
    obtain ⟨v, e, r⟩ := rds1 rx
    rw [rd_str] at r
    subst e r
    exact .inr ⟨_, rfl, q _ H (.refl H) (rd_str.mpr rfl)⟩
  · cases hg
theorem cd_intT : CallD X (.type "int") gIntT := by
  refine ⟨_, call_int_str, fun U H ds xs res Q hU rx hg q => ?_⟩
  unfold gIntT at hg
  split at hg
  · split at hg
    · rename_i a h
      cases qi : PySem.intText? a with
      | none => rw [qi] at hg; cases hg
      | some n =>
        rw [qi] at hg
        cases hg
        obtain ⟨v, e, r⟩ := rds1 rx
        rw [rd_str] at r
        subst e r
        exact ⟨a, n, rfl, qi, h, q _ H (.refl H) (rd_int.mpr rfl)⟩
    · cases hg
  · cases hg
end
section
variable {X : Cx} {W : WX} {pu : Bool} {tg e : Expr} {ma : MD}
theorem ji_str (h : JD X W pu e ma) : JI X W pu tg e (iStrD ma) := by
  refine ⟨PI.imp (pi_str h.pe) fun σ H R ⟨pv, A, γ, S, E, w⟩ => ⟨pv, A, γ, S, E, seqD w fun d γ1 v H1 S1 go p E1 r w1 => ?_⟩, fun z => quiet_bind (h.quiet z) fun d => quiet_opt _ (fun ds γ => Out.ok ds γ) fun _ => quiet_ok _⟩
  cases d with
  | str x =>
    replace w1 := w1
    refine ⟨x, rd_str.mp r, w1 _ H1 S1 go p E1 ⟨fun i H2 S2 hi g => ?_, fun H2 S2 g => ?_, fun i d H2 S2 y H3 hd g hy => ?_⟩⟩
    · unfold signsD at hi
      rw [List.length_map, Array.length_toList] at hi
      exact hi
    · show x.cps.size ≤ (signsD x).length
      unfold signsD
      rw [List.length_map, Array.length_toList]
      exact Nat.le_refl _
    · obtain ⟨e, c, hc, hv⟩ := hy
      subst e
      unfold signsD at hd
      rw [List.getElem?_map, Array.getElem?_toList, hc] at hd
      cases hd
      exact ⟨.refl _, fun U _ => by rw [hv]; exact rd_str.mpr rfl⟩
  | _ => exact w1.elim
end
end Tw

namespace Tw
open PySem PySem.Spec PyProof.Rows L2
def sTryN (cs : List String) (sub : String → String → Bool) (x : String) (mb : MS) : MS := fun γ => match mb γ with
  | .err c γ' => if cs.contains c = true then (if sub c x = true then .bad else .err c γ') else .bad
  | o => o
section
variable {X : Cx} {W : WX} {k : Nat} {wb : List Nat} {cs : List String} {sub : String → String → Bool} {body suite : List Stmt} {b₀ : Stmt} {mb : MS} {np pos pos' : Pos}
theorem js_tryNo (f : Fine X W k) (x : String) (kn : Kin X.K X.mg cs sub) (hx : x ∈ cs) (hs : X.stack = X.env :: X.outer) (hf : X.env.frame = some X.env.locals)
    (hgx : Gl X (Str.ofString x)) (hdx : ((Str.ofString x) == ("__debug__" : Str)) = false) (hb : ∀ (W' : WX) (pn : List (Addr × Obj)) (xe : Value → Shared → Prop), Fine (X.tr pn xe) W' k → JB (X.tr pn xe) W' wb body mb) :
    JS X W wb (.Try body [.ExceptHandler (some (.Name (Str.ofString x) np)) none (b₀ :: suite) pos'] [] [] pos) (sTryN cs sub x mb) := by
  have hnm : Names X (Str.ofString x) (.ref (He.ga X.K (Str.ofString x))) := ⟨hgx, hdx, .inl (kn.mg x hx)⟩
  refine ⟨PS.imp (ps_try_only (tb := fun W' => tS X.K X.mgw W' wb mb) (ts := fun a cls d D σ H => False) (Wout := W) hs hf hnm f.tk (fun W' pn xe tk po => (hb W' pn xe (f.tr tk po)).ps) fun a oe cls d pn hz hfl => ⟨fun pins s σ H D I q => q.elim⟩) fun D σ H ⟨pv, A, γ, S, hp, E, w⟩ => ⟨pv, A, γ, S, hp, E, ?_⟩⟩
  unfold sTryN at w
  cases em : mb γ with
  | bad => rw [em] at w; exact w
  | ok fl γ' => rw [em] at w; cases fl <;> exact w
  | err c γ' =>
    rw [em] at w
    have w1 : WantS X.K X.mgw W pv A H S D (if cs.contains c = true then (if sub c x = true then .bad else .err c γ') else .bad) := w
    intro C σ' H' S' hC go E'
    by_cases hc : cs.contains c = true
    · rw [if_pos hc] at w1
      have hcm : c ∈ cs := by simpa using hc
      have eC := kn.mg c hcm
      have eC := hC.symm.trans eC
      cases eC
      refine ⟨sub c x, kn.exm c hcm x hx, fun hb1 a ha => ?_, fun hb0 => ?_⟩
      · rw [if_pos hb1] at w1
        exact w1.elim
      · rw [if_neg (by rw [hb0]; exact Bool.false_ne_true)] at w1
        exact w1 _ σ' H' S' hC go E'
    · rw [if_neg hc] at w1; exact w1.elim
end
end Tw

namespace Tw
open PySem PySem.Spec L2

theorem e_sNil (γ : Γ) : sNil γ = .ok .nx γ := (id rfl)
theorem e_sSeq (a b : MS) (γ : Γ) : sSeq a b γ = (a γ).bind fun f γ' => match f with
  | .nx => b γ'
  | f => .ok f γ' := (id rfl)
theorem e_sRet (me : ME) (γ : Γ) : sRet me γ = (me γ).bind fun r γ' => .ok (.ret r) γ' := (id rfl)
theorem e_sIf (c : MT) (a b : MS) (γ : Γ) : sIf c a b γ = (c γ).bind fun k γ' => if k = true then a γ' else b γ' := (id rfl)
theorem e_sDrop (me : ME) (γ : Γ) : sDrop me γ = (me γ).bind fun _ γ' => .ok .nx γ' := (id rfl)
theorem e_mF (m : MD) (γ : Γ) : mF m γ = (m γ).bind fun d γ' => .ok (.fz d) γ' := (id rfl)
theorem e_mD (m : ME) (γ : Γ) : mD m γ = (m γ).bind fun r γ' => ofO r.frz fun d => .ok d γ' := (id rfl)
theorem e_mBin (g : D → D → Option D) (ma mb : MD) (γ : Γ) : mBin g ma mb γ = (ma γ).bind fun d γ1 => (mb γ1).bind fun e γ2 => ofO (g d e) fun r => .ok r γ2 := (id rfl)
theorem e_mUn (g : D → Option D) (ma : MD) (γ : Γ) : mUn g ma γ = (ma γ).bind fun d γ1 => ofO (g d) fun r => .ok r γ1 := (id rfl)
theorem e_mVar (i : Nat) (γ : Γ) : mVar i γ = match γ[i]? with
  | some (.fz d) => .ok d γ
  | _ => .bad := (id rfl)
theorem e_mC (d : D) (γ : Γ) : mC d γ = .ok d γ := (id rfl)
theorem e_mTru (m : MD) (γ : Γ) : mTru m γ = (m γ).bind fun d γ' => ofO (truD d) fun b => .ok b γ' := (id rfl)
theorem e_mBl (m : MD) (γ : Γ) : mBl m γ = (m γ).bind fun d γ' => ofO (blD d) fun b => .ok b γ' := (id rfl)
theorem e_mAnd (a b : MT) (γ : Γ) : mAnd a b γ = (a γ).bind fun k γ' => if k = true then b γ' else .ok false γ' := (id rfl)
theorem e_mOr (a b : MT) (γ : Γ) : mOr a b γ = (a γ).bind fun k γ' => if k = true then .ok true γ' else b γ' := (id rfl)
theorem e_mNot (a : MT) (γ : Γ) : mNot a γ = (a γ).bind fun k γ' => .ok (!k) γ' := (id rfl)
theorem e_mAndV (a b : MD) (γ : Γ) : mAndV a b γ = (a γ).bind fun d γ' => ofO (truD d) fun k => if k = true then b γ' else .ok d γ' := (id rfl)
theorem e_mOrV (a b : MD) (γ : Γ) : mOrV a b γ = (a γ).bind fun d γ' => ofO (truD d) fun k => if k = true then .ok d γ' else b γ' := (id rfl)
theorem e_mNotV (a : MD) (γ : Γ) : mNotV a γ = (a γ).bind fun d γ' => ofO (truD d) fun k => .ok (.bool (!k)) γ' := (id rfl)
theorem e_mNo (γ : Γ) : mNo γ = .ok none γ := (id rfl)
theorem e_mSo (m : MD) (γ : Γ) : mSo m γ = (m γ).bind fun d γ' => ofO (intD d) fun i => .ok (some i) γ' := (id rfl)
theorem e_mSl (ma : MD) (ml mh : MO) (γ : Γ) : mSl ma ml mh γ = (ma γ).bind fun d γ1 => (ml γ1).bind fun lo γ2 => (mh γ2).bind fun hi γ3 => ofO (gSl lo hi d) fun r => .ok r γ3 := (id rfl)
theorem e_aNil (γ : Γ) : aNil γ = .ok [] γ := (id rfl)
theorem e_aCons (ma : MD) (ms : Γ → Out (List D)) (γ : Γ) : aCons ma ms γ = (ma γ).bind fun d γ1 => (ms γ1).bind fun ds γ2 => .ok (d :: ds) γ2 := (id rfl)
theorem e_mCall (g : List D → Option D) (ms : Γ → Out (List D)) (γ : Γ) : mCall g ms γ = (ms γ).bind fun ds γ1 => ofO (g ds) fun r => .ok r γ1 := (id rfl)
theorem e_aLst (ms : Γ → Out (List D)) (γ : Γ) : aLst ms γ = (ms γ).bind fun ds γ' => if decide (ds.length ≤ sizeLine) = true then .ok (.list ds) γ' else .bad := (id rfl)
theorem e_aTup (ms : Γ → Out (List D)) (γ : Γ) : aTup ms γ = (ms γ).bind fun ds γ' => if decide (ds.length ≤ sizeLine) = true then .ok (.tuple ds) γ' else .bad := (id rfl)
theorem e_mNil (γ : Γ) : mNil γ = .ok [] γ := (id rfl)
theorem e_mCons (m : ME) (ms : MA) (γ : Γ) : mCons m ms γ = (m γ).bind fun r γ1 => (ms γ1).bind fun rs γ2 => .ok (r :: rs) γ2 := (id rfl)
theorem e_mLst (ms : MA) (γ : Γ) : mLst ms γ = (ms γ).bind fun rs γ' => if decide (rs.length ≤ sizeLine) = true then .ok (.lst rs) γ' else .bad := (id rfl)
theorem e_mTup (ms : MA) (γ : Γ) : mTup ms γ = (ms γ).bind fun rs γ' => if decide (rs.length ≤ sizeLine) = true then .ok (mkTup rs) γ' else .bad := (id rfl)
theorem e_gSet (i : Nat) (m : M) (γ : Γ) : gSet i m γ = if i < γ.length then some (γ.set i m) else none := (id rfl)
theorem e_gsNil (ms : List M) (γ : Γ) : gsNil ms γ = match ms with
  | [] => some γ
  | _ => none := (id rfl)
theorem e_gsCons (g : MG) (gs : List M → Γ → Option Γ) (ms : List M) (γ : Γ) : gsCons g gs ms γ = match ms with
  | m :: ms => (g m γ).bind fun γ' => gs ms γ'
  | [] => none := (id rfl)
theorem e_gTupM (n : Nat) (gs : List M → Γ → Option Γ) (m : M) (γ : Γ) : gTupM n gs m γ = (partsOf m).bind fun ms => if ms.length = n then gs ms γ else none := (id rfl)
theorem e_sAsg (g : MG) (me : ME) (γ : Γ) : sAsg g me γ = (me γ).bind fun r γ' => ofO (g r γ') fun γ'' => .ok .nx γ'' := (id rfl)
theorem e_iD (m : MD) (γ : Γ) : iD m γ = (m γ).bind fun d γ' => ofO (seqOf d) fun ds => .ok ds γ' := (id rfl)
theorem e_iScr (i : Nat) (γ : Γ) : iScr i γ = match γ[i]? with
  | some (.scr ns) => .ok (ns.map .int) γ
  | _ => .bad := (id rfl)
theorem e_iRg (f : List D → Option (List D)) (ms : Γ → Out (List D)) (γ : Γ) : iRg f ms γ = (ms γ).bind fun ds γ' => ofO (f ds) fun r => .ok r γ' := (id rfl)
theorem e_rNil (γ : Γ) : rNil γ = .ok [] γ := (id rfl)
theorem e_rVal (me : ME) (mr : MR) (γ : Γ) : rVal me mr γ = (me γ).bind fun r γ1 => if nonOwn r = true then (mr γ1).bind fun as γ2 => .ok (.val r :: as) γ2 else .bad := (id rfl)
theorem e_rSlot (i : Nat) (mr : MR) (γ : Γ) : rSlot i mr γ = ofO (γ[i]?) fun m => if isDead m = true then .bad else (mr γ).bind fun as γ2 => .ok (.slot i :: as) γ2 := (id rfl)
theorem e_mCall0 (f : List M → Out M) (ms : MA) (γ : Γ) : mCall0 f ms γ = (ms γ).bind fun rs γ1 => if rs.all nonOwn = true then keepG (f rs) γ1 else .bad := (id rfl)
theorem e_mCallW (f : List M → Out M) (mr : MR) (γ : Γ) : mCallW f mr γ = (mr γ).bind fun as γ1 => ofO (takeAll as γ1) fun p => match f p.1 with
  | .ok r ms' => ofO (putAll as ms' p.2) fun γ3 => .ok r γ3
  | .err c ms' => ofO (putAll as ms' p.2) fun γ3 => .err c γ3
  | .bad => .bad := (id rfl)
theorem e_mpVar (i : Nat) (γ : Γ) : mpVar i γ = (γ[i]?).bind fun m => if isDead m = true then none else some (m, fun m' => γ.set i m') := (id rfl)
theorem e_gSubP (mp : MP) (mi : MD) (r : M) (γ : Γ) : gSubP mp mi r γ = (mp γ).bind fun q => (val (mi γ)).bind fun d => match q.1, d with
  | .lst ms, .int k => (ixN ms.length k).map fun j => q.2 (.lst (ms.set j r))
  | _, _ => none := (id rfl)
theorem e_mApp (i : Nat) (me : ME) (γ : Γ) : mApp i me γ = match γ[i]? with
  | some (.lst _) => (me γ).bind fun r γ1 => match γ1[i]? with
    | some (.lst ms) => if decide (ms.length < sizeLine) = true then .ok (.fz .none) (γ1.set i (.lst (ms ++ [r]))) else .bad
    | _ => .bad
  | _ => .bad := (id rfl)
theorem e_mPopAt (mp : MP) (md : MD) (γ : Γ) : mPopAt mp md γ = ofO (mp γ) fun q => ofO (val (md γ)) fun d => match q.1, d with
  | .lst ms, .int k => if k.natAbs < 9223372036854775808 then ofO (seqIndex? k ms.length) fun j => ofO (ms[j]?) fun c => .ok c (q.2 (.lst (ms.eraseIdx j))) else .bad
  | _, _ => .bad := (id rfl)
theorem e_mMove (i : Nat) (γ : Γ) : mMove i γ = ofO (γ[i]?) fun m => if isDead m = true then .bad else .ok m (γ.set i .dead) := (id rfl)
theorem e_mName (i : Nat) (γ : Γ) : mName i γ = ofO (γ[i]?) fun m => if nonOwn m = true then .ok m γ else .bad := (id rfl)
theorem e_mScrSl (i : Nat) (ml mh : MO) (γ : Γ) : mScrSl i ml mh γ = match γ[i]? with
  | some (.scr ns) => (ml γ).bind fun lo γ2 => (mh γ2).bind fun hi γ3 => .ok (.list (((ns.drop (HT.sIx ns.length 0 lo)).take (HT.sIx ns.length ns.length hi - HT.sIx ns.length 0 lo)).map .int)) γ3
  | _ => .bad := (id rfl)
theorem e_tYesM (γ : Γ) : tYesM γ = .ok true γ := (id rfl)
theorem e_gSetC (i : Nat) (m : M) (γ : Γ) : gSetC i m γ = match γ[i]? with
  | some m0 => if (nonOwn m0 || isDead m0) = true then some (γ.set i m) else none
  | none => none := (id rfl)
theorem e_sRaise (c : String) (γ : Γ) : sRaise c γ = .err c γ := (id rfl)
theorem e_sPre (ks fs : List Nat) (m : MS) (γ : Γ) : sPre ks fs m γ = ofO (adjG ks fs γ) m := (id rfl)
theorem e_sPost (ks fs : List Nat) (m : MS) (γ : Γ) : sPost ks fs m γ = (m γ).bind fun f γ' => match f with
  | .nx => ofO (adjG ks fs γ') fun γ2 => .ok .nx γ2
  | .ct => ofO (adjG ks fs γ') fun γ2 => .ok .ct γ2
  | f => .ok f γ' := (id rfl)
theorem e_mView {α : Type} (fs : List Nat) (ok : α → Bool) (m : Γ → Out α) (γ : Γ) : mView fs ok m γ = ofO (frzG fs γ) fun γf => match m γf with
  | .ok a _ => if ok a = true then .ok a γ else .bad
  | .err c _ => if restS γf = true then .err c γ else .bad
  | .bad => .bad := (id rfl)
theorem e_mpIt (mp : MP) (mi : MD) (γ : Γ) : mpIt mp mi γ = (mp γ).bind fun q => (val (mi γ)).bind fun d => match q.1, d with
  | .lst ms, .int k => (ixN ms.length k).bind fun j => (ms[j]?).bind fun c => some (c, fun c' => q.2 (.lst (ms.set j c')))
  | .tup ms, .int k => (ixN ms.length k).bind fun j => (ms[j]?).bind fun c => some (c, fun c' => q.2 (.tup (ms.set j c')))
  | _, _ => none := (id rfl)
theorem e_runF (wb : List Nat) (k : Nat) (body : MS) (ms : List M) : runF wb k body ms = if okArgs wb 0 ms = true then match body (ms ++ List.replicate k .dead) with
    | .ok (.ret r) γ => ofO (back wb 0 ms γ) fun b => .ok r b
    | .ok .nx γ => ofO (back wb 0 ms γ) fun b => .ok (.fz .none) b
    | .err c γ => ofO (back wb 0 ms γ) fun b => .err c b
    | _ => .bad
  else .bad := (id rfl)
end Tw

namespace Tw
open PySem PySem.Spec L2
theorem gEq_int (a b : Int) : gEq (.int a) (.int b) = some (.bool (decide (a = b))) := by
  unfold gEq deq
  rw [if_pos ⟨rfl, rfl⟩, PyData.eqv]
  congr 2
theorem gNe_int (a b : Int) : gNe (.int a) (.int b) = some (.bool (decide (a ≠ b))) := by
  unfold gNe deq
  rw [if_pos ⟨rfl, rfl⟩, PyData.eqv]
  congr 2
  by_cases h : a = b <;> simp [h]
theorem gEq_bool (a b : Bool) : gEq (.bool a) (.bool b) = some (.bool (a == b)) := by
  unfold gEq deq
  rw [if_pos ⟨rfl, rfl⟩, PyData.eqv]
theorem gEq_str {a b : Str} (ha : SeqAt.shaped (.str a) = true) (hb : SeqAt.shaped (.str b) = true) : gEq (.str a) (.str b) = some (.bool (a == b)) := by
  unfold gEq deq
  rw [if_pos ⟨ha, hb⟩, PyData.eqv]
theorem loopM_inv {g : MG} {mb : MS} (Pv : Nat → Γ → Prop) : ∀ (ds : List D) (k : Nat) (γ : Γ), Pv k γ → (∀ i d γ, ds[i]? = some d → Pv (k + i) γ → ∃ γ1 γ2, g (.fz d) γ = some γ1 ∧ (mb γ1 = .ok .nx γ2 ∨ mb γ1 = .ok .ct γ2) ∧ Pv (k + i + 1) γ2) →
    ∃ γ', loopM g mb ds γ = .ok .nx γ' ∧ Pv (k + ds.length) γ'
  | [], k, γ, h, _ => ⟨γ, rfl, h⟩
  | d :: ds, k, γ, h, st => by
    obtain ⟨γ1, γ2, h1, h2, h3⟩ := st 0 d γ rfl h
    obtain ⟨γ', h4, h5⟩ := loopM_inv Pv ds (k + 1) γ2 h3 fun i e γ he hp => by
      obtain ⟨γ3, γ4, k1, k2, k3⟩ := st (i + 1) e γ he (by rw [Nat.add_assoc k 1 i, Nat.add_comm 1 i] at hp; exact hp)
      exact ⟨γ3, γ4, k1, k2, by rw [Nat.add_assoc k 1 i, Nat.add_comm 1 i]; exact k3⟩
    refine ⟨γ', ?_, by rw [List.length_cons]; rw [Nat.add_assoc, Nat.add_comm 1] at h5; exact h5⟩
    unfold loopM
    rw [h1, ofO_some]
    rcases h2 with h2 | h2 <;> rw [h2, bind_ok] <;> exact h4
theorem sFor_inv {g : MG} {mi : MI} {mb : MS} {γ γ0 : Γ} {ds : List D} (hi : mi γ = .ok ds γ0) (Pv : Nat → Γ → Prop) (h0 : Pv 0 γ0) (st : ∀ i d γ, ds[i]? = some d → Pv i γ → ∃ γ1 γ2, g (.fz d) γ = some γ1 ∧ (mb γ1 = .ok .nx γ2 ∨ mb γ1 = .ok .ct γ2) ∧ Pv (i + 1) γ2) :
    ∃ γ', sFor g mi mb γ = .ok .nx γ' ∧ Pv ds.length γ' := by
  obtain ⟨γ', h1, h2⟩ := loopM_inv Pv ds 0 γ0 h0 fun i d γ hd hp => by
    rw [Nat.zero_add] at hp ⊢
    exact st i d γ hd hp
  exact ⟨γ', by unfold sFor; rw [hi, bind_ok]; exact h1, by rw [Nat.zero_add] at h2; exact h2⟩
theorem whileM_inv {c : MT} {mb : MS} (Pv : Nat → Γ → Prop) (Po : Γ → Prop) (st : ∀ m γ, Pv m γ → (∃ γ1, c γ = .ok false γ1 ∧ Po γ1) ∨ ∃ γ1 γ2 m', c γ = .ok true γ1 ∧ (mb γ1 = .ok .nx γ2 ∨ mb γ1 = .ok .ct γ2) ∧ m' < m ∧ Pv m' γ2) :
    ∀ (n m : Nat) (γ : Γ), m < n → Pv m γ → ∃ γ', whileM c mb n γ = .ok .nx γ' ∧ Po γ'
  | 0, m, γ, h, _ => absurd h (Nat.not_lt_zero m)
  | n + 1, m, γ, h, hp => by
    rcases st m γ hp with ⟨γ1, h1, h2⟩ | ⟨γ1, γ2, m', h1, h2, h3, h4⟩
    · refine ⟨γ1, ?_, h2⟩
      unfold whileM
      rw [h1, bind_ok, if_neg Bool.false_ne_true]
    · obtain ⟨γ', k1, k2⟩ := whileM_inv Pv Po st n m' γ2 (by omega) h4
      refine ⟨γ', ?_, k2⟩
      unfold whileM
      rw [h1, bind_ok, if_pos rfl]
      rcases h2 with h2 | h2 <;> rw [h2, bind_ok] <;> exact k1
theorem sWhile_inv {c : MT} {mb : MS} {γ : Γ} (Pv : Nat → Γ → Prop) (Po : Γ → Prop) (st : ∀ m γ, Pv m γ → (∃ γ1, c γ = .ok false γ1 ∧ Po γ1) ∨ ∃ γ1 γ2 m', c γ = .ok true γ1 ∧ (mb γ1 = .ok .nx γ2 ∨ mb γ1 = .ok .ct γ2) ∧ m' < m ∧ Pv m' γ2)
    {m : Nat} (hm : m < bigN) (h : Pv m γ) : ∃ γ', sWhile c mb γ = .ok .nx γ' ∧ Po γ' := whileM_inv Pv Po st bigN m γ hm h
theorem big_ge {m : Nat} (h : m ≤ 2 ^ 40) : m < bigN := Nat.lt_of_le_of_lt h (by unfold bigN; exact Nat.pow_lt_pow_right (by decide) (by decide))
theorem rngD_get {lo : Int} {n i : Nat} {d : D} (h : (rngD lo n)[i]? = some d) : i < n ∧ d = .int (lo + i) := by
  unfold rngD at h
  rw [List.getElem?_map] at h
  cases q : (List.range n)[i]? with
  | none => rw [q] at h; cases h
  | some k =>
    rw [q] at h
    obtain ⟨h1, h2⟩ := List.getElem?_eq_some_iff.mp q
    have : i = k := by simpa using h2
    subst this
    cases h
    exact ⟨by simpa using h1, rfl⟩
theorem rngD_len {lo : Int} {n : Nat} : (rngD lo n).length = n := by simp [rngD]
theorem inR_of {i : Int} (h : 0 ≤ i) (h2 : i ≤ 2 ^ 40) : inR i = true := decide_eq_true (by omega)
theorem small_of {i : Int} (h : -(2 ^ 63) ≤ i) (h2 : i ≤ 2 ^ 63) : small64 i = true := decide_eq_true (by omega)
theorem gMul_l {i j : Int} (h : small64 i = true) : gMul (.int i) (.int j) = some (.int (i * j)) := by
  show (if (small64 i || small64 j || decide (i.natAbs.log2 + j.natAbs.log2 < 1000000)) = true then some (PyData.int (i * j)) else none) = _
  rw [h]
  rfl
theorem gMul_r {i j : Int} (h : small64 j = true) : gMul (.int i) (.int j) = some (.int (i * j)) := by
  show (if (small64 i || small64 j || decide (i.natAbs.log2 + j.natAbs.log2 < 1000000)) = true then some (PyData.int (i * j)) else none) = _
  rw [h, Bool.or_true, Bool.true_or]
  rfl
theorem gMod_ok {i j : Int} (h : 0 < j) : gMod (.int i) (.int j) = some (.int (i % j)) := if_pos h
theorem gDiv_ok {i j : Int} (h : 0 < j) (h2 : j ≤ 2 ^ 64) : gDiv (.int i) (.int j) = some (.int (i / j)) := by
  refine if_pos ⟨h, ?_⟩
  have h3 : j.natAbs ≤ 2 ^ 64 := by omega
  by_cases h0 : j.natAbs = 0
  · rw [h0]; decide
  · have h4 : j.natAbs < 2 ^ 65 := by omega
    have := (Nat.log2_lt h0).mpr h4
    omega
theorem gPow_ok {i : Int} {k : Nat} (h : i.natAbs < 2 ^ 64) (hk : k ≤ 1000000) : gPow (.int i) (.int k) = some (.int (i ^ k)) := if_pos ⟨by omega, by omega, h⟩
end Tw
namespace Tw
open PySem PySem.Spec L2
theorem run_ret {wb : List Nat} {k : Nat} {body : MS} {ms : List M} {r : M} {γ : Γ} {b : List M} (ok : okArgs wb 0 ms = true) (h : body (ms ++ List.replicate k .dead) = .ok (.ret r) γ) (hb : back wb 0 ms γ = some b) : runF wb k body ms = .ok r b := by
  rw [e_runF, if_pos ok, h]
  show ofO (back wb 0 ms γ) (fun b => Out.ok r b) = _
  rw [hb]
  rfl
theorem seq_nx {a b : MS} {γ γ1 : Γ} {r : Out Fl} (h : a γ = .ok .nx γ1) (h2 : b γ1 = r) : sSeq a b γ = r := by
  unfold sSeq
  rw [h]
  exact h2
end Tw
namespace Tw
open PySem PySem.Spec
theorem canAll_ints : ∀ g : List Int, PyData.canLayAll0 (g.map .int) = true
  | [] => by simp [PyData.canLayAll0]
  | x :: g => by simp [PyData.canLayAll0, PyData.canLay0, canAll_ints g]
theorem depthAll_ints : ∀ g : List Int, PyData.depthAll (g.map .int) = 0
  | [] => by simp [PyData.depthAll]
  | x :: g => by simp [PyData.depthAll, PyData.depth, depthAll_ints g]
theorem shaped_ints (g : List Int) : SeqAt.shaped (.list (g.map .int)) = true := by
  simp [SeqAt.shaped, PyData.canLay0, canAll_ints, PyData.depth, depthAll_ints]
theorem shaped_nil : SeqAt.shaped (.list []) = true := shaped_ints []
theorem gNe_nil (g : List Int) : gNe (.list (g.map .int)) (.list []) = some (.bool (!g.isEmpty)) := by
  unfold gNe deq
  rw [if_pos ⟨shaped_ints g, shaped_nil⟩, PyData.eqv]
  cases g <;> rfl
end Tw
namespace Tw
open PySem PySem.Spec
theorem nonOwn_fz (d : D) : nonOwn (.fz d) = true := rfl
theorem nonOwn_scr (d : List Int) : nonOwn (.scr d) = true := rfl
theorem nonOwn_lst (d : List M) : nonOwn (.lst d) = false := rfl
theorem nonOwn_tup (d : List M) : nonOwn (.tup d) = false := rfl
theorem nonOwn_dead : nonOwn .dead = false := rfl
theorem isDead_fz (d : D) : isDead (.fz d) = false := rfl
theorem isDead_scr (d : List Int) : isDead (.scr d) = false := rfl
theorem isDead_lst (d : List M) : isDead (.lst d) = false := rfl
theorem isDead_tup (d : List M) : isDead (.tup d) = false := rfl
theorem isDead_dct (d : List (L2.Key × M)) : isDead (.dct d) = false := rfl
theorem isDead_tds (ks : List NestedKey) : isDead (.tds ks) = false := rfl
theorem nonOwn_tds (ks : List NestedKey) : nonOwn (.tds ks) = false := rfl
theorem isDead_ins (c : String) (d : List (Str × M)) : isDead (.ins c d) = false := rfl
theorem isDead_dead : isDead .dead = true := rfl
end Tw
namespace Tw
open PySem PySem.Spec
theorem gNe_bool (a b : Bool) : gNe (.bool a) (.bool b) = some (.bool (a != b)) := by
  unfold gNe deq
  rw [if_pos ⟨rfl, rfl⟩, PyData.eqv]
  rfl
theorem shaped_str {x : Str} (h : PyData.strOk x = true) : SeqAt.shaped (.str x) = true := by
  simp [SeqAt.shaped, PyData.canLay0, h, PyData.depth]
theorem gEq_same {x : Str} (h : PyData.strOk x = true) : gEq (.str x) (.str x) = some (.bool true) := by
  rw [gEq_str (shaped_str h) (shaped_str h)]
  simp
theorem atI_nat {α : Type} {xs : List α} {i : Nat} (h : i < xs.length) : L2.atI xs (i : Int) = some xs[i] := by
  simp [L2.atI, L2.ixN, h]
end Tw
namespace Tw
theorem e_sForX (g : MG) (mi : MI) (mb : MS) (γ : Γ) : sFor g mi mb γ = (mi γ).bind fun ds γ' => loopM g mb ds γ' := rfl
end Tw
namespace Tw
open PySem PySem.Spec
theorem loopC_inv {vs : List Nat} {g : MG} {mt : MT} {me : ME} (Pv : Nat → Γ → List M → Prop) : ∀ (ds : List D) (k : Nat) (γ : Γ) (acc : List M), Pv k γ acc →
    (∀ i d γ acc, ds[i]? = some d → Pv (k + i) γ acc → ∃ γ1 γ2, g (.fz d) γ = some γ1 ∧ ((∃ r γ3, mt γ1 = .ok true γ2 ∧ me γ2 = .ok r γ3 ∧ acc.length < sizeLine ∧ okWipe γ3 vs = true ∧ Pv (k + i + 1) (wipeG γ3 vs) (acc ++ [r])) ∨ (mt γ1 = .ok false γ2 ∧ okWipe γ2 vs = true ∧ Pv (k + i + 1) (wipeG γ2 vs) acc))) →
    ∃ γ' acc', loopC vs g mt me ds γ acc = .ok acc' γ' ∧ Pv (k + ds.length) γ' acc'
  | [], k, γ, acc, h, _ => ⟨γ, acc, rfl, h⟩
  | d :: ds, k, γ, acc, h, st => by
    have nxt : ∀ γ acc, Pv (k + 1) γ acc → ∃ γ' acc', loopC vs g mt me ds γ acc = .ok acc' γ' ∧ Pv (k + (ds.length + 1)) γ' acc' := fun γ acc hp => by
      obtain ⟨γ', acc', h1, h2⟩ := loopC_inv Pv ds (k + 1) γ acc hp fun i e γ acc he hq => by
        have := st (i + 1) e γ acc he (by rw [Nat.add_assoc k 1 i, Nat.add_comm 1 i] at hq; exact hq)
        rw [Nat.add_assoc k 1 i, Nat.add_comm 1 i]
        exact this
      exact ⟨γ', acc', h1, by rw [Nat.add_assoc, Nat.add_comm 1] at h2; exact h2⟩
    obtain ⟨γ1, γ2, h1, h2⟩ := st 0 d γ acc rfl h
    rw [List.length_cons]
    unfold loopC
    rw [h1, ofO_some]
    rcases h2 with ⟨r, γ3, h2, h3, h4, h5, h6⟩ | ⟨h2, h5, h6⟩
    · rw [h2, bind_ok, if_pos rfl, h3, bind_ok, if_pos (by rw [h5, Bool.and_true]; exact decide_eq_true h4)]
      exact nxt _ _ h6
    · rw [h2, bind_ok, if_neg Bool.false_ne_true, if_pos h5]
      exact nxt _ _ h6
theorem mLc_inv {vs : List Nat} {g : MG} {mi : MI} {mt : MT} {me : ME} {γ γ0 : Γ} {ds : List D} (hi : mi γ = .ok ds γ0) (ok : okWipe γ0 vs = true) (Pv : Nat → Γ → List M → Prop) (h0 : Pv 0 (wipeG γ0 vs) [])
    (st : ∀ i d γ acc, ds[i]? = some d → Pv i γ acc → ∃ γ1 γ2, g (.fz d) γ = some γ1 ∧ ((∃ r γ3, mt γ1 = .ok true γ2 ∧ me γ2 = .ok r γ3 ∧ acc.length < sizeLine ∧ okWipe γ3 vs = true ∧ Pv (i + 1) (wipeG γ3 vs) (acc ++ [r])) ∨ (mt γ1 = .ok false γ2 ∧ okWipe γ2 vs = true ∧ Pv (i + 1) (wipeG γ2 vs) acc))) :
    ∃ γ' acc, mLc vs g mi mt me γ = .ok (.lst acc) (restG γ0 γ' vs) ∧ Pv ds.length γ' acc := by
  obtain ⟨γ', acc, h1, h2⟩ := loopC_inv (vs := vs) (g := g) (mt := mt) (me := me) Pv ds 0 (wipeG γ0 vs) [] h0 fun i d γ acc hd hp => by
    rw [Nat.zero_add] at hp ⊢
    exact st i d γ acc hd hp
  rw [Nat.zero_add] at h2
  refine ⟨γ', acc, ?_, h2⟩
  unfold mLc
  rw [hi, bind_ok, if_pos ok, h1]
  rfl
end Tw

namespace Tw
open PySem PySem.Spec L2
theorem ints_get {ns : List Int} {i : Nat} {d : D} (h : (ns.map PyData.int)[i]? = some d) : ∃ z, ns[i]? = some z ∧ d = .int z := by
  rw [List.getElem?_map] at h
  cases q : ns[i]? with
  | none => rw [q] at h; cases h
  | some z => rw [q] at h; exact ⟨z, rfl, (Option.some.inj h).symm⟩
theorem mLc_draw {α : Type} (enc : α → M) {i j n : Nat} {mi : MI} {me : ME} {γ γ0 : Γ} {t : M} (hi : mi γ = .ok (rngD 0 n) γ0) (hij : i ≠ j) (hd : γ0[i]? = some .dead) (hj : γ0[j]? = some t) (Tr : Nat → M → Prop) (Q : α → Prop) (h0 : Tr 0 t) (hn : n ≤ sizeLine)
    (st : ∀ k t, k < n → Tr k t → ∃ x t', me ((γ0.set j t).set i (.fz (.int k))) = .ok (enc x) ((γ0.set j t').set i (.fz (.int k))) ∧ Q x ∧ Tr (k + 1) t') :
    ∃ (xs : List α) (t' : M), mLc [i] (gSetC i) mi tYesM me γ = .ok (.lst (xs.map enc)) (γ0.set j t') ∧ xs.length = n ∧ (∀ x ∈ xs, Q x) ∧ Tr n t' := by
  have hi0 : i < γ0.length := (List.getElem?_eq_some_iff.mp hd).1
  have dead : ∀ t, (γ0.set j t)[i]? = some .dead := fun t => by rw [List.getElem?_set_ne (Ne.symm hij), hd]
  have self : ∀ t, (γ0.set j t).set i .dead = γ0.set j t := fun t => set_self (dead t)
  have okw : ∀ (g : Γ) (m : M), g[i]? = some m → (nonOwn m || isDead m) = true → okWipe g [i] = true := fun g m h h2 => by
    unfold okWipe
    rw [List.all_cons, List.all_nil, h, Bool.and_true]
    exact h2
  obtain ⟨γ', acc, h1, t', xs, e1, e2, h2, h3, h4⟩ := mLc_inv (vs := [i]) (g := gSetC i) (mt := tYesM) (me := me) hi (okw γ0 .dead hd rfl)
    (fun k γ acc => ∃ (t : M) (xs : List α), γ = γ0.set j t ∧ acc = List.map enc xs ∧ xs.length = k ∧ (∀ x ∈ xs, Q x) ∧ Tr k t)
    ⟨t, [], by show γ0.set i .dead = _; rw [set_self hd, set_self hj], rfl, rfl, (fun x hx => nomatch hx), h0⟩ (by
      rintro k d γ acc hk ⟨t, xs, rfl, rfl, h2, h3, h4⟩
      obtain ⟨hlt, rfl⟩ := rngD_get hk
      rw [Int.zero_add]
      obtain ⟨x, t', r1, r2, r3⟩ := st k t hlt h4
      refine ⟨(γ0.set j t).set i (.fz (.int k)), (γ0.set j t).set i (.fz (.int k)), ?_, .inl ⟨enc x, _, rfl, r1, by rw [List.length_map, h2]; omega, ?_, ?_⟩⟩
      · unfold gSetC
        rw [dead t]
        rfl
      · exact okw _ (.fz (.int k)) (List.getElem?_set_self (by rw [List.length_set]; exact hi0)) rfl
      · refine ⟨t', xs ++ [x], ?_, by simp, by simp [h2], fun y hy => ?_, r3⟩
        · show ((γ0.set j t').set i (.fz (.int k))).set i .dead = _
          rw [List.set_set, self]
        · rcases List.mem_append.mp hy with hy | hy
          · exact h3 y hy
          · rw [List.mem_singleton.mp hy]; exact r2)
  subst e1 e2
  rw [rngD_len] at h2 h4
  refine ⟨xs, t', ?_, h2, h3, h4⟩
  rw [h1]
  show Out.ok _ ((γ0.set j t').set i (γ0.getD i .dead)) = _
  have : γ0.getD i .dead = .dead := by simp [List.getD, hd]
  rw [this, self]
theorem rng1_len {n : Nat} (h : n ≤ 1048576) : rng1 [.int n] = some (rngD 0 n) := by
  show (if inR n = true then some (rngD 0 (n : Int).toNat) else none) = _
  rw [if_pos (inR_of (by omega) (by omega)), Int.toNat_natCast]
theorem gIxT (d : D) (ds : List D) (i : Int) : gIx (.tuple (d :: ds)) (.int i) = L2.atI (d :: ds) i := rfl
theorem gIxL (d : D) (ds : List D) (i : Int) : gIx (.list (d :: ds)) (.int i) = L2.atI (d :: ds) i := rfl
theorem gAddI (a b : Int) : gAdd (.int a) (.int b) = some (.int (a + b)) := rfl
theorem gAddS (a b : Str) : gAdd (.str a) (.str b) = if a.length + b.length ≤ sizeLine then some (.str (a ++ b)) else none := rfl
theorem gAddL (a b : List D) : gAdd (.list a) (.list b) = if a.length + b.length ≤ sizeLine then some (.list (a ++ b)) else none := rfl
theorem gAddT (a b : List D) : gAdd (.tuple a) (.tuple b) = if a.length + b.length ≤ sizeLine then some (.tuple (a ++ b)) else none := rfl
theorem truB (b : Bool) : truD (.bool b) = some b := rfl
theorem truI (i : Int) : truD (.int i) = some (i != 0) := rfl
theorem truN : truD .none = some false := rfl
theorem truL (l : List D) : truD (.list l) = some (!l.isEmpty) := rfl
theorem truT (l : List D) : truD (.tuple l) = some (!l.isEmpty) := rfl
theorem sqOfL (l : List D) : seqOf (.list l) = some l := rfl
theorem sqOfT (l : List D) : seqOf (.tuple l) = some l := rfl
theorem isN_n : isN .none = true := rfl
theorem isN_b (b : Bool) : isN (.bool b) = false := rfl
theorem isN_i (b : Int) : isN (.int b) = false := rfl
theorem isN_s (b : Str) : isN (.str b) = false := rfl
theorem isN_l (b : List D) : isN (.list b) = false := rfl
theorem isN_t (b : List D) : isN (.tuple b) = false := rfl
theorem gIs_n (d : D) : gIs d .none = some (.bool (isN d)) := by cases d <;> rfl
theorem gIsNot_n (d : D) : gIsNot d .none = some (.bool (!isN d)) := by cases d <;> rfl
theorem rng_cells (ns : List Int) (a k : Nat) (hk : k ≤ 100) (ha : a ≤ 100) : rng1 [.int ((a : Int) + (min k ns.length : Nat))] = some (rngD 0 (a + min k ns.length)) := by
  have := rng1_len (n := a + min k ns.length) (by omega)
  rwa [Int.natCast_add] at this
end Tw

namespace Tw
open PySem PySem.Spec L2
theorem Alk.shaped {n : Nat} {d : D} (h : Alk n d) (hn : n ≤ 64) : SeqAt.shaped d = true := by
  obtain ⟨h1, h2⟩ := h.lay
  simp [SeqAt.shaped, h1]
  omega
theorem alk_ints (n : Nat) (l : List Int) : ∀ d ∈ l.map PyData.int, Alk n d := fun d hd => by
  obtain ⟨i, _, rfl⟩ := List.mem_map.mp hd
  exact .int n i
def rowD : RowT → D
  | .put d n => .tuple [.str "put", .int d, .int n]
  | .sum d a b => .tuple [.str "sum", .int d, .int a, .int b]
  | .mul d a b => .tuple [.str "mul", .int d, .int a, .int b]
  | .less d a b => .tuple [.str "less", .int d, .int a, .int b]
  | .take d a n => .tuple [.str "take", .int d, .int a, .int n]
  | .lay b a n => .tuple [.str "lay", .int b, .int a, .int n]
  | .go a p => .tuple [.str "go", .int a, .int p]
  | .shut => .tuple [.str "shut"]
  | .opn => .tuple [.str "open"]
  | .home => .tuple [.str "home"]
theorem rowD_alk (r : RowT) : Alk 1 (rowD r) := by
  have s : ∀ x : Str, PyData.strOk x = true → ∀ (ns : List Int), ns.length ≤ 4 → Alk 1 (.tuple (.str x :: ns.map .int)) := fun x hx ns hn => .tup 0 _ (fun d hd => by
    rcases List.mem_cons.mp hd with rfl | hd
    · exact .str 0 x hx
    · exact alk_ints 0 ns d hd) (by simp; omega)
  cases r with
  | put d n => exact s "put" (by decide +kernel) [d, n] (by simp)
  | sum d a b => exact s "sum" (by decide +kernel) [d, a, b] (by simp)
  | mul d a b => exact s "mul" (by decide +kernel) [d, a, b] (by simp)
  | less d a b => exact s "less" (by decide +kernel) [d, a, b] (by simp)
  | take d a b => exact s "take" (by decide +kernel) [d, a, b] (by simp)
  | lay d a b => exact s "lay" (by decide +kernel) [d, a, b] (by simp)
  | go a p => exact s "go" (by decide +kernel) [a, p] (by simp)
  | shut => exact s "shut" (by decide +kernel) [] (by simp)
  | opn => exact s "open" (by decide +kernel) [] (by simp)
  | home => exact s "home" (by decide +kernel) [] (by simp)
abbrev natD (n : Nat) : D := .int n
def millD (rows : List RowT) (bells : List Nat) : D := .tuple [.tuple (rows.map rowD), .tuple (bells.map natD)]
theorem alk_rows (n : Nat) (l : List RowT) : ∀ d ∈ l.map rowD, Alk (n + 1) d := fun d hd => by
  obtain ⟨i, _, rfl⟩ := List.mem_map.mp hd
  exact (rowD_alk i).up _ (by omega)
theorem mill_rows (rows : List RowT) (bells : List Nat) : gIx (millD rows bells) (.int 0) = some (.tuple (rows.map rowD)) := rfl
theorem mill_bells (rows : List RowT) (bells : List Nat) : gIx (millD rows bells) (.int 1) = some (.tuple (bells.map natD)) := rfl
end Tw

namespace Tw
open PySem PySem.Spec L2
theorem sIx_nat (n d k : Nat) : HT.sIx n d (some (k : Int)) = min k n := HT.sIx_nat n d k
theorem sIx_none (n d : Nat) : HT.sIx n d none = d := rfl
end Tw


namespace Tw
open PySem PySem.Spec L2
theorem DkOk.live {n : Nat} {t : M} (h : DkOk n t) : isDead t = false := by
  obtain ⟨g, f, c, rfl, _⟩ := h
  rfl
structure Mark where
  at_ : Nat
  how : Nat
  much : Nat
end Tw

namespace Tw
open PySem PySem.Spec L2
theorem mLc_mapE {α : Type} {vs : List Nat} {g : MG} {mi : MI} {me : ME} {γ γ0 : Γ} {ps : List α} (e : α → D) (f : α → M) (hi : mi γ = .ok (ps.map e) γ0) (ok : okWipe γ0 vs = true) (hr : restG γ0 (wipeG γ0 vs) vs = γ0) (hl : ps.length ≤ sizeLine)
    (h : ∀ p ∈ ps, ∃ γ1, g (.fz (e p)) (wipeG γ0 vs) = some γ1 ∧ me γ1 = .ok (f p) γ1 ∧ okWipe γ1 vs = true ∧ wipeG γ1 vs = wipeG γ0 vs) :
    mLc vs g mi tYesM me γ = .ok (.lst (ps.map f)) γ0 := by
  obtain ⟨γ', acc, h1, e1, e2⟩ := mLc_inv (vs := vs) (g := g) (mt := tYesM) (me := me) hi ok (fun k γ acc => γ = wipeG γ0 vs ∧ acc = (ps.take k).map f) ⟨rfl, rfl⟩ (by
    rintro k d γ acc hk ⟨rfl, rfl⟩
    rw [List.getElem?_map] at hk
    cases q : ps[k]? with
    | none => rw [q] at hk; cases hk
    | some p =>
      rw [q] at hk
      cases hk
      obtain ⟨γ1, a1, a3, a4, a5⟩ := h p (List.mem_of_getElem? q)
      have hlt := (List.getElem?_eq_some_iff.mp q).1
      refine ⟨γ1, γ1, a1, .inl ⟨f p, γ1, rfl, a3, ?_, a4, a5, ?_⟩⟩
      · rw [List.length_map, List.length_take]
        omega
      · rw [List.take_add_one, q, List.map_append]
        rfl)
  subst e1 e2
  rw [h1, hr, List.length_map, List.take_length]
end Tw


namespace Tw
open PySem PySem.Spec L2
def OtherR (first : Nat) : RowT → Prop
  | .put d _ => d < 4
  | .sum d a b => d < 4 ∧ a < 4 ∧ b < 4
  | .mul d a b => d < 4 ∧ a < 4 ∧ b < 4
  | .less d a b => d < 4 ∧ a < 4 ∧ b < 4
  | .take d a _ => d < 4 ∧ a < 4
  | .lay b a _ => b < 4 ∧ a < 4
  | .go a p => a < 4 ∧ first ≤ p
  | _ => True
def AheadR (first p : Nat) : RowT → Prop
  | .put d _ => 4 ≤ d ∧ p + 1 < first
  | .sum d _ _ => 4 ≤ d ∧ p + 1 < first
  | .mul d _ _ => 4 ≤ d ∧ p + 1 < first
  | .less d _ _ => 4 ≤ d ∧ p + 1 < first
  | .take d _ _ => 4 ≤ d ∧ p + 1 < first
  | .lay _ _ _ => False
  | .go _ q => q < first ∧ p + 1 < first
  | .shut => p + 1 < first
  | .opn => False
  | .home => True
structure Apart (first : Nat) (rows : List RowT) (mb : List Nat) : Prop where
  mill : Mill rows mb
  le : first ≤ rows.length
  ahead : ∀ p, p < first → AheadR first p (rowAt rows p)
  other : ∀ p, first ≤ p → p < rows.length → OtherR first (rowAt rows p)
  bells : ∀ b ∈ mb, b < first
structure Near (s u : Stt) : Prop where
  spots : ∀ i, i < 4 → gd s.spots i = gd u.spots i
  cells : s.cells = u.cells
  l1 : s.spots.length = u.spots.length
inductive Sim (first : Nat) (s u : Stt) : Prop where
  | main (n : Near s u) (hp : first ≤ s.place) (hk : s.kept = none) (uk : u.kept = none) (ep : s.place = u.place) (es : s.shut = u.shut)
  | bell (n : Near s u) (hp : s.place < first) (hk : s.kept = some u.place) (uk : u.kept = none) (up : first ≤ u.place) (hs : s.shut = true) (us : u.shut = false)
end Tw

namespace Tw
open PySem PySem.Spec L2
theorem BagOk.live {n : Nat} {t : M} (h : BagOk n t) : isDead t = false := by
  obtain ⟨g, a, l, u, f, rfl, _⟩ := h
  rfl
end Tw



namespace Tw
open PySem PySem.Spec L2
theorem WInv.perm {rs : List Rc} {ds : List Ev} {ws vs : List Nat} {e : Nat} {bs : List (Nat × Int)} (h : WInv rs ds ws e bs) (p : ws.Perm vs) : WInv rs ds vs e bs :=
  let ⟨ls, h1, h2, h3, h4⟩ := h
  ⟨ls, h1, fun m hm => h2 m (p.mem_iff.mpr hm), fun m hr hm hw => (h3 m hr hm hw).imp id p.mem_iff.mp, by rw [← p.length_eq]; exact h4⟩
theorem perm_erase {α : Type} {l : List α} {i : Nat} (h : i < l.length) : l.Perm (l[i] :: l.eraseIdx i) := by
  have e : l = l.take i ++ l[i] :: l.drop (i + 1) := by rw [← List.drop_eq_getElem_cons h, List.take_append_drop]
  rw [List.eraseIdx_eq_take_drop_succ]
  exact (List.Perm.of_eq e).trans List.perm_middle
theorem WInv.pop {rs : List Rc} {ds : List Ev} {ws : List Nat} {e y : Nat} {bs : List (Nat × Int)} (h : WInv rs ds ws e bs) (b : Int) (hy : y < ws.length) : WInv rs (ds ++ [.late b ws[y] (rs[ws[y]]'(h.lt (List.getElem_mem hy))).worth]) (ws.eraseIdx y) e bs :=
  (h.perm (perm_erase hy)).late b
theorem Dia.tail {rs : List Rc} {ls : List Nat} {n : Nat} (b : Int) : ∀ (tl : List Int) {ds : List Ev} {bs : List (Nat × Int)}, Dia rs ds n bs ls → Dia rs (ds ++ tl.map (fun k => Ev.bell b k)) n (bs ++ tl.map fun k => (n, k)) ls
  | [], ds, bs, h => by simpa using h
  | k :: tl, ds, bs, h => by
    have := Dia.tail b tl (h.bell b k)
    rw [List.append_assoc, List.append_assoc] at this
    exact this
end Tw


namespace Tw
open PySem PySem.Spec L2
theorem LedAt.start {w : List Stp} {fs ks : List Nat} {P : Nat → Bool} (hn : ks.Nodup) (h : ∀ x, x ∈ ks ↔ x ∈ fs) : LedAt w fs P w.length ks := ⟨hn, fun x => by
  rw [h x]
  exact ⟨.inl, fun z => z.elim id fun y => by omega⟩⟩
end Tw


namespace Tw
open PySem PySem.Spec L2
def add1 {α : Type} [DecidableEq α] (l : List α) (x : α) : List α := if x ∈ l then l else l ++ [x]
def once {α : Type} [DecidableEq α] (l : List α) : List α := l.foldl add1 []
end Tw


namespace Tw
open PySem PySem.Spec L2

def gone (r : Bool) (l : List (Int × Nat)) (k : Nat) : List (Int × Nat) := if r = true then l.eraseP fun p => p.2 == k else l.tail
end Tw




namespace Tw
open PySem PySem.Spec L2
def isBeE : Evt → Bool
  | .bell _ _ => true
  | _ => false
def finE (b : Nat) (x : Nat × Wro) : Evt := .fin b x.1 x.2
end Tw


namespace Tw
open PySem PySem.Spec L2
def runE {σ : Type} (stp : σ → Evt → Option σ) : List Evt → σ → Option σ
  | [], b => some b
  | e :: es, b => (stp b e).bind (runE stp es)
end Tw

namespace Tw
open PySem PySem.Spec L2
structure Bk where
  spots : List Int
  cells : List Int
  down : List Int
  owed : List (Nat × Nat × Int)
  laid : List (Nat × Nat × Nat × Int)
  ends : Nat
  last : Int
def owE (o : Ow) : Nat × Nat × Int := (o.n, o.d, o.x)
def Tm (t eb : Nat) (laid : List La) (bl : List (Nat × Nat × Nat × Int)) (last : Int) : Prop :=
  (laid = [] ∧ bl = [] ∧ last < t) ∨ (∃ q : Nat, laid ≠ [] ∧ bl = dl eb (q * eb) laid ∧ t ≤ q * eb ∧ q * eb < t + eb ∧ last = (((q + laid.length - 1) * eb : Nat) : Int))
structure Kept (t : Nat) (C : LC) (g : LG) (b : Bk) : Prop where
  sp : b.spots = g.s.spots
  dn : b.down = g.s.cells
  ce : b.cells = seenC g.laid g.s.cells
  ow : b.owed = g.owed.map owE
  nd : g.owed.Pairwise fun o p => o.n ≠ p.n
  lt : ∀ o ∈ g.owed, o.n < g.ends
  en : b.ends = g.ends
  tm : Tm t C.lay.eb g.laid b.laid b.last
end Tw

namespace Tw
open PySem PySem.Spec L2
structure BI (b : Bk) : Prop where
  sp : b.spots.length = 8
  ws : ∀ w ∈ b.spots, Worth w
  ce : b.cells.length = 16
  wc : ∀ w ∈ b.cells, Worth w
  dn : b.down.length = 16
  ow : ∀ o ∈ b.owed, o.1 < b.ends ∧ o.2.1 < 8 ∧ Worth o.2.2
  owl : b.owed.length ≤ b.ends
  la : ∀ o ∈ b.laid, o.2.2.1 < 16
  lal : b.laid.length ≤ b.ends
end Tw

namespace Tw
open PySem PySem.Spec L2
def owS (l : List Ow) (sp : List Int) : List Int := l.foldl (fun s o => s.set o.d o.x) sp
end Tw

namespace Tw
open PySem PySem.Spec L2
structure Pl where
  st : Stt
  rows : List (Nat × Wro)
  full : List (Nat × Wrote)
def exW : Wrote → Wro
  | .non => .non
  | .spot d x => .spot d (some x)
  | .cell a x => .cell a x
def virt (g : LG) : Stt := { g.s with spots := owS g.owed g.s.spots, cells := seenC g.laid g.s.cells }
structure PR (C : LC) (g : LG) (v : Pl) : Prop where
  st : v.st = virt g
  l1 : v.rows.length = g.ends
  l2 : v.full.length = g.ends
  dd : g.owed.Pairwise fun a b => a.d ≠ b.d
  nd : g.owed.Pairwise fun a b => a.n ≠ b.n
  lt : ∀ o ∈ g.owed, o.n < g.ends
  ow : ∀ o ∈ g.owed, ∃ p, v.rows[o.n]? = some (p, .spot o.d none) ∧ v.full[o.n]? = some (p, .spot o.d o.x)
  al : ∀ n p w, v.rows[n]? = some (p, w) → ∃ m, v.full[n]? = some (p, m) ∧ (w = exW m ∨ ∃ o ∈ g.owed, o.n = n)
end Tw

namespace Tw
open PySem PySem.Spec L2
def likeY : Nat → List (Option Nat) → List (Int × Nat)
  | _, [] => []
  | n, some k :: ys => ((n : Int), k) :: likeY n ys
  | n, none :: ys => likeY (n + 1) ys
structure Ld where
  left : List (Int × Nat)
  ends : Nat
  shut : Bool
def nowB (l : Ld) : Bool := !l.shut && match l.left with
  | [] => false
  | p :: _ => decide (p.1 ≤ (l.ends : Int))
open Classical in
noncomputable def ldS (C : LC) (l : Ld) : Evt → Option Ld
  | .bell _ k => if nowB l = true ∧ (l.left.head?.map (·.2)) = some k then some { l with left := l.left.tail, shut := true } else none
  | .fin _ p _ => match C.rows[p]? with
    | none => none
    | some row => if nowB l = false then some { l with ends := l.ends + 1, shut := shutBy row l.shut } else none
  | _ => some l
structure LdR (g : LG) (l : Ld) : Prop where
  lf : l.left = g.left
  en : l.ends = g.ends
  sh : l.shut = g.s.shut
end Tw

namespace Tw
open PySem PySem.Spec L2
def AlikeR (x y : Nat × Wro) : Prop := x.1 = y.1 ∧ ((x.2 = y.2) ∨ ∃ d a b, x.2 = .spot d a ∧ y.2 = .spot d b ∧ (a = none ∨ b = none))
end Tw

namespace Tw
open PySem PySem.Spec L2
structure Bt where
  taken : Nat
  ends : Nat
  shut : Bool
  since : Int
structure BtR (so : List Rng) (g : LG) (b : Bt) : Prop where
  lf : g.left = so.drop b.taken
  en : b.ends = g.ends
  sh : b.shut = g.s.shut
end Tw





namespace Tw
open PySem PySem.Spec L2
structure Bs where
  spots : List Int
  cells : List Int
  owed : List (Nat × Nat × Int)
  ends : Nat
structure KeptS (g : LG) (b : Bs) : Prop where
  sp : b.spots = g.s.spots
  ce : b.cells = seenC g.laid g.s.cells
  ow : b.owed = g.owed.map owE
  nd : g.owed.Pairwise fun o p => o.n ≠ p.n
  lt : ∀ o ∈ g.owed, o.n < g.ends
  en : b.ends = g.ends
end Tw





namespace Tw
open PySem PySem.Spec L2
def W0 : WD := ⟨0, [], 0⟩
variable {rows : List RowT} {s : Stt}
end Tw


namespace Tw
open PySem PySem.Spec L2
def sinO (l : Lay) (o : Ow) : OwG := ⟨o.n, o.d, o.x, (o.due : Int) - (l.sl + (o.n % l.sp : Nat))⟩
def lagO (o : La) : LaG := ⟨o.n, o.a, o.x⟩
structure CR (C : LC) (m c : Nat) (g : LG) (z : Sd) : Prop where
  pl : ∃ v, PR C g v ∧ v.st = z.s
  ow : z.owed = g.owed.map (sinO C.lay)
  la : z.laid = g.laid.map lagO
  en : z.ends = g.ends
  du : ∀ o ∈ g.owed, m ≤ o.due
  ls : z.last ≤ (g.beat : Int)
  cr : z.last = (g.beat : Int) → z.crowd ≤ c
end Tw



namespace Tw
open PySem PySem.Spec L2
def bellE : Evt → Option (Int × Int)
  | .bell b k => some ((b : Int), (k : Int))
  | _ => none
def bellsE (es : List Evt) : List (Int × Int) := es.filterMap bellE
section
variable {C : LC} (hC : C.Ok)
include hC
variable {t : Tms} (ht : Loose C.lay t) (hsl : C.slips = [])
include ht hsl
structure LI (g : LG) (z : Sd) (m : Int) : Prop where
  tk : z.took = (bellsE g.dia).map (·.2)
  pr : z.pressed = 0
  bt : ∀ p ∈ bellsE g.dia, p.1 < m
end
end Tw



namespace Tw
open PySem PySem.Spec L2
def stepX (ps : List (Int × Int)) (n : Nat) (row : RowT) (s : Stt) : Stt := ⟨leads row s.place s.spots s.kept, spotsBy (slipW ps n (wroteBy row s.spots s.cells)) s.spots, cellsBy (slipW ps n (wroteBy row s.spots s.cells)) s.cells, shutBy row s.shut, keptBy row s.kept⟩
end Tw

namespace Tw
open PySem PySem.Spec L2
structure LB (r : Bool) (C : LC) (g : LG) (lf : List Rng) (m : Rng) : Prop where
  nw : g.bellNow r C = some m.2
  mem : m ∈ lf
  lst : r = true → ∀ p ∈ lf, p.2 = m.2 → m.1 ≤ p.1
  hd : r = false → lf.head? = some m
end Tw

namespace Tw
open PySem PySem.Spec L2
def rowG (C : LC) (p : Nat) : RowT := C.rows.getD p .home
structure Beat16 (C : LC) (g g' : LG) (pre bel : List Evt) (ws : List (Nat × Wro)) : Prop where
  dia : g'.dia = g.dia ++ (pre ++ (bel ++ ws.map (finE g.beat)))
  pre : ∀ e ∈ pre, e.bt = g.beat ∧ isEnE e = false ∧ isBeE e = false
  bell : ∀ k, g.bellNow true C = some k → bel = [.bell g.beat k] ∧ ws = [] ∧ g'.s.shut = true ∧ g'.s.place = C.bells.getD k 0 ∧ g'.left = gone true g.left k
  none : g.bellNow true C = Option.none → bel = [] ∧ (∀ x ∈ ws, x.1 < C.rows.length) ∧ (∀ x, ws.head? = some x → x.1 = g.s.place) ∧ (ws = [] → g'.s.place = g.s.place) ∧ g'.s.shut = ws.foldl (fun b x => shutBy (rowG C x.1) b) g.s.shut ∧ g'.left = g.left
end Tw

namespace Tw
open PySem PySem.Spec L2
abbrev YS := Stt × List (Nat × Wrote)
def rowY (C : LC) (v : YS) : RowT := C.rows.getD v.1.place .home
def stepYX (C : LC) (ps : List (Int × Int)) (v : YS) : Option Nat → YS
  | some k => (bellS (C.bells.getD k 0) v.1, v.2)
  | none => (stepX ps v.2.length (rowY C v) v.1, v.2 ++ [(v.1.place, slipW ps v.2.length (wroteBy (rowY C v) v.1.spots v.1.cells))])
def OkE (C : LC) (ps : List (Int × Int)) : YS → List Evt → Prop
  | _, [] => True
  | v, .bell _ k :: es => v.1.shut = false ∧ OkE C ps (stepYX C ps v (some k)) es
  | v, .fin _ p _ :: es => p = v.1.place ∧ (∃ row, C.rows[p]? = some row) ∧ OkE C ps (stepYX C ps v none) es
  | v, .late _ _ _ :: es => OkE C ps v es
  | v, .down _ _ _ _ :: es => OkE C ps v es
def OkYX (C : LC) (ps : List (Int × Int)) : YS → List (Option Nat) → Prop
  | _, [] => True
  | v, some k :: ys => v.1.shut = false ∧ OkYX C ps (stepYX C ps v (some k)) ys
  | v, none :: ys => OkYX C ps (stepYX C ps v none) ys
structure GoX (C : LC) (p q : List (Int × Int)) (va vb : YS) (l l' : Ld) (es : List Evt) (Y : List (Option Nat)) : Prop where
  ok : OkE C p va es
  ld : runE (ldS C) es l = some l'
  lf : l.left = likeY l.ends Y
  sh : l.shut = va.1.shut
  oy : OkYX C q vb Y
structure DifS (d : Nat) (a b : Stt) : Prop where
  pl : a.place = b.place
  sh : a.shut = b.shut
  kp : a.kept = b.kept
  ce : a.cells = b.cells
  sp : ∀ i, i ≠ d → a.spots[i]? = b.spots[i]?
end Tw

namespace Tw
open PySem PySem.Spec L2
def nones : List (Option Nat) → Nat
  | [] => 0
  | none :: ys => nones ys + 1
  | some _ :: ys => nones ys
def ApartW (x y : Nat × Wro) : Prop := x.1 = y.1 ∧ ∃ a b : Int, a ≠ b ∧ ((∃ d, x.2 = .spot d (some a) ∧ y.2 = .spot d (some b)) ∨ ∃ c, x.2 = .cell c a ∧ y.2 = .cell c b)
structure Along (X Y : List (Option Nat)) (r1 r3 : List (Nat × Wro)) : Prop where
  pre : ∃ P X1 Y1, X = P ++ X1 ∧ Y = P ++ Y1 ∧ (X1 = [] ∨ Y1 = [])
  row : ∀ (i : Nat) (x y : Nat × Wro), r1[i]? = some x → r3[i]? = some y → AlikeR x y
structure PartN (n : Nat) (X Y : List (Option Nat)) (r1 r3 : List (Nat × Wro)) : Prop where
  pre : ∃ P X1 Y1, X = P ++ none :: X1 ∧ Y = P ++ none :: Y1 ∧ nones P = n
  row : ∀ (i : Nat) (x y : Nat × Wro), i < n → r1[i]? = some x → r3[i]? = some y → AlikeR x y
  at_ : ∃ x y, r1[n]? = some x ∧ r3[n]? = some y ∧ ApartW x y
end Tw


namespace Tw
open PySem PySem.Spec L2
structure Quiet0 (C : LC) (g : LG) : Prop where
  pl : g.s.place = C.rows.length
  ow : g.owed = []
  la : g.laid = []
end Tw

namespace Tw
open PySem PySem.Spec L2
structure PlI (K : RC) (v : YS) (n : Nat) (past : List (Int × Int)) (z : Sd) : Prop where
  s : z.s = v.1
  ow : z.owed = []
  la : z.laid = []
  en : z.ends = n
  lt : z.last ≤ (n : Int)
  cr : z.last = (n : Int) → z.crowd = 0
  tk : z.took = past.map (·.2)
  pa : ∀ p ∈ past, p.1 ≤ (n : Int)
end Tw


namespace Tw
open PySem PySem.Spec L2
structure Srt (g : LG) : Prop where
  pw : g.owed.Pairwise fun a b => a.n < b.n
  lt : ∀ o ∈ g.owed, o.n < g.ends
abbrev Ow4 := Nat × Nat × Nat × Int
structure Bk4 where
  spots : List Int
  cells : List Int
  owed : List Ow4
  ends : Nat
def ow4 (o : Ow) : Ow4 := (o.n, o.due, o.d, o.x)
structure Kept4 (t : Nat) (C : LC) (g : LG) (b : Bk4) : Prop where
  sp : b.spots = g.s.spots
  ce : b.cells = seenC g.laid g.s.cells
  ow : b.owed = g.owed.map ow4
  nd : g.owed.Pairwise fun o p => o.n ≠ p.n
  lt : ∀ o ∈ g.owed, o.n < g.ends
  en : b.ends = g.ends
  du : ∀ o ∈ g.owed, t ≤ o.due
end Tw

namespace Tw
open PySem PySem.Spec L2 SX
theorem joinL_len (a : List Nat) (L : Nat) : ∀ ps : List (List Nat), (∀ p ∈ ps, p.length ≤ L) → (TL.joinL a ps).length ≤ ps.length * (L + a.length)
  | [], _ => Nat.zero_le _
  | [p], h => by
    have := h p List.mem_cons_self
    show p.length ≤ 1 * (L + a.length)
    omega
  | p :: q :: r, h => by
    have h1 := h p List.mem_cons_self
    have ih := joinL_len a L (q :: r) fun x hx => h x (List.mem_cons_of_mem _ hx)
    have e0 : TL.joinL a (p :: q :: r) = p ++ (a ++ TL.joinL a (q :: r)) := by first | rfl | (rw [← List.append_assoc]; rfl)
    rw [e0, List.length_append, List.length_append]
    rw [List.length_cons] at ih
    have e : (p :: q :: r).length * (L + a.length) = (r.length + 1) * (L + a.length) + (L + a.length) := Nat.succ_mul _ _
    omega
theorem sum_len (L : Nat) : ∀ ps : List (List Nat), (∀ p ∈ ps, p.length ≤ L) → (ps.map (·.length)).sum ≤ ps.length * L
  | [], _ => Nat.zero_le _
  | p :: ps, h => by
    have h1 := h p List.mem_cons_self
    have ih := sum_len L ps fun x hx => h x (List.mem_cons_of_mem _ hx)
    rw [List.map_cons, List.sum_cons, List.length_cons, Nat.succ_mul]
    omega
theorem join_ok (a : List Nat) (L : Nat) (ps : List (List Nat)) (h : ∀ p ∈ ps, p.length ≤ L) (hl : ps.length * (L + a.length) ≤ 100000) : gJoin (.str (S a)) (.list (ps.map fun p => .str (S p))) = some (.str (S (TL.joinL a ps))) := by
  have e : (ps.map fun p => PyData.str (S p)) = (ps.map S).map .str := by rw [List.map_map]; rfl
  rw [e]
  show ((strsOf ((ps.map S).map .str)).bind fun ys => if (ys.map (·.length)).sum + ys.length * (S a).length ≤ 16777216 then some (PyData.str (Txt.join (S a) ys)) else none) = _
  rw [strsOf_map, Option.bind_some, lens, S_len, List.length_map, if_pos, join_S]
  have := sum_len L ps h
  rw [Nat.mul_add] at hl
  omega
theorem joinL_mem (a : List Nat) (c : Nat) : ∀ ps : List (List Nat), c ∈ TL.joinL a ps → c ∈ a ∨ ∃ p ∈ ps, c ∈ p
  | [], h => nomatch h
  | [p], h => .inr ⟨p, List.mem_cons_self, h⟩
  | p :: q :: r, h => by
    have e0 : TL.joinL a (p :: q :: r) = p ++ (a ++ TL.joinL a (q :: r)) := by first | rfl | (rw [← List.append_assoc]; rfl)
    rw [e0] at h
    rcases List.mem_append.mp h with z | z
    · exact .inr ⟨p, List.mem_cons_self, z⟩
    · rcases List.mem_append.mp z with z | z
      · exact .inl z
      · rcases joinL_mem a c (q :: r) z with z | ⟨x, hx, z⟩
        · exact .inl z
        · exact .inr ⟨x, List.mem_cons_of_mem _ hx, z⟩
theorem num_len {k : Nat} (h : k < 10 ^ 10) : (TL.numL k).length ≤ 10 := TL.numL_len (by decide) h
theorem str_num {k : Nat} (h : k < 10 ^ 10) : gStrI [.int (k : Nat)] = some (.str (S (TL.numL k))) := by
  show (if (((k : Nat) : Int)).natAbs.log2 < 1920 then some (PyData.str (Str.ofString (toString ((k : Nat) : Int)))) else none) = _
  have hl : (((k : Nat) : Int)).natAbs.log2 < 1920 := by
    rw [Int.natAbs_natCast]
    by_cases h0 : k = 0
    · subst h0; decide
    · rw [Nat.log2_lt h0]
      exact Nat.lt_of_lt_of_le h (by decide)
  rw [if_pos hl, num_S]
theorem numL_dig {k c : Nat} (h : c ∈ TL.numL k) : 48 ≤ c ∧ c ≤ 57 := by
  by_cases h1 : c < 48
  · exact absurd h (TL.numL_free (.inl h1))
  · by_cases h2 : 57 < c
    · exact absurd h (TL.numL_free (.inr h2))
    · omega
theorem numL_head : ∀ n : Nat, 1 ≤ n → ∃ c r, TL.numL n = c :: r ∧ c ≠ 48 := by
  intro n
  induction n using Nat.strongRecOn with
  | _ n ih =>
    intro h
    by_cases hn : n < 10
    · exact ⟨48 + n, [], TL.numL_lt hn, by omega⟩
    · obtain ⟨c, r, e, hc⟩ := ih (n / 10) (by omega) (by omega)
      exact ⟨c, r ++ [48 + n % 10], by rw [TL.numL_step (by omega), e]; rfl, hc⟩
theorem int_num {k : Nat} (h : k < 10 ^ 10) : gIntT [.str (S (TL.numL k))] = some (.int (k : Nat)) := by
  have hl := num_len h
  show (if (S (TL.numL k)).length ≤ 640 then (PySem.intText? (S (TL.numL k))).map PyData.int else none) = _
  rw [if_pos (by rw [S_len]; omega), ← num_S, TL.int_num (by omega)]
  rfl
theorem pre_bar {l : List Nat} (h : 124 ∉ l) : TL.pre [32, 124, 32] l = false := by
  cases hp : TL.pre [32, 124, 32] l with
  | false => rfl
  | true =>
    have e : l.take 3 = [32, 124, 32] := eq_of_beq hp
    have : 124 ∈ l.take 3 := by rw [e]; simp
    exact absurd (List.mem_of_mem_take this) h
theorem free_bar : ∀ {p : List Nat}, 124 ∉ p → SX.free [32, 124, 32] p = true
  | [], _ => rfl
  | c :: r, h => by
    show (!(TL.pre [32, 124, 32] (c :: (r ++ [32, 124, 32]))) && SX.free [32, 124, 32] r) = true
    rw [free_bar fun z => h (List.mem_cons_of_mem _ z), Bool.and_true, Bool.not_eq_true']
    cases hp : TL.pre [32, 124, 32] (c :: (r ++ [32, 124, 32])) with
    | false => rfl
    | true =>
      have e : (c :: (r ++ [32, 124, 32])).take 3 = [32, 124, 32] := eq_of_beq hp
      cases r with
      | nil => cases e
      | cons d r =>
        have : d = 124 := by
          rw [List.cons_append, List.take_succ_cons, List.take_succ_cons] at e
          injection e with e1 e2
          injection e2 with e3 e4
        exact absurd (by rw [this]; simp) h
theorem partS_bar {p : List Nat} (q : List Nat) (h : 124 ∉ p) (hl : p.length + q.length + 3 ≤ 100000) : gPart (.str (S (p ++ ([32, 124, 32] ++ q)))) (.str (S [32, 124, 32])) = some (.tuple [.str (S p), .str (S [32, 124, 32]), .str (S q)]) := by
  show (if ((S [32, 124, 32]).length == 0) = false ∧ (S (p ++ ([32, 124, 32] ++ q))).length ≤ sizeLine then _ else _) = _
  rw [if_pos ⟨rfl, by rw [S_len, sizeLine_eq]; simp; omega⟩, SX.partition_some (by decide) (SX.par_free q (by decide) (free_bar h))]
theorem partS_none {p : List Nat} (h : 124 ∉ p) (hl : p.length ≤ 100000) : gPart (.str (S p)) (.str (S [32, 124, 32])) = some (.tuple [.str (S p), .str (S []), .str (S [])]) := by
  show (if ((S [32, 124, 32]).length == 0) = false ∧ (S p).length ≤ sizeLine then _ else _) = _
  have hn : TL.par [32, 124, 32] [] p = none := TL.par_none fun i hi => pre_bar fun z => h (List.mem_of_mem_drop z)
  rw [if_pos ⟨rfl, by rw [S_len, sizeLine_eq]; omega⟩, SX.partition_none (by decide) hn]
theorem split_ok {c : Nat} {sep : List Nat} (hk : (c :: sep).all (· < 256) = true) {ps : List (List Nat)} (hne : ps ≠ []) (h : ∀ p ∈ ps, c ∉ p) (hl : (TL.joinL (c :: sep) ps).length ≤ 100000) :
    gSplit (.str (S (TL.joinL (c :: sep) ps))) (.str (S (c :: sep))) = some (.list (ps.map fun p => .str (S p))) := by
  show (if ((S (c :: sep)).length == 0) = false ∧ (S (TL.joinL (c :: sep) ps)).length + 2 ≤ sizeLine then _ else _) = _
  have h0 : ((S (c :: sep)).length == 0) = false := by rw [S_len]; rfl
  rw [if_pos ⟨h0, by rw [S_len, sizeLine_eq]; omega⟩, split_S (List.cons_ne_nil _ _) hk, SX.spl_join hne h, List.map_map]
  rfl
theorem fig_in {c : Nat} (h : 48 ≤ c ∧ c ≤ 57) : gNotIn (.str (S [c])) (.str "0123456789") = some (.bool false) := by
  have : c = 48 ∨ c = 49 ∨ c = 50 ∨ c = 51 ∨ c = 52 ∨ c = 53 ∨ c = 54 ∨ c = 55 ∨ c = 56 ∨ c = 57 := by omega
  rcases this with rfl | rfl | rfl | rfl | rfl | rfl | rfl | rfl | rfl | rfl <;> kernel_rfl
end Tw

set_option maxHeartbeats 0
namespace Tw
open PySem PySem.Spec L2
theorem lb0 {α β : Type} {a : α} {f : α → β} : Option.map f (some a) = some (f a) := (id rfl)
theorem lb1 {α : Type} {a : α} {l : List α} {i : Nat} : (a :: l)[i + 1]? = l[i]? := List.getElem?_cons_succ
theorem lb2 {α : Type} {a : α} {l : List α} : (a :: l)[0]? = some a := List.getElem?_cons_zero
theorem lb3 {α : Type} {x a : α} {xs : List α} {i : Nat} : (x :: xs).set (i + 1) a = x :: xs.set i a := List.set_cons_succ
theorem lb4 {α : Type} {x a : α} {xs : List α} : (x :: xs).set 0 a = a :: xs := List.set_cons_zero
def EAll := And.intro (And.intro (And.intro (And.intro (And.intro (@e_sNil) (And.intro (@e_sSeq) (@e_sRet))) (And.intro (And.intro (@e_sIf) (@e_sDrop)) (And.intro (@e_mF) (@e_mD)))) (And.intro (And.intro (@e_mBin) (And.intro (@e_mUn) (@e_mVar))) (And.intro (And.intro (@e_mC) (@e_mTru)) (And.intro (@e_mBl) (@e_mAnd))))) (And.intro (And.intro (And.intro (@e_mOr) (And.intro (@e_mNot) (@e_mAndV))) (And.intro (And.intro (@e_mOrV) (@e_mNotV)) (And.intro (@e_mNo) (@e_mSo)))) (And.intro (And.intro (@e_mSl) (And.intro (@e_aNil) (@e_aCons))) (And.intro (And.intro (@e_mCall) (@e_aLst)) (And.intro (@e_aTup) (@e_mNil)))))) (And.intro (And.intro (And.intro (And.intro (@e_mCons) (And.intro (@e_mLst) (@e_mTup))) (And.intro (And.intro (@e_gSet) (@e_gsNil)) (And.intro (@e_gsCons) (@e_gTupM)))) (And.intro (And.intro (@e_sAsg) (And.intro (@e_iD) (@e_iScr))) (And.intro (And.intro (@e_iRg) (@e_rNil)) (And.intro (@e_rVal) (@e_rSlot))))) (And.intro (And.intro (And.intro (@e_mCall0) (And.intro (@e_mCallW) (@e_mpVar))) (And.intro (And.intro (@e_gSubP) (@e_mApp)) (And.intro (@e_mPopAt) (@e_mMove)))) (And.intro (And.intro (And.intro (@e_mName) (@e_mScrSl)) (And.intro (@e_tYesM) (@e_gSetC))) (And.intro (And.intro (@e_sRaise) (@e_sPre)) (And.intro (@e_sPost) (@e_mpIt))))))
def NAll := And.intro (And.intro (And.intro (And.intro (And.intro (@e_sNil) (And.intro (@e_sSeq) (@e_sRet))) (And.intro (@e_sIf) (And.intro (@e_sDrop) (@e_mF)))) (And.intro (And.intro (@e_mD) (And.intro (@e_mBin) (@e_mUn))) (And.intro (And.intro (@e_mVar) (@e_mC)) (And.intro (@e_mTru) (@e_mBl))))) (And.intro (And.intro (And.intro (@e_mAnd) (And.intro (@e_mOr) (@e_mNot))) (And.intro (And.intro (@e_mAndV) (@e_mOrV)) (And.intro (@e_mNotV) (@e_mNo)))) (And.intro (And.intro (@e_mSo) (And.intro (@e_mSl) (@e_aNil))) (And.intro (And.intro (@e_aCons) (@e_mCall)) (And.intro (@e_aLst) (@e_aTup)))))) (And.intro (And.intro (And.intro (And.intro (@e_mNil) (And.intro (@e_mCons) (@e_mLst))) (And.intro (And.intro (@e_mTup) (@e_gSet)) (And.intro (@e_gsNil) (@e_gsCons)))) (And.intro (And.intro (@e_gTupM) (And.intro (@e_sAsg) (@e_iD))) (And.intro (And.intro (@e_iScr) (@e_iRg)) (And.intro (@e_rNil) (@e_rVal))))) (And.intro (And.intro (And.intro (@e_rSlot) (And.intro (@e_mCall0) (@e_mCallW))) (And.intro (And.intro (@e_mApp) (@e_mPopAt)) (And.intro (@e_mMove) (@e_mName)))) (And.intro (And.intro (@e_mScrSl) (And.intro (@e_tYesM) (@e_gSetC))) (And.intro (And.intro (@e_sRaise) (@e_sPre)) (And.intro (@e_sPost) (@e_mpIt))))))
def BAll := And.intro (And.intro (And.intro (And.intro (And.intro (@nonOwn_fz) (@nonOwn_scr)) (And.intro (@nonOwn_lst) (And.intro (@nonOwn_tup) (@nonOwn_dead)))) (And.intro (And.intro (@isDead_fz) (@isDead_scr)) (And.intro (@isDead_lst) (And.intro (@isDead_tup) (@isDead_dead))))) (And.intro (And.intro (And.intro (@isDead_dct) (@isDead_ins)) (And.intro (@isDead_tds) (And.intro (@nonOwn_tds) (@gIxT)))) (And.intro (And.intro (@gIxL) (And.intro (@truB) (@truI))) (And.intro (@truN) (And.intro (@truL) (@truT)))))) (And.intro (And.intro (And.intro (And.intro (@gAddI) (@gAddS)) (And.intro (@gAddL) (And.intro (@gAddT) (@gEq_int)))) (And.intro (And.intro (@gNe_int) (@gIs_n)) (And.intro (@gIsNot_n) (And.intro (@isN_n) (@isN_b))))) (And.intro (And.intro (And.intro (@isN_i) (@isN_s)) (And.intro (@isN_l) (And.intro (@isN_t) (@sqOfL)))) (And.intro (And.intro (@sqOfT) (And.intro (@lb0) (@lb1))) (And.intro (@lb2) (And.intro (@lb3) (@lb4))))))
def CAll := And.intro (And.intro (And.intro (And.intro (And.intro (@nonOwn_fz) (@nonOwn_scr)) (And.intro (@nonOwn_lst) (And.intro (@nonOwn_tup) (@nonOwn_dead)))) (And.intro (And.intro (@isDead_fz) (@isDead_scr)) (And.intro (@isDead_lst) (And.intro (@isDead_tup) (@isDead_dead))))) (And.intro (And.intro (And.intro (@isDead_dct) (@isDead_ins)) (And.intro (@isDead_tds) (And.intro (@nonOwn_tds) (@truB)))) (And.intro (And.intro (@truI) (@truN)) (And.intro (@truL) (And.intro (@truT) (@gAddI)))))) (And.intro (And.intro (And.intro (And.intro (@gAddS) (@gAddL)) (And.intro (@gAddT) (And.intro (@gEq_int) (@gNe_int)))) (And.intro (And.intro (@gIs_n) (@gIsNot_n)) (And.intro (@isN_n) (And.intro (@isN_b) (@isN_i))))) (And.intro (And.intro (And.intro (@isN_s) (@isN_l)) (And.intro (@isN_t) (And.intro (@sqOfL) (@sqOfT)))) (And.intro (And.intro (@lb0) (@lb1)) (And.intro (@lb2) (And.intro (@lb3) (@lb4))))))
end Tw
namespace Lwk04
open PySem PySem.Spec L2 Tw
structure Txt (K : Fr) (mg : Str → Option Value) : Prop where
  bool_ : mg "bool" = none
  int_ : mg "int" = none
  isinstance : mg "isinstance" = none
  len : mg "len" = none
  list_ : mg "list" = none
  max : mg "max" = none
  range : mg "range" = none
  str_ : mg "str" = none
  tuple_ : mg "tuple" = none
  zip : mg "zip" = none
  CELLS : ∃ t, mg "CELLS" = some (.int 16 t)
  MOST_BELLS : ∃ t, mg "MOST_BELLS" = some (.int 4 t)
  MOST_FIGURES : ∃ t, mg "MOST_FIGURES" = some (.int 10 t)
  MOST_ROWS : ∃ t, mg "MOST_ROWS" = some (.int 40 t)
  SPOTS : ∃ t, mg "SPOTS" = some (.int 8 t)
  WORTHS : ∃ t, mg "WORTHS" = some (.int 4294967296 t)
  FIGURES : GlD K mg "FIGURES" (.str "0123456789")
  kinN : KinN K cs
  kin : Kin K mg cs subM
  err : ∀ x ∈ cs, ErrC K mg x (He.ga K (Str.ofString x))
theorem sc_limits_of : FnScope ["word", "many"] ["word", "many"] (defScope s_limits_of) := ⟨rfl, rfl, rfl, by decide +kernel, rfl, by decide +kernel, by decide +kernel⟩
def m_limits_of : List M → Out M := runF [] 0 ((sSeq (sIf (mBl (mBin gEq (mVar 0) (mC (.str "put")))) (sRet (mF (aLst (aCons (mC (.int 8)) (aCons (mC (.int 4294967296)) aNil))))) sNil)
    (sSeq (sIf (mOr (mBl (mBin gEq (mVar 0) (mC (.str "sum")))) (mOr (mBl (mBin gEq (mVar 0) (mC (.str "mul")))) (mBl (mBin gEq (mVar 0) (mC (.str "less")))))) (sRet (mF (aLst (aCons (mC (.int 8)) (aCons (mC (.int 8)) (aCons (mC (.int 8)) aNil)))))) sNil)
    (sSeq (sIf (mOr (mBl (mBin gEq (mVar 0) (mC (.str "take")))) (mBl (mBin gEq (mVar 0) (mC (.str "lay"))))) (sRet (mF (aLst (aCons (mC (.int 8)) (aCons (mC (.int 8)) (aCons (mC (.int 16)) aNil)))))) sNil)
    (sSeq (sIf (mBl (mBin gEq (mVar 0) (mC (.str "go")))) (sRet (mF (aLst (aCons (mC (.int 8)) (aCons (mBin gAdd (mVar 1) (mC (.int 1))) aNil))))) sNil)
    (sSeq (sIf (mOr (mBl (mBin gEq (mVar 0) (mC (.str "shut")))) (mOr (mBl (mBin gEq (mVar 0) (mC (.str "open")))) (mBl (mBin gEq (mVar 0) (mC (.str "home")))))) (sRet (mF (aLst aNil))) sNil)
    (sRet (mF (mC .none)))))))))
theorem ok_limits_of {P : Program} {w : World} {K : Fr} {mg : Str → Option Value} {base : Heap} {fa : Addr} {fd : FuncData} (T : Txt K mg) (F : Df K mg "limits_of" (defArgs s_limits_of) (defBody s_limits_of) (defScope s_limits_of) ["word", "many"] fa fd)  : Cal P w K mg base "limits_of" 1 ["word", "many"] m_limits_of :=
  cal_mk (k := 0) F sc_limits_of [] (by decide) fun cdv A outer s H E f =>
    (jb_cons (js_if (jt_cmp (od_eq f.hu) (jd_var 0) jd_str) (jb_one (js_ret (JD.j (jd_lst (jds_cons (jd_glI T.SPOTS) (jds_cons (jd_glI T.WORTHS) jds_nil)))))) jb_nil)
    (jb_cons (js_if (JW.t (jw_or (jt_cmp (od_eq f.hu) (jd_var 0) jd_str) (jw_or (jt_cmp (od_eq f.hu) (jd_var 0) jd_str) (jw_or1 (jt_cmp (od_eq f.hu) (jd_var 0) jd_str))))) (jb_one (js_ret (JD.j (jd_lst (jds_cons (jd_glI T.SPOTS) (jds_cons (jd_glI T.SPOTS) (jds_cons (jd_glI T.SPOTS) jds_nil))))))) jb_nil)
    (jb_cons (js_if (JW.t (jw_or (jt_cmp (od_eq f.hu) (jd_var 0) jd_str) (jw_or1 (jt_cmp (od_eq f.hu) (jd_var 0) jd_str)))) (jb_one (js_ret (JD.j (jd_lst (jds_cons (jd_glI T.SPOTS) (jds_cons (jd_glI T.SPOTS) (jds_cons (jd_glI T.CELLS) jds_nil))))))) jb_nil)
    (jb_cons (js_if (jt_cmp (od_eq f.hu) (jd_var 0) jd_str) (jb_one (js_ret (JD.j (jd_lst (jds_cons (jd_glI T.SPOTS) (jds_cons (jd_bin od_add (jd_var 1) jd_int) jds_nil)))))) jb_nil)
    (jb_cons (js_if (JW.t (jw_or (jt_cmp (od_eq f.hu) (jd_var 0) jd_str) (jw_or (jt_cmp (od_eq f.hu) (jd_var 0) jd_str) (jw_or1 (jt_cmp (od_eq f.hu) (jd_var 0) jd_str))))) (jb_one (js_ret (JD.j (jd_lst jds_nil)))) jb_nil)
    (jb_one (js_ret (JD.j jd_non))))))))
theorem sc_is_row : FnScope ["row", "many", "limits", "number", "limit"] ["row", "many"] (defScope s_is_row) := ⟨rfl, rfl, rfl, by decide +kernel, rfl, by decide +kernel, by decide +kernel⟩
abbrev S_is_row_1 (row : D) (limits : D) : Γ := [.fz row, .dead, .fz limits, .dead, .dead]
def bd_is_row_1 : MS := (sPost [3, 4] [] (sIf (mOr (mBl (mBin gLt (mVar 3) (mC (.int 0)))) (mBl (mBin gGe (mVar 3) (mVar 4)))) (sRet (mF (mC (.bool false)))) sNil))
def lp_is_row_1 : MS := (sPost [0, 2] [] (sPre [1] [] (sFor (gTupM 2 (gsCons (gSet 3) (gsCons (gSet 4) gsNil))) (iRg zip2 (aCons (mSl (mVar 0) (mSo (mC (.int 1))) mNo) (aCons (mVar 2) aNil))) bd_is_row_1)))
def m_is_row : List M → Out M := runF [] 3 ((sSeq (sAsg (gSet 2) (mF (mD (mCall0 m_limits_of (mCons (mF (mBin gIx (mVar 0) (mC (.int 0)))) (mCons (mF (mVar 1)) mNil))))))
    (sSeq (sIf (mOr (mBl (mBin gIs (mVar 2) (mC .none))) (mBl (mBin gNe (mCall gLen (aCons (mVar 0) aNil)) (mBin gAdd (mCall gLen (aCons (mVar 2) aNil)) (mC (.int 1)))))) (sRet (mF (mC (.bool false)))) sNil)
    (sSeq lp_is_row_1
    (sRet (mF (mC (.bool true))))))))
theorem ok_is_row {P : Program} {w : World} {K : Fr} {mg : Str → Option Value} {base : Heap} {fa : Addr} {fd : FuncData} (T : Txt K mg) (F : Df K mg "is_row" (defArgs s_is_row) (defBody s_is_row) (defScope s_is_row) ["row", "many"] fa fd) (C_limits_of : Cal P w K mg base "limits_of" 1 ["word", "many"] m_limits_of) : Cal P w K mg base "is_row" 2 ["row", "many"] m_is_row :=
  cal_mk (k := 1) F sc_is_row [] (by decide) fun cdv A outer s H E f =>
    (jb_cons (js_asg (JD.j (J.d (j_f0 C_limits_of f.rm f.tk (ja_cons (JD.j (jd_ix (jd_var 0) jd_int)) (ja_cons (JD.j (jd_var 1)) ja_nil)) (lenA_cons (lenA_cons lenA_nil))))) (jg_name 2 f.nd))
    (jb_cons (js_if (JW.t (jw_or (jt_cmp od_is (jd_var 2) jd_non) (jw_or1 (jt_cmp (od_ne f.hu) (jd_callB cd_len rfl T.len bt_len (jds_cons (jd_var 0) jds_nil)) (jd_bin od_add (jd_callB cd_len rfl T.len bt_len (jds_cons (jd_var 2) jds_nil)) jd_int))))) (jb_one (js_ret (JD.j jd_bl))) jb_nil)
    (jb_cons (js_post [0, 2] [] (js_pre [1] [] (js_for f.po f.calm (ji_zip rfl T.zip (jds_cons (jd_slice (jd_var 0) (jo_some jd_int) jo_none) (jds_cons (jd_var 2) jds_nil))) (jg_tup f.calm (jgs_cons (jg_name 3 f.nd) (jgs_cons (jg_name 4 f.nd) jgs_nil))) (jb_post [3, 4] [] (jb_one (js_if (JW.t (jw_or (jt_cmp od_lt (jd_var 3) jd_int) (jw_or1 (jt_cmp od_ge (jd_var 3) (jd_var 4))))) (jb_one (js_ret (JD.j jd_bl))) jb_nil))))))
    (jb_one (js_ret (JD.j jd_bl))))))
theorem sc_mill_of : FnScope ["rows", "bells", "many", "row", "place"] ["rows", "bells"] (defScope s_mill_of) := ⟨rfl, rfl, rfl, by decide +kernel, rfl, by decide +kernel, by decide +kernel⟩
abbrev S_mill_of_1 (rows : D) (bells : D) (many : D) : Γ := [.fz rows, .fz bells, .fz many, .dead, .dead]
def bd_mill_of_1 : MS := (sPost [3] [] (sIf (mNot (mTru (mD (mCall0 m_is_row (mCons (mF (mVar 3)) (mCons (mF (mVar 2)) mNil)))))) (sRaise "NoMill") sNil))
def lp_mill_of_1 : MS := (sFor (gSet 3) (iD (mVar 0)) bd_mill_of_1)
abbrev S_mill_of_2 (rows : D) (bells : D) (many : D) : Γ := [.fz rows, .fz bells, .fz many, .dead, .dead]
def bd_mill_of_2 : MS := (sPost [4] [] (sIf (mOr (mBl (mBin gLt (mVar 4) (mC (.int 0)))) (mBl (mBin gGt (mVar 4) (mVar 2)))) (sRaise "NoMill") sNil))
def lp_mill_of_2 : MS := (sPost [2] [] (sFor (gSet 4) (iD (mVar 1)) bd_mill_of_2))
def m_mill_of : List M → Out M := runF [] 3 ((sSeq (sAsg (gSet 2) (mF (mCall gLen (aCons (mVar 0) aNil))))
    (sSeq (sIf (mOr (mBl (mBin gLt (mVar 2) (mC (.int 1)))) (mBl (mBin gGt (mVar 2) (mC (.int 40))))) (sRaise "NoMill") sNil)
    (sSeq (sIf (mBl (mBin gGt (mCall gLen (aCons (mVar 1) aNil)) (mC (.int 4)))) (sRaise "NoMill") sNil)
    (sSeq lp_mill_of_1
    (sSeq lp_mill_of_2
    (sRet (mF (aTup (aCons (mCall gTup (aCons (mVar 0) aNil)) (aCons (mCall gTup (aCons (mVar 1) aNil)) aNil)))))))))))
theorem ok_mill_of {P : Program} {w : World} {K : Fr} {mg : Str → Option Value} {base : Heap} {fa : Addr} {fd : FuncData} (T : Txt K mg) (F : Df K mg "mill_of" (defArgs s_mill_of) (defBody s_mill_of) (defScope s_mill_of) ["rows", "bells"] fa fd) (C_is_row : Cal P w K mg base "is_row" 2 ["row", "many"] m_is_row) : Cal P w K mg base "mill_of" 3 ["rows", "bells"] m_mill_of :=
  cal_mk (k := 2) F sc_mill_of [] (by decide) fun cdv A outer s H E f =>
    (jb_cons (js_asg (JD.j (jd_callB cd_len rfl T.len bt_len (jds_cons (jd_var 0) jds_nil))) (jg_name 2 f.nd))
    (jb_cons (js_if (JW.t (jw_or (jt_cmp od_lt (jd_var 2) jd_int) (jw_or1 (jt_cmp od_gt (jd_var 2) (jd_glI T.MOST_ROWS))))) (jb_one (js_raise f "NoMill" (T.err "NoMill" (by decide)))) jb_nil)
    (jb_cons (js_if (jt_cmp od_gt (jd_callB cd_len rfl T.len bt_len (jds_cons (jd_var 1) jds_nil)) (jd_glI T.MOST_BELLS)) (jb_one (js_raise f "NoMill" (T.err "NoMill" (by decide)))) jb_nil)
    (jb_cons (js_for f.po f.calm (ji_seq (jd_var 0)) (jg_name 3 f.nd) (jb_post [3] [] (jb_one (js_if (jt_not (jt_truth (J.d (j_f0 C_is_row f.rm f.tk (ja_cons (JD.j (jd_var 3)) (ja_cons (JD.j (jd_var 2)) ja_nil)) (lenA_cons (lenA_cons lenA_nil)))))) (jb_one (js_raise f "NoMill" (T.err "NoMill" (by decide)))) jb_nil))))
    (jb_cons (js_post [2] [] (js_for f.po f.calm (ji_seq (jd_var 1)) (jg_name 4 f.nd) (jb_post [4] [] (jb_one (js_if (JW.t (jw_or (jt_cmp od_lt (jd_var 4) jd_int) (jw_or1 (jt_cmp od_gt (jd_var 4) (jd_var 2))))) (jb_one (js_raise f "NoMill" (T.err "NoMill" (by decide)))) jb_nil)))))
    (jb_one (js_ret (JD.j (jd_tup (jds_cons (jd_callTy cd_tup rfl T.tuple_ bt_tuple (jds_cons (jd_var 0) jds_nil)) (jds_cons (jd_callTy cd_tup rfl T.tuple_ bt_tuple (jds_cons (jd_var 1) jds_nil)) jds_nil)))))))))))
theorem sc_show_row : FnScope ["row", "number"] ["row"] (defScope s_show_row) := ⟨rfl, rfl, rfl, by decide +kernel, rfl, by decide +kernel, by decide +kernel⟩
def lc_show_row_1 : ME := (mLc [1] (gSetC 1) (iD (mSl (mVar 0) (mSo (mC (.int 1))) mNo)) tYesM (mF (mCall gStrI (aCons (mVar 1) aNil))))
def m_show_row : List M → Out M := runF [] 1 ((sRet (mF (mM1 gJoin (mC (.str " ")) (mBin gAdd (aLst (aCons (mBin gIx (mVar 0) (mC (.int 0))) aNil)) (mD lc_show_row_1))))))
theorem ok_show_row {P : Program} {w : World} {K : Fr} {mg : Str → Option Value} {base : Heap} {fa : Addr} {fd : FuncData} (T : Txt K mg) (F : Df K mg "show_row" (defArgs s_show_row) (defBody s_show_row) (defScope s_show_row) ["row"] fa fd)  : Cal P w K mg base "show_row" 1 ["row"] m_show_row :=
  cal_mk (k := 0) F sc_show_row [] (by decide) fun cdv A outer s H E f =>
    (jb_one (js_ret (JD.j (jd_join jd_str (jd_bin od_add (jd_lst (jds_cons (jd_ix (jd_var 0) jd_int) jds_nil)) (J.d (j_lc (pos := _) f [("number", 1)] (ji_seq (jd_slice (jd_var 0) (jo_some jd_int) jo_none)) (fun s0 H0 C0 cl0 fp0 f => (jc_name 1 (hN := f.nd))) (fun s0 H0 C0 cl0 fp0 f => jts_nil) (fun s0 H0 C0 cl0 fp0 f => (JD.j (jd_callTy cd_strI rfl T.str_ bt_str (jds_cons (jd_var 1) jds_nil)))) (ok := by show blkC ["row", "number"] (defScope s_show_row) _ [("number", 1)] = true; decide +kernel))))))))
theorem sc_show_mill : FnScope ["mill", "rows", "bells", "text", "row", "place"] ["mill"] (defScope s_show_mill) := ⟨rfl, rfl, rfl, by decide +kernel, rfl, by decide +kernel, by decide +kernel⟩
def lc_show_mill_1 : ME := (mLc [4] (gSetC 4) (iD (mVar 1)) tYesM (mCall0 m_show_row (mCons (mF (mVar 4)) mNil)))
def lc_show_mill_2 : ME := (mLc [5] (gSetC 5) (iD (mVar 2)) tYesM (mF (mCall gStrI (aCons (mVar 5) aNil))))
def if_show_mill_1 : MS := (sIf (mBl (mBin gGt (mCall gLen (aCons (mVar 2) aNil)) (mC (.int 0)))) (sAsg (gSet 3) (mF (mBin gAdd (mBin gAdd (mVar 3) (mC (.str " | "))) (mM1 gJoin (mC (.str " ")) (mD lc_show_mill_2))))) sNil)
def m_show_mill : List M → Out M := runF [] 5 ((sSeq (sAsg (gTupM 2 (gsCons (gSet 1) (gsCons (gSet 2) gsNil))) (mF (mVar 0)))
    (sSeq (sAsg (gSet 3) (mF (mM1 gJoin (mC (.str "; ")) (mD lc_show_mill_1))))
    (sSeq if_show_mill_1
    (sRet (mF (mVar 3)))))))
theorem ok_show_mill {P : Program} {w : World} {K : Fr} {mg : Str → Option Value} {base : Heap} {fa : Addr} {fd : FuncData} (T : Txt K mg) (F : Df K mg "show_mill" (defArgs s_show_mill) (defBody s_show_mill) (defScope s_show_mill) ["mill"] fa fd) (C_show_row : Cal P w K mg base "show_row" 1 ["row"] m_show_row) : Cal P w K mg base "show_mill" 2 ["mill"] m_show_mill :=
  cal_mk (k := 1) F sc_show_mill [] (by decide) fun cdv A outer s H E f =>
    (jb_cons (js_asg (JD.j (jd_var 0)) (jg_tup f.calm (jgs_cons (jg_name 1 f.nd) (jgs_cons (jg_name 2 f.nd) jgs_nil))))
    (jb_cons (js_asg (JD.j (jd_join jd_str (J.d (j_lc (pos := _) f [("row", 4)] (ji_seq (jd_var 1)) (fun s0 H0 C0 cl0 fp0 f => (jc_name 4 (hN := f.nd))) (fun s0 H0 C0 cl0 fp0 f => jts_nil) (fun s0 H0 C0 cl0 fp0 f => (j_f0 C_show_row f.rm f.tk (ja_cons (JD.j (jd_var 4)) ja_nil) (lenA_cons lenA_nil))) (ok := by show blkC ["mill", "rows", "bells", "text", "row", "place"] (defScope s_show_mill) _ [("row", 4)] = true; decide +kernel))))) (jg_name 3 f.nd))
    (jb_cons (js_if (jt_cmp od_gt (jd_callB cd_len rfl T.len bt_len (jds_cons (jd_var 2) jds_nil)) jd_int) (jb_one (js_asg (JD.j (jd_bin od_add (jd_bin od_add (jd_var 3) jd_str) (jd_join jd_str (J.d (j_lc (pos := _) f [("place", 5)] (ji_seq (jd_var 2)) (fun s0 H0 C0 cl0 fp0 f => (jc_name 5 (hN := f.nd))) (fun s0 H0 C0 cl0 fp0 f => jts_nil) (fun s0 H0 C0 cl0 fp0 f => (JD.j (jd_callTy cd_strI rfl T.str_ bt_str (jds_cons (jd_var 5) jds_nil)))) (ok := by show blkC ["mill", "rows", "bells", "text", "row", "place"] (defScope s_show_mill) _ [("place", 5)] = true; decide +kernel)))))) (jg_name 3 f.nd))) jb_nil)
    (jb_one (js_ret (JD.j (jd_var 3)))))))
theorem sc_is_number : FnScope ["word", "sign"] ["word"] (defScope s_is_number) := ⟨rfl, rfl, rfl, by decide +kernel, rfl, by decide +kernel, by decide +kernel⟩
abbrev S_is_number_1 (word : D) : Γ := [.fz word, .dead]
def bd_is_number_1 : MS := (sPost [1] [] (sIf (mBl (mBin gNotIn (mVar 1) (mC (.str "0123456789")))) (sRet (mF (mC (.bool false)))) sNil))
def lp_is_number_1 : MS := (sFor (gSet 1) (iStrD (mVar 0)) bd_is_number_1)
def m_is_number : List M → Out M := runF [] 1 ((sSeq (sIf (mOr (mBl (mBin gEq (mVar 0) (mC (.str "")))) (mBl (mBin gGt (mCall gLen (aCons (mVar 0) aNil)) (mC (.int 10))))) (sRet (mF (mC (.bool false)))) sNil)
    (sSeq lp_is_number_1
    (sRet (mF (mOrV (mBin gEq (mCall gLen (aCons (mVar 0) aNil)) (mC (.int 1))) (mBin gNe (mBin gIx (mVar 0) (mC (.int 0))) (mC (.str "0")))))))))
theorem ok_is_number {P : Program} {w : World} {K : Fr} {mg : Str → Option Value} {base : Heap} {fa : Addr} {fd : FuncData} (T : Txt K mg) (F : Df K mg "is_number" (defArgs s_is_number) (defBody s_is_number) (defScope s_is_number) ["word"] fa fd)  : Cal P w K mg base "is_number" 1 ["word"] m_is_number :=
  cal_mk (k := 0) F sc_is_number [] (by decide) fun cdv A outer s H E f =>
    (jb_cons (js_if (JW.t (jw_or (jt_cmp (od_eq f.hu) (jd_var 0) jd_str) (jw_or1 (jt_cmp od_gt (jd_callB cd_len rfl T.len bt_len (jds_cons (jd_var 0) jds_nil)) (jd_glI T.MOST_FIGURES))))) (jb_one (js_ret (JD.j jd_bl))) jb_nil)
    (jb_cons (js_for f.po f.calm (ji_str (jd_var 0)) (jg_name 1 f.nd) (jb_post [1] [] (jb_one (js_if (jt_cmp (od_notin f.hu) (jd_var 1) (jd_glD T.FIGURES)) (jb_one (js_ret (JD.j jd_bl))) jb_nil))))
    (jb_one (js_ret (JD.j (jd_or (jd_cmp (od_eq f.hu) (jd_callB cd_len rfl T.len bt_len (jds_cons (jd_var 0) jds_nil)) jd_int) (jd_one (jd_cmp (od_ne f.hu) (jd_ix (jd_var 0) jd_int) jd_str))))))))
theorem sc_number_in : FnScope ["word"] ["word"] (defScope s_number_in) := ⟨rfl, rfl, rfl, by decide +kernel, rfl, by decide +kernel, by decide +kernel⟩
def m_number_in : List M → Out M := runF [] 0 ((sSeq (sIf (mNot (mTru (mD (mCall0 m_is_number (mCons (mF (mVar 0)) mNil))))) (sRaise "NoText") sNil)
    (sRet (mF (mCall gIntT (aCons (mVar 0) aNil))))))
theorem ok_number_in {P : Program} {w : World} {K : Fr} {mg : Str → Option Value} {base : Heap} {fa : Addr} {fd : FuncData} (T : Txt K mg) (F : Df K mg "number_in" (defArgs s_number_in) (defBody s_number_in) (defScope s_number_in) ["word"] fa fd) (C_is_number : Cal P w K mg base "is_number" 1 ["word"] m_is_number) : Cal P w K mg base "number_in" 2 ["word"] m_number_in :=
  cal_mk (k := 1) F sc_number_in [] (by decide) fun cdv A outer s H E f =>
    (jb_cons (js_if (jt_not (jt_truth (J.d (j_f0 C_is_number f.rm f.tk (ja_cons (JD.j (jd_var 0)) ja_nil) (lenA_cons lenA_nil))))) (jb_one (js_raise f "NoText" (T.err "NoText" (by decide)))) jb_nil)
    (jb_one (js_ret (JD.j (jd_callTy cd_intT rfl T.int_ bt_int (jds_cons (jd_var 0) jds_nil))))))
theorem sc_row_in : FnScope ["text", "words", "word"] ["text"] (defScope s_row_in) := ⟨rfl, rfl, rfl, by decide +kernel, rfl, by decide +kernel, by decide +kernel⟩
def lc_row_in_1 : ME := (mLc [2] (gSetC 2) (iD (mSl (mVar 1) (mSo (mC (.int 1))) mNo)) tYesM (mCall0 m_number_in (mCons (mF (mVar 2)) mNil)))
def m_row_in : List M → Out M := runF [] 2 ((sSeq (sAsg (gSet 1) (mF (mM1 gSplit (mVar 0) (mC (.str " ")))))
    (sRet (mF (mCall gTup (aCons (mBin gAdd (aLst (aCons (mBin gIx (mVar 1) (mC (.int 0))) aNil)) (mD lc_row_in_1)) aNil))))))
theorem ok_row_in {P : Program} {w : World} {K : Fr} {mg : Str → Option Value} {base : Heap} {fa : Addr} {fd : FuncData} (T : Txt K mg) (F : Df K mg "row_in" (defArgs s_row_in) (defBody s_row_in) (defScope s_row_in) ["text"] fa fd) (C_number_in : Cal P w K mg base "number_in" 2 ["word"] m_number_in) : Cal P w K mg base "row_in" 3 ["text"] m_row_in :=
  cal_mk (k := 2) F sc_row_in [] (by decide) fun cdv A outer s H E f =>
    (jb_cons (js_asg (JD.j (jd_split (jd_var 0) jd_str)) (jg_name 1 f.nd))
    (jb_one (js_ret (JD.j (jd_callTy cd_tup rfl T.tuple_ bt_tuple (jds_cons (jd_bin od_add (jd_lst (jds_cons (jd_ix (jd_var 1) jd_int) jds_nil)) (J.d (j_lc (pos := _) f [("word", 2)] (ji_seq (jd_slice (jd_var 1) (jo_some jd_int) jo_none)) (fun s0 H0 C0 cl0 fp0 f => (jc_name 2 (hN := f.nd))) (fun s0 H0 C0 cl0 fp0 f => jts_nil) (fun s0 H0 C0 cl0 fp0 f => (j_f0 C_number_in f.rm f.tk (ja_cons (JD.j (jd_var 2)) ja_nil) (lenA_cons lenA_nil))) (ok := by show blkC ["text", "words", "word"] (defScope s_row_in) _ [("word", 2)] = true; decide +kernel)))) jds_nil))))))
theorem sc_read_mill : FnScope ["text", "head", "stroke", "tail", "rows", "bells", "part", "word"] ["text"] (defScope s_read_mill) := ⟨rfl, rfl, rfl, by decide +kernel, rfl, by decide +kernel, by decide +kernel⟩
def lc_read_mill_1 : ME := (mLc [6] (gSetC 6) (iD (mM1 gSplit (mVar 1) (mC (.str "; ")))) tYesM (mCall0 m_row_in (mCons (mF (mVar 6)) mNil)))
def lc_read_mill_2 : ME := (mLc [7] (gSetC 7) (iD (mM1 gSplit (mVar 3) (mC (.str " ")))) tYesM (mCall0 m_number_in (mCons (mF (mVar 7)) mNil)))
def if_read_mill_1 : MS := (sIf (mBl (mBin gNe (mVar 2) (mC (.str "")))) (sPost [] [5] (sAsg (gSet 5) lc_read_mill_2)) sNil)
def tr_read_mill_1 : MS := (sTryN cs subM "NoMill" (sRet (mF (mD (mCall0 m_mill_of (mCons (mF (mVar 4)) (mCons (mF (mVar 5)) mNil)))))))
def m_read_mill : List M → Out M := runF [] 7 ((sSeq (sAsg (gTupM 3 (gsCons (gSet 1) (gsCons (gSet 2) (gsCons (gSet 3) gsNil)))) (mF (mM1 gPart (mVar 0) (mC (.str " | ")))))
    (sSeq (sPost [] [4] (sAsg (gSet 4) lc_read_mill_1))
    (sSeq (sAsg (gSet 5) (mF (aLst aNil)))
    (sSeq if_read_mill_1
    tr_read_mill_1)))))
theorem ok_read_mill {P : Program} {w : World} {K : Fr} {mg : Str → Option Value} {base : Heap} {fa : Addr} {fd : FuncData} (T : Txt K mg) (F : Df K mg "read_mill" (defArgs s_read_mill) (defBody s_read_mill) (defScope s_read_mill) ["text"] fa fd) (C_row_in : Cal P w K mg base "row_in" 3 ["text"] m_row_in) (C_mill_of : Cal P w K mg base "mill_of" 3 ["rows", "bells"] m_mill_of) (C_number_in : Cal P w K mg base "number_in" 2 ["word"] m_number_in) : Cal P w K mg base "read_mill" 4 ["text"] m_read_mill :=
  cal_mk (k := 3) F sc_read_mill [] (by decide) fun cdv A outer s H E f =>
    (jb_cons (js_asg (JD.j (jd_part (jd_var 0) jd_str)) (jg_tup f.calm (jgs_cons (jg_name 1 f.nd) (jgs_cons (jg_name 2 f.nd) (jgs_cons (jg_name 3 f.nd) jgs_nil)))))
    (jb_cons (js_post [] [4] (js_setLc 4 f [("part", 6)] (ji_seq (jd_split (jd_var 1) jd_str)) (fun s0 H0 C0 cl0 fp0 f => (jc_name 6 (hN := f.nd))) (fun s0 H0 C0 cl0 fp0 f => jts_nil) (fun s0 H0 C0 cl0 fp0 f => (j_f0 C_row_in f.rm f.tk (ja_cons (JD.j (jd_var 6)) ja_nil) (lenA_cons lenA_nil))) (ok := by show blkC ["text", "head", "stroke", "tail", "rows", "bells", "part", "word"] (defScope s_read_mill) _ [("part", 6)] = true; decide +kernel)))
    (jb_cons (js_asg (JD.j (jd_lst jds_nil)) (jg_name 5 f.nd))
    (jb_cons (js_if (jt_cmp (od_ne f.hu) (jd_var 2) jd_str) (jb_one (js_post [] [5] (js_setLc 5 f [("word", 7)] (ji_seq (jd_split (jd_var 3) jd_str)) (fun s0 H0 C0 cl0 fp0 f => (jc_name 7 (hN := f.nd))) (fun s0 H0 C0 cl0 fp0 f => jts_nil) (fun s0 H0 C0 cl0 fp0 f => (j_f0 C_number_in f.rm f.tk (ja_cons (JD.j (jd_var 7)) ja_nil) (lenA_cons lenA_nil))) (ok := by show blkC ["text", "head", "stroke", "tail", "rows", "bells", "part", "word"] (defScope s_read_mill) _ [("word", 7)] = true; decide +kernel)))) jb_nil)
    (jb_one (js_tryNo f "NoMill" T.kin (by decide) rfl rfl rfl (by decide) (fun W0 pn0 xe0 f => (jb_one (js_ret (JD.j (J.d (j_f0 C_mill_of f.rm f.tk (ja_cons (JD.j (jd_var 4)) (ja_cons (JD.j (jd_var 5)) ja_nil)) (lenA_cons (lenA_cons lenA_nil))))))))))))))
theorem sc__law_tray : FnScope ["script", "fold", "great", "cell", "size"] ["script"] (defScope s__law_tray) := ⟨rfl, rfl, rfl, by decide +kernel, rfl, by decide +kernel, by decide +kernel⟩
abbrev S__law_tray_1 (script : M) (fold : D) (great : M) : Γ := [script, .fz fold, great, .dead, .dead]
def bd__law_tray_1 : MS := (sPost [3, 4] [] (sSeq (sAsg (gSet 1) (mF (mBin gMod (mBin gAdd (mBin gMul (mVar 1) (mC (.int 1000003))) (mVar 3)) (mBin gSub (mBin gPow (mC (.int 2)) (mC (.int 61))) (mC (.int 1))))))
    (sSeq (sAsg (gSet 4) (mF (mCall gMax2 (aCons (mVar 3) (aCons (mBin gSub (mC (.int 0)) (mVar 3)) aNil)))))
    (sIf (mBl (mBin gGe (mVar 4) (mBin gPow (mC (.int 10)) (mC (.int 18))))) (sDrop (mApp 2 (mF (mBin gSub (mVar 4) (mBin gPow (mC (.int 10)) (mC (.int 18))))))) sNil))))
def lp__law_tray_1 : MS := (sPost [0] [] (sFor (gSet 3) (iScr 0) bd__law_tray_1))
def m__law_tray : List M → Out M := runF [] 4 ((sSeq (sAsg (gSet 1) (mF (mC (.int 314159265358979))))
    (sSeq (sAsg (gSet 2) (mLst mNil))
    (sSeq lp__law_tray_1
    (sRet (mLst (mCons (mMove 2) (mCons (mF (mC (.int 0))) (mCons (mF (mVar 1)) (mCons (mF (mC (.int 0))) mNil))))))))))
theorem ok__law_tray {P : Program} {w : World} {K : Fr} {mg : Str → Option Value} {base : Heap} {fa : Addr} {fd : FuncData} (T : Txt K mg) (F : Df K mg "_law_tray" (defArgs s__law_tray) (defBody s__law_tray) (defScope s__law_tray) ["script"] fa fd)  : Cal P w K mg base "_law_tray" 1 ["script"] m__law_tray :=
  cal_mk (k := 0) F sc__law_tray [] (by decide) fun cdv A outer s H E f =>
    (jb_cons (js_asg (JD.j jd_int) (jg_name 1 f.nd))
    (jb_cons (js_asg (j_lst ja_nil) (jg_name 2 f.nd))
    (jb_cons (js_post [0] [] (js_for f.po f.calm (ji_scr 0) (jg_name 3 f.nd) (jb_post [3, 4] [] (jb_cons (js_asg (JD.j (jd_bin od_mod (jd_bin od_add (jd_bin od_mul (jd_var 1) jd_int) (jd_var 3)) (jd_bin od_sub (jd_bin od_pow jd_int jd_int) jd_int))) (jg_name 1 f.nd))
    (jb_cons (js_asg (JD.j (jd_callB (cd_max2 f.calm) rfl T.max bt_max (jds_cons (jd_var 3) (jds_cons (jd_bin od_sub jd_int (jd_var 3)) jds_nil)))) (jg_name 4 f.nd))
    (jb_one (js_if (jt_cmp od_ge (jd_var 4) (jd_bin od_pow jd_int jd_int)) (jb_one (js_expr (j_app 2 (JD.j (jd_bin od_sub (jd_var 4) (jd_bin od_pow jd_int jd_int)))))) jb_nil)))))))
    (jb_one (js_ret (j_lst (ja_cons (j_move 2) (ja_cons (JD.j jd_int) (ja_cons (JD.j (jd_var 1)) (ja_cons (JD.j jd_int) ja_nil))))))))))
theorem sc__law_draw : FnScope ["tray", "many", "found", "mixed"] ["tray", "many"] (defScope s__law_draw) := ⟨rfl, rfl, rfl, by decide +kernel, rfl, by decide +kernel, by decide +kernel⟩
abbrev S__law_draw_1 (tray : M) (many : D) : Γ := [tray, .fz many, .dead, .dead]
def tt__law_draw_1 : MT := (mView [0] (fun _ => true) (mAnd (mBl (mBin gLt (mBin gIx (mVar 0) (mC (.int 1))) (mC (.int 2)))) (mBl (mBin gNe (mBin gIx (mVar 0) (mC (.int 0))) (aLst aNil)))))
def bd__law_draw_1 : MS := (sAsg (gSubP (mpVar 0) (mC (.int 1))) (mPopAt (mpIt (mpVar 0) (mC (.int 0))) (mC (.int 0))))
def lp__law_draw_1 : MS := (sWhile tt__law_draw_1 bd__law_draw_1)
def m__law_draw : List M → Out M := runF [0] 2 ((sSeq lp__law_draw_1
    (sSeq (sIf (mView [0] (fun _ => true) (mBl (mBin gGe (mBin gIx (mVar 0) (mC (.int 1))) (mC (.int 2))))) (sSeq (sAsg (gSet 2) (mF (mView [0] flatT (mBin gMod (mBin gIx (mVar 0) (mC (.int 1))) (mVar 1)))))
    (sSeq (sAsg (gSubP (mpVar 0) (mC (.int 1))) (mView [0] flatM (mF (mBin gDiv (mBin gIx (mVar 0) (mC (.int 1))) (mVar 1)))))
    (sRet (mF (mVar 2))))) sNil)
    (sSeq (sAsg (gSubP (mpVar 0) (mC (.int 3))) (mView [0] flatM (mF (mBin gAdd (mBin gIx (mVar 0) (mC (.int 3))) (mC (.int 1))))))
    (sSeq (sAsg (gSet 3) (mF (mView [0] flatT (mBin gMod (mBin gAdd (mBin gMul (mBin gAdd (mBin gIx (mVar 0) (mC (.int 2))) (mC (.int 5))) (mBin gPow (mBin gAdd (mBin gIx (mVar 0) (mC (.int 3))) (mC (.int 2))) (mC (.int 3)))) (mBin gMul (mC (.int 1000003)) (mBin gIx (mVar 0) (mC (.int 3))))) (mBin gSub (mBin gPow (mC (.int 2)) (mC (.int 61))) (mC (.int 1)))))))
    (sRet (mF (mBin gMod (mBin gDiv (mBin gMod (mBin gPow (mVar 3) (mC (.int 5))) (mBin gAdd (mBin gPow (mC (.int 10)) (mC (.int 18))) (mC (.int 9)))) (mC (.int 64))) (mVar 1)))))))))
theorem ok__law_draw {P : Program} {w : World} {K : Fr} {mg : Str → Option Value} {base : Heap} {fa : Addr} {fd : FuncData} (T : Txt K mg) (F : Df K mg "_law_draw" (defArgs s__law_draw) (defBody s__law_draw) (defScope s__law_draw) ["tray", "many"] fa fd)  : Cal P w K mg base "_law_draw" 1 ["tray", "many"] m__law_draw :=
  cal_mk (k := 0) F sc__law_draw [0] (by decide) fun cdv A outer s H E f =>
    (jb_cons (js_while f.po (jt_view [0] (JW.t (jw_and (jt_cmp od_lt (jd_ix (jd_var 0) jd_int) jd_int) (jw_and1 (jt_cmp (od_ne f.hu) (jd_ix (jd_var 0) jd_int) (jd_lst jds_nil)))))) (jb_one (js_asg (j_popAt (jp_it (jp_var 0) jd_int) jd_int) (jg_sub (jp_var 0) jd_int))))
    (jb_cons (js_if (jt_view [0] (jt_cmp od_ge (jd_ix (jd_var 0) jd_int) jd_int)) (jb_cons (js_asg (JD.j (jd_view [0] (jd_bin od_mod (jd_ix (jd_var 0) jd_int) (jd_var 1)))) (jg_name 2 f.nd))
    (jb_cons (js_asg (j_view [0] (JD.j (jd_bin od_div (jd_ix (jd_var 0) jd_int) (jd_var 1)))) (jg_sub (jp_var 0) jd_int))
    (jb_one (js_ret (JD.j (jd_var 2)))))) jb_nil)
    (jb_cons (js_asg (j_view [0] (JD.j (jd_bin od_add (jd_ix (jd_var 0) jd_int) jd_int))) (jg_sub (jp_var 0) jd_int))
    (jb_cons (js_asg (JD.j (jd_view [0] (jd_bin od_mod (jd_bin od_add (jd_bin od_mul (jd_bin od_add (jd_ix (jd_var 0) jd_int) jd_int) (jd_bin od_pow (jd_bin od_add (jd_ix (jd_var 0) jd_int) jd_int) jd_int)) (jd_bin od_mul jd_int (jd_ix (jd_var 0) jd_int))) (jd_bin od_sub (jd_bin od_pow jd_int jd_int) jd_int)))) (jg_name 3 f.nd))
    (jb_one (js_ret (JD.j (jd_bin od_mod (jd_bin od_div (jd_bin od_mod (jd_bin od_pow (jd_var 3) jd_int) (jd_bin od_add (jd_bin od_pow jd_int jd_int) jd_int)) jd_int) (jd_var 1)))))))))
theorem sc__law_worth : FnScope ["tray", "kind"] ["tray"] (defScope s__law_worth) := ⟨rfl, rfl, rfl, by decide +kernel, rfl, by decide +kernel, by decide +kernel⟩
def m__law_worth : List M → Out M := runF [0] 1 ((sSeq (sAsg (gSet 1) (mF (mD (mCallW m__law_draw (rSlot 0 (rVal (mF (mC (.int 6))) rNil))))))
    (sSeq (sIf (mBl (mBin gLt (mVar 1) (mC (.int 3)))) (sRet (mF (mBin gIx (aLst (aCons (mC (.int 0)) (aCons (mC (.int 1)) (aCons (mC (.int 4294967295)) aNil)))) (mVar 1)))) sNil)
    (sSeq (sIf (mBl (mBin gEq (mVar 1) (mC (.int 3)))) (sRet (mF (mD (mCallW m__law_draw (rSlot 0 (rVal (mF (mC (.int 20))) rNil)))))) sNil)
    (sRet (mF (mD (mCallW m__law_draw (rSlot 0 (rVal (mF (mC (.int 4294967296))) rNil))))))))))
theorem ok__law_worth {P : Program} {w : World} {K : Fr} {mg : Str → Option Value} {base : Heap} {fa : Addr} {fd : FuncData} (T : Txt K mg) (F : Df K mg "_law_worth" (defArgs s__law_worth) (defBody s__law_worth) (defScope s__law_worth) ["tray"] fa fd) (C__law_draw : Cal P w K mg base "_law_draw" 1 ["tray", "many"] m__law_draw) : Cal P w K mg base "_law_worth" 2 ["tray"] m__law_worth :=
  cal_mk (k := 1) F sc__law_worth [0] (by decide) fun cdv A outer s H E f =>
    (jb_cons (js_asg (JD.j (J.d (j_fW C__law_draw f.rm f.tk (jr_slot 0 (jr_val (JD.j jd_int) jr_nil)) (lenR_slot (lenR_val lenR_nil))))) (jg_name 1 f.nd))
    (jb_cons (js_if (jt_cmp od_lt (jd_var 1) jd_int) (jb_one (js_ret (JD.j (jd_ix (jd_lst (jds_cons jd_int (jds_cons jd_int (jds_cons jd_int jds_nil)))) (jd_var 1))))) jb_nil)
    (jb_cons (js_if (jt_cmp (od_eq f.hu) (jd_var 1) jd_int) (jb_one (js_ret (JD.j (J.d (j_fW C__law_draw f.rm f.tk (jr_slot 0 (jr_val (JD.j jd_int) jr_nil)) (lenR_slot (lenR_val lenR_nil))))))) jb_nil)
    (jb_one (js_ret (JD.j (J.d (j_fW C__law_draw f.rm f.tk (jr_slot 0 (jr_val (JD.j jd_int) jr_nil)) (lenR_slot (lenR_val lenR_nil))))))))))
theorem sc__law_row : FnScope ["tray", "many", "words", "word"] ["tray", "many"] (defScope s__law_row) := ⟨rfl, rfl, rfl, by decide +kernel, rfl, by decide +kernel, by decide +kernel⟩
def m__law_row : List M → Out M := runF [0] 2 ((sSeq (sAsg (gSet 2) (mF (aLst (aCons (mC (.str "put")) (aCons (mC (.str "sum")) (aCons (mC (.str "mul")) (aCons (mC (.str "less")) (aCons (mC (.str "take")) (aCons (mC (.str "lay")) (aCons (mC (.str "go")) (aCons (mC (.str "shut")) (aCons (mC (.str "open")) (aCons (mC (.str "home")) aNil)))))))))))))
    (sSeq (sAsg (gSet 3) (mF (mBin gIx (mVar 2) (mD (mCallW m__law_draw (rSlot 0 (rVal (mF (mC (.int 10))) rNil)))))))
    (sSeq (sIf (mBl (mBin gEq (mVar 3) (mC (.str "put")))) (sRet (mF (aTup (aCons (mVar 3) (aCons (mD (mCallW m__law_draw (rSlot 0 (rVal (mF (mC (.int 8))) rNil)))) (aCons (mD (mCallW m__law_worth (rSlot 0 rNil))) aNil)))))) sNil)
    (sSeq (sIf (mOr (mBl (mBin gEq (mVar 3) (mC (.str "sum")))) (mOr (mBl (mBin gEq (mVar 3) (mC (.str "mul")))) (mBl (mBin gEq (mVar 3) (mC (.str "less")))))) (sRet (mF (aTup (aCons (mVar 3) (aCons (mD (mCallW m__law_draw (rSlot 0 (rVal (mF (mC (.int 8))) rNil)))) (aCons (mD (mCallW m__law_draw (rSlot 0 (rVal (mF (mC (.int 8))) rNil)))) (aCons (mD (mCallW m__law_draw (rSlot 0 (rVal (mF (mC (.int 8))) rNil)))) aNil))))))) sNil)
    (sSeq (sIf (mOr (mBl (mBin gEq (mVar 3) (mC (.str "take")))) (mBl (mBin gEq (mVar 3) (mC (.str "lay"))))) (sRet (mF (aTup (aCons (mVar 3) (aCons (mD (mCallW m__law_draw (rSlot 0 (rVal (mF (mC (.int 8))) rNil)))) (aCons (mD (mCallW m__law_draw (rSlot 0 (rVal (mF (mC (.int 8))) rNil)))) (aCons (mD (mCallW m__law_draw (rSlot 0 (rVal (mF (mC (.int 16))) rNil)))) aNil))))))) sNil)
    (sSeq (sIf (mBl (mBin gEq (mVar 3) (mC (.str "go")))) (sRet (mF (aTup (aCons (mVar 3) (aCons (mD (mCallW m__law_draw (rSlot 0 (rVal (mF (mC (.int 8))) rNil)))) (aCons (mD (mCallW m__law_draw (rSlot 0 (rVal (mF (mBin gAdd (mVar 1) (mC (.int 1)))) rNil)))) aNil)))))) sNil)
    (sRet (mF (aTup (aCons (mVar 3) aNil)))))))))))
theorem ok__law_row {P : Program} {w : World} {K : Fr} {mg : Str → Option Value} {base : Heap} {fa : Addr} {fd : FuncData} (T : Txt K mg) (F : Df K mg "_law_row" (defArgs s__law_row) (defBody s__law_row) (defScope s__law_row) ["tray", "many"] fa fd) (C__law_draw : Cal P w K mg base "_law_draw" 1 ["tray", "many"] m__law_draw) (C__law_worth : Cal P w K mg base "_law_worth" 2 ["tray"] m__law_worth) : Cal P w K mg base "_law_row" 3 ["tray", "many"] m__law_row :=
  cal_mk (k := 2) F sc__law_row [0] (by decide) fun cdv A outer s H E f =>
    (jb_cons (js_asg (JD.j (jd_lst (jds_cons jd_str (jds_cons jd_str (jds_cons jd_str (jds_cons jd_str (jds_cons jd_str (jds_cons jd_str (jds_cons jd_str (jds_cons jd_str (jds_cons jd_str (jds_cons jd_str jds_nil)))))))))))) (jg_name 2 f.nd))
    (jb_cons (js_asg (JD.j (jd_ix (jd_var 2) (J.d (j_fW C__law_draw f.rm f.tk (jr_slot 0 (jr_val (JD.j jd_int) jr_nil)) (lenR_slot (lenR_val lenR_nil)))))) (jg_name 3 f.nd))
    (jb_cons (js_if (jt_cmp (od_eq f.hu) (jd_var 3) jd_str) (jb_one (js_ret (JD.j (jd_tup (jds_cons (jd_var 3) (jds_cons (J.d (j_fW C__law_draw f.rm f.tk (jr_slot 0 (jr_val (JD.j jd_int) jr_nil)) (lenR_slot (lenR_val lenR_nil)))) (jds_cons (J.d (j_fW C__law_worth f.rm f.tk (jr_slot 0 jr_nil) (lenR_slot lenR_nil))) jds_nil))))))) jb_nil)
    (jb_cons (js_if (JW.t (jw_or (jt_cmp (od_eq f.hu) (jd_var 3) jd_str) (jw_or (jt_cmp (od_eq f.hu) (jd_var 3) jd_str) (jw_or1 (jt_cmp (od_eq f.hu) (jd_var 3) jd_str))))) (jb_one (js_ret (JD.j (jd_tup (jds_cons (jd_var 3) (jds_cons (J.d (j_fW C__law_draw f.rm f.tk (jr_slot 0 (jr_val (JD.j jd_int) jr_nil)) (lenR_slot (lenR_val lenR_nil)))) (jds_cons (J.d (j_fW C__law_draw f.rm f.tk (jr_slot 0 (jr_val (JD.j jd_int) jr_nil)) (lenR_slot (lenR_val lenR_nil)))) (jds_cons (J.d (j_fW C__law_draw f.rm f.tk (jr_slot 0 (jr_val (JD.j jd_int) jr_nil)) (lenR_slot (lenR_val lenR_nil)))) jds_nil)))))))) jb_nil)
    (jb_cons (js_if (JW.t (jw_or (jt_cmp (od_eq f.hu) (jd_var 3) jd_str) (jw_or1 (jt_cmp (od_eq f.hu) (jd_var 3) jd_str)))) (jb_one (js_ret (JD.j (jd_tup (jds_cons (jd_var 3) (jds_cons (J.d (j_fW C__law_draw f.rm f.tk (jr_slot 0 (jr_val (JD.j jd_int) jr_nil)) (lenR_slot (lenR_val lenR_nil)))) (jds_cons (J.d (j_fW C__law_draw f.rm f.tk (jr_slot 0 (jr_val (JD.j jd_int) jr_nil)) (lenR_slot (lenR_val lenR_nil)))) (jds_cons (J.d (j_fW C__law_draw f.rm f.tk (jr_slot 0 (jr_val (JD.j jd_int) jr_nil)) (lenR_slot (lenR_val lenR_nil)))) jds_nil)))))))) jb_nil)
    (jb_cons (js_if (jt_cmp (od_eq f.hu) (jd_var 3) jd_str) (jb_one (js_ret (JD.j (jd_tup (jds_cons (jd_var 3) (jds_cons (J.d (j_fW C__law_draw f.rm f.tk (jr_slot 0 (jr_val (JD.j jd_int) jr_nil)) (lenR_slot (lenR_val lenR_nil)))) (jds_cons (J.d (j_fW C__law_draw f.rm f.tk (jr_slot 0 (jr_val (JD.j (jd_bin od_add (jd_var 1) jd_int)) jr_nil)) (lenR_slot (lenR_val lenR_nil)))) jds_nil))))))) jb_nil)
    (jb_one (js_ret (JD.j (jd_tup (jds_cons (jd_var 3) jds_nil)))))))))))
theorem sc__law_mill : FnScope ["tray", "ways", "many", "rows", "bells", "at", "k"] ["tray"] (defScope s__law_mill) := ⟨rfl, rfl, rfl, by decide +kernel, rfl, by decide +kernel, by decide +kernel⟩
def if__law_mill_1 : MS := (sIf (mBl (mBin gEq (mBin gDiv (mVar 1) (mC (.int 2))) (mC (.int 7)))) (sAsg (gSet 2) (mF (mBin gAdd (mC (.int 13)) (mD (mCallW m__law_draw (rSlot 0 (rVal (mF (mC (.int 28))) rNil))))))) sNil)
def lc__law_mill_1 : ME := (mLc [6] (gSetC 6) (iRg rng1 (aCons (mVar 2) aNil)) tYesM (mCallW m__law_row (rSlot 0 (rVal (mF (mVar 2)) rNil))))
def lc__law_mill_2 : ME := (mLc [6] (gSetC 6) (iRg rng1 (aCons (mD (mCallW m__law_draw (rSlot 0 (rVal (mF (mC (.int 5))) rNil)))) aNil)) tYesM (mCallW m__law_draw (rSlot 0 (rVal (mF (mBin gAdd (mVar 2) (mC (.int 1)))) rNil))))
def if__law_mill_2 : MS := (sIf (mBl (mBin gEq (mBin gMod (mVar 1) (mC (.int 2))) (mC (.int 1)))) (sSeq (sAsg (gSet 5) (mF (mD (mCallW m__law_draw (rSlot 0 (rVal (mF (mVar 2)) rNil))))))
    (sSeq (sPost [] [3] (sAsg (gSubP (mpVar 3) (mVar 5)) (mTup (mCons (mF (mC (.str "home"))) mNil))))
    (sIf (mView [4] (fun _ => true) (mBl (mBin gNe (mVar 4) (aLst aNil)))) (sPost [] [4] (sAsg (gSubP (mpVar 4) (mC (.int 0))) (mF (mCall gMax2 (aCons (mC (.int 0)) (aCons (mBin gSub (mVar 5) (mD (mCallW m__law_draw (rSlot 0 (rVal (mF (mC (.int 3))) rNil))))) aNil)))))) (sPre [] [4] sNil)))) (sPre [] [3, 4] sNil))
def m__law_mill : List M → Out M := runF [0] 6 ((sSeq (sAsg (gSet 1) (mF (mD (mCallW m__law_draw (rSlot 0 (rVal (mF (mC (.int 16))) rNil))))))
    (sSeq (sAsg (gSet 2) (mF (mBin gAdd (mC (.int 1)) (mD (mCallW m__law_draw (rSlot 0 (rVal (mF (mC (.int 12))) rNil)))))))
    (sSeq if__law_mill_1
    (sSeq (sAsg (gSet 3) lc__law_mill_1)
    (sSeq (sAsg (gSet 4) lc__law_mill_2)
    (sSeq if__law_mill_2
    (sRet (mF (aTup (aCons (mCall gTup (aCons (mVar 3) aNil)) (aCons (mCall gTup (aCons (mVar 4) aNil)) aNil))))))))))))
theorem ok__law_mill {P : Program} {w : World} {K : Fr} {mg : Str → Option Value} {base : Heap} {fa : Addr} {fd : FuncData} (T : Txt K mg) (F : Df K mg "_law_mill" (defArgs s__law_mill) (defBody s__law_mill) (defScope s__law_mill) ["tray"] fa fd) (C__law_draw : Cal P w K mg base "_law_draw" 1 ["tray", "many"] m__law_draw) (C__law_row : Cal P w K mg base "_law_row" 3 ["tray", "many"] m__law_row) : Cal P w K mg base "_law_mill" 4 ["tray"] m__law_mill :=
  cal_mk (k := 3) F sc__law_mill [0] (by decide) fun cdv A outer s H E f =>
    (jb_cons (js_asg (JD.j (J.d (j_fW C__law_draw f.rm f.tk (jr_slot 0 (jr_val (JD.j jd_int) jr_nil)) (lenR_slot (lenR_val lenR_nil))))) (jg_name 1 f.nd))
    (jb_cons (js_asg (JD.j (jd_bin od_add jd_int (J.d (j_fW C__law_draw f.rm f.tk (jr_slot 0 (jr_val (JD.j jd_int) jr_nil)) (lenR_slot (lenR_val lenR_nil)))))) (jg_name 2 f.nd))
    (jb_cons (js_if (jt_cmp (od_eq f.hu) (jd_bin od_div (jd_var 1) jd_int) jd_int) (jb_one (js_asg (JD.j (jd_bin od_add jd_int (J.d (j_fW C__law_draw f.rm f.tk (jr_slot 0 (jr_val (JD.j jd_int) jr_nil)) (lenR_slot (lenR_val lenR_nil)))))) (jg_name 2 f.nd))) jb_nil)
    (jb_cons (js_setLc 3 f [("k", 6)] (ji_range1 rfl T.range (jds_cons (jd_var 2) jds_nil)) (fun s0 H0 C0 cl0 fp0 f => (jc_name 6 (hN := f.nd))) (fun s0 H0 C0 cl0 fp0 f => jts_nil) (fun s0 H0 C0 cl0 fp0 f => (j_fW C__law_row f.rm f.tk (jr_slot 0 (jr_val (JD.j (jd_var 2)) jr_nil)) (lenR_slot (lenR_val lenR_nil)))) (ok := by show blkC ["tray", "ways", "many", "rows", "bells", "at", "k"] (defScope s__law_mill) _ [("k", 6)] = true; decide +kernel))
    (jb_cons (js_setLc 4 f [("k", 6)] (ji_range1 rfl T.range (jds_cons (J.d (j_fW C__law_draw f.rm f.tk (jr_slot 0 (jr_val (JD.j jd_int) jr_nil)) (lenR_slot (lenR_val lenR_nil)))) jds_nil)) (fun s0 H0 C0 cl0 fp0 f => (jc_name 6 (hN := f.nd))) (fun s0 H0 C0 cl0 fp0 f => jts_nil) (fun s0 H0 C0 cl0 fp0 f => (j_fW C__law_draw f.rm f.tk (jr_slot 0 (jr_val (JD.j (jd_bin od_add (jd_var 2) jd_int)) jr_nil)) (lenR_slot (lenR_val lenR_nil)))) (ok := by show blkC ["tray", "ways", "many", "rows", "bells", "at", "k"] (defScope s__law_mill) _ [("k", 6)] = true; decide +kernel))
    (jb_cons (js_if (jt_cmp (od_eq f.hu) (jd_bin od_mod (jd_var 1) jd_int) jd_int) (jb_cons (js_asg (JD.j (J.d (j_fW C__law_draw f.rm f.tk (jr_slot 0 (jr_val (JD.j (jd_var 2)) jr_nil)) (lenR_slot (lenR_val lenR_nil))))) (jg_name 5 f.nd))
    (jb_cons (js_post [] [3] (js_asg (j_tup (ja_cons (JD.j jd_str) ja_nil)) (jg_sub (jp_var 3) (jd_var 5))))
    (jb_one (js_if (jt_view [4] (jt_cmp (od_ne f.hu) (jd_var 4) (jd_lst jds_nil))) (jb_one (js_post [] [4] (js_asg (JD.j (jd_callB (cd_max2 f.calm) rfl T.max bt_max (jds_cons jd_int (jds_cons (jd_bin od_sub (jd_var 5) (J.d (j_fW C__law_draw f.rm f.tk (jr_slot 0 (jr_val (JD.j jd_int) jr_nil)) (lenR_slot (lenR_val lenR_nil))))) jds_nil)))) (jg_sub (jp_var 4) jd_int)))) (jb_pre [] [4] jb_nil))))) (jb_pre [] [3, 4] jb_nil))
    (jb_one (js_ret (JD.j (jd_tup (jds_cons (jd_callTy cd_tup rfl T.tuple_ bt_tuple (jds_cons (jd_var 3) jds_nil)) (jds_cons (jd_callTy cd_tup rfl T.tuple_ bt_tuple (jds_cons (jd_var 4) jds_nil)) jds_nil))))))))))))
theorem sc__law_alike : FnScope ["found", "due", "k"] ["found", "due"] (defScope s__law_alike) := ⟨rfl, rfl, rfl, by decide +kernel, rfl, by decide +kernel, by decide +kernel⟩
abbrev S__law_alike_1 (found : D) (due : D) : Γ := [.fz found, .fz due, .dead]
def bd__law_alike_1 (self : List M → Out M) : MS := (sPost [2] [] (sIf (mNot (mTru (mD (mCall0 self (mCons (mF (mBin gIx (mVar 0) (mVar 2))) (mCons (mF (mBin gIx (mVar 1) (mVar 2))) mNil)))))) (sRet (mF (mC (.bool false)))) sNil))
def lp__law_alike_1 (self : List M → Out M) : MS := (sPost [0, 1] [] (sFor (gSet 2) (iRg rng1 (aCons (mCall gLen (aCons (mVar 1) aNil)) aNil)) (bd__law_alike_1 self)))
def m__law_alike : Nat → List M → Out M
  | 0 => fun _ => .bad
  | d + 1 => runF [] 1 ((sSeq (sIf (mBl (mBin gIs (mVar 1) (mC .none))) (sRet (mF (mBin gIs (mVar 0) (mC .none)))) sNil)
    (sSeq (sIf (mTru (mUn (gIsi "bool") (mVar 1))) (sRet (mF (mAndV (mUn (gIsi "bool") (mVar 0)) (mBin gEq (mVar 0) (mVar 1))))) sNil)
    (sSeq (sIf (mTru (mUn (gIsi "int") (mVar 1))) (sRet (mF (mAndV (mUn (gIsi "int") (mVar 0)) (mAndV (mNotV (mUn (gIsi "bool") (mVar 0))) (mBin gEq (mVar 0) (mVar 1)))))) sNil)
    (sSeq (sIf (mTru (mUn (gIsi "str") (mVar 1))) (sRet (mF (mAndV (mUn (gIsi "str") (mVar 0)) (mBin gEq (mVar 0) (mVar 1))))) sNil)
    (sSeq (sIf (mOr (mBl (mBin gNe (mUn (gIsi "list") (mVar 0)) (mUn (gIsi "list") (mVar 1)))) (mBl (mBin gNe (mUn (gIsi "tuple") (mVar 0)) (mUn (gIsi "tuple") (mVar 1))))) (sRet (mF (mC (.bool false)))) sNil)
    (sSeq (sIf (mBl (mBin gNe (mCall gLen (aCons (mVar 0) aNil)) (mCall gLen (aCons (mVar 1) aNil)))) (sRet (mF (mC (.bool false)))) sNil)
    (sSeq (lp__law_alike_1 (m__law_alike d))
    (sRet (mF (mC (.bool true))))))))))))
theorem ok__law_alike {P : Program} {w : World} {K : Fr} {mg : Str → Option Value} {base : Heap} {fa : Addr} {fd : FuncData} (T : Txt K mg) (F : Df K mg "_law_alike" (defArgs s__law_alike) (defBody s__law_alike) (defScope s__law_alike) ["found", "due"] fa fd)  : ∀ d : Nat, Cal P w K mg base "_law_alike" (0 + d) ["found", "due"] (m__law_alike d)
  | 0 => (Cal.bot F.mg F.fn.kp F.bi).up (Nat.zero_le _)
  | d + 1 => by
    have C__law_alike : ∀ e : Nat, e = d → Cal P w K mg base "_law_alike" (0 + e) ["found", "due"] (m__law_alike e) := fun e h => by rw [h]; exact ok__law_alike T F  d
    exact cal_mk (k := 0 + d) F sc__law_alike [] (by decide) fun cdv A outer s H E f =>
    (jb_cons (js_if (jt_cmp od_is (jd_var 1) jd_non) (jb_one (js_ret (JD.j (jd_cmp od_is (jd_var 0) jd_non)))) jb_nil)
    (jb_cons (js_if (jt_truth (jd_isi (jd_var 1) rfl T.isinstance rfl T.bool_ bt_bool (by decide +kernel))) (jb_one (js_ret (JD.j (jd_and (jd_isi (jd_var 0) rfl T.isinstance rfl T.bool_ bt_bool (by decide +kernel)) (jd_one (jd_cmp (od_eq f.hu) (jd_var 0) (jd_var 1))))))) jb_nil)
    (jb_cons (js_if (jt_truth (jd_isi (jd_var 1) rfl T.isinstance rfl T.int_ bt_int (by decide +kernel))) (jb_one (js_ret (JD.j (jd_and (jd_isi (jd_var 0) rfl T.isinstance rfl T.int_ bt_int (by decide +kernel)) (jd_and (jd_not (jd_isi (jd_var 0) rfl T.isinstance rfl T.bool_ bt_bool (by decide +kernel))) (jd_one (jd_cmp (od_eq f.hu) (jd_var 0) (jd_var 1)))))))) jb_nil)
    (jb_cons (js_if (jt_truth (jd_isi (jd_var 1) rfl T.isinstance rfl T.str_ bt_str (by decide +kernel))) (jb_one (js_ret (JD.j (jd_and (jd_isi (jd_var 0) rfl T.isinstance rfl T.str_ bt_str (by decide +kernel)) (jd_one (jd_cmp (od_eq f.hu) (jd_var 0) (jd_var 1))))))) jb_nil)
    (jb_cons (js_if (JW.t (jw_or (jt_cmp (od_ne f.hu) (jd_isi (jd_var 0) rfl T.isinstance rfl T.list_ bt_list (by decide +kernel)) (jd_isi (jd_var 1) rfl T.isinstance rfl T.list_ bt_list (by decide +kernel))) (jw_or1 (jt_cmp (od_ne f.hu) (jd_isi (jd_var 0) rfl T.isinstance rfl T.tuple_ bt_tuple (by decide +kernel)) (jd_isi (jd_var 1) rfl T.isinstance rfl T.tuple_ bt_tuple (by decide +kernel)))))) (jb_one (js_ret (JD.j jd_bl))) jb_nil)
    (jb_cons (js_if (jt_cmp (od_ne f.hu) (jd_callB cd_len rfl T.len bt_len (jds_cons (jd_var 0) jds_nil)) (jd_callB cd_len rfl T.len bt_len (jds_cons (jd_var 1) jds_nil))) (jb_one (js_ret (JD.j jd_bl))) jb_nil)
    (jb_cons (js_post [0, 1] [] (js_for f.po f.calm (ji_range1 rfl T.range (jds_cons (jd_callB cd_len rfl T.len bt_len (jds_cons (jd_var 1) jds_nil)) jds_nil)) (jg_name 2 f.nd) (jb_post [2] [] (jb_one (js_if (jt_not (jt_truth (J.d (j_f0 (C__law_alike d rfl) (f.rm (by omega)) f.tk (ja_cons (JD.j (jd_ix (jd_var 0) (jd_var 2))) (ja_cons (JD.j (jd_ix (jd_var 1) (jd_var 2))) ja_nil)) (lenA_cons (lenA_cons lenA_nil)))))) (jb_one (js_ret (JD.j jd_bl))) jb_nil)))))
    (jb_one (js_ret (JD.j jd_bl))))))))))
theorem sc__law_shown : FnScope ["mill", "text", "row", "place", "number"] ["mill"] (defScope s__law_shown) := ⟨rfl, rfl, rfl, by decide +kernel, rfl, by decide +kernel, by decide +kernel⟩
def lc__law_shown_1 : ME := (mLc [4] (gSetC 4) (iD (mSl (mVar 2) (mSo (mC (.int 1))) mNo)) tYesM (mF (mCall gStrI (aCons (mVar 4) aNil))))
def lc__law_shown_2 : ME := (mLc [2] (gSetC 2) (iD (mBin gIx (mVar 0) (mC (.int 0)))) tYesM (mF (mM1 gJoin (mC (.str " ")) (mBin gAdd (aLst (aCons (mBin gIx (mVar 2) (mC (.int 0))) aNil)) (mD lc__law_shown_1)))))
def lc__law_shown_3 : ME := (mLc [3] (gSetC 3) (iD (mBin gIx (mVar 0) (mC (.int 1)))) tYesM (mF (mCall gStrI (aCons (mVar 3) aNil))))
def m__law_shown : List M → Out M := runF [] 4 ((sSeq (sAsg (gSet 1) (mF (mM1 gJoin (mC (.str "; ")) (mD lc__law_shown_2))))
    (sSeq (sIf (mBl (mBin gEq (mBin gIx (mVar 0) (mC (.int 1))) (aTup aNil))) (sRet (mF (mVar 1))) sNil)
    (sRet (mF (mBin gAdd (mBin gAdd (mVar 1) (mC (.str " | "))) (mM1 gJoin (mC (.str " ")) (mD lc__law_shown_3))))))))
theorem ok__law_shown {P : Program} {w : World} {K : Fr} {mg : Str → Option Value} {base : Heap} {fa : Addr} {fd : FuncData} (T : Txt K mg) (F : Df K mg "_law_shown" (defArgs s__law_shown) (defBody s__law_shown) (defScope s__law_shown) ["mill"] fa fd)  : Cal P w K mg base "_law_shown" 1 ["mill"] m__law_shown :=
  cal_mk (k := 0) F sc__law_shown [] (by decide) fun cdv A outer s H E f =>
    (jb_cons (js_asg (JD.j (jd_join jd_str (J.d (j_lc (pos := _) f [("row", 2)] (ji_seq (jd_ix (jd_var 0) jd_int)) (fun s0 H0 C0 cl0 fp0 f => (jc_name 2 (hN := f.nd))) (fun s0 H0 C0 cl0 fp0 f => jts_nil) (fun s0 H0 C0 cl0 fp0 f => (JD.j (jd_join jd_str (jd_bin od_add (jd_lst (jds_cons (jd_ix (jd_var 2) jd_int) jds_nil)) (J.d (j_lc (pos := _) f [("number", 4)] (ji_seq (jd_slice (jd_var 2) (jo_some jd_int) jo_none)) (fun s0 H0 C0 cl0 fp0 f => (jc_name 4 (hN := f.nd))) (fun s0 H0 C0 cl0 fp0 f => jts_nil) (fun s0 H0 C0 cl0 fp0 f => (JD.j (jd_callTy cd_strI rfl T.str_ bt_str (jds_cons (jd_var 4) jds_nil)))) (ok := by kernel_rfl))))))) (ok := by show blkC ["mill", "text", "row", "place", "number"] (defScope s__law_shown) _ [("row", 2)] = true; decide +kernel))))) (jg_name 1 f.nd))
    (jb_cons (js_if (jt_cmp (od_eq f.hu) (jd_ix (jd_var 0) jd_int) (jd_tup jds_nil)) (jb_one (js_ret (JD.j (jd_var 1)))) jb_nil)
    (jb_one (js_ret (JD.j (jd_bin od_add (jd_bin od_add (jd_var 1) jd_str) (jd_join jd_str (J.d (j_lc (pos := _) f [("place", 3)] (ji_seq (jd_ix (jd_var 0) jd_int)) (fun s0 H0 C0 cl0 fp0 f => (jc_name 3 (hN := f.nd))) (fun s0 H0 C0 cl0 fp0 f => jts_nil) (fun s0 H0 C0 cl0 fp0 f => (JD.j (jd_callTy cd_strI rfl T.str_ bt_str (jds_cons (jd_var 3) jds_nil)))) (ok := by show blkC ["mill", "text", "row", "place", "number"] (defScope s__law_shown) _ [("place", 3)] = true; decide +kernel))))))))))
theorem sc_law : FnScope ["script", "tray", "k", "mill", "text"] ["script"] (defScope s_law) := ⟨rfl, rfl, rfl, by decide +kernel, rfl, by decide +kernel, by decide +kernel⟩
abbrev S_law_1 (script : M) (tray : M) : Γ := [script, tray, .dead, .dead, .dead]
def bd_law_1 : MS := (sPost [2, 3, 4] [] (sSeq (sAsg (gSet 3) (mF (mD (mCallW m__law_mill (rSlot 1 rNil)))))
    (sSeq (sAsg (gSet 4) (mF (mD (mCall0 m__law_shown (mCons (mF (mVar 3)) mNil)))))
    (sIf (mOr (mNot (mTru (mD (mCall0 (m__law_alike 4) (mCons (mF (mD (mCall0 m_show_mill (mCons (mF (mVar 3)) mNil)))) (mCons (mF (mVar 4)) mNil)))))) (mNot (mTru (mD (mCall0 (m__law_alike 4) (mCons (mF (mD (mCall0 m_read_mill (mCons (mF (mVar 4)) mNil)))) (mCons (mF (mVar 3)) mNil))))))) (sRet (mF (mC (.bool false)))) sNil))))
def lp_law_1 : MS := (sPost [0, 1] [] (sFor (gSet 2) (iRg rng1 (aCons (mBin gAdd (mC (.int 1)) (mCall gLen (aCons (mScrSl 0 mNo (mSo (mC (.int 8)))) aNil))) aNil)) bd_law_1))
def m_law : List M → Out M := runF [] 4 ((sSeq (sAsg (gSet 1) (mCall0 m__law_tray (mCons (mName 0) mNil)))
    (sSeq lp_law_1
    (sRet (mF (mC (.bool true)))))))
theorem ok_law {P : Program} {w : World} {K : Fr} {mg : Str → Option Value} {base : Heap} {fa : Addr} {fd : FuncData} (T : Txt K mg) (F : Df K mg "law" (defArgs s_law) (defBody s_law) (defScope s_law) ["script"] fa fd) (C__law_tray : Cal P w K mg base "_law_tray" 1 ["script"] m__law_tray) (C__law_mill : Cal P w K mg base "_law_mill" 4 ["tray"] m__law_mill) (C__law_shown : Cal P w K mg base "_law_shown" 1 ["mill"] m__law_shown) (C__law_alike : Cal P w K mg base "_law_alike" 4 ["found", "due"] (m__law_alike 4)) (C_show_mill : Cal P w K mg base "show_mill" 2 ["mill"] m_show_mill) (C_read_mill : Cal P w K mg base "read_mill" 4 ["text"] m_read_mill) : FnOk P w K mg base (L2.CX P w) 5 fa fd ["script"] (spM K ⟨mg, w⟩ 1 m_law) :=
  fn_mk (k := 4) F sc_law [] (by decide) fun cdv A outer s H E f =>
    (jb_cons (js_asg (j_f0 C__law_tray f.rm f.tk (ja_cons (j_name 0) ja_nil) (lenA_cons lenA_nil)) (jg_name 1 f.nd))
    (jb_cons (js_post [0, 1] [] (js_for f.po f.calm (ji_range1 rfl T.range (jds_cons (jd_bin od_add jd_int (jd_callB cd_len rfl T.len bt_len (jds_cons (jd_scrSl 0 jo_none (jo_some jd_int)) jds_nil))) jds_nil)) (jg_name 2 f.nd) (jb_post [2, 3, 4] [] (jb_cons (js_asg (JD.j (J.d (j_fW C__law_mill f.rm f.tk (jr_slot 1 jr_nil) (lenR_slot lenR_nil)))) (jg_name 3 f.nd))
    (jb_cons (js_asg (JD.j (J.d (j_f0 C__law_shown f.rm f.tk (ja_cons (JD.j (jd_var 3)) ja_nil) (lenA_cons lenA_nil)))) (jg_name 4 f.nd))
    (jb_one (js_if (JW.t (jw_or (jt_not (jt_truth (J.d (j_f0 C__law_alike f.rm f.tk (ja_cons (JD.j (J.d (j_f0 C_show_mill f.rm f.tk (ja_cons (JD.j (jd_var 3)) ja_nil) (lenA_cons lenA_nil)))) (ja_cons (JD.j (jd_var 4)) ja_nil)) (lenA_cons (lenA_cons lenA_nil)))))) (jw_or1 (jt_not (jt_truth (J.d (j_f0 C__law_alike f.rm f.tk (ja_cons (JD.j (J.d (j_f0 C_read_mill f.rm f.tk (ja_cons (JD.j (jd_var 4)) ja_nil) (lenA_cons lenA_nil)))) (ja_cons (JD.j (jd_var 3)) ja_nil)) (lenA_cons (lenA_cons lenA_nil))))))))) (jb_one (js_ret (JD.j jd_bl))) jb_nil)))))))
    (jb_one (js_ret (JD.j jd_bl)))))
theorem facts {P : Program} {w : World} {K : Fr} {h : Heap} {mg : Str → Option Value} {a : Addr} (X : K.In h) (G : h.Ns mainGlobals mg) (hfa : mg ("law" : Str) = some (.ref a)) (c : He.SaysD fa fn K) (cx : (exs.all fun e => e K) = true) :
    ∃ fd : FuncData, (∀ (s : Shared) (v : Value), BindsTo s fd ⟨[v], []⟩ [("script", v)]) ∧ ∀ base : Heap, K.In base → base.Ns mainGlobals mg → FnOk P w K mg base (L2.CX P w) 5 a fd ["script"] (spM K ⟨mg, w⟩ 1 m_law) := by
  have kk := kin_ok X G (look_at cx 0 (e := kinB cs subM) rfl)
  have T : Txt K mg := ⟨He.free_ok X G (c.fact 17 (f := .free "bool") rfl), He.free_ok X G (c.fact 18 (f := .free "int") rfl), He.free_ok X G (c.fact 19 (f := .free "isinstance") rfl), He.free_ok X G (c.fact 20 (f := .free "len") rfl), He.free_ok X G (c.fact 21 (f := .free "list") rfl), He.free_ok X G (c.fact 22 (f := .free "max") rfl), He.free_ok X G (c.fact 23 (f := .free "range") rfl), He.free_ok X G (c.fact 24 (f := .free "str") rfl), He.free_ok X G (c.fact 25 (f := .free "tuple") rfl), He.free_ok X G (c.fact 26 (f := .free "zip") rfl), He.int_ok X G (c.fact 27 (f := .int "CELLS" 16) rfl), He.int_ok X G (c.fact 28 (f := .int "MOST_BELLS" 4) rfl), He.int_ok X G (c.fact 29 (f := .int "MOST_FIGURES" 10) rfl), He.int_ok X G (c.fact 30 (f := .int "MOST_ROWS" 40) rfl), He.int_ok X G (c.fact 31 (f := .int "SPOTS" 8) rfl), He.int_ok X G (c.fact 32 (f := .int "WORTHS" 4294967296) rfl), strB_ok X G (look_at cx 2 (e := strB "FIGURES" "0123456789") rfl), kinN_ok (look_at cx 1 (e := kinN cs) rfl), kk.1, kk.2⟩
  obtain ⟨fd_limits_of, F_limits_of⟩ := c.def_ 0 (d := d_limits_of) rfl
  have D_limits_of : Df K mg "limits_of" (defArgs s_limits_of) (defBody s_limits_of) (defScope s_limits_of) ["word", "many"] _ _ := ⟨F_limits_of, He.glo_ok X G (c.fact 0 (f := .glo "limits_of") rfl), FunD.bindsN F_limits_of fun _ _ _ _ _ _ us hl => match us, hl with | [_, _], _ => rfl⟩
  obtain ⟨fd_is_row, F_is_row⟩ := c.def_ 1 (d := d_is_row) rfl
  have D_is_row : Df K mg "is_row" (defArgs s_is_row) (defBody s_is_row) (defScope s_is_row) ["row", "many"] _ _ := ⟨F_is_row, He.glo_ok X G (c.fact 1 (f := .glo "is_row") rfl), FunD.bindsN F_is_row fun _ _ _ _ _ _ us hl => match us, hl with | [_, _], _ => rfl⟩
  obtain ⟨fd_mill_of, F_mill_of⟩ := c.def_ 2 (d := d_mill_of) rfl
  have D_mill_of : Df K mg "mill_of" (defArgs s_mill_of) (defBody s_mill_of) (defScope s_mill_of) ["rows", "bells"] _ _ := ⟨F_mill_of, He.glo_ok X G (c.fact 2 (f := .glo "mill_of") rfl), FunD.bindsN F_mill_of fun _ _ _ _ _ _ us hl => match us, hl with | [_, _], _ => rfl⟩
  obtain ⟨fd_show_row, F_show_row⟩ := c.def_ 3 (d := d_show_row) rfl
  have D_show_row : Df K mg "show_row" (defArgs s_show_row) (defBody s_show_row) (defScope s_show_row) ["row"] _ _ := ⟨F_show_row, He.glo_ok X G (c.fact 3 (f := .glo "show_row") rfl), FunD.bindsN F_show_row fun _ _ _ _ _ _ us hl => match us, hl with | [_], _ => rfl⟩
  obtain ⟨fd_show_mill, F_show_mill⟩ := c.def_ 4 (d := d_show_mill) rfl
  have D_show_mill : Df K mg "show_mill" (defArgs s_show_mill) (defBody s_show_mill) (defScope s_show_mill) ["mill"] _ _ := ⟨F_show_mill, He.glo_ok X G (c.fact 4 (f := .glo "show_mill") rfl), FunD.bindsN F_show_mill fun _ _ _ _ _ _ us hl => match us, hl with | [_], _ => rfl⟩
  obtain ⟨fd_is_number, F_is_number⟩ := c.def_ 5 (d := d_is_number) rfl
  have D_is_number : Df K mg "is_number" (defArgs s_is_number) (defBody s_is_number) (defScope s_is_number) ["word"] _ _ := ⟨F_is_number, He.glo_ok X G (c.fact 5 (f := .glo "is_number") rfl), FunD.bindsN F_is_number fun _ _ _ _ _ _ us hl => match us, hl with | [_], _ => rfl⟩
  obtain ⟨fd_number_in, F_number_in⟩ := c.def_ 6 (d := d_number_in) rfl
  have D_number_in : Df K mg "number_in" (defArgs s_number_in) (defBody s_number_in) (defScope s_number_in) ["word"] _ _ := ⟨F_number_in, He.glo_ok X G (c.fact 6 (f := .glo "number_in") rfl), FunD.bindsN F_number_in fun _ _ _ _ _ _ us hl => match us, hl with | [_], _ => rfl⟩
  obtain ⟨fd_row_in, F_row_in⟩ := c.def_ 7 (d := d_row_in) rfl
  have D_row_in : Df K mg "row_in" (defArgs s_row_in) (defBody s_row_in) (defScope s_row_in) ["text"] _ _ := ⟨F_row_in, He.glo_ok X G (c.fact 7 (f := .glo "row_in") rfl), FunD.bindsN F_row_in fun _ _ _ _ _ _ us hl => match us, hl with | [_], _ => rfl⟩
  obtain ⟨fd_read_mill, F_read_mill⟩ := c.def_ 8 (d := d_read_mill) rfl
  have D_read_mill : Df K mg "read_mill" (defArgs s_read_mill) (defBody s_read_mill) (defScope s_read_mill) ["text"] _ _ := ⟨F_read_mill, He.glo_ok X G (c.fact 8 (f := .glo "read_mill") rfl), FunD.bindsN F_read_mill fun _ _ _ _ _ _ us hl => match us, hl with | [_], _ => rfl⟩
  obtain ⟨fd__law_tray, F__law_tray⟩ := c.def_ 9 (d := d__law_tray) rfl
  have D__law_tray : Df K mg "_law_tray" (defArgs s__law_tray) (defBody s__law_tray) (defScope s__law_tray) ["script"] _ _ := ⟨F__law_tray, He.glo_ok X G (c.fact 9 (f := .glo "_law_tray") rfl), FunD.bindsN F__law_tray fun _ _ _ _ _ _ us hl => match us, hl with | [_], _ => rfl⟩
  obtain ⟨fd__law_draw, F__law_draw⟩ := c.def_ 10 (d := d__law_draw) rfl
  have D__law_draw : Df K mg "_law_draw" (defArgs s__law_draw) (defBody s__law_draw) (defScope s__law_draw) ["tray", "many"] _ _ := ⟨F__law_draw, He.glo_ok X G (c.fact 10 (f := .glo "_law_draw") rfl), FunD.bindsN F__law_draw fun _ _ _ _ _ _ us hl => match us, hl with | [_, _], _ => rfl⟩
  obtain ⟨fd__law_worth, F__law_worth⟩ := c.def_ 11 (d := d__law_worth) rfl
  have D__law_worth : Df K mg "_law_worth" (defArgs s__law_worth) (defBody s__law_worth) (defScope s__law_worth) ["tray"] _ _ := ⟨F__law_worth, He.glo_ok X G (c.fact 11 (f := .glo "_law_worth") rfl), FunD.bindsN F__law_worth fun _ _ _ _ _ _ us hl => match us, hl with | [_], _ => rfl⟩
  obtain ⟨fd__law_row, F__law_row⟩ := c.def_ 12 (d := d__law_row) rfl
  have D__law_row : Df K mg "_law_row" (defArgs s__law_row) (defBody s__law_row) (defScope s__law_row) ["tray", "many"] _ _ := ⟨F__law_row, He.glo_ok X G (c.fact 12 (f := .glo "_law_row") rfl), FunD.bindsN F__law_row fun _ _ _ _ _ _ us hl => match us, hl with | [_, _], _ => rfl⟩
  obtain ⟨fd__law_mill, F__law_mill⟩ := c.def_ 13 (d := d__law_mill) rfl
  have D__law_mill : Df K mg "_law_mill" (defArgs s__law_mill) (defBody s__law_mill) (defScope s__law_mill) ["tray"] _ _ := ⟨F__law_mill, He.glo_ok X G (c.fact 13 (f := .glo "_law_mill") rfl), FunD.bindsN F__law_mill fun _ _ _ _ _ _ us hl => match us, hl with | [_], _ => rfl⟩
  obtain ⟨fd__law_alike, F__law_alike⟩ := c.def_ 14 (d := d__law_alike) rfl
  have D__law_alike : Df K mg "_law_alike" (defArgs s__law_alike) (defBody s__law_alike) (defScope s__law_alike) ["found", "due"] _ _ := ⟨F__law_alike, He.glo_ok X G (c.fact 14 (f := .glo "_law_alike") rfl), FunD.bindsN F__law_alike fun _ _ _ _ _ _ us hl => match us, hl with | [_, _], _ => rfl⟩
  obtain ⟨fd__law_shown, F__law_shown⟩ := c.def_ 15 (d := d__law_shown) rfl
  have D__law_shown : Df K mg "_law_shown" (defArgs s__law_shown) (defBody s__law_shown) (defScope s__law_shown) ["mill"] _ _ := ⟨F__law_shown, He.glo_ok X G (c.fact 15 (f := .glo "_law_shown") rfl), FunD.bindsN F__law_shown fun _ _ _ _ _ _ us hl => match us, hl with | [_], _ => rfl⟩
  obtain ⟨fd_law, F_law⟩ := c.def_ 16 (d := d_law) rfl
  have D_law : Df K mg "law" (defArgs s_law) (defBody s_law) (defScope s_law) ["script"] _ _ := ⟨F_law, He.glo_ok X G (c.fact 16 (f := .glo "law") rfl), FunD.bindsN F_law fun _ _ _ _ _ _ us hl => match us, hl with | [_], _ => rfl⟩
  have e := hfa.symm.trans (He.glo_ok X G (c.fact 16 (f := .glo "law") rfl))
  cases e
  refine ⟨fd_law, fun s v => FunD.bindsA (ps := ["script"]) F_law (fun _ _ _ _ _ _ us hl => match us, hl with | [_], _ => rfl) s [v] rfl, fun base _ _ => ?_⟩
  have C_limits_of := ok_limits_of (P := P) (w := w) (base := base) T D_limits_of 
  have C_is_row := ok_is_row (P := P) (w := w) (base := base) T D_is_row C_limits_of
  have C_mill_of := ok_mill_of (P := P) (w := w) (base := base) T D_mill_of C_is_row
  have C_show_row := ok_show_row (P := P) (w := w) (base := base) T D_show_row 
  have C_show_mill := ok_show_mill (P := P) (w := w) (base := base) T D_show_mill C_show_row
  have C_is_number := ok_is_number (P := P) (w := w) (base := base) T D_is_number 
  have C_number_in := ok_number_in (P := P) (w := w) (base := base) T D_number_in C_is_number
  have C_row_in := ok_row_in (P := P) (w := w) (base := base) T D_row_in C_number_in
  have C_read_mill := ok_read_mill (P := P) (w := w) (base := base) T D_read_mill C_row_in C_mill_of C_number_in
  have C__law_tray := ok__law_tray (P := P) (w := w) (base := base) T D__law_tray 
  have C__law_draw := ok__law_draw (P := P) (w := w) (base := base) T D__law_draw 
  have C__law_worth := ok__law_worth (P := P) (w := w) (base := base) T D__law_worth C__law_draw
  have C__law_row := ok__law_row (P := P) (w := w) (base := base) T D__law_row C__law_draw C__law_worth
  have C__law_mill := ok__law_mill (P := P) (w := w) (base := base) T D__law_mill C__law_draw C__law_row
  have C__law_alike := ok__law_alike (P := P) (w := w) (base := base) T D__law_alike  4
  have C__law_shown := ok__law_shown (P := P) (w := w) (base := base) T D__law_shown 
  exact ok_law T D_law C__law_tray C__law_mill C__law_shown C__law_alike C_show_mill C_read_mill
end Lwk04

namespace Lwk04
open PySem PySem.Spec L2 Tw
def iM (g : List Int) : List M := g.map fun i => .fz (.int i)
theorem iM_len (g : List Int) : (iM g).length = g.length := by simp [iM]
theorem iM_cons (x : Int) (g : List Int) : iM (x :: g) = .fz (.int x) :: iM g := rfl
theorem iM_app (g : List Int) (x : Int) : iM g ++ [.fz (.int x)] = iM (g ++ [x]) := by simp [iM]
theorem iM_frz : ∀ g : List Int, M.frzs (iM g) = some (g.map .int)
  | [] => by simp [iM]
  | x :: g => by rw [iM_cons, frzs_cons, frz_fz, iM_frz g] <;> rfl
theorem iM_frzL (bs : List Int) : (M.lst (iM bs)).frz = some (.list (bs.map .int)) := by simp [iM_frz]
def trM (g : List Int) (a b c : Int) : M := .lst [.lst (iM g), .fz (.int a), .fz (.int b), .fz (.int c)]
theorem trM_frz (g : List Int) (a b c : Int) : (trM g a b c).frz = some (.list [.list (g.map .int), .int a, .int b, .int c]) := by simp [trM, iM_frz]
/-- a tray that has n draws at least left -/
def TrOk (n : Nat) (t : M) : Prop := ∃ g a b c, t = trM g a b c ∧ 0 ≤ b ∧ b < 2 ^ 61 ∧ 0 ≤ c ∧ c + n ≤ 2 ^ 40 ∧ g.length ≤ 63
theorem TrOk.less {n m : Nat} {t : M} (h : TrOk n t) (hm : m ≤ n) : TrOk m t := by
  obtain ⟨g, a, b, c, e, h1, h2, h3, h4, h5⟩ := h
  exact ⟨g, a, b, c, e, h1, h2, h3, by omega, h5⟩
theorem TrOk.live {n : Nat} {t : M} (h : TrOk n t) : isDead t = false := by
  obtain ⟨g, a, b, c, rfl, _⟩ := h
  rfl
theorem TrOk.frz {n : Nat} {t : M} (h : TrOk n t) : ∃ d, t.frz = some d := by
  obtain ⟨g, a, b, c, rfl, _⟩ := h
  exact ⟨_, trM_frz g a b c⟩
theorem tray_ok (ns : List Int) (hl : ns.length ≤ 63) : ∃ t, m__law_tray [.scr ns] = .ok t [.scr ns] ∧ TrOk (2 ^ 39) t := by
  obtain ⟨γ', h1, fold, g, rfl, h3, h4, h5⟩ : ∃ γ', sFor (gSet 3) (iScr 0) bd__law_tray_1 (S__law_tray_1 (.scr ns) (.int 314159265358979) (.lst [])) = .ok .nx γ' ∧ ∃ fold g, γ' = S__law_tray_1 (.scr ns) (.int fold) (.lst (iM g)) ∧ 0 ≤ fold ∧ fold < 2 ^ 61 ∧ g.length ≤ (ns.map PyData.int).length := by
    refine sFor_inv (ds := ns.map .int) (γ0 := S__law_tray_1 (.scr ns) (.int 314159265358979) (.lst [])) rfl (fun i γ => ∃ fold g, γ = S__law_tray_1 (.scr ns) (.int fold) (.lst (iM g)) ∧ 0 ≤ fold ∧ fold < 2 ^ 61 ∧ g.length ≤ i) ⟨314159265358979, [], rfl, by omega, by omega, Nat.le_refl 0⟩ ?_
    rintro i d γ hd ⟨fold, g, rfl, h1, h2, h3⟩
    obtain ⟨z, hz, rfl⟩ := ints_get hd
    have hi : i < 63 := by have := (List.getElem?_eq_some_iff.mp hz).1; omega
    obtain ⟨s, hs⟩ : ∃ s, gMax2 [.int z, .int (-z)] = some (.int s) := ⟨_, rfl⟩
    have hg : (iM g).length < 16777216 := by rw [iM_len]; omega
    have hm := Int.emod_nonneg (fold * 1000003 + z) (b := 2305843009213693951) (by decide)
    have hm2 := Int.emod_lt_of_pos (fold * 1000003 + z) (b := 2305843009213693951) (by decide)
    have hm3 : (fold * 1000003 + z) % 2305843009213693951 < 2 ^ 61 := by omega
    by_cases hge : 1000000000000000000 ≤ s
    · refine ⟨_, _, rfl, .inl ?_, _, g ++ [s - 1000000000000000000], rfl, hm, hm3, by simp; omega⟩
      simp [bd__law_tray_1, EAll, BAll, okArgs, back, atI, ixN, blD, flatD, Tw.gSub, gNeg, gLt, gLe, gGt, gGe, mkTup, fzs, partsOf, takeAll, putAll, intD, Option.bind, Option.map, gNot, sizeLine_eq, flatM, flatT, flatMs, flatTs, gMul_r (j := 1000003) (by decide), adjG, frzAt, parG, gPow, gMod, hs, hge, hg, iM_app]
    · refine ⟨_, _, rfl, .inl ?_, _, g, rfl, hm, hm3, by omega⟩
      simp [bd__law_tray_1, EAll, BAll, okArgs, back, atI, ixN, blD, flatD, Tw.gSub, gNeg, gLt, gLe, gGt, gGe, mkTup, fzs, partsOf, takeAll, putAll, intD, Option.bind, Option.map, gNot, sizeLine_eq, flatM, flatT, flatMs, flatTs, gMul_r (j := 1000003) (by decide), adjG, frzAt, parG, gPow, gMod, hs, hge]
  rw [List.length_map] at h5
  refine ⟨trM g 0 fold 0, ?_, g, 0, fold, 0, rfl, h3, h4, by omega, by omega, by omega⟩
  simp [m__law_tray, lp__law_tray_1, e_runF, EAll, BAll, okArgs, back, atI, ixN, blD, flatD, Tw.gSub, gNeg, gLt, gLe, gGt, gGe, mkTup, fzs, partsOf, takeAll, putAll, intD, Option.bind, Option.map, gNot, sizeLine_eq, flatM, flatT, flatMs, flatTs, gMul_r (j := 1000003) (by decide), adjG, frzAt, parG, h1, trM]
/-- one draw -/
theorem draw_ok {t : M} {n : Nat} {many : Int} (h : TrOk (n + 1) t) (hm : 0 < many) (hm2 : many ≤ 2 ^ 64) : ∃ r t', m__law_draw [t, .fz (.int many)] = .ok (.fz (.int r)) [t', .fz (.int many)] ∧ 0 ≤ r ∧ r < many ∧ TrOk n t' := by
  obtain ⟨g, a, b, c, rfl, hb, hb2, hc, hn, hg⟩ := h
  obtain ⟨γ', h1, g, a, rfl, hg⟩ : ∃ γ', lp__law_draw_1 (S__law_draw_1 (trM g a b c) (.int many)) = .ok .nx γ' ∧ ∃ g a, γ' = S__law_draw_1 (trM g a b c) (.int many) ∧ g.length ≤ 63 := by
    refine sWhile_inv (fun m γ => ∃ g a, γ = S__law_draw_1 (trM g a b c) (.int many) ∧ g.length ≤ 63 ∧ m = g.length) _ ?_ (m := g.length) (big_ge (by omega)) ⟨g, a, rfl, hg, rfl⟩
    rintro m γ ⟨g, a, rfl, hg, rfl⟩
    have e := gNe_nil g
    by_cases h2 : a < 2
    · cases g with
      | nil => exact .inl ⟨S__law_draw_1 (trM [] a b c) (.int many), by rw [List.map_nil] at e; simp [tt__law_draw_1, e_mView, EAll, BAll, okArgs, back, atI, ixN, blD, flatD, Tw.gSub, gNeg, gLt, gLe, gGt, gGe, mkTup, fzs, partsOf, takeAll, putAll, intD, Option.bind, Option.map, gNot, sizeLine_eq, flatM, flatT, flatMs, flatTs, gMul_r (j := 1000003) (by decide), adjG, frzAt, parG, trM, iM_frz, h2, e], [], a, rfl, hg⟩
      | cons z g =>
        refine .inr ⟨S__law_draw_1 (trM (z :: g) a b c) (.int many), S__law_draw_1 (trM g z b c) (.int many), g.length, ?_, .inl ?_, Nat.lt_succ_self _, g, z, rfl, by simp at hg; omega, rfl⟩
        · rw [List.map_cons] at e
          simp [tt__law_draw_1, e_mView, EAll, BAll, okArgs, back, atI, ixN, blD, flatD, Tw.gSub, gNeg, gLt, gLe, gGt, gGe, mkTup, fzs, partsOf, takeAll, putAll, intD, Option.bind, Option.map, gNot, sizeLine_eq, flatM, flatT, flatMs, flatTs, gMul_r (j := 1000003) (by decide), adjG, frzAt, parG, trM, iM_frz, h2, e]
        · simp [bd__law_draw_1, EAll, BAll, okArgs, back, atI, ixN, blD, flatD, Tw.gSub, gNeg, gLt, gLe, gGt, gGe, mkTup, fzs, partsOf, takeAll, putAll, intD, Option.bind, Option.map, gNot, sizeLine_eq, flatM, flatT, flatMs, flatTs, gMul_r (j := 1000003) (by decide), adjG, frzAt, parG, trM, iM_cons, seqIndex?]
    · exact .inl ⟨S__law_draw_1 (trM g a b c) (.int many), by simp [tt__law_draw_1, e_mView, EAll, BAll, okArgs, back, atI, ixN, blD, flatD, Tw.gSub, gNeg, gLt, gLe, gGt, gGe, mkTup, fzs, partsOf, takeAll, putAll, intD, Option.bind, Option.map, gNot, sizeLine_eq, flatM, flatT, flatMs, flatTs, gMul_r (j := 1000003) (by decide), adjG, frzAt, parG, trM, iM_frz, h2], g, a, rfl, hg⟩
  unfold trM at h1
  by_cases h2 : 2 ≤ a
  · refine ⟨a % many, trM g (a / many) b c, ?_, Int.emod_nonneg _ (by omega), Int.emod_lt_of_pos _ hm, g, _, b, c, rfl, hb, hb2, hc, by omega, hg⟩
    simp [m__law_draw, e_runF, e_mView, EAll, BAll, okArgs, back, atI, ixN, blD, flatD, Tw.gSub, gNeg, gLt, gLe, gGt, gGe, mkTup, fzs, partsOf, takeAll, putAll, intD, Option.bind, Option.map, gNot, sizeLine_eq, flatM, flatT, flatMs, flatTs, gMul_r (j := 1000003) (by decide), adjG, frzAt, parG, h1, trM, iM_frz, h2, gMod_ok hm, gDiv_ok hm hm2]
  · have hb3 : small64 (b + 5) = true := small_of (by omega) (by omega)
    have hq := Int.emod_nonneg ((b + 5) * (c + 1 + 2) ^ 3 + 1000003 * (c + 1)) (b := 2305843009213693951) (by decide)
    have hq2 := Int.emod_lt_of_pos ((b + 5) * (c + 1 + 2) ^ 3 + 1000003 * (c + 1)) (b := 2305843009213693951) (by decide)
    generalize hw : ((b + 5) * (c + 1 + 2) ^ 3 + 1000003 * (c + 1)) % 2305843009213693951 = q at hq hq2
    have p1 : gPow (.int (c + 1 + 2)) (.int 3) = some (.int ((c + 1 + 2) ^ 3)) := gPow_ok (k := 3) (by omega) (by omega)
    have p2 : gPow (.int q) (.int 5) = some (.int (q ^ 5)) := gPow_ok (k := 5) (by omega) (by omega)
    have m1 : gMod (.int ((b + 5) * (c + 1 + 2) ^ 3 + 1000003 * (c + 1))) (.int 2305843009213693951) = some (.int q) := by rw [gMod_ok (by decide), hw]
    have k1 : gPow (.int 2) (.int 61) = some (.int 2305843009213693952) := gPow_ok (k := 61) (by decide) (by decide)
    have k2 : gPow (.int 10) (.int 18) = some (.int 1000000000000000000) := gPow_ok (k := 18) (by decide) (by decide)
    have k3 : gMul (.int 1000003) (.int (c + 1)) = some (.int (1000003 * (c + 1))) := gMul_l (by decide)
    refine ⟨q ^ 5 % 1000000000000000009 / 64 % many, trM g a b (c + 1), ?_, Int.emod_nonneg _ (by omega), Int.emod_lt_of_pos _ hm, g, a, b, c + 1, rfl, hb, hb2, by omega, by omega, hg⟩
    simp [m__law_draw, e_runF, e_mView, EAll, BAll, okArgs, back, atI, ixN, blD, flatD, Tw.gSub, gNeg, gLt, gLe, gGt, gGe, mkTup, fzs, partsOf, takeAll, putAll, intD, Option.bind, Option.map, gNot, sizeLine_eq, flatM, flatT, flatMs, flatTs, gMul_r (j := 1000003) (by decide), adjG, frzAt, parG, h1, trM, iM_frz, h2, p1, k1, k3, gMul_l hb3, m1, p2, k2, gMod_ok (i := q ^ 5) (j := 1000000000000000009) (by decide), gDiv_ok (j := 64) (by decide) (by decide), gMod_ok hm]
end Lwk04
namespace Lwk04
open PySem PySem.Spec L2 Tw
theorem alike_lp {n : Nat} {c : D} {ds : List D} (hc : ∀ i, i < ds.length → gIx c (.int i) = ds[i]?) (ih : ∀ d ∈ ds, m__law_alike n [.fz d, .fz d] = .ok (.fz (.bool true)) [.fz d, .fz d]) :
    loopM (gSet 2) (bd__law_alike_1 (m__law_alike n)) (rngD 0 ds.length) (S__law_alike_1 c c) = .ok .nx (S__law_alike_1 c c) := by
  obtain ⟨γ', h1, rfl⟩ := loopM_inv (g := gSet 2) (mb := bd__law_alike_1 (m__law_alike n)) (fun _ γ => γ = S__law_alike_1 c c) (rngD 0 ds.length) 0 (S__law_alike_1 c c) rfl (by
    rintro i d γ hd rfl
    obtain ⟨hi, rfl⟩ := rngD_get hd
    rw [Int.zero_add]
    have e := hc i hi
    rw [List.getElem?_eq_getElem hi] at e
    have f := ih ds[i] (List.getElem_mem hi)
    refine ⟨_, _, rfl, .inl ?_, rfl⟩
    generalize ds[i] = d at e f
    simp [bd__law_alike_1, EAll, adjG, e, f, nonOwn_fz, truD])
  exact h1
theorem alike_non (n : Nat) : m__law_alike (n + 1) [.fz .none, .fz .none] = .ok (.fz (.bool true)) [.fz .none, .fz .none] := by
  rw [m__law_alike]
  generalize m__law_alike n = self
  simp [e_runF, EAll, BAll, okArgs, back, atI, ixN, blD, flatD, Tw.gSub, gNeg, gLt, gLe, gGt, gGe, mkTup, fzs, partsOf, takeAll, putAll, intD, Option.bind, Option.map, gNot, sizeLine_eq, flatM, flatT, flatMs, flatTs, gMul_r (j := 1000003) (by decide), adjG, frzAt, parG]
theorem alike_bl (n : Nat) (b : Bool) : m__law_alike (n + 1) [.fz (.bool b), .fz (.bool b)] = .ok (.fz (.bool true)) [.fz (.bool b), .fz (.bool b)] := by
  rw [m__law_alike]
  generalize m__law_alike n = self
  simp [e_runF, EAll, BAll, okArgs, back, atI, ixN, blD, flatD, Tw.gSub, gNeg, gLt, gLe, gGt, gGe, mkTup, fzs, partsOf, takeAll, putAll, intD, Option.bind, Option.map, gNot, sizeLine_eq, flatM, flatT, flatMs, flatTs, gMul_r (j := 1000003) (by decide), adjG, frzAt, parG, gIsi, isB, gEq_bool]
theorem alike_int (n : Nat) (b : Int) : m__law_alike (n + 1) [.fz (.int b), .fz (.int b)] = .ok (.fz (.bool true)) [.fz (.int b), .fz (.int b)] := by
  rw [m__law_alike]
  generalize m__law_alike n = self
  simp [e_runF, EAll, BAll, okArgs, back, atI, ixN, blD, flatD, Tw.gSub, gNeg, gLt, gLe, gGt, gGe, mkTup, fzs, partsOf, takeAll, putAll, intD, Option.bind, Option.map, gNot, sizeLine_eq, flatM, flatT, flatMs, flatTs, gMul_r (j := 1000003) (by decide), adjG, frzAt, parG, gIsi, isB]
theorem alike_str (n : Nat) (x : Str) (h : PyData.strOk x = true) : m__law_alike (n + 1) [.fz (.str x), .fz (.str x)] = .ok (.fz (.bool true)) [.fz (.str x), .fz (.str x)] := by
  rw [m__law_alike]
  generalize m__law_alike n = self
  simp [e_runF, EAll, BAll, okArgs, back, atI, ixN, blD, flatD, Tw.gSub, gNeg, gLt, gLe, gGt, gGe, mkTup, fzs, partsOf, takeAll, putAll, intD, Option.bind, Option.map, gNot, sizeLine_eq, flatM, flatT, flatMs, flatTs, gMul_r (j := 1000003) (by decide), adjG, frzAt, parG, gIsi, isB, gEq_same h]
theorem alike_lst {n : Nat} {ds : List D} (hl : ds.length ≤ 1048576) (ih : ∀ d ∈ ds, m__law_alike n [.fz d, .fz d] = .ok (.fz (.bool true)) [.fz d, .fz d]) : m__law_alike (n + 1) [.fz (.list ds), .fz (.list ds)] = .ok (.fz (.bool true)) [.fz (.list ds), .fz (.list ds)] := by
  have hy := alike_lp (n := n) (c := .list ds) (ds := ds) (fun i hi => by rw [List.getElem?_eq_getElem hi]; exact atI_nat hi) ih
  have hr := rng1_len hl
  rw [m__law_alike]
  generalize m__law_alike n = self at hy
  simp [lp__law_alike_1, e_runF, EAll, BAll, okArgs, back, atI, ixN, blD, flatD, Tw.gSub, gNeg, gLt, gLe, gGt, gGe, mkTup, fzs, partsOf, takeAll, putAll, intD, Option.bind, Option.map, gNot, sizeLine_eq, flatM, flatT, flatMs, flatTs, gMul_r (j := 1000003) (by decide), adjG, frzAt, parG, gIsi, isB, gNe_bool, gLen, e_sForX, hr, hy]
theorem alike_tup {n : Nat} {ds : List D} (hl : ds.length ≤ 1048576) (ih : ∀ d ∈ ds, m__law_alike n [.fz d, .fz d] = .ok (.fz (.bool true)) [.fz d, .fz d]) : m__law_alike (n + 1) [.fz (.tuple ds), .fz (.tuple ds)] = .ok (.fz (.bool true)) [.fz (.tuple ds), .fz (.tuple ds)] := by
  have hy := alike_lp (n := n) (c := .tuple ds) (ds := ds) (fun i hi => by rw [List.getElem?_eq_getElem hi]; exact atI_nat hi) ih
  have hr := rng1_len hl
  rw [m__law_alike]
  generalize m__law_alike n = self at hy
  simp [lp__law_alike_1, e_runF, EAll, BAll, okArgs, back, atI, ixN, blD, flatD, Tw.gSub, gNeg, gLt, gLe, gGt, gGe, mkTup, fzs, partsOf, takeAll, putAll, intD, Option.bind, Option.map, gNot, sizeLine_eq, flatM, flatT, flatMs, flatTs, gMul_r (j := 1000003) (by decide), adjG, frzAt, parG, gIsi, isB, gNe_bool, gLen, e_sForX, hr, hy]
theorem alike_ok : ∀ {n : Nat} {d : D}, Alk n d → m__law_alike (n + 1) [.fz d, .fz d] = .ok (.fz (.bool true)) [.fz d, .fz d] := by
  intro n d h
  induction h with
  | non n => exact alike_non n
  | bl n b => exact alike_bl n b
  | int n i => exact alike_int n i
  | str n x h => exact alike_str n x h
  | lst n ds h hl ih => exact alike_lst hl ih
  | tup n ds h hl ih => exact alike_tup hl ih
end Lwk04
namespace Lwk04
open PySem PySem.Spec L2 Tw
theorem drawN_ok {t : M} {n : Nat} (many : Nat) (h : TrOk (n + 1) t) (hm : 0 < many) (hm2 : many ≤ 2 ^ 64) : ∃ (r : Nat) (t' : M), m__law_draw [t, .fz (.int many)] = .ok (.fz (.int r)) [t', .fz (.int many)] ∧ r < many ∧ TrOk n t' := by
  obtain ⟨r, t', h1, h2, h3, h4⟩ := draw_ok (many := many) h (by omega) (by omega)
  obtain ⟨m, rfl⟩ : ∃ m : Nat, r = m := ⟨r.toNat, (Int.toNat_of_nonneg h2).symm⟩
  exact ⟨m, t', h1, by omega, h4⟩
theorem worth_ok {t : M} {n : Nat} (h : TrOk (n + 2) t) : ∃ r t', m__law_worth [t] = .ok (.fz (.int r)) [t'] ∧ Worth r ∧ TrOk n t' := by
  obtain ⟨k, t1, h1, h3, h4⟩ := drawN_ok 6 h (by decide) (by decide)
  by_cases hk : k < 3
  · have : k = 0 ∨ k = 1 ∨ k = 2 := by omega
    rcases this with rfl | rfl | rfl
    · exact ⟨0, t1, by simp at h1; simp [m__law_worth, e_runF, EAll, BAll, okArgs, back, atI, ixN, blD, flatD, Tw.gSub, gNeg, gLt, gLe, gGt, gGe, mkTup, fzs, partsOf, takeAll, putAll, intD, Option.bind, Option.map, gNot, sizeLine_eq, flatM, flatT, flatMs, flatTs, gMul_r (j := 1000003) (by decide), adjG, frzAt, parG, h.live, h4.live, h1], ⟨by decide, by decide⟩, h4.less (by omega)⟩
    · exact ⟨1, t1, by simp at h1; simp [m__law_worth, e_runF, EAll, BAll, okArgs, back, atI, ixN, blD, flatD, Tw.gSub, gNeg, gLt, gLe, gGt, gGe, mkTup, fzs, partsOf, takeAll, putAll, intD, Option.bind, Option.map, gNot, sizeLine_eq, flatM, flatT, flatMs, flatTs, gMul_r (j := 1000003) (by decide), adjG, frzAt, parG, h.live, h4.live, h1], ⟨by decide, by decide⟩, h4.less (by omega)⟩
    · exact ⟨4294967295, t1, by simp at h1; simp [m__law_worth, e_runF, EAll, BAll, okArgs, back, atI, ixN, blD, flatD, Tw.gSub, gNeg, gLt, gLe, gGt, gGe, mkTup, fzs, partsOf, takeAll, putAll, intD, Option.bind, Option.map, gNot, sizeLine_eq, flatM, flatT, flatMs, flatTs, gMul_r (j := 1000003) (by decide), adjG, frzAt, parG, h.live, h4.live, h1], ⟨by decide, by decide⟩, h4.less (by omega)⟩
  · have hk' : ¬ (k : Int) < 3 := by omega
    by_cases hk3 : k = 3
    · subst hk3
      obtain ⟨r, t2, k1, k2, k3, k4⟩ := draw_ok (many := 20) h4 (by decide) (by decide)
      exact ⟨r, t2, by simp at h1; simp [m__law_worth, e_runF, EAll, BAll, okArgs, back, atI, ixN, blD, flatD, Tw.gSub, gNeg, gLt, gLe, gGt, gGe, mkTup, fzs, partsOf, takeAll, putAll, intD, Option.bind, Option.map, gNot, sizeLine_eq, flatM, flatT, flatMs, flatTs, gMul_r (j := 1000003) (by decide), adjG, frzAt, parG, h.live, h4.live, k4.live, h1, k1], ⟨k2, by omega⟩, k4⟩
    · have hk3' : ¬ (k : Int) = 3 := by omega
      obtain ⟨r, t2, k1, k2, k3, k4⟩ := draw_ok (many := 4294967296) h4 (by decide) (by decide)
      exact ⟨r, t2, by simp at h1; simp [m__law_worth, e_runF, EAll, BAll, okArgs, back, atI, ixN, blD, flatD, Tw.gSub, gNeg, gLt, gLe, gGt, gGe, mkTup, fzs, partsOf, takeAll, putAll, intD, Option.bind, Option.map, gNot, sizeLine_eq, flatM, flatT, flatMs, flatTs, gMul_r (j := 1000003) (by decide), adjG, frzAt, parG, h.live, h4.live, k4.live, h1, k1, hk', hk3'], ⟨k2, k3⟩, k4⟩
end Lwk04
namespace Lwk04
open PySem PySem.Spec L2 Tw
theorem q_put_put : gEq (.str "put") (.str "put") = some (.bool true) := by kernel_rfl
theorem q_put_sum : gEq (.str "put") (.str "sum") = some (.bool false) := by kernel_rfl
theorem q_put_mul : gEq (.str "put") (.str "mul") = some (.bool false) := by kernel_rfl
theorem q_put_less : gEq (.str "put") (.str "less") = some (.bool false) := by kernel_rfl
theorem q_put_take : gEq (.str "put") (.str "take") = some (.bool false) := by kernel_rfl
theorem q_put_lay : gEq (.str "put") (.str "lay") = some (.bool false) := by kernel_rfl
theorem q_put_go : gEq (.str "put") (.str "go") = some (.bool false) := by kernel_rfl
theorem q_put_shut : gEq (.str "put") (.str "shut") = some (.bool false) := by kernel_rfl
theorem q_put_open : gEq (.str "put") (.str "open") = some (.bool false) := by kernel_rfl
theorem q_put_home : gEq (.str "put") (.str "home") = some (.bool false) := by kernel_rfl
theorem q_sum_put : gEq (.str "sum") (.str "put") = some (.bool false) := by kernel_rfl
theorem q_sum_sum : gEq (.str "sum") (.str "sum") = some (.bool true) := by kernel_rfl
theorem q_sum_mul : gEq (.str "sum") (.str "mul") = some (.bool false) := by kernel_rfl
theorem q_sum_less : gEq (.str "sum") (.str "less") = some (.bool false) := by kernel_rfl
theorem q_sum_take : gEq (.str "sum") (.str "take") = some (.bool false) := by kernel_rfl
theorem q_sum_lay : gEq (.str "sum") (.str "lay") = some (.bool false) := by kernel_rfl
theorem q_sum_go : gEq (.str "sum") (.str "go") = some (.bool false) := by kernel_rfl
theorem q_sum_shut : gEq (.str "sum") (.str "shut") = some (.bool false) := by kernel_rfl
theorem q_sum_open : gEq (.str "sum") (.str "open") = some (.bool false) := by kernel_rfl
theorem q_sum_home : gEq (.str "sum") (.str "home") = some (.bool false) := by kernel_rfl
theorem q_mul_put : gEq (.str "mul") (.str "put") = some (.bool false) := by kernel_rfl
theorem q_mul_sum : gEq (.str "mul") (.str "sum") = some (.bool false) := by kernel_rfl
theorem q_mul_mul : gEq (.str "mul") (.str "mul") = some (.bool true) := by kernel_rfl
theorem q_mul_less : gEq (.str "mul") (.str "less") = some (.bool false) := by kernel_rfl
theorem q_mul_take : gEq (.str "mul") (.str "take") = some (.bool false) := by kernel_rfl
theorem q_mul_lay : gEq (.str "mul") (.str "lay") = some (.bool false) := by kernel_rfl
theorem q_mul_go : gEq (.str "mul") (.str "go") = some (.bool false) := by kernel_rfl
theorem q_mul_shut : gEq (.str "mul") (.str "shut") = some (.bool false) := by kernel_rfl
theorem q_mul_open : gEq (.str "mul") (.str "open") = some (.bool false) := by kernel_rfl
theorem q_mul_home : gEq (.str "mul") (.str "home") = some (.bool false) := by kernel_rfl
theorem q_less_put : gEq (.str "less") (.str "put") = some (.bool false) := by kernel_rfl
theorem q_less_sum : gEq (.str "less") (.str "sum") = some (.bool false) := by kernel_rfl
theorem q_less_mul : gEq (.str "less") (.str "mul") = some (.bool false) := by kernel_rfl
theorem q_less_less : gEq (.str "less") (.str "less") = some (.bool true) := by kernel_rfl
theorem q_less_take : gEq (.str "less") (.str "take") = some (.bool false) := by kernel_rfl
theorem q_less_lay : gEq (.str "less") (.str "lay") = some (.bool false) := by kernel_rfl
theorem q_less_go : gEq (.str "less") (.str "go") = some (.bool false) := by kernel_rfl
theorem q_less_shut : gEq (.str "less") (.str "shut") = some (.bool false) := by kernel_rfl
theorem q_less_open : gEq (.str "less") (.str "open") = some (.bool false) := by kernel_rfl
theorem q_less_home : gEq (.str "less") (.str "home") = some (.bool false) := by kernel_rfl
theorem q_take_put : gEq (.str "take") (.str "put") = some (.bool false) := by kernel_rfl
theorem q_take_sum : gEq (.str "take") (.str "sum") = some (.bool false) := by kernel_rfl
theorem q_take_mul : gEq (.str "take") (.str "mul") = some (.bool false) := by kernel_rfl
theorem q_take_less : gEq (.str "take") (.str "less") = some (.bool false) := by kernel_rfl
theorem q_take_take : gEq (.str "take") (.str "take") = some (.bool true) := by kernel_rfl
theorem q_take_lay : gEq (.str "take") (.str "lay") = some (.bool false) := by kernel_rfl
theorem q_take_go : gEq (.str "take") (.str "go") = some (.bool false) := by kernel_rfl
theorem q_take_shut : gEq (.str "take") (.str "shut") = some (.bool false) := by kernel_rfl
theorem q_take_open : gEq (.str "take") (.str "open") = some (.bool false) := by kernel_rfl
theorem q_take_home : gEq (.str "take") (.str "home") = some (.bool false) := by kernel_rfl
theorem q_lay_put : gEq (.str "lay") (.str "put") = some (.bool false) := by kernel_rfl
theorem q_lay_sum : gEq (.str "lay") (.str "sum") = some (.bool false) := by kernel_rfl
theorem q_lay_mul : gEq (.str "lay") (.str "mul") = some (.bool false) := by kernel_rfl
theorem q_lay_less : gEq (.str "lay") (.str "less") = some (.bool false) := by kernel_rfl
theorem q_lay_take : gEq (.str "lay") (.str "take") = some (.bool false) := by kernel_rfl
theorem q_lay_lay : gEq (.str "lay") (.str "lay") = some (.bool true) := by kernel_rfl
theorem q_lay_go : gEq (.str "lay") (.str "go") = some (.bool false) := by kernel_rfl
theorem q_lay_shut : gEq (.str "lay") (.str "shut") = some (.bool false) := by kernel_rfl
theorem q_lay_open : gEq (.str "lay") (.str "open") = some (.bool false) := by kernel_rfl
theorem q_lay_home : gEq (.str "lay") (.str "home") = some (.bool false) := by kernel_rfl
theorem q_go_put : gEq (.str "go") (.str "put") = some (.bool false) := by kernel_rfl
theorem q_go_sum : gEq (.str "go") (.str "sum") = some (.bool false) := by kernel_rfl
theorem q_go_mul : gEq (.str "go") (.str "mul") = some (.bool false) := by kernel_rfl
theorem q_go_less : gEq (.str "go") (.str "less") = some (.bool false) := by kernel_rfl
theorem q_go_take : gEq (.str "go") (.str "take") = some (.bool false) := by kernel_rfl
theorem q_go_lay : gEq (.str "go") (.str "lay") = some (.bool false) := by kernel_rfl
theorem q_go_go : gEq (.str "go") (.str "go") = some (.bool true) := by kernel_rfl
theorem q_go_shut : gEq (.str "go") (.str "shut") = some (.bool false) := by kernel_rfl
theorem q_go_open : gEq (.str "go") (.str "open") = some (.bool false) := by kernel_rfl
theorem q_go_home : gEq (.str "go") (.str "home") = some (.bool false) := by kernel_rfl
theorem q_shut_put : gEq (.str "shut") (.str "put") = some (.bool false) := by kernel_rfl
theorem q_shut_sum : gEq (.str "shut") (.str "sum") = some (.bool false) := by kernel_rfl
theorem q_shut_mul : gEq (.str "shut") (.str "mul") = some (.bool false) := by kernel_rfl
theorem q_shut_less : gEq (.str "shut") (.str "less") = some (.bool false) := by kernel_rfl
theorem q_shut_take : gEq (.str "shut") (.str "take") = some (.bool false) := by kernel_rfl
theorem q_shut_lay : gEq (.str "shut") (.str "lay") = some (.bool false) := by kernel_rfl
theorem q_shut_go : gEq (.str "shut") (.str "go") = some (.bool false) := by kernel_rfl
theorem q_shut_shut : gEq (.str "shut") (.str "shut") = some (.bool true) := by kernel_rfl
theorem q_shut_open : gEq (.str "shut") (.str "open") = some (.bool false) := by kernel_rfl
theorem q_shut_home : gEq (.str "shut") (.str "home") = some (.bool false) := by kernel_rfl
theorem q_open_put : gEq (.str "open") (.str "put") = some (.bool false) := by kernel_rfl
theorem q_open_sum : gEq (.str "open") (.str "sum") = some (.bool false) := by kernel_rfl
theorem q_open_mul : gEq (.str "open") (.str "mul") = some (.bool false) := by kernel_rfl
theorem q_open_less : gEq (.str "open") (.str "less") = some (.bool false) := by kernel_rfl
theorem q_open_take : gEq (.str "open") (.str "take") = some (.bool false) := by kernel_rfl
theorem q_open_lay : gEq (.str "open") (.str "lay") = some (.bool false) := by kernel_rfl
theorem q_open_go : gEq (.str "open") (.str "go") = some (.bool false) := by kernel_rfl
theorem q_open_shut : gEq (.str "open") (.str "shut") = some (.bool false) := by kernel_rfl
theorem q_open_open : gEq (.str "open") (.str "open") = some (.bool true) := by kernel_rfl
theorem q_open_home : gEq (.str "open") (.str "home") = some (.bool false) := by kernel_rfl
theorem q_home_put : gEq (.str "home") (.str "put") = some (.bool false) := by kernel_rfl
theorem q_home_sum : gEq (.str "home") (.str "sum") = some (.bool false) := by kernel_rfl
theorem q_home_mul : gEq (.str "home") (.str "mul") = some (.bool false) := by kernel_rfl
theorem q_home_less : gEq (.str "home") (.str "less") = some (.bool false) := by kernel_rfl
theorem q_home_take : gEq (.str "home") (.str "take") = some (.bool false) := by kernel_rfl
theorem q_home_lay : gEq (.str "home") (.str "lay") = some (.bool false) := by kernel_rfl
theorem q_home_go : gEq (.str "home") (.str "go") = some (.bool false) := by kernel_rfl
theorem q_home_shut : gEq (.str "home") (.str "shut") = some (.bool false) := by kernel_rfl
theorem q_home_open : gEq (.str "home") (.str "open") = some (.bool false) := by kernel_rfl
theorem q_home_home : gEq (.str "home") (.str "home") = some (.bool true) := by kernel_rfl
theorem row_ok {t : M} {n many : Nat} (h : TrOk (n + 8) t) (hm2 : many ≤ 2 ^ 40) : ∃ r t', m__law_row [t, .fz (.int many)] = .ok (.fz (rowD r)) [t', .fz (.int many)] ∧ r.Ok many ∧ TrOk n t' := by
  obtain ⟨k, t1, h1, h3, h4⟩ := drawN_ok 10 h (by decide) (by decide)
  have hk : k = 0 ∨ k = 1 ∨ k = 2 ∨ k = 3 ∨ k = 4 ∨ k = 5 ∨ k = 6 ∨ k = 7 ∨ k = 8 ∨ k = 9 := by omega
  obtain ⟨a, t2, a1, a3, a4⟩ := drawN_ok 8 h4 (by decide) (by decide)
  obtain ⟨b, t3, b1, b3, b4⟩ := drawN_ok 8 a4 (by decide) (by decide)
  simp at h1 a1 b1
  rcases hk with rfl | rfl | rfl | rfl | rfl | rfl | rfl | rfl | rfl | rfl
  · obtain ⟨w, t3, w1, w2, w4⟩ := worth_ok (n := n) (a4.less (by omega))
    exact ⟨.put a w, t3, by simp at h1; simp [m__law_row, e_runF, EAll, BAll, okArgs, back, atI, ixN, blD, flatD, Tw.gSub, gNeg, gLt, gLe, gGt, gGe, mkTup, fzs, partsOf, takeAll, putAll, intD, Option.bind, Option.map, gNot, sizeLine_eq, flatM, flatT, flatMs, flatTs, gMul_r (j := 1000003) (by decide), adjG, frzAt, parG, h.live, h4.live, a4.live, w4.live, h1, a1, w1, q_put_put, q_put_sum, q_put_mul, q_put_less, q_put_take, q_put_lay, q_put_go, q_put_shut, q_put_open, q_put_home, q_sum_put, q_sum_sum, q_sum_mul, q_sum_less, q_sum_take, q_sum_lay, q_sum_go, q_sum_shut, q_sum_open, q_sum_home, q_mul_put, q_mul_sum, q_mul_mul, q_mul_less, q_mul_take, q_mul_lay, q_mul_go, q_mul_shut, q_mul_open, q_mul_home, q_less_put, q_less_sum, q_less_mul, q_less_less, q_less_take, q_less_lay, q_less_go, q_less_shut, q_less_open, q_less_home, q_take_put, q_take_sum, q_take_mul, q_take_less, q_take_take, q_take_lay, q_take_go, q_take_shut, q_take_open, q_take_home, q_lay_put, q_lay_sum, q_lay_mul, q_lay_less, q_lay_take, q_lay_lay, q_lay_go, q_lay_shut, q_lay_open, q_lay_home, q_go_put, q_go_sum, q_go_mul, q_go_less, q_go_take, q_go_lay, q_go_go, q_go_shut, q_go_open, q_go_home, q_shut_put, q_shut_sum, q_shut_mul, q_shut_less, q_shut_take, q_shut_lay, q_shut_go, q_shut_shut, q_shut_open, q_shut_home, q_open_put, q_open_sum, q_open_mul, q_open_less, q_open_take, q_open_lay, q_open_go, q_open_shut, q_open_open, q_open_home, q_home_put, q_home_sum, q_home_mul, q_home_less, q_home_take, q_home_lay, q_home_go, q_home_shut, q_home_open, q_home_home] <;> rfl, ⟨a3, w2.1, w2.2⟩, w4⟩
  · obtain ⟨c, t4, c1, c3, c4⟩ := drawN_ok 8 b4 (by decide) (by decide)
    exact ⟨.sum a b c, t4, by simp at h1 c1; simp [m__law_row, e_runF, EAll, BAll, okArgs, back, atI, ixN, blD, flatD, Tw.gSub, gNeg, gLt, gLe, gGt, gGe, mkTup, fzs, partsOf, takeAll, putAll, intD, Option.bind, Option.map, gNot, sizeLine_eq, flatM, flatT, flatMs, flatTs, gMul_r (j := 1000003) (by decide), adjG, frzAt, parG, h.live, h4.live, a4.live, b4.live, c4.live, h1, a1, b1, c1, q_put_put, q_put_sum, q_put_mul, q_put_less, q_put_take, q_put_lay, q_put_go, q_put_shut, q_put_open, q_put_home, q_sum_put, q_sum_sum, q_sum_mul, q_sum_less, q_sum_take, q_sum_lay, q_sum_go, q_sum_shut, q_sum_open, q_sum_home, q_mul_put, q_mul_sum, q_mul_mul, q_mul_less, q_mul_take, q_mul_lay, q_mul_go, q_mul_shut, q_mul_open, q_mul_home, q_less_put, q_less_sum, q_less_mul, q_less_less, q_less_take, q_less_lay, q_less_go, q_less_shut, q_less_open, q_less_home, q_take_put, q_take_sum, q_take_mul, q_take_less, q_take_take, q_take_lay, q_take_go, q_take_shut, q_take_open, q_take_home, q_lay_put, q_lay_sum, q_lay_mul, q_lay_less, q_lay_take, q_lay_lay, q_lay_go, q_lay_shut, q_lay_open, q_lay_home, q_go_put, q_go_sum, q_go_mul, q_go_less, q_go_take, q_go_lay, q_go_go, q_go_shut, q_go_open, q_go_home, q_shut_put, q_shut_sum, q_shut_mul, q_shut_less, q_shut_take, q_shut_lay, q_shut_go, q_shut_shut, q_shut_open, q_shut_home, q_open_put, q_open_sum, q_open_mul, q_open_less, q_open_take, q_open_lay, q_open_go, q_open_shut, q_open_open, q_open_home, q_home_put, q_home_sum, q_home_mul, q_home_less, q_home_take, q_home_lay, q_home_go, q_home_shut, q_home_open, q_home_home] <;> rfl, ⟨a3, b3, c3⟩, c4.less (by omega)⟩
  · obtain ⟨c, t4, c1, c3, c4⟩ := drawN_ok 8 b4 (by decide) (by decide)
    exact ⟨.mul a b c, t4, by simp at h1 c1; simp [m__law_row, e_runF, EAll, BAll, okArgs, back, atI, ixN, blD, flatD, Tw.gSub, gNeg, gLt, gLe, gGt, gGe, mkTup, fzs, partsOf, takeAll, putAll, intD, Option.bind, Option.map, gNot, sizeLine_eq, flatM, flatT, flatMs, flatTs, gMul_r (j := 1000003) (by decide), adjG, frzAt, parG, h.live, h4.live, a4.live, b4.live, c4.live, h1, a1, b1, c1, q_put_put, q_put_sum, q_put_mul, q_put_less, q_put_take, q_put_lay, q_put_go, q_put_shut, q_put_open, q_put_home, q_sum_put, q_sum_sum, q_sum_mul, q_sum_less, q_sum_take, q_sum_lay, q_sum_go, q_sum_shut, q_sum_open, q_sum_home, q_mul_put, q_mul_sum, q_mul_mul, q_mul_less, q_mul_take, q_mul_lay, q_mul_go, q_mul_shut, q_mul_open, q_mul_home, q_less_put, q_less_sum, q_less_mul, q_less_less, q_less_take, q_less_lay, q_less_go, q_less_shut, q_less_open, q_less_home, q_take_put, q_take_sum, q_take_mul, q_take_less, q_take_take, q_take_lay, q_take_go, q_take_shut, q_take_open, q_take_home, q_lay_put, q_lay_sum, q_lay_mul, q_lay_less, q_lay_take, q_lay_lay, q_lay_go, q_lay_shut, q_lay_open, q_lay_home, q_go_put, q_go_sum, q_go_mul, q_go_less, q_go_take, q_go_lay, q_go_go, q_go_shut, q_go_open, q_go_home, q_shut_put, q_shut_sum, q_shut_mul, q_shut_less, q_shut_take, q_shut_lay, q_shut_go, q_shut_shut, q_shut_open, q_shut_home, q_open_put, q_open_sum, q_open_mul, q_open_less, q_open_take, q_open_lay, q_open_go, q_open_shut, q_open_open, q_open_home, q_home_put, q_home_sum, q_home_mul, q_home_less, q_home_take, q_home_lay, q_home_go, q_home_shut, q_home_open, q_home_home] <;> rfl, ⟨a3, b3, c3⟩, c4.less (by omega)⟩
  · obtain ⟨c, t4, c1, c3, c4⟩ := drawN_ok 8 b4 (by decide) (by decide)
    exact ⟨.less a b c, t4, by simp at h1 c1; simp [m__law_row, e_runF, EAll, BAll, okArgs, back, atI, ixN, blD, flatD, Tw.gSub, gNeg, gLt, gLe, gGt, gGe, mkTup, fzs, partsOf, takeAll, putAll, intD, Option.bind, Option.map, gNot, sizeLine_eq, flatM, flatT, flatMs, flatTs, gMul_r (j := 1000003) (by decide), adjG, frzAt, parG, h.live, h4.live, a4.live, b4.live, c4.live, h1, a1, b1, c1, q_put_put, q_put_sum, q_put_mul, q_put_less, q_put_take, q_put_lay, q_put_go, q_put_shut, q_put_open, q_put_home, q_sum_put, q_sum_sum, q_sum_mul, q_sum_less, q_sum_take, q_sum_lay, q_sum_go, q_sum_shut, q_sum_open, q_sum_home, q_mul_put, q_mul_sum, q_mul_mul, q_mul_less, q_mul_take, q_mul_lay, q_mul_go, q_mul_shut, q_mul_open, q_mul_home, q_less_put, q_less_sum, q_less_mul, q_less_less, q_less_take, q_less_lay, q_less_go, q_less_shut, q_less_open, q_less_home, q_take_put, q_take_sum, q_take_mul, q_take_less, q_take_take, q_take_lay, q_take_go, q_take_shut, q_take_open, q_take_home, q_lay_put, q_lay_sum, q_lay_mul, q_lay_less, q_lay_take, q_lay_lay, q_lay_go, q_lay_shut, q_lay_open, q_lay_home, q_go_put, q_go_sum, q_go_mul, q_go_less, q_go_take, q_go_lay, q_go_go, q_go_shut, q_go_open, q_go_home, q_shut_put, q_shut_sum, q_shut_mul, q_shut_less, q_shut_take, q_shut_lay, q_shut_go, q_shut_shut, q_shut_open, q_shut_home, q_open_put, q_open_sum, q_open_mul, q_open_less, q_open_take, q_open_lay, q_open_go, q_open_shut, q_open_open, q_open_home, q_home_put, q_home_sum, q_home_mul, q_home_less, q_home_take, q_home_lay, q_home_go, q_home_shut, q_home_open, q_home_home] <;> rfl, ⟨a3, b3, c3⟩, c4.less (by omega)⟩
  · obtain ⟨c, t4, c1, c3, c4⟩ := drawN_ok 16 b4 (by decide) (by decide)
    exact ⟨.take a b c, t4, by simp at h1 c1; simp [m__law_row, e_runF, EAll, BAll, okArgs, back, atI, ixN, blD, flatD, Tw.gSub, gNeg, gLt, gLe, gGt, gGe, mkTup, fzs, partsOf, takeAll, putAll, intD, Option.bind, Option.map, gNot, sizeLine_eq, flatM, flatT, flatMs, flatTs, gMul_r (j := 1000003) (by decide), adjG, frzAt, parG, h.live, h4.live, a4.live, b4.live, c4.live, h1, a1, b1, c1, q_put_put, q_put_sum, q_put_mul, q_put_less, q_put_take, q_put_lay, q_put_go, q_put_shut, q_put_open, q_put_home, q_sum_put, q_sum_sum, q_sum_mul, q_sum_less, q_sum_take, q_sum_lay, q_sum_go, q_sum_shut, q_sum_open, q_sum_home, q_mul_put, q_mul_sum, q_mul_mul, q_mul_less, q_mul_take, q_mul_lay, q_mul_go, q_mul_shut, q_mul_open, q_mul_home, q_less_put, q_less_sum, q_less_mul, q_less_less, q_less_take, q_less_lay, q_less_go, q_less_shut, q_less_open, q_less_home, q_take_put, q_take_sum, q_take_mul, q_take_less, q_take_take, q_take_lay, q_take_go, q_take_shut, q_take_open, q_take_home, q_lay_put, q_lay_sum, q_lay_mul, q_lay_less, q_lay_take, q_lay_lay, q_lay_go, q_lay_shut, q_lay_open, q_lay_home, q_go_put, q_go_sum, q_go_mul, q_go_less, q_go_take, q_go_lay, q_go_go, q_go_shut, q_go_open, q_go_home, q_shut_put, q_shut_sum, q_shut_mul, q_shut_less, q_shut_take, q_shut_lay, q_shut_go, q_shut_shut, q_shut_open, q_shut_home, q_open_put, q_open_sum, q_open_mul, q_open_less, q_open_take, q_open_lay, q_open_go, q_open_shut, q_open_open, q_open_home, q_home_put, q_home_sum, q_home_mul, q_home_less, q_home_take, q_home_lay, q_home_go, q_home_shut, q_home_open, q_home_home] <;> rfl, ⟨a3, b3, c3⟩, c4.less (by omega)⟩
  · obtain ⟨c, t4, c1, c3, c4⟩ := drawN_ok 16 b4 (by decide) (by decide)
    exact ⟨.lay a b c, t4, by simp at h1 c1; simp [m__law_row, e_runF, EAll, BAll, okArgs, back, atI, ixN, blD, flatD, Tw.gSub, gNeg, gLt, gLe, gGt, gGe, mkTup, fzs, partsOf, takeAll, putAll, intD, Option.bind, Option.map, gNot, sizeLine_eq, flatM, flatT, flatMs, flatTs, gMul_r (j := 1000003) (by decide), adjG, frzAt, parG, h.live, h4.live, a4.live, b4.live, c4.live, h1, a1, b1, c1, q_put_put, q_put_sum, q_put_mul, q_put_less, q_put_take, q_put_lay, q_put_go, q_put_shut, q_put_open, q_put_home, q_sum_put, q_sum_sum, q_sum_mul, q_sum_less, q_sum_take, q_sum_lay, q_sum_go, q_sum_shut, q_sum_open, q_sum_home, q_mul_put, q_mul_sum, q_mul_mul, q_mul_less, q_mul_take, q_mul_lay, q_mul_go, q_mul_shut, q_mul_open, q_mul_home, q_less_put, q_less_sum, q_less_mul, q_less_less, q_less_take, q_less_lay, q_less_go, q_less_shut, q_less_open, q_less_home, q_take_put, q_take_sum, q_take_mul, q_take_less, q_take_take, q_take_lay, q_take_go, q_take_shut, q_take_open, q_take_home, q_lay_put, q_lay_sum, q_lay_mul, q_lay_less, q_lay_take, q_lay_lay, q_lay_go, q_lay_shut, q_lay_open, q_lay_home, q_go_put, q_go_sum, q_go_mul, q_go_less, q_go_take, q_go_lay, q_go_go, q_go_shut, q_go_open, q_go_home, q_shut_put, q_shut_sum, q_shut_mul, q_shut_less, q_shut_take, q_shut_lay, q_shut_go, q_shut_shut, q_shut_open, q_shut_home, q_open_put, q_open_sum, q_open_mul, q_open_less, q_open_take, q_open_lay, q_open_go, q_open_shut, q_open_open, q_open_home, q_home_put, q_home_sum, q_home_mul, q_home_less, q_home_take, q_home_lay, q_home_go, q_home_shut, q_home_open, q_home_home] <;> rfl, ⟨a3, b3, c3⟩, c4.less (by omega)⟩
  · obtain ⟨p, t3, p1, p3, p4⟩ := drawN_ok (many + 1) a4 (by omega) (by omega)
    exact ⟨.go a p, t3, by simp at h1 p1; simp [m__law_row, e_runF, EAll, BAll, okArgs, back, atI, ixN, blD, flatD, Tw.gSub, gNeg, gLt, gLe, gGt, gGe, mkTup, fzs, partsOf, takeAll, putAll, intD, Option.bind, Option.map, gNot, sizeLine_eq, flatM, flatT, flatMs, flatTs, gMul_r (j := 1000003) (by decide), adjG, frzAt, parG, h.live, h4.live, a4.live, p4.live, h1, a1, p1, q_put_put, q_put_sum, q_put_mul, q_put_less, q_put_take, q_put_lay, q_put_go, q_put_shut, q_put_open, q_put_home, q_sum_put, q_sum_sum, q_sum_mul, q_sum_less, q_sum_take, q_sum_lay, q_sum_go, q_sum_shut, q_sum_open, q_sum_home, q_mul_put, q_mul_sum, q_mul_mul, q_mul_less, q_mul_take, q_mul_lay, q_mul_go, q_mul_shut, q_mul_open, q_mul_home, q_less_put, q_less_sum, q_less_mul, q_less_less, q_less_take, q_less_lay, q_less_go, q_less_shut, q_less_open, q_less_home, q_take_put, q_take_sum, q_take_mul, q_take_less, q_take_take, q_take_lay, q_take_go, q_take_shut, q_take_open, q_take_home, q_lay_put, q_lay_sum, q_lay_mul, q_lay_less, q_lay_take, q_lay_lay, q_lay_go, q_lay_shut, q_lay_open, q_lay_home, q_go_put, q_go_sum, q_go_mul, q_go_less, q_go_take, q_go_lay, q_go_go, q_go_shut, q_go_open, q_go_home, q_shut_put, q_shut_sum, q_shut_mul, q_shut_less, q_shut_take, q_shut_lay, q_shut_go, q_shut_shut, q_shut_open, q_shut_home, q_open_put, q_open_sum, q_open_mul, q_open_less, q_open_take, q_open_lay, q_open_go, q_open_shut, q_open_open, q_open_home, q_home_put, q_home_sum, q_home_mul, q_home_less, q_home_take, q_home_lay, q_home_go, q_home_shut, q_home_open, q_home_home] <;> rfl, ⟨a3, by omega⟩, p4.less (by omega)⟩
  · exact ⟨.shut, t1, by simp at h1; simp [m__law_row, e_runF, EAll, BAll, okArgs, back, atI, ixN, blD, flatD, Tw.gSub, gNeg, gLt, gLe, gGt, gGe, mkTup, fzs, partsOf, takeAll, putAll, intD, Option.bind, Option.map, gNot, sizeLine_eq, flatM, flatT, flatMs, flatTs, gMul_r (j := 1000003) (by decide), adjG, frzAt, parG, h.live, h4.live, h1, q_put_put, q_put_sum, q_put_mul, q_put_less, q_put_take, q_put_lay, q_put_go, q_put_shut, q_put_open, q_put_home, q_sum_put, q_sum_sum, q_sum_mul, q_sum_less, q_sum_take, q_sum_lay, q_sum_go, q_sum_shut, q_sum_open, q_sum_home, q_mul_put, q_mul_sum, q_mul_mul, q_mul_less, q_mul_take, q_mul_lay, q_mul_go, q_mul_shut, q_mul_open, q_mul_home, q_less_put, q_less_sum, q_less_mul, q_less_less, q_less_take, q_less_lay, q_less_go, q_less_shut, q_less_open, q_less_home, q_take_put, q_take_sum, q_take_mul, q_take_less, q_take_take, q_take_lay, q_take_go, q_take_shut, q_take_open, q_take_home, q_lay_put, q_lay_sum, q_lay_mul, q_lay_less, q_lay_take, q_lay_lay, q_lay_go, q_lay_shut, q_lay_open, q_lay_home, q_go_put, q_go_sum, q_go_mul, q_go_less, q_go_take, q_go_lay, q_go_go, q_go_shut, q_go_open, q_go_home, q_shut_put, q_shut_sum, q_shut_mul, q_shut_less, q_shut_take, q_shut_lay, q_shut_go, q_shut_shut, q_shut_open, q_shut_home, q_open_put, q_open_sum, q_open_mul, q_open_less, q_open_take, q_open_lay, q_open_go, q_open_shut, q_open_open, q_open_home, q_home_put, q_home_sum, q_home_mul, q_home_less, q_home_take, q_home_lay, q_home_go, q_home_shut, q_home_open, q_home_home] <;> rfl, trivial, h4.less (by omega)⟩
  · exact ⟨.opn, t1, by simp at h1; simp [m__law_row, e_runF, EAll, BAll, okArgs, back, atI, ixN, blD, flatD, Tw.gSub, gNeg, gLt, gLe, gGt, gGe, mkTup, fzs, partsOf, takeAll, putAll, intD, Option.bind, Option.map, gNot, sizeLine_eq, flatM, flatT, flatMs, flatTs, gMul_r (j := 1000003) (by decide), adjG, frzAt, parG, h.live, h4.live, h1, q_put_put, q_put_sum, q_put_mul, q_put_less, q_put_take, q_put_lay, q_put_go, q_put_shut, q_put_open, q_put_home, q_sum_put, q_sum_sum, q_sum_mul, q_sum_less, q_sum_take, q_sum_lay, q_sum_go, q_sum_shut, q_sum_open, q_sum_home, q_mul_put, q_mul_sum, q_mul_mul, q_mul_less, q_mul_take, q_mul_lay, q_mul_go, q_mul_shut, q_mul_open, q_mul_home, q_less_put, q_less_sum, q_less_mul, q_less_less, q_less_take, q_less_lay, q_less_go, q_less_shut, q_less_open, q_less_home, q_take_put, q_take_sum, q_take_mul, q_take_less, q_take_take, q_take_lay, q_take_go, q_take_shut, q_take_open, q_take_home, q_lay_put, q_lay_sum, q_lay_mul, q_lay_less, q_lay_take, q_lay_lay, q_lay_go, q_lay_shut, q_lay_open, q_lay_home, q_go_put, q_go_sum, q_go_mul, q_go_less, q_go_take, q_go_lay, q_go_go, q_go_shut, q_go_open, q_go_home, q_shut_put, q_shut_sum, q_shut_mul, q_shut_less, q_shut_take, q_shut_lay, q_shut_go, q_shut_shut, q_shut_open, q_shut_home, q_open_put, q_open_sum, q_open_mul, q_open_less, q_open_take, q_open_lay, q_open_go, q_open_shut, q_open_open, q_open_home, q_home_put, q_home_sum, q_home_mul, q_home_less, q_home_take, q_home_lay, q_home_go, q_home_shut, q_home_open, q_home_home] <;> rfl, trivial, h4.less (by omega)⟩
  · exact ⟨.home, t1, by simp at h1; simp [m__law_row, e_runF, EAll, BAll, okArgs, back, atI, ixN, blD, flatD, Tw.gSub, gNeg, gLt, gLe, gGt, gGe, mkTup, fzs, partsOf, takeAll, putAll, intD, Option.bind, Option.map, gNot, sizeLine_eq, flatM, flatT, flatMs, flatTs, gMul_r (j := 1000003) (by decide), adjG, frzAt, parG, h.live, h4.live, h1, q_put_put, q_put_sum, q_put_mul, q_put_less, q_put_take, q_put_lay, q_put_go, q_put_shut, q_put_open, q_put_home, q_sum_put, q_sum_sum, q_sum_mul, q_sum_less, q_sum_take, q_sum_lay, q_sum_go, q_sum_shut, q_sum_open, q_sum_home, q_mul_put, q_mul_sum, q_mul_mul, q_mul_less, q_mul_take, q_mul_lay, q_mul_go, q_mul_shut, q_mul_open, q_mul_home, q_less_put, q_less_sum, q_less_mul, q_less_less, q_less_take, q_less_lay, q_less_go, q_less_shut, q_less_open, q_less_home, q_take_put, q_take_sum, q_take_mul, q_take_less, q_take_take, q_take_lay, q_take_go, q_take_shut, q_take_open, q_take_home, q_lay_put, q_lay_sum, q_lay_mul, q_lay_less, q_lay_take, q_lay_lay, q_lay_go, q_lay_shut, q_lay_open, q_lay_home, q_go_put, q_go_sum, q_go_mul, q_go_less, q_go_take, q_go_lay, q_go_go, q_go_shut, q_go_open, q_go_home, q_shut_put, q_shut_sum, q_shut_mul, q_shut_less, q_shut_take, q_shut_lay, q_shut_go, q_shut_shut, q_shut_open, q_shut_home, q_open_put, q_open_sum, q_open_mul, q_open_less, q_open_take, q_open_lay, q_open_go, q_open_shut, q_open_open, q_open_home, q_home_put, q_home_sum, q_home_mul, q_home_less, q_home_take, q_home_lay, q_home_go, q_home_shut, q_home_open, q_home_home] <;> rfl, trivial, h4.less (by omega)⟩
end Lwk04
namespace Lwk04
open PySem PySem.Spec L2 Tw
theorem mill_ok {t : M} {n : Nat} (h : TrOk (n + 400) t) : ∃ (rows : List RowT) (bells : List Nat) (t' : M), m__law_mill [t] = .ok (.fz (millD rows bells)) [t'] ∧ Mill rows bells ∧ TrOk n t' := by
  obtain ⟨ways, t1, w1, w3, w4⟩ := drawN_ok (n := n + 399) 16 h (by decide) (by decide)
  obtain ⟨m0, t2, a1, a3, a4⟩ := drawN_ok (n := n + 398) 12 w4 (by decide) (by decide)
  obtain ⟨many, t3, hb, hm1, hm2, h3⟩ : ∃ (many : Nat) (t3 : M), if__law_mill_1 [t2, .fz (.int ways), .fz (.int (1 + m0)), .dead, .dead, .dead, .dead] = .ok .nx [t3, .fz (.int ways), .fz (.int many), .dead, .dead, .dead, .dead] ∧ 1 ≤ many ∧ many ≤ 40 ∧ TrOk (n + 397) t3 := by
    by_cases hw : (ways : Int) / 2 = 7
    · obtain ⟨m1, t3, b1, b3, b4⟩ := drawN_ok (n := n + 397) 28 a4 (by decide) (by decide)
      simp at b1
      exact ⟨13 + m1, t3, by simp [if__law_mill_1, EAll, BAll, okArgs, back, atI, ixN, blD, flatD, Tw.gSub, gNeg, gLt, gLe, gGt, gGe, mkTup, fzs, partsOf, takeAll, putAll, intD, Option.bind, Option.map, gNot, sizeLine_eq, flatM, flatT, flatMs, flatTs, gMul_r (j := 1000003) (by decide), adjG, frzAt, parG, gDiv_ok (i := ways) (j := 2) (by decide) (by decide), hw, a4.live, b4.live, b1], by omega, by omega, b4⟩
    · exact ⟨1 + m0, t2, by simp [if__law_mill_1, EAll, BAll, okArgs, back, atI, ixN, blD, flatD, Tw.gSub, gNeg, gLt, gLe, gGt, gGe, mkTup, fzs, partsOf, takeAll, putAll, intD, Option.bind, Option.map, gNot, sizeLine_eq, flatM, flatT, flatMs, flatTs, gMul_r (j := 1000003) (by decide), adjG, frzAt, parG, gDiv_ok (i := ways) (j := 2) (by decide) (by decide), hw], by omega, by omega, a4.less (by omega)⟩
  -- the rows
  obtain ⟨rows, t4, r1, r2, r3, r4⟩ := mLc_draw (M.fz ∘ rowD) (i := 6) (j := 0) (n := many) (mi := iRg rng1 (aCons (mVar 2) aNil)) (me := mCallW m__law_row (rSlot 0 (rVal (mF (mVar 2)) rNil)))
    (γ := [t3, .fz (.int ways), .fz (.int many), .dead, .dead, .dead, .dead]) (γ0 := [t3, .fz (.int ways), .fz (.int many), .dead, .dead, .dead, .dead]) (t := t3) (by simp [EAll, rng1_len (n := many) (by omega)]) (by decide) rfl rfl
    (fun k t => TrOk (n + 397 - 8 * k) t) (fun r => r.Ok many) h3 (by rw [sizeLine_eq]; omega) (fun k t hk ht => by
      obtain ⟨r, t', s1, s2, s3⟩ := row_ok (n := n + 397 - 8 * (k + 1)) (many := many) (ht.less (by omega)) (by omega)
      exact ⟨r, t', by simp [EAll, CAll, okArgs, back, blD, flatD, Tw.gSub, gNeg, gLt, gLe, gGt, gGe, mkTup, fzs, partsOf, takeAll, putAll, intD, Option.bind, Option.map, gNot, sizeLine_eq, flatM, flatT, flatMs, flatTs, gMul_r (j := 1000003) (by decide), adjG, frzAt, parG, ht.live, s1, s3.live], s2, s3⟩)
  -- the bells
  obtain ⟨c, t5, c1, c3, c4⟩ := drawN_ok (n := n + 396 - 8 * many) 5 (r4.less (by omega)) (by decide) (by decide)
  obtain ⟨bells, t6, b1, b2, b3, b4⟩ := mLc_draw (M.fz ∘ natD) (i := 6) (j := 0) (n := c) (mi := iRg rng1 (aCons (mD (mCallW m__law_draw (rSlot 0 (rVal (mF (mC (.int 5))) rNil)))) aNil)) (me := mCallW m__law_draw (rSlot 0 (rVal (mF (mBin gAdd (mVar 2) (mC (.int 1)))) rNil)))
    (γ := [t4, .fz (.int ways), .fz (.int many), .lst (rows.map (M.fz ∘ rowD)), .dead, .dead, .dead]) (γ0 := [t5, .fz (.int ways), .fz (.int many), .lst (rows.map (M.fz ∘ rowD)), .dead, .dead, .dead]) (t := t5)
    (by simp at c1; simp [EAll, BAll, okArgs, back, atI, ixN, blD, flatD, Tw.gSub, gNeg, gLt, gLe, gGt, gGe, mkTup, fzs, partsOf, takeAll, putAll, intD, Option.bind, Option.map, gNot, sizeLine_eq, flatM, flatT, flatMs, flatTs, gMul_r (j := 1000003) (by decide), adjG, frzAt, parG, r4.live, c4.live, c1, rng1_len (n := c) (by omega)]) (by decide) rfl rfl
    (fun k t => TrOk (n + 396 - 8 * many - k) t) (fun b => b ≤ many) c4 (by rw [sizeLine_eq]; omega) (fun k t hk ht => by
      obtain ⟨r, t', s1, s2, s3⟩ := drawN_ok (n := n + 396 - 8 * many - (k + 1)) (many + 1) (ht.less (by omega)) (by omega) (by omega)
      simp at s1
      exact ⟨r, t', by simp [EAll, CAll, okArgs, back, blD, flatD, Tw.gSub, gNeg, gLt, gLe, gGt, gGe, mkTup, fzs, partsOf, takeAll, putAll, intD, Option.bind, Option.map, gNot, sizeLine_eq, flatM, flatT, flatMs, flatTs, gMul_r (j := 1000003) (by decide), adjG, frzAt, parG, ht.live, s1, s3.live, natD], by omega, s3⟩)
  -- the odd ways
  have fr := frzs_comp rowD
  have fb := frzs_comp natD
  obtain ⟨rows', bells', t7, x, hx, hM, h7⟩ : ∃ (rows' : List RowT) (bells' : List Nat) (t7 x : M), if__law_mill_2 [t6, .fz (.int ways), .fz (.int many), .lst (rows.map (M.fz ∘ rowD)), .lst (bells.map (M.fz ∘ natD)), .dead, .dead] =
      .ok .nx [t7, .fz (.int ways), .fz (.int many), .fz (.list (rows'.map rowD)), .fz (.list (bells'.map natD)), x, .dead] ∧ Mill rows' bells' ∧ TrOk n t7 := by
    by_cases hw : (ways : Int) % 2 = 1
    · obtain ⟨k, t7, k1, k3, k4⟩ := drawN_ok (n := n + 391 - 8 * many) many (b4.less (by omega)) (by omega) (by omega)
      have hk : k < rows.length := by omega
      have hix : L2.ixN rows.length (k : Int) = some k := by
        unfold L2.ixN
        rw [if_pos (by omega), if_pos (by omega)]
        simp
      have hset : M.frzs ((rows.map (M.fz ∘ rowD)).set k (.fz (.tuple [.str "home"]))) = some ((rows.map rowD).set k (rowD .home)) := by
        have := fr (rows.set k .home)
        rw [List.map_set, List.map_set] at this
        exact this
      have row : ∀ r ∈ rows.set k .home, r.Ok (rows.set k .home).length := fun r hr => by
        rw [List.length_set, r2]
        rcases List.mem_or_eq_of_mem_set hr with z | z
        · exact r3 r z
        · rw [z]; trivial
      cases bells with
      | nil =>
        have e : gNe (.list []) (.list []) = some (.bool false) := gNe_nil []
        refine ⟨rows.set k .home, [], t7, .fz (.int k), ?_, ⟨by rw [List.length_set]; omega, by rw [List.length_set]; omega, row, by simp, fun b hb => nomatch hb⟩, k4.less (by omega)⟩
        simp [if__law_mill_2, e_mView, EAll, CAll, okArgs, back, blD, flatD, Tw.gSub, gNeg, gLt, gLe, gGt, gGe, mkTup, fzs, partsOf, takeAll, putAll, intD, Option.bind, Option.map, gNot, sizeLine_eq, flatM, flatT, flatMs, flatTs, gMul_r (j := 1000003) (by decide), adjG, frzAt, parG, gMod_ok (i := ways) (j := 2) (by decide), hw, b4.live, k4.live, k1, hix, hset, e, fr]
      | cons b0 bs =>
        obtain ⟨y, t8, y1, y3, y4⟩ := drawN_ok (n := n + 390 - 8 * many) 3 (k4.less (by omega)) (by decide) (by decide)
        obtain ⟨s, s1, s3⟩ : ∃ s : Nat, gMax2 [.int 0, .int ((k : Int) - y)] = some (.int s) ∧ s ≤ many := by
          by_cases hq : (k : Int) - y > 0
          · exact ⟨k - y, by simp [gMax2]; omega, by omega⟩
          · exact ⟨0, by simp [gMax2]; omega, by omega⟩
        have e := gNe_nil ((b0 :: bs).map fun b : Nat => (b : Int))
        simp at y1
        rw [List.map_cons] at e
        have hix0 : L2.ixN ((bs.map (M.fz ∘ natD)).length + 1) 0 = some 0 := by simp [L2.ixN]
        have e2 : (bs.map fun b : Nat => (b : Int)).map PyData.int = bs.map natD := by rw [List.map_map]; rfl
        rw [List.map_cons, e2] at e
        refine ⟨rows.set k .home, s :: bs, t8, .fz (.int k), ?_, ⟨by rw [List.length_set]; omega, by rw [List.length_set]; omega, row, by simp at b2 ⊢; omega, fun b hb => ?_⟩, y4.less (by omega)⟩
        · simp [if__law_mill_2, e_mView, EAll, CAll, okArgs, back, blD, flatD, Tw.gSub, gNeg, gLt, gLe, gGt, gGe, mkTup, fzs, partsOf, takeAll, putAll, intD, Option.bind, Option.map, gNot, sizeLine_eq, flatM, flatT, flatMs, flatTs, gMul_r (j := 1000003) (by decide), adjG, frzAt, parG, gMod_ok (i := ways) (j := 2) (by decide), hw, b4.live, k4.live, y4.live, k1, y1, hix, hset, fr, fb, e, s1]
          simp [L2.ixN, EAll, CAll, okArgs, back, blD, flatD, Tw.gSub, gNeg, gLt, gLe, gGt, gGe, mkTup, fzs, partsOf, takeAll, putAll, intD, Option.bind, Option.map, gNot, sizeLine_eq, flatM, flatT, flatMs, flatTs, gMul_r (j := 1000003) (by decide), adjG, frzAt, parG, fb]
        · rw [List.length_set, r2]
          rcases List.mem_cons.mp hb with rfl | hb
          · exact s3
          · exact b3 b (List.mem_cons_of_mem _ hb)
    · refine ⟨rows, bells, t6, .dead, ?_, ⟨by omega, by omega, fun r hr => by rw [r2]; exact r3 r hr, by omega, fun b hb => by rw [r2]; exact b3 b hb⟩, b4.less (by omega)⟩
      simp [if__law_mill_2, EAll, BAll, okArgs, back, atI, ixN, blD, flatD, Tw.gSub, gNeg, gLt, gLe, gGt, gGe, mkTup, fzs, partsOf, takeAll, putAll, intD, Option.bind, Option.map, gNot, sizeLine_eq, flatM, flatT, flatMs, flatTs, gMul_r (j := 1000003) (by decide), adjG, frzAt, parG, gMod_ok (i := ways) (j := 2) (by decide), hw, fr, fb]
  simp at w1 a1 r1 b1
  refine ⟨rows', bells', t7, ?_, hM, h7⟩
  simp [m__law_mill, lc__law_mill_1, lc__law_mill_2, e_runF, EAll, BAll, okArgs, back, atI, ixN, blD, flatD, Tw.gSub, gNeg, gLt, gLe, gGt, gGe, mkTup, fzs, partsOf, takeAll, putAll, intD, Option.bind, Option.map, gNot, sizeLine_eq, flatM, flatT, flatMs, flatTs, gMul_r (j := 1000003) (by decide), adjG, frzAt, parG, h.live, w4.live, a4.live, h7.live, w1, a1, hb, r1, b1, hx, Tw.gTup, millD]
end Lwk04
namespace Lwk04
open PySem PySem.Spec L2 Tw

/-- a text of plain signs -/
structure Asc (n : Nat) (w : Str) : Prop where
  asc : ∀ c ∈ w.cps.toList, c < 128
  len : w.length ≤ n
theorem Asc.up {n m : Nat} {w : Str} (h : Asc n w) (hm : n ≤ m) : Asc m w := ⟨h.asc, Nat.le_trans h.len hm⟩
theorem Asc.ok {n : Nat} {w : Str} (h : Asc n w) : PyData.strOk w = true := by
  show w.cps.all (· < 0x110000) = true
  rw [← Array.all_toList, List.all_eq_true]
  intro c hc
  exact decide_eq_true (Nat.lt_trans (h.asc c hc) (by decide))
theorem str_len (w : Str) : w.length = w.cps.toList.length := by rw [Array.length_toList]; rfl
theorem Asc.app {n m : Nat} {a b : Str} (h : Asc n a) (h2 : Asc m b) : Asc (n + m) (a ++ b) := by
  have e : (a ++ b).cps.toList = a.cps.toList ++ b.cps.toList := Array.toList_append
  refine ⟨fun c hc => ?_, ?_⟩
  · rw [e] at hc
    rcases List.mem_append.mp hc with z | z
    · exact h.asc c z
    · exact h2.asc c z
  · rw [str_len, e, List.length_append, ← str_len, ← str_len]
    have := h.len
    have := h2.len
    omega
theorem Asc.cut {n : Nat} {a : Str} (h : Asc n a) (lo hi : Option Int) : Asc n (cutS a lo hi) := ⟨fun c hc => by
  unfold cutS at hc
  simp only [List.toList_toArray] at hc
  exact h.asc c (List.mem_of_mem_drop (List.mem_of_mem_take hc)), Nat.le_trans (cutS_length a lo hi) h.len⟩
def ascB (w : Str) (n : Nat) : Bool := w.cps.toList.all (fun c => decide (c < 128)) && decide (w.length ≤ n)
theorem ascB_ok {w : Str} {n : Nat} (h : ascB w n = true) : Asc n w := by
  unfold ascB at h
  rw [Bool.and_eq_true, List.all_eq_true] at h
  exact ⟨fun c hc => of_decide_eq_true (h.1 c hc), of_decide_eq_true h.2⟩
/-- a row that may be none: a text, numbers -/
structure GR where
  w : Str
  ns : List Int
def grD (r : GR) : D := .tuple (.str r.w :: r.ns.map .int)
structure GOk (m : Nat) (r : GR) : Prop where
  asc : Asc m r.w
  few : r.ns.length ≤ m
theorem GOk.up {n m : Nat} {r : GR} (h : GOk n r) (hm : n ≤ m) : GOk m r := ⟨h.asc.up hm, Nat.le_trans h.few hm⟩
theorem cat_tup {a b : List D} (h : a.length + b.length ≤ 100000) : gAdd (.tuple a) (.tuple b) = some (.tuple (a ++ b)) := by
  show (if a.length + b.length ≤ sizeLine then _ else _) = _
  rw [if_pos (by rw [sizeLine_eq]; omega)]
theorem sl_to (ds : List D) (k : Nat) : gSl none (some (k : Int)) (.tuple ds) = some (.tuple (ds.take k)) := by
  show some (PyData.tuple _) = _
  rw [sIx_none, sIx_nat, List.drop_zero, Nat.sub_zero]
  congr 2
  by_cases h : k ≤ ds.length
  · rw [Nat.min_eq_left h]
  · rw [Nat.min_eq_right (by omega), List.take_of_length_le (Nat.le_refl _), List.take_of_length_le (by omega)]
theorem sl_from (ds : List D) (k : Nat) : gSl (some (k : Int)) none (.tuple ds) = some (.tuple (ds.drop k)) := by
  show some (PyData.tuple _) = _
  rw [sIx_none, sIx_nat]
  congr 2
  by_cases h : k ≤ ds.length
  · rw [Nat.min_eq_left h, List.take_of_length_le (by rw [List.length_drop]; omega)]
  · rw [Nat.min_eq_right (by omega), List.drop_of_length_le (Nat.le_refl _), List.drop_of_length_le (by omega), List.take_nil]
theorem gr_ix0 (r : GR) : gIx (grD r) (.int 0) = some (.str r.w) := by simp [grD, gIx, atI, ixN]
theorem gr_len (r : GR) : gLen [grD r] = some (.int ((r.ns.length + 1 : Nat) : Int)) := by simp [grD, gLen]
theorem gr_tail (r : GR) : gSl (some 1) none (grD r) = some (.tuple (r.ns.map .int)) := sl_from (.str r.w :: r.ns.map .int) 1
theorem gr_to (r : GR) (j : Nat) : gSl none (some (1 + (j : Int))) (grD r) = some (.tuple (.str r.w :: (r.ns.take j).map .int)) := by
  rw [show (1 + (j : Int)) = ((j + 1 : Nat) : Int) by omega]
  unfold grD
  rw [sl_to, List.take_succ_cons, List.map_take]
theorem gr_from (r : GR) (j : Nat) : gSl (some (1 + (j : Int))) none (grD r) = some (.tuple ((r.ns.drop j).map .int)) := by
  rw [show (1 + (j : Int)) = ((j + 1 : Nat) : Int) by omega]
  unfold grD
  rw [sl_from, List.drop_succ_cons, List.map_drop]
theorem gr_from1 (r : GR) (j : Nat) : gSl (some (1 + (j : Int) + 1)) none (grD r) = some (.tuple ((r.ns.drop (j + 1)).map .int)) := by
  rw [show (1 + (j : Int) + 1) = ((j + 1 + 1 : Nat) : Int) by omega]
  unfold grD
  rw [sl_from, List.drop_succ_cons, List.map_drop]
end Lwk04
namespace Lwk04
open PySem PySem.Spec L2 Tw

def W10 : List Str := ["put", "sum", "mul", "less", "take", "lay", "go", "shut", "open", "home"]
def limL (w : Str) (many : Nat) : Option (List Int) :=
  if w = "put" then some [8, 4294967296] else if w = "sum" then some [8, 8, 8] else if w = "mul" then some [8, 8, 8] else if w = "less" then some [8, 8, 8] else if w = "take" then some [8, 8, 16] else if w = "lay" then some [8, 8, 16] else
  if w = "go" then some [8, (many : Int) + 1] else if w = "shut" then some [] else if w = "open" then some [] else if w = "home" then some [] else none
theorem w_cases (w : Str) : w = "put" ∨ w = "sum" ∨ w = "mul" ∨ w = "less" ∨ w = "take" ∨ w = "lay" ∨ w = "go" ∨ w = "shut" ∨ w = "open" ∨ w = "home" ∨ (∀ x ∈ W10, w ≠ x) := by
  by_cases h1 : w = "put"; · exact .inl h1
  by_cases h2 : w = "sum"; · exact .inr (.inl h2)
  by_cases h3 : w = "mul"; · exact .inr (.inr (.inl h3))
  by_cases h4 : w = "less"; · exact .inr (.inr (.inr (.inl h4)))
  by_cases h5 : w = "take"; · exact .inr (.inr (.inr (.inr (.inl h5))))
  by_cases h6 : w = "lay"; · exact .inr (.inr (.inr (.inr (.inr (.inl h6)))))
  by_cases h7 : w = "go"; · exact .inr (.inr (.inr (.inr (.inr (.inr (.inl h7))))))
  by_cases h8 : w = "shut"; · exact .inr (.inr (.inr (.inr (.inr (.inr (.inr (.inl h8)))))))
  by_cases h9 : w = "open"; · exact .inr (.inr (.inr (.inr (.inr (.inr (.inr (.inr (.inl h9))))))))
  by_cases h10 : w = "home"; · exact .inr (.inr (.inr (.inr (.inr (.inr (.inr (.inr (.inr (.inl h10)))))))))
  refine .inr (.inr (.inr (.inr (.inr (.inr (.inr (.inr (.inr (.inr fun x hx => ?_)))))))))
  simp only [W10, List.mem_cons, List.not_mem_nil, or_false] at hx
  rcases hx with rfl | rfl | rfl | rfl | rfl | rfl | rfl | rfl | rfl | rfl <;> assumption
theorem shp_str {x : Str} (h : PyData.strOk x = true) : SeqAt.shaped (.str x) = true := (Alk.str 0 x h).shaped (by decide)
theorem eq_no {w x : Str} (hw : PyData.strOk w = true) (hx : PyData.strOk x = true) (h : w ≠ x) : gEq (.str w) (.str x) = some (.bool false) := by
  rw [gEq_str (shp_str hw) (shp_str hx)]
  congr 2
  exact beq_eq_false_iff_ne.mpr h
theorem w10_ok : ∀ x ∈ W10, PyData.strOk x = true := by decide +kernel
theorem in_no {w : Str} {l : List Str} (hw : PyData.strOk w = true) (hl : ∀ x ∈ l, PyData.strOk x = true) (hn : l.length ≤ 100) (h : ∀ x ∈ l, w ≠ x) : gIn (.str w) (.list (l.map .str)) = some (.bool false) := by
  show (if SeqAt.shaped (.str w) = true ∧ SeqAt.shaped (.list (l.map .str)) = true then some (PyData.bool (inD (.str w) (l.map .str))) else none) = _
  have sh : SeqAt.shaped (.list (l.map .str)) = true := (Alk.lst 0 _ (fun d hd => by obtain ⟨x, hx, rfl⟩ := List.mem_map.mp hd; exact .str 0 x (hl x hx)) (by rw [List.length_map]; omega)).shaped (by decide)
  rw [if_pos ⟨shp_str hw, sh⟩]
  congr 2
  unfold inD
  rw [List.any_eq_false]
  intro d hd
  obtain ⟨x, hx, rfl⟩ := List.mem_map.mp hd
  have := eq_no (hl x hx) hw (fun z => h x hx z.symm)
  unfold gEq at this
  rw [if_pos ⟨shp_str (hl x hx), shp_str hw⟩] at this
  have e : deq (.str x) (.str w) = false := by
    cases q : deq (.str x) (.str w) with
    | false => rfl
    | true => rw [q] at this; cases this
  rw [e]
  decide
def limD : Option (List Int) → D
  | none => .none
  | some ls => .list (ls.map .int)
def limE : Option (List Int) → D
  | none => .list []
  | some ls => .list (ls.map .int)
theorem lim_none {w : Str} {many : Nat} (h : ∀ x ∈ W10, w ≠ x) : limL w many = none := by
  unfold limL
  rw [if_neg (h _ (by decide)), if_neg (h _ (by decide)), if_neg (h _ (by decide)), if_neg (h _ (by decide)), if_neg (h _ (by decide)), if_neg (h _ (by decide)), if_neg (h _ (by decide)), if_neg (h _ (by decide)), if_neg (h _ (by decide)), if_neg (h _ (by decide))]
theorem limits_ok {m : Nat} {w : Str} (hw : Asc m w) (many : Nat) : m_limits_of [.fz (.str w), .fz (.int many)] = .ok (.fz (limD (limL w many))) [.fz (.str w), .fz (.int many)] := by
  rcases w_cases w with rfl | rfl | rfl | rfl | rfl | rfl | rfl | rfl | rfl | rfl | h
  · kernel_rfl
  · kernel_rfl
  · kernel_rfl
  · kernel_rfl
  · kernel_rfl
  · kernel_rfl
  · kernel_rfl
  · kernel_rfl
  · kernel_rfl
  · kernel_rfl
  · rw [lim_none h]
    have q := fun x hx => eq_no hw.ok (w10_ok x hx) (h x hx)
    have q1 := q "put" (by decide)
    have q2 := q "sum" (by decide)
    have q3 := q "mul" (by decide)
    have q4 := q "less" (by decide)
    have q5 := q "take" (by decide)
    have q6 := q "lay" (by decide)
    have q7 := q "go" (by decide)
    have q8 := q "shut" (by decide)
    have q9 := q "open" (by decide)
    have q10 := q "home" (by decide)
    simp [m_limits_of, e_runF, EAll, BAll, okArgs, back, atI, ixN, blD, flatD, Tw.gSub, gNeg, gLt, gLe, gGt, gGe, mkTup, fzs, partsOf, takeAll, putAll, intD, Option.bind, Option.map, gNot, sizeLine_eq, flatM, flatT, flatMs, flatTs, gMul_r (j := 1000003) (by decide), adjG, frzAt, parG, limD, q1, q2, q3, q4, q5, q6, q7, q8, q9, q10]
def rowB (many : Nat) (r : GR) : Bool := match limL r.w many with
  | none => false
  | some ls => decide (r.ns.length = ls.length) && (r.ns.zip ls).all fun p => decide (0 ≤ p.1 ∧ p.1 < p.2)
theorem lim_len {w : Str} {many : Nat} {ls : List Int} (h : limL w many = some ls) : ls.length ≤ 3 := by
  rcases w_cases w with rfl | rfl | rfl | rfl | rfl | rfl | rfl | rfl | rfl | rfl | hn
  all_goals first
    | (rw [lim_none hn] at h; cases h; done)
    | (have := Option.some.inj h; rw [← this]; first | decide | exact (by decide : 2 ≤ 3))
end Lwk04
namespace Lwk04
open PySem PySem.Spec L2 Tw

/-- the numbers against their bounds -/
theorem bounds_lp (r l : M) : ∀ (ns ls : List Int), ((ns.zip ls).all fun p => decide (0 ≤ p.1 ∧ p.1 < p.2)) = true ∧ loopM (gTupM 2 (gsCons (gSet 3) (gsCons (gSet 4) gsNil))) bd_is_row_1 (zipD (ns.map .int) (ls.map .int)) [r, .dead, l, .dead, .dead] = .ok .nx [r, .dead, l, .dead, .dead] ∨
    ((ns.zip ls).all fun p => decide (0 ≤ p.1 ∧ p.1 < p.2)) = false ∧ ∃ x y, loopM (gTupM 2 (gsCons (gSet 3) (gsCons (gSet 4) gsNil))) bd_is_row_1 (zipD (ns.map .int) (ls.map .int)) [r, .dead, l, .dead, .dead] = .ok (.ret (.fz (.bool false))) [r, .dead, l, x, y]
  | [], ls => .inl ⟨rfl, rfl⟩
  | n :: ns, [] => .inl ⟨rfl, rfl⟩
  | n :: ns, k :: ls => by
    have z : zipD ((n :: ns).map .int) ((k :: ls).map .int) = .tuple [.int n, .int k] :: zipD (ns.map .int) (ls.map .int) := rfl
    rw [z, loopM, List.zip_cons_cons, List.all_cons]
    by_cases g : 0 ≤ n ∧ n < k
    · have g1 : ¬ n < 0 := by omega
      have g2 : ¬ k ≤ n := by omega
      have hb : bd_is_row_1 [r, .dead, l, .fz (.int n), .fz (.int k)] = .ok .nx [r, .dead, l, .dead, .dead] := by simp [bd_is_row_1, EAll, BAll, okArgs, back, atI, ixN, blD, flatD, Tw.gSub, gNeg, gLt, gLe, gGt, gGe, mkTup, fzs, partsOf, takeAll, putAll, intD, Option.bind, Option.map, gNot, sizeLine_eq, flatM, flatT, flatMs, flatTs, gMul_r (j := 1000003) (by decide), adjG, frzAt, parG, g1, g2]
      have hg : gTupM 2 (gsCons (gSet 3) (gsCons (gSet 4) gsNil)) (.fz (.tuple [.int n, .int k])) [r, .dead, l, .dead, .dead] = some [r, .dead, l, .fz (.int n), .fz (.int k)] := rfl
      rw [hg, ofO_some, hb, decide_eq_true g, Bool.true_and]
      exact bounds_lp r l ns ls
    · right
      rw [decide_eq_false g]
      refine ⟨rfl, .fz (.int n), .fz (.int k), ?_⟩
      have hb : bd_is_row_1 [r, .dead, l, .fz (.int n), .fz (.int k)] = .ok (.ret (.fz (.bool false))) [r, .dead, l, .fz (.int n), .fz (.int k)] := by
        by_cases g1 : n < 0
        · simp [bd_is_row_1, EAll, BAll, okArgs, back, atI, ixN, blD, flatD, Tw.gSub, gNeg, gLt, gLe, gGt, gGe, mkTup, fzs, partsOf, takeAll, putAll, intD, Option.bind, Option.map, gNot, sizeLine_eq, flatM, flatT, flatMs, flatTs, gMul_r (j := 1000003) (by decide), adjG, frzAt, parG, g1]
        · have g2 : k ≤ n := by omega
          simp [bd_is_row_1, EAll, BAll, okArgs, back, atI, ixN, blD, flatD, Tw.gSub, gNeg, gLt, gLe, gGt, gGe, mkTup, fzs, partsOf, takeAll, putAll, intD, Option.bind, Option.map, gNot, sizeLine_eq, flatM, flatT, flatMs, flatTs, gMul_r (j := 1000003) (by decide), adjG, frzAt, parG, g1, g2]
      have hg : gTupM 2 (gsCons (gSet 3) (gsCons (gSet 4) gsNil)) (.fz (.tuple [.int n, .int k])) [r, .dead, l, .dead, .dead] = some [r, .dead, l, .fz (.int n), .fz (.int k)] := rfl
      rw [hg, ofO_some, hb]
      rfl
theorem isrow_ok {m many : Nat} {r : GR} (h : GOk m r) (hm : m ≤ 1000) : m_is_row [.fz (grD r), .fz (.int many)] = .ok (.fz (.bool (rowB many r))) [.fz (grD r), .fz (.int many)] := by
  have g0 := gr_ix0 r
  have gl := gr_len r
  have g1 := gr_tail r
  have lo := limits_ok h.asc many
  have few := h.few
  unfold rowB
  cases hl : limL r.w many with
  | none =>
    rw [hl] at lo
    have e : limD none = .none := rfl
    rw [e] at lo
    generalize grD r = gr at *
    simp [m_is_row, e_runF, EAll, CAll, okArgs, back, blD, flatD, Tw.gSub, gNeg, gLt, gLe, gGt, gGe, mkTup, fzs, partsOf, takeAll, putAll, intD, Option.bind, Option.map, gNot, sizeLine_eq, flatM, flatT, flatMs, flatTs, gMul_r (j := 1000003) (by decide), adjG, frzAt, parG, lo, g0]
  | some ls =>
    rw [hl] at lo
    have e : limD (some ls) = .list (ls.map .int) := rfl
    rw [e] at lo
    have ln : gLen [.list (ls.map .int)] = some (.int (ls.length : Nat)) := by simp [gLen]
    have hnn : isN (.list (ls.map .int)) = false := rfl
    have ad : gAdd (.int (ls.length : Int)) (.int 1) = some (.int ((ls.length + 1 : Nat) : Int)) := rfl
    have ne : gNe (.int ((r.ns.length + 1 : Nat) : Int)) (.int ((ls.length + 1 : Nat) : Int)) = some (.bool (!decide (r.ns.length = ls.length))) := by
      rw [gNe_int]
      congr 2
      rw [Bool.eq_iff_iff]
      simp
      try omega
    have zz : zip2 [.tuple (r.ns.map .int), .list (ls.map .int)] = some (zipD (r.ns.map .int) (ls.map .int)) := rfl
    dsimp only
    by_cases hlen : r.ns.length = ls.length
    · rw [decide_eq_true hlen] at ne
      rw [decide_eq_true hlen, Bool.true_and]
      rcases bounds_lp (.fz (grD r)) (.fz (.list (ls.map .int))) r.ns ls with ⟨b1, b2⟩ | ⟨b1, x, y, b2⟩
      · rw [b1]
        generalize zipD (r.ns.map .int) (ls.map .int) = Z at *
        generalize PyData.tuple (r.ns.map .int) = NT at *
        generalize PyData.list (ls.map .int) = LT at *
        generalize grD r = gr at *
        generalize ((r.ns.length + 1 : Nat) : Int) = n1 at *
        generalize ((ls.length + 1 : Nat) : Int) = n2 at *
        simp [m_is_row, lp_is_row_1, e_runF, EAll, CAll, okArgs, back, blD, flatD, Tw.gSub, gNeg, gLt, gLe, gGt, gGe, mkTup, fzs, partsOf, takeAll, putAll, intD, Option.bind, Option.map, gNot, sizeLine_eq, flatM, flatT, flatMs, flatTs, gMul_r (j := 1000003) (by decide), adjG, frzAt, parG, e_sForX, lo, g0, g1, gl, ln, hnn, ad, ne, zz, b2]
      · rw [b1]
        generalize zipD (r.ns.map .int) (ls.map .int) = Z at *
        generalize PyData.tuple (r.ns.map .int) = NT at *
        generalize PyData.list (ls.map .int) = LT at *
        generalize grD r = gr at *
        generalize ((r.ns.length + 1 : Nat) : Int) = n1 at *
        generalize ((ls.length + 1 : Nat) : Int) = n2 at *
        simp [m_is_row, lp_is_row_1, e_runF, EAll, CAll, okArgs, back, blD, flatD, Tw.gSub, gNeg, gLt, gLe, gGt, gGe, mkTup, fzs, partsOf, takeAll, putAll, intD, Option.bind, Option.map, gNot, sizeLine_eq, flatM, flatT, flatMs, flatTs, gMul_r (j := 1000003) (by decide), adjG, frzAt, parG, e_sForX, lo, g0, g1, gl, ln, hnn, ad, ne, zz, b2]
    · rw [decide_eq_false hlen] at ne
      rw [decide_eq_false hlen, Bool.false_and]
      generalize PyData.list (ls.map .int) = LT at *
      generalize grD r = gr at *
      generalize ((r.ns.length + 1 : Nat) : Int) = n1 at *
      generalize ((ls.length + 1 : Nat) : Int) = n2 at *
      simp [m_is_row, e_runF, EAll, CAll, okArgs, back, blD, flatD, Tw.gSub, gNeg, gLt, gLe, gGt, gGe, mkTup, fzs, partsOf, takeAll, putAll, intD, Option.bind, Option.map, gNot, sizeLine_eq, flatM, flatT, flatMs, flatTs, gMul_r (j := 1000003) (by decide), adjG, frzAt, parG, lo, g0, gl, ln, hnn, ad, ne]
theorem mrows_lp {m many : Nat} (b : M) : ∀ (l : List GR) (hl : ∀ r ∈ l, GOk m r) (hm : m ≤ 1000) (a : M) (x0 : M), (l.all (rowB many)) = true ∧ (∃ x, loopM (gSet 3) bd_mill_of_1 (l.map grD) [a, b, .fz (.int many), x0, .dead] = .ok .nx [a, b, .fz (.int many), x, .dead]) ∨
    (l.all (rowB many)) = false ∧ ∃ x, loopM (gSet 3) bd_mill_of_1 (l.map grD) [a, b, .fz (.int many), x0, .dead] = .err "NoMill" [a, b, .fz (.int many), x, .dead]
  | [], hl, hm, a, x0 => .inl ⟨rfl, x0, rfl⟩
  | r :: l, hl, hm, a, x0 => by
    have ir := isrow_ok (many := many) (hl r List.mem_cons_self) hm
    have hb : bd_mill_of_1 [a, b, .fz (.int many), .fz (grD r), .dead] = if rowB many r = true then .ok .nx [a, b, .fz (.int many), .dead, .dead] else .err "NoMill" [a, b, .fz (.int many), .fz (grD r), .dead] := by
      generalize grD r = gr at *
      cases hq : rowB many r with
      | true => rw [hq] at ir; simp [bd_mill_of_1, EAll, CAll, okArgs, back, blD, flatD, Tw.gSub, gNeg, gLt, gLe, gGt, gGe, mkTup, fzs, partsOf, takeAll, putAll, intD, Option.bind, Option.map, gNot, sizeLine_eq, flatM, flatT, flatMs, flatTs, gMul_r (j := 1000003) (by decide), adjG, frzAt, parG, ir]
      | false => rw [hq] at ir; simp [bd_mill_of_1, EAll, CAll, okArgs, back, blD, flatD, Tw.gSub, gNeg, gLt, gLe, gGt, gGe, mkTup, fzs, partsOf, takeAll, putAll, intD, Option.bind, Option.map, gNot, sizeLine_eq, flatM, flatT, flatMs, flatTs, gMul_r (j := 1000003) (by decide), adjG, frzAt, parG, ir]
    rw [List.map_cons, loopM, List.all_cons]
    have hg : gSet 3 (.fz (grD r)) [a, b, .fz (.int many), x0, .dead] = some [a, b, .fz (.int many), .fz (grD r), .dead] := rfl
    rw [hg, ofO_some, hb]
    cases hq : rowB many r with
    | true =>
      rw [if_pos rfl, Bool.true_and]
      exact mrows_lp b l (fun q hq => hl q (List.mem_cons_of_mem _ hq)) hm a .dead
    | false =>
      right
      rw [if_neg (by decide)]
      exact ⟨rfl, _, rfl⟩
def bellB (many : Nat) (b : Int) : Bool := decide (0 ≤ b ∧ b ≤ (many : Int))
theorem mbells_lp {many : Nat} (a b c : M) : ∀ (l : List Int) (x0 : M), (l.all (bellB many)) = true ∧ (∃ x, loopM (gSet 4) bd_mill_of_2 (l.map .int) [a, b, .fz (.int many), c, x0] = .ok .nx [a, b, .fz (.int many), c, x]) ∨
    (l.all (bellB many)) = false ∧ ∃ x, loopM (gSet 4) bd_mill_of_2 (l.map .int) [a, b, .fz (.int many), c, x0] = .err "NoMill" [a, b, .fz (.int many), c, x]
  | [], x0 => .inl ⟨rfl, x0, rfl⟩
  | i :: l, x0 => by
    have hb : bd_mill_of_2 [a, b, .fz (.int many), c, .fz (.int i)] = if bellB many i = true then .ok .nx [a, b, .fz (.int many), c, .dead] else .err "NoMill" [a, b, .fz (.int many), c, .fz (.int i)] := by
      unfold bellB
      by_cases h1 : i < 0
      · rw [decide_eq_false (by omega), if_neg (by decide)]
        simp [bd_mill_of_2, EAll, BAll, okArgs, back, atI, ixN, blD, flatD, Tw.gSub, gNeg, gLt, gLe, gGt, gGe, mkTup, fzs, partsOf, takeAll, putAll, intD, Option.bind, Option.map, gNot, sizeLine_eq, flatM, flatT, flatMs, flatTs, gMul_r (j := 1000003) (by decide), adjG, frzAt, parG, h1]
      · by_cases h2 : (many : Int) < i
        · rw [decide_eq_false (by omega), if_neg (by decide)]
          simp [bd_mill_of_2, EAll, BAll, okArgs, back, atI, ixN, blD, flatD, Tw.gSub, gNeg, gLt, gLe, gGt, gGe, mkTup, fzs, partsOf, takeAll, putAll, intD, Option.bind, Option.map, gNot, sizeLine_eq, flatM, flatT, flatMs, flatTs, gMul_r (j := 1000003) (by decide), adjG, frzAt, parG, h1, h2]
        · rw [decide_eq_true (by omega), if_pos rfl]
          simp [bd_mill_of_2, EAll, BAll, okArgs, back, atI, ixN, blD, flatD, Tw.gSub, gNeg, gLt, gLe, gGt, gGe, mkTup, fzs, partsOf, takeAll, putAll, intD, Option.bind, Option.map, gNot, sizeLine_eq, flatM, flatT, flatMs, flatTs, gMul_r (j := 1000003) (by decide), adjG, frzAt, parG, h1, h2]
    rw [List.map_cons, loopM, List.all_cons]
    have hg : gSet 4 (.fz (.int i)) [a, b, .fz (.int many), c, x0] = some [a, b, .fz (.int many), c, .fz (.int i)] := rfl
    rw [hg, ofO_some, hb]
    cases hq : bellB many i with
    | true =>
      rw [if_pos rfl, Bool.true_and]
      exact mbells_lp a b c l .dead
    | false =>
      right
      rw [if_neg (by decide)]
      exact ⟨rfl, _, rfl⟩
def goodB (rows : List GR) (bells : List Int) : Bool := decide (1 ≤ rows.length ∧ rows.length ≤ 40) && (decide (bells.length ≤ 4) && (rows.all (rowB rows.length) && bells.all (bellB rows.length)))
def rD (rows : List GR) : D := .list (rows.map grD)
def bD (bells : List Int) : D := .list (bells.map .int)
theorem millof_ok {m : Nat} {rows : List GR} {bells : List Int} (h : ∀ r ∈ rows, GOk m r) (hm : m ≤ 1000) : m_mill_of [.fz (rD rows), .fz (bD bells)] = if goodB rows bells = true then .ok (.fz (.tuple [.tuple (rows.map grD), .tuple (bells.map .int)])) [.fz (rD rows), .fz (bD bells)] else .err "NoMill" [.fz (rD rows), .fz (bD bells)] := by
  have ln : gLen [rD rows] = some (.int (rows.length : Nat)) := by simp [rD, gLen]
  have lb : gLen [bD bells] = some (.int (bells.length : Nat)) := by simp [bD, gLen]
  have sr : seqOf (rD rows) = some (rows.map grD) := rfl
  have sb : seqOf (bD bells) = some (bells.map .int) := rfl
  have tr : gTup [rD rows] = some (.tuple (rows.map grD)) := rfl
  have tb : gTup [bD bells] = some (.tuple (bells.map .int)) := rfl
  unfold goodB
  by_cases h1 : 1 ≤ rows.length ∧ rows.length ≤ 40
  · rw [decide_eq_true h1, Bool.true_and]
    have a1 : ¬ (rows.length : Int) < 1 := by omega
    have a2 : ¬ (40 : Int) < (rows.length : Int) := by omega
    have a3 : ¬ rows.length < 1 := by omega
    have a4 : ¬ 40 < rows.length := by omega
    by_cases h2 : bells.length ≤ 4
    · rw [decide_eq_true h2, Bool.true_and]
      have c1 : ¬ (4 : Int) < (bells.length : Int) := by omega
      have c2 : ¬ 4 < bells.length := by omega
      rcases mrows_lp (m := m) (many := rows.length) (.fz (bD bells)) rows h hm (.fz (rD rows)) .dead with ⟨r1, x, r2⟩ | ⟨r1, x, r2⟩
      · rw [r1, Bool.true_and]
        rcases mbells_lp (many := rows.length) (.fz (rD rows)) (.fz (bD bells)) x bells .dead with ⟨q1, y, q2⟩ | ⟨q1, y, q2⟩
        · rw [q1, if_pos rfl]
          generalize bells.map PyData.int = BG at *
          generalize rows.map grD = RG at *
          generalize rD rows = rd at *
          generalize bD bells = bd at *
          simp [m_mill_of, lp_mill_of_1, lp_mill_of_2, e_runF, EAll, BAll, okArgs, back, atI, ixN, blD, flatD, Tw.gSub, gNeg, gLt, gLe, gGt, gGe, mkTup, fzs, partsOf, takeAll, putAll, intD, Option.bind, Option.map, gNot, sizeLine_eq, flatM, flatT, flatMs, flatTs, gMul_r (j := 1000003) (by decide), adjG, frzAt, parG, e_sForX, ln, lb, a1, a2, a3, a4, c1, c2, sr, sb, tr, tb, r2, q2]
        · rw [q1, if_neg (by decide)]
          generalize bells.map PyData.int = BG at *
          generalize rows.map grD = RG at *
          generalize rD rows = rd at *
          generalize bD bells = bd at *
          simp [m_mill_of, lp_mill_of_1, lp_mill_of_2, e_runF, EAll, BAll, okArgs, back, atI, ixN, blD, flatD, Tw.gSub, gNeg, gLt, gLe, gGt, gGe, mkTup, fzs, partsOf, takeAll, putAll, intD, Option.bind, Option.map, gNot, sizeLine_eq, flatM, flatT, flatMs, flatTs, gMul_r (j := 1000003) (by decide), adjG, frzAt, parG, e_sForX, ln, lb, a1, a2, a3, a4, c1, c2, sr, sb, tr, tb, r2, q2]
      · rw [r1, Bool.false_and, if_neg (by decide)]
        generalize rows.map grD = RG at *
        generalize rD rows = rd at *
        generalize bD bells = bd at *
        simp [m_mill_of, lp_mill_of_1, e_runF, EAll, BAll, okArgs, back, atI, ixN, blD, flatD, Tw.gSub, gNeg, gLt, gLe, gGt, gGe, mkTup, fzs, partsOf, takeAll, putAll, intD, Option.bind, Option.map, gNot, sizeLine_eq, flatM, flatT, flatMs, flatTs, gMul_r (j := 1000003) (by decide), adjG, frzAt, parG, e_sForX, ln, lb, a1, a2, a3, a4, c1, c2, sr, r2]
    · rw [decide_eq_false h2, Bool.false_and, if_neg (by decide)]
      have c1 : (4 : Int) < (bells.length : Int) := by omega
      have c2 : 4 < bells.length := by omega
      generalize rD rows = rd at *
      generalize bD bells = bd at *
      simp [m_mill_of, e_runF, EAll, BAll, okArgs, back, atI, ixN, blD, flatD, Tw.gSub, gNeg, gLt, gLe, gGt, gGe, mkTup, fzs, partsOf, takeAll, putAll, intD, Option.bind, Option.map, gNot, sizeLine_eq, flatM, flatT, flatMs, flatTs, gMul_r (j := 1000003) (by decide), adjG, frzAt, parG, ln, lb, a1, a2, a3, a4, c1, c2]
  · rw [decide_eq_false h1, Bool.false_and, if_neg (by decide)]
    by_cases a1 : rows.length < 1
    · have a2 : (rows.length : Int) < 1 := by omega
      have a3 : rows.length = 0 := by omega
      generalize rD rows = rd at *
      generalize bD bells = bd at *
      simp [m_mill_of, e_runF, EAll, BAll, okArgs, back, atI, ixN, blD, flatD, Tw.gSub, gNeg, gLt, gLe, gGt, gGe, mkTup, fzs, partsOf, takeAll, putAll, intD, Option.bind, Option.map, gNot, sizeLine_eq, flatM, flatT, flatMs, flatTs, gMul_r (j := 1000003) (by decide), adjG, frzAt, parG, ln, a1, a2, a3]
    · have a2 : ¬ (rows.length : Int) < 1 := by omega
      have a3 : (40 : Int) < (rows.length : Int) := by omega
      have a4 : 40 < rows.length := by omega
      generalize rD rows = rd at *
      generalize bD bells = bd at *
      simp [m_mill_of, e_runF, EAll, BAll, okArgs, back, atI, ixN, blD, flatD, Tw.gSub, gNeg, gLt, gLe, gGt, gGe, mkTup, fzs, partsOf, takeAll, putAll, intD, Option.bind, Option.map, gNot, sizeLine_eq, flatM, flatT, flatMs, flatTs, gMul_r (j := 1000003) (by decide), adjG, frzAt, parG, ln, a1, a2, a3, a4]
end Lwk04
namespace Lwk04
open PySem PySem.Spec L2 Tw

def toG : RowT → GR
  | .put d n => ⟨"put", [d, n]⟩
  | .sum d a b => ⟨"sum", [d, a, b]⟩
  | .mul d a b => ⟨"mul", [d, a, b]⟩
  | .less d a b => ⟨"less", [d, a, b]⟩
  | .take d a n => ⟨"take", [d, a, n]⟩
  | .lay b a n => ⟨"lay", [b, a, n]⟩
  | .go a p => ⟨"go", [a, p]⟩
  | .shut => ⟨"shut", []⟩
  | .opn => ⟨"open", []⟩
  | .home => ⟨"home", []⟩
theorem toG_ok (r : RowT) : grD (toG r) = rowD r := by cases r <;> rfl
theorem toG_g (r : RowT) : GOk 8 (toG r) := by
  cases r <;> exact ⟨(ascB_ok (by kernel_rfl) : Asc 4 _).up (by decide), by simp [toG]⟩
theorem toG_all (rows : List RowT) : rows.map (M.fz ∘ rowD) = (rows.map toG).map (M.fz ∘ grD) := by
  rw [List.map_map]
  refine List.map_congr_left fun r _ => ?_
  show M.fz _ = M.fz _
  rw [toG_ok]
theorem bells_iD (bells : List Nat) : bells.map natD = (bells.map fun b => ((b : Nat) : Int)).map .int := by
  rw [List.map_map]
  rfl
end Lwk04
namespace Lwk04
open PySem PySem.Spec L2 Tw SX

def rW (r : RowT) : List Nat := (toG r).w.cps.toList
def rN : RowT → List Nat
  | .put d n => [d, n.toNat]
  | .sum d a b => [d, a, b]
  | .mul d a b => [d, a, b]
  | .less d a b => [d, a, b]
  | .take d a n => [d, a, n]
  | .lay b a n => [b, a, n]
  | .go a p => [a, p]
  | _ => []
theorem rN_ok {r : RowT} {m : Nat} (h : r.Ok m) : (toG r).ns = (rN r).map fun k => ((k : Nat) : Int) := by
  cases r with
  | put d n =>
    show [(d : Int), n] = [(d : Int), ((n.toNat : Nat) : Int)]
    rw [Int.toNat_of_nonneg h.2.1]
  | _ => rfl
theorem rowD_S {r : RowT} {m : Nat} (h : r.Ok m) : rowD r = .tuple (.str (S (rW r)) :: (rN r).map natD) := by
  rw [← toG_ok]
  unfold grD rW
  rw [rN_ok h, S_tl, List.map_map]
  rfl
theorem rN_lt {r : RowT} {m : Nat} (h : r.Ok m) (hm : m ≤ 40) : ∀ k ∈ rN r, k < 10 ^ 10 := by
  intro k hk
  cases r with
  | put d n =>
    simp only [rN, List.mem_cons, List.not_mem_nil, or_false] at hk
    have h1 : d < 8 := h.1
    have h2 := h.2.1
    have h3 : n < 4294967296 := h.2.2
    rcases hk with rfl | rfl <;> omega
  | sum d a b => simp only [rN, List.mem_cons, List.not_mem_nil, or_false] at hk; have h1 : d < 8 := h.1; have h2 : a < 8 := h.2.1; have h3 : b < 8 := h.2.2; rcases hk with rfl | rfl | rfl <;> omega
  | mul d a b => simp only [rN, List.mem_cons, List.not_mem_nil, or_false] at hk; have h1 : d < 8 := h.1; have h2 : a < 8 := h.2.1; have h3 : b < 8 := h.2.2; rcases hk with rfl | rfl | rfl <;> omega
  | less d a b => simp only [rN, List.mem_cons, List.not_mem_nil, or_false] at hk; have h1 : d < 8 := h.1; have h2 : a < 8 := h.2.1; have h3 : b < 8 := h.2.2; rcases hk with rfl | rfl | rfl <;> omega
  | take d a n => simp only [rN, List.mem_cons, List.not_mem_nil, or_false] at hk; have h1 : d < 8 := h.1; have h2 : a < 8 := h.2.1; have h3 : n < 16 := h.2.2; rcases hk with rfl | rfl | rfl <;> omega
  | lay b a n => simp only [rN, List.mem_cons, List.not_mem_nil, or_false] at hk; have h1 : b < 8 := h.1; have h2 : a < 8 := h.2.1; have h3 : n < 16 := h.2.2; rcases hk with rfl | rfl | rfl <;> omega
  | go a p => simp only [rN, List.mem_cons, List.not_mem_nil, or_false] at hk; have h1 : a < 8 := h.1; have h2 : p ≤ m := h.2; rcases hk with rfl | rfl <;> omega
  | _ => cases hk
theorem rN_len (r : RowT) : (rN r).length ≤ 3 := by cases r <;> simp [rN]
theorem rW_asc (r : RowT) : ∀ c ∈ rW r, 97 ≤ c ∧ c < 123 := by
  cases r with
  | put d n => exact (by decide +kernel : ∀ c ∈ ("put" : Str).cps.toList, 97 ≤ c ∧ c < 123)
  | sum d a b => exact (by decide +kernel : ∀ c ∈ ("sum" : Str).cps.toList, 97 ≤ c ∧ c < 123)
  | mul d a b => exact (by decide +kernel : ∀ c ∈ ("mul" : Str).cps.toList, 97 ≤ c ∧ c < 123)
  | less d a b => exact (by decide +kernel : ∀ c ∈ ("less" : Str).cps.toList, 97 ≤ c ∧ c < 123)
  | take d a n => exact (by decide +kernel : ∀ c ∈ ("take" : Str).cps.toList, 97 ≤ c ∧ c < 123)
  | lay b a n => exact (by decide +kernel : ∀ c ∈ ("lay" : Str).cps.toList, 97 ≤ c ∧ c < 123)
  | go a p => exact (by decide +kernel : ∀ c ∈ ("go" : Str).cps.toList, 97 ≤ c ∧ c < 123)
  | shut => exact (by decide +kernel : ∀ c ∈ ("shut" : Str).cps.toList, 97 ≤ c ∧ c < 123)
  | opn => exact (by decide +kernel : ∀ c ∈ ("open" : Str).cps.toList, 97 ≤ c ∧ c < 123)
  | home => exact (by decide +kernel : ∀ c ∈ ("home" : Str).cps.toList, 97 ≤ c ∧ c < 123)
theorem rW_len (r : RowT) : (rW r).length ≤ 8 := by
  have := (toG_g r).asc.len
  rw [str_len] at this
  exact this
def rowP (r : RowT) : List (List Nat) := rW r :: (rN r).map TL.numL
def rowL (r : RowT) : List Nat := TL.joinL [32] (rowP r)
theorem rowP_len {r : RowT} {m : Nat} (h : r.Ok m) (hm : m ≤ 40) : ∀ p ∈ rowP r, p.length ≤ 10 := by
  intro p hp
  rcases List.mem_cons.mp hp with rfl | hp
  · have := rW_len r; omega
  · obtain ⟨k, hk, rfl⟩ := List.mem_map.mp hp
    exact num_len (rN_lt h hm k hk)
theorem rowL_len {r : RowT} {m : Nat} (h : r.Ok m) (hm : m ≤ 40) : (rowL r).length ≤ 44 := by
  have h1 := joinL_len [32] 10 (rowP r) (rowP_len h hm)
  have h2 : (rowP r).length ≤ 4 := by
    show (rW r :: (rN r).map TL.numL).length ≤ 4
    rw [List.length_cons, List.length_map]
    have := rN_len r
    omega
  have h3 : (rowP r).length * (10 + [32].length) ≤ 4 * 11 := Nat.mul_le_mul h2 (Nat.le_refl _)
  unfold rowL
  omega
theorem blank_S : (" " : Str) = S [32] := rfl
theorem semi_S : ("; " : Str) = S [59, 32] := rfl
theorem bar_S : (" | " : Str) = S [32, 124, 32] := rfl
theorem show_row_ok {r : RowT} {m : Nat} (h : r.Ok m) (hm : m ≤ 40) : m_show_row [.fz (rowD r)] = .ok (.fz (.str (S (rowL r)))) [.fz (rowD r)] := by
  have lt := rN_lt h hm
  have n3 := rN_len r
  have lc : lc_show_row_1 [.fz (rowD r), .dead] = .ok (.lst ((rN r).map fun k => M.fz (.str (S (TL.numL k))))) [.fz (rowD r), .dead] := by
    unfold lc_show_row_1
    refine mLc_mapE (vs := [1]) (g := gSetC 1) (ps := rN r) natD (fun k => M.fz (.str (S (TL.numL k)))) ?_ rfl rfl (by rw [sizeLine_eq]; omega) (fun k hk => ⟨[.fz (rowD r), .fz (natD k)], rfl, ?_, rfl, rfl⟩)
    · have sl := sl_from (.str (S (rW r)) :: (rN r).map natD) 1
      rw [← rowD_S h] at sl
      have e : (PyData.str (S (rW r)) :: (rN r).map natD).drop 1 = (rN r).map natD := rfl
      rw [e] at sl
      generalize rowD r = rd at *
      generalize (rN r).map natD = ND at *
      simp at sl
      simp [EAll, BAll, okArgs, back, atI, ixN, blD, flatD, Tw.gSub, gNeg, gLt, gLe, gGt, gGe, mkTup, fzs, partsOf, takeAll, putAll, intD, Option.bind, Option.map, gNot, sizeLine_eq, flatM, flatT, flatMs, flatTs, gMul_r (j := 1000003) (by decide), adjG, frzAt, parG, sl, seqOf]
    · have g : gStrI [natD k] = some (.str (S (TL.numL k))) := str_num (lt k hk)
      generalize natD k = kd at *
      simp [e_mF, e_mCall, e_aCons, e_aNil, e_mVar, g]
  have fz := frzs_comp (fun k : Nat => PyData.str (S (TL.numL k))) (rN r)
  have jn := join_ok [32] 10 (rowP r) (rowP_len h hm) (by
    have h2 : (rowP r).length ≤ 4 := by show (rW r :: (rN r).map TL.numL).length ≤ 4; rw [List.length_cons, List.length_map]; omega
    exact Nat.le_trans (Nat.mul_le_mul h2 (Nat.le_refl _)) (by decide))
  have i0 : gIx (rowD r) (.int 0) = some (.str (S (rW r))) := by rw [rowD_S h]; simp [gIx, atI, ixN]
  have ad : gAdd (.list [.str (S (rW r))]) (.list ((rN r).map fun k => PyData.str (S (TL.numL k)))) = some (.list ((rowP r).map fun p => .str (S p))) := by
    show (if _ then _ else _) = _
    rw [if_pos (by rw [sizeLine_eq, List.length_map]; simp; omega)]
    unfold rowP
    rw [List.map_cons, List.map_map]
    rfl
  have e : TL.joinL [32] (rowP r) = rowL r := rfl
  rw [e, ← blank_S] at jn
  have fz2 : M.frzs ((rN r).map fun k => M.fz (.str (S (TL.numL k)))) = some ((rN r).map fun k => PyData.str (S (TL.numL k))) := fz
  generalize ((rN r).map fun k => M.fz (.str (S (TL.numL k)))) = A1 at *
  generalize ((rN r).map fun k => PyData.str (S (TL.numL k))) = A2 at *
  generalize ((rowP r).map fun p => PyData.str (S p)) = A3 at *
  generalize S (rW r) = w at *
  generalize S (rowL r) = t at *
  generalize rowD r = rd at *
  simp [m_show_row, e_runF, mM1, isStr, e_sRet, e_mF, e_mC, e_mBin, e_mVar, e_aLst, e_aCons, e_aNil, e_mD, lc, fz2, ad, jn, i0, sizeLine_eq, okArgs, nonOwn_fz, back]
end Lwk04
namespace Lwk04
open PySem PySem.Spec L2 Tw SX

def headL (rows : List RowT) : List Nat := TL.joinL [59, 32] (rows.map rowL)
def tailL (bells : List Nat) : List Nat := TL.joinL [32] (bells.map TL.numL)
def textL (rows : List RowT) (bells : List Nat) : List Nat := if bells.isEmpty = true then headL rows else headL rows ++ ([32, 124, 32] ++ tailL bells)
theorem rows_len {rows : List RowT} {bells : List Nat} (h : Mill rows bells) : ∀ p ∈ rows.map rowL, p.length ≤ 44 := by
  intro p hp
  obtain ⟨r, hr, rfl⟩ := List.mem_map.mp hp
  exact rowL_len (h.row r hr) h.most
theorem bells_len {rows : List RowT} {bells : List Nat} (h : Mill rows bells) : ∀ p ∈ bells.map TL.numL, p.length ≤ 10 := by
  intro p hp
  obtain ⟨b, hb, rfl⟩ := List.mem_map.mp hp
  have h1 := h.bell b hb
  have h2 := h.most
  exact num_len (by omega)
theorem head_len {rows : List RowT} {bells : List Nat} (h : Mill rows bells) : (headL rows).length ≤ 1840 := by
  have h1 := joinL_len [59, 32] 44 _ (rows_len h)
  rw [List.length_map] at h1
  have h2 : rows.length * (44 + [59, 32].length) ≤ 40 * 46 := Nat.mul_le_mul h.most (Nat.le_refl _)
  unfold headL
  omega
theorem tail_len {rows : List RowT} {bells : List Nat} (h : Mill rows bells) : (tailL bells).length ≤ 44 := by
  have h1 := joinL_len [32] 10 _ (bells_len h)
  rw [List.length_map] at h1
  have h2 : bells.length * (10 + [32].length) ≤ 4 * 11 := Nat.mul_le_mul h.few (Nat.le_refl _)
  unfold tailL
  omega
theorem head_join {rows : List RowT} {bells : List Nat} (h : Mill rows bells) : gJoin (.str "; ") (.list (rows.map fun r => .str (S (rowL r)))) = some (.str (S (headL rows))) := by
  have := join_ok [59, 32] 44 (rows.map rowL) (rows_len h) (by rw [List.length_map]; exact Nat.le_trans (Nat.mul_le_mul h.most (Nat.le_refl _)) (by decide))
  rw [List.map_map] at this
  exact this
theorem tail_join {rows : List RowT} {bells : List Nat} (h : Mill rows bells) : gJoin (.str " ") (.list (bells.map fun b => .str (S (TL.numL b)))) = some (.str (S (tailL bells))) := by
  have := join_ok [32] 10 (bells.map TL.numL) (bells_len h) (by rw [List.length_map]; exact Nat.le_trans (Nat.mul_le_mul h.few (Nat.le_refl _)) (by decide))
  rw [List.map_map] at this
  exact this
theorem cat_bar {rows : List RowT} {bells : List Nat} (h : Mill rows bells) : gAdd (.str (S (headL rows))) (.str " | ") = some (.str (S (headL rows ++ [32, 124, 32]))) := by
  have h1 := head_len h
  rw [bar_S]
  show (if (S (headL rows)).length + (S [32, 124, 32]).length ≤ sizeLine then some (PyData.str (S (headL rows) ++ S [32, 124, 32])) else none) = _
  rw [if_pos (by rw [S_len, S_len, sizeLine_eq]; simp; omega), S_cat]
theorem cat_tail {rows : List RowT} {bells : List Nat} (h : Mill rows bells) : gAdd (.str (S (headL rows ++ [32, 124, 32]))) (.str (S (tailL bells))) = some (.str (S (headL rows ++ ([32, 124, 32] ++ tailL bells)))) := by
  have h1 := head_len h
  have h2 := tail_len h
  show (if (S (headL rows ++ [32, 124, 32])).length + (S (tailL bells)).length ≤ sizeLine then some (PyData.str (S (headL rows ++ [32, 124, 32]) ++ S (tailL bells))) else none) = _
  rw [if_pos (by rw [S_len, S_len, sizeLine_eq]; simp; omega), S_cat, List.append_assoc]
theorem bells_str {rows : List RowT} {bells : List Nat} (h : Mill rows bells) : ∀ b ∈ bells, gStrI [natD b] = some (.str (S (TL.numL b))) := fun b hb => by
  have h1 := h.bell b hb
  have h2 := h.most
  exact str_num (by omega)
theorem show_mill_ok {rows : List RowT} {bells : List Nat} (h : Mill rows bells) : m_show_mill [.fz (millD rows bells)] = .ok (.fz (.str (S (textL rows bells)))) [.fz (millD rows bells)] := by
  have few := h.few
  have most := h.most
  have lc1 : ∀ md : D, lc_show_mill_1 [.fz md, .fz (.tuple (rows.map rowD)), .fz (.tuple (bells.map natD)), .dead, .dead, .dead] = .ok (.lst (rows.map fun r => M.fz (.str (S (rowL r))))) [.fz md, .fz (.tuple (rows.map rowD)), .fz (.tuple (bells.map natD)), .dead, .dead, .dead] := fun md => by
    unfold lc_show_mill_1
    refine mLc_mapE (vs := [4]) (g := gSetC 4) (ps := rows) rowD (fun r => M.fz (.str (S (rowL r)))) rfl rfl rfl (by rw [sizeLine_eq]; omega) (fun r hr => ⟨[.fz md, .fz (.tuple (rows.map rowD)), .fz (.tuple (bells.map natD)), .dead, .fz (rowD r), .dead], rfl, ?_, rfl, rfl⟩)
    have g := show_row_ok (h.row r hr) h.most
    generalize rowD r = rd at *
    simp [e_mF, e_mCall0, e_mCons, e_mNil, e_mVar, g, keepG, nonOwn_fz]
  have lc2 : ∀ md tx : D, lc_show_mill_2 [.fz md, .fz (.tuple (rows.map rowD)), .fz (.tuple (bells.map natD)), .fz tx, .dead, .dead] = .ok (.lst (bells.map fun b => M.fz (.str (S (TL.numL b))))) [.fz md, .fz (.tuple (rows.map rowD)), .fz (.tuple (bells.map natD)), .fz tx, .dead, .dead] := fun md tx => by
    unfold lc_show_mill_2
    refine mLc_mapE (vs := [5]) (g := gSetC 5) (ps := bells) natD (fun b => M.fz (.str (S (TL.numL b)))) rfl rfl rfl (by rw [sizeLine_eq]; omega) (fun b hb => ⟨[.fz md, .fz (.tuple (rows.map rowD)), .fz (.tuple (bells.map natD)), .fz tx, .dead, .fz (natD b)], rfl, ?_, rfl, rfl⟩)
    have g := bells_str h b hb
    generalize natD b = kd at *
    simp [e_mF, e_mCall, e_aCons, e_aNil, e_mVar, g]
  have f1 : M.frzs (rows.map fun r => M.fz (.str (S (rowL r)))) = some (rows.map fun r => PyData.str (S (rowL r))) := frzs_comp (fun r => PyData.str (S (rowL r))) rows
  have f2 : M.frzs (bells.map fun b => M.fz (.str (S (TL.numL b)))) = some (bells.map fun b => PyData.str (S (TL.numL b))) := frzs_comp (fun b => PyData.str (S (TL.numL b))) bells
  have j1 := head_join h
  have j2 := tail_join h
  have c1 := cat_bar h
  have c2 := cat_tail h
  have ln : gLen [.tuple (bells.map natD)] = some (.int (bells.length : Nat)) := by simp [gLen]
  have gt : gGt (.int (bells.length : Int)) (.int 0) = some (.bool (!bells.isEmpty)) := by
    show some (PyData.bool (decide _)) = _
    congr 2
    cases bells with
    | nil => rfl
    | cons a b => exact decide_eq_true (by simp <;> omega)
  have a1 : sAsg (gTupM 2 (gsCons (gSet 1) (gsCons (gSet 2) gsNil))) (mF (mVar 0)) [.fz (millD rows bells), .dead, .dead, .dead, .dead, .dead] = .ok .nx [.fz (millD rows bells), .fz (.tuple (rows.map rowD)), .fz (.tuple (bells.map natD)), .dead, .dead, .dead] := rfl
  generalize (rows.map fun r => M.fz (.str (S (rowL r)))) = A1 at *
  generalize (rows.map fun r => PyData.str (S (rowL r))) = A2 at *
  generalize (bells.map fun b => M.fz (.str (S (TL.numL b)))) = A3 at *
  generalize (bells.map fun b => PyData.str (S (TL.numL b))) = A4 at *
  unfold textL
  generalize S (headL rows ++ [32, 124, 32]) = t1 at *
  generalize PyData.tuple (rows.map rowD) = R at *
  generalize PyData.tuple (bells.map natD) = B at *
  generalize millD rows bells = ml at *
  have l1 := lc1 ml
  cases hb : bells.isEmpty with
  | true =>
    rw [hb] at gt
    rw [if_pos rfl]
    generalize S (headL rows) = t0 at *
    unfold m_show_mill
    refine run_ret (r := .fz (.str t0)) (γ := [.fz ml, .fz R, .fz B, .fz (.str t0), .dead, .dead]) rfl (seq_nx a1 ?_) rfl
    simp [if_show_mill_1, mM1, isStr, EAll, okArgs, nonOwn_fz, nonOwn_lst, nonOwn_tup, nonOwn_dead, back, isDead_fz, isDead_lst, isDead_tup, isDead_dead, truB, blD, intD, mkTup, Option.bind, Option.map, sizeLine_eq, Option.map_some, List.getElem?_cons_succ, List.getElem?_cons_zero, List.set_cons_succ, List.set_cons_zero, l1, f1, j1, ln, gt]
  | false =>
    rw [hb] at gt
    rw [if_neg (by decide)]
    generalize S (headL rows ++ ([32, 124, 32] ++ tailL bells)) = t2 at *
    generalize S (headL rows) = t0 at *
    generalize S (tailL bells) = t3 at *
    have l2 := lc2 ml (.str t0)
    unfold m_show_mill
    refine run_ret (r := .fz (.str t2)) (γ := [.fz ml, .fz R, .fz B, .fz (.str t2), .dead, .dead]) rfl (seq_nx a1 ?_) rfl
    simp [if_show_mill_1, mM1, isStr, EAll, okArgs, nonOwn_fz, nonOwn_lst, nonOwn_tup, nonOwn_dead, back, isDead_fz, isDead_lst, isDead_tup, isDead_dead, truB, blD, intD, mkTup, Option.bind, Option.map, sizeLine_eq, Option.map_some, List.getElem?_cons_succ, List.getElem?_cons_zero, List.set_cons_succ, List.set_cons_zero, l1, l2, f1, f2, j1, j2, c1, c2, ln, gt]
theorem shown_ok {rows : List RowT} {bells : List Nat} (h : Mill rows bells) : m__law_shown [.fz (millD rows bells)] = .ok (.fz (.str (S (textL rows bells)))) [.fz (millD rows bells)] := by
  have few := h.few
  have most := h.most
  have m0 := mill_rows rows bells
  have m1 := mill_bells rows bells
  have lc1 : ∀ (r : RowT), r ∈ rows → ∀ (md : D), lc__law_shown_1 [.fz md, .dead, .fz (rowD r), .dead, .dead] = .ok (.lst ((rN r).map fun k => M.fz (.str (S (TL.numL k))))) [.fz md, .dead, .fz (rowD r), .dead, .dead] := fun r hr md => by
    have lt := rN_lt (h.row r hr) most
    have n3 := rN_len r
    unfold lc__law_shown_1
    refine mLc_mapE (vs := [4]) (g := gSetC 4) (ps := rN r) natD (fun k => M.fz (.str (S (TL.numL k)))) ?_ rfl rfl (by rw [sizeLine_eq]; omega) (fun k hk => ⟨[.fz md, .dead, .fz (rowD r), .dead, .fz (natD k)], rfl, ?_, rfl, rfl⟩)
    · have sl := sl_from (.str (S (rW r)) :: (rN r).map natD) 1
      rw [← rowD_S (h.row r hr)] at sl
      have e : (PyData.str (S (rW r)) :: (rN r).map natD).drop 1 = (rN r).map natD := rfl
      rw [e] at sl
      generalize rowD r = rd at *
      generalize (rN r).map natD = ND at *
      simp at sl
      simp [EAll, BAll, okArgs, back, atI, ixN, blD, flatD, Tw.gSub, gNeg, gLt, gLe, gGt, gGe, mkTup, fzs, partsOf, takeAll, putAll, intD, Option.bind, Option.map, gNot, sizeLine_eq, flatM, flatT, flatMs, flatTs, gMul_r (j := 1000003) (by decide), adjG, frzAt, parG, sl, seqOf]
    · have g : gStrI [natD k] = some (.str (S (TL.numL k))) := str_num (lt k hk)
      generalize natD k = kd at *
      simp [e_mF, e_mCall, e_aCons, e_aNil, e_mVar, g]
  have lc2 : lc__law_shown_2 [.fz (millD rows bells), .dead, .dead, .dead, .dead] = .ok (.lst (rows.map fun r => M.fz (.str (S (rowL r))))) [.fz (millD rows bells), .dead, .dead, .dead, .dead] := by
    unfold lc__law_shown_2
    refine mLc_mapE (vs := [2]) (g := gSetC 2) (ps := rows) rowD (fun r => M.fz (.str (S (rowL r)))) ?_ rfl rfl (by rw [sizeLine_eq]; omega) (fun r hr => ⟨[.fz (millD rows bells), .dead, .fz (rowD r), .dead, .dead], rfl, ?_, rfl, rfl⟩)
    · generalize millD rows bells = ml at *
      generalize rows.map rowD = R at *
      simp [e_iD, e_mBin, e_mVar, e_mC, m0, seqOf]
    · have l1 := lc1 r hr (millD rows bells)
      have n3 := rN_len r
      have hro := h.row r hr
      have fz2 : M.frzs ((rN r).map fun k => M.fz (.str (S (TL.numL k)))) = some ((rN r).map fun k => PyData.str (S (TL.numL k))) := frzs_comp (fun k : Nat => PyData.str (S (TL.numL k))) (rN r)
      have jn := join_ok [32] 10 (rowP r) (rowP_len hro most) (by
        have h2 : (rowP r).length ≤ 4 := by show (rW r :: (rN r).map TL.numL).length ≤ 4; rw [List.length_cons, List.length_map]; omega
        exact Nat.le_trans (Nat.mul_le_mul h2 (Nat.le_refl _)) (by decide))
      have i0 : gIx (rowD r) (.int 0) = some (.str (S (rW r))) := by rw [rowD_S hro]; simp [gIx, atI, ixN]
      have ad : gAdd (.list [.str (S (rW r))]) (.list ((rN r).map fun k => PyData.str (S (TL.numL k)))) = some (.list ((rowP r).map fun p => .str (S p))) := by
        show (if _ then _ else _) = _
        rw [if_pos (by rw [sizeLine_eq, List.length_map]; simp; omega)]
        unfold rowP
        rw [List.map_cons, List.map_map]
        rfl
      have e : TL.joinL [32] (rowP r) = rowL r := rfl
      rw [e, ← blank_S] at jn
      generalize ((rN r).map fun k => M.fz (.str (S (TL.numL k)))) = A1 at *
      generalize ((rN r).map fun k => PyData.str (S (TL.numL k))) = A2 at *
      generalize ((rowP r).map fun p => PyData.str (S p)) = A3 at *
      generalize S (rW r) = w at *
      generalize S (rowL r) = t at *
      generalize rowD r = rd at *
      generalize millD rows bells = ml at *
      simp [mM1, isStr, e_mF, e_mC, e_mBin, e_mVar, e_aLst, e_aCons, e_aNil, e_mD, l1, fz2, ad, jn, i0, sizeLine_eq]
  have lc3 : ∀ tx : D, lc__law_shown_3 [.fz (millD rows bells), .fz tx, .dead, .dead, .dead] = .ok (.lst (bells.map fun b => M.fz (.str (S (TL.numL b))))) [.fz (millD rows bells), .fz tx, .dead, .dead, .dead] := fun tx => by
    unfold lc__law_shown_3
    refine mLc_mapE (vs := [3]) (g := gSetC 3) (ps := bells) natD (fun b => M.fz (.str (S (TL.numL b)))) ?_ rfl rfl (by rw [sizeLine_eq]; omega) (fun b hb => ⟨[.fz (millD rows bells), .fz tx, .dead, .fz (natD b), .dead], rfl, ?_, rfl, rfl⟩)
    · generalize millD rows bells = ml at *
      generalize bells.map natD = B at *
      simp [e_iD, e_mBin, e_mVar, e_mC, m1, seqOf]
    · have g := bells_str h b hb
      generalize natD b = kd at *
      simp [e_mF, e_mCall, e_aCons, e_aNil, e_mVar, g]
  have f1 : M.frzs (rows.map fun r => M.fz (.str (S (rowL r)))) = some (rows.map fun r => PyData.str (S (rowL r))) := frzs_comp (fun r => PyData.str (S (rowL r))) rows
  have f2 : M.frzs (bells.map fun b => M.fz (.str (S (TL.numL b)))) = some (bells.map fun b => PyData.str (S (TL.numL b))) := frzs_comp (fun b => PyData.str (S (TL.numL b))) bells
  have j1 := head_join h
  have j2 := tail_join h
  have c1 := cat_bar h
  have c2 := cat_tail h
  have ge : gEq (.tuple (bells.map natD)) (.tuple []) = some (.bool bells.isEmpty) := by
    have sh : ∀ l : List Nat, l.length ≤ 1000 → SeqAt.shaped (.tuple (l.map natD)) = true := fun l hl => (Alk.tup 0 _ (fun d hd => by obtain ⟨x, _, rfl⟩ := List.mem_map.mp hd; exact .int 0 _) (by rw [List.length_map]; omega) : Alk 1 _).shaped (by decide)
    unfold gEq
    rw [if_pos ⟨sh bells (by omega), sh [] (by decide)⟩]
    congr 2
    cases bells with
    | nil => rfl
    | cons a b => rfl
  generalize (rows.map fun r => M.fz (.str (S (rowL r)))) = A1 at *
  generalize (rows.map fun r => PyData.str (S (rowL r))) = A2 at *
  generalize (bells.map fun b => M.fz (.str (S (TL.numL b)))) = A3 at *
  generalize (bells.map fun b => PyData.str (S (TL.numL b))) = A4 at *
  unfold textL
  generalize S (headL rows ++ [32, 124, 32]) = t1 at *
  generalize PyData.tuple (rows.map rowD) = R at *
  generalize PyData.tuple (bells.map natD) = B at *
  generalize millD rows bells = ml at *
  cases hb : bells.isEmpty with
  | true =>
    rw [hb] at ge
    rw [if_pos rfl]
    generalize S (headL rows) = t0 at *
    simp [m__law_shown, e_runF, mM1, isStr, EAll, okArgs, nonOwn_fz, nonOwn_lst, nonOwn_tup, nonOwn_dead, back, isDead_fz, isDead_lst, isDead_tup, isDead_dead, truB, blD, intD, mkTup, Option.bind, Option.map, sizeLine_eq, Option.map_some, List.getElem?_cons_succ, List.getElem?_cons_zero, List.set_cons_succ, List.set_cons_zero, lc2, f1, j1, m1, ge]
  | false =>
    rw [hb] at ge
    rw [if_neg (by decide)]
    generalize S (headL rows ++ ([32, 124, 32] ++ tailL bells)) = t2 at *
    generalize S (headL rows) = t0 at *
    generalize S (tailL bells) = t3 at *
    have l2 := lc3 (.str t0)
    simp [m__law_shown, e_runF, mM1, isStr, EAll, okArgs, nonOwn_fz, nonOwn_lst, nonOwn_tup, nonOwn_dead, back, isDead_fz, isDead_lst, isDead_tup, isDead_dead, truB, blD, intD, mkTup, Option.bind, Option.map, sizeLine_eq, Option.map_some, List.getElem?_cons_succ, List.getElem?_cons_zero, List.set_cons_succ, List.set_cons_zero, lc2, l2, f1, f2, j1, j2, c1, c2, m1, ge]
end Lwk04
namespace Lwk04
open PySem PySem.Spec L2 Tw SX

theorem S_ok {l : List Nat} (h : ∀ c ∈ l, c < 128) : PyData.strOk (S l) = true := by
  show (S l).cps.all (· < 0x110000) = true
  rw [← Array.all_toList, List.all_eq_true]
  intro c hc
  exact decide_eq_true (Nat.lt_trans (h c (by simpa using hc)) (by decide))
theorem ne_yes {w x : Str} (hw : PyData.strOk w = true) (hx : PyData.strOk x = true) (h : w ≠ x) : gNe (.str w) (.str x) = some (.bool true) := by
  have := eq_no hw hx h
  unfold gEq at this
  rw [if_pos ⟨shp_str hw, shp_str hx⟩] at this
  unfold gNe
  rw [if_pos ⟨shp_str hw, shp_str hx⟩]
  cases q : deq (.str w) (.str x) with
  | false => rfl
  | true => rw [q] at this; cases this
theorem dig_ok {n : Nat} : ∀ c ∈ TL.numL n, c < 128 := fun c hc => by have := numL_dig hc; omega
theorem signs_S (l : List Nat) : signsD (S l) = l.map fun c => .str (S [c]) := by
  unfold signsD
  simp only [List.toList_toArray]
theorem is_number_lp : ∀ (l : List Nat) (w : D), (∀ c ∈ l, 48 ≤ c ∧ c ≤ 57) → loopM (gSet 1) bd_is_number_1 (l.map fun c => PyData.str (S [c])) [.fz w, .dead] = .ok .nx [.fz w, .dead]
  | [], w, _ => rfl
  | c :: l, w, h => by
    have fi := fig_in (h c List.mem_cons_self)
    have hb : bd_is_number_1 [.fz w, .fz (.str (S [c]))] = .ok .nx [.fz w, .dead] := by
      generalize S [c] = sc at *
      simp [bd_is_number_1, EAll, BAll, okArgs, back, atI, ixN, blD, flatD, Tw.gSub, gNeg, gLt, gLe, gGt, gGe, mkTup, fzs, partsOf, takeAll, putAll, intD, Option.bind, Option.map, gNot, sizeLine_eq, flatM, flatT, flatMs, flatTs, gMul_r (j := 1000003) (by decide), adjG, frzAt, parG, fi]
    rw [List.map_cons, loopM]
    have hg : gSet 1 (.fz (.str (S [c]))) [.fz w, .dead] = some [.fz w, .fz (.str (S [c]))] := rfl
    rw [hg, ofO_some, hb]
    exact is_number_lp l w fun x hx => h x (List.mem_cons_of_mem _ hx)
theorem is_number_ok {n : Nat} (h : n < 10 ^ 10) : m_is_number [.fz (.str (S (TL.numL n)))] = .ok (.fz (.bool true)) [.fz (.str (S (TL.numL n)))] := by
  have hl := num_len h
  have ne := TL.numL_ne n
  have e1 : gEq (.str (S (TL.numL n))) (.str "") = some (.bool false) := eq_no (S_ok dig_ok) (by decide +kernel) (fun z => ne (S_inj (a := TL.numL n) (b := []) z))
  have ln : gLen [.str (S (TL.numL n))] = some (.int ((TL.numL n).length : Nat)) := by
    show (if (S (TL.numL n)).length ≤ sizeLine then _ else _) = _
    rw [if_pos (by rw [S_len, sizeLine_eq]; omega), S_len]
  have gt : gGt (.int ((TL.numL n).length : Int)) (.int 10) = some (.bool false) := by
    show some (PyData.bool (decide _)) = _
    congr 2
    exact decide_eq_false (by omega)
  have lp := is_number_lp (TL.numL n) (.str (S (TL.numL n))) fun c hc => numL_dig hc
  have it : strIt (.str (S (TL.numL n))) = some ((TL.numL n).map fun c => PyData.str (S [c])) := by
    show some (signsD _) = _
    rw [signs_S]
  by_cases h1 : n < 10
  · have e2 : gEq (.int ((TL.numL n).length : Int)) (.int 1) = some (.bool true) := by
      rw [TL.numL_lt h1]
      rfl
    generalize ((TL.numL n).map fun c => PyData.str (S [c])) = IT at *
    generalize ((TL.numL n).length : Int) = L at *
    generalize S (TL.numL n) = w at *
    simp [m_is_number, lp_is_number_1, e_runF, iStrD, e_sForX, EAll, okArgs, nonOwn_fz, back, isDead_fz, blD, truB, e1, ln, gt, it, lp, e2]
  · obtain ⟨c, r, hc, hc2⟩ := numL_head n (by omega)
    have i0 : gIx (.str (S (TL.numL n))) (.int 0) = some (.str (S [c])) := by
      show (if (S (TL.numL n)).length ≤ sizeLine then _ else _) = _
      rw [if_pos (by rw [S_len, sizeLine_eq]; omega), hc]
      have e : (S (c :: r)).cps.toList = c :: r := by simp
      rw [e]
      simp [atI, ixN]
    have cd := numL_dig (k := n) (c := c) (by rw [hc]; exact List.mem_cons_self)
    have e3 : gNe (.str (S [c])) (.str "0") = some (.bool true) := ne_yes (S_ok fun x hx => by rw [List.mem_singleton.mp hx]; omega) (by decide +kernel) (fun z => hc2 (by
      have := S_inj (a := [c]) (b := [48]) z
      injection this))
    have e2 : ∃ b, gEq (.int ((TL.numL n).length : Int)) (.int 1) = some (.bool b) := ⟨_, gEq_int _ _⟩
    obtain ⟨b, e2⟩ := e2
    generalize ((TL.numL n).map fun c => PyData.str (S [c])) = IT at *
    generalize ((TL.numL n).length : Int) = L at *
    generalize S (TL.numL n) = w at *
    generalize S [c] = sc at *
    cases b with
    | true => simp [m_is_number, lp_is_number_1, e_runF, iStrD, e_sForX, EAll, okArgs, nonOwn_fz, back, isDead_fz, blD, truB, e1, ln, gt, it, lp, e2]
    | false => simp [m_is_number, lp_is_number_1, e_runF, iStrD, e_sForX, EAll, okArgs, nonOwn_fz, back, isDead_fz, blD, truB, e1, ln, gt, it, lp, e2, i0, e3]
theorem number_in_ok {n : Nat} (h : n < 10 ^ 10) : m_number_in [.fz (.str (S (TL.numL n)))] = .ok (.fz (natD n)) [.fz (.str (S (TL.numL n)))] := by
  have h1 := is_number_ok h
  have h2 := int_num h
  generalize S (TL.numL n) = w at *
  simp [m_number_in, e_runF, EAll, BAll, okArgs, back, atI, ixN, blD, flatD, Tw.gSub, gNeg, gLt, gLe, gGt, gGe, mkTup, fzs, partsOf, takeAll, putAll, intD, Option.bind, Option.map, gNot, sizeLine_eq, flatM, flatT, flatMs, flatTs, gMul_r (j := 1000003) (by decide), adjG, frzAt, parG, h1, h2]
theorem sl_fromL (ds : List D) (k : Nat) : gSl (some (k : Int)) none (.list ds) = some (.list (ds.drop k)) := by
  show some (PyData.list _) = _
  rw [sIx_none, sIx_nat]
  congr 2
  by_cases h : k ≤ ds.length
  · rw [Nat.min_eq_left h, List.take_of_length_le (by rw [List.length_drop]; omega)]
  · rw [Nat.min_eq_right (by omega), List.drop_of_length_le (Nat.le_refl _), List.drop_of_length_le (by omega), List.take_nil]
theorem rowP_free {r : RowT} : ∀ p ∈ rowP r, 32 ∉ p := by
  intro p hp hc
  rcases List.mem_cons.mp hp with rfl | hp
  · have := rW_asc r 32 hc; omega
  · obtain ⟨k, _, rfl⟩ := List.mem_map.mp hp
    have := numL_dig hc
    omega
theorem rowL_mem {r : RowT} {c : Nat} (h : c ∈ rowL r) : c = 32 ∨ (48 ≤ c ∧ c ≤ 57) ∨ (97 ≤ c ∧ c < 123) := by
  rcases joinL_mem [32] c (rowP r) h with z | ⟨p, hp, z⟩
  · exact .inl (List.mem_singleton.mp z)
  · rcases List.mem_cons.mp hp with rfl | hp
    · exact .inr (.inr (rW_asc r c z))
    · obtain ⟨k, _, rfl⟩ := List.mem_map.mp hp
      exact .inr (.inl (numL_dig z))
theorem row_in_ok {r : RowT} {m : Nat} (h : r.Ok m) (hm : m ≤ 40) : m_row_in [.fz (.str (S (rowL r)))] = .ok (.fz (rowD r)) [.fz (.str (S (rowL r)))] := by
  have n3 := rN_len r
  have rl := rowL_len h hm
  have sp : gSplit (.str (S (rowL r))) (.str " ") = some (.list ((rowP r).map fun p => .str (S p))) := split_ok (c := 32) (sep := []) (by decide) (ps := rowP r) (List.cons_ne_nil _ _) rowP_free (by show (rowL r).length ≤ 100000; omega)
  have i0 : gIx (.list ((rowP r).map fun p => .str (S p))) (.int 0) = some (.str (S (rW r))) := by unfold rowP; simp [gIx, atI, ixN]
  have sl : gSl (some 1) none (.list ((rowP r).map fun p => .str (S p))) = some (.list ((rN r).map fun k => .str (S (TL.numL k)))) := by
    rw [show (1 : Int) = ((1 : Nat) : Int) from rfl, sl_fromL]
    unfold rowP
    rw [List.map_cons, List.map_map]
    rfl
  have lc : lc_row_in_1 [.fz (.str (S (rowL r))), .fz (.list ((rowP r).map fun p => .str (S p))), .dead] = .ok (.lst ((rN r).map (M.fz ∘ natD))) [.fz (.str (S (rowL r))), .fz (.list ((rowP r).map fun p => .str (S p))), .dead] := by
    unfold lc_row_in_1
    refine mLc_mapE (vs := [2]) (g := gSetC 2) (ps := rN r) (fun k => PyData.str (S (TL.numL k))) (M.fz ∘ natD) ?_ rfl rfl (by rw [sizeLine_eq]; omega) (fun k hk => ⟨[.fz (.str (S (rowL r))), .fz (.list ((rowP r).map fun p => .str (S p))), .fz (.str (S (TL.numL k)))], rfl, ?_, rfl, rfl⟩)
    · generalize PyData.list ((rowP r).map fun p => .str (S p)) = WD at *
      generalize ((rN r).map fun k => PyData.str (S (TL.numL k))) = ND at *
      generalize S (rowL r) = t at *
      simp [EAll, BAll, okArgs, back, atI, ixN, blD, flatD, Tw.gSub, gNeg, gLt, gLe, gGt, gGe, mkTup, fzs, partsOf, takeAll, putAll, intD, Option.bind, Option.map, gNot, sizeLine_eq, flatM, flatT, flatMs, flatTs, gMul_r (j := 1000003) (by decide), adjG, frzAt, parG, sl, seqOf]
    · have g := number_in_ok (rN_lt h hm k hk)
      generalize PyData.list ((rowP r).map fun p => .str (S p)) = WD at *
      generalize S (TL.numL k) = kd at *
      generalize S (rowL r) = t at *
      simp [e_mF, e_mCall0, e_mCons, e_mNil, e_mVar, g, keepG, nonOwn_fz]
  have fz := frzs_comp natD (rN r)
  have ad : gAdd (.list [.str (S (rW r))]) (.list ((rN r).map natD)) = some (.list (.str (S (rW r)) :: (rN r).map natD)) := by
    show (if _ then _ else _) = _
    rw [if_pos (by rw [sizeLine_eq, List.length_map]; simp; omega)]
    rfl
  have gt : Tw.gTup [.list (.str (S (rW r)) :: (rN r).map natD)] = some (rowD r) := by rw [rowD_S h]; rfl
  generalize PyData.list (.str (S (rW r)) :: (rN r).map natD) = RL at *
  generalize PyData.list ((rowP r).map fun p => .str (S p)) = WD at *
  generalize (rN r).map (M.fz ∘ natD) = NM at *
  generalize (rN r).map natD = ND at *
  generalize S (rowL r) = t at *
  generalize S (rW r) = w at *
  generalize rowD r = rd at *
  simp [m_row_in, e_runF, mM1, isStr, EAll, okArgs, nonOwn_fz, back, isDead_fz, Option.bind, sizeLine_eq, sp, i0, lc, fz, ad, gt]
theorem rowB_ok {r : RowT} {m : Nat} (h : r.Ok m) : rowB m (toG r) = true := by
  have key : ∀ (w : Str) (ns ls : List Int), limL w m = some ls → ns.length = ls.length → (∀ p ∈ ns.zip ls, 0 ≤ p.1 ∧ p.1 < p.2) → rowB m ⟨w, ns⟩ = true := fun w ns ls h1 h2 h3 => by
    unfold rowB
    dsimp only
    rw [h1]
    dsimp only
    rw [decide_eq_true h2, Bool.true_and, List.all_eq_true]
    exact fun p hp => decide_eq_true (h3 p hp)
  cases r with
  | put d n => exact key "put" _ [8, 4294967296] (by kernel_rfl) rfl (by have h1 : d < 8 := h.1; have h2 := h.2.1; have h3 : n < 4294967296 := h.2.2; simp; omega)
  | sum d a b => exact key "sum" _ [8, 8, 8] (by kernel_rfl) rfl (by have h1 : d < 8 := h.1; have h2 : a < 8 := h.2.1; have h3 : b < 8 := h.2.2; simp; omega)
  | mul d a b => exact key "mul" _ [8, 8, 8] (by kernel_rfl) rfl (by have h1 : d < 8 := h.1; have h2 : a < 8 := h.2.1; have h3 : b < 8 := h.2.2; simp; omega)
  | less d a b => exact key "less" _ [8, 8, 8] (by kernel_rfl) rfl (by have h1 : d < 8 := h.1; have h2 : a < 8 := h.2.1; have h3 : b < 8 := h.2.2; simp; omega)
  | take d a n => exact key "take" _ [8, 8, 16] (by kernel_rfl) rfl (by have h1 : d < 8 := h.1; have h2 : a < 8 := h.2.1; have h3 : n < 16 := h.2.2; simp; omega)
  | lay b a n => exact key "lay" _ [8, 8, 16] (by kernel_rfl) rfl (by have h1 : b < 8 := h.1; have h2 : a < 8 := h.2.1; have h3 : n < 16 := h.2.2; simp; omega)
  | go a p => exact key "go" _ [8, (m : Int) + 1] (by kernel_rfl) rfl (by have h1 : a < 8 := h.1; have h2 : p ≤ m := h.2; simp; omega)
  | shut => exact key "shut" _ [] (by kernel_rfl) rfl (by simp)
  | opn => exact key "open" _ [] (by kernel_rfl) rfl (by simp)
  | home => exact key "home" _ [] (by kernel_rfl) rfl (by simp)
theorem mill_good {rows : List RowT} {bells : List Nat} (h : Mill rows bells) : goodB (rows.map toG) (bells.map fun b => ((b : Nat) : Int)) = true := by
  unfold goodB
  rw [List.length_map, List.length_map, decide_eq_true ⟨h.one, h.most⟩, decide_eq_true h.few, Bool.true_and, Bool.true_and, Bool.and_eq_true, List.all_eq_true, List.all_eq_true]
  refine ⟨fun g hg => ?_, fun b hb => ?_⟩
  · obtain ⟨r, hr, rfl⟩ := List.mem_map.mp hg
    exact rowB_ok (h.row r hr)
  · obtain ⟨k, hk, rfl⟩ := List.mem_map.mp hb
    have := h.bell k hk
    exact decide_eq_true (by omega)
theorem mill_of_ok {rows : List RowT} {bells : List Nat} (h : Mill rows bells) : m_mill_of [.fz (.list (rows.map rowD)), .fz (.list (bells.map natD))] = .ok (.fz (millD rows bells)) [.fz (.list (rows.map rowD)), .fz (.list (bells.map natD))] := by
  have mo := millof_ok (m := 8) (rows := rows.map toG) (bells := bells.map fun b => ((b : Nat) : Int)) (fun r hr => by obtain ⟨q, _, rfl⟩ := List.mem_map.mp hr; exact toG_g q) (by decide)
  rw [mill_good h, if_pos rfl] at mo
  have e1 : (rows.map toG).map grD = rows.map rowD := by
    rw [List.map_map]
    exact List.map_congr_left fun r _ => toG_ok r
  unfold rD bD at mo
  rw [e1, ← bells_iD] at mo
  exact mo
end Lwk04
namespace Lwk04
open PySem PySem.Spec L2 Tw SX

theorem head_mem {rows : List RowT} {c : Nat} (h : c ∈ headL rows) : c = 59 ∨ c = 32 ∨ (48 ≤ c ∧ c ≤ 57) ∨ (97 ≤ c ∧ c < 123) := by
  rcases joinL_mem [59, 32] c (rows.map rowL) h with z | ⟨p, hp, z⟩
  · simp only [List.mem_cons, List.not_mem_nil, or_false] at z
    omega
  · obtain ⟨r, _, rfl⟩ := List.mem_map.mp hp
    have := rowL_mem z
    omega
theorem tail_mem {bells : List Nat} {c : Nat} (h : c ∈ tailL bells) : c = 32 ∨ (48 ≤ c ∧ c ≤ 57) := by
  rcases joinL_mem [32] c (bells.map TL.numL) h with z | ⟨p, hp, z⟩
  · exact .inl (List.mem_singleton.mp z)
  · obtain ⟨k, _, rfl⟩ := List.mem_map.mp hp
    exact .inr (numL_dig z)
theorem text_asc {rows : List RowT} {bells : List Nat} : ∀ c ∈ textL rows bells, c < 128 := by
  intro c hc
  unfold textL at hc
  split at hc
  · have := head_mem hc; omega
  · rcases List.mem_append.mp hc with z | z
    · have := head_mem z; omega
    · rcases List.mem_append.mp z with z | z
      · simp only [List.mem_cons, List.not_mem_nil, or_false] at z
        omega
      · have := tail_mem z; omega
theorem head_split {rows : List RowT} {bells : List Nat} (h : Mill rows bells) : gSplit (.str (S (headL rows))) (.str "; ") = some (.list (rows.map fun r => .str (S (rowL r)))) := by
  have hl := head_len h
  have := split_ok (c := 59) (sep := [32]) (by decide) (ps := rows.map rowL) (by have := h.one; intro z; rw [List.map_eq_nil_iff] at z; rw [z] at this; cases this) (fun p hp hc => by
    obtain ⟨r, _, rfl⟩ := List.mem_map.mp hp
    have := rowL_mem hc
    omega) (by show (headL rows).length ≤ 100000; omega)
  rw [List.map_map] at this
  exact this
theorem tail_split {rows : List RowT} {bells : List Nat} (h : Mill rows bells) (hb : bells ≠ []) : gSplit (.str (S (tailL bells))) (.str " ") = some (.list (bells.map fun b => .str (S (TL.numL b)))) := by
  have hl := tail_len h
  have := split_ok (c := 32) (sep := []) (by decide) (ps := bells.map TL.numL) (fun z => hb (List.map_eq_nil_iff.mp z)) (fun p hp hc => by
    obtain ⟨k, _, rfl⟩ := List.mem_map.mp hp
    have := numL_dig hc
    omega) (by show (tailL bells).length ≤ 100000; omega)
  rw [List.map_map] at this
  exact this
theorem read_mill_ok {rows : List RowT} {bells : List Nat} (h : Mill rows bells) : m_read_mill [.fz (.str (S (textL rows bells)))] = .ok (.fz (millD rows bells)) [.fz (.str (S (textL rows bells)))] := by
  have few := h.few
  have most := h.most
  have hl := head_len h
  have tl := tail_len h
  have mo := mill_of_ok h
  have lc1 : ∀ (tx st ta : D), lc_read_mill_1 [.fz tx, .fz (.str (S (headL rows))), .fz st, .fz ta, .dead, .dead, .dead, .dead] = .ok (.lst (rows.map (M.fz ∘ rowD))) [.fz tx, .fz (.str (S (headL rows))), .fz st, .fz ta, .dead, .dead, .dead, .dead] := fun tx st ta => by
    unfold lc_read_mill_1
    have sp := head_split h
    refine mLc_mapE (vs := [6]) (g := gSetC 6) (ps := rows) (fun r => PyData.str (S (rowL r))) (M.fz ∘ rowD) ?_ rfl rfl (by rw [sizeLine_eq]; omega) (fun r hr => ⟨[.fz tx, .fz (.str (S (headL rows))), .fz st, .fz ta, .dead, .dead, .fz (.str (S (rowL r))), .dead], rfl, ?_, rfl, rfl⟩)
    · generalize (rows.map fun r => PyData.str (S (rowL r))) = ND at *
      generalize S (headL rows) = t at *
      simp [e_iD, mM1, isStr, e_mVar, e_mC, sp, seqOf]
    · have g := row_in_ok (h.row r hr) most
      show _ = Out.ok (M.fz (rowD r)) _
      generalize S (rowL r) = w at *
      generalize rowD r = rd at *
      simp [e_mF, e_mCall0, e_mCons, e_mNil, e_mVar, g, keepG, nonOwn_fz]
  have lc2 : bells ≠ [] → ∀ (tx he st rw_ : D), lc_read_mill_2 [.fz tx, .fz he, .fz st, .fz (.str (S (tailL bells))), .fz rw_, .fz (.list []), .dead, .dead] = .ok (.lst (bells.map (M.fz ∘ natD))) [.fz tx, .fz he, .fz st, .fz (.str (S (tailL bells))), .fz rw_, .fz (.list []), .dead, .dead] := fun hb tx he st rw_ => by
    unfold lc_read_mill_2
    have sp := tail_split h hb
    refine mLc_mapE (vs := [7]) (g := gSetC 7) (ps := bells) (fun b => PyData.str (S (TL.numL b))) (M.fz ∘ natD) ?_ rfl rfl (by rw [sizeLine_eq]; omega) (fun b hb => ⟨[.fz tx, .fz he, .fz st, .fz (.str (S (tailL bells))), .fz rw_, .fz (.list []), .dead, .fz (.str (S (TL.numL b)))], rfl, ?_, rfl, rfl⟩)
    · generalize (bells.map fun b => PyData.str (S (TL.numL b))) = ND at *
      generalize S (tailL bells) = t at *
      simp [e_iD, mM1, isStr, e_mVar, e_mC, sp, seqOf]
    · have h1 := h.bell b hb
      have g := number_in_ok (n := b) (by omega)
      show _ = Out.ok (M.fz (natD b)) _
      generalize S (TL.numL b) = w at *
      generalize natD b = bd at *
      simp [e_mF, e_mCall0, e_mCons, e_mNil, e_mVar, g, keepG, nonOwn_fz]
  have f1 := frzs_comp rowD rows
  have f2 := frzs_comp natD bells
  have tr : ∀ (a0 a1 a2 a3 a6 a7 : M), tr_read_mill_1 [a0, a1, a2, a3, .fz (.list (rows.map rowD)), .fz (.list (bells.map natD)), a6, a7] = .ok (.ret (.fz (millD rows bells))) [a0, a1, a2, a3, .fz (.list (rows.map rowD)), .fz (.list (bells.map natD)), a6, a7] := fun a0 a1 a2 a3 a6 a7 => by
    unfold tr_read_mill_1 sTryN
    have inner : sRet (mF (mD (mCall0 m_mill_of (mCons (mF (mVar 4)) (mCons (mF (mVar 5)) mNil))))) [a0, a1, a2, a3, .fz (.list (rows.map rowD)), .fz (.list (bells.map natD)), a6, a7] = .ok (.ret (.fz (millD rows bells))) [a0, a1, a2, a3, .fz (.list (rows.map rowD)), .fz (.list (bells.map natD)), a6, a7] := by
      generalize PyData.list (rows.map rowD) = R at *
      generalize PyData.list (bells.map natD) = B at *
      generalize millD rows bells = ml at *
      simp [EAll, BAll, okArgs, back, atI, ixN, blD, flatD, Tw.gSub, gNeg, gLt, gLe, gGt, gGe, mkTup, fzs, partsOf, takeAll, putAll, intD, Option.bind, Option.map, gNot, sizeLine_eq, flatM, flatT, flatMs, flatTs, gMul_r (j := 1000003) (by decide), adjG, frzAt, parG, mo]
    rw [inner]
  have nb : 124 ∉ headL rows := fun z => by have := head_mem z; omega
  unfold m_read_mill
  by_cases hb : bells = []
  · have hbe : bells.isEmpty = true := by rw [hb]; rfl
    have et : textL rows bells = headL rows := by unfold textL; rw [if_pos hbe]
    have pt := partS_none nb (by omega)
    rw [← bar_S] at pt
    have eS : S [] = ("" : Str) := rfl
    rw [eS] at pt
    have ne : gNe (.str "") (.str "") = some (.bool false) := by kernel_rfl
    have a1 : sAsg (gTupM 3 (gsCons (gSet 1) (gsCons (gSet 2) (gsCons (gSet 3) gsNil)))) (mF (mM1 gPart (mVar 0) (mC (.str " | ")))) [.fz (.str (S (headL rows))), .dead, .dead, .dead, .dead, .dead, .dead, .dead] = .ok .nx [.fz (.str (S (headL rows))), .fz (.str (S (headL rows))), .fz (.str ""), .fz (.str ""), .dead, .dead, .dead, .dead] := by
      generalize S (headL rows) = t at *
      simp [mM1, isStr, EAll, BAll, okArgs, back, atI, ixN, blD, flatD, Tw.gSub, gNeg, gLt, gLe, gGt, gGe, mkTup, fzs, partsOf, takeAll, putAll, intD, Option.bind, Option.map, gNot, sizeLine_eq, flatM, flatT, flatMs, flatTs, gMul_r (j := 1000003) (by decide), adjG, frzAt, parG, pt]
    rw [et]
    have l1 := lc1 (.str (S (headL rows))) (.str "") (.str "")
    have tr2 := tr
    rw [hb] at tr2
    have tr3 := tr2 (.fz (.str (S (headL rows)))) (.fz (.str (S (headL rows)))) (.fz (.str "")) (.fz (.str "")) .dead .dead
    rw [← hb] at tr3
    have e0 : (PyData.list (bells.map natD)) = .list [] := by rw [hb]; rfl
    rw [e0] at tr3
    refine run_ret (r := .fz (millD rows bells)) (γ := [.fz (.str (S (headL rows))), .fz (.str (S (headL rows))), .fz (.str ""), .fz (.str ""), .fz (.list (rows.map rowD)), .fz (.list []), .dead, .dead]) rfl (seq_nx a1 ?_) rfl
    generalize rows.map (M.fz ∘ rowD) = RM at *
    generalize (rows.map rowD) = RD at *
    generalize millD rows bells = ml at *
    generalize S (headL rows) = t at *
    simp [if_read_mill_1, EAll, BAll, okArgs, back, atI, ixN, blD, flatD, Tw.gSub, gNeg, gLt, gLe, gGt, gGe, mkTup, fzs, partsOf, takeAll, putAll, intD, Option.bind, Option.map, gNot, sizeLine_eq, flatM, flatT, flatMs, flatTs, gMul_r (j := 1000003) (by decide), adjG, frzAt, parG, l1, f1, ne, tr3]
  · have hbe : bells.isEmpty = false := by cases bells with | nil => exact absurd rfl hb | cons a b => rfl
    have et : textL rows bells = headL rows ++ ([32, 124, 32] ++ tailL bells) := by unfold textL; rw [hbe]; rfl
    have pt := partS_bar (tailL bells) nb (by omega)
    rw [← bar_S] at pt
    have ne : gNe (.str " | ") (.str "") = some (.bool true) := by kernel_rfl
    have a1 : sAsg (gTupM 3 (gsCons (gSet 1) (gsCons (gSet 2) (gsCons (gSet 3) gsNil)))) (mF (mM1 gPart (mVar 0) (mC (.str " | ")))) [.fz (.str (S (headL rows ++ ([32, 124, 32] ++ tailL bells)))), .dead, .dead, .dead, .dead, .dead, .dead, .dead] = .ok .nx [.fz (.str (S (headL rows ++ ([32, 124, 32] ++ tailL bells)))), .fz (.str (S (headL rows))), .fz (.str " | "), .fz (.str (S (tailL bells))), .dead, .dead, .dead, .dead] := by
      generalize S (headL rows ++ ([32, 124, 32] ++ tailL bells)) = tt at *
      generalize S (headL rows) = t at *
      generalize S (tailL bells) = u at *
      simp [mM1, isStr, EAll, BAll, okArgs, back, atI, ixN, blD, flatD, Tw.gSub, gNeg, gLt, gLe, gGt, gGe, mkTup, fzs, partsOf, takeAll, putAll, intD, Option.bind, Option.map, gNot, sizeLine_eq, flatM, flatT, flatMs, flatTs, gMul_r (j := 1000003) (by decide), adjG, frzAt, parG, pt]
    rw [et]
    have l1 := lc1 (.str (S (headL rows ++ ([32, 124, 32] ++ tailL bells)))) (.str " | ") (.str (S (tailL bells)))
    have l2 := lc2 hb (.str (S (headL rows ++ ([32, 124, 32] ++ tailL bells)))) (.str (S (headL rows))) (.str " | ") (.list (rows.map rowD))
    have tr3 := tr (.fz (.str (S (headL rows ++ ([32, 124, 32] ++ tailL bells))))) (.fz (.str (S (headL rows)))) (.fz (.str " | ")) (.fz (.str (S (tailL bells)))) .dead .dead
    refine run_ret (r := .fz (millD rows bells)) (γ := [.fz (.str (S (headL rows ++ ([32, 124, 32] ++ tailL bells)))), .fz (.str (S (headL rows))), .fz (.str " | "), .fz (.str (S (tailL bells))), .fz (.list (rows.map rowD)), .fz (.list (bells.map natD)), .dead, .dead]) rfl (seq_nx a1 ?_) rfl
    generalize rows.map (M.fz ∘ rowD) = RM at *
    generalize (rows.map rowD) = RD at *
    generalize bells.map (M.fz ∘ natD) = BM at *
    generalize (bells.map natD) = BD at *
    generalize millD rows bells = ml at *
    generalize S (headL rows ++ ([32, 124, 32] ++ tailL bells)) = tt at *
    generalize S (headL rows) = t at *
    generalize S (tailL bells) = u at *
    simp [if_read_mill_1, EAll, BAll, okArgs, back, atI, ixN, blD, flatD, Tw.gSub, gNeg, gLt, gLe, gGt, gGe, mkTup, fzs, partsOf, takeAll, putAll, intD, Option.bind, Option.map, gNot, sizeLine_eq, flatM, flatT, flatMs, flatTs, gMul_r (j := 1000003) (by decide), adjG, frzAt, parG, l1, l2, f1, f2, ne, tr3]
theorem mill_alk {rows : List RowT} {bells : List Nat} (h : Mill rows bells) : Alk 3 (millD rows bells) := .tup 2 _ (fun d hd => by
  simp only [List.mem_cons, List.not_mem_nil, or_false] at hd
  rcases hd with rfl | rfl
  · exact .tup 1 _ (alk_rows 0 rows) (by rw [List.length_map]; have := h.most; omega)
  · exact .tup 1 _ (fun e he => by obtain ⟨x, _, rfl⟩ := List.mem_map.mp he; exact .int 1 _) (by rw [List.length_map]; have := h.few; omega)) (by simp)
theorem turn_ok {t : M} {n : Nat} (x0 : M) (i : Nat) (h : TrOk (n + 400) t) : ∃ t', bd_law_1 [x0, t, .fz (.int i), .dead, .dead] = .ok .nx (S_law_1 x0 t') ∧ TrOk n t' := by
  obtain ⟨rows, bells, t1, m1, m2, m3⟩ := mill_ok (n := n) h
  refine ⟨t1, ?_, m3⟩
  have sh := shown_ok m2
  have sm := show_mill_ok m2
  have rm := read_mill_ok m2
  have k1 := alike_ok (Alk.str 3 (S (textL rows bells)) (S_ok text_asc))
  have k2 := alike_ok (mill_alk m2)
  generalize S (textL rows bells) = tx at *
  generalize millD rows bells = ml at *
  simp [bd_law_1, EAll, CAll, okArgs, back, blD, flatD, Tw.gSub, gNeg, gLt, gLe, gGt, gGe, mkTup, fzs, partsOf, takeAll, putAll, intD, Option.bind, Option.map, gNot, sizeLine_eq, flatM, flatT, flatMs, flatTs, gMul_r (j := 1000003) (by decide), adjG, frzAt, parG, h.live, m1, m3.live, sh, sm, rm, k1, k2, S_law_1]
theorem law_true : ∀ ns : List Int, ns.length ≤ 63 → ∃ γ, m_law [.scr ns] = .ok (.fz (.bool true)) γ := by
  intro ns hl
  obtain ⟨t, ht, hk⟩ := tray_ok ns hl
  have hr := rng_cells ns 1 8 (by decide) (by decide)
  obtain ⟨γ', h1, x, t1, rfl, k1⟩ : ∃ γ', loopM (gSet 2) bd_law_1 (rngD 0 (1 + min 8 ns.length)) (S_law_1 (.scr ns) t) = .ok .nx γ' ∧ ∃ x t1, γ' = S_law_1 x t1 ∧ TrOk (2 ^ 38) t1 := by
    obtain ⟨γ', h1, x, t1, h2, h3⟩ := loopM_inv (g := gSet 2) (mb := bd_law_1) (fun i γ => ∃ x t, γ = S_law_1 x t ∧ TrOk (2 ^ 39 - 400 * i) t) (rngD 0 (1 + min 8 ns.length)) 0 (S_law_1 (.scr ns) t) ⟨_, t, rfl, hk⟩ (by
      rintro i d γ hd ⟨x, t, rfl, hk⟩
      obtain ⟨hi, rfl⟩ := rngD_get hd
      rw [Nat.zero_add] at hk ⊢
      rw [Int.zero_add]
      obtain ⟨t', r1, r2⟩ := turn_ok (n := 2 ^ 39 - 400 * (i + 1)) x i (hk.less (by omega))
      exact ⟨_, _, rfl, .inl r1, _, t', rfl, r2⟩)
    rw [rngD_len] at h3
    exact ⟨γ', h1, x, t1, h2, h3.less (by omega)⟩
  simp at hr
  have hs : HT.sIx ns.length ns.length (some 8) = min 8 ns.length := rfl
  have hs0 : HT.sIx ns.length 0 none = 0 := rfl
  exact ⟨[.scr ns], by simp [m_law, lp_law_1, e_runF, EAll, BAll, okArgs, back, atI, ixN, blD, flatD, Tw.gSub, gNeg, gLt, gLe, gGt, gGe, mkTup, fzs, partsOf, takeAll, putAll, intD, Option.bind, Option.map, gNot, sizeLine_eq, flatM, flatT, flatMs, flatTs, gMul_r (j := 1000003) (by decide), adjG, frzAt, parG, e_sForX, ht, hk.live, gLen, hs, hs0, hr, h1, k1.live]⟩
end Lwk04

open PySem PySem.W PySem.Calls PyProof.Rows
theorem PySem.Challenge.cw_twomakes_k04_written_and_read_holds : PySem.Challenge.rw_twomakes_k04_written_and_read.Holds := by
  w_on; o_law
  refine HandSHeadRun.head_any (r := OpenLaw.row PySem.Challenge.rw_twomakes_k04_written_and_read) (q := view (OpenLaw.row PySem.Challenge.rw_twomakes_k04_written_and_read).prog [30]) (H := Lwk04.hk) (ob := Lwk04.ob) (M := 16000) (loose := Lwk04.lo) (d := HandSHeadRun.topDef (OpenLaw.row PySem.Challenge.rw_twomakes_k04_written_and_read).prog 30) (kwd := []) Lwk04.ob_eq
    (by kernel_rfl) (fun s => by kernel_rfl) Lwk04.run (by kernel_rfl) (by kernel_rfl) (by kernel_rfl) (by rfl) (by first | assumption | decide +kernel) (by decide +kernel) ⟨rfl, rfl, rfl, rfl, rfl, by decide +kernel⟩ ?hw ?hc
  case hw => w_witness2
  case hc =>
    refine Tw.law_end (l := PySem.Challenge.rw_twomakes_k04_written_and_read) (n := 63) (k := 5) (x := "script") rfl (by decide) (by kernel_rfl) ⟨rfl, by decide, by decide⟩ ?F
    intro w mg fa h Y G hmg0
    obtain ⟨K, KX, c, cx⟩ := Y
    have hmg : mg ("law" : PySem.Str) = some (.ref fa) := by
      have e : (HandSHeadRun.topDef (OpenLaw.row PySem.Challenge.rw_twomakes_k04_written_and_read).prog 30).name = ("law" : PySem.Str) := by kernel_rfl
      rw [← e]
      exact hmg0
    obtain ⟨fd, hb, hF⟩ := Lwk04.facts (P := (PySem.Challenge.rw_twomakes_k04_written_and_read).prog) (w := w) KX G hmg c cx
    exact ⟨K, fd, Lwk04.m_law, KX, hb, Lwk04.law_true, hF⟩

