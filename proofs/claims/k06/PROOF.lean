import PyProof.Rows.All
import Wide.All
import OpenK.AllK
import Wide.FinOn
import HandS.ForMost
import HandS.HeadHook2
import KE.KDictKeyed
import HandS.Defaults
import HandS.TupAny
import HandS.Deep
import HandS.TupLe
import HandS.IsInst
import HandS.Wide
import HandS.Zip
import HandS.Text
import HandS.Comp
import HandS.Iter
import HandS.Rev
import PyProof.EnumMake
import PyProof.Draws
import KE.GoesMore
import KE.GoesEnum
import HandS.Replace
import HandS.Style
import HandS.Steps
import HandS.More
import PyProof.P3In
import HandS.List
import HandS.Words
import HandS.WordsExc
import HandS.Head0
import HandS.Head1
import HandS.Head2
import HandS.HeadEnd
import HandS.HeadHook1
import HandS.HeadHook4
import HandS.Ends
import KE.KStateDown
import PyProof.StrLaws
import PyProof.StrLawsIn
import PySem.Challenge.RW_mendsure_k06_a_book_as_handed_in
set_option Elab.async false
set_option linter.all false
set_option maxRecDepth 100000
set_option maxHeartbeats 1000000
/-! The D layer, A: values by content, the store of cells, what represents them on the abstract heap. -/
namespace M3
open PySem PySem.Spec PyProof.Rows L2

/-- a value by content. lst, dic, dit, box: made and not yet held by a name (or the content of a cell); ref: a cell; fl: a list that nobody writes; fdic, fdit: a dict while it is walked; ins: an instance that nobody writes -/
inductive D where
  | non | bl (b : Bool) | int (i : Int) | str (x : Str)
  | tup (xs : List D) | lst (xs : List D) | fl (xs : List D)
  | dic (ks : List Key) (vs : List D) | fdic (ks : List Key) (vs : List D)
  | dit (ks : List D) (vs : List D) | fdit (ks : List D) (vs : List D)
  | ins (c : Str) (ns : List Str) (vs : List D) | box (c : Str) (ns : List Str) (vs : List D)
  | ref (k : Nat)

abbrev Loc := List (Option D)
abbrev Mem := List D

mutual
/-- a key of a dict whose keys are tuples -/
def toNk : D → Option NestedKey
  | .non => some .none
  | .int i => some (.num i)
  | .str x => some (.text x)
  | .tup ds => (toNks ds).map .tup
  | _ => none
def toNks : List D → Option (List NestedKey)
  | [] => some []
  | d :: ds => match toNk d, toNks ds with
    | some k, some ks => some (k :: ks)
    | _, _ => none
end

/-- the object of a dict with tuple keys -/
def zip3 {α β γ : Type} : List α → List β → List γ → List (α × β × γ)
  | a :: as, b :: bs, c :: cs => (a, b, c) :: zip3 as bs cs
  | _, _, _ => []
def DitO (P : Program) (w : World) (a : Addr) (nks : List NestedKey) (bs : List Addr) (ws : List V) : Heap → Prop := fun h =>
  ws.length ≤ sizeLine ∧ (a == sysModules) = false ∧ nks.length = ws.length ∧ bs.length = ws.length ∧ nks.Nodup ∧ (∀ k ∈ nks, k.depth ≤ 8) ∧
    ∃ us, Vals ws us ∧ ∃ o es ep, h.get? a = some o ∧ o.ExactDict ∧ o.data = .dict es ep ∧ es.toList = (zip3 nks bs us).map (entryOfKey (nestedKind P w))

/-- the one class whose instances are written behind their making -/
def boxC : Str := "Ledger"
/-- a list, a tuple of the written part -/
def KL (K : PySem.W.Frag) (a : Addr) (xs : List V) : Prop := ∃ (o : Obj) (its : Array Value) (n : Nat), K.lookup a = some o ∧ o.cls = .type "list" ∧ o.dict = none ∧ o.data = .seq its n ∧ its.size ≤ sizeLine ∧ Vals xs its.toList
def KT (K : PySem.W.Frag) (a : Addr) (xs : List V) : Prop := ∃ (o : Obj) (its : Array Value) (n : Nat), K.lookup a = some o ∧ o.cls = .type "tuple" ∧ o.data = .seq its n ∧ its.size ≤ sizeLine ∧ Vals xs its.toList
def TupAt (K : PySem.W.Frag) (H : Hp) (a : Addr) (xs : List V) : Prop := H a = some (.tup xs) ∨ KT K a xs
def FlAt (K : PySem.W.Frag) (H : Hp) (a : Addr) (xs : List V) : Prop := (∃ o, H a = some (.frz o (.lst xs)) ∧ xs.length ≤ sizeLine) ∨ KL K a xs
theorem TupAt.sq {K : PySem.W.Frag} {H : Hp} {a : Addr} {xs : List V} (h : TupAt K H a xs) : SqT K H a xs := h.elim (fun h => .inl (.inl h)) .inr
theorem FlAt.sq {K : PySem.W.Frag} {H : Hp} {a : Addr} {xs : List V} (h : FlAt K H a xs) : SqL K H a xs := h.elim (fun ⟨o, h, _⟩ => .inl (.inr ⟨o, h⟩)) .inr
section
variable (P : Program) (w : World) (K : PySem.W.Frag) (φ : List Addr) (H : Hp)
mutual
/-- v stands for d; fp: the objects of it that are nobody's yet -/
def RV : D → V → List Addr → Prop
  | .non, v, fp => v = .non ∧ fp = []
  | .bl b, v, fp => v = .bl b ∧ fp = []
  | .int i, v, fp => v = .int i ∧ fp = []
  | .str x, v, fp => v = .str x ∧ fp = []
  | .tup ds, v, fp => ∃ a vs, v = .ref a ∧ TupAt K H a vs ∧ RVs ds vs fp
  | .lst ds, v, fp => ∃ a vs f, v = .ref a ∧ H a = some (.lst vs) ∧ fp = f ++ [a] ∧ RVs ds vs f
  | .fl ds, v, fp => ∃ a vs, v = .ref a ∧ FlAt K H a vs ∧ RVs ds vs [] ∧ fp = []
  | .dic ks ds, v, fp => ∃ a vs f, v = .ref a ∧ H a = some (.dK (ks.zip vs)) ∧ ks.length = vs.length ∧ ks.Nodup ∧ fp = f ++ [a] ∧ RVs ds vs f
  | .fdic ks ds, v, fp => ∃ a vs f o, v = .ref a ∧ H a = some (.frz o (.dK (ks.zip vs))) ∧ ks.length = vs.length ∧ ks.Nodup ∧ fp = f ++ [a] ∧ RVs ds vs f
  | .dit ks ds, v, fp => ∃ a nks bs vs f, v = .ref a ∧ H a = some (.ext (DitO P w a nks bs vs)) ∧ toNks ks = some nks ∧ nks.Nodup ∧ RVs ks (bs.map V.ref) [] ∧ ks.length = vs.length ∧ fp = f ++ [a] ∧ RVs ds vs f
  | .fdit ks ds, v, fp => ∃ a nks bs vs f o, v = .ref a ∧ H a = some (.frz o (.ext (DitO P w a nks bs vs))) ∧ toNks ks = some nks ∧ nks.Nodup ∧ RVs ks (bs.map V.ref) [] ∧ ks.length = vs.length ∧ fp = f ++ [a] ∧ RVs ds vs f
  | .ins c ns ds, v, fp => ∃ a dx vs, v = .ref a ∧ H a = some (.ins (He.ga K c) dx (ns.zip vs)) ∧ He.ga K c ≠ He.ga K boxC ∧ ns.length = vs.length ∧ RVs ds vs fp
  | .box c ns ds, v, fp => ∃ a dx vs f, v = .ref a ∧ c = boxC ∧ H a = some (.ins (He.ga K c) dx (ns.zip vs)) ∧ ns.length = vs.length ∧ fp = f ++ [a] ∧ RVs ds vs f
  | .ref k, v, fp => ∃ a, v = .ref a ∧ φ[k]? = some a ∧ fp = []
def RVs : List D → List V → List Addr → Prop
  | [], vs, fp => vs = [] ∧ fp = []
  | d :: ds, vs, fp => ∃ v vs' f g, vs = v :: vs' ∧ fp = f ++ g ∧ RV d v f ∧ RVs ds vs' g
end
/-- what is tracked is within the line -/
structure Wf (H : Hp) : Prop where
  lst : ∀ a vs, H a = some (.lst vs) → vs.length ≤ sizeLine
  tup : ∀ a vs, H a = some (.tup vs) → vs.length ≤ sizeLine
/-- the cells -/
structure Cells (m : Mem) : Prop where
  len : φ.length = m.length
  nd : φ.Nodup
  at_ : ∀ (i : Nat) (a : Addr) (c : D), φ[i]? = some a → m[i]? = some c → RV P w K φ H c (.ref a) [a]
end
/-- from H to H': all but the cells stays -/
structure Imm (K : PySem.W.Frag) (H H' : Hp) : Prop where
  tups : ∀ a vs, H a = some (.tup vs) → H' a = some (.tup vs)
  frzs : ∀ a o vs, H a = some (.frz o (.lst vs)) → H' a = some (.frz o (.lst vs))
  inss : ∀ a C dx fs, H a = some (.ins C dx fs) → C ≠ He.ga K boxC → H' a = some (.ins C dx fs)
structure Ext (K : PySem.W.Frag) (φ : List Addr) (H H' : Hp) : Prop extends Imm K H H' where
  keep : ∀ a o, H a = some o → a ∉ φ → H' a = some o
  there : ∀ a o, H a = some o → ∃ o', H' a = some o'
theorem Imm.refl (K : PySem.W.Frag) (H : Hp) : Imm K H H := ⟨fun _ _ e => e, fun _ _ _ e => e, fun _ _ _ _ e _ => e⟩
theorem Ext.refl (K : PySem.W.Frag) (φ : List Addr) (H : Hp) : Ext K φ H H := ⟨Imm.refl K H, fun _ _ e _ => e, fun _ o e => ⟨o, e⟩⟩
theorem Ext.trans {K : PySem.W.Frag} {φ ψ : List Addr} {H H1 H2 : Hp} (a : Ext K φ H H1) (b : Ext K (φ ++ ψ) H1 H2) (hψ : ∀ x ∈ ψ, H x = none) : Ext K φ H H2 where
  keep := fun x o e n => b.keep x o (a.keep x o e n) (by
    intro hx
    rcases List.mem_append.mp hx with h | h
    · exact n h
    · rw [hψ x h] at e; cases e)
  there := fun x o e => by
    obtain ⟨o1, e1⟩ := a.there x o e
    exact b.there x o1 e1
  tups := fun x vs e => b.tups x vs (a.tups x vs e)
  frzs := fun x o vs e => b.frzs x o vs (a.frzs x o vs e)
  inss := fun x C dx fs e n => b.inss x C dx fs (a.inss x C dx fs e n) n
theorem Ext.free {K : PySem.W.Frag} {φ : List Addr} {H H' : Hp} (e : Ext K φ H H') {a : Addr} (h : H' a = none) : H a = none := by
  cases q : H a with
  | none => rfl
  | some o =>
    obtain ⟨o', e'⟩ := e.there a o q
    rw [e'] at h; cases h
theorem Imm.tupAt {H H' : Hp} {K : PySem.W.Frag} {a : Addr} {vs : List V} (e : Imm K H H') (h : TupAt K H a vs) : TupAt K H' a vs := h.elim (fun h => .inl (e.tups _ _ h)) .inr
theorem Imm.flAt {H H' : Hp} {K : PySem.W.Frag} {a : Addr} {vs : List V} (e : Imm K H H') (h : FlAt K H a vs) : FlAt K H' a vs := h.elim (fun ⟨o, h, l⟩ => .inl ⟨o, e.frzs _ _ _ h, l⟩) .inr

section
variable {P : Program} {w : World} {K : PySem.W.Frag} {φ ψ : List Addr} {H H' : Hp}
mutual
theorem RV.tracked : ∀ (d : D) (v : V) (fp : List Addr), RV P w K φ H d v fp → ∀ a ∈ fp, ∃ o, H a = some o
  | .non, v, fp, h => by obtain ⟨_, rfl⟩ := h; simp
  | .bl b, v, fp, h => by obtain ⟨_, rfl⟩ := h; simp
  | .int i, v, fp, h => by obtain ⟨_, rfl⟩ := h; simp
  | .str x, v, fp, h => by obtain ⟨_, rfl⟩ := h; simp
  | .tup ds, v, fp, h => by obtain ⟨a, vs, _, _, r⟩ := h; exact RVs.tracked ds vs fp r
  | .lst ds, v, fp, h => by
    obtain ⟨a, vs, f, _, ha, rfl, r⟩ := h
    intro b hb
    rcases List.mem_append.mp hb with hb | hb
    · exact RVs.tracked ds vs f r b hb
    · obtain rfl : b = a := by simpa using hb
      exact ⟨_, ha⟩
  | .fl ds, v, fp, h => by obtain ⟨_, _, _, _, _, rfl⟩ := h; simp
  | .dic ks ds, v, fp, h => by
    obtain ⟨a, vs, f, _, ha, _, _, rfl, r⟩ := h
    intro b hb
    rcases List.mem_append.mp hb with hb | hb
    · exact RVs.tracked ds vs f r b hb
    · obtain rfl : b = a := by simpa using hb
      exact ⟨_, ha⟩
  | .fdic ks ds, v, fp, h => by
    obtain ⟨a, vs, f, o, _, ha, _, _, rfl, r⟩ := h
    intro b hb
    rcases List.mem_append.mp hb with hb | hb
    · exact RVs.tracked ds vs f r b hb
    · obtain rfl : b = a := by simpa using hb
      exact ⟨_, ha⟩
  | .dit ks ds, v, fp, h => by
    obtain ⟨a, nks, bs, vs, f, _, ha, _, _, _, _, rfl, r⟩ := h
    intro b hb
    rcases List.mem_append.mp hb with hb | hb
    · exact RVs.tracked ds vs f r b hb
    · obtain rfl : b = a := by simpa using hb
      exact ⟨_, ha⟩
  | .fdit ks ds, v, fp, h => by
    obtain ⟨a, nks, bs, vs, f, o, _, ha, _, _, _, _, rfl, r⟩ := h
    intro b hb
    rcases List.mem_append.mp hb with hb | hb
    · exact RVs.tracked ds vs f r b hb
    · obtain rfl : b = a := by simpa using hb
      exact ⟨_, ha⟩
  | .ins c ns ds, v, fp, h => by obtain ⟨a, dx, vs, _, _, _, _, r⟩ := h; exact RVs.tracked ds vs fp r
  | .box c ns ds, v, fp, h => by
    obtain ⟨a, dx, vs, f, _, _, ha, _, rfl, r⟩ := h
    intro b hb
    rcases List.mem_append.mp hb with hb | hb
    · exact RVs.tracked ds vs f r b hb
    · obtain rfl : b = a := by simpa using hb
      exact ⟨_, ha⟩
  | .ref k, v, fp, h => by obtain ⟨_, _, _, rfl⟩ := h; simp
theorem RVs.tracked : ∀ (ds : List D) (vs : List V) (fp : List Addr), RVs P w K φ H ds vs fp → ∀ a ∈ fp, ∃ o, H a = some o
  | [], vs, fp, h => by obtain ⟨_, rfl⟩ := h; simp
  | d :: ds, vs, fp, h => by
    obtain ⟨v, vs', f, g, _, rfl, h1, h2⟩ := h
    intro b hb
    rcases List.mem_append.mp hb with hb | hb
    · exact RV.tracked d v f h1 b hb
    · exact RVs.tracked ds vs' g h2 b hb
end
mutual
theorem RV.mono (e : Imm K H H') : ∀ (d : D) (v : V) (fp : List Addr), (∀ a ∈ fp, ∀ o, H a = some o → H' a = some o) → RV P w K φ H d v fp → RV P w K (φ ++ ψ) H' d v fp
  | .non, v, fp, n, h => h
  | .bl b, v, fp, n, h => h
  | .int i, v, fp, n, h => h
  | .str x, v, fp, n, h => h
  | .tup ds, v, fp, n, h => by obtain ⟨a, vs, e1, ha, r⟩ := h; exact ⟨a, vs, e1, e.tupAt ha, RVs.mono e ds vs fp n r⟩
  | .lst ds, v, fp, n, h => by
    obtain ⟨a, vs, f, e1, ha, rfl, r⟩ := h
    exact ⟨a, vs, f, e1, n a (by simp) _ ha, rfl, RVs.mono e ds vs f (fun b hb => n b (List.mem_append_left _ hb)) r⟩
  | .fl ds, v, fp, n, h => by obtain ⟨a, vs, e1, ha, r, rfl⟩ := h; exact ⟨a, vs, e1, e.flAt ha, RVs.mono e ds vs [] (by simp) r, rfl⟩
  | .dic ks ds, v, fp, n, h => by
    obtain ⟨a, vs, f, e1, ha, e2, e3, rfl, r⟩ := h
    exact ⟨a, vs, f, e1, n a (by simp) _ ha, e2, e3, rfl, RVs.mono e ds vs f (fun b hb => n b (List.mem_append_left _ hb)) r⟩
  | .fdic ks ds, v, fp, n, h => by
    obtain ⟨a, vs, f, o, e1, ha, e2, e3, rfl, r⟩ := h
    exact ⟨a, vs, f, o, e1, n a (by simp) _ ha, e2, e3, rfl, RVs.mono e ds vs f (fun b hb => n b (List.mem_append_left _ hb)) r⟩
  | .dit ks ds, v, fp, n, h => by
    obtain ⟨a, nks, bs, vs, f, e1, ha, e2, e3, rk, e4, rfl, r⟩ := h
    exact ⟨a, nks, bs, vs, f, e1, n a (by simp) _ ha, e2, e3, RVs.mono e ks _ [] (by simp) rk, e4, rfl, RVs.mono e ds vs f (fun b hb => n b (List.mem_append_left _ hb)) r⟩
  | .fdit ks ds, v, fp, n, h => by
    obtain ⟨a, nks, bs, vs, f, o, e1, ha, e2, e3, rk, e4, rfl, r⟩ := h
    exact ⟨a, nks, bs, vs, f, o, e1, n a (by simp) _ ha, e2, e3, RVs.mono e ks _ [] (by simp) rk, e4, rfl, RVs.mono e ds vs f (fun b hb => n b (List.mem_append_left _ hb)) r⟩
  | .ins c ns ds, v, fp, n, h => by
    obtain ⟨a, dx, vs, e1, ha, e2, e3, r⟩ := h
    exact ⟨a, dx, vs, e1, e.inss _ _ _ _ ha e2, e2, e3, RVs.mono e ds vs fp n r⟩
  | .box c ns ds, v, fp, n, h => by
    obtain ⟨a, dx, vs, f, e1, e0, ha, e3, rfl, r⟩ := h
    exact ⟨a, dx, vs, f, e1, e0, n a (by simp) _ ha, e3, rfl, RVs.mono e ds vs f (fun b hb => n b (List.mem_append_left _ hb)) r⟩
  | .ref k, v, fp, n, h => by
    obtain ⟨a, e1, e2, e3⟩ := h
    exact ⟨a, e1, by rw [List.getElem?_append_left (List.getElem?_eq_some_iff.mp e2).1]; exact e2, e3⟩
theorem RVs.mono (e : Imm K H H') : ∀ (ds : List D) (vs : List V) (fp : List Addr), (∀ a ∈ fp, ∀ o, H a = some o → H' a = some o) → RVs P w K φ H ds vs fp → RVs P w K (φ ++ ψ) H' ds vs fp
  | [], vs, fp, n, h => h
  | d :: ds, vs, fp, n, h => by
    obtain ⟨v, vs', f, g, e1, rfl, h1, h2⟩ := h
    exact ⟨v, vs', f, g, e1, rfl, RV.mono e d v f (fun b hb => n b (List.mem_append_left _ hb)) h1, RVs.mono e ds vs' g (fun b hb => n b (List.mem_append_right _ hb)) h2⟩
end
end
end M3
set_option Elab.async false
set_option linter.all false
set_option maxRecDepth 100000
set_option maxHeartbeats 1000000
/-! The D layer, B: what is made becomes a cell (imp), a cell becomes what is handed back (exp). -/
namespace M3
open PySem PySem.Spec PyProof.Rows L2

/-! ### settled: nothing in it is nobody's -/
mutual
def settled : D → Bool
  | .tup ds => settleds ds
  | .ins _ _ ds => settleds ds
  | .lst _ => false
  | .dic _ _ => false
  | .fdic _ _ => false
  | .dit _ _ => false
  | .fdit _ _ => false
  | .box _ _ _ => false
  | _ => true
def settleds : List D → Bool
  | [] => true
  | d :: ds => settled d && settleds ds
end
mutual
def imp : D → Mem → D × Mem
  | .tup ds, m => let r := imps ds m; (.tup r.1, r.2)
  | .ins c ns ds, m => let r := imps ds m; (.ins c ns r.1, r.2)
  | .lst ds, m => let r := imps ds m; (.ref r.2.length, r.2 ++ [.lst r.1])
  | .dic ks ds, m => let r := imps ds m; (.ref r.2.length, r.2 ++ [.dic ks r.1])
  | .fdic ks ds, m => let r := imps ds m; (.ref r.2.length, r.2 ++ [.fdic ks r.1])
  | .dit ks ds, m => let r := imps ds m; (.ref r.2.length, r.2 ++ [.dit ks r.1])
  | .fdit ks ds, m => let r := imps ds m; (.ref r.2.length, r.2 ++ [.fdit ks r.1])
  | .box c ns ds, m => let r := imps ds m; (.ref r.2.length, r.2 ++ [.box c ns r.1])
  | d, m => (d, m)
def imps : List D → Mem → List D × Mem
  | [], m => ([], m)
  | d :: ds, m => let r := imp d m; let q := imps ds r.2; (r.1 :: q.1, q.2)
end
mutual
theorem imp_settled : ∀ (d : D) (m : Mem), settled d = true → imp d m = (d, m)
  | .non, m, h => rfl
  | .bl b, m, h => rfl
  | .int i, m, h => rfl
  | .str x, m, h => rfl
  | .fl ds, m, h => rfl
  | .ref k, m, h => rfl
  | .tup ds, m, h => by
    show ((D.tup (imps ds m).1, (imps ds m).2) : D × Mem) = _
    rw [imps_settled ds m h]
  | .ins c ns ds, m, h => by
    show ((D.ins c ns (imps ds m).1, (imps ds m).2) : D × Mem) = _
    rw [imps_settled ds m h]
  | .lst ds, m, h => by cases h
  | .dic _ ds, m, h => by cases h
  | .fdic _ ds, m, h => by cases h
  | .dit _ ds, m, h => by cases h
  | .fdit _ ds, m, h => by cases h
  | .box _ _ ds, m, h => by cases h
theorem imps_settled : ∀ (ds : List D) (m : Mem), settleds ds = true → imps ds m = (ds, m)
  | [], m, h => rfl
  | d :: ds, m, h => by
    obtain ⟨h1, h2⟩ := Bool.and_eq_true_iff.mp (show (settled d && settleds ds) = true from h)
    show (((imp d m).1 :: (imps ds (imp d m).2).1, (imps ds (imp d m).2).2) : List D × Mem) = _
    rw [imp_settled d m h1]
    show ((d :: (imps ds m).1, (imps ds m).2) : List D × Mem) = _
    rw [imps_settled ds m h2]
end
section
variable {P : Program} {w : World} {K : PySem.W.Frag} {φ ψ : List Addr} {H H' : Hp}
theorem RV.wk {d : D} {v : V} {fp : List Addr} (h : RV P w K φ H d v fp) : RV P w K (φ ++ ψ) H d v fp := RV.mono (Imm.refl K H) d v fp (fun _ _ _ e => e) h
theorem RVs.wk {d : List D} {v : List V} {fp : List Addr} (h : RVs P w K φ H d v fp) : RVs P w K (φ ++ ψ) H d v fp := RVs.mono (Imm.refl K H) d v fp (fun _ _ _ e => e) h
/-- one more cell -/
theorem Cells.push {m : Mem} {c : D} {a : Addr} (C : Cells P w K φ H m) (hn : a ∉ φ) (hc : RV P w K φ H c (.ref a) [a]) : Cells P w K (φ ++ [a]) H (m ++ [c]) where
  len := by simp [C.len]
  nd := by
    rw [List.nodup_append]
    exact ⟨C.nd, by simp, fun x hx y hy => by
      obtain rfl : y = a := by simpa using hy
      rintro rfl; exact hn hx⟩
  at_ := fun i b x hb hx => by
    by_cases hi : i < φ.length
    · rw [List.getElem?_append_left hi] at hb
      rw [List.getElem?_append_left (by rw [← C.len]; exact hi)] at hx
      have r := C.at_ i b x hb hx
      -- the cell's own node is in φ: its children are settled
      exact r.wk
    · have e : i = φ.length := by
        have := (List.getElem?_eq_some_iff.mp hb).1
        simp at this; omega
      subst e
      rw [List.getElem?_append_right (Nat.le_refl _)] at hb
      rw [List.getElem?_append_right (by rw [C.len]; exact Nat.le_refl _)] at hx
      simp [C.len] at hb hx
      subst hb hx
      exact hc.wk
theorem nd_tail {f g : List Addr} (h : (f ++ g).Nodup) : f.Nodup ∧ g.Nodup ∧ ∀ x ∈ f, x ∉ g := by
  obtain ⟨a, b, c⟩ := List.nodup_append.mp h
  exact ⟨a, b, fun x hx hy => c x hx x hy rfl⟩
theorem not_in_app {f : List Addr} {x : Addr} (h1 : x ∉ φ) (h2 : x ∉ f) : x ∉ φ ++ f := fun h => (List.mem_append.mp h).elim h1 h2
mutual
theorem imp_ok : ∀ (d : D) (m : Mem) (v : V) (φ fp : List Addr), RV P w K φ H d v fp → Cells P w K φ H m → fp.Nodup → (∀ a ∈ fp, a ∉ φ) → RV P w K (φ ++ fp) H (imp d m).1 v [] ∧ Cells P w K (φ ++ fp) H (imp d m).2
  | .non, m, v, φ, fp, h, C, nd, n => by obtain ⟨rfl, rfl⟩ := h; rw [List.append_nil]; exact ⟨⟨rfl, rfl⟩, C⟩
  | .bl b, m, v, φ, fp, h, C, nd, n => by obtain ⟨rfl, rfl⟩ := h; rw [List.append_nil]; exact ⟨⟨rfl, rfl⟩, C⟩
  | .int i, m, v, φ, fp, h, C, nd, n => by obtain ⟨rfl, rfl⟩ := h; rw [List.append_nil]; exact ⟨⟨rfl, rfl⟩, C⟩
  | .str x, m, v, φ, fp, h, C, nd, n => by obtain ⟨rfl, rfl⟩ := h; rw [List.append_nil]; exact ⟨⟨rfl, rfl⟩, C⟩
  | .fl ds, m, v, φ, fp, h, C, nd, n => by obtain ⟨a, vs, e, h1, h2, rfl⟩ := h; rw [List.append_nil]; exact ⟨⟨a, vs, e, h1, h2, rfl⟩, C⟩
  | .ref k, m, v, φ, fp, h, C, nd, n => by obtain ⟨a, e, h1, rfl⟩ := h; rw [List.append_nil]; exact ⟨⟨a, e, h1, rfl⟩, C⟩
  | .tup ds, m, v, φ, fp, h, C, nd, n => by
    obtain ⟨a, vs, e, h1, r⟩ := h
    obtain ⟨q1, q2⟩ := imps_ok ds m vs φ fp r C nd n
    exact ⟨⟨a, vs, e, h1, q1⟩, q2⟩
  | .ins c ns ds, m, v, φ, fp, h, C, nd, n => by
    obtain ⟨a, dx, vs, e, h1, h2, h3, r⟩ := h
    obtain ⟨q1, q2⟩ := imps_ok ds m vs φ fp r C nd n
    exact ⟨⟨a, dx, vs, e, h1, h2, h3, q1⟩, q2⟩
  | .lst ds, m, v, φ, fp, h, C, nd, n => by
    obtain ⟨a, vs, f, e, h1, rfl, r⟩ := h
    obtain ⟨nf, _, nx⟩ := nd_tail nd
    obtain ⟨q1, q2⟩ := imps_ok ds m vs φ f r C nf (fun b hb => n b (List.mem_append_left _ hb))
    rw [← List.append_assoc]
    refine ⟨⟨a, e, ?_, rfl⟩, q2.push (not_in_app (n a (by simp)) fun h => nx a h (by simp)) ⟨a, vs, [], rfl, h1, rfl, q1⟩⟩
    rw [← q2.len, List.getElem?_append_right (Nat.le_refl _)]; simp
  | .dic ks ds, m, v, φ, fp, h, C, nd, n => by
    obtain ⟨a, vs, f, e, h1, h2, h3, rfl, r⟩ := h
    obtain ⟨nf, _, nx⟩ := nd_tail nd
    obtain ⟨q1, q2⟩ := imps_ok ds m vs φ f r C nf (fun b hb => n b (List.mem_append_left _ hb))
    rw [← List.append_assoc]
    refine ⟨⟨a, e, ?_, rfl⟩, q2.push (not_in_app (n a (by simp)) fun h => nx a h (by simp)) ⟨a, vs, [], rfl, h1, h2, h3, rfl, q1⟩⟩
    rw [← q2.len, List.getElem?_append_right (Nat.le_refl _)]; simp
  | .fdic ks ds, m, v, φ, fp, h, C, nd, n => by
    obtain ⟨a, vs, f, o, e, h1, h2, h3, rfl, r⟩ := h
    obtain ⟨nf, _, nx⟩ := nd_tail nd
    obtain ⟨q1, q2⟩ := imps_ok ds m vs φ f r C nf (fun b hb => n b (List.mem_append_left _ hb))
    rw [← List.append_assoc]
    refine ⟨⟨a, e, ?_, rfl⟩, q2.push (not_in_app (n a (by simp)) fun h => nx a h (by simp)) ⟨a, vs, [], o, rfl, h1, h2, h3, rfl, q1⟩⟩
    rw [← q2.len, List.getElem?_append_right (Nat.le_refl _)]; simp
  | .dit ks ds, m, v, φ, fp, h, C, nd, n => by
    obtain ⟨a, nks, bs, vs, f, e, h1, h2, h3, rk, h4, rfl, r⟩ := h
    obtain ⟨nf, _, nx⟩ := nd_tail nd
    obtain ⟨q1, q2⟩ := imps_ok ds m vs φ f r C nf (fun b hb => n b (List.mem_append_left _ hb))
    rw [← List.append_assoc]
    refine ⟨⟨a, e, ?_, rfl⟩, q2.push (not_in_app (n a (by simp)) fun h => nx a h (by simp)) ⟨a, nks, bs, vs, [], rfl, h1, h2, h3, rk.wk, h4, rfl, q1⟩⟩
    rw [← q2.len, List.getElem?_append_right (Nat.le_refl _)]; simp
  | .fdit ks ds, m, v, φ, fp, h, C, nd, n => by
    obtain ⟨a, nks, bs, vs, f, o, e, h1, h2, h3, rk, h4, rfl, r⟩ := h
    obtain ⟨nf, _, nx⟩ := nd_tail nd
    obtain ⟨q1, q2⟩ := imps_ok ds m vs φ f r C nf (fun b hb => n b (List.mem_append_left _ hb))
    rw [← List.append_assoc]
    refine ⟨⟨a, e, ?_, rfl⟩, q2.push (not_in_app (n a (by simp)) fun h => nx a h (by simp)) ⟨a, nks, bs, vs, [], o, rfl, h1, h2, h3, rk.wk, h4, rfl, q1⟩⟩
    rw [← q2.len, List.getElem?_append_right (Nat.le_refl _)]; simp
  | .box c ns ds, m, v, φ, fp, h, C, nd, n => by
    obtain ⟨a, dx, vs, f, e, h0, h1, h2, rfl, r⟩ := h
    obtain ⟨nf, _, nx⟩ := nd_tail nd
    obtain ⟨q1, q2⟩ := imps_ok ds m vs φ f r C nf (fun b hb => n b (List.mem_append_left _ hb))
    rw [← List.append_assoc]
    refine ⟨⟨a, e, ?_, rfl⟩, q2.push (not_in_app (n a (by simp)) fun h => nx a h (by simp)) ⟨a, dx, vs, [], rfl, h0, h1, h2, rfl, q1⟩⟩
    rw [← q2.len, List.getElem?_append_right (Nat.le_refl _)]; simp
theorem imps_ok : ∀ (ds : List D) (m : Mem) (vs : List V) (φ fp : List Addr), RVs P w K φ H ds vs fp → Cells P w K φ H m → fp.Nodup → (∀ a ∈ fp, a ∉ φ) → RVs P w K (φ ++ fp) H (imps ds m).1 vs [] ∧ Cells P w K (φ ++ fp) H (imps ds m).2
  | [], m, vs, φ, fp, h, C, nd, n => by obtain ⟨rfl, rfl⟩ := h; rw [List.append_nil]; exact ⟨⟨rfl, rfl⟩, C⟩
  | d :: ds, m, vs, φ, fp, h, C, nd, n => by
    obtain ⟨v, vs', f, g, e1, rfl, h1, h2⟩ := h
    obtain ⟨nf, ng, nx⟩ := nd_tail nd
    obtain ⟨q1, q2⟩ := imp_ok d m v φ f h1 C nf (fun b hb => n b (List.mem_append_left _ hb))
    obtain ⟨q3, q4⟩ := imps_ok ds (imp d m).2 vs' (φ ++ f) g h2.wk q2 ng (fun b hb => not_in_app (n b (List.mem_append_right _ hb)) fun h => nx b h hb)
    rw [← List.append_assoc]
    exact ⟨⟨v, vs', [], [], e1, rfl, q1.wk, q3⟩, q4⟩
end

end
/-! ### closed: its cells stand below n -/
mutual
def closed (n : Nat) : D → Bool
  | .tup ds => closeds n ds
  | .ins _ _ ds => closeds n ds
  | .lst ds => closeds n ds
  | .fl ds => closeds n ds
  | .dic _ ds => closeds n ds
  | .fdic _ ds => closeds n ds
  | .dit _ ds => closeds n ds
  | .fdit _ ds => closeds n ds
  | .box _ _ ds => closeds n ds
  | .ref k => decide (k < n)
  | _ => true
def closeds (n : Nat) : List D → Bool
  | [] => true
  | d :: ds => closed n d && closeds n ds
end
mutual
theorem closed_mono {n k : Nat} (h : n ≤ k) : ∀ d : D, closed n d = true → closed k d = true
  | .non, _ => rfl
  | .bl _, _ => rfl
  | .int _, _ => rfl
  | .str _, _ => rfl
  | .ref j, e => by
    have e : decide (j < n) = true := e
    show decide (j < k) = true
    simp at e ⊢; omega
  | .tup ds, e => closeds_mono h ds e
  | .ins _ _ ds, e => closeds_mono h ds e
  | .lst ds, e => closeds_mono h ds e
  | .fl ds, e => closeds_mono h ds e
  | .dic _ ds, e => closeds_mono h ds e
  | .fdic _ ds, e => closeds_mono h ds e
  | .dit _ ds, e => closeds_mono h ds e
  | .fdit _ ds, e => closeds_mono h ds e
  | .box _ _ ds, e => closeds_mono h ds e
theorem closeds_mono {n k : Nat} (h : n ≤ k) : ∀ ds : List D, closeds n ds = true → closeds k ds = true
  | [], _ => rfl
  | d :: ds, e => by
    obtain ⟨h1, h2⟩ := Bool.and_eq_true_iff.mp (show (closed n d && closeds n ds) = true from e)
    exact Bool.and_eq_true_iff.mpr ⟨closed_mono h d h1, closeds_mono h ds h2⟩
end
section
variable {P : Program} {w : World} {K : PySem.W.Frag} {φ ψ : List Addr} {H H' : Hp}
mutual
theorem RV.closed : ∀ (d : D) (v : V) (fp : List Addr), RV P w K φ H d v fp → closed φ.length d = true
  | .non, v, fp, h => rfl
  | .bl b, v, fp, h => rfl
  | .int i, v, fp, h => rfl
  | .str x, v, fp, h => rfl
  | .fl ds, v, fp, h => by obtain ⟨a, vs, _, _, r, _⟩ := h; exact RVs.closed ds vs [] r
  | .ref k, v, fp, h => by obtain ⟨a, _, h1, _⟩ := h; exact decide_eq_true (List.getElem?_eq_some_iff.mp h1).1
  | .tup ds, v, fp, h => by obtain ⟨a, vs, _, _, r⟩ := h; exact RVs.closed ds vs fp r
  | .ins c ns ds, v, fp, h => by obtain ⟨a, dx, vs, _, _, _, _, r⟩ := h; exact RVs.closed ds vs fp r
  | .lst ds, v, fp, h => by obtain ⟨a, vs, f, _, _, _, r⟩ := h; exact RVs.closed ds vs f r
  | .dic ks ds, v, fp, h => by obtain ⟨a, vs, f, _, _, _, _, _, r⟩ := h; exact RVs.closed ds vs f r
  | .fdic ks ds, v, fp, h => by obtain ⟨a, vs, f, o, _, _, _, _, _, r⟩ := h; exact RVs.closed ds vs f r
  | .dit ks ds, v, fp, h => by obtain ⟨a, nks, bs, vs, f, _, _, _, _, _, _, _, r⟩ := h; exact RVs.closed ds vs f r
  | .fdit ks ds, v, fp, h => by obtain ⟨a, nks, bs, vs, f, o, _, _, _, _, _, _, _, r⟩ := h; exact RVs.closed ds vs f r
  | .box c ns ds, v, fp, h => by obtain ⟨a, dx, vs, f, _, _, _, _, _, r⟩ := h; exact RVs.closed ds vs f r
theorem RVs.closed : ∀ (ds : List D) (vs : List V) (fp : List Addr), RVs P w K φ H ds vs fp → closeds φ.length ds = true
  | [], vs, fp, h => rfl
  | d :: ds, vs, fp, h => by
    obtain ⟨v, vs', f, g, _, _, h1, h2⟩ := h
    exact Bool.and_eq_true_iff.mpr ⟨RV.closed d v f h1, RVs.closed ds vs' g h2⟩
end
mutual
theorem RV.nk : ∀ (d : D) (k : NestedKey) (v : V) (fp : List Addr), toNk d = some k → RV P w K φ H d v fp → RV P w K ψ H d v fp
  | .non, _, v, fp, _, h => h
  | .int i, _, v, fp, _, h => h
  | .str x, _, v, fp, _, h => h
  | .tup ds, k, v, fp, e, h => by
    obtain ⟨a, vs, e1, h1, r⟩ := h
    have e : (toNks ds).map NestedKey.tup = some k := e
    cases q : toNks ds with
    | none => rw [q] at e; cases e
    | some ks => exact ⟨a, vs, e1, h1, RVs.nk ds ks vs fp q r⟩
  | .bl _, _, _, _, e, _ => by cases e
  | .lst _, _, _, _, e, _ => by cases e
  | .fl _, _, _, _, e, _ => by cases e
  | .dic _ _, _, _, _, e, _ => by cases e
  | .fdic _ _, _, _, _, e, _ => by cases e
  | .dit _ _, _, _, _, e, _ => by cases e
  | .fdit _ _, _, _, _, e, _ => by cases e
  | .ins _ _ _, _, _, _, e, _ => by cases e
  | .box _ _ _, _, _, _, e, _ => by cases e
  | .ref _, _, _, _, e, _ => by cases e
theorem RVs.nk : ∀ (ds : List D) (ks : List NestedKey) (vs : List V) (fp : List Addr), toNks ds = some ks → RVs P w K φ H ds vs fp → RVs P w K ψ H ds vs fp
  | [], _, vs, fp, _, h => h
  | d :: ds, ks, vs, fp, e, h => by
    obtain ⟨v, vs', f, g, e1, e2, h1, h2⟩ := h
    have e : (match toNk d, toNks ds with | some k, some ks => some (k :: ks) | _, _ => none) = some ks := e
    cases q1 : toNk d with
    | none => rw [q1] at e; cases e
    | some k =>
      cases q2 : toNks ds with
      | none => rw [q1, q2] at e; cases e
      | some ks' => exact ⟨v, vs', f, g, e1, e2, RV.nk d k v f q1 h1, RVs.nk ds ks' vs' g q2 h2⟩
end
mutual
theorem RV.cut : ∀ (d : D) (v : V) (fp : List Addr), closed φ.length d = true → RV P w K (φ ++ ψ) H d v fp → RV P w K φ H d v fp
  | .non, v, fp, c, h => h
  | .bl b, v, fp, c, h => h
  | .int i, v, fp, c, h => h
  | .str x, v, fp, c, h => h
  | .fl ds, v, fp, c, h => by obtain ⟨a, vs, e, h1, r, h2⟩ := h; exact ⟨a, vs, e, h1, RVs.cut ds vs [] c r, h2⟩
  | .ref k, v, fp, c, h => by
    obtain ⟨a, e, h1, h2⟩ := h
    have c : decide (k < φ.length) = true := c
    rw [List.getElem?_append_left (of_decide_eq_true c)] at h1
    exact ⟨a, e, h1, h2⟩
  | .tup ds, v, fp, c, h => by obtain ⟨a, vs, e, h1, r⟩ := h; exact ⟨a, vs, e, h1, RVs.cut ds vs fp c r⟩
  | .ins _ ns ds, v, fp, c, h => by obtain ⟨a, dx, vs, e, h1, h2, h3, r⟩ := h; exact ⟨a, dx, vs, e, h1, h2, h3, RVs.cut ds vs fp c r⟩
  | .lst ds, v, fp, c, h => by obtain ⟨a, vs, f, e, h1, h2, r⟩ := h; exact ⟨a, vs, f, e, h1, h2, RVs.cut ds vs f c r⟩
  | .dic ks ds, v, fp, c, h => by obtain ⟨a, vs, f, e, h1, h2, h3, h4, r⟩ := h; exact ⟨a, vs, f, e, h1, h2, h3, h4, RVs.cut ds vs f c r⟩
  | .fdic ks ds, v, fp, c, h => by obtain ⟨a, vs, f, o, e, h1, h2, h3, h4, r⟩ := h; exact ⟨a, vs, f, o, e, h1, h2, h3, h4, RVs.cut ds vs f c r⟩
  | .dit ks ds, v, fp, c, h => by obtain ⟨a, nks, bs, vs, f, e, h1, h2, h3, rk, h4, h5, r⟩ := h; exact ⟨a, nks, bs, vs, f, e, h1, h2, h3, RVs.nk ks nks _ [] h2 rk, h4, h5, RVs.cut ds vs f c r⟩
  | .fdit ks ds, v, fp, c, h => by obtain ⟨a, nks, bs, vs, f, o, e, h1, h2, h3, rk, h4, h5, r⟩ := h; exact ⟨a, nks, bs, vs, f, o, e, h1, h2, h3, RVs.nk ks nks _ [] h2 rk, h4, h5, RVs.cut ds vs f c r⟩
  | .box _ ns ds, v, fp, c, h => by obtain ⟨a, dx, vs, f, e, h0, h1, h2, h3, r⟩ := h; exact ⟨a, dx, vs, f, e, h0, h1, h2, h3, RVs.cut ds vs f c r⟩
theorem RVs.cut : ∀ (ds : List D) (vs : List V) (fp : List Addr), closeds φ.length ds = true → RVs P w K (φ ++ ψ) H ds vs fp → RVs P w K φ H ds vs fp
  | [], vs, fp, c, h => h
  | d :: ds, vs, fp, c, h => by
    obtain ⟨v, vs', f, g, e1, e2, h1, h2⟩ := h
    obtain ⟨c1, c2⟩ := Bool.and_eq_true_iff.mp (show (closed φ.length d && closeds φ.length ds) = true from c)
    exact ⟨v, vs', f, g, e1, e2, RV.cut d v f c1 h1, RVs.cut ds vs' g c2 h2⟩
end
/-- the cells ahead of n behind a call -/
def ExitOk (n : Nat) (m m' : Mem) : Prop := ∀ i c, i < n → m'[i]? = some c → (m[i]? = some c ∨ closed n c = true)
theorem Cells.exit {m m' : Mem} (C : Cells P w K φ H m) (C' : Cells P w K (φ ++ ψ) H' m') (e : ExitOk m.length m m') : Cells P w K φ H' (m'.take m.length) where
  len := by
    have := C'.len
    simp at this
    rw [List.length_take]
    have := C.len
    omega
  nd := C.nd
  at_ := fun i a c ha hc => by
    have hi : i < φ.length := (List.getElem?_eq_some_iff.mp ha).1
    have hm : m'[i]? = some c := by
      rw [List.getElem?_take] at hc
      split at hc
      · exact hc
      · cases hc
    have r := C'.at_ i a c (by rw [List.getElem?_append_left hi]; exact ha) hm
    rcases e i c (by rw [← C.len]; exact hi) hm with q | q
    · exact RV.cut c _ _ (RV.closed c _ _ (C.at_ i a c ha q)) r
    · rw [← C.len] at q
      exact RV.cut c _ _ q r

end
/-! ### what is handed back -/
section
variable (n : Nat)
mutual
def expD (g : Nat → Option (D × List Nat)) : D → Option (D × List Nat)
  | .ref k => if k < n then some (.ref k, []) else g k
  | .tup ds => (expDs g ds).map fun r => (.tup r.1, r.2)
  | .ins c ns ds => (expDs g ds).map fun r => (.ins c ns r.1, r.2)
  | .lst ds => (expDs g ds).map fun r => (.lst r.1, r.2)
  | .fl ds => if closeds n ds = true then some (.fl ds, []) else none
  | .dic ks ds => (expDs g ds).map fun r => (.dic ks r.1, r.2)
  | .dit ks ds => (expDs g ds).map fun r => (.dit ks r.1, r.2)
  | .box c ns ds => (expDs g ds).map fun r => (.box c ns r.1, r.2)
  | .fdic _ _ => none
  | .fdit _ _ => none
  | d => some (d, [])
def expDs (g : Nat → Option (D × List Nat)) : List D → Option (List D × List Nat)
  | [] => some ([], [])
  | d :: ds => match expD g d with
    | some r => (match expDs g ds with
      | some q => some (r.1 :: q.1, r.2 ++ q.2)
      | none => none)
    | none => none
end
end
def expR (m : Mem) (n : Nat) : Nat → Nat → Option (D × List Nat)
  | 0, _ => none
  | f + 1, k => match m[k]? with
    | some c => (expD n (expR m n f) c).map fun r => (r.1, r.2 ++ [k])
    | none => none
/-- the value d as it stands outside: what stands from the n-th cell on goes with it -/
def exp (m : Mem) (n : Nat) (d : D) : Option D := match expD n (expR m n m.length) d with
  | some r => if r.2.Nodup then some r.1 else none
  | none => none
mutual
def liv : D → Bool
  | .fdic _ _ => false
  | .fdit _ _ => false
  | .tup ds => livs ds
  | .ins _ _ ds => livs ds
  | .lst ds => livs ds
  | .dic _ ds => livs ds
  | .dit _ ds => livs ds
  | .box _ _ ds => livs ds
  | _ => true
def livs : List D → Bool
  | [] => true
  | d :: ds => liv d && livs ds
end
mutual
theorem expD_closed {n : Nat} {g : Nat → Option (D × List Nat)} : ∀ d : D, closed n d = true → liv d = true → expD n g d = some (d, [])
  | .non, _, _ => rfl
  | .bl _, _, _ => rfl
  | .int _, _, _ => rfl
  | .str _, _, _ => rfl
  | .ref k, e, _ => if_pos (of_decide_eq_true (show decide (k < n) = true from e))
  | .fl ds, e, _ => if_pos (show closeds n ds = true from e)
  | .tup ds, e, l => by show (expDs n g ds).map _ = _; rw [expDs_closed ds e l]; rfl
  | .ins _ _ ds, e, l => by show (expDs n g ds).map _ = _; rw [expDs_closed ds e l]; rfl
  | .lst ds, e, l => by show (expDs n g ds).map _ = _; rw [expDs_closed ds e l]; rfl
  | .dic _ ds, e, l => by show (expDs n g ds).map _ = _; rw [expDs_closed ds e l]; rfl
  | .dit _ ds, e, l => by show (expDs n g ds).map _ = _; rw [expDs_closed ds e l]; rfl
  | .box _ _ ds, e, l => by show (expDs n g ds).map _ = _; rw [expDs_closed ds e l]; rfl
  | .fdic _ _, _, l => by cases l
  | .fdit _ _, _, l => by cases l
theorem expDs_closed {n : Nat} {g : Nat → Option (D × List Nat)} : ∀ ds : List D, closeds n ds = true → livs ds = true → expDs n g ds = some (ds, [])
  | [], _, _ => rfl
  | d :: ds, e, l => by
    obtain ⟨h1, h2⟩ := Bool.and_eq_true_iff.mp (show (closed n d && closeds n ds) = true from e)
    obtain ⟨l1, l2⟩ := Bool.and_eq_true_iff.mp (show (liv d && livs ds) = true from l)
    show (match expD n g d with | some r => (match expDs n g ds with | some q => some (r.1 :: q.1, r.2 ++ q.2) | none => none) | none => none) = _
    rw [expD_closed d h1 l1, expDs_closed ds h2 l2]
    rfl
end
theorem exp_closed {m : Mem} {n : Nat} {d : D} (h : closed n d = true) (l : liv d = true) : exp m n d = some d := by
  unfold exp
  rw [expD_closed d h l]
  rfl
section
variable {P : Program} {w : World} {K : PySem.W.Frag} {φ ψ : List Addr} {H H' : Hp}
/-- what the recursion at the cells promises -/
def GOk (P : Program) (w : World) (K : PySem.W.Frag) (φ ψ : List Addr) (H : Hp) (g : Nat → Option (D × List Nat)) : Prop := ∀ (k : Nat) (a : Addr) (d' : D) (vis : List Nat), φ.length ≤ k → (φ ++ ψ)[k]? = some a → g k = some (d', vis) →
  ∃ fp', RV P w K φ H d' (.ref a) fp' ∧ fp'.Perm (vis.map fun k => (φ ++ ψ).getD k 0) ∧ ∀ k ∈ vis, φ.length ≤ k ∧ k < (φ ++ ψ).length
theorem perm_node {fp' f m : List Addr} {a : Addr} (p : fp'.Perm (f ++ m)) : (fp' ++ [a]).Perm (f ++ [a] ++ m) := by
  refine (p.append_right [a]).trans ?_
  rw [List.append_assoc, List.append_assoc]
  exact List.Perm.append_left f List.perm_append_comm
mutual
theorem expD_ok {g : Nat → Option (D × List Nat)} (G : GOk P w K φ ψ H g) : ∀ (d : D) (v : V) (fp : List Addr) (d' : D) (vis : List Nat), RV P w K (φ ++ ψ) H d v fp → expD φ.length g d = some (d', vis) →
    ∃ fp', RV P w K φ H d' v fp' ∧ fp'.Perm (fp ++ vis.map fun k => (φ ++ ψ).getD k 0) ∧ ∀ k ∈ vis, φ.length ≤ k ∧ k < (φ ++ ψ).length
  | .non, v, fp, d', vis, h, e => by cases e; obtain ⟨rfl, rfl⟩ := h; exact ⟨[], ⟨rfl, rfl⟩, .refl _, by simp⟩
  | .bl b, v, fp, d', vis, h, e => by cases e; obtain ⟨rfl, rfl⟩ := h; exact ⟨[], ⟨rfl, rfl⟩, .refl _, by simp⟩
  | .int i, v, fp, d', vis, h, e => by cases e; obtain ⟨rfl, rfl⟩ := h; exact ⟨[], ⟨rfl, rfl⟩, .refl _, by simp⟩
  | .str x, v, fp, d', vis, h, e => by cases e; obtain ⟨rfl, rfl⟩ := h; exact ⟨[], ⟨rfl, rfl⟩, .refl _, by simp⟩
  | .fl ds, v, fp, d', vis, h, e => by
    have e : (if closeds φ.length ds = true then some (D.fl ds, ([] : List Nat)) else none) = some (d', vis) := e
    split at e
    · rename_i c
      cases e
      obtain ⟨a, vs, e1, h1, r, rfl⟩ := h
      exact ⟨[], ⟨a, vs, e1, h1, RVs.cut ds vs [] c r, rfl⟩, .refl _, by simp⟩
    · cases e
  | .ref k, v, fp, d', vis, h, e => by
    have e : (if k < φ.length then some (D.ref k, ([] : List Nat)) else g k) = some (d', vis) := e
    obtain ⟨a, rfl, h1, rfl⟩ := h
    split at e
    · rename_i c
      cases e
      rw [List.getElem?_append_left c] at h1
      exact ⟨[], ⟨a, rfl, h1, rfl⟩, .refl _, by simp⟩
    · rename_i c
      obtain ⟨fp', r, p, q⟩ := G k a d' vis (by omega) h1 e
      exact ⟨fp', r, p, q⟩
  | .tup ds, v, fp, d', vis, h, e => by
    obtain ⟨r, er, e2⟩ := Option.map_eq_some_iff.mp (show (expDs φ.length g ds).map _ = some (d', vis) from e)
    cases e2
    obtain ⟨a, vs, e1, h1, rr⟩ := h
    obtain ⟨fp', r1, p, q⟩ := expDs_ok G ds vs fp r.1 r.2 rr er
    exact ⟨fp', ⟨a, vs, e1, h1, r1⟩, p, q⟩
  | .ins c ns ds, v, fp, d', vis, h, e => by
    obtain ⟨r, er, e2⟩ := Option.map_eq_some_iff.mp (show (expDs φ.length g ds).map _ = some (d', vis) from e)
    cases e2
    obtain ⟨a, dx, vs, e1, h1, h2, h3, rr⟩ := h
    obtain ⟨fp', r1, p, q⟩ := expDs_ok G ds vs fp r.1 r.2 rr er
    exact ⟨fp', ⟨a, dx, vs, e1, h1, h2, h3, r1⟩, p, q⟩
  | .lst ds, v, fp, d', vis, h, e => by
    obtain ⟨r, er, e2⟩ := Option.map_eq_some_iff.mp (show (expDs φ.length g ds).map _ = some (d', vis) from e)
    cases e2
    obtain ⟨a, vs, f, e1, h1, rfl, rr⟩ := h
    obtain ⟨fp', r1, p, q⟩ := expDs_ok G ds vs f r.1 r.2 rr er
    exact ⟨fp' ++ [a], ⟨a, vs, fp', e1, h1, rfl, r1⟩, perm_node p, q⟩
  | .dic ks ds, v, fp, d', vis, h, e => by
    obtain ⟨r, er, e2⟩ := Option.map_eq_some_iff.mp (show (expDs φ.length g ds).map _ = some (d', vis) from e)
    cases e2
    obtain ⟨a, vs, f, e1, h1, h2, h3, rfl, rr⟩ := h
    obtain ⟨fp', r1, p, q⟩ := expDs_ok G ds vs f r.1 r.2 rr er
    exact ⟨fp' ++ [a], ⟨a, vs, fp', e1, h1, h2, h3, rfl, r1⟩, perm_node p, q⟩
  | .dit ks ds, v, fp, d', vis, h, e => by
    obtain ⟨r, er, e2⟩ := Option.map_eq_some_iff.mp (show (expDs φ.length g ds).map _ = some (d', vis) from e)
    cases e2
    obtain ⟨a, nks, bs, vs, f, e1, h1, h2, h3, rk, h4, rfl, rr⟩ := h
    obtain ⟨fp', r1, p, q⟩ := expDs_ok G ds vs f r.1 r.2 rr er
    exact ⟨fp' ++ [a], ⟨a, nks, bs, vs, fp', e1, h1, h2, h3, RVs.nk ks nks _ [] h2 rk, h4, rfl, r1⟩, perm_node p, q⟩
  | .box c ns ds, v, fp, d', vis, h, e => by
    obtain ⟨r, er, e2⟩ := Option.map_eq_some_iff.mp (show (expDs φ.length g ds).map _ = some (d', vis) from e)
    cases e2
    obtain ⟨a, dx, vs, f, e1, h0, h1, h2, rfl, rr⟩ := h
    obtain ⟨fp', r1, p, q⟩ := expDs_ok G ds vs f r.1 r.2 rr er
    exact ⟨fp' ++ [a], ⟨a, dx, vs, fp', e1, h0, h1, h2, rfl, r1⟩, perm_node p, q⟩
  | .fdic _ _, v, fp, d', vis, h, e => by cases e
  | .fdit _ _, v, fp, d', vis, h, e => by cases e
theorem expDs_ok {g : Nat → Option (D × List Nat)} (G : GOk P w K φ ψ H g) : ∀ (ds : List D) (vs : List V) (fp : List Addr) (ds' : List D) (vis : List Nat), RVs P w K (φ ++ ψ) H ds vs fp → expDs φ.length g ds = some (ds', vis) →
    ∃ fp', RVs P w K φ H ds' vs fp' ∧ fp'.Perm (fp ++ vis.map fun k => (φ ++ ψ).getD k 0) ∧ ∀ k ∈ vis, φ.length ≤ k ∧ k < (φ ++ ψ).length
  | [], vs, fp, ds', vis, h, e => by cases e; obtain ⟨rfl, rfl⟩ := h; exact ⟨[], ⟨rfl, rfl⟩, .refl _, by simp⟩
  | d :: ds, vs, fp, ds', vis, h, e => by
    obtain ⟨v, vs', f, f2, e1, rfl, h1, h2⟩ := h
    have e : (match expD φ.length g d with | some r => (match expDs φ.length g ds with | some q => some (r.1 :: q.1, r.2 ++ q.2) | none => none) | none => none) = some (ds', vis) := e
    cases q1 : expD φ.length g d with
    | none => rw [q1] at e; cases e
    | some r =>
      cases q2 : expDs φ.length g ds with
      | none => rw [q1, q2] at e; cases e
      | some q =>
        rw [q1, q2] at e
        cases e
        obtain ⟨p1, r1, s1, t1⟩ := expD_ok G d v f r.1 r.2 h1 q1
        obtain ⟨p2, r2, s2, t2⟩ := expDs_ok G ds vs' f2 q.1 q.2 h2 q2
        refine ⟨p1 ++ p2, ⟨v, vs', p1, p2, e1, rfl, r1, r2⟩, ?_, fun k hk => (List.mem_append.mp hk).elim (t1 k) (t2 k)⟩
        rw [List.map_append]
        refine (s1.append s2).trans ?_
        rw [List.append_assoc, List.append_assoc]
        refine List.Perm.append_left f ?_
        rw [← List.append_assoc, ← List.append_assoc]
        exact List.Perm.append_right _ List.perm_append_comm
end
theorem expR_ok {m : Mem} (C : Cells P w K (φ ++ ψ) H m) : ∀ f : Nat, GOk P w K φ ψ H (expR m φ.length f)
  | 0 => fun k a d' vis _ _ e => by cases e
  | f + 1 => fun k a d' vis hk ha e => by
    have e : (match m[k]? with | some c => (expD φ.length (expR m φ.length f) c).map fun r => (r.1, r.2 ++ [k]) | none => none) = some (d', vis) := e
    cases q : m[k]? with
    | none => rw [q] at e; cases e
    | some c =>
      rw [q] at e
      obtain ⟨r, er, e2⟩ := Option.map_eq_some_iff.mp e
      cases e2
      obtain ⟨fp', r1, p, z⟩ := expD_ok (expR_ok C f) c (.ref a) [a] r.1 r.2 (C.at_ k a c ha q) er
      refine ⟨fp', r1, ?_, fun j hj => (List.mem_append.mp hj).elim (z j) fun hj => ?_⟩
      · rw [List.map_append]
        have e3 : (φ ++ ψ).getD k 0 = a := by rw [List.getD_eq_getElem?_getD, ha]; rfl
        show fp'.Perm (_ ++ [(φ ++ ψ).getD k 0])
        rw [e3]
        exact p.trans List.perm_append_comm
      · obtain rfl : j = k := by simpa using hj
        exact ⟨hk, (List.getElem?_eq_some_iff.mp ha).1⟩
theorem exp_ok {m : Mem} {d d' : D} {v : V} {fp : List Addr} (C : Cells P w K (φ ++ ψ) H m) (h : RV P w K (φ ++ ψ) H d v fp) (e : exp m φ.length d = some d') (nd : fp.Nodup) (n : ∀ a ∈ fp, a ∉ φ ++ ψ) :
    ∃ fp', RV P w K φ H d' v fp' ∧ fp'.Nodup ∧ ∀ a ∈ fp', a ∉ φ ∧ (a ∈ fp ∨ a ∈ ψ) := by
  unfold exp at e
  cases q : expD φ.length (expR m φ.length m.length) d with
  | none => rw [q] at e; cases e
  | some r =>
    rw [q] at e
    have e : (if r.2.Nodup then some r.1 else none) = some d' := e
    split at e
    · rename_i nv
      cases e
      obtain ⟨fp', r1, p, z⟩ := expD_ok (expR_ok C m.length) d v fp r.1 r.2 h q
      have gd : ∀ k ∈ r.2, (φ ++ ψ)[k]? = some ((φ ++ ψ).getD k 0) := fun k hk => by
        rw [List.getD_eq_getElem?_getD, List.getElem?_eq_getElem (z k hk).2]; rfl
      have inj : ∀ j ∈ r.2, ∀ k ∈ r.2, (φ ++ ψ).getD j 0 = (φ ++ ψ).getD k 0 → j = k := fun j hj k hk e => by
        have e1 := gd j hj
        have e2 := gd k hk
        rw [e] at e1
        obtain ⟨l1, g1⟩ := List.getElem?_eq_some_iff.mp e1
        obtain ⟨l2, g2⟩ := List.getElem?_eq_some_iff.mp e2
        exact (List.getElem_inj C.nd).mp (g1.trans g2.symm)
      have hψ : ∀ k ∈ r.2, (φ ++ ψ).getD k 0 ∈ ψ := fun k hk => by
        have e1 := gd k hk
        rw [List.getElem?_append_right (z k hk).1] at e1
        exact List.mem_of_getElem? e1
      have ndm : (r.2.map fun k => (φ ++ ψ).getD k 0).Nodup := by
        unfold List.Nodup at nv ⊢
        rw [List.pairwise_map]
        exact nv.imp_of_mem fun {a b} ha hb ne e => ne (inj a ha b hb e)
      have ndA : (fp ++ r.2.map fun k => (φ ++ ψ).getD k 0).Nodup := by
        rw [List.nodup_append]
        refine ⟨nd, ndm, fun x hx y hy => ?_⟩
        obtain ⟨k, hk, rfl⟩ := List.mem_map.mp hy
        rintro rfl
        exact n _ hx (List.mem_append_right _ (hψ k hk))
      refine ⟨fp', r1, p.symm.nodup ndA, fun a ha => ?_⟩
      rcases List.mem_append.mp (p.mem_iff.mp ha) with h1 | h1
      · exact ⟨fun z => n a h1 (List.mem_append_left _ z), .inl h1⟩
      · obtain ⟨k, hk, rfl⟩ := List.mem_map.mp h1
        have hp := hψ k hk
        exact ⟨fun z => (nd_tail C.nd).2.2 _ z hp, .inr hp⟩
    · cases e
end
end M3
set_option Elab.async false
set_option linter.all false
set_option autoImplicit false
set_option maxRecDepth 100000
set_option maxHeartbeats 1000000
/-! The D layer, C: the states and what an expression, a list of arguments, a statement computes. -/
namespace M3
open PySem PySem.Spec PyProof.Rows L2

abbrev EF := Loc → Mem → Option (D × Mem)
abbrev AF := Loc → Mem → Option (List D × Mem)
abbrev TF := Loc → Mem → Option (Bool × Mem)
/-- the end of a statement -/
inductive Fl where
  | nx (l : Loc) (m : Mem) | rt (d : D) (m : Mem) | bk (l : Loc) (m : Mem) | ct (l : Loc) (m : Mem)
abbrev SF := Loc → Mem → Option Fl

section
variable (P : Program) (w : World) (K : PySem.W.Frag)
structure Rel (φ : List Addr) (l : Loc) (m : Mem) (σ : L2.St) (H : Hp) : Prop where
  len : σ.length = l.length
  loc : ∀ (i : Nat) (d : D), l[i]? = some (some d) → ∃ v, σ[i]? = some (some v) ∧ RV P w K φ H d v []
  cells : Cells P w K φ H m
  wf : Wf H
/-- what was done between H and H': the cells φ may have changed, the cells ψ are new -/
structure Post (φ : List Addr) (H : Hp) (ψ : List Addr) (m' : Mem) (H' : Hp) : Prop where
  ext : Ext K φ H H'
  cells : Cells P w K (φ ++ ψ) H' m'
  wf : Wf H'
  new : ∀ a ∈ ψ, H a = none
structure PostV (φ : List Addr) (H : Hp) (ψ : List Addr) (m' : Mem) (H' : Hp) (d : D) (v : V) (fp : List Addr) : Prop extends Post P w K φ H ψ m' H' where
  rv : RV P w K (φ ++ ψ) H' d v fp
  nd : fp.Nodup
  fr : ∀ a ∈ fp, a ∉ φ ++ ψ ∧ H a = none
structure PostA (φ : List Addr) (H : Hp) (ψ : List Addr) (m' : Mem) (H' : Hp) (ds : List D) (vs : List V) (fp : List Addr) : Prop extends Post P w K φ H ψ m' H' where
  rv : RVs P w K (φ ++ ψ) H' ds vs fp
  nd : fp.Nodup
  fr : ∀ a ∈ fp, a ∉ φ ++ ψ ∧ H a = none
def RE (t : TE) (f : EF) : Prop := ∀ φ l m σ H d m' (Q : VK), Rel P w K φ l m σ H → f l m = some (d, m') → (∀ ψ H' v fp, PostV P w K φ H ψ m' H' d v fp → Q v H') → t σ H Q
def RA (t : TA) (f : AF) : Prop := ∀ φ l m σ H ds m' (Q : List V → Hp → Prop), Rel P w K φ l m σ H → f l m = some (ds, m') → (∀ ψ H' vs fp, PostA P w K φ H ψ m' H' ds vs fp → Q vs H') → t σ H Q
def RT (t : TT) (f : TF) : Prop := ∀ φ l m σ H b m' (Q : Bool → Hp → Prop), Rel P w K φ l m σ H → f l m = some (b, m') → (∀ ψ H', Post P w K φ H ψ m' H' → Q b H') → t σ H Q
def PostS (φ : List Addr) (H : Hp) (E : Ends) : Fl → Prop
  | .nx l' m' => ∀ ψ σ' H', Post P w K φ H ψ m' H' → Rel P w K (φ ++ ψ) l' m' σ' H' → E.nx σ' H'
  | .bk l' m' => ∀ ψ σ' H', Post P w K φ H ψ m' H' → Rel P w K (φ ++ ψ) l' m' σ' H' → E.bk σ' H'
  | .ct l' m' => ∀ ψ σ' H', Post P w K φ H ψ m' H' → Rel P w K (φ ++ ψ) l' m' σ' H' → E.ct σ' H'
  | .rt d m' => ∀ ψ H' v fp, PostV P w K φ H ψ m' H' d v fp → E.rt v H'
def RS (t : TS) (f : SF) : Prop := ∀ φ l m σ H r (E : Ends), Rel P w K φ l m σ H → f l m = some r → PostS P w K φ H E r → t E σ H
/-- by values: fp is what the arguments bring with them -/
structure PostW (φ : List Addr) (H : Hp) (fp : List Addr) (ψ : List Addr) (m' : Mem) (H' : Hp) (d : D) (v : V) (fp' : List Addr) : Prop where
  ext : Ext K (φ ++ fp) H H'
  cells : Cells P w K (φ ++ ψ) H' m'
  wf : Wf H'
  new : ∀ a ∈ ψ, a ∈ fp ∨ H a = none
  rv : RV P w K (φ ++ ψ) H' d v fp'
  nd : fp'.Nodup
  fr : ∀ a ∈ fp', a ∉ φ ++ ψ ∧ (a ∈ fp ∨ H a = none)
abbrev GF := Mem → List D → Option (D × Mem)
def RW (r : List V → Hp → VK → Prop) (g : GF) : Prop := ∀ φ m H ds vs fp d m' (Q : VK), Cells P w K φ H m → Wf H → RVs P w K φ H ds vs fp → fp.Nodup → (∀ a ∈ fp, a ∉ φ) → g m ds = some (d, m') →
  (∀ ψ H' v fp', PostW P w K φ H fp ψ m' H' d v fp' → Q v H') → r vs H Q
end
structure DE (X : Cx) (e : Expr) (f : EF) : Prop where
  ex : ∃ t, PE X e t ∧ RE X.prog X.w X.K t f
structure DA (X : Cx) (es : List Expr) (f : AF) : Prop where
  ex : ∃ t, PA X es t ∧ RA X.prog X.w X.K t f
structure DT (X : Cx) (e : Expr) (f : TF) : Prop where
  ex : ∃ t, PT X e t ∧ RT X.prog X.w X.K t f
structure DS (X : Cx) (s : Stmt) (f : SF) : Prop where
  ex : ∃ t, PS X s t ∧ RS X.prog X.w X.K t f
structure DB (X : Cx) (s : List Stmt) (f : SF) : Prop where
  ex : ∃ t, PSs X s t ∧ RS X.prog X.w X.K t f

section
variable {P : Program} {w : World} {K : PySem.W.Frag} {φ ψ ψ2 : List Addr} {H H1 H2 : Hp} {l : Loc} {m m1 m2 : Mem} {σ : L2.St}
theorem Ext.keepFp {fp : List Addr} (e : Ext K φ H H1) (n : ∀ a ∈ fp, a ∉ φ) : ∀ a ∈ fp, ∀ o, H a = some o → H1 a = some o := fun a ha o h => e.keep a o h (n a ha)
theorem RV.ext {d : D} {v : V} {fp : List Addr} (e : Ext K φ H H1) (n : ∀ a ∈ fp, a ∉ φ) (h : RV P w K φ H d v fp) : RV P w K (φ ++ ψ) H1 d v fp := RV.mono e.toImm d v fp (e.keepFp n) h
theorem RVs.ext {d : List D} {v : List V} {fp : List Addr} (e : Ext K φ H H1) (n : ∀ a ∈ fp, a ∉ φ) (h : RVs P w K φ H d v fp) : RVs P w K (φ ++ ψ) H1 d v fp := RVs.mono e.toImm d v fp (e.keepFp n) h
theorem Rel.step (R : Rel P w K φ l m σ H) (p : Post P w K φ H ψ m1 H1) : Rel P w K (φ ++ ψ) l m1 σ H1 where
  len := R.len
  loc := fun i d e => by
    obtain ⟨v, e1, r⟩ := R.loc i d e
    exact ⟨v, e1, r.ext p.ext (by simp)⟩
  cells := p.cells
  wf := p.wf
theorem Post.refl (C : Cells P w K φ H m) (W : Wf H) : Post P w K φ H [] m H := ⟨Ext.refl K φ H, by rw [List.append_nil]; exact C, W, by simp⟩
theorem Rel.post (R : Rel P w K φ l m σ H) : Post P w K φ H [] m H := .refl R.cells R.wf
theorem Post.trans (a : Post P w K φ H ψ m1 H1) (b : Post P w K (φ ++ ψ) H1 ψ2 m2 H2) : Post P w K φ H (ψ ++ ψ2) m2 H2 where
  ext := a.ext.trans b.ext a.new
  cells := by rw [← List.append_assoc]; exact b.cells
  wf := b.wf
  new := fun x hx => (List.mem_append.mp hx).elim (a.new x) fun h => a.ext.free (b.new x h)
theorem PostV.carry {d : D} {v : V} {fp : List Addr} (a : PostV P w K φ H ψ m1 H1 d v fp) (b : Post P w K (φ ++ ψ) H1 ψ2 m2 H2) : PostV P w K φ H (ψ ++ ψ2) m2 H2 d v fp where
  toPost := a.toPost.trans b
  rv := by rw [← List.append_assoc]; exact a.rv.ext b.ext fun x hx => (a.fr x hx).1
  nd := a.nd
  fr := fun x hx => by
    refine ⟨fun z => ?_, (a.fr x hx).2⟩
    rw [← List.append_assoc] at z
    rcases List.mem_append.mp z with z | z
    · exact (a.fr x hx).1 z
    · obtain ⟨o, e⟩ := RV.tracked _ _ _ a.rv x hx
      rw [b.new x z] at e; cases e
/-- from the later state back to the first -/
theorem PostV.from {d : D} {v : V} {fp : List Addr} (a : Post P w K φ H ψ m1 H1) (b : PostV P w K (φ ++ ψ) H1 ψ2 m2 H2 d v fp) : PostV P w K φ H (ψ ++ ψ2) m2 H2 d v fp where
  toPost := a.trans b.toPost
  rv := by rw [← List.append_assoc]; exact b.rv
  nd := b.nd
  fr := fun x hx => ⟨by rw [← List.append_assoc]; exact (b.fr x hx).1, a.ext.free (b.fr x hx).2⟩
theorem PostA.from {d : List D} {v : List V} {fp : List Addr} (a : Post P w K φ H ψ m1 H1) (b : PostA P w K (φ ++ ψ) H1 ψ2 m2 H2 d v fp) : PostA P w K φ H (ψ ++ ψ2) m2 H2 d v fp where
  toPost := a.trans b.toPost
  rv := by rw [← List.append_assoc]; exact b.rv
  nd := b.nd
  fr := fun x hx => ⟨by rw [← List.append_assoc]; exact (b.fr x hx).1, a.ext.free (b.fr x hx).2⟩
theorem PostA.cons {d : D} {v : V} {fp : List Addr} {ds : List D} {vs : List V} {fps : List Addr} (a : PostV P w K φ H ψ m1 H1 d v fp) (b : PostA P w K (φ ++ ψ) H1 ψ2 m2 H2 ds vs fps) :
    PostA P w K φ H (ψ ++ ψ2) m2 H2 (d :: ds) (v :: vs) (fp ++ fps) where
  toPost := a.toPost.trans b.toPost
  rv := ⟨v, vs, fp, fps, rfl, rfl, (a.carry b.toPost).rv, by rw [← List.append_assoc]; exact b.rv⟩
  nd := by
    rw [List.nodup_append]
    refine ⟨a.nd, b.nd, fun x hx y hy => ?_⟩
    rintro rfl
    obtain ⟨o, e⟩ := RV.tracked _ _ _ a.rv x hx
    rw [(b.fr x hy).2] at e; cases e
  fr := fun x hx => (List.mem_append.mp hx).elim ((a.carry b.toPost).fr x) ((PostA.from a.toPost b).fr x)
theorem PostW.toV {ds : List D} {vs : List V} {fp : List Addr} {d : D} {v : V} {fp' : List Addr} (a : PostA P w K φ H ψ m1 H1 ds vs fp) (b : PostW P w K (φ ++ ψ) H1 fp ψ2 m2 H2 d v fp') : PostV P w K φ H (ψ ++ ψ2) m2 H2 d v fp' where
  ext := a.ext.trans (ψ := ψ ++ fp) (by rw [← List.append_assoc]; exact b.ext) fun x hx => (List.mem_append.mp hx).elim (a.new x) fun z => (a.fr x z).2
  cells := by rw [← List.append_assoc]; exact b.cells
  wf := b.wf
  new := fun x hx => (List.mem_append.mp hx).elim (a.new x) fun h => (b.new x h).elim (fun z => (a.fr x z).2) fun z => a.ext.free z
  rv := by rw [← List.append_assoc]; exact b.rv
  nd := b.nd
  fr := fun x hx => ⟨by rw [← List.append_assoc]; exact (b.fr x hx).1, (b.fr x hx).2.elim (fun z => (a.fr x z).2) fun z => a.ext.free z⟩
/-! ### arguments -/
def aNil : AF := fun _ m => some ([], m)
def aCons (f : EF) (g : AF) : AF := fun l m => match f l m with
  | some (d, m1) => (match g l m1 with
    | some (ds, m2) => some (d :: ds, m2)
    | none => none)
  | none => none
theorem ra_nil : RA P w K tNil aNil := fun φ l m σ H ds m' Q R e k => by
  cases e
  exact k [] H [] [] ⟨R.post, by rw [List.append_nil]; exact ⟨rfl, rfl⟩, by simp, by simp⟩
theorem ra_cons {t : TE} {f : EF} {ta : TA} {g : AF} (h : RE P w K t f) (ha : RA P w K ta g) : RA P w K (tCons t ta) (aCons f g) := fun φ l m σ H ds m' Q R e k => by
  unfold aCons at e
  cases q : f l m with
  | none => rw [q] at e; cases e
  | some r =>
    obtain ⟨d, m1⟩ := r
    rw [q] at e
    cases q2 : g l m1 with
    | none => simp only [q2] at e; cases e
    | some r2 =>
      obtain ⟨ds2, m2⟩ := r2
      simp only [q2] at e
      cases e
      refine h φ l m σ H d m1 _ R q fun ψ H1 v fp p => ?_
      refine ha (φ ++ ψ) l m1 σ H1 ds2 m' _ (R.step p.toPost) q2 fun ψ2 H2 vs fps p2 => ?_
      exact k _ _ _ _ (PostA.cons p p2)
def fAp (g : GF) (a : AF) : EF := fun l m => match a l m with
  | some (ds, m1) => g m1 ds
  | none => none
theorem re_ap {ta : TA} {a : AF} {r : List V → Hp → VK → Prop} {g : GF} (ha : RA P w K ta a) (hr : RW P w K r g) : RE P w K (fun σ H Q => ta σ H fun vs H1 => r vs H1 Q) (fAp g a) := fun φ l m σ H d m' Q R e k => by
  unfold fAp at e
  cases q : a l m with
  | none => rw [q] at e; cases e
  | some p =>
    obtain ⟨ds, m1⟩ := p
    rw [q] at e
    refine ha φ l m σ H ds m1 _ R q fun ψ H1 vs fp p => ?_
    exact hr (φ ++ ψ) m1 H1 ds vs fp d m' _ p.cells p.wf p.rv p.nd (fun x hx => (p.fr x hx).1) e fun ψ2 H2 v fp' p2 => k _ _ _ _ (PostW.toV p p2)
/-- one argument, two arguments -/
def a1 (f : EF) : AF := aCons f aNil
def a2 (f g : EF) : AF := aCons f (aCons g aNil)
def opW (r : R2) : List V → Hp → VK → Prop := fun vs H Q => match vs with
  | [x, y] => r x y H Q
  | _ => False
def unW (r : V → Hp → VK → Prop) : List V → Hp → VK → Prop := fun vs H Q => match vs with
  | [x] => r x H Q
  | _ => False
theorem re_op {ta tb : TE} {f g : EF} {r : R2} {o : GF} (ha : RE P w K ta f) (hb : RE P w K tb g) (hr : RW P w K (opW r) o) : RE P w K (tOp r ta tb) (fAp o (a2 f g)) := re_ap (ra_cons ha (ra_cons hb ra_nil)) hr
theorem re_un {ta : TE} {f : EF} {r : V → Hp → VK → Prop} {o : GF} (ha : RE P w K ta f) (hr : RW P w K (unW r) o) : RE P w K (tUn r ta) (fAp o (a1 f)) := re_ap (ra_cons ha ra_nil) hr
theorem re_cb {ta : TA} {a : AF} {r : List V → Hp → VK → Prop} {o : GF} (ha : RA P w K ta a) (hr : RW P w K r o) : RE P w K (tCB r ta) (fAp o a) := re_ap ha hr
/-! ### names, constants, displays -/
def fVar (i : Nat) : EF := fun l m => match l[i]? with
  | some (some d) => some (d, m)
  | _ => none
def fC (d : D) : EF := fun _ m => some (d, m)
theorem re_var (i : Nat) : RE P w K (tVar i) (fVar i) := fun φ l m σ H d m' Q R e k => by
  unfold fVar at e
  split at e
  · rename_i d0 h
    cases e
    obtain ⟨v, hv, r⟩ := R.loc i d h
    exact ⟨v, hv, k [] H v [] ⟨R.post, by rw [List.append_nil]; exact r, by simp, by simp⟩⟩
  · cases e
theorem re_const {d : D} {v : V} (h : ∀ φ H, RV P w K φ H d v []) : RE P w K (tC v) (fC d) := fun φ l m σ H d' m' Q R e k => by
  cases e
  exact k [] H v [] ⟨R.post, h _ _, by simp, by simp⟩
theorem re_int (i : Int) : RE P w K (tC (.int i)) (fC (.int i)) := re_const fun _ _ => ⟨rfl, rfl⟩
theorem re_str (x : Str) : RE P w K (tC (.str x)) (fC (.str x)) := re_const fun _ _ => ⟨rfl, rfl⟩
theorem re_bl (b : Bool) : RE P w K (tC (.bl b)) (fC (.bl b)) := re_const fun _ _ => ⟨rfl, rfl⟩
theorem re_non : RE P w K (tC .non) (fC .non) := re_const fun _ _ => ⟨rfl, rfl⟩
/-- a new object is tracked -/
theorem ext_new {p : Addr} {o : HO} (hp : H p = none) : Ext K φ H (upd H p o) where
  tups := fun a vs e => by rw [upd_ne (ne_of_none e hp)]; exact e
  frzs := fun a o vs e => by rw [upd_ne (ne_of_none e hp)]; exact e
  inss := fun a C dx fs e _ => by rw [upd_ne (ne_of_none e hp)]; exact e
  keep := fun a o e _ => by rw [upd_ne (ne_of_none e hp)]; exact e
  there := fun a o e => ⟨o, by rw [upd_ne (ne_of_none e hp)]; exact e⟩
theorem Cells.mem_tracked (C : Cells P w K φ H m) {a : Addr} (h : a ∈ φ) : ∃ o, H a = some o := by
  obtain ⟨i, hi⟩ := List.mem_iff_getElem?.mp h
  have hl : i < m.length := by rw [← C.len]; exact (List.getElem?_eq_some_iff.mp hi).1
  exact RV.tracked _ _ _ (C.at_ i a m[i] hi (List.getElem?_eq_getElem hl)) a (by simp)
theorem Cells.fresh (C : Cells P w K φ H m) {p : Addr} (hp : H p = none) : p ∉ φ := fun h => by
  obtain ⟨o, e⟩ := C.mem_tracked h
  rw [hp] at e; cases e
/-- all that is tracked stays -/
theorem Cells.same (C : Cells P w K φ H m) (e : Ext K φ H H1) (s : ∀ a ∈ φ, ∀ o, H a = some o → H1 a = some o) : Cells P w K φ H1 m where
  len := C.len
  nd := C.nd
  at_ := fun i a c ha hc => by
    have r := RV.mono (ψ := []) e.toImm c (.ref a) [a] (fun b hb o ho => by
      obtain rfl : b = a := by simpa using hb
      exact s b (List.mem_of_getElem? ha) o ho) (C.at_ i a c ha hc)
    rw [List.append_nil] at r
    exact r
theorem Cells.new (C : Cells P w K φ H m) {p : Addr} {o : HO} (hp : H p = none) : Cells P w K φ (upd H p o) m := C.same (ext_new hp) fun a _ u e => by rw [upd_ne (ne_of_none e hp)]; exact e
theorem wf_lst {p : Addr} {vs : List V} (W : Wf H) (hl : vs.length ≤ sizeLine) : Wf (upd H p (.lst vs)) where
  lst := fun a xs e => by
    by_cases h : a = p
    · subst h; rw [upd_same] at e; cases e; exact hl
    · rw [upd_ne h] at e; exact W.lst a xs e
  tup := fun a xs e => by
    by_cases h : a = p
    · subst h; rw [upd_same] at e; cases e
    · rw [upd_ne h] at e; exact W.tup a xs e
theorem wf_tup {p : Addr} {vs : List V} (W : Wf H) (hl : vs.length ≤ sizeLine) : Wf (upd H p (.tup vs)) where
  lst := fun a xs e => by
    by_cases h : a = p
    · subst h; rw [upd_same] at e; cases e
    · rw [upd_ne h] at e; exact W.lst a xs e
  tup := fun a xs e => by
    by_cases h : a = p
    · subst h; rw [upd_same] at e; cases e; exact hl
    · rw [upd_ne h] at e; exact W.tup a xs e
/-- an object that is no list, tuple -/
theorem wf_oth {p : Addr} {o : HO} (W : Wf H) (h1 : ∀ vs, o ≠ .lst vs) (h2 : ∀ vs, o ≠ .tup vs) (h3 : ∀ q vs, o ≠ .frz q (.lst vs)) : Wf (upd H p o) where
  lst := fun a xs e => by
    by_cases h : a = p
    · subst h; rw [upd_same] at e; cases e; exact absurd rfl (h1 xs)
    · rw [upd_ne h] at e; exact W.lst a xs e
  tup := fun a xs e => by
    by_cases h : a = p
    · subst h; rw [upd_same] at e; cases e; exact absurd rfl (h2 xs)
    · rw [upd_ne h] at e; exact W.tup a xs e
theorem RVs.length : ∀ {ds : List D} {vs : List V} {fp : List Addr}, RVs P w K φ H ds vs fp → vs.length = ds.length
  | [], vs, fp, h => by obtain ⟨rfl, _⟩ := h; rfl
  | d :: ds, vs, fp, h => by
    obtain ⟨v, vs', f, g, rfl, _, _, h2⟩ := h
    simp [RVs.length h2]
/-- a new list of these values -/
theorem postW_lst {ds : List D} {vs : List V} {fp : List Addr} {p : Addr} (C : Cells P w K φ H m) (W : Wf H) (r : RVs P w K φ H ds vs fp) (nd : fp.Nodup) (n : ∀ a ∈ fp, a ∉ φ) (hl : vs.length ≤ sizeLine) (hp : H p = none) :
    PostW P w K φ H fp [] m (upd H p (.lst vs)) (.lst ds) (.ref p) (fp ++ [p]) where
  ext := ext_new hp
  cells := by rw [List.append_nil]; exact C.new hp
  wf := wf_lst W hl
  new := by simp
  rv := ⟨p, vs, fp, rfl, upd_same, rfl, r.ext (ext_new hp) n⟩
  nd := by
    rw [List.nodup_append]
    refine ⟨nd, by simp, fun x hx y hy => ?_⟩
    obtain rfl : y = p := by simpa using hy
    rintro rfl
    obtain ⟨o, e⟩ := RVs.tracked _ _ _ r x hx
    rw [hp] at e; cases e
  fr := fun a ha => by
    rw [List.append_nil]
    rcases List.mem_append.mp ha with ha | ha
    · exact ⟨n a ha, .inl ha⟩
    · obtain rfl : a = p := by simpa using ha
      exact ⟨C.fresh hp, .inr hp⟩
theorem postW_tup {ds : List D} {vs : List V} {fp : List Addr} {p : Addr} (C : Cells P w K φ H m) (W : Wf H) (r : RVs P w K φ H ds vs fp) (nd : fp.Nodup) (n : ∀ a ∈ fp, a ∉ φ) (hl : vs.length ≤ sizeLine) (hp : H p = none) :
    PostW P w K φ H fp [] m (upd H p (.tup vs)) (.tup ds) (.ref p) fp where
  ext := ext_new hp
  cells := by rw [List.append_nil]; exact C.new hp
  wf := wf_tup W hl
  new := by simp
  rv := ⟨p, vs, rfl, .inl upd_same, r.ext (ext_new hp) n⟩
  nd := nd
  fr := fun a ha => by rw [List.append_nil]; exact ⟨n a ha, .inl ha⟩
/-- a value that is there already, or is none's -/
theorem postW_same {fp fp' : List Addr} {d : D} {v : V} (C : Cells P w K φ H m) (W : Wf H) (r : RV P w K φ H d v fp') (nd : fp'.Nodup) (n : ∀ a ∈ fp', a ∉ φ ∧ a ∈ fp) : PostW P w K φ H fp [] m H d v fp' where
  ext := Ext.refl K _ H
  cells := by rw [List.append_nil]; exact C
  wf := W
  new := by simp
  rv := by rw [List.append_nil]; exact r
  nd := nd
  fr := fun a ha => by rw [List.append_nil]; exact ⟨(n a ha).1, .inl (n a ha).2⟩
theorem postW_flat {fp : List Addr} {d : D} {v : V} (C : Cells P w K φ H m) (W : Wf H) (r : RV P w K φ H d v []) : PostW P w K φ H fp [] m H d v [] := postW_same C W r (by simp) (by simp)
def gTupN : GF := fun m ds => if ds.length ≤ 1000 then some (.tup ds, m) else none
def gLstN : GF := fun m ds => if ds.length ≤ 1000 then some (.lst ds, m) else none
theorem line1000 {n : Nat} (h : n ≤ 1000) : n ≤ sizeLine := Nat.le_trans h (by rw [sizeLine_eq]; decide)
theorem re_tup {ta : TA} {a : AF} (ha : RA P w K ta a) : RE P w K (tTup ta) (fAp gTupN a) := re_ap (r := fun xs H1 Q => xs.length ≤ sizeLine ∧ ∀ p, H1 p = none → Q (.ref p) (upd H1 p (.tup xs))) ha fun φ m H ds vs fp d m' Q C W r nd n e k => by
  unfold gTupN at e
  split at e
  · rename_i hl
    cases e
    have hl' : vs.length ≤ sizeLine := by rw [r.length]; exact line1000 hl
    exact ⟨hl', fun p hp => k _ _ _ _ (postW_tup C W r nd n hl' hp)⟩
  · cases e
theorem re_lst {ta : TA} {a : AF} (ha : RA P w K ta a) : RE P w K (tLst ta) (fAp gLstN a) := re_ap (r := fun xs H1 Q => xs.length ≤ sizeLine ∧ ∀ p, H1 p = none → Q (.ref p) (upd H1 p (.lst xs))) ha fun φ m H ds vs fp d m' Q C W r nd n e k => by
  unfold gLstN at e
  split at e
  · rename_i hl
    cases e
    have hl' : vs.length ≤ sizeLine := by rw [r.length]; exact line1000 hl
    exact ⟨hl', fun p hp => k _ _ _ _ (postW_lst C W r nd n hl' hp)⟩
  · cases e
end
end M3
set_option Elab.async false
set_option linter.all false
set_option autoImplicit false
set_option maxRecDepth 100000
set_option maxHeartbeats 1000000
/-! The D layer, D: statements, targets, loops. -/
namespace M3
open PySem PySem.Spec PyProof.Rows L2

abbrev GT := D → Loc → Mem → Option (Loc × Mem)
abbrev GTs := List D → Loc → Mem → Option (Loc × Mem)
def Touch (is : List Nat) (σ σ' : L2.St) : Prop := σ'.length = σ.length ∧ ∀ (j : Nat), j ∉ is → σ'[j]? = σ[j]?
section
variable (P : Program) (w : World) (K : PySem.W.Frag)
def RG (t : TG) (g : GT) (is : List Nat) : Prop := ∀ φ l m σ H v d fp l' m' (Q : L2.St → Hp → Prop), Rel P w K φ l m σ H → RV P w K φ H d v fp → fp.Nodup → (∀ a ∈ fp, a ∉ φ) → g d l m = some (l', m') →
  (∀ σ', Rel P w K (φ ++ fp) l' m' σ' H → (∀ k, k < m.length → m'[k]? = m[k]?) → Touch is σ σ' → Q σ' H) → t v σ H Q
def RGs (t : TGs) (g : GTs) (is : List Nat) : Prop := ∀ φ l m σ H vs ds fp l' m' (Q : L2.St → Hp → Prop), Rel P w K φ l m σ H → RVs P w K φ H ds vs fp → fp.Nodup → (∀ a ∈ fp, a ∉ φ) → g ds l m = some (l', m') →
  (∀ σ', Rel P w K (φ ++ fp) l' m' σ' H → (∀ k, k < m.length → m'[k]? = m[k]?) → Touch is σ σ' → Q σ' H) → t vs σ H Q
end
structure DG (X : Cx) (e : Expr) (g : GT) (is : List Nat) : Prop where
  ex : ∃ t, PG X e t ∧ RG X.prog X.w X.K t g is
structure DGs (X : Cx) (e : List Expr) (g : GTs) (is : List Nat) : Prop where
  ex : ∃ t, PGs X e t ∧ RGs X.prog X.w X.K t g is
mutual
theorem imp_prefix : ∀ (d : D) (m : Mem), ∃ q, (imp d m).2 = m ++ q
  | .non, m => ⟨[], by simp [imp]⟩
  | .bl b, m => ⟨[], by simp [imp]⟩
  | .int i, m => ⟨[], by simp [imp]⟩
  | .str x, m => ⟨[], by simp [imp]⟩
  | .fl ds, m => ⟨[], by simp [imp]⟩
  | .ref k, m => ⟨[], by simp [imp]⟩
  | .tup ds, m => imps_prefix ds m
  | .ins c ns ds, m => imps_prefix ds m
  | .lst ds, m => by obtain ⟨q, e⟩ := imps_prefix ds m; exact ⟨q ++ [.lst (imps ds m).1], by show (imps ds m).2 ++ _ = _; rw [e, List.append_assoc]⟩
  | .dic ks ds, m => by obtain ⟨q, e⟩ := imps_prefix ds m; exact ⟨q ++ [.dic ks (imps ds m).1], by show (imps ds m).2 ++ _ = _; rw [e, List.append_assoc]⟩
  | .fdic ks ds, m => by obtain ⟨q, e⟩ := imps_prefix ds m; exact ⟨q ++ [.fdic ks (imps ds m).1], by show (imps ds m).2 ++ _ = _; rw [e, List.append_assoc]⟩
  | .dit ks ds, m => by obtain ⟨q, e⟩ := imps_prefix ds m; exact ⟨q ++ [.dit ks (imps ds m).1], by show (imps ds m).2 ++ _ = _; rw [e, List.append_assoc]⟩
  | .fdit ks ds, m => by obtain ⟨q, e⟩ := imps_prefix ds m; exact ⟨q ++ [.fdit ks (imps ds m).1], by show (imps ds m).2 ++ _ = _; rw [e, List.append_assoc]⟩
  | .box c ns ds, m => by obtain ⟨q, e⟩ := imps_prefix ds m; exact ⟨q ++ [.box c ns (imps ds m).1], by show (imps ds m).2 ++ _ = _; rw [e, List.append_assoc]⟩
theorem imps_prefix : ∀ (ds : List D) (m : Mem), ∃ q, (imps ds m).2 = m ++ q
  | [], m => ⟨[], by simp [imps]⟩
  | d :: ds, m => by
    obtain ⟨q, e⟩ := imp_prefix d m
    obtain ⟨q2, e2⟩ := imps_prefix ds (imp d m).2
    exact ⟨q ++ q2, by show (imps ds (imp d m).2).2 = _; rw [e2, e, List.append_assoc]⟩
end
theorem imp_old (d : D) (m : Mem) : ∀ k, k < m.length → (imp d m).2[k]? = m[k]? := fun k hk => by
  obtain ⟨q, e⟩ := imp_prefix d m
  rw [e, List.getElem?_append_left hk]
theorem imp_len (d : D) (m : Mem) : m.length ≤ (imp d m).2.length := by
  obtain ⟨q, e⟩ := imp_prefix d m
  rw [e]; simp

section
variable {P : Program} {w : World} {K : PySem.W.Frag} {φ ψ ψ2 : List Addr} {H H1 H2 : Hp} {l : Loc} {m m1 m2 : Mem} {σ : L2.St}
theorem PostS.from {E : Ends} (p : Post P w K φ H ψ m1 H1) : ∀ {r : Fl}, PostS P w K φ H E r → PostS P w K (φ ++ ψ) H1 E r
  | .nx l' m', k => fun ψ2 σ' H' q R => k (ψ ++ ψ2) σ' H' (p.trans q) (by rw [← List.append_assoc]; exact R)
  | .bk l' m', k => fun ψ2 σ' H' q R => k (ψ ++ ψ2) σ' H' (p.trans q) (by rw [← List.append_assoc]; exact R)
  | .ct l' m', k => fun ψ2 σ' H' q R => k (ψ ++ ψ2) σ' H' (p.trans q) (by rw [← List.append_assoc]; exact R)
  | .rt d m', k => fun ψ2 H' v fp q => k (ψ ++ ψ2) H' v fp (PostV.from p q)
/-! ### targets -/
def gNm (i : Nat) : GT := fun d l m => some (l.set i (some (imp d m).1), (imp d m).2)
theorem rg_name (i : Nat) : RG P w K (gName i) (gNm i) [i] := fun φ l m σ H v d fp l' m' Q R r nd n e k => by
  cases e
  obtain ⟨q1, q2⟩ := imp_ok d m v φ fp r R.cells nd n
  refine k _ ⟨by simp [R.len], fun j x hx => ?_, q2, R.wf⟩ (imp_old d m) ⟨by simp, fun j hj => List.getElem?_set_ne (fun z => hj (by simp [z]))⟩
  by_cases hj : i = j
  · subst hj
    have hi : i < l.length := by
      have := (List.getElem?_eq_some_iff.mp hx).1
      simpa using this
    rw [List.getElem?_set_self hi] at hx
    cases hx
    exact ⟨v, by rw [List.getElem?_set_self (by rw [R.len]; exact hi)], q1⟩
  · rw [List.getElem?_set_ne hj] at hx
    obtain ⟨u, e1, r1⟩ := R.loc j x hx
    exact ⟨u, by rw [List.getElem?_set_ne hj]; exact e1, r1.wk⟩
def gsNil : GTs := fun ds l m => match ds with
  | [] => some (l, m)
  | _ => none
def gsCons (g : GT) (gs : GTs) : GTs := fun ds l m => match ds with
  | d :: ds => (match g d l m with
    | some (l1, m1) => gs ds l1 m1
    | none => none)
  | [] => none
theorem rgs_nil : RGs P w K gNil gsNil [] := fun φ l m σ H vs ds fp l' m' Q R r nd n e k => by
  cases ds with
  | nil =>
    cases e
    obtain ⟨rfl, rfl⟩ := r
    exact ⟨rfl, k σ (by rw [List.append_nil]; exact R) (fun _ _ => rfl) ⟨rfl, fun _ _ => rfl⟩⟩
  | cons d ds => cases e
theorem rgs_cons {t : TG} {g : GT} {ts : TGs} {gs : GTs} {is js : List Nat} (h : RG P w K t g is) (hs : RGs P w K ts gs js) : RGs P w K (gCons t ts) (gsCons g gs) (is ++ js) := fun φ l m σ H vs ds fp l' m' Q R r nd n e k => by
  cases ds with
  | nil => cases e
  | cons d ds =>
    obtain ⟨v, vs', f, f2, rfl, rfl, r1, r2⟩ := r
    obtain ⟨nf, ng, nx⟩ := nd_tail nd
    have e : (match g d l m with | some (l1, m1) => gs ds l1 m1 | none => none) = some (l', m') := e
    cases q : g d l m with
    | none => rw [q] at e; cases e
    | some p =>
      obtain ⟨l1, m1⟩ := p
      rw [q] at e
      refine ⟨v, vs', rfl, h φ l m σ H v d f l1 m1 _ R r1 nf (fun a ha => n a (List.mem_append_left _ ha)) q fun σ1 R1 o1 u1 => ?_⟩
      have hlen : m.length ≤ m1.length := by
        have z1 := R.cells.len
        have z2 := R1.cells.len
        simp at z2; omega
      exact hs (φ ++ f) l1 m1 σ1 H vs' ds f2 l' m' Q R1 r2.wk ng (fun a ha => not_in_app (n a (List.mem_append_right _ ha)) fun z => nx a z ha) e fun σ2 R2 o2 u2 =>
        k σ2 (by rw [← List.append_assoc]; exact R2) (fun j hj => (o2 j (by omega)).trans (o1 j hj)) ⟨u2.1.trans u1.1, fun j hj => (u2.2 j fun z => hj (List.mem_append_right _ z)).trans (u1.2 j fun z => hj (List.mem_append_left _ z))⟩
def gTp (n : Nat) (gs : GTs) : GT := fun d l m => match d with
  | .tup ds => if ds.length = n then gs ds l m else none
  | _ => none
theorem rg_tup {n : Nat} {ts : TGs} {gs : GTs} {is : List Nat} (h : RGs P w K ts gs is) : RG P w K (gTup K n ts) (gTp n gs) is := fun φ l m σ H v d fp l' m' Q R r nd nn e k => by
  cases d with
  | tup ds =>
    have e : (if ds.length = n then gs ds l m else none) = some (l', m') := e
    split at e
    · rename_i hl
      obtain ⟨a, vs, rfl, ht, rr⟩ := r
      exact ⟨a, vs, rfl, ht.sq, by rw [rr.length]; exact hl, h φ l m σ H vs ds fp l' m' Q R rr nd nn e k⟩
    · cases e
  | _ => cases e
/-! ### statements -/
def sNx : SF := fun l m => some (.nx l m)
def sBk : SF := fun l m => some (.bk l m)
def sCt : SF := fun l m => some (.ct l m)
def sSeq (f g : SF) : SF := fun l m => match f l m with
  | some (.nx l1 m1) => g l1 m1
  | r => r
def sIf (c : TF) (f g : SF) : SF := fun l m => match c l m with
  | some (true, m1) => f l m1
  | some (false, m1) => g l m1
  | none => none
def sAsg (f : EF) (g : GT) : SF := fun l m => match f l m with
  | some (d, m1) => (match g d l m1 with
    | some (l2, m2) => some (.nx l2 m2)
    | none => none)
  | none => none
def sRet (f : EF) : SF := fun l m => match f l m with
  | some (d, m1) => some (.rt d m1)
  | none => none
def sDrop (f : EF) : SF := fun l m => match f l m with
  | some (_, m1) => some (.nx l m1)
  | none => none
theorem rs_nx : RS P w K tNext sNx := fun φ l m σ H r E R e k => by
  cases e
  exact k [] σ H R.post (by rw [List.append_nil]; exact R)
theorem rs_bk : RS P w K tBreak sBk := fun φ l m σ H r E R e k => by
  cases e
  exact k [] σ H R.post (by rw [List.append_nil]; exact R)
theorem rs_ct : RS P w K tCont sCt := fun φ l m σ H r E R e k => by
  cases e
  exact k [] σ H R.post (by rw [List.append_nil]; exact R)
theorem rs_seq {t u : TS} {f g : SF} (h1 : RS P w K t f) (h2 : RS P w K u g) : RS P w K (tSeq t u) (sSeq f g) := fun φ l m σ H r E R e k => by
  unfold sSeq at e
  cases q : f l m with
  | none => rw [q] at e; cases e
  | some r1 =>
    rw [q] at e
    refine h1 φ l m σ H r1 _ R q ?_
    cases r1 with
    | nx l1 m1 => exact fun ψ σ' H' p R1 => h2 _ l1 m1 σ' H' r E R1 e (PostS.from p k)
    | rt d m1 => cases e; exact k
    | bk l1 m1 => cases e; exact k
    | ct l1 m1 => cases e; exact k
theorem rs_if {c : TT} {cf : TF} {t u : TS} {f g : SF} (hc : RT P w K c cf) (h1 : RS P w K t f) (h2 : RS P w K u g) : RS P w K (tIfS c t u) (sIf cf f g) := fun φ l m σ H r E R e k => by
  unfold sIf at e
  cases q : cf l m with
  | none => rw [q] at e; cases e
  | some p =>
    obtain ⟨b, m1⟩ := p
    rw [q] at e
    refine hc φ l m σ H b m1 _ R q fun ψ H' p => ?_
    cases b with
    | true => exact iteT (h1 _ l m1 σ H' r E (R.step p) e (PostS.from p k))
    | false => exact iteF (h2 _ l m1 σ H' r E (R.step p) e (PostS.from p k))
theorem rs_asg {te : TE} {f : EF} {tg : TG} {g : GT} {is : List Nat} (he : RE P w K te f) (hg : RG P w K tg g is) : RS P w K (tAsg te tg) (sAsg f g) := fun φ l m σ H r E R e k => by
  unfold sAsg at e
  cases q : f l m with
  | none => rw [q] at e; cases e
  | some p =>
    obtain ⟨d, m1⟩ := p
    rw [q] at e
    cases q2 : g d l m1 with
    | none => simp only [q2] at e; cases e
    | some p2 =>
      obtain ⟨l2, m2⟩ := p2
      simp only [q2] at e
      cases e
      refine he φ l m σ H d m1 _ R q fun ψ H1 v fp p => ?_
      refine hg (φ ++ ψ) l m1 σ H1 v d fp l2 m2 _ (R.step p.toPost) p.rv p.nd (fun a ha => (p.fr a ha).1) q2 fun σ' R' _ _ => ?_
      refine k (ψ ++ fp) σ' H1 ⟨p.ext, by rw [← List.append_assoc]; exact R'.cells, R'.wf, fun a ha => (List.mem_append.mp ha).elim (p.new a) fun z => (p.fr a z).2⟩ (by rw [← List.append_assoc]; exact R')
theorem rs_ret {te : TE} {f : EF} (he : RE P w K te f) : RS P w K (tRet te) (sRet f) := fun φ l m σ H r E R e k => by
  unfold sRet at e
  cases q : f l m with
  | none => rw [q] at e; cases e
  | some p =>
    obtain ⟨d, m1⟩ := p
    rw [q] at e
    cases e
    exact he φ l m σ H d m1 _ R q fun ψ H1 v fp p => k ψ H1 v fp p
theorem rs_retN : RS P w K tRetN (sRet (fC .non)) := fun φ l m σ H r E R e k => by
  cases e
  exact k [] H .non [] ⟨R.post, ⟨rfl, rfl⟩, by simp, by simp⟩
theorem rs_drop {te : TE} {f : EF} (he : RE P w K te f) : RS P w K (tDrop te) (sDrop f) := fun φ l m σ H r E R e k => by
  unfold sDrop at e
  cases q : f l m with
  | none => rw [q] at e; cases e
  | some p =>
    obtain ⟨d, m1⟩ := p
    rw [q] at e
    cases e
    exact he φ l m σ H d m1 _ R q fun ψ H1 v fp p => k ψ σ H1 p.toPost (R.step p.toPost)
/-- a statement that is never reached -/
def sNo : SF := fun _ _ => none
theorem rs_no : RS P w K tNever sNo := fun φ l m σ H r E R e k => by cases e
/-! ### walks -/
/-- what a walk looks at: a cell and its content -/
abbrev Watch := List (Nat × D)
def Watch.ok (wt : Watch) (m : Mem) : Prop := ∀ k c, (k, c) ∈ wt → m[k]? = some c
structure Walks (P : Program) (w : World) (K : PySem.W.Frag) (N Mf : Addr → Prop) (J : It) (wt : Watch) (S : Nat → List D → List Addr → Mem → Hp → Prop) : Prop where
  item : ∀ i d ds φ m H, S i (d :: ds) φ m H → Cells P w K φ H m → Wf H → wt.ok m → J.go i H ∧ ∀ x H', J.yld i H x H' → ∃ fp, Post P w K φ H [] m H' ∧ RV P w K φ H' d x fp ∧ fp.Nodup ∧ (∀ a ∈ fp, a ∉ φ ∧ N a ∧ ¬ Mf a) ∧
    ∀ m2, (∀ k, k < m.length → m2[k]? = m[k]?) → Cells P w K (φ ++ fp) H' m2 → S (i + 1) ds (φ ++ fp) m2 H'
  stop : ∀ i φ m H, S i [] φ m H → Cells P w K φ H m → Wf H → wt.ok m → J.stop i H
  step : ∀ i ds φ ψ m m' H H', S i ds φ m H → Post P w K φ H ψ m' H' → wt.ok m → wt.ok m' → S i ds (φ ++ ψ) m' H'
  apart : ∀ i ds φ m H D acc, S i ds φ m H → Mf D → (H D = none ∨ ∃ vs, H D = some (.lst vs)) → S i ds φ m (upd H D (.lst acc))
abbrev IF := Loc → Mem → Option ((List D × Watch) × Mem)
def RI (P : Program) (w : World) (K : PySem.W.Frag) (wi : TI) (f : IF) : Prop := ∀ φ l m σ H r m' (R : It → Hp → Prop), Rel P w K φ l m σ H → f l m = some (r, m') →
  (∀ ψ H' N Mf J S, Post P w K φ H ψ m' H' → (∀ a, N a → H a = none) → (∀ a, H' a = none → Mf a) → Walks P w K N Mf J r.2 S → S 0 r.1 (φ ++ ψ) m' H' → r.2.ok m' → r.1.length ≤ sizeLine → R J H') → wi σ H R
noncomputable def guard {α : Type} (p : Prop) (x : Option α) : Option α := @ite _ p (Classical.propDecidable p) x none
theorem guard_pos {α : Type} {p : Prop} {x : Option α} (h : p) : guard p x = x := by unfold guard; exact if_pos h
theorem guard_some {α : Type} {p : Prop} {x : Option α} {y : α} (h : guard p x = some y) : p ∧ x = some y := by
  unfold guard at h
  split at h
  · rename_i hp; exact ⟨hp, h⟩
  · cases h
noncomputable def forS (wt : Watch) (g : GT) (b : SF) : List D → SF
  | [] => fun l m => some (.nx l m)
  | d :: ds => fun l m => match g d l m with
    | some (l1, m1) => (match b l1 m1 with
      | some (.nx l2 m2) => guard (wt.ok m2) (forS wt g b ds l2 m2)
      | some (.ct l2 m2) => guard (wt.ok m2) (forS wt g b ds l2 m2)
      | some (.bk l2 m2) => some (.nx l2 m2)
      | some (.rt d m2) => some (.rt d m2)
      | none => none)
    | none => none
noncomputable def sFor (f : IF) (g : GT) (b : SF) : SF := fun l m => match f l m with
  | some (r, m1) => forS r.2 g b r.1 l m1
  | none => none
theorem rs_for {wi : TI} {f : IF} {tg : TG} {g : GT} {tb : TS} {b : SF} (hi : RI P w K wi f) {is : List Nat} (hg : RG P w K tg g is) (hb : RS P w K tb b) : RS P w K (tFor wi tg tb) (sFor f g b) := fun φ l m σ H r E R e k => by
  unfold sFor at e
  cases q : f l m with
  | none => rw [q] at e; cases e
  | some p =>
    obtain ⟨⟨ds, wt⟩, m1⟩ := p
    rw [q] at e
    refine hi φ l m σ H (ds, wt) m1 _ R q fun ψ H1 N Mf J S p0 hN hM Wk S0 ok0 _ => ?_
    refine ⟨fun i n σ' H' => ∃ ψ' l' m' ds', n = ds'.length ∧ Post P w K φ H ψ' m' H' ∧ Rel P w K (φ ++ ψ') l' m' σ' H' ∧ S i ds' (φ ++ ψ') m' H' ∧ wt.ok m' ∧ forS wt g b ds' l' m' = some r, ⟨ds.length, ψ, l, m1, ds, rfl, p0, R.step p0, S0, ok0, e⟩, ?_⟩
    rintro i n σ' H' ⟨ψ', l', m', ds', rfl, p1, R1, S1, ok1, e1⟩
    cases ds' with
    | nil =>
      cases e1
      exact .inl ⟨Wk.stop i _ _ _ S1 R1.cells R1.wf ok1, k ψ' σ' H' p1 R1⟩
    | cons d ds' =>
      obtain ⟨go, yl⟩ := Wk.item i d ds' _ _ _ S1 R1.cells R1.wf ok1
      refine .inr ⟨go, fun σ2 H2 => ∃ ψ' l' m' , Post P w K φ H ψ' m' H2 ∧ Rel P w K (φ ++ ψ') l' m' σ2 H2 ∧ S (i + 1) ds' (φ ++ ψ') m' H2 ∧ wt.ok m' ∧ forS wt g b ds' l' m' = some r, fun σ2 H2 ⟨ψ2, l2, m2, a1, a2, a3, a4, a5⟩ => ⟨ds'.length, by simp, ψ2, l2, m2, ds', rfl, a1, a2, a3, a4, a5⟩, fun x H2 hy => ?_⟩
      obtain ⟨fp, p2, rv, nd, nn, next⟩ := yl x H2 hy
      have R2 : Rel P w K (φ ++ ψ') l' m' σ' H2 := by
        have := R1.step p2
        rw [List.append_nil] at this
        exact this
      have p12 : Post P w K φ H ψ' m' H2 := by
        have := p1.trans p2
        rw [List.append_nil] at this
        exact this
      have e1 : (match g d l' m' with
        | some (l1, m1) => (match b l1 m1 with
          | some (.nx l2 m2) => guard (wt.ok m2) (forS wt g b ds' l2 m2)
          | some (.ct l2 m2) => guard (wt.ok m2) (forS wt g b ds' l2 m2)
          | some (.bk l2 m2) => some (.nx l2 m2)
          | some (.rt d m2) => some (.rt d m2)
          | none => none)
        | none => none) = some r := e1
      cases q2 : g d l' m' with
      | none => rw [q2] at e1; cases e1
      | some pr =>
        obtain ⟨l1, m3⟩ := pr
        simp only [q2] at e1
        refine hg (φ ++ ψ') l' m' σ' H2 x d fp l1 m3 _ R2 rv nd (fun a ha => (nn a ha).1) q2 fun σ3 R3 old _ => ?_
        have S3 := next m3 old R3.cells
        have p3 : Post P w K φ H (ψ' ++ fp) m3 H2 := ⟨p12.ext, by rw [← List.append_assoc]; exact R3.cells, R3.wf, fun a ha => (List.mem_append.mp ha).elim (p12.new a) fun z => ?_⟩
        · have ok3 : wt.ok m3 := fun k c ew => by
            have z := ok1 k c ew
            have hk : k < m'.length := (List.getElem?_eq_some_iff.mp z).1
            rw [old k hk]; exact z
          -- the body
          have body : ∀ {l2 m2} {σ4 : L2.St} {H4 : Hp} {ψ4 : List Addr}, Post P w K (φ ++ ψ' ++ fp) H2 ψ4 m2 H4 → Rel P w K (φ ++ ψ' ++ fp ++ ψ4) l2 m2 σ4 H4 → guard (wt.ok m2) (forS wt g b ds' l2 m2) = some r →
              ∃ ψ' l' m' , Post P w K φ H ψ' m' H4 ∧ Rel P w K (φ ++ ψ') l' m' σ4 H4 ∧ S (i + 1) ds' (φ ++ ψ') m' H4 ∧ wt.ok m' ∧ forS wt g b ds' l' m' = some r := fun {l2 m2 σ4 H4 ψ4} p4 R4 eg => by
            obtain ⟨ok4, ef⟩ := guard_some eg
            have p4' : Post P w K (φ ++ (ψ' ++ fp)) H2 ψ4 m2 H4 := by rw [← List.append_assoc]; exact p4
            have S4 := Wk.step _ _ _ ψ4 _ m2 _ H4 S3 p4 ok3 ok4
            exact ⟨ψ' ++ fp ++ ψ4, l2, m2, p3.trans p4', by simp only [List.append_assoc] at R4 ⊢; exact R4, by simp only [List.append_assoc] at S4 ⊢; exact S4, ok4, ef⟩
          cases q3 : b l1 m3 with
          | none => simp only [q3] at e1; cases e1
          | some fl =>
            simp only [q3] at e1
            refine hb _ l1 m3 σ3 H2 fl _ R3 q3 ?_
            cases fl with
            | nx l2 m2 => exact fun ψ4 σ4 H4 p4 R4 => body p4 R4 e1
            | ct l2 m2 => exact fun ψ4 σ4 H4 p4 R4 => body p4 R4 e1
            | bk l2 m2 =>
              cases e1
              exact fun ψ4 σ4 H4 p4 R4 => k (ψ' ++ fp ++ ψ4) σ4 H4 (p3.trans (by rw [← List.append_assoc]; exact p4)) (by simp only [List.append_assoc] at R4 ⊢; exact R4)
            | rt d2 m2 =>
              cases e1
              exact fun ψ4 H4 v4 fp4 p4 => k (ψ' ++ fp ++ ψ4) H4 v4 fp4 (PostV.from p3 (by rw [← List.append_assoc]; exact p4))
        · exact hN a (nn a z).2.1
/-! ### while -/
def whileN (c : TF) (b : SF) : Nat → SF
  | 0 => fun _ _ => none
  | n + 1 => fun l m => match c l m with
    | some (true, m1) => (match b l m1 with
      | some (.nx l2 m2) => whileN c b n l2 m2
      | some (.ct l2 m2) => whileN c b n l2 m2
      | some (.bk l2 m2) => some (.nx l2 m2)
      | some (.rt d m2) => some (.rt d m2)
      | none => none)
    | some (false, m1) => some (.nx l m1)
    | none => none
theorem rs_while {c : TT} {cf : TF} {tb : TS} {b : SF} (hc : RT P w K c cf) (hb : RS P w K tb b) (n : Nat) : RS P w K (tWhile c tb) (whileN cf b n) := fun φ l m σ H r E R e k => by
  refine ⟨fun n σ' H' => ∃ ψ' l' m', Post P w K φ H ψ' m' H' ∧ Rel P w K (φ ++ ψ') l' m' σ' H' ∧ whileN cf b n l' m' = some r, ⟨n, [], l, m, R.post, by rw [List.append_nil]; exact R, e⟩, ?_⟩
  rintro n σ' H' ⟨ψ', l', m', p1, R1, e1⟩
  cases n with
  | zero => cases e1
  | succ n =>
    have e1 : (match cf l' m' with
      | some (true, m1) => (match b l' m1 with
        | some (.nx l2 m2) => whileN cf b n l2 m2
        | some (.ct l2 m2) => whileN cf b n l2 m2
        | some (.bk l2 m2) => some (.nx l2 m2)
        | some (.rt d m2) => some (.rt d m2)
        | none => none)
      | some (false, m1) => some (.nx l' m1)
      | none => none) = some r := e1
    cases q : cf l' m' with
    | none => rw [q] at e1; cases e1
    | some pr =>
      obtain ⟨bo, m1⟩ := pr
      refine hc _ l' m' σ' H' bo m1 _ R1 q fun ψ1 H1 p2 => ?_
      have p12 := p1.trans p2
      have R2 := R1.step p2
      rw [List.append_assoc] at R2
      cases bo with
      | false =>
        simp only [q] at e1
        cases e1
        rw [if_neg Bool.false_ne_true]
        exact k _ σ' H1 p12 R2
      | true =>
        simp only [q] at e1
        rw [if_pos rfl]
        refine ⟨fun σ3 H3 => ∃ ψ' l' m', Post P w K φ H ψ' m' H3 ∧ Rel P w K (φ ++ ψ') l' m' σ3 H3 ∧ whileN cf b n l' m' = some r, fun σ3 H3 h => ⟨n, Nat.lt_succ_self n, h⟩, ?_⟩
        cases q3 : b l' m1 with
        | none => simp only [q3] at e1; cases e1
        | some fl =>
          simp only [q3] at e1
          refine hb _ l' m1 σ' H1 fl _ R2 q3 ?_
          cases fl with
          | nx l2 m2 => exact fun ψ4 σ4 H4 p4 R4 => ⟨_, l2, m2, p12.trans p4, by rw [← List.append_assoc]; exact R4, e1⟩
          | ct l2 m2 => exact fun ψ4 σ4 H4 p4 R4 => ⟨_, l2, m2, p12.trans p4, by rw [← List.append_assoc]; exact R4, e1⟩
          | bk l2 m2 =>
            cases e1
            exact fun ψ4 σ4 H4 p4 R4 => k _ σ4 H4 (p12.trans p4) (by rw [← List.append_assoc]; exact R4)
          | rt d m2 =>
            cases e1
            exact fun ψ4 H4 v4 fp4 p4 => k _ H4 v4 fp4 (PostV.from p12 p4)
/-! ### list comprehensions -/
def wipeD (l : Loc) : List Nat → Loc
  | [] => l
  | v :: vs => (wipeD l vs).set v none
theorem wipeD_some {l : Loc} {i : Nat} {x : D} : ∀ {vs : List Nat}, (wipeD l vs)[i]? = some (some x) → l[i]? = some (some x) ∧ i ∉ vs
  | [], h => ⟨h, by simp⟩
  | v :: vs, h => by
    unfold wipeD at h
    by_cases hi : v = i
    · subst hi
      by_cases hv : v < (wipeD l vs).length
      · rw [List.getElem?_set_self hv] at h; cases h
      · rw [List.getElem?_eq_none (by simpa using hv)] at h; cases h
    · rw [List.getElem?_set_ne hi] at h
      obtain ⟨h1, h2⟩ := wipeD_some h
      exact ⟨h1, by simp only [List.mem_cons, not_or]; exact ⟨fun e => hi e.symm, h2⟩⟩
theorem wipeD_length (l : Loc) : ∀ vs : List Nat, (wipeD l vs).length = l.length
  | [] => rfl
  | v :: vs => by unfold wipeD; rw [List.length_set, wipeD_length l vs]
theorem wipe_get {σ : L2.St} {i : Nat} : ∀ {vs : List Nat}, (wipe σ vs)[i]? = if i ∈ vs then σ[i]?.map (fun _ => none) else σ[i]?
  | [] => by simp [wipe]
  | v :: vs => by
    unfold wipe
    by_cases hi : v = i
    · subst hi
      by_cases hv : v < (wipe σ vs).length
      · rw [List.getElem?_set_self hv]
        rw [wipe_length] at hv
        simp [hv]
      · rw [List.getElem?_eq_none (by simpa using hv)]
        rw [wipe_length] at hv
        rw [if_pos (by simp), List.getElem?_eq_none (by omega)]
        rfl
    · rw [List.getElem?_set_ne hi, wipe_get]
      have : (i ∈ v :: vs) = (i ∈ vs) := by simp [Ne.symm hi]
      simp only [this]
theorem wipe_agree {σ σ' : L2.St} {is vs : List Nat} (hl : σ'.length = σ.length) (h : ∀ j, j ∉ is → σ'[j]? = σ[j]?) (hs : ∀ j ∈ is, j ∈ vs) : wipe σ' vs = wipe σ vs := by
  apply List.ext_getElem?
  intro i
  rw [wipe_get, wipe_get]
  by_cases hi : i ∈ vs
  · rw [if_pos hi, if_pos hi]
    by_cases hl2 : i < σ.length
    · rw [List.getElem?_eq_getElem hl2, List.getElem?_eq_getElem (by rw [hl]; exact hl2)]; rfl
    · rw [List.getElem?_eq_none (by omega), List.getElem?_eq_none (by omega)]
  · rw [if_neg hi, if_neg hi]
    exact h i fun z => hi (hs i z)
theorem Rel.wipe (R : Rel P w K φ l m σ H) (vs : List Nat) : Rel P w K φ (wipeD l vs) m (wipe σ vs) H where
  len := by rw [wipe_length, wipeD_length]; exact R.len
  loc := fun i d e => by
    obtain ⟨e1, hn⟩ := wipeD_some e
    obtain ⟨v, e2, r⟩ := R.loc i d e1
    exact ⟨v, by rw [wipe_get, if_neg hn]; exact e2, r⟩
  cells := R.cells
  wf := R.wf
theorem wipe_wipe {σ : L2.St} {vs : List Nat} : wipe (wipe σ vs) vs = wipe σ vs := by
  apply List.ext_getElem?
  intro i
  rw [wipe_get, wipe_get]
  by_cases hi : i ∈ vs
  · rw [if_pos hi, if_pos hi]; cases σ[i]? <;> rfl
  · rw [if_neg hi, if_neg hi]
noncomputable def compS (wt : Watch) (g : GT) (c : TF) (f : EF) (vs : List Nat) (l : Loc) : List D → Mem → Option (List D × Mem)
  | [], m => some ([], m)
  | d :: ds, m => match g d (wipeD l vs) m with
    | some (l1, m1) => (match c l1 m1 with
      | some (true, m2) => (match f l1 m2 with
        | some (y, m3) => guard (wt.ok m3) ((compS wt g c f vs l ds m3).map fun r => (y :: r.1, r.2))
        | none => none)
      | some (false, m2) => guard (wt.ok m2) (compS wt g c f vs l ds m2)
      | none => none)
    | none => none
noncomputable def fComp (i : IF) (g : GT) (c : TF) (f : EF) (vs : List Nat) : EF := fun l m => match i l m with
  | some (r, m1) => (match compS r.2 g c f vs l r.1 m1 with
    | some (ys, m2) => some (.lst ys, m2)
    | none => none)
  | none => none
theorem RVs.snoc {d : D} {v : V} {f : List Addr} : ∀ {ds : List D} {vs : List V} {fp : List Addr}, RVs P w K φ H ds vs fp → RV P w K φ H d v f → RVs P w K φ H (ds ++ [d]) (vs ++ [v]) (fp ++ f)
  | [], vs, fp, h, r => by obtain ⟨rfl, rfl⟩ := h; exact ⟨v, [], f, [], rfl, by simp, r, ⟨rfl, rfl⟩⟩
  | x :: ds, vs, fp, h, r => by
    obtain ⟨u, vs', f1, g1, rfl, rfl, h1, h2⟩ := h
    exact ⟨u, vs' ++ [v], f1, g1 ++ f, rfl, by simp, h1, RVs.snoc h2 r⟩
theorem re_comp {wi : TI} {i : IF} {tg : TG} {g : GT} {is : List Nat} {tt : TT} {c : TF} {te : TE} {f : EF} {vs : List Nat} (hi : RI P w K wi i) (hg : RG P w K tg g is) (his : ∀ j ∈ is, j ∈ vs) (hc : RT P w K tt c) (hf : RE P w K te f) :
    RE P w K (tLc wi tg tt te vs) (fComp i g c f vs) := fun φ l m σ H d m' Q R e k => by
  unfold fComp at e
  cases q : i l m with
  | none => rw [q] at e; cases e
  | some p =>
    obtain ⟨⟨ds, wt⟩, m1⟩ := p
    simp only [q] at e
    cases q2 : compS wt g c f vs l ds m1 with
    | none => simp only [q2] at e; cases e
    | some p2 =>
      obtain ⟨ys, m2⟩ := p2
      simp only [q2] at e
      cases e
      refine hi φ l m σ H (ds, wt) m1 _ R q fun ψ H1 N Mf J S p0 hN hM Wk S0 ok0 hlen L hL => ?_
      have hL0 : H L = none := p0.ext.free hL
      have hMf : Mf L := hM L hL
      -- the state between two turns
      let W : Nat → List D → Hp → Prop := fun i ds' H' => ∃ ψ' m3 done acc fp, Post P w K φ H ψ' m3 H' ∧ S i ds' (φ ++ ψ') m3 H' ∧ wt.ok m3 ∧ H' L = some (.lst acc) ∧ RVs P w K (φ ++ ψ') H' done acc fp ∧ (fp ++ [L]).Nodup ∧
        (∀ a ∈ fp ++ [L], (a ∉ φ ++ ψ' ∧ H a = none) ∧ Mf a) ∧ (∀ a, H' a = none → Mf a) ∧ done.length + ds'.length ≤ ds.length ∧ ∃ ys', compS wt g c f vs l ds' m3 = some (ys', m') ∧ done ++ ys' = ys
      -- the list is written
      have write : ∀ {i ds' ψ' m3 H' done acc fp y v fp2}, Post P w K φ H ψ' m3 H' → S i ds' (φ ++ ψ') m3 H' → wt.ok m3 → H' L = some (.lst acc) → RVs P w K (φ ++ ψ') H' done acc fp → (fp ++ [L]).Nodup → (∀ a ∈ fp ++ [L], (a ∉ φ ++ ψ' ∧ H a = none) ∧ Mf a) → (∀ a, H' a = none → Mf a) →
          RV P w K (φ ++ ψ') H' y v fp2 → fp2.Nodup → (∀ a ∈ fp2, a ∉ φ ++ ψ' ∧ a ∉ fp ++ [L] ∧ H a = none ∧ Mf a) → done.length + 1 + ds'.length ≤ ds.length → (∃ ys', compS wt g c f vs l ds' m3 = some (ys', m') ∧ (done ++ [y]) ++ ys' = ys) → W i ds' (upd H' L (.lst (acc ++ [v]))) := by
        intro i ds' ψ' m3 H' done acc fp y v fp2 p1 S1 ok1 hA rA nA fA hT ry ny fy hle hys
        have nL : L ∉ φ ++ ψ' := (fA L (by simp)).1.1
        have im : Imm K H' (upd H' L (.lst (acc ++ [v]))) :=
          ⟨fun a vs e => (upd_ne (fun z => by rw [z, hA] at e; cases e)).trans e, fun a o vs e => (upd_ne (fun z => by rw [z, hA] at e; cases e)).trans e, fun a C dx fs e _ => (upd_ne (fun z => by rw [z, hA] at e; cases e)).trans e⟩
        have hlA : (acc ++ [v]).length ≤ sizeLine := by
          rw [List.length_append, rA.length]
          show done.length + 1 ≤ sizeLine
          have : ds.length ≤ sizeLine := hlen
          omega
        have ext' : Ext K φ H (upd H' L (.lst (acc ++ [v]))) := ⟨⟨fun a vs e => im.tups a vs (p1.ext.tups a vs e), fun a o vs e => im.frzs a o vs (p1.ext.frzs a o vs e), fun a C dx fs e n => im.inss a C dx fs (p1.ext.inss a C dx fs e n) n⟩,
          fun a o e n => by rw [upd_ne (ne_of_none e hL0)]; exact p1.ext.keep a o e n, fun a o e => by rw [upd_ne (ne_of_none e hL0)]; exact p1.ext.there a o e⟩
        have keepF : ∀ {f : List Addr}, L ∉ f → ∀ a ∈ f, ∀ o, H' a = some o → upd H' L (.lst (acc ++ [v])) a = some o := fun {f} hf a ha o e => by rw [upd_ne (fun z => hf (by rw [← z]; exact ha))]; exact e
        have p1' : Post P w K φ H ψ' m3 (upd H' L (.lst (acc ++ [v]))) := by
          refine ⟨ext', ?_, wf_lst p1.wf hlA, p1.new⟩
          refine ⟨p1.cells.len, p1.cells.nd, fun i a c ha hc => ?_⟩
          have r := RV.mono (ψ := []) im c (.ref a) [a] (keepF (f := [a]) (by
            intro z
            obtain rfl : L = a := by simpa using z
            exact nL (List.mem_of_getElem? ha))) (p1.cells.at_ i a c ha hc)
          rw [List.append_nil] at r
          exact r
        have nf1 : L ∉ fp := fun z => (nd_tail nA).2.2 L z (by simp)
        have nf2 : L ∉ fp2 := fun z => (fy L z).2.1 (by simp)
        have r1 := RVs.mono (ψ := []) im done acc fp (keepF nf1) rA
        have r2 := RV.mono (ψ := []) im y v fp2 (keepF nf2) ry
        rw [List.append_nil] at r1 r2
        refine ⟨ψ', m3, done ++ [y], acc ++ [v], fp ++ fp2, p1', Wk.apart i ds' _ m3 H' L _ S1 hMf (.inr ⟨_, hA⟩), ok1, upd_same, RVs.snoc r1 r2, ?_, fun a ha => ?_, fun a e => hT a (by
          by_cases h : a = L
          · rw [h, upd_same] at e; cases e
          · rw [upd_ne h] at e; exact e), by simpa using hle, hys⟩
        · rw [List.nodup_append]
          refine ⟨?_, by simp, fun x hx z hz => ?_⟩
          · rw [List.nodup_append]
            exact ⟨(nd_tail nA).1, ny, fun x hx z hz e => (fy z hz).2.1 (List.mem_append_left _ (e ▸ hx))⟩
          · obtain rfl : z = L := by simpa using hz
            rintro rfl
            exact (List.mem_append.mp hx).elim nf1 nf2
        · rcases List.mem_append.mp ha with ha | ha
          · rcases List.mem_append.mp ha with ha | ha
            · exact fA a (List.mem_append_left _ ha)
            · exact ⟨⟨(fy a ha).1, (fy a ha).2.2.1⟩, (fy a ha).2.2.2⟩
          · exact fA a (List.mem_append_right _ ha)
      refine ⟨fun i n H' => ∃ ds', n = ds'.length ∧ W i ds' H', ⟨ds.length, ds, rfl, ?_⟩, ?_⟩
      · -- the start
        have p0' : Post P w K φ H ψ m1 (upd H1 L (.lst [])) := ⟨p0.ext.trans (ext_new (φ := φ ++ ψ) hL) p0.new, p0.cells.new hL, wf_lst p0.wf (Nat.zero_le _), p0.new⟩
        exact ⟨ψ, m1, [], [], [], p0', Wk.apart 0 ds _ m1 H1 L _ S0 hMf (.inl hL), ok0, upd_same, ⟨rfl, rfl⟩, by simp, fun a ha => by
          obtain rfl : a = L := by simpa using ha
          exact ⟨⟨p0.cells.fresh hL, hL0⟩, hMf⟩, fun a e => hM a (by
            by_cases h : a = L
            · rw [h, upd_same] at e; cases e
            · rw [upd_ne h] at e; exact e), by simp, ys, q2, rfl⟩
      · rintro i n H' ⟨ds', rfl, ψ', m3, done, acc, fp, p1, S1, ok1, hA, rA, nA, fA, hT, hle, ys', hy1, hy2⟩
        cases ds' with
        | nil =>
          cases hy1
          refine .inl ⟨Wk.stop i _ _ _ S1 p1.cells p1.wf ok1, ?_⟩
          rw [List.append_nil] at hy2
          subst hy2
          exact k ψ' H' (.ref L) (fp ++ [L]) ⟨p1, ⟨L, acc, fp, rfl, hA, rfl, rA⟩, nA, fun a ha => (fA a ha).1⟩
        | cons d ds' =>
          obtain ⟨go, yl⟩ := Wk.item i d ds' _ _ _ S1 p1.cells p1.wf ok1
          refine .inr ⟨go, fun H2 => W (i + 1) ds' H2, fun H2 h2 => ⟨ds'.length, by simp, ds', rfl, h2⟩, fun x H2 hyx => ?_⟩
          obtain ⟨fx, p2, rv, nx, nn, next⟩ := yl x H2 hyx
          have R1 : Rel P w K (φ ++ ψ') (wipeD l vs) m3 (wipe σ vs) H' := (R.step p1).wipe vs
          have R2 : Rel P w K (φ ++ ψ') (wipeD l vs) m3 (wipe σ vs) H2 := by
            have := R1.step p2
            rw [List.append_nil] at this
            exact this
          have p12 : Post P w K φ H ψ' m3 H2 := by
            have := p1.trans p2
            rw [List.append_nil] at this
            exact this
          have hA2 : H2 L = some (.lst acc) := p2.ext.keep L _ hA (fA L (by simp)).1.1
          have rA2 : RVs P w K (φ ++ ψ') H2 done acc fp := by
            have := rA.ext (ψ := []) p2.ext fun a ha => (fA a (List.mem_append_left _ ha)).1.1
            rw [List.append_nil] at this
            exact this
          have hy1 : (match g d (wipeD l vs) m3 with
            | some (l1, m1) => (match c l1 m1 with
              | some (true, m2) => (match f l1 m2 with
                | some (y, m3) => guard (wt.ok m3) ((compS wt g c f vs l ds' m3).map fun r => (y :: r.1, r.2))
                | none => none)
              | some (false, m2) => guard (wt.ok m2) (compS wt g c f vs l ds' m2)
              | none => none)
            | none => none) = some (ys', m') := hy1
          cases q3 : g d (wipeD l vs) m3 with
          | none => rw [q3] at hy1; cases hy1
          | some pr =>
            obtain ⟨l1, m4⟩ := pr
            simp only [q3] at hy1
            refine hg (φ ++ ψ') (wipeD l vs) m3 (wipe σ vs) H2 x d fx l1 m4 _ R2 rv nx (fun a ha => (nn a ha).1) q3 fun σ3 R3 old same => ?_
            refine ⟨by rw [wipe_agree same.1 same.2 his, wipe_wipe], ?_⟩
            have S3 := next m4 old R3.cells
            have p3 : Post P w K φ H (ψ' ++ fx) m4 H2 := ⟨p12.ext, by rw [← List.append_assoc]; exact R3.cells, R3.wf, fun a ha => (List.mem_append.mp ha).elim (p12.new a) fun z => hN a (nn a z).2.1⟩
            have ok3 : wt.ok m4 := fun k c ew => by
              have z := ok1 k c ew
              have hk : k < m3.length := (List.getElem?_eq_some_iff.mp z).1
              rw [old k hk]; exact z
            have nLx : ∀ a ∈ fp ++ [L], a ∉ fx := fun a ha z => (nn a z).2.2 (fA a ha).2
            have fA3 : ∀ a ∈ fp ++ [L], a ∉ φ ++ ψ' ++ fx := fun a ha z => (List.mem_append.mp z).elim (fA a ha).1.1 (nLx a ha)
            have tr2 : ∀ a ∈ fp ++ [L], ∃ o, H2 a = some o := fun a ha => (List.mem_append.mp ha).elim (fun z => RVs.tracked _ _ _ rA2 a z) fun z => by
              obtain rfl : a = L := by simpa using z
              exact ⟨_, hA2⟩
            have hT2 : ∀ a, H2 a = none → Mf a := fun a e => hT a (p2.ext.free e)
            cases q4 : c l1 m4 with
            | none => simp only [q4] at hy1; cases hy1
            | some pr4 =>
              obtain ⟨bo, m5⟩ := pr4
              refine hc _ l1 m4 σ3 H2 bo m5 _ R3 q4 fun ψ5 H5 p5 => ?_
              have R5 := R3.step p5
              have p5' : Post P w K (φ ++ (ψ' ++ fx)) H2 ψ5 m5 H5 := by rw [← List.append_assoc]; exact p5
              have p35 := p3.trans p5'
              -- what is held over a step p from H2 to H'
              have over : ∀ {ψx mx Hx}, Post P w K (φ ++ ψ' ++ fx) H2 ψx mx Hx → Hx L = some (.lst acc) ∧ RVs P w K (φ ++ (ψ' ++ fx ++ ψx)) Hx done acc fp ∧ (∀ a ∈ fp ++ [L], (a ∉ φ ++ (ψ' ++ fx ++ ψx) ∧ H a = none) ∧ Mf a) := fun {ψx mx Hx} px => by
                refine ⟨px.ext.keep L _ hA2 (fA3 L (by simp)), ?_, fun a ha => ⟨⟨fun z => ?_, (fA a ha).1.2⟩, (fA a ha).2⟩⟩
                · have := (rA2.wk (ψ := fx)).ext (ψ := ψx) px.ext fun a ha => fA3 a (List.mem_append_left _ ha)
                  simp only [List.append_assoc] at this ⊢
                  exact this
                · rw [← List.append_assoc, ← List.append_assoc] at z
                  rcases List.mem_append.mp z with z | z
                  · exact fA3 a ha z
                  · obtain ⟨o, eo⟩ := tr2 a ha
                    rw [px.new a z] at eo; cases eo
              cases bo with
              | false =>
                simp only [q4] at hy1
                obtain ⟨ok5, hy3⟩ := guard_some hy1
                rw [if_neg Bool.false_ne_true]
                have S5 := Wk.step _ _ _ ψ5 _ m5 _ H5 S3 p5 ok3 ok5
                obtain ⟨o1, o2, o3⟩ := over p5
                exact ⟨ψ' ++ fx ++ ψ5, m5, done, acc, fp, p35, by simp only [List.append_assoc] at S5 ⊢; exact S5, ok5, o1, o2, nA, o3, fun a e => hT2 a (p5.ext.free e), by simp at hle ⊢; omega, ys', hy3, hy2⟩
              | true =>
                simp only [q4] at hy1
                rw [if_pos rfl]
                cases q6 : f l1 m5 with
                | none => simp only [q6] at hy1; cases hy1
                | some pr6 =>
                  obtain ⟨y, m6⟩ := pr6
                  simp only [q6] at hy1
                  obtain ⟨ok6, hy3⟩ := guard_some hy1
                  obtain ⟨rest, hy4, hy5⟩ := Option.map_eq_some_iff.mp hy3
                  obtain ⟨ys2, m2e⟩ := rest
                  cases hy5
                  refine hf _ l1 m5 σ3 H5 y m6 _ R5 q6 fun ψ6 H6 v6 fp6 p6 => ?_
                  have p56 := p5.trans p6.toPost
                  have p56' : Post P w K (φ ++ (ψ' ++ fx)) H2 (ψ5 ++ ψ6) m6 H6 := by rw [← List.append_assoc]; exact p56
                  obtain ⟨o1, o2, o3⟩ := over p56
                  have S6 := Wk.step _ _ _ (ψ5 ++ ψ6) _ m6 _ H6 S3 p56 ok3 ok6
                  have rv6 := p6.rv
                  refine ⟨acc, o1, ?_, write (p3.trans p56') (by simp only [List.append_assoc] at S6 ⊢; exact S6) ok6 o1 o2 nA o3 (fun a e => hT2 a (p56.ext.free e)) (by simp only [List.append_assoc] at rv6 ⊢; exact rv6) p6.nd (fun a ha => ?_) (by simp at hle ⊢; omega) ⟨ys2, hy4, by rw [List.append_assoc]; exact hy2⟩⟩
                  · have z1 := o2.length
                    have z2 : ds.length ≤ sizeLine := hlen
                    simp at hle; omega
                  · have z := p6.fr a ha
                    refine ⟨by simp only [List.append_assoc] at z ⊢; exact z.1, fun hz => ?_, p35.ext.free z.2, hT2 a (p5.ext.free z.2)⟩
                    obtain ⟨o, eo⟩ := tr2 a hz
                    obtain ⟨o', eo'⟩ := p5.ext.there a o eo
                    rw [z.2] at eo'; cases eo'
end
end M3
set_option Elab.async false
set_option linter.all false
set_option autoImplicit false
set_option maxRecDepth 100000
set_option maxHeartbeats 1000000
/-! The D layer, F: defs and their calls. -/
namespace M3
open PySem PySem.Spec PyProof.Rows L2

abbrev FN := List D → Mem → Option (D × Mem)
noncomputable def finF (m m' : Mem) (d : D) : Option (D × Mem) := match exp m' m.length d with
  | some d' => guard (ExitOk m.length m m') (some (d', m'.take m.length))
  | none => none
def startD (n : Nat) (args : List D) : Loc := args.map some ++ List.replicate (n - args.length) none
noncomputable def runF (n : Nat) (b : SF) : FN := fun args m => match b (startD n args) m with
  | some (.nx _ m') => finF m m' .non
  | some (.rt d m') => finF m m' d
  | _ => none
section
variable (P : Program) (w : World) (K : PySem.W.Frag)
def spD (np : Nat) (F : FN) : Sp := fun vs H Q _ => ∃ φ m ds d m', ds.length = np ∧ RVs P w K φ H ds vs [] ∧ Cells P w K φ H m ∧ Wf H ∧ F ds m = some (d, m') ∧
  ∀ H' v fp, Ext K φ H H' → Cells P w K φ H' m' → Wf H' → RV P w K φ H' d v fp → fp.Nodup → (∀ a ∈ fp, a ∉ φ ∧ H a = none) → Q v H'
end
section
variable {P : Program} {w : World} {K : PySem.W.Frag} {φ ψ ψ2 : List Addr} {H H1 H2 : Hp} {l : Loc} {m m1 m2 : Mem} {σ : L2.St}
theorem ExitOk.refl (n : Nat) (m q : Mem) (h : n ≤ m.length) : ExitOk n m (m ++ q) := fun i c hi e => .inl (by rw [List.getElem?_append_left (by omega)] at e; exact e)
theorem RVs.get : ∀ {ds : List D} {vs : List V} {i : Nat} {d : D}, RVs P w K φ H ds vs [] → ds[i]? = some d → ∃ v, vs[i]? = some v ∧ RV P w K φ H d v []
  | [], vs, i, d, h, e => by simp at e
  | x :: ds, vs, 0, d, h, e => by
    obtain ⟨v, vs', f, g, rfl, e2, h1, h2⟩ := h
    obtain ⟨rfl, rfl⟩ := List.append_eq_nil_iff.mp e2.symm
    cases e
    exact ⟨v, rfl, h1⟩
  | x :: ds, vs, i + 1, d, h, e => by
    obtain ⟨v, vs', f, g, rfl, e2, h1, h2⟩ := h
    obtain ⟨rfl, rfl⟩ := List.append_eq_nil_iff.mp e2.symm
    exact RVs.get (i := i) h2 e
theorem start_rel {N : List Str} {ds : List D} {vs : List V} (r : RVs P w K φ H ds vs []) (C : Cells P w K φ H m) (W : Wf H) : Rel P w K φ (startD N.length ds) m (L2.start N vs) H where
  len := by simp [L2.start, startD, r.length]
  loc := fun i d e => by
    unfold startD at e
    have hi : i < ds.length := by
      rcases Nat.lt_or_ge i ds.length with h | h
      · exact h
      · rw [List.getElem?_append_right (by simpa using h)] at e
        rw [List.getElem?_replicate] at e
        split at e <;> simp at e
    rw [List.getElem?_append_left (by simpa using hi)] at e
    rw [List.getElem?_map] at e
    obtain ⟨d', e1, e2⟩ := Option.map_eq_some_iff.mp e
    cases e2
    obtain ⟨v, ev, rv⟩ := RVs.get r e1
    refine ⟨v, ?_, rv⟩
    unfold L2.start
    rw [List.getElem?_append_left (by
      have := (List.getElem?_eq_some_iff.mp ev).1
      simpa using this), List.getElem?_map, ev]
    rfl
  cells := C
  wf := W
theorem fin_ok {m m' : Mem} {d d' : D} {mr : Mem} {H H' : Hp} {v : V} {fp : List Addr} (C : Cells P w K φ H m) (p : PostV P w K φ H ψ m' H' d v fp) (e : finF m m' d = some (d', mr)) :
    ∃ fp', Cells P w K φ H' mr ∧ RV P w K φ H' d' v fp' ∧ fp'.Nodup ∧ ∀ a ∈ fp', a ∉ φ ∧ H a = none := by
  unfold finF at e
  cases q : exp m' m.length d with
  | none => rw [q] at e; cases e
  | some d2 =>
    rw [q] at e
    obtain ⟨ok, e⟩ := guard_some e
    cases e
    rw [← C.len] at q
    obtain ⟨fp', r, nd, fr⟩ := exp_ok p.cells p.rv q p.nd fun a ha => (p.fr a ha).1
    exact ⟨fp', C.exit p.cells ok, r, nd, fun a ha => ⟨(fr a ha).1, (fr a ha).2.elim (fun z => (p.fr a z).2) fun z => p.new a z⟩⟩
theorem pure_def {N : List Str} {np : Nat} {t : TS} {b : SF} (hb : RS P w K t b) (vs : List V) (H : Hp) (Q : VK) (E : XK) (h : spD P w K np (runF N.length b) vs H Q E) : t { nx := fun _ H' => Q .non H', rt := Q } (L2.start N vs) H := by
  obtain ⟨φ, m, ds, d, mr, hl, r, C, W, e, k⟩ := h
  unfold runF at e
  cases q : b (startD N.length ds) m with
  | none => rw [q] at e; cases e
  | some fl =>
    rw [q] at e
    refine hb φ _ m _ H fl _ (start_rel r C W) q ?_
    cases fl with
    | nx l' m' =>
      intro ψ σ' H' p R'
      have pv : PostV P w K φ H ψ m' H' .non .non [] := ⟨p, ⟨rfl, rfl⟩, by simp, by simp⟩
      obtain ⟨fp', c, rv, nd, fr⟩ := fin_ok C pv e
      exact k H' .non fp' p.ext c p.wf rv nd fr
    | rt d0 m' =>
      intro ψ H' v fp p
      obtain ⟨fp', c, rv, nd, fr⟩ := fin_ok C p e
      exact k H' v fp' p.ext c p.wf rv nd fr
    | bk l' m' => cases e
    | ct l' m' => cases e
/-! ### calls -/
noncomputable def callH (F : FN) : GF := fun m ds => @ite _ (settleds ds = true) (instDecidableEqBool _ _) (F ds m)
  (match F (imps ds m).1 (imps ds m).2 with
    | some (d, m3) => (match exp m3 m.length d with
      | some d' => guard (m3.take m.length = m) (some (d', m))
      | none => none)
    | none => none)
noncomputable def callG (np : Nat) (F : FN) : GF := fun m ds => if ds.length = np then callH F m ds else none
theorem callG_settled {np : Nat} {F : FN} {m : Mem} {ds : List D} (hn : ds.length = np) (h : settleds ds = true) : callG np F m ds = F ds m := by
  unfold callG
  rw [if_pos hn]
  exact if_pos h
mutual
theorem settled_fp : ∀ (d : D) (v : V) (fp : List Addr), settled d = true → RV P w K φ H d v fp → fp = []
  | .non, v, fp, s, h => h.2
  | .bl b, v, fp, s, h => h.2
  | .int i, v, fp, s, h => h.2
  | .str x, v, fp, s, h => h.2
  | .fl ds, v, fp, s, h => by obtain ⟨_, _, _, _, _, e⟩ := h; exact e
  | .ref k, v, fp, s, h => by obtain ⟨_, _, _, e⟩ := h; exact e
  | .tup ds, v, fp, s, h => by obtain ⟨a, vs, _, _, r⟩ := h; exact settleds_fp ds vs fp s r
  | .ins _ ns ds, v, fp, s, h => by obtain ⟨a, dx, vs, _, _, _, _, r⟩ := h; exact settleds_fp ds vs fp s r
  | .lst ds, v, fp, s, h => by cases s
  | .dic _ ds, v, fp, s, h => by cases s
  | .fdic _ ds, v, fp, s, h => by cases s
  | .dit _ ds, v, fp, s, h => by cases s
  | .fdit _ ds, v, fp, s, h => by cases s
  | .box _ _ ds, v, fp, s, h => by cases s
theorem settleds_fp : ∀ (ds : List D) (vs : List V) (fp : List Addr), settleds ds = true → RVs P w K φ H ds vs fp → fp = []
  | [], vs, fp, s, h => h.2
  | d :: ds, vs, fp, s, h => by
    obtain ⟨v, vs', f, g, e1, e2, h1, h2⟩ := h
    obtain ⟨s1, s2⟩ := Bool.and_eq_true_iff.mp (show (settled d && settleds ds) = true from s)
    rw [e2, settled_fp d v f s1 h1, settleds_fp ds vs' g s2 h2]
    rfl
end
theorem imps_length : ∀ (ds : List D) (m : Mem), (imps ds m).1.length = ds.length
  | [], m => rfl
  | d :: ds, m => by show (imps ds (imp d m).2).1.length + 1 = _; rw [imps_length ds]; rfl
theorem rw_call {np : Nat} {F : FN} {E : XK} : RW P w K (fun vs H Q => spD P w K np F (vs ++ []) H Q E) (callG np F) := fun φ m H ds vs fp d m' Q C W r nd n e0 k => by
  show spD P w K np F (vs ++ []) H Q E
  rw [List.append_nil]
  have e1 : (if ds.length = np then callH F m ds else none) = some (d, m') := e0
  by_cases hnp : ds.length = np
  case neg => rw [if_neg hnp] at e1; cases e1
  rw [if_pos hnp] at e1
  have e : callH F m ds = some (d, m') := e1
  by_cases hs : settleds ds = true
  · have e : F ds m = some (d, m') := by
      have e2 := e
      unfold callH at e2
      rw [if_pos hs] at e2
      exact e2
    obtain rfl := settleds_fp ds vs fp hs r
    refine ⟨φ, m, ds, d, m', hnp, r, C, W, e, fun H' v fp' x c w' rv nd' fr => k [] H' v fp' ⟨by rw [List.append_nil]; exact x, by rw [List.append_nil]; exact c, w', by simp, by rw [List.append_nil]; exact rv, nd', fun a ha => by rw [List.append_nil]; exact ⟨(fr a ha).1, .inr (fr a ha).2⟩⟩⟩
  · have e : (match F (imps ds m).1 (imps ds m).2 with
      | some (d, m3) => (match exp m3 m.length d with
        | some d' => guard (m3.take m.length = m) (some (d', m))
        | none => none)
      | none => none) = some (d, m') := by
      have e2 := e
      unfold callH at e2
      rw [if_neg hs] at e2
      exact e2
    obtain ⟨q1, q2⟩ := imps_ok ds m vs φ fp r C nd n
    cases q : F (imps ds m).1 (imps ds m).2 with
    | none => rw [q] at e; cases e
    | some pr =>
      obtain ⟨d0, m3⟩ := pr
      simp only [q] at e
      cases q3 : exp m3 m.length d0 with
      | none => simp only [q3] at e; cases e
      | some d1 =>
        simp only [q3] at e
        obtain ⟨tk, e⟩ := guard_some e
        cases e
        refine ⟨φ ++ fp, (imps ds m).2, (imps ds m).1, d0, m3, by rw [imps_length]; exact hnp, q1, q2, W, q, fun H' v fp' x c w' rv nd' fr => ?_⟩
        rw [← C.len] at q3
        obtain ⟨fp2, r2, nd2, fr2⟩ := exp_ok c rv q3 nd' fun a ha => (fr a ha).1
        have cx : Cells P w K φ H' m := by
          have := C.exit c (fun i c' hi ec => .inl ?_)
          · rw [tk] at this; exact this
          · have z : (m3.take m.length)[i]? = some c' := by rw [List.getElem?_take, if_pos hi]; exact ec
            rw [tk] at z; exact z
        exact k [] H' v fp2 ⟨x, by rw [List.append_nil]; exact cx, w', by simp, by rw [List.append_nil]; exact r2, nd2, fun a ha => by
          rw [List.append_nil]
          exact ⟨(fr2 a ha).1, (fr2 a ha).2.elim (fun z => .inr (fr a z).2) .inl⟩⟩
end
/-- THE RULE for a def -/
theorem okD {P : Program} {w : World} {K : PySem.W.Frag} {mg : Str → Option Value} {base : Heap} {x qual : Str} {params : Arguments} {body : List Stmt} {scope : Scope} {f : Addr} {fd : FuncData} {N ps : List Str} {k : Nat} {b : SF}
    (F : FunD K x qual params body scope [] [] f fd) (S : FnScope N ps scope)
    (hb : ∀ (cdv : Value) (A : Around) (outer : List Env) (s : Shared) (H : Hp) (E : XK), Room k (A.deeper (envOfC qual scope s.heap.objs.size f cdv)) → DB (cxOf CX0 P w K mg base N qual scope f cdv A outer s H E).nox body b) :
    FnOk P w K mg base CX0 (k + 1) f fd ps (spD P w K ps.length (runF N.length b)) := by
  refine F.ok S (fun vs H Q E h => ?_) (fun cdv A outer s H vs Q E hr h => ?_)
  · obtain ⟨φ, m, ds, d, mr, hl, r, _⟩ := h
    rw [r.length, hl]
  · obtain ⟨t, ht, hs⟩ := (hb cdv A outer s H E hr).ex
    exact ⟨t, ht.nox, pure_def hs vs H Q E h⟩
section
variable {X : Cx} {k : Nat} {f : Addr} {fd : FuncData} {ps : List Str} {x : Str} {p pos : Pos} {e : Expr} {es : List Expr} {a : AF} {Fn : FN}
theorem de_call (F : FnOk X.prog X.w X.K X.mg X.base CX0 k f fd ps (spD X.prog X.w X.K ps.length Fn)) (hr : Room k X.A) (hg : Gl X x) (hm : X.mg x = some (.ref f)) (hk : PySem.W.keepIn X.K (.ref f) = true) (hb : Binds X.K fd ps [])
    (ha : DA X (e :: es) a) (hdb : (x == ("__debug__" : Str)) = false := by decide) (he : starEach (e :: es) X.env = (false, eval e X.env) :: starEach es X.env := by rfl) (hpl : (backTo pos (starEach es X.env)).any (·.1) = false := by rfl) :
    DE X (.Call (.Name x p) (e :: es) [] pos) (fAp (callG ps.length Fn) a) := by
  obtain ⟨t, ht, hs⟩ := ha.ex
  exact ⟨_, pe_call F hr hg hm hk hb .nil pass0 ht hdb he hpl, re_ap hs rw_call⟩
theorem de_call0 (F : FnOk X.prog X.w X.K X.mg X.base CX0 k f fd [] (spD X.prog X.w X.K 0 Fn)) (hr : Room k X.A) (hg : Gl X x) (hm : X.mg x = some (.ref f)) (hk : PySem.W.keepIn X.K (.ref f) = true) (hb : Binds X.K fd [] [])
    (hdb : (x == ("__debug__" : Str)) = false := by decide) : DE X (.Call (.Name x p) [] [] pos) (fAp (callG 0 Fn) aNil) :=
  ⟨_, pe_call0 F hr hg hm hk hb .nil pass0 hdb, re_ap ra_nil rw_call⟩
end
end M3
set_option Elab.async false
set_option linter.all false
set_option autoImplicit false
set_option maxRecDepth 100000
set_option maxHeartbeats 1000000
/-! The D layer, V: operators, built-ins, methods by values. -/
namespace M3
open PySem PySem.Spec PyProof.Rows L2

section
variable {P : Program} {w : World} {K : PySem.W.Frag} {φ ψ ψ2 : List Addr} {H H1 H2 : Hp} {l : Loc} {m m1 m2 : Mem} {σ : L2.St}
/-! ### what a list, a tuple holds -/
/-- a list that may be written or not -/
def wl (m : Mem) : D → Option (List D)
  | .lst xs => some xs
  | .ref k => (match m[k]? with
    | some (.lst xs) => some xs
    | _ => none)
  | _ => none
def rl (m : Mem) : D → Option (List D)
  | .fl xs => some xs
  | d => wl m d
def sq (m : Mem) : D → Option (List D)
  | .tup xs => some xs
  | d => rl m d
theorem wl_ok {d : D} {v : V} {fp : List Addr} {xs : List D} (C : Cells P w K φ H m) (r : RV P w K φ H d v fp) (e : wl m d = some xs) :
    ∃ a vs fp', v = .ref a ∧ H a = some (.lst vs) ∧ RVs P w K φ H xs vs fp' ∧ fp'.Sublist fp := by
  cases d with
  | lst ds =>
    cases e
    obtain ⟨a, vs, f, e1, h, rfl, rr⟩ := r
    exact ⟨a, vs, f, e1, h, rr, List.sublist_append_left _ _⟩
  | ref k =>
    obtain ⟨a, e1, h, rfl⟩ := r
    have e : (match m[k]? with | some (.lst xs) => some xs | _ => none) = some xs := e
    split at e
    · rename_i ys hk
      cases e
      obtain ⟨b, vs, f, e2, h2, e3, rr⟩ := C.at_ k a _ h hk
      cases e2
      have : f = [] := by
        cases f with
        | nil => rfl
        | cons x f => simp at e3
      subst this
      exact ⟨a, vs, [], e1, h2, rr, .slnil⟩
    · cases e
  | _ => cases e
theorem rl_ok {d : D} {v : V} {fp : List Addr} {xs : List D} (C : Cells P w K φ H m) (r : RV P w K φ H d v fp) (e : rl m d = some xs) :
    ∃ a vs fp', v = .ref a ∧ SqL K H a vs ∧ RVs P w K φ H xs vs fp' ∧ fp'.Sublist fp := by
  cases d with
  | fl ds =>
    cases e
    obtain ⟨a, vs, e1, h, rr, rfl⟩ := r
    exact ⟨a, vs, [], e1, h.sq, rr, .slnil⟩
  | lst ds =>
    obtain ⟨a, vs, f, e1, h, rr, s⟩ := wl_ok C r e
    exact ⟨a, vs, f, e1, SqL.of h, rr, s⟩
  | ref k =>
    obtain ⟨a, vs, f, e1, h, rr, s⟩ := wl_ok C r e
    exact ⟨a, vs, f, e1, SqL.of h, rr, s⟩
  | _ => cases e
theorem sq_ok {d : D} {v : V} {fp : List Addr} {xs : List D} (C : Cells P w K φ H m) (r : RV P w K φ H d v fp) (e : sq m d = some xs) :
    ∃ a vs fp', v = .ref a ∧ (SqL K H a vs ∨ SqT K H a vs) ∧ RVs P w K φ H xs vs fp' ∧ fp'.Sublist fp := by
  cases d with
  | tup ds =>
    cases e
    obtain ⟨a, vs, e1, h, rr⟩ := r
    exact ⟨a, vs, fp, e1, .inr h.sq, rr, List.Sublist.refl _⟩
  | fl ds =>
    obtain ⟨a, vs, f, e1, h, rr, s⟩ := rl_ok C r e
    exact ⟨a, vs, f, e1, .inl h, rr, s⟩
  | lst ds =>
    obtain ⟨a, vs, f, e1, h, rr, s⟩ := rl_ok C r e
    exact ⟨a, vs, f, e1, .inl h, rr, s⟩
  | ref k =>
    obtain ⟨a, vs, f, e1, h, rr, s⟩ := rl_ok C r e
    exact ⟨a, vs, f, e1, .inl h, rr, s⟩
  | _ => cases e
theorem rl_len {d : D} {v : V} {fp : List Addr} {xs : List D} (C : Cells P w K φ H m) (W : Wf H) (r : RV P w K φ H d v fp) (e : rl m d = some xs) : xs.length ≤ sizeLine := by
  cases d with
  | fl ds =>
    cases e
    obtain ⟨a, vs, e1, h, rr, rfl⟩ := r
    rw [← rr.length]
    rcases h with ⟨o, h, hl⟩ | ⟨o, its, n, _, _, _, _, hz, r2⟩
    · exact hl
    · have := r2.length
      simp at this; omega
  | lst ds =>
    obtain ⟨a, vs, f, e1, h, rr, s⟩ := wl_ok C r e
    rw [← rr.length]; exact W.lst a vs h
  | ref k =>
    obtain ⟨a, vs, f, e1, h, rr, s⟩ := wl_ok C r e
    rw [← rr.length]; exact W.lst a vs h
  | _ => cases e
theorem RVs.append {ds es : List D} {vs us : List V} {f g : List Addr} (h : RVs P w K φ H ds vs f) (h2 : RVs P w K φ H es us g) : RVs P w K φ H (ds ++ es) (vs ++ us) (f ++ g) := by
  induction ds generalizing vs f with
  | nil => obtain ⟨rfl, rfl⟩ := h; exact h2
  | cons d ds ih =>
    obtain ⟨v, vs', f1, f2, rfl, rfl, r1, r2⟩ := h
    exact ⟨v, vs' ++ us, f1, f2 ++ g, rfl, by simp, r1, ih r2⟩
theorem RVs.at_ : ∀ {ds : List D} {vs : List V} {fp : List Addr} {i : Nat} {d : D}, RVs P w K φ H ds vs fp → ds[i]? = some d → ∃ v f, vs[i]? = some v ∧ RV P w K φ H d v f ∧ f.Sublist fp
  | [], vs, fp, i, d, h, e => by simp at e
  | x :: ds, vs, fp, 0, d, h, e => by
    obtain ⟨v, vs', f, g, rfl, rfl, h1, h2⟩ := h
    cases e
    exact ⟨v, f, rfl, h1, List.sublist_append_left _ _⟩
  | x :: ds, vs, fp, i + 1, d, h, e => by
    obtain ⟨v, vs', f, g, rfl, rfl, h1, h2⟩ := h
    obtain ⟨u, f2, e2, r, s⟩ := RVs.at_ (i := i) h2 e
    exact ⟨u, f2, e2, r, s.trans (List.sublist_append_right _ _)⟩
theorem RVs.take : ∀ {ds : List D} {vs : List V} {fp : List Addr} (n : Nat), RVs P w K φ H ds vs fp → ∃ f, RVs P w K φ H (ds.take n) (vs.take n) f ∧ f.Sublist fp
  | _, _, fp, 0, h => ⟨[], ⟨rfl, rfl⟩, List.nil_sublist _⟩
  | [], vs, fp, n + 1, h => by obtain ⟨rfl, rfl⟩ := h; exact ⟨[], ⟨rfl, rfl⟩, .slnil⟩
  | d :: ds, vs, fp, n + 1, h => by
    obtain ⟨v, vs', f, g, rfl, rfl, h1, h2⟩ := h
    obtain ⟨f2, r, s⟩ := RVs.take n h2
    exact ⟨f ++ f2, ⟨v, vs'.take n, f, f2, rfl, rfl, h1, r⟩, s.append_left _⟩
theorem RVs.drop : ∀ {ds : List D} {vs : List V} {fp : List Addr} (n : Nat), RVs P w K φ H ds vs fp → ∃ f, RVs P w K φ H (ds.drop n) (vs.drop n) f ∧ f.Sublist fp
  | _, _, fp, 0, h => ⟨fp, h, List.Sublist.refl _⟩
  | [], vs, fp, n + 1, h => by obtain ⟨rfl, rfl⟩ := h; exact ⟨[], ⟨rfl, rfl⟩, .slnil⟩
  | d :: ds, vs, fp, n + 1, h => by
    obtain ⟨v, vs', f, g, rfl, rfl, h1, h2⟩ := h
    obtain ⟨f2, r, s⟩ := RVs.drop n h2
    exact ⟨f2, r, s.trans (List.sublist_append_right _ _)⟩
/-- one, two arguments taken apart -/
theorem RVs.one {d : D} {vs : List V} {fp : List Addr} (h : RVs P w K φ H [d] vs fp) : ∃ v, vs = [v] ∧ RV P w K φ H d v fp := by
  obtain ⟨v, vs', f, g, rfl, rfl, h1, rfl, rfl⟩ := h
  exact ⟨v, rfl, by rw [List.append_nil]; exact h1⟩
theorem RVs.two {d e : D} {vs : List V} {fp : List Addr} (h : RVs P w K φ H [d, e] vs fp) : ∃ u v f g, vs = [u, v] ∧ fp = f ++ g ∧ RV P w K φ H d u f ∧ RV P w K φ H e v g := by
  obtain ⟨v, vs', f, g, rfl, rfl, h1, h2⟩ := h
  obtain ⟨v2, rfl, h3⟩ := RVs.one h2
  exact ⟨v, v2, f, g, rfl, rfl, h1, h3⟩
theorem sub_nd {f g : List Addr} (h : f.Sublist g) (n : g.Nodup) : f.Nodup := List.Nodup.sublist h n
/-! ### operators on numbers -/
def gI (C : Int → Int → Prop) [∀ i j, Decidable (C i j)] (g : Int → Int → D) : GF := fun m ds => match ds with
  | [.int i, .int j] => if C i j then some (g i j, m) else none
  | _ => none
theorem rw_int {C C' : Int → Int → Prop} [∀ i j, Decidable (C i j)] {g : Int → Int → D} {g' : Int → Int → V} (hc : ∀ i j, C i j → C' i j) (hg : ∀ i j φ H, RV P w K φ H (g i j) (g' i j) []) : RW P w K (opW (rI C' g')) (gI C g) := fun φ m H ds vs fp d m' Q Ce W r nd n e k => by
  unfold gI at e
  split at e
  · rename_i i j
    split at e
    · rename_i c
      cases e
      obtain ⟨u, v, f, f2, rfl, rfl, ⟨rfl, rfl⟩, ⟨rfl, rfl⟩⟩ := r.two
      exact ⟨i, j, rfl, rfl, hc i j c, k _ _ _ _ (postW_flat Ce W (hg i j φ H))⟩
    · cases e
  · cases e
theorem rI0_I {g : Int → Int → V} {x y : V} {H : Hp} {Q : VK} (h : rI (fun _ _ => True) g x y H Q) : rI0 g x y H Q := by
  obtain ⟨i, j, a, b, _, q⟩ := h
  exact ⟨i, j, a, b, q⟩
theorem RW.imp {r r' : List V → Hp → VK → Prop} {g : GF} (h : RW P w K r g) (hi : ∀ vs H Q, r vs H Q → r' vs H Q) : RW P w K r' g := fun φ m H ds vs fp d m' Q C W rr nd n e k => hi _ _ _ (h φ m H ds vs fp d m' Q C W rr nd n e k)
theorem opW_imp {r r' : R2} {vs : List V} {H : Hp} {Q : VK} (h : ∀ x y, r x y H Q → r' x y H Q) (q : opW r vs H Q) : opW r' vs H Q := by
  unfold opW at q ⊢
  split <;> simp_all
theorem unW_imp {r r' : V → Hp → VK → Prop} {vs : List V} {H : Hp} {Q : VK} (h : ∀ x, r x H Q → r' x H Q) (q : unW r vs H Q) : unW r' vs H Q := by
  unfold unW at q ⊢
  split <;> simp_all
theorem rw_int0 {g : Int → Int → D} {g' : Int → Int → V} (hg : ∀ i j φ H, RV P w K φ H (g i j) (g' i j) []) : RW P w K (opW (rI0 g')) (gI (fun _ _ => True) g) :=
  (rw_int (C' := fun _ _ => True) (fun _ _ h => h) hg).imp fun _ _ _ h => opW_imp (fun _ _ => rI0_I) h
def orG (g1 g2 : GF) : GF := fun m ds => match g1 m ds with
  | some r => some r
  | none => g2 m ds
/-- the union of two readings, where the one or the other serves -/
theorem RW.or {r1 r2 : R2} {g1 g2 : GF} (h1 : RW P w K (opW r1) g1) (h2 : RW P w K (opW r2) g2) : RW P w K (opW fun x y H Q => r1 x y H Q ∨ r2 x y H Q) (orG g1 g2) := fun φ m H ds vs fp d m' Q C W rr nd n e k => by
  unfold orG at e
  split at e
  · rename_i r hr
    cases e
    exact opW_imp (fun _ _ => .inl) (h1 φ m H ds vs fp d m' Q C W rr nd n hr k)
  · exact opW_imp (fun _ _ => .inr) (h2 φ m H ds vs fp d m' Q C W rr nd n e k)
/-! ### + -/
def gAddS : GF := fun m ds => match ds with
  | [.str a, .str b] => if a.length + b.length ≤ 16777216 then some (.str (a ++ b), m) else none
  | _ => none
def gAddT : GF := fun m ds => match ds with
  | [.tup a, .tup b] => if a.length + b.length ≤ 16777216 then some (.tup (a ++ b), m) else none
  | _ => none
def gAddL : GF := fun m ds => match ds with
  | [x, y] => (match wl m x, wl m y with
    | some a, some b => if a.length + b.length ≤ 16777216 then some (.lst (a ++ b), m) else none
    | _, _ => none)
  | _ => none
theorem line_le {n : Nat} (h : n ≤ 16777216) : n ≤ sizeLine := by rw [sizeLine_eq]; exact h
theorem rw_addS : RW P w K (opW fun x y H Q => ∃ i j, x = .str i ∧ y = .str j ∧ i.length + j.length ≤ sizeLine ∧ Q (.str (i ++ j)) H) gAddS := fun φ m H ds vs fp d m' Q C W r nd n e k => by
  unfold gAddS at e
  split at e
  · split at e
    · rename_i hl
      cases e
      obtain ⟨u, v, f, g, rfl, rfl, ⟨rfl, rfl⟩, ⟨rfl, rfl⟩⟩ := r.two
      exact ⟨_, _, rfl, rfl, line_le hl, k _ _ _ _ (postW_flat C W ⟨rfl, rfl⟩)⟩
    · cases e
  · cases e
theorem rw_addT : RW P w K (opW (rCatA K)) gAddT := fun φ m H ds vs fp d m' Q C W r nd n e k => by
  unfold gAddT at e
  split at e
  · rename_i xs ys
    split at e
    · rename_i hl
      cases e
      obtain ⟨u, v, f, g, rfl, rfl, ⟨a, us, rfl, ha, ra⟩, ⟨b, ws, rfl, hb, rb⟩⟩ := r.two
      have la := ra.length
      have lb := rb.length
      refine ⟨a, b, us, ws, rfl, rfl, ha.sq, hb.sq, line_le (by omega), fun e0 => ?_, fun _ e0 => ?_, fun _ _ p hp => ?_⟩
      · have hx : xs = [] := by
          cases xs with
          | nil => rfl
          | cons x xs => rw [e0] at la; simp at la
        subst hx
        obtain ⟨_, rfl⟩ := ra
        exact k _ _ _ _ (postW_same C W ⟨b, ws, rfl, hb, rb⟩ (nd_tail nd).2.1 fun a ha => ⟨n a (List.mem_append_right _ ha), List.mem_append_right _ ha⟩)
      · have hy : ys = [] := by
          cases ys with
          | nil => rfl
          | cons x xs => rw [e0] at lb; simp at lb
        subst hy
        obtain ⟨_, rfl⟩ := rb
        rw [List.append_nil] at *
        exact k _ _ _ _ (postW_same C W ⟨a, us, rfl, ha, by rw [List.append_nil]; exact ra⟩ nd fun a ha => ⟨n a ha, by simpa using ha⟩)
      · exact k _ _ _ _ (postW_tup C W (ra.append rb) nd n (by rw [List.length_append]; exact line_le (by omega)) hp)
    · cases e
  · cases e
theorem sub_app {f' f g' g : List Addr} (h : f'.Sublist f) (h2 : g'.Sublist g) : (f' ++ g').Sublist (f ++ g) := h.append h2
/-- a fresh list of parts of the arguments -/
theorem postW_lst' {ds : List D} {vs : List V} {fp f : List Addr} {p : Addr} (C : Cells P w K φ H m) (W : Wf H) (r : RVs P w K φ H ds vs f) (s : f.Sublist fp) (nd : fp.Nodup) (n : ∀ a ∈ fp, a ∉ φ) (hl : vs.length ≤ sizeLine) (hp : H p = none) :
    PostW P w K φ H fp [] m (upd H p (.lst vs)) (.lst ds) (.ref p) (f ++ [p]) :=
  let q := postW_lst C W r (sub_nd s nd) (fun a ha => n a (s.subset ha)) hl hp
  ⟨ext_new hp, q.cells, q.wf, by simp, q.rv, q.nd, fun a ha => ⟨(q.fr a ha).1, (q.fr a ha).2.elim (fun z => .inl (s.subset z)) .inr⟩⟩
theorem postW_tup' {ds : List D} {vs : List V} {fp f : List Addr} {p : Addr} (C : Cells P w K φ H m) (W : Wf H) (r : RVs P w K φ H ds vs f) (s : f.Sublist fp) (nd : fp.Nodup) (n : ∀ a ∈ fp, a ∉ φ) (hl : vs.length ≤ sizeLine) (hp : H p = none) :
    PostW P w K φ H fp [] m (upd H p (.tup vs)) (.tup ds) (.ref p) f :=
  let q := postW_tup C W r (sub_nd s nd) (fun a ha => n a (s.subset ha)) hl hp
  ⟨ext_new hp, q.cells, q.wf, by simp, q.rv, q.nd, fun a ha => ⟨(q.fr a ha).1, (q.fr a ha).2.elim (fun z => .inl (s.subset z)) .inr⟩⟩
theorem rw_addL : RW P w K (opW rCat) gAddL := fun φ m H ds vs fp d m' Q C W r nd n e k => by
  unfold gAddL at e
  split at e
  · rename_i x y
    split at e
    · rename_i xs ys hx hy
      split at e
      · rename_i hl
        cases e
        obtain ⟨u, v, f, g, rfl, rfl, rx, ry⟩ := r.two
        obtain ⟨a, us, f', rfl, ha, ra, sa⟩ := wl_ok C rx hx
        obtain ⟨b, ws, g', rfl, hb, rb, sb⟩ := wl_ok C ry hy
        have la := ra.length
        have lb := rb.length
        exact ⟨a, b, us, ws, rfl, rfl, ha, hb, line_le (by omega), fun p hp => k _ _ _ _ (postW_lst' C W (ra.append rb) (sub_app sa sb) nd n (by rw [List.length_append]; exact line_le (by omega)) hp)⟩
      · cases e
    · cases e
  · cases e
def gAdd : GF := orG (gI (fun _ _ => True) fun i j => .int (i + j)) (orG gAddS (orG gAddT gAddL))
abbrev rAddA (K : PySem.W.Frag) : R2 := fun x y H Q => rI0 (fun i j => .int (i + j)) x y H Q ∨ (∃ i j, x = .str i ∧ y = .str j ∧ i.length + j.length ≤ sizeLine ∧ Q (.str (i ++ j)) H) ∨ rCatA K x y H Q ∨ rCat x y H Q
theorem rw_add : RW P w K (opW (rAddA K)) gAdd := (rw_int0 (g := fun i j => .int (i + j)) (g' := fun i j => .int (i + j)) fun _ _ _ _ => ⟨rfl, rfl⟩).or (rw_addS.or (rw_addT.or rw_addL))
theorem op_addA {X : Cx} : OpR X (binaryOp .Add) (rAddA X.K) := op_add.or (op_add_str.or (op_catA.or op_cat))
theorem gAdd_int (m : Mem) (i j : Int) : gAdd m [.int i, .int j] = some (.int (i + j), m) := rfl
/-! ### - * // % ** << >> & | -/
def gSub : GF := gI (fun _ _ => True) fun i j => .int (i - j)
theorem rw_sub : RW P w K (opW (rI0 fun i j => .int (i - j))) gSub := rw_int0 fun _ _ _ _ => ⟨rfl, rfl⟩
/-- the factors are within what the machine multiplies -/
def mulOk (i j : Int) : Prop := i.natAbs < 2 ^ 400000 ∧ j.natAbs < 2 ^ 400000
noncomputable instance (i j : Int) : Decidable (mulOk i j) := Classical.propDecidable _
noncomputable def gMulI : GF := gI mulOk fun i j => .int (i * j)
theorem rw_mulI : RW P w K (opW (rI CMulW fun i j => .int (i * j))) gMulI := rw_int (fun i j h => wide_mul h.1 h.2 (by decide) (by decide) (by decide)) fun _ _ _ _ => ⟨rfl, rfl⟩
def gRepL : GF := fun m ds => match ds with
  | [x, .int j] => (match wl m x with
    | some xs => if -(2 ^ 63) ≤ j ∧ j < 2 ^ 63 ∧ xs.length * j.toNat ≤ 16777216 ∧ settleds xs = true then some (.lst (List.replicate j.toNat xs).flatten, m) else none
    | none => none)
  | _ => none
/-- the divisor is positive and within the line -/
def divOk (_ j : Int) : Prop := 0 < j ∧ j.natAbs < 2 ^ 9000
noncomputable instance (i j : Int) : Decidable (divOk i j) := Classical.propDecidable _
noncomputable def gFdiv : GF := gI divOk fun i j => .int (i / j)
theorem rw_fdiv : RW P w K (opW (rI CDivW fun i j => .int (i / j))) gFdiv := rw_int (fun i j h => wide_div h.1 h.2 (by decide) (by decide)) fun _ _ _ _ => ⟨rfl, rfl⟩
def gMod : GF := gI (fun _ j => 0 < j) fun i j => .int (i % j)
theorem rw_mod : RW P w K (opW (rI (fun _ j => 0 < j) fun i j => .int (i % j))) gMod := rw_int (fun i j h => h) fun _ _ _ _ => ⟨rfl, rfl⟩
def powOk (i j : Int) : Prop := 0 ≤ j ∧ j ≤ 1000 ∧ i.natAbs < 2 ^ 10000
noncomputable instance (i j : Int) : Decidable (powOk i j) := Classical.propDecidable _
noncomputable def gPow : GF := gI powOk fun i j => .int (i ^ j.toNat)
theorem op_powW {X : Cx} : OpR X (binaryOp .Pow) (rI powOk fun i j => .int (i ^ j.toNat)) := opI fun i j _ _ _ _ _ hc q => pow_int hc.1 (by
    have h1 : Builtin.Int.intBits i ≤ 10000 := by
      have := PySem.Flt.log2_lt_of (by decide) hc.2.2
      unfold Builtin.Int.intBits
      split <;> omega
    have h2 : (Builtin.Int.intBits i : Int) ≤ 10000 := by omega
    have h3 : (Builtin.Int.intBits i : Int) * j ≤ 10000 * 1000 := Int.mul_le_mul h2 hc.2.1 hc.1 (by decide)
    exact Int.le_trans h3 (by decide)) q
theorem rw_pow : RW P w K (opW (rI powOk fun i j => .int (i ^ j.toNat))) gPow := rw_int (fun i j h => h) fun _ _ _ _ => ⟨rfl, rfl⟩
def gShl : GF := gI (fun i j => 0 ≤ j ∧ j ≤ 1000 ∧ i.natAbs < 18446744073709551616) fun i j => .int (i * 2 ^ j.toNat)
theorem rw_shl : RW P w K (opW (rI CPow fun i j => .int (i * 2 ^ j.toNat))) gShl := rw_int (fun i j h => ⟨h.1, Int.le_trans h.2.1 (by decide), h.2.2⟩) fun _ _ _ _ => ⟨rfl, rfl⟩
def gShr : GF := gI (fun _ j => 0 ≤ j) fun i j => .int (i / 2 ^ j.toNat)
theorem rw_shr : RW P w K (opW (rI (fun _ j => 0 ≤ j) fun i j => .int (i / 2 ^ j.toNat))) gShr := rw_int (fun i j h => h) fun _ _ _ _ => ⟨rfl, rfl⟩
def gBand : GF := gI (fun _ _ => True) fun i j => .int (Builtin.bitAnd i j)
theorem rw_band : RW P w K (opW (rI0 fun i j => .int (Builtin.bitAnd i j))) gBand := rw_int0 fun _ _ _ _ => ⟨rfl, rfl⟩
def gBor : GF := gI (fun _ _ => True) fun i j => .int (Builtin.bitOr i j)
theorem rw_bor : RW P w K (opW (rI0 fun i j => .int (Builtin.bitOr i j))) gBor := rw_int0 fun _ _ _ _ => ⟨rfl, rfl⟩
def gNeg : GF := fun m ds => match ds with
  | [.int i] => some (.int (-i), m)
  | _ => none
theorem rw_neg : RW P w K (unW (rU fun i => .int (-i))) gNeg := fun φ m H ds vs fp d m' Q C W r nd n e k => by
  unfold gNeg at e
  split at e
  · cases e
    obtain ⟨v, rfl, rfl, rfl⟩ := r.one
    exact ⟨_, rfl, k _ _ _ _ (postW_flat C W ⟨rfl, rfl⟩)⟩
  · cases e
/-! ### == and != -/
def scD : D → D → Option Bool
  | .non, .non => some true | .non, .int _ => some false | .int _, .non => some false | .non, .bl _ => some false | .bl _, .non => some false | .non, .str _ => some false | .str _, .non => some false
  | .int i, .int j => some (decide (i = j)) | .bl i, .bl j => some (decide (i = j)) | .str i, .str j => some (decide (i = j))
  | .int _, .str _ => some false | .str _, .int _ => some false | .bl _, .str _ => some false | .str _, .bl _ => some false
  | _, _ => none
mutual
def toPy (g : Nat → Option PyData) : D → Option PyData
  | .non => some .none
  | .bl b => some (.bool b)
  | .int i => some (.int i)
  | .str x => some (.str x)
  | .tup ds => (toPys g ds).map .tuple
  | .lst ds => (toPys g ds).map .list
  | .fl ds => (toPys g ds).map .list
  | .ref k => g k
  | _ => none
def toPys (g : Nat → Option PyData) : List D → Option (List PyData)
  | [] => some []
  | d :: ds => match toPy g d, toPys g ds with
    | some x, some xs => some (x :: xs)
    | _, _ => none
end
def pyR (m : Mem) : Nat → Nat → Option PyData
  | 0, _ => none
  | f + 1, k => match m[k]? with
    | some (.lst ds) => toPy (pyR m f) (.lst ds)
    | _ => none
/-- the whole content of a value -/
def snap (m : Mem) (d : D) : Option PyData := toPy (pyR m m.length) d
def GPy (P : Program) (w : World) (K : PySem.W.Frag) (φ : List Addr) (H : Hp) (g : Nat → Option PyData) : Prop := ∀ (k : Nat) (a : Addr) (p : PyData), φ[k]? = some a → g k = some p → Dp K H (.ref a) p
mutual
theorem toPy_ok {g : Nat → Option PyData} (G : GPy P w K φ H g) : ∀ (d : D) (v : V) (fp : List Addr) (p : PyData), RV P w K φ H d v fp → toPy g d = some p → Dp K H v p
  | .non, v, fp, p, h, e => by cases e; obtain ⟨rfl, _⟩ := h; exact .non
  | .bl b, v, fp, p, h, e => by cases e; obtain ⟨rfl, _⟩ := h; exact .bl b
  | .int i, v, fp, p, h, e => by cases e; obtain ⟨rfl, _⟩ := h; exact .int i
  | .str x, v, fp, p, h, e => by cases e; obtain ⟨rfl, _⟩ := h; exact .str x
  | .tup ds, v, fp, p, h, e => by
    obtain ⟨ps, e1, rfl⟩ := Option.map_eq_some_iff.mp (show (toPys g ds).map PyData.tuple = some p from e)
    obtain ⟨a, vs, rfl, ht, r⟩ := h
    exact .tup ht.sq (toPys_ok G ds vs fp ps r e1)
  | .lst ds, v, fp, p, h, e => by
    obtain ⟨ps, e1, rfl⟩ := Option.map_eq_some_iff.mp (show (toPys g ds).map PyData.list = some p from e)
    obtain ⟨a, vs, f, rfl, ht, _, r⟩ := h
    exact .lst (SqL.of ht) (toPys_ok G ds vs f ps r e1)
  | .fl ds, v, fp, p, h, e => by
    obtain ⟨ps, e1, rfl⟩ := Option.map_eq_some_iff.mp (show (toPys g ds).map PyData.list = some p from e)
    obtain ⟨a, vs, rfl, ht, r, _⟩ := h
    exact .lst ht.sq (toPys_ok G ds vs [] ps r e1)
  | .ref k, v, fp, p, h, e => by obtain ⟨a, rfl, h1, _⟩ := h; exact G k a p h1 e
  | .dic _ _, _, _, _, _, e => by cases e
  | .fdic _ _, _, _, _, _, e => by cases e
  | .dit _ _, _, _, _, _, e => by cases e
  | .fdit _ _, _, _, _, _, e => by cases e
  | .ins _ _ _, _, _, _, _, e => by cases e
  | .box _ _ _, _, _, _, _, e => by cases e
theorem toPys_ok {g : Nat → Option PyData} (G : GPy P w K φ H g) : ∀ (ds : List D) (vs : List V) (fp : List Addr) (ps : List PyData), RVs P w K φ H ds vs fp → toPys g ds = some ps → DpAll K H vs ps
  | [], vs, fp, ps, h, e => by cases e; obtain ⟨rfl, _⟩ := h; exact .nil
  | d :: ds, vs, fp, ps, h, e => by
    obtain ⟨v, vs', f, f2, rfl, _, h1, h2⟩ := h
    have e : (match toPy g d, toPys g ds with | some x, some xs => some (x :: xs) | _, _ => none) = some ps := e
    cases q1 : toPy g d with
    | none => rw [q1] at e; cases e
    | some x =>
      cases q2 : toPys g ds with
      | none => rw [q1, q2] at e; cases e
      | some xs =>
        rw [q1, q2] at e
        cases e
        exact .cons (toPy_ok G d v f x h1 q1) (toPys_ok G ds vs' f2 xs h2 q2)
end
theorem pyR_ok (C : Cells P w K φ H m) : ∀ f : Nat, GPy P w K φ H (pyR m f)
  | 0 => fun k a p _ e => by cases e
  | f + 1 => fun k a p ha e => by
    have e : (match m[k]? with | some (.lst ds) => toPy (pyR m f) (.lst ds) | _ => none) = some p := e
    split at e
    · rename_i ds hk
      exact toPy_ok (pyR_ok C f) (.lst ds) (.ref a) [a] p (C.at_ k a _ ha hk) e
    · cases e
theorem snap_ok {d : D} {v : V} {fp : List Addr} {p : PyData} (C : Cells P w K φ H m) (r : RV P w K φ H d v fp) (e : snap m d = some p) : Dp K H v p := toPy_ok (pyR_ok C _) d v fp p r e
def gCmpS (neg : Bool) : GF := fun m ds => match ds with
  | [x, y] => (scD x y).map fun b => (.bl (if neg then !b else b), m)
  | _ => none
def gCmpD (neg : Bool) : GF := fun m ds => match ds with
  | [x, y] => (match snap m x, snap m y with
    | some p, some q => if SeqAt.shaped p = true ∧ SeqAt.shaped q = true then some (.bl (if neg then !PyData.eqv p q else PyData.eqv p q), m) else none
    | _, _ => none)
  | _ => none
theorem scD_ok {x y : D} {u v : V} {f g : List Addr} {b : Bool} (e : scD x y = some b) (h1 : RV P w K φ H x u f) (h2 : RV P w K φ H y v g) : scal u v = true ∧ decide (u = v) = b := by
  unfold scD at e
  split at e <;> cases e
  all_goals (obtain ⟨rfl, _⟩ := h1; obtain ⟨rfl, _⟩ := h2; refine ⟨rfl, ?_⟩; simp)
theorem rw_eqS : RW P w K (opW rEq) (gCmpS false) := fun φ m H ds vs fp d m' Q C W r nd n e k => by
  unfold gCmpS at e
  split at e
  · obtain ⟨b, e1, e2⟩ := Option.map_eq_some_iff.mp e
    cases e2
    obtain ⟨u, v, f, g, rfl, rfl, h1, h2⟩ := r.two
    obtain ⟨s1, s2⟩ := scD_ok e1 h1 h2
    exact ⟨s1, k _ _ _ _ (postW_flat C W ⟨by rw [s2]; rfl, rfl⟩)⟩
  · cases e
theorem rw_neS : RW P w K (opW rNe) (gCmpS true) := fun φ m H ds vs fp d m' Q C W r nd n e k => by
  unfold gCmpS at e
  split at e
  · obtain ⟨b, e1, e2⟩ := Option.map_eq_some_iff.mp e
    cases e2
    obtain ⟨u, v, f, g, rfl, rfl, h1, h2⟩ := r.two
    obtain ⟨s1, s2⟩ := scD_ok e1 h1 h2
    exact ⟨s1, k _ _ _ _ (postW_flat C W ⟨by rw [s2]; rfl, rfl⟩)⟩
  · cases e
theorem rw_eqDd : RW P w K (opW (rEqD K)) (gCmpD false) := fun φ m H ds vs fp d m' Q C W r nd n e k => by
  unfold gCmpD at e
  split at e
  · split at e
    · rename_i p q h1 h2
      split at e
      · rename_i hs
        cases e
        obtain ⟨u, v, f, g, rfl, rfl, r1, r2⟩ := r.two
        exact ⟨p, q, snap_ok C r1 h1, snap_ok C r2 h2, hs.1, hs.2, k _ _ _ _ (postW_flat C W ⟨rfl, rfl⟩)⟩
      · cases e
    · cases e
  · cases e
theorem rw_neDd : RW P w K (opW (rNeD K)) (gCmpD true) := fun φ m H ds vs fp d m' Q C W r nd n e k => by
  unfold gCmpD at e
  split at e
  · split at e
    · rename_i p q h1 h2
      split at e
      · rename_i hs
        cases e
        obtain ⟨u, v, f, g, rfl, rfl, r1, r2⟩ := r.two
        exact ⟨p, q, snap_ok C r1 h1, snap_ok C r2 h2, hs.1, hs.2, k _ _ _ _ (postW_flat C W ⟨rfl, rfl⟩)⟩
      · cases e
    · cases e
  · cases e
def gEq : GF := orG (gCmpS false) (gCmpD false)
def gNe : GF := orG (gCmpS true) (gCmpD true)
theorem rw_eq : RW P w K (opW fun x y H Q => rEq x y H Q ∨ rEqD K x y H Q) gEq := rw_eqS.or rw_eqDd
theorem rw_ne : RW P w K (opW fun x y H Q => rNe x y H Q ∨ rNeD K x y H Q) gNe := rw_neS.or rw_neDd
/-! ### order of numbers, of texts -/
def gB (p : Int → Int → Bool) : GF := gI (fun _ _ => True) fun i j => .bl (p i j)
theorem rw_b {p : Int → Int → Bool} : RW P w K (opW (rI0 fun i j => .bl (p i j))) (gB p) := rw_int0 fun _ _ _ _ => ⟨rfl, rfl⟩
/-! ### in -/
def gInL (neg : Bool) : GF := fun m ds => match ds with
  | [x, y] => (match snap m x, snap m y with
    | some p, some (.list qs) => if SeqAt.shaped p = true ∧ SeqAt.shaped (.list qs) = true then some (.bl (if neg then !(qs.any fun z => PyData.eqv z p) else qs.any fun z => PyData.eqv z p), m) else none
    | _, _ => none)
  | _ => none
theorem rw_inL : RW P w K (opW (rInD K)) (gInL false) := fun φ m H ds vs fp d m' Q C W r nd n e k => by
  unfold gInL at e
  split at e
  · split at e
    · rename_i p q h1 h2
      split at e
      · rename_i hs
        cases e
        obtain ⟨u, v, f, g, rfl, rfl, r1, r2⟩ := r.two
        exact ⟨p, q, snap_ok C r1 h1, snap_ok C r2 h2, hs.1, hs.2, k _ _ _ _ (postW_flat C W ⟨rfl, rfl⟩)⟩
      · cases e
    · cases e
  · cases e
theorem rw_notInL : RW P w K (opW (rNotInD K)) (gInL true) := fun φ m H ds vs fp d m' Q C W r nd n e k => by
  unfold gInL at e
  split at e
  · split at e
    · rename_i p q h1 h2
      split at e
      · rename_i hs
        cases e
        obtain ⟨u, v, f, g, rfl, rfl, r1, r2⟩ := r.two
        exact ⟨p, q, snap_ok C r1 h1, snap_ok C r2 h2, hs.1, hs.2, k _ _ _ _ (postW_flat C W ⟨rfl, rfl⟩)⟩
      · cases e
    · cases e
  · cases e
/-- flat things in a list or tuple of flat things -/
def flatD : D → Option V
  | .non => some .non
  | .bl b => some (.bl b)
  | .int i => some (.int i)
  | .str x => some (.str x)
  | _ => none
end
end M3
set_option Elab.async false
set_option linter.all false
set_option autoImplicit false
set_option maxRecDepth 100000
set_option maxHeartbeats 1000000
/-! The D layer, W: built-ins, subscripts, methods of lists by values; tests. -/
namespace M3
open PySem PySem.Spec PyProof.Rows L2

section
variable {P : Program} {w : World} {K : PySem.W.Frag} {φ ψ ψ2 : List Addr} {H H1 H2 : Hp} {l : Loc} {m m1 m2 : Mem} {σ : L2.St}
/-! ### isinstance against the built-in classes -/
inductive Ty5 where
  | int | str | bool | tuple | list
def Ty5.nm : Ty5 → String
  | .int => "int" | .str => "str" | .bool => "bool" | .tuple => "tuple" | .list => "list"
def isiD (m : Mem) : Ty5 → D → Option Bool
  | _, .non => some false
  | .int, .bl _ => some true
  | .bool, .bl _ => some true
  | _, .bl _ => some false
  | .int, .int _ => some true
  | _, .int _ => some false
  | .str, .str _ => some true
  | _, .str _ => some false
  | .tuple, .tup _ => some true
  | _, .tup _ => some false
  | .list, .lst _ => some true
  | _, .lst _ => some false
  | .list, .fl _ => some true
  | _, .fl _ => some false
  | t, .ref k => match m[k]? with
    | some (.lst _) => (match t with
      | .list => some true
      | _ => some false)
    | _ => none
  | _, _ => none
def gIsi (t : Ty5) : GF := fun m ds => match ds with
  | [d] => (isiD m t d).map fun b => (.bl b, m)
  | _ => none
theorem isi_ok {t : Ty5} {d : D} {v : V} {fp : List Addr} {b : Bool} (C : Cells P w K φ H m) (r : RV P w K φ H d v fp) (e : isiD m t d = some b) : ∃ u, TyX K H v u ∧ PySem.W.kitOne K u (.type t.nm) = some b := by
  cases d with
  | non =>
    obtain ⟨rfl, _⟩ := r
    refine ⟨_, .base .non, kit_ty ?_⟩
    cases t <;> cases e <;> decide +kernel
  | bl x =>
    obtain ⟨rfl, _⟩ := r
    refine ⟨_, .base (.bl x), kit_ty ?_⟩
    cases t <;> cases e <;> decide +kernel
  | int x =>
    obtain ⟨rfl, _⟩ := r
    refine ⟨_, .base (.int x), kit_ty ?_⟩
    cases t <;> cases e <;> decide +kernel
  | str x =>
    obtain ⟨rfl, _⟩ := r
    refine ⟨_, .base (.str x), kit_ty ?_⟩
    cases t <;> cases e <;> decide +kernel
  | tup ds =>
    obtain ⟨a, vs, rfl, ha, _⟩ := r
    rcases ha with ha | ⟨o, its, n, h1, h2, _⟩
    · refine ⟨_, .base (.tup ha), kit_ty ?_⟩
      cases t <;> cases e <;> decide +kernel
    · refine ⟨_, .kTuple h1 h2, kit_ty ?_⟩
      cases t <;> cases e <;> decide +kernel
  | lst ds =>
    obtain ⟨a, vs, f, rfl, ha, _⟩ := r
    refine ⟨_, .base (.lst ha), kit_ty ?_⟩
    cases t <;> cases e <;> decide +kernel
  | fl ds =>
    obtain ⟨a, vs, rfl, ha, _⟩ := r
    rcases ha with ⟨o, ha, _⟩ | ⟨o, its, n, h1, h2, _⟩
    · refine ⟨_, .base (.frz ha), kit_ty ?_⟩
      cases t <;> cases e <;> decide +kernel
    · refine ⟨_, .kList h1 h2, kit_ty ?_⟩
      cases t <;> cases e <;> decide +kernel
  | ref k =>
    have e' : (match m[k]? with | some (.lst _) => (match t with | .list => some true | _ => some false) | _ => none) = some b := by cases t <;> exact e
    split at e'
    · rename_i ds hk
      obtain ⟨a, rfl, h, _⟩ := r
      obtain ⟨a', vs, f, e2, ha, _⟩ := C.at_ k a _ h hk
      cases e2
      refine ⟨_, .base (.lst ha), kit_ty ?_⟩
      cases t <;> cases e' <;> decide +kernel
    · cases e'
  | _ => cases t <;> cases e
theorem rw_isi (t : Ty5) : RW P w K (unW fun x H Q => rIsi K [x, .ty t.nm] H Q) (gIsi t) := fun φ m H ds vs fp d m' Q C W r nd n e k => by
  unfold gIsi at e
  split at e
  · obtain ⟨b, e1, e2⟩ := Option.map_eq_some_iff.mp e
    cases e2
    obtain ⟨v, rfl, rv⟩ := r.one
    obtain ⟨u, h1, h2⟩ := isi_ok C rv e1
    exact ⟨v, .ty t.nm, u, _, b, rfl, .ty _, h1, h2, k _ _ _ _ (postW_flat C W ⟨rfl, rfl⟩)⟩
  · cases e
/-! ### len, tuple, list, all, any -/
def gLen : GF := fun m ds => match ds with
  | [.str x] => if x.length ≤ 16777216 then some (.int x.length, m) else none
  | [d] => (sq m d).map fun xs => (.int xs.length, m)
  | _ => none
theorem rw_len : RW P w K (fun xs H Q => ∃ x n, xs = [x] ∧ LenV K x H n ∧ Q (.int n) H) gLen := fun φ m H ds vs fp d m' Q C W r nd n e k => by
  unfold gLen at e
  split at e
  · split at e
    · rename_i hl
      cases e
      obtain ⟨v, rfl, rfl, rfl⟩ := r.one
      exact ⟨_, _, rfl, ⟨line_le hl, rfl⟩, k _ _ _ _ (postW_flat C W ⟨rfl, rfl⟩)⟩
    · cases e
  · obtain ⟨xs, e1, e2⟩ := Option.map_eq_some_iff.mp e
    cases e2
    obtain ⟨v, rfl, rv⟩ := r.one
    obtain ⟨a, us, f, rfl, h, rr, _⟩ := sq_ok C rv e1
    rw [← rr.length] at k
    exact ⟨_, us.length, rfl, h.elim (fun h => .inl ⟨us, h, rfl⟩) fun h => .inr ⟨us, h, rfl⟩, k _ _ _ _ (postW_flat C W ⟨rfl, rfl⟩)⟩
  · cases e
theorem Wf.sqT (W : Wf H) {d : List D} {a : Addr} {vs : List V} (h : TupAt K H a vs) : vs.length ≤ sizeLine := by
  rcases h with h | ⟨o, its, n, _, _, _, hz, r⟩
  · exact W.tup a vs h
  · have := r.length
    simp at this; omega
def gTuple : GF := fun m ds => match ds with
  | [.tup xs] => some (.tup xs, m)
  | [d] => (rl m d).map fun xs => (.tup xs, m)
  | _ => none
theorem rw_tuple : RW P w K (fun xs H Q => ∃ p ys, xs = [.ref p] ∧ ((SqL K H p ys ∧ ∀ l, H l = none → Q (.ref l) (upd H l (.tup ys))) ∨ (SqT K H p ys ∧ Q (.ref p) H))) gTuple := fun φ m H ds vs fp d m' Q C W r nd n e k => by
  unfold gTuple at e
  split at e
  · cases e
    obtain ⟨v, rfl, a, us, rfl, h, rr⟩ := r.one
    exact ⟨a, us, rfl, .inr ⟨h.sq, k _ _ _ _ (postW_same C W ⟨a, us, rfl, h, rr⟩ nd fun x hx => ⟨n x hx, hx⟩)⟩⟩
  · obtain ⟨xs, e1, e2⟩ := Option.map_eq_some_iff.mp e
    cases e2
    obtain ⟨v, rfl, rv⟩ := r.one
    obtain ⟨a, us, f, rfl, h, rr, s⟩ := rl_ok C rv e1
    exact ⟨a, us, rfl, .inl ⟨h, fun p hp => k _ _ _ _ (postW_tup' C W rr s nd n (by rw [rr.length]; exact rl_len C W rv e1) hp)⟩⟩
  · cases e
def gList : GF := fun m ds => match ds with
  | [d] => (sq m d).map fun xs => (.lst xs, m)
  | _ => none
theorem sq_line {d : D} {v : V} {fp : List Addr} {xs : List D} (C : Cells P w K φ H m) (W : Wf H) (r : RV P w K φ H d v fp) (e : sq m d = some xs) :
    ∃ a vs fp', v = .ref a ∧ (SqL K H a vs ∨ SqT K H a vs) ∧ RVs P w K φ H xs vs fp' ∧ fp'.Sublist fp ∧ vs.length ≤ sizeLine := by
  cases d with
  | tup ds =>
    cases e
    obtain ⟨a, vs, e1, h, rr⟩ := r
    exact ⟨a, vs, fp, e1, .inr h.sq, rr, List.Sublist.refl _, W.sqT (d := []) h⟩
  | fl ds =>
    obtain ⟨a, vs, f, e1, h, rr, s⟩ := rl_ok C r e
    exact ⟨a, vs, f, e1, .inl h, rr, s, by rw [rr.length]; exact rl_len C W r e⟩
  | lst ds =>
    obtain ⟨a, vs, f, e1, h, rr, s⟩ := rl_ok C r e
    exact ⟨a, vs, f, e1, .inl h, rr, s, by rw [rr.length]; exact rl_len C W r e⟩
  | ref k =>
    obtain ⟨a, vs, f, e1, h, rr, s⟩ := rl_ok C r e
    exact ⟨a, vs, f, e1, .inl h, rr, s, by rw [rr.length]; exact rl_len C W r e⟩
  | _ => cases e
theorem rw_list : RW P w K (fun xs H Q => ∃ p ys, xs = [.ref p] ∧ (SqL K H p ys ∨ SqT K H p ys) ∧ ∀ l, H l = none → Q (.ref l) (upd H l (.lst ys))) gList := fun φ m H ds vs fp d m' Q C W r nd n e k => by
  unfold gList at e
  split at e
  · obtain ⟨xs, e1, e2⟩ := Option.map_eq_some_iff.mp e
    cases e2
    obtain ⟨v, rfl, rv⟩ := r.one
    obtain ⟨a, us, f, rfl, h, rr, s, hl⟩ := sq_line C W rv e1
    exact ⟨a, us, rfl, h, fun p hp => k _ _ _ _ (postW_lst' C W rr s nd n hl hp)⟩
  · cases e
def blsD : List D → Option (List Bool)
  | [] => some []
  | .bl b :: ds => (blsD ds).map (b :: ·)
  | _ :: _ => none
theorem bls_ok : ∀ {ds : List D} {vs : List V} {fp : List Addr} {bs : List Bool}, RVs P w K φ H ds vs fp → blsD ds = some bs → vs = bs.map V.bl
  | [], vs, fp, bs, h, e => by cases e; obtain ⟨rfl, _⟩ := h; rfl
  | .bl b :: ds, vs, fp, bs, h, e => by
    obtain ⟨bs', e1, e2⟩ := Option.map_eq_some_iff.mp (show (blsD ds).map (b :: ·) = some bs from e)
    cases e2
    obtain ⟨v, vs', f, g, rfl, _, ⟨rfl, _⟩, h2⟩ := h
    rw [bls_ok h2 e1]
    rfl
  | .non :: ds, _, _, _, _, e => by cases e
  | .int _ :: ds, _, _, _, _, e => by cases e
  | .str _ :: ds, _, _, _, _, e => by cases e
  | .tup _ :: ds, _, _, _, _, e => by cases e
  | .lst _ :: ds, _, _, _, _, e => by cases e
  | .fl _ :: ds, _, _, _, _, e => by cases e
  | .dic _ _ :: ds, _, _, _, _, e => by cases e
  | .fdic _ _ :: ds, _, _, _, _, e => by cases e
  | .dit _ _ :: ds, _, _, _, _, e => by cases e
  | .fdit _ _ :: ds, _, _, _, _, e => by cases e
  | .ins _ _ _ :: ds, _, _, _, _, e => by cases e
  | .box _ _ _ :: ds, _, _, _, _, e => by cases e
  | .ref _ :: ds, _, _, _, _, e => by cases e
def gAll : GF := fun m ds => match ds with
  | [d] => ((rl m d).bind blsD).map fun bs => (.bl (bs.all id), m)
  | _ => none
def gAny : GF := fun m ds => match ds with
  | [d] => ((rl m d).bind blsD).map fun bs => (.bl (bs.any id), m)
  | _ => none
theorem rw_all : RW P w K (rAll K) gAll := fun φ m H ds vs fp d m' Q C W r nd n e k => by
  unfold gAll at e
  split at e
  · obtain ⟨bs, e1, e2⟩ := Option.map_eq_some_iff.mp e
    cases e2
    obtain ⟨xs, e3, e4⟩ := Option.bind_eq_some_iff.mp e1
    obtain ⟨v, rfl, rv⟩ := r.one
    obtain ⟨a, us, f, rfl, h, rr, s⟩ := rl_ok C rv e3
    rw [bls_ok rr e4] at h
    exact ⟨a, bs, rfl, h, k _ _ _ _ (postW_flat C W ⟨rfl, rfl⟩)⟩
  · cases e
theorem rw_any : RW P w K (rAny K) gAny := fun φ m H ds vs fp d m' Q C W r nd n e k => by
  unfold gAny at e
  split at e
  · obtain ⟨bs, e1, e2⟩ := Option.map_eq_some_iff.mp e
    cases e2
    obtain ⟨xs, e3, e4⟩ := Option.bind_eq_some_iff.mp e1
    obtain ⟨v, rfl, rv⟩ := r.one
    obtain ⟨a, us, f, rfl, h, rr, s⟩ := rl_ok C rv e3
    rw [bls_ok rr e4] at h
    exact ⟨a, bs, rfl, h, k _ _ _ _ (postW_flat C W ⟨rfl, rfl⟩)⟩
  · cases e
/-! ### subscripts, slices -/
theorem atI_rv {ds : List D} {vs : List V} {fp : List Addr} {i : Int} {d : D} (r : RVs P w K φ H ds vs fp) (e : atI ds i = some d) : ∃ v f, atI vs i = some v ∧ RV P w K φ H d v f ∧ f.Sublist fp := by
  unfold atI at e ⊢
  obtain ⟨j, e1, e2⟩ := Option.bind_eq_some_iff.mp e
  obtain ⟨v, f, e3, rv, s⟩ := r.at_ e2
  rw [r.length, e1]
  exact ⟨v, f, e3, rv, s⟩
def gIxS : GF := fun m ds => match ds with
  | [d, .int i] => ((sq m d).bind fun xs => atI xs i).map fun x => (x, m)
  | _ => none
theorem rw_ixS : RW P w K (opW fun x y H Q => rIxL K x y H Q ∨ rIxT K x y H Q) gIxS := fun φ m H ds vs fp d m' Q C W r nd n e k => by
  unfold gIxS at e
  split at e
  · obtain ⟨x, e1, e2⟩ := Option.map_eq_some_iff.mp e
    cases e2
    obtain ⟨xs, e3, e4⟩ := Option.bind_eq_some_iff.mp e1
    obtain ⟨u, v, f, g, rfl, rfl, ru, ⟨rfl, rfl⟩⟩ := r.two
    obtain ⟨a, us, f', rfl, h, rr, s⟩ := sq_ok C ru e3
    obtain ⟨z, f2, e5, rz, s2⟩ := atI_rv rr e4
    have ss : f2.Sublist (f ++ []) := by rw [List.append_nil]; exact s2.trans s
    have pq := postW_same (fp := f ++ []) C W rz (sub_nd ss nd) fun y hy => ⟨n y (ss.subset hy), ss.subset hy⟩
    exact h.elim (fun h => .inl ⟨a, us, _, z, rfl, rfl, h, e5, k _ _ _ _ pq⟩) fun h => .inr ⟨a, us, _, z, rfl, rfl, h, e5, k _ _ _ _ pq⟩
  · cases e
def gIxT : GF := fun m ds => match ds with
  | [.str z, .int i] => if z.length ≤ 16777216 then (atI z.cps.toList i).map fun c => (.str ⟨#[c]⟩, m) else none
  | _ => none
theorem rw_ixT : RW P w K (opW rIxS) gIxT := fun φ m H ds vs fp d m' Q C W r nd n e k => by
  unfold gIxT at e
  split at e
  · split at e
    · rename_i hl
      obtain ⟨x, e1, e2⟩ := Option.map_eq_some_iff.mp e
      cases e2
      obtain ⟨u, v, f, g, rfl, rfl, ⟨rfl, rfl⟩, ⟨rfl, rfl⟩⟩ := r.two
      exact ⟨_, _, x, rfl, rfl, line_le hl, e1, k _ _ _ _ (postW_flat C W ⟨rfl, rfl⟩)⟩
    · cases e
  · cases e
def gIx : GF := orG gIxS gIxT
theorem rw_ix : RW P w K (opW fun x y H Q => (rIxL K x y H Q ∨ rIxT K x y H Q) ∨ rIxS x y H Q) gIx := rw_ixS.or rw_ixT
theorem ix_all {X : Cx} : IxR X (fun x y H Q => (rIxL X.K x y H Q ∨ rIxT X.K x y H Q) ∨ rIxS x y H Q) := (ix_list.or ix_tup).or ix_str
/-- the items of xs[lo:hi] -/
def cutL {α : Type} (xs : List α) (lo hi : Option Int) : List α := (xs.drop (HT.sIx xs.length 0 lo)).take (HT.sIx xs.length xs.length hi - HT.sIx xs.length 0 lo)
theorem cut_rv {ds : List D} {vs : List V} {fp : List Addr} (lo hi : Option Int) (r : RVs P w K φ H ds vs fp) : ∃ f, RVs P w K φ H (cutL ds lo hi) (cutV vs lo hi) f ∧ f.Sublist fp := by
  unfold cutL cutV
  rw [r.length]
  obtain ⟨f, r1, s1⟩ := r.drop (HT.sIx ds.length 0 lo)
  obtain ⟨g, r2, s2⟩ := r1.take (HT.sIx ds.length ds.length hi - HT.sIx ds.length 0 lo)
  exact ⟨g, r2, s2.trans s1⟩
abbrev rSlAny (K : PySem.W.Frag) : V → Option Int → Option Int → Hp → VK → Prop := fun x lo hi H Q => rSlL K x lo hi H Q ∨ rSlA K x lo hi H Q ∨ rSlS x lo hi H Q
theorem sl_any {X : Cx} : SlR X (rSlAny X.K) := sl_list.or (sl_tupA.or sl_str)
def cutD (m : Mem) (d : D) (lo hi : Option Int) : Option D := match d with
  | .str z => if z.length ≤ 16777216 then some (.str (cutS z lo hi)) else none
  | .tup xs => some (.tup (cutL xs lo hi))
  | d => (rl m d).map fun xs => .lst (cutL xs lo hi)
theorem cutL_whole {α : Type} {xs : List α} {lo hi : Option Int} (h : HT.sIx xs.length 0 lo = 0 ∧ HT.sIx xs.length xs.length hi = xs.length) : cutL xs lo hi = xs := by
  unfold cutL
  rw [h.1, h.2]
  simp
theorem cutD_ok {d d' : D} {v : V} {fp : List Addr} {lo hi : Option Int} {Q : VK} (C : Cells P w K φ H m) (W : Wf H) (r : RV P w K φ H d v fp) (nd : fp.Nodup) (n : ∀ a ∈ fp, a ∉ φ) (e : cutD m d lo hi = some d')
    (k : ∀ ψ H' v fp', PostW P w K φ H fp ψ m H' d' v fp' → Q v H') : rSlAny K v lo hi H Q := by
  unfold cutD at e
  split at e
  · split at e
    · rename_i hl
      cases e
      obtain ⟨rfl, rfl⟩ := r
      exact .inr (.inr ⟨_, rfl, line_le hl, k _ _ _ _ (postW_flat C W ⟨rfl, rfl⟩)⟩)
    · cases e
  · cases e
    obtain ⟨a, us, rfl, h, rr⟩ := r
    obtain ⟨f, rc, s⟩ := cut_rv lo hi rr
    have hc : (cutV us lo hi).length ≤ sizeLine := Nat.le_trans (cutV_length us lo hi) (W.sqT (d := []) h)
    refine .inr (.inl ⟨a, us, rfl, h.sq, fun hw => ?_, fun hw p hp => ?_⟩)
    · rw [rr.length] at hw
      rw [cutL_whole hw] at k
      exact k _ _ _ _ (postW_same C W ⟨a, us, rfl, h, rr⟩ nd fun x hx => ⟨n x hx, hx⟩)
    · exact k _ _ _ _ (postW_tup' C W rc s nd n hc hp)
  · obtain ⟨xs, e1, e2⟩ := Option.map_eq_some_iff.mp e
    cases e2
    obtain ⟨a, us, f, rfl, h, rr, s⟩ := rl_ok C r e1
    obtain ⟨g, rc, s2⟩ := cut_rv lo hi rr
    exact .inl ⟨a, us, rfl, h, fun p hp => k _ _ _ _ (postW_lst' C W rc (s2.trans s) nd n (Nat.le_trans (cutV_length us lo hi) (by rw [rr.length]; exact rl_len C W r e1)) hp)⟩
def gSl0 : GF := fun m ds => match ds with
  | [d] => (cutD m d none none).map fun x => (x, m)
  | _ => none
def gSlA : GF := fun m ds => match ds with
  | [d, .int i] => (cutD m d (some i) none).map fun x => (x, m)
  | _ => none
def gSlB : GF := fun m ds => match ds with
  | [d, .int i] => (cutD m d none (some i)).map fun x => (x, m)
  | _ => none
def gSlAB : GF := fun m ds => match ds with
  | [d, .int i, .int j] => (cutD m d (some i) (some j)).map fun x => (x, m)
  | _ => none
theorem rw_slA : RW P w K (opW fun x y H Q => ∃ i, y = .int i ∧ rSlAny K x (some i) none H Q) gSlA := fun φ m H ds vs fp d m' Q C W r nd n e k => by
  unfold gSlA at e
  split at e
  · obtain ⟨x, e1, e2⟩ := Option.map_eq_some_iff.mp e
    cases e2
    obtain ⟨u, v, f, g, rfl, rfl, ru, ⟨rfl, rfl⟩⟩ := r.two
    rw [List.append_nil] at nd n k
    exact ⟨_, rfl, cutD_ok C W ru nd n e1 k⟩
  · cases e
theorem rw_slB : RW P w K (opW fun x y H Q => ∃ i, y = .int i ∧ rSlAny K x none (some i) H Q) gSlB := fun φ m H ds vs fp d m' Q C W r nd n e k => by
  unfold gSlB at e
  split at e
  · obtain ⟨x, e1, e2⟩ := Option.map_eq_some_iff.mp e
    cases e2
    obtain ⟨u, v, f, g, rfl, rfl, ru, ⟨rfl, rfl⟩⟩ := r.two
    rw [List.append_nil] at nd n k
    exact ⟨_, rfl, cutD_ok C W ru nd n e1 k⟩
  · cases e
def triW (r : V → V → V → Hp → VK → Prop) : List V → Hp → VK → Prop := fun vs H Q => match vs with
  | [x, y, z] => r x y z H Q
  | _ => False
theorem RVs.three {a b c : D} {vs : List V} {fp : List Addr} (h : RVs P w K φ H [a, b, c] vs fp) : ∃ u v x f g i, vs = [u, v, x] ∧ fp = f ++ (g ++ i) ∧ RV P w K φ H a u f ∧ RV P w K φ H b v g ∧ RV P w K φ H c x i := by
  obtain ⟨v, vs', f, g, rfl, rfl, h1, h2⟩ := h
  obtain ⟨v2, v3, f2, f3, rfl, rfl, h3, h4⟩ := RVs.two h2
  exact ⟨v, v2, v3, f, f2, f3, rfl, rfl, h1, h3, h4⟩
theorem rw_slAB : RW P w K (triW fun x y z H Q => ∃ i, y = .int i ∧ ∃ j, z = .int j ∧ rSlAny K x (some i) (some j) H Q) gSlAB := fun φ m H ds vs fp d m' Q C W r nd n e k => by
  unfold gSlAB at e
  split at e
  · obtain ⟨x, e1, e2⟩ := Option.map_eq_some_iff.mp e
    cases e2
    obtain ⟨u, v, z, f, g, i, rfl, rfl, ru, ⟨rfl, rfl⟩, ⟨rfl, rfl⟩⟩ := r.three
    rw [List.append_nil, List.append_nil] at nd n k
    exact ⟨_, rfl, _, rfl, cutD_ok C W ru nd n e1 k⟩
  · cases e
end
end M3
set_option Elab.async false
set_option linter.all false
set_option autoImplicit false
set_option maxRecDepth 100000
set_option maxHeartbeats 1000000
/-! The D layer, X: tests, and the rules for the pieces of syntax. -/
namespace M3
open PySem PySem.Spec PyProof.Rows L2

section
variable {P : Program} {w : World} {K : PySem.W.Frag} {φ ψ ψ2 : List Addr} {H H1 H2 : Hp} {l : Loc} {m m1 m2 : Mem} {σ : L2.St}
/-! ### tests -/
def tBl (f : EF) : TF := fun l m => match f l m with
  | some (.bl b, m1) => some (b, m1)
  | _ => none
def tNotF (c : TF) : TF := fun l m => match c l m with
  | some (b, m1) => some (!b, m1)
  | none => none
def tAndF (c d : TF) : TF := fun l m => match c l m with
  | some (true, m1) => d l m1
  | some (false, m1) => some (false, m1)
  | none => none
def tOrF (c d : TF) : TF := fun l m => match c l m with
  | some (true, m1) => some (true, m1)
  | some (false, m1) => d l m1
  | none => none
def tYesF : TF := fun _ m => some (true, m)
theorem rt_bl {t : TE} {f : EF} (h : RE P w K t f) : RT P w K (tTest t) (tBl f) := fun φ l m σ H b m' Q R e k => by
  unfold tBl at e
  split at e
  · rename_i b1 m1 q
    cases e
    exact h φ l m σ H (.bl b) m' _ R q fun ψ H' v fp p => ⟨b, p.rv.1, k ψ H' p.toPost⟩
  · cases e
theorem rt_blB {t : TE} {f : EF} (h : RE P w K t f) : RT P w K (tB t) (tBl f) := rt_bl h
theorem rt_not {c : TT} {f : TF} (h : RT P w K c f) : RT P w K (tNot c) (tNotF f) := fun φ l m σ H b m' Q R e k => by
  unfold tNotF at e
  split at e
  · rename_i b1 m1 q
    cases e
    exact h φ l m σ H b1 m' _ R q fun ψ H' p => k ψ H' p
  · cases e
theorem rt_and {c d : TT} {f g : TF} (h : RT P w K c f) (h2 : RT P w K d g) : RT P w K (tAnd c d) (tAndF f g) := fun φ l m σ H b m' Q R e k => by
  unfold tAndF at e
  split at e
  · rename_i m1 q
    exact h φ l m σ H true m1 _ R q fun ψ H' p => iteT (h2 _ l m1 σ H' b m' Q (R.step p) e fun ψ2 H2 p2 => k _ H2 (p.trans p2))
  · rename_i m1 q
    cases e
    exact h φ l m σ H false m' _ R q fun ψ H' p => iteF (k ψ H' p)
  · cases e
theorem rt_or {c d : TT} {f g : TF} (h : RT P w K c f) (h2 : RT P w K d g) : RT P w K (tOr c d) (tOrF f g) := fun φ l m σ H b m' Q R e k => by
  unfold tOrF at e
  split at e
  · rename_i m1 q
    cases e
    exact h φ l m σ H true m' _ R q fun ψ H' p => iteT (k ψ H' p)
  · rename_i m1 q
    exact h φ l m σ H false m1 _ R q fun ψ H' p => iteF (h2 _ l m1 σ H' b m' Q (R.step p) e fun ψ2 H2 p2 => k _ H2 (p.trans p2))
  · cases e
theorem rt_yes : RT P w K tYes tYesF := fun φ l m σ H b m' Q R e k => by
  cases e
  exact k [] H R.post
/-- and, or, not as values -/
def fAnd (f g : EF) : EF := fun l m => match f l m with
  | some (.bl true, m1) => g l m1
  | some (.bl false, m1) => some (.bl false, m1)
  | _ => none
def fOr (f g : EF) : EF := fun l m => match f l m with
  | some (.bl true, m1) => some (.bl true, m1)
  | some (.bl false, m1) => g l m1
  | _ => none
def fNot (f : EF) : EF := fun l m => match f l m with
  | some (.bl b, m1) => some (.bl (!b), m1)
  | _ => none
theorem re_and {t u : TE} {f g : EF} (h : RE P w K t f) (h2 : RE P w K u g) : RE P w K (tAndV t u) (fAnd f g) := fun φ l m σ H d m' Q R e k => by
  unfold fAnd at e
  split at e
  · rename_i m1 q
    exact h φ l m σ H _ m1 _ R q fun ψ H' v fp p => ⟨true, p.rv.1, iteT (h2 _ l m1 σ H' d m' Q (R.step p.toPost) e fun ψ2 H2 v2 fp2 p2 => k _ _ _ _ (PostV.from p.toPost p2))⟩
  · rename_i m1 q
    cases e
    exact h φ l m σ H _ m' _ R q fun ψ H' v fp p => ⟨false, p.rv.1, iteF (k ψ H' _ [] ⟨p.toPost, ⟨rfl, rfl⟩, by simp, by simp⟩)⟩
  · cases e
theorem re_or {t u : TE} {f g : EF} (h : RE P w K t f) (h2 : RE P w K u g) : RE P w K (tOrV t u) (fOr f g) := fun φ l m σ H d m' Q R e k => by
  unfold fOr at e
  split at e
  · rename_i m1 q
    cases e
    exact h φ l m σ H _ m' _ R q fun ψ H' v fp p => ⟨true, p.rv.1, iteT (k ψ H' _ [] ⟨p.toPost, ⟨rfl, rfl⟩, by simp, by simp⟩)⟩
  · rename_i m1 q
    exact h φ l m σ H _ m1 _ R q fun ψ H' v fp p => ⟨false, p.rv.1, iteF (h2 _ l m1 σ H' d m' Q (R.step p.toPost) e fun ψ2 H2 v2 fp2 p2 => k _ _ _ _ (PostV.from p.toPost p2))⟩
  · cases e
theorem re_not {t : TE} {f : EF} (h : RE P w K t f) : RE P w K (tNotV t) (fNot f) := fun φ l m σ H d m' Q R e k => by
  unfold fNot at e
  split at e
  · rename_i b m1 q
    cases e
    exact h φ l m σ H _ m' _ R q fun ψ H' v fp p => ⟨b, p.rv.1, k ψ H' _ [] ⟨p.toPost, ⟨rfl, rfl⟩, by simp, by simp⟩⟩
  · cases e
/-- a op b op' c -/
def fChain (o o' : GF) (f g h : EF) : EF := fun l m => match f l m with
  | some (x, m1) => (match g l m1 with
    | some (y, m2) => (match o m2 [x, y] with
      | some (.bl true, m3) => (match h l m3 with
        | some (z, m4) => o' m4 [y, z]
        | none => none)
      | some (.bl false, m3) => some (.bl false, m3)
      | _ => none)
    | none => none)
  | none => none
theorem gB_some {p : Int → Int → Bool} {ds : List D} {r : D × Mem} (e : gB p m ds = some r) : ∃ i j, ds = [.int i, .int j] ∧ r = (.bl (p i j), m) := by
  unfold gB gI at e
  split at e
  · rename_i i j
    rw [if_pos trivial] at e
    cases e
    exact ⟨i, j, rfl, rfl⟩
  · cases e
/-- a chain over numbers -/
theorem re_chainI {p p' : Int → Int → Bool} {ta tb tc : TE} {f g h : EF} (ha : RE P w K ta f) (hb : RE P w K tb g) (hc : RE P w K tc h) :
    RE P w K (tChain (rI0 fun i j => .bl (p i j)) (rI0 fun i j => .bl (p' i j)) ta tb tc) (fChain (gB p) (gB p') f g h) := fun φ l m σ H d m' Q R e k => by
  unfold fChain at e
  split at e
  · rename_i x m1 q1
    split at e
    · rename_i y m2 q2
      refine ha φ l m σ H x m1 _ R q1 fun ψ1 H1 v1 f1 p1 => hb _ l m1 σ H1 y m2 _ (R.step p1.toPost) q2 fun ψ2 H2 v2 f2 p2 => ?_
      have R2 := (R.step p1.toPost).step p2.toPost
      have p12 := p1.toPost.trans p2.toPost
      rw [List.append_assoc] at R2
      split at e
      · rename_i m3 q3
        obtain ⟨i, j, hd, e3⟩ := gB_some q3
        cases hd
        have e4 : p i j = true := (D.bl.inj (congrArg Prod.fst e3)).symm
        have e5 : m3 = m2 := congrArg Prod.snd e3
        obtain ⟨rfl, _⟩ := p1.rv
        obtain ⟨rfl, _⟩ := p2.rv
        refine ⟨i, j, rfl, rfl, true, congrArg V.bl e4, iteT ?_⟩
        split at e
        · rename_i z m4 q4
          rw [e5] at q4
          obtain ⟨a, b, hd2, e6⟩ := gB_some e
          cases hd2
          cases e6
          refine hc _ l m2 σ H2 _ _ _ R2 q4 fun ψ3 H3 v3 f3 p3 => ?_
          obtain ⟨rfl, _⟩ := p3.rv
          exact ⟨_, _, rfl, rfl, k _ _ _ [] ⟨p12.trans p3.toPost, ⟨rfl, rfl⟩, by simp, by simp⟩⟩
        · cases e
      · rename_i m3 q3
        obtain ⟨i, j, hd, e3⟩ := gB_some q3
        cases hd
        have e4 : p i j = false := (D.bl.inj (congrArg Prod.fst e3)).symm
        have e5 : m3 = m2 := congrArg Prod.snd e3
        obtain ⟨rfl, _⟩ := p1.rv
        obtain ⟨rfl, _⟩ := p2.rv
        cases e
        rw [e5] at k
        exact ⟨i, j, rfl, rfl, false, congrArg V.bl e4, iteF (k _ _ _ [] ⟨p12, ⟨rfl, rfl⟩, by simp, by simp⟩)⟩
      · cases e
    · cases e
  · cases e
end
section
variable {P : Program} {w : World} {K : PySem.W.Frag} {φ : List Addr} {H : Hp}
theorem RVs_strs : ∀ zs : List Str, RVs P w K φ H (zs.map D.str) (zs.map V.str) []
  | [] => ⟨rfl, rfl⟩
  | z :: zs => ⟨.str z, zs.map V.str, [], [], rfl, rfl, ⟨rfl, rfl⟩, RVs_strs zs⟩
theorem re_slAB {te tl th : TE} {f g h : EF} (h1 : RE P w K te f) (h2 : RE P w K tl g) (h3 : RE P w K th h) : RE P w K (tSl (rSlAny K) te (tPart tl) (tPart th)) (fAp gSlAB (aCons f (aCons g (aCons h aNil)))) := fun φ l m σ H d m' Q R e k => by
  unfold fAp aCons aNil at e
  split at e
  · rename_i ds m1 q
    split at q
    · rename_i x mx qx
      split at q
      · rename_i ys m2 qy
        split at qy
        · rename_i y my qy2
          split at qy
          · rename_i zs m3 qz
            split at qz
            · rename_i z mz qz2
              simp only [Option.some.injEq, Prod.mk.injEq] at qz qy q
              obtain ⟨rfl, rfl⟩ := qz
              obtain ⟨rfl, rfl⟩ := qy
              obtain ⟨rfl, rfl⟩ := q
              have e0 := e
              unfold gSlAB at e
              split at e
              · rename_i d0 i j hd
                simp only [List.cons.injEq, and_true] at hd
                obtain ⟨rfl, rfl, rfl⟩ := hd
                refine h1 φ l m σ H x mx _ R qx fun ψ1 H1 v1 f1 p1 => ?_
                refine h2 _ l mx σ H1 _ my _ (R.step p1.toPost) qy2 fun ψ2 H2 v2 f2 p2 => ?_
                obtain ⟨rfl, _⟩ := p2.rv
                refine ⟨i, rfl, ?_⟩
                have R2 := (R.step p1.toPost).step p2.toPost
                refine h3 _ l my σ H2 _ _ _ R2 qz2 fun ψ3 H3 v3 f3 p3 => ?_
                obtain ⟨rfl, _⟩ := p3.rv
                refine ⟨j, rfl, ?_⟩
                obtain ⟨x', ex, e2⟩ := Option.map_eq_some_iff.mp e
                cases e2
                have p23 := p2.toPost.trans (by exact p3.toPost)
                have c := p1.carry p23
                exact cutD_ok c.cells c.wf c.rv c.nd (fun a ha => (c.fr a ha).1) ex fun ψ4 H4 v4 f4 p4 => k _ _ _ _ (PostW.toV (ds := [x]) (vs := [v1]) (fp := f1) ⟨c.toPost, ⟨v1, [], f1, [], rfl, by simp, c.rv, ⟨rfl, rfl⟩⟩, c.nd, c.fr⟩ p4)
              · cases e
            · cases qz
          · cases qy
        · cases qy
      · cases q
    · cases q
  · cases e
end
/-! ### the pieces of syntax -/
section
variable {X : Cx} {e o : Expr} {es : List Expr} {a b c : Expr} {f g h : EF} {af : AF} {tf uf : TF} {sf qf : SF} {gf : GF} {pos p apos : Pos} {x : Str}
theorem de_var (i : Nat) (hN : X.N[i]? = some x := by rfl) (hv : Vis X.env.scope x := by first | exact Or.inl rfl | exact Or.inr (Or.inl rfl) | exact Or.inr (Or.inr rfl)) (hd : (x == ("__debug__" : Str)) = false := by decide)
    (hcd : (x == ("__classdict__" : Str)) = false := by decide) : DE X (.Name x pos) (fVar i) := ⟨_, pe_var hN hv hd hcd, re_var i⟩
theorem de_int {i : Int} {j : Nat} : DE X (.Constant (.int i) j pos) (fC (.int i)) := ⟨_, pe_int, re_int i⟩
theorem de_str {z : Str} {j : Nat} : DE X (.Constant (.str z) j pos) (fC (.str z)) := ⟨_, pe_str, re_str z⟩
theorem de_bl {z : Bool} {j : Nat} : DE X (.Constant (.bool z) j pos) (fC (.bl z)) := ⟨_, pe_bl, re_bl z⟩
theorem de_non {j : Nat} : DE X (.Constant .none j pos) (fC .non) := ⟨_, pe_non, re_non⟩
theorem de_gint {i : Int} (hg : Gl X x) (hm : ∃ t, X.mg x = some (.int i t)) (hd : (x == ("__debug__" : Str)) = false := by decide) : DE X (.Name x pos) (fC (.int i)) := by
  obtain ⟨t, hm⟩ := hm
  exact ⟨_, pe_glob (v := .int i) hg hm ⟨t, rfl⟩ hd, re_int i⟩
theorem de_gstr {z : Str} (hg : Gl X x) (hm : ∃ t, X.mg x = some (.str z t)) (hd : (x == ("__debug__" : Str)) = false := by decide) : DE X (.Name x pos) (fC (.str z)) := by
  obtain ⟨t, hm⟩ := hm
  exact ⟨_, pe_glob (v := .str z) hg hm ⟨t, rfl⟩ hd, re_str z⟩
/-- a module's tuple of texts -/
theorem de_gtup {ad : Addr} {zs : List Str} (hg : Gl X x) (hm : X.mg x = some (.ref ad)) (ht : KT X.K ad (zs.map V.str)) (hd : (x == ("__debug__" : Str)) = false := by decide) : DE X (.Name x pos) (fC (.tup (zs.map D.str))) := by
  refine ⟨_, pe_glob (v := .ref ad) hg hm rfl hd, re_const fun φ H => ⟨ad, _, rfl, .inr ht, RVs_strs zs⟩⟩
theorem da_nil : DA X [] aNil := ⟨_, pa_nil, ra_nil⟩
theorem da_cons (he : DE X e f) (ha : DA X es af) (hs : starEach (e :: es) X.env = (false, eval e X.env) :: starEach es X.env := by rfl) : DA X (e :: es) (aCons f af) := by
  obtain ⟨t, h1, h2⟩ := he.ex
  obtain ⟨u, h3, h4⟩ := ha.ex
  exact ⟨_, pa_cons h1 h3 hs, ra_cons h2 h4⟩
theorem de_tup {k : Nat} (ha : DA X es af) : DE X (.Tuple es k pos) (fAp gTupN af) := by
  obtain ⟨t, h1, h2⟩ := ha.ex
  exact ⟨_, pe_tup h1, re_tup h2⟩
theorem de_lst (ha : DA X es af) : DE X (.List es pos) (fAp gLstN af) := by
  obtain ⟨t, h1, h2⟩ := ha.ex
  exact ⟨_, pe_lst h1, re_lst h2⟩
theorem de_bin {op : Operator} {r : R2} (ho : OpR X (binaryOp op) r) (hr : RW X.prog X.w X.K (opW r) gf) (ha : DE X a f) (hb : DE X b g) : DE X (.BinOp a op b pos) (fAp gf (a2 f g)) := by
  obtain ⟨t, h1, h2⟩ := ha.ex
  obtain ⟨u, h3, h4⟩ := hb.ex
  exact ⟨_, pe_op ho h1 h3, re_op h2 h4 hr⟩
theorem de_un {op : UnaryOp} {r : V → Hp → VK → Prop} (ho : UnR X (unaryOp op) r) (hr : RW X.prog X.w X.K (unW r) gf) (ha : DE X a f) : DE X (.UnaryOp op a pos) (fAp gf (a1 f)) := by
  obtain ⟨t, h1, h2⟩ := ha.ex
  exact ⟨_, pe_un ho h1, re_un h2 hr⟩
theorem de_cmp {op : CmpOp} {r : R2} (ho : OpR X (compareOp op) r) (hr : RW X.prog X.w X.K (opW r) gf) (ha : DE X a f) (hb : DE X b g) (hm : behindInMarks op b = false := by first | exact nomark _ | rfl) : DE X (.Compare a [op] [b] pos) (fAp gf (a2 f g)) := by
  obtain ⟨t, h1, h2⟩ := ha.ex
  obtain ⟨u, h3, h4⟩ := hb.ex
  exact ⟨_, pe_cmpR ho h1 h3 hm, re_op h2 h4 hr⟩
theorem dt_cmp {op : CmpOp} {r : R2} (ho : OpR X (compareOp op) r) (hr : RW X.prog X.w X.K (opW r) gf) (ha : DE X a f) (hb : DE X b g) (hm : behindInMarks op b = false := by first | exact nomark _ | rfl) : DT X (.Compare a [op] [b] pos) (tBl (fAp gf (a2 f g))) := by
  obtain ⟨t, h1, h2⟩ := ha.ex
  obtain ⟨u, h3, h4⟩ := hb.ex
  exact ⟨_, pt_cmpR ho h1 h3 hm, rt_bl (re_op h2 h4 hr)⟩
theorem de_chain {op op' : CmpOp} {q q' : Int → Int → Bool} (ho : OpR X (compareOp op) (rI0 fun i j => .bl (q i j))) (ho' : OpR X (compareOp op') (rI0 fun i j => .bl (q' i j))) (ha : DE X a f) (hb : DE X b g) (hc : DE X c h)
    (hm : lastMarks [op, op'] [b, c] = false := by with_unfolding_all rfl) : DE X (.Compare a [op, op'] [b, c] pos) (fChain (gB q) (gB q') f g h) := by
  obtain ⟨t, h1, h2⟩ := ha.ex
  obtain ⟨u, h3, h4⟩ := hb.ex
  obtain ⟨v, h5, h6⟩ := hc.ex
  exact ⟨_, pe_chain ho ho' h1 h3 h5 hm, re_chainI h2 h4 h6⟩
theorem dt_chain {op op' : CmpOp} {q q' : Int → Int → Bool} (ho : OpR X (compareOp op) (rI0 fun i j => .bl (q i j))) (ho' : OpR X (compareOp op') (rI0 fun i j => .bl (q' i j))) (ha : DE X a f) (hb : DE X b g) (hc : DE X c h)
    (hm : lastMarks [op, op'] [b, c] = false := by with_unfolding_all rfl) : DT X (.Compare a [op, op'] [b, c] pos) (tBl (fChain (gB q) (gB q') f g h)) := by
  obtain ⟨t, h1, h2⟩ := ha.ex
  obtain ⟨u, h3, h4⟩ := hb.ex
  obtain ⟨v, h5, h6⟩ := hc.ex
  exact ⟨_, pt_chain ho ho' h1 h3 h5 hm, rt_bl (re_chainI h2 h4 h6)⟩
theorem dt_val (he : DE X e f) (hv : ∀ whole, isTrue e X.env whole = (do let v ← whole; standAt e.pos; holding [v] (truthy v)) := by intro _; rfl) : DT X e (tBl f) := by
  obtain ⟨t, h1, h2⟩ := he.ex
  exact ⟨_, pt_val h1 hv, rt_blB h2⟩
theorem dt_not (ha : DT X a tf) : DT X (.UnaryOp .Not a pos) (tNotF tf) := by
  obtain ⟨t, h1, h2⟩ := ha.ex
  exact ⟨_, pt_not h1, rt_not h2⟩
/-- a test whatever its whole is -/
structure DWt (X : Cx) (e : Expr) (f : TF) : Prop where
  ex : ∃ t, PW X e t ∧ RT X.prog X.w X.K t f
variable {rest : List Expr}
theorem dw_and1 (ha : DT X a tf) : DWt X (.BoolOp .And [a] pos) tf := by obtain ⟨t, h1, h2⟩ := ha.ex; exact ⟨_, pw_and1 h1, h2⟩
theorem dw_or1 (ha : DT X a tf) : DWt X (.BoolOp .Or [a] pos) tf := by obtain ⟨t, h1, h2⟩ := ha.ex; exact ⟨_, pw_or1 h1, h2⟩
theorem dw_and (ha : DT X a tf) (hb : DWt X (.BoolOp .And (b :: rest) pos) uf) : DWt X (.BoolOp .And (a :: b :: rest) pos) (tAndF tf uf) := by
  obtain ⟨t, h1, h2⟩ := ha.ex
  obtain ⟨u, h3, h4⟩ := hb.ex
  exact ⟨_, pw_and h1 h3, rt_and h2 h4⟩
theorem dw_or (ha : DT X a tf) (hb : DWt X (.BoolOp .Or (b :: rest) pos) uf) : DWt X (.BoolOp .Or (a :: b :: rest) pos) (tOrF tf uf) := by
  obtain ⟨t, h1, h2⟩ := ha.ex
  obtain ⟨u, h3, h4⟩ := hb.ex
  exact ⟨_, pw_or h1 h3, rt_or h2 h4⟩
theorem dt_w (h : DWt X e tf) : DT X e tf := by obtain ⟨t, h1, h2⟩ := h.ex; exact ⟨_, h1.pt, h2⟩
theorem de_one {op : BoolOp} (ha : DE X a f) : DE X (.BoolOp op [a] pos) f := by obtain ⟨t, h1, h2⟩ := ha.ex; exact ⟨_, pe_one h1, h2⟩
theorem de_and (ha : DE X a f) (hb : DE X (.BoolOp .And (b :: rest) pos) g) : DE X (.BoolOp .And (a :: b :: rest) pos) (fAnd f g) := by
  obtain ⟨t, h1, h2⟩ := ha.ex
  obtain ⟨u, h3, h4⟩ := hb.ex
  exact ⟨_, pe_and h1 h3, re_and h2 h4⟩
theorem de_or (ha : DE X a f) (hb : DE X (.BoolOp .Or (b :: rest) pos) g) : DE X (.BoolOp .Or (a :: b :: rest) pos) (fOr f g) := by
  obtain ⟨t, h1, h2⟩ := ha.ex
  obtain ⟨u, h3, h4⟩ := hb.ex
  exact ⟨_, pe_or h1 h3, re_or h2 h4⟩
theorem de_not (ha : DE X a f) : DE X (.UnaryOp .Not a pos) (fNot f) := by obtain ⟨t, h1, h2⟩ := ha.ex; exact ⟨_, pe_not h1, re_not h2⟩
/-- a built-in function, a built-in class called -/
theorem de_callB {id : String} {r : List V → Hp → VK → Prop} (hc : CallR X (.builtin id) r) (hr : RW X.prog X.w X.K r gf) (hm : X.mg x = none) (hv : bootBuiltins x = some (.builtin id)) (ha : DA X (e :: es) af) (hg : Gl X x := by rfl) (hn : x ≠ "__name__" := by decide) (hdb : (x == ("__debug__" : Str)) = false := by decide)
    (he : starEach (e :: es) X.env = (false, eval e X.env) :: starEach es X.env := by rfl) (hpl : (backTo pos (starEach es X.env)).any (·.1) = false := by rfl) : DE X (.Call (.Name x p) (e :: es) [] pos) (fAp gf af) := by
  obtain ⟨t, h1, h2⟩ := ha.ex
  exact ⟨_, pe_callB hc hg hm hv h1 hn hdb he hpl, re_cb h2 hr⟩
theorem de_callTy {T : String} {r : List V → Hp → VK → Prop} (hc : CallR X (.type T) r) (hr : RW X.prog X.w X.K r gf) (hm : X.mg x = none) (hv : bootBuiltins x = some (.type T)) (ha : DA X (e :: es) af) (hg : Gl X x := by rfl) (hn : x ≠ "__name__" := by decide) (hdb : (x == ("__debug__" : Str)) = false := by decide)
    (he : starEach (e :: es) X.env = (false, eval e X.env) :: starEach es X.env := by rfl) (hpl : (backTo pos (starEach es X.env)).any (·.1) = false := by rfl) : DE X (.Call (.Name x p) (e :: es) [] pos) (fAp gf af) := by
  obtain ⟨t, h1, h2⟩ := ha.ex
  exact ⟨_, pe_callTy hc hg hm hv h1 hn hdb he hpl, re_cb h2 hr⟩
theorem de_isi {y : Str} {p2 : Pos} (t : Ty5) (hm : X.mg "isinstance" = none) (hmy : X.mg y = none) (hvy : bootBuiltins y = some (.type t.nm)) (ha : DE X a f) (hg : Gl X "isinstance" := by rfl) (hgy : Gl X y := by rfl) (hny : y ≠ "__name__" := by decide) (hdy : (y == ("__debug__" : Str)) = false := by decide)
    (he : starEach (a :: [.Name y p2]) X.env = (false, eval a X.env) :: starEach [.Name y p2] X.env := by rfl) (hpl : (backTo pos (starEach [.Name y p2] X.env)).any (·.1) = false := by rfl) : DE X (.Call (.Name "isinstance" p) [a, .Name y p2] [] pos) (fAp (gIsi t) (a1 f)) := by
  obtain ⟨ta, h1, h2⟩ := ha.ex
  exact ⟨_, pe_callB call_isi hg hm (by decide +kernel) (pa_cons h1 (pa_cons (pe_bltn (v := .ty t.nm) hgy hmy hvy rfl hny hdy) pa_nil) he) (by decide) (by decide) he hpl, re_un h2 (rw_isi t)⟩
/-- subscripts -/
theorem de_ix (ha : DE X a f) (hb : DE X b g) (hs : PlainIx b := by intro _ _; rfl) : DE X (.Subscript a b pos) (fAp gIx (a2 f g)) := by
  obtain ⟨t, h1, h2⟩ := ha.ex
  obtain ⟨u, h3, h4⟩ := hb.ex
  exact ⟨_, pe_ix ix_all h1 h3 hs, re_op h2 h4 rw_ix⟩
theorem de_slA {p2 : Pos} (ha : DE X a f) (hb : DE X b g) : DE X (.Subscript a (.Slice (some b) none none p2) pos) (fAp gSlA (a2 f g)) := by
  obtain ⟨t, h1, h2⟩ := ha.ex
  obtain ⟨u, h3, h4⟩ := hb.ex
  exact ⟨_, pe_slice sl_any h1 (po_some h3) po_none, re_op h2 h4 rw_slA⟩
theorem de_slB {p2 : Pos} (ha : DE X a f) (hb : DE X b g) : DE X (.Subscript a (.Slice none (some b) none p2) pos) (fAp gSlB (a2 f g)) := by
  obtain ⟨t, h1, h2⟩ := ha.ex
  obtain ⟨u, h3, h4⟩ := hb.ex
  exact ⟨_, pe_slice sl_any h1 po_none (po_some h3), re_op h2 h4 rw_slB⟩
def a3 (f g h : EF) : AF := aCons f (aCons g (aCons h aNil))
theorem de_slAB {p2 : Pos} (ha : DE X a f) (hb : DE X b g) (hc : DE X c h) : DE X (.Subscript a (.Slice (some b) (some c) none p2) pos) (fAp gSlAB (a3 f g h)) := by
  obtain ⟨t, h1, h2⟩ := ha.ex
  obtain ⟨u, h3, h4⟩ := hb.ex
  obtain ⟨v, h5, h6⟩ := hc.ex
  exact ⟨_, pe_slice sl_any h1 (po_some h3) (po_some h5), re_slAB h2 h4 h6⟩
/-! statements -/
variable {st : Stmt} {sts : List Stmt}
theorem db_nil : DB X [] sNx := ⟨_, pss_nil, rs_nx⟩
theorem db_one (h : DS X st sf) : DB X [st] sf := by obtain ⟨t, h1, h2⟩ := h.ex; exact ⟨_, pss_one h1, h2⟩
theorem db_cons (h : DS X st sf) (h2 : DB X sts qf) : DB X (st :: sts) (sSeq sf qf) := by
  obtain ⟨t, a1, a2⟩ := h.ex
  obtain ⟨u, b1, b2⟩ := h2.ex
  exact ⟨_, pss_cons a1 b1, rs_seq a2 b2⟩
theorem ds_if {bs cs : List Stmt} (hc : DT X c tf) (ha : DB X bs sf) (hb : DB X cs qf) : DS X (.If c bs cs pos) (sIf tf sf qf) := by
  obtain ⟨t, a1, a2⟩ := hc.ex
  obtain ⟨u, b1, b2⟩ := ha.ex
  obtain ⟨v, c1, c2⟩ := hb.ex
  exact ⟨_, ps_if a1 b1 c1, rs_if a2 b2 c2⟩
theorem ds_ret (he : DE X e f) : DS X (.Return (some e) pos) (sRet f) := by obtain ⟨t, h1, h2⟩ := he.ex; exact ⟨_, ps_ret h1, rs_ret h2⟩
theorem ds_retN : DS X (.Return none pos) (sRet (fC .non)) := ⟨_, ps_retN, rs_retN⟩
theorem ds_expr (he : DE X e f) (hs : swapsWith e none pos.line X.env = pure false := by rfl) : DS X (.Expr e pos) (sDrop f) := by obtain ⟨t, h1, h2⟩ := he.ex; exact ⟨_, ps_expr h1 hs, rs_drop h2⟩
theorem ds_pass : DS X (.Pass pos) sNx := ⟨_, ps_pass, rs_nx⟩
theorem ds_break : DS X (.Break pos) sBk := ⟨_, ps_break, rs_bk⟩
theorem ds_continue : DS X (.Continue pos) sCt := ⟨_, ps_continue, rs_ct⟩
theorem ds_never : DS X st sNo := ⟨_, ps_never, rs_no⟩
theorem ds_set {i : Nat} {pos' : Pos} (hN : X.N.Nodup) (he : DE X e f) (hi : X.N[i]? = some x := by rfl) (hx : L2.Loc X.env.scope x := by first | exact Or.inl rfl | exact Or.inr rfl) (hs : swapsWith e (some (.Name x pos')) pos.line X.env = pure false := by rfl)
    (hf : X.fn x = true ∨ X.env.scope.names.lookup x = some .local := by first | exact .inl rfl | exact .inr rfl) : DS X (.Assign [.Name x pos'] e pos) (sAsg f (gNm i)) := by
  obtain ⟨t, h1, h2⟩ := he.ex
  exact ⟨_, ps_set hN hi hx h1 hs hf, rs_asg h2 (rg_name i)⟩
theorem ds_asg {tg : Expr} {gt : GT} {is : List Nat} (he : DE X e f) (hg : DG X tg gt is) (hs : swapsWithSole [tg] e pos.line X.env = pure false := by rfl) (hw : swappedStores [tg] e X.env = pure none := by rfl)
    (h1 : (assignEach [tg] X.env).map (·.2) = [assign tg X.env] := by rfl) : DS X (.Assign [tg] e pos) (sAsg f gt) := by
  obtain ⟨t, a1, a2⟩ := he.ex
  obtain ⟨u, b1, b2⟩ := hg.ex
  exact ⟨_, ps_asg a1 b1 hs hw h1, rs_asg a2 b2⟩
theorem dg_name {i : Nat} (hN : X.N.Nodup) (hi : X.N[i]? = some x := by rfl) (hx : L2.Loc X.env.scope x := by first | exact Or.inl rfl | exact Or.inr rfl) (hf : X.fn x = true ∨ X.env.scope.names.lookup x = some .local := by first | exact .inl rfl | exact .inr rfl) : DG X (.Name x pos) (gNm i) [i] :=
  ⟨_, pg_name hN hi hx hf, rg_name i⟩
theorem dgs_nil : DGs X [] gsNil [] := ⟨_, pgs_nil, rgs_nil⟩
theorem dgs_cons {gt : GT} {gs : GTs} {is js : List Nat} (h1 : DG X e gt is) (h2 : DGs X es gs js) (hs : (assignEach (e :: es) X.env).map (·.2) = assign e X.env :: (assignEach es X.env).map (·.2) := by rfl) : DGs X (e :: es) (gsCons gt gs) (is ++ js) := by
  obtain ⟨t, a1, a2⟩ := h1.ex
  obtain ⟨u, b1, b2⟩ := h2.ex
  exact ⟨_, pgs_cons a1 b1 hs, rgs_cons a2 b2⟩
theorem dg_tup {k n : Nat} {gs : GTs} {is : List Nat} (hc : X.calm = true) (h : DGs X es gs is) (hn : (assignEach es X.env).length = n := by rfl) (hst : (assignEach es X.env).findIdx? (·.1) = none := by rfl) : DG X (.Tuple es k pos) (gTp n gs) is := by
  obtain ⟨t, a1, a2⟩ := h.ex
  exact ⟨_, pg_tup hc a1 hn hst, rg_tup a2⟩
/-- what is walked -/
structure DI (X : Cx) (tg iter : Expr) (f : IF) : Prop where
  ex : ∃ t, PI X tg iter t ∧ RI X.prog X.w X.K t f
theorem ds_for {tg iter : Expr} {body : List Stmt} {fi : IF} {gt : GT} {is : List Nat} (hp : PassesOwn (model X.prog X.w) X.A X.env X.xe) (hc : X.calm = true) (hi : DI X tg iter fi) (hg : DG X tg gt is) (hb : DB X body sf)
    (hs : ∀ x, foldedSetIterable iter X.env x = pure x := by intro _; rfl) : DS X (.For tg iter body [] pos) (sFor fi gt sf) := by
  obtain ⟨t, a1, a2⟩ := hi.ex
  obtain ⟨u, b1, b2⟩ := hg.ex
  obtain ⟨v, c1, c2⟩ := hb.ex
  exact ⟨_, ps_for hp hc a1 b1 c1 hs, rs_for a2 b2 c2⟩
theorem ds_while {body : List Stmt} (n : Nat) (hp : PassesOwn (model X.prog X.w) X.A X.env X.xe) (hc : DT X c tf) (hb : DB X body sf) : DS X (.While c body [] pos) (whileN tf sf n) := by
  obtain ⟨t, a1, a2⟩ := hc.ex
  obtain ⟨u, b1, b2⟩ := hb.ex
  exact ⟨_, ps_while hp a1 b1, rs_while a2 b2 n⟩
end
end M3
set_option Elab.async false
set_option linter.all false
set_option autoImplicit false
set_option maxRecDepth 100000
set_option maxHeartbeats 1000000
/-! The D layer, Ya: enumerate of a tuple. -/
namespace M3
open PySem PySem.Spec PyProof.Rows L2

theorem meets_enumT {v : Value} {o : Obj} {H : Heap → Prop} (B : Begins v o H) :
    Meets (Builtin.«enumerate.__new__» ⟨[.type "enumerate", v], []⟩) (fun _ R s => H s.heap ∧
      R (.ok (.ret (.ref (s.heap.push o).objs.size))) { s with heap := (s.heap.push o).push { cls := .type "enumerate", data := .fields #[.none, .bool false, .ref s.heap.objs.size, rawInt 0, .none, .none] } }) :=
  .of_wp fun prog w A R s h => by
    obtain ⟨hp, g, d, tk, os⟩ := s; obtain ⟨h1, h⟩ := h
    have hsub := sub_enumerate
    have q1 : ∀ {A' : Around} {E : Value → Shared → Prop} {Q : Value → Shared → Prop}, Q (.ref hp.objs.size) ⟨hp.push o, g, d, tk, os⟩ → wpAny (model prog w) A' (pyIter v) Q E ⟨hp, g, d, tk, os⟩ :=
      fun q => B.iter prog w _ _ ⟨hp, g, d, tk, os⟩ _ h1 q
    wp_walk using q1
    refine wpAny_stack_any fun st => wpAny_pure ?_
    split
    · rename_i c _ _ _ _ _
      cases (c == Value.type "enumerate")
      · wp_walk using q1
        exact ⟨_, rfl, h⟩
      · wp_walk using q1
        exact ⟨_, rfl, h⟩
    · wp_walk using q1
      exact ⟨_, rfl, h⟩
section
variable {prog : Program} {w : World} {A : Around} {E : Value → Shared → Prop} {s : Shared}
theorem call_enumT {v : Value} {o : Obj} {H : Heap → Prop} {Q : Value → Shared → Prop} (B : Begins v o H) (h1 : H s.heap)
    (h : ∀ h', IsEnum h' (s.heap.objs.size + 1) s.heap.objs.size 0 .none → h'.get? s.heap.objs.size = some o → h'.objs.size = s.heap.objs.size + 2 →
      (∀ b o, s.heap.get? b = some o → h'.get? b = some o) → Q (.ref (s.heap.objs.size + 1)) { s with heap := h' }) :
    wpAny (model prog w) A (call (.type "enumerate") [v]) Q E s := by
  refine callType_new F.called_enumerate (by decide) (F.typeCall_enumerate_1 _) (F.newCall_enumerate_1 _) (fun obj => F.args_object_init_2 obj _) F.entry_enumerate_new
    (meets_enumT B) ⟨h1, ?_⟩
  have hz : (s.heap.push o).objs.size = s.heap.objs.size + 1 := Heap.size_push ..
  show _ ∧ _
  rw [hz]
  have he : IsEnum ((s.heap.push o).push { cls := .type "enumerate", data := .fields #[.none, .bool false, .ref s.heap.objs.size, rawInt 0, .none, .none] }) (s.heap.objs.size + 1) s.heap.objs.size 0 .none := by
    have := Heap.get?_push_size (s.heap.push o)
      (o := { cls := .type "enumerate", data := .fields #[.none, .bool false, .ref s.heap.objs.size, rawInt 0, .none, .none] }) rfl
    rw [hz] at this; exact this
  refine ⟨⟨_, he, rfl⟩, h _ he (Heap.get?_push_of_some _ (Heap.get?_push_size _ B.free)) (by rw [Heap.size_push, hz]) fun b o x => Heap.get?_push_of_some _ (Heap.get?_push_of_some _ x)⟩
end
/-- the tuple at a, each item in a new pair -/
def IteT (K : PySem.W.Frag) (a : Addr) : It :=
  ⟨fun i H => ∃ (xs : List V) (x : V), SqT K H a xs ∧ xs[i]? = some x, fun i H v H' => ∃ T x, v = .ref T ∧ H T = none ∧ H' = upd H T (.tup [.int (i : Nat), x]) ∧ ∀ xs, SqT K H a xs → xs[i]? = some x, fun i H => ∃ xs : List V, SqT K H a xs ∧ xs.length = i⟩
theorem turn_enumT {P : Program} {w : World} {K : PySem.W.Frag} {elts : List Expr} {kk : Nat} {tpos : Pos} (a e it : Addr) :
    Turn P w K (.Tuple elts kk tpos) (IteT K a) [e, it] e (fun i h => (∃ old, IsEnum h e it ((i : Nat) : Int) old) ∧ h.IsTupleIter it a i ∧ e ≠ it ∧ a ≠ it ∧ a ≠ e) where
  mem := by simp
  obj := fun i h st b hb => by
    obtain ⟨⟨old, he⟩, ⟨o, ho, hc, hd⟩, _⟩ := st
    have e' : b = e ∨ b = it := by simpa using hb
    rcases e' with z | z
    · rw [z]; exact ⟨_, he, fun v q => nomatch q⟩
    · rw [z]; exact ⟨o, ho, fun v q => by rw [hd] at q; cases q⟩
  keep := fun i h h' st k => let ⟨⟨old, he⟩, hi, hne⟩ := st; ⟨⟨old, k e (by simp) _ he⟩, hi.at fun o q => k it (by simp) o q, hne⟩
  item := by
    intro X hP hw hK hc i pins s σ H E I hf st hg
    subst hP hw hK
    obtain ⟨⟨old, he⟩, hit, hne, hai, hae⟩ := st
    obtain ⟨xs, x, hq, hx⟩ := hg
    obtain ⟨its, rv, p, hz⟩ := I.tuple hq
    have pt : s.heap.IsTuple a its.toArray := p
    obtain ⟨u, hu, ru⟩ := rv.get hx
    have hel : e < s.heap.objs.size := Heap.lt_size he
    have hil : it < s.heap.objs.size := by obtain ⟨_, q, _⟩ := hit; exact Heap.lt_size q
    have hlt : i < its.toArray.size := by
      have := (List.getElem?_eq_some_iff.mp hu).1
      simpa using this
    refine wpAny_pyNext_enum_itemD (Draws.tuple (show X.A.in1.handled = none from I.ok.hd hc) it a hai its.toArray) he ⟨hit, pt⟩ hlt hne (by simp [hne, Ne.symm hae]) fun x' h' tk hP ho hst' hT hsz hk => ?_
    obtain rfl : x' = u := by
      have q : its.toArray[i]? = some x' := hP
      rw [List.getElem?_toArray, hu] at q
      exact (Option.some.inj q).symm
    refine ⟨_, rfl, wpAny_letOwnedTupleGo_enum (s := { s with heap := h', toks := tk + 1 }) ho fun h'' he' sb => ?_⟩
    have hT2 : h''.get? s.heap.objs.size = some { cls := .type "tuple", data := .seq #[.int i tk, x'] } := (sb.2 _ (Nat.ne_of_gt hel)).trans hT
    have new : ObjOk X.prog X.w (upd H s.heap.objs.size (.tup [.int (i : Nat), x])) h'' s.heap.objs.size (.tup [.int (i : Nat), x]) :=
      ⟨by show 2 ≤ sizeLine; decide, [.int i tk, x'], .cons ⟨_, rfl⟩ (.cons ru .nil), ⟨_, hT2, rfl, _, rfl⟩⟩
    have I1 : Inv X pins σ (upd H s.heap.objs.size (.tup [.int (i : Nat), x])) { s with heap := h'', toks := tk + 1 } :=
      I.turnedNew (ch := [e, it]) (fun b ob hb q => (sb.2 b (fun z => hb (by simp [z]))).trans (hk b ob (fun z => hb (by simp [z])) (fun z => hb (by simp [z])) q)) hf (Nat.le_refl _) new
    refine ⟨.ref s.heap.objs.size, _, I1, rfl, ⟨_, x, rfl, I.hok.fresh (Nat.le_refl _), rfl, fun ys hy => by rw [I.tuple_inj hy hq]; exact hx⟩, ⟨⟨x', ?_⟩, hst'.1.at fun o q => (sb.2 it (Ne.symm hne)).trans q, hne, hai, hae⟩, fun b hb => ?_⟩
    · have e1 : ((i + 1 : Nat) : Int) = (i : Int) + 1 := by omega
      rw [e1]; exact he'
    · have hb' : b < s.heap.objs.size := by
        have e' : b = e ∨ b = it := by simpa using hb
        rcases e' with z | z
        · rw [z]; exact hel
        · rw [z]; exact hil
      rw [upd_ne (Nat.ne_of_lt hb')]
      exact (hf b hb).1
  done := by
    intro X hP hw hK hc i pins s σ H E I hf st hg
    subst hP hw hK
    obtain ⟨⟨old, he⟩, hit, hne, hai, hae⟩ := st
    obtain ⟨xs, hq, hx⟩ := hg
    obtain ⟨its, rv, p, hz⟩ := I.tuple hq
    have pt : s.heap.IsTuple a its.toArray := p
    obtain ⟨f0, f1, f2, f3, f4, f5⟩ := hf it (by simp)
    have hl := rv.length
    have D := Draws.tuple (prog := X.prog) (w := X.w) (show X.A.in1.handled = none from I.ok.hd hc) it a hai its.toArray
    have ei : i = its.toArray.size := by rw [List.size_toArray, ← hl]; exact hx.symm
    subst ei
    exact wpAny_pyNext_enum_endD D he ⟨hit, pt⟩ fun h' eb => ⟨rfl, I.turned (t' := s.toks) (fun b o hb q => eb b o hb q) f0 f1 f3 f4 f5⟩
  self := fun A i s Q E st h => let ⟨⟨_, he⟩, _⟩ := st; wpAny_pyIter_enum he h
def iEnumT (K : PySem.W.Frag) (ta : TA) : TI := fun σ H R => ta σ H fun vs H1 => ∃ a xs, vs = [.ref a] ∧ ((SqL K H1 a xs ∧ R (Ite K a) H1) ∨ (SqT K H1 a xs ∧ R (IteT K a) H1))
theorem pi_enumA {X : Cx} {e : Expr} {ta : TA} {p pos tpos : Pos} {elts : List Expr} {kk : Nat} (hg : Gl X "enumerate") (hm : X.mg "enumerate" = none) (ha : PA X [e] ta) (hs : starEach [e] X.env = [(false, eval e X.env)] := by rfl) :
    PI X (.Tuple elts kk tpos) (.Call (.Name "enumerate" p) [e] [] pos) (iEnumT X.K ta) := by
  refine ⟨fun pins s σ H R I h => ?_⟩
  refine Call_ (ld_blt I hg hm boot_enumerate (PyProof.Rows.callWith_type1 (thn (ha.run pos pins s σ H _ I h) fun us s1 ⟨vs, H1, I1, r1, q1⟩ => ?_) hs rfl))
  obtain ⟨a, xs, ex, q⟩ := q1
  subst ex
  cases r1 with
  | cons r rr =>
    cases rr
    cases r
    have fresh2 : ∀ b ∈ [s1.heap.objs.size + 1, s1.heap.objs.size], FpOk X pins H1 b := fun b hb => by
      have e' : b = s1.heap.objs.size + 1 ∨ b = s1.heap.objs.size := by simpa using hb
      have hle : s1.heap.objs.size ≤ b := by
        rcases e' with z | z
        · rw [z]; exact Nat.le_add_right _ _
        · rw [z]; exact Nat.le_refl _
      exact I1.fpOk hle (I1.hok.fresh hle)
    rcases q with ⟨hq, q⟩ | ⟨hq, q⟩
    · obtain ⟨its, rv, p', hz⟩ := I1.list hq
      refine call_enumerate_list p'.isList fun h' he hit hsz hk => wpAny_pyIter_enum he ?_
      have I2 : Inv X pins σ H1 { s1 with heap := h' } := I1.kept (t' := s1.toks) hk
      exact ⟨s1.heap.objs.size + 1, [s1.heap.objs.size + 1, s1.heap.objs.size], _, _, H1, rfl, I2, turn_enum a (s1.heap.objs.size + 1) s1.heap.objs.size, ⟨⟨.none, he⟩, hit, Nat.succ_ne_self _⟩, fresh2, q⟩
    · obtain ⟨its, rv, p', hz⟩ := I1.tuple hq
      have pt : s1.heap.IsTuple a its.toArray := p'
      have hal : a < s1.heap.objs.size := by obtain ⟨o1, ho1, _⟩ := id p'; exact Heap.lt_size ho1
      refine call_enumT (begins_tuple a its.toArray) pt fun h' he hit hsz hk => wpAny_pyIter_enum he ?_
      have I2 : Inv X pins σ H1 { s1 with heap := h' } := I1.kept (t' := s1.toks) hk
      exact ⟨s1.heap.objs.size + 1, [s1.heap.objs.size + 1, s1.heap.objs.size], _, _, H1, rfl, I2, turn_enumT a (s1.heap.objs.size + 1) s1.heap.objs.size, ⟨⟨.none, he⟩, ⟨_, hit, rfl, rfl⟩, Nat.succ_ne_self _, Nat.ne_of_lt hal, Nat.ne_of_lt (Nat.lt_succ_of_lt hal)⟩, fresh2, q⟩
end M3
set_option Elab.async false
set_option linter.all false
set_option autoImplicit false
set_option maxRecDepth 100000
set_option maxHeartbeats 1000000
/-! The D layer, Y: what is walked; comprehensions. -/
namespace M3
open PySem PySem.Spec PyProof.Rows L2

section
variable {P : Program} {w : World} {K : PySem.W.Frag} {φ ψ ψ2 : List Addr} {H H1 H2 : Hp} {l : Loc} {m m1 m2 : Mem} {σ : L2.St}
/-! ### sequences that are walked -/
def signs (x : Str) : List D := x.cps.toList.map fun c => .str ⟨#[c]⟩
/-- what a list (true), a tuple (false) has, and the cell that must stay -/
def sqD (m : Mem) : D → Option (Bool × List D × Watch)
  | .tup ds => some (false, ds, [])
  | .fl ds => some (true, ds, [])
  | .ref k => match m[k]? with
    | some (.lst ds) => some (true, ds, [(k, .lst ds)])
    | _ => none
  | _ => none
def At (P : Program) (w : World) (K : PySem.W.Frag) (b : Bool) (wt : Watch) (a : Addr) (ds : List D) (φ : List Addr) (H : Hp) : Prop :=
  (b = false ∧ ∃ vs, TupAt K H a vs ∧ RVs P w K φ H ds vs []) ∨ (b = true ∧ ((∃ vs, FlAt K H a vs ∧ RVs P w K φ H ds vs []) ∨ ∃ k, φ[k]? = some a ∧ (k, D.lst ds) ∈ wt))
theorem lenT {a : Addr} {vs : List V} (W : Wf H) (h : TupAt K H a vs) : vs.length ≤ sizeLine := by
  rcases h with h | ⟨o, its, n, e1, e2, e3, e4, r⟩
  · exact W.tup a vs h
  · rw [r.length, Array.length_toList]; exact e4
theorem lenL {a : Addr} {vs : List V} (W : Wf H) (h : FlAt K H a vs) : vs.length ≤ sizeLine := by
  rcases h with ⟨o, h⟩ | ⟨o, its, n, e1, e2, e3, e4, e5, r⟩
  · exact h.2
  · rw [r.length, Array.length_toList]; exact e5
theorem At.read {b : Bool} {wt : Watch} {a : Addr} {ds : List D} (h : At P w K b wt a ds φ H) (C : Cells P w K φ H m) (W : Wf H) (ok : wt.ok m) : ∃ vs, (match b with | true => SqL K H a vs | false => SqT K H a vs) ∧ RVs P w K φ H ds vs [] ∧ vs.length ≤ sizeLine := by
  rcases h with ⟨rfl, vs, h1, r⟩ | ⟨rfl, ⟨vs, h1, r⟩ | ⟨k, hk, hw⟩⟩
  · exact ⟨vs, h1.sq, r, lenT W h1⟩
  · exact ⟨vs, h1.sq, r, lenL W h1⟩
  · obtain ⟨a', vs, f, e, ha, ef, r⟩ := C.at_ k a _ hk (ok k _ hw)
    cases e
    have ef' : f ++ [a] = [] ++ [a] := ef.symm
    obtain rfl := List.append_cancel_right ef'
    exact ⟨vs, .inl (.inl ha), r, W.lst a vs ha⟩
theorem At.step {b : Bool} {wt : Watch} {a : Addr} {ds : List D} (h : At P w K b wt a ds φ H) (e : Ext K φ H H1) : At P w K b wt a ds (φ ++ ψ) H1 := by
  rcases h with ⟨rfl, vs, h1, r⟩ | ⟨rfl, ⟨vs, h1, r⟩ | ⟨k, hk, hw⟩⟩
  · exact .inl ⟨rfl, vs, e.toImm.tupAt h1, r.ext e (by simp)⟩
  · exact .inr ⟨rfl, .inl ⟨vs, e.toImm.flAt h1, r.ext e (by simp)⟩⟩
  · exact .inr ⟨rfl, .inr ⟨k, by rw [List.getElem?_append_left (List.getElem?_eq_some_iff.mp hk).1]; exact hk, hw⟩⟩
theorem imm_lst {D : Addr} {acc : List V} (h : H D = none ∨ ∃ vs, H D = some (.lst vs)) : Imm K H (upd H D (.lst acc)) := by
  refine ⟨fun a vs e => (upd_ne fun z => ?_).trans e, fun a o vs e => (upd_ne fun z => ?_).trans e, fun a C dx fs e _ => (upd_ne fun z => ?_).trans e⟩ <;>
  · rw [z] at e
    rcases h with h | ⟨xs, h⟩ <;> rw [h] at e <;> cases e
theorem At.upd {b : Bool} {wt : Watch} {a : Addr} {ds : List D} {D : Addr} {acc : List V} (h : At P w K b wt a ds φ H) (hD : H D = none ∨ ∃ vs, H D = some (.lst vs)) : At P w K b wt a ds φ (upd H D (.lst acc)) := by
  have im := imm_lst (K := K) (acc := acc) hD
  have go : ∀ {ds : List M3.D} {vs : List V}, RVs P w K φ H ds vs [] → RVs P w K φ (L2.upd H D (.lst acc)) ds vs [] := fun {ds vs} r => by
    have := RVs.mono (ψ := []) im ds vs [] (by simp) r
    rw [List.append_nil] at this
    exact this
  rcases h with ⟨rfl, vs, h1, r⟩ | ⟨rfl, ⟨vs, h1, r⟩ | ⟨k, hk, hw⟩⟩
  · exact .inl ⟨rfl, vs, im.tupAt h1, go r⟩
  · exact .inr ⟨rfl, .inl ⟨vs, im.flAt h1, go r⟩⟩
  · exact .inr ⟨rfl, .inr ⟨k, hk, hw⟩⟩
theorem At.of {d : D} {v : V} {b : Bool} {ds : List D} {wt : Watch} (h : sqD m d = some (b, ds, wt)) (r : RV P w K φ H d v []) : ∃ a, v = .ref a ∧ At P w K b wt a ds φ H ∧ wt.ok m := by
  unfold sqD at h
  split at h
  · cases h
    obtain ⟨a, vs, e, h1, r⟩ := r
    exact ⟨a, e, .inl ⟨rfl, vs, h1, r⟩, by intro k c z; cases z⟩
  · cases h
    obtain ⟨a, vs, e, h1, r, _⟩ := r
    exact ⟨a, e, .inr ⟨rfl, .inl ⟨vs, h1, r⟩⟩, by intro k c z; cases z⟩
  · split at h
    · rename_i k0 ds0 hk
      cases h
      obtain ⟨a, e, h1, _⟩ := r
      refine ⟨a, e, .inr ⟨rfl, .inr ⟨_, h1, by simp⟩⟩, ?_⟩
      intro k c z
      have : (k, c) = (_, _) := List.mem_singleton.mp z
      cases this
      exact hk
    · cases h
  · cases h
/-- more is looked at -/
theorem At.weak {b : Bool} {wt wt' : Watch} {a : Addr} {ds : List D} (h : At P w K b wt a ds φ H) (s : ∀ x ∈ wt, x ∈ wt') : At P w K b wt' a ds φ H := by
  rcases h with h | ⟨h1, h | ⟨k, h2, h3⟩⟩
  · exact .inl h
  · exact .inr ⟨h1, .inl h⟩
  · exact .inr ⟨h1, .inr ⟨k, h2, s _ h3⟩⟩
theorem RVs.get' {ds : List D} {vs : List V} {i : Nat} {d : D} (h : RVs P w K φ H ds vs []) (e : ds[i]? = some d) : ∃ v, vs[i]? = some v ∧ RV P w K φ H d v [] := RVs.get h e
theorem Walks.of {Mf : Addr → Prop} {J : It} {wt : Watch} {items : List D} {St : List Addr → Hp → Prop} (hstep : ∀ φ ψ H H', St φ H → Ext K φ H H' → St (φ ++ ψ) H') (hupd : ∀ φ H D acc, St φ H → (H D = none ∨ ∃ vs, H D = some (.lst vs)) → St φ (upd H D (.lst acc)))
    (hitem : ∀ i d φ m H, items[i]? = some d → St φ H → Cells P w K φ H m → Wf H → wt.ok m → J.go i H ∧ ∀ x H', J.yld i H x H' → Post P w K φ H [] m H' ∧ RV P w K φ H' d x [])
    (hstop : ∀ φ m H, St φ H → Cells P w K φ H m → Wf H → wt.ok m → J.stop items.length H) :
    Walks P w K (fun _ => False) Mf J wt (fun i ds φ m H => St φ H ∧ items.drop i = ds ∧ i + ds.length = items.length) where
  item := fun i d ds φ m H ⟨s, hd, hl⟩ C W ok => by
    have e : items[i]? = some d := by
      have : (items.drop i)[0]? = some d := by rw [hd]; rfl
      simpa using this
    obtain ⟨go, y⟩ := hitem i d φ m H e s C W ok
    refine ⟨go, fun x H' hy => ?_⟩
    obtain ⟨p, r⟩ := y x H' hy
    refine ⟨[], p, r, by simp, by simp, fun m2 _ _ => ⟨hstep _ _ _ _ s p.ext, ?_, by simp at hl ⊢; omega⟩⟩
    rw [← List.drop_drop, hd]
    rfl
  stop := fun i φ m H ⟨s, hd, hl⟩ C W ok => by
    have : i = items.length := by simpa using hl
    rw [this]
    exact hstop φ m H s C W ok
  step := fun i ds φ ψ m m' H H' ⟨s, hd, hl⟩ p _ _ => ⟨hstep _ _ _ _ s p.ext, hd, hl⟩
  apart := fun i ds φ m H D acc ⟨s, hd, hl⟩ _ hD => ⟨hupd _ _ _ _ s hD, hd, hl⟩
/-- nothing has happened -/
theorem Post.none_ (C : Cells P w K φ H m) (W : Wf H) : Post P w K φ H [] m H := .refl C W
/-- a list, a tuple, walked -/
theorem walk_seq {b : Bool} {wt : Watch} {a : Addr} {ds : List D} {Mf : Addr → Prop} : Walks P w K (fun _ => False) Mf (match b with | true => Itl K a | false => Itt K a) wt (fun i es φ m H => At P w K b wt a ds φ H ∧ ds.drop i = es ∧ i + es.length = ds.length) := by
  refine Walks.of (fun φ ψ H H' s e => s.step e) (fun φ H D acc s hD => s.upd hD) (fun i d φ m H e s C W ok => ?_) fun φ m H s C W ok => ?_
  · obtain ⟨vs, q, r, _⟩ := s.read C W ok
    obtain ⟨v, ev, rv⟩ := RVs.get r e
    cases b
    · refine ⟨⟨vs, v, q, ev⟩, fun x H' hy => ?_⟩
      obtain ⟨rfl, hx⟩ := hy
      have := hx vs q
      rw [ev] at this
      cases this
      exact ⟨.refl C W, rv⟩
    · refine ⟨⟨vs, v, q, ev⟩, fun x H' hy => ?_⟩
      obtain ⟨rfl, hx⟩ := hy
      have := hx vs q
      rw [ev] at this
      cases this
      exact ⟨.refl C W, rv⟩
  · obtain ⟨vs, q, r, _⟩ := s.read C W ok
    have hl : vs.length ≤ ds.length := by rw [r.length]; exact Nat.le_refl _
    cases b
    · exact ⟨vs, q, hl⟩
    · exact ⟨vs, q, hl⟩
theorem walk_str {x : Str} {Mf : Addr → Prop} : Walks P w K (fun _ => False) Mf (Its x) [] (fun i es φ m H => True ∧ (signs x).drop i = es ∧ i + es.length = (signs x).length) := by
  refine Walks.of (St := fun _ _ => True) (fun φ ψ H H' s e => trivial) (fun φ H D acc s hD => trivial) (fun i d φ m H e s C W ok => ?_) fun φ m H s C W ok => ?_
  · unfold signs at e
    rw [List.getElem?_map] at e
    obtain ⟨c, ec, rfl⟩ := Option.map_eq_some_iff.mp e
    have ec' : x.cps[i]? = some c := by rw [← Array.getElem?_toList]; exact ec
    refine ⟨(Array.getElem?_eq_some_iff.mp ec').1, fun y H' hy => ?_⟩
    obtain ⟨rfl, c', e', rfl⟩ := hy
    rw [ec'] at e'
    cases e'
    exact ⟨.refl C W, ⟨rfl, rfl⟩⟩
  · show x.cps.size ≤ _
    unfold signs
    simp
def rngD (lo : Int) (n : Nat) : List D := (List.range n).map fun k : Nat => D.int (lo + (k : Int))
theorem walk_rng {lo : Int} {n : Nat} {Mf : Addr → Prop} : Walks P w K (fun _ => False) Mf (Itr lo n) [] (fun i es φ m H => True ∧ (rngD lo n).drop i = es ∧ i + es.length = (rngD lo n).length) := by
  refine Walks.of (St := fun _ _ => True) (fun φ ψ H H' s e => trivial) (fun φ H D acc s hD => trivial) (fun i d φ m H e s C W ok => ?_) fun φ m H s C W ok => ?_
  · unfold rngD at e
    rw [List.getElem?_map] at e
    obtain ⟨c, ec, rfl⟩ := Option.map_eq_some_iff.mp e
    obtain ⟨h1, h2⟩ := List.getElem?_eq_some_iff.mp ec
    have hin : i < n := by simpa using h1
    have hc : i = c := by simpa using h2
    subst hc
    refine ⟨hin, fun y H' hy => ?_⟩
    obtain ⟨rfl, rfl⟩ := hy
    exact ⟨.refl C W, ⟨rfl, rfl⟩⟩
  · show n ≤ _
    unfold rngD
    simp
def enumD : Nat → List D → List D
  | _, [] => []
  | i, d :: ds => .tup [.int (i : Int), d] :: enumD (i + 1) ds
theorem enumD_get : ∀ (ds : List D) (k i : Nat) (d : D), (enumD k ds)[i]? = some d → ∃ e, ds[i]? = some e ∧ d = .tup [.int ((k + i : Nat) : Int), e]
  | [], k, i, d, h => by simp [enumD] at h
  | x :: ds, k, 0, d, h => by simp [enumD] at h; exact ⟨x, rfl, by simp [h]⟩
  | x :: ds, k, i + 1, d, h => by
    simp [enumD] at h
    obtain ⟨e, h1, h2⟩ := enumD_get ds (k + 1) i d h
    exact ⟨e, h1, by rw [h2, Nat.add_assoc, Nat.add_comm 1 i]⟩
theorem enumD_length : ∀ (ds : List D) (k : Nat), (enumD k ds).length = ds.length
  | [], _ => rfl
  | x :: ds, k => by simp [enumD, enumD_length ds]
theorem post_tup {p : Addr} {vs : List V} (C : Cells P w K φ H m) (W : Wf H) (hl : vs.length ≤ sizeLine) (hp : H p = none) : Post P w K φ H [] m (upd H p (.tup vs)) :=
  ⟨ext_new hp, by rw [List.append_nil]; exact C.new hp, wf_tup W hl, by simp⟩
theorem two_line : 2 ≤ sizeLine := by rw [sizeLine_eq]; decide
theorem RVs.pair {d e : D} {v u : V} (h1 : RV P w K φ H d v []) (h2 : RV P w K φ H e u []) : RVs P w K φ H [d, e] [v, u] [] := ⟨v, [u], [], [], rfl, rfl, h1, u, [], [], [], rfl, rfl, h2, rfl, rfl⟩
theorem RV.newTup {p : Addr} {vs : List V} {ds : List D} (r : RVs P w K φ H ds vs []) (hp : H p = none) : RV P w K φ (upd H p (.tup vs)) (.tup ds) (.ref p) [] := by
  refine ⟨p, vs, rfl, .inl upd_same, ?_⟩
  have := r.ext (ψ := []) (ext_new (φ := φ) (o := .tup vs) hp) (by simp)
  rw [List.append_nil] at this
  exact this
theorem walk_enum {b : Bool} {wt : Watch} {a : Addr} {ds : List D} {Mf : Addr → Prop} : Walks P w K (fun _ => False) Mf (match b with | true => Ite K a | false => IteT K a) wt (fun i es φ m H => At P w K b wt a ds φ H ∧ (enumD 0 ds).drop i = es ∧ i + es.length = (enumD 0 ds).length) := by
  refine Walks.of (fun φ ψ H H' s e => s.step e) (fun φ H D acc s hD => s.upd hD) (fun i d φ m H e s C W ok => ?_) fun φ m H s C W ok => ?_
  · obtain ⟨vs, q, r, _⟩ := s.read C W ok
    obtain ⟨d', ed, rfl⟩ := enumD_get _ _ _ _ e
    obtain ⟨v, ev, rv⟩ := RVs.get r ed
    rw [Nat.zero_add]
    have key : ∀ {T : Addr}, H T = none → Post P w K φ H [] m (upd H T (.tup [.int (i : Nat), v])) ∧ RV P w K φ (upd H T (.tup [.int (i : Nat), v])) (.tup [.int (i : Nat), d']) (.ref T) [] := fun {T} hT =>
      ⟨post_tup C W two_line hT, RV.newTup (RVs.pair ⟨rfl, rfl⟩ rv) hT⟩
    cases b
    · refine ⟨⟨vs, v, q, ev⟩, fun x H' hy => ?_⟩
      obtain ⟨T, y, rfl, hT, rfl, hx⟩ := hy
      have := hx vs q
      rw [ev] at this
      cases this
      exact key hT
    · refine ⟨⟨vs, v, q, ev⟩, fun x H' hy => ?_⟩
      obtain ⟨T, y, rfl, hT, rfl, hx⟩ := hy
      have := hx vs q
      rw [ev] at this
      cases this
      exact key hT
  · obtain ⟨vs, q, r, _⟩ := s.read C W ok
    have hl : vs.length = (enumD 0 ds).length := by rw [r.length, enumD_length]
    cases b
    · exact ⟨vs, q, hl⟩
    · exact ⟨vs, q, Nat.le_of_eq hl⟩
def zipD : List D → List D → List D
  | d :: ds, e :: es => .tup [d, e] :: zipD ds es
  | _, _ => []
theorem zipD_get : ∀ (ds es : List D) (i : Nat) (d : D), (zipD ds es)[i]? = some d → ∃ x y, ds[i]? = some x ∧ es[i]? = some y ∧ d = .tup [x, y]
  | [], es, i, d, h => by simp [zipD] at h
  | x :: ds, [], i, d, h => by simp [zipD] at h
  | x :: ds, y :: es, 0, d, h => by simp [zipD] at h; exact ⟨x, y, rfl, rfl, h.symm⟩
  | x :: ds, y :: es, i + 1, d, h => by
    simp [zipD] at h
    exact zipD_get ds es i d h
theorem zipD_length : ∀ (ds es : List D), ds.length ≤ (zipD ds es).length ∨ es.length ≤ (zipD ds es).length
  | [], es => .inl (Nat.zero_le _)
  | x :: ds, [] => .inr (Nat.zero_le _)
  | x :: ds, y :: es => by
    rcases zipD_length ds es with h | h
    · exact .inl (Nat.succ_le_succ h)
    · exact .inr (Nat.succ_le_succ h)
theorem zipD_le : ∀ (ds es : List D), (zipD ds es).length ≤ ds.length
  | [], es => by simp [zipD]
  | x :: ds, [] => by simp [zipD]
  | x :: ds, y :: es => by have := zipD_le ds es; simp [zipD]; exact this
theorem walk_zip {b : Bool} {wt : Watch} {a a2 : Addr} {ds es : List D} {Mf : Addr → Prop} : Walks P w K (fun _ => False) Mf (match b with | true => Itz K a a2 | false => RZ.ItzT K a a2) wt
    (fun i zs φ m H => (At P w K b wt a ds φ H ∧ At P w K b wt a2 es φ H) ∧ (zipD ds es).drop i = zs ∧ i + zs.length = (zipD ds es).length) := by
  refine Walks.of (St := fun φ H => At P w K b wt a ds φ H ∧ At P w K b wt a2 es φ H) (fun φ ψ H H' s e => ⟨s.1.step e, s.2.step e⟩) (fun φ H D acc s hD => ⟨s.1.upd hD, s.2.upd hD⟩) (fun i d φ m H e s C W ok => ?_) fun φ m H s C W ok => ?_
  · obtain ⟨vs, q, r, _⟩ := s.1.read C W ok
    obtain ⟨us, q2, r2, _⟩ := s.2.read C W ok
    obtain ⟨x, y, ex, ey, rfl⟩ := zipD_get _ _ _ _ e
    obtain ⟨v, ev, rv⟩ := RVs.get r ex
    obtain ⟨u, eu, ru⟩ := RVs.get r2 ey
    have key : ∀ {T : Addr}, H T = none → Post P w K φ H [] m (upd H T (.tup [v, u])) ∧ RV P w K φ (upd H T (.tup [v, u])) (.tup [x, y]) (.ref T) [] := fun {T} hT =>
      ⟨post_tup C W two_line hT, RV.newTup (RVs.pair rv ru) hT⟩
    cases b
    · refine ⟨⟨vs, us, v, u, q, q2, ev, eu⟩, fun x H' hy => ?_⟩
      obtain ⟨T, y1, y2, rfl, hT, rfl, hx, hx2⟩ := hy
      have h1 := hx vs q
      have h2 := hx2 us q2
      rw [ev] at h1
      rw [eu] at h2
      cases h1
      cases h2
      exact key hT
    · refine ⟨⟨vs, us, v, u, q, q2, ev, eu⟩, fun x H' hy => ?_⟩
      obtain ⟨T, y1, y2, rfl, hT, rfl, hx, hx2⟩ := hy
      have h1 := hx vs q
      have h2 := hx2 us q2
      rw [ev] at h1
      rw [eu] at h2
      cases h1
      cases h2
      exact key hT
  · obtain ⟨vs, q, r, _⟩ := s.1.read C W ok
    obtain ⟨us, q2, r2, _⟩ := s.2.read C W ok
    have hl := zipD_length ds es
    rw [← r.length, ← r2.length] at hl
    cases b
    · exact ⟨vs, us, q, q2, hl⟩
    · exact ⟨vs, us, q, q2, hl⟩
theorem walk_rev {b : Bool} {wt : Watch} {a : Addr} {ds : List D} {n : Nat} (hn : n = ds.length) {Mf : Addr → Prop} : Walks P w K (fun _ => False) Mf (match b with | true => Itv K a n | false => RT.ItvT K a n) wt (fun i es φ m H => At P w K b wt a ds φ H ∧ ds.reverse.drop i = es ∧ i + es.length = ds.reverse.length) := by
  refine Walks.of (fun φ ψ H H' s e => s.step e) (fun φ H D acc s hD => s.upd hD) (fun i d φ m H e s C W ok => ?_) fun φ m H s C W ok => ?_
  · obtain ⟨vs, q, r, _⟩ := s.read C W ok
    have hi : i < ds.length := by have := (List.getElem?_eq_some_iff.mp e).1; simpa using this
    have e2 : ds[n - 1 - i]? = some d := by
      rw [List.getElem?_reverse hi] at e
      rw [hn]; exact e
    obtain ⟨v, ev, rv⟩ := RVs.get r e2
    cases b
    · refine ⟨⟨by omega, vs, v, q, ev⟩, fun x H' hy => ?_⟩
      obtain ⟨rfl, hx⟩ := hy
      have := hx vs q
      rw [ev] at this
      cases this
      exact ⟨.refl C W, rv⟩
    · refine ⟨⟨by omega, vs, v, q, ev⟩, fun x H' hy => ?_⟩
      obtain ⟨rfl, hx⟩ := hy
      have := hx vs q
      rw [ev] at this
      cases this
      exact ⟨.refl C W, rv⟩
  · have h : n ≤ ds.reverse.length := by simp [hn]
    cases b
    · exact h
    · exact h
/-! ### what comes ahead of a walk -/
def iAny (K : PySem.W.Frag) (te : TE) : TI := fun σ H R => te σ H fun v H1 => (∃ a xs, v = .ref a ∧ SqL K H1 a xs ∧ R (Itl K a) H1) ∨ (∃ a xs, v = .ref a ∧ SqT K H1 a xs ∧ R (Itt K a) H1) ∨ ∃ x, v = .str x ∧ R (Its x) H1
/-- the value is taken over into the cells -/
theorem PostV.own {d : D} {v : V} {fp : List Addr} (p : PostV P w K φ H ψ m1 H1 d v fp) : Post P w K φ H (ψ ++ fp) (imp d m1).2 H1 ∧ RV P w K (φ ++ (ψ ++ fp)) H1 (imp d m1).1 v [] := by
  obtain ⟨q1, q2⟩ := imp_ok d m1 v (φ ++ ψ) fp p.rv p.cells p.nd fun a ha => (p.fr a ha).1
  rw [List.append_assoc] at q1 q2
  exact ⟨⟨p.ext, q2, p.wf, fun a ha => (List.mem_append.mp ha).elim (p.new a) fun z => (p.fr a z).2⟩, q1⟩
theorem PostA.own {d : List D} {v : List V} {fp : List Addr} (p : PostA P w K φ H ψ m1 H1 d v fp) : Post P w K φ H (ψ ++ fp) (imps d m1).2 H1 ∧ RVs P w K (φ ++ (ψ ++ fp)) H1 (imps d m1).1 v [] := by
  obtain ⟨q1, q2⟩ := imps_ok d m1 v (φ ++ ψ) fp p.rv p.cells p.nd fun a ha => (p.fr a ha).1
  rw [List.append_assoc] at q1 q2
  exact ⟨⟨p.ext, q2, p.wf, fun a ha => (List.mem_append.mp ha).elim (p.new a) fun z => (p.fr a z).2⟩, q1⟩
def seqD (m : Mem) (d : D) : Option (List D × Watch) := match d with
  | .str x => if x.cps.size ≤ 1000 then some (signs x, []) else none
  | d => (sqD m d).map fun r => (r.2.1, r.2.2)
def iSeq (f : EF) : IF := fun l m => match f l m with
  | some (d, m1) => (seqD (imp d m1).2 (imp d m1).1).map fun z => (z, (imp d m1).2)
  | none => none
theorem seqD_sq {d : D} {r : List D × Watch} (h : seqD m d = some r) : (∃ x, d = .str x ∧ x.cps.size ≤ 1000 ∧ r = (signs x, [])) ∨ ∃ b, sqD m d = some (b, r.1, r.2) := by
  unfold seqD at h
  split at h
  · rename_i x
    split at h
    · rename_i hx
      cases h
      exact .inl ⟨_, rfl, hx, rfl⟩
    · cases h
  · obtain ⟨q, e1, e2⟩ := Option.map_eq_some_iff.mp h
    cases e2
    exact .inr ⟨q.1, e1⟩
theorem ri_seq {te : TE} {f : EF} (h : RE P w K te f) : RI P w K (iAny K te) (iSeq f) := fun φ l m σ H r m' R Rl e k => by
  unfold iSeq at e
  cases q : f l m with
  | none => rw [q] at e; cases e
  | some p =>
    obtain ⟨d, m1⟩ := p
    simp only [q] at e
    obtain ⟨z, e1, e2⟩ := Option.map_eq_some_iff.mp e
    cases e2
    refine h φ l m σ H d m1 _ Rl q fun ψ H1 v fp p => ?_
    obtain ⟨po, rv⟩ := p.own
    have fr : ∀ a, H1 a = none → (fun a => H1 a = none) a := fun a h => h
    rcases seqD_sq e1 with ⟨x, hd, hx, rfl⟩ | ⟨b, hs⟩
    · rw [hd] at rv
      obtain ⟨rfl, _⟩ := rv
      refine .inr (.inr ⟨x, rfl, k _ H1 (fun _ => False) (fun a => H1 a = none) _ _ po (fun a z => z.elim) fr walk_str ⟨trivial, rfl, by simp⟩ (by intro k c z; cases z) ?_⟩)
      show (signs x).length ≤ sizeLine
      unfold signs
      rw [List.length_map, Array.length_toList]
      exact line1000 hx
    · obtain ⟨a, rfl, at_, ok⟩ := At.of hs rv
      obtain ⟨vs, sq, rs, hl⟩ := at_.read po.cells po.wf ok
      have W := walk_seq (P := P) (w := w) (K := K) (b := b) (wt := r.2) (a := a) (ds := r.1) (Mf := fun a => H1 a = none)
      have hl2 : r.1.length ≤ sizeLine := by rw [← rs.length]; exact hl
      cases b
      · exact .inr (.inl ⟨a, vs, rfl, sq, k _ H1 (fun _ => False) _ _ _ po (fun a u => u.elim) fr W ⟨at_, rfl, by simp⟩ ok hl2⟩)
      · exact .inl ⟨a, vs, rfl, sq, k _ H1 (fun _ => False) _ _ _ po (fun a u => u.elim) fr W ⟨at_, rfl, by simp⟩ ok hl2⟩
def rOk (i : Int) : Bool := decide (-(2 ^ 62) ≤ i) && decide (i < 2 ^ 62)
theorem rOk_iff {i : Int} (h : rOk i = true) : -(2 ^ 62) ≤ i ∧ i < 2 ^ 62 := by
  unfold rOk at h
  simpa using h
def iR1 (f : AF) : IF := fun l m => match f l m with
  | some ([.int j], m1) => if rOk j && decide (j.toNat ≤ 1000000) then some ((rngD 0 j.toNat, []), m1) else none
  | _ => none
def iR2 (f : AF) : IF := fun l m => match f l m with
  | some ([.int i, .int j], m1) => if rOk i && rOk j && decide ((j - i).toNat ≤ 1000000) then some ((rngD i (j - i).toNat, []), m1) else none
  | _ => none
theorem million {n : Nat} (h : n ≤ 1000000) : n ≤ sizeLine := Nat.le_trans h (by rw [sizeLine_eq]; decide)
theorem rngD_length (lo : Int) (n : Nat) : (rngD lo n).length = n := by simp [rngD]
theorem ri_r1 {ta : TA} {f : AF} (h : RA P w K ta f) : RI P w K (iRng1 ta) (iR1 f) := fun φ l m σ H r m' R Rl e k => by
  unfold iR1 at e
  split at e
  · rename_i j m1 q
    split at e
    · rename_i hg
      cases e
      simp only [Bool.and_eq_true, decide_eq_true_eq] at hg
      refine h φ l m σ H _ _ _ Rl q fun ψ H1 vs fp p => ?_
      obtain ⟨v, vs', f1, f2, rfl, _, ⟨rfl, _⟩, rfl, _⟩ := p.rv
      obtain ⟨h1, h2⟩ := rOk_iff hg.1
      exact ⟨j, rfl, h1, h2, k ψ H1 (fun _ => False) (fun a => H1 a = none) _ _ p.toPost (fun a z => z.elim) (fun a h => h) walk_rng ⟨trivial, rfl, by simp⟩ (by intro k c z; cases z) (by rw [rngD_length]; exact million hg.2)⟩
    · cases e
  · cases e
theorem ri_r2 {ta : TA} {f : AF} (h : RA P w K ta f) : RI P w K (iRng2 ta) (iR2 f) := fun φ l m σ H r m' R Rl e k => by
  unfold iR2 at e
  split at e
  · rename_i i j m1 q
    split at e
    · rename_i hg
      cases e
      simp only [Bool.and_eq_true, decide_eq_true_eq] at hg
      refine h φ l m σ H _ _ _ Rl q fun ψ H1 vs fp p => ?_
      obtain ⟨v, vs', f1, f2, rfl, _, ⟨rfl, _⟩, v2, vs2, f3, f4, rfl, _, ⟨rfl, _⟩, rfl, _⟩ := p.rv
      obtain ⟨h1, h2⟩ := rOk_iff hg.1.1
      obtain ⟨h3, h4⟩ := rOk_iff hg.1.2
      exact ⟨i, j, rfl, ⟨h1, h2, h3, h4⟩, k ψ H1 (fun _ => False) (fun a => H1 a = none) _ _ p.toPost (fun a z => z.elim) (fun a h => h) walk_rng ⟨trivial, rfl, by simp⟩ (by intro k c z; cases z) (by rw [rngD_length]; exact million hg.2)⟩
    · cases e
  · cases e
def iEn (f : AF) : IF := fun l m => match f l m with
  | some (ds, m1) => (match (imps ds m1).1 with
    | [d] => (sqD (imps ds m1).2 d).map fun z => ((enumD 0 z.2.1, z.2.2), (imps ds m1).2)
    | _ => none)
  | none => none
theorem ri_enum {ta : TA} {f : AF} (h : RA P w K ta f) : RI P w K (iEnumT K ta) (iEn f) := fun φ l m σ H r m' R Rl e k => by
  unfold iEn at e
  cases q : f l m with
  | none => rw [q] at e; cases e
  | some p =>
    obtain ⟨ds, m1⟩ := p
    simp only [q] at e
    split at e
    · rename_i d hd
      obtain ⟨z, e1, e2⟩ := Option.map_eq_some_iff.mp e
      cases e2
      refine h φ l m σ H ds m1 _ Rl q fun ψ H1 vs fp p => ?_
      obtain ⟨po, rv⟩ := p.own
      rw [hd] at rv
      obtain ⟨v, vs', f1, f2, rfl, ef, rv, rfl, _⟩ := rv
      obtain ⟨rfl, _⟩ := List.append_eq_nil_iff.mp ef.symm
      obtain ⟨b, zs, wt⟩ := z
      obtain ⟨a, rfl, at_, ok⟩ := At.of e1 rv
      obtain ⟨us, sq, rs, hl⟩ := at_.read po.cells po.wf ok
      have W := walk_enum (P := P) (w := w) (K := K) (b := b) (wt := wt) (a := a) (ds := zs) (Mf := fun a => H1 a = none)
      have hl2 : (enumD 0 zs).length ≤ sizeLine := by rw [enumD_length, ← rs.length]; exact hl
      refine ⟨a, us, rfl, ?_⟩
      cases b
      · exact .inr ⟨sq, k _ H1 (fun _ => False) _ _ _ po (fun a z => z.elim) (fun a h => h) W ⟨at_, rfl, by simp⟩ ok hl2⟩
      · exact .inl ⟨sq, k _ H1 (fun _ => False) _ _ _ po (fun a z => z.elim) (fun a h => h) W ⟨at_, rfl, by simp⟩ ok hl2⟩
    · cases e
def iZp (f : AF) : IF := fun l m => match f l m with
  | some (ds, m1) => (match (imps ds m1).1 with
    | [d, e] => (match sqD (imps ds m1).2 d, sqD (imps ds m1).2 e with
      | some (b, xs, wt), some (b', ys, wt') => if b = b' then some ((zipD xs ys, wt ++ wt'), (imps ds m1).2) else none
      | _, _ => none)
    | _ => none)
  | none => none
theorem ri_zip {ta : TA} {f : AF} (h : RA P w K ta f) : RI P w K (RZ.iZipA K ta) (iZp f) := fun φ l m σ H r m' R Rl e k => by
  unfold iZp at e
  cases q : f l m with
  | none => rw [q] at e; cases e
  | some p =>
    obtain ⟨ds, m1⟩ := p
    simp only [q] at e
    split at e
    · rename_i d d2 hd
      split at e
      · rename_i b xs wt b2 ys wt2 s1 s2
        split at e
        · rename_i hb
          subst hb
          cases e
          refine h φ l m σ H ds m1 _ Rl q fun ψ H1 vs fp p => ?_
          obtain ⟨po, rv⟩ := p.own
          rw [hd] at rv
          obtain ⟨v, vs', f1, f2, rfl, ef, rv, v2, vs2, f3, f4, rfl, ef2, rv2, rfl, _⟩ := rv
          obtain ⟨rfl, rfl⟩ := List.append_eq_nil_iff.mp ef.symm
          obtain ⟨rfl, _⟩ := List.append_eq_nil_iff.mp ef2.symm
          obtain ⟨a, rfl, at1, ok1⟩ := At.of s1 rv
          obtain ⟨a2, rfl, at2, ok2⟩ := At.of s2 rv2
          have at1 := at1.weak (wt' := wt ++ wt2) fun x hx => List.mem_append_left _ hx
          have at2 := at2.weak (wt' := wt ++ wt2) fun x hx => List.mem_append_right _ hx
          have ok : Watch.ok (wt ++ wt2) (imps ds m1).2 := fun k c z => (List.mem_append.mp z).elim (ok1 k c) (ok2 k c)
          obtain ⟨us, sq, rs, hl⟩ := at1.read po.cells po.wf ok
          obtain ⟨us2, sq2, rs2, hl2⟩ := at2.read po.cells po.wf ok
          have W := walk_zip (P := P) (w := w) (K := K) (b := b) (wt := wt ++ wt2) (a := a) (a2 := a2) (ds := xs) (es := ys) (Mf := fun a => H1 a = none)
          have hl3 : (zipD xs ys).length ≤ sizeLine := by
            refine Nat.le_trans (zipD_le xs ys) ?_
            rw [← rs.length]; exact hl
          refine ⟨a, a2, us, us2, rfl, ?_⟩
          cases b
          · exact .inr ⟨sq, sq2, k _ H1 (fun _ => False) _ _ _ po (fun a z => z.elim) (fun a h => h) W ⟨⟨at1, at2⟩, rfl, by simp⟩ ok hl3⟩
          · exact .inl ⟨sq, sq2, k _ H1 (fun _ => False) _ _ _ po (fun a z => z.elim) (fun a h => h) W ⟨⟨at1, at2⟩, rfl, by simp⟩ ok hl3⟩
        · cases e
      · cases e
    · cases e
def iRv (f : EF) : IF := fun l m => match f l m with
  | some (d, m1) => (sqD (imp d m1).2 (imp d m1).1).map fun z => ((z.2.1.reverse, z.2.2), (imp d m1).2)
  | none => none
theorem ri_rev {te : TE} {f : EF} (h : RE P w K te f) : RI P w K (RT.iRevA K te) (iRv f) := fun φ l m σ H r m' R Rl e k => by
  unfold iRv at e
  cases q : f l m with
  | none => rw [q] at e; cases e
  | some p =>
    obtain ⟨d, m1⟩ := p
    simp only [q] at e
    obtain ⟨z, e1, e2⟩ := Option.map_eq_some_iff.mp e
    cases e2
    refine h φ l m σ H d m1 _ Rl q fun ψ H1 v fp p => ?_
    obtain ⟨po, rv⟩ := p.own
    obtain ⟨b, zs, wt⟩ := z
    obtain ⟨a, rfl, at_, ok⟩ := At.of e1 rv
    obtain ⟨us, sq, rs, hl⟩ := at_.read po.cells po.wf ok
    have W := walk_rev (P := P) (w := w) (K := K) (b := b) (wt := wt) (a := a) (ds := zs) (n := us.length) rs.length (Mf := fun a => H1 a = none)
    have hl2 : zs.reverse.length ≤ sizeLine := by rw [List.length_reverse, ← rs.length]; exact hl
    refine ⟨a, us, rfl, ?_⟩
    cases b
    · exact .inr ⟨sq, k _ H1 (fun _ => False) _ _ _ po (fun a z => z.elim) (fun a h => h) W ⟨at_, rfl, by simp⟩ ok hl2⟩
    · exact .inl ⟨sq, k _ H1 (fun _ => False) _ _ _ po (fun a z => z.elim) (fun a h => h) W ⟨at_, rfl, by simp⟩ ok hl2⟩
end
end M3
set_option Elab.async false
set_option linter.all false
set_option autoImplicit false
set_option maxRecDepth 100000
set_option maxHeartbeats 1000000
/-! The D layer, Z: rules for walks and comprehensions. -/
namespace M3
open PySem PySem.Spec PyProof.Rows L2

theorem pi_any {X : Cx} {tg e : Expr} {te : TE} (he : PE X e te) : PI X tg e (iAny X.K te) := by
  refine ⟨fun pins s σ H R I h => ?_⟩
  refine thn (he.run pins s σ H _ I h) fun v s1 ⟨x, H1, I1, r1, q1⟩ => ?_
  rcases q1 with ⟨a, xs, e, hq, q⟩ | ⟨a, xs, e, hq, q⟩ | ⟨x, ex, q⟩
  · subst e
    cases r1
    obtain ⟨its, rv, p, hz⟩ := I1.list hq
    refine wpAny_pyIter_list p.isList ?_
    refine ⟨s1.heap.objs.size, [s1.heap.objs.size], _, _, H1, rfl, I1.kept (t' := s1.toks) fun b o e => Heap.get?_push_of_some _ e, turn_list a _, ⟨_, Heap.get?_push_size _ rfl, rfl, rfl⟩, fun b hb => ?_, q⟩
    have e : b = s1.heap.objs.size := by simpa using hb
    subst e
    exact I1.fpOk (Nat.le_refl _) (I1.hok.fresh (Nat.le_refl _))
  · subst e
    cases r1
    obtain ⟨its, rv, p, hz⟩ := I1.tuple hq
    refine wpAny_pyIter_tuple (show s1.heap.IsTuple a its.toArray from p) ?_
    refine ⟨s1.heap.objs.size, [s1.heap.objs.size], _, _, H1, rfl, I1.kept (t' := s1.toks) fun b o e => Heap.get?_push_of_some _ e, turn_tuple a _, ⟨_, Heap.get?_push_size _ rfl, rfl, rfl⟩, fun b hb => ?_, q⟩
    have e : b = s1.heap.objs.size := by simpa using hb
    subst e
    exact I1.fpOk (Nat.le_refl _) (I1.hok.fresh (Nat.le_refl _))
  · subst ex
    obtain ⟨t, rfl⟩ := r1
    cases ha : x.cps.all (· < 128)
    · exact wpAny_pyIter_wide ha (pi_one (tk := s1.toks) I1 _ (turn_str _ x t "str_iterator" (.inr rfl)) ⟨_, Heap.get?_push_size _ rfl, rfl, rfl⟩ q)
    · exact wpAny_pyIter_ascii ha (pi_one (tk := s1.toks) I1 _ (turn_str _ x t "str_ascii_iterator" (.inl rfl)) ⟨_, Heap.get?_push_size _ rfl, rfl, rfl⟩ q)
section
variable {X : Cx} {e e2 tg : Expr} {elts : List Expr} {kk : Nat} {tpos p pos : Pos} {f g : EF} {af : AF}
theorem di_seq (he : DE X e f) : DI X tg e (iSeq f) := by obtain ⟨t, h1, h2⟩ := he.ex; exact ⟨_, pi_any h1, ri_seq h2⟩
theorem di_r1 (hg : Gl X "range") (hm : X.mg "range" = none) (he : DE X e f) (hs : starEach [e] X.env = [(false, eval e X.env)] := by rfl) : DI X tg (.Call (.Name "range" p) [e] [] pos) (iR1 (a1 f)) := by
  obtain ⟨t, h1, h2⟩ := he.ex
  exact ⟨_, pi_range1 hg hm (pa_cons h1 pa_nil hs) hs, ri_r1 (ra_cons h2 ra_nil)⟩
theorem di_r2 (hg : Gl X "range") (hm : X.mg "range" = none) (he : DE X e f) (he2 : DE X e2 g) (hs : starEach [e, e2] X.env = [(false, eval e X.env), (false, eval e2 X.env)] := by rfl) (hs2 : starEach [e2] X.env = [(false, eval e2 X.env)] := by rfl) :
    DI X tg (.Call (.Name "range" p) [e, e2] [] pos) (iR2 (a2 f g)) := by
  obtain ⟨t, h1, h2⟩ := he.ex
  obtain ⟨u, h3, h4⟩ := he2.ex
  exact ⟨_, pi_range2 hg hm (pa_cons h1 (pa_cons h3 pa_nil hs2) (by rw [hs, hs2])) hs hs2, ri_r2 (ra_cons h2 (ra_cons h4 ra_nil))⟩
theorem di_enum (hg : Gl X "enumerate") (hm : X.mg "enumerate" = none) (he : DE X e f) (hs : starEach [e] X.env = [(false, eval e X.env)] := by rfl) : DI X (.Tuple elts kk tpos) (.Call (.Name "enumerate" p) [e] [] pos) (iEn (a1 f)) := by
  obtain ⟨t, h1, h2⟩ := he.ex
  exact ⟨_, pi_enumA hg hm (pa_cons h1 pa_nil hs) hs, ri_enum (ra_cons h2 ra_nil)⟩
theorem di_zip (hg : Gl X "zip") (hm : X.mg "zip" = none) (he : DE X e f) (he2 : DE X e2 g) (hs : starEach [e, e2] X.env = (false, eval e X.env) :: starEach [e2] X.env := by rfl) (hs2 : starEach [e2] X.env = [(false, eval e2 X.env)] := by rfl)
    (hpl : (backTo pos (starEach [e2] X.env)).any (·.1) = false := by rfl) : DI X (.Tuple elts kk tpos) (.Call (.Name "zip" p) [e, e2] [] pos) (iZp (a2 f g)) := by
  obtain ⟨t, h1, h2⟩ := he.ex
  obtain ⟨u, h3, h4⟩ := he2.ex
  exact ⟨_, RZ.pi_zipA hg hm (pa_cons h1 (pa_cons h3 pa_nil hs2) hs) hs hpl, ri_zip (ra_cons h2 (ra_cons h4 ra_nil))⟩
theorem di_rev (hg : Gl X "reversed") (hm : X.mg "reversed" = none) (he : DE X e f) (hs : starEach [e] X.env = (false, eval e X.env) :: starEach [] X.env := by rfl) : DI X tg (.Call (.Name "reversed" p) [e] [] pos) (iRv f) := by
  obtain ⟨t, h1, h2⟩ := he.ex
  exact ⟨_, RT.pi_revA hg hm h1 hs, ri_rev h2⟩
end
/-! ### what a function says, as a way -/
section
variable (P : Program) (w : World) (K : PySem.W.Frag)
def canE (f : EF) : TE := fun σ H Q => ∃ φ l m d m', Rel P w K φ l m σ H ∧ f l m = some (d, m') ∧ ∀ ψ H' v fp, PostV P w K φ H ψ m' H' d v fp → Q v H'
def canT (f : TF) : TT := fun σ H Q => ∃ φ l m b m', Rel P w K φ l m σ H ∧ f l m = some (b, m') ∧ ∀ ψ H', Post P w K φ H ψ m' H' → Q b H'
def canG (g : GT) (is : List Nat) : TG := fun v σ H Q => ∃ φ l m d fp l' m', Rel P w K φ l m σ H ∧ RV P w K φ H d v fp ∧ fp.Nodup ∧ (∀ a ∈ fp, a ∉ φ) ∧ g d l m = some (l', m') ∧
  ∀ σ', Rel P w K (φ ++ fp) l' m' σ' H → (∀ k, k < m.length → m'[k]? = m[k]?) → Touch is σ σ' → Q σ' H
def canI (f : IF) : TI := fun σ H R => ∃ φ l m r m', Rel P w K φ l m σ H ∧ f l m = some (r, m') ∧
  ∀ ψ H' N Mf J S, Post P w K φ H ψ m' H' → (∀ a, N a → H a = none) → (∀ a, H' a = none → Mf a) → Walks P w K N Mf J r.2 S → S 0 r.1 (φ ++ ψ) m' H' → r.2.ok m' → r.1.length ≤ sizeLine → R J H'
end
section
variable {P : Program} {w : World} {K : PySem.W.Frag}
theorem re_can (f : EF) : RE P w K (canE P w K f) f := fun φ l m σ H d m' Q R e k => ⟨φ, l, m, d, m', R, e, k⟩
theorem rt_can (f : TF) : RT P w K (canT P w K f) f := fun φ l m σ H d m' Q R e k => ⟨φ, l, m, d, m', R, e, k⟩
theorem rg_can (g : GT) (is : List Nat) : RG P w K (canG P w K g is) g is := fun φ l m σ H v d fp l' m' Q R r nd n e k => ⟨φ, l, m, d, fp, l', m', R, r, nd, n, e, k⟩
theorem ri_can (f : IF) : RI P w K (canI P w K f) f := fun φ l m σ H r m' Q R e k => ⟨φ, l, m, r, m', R, e, k⟩
end
section
variable {X : Cx}
theorem DE.can {e : Expr} {f : EF} (h : DE X e f) : PE X e (canE X.prog X.w X.K f) := by
  obtain ⟨t, h1, h2⟩ := h.ex
  exact ⟨fun pins s σ H Q I ⟨φ, l, m, d, m', R, e, k⟩ => h1.run pins s σ H Q I (h2 φ l m σ H d m' Q R e k)⟩
theorem DT.can {e : Expr} {f : TF} (h : DT X e f) : PT X e (canT X.prog X.w X.K f) := by
  obtain ⟨t, h1, h2⟩ := h.ex
  exact ⟨fun pins s σ H Q I ⟨φ, l, m, d, m', R, e, k⟩ => h1.run pins s σ H Q I (h2 φ l m σ H d m' Q R e k)⟩
theorem DG.can {e : Expr} {g : GT} {is : List Nat} (h : DG X e g is) : PG X e (canG X.prog X.w X.K g is) := by
  obtain ⟨t, h1, h2⟩ := h.ex
  exact ⟨fun pins s σ H v u Q I r ⟨φ, l, m, d, fp, l', m', R, rv, nd, n, e, k⟩ => h1.run pins s σ H v u Q I r (h2 φ l m σ H v d fp l' m' Q R rv nd n e k)⟩
theorem DI.can {tg e : Expr} {f : IF} (h : DI X tg e f) : PI X tg e (canI X.prog X.w X.K f) := by
  obtain ⟨t, h1, h2⟩ := h.ex
  exact ⟨fun pins s σ H Q I ⟨φ, l, m, d, m', R, e, k⟩ => h1.run pins s σ H Q I (h2 φ l m σ H d m' Q R e k)⟩
/-- the tests of a comprehension -/
structure DTs (X : Cx) (es : List Expr) (f : TF) : Prop where
  ex : ∃ t, PTs X es t ∧ RT X.prog X.w X.K t f
theorem dts_nil : DTs X [] tYesF := ⟨_, pts_nil, rt_yes⟩
theorem dts_one {e : Expr} {f : TF} (h : DT X e f) : DTs X [e] f := by obtain ⟨t, h1, h2⟩ := h.ex; exact ⟨_, pts_one h1, h2⟩
theorem DTs.can {es : List Expr} {f : TF} (h : DTs X es f) : PTs X es (canT X.prog X.w X.K f) := by
  obtain ⟨t, h1, h2⟩ := h.ex
  exact ⟨fun pins s σ H Q I ⟨φ, l, m, d, m', R, e, k⟩ => h1.run pins s σ H Q I (h2 φ l m σ H d m' Q R e k)⟩
variable {elt tg iter : Expr} {ifs : List Expr} {scope : Scope} {own : List (Str × Nat)} {pos : Pos} {fi : IF} {g : GT} {is : List Nat} {c : TF} {f : EF}
theorem de_comp (own : List (Str × Nat)) (hc : X.calm = true) (hN : X.N.Nodup) (hi : DI X tg iter fi) (ok : blkC X.N X.env.scope scope own = true)
    (hb : ∀ (s : Shared) (H : Hp) (C : Addr) (cl : List (Str × Addr)) (fp : List Addr), DG (X.blk s H scope (compEnvC scope cl C X.env) fp) tg g is ∧ DTs (X.blk s H scope (compEnvC scope cl C X.env) fp) ifs c ∧ DE (X.blk s H scope (compEnvC scope cl C X.env) fp) elt f)
    (his : ∀ j ∈ is, j ∈ own.map (·.2)) (hs : ∀ x, foldedSetIterable iter X.env x = pure x := by intro _; rfl) :
    DE X (.ListComp elt [⟨tg, iter, ifs, 0⟩] scope pos) (fComp fi g c f (own.map (·.2))) := by
  obtain ⟨ti, i1, i2⟩ := hi.ex
  exact ⟨_, pe_lc hc hN i1 (blkOk_by ok) (fun s H C cl fp => (hb s H C cl fp).1.can) (fun s H C cl fp => (hb s H C cl fp).2.1.can) (fun s H C cl fp => (hb s H C cl fp).2.2.can) hs, re_comp i2 (rg_can g is) his (rt_can c) (re_can f)⟩
/-- name = [..] on one line -/
theorem ds_setC {i : Nat} {y : Str} {py spos : Pos} (own : List (Str × Nat)) (hc : X.calm = true) (hN : X.N.Nodup) (hi : DI X tg iter fi) (ok : blkC X.N X.env.scope scope own = true)
    (hb : ∀ (s : Shared) (H : Hp) (C : Addr) (cl : List (Str × Addr)) (fp : List Addr), DG (X.blk s H scope (compEnvC scope cl C X.env) fp) tg g is ∧ DTs (X.blk s H scope (compEnvC scope cl C X.env) fp) ifs c ∧ DE (X.blk s H scope (compEnvC scope cl C X.env) fp) elt f)
    (his : ∀ j ∈ is, j ∈ own.map (·.2)) (hk : X.env.scope.kind = .function := by rfl) (hy : X.N[i]? = some y := by rfl) (hyl : X.env.scope.names.lookup y = some .local := by rfl) (hl : (py.line == pos.line) = true := by rfl)
    (ha : (scope.names.any fun (n, k) => n == y && (k == .local || k == .cell)) = false := by rfl) (hs : ∀ x, foldedSetIterable iter X.env x = pure x := by intro _; rfl) :
    DS X (.Assign [.Name y py] (.ListComp elt [⟨tg, iter, ifs, 0⟩] scope pos) spos) (sAsg (fComp fi g c f (own.map (·.2))) (gNm i)) := by
  obtain ⟨ti, i1, i2⟩ := hi.ex
  exact ⟨_, ps_setLc hc hN hy hyl (sw_true hk hyl hl ha) i1 (blkOk_by ok) (fun s H C cl fp => (hb s H C cl fp).1.can) (fun s H C cl fp => (hb s H C cl fp).2.1.can) (fun s H C cl fp => (hb s H C cl fp).2.2.can) hs, rs_asg (re_comp i2 (rg_can g is) his (rt_can c) (re_can f)) (rg_name i)⟩
end
end M3
set_option Elab.async false
set_option linter.all false
set_option autoImplicit false
set_option maxRecDepth 100000
set_option maxHeartbeats 1000000
/-! The D layer, M: methods, in, is, stores into lists. -/
namespace M3
open PySem PySem.Spec PyProof.Rows L2

section
variable {P : Program} {w : World} {K : PySem.W.Frag} {φ ψ ψ2 : List Addr} {H H1 H2 : Hp} {l : Loc} {m m1 m2 : Mem} {σ : L2.St}
/-! ### a cell is written -/
theorem ext_write {a : Addr} {o : HO} (hk : a ∈ φ) (im : Imm K H (upd H a o)) : Ext K φ H (upd H a o) where
  toImm := im
  keep := fun b u e n => by rw [upd_ne (fun z => n (by rw [z]; exact hk))]; exact e
  there := fun b u e => by
    by_cases h : b = a
    · rw [h]; exact ⟨o, upd_same⟩
    · rw [upd_ne h]; exact ⟨u, e⟩
theorem Cells.write {k : Nat} {a : Addr} {o : HO} {c : D} (C : Cells P w K φ H m) (hk : φ[k]? = some a) (im : Imm K H (upd H a o)) (r : RV P w K φ (upd H a o) c (.ref a) [a]) : Cells P w K φ (upd H a o) (m.set k c) where
  len := by rw [List.length_set]; exact C.len
  nd := C.nd
  at_ := fun i b c' hb hc => by
    by_cases h : i = k
    · subst h
      rw [hk] at hb
      cases hb
      have hl : i < m.length := by rw [← C.len]; exact (List.getElem?_eq_some_iff.mp hk).1
      rw [List.getElem?_set_self hl] at hc
      cases hc
      exact r
    · rw [List.getElem?_set_ne (Ne.symm h)] at hc
      have hab : b ≠ a := fun z => by
        subst z
        exact h ((List.getElem?_inj (List.getElem?_eq_some_iff.mp hb).1 C.nd).mp (hb.trans hk.symm))
      have := RV.mono (ψ := []) im c' (.ref b) [b] (fun x hx u e => by
        obtain rfl : x = b := by simpa using hx
        rw [upd_ne hab]; exact e) (C.at_ i b c' hb hc)
      rw [List.append_nil] at this
      exact this
/-- a list's cell -/
theorem Cells.lst {k : Nat} {a : Addr} {ds : List D} (C : Cells P w K φ H m) (ha : φ[k]? = some a) (hk : m[k]? = some (.lst ds)) : ∃ vs, H a = some (.lst vs) ∧ RVs P w K φ H ds vs [] := by
  obtain ⟨a', vs, f, e, hA, ef, r⟩ := C.at_ k a _ ha hk
  cases e
  have ef' : f ++ [a] = [] ++ [a] := ef.symm
  obtain rfl := List.append_cancel_right ef'
  exact ⟨vs, hA, r⟩
theorem RVs.lstStay {a : Addr} {vs acc : List V} {ds : List D} {us : List V} (hA : H a = some (.lst vs)) (r : RVs P w K φ H ds us []) : RVs P w K φ (upd H a (.lst acc)) ds us [] := by
  have := RVs.mono (ψ := []) (imm_lst (K := K) (acc := acc) (.inr ⟨vs, hA⟩)) ds us [] (by simp) r
  rw [List.append_nil] at this
  exact this
theorem RV.lstStay {a : Addr} {vs acc : List V} {d : D} {u : V} (hA : H a = some (.lst vs)) (r : RV P w K φ H d u []) : RV P w K φ (upd H a (.lst acc)) d u [] := by
  have := RV.mono (ψ := []) (imm_lst (K := K) (acc := acc) (.inr ⟨vs, hA⟩)) d u [] (by simp) r
  rw [List.append_nil] at this
  exact this
/-- a list's cell gets other items -/
theorem write_lst {k : Nat} {a : Addr} {vs us : List V} {es : List D} (C : Cells P w K φ H m) (W : Wf H) (ha : φ[k]? = some a) (hA : H a = some (.lst vs)) (r : RVs P w K φ H es us []) (hl : us.length ≤ sizeLine) :
    Ext K φ H (upd H a (.lst us)) ∧ Cells P w K φ (upd H a (.lst us)) (m.set k (.lst es)) ∧ Wf (upd H a (.lst us)) := by
  have im := imm_lst (K := K) (acc := us) (.inr ⟨vs, hA⟩)
  refine ⟨ext_write (List.mem_of_getElem? ha) im, C.write ha im ⟨a, us, [], rfl, upd_same, rfl, r.lstStay hA⟩, wf_lst W hl⟩
/-! ### o.m(..) -/
def fBM (ok : Mem → D → Bool) (g : GF) (f : EF) (af : AF) : EF := fun l m => match f l m with
  | some (d, m1) => if ok m1 d then (match af l m1 with
    | some (ds, m2) => g m2 (d :: ds)
    | none => none) else none
  | none => none
def mtW (r : V → List V → Hp → VK → Prop) : List V → Hp → VK → Prop := fun vs H Q => match vs with
  | x :: xs => r x xs H Q
  | [] => False
def okL (m : Mem) : D → Bool
  | .lst _ => true
  | .fl _ => true
  | .ref k => match m[k]? with
    | some (.lst _) => true
    | _ => false
  | _ => false
def okS (_ : Mem) : D → Bool
  | .str _ => true
  | _ => false
theorem okL_ty {d : D} {v : V} {fp : List Addr} (C : Cells P w K φ H m) (r : RV P w K φ H d v fp) (h : okL m d = true) : tyV K "list" v H := by
  unfold okL at h
  split at h
  · obtain ⟨a, vs, f, rfl, hA, _⟩ := r
    exact .inl ⟨rfl, vs, .inl (.inl hA)⟩
  · obtain ⟨a, vs, rfl, hA, _⟩ := r
    exact .inl ⟨rfl, vs, hA.sq⟩
  · split at h
    · rename_i k ds hk
      obtain ⟨a, rfl, ha, _⟩ := r
      obtain ⟨vs, hA, _⟩ := C.lst ha hk
      exact .inl ⟨rfl, vs, .inl (.inl hA)⟩
    · cases h
  · cases h
theorem okS_ty {d : D} {v : V} {fp : List Addr} (C : Cells P w K φ H m) (r : RV P w K φ H d v fp) (h : okS m d = true) : tyV K "str" v H := by
  unfold okS at h
  split at h
  · obtain ⟨rfl, _⟩ := r
    rfl
  · cases h
def OkTy (P : Program) (w : World) (K : PySem.W.Frag) (ok : Mem → D → Bool) (T : String) : Prop := ∀ {φ m H d v fp}, Cells P w K φ H m → RV P w K φ H d v fp → ok m d = true → tyV K T v H
theorem re_bm {T : String} {ok : Mem → D → Bool} {r : V → List V → Hp → VK → Prop} {g : GF} {to : TE} {f : EF} {ta : TA} {af : AF} (hT : OkTy P w K ok T) (ho : RE P w K to f) (ha : RA P w K ta af) (hr : RW P w K (mtW r) g) : RE P w K (tBM K T r to ta) (fBM ok g f af) := fun φ l m σ H d m' Q R e k => by
  unfold fBM at e
  cases q : f l m with
  | none => rw [q] at e; cases e
  | some p1 =>
    obtain ⟨d1, m1⟩ := p1
    simp only [q] at e
    split at e
    · rename_i hok
      cases q2 : af l m1 with
      | none => simp only [q2] at e; cases e
      | some p2 =>
        obtain ⟨ds, m2⟩ := p2
        simp only [q2] at e
        refine ho φ l m σ H d1 m1 _ R q fun ψ H1 v fp p => ⟨hT p.cells p.rv hok, ?_⟩
        refine ha (φ ++ ψ) l m1 σ H1 ds m2 _ (R.step p.toPost) q2 fun ψ2 H2 vs fps p2 => ?_
        have pa := PostA.cons p p2
        exact hr (φ ++ (ψ ++ ψ2)) m2 H2 (d1 :: ds) (v :: vs) (fp ++ fps) d m' _ pa.cells pa.wf pa.rv pa.nd (fun x hx => (pa.fr x hx).1) e fun ψ3 H3 v3 fp3 p3 => k _ _ _ _ (PostW.toV pa p3)
    · cases e
theorem re_bm0 {T : String} {ok : Mem → D → Bool} {r : V → List V → Hp → VK → Prop} {g : GF} {to : TE} {f : EF} (hT : OkTy P w K ok T) (ho : RE P w K to f) (hr : RW P w K (mtW r) g) : RE P w K (tBM0 K T r to) (fBM ok g f aNil) := fun φ l m σ H d m' Q R e k => by
  unfold fBM at e
  cases q : f l m with
  | none => rw [q] at e; cases e
  | some p1 =>
    obtain ⟨d1, m1⟩ := p1
    simp only [q] at e
    split at e
    · rename_i hok
      refine ho φ l m σ H d1 m1 _ R q fun ψ H1 v fp p => ⟨hT p.cells p.rv hok, ?_⟩
      have pa : PostA P w K φ H ψ m1 H1 [d1] [v] fp := ⟨p.toPost, ⟨v, [], fp, [], rfl, by simp, p.rv, ⟨rfl, rfl⟩⟩, p.nd, p.fr⟩
      exact hr (φ ++ ψ) m1 H1 [d1] [v] fp d m' _ pa.cells pa.wf pa.rv pa.nd (fun x hx => (pa.fr x hx).1) e fun ψ3 H3 v3 fp3 p3 => k _ _ _ _ (PostW.toV pa p3)
    · cases e
/-! lists -/
def gAppend : GF := fun m ds => match ds with
  | [.ref k, d] => (match (imp d m).2[k]? with
    | some (.lst xs) => if xs.length ≤ 1000000 then some (.non, (imp d m).2.set k (.lst (xs ++ [(imp d m).1]))) else none
    | _ => none)
  | _ => none
theorem million1 {n : Nat} (h : n ≤ 1000000) : n < sizeLine := Nat.lt_of_le_of_lt h (by rw [sizeLine_eq]; decide)
theorem rw_append : RW P w K (mtW rAppend) gAppend := fun φ m H ds vs fp d m' Q C W r nd n e k => by
  unfold gAppend at e
  split at e
  · rename_i k0 d0
    split at e
    · rename_i xs hk
      split at e
      · rename_i hl
        cases e
        obtain ⟨u, v, f, g, rfl, rfl, r1, r2⟩ := r.two
        obtain ⟨a, rfl, ha, rfl⟩ := r1
        rw [List.nil_append] at *
        obtain ⟨q1, q2⟩ := imp_ok d0 m v φ g r2 C nd n
        have ha' : (φ ++ g)[k0]? = some a := by rw [List.getElem?_append_left (List.getElem?_eq_some_iff.mp ha).1]; exact ha
        obtain ⟨us, hA, rs⟩ := q2.lst ha' hk
        have hl2 : us.length ≤ 1000000 := by rw [rs.length]; exact hl
        have hz : (us ++ [v]).length ≤ sizeLine := by rw [List.length_append]; exact million1 hl2
        have rs2 : RVs P w K (φ ++ g) H (xs ++ [(imp d0 m).1]) (us ++ [v]) [] := RVs.snoc rs q1
        obtain ⟨x1, x2, x3⟩ := write_lst q2 W ha' hA rs2 hz
        exact ⟨a, us, v, rfl, rfl, hA, million1 hl2, k g _ .non [] ⟨x1, x2, x3, fun a ha => .inl ha, ⟨rfl, rfl⟩, by simp, by simp⟩⟩
      · cases e
    · cases e
  · cases e
/-- the items of a list (a cell, one just made) -/
def gExtend : GF := fun m ds => match ds with
  | [.ref k, d] => (match (imp d m).1 with
    | .ref j => (match (imp d m).2[k]?, (imp d m).2[j]? with
      | some (.lst xs), some (.lst ys) => if xs.length + ys.length ≤ 1000000 then some (.non, (imp d m).2.set k (.lst (xs ++ ys))) else none
      | _, _ => none)
    | _ => none)
  | _ => none
theorem rw_extend : RW P w K (mtW rExtend) gExtend := fun φ m H ds vs fp d m' Q C W r nd n e k => by
  unfold gExtend at e
  split at e
  · rename_i k0 d0
    split at e
    · rename_i j hj
      split at e
      · rename_i xs ys hk hk2
        split at e
        · rename_i hl
          cases e
          obtain ⟨u, v, f, g, rfl, rfl, r1, r2⟩ := r.two
          obtain ⟨a, rfl, ha, rfl⟩ := r1
          rw [List.nil_append] at *
          obtain ⟨q1, q2⟩ := imp_ok d0 m v φ g r2 C nd n
          rw [hj] at q1
          obtain ⟨b, rfl, hb, _⟩ := q1
          have ha' : (φ ++ g)[k0]? = some a := by rw [List.getElem?_append_left (List.getElem?_eq_some_iff.mp ha).1]; exact ha
          obtain ⟨us, hA, rs⟩ := q2.lst ha' hk
          obtain ⟨us2, hB, rs2⟩ := q2.lst hb hk2
          have e1 := rs.length
          have e2 := rs2.length
          have hz : (us ++ us2).length ≤ sizeLine := by rw [List.length_append, e1, e2]; exact million hl
          obtain ⟨x1, x2, x3⟩ := write_lst q2 W ha' hA (RVs.append rs rs2) hz
          exact ⟨a, b, us, us2, rfl, rfl, hA, hB, by rw [e1, e2]; exact million hl, k g _ .non [] ⟨x1, x2, x3, fun a ha => .inl ha, ⟨rfl, rfl⟩, by simp, by simp⟩⟩
        · cases e
      · cases e
    · cases e
  · cases e
theorem RVs.reverse : ∀ {ds : List D} {vs : List V}, RVs P w K φ H ds vs [] → RVs P w K φ H ds.reverse vs.reverse []
  | [], vs, h => by obtain ⟨rfl, _⟩ := h; exact ⟨rfl, rfl⟩
  | d :: ds, vs, h => by
    obtain ⟨v, vs', f, g, rfl, e, h1, h2⟩ := h
    obtain ⟨rfl, rfl⟩ := List.append_eq_nil_iff.mp e.symm
    rw [List.reverse_cons, List.reverse_cons]
    exact RVs.snoc (RVs.reverse h2) h1
def gWr (g : List D → List D) : GF := fun m ds => match ds with
  | [.ref k] => (match m[k]? with
    | some (.lst xs) => some (.non, m.set k (.lst (g xs)))
    | _ => none)
  | _ => none
def gReverse : GF := gWr List.reverse
def gClear : GF := gWr fun _ => []
theorem rw_reverse : RW P w K (mtW rReverse) gReverse := fun φ m H ds vs fp d m' Q C W r nd n e k => by
  unfold gReverse gWr at e
  split at e
  · rename_i k0
    split at e
    · rename_i xs hk
      cases e
      obtain ⟨u, rfl, r1⟩ := r.one
      obtain ⟨a, rfl, ha, rfl⟩ := r1
      obtain ⟨us, hA, rs⟩ := C.lst ha hk
      obtain ⟨x1, x2, x3⟩ := write_lst C W ha hA rs.reverse (by rw [List.length_reverse]; exact W.lst a us hA)
      exact ⟨a, us, rfl, rfl, hA, k [] _ .non [] ⟨by rw [List.append_nil]; exact x1, by rw [List.append_nil]; exact x2, x3, by simp, ⟨rfl, rfl⟩, by simp, by simp⟩⟩
    · cases e
  · cases e
theorem rw_clear : RW P w K (mtW rClear) gClear := fun φ m H ds vs fp d m' Q C W r nd n e k => by
  unfold gClear gWr at e
  split at e
  · rename_i k0
    split at e
    · rename_i xs hk
      cases e
      obtain ⟨u, rfl, r1⟩ := r.one
      obtain ⟨a, rfl, ha, rfl⟩ := r1
      obtain ⟨us, hA, rs⟩ := C.lst ha hk
      obtain ⟨x1, x2, x3⟩ := write_lst C W ha hA (es := []) (us := []) ⟨rfl, rfl⟩ (Nat.zero_le _)
      exact ⟨a, us, rfl, rfl, hA, k [] _ .non [] ⟨by rw [List.append_nil]; exact x1, by rw [List.append_nil]; exact x2, x3, by simp, ⟨rfl, rfl⟩, by simp, by simp⟩⟩
    · cases e
  · cases e
/-- l.index(x): the first place of an equal one, deep -/
def idxP (p : PyData) : List PyData → Nat → Option Nat
  | [], _ => none
  | q :: qs, i => if PyData.eqv q p then some i else idxP p qs (i + 1)
theorem idxP_ok {p : PyData} : ∀ {qs : List PyData} {i j : Nat}, idxP p qs i = some j → ∃ k z, j = i + k ∧ qs[k]? = some z ∧ PyData.eqv z p = true ∧ ∀ (m : Nat) (z' : PyData), m < k → qs[m]? = some z' → PyData.eqv z' p = false
  | [], i, j, h => by cases h
  | q :: qs, i, j, h => by
    unfold idxP at h
    split at h
    · rename_i hq
      cases h
      exact ⟨0, q, rfl, rfl, hq, by omega⟩
    · rename_i hq
      obtain ⟨k, z, e1, e2, e3, e4⟩ := idxP_ok h
      refine ⟨k + 1, z, by omega, e2, e3, fun m z' hm hz => ?_⟩
      cases m with
      | zero => cases hz; simpa using hq
      | succ m => exact e4 m z' (by omega) hz
def gIndex : GF := fun m ds => match ds with
  | [x, y] => (match snap m x, snap m y with
    | some (.list qs), some p => if SeqAt.shaped p = true ∧ SeqAt.shaped (.list qs) = true then (idxP p qs 0).map fun i : Nat => (D.int (Int.ofNat i), m) else none
    | _, _ => none)
  | _ => none
theorem rw_index : RW P w K (mtW (rIndexD K)) gIndex := fun φ m H ds vs fp d m' Q C W r nd n e k => by
  unfold gIndex at e
  split at e
  · split at e
    · rename_i qs p h1 h2
      split at e
      · rename_i hs
        obtain ⟨i, e1, e2⟩ := Option.map_eq_some_iff.mp e
        cases e2
        obtain ⟨u, v, f, g, rfl, rfl, r1, r2⟩ := r.two
        obtain ⟨k2, z, rfl, hz, he, hno⟩ := idxP_ok e1
        have hd := snap_ok C r1 h1
        have hx : ∃ a, u = .ref a := by cases hd; exact ⟨_, rfl⟩
        obtain ⟨a, rfl⟩ := hx
        refine ⟨a, v, p, qs, k2, z, rfl, rfl, hd, snap_ok C r2 h2, hs.2, hs.1, hz, he, hno, ?_⟩
        exact k _ _ _ _ (postW_flat C W ⟨by rw [Nat.zero_add]; rfl, rfl⟩)
      · cases e
    · cases e
  · cases e
/-- text.index(part) -/
def rSindex : V → List V → Hp → VK → Prop := fun x xs H Q => ∃ a b i rest, x = .str a ∧ xs = [.str b] ∧ Builtin.Str.occurrences a b 0 a.length 1 = i :: rest ∧ Q (.int (i : Nat)) H
def gSindex : GF := fun m ds => match ds with
  | [.str a, .str b] => (match Builtin.Str.occurrences a b 0 a.length 1 with
    | i :: _ => some (.int ((i : Nat) : Int), m)
    | [] => none)
  | _ => none
theorem rw_sindex : RW P w K (mtW rSindex) gSindex := fun φ m H ds vs fp d m' Q C W r nd n e k => by
  unfold gSindex at e
  split at e
  · rename_i a b
    split at e
    · rename_i i rest ho
      cases e
      obtain ⟨u, v, f, g, rfl, rfl, ⟨rfl, _⟩, ⟨rfl, _⟩⟩ := r.two
      exact ⟨a, b, i, rest, rfl, rfl, ho, k _ _ _ _ (postW_flat C W ⟨rfl, rfl⟩)⟩
    · cases e
  · cases e
/-! ### in, not in -/
def rInDA (K : PySem.W.Frag) (neg : Bool) : R2 := fun x y H Q => ∃ d ds, Dp K H x d ∧ (Dp K H y (.list ds) ∨ Dp K H y (.tuple ds)) ∧ SeqAt.shaped d = true ∧ SeqAt.shaped (.list ds) = true ∧ Q (.bl (if neg then !(ds.any fun z => PyData.eqv z d) else ds.any fun z => PyData.eqv z d)) H
theorem op_inDA {X : Cx} (hu : X.A.units + 65 < cLine) : OpR X (compareOp .In) (rInDA X.K false) := by
  intro pins s σ H x y v u Q I rx ry h
  obtain ⟨d, ds, hd, he, sd, se, q⟩ := h
  obtain ⟨as, r1⟩ := Dp.reads I d x v hd rx
  rcases he with he | he
  · obtain ⟨bs, r2⟩ := Dp.reads I (.list ds) y u he ry
    exact SeqAt.in_list_reads r2 r1 (SeqAt.canLay_of_shaped se) (SeqAt.canLay_of_shaped sd) (room_in_shaped sd hu) ⟨.bl _, H, I, rfl, q⟩
  · obtain ⟨bs, r2⟩ := Dp.reads I (.tuple ds) y u he ry
    exact SeqAt.in_tuple_reads r2 r1 (SeqAt.canLay_of_shaped se) (SeqAt.canLay_of_shaped sd) (room_in_shaped sd hu) ⟨.bl _, H, I, rfl, q⟩
theorem op_ninDA {X : Cx} (hu : X.A.units + 65 < cLine) : OpR X (compareOp .NotIn) (rInDA X.K true) := by
  intro pins s σ H x y v u Q I rx ry h
  obtain ⟨d, ds, hd, he, sd, se, q⟩ := h
  obtain ⟨as, r1⟩ := Dp.reads I d x v hd rx
  rcases he with he | he
  · obtain ⟨bs, r2⟩ := Dp.reads I (.list ds) y u he ry
    exact SeqAt.notIn_list_reads r2 r1 (SeqAt.canLay_of_shaped se) (SeqAt.canLay_of_shaped sd) (room_in_shaped sd hu) ⟨.bl _, H, I, rfl, q⟩
  · obtain ⟨bs, r2⟩ := Dp.reads I (.tuple ds) y u he ry
    exact SeqAt.notIn_tuple_reads r2 r1 (SeqAt.canLay_of_shaped se) (SeqAt.canLay_of_shaped sd) (room_in_shaped sd hu) ⟨.bl _, H, I, rfl, q⟩
def rInSg (neg : Bool) : R2 := fun x y H Q => ∃ (c : Nat) (z : Str), x = .str ⟨#[c]⟩ ∧ y = .str z ∧ Q (.bl (if neg then !decide (c ∈ z.cps.toList) else decide (c ∈ z.cps.toList))) H
def rIn3 (K : PySem.W.Frag) (neg : Bool) : R2 := fun x y H Q => rInDA K neg x y H Q ∨ rInSg neg x y H Q
theorem op_in3 {X : Cx} (hu : X.A.units + 65 < cLine) : OpR X (compareOp .In) (rIn3 X.K false) := (op_inDA hu).or op_in_sign
theorem op_nin3 {X : Cx} (hu : X.A.units + 65 < cLine) : OpR X (compareOp .NotIn) (rIn3 X.K true) := (op_ninDA hu).or op_notIn_sign
def itemsP : PyData → Option (List PyData)
  | .list qs => some qs
  | .tuple qs => some qs
  | _ => none
def gInDA (neg : Bool) : GF := fun m ds => match ds with
  | [x, y] => (match snap m x, (snap m y).bind itemsP with
    | some p, some qs => if SeqAt.shaped p = true ∧ SeqAt.shaped (.list qs) = true then some (.bl (if neg then !(qs.any fun z => PyData.eqv z p) else qs.any fun z => PyData.eqv z p), m) else none
    | _, _ => none)
  | _ => none
theorem rw_inDA {neg : Bool} : RW P w K (opW (rInDA K neg)) (gInDA neg) := fun φ m H ds vs fp d m' Q C W r nd n e k => by
  unfold gInDA at e
  split at e
  · split at e
    · rename_i p qs h1 h2
      split at e
      · rename_i hs
        cases e
        obtain ⟨u, v, f, g, rfl, rfl, r1, r2⟩ := r.two
        obtain ⟨y, e1, e2⟩ := Option.bind_eq_some_iff.mp h2
        have hy := snap_ok C r2 e1
        refine ⟨p, qs, snap_ok C r1 h1, ?_, hs.1, hs.2, k _ _ _ _ (postW_flat C W ⟨rfl, rfl⟩)⟩
        unfold itemsP at e2
        split at e2 <;> cases e2
        · exact .inl hy
        · exact .inr hy
      · cases e
    · cases e
  · cases e
def gInSg (neg : Bool) : GF := fun m ds => match ds with
  | [.str x, .str z] => (match x.cps.toList with
    | [c] => some (.bl (if neg then !decide (c ∈ z.cps.toList) else decide (c ∈ z.cps.toList)), m)
    | _ => none)
  | _ => none
theorem rw_inSg {neg : Bool} : RW P w K (opW (rInSg neg)) (gInSg neg) := fun φ m H ds vs fp d m' Q C W r nd n e k => by
  unfold gInSg at e
  split at e
  · rename_i x z
    split at e
    · rename_i c hc
      cases e
      obtain ⟨u, v, f, g, rfl, rfl, ⟨rfl, _⟩, ⟨rfl, _⟩⟩ := r.two
      have hx : x = ⟨#[c]⟩ := by
        obtain ⟨cps⟩ := x
        congr 1
        exact Array.toList_inj.mp hc
      exact ⟨c, z, by rw [hx], rfl, k _ _ _ _ (postW_flat C W ⟨rfl, rfl⟩)⟩
    · cases e
  · cases e
def gIn : GF := orG (gInDA false) (gInSg false)
def gNin : GF := orG (gInDA true) (gInSg true)
theorem rw_in : RW P w K (opW (rIn3 K false)) gIn := rw_inDA.or rw_inSg
theorem rw_nin : RW P w K (opW (rIn3 K true)) gNin := rw_inDA.or rw_inSg
/-! ### is -/
def isNonD : D → Bool
  | .non => true
  | _ => false
theorem isNonD_ok : ∀ {d : D} {v : V} {fp : List Addr}, RV P w K φ H d v fp → decide (v = .non) = isNonD d
  | .non, v, fp, h => by obtain ⟨rfl, _⟩ := h; rfl
  | .bl _, v, fp, h => by obtain ⟨rfl, _⟩ := h; rfl
  | .int _, v, fp, h => by obtain ⟨rfl, _⟩ := h; rfl
  | .str _, v, fp, h => by obtain ⟨rfl, _⟩ := h; rfl
  | .tup _, v, fp, h => by obtain ⟨_, _, rfl, _⟩ := h; rfl
  | .lst _, v, fp, h => by obtain ⟨_, _, _, rfl, _⟩ := h; rfl
  | .fl _, v, fp, h => by obtain ⟨_, _, rfl, _⟩ := h; rfl
  | .dic _ _, v, fp, h => by obtain ⟨_, _, _, rfl, _⟩ := h; rfl
  | .fdic _ _, v, fp, h => by obtain ⟨_, _, _, _, rfl, _⟩ := h; rfl
  | .dit _ _, v, fp, h => by obtain ⟨_, _, _, _, _, rfl, _⟩ := h; rfl
  | .fdit _ _, v, fp, h => by obtain ⟨_, _, _, _, _, _, rfl, _⟩ := h; rfl
  | .ins _ _ _, v, fp, h => by obtain ⟨_, _, _, rfl, _⟩ := h; rfl
  | .box _ _ _, v, fp, h => by obtain ⟨_, _, _, _, rfl, _⟩ := h; rfl
  | .ref _, v, fp, h => by obtain ⟨_, rfl, _⟩ := h; rfl
def gIsN (neg : Bool) : GF := fun m ds => match ds with
  | [x, .non] => some (.bl (if neg then !isNonD x else isNonD x), m)
  | _ => none
theorem rw_isN : RW P w K (opW rIsN) (gIsN false) := fun φ m H ds vs fp d m' Q C W r nd n e k => by
  unfold gIsN at e
  split at e
  · rename_i x
    cases e
    obtain ⟨u, v, f, g, rfl, rfl, r1, ⟨rfl, _⟩⟩ := r.two
    refine ⟨rfl, ?_⟩
    rw [isNonD_ok r1]
    exact k _ _ _ _ (postW_flat C W ⟨rfl, rfl⟩)
  · cases e
theorem rw_notN : RW P w K (opW rNotN) (gIsN true) := fun φ m H ds vs fp d m' Q C W r nd n e k => by
  unfold gIsN at e
  split at e
  · rename_i x
    cases e
    obtain ⟨u, v, f, g, rfl, rfl, r1, ⟨rfl, _⟩⟩ := r.two
    refine ⟨rfl, ?_⟩
    rw [isNonD_ok r1]
    exact k _ _ _ _ (postW_flat C W ⟨rfl, rfl⟩)
  · cases e
def gIsB (neg : Bool) : GF := fun m ds => match ds with
  | [.bl a, .bl b] => some (.bl (if neg then !decide (a = b) else decide (a = b)), m)
  | _ => none
theorem rw_isB : RW P w K (opW rIsB) (gIsB false) := fun φ m H ds vs fp d m' Q C W r nd n e k => by
  unfold gIsB at e
  split at e
  · rename_i a b
    cases e
    obtain ⟨u, v, f, g, rfl, rfl, ⟨rfl, _⟩, ⟨rfl, _⟩⟩ := r.two
    exact ⟨a, b, rfl, rfl, k _ _ _ _ (postW_flat C W ⟨rfl, rfl⟩)⟩
  · cases e
theorem rw_notB : RW P w K (opW rNotB) (gIsB true) := fun φ m H ds vs fp d m' Q C W r nd n e k => by
  unfold gIsB at e
  split at e
  · rename_i a b
    cases e
    obtain ⟨u, v, f, g, rfl, rfl, ⟨rfl, _⟩, ⟨rfl, _⟩⟩ := r.two
    exact ⟨a, b, rfl, rfl, k _ _ _ _ (postW_flat C W ⟨rfl, rfl⟩)⟩
  · cases e
end
/-! ### the rules -/
section
variable {X : Cx} {e o : Expr} {es : List Expr} {f : EF} {af : AF} {g : GF} {name : Str} {apos cpos : Pos} {T id : String} {r : V → List V → Hp → VK → Prop} {ok : Mem → D → Bool}
theorem de_bm (hT : OkTy X.prog X.w X.K ok T) (pa : PlainAttrs T) (slot : Slot T name id) (hty : typeOf (.builtin id) = pure (.type "method_descriptor")) (hm : MtR X id r) (hr : RW X.prog X.w X.K (mtW r) g) (ho : DE X o f) (ha : DA X (e :: es) af)
    (hbase : attributeBase o name X.env (eval o X.env) = eval o X.env := by rfl)
    (hfew : ((backTo cpos (starEach (e :: es) X.env)).all (fun x => !x.1) && (backToKw cpos (keywordEach [] X.env)).all (fun x => x.1.isSome)
      && decide ((e :: es).length + ([] : List Keyword).length + (if ([] : List Keyword).isEmpty then 0 else 1) < 30)) = true := by rfl)
    (hline : (apos.endLine == cpos.line) = true := by rfl) (hs : starEach (e :: es) X.env = (false, eval e X.env) :: starEach es X.env := by rfl) (hplain : (backTo cpos (starEach es X.env)).any (·.1) = false := by rfl) :
    DE X (.Call (.Attribute o name apos) (e :: es) [] cpos) (fBM ok g f af) := by
  obtain ⟨t, h1, h2⟩ := ho.ex
  obtain ⟨u, h3, h4⟩ := ha.ex
  exact ⟨_, pe_bm pa slot hty hm h1 h3 hbase hfew hline hs hplain, re_bm hT h2 h4 hr⟩
theorem de_bm0 (hT : OkTy X.prog X.w X.K ok T) (pa : PlainAttrs T) (slot : Slot T name id) (hty : typeOf (.builtin id) = pure (.type "method_descriptor")) (hm : MtR X id r) (hr : RW X.prog X.w X.K (mtW r) g) (ho : DE X o f)
    (hbase : attributeBase o name X.env (eval o X.env) = eval o X.env := by rfl) (hline : (apos.endLine == cpos.line) = true := by rfl) : DE X (.Call (.Attribute o name apos) [] [] cpos) (fBM ok g f aNil) := by
  obtain ⟨t, h1, h2⟩ := ho.ex
  exact ⟨_, pe_bm0 pa slot hty hm h1 hbase hline, re_bm0 hT h2 hr⟩
section
variable {e o : Expr} {f q : EF} {apos cpos : Pos}
theorem de_append (ho : DE X o f) (he : DE X e q) (hbase : attributeBase o "append" X.env (eval o X.env) = eval o X.env := by rfl) (hline : (apos.endLine == cpos.line) = true := by rfl) (hs : starEach [e] X.env = [(false, eval e X.env)] := by rfl)
    (hfew : ((backTo cpos (starEach [e] X.env)).all (fun x => !x.1) && (backToKw cpos (keywordEach [] X.env)).all (fun x => x.1.isSome)
      && decide ([e].length + ([] : List Keyword).length + (if ([] : List Keyword).isEmpty then 0 else 1) < 30)) = true := by rfl) : DE X (.Call (.Attribute o "append" apos) [e] [] cpos) (fBM okL gAppend f (a1 q)) :=
  de_bm okL_ty F.plainAttrs_list F.slot_list_append F.type_list_append mt_append rw_append ho (da_cons he da_nil hs) hbase hfew hline hs rfl
theorem de_extend (ho : DE X o f) (he : DE X e q) (hbase : attributeBase o "extend" X.env (eval o X.env) = eval o X.env := by rfl) (hline : (apos.endLine == cpos.line) = true := by rfl) (hs : starEach [e] X.env = [(false, eval e X.env)] := by rfl)
    (hfew : ((backTo cpos (starEach [e] X.env)).all (fun x => !x.1) && (backToKw cpos (keywordEach [] X.env)).all (fun x => x.1.isSome)
      && decide ([e].length + ([] : List Keyword).length + (if ([] : List Keyword).isEmpty then 0 else 1) < 30)) = true := by rfl) : DE X (.Call (.Attribute o "extend" apos) [e] [] cpos) (fBM okL gExtend f (a1 q)) :=
  de_bm okL_ty F.plainAttrs_list F.slot_list_extend F.type_list_extend mt_extend rw_extend ho (da_cons he da_nil hs) hbase hfew hline hs rfl
theorem de_index (hu : X.A.units + 65 < cLine) (ho : DE X o f) (he : DE X e q) (hbase : attributeBase o "index" X.env (eval o X.env) = eval o X.env := by rfl) (hline : (apos.endLine == cpos.line) = true := by rfl) (hs : starEach [e] X.env = [(false, eval e X.env)] := by rfl)
    (hfew : ((backTo cpos (starEach [e] X.env)).all (fun x => !x.1) && (backToKw cpos (keywordEach [] X.env)).all (fun x => x.1.isSome)
      && decide ([e].length + ([] : List Keyword).length + (if ([] : List Keyword).isEmpty then 0 else 1) < 30)) = true := by rfl) : DE X (.Call (.Attribute o "index" apos) [e] [] cpos) (fBM okL gIndex f (a1 q)) :=
  de_bm okL_ty F.plainAttrs_list F.slot_list_index F.type_list_index (mt_indexD hu) rw_index ho (da_cons he da_nil hs) hbase hfew hline hs rfl
theorem de_sindex (ho : DE X o f) (he : DE X e q) (hbase : attributeBase o "index" X.env (eval o X.env) = eval o X.env := by rfl) (hline : (apos.endLine == cpos.line) = true := by rfl) (hs : starEach [e] X.env = [(false, eval e X.env)] := by rfl)
    (hfew : ((backTo cpos (starEach [e] X.env)).all (fun x => !x.1) && (backToKw cpos (keywordEach [] X.env)).all (fun x => x.1.isSome)
      && decide ([e].length + ([] : List Keyword).length + (if ([] : List Keyword).isEmpty then 0 else 1) < 30)) = true := by rfl) : DE X (.Call (.Attribute o "index" apos) [e] [] cpos) (fBM okS gSindex f (a1 q)) :=
  de_bm okS_ty F.plainAttrs_str F.slot_str_index F.type_str_index mt_sindex rw_sindex ho (da_cons he da_nil hs) hbase hfew hline hs rfl
theorem de_reverse (ho : DE X o f) (hbase : attributeBase o "reverse" X.env (eval o X.env) = eval o X.env := by rfl) (hline : (apos.endLine == cpos.line) = true := by rfl) : DE X (.Call (.Attribute o "reverse" apos) [] [] cpos) (fBM okL gReverse f aNil) :=
  de_bm0 okL_ty F.plainAttrs_list F.slot_list_reverse F.type_list_reverse mt_reverse rw_reverse ho hbase hline
theorem de_clear (ho : DE X o f) (hbase : attributeBase o "clear" X.env (eval o X.env) = eval o X.env := by rfl) (hline : (apos.endLine == cpos.line) = true := by rfl) : DE X (.Call (.Attribute o "clear" apos) [] [] cpos) (fBM okL gClear f aNil) :=
  de_bm0 okL_ty F.plainAttrs_list F.slot_list_clear F.type_list_clear mt_clear rw_clear ho hbase hline
end
end
end M3
set_option Elab.async false
set_option linter.all false
set_option autoImplicit false
set_option maxRecDepth 100000
set_option maxHeartbeats 1000000
/-! The D layer, N: stores into what is subscripted. -/
namespace M3
open PySem PySem.Spec PyProof.Rows L2

abbrev GS := Mem → List D → Option Mem
section
variable (P : Program) (w : World) (K : PySem.W.Frag)
/-- by values: value, object, subscript; the store is all it does -/
def RWs (t : TSet) (g : GS) : Prop := ∀ φ m H ds v o i fp m' (Q : Hp → Prop), Cells P w K φ H m → Wf H → RVs P w K φ H ds [v, o, i] fp → fp.Nodup → (∀ a ∈ fp, a ∉ φ) → g m ds = some m' →
  (∀ ψ H', Ext K (φ ++ fp) H H' → Cells P w K (φ ++ ψ) H' m' → Wf H' → (∀ a ∈ ψ, a ∈ fp ∨ H a = none) → Q H') → t o i v H Q
end
section
variable {P : Program} {w : World} {K : PySem.W.Frag} {φ ψ ψ2 : List Addr} {H H1 H2 : Hp} {l : Loc} {m m1 m2 : Mem} {σ : L2.St}
def sSetI (g : GS) (a : AF) : SF := fun l m => match a l m with
  | some (ds, m1) => (match g m1 ds with
    | some m2 => some (.nx l m2)
    | none => none)
  | none => none
theorem aCons_some {f : EF} {g : AF} {l : Loc} {m m1 : Mem} {ds : List D} (h : aCons f g l m = some (ds, m1)) : ∃ d ds' m2, ds = d :: ds' ∧ g l m2 = some (ds', m1) := by
  unfold aCons at h
  split at h
  · split at h
    · rename_i h2
      cases h
      exact ⟨_, _, _, rfl, h2⟩
    · cases h
  · cases h
theorem rs_setI {te to ti : TE} {f fo fi : EF} {t : TSet} {g : GS} (he : RE P w K te f) (ho : RE P w K to fo) (hi : RE P w K ti fi) (hr : RWs P w K t g) : RS P w K (tAsg te (L2.gSub to ti t)) (sSetI g (aCons f (aCons fo (aCons fi aNil)))) := fun φ l m σ H r E R e k => by
  unfold sSetI at e
  cases q : (aCons f (aCons fo (aCons fi aNil))) l m with
  | none => rw [q] at e; cases e
  | some p1 =>
    obtain ⟨ds, m1⟩ := p1
    simp only [q] at e
    cases q2 : g m1 ds with
    | none => simp only [q2] at e; cases e
    | some m2 =>
      simp only [q2] at e
      cases e
      have ra := ra_cons he (ra_cons ho (ra_cons hi (ra_nil (P := P) (w := w) (K := K))))
      refine ra φ l m σ H ds m1 (fun vs H2 => match vs with | [v, o, i] => t o i v H2 fun H3 => E.nx σ H3 | _ => False) R q fun ψ H1 vs fp p => ?_
      have hl : vs.length = 3 := by
        obtain ⟨d1, ds1, n1, rfl, q3⟩ := aCons_some q
        obtain ⟨d2, ds2, n2, rfl, q4⟩ := aCons_some q3
        obtain ⟨d3, ds3, n3, rfl, q5⟩ := aCons_some q4
        cases q5
        rw [p.rv.length]
        rfl
      match vs, hl, p with
      | [v, o, i], _, p =>
        refine hr (φ ++ ψ) m1 H1 ds v o i fp m2 _ p.cells p.wf p.rv p.nd (fun x hx => (p.fr x hx).1) q2 fun ψ2 H2 x c w' nw => ?_
        have pp : Post P w K φ H (ψ ++ ψ2) m2 H2 := ⟨p.ext.trans (ψ := ψ ++ fp) (by rw [← List.append_assoc]; exact x) fun a ha => (List.mem_append.mp ha).elim (p.new a) fun z => (p.fr a z).2,
          by rw [← List.append_assoc]; exact c, w', fun a ha => (List.mem_append.mp ha).elim (p.new a) fun z => (nw a z).elim (fun z => (p.fr a z).2) fun z => p.ext.free z⟩
        exact k (ψ ++ ψ2) σ H2 pp (R.step pp)
def nSetL : GS := fun m ds => match ds with
  | [d, .ref k, .int i] => (match (imp d m).2[k]? with
    | some (.lst xs) => (match ixN xs.length i with
      | some j => some ((imp d m).2.set k (.lst (xs.set j (imp d m).1)))
      | none => none)
    | _ => none)
  | _ => none
theorem RVs.set : ∀ {ds : List D} {vs : List V} {d : D} {v : V} (j : Nat), RVs P w K φ H ds vs [] → RV P w K φ H d v [] → RVs P w K φ H (ds.set j d) (vs.set j v) []
  | [], vs, d, v, j, h, r => by obtain ⟨rfl, _⟩ := h; exact ⟨rfl, rfl⟩
  | x :: ds, vs, d, v, 0, h, r => by
    obtain ⟨u, vs', f, g, rfl, e, h1, h2⟩ := h
    obtain ⟨rfl, rfl⟩ := List.append_eq_nil_iff.mp e.symm
    exact ⟨v, vs', [], [], rfl, rfl, r, h2⟩
  | x :: ds, vs, d, v, j + 1, h, r => by
    obtain ⟨u, vs', f, g, rfl, e, h1, h2⟩ := h
    obtain ⟨rfl, rfl⟩ := List.append_eq_nil_iff.mp e.symm
    exact ⟨u, vs'.set j v, [], [], rfl, rfl, h1, RVs.set j h2 r⟩
theorem rw_setL : RWs P w K rSetL nSetL := fun φ m H ds v o i fp m' Q C W r nd n e k => by
  unfold nSetL at e
  split at e
  · rename_i d0 k0 i0
    split at e
    · rename_i xs hk
      split at e
      · rename_i j hj
        cases e
        obtain ⟨v', vs', f, g, ev, rfl, r1, r2⟩ := r
        cases ev
        obtain ⟨o', vs2, f2, g2, ev, rfl, r3, r4⟩ := r2
        cases ev
        obtain ⟨i', vs3, f3, g3, ev, rfl, r5, r6⟩ := r4
        cases ev
        obtain ⟨a, rfl, ha, rfl⟩ := r3
        obtain ⟨rfl, rfl⟩ := r5
        obtain ⟨_, rfl⟩ := r6
        simp only [List.append_nil] at *
        obtain ⟨q1, q2⟩ := imp_ok d0 m v φ f r1 C nd n
        have ha' : (φ ++ f)[k0]? = some a := by rw [List.getElem?_append_left (List.getElem?_eq_some_iff.mp ha).1]; exact ha
        obtain ⟨us, hA, rs⟩ := q2.lst ha' hk
        obtain ⟨x1, x2, x3⟩ := write_lst q2 W ha' hA (RVs.set j rs q1) (by rw [List.length_set]; exact W.lst a us hA)
        exact ⟨a, us, i0, j, rfl, rfl, hA, by rw [rs.length]; exact hj, k f _ x1 x2 x3 fun a ha => .inl ha⟩
      · cases e
    · cases e
  · cases e
end
section
variable {X : Cx} {e o i : Expr} {f fo fi : EF} {t : TSet} {g : GS} {pos p : Pos}
theorem ds_setI (hs : PSet X t) (hr : RWs X.prog X.w X.K t g) (he : DE X e f) (ho : DE X o fo) (hi : DE X i fi)
    (ha : ∀ v, assign (.Subscript o i p) X.env v = (do
      let ov ← holding [v] (eval o X.env)
      let iv ← holding [v, ov] (eval i X.env)
      standAt p
      holding [v, ov, iv] (setItem ov iv v)
      release [v, ov, iv] []) := by intro _; rfl)
    (h1 : swapsWithSole [.Subscript o i p] e pos.line X.env = pure false := by rfl) (h2 : swappedStores [.Subscript o i p] e X.env = pure none := by rfl) (h3 : (assignEach [.Subscript o i p] X.env).map (·.2) = [assign (.Subscript o i p) X.env] := by rfl) :
    DS X (.Assign [.Subscript o i p] e pos) (sSetI g (aCons f (aCons fo (aCons fi aNil)))) := by
  obtain ⟨te, a1, a2⟩ := he.ex
  obtain ⟨to, b1, b2⟩ := ho.ex
  obtain ⟨ti, c1, c2⟩ := hi.ex
  exact ⟨_, ps_asg a1 (pg_sub b1 c1 hs ha) h1 h2 h3, rs_setI a2 b2 c2 hr⟩
theorem ds_setL (he : DE X e f) (ho : DE X o fo) (hi : DE X i fi)
    (ha : ∀ v, assign (.Subscript o i p) X.env v = (do
      let ov ← holding [v] (eval o X.env)
      let iv ← holding [v, ov] (eval i X.env)
      standAt p
      holding [v, ov, iv] (setItem ov iv v)
      release [v, ov, iv] []) := by intro _; rfl)
    (h1 : swapsWithSole [.Subscript o i p] e pos.line X.env = pure false := by rfl) (h2 : swappedStores [.Subscript o i p] e X.env = pure none := by rfl) (h3 : (assignEach [.Subscript o i p] X.env).map (·.2) = [assign (.Subscript o i p) X.env] := by rfl) :
    DS X (.Assign [.Subscript o i p] e pos) (sSetI nSetL (aCons f (aCons fo (aCons fi aNil)))) := ds_setI set_list rw_setL he ho hi ha h1 h2 h3
end
/-! ### what the contexts of defs give -/
theorem _root_.L2.Room.u65 {k : Nat} {A : Around} (r : Room k A) : A.units + 65 < cLine := by have := r.un; omega
end M3
set_option Elab.async false
set_option linter.all false
set_option autoImplicit false
set_option maxRecDepth 100000
set_option maxHeartbeats 1000000
/-! The D layer, O: the short words that the printing program uses. -/
namespace M3
open PySem PySem.Spec PyProof.Rows L2
def gLt : GF := gB fun i j => decide (i < j)
def gLe : GF := gB fun i j => decide (i ≤ j)
def gGt : GF := gB fun i j => decide (j < i)
def gGe : GF := gB fun i j => decide (j ≤ i)
section
variable {X : Cx} {a b c : Expr} {f g h : EF} {pos p : Pos}
theorem e_add (ha : DE X a f) (hb : DE X b g) : DE X (.BinOp a .Add b pos) (fAp gAdd (a2 f g)) := de_bin op_addA rw_add ha hb
theorem e_sub (ha : DE X a f) (hb : DE X b g) : DE X (.BinOp a .Sub b pos) (fAp gSub (a2 f g)) := de_bin op_sub rw_sub ha hb
theorem e_mul (ha : DE X a f) (hb : DE X b g) : DE X (.BinOp a .Mult b pos) (fAp gMulI (a2 f g)) := de_bin op_mulW rw_mulI ha hb
theorem e_fdiv (ha : DE X a f) (hb : DE X b g) : DE X (.BinOp a .FloorDiv b pos) (fAp gFdiv (a2 f g)) := de_bin op_fdivW rw_fdiv ha hb
theorem e_mod (ha : DE X a f) (hb : DE X b g) : DE X (.BinOp a .Mod b pos) (fAp gMod (a2 f g)) := de_bin op_mod rw_mod ha hb
theorem e_pow (ha : DE X a f) (hb : DE X b g) : DE X (.BinOp a .Pow b pos) (fAp gPow (a2 f g)) := de_bin op_powW rw_pow ha hb
theorem e_shl (ha : DE X a f) (hb : DE X b g) : DE X (.BinOp a .LShift b pos) (fAp gShl (a2 f g)) := de_bin op_shl rw_shl ha hb
theorem e_shr (ha : DE X a f) (hb : DE X b g) : DE X (.BinOp a .RShift b pos) (fAp gShr (a2 f g)) := de_bin op_shr rw_shr ha hb
theorem e_band (ha : DE X a f) (hb : DE X b g) : DE X (.BinOp a .BitAnd b pos) (fAp gBand (a2 f g)) := de_bin op_and rw_band ha hb
theorem e_bor (ha : DE X a f) (hb : DE X b g) : DE X (.BinOp a .BitOr b pos) (fAp gBor (a2 f g)) := de_bin op_or rw_bor ha hb
theorem e_lt (ha : DE X a f) (hb : DE X b g) : DE X (.Compare a [.Lt] [b] pos) (fAp gLt (a2 f g)) := de_cmp op_lt rw_b ha hb
theorem e_le (ha : DE X a f) (hb : DE X b g) : DE X (.Compare a [.LtE] [b] pos) (fAp gLe (a2 f g)) := de_cmp op_le rw_b ha hb
theorem e_gt (ha : DE X a f) (hb : DE X b g) : DE X (.Compare a [.Gt] [b] pos) (fAp gGt (a2 f g)) := de_cmp op_gt rw_b ha hb
theorem e_ge (ha : DE X a f) (hb : DE X b g) : DE X (.Compare a [.GtE] [b] pos) (fAp gGe (a2 f g)) := de_cmp op_ge rw_b ha hb
theorem t_lt (ha : DE X a f) (hb : DE X b g) : DT X (.Compare a [.Lt] [b] pos) (tBl (fAp gLt (a2 f g))) := dt_cmp op_lt rw_b ha hb
theorem t_le (ha : DE X a f) (hb : DE X b g) : DT X (.Compare a [.LtE] [b] pos) (tBl (fAp gLe (a2 f g))) := dt_cmp op_le rw_b ha hb
theorem t_gt (ha : DE X a f) (hb : DE X b g) : DT X (.Compare a [.Gt] [b] pos) (tBl (fAp gGt (a2 f g))) := dt_cmp op_gt rw_b ha hb
theorem t_ge (ha : DE X a f) (hb : DE X b g) : DT X (.Compare a [.GtE] [b] pos) (tBl (fAp gGe (a2 f g))) := dt_cmp op_ge rw_b ha hb
theorem e_eq (hu : X.A.units + 65 < cLine) (ha : DE X a f) (hb : DE X b g) : DE X (.Compare a [.Eq] [b] pos) (fAp gEq (a2 f g)) := de_cmp (L2.op_eq.or (op_eqD (by omega))) rw_eq ha hb
theorem t_eq (hu : X.A.units + 65 < cLine) (ha : DE X a f) (hb : DE X b g) : DT X (.Compare a [.Eq] [b] pos) (tBl (fAp gEq (a2 f g))) := dt_cmp (L2.op_eq.or (op_eqD (by omega))) rw_eq ha hb
theorem e_ne (hu : X.A.units + 65 < cLine) (ha : DE X a f) (hb : DE X b g) : DE X (.Compare a [.NotEq] [b] pos) (fAp gNe (a2 f g)) := de_cmp (L2.op_ne.or (op_neD (by omega))) rw_ne ha hb
theorem t_ne (hu : X.A.units + 65 < cLine) (ha : DE X a f) (hb : DE X b g) : DT X (.Compare a [.NotEq] [b] pos) (tBl (fAp gNe (a2 f g))) := dt_cmp (L2.op_ne.or (op_neD (by omega))) rw_ne ha hb
section
variable (hu : X.A.units + 65 < cLine) (ha : DE X a f) (hb : DE X b g)
theorem e_in (hu : X.A.units + 65 < cLine) (ha : DE X a f) (hb : DE X b g) (hm : behindInMarks .In b = false := by first | exact nomark _ | rfl) : DE X (.Compare a [.In] [b] pos) (fAp gIn (a2 f g)) := de_cmp (op_in3 hu) rw_in ha hb hm
theorem t_in (hu : X.A.units + 65 < cLine) (ha : DE X a f) (hb : DE X b g) (hm : behindInMarks .In b = false := by first | exact nomark _ | rfl) : DT X (.Compare a [.In] [b] pos) (tBl (fAp gIn (a2 f g))) := dt_cmp (op_in3 hu) rw_in ha hb hm
theorem e_nin (hu : X.A.units + 65 < cLine) (ha : DE X a f) (hb : DE X b g) (hm : behindInMarks .NotIn b = false := by first | exact nomark _ | rfl) : DE X (.Compare a [.NotIn] [b] pos) (fAp gNin (a2 f g)) := de_cmp (op_nin3 hu) rw_nin ha hb hm
theorem t_nin (hu : X.A.units + 65 < cLine) (ha : DE X a f) (hb : DE X b g) (hm : behindInMarks .NotIn b = false := by first | exact nomark _ | rfl) : DT X (.Compare a [.NotIn] [b] pos) (tBl (fAp gNin (a2 f g))) := dt_cmp (op_nin3 hu) rw_nin ha hb hm
end
theorem e_isN (ha : DE X a f) (hb : DE X b g) : DE X (.Compare a [.Is] [b] pos) (fAp (gIsN false) (a2 f g)) := de_cmp op_isN1 rw_isN ha hb
theorem t_isN (ha : DE X a f) (hb : DE X b g) : DT X (.Compare a [.Is] [b] pos) (tBl (fAp (gIsN false) (a2 f g))) := dt_cmp op_isN1 rw_isN ha hb
theorem e_notN (ha : DE X a f) (hb : DE X b g) : DE X (.Compare a [.IsNot] [b] pos) (fAp (gIsN true) (a2 f g)) := de_cmp op_notN1 rw_notN ha hb
theorem t_notN (ha : DE X a f) (hb : DE X b g) : DT X (.Compare a [.IsNot] [b] pos) (tBl (fAp (gIsN true) (a2 f g))) := dt_cmp op_notN1 rw_notN ha hb
theorem e_isB (ha : DE X a f) (hb : DE X b g) : DE X (.Compare a [.Is] [b] pos) (fAp (gIsB false) (a2 f g)) := de_cmp op_isBl rw_isB ha hb
theorem t_isB (ha : DE X a f) (hb : DE X b g) : DT X (.Compare a [.Is] [b] pos) (tBl (fAp (gIsB false) (a2 f g))) := dt_cmp op_isBl rw_isB ha hb
theorem e_notB (ha : DE X a f) (hb : DE X b g) : DE X (.Compare a [.IsNot] [b] pos) (fAp (gIsB true) (a2 f g)) := de_cmp op_notBl rw_notB ha hb
theorem t_notB (ha : DE X a f) (hb : DE X b g) : DT X (.Compare a [.IsNot] [b] pos) (tBl (fAp (gIsB true) (a2 f g))) := dt_cmp op_notBl rw_notB ha hb
theorem e_chain {op op' : CmpOp} {q q' : Int → Int → Bool} (ho : OpR X (compareOp op) (rI0 fun i j => .bl (q i j))) (ho' : OpR X (compareOp op') (rI0 fun i j => .bl (q' i j))) (ha : DE X a f) (hb : DE X b g) (hc : DE X c h)
    (hm : lastMarks [op, op'] [b, c] = false := by with_unfolding_all rfl) : DE X (.Compare a [op, op'] [b, c] pos) (fChain (gB q) (gB q') f g h) := de_chain ho ho' ha hb hc hm
theorem c_len (hm : X.mg "len" = none) (ha : DE X a f) (hg : Gl X "len" := by rfl) (he : starEach [a] X.env = [(false, eval a X.env)] := by rfl) : DE X (.Call (.Name "len" p) [a] [] pos) (fAp gLen (a1 f)) := de_callB call_len rw_len hm boot_len (da_cons ha da_nil he) hg (by decide) (by decide) he rfl
theorem c_all (hc : X.calm = true) (hm : X.mg "all" = none) (ha : DE X a f) (hg : Gl X "all" := by rfl) (he : starEach [a] X.env = [(false, eval a X.env)] := by rfl) : DE X (.Call (.Name "all" p) [a] [] pos) (fAp gAll (a1 f)) := de_callB (cr_all hc) rw_all hm (by decide +kernel) (da_cons ha da_nil he) hg (by decide) (by decide) he rfl
theorem c_any (hc : X.calm = true) (hm : X.mg "any" = none) (ha : DE X a f) (hg : Gl X "any" := by rfl) (he : starEach [a] X.env = [(false, eval a X.env)] := by rfl) : DE X (.Call (.Name "any" p) [a] [] pos) (fAp gAny (a1 f)) := de_callB (cr_any hc) rw_any hm (by decide +kernel) (da_cons ha da_nil he) hg (by decide) (by decide) he rfl
theorem c_tuple (hm : X.mg "tuple" = none) (ha : DE X a f) (hg : Gl X "tuple" := by rfl) (he : starEach [a] X.env = [(false, eval a X.env)] := by rfl) : DE X (.Call (.Name "tuple" p) [a] [] pos) (fAp gTuple (a1 f)) := de_callTy call_tuple_of rw_tuple hm (by decide +kernel) (da_cons ha da_nil he) hg (by decide) (by decide) he rfl
theorem c_list (hm : X.mg "list" = none) (ha : DE X a f) (hg : Gl X "list" := by rfl) (he : starEach [a] X.env = [(false, eval a X.env)] := by rfl) : DE X (.Call (.Name "list" p) [a] [] pos) (fAp gList (a1 f)) := de_callTy call_list_of rw_list hm (by decide +kernel) (da_cons ha da_nil he) hg (by decide) (by decide) he rfl
end
theorem okD0 {P : Program} {w : World} {K : PySem.W.Frag} {mg : Str → Option Value} {base : Heap} {x qual : Str} {params : Arguments} {body : List Stmt} {scope : Scope} {f : Addr} {fd : FuncData} {N ps : List Str} {k : Nat}
    (F : FunD K x qual params body scope [] [] f fd) (S : FnScope N ps scope) : FnOk P w K mg base CX0 (k + 1) f fd ps (spD P w K ps.length fun _ _ => none) := by
  refine F.ok S (fun vs H Q E h => ?_) (fun cdv A outer s H vs Q E hr h => ?_)
  · obtain ⟨φ, m, ds, d, mr, hl, r, C, W, e, k⟩ := h
    cases e
  · obtain ⟨φ, m, ds, d, mr, hl, r, C, W, e, k⟩ := h
    cases e
/-- a def of the top -/
abbrev FnT (K : PySem.W.Frag) (x : Str) (st : Stmt) (f : Addr) (fd : FuncData) : Prop := FunD K x x (defArgs st) (defBody st) (defScope st) [] [] f fd
end M3
set_option Elab.async false
set_option linter.all false
set_option autoImplicit false
set_option maxRecDepth 100000
set_option maxHeartbeats 1000000
/-! The D layer, H: the head of a law. -/
namespace M3
open PySem PySem.Spec PyProof.Rows L2
/-- the facts, the defs, and one Bool more -/
def obsE (n : Nat) (fa : List He.Fa) (fn : List He.DefD) (ex : PySem.W.Frag → Bool) (g : Addr → Option Obj) : He.AlD × Bool := (He.obsD fa fn (He.frG g (He.asD g n)), ex (He.frG g (He.asD g n)))
structure SaysE (fa : List He.Fa) (fn : List He.DefD) (ex : PySem.W.Frag → Bool) (K : PySem.W.Frag) : Prop where
  d : He.SaysD fa fn K
  e : ex K = true
def hookE (n : Nat) (fa : List He.Fa) (fn : List He.DefD) (ex : PySem.W.Frag → Bool) : PySem.W.Hook where
  α := He.AlD × Bool
  obs := fun s => obsE n fa fn ex s.heap.get?
  val := fun _ => (He.valD fn, true)
  says := fun _ h => ∃ K : PySem.W.Frag, K.In h ∧ SaysE fa fn ex K
  of := fun _ _ e => ⟨_, He.frG_in, ⟨congrArg (fun z : He.AlD × Bool => z.1) e, congrArg (fun z : He.AlD × Bool => z.2) e⟩⟩
  keeps := fun _ _ _ ⟨K, hK, c⟩ k => ⟨K, PySem.W.Frag.In.keeps hK k, c⟩
theorem obsE_eq {n : Nat} {fa : List He.Fa} {fn : List He.DefD} {ex : PySem.W.Frag → Bool} {g : Addr → Option Obj} {s : Shared} (h : ∀ a, g a = s.heap.get? a) : obsE n fa fn ex g = (hookE n fa fn ex).obs s := by
  have e : g = s.heap.get? := funext h
  rw [e] <;> rfl
/-- the function object there -/
def fdOf (fd0 : FuncData) (K : PySem.W.Frag) (a : Addr) : FuncData := match K.lookup a with
  | some ⟨_, _, .func fd, _⟩ => fd
  | _ => fd0
theorem fdOf_ok {fd0 : FuncData} {K : PySem.W.Frag} {x qual : Str} {params : Arguments} {body : List Stmt} {scope : Scope} {dvs : List V} {kws : List (Str × V)} {f : Addr} {fd : FuncData} (F : FunD K x qual params body scope dvs kws f fd) : FunD K x qual params body scope dvs kws f (fdOf fd0 K f) := by
  have e : fdOf fd0 K f = fd := by
    obtain ⟨oc, od, dV, kV, doc, pm, an, cdv, ct, osl, _, lk, _⟩ := F.ex
    unfold fdOf
    rw [lk]
  rw [e]
  exact F
theorem kt_of {K : PySem.W.Frag} {x : Str} {vs : List He.Dv} (h : He.tupB K x vs = true) : KT K (He.ga K x) (vs.map (He.Dv.v K)) := by
  rcases He.tupB_ok h (fun _ => none) with (h | ⟨o, h⟩) | h
  · cases h
  · cases h
  · exact h
theorem fl_of {K : PySem.W.Frag} {H : Hp} {a : Addr} {xs : List V} (hO : Only H) (hS : SqL K H a xs) (hl : xs.length ≤ sizeLine) : FlAt K H a xs := by
  rcases hS with (h | ⟨o, h⟩) | h
  · rcases hO a with z | ⟨o, ys, z⟩
    · rw [h] at z; cases z
    · rw [h] at z; cases z
  · exact .inl ⟨o, h, hl⟩
  · exact .inr h
theorem wf_only {H : Hp} (hO : Only H) : Wf H where
  lst := fun a vs e => by
    rcases hO a with z | ⟨o, ys, z⟩ <;> rw [e] at z <;> cases z
  tup := fun a vs e => by
    rcases hO a with z | ⟨o, ys, z⟩ <;> rw [e] at z <;> cases z
theorem RVs_ints {P : Program} {w : World} {K : PySem.W.Frag} {φ : List Addr} {H : Hp} : ∀ ns : List Int, RVs P w K φ H (ns.map D.int) (ns.map V.int) []
  | [] => ⟨rfl, rfl⟩
  | n :: ns => ⟨.int n, ns.map V.int, [], [], rfl, rfl, ⟨rfl, rfl⟩, RVs_ints ns⟩
/-- the law's promise from what its function tells -/
theorem law_sp {P : Program} {w : World} {K : PySem.W.Frag} {H : Hp} {a : Addr} {ns : List Int} {F : FN} {m' : Mem} (hO : Only H) (hS : SqL K H a (ns.map V.int)) (hl : ns.length ≤ 63) (h : F [.fl (ns.map D.int)] [] = some (.bl true, m')) {E : XK} :
    spD P w K 1 F [.ref a] H (fun v _ => v = .bl true) E := by
  have hz : (ns.map V.int).length ≤ sizeLine := by rw [List.length_map]; exact line1000 (by omega)
  refine ⟨[], [], [.fl (ns.map D.int)], .bl true, m', rfl, ?_, ⟨rfl, by simp, fun i a c e => by simp at e⟩, wf_only hO, h, fun H' v fp _ _ _ r _ _ => r.1⟩
  exact ⟨.ref a, [], [], [], rfl, rfl, ⟨a, ns.map V.int, rfl, fl_of hO hS hz, RVs_ints ns, rfl⟩, rfl, rfl⟩
end M3
set_option Elab.async false
set_option linter.all false
set_option autoImplicit false
set_option maxRecDepth 100000
set_option maxHeartbeats 1000000
/-! What the functions tell: the way of reckoning. -/
namespace M3
open PySem PySem.Spec PyProof.Rows L2

def Wp {α : Type} (x : Option α) (Q : α → Prop) : Prop := ∃ a, x = some a ∧ Q a
section
variable {α β : Type} {Q : α → Prop} {R : β → Prop} {l : Loc} {m m1 : Mem} {d : D} {ds : List D}
theorem w_some {a : α} : Wp (some a) Q ↔ Q a := ⟨fun h => by obtain ⟨_, e, q⟩ := h; cases e; exact q, fun q => ⟨a, rfl, q⟩⟩
theorem w_none : Wp (none : Option α) Q ↔ False := ⟨fun ⟨_, e, _⟩ => (nomatch e), False.elim⟩
theorem w_ite {p : Prop} [Decidable p] {x y : Option α} : Wp (if p then x else y) Q ↔ (p → Wp x Q) ∧ (¬ p → Wp y Q) := by
  by_cases h : p <;> simp [h]
theorem w_map {x : Option β} {f : β → α} : Wp (x.map f) Q ↔ Wp x fun b => Q (f b) := by
  cases x with
  | none => simp [w_none, Wp]
  | some b => simp [Wp]
theorem w_guard {p : Prop} {x : Option α} : Wp (guard p x) Q ↔ p ∧ Wp x Q := by
  by_cases h : p
  · rw [guard_pos h]; exact ⟨fun z => ⟨h, z⟩, fun z => z.2⟩
  · constructor
    · intro ⟨a, e, _⟩
      exact absurd (guard_some e).1 h
    · intro z; exact absurd z.1 h
theorem Wp.mono {x : Option α} {Q' : α → Prop} (h : Wp x Q) (k : ∀ a, Q a → Q' a) : Wp x Q' := let ⟨a, e, q⟩ := h; ⟨a, e, k a q⟩
/-! ### expressions -/
theorem w_fC {Q : D × Mem → Prop} : Wp (fC d l m) Q ↔ Q (d, m) := w_some
theorem w_fVar {i : Nat} {Q : D × Mem → Prop} (h : l[i]? = some (some d)) : Wp (fVar i l m) Q ↔ Q (d, m) := by
  unfold fVar; rw [h]; exact w_some
theorem w_aNil {Q : List D × Mem → Prop} : Wp (aNil l m) Q ↔ Q ([], m) := w_some
theorem w_aCons {f : EF} {g : AF} {Q : List D × Mem → Prop} : Wp (aCons f g l m) Q ↔ Wp (f l m) fun r => Wp (g l r.2) fun s => Q (r.1 :: s.1, s.2) := by
  unfold aCons
  cases h : f l m with
  | none => simp [w_none]
  | some r =>
    simp only [w_some]
    cases h2 : g l r.2 with
    | none => simp [w_none]
    | some s => simp [w_some]
theorem w_fAp {g : GF} {a : AF} {Q : D × Mem → Prop} : Wp (fAp g a l m) Q ↔ Wp (a l m) fun r => Wp (g r.2 r.1) Q := by
  unfold fAp
  cases h : a l m with
  | none => simp [w_none]
  | some r => simp [w_some]
theorem w_fBM {ok : Mem → D → Bool} {g : GF} {f : EF} {a : AF} {Q : D × Mem → Prop} : Wp (fBM ok g f a l m) Q ↔ Wp (f l m) fun r => ok r.2 r.1 = true ∧ Wp (a l r.2) fun s => Wp (g s.2 (r.1 :: s.1)) Q := by
  unfold fBM
  cases h : f l m with
  | none => simp [w_none]
  | some r =>
    simp only [w_some]
    cases h1 : ok r.2 r.1 with
    | false => simp [w_none]
    | true =>
      cases h2 : a l r.2 with
      | none => simp [w_none]
      | some s => simp [w_some]
/-- the truth of a value -/
def isB (Q : Bool × Mem → Prop) : D × Mem → Prop := fun r => match r.1 with
  | .bl b => Q (b, r.2)
  | _ => False
theorem w_tBl {f : EF} {Q : Bool × Mem → Prop} : Wp (tBl f l m) Q ↔ Wp (f l m) (isB Q) := by
  unfold tBl
  cases h : f l m with
  | none => simp [w_none]
  | some r => obtain ⟨d, m1⟩ := r; cases d <;> simp [w_some, w_none, isB]
theorem w_tNot {c : TF} {Q : Bool × Mem → Prop} : Wp (tNotF c l m) Q ↔ Wp (c l m) fun r => Q (!r.1, r.2) := by
  unfold tNotF
  cases h : c l m with
  | none => simp [w_none]
  | some r => simp [w_some]
theorem w_tAnd {c d : TF} {Q : Bool × Mem → Prop} : Wp (tAndF c d l m) Q ↔ Wp (c l m) fun r => (r.1 = true → Wp (d l r.2) Q) ∧ (r.1 = false → Q (false, r.2)) := by
  unfold tAndF
  cases h : c l m with
  | none => simp [w_none]
  | some r => obtain ⟨b, m1⟩ := r; cases b <;> simp [w_some]
theorem w_tOr {c d : TF} {Q : Bool × Mem → Prop} : Wp (tOrF c d l m) Q ↔ Wp (c l m) fun r => (r.1 = true → Q (true, r.2)) ∧ (r.1 = false → Wp (d l r.2) Q) := by
  unfold tOrF
  cases h : c l m with
  | none => simp [w_none]
  | some r => obtain ⟨b, m1⟩ := r; cases b <;> simp [w_some]
theorem w_tYes {Q : Bool × Mem → Prop} : Wp (tYesF l m) Q ↔ Q (true, m) := w_some
theorem w_fAnd {f g : EF} {Q : D × Mem → Prop} : Wp (fAnd f g l m) Q ↔ Wp (f l m) (isB fun r => (r.1 = true → Wp (g l r.2) Q) ∧ (r.1 = false → Q (.bl false, r.2))) := by
  unfold fAnd
  cases h : f l m with
  | none => simp [w_none]
  | some r => obtain ⟨d, m1⟩ := r; cases d <;> (try (simp [w_some, w_none, isB]; done)); rename_i b; cases b <;> simp [w_some, isB]
theorem w_fOr {f g : EF} {Q : D × Mem → Prop} : Wp (fOr f g l m) Q ↔ Wp (f l m) (isB fun r => (r.1 = true → Q (.bl true, r.2)) ∧ (r.1 = false → Wp (g l r.2) Q)) := by
  unfold fOr
  cases h : f l m with
  | none => simp [w_none]
  | some r => obtain ⟨d, m1⟩ := r; cases d <;> (try (simp [w_some, w_none, isB]; done)); rename_i b; cases b <;> simp [w_some, isB]
theorem w_fNot {f : EF} {Q : D × Mem → Prop} : Wp (fNot f l m) Q ↔ Wp (f l m) (isB fun r => Q (.bl (!r.1), r.2)) := by
  unfold fNot
  cases h : f l m with
  | none => simp [w_none]
  | some r => obtain ⟨d, m1⟩ := r; cases d <;> simp [w_some, w_none, isB]
theorem w_fChain {o o' : GF} {f g h : EF} {Q : D × Mem → Prop} : Wp (fChain o o' f g h l m) Q ↔ Wp (f l m) fun x => Wp (g l x.2) fun y => Wp (o y.2 [x.1, y.1]) (isB fun b => (b.1 = true → Wp (h l b.2) fun z => Wp (o' z.2 [y.1, z.1]) Q) ∧ (b.1 = false → Q (.bl false, b.2))) := by
  unfold fChain
  cases h1 : f l m with
  | none => simp [w_none]
  | some x =>
    simp only [w_some]
    cases h2 : g l x.2 with
    | none => simp [w_none]
    | some y =>
      simp only [w_some]
      cases h3 : o y.2 [x.1, y.1] with
      | none => simp [w_none]
      | some b =>
        obtain ⟨d, m3⟩ := b
        cases d <;> (try (simp [w_some, w_none, isB]; done))
        rename_i b
        cases b
        · simp [w_some, isB]
        · simp only [w_some, isB]
          cases h4 : h l m3 with
          | none => simp [w_none]
          | some z => simp [w_some]
/-! ### statements -/
theorem w_sSeq {f g : SF} {Q : Fl → Prop} : Wp (sSeq f g l m) Q ↔ Wp (f l m) fun r => match r with
    | .nx l1 m1 => Wp (g l1 m1) Q
    | r => Q r := by
  unfold sSeq
  cases h : f l m with
  | none => simp [w_none]
  | some r => cases r <;> simp [w_some]
theorem w_sIf {c : TF} {f g : SF} {Q : Fl → Prop} : Wp (sIf c f g l m) Q ↔ Wp (c l m) fun r => (r.1 = true → Wp (f l r.2) Q) ∧ (r.1 = false → Wp (g l r.2) Q) := by
  unfold sIf
  cases h : c l m with
  | none => simp [w_none]
  | some r => obtain ⟨b, m1⟩ := r; cases b <;> simp [w_some]
theorem w_sAsg {f : EF} {g : GT} {Q : Fl → Prop} : Wp (sAsg f g l m) Q ↔ Wp (f l m) fun r => Wp (g r.1 l r.2) fun s => Q (.nx s.1 s.2) := by
  unfold sAsg
  cases h : f l m with
  | none => simp [w_none]
  | some r =>
    simp only [w_some]
    cases h2 : g r.1 l r.2 with
    | none => simp [w_none]
    | some s => simp [w_some]
theorem w_sRet {f : EF} {Q : Fl → Prop} : Wp (sRet f l m) Q ↔ Wp (f l m) fun r => Q (.rt r.1 r.2) := by
  unfold sRet
  cases h : f l m with
  | none => simp [w_none]
  | some r => simp [w_some]
theorem w_sDrop {f : EF} {Q : Fl → Prop} : Wp (sDrop f l m) Q ↔ Wp (f l m) fun r => Q (.nx l r.2) := by
  unfold sDrop
  cases h : f l m with
  | none => simp [w_none]
  | some r => simp [w_some]
theorem w_sNx {Q : Fl → Prop} : Wp (sNx l m) Q ↔ Q (.nx l m) := w_some
theorem w_sNo {Q : Fl → Prop} : Wp (sNo l m) Q ↔ False := w_none
theorem w_sSetI {g : GS} {a : AF} {Q : Fl → Prop} : Wp (sSetI g a l m) Q ↔ Wp (a l m) fun r => Wp (g r.2 r.1) fun m2 => Q (.nx l m2) := by
  unfold sSetI
  cases h : a l m with
  | none => simp [w_none]
  | some r =>
    simp only [w_some]
    cases h2 : g r.2 r.1 with
    | none => simp [w_none]
    | some s => simp [w_some]
theorem w_gNm {i : Nat} {Q : Loc × Mem → Prop} : Wp (gNm i d l m) Q ↔ Q (l.set i (some (imp d m).1), (imp d m).2) := w_some
/-! ### functions -/
theorem w_runF {n : Nat} {b : SF} {Q : D × Mem → Prop} : Wp (runF n b ds m) Q ↔ Wp (b (startD n ds) m) fun r => match r with
    | .nx _ m' => Wp (finF m m' .non) Q
    | .rt d m' => Wp (finF m m' d) Q
    | _ => False := by
  unfold runF
  cases h : b (startD n ds) m with
  | none => simp [w_none]
  | some r => cases r <;> simp [w_some, w_none]
theorem closedExit {m m' : Mem} (h : ∀ i c, i < m.length → m'[i]? = some c → m[i]? = some c) : ExitOk m.length m m' := fun i c hi e => .inl (h i c hi e)
/-- nothing was changed below, the value needs no cell -/
theorem w_fin {m q : Mem} {Q : D × Mem → Prop} (hc : closed m.length d = true) (hl : liv d = true) : Wp (finF m (m ++ q) d) Q ↔ Q (d, m) := by
  unfold finF
  rw [exp_closed hc hl]
  simp only
  rw [guard_pos (ExitOk.refl _ _ _ (Nat.le_refl _)), w_some, List.take_append_of_le_length (Nat.le_refl _), List.take_length]
theorem w_fin0 {m : Mem} {Q : D × Mem → Prop} (hc : closed m.length d = true) (hl : liv d = true) : Wp (finF m m d) Q ↔ Q (d, m) := by
  have := w_fin (q := []) (Q := Q) hc hl
  rw [List.append_nil] at this
  exact this
theorem w_call {np : Nat} {F : FN} {Q : D × Mem → Prop} (hn : ds.length = np) (h : settleds ds = true) : Wp (callG np F m ds) Q ↔ Wp (F ds m) Q := by rw [callG_settled hn h]
/-! ### operators on what is known -/
theorem w_gI {C : Int → Int → Prop} [∀ i j, Decidable (C i j)] {g : Int → Int → D} {i j : Int} {Q : D × Mem → Prop} : Wp (gI C g m [.int i, .int j]) Q ↔ C i j ∧ Q (g i j, m) := by
  unfold gI
  by_cases h : C i j
  · simp [h, w_some]
  · simp [h, w_none]
theorem w_add {i j : Int} {Q : D × Mem → Prop} : Wp (gAdd m [.int i, .int j]) Q ↔ Q (.int (i + j), m) := w_some
theorem w_sub {i j : Int} {Q : D × Mem → Prop} : Wp (gSub m [.int i, .int j]) Q ↔ Q (.int (i - j), m) := w_some
theorem w_mul {i j : Int} {Q : D × Mem → Prop} : Wp (gMulI m [.int i, .int j]) Q ↔ mulOk i j ∧ Q (.int (i * j), m) := w_gI
theorem w_fdiv {i j : Int} {Q : D × Mem → Prop} : Wp (gFdiv m [.int i, .int j]) Q ↔ divOk i j ∧ Q (.int (i / j), m) := w_gI
theorem w_mod {i j : Int} {Q : D × Mem → Prop} : Wp (gMod m [.int i, .int j]) Q ↔ 0 < j ∧ Q (.int (i % j), m) := w_gI
theorem w_pow {i j : Int} {Q : D × Mem → Prop} : Wp (gPow m [.int i, .int j]) Q ↔ powOk i j ∧ Q (.int (i ^ j.toNat), m) := w_gI
theorem w_lt {i j : Int} {Q : D × Mem → Prop} : Wp (gLt m [.int i, .int j]) Q ↔ Q (.bl (decide (i < j)), m) := w_some
theorem w_le {i j : Int} {Q : D × Mem → Prop} : Wp (gLe m [.int i, .int j]) Q ↔ Q (.bl (decide (i ≤ j)), m) := w_some
theorem w_gt {i j : Int} {Q : D × Mem → Prop} : Wp (gGt m [.int i, .int j]) Q ↔ Q (.bl (decide (j < i)), m) := w_some
theorem w_ge {i j : Int} {Q : D × Mem → Prop} : Wp (gGe m [.int i, .int j]) Q ↔ Q (.bl (decide (j ≤ i)), m) := w_some
theorem w_bB {p : Int → Int → Bool} {i j : Int} {Q : D × Mem → Prop} : Wp (gB p m [.int i, .int j]) Q ↔ Q (.bl (p i j), m) := w_some
theorem w_eqI {i j : Int} {Q : D × Mem → Prop} : Wp (gEq m [.int i, .int j]) Q ↔ Q (.bl (decide (i = j)), m) := w_some
theorem w_neI {i j : Int} {Q : D × Mem → Prop} : Wp (gNe m [.int i, .int j]) Q ↔ Q (.bl (!decide (i = j)), m) := w_some
theorem w_eqS {i j : Str} {Q : D × Mem → Prop} : Wp (gEq m [.str i, .str j]) Q ↔ Q (.bl (decide (i = j)), m) := w_some
theorem w_neS {i j : Str} {Q : D × Mem → Prop} : Wp (gNe m [.str i, .str j]) Q ↔ Q (.bl (!decide (i = j)), m) := w_some
theorem w_isB {Q : Bool × Mem → Prop} {b : Bool} : isB Q (.bl b, m) ↔ Q (b, m) := Iff.rfl
theorem w_neg {i : Int} {Q : D × Mem → Prop} : Wp (gNeg m [.int i]) Q ↔ Q (.int (-i), m) := w_some
theorem w_isN {neg : Bool} {Q : D × Mem → Prop} : Wp (gIsN neg m [d, .non]) Q ↔ Q (.bl (if neg then !isNonD d else isNonD d), m) := w_some
theorem w_isBb {neg : Bool} {a b : Bool} {Q : D × Mem → Prop} : Wp (gIsB neg m [.bl a, .bl b]) Q ↔ Q (.bl (if neg then !decide (a = b) else decide (a = b)), m) := w_some
theorem w_isi {t : Ty5} {Q : D × Mem → Prop} : Wp (gIsi t m [d]) Q ↔ Wp (isiD m t d) fun b => Q (.bl b, m) := w_map
theorem w_tupN {Q : D × Mem → Prop} : Wp (gTupN m ds) Q ↔ ds.length ≤ 1000 ∧ Q (.tup ds, m) := by
  unfold gTupN
  by_cases h : ds.length ≤ 1000
  · simp [h, w_some]
  · simp [h, w_none]
theorem w_lstN {Q : D × Mem → Prop} : Wp (gLstN m ds) Q ↔ ds.length ≤ 1000 ∧ Q (.lst ds, m) := by
  unfold gLstN
  by_cases h : ds.length ≤ 1000
  · simp [h, w_some]
  · simp [h, w_none]
theorem w_finI {i : Int} {Q : D × Mem → Prop} : Wp (finF m m (.int i)) Q ↔ Q (.int i, m) := w_fin0 rfl rfl
theorem w_finB {i : Bool} {Q : D × Mem → Prop} : Wp (finF m m (.bl i)) Q ↔ Q (.bl i, m) := w_fin0 rfl rfl
theorem w_finS {i : Str} {Q : D × Mem → Prop} : Wp (finF m m (.str i)) Q ↔ Q (.str i, m) := w_fin0 rfl rfl
theorem w_finN {Q : D × Mem → Prop} : Wp (finF m m .non) Q ↔ Q (.non, m) := w_fin0 rfl rfl
theorem w_impI {i : Int} : imp (.int i) m = (.int i, m) := rfl
theorem w_impS {i : Str} : imp (.str i) m = (.str i, m) := rfl
theorem w_impB {i : Bool} : imp (.bl i) m = (.bl i, m) := rfl
theorem w_impR {i : Nat} : imp (.ref i) m = (.ref i, m) := rfl
theorem w_var0 {x : Option D} {Q : D × Mem → Prop} : Wp (fVar 0 (x :: l) m) Q ↔ Wp x fun d => Q (d, m) := by cases x <;> simp [fVar, w_some, w_none]
theorem w_varS {i : Nat} {x : Option D} {Q : D × Mem → Prop} : Wp (fVar (i + 1) (x :: l) m) Q ↔ Wp (fVar i l m) Q := by unfold fVar; rw [List.getElem?_cons_succ]
/-! ### loops -/
theorem w_sFor {fi : IF} {g : GT} {b : SF} {Q : Fl → Prop} : Wp (sFor fi g b l m) Q ↔ Wp (fi l m) fun r => Wp (forS r.1.2 g b r.1.1 l r.2) Q := by
  unfold sFor
  cases h : fi l m with
  | none => simp [w_none]
  | some r => simp [w_some]
theorem w_forNil {wt : Watch} {g : GT} {b : SF} {Q : Fl → Prop} : Wp (forS wt g b [] l m) Q ↔ Q (.nx l m) := w_some
theorem w_forCons {wt : Watch} {g : GT} {b : SF} {d : D} {ds : List D} {Q : Fl → Prop} : Wp (forS wt g b (d :: ds) l m) Q ↔ Wp (g d l m) fun r => Wp (b r.1 r.2) fun s => match s with
    | .nx l2 m2 => wt.ok m2 ∧ Wp (forS wt g b ds l2 m2) Q
    | .ct l2 m2 => wt.ok m2 ∧ Wp (forS wt g b ds l2 m2) Q
    | .bk l2 m2 => Q (.nx l2 m2)
    | .rt d m2 => Q (.rt d m2) := by
  rw [forS]
  show Wp (match g d l m with
    | some (l1, m1) => (match b l1 m1 with
      | some (.nx l2 m2) => guard (wt.ok m2) (forS wt g b ds l2 m2)
      | some (.ct l2 m2) => guard (wt.ok m2) (forS wt g b ds l2 m2)
      | some (.bk l2 m2) => some (.nx l2 m2)
      | some (.rt d m2) => some (.rt d m2)
      | none => none)
    | none => none) Q ↔ _
  cases h : g d l m with
  | none => simp [w_none]
  | some r =>
    simp only [w_some]
    cases h2 : b r.1 r.2 with
    | none => simp [w_none]
    | some s => cases s <;> simp [w_some, w_guard]
/-- a loop that never leaves: I by the number of turns done -/
theorem Wp.for {wt : Watch} {g : GT} {b : SF} {Q : Fl → Prop} (I : Nat → Loc → Mem → Prop) : ∀ {ds : List D} (k : Nat) {l : Loc} {m : Mem}, I k l m → (∀ i d l m, ds[i]? = some d → I (k + i) l m → Wp (g d l m) fun r => Wp (b r.1 r.2) fun s => match s with
    | .nx l2 m2 => wt.ok m2 ∧ I (k + i + 1) l2 m2
    | .ct l2 m2 => wt.ok m2 ∧ I (k + i + 1) l2 m2
    | .bk _ _ => False
    | .rt _ _ => False) → (∀ l m, I (k + ds.length) l m → Q (.nx l m)) → Wp (forS wt g b ds l m) Q
  | [], k, l, m, h, st, q => w_forNil.mpr (q l m h)
  | d :: ds, k, l, m, h, st, q => by
    refine w_forCons.mpr ((st 0 d l m rfl h).mono fun r hr => hr.mono fun s hs => ?_)
    have rest : ∀ {l2 m2}, I (k + 0 + 1) l2 m2 → Wp (forS wt g b ds l2 m2) Q := fun {l2 m2} h2 =>
      Wp.for I (k + 1) h2 (fun i d l m e hi => by
        have := st (i + 1) d l m e (by rw [← Nat.add_assoc, Nat.add_right_comm]; exact hi)
        rw [show k + (i + 1) + 1 = k + 1 + i + 1 by omega] at this
        exact this) fun l m hi => q l m (by rw [List.length_cons, show k + (ds.length + 1) = k + 1 + ds.length by omega]; exact hi)
    cases s with
    | nx l2 m2 => exact ⟨hs.1, rest hs.2⟩
    | ct l2 m2 => exact ⟨hs.1, rest hs.2⟩
    | bk l2 m2 => exact hs.elim
    | rt d2 m2 => exact hs.elim
theorem okNil {m : Mem} : Watch.ok [] m := by intro k c h; cases h
def isI (Q : Int × Mem → Prop) : List D × Mem → Prop := fun r => match r.1 with
  | [.int j] => Q (j, r.2)
  | _ => False
theorem w_iR1 {f : AF} {Q : ((List D × Watch) × Mem) → Prop} : Wp (iR1 f l m) Q ↔ Wp (f l m) (isI fun r => rOk r.1 = true ∧ r.1.toNat ≤ 1000000 ∧ Q ((rngD 0 r.1.toNat, []), r.2)) := by
  unfold iR1
  cases h : f l m with
  | none => simp [w_none]
  | some r =>
    simp only [w_some]
    obtain ⟨ds, m1⟩ := r
    match ds with
    | [.int j] =>
      show Wp (if (rOk j && decide (j.toNat ≤ 1000000)) = true then _ else _) _ ↔ _
      rw [w_ite, w_some, w_none]
      simp only [isI, Bool.and_eq_true, decide_eq_true_eq]
      constructor
      · intro ⟨h1, h2⟩
        by_cases hc : rOk j = true ∧ j.toNat ≤ 1000000
        · exact ⟨hc.1, hc.2, h1 hc⟩
        · exact (h2 hc).elim
      · intro ⟨h1, h2, h3⟩
        exact ⟨fun _ => h3, fun hn => hn ⟨h1, h2⟩⟩
    | [] => exact w_none
    | [.non] => exact w_none
    | [.bl _] => exact w_none
    | [.str _] => exact w_none
    | [.tup _] => exact w_none
    | [.lst _] => exact w_none
    | [.fl _] => exact w_none
    | [.dic _ _] => exact w_none
    | [.fdic _ _] => exact w_none
    | [.dit _ _] => exact w_none
    | [.fdit _ _] => exact w_none
    | [.ins _ _ _] => exact w_none
    | [.box _ _ _] => exact w_none
    | [.ref _] => exact w_none
    | x :: _ :: _ => cases x <;> exact w_none
theorem w_isI {j : Int} {Q : Int × Mem → Prop} : isI Q ([.int j], m) ↔ Q (j, m) := Iff.rfl
end
end M3
set_option Elab.async false
set_option linter.all false
set_option autoImplicit false
set_option maxRecDepth 100000
set_option maxHeartbeats 1000000
/-! More of the way of reckoning: lengths, subscripts, slices, walks, comprehensions, calls. -/
namespace M3
open PySem PySem.Spec PyProof.Rows L2
section
variable {α β : Type} {l : Loc} {m m1 : Mem} {d : D} {ds : List D}
theorem w_iteS {p : Prop} [Decidable p] {a : α} {Q : α → Prop} : Wp (if p then some a else none) Q ↔ p ∧ Q a := by
  by_cases h : p
  · rw [if_pos h, w_some]; exact ⟨fun z => ⟨h, z⟩, fun z => z.2⟩
  · rw [if_neg h, w_none]; exact ⟨False.elim, fun z => h z.1⟩
theorem w_lenS {x : Str} {Q : D × Mem → Prop} : Wp (gLen m [.str x]) Q ↔ x.length ≤ 16777216 ∧ Q (.int x.length, m) := w_iteS
theorem w_lenT {xs : List D} {Q : D × Mem → Prop} : Wp (gLen m [.tup xs]) Q ↔ Q (.int xs.length, m) := w_some
theorem w_lenF {xs : List D} {Q : D × Mem → Prop} : Wp (gLen m [.fl xs]) Q ↔ Q (.int xs.length, m) := w_some
theorem w_lenL {xs : List D} {Q : D × Mem → Prop} : Wp (gLen m [.lst xs]) Q ↔ Q (.int xs.length, m) := w_some
theorem w_lenR {k : Nat} {Q : D × Mem → Prop} : Wp (gLen m [.ref k]) Q ↔ Wp (sq m (.ref k)) fun xs => Q (.int xs.length, m) := w_map
theorem sq_ref {k : Nat} {xs : List D} (h : m[k]? = some (.lst xs)) : sq m (.ref k) = some xs := by
  show (match m[k]? with | some (.lst xs) => some xs | _ => none) = _
  rw [h]
theorem rl_ref {k : Nat} {xs : List D} (h : m[k]? = some (.lst xs)) : rl m (.ref k) = some xs := by
  show (match m[k]? with | some (.lst xs) => some xs | _ => none) = _
  rw [h]
theorem wl_ref {k : Nat} {xs : List D} (h : m[k]? = some (.lst xs)) : wl m (.ref k) = some xs := by
  show (match m[k]? with | some (.lst xs) => some xs | _ => none) = _
  rw [h]
theorem sqD_ref {k : Nat} {xs : List D} (h : m[k]? = some (.lst xs)) : sqD m (.ref k) = some (true, xs, [(k, .lst xs)]) := by
  show (match m[k]? with | some (.lst ds) => some (true, ds, [(k, D.lst ds)]) | _ => none) = _
  rw [h]
theorem w_or1 {g1 g2 : GF} {Q : D × Mem → Prop} (h : g2 m ds = none) : Wp (orG g1 g2 m ds) Q ↔ Wp (g1 m ds) Q := by
  unfold orG
  cases h1 : g1 m ds with
  | none => rw [h]
  | some r => exact Iff.rfl
theorem w_or2 {g1 g2 : GF} {Q : D × Mem → Prop} (h : g1 m ds = none) : Wp (orG g1 g2 m ds) Q ↔ Wp (g2 m ds) Q := by
  unfold orG
  rw [h]
theorem w_addSS {a b : Str} {Q : D × Mem → Prop} : Wp (gAdd m [.str a, .str b]) Q ↔ a.length + b.length ≤ 16777216 ∧ Q (.str (a ++ b), m) := (w_or2 rfl).trans ((w_or1 rfl).trans w_iteS)
theorem w_addTT {a b : List D} {Q : D × Mem → Prop} : Wp (gAdd m [.tup a, .tup b]) Q ↔ a.length + b.length ≤ 16777216 ∧ Q (.tup (a ++ b), m) := (w_or2 rfl).trans ((w_or2 rfl).trans ((w_or1 rfl).trans w_iteS))
theorem w_ixStr {x : Str} {i : Int} {Q : D × Mem → Prop} : Wp (gIx m [.str x, .int i]) Q ↔ x.length ≤ 16777216 ∧ Wp (atI x.cps.toList i) fun c => Q (.str ⟨#[c]⟩, m) := by
  refine (w_or2 rfl).trans ?_
  show Wp (if x.length ≤ 16777216 then (atI x.cps.toList i).map fun c => (D.str ⟨#[c]⟩, m) else none) Q ↔ _
  by_cases h : x.length ≤ 16777216
  · rw [if_pos h, w_map]; exact ⟨fun z => ⟨h, z⟩, fun z => z.2⟩
  · rw [if_neg h, w_none]; exact ⟨False.elim, fun z => h z.1⟩
theorem w_ixTup {xs : List D} {i : Int} {Q : D × Mem → Prop} : Wp (gIx m [.tup xs, .int i]) Q ↔ Wp (atI xs i) fun d => Q (d, m) := (w_or1 rfl).trans w_map
theorem w_ixFl {xs : List D} {i : Int} {Q : D × Mem → Prop} : Wp (gIx m [.fl xs, .int i]) Q ↔ Wp (atI xs i) fun d => Q (d, m) := (w_or1 rfl).trans w_map
theorem w_ixLst {xs : List D} {i : Int} {Q : D × Mem → Prop} : Wp (gIx m [.lst xs, .int i]) Q ↔ Wp (atI xs i) fun d => Q (d, m) := (w_or1 rfl).trans w_map
theorem w_ixRef {k : Nat} {i : Int} {Q : D × Mem → Prop} : Wp (gIx m [.ref k, .int i]) Q ↔ Wp (sq m (.ref k)) fun xs => Wp (atI xs i) fun d => Q (d, m) := by
  refine (w_or1 rfl).trans ?_
  show Wp (((sq m (.ref k)).bind fun xs => atI xs i).map fun x => (x, m)) Q ↔ _
  rw [w_map]
  cases h : sq m (.ref k) with
  | none => simp [w_none]
  | some xs => simp only [Option.bind_some, w_some]
theorem at_1_0 {a : α} : atI [a] 0 = some a := rfl
theorem at_2_0 {a b : α} : atI [a, b] 0 = some a := rfl
theorem at_2_1 {a b : α} : atI [a, b] 1 = some b := rfl
theorem at_3_0 {a b c : α} : atI [a, b, c] 0 = some a := rfl
theorem at_3_1 {a b c : α} : atI [a, b, c] 1 = some b := rfl
theorem at_3_2 {a b c : α} : atI [a, b, c] 2 = some c := rfl
theorem at_4_0 {a b c d : α} : atI [a, b, c, d] 0 = some a := rfl
theorem at_4_1 {a b c d : α} : atI [a, b, c, d] 1 = some b := rfl
theorem at_4_2 {a b c d : α} : atI [a, b, c, d] 2 = some c := rfl
theorem at_4_3 {a b c d : α} : atI [a, b, c, d] 3 = some d := rfl
theorem at_5_0 {a b c d e : α} : atI [a, b, c, d, e] 0 = some a := rfl
theorem at_5_1 {a b c d e : α} : atI [a, b, c, d, e] 1 = some b := rfl
theorem at_5_2 {a b c d e : α} : atI [a, b, c, d, e] 2 = some c := rfl
theorem at_5_3 {a b c d e : α} : atI [a, b, c, d, e] 3 = some d := rfl
theorem at_5_4 {a b c d e : α} : atI [a, b, c, d, e] 4 = some e := rfl
theorem Wp.at {xs : List α} {i : Int} {Q : α → Prop} (h0 : 0 ≤ i) (h1 : i < xs.length) (k : ∀ a, xs[i.toNat]? = some a → Q a) : Wp (atI xs i) Q := by
  have hl : i.toNat < xs.length := by omega
  refine ⟨xs[i.toNat], ?_, k _ (List.getElem?_eq_getElem hl)⟩
  unfold atI ixN
  rw [if_pos h0, if_pos h1]
  exact List.getElem?_eq_getElem hl
theorem w_slBS {x : Str} {i : Int} {Q : D × Mem → Prop} : Wp (gSlB m [.str x, .int i]) Q ↔ x.length ≤ 16777216 ∧ Q (.str (cutS x none (some i)), m) := by
  refine (w_map (x := cutD m (.str x) none (some i))).trans ?_
  exact w_iteS (a := D.str (cutS x none (some i))) (Q := fun b => Q (b, m))
theorem w_slAS {x : Str} {i : Int} {Q : D × Mem → Prop} : Wp (gSlA m [.str x, .int i]) Q ↔ x.length ≤ 16777216 ∧ Q (.str (cutS x (some i) none), m) := by
  refine (w_map (x := cutD m (.str x) (some i) none)).trans ?_
  exact w_iteS (a := D.str (cutS x (some i) none)) (Q := fun b => Q (b, m))
theorem w_slBT {xs : List D} {i : Int} {Q : D × Mem → Prop} : Wp (gSlB m [.tup xs, .int i]) Q ↔ Q (.tup (cutL xs none (some i)), m) := w_some
theorem w_slAT {xs : List D} {i : Int} {Q : D × Mem → Prop} : Wp (gSlA m [.tup xs, .int i]) Q ↔ Q (.tup (cutL xs (some i) none), m) := w_some
theorem w_slABF {xs : List D} {i j : Int} {Q : D × Mem → Prop} : Wp (gSlAB m [.fl xs, .int i, .int j]) Q ↔ Q (.lst (cutL xs (some i) (some j)), m) := w_some
theorem cutL_B {xs : List α} {k : Nat} : cutL xs none (some (k : Int)) = xs.take k := by
  unfold cutL
  rw [HT.sIx_nat]
  show (xs.drop 0).take (min k xs.length - 0) = _
  rw [List.drop_zero, Nat.sub_zero, ← List.take_eq_take_min]
theorem cutL_mem {xs : List α} {lo hi : Option Int} {a : α} (h : a ∈ cutL xs lo hi) : a ∈ xs := List.mem_of_mem_drop (List.mem_of_mem_take h)
theorem cutS_mem {x : Str} {lo hi : Option Int} {c : Nat} (h : c ∈ (cutS x lo hi).cps.toList) : c ∈ x.cps.toList := by
  unfold cutS at h
  rw [List.toList_toArray] at h
  exact List.mem_of_mem_drop (List.mem_of_mem_take h)
theorem cutS_B {x : Str} {k : Nat} (h : k ≤ x.length) : (cutS x none (some (k : Int))).length = k := by
  have h' : k ≤ x.cps.size := h
  unfold cutS
  rw [HT.sIx_nat]
  show ((x.cps.toList.drop 0).take (min k x.length - 0)).toArray.size = k
  simp only [List.drop_zero, Nat.sub_zero, List.size_toArray, List.length_take, Array.length_toList]
  show min (min k x.cps.size) x.cps.size = k
  omega
theorem cutS_A {x : Str} {k : Nat} (h : k ≤ x.length) : (cutS x (some (k : Int)) none).length = x.length - k := by
  have h' : k ≤ x.cps.size := h
  unfold cutS
  rw [HT.sIx_nat, HT.sIx_none]
  show ((x.cps.toList.drop (min k x.length)).take (x.length - min k x.length)).toArray.size = x.length - k
  simp only [List.size_toArray, List.length_take, List.length_drop, Array.length_toList]
  show min (x.cps.size - min k x.cps.size) (x.cps.size - min k x.cps.size) = x.cps.size - k
  omega
theorem Wp.sindex {a : Str} {c : Nat} {Q : D × Mem → Prop} (h : c ∈ a.cps.toList) (k : ∀ i : Nat, Q (.int (i : Int), m)) : Wp (gSindex m [.str a, .str ⟨#[c]⟩]) Q := by
  have h1 := PySem.StrLaws.found_one a c
  rw [decide_eq_true h] at h1
  show Wp (match Builtin.Str.occurrences a ⟨#[c]⟩ 0 a.length 1 with | i :: _ => some (D.int ((i : Nat) : Int), m) | [] => none) Q
  cases q : Builtin.Str.occurrences a ⟨#[c]⟩ 0 a.length 1 with
  | nil => rw [q] at h1; cases h1
  | cons i r => exact w_some.mpr (k i)
/-! tuple(..), list(..), all, any -/
theorem w_tupleT {xs : List D} {Q : D × Mem → Prop} : Wp (gTuple m [.tup xs]) Q ↔ Q (.tup xs, m) := w_some
theorem w_tupleL {xs : List D} {Q : D × Mem → Prop} : Wp (gTuple m [.lst xs]) Q ↔ Q (.tup xs, m) := w_some
theorem w_tupleF {xs : List D} {Q : D × Mem → Prop} : Wp (gTuple m [.fl xs]) Q ↔ Q (.tup xs, m) := w_some
theorem w_tupleR {k : Nat} {Q : D × Mem → Prop} : Wp (gTuple m [.ref k]) Q ↔ Wp (rl m (.ref k)) fun xs => Q (.tup xs, m) := w_map
theorem w_listT {xs : List D} {Q : D × Mem → Prop} : Wp (gList m [.tup xs]) Q ↔ Q (.lst xs, m) := w_some
theorem w_listF {xs : List D} {Q : D × Mem → Prop} : Wp (gList m [.fl xs]) Q ↔ Q (.lst xs, m) := w_some
theorem w_listL {xs : List D} {Q : D × Mem → Prop} : Wp (gList m [.lst xs]) Q ↔ Q (.lst xs, m) := w_some
theorem w_listR {k : Nat} {Q : D × Mem → Prop} : Wp (gList m [.ref k]) Q ↔ Wp (sq m (.ref k)) fun xs => Q (.lst xs, m) := w_map
theorem blsD_map : ∀ bs : List Bool, blsD (bs.map D.bl) = some bs
  | [] => rfl
  | b :: bs => by
    rw [List.map_cons]
    unfold blsD
    rw [blsD_map bs]
    rfl
theorem w_allL {bs : List Bool} {Q : D × Mem → Prop} : Wp (gAll m [.lst (bs.map D.bl)]) Q ↔ Q (.bl (bs.all id), m) := by
  show Wp (((some (bs.map D.bl)).bind blsD).map fun bs => (D.bl (bs.all id), m)) Q ↔ _
  rw [Option.bind_some, blsD_map]
  exact w_some
theorem w_anyL {bs : List Bool} {Q : D × Mem → Prop} : Wp (gAny m [.lst (bs.map D.bl)]) Q ↔ Q (.bl (bs.any id), m) := by
  show Wp (((some (bs.map D.bl)).bind blsD).map fun bs => (D.bl (bs.any id), m)) Q ↔ _
  rw [Option.bind_some, blsD_map]
  exact w_some
theorem all_true {n : Nat} : ((List.replicate n true).all id) = true := by
  rw [List.all_eq_true]; intro x hx; exact List.eq_of_mem_replicate hx
/-! walks -/
theorem w_iSeq {f : EF} {Q : ((List D × Watch) × Mem) → Prop} : Wp (iSeq f l m) Q ↔ Wp (f l m) fun r => Wp (seqD (imp r.1 r.2).2 (imp r.1 r.2).1) fun z => Q (z, (imp r.1 r.2).2) := by
  unfold iSeq
  cases h : f l m with
  | none => simp [w_none]
  | some r => simp only [w_some, w_map]
theorem w_seqT {xs : List D} {Q : (List D × Watch) → Prop} : Wp (seqD m (.tup xs)) Q ↔ Q (xs, []) := w_some
theorem w_seqF {xs : List D} {Q : (List D × Watch) → Prop} : Wp (seqD m (.fl xs)) Q ↔ Q (xs, []) := w_some
theorem w_seqS {x : Str} {Q : (List D × Watch) → Prop} : Wp (seqD m (.str x)) Q ↔ x.cps.size ≤ 1000 ∧ Q (signs x, []) := w_iteS
theorem w_seqR {k : Nat} {Q : (List D × Watch) → Prop} : Wp (seqD m (.ref k)) Q ↔ Wp (sqD m (.ref k)) fun r => Q (r.2.1, r.2.2) := w_map
def en1 (p : List D × Mem) : Option ((List D × Watch) × Mem) := match p.1 with
  | [d] => (sqD p.2 d).map fun z => ((enumD 0 z.2.1, z.2.2), p.2)
  | _ => none
theorem w_iEn {f : AF} {Q : ((List D × Watch) × Mem) → Prop} : Wp (iEn f l m) Q ↔ Wp (f l m) fun r => Wp (en1 (imps r.1 r.2)) Q := by
  unfold iEn
  cases h : f l m with
  | none => simp [w_none]
  | some r => simp only [w_some]; exact Iff.rfl
theorem w_en1 {Q : ((List D × Watch) × Mem) → Prop} : Wp (en1 ([d], m)) Q ↔ Wp (sqD m d) fun z => Q ((enumD 0 z.2.1, z.2.2), m) := w_map
theorem w_sqT {xs : List D} {Q : (Bool × List D × Watch) → Prop} : Wp (sqD m (.tup xs)) Q ↔ Q (false, xs, []) := w_some
def zp1 (p : List D × Mem) : Option ((List D × Watch) × Mem) := match p.1 with
  | [d, e] => (match sqD p.2 d, sqD p.2 e with
    | some (b, xs, wt), some (b', ys, wt') => if b = b' then some ((zipD xs ys, wt ++ wt'), p.2) else none
    | _, _ => none)
  | _ => none
theorem w_iZp {f : AF} {Q : ((List D × Watch) × Mem) → Prop} : Wp (iZp f l m) Q ↔ Wp (f l m) fun r => Wp (zp1 (imps r.1 r.2)) Q := by
  unfold iZp
  cases h : f l m with
  | none => simp [w_none]
  | some r => simp only [w_some]; exact Iff.rfl
theorem Wp.zp1 {e : D} {b : Bool} {xs ys : List D} {wt wt' : Watch} {Q : ((List D × Watch) × Mem) → Prop} (h1 : sqD m d = some (b, xs, wt)) (h2 : sqD m e = some (b, ys, wt')) (k : Q ((zipD xs ys, wt ++ wt'), m)) : Wp (M3.zp1 ([d, e], m)) Q := by
  unfold M3.zp1
  simp only [h1, h2, if_true]
  exact w_some.mpr k
theorem imps_nil : imps [] m = ([], m) := rfl
theorem imps_cons : imps (d :: ds) m = ((imp d m).1 :: (imps ds (imp d m).2).1, (imps ds (imp d m).2).2) := rfl
theorem imp_tup {xs : List D} (h : settleds xs = true) : imp (.tup xs) m = (.tup xs, m) := imp_settled _ _ h
theorem imp_lst {xs : List D} (h : settleds xs = true) : imp (.lst xs) m = (.ref m.length, m ++ [.lst xs]) := by
  show (D.ref (imps xs m).2.length, (imps xs m).2 ++ [.lst (imps xs m).1]) = _
  rw [imps_settled _ _ h]
/-! comprehensions -/
theorem w_fComp {fi : IF} {g : GT} {c : TF} {f : EF} {vs : List Nat} {Q : D × Mem → Prop} : Wp (fComp fi g c f vs l m) Q ↔ Wp (fi l m) fun r => Wp (compS r.1.2 g c f vs l r.1.1 r.2) fun s => Q (.lst s.1, s.2) := by
  unfold fComp
  cases h : fi l m with
  | none => simp [w_none]
  | some r =>
    simp only [w_some]
    cases h2 : compS r.1.2 g c f vs l r.1.1 r.2 with
    | none => simp [w_none]
    | some s => simp [w_some]
theorem w_compCons {wt : Watch} {g : GT} {c : TF} {f : EF} {vs : List Nat} {Q : List D × Mem → Prop} : Wp (compS wt g c f vs l (d :: ds) m) Q ↔ Wp (g d (wipeD l vs) m) fun r => Wp (c r.1 r.2) fun b =>
    (b.1 = true → Wp (f r.1 b.2) fun y => wt.ok y.2 ∧ Wp (compS wt g c f vs l ds y.2) fun s => Q (y.1 :: s.1, s.2)) ∧ (b.1 = false → wt.ok b.2 ∧ Wp (compS wt g c f vs l ds b.2) Q) := by
  show Wp (match g d (wipeD l vs) m with
    | some (l1, m1) => (match c l1 m1 with
      | some (true, m2) => (match f l1 m2 with
        | some (y, m3) => guard (wt.ok m3) ((compS wt g c f vs l ds m3).map fun r => (y :: r.1, r.2))
        | none => none)
      | some (false, m2) => guard (wt.ok m2) (compS wt g c f vs l ds m2)
      | none => none)
    | none => none) Q ↔ _
  cases h : g d (wipeD l vs) m with
  | none => simp [w_none]
  | some r =>
    simp only [w_some]
    cases h2 : c r.1 r.2 with
    | none => simp [w_none]
    | some b =>
      obtain ⟨b, m2⟩ := b
      cases b
      · simp [w_some, w_guard]
      · cases h3 : f r.1 m2 with
        | none => simp [w_some, w_none, h3]
        | some y => simp [w_some, w_guard, w_map, h3]
/-- I: turns, what is made, the store -/
theorem Wp.comp {wt : Watch} {g : GT} {c : TF} {f : EF} {vs : List Nat} {Q : List D × Mem → Prop} (I : Nat → List D → Mem → Prop) : ∀ {ds : List D} (k : Nat) (acc : List D) {m : Mem}, I k acc m →
    (∀ i d acc m, ds[i]? = some d → I (k + i) acc m → Wp (g d (wipeD l vs) m) fun r => Wp (c r.1 r.2) fun b => (b.1 = true → Wp (f r.1 b.2) fun y => wt.ok y.2 ∧ I (k + i + 1) (acc ++ [y.1]) y.2) ∧ (b.1 = false → wt.ok b.2 ∧ I (k + i + 1) acc b.2)) →
    (∀ acc' m, I (k + ds.length) acc' m → ∀ ys, acc' = acc ++ ys → Q (ys, m)) → Wp (compS wt g c f vs l ds m) Q
  | [], k, acc, m, h, st, q => w_some.mpr (q acc m h [] (by simp))
  | d :: ds, k, acc, m, h, st, q => by
    have rest : ∀ {acc2 : List D} {m2 : Mem} {Q2 : List D × Mem → Prop}, I (k + 0 + 1) acc2 m2 → (∀ acc' m, I (k + (d :: ds).length) acc' m → ∀ ys, acc' = acc2 ++ ys → Q2 (ys, m)) → Wp (compS wt g c f vs l ds m2) Q2 := fun {acc2 m2 Q2} h2 q2 =>
      Wp.comp I (k + 1) acc2 h2 (fun i d acc m e hi => by
        have := st (i + 1) d acc m e (by rw [← Nat.add_assoc, Nat.add_right_comm]; exact hi)
        rw [show k + (i + 1) + 1 = k + 1 + i + 1 by omega] at this
        exact this) fun acc' m hi => q2 acc' m (by rw [List.length_cons, show k + (ds.length + 1) = k + 1 + ds.length by omega]; exact hi)
    refine w_compCons.mpr ((st 0 d acc m rfl h).mono fun r hr => hr.mono fun b hb => ⟨fun e => (hb.1 e).mono fun y hy => ⟨hy.1, rest hy.2 fun acc' m hi ys e2 => ?_⟩, fun e => ⟨(hb.2 e).1, rest (hb.2 e).2 fun acc' m hi ys e2 => q acc' m hi ys e2⟩⟩)
    exact q acc' m hi (y.1 :: ys) (by rw [e2]; simp)
/-- each item gives a value, the store stays -/
theorem Wp.map {g : GT} {f : EF} {vs : List Nat} {Q : List D × Mem → Prop} (P : Nat → D → Prop) (h : ∀ i d, ds[i]? = some d → Wp (g d (wipeD l vs) m) fun r => r.2 = m ∧ Wp (f r.1 m) fun y => y.2 = m ∧ P i y.1)
    (q : ∀ ys : List D, ys.length = ds.length → (∀ i y, ys[i]? = some y → P i y) → Q (ys, m)) : Wp (compS [] g tYesF f vs l ds m) Q := by
  refine Wp.comp (fun k acc m' => m' = m ∧ acc.length = k ∧ ∀ i y, acc[i]? = some y → P i y) 0 [] ⟨rfl, rfl, by simp⟩ ?_ ?_
  · rintro i d acc m' hd ⟨rfl, hl, hp⟩
    refine (h i d hd).mono fun r hr => w_tYes.mpr ⟨fun _ => ?_, fun z => Bool.noConfusion z⟩
    obtain ⟨e, hr⟩ := hr
    rw [e]
    refine hr.mono fun y hy => ⟨okNil, hy.1, by simp [hl], fun j z hz => ?_⟩
    rw [Nat.zero_add] at hl
    by_cases hj : j < acc.length
    · rw [List.getElem?_append_left hj] at hz
      exact hp j z hz
    · rw [List.getElem?_append_right (by omega)] at hz
      have : j = i := by
        have := (List.getElem?_eq_some_iff.mp hz).1
        simp at this
        omega
      subst this
      rw [hl] at hz
      simp at hz
      rw [← hz]
      exact hy.2
  · rintro acc' m' ⟨rfl, hl, hp⟩ ys e
    rw [List.nil_append] at e
    subst e
    exact q _ (by omega) hp
/-! calls -/
theorem Wp.call {np : Nat} {F : FN} {r : D × Mem} {Q : D × Mem → Prop} (hn : ds.length = np) (hs : settleds ds = true) (h : F ds m = some r) (q : Q r) : Wp (callG np F m ds) Q := by
  rw [callG_settled hn hs, h]; exact w_some.mpr q
/-- arguments that are lists just made -/
theorem Wp.callN {np : Nat} {F : FN} {d d' : D} {m3 : Mem} {Q : D × Mem → Prop} (hn : ds.length = np) (hs : settleds ds = false) (h : F (imps ds m).1 (imps ds m).2 = some (d, m3)) (hx : exp m3 m.length d = some d') (ht : m3.take m.length = m) (q : Q (d', m)) : Wp (callG np F m ds) Q := by
  refine ⟨(d', m), ?_, q⟩
  unfold callG callH
  rw [if_pos hn]
  show (@ite _ (settleds ds = true) (instDecidableEqBool _ _) (F ds m) (match F (imps ds m).1 (imps ds m).2 with
    | some (d, m3) => (match exp m3 m.length d with
      | some d' => guard (m3.take m.length = m) (some (d', m))
      | none => none)
    | none => none)) = _
  rw [if_neg (by rw [hs]; decide), h]
  simp only [hx]
  exact guard_pos ht
end
end M3
set_option Elab.async false
set_option linter.all false
set_option autoImplicit false
set_option maxRecDepth 100000
set_option maxHeartbeats 1000000
/-! Plain data (texts, numbers, tuples of such); lists that are written. -/
namespace M3
open PySem PySem.Spec PyProof.Rows L2
mutual
def plain : D → Bool
  | .non => true
  | .bl _ => true
  | .int _ => true
  | .str _ => true
  | .tup xs => plains xs
  | _ => false
def plains : List D → Bool
  | [] => true
  | d :: ds => plain d && plains ds
end
theorem plains_iff {ds : List D} : plains ds = true ↔ ∀ d ∈ ds, plain d = true := by
  induction ds with
  | nil => simp [plains]
  | cons d ds ih => simp [plains, ih]
mutual
theorem plain_settled : ∀ d : D, plain d = true → settled d = true
  | .non, _ => rfl
  | .bl _, _ => rfl
  | .int _, _ => rfl
  | .str _, _ => rfl
  | .tup xs, h => plains_settled xs h
  | .lst _, h => by cases h
  | .fl _, h => by cases h
  | .dic _ _, h => by cases h
  | .fdic _ _, h => by cases h
  | .dit _ _, h => by cases h
  | .fdit _ _, h => by cases h
  | .ins _ _ _, h => by cases h
  | .box _ _ _, h => by cases h
  | .ref _, h => by cases h
theorem plains_settled : ∀ ds : List D, plains ds = true → settleds ds = true
  | [], _ => rfl
  | d :: ds, h => by
    obtain ⟨h1, h2⟩ := Bool.and_eq_true_iff.mp (show (plain d && plains ds) = true from h)
    exact Bool.and_eq_true_iff.mpr ⟨plain_settled d h1, plains_settled ds h2⟩
end
mutual
theorem plain_closed {n : Nat} : ∀ d : D, plain d = true → closed n d = true
  | .non, _ => rfl
  | .bl _, _ => rfl
  | .int _, _ => rfl
  | .str _, _ => rfl
  | .tup xs, h => plains_closed xs h
  | .lst _, h => by cases h
  | .fl _, h => by cases h
  | .dic _ _, h => by cases h
  | .fdic _ _, h => by cases h
  | .dit _ _, h => by cases h
  | .fdit _ _, h => by cases h
  | .ins _ _ _, h => by cases h
  | .box _ _ _, h => by cases h
  | .ref _, h => by cases h
theorem plains_closed {n : Nat} : ∀ ds : List D, plains ds = true → closeds n ds = true
  | [], _ => rfl
  | d :: ds, h => by
    obtain ⟨h1, h2⟩ := Bool.and_eq_true_iff.mp (show (plain d && plains ds) = true from h)
    exact Bool.and_eq_true_iff.mpr ⟨plain_closed d h1, plains_closed ds h2⟩
end
mutual
theorem plain_liv : ∀ d : D, plain d = true → liv d = true
  | .non, _ => rfl
  | .bl _, _ => rfl
  | .int _, _ => rfl
  | .str _, _ => rfl
  | .tup xs, h => plains_liv xs h
  | .lst _, h => by cases h
  | .fl _, h => by cases h
  | .dic _ _, h => by cases h
  | .fdic _ _, h => by cases h
  | .dit _ _, h => by cases h
  | .fdit _ _, h => by cases h
  | .ins _ _ _, h => by cases h
  | .box _ _ _, h => by cases h
  | .ref _, h => by cases h
theorem plains_liv : ∀ ds : List D, plains ds = true → livs ds = true
  | [], _ => rfl
  | d :: ds, h => by
    obtain ⟨h1, h2⟩ := Bool.and_eq_true_iff.mp (show (plain d && plains ds) = true from h)
    exact Bool.and_eq_true_iff.mpr ⟨plain_liv d h1, plains_liv ds h2⟩
end
section
variable {l : Loc} {m q : Mem} {d : D} {ds xs : List D}
theorem imp_plain (h : plain d = true) : imp d m = (d, m) := imp_settled _ _ (plain_settled d h)
theorem Wp.fin {Q : D × Mem → Prop} (h : plain d = true) (k : Q (d, m)) : Wp (finF m (m ++ q) d) Q := (w_fin (plain_closed d h) (plain_liv d h)).mpr k
theorem Wp.fin0 {Q : D × Mem → Prop} (h : plain d = true) (k : Q (d, m)) : Wp (finF m m d) Q := (w_fin0 (plain_closed d h) (plain_liv d h)).mpr k
theorem okL_ref {k : Nat} (h : m[k]? = some (.lst xs)) : okL m (.ref k) = true := by
  show (match m[k]? with | some (.lst _) => true | _ => false) = true
  rw [h]
theorem Wp.append {k : Nat} {Q : D × Mem → Prop} (h : m[k]? = some (.lst xs)) (hs : settled d = true) (hl : xs.length ≤ 1000000) (kk : Q (.non, m.set k (.lst (xs ++ [d])))) : Wp (gAppend m [.ref k, d]) Q := by
  unfold gAppend
  simp only [imp_settled d m hs, h, hl, if_true]
  exact w_some.mpr kk
theorem Wp.reverse {k : Nat} {Q : D × Mem → Prop} (h : m[k]? = some (.lst xs)) (kk : Q (.non, m.set k (.lst xs.reverse))) : Wp (gReverse m [.ref k]) Q := by
  unfold gReverse gWr
  simp only [h]
  exact w_some.mpr kk
theorem Wp.clear {k : Nat} {Q : D × Mem → Prop} (h : m[k]? = some (.lst xs)) (kk : Q (.non, m.set k (.lst []))) : Wp (gClear m [.ref k]) Q := by
  unfold gClear gWr
  simp only [h]
  exact w_some.mpr kk
theorem Wp.setL {k j : Nat} {i : Int} {Q : Mem → Prop} (h : m[k]? = some (.lst xs)) (hs : settled d = true) (hi : ixN xs.length i = some j) (kk : Q (m.set k (.lst (xs.set j d)))) : Wp (nSetL m [d, .ref k, .int i]) Q := by
  unfold nSetL
  simp only [imp_settled d m hs, h, hi]
  exact w_some.mpr kk
theorem last_get {c : D} : (m ++ [c])[m.length]? = some c := by simp
theorem last_set {c e : D} : (m ++ [c]).set m.length e = m ++ [e] := by simp
theorem w_finL {Q : D × Mem → Prop} (h : plains ds = true) : Wp (finF m m (.lst ds)) Q ↔ Q (.lst ds, m) := w_fin0 (plains_closed ds h) (plains_liv ds h)
end
end M3
set_option Elab.async false
set_option linter.all false
set_option autoImplicit false
set_option maxRecDepth 100000
set_option maxHeartbeats 1000000
/-! Equality of nice data: numbers, texts, tuples of such. -/
namespace M3
open PySem PySem.Spec PyProof.Rows L2
mutual
/-- numbers, texts without what can't be laid, tuples of such, not deep -/
def nice : Nat → D → Bool
  | _, .int _ => true
  | _, .str x => PyData.strOk x
  | n + 1, .tup xs => nices n xs
  | _, _ => false
def nices : Nat → List D → Bool
  | _, [] => true
  | n, d :: ds => nice n d && nices n ds
end
mutual
def pd : D → PyData
  | .int i => .int i
  | .str x => .str x
  | .tup xs => .tuple (pds xs)
  | _ => .none
def pds : List D → List PyData
  | [] => []
  | d :: ds => pd d :: pds ds
end
theorem nices_iff {n : Nat} {ds : List D} : nices n ds = true ↔ ∀ d ∈ ds, nice n d = true := by
  induction ds with
  | nil => simp [nices]
  | cons d ds ih => simp [nices, ih]
theorem pds_map : ∀ ds : List D, pds ds = ds.map pd
  | [] => rfl
  | d :: ds => by rw [pds, pds_map ds]; rfl
mutual
theorem nice_plain : ∀ (n : Nat) (d : D), nice n d = true → plain d = true
  | _, .int _, _ => rfl
  | _, .str _, _ => rfl
  | n + 1, .tup xs, h => nices_plain n xs h
  | 0, .tup xs, h => by cases h
  | _, .non, h => by cases h
  | _, .bl _, h => by cases h
  | _, .lst _, h => by cases h
  | _, .fl _, h => by cases h
  | _, .dic _ _, h => by cases h
  | _, .fdic _ _, h => by cases h
  | _, .dit _ _, h => by cases h
  | _, .fdit _ _, h => by cases h
  | _, .ins _ _ _, h => by cases h
  | _, .box _ _ _, h => by cases h
  | _, .ref _, h => by cases h
theorem nices_plain : ∀ (n : Nat) (ds : List D), nices n ds = true → plains ds = true
  | _, [], _ => rfl
  | n, d :: ds, h => by
    obtain ⟨h1, h2⟩ := Bool.and_eq_true_iff.mp (show (nice n d && nices n ds) = true from h)
    exact Bool.and_eq_true_iff.mpr ⟨nice_plain n d h1, nices_plain n ds h2⟩
end
mutual
theorem nice_py {g : Nat → Option PyData} : ∀ (n : Nat) (d : D), nice n d = true → toPy g d = some (pd d)
  | _, .int _, _ => rfl
  | _, .str _, _ => rfl
  | n + 1, .tup xs, h => by
    show (toPys g xs).map PyData.tuple = _
    rw [nices_py n xs h]
    rfl
  | 0, .tup xs, h => by cases h
  | _, .non, h => by cases h
  | _, .bl _, h => by cases h
  | _, .lst _, h => by cases h
  | _, .fl _, h => by cases h
  | _, .dic _ _, h => by cases h
  | _, .fdic _ _, h => by cases h
  | _, .dit _ _, h => by cases h
  | _, .fdit _ _, h => by cases h
  | _, .ins _ _ _, h => by cases h
  | _, .box _ _ _, h => by cases h
  | _, .ref _, h => by cases h
theorem nices_py {g : Nat → Option PyData} : ∀ (n : Nat) (ds : List D), nices n ds = true → toPys g ds = some (pds ds)
  | _, [], _ => rfl
  | n, d :: ds, h => by
    obtain ⟨h1, h2⟩ := Bool.and_eq_true_iff.mp (show (nice n d && nices n ds) = true from h)
    show (match toPy g d, toPys g ds with | some x, some xs => some (x :: xs) | _, _ => none) = _
    rw [nice_py n d h1, nices_py n ds h2]
    rfl
end
mutual
theorem nice_can : ∀ (n : Nat) (d : D), nice n d = true → (pd d).canLay0 = true ∧ (pd d).depth ≤ n + 1
  | n, .int _, _ => ⟨rfl, by simp [pd, PyData.depth]⟩
  | n, .str _, h => ⟨h, by simp [pd, PyData.depth]⟩
  | n + 1, .tup xs, h => ⟨(nices_can n xs h).1, Nat.succ_le_succ (nices_can n xs h).2⟩
  | 0, .tup xs, h => by cases h
  | _, .non, h => by cases h
  | _, .bl _, h => by cases h
  | _, .lst _, h => by cases h
  | _, .fl _, h => by cases h
  | _, .dic _ _, h => by cases h
  | _, .fdic _ _, h => by cases h
  | _, .dit _ _, h => by cases h
  | _, .fdit _ _, h => by cases h
  | _, .ins _ _ _, h => by cases h
  | _, .box _ _ _, h => by cases h
  | _, .ref _, h => by cases h
theorem nices_can : ∀ (n : Nat) (ds : List D), nices n ds = true → PyData.canLayAll0 (pds ds) = true ∧ PyData.depthAll (pds ds) ≤ n + 1
  | n, [], _ => ⟨rfl, Nat.zero_le _⟩
  | n, d :: ds, h => by
    obtain ⟨h1, h2⟩ := Bool.and_eq_true_iff.mp (show (nice n d && nices n ds) = true from h)
    have a := nice_can n d h1
    have b := nices_can n ds h2
    exact ⟨Bool.and_eq_true_iff.mpr ⟨a.1, b.1⟩, Nat.max_le.mpr ⟨a.2, b.2⟩⟩
end
mutual
theorem nice_eqv : ∀ (n k : Nat) (d e : D), nice n d = true → nice k e = true → (PyData.eqv (pd d) (pd e) = true ↔ d = e)
  | _, _, .int i, .int j, _, _ => by show (i == j) = true ↔ _; simp
  | _, _, .str i, .str j, _, _ => by show (i == j) = true ↔ _; simp
  | n + 1, k + 1, .tup xs, .tup ys, h, h2 => by
    show PyData.eqvAll (pds xs) (pds ys) = true ↔ _
    rw [nices_eqv n k xs ys h h2]
    simp
  | 0, _, .tup xs, _, h, _ => by cases h
  | _, 0, _, .tup xs, _, h => by cases h
  | n + 1, _, .tup xs, .int _, h, h2 => by simp [pd, PyData.eqv]
  | n + 1, _, .tup xs, .str _, h, h2 => by simp [pd, PyData.eqv]
  | _, k + 1, .int _, .tup xs, h, h2 => by simp [pd, PyData.eqv]
  | _, k + 1, .str _, .tup xs, h, h2 => by simp [pd, PyData.eqv]
  | _, _, .int _, .str _, h, h2 => by simp [pd, PyData.eqv]
  | _, _, .str _, .int _, h, h2 => by simp [pd, PyData.eqv]
  | _, _, .non, _, h, _ => by cases h
  | _, _, .bl _, _, h, _ => by cases h
  | _, _, .lst _, _, h, _ => by cases h
  | _, _, .fl _, _, h, _ => by cases h
  | _, _, .dic _ _, _, h, _ => by cases h
  | _, _, .fdic _ _, _, h, _ => by cases h
  | _, _, .dit _ _, _, h, _ => by cases h
  | _, _, .fdit _ _, _, h, _ => by cases h
  | _, _, .ins _ _ _, _, h, _ => by cases h
  | _, _, .box _ _ _, _, h, _ => by cases h
  | _, _, .ref _, _, h, _ => by cases h
  | _, _, _, .non, _, h => by cases h
  | _, _, _, .bl _, _, h => by cases h
  | _, _, _, .lst _, _, h => by cases h
  | _, _, _, .fl _, _, h => by cases h
  | _, _, _, .dic _ _, _, h => by cases h
  | _, _, _, .fdic _ _, _, h => by cases h
  | _, _, _, .dit _ _, _, h => by cases h
  | _, _, _, .fdit _ _, _, h => by cases h
  | _, _, _, .ins _ _ _, _, h => by cases h
  | _, _, _, .box _ _ _, _, h => by cases h
  | _, _, _, .ref _, _, h => by cases h
theorem nices_eqv : ∀ (n k : Nat) (ds es : List D), nices n ds = true → nices k es = true → (PyData.eqvAll (pds ds) (pds es) = true ↔ ds = es)
  | _, _, [], [], _, _ => by simp [pds, PyData.eqvAll]
  | _, _, [], e :: es, _, _ => by simp [pds, PyData.eqvAll]
  | _, _, d :: ds, [], _, _ => by simp [pds, PyData.eqvAll]
  | n, k, d :: ds, e :: es, h, h2 => by
    obtain ⟨h1, h3⟩ := Bool.and_eq_true_iff.mp (show (nice n d && nices n ds) = true from h)
    obtain ⟨h4, h5⟩ := Bool.and_eq_true_iff.mp (show (nice k e && nices k es) = true from h2)
    show (PyData.eqv (pd d) (pd e) && PyData.eqvAll (pds ds) (pds es)) = true ↔ _
    rw [Bool.and_eq_true_iff, nice_eqv n k d e h1 h4, nices_eqv n k ds es h3 h5]
    simp
end
section
variable {l : Loc} {m q : Mem} {d e : D} {ds xs : List D}
open Classical
theorem nice_shaped {n : Nat} (hn : n ≤ 60) (h : nice n d = true) : SeqAt.shaped (pd d) = true := by
  have a := nice_can n d h
  unfold SeqAt.shaped
  rw [a.1, Bool.true_and, decide_eq_true_eq]
  omega
theorem nices_shaped {n : Nat} (hn : n ≤ 60) (h : nices n ds = true) : SeqAt.shaped (.list (pds ds)) = true := by
  have a := nices_can n ds h
  unfold SeqAt.shaped
  have : (PyData.list (pds ds)).canLay0 = true := a.1
  rw [this, Bool.true_and, decide_eq_true_eq]
  show PyData.depthAll (pds ds) + 1 ≤ 64
  omega
theorem any_mem {n k : Nat} (h : nices n ds = true) (hd : nice k d = true) : (pds ds).any (fun z => PyData.eqv z (pd d)) = decide (d ∈ ds) := by
  rw [pds_map, List.any_map]
  rw [Bool.eq_iff_iff, List.any_eq_true, decide_eq_true_eq]
  constructor
  · rintro ⟨x, hx, e⟩
    have : x = d := (nice_eqv n k x d (nices_iff.mp h x hx) hd).mp e
    rw [← this]; exact hx
  · intro hx
    exact ⟨d, hx, (nice_eqv n k d d (nices_iff.mp h d hx) hd).mpr rfl⟩
/-- d in a list, a tuple -/
theorem Wp.inL {n k : Nat} {neg : Bool} {x y : D} {Q : D × Mem → Prop} (hn : n ≤ 60) (hk : k ≤ 60) (hd : nice k d = true) (h : nices n ds = true) (hy : (snap m y).bind itemsP = some (pds ds)) (kk : Q (.bl (if neg then !decide (d ∈ ds) else decide (d ∈ ds)), m)) : Wp (gInDA neg m [d, y]) Q := by
  have e1 : snap m d = some (pd d) := nice_py k d hd
  unfold gInDA
  simp only [e1, hy]
  rw [if_pos ⟨nice_shaped hk hd, nices_shaped hn h⟩, w_some, any_mem h hd]
  exact kk
theorem snap_tup {n : Nat} (h : nices n ds = true) : (snap m (.tup ds)).bind itemsP = some (pds ds) := by
  have : snap m (.tup ds) = some (.tuple (pds ds)) := nice_py (n + 1) (.tup ds) h
  rw [this]; rfl
theorem snap_ref {n k : Nat} (hk : m[k]? = some (.lst ds)) (h : nices n ds = true) : (snap m (.ref k)).bind itemsP = some (pds ds) := by
  have : snap m (.ref k) = some (.list (pds ds)) := by
    have hl : k < m.length := (List.getElem?_eq_some_iff.mp hk).1
    show pyR m m.length k = _
    obtain ⟨f, hf⟩ : ∃ f, m.length = f + 1 := ⟨m.length - 1, by omega⟩
    rw [hf]
    show (match m[k]? with | some (.lst ds) => toPy (pyR m f) (.lst ds) | _ => none) = _
    rw [hk]
    show (toPys (pyR m f) ds).map PyData.list = _
    rw [nices_py n ds h]
    rfl
  rw [this]; rfl
theorem Wp.nin {n k : Nat} {y : D} {Q : D × Mem → Prop} (hn : n ≤ 60) (hk : k ≤ 60) (hd : nice k d = true) (h : nices n ds = true) (hy : (snap m y).bind itemsP = some (pds ds)) (kk : Q (.bl (!decide (d ∈ ds)), m)) : Wp (gNin m [d, y]) Q := by
  obtain ⟨a, e, q⟩ := Wp.inL (neg := true) hn hk hd h hy (Q := Q) kk (x := d)
  unfold gNin orG
  exact ⟨a, by rw [e], q⟩
theorem Wp.in {n k : Nat} {y : D} {Q : D × Mem → Prop} (hn : n ≤ 60) (hk : k ≤ 60) (hd : nice k d = true) (h : nices n ds = true) (hy : (snap m y).bind itemsP = some (pds ds)) (kk : Q (.bl (decide (d ∈ ds)), m)) : Wp (gIn m [d, y]) Q := by
  obtain ⟨a, e, q⟩ := Wp.inL (neg := false) hn hk hd h hy (Q := Q) kk (x := d)
  unfold gIn orG
  exact ⟨a, by rw [e], q⟩
end
end M3
set_option Elab.async false
set_option linter.all false
set_option autoImplicit false
set_option maxRecDepth 100000
set_option maxHeartbeats 0
namespace G06
open PySem PySem.Spec PyProof.Rows L2 M3
abbrev PR : Program := PySem.Challenge.pw_mendsure_k06_a_book_as_handed_in
def top (i : Nat) : Stmt := PySem.Challenge.pw_mendsure_k06_a_book_as_handed_in.main.body.getD i (.Pass ⟨0, 0, 0, 0⟩)
/-- what the top of the text says -/
structure En (K : PySem.W.Frag) (mg : Str → Option Value) (fs : Nat → Addr) (fds : Nat → FuncData) : Prop where
  d_is_name : FnT K "is_name" (top 10) (fs 10) (fds 10)
  g_is_name : mg "is_name" = some (.ref (fs 10))
  d_is_value : FnT K "is_value" (top 11) (fs 11) (fds 11)
  g_is_value : mg "is_value" = some (.ref (fs 11))
  d_is_whole : FnT K "is_whole" (top 17) (fs 17) (fds 17)
  g_is_whole : mg "is_whole" = some (.ref (fs 17))
  d_is_table : FnT K "is_table" (top 18) (fs 18) (fds 18)
  g_is_table : mg "is_table" = some (.ref (fs 18))
  d_is_in : FnT K "is_in" (top 19) (fs 19) (fds 19)
  g_is_in : mg "is_in" = some (.ref (fs 19))
  d_is_column : FnT K "is_column" (top 20) (fs 20) (fds 20)
  g_is_column : mg "is_column" = some (.ref (fs 20))
  d_is_side : FnT K "is_side" (top 21) (fs 21) (fds 21)
  g_is_side : mg "is_side" = some (.ref (fs 21))
  d_are_tests : FnT K "are_tests" (top 22) (fs 22) (fds 22)
  g_are_tests : mg "are_tests" = some (.ref (fs 22))
  d_are_columns : FnT K "are_columns" (top 23) (fs 23) (fds 23)
  g_are_columns : mg "are_columns" = some (.ref (fs 23))
  d_is_tie : FnT K "is_tie" (top 24) (fs 24) (fds 24)
  g_is_tie : mg "is_tie" = some (.ref (fs 24))
  d_is_rule : FnT K "is_rule" (top 25) (fs 25) (fds 25)
  g_is_rule : mg "is_rule" = some (.ref (fs 25))
  d_is_row : FnT K "is_row" (top 26) (fs 26) (fds 26)
  g_is_row : mg "is_row" = some (.ref (fs 26))
  d_check_rows : FnT K "check_rows" (top 27) (fs 27) (fds 27)
  g_check_rows : mg "check_rows" = some (.ref (fs 27))
  d_book_of : FnT K "book_of" (top 28) (fs 28) (fds 28)
  g_book_of : mg "book_of" = some (.ref (fs 28))
  d__law_cell_at : FnT K "_law_cell_at" (top 30) (fs 30) (fds 30)
  g__law_cell_at : mg "_law_cell_at" = some (.ref (fs 30))
  d__law_mix : FnT K "_law_mix" (top 31) (fs 31) (fds 31)
  g__law_mix : mg "_law_mix" = some (.ref (fs 31))
  d__law_name : FnT K "_law_name" (top 32) (fs 32) (fds 32)
  g__law_name : mg "_law_name" = some (.ref (fs 32))
  d__law_pool : FnT K "_law_pool" (top 33) (fs 33) (fds 33)
  g__law_pool : mg "_law_pool" = some (.ref (fs 33))
  d__law_alike : FnT K "_law_alike" (top 34) (fs 34) (fds 34)
  g__law_alike : mg "_law_alike" = some (.ref (fs 34))
  d__law_tables : FnT K "_law_tables" (top 35) (fs 35) (fds 35)
  g__law_tables : mg "_law_tables" = some (.ref (fs 35))
  d__law_row : FnT K "_law_row" (top 36) (fs 36) (fds 36)
  g__law_row : mg "_law_row" = some (.ref (fs 36))
  d__law_rows : FnT K "_law_rows" (top 37) (fs 37) (fds 37)
  g__law_rows : mg "_law_rows" = some (.ref (fs 37))
  d__law_take : FnT K "_law_take" (top 38) (fs 38) (fds 38)
  g__law_take : mg "_law_take" = some (.ref (fs 38))
  d__law_side : FnT K "_law_side" (top 39) (fs 39) (fds 39)
  g__law_side : mg "_law_side" = some (.ref (fs 39))
  d__law_tests : FnT K "_law_tests" (top 40) (fs 40) (fds 40)
  g__law_tests : mg "_law_tests" = some (.ref (fs 40))
  d__law_rule : FnT K "_law_rule" (top 41) (fs 41) (fds 41)
  g__law_rule : mg "_law_rule" = some (.ref (fs 41))
  d_law : FnT K "law" (top 42) (fs 42) (fds 42)
  g_law : mg "law" = some (.ref (fs 42))
  n_all : mg "all" = none
  n_bool : mg "bool" = none
  n_enumerate : mg "enumerate" = none
  n_int : mg "int" = none
  n_isinstance : mg "isinstance" = none
  n_len : mg "len" = none
  n_list : mg "list" = none
  n_range : mg "range" = none
  n_str : mg "str" = none
  n_tuple : mg "tuple" = none
  n_zip : mg "zip" = none
  c_BEYOND : ∃ t, mg "BEYOND" = some (.int 1000000000000000000000000000000 t)
  c_LETTERS : ∃ t, mg "LETTERS" = some (.str "abcdefghijklmnopqrstuvwxyz" t)
  c_MOST_ROWS : ∃ t, mg "MOST_ROWS" = some (.int 60 t)
  c_MOST_RULES : ∃ t, mg "MOST_RULES" = some (.int 6 t)
  c_MOST_TABLES : ∃ t, mg "MOST_TABLES" = some (.int 4 t)
  c_WORDS : mg "WORDS" = some (.ref (fs 1000))
  k_WORDS : KT K (fs 1000) (([("same" : Str), "unlike", "less"]).map V.str)
/-! is_name -/
abbrev s_is_name : Stmt := top 10
theorem sc_is_name : FnScope ["thing", "sign"] ["thing"] (defScope s_is_name) := ⟨rfl, rfl, rfl, by decide +kernel, rfl, by decide +kernel, by decide +kernel⟩
theorem bd_is_name {K : PySem.W.Frag} {f : Addr} {fd : FuncData} (F : FnT K "is_name" s_is_name f fd) : Binds K fd ["thing"] [] := F.bindsN fun _ _ _ _ _ _ us hl => match us, hl with | [_], _ => rfl
noncomputable def b_is_name : SF := (sSeq (sIf (tOrF (tNotF (tBl (fAp (gIsi .str) (a1 (fVar 0))))) (tOrF (tBl (fAp gLt (a2 (fAp gLen (a1 (fVar 0))) (fC (.int 1))))) (tBl (fAp gGt (a2 (fAp gLen (a1 (fVar 0))) (fC (.int 8))))))) (sRet (fC (.bl false))) sNx)
  (sRet (fAp gAll (a1 (fComp (iSeq (fVar 0)) (gNm 1) tYesF (fAp gIn (a2 (fVar 1) (fC (.str "abcdefghijklmnopqrstuvwxyz")))) [1])))))
noncomputable def F_is_name : FN := runF 2 b_is_name
theorem ok_is_name {P : Program} {w : World} {K : PySem.W.Frag} {mg : Str → Option Value} {base : Heap} {fs : Nat → Addr} {fds : Nat → FuncData} (V : En K mg fs fds) : FnOk P w K mg base CX0 2 (fs 10) (fds 10) ["thing"] (spD P w K 1 F_is_name) :=
  okD (N := ["thing", "sign"]) (ps := ["thing"]) (k := 1) (b := b_is_name) V.d_is_name sc_is_name fun cdv A outer s H E hr => (db_cons (ds_if (dt_w (dw_or (dt_not (dt_val (de_isi .str V.n_isinstance V.n_str (by decide +kernel) (de_var 0)))) (dw_or (t_lt (c_len V.n_len (de_var 0)) de_int) (dw_or1 (t_gt (c_len V.n_len (de_var 0)) de_int))))) (db_one (ds_ret de_bl)) db_nil)
  (db_one (ds_ret (c_all (by rfl) V.n_all (de_comp [("sign", 1)] (by rfl) sc_is_name.nd (di_seq (de_var 0)) (by kernel_rfl) (fun _ _ _ _ _ => ⟨(dg_name (i := 1) sc_is_name.nd), dts_nil, (e_in hr.u65 (de_var 1) (de_gstr (by rfl) V.c_LETTERS))⟩) (by decide))))))
/-! is_value -/
abbrev s_is_value : Stmt := top 11
theorem sc_is_value : FnScope ["thing"] ["thing"] (defScope s_is_value) := ⟨rfl, rfl, rfl, by decide +kernel, rfl, by decide +kernel, by decide +kernel⟩
theorem bd_is_value {K : PySem.W.Frag} {f : Addr} {fd : FuncData} (F : FnT K "is_value" s_is_value f fd) : Binds K fd ["thing"] [] := F.bindsN fun _ _ _ _ _ _ us hl => match us, hl with | [_], _ => rfl
noncomputable def b_is_value : SF := (sSeq (sIf (tAndF (tBl (fAp (gIsi .int) (a1 (fVar 0)))) (tNotF (tBl (fAp (gIsi .bool) (a1 (fVar 0)))))) (sRet (fChain (gB (fun i j => decide (i < j))) (gB (fun i j => decide (i < j))) (fAp gSub (a2 (fC (.int 0)) (fC (.int 1000000000000000000000000000000)))) (fVar 0) (fC (.int 1000000000000000000000000000000)))) sNx)
  (sRet (fAp (callG 1 F_is_name) (aCons (fVar 0) aNil))))
noncomputable def F_is_value : FN := runF 1 b_is_value
theorem ok_is_value {P : Program} {w : World} {K : PySem.W.Frag} {mg : Str → Option Value} {base : Heap} {fs : Nat → Addr} {fds : Nat → FuncData} (V : En K mg fs fds) : FnOk P w K mg base CX0 3 (fs 11) (fds 11) ["thing"] (spD P w K 1 F_is_value) :=
  okD (N := ["thing"]) (ps := ["thing"]) (k := 2) (b := b_is_value) V.d_is_value sc_is_value fun cdv A outer s H E hr => (db_cons (ds_if (dt_w (dw_and (dt_val (de_isi .int V.n_isinstance V.n_int (by decide +kernel) (de_var 0))) (dw_and1 (dt_not (dt_val (de_isi .bool V.n_isinstance V.n_bool (by decide +kernel) (de_var 0))))))) (db_one (ds_ret (de_chain (q := (fun i j => decide (i < j))) (q' := (fun i j => decide (i < j))) op_lt op_lt (e_sub de_int (de_gint (by rfl) V.c_BEYOND)) (de_var 0) (de_gint (by rfl) V.c_BEYOND)))) db_nil)
  (db_one (ds_ret (de_call (ok_is_name V) (hr.mono (by decide)) (by rfl) V.g_is_name V.d_is_name.kp (bd_is_name V.d_is_name) (da_cons (de_var 0) da_nil)))))
/-! is_whole -/
abbrev s_is_whole : Stmt := top 17
theorem sc_is_whole : FnScope ["thing"] ["thing"] (defScope s_is_whole) := ⟨rfl, rfl, rfl, by decide +kernel, rfl, by decide +kernel, by decide +kernel⟩
theorem bd_is_whole {K : PySem.W.Frag} {f : Addr} {fd : FuncData} (F : FnT K "is_whole" s_is_whole f fd) : Binds K fd ["thing"] [] := F.bindsN fun _ _ _ _ _ _ us hl => match us, hl with | [_], _ => rfl
noncomputable def b_is_whole : SF := (sRet (fAnd (fAp (gIsi .int) (a1 (fVar 0))) (fNot (fAp (gIsi .bool) (a1 (fVar 0))))))
noncomputable def F_is_whole : FN := runF 1 b_is_whole
theorem ok_is_whole {P : Program} {w : World} {K : PySem.W.Frag} {mg : Str → Option Value} {base : Heap} {fs : Nat → Addr} {fds : Nat → FuncData} (V : En K mg fs fds) : FnOk P w K mg base CX0 2 (fs 17) (fds 17) ["thing"] (spD P w K 1 F_is_whole) :=
  okD (N := ["thing"]) (ps := ["thing"]) (k := 1) (b := b_is_whole) V.d_is_whole sc_is_whole fun cdv A outer s H E hr => (db_one (ds_ret (de_and (de_isi .int V.n_isinstance V.n_int (by decide +kernel) (de_var 0)) (de_one (de_not (de_isi .bool V.n_isinstance V.n_bool (by decide +kernel) (de_var 0)))))))
/-! is_table -/
abbrev s_is_table : Stmt := top 18
theorem sc_is_table : FnScope ["thing"] ["thing"] (defScope s_is_table) := ⟨rfl, rfl, rfl, by decide +kernel, rfl, by decide +kernel, by decide +kernel⟩
theorem bd_is_table {K : PySem.W.Frag} {f : Addr} {fd : FuncData} (F : FnT K "is_table" s_is_table f fd) : Binds K fd ["thing"] [] := F.bindsN fun _ _ _ _ _ _ us hl => match us, hl with | [_], _ => rfl
noncomputable def b_is_table : SF := (sSeq (sIf (tOrF (tNotF (tBl (fAp (gIsi .tuple) (a1 (fVar 0))))) (tBl (fAp gNe (a2 (fAp gLen (a1 (fVar 0))) (fC (.int 2)))))) (sRet (fC (.bl false))) sNx)
  (sSeq (sIf (tOrF (tNotF (tBl (fAp (callG 1 F_is_whole) (aCons (fAp gIx (a2 (fVar 0) (fC (.int 0)))) aNil)))) (tNotF (tBl (fAp (callG 1 F_is_whole) (aCons (fAp gIx (a2 (fVar 0) (fC (.int 1)))) aNil))))) (sRet (fC (.bl false))) sNx)
  (sRet (fAnd (fChain (gB (fun i j => decide (i ≤ j))) (gB (fun i j => decide (i ≤ j))) (fC (.int 1)) (fAp gIx (a2 (fVar 0) (fC (.int 0)))) (fC (.int 4))) (fChain (gB (fun i j => decide (i ≤ j))) (gB (fun i j => decide (i ≤ j))) (fC (.int 0)) (fAp gIx (a2 (fVar 0) (fC (.int 1)))) (fAp gIx (a2 (fVar 0) (fC (.int 0)))))))))
noncomputable def F_is_table : FN := runF 1 b_is_table
theorem ok_is_table {P : Program} {w : World} {K : PySem.W.Frag} {mg : Str → Option Value} {base : Heap} {fs : Nat → Addr} {fds : Nat → FuncData} (V : En K mg fs fds) : FnOk P w K mg base CX0 3 (fs 18) (fds 18) ["thing"] (spD P w K 1 F_is_table) :=
  okD (N := ["thing"]) (ps := ["thing"]) (k := 2) (b := b_is_table) V.d_is_table sc_is_table fun cdv A outer s H E hr => (db_cons (ds_if (dt_w (dw_or (dt_not (dt_val (de_isi .tuple V.n_isinstance V.n_tuple (by decide +kernel) (de_var 0)))) (dw_or1 (t_ne hr.u65 (c_len V.n_len (de_var 0)) de_int)))) (db_one (ds_ret de_bl)) db_nil)
  (db_cons (ds_if (dt_w (dw_or (dt_not (dt_val (de_call (ok_is_whole V) (hr.mono (by decide)) (by rfl) V.g_is_whole V.d_is_whole.kp (bd_is_whole V.d_is_whole) (da_cons (de_ix (de_var 0) de_int) da_nil)))) (dw_or1 (dt_not (dt_val (de_call (ok_is_whole V) (hr.mono (by decide)) (by rfl) V.g_is_whole V.d_is_whole.kp (bd_is_whole V.d_is_whole) (da_cons (de_ix (de_var 0) de_int) da_nil))))))) (db_one (ds_ret de_bl)) db_nil)
  (db_one (ds_ret (de_and (de_chain (q := (fun i j => decide (i ≤ j))) (q' := (fun i j => decide (i ≤ j))) op_le op_le de_int (de_ix (de_var 0) de_int) de_int) (de_one (de_chain (q := (fun i j => decide (i ≤ j))) (q' := (fun i j => decide (i ≤ j))) op_le op_le de_int (de_ix (de_var 0) de_int) (de_ix (de_var 0) de_int))))))))
/-! is_in -/
abbrev s_is_in : Stmt := top 19
theorem sc_is_in : FnScope ["tables", "t"] ["tables", "t"] (defScope s_is_in) := ⟨rfl, rfl, rfl, by decide +kernel, rfl, by decide +kernel, by decide +kernel⟩
theorem bd_is_in {K : PySem.W.Frag} {f : Addr} {fd : FuncData} (F : FnT K "is_in" s_is_in f fd) : Binds K fd ["tables", "t"] [] := F.bindsN fun _ _ _ _ _ _ us hl => match us, hl with | [_, _], _ => rfl
noncomputable def b_is_in : SF := (sRet (fAnd (fAp (callG 1 F_is_whole) (aCons (fVar 1) aNil)) (fChain (gB (fun i j => decide (i ≤ j))) (gB (fun i j => decide (i < j))) (fC (.int 0)) (fVar 1) (fAp gLen (a1 (fVar 0))))))
noncomputable def F_is_in : FN := runF 2 b_is_in
theorem ok_is_in {P : Program} {w : World} {K : PySem.W.Frag} {mg : Str → Option Value} {base : Heap} {fs : Nat → Addr} {fds : Nat → FuncData} (V : En K mg fs fds) : FnOk P w K mg base CX0 3 (fs 19) (fds 19) ["tables", "t"] (spD P w K 2 F_is_in) :=
  okD (N := ["tables", "t"]) (ps := ["tables", "t"]) (k := 2) (b := b_is_in) V.d_is_in sc_is_in fun cdv A outer s H E hr => (db_one (ds_ret (de_and (de_call (ok_is_whole V) (hr.mono (by decide)) (by rfl) V.g_is_whole V.d_is_whole.kp (bd_is_whole V.d_is_whole) (da_cons (de_var 1) da_nil)) (de_one (de_chain (q := (fun i j => decide (i ≤ j))) (q' := (fun i j => decide (i < j))) op_le op_lt de_int (de_var 1) (c_len V.n_len (de_var 0)))))))
/-! is_column -/
abbrev s_is_column : Stmt := top 20
theorem sc_is_column : FnScope ["tables", "t", "c"] ["tables", "t", "c"] (defScope s_is_column) := ⟨rfl, rfl, rfl, by decide +kernel, rfl, by decide +kernel, by decide +kernel⟩
theorem bd_is_column {K : PySem.W.Frag} {f : Addr} {fd : FuncData} (F : FnT K "is_column" s_is_column f fd) : Binds K fd ["tables", "t", "c"] [] := F.bindsN fun _ _ _ _ _ _ us hl => match us, hl with | [_, _, _], _ => rfl
noncomputable def b_is_column : SF := (sRet (fAnd (fAp (callG 1 F_is_whole) (aCons (fVar 2) aNil)) (fChain (gB (fun i j => decide (i ≤ j))) (gB (fun i j => decide (i < j))) (fC (.int 0)) (fVar 2) (fAp gIx (a2 (fAp gIx (a2 (fVar 0) (fVar 1))) (fC (.int 0)))))))
noncomputable def F_is_column : FN := runF 3 b_is_column
theorem ok_is_column {P : Program} {w : World} {K : PySem.W.Frag} {mg : Str → Option Value} {base : Heap} {fs : Nat → Addr} {fds : Nat → FuncData} (V : En K mg fs fds) : FnOk P w K mg base CX0 3 (fs 20) (fds 20) ["tables", "t", "c"] (spD P w K 3 F_is_column) :=
  okD (N := ["tables", "t", "c"]) (ps := ["tables", "t", "c"]) (k := 2) (b := b_is_column) V.d_is_column sc_is_column fun cdv A outer s H E hr => (db_one (ds_ret (de_and (de_call (ok_is_whole V) (hr.mono (by decide)) (by rfl) V.g_is_whole V.d_is_whole.kp (bd_is_whole V.d_is_whole) (da_cons (de_var 2) da_nil)) (de_one (de_chain (q := (fun i j => decide (i ≤ j))) (q' := (fun i j => decide (i < j))) op_le op_lt de_int (de_var 2) (de_ix (de_ix (de_var 0) (de_var 1)) de_int))))))
/-! is_side -/
abbrev s_is_side : Stmt := top 21
theorem sc_is_side : FnScope ["tables", "there", "side"] ["tables", "there", "side"] (defScope s_is_side) := ⟨rfl, rfl, rfl, by decide +kernel, rfl, by decide +kernel, by decide +kernel⟩
theorem bd_is_side {K : PySem.W.Frag} {f : Addr} {fd : FuncData} (F : FnT K "is_side" s_is_side f fd) : Binds K fd ["tables", "there", "side"] [] := F.bindsN fun _ _ _ _ _ _ us hl => match us, hl with | [_, _, _], _ => rfl
noncomputable def b_is_side : SF := (sSeq (sIf (tOrF (tNotF (tBl (fAp (gIsi .tuple) (a1 (fVar 2))))) (tBl (fAp gLt (a2 (fAp gLen (a1 (fVar 2))) (fC (.int 2)))))) (sRet (fC (.bl false))) sNx)
  (sSeq (sIf (tBl (fAp gEq (a2 (fAp gLen (a1 (fVar 2))) (fC (.int 2))))) (sRet (fAnd (fAp gEq (a2 (fAp gIx (a2 (fVar 2) (fC (.int 0)))) (fC (.str "is")))) (fAp (callG 1 F_is_value) (aCons (fAp gIx (a2 (fVar 2) (fC (.int 1)))) aNil)))) sNx)
  (sSeq (sIf (tOrF (tBl (fAp gNe (a2 (fAp gLen (a1 (fVar 2))) (fC (.int 3))))) (tOrF (tBl (fAp gNe (a2 (fAp gIx (a2 (fVar 2) (fC (.int 0)))) (fC (.str "cell"))))) (tOrF (tNotF (tBl (fAp (callG 1 F_is_whole) (aCons (fAp gIx (a2 (fVar 2) (fC (.int 1)))) aNil)))) (tNotF (tBl (fChain (gB (fun i j => decide (i ≤ j))) (gB (fun i j => decide (i < j))) (fC (.int 0)) (fAp gIx (a2 (fVar 2) (fC (.int 1)))) (fAp gLen (a1 (fVar 1))))))))) (sRet (fC (.bl false))) sNx)
  (sRet (fAp (callG 3 F_is_column) (aCons (fVar 0) (aCons (fAp gIx (a2 (fVar 1) (fAp gIx (a2 (fVar 2) (fC (.int 1)))))) (aCons (fAp gIx (a2 (fVar 2) (fC (.int 2)))) aNil))))))))
noncomputable def F_is_side : FN := runF 3 b_is_side
theorem ok_is_side {P : Program} {w : World} {K : PySem.W.Frag} {mg : Str → Option Value} {base : Heap} {fs : Nat → Addr} {fds : Nat → FuncData} (V : En K mg fs fds) : FnOk P w K mg base CX0 4 (fs 21) (fds 21) ["tables", "there", "side"] (spD P w K 3 F_is_side) :=
  okD (N := ["tables", "there", "side"]) (ps := ["tables", "there", "side"]) (k := 3) (b := b_is_side) V.d_is_side sc_is_side fun cdv A outer s H E hr => (db_cons (ds_if (dt_w (dw_or (dt_not (dt_val (de_isi .tuple V.n_isinstance V.n_tuple (by decide +kernel) (de_var 2)))) (dw_or1 (t_lt (c_len V.n_len (de_var 2)) de_int)))) (db_one (ds_ret de_bl)) db_nil)
  (db_cons (ds_if (t_eq hr.u65 (c_len V.n_len (de_var 2)) de_int) (db_one (ds_ret (de_and (e_eq hr.u65 (de_ix (de_var 2) de_int) de_str) (de_one (de_call (ok_is_value V) (hr.mono (by decide)) (by rfl) V.g_is_value V.d_is_value.kp (bd_is_value V.d_is_value) (da_cons (de_ix (de_var 2) de_int) da_nil)))))) db_nil)
  (db_cons (ds_if (dt_w (dw_or (t_ne hr.u65 (c_len V.n_len (de_var 2)) de_int) (dw_or (t_ne hr.u65 (de_ix (de_var 2) de_int) de_str) (dw_or (dt_not (dt_val (de_call (ok_is_whole V) (hr.mono (by decide)) (by rfl) V.g_is_whole V.d_is_whole.kp (bd_is_whole V.d_is_whole) (da_cons (de_ix (de_var 2) de_int) da_nil)))) (dw_or1 (dt_not (dt_chain (q := (fun i j => decide (i ≤ j))) (q' := (fun i j => decide (i < j))) op_le op_lt de_int (de_ix (de_var 2) de_int) (c_len V.n_len (de_var 1))))))))) (db_one (ds_ret de_bl)) db_nil)
  (db_one (ds_ret (de_call (ok_is_column V) (hr.mono (by decide)) (by rfl) V.g_is_column V.d_is_column.kp (bd_is_column V.d_is_column) (da_cons (de_var 0) (da_cons (de_ix (de_var 1) (de_ix (de_var 2) de_int)) (da_cons (de_ix (de_var 2) de_int) da_nil)))))))))
/-! are_tests -/
abbrev s_are_tests : Stmt := top 22
theorem sc_are_tests : FnScope ["tables", "there", "tests", "test"] ["tables", "there", "tests"] (defScope s_are_tests) := ⟨rfl, rfl, rfl, by decide +kernel, rfl, by decide +kernel, by decide +kernel⟩
theorem bd_are_tests {K : PySem.W.Frag} {f : Addr} {fd : FuncData} (F : FnT K "are_tests" s_are_tests f fd) : Binds K fd ["tables", "there", "tests"] [] := F.bindsN fun _ _ _ _ _ _ us hl => match us, hl with | [_, _, _], _ => rfl
noncomputable def b_are_tests : SF := (sSeq (sIf (tOrF (tNotF (tBl (fAp (gIsi .tuple) (a1 (fVar 2))))) (tNotF (tBl (fChain (gB (fun i j => decide (i ≤ j))) (gB (fun i j => decide (i ≤ j))) (fC (.int 1)) (fAp gLen (a1 (fVar 2))) (fC (.int 3)))))) (sRet (fC (.bl false))) sNx)
  (sSeq (sFor (iSeq (fVar 2)) (gNm 3) (sSeq (sIf (tOrF (tNotF (tBl (fAp (gIsi .tuple) (a1 (fVar 3))))) (tOrF (tBl (fAp gNe (a2 (fAp gLen (a1 (fVar 3))) (fC (.int 3))))) (tBl (fAp gNin (a2 (fAp gIx (a2 (fVar 3) (fC (.int 1)))) (fC (.tup ([("same" : Str), "unlike", "less"].map D.str)))))))) (sRet (fC (.bl false))) sNx)
  (sIf (tOrF (tNotF (tBl (fAp (callG 3 F_is_side) (aCons (fVar 0) (aCons (fVar 1) (aCons (fAp gIx (a2 (fVar 3) (fC (.int 0)))) aNil)))))) (tNotF (tBl (fAp (callG 3 F_is_side) (aCons (fVar 0) (aCons (fVar 1) (aCons (fAp gIx (a2 (fVar 3) (fC (.int 2)))) aNil))))))) (sRet (fC (.bl false))) sNx)))
  (sRet (fC (.bl true)))))
noncomputable def F_are_tests : FN := runF 4 b_are_tests
theorem ok_are_tests {P : Program} {w : World} {K : PySem.W.Frag} {mg : Str → Option Value} {base : Heap} {fs : Nat → Addr} {fds : Nat → FuncData} (V : En K mg fs fds) : FnOk P w K mg base CX0 5 (fs 22) (fds 22) ["tables", "there", "tests"] (spD P w K 3 F_are_tests) :=
  okD (N := ["tables", "there", "tests", "test"]) (ps := ["tables", "there", "tests"]) (k := 4) (b := b_are_tests) V.d_are_tests sc_are_tests fun cdv A outer s H E hr => (db_cons (ds_if (dt_w (dw_or (dt_not (dt_val (de_isi .tuple V.n_isinstance V.n_tuple (by decide +kernel) (de_var 2)))) (dw_or1 (dt_not (dt_chain (q := (fun i j => decide (i ≤ j))) (q' := (fun i j => decide (i ≤ j))) op_le op_le de_int (c_len V.n_len (de_var 2)) de_int))))) (db_one (ds_ret de_bl)) db_nil)
  (db_cons (ds_for PassesOwn.never (by rfl) (di_seq (de_var 2)) (dg_name (i := 3) sc_are_tests.nd) (db_cons (ds_if (dt_w (dw_or (dt_not (dt_val (de_isi .tuple V.n_isinstance V.n_tuple (by decide +kernel) (de_var 3)))) (dw_or (t_ne hr.u65 (c_len V.n_len (de_var 3)) de_int) (dw_or1 (t_nin hr.u65 (de_ix (de_var 3) de_int) (de_gtup (zs := ["same", "unlike", "less"]) (by rfl) V.c_WORDS V.k_WORDS)))))) (db_one (ds_ret de_bl)) db_nil)
  (db_one (ds_if (dt_w (dw_or (dt_not (dt_val (de_call (ok_is_side V) (hr.mono (by decide)) (by rfl) V.g_is_side V.d_is_side.kp (bd_is_side V.d_is_side) (da_cons (de_var 0) (da_cons (de_var 1) (da_cons (de_ix (de_var 3) de_int) da_nil)))))) (dw_or1 (dt_not (dt_val (de_call (ok_is_side V) (hr.mono (by decide)) (by rfl) V.g_is_side V.d_is_side.kp (bd_is_side V.d_is_side) (da_cons (de_var 0) (da_cons (de_var 1) (da_cons (de_ix (de_var 3) de_int) da_nil))))))))) (db_one (ds_ret de_bl)) db_nil))))
  (db_one (ds_ret de_bl))))
/-! are_columns -/
abbrev s_are_columns : Stmt := top 23
theorem sc_are_columns : FnScope ["tables", "t", "columns", "many", "c"] ["tables", "t", "columns", "many"] (defScope s_are_columns) := ⟨rfl, rfl, rfl, by decide +kernel, rfl, by decide +kernel, by decide +kernel⟩
theorem bd_are_columns {K : PySem.W.Frag} {f : Addr} {fd : FuncData} (F : FnT K "are_columns" s_are_columns f fd) : Binds K fd ["tables", "t", "columns", "many"] [] := F.bindsN fun _ _ _ _ _ _ us hl => match us, hl with | [_, _, _, _], _ => rfl
noncomputable def b_are_columns : SF := (sSeq (sIf (tOrF (tNotF (tBl (fAp (gIsi .tuple) (a1 (fVar 2))))) (tBl (fAp gNe (a2 (fAp gLen (a1 (fVar 2))) (fVar 3))))) (sRet (fC (.bl false))) sNx)
  (sRet (fAp gAll (a1 (fComp (iSeq (fVar 2)) (gNm 4) tYesF (fAp (callG 3 F_is_column) (aCons (fVar 0) (aCons (fVar 1) (aCons (fVar 4) aNil)))) [4])))))
noncomputable def F_are_columns : FN := runF 5 b_are_columns
theorem ok_are_columns {P : Program} {w : World} {K : PySem.W.Frag} {mg : Str → Option Value} {base : Heap} {fs : Nat → Addr} {fds : Nat → FuncData} (V : En K mg fs fds) : FnOk P w K mg base CX0 4 (fs 23) (fds 23) ["tables", "t", "columns", "many"] (spD P w K 4 F_are_columns) :=
  okD (N := ["tables", "t", "columns", "many", "c"]) (ps := ["tables", "t", "columns", "many"]) (k := 3) (b := b_are_columns) V.d_are_columns sc_are_columns fun cdv A outer s H E hr => (db_cons (ds_if (dt_w (dw_or (dt_not (dt_val (de_isi .tuple V.n_isinstance V.n_tuple (by decide +kernel) (de_var 2)))) (dw_or1 (t_ne hr.u65 (c_len V.n_len (de_var 2)) (de_var 3))))) (db_one (ds_ret de_bl)) db_nil)
  (db_one (ds_ret (c_all (by rfl) V.n_all (de_comp [("c", 4)] (by rfl) sc_are_columns.nd (di_seq (de_var 2)) (by kernel_rfl) (fun _ _ _ _ _ => ⟨(dg_name (i := 4) sc_are_columns.nd), dts_nil, (de_call (ok_is_column V) (hr.mono (by decide)) (by rfl) V.g_is_column V.d_is_column.kp (bd_is_column V.d_is_column) (da_cons (de_var 0) (da_cons (de_var 1) (da_cons (de_var 4) da_nil))))⟩) (by decide))))))
/-! is_tie -/
abbrev s_is_tie : Stmt := top 24
theorem sc_is_tie : FnScope ["tables", "rule", "columns"] ["tables", "rule"] (defScope s_is_tie) := ⟨rfl, rfl, rfl, by decide +kernel, rfl, by decide +kernel, by decide +kernel⟩
theorem bd_is_tie {K : PySem.W.Frag} {f : Addr} {fd : FuncData} (F : FnT K "is_tie" s_is_tie f fd) : Binds K fd ["tables", "rule"] [] := F.bindsN fun _ _ _ _ _ _ us hl => match us, hl with | [_, _], _ => rfl
noncomputable def b_is_tie : SF := (sSeq (sIf (tOrF (tBl (fAp gNe (a2 (fAp gLen (a1 (fVar 1))) (fC (.int 5))))) (tOrF (tNotF (tBl (fAp (callG 2 F_is_in) (aCons (fVar 0) (aCons (fAp gIx (a2 (fVar 1) (fC (.int 1)))) aNil))))) (tNotF (tBl (fAp (callG 2 F_is_in) (aCons (fVar 0) (aCons (fAp gIx (a2 (fVar 1) (fC (.int 3)))) aNil))))))) (sRet (fC (.bl false))) sNx)
  (sSeq (sAsg (fAp gIx (a2 (fVar 1) (fC (.int 2)))) (gNm 2))
  (sSeq (sIf (tOrF (tNotF (tBl (fAp (gIsi .tuple) (a1 (fVar 2))))) (tNotF (tBl (fChain (gB (fun i j => decide (i ≤ j))) (gB (fun i j => decide (i ≤ j))) (fC (.int 1)) (fAp gLen (a1 (fVar 2))) (fC (.int 3)))))) (sRet (fC (.bl false))) sNx)
  (sRet (fAnd (fAp (callG 4 F_are_columns) (aCons (fVar 0) (aCons (fAp gIx (a2 (fVar 1) (fC (.int 1)))) (aCons (fVar 2) (aCons (fAp gLen (a1 (fVar 2))) aNil))))) (fAp (callG 4 F_are_columns) (aCons (fVar 0) (aCons (fAp gIx (a2 (fVar 1) (fC (.int 3)))) (aCons (fAp gIx (a2 (fVar 1) (fC (.int 4)))) (aCons (fAp gLen (a1 (fVar 2))) aNil))))))))))
noncomputable def F_is_tie : FN := runF 3 b_is_tie
theorem ok_is_tie {P : Program} {w : World} {K : PySem.W.Frag} {mg : Str → Option Value} {base : Heap} {fs : Nat → Addr} {fds : Nat → FuncData} (V : En K mg fs fds) : FnOk P w K mg base CX0 5 (fs 24) (fds 24) ["tables", "rule"] (spD P w K 2 F_is_tie) :=
  okD (N := ["tables", "rule", "columns"]) (ps := ["tables", "rule"]) (k := 4) (b := b_is_tie) V.d_is_tie sc_is_tie fun cdv A outer s H E hr => (db_cons (ds_if (dt_w (dw_or (t_ne hr.u65 (c_len V.n_len (de_var 1)) de_int) (dw_or (dt_not (dt_val (de_call (ok_is_in V) (hr.mono (by decide)) (by rfl) V.g_is_in V.d_is_in.kp (bd_is_in V.d_is_in) (da_cons (de_var 0) (da_cons (de_ix (de_var 1) de_int) da_nil))))) (dw_or1 (dt_not (dt_val (de_call (ok_is_in V) (hr.mono (by decide)) (by rfl) V.g_is_in V.d_is_in.kp (bd_is_in V.d_is_in) (da_cons (de_var 0) (da_cons (de_ix (de_var 1) de_int) da_nil))))))))) (db_one (ds_ret de_bl)) db_nil)
  (db_cons (ds_set (i := 2) sc_is_tie.nd (de_ix (de_var 1) de_int))
  (db_cons (ds_if (dt_w (dw_or (dt_not (dt_val (de_isi .tuple V.n_isinstance V.n_tuple (by decide +kernel) (de_var 2)))) (dw_or1 (dt_not (dt_chain (q := (fun i j => decide (i ≤ j))) (q' := (fun i j => decide (i ≤ j))) op_le op_le de_int (c_len V.n_len (de_var 2)) de_int))))) (db_one (ds_ret de_bl)) db_nil)
  (db_one (ds_ret (de_and (de_call (ok_are_columns V) (hr.mono (by decide)) (by rfl) V.g_are_columns V.d_are_columns.kp (bd_are_columns V.d_are_columns) (da_cons (de_var 0) (da_cons (de_ix (de_var 1) de_int) (da_cons (de_var 2) (da_cons (c_len V.n_len (de_var 2)) da_nil))))) (de_one (de_call (ok_are_columns V) (hr.mono (by decide)) (by rfl) V.g_are_columns V.d_are_columns.kp (bd_are_columns V.d_are_columns) (da_cons (de_var 0) (da_cons (de_ix (de_var 1) de_int) (da_cons (de_ix (de_var 1) de_int) (da_cons (c_len V.n_len (de_var 2)) da_nil))))))))))))
/-! is_rule -/
abbrev s_is_rule : Stmt := top 25
theorem sc_is_rule : FnScope ["tables", "rule"] ["tables", "rule"] (defScope s_is_rule) := ⟨rfl, rfl, rfl, by decide +kernel, rfl, by decide +kernel, by decide +kernel⟩
theorem bd_is_rule {K : PySem.W.Frag} {f : Addr} {fd : FuncData} (F : FnT K "is_rule" s_is_rule f fd) : Binds K fd ["tables", "rule"] [] := F.bindsN fun _ _ _ _ _ _ us hl => match us, hl with | [_, _], _ => rfl
noncomputable def b_is_rule : SF := (sSeq (sIf (tBl (fAp gEq (a2 (fAp gIx (a2 (fVar 1) (fC (.int 0)))) (fC (.str "never"))))) (sRet (fAnd (fAp gEq (a2 (fAp gLen (a1 (fVar 1))) (fC (.int 3)))) (fAnd (fAp (callG 2 F_is_in) (aCons (fVar 0) (aCons (fAp gIx (a2 (fVar 1) (fC (.int 1)))) aNil))) (fAp (callG 3 F_are_tests) (aCons (fVar 0) (aCons (fAp gTupN (aCons (fAp gIx (a2 (fVar 1) (fC (.int 1)))) aNil)) (aCons (fAp gIx (a2 (fVar 1) (fC (.int 2)))) aNil))))))) sNx)
  (sSeq (sIf (tBl (fAp gEq (a2 (fAp gIx (a2 (fVar 1) (fC (.int 0)))) (fC (.str "apart"))))) (sSeq (sIf (tOrF (tBl (fAp gNe (a2 (fAp gLen (a1 (fVar 1))) (fC (.int 4))))) (tOrF (tNotF (tBl (fAp (callG 2 F_is_in) (aCons (fVar 0) (aCons (fAp gIx (a2 (fVar 1) (fC (.int 1)))) aNil))))) (tNotF (tBl (fAp (callG 2 F_is_in) (aCons (fVar 0) (aCons (fAp gIx (a2 (fVar 1) (fC (.int 2)))) aNil))))))) (sRet (fC (.bl false))) sNx)
  (sRet (fAp (callG 3 F_are_tests) (aCons (fVar 0) (aCons (fAp gTupN (aCons (fAp gIx (a2 (fVar 1) (fC (.int 1)))) (aCons (fAp gIx (a2 (fVar 1) (fC (.int 2)))) aNil))) (aCons (fAp gIx (a2 (fVar 1) (fC (.int 3)))) aNil)))))) sNx)
  (sRet (fAnd (fAp gEq (a2 (fAp gIx (a2 (fVar 1) (fC (.int 0)))) (fC (.str "tie")))) (fAp (callG 2 F_is_tie) (aCons (fVar 0) (aCons (fVar 1) aNil)))))))
noncomputable def F_is_rule : FN := runF 2 b_is_rule
theorem ok_is_rule {P : Program} {w : World} {K : PySem.W.Frag} {mg : Str → Option Value} {base : Heap} {fs : Nat → Addr} {fds : Nat → FuncData} (V : En K mg fs fds) : FnOk P w K mg base CX0 6 (fs 25) (fds 25) ["tables", "rule"] (spD P w K 2 F_is_rule) :=
  okD (N := ["tables", "rule"]) (ps := ["tables", "rule"]) (k := 5) (b := b_is_rule) V.d_is_rule sc_is_rule fun cdv A outer s H E hr => (db_cons (ds_if (t_eq hr.u65 (de_ix (de_var 1) de_int) de_str) (db_one (ds_ret (de_and (e_eq hr.u65 (c_len V.n_len (de_var 1)) de_int) (de_and (de_call (ok_is_in V) (hr.mono (by decide)) (by rfl) V.g_is_in V.d_is_in.kp (bd_is_in V.d_is_in) (da_cons (de_var 0) (da_cons (de_ix (de_var 1) de_int) da_nil))) (de_one (de_call (ok_are_tests V) (hr.mono (by decide)) (by rfl) V.g_are_tests V.d_are_tests.kp (bd_are_tests V.d_are_tests) (da_cons (de_var 0) (da_cons (de_tup (da_cons (de_ix (de_var 1) de_int) da_nil)) (da_cons (de_ix (de_var 1) de_int) da_nil))))))))) db_nil)
  (db_cons (ds_if (t_eq hr.u65 (de_ix (de_var 1) de_int) de_str) (db_cons (ds_if (dt_w (dw_or (t_ne hr.u65 (c_len V.n_len (de_var 1)) de_int) (dw_or (dt_not (dt_val (de_call (ok_is_in V) (hr.mono (by decide)) (by rfl) V.g_is_in V.d_is_in.kp (bd_is_in V.d_is_in) (da_cons (de_var 0) (da_cons (de_ix (de_var 1) de_int) da_nil))))) (dw_or1 (dt_not (dt_val (de_call (ok_is_in V) (hr.mono (by decide)) (by rfl) V.g_is_in V.d_is_in.kp (bd_is_in V.d_is_in) (da_cons (de_var 0) (da_cons (de_ix (de_var 1) de_int) da_nil))))))))) (db_one (ds_ret de_bl)) db_nil)
  (db_one (ds_ret (de_call (ok_are_tests V) (hr.mono (by decide)) (by rfl) V.g_are_tests V.d_are_tests.kp (bd_are_tests V.d_are_tests) (da_cons (de_var 0) (da_cons (de_tup (da_cons (de_ix (de_var 1) de_int) (da_cons (de_ix (de_var 1) de_int) da_nil))) (da_cons (de_ix (de_var 1) de_int) da_nil))))))) db_nil)
  (db_one (ds_ret (de_and (e_eq hr.u65 (de_ix (de_var 1) de_int) de_str) (de_one (de_call (ok_is_tie V) (hr.mono (by decide)) (by rfl) V.g_is_tie V.d_is_tie.kp (bd_is_tie V.d_is_tie) (da_cons (de_var 0) (da_cons (de_var 1) da_nil)))))))))
/-! is_row -/
abbrev s_is_row : Stmt := top 26
theorem sc_is_row : FnScope ["tables", "row", "value"] ["tables", "row"] (defScope s_is_row) := ⟨rfl, rfl, rfl, by decide +kernel, rfl, by decide +kernel, by decide +kernel⟩
theorem bd_is_row {K : PySem.W.Frag} {f : Addr} {fd : FuncData} (F : FnT K "is_row" s_is_row f fd) : Binds K fd ["tables", "row"] [] := F.bindsN fun _ _ _ _ _ _ us hl => match us, hl with | [_, _], _ => rfl
noncomputable def b_is_row : SF := (sSeq (sIf (tOrF (tNotF (tBl (fAp (gIsi .tuple) (a1 (fVar 1))))) (tOrF (tBl (fAp gNe (a2 (fAp gLen (a1 (fVar 1))) (fC (.int 2))))) (tNotF (tBl (fAp (callG 2 F_is_in) (aCons (fVar 0) (aCons (fAp gIx (a2 (fVar 1) (fC (.int 0)))) aNil))))))) (sRet (fC (.bl false))) sNx)
  (sSeq (sIf (tOrF (tNotF (tBl (fAp (gIsi .tuple) (a1 (fAp gIx (a2 (fVar 1) (fC (.int 1)))))))) (tBl (fAp gNe (a2 (fAp gLen (a1 (fAp gIx (a2 (fVar 1) (fC (.int 1)))))) (fAp gIx (a2 (fAp gIx (a2 (fVar 0) (fAp gIx (a2 (fVar 1) (fC (.int 0)))))) (fC (.int 0)))))))) (sRet (fC (.bl false))) sNx)
  (sRet (fAp gAll (a1 (fComp (iSeq (fAp gIx (a2 (fVar 1) (fC (.int 1))))) (gNm 2) tYesF (fAp (callG 1 F_is_value) (aCons (fVar 2) aNil)) [2]))))))
noncomputable def F_is_row : FN := runF 3 b_is_row
theorem ok_is_row {P : Program} {w : World} {K : PySem.W.Frag} {mg : Str → Option Value} {base : Heap} {fs : Nat → Addr} {fds : Nat → FuncData} (V : En K mg fs fds) : FnOk P w K mg base CX0 4 (fs 26) (fds 26) ["tables", "row"] (spD P w K 2 F_is_row) :=
  okD (N := ["tables", "row", "value"]) (ps := ["tables", "row"]) (k := 3) (b := b_is_row) V.d_is_row sc_is_row fun cdv A outer s H E hr => (db_cons (ds_if (dt_w (dw_or (dt_not (dt_val (de_isi .tuple V.n_isinstance V.n_tuple (by decide +kernel) (de_var 1)))) (dw_or (t_ne hr.u65 (c_len V.n_len (de_var 1)) de_int) (dw_or1 (dt_not (dt_val (de_call (ok_is_in V) (hr.mono (by decide)) (by rfl) V.g_is_in V.d_is_in.kp (bd_is_in V.d_is_in) (da_cons (de_var 0) (da_cons (de_ix (de_var 1) de_int) da_nil))))))))) (db_one (ds_ret de_bl)) db_nil)
  (db_cons (ds_if (dt_w (dw_or (dt_not (dt_val (de_isi .tuple V.n_isinstance V.n_tuple (by decide +kernel) (de_ix (de_var 1) de_int)))) (dw_or1 (t_ne hr.u65 (c_len V.n_len (de_ix (de_var 1) de_int)) (de_ix (de_ix (de_var 0) (de_ix (de_var 1) de_int)) de_int))))) (db_one (ds_ret de_bl)) db_nil)
  (db_one (ds_ret (c_all (by rfl) V.n_all (de_comp [("value", 2)] (by rfl) sc_is_row.nd (di_seq (de_ix (de_var 1) de_int)) (by kernel_rfl) (fun _ _ _ _ _ => ⟨(dg_name (i := 2) sc_is_row.nd), dts_nil, (de_call (ok_is_value V) (hr.mono (by decide)) (by rfl) V.g_is_value V.d_is_value.kp (bd_is_value V.d_is_value) (da_cons (de_var 2) da_nil))⟩) (by decide)))))))
/-! check_rows -/
abbrev s_check_rows : Stmt := top 27
theorem sc_check_rows : FnScope ["tables", "rows", "place", "row"] ["tables", "rows"] (defScope s_check_rows) := ⟨rfl, rfl, rfl, by decide +kernel, rfl, by decide +kernel, by decide +kernel⟩
theorem bd_check_rows {K : PySem.W.Frag} {f : Addr} {fd : FuncData} (F : FnT K "check_rows" s_check_rows f fd) : Binds K fd ["tables", "rows"] [] := F.bindsN fun _ _ _ _ _ _ us hl => match us, hl with | [_, _], _ => rfl
noncomputable def b_check_rows : SF := (sSeq (sFor (iEn (a1 (fVar 1))) (gTp 2 (gsCons (gNm 2) (gsCons (gNm 3) gsNil))) (sIf (tNotF (tBl (fAp (callG 2 F_is_row) (aCons (fVar 0) (aCons (fVar 3) aNil))))) sNo sNx))
  (sFor (iEn (a1 (fVar 1))) (gTp 2 (gsCons (gNm 2) (gsCons (gNm 3) gsNil))) (sIf (tBl (fAp gIn (a2 (fVar 3) (fAp gSlB (a2 (fVar 1) (fVar 2)))))) sNo sNx)))
noncomputable def F_check_rows : FN := runF 4 b_check_rows
theorem ok_check_rows {P : Program} {w : World} {K : PySem.W.Frag} {mg : Str → Option Value} {base : Heap} {fs : Nat → Addr} {fds : Nat → FuncData} (V : En K mg fs fds) : FnOk P w K mg base CX0 5 (fs 27) (fds 27) ["tables", "rows"] (spD P w K 2 F_check_rows) :=
  okD (N := ["tables", "rows", "place", "row"]) (ps := ["tables", "rows"]) (k := 4) (b := b_check_rows) V.d_check_rows sc_check_rows fun cdv A outer s H E hr => (db_cons (ds_for PassesOwn.never (by rfl) (di_enum (by rfl) V.n_enumerate (de_var 1)) (dg_tup (by rfl) (dgs_cons (dg_name (i := 2) sc_check_rows.nd) (dgs_cons (dg_name (i := 3) sc_check_rows.nd) dgs_nil))) (db_one (ds_if (dt_not (dt_val (de_call (ok_is_row V) (hr.mono (by decide)) (by rfl) V.g_is_row V.d_is_row.kp (bd_is_row V.d_is_row) (da_cons (de_var 0) (da_cons (de_var 3) da_nil))))) (db_one ds_never) db_nil)))
  (db_one (ds_for PassesOwn.never (by rfl) (di_enum (by rfl) V.n_enumerate (de_var 1)) (dg_tup (by rfl) (dgs_cons (dg_name (i := 2) sc_check_rows.nd) (dgs_cons (dg_name (i := 3) sc_check_rows.nd) dgs_nil))) (db_one (ds_if (t_in hr.u65 (de_var 3) (de_slB (de_var 1) (de_var 2))) (db_one ds_never) db_nil)))))
/-! book_of -/
abbrev s_book_of : Stmt := top 28
theorem sc_book_of : FnScope ["tables", "rules", "rows", "place", "table", "rule"] ["tables", "rules", "rows"] (defScope s_book_of) := ⟨rfl, rfl, rfl, by decide +kernel, rfl, by decide +kernel, by decide +kernel⟩
theorem bd_book_of {K : PySem.W.Frag} {f : Addr} {fd : FuncData} (F : FnT K "book_of" s_book_of f fd) : Binds K fd ["tables", "rules", "rows"] [] := F.bindsN fun _ _ _ _ _ _ us hl => match us, hl with | [_, _, _], _ => rfl
noncomputable def b_book_of : SF := (sSeq (sIf (tOrF (tBl (fAp gGt (a2 (fAp gLen (a1 (fVar 0))) (fC (.int 4))))) (tOrF (tBl (fAp gGt (a2 (fAp gLen (a1 (fVar 1))) (fC (.int 6))))) (tBl (fAp gGt (a2 (fAp gLen (a1 (fVar 2))) (fC (.int 60))))))) sNo sNx)
  (sSeq (sFor (iEn (a1 (fVar 0))) (gTp 2 (gsCons (gNm 3) (gsCons (gNm 4) gsNil))) (sIf (tNotF (tBl (fAp (callG 1 F_is_table) (aCons (fVar 4) aNil)))) sNo sNx))
  (sSeq (sIf (tBl (fAp gEq (a2 (fAp gLen (a1 (fVar 0))) (fC (.int 0))))) sNo sNx)
  (sSeq (sFor (iEn (a1 (fVar 1))) (gTp 2 (gsCons (gNm 3) (gsCons (gNm 5) gsNil))) (sIf (tNotF (tBl (fAp (callG 2 F_is_rule) (aCons (fVar 0) (aCons (fVar 5) aNil))))) sNo sNx))
  (sSeq (sDrop (fAp (callG 2 F_check_rows) (aCons (fVar 0) (aCons (fVar 2) aNil))))
  (sRet (fAp gTupN (aCons (fAp gTuple (a1 (fVar 0))) (aCons (fAp gTuple (a1 (fVar 1))) (aCons (fAp gTuple (a1 (fVar 2))) aNil))))))))))
noncomputable def F_book_of : FN := runF 6 b_book_of
theorem ok_book_of {P : Program} {w : World} {K : PySem.W.Frag} {mg : Str → Option Value} {base : Heap} {fs : Nat → Addr} {fds : Nat → FuncData} (V : En K mg fs fds) : FnOk P w K mg base CX0 7 (fs 28) (fds 28) ["tables", "rules", "rows"] (spD P w K 3 F_book_of) :=
  okD (N := ["tables", "rules", "rows", "place", "table", "rule"]) (ps := ["tables", "rules", "rows"]) (k := 6) (b := b_book_of) V.d_book_of sc_book_of fun cdv A outer s H E hr => (db_cons (ds_if (dt_w (dw_or (t_gt (c_len V.n_len (de_var 0)) (de_gint (by rfl) V.c_MOST_TABLES)) (dw_or (t_gt (c_len V.n_len (de_var 1)) (de_gint (by rfl) V.c_MOST_RULES)) (dw_or1 (t_gt (c_len V.n_len (de_var 2)) (de_gint (by rfl) V.c_MOST_ROWS)))))) (db_one ds_never) db_nil)
  (db_cons (ds_for PassesOwn.never (by rfl) (di_enum (by rfl) V.n_enumerate (de_var 0)) (dg_tup (by rfl) (dgs_cons (dg_name (i := 3) sc_book_of.nd) (dgs_cons (dg_name (i := 4) sc_book_of.nd) dgs_nil))) (db_one (ds_if (dt_not (dt_val (de_call (ok_is_table V) (hr.mono (by decide)) (by rfl) V.g_is_table V.d_is_table.kp (bd_is_table V.d_is_table) (da_cons (de_var 4) da_nil)))) (db_one ds_never) db_nil)))
  (db_cons (ds_if (t_eq hr.u65 (c_len V.n_len (de_var 0)) de_int) (db_one ds_never) db_nil)
  (db_cons (ds_for PassesOwn.never (by rfl) (di_enum (by rfl) V.n_enumerate (de_var 1)) (dg_tup (by rfl) (dgs_cons (dg_name (i := 3) sc_book_of.nd) (dgs_cons (dg_name (i := 5) sc_book_of.nd) dgs_nil))) (db_one (ds_if (dt_not (dt_val (de_call (ok_is_rule V) (hr.mono (by decide)) (by rfl) V.g_is_rule V.d_is_rule.kp (bd_is_rule V.d_is_rule) (da_cons (de_var 0) (da_cons (de_var 5) da_nil))))) (db_one ds_never) db_nil)))
  (db_cons (ds_expr (de_call (ok_check_rows V) (hr.mono (by decide)) (by rfl) V.g_check_rows V.d_check_rows.kp (bd_check_rows V.d_check_rows) (da_cons (de_var 0) (da_cons (de_var 2) da_nil))))
  (db_one (ds_ret (de_tup (da_cons (c_tuple V.n_tuple (de_var 0)) (da_cons (c_tuple V.n_tuple (de_var 1)) (da_cons (c_tuple V.n_tuple (de_var 2)) da_nil)))))))))))
/-! _law_cell_at -/
abbrev s__law_cell_at : Stmt := top 30
theorem sc__law_cell_at : FnScope ["_law_script", "_law_k"] ["_law_script", "_law_k"] (defScope s__law_cell_at) := ⟨rfl, rfl, rfl, by decide +kernel, rfl, by decide +kernel, by decide +kernel⟩
theorem bd__law_cell_at {K : PySem.W.Frag} {f : Addr} {fd : FuncData} (F : FnT K "_law_cell_at" s__law_cell_at f fd) : Binds K fd ["_law_script", "_law_k"] [] := F.bindsN fun _ _ _ _ _ _ us hl => match us, hl with | [_, _], _ => rfl
noncomputable def b__law_cell_at : SF := (sSeq (sIf (tBl (fAp gLt (a2 (fVar 1) (fAp gLen (a1 (fVar 0)))))) (sRet (fAp gIx (a2 (fVar 0) (fVar 1)))) sNx)
  (sRet (fC (.int 0))))
noncomputable def F__law_cell_at : FN := runF 2 b__law_cell_at
theorem ok__law_cell_at {P : Program} {w : World} {K : PySem.W.Frag} {mg : Str → Option Value} {base : Heap} {fs : Nat → Addr} {fds : Nat → FuncData} (V : En K mg fs fds) : FnOk P w K mg base CX0 2 (fs 30) (fds 30) ["_law_script", "_law_k"] (spD P w K 2 F__law_cell_at) :=
  okD (N := ["_law_script", "_law_k"]) (ps := ["_law_script", "_law_k"]) (k := 1) (b := b__law_cell_at) V.d__law_cell_at sc__law_cell_at fun cdv A outer s H E hr => (db_cons (ds_if (t_lt (de_var 1) (c_len V.n_len (de_var 0))) (db_one (ds_ret (de_ix (de_var 0) (de_var 1)))) db_nil)
  (db_one (ds_ret de_int)))
/-! _law_mix -/
abbrev s__law_mix : Stmt := top 31
theorem sc__law_mix : FnScope ["_law_cell", "_law_prime", "_law_number"] ["_law_cell", "_law_prime"] (defScope s__law_mix) := ⟨rfl, rfl, rfl, by decide +kernel, rfl, by decide +kernel, by decide +kernel⟩
theorem bd__law_mix {K : PySem.W.Frag} {f : Addr} {fd : FuncData} (F : FnT K "_law_mix" s__law_mix f fd) : Binds K fd ["_law_cell", "_law_prime"] [] := F.bindsN fun _ _ _ _ _ _ us hl => match us, hl with | [_, _], _ => rfl
noncomputable def b__law_mix : SF := (sSeq (sIf (tBl (fAp gEq (a2 (fAp gMod (a2 (fVar 0) (fC (.int 2)))) (fC (.int 0))))) (sRet (fAp gMod (a2 (fAp gFdiv (a2 (fVar 0) (fC (.int 2)))) (fAp gPow (a2 (fAp gPow (a2 (fC (.int 10)) (fC (.int 60)))) (fC (.int 10))))))) sNx)
  (sSeq (sAsg (fAp gMod (a2 (fAp gMulI (a2 (fAp gAdd (a2 (fAp gMod (a2 (fVar 0) (fC (.int 2147483629)))) (fC (.int 7)))) (fC (.int 48271)))) (fVar 1))) (gNm 2))
  (sRet (fAp gAdd (a2 (fAp gMulI (a2 (fAp gMod (a2 (fAp gMulI (a2 (fVar 2) (fVar 2))) (fC (.int 2147483579)))) (fC (.int 1000003)))) (fVar 2))))))
noncomputable def F__law_mix : FN := runF 3 b__law_mix
theorem ok__law_mix {P : Program} {w : World} {K : PySem.W.Frag} {mg : Str → Option Value} {base : Heap} {fs : Nat → Addr} {fds : Nat → FuncData} (V : En K mg fs fds) : FnOk P w K mg base CX0 2 (fs 31) (fds 31) ["_law_cell", "_law_prime"] (spD P w K 2 F__law_mix) :=
  okD (N := ["_law_cell", "_law_prime", "_law_number"]) (ps := ["_law_cell", "_law_prime"]) (k := 1) (b := b__law_mix) V.d__law_mix sc__law_mix fun cdv A outer s H E hr => (db_cons (ds_if (t_eq hr.u65 (e_mod (de_var 0) de_int) de_int) (db_one (ds_ret (e_mod (e_fdiv (de_var 0) de_int) (e_pow (e_pow de_int de_int) de_int)))) db_nil)
  (db_cons (ds_set (i := 2) sc__law_mix.nd (e_mod (e_mul (e_add (e_mod (de_var 0) de_int) de_int) de_int) (de_var 1)))
  (db_one (ds_ret (e_add (e_mul (e_mod (e_mul (de_var 2) (de_var 2)) de_int) de_int) (de_var 2))))))
/-! _law_name -/
abbrev s__law_name : Stmt := top 32
theorem sc__law_name : FnScope ["_law_cell", "_law_letters", "_law_number", "_law_name_here", "_law_k"] ["_law_cell"] (defScope s__law_name) := ⟨rfl, rfl, rfl, by decide +kernel, rfl, by decide +kernel, by decide +kernel⟩
theorem bd__law_name {K : PySem.W.Frag} {f : Addr} {fd : FuncData} (F : FnT K "_law_name" s__law_name f fd) : Binds K fd ["_law_cell"] [] := F.bindsN fun _ _ _ _ _ _ us hl => match us, hl with | [_], _ => rfl
noncomputable def b__law_name : SF := (sSeq (sAsg (fC (.str "abcdefghijklmnopqrstuvwxyz")) (gNm 1))
  (sSeq (sAsg (fAp gFdiv (a2 (fVar 0) (fC (.int 8)))) (gNm 2))
  (sSeq (sAsg (fC (.str "")) (gNm 3))
  (sSeq (sFor (iR1 (a1 (fAp gAdd (a2 (fC (.int 1)) (fAp gMod (a2 (fVar 0) (fC (.int 8)))))))) (gNm 4) (sSeq (sAsg (fAp gAdd (a2 (fVar 3) (fAp gIx (a2 (fVar 1) (fAp gMod (a2 (fVar 2) (fC (.int 26)))))))) (gNm 3))
  (sAsg (fAp gFdiv (a2 (fVar 2) (fC (.int 26)))) (gNm 2))))
  (sRet (fVar 3))))))
noncomputable def F__law_name : FN := runF 5 b__law_name
theorem ok__law_name {P : Program} {w : World} {K : PySem.W.Frag} {mg : Str → Option Value} {base : Heap} {fs : Nat → Addr} {fds : Nat → FuncData} (V : En K mg fs fds) : FnOk P w K mg base CX0 2 (fs 32) (fds 32) ["_law_cell"] (spD P w K 1 F__law_name) :=
  okD (N := ["_law_cell", "_law_letters", "_law_number", "_law_name_here", "_law_k"]) (ps := ["_law_cell"]) (k := 1) (b := b__law_name) V.d__law_name sc__law_name fun cdv A outer s H E hr => (db_cons (ds_set (i := 1) sc__law_name.nd de_str)
  (db_cons (ds_set (i := 2) sc__law_name.nd (e_fdiv (de_var 0) de_int))
  (db_cons (ds_set (i := 3) sc__law_name.nd de_str)
  (db_cons (ds_for PassesOwn.never (by rfl) (di_r1 (by rfl) V.n_range (e_add de_int (e_mod (de_var 0) de_int))) (dg_name (i := 4) sc__law_name.nd) (db_cons (ds_set (i := 3) sc__law_name.nd (e_add (de_var 3) (de_ix (de_var 1) (e_mod (de_var 2) de_int))))
  (db_one (ds_set (i := 2) sc__law_name.nd (e_fdiv (de_var 2) de_int)))))
  (db_one (ds_ret (de_var 3)))))))
/-! _law_pool -/
abbrev s__law_pool : Stmt := top 33
theorem sc__law_pool : FnScope ["_law_cell", "_law_number", "_law_letters", "_law_name_here", "_law_at", "_law_turned", "_law_other", "_law_great"] ["_law_cell"] (defScope s__law_pool) := ⟨rfl, rfl, rfl, by decide +kernel, rfl, by decide +kernel, by decide +kernel⟩
theorem bd__law_pool {K : PySem.W.Frag} {f : Addr} {fd : FuncData} (F : FnT K "_law_pool" s__law_pool f fd) : Binds K fd ["_law_cell"] [] := F.bindsN fun _ _ _ _ _ _ us hl => match us, hl with | [_], _ => rfl
noncomputable def b__law_pool : SF := (sSeq (sAsg (fAp (callG 2 F__law_mix) (aCons (fVar 0) (aCons (fC (.int 2147483587)) aNil))) (gNm 1))
  (sSeq (sAsg (fC (.str "abcdefghijklmnopqrstuvwxyz")) (gNm 2))
  (sSeq (sAsg (fAp (callG 1 F__law_name) (aCons (fVar 1) aNil)) (gNm 3))
  (sSeq (sAsg (fAp gFdiv (a2 (fVar 1) (fAp gMulI (a2 (fC (.int 8)) (fAp gPow (a2 (fC (.int 26)) (fC (.int 8)))))))) (gNm 1))
  (sSeq (sAsg (fAp gMod (a2 (fVar 1) (fAp gLen (a1 (fVar 3))))) (gNm 4))
  (sSeq (sAsg (fAp gAdd (a2 (fAp gAdd (a2 (fBM okS gSindex (fVar 2) (a1 (fAp gIx (a2 (fVar 3) (fVar 4))))) (fC (.int 1)))) (fAp gMod (a2 (fAp gFdiv (a2 (fVar 1) (fC (.int 8)))) (fC (.int 25)))))) (gNm 5))
  (sSeq (sAsg (fAp gAdd (a2 (fAp gAdd (a2 (fAp gSlB (a2 (fVar 3) (fVar 4))) (fAp gIx (a2 (fVar 2) (fAp gMod (a2 (fVar 5) (fC (.int 26)))))))) (fAp gSlA (a2 (fVar 3) (fAp gAdd (a2 (fVar 4) (fC (.int 1)))))))) (gNm 6))
  (sSeq (sAsg (fAp gFdiv (a2 (fVar 1) (fC (.int 200)))) (gNm 1))
  (sSeq (sAsg (fAp gAdd (a2 (fAp gMod (a2 (fAp gPow (a2 (fAp gAdd (a2 (fAp gMulI (a2 (fAp gMod (a2 (fVar 1) (fAp gPow (a2 (fC (.int 10)) (fC (.int 30)))))) (fC (.int 48271)))) (fC (.int 11)))) (fC (.int 4)))) (fAp gSub (a2 (fAp gPow (a2 (fC (.int 10)) (fC (.int 30)))) (fC (.int 3)))))) (fC (.int 1)))) (gNm 7))
  (sSeq (sIf (tBl (fAp gEq (a2 (fAp gMod (a2 (fVar 1) (fC (.int 2)))) (fC (.int 1))))) (sAsg (fAp gAdd (a2 (fAp gMod (a2 (fAp gFdiv (a2 (fVar 1) (fC (.int 2)))) (fAp gSub (a2 (fAp gPow (a2 (fC (.int 10)) (fC (.int 30)))) (fC (.int 3)))))) (fC (.int 1)))) (gNm 7)) sNx)
  (sRet (fAp gLstN (aCons (fAp gMod (a2 (fAp gFdiv (a2 (fVar 1) (fC (.int 64)))) (fC (.int 5)))) (aCons (fVar 7) (aCons (fVar 3) (aCons (fAp gSub (a2 (fC (.int 0)) (fVar 7))) (aCons (fVar 6) (aCons (fAp gAdd (a2 (fAp gMod (a2 (fAp gFdiv (a2 (fVar 1) (fC (.int 320)))) (fC (.int 5)))) (fC (.int 7)))) (aCons (fAp gAdd (a2 (fVar 7) (fC (.int 1)))) aNil)))))))))))))))))))
noncomputable def F__law_pool : FN := runF 8 b__law_pool
theorem ok__law_pool {P : Program} {w : World} {K : PySem.W.Frag} {mg : Str → Option Value} {base : Heap} {fs : Nat → Addr} {fds : Nat → FuncData} (V : En K mg fs fds) : FnOk P w K mg base CX0 3 (fs 33) (fds 33) ["_law_cell"] (spD P w K 1 F__law_pool) :=
  okD (N := ["_law_cell", "_law_number", "_law_letters", "_law_name_here", "_law_at", "_law_turned", "_law_other", "_law_great"]) (ps := ["_law_cell"]) (k := 2) (b := b__law_pool) V.d__law_pool sc__law_pool fun cdv A outer s H E hr => (db_cons (ds_set (i := 1) sc__law_pool.nd (de_call (ok__law_mix V) (hr.mono (by decide)) (by rfl) V.g__law_mix V.d__law_mix.kp (bd__law_mix V.d__law_mix) (da_cons (de_var 0) (da_cons de_int da_nil))))
  (db_cons (ds_set (i := 2) sc__law_pool.nd de_str)
  (db_cons (ds_set (i := 3) sc__law_pool.nd (de_call (ok__law_name V) (hr.mono (by decide)) (by rfl) V.g__law_name V.d__law_name.kp (bd__law_name V.d__law_name) (da_cons (de_var 1) da_nil)))
  (db_cons (ds_set (i := 1) sc__law_pool.nd (e_fdiv (de_var 1) (e_mul de_int (e_pow de_int de_int))))
  (db_cons (ds_set (i := 4) sc__law_pool.nd (e_mod (de_var 1) (c_len V.n_len (de_var 3))))
  (db_cons (ds_set (i := 5) sc__law_pool.nd (e_add (e_add (de_sindex (de_var 2) (de_ix (de_var 3) (de_var 4))) de_int) (e_mod (e_fdiv (de_var 1) de_int) de_int)))
  (db_cons (ds_set (i := 6) sc__law_pool.nd (e_add (e_add (de_slB (de_var 3) (de_var 4)) (de_ix (de_var 2) (e_mod (de_var 5) de_int))) (de_slA (de_var 3) (e_add (de_var 4) de_int))))
  (db_cons (ds_set (i := 1) sc__law_pool.nd (e_fdiv (de_var 1) de_int))
  (db_cons (ds_set (i := 7) sc__law_pool.nd (e_add (e_mod (e_pow (e_add (e_mul (e_mod (de_var 1) (e_pow de_int de_int)) de_int) de_int) de_int) (e_sub (e_pow de_int de_int) de_int)) de_int))
  (db_cons (ds_if (t_eq hr.u65 (e_mod (de_var 1) de_int) de_int) (db_one (ds_set (i := 7) sc__law_pool.nd (e_add (e_mod (e_fdiv (de_var 1) de_int) (e_sub (e_pow de_int de_int) de_int)) de_int))) db_nil)
  (db_one (ds_ret (de_lst (da_cons (e_mod (e_fdiv (de_var 1) de_int) de_int) (da_cons (de_var 7) (da_cons (de_var 3) (da_cons (e_sub de_int (de_var 7)) (da_cons (de_var 6) (da_cons (e_add (e_mod (e_fdiv (de_var 1) de_int) de_int) de_int) (da_cons (e_add (de_var 7) de_int) da_nil))))))))))))))))))))
/-! _law_alike -/
abbrev s__law_alike : Stmt := top 34
theorem sc__law_alike : FnScope ["_law_told", "_law_due", "_law_one", "_law_other"] ["_law_told", "_law_due"] (defScope s__law_alike) := ⟨rfl, rfl, rfl, by decide +kernel, rfl, by decide +kernel, by decide +kernel⟩
theorem bd__law_alike {K : PySem.W.Frag} {f : Addr} {fd : FuncData} (F : FnT K "_law_alike" s__law_alike f fd) : Binds K fd ["_law_told", "_law_due"] [] := F.bindsN fun _ _ _ _ _ _ us hl => match us, hl with | [_, _], _ => rfl
noncomputable def b__law_alike (F : FN) : SF := (sSeq (sIf (tBl (fAp (gIsN false) (a2 (fVar 1) (fC .non)))) (sRet (fAp (gIsN false) (a2 (fVar 0) (fC .non)))) sNx)
  (sSeq (sIf (tBl (fAp (gIsi .str) (a1 (fVar 1)))) (sRet (fAnd (fAp (gIsi .str) (a1 (fVar 0))) (fAp gEq (a2 (fVar 0) (fVar 1))))) sNx)
  (sSeq (sIf (tBl (fAp (gIsi .int) (a1 (fVar 1)))) (sRet (fAnd (fAp (gIsi .int) (a1 (fVar 0))) (fAnd (fNot (fAp (gIsi .bool) (a1 (fVar 0)))) (fAp gEq (a2 (fVar 0) (fVar 1)))))) sNx)
  (sSeq (sIf (tAndF (tBl (fAp (gIsi .list) (a1 (fVar 1)))) (tNotF (tBl (fAp (gIsi .list) (a1 (fVar 0)))))) (sRet (fC (.bl false))) sNx)
  (sSeq (sIf (tAndF (tBl (fAp (gIsi .tuple) (a1 (fVar 1)))) (tNotF (tBl (fAp (gIsi .tuple) (a1 (fVar 0)))))) (sRet (fC (.bl false))) sNx)
  (sRet (fAnd (fAp gEq (a2 (fAp gLen (a1 (fVar 0))) (fAp gLen (a1 (fVar 1))))) (fAp gAll (a1 (fComp (iZp (a2 (fVar 0) (fVar 1))) (gTp 2 (gsCons (gNm 2) (gsCons (gNm 3) gsNil))) tYesF (fAp (callG 2 F) (aCons (fVar 2) (aCons (fVar 3) aNil))) [2, 3]))))))))))
noncomputable def F__law_alike : Nat → FN
  | 0 => fun _ _ => none
  | n + 1 => runF 4 (b__law_alike (F__law_alike n))
theorem ok__law_alike {P : Program} {w : World} {K : PySem.W.Frag} {mg : Str → Option Value} {base : Heap} {fs : Nat → Addr} {fds : Nat → FuncData} (V : En K mg fs fds) : ∀ n, FnOk P w K mg base CX0 (2 + n) (fs 34) (fds 34) ["_law_told", "_law_due"] (spD P w K 2 (F__law_alike n))
  | 0 => okD0 (k := 1) V.d__law_alike sc__law_alike
  | n + 1 => by
    have ih := fun (V : En K mg fs fds) => ok__law_alike (P := P) (w := w) (base := base) V n
    exact okD (N := ["_law_told", "_law_due", "_law_one", "_law_other"]) (ps := ["_law_told", "_law_due"]) (k := 2 + n) (b := b__law_alike (F__law_alike n)) V.d__law_alike sc__law_alike fun cdv A outer s H E hr => (db_cons (ds_if (t_isN (de_var 1) de_non) (db_one (ds_ret (e_isN (de_var 0) de_non))) db_nil)
  (db_cons (ds_if (dt_val (de_isi .str V.n_isinstance V.n_str (by decide +kernel) (de_var 1))) (db_one (ds_ret (de_and (de_isi .str V.n_isinstance V.n_str (by decide +kernel) (de_var 0)) (de_one (e_eq hr.u65 (de_var 0) (de_var 1)))))) db_nil)
  (db_cons (ds_if (dt_val (de_isi .int V.n_isinstance V.n_int (by decide +kernel) (de_var 1))) (db_one (ds_ret (de_and (de_isi .int V.n_isinstance V.n_int (by decide +kernel) (de_var 0)) (de_and (de_not (de_isi .bool V.n_isinstance V.n_bool (by decide +kernel) (de_var 0))) (de_one (e_eq hr.u65 (de_var 0) (de_var 1))))))) db_nil)
  (db_cons (ds_if (dt_w (dw_and (dt_val (de_isi .list V.n_isinstance V.n_list (by decide +kernel) (de_var 1))) (dw_and1 (dt_not (dt_val (de_isi .list V.n_isinstance V.n_list (by decide +kernel) (de_var 0))))))) (db_one (ds_ret de_bl)) db_nil)
  (db_cons (ds_if (dt_w (dw_and (dt_val (de_isi .tuple V.n_isinstance V.n_tuple (by decide +kernel) (de_var 1))) (dw_and1 (dt_not (dt_val (de_isi .tuple V.n_isinstance V.n_tuple (by decide +kernel) (de_var 0))))))) (db_one (ds_ret de_bl)) db_nil)
  (db_one (ds_ret (de_and (e_eq hr.u65 (c_len V.n_len (de_var 0)) (c_len V.n_len (de_var 1))) (de_one (c_all (by rfl) V.n_all (de_comp [("_law_one", 2), ("_law_other", 3)] (by rfl) sc__law_alike.nd (di_zip (by rfl) V.n_zip (de_var 0) (de_var 1)) (by kernel_rfl) (fun _ _ _ _ _ => ⟨(dg_tup (by rfl) (dgs_cons (dg_name (i := 2) sc__law_alike.nd) (dgs_cons (dg_name (i := 3) sc__law_alike.nd) dgs_nil))), dts_nil, (de_call (ih V) (hr.mono (by omega)) (by rfl) V.g__law_alike V.d__law_alike.kp (bd__law_alike V.d__law_alike) (da_cons (de_var 2) (da_cons (de_var 3) da_nil)))⟩) (by decide))))))))))))
/-! _law_tables -/
abbrev s__law_tables : Stmt := top 35
theorem sc__law_tables : FnScope ["_law_cell", "_law_most", "_law_number", "_law_many", "_law_tables_here", "_law_k", "_law_wide"] ["_law_cell", "_law_most"] (defScope s__law_tables) := ⟨rfl, rfl, rfl, by decide +kernel, rfl, by decide +kernel, by decide +kernel⟩
theorem bd__law_tables {K : PySem.W.Frag} {f : Addr} {fd : FuncData} (F : FnT K "_law_tables" s__law_tables f fd) : Binds K fd ["_law_cell", "_law_most"] [] := F.bindsN fun _ _ _ _ _ _ us hl => match us, hl with | [_, _], _ => rfl
noncomputable def b__law_tables : SF := (sSeq (sAsg (fAp (callG 2 F__law_mix) (aCons (fVar 0) (aCons (fC (.int 2147483629)) aNil))) (gNm 2))
  (sSeq (sAsg (fAp gAdd (a2 (fC (.int 1)) (fAp gMod (a2 (fVar 2) (fVar 1))))) (gNm 3))
  (sSeq (sAsg (fAp gFdiv (a2 (fVar 2) (fVar 1))) (gNm 2))
  (sSeq (sAsg (fAp gLstN aNil) (gNm 4))
  (sSeq (sFor (iR1 (a1 (fVar 3))) (gNm 5) (sSeq (sAsg (fAp gAdd (a2 (fC (.int 1)) (fAp gMod (a2 (fVar 2) (fC (.int 4)))))) (gNm 6))
  (sSeq (sDrop (fBM okL gAppend (fVar 4) (a1 (fAp gTupN (aCons (fVar 6) (aCons (fAp gMod (a2 (fAp gFdiv (a2 (fVar 2) (fC (.int 4)))) (fAp gAdd (a2 (fVar 6) (fC (.int 1)))))) aNil))))))
  (sAsg (fAp gFdiv (a2 (fVar 2) (fC (.int 20)))) (gNm 2)))))
  (sRet (fAp gTuple (a1 (fVar 4)))))))))
noncomputable def F__law_tables : FN := runF 7 b__law_tables
theorem ok__law_tables {P : Program} {w : World} {K : PySem.W.Frag} {mg : Str → Option Value} {base : Heap} {fs : Nat → Addr} {fds : Nat → FuncData} (V : En K mg fs fds) : FnOk P w K mg base CX0 3 (fs 35) (fds 35) ["_law_cell", "_law_most"] (spD P w K 2 F__law_tables) :=
  okD (N := ["_law_cell", "_law_most", "_law_number", "_law_many", "_law_tables_here", "_law_k", "_law_wide"]) (ps := ["_law_cell", "_law_most"]) (k := 2) (b := b__law_tables) V.d__law_tables sc__law_tables fun cdv A outer s H E hr => (db_cons (ds_set (i := 2) sc__law_tables.nd (de_call (ok__law_mix V) (hr.mono (by decide)) (by rfl) V.g__law_mix V.d__law_mix.kp (bd__law_mix V.d__law_mix) (da_cons (de_var 0) (da_cons de_int da_nil))))
  (db_cons (ds_set (i := 3) sc__law_tables.nd (e_add de_int (e_mod (de_var 2) (de_var 1))))
  (db_cons (ds_set (i := 2) sc__law_tables.nd (e_fdiv (de_var 2) (de_var 1)))
  (db_cons (ds_set (i := 4) sc__law_tables.nd (de_lst da_nil))
  (db_cons (ds_for PassesOwn.never (by rfl) (di_r1 (by rfl) V.n_range (de_var 3)) (dg_name (i := 5) sc__law_tables.nd) (db_cons (ds_set (i := 6) sc__law_tables.nd (e_add de_int (e_mod (de_var 2) de_int)))
  (db_cons (ds_expr (de_append (de_var 4) (de_tup (da_cons (de_var 6) (da_cons (e_mod (e_fdiv (de_var 2) de_int) (e_add (de_var 6) de_int)) da_nil)))))
  (db_one (ds_set (i := 2) sc__law_tables.nd (e_fdiv (de_var 2) de_int))))))
  (db_one (ds_ret (c_tuple V.n_tuple (de_var 4)))))))))
/-! _law_row -/
abbrev s__law_row : Stmt := top 36
theorem sc__law_row : FnScope ["_law_cell", "_law_tables_here", "_law_pool_here", "_law_wide", "_law_number", "_law_t", "_law_cells", "_law_k"] ["_law_cell", "_law_tables_here", "_law_pool_here", "_law_wide"] (defScope s__law_row) := ⟨rfl, rfl, rfl, by decide +kernel, rfl, by decide +kernel, by decide +kernel⟩
theorem bd__law_row {K : PySem.W.Frag} {f : Addr} {fd : FuncData} (F : FnT K "_law_row" s__law_row f fd) : Binds K fd ["_law_cell", "_law_tables_here", "_law_pool_here", "_law_wide"] [] := F.bindsN fun _ _ _ _ _ _ us hl => match us, hl with | [_, _, _, _], _ => rfl
noncomputable def b__law_row : SF := (sSeq (sAsg (fAp (callG 2 F__law_mix) (aCons (fVar 0) (aCons (fC (.int 2147483563)) aNil))) (gNm 4))
  (sSeq (sAsg (fAp gMod (a2 (fVar 4) (fAp gLen (a1 (fVar 1))))) (gNm 5))
  (sSeq (sAsg (fAp gFdiv (a2 (fVar 4) (fAp gLen (a1 (fVar 1))))) (gNm 4))
  (sSeq (sAsg (fAp gLstN aNil) (gNm 6))
  (sSeq (sFor (iR1 (a1 (fAp gIx (a2 (fAp gIx (a2 (fVar 1) (fVar 5))) (fC (.int 0)))))) (gNm 7) (sSeq (sDrop (fBM okL gAppend (fVar 6) (a1 (fAp gIx (a2 (fVar 2) (fAp gMod (a2 (fVar 4) (fVar 3))))))))
  (sAsg (fAp gFdiv (a2 (fVar 4) (fVar 3))) (gNm 4))))
  (sRet (fAp gTupN (aCons (fVar 5) (aCons (fAp gTuple (a1 (fVar 6))) aNil)))))))))
noncomputable def F__law_row : FN := runF 8 b__law_row
theorem ok__law_row {P : Program} {w : World} {K : PySem.W.Frag} {mg : Str → Option Value} {base : Heap} {fs : Nat → Addr} {fds : Nat → FuncData} (V : En K mg fs fds) : FnOk P w K mg base CX0 3 (fs 36) (fds 36) ["_law_cell", "_law_tables_here", "_law_pool_here", "_law_wide"] (spD P w K 4 F__law_row) :=
  okD (N := ["_law_cell", "_law_tables_here", "_law_pool_here", "_law_wide", "_law_number", "_law_t", "_law_cells", "_law_k"]) (ps := ["_law_cell", "_law_tables_here", "_law_pool_here", "_law_wide"]) (k := 2) (b := b__law_row) V.d__law_row sc__law_row fun cdv A outer s H E hr => (db_cons (ds_set (i := 4) sc__law_row.nd (de_call (ok__law_mix V) (hr.mono (by decide)) (by rfl) V.g__law_mix V.d__law_mix.kp (bd__law_mix V.d__law_mix) (da_cons (de_var 0) (da_cons de_int da_nil))))
  (db_cons (ds_set (i := 5) sc__law_row.nd (e_mod (de_var 4) (c_len V.n_len (de_var 1))))
  (db_cons (ds_set (i := 4) sc__law_row.nd (e_fdiv (de_var 4) (c_len V.n_len (de_var 1))))
  (db_cons (ds_set (i := 6) sc__law_row.nd (de_lst da_nil))
  (db_cons (ds_for PassesOwn.never (by rfl) (di_r1 (by rfl) V.n_range (de_ix (de_ix (de_var 1) (de_var 5)) de_int)) (dg_name (i := 7) sc__law_row.nd) (db_cons (ds_expr (de_append (de_var 6) (de_ix (de_var 2) (e_mod (de_var 4) (de_var 3)))))
  (db_one (ds_set (i := 4) sc__law_row.nd (e_fdiv (de_var 4) (de_var 3))))))
  (db_one (ds_ret (de_tup (da_cons (de_var 5) (da_cons (c_tuple V.n_tuple (de_var 6)) da_nil))))))))))
/-! _law_rows -/
abbrev s__law_rows : Stmt := top 37
theorem sc__law_rows : FnScope ["_law_cells", "_law_tables_here", "_law_pool_here", "_law_wide", "_law_rows_here", "_law_cell", "_law_row_here"] ["_law_cells", "_law_tables_here", "_law_pool_here", "_law_wide"] (defScope s__law_rows) := ⟨rfl, rfl, rfl, by decide +kernel, rfl, by decide +kernel, by decide +kernel⟩
theorem bd__law_rows {K : PySem.W.Frag} {f : Addr} {fd : FuncData} (F : FnT K "_law_rows" s__law_rows f fd) : Binds K fd ["_law_cells", "_law_tables_here", "_law_pool_here", "_law_wide"] [] := F.bindsN fun _ _ _ _ _ _ us hl => match us, hl with | [_, _, _, _], _ => rfl
noncomputable def b__law_rows : SF := (sSeq (sAsg (fAp gLstN aNil) (gNm 4))
  (sSeq (sFor (iSeq (fVar 0)) (gNm 5) (sSeq (sAsg (fAp (callG 4 F__law_row) (aCons (fVar 5) (aCons (fVar 1) (aCons (fVar 2) (aCons (fVar 3) aNil))))) (gNm 6))
  (sIf (tBl (fAp gNin (a2 (fVar 6) (fVar 4)))) (sDrop (fBM okL gAppend (fVar 4) (a1 (fVar 6)))) sNx)))
  (sRet (fAp gTuple (a1 (fVar 4))))))
noncomputable def F__law_rows : FN := runF 7 b__law_rows
theorem ok__law_rows {P : Program} {w : World} {K : PySem.W.Frag} {mg : Str → Option Value} {base : Heap} {fs : Nat → Addr} {fds : Nat → FuncData} (V : En K mg fs fds) : FnOk P w K mg base CX0 4 (fs 37) (fds 37) ["_law_cells", "_law_tables_here", "_law_pool_here", "_law_wide"] (spD P w K 4 F__law_rows) :=
  okD (N := ["_law_cells", "_law_tables_here", "_law_pool_here", "_law_wide", "_law_rows_here", "_law_cell", "_law_row_here"]) (ps := ["_law_cells", "_law_tables_here", "_law_pool_here", "_law_wide"]) (k := 3) (b := b__law_rows) V.d__law_rows sc__law_rows fun cdv A outer s H E hr => (db_cons (ds_set (i := 4) sc__law_rows.nd (de_lst da_nil))
  (db_cons (ds_for PassesOwn.never (by rfl) (di_seq (de_var 0)) (dg_name (i := 5) sc__law_rows.nd) (db_cons (ds_set (i := 6) sc__law_rows.nd (de_call (ok__law_row V) (hr.mono (by decide)) (by rfl) V.g__law_row V.d__law_row.kp (bd__law_row V.d__law_row) (da_cons (de_var 5) (da_cons (de_var 1) (da_cons (de_var 2) (da_cons (de_var 3) da_nil))))))
  (db_one (ds_if (t_nin hr.u65 (de_var 6) (de_var 4)) (db_one (ds_expr (de_append (de_var 4) (de_var 6)))) db_nil))))
  (db_one (ds_ret (c_tuple V.n_tuple (de_var 4))))))
/-! _law_take -/
abbrev s__law_take : Stmt := top 38
theorem sc__law_take : FnScope ["_law_state", "_law_size", "_law_found"] ["_law_state", "_law_size"] (defScope s__law_take) := ⟨rfl, rfl, rfl, by decide +kernel, rfl, by decide +kernel, by decide +kernel⟩
theorem bd__law_take {K : PySem.W.Frag} {f : Addr} {fd : FuncData} (F : FnT K "_law_take" s__law_take f fd) : Binds K fd ["_law_state", "_law_size"] [] := F.bindsN fun _ _ _ _ _ _ us hl => match us, hl with | [_, _], _ => rfl
noncomputable def b__law_take : SF := (sSeq (sAsg (fAp gMod (a2 (fAp gIx (a2 (fVar 0) (fC (.int 0)))) (fVar 1))) (gNm 2))
  (sSeq (sSetI nSetL (aCons (fAp gFdiv (a2 (fAp gIx (a2 (fVar 0) (fC (.int 0)))) (fVar 1))) (aCons (fVar 0) (aCons (fC (.int 0)) aNil))))
  (sRet (fVar 2))))
noncomputable def F__law_take : FN := runF 3 b__law_take
theorem ok__law_take {P : Program} {w : World} {K : PySem.W.Frag} {mg : Str → Option Value} {base : Heap} {fs : Nat → Addr} {fds : Nat → FuncData} (V : En K mg fs fds) : FnOk P w K mg base CX0 2 (fs 38) (fds 38) ["_law_state", "_law_size"] (spD P w K 2 F__law_take) :=
  okD (N := ["_law_state", "_law_size", "_law_found"]) (ps := ["_law_state", "_law_size"]) (k := 1) (b := b__law_take) V.d__law_take sc__law_take fun cdv A outer s H E hr => (db_cons (ds_set (i := 2) sc__law_take.nd (e_mod (de_ix (de_var 0) de_int) (de_var 1)))
  (db_cons (ds_setL (e_fdiv (de_ix (de_var 0) de_int) (de_var 1)) (de_var 0) de_int)
  (db_one (ds_ret (de_var 2)))))
/-! _law_side -/
abbrev s__law_side : Stmt := top 39
theorem sc__law_side : FnScope ["_law_state", "_law_there", "_law_tables_here", "_law_pool_here", "_law_k"] ["_law_state", "_law_there", "_law_tables_here", "_law_pool_here"] (defScope s__law_side) := ⟨rfl, rfl, rfl, by decide +kernel, rfl, by decide +kernel, by decide +kernel⟩
theorem bd__law_side {K : PySem.W.Frag} {f : Addr} {fd : FuncData} (F : FnT K "_law_side" s__law_side f fd) : Binds K fd ["_law_state", "_law_there", "_law_tables_here", "_law_pool_here"] [] := F.bindsN fun _ _ _ _ _ _ us hl => match us, hl with | [_, _, _, _], _ => rfl
noncomputable def b__law_side : SF := (sSeq (sIf (tBl (fAp gEq (a2 (fAp (callG 2 F__law_take) (aCons (fVar 0) (aCons (fC (.int 4)) aNil))) (fC (.int 0))))) (sRet (fAp gTupN (aCons (fC (.str "is")) (aCons (fAp gIx (a2 (fVar 3) (fAp (callG 2 F__law_take) (aCons (fVar 0) (aCons (fC (.int 7)) aNil))))) aNil)))) sNx)
  (sSeq (sAsg (fAp (callG 2 F__law_take) (aCons (fVar 0) (aCons (fAp gLen (a1 (fVar 1))) aNil))) (gNm 4))
  (sRet (fAp gTupN (aCons (fC (.str "cell")) (aCons (fVar 4) (aCons (fAp (callG 2 F__law_take) (aCons (fVar 0) (aCons (fAp gIx (a2 (fAp gIx (a2 (fVar 2) (fAp gIx (a2 (fVar 1) (fVar 4))))) (fC (.int 0)))) aNil))) aNil)))))))
noncomputable def F__law_side : FN := runF 5 b__law_side
theorem ok__law_side {P : Program} {w : World} {K : PySem.W.Frag} {mg : Str → Option Value} {base : Heap} {fs : Nat → Addr} {fds : Nat → FuncData} (V : En K mg fs fds) : FnOk P w K mg base CX0 3 (fs 39) (fds 39) ["_law_state", "_law_there", "_law_tables_here", "_law_pool_here"] (spD P w K 4 F__law_side) :=
  okD (N := ["_law_state", "_law_there", "_law_tables_here", "_law_pool_here", "_law_k"]) (ps := ["_law_state", "_law_there", "_law_tables_here", "_law_pool_here"]) (k := 2) (b := b__law_side) V.d__law_side sc__law_side fun cdv A outer s H E hr => (db_cons (ds_if (t_eq hr.u65 (de_call (ok__law_take V) (hr.mono (by decide)) (by rfl) V.g__law_take V.d__law_take.kp (bd__law_take V.d__law_take) (da_cons (de_var 0) (da_cons de_int da_nil))) de_int) (db_one (ds_ret (de_tup (da_cons de_str (da_cons (de_ix (de_var 3) (de_call (ok__law_take V) (hr.mono (by decide)) (by rfl) V.g__law_take V.d__law_take.kp (bd__law_take V.d__law_take) (da_cons (de_var 0) (da_cons de_int da_nil)))) da_nil))))) db_nil)
  (db_cons (ds_set (i := 4) sc__law_side.nd (de_call (ok__law_take V) (hr.mono (by decide)) (by rfl) V.g__law_take V.d__law_take.kp (bd__law_take V.d__law_take) (da_cons (de_var 0) (da_cons (c_len V.n_len (de_var 1)) da_nil))))
  (db_one (ds_ret (de_tup (da_cons de_str (da_cons (de_var 4) (da_cons (de_call (ok__law_take V) (hr.mono (by decide)) (by rfl) V.g__law_take V.d__law_take.kp (bd__law_take V.d__law_take) (da_cons (de_var 0) (da_cons (de_ix (de_ix (de_var 2) (de_ix (de_var 1) (de_var 4))) de_int) da_nil))) da_nil))))))))
/-! _law_tests -/
abbrev s__law_tests : Stmt := top 40
theorem sc__law_tests : FnScope ["_law_state", "_law_there", "_law_tables_here", "_law_pool_here", "_law_tests_here", "_law_k", "_law_word", "_law_left"] ["_law_state", "_law_there", "_law_tables_here", "_law_pool_here"] (defScope s__law_tests) := ⟨rfl, rfl, rfl, by decide +kernel, rfl, by decide +kernel, by decide +kernel⟩
theorem bd__law_tests {K : PySem.W.Frag} {f : Addr} {fd : FuncData} (F : FnT K "_law_tests" s__law_tests f fd) : Binds K fd ["_law_state", "_law_there", "_law_tables_here", "_law_pool_here"] [] := F.bindsN fun _ _ _ _ _ _ us hl => match us, hl with | [_, _, _, _], _ => rfl
noncomputable def b__law_tests : SF := (sSeq (sAsg (fAp gLstN aNil) (gNm 4))
  (sSeq (sFor (iR1 (a1 (fAp gIx (a2 (fAp gLstN (aCons (fC (.int 1)) (aCons (fC (.int 1)) (aCons (fC (.int 2)) (aCons (fC (.int 1)) (aCons (fC (.int 2)) (aCons (fC (.int 3)) aNil))))))) (fAp (callG 2 F__law_take) (aCons (fVar 0) (aCons (fC (.int 6)) aNil))))))) (gNm 5) (sSeq (sAsg (fAp gIx (a2 (fAp gLstN (aCons (fC (.str "same")) (aCons (fC (.str "unlike")) (aCons (fC (.str "less")) aNil)))) (fAp (callG 2 F__law_take) (aCons (fVar 0) (aCons (fC (.int 3)) aNil))))) (gNm 6))
  (sSeq (sAsg (fAp (callG 4 F__law_side) (aCons (fVar 0) (aCons (fVar 1) (aCons (fVar 2) (aCons (fVar 3) aNil))))) (gNm 7))
  (sDrop (fBM okL gAppend (fVar 4) (a1 (fAp gTupN (aCons (fVar 7) (aCons (fVar 6) (aCons (fAp (callG 4 F__law_side) (aCons (fVar 0) (aCons (fVar 1) (aCons (fVar 2) (aCons (fVar 3) aNil))))) aNil))))))))))
  (sRet (fAp gTuple (a1 (fVar 4))))))
noncomputable def F__law_tests : FN := runF 8 b__law_tests
theorem ok__law_tests {P : Program} {w : World} {K : PySem.W.Frag} {mg : Str → Option Value} {base : Heap} {fs : Nat → Addr} {fds : Nat → FuncData} (V : En K mg fs fds) : FnOk P w K mg base CX0 4 (fs 40) (fds 40) ["_law_state", "_law_there", "_law_tables_here", "_law_pool_here"] (spD P w K 4 F__law_tests) :=
  okD (N := ["_law_state", "_law_there", "_law_tables_here", "_law_pool_here", "_law_tests_here", "_law_k", "_law_word", "_law_left"]) (ps := ["_law_state", "_law_there", "_law_tables_here", "_law_pool_here"]) (k := 3) (b := b__law_tests) V.d__law_tests sc__law_tests fun cdv A outer s H E hr => (db_cons (ds_set (i := 4) sc__law_tests.nd (de_lst da_nil))
  (db_cons (ds_for PassesOwn.never (by rfl) (di_r1 (by rfl) V.n_range (de_ix (de_lst (da_cons de_int (da_cons de_int (da_cons de_int (da_cons de_int (da_cons de_int (da_cons de_int da_nil))))))) (de_call (ok__law_take V) (hr.mono (by decide)) (by rfl) V.g__law_take V.d__law_take.kp (bd__law_take V.d__law_take) (da_cons (de_var 0) (da_cons de_int da_nil))))) (dg_name (i := 5) sc__law_tests.nd) (db_cons (ds_set (i := 6) sc__law_tests.nd (de_ix (de_lst (da_cons de_str (da_cons de_str (da_cons de_str da_nil)))) (de_call (ok__law_take V) (hr.mono (by decide)) (by rfl) V.g__law_take V.d__law_take.kp (bd__law_take V.d__law_take) (da_cons (de_var 0) (da_cons de_int da_nil)))))
  (db_cons (ds_set (i := 7) sc__law_tests.nd (de_call (ok__law_side V) (hr.mono (by decide)) (by rfl) V.g__law_side V.d__law_side.kp (bd__law_side V.d__law_side) (da_cons (de_var 0) (da_cons (de_var 1) (da_cons (de_var 2) (da_cons (de_var 3) da_nil))))))
  (db_one (ds_expr (de_append (de_var 4) (de_tup (da_cons (de_var 7) (da_cons (de_var 6) (da_cons (de_call (ok__law_side V) (hr.mono (by decide)) (by rfl) V.g__law_side V.d__law_side.kp (bd__law_side V.d__law_side) (da_cons (de_var 0) (da_cons (de_var 1) (da_cons (de_var 2) (da_cons (de_var 3) da_nil))))) da_nil))))))))))
  (db_one (ds_ret (c_tuple V.n_tuple (de_var 4))))))
/-! _law_rule -/
abbrev s__law_rule : Stmt := top 41
theorem sc__law_rule : FnScope ["_law_cell", "_law_tables_here", "_law_pool_here", "_law_state", "_law_kind", "_law_t", "_law_u", "_law_many", "_law_columns", "_law_k"] ["_law_cell", "_law_tables_here", "_law_pool_here"] (defScope s__law_rule) := ⟨rfl, rfl, rfl, by decide +kernel, rfl, by decide +kernel, by decide +kernel⟩
theorem bd__law_rule {K : PySem.W.Frag} {f : Addr} {fd : FuncData} (F : FnT K "_law_rule" s__law_rule f fd) : Binds K fd ["_law_cell", "_law_tables_here", "_law_pool_here"] [] := F.bindsN fun _ _ _ _ _ _ us hl => match us, hl with | [_, _, _], _ => rfl
noncomputable def b__law_rule : SF := (sSeq (sAsg (fAp gLstN (aCons (fAp (callG 2 F__law_mix) (aCons (fVar 0) (aCons (fC (.int 2147483543)) aNil))) aNil)) (gNm 3))
  (sSeq (sAsg (fAp (callG 2 F__law_take) (aCons (fVar 3) (aCons (fC (.int 4)) aNil))) (gNm 4))
  (sSeq (sAsg (fAp (callG 2 F__law_take) (aCons (fVar 3) (aCons (fAp gLen (a1 (fVar 1))) aNil))) (gNm 5))
  (sSeq (sAsg (fAp (callG 2 F__law_take) (aCons (fVar 3) (aCons (fAp gLen (a1 (fVar 1))) aNil))) (gNm 6))
  (sSeq (sIf (tBl (fAp gEq (a2 (fVar 4) (fC (.int 0))))) (sRet (fAp gTupN (aCons (fC (.str "never")) (aCons (fVar 5) (aCons (fAp (callG 4 F__law_tests) (aCons (fVar 3) (aCons (fAp gTupN (aCons (fVar 5) aNil)) (aCons (fVar 1) (aCons (fVar 2) aNil))))) aNil))))) sNx)
  (sSeq (sIf (tBl (fAp gLt (a2 (fVar 4) (fC (.int 3))))) (sRet (fAp gTupN (aCons (fC (.str "apart")) (aCons (fVar 5) (aCons (fVar 6) (aCons (fAp (callG 4 F__law_tests) (aCons (fVar 3) (aCons (fAp gTupN (aCons (fVar 5) (aCons (fVar 6) aNil))) (aCons (fVar 1) (aCons (fVar 2) aNil))))) aNil)))))) sNx)
  (sSeq (sAsg (fAp gIx (a2 (fAp gLstN (aCons (fC (.int 1)) (aCons (fC (.int 2)) (aCons (fC (.int 1)) (aCons (fC (.int 3)) (aCons (fC (.int 1)) aNil)))))) (fAp (callG 2 F__law_take) (aCons (fVar 3) (aCons (fC (.int 5)) aNil))))) (gNm 7))
  (sSeq (sAsg (fAp gTuple (a1 (fComp (iR1 (a1 (fVar 7))) (gNm 9) tYesF (fAp (callG 2 F__law_take) (aCons (fVar 3) (aCons (fAp gIx (a2 (fAp gIx (a2 (fVar 1) (fVar 5))) (fC (.int 0)))) aNil))) [9]))) (gNm 8))
  (sRet (fAp gTupN (aCons (fC (.str "tie")) (aCons (fVar 5) (aCons (fVar 8) (aCons (fVar 6) (aCons (fAp gTuple (a1 (fComp (iR1 (a1 (fVar 7))) (gNm 9) tYesF (fAp (callG 2 F__law_take) (aCons (fVar 3) (aCons (fAp gIx (a2 (fAp gIx (a2 (fVar 1) (fVar 6))) (fC (.int 0)))) aNil))) [9]))) aNil)))))))))))))))
noncomputable def F__law_rule : FN := runF 10 b__law_rule
theorem ok__law_rule {P : Program} {w : World} {K : PySem.W.Frag} {mg : Str → Option Value} {base : Heap} {fs : Nat → Addr} {fds : Nat → FuncData} (V : En K mg fs fds) : FnOk P w K mg base CX0 5 (fs 41) (fds 41) ["_law_cell", "_law_tables_here", "_law_pool_here"] (spD P w K 3 F__law_rule) :=
  okD (N := ["_law_cell", "_law_tables_here", "_law_pool_here", "_law_state", "_law_kind", "_law_t", "_law_u", "_law_many", "_law_columns", "_law_k"]) (ps := ["_law_cell", "_law_tables_here", "_law_pool_here"]) (k := 4) (b := b__law_rule) V.d__law_rule sc__law_rule fun cdv A outer s H E hr => (db_cons (ds_set (i := 3) sc__law_rule.nd (de_lst (da_cons (de_call (ok__law_mix V) (hr.mono (by decide)) (by rfl) V.g__law_mix V.d__law_mix.kp (bd__law_mix V.d__law_mix) (da_cons (de_var 0) (da_cons de_int da_nil))) da_nil)))
  (db_cons (ds_set (i := 4) sc__law_rule.nd (de_call (ok__law_take V) (hr.mono (by decide)) (by rfl) V.g__law_take V.d__law_take.kp (bd__law_take V.d__law_take) (da_cons (de_var 3) (da_cons de_int da_nil))))
  (db_cons (ds_set (i := 5) sc__law_rule.nd (de_call (ok__law_take V) (hr.mono (by decide)) (by rfl) V.g__law_take V.d__law_take.kp (bd__law_take V.d__law_take) (da_cons (de_var 3) (da_cons (c_len V.n_len (de_var 1)) da_nil))))
  (db_cons (ds_set (i := 6) sc__law_rule.nd (de_call (ok__law_take V) (hr.mono (by decide)) (by rfl) V.g__law_take V.d__law_take.kp (bd__law_take V.d__law_take) (da_cons (de_var 3) (da_cons (c_len V.n_len (de_var 1)) da_nil))))
  (db_cons (ds_if (t_eq hr.u65 (de_var 4) de_int) (db_one (ds_ret (de_tup (da_cons de_str (da_cons (de_var 5) (da_cons (de_call (ok__law_tests V) (hr.mono (by decide)) (by rfl) V.g__law_tests V.d__law_tests.kp (bd__law_tests V.d__law_tests) (da_cons (de_var 3) (da_cons (de_tup (da_cons (de_var 5) da_nil)) (da_cons (de_var 1) (da_cons (de_var 2) da_nil))))) da_nil)))))) db_nil)
  (db_cons (ds_if (t_lt (de_var 4) de_int) (db_one (ds_ret (de_tup (da_cons de_str (da_cons (de_var 5) (da_cons (de_var 6) (da_cons (de_call (ok__law_tests V) (hr.mono (by decide)) (by rfl) V.g__law_tests V.d__law_tests.kp (bd__law_tests V.d__law_tests) (da_cons (de_var 3) (da_cons (de_tup (da_cons (de_var 5) (da_cons (de_var 6) da_nil))) (da_cons (de_var 1) (da_cons (de_var 2) da_nil))))) da_nil))))))) db_nil)
  (db_cons (ds_set (i := 7) sc__law_rule.nd (de_ix (de_lst (da_cons de_int (da_cons de_int (da_cons de_int (da_cons de_int (da_cons de_int da_nil)))))) (de_call (ok__law_take V) (hr.mono (by decide)) (by rfl) V.g__law_take V.d__law_take.kp (bd__law_take V.d__law_take) (da_cons (de_var 3) (da_cons de_int da_nil)))))
  (db_cons (ds_set (i := 8) sc__law_rule.nd (c_tuple V.n_tuple (de_comp [("_law_k", 9)] (by rfl) sc__law_rule.nd (di_r1 (by rfl) V.n_range (de_var 7)) (by kernel_rfl) (fun _ _ _ _ _ => ⟨(dg_name (i := 9) sc__law_rule.nd), dts_nil, (de_call (ok__law_take V) (hr.mono (by decide)) (by rfl) V.g__law_take V.d__law_take.kp (bd__law_take V.d__law_take) (da_cons (de_var 3) (da_cons (de_ix (de_ix (de_var 1) (de_var 5)) de_int) da_nil)))⟩) (by decide))))
  (db_one (ds_ret (de_tup (da_cons de_str (da_cons (de_var 5) (da_cons (de_var 8) (da_cons (de_var 6) (da_cons (c_tuple V.n_tuple (de_comp [("_law_k", 9)] (by rfl) sc__law_rule.nd (di_r1 (by rfl) V.n_range (de_var 7)) (by kernel_rfl) (fun _ _ _ _ _ => ⟨(dg_name (i := 9) sc__law_rule.nd), dts_nil, (de_call (ok__law_take V) (hr.mono (by decide)) (by rfl) V.g__law_take V.d__law_take.kp (bd__law_take V.d__law_take) (da_cons (de_var 3) (da_cons (de_ix (de_ix (de_var 1) (de_var 6)) de_int) da_nil)))⟩) (by decide))) da_nil))))))))))))))))
/-! law -/
abbrev s_law : Stmt := top 42
theorem sc_law : FnScope ["_law_script", "_law_pool_here", "_law_tables_here", "_law_head", "_law_rules", "_law_k", "_law_rows_here", "_law_more", "_law_j", "_law_due", "_law_handed", "_law_book"] ["_law_script"] (defScope s_law) := ⟨rfl, rfl, rfl, by decide +kernel, rfl, by decide +kernel, by decide +kernel⟩
theorem bd_law {K : PySem.W.Frag} {f : Addr} {fd : FuncData} (F : FnT K "law" s_law f fd) : Binds K fd ["_law_script"] [] := F.bindsN fun _ _ _ _ _ _ us hl => match us, hl with | [_], _ => rfl
noncomputable def b_law : SF := (sSeq (sAsg (fAp (callG 1 F__law_pool) (aCons (fAp (callG 2 F__law_cell_at) (aCons (fVar 0) (aCons (fC (.int 0)) aNil))) aNil)) (gNm 1))
  (sSeq (sAsg (fAp (callG 2 F__law_tables) (aCons (fAp (callG 2 F__law_cell_at) (aCons (fVar 0) (aCons (fC (.int 1)) aNil))) (aCons (fC (.int 4)) aNil))) (gNm 2))
  (sSeq (sAsg (fAp (callG 2 F__law_cell_at) (aCons (fVar 0) (aCons (fC (.int 2)) aNil))) (gNm 3))
  (sSeq (sAsg (fAp gTuple (a1 (fComp (iR1 (a1 (fAp gMod (a2 (fVar 3) (fC (.int 7)))))) (gNm 5) tYesF (fAp (callG 3 F__law_rule) (aCons (fAp (callG 2 F__law_cell_at) (aCons (fVar 0) (aCons (fAp gAdd (a2 (fC (.int 3)) (fVar 5))) aNil))) (aCons (fVar 2) (aCons (fVar 1) aNil)))) [5]))) (gNm 4))
  (sSeq (sAsg (fAp (callG 4 F__law_rows) (aCons (fAp gSlAB (a3 (fVar 0) (fC (.int 9)) (fC (.int 59)))) (aCons (fVar 2) (aCons (fVar 1) (aCons (fAp gAdd (a2 (fC (.int 2)) (fAp gMod (a2 (fAp gFdiv (a2 (fVar 3) (fC (.int 7)))) (fC (.int 6)))))) aNil))))) (gNm 6))
  (sSeq (sIf (tBl (fAp gEq (a2 (fAp gMod (a2 (fAp gFdiv (a2 (fVar 3) (fC (.int 84)))) (fC (.int 8)))) (fC (.int 5))))) (sSeq (sAsg (fAp gTuple (a1 (fComp (iR1 (a1 (fAp gSub (a2 (fAp gIx (a2 (fAp gIx (a2 (fVar 2) (fC (.int 0)))) (fC (.int 0)))) (fC (.int 1)))))) (gNm 8) tYesF (fAp gIx (a2 (fVar 1) (fAp gMod (a2 (fAp gAdd (a2 (fAp gFdiv (a2 (fVar 3) (fC (.int 672)))) (fVar 8))) (fC (.int 7)))))) [8]))) (gNm 7))
  (sAsg (fAp gTuple (a1 (fComp (iR1 (a1 (fC (.int 60)))) (gNm 5) tYesF (fAp gTupN (aCons (fC (.int 0)) (aCons (fAp gAdd (a2 (fAp gTupN (aCons (fAp gSub (a2 (fVar 5) (fC (.int 30)))) aNil)) (fVar 7))) aNil))) [5]))) (gNm 6))) sNx)
  (sSeq (sAsg (fAp gTupN (aCons (fVar 2) (aCons (fVar 4) (aCons (fVar 6) aNil)))) (gNm 9))
  (sSeq (sAsg (fAp gLstN (aCons (fAp gList (a1 (fVar 2))) (aCons (fAp gList (a1 (fVar 4))) (aCons (fAp gList (a1 (fVar 6))) aNil)))) (gNm 10))
  (sSeq (sIf (tBl (fAp gEq (a2 (fAp gMod (a2 (fAp gFdiv (a2 (fVar 3) (fC (.int 42)))) (fC (.int 2)))) (fC (.int 1))))) (sAsg (fAp (callG 3 F_book_of) (aCons (fVar 2) (aCons (fVar 4) (aCons (fVar 6) aNil)))) (gNm 11)) (sAsg (fAp (callG 3 F_book_of) (aCons (fAp gIx (a2 (fVar 10) (fC (.int 0)))) (aCons (fAp gIx (a2 (fVar 10) (fC (.int 1)))) (aCons (fAp gIx (a2 (fVar 10) (fC (.int 2)))) aNil)))) (gNm 11)))
  (sSeq (sIf (tOrF (tNotF (tBl (fAp (callG 2 (F__law_alike 8)) (aCons (fVar 11) (aCons (fVar 9) aNil))))) (tBl (fAp gNe (a2 (fVar 10) (fAp gLstN (aCons (fAp gList (a1 (fVar 2))) (aCons (fAp gList (a1 (fVar 4))) (aCons (fAp gList (a1 (fVar 6))) aNil)))))))) (sRet (fC (.bl false))) sNx)
  (sSeq (sDrop (fBM okL gAppend (fAp gIx (a2 (fVar 10) (fC (.int 0)))) (a1 (fAp gTupN (aCons (fC (.int 1)) (aCons (fC (.int 1)) aNil))))))
  (sSeq (sDrop (fBM okL gClear (fAp gIx (a2 (fVar 10) (fC (.int 1)))) aNil))
  (sSeq (sDrop (fBM okL gReverse (fAp gIx (a2 (fVar 10) (fC (.int 2)))) aNil))
  (sRet (fAnd (fAp (callG 2 (F__law_alike 8)) (aCons (fVar 11) (aCons (fVar 9) aNil))) (fAp (callG 2 (F__law_alike 8)) (aCons (fAp (callG 3 F_book_of) (aCons (fAp gIx (a2 (fVar 11) (fC (.int 0)))) (aCons (fAp gIx (a2 (fVar 11) (fC (.int 1)))) (aCons (fAp gIx (a2 (fVar 11) (fC (.int 2)))) aNil)))) (aCons (fVar 9) aNil))))))))))))))))))
noncomputable def F_law : FN := runF 12 b_law
theorem ok_law {P : Program} {w : World} {K : PySem.W.Frag} {mg : Str → Option Value} {base : Heap} {fs : Nat → Addr} {fds : Nat → FuncData} (V : En K mg fs fds) : FnOk P w K mg base CX0 11 (fs 42) (fds 42) ["_law_script"] (spD P w K 1 F_law) :=
  okD (N := ["_law_script", "_law_pool_here", "_law_tables_here", "_law_head", "_law_rules", "_law_k", "_law_rows_here", "_law_more", "_law_j", "_law_due", "_law_handed", "_law_book"]) (ps := ["_law_script"]) (k := 10) (b := b_law) V.d_law sc_law fun cdv A outer s H E hr => (db_cons (ds_set (i := 1) sc_law.nd (de_call (ok__law_pool V) (hr.mono (by decide)) (by rfl) V.g__law_pool V.d__law_pool.kp (bd__law_pool V.d__law_pool) (da_cons (de_call (ok__law_cell_at V) (hr.mono (by decide)) (by rfl) V.g__law_cell_at V.d__law_cell_at.kp (bd__law_cell_at V.d__law_cell_at) (da_cons (de_var 0) (da_cons de_int da_nil))) da_nil)))
  (db_cons (ds_set (i := 2) sc_law.nd (de_call (ok__law_tables V) (hr.mono (by decide)) (by rfl) V.g__law_tables V.d__law_tables.kp (bd__law_tables V.d__law_tables) (da_cons (de_call (ok__law_cell_at V) (hr.mono (by decide)) (by rfl) V.g__law_cell_at V.d__law_cell_at.kp (bd__law_cell_at V.d__law_cell_at) (da_cons (de_var 0) (da_cons de_int da_nil))) (da_cons de_int da_nil))))
  (db_cons (ds_set (i := 3) sc_law.nd (de_call (ok__law_cell_at V) (hr.mono (by decide)) (by rfl) V.g__law_cell_at V.d__law_cell_at.kp (bd__law_cell_at V.d__law_cell_at) (da_cons (de_var 0) (da_cons de_int da_nil))))
  (db_cons (ds_set (i := 4) sc_law.nd (c_tuple V.n_tuple (de_comp [("_law_k", 5)] (by rfl) sc_law.nd (di_r1 (by rfl) V.n_range (e_mod (de_var 3) de_int)) (by kernel_rfl) (fun _ _ _ _ _ => ⟨(dg_name (i := 5) sc_law.nd), dts_nil, (de_call (ok__law_rule V) (hr.mono (by decide)) (by rfl) V.g__law_rule V.d__law_rule.kp (bd__law_rule V.d__law_rule) (da_cons (de_call (ok__law_cell_at V) (hr.mono (by decide)) (by rfl) V.g__law_cell_at V.d__law_cell_at.kp (bd__law_cell_at V.d__law_cell_at) (da_cons (de_var 0) (da_cons (e_add de_int (de_var 5)) da_nil))) (da_cons (de_var 2) (da_cons (de_var 1) da_nil))))⟩) (by decide))))
  (db_cons (ds_set (i := 6) sc_law.nd (de_call (ok__law_rows V) (hr.mono (by decide)) (by rfl) V.g__law_rows V.d__law_rows.kp (bd__law_rows V.d__law_rows) (da_cons (de_slAB (de_var 0) de_int de_int) (da_cons (de_var 2) (da_cons (de_var 1) (da_cons (e_add de_int (e_mod (e_fdiv (de_var 3) de_int) de_int)) da_nil))))))
  (db_cons (ds_if (t_eq hr.u65 (e_mod (e_fdiv (de_var 3) de_int) de_int) de_int) (db_cons (ds_set (i := 7) sc_law.nd (c_tuple V.n_tuple (de_comp [("_law_j", 8)] (by rfl) sc_law.nd (di_r1 (by rfl) V.n_range (e_sub (de_ix (de_ix (de_var 2) de_int) de_int) de_int)) (by kernel_rfl) (fun _ _ _ _ _ => ⟨(dg_name (i := 8) sc_law.nd), dts_nil, (de_ix (de_var 1) (e_mod (e_add (e_fdiv (de_var 3) de_int) (de_var 8)) de_int))⟩) (by decide))))
  (db_one (ds_set (i := 6) sc_law.nd (c_tuple V.n_tuple (de_comp [("_law_k", 5)] (by rfl) sc_law.nd (di_r1 (by rfl) V.n_range de_int) (by kernel_rfl) (fun _ _ _ _ _ => ⟨(dg_name (i := 5) sc_law.nd), dts_nil, (de_tup (da_cons de_int (da_cons (e_add (de_tup (da_cons (e_sub (de_var 5) de_int) da_nil)) (de_var 7)) da_nil)))⟩) (by decide)))))) db_nil)
  (db_cons (ds_set (i := 9) sc_law.nd (de_tup (da_cons (de_var 2) (da_cons (de_var 4) (da_cons (de_var 6) da_nil)))))
  (db_cons (ds_set (i := 10) sc_law.nd (de_lst (da_cons (c_list V.n_list (de_var 2)) (da_cons (c_list V.n_list (de_var 4)) (da_cons (c_list V.n_list (de_var 6)) da_nil)))))
  (db_cons (ds_if (t_eq hr.u65 (e_mod (e_fdiv (de_var 3) de_int) de_int) de_int) (db_one (ds_set (i := 11) sc_law.nd (de_call (ok_book_of V) (hr.mono (by decide)) (by rfl) V.g_book_of V.d_book_of.kp (bd_book_of V.d_book_of) (da_cons (de_var 2) (da_cons (de_var 4) (da_cons (de_var 6) da_nil)))))) (db_one (ds_set (i := 11) sc_law.nd (de_call (ok_book_of V) (hr.mono (by decide)) (by rfl) V.g_book_of V.d_book_of.kp (bd_book_of V.d_book_of) (da_cons (de_ix (de_var 10) de_int) (da_cons (de_ix (de_var 10) de_int) (da_cons (de_ix (de_var 10) de_int) da_nil)))))))
  (db_cons (ds_if (dt_w (dw_or (dt_not (dt_val (de_call (ok__law_alike V 8) (hr.mono (by decide)) (by rfl) V.g__law_alike V.d__law_alike.kp (bd__law_alike V.d__law_alike) (da_cons (de_var 11) (da_cons (de_var 9) da_nil))))) (dw_or1 (t_ne hr.u65 (de_var 10) (de_lst (da_cons (c_list V.n_list (de_var 2)) (da_cons (c_list V.n_list (de_var 4)) (da_cons (c_list V.n_list (de_var 6)) da_nil)))))))) (db_one (ds_ret de_bl)) db_nil)
  (db_cons (ds_expr (de_append (de_ix (de_var 10) de_int) (de_tup (da_cons de_int (da_cons de_int da_nil)))))
  (db_cons (ds_expr (de_clear (de_ix (de_var 10) de_int)))
  (db_cons (ds_expr (de_reverse (de_ix (de_var 10) de_int)))
  (db_one (ds_ret (de_and (de_call (ok__law_alike V 8) (hr.mono (by decide)) (by rfl) V.g__law_alike V.d__law_alike.kp (bd__law_alike V.d__law_alike) (da_cons (de_var 11) (da_cons (de_var 9) da_nil))) (de_one (de_call (ok__law_alike V 8) (hr.mono (by decide)) (by rfl) V.g__law_alike V.d__law_alike.kp (bd__law_alike V.d__law_alike) (da_cons (de_call (ok_book_of V) (hr.mono (by decide)) (by rfl) V.g_book_of V.d_book_of.kp (bd_book_of V.d_book_of) (da_cons (de_ix (de_var 11) de_int) (da_cons (de_ix (de_var 11) de_int) (da_cons (de_ix (de_var 11) de_int) da_nil)))) (da_cons (de_var 9) da_nil))))))))))))))))))))
end G06
set_option Elab.async false
set_option linter.all false
set_option autoImplicit false
set_option maxRecDepth 100000
set_option maxHeartbeats 1000000
namespace G06
open PySem PySem.Spec PyProof.Rows L2 M3
/-! ### sizes -/
theorem natAbs_lt {i : Int} {k : Nat} (h1 : -(2 ^ k : Nat) < i) (h2 : i < (2 ^ k : Nat)) : i.natAbs < 2 ^ k := by omega
theorem mul64 {i j : Int} (h1 : i.natAbs < 2 ^ 250) (h2 : j.natAbs < 2 ^ 250) : mulOk i j := by
  have h : (2 : Nat) ^ 250 ≤ 2 ^ 400000 := Nat.pow_le_pow_right (by decide) (by decide)
  exact ⟨Nat.lt_of_lt_of_le h1 h, Nat.lt_of_lt_of_le h2 h⟩
theorem div_small {i j : Int} (h0 : 0 < j) (h1 : j.natAbs < 2 ^ 250) : divOk i j := by
  have h : (2 : Nat) ^ 250 ≤ 2 ^ 9000 := Nat.pow_le_pow_right (by decide) (by decide)
  exact ⟨h0, Nat.lt_of_lt_of_le h1 h⟩
theorem pow_small {i j : Int} (h0 : 0 ≤ j) (h1 : j ≤ 1000) (h2 : i.natAbs < 2 ^ 250) : powOk i j := by
  have h : (2 : Nat) ^ 250 ≤ 2 ^ 10000 := Nat.pow_le_pow_right (by decide) (by decide)
  exact ⟨h0, h1, Nat.lt_of_lt_of_le h2 h⟩
theorem rngD_get {lo : Int} {n i : Nat} {d : D} (h : (rngD lo n)[i]? = some d) : i < n ∧ d = .int (lo + (i : Int)) := by
  unfold rngD at h
  rw [List.getElem?_map] at h
  obtain ⟨c, ec, rfl⟩ := Option.map_eq_some_iff.mp h
  obtain ⟨h1, h2⟩ := List.getElem?_eq_some_iff.mp ec
  have hin : i < n := by simpa using h1
  have hc : i = c := by simpa using h2
  subst hc
  exact ⟨hin, rfl⟩
theorem Wp.eq {α : Type} {x : Option α} {a : α} (h : Wp x fun r => r = a) : x = some a := by obtain ⟨b, e, rfl⟩ := h; exact e
/-! ### mix -/
theorem mix_ok (c p : Int) (h0 : 0 < p) (hp : p < 4294967296) (m : Mem) : ∃ n, 0 ≤ n ∧ F__law_mix [.int c, .int p] m = some (.int n, m) := by
  have key : Wp (F__law_mix [.int c, .int p] m) fun r => ∃ n, 0 ≤ n ∧ r = (.int n, m) := by
    unfold F__law_mix b__law_mix
    simp only [w_runF, w_sSeq, w_sIf, w_tBl, w_tNot, w_tAnd, w_tOr, w_tYes, w_fAnd, w_fOr, w_fNot, w_fChain, w_fAp, w_fBM, a2, a1, a3, w_aCons, w_aNil, w_fC, w_sNx, w_sNo, w_sRet, w_sAsg, w_sDrop, w_sSetI, w_gNm, w_add, w_sub, w_mul, w_fdiv, w_mod, w_pow, w_lt, w_le, w_gt, w_ge, w_bB, w_eqI, w_neI, w_eqS, w_neS, w_isB, w_neg, w_isN, w_isBb, w_isi, w_tupN, w_lstN, w_finI, w_finB, w_finS, w_finN, w_impI, w_impS, w_impB, w_impR, w_var0, w_varS, w_sFor, w_iR1, w_isI, w_some, w_lenS, w_lenT, w_lenF, w_lenL, w_lenR, w_addSS, w_addTT, w_ixStr, w_ixTup, w_ixFl, w_ixLst, w_ixRef, w_slBS, w_slAS, w_slBT, w_slAT, w_slABF, w_tupleT, w_tupleL, w_tupleF, w_tupleR, w_listT, w_listF, w_listL, w_listR, w_iSeq, w_seqT, w_seqF, w_seqS, w_seqR, w_iEn, w_en1, w_sqT, w_iZp, w_fComp, imps_nil, imps_cons, at_1_0, at_2_0, at_2_1, at_3_0, at_3_1, at_3_2, at_4_0, at_4_1, at_4_2, at_4_3, at_5_0, at_5_1, at_5_2, at_5_3, at_5_4, startD, List.map, List.replicate, List.length, List.cons_append, List.nil_append, List.set_cons_succ, List.set_cons_zero, Nat.add_sub_cancel, Nat.reduceAdd, Nat.reduceSub, Nat.sub_self, Nat.zero_add]
    refine ⟨by decide, fun _ => ⟨div_small (by decide) (by decide), pow_small (by decide) (by decide) (by decide), pow_small (by decide) (by decide) (by decide), by decide, _, Int.emod_nonneg _ (by decide), rfl⟩, fun _ => ?_⟩
    have b1 : 0 ≤ c % 2147483629 ∧ c % 2147483629 < 2147483629 := ⟨Int.emod_nonneg _ (by decide), Int.emod_lt_of_pos _ (by decide)⟩
    generalize c % 2147483629 = x at b1
    have b2 : 0 ≤ (x + 7) * 48271 % p ∧ (x + 7) * 48271 % p < p := ⟨Int.emod_nonneg _ (by omega), Int.emod_lt_of_pos _ h0⟩
    refine ⟨by decide, mul64 (by omega) (by decide), h0, ?_⟩
    generalize (x + 7) * 48271 % p = y at b2
    have b3 : 0 ≤ y * y % 2147483579 ∧ y * y % 2147483579 < 2147483579 := ⟨Int.emod_nonneg _ (by decide), Int.emod_lt_of_pos _ (by decide)⟩
    refine ⟨mul64 (by omega) (by omega), by decide, mul64 (by omega) (by decide), _, ?_, rfl⟩
    omega
  obtain ⟨_, e, n, h, rfl⟩ := key
  exact ⟨n, h, e⟩
/-! ### names -/
abbrev LET : Str := "abcdefghijklmnopqrstuvwxyz"
theorem let_codes : LET.cps.toList = [97, 98, 99, 100, 101, 102, 103, 104, 105, 106, 107, 108, 109, 110, 111, 112, 113, 114, 115, 116, 117, 118, 119, 120, 121, 122] := by decide +kernel
theorem let_len : LET.length = 26 := by decide +kernel
/-- all of its signs are letters -/
def ltr (x : Str) : Prop := ∀ c ∈ x.cps.toList, c ∈ LET.cps.toList
def nmOk (x : Str) : Prop := 1 ≤ x.length ∧ x.length ≤ 8 ∧ ltr x
theorem atI_nn {α : Type} {xs : List α} {i : Int} (h0 : 0 ≤ i) (h1 : i < xs.length) : ∃ a, xs[i.toNat]? = some a ∧ atI xs i = some a := by
  have hl : i.toNat < xs.length := by omega
  refine ⟨xs[i.toNat], List.getElem?_eq_getElem hl, ?_⟩
  unfold atI ixN
  rw [if_pos h0, if_pos h1]
  exact List.getElem?_eq_getElem hl
theorem name_ok (c : Int) (m : Mem) : ∃ x, nmOk x ∧ F__law_name [.int c] m = some (.str x, m) := by
  have key : Wp (F__law_name [.int c] m) fun r => ∃ x, nmOk x ∧ r = (.str x, m) := by
    unfold F__law_name b__law_name
    simp only [w_runF, w_sSeq, w_sIf, w_tBl, w_tNot, w_tAnd, w_tOr, w_tYes, w_fAnd, w_fOr, w_fNot, w_fChain, w_fAp, w_fBM, a2, a1, a3, w_aCons, w_aNil, w_fC, w_sNx, w_sNo, w_sRet, w_sAsg, w_sDrop, w_sSetI, w_gNm, w_add, w_sub, w_mul, w_fdiv, w_mod, w_pow, w_lt, w_le, w_gt, w_ge, w_bB, w_eqI, w_neI, w_eqS, w_neS, w_isB, w_neg, w_isN, w_isBb, w_isi, w_tupN, w_lstN, w_finI, w_finB, w_finS, w_finN, w_impI, w_impS, w_impB, w_impR, w_var0, w_varS, w_sFor, w_iR1, w_isI, w_some, w_lenS, w_lenT, w_lenF, w_lenL, w_lenR, w_addSS, w_addTT, w_ixStr, w_ixTup, w_ixFl, w_ixLst, w_ixRef, w_slBS, w_slAS, w_slBT, w_slAT, w_slABF, w_tupleT, w_tupleL, w_tupleF, w_tupleR, w_listT, w_listF, w_listL, w_listR, w_iSeq, w_seqT, w_seqF, w_seqS, w_seqR, w_iEn, w_en1, w_sqT, w_iZp, w_fComp, imps_nil, imps_cons, at_1_0, at_2_0, at_2_1, at_3_0, at_3_1, at_3_2, at_4_0, at_4_1, at_4_2, at_4_3, at_5_0, at_5_1, at_5_2, at_5_3, at_5_4, startD, List.map, List.replicate, List.length, List.cons_append, List.nil_append, List.set_cons_succ, List.set_cons_zero, Nat.add_sub_cancel, Nat.reduceAdd, Nat.reduceSub, Nat.sub_self, Nat.zero_add]
    have b1 : 0 ≤ c % 8 ∧ c % 8 < 8 := ⟨Int.emod_nonneg _ (by decide), Int.emod_lt_of_pos _ (by decide)⟩
    refine ⟨div_small (by decide) (by decide), by decide, ?_, by omega, ?_⟩
    · unfold rOk; simp; omega
    refine Wp.for (fun k l m' => m' = m ∧ ∃ n x v, l = [some (.int c), some (.str LET), some (.int n), some (.str x), v] ∧ x.length = k ∧ ltr x) 0 ⟨rfl, c / 8, _, none, rfl, rfl, by intro c h; cases h⟩ ?_ ?_
    · rintro i d l m' hd ⟨rfl, n, x, v, rfl, hx, hlx⟩
      obtain ⟨hi, rfl⟩ := rngD_get hd
      simp only [w_runF, w_sSeq, w_sIf, w_tBl, w_tNot, w_tAnd, w_tOr, w_tYes, w_fAnd, w_fOr, w_fNot, w_fChain, w_fAp, w_fBM, a2, a1, a3, w_aCons, w_aNil, w_fC, w_sNx, w_sNo, w_sRet, w_sAsg, w_sDrop, w_sSetI, w_gNm, w_add, w_sub, w_mul, w_fdiv, w_mod, w_pow, w_lt, w_le, w_gt, w_ge, w_bB, w_eqI, w_neI, w_eqS, w_neS, w_isB, w_neg, w_isN, w_isBb, w_isi, w_tupN, w_lstN, w_finI, w_finB, w_finS, w_finN, w_impI, w_impS, w_impB, w_impR, w_var0, w_varS, w_sFor, w_iR1, w_isI, w_some, w_lenS, w_lenT, w_lenF, w_lenL, w_lenR, w_addSS, w_addTT, w_ixStr, w_ixTup, w_ixFl, w_ixLst, w_ixRef, w_slBS, w_slAS, w_slBT, w_slAT, w_slABF, w_tupleT, w_tupleL, w_tupleF, w_tupleR, w_listT, w_listF, w_listL, w_listR, w_iSeq, w_seqT, w_seqF, w_seqS, w_seqR, w_iEn, w_en1, w_sqT, w_iZp, w_fComp, imps_nil, imps_cons, at_1_0, at_2_0, at_2_1, at_3_0, at_3_1, at_3_2, at_4_0, at_4_1, at_4_2, at_4_3, at_5_0, at_5_1, at_5_2, at_5_3, at_5_4, startD, List.map, List.replicate, List.length, List.cons_append, List.nil_append, List.set_cons_succ, List.set_cons_zero, Nat.add_sub_cancel, Nat.reduceAdd, Nat.reduceSub, Nat.sub_self, Nat.zero_add]
      have b2 : 0 ≤ n % 26 ∧ n % 26 < 26 := ⟨Int.emod_nonneg _ (by decide), Int.emod_lt_of_pos _ (by decide)⟩
      refine ⟨by decide, (by rw [let_len]; decide), Wp.at b2.1 (by rw [Array.length_toList]; exact b2.2) fun ch e1 => ?_⟩
      try simp only [w_runF, w_sSeq, w_sIf, w_tBl, w_tNot, w_tAnd, w_tOr, w_tYes, w_fAnd, w_fOr, w_fNot, w_fChain, w_fAp, w_fBM, a2, a1, a3, w_aCons, w_aNil, w_fC, w_sNx, w_sNo, w_sRet, w_sAsg, w_sDrop, w_sSetI, w_gNm, w_add, w_sub, w_mul, w_fdiv, w_mod, w_pow, w_lt, w_le, w_gt, w_ge, w_bB, w_eqI, w_neI, w_eqS, w_neS, w_isB, w_neg, w_isN, w_isBb, w_isi, w_tupN, w_lstN, w_finI, w_finB, w_finS, w_finN, w_impI, w_impS, w_impB, w_impR, w_var0, w_varS, w_sFor, w_iR1, w_isI, w_some, w_lenS, w_lenT, w_lenF, w_lenL, w_lenR, w_addSS, w_addTT, w_ixStr, w_ixTup, w_ixFl, w_ixLst, w_ixRef, w_slBS, w_slAS, w_slBT, w_slAT, w_slABF, w_tupleT, w_tupleL, w_tupleF, w_tupleR, w_listT, w_listF, w_listL, w_listR, w_iSeq, w_seqT, w_seqF, w_seqS, w_seqR, w_iEn, w_en1, w_sqT, w_iZp, w_fComp, imps_nil, imps_cons, at_1_0, at_2_0, at_2_1, at_3_0, at_3_1, at_3_2, at_4_0, at_4_1, at_4_2, at_4_3, at_5_0, at_5_1, at_5_2, at_5_3, at_5_4, startD, List.map, List.replicate, List.length, List.cons_append, List.nil_append, List.set_cons_succ, List.set_cons_zero, Nat.add_sub_cancel, Nat.reduceAdd, Nat.reduceSub, Nat.sub_self, Nat.zero_add]
      refine ⟨?_, div_small (by decide) (by decide), okNil, trivial, _, _, _, rfl, ?_, ?_⟩
      · rw [hx]; show 0 + i + 1 ≤ _; omega
      · rw [PySem.Str.length_append, hx]
        show 0 + i + 1 = _
        omega
      · intro c' hc'
        rw [PySem.Str.cps_append, Array.toList_append] at hc'
        rcases List.mem_append.mp hc' with h | h
        · exact hlx c' h
        · have : c' = ch := by simpa using h
          rw [this]; exact List.mem_of_getElem? e1
    · rintro l m' ⟨rfl, n, x, v, rfl, hx, hlx⟩
      simp only [w_runF, w_sSeq, w_sIf, w_tBl, w_tNot, w_tAnd, w_tOr, w_tYes, w_fAnd, w_fOr, w_fNot, w_fChain, w_fAp, w_fBM, a2, a1, a3, w_aCons, w_aNil, w_fC, w_sNx, w_sNo, w_sRet, w_sAsg, w_sDrop, w_sSetI, w_gNm, w_add, w_sub, w_mul, w_fdiv, w_mod, w_pow, w_lt, w_le, w_gt, w_ge, w_bB, w_eqI, w_neI, w_eqS, w_neS, w_isB, w_neg, w_isN, w_isBb, w_isi, w_tupN, w_lstN, w_finI, w_finB, w_finS, w_finN, w_impI, w_impS, w_impB, w_impR, w_var0, w_varS, w_sFor, w_iR1, w_isI, w_some, w_lenS, w_lenT, w_lenF, w_lenL, w_lenR, w_addSS, w_addTT, w_ixStr, w_ixTup, w_ixFl, w_ixLst, w_ixRef, w_slBS, w_slAS, w_slBT, w_slAT, w_slABF, w_tupleT, w_tupleL, w_tupleF, w_tupleR, w_listT, w_listF, w_listL, w_listR, w_iSeq, w_seqT, w_seqF, w_seqS, w_seqR, w_iEn, w_en1, w_sqT, w_iZp, w_fComp, imps_nil, imps_cons, at_1_0, at_2_0, at_2_1, at_3_0, at_3_1, at_3_2, at_4_0, at_4_1, at_4_2, at_4_3, at_5_0, at_5_1, at_5_2, at_5_3, at_5_4, startD, List.map, List.replicate, List.length, List.cons_append, List.nil_append, List.set_cons_succ, List.set_cons_zero, Nat.add_sub_cancel, Nat.reduceAdd, Nat.reduceSub, Nat.sub_self, Nat.zero_add]
      refine ⟨x, ⟨?_, ?_, hlx⟩, rfl⟩
      · rw [hx, rngD_length]; omega
      · rw [hx, rngD_length]; omega
  obtain ⟨_, e, n, h, rfl⟩ := key
  exact ⟨n, h, e⟩
end G06
set_option Elab.async false
set_option linter.all false
set_option autoImplicit false
set_option maxRecDepth 100000
set_option maxHeartbeats 1000000
namespace G06
open PySem PySem.Spec PyProof.Rows L2 M3
def okV : D → Prop
  | .int i => -(10 ^ 30) < i ∧ i < 10 ^ 30
  | .str x => nmOk x
  | _ => False
theorem pool_end {a g b : Int} {x y : Str} {m : Mem} (h1 : 0 ≤ a ∧ a < 5) (h2 : 1 ≤ g ∧ g ≤ 10 ^ 30 - 3) (h3 : 0 ≤ b ∧ b < 12) (hx : nmOk x) (hy : nmOk y) :
    Wp (finF m m (.lst [.int a, .int g, .str x, .int (0 - g), .str y, .int b, .int (g + 1)])) fun r => ∃ vs, vs.length = 7 ∧ (∀ v ∈ vs, okV v) ∧ r = (.lst vs, m) := by
  refine (w_fin0 rfl rfl).mpr ⟨_, rfl, fun v hv => ?_, rfl⟩
  simp only [List.mem_cons, List.not_mem_nil, or_false] at hv
  rcases hv with rfl | rfl | rfl | rfl | rfl | rfl | rfl
  · exact ⟨by omega, by omega⟩
  · exact ⟨by omega, by omega⟩
  · exact hx
  · exact ⟨by omega, by omega⟩
  · exact hy
  · exact ⟨by omega, by omega⟩
  · exact ⟨by omega, by omega⟩
theorem e30 : (10 : Int) ^ Int.toNat 30 = 10 ^ 30 := rfl
theorem pool_ok (c : Int) (m : Mem) : ∃ vs, vs.length = 7 ∧ (∀ v ∈ vs, okV v) ∧ F__law_pool [.int c] m = some (.lst vs, m) := by
  have key : Wp (F__law_pool [.int c] m) fun r => ∃ vs, vs.length = 7 ∧ (∀ v ∈ vs, okV v) ∧ r = (.lst vs, m) := by
    unfold F__law_pool b__law_pool
    simp only [w_runF, w_sSeq, w_sIf, w_tBl, w_tNot, w_tAnd, w_tOr, w_tYes, w_fAnd, w_fOr, w_fNot, w_fChain, w_fAp, w_fBM, a2, a1, a3, w_aCons, w_aNil, w_fC, w_sNx, w_sNo, w_sRet, w_sAsg, w_sDrop, w_sSetI, w_gNm, w_add, w_sub, w_mul, w_fdiv, w_mod, w_pow, w_lt, w_le, w_gt, w_ge, w_bB, w_eqI, w_neI, w_eqS, w_neS, w_isB, w_neg, w_isN, w_isBb, w_isi, w_tupN, w_lstN, w_finI, w_finB, w_finS, w_finN, w_impI, w_impS, w_impB, w_impR, w_var0, w_varS, w_sFor, w_iR1, w_isI, w_some, w_lenS, w_lenT, w_lenF, w_lenL, w_lenR, w_addSS, w_addTT, w_ixStr, w_ixTup, w_ixFl, w_ixLst, w_ixRef, w_slBS, w_slAS, w_slBT, w_slAT, w_slABF, w_tupleT, w_tupleL, w_tupleF, w_tupleR, w_listT, w_listF, w_listL, w_listR, w_iSeq, w_seqT, w_seqF, w_seqS, w_seqR, w_iEn, w_en1, w_sqT, w_iZp, w_fComp, imps_nil, imps_cons, at_1_0, at_2_0, at_2_1, at_3_0, at_3_1, at_3_2, at_4_0, at_4_1, at_4_2, at_4_3, at_5_0, at_5_1, at_5_2, at_5_3, at_5_4, startD, List.map, List.replicate, List.length, List.cons_append, List.nil_append, List.set_cons_succ, List.set_cons_zero, Nat.add_sub_cancel, Nat.reduceAdd, Nat.reduceSub, Nat.sub_self, Nat.zero_add]
    obtain ⟨n, hn, e1⟩ := mix_ok c 2147483587 (by decide) (by decide) m
    refine Wp.call (by rfl) (by rfl) e1 ?_
    simp only [w_runF, w_sSeq, w_sIf, w_tBl, w_tNot, w_tAnd, w_tOr, w_tYes, w_fAnd, w_fOr, w_fNot, w_fChain, w_fAp, w_fBM, a2, a1, a3, w_aCons, w_aNil, w_fC, w_sNx, w_sNo, w_sRet, w_sAsg, w_sDrop, w_sSetI, w_gNm, w_add, w_sub, w_mul, w_fdiv, w_mod, w_pow, w_lt, w_le, w_gt, w_ge, w_bB, w_eqI, w_neI, w_eqS, w_neS, w_isB, w_neg, w_isN, w_isBb, w_isi, w_tupN, w_lstN, w_finI, w_finB, w_finS, w_finN, w_impI, w_impS, w_impB, w_impR, w_var0, w_varS, w_sFor, w_iR1, w_isI, w_some, w_lenS, w_lenT, w_lenF, w_lenL, w_lenR, w_addSS, w_addTT, w_ixStr, w_ixTup, w_ixFl, w_ixLst, w_ixRef, w_slBS, w_slAS, w_slBT, w_slAT, w_slABF, w_tupleT, w_tupleL, w_tupleF, w_tupleR, w_listT, w_listF, w_listL, w_listR, w_iSeq, w_seqT, w_seqF, w_seqS, w_seqR, w_iEn, w_en1, w_sqT, w_iZp, w_fComp, imps_nil, imps_cons, at_1_0, at_2_0, at_2_1, at_3_0, at_3_1, at_3_2, at_4_0, at_4_1, at_4_2, at_4_3, at_5_0, at_5_1, at_5_2, at_5_3, at_5_4, startD, List.map, List.replicate, List.length, List.cons_append, List.nil_append, List.set_cons_succ, List.set_cons_zero, Nat.add_sub_cancel, Nat.reduceAdd, Nat.reduceSub, Nat.sub_self, Nat.zero_add]
    obtain ⟨x, hx, e2⟩ := name_ok n m
    refine Wp.call (by rfl) (by rfl) e2 ?_
    simp only [w_runF, w_sSeq, w_sIf, w_tBl, w_tNot, w_tAnd, w_tOr, w_tYes, w_fAnd, w_fOr, w_fNot, w_fChain, w_fAp, w_fBM, a2, a1, a3, w_aCons, w_aNil, w_fC, w_sNx, w_sNo, w_sRet, w_sAsg, w_sDrop, w_sSetI, w_gNm, w_add, w_sub, w_mul, w_fdiv, w_mod, w_pow, w_lt, w_le, w_gt, w_ge, w_bB, w_eqI, w_neI, w_eqS, w_neS, w_isB, w_neg, w_isN, w_isBb, w_isi, w_tupN, w_lstN, w_finI, w_finB, w_finS, w_finN, w_impI, w_impS, w_impB, w_impR, w_var0, w_varS, w_sFor, w_iR1, w_isI, w_some, w_lenS, w_lenT, w_lenF, w_lenL, w_lenR, w_addSS, w_addTT, w_ixStr, w_ixTup, w_ixFl, w_ixLst, w_ixRef, w_slBS, w_slAS, w_slBT, w_slAT, w_slABF, w_tupleT, w_tupleL, w_tupleF, w_tupleR, w_listT, w_listF, w_listL, w_listR, w_iSeq, w_seqT, w_seqF, w_seqS, w_seqR, w_iEn, w_en1, w_sqT, w_iZp, w_fComp, imps_nil, imps_cons, at_1_0, at_2_0, at_2_1, at_3_0, at_3_1, at_3_2, at_4_0, at_4_1, at_4_2, at_4_3, at_5_0, at_5_1, at_5_2, at_5_3, at_5_4, startD, List.map, List.replicate, List.length, List.cons_append, List.nil_append, List.set_cons_succ, List.set_cons_zero, Nat.add_sub_cancel, Nat.reduceAdd, Nat.reduceSub, Nat.sub_self, Nat.zero_add]
    obtain ⟨hx1, hx2, hx3⟩ := hx
    have hxl : x.length ≤ 16777216 := by omega
    refine ⟨pow_small (by decide) (by decide) (by decide), mul64 (by decide) (by decide), div_small (by decide) (by decide), hxl, by omega, ?_⟩
    generalize n / (8 * 26 ^ Int.toNat 8) = n
    have b1 : 0 ≤ n % (x.length : Int) ∧ n % (x.length : Int) < x.length := ⟨Int.emod_nonneg _ (by omega), Int.emod_lt_of_pos _ (by omega)⟩
    generalize n % (x.length : Int) = at_ at b1
    refine ⟨rfl, hxl, Wp.at b1.1 (by rw [Array.length_toList]; exact b1.2) fun ch e3 => ?_⟩
    refine Wp.sindex (hx3 ch (List.mem_of_getElem? e3)) fun i => ?_
    simp only [w_runF, w_sSeq, w_sIf, w_tBl, w_tNot, w_tAnd, w_tOr, w_tYes, w_fAnd, w_fOr, w_fNot, w_fChain, w_fAp, w_fBM, a2, a1, a3, w_aCons, w_aNil, w_fC, w_sNx, w_sNo, w_sRet, w_sAsg, w_sDrop, w_sSetI, w_gNm, w_add, w_sub, w_mul, w_fdiv, w_mod, w_pow, w_lt, w_le, w_gt, w_ge, w_bB, w_eqI, w_neI, w_eqS, w_neS, w_isB, w_neg, w_isN, w_isBb, w_isi, w_tupN, w_lstN, w_finI, w_finB, w_finS, w_finN, w_impI, w_impS, w_impB, w_impR, w_var0, w_varS, w_sFor, w_iR1, w_isI, w_some, w_lenS, w_lenT, w_lenF, w_lenL, w_lenR, w_addSS, w_addTT, w_ixStr, w_ixTup, w_ixFl, w_ixLst, w_ixRef, w_slBS, w_slAS, w_slBT, w_slAT, w_slABF, w_tupleT, w_tupleL, w_tupleF, w_tupleR, w_listT, w_listF, w_listL, w_listR, w_iSeq, w_seqT, w_seqF, w_seqS, w_seqR, w_iEn, w_en1, w_sqT, w_iZp, w_fComp, imps_nil, imps_cons, at_1_0, at_2_0, at_2_1, at_3_0, at_3_1, at_3_2, at_4_0, at_4_1, at_4_2, at_4_3, at_5_0, at_5_1, at_5_2, at_5_3, at_5_4, startD, List.map, List.replicate, List.length, List.cons_append, List.nil_append, List.set_cons_succ, List.set_cons_zero, Nat.add_sub_cancel, Nat.reduceAdd, Nat.reduceSub, Nat.sub_self, Nat.zero_add]
    generalize hz : (i : Int) + 1 + n / 8 % 25 = z
    have b2 : 0 ≤ z % 26 ∧ z % 26 < 26 := ⟨Int.emod_nonneg _ (by decide), Int.emod_lt_of_pos _ (by decide)⟩
    refine ⟨div_small (by decide) (by decide), by decide, hxl, by decide, (by rw [let_len]; decide), Wp.at b2.1 (by rw [Array.length_toList]; exact b2.2) fun c2 e4 => ?_⟩
    have h4 : c2 ∈ LET.cps.toList := List.mem_of_getElem? e4
    obtain ⟨k, rfl⟩ := Int.eq_ofNat_of_zero_le b1.1
    have hk : k < x.length := by omega
    have l1 := cutS_B (x := x) (k := k) (by omega)
    have l2 := cutS_A (x := x) (k := k + 1) (by omega)
    have e5 : ((k : Int) + 1) = ((k + 1 : Nat) : Int) := by omega
    rw [e5]
    have okO : nmOk (cutS x none (some (k : Int)) ++ ⟨#[c2]⟩ ++ cutS x (some ((k + 1 : Nat) : Int)) none) := by
      have e6 : (cutS x none (some (k : Int)) ++ ⟨#[c2]⟩ ++ cutS x (some ((k + 1 : Nat) : Int)) none).length = x.length := by
        rw [PySem.Str.length_append, PySem.Str.length_append, l1, l2]
        show k + 1 + _ = _
        omega
      refine ⟨by rw [e6]; exact hx1, by rw [e6]; exact hx2, fun c hc => ?_⟩
      rw [PySem.Str.cps_append, PySem.Str.cps_append, Array.toList_append, Array.toList_append] at hc
      rcases List.mem_append.mp hc with h | h
      · rcases List.mem_append.mp h with h | h
        · exact hx3 c (cutS_mem h)
        · have : c = c2 := by simpa using h
          rw [this]; exact h4
      · exact hx3 c (cutS_mem h)
    have hl2 : (⟨#[c2]⟩ : Str).length = 1 := rfl
    rw [e30]
    have b3 : 0 ≤ n / 200 % 10 ^ 30 ∧ n / 200 % 10 ^ 30 < 10 ^ 30 := ⟨Int.emod_nonneg _ (by decide), Int.emod_lt_of_pos _ (by decide)⟩
    have b4 : ∀ z : Int, 0 ≤ z % (10 ^ 30 - 3) ∧ z % (10 ^ 30 - 3) < 10 ^ 30 - 3 := fun z => ⟨Int.emod_nonneg _ (by decide), Int.emod_lt_of_pos _ (by decide)⟩
    have b5 : ∀ z : Int, 0 ≤ z % 5 ∧ z % 5 < 5 := fun z => ⟨Int.emod_nonneg _ (by decide), Int.emod_lt_of_pos _ (by decide)⟩
    refine ⟨by omega, hxl, by rw [PySem.Str.length_append]; omega, div_small (by decide) (by decide), pow_small (by decide) (by decide) (by decide), by decide, mul64 (by omega) (by decide), pow_small (by decide) (by decide) (by omega), pow_small (by decide) (by decide) (by decide), by decide, by decide, fun _ => ?_, fun _ => ?_⟩
    · refine ⟨div_small (by decide) (by decide), pow_small (by decide) (by decide) (by decide), by decide, div_small (by decide) (by decide), by decide, div_small (by decide) (by decide), by decide, by decide, ?_⟩
      have g1 := b4 (n / 200 / 2)
      have g2 := b5 (n / 200 / 320)
      exact pool_end (b5 _) (by omega) (by omega) ⟨hx1, hx2, hx3⟩ okO
    · refine ⟨div_small (by decide) (by decide), by decide, div_small (by decide) (by decide), by decide, by decide, ?_⟩
      have g1 := b4 ((n / 200 % 10 ^ 30 * 48271 + 11) ^ Int.toNat 4)
      have g2 := b5 (n / 200 / 320)
      exact pool_end (b5 _) (by omega) (by omega) ⟨hx1, hx2, hx3⟩ okO
  obtain ⟨_, e, n, h1, h2, rfl⟩ := key
  exact ⟨n, h1, h2, e⟩
end G06
set_option Elab.async false
set_option linter.all false
set_option autoImplicit false
set_option maxRecDepth 100000
set_option maxHeartbeats 1000000
namespace G06
open PySem PySem.Spec PyProof.Rows L2 M3
theorem okV_nice {v : D} (h : okV v) : nice 0 v = true := by
  cases v with
  | int i => rfl
  | str x =>
    show x.cps.all (· < 0x110000) = true
    rw [← Array.all_toList, List.all_eq_true]
    intro c hc
    have := h.2.2 c hc
    rw [let_codes] at this
    simp only [List.mem_cons, List.not_mem_nil, or_false] at this
    simp only [decide_eq_true_eq]
    omega
  | _ => exact h.elim
def okTab (d : D) : Prop := ∃ w k, d = .tup [.int w, .int k] ∧ 1 ≤ w ∧ w ≤ 4 ∧ 0 ≤ k ∧ k ≤ w
theorem okTab_nice {d : D} (h : okTab d) : nice 1 d = true := by obtain ⟨w, k, rfl, _⟩ := h; rfl
theorem rOk_small {i : Int} (h : -1000000 ≤ i ∧ i ≤ 1000000) : rOk i = true := by unfold rOk; simp; omega
theorem tables_ok (c : Int) (m : Mem) : ∃ ts, 1 ≤ ts.length ∧ ts.length ≤ 4 ∧ (∀ d ∈ ts, okTab d) ∧ F__law_tables [.int c, .int 4] m = some (.tup ts, m) := by
  have key : Wp (F__law_tables [.int c, .int 4] m) fun r => ∃ ts, (1 ≤ ts.length ∧ ts.length ≤ 4 ∧ ∀ d ∈ ts, okTab d) ∧ r = (.tup ts, m) := by
    unfold F__law_tables b__law_tables
    simp only [w_runF, w_sSeq, w_sIf, w_tBl, w_tNot, w_tAnd, w_tOr, w_tYes, w_fAnd, w_fOr, w_fNot, w_fChain, w_fAp, w_fBM, a2, a1, a3, w_aCons, w_aNil, w_fC, w_sNx, w_sNo, w_sRet, w_sAsg, w_sDrop, w_sSetI, w_gNm, w_add, w_sub, w_mul, w_fdiv, w_mod, w_pow, w_lt, w_le, w_gt, w_ge, w_bB, w_eqI, w_neI, w_eqS, w_neS, w_isB, w_neg, w_isN, w_isBb, w_isi, w_tupN, w_lstN, w_finI, w_finB, w_finS, w_finN, w_impI, w_impS, w_impB, w_impR, w_var0, w_varS, w_sFor, w_iR1, w_isI, w_some, w_lenS, w_lenT, w_lenF, w_lenL, w_lenR, w_addSS, w_addTT, w_ixStr, w_ixTup, w_ixFl, w_ixLst, w_ixRef, w_slBS, w_slAS, w_slBT, w_slAT, w_slABF, w_tupleT, w_tupleL, w_tupleF, w_tupleR, w_listT, w_listF, w_listL, w_listR, w_iSeq, w_seqT, w_seqF, w_seqS, w_seqR, w_iEn, w_en1, w_sqT, w_iZp, w_fComp, imps_nil, imps_cons, at_1_0, at_2_0, at_2_1, at_3_0, at_3_1, at_3_2, at_4_0, at_4_1, at_4_2, at_4_3, at_5_0, at_5_1, at_5_2, at_5_3, at_5_4, startD, List.map, List.replicate, List.length, List.cons_append, List.nil_append, List.set_cons_succ, List.set_cons_zero, Nat.add_sub_cancel, Nat.reduceAdd, Nat.reduceSub, Nat.sub_self, Nat.zero_add]
    obtain ⟨n, hn, e1⟩ := mix_ok c 2147483629 (by decide) (by decide) m
    refine Wp.call (by rfl) (by rfl) e1 ?_
    simp only [w_runF, w_sSeq, w_sIf, w_tBl, w_tNot, w_tAnd, w_tOr, w_tYes, w_fAnd, w_fOr, w_fNot, w_fChain, w_fAp, w_fBM, a2, a1, a3, w_aCons, w_aNil, w_fC, w_sNx, w_sNo, w_sRet, w_sAsg, w_sDrop, w_sSetI, w_gNm, w_add, w_sub, w_mul, w_fdiv, w_mod, w_pow, w_lt, w_le, w_gt, w_ge, w_bB, w_eqI, w_neI, w_eqS, w_neS, w_isB, w_neg, w_isN, w_isBb, w_isi, w_tupN, w_lstN, w_finI, w_finB, w_finS, w_finN, w_impI, w_impS, w_impB, w_impR, w_var0, w_varS, w_sFor, w_iR1, w_isI, w_some, w_lenS, w_lenT, w_lenF, w_lenL, w_lenR, w_addSS, w_addTT, w_ixStr, w_ixTup, w_ixFl, w_ixLst, w_ixRef, w_slBS, w_slAS, w_slBT, w_slAT, w_slABF, w_tupleT, w_tupleL, w_tupleF, w_tupleR, w_listT, w_listF, w_listL, w_listR, w_iSeq, w_seqT, w_seqF, w_seqS, w_seqR, w_iEn, w_en1, w_sqT, w_iZp, w_fComp, imps_nil, imps_cons, at_1_0, at_2_0, at_2_1, at_3_0, at_3_1, at_3_2, at_4_0, at_4_1, at_4_2, at_4_3, at_5_0, at_5_1, at_5_2, at_5_3, at_5_4, startD, List.map, List.replicate, List.length, List.cons_append, List.nil_append, List.set_cons_succ, List.set_cons_zero, Nat.add_sub_cancel, Nat.reduceAdd, Nat.reduceSub, Nat.sub_self, Nat.zero_add]
    have b1 : 0 ≤ n % 4 ∧ n % 4 < 4 := ⟨Int.emod_nonneg _ (by decide), Int.emod_lt_of_pos _ (by decide)⟩
    generalize n % 4 = many at b1
    refine ⟨by decide, div_small (by decide) (by decide), by decide, rOk_small (by omega), by omega, ?_⟩
    refine Wp.for (fun k l m' => ∃ ts n v5 v6, m' = m ++ [.lst ts] ∧ ts.length = k ∧ (∀ d ∈ ts, okTab d) ∧ l = [some (.int c), some (.int 4), some (.int n), some (.int (1 + many)), some (.ref m.length), v5, v6]) 0 ⟨[], n / 4, none, none, rfl, rfl, by simp, rfl⟩ ?_ ?_
    · rintro i d l m' hd ⟨ts, n, v5, v6, rfl, hl, ht, rfl⟩
      obtain ⟨hi, rfl⟩ := rngD_get hd
      simp only [w_runF, w_sSeq, w_sIf, w_tBl, w_tNot, w_tAnd, w_tOr, w_tYes, w_fAnd, w_fOr, w_fNot, w_fChain, w_fAp, w_fBM, a2, a1, a3, w_aCons, w_aNil, w_fC, w_sNx, w_sNo, w_sRet, w_sAsg, w_sDrop, w_sSetI, w_gNm, w_add, w_sub, w_mul, w_fdiv, w_mod, w_pow, w_lt, w_le, w_gt, w_ge, w_bB, w_eqI, w_neI, w_eqS, w_neS, w_isB, w_neg, w_isN, w_isBb, w_isi, w_tupN, w_lstN, w_finI, w_finB, w_finS, w_finN, w_impI, w_impS, w_impB, w_impR, w_var0, w_varS, w_sFor, w_iR1, w_isI, w_some, w_lenS, w_lenT, w_lenF, w_lenL, w_lenR, w_addSS, w_addTT, w_ixStr, w_ixTup, w_ixFl, w_ixLst, w_ixRef, w_slBS, w_slAS, w_slBT, w_slAT, w_slABF, w_tupleT, w_tupleL, w_tupleF, w_tupleR, w_listT, w_listF, w_listL, w_listR, w_iSeq, w_seqT, w_seqF, w_seqS, w_seqR, w_iEn, w_en1, w_sqT, w_iZp, w_fComp, imps_nil, imps_cons, at_1_0, at_2_0, at_2_1, at_3_0, at_3_1, at_3_2, at_4_0, at_4_1, at_4_2, at_4_3, at_5_0, at_5_1, at_5_2, at_5_3, at_5_4, startD, List.map, List.replicate, List.length, List.cons_append, List.nil_append, List.set_cons_succ, List.set_cons_zero, Nat.add_sub_cancel, Nat.reduceAdd, Nat.reduceSub, Nat.sub_self, Nat.zero_add]
      have b2 : 0 ≤ n % 4 ∧ n % 4 < 4 := ⟨Int.emod_nonneg _ (by decide), Int.emod_lt_of_pos _ (by decide)⟩
      have b3 : 0 ≤ n / 4 % (1 + n % 4 + 1) ∧ n / 4 % (1 + n % 4 + 1) < 1 + n % 4 + 1 := ⟨Int.emod_nonneg _ (by omega), Int.emod_lt_of_pos _ (by omega)⟩
      refine ⟨by decide, okL_ref last_get, div_small (by decide) (by decide), by omega, by decide, Wp.append last_get rfl (by omega) ?_⟩
      simp only [w_runF, w_sSeq, w_sIf, w_tBl, w_tNot, w_tAnd, w_tOr, w_tYes, w_fAnd, w_fOr, w_fNot, w_fChain, w_fAp, w_fBM, a2, a1, a3, w_aCons, w_aNil, w_fC, w_sNx, w_sNo, w_sRet, w_sAsg, w_sDrop, w_sSetI, w_gNm, w_add, w_sub, w_mul, w_fdiv, w_mod, w_pow, w_lt, w_le, w_gt, w_ge, w_bB, w_eqI, w_neI, w_eqS, w_neS, w_isB, w_neg, w_isN, w_isBb, w_isi, w_tupN, w_lstN, w_finI, w_finB, w_finS, w_finN, w_impI, w_impS, w_impB, w_impR, w_var0, w_varS, w_sFor, w_iR1, w_isI, w_some, w_lenS, w_lenT, w_lenF, w_lenL, w_lenR, w_addSS, w_addTT, w_ixStr, w_ixTup, w_ixFl, w_ixLst, w_ixRef, w_slBS, w_slAS, w_slBT, w_slAT, w_slABF, w_tupleT, w_tupleL, w_tupleF, w_tupleR, w_listT, w_listF, w_listL, w_listR, w_iSeq, w_seqT, w_seqF, w_seqS, w_seqR, w_iEn, w_en1, w_sqT, w_iZp, w_fComp, imps_nil, imps_cons, at_1_0, at_2_0, at_2_1, at_3_0, at_3_1, at_3_2, at_4_0, at_4_1, at_4_2, at_4_3, at_5_0, at_5_1, at_5_2, at_5_3, at_5_4, startD, List.map, List.replicate, List.length, List.cons_append, List.nil_append, List.set_cons_succ, List.set_cons_zero, Nat.add_sub_cancel, Nat.reduceAdd, Nat.reduceSub, Nat.sub_self, Nat.zero_add]
      refine ⟨div_small (by decide) (by decide), okNil, ts ++ [.tup [.int (1 + n % 4), .int (n / 4 % (1 + n % 4 + 1))]], _, _, _, last_set, by simp [hl], fun d hd => ?_, rfl⟩
      rcases List.mem_append.mp hd with h | h
      · exact ht d h
      · obtain rfl : d = _ := by simpa using h
        exact ⟨_, _, rfl, by omega, by omega, by omega, by omega⟩
    · rintro l m' ⟨ts, n, v5, v6, rfl, hl, ht, rfl⟩
      simp only [w_runF, w_sSeq, w_sIf, w_tBl, w_tNot, w_tAnd, w_tOr, w_tYes, w_fAnd, w_fOr, w_fNot, w_fChain, w_fAp, w_fBM, a2, a1, a3, w_aCons, w_aNil, w_fC, w_sNx, w_sNo, w_sRet, w_sAsg, w_sDrop, w_sSetI, w_gNm, w_add, w_sub, w_mul, w_fdiv, w_mod, w_pow, w_lt, w_le, w_gt, w_ge, w_bB, w_eqI, w_neI, w_eqS, w_neS, w_isB, w_neg, w_isN, w_isBb, w_isi, w_tupN, w_lstN, w_finI, w_finB, w_finS, w_finN, w_impI, w_impS, w_impB, w_impR, w_var0, w_varS, w_sFor, w_iR1, w_isI, w_some, w_lenS, w_lenT, w_lenF, w_lenL, w_lenR, w_addSS, w_addTT, w_ixStr, w_ixTup, w_ixFl, w_ixLst, w_ixRef, w_slBS, w_slAS, w_slBT, w_slAT, w_slABF, w_tupleT, w_tupleL, w_tupleF, w_tupleR, w_listT, w_listF, w_listL, w_listR, w_iSeq, w_seqT, w_seqF, w_seqS, w_seqR, w_iEn, w_en1, w_sqT, w_iZp, w_fComp, imps_nil, imps_cons, at_1_0, at_2_0, at_2_1, at_3_0, at_3_1, at_3_2, at_4_0, at_4_1, at_4_2, at_4_3, at_5_0, at_5_1, at_5_2, at_5_3, at_5_4, startD, List.map, List.replicate, List.length, List.cons_append, List.nil_append, List.set_cons_succ, List.set_cons_zero, Nat.add_sub_cancel, Nat.reduceAdd, Nat.reduceSub, Nat.sub_self, Nat.zero_add]
      rw [rl_ref last_get]
      simp only [w_runF, w_sSeq, w_sIf, w_tBl, w_tNot, w_tAnd, w_tOr, w_tYes, w_fAnd, w_fOr, w_fNot, w_fChain, w_fAp, w_fBM, a2, a1, a3, w_aCons, w_aNil, w_fC, w_sNx, w_sNo, w_sRet, w_sAsg, w_sDrop, w_sSetI, w_gNm, w_add, w_sub, w_mul, w_fdiv, w_mod, w_pow, w_lt, w_le, w_gt, w_ge, w_bB, w_eqI, w_neI, w_eqS, w_neS, w_isB, w_neg, w_isN, w_isBb, w_isi, w_tupN, w_lstN, w_finI, w_finB, w_finS, w_finN, w_impI, w_impS, w_impB, w_impR, w_var0, w_varS, w_sFor, w_iR1, w_isI, w_some, w_lenS, w_lenT, w_lenF, w_lenL, w_lenR, w_addSS, w_addTT, w_ixStr, w_ixTup, w_ixFl, w_ixLst, w_ixRef, w_slBS, w_slAS, w_slBT, w_slAT, w_slABF, w_tupleT, w_tupleL, w_tupleF, w_tupleR, w_listT, w_listF, w_listL, w_listR, w_iSeq, w_seqT, w_seqF, w_seqS, w_seqR, w_iEn, w_en1, w_sqT, w_iZp, w_fComp, imps_nil, imps_cons, at_1_0, at_2_0, at_2_1, at_3_0, at_3_1, at_3_2, at_4_0, at_4_1, at_4_2, at_4_3, at_5_0, at_5_1, at_5_2, at_5_3, at_5_4, startD, List.map, List.replicate, List.length, List.cons_append, List.nil_append, List.set_cons_succ, List.set_cons_zero, Nat.add_sub_cancel, Nat.reduceAdd, Nat.reduceSub, Nat.sub_self, Nat.zero_add]
      refine Wp.fin (nices_plain 1 ts (nices_iff.mpr fun d hd => okTab_nice (ht d hd))) ⟨ts, ⟨?_, ?_, ht⟩, rfl⟩
      · rw [hl, rngD_length]; omega
      · rw [hl, rngD_length]; omega
  obtain ⟨_, e, n, ⟨h1, h2, h3⟩, rfl⟩ := key
  exact ⟨n, h1, h2, h3, e⟩
/-! ### rows -/
def okRow (ts : List D) (d : D) : Prop := ∃ (t : Nat) (cs : List D) (w k : Int), d = .tup [.int (t : Int), .tup cs] ∧ ts[t]? = some (.tup [.int w, .int k]) ∧ (cs.length : Int) = w ∧ ∀ v ∈ cs, okV v
theorem okRow_nice {ts : List D} {d : D} (h : okRow ts d) : nice 2 d = true := by
  obtain ⟨t, cs, w, k, rfl, _, _, h⟩ := h
  have e : nices 0 cs = true := nices_iff.mpr fun d hd => okV_nice (h d hd)
  show (true && ((nices 0 cs) && true)) = true
  rw [e]; rfl
theorem row_ok (c : Int) {ts vs : List D} {kp : Nat} {wide : Int} {m : Mem} (ht0 : 1 ≤ ts.length) (ht1 : ts.length ≤ 4) (ht : ∀ d ∈ ts, okTab d) (hp : m[kp]? = some (.lst vs)) (hv : ∀ v ∈ vs, okV v) (hw0 : 1 ≤ wide) (hw1 : wide ≤ vs.length) (hv7 : vs.length = 7) :
    ∃ d, okRow ts d ∧ F__law_row [.int c, .tup ts, .ref kp, .int wide] m = some (d, m) := by
  have key : Wp (F__law_row [.int c, .tup ts, .ref kp, .int wide] m) fun r => ∃ d, okRow ts d ∧ r = (d, m) := by
    unfold F__law_row b__law_row
    simp only [w_runF, w_sSeq, w_sIf, w_tBl, w_tNot, w_tAnd, w_tOr, w_tYes, w_fAnd, w_fOr, w_fNot, w_fChain, w_fAp, w_fBM, a2, a1, a3, w_aCons, w_aNil, w_fC, w_sNx, w_sNo, w_sRet, w_sAsg, w_sDrop, w_sSetI, w_gNm, w_add, w_sub, w_mul, w_fdiv, w_mod, w_pow, w_lt, w_le, w_gt, w_ge, w_bB, w_eqI, w_neI, w_eqS, w_neS, w_isB, w_neg, w_isN, w_isBb, w_isi, w_tupN, w_lstN, w_finI, w_finB, w_finS, w_finN, w_impI, w_impS, w_impB, w_impR, w_var0, w_varS, w_sFor, w_iR1, w_isI, w_some, w_lenS, w_lenT, w_lenF, w_lenL, w_lenR, w_addSS, w_addTT, w_ixStr, w_ixTup, w_ixFl, w_ixLst, w_ixRef, w_slBS, w_slAS, w_slBT, w_slAT, w_slABF, w_tupleT, w_tupleL, w_tupleF, w_tupleR, w_listT, w_listF, w_listL, w_listR, w_iSeq, w_seqT, w_seqF, w_seqS, w_seqR, w_iEn, w_en1, w_sqT, w_iZp, w_fComp, imps_nil, imps_cons, at_1_0, at_2_0, at_2_1, at_3_0, at_3_1, at_3_2, at_4_0, at_4_1, at_4_2, at_4_3, at_5_0, at_5_1, at_5_2, at_5_3, at_5_4, startD, List.map, List.replicate, List.length, List.cons_append, List.nil_append, List.set_cons_succ, List.set_cons_zero, Nat.add_sub_cancel, Nat.reduceAdd, Nat.reduceSub, Nat.sub_self, Nat.zero_add]
    obtain ⟨n, hn, e1⟩ := mix_ok c 2147483563 (by decide) (by decide) m
    refine Wp.call (by rfl) (by rfl) e1 ?_
    simp only [w_runF, w_sSeq, w_sIf, w_tBl, w_tNot, w_tAnd, w_tOr, w_tYes, w_fAnd, w_fOr, w_fNot, w_fChain, w_fAp, w_fBM, a2, a1, a3, w_aCons, w_aNil, w_fC, w_sNx, w_sNo, w_sRet, w_sAsg, w_sDrop, w_sSetI, w_gNm, w_add, w_sub, w_mul, w_fdiv, w_mod, w_pow, w_lt, w_le, w_gt, w_ge, w_bB, w_eqI, w_neI, w_eqS, w_neS, w_isB, w_neg, w_isN, w_isBb, w_isi, w_tupN, w_lstN, w_finI, w_finB, w_finS, w_finN, w_impI, w_impS, w_impB, w_impR, w_var0, w_varS, w_sFor, w_iR1, w_isI, w_some, w_lenS, w_lenT, w_lenF, w_lenL, w_lenR, w_addSS, w_addTT, w_ixStr, w_ixTup, w_ixFl, w_ixLst, w_ixRef, w_slBS, w_slAS, w_slBT, w_slAT, w_slABF, w_tupleT, w_tupleL, w_tupleF, w_tupleR, w_listT, w_listF, w_listL, w_listR, w_iSeq, w_seqT, w_seqF, w_seqS, w_seqR, w_iEn, w_en1, w_sqT, w_iZp, w_fComp, imps_nil, imps_cons, at_1_0, at_2_0, at_2_1, at_3_0, at_3_1, at_3_2, at_4_0, at_4_1, at_4_2, at_4_3, at_5_0, at_5_1, at_5_2, at_5_3, at_5_4, startD, List.map, List.replicate, List.length, List.cons_append, List.nil_append, List.set_cons_succ, List.set_cons_zero, Nat.add_sub_cancel, Nat.reduceAdd, Nat.reduceSub, Nat.sub_self, Nat.zero_add]
    have b1 : 0 ≤ n % (ts.length : Int) ∧ n % (ts.length : Int) < ts.length := ⟨Int.emod_nonneg _ (by omega), Int.emod_lt_of_pos _ (by omega)⟩
    obtain ⟨t, et⟩ := Int.eq_ofNat_of_zero_le b1.1
    rw [et] at b1 ⊢
    refine ⟨by omega, div_small (by omega) (by omega), by decide, Wp.at b1.1 b1.2 fun tab htab => ?_⟩
    have htab : ts[t]? = some tab := htab
    obtain ⟨w, k, rfl, w1, w4, k0, kw⟩ := ht tab (List.mem_of_getElem? htab)
    simp only [w_runF, w_sSeq, w_sIf, w_tBl, w_tNot, w_tAnd, w_tOr, w_tYes, w_fAnd, w_fOr, w_fNot, w_fChain, w_fAp, w_fBM, a2, a1, a3, w_aCons, w_aNil, w_fC, w_sNx, w_sNo, w_sRet, w_sAsg, w_sDrop, w_sSetI, w_gNm, w_add, w_sub, w_mul, w_fdiv, w_mod, w_pow, w_lt, w_le, w_gt, w_ge, w_bB, w_eqI, w_neI, w_eqS, w_neS, w_isB, w_neg, w_isN, w_isBb, w_isi, w_tupN, w_lstN, w_finI, w_finB, w_finS, w_finN, w_impI, w_impS, w_impB, w_impR, w_var0, w_varS, w_sFor, w_iR1, w_isI, w_some, w_lenS, w_lenT, w_lenF, w_lenL, w_lenR, w_addSS, w_addTT, w_ixStr, w_ixTup, w_ixFl, w_ixLst, w_ixRef, w_slBS, w_slAS, w_slBT, w_slAT, w_slABF, w_tupleT, w_tupleL, w_tupleF, w_tupleR, w_listT, w_listF, w_listL, w_listR, w_iSeq, w_seqT, w_seqF, w_seqS, w_seqR, w_iEn, w_en1, w_sqT, w_iZp, w_fComp, imps_nil, imps_cons, at_1_0, at_2_0, at_2_1, at_3_0, at_3_1, at_3_2, at_4_0, at_4_1, at_4_2, at_4_3, at_5_0, at_5_1, at_5_2, at_5_3, at_5_4, startD, List.map, List.replicate, List.length, List.cons_append, List.nil_append, List.set_cons_succ, List.set_cons_zero, Nat.add_sub_cancel, Nat.reduceAdd, Nat.reduceSub, Nat.sub_self, Nat.zero_add]
    refine ⟨rOk_small (by omega), by omega, ?_⟩
    have hkp : kp < m.length := (List.getElem?_eq_some_iff.mp hp).1
    refine Wp.for (fun j l m' => ∃ cs n v, m' = m ++ [.lst cs] ∧ cs.length = j ∧ (∀ d ∈ cs, okV d) ∧ l = [some (.int c), some (.tup ts), some (.ref kp), some (.int wide), some (.int n), some (.int (t : Int)), some (.ref m.length), v]) 0 ⟨[], n / (ts.length : Int), none, rfl, rfl, by simp, rfl⟩ ?_ ?_
    · rintro i d l m' hd ⟨cs, n, v, rfl, hl, hc, rfl⟩
      obtain ⟨hi, rfl⟩ := rngD_get hd
      have hp' : (m ++ [D.lst cs])[kp]? = some (.lst vs) := by rw [List.getElem?_append_left hkp]; exact hp
      simp only [w_runF, w_sSeq, w_sIf, w_tBl, w_tNot, w_tAnd, w_tOr, w_tYes, w_fAnd, w_fOr, w_fNot, w_fChain, w_fAp, w_fBM, a2, a1, a3, w_aCons, w_aNil, w_fC, w_sNx, w_sNo, w_sRet, w_sAsg, w_sDrop, w_sSetI, w_gNm, w_add, w_sub, w_mul, w_fdiv, w_mod, w_pow, w_lt, w_le, w_gt, w_ge, w_bB, w_eqI, w_neI, w_eqS, w_neS, w_isB, w_neg, w_isN, w_isBb, w_isi, w_tupN, w_lstN, w_finI, w_finB, w_finS, w_finN, w_impI, w_impS, w_impB, w_impR, w_var0, w_varS, w_sFor, w_iR1, w_isI, w_some, w_lenS, w_lenT, w_lenF, w_lenL, w_lenR, w_addSS, w_addTT, w_ixStr, w_ixTup, w_ixFl, w_ixLst, w_ixRef, w_slBS, w_slAS, w_slBT, w_slAT, w_slABF, w_tupleT, w_tupleL, w_tupleF, w_tupleR, w_listT, w_listF, w_listL, w_listR, w_iSeq, w_seqT, w_seqF, w_seqS, w_seqR, w_iEn, w_en1, w_sqT, w_iZp, w_fComp, imps_nil, imps_cons, at_1_0, at_2_0, at_2_1, at_3_0, at_3_1, at_3_2, at_4_0, at_4_1, at_4_2, at_4_3, at_5_0, at_5_1, at_5_2, at_5_3, at_5_4, startD, List.map, List.replicate, List.length, List.cons_append, List.nil_append, List.set_cons_succ, List.set_cons_zero, Nat.add_sub_cancel, Nat.reduceAdd, Nat.reduceSub, Nat.sub_self, Nat.zero_add, sq_ref hp']
      have b2 : 0 ≤ n % wide ∧ n % wide < wide := ⟨Int.emod_nonneg _ (by omega), Int.emod_lt_of_pos _ (by omega)⟩
      refine ⟨okL_ref last_get, by omega, Wp.at b2.1 (by omega) fun x hx => ?_⟩
      have okx := hv x (List.mem_of_getElem? hx)
      refine Wp.append last_get (plain_settled _ (nice_plain 0 x (okV_nice okx))) (by omega) ?_
      simp only [w_runF, w_sSeq, w_sIf, w_tBl, w_tNot, w_tAnd, w_tOr, w_tYes, w_fAnd, w_fOr, w_fNot, w_fChain, w_fAp, w_fBM, a2, a1, a3, w_aCons, w_aNil, w_fC, w_sNx, w_sNo, w_sRet, w_sAsg, w_sDrop, w_sSetI, w_gNm, w_add, w_sub, w_mul, w_fdiv, w_mod, w_pow, w_lt, w_le, w_gt, w_ge, w_bB, w_eqI, w_neI, w_eqS, w_neS, w_isB, w_neg, w_isN, w_isBb, w_isi, w_tupN, w_lstN, w_finI, w_finB, w_finS, w_finN, w_impI, w_impS, w_impB, w_impR, w_var0, w_varS, w_sFor, w_iR1, w_isI, w_some, w_lenS, w_lenT, w_lenF, w_lenL, w_lenR, w_addSS, w_addTT, w_ixStr, w_ixTup, w_ixFl, w_ixLst, w_ixRef, w_slBS, w_slAS, w_slBT, w_slAT, w_slABF, w_tupleT, w_tupleL, w_tupleF, w_tupleR, w_listT, w_listF, w_listL, w_listR, w_iSeq, w_seqT, w_seqF, w_seqS, w_seqR, w_iEn, w_en1, w_sqT, w_iZp, w_fComp, imps_nil, imps_cons, at_1_0, at_2_0, at_2_1, at_3_0, at_3_1, at_3_2, at_4_0, at_4_1, at_4_2, at_4_3, at_5_0, at_5_1, at_5_2, at_5_3, at_5_4, startD, List.map, List.replicate, List.length, List.cons_append, List.nil_append, List.set_cons_succ, List.set_cons_zero, Nat.add_sub_cancel, Nat.reduceAdd, Nat.reduceSub, Nat.sub_self, Nat.zero_add]
      refine ⟨div_small (by omega) (by omega), okNil, cs ++ [x], _, _, last_set, by simp [hl], fun d hd => ?_, rfl⟩
      rcases List.mem_append.mp hd with h | h
      · exact hc d h
      · obtain rfl : d = x := by simpa using h
        exact okx
    · rintro l m' ⟨cs, n, v, rfl, hl, hc, rfl⟩
      simp only [w_runF, w_sSeq, w_sIf, w_tBl, w_tNot, w_tAnd, w_tOr, w_tYes, w_fAnd, w_fOr, w_fNot, w_fChain, w_fAp, w_fBM, a2, a1, a3, w_aCons, w_aNil, w_fC, w_sNx, w_sNo, w_sRet, w_sAsg, w_sDrop, w_sSetI, w_gNm, w_add, w_sub, w_mul, w_fdiv, w_mod, w_pow, w_lt, w_le, w_gt, w_ge, w_bB, w_eqI, w_neI, w_eqS, w_neS, w_isB, w_neg, w_isN, w_isBb, w_isi, w_tupN, w_lstN, w_finI, w_finB, w_finS, w_finN, w_impI, w_impS, w_impB, w_impR, w_var0, w_varS, w_sFor, w_iR1, w_isI, w_some, w_lenS, w_lenT, w_lenF, w_lenL, w_lenR, w_addSS, w_addTT, w_ixStr, w_ixTup, w_ixFl, w_ixLst, w_ixRef, w_slBS, w_slAS, w_slBT, w_slAT, w_slABF, w_tupleT, w_tupleL, w_tupleF, w_tupleR, w_listT, w_listF, w_listL, w_listR, w_iSeq, w_seqT, w_seqF, w_seqS, w_seqR, w_iEn, w_en1, w_sqT, w_iZp, w_fComp, imps_nil, imps_cons, at_1_0, at_2_0, at_2_1, at_3_0, at_3_1, at_3_2, at_4_0, at_4_1, at_4_2, at_4_3, at_5_0, at_5_1, at_5_2, at_5_3, at_5_4, startD, List.map, List.replicate, List.length, List.cons_append, List.nil_append, List.set_cons_succ, List.set_cons_zero, Nat.add_sub_cancel, Nat.reduceAdd, Nat.reduceSub, Nat.sub_self, Nat.zero_add, rl_ref last_get]
      rw [rngD_length] at hl
      have ok : okRow ts (.tup [.int (t : Int), .tup cs]) := ⟨t, cs, w, k, rfl, htab, by omega, hc⟩
      exact ⟨by decide, Wp.fin (nice_plain 2 _ (okRow_nice ok)) ⟨_, ok, rfl⟩⟩
  obtain ⟨_, e, n, h1, rfl⟩ := key
  exact ⟨n, h1, e⟩
end G06
set_option Elab.async false
set_option linter.all false
set_option autoImplicit false
set_option maxRecDepth 100000
set_option maxHeartbeats 1000000
namespace G06
open PySem PySem.Spec PyProof.Rows L2 M3
theorem get_set {m : Mem} {k : Nat} {c d : D} (h : m[k]? = some c) : (m.set k d)[k]? = some d := by
  rw [List.getElem?_set_self (List.getElem?_eq_some_iff.mp h).1]
theorem get_set_ne {m : Mem} {k j : Nat} {d : D} (h : k ≠ j) : (m.set k d)[j]? = m[j]? := List.getElem?_set_ne h
theorem Wp.finSet {m : Mem} {k : Nat} {c d : D} {Q : D × Mem → Prop} (hc : closed m.length c = true) (h : plain d = true) (q : Q (d, m.set k c)) : Wp (finF m (m.set k c) d) Q := by
  unfold finF
  rw [exp_closed (plain_closed d h) (plain_liv d h)]
  have e : ExitOk m.length m (m.set k c) := fun i x hi hx => by
    by_cases hk : k = i
    · subst hk
      rw [List.getElem?_set_self hi] at hx
      cases hx
      exact .inr hc
    · rw [List.getElem?_set_ne hk] at hx
      exact .inl hx
  simp only
  rw [guard_pos e, w_some]
  rw [List.take_of_length_le (by rw [List.length_set]; exact Nat.le_refl _)]
  exact q
theorem Wp.finSetQ {m q : Mem} {k : Nat} {c d : D} {Q : D × Mem → Prop} (hk : k < m.length) (hc : closed m.length c = true) (h : plain d = true) (qq : Q (d, m.set k c)) : Wp (finF m (m.set k c ++ q) d) Q := by
  unfold finF
  rw [exp_closed (plain_closed d h) (plain_liv d h)]
  have e : ExitOk m.length m (m.set k c ++ q) := fun i x hi hx => by
    rw [List.getElem?_append_left (by rw [List.length_set]; exact hi)] at hx
    by_cases hk : k = i
    · subst hk
      rw [List.getElem?_set_self hi] at hx
      cases hx
      exact .inr hc
    · rw [List.getElem?_set_ne hk] at hx
      exact .inl hx
  simp only
  rw [guard_pos e, w_some]
  rw [List.take_append_of_le_length (by rw [List.length_set]; exact Nat.le_refl _), List.take_of_length_le (by rw [List.length_set]; exact Nat.le_refl _)]
  exact qq
/-- the state: a cell with one number -/
abbrev stc (n : Int) : D := .lst [.int n]
theorem take_ok {ks : Nat} {size n : Int} {m : Mem} (h : m[ks]? = some (stc n)) (h0 : 0 < size) (h1 : size < 1000000) : F__law_take [.ref ks, .int size] m = some (.int (n % size), m.set ks (stc (n / size))) := by
  apply Wp.eq
  unfold F__law_take b__law_take
  simp only [w_runF, w_sSeq, w_sIf, w_tBl, w_tNot, w_tAnd, w_tOr, w_tYes, w_fAnd, w_fOr, w_fNot, w_fChain, w_fAp, w_fBM, a2, a1, a3, w_aCons, w_aNil, w_fC, w_sNx, w_sNo, w_sRet, w_sAsg, w_sDrop, w_sSetI, w_gNm, w_add, w_sub, w_mul, w_fdiv, w_mod, w_pow, w_lt, w_le, w_gt, w_ge, w_bB, w_eqI, w_neI, w_eqS, w_neS, w_isB, w_neg, w_isN, w_isBb, w_isi, w_tupN, w_lstN, w_finI, w_finB, w_finS, w_finN, w_impI, w_impS, w_impB, w_impR, w_var0, w_varS, w_sFor, w_iR1, w_isI, w_some, w_lenS, w_lenT, w_lenF, w_lenL, w_lenR, w_addSS, w_addTT, w_ixStr, w_ixTup, w_ixFl, w_ixLst, w_ixRef, w_slBS, w_slAS, w_slBT, w_slAT, w_slABF, w_tupleT, w_tupleL, w_tupleF, w_tupleR, w_listT, w_listF, w_listL, w_listR, w_iSeq, w_seqT, w_seqF, w_seqS, w_seqR, w_iEn, w_en1, w_sqT, w_iZp, w_fComp, imps_nil, imps_cons, at_1_0, at_2_0, at_2_1, at_3_0, at_3_1, at_3_2, at_4_0, at_4_1, at_4_2, at_4_3, at_5_0, at_5_1, at_5_2, at_5_3, at_5_4, startD, List.map, List.replicate, List.length, List.cons_append, List.nil_append, List.set_cons_succ, List.set_cons_zero, Nat.add_sub_cancel, Nat.reduceAdd, Nat.reduceSub, Nat.sub_self, Nat.zero_add, sq_ref h]
  refine ⟨h0, div_small h0 (by omega), Wp.setL h rfl rfl ?_⟩
  try simp only [w_runF, w_sSeq, w_sIf, w_tBl, w_tNot, w_tAnd, w_tOr, w_tYes, w_fAnd, w_fOr, w_fNot, w_fChain, w_fAp, w_fBM, a2, a1, a3, w_aCons, w_aNil, w_fC, w_sNx, w_sNo, w_sRet, w_sAsg, w_sDrop, w_sSetI, w_gNm, w_add, w_sub, w_mul, w_fdiv, w_mod, w_pow, w_lt, w_le, w_gt, w_ge, w_bB, w_eqI, w_neI, w_eqS, w_neS, w_isB, w_neg, w_isN, w_isBb, w_isi, w_tupN, w_lstN, w_finI, w_finB, w_finS, w_finN, w_impI, w_impS, w_impB, w_impR, w_var0, w_varS, w_sFor, w_iR1, w_isI, w_some, w_lenS, w_lenT, w_lenF, w_lenL, w_lenR, w_addSS, w_addTT, w_ixStr, w_ixTup, w_ixFl, w_ixLst, w_ixRef, w_slBS, w_slAS, w_slBT, w_slAT, w_slABF, w_tupleT, w_tupleL, w_tupleF, w_tupleR, w_listT, w_listF, w_listL, w_listR, w_iSeq, w_seqT, w_seqF, w_seqS, w_seqR, w_iEn, w_en1, w_sqT, w_iZp, w_fComp, imps_nil, imps_cons, at_1_0, at_2_0, at_2_1, at_3_0, at_3_1, at_3_2, at_4_0, at_4_1, at_4_2, at_4_3, at_5_0, at_5_1, at_5_2, at_5_3, at_5_4, startD, List.map, List.replicate, List.length, List.cons_append, List.nil_append, List.set_cons_succ, List.set_cons_zero, Nat.add_sub_cancel, Nat.reduceAdd, Nat.reduceSub, Nat.sub_self, Nat.zero_add]
  exact Wp.finSet rfl rfl rfl
def okSide (ts there : List D) (d : D) : Prop := (∃ v, okV v ∧ d = .tup [.str "is", v]) ∨ (∃ (k t : Nat) (c w kk : Int), d = .tup [.str "cell", .int (k : Int), .int c] ∧ there[k]? = some (.int (t : Int)) ∧ ts[t]? = some (.tup [.int w, .int kk]) ∧ 0 ≤ c ∧ c < w)
theorem okSide_nice {ts there : List D} {d : D} (h : okSide ts there d) : nice 1 d = true := by
  rcases h with ⟨v, hv, rfl⟩ | ⟨k, t, c, w, kk, rfl, _⟩
  · have e := okV_nice hv
    show (PyData.strOk "is" && (nice 0 v && true)) = true
    rw [e]; decide +kernel
  · show (PyData.strOk "cell" && (true && (true && true))) = true
    decide +kernel
/-- the tables that a rule speaks of -/
def okThere (ts there : List D) : Prop := 1 ≤ there.length ∧ there.length ≤ 2 ∧ ∀ d ∈ there, ∃ t : Nat, d = .int (t : Int) ∧ t < ts.length
theorem okThere_nice {ts there : List D} (h : okThere ts there) : nices 0 there = true := nices_iff.mpr fun d hd => by obtain ⟨t, rfl, _⟩ := h.2.2 d hd; rfl
structure Ctx (ts vs : List D) (kp ks : Nat) (m : Mem) : Prop where
  t0 : 1 ≤ ts.length
  t1 : ts.length ≤ 4
  tab : ∀ d ∈ ts, okTab d
  p : m[kp]? = some (.lst vs)
  v : ∀ v ∈ vs, okV v
  v7 : vs.length = 7
  ne : ks ≠ kp
theorem Ctx.set {ts vs : List D} {kp ks : Nat} {m : Mem} {c : D} (h : Ctx ts vs kp ks m) : Ctx ts vs kp ks (m.set ks c) := { h with p := by rw [get_set_ne h.ne]; exact h.p }
theorem Ctx.app {ts vs : List D} {kp ks : Nat} {m : Mem} {q : Mem} (h : Ctx ts vs kp ks m) : Ctx ts vs kp ks (m ++ q) := { h with p := by rw [List.getElem?_append_left (List.getElem?_eq_some_iff.mp h.p).1]; exact h.p }
theorem Ctx.tabAt {ts vs : List D} {kp ks : Nat} {m : Mem} (h : Ctx ts vs kp ks m) {t : Nat} (ht : t < ts.length) : ∃ w k, ts[t]? = some (.tup [.int w, .int k]) ∧ 1 ≤ w ∧ w ≤ 4 ∧ 0 ≤ k ∧ k ≤ w := by
  have e : ts[t]? = some ts[t] := List.getElem?_eq_getElem ht
  obtain ⟨w, k, e2, r⟩ := h.tab ts[t] (List.getElem_mem ht)
  exact ⟨w, k, by rw [e, e2], r⟩
theorem side_ok {ts vs there : List D} {kp ks : Nat} {m : Mem} {n : Int} (X : Ctx ts vs kp ks m) (hs : m[ks]? = some (stc n)) (hth : okThere ts there) :
    ∃ d n', okSide ts there d ∧ F__law_side [.ref ks, .tup there, .tup ts, .ref kp] m = some (d, m.set ks (stc n')) := by
  have key : Wp (F__law_side [.ref ks, .tup there, .tup ts, .ref kp] m) fun r => ∃ d n', okSide ts there d ∧ r = (d, m.set ks (stc n')) := by
    unfold F__law_side b__law_side
    simp only [w_runF, w_sSeq, w_sIf, w_tBl, w_tNot, w_tAnd, w_tOr, w_tYes, w_fAnd, w_fOr, w_fNot, w_fChain, w_fAp, w_fBM, a2, a1, a3, w_aCons, w_aNil, w_fC, w_sNx, w_sNo, w_sRet, w_sAsg, w_sDrop, w_sSetI, w_gNm, w_add, w_sub, w_mul, w_fdiv, w_mod, w_pow, w_lt, w_le, w_gt, w_ge, w_bB, w_eqI, w_neI, w_eqS, w_neS, w_isB, w_neg, w_isN, w_isBb, w_isi, w_tupN, w_lstN, w_finI, w_finB, w_finS, w_finN, w_impI, w_impS, w_impB, w_impR, w_var0, w_varS, w_sFor, w_iR1, w_isI, w_some, w_lenS, w_lenT, w_lenF, w_lenL, w_lenR, w_addSS, w_addTT, w_ixStr, w_ixTup, w_ixFl, w_ixLst, w_ixRef, w_slBS, w_slAS, w_slBT, w_slAT, w_slABF, w_tupleT, w_tupleL, w_tupleF, w_tupleR, w_listT, w_listF, w_listL, w_listR, w_iSeq, w_seqT, w_seqF, w_seqS, w_seqR, w_iEn, w_en1, w_sqT, w_iZp, w_fComp, imps_nil, imps_cons, at_1_0, at_2_0, at_2_1, at_3_0, at_3_1, at_3_2, at_4_0, at_4_1, at_4_2, at_4_3, at_5_0, at_5_1, at_5_2, at_5_3, at_5_4, startD, List.map, List.replicate, List.length, List.cons_append, List.nil_append, List.set_cons_succ, List.set_cons_zero, Nat.add_sub_cancel, Nat.reduceAdd, Nat.reduceSub, Nat.sub_self, Nat.zero_add]
    refine Wp.call (by rfl) (by rfl) (take_ok hs (by decide) (by decide)) ?_
    simp only [w_runF, w_sSeq, w_sIf, w_tBl, w_tNot, w_tAnd, w_tOr, w_tYes, w_fAnd, w_fOr, w_fNot, w_fChain, w_fAp, w_fBM, a2, a1, a3, w_aCons, w_aNil, w_fC, w_sNx, w_sNo, w_sRet, w_sAsg, w_sDrop, w_sSetI, w_gNm, w_add, w_sub, w_mul, w_fdiv, w_mod, w_pow, w_lt, w_le, w_gt, w_ge, w_bB, w_eqI, w_neI, w_eqS, w_neS, w_isB, w_neg, w_isN, w_isBb, w_isi, w_tupN, w_lstN, w_finI, w_finB, w_finS, w_finN, w_impI, w_impS, w_impB, w_impR, w_var0, w_varS, w_sFor, w_iR1, w_isI, w_some, w_lenS, w_lenT, w_lenF, w_lenL, w_lenR, w_addSS, w_addTT, w_ixStr, w_ixTup, w_ixFl, w_ixLst, w_ixRef, w_slBS, w_slAS, w_slBT, w_slAT, w_slABF, w_tupleT, w_tupleL, w_tupleF, w_tupleR, w_listT, w_listF, w_listL, w_listR, w_iSeq, w_seqT, w_seqF, w_seqS, w_seqR, w_iEn, w_en1, w_sqT, w_iZp, w_fComp, imps_nil, imps_cons, at_1_0, at_2_0, at_2_1, at_3_0, at_3_1, at_3_2, at_4_0, at_4_1, at_4_2, at_4_3, at_5_0, at_5_1, at_5_2, at_5_3, at_5_4, startD, List.map, List.replicate, List.length, List.cons_append, List.nil_append, List.set_cons_succ, List.set_cons_zero, Nat.add_sub_cancel, Nat.reduceAdd, Nat.reduceSub, Nat.sub_self, Nat.zero_add]
    have s1 : (m.set ks (stc (n / 4)))[ks]? = some (stc (n / 4)) := get_set hs
    refine ⟨fun _ => ?_, fun _ => ?_⟩
    · refine Wp.call (by rfl) (by rfl) (take_ok s1 (by decide) (by decide)) ?_
      have X2 := (X.set (c := stc (n / 4))).set (c := stc (n / 4 / 7))
      simp only [w_runF, w_sSeq, w_sIf, w_tBl, w_tNot, w_tAnd, w_tOr, w_tYes, w_fAnd, w_fOr, w_fNot, w_fChain, w_fAp, w_fBM, a2, a1, a3, w_aCons, w_aNil, w_fC, w_sNx, w_sNo, w_sRet, w_sAsg, w_sDrop, w_sSetI, w_gNm, w_add, w_sub, w_mul, w_fdiv, w_mod, w_pow, w_lt, w_le, w_gt, w_ge, w_bB, w_eqI, w_neI, w_eqS, w_neS, w_isB, w_neg, w_isN, w_isBb, w_isi, w_tupN, w_lstN, w_finI, w_finB, w_finS, w_finN, w_impI, w_impS, w_impB, w_impR, w_var0, w_varS, w_sFor, w_iR1, w_isI, w_some, w_lenS, w_lenT, w_lenF, w_lenL, w_lenR, w_addSS, w_addTT, w_ixStr, w_ixTup, w_ixFl, w_ixLst, w_ixRef, w_slBS, w_slAS, w_slBT, w_slAT, w_slABF, w_tupleT, w_tupleL, w_tupleF, w_tupleR, w_listT, w_listF, w_listL, w_listR, w_iSeq, w_seqT, w_seqF, w_seqS, w_seqR, w_iEn, w_en1, w_sqT, w_iZp, w_fComp, imps_nil, imps_cons, at_1_0, at_2_0, at_2_1, at_3_0, at_3_1, at_3_2, at_4_0, at_4_1, at_4_2, at_4_3, at_5_0, at_5_1, at_5_2, at_5_3, at_5_4, startD, List.map, List.replicate, List.length, List.cons_append, List.nil_append, List.set_cons_succ, List.set_cons_zero, Nat.add_sub_cancel, Nat.reduceAdd, Nat.reduceSub, Nat.sub_self, Nat.zero_add, sq_ref X2.p]
      have b : 0 ≤ n / 4 % 7 ∧ n / 4 % 7 < 7 := ⟨Int.emod_nonneg _ (by decide), Int.emod_lt_of_pos _ (by decide)⟩
      refine Wp.at b.1 (by rw [X.v7]; exact b.2) fun v hv => ⟨by decide, ?_⟩
      have okv := X.v v (List.mem_of_getElem? hv)
      have ok : okSide ts there (.tup [.str "is", v]) := .inl ⟨v, okv, rfl⟩
      rw [List.set_set]
      exact Wp.finSet rfl (nice_plain 1 _ (okSide_nice ok)) ⟨_, _, ok, rfl⟩
    · obtain ⟨th0, th1, th⟩ := hth
      refine Wp.call (by rfl) (by rw [settleds, settleds, settleds]; rfl) (take_ok s1 (by omega) (by omega)) ?_
      simp only [w_runF, w_sSeq, w_sIf, w_tBl, w_tNot, w_tAnd, w_tOr, w_tYes, w_fAnd, w_fOr, w_fNot, w_fChain, w_fAp, w_fBM, a2, a1, a3, w_aCons, w_aNil, w_fC, w_sNx, w_sNo, w_sRet, w_sAsg, w_sDrop, w_sSetI, w_gNm, w_add, w_sub, w_mul, w_fdiv, w_mod, w_pow, w_lt, w_le, w_gt, w_ge, w_bB, w_eqI, w_neI, w_eqS, w_neS, w_isB, w_neg, w_isN, w_isBb, w_isi, w_tupN, w_lstN, w_finI, w_finB, w_finS, w_finN, w_impI, w_impS, w_impB, w_impR, w_var0, w_varS, w_sFor, w_iR1, w_isI, w_some, w_lenS, w_lenT, w_lenF, w_lenL, w_lenR, w_addSS, w_addTT, w_ixStr, w_ixTup, w_ixFl, w_ixLst, w_ixRef, w_slBS, w_slAS, w_slBT, w_slAT, w_slABF, w_tupleT, w_tupleL, w_tupleF, w_tupleR, w_listT, w_listF, w_listL, w_listR, w_iSeq, w_seqT, w_seqF, w_seqS, w_seqR, w_iEn, w_en1, w_sqT, w_iZp, w_fComp, imps_nil, imps_cons, at_1_0, at_2_0, at_2_1, at_3_0, at_3_1, at_3_2, at_4_0, at_4_1, at_4_2, at_4_3, at_5_0, at_5_1, at_5_2, at_5_3, at_5_4, startD, List.map, List.replicate, List.length, List.cons_append, List.nil_append, List.set_cons_succ, List.set_cons_zero, Nat.add_sub_cancel, Nat.reduceAdd, Nat.reduceSub, Nat.sub_self, Nat.zero_add]
      rw [List.set_set]
      have b : 0 ≤ n / 4 % (there.length : Int) ∧ n / 4 % (there.length : Int) < there.length := ⟨Int.emod_nonneg _ (by omega), Int.emod_lt_of_pos _ (by omega)⟩
      obtain ⟨k, ek⟩ := Int.eq_ofNat_of_zero_le b.1
      rw [ek] at b ⊢
      refine Wp.at b.1 b.2 fun z hz => ?_
      have hz : there[k]? = some z := hz
      obtain ⟨t, rfl, ht⟩ := th z (List.mem_of_getElem? hz)
      obtain ⟨w, kk, htab, w1, w4, _, _⟩ := X.tabAt ht
      simp only [w_runF, w_sSeq, w_sIf, w_tBl, w_tNot, w_tAnd, w_tOr, w_tYes, w_fAnd, w_fOr, w_fNot, w_fChain, w_fAp, w_fBM, a2, a1, a3, w_aCons, w_aNil, w_fC, w_sNx, w_sNo, w_sRet, w_sAsg, w_sDrop, w_sSetI, w_gNm, w_add, w_sub, w_mul, w_fdiv, w_mod, w_pow, w_lt, w_le, w_gt, w_ge, w_bB, w_eqI, w_neI, w_eqS, w_neS, w_isB, w_neg, w_isN, w_isBb, w_isi, w_tupN, w_lstN, w_finI, w_finB, w_finS, w_finN, w_impI, w_impS, w_impB, w_impR, w_var0, w_varS, w_sFor, w_iR1, w_isI, w_some, w_lenS, w_lenT, w_lenF, w_lenL, w_lenR, w_addSS, w_addTT, w_ixStr, w_ixTup, w_ixFl, w_ixLst, w_ixRef, w_slBS, w_slAS, w_slBT, w_slAT, w_slABF, w_tupleT, w_tupleL, w_tupleF, w_tupleR, w_listT, w_listF, w_listL, w_listR, w_iSeq, w_seqT, w_seqF, w_seqS, w_seqR, w_iEn, w_en1, w_sqT, w_iZp, w_fComp, imps_nil, imps_cons, at_1_0, at_2_0, at_2_1, at_3_0, at_3_1, at_3_2, at_4_0, at_4_1, at_4_2, at_4_3, at_5_0, at_5_1, at_5_2, at_5_3, at_5_4, startD, List.map, List.replicate, List.length, List.cons_append, List.nil_append, List.set_cons_succ, List.set_cons_zero, Nat.add_sub_cancel, Nat.reduceAdd, Nat.reduceSub, Nat.sub_self, Nat.zero_add]
      refine Wp.at (by omega) (by omega) fun z2 hz2 => ?_
      have hz2 : ts[t]? = some z2 := hz2
      rw [htab] at hz2
      cases hz2
      simp only [w_runF, w_sSeq, w_sIf, w_tBl, w_tNot, w_tAnd, w_tOr, w_tYes, w_fAnd, w_fOr, w_fNot, w_fChain, w_fAp, w_fBM, a2, a1, a3, w_aCons, w_aNil, w_fC, w_sNx, w_sNo, w_sRet, w_sAsg, w_sDrop, w_sSetI, w_gNm, w_add, w_sub, w_mul, w_fdiv, w_mod, w_pow, w_lt, w_le, w_gt, w_ge, w_bB, w_eqI, w_neI, w_eqS, w_neS, w_isB, w_neg, w_isN, w_isBb, w_isi, w_tupN, w_lstN, w_finI, w_finB, w_finS, w_finN, w_impI, w_impS, w_impB, w_impR, w_var0, w_varS, w_sFor, w_iR1, w_isI, w_some, w_lenS, w_lenT, w_lenF, w_lenL, w_lenR, w_addSS, w_addTT, w_ixStr, w_ixTup, w_ixFl, w_ixLst, w_ixRef, w_slBS, w_slAS, w_slBT, w_slAT, w_slABF, w_tupleT, w_tupleL, w_tupleF, w_tupleR, w_listT, w_listF, w_listL, w_listR, w_iSeq, w_seqT, w_seqF, w_seqS, w_seqR, w_iEn, w_en1, w_sqT, w_iZp, w_fComp, imps_nil, imps_cons, at_1_0, at_2_0, at_2_1, at_3_0, at_3_1, at_3_2, at_4_0, at_4_1, at_4_2, at_4_3, at_5_0, at_5_1, at_5_2, at_5_3, at_5_4, startD, List.map, List.replicate, List.length, List.cons_append, List.nil_append, List.set_cons_succ, List.set_cons_zero, Nat.add_sub_cancel, Nat.reduceAdd, Nat.reduceSub, Nat.sub_self, Nat.zero_add]
      have s2 : (m.set ks (stc (n / 4 / (there.length : Int))))[ks]? = some (stc (n / 4 / (there.length : Int))) := get_set hs
      refine Wp.call (by rfl) (by rfl) (take_ok s2 (by omega) (by omega)) ?_
      simp only [w_runF, w_sSeq, w_sIf, w_tBl, w_tNot, w_tAnd, w_tOr, w_tYes, w_fAnd, w_fOr, w_fNot, w_fChain, w_fAp, w_fBM, a2, a1, a3, w_aCons, w_aNil, w_fC, w_sNx, w_sNo, w_sRet, w_sAsg, w_sDrop, w_sSetI, w_gNm, w_add, w_sub, w_mul, w_fdiv, w_mod, w_pow, w_lt, w_le, w_gt, w_ge, w_bB, w_eqI, w_neI, w_eqS, w_neS, w_isB, w_neg, w_isN, w_isBb, w_isi, w_tupN, w_lstN, w_finI, w_finB, w_finS, w_finN, w_impI, w_impS, w_impB, w_impR, w_var0, w_varS, w_sFor, w_iR1, w_isI, w_some, w_lenS, w_lenT, w_lenF, w_lenL, w_lenR, w_addSS, w_addTT, w_ixStr, w_ixTup, w_ixFl, w_ixLst, w_ixRef, w_slBS, w_slAS, w_slBT, w_slAT, w_slABF, w_tupleT, w_tupleL, w_tupleF, w_tupleR, w_listT, w_listF, w_listL, w_listR, w_iSeq, w_seqT, w_seqF, w_seqS, w_seqR, w_iEn, w_en1, w_sqT, w_iZp, w_fComp, imps_nil, imps_cons, at_1_0, at_2_0, at_2_1, at_3_0, at_3_1, at_3_2, at_4_0, at_4_1, at_4_2, at_4_3, at_5_0, at_5_1, at_5_2, at_5_3, at_5_4, startD, List.map, List.replicate, List.length, List.cons_append, List.nil_append, List.set_cons_succ, List.set_cons_zero, Nat.add_sub_cancel, Nat.reduceAdd, Nat.reduceSub, Nat.sub_self, Nat.zero_add]
      rw [List.set_set]
      have b3 : 0 ≤ n / 4 / (there.length : Int) % w ∧ n / 4 / (there.length : Int) % w < w := ⟨Int.emod_nonneg _ (by omega), Int.emod_lt_of_pos _ (by omega)⟩
      have ok : okSide ts there (.tup [.str "cell", .int (k : Int), .int (n / 4 / (there.length : Int) % w)]) := .inr ⟨k, t, _, w, kk, rfl, hz, htab, b3.1, b3.2⟩
      exact ⟨by decide, Wp.finSet rfl (nice_plain 1 _ (okSide_nice ok)) ⟨_, _, ok, rfl⟩⟩
  obtain ⟨_, e, d, n', h, rfl⟩ := key
  exact ⟨d, n', h, e⟩
end G06
set_option Elab.async false
set_option linter.all false
set_option autoImplicit false
set_option maxRecDepth 100000
set_option maxHeartbeats 1000000
namespace G06
open PySem PySem.Spec PyProof.Rows L2 M3
/-- the state at ks, a list made here at the end -/
abbrev MM (m : Mem) (ks : Nat) (n : Int) (xs : List D) : Mem := m.set ks (stc n) ++ [.lst xs]
section
variable {m : Mem} {ks : Nat} {n n2 : Int} {xs ys : List D}
theorem MM_st (h : ks < m.length) : (MM m ks n xs)[ks]? = some (stc n) := by
  rw [List.getElem?_append_left (by rw [List.length_set]; exact h), List.getElem?_set_self h]
theorem MM_set (h : ks < m.length) : (MM m ks n xs).set ks (stc n2) = MM m ks n2 xs := by
  unfold MM
  rw [List.set_append_left _ _ (by rw [List.length_set]; exact h), List.set_set]
theorem MM_last : (MM m ks n xs)[m.length]? = some (.lst xs) := by
  have := last_get (m := m.set ks (stc n)) (c := .lst xs)
  rw [List.length_set] at this
  exact this
theorem MM_lset : (MM m ks n xs).set m.length (.lst ys) = MM m ks n ys := by
  have := last_set (m := m.set ks (stc n)) (c := .lst xs) (e := .lst ys)
  rw [List.length_set] at this
  exact this
theorem MM_first (h : m[ks]? = some (stc n)) : m ++ [.lst xs] = MM m ks n xs := by
  have e : m.set ks (stc n) = m := by
    apply List.ext_getElem?
    intro i
    by_cases hi : ks = i
    · subst hi
      rw [get_set h, h]
    · rw [get_set_ne hi]
  unfold MM
  rw [e]
end
def isWord (z : Str) : Prop := z = "same" ∨ z = "unlike" ∨ z = "less"
def okTest (ts there : List D) (d : D) : Prop := ∃ a z b, d = .tup [a, .str z, b] ∧ okSide ts there a ∧ okSide ts there b ∧ isWord z
def okTests (ts there : List D) (d : D) : Prop := ∃ xs, d = .tup xs ∧ 1 ≤ xs.length ∧ xs.length ≤ 3 ∧ ∀ x ∈ xs, okTest ts there x
theorem isWord_ok {z : Str} (h : isWord z) : PyData.strOk z = true := by rcases h with rfl | rfl | rfl <;> decide +kernel
theorem okTest_nice {ts there : List D} {d : D} (h : okTest ts there d) : nice 2 d = true := by
  obtain ⟨a, z, b, rfl, h1, h2, hz⟩ := h
  have e1 := okSide_nice h1
  have e2 := okSide_nice h2
  have e3 := isWord_ok hz
  show (nice 1 a && (PyData.strOk z && (nice 1 b && true))) = true
  rw [e1, e2, e3]; rfl
theorem okTests_nice {ts there : List D} {d : D} (h : okTests ts there d) : nice 3 d = true := by
  obtain ⟨xs, rfl, _, _, h⟩ := h
  exact nices_iff.mpr fun x hx => okTest_nice (h x hx)
theorem side_set {ts there : List D} {d : D} (h : okSide ts there d) : settled d = true := plain_settled _ (nice_plain 1 d (okSide_nice h))
theorem tests_ok {ts vs there : List D} {kp ks : Nat} {m : Mem} {n : Int} (X : Ctx ts vs kp ks m) (hs : m[ks]? = some (stc n)) (hth : okThere ts there) (hts : settleds ts = true) :
    ∃ d n', okTests ts there d ∧ F__law_tests [.ref ks, .tup there, .tup ts, .ref kp] m = some (d, m.set ks (stc n')) := by
  have key : Wp (F__law_tests [.ref ks, .tup there, .tup ts, .ref kp] m) fun r => ∃ d n', okTests ts there d ∧ r = (d, m.set ks (stc n')) := by
    have hks : ks < m.length := (List.getElem?_eq_some_iff.mp hs).1
    have hthS : settleds there = true := plains_settled _ (nices_plain 0 _ (okThere_nice hth))
    have XX : ∀ n xs, Ctx ts vs kp ks (MM m ks n xs) := fun n xs => X.set.app
    have sd : ∀ n xs, ∃ d n', okSide ts there d ∧ F__law_side [.ref ks, .tup there, .tup ts, .ref kp] (MM m ks n xs) = some (d, MM m ks n' xs) := fun n xs => by
      obtain ⟨d, n', h1, h2⟩ := side_ok (XX n xs) (MM_st hks) hth
      rw [MM_set hks] at h2
      exact ⟨d, n', h1, h2⟩
    have args : settleds [.ref ks, .tup there, .tup ts, .ref kp] = true := by
      show (true && (settleds there && (settleds ts && (true && true)))) = true
      rw [hthS, hts]; rfl
    unfold F__law_tests b__law_tests
    simp only [w_runF, w_sSeq, w_sIf, w_tBl, w_tNot, w_tAnd, w_tOr, w_tYes, w_fAnd, w_fOr, w_fNot, w_fChain, w_fAp, w_fBM, a2, a1, a3, w_aCons, w_aNil, w_fC, w_sNx, w_sNo, w_sRet, w_sAsg, w_sDrop, w_sSetI, w_gNm, w_add, w_sub, w_mul, w_fdiv, w_mod, w_pow, w_lt, w_le, w_gt, w_ge, w_bB, w_eqI, w_neI, w_eqS, w_neS, w_isB, w_neg, w_isN, w_isBb, w_isi, w_tupN, w_lstN, w_finI, w_finB, w_finS, w_finN, w_impI, w_impS, w_impB, w_impR, w_var0, w_varS, w_sFor, w_iR1, w_isI, w_some, w_lenS, w_lenT, w_lenF, w_lenL, w_lenR, w_addSS, w_addTT, w_ixStr, w_ixTup, w_ixFl, w_ixLst, w_ixRef, w_slBS, w_slAS, w_slBT, w_slAT, w_slABF, w_tupleT, w_tupleL, w_tupleF, w_tupleR, w_listT, w_listF, w_listL, w_listR, w_iSeq, w_seqT, w_seqF, w_seqS, w_seqR, w_iEn, w_en1, w_sqT, w_iZp, w_fComp, imps_nil, imps_cons, at_1_0, at_2_0, at_2_1, at_3_0, at_3_1, at_3_2, at_4_0, at_4_1, at_4_2, at_4_3, at_5_0, at_5_1, at_5_2, at_5_3, at_5_4, startD, List.map, List.replicate, List.length, List.cons_append, List.nil_append, List.set_cons_succ, List.set_cons_zero, Nat.add_sub_cancel, Nat.reduceAdd, Nat.reduceSub, Nat.sub_self, Nat.zero_add]
    show 0 ≤ 1000 ∧ _
    refine ⟨by decide, by decide, ?_⟩
    rw [imp_lst (by rfl), MM_first hs]
    refine Wp.call (by rfl) (by rfl) (take_ok (MM_st hks) (by decide) (by decide)) ?_
    rw [MM_set hks]
    simp only [w_runF, w_sSeq, w_sIf, w_tBl, w_tNot, w_tAnd, w_tOr, w_tYes, w_fAnd, w_fOr, w_fNot, w_fChain, w_fAp, w_fBM, a2, a1, a3, w_aCons, w_aNil, w_fC, w_sNx, w_sNo, w_sRet, w_sAsg, w_sDrop, w_sSetI, w_gNm, w_add, w_sub, w_mul, w_fdiv, w_mod, w_pow, w_lt, w_le, w_gt, w_ge, w_bB, w_eqI, w_neI, w_eqS, w_neS, w_isB, w_neg, w_isN, w_isBb, w_isi, w_tupN, w_lstN, w_finI, w_finB, w_finS, w_finN, w_impI, w_impS, w_impB, w_impR, w_var0, w_varS, w_sFor, w_iR1, w_isI, w_some, w_lenS, w_lenT, w_lenF, w_lenL, w_lenR, w_addSS, w_addTT, w_ixStr, w_ixTup, w_ixFl, w_ixLst, w_ixRef, w_slBS, w_slAS, w_slBT, w_slAT, w_slABF, w_tupleT, w_tupleL, w_tupleF, w_tupleR, w_listT, w_listF, w_listL, w_listR, w_iSeq, w_seqT, w_seqF, w_seqS, w_seqR, w_iEn, w_en1, w_sqT, w_iZp, w_fComp, imps_nil, imps_cons, at_1_0, at_2_0, at_2_1, at_3_0, at_3_1, at_3_2, at_4_0, at_4_1, at_4_2, at_4_3, at_5_0, at_5_1, at_5_2, at_5_3, at_5_4, startD, List.map, List.replicate, List.length, List.cons_append, List.nil_append, List.set_cons_succ, List.set_cons_zero, Nat.add_sub_cancel, Nat.reduceAdd, Nat.reduceSub, Nat.sub_self, Nat.zero_add]
    have b : 0 ≤ n % 6 ∧ n % 6 < 6 := ⟨Int.emod_nonneg _ (by decide), Int.emod_lt_of_pos _ (by decide)⟩
    refine Wp.at b.1 b.2 fun z hz => ?_
    have hz : ∃ j : Int, z = .int j ∧ 1 ≤ j ∧ j ≤ 3 := by
      have := List.mem_of_getElem? hz
      simp only [List.mem_cons, List.not_mem_nil, or_false] at this
      rcases this with rfl | rfl | rfl | rfl | rfl | rfl <;> exact ⟨_, rfl, by decide, by decide⟩
    obtain ⟨j, rfl, j1, j3⟩ := hz
    simp only [w_runF, w_sSeq, w_sIf, w_tBl, w_tNot, w_tAnd, w_tOr, w_tYes, w_fAnd, w_fOr, w_fNot, w_fChain, w_fAp, w_fBM, a2, a1, a3, w_aCons, w_aNil, w_fC, w_sNx, w_sNo, w_sRet, w_sAsg, w_sDrop, w_sSetI, w_gNm, w_add, w_sub, w_mul, w_fdiv, w_mod, w_pow, w_lt, w_le, w_gt, w_ge, w_bB, w_eqI, w_neI, w_eqS, w_neS, w_isB, w_neg, w_isN, w_isBb, w_isi, w_tupN, w_lstN, w_finI, w_finB, w_finS, w_finN, w_impI, w_impS, w_impB, w_impR, w_var0, w_varS, w_sFor, w_iR1, w_isI, w_some, w_lenS, w_lenT, w_lenF, w_lenL, w_lenR, w_addSS, w_addTT, w_ixStr, w_ixTup, w_ixFl, w_ixLst, w_ixRef, w_slBS, w_slAS, w_slBT, w_slAT, w_slABF, w_tupleT, w_tupleL, w_tupleF, w_tupleR, w_listT, w_listF, w_listL, w_listR, w_iSeq, w_seqT, w_seqF, w_seqS, w_seqR, w_iEn, w_en1, w_sqT, w_iZp, w_fComp, imps_nil, imps_cons, at_1_0, at_2_0, at_2_1, at_3_0, at_3_1, at_3_2, at_4_0, at_4_1, at_4_2, at_4_3, at_5_0, at_5_1, at_5_2, at_5_3, at_5_4, startD, List.map, List.replicate, List.length, List.cons_append, List.nil_append, List.set_cons_succ, List.set_cons_zero, Nat.add_sub_cancel, Nat.reduceAdd, Nat.reduceSub, Nat.sub_self, Nat.zero_add]
    refine ⟨rOk_small (by omega), by omega, ?_⟩
    refine Wp.for (fun k l m' => ∃ xs n v5 v6 v7, m' = MM m ks n xs ∧ xs.length = k ∧ (∀ x ∈ xs, okTest ts there x) ∧ l = [some (.ref ks), some (.tup there), some (.tup ts), some (.ref kp), some (.ref m.length), v5, v6, v7]) 0 ⟨[], n / 6, none, none, none, rfl, rfl, by simp, rfl⟩ ?_ ?_
    · rintro i d l m' hd ⟨xs, n, v5, v6, v7, rfl, hl, hx, rfl⟩
      obtain ⟨hi, rfl⟩ := rngD_get hd
      simp only [w_runF, w_sSeq, w_sIf, w_tBl, w_tNot, w_tAnd, w_tOr, w_tYes, w_fAnd, w_fOr, w_fNot, w_fChain, w_fAp, w_fBM, a2, a1, a3, w_aCons, w_aNil, w_fC, w_sNx, w_sNo, w_sRet, w_sAsg, w_sDrop, w_sSetI, w_gNm, w_add, w_sub, w_mul, w_fdiv, w_mod, w_pow, w_lt, w_le, w_gt, w_ge, w_bB, w_eqI, w_neI, w_eqS, w_neS, w_isB, w_neg, w_isN, w_isBb, w_isi, w_tupN, w_lstN, w_finI, w_finB, w_finS, w_finN, w_impI, w_impS, w_impB, w_impR, w_var0, w_varS, w_sFor, w_iR1, w_isI, w_some, w_lenS, w_lenT, w_lenF, w_lenL, w_lenR, w_addSS, w_addTT, w_ixStr, w_ixTup, w_ixFl, w_ixLst, w_ixRef, w_slBS, w_slAS, w_slBT, w_slAT, w_slABF, w_tupleT, w_tupleL, w_tupleF, w_tupleR, w_listT, w_listF, w_listL, w_listR, w_iSeq, w_seqT, w_seqF, w_seqS, w_seqR, w_iEn, w_en1, w_sqT, w_iZp, w_fComp, imps_nil, imps_cons, at_1_0, at_2_0, at_2_1, at_3_0, at_3_1, at_3_2, at_4_0, at_4_1, at_4_2, at_4_3, at_5_0, at_5_1, at_5_2, at_5_3, at_5_4, startD, List.map, List.replicate, List.length, List.cons_append, List.nil_append, List.set_cons_succ, List.set_cons_zero, Nat.add_sub_cancel, Nat.reduceAdd, Nat.reduceSub, Nat.sub_self, Nat.zero_add]
      refine ⟨by decide, ?_⟩
      refine Wp.call (by rfl) (by rfl) (take_ok (MM_st hks) (by decide) (by decide)) ?_
      rw [MM_set hks]
      simp only [w_runF, w_sSeq, w_sIf, w_tBl, w_tNot, w_tAnd, w_tOr, w_tYes, w_fAnd, w_fOr, w_fNot, w_fChain, w_fAp, w_fBM, a2, a1, a3, w_aCons, w_aNil, w_fC, w_sNx, w_sNo, w_sRet, w_sAsg, w_sDrop, w_sSetI, w_gNm, w_add, w_sub, w_mul, w_fdiv, w_mod, w_pow, w_lt, w_le, w_gt, w_ge, w_bB, w_eqI, w_neI, w_eqS, w_neS, w_isB, w_neg, w_isN, w_isBb, w_isi, w_tupN, w_lstN, w_finI, w_finB, w_finS, w_finN, w_impI, w_impS, w_impB, w_impR, w_var0, w_varS, w_sFor, w_iR1, w_isI, w_some, w_lenS, w_lenT, w_lenF, w_lenL, w_lenR, w_addSS, w_addTT, w_ixStr, w_ixTup, w_ixFl, w_ixLst, w_ixRef, w_slBS, w_slAS, w_slBT, w_slAT, w_slABF, w_tupleT, w_tupleL, w_tupleF, w_tupleR, w_listT, w_listF, w_listL, w_listR, w_iSeq, w_seqT, w_seqF, w_seqS, w_seqR, w_iEn, w_en1, w_sqT, w_iZp, w_fComp, imps_nil, imps_cons, at_1_0, at_2_0, at_2_1, at_3_0, at_3_1, at_3_2, at_4_0, at_4_1, at_4_2, at_4_3, at_5_0, at_5_1, at_5_2, at_5_3, at_5_4, startD, List.map, List.replicate, List.length, List.cons_append, List.nil_append, List.set_cons_succ, List.set_cons_zero, Nat.add_sub_cancel, Nat.reduceAdd, Nat.reduceSub, Nat.sub_self, Nat.zero_add]
      have b : 0 ≤ n % 3 ∧ n % 3 < 3 := ⟨Int.emod_nonneg _ (by decide), Int.emod_lt_of_pos _ (by decide)⟩
      refine Wp.at b.1 b.2 fun z hz => ?_
      have hz : ∃ y : Str, z = .str y ∧ isWord y := by
        have := List.mem_of_getElem? hz
        simp only [List.mem_cons, List.not_mem_nil, or_false] at this
        rcases this with rfl | rfl | rfl
        · exact ⟨_, rfl, .inl rfl⟩
        · exact ⟨_, rfl, .inr (.inl rfl)⟩
        · exact ⟨_, rfl, .inr (.inr rfl)⟩
      obtain ⟨y, rfl, hy⟩ := hz
      simp only [w_runF, w_sSeq, w_sIf, w_tBl, w_tNot, w_tAnd, w_tOr, w_tYes, w_fAnd, w_fOr, w_fNot, w_fChain, w_fAp, w_fBM, a2, a1, a3, w_aCons, w_aNil, w_fC, w_sNx, w_sNo, w_sRet, w_sAsg, w_sDrop, w_sSetI, w_gNm, w_add, w_sub, w_mul, w_fdiv, w_mod, w_pow, w_lt, w_le, w_gt, w_ge, w_bB, w_eqI, w_neI, w_eqS, w_neS, w_isB, w_neg, w_isN, w_isBb, w_isi, w_tupN, w_lstN, w_finI, w_finB, w_finS, w_finN, w_impI, w_impS, w_impB, w_impR, w_var0, w_varS, w_sFor, w_iR1, w_isI, w_some, w_lenS, w_lenT, w_lenF, w_lenL, w_lenR, w_addSS, w_addTT, w_ixStr, w_ixTup, w_ixFl, w_ixLst, w_ixRef, w_slBS, w_slAS, w_slBT, w_slAT, w_slABF, w_tupleT, w_tupleL, w_tupleF, w_tupleR, w_listT, w_listF, w_listL, w_listR, w_iSeq, w_seqT, w_seqF, w_seqS, w_seqR, w_iEn, w_en1, w_sqT, w_iZp, w_fComp, imps_nil, imps_cons, at_1_0, at_2_0, at_2_1, at_3_0, at_3_1, at_3_2, at_4_0, at_4_1, at_4_2, at_4_3, at_5_0, at_5_1, at_5_2, at_5_3, at_5_4, startD, List.map, List.replicate, List.length, List.cons_append, List.nil_append, List.set_cons_succ, List.set_cons_zero, Nat.add_sub_cancel, Nat.reduceAdd, Nat.reduceSub, Nat.sub_self, Nat.zero_add]
      obtain ⟨d1, n1, o1, f1⟩ := sd (n / 3) xs
      refine Wp.call (by rfl) args f1 ?_
      simp only [w_runF, w_sSeq, w_sIf, w_tBl, w_tNot, w_tAnd, w_tOr, w_tYes, w_fAnd, w_fOr, w_fNot, w_fChain, w_fAp, w_fBM, a2, a1, a3, w_aCons, w_aNil, w_fC, w_sNx, w_sNo, w_sRet, w_sAsg, w_sDrop, w_sSetI, w_gNm, w_add, w_sub, w_mul, w_fdiv, w_mod, w_pow, w_lt, w_le, w_gt, w_ge, w_bB, w_eqI, w_neI, w_eqS, w_neS, w_isB, w_neg, w_isN, w_isBb, w_isi, w_tupN, w_lstN, w_finI, w_finB, w_finS, w_finN, w_impI, w_impS, w_impB, w_impR, w_var0, w_varS, w_sFor, w_iR1, w_isI, w_some, w_lenS, w_lenT, w_lenF, w_lenL, w_lenR, w_addSS, w_addTT, w_ixStr, w_ixTup, w_ixFl, w_ixLst, w_ixRef, w_slBS, w_slAS, w_slBT, w_slAT, w_slABF, w_tupleT, w_tupleL, w_tupleF, w_tupleR, w_listT, w_listF, w_listL, w_listR, w_iSeq, w_seqT, w_seqF, w_seqS, w_seqR, w_iEn, w_en1, w_sqT, w_iZp, w_fComp, imps_nil, imps_cons, at_1_0, at_2_0, at_2_1, at_3_0, at_3_1, at_3_2, at_4_0, at_4_1, at_4_2, at_4_3, at_5_0, at_5_1, at_5_2, at_5_3, at_5_4, startD, List.map, List.replicate, List.length, List.cons_append, List.nil_append, List.set_cons_succ, List.set_cons_zero, Nat.add_sub_cancel, Nat.reduceAdd, Nat.reduceSub, Nat.sub_self, Nat.zero_add, imp_plain (nice_plain 1 d1 (okSide_nice o1))]
      obtain ⟨d2, n2, o2, f2⟩ := sd n1 xs
      refine ⟨okL_ref MM_last, Wp.call (by rfl) args f2 ?_⟩
      simp only [w_runF, w_sSeq, w_sIf, w_tBl, w_tNot, w_tAnd, w_tOr, w_tYes, w_fAnd, w_fOr, w_fNot, w_fChain, w_fAp, w_fBM, a2, a1, a3, w_aCons, w_aNil, w_fC, w_sNx, w_sNo, w_sRet, w_sAsg, w_sDrop, w_sSetI, w_gNm, w_add, w_sub, w_mul, w_fdiv, w_mod, w_pow, w_lt, w_le, w_gt, w_ge, w_bB, w_eqI, w_neI, w_eqS, w_neS, w_isB, w_neg, w_isN, w_isBb, w_isi, w_tupN, w_lstN, w_finI, w_finB, w_finS, w_finN, w_impI, w_impS, w_impB, w_impR, w_var0, w_varS, w_sFor, w_iR1, w_isI, w_some, w_lenS, w_lenT, w_lenF, w_lenL, w_lenR, w_addSS, w_addTT, w_ixStr, w_ixTup, w_ixFl, w_ixLst, w_ixRef, w_slBS, w_slAS, w_slBT, w_slAT, w_slABF, w_tupleT, w_tupleL, w_tupleF, w_tupleR, w_listT, w_listF, w_listL, w_listR, w_iSeq, w_seqT, w_seqF, w_seqS, w_seqR, w_iEn, w_en1, w_sqT, w_iZp, w_fComp, imps_nil, imps_cons, at_1_0, at_2_0, at_2_1, at_3_0, at_3_1, at_3_2, at_4_0, at_4_1, at_4_2, at_4_3, at_5_0, at_5_1, at_5_2, at_5_3, at_5_4, startD, List.map, List.replicate, List.length, List.cons_append, List.nil_append, List.set_cons_succ, List.set_cons_zero, Nat.add_sub_cancel, Nat.reduceAdd, Nat.reduceSub, Nat.sub_self, Nat.zero_add]
      have ok : okTest ts there (.tup [d1, .str y, d2]) := ⟨_, _, _, rfl, o1, o2, hy⟩
      refine ⟨by decide, Wp.append MM_last (plain_settled _ (nice_plain 2 _ (okTest_nice ok))) (by omega) ⟨okNil, ?_⟩⟩
      rw [MM_lset]
      refine ⟨_, _, _, _, _, rfl, by simp [hl], fun x hx2 => ?_, rfl⟩
      rcases List.mem_append.mp hx2 with h | h
      · exact hx x h
      · obtain rfl : x = _ := by simpa using h
        exact ok
    · rintro l m' ⟨xs, n, v5, v6, v7, rfl, hl, hx, rfl⟩
      simp only [w_runF, w_sSeq, w_sIf, w_tBl, w_tNot, w_tAnd, w_tOr, w_tYes, w_fAnd, w_fOr, w_fNot, w_fChain, w_fAp, w_fBM, a2, a1, a3, w_aCons, w_aNil, w_fC, w_sNx, w_sNo, w_sRet, w_sAsg, w_sDrop, w_sSetI, w_gNm, w_add, w_sub, w_mul, w_fdiv, w_mod, w_pow, w_lt, w_le, w_gt, w_ge, w_bB, w_eqI, w_neI, w_eqS, w_neS, w_isB, w_neg, w_isN, w_isBb, w_isi, w_tupN, w_lstN, w_finI, w_finB, w_finS, w_finN, w_impI, w_impS, w_impB, w_impR, w_var0, w_varS, w_sFor, w_iR1, w_isI, w_some, w_lenS, w_lenT, w_lenF, w_lenL, w_lenR, w_addSS, w_addTT, w_ixStr, w_ixTup, w_ixFl, w_ixLst, w_ixRef, w_slBS, w_slAS, w_slBT, w_slAT, w_slABF, w_tupleT, w_tupleL, w_tupleF, w_tupleR, w_listT, w_listF, w_listL, w_listR, w_iSeq, w_seqT, w_seqF, w_seqS, w_seqR, w_iEn, w_en1, w_sqT, w_iZp, w_fComp, imps_nil, imps_cons, at_1_0, at_2_0, at_2_1, at_3_0, at_3_1, at_3_2, at_4_0, at_4_1, at_4_2, at_4_3, at_5_0, at_5_1, at_5_2, at_5_3, at_5_4, startD, List.map, List.replicate, List.length, List.cons_append, List.nil_append, List.set_cons_succ, List.set_cons_zero, Nat.add_sub_cancel, Nat.reduceAdd, Nat.reduceSub, Nat.sub_self, Nat.zero_add, rl_ref MM_last]
      rw [rngD_length] at hl
      have ok : okTests ts there (.tup xs) := ⟨xs, rfl, by omega, by omega, hx⟩
      exact Wp.finSetQ hks rfl (nice_plain 3 _ (okTests_nice ok)) ⟨_, _, ok, rfl⟩
  obtain ⟨_, e, d, n', h, rfl⟩ := key
  exact ⟨d, n', h, e⟩
end G06
set_option Elab.async false
set_option linter.all false
set_option autoImplicit false
set_option maxRecDepth 100000
set_option maxHeartbeats 1000000
namespace G06
open PySem PySem.Spec PyProof.Rows L2 M3
def okCol (ts : List D) (t : Nat) (d : D) : Prop := ∃ c w k : Int, d = .int c ∧ ts[t]? = some (.tup [.int w, .int k]) ∧ 0 ≤ c ∧ c < w
def okRule (ts : List D) (d : D) : Prop := (∃ t : Nat, ∃ q, t < ts.length ∧ d = .tup [.str "never", .int (t : Int), q] ∧ okTests ts [.int (t : Int)] q) ∨
  (∃ t u : Nat, ∃ q, t < ts.length ∧ u < ts.length ∧ d = .tup [.str "apart", .int (t : Int), .int (u : Int), q] ∧ okTests ts [.int (t : Int), .int (u : Int)] q) ∨
  (∃ t u : Nat, ∃ cs es, t < ts.length ∧ u < ts.length ∧ d = .tup [.str "tie", .int (t : Int), .tup cs, .int (u : Int), .tup es] ∧ 1 ≤ cs.length ∧ cs.length ≤ 3 ∧ es.length = cs.length ∧ (∀ c ∈ cs, okCol ts t c) ∧ ∀ c ∈ es, okCol ts u c)
theorem okCols_nice {ts : List D} {t : Nat} {cs : List D} (h : ∀ c ∈ cs, okCol ts t c) : nices 3 cs = true := nices_iff.mpr fun d hd => by obtain ⟨c, w, k, rfl, _⟩ := h d hd; rfl
theorem okRule_nice {ts : List D} {d : D} (h : okRule ts d) : nice 4 d = true := by
  rcases h with ⟨t, q, _, rfl, h⟩ | ⟨t, u, q, _, _, rfl, h⟩ | ⟨t, u, cs, es, _, _, rfl, _, _, _, h1, h2⟩
  · have e := okTests_nice h
    show (PyData.strOk "never" && (true && (nice 3 q && true))) = true
    rw [e]; decide +kernel
  · have e := okTests_nice h
    show (PyData.strOk "apart" && (true && (true && (nice 3 q && true)))) = true
    rw [e]; decide +kernel
  · have e1 := okCols_nice h1
    have e2 := okCols_nice h2
    have e1' : nices 2 cs = true := nices_iff.mpr fun d hd => by obtain ⟨c, w, k, rfl, _⟩ := h1 d hd; rfl
    have e2' : nices 2 es = true := nices_iff.mpr fun d hd => by obtain ⟨c, w, k, rfl, _⟩ := h2 d hd; rfl
    show (PyData.strOk "tie" && (true && (nices 2 cs && (true && (nices 2 es && true))))) = true
    rw [e1', e2']; decide +kernel
theorem rule_ok (c : Int) {ts vs : List D} {kp : Nat} {m : Mem} (X : Ctx ts vs kp m.length m) (hts : settleds ts = true) : ∃ d, okRule ts d ∧ F__law_rule [.int c, .tup ts, .ref kp] m = some (d, m) := by
  have key : Wp (F__law_rule [.int c, .tup ts, .ref kp] m) fun r => ∃ d, okRule ts d ∧ r = (d, m) := by
    have XX : ∀ n, Ctx ts vs kp m.length (m ++ [stc n]) := fun n => X.app
    have tk : ∀ {n size : Int}, 0 < size → size < 1000000 → F__law_take [.ref m.length, .int size] (m ++ [stc n]) = some (.int (n % size), m ++ [stc (n / size)]) := fun {n size} h0 h1 => by
      have := take_ok (ks := m.length) (size := size) (n := n) (m := m ++ [stc n]) last_get h0 h1
      rw [last_set] at this
      exact this
    have t0 := X.t0
    have t1 := X.t1
    unfold F__law_rule b__law_rule
    simp only [w_runF, w_sSeq, w_sIf, w_tBl, w_tNot, w_tAnd, w_tOr, w_tYes, w_fAnd, w_fOr, w_fNot, w_fChain, w_fAp, w_fBM, a2, a1, a3, w_aCons, w_aNil, w_fC, w_sNx, w_sNo, w_sRet, w_sAsg, w_sDrop, w_sSetI, w_gNm, w_add, w_sub, w_mul, w_fdiv, w_mod, w_pow, w_lt, w_le, w_gt, w_ge, w_bB, w_eqI, w_neI, w_eqS, w_neS, w_isB, w_neg, w_isN, w_isBb, w_isi, w_tupN, w_lstN, w_finI, w_finB, w_finS, w_finN, w_impI, w_impS, w_impB, w_impR, w_var0, w_varS, w_sFor, w_iR1, w_isI, w_some, w_lenS, w_lenT, w_lenF, w_lenL, w_lenR, w_addSS, w_addTT, w_ixStr, w_ixTup, w_ixFl, w_ixLst, w_ixRef, w_slBS, w_slAS, w_slBT, w_slAT, w_slABF, w_tupleT, w_tupleL, w_tupleF, w_tupleR, w_listT, w_listF, w_listL, w_listR, w_iSeq, w_seqT, w_seqF, w_seqS, w_seqR, w_iEn, w_en1, w_sqT, w_iZp, w_fComp, imps_nil, imps_cons, at_1_0, at_2_0, at_2_1, at_3_0, at_3_1, at_3_2, at_4_0, at_4_1, at_4_2, at_4_3, at_5_0, at_5_1, at_5_2, at_5_3, at_5_4, wipeD, startD, List.map, List.replicate, List.length, List.cons_append, List.nil_append, List.set_cons_succ, List.set_cons_zero, Nat.add_sub_cancel, Nat.reduceAdd, Nat.reduceSub, Nat.sub_self, Nat.zero_add]
    obtain ⟨n, hn, e1⟩ := mix_ok c 2147483543 (by decide) (by decide) m
    refine Wp.call (by rfl) (by rfl) e1 ?_
    simp only [w_runF, w_sSeq, w_sIf, w_tBl, w_tNot, w_tAnd, w_tOr, w_tYes, w_fAnd, w_fOr, w_fNot, w_fChain, w_fAp, w_fBM, a2, a1, a3, w_aCons, w_aNil, w_fC, w_sNx, w_sNo, w_sRet, w_sAsg, w_sDrop, w_sSetI, w_gNm, w_add, w_sub, w_mul, w_fdiv, w_mod, w_pow, w_lt, w_le, w_gt, w_ge, w_bB, w_eqI, w_neI, w_eqS, w_neS, w_isB, w_neg, w_isN, w_isBb, w_isi, w_tupN, w_lstN, w_finI, w_finB, w_finS, w_finN, w_impI, w_impS, w_impB, w_impR, w_var0, w_varS, w_sFor, w_iR1, w_isI, w_some, w_lenS, w_lenT, w_lenF, w_lenL, w_lenR, w_addSS, w_addTT, w_ixStr, w_ixTup, w_ixFl, w_ixLst, w_ixRef, w_slBS, w_slAS, w_slBT, w_slAT, w_slABF, w_tupleT, w_tupleL, w_tupleF, w_tupleR, w_listT, w_listF, w_listL, w_listR, w_iSeq, w_seqT, w_seqF, w_seqS, w_seqR, w_iEn, w_en1, w_sqT, w_iZp, w_fComp, imps_nil, imps_cons, at_1_0, at_2_0, at_2_1, at_3_0, at_3_1, at_3_2, at_4_0, at_4_1, at_4_2, at_4_3, at_5_0, at_5_1, at_5_2, at_5_3, at_5_4, wipeD, startD, List.map, List.replicate, List.length, List.cons_append, List.nil_append, List.set_cons_succ, List.set_cons_zero, Nat.add_sub_cancel, Nat.reduceAdd, Nat.reduceSub, Nat.sub_self, Nat.zero_add, imp_lst (show settleds [D.int n] = true from rfl)]
    refine ⟨by decide, Wp.call (by rfl) (by rfl) (tk (by decide) (by decide)) ?_⟩
    simp only [w_runF, w_sSeq, w_sIf, w_tBl, w_tNot, w_tAnd, w_tOr, w_tYes, w_fAnd, w_fOr, w_fNot, w_fChain, w_fAp, w_fBM, a2, a1, a3, w_aCons, w_aNil, w_fC, w_sNx, w_sNo, w_sRet, w_sAsg, w_sDrop, w_sSetI, w_gNm, w_add, w_sub, w_mul, w_fdiv, w_mod, w_pow, w_lt, w_le, w_gt, w_ge, w_bB, w_eqI, w_neI, w_eqS, w_neS, w_isB, w_neg, w_isN, w_isBb, w_isi, w_tupN, w_lstN, w_finI, w_finB, w_finS, w_finN, w_impI, w_impS, w_impB, w_impR, w_var0, w_varS, w_sFor, w_iR1, w_isI, w_some, w_lenS, w_lenT, w_lenF, w_lenL, w_lenR, w_addSS, w_addTT, w_ixStr, w_ixTup, w_ixFl, w_ixLst, w_ixRef, w_slBS, w_slAS, w_slBT, w_slAT, w_slABF, w_tupleT, w_tupleL, w_tupleF, w_tupleR, w_listT, w_listF, w_listL, w_listR, w_iSeq, w_seqT, w_seqF, w_seqS, w_seqR, w_iEn, w_en1, w_sqT, w_iZp, w_fComp, imps_nil, imps_cons, at_1_0, at_2_0, at_2_1, at_3_0, at_3_1, at_3_2, at_4_0, at_4_1, at_4_2, at_4_3, at_5_0, at_5_1, at_5_2, at_5_3, at_5_4, wipeD, startD, List.map, List.replicate, List.length, List.cons_append, List.nil_append, List.set_cons_succ, List.set_cons_zero, Nat.add_sub_cancel, Nat.reduceAdd, Nat.reduceSub, Nat.sub_self, Nat.zero_add]
    refine Wp.call (by rfl) (by rfl) (tk (by omega) (by omega)) ?_
    simp only [w_runF, w_sSeq, w_sIf, w_tBl, w_tNot, w_tAnd, w_tOr, w_tYes, w_fAnd, w_fOr, w_fNot, w_fChain, w_fAp, w_fBM, a2, a1, a3, w_aCons, w_aNil, w_fC, w_sNx, w_sNo, w_sRet, w_sAsg, w_sDrop, w_sSetI, w_gNm, w_add, w_sub, w_mul, w_fdiv, w_mod, w_pow, w_lt, w_le, w_gt, w_ge, w_bB, w_eqI, w_neI, w_eqS, w_neS, w_isB, w_neg, w_isN, w_isBb, w_isi, w_tupN, w_lstN, w_finI, w_finB, w_finS, w_finN, w_impI, w_impS, w_impB, w_impR, w_var0, w_varS, w_sFor, w_iR1, w_isI, w_some, w_lenS, w_lenT, w_lenF, w_lenL, w_lenR, w_addSS, w_addTT, w_ixStr, w_ixTup, w_ixFl, w_ixLst, w_ixRef, w_slBS, w_slAS, w_slBT, w_slAT, w_slABF, w_tupleT, w_tupleL, w_tupleF, w_tupleR, w_listT, w_listF, w_listL, w_listR, w_iSeq, w_seqT, w_seqF, w_seqS, w_seqR, w_iEn, w_en1, w_sqT, w_iZp, w_fComp, imps_nil, imps_cons, at_1_0, at_2_0, at_2_1, at_3_0, at_3_1, at_3_2, at_4_0, at_4_1, at_4_2, at_4_3, at_5_0, at_5_1, at_5_2, at_5_3, at_5_4, wipeD, startD, List.map, List.replicate, List.length, List.cons_append, List.nil_append, List.set_cons_succ, List.set_cons_zero, Nat.add_sub_cancel, Nat.reduceAdd, Nat.reduceSub, Nat.sub_self, Nat.zero_add]
    refine Wp.call (by rfl) (by rfl) (tk (by omega) (by omega)) ?_
    simp only [w_runF, w_sSeq, w_sIf, w_tBl, w_tNot, w_tAnd, w_tOr, w_tYes, w_fAnd, w_fOr, w_fNot, w_fChain, w_fAp, w_fBM, a2, a1, a3, w_aCons, w_aNil, w_fC, w_sNx, w_sNo, w_sRet, w_sAsg, w_sDrop, w_sSetI, w_gNm, w_add, w_sub, w_mul, w_fdiv, w_mod, w_pow, w_lt, w_le, w_gt, w_ge, w_bB, w_eqI, w_neI, w_eqS, w_neS, w_isB, w_neg, w_isN, w_isBb, w_isi, w_tupN, w_lstN, w_finI, w_finB, w_finS, w_finN, w_impI, w_impS, w_impB, w_impR, w_var0, w_varS, w_sFor, w_iR1, w_isI, w_some, w_lenS, w_lenT, w_lenF, w_lenL, w_lenR, w_addSS, w_addTT, w_ixStr, w_ixTup, w_ixFl, w_ixLst, w_ixRef, w_slBS, w_slAS, w_slBT, w_slAT, w_slABF, w_tupleT, w_tupleL, w_tupleF, w_tupleR, w_listT, w_listF, w_listL, w_listR, w_iSeq, w_seqT, w_seqF, w_seqS, w_seqR, w_iEn, w_en1, w_sqT, w_iZp, w_fComp, imps_nil, imps_cons, at_1_0, at_2_0, at_2_1, at_3_0, at_3_1, at_3_2, at_4_0, at_4_1, at_4_2, at_4_3, at_5_0, at_5_1, at_5_2, at_5_3, at_5_4, wipeD, startD, List.map, List.replicate, List.length, List.cons_append, List.nil_append, List.set_cons_succ, List.set_cons_zero, Nat.add_sub_cancel, Nat.reduceAdd, Nat.reduceSub, Nat.sub_self, Nat.zero_add]
    have bt : ∀ z : Int, ∃ t : Nat, z % (ts.length : Int) = (t : Int) ∧ t < ts.length := fun z => by
      have b : 0 ≤ z % (ts.length : Int) ∧ z % (ts.length : Int) < ts.length := ⟨Int.emod_nonneg _ (by omega), Int.emod_lt_of_pos _ (by omega)⟩
      obtain ⟨t, e⟩ := Int.eq_ofNat_of_zero_le b.1
      exact ⟨t, e, by omega⟩
    obtain ⟨t, et, ht⟩ := bt (n / 4)
    obtain ⟨u, eu, hu⟩ := bt (n / 4 / (ts.length : Int))
    rw [et, eu]
    generalize n / 4 / (ts.length : Int) / (ts.length : Int) = n2
    have tst : ∀ (there : List D), okThere ts there → ∃ d n', okTests ts there d ∧ F__law_tests [.ref m.length, .tup there, .tup ts, .ref kp] (m ++ [stc n2]) = some (d, m ++ [stc n']) := fun there h => by
      obtain ⟨d, n', o, e⟩ := tests_ok (XX n2) last_get h hts
      rw [last_set] at e
      exact ⟨d, n', o, e⟩
    have args : ∀ there, settleds there = true → settleds [.ref m.length, .tup there, .tup ts, .ref kp] = true := fun there h => by
      show (true && (settleds there && (settleds ts && (true && true)))) = true
      rw [h, hts]; rfl
    refine ⟨fun _ => ?_, fun _ => ⟨fun _ => ?_, fun _ => ?_⟩⟩
    · obtain ⟨d, n', o, e⟩ := tst [.int (t : Int)] ⟨by simp, by simp, fun d hd => by
        obtain rfl : d = _ := by simpa using hd
        exact ⟨t, rfl, ht⟩⟩
      refine ⟨by decide, Wp.call (by rfl) (args _ rfl) e ?_⟩
      simp only [w_runF, w_sSeq, w_sIf, w_tBl, w_tNot, w_tAnd, w_tOr, w_tYes, w_fAnd, w_fOr, w_fNot, w_fChain, w_fAp, w_fBM, a2, a1, a3, w_aCons, w_aNil, w_fC, w_sNx, w_sNo, w_sRet, w_sAsg, w_sDrop, w_sSetI, w_gNm, w_add, w_sub, w_mul, w_fdiv, w_mod, w_pow, w_lt, w_le, w_gt, w_ge, w_bB, w_eqI, w_neI, w_eqS, w_neS, w_isB, w_neg, w_isN, w_isBb, w_isi, w_tupN, w_lstN, w_finI, w_finB, w_finS, w_finN, w_impI, w_impS, w_impB, w_impR, w_var0, w_varS, w_sFor, w_iR1, w_isI, w_some, w_lenS, w_lenT, w_lenF, w_lenL, w_lenR, w_addSS, w_addTT, w_ixStr, w_ixTup, w_ixFl, w_ixLst, w_ixRef, w_slBS, w_slAS, w_slBT, w_slAT, w_slABF, w_tupleT, w_tupleL, w_tupleF, w_tupleR, w_listT, w_listF, w_listL, w_listR, w_iSeq, w_seqT, w_seqF, w_seqS, w_seqR, w_iEn, w_en1, w_sqT, w_iZp, w_fComp, imps_nil, imps_cons, at_1_0, at_2_0, at_2_1, at_3_0, at_3_1, at_3_2, at_4_0, at_4_1, at_4_2, at_4_3, at_5_0, at_5_1, at_5_2, at_5_3, at_5_4, wipeD, startD, List.map, List.replicate, List.length, List.cons_append, List.nil_append, List.set_cons_succ, List.set_cons_zero, Nat.add_sub_cancel, Nat.reduceAdd, Nat.reduceSub, Nat.sub_self, Nat.zero_add]
      have ok : okRule ts (.tup [.str "never", .int (t : Int), d]) := .inl ⟨t, d, ht, rfl, o⟩
      exact ⟨by decide, Wp.fin (nice_plain 4 _ (okRule_nice ok)) ⟨_, ok, rfl⟩⟩
    · obtain ⟨d, n', o, e⟩ := tst [.int (t : Int), .int (u : Int)] ⟨by simp, by simp, fun d hd => by
        simp only [List.mem_cons, List.not_mem_nil, or_false] at hd
        rcases hd with rfl | rfl
        · exact ⟨t, rfl, ht⟩
        · exact ⟨u, rfl, hu⟩⟩
      refine ⟨by decide, Wp.call (by rfl) (args _ rfl) e ?_⟩
      simp only [w_runF, w_sSeq, w_sIf, w_tBl, w_tNot, w_tAnd, w_tOr, w_tYes, w_fAnd, w_fOr, w_fNot, w_fChain, w_fAp, w_fBM, a2, a1, a3, w_aCons, w_aNil, w_fC, w_sNx, w_sNo, w_sRet, w_sAsg, w_sDrop, w_sSetI, w_gNm, w_add, w_sub, w_mul, w_fdiv, w_mod, w_pow, w_lt, w_le, w_gt, w_ge, w_bB, w_eqI, w_neI, w_eqS, w_neS, w_isB, w_neg, w_isN, w_isBb, w_isi, w_tupN, w_lstN, w_finI, w_finB, w_finS, w_finN, w_impI, w_impS, w_impB, w_impR, w_var0, w_varS, w_sFor, w_iR1, w_isI, w_some, w_lenS, w_lenT, w_lenF, w_lenL, w_lenR, w_addSS, w_addTT, w_ixStr, w_ixTup, w_ixFl, w_ixLst, w_ixRef, w_slBS, w_slAS, w_slBT, w_slAT, w_slABF, w_tupleT, w_tupleL, w_tupleF, w_tupleR, w_listT, w_listF, w_listL, w_listR, w_iSeq, w_seqT, w_seqF, w_seqS, w_seqR, w_iEn, w_en1, w_sqT, w_iZp, w_fComp, imps_nil, imps_cons, at_1_0, at_2_0, at_2_1, at_3_0, at_3_1, at_3_2, at_4_0, at_4_1, at_4_2, at_4_3, at_5_0, at_5_1, at_5_2, at_5_3, at_5_4, wipeD, startD, List.map, List.replicate, List.length, List.cons_append, List.nil_append, List.set_cons_succ, List.set_cons_zero, Nat.add_sub_cancel, Nat.reduceAdd, Nat.reduceSub, Nat.sub_self, Nat.zero_add]
      have ok : okRule ts (.tup [.str "apart", .int (t : Int), .int (u : Int), d]) := .inr (.inl ⟨t, u, d, ht, hu, rfl, o⟩)
      exact ⟨by decide, Wp.fin (nice_plain 4 _ (okRule_nice ok)) ⟨_, ok, rfl⟩⟩
    · refine ⟨by decide, Wp.call (by rfl) (by rfl) (tk (by decide) (by decide)) ?_⟩
      simp only [w_runF, w_sSeq, w_sIf, w_tBl, w_tNot, w_tAnd, w_tOr, w_tYes, w_fAnd, w_fOr, w_fNot, w_fChain, w_fAp, w_fBM, a2, a1, a3, w_aCons, w_aNil, w_fC, w_sNx, w_sNo, w_sRet, w_sAsg, w_sDrop, w_sSetI, w_gNm, w_add, w_sub, w_mul, w_fdiv, w_mod, w_pow, w_lt, w_le, w_gt, w_ge, w_bB, w_eqI, w_neI, w_eqS, w_neS, w_isB, w_neg, w_isN, w_isBb, w_isi, w_tupN, w_lstN, w_finI, w_finB, w_finS, w_finN, w_impI, w_impS, w_impB, w_impR, w_var0, w_varS, w_sFor, w_iR1, w_isI, w_some, w_lenS, w_lenT, w_lenF, w_lenL, w_lenR, w_addSS, w_addTT, w_ixStr, w_ixTup, w_ixFl, w_ixLst, w_ixRef, w_slBS, w_slAS, w_slBT, w_slAT, w_slABF, w_tupleT, w_tupleL, w_tupleF, w_tupleR, w_listT, w_listF, w_listL, w_listR, w_iSeq, w_seqT, w_seqF, w_seqS, w_seqR, w_iEn, w_en1, w_sqT, w_iZp, w_fComp, imps_nil, imps_cons, at_1_0, at_2_0, at_2_1, at_3_0, at_3_1, at_3_2, at_4_0, at_4_1, at_4_2, at_4_3, at_5_0, at_5_1, at_5_2, at_5_3, at_5_4, wipeD, startD, List.map, List.replicate, List.length, List.cons_append, List.nil_append, List.set_cons_succ, List.set_cons_zero, Nat.add_sub_cancel, Nat.reduceAdd, Nat.reduceSub, Nat.sub_self, Nat.zero_add]
      have b : 0 ≤ n2 % 5 ∧ n2 % 5 < 5 := ⟨Int.emod_nonneg _ (by decide), Int.emod_lt_of_pos _ (by decide)⟩
      refine Wp.at b.1 b.2 fun z hz => ?_
      have hz : ∃ j : Int, z = .int j ∧ 1 ≤ j ∧ j ≤ 3 := by
        have := List.mem_of_getElem? hz
        simp only [List.mem_cons, List.not_mem_nil, or_false] at this
        rcases this with rfl | rfl | rfl | rfl | rfl <;> exact ⟨_, rfl, by decide, by decide⟩
      obtain ⟨j, rfl, j1, j3⟩ := hz
      simp only [w_runF, w_sSeq, w_sIf, w_tBl, w_tNot, w_tAnd, w_tOr, w_tYes, w_fAnd, w_fOr, w_fNot, w_fChain, w_fAp, w_fBM, a2, a1, a3, w_aCons, w_aNil, w_fC, w_sNx, w_sNo, w_sRet, w_sAsg, w_sDrop, w_sSetI, w_gNm, w_add, w_sub, w_mul, w_fdiv, w_mod, w_pow, w_lt, w_le, w_gt, w_ge, w_bB, w_eqI, w_neI, w_eqS, w_neS, w_isB, w_neg, w_isN, w_isBb, w_isi, w_tupN, w_lstN, w_finI, w_finB, w_finS, w_finN, w_impI, w_impS, w_impB, w_impR, w_var0, w_varS, w_sFor, w_iR1, w_isI, w_some, w_lenS, w_lenT, w_lenF, w_lenL, w_lenR, w_addSS, w_addTT, w_ixStr, w_ixTup, w_ixFl, w_ixLst, w_ixRef, w_slBS, w_slAS, w_slBT, w_slAT, w_slABF, w_tupleT, w_tupleL, w_tupleF, w_tupleR, w_listT, w_listF, w_listL, w_listR, w_iSeq, w_seqT, w_seqF, w_seqS, w_seqR, w_iEn, w_en1, w_sqT, w_iZp, w_fComp, imps_nil, imps_cons, at_1_0, at_2_0, at_2_1, at_3_0, at_3_1, at_3_2, at_4_0, at_4_1, at_4_2, at_4_3, at_5_0, at_5_1, at_5_2, at_5_3, at_5_4, wipeD, startD, List.map, List.replicate, List.length, List.cons_append, List.nil_append, List.set_cons_succ, List.set_cons_zero, Nat.add_sub_cancel, Nat.reduceAdd, Nat.reduceSub, Nat.sub_self, Nat.zero_add]
      -- one comprehension
      have cmp : ∀ {n : Int} {l : M3.Loc} {t : Nat} {i : Nat} {Q : List D × Mem → Prop}, t < ts.length → l[1]? = some (some (D.tup ts)) → l[3]? = some (some (D.ref m.length)) → l[i]? = some (some (D.int (t : Int))) → 9 < l.length → i ≠ 9 →
          (∀ cs n', (cs.length : Int) = j → (∀ c ∈ cs, okCol ts t c) → Q (cs, m ++ [stc n'])) →
          Wp (compS [] (gNm 9) tYesF (fAp (callG 2 F__law_take) (aCons (fVar 3) (aCons (fAp gIx (aCons (fAp gIx (aCons (fVar 1) (aCons (fVar i) aNil))) (aCons (fC (D.int 0)) aNil))) aNil))) [9] l (rngD 0 j.toNat) (m ++ [stc n])) Q := by
        intro n l t i Q ht h1 h3 hi hl hi9 q
        obtain ⟨w, k, htab, w1, w4, _, _⟩ := X.tabAt ht
        refine Wp.comp (fun k acc m' => ∃ n, m' = m ++ [stc n] ∧ acc.length = k ∧ ∀ c ∈ acc, okCol ts t c) 0 [] ⟨n, rfl, rfl, by simp⟩ ?_ ?_
        · rintro i2 d acc m' hd ⟨n, rfl, hl2, hc⟩
          obtain ⟨_, rfl⟩ := rngD_get hd
          rw [w_gNm]
          refine w_tYes.mpr ⟨fun _ => ?_, fun z => Bool.noConfusion z⟩
          simp only [w_fAp, w_aCons, w_aNil, w_fC, w_impI, wipeD]
          have g1 : ((l.set 9 none).set 9 (some (D.int (0 + (i2 : Int)))))[3]? = some (some (D.ref m.length)) := by rw [List.getElem?_set_ne (by decide), List.getElem?_set_ne (by decide)]; exact h3
          have g2 : ((l.set 9 none).set 9 (some (D.int (0 + (i2 : Int)))))[1]? = some (some (D.tup ts)) := by rw [List.getElem?_set_ne (by decide), List.getElem?_set_ne (by decide)]; exact h1
          have g3 : ((l.set 9 none).set 9 (some (D.int (0 + (i2 : Int)))))[i]? = some (some (D.int (t : Int))) := by rw [List.getElem?_set_ne (Ne.symm hi9), List.getElem?_set_ne (Ne.symm hi9)]; exact hi
          simp only [w_fVar g1, w_fVar g2, w_fVar g3, w_ixTup]
          refine Wp.at (by omega) (by omega) fun z2 hz2 => ?_
          have hz2 : ts[t]? = some z2 := hz2
          rw [htab] at hz2
          cases hz2
          simp only [w_ixTup, at_2_0, w_some]
          refine Wp.call (by rfl) (by rfl) (tk (by omega) (by omega)) ⟨okNil, _, rfl, by simp [hl2], fun c hc2 => ?_⟩
          have b3 : 0 ≤ n % w ∧ n % w < w := ⟨Int.emod_nonneg _ (by omega), Int.emod_lt_of_pos _ (by omega)⟩
          rcases List.mem_append.mp hc2 with h | h
          · exact hc c h
          · obtain rfl : c = _ := by simpa using h
            exact ⟨_, w, k, rfl, htab, b3.1, b3.2⟩
        · rintro acc' m' ⟨n, rfl, hl2, hc⟩ ys rfl
          rw [rngD_length] at hl2
          exact q _ n (by simp at hl2; omega) (by simpa using hc)
      refine ⟨rOk_small (by omega), by omega, cmp ht rfl rfl rfl (by simp) (by decide) fun cs n' l1 c1 => ?_⟩
      have i1 : ∀ m, imp (.tup cs) m = (.tup cs, m) := fun m => imp_plain (nice_plain 4 (.tup cs) (okCols_nice c1))
      simp only [w_runF, w_sSeq, w_sIf, w_tBl, w_tNot, w_tAnd, w_tOr, w_tYes, w_fAnd, w_fOr, w_fNot, w_fChain, w_fAp, w_fBM, a2, a1, a3, w_aCons, w_aNil, w_fC, w_sNx, w_sNo, w_sRet, w_sAsg, w_sDrop, w_sSetI, w_gNm, w_add, w_sub, w_mul, w_fdiv, w_mod, w_pow, w_lt, w_le, w_gt, w_ge, w_bB, w_eqI, w_neI, w_eqS, w_neS, w_isB, w_neg, w_isN, w_isBb, w_isi, w_tupN, w_lstN, w_finI, w_finB, w_finS, w_finN, w_impI, w_impS, w_impB, w_impR, w_var0, w_varS, w_sFor, w_iR1, w_isI, w_some, w_lenS, w_lenT, w_lenF, w_lenL, w_lenR, w_addSS, w_addTT, w_ixStr, w_ixTup, w_ixFl, w_ixLst, w_ixRef, w_slBS, w_slAS, w_slBT, w_slAT, w_slABF, w_tupleT, w_tupleL, w_tupleF, w_tupleR, w_listT, w_listF, w_listL, w_listR, w_iSeq, w_seqT, w_seqF, w_seqS, w_seqR, w_iEn, w_en1, w_sqT, w_iZp, w_fComp, imps_nil, imps_cons, at_1_0, at_2_0, at_2_1, at_3_0, at_3_1, at_3_2, at_4_0, at_4_1, at_4_2, at_4_3, at_5_0, at_5_1, at_5_2, at_5_3, at_5_4, wipeD, startD, List.map, List.replicate, List.length, List.cons_append, List.nil_append, List.set_cons_succ, List.set_cons_zero, Nat.add_sub_cancel, Nat.reduceAdd, Nat.reduceSub, Nat.sub_self, Nat.zero_add, i1]
      refine ⟨rOk_small (by omega), by omega, cmp hu rfl rfl rfl (by simp) (by decide) fun es n' l2 c2 => ?_⟩
      simp only [w_runF, w_sSeq, w_sIf, w_tBl, w_tNot, w_tAnd, w_tOr, w_tYes, w_fAnd, w_fOr, w_fNot, w_fChain, w_fAp, w_fBM, a2, a1, a3, w_aCons, w_aNil, w_fC, w_sNx, w_sNo, w_sRet, w_sAsg, w_sDrop, w_sSetI, w_gNm, w_add, w_sub, w_mul, w_fdiv, w_mod, w_pow, w_lt, w_le, w_gt, w_ge, w_bB, w_eqI, w_neI, w_eqS, w_neS, w_isB, w_neg, w_isN, w_isBb, w_isi, w_tupN, w_lstN, w_finI, w_finB, w_finS, w_finN, w_impI, w_impS, w_impB, w_impR, w_var0, w_varS, w_sFor, w_iR1, w_isI, w_some, w_lenS, w_lenT, w_lenF, w_lenL, w_lenR, w_addSS, w_addTT, w_ixStr, w_ixTup, w_ixFl, w_ixLst, w_ixRef, w_slBS, w_slAS, w_slBT, w_slAT, w_slABF, w_tupleT, w_tupleL, w_tupleF, w_tupleR, w_listT, w_listF, w_listL, w_listR, w_iSeq, w_seqT, w_seqF, w_seqS, w_seqR, w_iEn, w_en1, w_sqT, w_iZp, w_fComp, imps_nil, imps_cons, at_1_0, at_2_0, at_2_1, at_3_0, at_3_1, at_3_2, at_4_0, at_4_1, at_4_2, at_4_3, at_5_0, at_5_1, at_5_2, at_5_3, at_5_4, wipeD, startD, List.map, List.replicate, List.length, List.cons_append, List.nil_append, List.set_cons_succ, List.set_cons_zero, Nat.add_sub_cancel, Nat.reduceAdd, Nat.reduceSub, Nat.sub_self, Nat.zero_add]
      have ok : okRule ts (.tup [.str "tie", .int (t : Int), .tup cs, .int (u : Int), .tup es]) := .inr (.inr ⟨t, u, cs, es, ht, hu, rfl, by omega, by omega, by omega, c1, c2⟩)
      exact ⟨by decide, Wp.fin (nice_plain 4 _ (okRule_nice ok)) ⟨_, ok, rfl⟩⟩
  obtain ⟨_, e, d, h, rfl⟩ := key
  exact ⟨d, h, e⟩
end G06
set_option Elab.async false
set_option linter.all false
set_option autoImplicit false
set_option maxRecDepth 100000
set_option maxHeartbeats 1000000
namespace G06
open PySem PySem.Spec PyProof.Rows L2 M3
theorem rows_ok {ns : List Int} {ts vs : List D} {kp kc : Nat} {wide : Int} {m : Mem} (X : Ctx ts vs kp m.length m) (hts : settleds ts = true) (hc : m[kc]? = some (.lst (ns.map D.int))) (hw0 : 1 ≤ wide) (hw1 : wide ≤ 7) (hn : ns.length ≤ 100) :
    ∃ rows, (∀ d ∈ rows, okRow ts d) ∧ rows.Nodup ∧ rows.length ≤ ns.length ∧ F__law_rows [.ref kc, .tup ts, .ref kp, .int wide] m = some (.tup rows, m) := by
  have key : Wp (F__law_rows [.ref kc, .tup ts, .ref kp, .int wide] m) fun r => ∃ rows, ((∀ d ∈ rows, okRow ts d) ∧ rows.Nodup ∧ rows.length ≤ ns.length) ∧ r = (.tup rows, m) := by
    have hkc : kc < m.length := (List.getElem?_eq_some_iff.mp hc).1
    have hc' : ∀ q, (m ++ q)[kc]? = some (.lst (ns.map D.int)) := fun q => by rw [List.getElem?_append_left hkc]; exact hc
    unfold F__law_rows b__law_rows
    simp only [w_runF, w_sSeq, w_sIf, w_tBl, w_tNot, w_tAnd, w_tOr, w_tYes, w_fAnd, w_fOr, w_fNot, w_fChain, w_fAp, w_fBM, a2, a1, a3, w_aCons, w_aNil, w_fC, w_sNx, w_sNo, w_sRet, w_sAsg, w_sDrop, w_sSetI, w_gNm, w_add, w_sub, w_mul, w_fdiv, w_mod, w_pow, w_lt, w_le, w_gt, w_ge, w_bB, w_eqI, w_neI, w_eqS, w_neS, w_isB, w_neg, w_isN, w_isBb, w_isi, w_tupN, w_lstN, w_finI, w_finB, w_finS, w_finN, w_impI, w_impS, w_impB, w_impR, w_var0, w_varS, w_sFor, w_iR1, w_isI, w_some, w_lenS, w_lenT, w_lenF, w_lenL, w_lenR, w_addSS, w_addTT, w_ixStr, w_ixTup, w_ixFl, w_ixLst, w_ixRef, w_slBS, w_slAS, w_slBT, w_slAT, w_slABF, w_tupleT, w_tupleL, w_tupleF, w_tupleR, w_listT, w_listF, w_listL, w_listR, w_iSeq, w_seqT, w_seqF, w_seqS, w_seqR, w_iEn, w_en1, w_sqT, w_iZp, w_fComp, imps_nil, imps_cons, at_1_0, at_2_0, at_2_1, at_3_0, at_3_1, at_3_2, at_4_0, at_4_1, at_4_2, at_4_3, at_5_0, at_5_1, at_5_2, at_5_3, at_5_4, wipeD, startD, List.map, List.replicate, List.length, List.cons_append, List.nil_append, List.set_cons_succ, List.set_cons_zero, Nat.add_sub_cancel, Nat.reduceAdd, Nat.reduceSub, Nat.sub_self, Nat.zero_add, imp_lst (show settleds [] = true from rfl), sqD_ref (hc' [.lst []])]
    refine ⟨by decide, ?_⟩
    refine Wp.for (fun k l m' => ∃ rows v5 v6, m' = m ++ [.lst rows] ∧ rows.length ≤ k ∧ rows.Nodup ∧ (∀ d ∈ rows, okRow ts d) ∧ l = [some (.ref kc), some (.tup ts), some (.ref kp), some (.int wide), some (.ref m.length), v5, v6]) 0 ⟨[], none, none, rfl, by simp, by simp, by simp, rfl⟩ ?_ ?_
    · rintro i d l m' hd ⟨rows, v5, v6, rfl, hl, hnd, hr, rfl⟩
      rw [List.getElem?_map] at hd
      obtain ⟨c, hc2, rfl⟩ := Option.map_eq_some_iff.mp hd
      have hi : i < ns.length := (List.getElem?_eq_some_iff.mp hc2).1
      obtain ⟨row, o, e⟩ := row_ok c (kp := kp) (wide := wide) (m := m ++ [.lst rows]) X.t0 X.t1 X.tab (X.app (q := [.lst rows])).p X.v hw0 (by rw [X.v7]; exact hw1) X.v7
      simp only [w_runF, w_sSeq, w_sIf, w_tBl, w_tNot, w_tAnd, w_tOr, w_tYes, w_fAnd, w_fOr, w_fNot, w_fChain, w_fAp, w_fBM, a2, a1, a3, w_aCons, w_aNil, w_fC, w_sNx, w_sNo, w_sRet, w_sAsg, w_sDrop, w_sSetI, w_gNm, w_add, w_sub, w_mul, w_fdiv, w_mod, w_pow, w_lt, w_le, w_gt, w_ge, w_bB, w_eqI, w_neI, w_eqS, w_neS, w_isB, w_neg, w_isN, w_isBb, w_isi, w_tupN, w_lstN, w_finI, w_finB, w_finS, w_finN, w_impI, w_impS, w_impB, w_impR, w_var0, w_varS, w_sFor, w_iR1, w_isI, w_some, w_lenS, w_lenT, w_lenF, w_lenL, w_lenR, w_addSS, w_addTT, w_ixStr, w_ixTup, w_ixFl, w_ixLst, w_ixRef, w_slBS, w_slAS, w_slBT, w_slAT, w_slABF, w_tupleT, w_tupleL, w_tupleF, w_tupleR, w_listT, w_listF, w_listL, w_listR, w_iSeq, w_seqT, w_seqF, w_seqS, w_seqR, w_iEn, w_en1, w_sqT, w_iZp, w_fComp, imps_nil, imps_cons, at_1_0, at_2_0, at_2_1, at_3_0, at_3_1, at_3_2, at_4_0, at_4_1, at_4_2, at_4_3, at_5_0, at_5_1, at_5_2, at_5_3, at_5_4, wipeD, startD, List.map, List.replicate, List.length, List.cons_append, List.nil_append, List.set_cons_succ, List.set_cons_zero, Nat.add_sub_cancel, Nat.reduceAdd, Nat.reduceSub, Nat.sub_self, Nat.zero_add]
      refine Wp.call (by rfl) (by show (true && (settleds ts && (true && (true && true)))) = true; rw [hts]; rfl) e ?_
      have pr := nice_plain 2 row (okRow_nice o)
      simp only [w_runF, w_sSeq, w_sIf, w_tBl, w_tNot, w_tAnd, w_tOr, w_tYes, w_fAnd, w_fOr, w_fNot, w_fChain, w_fAp, w_fBM, a2, a1, a3, w_aCons, w_aNil, w_fC, w_sNx, w_sNo, w_sRet, w_sAsg, w_sDrop, w_sSetI, w_gNm, w_add, w_sub, w_mul, w_fdiv, w_mod, w_pow, w_lt, w_le, w_gt, w_ge, w_bB, w_eqI, w_neI, w_eqS, w_neS, w_isB, w_neg, w_isN, w_isBb, w_isi, w_tupN, w_lstN, w_finI, w_finB, w_finS, w_finN, w_impI, w_impS, w_impB, w_impR, w_var0, w_varS, w_sFor, w_iR1, w_isI, w_some, w_lenS, w_lenT, w_lenF, w_lenL, w_lenR, w_addSS, w_addTT, w_ixStr, w_ixTup, w_ixFl, w_ixLst, w_ixRef, w_slBS, w_slAS, w_slBT, w_slAT, w_slABF, w_tupleT, w_tupleL, w_tupleF, w_tupleR, w_listT, w_listF, w_listL, w_listR, w_iSeq, w_seqT, w_seqF, w_seqS, w_seqR, w_iEn, w_en1, w_sqT, w_iZp, w_fComp, imps_nil, imps_cons, at_1_0, at_2_0, at_2_1, at_3_0, at_3_1, at_3_2, at_4_0, at_4_1, at_4_2, at_4_3, at_5_0, at_5_1, at_5_2, at_5_3, at_5_4, wipeD, startD, List.map, List.replicate, List.length, List.cons_append, List.nil_append, List.set_cons_succ, List.set_cons_zero, Nat.add_sub_cancel, Nat.reduceAdd, Nat.reduceSub, Nat.sub_self, Nat.zero_add, imp_plain pr]
      have nr : nices 2 rows = true := nices_iff.mpr fun x hx => okRow_nice (hr x hx)
      have okw : Watch.ok [(kc, D.lst (ns.map D.int))] (m ++ [.lst rows]) := fun k c z => by
        obtain ⟨rfl, rfl⟩ := Prod.mk.inj (List.mem_singleton.mp z)
        exact hc' _
      refine Wp.nin (n := 2) (k := 2) (by decide) (by decide) (okRow_nice o) nr (snap_ref last_get nr) ⟨fun h1 => ?_, fun h1 => ?_⟩
      · have hni : row ∉ rows := by simpa using h1
        refine ⟨okL_ref last_get, Wp.append last_get (plain_settled _ pr) (by omega) ⟨?_, ?_⟩⟩
        · rw [last_set]
          intro k c z
          obtain ⟨rfl, rfl⟩ := Prod.mk.inj (List.mem_singleton.mp z)
          exact hc' _
        · rw [last_set]
          refine ⟨_, _, _, rfl, by simp; omega, ?_, fun x hx => ?_, rfl⟩
          · rw [List.nodup_append]
            refine ⟨hnd, by simp, fun x hx y hy => ?_⟩
            obtain rfl : y = row := by simpa using hy
            rintro rfl
            exact hni hx
          · rcases List.mem_append.mp hx with h | h
            · exact hr x h
            · obtain rfl : x = row := by simpa using h
              exact o
      · exact ⟨okw, rows, _, _, rfl, by omega, hnd, hr, rfl⟩
    · rintro l m' ⟨rows, v5, v6, rfl, hl, hnd, hr, rfl⟩
      simp only [w_runF, w_sSeq, w_sIf, w_tBl, w_tNot, w_tAnd, w_tOr, w_tYes, w_fAnd, w_fOr, w_fNot, w_fChain, w_fAp, w_fBM, a2, a1, a3, w_aCons, w_aNil, w_fC, w_sNx, w_sNo, w_sRet, w_sAsg, w_sDrop, w_sSetI, w_gNm, w_add, w_sub, w_mul, w_fdiv, w_mod, w_pow, w_lt, w_le, w_gt, w_ge, w_bB, w_eqI, w_neI, w_eqS, w_neS, w_isB, w_neg, w_isN, w_isBb, w_isi, w_tupN, w_lstN, w_finI, w_finB, w_finS, w_finN, w_impI, w_impS, w_impB, w_impR, w_var0, w_varS, w_sFor, w_iR1, w_isI, w_some, w_lenS, w_lenT, w_lenF, w_lenL, w_lenR, w_addSS, w_addTT, w_ixStr, w_ixTup, w_ixFl, w_ixLst, w_ixRef, w_slBS, w_slAS, w_slBT, w_slAT, w_slABF, w_tupleT, w_tupleL, w_tupleF, w_tupleR, w_listT, w_listF, w_listL, w_listR, w_iSeq, w_seqT, w_seqF, w_seqS, w_seqR, w_iEn, w_en1, w_sqT, w_iZp, w_fComp, imps_nil, imps_cons, at_1_0, at_2_0, at_2_1, at_3_0, at_3_1, at_3_2, at_4_0, at_4_1, at_4_2, at_4_3, at_5_0, at_5_1, at_5_2, at_5_3, at_5_4, wipeD, startD, List.map, List.replicate, List.length, List.cons_append, List.nil_append, List.set_cons_succ, List.set_cons_zero, Nat.add_sub_cancel, Nat.reduceAdd, Nat.reduceSub, Nat.sub_self, Nat.zero_add, rl_ref last_get]
      rw [List.length_map] at hl
      exact Wp.fin (nices_plain 2 rows (nices_iff.mpr fun x hx => okRow_nice (hr x hx))) ⟨rows, ⟨hr, hnd, by omega⟩, rfl⟩
  obtain ⟨_, e, d, ⟨h1, h2, h3⟩, rfl⟩ := key
  exact ⟨d, h1, h2, h3, e⟩
end G06
set_option Elab.async false
set_option linter.all false
set_option autoImplicit false
set_option maxRecDepth 100000
set_option maxHeartbeats 1000000
namespace G06
open PySem PySem.Spec PyProof.Rows L2 M3
/-! ### a tuple, or a list in a cell -/
structure SqOf (m : Mem) (T : D) (ts : List D) : Prop where
  eq : T = .tup ts ∨ ∃ k, T = .ref k ∧ m[k]? = some (.lst ts)
  pl : plains ts = true
theorem SqOf.settled {m : Mem} {T : D} {ts : List D} (h : SqOf m T ts) : settled T = true := by
  rcases h.eq with rfl | ⟨k, rfl, _⟩
  · exact plain_settled (.tup ts) h.pl
  · rfl
theorem SqOf.len {m : Mem} {T : D} {ts : List D} {Q : D × Mem → Prop} (h : SqOf m T ts) : Wp (gLen m [T]) Q ↔ Q (.int ts.length, m) := by
  rcases h.eq with rfl | ⟨k, rfl, hk⟩
  · exact w_lenT
  · rw [w_lenR, sq_ref hk, w_some]
theorem SqOf.ix {m : Mem} {T : D} {ts : List D} {i : Int} {Q : D × Mem → Prop} (h : SqOf m T ts) : Wp (gIx m [T, .int i]) Q ↔ Wp (atI ts i) fun d => Q (d, m) := by
  rcases h.eq with rfl | ⟨k, rfl, hk⟩
  · exact w_ixTup
  · rw [w_ixRef, sq_ref hk, w_some]
theorem SqOf.sqD {m : Mem} {T : D} {ts : List D} (h : SqOf m T ts) : ∃ b wt, sqD m T = some (b, ts, wt) ∧ Watch.ok wt m := by
  rcases h.eq with rfl | ⟨k, rfl, hk⟩
  · exact ⟨_, _, rfl, okNil⟩
  · refine ⟨_, _, sqD_ref hk, fun k2 c z => ?_⟩
    obtain ⟨rfl, rfl⟩ := Prod.mk.inj (List.mem_singleton.mp z)
    exact hk
theorem SqOf.tuple {m : Mem} {T : D} {ts : List D} {Q : D × Mem → Prop} (h : SqOf m T ts) : Wp (gTuple m [T]) Q ↔ Q (.tup ts, m) := by
  rcases h.eq with rfl | ⟨k, rfl, hk⟩
  · exact w_tupleT
  · rw [w_tupleR, rl_ref hk, w_some]
theorem SqOf.tup {m : Mem} {ts : List D} (h : plains ts = true) : SqOf m (.tup ts) ts := ⟨.inl rfl, h⟩
theorem SqOf.ref {m : Mem} {k : Nat} {ts : List D} (h : plains ts = true) (hk : m[k]? = some (.lst ts)) : SqOf m (.ref k) ts := ⟨.inr ⟨k, rfl, hk⟩, h⟩
theorem all_bl {m : Mem} {ys : List D} {Q : D × Mem → Prop} (h : ∀ y ∈ ys, y = .bl true) (q : Q (.bl true, m)) : Wp (gAll m [.lst ys]) Q := by
  have e : ys = (List.replicate ys.length true).map D.bl := by
    rw [List.map_replicate]
    exact List.eq_replicate_iff.mpr ⟨rfl, h⟩
  rw [e, w_allL, all_true]
  exact q
theorem whole_ok (i : Int) (m : Mem) : F_is_whole [.int i] m = some (.bl true, m) := by
  apply Wp.eq
  unfold F_is_whole b_is_whole
  simp only [w_runF, w_sSeq, w_sIf, w_tBl, w_tNot, w_tAnd, w_tOr, w_tYes, w_fAnd, w_fOr, w_fNot, w_fChain, w_fAp, w_fBM, a2, a1, a3, w_aCons, w_aNil, w_fC, w_sNx, w_sNo, w_sRet, w_sAsg, w_sDrop, w_sSetI, w_gNm, w_add, w_sub, w_mul, w_fdiv, w_mod, w_pow, w_lt, w_le, w_gt, w_ge, w_bB, w_eqI, w_neI, w_eqS, w_neS, w_isB, w_neg, w_isN, w_isBb, w_isi, w_tupN, w_lstN, w_finI, w_finB, w_finS, w_finN, w_impI, w_impS, w_impB, w_impR, w_var0, w_varS, w_sFor, w_iR1, w_isI, w_some, w_lenS, w_lenT, w_lenF, w_lenL, w_lenR, w_addSS, w_addTT, w_ixStr, w_ixTup, w_ixFl, w_ixLst, w_ixRef, w_slBS, w_slAS, w_slBT, w_slAT, w_slABF, w_tupleT, w_tupleL, w_tupleF, w_tupleR, w_listT, w_listF, w_listL, w_listR, w_iSeq, w_seqT, w_seqF, w_seqS, w_seqR, w_iEn, w_en1, w_sqT, w_iZp, w_fComp, imps_nil, imps_cons, at_1_0, at_2_0, at_2_1, at_3_0, at_3_1, at_3_2, at_4_0, at_4_1, at_4_2, at_4_3, at_5_0, at_5_1, at_5_2, at_5_3, at_5_4, wipeD, startD, List.map, List.replicate, List.length, List.cons_append, List.nil_append, List.set_cons_succ, List.set_cons_zero, Nat.add_sub_cancel, Nat.reduceAdd, Nat.reduceSub, Nat.sub_self, Nat.zero_add]
  show Wp (some true) _
  simp only [w_runF, w_sSeq, w_sIf, w_tBl, w_tNot, w_tAnd, w_tOr, w_tYes, w_fAnd, w_fOr, w_fNot, w_fChain, w_fAp, w_fBM, a2, a1, a3, w_aCons, w_aNil, w_fC, w_sNx, w_sNo, w_sRet, w_sAsg, w_sDrop, w_sSetI, w_gNm, w_add, w_sub, w_mul, w_fdiv, w_mod, w_pow, w_lt, w_le, w_gt, w_ge, w_bB, w_eqI, w_neI, w_eqS, w_neS, w_isB, w_neg, w_isN, w_isBb, w_isi, w_tupN, w_lstN, w_finI, w_finB, w_finS, w_finN, w_impI, w_impS, w_impB, w_impR, w_var0, w_varS, w_sFor, w_iR1, w_isI, w_some, w_lenS, w_lenT, w_lenF, w_lenL, w_lenR, w_addSS, w_addTT, w_ixStr, w_ixTup, w_ixFl, w_ixLst, w_ixRef, w_slBS, w_slAS, w_slBT, w_slAT, w_slABF, w_tupleT, w_tupleL, w_tupleF, w_tupleR, w_listT, w_listF, w_listL, w_listR, w_iSeq, w_seqT, w_seqF, w_seqS, w_seqR, w_iEn, w_en1, w_sqT, w_iZp, w_fComp, imps_nil, imps_cons, at_1_0, at_2_0, at_2_1, at_3_0, at_3_1, at_3_2, at_4_0, at_4_1, at_4_2, at_4_3, at_5_0, at_5_1, at_5_2, at_5_3, at_5_4, wipeD, startD, List.map, List.replicate, List.length, List.cons_append, List.nil_append, List.set_cons_succ, List.set_cons_zero, Nat.add_sub_cancel, Nat.reduceAdd, Nat.reduceSub, Nat.sub_self, Nat.zero_add]
  refine ⟨fun _ => ?_, fun h => by cases h⟩
  show Wp (some false) _
  simp only [w_runF, w_sSeq, w_sIf, w_tBl, w_tNot, w_tAnd, w_tOr, w_tYes, w_fAnd, w_fOr, w_fNot, w_fChain, w_fAp, w_fBM, a2, a1, a3, w_aCons, w_aNil, w_fC, w_sNx, w_sNo, w_sRet, w_sAsg, w_sDrop, w_sSetI, w_gNm, w_add, w_sub, w_mul, w_fdiv, w_mod, w_pow, w_lt, w_le, w_gt, w_ge, w_bB, w_eqI, w_neI, w_eqS, w_neS, w_isB, w_neg, w_isN, w_isBb, w_isi, w_tupN, w_lstN, w_finI, w_finB, w_finS, w_finN, w_impI, w_impS, w_impB, w_impR, w_var0, w_varS, w_sFor, w_iR1, w_isI, w_some, w_lenS, w_lenT, w_lenF, w_lenL, w_lenR, w_addSS, w_addTT, w_ixStr, w_ixTup, w_ixFl, w_ixLst, w_ixRef, w_slBS, w_slAS, w_slBT, w_slAT, w_slABF, w_tupleT, w_tupleL, w_tupleF, w_tupleR, w_listT, w_listF, w_listL, w_listR, w_iSeq, w_seqT, w_seqF, w_seqS, w_seqR, w_iEn, w_en1, w_sqT, w_iZp, w_fComp, imps_nil, imps_cons, at_1_0, at_2_0, at_2_1, at_3_0, at_3_1, at_3_2, at_4_0, at_4_1, at_4_2, at_4_3, at_5_0, at_5_1, at_5_2, at_5_3, at_5_4, wipeD, startD, List.map, List.replicate, List.length, List.cons_append, List.nil_append, List.set_cons_succ, List.set_cons_zero, Nat.add_sub_cancel, Nat.reduceAdd, Nat.reduceSub, Nat.sub_self, Nat.zero_add]
  rfl
theorem w_inS {c : Nat} {z : Str} {m : Mem} {Q : D × Mem → Prop} : Wp (gIn m [.str ⟨#[c]⟩, .str z]) Q ↔ Q (.bl (decide (c ∈ z.cps.toList)), m) := (w_or2 rfl).trans w_some
theorem name_good {x : Str} (h : nmOk x) (m : Mem) : F_is_name [.str x] m = some (.bl true, m) := by
  apply Wp.eq
  unfold F_is_name b_is_name
  simp only [w_runF, w_sSeq, w_sIf, w_tBl, w_tNot, w_tAnd, w_tOr, w_tYes, w_fAnd, w_fOr, w_fNot, w_fChain, w_fAp, w_fBM, a2, a1, a3, w_aCons, w_aNil, w_fC, w_sNx, w_sNo, w_sRet, w_sAsg, w_sDrop, w_sSetI, w_gNm, w_add, w_sub, w_mul, w_fdiv, w_mod, w_pow, w_lt, w_le, w_gt, w_ge, w_bB, w_eqI, w_neI, w_eqS, w_neS, w_isB, w_neg, w_isN, w_isBb, w_isi, w_tupN, w_lstN, w_finI, w_finB, w_finS, w_finN, w_impI, w_impS, w_impB, w_impR, w_var0, w_varS, w_sFor, w_iR1, w_isI, w_some, w_lenS, w_lenT, w_lenF, w_lenL, w_lenR, w_addSS, w_addTT, w_ixStr, w_ixTup, w_ixFl, w_ixLst, w_ixRef, w_slBS, w_slAS, w_slBT, w_slAT, w_slABF, w_tupleT, w_tupleL, w_tupleF, w_tupleR, w_listT, w_listF, w_listL, w_listR, w_iSeq, w_seqT, w_seqF, w_seqS, w_seqR, w_iEn, w_en1, w_sqT, w_iZp, w_fComp, imps_nil, imps_cons, at_1_0, at_2_0, at_2_1, at_3_0, at_3_1, at_3_2, at_4_0, at_4_1, at_4_2, at_4_3, at_5_0, at_5_1, at_5_2, at_5_3, at_5_4, wipeD, startD, List.map, List.replicate, List.length, List.cons_append, List.nil_append, List.set_cons_succ, List.set_cons_zero, Nat.add_sub_cancel, Nat.reduceAdd, Nat.reduceSub, Nat.sub_self, Nat.zero_add]
  obtain ⟨h1, h2, h3⟩ := h
  show Wp (some true) _
  simp only [w_runF, w_sSeq, w_sIf, w_tBl, w_tNot, w_tAnd, w_tOr, w_tYes, w_fAnd, w_fOr, w_fNot, w_fChain, w_fAp, w_fBM, a2, a1, a3, w_aCons, w_aNil, w_fC, w_sNx, w_sNo, w_sRet, w_sAsg, w_sDrop, w_sSetI, w_gNm, w_add, w_sub, w_mul, w_fdiv, w_mod, w_pow, w_lt, w_le, w_gt, w_ge, w_bB, w_eqI, w_neI, w_eqS, w_neS, w_isB, w_neg, w_isN, w_isBb, w_isi, w_tupN, w_lstN, w_finI, w_finB, w_finS, w_finN, w_impI, w_impS, w_impB, w_impR, w_var0, w_varS, w_sFor, w_iR1, w_isI, w_some, w_lenS, w_lenT, w_lenF, w_lenL, w_lenR, w_addSS, w_addTT, w_ixStr, w_ixTup, w_ixFl, w_ixLst, w_ixRef, w_slBS, w_slAS, w_slBT, w_slAT, w_slABF, w_tupleT, w_tupleL, w_tupleF, w_tupleR, w_listT, w_listF, w_listL, w_listR, w_iSeq, w_seqT, w_seqF, w_seqS, w_seqR, w_iEn, w_en1, w_sqT, w_iZp, w_fComp, imps_nil, imps_cons, at_1_0, at_2_0, at_2_1, at_3_0, at_3_1, at_3_2, at_4_0, at_4_1, at_4_2, at_4_3, at_5_0, at_5_1, at_5_2, at_5_3, at_5_4, wipeD, startD, List.map, List.replicate, List.length, List.cons_append, List.nil_append, List.set_cons_succ, List.set_cons_zero, Nat.add_sub_cancel, Nat.reduceAdd, Nat.reduceSub, Nat.sub_self, Nat.zero_add]
  refine ⟨fun z => (by cases z), fun _ => ⟨by omega, ⟨fun z => ?_, fun _ => ⟨by omega, fun z => ?_, fun _ => ⟨by show x.length ≤ 1000; omega, ?_⟩⟩⟩⟩⟩
  · exact absurd (of_decide_eq_true z) (by omega)
  · exact absurd (of_decide_eq_true z) (by omega)
  · refine Wp.map (fun _ y => y = .bl true) (fun i d hd => ?_) fun ys _ hy => ?_
    · unfold M3.signs at hd
      rw [List.getElem?_map] at hd
      obtain ⟨c, hc, rfl⟩ := Option.map_eq_some_iff.mp hd
      simp only [w_runF, w_sSeq, w_sIf, w_tBl, w_tNot, w_tAnd, w_tOr, w_tYes, w_fAnd, w_fOr, w_fNot, w_fChain, w_fAp, w_fBM, a2, a1, a3, w_aCons, w_aNil, w_fC, w_sNx, w_sNo, w_sRet, w_sAsg, w_sDrop, w_sSetI, w_gNm, w_add, w_sub, w_mul, w_fdiv, w_mod, w_pow, w_lt, w_le, w_gt, w_ge, w_bB, w_eqI, w_neI, w_eqS, w_neS, w_isB, w_neg, w_isN, w_isBb, w_isi, w_tupN, w_lstN, w_finI, w_finB, w_finS, w_finN, w_impI, w_impS, w_impB, w_impR, w_var0, w_varS, w_sFor, w_iR1, w_isI, w_some, w_lenS, w_lenT, w_lenF, w_lenL, w_lenR, w_addSS, w_addTT, w_ixStr, w_ixTup, w_ixFl, w_ixLst, w_ixRef, w_slBS, w_slAS, w_slBT, w_slAT, w_slABF, w_tupleT, w_tupleL, w_tupleF, w_tupleR, w_listT, w_listF, w_listL, w_listR, w_iSeq, w_seqT, w_seqF, w_seqS, w_seqR, w_iEn, w_en1, w_sqT, w_iZp, w_fComp, imps_nil, imps_cons, at_1_0, at_2_0, at_2_1, at_3_0, at_3_1, at_3_2, at_4_0, at_4_1, at_4_2, at_4_3, at_5_0, at_5_1, at_5_2, at_5_3, at_5_4, wipeD, startD, List.map, List.replicate, List.length, List.cons_append, List.nil_append, List.set_cons_succ, List.set_cons_zero, Nat.add_sub_cancel, Nat.reduceAdd, Nat.reduceSub, Nat.sub_self, Nat.zero_add, w_inS]
      exact ⟨trivial, trivial, by rw [decide_eq_true (h3 c (List.mem_of_getElem? hc))]⟩
    · refine all_bl (fun y hy2 => ?_) ?_
      · obtain ⟨i, hi⟩ := List.mem_iff_getElem?.mp hy2
        exact hy i y hi
      · simp only [w_runF, w_sSeq, w_sIf, w_tBl, w_tNot, w_tAnd, w_tOr, w_tYes, w_fAnd, w_fOr, w_fNot, w_fChain, w_fAp, w_fBM, a2, a1, a3, w_aCons, w_aNil, w_fC, w_sNx, w_sNo, w_sRet, w_sAsg, w_sDrop, w_sSetI, w_gNm, w_add, w_sub, w_mul, w_fdiv, w_mod, w_pow, w_lt, w_le, w_gt, w_ge, w_bB, w_eqI, w_neI, w_eqS, w_neS, w_isB, w_neg, w_isN, w_isBb, w_isi, w_tupN, w_lstN, w_finI, w_finB, w_finS, w_finN, w_impI, w_impS, w_impB, w_impR, w_var0, w_varS, w_sFor, w_iR1, w_isI, w_some, w_lenS, w_lenT, w_lenF, w_lenL, w_lenR, w_addSS, w_addTT, w_ixStr, w_ixTup, w_ixFl, w_ixLst, w_ixRef, w_slBS, w_slAS, w_slBT, w_slAT, w_slABF, w_tupleT, w_tupleL, w_tupleF, w_tupleR, w_listT, w_listF, w_listL, w_listR, w_iSeq, w_seqT, w_seqF, w_seqS, w_seqR, w_iEn, w_en1, w_sqT, w_iZp, w_fComp, imps_nil, imps_cons, at_1_0, at_2_0, at_2_1, at_3_0, at_3_1, at_3_2, at_4_0, at_4_1, at_4_2, at_4_3, at_5_0, at_5_1, at_5_2, at_5_3, at_5_4, wipeD, startD, List.map, List.replicate, List.length, List.cons_append, List.nil_append, List.set_cons_succ, List.set_cons_zero, Nat.add_sub_cancel, Nat.reduceAdd, Nat.reduceSub, Nat.sub_self, Nat.zero_add]
theorem value_ok {v : D} (h : okV v) (m : Mem) : F_is_value [v] m = some (.bl true, m) := by
  apply Wp.eq
  unfold F_is_value b_is_value
  simp only [w_runF, w_sSeq, w_sIf, w_tBl, w_tNot, w_tAnd, w_tOr, w_tYes, w_fAnd, w_fOr, w_fNot, w_fChain, w_fAp, w_fBM, a2, a1, a3, w_aCons, w_aNil, w_fC, w_sNx, w_sNo, w_sRet, w_sAsg, w_sDrop, w_sSetI, w_gNm, w_add, w_sub, w_mul, w_fdiv, w_mod, w_pow, w_lt, w_le, w_gt, w_ge, w_bB, w_eqI, w_neI, w_eqS, w_neS, w_isB, w_neg, w_isN, w_isBb, w_isi, w_tupN, w_lstN, w_finI, w_finB, w_finS, w_finN, w_impI, w_impS, w_impB, w_impR, w_var0, w_varS, w_sFor, w_iR1, w_isI, w_some, w_lenS, w_lenT, w_lenF, w_lenL, w_lenR, w_addSS, w_addTT, w_ixStr, w_ixTup, w_ixFl, w_ixLst, w_ixRef, w_slBS, w_slAS, w_slBT, w_slAT, w_slABF, w_tupleT, w_tupleL, w_tupleF, w_tupleR, w_listT, w_listF, w_listL, w_listR, w_iSeq, w_seqT, w_seqF, w_seqS, w_seqR, w_iEn, w_en1, w_sqT, w_iZp, w_fComp, imps_nil, imps_cons, at_1_0, at_2_0, at_2_1, at_3_0, at_3_1, at_3_2, at_4_0, at_4_1, at_4_2, at_4_3, at_5_0, at_5_1, at_5_2, at_5_3, at_5_4, wipeD, startD, List.map, List.replicate, List.length, List.cons_append, List.nil_append, List.set_cons_succ, List.set_cons_zero, Nat.add_sub_cancel, Nat.reduceAdd, Nat.reduceSub, Nat.sub_self, Nat.zero_add]
  cases v with
  | int i =>
    show Wp (some true) _
    simp only [w_runF, w_sSeq, w_sIf, w_tBl, w_tNot, w_tAnd, w_tOr, w_tYes, w_fAnd, w_fOr, w_fNot, w_fChain, w_fAp, w_fBM, a2, a1, a3, w_aCons, w_aNil, w_fC, w_sNx, w_sNo, w_sRet, w_sAsg, w_sDrop, w_sSetI, w_gNm, w_add, w_sub, w_mul, w_fdiv, w_mod, w_pow, w_lt, w_le, w_gt, w_ge, w_bB, w_eqI, w_neI, w_eqS, w_neS, w_isB, w_neg, w_isN, w_isBb, w_isi, w_tupN, w_lstN, w_finI, w_finB, w_finS, w_finN, w_impI, w_impS, w_impB, w_impR, w_var0, w_varS, w_sFor, w_iR1, w_isI, w_some, w_lenS, w_lenT, w_lenF, w_lenL, w_lenR, w_addSS, w_addTT, w_ixStr, w_ixTup, w_ixFl, w_ixLst, w_ixRef, w_slBS, w_slAS, w_slBT, w_slAT, w_slABF, w_tupleT, w_tupleL, w_tupleF, w_tupleR, w_listT, w_listF, w_listL, w_listR, w_iSeq, w_seqT, w_seqF, w_seqS, w_seqR, w_iEn, w_en1, w_sqT, w_iZp, w_fComp, imps_nil, imps_cons, at_1_0, at_2_0, at_2_1, at_3_0, at_3_1, at_3_2, at_4_0, at_4_1, at_4_2, at_4_3, at_5_0, at_5_1, at_5_2, at_5_3, at_5_4, wipeD, startD, List.map, List.replicate, List.length, List.cons_append, List.nil_append, List.set_cons_succ, List.set_cons_zero, Nat.add_sub_cancel, Nat.reduceAdd, Nat.reduceSub, Nat.sub_self, Nat.zero_add]
    obtain ⟨h1, h2⟩ := h
    refine ⟨fun _ => ?_, fun z => by cases z⟩
    show Wp (some false) _
    simp only [w_runF, w_sSeq, w_sIf, w_tBl, w_tNot, w_tAnd, w_tOr, w_tYes, w_fAnd, w_fOr, w_fNot, w_fChain, w_fAp, w_fBM, a2, a1, a3, w_aCons, w_aNil, w_fC, w_sNx, w_sNo, w_sRet, w_sAsg, w_sDrop, w_sSetI, w_gNm, w_add, w_sub, w_mul, w_fdiv, w_mod, w_pow, w_lt, w_le, w_gt, w_ge, w_bB, w_eqI, w_neI, w_eqS, w_neS, w_isB, w_neg, w_isN, w_isBb, w_isi, w_tupN, w_lstN, w_finI, w_finB, w_finS, w_finN, w_impI, w_impS, w_impB, w_impR, w_var0, w_varS, w_sFor, w_iR1, w_isI, w_some, w_lenS, w_lenT, w_lenF, w_lenL, w_lenR, w_addSS, w_addTT, w_ixStr, w_ixTup, w_ixFl, w_ixLst, w_ixRef, w_slBS, w_slAS, w_slBT, w_slAT, w_slABF, w_tupleT, w_tupleL, w_tupleF, w_tupleR, w_listT, w_listF, w_listL, w_listR, w_iSeq, w_seqT, w_seqF, w_seqS, w_seqR, w_iEn, w_en1, w_sqT, w_iZp, w_fComp, imps_nil, imps_cons, at_1_0, at_2_0, at_2_1, at_3_0, at_3_1, at_3_2, at_4_0, at_4_1, at_4_2, at_4_3, at_5_0, at_5_1, at_5_2, at_5_3, at_5_4, wipeD, startD, List.map, List.replicate, List.length, List.cons_append, List.nil_append, List.set_cons_succ, List.set_cons_zero, Nat.add_sub_cancel, Nat.reduceAdd, Nat.reduceSub, Nat.sub_self, Nat.zero_add]
    refine ⟨fun _ => ⟨fun _ => ?_, fun z => ?_⟩, fun z => by cases z⟩
    · rw [decide_eq_true (by omega)]
    · exact absurd (of_decide_eq_false z) (by omega)
  | str x =>
    show Wp (some false) _
    simp only [w_runF, w_sSeq, w_sIf, w_tBl, w_tNot, w_tAnd, w_tOr, w_tYes, w_fAnd, w_fOr, w_fNot, w_fChain, w_fAp, w_fBM, a2, a1, a3, w_aCons, w_aNil, w_fC, w_sNx, w_sNo, w_sRet, w_sAsg, w_sDrop, w_sSetI, w_gNm, w_add, w_sub, w_mul, w_fdiv, w_mod, w_pow, w_lt, w_le, w_gt, w_ge, w_bB, w_eqI, w_neI, w_eqS, w_neS, w_isB, w_neg, w_isN, w_isBb, w_isi, w_tupN, w_lstN, w_finI, w_finB, w_finS, w_finN, w_impI, w_impS, w_impB, w_impR, w_var0, w_varS, w_sFor, w_iR1, w_isI, w_some, w_lenS, w_lenT, w_lenF, w_lenL, w_lenR, w_addSS, w_addTT, w_ixStr, w_ixTup, w_ixFl, w_ixLst, w_ixRef, w_slBS, w_slAS, w_slBT, w_slAT, w_slABF, w_tupleT, w_tupleL, w_tupleF, w_tupleR, w_listT, w_listF, w_listL, w_listR, w_iSeq, w_seqT, w_seqF, w_seqS, w_seqR, w_iEn, w_en1, w_sqT, w_iZp, w_fComp, imps_nil, imps_cons, at_1_0, at_2_0, at_2_1, at_3_0, at_3_1, at_3_2, at_4_0, at_4_1, at_4_2, at_4_3, at_5_0, at_5_1, at_5_2, at_5_3, at_5_4, wipeD, startD, List.map, List.replicate, List.length, List.cons_append, List.nil_append, List.set_cons_succ, List.set_cons_zero, Nat.add_sub_cancel, Nat.reduceAdd, Nat.reduceSub, Nat.sub_self, Nat.zero_add]
    refine ⟨fun z => (by cases z), fun _ => ⟨fun z => (by cases z), fun _ => ?_⟩⟩
    refine Wp.call (by rfl) (by rfl) (name_good h m) ?_
    simp only [w_runF, w_sSeq, w_sIf, w_tBl, w_tNot, w_tAnd, w_tOr, w_tYes, w_fAnd, w_fOr, w_fNot, w_fChain, w_fAp, w_fBM, a2, a1, a3, w_aCons, w_aNil, w_fC, w_sNx, w_sNo, w_sRet, w_sAsg, w_sDrop, w_sSetI, w_gNm, w_add, w_sub, w_mul, w_fdiv, w_mod, w_pow, w_lt, w_le, w_gt, w_ge, w_bB, w_eqI, w_neI, w_eqS, w_neS, w_isB, w_neg, w_isN, w_isBb, w_isi, w_tupN, w_lstN, w_finI, w_finB, w_finS, w_finN, w_impI, w_impS, w_impB, w_impR, w_var0, w_varS, w_sFor, w_iR1, w_isI, w_some, w_lenS, w_lenT, w_lenF, w_lenL, w_lenR, w_addSS, w_addTT, w_ixStr, w_ixTup, w_ixFl, w_ixLst, w_ixRef, w_slBS, w_slAS, w_slBT, w_slAT, w_slABF, w_tupleT, w_tupleL, w_tupleF, w_tupleR, w_listT, w_listF, w_listL, w_listR, w_iSeq, w_seqT, w_seqF, w_seqS, w_seqR, w_iEn, w_en1, w_sqT, w_iZp, w_fComp, imps_nil, imps_cons, at_1_0, at_2_0, at_2_1, at_3_0, at_3_1, at_3_2, at_4_0, at_4_1, at_4_2, at_4_3, at_5_0, at_5_1, at_5_2, at_5_3, at_5_4, wipeD, startD, List.map, List.replicate, List.length, List.cons_append, List.nil_append, List.set_cons_succ, List.set_cons_zero, Nat.add_sub_cancel, Nat.reduceAdd, Nat.reduceSub, Nat.sub_self, Nat.zero_add]
  | _ => exact h.elim
theorem table_ok {d : D} (h : okTab d) (m : Mem) : F_is_table [d] m = some (.bl true, m) := by
  obtain ⟨w, k, rfl, w1, w4, k0, kw⟩ := h
  apply Wp.eq
  unfold F_is_table b_is_table
  simp only [w_runF, w_sSeq, w_sIf, w_tBl, w_tNot, w_tAnd, w_tOr, w_tYes, w_fAnd, w_fOr, w_fNot, w_fChain, w_fAp, w_fBM, a2, a1, a3, w_aCons, w_aNil, w_fC, w_sNx, w_sNo, w_sRet, w_sAsg, w_sDrop, w_sSetI, w_gNm, w_add, w_sub, w_mul, w_fdiv, w_mod, w_pow, w_lt, w_le, w_gt, w_ge, w_bB, w_eqI, w_neI, w_eqS, w_neS, w_isB, w_neg, w_isN, w_isBb, w_isi, w_tupN, w_lstN, w_finI, w_finB, w_finS, w_finN, w_impI, w_impS, w_impB, w_impR, w_var0, w_varS, w_sFor, w_iR1, w_isI, w_some, w_lenS, w_lenT, w_lenF, w_lenL, w_lenR, w_addSS, w_addTT, w_ixStr, w_ixTup, w_ixFl, w_ixLst, w_ixRef, w_slBS, w_slAS, w_slBT, w_slAT, w_slABF, w_tupleT, w_tupleL, w_tupleF, w_tupleR, w_listT, w_listF, w_listL, w_listR, w_iSeq, w_seqT, w_seqF, w_seqS, w_seqR, w_iEn, w_en1, w_sqT, w_iZp, w_fComp, imps_nil, imps_cons, at_1_0, at_2_0, at_2_1, at_3_0, at_3_1, at_3_2, at_4_0, at_4_1, at_4_2, at_4_3, at_5_0, at_5_1, at_5_2, at_5_3, at_5_4, wipeD, startD, List.map, List.replicate, List.length, List.cons_append, List.nil_append, List.set_cons_succ, List.set_cons_zero, Nat.add_sub_cancel, Nat.reduceAdd, Nat.reduceSub, Nat.sub_self, Nat.zero_add]
  show Wp (some true) _
  simp only [w_runF, w_sSeq, w_sIf, w_tBl, w_tNot, w_tAnd, w_tOr, w_tYes, w_fAnd, w_fOr, w_fNot, w_fChain, w_fAp, w_fBM, a2, a1, a3, w_aCons, w_aNil, w_fC, w_sNx, w_sNo, w_sRet, w_sAsg, w_sDrop, w_sSetI, w_gNm, w_add, w_sub, w_mul, w_fdiv, w_mod, w_pow, w_lt, w_le, w_gt, w_ge, w_bB, w_eqI, w_neI, w_eqS, w_neS, w_isB, w_neg, w_isN, w_isBb, w_isi, w_tupN, w_lstN, w_finI, w_finB, w_finS, w_finN, w_impI, w_impS, w_impB, w_impR, w_var0, w_varS, w_sFor, w_iR1, w_isI, w_some, w_lenS, w_lenT, w_lenF, w_lenL, w_lenR, w_addSS, w_addTT, w_ixStr, w_ixTup, w_ixFl, w_ixLst, w_ixRef, w_slBS, w_slAS, w_slBT, w_slAT, w_slABF, w_tupleT, w_tupleL, w_tupleF, w_tupleR, w_listT, w_listF, w_listL, w_listR, w_iSeq, w_seqT, w_seqF, w_seqS, w_seqR, w_iEn, w_en1, w_sqT, w_iZp, w_fComp, imps_nil, imps_cons, at_1_0, at_2_0, at_2_1, at_3_0, at_3_1, at_3_2, at_4_0, at_4_1, at_4_2, at_4_3, at_5_0, at_5_1, at_5_2, at_5_3, at_5_4, wipeD, startD, List.map, List.replicate, List.length, List.cons_append, List.nil_append, List.set_cons_succ, List.set_cons_zero, Nat.add_sub_cancel, Nat.reduceAdd, Nat.reduceSub, Nat.sub_self, Nat.zero_add]
  refine ⟨fun z => (by cases z), fun _ => ⟨fun z => (by cases z), fun _ => ?_⟩⟩
  refine Wp.call (by rfl) (by rfl) (whole_ok w m) ⟨fun z => (by cases z), fun _ => Wp.call (by rfl) (by rfl) (whole_ok k m) ?_⟩
  simp only [w_runF, w_sSeq, w_sIf, w_tBl, w_tNot, w_tAnd, w_tOr, w_tYes, w_fAnd, w_fOr, w_fNot, w_fChain, w_fAp, w_fBM, a2, a1, a3, w_aCons, w_aNil, w_fC, w_sNx, w_sNo, w_sRet, w_sAsg, w_sDrop, w_sSetI, w_gNm, w_add, w_sub, w_mul, w_fdiv, w_mod, w_pow, w_lt, w_le, w_gt, w_ge, w_bB, w_eqI, w_neI, w_eqS, w_neS, w_isB, w_neg, w_isN, w_isBb, w_isi, w_tupN, w_lstN, w_finI, w_finB, w_finS, w_finN, w_impI, w_impS, w_impB, w_impR, w_var0, w_varS, w_sFor, w_iR1, w_isI, w_some, w_lenS, w_lenT, w_lenF, w_lenL, w_lenR, w_addSS, w_addTT, w_ixStr, w_ixTup, w_ixFl, w_ixLst, w_ixRef, w_slBS, w_slAS, w_slBT, w_slAT, w_slABF, w_tupleT, w_tupleL, w_tupleF, w_tupleR, w_listT, w_listF, w_listL, w_listR, w_iSeq, w_seqT, w_seqF, w_seqS, w_seqR, w_iEn, w_en1, w_sqT, w_iZp, w_fComp, imps_nil, imps_cons, at_1_0, at_2_0, at_2_1, at_3_0, at_3_1, at_3_2, at_4_0, at_4_1, at_4_2, at_4_3, at_5_0, at_5_1, at_5_2, at_5_3, at_5_4, wipeD, startD, List.map, List.replicate, List.length, List.cons_append, List.nil_append, List.set_cons_succ, List.set_cons_zero, Nat.add_sub_cancel, Nat.reduceAdd, Nat.reduceSub, Nat.sub_self, Nat.zero_add]
  refine ⟨fun z => (by cases z), fun _ => ⟨fun _ => ⟨fun _ => ⟨fun _ => ?_, fun z => ?_⟩, fun z => ?_⟩, fun z => ?_⟩⟩
  · rw [decide_eq_true (by omega)]
  · exact absurd (of_decide_eq_false z) (by omega)
  · exact absurd (of_decide_eq_false z) (by omega)
  · exact absurd (of_decide_eq_false z) (by omega)
section
variable {m : Mem} {T : D} {ts : List D} (S : SqOf m T ts)
include S
theorem in_ok {t : Nat} (ht : t < ts.length) : F_is_in [T, .int (t : Int)] m = some (.bl true, m) := by
  apply Wp.eq
  unfold F_is_in b_is_in
  simp only [w_runF, w_sSeq, w_sIf, w_tBl, w_tNot, w_tAnd, w_tOr, w_tYes, w_fAnd, w_fOr, w_fNot, w_fChain, w_fAp, w_fBM, a2, a1, a3, w_aCons, w_aNil, w_fC, w_sNx, w_sNo, w_sRet, w_sAsg, w_sDrop, w_sSetI, w_gNm, w_add, w_sub, w_mul, w_fdiv, w_mod, w_pow, w_lt, w_le, w_gt, w_ge, w_bB, w_eqI, w_neI, w_eqS, w_neS, w_isB, w_neg, w_isN, w_isBb, w_isi, w_tupN, w_lstN, w_finI, w_finB, w_finS, w_finN, w_impI, w_impS, w_impB, w_impR, w_var0, w_varS, w_sFor, w_iR1, w_isI, w_some, w_lenS, w_lenT, w_lenF, w_lenL, w_lenR, w_addSS, w_addTT, w_ixStr, w_ixTup, w_ixFl, w_ixLst, w_ixRef, w_slBS, w_slAS, w_slBT, w_slAT, w_slABF, w_tupleT, w_tupleL, w_tupleF, w_tupleR, w_listT, w_listF, w_listL, w_listR, w_iSeq, w_seqT, w_seqF, w_seqS, w_seqR, w_iEn, w_en1, w_sqT, w_iZp, w_fComp, imps_nil, imps_cons, at_1_0, at_2_0, at_2_1, at_3_0, at_3_1, at_3_2, at_4_0, at_4_1, at_4_2, at_4_3, at_5_0, at_5_1, at_5_2, at_5_3, at_5_4, wipeD, startD, List.map, List.replicate, List.length, List.cons_append, List.nil_append, List.set_cons_succ, List.set_cons_zero, Nat.add_sub_cancel, Nat.reduceAdd, Nat.reduceSub, Nat.sub_self, Nat.zero_add]
  refine Wp.call (by rfl) (by rfl) (whole_ok _ m) ?_
  simp only [w_runF, w_sSeq, w_sIf, w_tBl, w_tNot, w_tAnd, w_tOr, w_tYes, w_fAnd, w_fOr, w_fNot, w_fChain, w_fAp, w_fBM, a2, a1, a3, w_aCons, w_aNil, w_fC, w_sNx, w_sNo, w_sRet, w_sAsg, w_sDrop, w_sSetI, w_gNm, w_add, w_sub, w_mul, w_fdiv, w_mod, w_pow, w_lt, w_le, w_gt, w_ge, w_bB, w_eqI, w_neI, w_eqS, w_neS, w_isB, w_neg, w_isN, w_isBb, w_isi, w_tupN, w_lstN, w_finI, w_finB, w_finS, w_finN, w_impI, w_impS, w_impB, w_impR, w_var0, w_varS, w_sFor, w_iR1, w_isI, w_some, w_lenS, w_lenT, w_lenF, w_lenL, w_lenR, w_addSS, w_addTT, w_ixStr, w_ixTup, w_ixFl, w_ixLst, w_ixRef, w_slBS, w_slAS, w_slBT, w_slAT, w_slABF, w_tupleT, w_tupleL, w_tupleF, w_tupleR, w_listT, w_listF, w_listL, w_listR, w_iSeq, w_seqT, w_seqF, w_seqS, w_seqR, w_iEn, w_en1, w_sqT, w_iZp, w_fComp, imps_nil, imps_cons, at_1_0, at_2_0, at_2_1, at_3_0, at_3_1, at_3_2, at_4_0, at_4_1, at_4_2, at_4_3, at_5_0, at_5_1, at_5_2, at_5_3, at_5_4, wipeD, startD, List.map, List.replicate, List.length, List.cons_append, List.nil_append, List.set_cons_succ, List.set_cons_zero, Nat.add_sub_cancel, Nat.reduceAdd, Nat.reduceSub, Nat.sub_self, Nat.zero_add, S.len]
  refine ⟨fun _ => ⟨fun _ => ?_, fun z => ?_⟩, fun z => by cases z⟩
  · rw [decide_eq_true (by omega)]
  · exact absurd (of_decide_eq_false z) (by omega)
theorem column_ok {t : Nat} {c : D} (h : okCol ts t c) : F_is_column [T, .int (t : Int), c] m = some (.bl true, m) := by
  obtain ⟨c, w, k, rfl, htab, c0, c1⟩ := h
  have ht : t < ts.length := (List.getElem?_eq_some_iff.mp htab).1
  apply Wp.eq
  unfold F_is_column b_is_column
  simp only [w_runF, w_sSeq, w_sIf, w_tBl, w_tNot, w_tAnd, w_tOr, w_tYes, w_fAnd, w_fOr, w_fNot, w_fChain, w_fAp, w_fBM, a2, a1, a3, w_aCons, w_aNil, w_fC, w_sNx, w_sNo, w_sRet, w_sAsg, w_sDrop, w_sSetI, w_gNm, w_add, w_sub, w_mul, w_fdiv, w_mod, w_pow, w_lt, w_le, w_gt, w_ge, w_bB, w_eqI, w_neI, w_eqS, w_neS, w_isB, w_neg, w_isN, w_isBb, w_isi, w_tupN, w_lstN, w_finI, w_finB, w_finS, w_finN, w_impI, w_impS, w_impB, w_impR, w_var0, w_varS, w_sFor, w_iR1, w_isI, w_some, w_lenS, w_lenT, w_lenF, w_lenL, w_lenR, w_addSS, w_addTT, w_ixStr, w_ixTup, w_ixFl, w_ixLst, w_ixRef, w_slBS, w_slAS, w_slBT, w_slAT, w_slABF, w_tupleT, w_tupleL, w_tupleF, w_tupleR, w_listT, w_listF, w_listL, w_listR, w_iSeq, w_seqT, w_seqF, w_seqS, w_seqR, w_iEn, w_en1, w_sqT, w_iZp, w_fComp, imps_nil, imps_cons, at_1_0, at_2_0, at_2_1, at_3_0, at_3_1, at_3_2, at_4_0, at_4_1, at_4_2, at_4_3, at_5_0, at_5_1, at_5_2, at_5_3, at_5_4, wipeD, startD, List.map, List.replicate, List.length, List.cons_append, List.nil_append, List.set_cons_succ, List.set_cons_zero, Nat.add_sub_cancel, Nat.reduceAdd, Nat.reduceSub, Nat.sub_self, Nat.zero_add]
  refine Wp.call (by rfl) (by rfl) (whole_ok _ m) ?_
  simp only [w_runF, w_sSeq, w_sIf, w_tBl, w_tNot, w_tAnd, w_tOr, w_tYes, w_fAnd, w_fOr, w_fNot, w_fChain, w_fAp, w_fBM, a2, a1, a3, w_aCons, w_aNil, w_fC, w_sNx, w_sNo, w_sRet, w_sAsg, w_sDrop, w_sSetI, w_gNm, w_add, w_sub, w_mul, w_fdiv, w_mod, w_pow, w_lt, w_le, w_gt, w_ge, w_bB, w_eqI, w_neI, w_eqS, w_neS, w_isB, w_neg, w_isN, w_isBb, w_isi, w_tupN, w_lstN, w_finI, w_finB, w_finS, w_finN, w_impI, w_impS, w_impB, w_impR, w_var0, w_varS, w_sFor, w_iR1, w_isI, w_some, w_lenS, w_lenT, w_lenF, w_lenL, w_lenR, w_addSS, w_addTT, w_ixStr, w_ixTup, w_ixFl, w_ixLst, w_ixRef, w_slBS, w_slAS, w_slBT, w_slAT, w_slABF, w_tupleT, w_tupleL, w_tupleF, w_tupleR, w_listT, w_listF, w_listL, w_listR, w_iSeq, w_seqT, w_seqF, w_seqS, w_seqR, w_iEn, w_en1, w_sqT, w_iZp, w_fComp, imps_nil, imps_cons, at_1_0, at_2_0, at_2_1, at_3_0, at_3_1, at_3_2, at_4_0, at_4_1, at_4_2, at_4_3, at_5_0, at_5_1, at_5_2, at_5_3, at_5_4, wipeD, startD, List.map, List.replicate, List.length, List.cons_append, List.nil_append, List.set_cons_succ, List.set_cons_zero, Nat.add_sub_cancel, Nat.reduceAdd, Nat.reduceSub, Nat.sub_self, Nat.zero_add, S.ix]
  refine ⟨fun _ => ⟨fun _ => Wp.at (by omega) (by omega) fun z2 hz2 => ?_, fun z => ?_⟩, fun z => by cases z⟩
  · have hz2 : ts[t]? = some z2 := hz2
    rw [htab] at hz2
    cases hz2
    simp only [w_runF, w_sSeq, w_sIf, w_tBl, w_tNot, w_tAnd, w_tOr, w_tYes, w_fAnd, w_fOr, w_fNot, w_fChain, w_fAp, w_fBM, a2, a1, a3, w_aCons, w_aNil, w_fC, w_sNx, w_sNo, w_sRet, w_sAsg, w_sDrop, w_sSetI, w_gNm, w_add, w_sub, w_mul, w_fdiv, w_mod, w_pow, w_lt, w_le, w_gt, w_ge, w_bB, w_eqI, w_neI, w_eqS, w_neS, w_isB, w_neg, w_isN, w_isBb, w_isi, w_tupN, w_lstN, w_finI, w_finB, w_finS, w_finN, w_impI, w_impS, w_impB, w_impR, w_var0, w_varS, w_sFor, w_iR1, w_isI, w_some, w_lenS, w_lenT, w_lenF, w_lenL, w_lenR, w_addSS, w_addTT, w_ixStr, w_ixTup, w_ixFl, w_ixLst, w_ixRef, w_slBS, w_slAS, w_slBT, w_slAT, w_slABF, w_tupleT, w_tupleL, w_tupleF, w_tupleR, w_listT, w_listF, w_listL, w_listR, w_iSeq, w_seqT, w_seqF, w_seqS, w_seqR, w_iEn, w_en1, w_sqT, w_iZp, w_fComp, imps_nil, imps_cons, at_1_0, at_2_0, at_2_1, at_3_0, at_3_1, at_3_2, at_4_0, at_4_1, at_4_2, at_4_3, at_5_0, at_5_1, at_5_2, at_5_3, at_5_4, wipeD, startD, List.map, List.replicate, List.length, List.cons_append, List.nil_append, List.set_cons_succ, List.set_cons_zero, Nat.add_sub_cancel, Nat.reduceAdd, Nat.reduceSub, Nat.sub_self, Nat.zero_add]
    rw [decide_eq_true (by omega)]
  · exact absurd (of_decide_eq_false z) (by omega)
theorem args2 {x : D} (h : plain x = true) : settleds [T, x] = true := by
  show (M3.settled T && (M3.settled x && true)) = true
  rw [S.settled, plain_settled x h]; rfl
theorem args3 {x y : D} (h : plain x = true) (h2 : plain y = true) : settleds [T, x, y] = true := by
  show (M3.settled T && (M3.settled x && (M3.settled y && true))) = true
  rw [S.settled, plain_settled x h, plain_settled y h2]; rfl
theorem args4 {x y z : D} (h : plain x = true) (h2 : plain y = true) (h3 : plain z = true) : settleds [T, x, y, z] = true := by
  show (M3.settled T && (M3.settled x && (M3.settled y && (M3.settled z && true)))) = true
  rw [S.settled, plain_settled x h, plain_settled y h2, plain_settled z h3]; rfl
end
end G06
set_option Elab.async false
set_option linter.all false
set_option autoImplicit false
set_option maxRecDepth 100000
set_option maxHeartbeats 1000000
namespace G06
open PySem PySem.Spec PyProof.Rows L2 M3
theorem okRow_plain {ts : List D} {d : D} (h : okRow ts d) : plain d = true := nice_plain 2 d (okRow_nice h)
section
variable {m : Mem} {T : D} {ts : List D} (S : SqOf m T ts)
include S
theorem side_good {there : List D} {d : D} (hth : okThere ts there) (h : okSide ts there d) : F_is_side [T, .tup there, d] m = some (.bl true, m) := by
  apply Wp.eq
  unfold F_is_side b_is_side
  simp only [w_runF, w_sSeq, w_sIf, w_tBl, w_tNot, w_tAnd, w_tOr, w_tYes, w_fAnd, w_fOr, w_fNot, w_fChain, w_fAp, w_fBM, a2, a1, a3, w_aCons, w_aNil, w_fC, w_sNx, w_sNo, w_sRet, w_sAsg, w_sDrop, w_sSetI, w_gNm, w_add, w_sub, w_mul, w_fdiv, w_mod, w_pow, w_lt, w_le, w_gt, w_ge, w_bB, w_eqI, w_neI, w_eqS, w_neS, w_isB, w_neg, w_isN, w_isBb, w_isi, w_tupN, w_lstN, w_finI, w_finB, w_finS, w_finN, w_impI, w_impS, w_impB, w_impR, w_var0, w_varS, w_sFor, w_iR1, w_isI, w_some, w_lenS, w_lenT, w_lenF, w_lenL, w_lenR, w_addSS, w_addTT, w_ixStr, w_ixTup, w_ixFl, w_ixLst, w_ixRef, w_slBS, w_slAS, w_slBT, w_slAT, w_slABF, w_tupleT, w_tupleL, w_tupleF, w_tupleR, w_listT, w_listF, w_listL, w_listR, w_iSeq, w_seqT, w_seqF, w_seqS, w_seqR, w_iEn, w_en1, w_sqT, w_iZp, w_fComp, imps_nil, imps_cons, at_1_0, at_2_0, at_2_1, at_3_0, at_3_1, at_3_2, at_4_0, at_4_1, at_4_2, at_4_3, at_5_0, at_5_1, at_5_2, at_5_3, at_5_4, wipeD, startD, List.map, List.replicate, List.length, List.cons_append, List.nil_append, List.set_cons_succ, List.set_cons_zero, Nat.add_sub_cancel, Nat.reduceAdd, Nat.reduceSub, Nat.sub_self, Nat.zero_add]
  rcases h with ⟨v, hv, rfl⟩ | ⟨k, t, c, w, kk, rfl, hk, htab, c0, c1⟩
  · show Wp (some true) _
    simp only [w_runF, w_sSeq, w_sIf, w_tBl, w_tNot, w_tAnd, w_tOr, w_tYes, w_fAnd, w_fOr, w_fNot, w_fChain, w_fAp, w_fBM, a2, a1, a3, w_aCons, w_aNil, w_fC, w_sNx, w_sNo, w_sRet, w_sAsg, w_sDrop, w_sSetI, w_gNm, w_add, w_sub, w_mul, w_fdiv, w_mod, w_pow, w_lt, w_le, w_gt, w_ge, w_bB, w_eqI, w_neI, w_eqS, w_neS, w_isB, w_neg, w_isN, w_isBb, w_isi, w_tupN, w_lstN, w_finI, w_finB, w_finS, w_finN, w_impI, w_impS, w_impB, w_impR, w_var0, w_varS, w_sFor, w_iR1, w_isI, w_some, w_lenS, w_lenT, w_lenF, w_lenL, w_lenR, w_addSS, w_addTT, w_ixStr, w_ixTup, w_ixFl, w_ixLst, w_ixRef, w_slBS, w_slAS, w_slBT, w_slAT, w_slABF, w_tupleT, w_tupleL, w_tupleF, w_tupleR, w_listT, w_listF, w_listL, w_listR, w_iSeq, w_seqT, w_seqF, w_seqS, w_seqR, w_iEn, w_en1, w_sqT, w_iZp, w_fComp, imps_nil, imps_cons, at_1_0, at_2_0, at_2_1, at_3_0, at_3_1, at_3_2, at_4_0, at_4_1, at_4_2, at_4_3, at_5_0, at_5_1, at_5_2, at_5_3, at_5_4, wipeD, startD, List.map, List.replicate, List.length, List.cons_append, List.nil_append, List.set_cons_succ, List.set_cons_zero, Nat.add_sub_cancel, Nat.reduceAdd, Nat.reduceSub, Nat.sub_self, Nat.zero_add]
    refine ⟨fun z => (by cases z), fun _ => ⟨fun z => (by simp at z), fun _ => ⟨fun _ => ⟨fun _ => ?_, fun z => (by simp at z)⟩, fun z => (by simp at z)⟩⟩⟩
    refine Wp.call (by rfl) (by show (M3.settled v && true) = true; rw [plain_settled v (nice_plain 0 v (okV_nice hv))]; rfl) (value_ok hv m) ?_
    simp only [w_runF, w_sSeq, w_sIf, w_tBl, w_tNot, w_tAnd, w_tOr, w_tYes, w_fAnd, w_fOr, w_fNot, w_fChain, w_fAp, w_fBM, a2, a1, a3, w_aCons, w_aNil, w_fC, w_sNx, w_sNo, w_sRet, w_sAsg, w_sDrop, w_sSetI, w_gNm, w_add, w_sub, w_mul, w_fdiv, w_mod, w_pow, w_lt, w_le, w_gt, w_ge, w_bB, w_eqI, w_neI, w_eqS, w_neS, w_isB, w_neg, w_isN, w_isBb, w_isi, w_tupN, w_lstN, w_finI, w_finB, w_finS, w_finN, w_impI, w_impS, w_impB, w_impR, w_var0, w_varS, w_sFor, w_iR1, w_isI, w_some, w_lenS, w_lenT, w_lenF, w_lenL, w_lenR, w_addSS, w_addTT, w_ixStr, w_ixTup, w_ixFl, w_ixLst, w_ixRef, w_slBS, w_slAS, w_slBT, w_slAT, w_slABF, w_tupleT, w_tupleL, w_tupleF, w_tupleR, w_listT, w_listF, w_listL, w_listR, w_iSeq, w_seqT, w_seqF, w_seqS, w_seqR, w_iEn, w_en1, w_sqT, w_iZp, w_fComp, imps_nil, imps_cons, at_1_0, at_2_0, at_2_1, at_3_0, at_3_1, at_3_2, at_4_0, at_4_1, at_4_2, at_4_3, at_5_0, at_5_1, at_5_2, at_5_3, at_5_4, wipeD, startD, List.map, List.replicate, List.length, List.cons_append, List.nil_append, List.set_cons_succ, List.set_cons_zero, Nat.add_sub_cancel, Nat.reduceAdd, Nat.reduceSub, Nat.sub_self, Nat.zero_add]
  · show Wp (some true) _
    simp only [w_runF, w_sSeq, w_sIf, w_tBl, w_tNot, w_tAnd, w_tOr, w_tYes, w_fAnd, w_fOr, w_fNot, w_fChain, w_fAp, w_fBM, a2, a1, a3, w_aCons, w_aNil, w_fC, w_sNx, w_sNo, w_sRet, w_sAsg, w_sDrop, w_sSetI, w_gNm, w_add, w_sub, w_mul, w_fdiv, w_mod, w_pow, w_lt, w_le, w_gt, w_ge, w_bB, w_eqI, w_neI, w_eqS, w_neS, w_isB, w_neg, w_isN, w_isBb, w_isi, w_tupN, w_lstN, w_finI, w_finB, w_finS, w_finN, w_impI, w_impS, w_impB, w_impR, w_var0, w_varS, w_sFor, w_iR1, w_isI, w_some, w_lenS, w_lenT, w_lenF, w_lenL, w_lenR, w_addSS, w_addTT, w_ixStr, w_ixTup, w_ixFl, w_ixLst, w_ixRef, w_slBS, w_slAS, w_slBT, w_slAT, w_slABF, w_tupleT, w_tupleL, w_tupleF, w_tupleR, w_listT, w_listF, w_listL, w_listR, w_iSeq, w_seqT, w_seqF, w_seqS, w_seqR, w_iEn, w_en1, w_sqT, w_iZp, w_fComp, imps_nil, imps_cons, at_1_0, at_2_0, at_2_1, at_3_0, at_3_1, at_3_2, at_4_0, at_4_1, at_4_2, at_4_3, at_5_0, at_5_1, at_5_2, at_5_3, at_5_4, wipeD, startD, List.map, List.replicate, List.length, List.cons_append, List.nil_append, List.set_cons_succ, List.set_cons_zero, Nat.add_sub_cancel, Nat.reduceAdd, Nat.reduceSub, Nat.sub_self, Nat.zero_add]
    have hk2 : k < there.length := (List.getElem?_eq_some_iff.mp hk).1
    refine ⟨fun z => (by cases z), fun _ => ⟨fun z => (by simp at z), fun _ => ⟨fun z => (by simp at z), fun _ => ⟨fun z => (by simp at z), fun _ => ⟨fun z => (by simp at z), fun _ => ?_⟩⟩⟩⟩⟩
    refine Wp.call (by rfl) (by rfl) (whole_ok _ m) ?_
    simp only [w_runF, w_sSeq, w_sIf, w_tBl, w_tNot, w_tAnd, w_tOr, w_tYes, w_fAnd, w_fOr, w_fNot, w_fChain, w_fAp, w_fBM, a2, a1, a3, w_aCons, w_aNil, w_fC, w_sNx, w_sNo, w_sRet, w_sAsg, w_sDrop, w_sSetI, w_gNm, w_add, w_sub, w_mul, w_fdiv, w_mod, w_pow, w_lt, w_le, w_gt, w_ge, w_bB, w_eqI, w_neI, w_eqS, w_neS, w_isB, w_neg, w_isN, w_isBb, w_isi, w_tupN, w_lstN, w_finI, w_finB, w_finS, w_finN, w_impI, w_impS, w_impB, w_impR, w_var0, w_varS, w_sFor, w_iR1, w_isI, w_some, w_lenS, w_lenT, w_lenF, w_lenL, w_lenR, w_addSS, w_addTT, w_ixStr, w_ixTup, w_ixFl, w_ixLst, w_ixRef, w_slBS, w_slAS, w_slBT, w_slAT, w_slABF, w_tupleT, w_tupleL, w_tupleF, w_tupleR, w_listT, w_listF, w_listL, w_listR, w_iSeq, w_seqT, w_seqF, w_seqS, w_seqR, w_iEn, w_en1, w_sqT, w_iZp, w_fComp, imps_nil, imps_cons, at_1_0, at_2_0, at_2_1, at_3_0, at_3_1, at_3_2, at_4_0, at_4_1, at_4_2, at_4_3, at_5_0, at_5_1, at_5_2, at_5_3, at_5_4, wipeD, startD, List.map, List.replicate, List.length, List.cons_append, List.nil_append, List.set_cons_succ, List.set_cons_zero, Nat.add_sub_cancel, Nat.reduceAdd, Nat.reduceSub, Nat.sub_self, Nat.zero_add]
    refine ⟨fun z => (by cases z), fun _ => ⟨fun _ => ⟨fun z => ?_, fun _ => ?_⟩, fun z => ?_⟩⟩
    · exact absurd z (by rw [decide_eq_true (by omega)]; decide)
    · refine Wp.at (by omega) (by omega) fun z2 hz2 => ?_
      have hz2 : there[k]? = some z2 := hz2
      rw [hk] at hz2
      cases hz2
      refine Wp.call (by rfl) (args3 S rfl rfl) (column_ok S ⟨c, w, kk, rfl, htab, c0, c1⟩) ?_
      simp only [w_runF, w_sSeq, w_sIf, w_tBl, w_tNot, w_tAnd, w_tOr, w_tYes, w_fAnd, w_fOr, w_fNot, w_fChain, w_fAp, w_fBM, a2, a1, a3, w_aCons, w_aNil, w_fC, w_sNx, w_sNo, w_sRet, w_sAsg, w_sDrop, w_sSetI, w_gNm, w_add, w_sub, w_mul, w_fdiv, w_mod, w_pow, w_lt, w_le, w_gt, w_ge, w_bB, w_eqI, w_neI, w_eqS, w_neS, w_isB, w_neg, w_isN, w_isBb, w_isi, w_tupN, w_lstN, w_finI, w_finB, w_finS, w_finN, w_impI, w_impS, w_impB, w_impR, w_var0, w_varS, w_sFor, w_iR1, w_isI, w_some, w_lenS, w_lenT, w_lenF, w_lenL, w_lenR, w_addSS, w_addTT, w_ixStr, w_ixTup, w_ixFl, w_ixLst, w_ixRef, w_slBS, w_slAS, w_slBT, w_slAT, w_slABF, w_tupleT, w_tupleL, w_tupleF, w_tupleR, w_listT, w_listF, w_listL, w_listR, w_iSeq, w_seqT, w_seqF, w_seqS, w_seqR, w_iEn, w_en1, w_sqT, w_iZp, w_fComp, imps_nil, imps_cons, at_1_0, at_2_0, at_2_1, at_3_0, at_3_1, at_3_2, at_4_0, at_4_1, at_4_2, at_4_3, at_5_0, at_5_1, at_5_2, at_5_3, at_5_4, wipeD, startD, List.map, List.replicate, List.length, List.cons_append, List.nil_append, List.set_cons_succ, List.set_cons_zero, Nat.add_sub_cancel, Nat.reduceAdd, Nat.reduceSub, Nat.sub_self, Nat.zero_add]
    · exact absurd (of_decide_eq_false z) (by omega)
theorem tests_good {there : List D} {d : D} (hth : okThere ts there) (h : okTests ts there d) : F_are_tests [T, .tup there, d] m = some (.bl true, m) := by
  obtain ⟨xs, rfl, x1, x3, hx⟩ := h
  apply Wp.eq
  unfold F_are_tests b_are_tests
  simp only [w_runF, w_sSeq, w_sIf, w_tBl, w_tNot, w_tAnd, w_tOr, w_tYes, w_fAnd, w_fOr, w_fNot, w_fChain, w_fAp, w_fBM, a2, a1, a3, w_aCons, w_aNil, w_fC, w_sNx, w_sNo, w_sRet, w_sAsg, w_sDrop, w_sSetI, w_gNm, w_add, w_sub, w_mul, w_fdiv, w_mod, w_pow, w_lt, w_le, w_gt, w_ge, w_bB, w_eqI, w_neI, w_eqS, w_neS, w_isB, w_neg, w_isN, w_isBb, w_isi, w_tupN, w_lstN, w_finI, w_finB, w_finS, w_finN, w_impI, w_impS, w_impB, w_impR, w_var0, w_varS, w_sFor, w_iR1, w_isI, w_some, w_lenS, w_lenT, w_lenF, w_lenL, w_lenR, w_addSS, w_addTT, w_ixStr, w_ixTup, w_ixFl, w_ixLst, w_ixRef, w_slBS, w_slAS, w_slBT, w_slAT, w_slABF, w_tupleT, w_tupleL, w_tupleF, w_tupleR, w_listT, w_listF, w_listL, w_listR, w_iSeq, w_seqT, w_seqF, w_seqS, w_seqR, w_iEn, w_en1, w_sqT, w_iZp, w_fComp, imps_nil, imps_cons, at_1_0, at_2_0, at_2_1, at_3_0, at_3_1, at_3_2, at_4_0, at_4_1, at_4_2, at_4_3, at_5_0, at_5_1, at_5_2, at_5_3, at_5_4, wipeD, startD, List.map, List.replicate, List.length, List.cons_append, List.nil_append, List.set_cons_succ, List.set_cons_zero, Nat.add_sub_cancel, Nat.reduceAdd, Nat.reduceSub, Nat.sub_self, Nat.zero_add]
  show Wp (some true) _
  simp only [w_runF, w_sSeq, w_sIf, w_tBl, w_tNot, w_tAnd, w_tOr, w_tYes, w_fAnd, w_fOr, w_fNot, w_fChain, w_fAp, w_fBM, a2, a1, a3, w_aCons, w_aNil, w_fC, w_sNx, w_sNo, w_sRet, w_sAsg, w_sDrop, w_sSetI, w_gNm, w_add, w_sub, w_mul, w_fdiv, w_mod, w_pow, w_lt, w_le, w_gt, w_ge, w_bB, w_eqI, w_neI, w_eqS, w_neS, w_isB, w_neg, w_isN, w_isBb, w_isi, w_tupN, w_lstN, w_finI, w_finB, w_finS, w_finN, w_impI, w_impS, w_impB, w_impR, w_var0, w_varS, w_sFor, w_iR1, w_isI, w_some, w_lenS, w_lenT, w_lenF, w_lenL, w_lenR, w_addSS, w_addTT, w_ixStr, w_ixTup, w_ixFl, w_ixLst, w_ixRef, w_slBS, w_slAS, w_slBT, w_slAT, w_slABF, w_tupleT, w_tupleL, w_tupleF, w_tupleR, w_listT, w_listF, w_listL, w_listR, w_iSeq, w_seqT, w_seqF, w_seqS, w_seqR, w_iEn, w_en1, w_sqT, w_iZp, w_fComp, imps_nil, imps_cons, at_1_0, at_2_0, at_2_1, at_3_0, at_3_1, at_3_2, at_4_0, at_4_1, at_4_2, at_4_3, at_5_0, at_5_1, at_5_2, at_5_3, at_5_4, wipeD, startD, List.map, List.replicate, List.length, List.cons_append, List.nil_append, List.set_cons_succ, List.set_cons_zero, Nat.add_sub_cancel, Nat.reduceAdd, Nat.reduceSub, Nat.sub_self, Nat.zero_add]
  refine ⟨fun z => (by cases z), fun _ => ⟨fun _ => ⟨fun z => ?_, fun _ => ?_⟩, fun z => ?_⟩⟩
  · exact absurd z (by rw [decide_eq_true (by omega)]; decide)
  · have px : plains xs = true := plains_iff.mpr fun x h => nice_plain 2 x (okTest_nice (hx x h))
    have pt : plain (.tup there) = true := nice_plain 1 (.tup there) (okThere_nice hth)
    rw [imp_plain (show plain (.tup xs) = true from px)]
    simp only [w_runF, w_sSeq, w_sIf, w_tBl, w_tNot, w_tAnd, w_tOr, w_tYes, w_fAnd, w_fOr, w_fNot, w_fChain, w_fAp, w_fBM, a2, a1, a3, w_aCons, w_aNil, w_fC, w_sNx, w_sNo, w_sRet, w_sAsg, w_sDrop, w_sSetI, w_gNm, w_add, w_sub, w_mul, w_fdiv, w_mod, w_pow, w_lt, w_le, w_gt, w_ge, w_bB, w_eqI, w_neI, w_eqS, w_neS, w_isB, w_neg, w_isN, w_isBb, w_isi, w_tupN, w_lstN, w_finI, w_finB, w_finS, w_finN, w_impI, w_impS, w_impB, w_impR, w_var0, w_varS, w_sFor, w_iR1, w_isI, w_some, w_lenS, w_lenT, w_lenF, w_lenL, w_lenR, w_addSS, w_addTT, w_ixStr, w_ixTup, w_ixFl, w_ixLst, w_ixRef, w_slBS, w_slAS, w_slBT, w_slAT, w_slABF, w_tupleT, w_tupleL, w_tupleF, w_tupleR, w_listT, w_listF, w_listL, w_listR, w_iSeq, w_seqT, w_seqF, w_seqS, w_seqR, w_iEn, w_en1, w_sqT, w_iZp, w_fComp, imps_nil, imps_cons, at_1_0, at_2_0, at_2_1, at_3_0, at_3_1, at_3_2, at_4_0, at_4_1, at_4_2, at_4_3, at_5_0, at_5_1, at_5_2, at_5_3, at_5_4, wipeD, startD, List.map, List.replicate, List.length, List.cons_append, List.nil_append, List.set_cons_succ, List.set_cons_zero, Nat.add_sub_cancel, Nat.reduceAdd, Nat.reduceSub, Nat.sub_self, Nat.zero_add]
    refine Wp.for (fun k l m' => ∃ v, m' = m ∧ l = [some T, some (.tup there), some (.tup xs), v]) 0 ⟨none, rfl, rfl⟩ ?_ ?_
    · rintro i d l m' hd ⟨v, rfl, rfl⟩
      obtain ⟨a, y, b, rfl, oa, ob, hy⟩ := hx d (List.mem_of_getElem? hd)
      have pa : plain a = true := nice_plain 1 a (okSide_nice oa)
      have pb : plain b = true := nice_plain 1 b (okSide_nice ob)
      have pd : plain (.tup [a, .str y, b]) = true := nice_plain 2 _ (okTest_nice ⟨a, y, b, rfl, oa, ob, hy⟩)
      simp only [w_runF, w_sSeq, w_sIf, w_tBl, w_tNot, w_tAnd, w_tOr, w_tYes, w_fAnd, w_fOr, w_fNot, w_fChain, w_fAp, w_fBM, a2, a1, a3, w_aCons, w_aNil, w_fC, w_sNx, w_sNo, w_sRet, w_sAsg, w_sDrop, w_sSetI, w_gNm, w_add, w_sub, w_mul, w_fdiv, w_mod, w_pow, w_lt, w_le, w_gt, w_ge, w_bB, w_eqI, w_neI, w_eqS, w_neS, w_isB, w_neg, w_isN, w_isBb, w_isi, w_tupN, w_lstN, w_finI, w_finB, w_finS, w_finN, w_impI, w_impS, w_impB, w_impR, w_var0, w_varS, w_sFor, w_iR1, w_isI, w_some, w_lenS, w_lenT, w_lenF, w_lenL, w_lenR, w_addSS, w_addTT, w_ixStr, w_ixTup, w_ixFl, w_ixLst, w_ixRef, w_slBS, w_slAS, w_slBT, w_slAT, w_slABF, w_tupleT, w_tupleL, w_tupleF, w_tupleR, w_listT, w_listF, w_listL, w_listR, w_iSeq, w_seqT, w_seqF, w_seqS, w_seqR, w_iEn, w_en1, w_sqT, w_iZp, w_fComp, imps_nil, imps_cons, at_1_0, at_2_0, at_2_1, at_3_0, at_3_1, at_3_2, at_4_0, at_4_1, at_4_2, at_4_3, at_5_0, at_5_1, at_5_2, at_5_3, at_5_4, wipeD, startD, List.map, List.replicate, List.length, List.cons_append, List.nil_append, List.set_cons_succ, List.set_cons_zero, Nat.add_sub_cancel, Nat.reduceAdd, Nat.reduceSub, Nat.sub_self, Nat.zero_add, imp_plain pd]
      show Wp (some true) _
      simp only [w_runF, w_sSeq, w_sIf, w_tBl, w_tNot, w_tAnd, w_tOr, w_tYes, w_fAnd, w_fOr, w_fNot, w_fChain, w_fAp, w_fBM, a2, a1, a3, w_aCons, w_aNil, w_fC, w_sNx, w_sNo, w_sRet, w_sAsg, w_sDrop, w_sSetI, w_gNm, w_add, w_sub, w_mul, w_fdiv, w_mod, w_pow, w_lt, w_le, w_gt, w_ge, w_bB, w_eqI, w_neI, w_eqS, w_neS, w_isB, w_neg, w_isN, w_isBb, w_isi, w_tupN, w_lstN, w_finI, w_finB, w_finS, w_finN, w_impI, w_impS, w_impB, w_impR, w_var0, w_varS, w_sFor, w_iR1, w_isI, w_some, w_lenS, w_lenT, w_lenF, w_lenL, w_lenR, w_addSS, w_addTT, w_ixStr, w_ixTup, w_ixFl, w_ixLst, w_ixRef, w_slBS, w_slAS, w_slBT, w_slAT, w_slABF, w_tupleT, w_tupleL, w_tupleF, w_tupleR, w_listT, w_listF, w_listL, w_listR, w_iSeq, w_seqT, w_seqF, w_seqS, w_seqR, w_iEn, w_en1, w_sqT, w_iZp, w_fComp, imps_nil, imps_cons, at_1_0, at_2_0, at_2_1, at_3_0, at_3_1, at_3_2, at_4_0, at_4_1, at_4_2, at_4_3, at_5_0, at_5_1, at_5_2, at_5_3, at_5_4, wipeD, startD, List.map, List.replicate, List.length, List.cons_append, List.nil_append, List.set_cons_succ, List.set_cons_zero, Nat.add_sub_cancel, Nat.reduceAdd, Nat.reduceSub, Nat.sub_self, Nat.zero_add]
      refine ⟨fun z => (by cases z), fun _ => ⟨fun z => (by simp at z), fun _ => ?_⟩⟩
      have wn : nices 0 [D.str "same", D.str "unlike", D.str "less"] = true := by decide +kernel
      refine Wp.nin (n := 0) (k := 0) (by decide) (by decide) (isWord_ok hy) wn (snap_tup wn) ⟨fun z => ?_, fun _ => ?_⟩
      · exfalso
        have h1 : (D.str y) ∈ [D.str "same", D.str "unlike", D.str "less"] := by
          rcases hy with rfl | rfl | rfl <;> simp
        simp [h1] at z
      · refine Wp.call (by rfl) (args3 S pt pa) (side_good S hth oa) ⟨fun z => (by cases z), fun _ => Wp.call (by rfl) (args3 S pt pb) (side_good S hth ob) ⟨fun z => (by cases z), fun _ => ⟨okNil, _, rfl, rfl⟩⟩⟩
    · rintro l m' ⟨v, rfl, rfl⟩
      simp only [w_runF, w_sSeq, w_sIf, w_tBl, w_tNot, w_tAnd, w_tOr, w_tYes, w_fAnd, w_fOr, w_fNot, w_fChain, w_fAp, w_fBM, a2, a1, a3, w_aCons, w_aNil, w_fC, w_sNx, w_sNo, w_sRet, w_sAsg, w_sDrop, w_sSetI, w_gNm, w_add, w_sub, w_mul, w_fdiv, w_mod, w_pow, w_lt, w_le, w_gt, w_ge, w_bB, w_eqI, w_neI, w_eqS, w_neS, w_isB, w_neg, w_isN, w_isBb, w_isi, w_tupN, w_lstN, w_finI, w_finB, w_finS, w_finN, w_impI, w_impS, w_impB, w_impR, w_var0, w_varS, w_sFor, w_iR1, w_isI, w_some, w_lenS, w_lenT, w_lenF, w_lenL, w_lenR, w_addSS, w_addTT, w_ixStr, w_ixTup, w_ixFl, w_ixLst, w_ixRef, w_slBS, w_slAS, w_slBT, w_slAT, w_slABF, w_tupleT, w_tupleL, w_tupleF, w_tupleR, w_listT, w_listF, w_listL, w_listR, w_iSeq, w_seqT, w_seqF, w_seqS, w_seqR, w_iEn, w_en1, w_sqT, w_iZp, w_fComp, imps_nil, imps_cons, at_1_0, at_2_0, at_2_1, at_3_0, at_3_1, at_3_2, at_4_0, at_4_1, at_4_2, at_4_3, at_5_0, at_5_1, at_5_2, at_5_3, at_5_4, wipeD, startD, List.map, List.replicate, List.length, List.cons_append, List.nil_append, List.set_cons_succ, List.set_cons_zero, Nat.add_sub_cancel, Nat.reduceAdd, Nat.reduceSub, Nat.sub_self, Nat.zero_add]
  · exact absurd (of_decide_eq_false z) (by omega)
theorem cols_good {t : Nat} {cs : List D} {n : Int} (hn : n = cs.length) (h : ∀ c ∈ cs, okCol ts t c) : F_are_columns [T, .int (t : Int), .tup cs, .int n] m = some (.bl true, m) := by
  apply Wp.eq
  unfold F_are_columns b_are_columns
  simp only [w_runF, w_sSeq, w_sIf, w_tBl, w_tNot, w_tAnd, w_tOr, w_tYes, w_fAnd, w_fOr, w_fNot, w_fChain, w_fAp, w_fBM, a2, a1, a3, w_aCons, w_aNil, w_fC, w_sNx, w_sNo, w_sRet, w_sAsg, w_sDrop, w_sSetI, w_gNm, w_add, w_sub, w_mul, w_fdiv, w_mod, w_pow, w_lt, w_le, w_gt, w_ge, w_bB, w_eqI, w_neI, w_eqS, w_neS, w_isB, w_neg, w_isN, w_isBb, w_isi, w_tupN, w_lstN, w_finI, w_finB, w_finS, w_finN, w_impI, w_impS, w_impB, w_impR, w_var0, w_varS, w_sFor, w_iR1, w_isI, w_some, w_lenS, w_lenT, w_lenF, w_lenL, w_lenR, w_addSS, w_addTT, w_ixStr, w_ixTup, w_ixFl, w_ixLst, w_ixRef, w_slBS, w_slAS, w_slBT, w_slAT, w_slABF, w_tupleT, w_tupleL, w_tupleF, w_tupleR, w_listT, w_listF, w_listL, w_listR, w_iSeq, w_seqT, w_seqF, w_seqS, w_seqR, w_iEn, w_en1, w_sqT, w_iZp, w_fComp, imps_nil, imps_cons, at_1_0, at_2_0, at_2_1, at_3_0, at_3_1, at_3_2, at_4_0, at_4_1, at_4_2, at_4_3, at_5_0, at_5_1, at_5_2, at_5_3, at_5_4, wipeD, startD, List.map, List.replicate, List.length, List.cons_append, List.nil_append, List.set_cons_succ, List.set_cons_zero, Nat.add_sub_cancel, Nat.reduceAdd, Nat.reduceSub, Nat.sub_self, Nat.zero_add]
  show Wp (some true) _
  simp only [w_runF, w_sSeq, w_sIf, w_tBl, w_tNot, w_tAnd, w_tOr, w_tYes, w_fAnd, w_fOr, w_fNot, w_fChain, w_fAp, w_fBM, a2, a1, a3, w_aCons, w_aNil, w_fC, w_sNx, w_sNo, w_sRet, w_sAsg, w_sDrop, w_sSetI, w_gNm, w_add, w_sub, w_mul, w_fdiv, w_mod, w_pow, w_lt, w_le, w_gt, w_ge, w_bB, w_eqI, w_neI, w_eqS, w_neS, w_isB, w_neg, w_isN, w_isBb, w_isi, w_tupN, w_lstN, w_finI, w_finB, w_finS, w_finN, w_impI, w_impS, w_impB, w_impR, w_var0, w_varS, w_sFor, w_iR1, w_isI, w_some, w_lenS, w_lenT, w_lenF, w_lenL, w_lenR, w_addSS, w_addTT, w_ixStr, w_ixTup, w_ixFl, w_ixLst, w_ixRef, w_slBS, w_slAS, w_slBT, w_slAT, w_slABF, w_tupleT, w_tupleL, w_tupleF, w_tupleR, w_listT, w_listF, w_listL, w_listR, w_iSeq, w_seqT, w_seqF, w_seqS, w_seqR, w_iEn, w_en1, w_sqT, w_iZp, w_fComp, imps_nil, imps_cons, at_1_0, at_2_0, at_2_1, at_3_0, at_3_1, at_3_2, at_4_0, at_4_1, at_4_2, at_4_3, at_5_0, at_5_1, at_5_2, at_5_3, at_5_4, wipeD, startD, List.map, List.replicate, List.length, List.cons_append, List.nil_append, List.set_cons_succ, List.set_cons_zero, Nat.add_sub_cancel, Nat.reduceAdd, Nat.reduceSub, Nat.sub_self, Nat.zero_add]
  have pc : plain (.tup cs) = true := nice_plain 4 (.tup cs) (okCols_nice h)
  refine ⟨fun z => (by cases z), fun _ => ⟨fun z => (by simp [hn] at z), fun _ => ?_⟩⟩
  rw [imp_plain pc]
  simp only [w_runF, w_sSeq, w_sIf, w_tBl, w_tNot, w_tAnd, w_tOr, w_tYes, w_fAnd, w_fOr, w_fNot, w_fChain, w_fAp, w_fBM, a2, a1, a3, w_aCons, w_aNil, w_fC, w_sNx, w_sNo, w_sRet, w_sAsg, w_sDrop, w_sSetI, w_gNm, w_add, w_sub, w_mul, w_fdiv, w_mod, w_pow, w_lt, w_le, w_gt, w_ge, w_bB, w_eqI, w_neI, w_eqS, w_neS, w_isB, w_neg, w_isN, w_isBb, w_isi, w_tupN, w_lstN, w_finI, w_finB, w_finS, w_finN, w_impI, w_impS, w_impB, w_impR, w_var0, w_varS, w_sFor, w_iR1, w_isI, w_some, w_lenS, w_lenT, w_lenF, w_lenL, w_lenR, w_addSS, w_addTT, w_ixStr, w_ixTup, w_ixFl, w_ixLst, w_ixRef, w_slBS, w_slAS, w_slBT, w_slAT, w_slABF, w_tupleT, w_tupleL, w_tupleF, w_tupleR, w_listT, w_listF, w_listL, w_listR, w_iSeq, w_seqT, w_seqF, w_seqS, w_seqR, w_iEn, w_en1, w_sqT, w_iZp, w_fComp, imps_nil, imps_cons, at_1_0, at_2_0, at_2_1, at_3_0, at_3_1, at_3_2, at_4_0, at_4_1, at_4_2, at_4_3, at_5_0, at_5_1, at_5_2, at_5_3, at_5_4, wipeD, startD, List.map, List.replicate, List.length, List.cons_append, List.nil_append, List.set_cons_succ, List.set_cons_zero, Nat.add_sub_cancel, Nat.reduceAdd, Nat.reduceSub, Nat.sub_self, Nat.zero_add]
  refine Wp.map (fun _ y => y = .bl true) (fun i d hd => ?_) fun ys _ hy => ?_
  · have hc := h d (List.mem_of_getElem? hd)
    have pd : plain d = true := by obtain ⟨c, w, k, rfl, _⟩ := hc; rfl
    simp only [w_runF, w_sSeq, w_sIf, w_tBl, w_tNot, w_tAnd, w_tOr, w_tYes, w_fAnd, w_fOr, w_fNot, w_fChain, w_fAp, w_fBM, a2, a1, a3, w_aCons, w_aNil, w_fC, w_sNx, w_sNo, w_sRet, w_sAsg, w_sDrop, w_sSetI, w_gNm, w_add, w_sub, w_mul, w_fdiv, w_mod, w_pow, w_lt, w_le, w_gt, w_ge, w_bB, w_eqI, w_neI, w_eqS, w_neS, w_isB, w_neg, w_isN, w_isBb, w_isi, w_tupN, w_lstN, w_finI, w_finB, w_finS, w_finN, w_impI, w_impS, w_impB, w_impR, w_var0, w_varS, w_sFor, w_iR1, w_isI, w_some, w_lenS, w_lenT, w_lenF, w_lenL, w_lenR, w_addSS, w_addTT, w_ixStr, w_ixTup, w_ixFl, w_ixLst, w_ixRef, w_slBS, w_slAS, w_slBT, w_slAT, w_slABF, w_tupleT, w_tupleL, w_tupleF, w_tupleR, w_listT, w_listF, w_listL, w_listR, w_iSeq, w_seqT, w_seqF, w_seqS, w_seqR, w_iEn, w_en1, w_sqT, w_iZp, w_fComp, imps_nil, imps_cons, at_1_0, at_2_0, at_2_1, at_3_0, at_3_1, at_3_2, at_4_0, at_4_1, at_4_2, at_4_3, at_5_0, at_5_1, at_5_2, at_5_3, at_5_4, wipeD, startD, List.map, List.replicate, List.length, List.cons_append, List.nil_append, List.set_cons_succ, List.set_cons_zero, Nat.add_sub_cancel, Nat.reduceAdd, Nat.reduceSub, Nat.sub_self, Nat.zero_add, imp_plain pd]
    refine ⟨trivial, Wp.call (by rfl) (args3 S rfl pd) (column_ok S hc) ⟨rfl, rfl⟩⟩
  · refine all_bl (fun y hy2 => ?_) ?_
    · obtain ⟨i, hi⟩ := List.mem_iff_getElem?.mp hy2
      exact hy i y hi
    · simp only [w_runF, w_sSeq, w_sIf, w_tBl, w_tNot, w_tAnd, w_tOr, w_tYes, w_fAnd, w_fOr, w_fNot, w_fChain, w_fAp, w_fBM, a2, a1, a3, w_aCons, w_aNil, w_fC, w_sNx, w_sNo, w_sRet, w_sAsg, w_sDrop, w_sSetI, w_gNm, w_add, w_sub, w_mul, w_fdiv, w_mod, w_pow, w_lt, w_le, w_gt, w_ge, w_bB, w_eqI, w_neI, w_eqS, w_neS, w_isB, w_neg, w_isN, w_isBb, w_isi, w_tupN, w_lstN, w_finI, w_finB, w_finS, w_finN, w_impI, w_impS, w_impB, w_impR, w_var0, w_varS, w_sFor, w_iR1, w_isI, w_some, w_lenS, w_lenT, w_lenF, w_lenL, w_lenR, w_addSS, w_addTT, w_ixStr, w_ixTup, w_ixFl, w_ixLst, w_ixRef, w_slBS, w_slAS, w_slBT, w_slAT, w_slABF, w_tupleT, w_tupleL, w_tupleF, w_tupleR, w_listT, w_listF, w_listL, w_listR, w_iSeq, w_seqT, w_seqF, w_seqS, w_seqR, w_iEn, w_en1, w_sqT, w_iZp, w_fComp, imps_nil, imps_cons, at_1_0, at_2_0, at_2_1, at_3_0, at_3_1, at_3_2, at_4_0, at_4_1, at_4_2, at_4_3, at_5_0, at_5_1, at_5_2, at_5_3, at_5_4, wipeD, startD, List.map, List.replicate, List.length, List.cons_append, List.nil_append, List.set_cons_succ, List.set_cons_zero, Nat.add_sub_cancel, Nat.reduceAdd, Nat.reduceSub, Nat.sub_self, Nat.zero_add]
theorem tie_good {t u : Nat} {cs es : List D} (ht : t < ts.length) (hu : u < ts.length) (c1 : 1 ≤ cs.length) (c3 : cs.length ≤ 3) (ce : es.length = cs.length) (hc : ∀ c ∈ cs, okCol ts t c) (he : ∀ c ∈ es, okCol ts u c) :
    F_is_tie [T, .tup [.str "tie", .int (t : Int), .tup cs, .int (u : Int), .tup es]] m = some (.bl true, m) := by
  apply Wp.eq
  unfold F_is_tie b_is_tie
  have pc : plain (.tup cs) = true := nice_plain 4 (.tup cs) (okCols_nice hc)
  have pe : plain (.tup es) = true := nice_plain 4 (.tup es) (okCols_nice he)
  simp only [w_runF, w_sSeq, w_sIf, w_tBl, w_tNot, w_tAnd, w_tOr, w_tYes, w_fAnd, w_fOr, w_fNot, w_fChain, w_fAp, w_fBM, a2, a1, a3, w_aCons, w_aNil, w_fC, w_sNx, w_sNo, w_sRet, w_sAsg, w_sDrop, w_sSetI, w_gNm, w_add, w_sub, w_mul, w_fdiv, w_mod, w_pow, w_lt, w_le, w_gt, w_ge, w_bB, w_eqI, w_neI, w_eqS, w_neS, w_isB, w_neg, w_isN, w_isBb, w_isi, w_tupN, w_lstN, w_finI, w_finB, w_finS, w_finN, w_impI, w_impS, w_impB, w_impR, w_var0, w_varS, w_sFor, w_iR1, w_isI, w_some, w_lenS, w_lenT, w_lenF, w_lenL, w_lenR, w_addSS, w_addTT, w_ixStr, w_ixTup, w_ixFl, w_ixLst, w_ixRef, w_slBS, w_slAS, w_slBT, w_slAT, w_slABF, w_tupleT, w_tupleL, w_tupleF, w_tupleR, w_listT, w_listF, w_listL, w_listR, w_iSeq, w_seqT, w_seqF, w_seqS, w_seqR, w_iEn, w_en1, w_sqT, w_iZp, w_fComp, imps_nil, imps_cons, at_1_0, at_2_0, at_2_1, at_3_0, at_3_1, at_3_2, at_4_0, at_4_1, at_4_2, at_4_3, at_5_0, at_5_1, at_5_2, at_5_3, at_5_4, wipeD, startD, List.map, List.replicate, List.length, List.cons_append, List.nil_append, List.set_cons_succ, List.set_cons_zero, Nat.add_sub_cancel, Nat.reduceAdd, Nat.reduceSub, Nat.sub_self, Nat.zero_add, imp_plain pc]
  refine ⟨fun z => (by simp at z), fun _ => ?_⟩
  refine Wp.call (by rfl) (args2 S rfl) (in_ok S ht) ⟨fun z => (by cases z), fun _ => Wp.call (by rfl) (args2 S rfl) (in_ok S hu) ⟨fun z => (by cases z), fun _ => ?_⟩⟩
  show Wp (some true) _
  simp only [w_runF, w_sSeq, w_sIf, w_tBl, w_tNot, w_tAnd, w_tOr, w_tYes, w_fAnd, w_fOr, w_fNot, w_fChain, w_fAp, w_fBM, a2, a1, a3, w_aCons, w_aNil, w_fC, w_sNx, w_sNo, w_sRet, w_sAsg, w_sDrop, w_sSetI, w_gNm, w_add, w_sub, w_mul, w_fdiv, w_mod, w_pow, w_lt, w_le, w_gt, w_ge, w_bB, w_eqI, w_neI, w_eqS, w_neS, w_isB, w_neg, w_isN, w_isBb, w_isi, w_tupN, w_lstN, w_finI, w_finB, w_finS, w_finN, w_impI, w_impS, w_impB, w_impR, w_var0, w_varS, w_sFor, w_iR1, w_isI, w_some, w_lenS, w_lenT, w_lenF, w_lenL, w_lenR, w_addSS, w_addTT, w_ixStr, w_ixTup, w_ixFl, w_ixLst, w_ixRef, w_slBS, w_slAS, w_slBT, w_slAT, w_slABF, w_tupleT, w_tupleL, w_tupleF, w_tupleR, w_listT, w_listF, w_listL, w_listR, w_iSeq, w_seqT, w_seqF, w_seqS, w_seqR, w_iEn, w_en1, w_sqT, w_iZp, w_fComp, imps_nil, imps_cons, at_1_0, at_2_0, at_2_1, at_3_0, at_3_1, at_3_2, at_4_0, at_4_1, at_4_2, at_4_3, at_5_0, at_5_1, at_5_2, at_5_3, at_5_4, wipeD, startD, List.map, List.replicate, List.length, List.cons_append, List.nil_append, List.set_cons_succ, List.set_cons_zero, Nat.add_sub_cancel, Nat.reduceAdd, Nat.reduceSub, Nat.sub_self, Nat.zero_add]
  refine ⟨fun z => (by cases z), fun _ => ⟨fun _ => ⟨fun z => ?_, fun _ => ?_⟩, fun z => ?_⟩⟩
  · exact absurd z (by rw [decide_eq_true (by omega)]; decide)
  · refine Wp.call (by rfl) (args4 S rfl pc rfl) (cols_good S rfl hc) ?_
    simp only [w_runF, w_sSeq, w_sIf, w_tBl, w_tNot, w_tAnd, w_tOr, w_tYes, w_fAnd, w_fOr, w_fNot, w_fChain, w_fAp, w_fBM, a2, a1, a3, w_aCons, w_aNil, w_fC, w_sNx, w_sNo, w_sRet, w_sAsg, w_sDrop, w_sSetI, w_gNm, w_add, w_sub, w_mul, w_fdiv, w_mod, w_pow, w_lt, w_le, w_gt, w_ge, w_bB, w_eqI, w_neI, w_eqS, w_neS, w_isB, w_neg, w_isN, w_isBb, w_isi, w_tupN, w_lstN, w_finI, w_finB, w_finS, w_finN, w_impI, w_impS, w_impB, w_impR, w_var0, w_varS, w_sFor, w_iR1, w_isI, w_some, w_lenS, w_lenT, w_lenF, w_lenL, w_lenR, w_addSS, w_addTT, w_ixStr, w_ixTup, w_ixFl, w_ixLst, w_ixRef, w_slBS, w_slAS, w_slBT, w_slAT, w_slABF, w_tupleT, w_tupleL, w_tupleF, w_tupleR, w_listT, w_listF, w_listL, w_listR, w_iSeq, w_seqT, w_seqF, w_seqS, w_seqR, w_iEn, w_en1, w_sqT, w_iZp, w_fComp, imps_nil, imps_cons, at_1_0, at_2_0, at_2_1, at_3_0, at_3_1, at_3_2, at_4_0, at_4_1, at_4_2, at_4_3, at_5_0, at_5_1, at_5_2, at_5_3, at_5_4, wipeD, startD, List.map, List.replicate, List.length, List.cons_append, List.nil_append, List.set_cons_succ, List.set_cons_zero, Nat.add_sub_cancel, Nat.reduceAdd, Nat.reduceSub, Nat.sub_self, Nat.zero_add]
    refine ⟨fun _ => ?_, fun z => (by cases z)⟩
    refine Wp.call (by rfl) (args4 S rfl pe rfl) (cols_good S (by rw [ce]) he) ?_
    simp only [w_runF, w_sSeq, w_sIf, w_tBl, w_tNot, w_tAnd, w_tOr, w_tYes, w_fAnd, w_fOr, w_fNot, w_fChain, w_fAp, w_fBM, a2, a1, a3, w_aCons, w_aNil, w_fC, w_sNx, w_sNo, w_sRet, w_sAsg, w_sDrop, w_sSetI, w_gNm, w_add, w_sub, w_mul, w_fdiv, w_mod, w_pow, w_lt, w_le, w_gt, w_ge, w_bB, w_eqI, w_neI, w_eqS, w_neS, w_isB, w_neg, w_isN, w_isBb, w_isi, w_tupN, w_lstN, w_finI, w_finB, w_finS, w_finN, w_impI, w_impS, w_impB, w_impR, w_var0, w_varS, w_sFor, w_iR1, w_isI, w_some, w_lenS, w_lenT, w_lenF, w_lenL, w_lenR, w_addSS, w_addTT, w_ixStr, w_ixTup, w_ixFl, w_ixLst, w_ixRef, w_slBS, w_slAS, w_slBT, w_slAT, w_slABF, w_tupleT, w_tupleL, w_tupleF, w_tupleR, w_listT, w_listF, w_listL, w_listR, w_iSeq, w_seqT, w_seqF, w_seqS, w_seqR, w_iEn, w_en1, w_sqT, w_iZp, w_fComp, imps_nil, imps_cons, at_1_0, at_2_0, at_2_1, at_3_0, at_3_1, at_3_2, at_4_0, at_4_1, at_4_2, at_4_3, at_5_0, at_5_1, at_5_2, at_5_3, at_5_4, wipeD, startD, List.map, List.replicate, List.length, List.cons_append, List.nil_append, List.set_cons_succ, List.set_cons_zero, Nat.add_sub_cancel, Nat.reduceAdd, Nat.reduceSub, Nat.sub_self, Nat.zero_add]
  · exact absurd (of_decide_eq_false z) (by omega)
theorem rule_good {d : D} (h : okRule ts d) : F_is_rule [T, d] m = some (.bl true, m) := by
  have pd := nice_plain 4 d (okRule_nice h)
  have n1 : decide ((Str.ofString "apart") = Str.ofString "never") = false := by decide +kernel
  have n2 : decide ((Str.ofString "tie") = Str.ofString "never") = false := by decide +kernel
  have n3 : decide ((Str.ofString "tie") = Str.ofString "apart") = false := by decide +kernel
  apply Wp.eq
  unfold F_is_rule b_is_rule
  rcases h with ⟨t, q, ht, rfl, h⟩ | ⟨t, u, q, ht, hu, rfl, h⟩ | ⟨t, u, cs, es, ht, hu, rfl, c1, c3, ce, hc, he⟩
  · have pq := nice_plain 3 q (okTests_nice h)
    have hth : okThere ts [.int (t : Int)] := ⟨by simp, by simp, fun d hd => by
      obtain rfl : d = _ := by simpa using hd
      exact ⟨t, rfl, ht⟩⟩
    simp only [w_runF, w_sSeq, w_sIf, w_tBl, w_tNot, w_tAnd, w_tOr, w_tYes, w_fAnd, w_fOr, w_fNot, w_fChain, w_fAp, w_fBM, a2, a1, a3, w_aCons, w_aNil, w_fC, w_sNx, w_sNo, w_sRet, w_sAsg, w_sDrop, w_sSetI, w_gNm, w_add, w_sub, w_mul, w_fdiv, w_mod, w_pow, w_lt, w_le, w_gt, w_ge, w_bB, w_eqI, w_neI, w_eqS, w_neS, w_isB, w_neg, w_isN, w_isBb, w_isi, w_tupN, w_lstN, w_finI, w_finB, w_finS, w_finN, w_impI, w_impS, w_impB, w_impR, w_var0, w_varS, w_sFor, w_iR1, w_isI, w_some, w_lenS, w_lenT, w_lenF, w_lenL, w_lenR, w_addSS, w_addTT, w_ixStr, w_ixTup, w_ixFl, w_ixLst, w_ixRef, w_slBS, w_slAS, w_slBT, w_slAT, w_slABF, w_tupleT, w_tupleL, w_tupleF, w_tupleR, w_listT, w_listF, w_listL, w_listR, w_iSeq, w_seqT, w_seqF, w_seqS, w_seqR, w_iEn, w_en1, w_sqT, w_iZp, w_fComp, imps_nil, imps_cons, at_1_0, at_2_0, at_2_1, at_3_0, at_3_1, at_3_2, at_4_0, at_4_1, at_4_2, at_4_3, at_5_0, at_5_1, at_5_2, at_5_3, at_5_4, wipeD, startD, List.map, List.replicate, List.length, List.cons_append, List.nil_append, List.set_cons_succ, List.set_cons_zero, Nat.add_sub_cancel, Nat.reduceAdd, Nat.reduceSub, Nat.sub_self, Nat.zero_add]
    refine ⟨fun _ => ⟨fun _ => ?_, fun z => (by simp at z)⟩, fun z => (by simp at z)⟩
    refine Wp.call (by rfl) (args2 S rfl) (in_ok S ht) ?_
    simp only [w_runF, w_sSeq, w_sIf, w_tBl, w_tNot, w_tAnd, w_tOr, w_tYes, w_fAnd, w_fOr, w_fNot, w_fChain, w_fAp, w_fBM, a2, a1, a3, w_aCons, w_aNil, w_fC, w_sNx, w_sNo, w_sRet, w_sAsg, w_sDrop, w_sSetI, w_gNm, w_add, w_sub, w_mul, w_fdiv, w_mod, w_pow, w_lt, w_le, w_gt, w_ge, w_bB, w_eqI, w_neI, w_eqS, w_neS, w_isB, w_neg, w_isN, w_isBb, w_isi, w_tupN, w_lstN, w_finI, w_finB, w_finS, w_finN, w_impI, w_impS, w_impB, w_impR, w_var0, w_varS, w_sFor, w_iR1, w_isI, w_some, w_lenS, w_lenT, w_lenF, w_lenL, w_lenR, w_addSS, w_addTT, w_ixStr, w_ixTup, w_ixFl, w_ixLst, w_ixRef, w_slBS, w_slAS, w_slBT, w_slAT, w_slABF, w_tupleT, w_tupleL, w_tupleF, w_tupleR, w_listT, w_listF, w_listL, w_listR, w_iSeq, w_seqT, w_seqF, w_seqS, w_seqR, w_iEn, w_en1, w_sqT, w_iZp, w_fComp, imps_nil, imps_cons, at_1_0, at_2_0, at_2_1, at_3_0, at_3_1, at_3_2, at_4_0, at_4_1, at_4_2, at_4_3, at_5_0, at_5_1, at_5_2, at_5_3, at_5_4, wipeD, startD, List.map, List.replicate, List.length, List.cons_append, List.nil_append, List.set_cons_succ, List.set_cons_zero, Nat.add_sub_cancel, Nat.reduceAdd, Nat.reduceSub, Nat.sub_self, Nat.zero_add]
    refine ⟨fun _ => ⟨by decide, ?_⟩, fun z => (by cases z)⟩
    refine Wp.call (by rfl) (args3 S rfl pq) (tests_good S hth h) ?_
    simp only [w_runF, w_sSeq, w_sIf, w_tBl, w_tNot, w_tAnd, w_tOr, w_tYes, w_fAnd, w_fOr, w_fNot, w_fChain, w_fAp, w_fBM, a2, a1, a3, w_aCons, w_aNil, w_fC, w_sNx, w_sNo, w_sRet, w_sAsg, w_sDrop, w_sSetI, w_gNm, w_add, w_sub, w_mul, w_fdiv, w_mod, w_pow, w_lt, w_le, w_gt, w_ge, w_bB, w_eqI, w_neI, w_eqS, w_neS, w_isB, w_neg, w_isN, w_isBb, w_isi, w_tupN, w_lstN, w_finI, w_finB, w_finS, w_finN, w_impI, w_impS, w_impB, w_impR, w_var0, w_varS, w_sFor, w_iR1, w_isI, w_some, w_lenS, w_lenT, w_lenF, w_lenL, w_lenR, w_addSS, w_addTT, w_ixStr, w_ixTup, w_ixFl, w_ixLst, w_ixRef, w_slBS, w_slAS, w_slBT, w_slAT, w_slABF, w_tupleT, w_tupleL, w_tupleF, w_tupleR, w_listT, w_listF, w_listL, w_listR, w_iSeq, w_seqT, w_seqF, w_seqS, w_seqR, w_iEn, w_en1, w_sqT, w_iZp, w_fComp, imps_nil, imps_cons, at_1_0, at_2_0, at_2_1, at_3_0, at_3_1, at_3_2, at_4_0, at_4_1, at_4_2, at_4_3, at_5_0, at_5_1, at_5_2, at_5_3, at_5_4, wipeD, startD, List.map, List.replicate, List.length, List.cons_append, List.nil_append, List.set_cons_succ, List.set_cons_zero, Nat.add_sub_cancel, Nat.reduceAdd, Nat.reduceSub, Nat.sub_self, Nat.zero_add]
  · have pq := nice_plain 3 q (okTests_nice h)
    have hth : okThere ts [.int (t : Int), .int (u : Int)] := ⟨by simp, by simp, fun d hd => by
      simp only [List.mem_cons, List.not_mem_nil, or_false] at hd
      rcases hd with rfl | rfl
      · exact ⟨t, rfl, ht⟩
      · exact ⟨u, rfl, hu⟩⟩
    simp only [w_runF, w_sSeq, w_sIf, w_tBl, w_tNot, w_tAnd, w_tOr, w_tYes, w_fAnd, w_fOr, w_fNot, w_fChain, w_fAp, w_fBM, a2, a1, a3, w_aCons, w_aNil, w_fC, w_sNx, w_sNo, w_sRet, w_sAsg, w_sDrop, w_sSetI, w_gNm, w_add, w_sub, w_mul, w_fdiv, w_mod, w_pow, w_lt, w_le, w_gt, w_ge, w_bB, w_eqI, w_neI, w_eqS, w_neS, w_isB, w_neg, w_isN, w_isBb, w_isi, w_tupN, w_lstN, w_finI, w_finB, w_finS, w_finN, w_impI, w_impS, w_impB, w_impR, w_var0, w_varS, w_sFor, w_iR1, w_isI, w_some, w_lenS, w_lenT, w_lenF, w_lenL, w_lenR, w_addSS, w_addTT, w_ixStr, w_ixTup, w_ixFl, w_ixLst, w_ixRef, w_slBS, w_slAS, w_slBT, w_slAT, w_slABF, w_tupleT, w_tupleL, w_tupleF, w_tupleR, w_listT, w_listF, w_listL, w_listR, w_iSeq, w_seqT, w_seqF, w_seqS, w_seqR, w_iEn, w_en1, w_sqT, w_iZp, w_fComp, imps_nil, imps_cons, at_1_0, at_2_0, at_2_1, at_3_0, at_3_1, at_3_2, at_4_0, at_4_1, at_4_2, at_4_3, at_5_0, at_5_1, at_5_2, at_5_3, at_5_4, wipeD, startD, List.map, List.replicate, List.length, List.cons_append, List.nil_append, List.set_cons_succ, List.set_cons_zero, Nat.add_sub_cancel, Nat.reduceAdd, Nat.reduceSub, Nat.sub_self, Nat.zero_add]
    refine ⟨fun z => absurd z (by rw [n1]; decide), fun _ => ⟨fun _ => ⟨fun z => (by simp at z), fun _ => ?_⟩, fun z => (by simp at z)⟩⟩
    refine Wp.call (by rfl) (args2 S rfl) (in_ok S ht) ⟨fun z => (by cases z), fun _ => Wp.call (by rfl) (args2 S rfl) (in_ok S hu) ⟨fun z => (by cases z), fun _ => ⟨by decide, ?_⟩⟩⟩
    refine Wp.call (by rfl) (args3 S rfl pq) (tests_good S hth h) ?_
    simp only [w_runF, w_sSeq, w_sIf, w_tBl, w_tNot, w_tAnd, w_tOr, w_tYes, w_fAnd, w_fOr, w_fNot, w_fChain, w_fAp, w_fBM, a2, a1, a3, w_aCons, w_aNil, w_fC, w_sNx, w_sNo, w_sRet, w_sAsg, w_sDrop, w_sSetI, w_gNm, w_add, w_sub, w_mul, w_fdiv, w_mod, w_pow, w_lt, w_le, w_gt, w_ge, w_bB, w_eqI, w_neI, w_eqS, w_neS, w_isB, w_neg, w_isN, w_isBb, w_isi, w_tupN, w_lstN, w_finI, w_finB, w_finS, w_finN, w_impI, w_impS, w_impB, w_impR, w_var0, w_varS, w_sFor, w_iR1, w_isI, w_some, w_lenS, w_lenT, w_lenF, w_lenL, w_lenR, w_addSS, w_addTT, w_ixStr, w_ixTup, w_ixFl, w_ixLst, w_ixRef, w_slBS, w_slAS, w_slBT, w_slAT, w_slABF, w_tupleT, w_tupleL, w_tupleF, w_tupleR, w_listT, w_listF, w_listL, w_listR, w_iSeq, w_seqT, w_seqF, w_seqS, w_seqR, w_iEn, w_en1, w_sqT, w_iZp, w_fComp, imps_nil, imps_cons, at_1_0, at_2_0, at_2_1, at_3_0, at_3_1, at_3_2, at_4_0, at_4_1, at_4_2, at_4_3, at_5_0, at_5_1, at_5_2, at_5_3, at_5_4, wipeD, startD, List.map, List.replicate, List.length, List.cons_append, List.nil_append, List.set_cons_succ, List.set_cons_zero, Nat.add_sub_cancel, Nat.reduceAdd, Nat.reduceSub, Nat.sub_self, Nat.zero_add]
  · simp only [w_runF, w_sSeq, w_sIf, w_tBl, w_tNot, w_tAnd, w_tOr, w_tYes, w_fAnd, w_fOr, w_fNot, w_fChain, w_fAp, w_fBM, a2, a1, a3, w_aCons, w_aNil, w_fC, w_sNx, w_sNo, w_sRet, w_sAsg, w_sDrop, w_sSetI, w_gNm, w_add, w_sub, w_mul, w_fdiv, w_mod, w_pow, w_lt, w_le, w_gt, w_ge, w_bB, w_eqI, w_neI, w_eqS, w_neS, w_isB, w_neg, w_isN, w_isBb, w_isi, w_tupN, w_lstN, w_finI, w_finB, w_finS, w_finN, w_impI, w_impS, w_impB, w_impR, w_var0, w_varS, w_sFor, w_iR1, w_isI, w_some, w_lenS, w_lenT, w_lenF, w_lenL, w_lenR, w_addSS, w_addTT, w_ixStr, w_ixTup, w_ixFl, w_ixLst, w_ixRef, w_slBS, w_slAS, w_slBT, w_slAT, w_slABF, w_tupleT, w_tupleL, w_tupleF, w_tupleR, w_listT, w_listF, w_listL, w_listR, w_iSeq, w_seqT, w_seqF, w_seqS, w_seqR, w_iEn, w_en1, w_sqT, w_iZp, w_fComp, imps_nil, imps_cons, at_1_0, at_2_0, at_2_1, at_3_0, at_3_1, at_3_2, at_4_0, at_4_1, at_4_2, at_4_3, at_5_0, at_5_1, at_5_2, at_5_3, at_5_4, wipeD, startD, List.map, List.replicate, List.length, List.cons_append, List.nil_append, List.set_cons_succ, List.set_cons_zero, Nat.add_sub_cancel, Nat.reduceAdd, Nat.reduceSub, Nat.sub_self, Nat.zero_add]
    refine ⟨fun z => absurd z (by rw [n2]; decide), fun _ => ⟨fun z => absurd z (by rw [n3]; decide), fun _ => ⟨fun _ => ?_, fun z => (by simp at z)⟩⟩⟩
    refine Wp.call (by rfl) (args2 S pd) (tie_good S ht hu c1 c3 ce hc he) ?_
    simp only [w_runF, w_sSeq, w_sIf, w_tBl, w_tNot, w_tAnd, w_tOr, w_tYes, w_fAnd, w_fOr, w_fNot, w_fChain, w_fAp, w_fBM, a2, a1, a3, w_aCons, w_aNil, w_fC, w_sNx, w_sNo, w_sRet, w_sAsg, w_sDrop, w_sSetI, w_gNm, w_add, w_sub, w_mul, w_fdiv, w_mod, w_pow, w_lt, w_le, w_gt, w_ge, w_bB, w_eqI, w_neI, w_eqS, w_neS, w_isB, w_neg, w_isN, w_isBb, w_isi, w_tupN, w_lstN, w_finI, w_finB, w_finS, w_finN, w_impI, w_impS, w_impB, w_impR, w_var0, w_varS, w_sFor, w_iR1, w_isI, w_some, w_lenS, w_lenT, w_lenF, w_lenL, w_lenR, w_addSS, w_addTT, w_ixStr, w_ixTup, w_ixFl, w_ixLst, w_ixRef, w_slBS, w_slAS, w_slBT, w_slAT, w_slABF, w_tupleT, w_tupleL, w_tupleF, w_tupleR, w_listT, w_listF, w_listL, w_listR, w_iSeq, w_seqT, w_seqF, w_seqS, w_seqR, w_iEn, w_en1, w_sqT, w_iZp, w_fComp, imps_nil, imps_cons, at_1_0, at_2_0, at_2_1, at_3_0, at_3_1, at_3_2, at_4_0, at_4_1, at_4_2, at_4_3, at_5_0, at_5_1, at_5_2, at_5_3, at_5_4, wipeD, startD, List.map, List.replicate, List.length, List.cons_append, List.nil_append, List.set_cons_succ, List.set_cons_zero, Nat.add_sub_cancel, Nat.reduceAdd, Nat.reduceSub, Nat.sub_self, Nat.zero_add]
theorem row_good {d : D} (h : okRow ts d) : F_is_row [T, d] m = some (.bl true, m) := by
  have pd := okRow_plain h
  obtain ⟨t, cs, w, k, rfl, htab, hw, hv⟩ := h
  have ht : t < ts.length := (List.getElem?_eq_some_iff.mp htab).1
  have pc : plain (.tup cs) = true := nice_plain 1 (.tup cs) (nices_iff.mpr fun x hx => okV_nice (hv x hx))
  apply Wp.eq
  unfold F_is_row b_is_row
  simp only [w_runF, w_sSeq, w_sIf, w_tBl, w_tNot, w_tAnd, w_tOr, w_tYes, w_fAnd, w_fOr, w_fNot, w_fChain, w_fAp, w_fBM, a2, a1, a3, w_aCons, w_aNil, w_fC, w_sNx, w_sNo, w_sRet, w_sAsg, w_sDrop, w_sSetI, w_gNm, w_add, w_sub, w_mul, w_fdiv, w_mod, w_pow, w_lt, w_le, w_gt, w_ge, w_bB, w_eqI, w_neI, w_eqS, w_neS, w_isB, w_neg, w_isN, w_isBb, w_isi, w_tupN, w_lstN, w_finI, w_finB, w_finS, w_finN, w_impI, w_impS, w_impB, w_impR, w_var0, w_varS, w_sFor, w_iR1, w_isI, w_some, w_lenS, w_lenT, w_lenF, w_lenL, w_lenR, w_addSS, w_addTT, w_ixStr, w_ixTup, w_ixFl, w_ixLst, w_ixRef, w_slBS, w_slAS, w_slBT, w_slAT, w_slABF, w_tupleT, w_tupleL, w_tupleF, w_tupleR, w_listT, w_listF, w_listL, w_listR, w_iSeq, w_seqT, w_seqF, w_seqS, w_seqR, w_iEn, w_en1, w_sqT, w_iZp, w_fComp, imps_nil, imps_cons, at_1_0, at_2_0, at_2_1, at_3_0, at_3_1, at_3_2, at_4_0, at_4_1, at_4_2, at_4_3, at_5_0, at_5_1, at_5_2, at_5_3, at_5_4, wipeD, startD, List.map, List.replicate, List.length, List.cons_append, List.nil_append, List.set_cons_succ, List.set_cons_zero, Nat.add_sub_cancel, Nat.reduceAdd, Nat.reduceSub, Nat.sub_self, Nat.zero_add]
  show Wp (some true) _
  simp only [w_runF, w_sSeq, w_sIf, w_tBl, w_tNot, w_tAnd, w_tOr, w_tYes, w_fAnd, w_fOr, w_fNot, w_fChain, w_fAp, w_fBM, a2, a1, a3, w_aCons, w_aNil, w_fC, w_sNx, w_sNo, w_sRet, w_sAsg, w_sDrop, w_sSetI, w_gNm, w_add, w_sub, w_mul, w_fdiv, w_mod, w_pow, w_lt, w_le, w_gt, w_ge, w_bB, w_eqI, w_neI, w_eqS, w_neS, w_isB, w_neg, w_isN, w_isBb, w_isi, w_tupN, w_lstN, w_finI, w_finB, w_finS, w_finN, w_impI, w_impS, w_impB, w_impR, w_var0, w_varS, w_sFor, w_iR1, w_isI, w_some, w_lenS, w_lenT, w_lenF, w_lenL, w_lenR, w_addSS, w_addTT, w_ixStr, w_ixTup, w_ixFl, w_ixLst, w_ixRef, w_slBS, w_slAS, w_slBT, w_slAT, w_slABF, w_tupleT, w_tupleL, w_tupleF, w_tupleR, w_listT, w_listF, w_listL, w_listR, w_iSeq, w_seqT, w_seqF, w_seqS, w_seqR, w_iEn, w_en1, w_sqT, w_iZp, w_fComp, imps_nil, imps_cons, at_1_0, at_2_0, at_2_1, at_3_0, at_3_1, at_3_2, at_4_0, at_4_1, at_4_2, at_4_3, at_5_0, at_5_1, at_5_2, at_5_3, at_5_4, wipeD, startD, List.map, List.replicate, List.length, List.cons_append, List.nil_append, List.set_cons_succ, List.set_cons_zero, Nat.add_sub_cancel, Nat.reduceAdd, Nat.reduceSub, Nat.sub_self, Nat.zero_add]
  refine ⟨fun z => (by cases z), fun _ => ⟨fun z => (by simp at z), fun _ => ?_⟩⟩
  refine Wp.call (by rfl) (args2 S rfl) (in_ok S ht) ⟨fun z => (by cases z), fun _ => ?_⟩
  show Wp (some true) _
  simp only [w_runF, w_sSeq, w_sIf, w_tBl, w_tNot, w_tAnd, w_tOr, w_tYes, w_fAnd, w_fOr, w_fNot, w_fChain, w_fAp, w_fBM, a2, a1, a3, w_aCons, w_aNil, w_fC, w_sNx, w_sNo, w_sRet, w_sAsg, w_sDrop, w_sSetI, w_gNm, w_add, w_sub, w_mul, w_fdiv, w_mod, w_pow, w_lt, w_le, w_gt, w_ge, w_bB, w_eqI, w_neI, w_eqS, w_neS, w_isB, w_neg, w_isN, w_isBb, w_isi, w_tupN, w_lstN, w_finI, w_finB, w_finS, w_finN, w_impI, w_impS, w_impB, w_impR, w_var0, w_varS, w_sFor, w_iR1, w_isI, w_some, w_lenS, w_lenT, w_lenF, w_lenL, w_lenR, w_addSS, w_addTT, w_ixStr, w_ixTup, w_ixFl, w_ixLst, w_ixRef, w_slBS, w_slAS, w_slBT, w_slAT, w_slABF, w_tupleT, w_tupleL, w_tupleF, w_tupleR, w_listT, w_listF, w_listL, w_listR, w_iSeq, w_seqT, w_seqF, w_seqS, w_seqR, w_iEn, w_en1, w_sqT, w_iZp, w_fComp, imps_nil, imps_cons, at_1_0, at_2_0, at_2_1, at_3_0, at_3_1, at_3_2, at_4_0, at_4_1, at_4_2, at_4_3, at_5_0, at_5_1, at_5_2, at_5_3, at_5_4, wipeD, startD, List.map, List.replicate, List.length, List.cons_append, List.nil_append, List.set_cons_succ, List.set_cons_zero, Nat.add_sub_cancel, Nat.reduceAdd, Nat.reduceSub, Nat.sub_self, Nat.zero_add, S.ix]
  refine ⟨fun z => (by cases z), fun _ => Wp.at (by omega) (by omega) fun z2 hz2 => ?_⟩
  have hz2 : ts[t]? = some z2 := hz2
  rw [htab] at hz2
  cases hz2
  simp only [w_runF, w_sSeq, w_sIf, w_tBl, w_tNot, w_tAnd, w_tOr, w_tYes, w_fAnd, w_fOr, w_fNot, w_fChain, w_fAp, w_fBM, a2, a1, a3, w_aCons, w_aNil, w_fC, w_sNx, w_sNo, w_sRet, w_sAsg, w_sDrop, w_sSetI, w_gNm, w_add, w_sub, w_mul, w_fdiv, w_mod, w_pow, w_lt, w_le, w_gt, w_ge, w_bB, w_eqI, w_neI, w_eqS, w_neS, w_isB, w_neg, w_isN, w_isBb, w_isi, w_tupN, w_lstN, w_finI, w_finB, w_finS, w_finN, w_impI, w_impS, w_impB, w_impR, w_var0, w_varS, w_sFor, w_iR1, w_isI, w_some, w_lenS, w_lenT, w_lenF, w_lenL, w_lenR, w_addSS, w_addTT, w_ixStr, w_ixTup, w_ixFl, w_ixLst, w_ixRef, w_slBS, w_slAS, w_slBT, w_slAT, w_slABF, w_tupleT, w_tupleL, w_tupleF, w_tupleR, w_listT, w_listF, w_listL, w_listR, w_iSeq, w_seqT, w_seqF, w_seqS, w_seqR, w_iEn, w_en1, w_sqT, w_iZp, w_fComp, imps_nil, imps_cons, at_1_0, at_2_0, at_2_1, at_3_0, at_3_1, at_3_2, at_4_0, at_4_1, at_4_2, at_4_3, at_5_0, at_5_1, at_5_2, at_5_3, at_5_4, wipeD, startD, List.map, List.replicate, List.length, List.cons_append, List.nil_append, List.set_cons_succ, List.set_cons_zero, Nat.add_sub_cancel, Nat.reduceAdd, Nat.reduceSub, Nat.sub_self, Nat.zero_add]
  refine ⟨fun z => (by simp [hw] at z), fun _ => ?_⟩
  rw [imp_plain pc]
  simp only [w_runF, w_sSeq, w_sIf, w_tBl, w_tNot, w_tAnd, w_tOr, w_tYes, w_fAnd, w_fOr, w_fNot, w_fChain, w_fAp, w_fBM, a2, a1, a3, w_aCons, w_aNil, w_fC, w_sNx, w_sNo, w_sRet, w_sAsg, w_sDrop, w_sSetI, w_gNm, w_add, w_sub, w_mul, w_fdiv, w_mod, w_pow, w_lt, w_le, w_gt, w_ge, w_bB, w_eqI, w_neI, w_eqS, w_neS, w_isB, w_neg, w_isN, w_isBb, w_isi, w_tupN, w_lstN, w_finI, w_finB, w_finS, w_finN, w_impI, w_impS, w_impB, w_impR, w_var0, w_varS, w_sFor, w_iR1, w_isI, w_some, w_lenS, w_lenT, w_lenF, w_lenL, w_lenR, w_addSS, w_addTT, w_ixStr, w_ixTup, w_ixFl, w_ixLst, w_ixRef, w_slBS, w_slAS, w_slBT, w_slAT, w_slABF, w_tupleT, w_tupleL, w_tupleF, w_tupleR, w_listT, w_listF, w_listL, w_listR, w_iSeq, w_seqT, w_seqF, w_seqS, w_seqR, w_iEn, w_en1, w_sqT, w_iZp, w_fComp, imps_nil, imps_cons, at_1_0, at_2_0, at_2_1, at_3_0, at_3_1, at_3_2, at_4_0, at_4_1, at_4_2, at_4_3, at_5_0, at_5_1, at_5_2, at_5_3, at_5_4, wipeD, startD, List.map, List.replicate, List.length, List.cons_append, List.nil_append, List.set_cons_succ, List.set_cons_zero, Nat.add_sub_cancel, Nat.reduceAdd, Nat.reduceSub, Nat.sub_self, Nat.zero_add]
  refine Wp.map (fun _ y => y = .bl true) (fun i d hd => ?_) fun ys _ hy => ?_
  · have hc := hv d (List.mem_of_getElem? hd)
    have pv : plain d = true := nice_plain 0 d (okV_nice hc)
    simp only [w_runF, w_sSeq, w_sIf, w_tBl, w_tNot, w_tAnd, w_tOr, w_tYes, w_fAnd, w_fOr, w_fNot, w_fChain, w_fAp, w_fBM, a2, a1, a3, w_aCons, w_aNil, w_fC, w_sNx, w_sNo, w_sRet, w_sAsg, w_sDrop, w_sSetI, w_gNm, w_add, w_sub, w_mul, w_fdiv, w_mod, w_pow, w_lt, w_le, w_gt, w_ge, w_bB, w_eqI, w_neI, w_eqS, w_neS, w_isB, w_neg, w_isN, w_isBb, w_isi, w_tupN, w_lstN, w_finI, w_finB, w_finS, w_finN, w_impI, w_impS, w_impB, w_impR, w_var0, w_varS, w_sFor, w_iR1, w_isI, w_some, w_lenS, w_lenT, w_lenF, w_lenL, w_lenR, w_addSS, w_addTT, w_ixStr, w_ixTup, w_ixFl, w_ixLst, w_ixRef, w_slBS, w_slAS, w_slBT, w_slAT, w_slABF, w_tupleT, w_tupleL, w_tupleF, w_tupleR, w_listT, w_listF, w_listL, w_listR, w_iSeq, w_seqT, w_seqF, w_seqS, w_seqR, w_iEn, w_en1, w_sqT, w_iZp, w_fComp, imps_nil, imps_cons, at_1_0, at_2_0, at_2_1, at_3_0, at_3_1, at_3_2, at_4_0, at_4_1, at_4_2, at_4_3, at_5_0, at_5_1, at_5_2, at_5_3, at_5_4, wipeD, startD, List.map, List.replicate, List.length, List.cons_append, List.nil_append, List.set_cons_succ, List.set_cons_zero, Nat.add_sub_cancel, Nat.reduceAdd, Nat.reduceSub, Nat.sub_self, Nat.zero_add, imp_plain pv]
    refine ⟨trivial, Wp.call (by rfl) (by show (M3.settled d && true) = true; rw [plain_settled d pv]; rfl) (value_ok hc m) ⟨rfl, rfl⟩⟩
  · refine all_bl (fun y hy2 => ?_) ?_
    · obtain ⟨i, hi⟩ := List.mem_iff_getElem?.mp hy2
      exact hy i y hi
    · simp only [w_runF, w_sSeq, w_sIf, w_tBl, w_tNot, w_tAnd, w_tOr, w_tYes, w_fAnd, w_fOr, w_fNot, w_fChain, w_fAp, w_fBM, a2, a1, a3, w_aCons, w_aNil, w_fC, w_sNx, w_sNo, w_sRet, w_sAsg, w_sDrop, w_sSetI, w_gNm, w_add, w_sub, w_mul, w_fdiv, w_mod, w_pow, w_lt, w_le, w_gt, w_ge, w_bB, w_eqI, w_neI, w_eqS, w_neS, w_isB, w_neg, w_isN, w_isBb, w_isi, w_tupN, w_lstN, w_finI, w_finB, w_finS, w_finN, w_impI, w_impS, w_impB, w_impR, w_var0, w_varS, w_sFor, w_iR1, w_isI, w_some, w_lenS, w_lenT, w_lenF, w_lenL, w_lenR, w_addSS, w_addTT, w_ixStr, w_ixTup, w_ixFl, w_ixLst, w_ixRef, w_slBS, w_slAS, w_slBT, w_slAT, w_slABF, w_tupleT, w_tupleL, w_tupleF, w_tupleR, w_listT, w_listF, w_listL, w_listR, w_iSeq, w_seqT, w_seqF, w_seqS, w_seqR, w_iEn, w_en1, w_sqT, w_iZp, w_fComp, imps_nil, imps_cons, at_1_0, at_2_0, at_2_1, at_3_0, at_3_1, at_3_2, at_4_0, at_4_1, at_4_2, at_4_3, at_5_0, at_5_1, at_5_2, at_5_3, at_5_4, wipeD, startD, List.map, List.replicate, List.length, List.cons_append, List.nil_append, List.set_cons_succ, List.set_cons_zero, Nat.add_sub_cancel, Nat.reduceAdd, Nat.reduceSub, Nat.sub_self, Nat.zero_add]
end
end G06
set_option Elab.async false
set_option linter.all false
set_option autoImplicit false
set_option maxRecDepth 100000
set_option maxHeartbeats 1000000
namespace G06
open PySem PySem.Spec PyProof.Rows L2 M3
section
variable {l : M3.Loc} {m : Mem} {d a b : D} {ds : List D}
theorem w_gsNil {Q : M3.Loc × Mem → Prop} : Wp (gsNil [] l m) Q ↔ Q (l, m) := w_some
theorem w_gsCons {g : GT} {gs : GTs} {Q : M3.Loc × Mem → Prop} : Wp (gsCons g gs (d :: ds) l m) Q ↔ Wp (g d l m) fun r => Wp (gs ds r.1 r.2) Q := by
  show Wp (match g d l m with | some (l1, m1) => gs ds l1 m1 | none => none) Q ↔ _
  cases h : g d l m with
  | none => simp [w_none]
  | some r => simp only [w_some]
theorem w_gTp2 {gs : GTs} {Q : M3.Loc × Mem → Prop} : Wp (gTp 2 gs (.tup [a, b]) l m) Q ↔ Wp (gs [a, b] l m) Q := Iff.rfl
end
theorem nice_up : ∀ (n : Nat), (∀ d, nice n d = true → nice (n + 1) d = true)
  | 0, d, h => by
    cases d with
    | int i => rfl
    | str x => exact h
    | _ => cases h
  | n + 1, d, h => by
    cases d with
    | int i => rfl
    | str x => exact h
    | tup xs => exact nices_iff.mpr fun x hx => nice_up n x (nices_iff.mp (show nices n xs = true from h) x hx)
    | _ => cases h
theorem alike_ok : ∀ (n : Nat) (d : D) (m : Mem), nice n d = true → F__law_alike (n + 1) [d, d] m = some (.bl true, m)
  | n, .int i, m, h => by
    apply Wp.eq
    show Wp (runF 4 (b__law_alike (F__law_alike n)) [.int i, .int i] m) _
    unfold b__law_alike
    simp only [w_runF, w_sSeq, w_sIf, w_tBl, w_tNot, w_tAnd, w_tOr, w_tYes, w_fAnd, w_fOr, w_fNot, w_fChain, w_fAp, w_fBM, a2, a1, a3, w_aCons, w_aNil, w_fC, w_sNx, w_sNo, w_sRet, w_sAsg, w_sDrop, w_sSetI, w_gNm, w_add, w_sub, w_mul, w_fdiv, w_mod, w_pow, w_lt, w_le, w_gt, w_ge, w_bB, w_eqI, w_neI, w_eqS, w_neS, w_isB, w_neg, w_isN, w_isBb, w_isi, w_tupN, w_lstN, w_finI, w_finB, w_finS, w_finN, w_impI, w_impS, w_impB, w_impR, w_var0, w_varS, w_sFor, w_iR1, w_isI, w_some, w_lenS, w_lenT, w_lenF, w_lenL, w_lenR, w_addSS, w_addTT, w_ixStr, w_ixTup, w_ixFl, w_ixLst, w_ixRef, w_slBS, w_slAS, w_slBT, w_slAT, w_slABF, w_tupleT, w_tupleL, w_tupleF, w_tupleR, w_listT, w_listF, w_listL, w_listR, w_iSeq, w_seqT, w_seqF, w_seqS, w_seqR, w_iEn, w_en1, w_sqT, w_iZp, w_fComp, imps_nil, imps_cons, at_1_0, at_2_0, at_2_1, at_3_0, at_3_1, at_3_2, at_4_0, at_4_1, at_4_2, at_4_3, at_5_0, at_5_1, at_5_2, at_5_3, at_5_4, wipeD, startD, List.map, List.replicate, List.length, List.cons_append, List.nil_append, List.set_cons_succ, List.set_cons_zero, Nat.add_sub_cancel, Nat.reduceAdd, Nat.reduceSub, Nat.sub_self, Nat.zero_add]
    refine ⟨fun z => (by cases z), fun _ => ?_⟩
    show Wp (some false) _
    simp only [w_runF, w_sSeq, w_sIf, w_tBl, w_tNot, w_tAnd, w_tOr, w_tYes, w_fAnd, w_fOr, w_fNot, w_fChain, w_fAp, w_fBM, a2, a1, a3, w_aCons, w_aNil, w_fC, w_sNx, w_sNo, w_sRet, w_sAsg, w_sDrop, w_sSetI, w_gNm, w_add, w_sub, w_mul, w_fdiv, w_mod, w_pow, w_lt, w_le, w_gt, w_ge, w_bB, w_eqI, w_neI, w_eqS, w_neS, w_isB, w_neg, w_isN, w_isBb, w_isi, w_tupN, w_lstN, w_finI, w_finB, w_finS, w_finN, w_impI, w_impS, w_impB, w_impR, w_var0, w_varS, w_sFor, w_iR1, w_isI, w_some, w_lenS, w_lenT, w_lenF, w_lenL, w_lenR, w_addSS, w_addTT, w_ixStr, w_ixTup, w_ixFl, w_ixLst, w_ixRef, w_slBS, w_slAS, w_slBT, w_slAT, w_slABF, w_tupleT, w_tupleL, w_tupleF, w_tupleR, w_listT, w_listF, w_listL, w_listR, w_iSeq, w_seqT, w_seqF, w_seqS, w_seqR, w_iEn, w_en1, w_sqT, w_iZp, w_fComp, imps_nil, imps_cons, at_1_0, at_2_0, at_2_1, at_3_0, at_3_1, at_3_2, at_4_0, at_4_1, at_4_2, at_4_3, at_5_0, at_5_1, at_5_2, at_5_3, at_5_4, wipeD, startD, List.map, List.replicate, List.length, List.cons_append, List.nil_append, List.set_cons_succ, List.set_cons_zero, Nat.add_sub_cancel, Nat.reduceAdd, Nat.reduceSub, Nat.sub_self, Nat.zero_add]
    refine ⟨fun z => (by cases z), fun _ => ?_⟩
    show Wp (some true) _
    simp only [w_runF, w_sSeq, w_sIf, w_tBl, w_tNot, w_tAnd, w_tOr, w_tYes, w_fAnd, w_fOr, w_fNot, w_fChain, w_fAp, w_fBM, a2, a1, a3, w_aCons, w_aNil, w_fC, w_sNx, w_sNo, w_sRet, w_sAsg, w_sDrop, w_sSetI, w_gNm, w_add, w_sub, w_mul, w_fdiv, w_mod, w_pow, w_lt, w_le, w_gt, w_ge, w_bB, w_eqI, w_neI, w_eqS, w_neS, w_isB, w_neg, w_isN, w_isBb, w_isi, w_tupN, w_lstN, w_finI, w_finB, w_finS, w_finN, w_impI, w_impS, w_impB, w_impR, w_var0, w_varS, w_sFor, w_iR1, w_isI, w_some, w_lenS, w_lenT, w_lenF, w_lenL, w_lenR, w_addSS, w_addTT, w_ixStr, w_ixTup, w_ixFl, w_ixLst, w_ixRef, w_slBS, w_slAS, w_slBT, w_slAT, w_slABF, w_tupleT, w_tupleL, w_tupleF, w_tupleR, w_listT, w_listF, w_listL, w_listR, w_iSeq, w_seqT, w_seqF, w_seqS, w_seqR, w_iEn, w_en1, w_sqT, w_iZp, w_fComp, imps_nil, imps_cons, at_1_0, at_2_0, at_2_1, at_3_0, at_3_1, at_3_2, at_4_0, at_4_1, at_4_2, at_4_3, at_5_0, at_5_1, at_5_2, at_5_3, at_5_4, wipeD, startD, List.map, List.replicate, List.length, List.cons_append, List.nil_append, List.set_cons_succ, List.set_cons_zero, Nat.add_sub_cancel, Nat.reduceAdd, Nat.reduceSub, Nat.sub_self, Nat.zero_add]
    refine ⟨fun _ => ?_, fun z => (by cases z)⟩
    show Wp (some true) _
    simp only [w_runF, w_sSeq, w_sIf, w_tBl, w_tNot, w_tAnd, w_tOr, w_tYes, w_fAnd, w_fOr, w_fNot, w_fChain, w_fAp, w_fBM, a2, a1, a3, w_aCons, w_aNil, w_fC, w_sNx, w_sNo, w_sRet, w_sAsg, w_sDrop, w_sSetI, w_gNm, w_add, w_sub, w_mul, w_fdiv, w_mod, w_pow, w_lt, w_le, w_gt, w_ge, w_bB, w_eqI, w_neI, w_eqS, w_neS, w_isB, w_neg, w_isN, w_isBb, w_isi, w_tupN, w_lstN, w_finI, w_finB, w_finS, w_finN, w_impI, w_impS, w_impB, w_impR, w_var0, w_varS, w_sFor, w_iR1, w_isI, w_some, w_lenS, w_lenT, w_lenF, w_lenL, w_lenR, w_addSS, w_addTT, w_ixStr, w_ixTup, w_ixFl, w_ixLst, w_ixRef, w_slBS, w_slAS, w_slBT, w_slAT, w_slABF, w_tupleT, w_tupleL, w_tupleF, w_tupleR, w_listT, w_listF, w_listL, w_listR, w_iSeq, w_seqT, w_seqF, w_seqS, w_seqR, w_iEn, w_en1, w_sqT, w_iZp, w_fComp, imps_nil, imps_cons, at_1_0, at_2_0, at_2_1, at_3_0, at_3_1, at_3_2, at_4_0, at_4_1, at_4_2, at_4_3, at_5_0, at_5_1, at_5_2, at_5_3, at_5_4, wipeD, startD, List.map, List.replicate, List.length, List.cons_append, List.nil_append, List.set_cons_succ, List.set_cons_zero, Nat.add_sub_cancel, Nat.reduceAdd, Nat.reduceSub, Nat.sub_self, Nat.zero_add]
    refine ⟨fun _ => ?_, fun z => (by cases z)⟩
    show Wp (some false) _
    simp only [w_runF, w_sSeq, w_sIf, w_tBl, w_tNot, w_tAnd, w_tOr, w_tYes, w_fAnd, w_fOr, w_fNot, w_fChain, w_fAp, w_fBM, a2, a1, a3, w_aCons, w_aNil, w_fC, w_sNx, w_sNo, w_sRet, w_sAsg, w_sDrop, w_sSetI, w_gNm, w_add, w_sub, w_mul, w_fdiv, w_mod, w_pow, w_lt, w_le, w_gt, w_ge, w_bB, w_eqI, w_neI, w_eqS, w_neS, w_isB, w_neg, w_isN, w_isBb, w_isi, w_tupN, w_lstN, w_finI, w_finB, w_finS, w_finN, w_impI, w_impS, w_impB, w_impR, w_var0, w_varS, w_sFor, w_iR1, w_isI, w_some, w_lenS, w_lenT, w_lenF, w_lenL, w_lenR, w_addSS, w_addTT, w_ixStr, w_ixTup, w_ixFl, w_ixLst, w_ixRef, w_slBS, w_slAS, w_slBT, w_slAT, w_slABF, w_tupleT, w_tupleL, w_tupleF, w_tupleR, w_listT, w_listF, w_listL, w_listR, w_iSeq, w_seqT, w_seqF, w_seqS, w_seqR, w_iEn, w_en1, w_sqT, w_iZp, w_fComp, imps_nil, imps_cons, at_1_0, at_2_0, at_2_1, at_3_0, at_3_1, at_3_2, at_4_0, at_4_1, at_4_2, at_4_3, at_5_0, at_5_1, at_5_2, at_5_3, at_5_4, wipeD, startD, List.map, List.replicate, List.length, List.cons_append, List.nil_append, List.set_cons_succ, List.set_cons_zero, Nat.add_sub_cancel, Nat.reduceAdd, Nat.reduceSub, Nat.sub_self, Nat.zero_add]
    exact ⟨fun _ => (by simp), fun z => (by cases z)⟩
  | n, .str x, m, h => by
    apply Wp.eq
    show Wp (runF 4 (b__law_alike (F__law_alike n)) [.str x, .str x] m) _
    unfold b__law_alike
    simp only [w_runF, w_sSeq, w_sIf, w_tBl, w_tNot, w_tAnd, w_tOr, w_tYes, w_fAnd, w_fOr, w_fNot, w_fChain, w_fAp, w_fBM, a2, a1, a3, w_aCons, w_aNil, w_fC, w_sNx, w_sNo, w_sRet, w_sAsg, w_sDrop, w_sSetI, w_gNm, w_add, w_sub, w_mul, w_fdiv, w_mod, w_pow, w_lt, w_le, w_gt, w_ge, w_bB, w_eqI, w_neI, w_eqS, w_neS, w_isB, w_neg, w_isN, w_isBb, w_isi, w_tupN, w_lstN, w_finI, w_finB, w_finS, w_finN, w_impI, w_impS, w_impB, w_impR, w_var0, w_varS, w_sFor, w_iR1, w_isI, w_some, w_lenS, w_lenT, w_lenF, w_lenL, w_lenR, w_addSS, w_addTT, w_ixStr, w_ixTup, w_ixFl, w_ixLst, w_ixRef, w_slBS, w_slAS, w_slBT, w_slAT, w_slABF, w_tupleT, w_tupleL, w_tupleF, w_tupleR, w_listT, w_listF, w_listL, w_listR, w_iSeq, w_seqT, w_seqF, w_seqS, w_seqR, w_iEn, w_en1, w_sqT, w_iZp, w_fComp, imps_nil, imps_cons, at_1_0, at_2_0, at_2_1, at_3_0, at_3_1, at_3_2, at_4_0, at_4_1, at_4_2, at_4_3, at_5_0, at_5_1, at_5_2, at_5_3, at_5_4, wipeD, startD, List.map, List.replicate, List.length, List.cons_append, List.nil_append, List.set_cons_succ, List.set_cons_zero, Nat.add_sub_cancel, Nat.reduceAdd, Nat.reduceSub, Nat.sub_self, Nat.zero_add]
    refine ⟨fun z => (by cases z), fun _ => ?_⟩
    show Wp (some true) _
    simp only [w_runF, w_sSeq, w_sIf, w_tBl, w_tNot, w_tAnd, w_tOr, w_tYes, w_fAnd, w_fOr, w_fNot, w_fChain, w_fAp, w_fBM, a2, a1, a3, w_aCons, w_aNil, w_fC, w_sNx, w_sNo, w_sRet, w_sAsg, w_sDrop, w_sSetI, w_gNm, w_add, w_sub, w_mul, w_fdiv, w_mod, w_pow, w_lt, w_le, w_gt, w_ge, w_bB, w_eqI, w_neI, w_eqS, w_neS, w_isB, w_neg, w_isN, w_isBb, w_isi, w_tupN, w_lstN, w_finI, w_finB, w_finS, w_finN, w_impI, w_impS, w_impB, w_impR, w_var0, w_varS, w_sFor, w_iR1, w_isI, w_some, w_lenS, w_lenT, w_lenF, w_lenL, w_lenR, w_addSS, w_addTT, w_ixStr, w_ixTup, w_ixFl, w_ixLst, w_ixRef, w_slBS, w_slAS, w_slBT, w_slAT, w_slABF, w_tupleT, w_tupleL, w_tupleF, w_tupleR, w_listT, w_listF, w_listL, w_listR, w_iSeq, w_seqT, w_seqF, w_seqS, w_seqR, w_iEn, w_en1, w_sqT, w_iZp, w_fComp, imps_nil, imps_cons, at_1_0, at_2_0, at_2_1, at_3_0, at_3_1, at_3_2, at_4_0, at_4_1, at_4_2, at_4_3, at_5_0, at_5_1, at_5_2, at_5_3, at_5_4, wipeD, startD, List.map, List.replicate, List.length, List.cons_append, List.nil_append, List.set_cons_succ, List.set_cons_zero, Nat.add_sub_cancel, Nat.reduceAdd, Nat.reduceSub, Nat.sub_self, Nat.zero_add]
    refine ⟨fun _ => ?_, fun z => (by cases z)⟩
    show Wp (some true) _
    simp only [w_runF, w_sSeq, w_sIf, w_tBl, w_tNot, w_tAnd, w_tOr, w_tYes, w_fAnd, w_fOr, w_fNot, w_fChain, w_fAp, w_fBM, a2, a1, a3, w_aCons, w_aNil, w_fC, w_sNx, w_sNo, w_sRet, w_sAsg, w_sDrop, w_sSetI, w_gNm, w_add, w_sub, w_mul, w_fdiv, w_mod, w_pow, w_lt, w_le, w_gt, w_ge, w_bB, w_eqI, w_neI, w_eqS, w_neS, w_isB, w_neg, w_isN, w_isBb, w_isi, w_tupN, w_lstN, w_finI, w_finB, w_finS, w_finN, w_impI, w_impS, w_impB, w_impR, w_var0, w_varS, w_sFor, w_iR1, w_isI, w_some, w_lenS, w_lenT, w_lenF, w_lenL, w_lenR, w_addSS, w_addTT, w_ixStr, w_ixTup, w_ixFl, w_ixLst, w_ixRef, w_slBS, w_slAS, w_slBT, w_slAT, w_slABF, w_tupleT, w_tupleL, w_tupleF, w_tupleR, w_listT, w_listF, w_listL, w_listR, w_iSeq, w_seqT, w_seqF, w_seqS, w_seqR, w_iEn, w_en1, w_sqT, w_iZp, w_fComp, imps_nil, imps_cons, at_1_0, at_2_0, at_2_1, at_3_0, at_3_1, at_3_2, at_4_0, at_4_1, at_4_2, at_4_3, at_5_0, at_5_1, at_5_2, at_5_3, at_5_4, wipeD, startD, List.map, List.replicate, List.length, List.cons_append, List.nil_append, List.set_cons_succ, List.set_cons_zero, Nat.add_sub_cancel, Nat.reduceAdd, Nat.reduceSub, Nat.sub_self, Nat.zero_add]
    exact ⟨fun _ => (by simp), fun z => (by cases z)⟩
  | n + 1, .tup xs, m, h => by
    have hx : ∀ x ∈ xs, nice n x = true := nices_iff.mp (show nices n xs = true from h)
    have px : plain (.tup xs) = true := nice_plain _ _ h
    apply Wp.eq
    show Wp (runF 4 (b__law_alike (F__law_alike (n + 1))) [.tup xs, .tup xs] m) _
    unfold b__law_alike
    simp only [w_runF, w_sSeq, w_sIf, w_tBl, w_tNot, w_tAnd, w_tOr, w_tYes, w_fAnd, w_fOr, w_fNot, w_fChain, w_fAp, w_fBM, a2, a1, a3, w_aCons, w_aNil, w_fC, w_sNx, w_sNo, w_sRet, w_sAsg, w_sDrop, w_sSetI, w_gNm, w_add, w_sub, w_mul, w_fdiv, w_mod, w_pow, w_lt, w_le, w_gt, w_ge, w_bB, w_eqI, w_neI, w_eqS, w_neS, w_isB, w_neg, w_isN, w_isBb, w_isi, w_tupN, w_lstN, w_finI, w_finB, w_finS, w_finN, w_impI, w_impS, w_impB, w_impR, w_var0, w_varS, w_sFor, w_iR1, w_isI, w_some, w_lenS, w_lenT, w_lenF, w_lenL, w_lenR, w_addSS, w_addTT, w_ixStr, w_ixTup, w_ixFl, w_ixLst, w_ixRef, w_slBS, w_slAS, w_slBT, w_slAT, w_slABF, w_tupleT, w_tupleL, w_tupleF, w_tupleR, w_listT, w_listF, w_listL, w_listR, w_iSeq, w_seqT, w_seqF, w_seqS, w_seqR, w_iEn, w_en1, w_sqT, w_iZp, w_fComp, imps_nil, imps_cons, at_1_0, at_2_0, at_2_1, at_3_0, at_3_1, at_3_2, at_4_0, at_4_1, at_4_2, at_4_3, at_5_0, at_5_1, at_5_2, at_5_3, at_5_4, wipeD, startD, List.map, List.replicate, List.length, List.cons_append, List.nil_append, List.set_cons_succ, List.set_cons_zero, Nat.add_sub_cancel, Nat.reduceAdd, Nat.reduceSub, Nat.sub_self, Nat.zero_add]
    refine ⟨fun z => (by cases z), fun _ => ?_⟩
    show Wp (some false) _
    simp only [w_runF, w_sSeq, w_sIf, w_tBl, w_tNot, w_tAnd, w_tOr, w_tYes, w_fAnd, w_fOr, w_fNot, w_fChain, w_fAp, w_fBM, a2, a1, a3, w_aCons, w_aNil, w_fC, w_sNx, w_sNo, w_sRet, w_sAsg, w_sDrop, w_sSetI, w_gNm, w_add, w_sub, w_mul, w_fdiv, w_mod, w_pow, w_lt, w_le, w_gt, w_ge, w_bB, w_eqI, w_neI, w_eqS, w_neS, w_isB, w_neg, w_isN, w_isBb, w_isi, w_tupN, w_lstN, w_finI, w_finB, w_finS, w_finN, w_impI, w_impS, w_impB, w_impR, w_var0, w_varS, w_sFor, w_iR1, w_isI, w_some, w_lenS, w_lenT, w_lenF, w_lenL, w_lenR, w_addSS, w_addTT, w_ixStr, w_ixTup, w_ixFl, w_ixLst, w_ixRef, w_slBS, w_slAS, w_slBT, w_slAT, w_slABF, w_tupleT, w_tupleL, w_tupleF, w_tupleR, w_listT, w_listF, w_listL, w_listR, w_iSeq, w_seqT, w_seqF, w_seqS, w_seqR, w_iEn, w_en1, w_sqT, w_iZp, w_fComp, imps_nil, imps_cons, at_1_0, at_2_0, at_2_1, at_3_0, at_3_1, at_3_2, at_4_0, at_4_1, at_4_2, at_4_3, at_5_0, at_5_1, at_5_2, at_5_3, at_5_4, wipeD, startD, List.map, List.replicate, List.length, List.cons_append, List.nil_append, List.set_cons_succ, List.set_cons_zero, Nat.add_sub_cancel, Nat.reduceAdd, Nat.reduceSub, Nat.sub_self, Nat.zero_add]
    refine ⟨fun z => (by cases z), fun _ => ?_⟩
    show Wp (some false) _
    simp only [w_runF, w_sSeq, w_sIf, w_tBl, w_tNot, w_tAnd, w_tOr, w_tYes, w_fAnd, w_fOr, w_fNot, w_fChain, w_fAp, w_fBM, a2, a1, a3, w_aCons, w_aNil, w_fC, w_sNx, w_sNo, w_sRet, w_sAsg, w_sDrop, w_sSetI, w_gNm, w_add, w_sub, w_mul, w_fdiv, w_mod, w_pow, w_lt, w_le, w_gt, w_ge, w_bB, w_eqI, w_neI, w_eqS, w_neS, w_isB, w_neg, w_isN, w_isBb, w_isi, w_tupN, w_lstN, w_finI, w_finB, w_finS, w_finN, w_impI, w_impS, w_impB, w_impR, w_var0, w_varS, w_sFor, w_iR1, w_isI, w_some, w_lenS, w_lenT, w_lenF, w_lenL, w_lenR, w_addSS, w_addTT, w_ixStr, w_ixTup, w_ixFl, w_ixLst, w_ixRef, w_slBS, w_slAS, w_slBT, w_slAT, w_slABF, w_tupleT, w_tupleL, w_tupleF, w_tupleR, w_listT, w_listF, w_listL, w_listR, w_iSeq, w_seqT, w_seqF, w_seqS, w_seqR, w_iEn, w_en1, w_sqT, w_iZp, w_fComp, imps_nil, imps_cons, at_1_0, at_2_0, at_2_1, at_3_0, at_3_1, at_3_2, at_4_0, at_4_1, at_4_2, at_4_3, at_5_0, at_5_1, at_5_2, at_5_3, at_5_4, wipeD, startD, List.map, List.replicate, List.length, List.cons_append, List.nil_append, List.set_cons_succ, List.set_cons_zero, Nat.add_sub_cancel, Nat.reduceAdd, Nat.reduceSub, Nat.sub_self, Nat.zero_add]
    refine ⟨fun z => (by cases z), fun _ => ?_⟩
    show Wp (some false) _
    simp only [w_runF, w_sSeq, w_sIf, w_tBl, w_tNot, w_tAnd, w_tOr, w_tYes, w_fAnd, w_fOr, w_fNot, w_fChain, w_fAp, w_fBM, a2, a1, a3, w_aCons, w_aNil, w_fC, w_sNx, w_sNo, w_sRet, w_sAsg, w_sDrop, w_sSetI, w_gNm, w_add, w_sub, w_mul, w_fdiv, w_mod, w_pow, w_lt, w_le, w_gt, w_ge, w_bB, w_eqI, w_neI, w_eqS, w_neS, w_isB, w_neg, w_isN, w_isBb, w_isi, w_tupN, w_lstN, w_finI, w_finB, w_finS, w_finN, w_impI, w_impS, w_impB, w_impR, w_var0, w_varS, w_sFor, w_iR1, w_isI, w_some, w_lenS, w_lenT, w_lenF, w_lenL, w_lenR, w_addSS, w_addTT, w_ixStr, w_ixTup, w_ixFl, w_ixLst, w_ixRef, w_slBS, w_slAS, w_slBT, w_slAT, w_slABF, w_tupleT, w_tupleL, w_tupleF, w_tupleR, w_listT, w_listF, w_listL, w_listR, w_iSeq, w_seqT, w_seqF, w_seqS, w_seqR, w_iEn, w_en1, w_sqT, w_iZp, w_fComp, imps_nil, imps_cons, at_1_0, at_2_0, at_2_1, at_3_0, at_3_1, at_3_2, at_4_0, at_4_1, at_4_2, at_4_3, at_5_0, at_5_1, at_5_2, at_5_3, at_5_4, wipeD, startD, List.map, List.replicate, List.length, List.cons_append, List.nil_append, List.set_cons_succ, List.set_cons_zero, Nat.add_sub_cancel, Nat.reduceAdd, Nat.reduceSub, Nat.sub_self, Nat.zero_add]
    refine ⟨fun z => (by cases z), fun _ => ⟨fun z => (by cases z), fun _ => ?_⟩⟩
    show Wp (some true) _
    simp only [w_runF, w_sSeq, w_sIf, w_tBl, w_tNot, w_tAnd, w_tOr, w_tYes, w_fAnd, w_fOr, w_fNot, w_fChain, w_fAp, w_fBM, a2, a1, a3, w_aCons, w_aNil, w_fC, w_sNx, w_sNo, w_sRet, w_sAsg, w_sDrop, w_sSetI, w_gNm, w_add, w_sub, w_mul, w_fdiv, w_mod, w_pow, w_lt, w_le, w_gt, w_ge, w_bB, w_eqI, w_neI, w_eqS, w_neS, w_isB, w_neg, w_isN, w_isBb, w_isi, w_tupN, w_lstN, w_finI, w_finB, w_finS, w_finN, w_impI, w_impS, w_impB, w_impR, w_var0, w_varS, w_sFor, w_iR1, w_isI, w_some, w_lenS, w_lenT, w_lenF, w_lenL, w_lenR, w_addSS, w_addTT, w_ixStr, w_ixTup, w_ixFl, w_ixLst, w_ixRef, w_slBS, w_slAS, w_slBT, w_slAT, w_slABF, w_tupleT, w_tupleL, w_tupleF, w_tupleR, w_listT, w_listF, w_listL, w_listR, w_iSeq, w_seqT, w_seqF, w_seqS, w_seqR, w_iEn, w_en1, w_sqT, w_iZp, w_fComp, imps_nil, imps_cons, at_1_0, at_2_0, at_2_1, at_3_0, at_3_1, at_3_2, at_4_0, at_4_1, at_4_2, at_4_3, at_5_0, at_5_1, at_5_2, at_5_3, at_5_4, wipeD, startD, List.map, List.replicate, List.length, List.cons_append, List.nil_append, List.set_cons_succ, List.set_cons_zero, Nat.add_sub_cancel, Nat.reduceAdd, Nat.reduceSub, Nat.sub_self, Nat.zero_add]
    refine ⟨fun _ => ?_, fun z => (by cases z)⟩
    show Wp (some true) _
    simp only [w_runF, w_sSeq, w_sIf, w_tBl, w_tNot, w_tAnd, w_tOr, w_tYes, w_fAnd, w_fOr, w_fNot, w_fChain, w_fAp, w_fBM, a2, a1, a3, w_aCons, w_aNil, w_fC, w_sNx, w_sNo, w_sRet, w_sAsg, w_sDrop, w_sSetI, w_gNm, w_add, w_sub, w_mul, w_fdiv, w_mod, w_pow, w_lt, w_le, w_gt, w_ge, w_bB, w_eqI, w_neI, w_eqS, w_neS, w_isB, w_neg, w_isN, w_isBb, w_isi, w_tupN, w_lstN, w_finI, w_finB, w_finS, w_finN, w_impI, w_impS, w_impB, w_impR, w_var0, w_varS, w_sFor, w_iR1, w_isI, w_some, w_lenS, w_lenT, w_lenF, w_lenL, w_lenR, w_addSS, w_addTT, w_ixStr, w_ixTup, w_ixFl, w_ixLst, w_ixRef, w_slBS, w_slAS, w_slBT, w_slAT, w_slABF, w_tupleT, w_tupleL, w_tupleF, w_tupleR, w_listT, w_listF, w_listL, w_listR, w_iSeq, w_seqT, w_seqF, w_seqS, w_seqR, w_iEn, w_en1, w_sqT, w_iZp, w_fComp, imps_nil, imps_cons, at_1_0, at_2_0, at_2_1, at_3_0, at_3_1, at_3_2, at_4_0, at_4_1, at_4_2, at_4_3, at_5_0, at_5_1, at_5_2, at_5_3, at_5_4, wipeD, startD, List.map, List.replicate, List.length, List.cons_append, List.nil_append, List.set_cons_succ, List.set_cons_zero, Nat.add_sub_cancel, Nat.reduceAdd, Nat.reduceSub, Nat.sub_self, Nat.zero_add]
    refine ⟨fun z => (by cases z), fun _ => ⟨fun _ => ?_, fun z => (by simp at z)⟩⟩
    simp only [imp_plain px]
    refine Wp.zp1 (b := false) (xs := xs) (ys := xs) rfl rfl ?_
    refine Wp.map (fun _ y => y = .bl true) (fun i d hd => ?_) fun ys _ hy => ?_
    · obtain ⟨x, y, h1, h2, rfl⟩ := zipD_get _ _ _ _ hd
      rw [h1] at h2
      cases h2
      have nx := hx x (List.mem_of_getElem? h1)
      have pl := nice_plain _ _ nx
      simp only [w_runF, w_sSeq, w_sIf, w_tBl, w_tNot, w_tAnd, w_tOr, w_tYes, w_fAnd, w_fOr, w_fNot, w_fChain, w_fAp, w_fBM, a2, a1, a3, w_aCons, w_aNil, w_fC, w_sNx, w_sNo, w_sRet, w_sAsg, w_sDrop, w_sSetI, w_gNm, w_add, w_sub, w_mul, w_fdiv, w_mod, w_pow, w_lt, w_le, w_gt, w_ge, w_bB, w_eqI, w_neI, w_eqS, w_neS, w_isB, w_neg, w_isN, w_isBb, w_isi, w_tupN, w_lstN, w_finI, w_finB, w_finS, w_finN, w_impI, w_impS, w_impB, w_impR, w_var0, w_varS, w_sFor, w_iR1, w_isI, w_some, w_lenS, w_lenT, w_lenF, w_lenL, w_lenR, w_addSS, w_addTT, w_ixStr, w_ixTup, w_ixFl, w_ixLst, w_ixRef, w_slBS, w_slAS, w_slBT, w_slAT, w_slABF, w_tupleT, w_tupleL, w_tupleF, w_tupleR, w_listT, w_listF, w_listL, w_listR, w_iSeq, w_seqT, w_seqF, w_seqS, w_seqR, w_iEn, w_en1, w_sqT, w_iZp, w_fComp, imps_nil, imps_cons, at_1_0, at_2_0, at_2_1, at_3_0, at_3_1, at_3_2, at_4_0, at_4_1, at_4_2, at_4_3, at_5_0, at_5_1, at_5_2, at_5_3, at_5_4, wipeD, startD, List.map, List.replicate, List.length, List.cons_append, List.nil_append, List.set_cons_succ, List.set_cons_zero, Nat.add_sub_cancel, Nat.reduceAdd, Nat.reduceSub, Nat.sub_self, Nat.zero_add, w_gTp2, w_gsCons, w_gsNil, imp_plain pl]
      refine ⟨trivial, Wp.call (by rfl) (by show (M3.settled x && (M3.settled x && true)) = true; rw [plain_settled x pl]; rfl) (alike_ok n x m nx) ⟨rfl, rfl⟩⟩
    · refine all_bl (fun y hy2 => ?_) ?_
      · obtain ⟨i, hi⟩ := List.mem_iff_getElem?.mp hy2
        exact hy i y hi
      · simp only [w_runF, w_sSeq, w_sIf, w_tBl, w_tNot, w_tAnd, w_tOr, w_tYes, w_fAnd, w_fOr, w_fNot, w_fChain, w_fAp, w_fBM, a2, a1, a3, w_aCons, w_aNil, w_fC, w_sNx, w_sNo, w_sRet, w_sAsg, w_sDrop, w_sSetI, w_gNm, w_add, w_sub, w_mul, w_fdiv, w_mod, w_pow, w_lt, w_le, w_gt, w_ge, w_bB, w_eqI, w_neI, w_eqS, w_neS, w_isB, w_neg, w_isN, w_isBb, w_isi, w_tupN, w_lstN, w_finI, w_finB, w_finS, w_finN, w_impI, w_impS, w_impB, w_impR, w_var0, w_varS, w_sFor, w_iR1, w_isI, w_some, w_lenS, w_lenT, w_lenF, w_lenL, w_lenR, w_addSS, w_addTT, w_ixStr, w_ixTup, w_ixFl, w_ixLst, w_ixRef, w_slBS, w_slAS, w_slBT, w_slAT, w_slABF, w_tupleT, w_tupleL, w_tupleF, w_tupleR, w_listT, w_listF, w_listL, w_listR, w_iSeq, w_seqT, w_seqF, w_seqS, w_seqR, w_iEn, w_en1, w_sqT, w_iZp, w_fComp, imps_nil, imps_cons, at_1_0, at_2_0, at_2_1, at_3_0, at_3_1, at_3_2, at_4_0, at_4_1, at_4_2, at_4_3, at_5_0, at_5_1, at_5_2, at_5_3, at_5_4, wipeD, startD, List.map, List.replicate, List.length, List.cons_append, List.nil_append, List.set_cons_succ, List.set_cons_zero, Nat.add_sub_cancel, Nat.reduceAdd, Nat.reduceSub, Nat.sub_self, Nat.zero_add]
  | 0, .tup xs, m, h => by cases h
  | _, .non, m, h => by cases h
  | _, .bl _, m, h => by cases h
  | _, .lst _, m, h => by cases h
  | _, .fl _, m, h => by cases h
  | _, .dic _ _, m, h => by cases h
  | _, .fdic _ _, m, h => by cases h
  | _, .dit _ _, m, h => by cases h
  | _, .fdit _ _, m, h => by cases h
  | _, .ins _ _ _, m, h => by cases h
  | _, .box _ _ _, m, h => by cases h
  | _, .ref _, m, h => by cases h
section
variable {m : Mem} {T U R : D} {ts us rs : List D} (S : SqOf m T ts) (SU : SqOf m U us) (SR : SqOf m R rs)
/-- R[:i] of a tuple, a list -/
theorem SqOf.slB {m : Mem} {T : D} {ts : List D} {i : Nat} {Q : D × Mem → Prop} (h : SqOf m T ts) (q : ∀ y, (y = .tup (ts.take i) ∨ y = .lst (ts.take i)) → Q (y, m)) : Wp (gSlB m [T, .int (i : Int)]) Q := by
  rcases h.eq with rfl | ⟨k, rfl, hk⟩
  · rw [w_slBT, cutL_B]
    exact q _ (.inl rfl)
  · refine (w_map (x := cutD m (.ref k) none (some (i : Int)))).mpr ?_
    show Wp ((rl m (.ref k)).map fun xs => D.lst (cutL xs none (some (i : Int)))) _
    rw [rl_ref hk, Option.map_some, w_some, cutL_B]
    exact q _ (.inr rfl)
theorem snap_lst {n : Nat} {ds : List D} (h : nices n ds = true) : (snap m (.lst ds)).bind itemsP = some (pds ds) := by
  have : snap m (.lst ds) = some (.list (pds ds)) := by
    show (toPys (pyR m m.length) ds).map PyData.list = _
    rw [nices_py n ds h]
    rfl
  rw [this]; rfl
include S SR
theorem check_good (hr : ∀ d ∈ rs, okRow ts d) (hn : rs.Nodup) : F_check_rows [T, R] m = some (.non, m) := by
  apply Wp.eq
  unfold F_check_rows b_check_rows
  have e1 : imps [R] m = ([R], m) := imps_settled _ _ (by show (M3.settled R && true) = true; rw [SR.settled]; rfl)
  obtain ⟨b, wt, es, okw⟩ := SR.sqD
  simp only [w_runF, w_sSeq, w_sFor, w_iEn, a1, w_aCons, w_aNil, w_var0, w_varS, startD, List.map, List.replicate, List.length, List.cons_append, List.nil_append, w_some, e1, w_en1, es, Nat.reduceAdd, Nat.reduceSub]
  have items : ∀ {i : Nat} {d : D}, (enumD 0 rs)[i]? = some d → ∃ e, rs[i]? = some e ∧ d = .tup [.int (i : Int), e] := fun {i d} h => by
    obtain ⟨e, h1, h2⟩ := enumD_get _ _ _ _ h
    rw [Nat.zero_add] at h2
    exact ⟨e, h1, h2⟩
  refine Wp.for (fun k l m' => ∃ v2 v3, m' = m ∧ l = [some T, some R, v2, v3]) 0 ⟨none, none, rfl, rfl⟩ ?_ ?_
  · rintro i d l m' hd ⟨v2, v3, rfl, rfl⟩
    obtain ⟨e, he, rfl⟩ := items hd
    have oe := hr e (List.mem_of_getElem? he)
    have pe := okRow_plain oe
    simp only [w_runF, w_sSeq, w_sIf, w_tBl, w_tNot, w_tAnd, w_tOr, w_tYes, w_fAnd, w_fOr, w_fNot, w_fChain, w_fAp, w_fBM, a2, a1, a3, w_aCons, w_aNil, w_fC, w_sNx, w_sNo, w_sRet, w_sAsg, w_sDrop, w_sSetI, w_gNm, w_add, w_sub, w_mul, w_fdiv, w_mod, w_pow, w_lt, w_le, w_gt, w_ge, w_bB, w_eqI, w_neI, w_eqS, w_neS, w_isB, w_neg, w_isN, w_isBb, w_isi, w_tupN, w_lstN, w_finI, w_finB, w_finS, w_finN, w_impI, w_impS, w_impB, w_impR, w_var0, w_varS, w_sFor, w_iR1, w_isI, w_some, w_lenS, w_lenT, w_lenF, w_lenL, w_lenR, w_addSS, w_addTT, w_ixStr, w_ixTup, w_ixFl, w_ixLst, w_ixRef, w_slBS, w_slAS, w_slBT, w_slAT, w_slABF, w_tupleT, w_tupleL, w_tupleF, w_tupleR, w_listT, w_listF, w_listL, w_listR, w_iSeq, w_seqT, w_seqF, w_seqS, w_seqR, w_iEn, w_en1, w_sqT, w_iZp, w_fComp, imps_nil, imps_cons, at_1_0, at_2_0, at_2_1, at_3_0, at_3_1, at_3_2, at_4_0, at_4_1, at_4_2, at_4_3, at_5_0, at_5_1, at_5_2, at_5_3, at_5_4, wipeD, startD, List.map, List.replicate, List.length, List.cons_append, List.nil_append, List.set_cons_succ, List.set_cons_zero, Nat.add_sub_cancel, Nat.reduceAdd, Nat.reduceSub, Nat.sub_self, Nat.zero_add, w_gTp2, w_gsCons, w_gsNil, imp_plain pe]
    refine Wp.call (by rfl) (args2 S pe) (row_good S oe) ⟨fun z => (by cases z), fun _ => ⟨okw, _, _, rfl, rfl⟩⟩
  · rintro l m' ⟨v2, v3, rfl, rfl⟩
    simp only [w_sFor, w_iEn, a1, w_aCons, w_aNil, w_var0, w_varS, w_some, e1, w_en1, es]
    refine Wp.for (fun k l m2 => ∃ v2 v3, m2 = m' ∧ l = [some T, some R, v2, v3]) 0 ⟨v2, v3, rfl, rfl⟩ ?_ ?_
    · rintro i d l m2 hd ⟨v2, v3, rfl, rfl⟩
      obtain ⟨e, he, rfl⟩ := items hd
      have oe := hr e (List.mem_of_getElem? he)
      have pe := okRow_plain oe
      simp only [w_runF, w_sSeq, w_sIf, w_tBl, w_tNot, w_tAnd, w_tOr, w_tYes, w_fAnd, w_fOr, w_fNot, w_fChain, w_fAp, w_fBM, a2, a1, a3, w_aCons, w_aNil, w_fC, w_sNx, w_sNo, w_sRet, w_sAsg, w_sDrop, w_sSetI, w_gNm, w_add, w_sub, w_mul, w_fdiv, w_mod, w_pow, w_lt, w_le, w_gt, w_ge, w_bB, w_eqI, w_neI, w_eqS, w_neS, w_isB, w_neg, w_isN, w_isBb, w_isi, w_tupN, w_lstN, w_finI, w_finB, w_finS, w_finN, w_impI, w_impS, w_impB, w_impR, w_var0, w_varS, w_sFor, w_iR1, w_isI, w_some, w_lenS, w_lenT, w_lenF, w_lenL, w_lenR, w_addSS, w_addTT, w_ixStr, w_ixTup, w_ixFl, w_ixLst, w_ixRef, w_slBS, w_slAS, w_slBT, w_slAT, w_slABF, w_tupleT, w_tupleL, w_tupleF, w_tupleR, w_listT, w_listF, w_listL, w_listR, w_iSeq, w_seqT, w_seqF, w_seqS, w_seqR, w_iEn, w_en1, w_sqT, w_iZp, w_fComp, imps_nil, imps_cons, at_1_0, at_2_0, at_2_1, at_3_0, at_3_1, at_3_2, at_4_0, at_4_1, at_4_2, at_4_3, at_5_0, at_5_1, at_5_2, at_5_3, at_5_4, wipeD, startD, List.map, List.replicate, List.length, List.cons_append, List.nil_append, List.set_cons_succ, List.set_cons_zero, Nat.add_sub_cancel, Nat.reduceAdd, Nat.reduceSub, Nat.sub_self, Nat.zero_add, w_gTp2, w_gsCons, w_gsNil, imp_plain pe]
      refine SR.slB fun y hy => ?_
      have nt : nices 2 (rs.take i) = true := nices_iff.mpr fun x hx => okRow_nice (hr x (List.mem_of_mem_take hx))
      have hni : e ∉ rs.take i := by
        intro hm
        obtain ⟨j, hj⟩ := List.mem_iff_getElem?.mp hm
        rw [List.getElem?_take] at hj
        split at hj
        · rename_i hji
          have := (List.getElem?_inj (List.getElem?_eq_some_iff.mp hj).1 hn).mp (hj.trans he.symm)
          omega
        · cases hj
      refine Wp.in (n := 2) (k := 2) (by decide) (by decide) (okRow_nice oe) nt (hy.elim (fun h => by rw [h]; exact snap_tup nt) fun h => by rw [h]; exact snap_lst nt) ⟨fun z => ?_, fun _ => ?_⟩
      · exact absurd z (by simp [hni])
      · exact ⟨okw, _, _, rfl, rfl⟩
    · rintro l m2 ⟨v2, v3, rfl, rfl⟩
      simp only [w_runF, w_sSeq, w_sIf, w_tBl, w_tNot, w_tAnd, w_tOr, w_tYes, w_fAnd, w_fOr, w_fNot, w_fChain, w_fAp, w_fBM, a2, a1, a3, w_aCons, w_aNil, w_fC, w_sNx, w_sNo, w_sRet, w_sAsg, w_sDrop, w_sSetI, w_gNm, w_add, w_sub, w_mul, w_fdiv, w_mod, w_pow, w_lt, w_le, w_gt, w_ge, w_bB, w_eqI, w_neI, w_eqS, w_neS, w_isB, w_neg, w_isN, w_isBb, w_isi, w_tupN, w_lstN, w_finI, w_finB, w_finS, w_finN, w_impI, w_impS, w_impB, w_impR, w_var0, w_varS, w_sFor, w_iR1, w_isI, w_some, w_lenS, w_lenT, w_lenF, w_lenL, w_lenR, w_addSS, w_addTT, w_ixStr, w_ixTup, w_ixFl, w_ixLst, w_ixRef, w_slBS, w_slAS, w_slBT, w_slAT, w_slABF, w_tupleT, w_tupleL, w_tupleF, w_tupleR, w_listT, w_listF, w_listL, w_listR, w_iSeq, w_seqT, w_seqF, w_seqS, w_seqR, w_iEn, w_en1, w_sqT, w_iZp, w_fComp, imps_nil, imps_cons, at_1_0, at_2_0, at_2_1, at_3_0, at_3_1, at_3_2, at_4_0, at_4_1, at_4_2, at_4_3, at_5_0, at_5_1, at_5_2, at_5_3, at_5_4, wipeD, startD, List.map, List.replicate, List.length, List.cons_append, List.nil_append, List.set_cons_succ, List.set_cons_zero, Nat.add_sub_cancel, Nat.reduceAdd, Nat.reduceSub, Nat.sub_self, Nat.zero_add]
include SU
theorem book_good (ht0 : 1 ≤ ts.length) (ht4 : ts.length ≤ 4) (hu6 : us.length ≤ 6) (hr60 : rs.length ≤ 60) (ht : ∀ d ∈ ts, okTab d) (hu : ∀ d ∈ us, okRule ts d) (hr : ∀ d ∈ rs, okRow ts d) (hn : rs.Nodup) :
    F_book_of [T, U, R] m = some (.tup [.tup ts, .tup us, .tup rs], m) := by
  have one : ∀ {X : D} {xs : List D}, SqOf m X xs → imps [X] m = ([X], m) := fun {X xs} h => imps_settled _ _ (by show (M3.settled X && true) = true; rw [h.settled]; rfl)
  have items : ∀ {xs : List D} {i : Nat} {d : D}, (enumD 0 xs)[i]? = some d → ∃ e, xs[i]? = some e ∧ d = .tup [.int (i : Int), e] := fun {xs i d} h => by
    obtain ⟨e, h1, h2⟩ := enumD_get _ _ _ _ h
    rw [Nat.zero_add] at h2
    exact ⟨e, h1, h2⟩
  obtain ⟨b1, wt1, es1, ok1⟩ := S.sqD
  obtain ⟨b2, wt2, es2, ok2⟩ := SU.sqD
  apply Wp.eq
  unfold F_book_of b_book_of
  simp only [w_runF, w_sSeq, w_sIf, w_tBl, w_tNot, w_tAnd, w_tOr, w_tYes, w_fAnd, w_fOr, w_fNot, w_fChain, w_fAp, w_fBM, a2, a1, a3, w_aCons, w_aNil, w_fC, w_sNx, w_sNo, w_sRet, w_sAsg, w_sDrop, w_sSetI, w_gNm, w_add, w_sub, w_mul, w_fdiv, w_mod, w_pow, w_lt, w_le, w_gt, w_ge, w_bB, w_eqI, w_neI, w_eqS, w_neS, w_isB, w_neg, w_isN, w_isBb, w_isi, w_tupN, w_lstN, w_finI, w_finB, w_finS, w_finN, w_impI, w_impS, w_impB, w_impR, w_var0, w_varS, w_sFor, w_iR1, w_isI, w_some, w_lenS, w_lenT, w_lenF, w_lenL, w_lenR, w_addSS, w_addTT, w_ixStr, w_ixTup, w_ixFl, w_ixLst, w_ixRef, w_slBS, w_slAS, w_slBT, w_slAT, w_slABF, w_tupleT, w_tupleL, w_tupleF, w_tupleR, w_listT, w_listF, w_listL, w_listR, w_iSeq, w_seqT, w_seqF, w_seqS, w_seqR, w_iEn, w_en1, w_sqT, w_iZp, w_fComp, imps_nil, imps_cons, at_1_0, at_2_0, at_2_1, at_3_0, at_3_1, at_3_2, at_4_0, at_4_1, at_4_2, at_4_3, at_5_0, at_5_1, at_5_2, at_5_3, at_5_4, wipeD, startD, List.map, List.replicate, List.length, List.cons_append, List.nil_append, List.set_cons_succ, List.set_cons_zero, Nat.add_sub_cancel, Nat.reduceAdd, Nat.reduceSub, Nat.sub_self, Nat.zero_add, S.len, SU.len, SR.len]
  refine ⟨fun z => absurd (of_decide_eq_true z) (by omega), fun _ => ⟨fun z => absurd (of_decide_eq_true z) (by omega), fun _ => ⟨fun z => absurd (of_decide_eq_true z) (by omega), fun _ => ?_⟩⟩⟩
  have e1 := imp_settled T m S.settled
  simp only [e1, es1, w_some]
  refine Wp.for (fun k l m' => ∃ v3 v4, m' = m ∧ l = [some T, some U, some R, v3, v4, none]) 0 ⟨none, none, rfl, rfl⟩ ?_ ?_
  · rintro i d l m' hd ⟨v3, v4, rfl, rfl⟩
    obtain ⟨e, he, rfl⟩ := items hd
    have oe := ht e (List.mem_of_getElem? he)
    have pe := nice_plain 1 e (okTab_nice oe)
    simp only [w_runF, w_sSeq, w_sIf, w_tBl, w_tNot, w_tAnd, w_tOr, w_tYes, w_fAnd, w_fOr, w_fNot, w_fChain, w_fAp, w_fBM, a2, a1, a3, w_aCons, w_aNil, w_fC, w_sNx, w_sNo, w_sRet, w_sAsg, w_sDrop, w_sSetI, w_gNm, w_add, w_sub, w_mul, w_fdiv, w_mod, w_pow, w_lt, w_le, w_gt, w_ge, w_bB, w_eqI, w_neI, w_eqS, w_neS, w_isB, w_neg, w_isN, w_isBb, w_isi, w_tupN, w_lstN, w_finI, w_finB, w_finS, w_finN, w_impI, w_impS, w_impB, w_impR, w_var0, w_varS, w_sFor, w_iR1, w_isI, w_some, w_lenS, w_lenT, w_lenF, w_lenL, w_lenR, w_addSS, w_addTT, w_ixStr, w_ixTup, w_ixFl, w_ixLst, w_ixRef, w_slBS, w_slAS, w_slBT, w_slAT, w_slABF, w_tupleT, w_tupleL, w_tupleF, w_tupleR, w_listT, w_listF, w_listL, w_listR, w_iSeq, w_seqT, w_seqF, w_seqS, w_seqR, w_iEn, w_en1, w_sqT, w_iZp, w_fComp, imps_nil, imps_cons, at_1_0, at_2_0, at_2_1, at_3_0, at_3_1, at_3_2, at_4_0, at_4_1, at_4_2, at_4_3, at_5_0, at_5_1, at_5_2, at_5_3, at_5_4, wipeD, startD, List.map, List.replicate, List.length, List.cons_append, List.nil_append, List.set_cons_succ, List.set_cons_zero, Nat.add_sub_cancel, Nat.reduceAdd, Nat.reduceSub, Nat.sub_self, Nat.zero_add, w_gTp2, w_gsCons, w_gsNil, imp_plain pe]
    refine Wp.call (by rfl) (by show (M3.settled e && true) = true; rw [plain_settled e pe]; rfl) (table_ok oe m') ⟨fun z => (by cases z), fun _ => ⟨ok1, _, _, rfl, rfl⟩⟩
  · rintro l m' ⟨v3, v4, rfl, rfl⟩
    have e2 := imp_settled U m' SU.settled
    simp only [w_runF, w_sSeq, w_sIf, w_tBl, w_tNot, w_tAnd, w_tOr, w_tYes, w_fAnd, w_fOr, w_fNot, w_fChain, w_fAp, w_fBM, a2, a1, a3, w_aCons, w_aNil, w_fC, w_sNx, w_sNo, w_sRet, w_sAsg, w_sDrop, w_sSetI, w_gNm, w_add, w_sub, w_mul, w_fdiv, w_mod, w_pow, w_lt, w_le, w_gt, w_ge, w_bB, w_eqI, w_neI, w_eqS, w_neS, w_isB, w_neg, w_isN, w_isBb, w_isi, w_tupN, w_lstN, w_finI, w_finB, w_finS, w_finN, w_impI, w_impS, w_impB, w_impR, w_var0, w_varS, w_sFor, w_iR1, w_isI, w_some, w_lenS, w_lenT, w_lenF, w_lenL, w_lenR, w_addSS, w_addTT, w_ixStr, w_ixTup, w_ixFl, w_ixLst, w_ixRef, w_slBS, w_slAS, w_slBT, w_slAT, w_slABF, w_tupleT, w_tupleL, w_tupleF, w_tupleR, w_listT, w_listF, w_listL, w_listR, w_iSeq, w_seqT, w_seqF, w_seqS, w_seqR, w_iEn, w_en1, w_sqT, w_iZp, w_fComp, imps_nil, imps_cons, at_1_0, at_2_0, at_2_1, at_3_0, at_3_1, at_3_2, at_4_0, at_4_1, at_4_2, at_4_3, at_5_0, at_5_1, at_5_2, at_5_3, at_5_4, wipeD, startD, List.map, List.replicate, List.length, List.cons_append, List.nil_append, List.set_cons_succ, List.set_cons_zero, Nat.add_sub_cancel, Nat.reduceAdd, Nat.reduceSub, Nat.sub_self, Nat.zero_add, S.len, e2, es2]
    refine ⟨fun z => absurd (of_decide_eq_true z) (by omega), fun _ => ?_⟩
    refine Wp.for (fun k l m2 => ∃ v3 v4 v5, m2 = m' ∧ l = [some T, some U, some R, v3, v4, v5]) 0 ⟨v3, v4, none, rfl, rfl⟩ ?_ ?_
    · rintro i d l m2 hd ⟨v3, v4, v5, rfl, rfl⟩
      obtain ⟨e, he, rfl⟩ := items hd
      have oe := hu e (List.mem_of_getElem? he)
      have pe := nice_plain 4 e (okRule_nice oe)
      simp only [w_runF, w_sSeq, w_sIf, w_tBl, w_tNot, w_tAnd, w_tOr, w_tYes, w_fAnd, w_fOr, w_fNot, w_fChain, w_fAp, w_fBM, a2, a1, a3, w_aCons, w_aNil, w_fC, w_sNx, w_sNo, w_sRet, w_sAsg, w_sDrop, w_sSetI, w_gNm, w_add, w_sub, w_mul, w_fdiv, w_mod, w_pow, w_lt, w_le, w_gt, w_ge, w_bB, w_eqI, w_neI, w_eqS, w_neS, w_isB, w_neg, w_isN, w_isBb, w_isi, w_tupN, w_lstN, w_finI, w_finB, w_finS, w_finN, w_impI, w_impS, w_impB, w_impR, w_var0, w_varS, w_sFor, w_iR1, w_isI, w_some, w_lenS, w_lenT, w_lenF, w_lenL, w_lenR, w_addSS, w_addTT, w_ixStr, w_ixTup, w_ixFl, w_ixLst, w_ixRef, w_slBS, w_slAS, w_slBT, w_slAT, w_slABF, w_tupleT, w_tupleL, w_tupleF, w_tupleR, w_listT, w_listF, w_listL, w_listR, w_iSeq, w_seqT, w_seqF, w_seqS, w_seqR, w_iEn, w_en1, w_sqT, w_iZp, w_fComp, imps_nil, imps_cons, at_1_0, at_2_0, at_2_1, at_3_0, at_3_1, at_3_2, at_4_0, at_4_1, at_4_2, at_4_3, at_5_0, at_5_1, at_5_2, at_5_3, at_5_4, wipeD, startD, List.map, List.replicate, List.length, List.cons_append, List.nil_append, List.set_cons_succ, List.set_cons_zero, Nat.add_sub_cancel, Nat.reduceAdd, Nat.reduceSub, Nat.sub_self, Nat.zero_add, w_gTp2, w_gsCons, w_gsNil, imp_plain pe]
      refine Wp.call (by rfl) (args2 S pe) (rule_good S oe) ⟨fun z => (by cases z), fun _ => ⟨ok2, _, _, _, rfl, rfl⟩⟩
    · rintro l m2 ⟨v3, v4, v5, rfl, rfl⟩
      simp only [w_runF, w_sSeq, w_sIf, w_tBl, w_tNot, w_tAnd, w_tOr, w_tYes, w_fAnd, w_fOr, w_fNot, w_fChain, w_fAp, w_fBM, a2, a1, a3, w_aCons, w_aNil, w_fC, w_sNx, w_sNo, w_sRet, w_sAsg, w_sDrop, w_sSetI, w_gNm, w_add, w_sub, w_mul, w_fdiv, w_mod, w_pow, w_lt, w_le, w_gt, w_ge, w_bB, w_eqI, w_neI, w_eqS, w_neS, w_isB, w_neg, w_isN, w_isBb, w_isi, w_tupN, w_lstN, w_finI, w_finB, w_finS, w_finN, w_impI, w_impS, w_impB, w_impR, w_var0, w_varS, w_sFor, w_iR1, w_isI, w_some, w_lenS, w_lenT, w_lenF, w_lenL, w_lenR, w_addSS, w_addTT, w_ixStr, w_ixTup, w_ixFl, w_ixLst, w_ixRef, w_slBS, w_slAS, w_slBT, w_slAT, w_slABF, w_tupleT, w_tupleL, w_tupleF, w_tupleR, w_listT, w_listF, w_listL, w_listR, w_iSeq, w_seqT, w_seqF, w_seqS, w_seqR, w_iEn, w_en1, w_sqT, w_iZp, w_fComp, imps_nil, imps_cons, at_1_0, at_2_0, at_2_1, at_3_0, at_3_1, at_3_2, at_4_0, at_4_1, at_4_2, at_4_3, at_5_0, at_5_1, at_5_2, at_5_3, at_5_4, wipeD, startD, List.map, List.replicate, List.length, List.cons_append, List.nil_append, List.set_cons_succ, List.set_cons_zero, Nat.add_sub_cancel, Nat.reduceAdd, Nat.reduceSub, Nat.sub_self, Nat.zero_add]
      refine Wp.call (by rfl) (by show (M3.settled T && (M3.settled R && true)) = true; rw [S.settled, SR.settled]; rfl) (check_good S SR hr hn) ?_
      simp only [w_runF, w_sSeq, w_sIf, w_tBl, w_tNot, w_tAnd, w_tOr, w_tYes, w_fAnd, w_fOr, w_fNot, w_fChain, w_fAp, w_fBM, a2, a1, a3, w_aCons, w_aNil, w_fC, w_sNx, w_sNo, w_sRet, w_sAsg, w_sDrop, w_sSetI, w_gNm, w_add, w_sub, w_mul, w_fdiv, w_mod, w_pow, w_lt, w_le, w_gt, w_ge, w_bB, w_eqI, w_neI, w_eqS, w_neS, w_isB, w_neg, w_isN, w_isBb, w_isi, w_tupN, w_lstN, w_finI, w_finB, w_finS, w_finN, w_impI, w_impS, w_impB, w_impR, w_var0, w_varS, w_sFor, w_iR1, w_isI, w_some, w_lenS, w_lenT, w_lenF, w_lenL, w_lenR, w_addSS, w_addTT, w_ixStr, w_ixTup, w_ixFl, w_ixLst, w_ixRef, w_slBS, w_slAS, w_slBT, w_slAT, w_slABF, w_tupleT, w_tupleL, w_tupleF, w_tupleR, w_listT, w_listF, w_listL, w_listR, w_iSeq, w_seqT, w_seqF, w_seqS, w_seqR, w_iEn, w_en1, w_sqT, w_iZp, w_fComp, imps_nil, imps_cons, at_1_0, at_2_0, at_2_1, at_3_0, at_3_1, at_3_2, at_4_0, at_4_1, at_4_2, at_4_3, at_5_0, at_5_1, at_5_2, at_5_3, at_5_4, wipeD, startD, List.map, List.replicate, List.length, List.cons_append, List.nil_append, List.set_cons_succ, List.set_cons_zero, Nat.add_sub_cancel, Nat.reduceAdd, Nat.reduceSub, Nat.sub_self, Nat.zero_add, S.tuple, SU.tuple, SR.tuple]
      refine ⟨by decide, Wp.fin0 ?_ rfl⟩
      show (plains ts && (plains us && (plains rs && true))) = true
      rw [S.pl, SU.pl, SR.pl]; rfl
end
end G06
set_option Elab.async false
set_option linter.all false
set_option autoImplicit false
set_option maxRecDepth 100000
set_option maxHeartbeats 1000000
namespace G06
open PySem PySem.Spec PyProof.Rows L2 M3
noncomputable def p1 : SF := (sAsg (fAp (callG 1 F__law_pool) (aCons (fAp (callG 2 F__law_cell_at) (aCons (fVar 0) (aCons (fC (.int 0)) aNil))) aNil)) (gNm 1))
noncomputable def p2 : SF := (sAsg (fAp (callG 2 F__law_tables) (aCons (fAp (callG 2 F__law_cell_at) (aCons (fVar 0) (aCons (fC (.int 1)) aNil))) (aCons (fC (.int 4)) aNil))) (gNm 2))
noncomputable def p3 : SF := (sAsg (fAp (callG 2 F__law_cell_at) (aCons (fVar 0) (aCons (fC (.int 2)) aNil))) (gNm 3))
noncomputable def p4 : SF := (sAsg (fAp gTuple (a1 (fComp (iR1 (a1 (fAp gMod (a2 (fVar 3) (fC (.int 7)))))) (gNm 5) tYesF (fAp (callG 3 F__law_rule) (aCons (fAp (callG 2 F__law_cell_at) (aCons (fVar 0) (aCons (fAp gAdd (a2 (fC (.int 3)) (fVar 5))) aNil))) (aCons (fVar 2) (aCons (fVar 1) aNil)))) [5]))) (gNm 4))
noncomputable def p5 : SF := (sAsg (fAp (callG 4 F__law_rows) (aCons (fAp gSlAB (a3 (fVar 0) (fC (.int 9)) (fC (.int 59)))) (aCons (fVar 2) (aCons (fVar 1) (aCons (fAp gAdd (a2 (fC (.int 2)) (fAp gMod (a2 (fAp gFdiv (a2 (fVar 3) (fC (.int 7)))) (fC (.int 6)))))) aNil))))) (gNm 6))
noncomputable def p6 : SF := (sIf (tBl (fAp gEq (a2 (fAp gMod (a2 (fAp gFdiv (a2 (fVar 3) (fC (.int 84)))) (fC (.int 8)))) (fC (.int 5))))) (sSeq (sAsg (fAp gTuple (a1 (fComp (iR1 (a1 (fAp gSub (a2 (fAp gIx (a2 (fAp gIx (a2 (fVar 2) (fC (.int 0)))) (fC (.int 0)))) (fC (.int 1)))))) (gNm 8) tYesF (fAp gIx (a2 (fVar 1) (fAp gMod (a2 (fAp gAdd (a2 (fAp gFdiv (a2 (fVar 3) (fC (.int 672)))) (fVar 8))) (fC (.int 7)))))) [8]))) (gNm 7))
  (sAsg (fAp gTuple (a1 (fComp (iR1 (a1 (fC (.int 60)))) (gNm 5) tYesF (fAp gTupN (aCons (fC (.int 0)) (aCons (fAp gAdd (a2 (fAp gTupN (aCons (fAp gSub (a2 (fVar 5) (fC (.int 30)))) aNil)) (fVar 7))) aNil))) [5]))) (gNm 6))) sNx)
noncomputable def p7 : SF := (sAsg (fAp gTupN (aCons (fVar 2) (aCons (fVar 4) (aCons (fVar 6) aNil)))) (gNm 9))
noncomputable def p8 : SF := (sAsg (fAp gLstN (aCons (fAp gList (a1 (fVar 2))) (aCons (fAp gList (a1 (fVar 4))) (aCons (fAp gList (a1 (fVar 6))) aNil)))) (gNm 10))
noncomputable def p9 : SF := (sIf (tBl (fAp gEq (a2 (fAp gMod (a2 (fAp gFdiv (a2 (fVar 3) (fC (.int 42)))) (fC (.int 2)))) (fC (.int 1))))) (sAsg (fAp (callG 3 F_book_of) (aCons (fVar 2) (aCons (fVar 4) (aCons (fVar 6) aNil)))) (gNm 11)) (sAsg (fAp (callG 3 F_book_of) (aCons (fAp gIx (a2 (fVar 10) (fC (.int 0)))) (aCons (fAp gIx (a2 (fVar 10) (fC (.int 1)))) (aCons (fAp gIx (a2 (fVar 10) (fC (.int 2)))) aNil)))) (gNm 11)))
noncomputable def tail : SF := (sSeq (sIf (tOrF (tNotF (tBl (fAp (callG 2 (F__law_alike 8)) (aCons (fVar 11) (aCons (fVar 9) aNil))))) (tBl (fAp gNe (a2 (fVar 10) (fAp gLstN (aCons (fAp gList (a1 (fVar 2))) (aCons (fAp gList (a1 (fVar 4))) (aCons (fAp gList (a1 (fVar 6))) aNil)))))))) (sRet (fC (.bl false))) sNx)
  (sSeq (sDrop (fBM okL gAppend (fAp gIx (a2 (fVar 10) (fC (.int 0)))) (a1 (fAp gTupN (aCons (fC (.int 1)) (aCons (fC (.int 1)) aNil))))))
  (sSeq (sDrop (fBM okL gClear (fAp gIx (a2 (fVar 10) (fC (.int 1)))) aNil))
  (sSeq (sDrop (fBM okL gReverse (fAp gIx (a2 (fVar 10) (fC (.int 2)))) aNil))
  (sRet (fAnd (fAp (callG 2 (F__law_alike 8)) (aCons (fVar 11) (aCons (fVar 9) aNil))) (fAp (callG 2 (F__law_alike 8)) (aCons (fAp (callG 3 F_book_of) (aCons (fAp gIx (a2 (fVar 11) (fC (.int 0)))) (aCons (fAp gIx (a2 (fVar 11) (fC (.int 1)))) (aCons (fAp gIx (a2 (fVar 11) (fC (.int 2)))) aNil)))) (aCons (fVar 9) aNil)))))))))
theorem split : b_law = (sSeq p1 (sSeq p2 (sSeq p3 (sSeq p4 (sSeq p5 (sSeq p6 (sSeq p7 (sSeq p8 (sSeq p9 tail))))))))) := rfl
theorem cell_ok (ns : List Int) (k : Int) (hk : 0 ≤ k) (m : Mem) : ∃ v, F__law_cell_at [.fl (ns.map D.int), .int k] m = some (.int v, m) := by
  have key : Wp (F__law_cell_at [.fl (ns.map D.int), .int k] m) fun r => ∃ v, r = (.int v, m) := by
    unfold F__law_cell_at b__law_cell_at
    simp only [w_runF, w_sSeq, w_sIf, w_tBl, w_tNot, w_tAnd, w_tOr, w_tYes, w_fAnd, w_fOr, w_fNot, w_fChain, w_fAp, w_fBM, a2, a1, a3, w_aCons, w_aNil, w_fC, w_sNx, w_sNo, w_sRet, w_sAsg, w_sDrop, w_sSetI, w_gNm, w_add, w_sub, w_mul, w_fdiv, w_mod, w_pow, w_lt, w_le, w_gt, w_ge, w_bB, w_eqI, w_neI, w_eqS, w_neS, w_isB, w_neg, w_isN, w_isBb, w_isi, w_tupN, w_lstN, w_finI, w_finB, w_finS, w_finN, w_impI, w_impS, w_impB, w_impR, w_var0, w_varS, w_sFor, w_iR1, w_isI, w_some, w_lenS, w_lenT, w_lenF, w_lenL, w_lenR, w_addSS, w_addTT, w_ixStr, w_ixTup, w_ixFl, w_ixLst, w_ixRef, w_slBS, w_slAS, w_slBT, w_slAT, w_slABF, w_tupleT, w_tupleL, w_tupleF, w_tupleR, w_listT, w_listF, w_listL, w_listR, w_iSeq, w_seqT, w_seqF, w_seqS, w_seqR, w_iEn, w_en1, w_sqT, w_iZp, w_fComp, imps_nil, imps_cons, at_1_0, at_2_0, at_2_1, at_3_0, at_3_1, at_3_2, at_4_0, at_4_1, at_4_2, at_4_3, at_5_0, at_5_1, at_5_2, at_5_3, at_5_4, wipeD, startD, List.map, List.replicate, List.length, List.cons_append, List.nil_append, List.set_cons_succ, List.set_cons_zero, Nat.add_sub_cancel, Nat.reduceAdd, Nat.reduceSub, Nat.sub_self, Nat.zero_add]
    refine ⟨fun z => ?_, fun _ => ⟨0, rfl⟩⟩
    have hl := of_decide_eq_true z
    refine Wp.at hk hl fun d hd => ?_
    rw [List.getElem?_map] at hd
    obtain ⟨v, _, rfl⟩ := Option.map_eq_some_iff.mp hd
    simp only [w_runF, w_sSeq, w_sIf, w_tBl, w_tNot, w_tAnd, w_tOr, w_tYes, w_fAnd, w_fOr, w_fNot, w_fChain, w_fAp, w_fBM, a2, a1, a3, w_aCons, w_aNil, w_fC, w_sNx, w_sNo, w_sRet, w_sAsg, w_sDrop, w_sSetI, w_gNm, w_add, w_sub, w_mul, w_fdiv, w_mod, w_pow, w_lt, w_le, w_gt, w_ge, w_bB, w_eqI, w_neI, w_eqS, w_neS, w_isB, w_neg, w_isN, w_isBb, w_isi, w_tupN, w_lstN, w_finI, w_finB, w_finS, w_finN, w_impI, w_impS, w_impB, w_impR, w_var0, w_varS, w_sFor, w_iR1, w_isI, w_some, w_lenS, w_lenT, w_lenF, w_lenL, w_lenR, w_addSS, w_addTT, w_ixStr, w_ixTup, w_ixFl, w_ixLst, w_ixRef, w_slBS, w_slAS, w_slBT, w_slAT, w_slABF, w_tupleT, w_tupleL, w_tupleF, w_tupleR, w_listT, w_listF, w_listL, w_listR, w_iSeq, w_seqT, w_seqF, w_seqS, w_seqR, w_iEn, w_en1, w_sqT, w_iZp, w_fComp, imps_nil, imps_cons, at_1_0, at_2_0, at_2_1, at_3_0, at_3_1, at_3_2, at_4_0, at_4_1, at_4_2, at_4_3, at_5_0, at_5_1, at_5_2, at_5_3, at_5_4, wipeD, startD, List.map, List.replicate, List.length, List.cons_append, List.nil_append, List.set_cons_succ, List.set_cons_zero, Nat.add_sub_cancel, Nat.reduceAdd, Nat.reduceSub, Nat.sub_self, Nat.zero_add]
    exact ⟨v, rfl⟩
  obtain ⟨_, e, v, rfl⟩ := key
  exact ⟨v, e⟩
theorem cutL_map {α β : Type} (f : α → β) (xs : List α) (lo hi : Option Int) : cutL (xs.map f) lo hi = (cutL xs lo hi).map f := by
  unfold cutL
  rw [List.length_map, ← List.map_drop, ← List.map_take]
theorem cut_len (xs : List Int) : (cutL xs (some 9) (some 59)).length ≤ 50 := by
  unfold cutL
  have e1 : HT.sIx xs.length 0 (some (9 : Int)) = min 9 xs.length := HT.sIx_nat _ _ 9
  have e2 : HT.sIx xs.length xs.length (some (59 : Int)) = min 59 xs.length := HT.sIx_nat _ _ 59
  rw [e1, e2]
  simp only [List.length_take, List.length_drop]
  omega
structure Got (vs ts us rs : List D) : Prop where
  v : ∀ v ∈ vs, okV v
  v7 : vs.length = 7
  t0 : 1 ≤ ts.length
  t4 : ts.length ≤ 4
  t : ∀ d ∈ ts, okTab d
  u6 : us.length ≤ 6
  u : ∀ d ∈ us, okRule ts d
  r60 : rs.length ≤ 60
  r : ∀ d ∈ rs, okRow ts d
  nd : rs.Nodup
section
variable {vs ts us rs : List D} (G : Got vs ts us rs)
include G
theorem Got.pt : plains ts = true := plains_iff.mpr fun d hd => nice_plain 1 d (okTab_nice (G.t d hd))
theorem Got.pu : plains us = true := plains_iff.mpr fun d hd => nice_plain 4 d (okRule_nice (G.u d hd))
theorem Got.pr : plains rs = true := plains_iff.mpr fun d hd => nice_plain 2 d (okRow_nice (G.r d hd))
theorem Got.nt : nices 5 ts = true := nices_iff.mpr fun d hd => nice_up 4 d (nice_up 3 d (nice_up 2 d (nice_up 1 d (okTab_nice (G.t d hd)))))
theorem Got.nu : nices 5 us = true := nices_iff.mpr fun d hd => nice_up 4 d (okRule_nice (G.u d hd))
theorem Got.nr : nices 5 rs = true := nices_iff.mpr fun d hd => nice_up 4 d (nice_up 3 d (nice_up 2 d (okRow_nice (G.r d hd))))
abbrev bookD (ts us rs : List D) : D := .tup [.tup ts, .tup us, .tup rs]
theorem Got.nb : nice 7 (bookD ts us rs) = true := by
  show (nices 5 ts && (nices 5 us && (nices 5 rs && true))) = true
  rw [G.nt, G.nu, G.nr]; rfl
theorem Got.alike (m : Mem) : F__law_alike 8 [bookD ts us rs, bookD ts us rs] m = some (.bl true, m) := alike_ok 7 _ m G.nb
theorem Got.book {m : Mem} {T U R : D} (S : SqOf m T ts) (SU : SqOf m U us) (SR : SqOf m R rs) : F_book_of [T, U, R] m = some (bookD ts us rs, m) := book_good S SU SR G.t0 G.t4 G.u6 G.r60 G.t G.u G.r G.nd
end
end G06
set_option Elab.async false
set_option linter.all false
set_option autoImplicit false
set_option maxRecDepth 100000
set_option maxHeartbeats 1000000
namespace G06
open PySem PySem.Spec PyProof.Rows L2 M3
theorem snapL {m : Mem} {ds : List D} {n : Nat} {g : Nat → Option PyData} (h : nices n ds = true) : toPy g (.lst ds) = some (.list (pds ds)) := by
  show (toPys g ds).map PyData.list = _
  rw [nices_py n ds h]; rfl
section
variable {vs ts us rs : List D} (G : Got vs ts us rs)
include G
/-- the memory with what was handed in -/
abbrev M5 (vs ts us rs : List D) : Mem := [.lst vs, .lst ts, .lst us, .lst rs, .lst [.ref 1, .ref 2, .ref 3]]
abbrev pP (ts us rs : List D) : PyData := .list [.list (pds ts), .list (pds us), .list (pds rs)]
theorem snap5 : snap (M5 vs ts us rs) (.ref 4) = some (pP ts us rs) := by
  have e : ∀ (g : Nat → Option PyData), g 1 = some (.list (pds ts)) → g 2 = some (.list (pds us)) → g 3 = some (.list (pds rs)) → toPy g (.lst [.ref 1, .ref 2, .ref 3]) = some (pP ts us rs) := fun g h1 h2 h3 => by
    simp only [toPy, toPys, h1, h2, h3, Option.map_some]
  show toPy (pyR (M5 vs ts us rs) 4) (.lst [.ref 1, .ref 2, .ref 3]) = _
  refine e _ ?_ ?_ ?_
  · show toPy (pyR (M5 vs ts us rs) 3) (.lst ts) = _
    exact snapL (m := []) G.nt
  · show toPy (pyR (M5 vs ts us rs) 3) (.lst us) = _
    exact snapL (m := []) G.nu
  · show toPy (pyR (M5 vs ts us rs) 3) (.lst rs) = _
    exact snapL (m := []) G.nr
theorem snapN {m : Mem} : snap m (.lst [.lst ts, .lst us, .lst rs]) = some (pP ts us rs) := by
  unfold snap
  have h1 := snapL (m := m) (g := pyR m m.length) G.nt
  have h2 := snapL (m := m) (g := pyR m m.length) G.nu
  have h3 := snapL (m := m) (g := pyR m m.length) G.nr
  show (toPys (pyR m m.length) [.lst ts, .lst us, .lst rs]).map PyData.list = _
  simp only [toPys, h1, h2, h3, Option.map_some]
theorem pP_shaped : SeqAt.shaped (pP ts us rs) = true ∧ PyData.eqv (pP ts us rs) (pP ts us rs) = true := by
  have a1 := nices_can 5 ts G.nt
  have a2 := nices_can 5 us G.nu
  have a3 := nices_can 5 rs G.nr
  have hc : (pP ts us rs).canLay0 = true := by
    show (PyData.canLayAll0 (pds ts) && (PyData.canLayAll0 (pds us) && (PyData.canLayAll0 (pds rs) && true))) = true
    rw [a1.1, a2.1, a3.1]; rfl
  refine ⟨?_, SeqAt.eqv_refl _ hc⟩
  unfold SeqAt.shaped
  rw [hc, Bool.true_and, decide_eq_true_eq]
  show max (PyData.depthAll (pds ts) + 1) (max (PyData.depthAll (pds us) + 1) (max (PyData.depthAll (pds rs) + 1) 0)) + 1 ≤ 64
  omega
theorem ne5 {Q : D × Mem → Prop} (q : Q (.bl false, M5 vs ts us rs)) : Wp (gNe (M5 vs ts us rs) [.ref 4, .lst [.lst ts, .lst us, .lst rs]]) Q := by
  refine (w_or2 rfl).mpr ?_
  obtain ⟨h1, h2⟩ := pP_shaped G
  show Wp (match snap (M5 vs ts us rs) (.ref 4), snap (M5 vs ts us rs) (.lst [.lst ts, .lst us, .lst rs]) with
    | some p, some q => if SeqAt.shaped p = true ∧ SeqAt.shaped q = true then some (D.bl (if true then !PyData.eqv p q else PyData.eqv p q), M5 vs ts us rs) else none
    | _, _ => none) Q
  rw [snap5 G, snapN G]
  simp only [h1, and_self, if_true, h2]
  exact w_some.mpr q
theorem Got.ib (m : Mem) : imp (bookD ts us rs) m = (bookD ts us rs, m) := imp_plain (nice_plain 7 _ G.nb)
theorem Got.il : imp (.lst [.lst ts, .lst us, .lst rs]) [.lst vs] = (.ref 4, M5 vs ts us rs) := by
  have e1 : ∀ m, imp (.lst ts) m = (.ref m.length, m ++ [.lst ts]) := fun m => imp_lst (plains_settled _ G.pt)
  have e2 : ∀ m, imp (.lst us) m = (.ref m.length, m ++ [.lst us]) := fun m => imp_lst (plains_settled _ G.pu)
  have e3 : ∀ m, imp (.lst rs) m = (.ref m.length, m ++ [.lst rs]) := fun m => imp_lst (plains_settled _ G.pr)
  show (D.ref (imps [.lst ts, .lst us, .lst rs] [.lst vs]).2.length, (imps [.lst ts, .lst us, .lst rs] [.lst vs]).2 ++ [.lst (imps [.lst ts, .lst us, .lst rs] [.lst vs]).1]) = _
  simp only [imps_cons, imps_nil, e1, e2, e3]
  rfl
theorem Got.al (m : Mem) : Wp (callG 2 (F__law_alike 8) m [bookD ts us rs, bookD ts us rs]) fun r => r = (.bl true, m) := by
  have bs : M3.settled (bookD ts us rs) = true := plain_settled _ (nice_plain 7 _ G.nb)
  exact Wp.call (by rfl) (by show (M3.settled (bookD ts us rs) && (M3.settled (bookD ts us rs) && true)) = true; rw [bs]; rfl) (G.alike m) rfl
theorem Got.bk {m : Mem} {T U R : D} (S : SqOf m T ts) (SU : SqOf m U us) (SR : SqOf m R rs) {Q : D × Mem → Prop} (q : Q (bookD ts us rs, m)) : Wp (callG 3 F_book_of m [T, U, R]) Q :=
  Wp.call (by rfl) (by show (M3.settled T && (M3.settled U && (M3.settled R && true))) = true; rw [S.settled, SU.settled, SR.settled]; rfl) (G.book S SU SR) q
theorem mid_ok {l : M3.Loc} {h : Int} {Q : Fl → Prop} (h3 : l[3]? = some (some (.int h))) (h2 : l[2]? = some (some (.tup ts))) (h4 : l[4]? = some (some (.tup us))) (h6 : l[6]? = some (some (.tup rs))) (h10 : l[10]? = some (some (.ref 4)))
    (q : Q (.nx (l.set 11 (some (bookD ts us rs))) (M5 vs ts us rs))) : Wp (p9 l (M5 vs ts us rs)) Q := by
  unfold p9
  simp only [w_sIf, w_tBl, w_fAp, a2, a1, w_aCons, w_aNil, w_fC, w_sAsg, w_fVar h3, w_fVar h2, w_fVar h4, w_fVar h6, w_fVar h10, w_fdiv, w_mod, w_eqI, w_isB, w_gNm]
  refine ⟨div_small (by decide) (by decide), by decide, fun _ => ?_, fun _ => ?_⟩
  · refine G.bk (.tup G.pt) (.tup G.pu) (.tup G.pr) ?_
    rw [G.ib]
    exact q
  · simp only [w_ixRef, sq_ref (show (M5 vs ts us rs)[4]? = some (.lst [.ref 1, .ref 2, .ref 3]) from rfl), w_some, at_3_0, at_3_1, at_3_2]
    refine G.bk (.ref G.pt rfl) (.ref G.pu rfl) (.ref G.pr rfl) ?_
    rw [G.ib]
    exact q
theorem tail_ok {l : M3.Loc} {Q : Fl → Prop} (h2 : l[2]? = some (some (.tup ts))) (h4 : l[4]? = some (some (.tup us))) (h6 : l[6]? = some (some (.tup rs))) (h9 : l[9]? = some (some (bookD ts us rs))) (h10 : l[10]? = some (some (.ref 4))) (h11 : l[11]? = some (some (bookD ts us rs)))
    (q : ∀ m', Q (.rt (.bl true) m')) : Wp (tail l (M5 vs ts us rs)) Q := by
  unfold tail
  simp only [w_sSeq, w_sIf, w_tOr, w_tNot, w_tBl, w_fAp, a2, a1, w_aCons, w_aNil, w_fC, w_sAsg, w_sRet, w_sNx, w_sDrop, w_fBM, w_fAnd, w_fVar h2, w_fVar h4, w_fVar h6, w_fVar h9, w_fVar h10, w_fVar h11, w_listT, w_lstN, w_tupN]
  refine (G.al _).mono fun r hr => ?_
  rw [hr]
  simp only [w_isB]
  refine ⟨fun z => (by cases z), fun _ => ⟨by show 3 ≤ 1000; decide, ne5 G ?_⟩⟩
  simp only [w_isB]
  refine ⟨fun z => (by cases z), fun _ => ?_⟩
  simp only [w_ixRef, sq_ref (show (M5 vs ts us rs)[4]? = some (.lst [.ref 1, .ref 2, .ref 3]) from rfl), w_some, at_3_0]
  refine ⟨rfl, by show 2 ≤ 1000; decide, Wp.append (k := 1) (xs := ts) rfl rfl (by have := G.t4; omega) ?_⟩
  generalize D.tup [.int 1, .int 1] = e
  have e1 : ((M5 vs ts us rs).set 1 (.lst (ts ++ [e])))[4]? = some (.lst [.ref 1, .ref 2, .ref 3]) := rfl
  simp only [w_ixRef, sq_ref e1, w_some, at_3_1]
  refine ⟨rfl, Wp.clear (k := 2) (xs := us) rfl ?_⟩
  have e2 : (((M5 vs ts us rs).set 1 (.lst (ts ++ [e]))).set 2 (.lst []))[4]? = some (.lst [.ref 1, .ref 2, .ref 3]) := rfl
  simp only [w_ixRef, sq_ref e2, w_some, at_3_2]
  refine ⟨rfl, Wp.reverse (k := 3) (xs := rs) rfl ?_⟩
  refine (G.al _).mono fun r hr => ?_
  rw [hr]
  simp only [w_isB]
  refine ⟨fun _ => ?_, fun z => (by cases z)⟩
  simp only [w_ixTup, at_3_0, at_3_1, at_3_2, w_some]
  refine G.bk (.tup G.pt) (.tup G.pu) (.tup G.pr) ?_
  refine (G.al _).mono fun r hr => ?_
  rw [hr]
  exact q _
end
end G06
set_option Elab.async false
set_option linter.all false
set_option autoImplicit false
set_option maxRecDepth 100000
set_option maxHeartbeats 1000000
namespace G06
open PySem PySem.Spec PyProof.Rows L2 M3
theorem okVs_plain {vs : List D} (h : ∀ v ∈ vs, okV v) : plains vs = true := plains_iff.mpr fun v hv => nice_plain 0 v (okV_nice (h v hv))
theorem p6_ok {F vs ts us rs : List D} {h : Int} {Q : Fl → Prop} (G : Got vs ts us rs)
    (q : ∀ rs v7, Got vs ts us rs → Q (.nx [some (.fl F), some (.ref 0), some (.tup ts), some (.int h), some (.tup us), none, some (.tup rs), v7, none, none, none, none] [.lst vs])) :
    Wp (p6 [some (.fl F), some (.ref 0), some (.tup ts), some (.int h), some (.tup us), none, some (.tup rs), none, none, none, none, none] [.lst vs]) Q := by
  unfold p6
  simp only [w_runF, w_sSeq, w_sIf, w_tBl, w_tNot, w_tAnd, w_tOr, w_tYes, w_fAnd, w_fOr, w_fNot, w_fChain, w_fAp, w_fBM, a2, a1, a3, w_aCons, w_aNil, w_fC, w_sNx, w_sNo, w_sRet, w_sAsg, w_sDrop, w_sSetI, w_gNm, w_add, w_sub, w_mul, w_fdiv, w_mod, w_pow, w_lt, w_le, w_gt, w_ge, w_bB, w_eqI, w_neI, w_eqS, w_neS, w_isB, w_neg, w_isN, w_isBb, w_isi, w_tupN, w_lstN, w_finI, w_finB, w_finS, w_finN, w_impI, w_impS, w_impB, w_impR, w_var0, w_varS, w_sFor, w_iR1, w_isI, w_some, w_lenS, w_lenT, w_lenF, w_lenL, w_lenR, w_addSS, w_addTT, w_ixStr, w_ixTup, w_ixFl, w_ixLst, w_ixRef, w_slBS, w_slAS, w_slBT, w_slAT, w_slABF, w_tupleT, w_tupleL, w_tupleF, w_tupleR, w_listT, w_listF, w_listL, w_listR, w_iSeq, w_seqT, w_seqF, w_seqS, w_seqR, w_iEn, w_en1, w_sqT, w_iZp, w_fComp, imps_nil, imps_cons, at_1_0, at_2_0, at_2_1, at_3_0, at_3_1, at_3_2, at_4_0, at_4_1, at_4_2, at_4_3, at_5_0, at_5_1, at_5_2, at_5_3, at_5_4, wipeD, startD, List.map, List.replicate, List.length, List.cons_append, List.nil_append, List.set_cons_succ, List.set_cons_zero, Nat.add_sub_cancel, Nat.reduceAdd, Nat.reduceSub, Nat.sub_self, Nat.zero_add]
  refine ⟨div_small (by decide) (by decide), by decide, fun _ => ?_, fun _ => q rs none G⟩
  have t0 : 0 < ts.length := by have := G.t0; omega
  refine Wp.at (by decide) (by omega) fun tab htab => ?_
  have htab : ts[0]? = some tab := htab
  obtain ⟨w, kk, rfl, w1, w4, _, _⟩ := G.t tab (List.mem_of_getElem? htab)
  simp only [w_runF, w_sSeq, w_sIf, w_tBl, w_tNot, w_tAnd, w_tOr, w_tYes, w_fAnd, w_fOr, w_fNot, w_fChain, w_fAp, w_fBM, a2, a1, a3, w_aCons, w_aNil, w_fC, w_sNx, w_sNo, w_sRet, w_sAsg, w_sDrop, w_sSetI, w_gNm, w_add, w_sub, w_mul, w_fdiv, w_mod, w_pow, w_lt, w_le, w_gt, w_ge, w_bB, w_eqI, w_neI, w_eqS, w_neS, w_isB, w_neg, w_isN, w_isBb, w_isi, w_tupN, w_lstN, w_finI, w_finB, w_finS, w_finN, w_impI, w_impS, w_impB, w_impR, w_var0, w_varS, w_sFor, w_iR1, w_isI, w_some, w_lenS, w_lenT, w_lenF, w_lenL, w_lenR, w_addSS, w_addTT, w_ixStr, w_ixTup, w_ixFl, w_ixLst, w_ixRef, w_slBS, w_slAS, w_slBT, w_slAT, w_slABF, w_tupleT, w_tupleL, w_tupleF, w_tupleR, w_listT, w_listF, w_listL, w_listR, w_iSeq, w_seqT, w_seqF, w_seqS, w_seqR, w_iEn, w_en1, w_sqT, w_iZp, w_fComp, imps_nil, imps_cons, at_1_0, at_2_0, at_2_1, at_3_0, at_3_1, at_3_2, at_4_0, at_4_1, at_4_2, at_4_3, at_5_0, at_5_1, at_5_2, at_5_3, at_5_4, wipeD, startD, List.map, List.replicate, List.length, List.cons_append, List.nil_append, List.set_cons_succ, List.set_cons_zero, Nat.add_sub_cancel, Nat.reduceAdd, Nat.reduceSub, Nat.sub_self, Nat.zero_add]
  refine ⟨rOk_small (by omega), by omega, ?_⟩
  refine Wp.map (fun _ y => okV y) (fun i d hd => ?_) fun more hml hm => ?_
  · obtain ⟨hi, rfl⟩ := rngD_get hd
    simp only [w_runF, w_sSeq, w_sIf, w_tBl, w_tNot, w_tAnd, w_tOr, w_tYes, w_fAnd, w_fOr, w_fNot, w_fChain, w_fAp, w_fBM, a2, a1, a3, w_aCons, w_aNil, w_fC, w_sNx, w_sNo, w_sRet, w_sAsg, w_sDrop, w_sSetI, w_gNm, w_add, w_sub, w_mul, w_fdiv, w_mod, w_pow, w_lt, w_le, w_gt, w_ge, w_bB, w_eqI, w_neI, w_eqS, w_neS, w_isB, w_neg, w_isN, w_isBb, w_isi, w_tupN, w_lstN, w_finI, w_finB, w_finS, w_finN, w_impI, w_impS, w_impB, w_impR, w_var0, w_varS, w_sFor, w_iR1, w_isI, w_some, w_lenS, w_lenT, w_lenF, w_lenL, w_lenR, w_addSS, w_addTT, w_ixStr, w_ixTup, w_ixFl, w_ixLst, w_ixRef, w_slBS, w_slAS, w_slBT, w_slAT, w_slABF, w_tupleT, w_tupleL, w_tupleF, w_tupleR, w_listT, w_listF, w_listL, w_listR, w_iSeq, w_seqT, w_seqF, w_seqS, w_seqR, w_iEn, w_en1, w_sqT, w_iZp, w_fComp, imps_nil, imps_cons, at_1_0, at_2_0, at_2_1, at_3_0, at_3_1, at_3_2, at_4_0, at_4_1, at_4_2, at_4_3, at_5_0, at_5_1, at_5_2, at_5_3, at_5_4, wipeD, startD, List.map, List.replicate, List.length, List.cons_append, List.nil_append, List.set_cons_succ, List.set_cons_zero, Nat.add_sub_cancel, Nat.reduceAdd, Nat.reduceSub, Nat.sub_self, Nat.zero_add]
    have e1 : sq [D.lst vs] (.ref 0) = some vs := rfl
    simp only [e1, w_runF, w_sSeq, w_sIf, w_tBl, w_tNot, w_tAnd, w_tOr, w_tYes, w_fAnd, w_fOr, w_fNot, w_fChain, w_fAp, w_fBM, a2, a1, a3, w_aCons, w_aNil, w_fC, w_sNx, w_sNo, w_sRet, w_sAsg, w_sDrop, w_sSetI, w_gNm, w_add, w_sub, w_mul, w_fdiv, w_mod, w_pow, w_lt, w_le, w_gt, w_ge, w_bB, w_eqI, w_neI, w_eqS, w_neS, w_isB, w_neg, w_isN, w_isBb, w_isi, w_tupN, w_lstN, w_finI, w_finB, w_finS, w_finN, w_impI, w_impS, w_impB, w_impR, w_var0, w_varS, w_sFor, w_iR1, w_isI, w_some, w_lenS, w_lenT, w_lenF, w_lenL, w_lenR, w_addSS, w_addTT, w_ixStr, w_ixTup, w_ixFl, w_ixLst, w_ixRef, w_slBS, w_slAS, w_slBT, w_slAT, w_slABF, w_tupleT, w_tupleL, w_tupleF, w_tupleR, w_listT, w_listF, w_listL, w_listR, w_iSeq, w_seqT, w_seqF, w_seqS, w_seqR, w_iEn, w_en1, w_sqT, w_iZp, w_fComp, imps_nil, imps_cons, at_1_0, at_2_0, at_2_1, at_3_0, at_3_1, at_3_2, at_4_0, at_4_1, at_4_2, at_4_3, at_5_0, at_5_1, at_5_2, at_5_3, at_5_4, wipeD, startD, List.map, List.replicate, List.length, List.cons_append, List.nil_append, List.set_cons_succ, List.set_cons_zero, Nat.add_sub_cancel, Nat.reduceAdd, Nat.reduceSub, Nat.sub_self, Nat.zero_add]
    have b : ∀ z : Int, 0 ≤ z % 7 ∧ z % 7 < 7 := fun z => ⟨Int.emod_nonneg _ (by decide), Int.emod_lt_of_pos _ (by decide)⟩
    refine ⟨trivial, div_small (by decide) (by decide), by decide, Wp.at (b _).1 (by rw [G.v7]; exact (b _).2) fun v hv => ⟨trivial, G.v v (List.mem_of_getElem? hv)⟩⟩
  · rw [rngD_length] at hml
    have hm2 : ∀ y ∈ more, okV y := fun y hy => by
      obtain ⟨i, hi⟩ := List.mem_iff_getElem?.mp hy
      exact hm i y hi
    have pm : plain (.tup more) = true := okVs_plain hm2
    simp only [w_runF, w_sSeq, w_sIf, w_tBl, w_tNot, w_tAnd, w_tOr, w_tYes, w_fAnd, w_fOr, w_fNot, w_fChain, w_fAp, w_fBM, a2, a1, a3, w_aCons, w_aNil, w_fC, w_sNx, w_sNo, w_sRet, w_sAsg, w_sDrop, w_sSetI, w_gNm, w_add, w_sub, w_mul, w_fdiv, w_mod, w_pow, w_lt, w_le, w_gt, w_ge, w_bB, w_eqI, w_neI, w_eqS, w_neS, w_isB, w_neg, w_isN, w_isBb, w_isi, w_tupN, w_lstN, w_finI, w_finB, w_finS, w_finN, w_impI, w_impS, w_impB, w_impR, w_var0, w_varS, w_sFor, w_iR1, w_isI, w_some, w_lenS, w_lenT, w_lenF, w_lenL, w_lenR, w_addSS, w_addTT, w_ixStr, w_ixTup, w_ixFl, w_ixLst, w_ixRef, w_slBS, w_slAS, w_slBT, w_slAT, w_slABF, w_tupleT, w_tupleL, w_tupleF, w_tupleR, w_listT, w_listF, w_listL, w_listR, w_iSeq, w_seqT, w_seqF, w_seqS, w_seqR, w_iEn, w_en1, w_sqT, w_iZp, w_fComp, imps_nil, imps_cons, at_1_0, at_2_0, at_2_1, at_3_0, at_3_1, at_3_2, at_4_0, at_4_1, at_4_2, at_4_3, at_5_0, at_5_1, at_5_2, at_5_3, at_5_4, wipeD, startD, List.map, List.replicate, List.length, List.cons_append, List.nil_append, List.set_cons_succ, List.set_cons_zero, Nat.add_sub_cancel, Nat.reduceAdd, Nat.reduceSub, Nat.sub_self, Nat.zero_add, imp_plain pm]
    refine ⟨rOk_small (by decide), by decide, ?_⟩
    refine Wp.map (fun i y => y = .tup [.int 0, .tup (.int ((i : Int) - 30) :: more)]) (fun i d hd => ?_) fun ys hyl hy => ?_
    · obtain ⟨hi, rfl⟩ := rngD_get hd
      simp only [w_runF, w_sSeq, w_sIf, w_tBl, w_tNot, w_tAnd, w_tOr, w_tYes, w_fAnd, w_fOr, w_fNot, w_fChain, w_fAp, w_fBM, a2, a1, a3, w_aCons, w_aNil, w_fC, w_sNx, w_sNo, w_sRet, w_sAsg, w_sDrop, w_sSetI, w_gNm, w_add, w_sub, w_mul, w_fdiv, w_mod, w_pow, w_lt, w_le, w_gt, w_ge, w_bB, w_eqI, w_neI, w_eqS, w_neS, w_isB, w_neg, w_isN, w_isBb, w_isi, w_tupN, w_lstN, w_finI, w_finB, w_finS, w_finN, w_impI, w_impS, w_impB, w_impR, w_var0, w_varS, w_sFor, w_iR1, w_isI, w_some, w_lenS, w_lenT, w_lenF, w_lenL, w_lenR, w_addSS, w_addTT, w_ixStr, w_ixTup, w_ixFl, w_ixLst, w_ixRef, w_slBS, w_slAS, w_slBT, w_slAT, w_slABF, w_tupleT, w_tupleL, w_tupleF, w_tupleR, w_listT, w_listF, w_listL, w_listR, w_iSeq, w_seqT, w_seqF, w_seqS, w_seqR, w_iEn, w_en1, w_sqT, w_iZp, w_fComp, imps_nil, imps_cons, at_1_0, at_2_0, at_2_1, at_3_0, at_3_1, at_3_2, at_4_0, at_4_1, at_4_2, at_4_3, at_5_0, at_5_1, at_5_2, at_5_3, at_5_4, wipeD, startD, List.map, List.replicate, List.length, List.cons_append, List.nil_append, List.set_cons_succ, List.set_cons_zero, Nat.add_sub_cancel, Nat.reduceAdd, Nat.reduceSub, Nat.sub_self, Nat.zero_add]
      refine ⟨trivial, by show 1 ≤ 1000; decide, by show 1 + more.length ≤ 16777216; omega, by show 2 ≤ 1000; decide, trivial, ?_⟩
      rw [Int.zero_add]
    · rw [rngD_length] at hyl
      have hl : ys.length = 60 := hyl
      have okr : ∀ d ∈ ys, okRow ts d := fun d hd => by
        obtain ⟨i, hi⟩ := List.mem_iff_getElem?.mp hd
        have hi60 : i < 60 := by have := (List.getElem?_eq_some_iff.mp hi).1; omega
        rw [hy i d hi]
        refine ⟨0, _, w, kk, rfl, htab, by simp only [List.length_cons, hml]; omega, fun v hv => ?_⟩
        rcases List.mem_cons.mp hv with rfl | hv
        · exact ⟨by omega, by omega⟩
        · exact hm2 v hv
      have nd : ys.Nodup := by
        refine List.pairwise_iff_getElem.mpr fun i j hi hj hij e => ?_
        have h1 := hy i ys[i] (List.getElem?_eq_getElem hi)
        have h2 := hy j ys[j] (List.getElem?_eq_getElem hj)
        rw [e, h2] at h1
        injection h1 with h1
        injection h1 with _ h1
        injection h1 with h1 _
        injection h1 with h1
        injection h1 with h1 _
        injection h1 with h1
        omega
      have G2 : Got vs ts us ys := ⟨G.v, G.v7, G.t0, G.t4, G.t, G.u6, G.u, by omega, okr, nd⟩
      have py : plain (.tup ys) = true := G2.pr
      simp only [w_runF, w_sSeq, w_sIf, w_tBl, w_tNot, w_tAnd, w_tOr, w_tYes, w_fAnd, w_fOr, w_fNot, w_fChain, w_fAp, w_fBM, a2, a1, a3, w_aCons, w_aNil, w_fC, w_sNx, w_sNo, w_sRet, w_sAsg, w_sDrop, w_sSetI, w_gNm, w_add, w_sub, w_mul, w_fdiv, w_mod, w_pow, w_lt, w_le, w_gt, w_ge, w_bB, w_eqI, w_neI, w_eqS, w_neS, w_isB, w_neg, w_isN, w_isBb, w_isi, w_tupN, w_lstN, w_finI, w_finB, w_finS, w_finN, w_impI, w_impS, w_impB, w_impR, w_var0, w_varS, w_sFor, w_iR1, w_isI, w_some, w_lenS, w_lenT, w_lenF, w_lenL, w_lenR, w_addSS, w_addTT, w_ixStr, w_ixTup, w_ixFl, w_ixLst, w_ixRef, w_slBS, w_slAS, w_slBT, w_slAT, w_slABF, w_tupleT, w_tupleL, w_tupleF, w_tupleR, w_listT, w_listF, w_listL, w_listR, w_iSeq, w_seqT, w_seqF, w_seqS, w_seqR, w_iEn, w_en1, w_sqT, w_iZp, w_fComp, imps_nil, imps_cons, at_1_0, at_2_0, at_2_1, at_3_0, at_3_1, at_3_2, at_4_0, at_4_1, at_4_2, at_4_3, at_5_0, at_5_1, at_5_2, at_5_3, at_5_4, wipeD, startD, List.map, List.replicate, List.length, List.cons_append, List.nil_append, List.set_cons_succ, List.set_cons_zero, Nat.add_sub_cancel, Nat.reduceAdd, Nat.reduceSub, Nat.sub_self, Nat.zero_add, imp_plain py]
      exact q ys (some (.tup more)) G2
theorem law_true (ns : List Int) (hn : ns.length ≤ 63) : ∃ m, F_law [.fl (ns.map D.int)] [] = some (.bl true, m) := by
  have key : Wp (F_law [.fl (ns.map D.int)] []) fun r => ∃ m, r = (.bl true, m) := by
    unfold F_law
    rw [w_runF, split]
    simp only [w_sSeq, startD, List.map, List.replicate, List.length, List.cons_append, List.nil_append, Nat.reduceAdd, Nat.reduceSub]
    -- the pool
    unfold p1
    simp only [w_runF, w_sSeq, w_sIf, w_tBl, w_tNot, w_tAnd, w_tOr, w_tYes, w_fAnd, w_fOr, w_fNot, w_fChain, w_fAp, w_fBM, a2, a1, a3, w_aCons, w_aNil, w_fC, w_sNx, w_sNo, w_sRet, w_sAsg, w_sDrop, w_sSetI, w_gNm, w_add, w_sub, w_mul, w_fdiv, w_mod, w_pow, w_lt, w_le, w_gt, w_ge, w_bB, w_eqI, w_neI, w_eqS, w_neS, w_isB, w_neg, w_isN, w_isBb, w_isi, w_tupN, w_lstN, w_finI, w_finB, w_finS, w_finN, w_impI, w_impS, w_impB, w_impR, w_var0, w_varS, w_sFor, w_iR1, w_isI, w_some, w_lenS, w_lenT, w_lenF, w_lenL, w_lenR, w_addSS, w_addTT, w_ixStr, w_ixTup, w_ixFl, w_ixLst, w_ixRef, w_slBS, w_slAS, w_slBT, w_slAT, w_slABF, w_tupleT, w_tupleL, w_tupleF, w_tupleR, w_listT, w_listF, w_listL, w_listR, w_iSeq, w_seqT, w_seqF, w_seqS, w_seqR, w_iEn, w_en1, w_sqT, w_iZp, w_fComp, imps_nil, imps_cons, at_1_0, at_2_0, at_2_1, at_3_0, at_3_1, at_3_2, at_4_0, at_4_1, at_4_2, at_4_3, at_5_0, at_5_1, at_5_2, at_5_3, at_5_4, wipeD, startD, List.map, List.replicate, List.length, List.cons_append, List.nil_append, List.set_cons_succ, List.set_cons_zero, Nat.add_sub_cancel, Nat.reduceAdd, Nat.reduceSub, Nat.sub_self, Nat.zero_add]
    obtain ⟨c0, f0⟩ := cell_ok ns 0 (by decide) []
    refine Wp.call (by rfl) (by rfl) f0 ?_
    obtain ⟨vs, v7, hv, f1⟩ := pool_ok c0 []
    refine Wp.call (by rfl) (by rfl) f1 ?_
    have pv := plains_settled _ (okVs_plain hv)
    simp only [w_runF, w_sSeq, w_sIf, w_tBl, w_tNot, w_tAnd, w_tOr, w_tYes, w_fAnd, w_fOr, w_fNot, w_fChain, w_fAp, w_fBM, a2, a1, a3, w_aCons, w_aNil, w_fC, w_sNx, w_sNo, w_sRet, w_sAsg, w_sDrop, w_sSetI, w_gNm, w_add, w_sub, w_mul, w_fdiv, w_mod, w_pow, w_lt, w_le, w_gt, w_ge, w_bB, w_eqI, w_neI, w_eqS, w_neS, w_isB, w_neg, w_isN, w_isBb, w_isi, w_tupN, w_lstN, w_finI, w_finB, w_finS, w_finN, w_impI, w_impS, w_impB, w_impR, w_var0, w_varS, w_sFor, w_iR1, w_isI, w_some, w_lenS, w_lenT, w_lenF, w_lenL, w_lenR, w_addSS, w_addTT, w_ixStr, w_ixTup, w_ixFl, w_ixLst, w_ixRef, w_slBS, w_slAS, w_slBT, w_slAT, w_slABF, w_tupleT, w_tupleL, w_tupleF, w_tupleR, w_listT, w_listF, w_listL, w_listR, w_iSeq, w_seqT, w_seqF, w_seqS, w_seqR, w_iEn, w_en1, w_sqT, w_iZp, w_fComp, imps_nil, imps_cons, at_1_0, at_2_0, at_2_1, at_3_0, at_3_1, at_3_2, at_4_0, at_4_1, at_4_2, at_4_3, at_5_0, at_5_1, at_5_2, at_5_3, at_5_4, wipeD, startD, List.map, List.replicate, List.length, List.cons_append, List.nil_append, List.set_cons_succ, List.set_cons_zero, Nat.add_sub_cancel, Nat.reduceAdd, Nat.reduceSub, Nat.sub_self, Nat.zero_add, imp_lst pv]
    -- the tables
    unfold p2
    simp only [w_runF, w_sSeq, w_sIf, w_tBl, w_tNot, w_tAnd, w_tOr, w_tYes, w_fAnd, w_fOr, w_fNot, w_fChain, w_fAp, w_fBM, a2, a1, a3, w_aCons, w_aNil, w_fC, w_sNx, w_sNo, w_sRet, w_sAsg, w_sDrop, w_sSetI, w_gNm, w_add, w_sub, w_mul, w_fdiv, w_mod, w_pow, w_lt, w_le, w_gt, w_ge, w_bB, w_eqI, w_neI, w_eqS, w_neS, w_isB, w_neg, w_isN, w_isBb, w_isi, w_tupN, w_lstN, w_finI, w_finB, w_finS, w_finN, w_impI, w_impS, w_impB, w_impR, w_var0, w_varS, w_sFor, w_iR1, w_isI, w_some, w_lenS, w_lenT, w_lenF, w_lenL, w_lenR, w_addSS, w_addTT, w_ixStr, w_ixTup, w_ixFl, w_ixLst, w_ixRef, w_slBS, w_slAS, w_slBT, w_slAT, w_slABF, w_tupleT, w_tupleL, w_tupleF, w_tupleR, w_listT, w_listF, w_listL, w_listR, w_iSeq, w_seqT, w_seqF, w_seqS, w_seqR, w_iEn, w_en1, w_sqT, w_iZp, w_fComp, imps_nil, imps_cons, at_1_0, at_2_0, at_2_1, at_3_0, at_3_1, at_3_2, at_4_0, at_4_1, at_4_2, at_4_3, at_5_0, at_5_1, at_5_2, at_5_3, at_5_4, wipeD, startD, List.map, List.replicate, List.length, List.cons_append, List.nil_append, List.set_cons_succ, List.set_cons_zero, Nat.add_sub_cancel, Nat.reduceAdd, Nat.reduceSub, Nat.sub_self, Nat.zero_add]
    obtain ⟨c1, f2⟩ := cell_ok ns 1 (by decide) [.lst vs]
    refine Wp.call (by rfl) (by rfl) f2 ?_
    obtain ⟨ts, t0, t4, ht, f3⟩ := tables_ok c1 [.lst vs]
    refine Wp.call (by rfl) (by rfl) f3 ?_
    have pt : plain (.tup ts) = true := plains_iff.mpr fun d hd => nice_plain 1 d (okTab_nice (ht d hd))
    have pts : settleds ts = true := plains_settled _ pt
    simp only [w_runF, w_sSeq, w_sIf, w_tBl, w_tNot, w_tAnd, w_tOr, w_tYes, w_fAnd, w_fOr, w_fNot, w_fChain, w_fAp, w_fBM, a2, a1, a3, w_aCons, w_aNil, w_fC, w_sNx, w_sNo, w_sRet, w_sAsg, w_sDrop, w_sSetI, w_gNm, w_add, w_sub, w_mul, w_fdiv, w_mod, w_pow, w_lt, w_le, w_gt, w_ge, w_bB, w_eqI, w_neI, w_eqS, w_neS, w_isB, w_neg, w_isN, w_isBb, w_isi, w_tupN, w_lstN, w_finI, w_finB, w_finS, w_finN, w_impI, w_impS, w_impB, w_impR, w_var0, w_varS, w_sFor, w_iR1, w_isI, w_some, w_lenS, w_lenT, w_lenF, w_lenL, w_lenR, w_addSS, w_addTT, w_ixStr, w_ixTup, w_ixFl, w_ixLst, w_ixRef, w_slBS, w_slAS, w_slBT, w_slAT, w_slABF, w_tupleT, w_tupleL, w_tupleF, w_tupleR, w_listT, w_listF, w_listL, w_listR, w_iSeq, w_seqT, w_seqF, w_seqS, w_seqR, w_iEn, w_en1, w_sqT, w_iZp, w_fComp, imps_nil, imps_cons, at_1_0, at_2_0, at_2_1, at_3_0, at_3_1, at_3_2, at_4_0, at_4_1, at_4_2, at_4_3, at_5_0, at_5_1, at_5_2, at_5_3, at_5_4, wipeD, startD, List.map, List.replicate, List.length, List.cons_append, List.nil_append, List.set_cons_succ, List.set_cons_zero, Nat.add_sub_cancel, Nat.reduceAdd, Nat.reduceSub, Nat.sub_self, Nat.zero_add, imp_plain pt]
    -- the head
    unfold p3
    simp only [w_runF, w_sSeq, w_sIf, w_tBl, w_tNot, w_tAnd, w_tOr, w_tYes, w_fAnd, w_fOr, w_fNot, w_fChain, w_fAp, w_fBM, a2, a1, a3, w_aCons, w_aNil, w_fC, w_sNx, w_sNo, w_sRet, w_sAsg, w_sDrop, w_sSetI, w_gNm, w_add, w_sub, w_mul, w_fdiv, w_mod, w_pow, w_lt, w_le, w_gt, w_ge, w_bB, w_eqI, w_neI, w_eqS, w_neS, w_isB, w_neg, w_isN, w_isBb, w_isi, w_tupN, w_lstN, w_finI, w_finB, w_finS, w_finN, w_impI, w_impS, w_impB, w_impR, w_var0, w_varS, w_sFor, w_iR1, w_isI, w_some, w_lenS, w_lenT, w_lenF, w_lenL, w_lenR, w_addSS, w_addTT, w_ixStr, w_ixTup, w_ixFl, w_ixLst, w_ixRef, w_slBS, w_slAS, w_slBT, w_slAT, w_slABF, w_tupleT, w_tupleL, w_tupleF, w_tupleR, w_listT, w_listF, w_listL, w_listR, w_iSeq, w_seqT, w_seqF, w_seqS, w_seqR, w_iEn, w_en1, w_sqT, w_iZp, w_fComp, imps_nil, imps_cons, at_1_0, at_2_0, at_2_1, at_3_0, at_3_1, at_3_2, at_4_0, at_4_1, at_4_2, at_4_3, at_5_0, at_5_1, at_5_2, at_5_3, at_5_4, wipeD, startD, List.map, List.replicate, List.length, List.cons_append, List.nil_append, List.set_cons_succ, List.set_cons_zero, Nat.add_sub_cancel, Nat.reduceAdd, Nat.reduceSub, Nat.sub_self, Nat.zero_add]
    obtain ⟨h, f4⟩ := cell_ok ns 2 (by decide) [.lst vs]
    refine Wp.call (by rfl) (by rfl) f4 ?_
    simp only [w_runF, w_sSeq, w_sIf, w_tBl, w_tNot, w_tAnd, w_tOr, w_tYes, w_fAnd, w_fOr, w_fNot, w_fChain, w_fAp, w_fBM, a2, a1, a3, w_aCons, w_aNil, w_fC, w_sNx, w_sNo, w_sRet, w_sAsg, w_sDrop, w_sSetI, w_gNm, w_add, w_sub, w_mul, w_fdiv, w_mod, w_pow, w_lt, w_le, w_gt, w_ge, w_bB, w_eqI, w_neI, w_eqS, w_neS, w_isB, w_neg, w_isN, w_isBb, w_isi, w_tupN, w_lstN, w_finI, w_finB, w_finS, w_finN, w_impI, w_impS, w_impB, w_impR, w_var0, w_varS, w_sFor, w_iR1, w_isI, w_some, w_lenS, w_lenT, w_lenF, w_lenL, w_lenR, w_addSS, w_addTT, w_ixStr, w_ixTup, w_ixFl, w_ixLst, w_ixRef, w_slBS, w_slAS, w_slBT, w_slAT, w_slABF, w_tupleT, w_tupleL, w_tupleF, w_tupleR, w_listT, w_listF, w_listL, w_listR, w_iSeq, w_seqT, w_seqF, w_seqS, w_seqR, w_iEn, w_en1, w_sqT, w_iZp, w_fComp, imps_nil, imps_cons, at_1_0, at_2_0, at_2_1, at_3_0, at_3_1, at_3_2, at_4_0, at_4_1, at_4_2, at_4_3, at_5_0, at_5_1, at_5_2, at_5_3, at_5_4, wipeD, startD, List.map, List.replicate, List.length, List.cons_append, List.nil_append, List.set_cons_succ, List.set_cons_zero, Nat.add_sub_cancel, Nat.reduceAdd, Nat.reduceSub, Nat.sub_self, Nat.zero_add]
    -- the rules
    unfold p4
    simp only [w_runF, w_sSeq, w_sIf, w_tBl, w_tNot, w_tAnd, w_tOr, w_tYes, w_fAnd, w_fOr, w_fNot, w_fChain, w_fAp, w_fBM, a2, a1, a3, w_aCons, w_aNil, w_fC, w_sNx, w_sNo, w_sRet, w_sAsg, w_sDrop, w_sSetI, w_gNm, w_add, w_sub, w_mul, w_fdiv, w_mod, w_pow, w_lt, w_le, w_gt, w_ge, w_bB, w_eqI, w_neI, w_eqS, w_neS, w_isB, w_neg, w_isN, w_isBb, w_isi, w_tupN, w_lstN, w_finI, w_finB, w_finS, w_finN, w_impI, w_impS, w_impB, w_impR, w_var0, w_varS, w_sFor, w_iR1, w_isI, w_some, w_lenS, w_lenT, w_lenF, w_lenL, w_lenR, w_addSS, w_addTT, w_ixStr, w_ixTup, w_ixFl, w_ixLst, w_ixRef, w_slBS, w_slAS, w_slBT, w_slAT, w_slABF, w_tupleT, w_tupleL, w_tupleF, w_tupleR, w_listT, w_listF, w_listL, w_listR, w_iSeq, w_seqT, w_seqF, w_seqS, w_seqR, w_iEn, w_en1, w_sqT, w_iZp, w_fComp, imps_nil, imps_cons, at_1_0, at_2_0, at_2_1, at_3_0, at_3_1, at_3_2, at_4_0, at_4_1, at_4_2, at_4_3, at_5_0, at_5_1, at_5_2, at_5_3, at_5_4, wipeD, startD, List.map, List.replicate, List.length, List.cons_append, List.nil_append, List.set_cons_succ, List.set_cons_zero, Nat.add_sub_cancel, Nat.reduceAdd, Nat.reduceSub, Nat.sub_self, Nat.zero_add]
    have b7 : 0 ≤ h % 7 ∧ h % 7 < 7 := ⟨Int.emod_nonneg _ (by decide), Int.emod_lt_of_pos _ (by decide)⟩
    have X : Ctx ts vs 0 1 [.lst vs] := ⟨t0, t4, ht, rfl, hv, v7, by decide⟩
    refine ⟨by decide, rOk_small (by omega), by omega, ?_⟩
    refine Wp.map (fun _ y => okRule ts y) (fun i d hd => ?_) fun us hul hu => ?_
    · obtain ⟨hi, rfl⟩ := rngD_get hd
      simp only [w_runF, w_sSeq, w_sIf, w_tBl, w_tNot, w_tAnd, w_tOr, w_tYes, w_fAnd, w_fOr, w_fNot, w_fChain, w_fAp, w_fBM, a2, a1, a3, w_aCons, w_aNil, w_fC, w_sNx, w_sNo, w_sRet, w_sAsg, w_sDrop, w_sSetI, w_gNm, w_add, w_sub, w_mul, w_fdiv, w_mod, w_pow, w_lt, w_le, w_gt, w_ge, w_bB, w_eqI, w_neI, w_eqS, w_neS, w_isB, w_neg, w_isN, w_isBb, w_isi, w_tupN, w_lstN, w_finI, w_finB, w_finS, w_finN, w_impI, w_impS, w_impB, w_impR, w_var0, w_varS, w_sFor, w_iR1, w_isI, w_some, w_lenS, w_lenT, w_lenF, w_lenL, w_lenR, w_addSS, w_addTT, w_ixStr, w_ixTup, w_ixFl, w_ixLst, w_ixRef, w_slBS, w_slAS, w_slBT, w_slAT, w_slABF, w_tupleT, w_tupleL, w_tupleF, w_tupleR, w_listT, w_listF, w_listL, w_listR, w_iSeq, w_seqT, w_seqF, w_seqS, w_seqR, w_iEn, w_en1, w_sqT, w_iZp, w_fComp, imps_nil, imps_cons, at_1_0, at_2_0, at_2_1, at_3_0, at_3_1, at_3_2, at_4_0, at_4_1, at_4_2, at_4_3, at_5_0, at_5_1, at_5_2, at_5_3, at_5_4, wipeD, startD, List.map, List.replicate, List.length, List.cons_append, List.nil_append, List.set_cons_succ, List.set_cons_zero, Nat.add_sub_cancel, Nat.reduceAdd, Nat.reduceSub, Nat.sub_self, Nat.zero_add]
      obtain ⟨c, f5⟩ := cell_ok ns (3 + (0 + (i : Int))) (by omega) [.lst vs]
      refine ⟨trivial, Wp.call (by rfl) (by rfl) f5 ?_⟩
      obtain ⟨d, o, f6⟩ := rule_ok c (kp := 0) (m := [.lst vs]) X pts
      exact Wp.call (by rfl) (by show (true && (settleds ts && (true && true))) = true; rw [pts]; rfl) f6 ⟨rfl, o⟩
    · rw [rngD_length] at hul
      have hu2 : ∀ d ∈ us, okRule ts d := fun y hy => by
        obtain ⟨i, hi⟩ := List.mem_iff_getElem?.mp hy
        exact hu i y hi
      have pu : plain (.tup us) = true := plains_iff.mpr fun d hd => nice_plain 4 d (okRule_nice (hu2 d hd))
      simp only [w_runF, w_sSeq, w_sIf, w_tBl, w_tNot, w_tAnd, w_tOr, w_tYes, w_fAnd, w_fOr, w_fNot, w_fChain, w_fAp, w_fBM, a2, a1, a3, w_aCons, w_aNil, w_fC, w_sNx, w_sNo, w_sRet, w_sAsg, w_sDrop, w_sSetI, w_gNm, w_add, w_sub, w_mul, w_fdiv, w_mod, w_pow, w_lt, w_le, w_gt, w_ge, w_bB, w_eqI, w_neI, w_eqS, w_neS, w_isB, w_neg, w_isN, w_isBb, w_isi, w_tupN, w_lstN, w_finI, w_finB, w_finS, w_finN, w_impI, w_impS, w_impB, w_impR, w_var0, w_varS, w_sFor, w_iR1, w_isI, w_some, w_lenS, w_lenT, w_lenF, w_lenL, w_lenR, w_addSS, w_addTT, w_ixStr, w_ixTup, w_ixFl, w_ixLst, w_ixRef, w_slBS, w_slAS, w_slBT, w_slAT, w_slABF, w_tupleT, w_tupleL, w_tupleF, w_tupleR, w_listT, w_listF, w_listL, w_listR, w_iSeq, w_seqT, w_seqF, w_seqS, w_seqR, w_iEn, w_en1, w_sqT, w_iZp, w_fComp, imps_nil, imps_cons, at_1_0, at_2_0, at_2_1, at_3_0, at_3_1, at_3_2, at_4_0, at_4_1, at_4_2, at_4_3, at_5_0, at_5_1, at_5_2, at_5_3, at_5_4, wipeD, startD, List.map, List.replicate, List.length, List.cons_append, List.nil_append, List.set_cons_succ, List.set_cons_zero, Nat.add_sub_cancel, Nat.reduceAdd, Nat.reduceSub, Nat.sub_self, Nat.zero_add, imp_plain pu]
      -- the rows
      unfold p5
      simp only [w_runF, w_sSeq, w_sIf, w_tBl, w_tNot, w_tAnd, w_tOr, w_tYes, w_fAnd, w_fOr, w_fNot, w_fChain, w_fAp, w_fBM, a2, a1, a3, w_aCons, w_aNil, w_fC, w_sNx, w_sNo, w_sRet, w_sAsg, w_sDrop, w_sSetI, w_gNm, w_add, w_sub, w_mul, w_fdiv, w_mod, w_pow, w_lt, w_le, w_gt, w_ge, w_bB, w_eqI, w_neI, w_eqS, w_neS, w_isB, w_neg, w_isN, w_isBb, w_isi, w_tupN, w_lstN, w_finI, w_finB, w_finS, w_finN, w_impI, w_impS, w_impB, w_impR, w_var0, w_varS, w_sFor, w_iR1, w_isI, w_some, w_lenS, w_lenT, w_lenF, w_lenL, w_lenR, w_addSS, w_addTT, w_ixStr, w_ixTup, w_ixFl, w_ixLst, w_ixRef, w_slBS, w_slAS, w_slBT, w_slAT, w_slABF, w_tupleT, w_tupleL, w_tupleF, w_tupleR, w_listT, w_listF, w_listL, w_listR, w_iSeq, w_seqT, w_seqF, w_seqS, w_seqR, w_iEn, w_en1, w_sqT, w_iZp, w_fComp, imps_nil, imps_cons, at_1_0, at_2_0, at_2_1, at_3_0, at_3_1, at_3_2, at_4_0, at_4_1, at_4_2, at_4_3, at_5_0, at_5_1, at_5_2, at_5_3, at_5_4, wipeD, startD, List.map, List.replicate, List.length, List.cons_append, List.nil_append, List.set_cons_succ, List.set_cons_zero, Nat.add_sub_cancel, Nat.reduceAdd, Nat.reduceSub, Nat.sub_self, Nat.zero_add]
      have b6 : 0 ≤ h / 7 % 6 ∧ h / 7 % 6 < 6 := ⟨Int.emod_nonneg _ (by decide), Int.emod_lt_of_pos _ (by decide)⟩
      refine ⟨div_small (by decide) (by decide), by decide, ?_⟩
      rw [cutL_map]
      have cl := cut_len ns
      generalize cutL ns (some 9) (some 59) = cs at cl
      have pcs : settleds (cs.map D.int) = true := plains_settled _ (plains_iff.mpr fun d hd => by obtain ⟨i, _, rfl⟩ := List.mem_map.mp hd; rfl)
      have X2 : Ctx ts vs 0 2 [.lst vs, .lst (cs.map D.int)] := ⟨t0, t4, ht, rfl, hv, v7, by decide⟩
      obtain ⟨rs, hr, nd, rl, f7⟩ := rows_ok (ns := cs) (kc := 1) (kp := 0) (wide := 2 + h / 7 % 6) (m := [.lst vs, .lst (cs.map D.int)]) X2 pts rfl (by omega) (by omega) (by omega)
      have ip : imps [.lst (cs.map D.int), .tup ts, .ref 0, .int (2 + h / 7 % 6)] [.lst vs] = ([.ref 1, .tup ts, .ref 0, .int (2 + h / 7 % 6)], [.lst vs, .lst (cs.map D.int)]) := by
        simp only [imps_cons, imps_nil, imp_lst pcs, imp_plain pt, w_impR, w_impI]
        rfl
      have G : Got vs ts us rs := ⟨hv, v7, t0, t4, ht, by omega, hu2, by omega, hr, nd⟩
      have pr : plain (.tup rs) = true := G.pr
      refine Wp.callN (by rfl) (by rfl) (by rw [ip]; exact f7) (exp_closed (plain_closed _ pr) (plain_liv _ pr)) rfl ?_
      simp only [w_runF, w_sSeq, w_sIf, w_tBl, w_tNot, w_tAnd, w_tOr, w_tYes, w_fAnd, w_fOr, w_fNot, w_fChain, w_fAp, w_fBM, a2, a1, a3, w_aCons, w_aNil, w_fC, w_sNx, w_sNo, w_sRet, w_sAsg, w_sDrop, w_sSetI, w_gNm, w_add, w_sub, w_mul, w_fdiv, w_mod, w_pow, w_lt, w_le, w_gt, w_ge, w_bB, w_eqI, w_neI, w_eqS, w_neS, w_isB, w_neg, w_isN, w_isBb, w_isi, w_tupN, w_lstN, w_finI, w_finB, w_finS, w_finN, w_impI, w_impS, w_impB, w_impR, w_var0, w_varS, w_sFor, w_iR1, w_isI, w_some, w_lenS, w_lenT, w_lenF, w_lenL, w_lenR, w_addSS, w_addTT, w_ixStr, w_ixTup, w_ixFl, w_ixLst, w_ixRef, w_slBS, w_slAS, w_slBT, w_slAT, w_slABF, w_tupleT, w_tupleL, w_tupleF, w_tupleR, w_listT, w_listF, w_listL, w_listR, w_iSeq, w_seqT, w_seqF, w_seqS, w_seqR, w_iEn, w_en1, w_sqT, w_iZp, w_fComp, imps_nil, imps_cons, at_1_0, at_2_0, at_2_1, at_3_0, at_3_1, at_3_2, at_4_0, at_4_1, at_4_2, at_4_3, at_5_0, at_5_1, at_5_2, at_5_3, at_5_4, wipeD, startD, List.map, List.replicate, List.length, List.cons_append, List.nil_append, List.set_cons_succ, List.set_cons_zero, Nat.add_sub_cancel, Nat.reduceAdd, Nat.reduceSub, Nat.sub_self, Nat.zero_add, imp_plain pr]
      refine p6_ok G fun rs v7 G => ?_
      unfold p7
      simp only [w_runF, w_sSeq, w_sIf, w_tBl, w_tNot, w_tAnd, w_tOr, w_tYes, w_fAnd, w_fOr, w_fNot, w_fChain, w_fAp, w_fBM, a2, a1, a3, w_aCons, w_aNil, w_fC, w_sNx, w_sNo, w_sRet, w_sAsg, w_sDrop, w_sSetI, w_gNm, w_add, w_sub, w_mul, w_fdiv, w_mod, w_pow, w_lt, w_le, w_gt, w_ge, w_bB, w_eqI, w_neI, w_eqS, w_neS, w_isB, w_neg, w_isN, w_isBb, w_isi, w_tupN, w_lstN, w_finI, w_finB, w_finS, w_finN, w_impI, w_impS, w_impB, w_impR, w_var0, w_varS, w_sFor, w_iR1, w_isI, w_some, w_lenS, w_lenT, w_lenF, w_lenL, w_lenR, w_addSS, w_addTT, w_ixStr, w_ixTup, w_ixFl, w_ixLst, w_ixRef, w_slBS, w_slAS, w_slBT, w_slAT, w_slABF, w_tupleT, w_tupleL, w_tupleF, w_tupleR, w_listT, w_listF, w_listL, w_listR, w_iSeq, w_seqT, w_seqF, w_seqS, w_seqR, w_iEn, w_en1, w_sqT, w_iZp, w_fComp, imps_nil, imps_cons, at_1_0, at_2_0, at_2_1, at_3_0, at_3_1, at_3_2, at_4_0, at_4_1, at_4_2, at_4_3, at_5_0, at_5_1, at_5_2, at_5_3, at_5_4, wipeD, startD, List.map, List.replicate, List.length, List.cons_append, List.nil_append, List.set_cons_succ, List.set_cons_zero, Nat.add_sub_cancel, Nat.reduceAdd, Nat.reduceSub, Nat.sub_self, Nat.zero_add]
      refine ⟨by show 3 ≤ 1000; decide, ?_⟩
      rw [G.ib]
      simp only [w_runF, w_sSeq, w_sIf, w_tBl, w_tNot, w_tAnd, w_tOr, w_tYes, w_fAnd, w_fOr, w_fNot, w_fChain, w_fAp, w_fBM, a2, a1, a3, w_aCons, w_aNil, w_fC, w_sNx, w_sNo, w_sRet, w_sAsg, w_sDrop, w_sSetI, w_gNm, w_add, w_sub, w_mul, w_fdiv, w_mod, w_pow, w_lt, w_le, w_gt, w_ge, w_bB, w_eqI, w_neI, w_eqS, w_neS, w_isB, w_neg, w_isN, w_isBb, w_isi, w_tupN, w_lstN, w_finI, w_finB, w_finS, w_finN, w_impI, w_impS, w_impB, w_impR, w_var0, w_varS, w_sFor, w_iR1, w_isI, w_some, w_lenS, w_lenT, w_lenF, w_lenL, w_lenR, w_addSS, w_addTT, w_ixStr, w_ixTup, w_ixFl, w_ixLst, w_ixRef, w_slBS, w_slAS, w_slBT, w_slAT, w_slABF, w_tupleT, w_tupleL, w_tupleF, w_tupleR, w_listT, w_listF, w_listL, w_listR, w_iSeq, w_seqT, w_seqF, w_seqS, w_seqR, w_iEn, w_en1, w_sqT, w_iZp, w_fComp, imps_nil, imps_cons, at_1_0, at_2_0, at_2_1, at_3_0, at_3_1, at_3_2, at_4_0, at_4_1, at_4_2, at_4_3, at_5_0, at_5_1, at_5_2, at_5_3, at_5_4, wipeD, startD, List.map, List.replicate, List.length, List.cons_append, List.nil_append, List.set_cons_succ, List.set_cons_zero, Nat.add_sub_cancel, Nat.reduceAdd, Nat.reduceSub, Nat.sub_self, Nat.zero_add]
      unfold p8
      simp only [w_runF, w_sSeq, w_sIf, w_tBl, w_tNot, w_tAnd, w_tOr, w_tYes, w_fAnd, w_fOr, w_fNot, w_fChain, w_fAp, w_fBM, a2, a1, a3, w_aCons, w_aNil, w_fC, w_sNx, w_sNo, w_sRet, w_sAsg, w_sDrop, w_sSetI, w_gNm, w_add, w_sub, w_mul, w_fdiv, w_mod, w_pow, w_lt, w_le, w_gt, w_ge, w_bB, w_eqI, w_neI, w_eqS, w_neS, w_isB, w_neg, w_isN, w_isBb, w_isi, w_tupN, w_lstN, w_finI, w_finB, w_finS, w_finN, w_impI, w_impS, w_impB, w_impR, w_var0, w_varS, w_sFor, w_iR1, w_isI, w_some, w_lenS, w_lenT, w_lenF, w_lenL, w_lenR, w_addSS, w_addTT, w_ixStr, w_ixTup, w_ixFl, w_ixLst, w_ixRef, w_slBS, w_slAS, w_slBT, w_slAT, w_slABF, w_tupleT, w_tupleL, w_tupleF, w_tupleR, w_listT, w_listF, w_listL, w_listR, w_iSeq, w_seqT, w_seqF, w_seqS, w_seqR, w_iEn, w_en1, w_sqT, w_iZp, w_fComp, imps_nil, imps_cons, at_1_0, at_2_0, at_2_1, at_3_0, at_3_1, at_3_2, at_4_0, at_4_1, at_4_2, at_4_3, at_5_0, at_5_1, at_5_2, at_5_3, at_5_4, wipeD, startD, List.map, List.replicate, List.length, List.cons_append, List.nil_append, List.set_cons_succ, List.set_cons_zero, Nat.add_sub_cancel, Nat.reduceAdd, Nat.reduceSub, Nat.sub_self, Nat.zero_add]
      refine ⟨by show 3 ≤ 1000; decide, ?_⟩
      rw [G.il]
      simp only [w_runF, w_sSeq, w_sIf, w_tBl, w_tNot, w_tAnd, w_tOr, w_tYes, w_fAnd, w_fOr, w_fNot, w_fChain, w_fAp, w_fBM, a2, a1, a3, w_aCons, w_aNil, w_fC, w_sNx, w_sNo, w_sRet, w_sAsg, w_sDrop, w_sSetI, w_gNm, w_add, w_sub, w_mul, w_fdiv, w_mod, w_pow, w_lt, w_le, w_gt, w_ge, w_bB, w_eqI, w_neI, w_eqS, w_neS, w_isB, w_neg, w_isN, w_isBb, w_isi, w_tupN, w_lstN, w_finI, w_finB, w_finS, w_finN, w_impI, w_impS, w_impB, w_impR, w_var0, w_varS, w_sFor, w_iR1, w_isI, w_some, w_lenS, w_lenT, w_lenF, w_lenL, w_lenR, w_addSS, w_addTT, w_ixStr, w_ixTup, w_ixFl, w_ixLst, w_ixRef, w_slBS, w_slAS, w_slBT, w_slAT, w_slABF, w_tupleT, w_tupleL, w_tupleF, w_tupleR, w_listT, w_listF, w_listL, w_listR, w_iSeq, w_seqT, w_seqF, w_seqS, w_seqR, w_iEn, w_en1, w_sqT, w_iZp, w_fComp, imps_nil, imps_cons, at_1_0, at_2_0, at_2_1, at_3_0, at_3_1, at_3_2, at_4_0, at_4_1, at_4_2, at_4_3, at_5_0, at_5_1, at_5_2, at_5_3, at_5_4, wipeD, startD, List.map, List.replicate, List.length, List.cons_append, List.nil_append, List.set_cons_succ, List.set_cons_zero, Nat.add_sub_cancel, Nat.reduceAdd, Nat.reduceSub, Nat.sub_self, Nat.zero_add]
      refine mid_ok G rfl rfl rfl rfl rfl ?_
      simp only [w_runF, w_sSeq, w_sIf, w_tBl, w_tNot, w_tAnd, w_tOr, w_tYes, w_fAnd, w_fOr, w_fNot, w_fChain, w_fAp, w_fBM, a2, a1, a3, w_aCons, w_aNil, w_fC, w_sNx, w_sNo, w_sRet, w_sAsg, w_sDrop, w_sSetI, w_gNm, w_add, w_sub, w_mul, w_fdiv, w_mod, w_pow, w_lt, w_le, w_gt, w_ge, w_bB, w_eqI, w_neI, w_eqS, w_neS, w_isB, w_neg, w_isN, w_isBb, w_isi, w_tupN, w_lstN, w_finI, w_finB, w_finS, w_finN, w_impI, w_impS, w_impB, w_impR, w_var0, w_varS, w_sFor, w_iR1, w_isI, w_some, w_lenS, w_lenT, w_lenF, w_lenL, w_lenR, w_addSS, w_addTT, w_ixStr, w_ixTup, w_ixFl, w_ixLst, w_ixRef, w_slBS, w_slAS, w_slBT, w_slAT, w_slABF, w_tupleT, w_tupleL, w_tupleF, w_tupleR, w_listT, w_listF, w_listL, w_listR, w_iSeq, w_seqT, w_seqF, w_seqS, w_seqR, w_iEn, w_en1, w_sqT, w_iZp, w_fComp, imps_nil, imps_cons, at_1_0, at_2_0, at_2_1, at_3_0, at_3_1, at_3_2, at_4_0, at_4_1, at_4_2, at_4_3, at_5_0, at_5_1, at_5_2, at_5_3, at_5_4, wipeD, startD, List.map, List.replicate, List.length, List.cons_append, List.nil_append, List.set_cons_succ, List.set_cons_zero, Nat.add_sub_cancel, Nat.reduceAdd, Nat.reduceSub, Nat.sub_self, Nat.zero_add]
      refine tail_ok G rfl rfl rfl rfl rfl rfl fun m' => ?_
      exact (w_fin (m := []) (q := m') rfl rfl).mpr ⟨[], rfl⟩
  obtain ⟨_, e, m, rfl⟩ := key
  exact ⟨m, e⟩
end G06
set_option Elab.async false
set_option linter.all false
set_option maxRecDepth 100000
set_option maxHeartbeats 0
namespace G06
open PySem PySem.Spec PyProof.Rows L2 M3
def dd_is_name : He.DefD := ⟨("is_name", none), "is_name", "is_name", defArgs s_is_name, defBody s_is_name, defScope s_is_name, [], []⟩
def dd_is_value : He.DefD := ⟨("is_value", none), "is_value", "is_value", defArgs s_is_value, defBody s_is_value, defScope s_is_value, [], []⟩
def dd_is_whole : He.DefD := ⟨("is_whole", none), "is_whole", "is_whole", defArgs s_is_whole, defBody s_is_whole, defScope s_is_whole, [], []⟩
def dd_is_table : He.DefD := ⟨("is_table", none), "is_table", "is_table", defArgs s_is_table, defBody s_is_table, defScope s_is_table, [], []⟩
def dd_is_in : He.DefD := ⟨("is_in", none), "is_in", "is_in", defArgs s_is_in, defBody s_is_in, defScope s_is_in, [], []⟩
def dd_is_column : He.DefD := ⟨("is_column", none), "is_column", "is_column", defArgs s_is_column, defBody s_is_column, defScope s_is_column, [], []⟩
def dd_is_side : He.DefD := ⟨("is_side", none), "is_side", "is_side", defArgs s_is_side, defBody s_is_side, defScope s_is_side, [], []⟩
def dd_are_tests : He.DefD := ⟨("are_tests", none), "are_tests", "are_tests", defArgs s_are_tests, defBody s_are_tests, defScope s_are_tests, [], []⟩
def dd_are_columns : He.DefD := ⟨("are_columns", none), "are_columns", "are_columns", defArgs s_are_columns, defBody s_are_columns, defScope s_are_columns, [], []⟩
def dd_is_tie : He.DefD := ⟨("is_tie", none), "is_tie", "is_tie", defArgs s_is_tie, defBody s_is_tie, defScope s_is_tie, [], []⟩
def dd_is_rule : He.DefD := ⟨("is_rule", none), "is_rule", "is_rule", defArgs s_is_rule, defBody s_is_rule, defScope s_is_rule, [], []⟩
def dd_is_row : He.DefD := ⟨("is_row", none), "is_row", "is_row", defArgs s_is_row, defBody s_is_row, defScope s_is_row, [], []⟩
def dd_check_rows : He.DefD := ⟨("check_rows", none), "check_rows", "check_rows", defArgs s_check_rows, defBody s_check_rows, defScope s_check_rows, [], []⟩
def dd_book_of : He.DefD := ⟨("book_of", none), "book_of", "book_of", defArgs s_book_of, defBody s_book_of, defScope s_book_of, [], []⟩
def dd__law_cell_at : He.DefD := ⟨("_law_cell_at", none), "_law_cell_at", "_law_cell_at", defArgs s__law_cell_at, defBody s__law_cell_at, defScope s__law_cell_at, [], []⟩
def dd__law_mix : He.DefD := ⟨("_law_mix", none), "_law_mix", "_law_mix", defArgs s__law_mix, defBody s__law_mix, defScope s__law_mix, [], []⟩
def dd__law_name : He.DefD := ⟨("_law_name", none), "_law_name", "_law_name", defArgs s__law_name, defBody s__law_name, defScope s__law_name, [], []⟩
def dd__law_pool : He.DefD := ⟨("_law_pool", none), "_law_pool", "_law_pool", defArgs s__law_pool, defBody s__law_pool, defScope s__law_pool, [], []⟩
def dd__law_alike : He.DefD := ⟨("_law_alike", none), "_law_alike", "_law_alike", defArgs s__law_alike, defBody s__law_alike, defScope s__law_alike, [], []⟩
def dd__law_tables : He.DefD := ⟨("_law_tables", none), "_law_tables", "_law_tables", defArgs s__law_tables, defBody s__law_tables, defScope s__law_tables, [], []⟩
def dd__law_row : He.DefD := ⟨("_law_row", none), "_law_row", "_law_row", defArgs s__law_row, defBody s__law_row, defScope s__law_row, [], []⟩
def dd__law_rows : He.DefD := ⟨("_law_rows", none), "_law_rows", "_law_rows", defArgs s__law_rows, defBody s__law_rows, defScope s__law_rows, [], []⟩
def dd__law_take : He.DefD := ⟨("_law_take", none), "_law_take", "_law_take", defArgs s__law_take, defBody s__law_take, defScope s__law_take, [], []⟩
def dd__law_side : He.DefD := ⟨("_law_side", none), "_law_side", "_law_side", defArgs s__law_side, defBody s__law_side, defScope s__law_side, [], []⟩
def dd__law_tests : He.DefD := ⟨("_law_tests", none), "_law_tests", "_law_tests", defArgs s__law_tests, defBody s__law_tests, defScope s__law_tests, [], []⟩
def dd__law_rule : He.DefD := ⟨("_law_rule", none), "_law_rule", "_law_rule", defArgs s__law_rule, defBody s__law_rule, defScope s__law_rule, [], []⟩
def dd_law : He.DefD := ⟨("law", none), "law", "law", defArgs s_law, defBody s_law, defScope s_law, [], []⟩
def fn : List He.DefD := [dd_is_name, dd_is_value, dd_is_whole, dd_is_table, dd_is_in, dd_is_column, dd_is_side, dd_are_tests, dd_are_columns, dd_is_tie, dd_is_rule, dd_is_row, dd_check_rows, dd_book_of, dd__law_cell_at, dd__law_mix, dd__law_name, dd__law_pool, dd__law_alike, dd__law_tables, dd__law_row, dd__law_rows, dd__law_take, dd__law_side, dd__law_tests, dd__law_rule, dd_law]
def fa : List He.Fa := [.glo "is_name", .glo "is_value", .glo "is_whole", .glo "is_table", .glo "is_in", .glo "is_column", .glo "is_side", .glo "are_tests", .glo "are_columns", .glo "is_tie", .glo "is_rule", .glo "is_row", .glo "check_rows", .glo "book_of", .glo "_law_cell_at", .glo "_law_mix", .glo "_law_name", .glo "_law_pool", .glo "_law_alike", .glo "_law_tables", .glo "_law_row", .glo "_law_rows", .glo "_law_take", .glo "_law_side", .glo "_law_tests", .glo "_law_rule", .glo "law", .free "all", .free "bool", .free "enumerate", .free "int", .free "isinstance", .free "len", .free "list", .free "range", .free "str", .free "tuple", .free "zip", .int "BEYOND" 1000000000000000000000000000000, .str "LETTERS" "abcdefghijklmnopqrstuvwxyz", .int "MOST_ROWS" 60, .int "MOST_RULES" 6, .int "MOST_TABLES" 4, .glo "WORDS"]
def ex (K : PySem.W.Frag) : Bool := (He.tupB K "WORDS" [.str "same", .str "unlike", .str "less"])
def fsOf (K : PySem.W.Frag) : Nat → Addr
  | 10 => He.ga K "is_name"
  | 11 => He.ga K "is_value"
  | 17 => He.ga K "is_whole"
  | 18 => He.ga K "is_table"
  | 19 => He.ga K "is_in"
  | 20 => He.ga K "is_column"
  | 21 => He.ga K "is_side"
  | 22 => He.ga K "are_tests"
  | 23 => He.ga K "are_columns"
  | 24 => He.ga K "is_tie"
  | 25 => He.ga K "is_rule"
  | 26 => He.ga K "is_row"
  | 27 => He.ga K "check_rows"
  | 28 => He.ga K "book_of"
  | 30 => He.ga K "_law_cell_at"
  | 31 => He.ga K "_law_mix"
  | 32 => He.ga K "_law_name"
  | 33 => He.ga K "_law_pool"
  | 34 => He.ga K "_law_alike"
  | 35 => He.ga K "_law_tables"
  | 36 => He.ga K "_law_row"
  | 37 => He.ga K "_law_rows"
  | 38 => He.ga K "_law_take"
  | 39 => He.ga K "_law_side"
  | 40 => He.ga K "_law_tests"
  | 41 => He.ga K "_law_rule"
  | 42 => He.ga K "law"
  | 1000 => He.ga K "WORDS"
  | _ => 0
theorem en {K : PySem.W.Frag} {h : Heap} {mg : Str → Option Value} (X : K.In h) (G : h.Ns mainGlobals mg) (c : SaysE fa fn ex K) (fd0 : FuncData) : En K mg (fsOf K) (fun i => fdOf fd0 K (fsOf K i)) where
  d_is_name := by
    obtain ⟨fd, F⟩ := c.d.def_ 0 (d := dd_is_name) rfl
    exact fdOf_ok F
  d_is_value := by
    obtain ⟨fd, F⟩ := c.d.def_ 1 (d := dd_is_value) rfl
    exact fdOf_ok F
  d_is_whole := by
    obtain ⟨fd, F⟩ := c.d.def_ 2 (d := dd_is_whole) rfl
    exact fdOf_ok F
  d_is_table := by
    obtain ⟨fd, F⟩ := c.d.def_ 3 (d := dd_is_table) rfl
    exact fdOf_ok F
  d_is_in := by
    obtain ⟨fd, F⟩ := c.d.def_ 4 (d := dd_is_in) rfl
    exact fdOf_ok F
  d_is_column := by
    obtain ⟨fd, F⟩ := c.d.def_ 5 (d := dd_is_column) rfl
    exact fdOf_ok F
  d_is_side := by
    obtain ⟨fd, F⟩ := c.d.def_ 6 (d := dd_is_side) rfl
    exact fdOf_ok F
  d_are_tests := by
    obtain ⟨fd, F⟩ := c.d.def_ 7 (d := dd_are_tests) rfl
    exact fdOf_ok F
  d_are_columns := by
    obtain ⟨fd, F⟩ := c.d.def_ 8 (d := dd_are_columns) rfl
    exact fdOf_ok F
  d_is_tie := by
    obtain ⟨fd, F⟩ := c.d.def_ 9 (d := dd_is_tie) rfl
    exact fdOf_ok F
  d_is_rule := by
    obtain ⟨fd, F⟩ := c.d.def_ 10 (d := dd_is_rule) rfl
    exact fdOf_ok F
  d_is_row := by
    obtain ⟨fd, F⟩ := c.d.def_ 11 (d := dd_is_row) rfl
    exact fdOf_ok F
  d_check_rows := by
    obtain ⟨fd, F⟩ := c.d.def_ 12 (d := dd_check_rows) rfl
    exact fdOf_ok F
  d_book_of := by
    obtain ⟨fd, F⟩ := c.d.def_ 13 (d := dd_book_of) rfl
    exact fdOf_ok F
  d__law_cell_at := by
    obtain ⟨fd, F⟩ := c.d.def_ 14 (d := dd__law_cell_at) rfl
    exact fdOf_ok F
  d__law_mix := by
    obtain ⟨fd, F⟩ := c.d.def_ 15 (d := dd__law_mix) rfl
    exact fdOf_ok F
  d__law_name := by
    obtain ⟨fd, F⟩ := c.d.def_ 16 (d := dd__law_name) rfl
    exact fdOf_ok F
  d__law_pool := by
    obtain ⟨fd, F⟩ := c.d.def_ 17 (d := dd__law_pool) rfl
    exact fdOf_ok F
  d__law_alike := by
    obtain ⟨fd, F⟩ := c.d.def_ 18 (d := dd__law_alike) rfl
    exact fdOf_ok F
  d__law_tables := by
    obtain ⟨fd, F⟩ := c.d.def_ 19 (d := dd__law_tables) rfl
    exact fdOf_ok F
  d__law_row := by
    obtain ⟨fd, F⟩ := c.d.def_ 20 (d := dd__law_row) rfl
    exact fdOf_ok F
  d__law_rows := by
    obtain ⟨fd, F⟩ := c.d.def_ 21 (d := dd__law_rows) rfl
    exact fdOf_ok F
  d__law_take := by
    obtain ⟨fd, F⟩ := c.d.def_ 22 (d := dd__law_take) rfl
    exact fdOf_ok F
  d__law_side := by
    obtain ⟨fd, F⟩ := c.d.def_ 23 (d := dd__law_side) rfl
    exact fdOf_ok F
  d__law_tests := by
    obtain ⟨fd, F⟩ := c.d.def_ 24 (d := dd__law_tests) rfl
    exact fdOf_ok F
  d__law_rule := by
    obtain ⟨fd, F⟩ := c.d.def_ 25 (d := dd__law_rule) rfl
    exact fdOf_ok F
  d_law := by
    obtain ⟨fd, F⟩ := c.d.def_ 26 (d := dd_law) rfl
    exact fdOf_ok F
  g_is_name := He.glo_ok X G (c.d.fact 0 (f := .glo "is_name") rfl)
  g_is_value := He.glo_ok X G (c.d.fact 1 (f := .glo "is_value") rfl)
  g_is_whole := He.glo_ok X G (c.d.fact 2 (f := .glo "is_whole") rfl)
  g_is_table := He.glo_ok X G (c.d.fact 3 (f := .glo "is_table") rfl)
  g_is_in := He.glo_ok X G (c.d.fact 4 (f := .glo "is_in") rfl)
  g_is_column := He.glo_ok X G (c.d.fact 5 (f := .glo "is_column") rfl)
  g_is_side := He.glo_ok X G (c.d.fact 6 (f := .glo "is_side") rfl)
  g_are_tests := He.glo_ok X G (c.d.fact 7 (f := .glo "are_tests") rfl)
  g_are_columns := He.glo_ok X G (c.d.fact 8 (f := .glo "are_columns") rfl)
  g_is_tie := He.glo_ok X G (c.d.fact 9 (f := .glo "is_tie") rfl)
  g_is_rule := He.glo_ok X G (c.d.fact 10 (f := .glo "is_rule") rfl)
  g_is_row := He.glo_ok X G (c.d.fact 11 (f := .glo "is_row") rfl)
  g_check_rows := He.glo_ok X G (c.d.fact 12 (f := .glo "check_rows") rfl)
  g_book_of := He.glo_ok X G (c.d.fact 13 (f := .glo "book_of") rfl)
  g__law_cell_at := He.glo_ok X G (c.d.fact 14 (f := .glo "_law_cell_at") rfl)
  g__law_mix := He.glo_ok X G (c.d.fact 15 (f := .glo "_law_mix") rfl)
  g__law_name := He.glo_ok X G (c.d.fact 16 (f := .glo "_law_name") rfl)
  g__law_pool := He.glo_ok X G (c.d.fact 17 (f := .glo "_law_pool") rfl)
  g__law_alike := He.glo_ok X G (c.d.fact 18 (f := .glo "_law_alike") rfl)
  g__law_tables := He.glo_ok X G (c.d.fact 19 (f := .glo "_law_tables") rfl)
  g__law_row := He.glo_ok X G (c.d.fact 20 (f := .glo "_law_row") rfl)
  g__law_rows := He.glo_ok X G (c.d.fact 21 (f := .glo "_law_rows") rfl)
  g__law_take := He.glo_ok X G (c.d.fact 22 (f := .glo "_law_take") rfl)
  g__law_side := He.glo_ok X G (c.d.fact 23 (f := .glo "_law_side") rfl)
  g__law_tests := He.glo_ok X G (c.d.fact 24 (f := .glo "_law_tests") rfl)
  g__law_rule := He.glo_ok X G (c.d.fact 25 (f := .glo "_law_rule") rfl)
  g_law := He.glo_ok X G (c.d.fact 26 (f := .glo "law") rfl)
  n_all := He.free_ok X G (c.d.fact 27 (f := .free "all") rfl)
  n_bool := He.free_ok X G (c.d.fact 28 (f := .free "bool") rfl)
  n_enumerate := He.free_ok X G (c.d.fact 29 (f := .free "enumerate") rfl)
  n_int := He.free_ok X G (c.d.fact 30 (f := .free "int") rfl)
  n_isinstance := He.free_ok X G (c.d.fact 31 (f := .free "isinstance") rfl)
  n_len := He.free_ok X G (c.d.fact 32 (f := .free "len") rfl)
  n_list := He.free_ok X G (c.d.fact 33 (f := .free "list") rfl)
  n_range := He.free_ok X G (c.d.fact 34 (f := .free "range") rfl)
  n_str := He.free_ok X G (c.d.fact 35 (f := .free "str") rfl)
  n_tuple := He.free_ok X G (c.d.fact 36 (f := .free "tuple") rfl)
  n_zip := He.free_ok X G (c.d.fact 37 (f := .free "zip") rfl)
  c_BEYOND := He.int_ok X G (c.d.fact 38 (f := .int "BEYOND" 1000000000000000000000000000000) rfl)
  c_LETTERS := He.str_ok X G (c.d.fact 39 (f := .str "LETTERS" "abcdefghijklmnopqrstuvwxyz") rfl)
  c_MOST_ROWS := He.int_ok X G (c.d.fact 40 (f := .int "MOST_ROWS" 60) rfl)
  c_MOST_RULES := He.int_ok X G (c.d.fact 41 (f := .int "MOST_RULES" 6) rfl)
  c_MOST_TABLES := He.int_ok X G (c.d.fact 42 (f := .int "MOST_TABLES" 4) rfl)
  c_WORDS := He.glo_ok X G (c.d.fact 43 (f := .glo "WORDS") rfl)
  k_WORDS := kt_of (x := "WORDS") (vs := [.str "same", .str "unlike", .str "less"]) (c.e)
abbrev R : PySem.W.OpenRow := PySem.W.OpenLaw.row PySem.Challenge.rw_mendsure_k06_a_book_as_handed_in
abbrev hk : PySem.W.Hook := hookE 4 fa fn ex
def ob (s : PySem.W.SharedT) : He.AlD × Bool := obsE 4 fa fn ex (HandSHeadRun.getT s)
theorem ob_eq (s : PySem.W.SharedT) : ob s = hk.obs s.abs := obsE_eq (HandSHeadRun.getT_eq s)
def loose : List Str := (PR.main.scope.names.map (·.1)).filter fun n => decide (n ≠ "law")
theorem run (w : World) : HandSHeadRun.RunEq R (PySem.W.view R.prog [42]) hk ob 20000 loose w := by
  intro os
  kernel_rfl
end G06
open PySem PySem.W PySem.Calls PyProof.Rows
theorem PySem.Challenge.cw_mendsure_k06_a_book_as_handed_in_holds : PySem.Challenge.rw_mendsure_k06_a_book_as_handed_in.Holds := by
  w_on; o_law
  refine HandSHeadRun.head_any (r := OpenLaw.row PySem.Challenge.rw_mendsure_k06_a_book_as_handed_in) (q := view (OpenLaw.row PySem.Challenge.rw_mendsure_k06_a_book_as_handed_in).prog [42]) (H := G06.hk) (ob := G06.ob) (M := 20000) (loose := G06.loose) (d := HandSHeadRun.topDef (OpenLaw.row PySem.Challenge.rw_mendsure_k06_a_book_as_handed_in).prog 42) (kwd := []) G06.ob_eq
    (by kernel_rfl) (fun s => by kernel_rfl) G06.run (by kernel_rfl) (by kernel_rfl) (by kernel_rfl) (by rfl) (by first | assumption | decide +kernel) (by decide +kernel) ⟨rfl, rfl, rfl, rfl, rfl, by decide +kernel⟩ ?hw ?hc
  case hw => w_witness2
  case hc =>
    refine L2.walk_ofE (l := PySem.Challenge.rw_mendsure_k06_a_book_as_handed_in) (n := 63) (k := 11) (x := "_law_script") (CX := L2.CX0) rfl (by decide) (by kernel_rfl) ⟨rfl, by decide, by decide⟩ ?F (fun _ _ _ _ z => z)
    intro w mg fa h Y G hmg0
    obtain ⟨K, KX, c⟩ := Y
    have hmg : mg ("law" : PySem.Str) = some (.ref fa) := by
      have e : (HandSHeadRun.topDef (OpenLaw.row PySem.Challenge.rw_mendsure_k06_a_book_as_handed_in).prog 42).name = ("law" : PySem.Str) := by kernel_rfl
      rw [← e]
      exact hmg0
    obtain ⟨fd0, F0⟩ := c.d.def_ 26 (d := G06.dd_law) rfl
    have V := G06.en KX G c fd0
    have e := hmg.symm.trans V.g_law
    have e2 : fa = G06.fsOf K 42 := by
      injection e with e
      injection e
    subst e2
    have b := L2.FunD.bindsA (ps := ["_law_script"]) V.d_law fun _ _ _ _ _ _ us hl => match us, hl with | [_], _ => rfl
    refine ⟨K, M3.fdOf fd0 K (G06.fsOf K 42), M3.spD (PySem.Challenge.rw_mendsure_k06_a_book_as_handed_in).prog w K 1 G06.F_law, KX, fun s v => b s [v] rfl, fun H a ns hl hO hS => ?_, fun base _ _ => G06.ok_law V⟩
    obtain ⟨m, hm⟩ := G06.law_true ns hl
    exact M3.law_sp hO hS hl hm
