import PyProof.Rows.All
import Wide.All
import OpenK.AllK
import Wide.FinOn
import HandS.ForMost
import HandS.TupAny
import HandS.Flow
import HandS.Style
import HandS.Wide
import HandS.WideBits
import HandS.TupMul
import PyProof.StrOps2
import KE.DataEq
import KE.LtData
import PyProof.Rows.SumAny
import PyProof.WalksMore
import HandS.IsInst
import HandS.More
import HandS.Zip
import KE.GoesEnum
import KE.GoesMore
import HandS.Conv
import HandS.SetFor
import KE.SortData
import HandS.SortInts
import HandS.Text
import HandS.TupLe
import HandS.EndBits
import HandS.DeepEq
import KE.KDictList
import KE.KDictSum
import HandS.Codes
import HandS.SortKw
import KE.SortKeyHeap
import KE.DataMinMax
import KE.DataFind
import HandS.MakeKwOnly
import HandS.Exc
import HandS.ExcValue
import HandS.WordsExc
import HandS.ExcOwn
import HandS.ExcIs
import KE.KExcIs
import HandS.ExcInit
import HandS.ExcField
import HandS.RaiseMore
import KE.KxText
import HandS.TupSets
import HandS.FStr
import PyProof.Rows.CountFlat
import HandS.NoneIn
import HandS.Strs
import KE.KDictZip
import PySem.Challenge.RW_belowpoints_k46_whole_two_kept_points
set_option Elab.async false
set_option linter.all false
set_option maxRecDepth 100000
set_option maxHeartbeats 1000000
namespace Pd
open PySem PySem.Spec PyProof.Rows L2
abbrev D := PyData
inductive Sl where
  | p (d : D)
  | ml (t : Option Nat) (l : List D)
  | md (t : Option Nat) (l : List (Key × D))
  | mr (t : Option Nat) (l : List Sl)
  | ob (t : Option Nat) (c : Str) (ns : List Str) (l : List Sl)
  | ex (c : Str) (f : Option (Str × D))
  | fd (l : List (Key × D))
  | hl (t : Option Nat)
  | tp (l : List Sl)
def Sl.tag : Sl → Option Nat
  | .p _ => none
  | .ml t _ => t
  | .md t _ => t
  | .mr t _ => t
  | .ob t _ _ _ => t
  | .ex _ _ => none
  | .fd _ => none
  | .hl t => t
  | .tp _ => none
def Sl.bare : Sl → Sl
  | .p d => .p d
  | .ml _ l => .ml none l
  | .md _ l => .md none l
  | .mr _ l => .mr none l
  | .ob _ c ns l => .ob none c ns l
  | .ex c f => .ex c f
  | .fd l => .fd l
  | .hl _ => .hl none
  | .tp l => .tp l
def Sl.mark (k : Nat) : Sl → Sl
  | .p d => .p d
  | .ml _ l => .ml (some k) l
  | .md _ l => .md (some k) l
  | .mr _ l => .mr (some k) l
  | .ob _ c ns l => .ob (some k) c ns l
  | .ex c f => .ex c f
  | .fd l => .fd l
  | .hl _ => .hl (some k)
  | .tp l => .tp l
abbrev Env := List (Option Sl)
inductive Rs where
  | own (s : Sl)
  | bor (i : Nat)
  | lent (i : Nat) (s : Sl) (k : List Nat)
inductive Fl where
  | nx | bk | ct
  | rt (s : Sl)
inductive Out (α : Type) where
  | ok (a : α) (ρ : Env)
abbrev M (α : Type) := Env → Option (Out α)
def M.ret {α : Type} (a : α) : M α := fun ρ => some (.ok a ρ)
def M.fail {α : Type} : M α := fun _ => none
def M.bind {α β : Type} (f : M α) (g : α → M β) : M β := fun ρ => match f ρ with
  | some (.ok a ρ') => g a ρ'
  | none => none
theorem M.bind_ok {α β : Type} {f : M α} {g : α → M β} {ρ : Env} {b : β} {ρ2 : Env} (h : M.bind f g ρ = some (.ok b ρ2)) : ∃ a ρ1, f ρ = some (.ok a ρ1) ∧ g a ρ1 = some (.ok b ρ2) := by
  unfold M.bind at h
  split at h
  · rename_i a ρ1 e
    exact ⟨a, ρ1, e, h⟩
  · cases h
section
variable {X : Cx}
theorem PE.imp {e : Expr} {t t' : TE} (h : PE X e t) (i : ∀ σ H Q, t' σ H Q → t σ H Q) : PE X e t' := ⟨fun pins s σ H Q I q => h.run pins s σ H Q I (i σ H Q q)⟩
theorem PT.imp {e : Expr} {t t' : TT} (h : PT X e t) (i : ∀ σ H Q, t' σ H Q → t σ H Q) : PT X e t' := ⟨fun pins s σ H Q I q => h.run pins s σ H Q I (i σ H Q q)⟩
theorem PW.imp {e : Expr} {t t' : TT} (h : PW X e t) (i : ∀ σ H Q, t' σ H Q → t σ H Q) : PW X e t' := ⟨fun w pins s σ H Q I q => h.run w pins s σ H Q I (i σ H Q q)⟩
theorem PA.imp {es : List Expr} {t t' : TA} (h : PA X es t) (i : ∀ σ H Q, t' σ H Q → t σ H Q) : PA X es t' := ⟨fun pos pins s σ H Q I q => h.run pos pins s σ H Q I (i σ H Q q)⟩
theorem PK.imp {es : List Keyword} {t t' : TA} (h : PK X es t) (i : ∀ σ H Q, t' σ H Q → t σ H Q) : PK X es t' := ⟨fun pos pins s σ H Q I q => h.run pos pins s σ H Q I (i σ H Q q)⟩
theorem PS.imp {st : Stmt} {t t' : TS} (h : PS X st t) (i : ∀ D σ H, t' D σ H → t D σ H) : PS X st t' := ⟨fun pins s σ H D I q => h.run pins s σ H D I (i D σ H q)⟩
theorem PSs.imp {st : List Stmt} {t t' : TS} (h : PSs X st t) (i : ∀ D σ H, t' D σ H → t D σ H) : PSs X st t' := ⟨fun pins s σ H D I q => h.run pins s σ H D I (i D σ H q)⟩
theorem PO.imp {e : Option Expr} {t t' : TO} (h : PO X e t) (i : ∀ σ H Q, t' σ H Q → t σ H Q) : PO X e t' := ⟨fun pins s σ H Q I q => h.run pins s σ H Q I (i σ H Q q)⟩
end
section
variable {K : PySem.W.Frag} {B B' H H' : Hp}
theorem rd_mono {a : Addr} {u : HO} (e : Same B B') (h : Rd B a u) : Rd B' a u := by
  rcases h with h | ⟨o, h⟩
  · exact Or.inl (e a _ h)
  · exact Or.inr ⟨o, e a _ h⟩
theorem sql_mono {a : Addr} {xs : List V} (e : Same B B') (h : SqL K B a xs) : SqL K B' a xs := by
  rcases h with h | h
  · exact Or.inl (rd_mono e h)
  · exact Or.inr h
theorem sqt_mono {a : Addr} {xs : List V} (e : Same B B') (h : SqT K B a xs) : SqT K B' a xs := by
  rcases h with h | h
  · exact Or.inl (rd_mono e h)
  · exact Or.inr h
mutual
theorem Dp.mono (e : Same B B') : ∀ {d : PyData} {v : V}, Dp K B v d → Dp K B' v d
  | .none, _, h => by cases h; exact .non
  | .bool b, _, h => by cases h; exact .bl b
  | .int i, _, h => by cases h; exact .int i
  | .str x, _, h => by cases h; exact .str x
  | .list ds, _, h => by
    cases h with
    | lst h1 h2 => exact .lst (sql_mono e h1) (DpAll.mono e h2)
  | .tuple ds, _, h => by
    cases h with
    | tup h1 h2 => exact .tup (sqt_mono e h1) (DpAll.mono e h2)
  | .dict _, _, h => by cases h
theorem DpAll.mono (e : Same B B') : ∀ {ds : List PyData} {vs : List V}, DpAll K B vs ds → DpAll K B' vs ds
  | [], _, h => by cases h; exact .nil
  | d :: ds, _, h => by
    cases h with
    | cons h1 h2 => exact .cons (Dp.mono e h1) (DpAll.mono e h2)
end
theorem DpAll.length : ∀ {ds : List PyData} {vs : List V}, DpAll K B vs ds → vs.length = ds.length
  | [], _, h => by cases h; rfl
  | d :: ds, _, h => by
    cases h with
    | cons h1 h2 => rw [List.length_cons, List.length_cons, DpAll.length h2]
theorem DpAll.get : ∀ {ds : List PyData} {vs : List V} {i : Nat} {d : PyData}, DpAll K B vs ds → ds[i]? = some d → ∃ v, vs[i]? = some v ∧ Dp K B v d
  | [], _, i, d, _, e => by simp at e
  | d :: ds, _, i, d', h, e => by
    cases h with
    | cons h1 h2 =>
      cases i with
      | zero => simp at e; subst e; exact ⟨_, rfl, h1⟩
      | succ i => simpa using DpAll.get (i := i) h2 (by simpa using e)
theorem DpAll.append : ∀ {ds es : List PyData} {vs ws : List V}, DpAll K B vs ds → DpAll K B ws es → DpAll K B (vs ++ ws) (ds ++ es)
  | [], _, _, _, h, g => by cases h; exact g
  | d :: ds, _, _, _, h, g => by
    cases h with
    | cons h1 h2 => exact .cons h1 (DpAll.append h2 g)
theorem DpAll.one {v : V} {d : PyData} (h : Dp K B v d) : DpAll K B [v] [d] := .cons h .nil
theorem DpAll.drop : ∀ {ds : List PyData} {vs : List V} (n : Nat), DpAll K B vs ds → DpAll K B (vs.drop n) (ds.drop n)
  | _, _, 0, h => by simpa using h
  | [], _, n + 1, h => by cases h; exact .nil
  | d :: ds, _, n + 1, h => by
    cases h with
    | cons h1 h2 => simpa using DpAll.drop n h2
theorem DpAll.take : ∀ {ds : List PyData} {vs : List V} (n : Nat), DpAll K B vs ds → DpAll K B (vs.take n) (ds.take n)
  | _, _, 0, h => by simpa using DpAll.nil
  | [], _, n + 1, h => by cases h; exact .nil
  | d :: ds, _, n + 1, h => by
    cases h with
    | cons h1 h2 => simpa using DpAll.cons h1 (DpAll.take n h2)
theorem DpAll.set : ∀ {ds : List PyData} {vs : List V} {v : V} {d : PyData} (i : Nat), DpAll K B vs ds → Dp K B v d → DpAll K B (vs.set i v) (ds.set i d)
  | [], _, _, _, i, h, _ => by cases h; exact .nil
  | _ :: ds, _, _, _, 0, h, g => by
    cases h with
    | cons h1 h2 => exact .cons g h2
  | _ :: ds, _, _, _, i + 1, h, g => by
    cases h with
    | cons h1 h2 => exact .cons h1 (DpAll.set i h2 g)
theorem DpAll.erase : ∀ {ds : List PyData} {vs : List V} (i : Nat), DpAll K B vs ds → DpAll K B (vs.eraseIdx i) (ds.eraseIdx i)
  | [], _, i, h => by cases h; exact .nil
  | _ :: ds, _, 0, h => by
    cases h with
    | cons h1 h2 => exact h2
  | _ :: ds, _, i + 1, h => by
    cases h with
    | cons h1 h2 => exact .cons h1 (DpAll.erase i h2)
theorem DpAll.ints : ∀ {ns : List Int} {vs : List V}, DpAll K B vs (ns.map PyData.int) → vs = ns.map V.int
  | [], _, h => by cases h; rfl
  | n :: ns, _, h => by
    cases h with
    | cons h1 h2 => cases h1; rw [List.map_cons, DpAll.ints h2]
theorem DpAll.of_ints : ∀ (ns : List Int), DpAll K B (ns.map V.int) (ns.map PyData.int)
  | [] => .nil
  | n :: ns => .cons (.int n) (DpAll.of_ints ns)
end
def KvD (K : PySem.W.Frag) (B : Hp) (ks : List (Key × V)) (l : List (Key × D)) : Prop := Paired (fun (p : Key × V) (q : Key × D) => p.1 = q.1 ∧ Dp K B p.2 q.2) ks l
def ExV (cls : Value) (d : Option Addr) (a : Addr) : HO := .ext fun h => ∃ (oe : Obj) (vs : Array Value), h.get? a = some oe ∧ oe.cls = cls ∧ oe.dict = d ∧ oe.data = .fields vs
def XtIs (K : PySem.W.Frag) (B : Hp) (v : V) (e : D) : Prop := ∃ a o ys l, v = .ref a ∧ B a = some (.frz o (.tup ys)) ∧ o.dict = none ∧ e = .tuple l ∧ DpAll K B ys l
def ExIs (K : PySem.W.Frag) (B : Hp) (v : V) (c : Str) : Option (Str × D) → Prop
  | none => ∃ a C, v = .ref a ∧ PySem.W.nsIn K mainGlobals c = some (some (.ref C)) ∧ B a = some (ExV (.ref C) none a)
  | some (x, e) => (c ≠ "tuple" ∧ ∃ a C dx u, v = .ref a ∧ PySem.W.nsIn K mainGlobals c = some (some (.ref C)) ∧ B a = some (ExV (.ref C) (some dx) a) ∧ B dx = some (.xd [(x, u)]) ∧ Dp K B u e) ∨ c = "tuple" ∧ XtIs K B v e
mutual
def Own (K : PySem.W.Frag) (B H : Hp) : V → Sl → List Addr → Prop
  | v, .p d, T => Dp K B v d ∧ T = []
  | v, .ml _ l, T => ∃ a xs, v = .ref a ∧ T = [a] ∧ H a = some (.lst xs) ∧ DpAll K B xs l
  | v, .md _ l, T => ∃ a ks, v = .ref a ∧ T = [a] ∧ H a = some (.dK ks) ∧ KvD K B ks l
  | v, .mr _ l, T => ∃ a xs Ts, v = .ref a ∧ T = a :: Ts.flatten ∧ H a = some (.lst xs) ∧ OwnL K B H xs l Ts ∧ T.Nodup
  | v, .ob _ c ns l, T => ∃ a dx C vs Ts, v = .ref a ∧ T = a :: dx :: Ts.flatten ∧ PySem.W.nsIn K mainGlobals c = some (some (.ref C)) ∧ H a = some (.ins C dx (ns.zip vs)) ∧ ns.length = vs.length ∧ H dx = some (.own a) ∧ OwnL K B H vs l Ts ∧ T.Nodup
  | v, .ex c f, T => ExIs K B v c f ∧ T = []
  | v, .fd l, T => (∃ a ks o, v = .ref a ∧ B a = some (.frz o (.dK ks)) ∧ KvD K B ks l) ∧ T = []
  | _, .hl _, T => T = []
  | v, .tp l, T => ∃ a xs Ts, v = .ref a ∧ T = Ts.flatten ∧ B a = some (.tup xs) ∧ OwnL K B H xs l Ts ∧ T.Nodup
def OwnL (K : PySem.W.Frag) (B H : Hp) : List V → List Sl → List (List Addr) → Prop
  | [], [], [] => True
  | v :: vs, s :: ss, T :: Ts => Own K B H v s T ∧ OwnL K B H vs ss Ts
  | _, _, _ => False
end
theorem KvD.mono {K : PySem.W.Frag} {B B' : Hp} (e : Same B B') {ks : List (Key × V)} {l : List (Key × D)} (h : KvD K B ks l) : KvD K B' ks l :=
  Paired.mapP h fun p q r => ⟨r.1, Dp.mono e r.2⟩
theorem ExIs.mono {K : PySem.W.Frag} {B B' : Hp} (e : Same B B') {v : V} {c : Str} : ∀ {f : Option (Str × D)}, ExIs K B v c f → ExIs K B' v c f
  | none, h => by
    obtain ⟨a, C, h1, h2, h3⟩ := h
    exact ⟨a, C, h1, h2, e _ _ h3⟩
  | some (x, d), h => by
    rcases h with ⟨h0, a, C, dx, u, h1, h2, h3, h4, h5⟩ | ⟨h0, a, o, ys, l, h1, h2, h3, h4, h5⟩
    · exact Or.inl ⟨h0, a, C, dx, u, h1, h2, e _ _ h3, e _ _ h4, Dp.mono e h5⟩
    · exact Or.inr ⟨h0, a, o, ys, l, h1, e _ _ h2, h3, h4, DpAll.mono e h5⟩
section
variable {K : PySem.W.Frag} {B B' H H' : Hp}
mutual
theorem Own.keepA (e : Same B B') : ∀ {s : Sl} {v : V} {T : List Addr}, Own K B H v s T → (∀ a ∈ T, H' a = H a) → Own K B' H' v s T
  | .p d, v, T, h, k => ⟨Dp.mono e h.1, h.2⟩
  | .ml t l, v, T, h, k => by
    obtain ⟨a, xs, rfl, rfl, h1, h2⟩ := h
    exact ⟨a, xs, rfl, rfl, by rw [k a (by simp)]; exact h1, DpAll.mono e h2⟩
  | .md t l, v, T, h, k => by
    obtain ⟨a, xs, rfl, rfl, h1, h2⟩ := h
    exact ⟨a, xs, rfl, rfl, by rw [k a (by simp)]; exact h1, KvD.mono e h2⟩
  | .mr t l, v, T, h, k => by
    obtain ⟨a, xs, Ts, rfl, rfl, h1, h2, h3⟩ := h
    exact ⟨a, xs, Ts, rfl, rfl, by rw [k a (by simp)]; exact h1, OwnL.keepA e h2 (fun b hb => k b (List.mem_cons_of_mem _ hb)), h3⟩
  | .ob t c ns l, v, T, h, k => by
    obtain ⟨a, dx, C, vs, Ts, rfl, rfl, h1, h2, h3, h4, h5, h6⟩ := h
    exact ⟨a, dx, C, vs, Ts, rfl, rfl, h1, by rw [k a (by simp)]; exact h2, h3, by rw [k dx (by simp)]; exact h4, OwnL.keepA e h5 (fun b hb => k b (List.mem_cons_of_mem _ (List.mem_cons_of_mem _ hb))), h6⟩
  | .ex c f, v, T, h, k => ⟨ExIs.mono e h.1, h.2⟩
  | .fd l, v, T, h, k => by
    obtain ⟨⟨a, ks, o, h1, h2, h3⟩, h4⟩ := h
    exact ⟨⟨a, ks, o, h1, e _ _ h2, KvD.mono e h3⟩, h4⟩
  | .hl _, v, T, h, k => h
  | .tp l, v, T, h, k => by
    obtain ⟨a, xs, Ts, rfl, rfl, h1, h2, h3⟩ := h
    exact ⟨a, xs, Ts, rfl, rfl, e _ _ h1, OwnL.keepA e h2 k, h3⟩
theorem OwnL.keepA (e : Same B B') : ∀ {ss : List Sl} {vs : List V} {Ts : List (List Addr)}, OwnL K B H vs ss Ts → (∀ a ∈ Ts.flatten, H' a = H a) → OwnL K B' H' vs ss Ts
  | [], [], [], _, _ => True.intro
  | s :: ss, v :: vs, T :: Ts, h, k => ⟨Own.keepA e h.1 (fun a ha => k a (by rw [List.flatten_cons]; exact List.mem_append_left _ ha)), OwnL.keepA e h.2 (fun a ha => k a (by rw [List.flatten_cons]; exact List.mem_append_right _ ha))⟩
  | [], [], _ :: _, h, _ => h.elim
  | [], _ :: _, _, h, _ => h.elim
  | _ :: _, [], _, h, _ => h.elim
  | _ :: _, _ :: _, [], h, _ => h.elim
end
mutual
theorem Own.liveA : ∀ {s : Sl} {v : V} {T : List Addr}, Own K B H v s T → ∀ a ∈ T, H a ≠ none
  | .p d, v, T, h, b, hb => by rw [h.2] at hb; cases hb
  | .ml t l, v, T, h, b, hb => by
    obtain ⟨a, xs, rfl, rfl, h1, h2⟩ := h
    simp at hb; subst hb; rw [h1]; simp
  | .md t l, v, T, h, b, hb => by
    obtain ⟨a, xs, rfl, rfl, h1, h2⟩ := h
    simp at hb; subst hb; rw [h1]; simp
  | .mr t l, v, T, h, b, hb => by
    obtain ⟨a, xs, Ts, rfl, rfl, h1, h2, h3⟩ := h
    rcases List.mem_cons.mp hb with rfl | hb
    · rw [h1]; simp
    · exact OwnL.liveA h2 b hb
  | .ob t c ns l, v, T, h, b, hb => by
    obtain ⟨a, dx, C, vs, Ts, rfl, rfl, h1, h2, h3, h4, h5, h6⟩ := h
    rcases List.mem_cons.mp hb with rfl | hb
    · rw [h2]; simp
    · rcases List.mem_cons.mp hb with rfl | hb
      · rw [h4]; simp
      · exact OwnL.liveA h5 b hb
  | .ex c f, v, T, h, b, hb => by rw [h.2] at hb; cases hb
  | .fd l, v, T, h, b, hb => by rw [h.2] at hb; cases hb
  | .hl _, v, T, h, b, hb => by rw [show T = [] from h] at hb; cases hb
  | .tp l, v, T, h, b, hb => by
    obtain ⟨a, xs, Ts, rfl, rfl, h1, h2, h3⟩ := h
    exact OwnL.liveA h2 b hb
theorem OwnL.liveA : ∀ {ss : List Sl} {vs : List V} {Ts : List (List Addr)}, OwnL K B H vs ss Ts → ∀ a ∈ Ts.flatten, H a ≠ none
  | [], [], [], _, a, h => by simp at h
  | s :: ss, v :: vs, T :: Ts, g, a, h => by
    rw [List.flatten_cons, List.mem_append] at h
    rcases h with h | h
    · exact Own.liveA g.1 a h
    · exact OwnL.liveA g.2 a h
  | [], [], _ :: _, h, _, _ => h.elim
  | [], _ :: _, _, h, _, _ => h.elim
  | _ :: _, [], _, h, _, _ => h.elim
  | _ :: _, _ :: _, [], h, _, _ => h.elim
end
end
section
variable {K : PySem.W.Frag} {B B' H H' : Hp} {v : V} {s : Sl} {T : List Addr}
theorem Own.keep (h : Own K B H v s T) (e : Same B B') (k : ∀ a ∈ T, H' a = H a) : Own K B' H' v s T := Own.keepA e h k
theorem Own.live (h : Own K B H v s T) : ∀ a ∈ T, H a ≠ none := Own.liveA h
theorem Own.nodup (h : Own K B H v s T) : T.Nodup := by
  cases s with
  | p d => rw [h.2]; exact List.nodup_nil
  | ml t l => obtain ⟨a, xs, rfl, rfl, h1, h2⟩ := h; simp
  | md t l => obtain ⟨a, xs, rfl, rfl, h1, h2⟩ := h; simp
  | mr t l => obtain ⟨a, xs, Ts, rfl, rfl, h1, h2, h3⟩ := h; exact h3
  | ob t c ns l => obtain ⟨a, dx, C, vs, Ts, rfl, rfl, h1, h2, h3, h4, h5, h6⟩ := h; exact h6
  | ex c f => rw [h.2]; exact List.nodup_nil
  | fd l => rw [h.2]; exact List.nodup_nil
  | hl t => rw [show T = [] from h]; exact List.nodup_nil
  | tp l => obtain ⟨a, xs, Ts, rfl, rfl, h1, h2, h3⟩ := h; exact h3
theorem Own.bare (h : Own K B H v s T) : Own K B H v s.bare T := by cases s <;> exact h
theorem Own.mark {k : Nat} (h : Own K B H v s T) : Own K B H v (s.mark k) T := by cases s <;> exact h
theorem Sl.bare_tag (s : Sl) : s.bare.tag = none := by cases s <;> rfl
end
structure Good (K : PySem.W.Frag) (vs0 : List V) (B H : Hp) (σ : L2.St) (ρ : Env) (fs : Nat → List Addr) : Prop where
  ext : Same B H
  len : σ.length = ρ.length
  at_ : ∀ i s, ρ[i]? = some (some s) → ∃ v, σ[i]? = some (some v) ∧ Own K B H v s (fs i) ∧ (∀ k, s.tag = some k → vs0[k]? = some v)
  emp : ∀ i, (∀ s, ρ[i]? ≠ some (some s)) → fs i = []
  dis : ∀ i j a, a ∈ fs i → a ∈ fs j → i = j
  out : ∀ i a, a ∈ fs i → B a = none
abbrev InF (fs : Nat → List Addr) : Addr → Prop := fun a => ∃ i, a ∈ fs i
abbrev UnF (F : Addr → Prop) (T : List Addr) : Addr → Prop := fun a => F a ∨ a ∈ T
structure Fr (B H : Hp) (F : Addr → Prop) (B' H' : Hp) (F' : Addr → Prop) : Prop where
  bb : Same B B'
  keep : ∀ a, H a ≠ none → ¬ F a → H' a = H a
  live : ∀ a, H a ≠ none → H' a ≠ none
  own : ∀ a, F' a → F a ∨ H a = none
  bnew : ∀ a, H a ≠ none → ¬ F a → B a = none → B' a = none
section
variable {B B1 B2 B' H H1 H2 H' : Hp} {F F1 F2 F' G : Addr → Prop}
theorem Fr.refl (B H : Hp) (F : Addr → Prop) : Fr B H F B H F := ⟨Same.refl B, fun _ _ _ => rfl, fun _ h => h, fun _ h => Or.inl h, fun _ _ _ h => h⟩
theorem Fr.trans (x : Fr B H F B1 H1 F1) (y : Fr B1 H1 F1 B2 H2 F2) : Fr B H F B2 H2 F2 := by
  have nf : ∀ a, H a ≠ none → ¬ F a → ¬ F1 a := fun a h nf f1 => by
    rcases x.own a f1 with h2 | h2
    · exact nf h2
    · exact h h2
  refine ⟨x.bb.trans y.bb, fun a h n => ?_, fun a h => y.live a (x.live a h), fun a f => ?_, fun a h n b => y.bnew a (x.live a h) (nf a h n) (x.bnew a h n b)⟩
  · exact (y.keep a (x.live a h) (nf a h n)).trans (x.keep a h n)
  · rcases y.own a f with h2 | h2
    · exact x.own a h2
    · refine Or.inr ?_
      cases e : H a with
      | none => rfl
      | some o => exact absurd h2 (x.live a (by rw [e]; simp))
theorem Fr.weak (x : Fr B H F B' H' F') (hF : ∀ a, F a → G a) {G' : Addr → Prop} (hG : ∀ a, G' a → F' a ∨ G a ∨ H a = none) : Fr B H G B' H' G' := by
  refine ⟨x.bb, fun a h n => x.keep a h fun f => n (hF a f), x.live, fun a f => ?_, fun a h n b => x.bnew a h (fun f => n (hF a f)) b⟩
  rcases hG a f with h | h | h
  · rcases x.own a h with h | h
    · exact Or.inl (hF a h)
    · exact Or.inr h
  · exact Or.inl h
  · exact Or.inr h
theorem Fr.frame (x : Fr B H F B' H' F') (T : List Addr) : Fr B H (UnF F T) B' H' (UnF F' T) :=
  x.weak (fun a f => Or.inl f) fun a f => by
    rcases f with f | f
    · exact Or.inl f
    · exact Or.inr (Or.inl (Or.inr f))
theorem Fr.new {p : Addr} {o : HO} (h : H p = none) (hb : Same B H) : Fr B H (fun _ => False) (upd B p o) (upd H p o) (fun _ => False) := by
  have bp : B p = none := by
    cases e : B p with
    | none => rfl
    | some u => rw [hb p u e] at h; cases h
  have ne : ∀ a, H a ≠ none → a ≠ p := fun a ha e => ha (by rw [e]; exact h)
  refine ⟨fun a u e => ?_, fun a ha _ => upd_ne (ne a ha), fun a ha => by rw [upd_ne (ne a ha)]; exact ha, fun _ f => f.elim, fun a ha _ hB => by rw [upd_ne (ne a ha)]; exact hB⟩
  rw [upd_ne (ne_of_none e bp)]
  exact e
theorem same_upd {p : Addr} {o : HO} (hb : Same B H) : Same (upd B p o) (upd H p o) := fun a u e => by
  by_cases h : a = p
  · subst h
    rw [upd_same] at e ⊢
    exact e
  · rw [upd_ne h] at e ⊢
    exact hb a u e
theorem Fr.newL {p : Addr} {o : HO} (h : H p = none) : Fr B H (fun _ => False) B (upd H p o) (fun a => a ∈ [p]) := by
  have ne : ∀ a, H a ≠ none → a ≠ p := fun a ha e => ha (by rw [e]; exact h)
  refine ⟨Same.refl B, fun a ha _ => upd_ne (ne a ha), fun a ha => by rw [upd_ne (ne a ha)]; exact ha, fun a f => ?_, fun a _ _ hB => hB⟩
  simp at f; subst f; exact Or.inr h
theorem Fr.sameH (x : Fr B H (fun _ => False) B' H' F') : Same H H' := fun a o e => by
  rw [x.keep a (by rw [e]; simp) (fun f => f)]
  exact e
end
section
variable {K : PySem.W.Frag} {vs0 : List V} {B H B' H' : Hp} {σ : L2.St} {ρ : Env} {fs : Nat → List Addr}
theorem Good.lives (g : Good K vs0 B H σ ρ fs) {i : Nat} {a : Addr} (h : a ∈ fs i) : H a ≠ none := by
  by_cases e : ∃ s, ρ[i]? = some (some s)
  · obtain ⟨s, e⟩ := e
    obtain ⟨v, _, o, _⟩ := g.at_ i s e
    exact o.live a h
  · rw [g.emp i (fun s q => e ⟨s, q⟩)] at h
    cases h
theorem Good.grow {F F' : Addr → Prop} (g : Good K vs0 B H σ ρ fs) (x : Fr B H F B' H' F') (n : ∀ a, InF fs a → ¬ F a) (e : Same B' H') : Good K vs0 B' H' σ ρ fs where
  ext := e
  len := g.len
  at_ := fun i s h => by
    obtain ⟨v, h1, h2, h3⟩ := g.at_ i s h
    exact ⟨v, h1, h2.keep x.bb fun a ha => x.keep a (g.lives ha) (n a ⟨i, ha⟩), h3⟩
  emp := g.emp
  dis := g.dis
  out := fun i a h => x.bnew a (g.lives h) (n a ⟨i, h⟩) (g.out i a h)
end
def Sl.kid1 : Sl → Nat → Option Sl
  | .mr _ l, k => l[k]?
  | .ob _ _ _ l, k => l[k]?
  | _, _ => none
def Sl.setKid1 (s : Sl) (k : Nat) (c : Sl) : Sl := match s with
  | .mr t l => .mr t (l.set k c)
  | .ob t C ns l => .ob t C ns (l.set k c)
  | s => s
def Kid1 (H : Hp) (v0 : V) (s : Sl) (k : Nat) (v : V) : Prop := match s with
  | .mr _ _ => ∃ a xs, v0 = .ref a ∧ H a = some (.lst xs) ∧ xs[k]? = some v
  | .ob _ _ _ _ => ∃ a C dx fs, v0 = .ref a ∧ H a = some (.ins C dx fs) ∧ (fs.map (·.2))[k]? = some v
  | _ => False
section
theorem flat_set_mem {a : Addr} : ∀ {Ts : List (List Addr)} {k : Nat} {T' : List Addr}, a ∈ (Ts.set k T').flatten → a ∈ T' ∨ ∃ j T, j ≠ k ∧ Ts[j]? = some T ∧ a ∈ T
  | [], _, _, h => by simp at h
  | T0 :: Ts, 0, T', h => by
    rw [List.set_cons_zero, List.flatten_cons, List.mem_append] at h
    rcases h with h | h
    · exact Or.inl h
    · obtain ⟨T, hT, ha⟩ := List.mem_flatten.mp h
      obtain ⟨j, hj⟩ := List.getElem?_of_mem hT
      exact Or.inr ⟨j + 1, T, by omega, by simpa using hj, ha⟩
  | T0 :: Ts, k + 1, T', h => by
    rw [List.set_cons_succ, List.flatten_cons, List.mem_append] at h
    rcases h with h | h
    · exact Or.inr ⟨0, T0, by omega, rfl, h⟩
    · rcases flat_set_mem h with h | ⟨j, T, h1, h2, h3⟩
      · exact Or.inl h
      · exact Or.inr ⟨j + 1, T, by omega, by simpa using h2, h3⟩
theorem flat_set_nodup : ∀ {Ts : List (List Addr)} {k : Nat} {T T' : List Addr}, Ts.flatten.Nodup → Ts[k]? = some T → T'.Nodup → (∀ a ∈ T', a ∈ Ts.flatten → a ∈ T) → (Ts.set k T').flatten.Nodup
  | [], _, _, _, _, h, _, _ => by simp at h
  | T0 :: Ts, 0, T, T', hn, h, hn', hd => by
    simp at h
    subst h
    rw [List.flatten_cons, List.nodup_append] at hn
    rw [List.set_cons_zero, List.flatten_cons, List.nodup_append]
    refine ⟨hn', hn.2.1, fun a ha b hb e => ?_⟩
    subst e
    exact hn.2.2 a (hd a ha (by rw [List.flatten_cons]; exact List.mem_append_right _ hb)) a hb rfl
  | T0 :: Ts, k + 1, T, T', hn, h, hn', hd => by
    rw [List.flatten_cons, List.nodup_append] at hn
    have h' : Ts[k]? = some T := by simpa using h
    rw [List.set_cons_succ, List.flatten_cons, List.nodup_append]
    refine ⟨hn.1, flat_set_nodup hn.2.1 h' hn' fun a ha hf => hd a ha (by rw [List.flatten_cons]; exact List.mem_append_right _ hf), fun a ha b hb e => ?_⟩
    subst e
    rcases flat_set_mem hb with q | ⟨j, T2, h1, h2, h3⟩
    · have := hd a q (by rw [List.flatten_cons]; exact List.mem_append_left _ ha)
      exact hn.2.2 a ha a (List.mem_flatten.mpr ⟨T, List.mem_of_getElem? h', this⟩) rfl
    · exact hn.2.2 a ha a (List.mem_flatten.mpr ⟨T2, List.mem_of_getElem? h2, h3⟩) rfl
theorem flat_injL {a : Addr} : ∀ {Ts : List (List Addr)} {k k' : Nat} {T T' : List Addr}, Ts.flatten.Nodup → Ts[k]? = some T → Ts[k']? = some T' → a ∈ T → a ∈ T' → k = k'
  | [], k, _, _, _, _, h, _, _, _ => by simp at h
  | T0 :: Ts, k, k', T, T', hn, h, h', ha, ha' => by
    rw [List.flatten_cons, List.nodup_append] at hn
    cases k with
    | zero =>
      simp at h; subst h
      cases k' with
      | zero => rfl
      | succ k' => exact (hn.2.2 a ha a (List.mem_flatten.mpr ⟨T', List.mem_of_getElem? (by simpa using h'), ha'⟩) rfl).elim
    | succ k =>
      cases k' with
      | zero =>
        simp at h'; subst h'
        exact (hn.2.2 a ha' a (List.mem_flatten.mpr ⟨T, List.mem_of_getElem? (by simpa using h), ha⟩) rfl).elim
      | succ k' => exact congrArg (· + 1) (flat_injL hn.2.1 (by simpa using h) (by simpa using h') ha ha')
variable {K : PySem.W.Frag} {B B' H H' : Hp}
theorem OwnL.get : ∀ {ss : List Sl} {vs : List V} {Ts : List (List Addr)} {k : Nat} {s : Sl}, OwnL K B H vs ss Ts → ss[k]? = some s → ∃ v T, vs[k]? = some v ∧ Ts[k]? = some T ∧ Own K B H v s T
  | [], [], [], k, s, _, e => by simp at e
  | s :: ss, v :: vs, T :: Ts, 0, s', h, e => by simp at e; subst e; exact ⟨v, T, rfl, rfl, h.1⟩
  | s :: ss, v :: vs, T :: Ts, k + 1, s', h, e => by simpa using OwnL.get (k := k) h.2 (by simpa using e)
  | [], [], _ :: _, _, _, h, _ => h.elim
  | [], _ :: _, _, _, _, h, _ => h.elim
  | _ :: _, [], _, _, _, h, _ => h.elim
  | _ :: _, _ :: _, [], _, _, h, _ => h.elim
theorem OwnL.set (e : Same B B') : ∀ {ss : List Sl} {vs : List V} {Ts : List (List Addr)} {k : Nat} {v : V} {c' : Sl} {T' : List Addr}, OwnL K B H vs ss Ts → (∀ j T, j ≠ k → Ts[j]? = some T → ∀ a ∈ T, H' a = H a) → vs[k]? = some v → Own K B' H' v c' T' →
    OwnL K B' H' vs (ss.set k c') (Ts.set k T')
  | [], [], [], k, v, _, _, _, _, e, _ => by simp at e
  | s :: ss, u :: vs, T :: Ts, 0, v, c', T', h, kp, ev, o => by
    simp at ev
    subst ev
    refine ⟨o, OwnL.keepA e h.2 fun a ha => ?_⟩
    obtain ⟨T2, hT, ha⟩ := List.mem_flatten.mp ha
    obtain ⟨j, hj⟩ := List.getElem?_of_mem hT
    exact kp (j + 1) T2 (by omega) (by simpa using hj) a ha
  | s :: ss, u :: vs, T :: Ts, k + 1, v, c', T', h, kp, ev, o => by
    refine ⟨h.1.keep e fun a ha => kp 0 T (by omega) rfl a ha, OwnL.set e h.2 (fun j T2 hj hT => kp (j + 1) T2 (by omega) (by simpa using hT)) (by simpa using ev) o⟩
  | [], [], _ :: _, _, _, _, _, h, _, _, _ => h.elim
  | [], _ :: _, _, _, _, _, _, h, _, _, _ => h.elim
  | _ :: _, [], _, _, _, _, _, h, _, _, _ => h.elim
  | _ :: _, _ :: _, [], _, _, _, _, h, _, _, _ => h.elim
theorem zip_snd : ∀ {ns : List Str} {vs : List V}, ns.length = vs.length → (ns.zip vs).map (·.2) = vs
  | [], [], _ => rfl
  | n :: ns, v :: vs, h => by rw [List.zip_cons_cons, List.map_cons, zip_snd (by simpa using h)]
  | [], _ :: _, h => by simp at h
  | _ :: _, [], h => by simp at h
theorem Own.kid1 {v0 v : V} {s c : Sl} {k : Nat} {T : List Addr} (o : Own K B H v0 s T) (kd : Kid1 H v0 s k v) (e : s.kid1 k = some c) :
    ∃ Tk, Own K B H v c Tk ∧ (∀ a ∈ Tk, a ∈ T) ∧ ∀ {B' H' : Hp} {c' : Sl} {T' : List Addr}, Same B B' → (∀ a ∈ T, a ∉ Tk → H' a = H a) → Own K B' H' v c' T' → (∀ a ∈ T', a ∈ T → a ∈ Tk) →
      ∃ T2, Own K B' H' v0 (s.setKid1 k c') T2 ∧ ∀ a ∈ T2, (a ∈ T ∧ a ∉ Tk) ∨ a ∈ T' := by
  cases s with
  | mr t l =>
    obtain ⟨a, xs, rfl, h1, h2⟩ := kd
    obtain ⟨a', xs', Ts, q1, rfl, q2, q3, q4⟩ := o
    cases q1
    rw [h1] at q2
    cases q2
    have e : l[k]? = some c := e
    obtain ⟨v', Tk, w1, w2, w3⟩ := OwnL.get q3 e
    rw [h2] at w1
    cases w1
    rw [List.nodup_cons] at q4
    have off : ∀ j T, j ≠ k → Ts[j]? = some T → ∀ b ∈ T, b ∉ Tk := fun j T hj hT b hb hb2 => hj (flat_injL q4.2 hT w2 hb hb2)
    have aT : a ∉ Tk := fun h => q4.1 (List.mem_flatten.mpr ⟨Tk, List.mem_of_getElem? w2, h⟩)
    refine ⟨Tk, w3, fun b hb => List.mem_cons_of_mem _ (List.mem_flatten.mpr ⟨Tk, List.mem_of_getElem? w2, hb⟩), fun {B' H' c' T'} sb kp o' dj => ?_⟩
    refine ⟨a :: (Ts.set k T').flatten, ⟨a, xs, Ts.set k T', rfl, rfl, by rw [kp a (by simp) aT]; exact h1, OwnL.set sb q3 (fun j T hj hT b hb => kp b (List.mem_cons_of_mem _ (List.mem_flatten.mpr ⟨T, List.mem_of_getElem? hT, hb⟩)) (off j T hj hT b hb)) h2 o', ?_⟩, fun b hb => ?_⟩
    · rw [List.nodup_cons]
      refine ⟨fun h => ?_, flat_set_nodup q4.2 w2 o'.nodup fun b hb hf => dj b hb (List.mem_cons_of_mem _ hf)⟩
      rcases flat_set_mem h with h | ⟨j, T, hj, hT, hb⟩
      · exact aT (dj a h (by simp))
      · exact q4.1 (List.mem_flatten.mpr ⟨T, List.mem_of_getElem? hT, hb⟩)
    · rcases List.mem_cons.mp hb with rfl | hb
      · exact Or.inl ⟨by simp, aT⟩
      · rcases flat_set_mem hb with h | ⟨j, T, hj, hT, hb⟩
        · exact Or.inr h
        · exact Or.inl ⟨List.mem_cons_of_mem _ (List.mem_flatten.mpr ⟨T, List.mem_of_getElem? hT, hb⟩), off j T hj hT b hb⟩
  | ob t C ns l =>
    obtain ⟨a, C', dx, fs, rfl, h1, h2⟩ := kd
    obtain ⟨a', dx', C2, vs, Ts, q1, rfl, q2, q3, q4, q5, q6, q7⟩ := o
    cases q1
    rw [h1] at q3
    cases q3
    have e : l[k]? = some c := e
    rw [zip_snd q4] at h2
    obtain ⟨v', Tk, w1, w2, w3⟩ := OwnL.get q6 e
    rw [h2] at w1
    cases w1
    rw [List.nodup_cons, List.nodup_cons] at q7
    have off : ∀ j T, j ≠ k → Ts[j]? = some T → ∀ b ∈ T, b ∉ Tk := fun j T hj hT b hb hb2 => hj (flat_injL q7.2.2 hT w2 hb hb2)
    have inT : ∀ b ∈ Tk, b ∈ Ts.flatten := fun b hb => List.mem_flatten.mpr ⟨Tk, List.mem_of_getElem? w2, hb⟩
    have aT : a ∉ Tk := fun h => q7.1 (List.mem_cons_of_mem _ (inT a h))
    have dT : dx ∉ Tk := fun h => q7.2.1 (inT dx h)
    refine ⟨Tk, w3, fun b hb => List.mem_cons_of_mem _ (List.mem_cons_of_mem _ (inT b hb)), fun {B' H' c' T'} sb kp o' dj => ?_⟩
    refine ⟨a :: dx :: (Ts.set k T').flatten, ⟨a, dx, C', vs, Ts.set k T', rfl, rfl, q2, by rw [kp a (by simp) aT]; exact h1, q4, by rw [kp dx (by simp) dT]; exact q5,
      OwnL.set sb q6 (fun j T hj hT b hb => kp b (List.mem_cons_of_mem _ (List.mem_cons_of_mem _ (List.mem_flatten.mpr ⟨T, List.mem_of_getElem? hT, hb⟩))) (off j T hj hT b hb)) h2 o', ?_⟩, fun b hb => ?_⟩
    · rw [List.nodup_cons, List.nodup_cons]
      refine ⟨fun h => ?_, fun h => ?_, flat_set_nodup q7.2.2 w2 o'.nodup fun b hb hf => dj b hb (List.mem_cons_of_mem _ (List.mem_cons_of_mem _ hf))⟩
      · rcases List.mem_cons.mp h with h | h
        · exact q7.1 (by rw [h]; simp)
        · rcases flat_set_mem h with h | ⟨j, T, hj, hT, hb⟩
          · exact aT (dj a h (by simp))
          · exact q7.1 (List.mem_cons_of_mem _ (List.mem_flatten.mpr ⟨T, List.mem_of_getElem? hT, hb⟩))
      · rcases flat_set_mem h with h | ⟨j, T, hj, hT, hb⟩
        · exact dT (dj dx h (by simp))
        · exact q7.2.1 (List.mem_flatten.mpr ⟨T, List.mem_of_getElem? hT, hb⟩)
    · rcases List.mem_cons.mp hb with rfl | hb
      · exact Or.inl ⟨by simp, aT⟩
      · rcases List.mem_cons.mp hb with rfl | hb
        · exact Or.inl ⟨by simp, dT⟩
        · rcases flat_set_mem hb with h | ⟨j, T, hj, hT, hb⟩
          · exact Or.inr h
          · exact Or.inl ⟨List.mem_cons_of_mem _ (List.mem_cons_of_mem _ (List.mem_flatten.mpr ⟨T, List.mem_of_getElem? hT, hb⟩)), off j T hj hT b hb⟩
  | p d => cases e
  | ml t l => cases e
  | md t l => cases e
  | ex c f => cases e
  | fd l => cases e
  | hl t => cases e
  | tp l => cases e
end
def Sl.kid : Sl → List Nat → Option Sl
  | s, [] => some s
  | s, k :: ks => (s.kid1 k).bind fun c => c.kid ks
def Sl.setKid : Sl → List Nat → Sl → Sl
  | _, [], c => c
  | s, k :: ks, c => match s.kid1 k with
    | some d => s.setKid1 k (d.setKid ks c)
    | none => s
def Kid (H : Hp) : V → Sl → List Nat → V → Prop
  | v0, _, [], v => v = v0
  | v0, s, k :: ks, v => ∃ v1 c, Kid1 H v0 s k v1 ∧ s.kid1 k = some c ∧ Kid H v1 c ks v
@[simp] theorem Sl.kid_nil {s : Sl} : s.kid [] = some s := rfl
@[simp] theorem Sl.kid_cons {s : Sl} {k : Nat} {ks : List Nat} : s.kid (k :: ks) = (s.kid1 k).bind fun c => c.kid ks := rfl
section
variable {K : PySem.W.Frag} {B B' H H' : Hp}
theorem Own.kid : ∀ {ks : List Nat} {v0 v : V} {s c : Sl} {T : List Addr}, Own K B H v0 s T → Kid H v0 s ks v → s.kid ks = some c →
    ∃ Tk, Own K B H v c Tk ∧ (∀ a ∈ Tk, a ∈ T) ∧ ∀ {B' H' : Hp} {c' : Sl} {T' : List Addr}, Same B B' → (∀ a ∈ T, a ∉ Tk → H' a = H a) → Own K B' H' v c' T' → (∀ a ∈ T', a ∈ T → a ∈ Tk) →
      ∃ T2, Own K B' H' v0 (s.setKid ks c') T2 ∧ ∀ a ∈ T2, (a ∈ T ∧ a ∉ Tk) ∨ a ∈ T'
  | [], v0, v, s, c, T, o, kd, e => by
    cases (show v = v0 from kd)
    cases e
    exact ⟨T, o, fun a h => h, fun {B' H' c' T'} sb kp o' dj => ⟨T', o', fun a h => Or.inr h⟩⟩
  | k :: ks, v0, v, s, c, T, o, kd, e => by
    obtain ⟨v1, c1, k1, e1, k2⟩ := kd
    have e2 : c1.kid ks = some c := by
      rw [Sl.kid_cons, e1] at e
      exact e
    obtain ⟨Tk, q1, q2, q3⟩ := Own.kid1 o k1 e1
    obtain ⟨Tj, p1, p2, p3⟩ := Own.kid q1 k2 e2
    refine ⟨Tj, p1, fun a h => q2 a (p2 a h), fun {B' H' c' T'} sb kp o' dj => ?_⟩
    obtain ⟨T3, w1, w2⟩ := p3 sb (fun a ha hn => kp a (q2 a ha) hn) o' (fun a ha hk => dj a ha (q2 a hk))
    obtain ⟨T2, u1, u2⟩ := q3 sb (fun a ha hn => kp a ha fun z => hn (p2 a z)) w1 (fun a ha hT => by
      rcases w2 a ha with h | h
      · exact h.1
      · exact p2 a (dj a h hT))
    refine ⟨T2, ?_, fun a ha => ?_⟩
    · show Own K B' H' v0 (match s.kid1 k with
        | some d => s.setKid1 k (d.setKid ks c')
        | none => s) T2
      rw [e1]
      exact u1
    · rcases u2 a ha with h | h
      · exact Or.inl ⟨h.1, fun z => h.2 (p2 a z)⟩
      · rcases w2 a h with h | h
        · exact Or.inl ⟨q2 a h.1, h.2⟩
        · exact Or.inr h
theorem Kid1.keep {v0 v : V} {s : Sl} {k : Nat} {T : List Addr} (o : Own K B H v0 s T) (h : Kid1 H v0 s k v) (e : ∀ a ∈ T, H' a = H a) : Kid1 H' v0 s k v := by
  cases s with
  | mr t l =>
    obtain ⟨a, xs, rfl, h1, h2⟩ := h
    obtain ⟨a', xs', Ts, q1, rfl, _⟩ := o
    cases q1
    exact ⟨a, xs, rfl, by rw [e a (by simp)]; exact h1, h2⟩
  | ob t c ns l =>
    obtain ⟨a, C, dx, fs, rfl, h1, h2⟩ := h
    obtain ⟨a', dx', C', vs, Ts, q1, rfl, _⟩ := o
    cases q1
    exact ⟨a, C, dx, fs, rfl, by rw [e a (by simp)]; exact h1, h2⟩
  | p d => exact h.elim
  | ml t l => exact h.elim
  | md t l => exact h.elim
  | ex c f => exact h.elim
  | fd l => exact h.elim
  | hl t => exact h.elim
  | tp l => exact h.elim
theorem Kid.keep : ∀ {ks : List Nat} {v0 v : V} {s : Sl} {T : List Addr}, Own K B H v0 s T → Kid H v0 s ks v → (∀ a ∈ T, H' a = H a) → Kid H' v0 s ks v
  | [], v0, v, s, T, o, h, e => h
  | k :: ks, v0, v, s, T, o, h, e => by
    obtain ⟨v1, c1, k1, e1, k2⟩ := h
    obtain ⟨Tk, q1, q2, _⟩ := Own.kid1 o k1 e1
    exact ⟨v1, c1, k1.keep o e, e1, Kid.keep q1 k2 fun a ha => e a (q2 a ha)⟩
end
def RsOk (K : PySem.W.Frag) (B H : Hp) (σ : L2.St) (fs : Nat → List Addr) (v : V) : Rs → List Addr → Prop
  | .own s, T => Own K B H v s T ∧ s.tag = none ∧ (∀ a ∈ T, B a = none ∧ ∀ i, a ∉ fs i)
  | .bor i, T => σ[i]? = some (some v) ∧ T = []
  | .lent i s k, T => (∃ v0, σ[i]? = some (some v0) ∧ Own K B H v0 s T ∧ Kid H v0 s k v) ∧ (∀ a ∈ T, B a = none ∧ ∀ i, a ∉ fs i)
def RsAll (K : PySem.W.Frag) (B H : Hp) (σ : L2.St) (fs : Nat → List Addr) : List V → List Rs → List (List Addr) → Prop
  | [], [], [] => True
  | v :: vs, r :: rs, T :: Ts => RsOk K B H σ fs v r T ∧ RsAll K B H σ fs vs rs Ts
  | _, _, _ => False
section
variable {K : PySem.W.Frag} {B H B' H' : Hp} {σ : L2.St} {fs fs' : Nat → List Addr} {v : V} {r : Rs} {T : List Addr}
theorem RsOk.live (h : RsOk K B H σ fs v r T) : ∀ a ∈ T, H a ≠ none := by
  cases r with
  | own s => exact h.1.live
  | bor i => rw [h.2]; intro a ha; cases ha
  | lent i s k => obtain ⟨⟨v0, _, o, _⟩, _⟩ := h; exact o.live
theorem RsOk.nodup (h : RsOk K B H σ fs v r T) : T.Nodup := by
  cases r with
  | own s => exact h.1.nodup
  | bor i => rw [h.2]; exact List.nodup_nil
  | lent i s k => obtain ⟨⟨v0, _, o, _⟩, _⟩ := h; exact o.nodup
theorem RsOk.off (h : RsOk K B H σ fs v r T) : ∀ a ∈ T, ¬ InF fs a := by
  cases r with
  | own s => intro a ha ⟨i, hi⟩; exact (h.2.2 a ha).2 i hi
  | bor i => rw [h.2]; intro a ha; cases ha
  | lent i s k => intro a ha ⟨i, hi⟩; exact (h.2 a ha).2 i hi
theorem RsOk.keep {F F' : Addr → Prop} (h : RsOk K B H σ fs v r T) (x : Fr B H F B' H' F') (n : ∀ a ∈ T, ¬ F a) (hf : ∀ a, InF fs' a → F' a) : RsOk K B' H' σ fs' v r T := by
  cases r with
  | own s =>
    refine ⟨h.1.keep x.bb fun a ha => x.keep a (h.1.live a ha) (n a ha), h.2.1, fun a ha => ⟨x.bnew a (h.1.live a ha) (n a ha) (h.2.2 a ha).1, fun i hi => ?_⟩⟩
    rcases x.own a (hf a ⟨i, hi⟩) with q | q
    · exact n a ha q
    · exact h.1.live a ha q
  | bor i => exact h
  | lent i s k =>
    obtain ⟨⟨v0, h1, o, kd⟩, h2⟩ := h
    refine ⟨⟨v0, h1, o.keep x.bb fun a ha => x.keep a (o.live a ha) (n a ha), kd.keep o fun a ha => x.keep a (o.live a ha) (n a ha)⟩, fun a ha => ⟨x.bnew a (o.live a ha) (n a ha) (h2 a ha).1, fun i hi => ?_⟩⟩
    rcases x.own a (hf a ⟨i, hi⟩) with q | q
    · exact n a ha q
    · exact o.live a ha q
theorem RsAll.live : ∀ {vs : List V} {rs : List Rs} {Ts : List (List Addr)}, RsAll K B H σ fs vs rs Ts → ∀ a ∈ Ts.flatten, H a ≠ none
  | [], [], [], _, a, h => by simp at h
  | v :: vs, r :: rs, T :: Ts, g, a, h => by
    rw [List.flatten_cons, List.mem_append] at h
    rcases h with h | h
    · exact g.1.live a h
    · exact RsAll.live g.2 a h
  | [], [], _ :: _, g, _, _ => g.elim
  | [], _ :: _, _, g, _, _ => g.elim
  | _ :: _, [], _, g, _, _ => g.elim
  | _ :: _, _ :: _, [], g, _, _ => g.elim
theorem RsAll.off : ∀ {vs : List V} {rs : List Rs} {Ts : List (List Addr)}, RsAll K B H σ fs vs rs Ts → ∀ a ∈ Ts.flatten, ¬ InF fs a
  | [], [], [], _, a, h => by simp at h
  | v :: vs, r :: rs, T :: Ts, g, a, h => by
    rw [List.flatten_cons, List.mem_append] at h
    rcases h with h | h
    · exact g.1.off a h
    · exact RsAll.off g.2 a h
  | [], [], _ :: _, g, _, _ => g.elim
  | [], _ :: _, _, g, _, _ => g.elim
  | _ :: _, [], _, g, _, _ => g.elim
  | _ :: _, _ :: _, [], g, _, _ => g.elim
theorem RsAll.keep {F F' : Addr → Prop} (x : Fr B H F B' H' F') (hf : ∀ a, InF fs' a → F' a) : ∀ {vs : List V} {rs : List Rs} {Ts : List (List Addr)}, RsAll K B H σ fs vs rs Ts → (∀ a ∈ Ts.flatten, ¬ F a) → RsAll K B' H' σ fs' vs rs Ts
  | [], [], [], _, _ => True.intro
  | v :: vs, r :: rs, T :: Ts, g, n =>
    ⟨g.1.keep x (fun a ha => n a (by rw [List.flatten_cons]; exact List.mem_append_left _ ha)) hf, RsAll.keep x hf g.2 fun a ha => n a (by rw [List.flatten_cons]; exact List.mem_append_right _ ha)⟩
  | [], [], _ :: _, g, _ => g.elim
  | [], _ :: _, _, g, _ => g.elim
  | _ :: _, [], _, g, _ => g.elim
  | _ :: _, _ :: _, [], g, _ => g.elim
end
section
variable (K : PySem.W.Frag) (vs0 : List V)
def rdE (f : M Rs) : TE := fun σ H Q => ∃ B ρ fs, Good K vs0 B H σ ρ fs ∧ ∃ r ρ', f ρ = some (.ok r ρ') ∧
  ∀ v B' H' fs' T, Fr B H (InF fs) B' H' (UnF (InF fs') T) → Good K vs0 B' H' σ ρ' fs' → RsOk K B' H' σ fs' v r T → Q v H'
def rdA (f : M (List Rs)) : TA := fun σ H Q => ∃ B ρ fs, Good K vs0 B H σ ρ fs ∧ ∃ rs ρ', f ρ = some (.ok rs ρ') ∧
  ∀ vs B' H' fs' Ts, Fr B H (InF fs) B' H' (UnF (InF fs') Ts.flatten) → Good K vs0 B' H' σ ρ' fs' → RsAll K B' H' σ fs' vs rs Ts → Ts.flatten.Nodup → Q vs H'
def rdT (f : M Bool) : TT := fun σ H Q => ∃ B ρ fs, Good K vs0 B H σ ρ fs ∧ ∃ b ρ', f ρ = some (.ok b ρ') ∧
  ∀ B' H' fs', Fr B H (InF fs) B' H' (InF fs') → Good K vs0 B' H' σ ρ' fs' → Q b H'
def rdS (g : M Fl) : TS := fun D σ H => ∃ B ρ fs, Good K vs0 B H σ ρ fs ∧ ∃ fl ρ', g ρ = some (.ok fl ρ') ∧
  match fl with
  | .nx => ∀ σ' B' H' fs', Fr B H (InF fs) B' H' (InF fs') → Good K vs0 B' H' σ' ρ' fs' → D.nx σ' H'
  | .bk => ∀ σ' B' H' fs', Fr B H (InF fs) B' H' (InF fs') → Good K vs0 B' H' σ' ρ' fs' → D.bk σ' H'
  | .ct => ∀ σ' B' H' fs', Fr B H (InF fs) B' H' (InF fs') → Good K vs0 B' H' σ' ρ' fs' → D.ct σ' H'
  | .rt s => ∀ v σ' B' H' fs' T, Fr B H (InF fs) B' H' (UnF (InF fs') T) → Good K vs0 B' H' σ' ρ' fs' → RsOk K B' H' σ' fs' v (.own s) T → D.rt v H'
end
def eName (i : Nat) : M Rs := fun ρ => match ρ[i]? with
  | some (some (.p d)) => some (.ok (.own (.p d)) ρ)
  | some (some (.ex c f)) => some (.ok (.own (.ex c f)) ρ)
  | some (some (.fd l)) => some (.ok (.own (.fd l)) ρ)
  | some (some (.hl _)) => none
  | some (some _) => some (.ok (.bor i) ρ)
  | _ => none
def eC (d : D) : M Rs := fun ρ => some (.ok (.own (.p d)) ρ)
section
variable {X : Cx} {vs0 : List V}
theorem fr_unr {B H : Hp} {fs : Nat → List Addr} : Fr B H (InF fs) B H (UnF (InF fs) []) := (Fr.refl B H (InF fs)).weak (fun _ h => h) fun a h => by
  rcases h with h | h
  · exact Or.inl h
  · cases h
theorem de_var {i : Nat} {e : Expr} (h : PE X e (tVar i)) : PE X e (rdE X.K vs0 (eName i)) := PE.imp h fun σ H Q q => by
  obtain ⟨B, ρ, fs, g, r, ρ', e1, k⟩ := q
  unfold eName at e1
  split at e1
  · rename_i d e2
    cases e1
    obtain ⟨v, h1, h2, _⟩ := g.at_ i _ e2
    exact ⟨v, h1, k v B H fs [] fr_unr g ⟨⟨h2.1, rfl⟩, rfl, fun a ha => nomatch ha⟩⟩
  · rename_i c f e2
    cases e1
    obtain ⟨v, h1, h2, _⟩ := g.at_ i _ e2
    exact ⟨v, h1, k v B H fs [] fr_unr g ⟨⟨h2.1, rfl⟩, rfl, fun a ha => nomatch ha⟩⟩
  · rename_i l e2
    cases e1
    obtain ⟨v, h1, h2, _⟩ := g.at_ i _ e2
    exact ⟨v, h1, k v B H fs [] fr_unr g ⟨⟨h2.1, rfl⟩, rfl, fun a ha => nomatch ha⟩⟩
  · cases e1
  · rename_i s _ _ _ _ e2
    cases e1
    obtain ⟨v, h1, h2, _⟩ := g.at_ i _ e2
    exact ⟨v, h1, k v B H fs [] fr_unr g ⟨h1, rfl⟩⟩
  · cases e1
theorem de_c {e : Expr} {v : V} {d : D} (h : PE X e (tC v)) (hd : ∀ B, Dp X.K B v d) : PE X e (rdE X.K vs0 (eC d)) := PE.imp h fun σ H Q q => by
  obtain ⟨B, ρ, fs, g, r, ρ', e1, k⟩ := q
  cases e1
  exact k v B H fs [] fr_unr g ⟨⟨hd B, rfl⟩, rfl, fun a ha => nomatch ha⟩
theorem de_int {i j pos} : PE X (.Constant (.int i) j pos) (rdE X.K vs0 (eC (.int i))) := de_c pe_int fun _ => .int i
theorem de_bl {b j pos} : PE X (.Constant (.bool b) j pos) (rdE X.K vs0 (eC (.bool b))) := de_c pe_bl fun _ => .bl b
theorem de_non {j pos} : PE X (.Constant .none j pos) (rdE X.K vs0 (eC .none)) := de_c pe_non fun _ => .non
theorem de_str {x j pos} : PE X (.Constant (.str x) j pos) (rdE X.K vs0 (eC (.str x))) := de_c pe_str fun _ => .str x
end
def aNil : M (List Rs) := M.ret []
def aCons (f : M Rs) (g : M (List Rs)) : M (List Rs) := M.bind f fun r => M.bind g fun rs => M.ret (r :: rs)
section
variable {X : Cx} {vs0 : List V} {K : PySem.W.Frag}
theorem da_nil : PA X [] (rdA X.K vs0 aNil) := PA.imp pa_nil fun σ H Q q => by
  obtain ⟨B, ρ, fs, g, r, ρ', e1, k⟩ := q
  cases e1
  exact k [] B H fs [] fr_unr g True.intro List.nodup_nil
theorem rd_cons {fe : M Rs} {fa : M (List Rs)} {σ : L2.St} {H : Hp} {Q : List V → Hp → Prop} (q : rdA K vs0 (aCons fe fa) σ H Q) :
    rdE K vs0 fe σ H fun x H1 => rdA K vs0 fa σ H1 fun xs H2 => Q (x :: xs) H2 := by
  obtain ⟨B, ρ, fs, g, rs, ρ', e1, k⟩ := q
  obtain ⟨r, ρ1, e2, e3⟩ := M.bind_ok e1
  obtain ⟨rr, ρ2, e4, e5⟩ := M.bind_ok e3
  cases e5
  refine ⟨B, ρ, fs, g, r, ρ1, e2, fun v B1 H1 fs1 T1 fr1 g1 ok1 => ⟨B1, ρ1, fs1, g1, rr, ρ', e4, fun vs B2 H2 fs2 Ts fr2 g2 ok2 nd2 => ?_⟩⟩
  have n1 : ∀ a ∈ T1, ¬ InF fs1 a := ok1.off
  refine k (v :: vs) B2 H2 fs2 (T1 :: Ts) ?_ g2 ⟨ok1.keep fr2 n1 fun a h => Or.inl h, ok2⟩ ?_
  · refine fr1.trans ((fr2.frame T1).weak (fun a h => h) fun a h => ?_)
    rw [List.flatten_cons] at h
    rcases h with h | h
    · exact Or.inl (Or.inl (Or.inl h))
    · rw [List.mem_append] at h
      rcases h with h | h
      · exact Or.inl (Or.inr h)
      · exact Or.inl (Or.inl (Or.inr h))
  · rw [List.flatten_cons, List.nodup_append]
    refine ⟨ok1.nodup, nd2, fun a ha b hb e => ?_⟩
    subst e
    rcases fr2.own a (Or.inr hb) with q | q
    · exact n1 a ha q
    · exact ok1.live a ha q
theorem da_cons {e : Expr} {es : List Expr} {fe : M Rs} {fa : M (List Rs)} (he : PE X e (rdE X.K vs0 fe)) (ha : PA X es (rdA X.K vs0 fa)) (hs : starEach (e :: es) X.env = (false, eval e X.env) :: starEach es X.env := by rfl) :
    PA X (e :: es) (rdA X.K vs0 (aCons fe fa)) := PA.imp (pa_cons he ha hs) fun σ H Q q => rd_cons q
end
def OpOk (K : PySem.W.Frag) (r : List V → Hp → VK → Prop) (op : List Rs → M Rs) : Prop :=
  ∀ (vs0 : List V) (σ : L2.St) (B H : Hp) (ρ : Env) (fs : Nat → List Addr) (vs : List V) (rs : List Rs) (Ts : List (List Addr)) (Q : VK), Good K vs0 B H σ ρ fs → RsAll K B H σ fs vs rs Ts → Ts.flatten.Nodup →
    ∀ r' ρ', op rs ρ = some (.ok r' ρ') →
    (∀ v B' H' fs' T, Fr B H (UnF (InF fs) Ts.flatten) B' H' (UnF (InF fs') T) → Good K vs0 B' H' σ ρ' fs' → RsOk K B' H' σ fs' v r' T → Q v H') → r vs H Q
section
variable {X : Cx} {vs0 : List V} {K : PySem.W.Frag} {r : List V → Hp → VK → Prop} {op : List Rs → M Rs}
theorem rd_op {fa : M (List Rs)} (ho : OpOk K r op) {σ : L2.St} {H : Hp} {Q : VK} (q : rdE K vs0 (M.bind fa op) σ H Q) : rdA K vs0 fa σ H fun vs H1 => r vs H1 Q := by
  obtain ⟨B, ρ, fs, g, r', ρ', e1, k⟩ := q
  obtain ⟨rs, ρ1, e2, e3⟩ := M.bind_ok e1
  refine ⟨B, ρ, fs, g, rs, ρ1, e2, fun vs B1 H1 fs1 Ts fr1 g1 ok1 nd1 => ?_⟩
  exact ho vs0 σ B1 H1 ρ1 fs1 vs rs Ts Q g1 ok1 nd1 r' ρ' e3 fun v B2 H2 fs2 T fr2 g2 ok2 => k v B2 H2 fs2 T (fr1.trans fr2) g2 ok2
theorem rdA_nil {σ : L2.St} {H : Hp} {Q : List V → Hp → Prop} (q : rdA K vs0 aNil σ H Q) : Q [] H := by
  obtain ⟨B, ρ, fs, g, r, ρ', e1, k⟩ := q
  cases e1
  exact k [] B H fs [] fr_unr g True.intro List.nodup_nil
def r2 (r : R2) : List V → Hp → VK → Prop := fun vs H Q => ∃ x y, vs = [x, y] ∧ r x y H Q
def eBin (fa fb : M Rs) (op : List Rs → M Rs) : M Rs := M.bind (aCons fa (aCons fb aNil)) op
theorem rdE_imp {f : M Rs} {σ : L2.St} {H : Hp} {Q Q' : VK} (q : rdE K vs0 f σ H Q) (i : ∀ v H', Q v H' → Q' v H') : rdE K vs0 f σ H Q' := by
  obtain ⟨B, ρ, fs, g, r, ρ', e1, k⟩ := q
  exact ⟨B, ρ, fs, g, r, ρ', e1, fun v B' H' fs' T a b c => i _ _ (k v B' H' fs' T a b c)⟩
theorem rd_bin {fa fb : M Rs} {r : R2} (ho : OpOk K (r2 r) op) {σ : L2.St} {H : Hp} {Q : VK} (q : rdE K vs0 (eBin fa fb op) σ H Q) : tOp r (rdE K vs0 fa) (rdE K vs0 fb) σ H Q := by
  refine rdE_imp (rd_cons (rd_op ho q)) fun x H1 q1 => rdE_imp (rd_cons q1) fun y H2 q2 => ?_
  obtain ⟨x', y', e, q3⟩ := rdA_nil q2
  cases e
  exact q3
theorem de_op {a b : Expr} {fa fb : M Rs} {oper : Operator} {r : R2} {pos : Pos} (ho : OpR X (binaryOp oper) r) (hp : OpOk X.K (r2 r) op) (ha : PE X a (rdE X.K vs0 fa)) (hb : PE X b (rdE X.K vs0 fb)) : PE X (.BinOp a oper b pos) (rdE X.K vs0 (eBin fa fb op)) :=
  PE.imp (pe_op ho ha hb) fun _ _ _ q => rd_bin hp q
theorem de_cmp {a b : Expr} {fa fb : M Rs} {oper : CmpOp} {r : R2} {pos : Pos} (ho : OpR X (compareOp oper) r) (hp : OpOk X.K (r2 r) op) (ha : PE X a (rdE X.K vs0 fa)) (hb : PE X b (rdE X.K vs0 fb)) (hm : behindInMarks oper b = false) : PE X (.Compare a [oper] [b] pos) (rdE X.K vs0 (eBin fa fb op)) :=
  PE.imp (pe_cmpR ho ha hb hm) fun _ _ _ q => rd_bin hp q
theorem de_ix {a b : Expr} {fa fb : M Rs} {r : R2} {pos : Pos} (ho : IxR X r) (hp : OpOk X.K (r2 r) op) (ha : PE X a (rdE X.K vs0 fa)) (hb : PE X b (rdE X.K vs0 fb)) (hs : PlainIx b) : PE X (.Subscript a b pos) (rdE X.K vs0 (eBin fa fb op)) :=
  PE.imp (pe_ix ho ha hb hs) fun _ _ _ q => rd_bin hp q
end
section
variable {X : Cx} {vs0 : List V} {r : List V → Hp → VK → Prop} {op : List Rs → M Rs} {x : Str} {p pos : Pos} {e : Expr} {es : List Expr} {id T : String} {fa : M (List Rs)}
theorem de_callB (hc : CallR X (.builtin id) r) (hp : OpOk X.K r op) (hg : Gl X x) (hm : X.mg x = none) (hv : bootBuiltins x = some (.builtin id)) (ha : PA X (e :: es) (rdA X.K vs0 fa)) (hn : x ≠ "__name__" := by decide) (hdb : (x == ("__debug__" : Str)) = false := by decide)
    (he : starEach (e :: es) X.env = (false, eval e X.env) :: starEach es X.env := by rfl) (hpl : (backTo pos (starEach es X.env)).any (·.1) = false := by rfl) : PE X (.Call (.Name x p) (e :: es) [] pos) (rdE X.K vs0 (M.bind fa op)) :=
  PE.imp (pe_callB hc hg hm hv ha hn hdb he hpl) fun _ _ _ q => rd_op hp q
theorem de_callTy (hc : CallR X (.type T) r) (hp : OpOk X.K r op) (hg : Gl X x) (hm : X.mg x = none) (hv : bootBuiltins x = some (.type T)) (ha : PA X (e :: es) (rdA X.K vs0 fa)) (hn : x ≠ "__name__" := by decide) (hdb : (x == ("__debug__" : Str)) = false := by decide)
    (he : starEach (e :: es) X.env = (false, eval e X.env) :: starEach es X.env := by rfl) (hpl : (backTo pos (starEach es X.env)).any (·.1) = false := by rfl) : PE X (.Call (.Name x p) (e :: es) [] pos) (rdE X.K vs0 (M.bind fa op)) :=
  PE.imp (pe_callTy hc hg hm hv ha hn hdb he hpl) fun _ _ _ q => rd_op hp q
end
end Pd
set_option Elab.async false
set_option linter.all false
set_option maxRecDepth 100000
set_option maxHeartbeats 1000000
namespace Pd
open PySem PySem.Spec PyProof.Rows L2
def ShD (K : PySem.W.Frag) (B H : Hp) (v : V) : D → Prop
  | .list l => ∃ a xs, v = .ref a ∧ SqL K H a xs ∧ DpAll K B xs l
  | d => Dp K B v d
def ShAll (K : PySem.W.Frag) (B H : Hp) : List V → List D → Prop
  | [], [] => True
  | v :: vs, d :: ds => ShD K B H v d ∧ ShAll K B H vs ds
  | _, _ => False
section
variable {K : PySem.W.Frag} {B H : Hp} {v : V} {d : D}
theorem ShD.of (e : Same B H) (h : Dp K B v d) : ShD K B H v d := by
  cases d with
  | list l =>
    cases h with
    | lst h1 h2 => exact ⟨_, _, rfl, sql_mono e h1, h2⟩
  | _ => exact h
theorem ShD.dp (e : Same B H) (h : ShD K B H v d) : Dp K H v d := by
  cases d with
  | list l =>
    obtain ⟨a, xs, rfl, h1, h2⟩ := h
    exact .lst h1 (DpAll.mono e h2)
  | _ => exact Dp.mono e h
theorem ShAll.dp (e : Same B H) : ∀ {vs : List V} {ds : List D}, ShAll K B H vs ds → DpAll K H vs ds
  | [], [], _ => .nil
  | v :: vs, d :: ds, h => .cons (ShD.dp e h.1) (ShAll.dp e h.2)
  | [], _ :: _, h => h.elim
  | _ :: _, [], h => h.elim
theorem ShD.tup {xs : List D} (h : ShD K B H v (.tuple xs)) : ∃ a vs, v = .ref a ∧ SqT K B a vs ∧ DpAll K B vs xs := by
  have h' : Dp K B v (.tuple xs) := h
  cases h' with
  | tup h1 h2 => exact ⟨_, _, rfl, h1, h2⟩
theorem ShD.int {i : Int} (h : ShD K B H v (.int i)) : v = .int i := by
  have h' : Dp K B v (.int i) := h
  cases h'; rfl
theorem ShD.str {i : Str} (h : ShD K B H v (.str i)) : v = .str i := by
  have h' : Dp K B v (.str i) := h
  cases h'; rfl
theorem ShD.bool {i : Bool} (h : ShD K B H v (.bool i)) : v = .bl i := by
  have h' : Dp K B v (.bool i) := h
  cases h'; rfl
theorem ShD.non (h : ShD K B H v .none) : v = .non := by
  have h' : Dp K B v .none := h
  cases h'; rfl
theorem ShAll.one {vs : List V} {a : D} (h : ShAll K B H vs [a]) : ∃ x, vs = [x] ∧ ShD K B H x a := by
  match vs, h with
  | [x], h => exact ⟨x, rfl, h.1⟩
theorem ShAll.two {vs : List V} {a b : D} (h : ShAll K B H vs [a, b]) : ∃ x y, vs = [x, y] ∧ ShD K B H x a ∧ ShD K B H y b := by
  match vs, h with
  | [x, y], h => exact ⟨x, y, rfl, h.1, h.2.1⟩
end
def Rs.view : Rs → Env → Option D
  | .own (.p d), _ => some d
  | .own (.ml _ l), _ => some (.list l)
  | .own _, _ => none
  | .bor i, ρ => match ρ[i]? with
    | some (some (.ml _ l)) => some (.list l)
    | some (some (.p d)) => some d
    | _ => none
  | .lent _ _ _, _ => none
def viewAll : List Rs → Env → Option (List D)
  | [], _ => some []
  | r :: rs, ρ => match r.view ρ with
    | some d => match viewAll rs ρ with
      | some ds => some (d :: ds)
      | none => none
    | none => none
section
variable {K : PySem.W.Frag} {vs0 : List V} {B H : Hp} {σ : L2.St} {ρ : Env} {fs : Nat → List Addr}
theorem view_ok {v : V} {r : Rs} {T : List Addr} {d : D} (g : Good K vs0 B H σ ρ fs) (h : RsOk K B H σ fs v r T) (e : r.view ρ = some d) : ShD K B H v d := by
  cases r with
  | own s =>
    cases s with
    | p d' => cases e; exact ShD.of g.ext h.1.1
    | ml t l =>
      cases e
      obtain ⟨⟨a, xs, rfl, _, h1, h2⟩, _⟩ := h
      exact ⟨a, xs, rfl, SqL.of h1, h2⟩
    | md t l => cases e
    | mr t l => cases e
    | ob t c ns l => cases e
    | ex c f => cases e
    | fd l => cases e
    | hl t => cases e
    | tp l => cases e
  | lent i s k => cases e
  | bor i =>
    unfold Rs.view at e
    dsimp only at e
    split at e
    · rename_i t l e2
      cases e
      obtain ⟨v', h1, ⟨a, xs, rfl, _, h2, h3⟩, _⟩ := g.at_ i _ e2
      have hh : σ[i]? = some (some v) ∧ T = [] := h
      rw [h1] at hh
      cases hh.1
      exact ⟨a, xs, rfl, SqL.of h2, h3⟩
    · rename_i d' e2
      cases e
      obtain ⟨v', h1, h2, _⟩ := g.at_ i _ e2
      have hh : σ[i]? = some (some v) ∧ T = [] := h
      rw [h1] at hh
      cases hh.1
      exact ShD.of g.ext h2.1
    · cases e
theorem viewAll_ok (g : Good K vs0 B H σ ρ fs) : ∀ {vs : List V} {rs : List Rs} {Ts : List (List Addr)} {ds : List D}, RsAll K B H σ fs vs rs Ts → viewAll rs ρ = some ds → ShAll K B H vs ds
  | [], [], [], ds, _, e => by cases e; exact True.intro
  | v :: vs, r :: rs, T :: Ts, ds, h, e => by
    unfold viewAll at e
    split at e
    · rename_i d e1
      split at e
      · rename_i ds' e2
        cases e
        exact ⟨view_ok g h.1 e1, viewAll_ok g h.2 e2⟩
      · cases e
    · cases e
  | [], [], _ :: _, _, g, _ => g.elim
  | [], _ :: _, _, _, g, _ => g.elim
  | _ :: _, [], _, _, g, _ => g.elim
  | _ :: _, _ :: _, [], _, g, _ => g.elim
end
inductive Rd' where
  | pd (d : D)
  | nl (l : List D)
def Rd'.rs : Rd' → Rs
  | .pd d => .own (.p d)
  | .nl l => .own (.ml none l)
def ResK (K : PySem.W.Frag) (B H : Hp) (Q : VK) : Rd' → Prop
  | .pd d => ∀ v B' H', Fr B H (fun _ => False) B' H' (fun _ => False) → Same B' H' → Dp K B' v d → Q v H'
  | .nl l => ∀ p xs, H p = none → DpAll K B xs l → Q (.ref p) (upd H p (.lst xs))
def opG (pf : List D → Option Rd') : List Rs → M Rs := fun rs ρ => match viewAll rs ρ with
  | some ds => match pf ds with
    | some res => some (.ok res.rs ρ)
    | none => none
  | none => none
theorem opG_ok {K : PySem.W.Frag} {r : List V → Hp → VK → Prop} {pf : List D → Option Rd'} (h : ∀ B H vs ds res Q, Same B H → ShAll K B H vs ds → pf ds = some res → ResK K B H Q res → r vs H Q) : OpOk K r (opG pf) := by
  intro vs0 σ B H ρ fs vs rs Ts Q g ok nd r' ρ' e k
  unfold opG at e
  split at e
  · rename_i ds e1
    split at e
    · rename_i res e2
      cases e
      refine h B H vs ds res Q g.ext (viewAll_ok g ok e1) e2 ?_
      cases res with
      | pd d =>
        intro v B' H' fr ex hd
        refine k v B' H' fs [] (fr.weak (fun _ f => f.elim) fun a f => ?_) (g.grow fr (fun _ _ f => f) ex) ⟨⟨hd, rfl⟩, rfl, fun a ha => nomatch ha⟩
        rcases f with f | f
        · exact Or.inr (Or.inl (Or.inl f))
        · cases f
      | nl l =>
        intro p xs hp hd
        have fr := Fr.newL (B := B) (o := HO.lst xs) hp
        refine k (.ref p) B _ fs [p] (fr.weak (fun _ f => f.elim) fun a f => ?_) (g.grow fr (fun _ _ f => f) (g.ext.trans fr.sameH)) ⟨⟨p, xs, rfl, rfl, upd_same, hd⟩, rfl, fun a ha => ?_⟩
        · rcases f with f | f
          · exact Or.inr (Or.inl (Or.inl f))
          · exact Or.inl f
        · simp at ha
          subst ha
          refine ⟨?_, fun i hi => g.lives hi hp⟩
          cases e : B a with
          | none => rfl
          | some u => rw [g.ext a u e] at hp; cases hp
    · cases e
  · cases e
section
variable {K : PySem.W.Frag} {B H : Hp} {Q : VK}
theorem ResK.same {d : D} (k : ResK K B H Q (.pd d)) (e : Same B H) {v : V} (h : Dp K B v d) : Q v H := k v B H (Fr.refl B H _) e h
theorem ResK.int {i : Int} (k : ResK K B H Q (.pd (.int i))) (e : Same B H) : Q (.int i) H := k.same e (.int i)
theorem ResK.str {i : Str} (k : ResK K B H Q (.pd (.str i))) (e : Same B H) : Q (.str i) H := k.same e (.str i)
theorem ResK.bool {i : Bool} (k : ResK K B H Q (.pd (.bool i))) (e : Same B H) : Q (.bl i) H := k.same e (.bl i)
theorem ResK.non (k : ResK K B H Q (.pd .none)) (e : Same B H) : Q .non H := k.same e .non
theorem ResK.tup {l : List D} (k : ResK K B H Q (.pd (.tuple l))) (e : Same B H) {p : Addr} {xs : List V} (hp : H p = none) (h : DpAll K B xs l) : Q (.ref p) (upd H p (.tup xs)) :=
  k _ _ _ (Fr.new hp e) (same_upd e) (.tup (SqT.of upd_same) (DpAll.mono (Fr.new hp e).bb h))
end
theorem r2_or {r r' : R2} {vs : List V} {H : Hp} {Q : VK} : r2 (fun x y H Q => r x y H Q ∨ r' x y H Q) vs H Q ↔ r2 r vs H Q ∨ r2 r' vs H Q := by
  constructor
  · rintro ⟨x, y, rfl, h | h⟩
    · exact Or.inl ⟨x, y, rfl, h⟩
    · exact Or.inr ⟨x, y, rfl, h⟩
  · rintro (⟨x, y, rfl, h⟩ | ⟨x, y, rfl, h⟩)
    · exact ⟨x, y, rfl, Or.inl h⟩
    · exact ⟨x, y, rfl, Or.inr h⟩
section
variable {prog : Program} {w : World} {A : Around} {E : Value → Shared → Prop} {s : Shared}
theorem add_listsH {l b : Addr} {vs ws : List Value} {Q : Value → Shared → Prop} (hl : s.heap.IsList l vs.toArray) (hb : s.heap.IsList b ws.toArray)
    (h : Q (.ref s.heap.objs.size) { s with heap := s.heap.push { cls := .type "list", data := .seq (vs ++ ws).toArray } }) (hsz : vs.length + ws.length ≤ sizeLine) :
    wpAny (model prog w) A (binaryOp .Add (.ref l) (.ref b)) Q E s := by
  obtain ⟨⟨cls, dd, data, sl⟩, ho, hc, n, hd⟩ := id hl
  obtain ⟨⟨cls2, dd2, data2, sl2⟩, ho2, hc2, n2, hd2⟩ := id hb
  simp only at hc hd hc2 hd2
  subst hc hd hc2 hd2
  have e : vs.toArray ++ ws.toArray = (vs ++ ws).toArray := by simp
  refine concat_meets ⟨_, ho, rfl⟩ ⟨_, ho2, rfl⟩ noFill_list_add seq_list_add PySem.F.slot_list_add PySem.F.entry_list_add (PySem.F.args_list_add_2 _ _) (list_addW l b vs.toArray ws.toArray n n2 dd dd2 sl sl2 (by simpa using hsz)) ⟨ho, ho2, ?_⟩
  rw [e]
  exact h
end
def rCatS (K : PySem.W.Frag) : R2 := fun x y H Q => ∃ l b xs zs, x = .ref l ∧ y = .ref b ∧ SqL K H l xs ∧ SqL K H b zs ∧ xs.length + zs.length ≤ sizeLine ∧ ∀ p, H p = none → Q (.ref p) (upd H p (.lst (xs ++ zs)))
section
variable {X : Cx}
theorem op_catS : OpR X (binaryOp .Add) (rCatS X.K) := by
  intro pins s σ H x y v u Q I rx ry h
  obtain ⟨l, b, xs, zs, rfl, rfl, hH, hB, hz, q⟩ := h
  cases rx
  cases ry
  obtain ⟨its, r, e, z⟩ := I.list hH
  obtain ⟨its2, r2, e2, z2⟩ := I.list hB
  refine add_listsH e.isList e2.isList ?_ (by rw [← r.length, ← r2.length]; exact hz)
  exact ⟨.ref _, _, I.lnew (t' := s.toks) (r.append r2) (by rw [List.length_append]; omega), rfl, q _ I.fresh⟩
abbrev rAddAll (K : PySem.W.Frag) : R2 := fun x y H Q => (rI0 fun i j => V.int (i + j)) x y H Q ∨ (fun x y H Q => (fun x y H Q => ∃ i j, x = .str i ∧ y = .str j ∧ i.length + j.length ≤ sizeLine ∧ Q (.str (i ++ j)) H) x y H Q ∨ (fun x y H Q => rCatA K x y H Q ∨ rCatS K x y H Q) x y H Q) x y H Q
theorem op_addAll : OpR X (binaryOp .Add) (rAddAll X.K) := OpR.or op_add (OpR.or op_add_str (OpR.or op_catA op_catS))
end
def pAdd : List D → Option Rd'
  | [.int a, .int b] => some (.pd (.int (a + b)))
  | [.str a, .str b] => if a.length + b.length ≤ sizeLine then some (.pd (.str (a ++ b))) else none
  | [.tuple a, .tuple b] => if a.length + b.length ≤ sizeLine then some (.pd (.tuple (a ++ b))) else none
  | [.list a, .list b] => if a.length + b.length ≤ sizeLine then some (.nl (a ++ b)) else none
  | _ => none
def oAdd := opG pAdd
theorem oAdd_ok {K : PySem.W.Frag} : OpOk K (r2 (rAddAll K)) oAdd := opG_ok fun B H vs ds res Q e hs hp k => by
  unfold pAdd at hp
  split at hp
  · obtain ⟨x, y, rfl, h1, h2⟩ := hs.two
    cases hp
    exact ⟨_, _, rfl, Or.inl ⟨_, _, h1.int, h2.int, k.int e⟩⟩
  · split at hp
    · rename_i hl
      obtain ⟨x, y, rfl, h1, h2⟩ := hs.two
      cases hp
      exact ⟨_, _, rfl, Or.inr (Or.inl ⟨_, _, h1.str, h2.str, hl, k.str e⟩)⟩
    · cases hp
  · split at hp
    · rename_i a b hl
      obtain ⟨x, y, rfl, h1, h2⟩ := hs.two
      cases hp
      obtain ⟨p, xs, rfl, s1, d1⟩ := h1.tup
      obtain ⟨q, ys, rfl, s2, d2⟩ := h2.tup
      have l1 := DpAll.length d1
      have l2 := DpAll.length d2
      refine ⟨_, _, rfl, Or.inr (Or.inr (Or.inl ⟨p, q, xs, ys, rfl, rfl, sqt_mono e s1, sqt_mono e s2, by rw [l1, l2]; exact hl, fun z => ?_, fun _ z => ?_, fun _ _ t ht => ?_⟩))⟩
      · subst z
        have : a = [] := by cases a with
          | nil => rfl
          | cons _ _ => simp at l1
        subst this
        exact k.same e (.tup s2 d2)
      · subst z
        have : b = [] := by cases b with
          | nil => rfl
          | cons _ _ => simp at l2
        subst this
        rw [List.append_nil] at k
        exact k.same e (.tup s1 d1)
      · exact k.tup e ht (DpAll.append d1 d2)
    · cases hp
  · split at hp
    · rename_i a b hl
      obtain ⟨x, y, rfl, ⟨p, xs, rfl, s1, d1⟩, ⟨q, ys, rfl, s2, d2⟩⟩ := hs.two
      cases hp
      exact ⟨_, _, rfl, Or.inr (Or.inr (Or.inr ⟨p, q, xs, ys, rfl, rfl, s1, s2, by rw [DpAll.length d1, DpAll.length d2]; exact hl, fun t ht => k t _ ht (DpAll.append d1 d2)⟩))⟩
    · cases hp
  · cases hp
def pInt (C : Int → Int → Prop) [∀ a b, Decidable (C a b)] (f : Int → Int → Int) : List D → Option Rd'
  | [.int a, .int b] => if C a b then some (.pd (.int (f a b))) else none
  | _ => none
theorem oInt_ok {K : PySem.W.Frag} {C : Int → Int → Prop} [∀ a b, Decidable (C a b)] {f : Int → Int → Int} : OpOk K (r2 (rI C fun a b => .int (f a b))) (opG (pInt C f)) := opG_ok fun B H vs ds res Q e hs hp k => by
  unfold pInt at hp
  split at hp
  · split at hp
    · rename_i hc
      obtain ⟨x, y, rfl, h1, h2⟩ := hs.two
      cases hp
      exact ⟨_, _, rfl, _, _, h1.int, h2.int, hc, k.int e⟩
    · cases hp
  · cases hp
def pSub : List D → Option Rd'
  | [.int a, .int b] => some (.pd (.int (a - b)))
  | _ => none
def oSub := opG pSub
theorem oSub_ok {K : PySem.W.Frag} : OpOk K (r2 (rI0 fun a b => .int (a - b))) oSub := opG_ok fun B H vs ds res Q e hs hp k => by
  unfold pSub at hp
  split at hp
  · obtain ⟨x, y, rfl, h1, h2⟩ := hs.two
    cases hp
    exact ⟨_, _, rfl, _, _, h1.int, h2.int, k.int e⟩
  · cases hp
instance (i j : Int) : Decidable (CMulW i j) := by unfold CMulW; infer_instance
instance (i j : Int) : Decidable (CDivW i j) := by unfold CDivW; infer_instance
def oDiv := opG (pInt CDivW fun i j => i / j)
def oMod := opG (pInt (fun _ j => 0 < j) fun i j => i % j)
theorem oDiv_ok {K : PySem.W.Frag} : OpOk K (r2 (rI CDivW fun i j => .int (i / j))) oDiv := oInt_ok
theorem oMod_ok {K : PySem.W.Frag} : OpOk K (r2 (rI (fun _ j => 0 < j) fun i j => .int (i % j))) oMod := oInt_ok
end Pd
set_option Elab.async false
set_option linter.all false
set_option maxRecDepth 100000
set_option maxHeartbeats 1000000
namespace Pd
open PySem PySem.Spec PyProof.Rows L2
theorem OpOk.or {K : PySem.W.Frag} {r r' : List V → Hp → VK → Prop} {op op' : List Rs → M Rs} (h : OpOk K r op) (h' : OpOk K r' op') : OpOk K (fun vs H Q => r vs H Q ∨ r' vs H Q) (fun rs ρ => match op rs ρ with
    | some x => some x
    | none => op' rs ρ) := by
  intro vs0 σ B H ρ fs vs rs Ts Q g ok nd r2 ρ' e k
  dsimp only at e
  split at e
  · rename_i x e1
    cases e
    exact Or.inl (h vs0 σ B H ρ fs vs rs Ts Q g ok nd r2 ρ' e1 k)
  · exact Or.inr (h' vs0 σ B H ρ fs vs rs Ts Q g ok nd r2 ρ' e k)
theorem RsAll.two {K : PySem.W.Frag} {B H : Hp} {σ : L2.St} {fs : Nat → List Addr} {vs : List V} {r1 r2 : Rs} {Ts : List (List Addr)} (h : RsAll K B H σ fs vs [r1, r2] Ts) :
    ∃ x y T1 T2, vs = [x, y] ∧ Ts = [T1, T2] ∧ RsOk K B H σ fs x r1 T1 ∧ RsOk K B H σ fs y r2 T2 := by
  match vs, Ts with
  | [x, y], [T1, T2] => exact ⟨x, y, T1, T2, rfl, rfl, h.1, h.2.1⟩
  | [], _ => exact h.elim
  | _ :: _, [] => exact h.elim
  | [_], [_] => exact h.2.elim
  | [_], _ :: _ :: _ => exact h.2.elim
  | _ :: _ :: _, [_] => exact h.2.elim
  | _ :: _ :: _ :: _, [_, _] => exact h.2.2.elim
  | [_, _], _ :: _ :: _ :: _ => exact h.2.2.elim
  | _ :: _ :: _ :: _, _ :: _ :: _ :: _ => exact h.2.2.elim
theorem RsAll.one {K : PySem.W.Frag} {B H : Hp} {σ : L2.St} {fs : Nat → List Addr} {vs : List V} {r1 : Rs} {Ts : List (List Addr)} (h : RsAll K B H σ fs vs [r1] Ts) :
    ∃ x T1, vs = [x] ∧ Ts = [T1] ∧ RsOk K B H σ fs x r1 T1 := by
  match vs, Ts with
  | [x], [T1] => exact ⟨x, T1, rfl, rfl, h.1⟩
  | [], _ => exact h.elim
  | _ :: _, [] => exact h.elim
  | _ :: _ :: _, [_] => exact h.2.elim
  | [_], _ :: _ :: _ => exact h.2.elim
  | _ :: _ :: _, _ :: _ :: _ => exact h.2.elim
def oRep : List Rs → M Rs := fun rs ρ => match rs with
  | [.own (.ml _ l), .own (.p (.int k))] => if -(2 ^ 63) ≤ k ∧ k < 2 ^ 63 ∧ l.length * k.toNat ≤ sizeLine then some (.ok (.own (.ml none (List.replicate k.toNat l).flatten)) ρ) else none
  | _ => none
theorem DpAll.rep {K : PySem.W.Frag} {B : Hp} {xs : List V} {ds : List D} (h : DpAll K B xs ds) : ∀ n : Nat, DpAll K B (List.replicate n xs).flatten (List.replicate n ds).flatten
  | 0 => .nil
  | n + 1 => by
    rw [List.replicate_succ, List.replicate_succ, List.flatten_cons, List.flatten_cons]
    exact DpAll.append h (DpAll.rep h n)
theorem oRep_ok {K : PySem.W.Frag} : OpOk K (r2 rRep) oRep := by
  intro vs0 σ B H ρ fs vs rs Ts Q g ok nd r' ρ' e k
  unfold oRep at e
  split at e
  · rename_i t l n
    split at e
    · rename_i hc
      cases e
      obtain ⟨x, y, T1, T2, rfl, rfl, ⟨⟨a, xs, rfl, rfl, h1, h2⟩, _, _⟩, ⟨h3, rfl⟩, _, _⟩ := ok.two
      · cases h3
        refine ⟨_, _, rfl, a, n, xs, rfl, rfl, h1, hc.1, hc.2.1, by rw [DpAll.length h2]; exact hc.2.2, fun p hp => ?_⟩
        have fr := Fr.newL (B := B) (o := HO.lst (List.replicate n.toNat xs).flatten) hp
        refine k (.ref p) B _ fs [p] (fr.weak (fun _ f => f.elim) fun a f => ?_) (g.grow fr (fun _ _ f => f) (g.ext.trans fr.sameH)) ⟨⟨p, _, rfl, rfl, upd_same, DpAll.rep h2 _⟩, rfl, fun a ha => ?_⟩
        · rcases f with f | f
          · exact Or.inr (Or.inl (Or.inl f))
          · exact Or.inl f
        · simp at ha
          subst ha
          refine ⟨?_, fun i hi => g.lives hi hp⟩
          cases e : B a with
          | none => rfl
          | some u => rw [g.ext a u e] at hp; cases hp
    · cases e
  · cases e
def oMulI := opG (pInt CMulW fun i j => i * j)
def oMul : List Rs → M Rs := fun rs ρ => match oMulI rs ρ with
    | some x => some x
    | none => oRep rs ρ
abbrev rMulAll : R2 := fun x y H Q => rI CMulW (fun i j => V.int (i * j)) x y H Q ∨ rRep x y H Q
theorem op_mulAll {X : Cx} : OpR X (binaryOp .Mult) rMulAll := OpR.or op_mulW op_rep
theorem oMul_ok {K : PySem.W.Frag} : OpOk K (r2 rMulAll) oMul := fun vs0 σ B H ρ fs vs rs Ts Q g ok nd r' ρ' e k =>
  r2_or.mpr ((OpOk.or (oInt_ok (K := K)) oRep_ok) vs0 σ B H ρ fs vs rs Ts Q g ok nd r' ρ' e k)
section
mutual
theorem Dp.plain {K : PySem.W.Frag} {H : Hp} : ∀ {d : D} {v : V}, Dp K H v d → d.plain = true
  | .none, _, _ => rfl
  | .bool _, _, _ => rfl
  | .int _, _, _ => rfl
  | .str _, _, _ => rfl
  | .list xs, _, h => by
    cases h with
    | lst h1 h2 => simp only [PyData.plain]; exact DpAll.plain h2
  | .tuple xs, _, h => by
    cases h with
    | tup h1 h2 => simp only [PyData.plain]; exact DpAll.plain h2
  | .dict _, _, h => by cases h
theorem DpAll.plain {K : PySem.W.Frag} {H : Hp} : ∀ {ds : List D} {vs : List V}, DpAll K H vs ds → PyData.plainAll ds = true
  | [], _, _ => rfl
  | d :: ds, _, h => by
    cases h with
    | cons h1 h2 => simp only [PyData.plainAll, Dp.plain h1, DpAll.plain h2, Bool.and_self]
end
end
def rEqP (K : PySem.W.Frag) : R2 := fun x y H Q => ∃ d e, Dp K H x d ∧ Dp K H y e ∧ min d.depth e.depth ≤ 40 ∧ Q (.bl (PyData.eqv d e)) H
def rNeP (K : PySem.W.Frag) : R2 := fun x y H Q => ∃ d e, Dp K H x d ∧ Dp K H y e ∧ min d.depth e.depth ≤ 40 ∧ Q (.bl (!PyData.eqv d e)) H
section
variable {X : Cx}
theorem op_eqP (hu : X.A.units + 64 < cLine) : OpR X (compareOp .Eq) (rEqP X.K) := by
  intro pins s σ H x y v u Q I rx ry h
  obtain ⟨d, e, hd, he, hm, q⟩ := h
  obtain ⟨as, r1⟩ := Dp.reads I d x v hd rx
  obtain ⟨bs, r2⟩ := Dp.reads I e y u he ry
  exact SeqAt.eq_plain r1 r2 (Dp.plain hd) (Dp.plain he) (by omega) ⟨.bl _, H, I, rfl, q⟩
theorem op_neP (hu : X.A.units + 64 < cLine) : OpR X (compareOp .NotEq) (rNeP X.K) := by
  intro pins s σ H x y v u Q I rx ry h
  obtain ⟨d, e, hd, he, hm, q⟩ := h
  obtain ⟨as, r1⟩ := Dp.reads I d x v hd rx
  obtain ⟨bs, r2⟩ := Dp.reads I e y u he ry
  exact SeqAt.ne_plain r1 r2 (Dp.plain hd) (Dp.plain he) (by omega) ⟨.bl _, H, I, rfl, q⟩
end
def pEq : List D → Option Rd'
  | [d, e] => if min d.depth e.depth ≤ 40 then some (.pd (.bool (PyData.eqv d e))) else none
  | _ => none
def pNe : List D → Option Rd'
  | [d, e] => if min d.depth e.depth ≤ 40 then some (.pd (.bool (!PyData.eqv d e))) else none
  | _ => none
def oEq := opG pEq
def oNe := opG pNe
theorem oEq_ok {K : PySem.W.Frag} : OpOk K (r2 (rEqP K)) oEq := opG_ok fun B H vs ds res Q e hs hp k => by
  unfold pEq at hp
  split at hp
  · split at hp
    · obtain ⟨x, y, rfl, h1, h2⟩ := hs.two
      cases hp
      exact ⟨_, _, rfl, _, _, h1.dp e, h2.dp e, by assumption, k.bool e⟩
    · cases hp
  · cases hp
theorem oNe_ok {K : PySem.W.Frag} : OpOk K (r2 (rNeP K)) oNe := opG_ok fun B H vs ds res Q e hs hp k => by
  unfold pNe at hp
  split at hp
  · split at hp
    · obtain ⟨x, y, rfl, h1, h2⟩ := hs.two
      cases hp
      exact ⟨_, _, rfl, _, _, h1.dp e, h2.dp e, by assumption, k.bool e⟩
    · cases hp
  · cases hp
def pCmpI (f : Int → Int → Bool) : List D → Option Rd'
  | [.int a, .int b] => some (.pd (.bool (f a b)))
  | _ => none
theorem oCmpI_ok {K : PySem.W.Frag} {f : Int → Int → Bool} : OpOk K (r2 (rI0 fun a b => .bl (f a b))) (opG (pCmpI f)) := opG_ok fun B H vs ds res Q e hs hp k => by
  unfold pCmpI at hp
  split at hp
  · obtain ⟨x, y, rfl, h1, h2⟩ := hs.two
    cases hp
    exact ⟨_, _, rfl, _, _, h1.int, h2.int, k.bool e⟩
  · cases hp
def oLt := opG (pCmpI fun i j => decide (i < j))
def oLe := opG (pCmpI fun i j => decide (i ≤ j))
def oGt := opG (pCmpI fun i j => decide (j < i))
def oGe := opG (pCmpI fun i j => decide (j ≤ i))
abbrev rIsnAll : R2 := fun x y H Q => (fun x y H Q => y = V.non ∧ Q (.bl (!decide (x = .non))) H) x y H Q ∨ rNotB x y H Q
theorem op_isnAll {X : Cx} : OpR X (compareOp .IsNot) rIsnAll := OpR.or op_notN op_notBl
def isNon : D → Bool
  | .none => true
  | _ => false
def pIsn : List D → Option Rd'
  | [d, .none] => some (.pd (.bool (!isNon d)))
  | [.bool a, .bool b] => some (.pd (.bool (!decide (a = b))))
  | _ => none
def oIsn := opG pIsn
theorem isNon_ok {K : PySem.W.Frag} {B H : Hp} {v : V} {d : D} (h : ShD K B H v d) : decide (v = .non) = isNon d := by
  cases d with
  | none => rw [h.non]; rfl
  | bool b => rw [h.bool]; rfl
  | int b => rw [h.int]; rfl
  | str b => rw [h.str]; rfl
  | list l => obtain ⟨a, xs, rfl, _⟩ := h; rfl
  | tuple l => obtain ⟨a, xs, rfl, _⟩ := h.tup; rfl
  | dict l => have h' : Dp K B v (.dict l) := h; cases h'
theorem oIsn_ok {K : PySem.W.Frag} : OpOk K (r2 rIsnAll) oIsn := opG_ok fun B H vs ds res Q e hs hp k => by
  unfold pIsn at hp
  split at hp
  · obtain ⟨x, y, rfl, h1, h2⟩ := hs.two
    cases hp
    exact ⟨_, _, rfl, Or.inl ⟨h2.non, by rw [isNon_ok h1]; exact k.bool e⟩⟩
  · obtain ⟨x, y, rfl, h1, h2⟩ := hs.two
    cases hp
    exact ⟨_, _, rfl, Or.inr ⟨_, _, h1.bool, h2.bool, k.bool e⟩⟩
  · cases hp
def pIx : List D → Option Rd'
  | [.list l, .int i] => (atI l i).map .pd
  | [.tuple l, .int i] => (atI l i).map .pd
  | [.str z, .int i] => if z.length ≤ sizeLine then (atI z.cps.toList i).map fun c => .pd (.str ⟨#[c]⟩) else none
  | _ => none
def oIx := opG pIx
theorem atI_dp {K : PySem.W.Frag} {B : Hp} {xs : List V} {l : List D} {i : Int} {d : D} (h : DpAll K B xs l) (e : atI l i = some d) : ∃ v, atI xs i = some v ∧ Dp K B v d := by
  unfold atI at e ⊢
  rw [DpAll.length h]
  cases e2 : ixN l.length i with
  | none => rw [e2] at e; cases e
  | some j =>
    rw [e2] at e
    exact DpAll.get h e
theorem oIx_ok {K : PySem.W.Frag} : OpOk K (r2 (rIx K)) oIx := opG_ok fun B H vs ds res Q e hs hp k => by
  unfold pIx at hp
  split at hp
  · rename_i l i
    obtain ⟨x, y, rfl, ⟨p, xs, rfl, s1, d1⟩, h2⟩ := hs.two
    cases e1 : atI l i with
    | none => rw [e1] at hp; cases hp
    | some d =>
      rw [e1] at hp
      cases hp
      obtain ⟨v, e2, hv⟩ := atI_dp d1 e1
      exact ⟨_, _, rfl, Or.inl ⟨p, xs, i, v, rfl, h2.int, s1, e2, k.same e hv⟩⟩
  · rename_i l i
    obtain ⟨x, y, rfl, h1, h2⟩ := hs.two
    obtain ⟨p, xs, rfl, s1, d1⟩ := h1.tup
    cases e1 : atI l i with
    | none => rw [e1] at hp; cases hp
    | some d =>
      rw [e1] at hp
      cases hp
      obtain ⟨v, e2, hv⟩ := atI_dp d1 e1
      exact ⟨_, _, rfl, Or.inr (Or.inl ⟨p, xs, i, v, rfl, h2.int, sqt_mono e s1, e2, k.same e hv⟩)⟩
  · rename_i z i
    split at hp
    · rename_i hz
      obtain ⟨x, y, rfl, h1, h2⟩ := hs.two
      cases e1 : atI z.cps.toList i with
      | none => rw [e1] at hp; cases hp
      | some c =>
        rw [e1] at hp
        cases hp
        exact ⟨_, _, rfl, Or.inr (Or.inr ⟨z, i, c, h1.str, h2.int, hz, e1, k.str e⟩)⟩
    · cases hp
  · cases hp
end Pd
set_option Elab.async false
set_option linter.all false
set_option maxRecDepth 100000
set_option maxHeartbeats 1000000
namespace Pd
open PySem PySem.Spec PyProof.Rows L2
def rdO (K : PySem.W.Frag) (vs0 : List V) (f : M (Option Int)) : TO := fun σ H Q => ∃ B ρ fs, Good K vs0 B H σ ρ fs ∧ ∃ o ρ', f ρ = some (.ok o ρ') ∧
  ∀ B' H' fs', Fr B H (InF fs) B' H' (InF fs') → Good K vs0 B' H' σ ρ' fs' → Q o H'
def mInt (f : M Rs) : M (Option Int) := M.bind f fun r ρ => match r.view ρ with
  | some (.int i) => some (.ok (some i) ρ)
  | _ => none
def mNo : M (Option Int) := M.ret none
def eSl (fe : M Rs) (lo hi : M (Option Int)) (op : Option Int → Option Int → List Rs → M Rs) : M Rs := M.bind fe fun r => M.bind lo fun l => M.bind hi fun h => op l h [r]
theorem fr_drop {B H B' H' : Hp} {F : Addr → Prop} {fs : Nat → List Addr} {T : List Addr} (x : Fr B H F B' H' (UnF (InF fs) T)) : Fr B H F B' H' (InF fs) := x.weak (fun _ h => h) fun a h => Or.inl (Or.inl h)
section
variable {X : Cx} {vs0 : List V} {K : PySem.W.Frag}
theorem do_none : PO X none (rdO X.K vs0 mNo) := PO.imp po_none fun σ H Q q => by
  obtain ⟨B, ρ, fs, g, o, ρ', e1, k⟩ := q
  cases e1
  exact k B H fs (Fr.refl _ _ _) g
theorem do_some {e : Expr} {f : M Rs} (h : PE X e (rdE X.K vs0 f)) : PO X (some e) (rdO X.K vs0 (mInt f)) := PO.imp (po_some h) fun σ H Q q => by
  obtain ⟨B, ρ, fs, g, o, ρ', e1, k⟩ := q
  obtain ⟨r, ρ1, e2, e3⟩ := M.bind_ok e1
  split at e3
  · rename_i i e4
    cases e3
    refine ⟨B, ρ, fs, g, r, ρ', e2, fun v B' H' fs' T fr g' ok => ⟨i, (view_ok g' ok e4).int, k B' H' fs' (fr_drop fr) g'⟩⟩
  · cases e3
theorem rd_sl {fe : M Rs} {lo hi : M (Option Int)} {op : Option Int → Option Int → List Rs → M Rs} {r : V → Option Int → Option Int → Hp → VK → Prop} (ho : ∀ l h, OpOk K (fun vs H Q => ∃ x, vs = [x] ∧ r x l h H Q) (op l h)) {σ : L2.St} {H : Hp} {Q : VK}
    (q : rdE K vs0 (eSl fe lo hi op) σ H Q) : tSl r (rdE K vs0 fe) (rdO K vs0 lo) (rdO K vs0 hi) σ H Q := by
  obtain ⟨B, ρ, fs, g, r', ρ', e1, k⟩ := q
  obtain ⟨r0, ρ1, e2, e3⟩ := M.bind_ok e1
  obtain ⟨l, ρ2, e4, e5⟩ := M.bind_ok e3
  obtain ⟨h, ρ3, e6, e7⟩ := M.bind_ok e5
  refine ⟨B, ρ, fs, g, r0, ρ1, e2, fun v B1 H1 fs1 T1 fr1 g1 ok1 => ⟨B1, ρ1, fs1, g1, l, ρ2, e4, fun B2 H2 fs2 fr2 g2 => ⟨B2, ρ2, fs2, g2, h, ρ3, e6, fun B3 H3 fs3 fr3 g3 => ?_⟩⟩⟩
  have n1 : ∀ a ∈ T1, ¬ InF fs1 a := ok1.off
  have ok2 := ok1.keep (fs' := fs2) fr2 n1 fun a h => h
  have n2 : ∀ a ∈ T1, ¬ InF fs2 a := ok2.off
  have ok3 := ok2.keep (fs' := fs3) fr3 n2 fun a h => h
  obtain ⟨x, ex, q⟩ := ho l h vs0 σ B3 H3 ρ3 fs3 [v] [r0] [T1] Q g3 ⟨ok3, True.intro⟩ (by simpa using ok3.nodup) r' ρ' e7 fun v4 B4 H4 fs4 T4 fr4 g4 ok4 =>
    k v4 B4 H4 fs4 T4 (fr1.trans ((fr2.frame T1).trans ((fr3.frame T1).trans (fr4.weak (fun a h => by
      rcases h with h | h
      · exact Or.inl h
      · exact Or.inr (by simpa using h)) fun a h => Or.inl h)))) g4 ok4
  cases ex
  exact q
def cutD (l : List D) (lo hi : Option Int) : List D := (l.drop (HT.sIx l.length 0 lo)).take (HT.sIx l.length l.length hi - HT.sIx l.length 0 lo)
def pSl (lo hi : Option Int) : List D → Option Rd'
  | [.list l] => some (.nl (cutD l lo hi))
  | [.tuple l] => some (.pd (.tuple (cutD l lo hi)))
  | [.str z] => if z.length ≤ sizeLine then some (.pd (.str (cutS z lo hi))) else none
  | _ => none
def oSl (lo hi : Option Int) := opG (pSl lo hi)
abbrev rSlAll (K : PySem.W.Frag) : V → Option Int → Option Int → Hp → VK → Prop := fun x lo hi H Q => rSlL K x lo hi H Q ∨ (fun x lo hi H Q => rSlA K x lo hi H Q ∨ rSlS x lo hi H Q) x lo hi H Q
theorem sl_all : SlR X (rSlAll X.K) := SlR.or sl_list (SlR.or sl_tupA sl_str)
theorem cut_dp {B : Hp} {xs : List V} {l : List D} (h : DpAll K B xs l) (lo hi : Option Int) : DpAll K B (cutV xs lo hi) (cutD l lo hi) := by
  unfold cutV cutD
  rw [DpAll.length h]
  exact DpAll.take _ (DpAll.drop _ h)
theorem oSl_ok (lo hi : Option Int) : OpOk K (fun vs H Q => ∃ x, vs = [x] ∧ rSlAll K x lo hi H Q) (oSl lo hi) := opG_ok fun B H vs ds res Q e hs hp k => by
  unfold pSl at hp
  split at hp
  · obtain ⟨x, rfl, p, xs, rfl, s1, d1⟩ := hs.one
    cases hp
    exact ⟨_, rfl, Or.inl ⟨p, xs, rfl, s1, fun t ht => k t _ ht (cut_dp d1 lo hi)⟩⟩
  · rename_i l
    obtain ⟨x, rfl, h1⟩ := hs.one
    obtain ⟨p, xs, rfl, s1, d1⟩ := h1.tup
    cases hp
    refine ⟨_, rfl, Or.inr (Or.inl ⟨p, xs, rfl, sqt_mono e s1, fun hw => ?_, fun _ t ht => k.tup e ht (cut_dp d1 lo hi)⟩)⟩
    have hc : cutD l lo hi = l := by
      unfold cutD
      rw [← DpAll.length d1, hw.1, hw.2, DpAll.length d1]
      simp
    rw [hc] at k
    exact k.same e (.tup s1 d1)
  · split at hp
    · rename_i z hz
      obtain ⟨x, rfl, h1⟩ := hs.one
      cases hp
      exact ⟨_, rfl, Or.inr (Or.inr ⟨z, h1.str, hz, k.str e⟩)⟩
    · cases hp
  · cases hp
theorem de_slice {e : Expr} {lo hi : Option Expr} {fe : M Rs} {fl fh : M (Option Int)} {pos p2 : Pos} (he : PE X e (rdE X.K vs0 fe)) (hl : PO X lo (rdO X.K vs0 fl)) (hu : PO X hi (rdO X.K vs0 fh)) :
    PE X (.Subscript e (.Slice lo hi none p2) pos) (rdE X.K vs0 (eSl fe fl fh oSl)) := PE.imp (pe_slice sl_all he hl hu) fun σ H Q q => rd_sl oSl_ok q
end
section
variable {X : Cx} {K : PySem.W.Frag}
def pLen : List D → Option Rd'
  | [.list l] => some (.pd (.int l.length))
  | [.tuple l] => some (.pd (.int l.length))
  | [.str z] => if z.length ≤ sizeLine then some (.pd (.int z.length)) else none
  | _ => none
def oLen := opG pLen
theorem oLen_ok : OpOk K (fun xs H Q => ∃ x n, xs = [x] ∧ LenV K x H n ∧ Q (.int n) H) oLen := opG_ok fun B H vs ds res Q e hs hp k => by
  unfold pLen at hp
  split at hp
  · obtain ⟨x, rfl, p, xs, rfl, s1, d1⟩ := hs.one
    cases hp
    exact ⟨_, _, rfl, Or.inl ⟨xs, s1, (DpAll.length d1).symm⟩, k.int e⟩
  · obtain ⟨x, rfl, h1⟩ := hs.one
    obtain ⟨p, xs, rfl, s1, d1⟩ := h1.tup
    cases hp
    exact ⟨_, _, rfl, Or.inr ⟨xs, sqt_mono e s1, (DpAll.length d1).symm⟩, k.int e⟩
  · split at hp
    · rename_i z hz
      obtain ⟨x, rfl, h1⟩ := hs.one
      cases hp
      rw [h1.str]
      exact ⟨_, _, rfl, ⟨hz, rfl⟩, k.int e⟩
    · cases hp
  · cases hp
def ints? : List D → Option (List Int)
  | [] => some []
  | .int i :: r => (ints? r).map (i :: ·)
  | _ :: _ => none
theorem ints?_eq : ∀ {l : List D} {ns : List Int}, ints? l = some ns → l = ns.map PyData.int
  | [], ns, h => by cases h; rfl
  | d :: l, ns, h => by
    cases d <;> try cases h
    rename_i i
    unfold ints? at h
    cases e : ints? l with
    | none => rw [e] at h; cases h
    | some ms => rw [e] at h; cases h; rw [ints?_eq e]; rfl
@[simp] theorem ints?_map (ns : List Int) : ints? (ns.map PyData.int) = some ns := by
  induction ns with
  | nil => rfl
  | cons n ns ih => simp [ints?, ih]
section
variable {prog : Program} {w : World} {A : Around} {E : Value → Shared → Prop} {s : Shared}
theorem sum_tupG {t : Addr} {xs : Array (Int × Tok)} {Q : Value → Shared → Prop} (hh : A.handled = none) (ht : s.heap.IsTuple t (intItems xs))
    (h : ∀ h' tk t', (∀ b o, s.heap.get? b = some o → h'.get? b = some o) → Q (.int (preSum (numAt xs) xs.size) t') { s with heap := h', toks := tk }) :
    wpAny (model prog w) A (call (.builtin "sum") [.ref t]) Q E s := by
  have hlt : t < s.heap.objs.size := by obtain ⟨_, e, _⟩ := ht; exact Heap.lt_size e
  have push : ∀ (ob : Obj), ({ s with heap := s.heap.push ob } : Shared).heap.IsTuple t (intItems xs) := fun ob => by
    obtain ⟨o, e, c, n, d⟩ := ht
    exact ⟨o, Heap.get?_push_of_some _ e, c, n, d⟩
  refine call_sum_walkG (wpAny_pyIter_tuple ht ?_)
  refine ⟨_, _, _, _, _, _, numAt xs, rfl, Walks.tuple (A := A.in1) hh s.heap.objs.size t (Nat.ne_of_lt hlt) (intItems xs), ⟨⟨_, Heap.get?_push_size _ rfl, rfl, rfl⟩, push _⟩, fun b hb => ?_, (fun _ _ => intItems_at), fun h' tk t' hk => ?_⟩
  · show b < (s.heap.push _).objs.size
    rw [Heap.size_push]
    rcases List.mem_cons.mp hb with rfl | hb
    · exact Nat.lt_succ_self _
    · simp at hb; subst hb; exact Nat.lt_succ_of_lt hlt
  · have := h h' tk t' (fun b o e => hk b o (fun hm => by
      simp at hm
      subst hm
      exact Nat.lt_irrefl _ (Heap.lt_size e)) (Heap.get?_push_of_some _ e))
    simpa [intItems] using this
theorem sum_tup {t : Addr} {its : List Value} {ns : List Int} {Q : Value → Shared → Prop} (hh : A.handled = none) (ht : s.heap.IsTuple t its.toArray) (hi : IntsAre its ns)
    (h : ∀ h' tk t', (∀ b o, s.heap.get? b = some o → h'.get? b = some o) → Q (.int ns.sum t') { s with heap := h', toks := tk }) : wpAny (model prog w) A (call (.builtin "sum") [.ref t]) Q E s := by
  obtain ⟨xs, e⟩ := hi.allInts.items
  have hn : numsOf (intItems xs).toList = ns := by rw [← e]; exact hi.numsOf
  rw [nums_intItems] at hn
  rw [e] at ht
  refine sum_tupG hh ht fun h' tk t' hk => ?_
  have := h h' tk t' hk
  rw [preSum_eq, List.take_of_length_le (by simp), hn]; exact this
end
def rSumA (K : PySem.W.Frag) : List V → Hp → VK → Prop := fun vs H Q => rSum K vs H Q ∨ ∃ (a : Addr) (ns : List Int), vs = [V.ref a] ∧ SqT K H a (ns.map V.int) ∧ Q (.int ns.sum) H
theorem cr_sumA (hc : X.calm = true) : CallR X (.builtin "sum") (rSumA X.K) := CallR.or (cr_sum hc) (by
  intro pins s σ H vs us Q I r h
  obtain ⟨a, ns, rfl, hs, q⟩ := h
  obtain ⟨its, rv, ⟨o, e, c, n, d⟩, _⟩ := I.tuple hs
  rw [Vals.ref1 r]
  exact sum_tup (I.ok.hd hc) ⟨o, e, c, n, d⟩ rv.ints fun h' tk t' hk => ⟨.int _, H, I.kept hk, ⟨_, rfl⟩, q⟩)
def pSum : List D → Option Rd'
  | [.list l] => (ints? l).map fun ns => .pd (.int ns.sum)
  | [.tuple l] => (ints? l).map fun ns => .pd (.int ns.sum)
  | _ => none
def oSum := opG pSum
theorem oSum_ok : OpOk K (rSumA K) oSum := opG_ok fun B H vs ds res Q e hs hp k => by
  unfold pSum at hp
  split at hp
  · rename_i l
    obtain ⟨x, rfl, p, xs, rfl, s1, d1⟩ := hs.one
    cases e1 : ints? l with
    | none => rw [e1] at hp; cases hp
    | some ns =>
      rw [e1] at hp
      cases hp
      rw [ints?_eq e1] at d1
      rw [DpAll.ints d1] at s1
      exact Or.inl ⟨p, ns, rfl, s1, k.int e⟩
  · rename_i l
    obtain ⟨x, rfl, h1⟩ := hs.one
    obtain ⟨p, xs, rfl, s1, d1⟩ := h1.tup
    cases e1 : ints? l with
    | none => rw [e1] at hp; cases hp
    | some ns =>
      rw [e1] at hp
      cases hp
      rw [ints?_eq e1] at d1
      rw [DpAll.ints d1] at s1
      exact Or.inr ⟨p, ns, rfl, sqt_mono e s1, k.int e⟩
  · cases hp
def maxI : List Int → Int
  | [] => 0
  | [a] => a
  | a :: r => max a (maxI r)
def minI : List Int → Int
  | [] => 0
  | [a] => a
  | a :: r => min a (minI r)
theorem maxI_spec : ∀ (l : List Int), l ≠ [] → maxI l ∈ l ∧ ∀ x ∈ l, x ≤ maxI l
  | [], h => (h rfl).elim
  | [a], _ => ⟨by simp [maxI], by simp [maxI]⟩
  | a :: b :: r, _ => by
    obtain ⟨h1, h2⟩ := maxI_spec (b :: r) (by simp)
    have e : maxI (a :: b :: r) = max a (maxI (b :: r)) := rfl
    rw [e]
    refine ⟨?_, fun x hx => ?_⟩
    · rcases Int.le_total a (maxI (b :: r)) with h | h
      · rw [Int.max_eq_right h]; exact List.mem_cons_of_mem _ h1
      · rw [Int.max_eq_left h]; simp
    · rcases List.mem_cons.mp hx with rfl | hx
      · exact Int.le_max_left _ _
      · exact Int.le_trans (h2 x hx) (Int.le_max_right _ _)
theorem minI_spec : ∀ (l : List Int), l ≠ [] → minI l ∈ l ∧ ∀ x ∈ l, minI l ≤ x
  | [], h => (h rfl).elim
  | [a], _ => ⟨by simp [minI], by simp [minI]⟩
  | a :: b :: r, _ => by
    obtain ⟨h1, h2⟩ := minI_spec (b :: r) (by simp)
    have e : minI (a :: b :: r) = min a (minI (b :: r)) := rfl
    rw [e]
    refine ⟨?_, fun x hx => ?_⟩
    · rcases Int.le_total a (minI (b :: r)) with h | h
      · rw [Int.min_eq_left h]; simp
      · rw [Int.min_eq_right h]; exact List.mem_cons_of_mem _ h1
    · rcases List.mem_cons.mp hx with rfl | hx
      · exact Int.min_le_left _ _
      · exact Int.le_trans (Int.min_le_right _ _) (h2 x hx)
def pMax : List D → Option Rd'
  | [.list l] => (ints? l).bind fun ns => if ns = [] then none else some (.pd (.int (maxI ns)))
  | [.int i, .int j] => some (.pd (.int (max i j)))
  | _ => none
def pMin : List D → Option Rd'
  | [.list l] => (ints? l).bind fun ns => if ns = [] then none else some (.pd (.int (minI ns)))
  | [.int i, .int j] => some (.pd (.int (min i j)))
  | _ => none
def oMax := opG pMax
def oMin := opG pMin
def rMaxA (K : PySem.W.Frag) : List V → Hp → VK → Prop := fun vs H Q => rMax K vs H Q ∨ (fun xs H Q => ∃ i j, xs = [V.int i, .int j] ∧ Q (.int (if j > i then j else i)) H) vs H Q
def rMinA (K : PySem.W.Frag) : List V → Hp → VK → Prop := fun vs H Q => rMin K vs H Q ∨ (fun xs H Q => ∃ i j, xs = [V.int i, .int j] ∧ Q (.int (if j < i then j else i)) H) vs H Q
theorem cr_maxA (hc : X.calm = true) : CallR X (.builtin "max") (rMaxA X.K) := CallR.or (cr_max hc) (call_max2 hc)
theorem cr_minA (hc : X.calm = true) : CallR X (.builtin "min") (rMinA X.K) := CallR.or (cr_min hc) (call_min2 hc)
theorem oMax_ok : OpOk K (rMaxA K) oMax := opG_ok fun B H vs ds res Q e hs hp k => by
  unfold pMax at hp
  split at hp
  · rename_i l
    obtain ⟨x, rfl, p, xs, rfl, s1, d1⟩ := hs.one
    cases e1 : ints? l with
    | none => rw [e1] at hp; cases hp
    | some ns =>
      rw [e1, Option.bind_some] at hp
      split at hp
      · cases hp
      · rename_i hne
        cases hp
        rw [ints?_eq e1] at d1
        rw [DpAll.ints d1] at s1
        obtain ⟨m1, m2⟩ := maxI_spec ns hne
        refine Or.inl ⟨p, ns, rfl, s1, ?_, fun m hm hle => ?_⟩
        · cases ns with
          | nil => exact (hne rfl).elim
          | cons _ _ => simp
        · have : m = maxI ns := Int.le_antisymm (m2 m hm) (hle _ m1)
          rw [this]
          exact k.int e
  · rename_i i j
    obtain ⟨x, y, rfl, h1, h2⟩ := hs.two
    cases hp
    rw [h1.int, h2.int]
    refine Or.inr ⟨i, j, rfl, ?_⟩
    have : (if j > i then j else i) = max i j := by
      split <;> omega
    rw [this]
    exact k.int e
  · cases hp
theorem oMin_ok : OpOk K (rMinA K) oMin := opG_ok fun B H vs ds res Q e hs hp k => by
  unfold pMin at hp
  split at hp
  · rename_i l
    obtain ⟨x, rfl, p, xs, rfl, s1, d1⟩ := hs.one
    cases e1 : ints? l with
    | none => rw [e1] at hp; cases hp
    | some ns =>
      rw [e1, Option.bind_some] at hp
      split at hp
      · cases hp
      · rename_i hne
        cases hp
        rw [ints?_eq e1] at d1
        rw [DpAll.ints d1] at s1
        obtain ⟨m1, m2⟩ := minI_spec ns hne
        refine Or.inl ⟨p, ns, rfl, s1, ?_, fun m hm hle => ?_⟩
        · cases ns with
          | nil => exact (hne rfl).elim
          | cons _ _ => simp
        · have : m = minI ns := Int.le_antisymm (hle _ m1) (m2 m hm)
          rw [this]
          exact k.int e
  · rename_i i j
    obtain ⟨x, y, rfl, h1, h2⟩ := hs.two
    cases hp
    rw [h1.int, h2.int]
    refine Or.inr ⟨i, j, rfl, ?_⟩
    have : (if j < i then j else i) = min i j := by
      split <;> omega
    rw [this]
    exact k.int e
  · cases hp
def pInt1 : List D → Option Rd'
  | [.int i] => some (.pd (.int i))
  | [.bool b] => some (.pd (.int (if b then 1 else 0)))
  | _ => none
def oInt1 := opG pInt1
theorem oInt1_ok : OpOk K (fun xs H Q => (∃ i, xs = [V.int i] ∧ Q (.int i) H) ∨ ∃ k, xs = [V.bl k] ∧ Q (.int (if k then 1 else 0)) H) oInt1 := opG_ok fun B H vs ds res Q e hs hp k => by
  unfold pInt1 at hp
  split at hp
  · obtain ⟨x, rfl, h1⟩ := hs.one
    cases hp
    exact Or.inl ⟨_, by rw [h1.int], k.int e⟩
  · obtain ⟨x, rfl, h1⟩ := hs.one
    cases hp
    exact Or.inr ⟨_, by rw [h1.bool], k.int e⟩
  · cases hp
def pTupOf : List D → Option Rd'
  | [.list l] => some (.pd (.tuple l))
  | [.tuple l] => some (.pd (.tuple l))
  | _ => none
def oTupOf := opG pTupOf
theorem oTupOf_ok : OpOk K (fun xs H Q => ∃ p ys, xs = [V.ref p] ∧ ((SqL K H p ys ∧ ∀ l, H l = none → Q (.ref l) (upd H l (.tup ys))) ∨ (SqT K H p ys ∧ Q (.ref p) H))) oTupOf := opG_ok fun B H vs ds res Q e hs hp k => by
  unfold pTupOf at hp
  split at hp
  · obtain ⟨x, rfl, p, xs, rfl, s1, d1⟩ := hs.one
    cases hp
    exact ⟨p, xs, rfl, Or.inl ⟨s1, fun l hl => k.tup e hl d1⟩⟩
  · obtain ⟨x, rfl, h1⟩ := hs.one
    obtain ⟨p, xs, rfl, s1, d1⟩ := h1.tup
    cases hp
    exact ⟨p, xs, rfl, Or.inr ⟨sqt_mono e s1, k.same e (.tup s1 d1)⟩⟩
  · cases hp
def pNeg : List D → Option Rd'
  | [.int i] => some (.pd (.int (-i)))
  | _ => none
def oNeg := opG pNeg
def eUn (fa : M Rs) (op : List Rs → M Rs) : M Rs := M.bind (aCons fa aNil) op
theorem de_neg {vs0 : List V} {a : Expr} {fa : M Rs} {pos : Pos} (ha : PE X a (rdE X.K vs0 fa)) : PE X (.UnaryOp .USub a pos) (rdE X.K vs0 (eUn fa oNeg)) := PE.imp (pe_un un_neg ha) fun σ H Q q => by
  have ho : OpOk X.K (fun vs H Q => ∃ x, vs = [x] ∧ rU (fun i => .int (-i)) x H Q) oNeg := opG_ok fun B H vs ds res Q e hs hp k => by
    unfold pNeg at hp
    split at hp
    · obtain ⟨x, rfl, h1⟩ := hs.one
      cases hp
      exact ⟨_, rfl, _, h1.int, k.int e⟩
    · cases hp
  refine rdE_imp (rd_cons (rd_op ho q)) fun x H1 q1 => ?_
  obtain ⟨x', e, q2⟩ := rdA_nil q1
  cases e
  exact q2
end
end Pd
set_option Elab.async false
set_option linter.all false
set_option maxRecDepth 100000
set_option maxHeartbeats 1000000
namespace Pd
open PySem PySem.Spec PyProof.Rows L2
def freezeR : Rs → M D
  | .own (.p d) => M.ret d
  | .own (.ml _ l) => M.ret (.list l)
  | .own _ => M.fail
  | .bor i => fun ρ => match ρ[i]? with
    | some (some (.ml none l)) => some (.ok (.list l) (ρ.set i (some (.p (.list l)))))
    | some (some (.p d)) => some (.ok d ρ)
    | _ => none
  | .lent _ _ _ => M.fail
def freezeAll : List Rs → M (List D)
  | [] => M.ret []
  | r :: rs => M.bind (freezeR r) fun d => M.bind (freezeAll rs) fun ds => M.ret (d :: ds)
section
variable {K : PySem.W.Frag} {vs0 : List V} {B H : Hp} {σ : L2.St} {ρ : Env} {fs : Nat → List Addr}
theorem Good.slot {i : Nat} {s : Sl} (g : Good K vs0 B H σ ρ fs) (e : ρ[i]? = some (some s)) : ∃ v, σ[i]? = some (some v) ∧ Own K B H v s (fs i) := by
  obtain ⟨v, h1, h2, _⟩ := g.at_ i s e
  exact ⟨v, h1, h2⟩
theorem Good.put {i : Nat} {s : Sl} {T : List Addr} {v : V} (g : Good K vs0 B H σ ρ fs) (hi : i < ρ.length) (o : Own K B H v s T) (ht : ∀ k, s.tag = some k → vs0[k]? = some v) (hT : ∀ a ∈ T, B a = none ∧ ∀ j, j ≠ i → a ∉ fs j) :
    Good K vs0 B H (σ.set i (some v)) (ρ.set i (some s)) (fun j => if j = i then T else fs j) where
  ext := g.ext
  len := by simp [g.len]
  at_ := fun j s' h => by
    by_cases e : j = i
    · subst e
      rw [List.getElem?_set_self hi] at h
      cases h
      refine ⟨v, List.getElem?_set_self (by rw [g.len]; exact hi), ?_, ht⟩
      rw [if_pos rfl]
      exact o
    · rw [List.getElem?_set_ne (Ne.symm e)] at h
      obtain ⟨v', h1, h2, h3⟩ := g.at_ j s' h
      refine ⟨v', by rw [List.getElem?_set_ne (Ne.symm e)]; exact h1, ?_, h3⟩
      rw [if_neg e]
      exact h2
  emp := fun j h => by
    by_cases e : j = i
    · subst e
      exact (h s (List.getElem?_set_self hi)).elim
    · try dsimp only
      rw [if_neg e]
      refine g.emp j fun s' q => h s' ?_
      rw [List.getElem?_set_ne (Ne.symm e)]
      exact q
  dis := fun j k a h1 h2 => by
    try dsimp only at h1 h2
    by_cases ej : j = i
    · by_cases ek : k = i
      · rw [ej, ek]
      · rw [if_pos ej] at h1
        rw [if_neg ek] at h2
        exact ((hT a h1).2 k ek h2).elim
    · by_cases ek : k = i
      · rw [if_neg ej] at h1
        rw [if_pos ek] at h2
        exact ((hT a h2).2 j ej h1).elim
      · rw [if_neg ej] at h1
        rw [if_neg ek] at h2
        exact g.dis j k a h1 h2
  out := fun j a h => by
    try dsimp only at h
    by_cases ej : j = i
    · rw [if_pos ej] at h
      exact (hT a h).1
    · rw [if_neg ej] at h
      exact g.out j a h
theorem Good.drop (g : Good K vs0 B H σ ρ fs) (i : Nat) : Good K vs0 B H σ (ρ.set i none) (fun j => if j = i then [] else fs j) where
  ext := g.ext
  len := by simp [g.len]
  at_ := fun j s' h => by
    by_cases e : j = i
    · subst e
      by_cases hi : j < ρ.length
      · rw [List.getElem?_set_self hi] at h
        cases h
      · rw [List.getElem?_eq_none (by simp; omega)] at h
        cases h
    · rw [List.getElem?_set_ne (Ne.symm e)] at h
      obtain ⟨v', h1, h2, h3⟩ := g.at_ j s' h
      refine ⟨v', h1, ?_, h3⟩
      rw [if_neg e]
      exact h2
  emp := fun j h => by
    by_cases e : j = i
    · try dsimp only
      rw [if_pos e]
    · try dsimp only
      rw [if_neg e]
      refine g.emp j fun s' q => h s' ?_
      rw [List.getElem?_set_ne (Ne.symm e)]
      exact q
  dis := fun j k a h1 h2 => by
    try dsimp only at h1 h2
    by_cases ej : j = i
    · rw [if_pos ej] at h1; cases h1
    · by_cases ek : k = i
      · rw [if_pos ek] at h2; cases h2
      · rw [if_neg ej] at h1
        rw [if_neg ek] at h2
        exact g.dis j k a h1 h2
  out := fun j a h => by
    try dsimp only at h
    by_cases ej : j = i
    · rw [if_pos ej] at h; cases h
    · rw [if_neg ej] at h
      exact g.out j a h
theorem Good.thaw {a : Addr} {o : HO} (g : Good K vs0 B H σ ρ fs) (h : H a = some o) (hB : B a = none) (n : ∀ i, a ∉ fs i) : Good K vs0 (upd B a o) H σ ρ fs := by
  have bb : Same B (upd B a o) := fun b u e => by
    rw [upd_ne (ne_of_none e hB)]
    exact e
  refine ⟨fun b u e => ?_, g.len, fun i s e => ?_, g.emp, g.dis, fun i b hb => ?_⟩
  · by_cases q : b = a
    · subst q
      rw [upd_same] at e
      rw [h, e]
    · rw [upd_ne q] at e
      exact g.ext b u e
  · obtain ⟨v, h1, h2, h3⟩ := g.at_ i s e
    exact ⟨v, h1, h2.keep bb fun _ _ => rfl, h3⟩
  · rw [upd_ne (show b ≠ a from fun q => n i (by rw [← q]; exact hb))]
    exact g.out i b hb
theorem Fr.thaw {a : Addr} {o : HO} {F : Addr → Prop} (hB : B a = none) (hF : F a) : Fr B H F (upd B a o) H F := by
  refine ⟨fun b u e => ?_, fun _ _ _ => rfl, fun _ h => h, fun _ f => Or.inl f, fun b _ nf e => ?_⟩
  · rw [upd_ne (ne_of_none e hB)]
    exact e
  · rw [upd_ne (show b ≠ a from fun q => nf (by rw [q]; exact hF))]
    exact e
theorem freezeR_ok {r : Rs} {d : D} {ρ' : Env} {v : V} {T : List Addr} (g : Good K vs0 B H σ ρ fs) (ok : RsOk K B H σ fs v r T) (e : freezeR r ρ = some (.ok d ρ')) :
    ∃ B' fs', Fr B H (UnF (InF fs) T) B' H (InF fs') ∧ Good K vs0 B' H σ ρ' fs' ∧ Dp K B' v d := by
  have drop : Fr B H (UnF (InF fs) T) B H (InF fs) := (Fr.refl B H _).weak (fun _ h => h) fun a h => Or.inl (Or.inl h)
  unfold freezeR at e
  split at e
  · cases e
    exact ⟨B, fs, drop, g, ok.1.1⟩
  · rename_i t l
    cases e
    obtain ⟨⟨a, xs, rfl, rfl, h1, h2⟩, _, h3⟩ := ok
    have hB : B a = none := (h3 a (by simp)).1
    refine ⟨upd B a (.lst xs), fs, (Fr.thaw hB (Or.inr (by simp))).weak (fun _ h => h) fun b h => Or.inl (Or.inl h), g.thaw h1 hB (h3 a (by simp)).2, .lst (SqL.of upd_same) (DpAll.mono ?_ h2)⟩
    exact (Fr.thaw (H := H) (F := fun _ => True) hB True.intro).bb
  · cases e
  · rename_i i
    split at e
    · rename_i l e2
      cases e
      obtain ⟨v', h1, ⟨a, xs, rfl, hfs, h2, h3⟩, _⟩ := g.at_ i _ e2
      obtain ⟨q1, q2⟩ := ok
      rw [h1] at q1
      cases q1
      have hB : B a = none := g.out i a (by rw [hfs]; simp)
      have hi : i < ρ.length := (List.getElem?_eq_some_iff.mp e2).1
      have g1 := g.drop i
      have n1 : ∀ j, a ∉ (fun j => if j = i then [] else fs j) j := fun j hj => by
        try dsimp only at hj
        by_cases q : j = i
        · rw [if_pos q] at hj; cases hj
        · rw [if_neg q] at hj
          exact q (g.dis j i a hj (by rw [hfs]; simp))
      have g2 := g1.thaw h2 hB n1
      have hd : Dp K (upd B a (.lst xs)) (.ref a) (.list l) := .lst (SqL.of upd_same) (DpAll.mono (Fr.thaw (H := H) (F := fun _ => True) hB True.intro).bb h3)
      have g3 := g2.put (i := i) (v := .ref a) (s := .p (.list l)) (T := []) (by simpa using hi) ⟨hd, rfl⟩ (fun k h => nomatch h) (fun b hb => nomatch hb)
      rw [List.set_set] at g3
      have es : σ.set i (some (.ref a)) = σ := by
        apply List.ext_getElem?
        intro j
        by_cases q : j = i
        · subst q
          rw [List.getElem?_set_self (by rw [g.len]; exact hi), h1]
        · rw [List.getElem?_set_ne (Ne.symm q)]
      rw [es] at g3
      refine ⟨_, _, (Fr.thaw hB (Or.inl ⟨i, by rw [hfs]; simp⟩)).weak (fun _ h => h) fun b h => ?_, g3, hd⟩
      obtain ⟨j, hj⟩ := h
      try dsimp only at hj
      by_cases q : j = i
      · rw [if_pos q] at hj; cases hj
      · rw [if_neg q, if_neg q] at hj
        exact Or.inl (Or.inl ⟨j, hj⟩)
    · rename_i d' e2
      cases e
      obtain ⟨v', h1, h2, _⟩ := g.at_ i _ e2
      obtain ⟨q1, q2⟩ := ok
      rw [h1] at q1
      cases q1
      exact ⟨B, fs, drop, g, h2.1⟩
    · cases e
  · cases e
theorem freezeAll_ok : ∀ {rs : List Rs} {vs : List V} {Ts : List (List Addr)} {ds : List D} {B : Hp} {ρ ρ' : Env} {fs : Nat → List Addr}, Good K vs0 B H σ ρ fs → RsAll K B H σ fs vs rs Ts → Ts.flatten.Nodup → freezeAll rs ρ = some (.ok ds ρ') →
    ∃ B' fs', Fr B H (UnF (InF fs) Ts.flatten) B' H (InF fs') ∧ Good K vs0 B' H σ ρ' fs' ∧ DpAll K B' vs ds
  | [], vs, Ts, ds, B, ρ, ρ', fs, g, ok, nd, e => by
    match vs, Ts, ok with
    | [], [], _ =>
      cases e
      exact ⟨B, fs, (Fr.refl B H _).weak (fun _ h => h) fun a h => Or.inl (Or.inl h), g, .nil⟩
  | r :: rs, vs, Ts, ds, B, ρ, ρ', fs, g, ok, nd, e => by
    match vs, Ts, ok with
    | v :: vs, T :: Ts, ok =>
      obtain ⟨d, ρ1, e1, e2⟩ := M.bind_ok e
      obtain ⟨ds', ρ2, e3, e4⟩ := M.bind_ok e2
      cases e4
      obtain ⟨B1, fs1, fr1, g1, d1⟩ := freezeR_ok g ok.1 e1
      rw [List.flatten_cons, List.nodup_append] at nd
      have ok2 : RsAll K B1 H σ fs1 vs rs Ts := RsAll.keep fr1 (fun _ h => h) ok.2 fun a ha f => by
        rcases f with f | f
        · exact RsAll.off ok.2 a ha f
        · exact nd.2.2 a f a ha rfl
      obtain ⟨B2, fs2, fr2, g2, d2⟩ := freezeAll_ok g1 ok2 nd.2.1 e3
      refine ⟨B2, fs2, ?_, g2, .cons (Dp.mono fr2.bb d1) d2⟩
      refine ((fr1.frame Ts.flatten).trans fr2).weak (fun a h => ?_) fun a h => Or.inl h
      rcases h with (h | h) | h
      · exact Or.inl h
      · exact Or.inr (by rw [List.flatten_cons]; exact List.mem_append_left _ h)
      · exact Or.inr (by rw [List.flatten_cons]; exact List.mem_append_right _ h)
end
def opF (pf : List D → Option Rd') : List Rs → M Rs := fun rs => M.bind (freezeAll rs) fun ds ρ => match pf ds with
  | some res => some (.ok res.rs ρ)
  | none => none
theorem res_ok {K : PySem.W.Frag} {vs0 : List V} {B H : Hp} {σ : L2.St} {ρ : Env} {fs : Nat → List Addr} {res : Rd'} {Q : VK} {F : Addr → Prop} {B0 H0 : Hp} (g : Good K vs0 B H σ ρ fs) (fr0 : Fr B0 H0 F B H (InF fs))
    (k : ∀ v B' H' fs' T, Fr B0 H0 F B' H' (UnF (InF fs') T) → Good K vs0 B' H' σ ρ fs' → RsOk K B' H' σ fs' v res.rs T → Q v H') : ResK K B H Q res := by
  cases res with
  | pd d =>
    intro v B' H' fr ex hd
    refine k v B' H' fs [] (fr0.trans (fr.weak (fun _ f => f.elim) fun a f => ?_)) (g.grow fr (fun _ _ f => f) ex) ⟨⟨hd, rfl⟩, rfl, fun a ha => nomatch ha⟩
    rcases f with f | f
    · exact Or.inr (Or.inl f)
    · cases f
  | nl l =>
    intro p xs hp hd
    have fr := Fr.newL (B := B) (o := HO.lst xs) hp
    refine k (.ref p) B _ fs [p] (fr0.trans (fr.weak (fun _ f => f.elim) fun a f => ?_)) (g.grow fr (fun _ _ f => f) (g.ext.trans fr.sameH)) ⟨⟨p, xs, rfl, rfl, upd_same, hd⟩, rfl, fun a ha => ?_⟩
    · rcases f with f | f
      · exact Or.inr (Or.inl f)
      · exact Or.inl f
    · simp at ha
      subst ha
      refine ⟨?_, fun i hi => g.lives hi hp⟩
      cases e : B a with
      | none => rfl
      | some u => rw [g.ext a u e] at hp; cases hp
theorem opF_ok {K : PySem.W.Frag} {r : List V → Hp → VK → Prop} {pf : List D → Option Rd'} (h : ∀ B H vs ds res Q, Same B H → DpAll K B vs ds → pf ds = some res → ResK K B H Q res → r vs H Q) : OpOk K r (opF pf) := by
  intro vs0 σ B H ρ fs vs rs Ts Q g ok nd r' ρ' e k
  obtain ⟨ds, ρ1, e1, e2⟩ := M.bind_ok e
  obtain ⟨B1, fs1, fr1, g1, d1⟩ := freezeAll_ok g ok nd e1
  split at e2
  · rename_i res e3
    cases e2
    exact h B1 H vs ds res Q g1.ext d1 e3 (res_ok g1 fr1 k)
  · cases e2
def pTup : List D → Option Rd' := fun ds => if ds.length ≤ sizeLine then some (.pd (.tuple ds)) else none
def pLst : List D → Option Rd' := fun ds => if ds.length ≤ sizeLine then some (.nl ds) else none
def oTup := opF pTup
def oLst := opF pLst
section
variable {X : Cx} {vs0 : List V} {K : PySem.W.Frag}
theorem oTup_ok : OpOk K (fun xs H1 Q => xs.length ≤ sizeLine ∧ ∀ p, H1 p = none → Q (.ref p) (upd H1 p (.tup xs))) oTup := opF_ok fun B H vs ds res Q e hs hp k => by
  unfold pTup at hp
  split at hp
  · rename_i hl
    cases hp
    exact ⟨by rw [DpAll.length hs]; exact hl, fun p hp => k.tup e hp hs⟩
  · cases hp
theorem oLst_ok : OpOk K (fun xs H1 Q => xs.length ≤ sizeLine ∧ ∀ p, H1 p = none → Q (.ref p) (upd H1 p (.lst xs))) oLst := opF_ok fun B H vs ds res Q e hs hp k => by
  unfold pLst at hp
  split at hp
  · rename_i hl
    cases hp
    exact ⟨by rw [DpAll.length hs]; exact hl, fun p hp => k p vs hp hs⟩
  · cases hp
theorem de_tup {es : List Expr} {fa : M (List Rs)} {x1 pos} (h : PA X es (rdA X.K vs0 fa)) : PE X (.Tuple es x1 pos) (rdE X.K vs0 (M.bind fa oTup)) := PE.imp (pe_tup h) fun _ _ _ q => rd_op oTup_ok q
theorem de_lst {es : List Expr} {fa : M (List Rs)} {pos} (h : PA X es (rdA X.K vs0 fa)) : PE X (.List es pos) (rdE X.K vs0 (M.bind fa oLst)) := PE.imp (pe_lst h) fun _ _ _ q => rd_op oLst_ok q
end
def mTest (f : M Rs) : M Bool := M.bind f fun r ρ => match r.view ρ with
  | some (.bool b) => some (.ok b ρ)
  | _ => none
def eAnd (fa fb : M Rs) : M Rs := M.bind (mTest fa) fun b => if b = true then fb else eC (.bool false)
def tAnd' (c d : M Bool) : M Bool := M.bind c fun b => if b = true then d else M.ret false
def tOr' (c d : M Bool) : M Bool := M.bind c fun b => if b = true then M.ret true else d
def tNot' (c : M Bool) : M Bool := M.bind c fun b => M.ret (!b)
section
variable {X : Cx} {vs0 : List V} {K : PySem.W.Frag} {a b : Expr} {fa fb : M Rs} {ca cb : M Bool} {pos : Pos} {rest : List Expr}
theorem rd_test {f : M Rs} {α : Type} {g : Bool → M α} {σ : L2.St} {H : Hp} {B : Hp} {ρ : Env} {fs : Nat → List Addr} {b : α} {ρ' : Env} {Q : VK} (gd : Good K vs0 B H σ ρ fs) (e : M.bind (mTest f) g ρ = some (.ok b ρ'))
    (k : ∀ c B1 H1 ρ1 fs1, Fr B H (InF fs) B1 H1 (InF fs1) → Good K vs0 B1 H1 σ ρ1 fs1 → g c ρ1 = some (.ok b ρ') → Q (.bl c) H1) : rdE K vs0 f σ H Q := by
  obtain ⟨c, ρ1, e1, e2⟩ := M.bind_ok e
  obtain ⟨r, ρ2, e3, e4⟩ := M.bind_ok e1
  split at e4
  · rename_i c' e5
    cases e4
    refine ⟨B, ρ, fs, gd, r, ρ1, e3, fun v B1 H1 fs1 T fr g1 ok => ?_⟩
    rw [(view_ok g1 ok e5).bool]
    exact k c B1 H1 ρ1 fs1 (fr_drop fr) g1 e2
  · cases e4
theorem de_one {op} {f : M Rs} (h : PE X a (rdE X.K vs0 f)) : PE X (.BoolOp op [a] pos) (rdE X.K vs0 f) := pe_one h
theorem de_and (ha : PE X a (rdE X.K vs0 fa)) (hb : PE X (.BoolOp .And (b :: rest) pos) (rdE X.K vs0 fb)) : PE X (.BoolOp .And (a :: b :: rest) pos) (rdE X.K vs0 (eAnd fa fb)) := PE.imp (pe_and ha hb) fun σ H Q q => by
  obtain ⟨B, ρ, fs, g, r, ρ', e, k⟩ := q
  refine rd_test g e fun c B1 H1 ρ1 fs1 fr1 g1 e1 => ⟨c, rfl, ?_⟩
  cases c with
  | true => exact ⟨B1, ρ1, fs1, g1, r, ρ', e1, fun v B2 H2 fs2 T fr2 g2 ok2 => k v B2 H2 fs2 T (fr1.trans fr2) g2 ok2⟩
  | false =>
    cases e1
    exact k _ B1 H1 fs1 [] (fr1.trans fr_unr) g1 ⟨⟨.bl false, rfl⟩, rfl, fun a ha => nomatch ha⟩
theorem dt_val {e : Expr} (h : PE X e (rdE X.K vs0 fa)) (he : ∀ whole, isTrue e X.env whole = (do let v ← whole; standAt e.pos; holding [v] (truthy v)) := by intro _; rfl) : PT X e (rdT X.K vs0 (mTest fa)) := PT.imp (pt_val h he) fun σ H Q q => by
  obtain ⟨B, ρ, fs, g, b, ρ', e, k⟩ := q
  obtain ⟨r, ρ2, e3, e4⟩ := M.bind_ok e
  split at e4
  · rename_i c' e5
    cases e4
    refine ⟨B, ρ, fs, g, r, ρ', e3, fun v B1 H1 fs1 T fr g1 ok => ⟨b, (view_ok g1 ok e5).bool, k B1 H1 fs1 (fr_drop fr) g1⟩⟩
  · cases e4
theorem rd_t {α : Type} {g : Bool → M α} {σ : L2.St} {H : Hp} {B : Hp} {ρ : Env} {fs : Nat → List Addr} {b : α} {ρ' : Env} {Q : Bool → Hp → Prop} (gd : Good K vs0 B H σ ρ fs) (e : M.bind ca g ρ = some (.ok b ρ'))
    (k : ∀ c B1 H1 ρ1 fs1, Fr B H (InF fs) B1 H1 (InF fs1) → Good K vs0 B1 H1 σ ρ1 fs1 → g c ρ1 = some (.ok b ρ') → Q c H1) : rdT K vs0 ca σ H Q := by
  obtain ⟨c, ρ1, e1, e2⟩ := M.bind_ok e
  exact ⟨B, ρ, fs, gd, c, ρ1, e1, fun B1 H1 fs1 fr g1 => k c B1 H1 ρ1 fs1 fr g1 e2⟩
theorem dw_and1 (ha : PT X a (rdT X.K vs0 ca)) : PW X (.BoolOp .And [a] pos) (rdT X.K vs0 ca) := pw_and1 ha
theorem dw_or1 (ha : PT X a (rdT X.K vs0 ca)) : PW X (.BoolOp .Or [a] pos) (rdT X.K vs0 ca) := pw_or1 ha
theorem dw_and (ha : PT X a (rdT X.K vs0 ca)) (hb : PW X (.BoolOp .And (b :: rest) pos) (rdT X.K vs0 cb)) : PW X (.BoolOp .And (a :: b :: rest) pos) (rdT X.K vs0 (tAnd' ca cb)) := PW.imp (pw_and ha hb) fun σ H Q q => by
  obtain ⟨B, ρ, fs, g, r, ρ', e, k⟩ := q
  refine rd_t g e fun c B1 H1 ρ1 fs1 fr1 g1 e1 => ?_
  cases c with
  | true => exact ⟨B1, ρ1, fs1, g1, r, ρ', e1, fun B2 H2 fs2 fr2 g2 => k B2 H2 fs2 (fr1.trans fr2) g2⟩
  | false =>
    cases e1
    exact k B1 H1 fs1 fr1 g1
theorem dw_or (ha : PT X a (rdT X.K vs0 ca)) (hb : PW X (.BoolOp .Or (b :: rest) pos) (rdT X.K vs0 cb)) : PW X (.BoolOp .Or (a :: b :: rest) pos) (rdT X.K vs0 (tOr' ca cb)) := PW.imp (pw_or ha hb) fun σ H Q q => by
  obtain ⟨B, ρ, fs, g, r, ρ', e, k⟩ := q
  refine rd_t g e fun c B1 H1 ρ1 fs1 fr1 g1 e1 => ?_
  cases c with
  | false => exact ⟨B1, ρ1, fs1, g1, r, ρ', e1, fun B2 H2 fs2 fr2 g2 => k B2 H2 fs2 (fr1.trans fr2) g2⟩
  | true =>
    cases e1
    exact k B1 H1 fs1 fr1 g1
theorem dt_not (ha : PT X a (rdT X.K vs0 ca)) : PT X (.UnaryOp .Not a pos) (rdT X.K vs0 (tNot' ca)) := PT.imp (pt_not ha) fun σ H Q q => by
  obtain ⟨B, ρ, fs, g, r, ρ', e, k⟩ := q
  refine rd_t g e fun c B1 H1 ρ1 fs1 fr1 g1 e1 => ?_
  cases e1
  exact k B1 H1 fs1 fr1 g1
end
def eChain (fa fb fc : M Rs) (op op' : List Rs → M Rs) : M Rs := M.bind fa fun x => M.bind fb fun y => match y with
  | .own (.p d) => M.bind (mTest (op [x, .own (.p d)])) fun b => if b = true then M.bind fc fun z => op' [.own (.p d), z] else eC (.bool false)
  | _ => M.fail
def gSeq (g1 g2 : M Fl) : M Fl := M.bind g1 fun fl => match fl with
  | .nx => g2
  | fl => M.ret fl
def gNext : M Fl := M.ret .nx
def gExpr (f : M Rs) : M Fl := M.bind f fun _ => M.ret .nx
def gIf (c : M Bool) (g1 g2 : M Fl) : M Fl := M.bind c fun b => if b = true then g1 else g2
def takeR : Rs → M Sl
  | .own s => M.ret s
  | .bor i => fun ρ => match ρ[i]? with
    | some (some s) => some (.ok s (ρ.set i none))
    | _ => none
  | .lent _ _ _ => M.fail
def gSet (i : Nat) (f : M Rs) : M Fl := M.bind f fun r => M.bind (takeR r) fun s ρ => if i < ρ.length then some (.ok .nx (ρ.set i (some s))) else none
def gRet (f : M Rs) : M Fl := M.bind f fun r => M.bind (takeR r) fun s => if s.tag = none then M.ret (.rt s) else M.fail
section
variable {K : PySem.W.Frag} {vs0 : List V} {B H : Hp} {σ : L2.St} {ρ : Env} {fs : Nat → List Addr}
theorem takeR_ok {r : Rs} {s : Sl} {ρ' : Env} {v : V} {T : List Addr} (g : Good K vs0 B H σ ρ fs) (ok : RsOk K B H σ fs v r T) (e : takeR r ρ = some (.ok s ρ')) :
    ∃ fs' T', Good K vs0 B H σ ρ' fs' ∧ Own K B H v s T' ∧ (∀ k, s.tag = some k → vs0[k]? = some v) ∧ (∀ a ∈ T', B a = none ∧ ∀ i, a ∉ fs' i) ∧ (∀ a, UnF (InF fs') T' a → UnF (InF fs) T a) ∧ ρ'.length = ρ.length := by
  cases r with
  | own s' =>
    cases e
    exact ⟨fs, T, g, ok.1, (fun k h => by rw [ok.2.1] at h; cases h), ok.2.2, fun _ h => h, rfl⟩
  | lent i s k => cases e
  | bor i =>
    unfold takeR at e
    try dsimp only at e
    split at e
    · rename_i s' e2
      cases e
      obtain ⟨v', h1, h2, h3⟩ := g.at_ i _ e2
      obtain ⟨q1, q2⟩ := ok
      rw [h1] at q1
      cases q1
      refine ⟨_, fs i, g.drop i, h2, h3, fun a ha => ⟨g.out i a ha, fun j hj => ?_⟩, fun a h => ?_, by simp⟩
      · try dsimp only at hj
        by_cases q : j = i
        · rw [if_pos q] at hj; cases hj
        · rw [if_neg q] at hj
          exact q (g.dis j i a hj ha)
      · rcases h with ⟨j, hj⟩ | h
        · try dsimp only at hj
          by_cases q : j = i
          · rw [if_pos q] at hj; cases hj
          · rw [if_neg q] at hj
            exact Or.inl ⟨j, hj⟩
        · exact Or.inl ⟨i, h⟩
    · cases e
end
section
variable {X : Cx} {vs0 : List V} {st : Stmt} {rest : List Stmt} {g g1 g2 : M Fl} {f : M Rs} {e : Expr} {pos : Pos}
theorem dss_nil : PSs X [] (rdS X.K vs0 gNext) := PSs.imp pss_nil fun D σ H q => by
  obtain ⟨B, ρ, fs, gd, fl, ρ', e1, k⟩ := q
  cases e1
  exact k σ B H fs (Fr.refl _ _ _) gd
theorem dss_one (h : PS X st (rdS X.K vs0 g)) : PSs X [st] (rdS X.K vs0 g) := pss_one h
theorem dss_cons (h1 : PS X st (rdS X.K vs0 g1)) (h2 : PSs X rest (rdS X.K vs0 g2)) : PSs X (st :: rest) (rdS X.K vs0 (gSeq g1 g2)) := PSs.imp (pss_cons h1 h2) fun D σ H q => by
  obtain ⟨B, ρ, fs, gd, fl, ρ', e1, k⟩ := q
  obtain ⟨fl1, ρ1, e2, e3⟩ := M.bind_ok e1
  refine ⟨B, ρ, fs, gd, fl1, ρ1, e2, ?_⟩
  cases fl1 with
  | nx =>
    intro σ1 B1 H1 fs1 fr1 g1
    refine ⟨B1, ρ1, fs1, g1, fl, ρ', e3, ?_⟩
    cases fl with
    | nx => exact fun σ2 B2 H2 fs2 fr2 g2 => k σ2 B2 H2 fs2 (fr1.trans fr2) g2
    | bk => exact fun σ2 B2 H2 fs2 fr2 g2 => k σ2 B2 H2 fs2 (fr1.trans fr2) g2
    | ct => exact fun σ2 B2 H2 fs2 fr2 g2 => k σ2 B2 H2 fs2 (fr1.trans fr2) g2
    | rt s => exact fun v σ2 B2 H2 fs2 T fr2 g2 ok => k v σ2 B2 H2 fs2 T (fr1.trans fr2) g2 ok
  | bk => cases e3; exact k
  | ct => cases e3; exact k
  | rt s => cases e3; exact k
theorem ds_expr (he : PE X e (rdE X.K vs0 f)) (hs : swapsWith e none pos.line X.env = pure false := by rfl) : PS X (.Expr e pos) (rdS X.K vs0 (gExpr f)) := PS.imp (ps_expr he hs) fun D σ H q => by
  obtain ⟨B, ρ, fs, gd, fl, ρ', e1, k⟩ := q
  obtain ⟨r, ρ1, e2, e3⟩ := M.bind_ok e1
  cases e3
  exact ⟨B, ρ, fs, gd, r, ρ', e2, fun v B1 H1 fs1 T fr g1 ok => k σ B1 H1 fs1 (fr_drop fr) g1⟩
theorem ds_if {c : Expr} {a b : List Stmt} {mc : M Bool} (hc : PT X c (rdT X.K vs0 mc)) (ha : PSs X a (rdS X.K vs0 g1)) (hb : PSs X b (rdS X.K vs0 g2)) : PS X (.If c a b pos) (rdS X.K vs0 (gIf mc g1 g2)) := PS.imp (ps_if hc ha hb) fun D σ H q => by
  obtain ⟨B, ρ, fs, gd, fl, ρ', e1, k⟩ := q
  refine rd_t gd e1 fun c B1 H1 ρ1 fs1 fr1 g1 e2 => ?_
  have k' : ∀ g : M Fl, g ρ1 = some (.ok fl ρ') → rdS X.K vs0 g D σ H1 := fun g e => ⟨B1, ρ1, fs1, g1, fl, ρ', e, by
    cases fl with
    | nx => exact fun σ2 B2 H2 fs2 fr2 g2 => k σ2 B2 H2 fs2 (fr1.trans fr2) g2
    | bk => exact fun σ2 B2 H2 fs2 fr2 g2 => k σ2 B2 H2 fs2 (fr1.trans fr2) g2
    | ct => exact fun σ2 B2 H2 fs2 fr2 g2 => k σ2 B2 H2 fs2 (fr1.trans fr2) g2
    | rt s => exact fun v σ2 B2 H2 fs2 T fr2 g2 ok => k v σ2 B2 H2 fs2 T (fr1.trans fr2) g2 ok⟩
  cases c with
  | true => exact k' _ e2
  | false => exact k' _ e2
theorem rd_ret {D : Ends} {σ : L2.St} {H : Hp} {K : PySem.W.Frag} (q : rdS K vs0 (gRet f) D σ H) : tRet (rdE K vs0 f) D σ H := by
  obtain ⟨B, ρ, fs, gd, fl, ρ', e1, k⟩ := q
  obtain ⟨r, ρ1, e2, e3⟩ := M.bind_ok e1
  obtain ⟨s, ρ2, e4, e5⟩ := M.bind_ok e3
  split at e5
  · rename_i ht
    cases e5
    refine ⟨B, ρ, fs, gd, r, ρ1, e2, fun v B1 H1 fs1 T fr g1 ok => ?_⟩
    obtain ⟨fs2, T2, g2, o2, _, n2, s2, _⟩ := takeR_ok g1 ok e4
    exact k v σ B1 H1 fs2 T2 (fr.weak (fun _ h => h) fun a h => Or.inl (s2 a h)) g2 ⟨o2, ht, n2⟩
  · cases e5
theorem ds_ret (he : PE X e (rdE X.K vs0 f)) : PS X (.Return (some e) pos) (rdS X.K vs0 (gRet f)) := PS.imp (ps_ret he) fun D σ H q => rd_ret q
theorem rd_set {i : Nat} {D : Ends} {σ : L2.St} {H : Hp} {K : PySem.W.Frag} (q : rdS K vs0 (gSet i f) D σ H) : tAsg (rdE K vs0 f) (gName i) D σ H := by
  obtain ⟨B, ρ, fs, gd, fl, ρ', e1, k⟩ := q
  obtain ⟨r, ρ1, e2, e3⟩ := M.bind_ok e1
  obtain ⟨s, ρ2, e4, e5⟩ := M.bind_ok e3
  split at e5
  · rename_i hi
    cases e5
    refine ⟨B, ρ, fs, gd, r, ρ1, e2, fun v B1 H1 fs1 T fr g1 ok => ?_⟩
    obtain ⟨fs2, T2, g2, o2, t2, n2, s2, _⟩ := takeR_ok g1 ok e4
    refine k _ B1 H1 _ (fr.weak (fun _ h => h) fun a h => Or.inl (s2 a ?_)) (g2.put hi o2 t2 fun a ha => ⟨(n2 a ha).1, fun j _ => (n2 a ha).2 j⟩)
    obtain ⟨j, hj⟩ := h
    try dsimp only at hj
    by_cases q : j = i
    · rw [if_pos q] at hj; exact Or.inr hj
    · rw [if_neg q] at hj; exact Or.inl ⟨j, hj⟩
  · cases e5
theorem ds_set {i : Nat} {x : Str} {pos' : Pos} (hN : X.N.Nodup) (hi : X.N[i]? = some x) (hx : Loc X.env.scope x) (he : PE X e (rdE X.K vs0 f)) (hs : swapsWith e (some (.Name x pos')) pos.line X.env = pure false := by rfl) (hf : X.fn x = true ∨ X.env.scope.names.lookup x = some .local := by first | exact .inl rfl | exact .inr rfl | assumption) :
    PS X (.Assign [.Name x pos'] e pos) (rdS X.K vs0 (gSet i f)) := PS.imp (ps_set hN hi hx he hs hf) fun D σ H q => rd_set q
end
end Pd
set_option Elab.async false
set_option linter.all false
set_option maxRecDepth 100000
set_option maxHeartbeats 1000000
namespace Pd
open PySem PySem.Spec PyProof.Rows L2
section
variable (K : PySem.W.Frag) (vs0 : List V)
def rdG (is : List Nat) (t : D → Env → Option Env) : TG := fun v σ H Q => ∃ B ρ fs d ρ', Good K vs0 B H σ ρ fs ∧ Dp K B v d ∧ t d ρ = some ρ' ∧ ∀ σ' fs', Good K vs0 B H σ' ρ' fs' → (∀ a, InF fs' a → InF fs a) → (∀ j, j ∉ is → σ'[j]? = σ[j]?) → σ'.length = σ.length → Q σ' H
def rdGs (is : List Nat) (t : List D → Env → Option Env) : TGs := fun vs σ H Q => ∃ B ρ fs ds ρ', Good K vs0 B H σ ρ fs ∧ DpAll K B vs ds ∧ t ds ρ = some ρ' ∧ ∀ σ' fs', Good K vs0 B H σ' ρ' fs' → (∀ a, InF fs' a → InF fs a) → (∀ j, j ∉ is → σ'[j]? = σ[j]?) → σ'.length = σ.length → Q σ' H
end
def tgName (i : Nat) : D → Env → Option Env := fun d ρ => if i < ρ.length then some (ρ.set i (some (.p d))) else none
def tgNil : List D → Env → Option Env := fun ds ρ => match ds with
  | [] => some ρ
  | _ => none
def tgCons (t : D → Env → Option Env) (u : List D → Env → Option Env) : List D → Env → Option Env := fun ds ρ => match ds with
  | d :: r => match t d ρ with
    | some ρ1 => u r ρ1
    | none => none
  | [] => none
def tgTup (n : Nat) (u : List D → Env → Option Env) : D → Env → Option Env := fun d ρ => match d with
  | .tuple l => if l.length = n then u l ρ else none
  | _ => none
theorem PG.imp {X : Cx} {e : Expr} {t t' : TG} (h : PG X e t) (i : ∀ v σ H Q, t' v σ H Q → t v σ H Q) : PG X e t' := ⟨fun pins s σ H v u Q I r q => h.run pins s σ H v u Q I r (i v σ H Q q)⟩
theorem PGs.imp {X : Cx} {e : List Expr} {t t' : TGs} (h : PGs X e t) (i : ∀ v σ H Q, t' v σ H Q → t v σ H Q) : PGs X e t' := ⟨fun pins s σ H v u Q I r q => h.run pins s σ H v u Q I r (i v σ H Q q)⟩
section
variable {X : Cx} {vs0 : List V} {pos : Pos}
theorem dg_name {i : Nat} {x : Str} (hN : X.N.Nodup) (hi : X.N[i]? = some x) (hx : Loc X.env.scope x) (hf : X.fn x = true ∨ X.env.scope.names.lookup x = some .local := by first | exact .inl rfl | exact .inr rfl | assumption) : PG X (.Name x pos) (rdG X.K vs0 [i] (tgName i)) :=
  PG.imp (pg_name hN hi hx hf) fun v σ H Q q => by
    obtain ⟨B, ρ, fs, d, ρ', g, hd, e, k⟩ := q
    unfold tgName at e
    split at e
    · rename_i hl
      cases e
      refine k _ _ (g.put hl (s := .p d) (T := []) ⟨hd, rfl⟩ (fun k h => nomatch h) fun a h => nomatch h) (fun a h => ?_) (fun j hj => by
        rw [List.getElem?_set_ne (fun e => hj (by simp [e]))]) (by simp)
      obtain ⟨j, hj⟩ := h
      dsimp only at hj
      by_cases q : j = i
      · rw [if_pos q] at hj; cases hj
      · rw [if_neg q] at hj; exact ⟨j, hj⟩
    · cases e
theorem dgs_nil : PGs X [] (rdGs X.K vs0 [] tgNil) := PGs.imp pgs_nil fun v σ H Q q => by
  obtain ⟨B, ρ, fs, d, ρ', g, hd, e, k⟩ := q
  unfold tgNil at e
  split at e
  · cases e
    cases hd
    exact ⟨rfl, k σ fs g (fun _ h => h) (fun _ _ => rfl) rfl⟩
  · cases e
theorem dgs_cons {e : Expr} {es : List Expr} {is js : List Nat} {t : D → Env → Option Env} {u : List D → Env → Option Env} (h1 : PG X e (rdG X.K vs0 is t)) (h2 : PGs X es (rdGs X.K vs0 js u))
    (hs : (assignEach (e :: es) X.env).map (·.2) = assign e X.env :: (assignEach es X.env).map (·.2) := by rfl) : PGs X (e :: es) (rdGs X.K vs0 (is ++ js) (tgCons t u)) := PGs.imp (pgs_cons h1 h2 hs) fun vs σ H Q q => by
  obtain ⟨B, ρ, fs, ds, ρ', g, hd, e, k⟩ := q
  unfold tgCons at e
  split at e
  · rename_i d r
    split at e
    · rename_i ρ1 e1
      cases hd with
      | cons h1 h2 =>
        refine ⟨_, _, rfl, B, ρ, fs, d, ρ1, g, h1, e1, fun σ1 fs1 g1 s1 a1 l1 => ⟨B, ρ1, fs1, r, ρ', g1, h2, e, fun σ2 fs2 g2 s2 a2 l2 => k σ2 fs2 g2 (fun a h => s1 a (s2 a h)) (fun j hj => (a2 j fun h => hj (List.mem_append_right _ h)).trans (a1 j fun h => hj (List.mem_append_left _ h))) (l2.trans l1)⟩⟩
    · cases e
  · cases e
theorem dg_tup {es : List Expr} {k : Nat} {is : List Nat} {u : List D → Env → Option Env} {n : Nat} (hc : X.calm = true) (h : PGs X es (rdGs X.K vs0 is u))
    (hn : (assignEach es X.env).length = n := by rfl) (hst : (assignEach es X.env).findIdx? (·.1) = none := by rfl) : PG X (.Tuple es k pos) (rdG X.K vs0 is (tgTup n u)) := PG.imp (pg_tup hc h hn hst) fun v σ H Q q => by
  obtain ⟨B, ρ, fs, d, ρ', g, hd, e, k⟩ := q
  unfold tgTup at e
  split at e
  · rename_i l
    split at e
    · rename_i hl
      cases hd with
      | tup h1 h2 => exact ⟨_, _, rfl, sqt_mono g.ext h1, by rw [DpAll.length h2]; exact hl, B, ρ, fs, l, ρ', g, h2, e, k⟩
    · cases e
  · cases e
end
def gAsg (t : D → Env → Option Env) (f : M Rs) : M Fl := M.bind f fun r => M.bind (freezeR r) fun d ρ => match t d ρ with
  | some ρ' => some (.ok .nx ρ')
  | none => none
theorem ds_asg {X : Cx} {vs0 : List V} {tg e : Expr} {f : M Rs} {is : List Nat} {t : D → Env → Option Env} {pos : Pos} (he : PE X e (rdE X.K vs0 f)) (hg : PG X tg (rdG X.K vs0 is t)) (hs : swapsWithSole [tg] e pos.line X.env = pure false := by rfl) (hw : swappedStores [tg] e X.env = pure none := by rfl)
    (h1 : (assignEach [tg] X.env).map (·.2) = [assign tg X.env] := by rfl) : PS X (.Assign [tg] e pos) (rdS X.K vs0 (gAsg t f)) := PS.imp (ps_asg he hg hs hw h1) fun D σ H q => by
  obtain ⟨B, ρ, fs, gd, fl, ρ', e1, k⟩ := q
  obtain ⟨r, ρ1, e2, e3⟩ := M.bind_ok e1
  obtain ⟨d, ρ2, e4, e5⟩ := M.bind_ok e3
  split at e5
  · rename_i ρ3 e6
    cases e5
    refine ⟨B, ρ, fs, gd, r, ρ1, e2, fun v B1 H1 fs1 T fr g1 ok => ?_⟩
    obtain ⟨B2, fs2, fr2, g2, d2⟩ := freezeR_ok g1 ok e4
    exact ⟨B2, ρ2, fs2, d, ρ', g2, d2, e6, fun σ3 fs3 g3 s3 _ _ => k σ3 B2 H1 fs3 (fr.trans (fr2.weak (fun _ h => h) fun a h => Or.inl (s3 a h))) g3⟩
  · cases e5
def JOk (K : PySem.W.Frag) (B : Hp) (J : It) (l : List D) : Prop := ∀ B2 H2, Same B B2 → Same B2 H2 → ∀ i,
  (∀ d, l[i]? = some d → J.go i H2 ∧ ∀ x H3, J.yld i H2 x H3 → ∃ B3, Fr B2 H2 (fun _ => False) B3 H3 (fun _ => False) ∧ Same B3 H3 ∧ Dp K B3 x d) ∧ (l.length = i → J.stop i H2)
def rdI (K : PySem.W.Frag) (vs0 : List V) (f : M (List D)) : TI := fun σ H R => ∃ B ρ fs, Good K vs0 B H σ ρ fs ∧ ∃ l ρ', f ρ = some (.ok l ρ') ∧
  ∀ J B' H' fs', Fr B H (InF fs) B' H' (InF fs') → Good K vs0 B' H' σ ρ' fs' → JOk K B' J l → R J H'
theorem PI.imp {X : Cx} {tg e : Expr} {t t' : TI} (h : PI X tg e t) (i : ∀ σ H Q, t' σ H Q → t σ H Q) : PI X tg e t' := ⟨fun pins s σ H R I q => h.run pins s σ H R I (i σ H R q)⟩
theorem PI.or {X : Cx} {tg e : Expr} {t t' : TI} (h : PI X tg e t) (h' : PI X tg e t') : PI X tg e (fun σ H Q => t σ H Q ∨ t' σ H Q) := ⟨fun pins s σ H R I q => by
  rcases q with q | q
  · exact h.run pins s σ H R I q
  · exact h'.run pins s σ H R I q⟩
def strSigns (z : Str) : List D := z.cps.toList.map fun c => .str ⟨#[c]⟩
def mSeq (f : M Rs) : M (List D) := M.bind f fun r => M.bind (freezeR r) fun d ρ => match d with
  | .list l => some (.ok l ρ)
  | .tuple l => some (.ok l ρ)
  | .str z => some (.ok (strSigns z) ρ)
  | _ => none
theorem jok_list {K : PySem.W.Frag} {B : Hp} {a : Addr} {xs : List V} {l : List D} (h1 : SqL K B a xs) (h2 : DpAll K B xs l) : JOk K B (Itl K a) l := fun B2 H2 s1 s2 i => by
  have hq : SqL K H2 a xs := sql_mono (s1.trans s2) h1
  refine ⟨fun d hd => ?_, fun hl => ⟨xs, hq, by rw [DpAll.length h2]; exact Nat.le_of_eq hl⟩⟩
  obtain ⟨v, e1, e2⟩ := DpAll.get h2 hd
  refine ⟨⟨xs, v, hq, e1⟩, fun x H3 q => ?_⟩
  obtain ⟨rfl, q⟩ := q
  have := q xs hq
  rw [e1] at this
  cases this
  exact ⟨B2, Fr.refl _ _ _, s2, Dp.mono s1 e2⟩
theorem jok_tup {K : PySem.W.Frag} {B : Hp} {a : Addr} {xs : List V} {l : List D} (h1 : SqT K B a xs) (h2 : DpAll K B xs l) : JOk K B (Itt K a) l := fun B2 H2 s1 s2 i => by
  have hq : SqT K H2 a xs := sqt_mono (s1.trans s2) h1
  refine ⟨fun d hd => ?_, fun hl => ⟨xs, hq, by rw [DpAll.length h2]; exact Nat.le_of_eq hl⟩⟩
  obtain ⟨v, e1, e2⟩ := DpAll.get h2 hd
  refine ⟨⟨xs, v, hq, e1⟩, fun x H3 q => ?_⟩
  obtain ⟨rfl, q⟩ := q
  have := q xs hq
  rw [e1] at this
  cases this
  exact ⟨B2, Fr.refl _ _ _, s2, Dp.mono s1 e2⟩
theorem jok_str {K : PySem.W.Frag} {B : Hp} {z : Str} : JOk K B (Its z) (strSigns z) := fun B2 H2 s1 s2 i => by
  unfold strSigns
  refine ⟨fun d hd => ?_, fun hl => by
    have hl := Nat.le_of_eq hl
    rw [List.length_map] at hl
    simpa [Its] using hl⟩
  rw [List.getElem?_map] at hd
  cases e : z.cps.toList[i]? with
  | none => rw [e] at hd; cases hd
  | some c =>
    rw [e] at hd
    cases hd
    have e' : z.cps[i]? = some c := by simpa using e
    refine ⟨by
      show i < z.cps.size
      exact (Array.getElem?_eq_some_iff.mp e').1, fun x H3 q => ?_⟩
    obtain ⟨rfl, c', q1, rfl⟩ := q
    rw [e'] at q1
    cases q1
    exact ⟨B2, Fr.refl _ _ _, s2, .str _⟩
section
variable {X : Cx} {vs0 : List V} {tg : Expr}
theorem di_seq {e : Expr} {f : M Rs} (he : PE X e (rdE X.K vs0 f)) : PI X tg e (rdI X.K vs0 (mSeq f)) := PI.imp (PI.or (pi_list he) (PI.or (pi_tup he) (pi_str he))) fun σ H R q => by
  obtain ⟨B, ρ, fs, g, l, ρ', e1, k⟩ := q
  obtain ⟨r, ρ1, e2, e3⟩ := M.bind_ok e1
  obtain ⟨d, ρ2, e4, e5⟩ := M.bind_ok e3
  split at e5
  · cases e5
    refine Or.inl ⟨B, ρ, fs, g, r, ρ1, e2, fun v B1 H1 fs1 T fr g1 ok => ?_⟩
    obtain ⟨B2, fs2, fr2, g2, d2⟩ := freezeR_ok g1 ok e4
    cases d2 with
    | lst h1 h2 => exact ⟨_, rfl, ⟨_, sql_mono g2.ext h1⟩, k _ B2 H1 fs2 (fr.trans fr2) g2 (jok_list h1 h2)⟩
  · cases e5
    refine Or.inr (Or.inl ⟨B, ρ, fs, g, r, ρ1, e2, fun v B1 H1 fs1 T fr g1 ok => ?_⟩)
    obtain ⟨B2, fs2, fr2, g2, d2⟩ := freezeR_ok g1 ok e4
    cases d2 with
    | tup h1 h2 => exact ⟨_, rfl, ⟨_, sqt_mono g2.ext h1⟩, k _ B2 H1 fs2 (fr.trans fr2) g2 (jok_tup h1 h2)⟩
  · cases e5
    refine Or.inr (Or.inr ⟨B, ρ, fs, g, r, ρ1, e2, fun v B1 H1 fs1 T fr g1 ok => ?_⟩)
    obtain ⟨B2, fs2, fr2, g2, d2⟩ := freezeR_ok g1 ok e4
    cases d2
    exact ⟨_, rfl, k _ B2 H1 fs2 (fr.trans fr2) g2 jok_str⟩
  · cases e5
def rngD (lo : Int) (n : Nat) : List D := (List.range n).map fun (i : Nat) => .int (lo + (i : Int))
theorem jok_rng {K : PySem.W.Frag} {B : Hp} {lo : Int} {n : Nat} : JOk K B (Itr lo n) (rngD lo n) := fun B2 H2 s1 s2 i => by
  unfold rngD
  refine ⟨fun d hd => ?_, fun hl => by
    have hl := Nat.le_of_eq hl
    simpa [Itr] using hl⟩
  rw [List.getElem?_map] at hd
  by_cases hi : i < n
  · rw [List.getElem?_range hi] at hd
    cases hd
    refine ⟨hi, fun x H3 q => ?_⟩
    obtain ⟨rfl, rfl⟩ := q
    exact ⟨B2, Fr.refl _ _ _, s2, .int _⟩
  · rw [List.getElem?_eq_none (by simpa using hi)] at hd
    cases hd
def mRng1 (f : M (List Rs)) : M (List D) := M.bind f fun rs ρ => match viewAll rs ρ with
  | some [.int j] => if -(2 ^ 62) ≤ j ∧ j < 2 ^ 62 then some (.ok (rngD 0 j.toNat) ρ) else none
  | _ => none
theorem di_range1 {a : Expr} {fa : M (List Rs)} {p pos : Pos} (hg : Gl X "range") (hm : X.mg "range" = none) (ha : PA X [a] (rdA X.K vs0 fa)) (hs : starEach [a] X.env = [(false, eval a X.env)] := by rfl) : PI X tg (.Call (.Name "range" p) [a] [] pos) (rdI X.K vs0 (mRng1 fa)) :=
  PI.imp (pi_range1 hg hm ha hs) fun σ H R q => by
    obtain ⟨B, ρ, fs, g, l, ρ', e1, k⟩ := q
    obtain ⟨rs, ρ1, e2, e3⟩ := M.bind_ok e1
    split at e3
    · rename_i j e4
      split at e3
      · rename_i hj
        cases e3
        refine ⟨B, ρ, fs, g, rs, ρ', e2, fun vs B1 H1 fs1 Ts fr g1 ok nd => ?_⟩
        obtain ⟨x, rfl, h1⟩ := (viewAll_ok g1 ok e4).one
        exact ⟨j, by rw [h1.int], hj.1, hj.2, k _ B1 H1 fs1 (fr_drop fr) g1 jok_rng⟩
      · cases e3
    · cases e3
end
def loopD (t : D → Env → Option Env) (body : M Fl) : List D → M Fl
  | [] => M.ret .nx
  | d :: l => fun ρ => match t d ρ with
    | none => none
    | some ρ1 => match body ρ1 with
      | none => none
      | some (.ok fl ρ2) => match fl with
        | .nx => loopD t body l ρ2
        | .ct => loopD t body l ρ2
        | .bk => some (.ok .nx ρ2)
        | .rt s => some (.ok (.rt s) ρ2)
def gFor (src : M (List D)) (t : D → Env → Option Env) (body : M Fl) : M Fl := M.bind src fun l => loopD t body l
def Want (K : PySem.W.Frag) (vs0 : List V) (D : Ends) (B H : Hp) (fs : Nat → List Addr) (fl : Fl) (ρ' : Env) : Prop := match fl with
  | .nx => ∀ σ' B' H' fs', Fr B H (InF fs) B' H' (InF fs') → Good K vs0 B' H' σ' ρ' fs' → D.nx σ' H'
  | .bk => ∀ σ' B' H' fs', Fr B H (InF fs) B' H' (InF fs') → Good K vs0 B' H' σ' ρ' fs' → D.bk σ' H'
  | .ct => ∀ σ' B' H' fs', Fr B H (InF fs) B' H' (InF fs') → Good K vs0 B' H' σ' ρ' fs' → D.ct σ' H'
  | .rt s => ∀ v σ' B' H' fs' T, Fr B H (InF fs) B' H' (UnF (InF fs') T) → Good K vs0 B' H' σ' ρ' fs' → RsOk K B' H' σ' fs' v (.own s) T → D.rt v H'
section
variable {K : PySem.W.Frag} {vs0 : List V} {D : Ends} {B H B1 H1 : Hp} {fs fs1 : Nat → List Addr} {fl : Fl} {ρ ρ' : Env}
theorem Want.later (w : Want K vs0 D B H fs fl ρ') (fr : Fr B H (InF fs) B1 H1 (InF fs1)) : Want K vs0 D B1 H1 fs1 fl ρ' := by
  cases fl with
  | nx => exact fun σ2 B2 H2 fs2 fr2 g2 => w σ2 B2 H2 fs2 (fr.trans fr2) g2
  | bk => exact fun σ2 B2 H2 fs2 fr2 g2 => w σ2 B2 H2 fs2 (fr.trans fr2) g2
  | ct => exact fun σ2 B2 H2 fs2 fr2 g2 => w σ2 B2 H2 fs2 (fr.trans fr2) g2
  | rt s => exact fun v σ2 B2 H2 fs2 T fr2 g2 ok => w v σ2 B2 H2 fs2 T (fr.trans fr2) g2 ok
theorem rdS_of {σ : L2.St} {g : M Fl} (gd : Good K vs0 B H σ ρ fs) (e : g ρ = some (.ok fl ρ')) (w : Want K vs0 D B H fs fl ρ') : rdS K vs0 g D σ H := ⟨B, ρ, fs, gd, fl, ρ', e, w⟩
end
section
variable {X : Cx} {vs0 : List V} {tg : Expr}
theorem rd_for {K : PySem.W.Frag} {src : M (List D)} {is : List Nat} {t : D → Env → Option Env} {body : M Fl} {D : Ends} {σ : L2.St} {H : Hp} (q : rdS K vs0 (gFor src t body) D σ H) : tFor (rdI K vs0 src) (rdG K vs0 is t) (rdS K vs0 body) D σ H := by
  obtain ⟨B, ρ, fs, gd, fl, ρ', e1, w⟩ := q
  have w : Want K vs0 D B H fs fl ρ' := w
  obtain ⟨l, ρ1, e2, e3⟩ := M.bind_ok e1
  refine ⟨B, ρ, fs, gd, l, ρ1, e2, fun J B1 H1 fs1 fr1 g1 jok => ?_⟩
  refine ⟨fun i m σ H => i ≤ l.length ∧ m = l.length - i ∧ ∃ B2 ρ2 fs2, Good K vs0 B2 H σ ρ2 fs2 ∧ Same B1 B2 ∧ loopD t body (l.drop i) ρ2 = some (.ok fl ρ') ∧ Want K vs0 D B2 H fs2 fl ρ',
    ⟨l.length, Nat.zero_le _, rfl, B1, ρ1, fs1, g1, Same.refl _, by simpa using e3, w.later fr1⟩, ?_⟩
  rintro i m σ2 H2 ⟨hi, rfl, B2, ρ2, fs2, g2, s2, e4, w2⟩
  obtain ⟨j1, j2⟩ := jok B2 H2 s2 g2.ext i
  by_cases hil : i < l.length
  · right
    have hd : l[i]? = some l[i] := List.getElem?_eq_getElem hil
    obtain ⟨jg, jy⟩ := j1 _ hd
    rw [List.drop_eq_getElem_cons hil] at e4
    unfold loopD at e4
    split at e4
    · cases e4
    · rename_i ρ3 e5
      split at e4
      · cases e4
      · rename_i fl4 ρ4 e6
        refine ⟨jg, fun σ' H' => (i + 1 ≤ l.length ∧ ∃ B5 ρ5 fs5, Good K vs0 B5 H' σ' ρ5 fs5 ∧ Same B1 B5 ∧ loopD t body (l.drop (i + 1)) ρ5 = some (.ok fl ρ') ∧ Want K vs0 D B5 H' fs5 fl ρ'), fun σ' H' n => ⟨l.length - (i + 1), by omega, n.1, rfl, n.2⟩, fun x H3 hy => ?_⟩
        obtain ⟨B3, fr3, s3, d3⟩ := jy x H3 hy
        have g3 := g2.grow fr3 (fun _ _ f => f) s3
        have fr3' : Fr B2 H2 (InF fs2) B3 H3 (InF fs2) := fr3.weak (fun _ f => f.elim) fun a h => Or.inr (Or.inl h)
        refine ⟨B3, ρ2, fs2, _, ρ3, g3, d3, e5, fun σ4 fs4 g4 s4 _ _ => ?_⟩
        have fr4 : Fr B2 H2 (InF fs2) B3 H3 (InF fs4) := fr3'.weak (fun _ h => h) fun a h => Or.inl (s4 a h)
        refine rdS_of g4 e6 ?_
        have wn : ∀ σ5 B5 H5 fs5, Fr B3 H3 (InF fs4) B5 H5 (InF fs5) → Good K vs0 B5 H5 σ5 ρ4 fs5 → loopD t body (l.drop (i + 1)) ρ4 = some (.ok fl ρ') →
            i + 1 ≤ l.length ∧ ∃ B5 ρ5 fs5, Good K vs0 B5 H5 σ5 ρ5 fs5 ∧ Same B1 B5 ∧ loopD t body (l.drop (i + 1)) ρ5 = some (.ok fl ρ') ∧ Want K vs0 D B5 H5 fs5 fl ρ' :=
          fun σ5 B5 H5 fs5 fr5 g5 e7 => ⟨hil, B5, ρ4, fs5, g5, (s2.trans fr3.bb).trans fr5.bb, e7, w2.later (fr4.trans fr5)⟩
        cases fl4 with
        | nx => exact fun σ5 B5 H5 fs5 fr5 g5 => wn σ5 B5 H5 fs5 fr5 g5 e4
        | ct => exact fun σ5 B5 H5 fs5 fr5 g5 => wn σ5 B5 H5 fs5 fr5 g5 e4
        | bk =>
          cases e4
          exact fun σ5 B5 H5 fs5 fr5 g5 => w2 σ5 B5 H5 fs5 (fr4.trans fr5) g5
        | rt s =>
          cases e4
          exact fun v σ5 B5 H5 fs5 T fr5 g5 ok => w2 v σ5 B5 H5 fs5 T (fr4.trans fr5) g5 ok
  · left
    refine ⟨j2 (by omega), ?_⟩
    rw [List.drop_eq_nil_of_le (by omega)] at e4
    cases e4
    exact w2 σ2 B2 H2 fs2 (Fr.refl _ _ _) g2
theorem ds_for {iter : Expr} {body : List Stmt} {src : M (List D)} {is : List Nat} {t : D → Env → Option Env} {g : M Fl} {pos : Pos} (hp : PassesOwn (model X.prog X.w) X.A X.env X.xe) (hc : X.calm = true) (hi : PI X tg iter (rdI X.K vs0 src)) (hg : PG X tg (rdG X.K vs0 is t)) (hb : PSs X body (rdS X.K vs0 g))
    (hs : ∀ x, foldedSetIterable iter X.env x = pure x := by intro _; rfl) : PS X (.For tg iter body [] pos) (rdS X.K vs0 (gFor src t g)) := PS.imp (ps_for hp hc hi hg hb hs) fun D σ H q => rd_for q
end
end Pd
set_option Elab.async false
set_option linter.all false
set_option maxRecDepth 100000
set_option maxHeartbeats 1000000
namespace Pd
open PySem PySem.Spec PyProof.Rows L2
def wipeE (ρ : Env) : List Nat → Env
  | [] => ρ
  | v :: vs => (wipeE ρ vs).set v none
def plainAt (ρ : Env) : List Nat → Bool
  | [] => true
  | v :: vs => (match ρ[v]? with
    | some (some (.p _)) => true
    | some none => true
    | _ => false) && plainAt ρ vs
def backE (ρ0 ρ : Env) : List Nat → Env
  | [] => ρ
  | v :: vs => (backE ρ0 ρ vs).set v (ρ0.getD v none)
def compD (own : List Nat) (t : D → Env → Option Env) (tt : M Bool) (te : M Rs) : List D → List D → M (List D)
  | [], acc => M.ret acc
  | d :: l, acc => fun ρ => match t d (wipeE ρ own) with
    | none => none
    | some ρ1 => match tt ρ1 with
      | none => none
      | some (.ok false ρ2) => compD own t tt te l acc ρ2
      | some (.ok true ρ2) => match M.bind te freezeR ρ2 with
        | none => none
        | some (.ok y ρ3) => if acc.length < sizeLine then compD own t tt te l (acc ++ [y]) ρ3 else none
def eLc (src : M (List D)) (own : List Nat) (t : D → Env → Option Env) (tt : M Bool) (te : M Rs) : M Rs := M.bind src fun l ρ => if plainAt ρ own = true then
    match compD own t tt te l [] ρ with
    | some (.ok acc ρ1) => some (.ok (.own (.ml none acc)) (backE ρ (wipeE ρ1 own) own))
    | none => none
  else none
def tYes' : M Bool := M.ret true
section
variable {K : PySem.W.Frag} {vs0 : List V} {B H : Hp} {σ : L2.St} {ρ : Env} {fs : Nat → List Addr}
theorem Good.wipe1 (g : Good K vs0 B H σ ρ fs) (i : Nat) : Good K vs0 B H (σ.set i none) (ρ.set i none) (fun j => if j = i then [] else fs j) := by
  have g1 := g.drop i
  refine ⟨g1.ext, by simp [g.len], fun j s h => ?_, g1.emp, g1.dis, g1.out⟩
  obtain ⟨v, h1, h2, h3⟩ := g1.at_ j s h
  refine ⟨v, ?_, h2, h3⟩
  by_cases e : j = i
  · subst e
    by_cases hj : j < ρ.length
    · rw [List.getElem?_set_self hj] at h; cases h
    · rw [List.getElem?_eq_none (by simp; omega)] at h; cases h
  · rw [List.getElem?_set_ne (Ne.symm e)]; exact h1
theorem Good.wipes (g : Good K vs0 B H σ ρ fs) : ∀ own : List Nat, ∃ fs', Good K vs0 B H (wipe σ own) (wipeE ρ own) fs' ∧ ∀ a, InF fs' a → InF fs a
  | [] => ⟨fs, g, fun _ h => h⟩
  | v :: vs => by
    obtain ⟨fs1, g1, s1⟩ := g.wipes vs
    refine ⟨_, g1.wipe1 v, fun a h => s1 a ?_⟩
    obtain ⟨j, hj⟩ := h
    dsimp only at hj
    by_cases q : j = v
    · rw [if_pos q] at hj; cases hj
    · rw [if_neg q] at hj; exact ⟨j, hj⟩
theorem wipeE_get {j : Nat} : ∀ {own : List Nat} {s : Sl}, (wipeE ρ own)[j]? = some (some s) → ρ[j]? = some (some s) ∧ j ∉ own
  | [], s, h => ⟨h, by simp⟩
  | v :: vs, s, h => by
    unfold wipeE at h
    by_cases e : j = v
    · subst e
      by_cases hj : j < (wipeE ρ vs).length
      · rw [List.getElem?_set_self hj] at h; cases h
      · rw [List.getElem?_eq_none (by simp; omega)] at h; cases h
    · rw [List.getElem?_set_ne (Ne.symm e)] at h
      obtain ⟨h1, h2⟩ := wipeE_get h
      exact ⟨h1, by simp [e, h2]⟩
theorem backE_len (ρ0 ρ : Env) : ∀ own : List Nat, (backE ρ0 ρ own).length = ρ.length
  | [] => rfl
  | v :: vs => by simp [backE, backE_len ρ0 ρ vs]
theorem backE_get {ρ0 : Env} {j : Nat} {s : Sl} (hl : ρ0.length = ρ.length) : ∀ {own : List Nat}, (backE ρ0 ρ own)[j]? = some (some s) → (j ∈ own ∧ ρ0[j]? = some (some s)) ∨ (j ∉ own ∧ ρ[j]? = some (some s))
  | [], h => Or.inr ⟨by simp, h⟩
  | v :: vs, h => by
    unfold backE at h
    by_cases e : j = v
    · subst e
      by_cases hj : j < (backE ρ0 ρ vs).length
      · rw [List.getElem?_set_self hj] at h
        have h' := Option.some.inj h
        rw [List.getD_eq_getElem?_getD] at h'
        rw [backE_len] at hj
        rw [List.getElem?_eq_getElem (by omega), Option.getD_some] at h'
        exact Or.inl ⟨by simp, by rw [List.getElem?_eq_getElem (by omega), h']⟩
      · rw [List.getElem?_eq_none (by simp; omega)] at h; cases h
    · rw [List.getElem?_set_ne (Ne.symm e)] at h
      rcases backE_get hl h with ⟨h1, h2⟩ | ⟨h1, h2⟩
      · exact Or.inl ⟨List.mem_cons_of_mem _ h1, h2⟩
      · exact Or.inr ⟨by simp [e, h1], h2⟩
theorem plainAt_get {j : Nat} : ∀ {own : List Nat} {s : Sl}, plainAt ρ own = true → j ∈ own → ρ[j]? = some (some s) → ∃ d, s = .p d
  | [], _, _, h, _ => by cases h
  | v :: vs, s, hp, h, e => by
    unfold plainAt at hp
    rw [Bool.and_eq_true] at hp
    rcases List.mem_cons.mp h with rfl | h
    · rw [e] at hp
      cases s with
      | p d => exact ⟨d, rfl⟩
      | ml t l => exact absurd hp.1 (by simp)
      | md t l => exact absurd hp.1 (by simp)
      | mr t l => exact absurd hp.1 (by simp)
      | ob t c ns l => exact absurd hp.1 (by simp)
      | ex c f => exact absurd hp.1 (by simp)
      | fd l => exact absurd hp.1 (by simp)
      | hl t => exact absurd hp.1 (by simp)
      | tp l => exact absurd hp.1 (by simp)
    · exact plainAt_get hp.2 h e
end
theorem wipe_out' {σ : L2.St} {i : Nat} {vs : List Nat} (h : i ∉ vs) : (wipe σ vs)[i]? = σ[i]? := L2.wipe_out h
section
variable {K : PySem.W.Frag} {vs0 : List V}
theorem Good.mutOut {B H : Hp} {σ : L2.St} {ρ : Env} {fs : Nat → List Addr} {a : Addr} {o : HO} (g : Good K vs0 B H σ ρ fs) (hB : B a = none) (n : ∀ i, a ∉ fs i) : Good K vs0 B (upd H a o) σ ρ fs where
  ext := fun b u e => by
    rw [upd_ne (ne_of_none e hB)]
    exact g.ext b u e
  len := g.len
  at_ := fun i s h => by
    obtain ⟨v, h1, h2, h3⟩ := g.at_ i s h
    exact ⟨v, h1, h2.keep (Same.refl B) fun b hb => upd_ne fun q => n i (by rw [← q]; exact hb), h3⟩
  emp := g.emp
  dis := g.dis
  out := g.out
theorem Fr.mut {B H : Hp} {F : Addr → Prop} {a : Addr} {o : HO} (hF : F a) : Fr B H F B (upd H a o) F := by
  refine ⟨Same.refl B, fun b _ nf => upd_ne fun q => nf (by rw [q]; exact hF), fun b h => ?_, fun _ f => Or.inl f, fun _ _ _ h => h⟩
  by_cases e : b = a
  · rw [e, upd_same]; simp
  · rw [upd_ne e]; exact h
theorem backE_out {ρ0 ρ : Env} {j : Nat} : ∀ {own : List Nat}, j ∉ own → (backE ρ0 ρ own)[j]? = ρ[j]?
  | [], _ => rfl
  | v :: vs, h => by
    unfold backE
    rw [List.getElem?_set_ne (fun e => h (by simp [e])), backE_out fun q => h (List.mem_cons_of_mem _ q)]
theorem wipeE_in {ρ : Env} {j : Nat} {s : Sl} {own : List Nat} (h : j ∈ own) : (wipeE ρ own)[j]? ≠ some (some s) := fun e => (wipeE_get e).2 h
theorem Good.back {B B2 H H2 : Hp} {σ : L2.St} {ρ ρ2 : Env} {fs fs2 : Nat → List Addr} {own : List Nat} (g : Good K vs0 B H σ ρ fs) (bb : Same B B2) (hp : plainAt ρ own = true) (g2 : Good K vs0 B2 H2 (wipe σ own) (wipeE ρ2 own) fs2) :
    Good K vs0 B2 H2 σ (backE ρ (wipeE ρ2 own) own) fs2 where
  ext := g2.ext
  len := by rw [backE_len, ← g2.len, L2.wipe_length]
  at_ := fun j s h => by
    have hl : ρ.length = (wipeE ρ2 own).length := by rw [← g.len, ← g2.len, L2.wipe_length]
    rcases backE_get hl h with ⟨h1, h2⟩ | ⟨h1, h2⟩
    · obtain ⟨d, rfl⟩ := plainAt_get hp h1 h2
      obtain ⟨v, q1, q2, _⟩ := g.at_ j _ h2
      have e0 : fs2 j = [] := g2.emp j fun s q => wipeE_in h1 q
      rw [e0]
      exact ⟨v, q1, ⟨Dp.mono bb q2.1, rfl⟩, fun k h => nomatch h⟩
    · obtain ⟨v, q1, q2, q3⟩ := g2.at_ j s h2
      rw [wipe_out' h1] at q1
      exact ⟨v, q1, q2, q3⟩
  emp := fun j h => by
    by_cases hj : j ∈ own
    · exact g2.emp j fun s q => wipeE_in hj q
    · refine g2.emp j fun s q => h s ?_
      rw [backE_out hj]
      exact q
  dis := g2.dis
  out := g2.out
theorem wipe_eq {σ σ' : L2.St} {own is : List Nat} (hs : ∀ i ∈ is, i ∈ own) (hl : σ'.length = σ.length) (h : ∀ j, j ∉ is → σ'[j]? = (wipe σ own)[j]?) : wipe σ' own = wipe σ own := by
  apply List.ext_getElem?
  intro j
  by_cases hj : j ∈ own
  · have key : ∀ τ : L2.St, τ.length = σ.length → (wipe τ own)[j]? = if j < σ.length then some none else none := fun τ ht => by
      by_cases hl : j < σ.length
      · rw [if_pos hl]
        have : j < (wipe τ own).length := by rw [L2.wipe_length]; omega
        cases q : (wipe τ own)[j]? with
        | none => rw [List.getElem?_eq_getElem this] at q; cases q
        | some o =>
          cases o with
          | none => rfl
          | some x => exact ((L2.wipe_some q).2 hj).elim
      · rw [if_neg hl, List.getElem?_eq_none (by rw [L2.wipe_length]; omega)]
    rw [key σ' hl, key σ rfl]
  · rw [wipe_out' hj, h j fun q => hj (hs j q)]
theorem rd_lcW {src : M (List D)} {own is : List Nat} {t : D → Env → Option Env} {tt : M Bool} {te : M Rs} (his : ∀ i ∈ is, i ∈ own) {σ : L2.St} {H : Hp} {Q : VK} {wi : TI}
    (q : ∃ B ρ fs, Good K vs0 B H σ ρ fs ∧ (∃ r ρ', eLc src own t tt te ρ = some (.ok r ρ') ∧ ∀ v B' H' fs' T, Fr B H (InF fs) B' H' (UnF (InF fs') T) → Good K vs0 B' H' σ ρ' fs' → RsOk K B' H' σ fs' v r T → Q v H') ∧
      ∀ R l ρ1, src ρ = some (.ok l ρ1) → (∀ J B' H' fs', Fr B H (InF fs) B' H' (InF fs') → Good K vs0 B' H' σ ρ1 fs' → JOk K B' J l → R J H') → wi σ H R) :
    tLc wi (rdG K vs0 is t) (rdT K vs0 tt) (rdE K vs0 te) own σ H Q := by
  obtain ⟨B, ρ, fs, gd, ⟨r, ρ', e1, k⟩, hwi⟩ := q
  obtain ⟨l, ρ1, e2, e3⟩ := M.bind_ok e1
  split at e3
  · rename_i hpl
    split at e3
    · rename_i accE ρE e4
      cases e3
      refine hwi _ l ρ1 e2 fun J B1 H1 fs1 fr1 g1 jok => fun Dl hD => ?_
      refine ⟨fun i m H2 => i ≤ l.length ∧ m = l.length - i ∧ ∃ B2 ρ2 fs2 acc xs, Good K vs0 B2 H2 (wipe σ own) (wipeE ρ2 own) fs2 ∧ Fr B1 H1 (InF fs1) B2 H2 (UnF (InF fs2) [Dl]) ∧ H2 Dl = some (.lst xs) ∧ DpAll K B2 xs acc ∧ B2 Dl = none ∧
        (∀ j, Dl ∉ fs2 j) ∧ compD own t tt te (l.drop i) acc ρ2 = some (.ok accE ρE), ⟨l.length, Nat.zero_le _, rfl, ?_⟩, ?_⟩
      · have frn := Fr.newL (B := B1) (o := HO.lst []) hD
        have g2 := g1.grow frn (fun _ _ f => f) (g1.ext.trans frn.sameH)
        obtain ⟨fs2, g3, s3⟩ := g2.wipes own
        refine ⟨B1, ρ1, fs2, [], [], g3, frn.weak (fun _ f => f.elim) (fun a f => ?_), upd_same, .nil, ?_, fun j hj => ?_, by simpa using e4⟩
        · rcases f with f | f
          · exact Or.inr (Or.inl (s3 a f))
          · exact Or.inl f
        · cases q : B1 Dl with
          | none => rfl
          | some u => rw [g1.ext Dl u q] at hD; cases hD
        · obtain ⟨j', hj'⟩ := s3 Dl ⟨j, hj⟩
          exact g1.lives hj' hD
      · rintro i m H2 ⟨hi, rfl, B2, ρ2, fs2, acc, xs, g2, fr2, h2, d2, b2, n2, e5⟩
        obtain ⟨j1, j2⟩ := jok B2 H2 fr2.bb g2.ext i
        by_cases hil : i < l.length
        · right
          have hd : l[i]? = some l[i] := List.getElem?_eq_getElem hil
          obtain ⟨jg, jy⟩ := j1 _ hd
          rw [List.drop_eq_getElem_cons hil] at e5
          unfold compD at e5
          split at e5
          · cases e5
          · rename_i ρ3 e6
            refine ⟨jg, fun H' => (i + 1 ≤ l.length ∧ ∃ B2 ρ2 fs2 acc xs, Good K vs0 B2 H' (wipe σ own) (wipeE ρ2 own) fs2 ∧ Fr B1 H1 (InF fs1) B2 H' (UnF (InF fs2) [Dl]) ∧ H' Dl = some (.lst xs) ∧ DpAll K B2 xs acc ∧ B2 Dl = none ∧
              (∀ j, Dl ∉ fs2 j) ∧ compD own t tt te (l.drop (i + 1)) acc ρ2 = some (.ok accE ρE)), fun H' n => ⟨l.length - (i + 1), by omega, n.1, rfl, n.2⟩, fun x H3 hy => ?_⟩
            obtain ⟨B3, fr3, s3, d3⟩ := jy x H3 hy
            have g3 := g2.grow fr3 (fun _ _ f => f) s3
            have live2 : H2 Dl ≠ none := by rw [h2]; simp
            have h3 : H3 Dl = some (.lst xs) := by rw [fr3.keep Dl live2 (fun f => f)]; exact h2
            have b3 : B3 Dl = none := fr3.bnew Dl live2 (fun f => f) b2
            have fr03 : Fr B1 H1 (InF fs1) B3 H3 (UnF (InF fs2) [Dl]) := fr2.trans (fr3.weak (fun _ f => f.elim) fun a h => Or.inr (Or.inl h))
            refine ⟨B3, wipeE ρ2 own, fs2, _, ρ3, g3, d3, e6, fun σ4 fs4 g4 s4 a4 l4 => ?_⟩
            have hw : wipe σ4 own = wipe σ own := wipe_eq his (l4.trans (L2.wipe_length σ own)) a4
            refine ⟨hw, ?_⟩
            have n4 : ∀ j, Dl ∉ fs4 j := fun j hj => by
              obtain ⟨j', hj'⟩ := s4 Dl ⟨j, hj⟩
              exact n2 j' hj'
            split at e5
            · cases e5
            · rename_i ρ4 e7
              refine ⟨B3, ρ3, fs4, g4, false, ρ4, e7, fun B5 H5 fs5 fr5 g5 => ?_⟩
              dsimp only
              rw [if_neg (by decide)]
              have nF : ¬ InF fs4 Dl := fun ⟨j, hj⟩ => n4 j hj
              have live3 : H3 Dl ≠ none := by rw [h3]; simp
              obtain ⟨fs6, g6, s6⟩ := g5.wipes own
              rw [hw] at g6
              refine ⟨hil, B5, ρ4, fs6, acc, xs, g6, ?_, by rw [fr5.keep Dl live3 nF]; exact h3, DpAll.mono (fr3.bb.trans fr5.bb) d2, fr5.bnew Dl live3 nF b3, fun j hj => ?_, e5⟩
              · refine fr03.trans ((fr5.frame [Dl]).weak (fun a h => ?_) fun a h => ?_)
                · rcases h with h | h
                  · exact Or.inl (s4 a h)
                  · exact Or.inr h
                · rcases h with h | h
                  · exact Or.inl (Or.inl (s6 a h))
                  · exact Or.inl (Or.inr h)
              · rcases fr5.own Dl (s6 Dl ⟨j, hj⟩) with q | q
                · exact nF q
                · exact live3 q
            · rename_i ρ4 e7
              refine ⟨B3, ρ3, fs4, g4, true, ρ4, e7, fun B5 H5 fs5 fr5 g5 => ?_⟩
              dsimp only
              rw [if_pos rfl]
              have nF : ¬ InF fs4 Dl := fun ⟨j, hj⟩ => n4 j hj
              have live3 : H3 Dl ≠ none := by rw [h3]; simp
              have h5 : H5 Dl = some (.lst xs) := by rw [fr5.keep Dl live3 nF]; exact h3
              have b5 := fr5.bnew Dl live3 nF b3
              have live5 : H5 Dl ≠ none := by rw [h5]; simp
              have nF5 : ¬ InF fs5 Dl := fun f => by
                rcases fr5.own Dl f with q | q
                · exact nF q
                · exact live3 q
              split at e5
              · cases e5
              · rename_i y ρ5 e8
                split at e5
                · rename_i hsz
                  obtain ⟨r6, ρ6, e9, e10⟩ := M.bind_ok e8
                  refine ⟨B5, ρ4, fs5, g5, r6, ρ6, e9, fun v B6 H6 fs6 T6 fr6 g6 ok6 => ?_⟩
                  have h6 : H6 Dl = some (.lst xs) := by rw [fr6.keep Dl live5 nF5]; exact h5
                  have b6 := fr6.bnew Dl live5 nF5 b5
                  have live6 : H6 Dl ≠ none := by rw [h6]; simp
                  have nF6 : ¬ UnF (InF fs6) T6 Dl := fun f => by
                    rcases fr6.own Dl f with q | q
                    · exact nF5 q
                    · exact live5 q
                  obtain ⟨B7, fs7, fr7, g7, d7⟩ := freezeR_ok g6 ok6 e10
                  have b7 := fr7.bnew Dl live6 nF6 b6
                  have nF7 : ¬ InF fs7 Dl := fun f => by
                    rcases fr7.own Dl f with q | q
                    · exact nF6 q
                    · exact live6 q
                  have dx : DpAll K B7 xs acc := DpAll.mono (((fr3.bb.trans fr5.bb).trans fr6.bb).trans fr7.bb) d2
                  refine ⟨xs, h6, by rw [DpAll.length d2]; exact hsz, hil, ?_⟩
                  have g8 := g7.mutOut (o := HO.lst (xs ++ [v])) b7 fun i hi => nF7 ⟨i, hi⟩
                  obtain ⟨fs9, g9, s9⟩ := g8.wipes own
                  rw [hw] at g9
                  refine ⟨B7, ρ5, fs9, acc ++ [y], xs ++ [v], g9, ?_, upd_same, DpAll.append dx (DpAll.one d7), b7, fun j hj => nF7 (s9 Dl ⟨j, hj⟩), e5⟩
                  have frA : Fr B3 H3 (UnF (InF fs4) [Dl]) B7 H6 (UnF (InF fs7) [Dl]) := (fr5.frame [Dl]).trans ((fr6.frame [Dl]).trans ((fr7.frame [Dl]).weak (fun a h => h) fun a h => Or.inl h))
                  have frB : Fr B7 H6 (UnF (InF fs7) [Dl]) B7 (upd H6 Dl (HO.lst (xs ++ [v]))) (UnF (InF fs7) [Dl]) := Fr.mut (Or.inr (by simp))
                  refine fr03.trans ((frA.trans frB).weak (fun a h => ?_) fun a h => ?_)
                  · rcases h with h | h
                    · exact Or.inl (s4 a h)
                    · exact Or.inr h
                  · rcases h with h | h
                    · exact Or.inl (Or.inl (s9 a h))
                    · exact Or.inl (Or.inr h)
                · cases e5
        · left
          refine ⟨j2 (by omega), ?_⟩
          rw [List.drop_eq_nil_of_le (by omega)] at e5
          cases e5
          refine k (.ref Dl) B2 H2 fs2 [Dl] (fr1.trans fr2) (g1.back fr2.bb hpl g2) ⟨⟨Dl, xs, rfl, rfl, h2, d2⟩, rfl, fun a ha => ?_⟩
          simp at ha
          subst ha
          exact ⟨b2, n2⟩
    · cases e3
  · cases e3
theorem rd_lc {src : M (List D)} {own is : List Nat} {t : D → Env → Option Env} {tt : M Bool} {te : M Rs} (his : ∀ i ∈ is, i ∈ own) {σ : L2.St} {H : Hp} {Q : VK} (q : rdE K vs0 (eLc src own t tt te) σ H Q) :
    tLc (rdI K vs0 src) (rdG K vs0 is t) (rdT K vs0 tt) (rdE K vs0 te) own σ H Q := by
  obtain ⟨B, ρ, fs, gd, r, ρ', e1, k⟩ := q
  exact rd_lcW his ⟨B, ρ, fs, gd, ⟨r, ρ', e1, k⟩, fun R l ρ1 e kk => ⟨B, ρ, fs, gd, l, ρ1, e, kk⟩⟩
end
section
variable {X : Cx} {vs0 : List V}
theorem dts_nil {Y : Cx} {vs0 : List V} : PTs Y [] (rdT Y.K vs0 tYes') := ⟨fun pins s σ H Q I q => pts_nil.run pins s σ H Q I (by
  obtain ⟨B, ρ, fs, g, b, ρ', e, k⟩ := q
  cases e
  exact k B H fs (Fr.refl _ _ _) g)⟩
theorem dts_one {Y : Cx} {vs0 : List V} {c : Expr} {m : M Bool} (h : PT Y c (rdT Y.K vs0 m)) : PTs Y [c] (rdT Y.K vs0 m) := pts_one h
theorem de_lc {elt tg iter : Expr} {ifs : List Expr} {scope : Scope} {own : List (Str × Nat)} {is : List Nat} {pos : Pos} {src : M (List D)} {t : D → Env → Option Env} {tt : M Bool} {te : M Rs} (hc : X.calm = true) (hN : X.N.Nodup) (hi : PI X tg iter (rdI X.K vs0 src)) (ok : BlkOk X.N X.env.scope scope own)
    (his : ∀ i ∈ is, i ∈ own.map (·.2))
    (hg : ∀ (s : Shared) (H : Hp) (C : Addr) (cl : List (Str × Addr)) (fp : List Addr), PG (X.blk s H scope (compEnvC scope cl C X.env) fp) tg (rdG X.K vs0 is t)) (ht : ∀ (s : Shared) (H : Hp) (C : Addr) (cl : List (Str × Addr)) (fp : List Addr), PTs (X.blk s H scope (compEnvC scope cl C X.env) fp) ifs (rdT X.K vs0 tt))
    (he : ∀ (s : Shared) (H : Hp) (C : Addr) (cl : List (Str × Addr)) (fp : List Addr), PE (X.blk s H scope (compEnvC scope cl C X.env) fp) elt (rdE X.K vs0 te)) (hs : ∀ x, foldedSetIterable iter X.env x = pure x := by intro _; rfl) :
    PE X (.ListComp elt [⟨tg, iter, ifs, 0⟩] scope pos) (rdE X.K vs0 (eLc src (own.map (·.2)) t tt te)) := PE.imp (pe_lc hc hN hi ok hg ht he hs) fun σ H Q q => rd_lc his q
theorem ds_setLc {i : Nat} {y : Str} {py : Pos} {elt tg iter : Expr} {ifs : List Expr} {scope : Scope} {own : List (Str × Nat)} {is : List Nat} {pos spos : Pos} {src : M (List D)} {t : D → Env → Option Env} {tt : M Bool} {te : M Rs} (hc : X.calm = true) (hN : X.N.Nodup) (hy : X.N[i]? = some y) (hyl : X.env.scope.names.lookup y = some .local)
    (hsw : swapsWith (.ListComp elt [⟨tg, iter, ifs, 0⟩] scope pos) (some (.Name y py)) spos.line X.env = pure true) (hi : PI X tg iter (rdI X.K vs0 src)) (ok : BlkOk X.N X.env.scope scope own)
    (his : ∀ i ∈ is, i ∈ own.map (·.2))
    (hg : ∀ (s : Shared) (H : Hp) (C : Addr) (cl : List (Str × Addr)) (fp : List Addr), PG (X.blk s H scope (compEnvC scope cl C X.env) fp) tg (rdG X.K vs0 is t)) (ht : ∀ (s : Shared) (H : Hp) (C : Addr) (cl : List (Str × Addr)) (fp : List Addr), PTs (X.blk s H scope (compEnvC scope cl C X.env) fp) ifs (rdT X.K vs0 tt))
    (he : ∀ (s : Shared) (H : Hp) (C : Addr) (cl : List (Str × Addr)) (fp : List Addr), PE (X.blk s H scope (compEnvC scope cl C X.env) fp) elt (rdE X.K vs0 te)) (hs : ∀ x, foldedSetIterable iter X.env x = pure x := by intro _; rfl) :
    PS X (.Assign [.Name y py] (.ListComp elt [⟨tg, iter, ifs, 0⟩] scope pos) spos) (rdS X.K vs0 (gSet i (eLc src (own.map (·.2)) t tt te))) := PS.imp (ps_setLc hc hN hy hyl hsw hi ok hg ht he hs) fun D σ H q => by
  obtain ⟨B, ρ, fs, gd, fl, ρ', e1, k⟩ := q
  exact rd_lc (Q := fun x H1 => gName i x σ H1 D.nx) his (rd_set ⟨B, ρ, fs, gd, fl, ρ', e1, k⟩)
end
end Pd
set_option Elab.async false
set_option linter.all false
set_option maxRecDepth 100000
set_option maxHeartbeats 1000000
namespace Pd
open PySem PySem.Spec PyProof.Rows L2
def spD (K : PySem.W.Frag) (n : Nat) (F : List Sl → Option (Sl × List Sl)) : Sp := fun vs H Q _ => vs.length = n ∧ ∃ B ss fs, Good K [] B H (vs.map some) (ss.map some) fs ∧ (∀ s ∈ ss, s.tag = none) ∧ ∃ r ss', F ss = some (r, ss') ∧
  ∀ v B' H' fs' T, Fr B H (InF fs) B' H' (UnF (InF fs') T) → Good K [] B' H' (vs.map some) (ss'.map some) fs' → RsOk K B' H' (vs.map some) fs' v (.own r) T → Q v H'
def markAll : Nat → List Sl → List Sl
  | _, [] => []
  | k, s :: r => s.mark k :: markAll (k + 1) r
def startE (m : Nat) (ss : List Sl) : Env := (markAll 0 ss).map some ++ List.replicate m none
def Sl.isP : Sl → Bool
  | .p _ => true
  | .ex _ _ => true
  | .fd _ => true
  | .hl _ => true
  | _ => false
def endE : Nat → List Sl → Env → Option (List Sl)
  | _, [], _ => some []
  | k, s :: r, ρ => if s.isP = true then (endE (k + 1) r ρ).map (s :: ·) else match ρ[k]? with
    | some (some s') => if s'.tag = some k then (endE (k + 1) r ρ).map (s'.bare :: ·) else none
    | _ => none
def mkF (m : Nat) (g : M Fl) : List Sl → Option (Sl × List Sl) := fun ss => match g (startE m ss) with
  | some (.ok (.rt s) ρ') => (endE 0 ss ρ').map fun ss' => (s, ss')
  | some (.ok .nx ρ') => (endE 0 ss ρ').map fun ss' => (.p .none, ss')
  | _ => none
theorem markAll_len : ∀ (ss : List Sl) (k : Nat), (markAll k ss).length = ss.length
  | [], _ => rfl
  | s :: r, k => by simp [markAll, markAll_len r (k + 1)]
theorem markAll_get : ∀ (ss : List Sl) (k i : Nat), (markAll k ss)[i]? = (ss[i]?).map (Sl.mark (k + i))
  | [], _, _ => by simp [markAll]
  | s :: r, k, 0 => by simp [markAll]
  | s :: r, k, i + 1 => by
    simp only [markAll, List.getElem?_cons_succ]
    rw [markAll_get r (k + 1) i, show k + 1 + i = k + (i + 1) by omega]
theorem Sl.mark_tag {s : Sl} {k j : Nat} (h : (s.mark k).tag = some j) : j = k := by
  cases s with
  | p d => cases h
  | ml t l => cases h; rfl
  | md t l => cases h; rfl
  | mr t l => cases h; rfl
  | ob t c ns l => cases h; rfl
  | ex c f => cases h
  | fd l => cases h
  | hl t => cases h; rfl
  | tp l => cases h
theorem endE_ok {ρ : Env} : ∀ {ss : List Sl} {k : Nat} {ss' : List Sl}, endE k ss ρ = some ss' → ss'.length = ss.length ∧ ∀ i s, ss[i]? = some s → (s.isP = true ∧ ss'[i]? = some s) ∨ (s.isP = false ∧ ∃ s', ρ[k + i]? = some (some s') ∧ s'.tag = some (k + i) ∧ ss'[i]? = some s'.bare)
  | [], k, ss', e => by cases e; exact ⟨rfl, fun i s h => by simp at h⟩
  | s :: r, k, ss', e => by
    unfold endE at e
    split at e
    · rename_i hp
      cases q : endE (k + 1) r ρ with
      | none => rw [q] at e; cases e
      | some t =>
        rw [q] at e
        cases e
        obtain ⟨h1, h2⟩ := endE_ok q
        refine ⟨by simp [h1], fun i u hu => ?_⟩
        cases i with
        | zero => simp at hu; subst hu; exact Or.inl ⟨hp, rfl⟩
        | succ i =>
          have := h2 i u (by simpa using hu)
          rw [show k + 1 + i = k + (i + 1) by omega] at this
          simpa using this
    · rename_i hp
      split at e
      · rename_i s' e1
        split at e
        · rename_i ht
          cases q : endE (k + 1) r ρ with
          | none => rw [q] at e; cases e
          | some t =>
            rw [q] at e
            cases e
            obtain ⟨h1, h2⟩ := endE_ok q
            refine ⟨by simp [h1], fun i u hu => ?_⟩
            cases i with
            | zero => simp at hu; subst hu; exact Or.inr ⟨by simpa using hp, s', e1, ht, rfl⟩
            | succ i =>
              have := h2 i u (by simpa using hu)
              rw [show k + 1 + i = k + (i + 1) by omega] at this
              simpa using this
        · cases e
      · cases e
theorem Own.retag {K : PySem.W.Frag} {B H : Hp} {v : V} {s : Sl} {T : List Addr} {k : Nat} (h : Own K B H v s T) : Own K B H v (s.mark k) T := by cases s <;> exact h
section
variable {K : PySem.W.Frag}
theorem good_start {N : List Str} {B H : Hp} {vs : List V} {ss : List Sl} {fs : Nat → List Addr} {m : Nat} (g : Good K [] B H (vs.map some) (ss.map some) fs) (hm : N.length - vs.length = m) : Good K vs B H (L2.start N vs) (startE m ss) fs := by
  have hl : vs.length = ss.length := by simpa using g.len
  refine ⟨g.ext, ?_, fun i s h => ?_, fun i h => ?_, g.dis, g.out⟩
  · simp [L2.start, startE, markAll_len, hl]
    omega
  · by_cases hi : i < ss.length
    · unfold startE at h
      rw [List.getElem?_append_left (by simp [markAll_len, hi]), List.getElem?_map, markAll_get, List.getElem?_eq_getElem hi] at h
      simp only [Option.map_some, Nat.zero_add, Option.some.injEq] at h
      subst h
      obtain ⟨v, h1, h2, _⟩ := g.at_ i ss[i] (by rw [List.getElem?_map, List.getElem?_eq_getElem hi]; rfl)
      have hv : vs[i]? = some v := by
        rw [List.getElem?_map] at h1
        cases q : vs[i]? with
        | none => rw [q] at h1; cases h1
        | some u => rw [q] at h1; cases h1; rfl
      refine ⟨v, ?_, h2.retag, fun k hk => ?_⟩
      · unfold L2.start
        rw [List.getElem?_append_left (by simp [hl, hi]), List.getElem?_map, hv]
        rfl
      · rw [Sl.mark_tag hk]
        exact hv
    · unfold startE at h
      rw [List.getElem?_append_right (by simp [markAll_len]; omega), List.getElem?_replicate] at h
      split at h <;> cases h
  · by_cases hi : i < ss.length
    · refine (h (ss[i].mark i) ?_).elim
      unfold startE
      rw [List.getElem?_append_left (by simp [markAll_len, hi]), List.getElem?_map, markAll_get, List.getElem?_eq_getElem hi]
      simp
    · refine g.emp i fun s q => ?_
      rw [List.getElem?_eq_none (by simp; omega)] at q
      cases q
theorem good_end {B B' H' : Hp} {H : Hp} {vs : List V} {ss ss' : List Sl} {σ' : L2.St} {ρ' : Env} {fs fs' : Nat → List Addr} (g : Good K [] B H (vs.map some) (ss.map some) fs) (bb : Same B B') (g' : Good K vs B' H' σ' ρ' fs') (e : endE 0 ss ρ' = some ss') :
    Good K [] B' H' (vs.map some) (ss'.map some) (fun i => if ((ss[i]?).map Sl.isP) = some false then fs' i else []) := by
  obtain ⟨hl, he⟩ := endE_ok e
  have hl0 : vs.length = ss.length := by simpa using g.len
  refine ⟨g'.ext, by simp [hl, hl0], fun i s h => ?_, fun i h => ?_, fun i j a h1 h2 => ?_, fun i a h => ?_⟩
  · rw [List.getElem?_map] at h
    cases q : ss'[i]? with
    | none => rw [q] at h; cases h
    | some s' =>
      rw [q] at h
      cases h
      have hi : i < ss.length := by
        rw [← hl]
        exact (List.getElem?_eq_some_iff.mp q).1
      have hs : ss[i]? = some ss[i] := List.getElem?_eq_getElem hi
      rcases he i _ hs with ⟨h1, h2⟩ | ⟨h1, s'', h2, h3, h4⟩
      · rw [q] at h2
        cases h2
        obtain ⟨v, q1, q2, q3⟩ := g.at_ i ss[i] (by rw [List.getElem?_map, hs]; rfl)
        refine ⟨v, q1, ?_, q3⟩
        rw [if_neg (by rw [hs]; simp [h1])]
        cases hp : ss[i] with
        | p d => rw [hp] at q2; exact ⟨Dp.mono bb q2.1, rfl⟩
        | ml t l => rw [hp] at h1; cases h1
        | md t l => rw [hp] at h1; cases h1
        | mr t l => rw [hp] at h1; cases h1
        | ob t c ns l => rw [hp] at h1; cases h1
        | ex c f => rw [hp] at q2; exact ⟨ExIs.mono bb q2.1, rfl⟩
        | fd l =>
          rw [hp] at q2
          obtain ⟨⟨a, ks, o, h1, h2, h3⟩, _⟩ := q2
          exact ⟨⟨a, ks, o, h1, bb _ _ h2, KvD.mono bb h3⟩, rfl⟩
        | hl t => exact (rfl : ([] : List Addr) = [])
        | tp l => rw [hp] at h1; cases h1
      · rw [q] at h4
        cases h4
        rw [Nat.zero_add] at h2 h3
        obtain ⟨v, q1, q2, q3⟩ := g'.at_ i s'' h2
        have hv := q3 i h3
        refine ⟨v, by rw [List.getElem?_map, hv]; rfl, ?_, fun k hk => by rw [Sl.bare_tag] at hk; cases hk⟩
        rw [if_pos (by rw [hs]; simp [h1])]
        exact q2.bare
  · try dsimp only
    by_cases hi : i < ss.length
    · exfalso
      have : i < ss'.length := by omega
      exact h ss'[i] (by rw [List.getElem?_map, List.getElem?_eq_getElem this]; rfl)
    · rw [if_neg (by rw [List.getElem?_eq_none (by omega)]; simp)]
  · try dsimp only at h1 h2
    split at h1
    · split at h2
      · exact g'.dis i j a h1 h2
      · cases h2
    · cases h1
  · try dsimp only at h
    split at h
    · exact g'.out i a h
    · cases h
theorem rd_body {N : List Str} {m : Nat} {g : M Fl} {vs : List V} {H : Hp} {Q : VK} {E : XK} {n : Nat} (hn : N.length - n = m) (h : spD K n (mkF m g) vs H Q E) : rdS K vs g { nx := fun _ H' => Q .non H', rt := Q } (L2.start N vs) H := by
  obtain ⟨hv, B, ss, fs, gd, ht, r, ss', e, k⟩ := h
  have g0 := good_start (N := N) (m := m) gd (by rw [hv]; exact hn)
  unfold mkF at e
  have fin : ∀ {B' H' σ' ρ' fs' v T s}, Fr B H (InF fs) B' H' (UnF (InF fs') T) → Good K vs B' H' σ' ρ' fs' → RsOk K B' H' σ' fs' v (.own s) T → endE 0 ss ρ' = some ss' → s = r → Q v H' := fun {B' H' σ' ρ' fs' v T s} fr g' ok e1 e2 => by
    subst e2
    refine k v B' H' _ T (fr.weak (fun _ h => h) fun a h => Or.inl ?_) (good_end gd fr.bb g' e1) ⟨ok.1, ok.2.1, fun a ha => ⟨(ok.2.2 a ha).1, fun i hi => ?_⟩⟩
    · rcases h with ⟨i, hi⟩ | h
      · try dsimp only at hi
        split at hi
        · exact Or.inl ⟨i, hi⟩
        · cases hi
      · exact Or.inr h
    · try dsimp only at hi
      split at hi
      · exact (ok.2.2 a ha).2 i hi
      · cases hi
  split at e
  · rename_i s ρ' e1
    cases q : endE 0 ss ρ' with
    | none => rw [q] at e; cases e
    | some t =>
      rw [q] at e
      cases e
      exact ⟨B, _, fs, g0, _, ρ', e1, fun v σ' B' H' fs' T fr g' ok => fin fr g' ok q rfl⟩
  · rename_i ρ' e1
    cases q : endE 0 ss ρ' with
    | none => rw [q] at e; cases e
    | some t =>
      rw [q] at e
      cases e
      exact ⟨B, _, fs, g0, _, ρ', e1, fun σ' B' H' fs' fr g' => fin (v := .non) (T := []) (s := .p .none) (fr.weak (fun _ h => h) fun a h => by
        rcases h with h | h
        · exact Or.inl h
        · cases h) g' ⟨⟨.non, rfl⟩, rfl, fun a ha => nomatch ha⟩ q rfl⟩
  · cases e
end
section
variable {P : Program} {w : World} {K : PySem.W.Frag} {mg : Str → Option Value} {base : Heap}
theorem fn_ok {x qual : Str} {st : Stmt} {f : Addr} {fd : FuncData} {N ps : List Str} {k m : Nat} {g : M Fl} (F : Fun K x qual st f fd) (S : FnScope N ps (defScope st)) (hm : N.length - ps.length = m)
    (hbody : ∀ (cdv : Value) (A : Around) (outer : List PySem.Env) (s : Shared) (H : Hp) (E : XK) (vs0 : List V), Room k (A.deeper (envOfC qual (defScope st) s.heap.objs.size f cdv)) →
      PSs (cxOf CX0 P w K mg base N qual (defScope st) f cdv A outer s H E).nox (defBody st) (rdS K vs0 g)) : FnOk P w K mg base CX0 (k + 1) f fd ps (spD K ps.length (mkF m g)) :=
  F.ok S (fun vs H Q E h => h.1) fun cdv A outer s H vs Q E hr h => ⟨_, hbody cdv A outer s H E vs hr, rd_body hm h⟩
end
def argS : List Rs → Env → Option (List Sl)
  | [], _ => some []
  | .own s :: r, ρ => match argS r ρ with
    | some t => some (s :: t)
    | none => none
  | .bor i :: r, ρ => match ρ[i]? with
    | some (some s) => match argS r ρ with
      | some t => some (s.bare :: t)
      | none => none
    | _ => none
  | .lent _ _ _ :: _, _ => none
def bors : List Rs → List Nat
  | [] => []
  | .own _ :: r => bors r
  | .bor i :: r => i :: bors r
  | .lent _ _ _ :: r => bors r
def Sl.retag (t : Option Nat) : Sl → Sl
  | .p d => .p d
  | .ml _ l => .ml t l
  | .md _ l => .md t l
  | .mr _ l => .mr t l
  | .ob _ c ns l => .ob t c ns l
  | .ex c f => .ex c f
  | .fd l => .fd l
  | .hl _ => .hl t
  | .tp l => .tp l
def tagAt (ρ : Env) (i : Nat) : Option Nat := match ρ[i]? with
  | some (some s) => s.tag
  | _ => none
def wb : List Rs → List Sl → Env → Env
  | .bor i :: rs, s :: ss, ρ => wb rs ss (ρ.set i (some (s.retag (tagAt ρ i))))
  | .own _ :: rs, _ :: ss, ρ => wb rs ss ρ
  | .lent _ _ _ :: rs, _ :: ss, ρ => wb rs ss ρ
  | _, _, ρ => ρ
def opCall (n : Nat) (F : List Sl → Option (Sl × List Sl)) : List Rs → M Rs := fun rs ρ => if rs.length = n ∧ (bors rs).Nodup then match argS rs ρ with
    | some ss => match F ss with
      | some (r, ss') => some (.ok (.own r) (wb rs ss' ρ))
      | none => none
    | none => none
  else none
theorem wb_len : ∀ (rs : List Rs) (ss : List Sl) (ρ : Env), (wb rs ss ρ).length = ρ.length
  | [], _, _ => by simp [wb]
  | .own _ :: _, [], _ => by simp [wb]
  | .bor _ :: _, [], _ => by simp [wb]
  | .lent _ _ _ :: _, [], _ => by simp [wb]
  | .own _ :: rs, _ :: ss, ρ => by simp [wb, wb_len rs ss ρ]
  | .lent _ _ _ :: rs, _ :: ss, ρ => by simp [wb, wb_len rs ss ρ]
  | .bor i :: rs, s :: ss, ρ => by simp [wb, wb_len rs ss]
theorem wb_out {i : Nat} : ∀ (rs : List Rs) (ss : List Sl) (ρ : Env), i ∉ bors rs → (wb rs ss ρ)[i]? = ρ[i]?
  | [], _, _, _ => by simp [wb]
  | .own _ :: _, [], _, _ => by simp [wb]
  | .bor _ :: _, [], _, _ => by simp [wb]
  | .lent _ _ _ :: _, [], _, _ => by simp [wb]
  | .own _ :: rs, _ :: ss, ρ, h => by simp only [wb]; exact wb_out rs ss ρ h
  | .lent _ _ _ :: rs, _ :: ss, ρ, h => by simp only [wb]; exact wb_out rs ss ρ h
  | .bor j :: rs, s :: ss, ρ, h => by
    simp only [wb]
    simp only [bors, List.mem_cons, not_or] at h
    rw [wb_out rs ss _ h.2, List.getElem?_set_ne (Ne.symm h.1)]
theorem mem_bors {i : Nat} : ∀ {rs : List Rs}, i ∈ bors rs ↔ ∃ k : Nat, rs[k]? = some (.bor i)
  | [] => by simp [bors]
  | .own s :: r => by
    rw [bors, mem_bors]
    constructor
    · rintro ⟨k, h⟩; exact ⟨k + 1, by simpa using h⟩
    · rintro ⟨k, h⟩
      cases k with
      | zero => simp at h
      | succ k => exact ⟨k, by simpa using h⟩
  | .lent _ _ _ :: r => by
    rw [bors, mem_bors]
    constructor
    · rintro ⟨k, h⟩; exact ⟨k + 1, by simpa using h⟩
    · rintro ⟨k, h⟩
      cases k with
      | zero => simp at h
      | succ k => exact ⟨k, by simpa using h⟩
  | .bor j :: r => by
    rw [bors, List.mem_cons, mem_bors]
    constructor
    · rintro (rfl | ⟨k, h⟩)
      · exact ⟨0, rfl⟩
      · exact ⟨k + 1, by simpa using h⟩
    · rintro ⟨k, h⟩
      cases k with
      | zero => simp at h; exact Or.inl h.symm
      | succ k => exact Or.inr ⟨k, by simpa using h⟩
theorem bors_inj {i : Nat} : ∀ {rs : List Rs} {k k' : Nat}, (bors rs).Nodup → rs[k]? = some (.bor i) → rs[k']? = some (.bor i) → k = k'
  | [], k, _, _, h, _ => by simp at h
  | .own s :: r, k, k', hn, h, h' => by
    cases k with
    | zero => simp at h
    | succ k =>
      cases k' with
      | zero => simp at h'
      | succ k' => exact congrArg (· + 1) (bors_inj (rs := r) hn (by simpa using h) (by simpa using h'))
  | .lent _ _ _ :: r, k, k', hn, h, h' => by
    cases k with
    | zero => simp at h
    | succ k =>
      cases k' with
      | zero => simp at h'
      | succ k' => exact congrArg (· + 1) (bors_inj (rs := r) hn (by simpa using h) (by simpa using h'))
  | .bor j :: r, k, k', hn, h, h' => by
    rw [bors, List.nodup_cons] at hn
    cases k with
    | zero =>
      simp at h
      subst h
      cases k' with
      | zero => rfl
      | succ k' => exact (hn.1 (mem_bors.mpr ⟨k', by simpa using h'⟩)).elim
    | succ k =>
      cases k' with
      | zero =>
        simp at h'
        subst h'
        exact (hn.1 (mem_bors.mpr ⟨k, by simpa using h⟩)).elim
      | succ k' => exact congrArg (· + 1) (bors_inj (rs := r) hn.2 (by simpa using h) (by simpa using h'))
theorem wb_in {i : Nat} : ∀ {rs : List Rs} {ss : List Sl} {ρ : Env} {k : Nat} {s : Sl}, (bors rs).Nodup → rs[k]? = some (.bor i) → ss[k]? = some s → ss.length = rs.length → i < ρ.length → (wb rs ss ρ)[i]? = some (some (s.retag (tagAt ρ i)))
  | [], _, _, k, _, _, h, _, _, _ => by simp at h
  | _ :: _, [], _, _, _, _, _, h, _, _ => by simp at h
  | .own s0 :: r, s1 :: ss, ρ, k, s, hn, h, hs, hl, hi => by
    cases k with
    | zero => simp at h
    | succ k => simp only [wb]; exact wb_in (rs := r) hn (by simpa using h) (by simpa using hs) (by simpa using hl) hi
  | .lent _ _ _ :: r, s1 :: ss, ρ, k, s, hn, h, hs, hl, hi => by
    cases k with
    | zero => simp at h
    | succ k => simp only [wb]; exact wb_in (rs := r) hn (by simpa using h) (by simpa using hs) (by simpa using hl) hi
  | .bor j :: r, s1 :: ss, ρ, k, s, hn, h, hs, hl, hi => by
    rw [bors, List.nodup_cons] at hn
    cases k with
    | zero =>
      simp at h hs
      subst h hs
      simp only [wb]
      rw [wb_out r ss _ hn.1, List.getElem?_set_self hi]
    | succ k =>
      have hne : j ≠ i := fun e => hn.1 (mem_bors.mpr ⟨k, by rw [e]; simpa using h⟩)
      simp only [wb]
      rw [wb_in (rs := r) hn.2 (by simpa using h) (by simpa using hs) (by simpa using hl) (by simpa using hi)]
      unfold tagAt
      rw [List.getElem?_set_ne hne]
theorem argS_get {ρ : Env} : ∀ {rs : List Rs} {ss : List Sl}, argS rs ρ = some ss → ss.length = rs.length ∧ ∀ (k : Nat) s, ss[k]? = some s → rs[k]? = some (.own s) ∨ ∃ i s0, rs[k]? = some (.bor i) ∧ ρ[i]? = some (some s0) ∧ s = s0.bare
  | [], ss, e => by cases e; exact ⟨rfl, fun k s h => by simp at h⟩
  | .own s0 :: r, ss, e => by
    unfold argS at e
    split at e
    · rename_i t e1
      cases e
      obtain ⟨h1, h2⟩ := argS_get e1
      refine ⟨by simp [h1], fun k s h => ?_⟩
      cases k with
      | zero => simp at h; subst h; exact Or.inl rfl
      | succ k => simpa using h2 k s (by simpa using h)
    · cases e
  | .bor i :: r, ss, e => by
    unfold argS at e
    split at e
    · rename_i s0 e0
      split at e
      · rename_i t e1
        cases e
        obtain ⟨h1, h2⟩ := argS_get e1
        refine ⟨by simp [h1], fun k s h => ?_⟩
        cases k with
        | zero => simp at h; subst h; exact Or.inr ⟨i, s0, rfl, e0, rfl⟩
        | succ k => simpa using h2 k s (by simpa using h)
      · cases e
    · cases e
  | .lent _ _ _ :: r, ss, e => by cases e
theorem argS_bor {ρ : Env} : ∀ {rs : List Rs} {ss : List Sl} {k i : Nat}, argS rs ρ = some ss → rs[k]? = some (.bor i) → ∃ s0, ρ[i]? = some (some s0)
  | [], _, k, _, _, h => by simp at h
  | .own s0 :: r, ss, k, i, e, h => by
    unfold argS at e
    split at e
    · rename_i t e1
      cases k with
      | zero => simp at h
      | succ k => exact argS_bor e1 (by simpa using h)
    · cases e
  | .bor j :: r, ss, k, i, e, h => by
    unfold argS at e
    split at e
    · rename_i s0 e0
      split at e
      · rename_i t e1
        cases k with
        | zero => simp at h; subst h; exact ⟨s0, e0⟩
        | succ k => exact argS_bor e1 (by simpa using h)
      · cases e
    · cases e
  | .lent _ _ _ :: r, ss, k, i, e, h => by cases e
section
variable {K : PySem.W.Frag} {B H : Hp} {σ : L2.St} {fs : Nat → List Addr}
theorem RsAll.get : ∀ {vs : List V} {rs : List Rs} {Ts : List (List Addr)} {k : Nat} {r : Rs}, RsAll K B H σ fs vs rs Ts → rs[k]? = some r → ∃ v T, vs[k]? = some v ∧ Ts[k]? = some T ∧ RsOk K B H σ fs v r T
  | [], [], [], k, _, _, e => by simp at e
  | v :: vs, r :: rs, T :: Ts, k, r', g, e => by
    cases k with
    | zero => simp at e; subst e; exact ⟨v, T, rfl, rfl, g.1⟩
    | succ k => simpa using RsAll.get (k := k) g.2 (by simpa using e)
  | [], [], _ :: _, _, _, g, _ => g.elim
  | [], _ :: _, _, _, _, g, _ => g.elim
  | _ :: _, [], _, _, _, g, _ => g.elim
  | _ :: _, _ :: _, [], _, _, g, _ => g.elim
theorem RsAll.len : ∀ {vs : List V} {rs : List Rs} {Ts : List (List Addr)}, RsAll K B H σ fs vs rs Ts → vs.length = rs.length
  | [], [], [], _ => rfl
  | v :: vs, r :: rs, T :: Ts, g => by simp [RsAll.len g.2]
  | [], [], _ :: _, g => g.elim
  | [], _ :: _, _, g => g.elim
  | _ :: _, [], _, g => g.elim
  | _ :: _, _ :: _, [], g => g.elim
end
theorem flat_inj {a : Addr} : ∀ {Ts : List (List Addr)} {k k' : Nat} {T T' : List Addr}, Ts.flatten.Nodup → Ts[k]? = some T → Ts[k']? = some T' → a ∈ T → a ∈ T' → k = k'
  | [], k, _, _, _, _, h, _, _, _ => by simp at h
  | T0 :: Ts, k, k', T, T', hn, h, h', ha, ha' => by
    rw [List.flatten_cons, List.nodup_append] at hn
    cases k with
    | zero =>
      simp at h; subst h
      cases k' with
      | zero => rfl
      | succ k' => exact (hn.2.2 a ha a (List.mem_flatten.mpr ⟨T', List.mem_of_getElem? (by simpa using h'), ha'⟩) rfl).elim
    | succ k =>
      cases k' with
      | zero =>
        simp at h'; subst h'
        exact (hn.2.2 a ha' a (List.mem_flatten.mpr ⟨T, List.mem_of_getElem? (by simpa using h), ha⟩) rfl).elim
      | succ k' => exact congrArg (· + 1) (flat_inj hn.2.1 (by simpa using h) (by simpa using h') ha ha')
theorem Sl.retag_tag {s : Sl} {t : Option Nat} {k : Nat} (h : (s.retag t).tag = some k) : t = some k := by
  cases s with
  | p d => cases h
  | ml _ l => exact h
  | md _ l => exact h
  | mr _ l => exact h
  | ob _ c ns l => exact h
  | ex c f => cases h
  | fd l => cases h
  | hl t => exact h
  | tp l => cases h
theorem Own.retag' {K : PySem.W.Frag} {B H : Hp} {v : V} {s : Sl} {T : List Addr} {t : Option Nat} (h : Own K B H v s T) : Own K B H v (s.retag t) T := by cases s <;> exact h
open Classical in
theorem opCall_ok {K : PySem.W.Frag} {n : Nat} {F : List Sl → Option (Sl × List Sl)} : OpOk K (fun vs H Q => spD K n F vs H Q E0) (opCall n F) := by
  intro vs0 σ B H ρ fs vs rs Ts Q g ok nd r' ρ' e k
  unfold opCall at e
  split at e
  · rename_i hc
    split at e
    · rename_i ss e1
      split at e
      · rename_i r ss' e2
        cases e
        obtain ⟨hn, hnd⟩ := hc
        obtain ⟨hl, ha⟩ := argS_get e1
        have hvl := RsAll.len ok
        let fsA : Nat → List Addr := fun k => match rs[k]? with
          | some (.bor i) => fs i
          | some (.own _) => Ts.getD k []
          | _ => []
        have fA : ∀ k a, a ∈ fsA k → (∃ i, rs[k]? = some (Rs.bor i) ∧ a ∈ fs i) ∨ ∃ s T, rs[k]? = some (Rs.own s) ∧ Ts[k]? = some T ∧ a ∈ T := fun k a h => by
          show _ ∨ _
          have h' : a ∈ (match rs[k]? with
            | some (.bor i) => fs i
            | some (.own _) => Ts.getD k []
            | _ => []) := h
          cases q : rs[k]? with
          | none => rw [q] at h'; cases h'
          | some r =>
            rw [q] at h'
            cases r with
            | bor i => exact Or.inl ⟨i, rfl, h'⟩
            | lent i s kk => cases h'
            | own s =>
              obtain ⟨v, T, _, hT, _⟩ := RsAll.get ok q
              refine Or.inr ⟨s, T, rfl, hT, ?_⟩
              try dsimp only at h'
              rw [List.getD_eq_getElem?_getD, hT] at h'
              exact h'
        have offA : ∀ (k : Nat) (s : Sl) (T : List Addr) (a : Addr), rs[k]? = some (Rs.own s) → Ts[k]? = some T → a ∈ T → ∀ i, a ∉ fs i := fun k s T a q hT haT i hi => by
          obtain ⟨v, T', _, hT', okk⟩ := RsAll.get ok q
          rw [hT] at hT'; cases hT'
          exact okk.off a haT ⟨i, hi⟩
        have gA : Good K [] B H (vs.map some) (ss.map some) fsA := by
          refine ⟨g.ext, by simp [hvl, hl], fun j s h => ?_, fun j h => ?_, fun j j' a h1 h2 => ?_, fun j a h => ?_⟩
          · rw [List.getElem?_map] at h
            cases q : ss[j]? with
            | none => rw [q] at h; cases h
            | some s' =>
              rw [q] at h
              cases h
              rcases ha j s q with h1 | ⟨i, s0, h1, h2, rfl⟩
              · obtain ⟨v, T, q1, q2, q3⟩ := RsAll.get ok h1
                refine ⟨v, by rw [List.getElem?_map, q1]; rfl, ?_, fun k hk => by rw [q3.2.1] at hk; cases hk⟩
                have : fsA j = T := by
                  show (match rs[j]? with
                    | some (.bor i) => fs i
                    | some (.own _) => Ts.getD j []
                    | _ => []) = T
                  rw [h1]
                  try dsimp only
                  rw [List.getD_eq_getElem?_getD, q2]
                  rfl
                rw [this]
                exact q3.1
              · obtain ⟨v, T, q1, q2, q3⟩ := RsAll.get ok h1
                obtain ⟨v', w1, w2, _⟩ := g.at_ i s0 h2
                have hv : σ[i]? = some (some v) := q3.1
                rw [hv] at w1
                cases w1
                refine ⟨v, by rw [List.getElem?_map, q1]; rfl, ?_, fun k hk => by rw [Sl.bare_tag] at hk; cases hk⟩
                have : fsA j = fs i := by
                  show (match rs[j]? with
                    | some (.bor i) => fs i
                    | some (.own _) => Ts.getD j []
                    | _ => []) = fs i
                  rw [h1]
                rw [this]
                exact w2.bare
          · show (match rs[j]? with
                    | some (.bor i) => fs i
                    | some (.own _) => Ts.getD j []
                    | _ => []) = []
            have : ¬ j < ss.length := fun hj => h ss[j] (by rw [List.getElem?_map, List.getElem?_eq_getElem hj]; rfl)
            rw [List.getElem?_eq_none (by omega)]
          · rcases fA j a h1 with ⟨i, q1, q2⟩ | ⟨s, T, q1, q2, q3⟩
            · rcases fA j' a h2 with ⟨i', w1, w2⟩ | ⟨s', T', w1, w2, w3⟩
              · have := g.dis i i' a q2 w2
                subst this
                exact bors_inj hnd q1 w1
              · exact (offA j' s' T' a w1 w2 w3 i q2).elim
            · rcases fA j' a h2 with ⟨i', w1, w2⟩ | ⟨s', T', w1, w2, w3⟩
              · exact (offA j s T a q1 q2 q3 i' w2).elim
              · exact flat_inj nd q2 w2 q3 w3
          · rcases fA j a h with ⟨i, q1, q2⟩ | ⟨s, T, q1, q2, q3⟩
            · exact g.out i a q2
            · obtain ⟨v, T', _, hT', okk⟩ := RsAll.get ok q1
              rw [q2] at hT'; cases hT'
              exact (okk.2.2 a q3).1
        have tg : ∀ s ∈ ss, s.tag = none := fun s hs => by
          obtain ⟨j, hj⟩ := List.getElem?_of_mem hs
          rcases ha j s hj with h1 | ⟨i, s0, h1, h2, rfl⟩
          · obtain ⟨v, T, q1, q2, q3⟩ := RsAll.get ok h1
            exact q3.2.1
          · exact Sl.bare_tag s0
        refine ⟨by rw [hvl]; exact hn, B, ss, fsA, gA, tg, r, ss', e2, fun v B' H' fsB T fr gB okB => ?_⟩
        have hl' : ss'.length = rs.length := by
          have := gB.len
          simp at this
          omega
        let fs2 : Nat → List Addr := fun i => if h : ∃ k : Nat, rs[k]? = some (.bor i) then fsB (Classical.choose h) else fs i
        have f2in : ∀ {i k : Nat}, rs[k]? = some (.bor i) → fs2 i = fsB k := fun {i k} h => by
          show (if h : ∃ k : Nat, rs[k]? = some (.bor i) then fsB (Classical.choose h) else fs i) = fsB k
          have hx : ∃ k : Nat, rs[k]? = some (.bor i) := ⟨k, h⟩
          rw [dif_pos hx, bors_inj hnd (Classical.choose_spec hx) h]
        have f2out : ∀ {i : Nat}, (¬ ∃ k : Nat, rs[k]? = some (.bor i)) → fs2 i = fs i := fun {i} h => by
          show (if h : ∃ k : Nat, rs[k]? = some (.bor i) then fsB (Classical.choose h) else fs i) = fs i
          rw [dif_neg h]
        have notA : ∀ {i a}, (¬ ∃ k : Nat, rs[k]? = some (.bor i)) → a ∈ fs i → ¬ InF fsA a := fun {i a} h hi ⟨j, hj⟩ => by
          rcases fA j a hj with ⟨i', q1, q2⟩ | ⟨s, T, q1, q2, q3⟩
          · exact h ⟨j, by rw [g.dis i i' a hi q2]; exact q1⟩
          · exact offA j s T a q1 q2 q3 i hi
        have notB : ∀ {i a}, (¬ ∃ k : Nat, rs[k]? = some (.bor i)) → a ∈ fs i → ¬ UnF (InF fsB) T a := fun {i a} h hi f => by
          rcases fr.own a f with q | q
          · exact notA h hi q
          · exact g.lives hi q
        have gd2 : Good K vs0 B' H' σ (wb rs ss' ρ) fs2 := by
          refine ⟨gB.ext, by rw [wb_len]; exact g.len, fun i s h => ?_, fun i h => ?_, fun i j a h1 h2 => ?_, fun i a h => ?_⟩
          · by_cases hx : ∃ k : Nat, rs[k]? = some (.bor i)
            · obtain ⟨j, hj⟩ := hx
              obtain ⟨s0, hs0⟩ := argS_bor e1 hj
              have hj' : j < rs.length := (List.getElem?_eq_some_iff.mp hj).1
              have hs' : ss'[j]? = some (ss'[j]'(by omega)) := List.getElem?_eq_getElem (by omega)
              rw [wb_in hnd hj hs' hl' (List.getElem?_eq_some_iff.mp hs0).1] at h
              cases h
              obtain ⟨v1, q1, q2, _⟩ := gB.at_ j _ (by rw [List.getElem?_map, hs']; rfl)
              obtain ⟨v2, T2, w1, w2, w3⟩ := RsAll.get ok hj
              rw [List.getElem?_map, w1] at q1
              have q1 : some (some v2) = some (some v1) := q1
              have q1 : v2 = v1 := by simpa using q1
              subst q1
              refine ⟨v2, w3.1, by rw [f2in hj]; exact q2.retag', fun q hq => ?_⟩
              have ht := Sl.retag_tag hq
              unfold tagAt at ht
              rw [hs0] at ht
              obtain ⟨v3, z1, _, z3⟩ := g.at_ i s0 hs0
              have hv : σ[i]? = some (some v2) := w3.1
              rw [hv] at z1
              cases z1
              exact z3 q ht
            · rw [wb_out _ _ _ (fun q => hx (mem_bors.mp q))] at h
              obtain ⟨v1, q1, q2, q3⟩ := g.at_ i s h
              refine ⟨v1, q1, ?_, q3⟩
              rw [f2out hx]
              exact q2.keep fr.bb fun a ha => fr.keep a (g.lives ha) (notA hx ha)
          · by_cases hx : ∃ k : Nat, rs[k]? = some (.bor i)
            · obtain ⟨j, hj⟩ := hx
              obtain ⟨s0, hs0⟩ := argS_bor e1 hj
              have hj' : j < rs.length := (List.getElem?_eq_some_iff.mp hj).1
              have hs' : ss'[j]? = some (ss'[j]'(by omega)) := List.getElem?_eq_getElem (by omega)
              exact (h _ (wb_in hnd hj hs' hl' (List.getElem?_eq_some_iff.mp hs0).1)).elim
            · rw [f2out hx]
              rw [wb_out _ _ _ (fun q => hx (mem_bors.mp q))] at h
              exact g.emp i h
          · by_cases hx : ∃ k : Nat, rs[k]? = some (.bor i)
            · obtain ⟨p, hp⟩ := hx
              rw [f2in hp] at h1
              by_cases hy : ∃ k : Nat, rs[k]? = some (.bor j)
              · obtain ⟨q, hq⟩ := hy
                rw [f2in hq] at h2
                have := gB.dis p q a h1 h2
                subst this
                rw [hp] at hq
                cases hq
                rfl
              · rw [f2out hy] at h2
                exact (notB hy h2 (Or.inl ⟨p, h1⟩)).elim
            · rw [f2out hx] at h1
              by_cases hy : ∃ k : Nat, rs[k]? = some (.bor j)
              · obtain ⟨q, hq⟩ := hy
                rw [f2in hq] at h2
                exact (notB hx h1 (Or.inl ⟨q, h2⟩)).elim
              · rw [f2out hy] at h2
                exact g.dis i j a h1 h2
          · by_cases hx : ∃ k : Nat, rs[k]? = some (.bor i)
            · obtain ⟨p, hp⟩ := hx
              rw [f2in hp] at h
              exact gB.out p a h
            · rw [f2out hx] at h
              exact fr.bnew a (g.lives h) (notA hx h) (g.out i a h)
        have w1 : ∀ a, InF fsA a → UnF (InF fs) Ts.flatten a := by
          rintro a ⟨j, hj⟩
          rcases fA j a hj with ⟨i, q1, q2⟩ | ⟨s, T', q1, q2, q3⟩
          · exact Or.inl ⟨i, q2⟩
          · exact Or.inr (List.mem_flatten.mpr ⟨T', List.mem_of_getElem? q2, q3⟩)
        have w2 : ∀ a, UnF (InF fs2) T a → UnF (InF fsB) T a ∨ UnF (InF fs) Ts.flatten a ∨ H a = none := by
          rintro a h
          rcases h with ⟨i, hi⟩ | h
          · by_cases hx : ∃ k : Nat, rs[k]? = some (.bor i)
            · obtain ⟨p, hp⟩ := hx
              rw [f2in hp] at hi
              exact Or.inl (Or.inl ⟨p, hi⟩)
            · rw [f2out hx] at hi
              exact Or.inr (Or.inl (Or.inl ⟨i, hi⟩))
          · exact Or.inl (Or.inr h)
        refine k v B' H' fs2 T (fr.weak w1 w2) gd2 ⟨okB.1, okB.2.1, ?_⟩
        · intro a haT
          refine ⟨(okB.2.2 a haT).1, ?_⟩
          intro i hi
          by_cases hx : ∃ k : Nat, rs[k]? = some (.bor i)
          · obtain ⟨p, hp⟩ := hx
            rw [f2in hp] at hi
            exact (okB.2.2 a haT).2 p hi
          · rw [f2out hx] at hi
            exact notB hx hi (Or.inr haT)
      · cases e
    · cases e
  · cases e
section
variable {X : Cx} {vs0 : List V} {k n : Nat} {f : Addr} {fd : FuncData} {ps : List Str} {F : List Sl → Option (Sl × List Sl)} {x : Str} {p pos : Pos} {e : Expr} {es : List Expr} {fa : M (List Rs)}
theorem de_call (Fn : FnOk X.prog X.w X.K X.mg X.base CX0 k f fd ps (spD X.K n F)) (hr : Room k X.A) (hg : Gl X x) (hm : X.mg x = some (.ref f)) (hk : PySem.W.keepIn X.K (.ref f) = true) (hb : Binds X.K fd ps [])
    (ha : PA X (e :: es) (rdA X.K vs0 fa)) (hdb : (x == ("__debug__" : Str)) = false := by decide) (he : starEach (e :: es) X.env = (false, eval e X.env) :: starEach es X.env := by rfl) (hpl : (backTo pos (starEach es X.env)).any (·.1) = false := by rfl) :
    PE X (.Call (.Name x p) (e :: es) [] pos) (rdE X.K vs0 (M.bind fa (opCall n F))) := PE.imp (pe_call (E := E0) Fn hr hg hm hk hb .nil pass0 ha hdb he hpl) fun σ H Q q => by
  have q2 := rd_op (opCall_ok (n := n) (F := F)) q
  obtain ⟨B, ρ, fs, gd, rs, ρ', e1, kk⟩ := q2
  refine ⟨B, ρ, fs, gd, rs, ρ', e1, fun vs B' H' fs' Ts a b c d => ?_⟩
  show spD X.K n F (vs ++ []) H' Q E0
  rw [List.append_nil]
  exact kk vs B' H' fs' Ts a b c d
end
end Pd
set_option Elab.async false
set_option linter.all false
set_option maxRecDepth 100000
set_option maxHeartbeats 1000000
namespace Pd
open PySem PySem.Spec PyProof.Rows L2
section
variable {X : Cx} {vs0 : List V} {e : Expr} {f : M Rs} {d : D}
theorem de_fold (h : PE X e (rdE X.K vs0 f)) (q : ∀ ρ, f ρ = eC d ρ) : PE X e (rdE X.K vs0 (eC d)) := by
  have : f = eC d := funext q
  rw [← this]
  exact h
instance (i j : Int) : Decidable (CPow i j) := by unfold CPow; infer_instance
def oPow := opG (pInt CPow fun i j => i ^ j.toNat)
theorem oPow_ok {K : PySem.W.Frag} : OpOk K (r2 (rI CPow fun i j => .int (i ^ j.toNat))) oPow := oInt_ok
end
section
variable {X : Cx} {vs0 : List V} {a b c : Expr} {fa fb fc : M Rs} {op op' : List Rs → M Rs} {o1 o2 : CmpOp} {r r' : R2} {pos : Pos}
theorem rd_chain {K : PySem.W.Frag} (h1 : OpOk K (r2 r) op) (h2 : OpOk K (r2 r') op') {σ : L2.St} {H : Hp} {Q : VK} (q : rdE K vs0 (eChain fa fb fc op op') σ H Q) : tChain r r' (rdE K vs0 fa) (rdE K vs0 fb) (rdE K vs0 fc) σ H Q := by
  obtain ⟨B, ρ, fs, g, r0, ρ', e, k⟩ := q
  obtain ⟨x, ρ1, e1, e2⟩ := M.bind_ok e
  obtain ⟨y, ρ2, e3, e4⟩ := M.bind_ok e2
  cases y with
  | bor i => cases e4
  | lent _ _ _ => cases e4
  | own sy =>
  cases sy with
  | ml _ _ => cases e4
  | md _ _ => cases e4
  | mr _ _ => cases e4
  | ob _ _ _ _ => cases e4
  | ex _ _ => cases e4
  | fd _ => cases e4
  | hl _ => cases e4
  | tp _ => cases e4
  | p d =>
  obtain ⟨t, ρ3, e5, e6⟩ := M.bind_ok e4
  obtain ⟨z, ρ4, e7, e8⟩ := M.bind_ok e5
  split at e8
  · rename_i t' ev
    cases e8
    refine ⟨B, ρ, fs, g, x, ρ1, e1, fun v B1 H1 fs1 T1 fr1 g1 ok1 => ⟨B1, ρ1, fs1, g1, .own (.p d), ρ2, e3, fun u B2 H2 fs2 T2 fr2 g2 ok2 => ?_⟩⟩
    have n1 := ok1.off
    have ok1' := ok1.keep (fs' := fs2) fr2 n1 fun a h => Or.inl h
    have hT2 : T2 = [] := ok2.1.2
    subst hT2
    have nd : [T1, ([] : List Addr)].flatten.Nodup := by simpa using ok1.nodup
    have frA : ∀ {B3 H3 fs3 T3}, Fr B2 H2 (UnF (InF fs2) [T1, ([] : List Addr)].flatten) B3 H3 (UnF (InF fs3) T3) → Fr B H (InF fs) B3 H3 (UnF (InF fs3) T3) := fun {B3 H3 fs3 T3} fr3 =>
      fr1.trans (((fr2.weak (fun _ h => h) fun a h => Or.inl h).frame T1).trans (fr3.weak (fun a h => by
        rcases h with h | h
        · exact Or.inl (Or.inl h)
        · exact Or.inr (by simpa using h)) fun a h => Or.inl h))
    obtain ⟨x', y', ex, q⟩ := h1 vs0 σ B2 H2 ρ2 fs2 [v, u] [x, .own (.p d)] [T1, []] (fun z H3 => ∃ k, z = .bl k ∧ (if k = true then rdE K vs0 fc σ H3 fun w' H4 => r' u w' H4 Q else Q (.bl false) H3)) g2 ⟨ok1', ok2, True.intro⟩ nd z ρ3 e7
      (fun w B3 H3 fs3 T3 fr3 g3 ok3 => by
        refine ⟨t, (view_ok g3 ok3 ev).bool, ?_⟩
        cases t with
        | false =>
          rw [if_neg (by decide)]
          rw [if_neg (by decide)] at e6
          cases e6
          exact k _ B3 H3 fs3 [] ((frA fr3).weak (fun _ h => h) fun a h => Or.inl (by
            rcases h with h | h
            · exact Or.inl h
            · cases h)) g3 ⟨⟨.bl false, rfl⟩, rfl, fun a ha => nomatch ha⟩
        | true =>
          rw [if_pos rfl]
          rw [if_pos rfl] at e6
          obtain ⟨zz, ρ5, e9, e10⟩ := M.bind_ok e6
          refine ⟨B3, ρ3, fs3, g3, zz, ρ5, e9, fun w' B4 H4 fs4 T4 fr4 g4 ok4 => ?_⟩
          have du : Dp K B4 u d := Dp.mono ((fr3.bb).trans fr4.bb) ok2.1.1
          obtain ⟨x2, y2, ex2, q2⟩ := h2 vs0 σ B4 H4 ρ5 fs4 [u, w'] [.own (.p d), zz] [[], T4] Q g4 ⟨⟨⟨du, rfl⟩, rfl, fun a ha => nomatch ha⟩, ok4, True.intro⟩ (by simpa using ok4.nodup) r0 ρ' e10 (fun v5 B5 H5 fs5 T5 fr5 g5 ok5 => by
            refine k v5 B5 H5 fs5 T5 (((frA fr3).weak (fun _ h => h) fun a h => Or.inl (Or.inl h)).trans (fr4.trans (fr5.weak (fun a h => ?_) fun a h => Or.inl h))) g5 ok5
            rcases h with h | h
            · exact Or.inl h
            · exact Or.inr (by simpa using h))
          cases ex2
          exact q2)
    cases ex
    exact q
  · cases e8
theorem de_chain (ho : OpR X (compareOp o1) r) (ho' : OpR X (compareOp o2) r') (h1 : OpOk X.K (r2 r) op) (h2 : OpOk X.K (r2 r') op') (ha : PE X a (rdE X.K vs0 fa)) (hb : PE X b (rdE X.K vs0 fb)) (hc : PE X c (rdE X.K vs0 fc))
    (hm : lastMarks [o1, o2] [b, c] = false := by with_unfolding_all rfl) : PE X (.Compare a [o1, o2] [b, c] pos) (rdE X.K vs0 (eChain fa fb fc op op')) := PE.imp (pe_chain ho ho' ha hb hc hm) fun σ H Q q => rd_chain h1 h2 q
theorem mtest_of {K : PySem.W.Frag} {f : M Rs} {t : TE} (i : ∀ σ H Q, rdE K vs0 f σ H Q → t σ H Q) {σ : L2.St} {H : Hp} {Q : Bool → Hp → Prop} (q : rdT K vs0 (mTest f) σ H Q) : tTest t σ H Q := by
  obtain ⟨B, ρ, fs, g, b, ρ', e, k⟩ := q
  obtain ⟨r, ρ2, e3, e4⟩ := M.bind_ok e
  split at e4
  · rename_i c' e5
    cases e4
    exact i σ H _ ⟨B, ρ, fs, g, r, ρ', e3, fun v B1 H1 fs1 T fr g1 ok => ⟨b, (view_ok g1 ok e5).bool, k B1 H1 fs1 (fr_drop fr) g1⟩⟩
  · cases e4
theorem dt_cmp (ho : OpR X (compareOp o1) r) (hp : OpOk X.K (r2 r) op) (ha : PE X a (rdE X.K vs0 fa)) (hb : PE X b (rdE X.K vs0 fb)) (hm : behindInMarks o1 b = false) : PT X (.Compare a [o1] [b] pos) (rdT X.K vs0 (mTest (eBin fa fb op))) :=
  PT.imp (pt_cmpR ho ha hb hm) fun _ _ _ q => mtest_of (fun _ _ _ q => rd_bin hp q) q
end
structure Callee (P : Program) (w : World) (K : PySem.W.Frag) (mg : Str → Option Value) (base : Heap) (k : Nat) (x : Str) (n : Nat) (F : List Sl → Option (Sl × List Sl)) : Prop where
  ex : ∃ f fd ps, FnOk P w K mg base CX0 k f fd ps (spD K n F) ∧ mg x = some (.ref f) ∧ PySem.W.keepIn K (.ref f) = true ∧ Binds K fd ps []
section
variable {X : Cx} {vs0 : List V} {k n : Nat} {F : List Sl → Option (Sl × List Sl)} {x : Str} {p pos : Pos} {e : Expr} {es : List Expr} {fa : M (List Rs)}
theorem de_use (C : Callee X.prog X.w X.K X.mg X.base k x n F) (hr : Room k X.A) (hg : Gl X x) (ha : PA X (e :: es) (rdA X.K vs0 fa)) (hdb : (x == ("__debug__" : Str)) = false := by decide)
    (he : starEach (e :: es) X.env = (false, eval e X.env) :: starEach es X.env := by rfl) (hpl : (backTo pos (starEach es X.env)).any (·.1) = false := by rfl) :
    PE X (.Call (.Name x p) (e :: es) [] pos) (rdE X.K vs0 (M.bind fa (opCall n F))) := by
  obtain ⟨f, fd, ps, Fn, hm, hk, hb⟩ := C.ex
  exact de_call Fn hr hg hm hk hb ha hdb he hpl
end
end Pd
set_option Elab.async false
set_option linter.all false
set_option maxRecDepth 100000
set_option maxHeartbeats 1000000
namespace Pd
open PySem PySem.Spec PyProof.Rows L2
section
variable {K : PySem.W.Frag} {vs0 : List V} {B H : Hp} {σ : L2.St} {ρ : Env} {fs : Nat → List Addr}
theorem Good.upd {j : Nat} {a : Addr} {s s' : Sl} {v : V} {o : HO} (g : Good K vs0 B H σ ρ fs) (e : ρ[j]? = some (some s)) (hf : fs j = [a]) (hv : σ[j]? = some (some v)) (own : Own K B (upd H a o) v s' [a]) (ht : s'.tag = s.tag) :
    Good K vs0 B (upd H a o) σ (ρ.set j (some s')) fs := by
  have hj : j < ρ.length := (List.getElem?_eq_some_iff.mp e).1
  have ha : a ∈ fs j := by rw [hf]; simp
  refine ⟨fun b u q => ?_, by simp [g.len], fun i t h => ?_, fun i h => ?_, g.dis, g.out⟩
  · rw [upd_ne (ne_of_none q (g.out j a ha))]
    exact g.ext b u q
  · by_cases q : i = j
    · subst q
      rw [List.getElem?_set_self hj] at h
      cases h
      rw [hf]
      refine ⟨v, hv, own, fun k hk => ?_⟩
      obtain ⟨v', h1, _, h3⟩ := g.at_ i s e
      rw [hv] at h1
      cases h1
      exact h3 k (ht ▸ hk)
    · rw [List.getElem?_set_ne (Ne.symm q)] at h
      obtain ⟨v', h1, h2, h3⟩ := g.at_ i t h
      refine ⟨v', h1, h2.keep (Same.refl B) fun b hb => upd_ne fun z => q ?_, h3⟩
      subst z
      exact g.dis i j b hb ha
  · by_cases q : i = j
    · subst q
      exact (h s' (List.getElem?_set_self hj)).elim
    · refine g.emp i fun t z => h t ?_
      rw [List.getElem?_set_ne (Ne.symm q)]
      exact z
theorem Fr.updIn {a : Addr} {o : HO} {F : Addr → Prop} (h : F a) : Fr B H F B (L2.upd H a o) F := Fr.mut h
end
def setSub (o i : Rs) (d : D) : M Fl := fun ρ => match o with
  | .bor j => match ρ[j]? with
    | some (some (.ml t l)) => match i.view ρ with
      | some (.int k) => match ixN l.length k with
        | some q => some (.ok .nx (ρ.set j (some (.ml t (l.set q d)))))
        | none => none
      | _ => none
    | _ => none
  | _ => none
def gSub (f fo fi : M Rs) : M Fl := M.bind f fun r => M.bind (freezeR r) fun d => M.bind fo fun o => M.bind fi fun i => setSub o i d
theorem ds_sub {X : Cx} {vs0 : List V} {e o i : Expr} {f fo fi : M Rs} {pos tpos : Pos} (he : PE X e (rdE X.K vs0 f)) (ho : PE X o (rdE X.K vs0 fo)) (hi : PE X i (rdE X.K vs0 fi))
    (ha : ∀ v, assign (.Subscript o i tpos) X.env v = (do
      let ov ← holding [v] (eval o X.env)
      let iv ← holding [v, ov] (eval i X.env)
      standAt tpos
      holding [v, ov, iv] (setItem ov iv v)
      release [v, ov, iv] []) := by intro _; rfl)
    (hs : swapsWithSole [.Subscript o i tpos] e pos.line X.env = pure false := by rfl) (hw : swappedStores [.Subscript o i tpos] e X.env = pure none := by rfl)
    (h1 : (assignEach [.Subscript o i tpos] X.env).map (·.2) = [assign (.Subscript o i tpos) X.env] := by rfl) :
    PS X (.Assign [.Subscript o i tpos] e pos) (rdS X.K vs0 (gSub f fo fi)) := PS.imp (ps_asg he (pg_sub ho hi set_list ha) hs hw h1) fun D σ H q => by
  obtain ⟨B, ρ, fs, gd, fl, ρ', e1, k⟩ := q
  obtain ⟨r, ρ1, e2, e3⟩ := M.bind_ok e1
  obtain ⟨d, ρ2, e4, e5⟩ := M.bind_ok e3
  obtain ⟨ro, ρ3, e6, e7⟩ := M.bind_ok e5
  obtain ⟨ri, ρ4, e8, e9⟩ := M.bind_ok e7
  refine ⟨B, ρ, fs, gd, r, ρ1, e2, fun v B1 H1 fs1 T1 fr1 g1 ok1 => ?_⟩
  obtain ⟨B2, fs2, fr2, g2, d2⟩ := freezeR_ok g1 ok1 e4
  refine ⟨B2, ρ2, fs2, g2, ro, ρ3, e6, fun u B3 H3 fs3 T3 fr3 g3 ok3 => ⟨B3, ρ3, fs3, g3, ri, ρ4, e8, fun w B4 H4 fs4 T4 fr4 g4 ok4 => ?_⟩⟩
  unfold setSub at e9
  cases ro with
  | own s => cases e9
  | lent _ _ _ => cases e9
  | bor j =>
  dsimp only at e9
  split at e9
  · rename_i t l e10
    split at e9
    · rename_i kk e11
      split at e9
      · rename_i q e12
        cases e9
        obtain ⟨v', q1, ⟨a, xs, rfl, hfs, q2, q3⟩, _⟩ := g4.at_ j _ e10
        obtain ⟨z1, z2⟩ := ok3
        rw [q1] at z1
        cases z1
        refine ⟨a, xs, kk, q, rfl, (view_ok g4 ok4 e11).int, q2, by rw [DpAll.length q3]; exact e12, ?_⟩
        have dv : Dp X.K B4 v d := Dp.mono ((fr3.bb).trans fr4.bb) d2
        have g5 := g4.upd (o := HO.lst (xs.set q v)) (s' := .ml t (l.set q d)) e10 hfs q1 ⟨a, _, rfl, rfl, upd_same, DpAll.set q q3 dv⟩ rfl
        refine k σ B4 _ fs4 ((fr1.trans fr2).trans (((fr_drop fr3).trans (fr_drop fr4)).trans (Fr.updIn ⟨j, by rw [hfs]; simp⟩))) g5
      · cases e9
    · cases e9
  · cases e9
def kindOk (T : String) : Option D → Bool
  | some (.list _) => decide (T = "list")
  | some (.str _) => decide (T = "str")
  | _ => false
def eMeth (T : String) (fo : M Rs) (fa : M (List Rs)) (op : List Rs → M Rs) : M Rs := M.bind fo fun o ρ => if kindOk T (o.view ρ) = true then M.bind fa (fun rs => op (o :: rs)) ρ else none
def rM (r : V → List V → Hp → VK → Prop) : List V → Hp → VK → Prop := fun vs H Q => ∃ x xs, vs = x :: xs ∧ r x xs H Q
section
variable {X : Cx} {vs0 : List V} {K : PySem.W.Frag}
theorem rd_meth {T : String} {r : V → List V → Hp → VK → Prop} {op : List Rs → M Rs} {fo : M Rs} {fa : M (List Rs)} (ho : OpOk K (rM r) op) {σ : L2.St} {H : Hp} {Q : VK} (q : rdE K vs0 (eMeth T fo fa op) σ H Q) :
    tBM K T r (rdE K vs0 fo) (rdA K vs0 fa) σ H Q := by
  obtain ⟨B, ρ, fs, g, r', ρ', e1, k⟩ := q
  obtain ⟨o, ρ1, e2, e3⟩ := M.bind_ok e1
  split at e3
  · rename_i hk
    obtain ⟨rs, ρ2, e4, e5⟩ := M.bind_ok e3
    refine ⟨B, ρ, fs, g, o, ρ1, e2, fun v B1 H1 fs1 T1 fr1 g1 ok1 => ⟨?_, B1, ρ1, fs1, g1, rs, ρ2, e4, fun vs B2 H2 fs2 Ts fr2 g2 ok2 nd2 => ?_⟩⟩
    · cases ev : o.view ρ1 with
      | none => rw [ev] at hk; cases hk
      | some d =>
        rw [ev] at hk
        have sh := view_ok g1 ok1 ev
        cases d with
        | list l =>
          obtain ⟨a, xs, rfl, s1, _⟩ := sh
          have : T = "list" := of_decide_eq_true hk
          exact Or.inl ⟨this, xs, s1⟩
        | str z =>
          rw [sh.str]
          show T = "str"
          exact of_decide_eq_true hk
        | none => cases hk
        | bool b => cases hk
        | int b => cases hk
        | tuple b => cases hk
        | dict b => cases hk
    · have n1 : ∀ a ∈ T1, ¬ InF fs1 a := ok1.off
      obtain ⟨x, xs, ex, q⟩ := ho vs0 σ B2 H2 ρ2 fs2 (v :: vs) (o :: rs) (T1 :: Ts) Q g2 ⟨ok1.keep fr2 n1 fun a h => Or.inl h, ok2⟩ (by
        rw [List.flatten_cons, List.nodup_append]
        refine ⟨ok1.nodup, nd2, fun a ha b hb e => ?_⟩
        subst e
        rcases fr2.own a (Or.inr hb) with q | q
        · exact n1 a ha q
        · exact ok1.live a ha q) r' ρ' e5 fun v4 B4 H4 fs4 T4 fr4 g4 ok4 => k v4 B4 H4 fs4 T4 (fr1.trans (((fr2.frame T1).weak (fun a h => h) fun a h => by
          rcases h with h | h
          · exact Or.inl (Or.inl (Or.inl h))
          · rw [List.flatten_cons, List.mem_append] at h
            rcases h with h | h
            · exact Or.inl (Or.inr h)
            · exact Or.inl (Or.inl (Or.inr h))).trans fr4)) g4 ok4
      cases ex
      exact q
  · cases e3
end
def opL1 (f : List D → List D → Option (D × List D)) : List Rs → M Rs := fun rs => match rs with
  | .bor j :: rest => M.bind (freezeAll rest) fun ds ρ => match ρ[j]? with
    | some (some (.ml t l)) => match f l ds with
      | some (d, l') => some (.ok (.own (.p d)) (ρ.set j (some (.ml t l'))))
      | none => none
    | _ => none
  | _ => M.fail
theorem opL1_ok {K : PySem.W.Frag} {r : V → List V → Hp → VK → Prop} {f : List D → List D → Option (D × List D)}
    (h : ∀ B H a xs l vs ds d l' Q, Same B H → H a = some (.lst xs) → DpAll K B xs l → DpAll K B vs ds → f l ds = some (d, l') → (∀ v xs', Dp K B v d → DpAll K B xs' l' → Q v (upd H a (.lst xs'))) → r (.ref a) vs H Q) : OpOk K (rM r) (opL1 f) := by
  intro vs0 σ B H ρ fs vs rs Ts Q g ok nd r' ρ' e k
  unfold opL1 at e
  split at e
  · rename_i j rest
    obtain ⟨ds, ρ1, e1, e2⟩ := M.bind_ok e
    match vs, Ts, ok with
    | v :: vs, T :: Ts, ok =>
      rw [List.flatten_cons, List.nodup_append] at nd
      obtain ⟨okj, okr⟩ := ok
      obtain ⟨hv, hT⟩ := okj
      obtain ⟨B1, fs1, fr1, g1, d1⟩ := freezeAll_ok g okr nd.2.1 e1
      split at e2
      · rename_i t l e3
        split at e2
        · rename_i d l' e4
          cases e2
          obtain ⟨v', q1, ⟨a, xs, rfl, hfs, q2, q3⟩, _⟩ := g1.at_ j _ e3
          rw [hv] at q1
          cases q1
          refine ⟨_, vs, rfl, h B1 H a xs l vs ds d l' Q g1.ext q2 q3 d1 e4 fun v2 xs' hd hx => ?_⟩
          have g5 := g1.upd (o := HO.lst xs') (s' := .ml t l') e3 hfs hv ⟨a, _, rfl, rfl, upd_same, hx⟩ rfl
          refine k v2 B1 _ fs1 [] ((fr1.weak (fun b h => ?_) fun b h => Or.inl h).trans ((Fr.updIn ⟨j, by rw [hfs]; simp⟩).weak (fun _ h => h) fun b h => Or.inl ?_)) g5 ⟨⟨hd, rfl⟩, rfl, fun a ha => nomatch ha⟩
          · rcases h with h | h
            · exact Or.inl h
            · exact Or.inr (by rw [List.flatten_cons]; exact List.mem_append_right _ h)
          · rcases h with h | h
            · exact h
            · cases h
        · cases e2
      · cases e2
  · cases e
def fPop1 : List D → List D → Option (D × List D) := fun l ds => match ds with
  | [.int i] => if -(2 ^ 63) ≤ i ∧ i < 2 ^ 63 then match ixN l.length i with
      | some k => match l[k]? with
        | some d => some (d, l.eraseIdx k)
        | none => none
      | none => none
    else none
  | _ => none
def o_pop1 := opL1 fPop1
section
variable {X : Cx} {vs0 : List V} {K : PySem.W.Frag}
theorem o_pop1_ok : OpOk K (rM rPopAt) o_pop1 := opL1_ok fun B H a xs l vs ds d l' Q e hH hx hd hf k => by
  unfold fPop1 at hf
  split at hf
  · split at hf
    · rename_i i hi
      split at hf
      · rename_i q hq
        split at hf
        · rename_i d0 hl
          cases hf
          cases hd with
          | cons h1 h2 =>
            cases h2
            cases h1
            obtain ⟨v, q1, q2⟩ := DpAll.get hx hl
            obtain ⟨s1, s2, s3, s4⟩ := ixN_seq hq
            exact ⟨a, xs, i, q, v, rfl, rfl, hH, hi.1, hi.2, by rw [DpAll.length hx]; exact s1, q1, k _ _ q2 (DpAll.erase q hx)⟩
        · cases hf
      · cases hf
    · cases hf
  · cases hf
variable {o e : Expr} {es : List Expr} {fo : M Rs} {fa : M (List Rs)} {apos cpos : Pos}
theorem de_m_pop1 (ho : PE X o (rdE X.K vs0 fo)) (ha : PA X [e] (rdA X.K vs0 fa))
    (hbase : attributeBase o "pop" X.env (eval o X.env) = eval o X.env := by rfl)
    (hfew : ((backTo cpos (starEach [e] X.env)).all (fun x => !x.1) && (backToKw cpos (keywordEach [] X.env)).all (fun x => x.1.isSome)
      && decide ([e].length + ([] : List Keyword).length + (if ([] : List Keyword).isEmpty then 0 else 1) < 30)) = true := by rfl)
    (hline : (apos.endLine == cpos.line) = true := by rfl) (hs : starEach [e] X.env = (false, eval e X.env) :: starEach [] X.env := by rfl) (hplain : (backTo cpos (starEach [] X.env)).any (·.1) = false := by rfl) :
    PE X (.Call (.Attribute o "pop" apos) [e] [] cpos) (rdE X.K vs0 (eMeth "list" fo fa o_pop1)) :=
  PE.imp (pe_bm PySem.F.plainAttrs_list PySem.F.slot_list_pop PySem.F.type_list_pop mt_popAt ho ha hbase hfew hline hs hplain) fun σ H Q q => rd_meth o_pop1_ok q
end
def gNever : M Fl := M.fail
theorem ds_never {X : Cx} {vs0 : List V} {st : Stmt} : PS X st (rdS X.K vs0 gNever) := PS.imp ps_never fun D σ H q => by
  obtain ⟨B, ρ, fs, gd, fl, ρ', e1, k⟩ := q
  cases e1
theorem law_sp {m : List Sl → Option (Sl × List Sl)} (h : ∀ ns : List Int, ns.length ≤ 63 → ∃ ss', m [.p (.list (ns.map .int))] = some (.p (.bool true), ss')) {K : PySem.W.Frag} {H : Hp} {a : Addr} {ns : List Int} {E : XK} (hl : ns.length ≤ 63) (hS : SqL K H a (ns.map V.int)) :
    spD K 1 m [.ref a] H (fun v _ => v = .bl true) E := by
  obtain ⟨ss', e⟩ := h ns hl
  refine ⟨rfl, H, [.p (.list (ns.map .int))], fun _ => [], ⟨Same.refl H, rfl, fun i s q => ?_, fun _ _ => rfl, (fun i j a h => nomatch h), (fun i a h => nomatch h)⟩, fun s hs => ?_, _, ss', e, fun v B' H' fs' T fr g ok => ?_⟩
  · cases i with
    | zero => cases q; exact ⟨.ref a, rfl, ⟨.lst hS (DpAll.of_ints ns), rfl⟩, fun k h => nomatch h⟩
    | succ i => simp at q
  · simp at hs; subst hs; rfl
  · have hd := ok.1.1
    cases hd
    rfl
end Pd
set_option Elab.async false
set_option linter.all false
set_option maxRecDepth 100000
set_option maxHeartbeats 1000000
namespace Pd
namespace B
open PySem PySem.Spec PyProof.Rows L2
def Ev {α : Type} (f : M α) (ρ : Env) (Q : α → Env → Prop) : Prop := ∃ a ρ', f ρ = some (.ok a ρ') ∧ Q a ρ'
def Sp (F : List Sl → Option (Sl × List Sl)) (ss : List Sl) (Q : Sl → List Sl → Prop) : Prop := ∃ r ss', F ss = some (r, ss') ∧ Q r ss'
theorem Ev.mono {α : Type} {f : M α} {ρ : Env} {Q Q' : α → Env → Prop} (h : Ev f ρ Q) (i : ∀ a ρ', Q a ρ' → Q' a ρ') : Ev f ρ Q' := by
  obtain ⟨a, ρ', e, q⟩ := h
  exact ⟨a, ρ', e, i a ρ' q⟩
theorem Sp.mono {F : List Sl → Option (Sl × List Sl)} {ss : List Sl} {Q Q' : Sl → List Sl → Prop} (h : Sp F ss Q) (i : ∀ a ρ', Q a ρ' → Q' a ρ') : Sp F ss Q' := by
  obtain ⟨a, ρ', e, q⟩ := h
  exact ⟨a, ρ', e, i a ρ' q⟩
theorem sp_iff {F : List Sl → Option (Sl × List Sl)} {ss ss' : List Sl} {r : Sl} (h : Sp F ss fun a b => a = r ∧ b = ss') (Q : Sl → List Sl → Prop) : Sp F ss Q ↔ Q r ss' := by
  obtain ⟨a, b, e, rfl, rfl⟩ := h
  constructor
  · rintro ⟨a', b', e', q⟩
    rw [e] at e'
    cases e'
    exact q
  · intro q
    exact ⟨_, _, e, q⟩
section
variable {α β : Type} {ρ ρ' : Env}
@[simp ↓] theorem ev_bind {f : M α} {g : α → M β} {Q : β → Env → Prop} : Ev (M.bind f g) ρ Q ↔ Ev f ρ fun a ρ1 => Ev (g a) ρ1 Q := by
  constructor
  · rintro ⟨b, ρ2, e, q⟩
    obtain ⟨a, ρ1, e1, e2⟩ := M.bind_ok e
    exact ⟨a, ρ1, e1, b, ρ2, e2, q⟩
  · rintro ⟨a, ρ1, e1, b, ρ2, e2, q⟩
    refine ⟨b, ρ2, ?_, q⟩
    unfold M.bind
    rw [e1]
    exact e2
@[simp ↓] theorem ev_ret {a : α} {Q : α → Env → Prop} : Ev (M.ret a) ρ Q ↔ Q a ρ := by
  constructor
  · rintro ⟨a', ρ', e, q⟩; cases e; exact q
  · intro q; exact ⟨a, ρ, rfl, q⟩
@[simp ↓] theorem ev_fail {Q : α → Env → Prop} : Ev M.fail ρ Q ↔ False := by
  constructor
  · rintro ⟨a', ρ', e, q⟩; cases e
  · intro q; exact q.elim
@[simp ↓] theorem ev_c {d : D} {Q : Rs → Env → Prop} : Ev (eC d) ρ Q ↔ Q (.own (.p d)) ρ := by
  constructor
  · rintro ⟨a', ρ', e, q⟩; cases e; exact q
  · intro q; exact ⟨_, ρ, rfl, q⟩
@[simp ↓] theorem ev_bin {fa fb : M Rs} {op : List Rs → M Rs} {Q : Rs → Env → Prop} : Ev (eBin fa fb op) ρ Q ↔ Ev fa ρ fun a ρ1 => Ev fb ρ1 fun b ρ2 => Ev (op [a, b]) ρ2 Q := by
  unfold eBin aCons aNil
  simp only [ev_bind, ev_ret]
@[simp ↓] theorem ev_un {fa : M Rs} {op : List Rs → M Rs} {Q : Rs → Env → Prop} : Ev (eUn fa op) ρ Q ↔ Ev fa ρ fun a ρ1 => Ev (op [a]) ρ1 Q := by
  unfold eUn aCons aNil
  simp only [ev_bind, ev_ret]
@[simp ↓] theorem ev_aNil {Q : List Rs → Env → Prop} : Ev aNil ρ Q ↔ Q [] ρ := ev_ret
@[simp ↓] theorem ev_aCons {f : M Rs} {g : M (List Rs)} {Q : List Rs → Env → Prop} : Ev (aCons f g) ρ Q ↔ Ev f ρ fun a ρ1 => Ev g ρ1 fun r ρ2 => Q (a :: r) ρ2 := by
  unfold aCons
  simp only [ev_bind, ev_ret]
def slotQ (i : Nat) (ρ : Env) (Q : Rs → Env → Prop) : Option (Option Sl) → Prop
  | some (some (.p d)) => Q (.own (.p d)) ρ
  | some (some (.ml _ _)) => Q (.bor i) ρ
  | some (some (.md _ _)) => Q (.bor i) ρ
  | some (some (.mr _ _)) => Q (.bor i) ρ
  | some (some (.ob _ _ _ _)) => Q (.bor i) ρ
  | some (some (.ex c f)) => Q (.own (.ex c f)) ρ
  | some (some (.fd l)) => Q (.own (.fd l)) ρ
  | some (some (.tp _)) => Q (.bor i) ρ
  | _ => False
@[simp] theorem slotQ_p {i : Nat} {Q : Rs → Env → Prop} {d : D} : slotQ i ρ Q (some (some (.p d))) = Q (.own (.p d)) ρ := rfl
@[simp] theorem slotQ_ml {i : Nat} {Q : Rs → Env → Prop} {t : Option Nat} {d : List D} : slotQ i ρ Q (some (some (.ml t d))) = Q (.bor i) ρ := rfl
@[simp] theorem slotQ_md {i : Nat} {Q : Rs → Env → Prop} {t : Option Nat} {d : List (Key × D)} : slotQ i ρ Q (some (some (.md t d))) = Q (.bor i) ρ := rfl
@[simp] theorem slotQ_mr {i : Nat} {Q : Rs → Env → Prop} {t : Option Nat} {d : List Sl} : slotQ i ρ Q (some (some (.mr t d))) = Q (.bor i) ρ := rfl
@[simp] theorem slotQ_ob {i : Nat} {Q : Rs → Env → Prop} {t : Option Nat} {c : Str} {ns : List Str} {d : List Sl} : slotQ i ρ Q (some (some (.ob t c ns d))) = Q (.bor i) ρ := rfl
@[simp] theorem slotQ_tp {i : Nat} {Q : Rs → Env → Prop} {d : List Sl} : slotQ i ρ Q (some (some (.tp d))) = Q (.bor i) ρ := rfl
@[simp] theorem slotQ_fd {i : Nat} {Q : Rs → Env → Prop} {l : List (Key × D)} : slotQ i ρ Q (some (some (.fd l))) = Q (.own (.fd l)) ρ := rfl
@[simp] theorem slotQ_ex {i : Nat} {Q : Rs → Env → Prop} {c : Str} {f : Option (Str × D)} : slotQ i ρ Q (some (some (.ex c f))) = Q (.own (.ex c f)) ρ := rfl
@[simp ↓] theorem ev_name {i : Nat} {Q : Rs → Env → Prop} : Ev (eName i) ρ Q ↔ slotQ i ρ Q ρ[i]? := by
  constructor
  · rintro ⟨a', ρ', e, q⟩
    unfold eName at e
    split at e
    · rename_i h; cases e; rw [h]; exact q
    · rename_i h; cases e; rw [h]; exact q
    · rename_i h; cases e; rw [h]; exact q
    · cases e
    · rename_i s hn hx hf hh h
      cases e; rw [h]
      cases s with
      | p d => exact (hn d rfl).elim
      | ex c f => exact (hx c f rfl).elim
      | fd l => exact (hf l rfl).elim
      | hl t => exact (hh t rfl).elim
      | tp l => exact q
      | ml t l => exact q
      | md t l => exact q
      | mr t l => exact q
      | ob t c ns l => exact q
    · cases e
  · intro q
    unfold slotQ at q
    split at q
    · rename_i h; exact ⟨_, ρ, by unfold eName; rw [h], q⟩
    · rename_i h; exact ⟨_, ρ, by unfold eName; rw [h], q⟩
    · rename_i h; exact ⟨_, ρ, by unfold eName; rw [h], q⟩
    · rename_i h; exact ⟨_, ρ, by unfold eName; rw [h], q⟩
    · rename_i h; exact ⟨_, ρ, by unfold eName; rw [h], q⟩
    · rename_i h; exact ⟨_, ρ, by unfold eName; rw [h], q⟩
    · rename_i h; exact ⟨_, ρ, by unfold eName; rw [h], q⟩
    · rename_i h; exact ⟨_, ρ, by unfold eName; rw [h], q⟩
    · exact q.elim
@[simp] theorem view_p {d : D} : (Rs.own (.p d)).view ρ = some d := rfl
@[simp] theorem view_ml {t : Option Nat} {l : List D} : (Rs.own (.ml t l)).view ρ = some (.list l) := rfl
def slotV : Option (Option Sl) → Option D
  | some (some (.ml _ l)) => some (.list l)
  | some (some (.p d)) => some d
  | _ => none
@[simp] theorem slotV_ml {t : Option Nat} {l : List D} : slotV (some (some (.ml t l))) = some (.list l) := rfl
@[simp] theorem slotV_p {d : D} : slotV (some (some (.p d))) = some d := rfl
@[simp] theorem view_bor {i : Nat} : (Rs.bor i).view ρ = slotV ρ[i]? := by
  unfold Rs.view slotV
  dsimp only
  all_goals (split <;> simp_all)
@[simp] theorem viewAll_nil : viewAll [] ρ = some [] := rfl
@[simp] theorem viewAll_cons {r : Rs} {rs : List Rs} : viewAll (r :: rs) ρ = (r.view ρ).bind fun d => (viewAll rs ρ).bind fun ds => some (d :: ds) := by
  rw [viewAll]
  cases r.view ρ with
  | none => rfl
  | some d =>
    cases viewAll rs ρ with
    | none => rfl
    | some ds => rfl
def resQ (ρ : Env) (Q : Rs → Env → Prop) : Option Rd' → Prop
  | some res => Q res.rs ρ
  | none => False
@[simp] theorem resQ_pd {Q : Rs → Env → Prop} {d : D} : resQ ρ Q (some (.pd d)) = Q (.own (.p d)) ρ := rfl
@[simp] theorem resQ_nl {Q : Rs → Env → Prop} {l : List D} : resQ ρ Q (some (.nl l)) = Q (.own (.ml none l)) ρ := rfl
@[simp] theorem resQ_none {Q : Rs → Env → Prop} : resQ ρ Q none = False := rfl
@[simp] theorem resQ_ite {Q : Rs → Env → Prop} {c : Prop} [Decidable c] {o : Option Rd'} : resQ ρ Q (if c then o else none) ↔ c ∧ resQ ρ Q o := by
  split
  · rename_i h; simp [h]
  · rename_i h; simp [h, resQ]
@[simp ↓] theorem ev_opG {pf : List D → Option Rd'} {rs : List Rs} {Q : Rs → Env → Prop} : Ev (opG pf rs) ρ Q ↔ resQ ρ Q ((viewAll rs ρ).bind pf) := by
  constructor
  · rintro ⟨a', ρ', e, q⟩
    unfold opG at e
    split at e
    · rename_i ds h
      split at e
      · rename_i res h2; cases e; rw [h, Option.bind_some, h2]; exact q
      · cases e
    · cases e
  · intro q
    unfold resQ at q
    split at q
    · rename_i res h
      rw [Option.bind_eq_some_iff] at h
      obtain ⟨ds, h, h2⟩ := h
      exact ⟨_, ρ, by unfold opG; simp only [h, h2], q⟩
    · exact q.elim
@[simp ↓] theorem ev_opF {pf : List D → Option Rd'} {rs : List Rs} {Q : Rs → Env → Prop} : Ev (opF pf rs) ρ Q ↔ Ev (freezeAll rs) ρ fun ds ρ1 => resQ ρ1 Q (pf ds) := by
  unfold opF
  rw [ev_bind]
  constructor
  · rintro ⟨ds, ρ1, e, b, ρ2, e2, q⟩
    refine ⟨ds, ρ1, e, ?_⟩
    dsimp only at e2
    split at e2
    · rename_i res h; cases e2; rw [h]; exact q
    · cases e2
  · rintro ⟨ds, ρ1, e, q⟩
    unfold resQ at q
    split at q
    · rename_i res h
      exact ⟨ds, ρ1, e, _, ρ1, by dsimp only; rw [h], q⟩
    · exact q.elim
@[simp ↓] theorem ev_freezeAll_nil {Q : List D → Env → Prop} : Ev (freezeAll []) ρ Q ↔ Q [] ρ := ev_ret
@[simp ↓] theorem ev_freezeAll_cons {r : Rs} {rs : List Rs} {Q : List D → Env → Prop} : Ev (freezeAll (r :: rs)) ρ Q ↔ Ev (freezeR r) ρ fun d ρ1 => Ev (freezeAll rs) ρ1 fun ds ρ2 => Q (d :: ds) ρ2 := by
  rw [freezeAll]
  simp only [ev_bind, ev_ret]
def testQ (ρ : Env) (Q : Bool → Env → Prop) : Option D → Prop
  | some (.bool b) => Q b ρ
  | _ => False
@[simp] theorem testQ_b {Q : Bool → Env → Prop} {b : Bool} : testQ ρ Q (some (.bool b)) = Q b ρ := rfl
@[simp ↓] theorem ev_test {f : M Rs} {Q : Bool → Env → Prop} : Ev (mTest f) ρ Q ↔ Ev f ρ fun r ρ1 => testQ ρ1 Q (r.view ρ1) := by
  unfold mTest
  rw [ev_bind]
  constructor
  · rintro ⟨r, ρ1, e, b, ρ2, e2, q⟩
    refine ⟨r, ρ1, e, ?_⟩
    try dsimp only at e2
    split at e2
    · rename_i c h; cases e2; rw [h]; exact q
    · cases e2
  · rintro ⟨r, ρ1, e, q⟩
    refine ⟨r, ρ1, e, ?_⟩
    unfold testQ at q
    split at q
    · rename_i c h; exact ⟨_, ρ1, by simp only [h], q⟩
    · exact q.elim
@[simp ↓] theorem ev_and {fa fb : M Rs} {Q : Rs → Env → Prop} : Ev (eAnd fa fb) ρ Q ↔ Ev (mTest fa) ρ fun b ρ1 => if b = true then Ev fb ρ1 Q else Q (.own (.p (.bool false))) ρ1 := by
  unfold eAnd
  rw [ev_bind]
  refine ⟨fun h => h.mono fun b ρ1 q => ?_, fun h => h.mono fun b ρ1 q => ?_⟩
  · cases b with
    | true => exact q
    | false => exact ev_c.mp q
  · cases b with
    | true => exact q
    | false => exact ev_c.mpr q
@[simp ↓] theorem ev_tand {c d : M Bool} {Q : Bool → Env → Prop} : Ev (tAnd' c d) ρ Q ↔ Ev c ρ fun b ρ1 => if b = true then Ev d ρ1 Q else Q false ρ1 := by
  unfold tAnd'
  rw [ev_bind]
  refine ⟨fun h => h.mono fun b ρ1 q => ?_, fun h => h.mono fun b ρ1 q => ?_⟩
  · cases b with
    | true => exact q
    | false => exact ev_ret.mp q
  · cases b with
    | true => exact q
    | false => exact ev_ret.mpr q
@[simp ↓] theorem ev_tor {c d : M Bool} {Q : Bool → Env → Prop} : Ev (tOr' c d) ρ Q ↔ Ev c ρ fun b ρ1 => if b = true then Q true ρ1 else Ev d ρ1 Q := by
  unfold tOr'
  rw [ev_bind]
  refine ⟨fun h => h.mono fun b ρ1 q => ?_, fun h => h.mono fun b ρ1 q => ?_⟩
  · cases b with
    | true => exact ev_ret.mp q
    | false => exact q
  · cases b with
    | true => exact ev_ret.mpr q
    | false => exact q
@[simp ↓] theorem ev_tnot {c : M Bool} {Q : Bool → Env → Prop} : Ev (tNot' c) ρ Q ↔ Ev c ρ fun b ρ1 => Q (!b) ρ1 := by
  unfold tNot'
  simp only [ev_bind, ev_ret]
def intQ (ρ : Env) (Q : Option Int → Env → Prop) : Option D → Prop
  | some (.int b) => Q (some b) ρ
  | _ => False
@[simp] theorem intQ_i {Q : Option Int → Env → Prop} {b : Int} : intQ ρ Q (some (.int b)) = Q (some b) ρ := rfl
@[simp ↓] theorem ev_mInt {f : M Rs} {Q : Option Int → Env → Prop} : Ev (mInt f) ρ Q ↔ Ev f ρ fun r ρ1 => intQ ρ1 Q (r.view ρ1) := by
  unfold mInt
  rw [ev_bind]
  constructor
  · rintro ⟨r, ρ1, e, b, ρ2, e2, q⟩
    refine ⟨r, ρ1, e, ?_⟩
    try dsimp only at e2
    split at e2
    · rename_i c h; cases e2; rw [h]; exact q
    · cases e2
  · rintro ⟨r, ρ1, e, q⟩
    refine ⟨r, ρ1, e, ?_⟩
    unfold intQ at q
    split at q
    · rename_i c h; exact ⟨_, ρ1, by simp only [h], q⟩
    · exact q.elim
@[simp ↓] theorem ev_mNo {Q : Option Int → Env → Prop} : Ev mNo ρ Q ↔ Q none ρ := ev_ret
@[simp ↓] theorem ev_sl {fe : M Rs} {lo hi : M (Option Int)} {op : Option Int → Option Int → List Rs → M Rs} {Q : Rs → Env → Prop} :
    Ev (eSl fe lo hi op) ρ Q ↔ Ev fe ρ fun r ρ1 => Ev lo ρ1 fun l ρ2 => Ev hi ρ2 fun h ρ3 => Ev (op l h [r]) ρ3 Q := by
  unfold eSl
  simp only [ev_bind]
def takeQ (i : Nat) (ρ : Env) (Q : Sl → Env → Prop) : Option (Option Sl) → Prop
  | some (some s) => Q s (ρ.set i none)
  | _ => False
@[simp] theorem takeQ_s {i : Nat} {Q : Sl → Env → Prop} {s : Sl} : takeQ i ρ Q (some (some s)) = Q s (ρ.set i none) := rfl
@[simp ↓] theorem ev_take_own {s : Sl} {Q : Sl → Env → Prop} : Ev (takeR (.own s)) ρ Q ↔ Q s ρ := by unfold takeR; exact ev_ret
@[simp ↓] theorem ev_take_bor {i : Nat} {Q : Sl → Env → Prop} : Ev (takeR (.bor i)) ρ Q ↔ takeQ i ρ Q ρ[i]? := by
  constructor
  · rintro ⟨r, ρ1, e, q⟩
    unfold takeR at e
    dsimp only at e
    split at e
    · rename_i s h; cases e; rw [h]; exact q
    · cases e
  · intro q
    unfold takeQ at q
    split at q
    · rename_i s h; exact ⟨s, _, by unfold takeR; dsimp only; rw [h], q⟩
    · exact q.elim
@[simp ↓] theorem ev_gSet {i : Nat} {f : M Rs} {Q : Fl → Env → Prop} : Ev (gSet i f) ρ Q ↔ Ev f ρ fun r ρ1 => Ev (takeR r) ρ1 fun s ρ2 => i < ρ2.length ∧ Q .nx (ρ2.set i (some s)) := by
  unfold gSet
  simp only [ev_bind]
  constructor
  · rintro ⟨r, ρ1, e, s, ρ2, e2, b, ρ3, e3, q⟩
    refine ⟨r, ρ1, e, s, ρ2, e2, ?_⟩
    try dsimp only at e3
    split at e3
    · rename_i h; cases e3; exact ⟨h, q⟩
    · cases e3
  · rintro ⟨r, ρ1, e, s, ρ2, e2, h, q⟩
    exact ⟨r, ρ1, e, s, ρ2, e2, _, _, by dsimp only; rw [if_pos h], q⟩
@[simp ↓] theorem ev_gRet {f : M Rs} {Q : Fl → Env → Prop} : Ev (gRet f) ρ Q ↔ Ev f ρ fun r ρ1 => Ev (takeR r) ρ1 fun s ρ2 => s.tag = none ∧ Q (.rt s) ρ2 := by
  unfold gRet
  simp only [ev_bind]
  constructor
  · rintro ⟨r, ρ1, e, s, ρ2, e2, b, ρ3, e3, q⟩
    refine ⟨r, ρ1, e, s, ρ2, e2, ?_⟩
    try dsimp only at e3
    split at e3
    · rename_i h; cases e3; exact ⟨h, q⟩
    · cases e3
  · rintro ⟨r, ρ1, e, s, ρ2, e2, h, q⟩
    exact ⟨r, ρ1, e, s, ρ2, e2, _, _, by rw [if_pos h]; rfl, q⟩
@[simp ↓] theorem ev_gNext {Q : Fl → Env → Prop} : Ev gNext ρ Q ↔ Q .nx ρ := ev_ret
@[simp ↓] theorem ev_gNever {Q : Fl → Env → Prop} : Ev gNever ρ Q ↔ False := ev_fail
@[simp ↓] theorem ev_gExpr {f : M Rs} {Q : Fl → Env → Prop} : Ev (gExpr f) ρ Q ↔ Ev f ρ fun _ ρ1 => Q .nx ρ1 := by
  unfold gExpr
  simp only [ev_bind, ev_ret]
@[simp] theorem Sl.tag_p {d : D} : (Sl.p d).tag = none := rfl
@[simp] theorem Sl.tag_ml {t : Option Nat} {d : List D} : (Sl.ml t d).tag = t := rfl
@[simp] theorem Sl.tag_md {t : Option Nat} {d : List (Key × D)} : (Sl.md t d).tag = t := rfl
@[simp] theorem Sl.tag_mr {t : Option Nat} {d : List Sl} : (Sl.mr t d).tag = t := rfl
@[simp] theorem Sl.tag_ob {t : Option Nat} {c : Str} {ns : List Str} {d : List Sl} : (Sl.ob t c ns d).tag = t := rfl
@[simp] theorem Sl.tag_ex {c : Str} {f : Option (Str × D)} : (Sl.ex c f).tag = none := rfl
@[simp] theorem Sl.tag_tp {l : List Sl} : (Sl.tp l).tag = none := rfl
@[simp] theorem Sl.tag_fd {l : List (Key × D)} : (Sl.fd l).tag = none := rfl
@[simp] theorem Sl.mark_fd {k : Nat} {l : List (Key × D)} : (Sl.fd l).mark k = .fd l := rfl
@[simp] theorem Sl.bare_fd {l : List (Key × D)} : (Sl.fd l).bare = .fd l := rfl
@[simp] theorem Sl.retag_fd {t : Option Nat} {l : List (Key × D)} : (Sl.fd l).retag t = .fd l := rfl
@[simp] theorem Sl.mark_p {k : Nat} {d : D} : (Sl.p d).mark k = .p d := rfl
@[simp] theorem Sl.mark_ml {k : Nat} {t : Option Nat} {d : List D} : (Sl.ml t d).mark k = .ml (some k) d := rfl
@[simp] theorem Sl.mark_md {k : Nat} {t : Option Nat} {d : List (Key × D)} : (Sl.md t d).mark k = .md (some k) d := rfl
@[simp] theorem Sl.mark_mr {k : Nat} {t : Option Nat} {d : List Sl} : (Sl.mr t d).mark k = .mr (some k) d := rfl
@[simp] theorem Sl.mark_ob {k : Nat} {t : Option Nat} {c : Str} {ns : List Str} {d : List Sl} : (Sl.ob t c ns d).mark k = .ob (some k) c ns d := rfl
@[simp] theorem Sl.mark_ex {k : Nat} {c : Str} {f : Option (Str × D)} : (Sl.ex c f).mark k = .ex c f := rfl
@[simp] theorem Sl.bare_p {d : D} : (Sl.p d).bare = .p d := rfl
@[simp] theorem Sl.bare_ml {t : Option Nat} {d : List D} : (Sl.ml t d).bare = .ml none d := rfl
@[simp] theorem Sl.bare_md {t : Option Nat} {d : List (Key × D)} : (Sl.md t d).bare = .md none d := rfl
@[simp] theorem Sl.bare_mr {t : Option Nat} {d : List Sl} : (Sl.mr t d).bare = .mr none d := rfl
@[simp] theorem Sl.bare_ob {t : Option Nat} {c : Str} {ns : List Str} {d : List Sl} : (Sl.ob t c ns d).bare = .ob none c ns d := rfl
@[simp] theorem Sl.bare_ex {c : Str} {f : Option (Str × D)} : (Sl.ex c f).bare = .ex c f := rfl
@[simp] theorem Sl.retag_p {t : Option Nat} {d : D} : (Sl.p d).retag t = .p d := rfl
@[simp] theorem Sl.retag_ml {t t' : Option Nat} {d : List D} : (Sl.ml t' d).retag t = .ml t d := rfl
@[simp] theorem Sl.retag_md {t t' : Option Nat} {d : List (Key × D)} : (Sl.md t' d).retag t = .md t d := rfl
@[simp] theorem Sl.retag_mr {t t' : Option Nat} {d : List Sl} : (Sl.mr t' d).retag t = .mr t d := rfl
@[simp] theorem Sl.retag_ob {t t' : Option Nat} {c : Str} {ns : List Str} {d : List Sl} : (Sl.ob t' c ns d).retag t = .ob t c ns d := rfl
@[simp] theorem Sl.retag_ex {t : Option Nat} {c : Str} {f : Option (Str × D)} : (Sl.ex c f).retag t = .ex c f := rfl
def flQ (g : M Fl) (Q : Fl → Env → Prop) (ρ : Env) : Fl → Prop
  | .nx => Ev g ρ Q
  | .bk => Q .bk ρ
  | .ct => Q .ct ρ
  | .rt s => Q (.rt s) ρ
@[simp ↓] theorem flQ_nx {g : M Fl} {Q : Fl → Env → Prop} : flQ g Q ρ .nx = Ev g ρ Q := rfl
@[simp ↓] theorem flQ_bk {g : M Fl} {Q : Fl → Env → Prop} : flQ g Q ρ .bk = Q .bk ρ := rfl
@[simp ↓] theorem flQ_ct {g : M Fl} {Q : Fl → Env → Prop} : flQ g Q ρ .ct = Q .ct ρ := rfl
@[simp ↓] theorem flQ_rt {g : M Fl} {Q : Fl → Env → Prop} {s : Sl} : flQ g Q ρ (.rt s) = Q (.rt s) ρ := rfl
@[simp ↓] theorem ev_gSeq {g1 g2 : M Fl} {Q : Fl → Env → Prop} : Ev (gSeq g1 g2) ρ Q ↔ Ev g1 ρ fun fl ρ1 => flQ g2 Q ρ1 fl := by
  unfold gSeq
  rw [ev_bind]
  constructor
  · rintro ⟨fl, ρ1, e, q⟩
    refine ⟨fl, ρ1, e, ?_⟩
    cases fl with
    | nx => exact q
    | bk => exact ev_ret.mp q
    | ct => exact ev_ret.mp q
    | rt s => exact ev_ret.mp q
  · rintro ⟨fl, ρ1, e, q⟩
    refine ⟨fl, ρ1, e, ?_⟩
    cases fl with
    | nx => exact q
    | bk => exact ev_ret.mpr q
    | ct => exact ev_ret.mpr q
    | rt s => exact ev_ret.mpr q
@[simp ↓] theorem ev_ite {c : Prop} [Decidable c] {f g : M α} {Q : α → Env → Prop} : Ev (if c then f else g) ρ Q ↔ if c then Ev f ρ Q else Ev g ρ Q := by split <;> exact Iff.rfl
@[simp ↓] theorem ev_gIf {c : M Bool} {g1 g2 : M Fl} {Q : Fl → Env → Prop} : Ev (gIf c g1 g2) ρ Q ↔ Ev c ρ fun b ρ1 => if b = true then Ev g1 ρ1 Q else Ev g2 ρ1 Q := by
  unfold gIf
  rw [ev_bind]
  refine ⟨fun h => h.mono fun b ρ1 q => ?_, fun h => h.mono fun b ρ1 q => ?_⟩ <;> cases b <;> exact q
def envQ (Q : Env → Prop) : Option Env → Prop
  | some ρ => Q ρ
  | none => False
@[simp] theorem envQ_s {Q : Env → Prop} : envQ Q (some ρ) = Q ρ := rfl
@[simp] theorem envQ_n {Q : Env → Prop} : envQ Q none = False := rfl
@[simp] theorem envQ_ite {Q : Env → Prop} {c : Prop} [Decidable c] {o : Option Env} : envQ Q (if c then o else none) ↔ c ∧ envQ Q o := by
  split
  · rename_i h; simp [h]
  · rename_i h; simp [h, envQ]
@[simp ↓] theorem ev_gAsg {t : D → Env → Option Env} {f : M Rs} {Q : Fl → Env → Prop} : Ev (gAsg t f) ρ Q ↔ Ev f ρ fun r ρ1 => Ev (freezeR r) ρ1 fun d ρ2 => envQ (fun ρ3 => Q .nx ρ3) (t d ρ2) := by
  unfold gAsg
  simp only [ev_bind]
  constructor
  · rintro ⟨r, ρ1, e, s, ρ2, e2, b, ρ3, e3, q⟩
    refine ⟨r, ρ1, e, s, ρ2, e2, ?_⟩
    try dsimp only at e3
    split at e3
    · rename_i h; cases e3; rw [h]; exact q
    · cases e3
  · rintro ⟨r, ρ1, e, s, ρ2, e2, q⟩
    unfold envQ at q
    split at q
    · rename_i ρ3 h
      exact ⟨r, ρ1, e, s, ρ2, e2, _, _, by dsimp only; rw [h], q⟩
    · exact q.elim
@[simp] theorem tgName_eq {i : Nat} {d : D} : tgName i d ρ = if i < ρ.length then some (ρ.set i (some (.p d))) else none := rfl
@[simp] theorem tgTup_eq {n : Nat} {u : List D → Env → Option Env} {l : List D} : tgTup n u (.tuple l) ρ = if l.length = n then u l ρ else none := rfl
@[simp] theorem tgNil_eq : tgNil [] ρ = some ρ := rfl
@[simp] theorem tgCons_eq {t : D → Env → Option Env} {u : List D → Env → Option Env} {d : D} {r : List D} : tgCons t u (d :: r) ρ = (t d ρ).bind (u r) := by
  show (match t d ρ with
    | some ρ1 => u r ρ1
    | none => none) = _
  cases t d ρ <;> rfl
@[simp ↓] theorem ev_freeze_p {d : D} {Q : D → Env → Prop} : Ev (freezeR (.own (.p d))) ρ Q ↔ Q d ρ := by unfold freezeR; exact ev_ret
@[simp ↓] theorem ev_freeze_ml {t : Option Nat} {l : List D} {Q : D → Env → Prop} : Ev (freezeR (.own (.ml t l))) ρ Q ↔ Q (.list l) ρ := by unfold freezeR; exact ev_ret
def freezeQ (i : Nat) (ρ : Env) (Q : D → Env → Prop) : Option (Option Sl) → Prop
  | some (some (.ml none l)) => Q (.list l) (ρ.set i (some (.p (.list l))))
  | some (some (.p d)) => Q d ρ
  | _ => False
@[simp] theorem freezeQ_ml {i : Nat} {Q : D → Env → Prop} {l : List D} : freezeQ i ρ Q (some (some (.ml none l))) = Q (.list l) (ρ.set i (some (.p (.list l)))) := rfl
@[simp] theorem freezeQ_p {i : Nat} {Q : D → Env → Prop} {d : D} : freezeQ i ρ Q (some (some (.p d))) = Q d ρ := rfl
@[simp ↓] theorem ev_freeze_bor {i : Nat} {Q : D → Env → Prop} : Ev (freezeR (.bor i)) ρ Q ↔ freezeQ i ρ Q ρ[i]? := by
  constructor
  · rintro ⟨r, ρ1, e, q⟩
    unfold freezeR at e
    dsimp only at e
    split at e
    · rename_i s h; cases e; rw [h]; exact q
    · rename_i s h; cases e; rw [h]; exact q
    · cases e
  · intro q
    unfold freezeQ at q
    split at q
    · rename_i s h; exact ⟨_, _, by unfold freezeR; dsimp only; rw [h], q⟩
    · rename_i s h; exact ⟨_, _, by unfold freezeR; dsimp only; rw [h], q⟩
    · exact q.elim
def argQ (Q : List Sl → Prop) : Option (List Sl) → Prop
  | some ss => Q ss
  | none => False
@[simp] theorem argQ_s {Q : List Sl → Prop} {ss : List Sl} : argQ Q (some ss) = Q ss := rfl
@[simp] theorem argQ_n {Q : List Sl → Prop} : argQ Q none = False := rfl
@[simp ↓] theorem ev_opCall {n : Nat} {F : List Sl → Option (Sl × List Sl)} {rs : List Rs} {Q : Rs → Env → Prop} : Ev (opCall n F rs) ρ Q ↔ (rs.length = n ∧ (bors rs).Nodup) ∧ argQ (fun ss => Sp F ss fun r ss' => Q (.own r) (wb rs ss' ρ)) (argS rs ρ) := by
  constructor
  · rintro ⟨a', ρ', e, q⟩
    unfold opCall at e
    split at e
    · rename_i hc
      split at e
      · rename_i ss h
        split at e
        · rename_i r ss' h2; cases e; exact ⟨hc, by rw [h]; exact ⟨r, ss', h2, q⟩⟩
        · cases e
      · cases e
    · cases e
  · rintro ⟨hc, q⟩
    unfold argQ at q
    split at q
    · rename_i ss h
      obtain ⟨r, ss', h2, q⟩ := q
      exact ⟨_, _, by unfold opCall; rw [if_pos hc]; simp only [h, h2], q⟩
    · exact q.elim
@[simp] theorem argS_nil : argS [] ρ = some [] := rfl
@[simp] theorem argS_own {s : Sl} {r : List Rs} : argS (.own s :: r) ρ = (argS r ρ).map (s :: ·) := by
  rw [argS]
  cases argS r ρ <;> rfl
@[simp] theorem argS_bor' {i : Nat} {r : List Rs} : argS (.bor i :: r) ρ = (ρ[i]?).bind fun o => o.bind fun s => (argS r ρ).map (s.bare :: ·) := by
  rw [argS]
  cases ρ[i]? with
  | none => rfl
  | some o =>
    cases o with
    | none => rfl
    | some s => cases argS r ρ <;> rfl
@[simp] theorem bors_nil : bors [] = [] := rfl
@[simp] theorem bors_own {s : Sl} {r : List Rs} : bors (.own s :: r) = bors r := rfl
@[simp] theorem bors_bor {i : Nat} {r : List Rs} : bors (.bor i :: r) = i :: bors r := rfl
@[simp] theorem wb_nil {ss : List Sl} : wb [] ss ρ = ρ := by simp [wb]
@[simp] theorem wb_own {s s' : Sl} {r : List Rs} {ss : List Sl} : wb (.own s :: r) (s' :: ss) ρ = wb r ss ρ := rfl
@[simp] theorem wb_bor {i : Nat} {s' : Sl} {r : List Rs} {ss : List Sl} : wb (.bor i :: r) (s' :: ss) ρ = wb r ss (ρ.set i (some (s'.retag (tagAt ρ i)))) := rfl
def slotT : Option (Option Sl) → Option Nat
  | some (some s) => s.tag
  | _ => none
@[simp] theorem slotT_s {s : Sl} : slotT (some (some s)) = s.tag := rfl
@[simp] theorem tagAt_eq {i : Nat} : tagAt ρ i = slotT ρ[i]? := by
  unfold tagAt slotT
  split <;> simp_all
def ixQ (Q : Nat → Prop) : Option Nat → Prop
  | some q => Q q
  | none => False
def subQ (j : Nat) (d : D) (ρ : Env) (Q : Fl → Env → Prop) : Option (Option Sl) → Option D → Prop
  | some (some (.ml t l)), some (.int k) => ixQ (fun q => Q .nx (ρ.set j (some (.ml t (l.set q d))))) (ixN l.length k)
  | _, _ => False
@[simp] theorem ixQ_s {Q : Nat → Prop} {q : Nat} : ixQ Q (some q) = Q q := rfl
@[simp] theorem subQ_ml {j : Nat} {d : D} {Q : Fl → Env → Prop} {t : Option Nat} {l : List D} {k : Int} : subQ j d ρ Q (some (some (.ml t l))) (some (.int k)) = ixQ (fun q => Q .nx (ρ.set j (some (.ml t (l.set q d))))) (ixN l.length k) := rfl
@[simp ↓] theorem ev_setSub {j : Nat} {i : Rs} {d : D} {Q : Fl → Env → Prop} : Ev (setSub (.bor j) i d) ρ Q ↔ subQ j d ρ Q ρ[j]? (i.view ρ) := by
  constructor
  · rintro ⟨a', ρ', e, q⟩
    unfold setSub at e
    dsimp only at e
    split at e
    · rename_i t l h
      split at e
      · rename_i k h2
        split at e
        · rename_i q' h3
          cases e
          rw [h, h2, subQ_ml, h3]
          exact q
        · cases e
      · cases e
    · cases e
  · intro q
    unfold subQ at q
    split at q
    · rename_i t l k h h2
      unfold ixQ at q
      split at q
      · rename_i q' h3
        exact ⟨_, _, by unfold setSub; simp only [h, h2, h3], q⟩
      · exact q.elim
    · exact q.elim
@[simp ↓] theorem ev_gSub {f fo fi : M Rs} {Q : Fl → Env → Prop} : Ev (gSub f fo fi) ρ Q ↔ Ev f ρ fun r ρ1 => Ev (freezeR r) ρ1 fun d ρ2 => Ev fo ρ2 fun o ρ3 => Ev fi ρ3 fun i ρ4 => Ev (setSub o i d) ρ4 Q := by
  unfold gSub
  simp only [ev_bind]
@[simp] theorem kindOk_l {l : List D} : kindOk "list" (some (.list l)) = true := rfl
@[simp] theorem kindOk_s {l : Str} : kindOk "str" (some (.str l)) = true := rfl
def kQ (P : Prop) : Bool → Prop
  | true => P
  | false => False
@[simp] theorem kQ_t {P : Prop} : kQ P true = P := rfl
@[simp ↓] theorem ev_meth {T : String} {fo : M Rs} {fa : M (List Rs)} {op : List Rs → M Rs} {Q : Rs → Env → Prop} : Ev (eMeth T fo fa op) ρ Q ↔ Ev fo ρ fun o ρ1 => kQ (Ev fa ρ1 fun rs ρ2 => Ev (op (o :: rs)) ρ2 Q) (kindOk T (o.view ρ1)) := by
  unfold eMeth
  rw [ev_bind]
  constructor
  · rintro ⟨o, ρ1, e, b, ρ2, e2, q⟩
    refine ⟨o, ρ1, e, ?_⟩
    dsimp only at e2
    split at e2
    · rename_i h; rw [h]; exact ev_bind.mp ⟨b, ρ2, e2, q⟩
    · cases e2
  · rintro ⟨o, ρ1, e, q⟩
    refine ⟨o, ρ1, e, ?_⟩
    cases h : kindOk T (o.view ρ1) with
    | false => rw [h] at q; exact q.elim
    | true =>
      rw [h] at q
      obtain ⟨b, ρ2, e2, q⟩ := ev_bind.mpr q
      exact ⟨b, ρ2, by dsimp only; rw [if_pos h]; exact e2, q⟩
def l1Q (j : Nat) (ρ : Env) (f : List D → List D → Option (D × List D)) (ds : List D) (Q : Rs → Env → Prop) : Option (Option Sl) → Prop
  | some (some (.ml t l)) => match f l ds with
    | some (d, l') => Q (.own (.p d)) (ρ.set j (some (.ml t l')))
    | none => False
  | _ => False
def prQ (Q : D → List D → Prop) : Option (D × List D) → Prop
  | some (d, l) => Q d l
  | none => False
@[simp] theorem prQ_s {Q : D → List D → Prop} {d : D} {l : List D} : prQ Q (some (d, l)) = Q d l := rfl
@[simp] theorem prQ_n {Q : D → List D → Prop} : prQ Q none = False := rfl
@[simp] theorem prQ_ite {Q : D → List D → Prop} {c : Prop} [Decidable c] {o : Option (D × List D)} : prQ Q (if c then o else none) ↔ c ∧ prQ Q o := by
  split
  · rename_i h; simp [h]
  · rename_i h; simp [h, prQ]
@[simp] theorem l1Q_ml {j : Nat} {f : List D → List D → Option (D × List D)} {ds : List D} {Q : Rs → Env → Prop} {t : Option Nat} {l : List D} : l1Q j ρ f ds Q (some (some (.ml t l))) = prQ (fun d l' => Q (.own (.p d)) (ρ.set j (some (.ml t l')))) (f l ds) := by
  unfold l1Q prQ
  dsimp only
@[simp ↓] theorem ev_opL1 {f : List D → List D → Option (D × List D)} {j : Nat} {rest : List Rs} {Q : Rs → Env → Prop} : Ev (opL1 f (.bor j :: rest)) ρ Q ↔ Ev (freezeAll rest) ρ fun ds ρ1 => l1Q j ρ1 f ds Q ρ1[j]? := by
  unfold opL1
  rw [ev_bind]
  constructor
  · rintro ⟨ds, ρ1, e, b, ρ2, e2, q⟩
    refine ⟨ds, ρ1, e, ?_⟩
    dsimp only at e2
    split at e2
    · rename_i t l h
      split at e2
      · rename_i d l' h2
        cases e2
        rw [h, l1Q_ml, h2]
        exact q
      · cases e2
    · cases e2
  · rintro ⟨ds, ρ1, e, q⟩
    refine ⟨ds, ρ1, e, ?_⟩
    unfold l1Q at q
    split at q
    · rename_i t l h
      split at q
      · rename_i d l' h2
        exact ⟨_, _, by dsimp only; simp only [h, h2], q⟩
      · exact q.elim
    · exact q.elim
@[simp ↓] theorem ev_pop1 {j : Nat} {rest : List Rs} {Q : Rs → Env → Prop} : Ev (o_pop1 (.bor j :: rest)) ρ Q ↔ Ev (freezeAll rest) ρ fun ds ρ1 => l1Q j ρ1 fPop1 ds Q ρ1[j]? := ev_opL1
@[simp ↓] theorem ev_chain {fa fb fc : M Rs} {op op' : List Rs → M Rs} {Q : Rs → Env → Prop} : Ev (eChain fa fb fc op op') ρ Q ↔ Ev fa ρ fun x ρ1 => Ev fb ρ1 fun y ρ2 => Ev (match y with
  | .own (.p d) => M.bind (mTest (op [x, .own (.p d)])) fun b => if b = true then M.bind fc fun z => op' [.own (.p d), z] else eC (.bool false)
  | _ => M.fail) ρ2 Q := by
  unfold eChain
  rw [ev_bind]
  refine ⟨fun h => h.mono fun x ρ1 q => ev_bind.mp q, fun h => h.mono fun x ρ1 q => ev_bind.mpr q⟩
end
def endQ (ss : List Sl) (Q : Sl → List Sl → Prop) (ρ : Env) : Fl → Prop
  | .rt s => argQ (fun ss' => Q s ss') (endE 0 ss ρ)
  | .nx => argQ (fun ss' => Q (.p .none) ss') (endE 0 ss ρ)
  | _ => False
@[simp ↓] theorem endQ_rt {ss : List Sl} {Q : Sl → List Sl → Prop} {ρ : Env} {s : Sl} : endQ ss Q ρ (.rt s) = argQ (fun ss' => Q s ss') (endE 0 ss ρ) := rfl
@[simp ↓] theorem endQ_nx {ss : List Sl} {Q : Sl → List Sl → Prop} {ρ : Env} : endQ ss Q ρ .nx = argQ (fun ss' => Q (.p .none) ss') (endE 0 ss ρ) := rfl
@[simp] theorem endE_nil {k : Nat} {ρ : Env} : endE k [] ρ = some [] := rfl
@[simp] theorem endE_p {k : Nat} {ρ : Env} {d : D} {r : List Sl} : endE k (.p d :: r) ρ = (endE (k + 1) r ρ).map (.p d :: ·) := rfl
def slotE (k : Nat) (o : Option (List Sl)) : Option (Option Sl) → Option (List Sl)
  | some (some s') => if s'.tag = some k then o.map (s'.bare :: ·) else none
  | _ => none
@[simp] theorem slotE_s {k : Nat} {o : Option (List Sl)} {s' : Sl} : slotE k o (some (some s')) = if s'.tag = some k then o.map (s'.bare :: ·) else none := rfl
@[simp] theorem endE_ml {k : Nat} {ρ : Env} {t : Option Nat} {l : List D} {r : List Sl} : endE k (.ml t l :: r) ρ = slotE k (endE (k + 1) r ρ) ρ[k]? := by
  rw [endE]
  simp only [Sl.isP, Bool.false_eq_true, if_false]
  unfold slotE
  split <;> simp_all
@[simp] theorem endE_md {k : Nat} {ρ : Env} {t : Option Nat} {l : List (Key × D)} {r : List Sl} : endE k (.md t l :: r) ρ = slotE k (endE (k + 1) r ρ) ρ[k]? := by
  rw [endE]
  simp only [Sl.isP, Bool.false_eq_true, if_false]
  unfold slotE
  split <;> simp_all
@[simp] theorem endE_mr {k : Nat} {ρ : Env} {t : Option Nat} {l : List Sl} {r : List Sl} : endE k (.mr t l :: r) ρ = slotE k (endE (k + 1) r ρ) ρ[k]? := by
  rw [endE]
  simp only [Sl.isP, Bool.false_eq_true, if_false]
  unfold slotE
  split <;> simp_all
@[simp] theorem endE_ob {k : Nat} {ρ : Env} {t : Option Nat} {c : Str} {ns : List Str} {l : List Sl} {r : List Sl} : endE k (.ob t c ns l :: r) ρ = slotE k (endE (k + 1) r ρ) ρ[k]? := by
  rw [endE]
  simp only [Sl.isP, Bool.false_eq_true, if_false]
  unfold slotE
  split <;> simp_all
@[simp] theorem endE_ex {k : Nat} {ρ : Env} {c : Str} {f : Option (Str × D)} {r : List Sl} : endE k (.ex c f :: r) ρ = (endE (k + 1) r ρ).map (.ex c f :: ·) := rfl
theorem sp_mkF {m : Nat} {g : M Fl} {ss : List Sl} {Q : Sl → List Sl → Prop} : Sp (mkF m g) ss Q ↔ Ev g (startE m ss) fun fl ρ' => endQ ss Q ρ' fl := by
  constructor
  · rintro ⟨r, ss', e, q⟩
    unfold mkF at e
    split at e
    · rename_i s ρ' h
      cases h2 : endE 0 ss ρ' with
      | none => rw [h2] at e; cases e
      | some t =>
        rw [h2] at e; cases e
        refine ⟨_, ρ', h, ?_⟩
        dsimp only
        rw [endQ_rt, h2]
        exact q
    · rename_i ρ' h
      cases h2 : endE 0 ss ρ' with
      | none => rw [h2] at e; cases e
      | some t =>
        rw [h2] at e; cases e
        refine ⟨_, ρ', h, ?_⟩
        dsimp only
        rw [endQ_nx, h2]
        exact q
    · cases e
  · rintro ⟨fl, ρ', e, q⟩
    cases fl with
    | rt s =>
      rw [endQ_rt] at q
      unfold argQ at q
      split at q
      · rename_i ss' h
        exact ⟨s, ss', by unfold mkF; rw [e]; dsimp only; rw [h]; rfl, q⟩
      · exact q.elim
    | nx =>
      rw [endQ_nx] at q
      unfold argQ at q
      split at q
      · rename_i ss' h
        exact ⟨_, ss', by unfold mkF; rw [e]; dsimp only; rw [h]; rfl, q⟩
      · exact q.elim
    | bk => exact q.elim
    | ct => exact q.elim
@[simp] theorem startE_eq {m : Nat} {ss : List Sl} : startE m ss = (markAll 0 ss).map some ++ List.replicate m none := rfl
@[simp] theorem markAll_nil {k : Nat} : markAll k [] = [] := rfl
@[simp] theorem markAll_cons {k : Nat} {s : Sl} {r : List Sl} : markAll k (s :: r) = s.mark k :: markAll (k + 1) r := rfl
@[simp] theorem rep_z {α : Type} {a : α} : List.replicate 0 a = [] := rfl
@[simp] theorem rep_s {α : Type} {a : α} {n : Nat} : List.replicate (n + 1) a = a :: List.replicate n a := rfl
section
variable {a b i j : Int} {x y : Str} {l m : List D} {d e : D} {p q : Bool}
@[simp] theorem Rd'_rs_pd : (Rd'.pd d).rs = .own (.p d) := rfl
@[simp ↓] theorem oAdd_eq : oAdd = opG pAdd := rfl
@[simp ↓] theorem oSub_eq : oSub = opG pSub := rfl
@[simp ↓] theorem oDiv_eq : oDiv = opG (pInt CDivW fun i j => i / j) := rfl
@[simp ↓] theorem oMod_eq : oMod = opG (pInt (fun _ j => 0 < j) fun i j => i % j) := rfl
@[simp ↓] theorem oEq_eq : oEq = opG pEq := rfl
@[simp ↓] theorem oNe_eq : oNe = opG pNe := rfl
@[simp ↓] theorem oLt_eq : oLt = opG (pCmpI fun i j => decide (i < j)) := rfl
@[simp ↓] theorem oLe_eq : oLe = opG (pCmpI fun i j => decide (i ≤ j)) := rfl
@[simp ↓] theorem oGt_eq : oGt = opG (pCmpI fun i j => decide (j < i)) := rfl
@[simp ↓] theorem oGe_eq : oGe = opG (pCmpI fun i j => decide (j ≤ i)) := rfl
@[simp ↓] theorem oIsn_eq : oIsn = opG pIsn := rfl
@[simp ↓] theorem oIx_eq : oIx = opG pIx := rfl
@[simp ↓] theorem oSl_eq {lo hi : Option Int} : oSl lo hi = opG (pSl lo hi) := rfl
@[simp ↓] theorem oLen_eq : oLen = opG pLen := rfl
@[simp ↓] theorem oSum_eq : oSum = opG pSum := rfl
@[simp ↓] theorem oMax_eq : oMax = opG pMax := rfl
@[simp ↓] theorem oMin_eq : oMin = opG pMin := rfl
@[simp ↓] theorem oInt1_eq : oInt1 = opG pInt1 := rfl
@[simp ↓] theorem oTupOf_eq : oTupOf = opG pTupOf := rfl
@[simp ↓] theorem oNeg_eq : oNeg = opG pNeg := rfl
@[simp ↓] theorem oTup_eq : oTup = opF pTup := rfl
@[simp ↓] theorem oLst_eq : oLst = opF pLst := rfl
@[simp] theorem pAdd_ii : pAdd [.int a, .int b] = some (.pd (.int (a + b))) := rfl
@[simp] theorem pAdd_ss : pAdd [.str x, .str y] = if x.length + y.length ≤ sizeLine then some (.pd (.str (x ++ y))) else none := rfl
@[simp] theorem pAdd_tt : pAdd [.tuple l, .tuple m] = if l.length + m.length ≤ sizeLine then some (.pd (.tuple (l ++ m))) else none := rfl
@[simp] theorem pAdd_ll : pAdd [.list l, .list m] = if l.length + m.length ≤ sizeLine then some (.nl (l ++ m)) else none := rfl
@[simp] theorem pSub_ii : pSub [.int a, .int b] = some (.pd (.int (a - b))) := rfl
@[simp] theorem pInt_ii {C : Int → Int → Prop} [∀ a b, Decidable (C a b)] {f : Int → Int → Int} : pInt C f [.int a, .int b] = if C a b then some (.pd (.int (f a b))) else none := rfl
@[simp] theorem pCmpI_ii {f : Int → Int → Bool} : pCmpI f [.int a, .int b] = some (.pd (.bool (f a b))) := rfl
@[simp] theorem pIsn_n : pIsn [d, .none] = some (.pd (.bool (!isNon d))) := by cases d <;> rfl
@[simp] theorem pIsn_b : pIsn [.bool p, .bool q] = some (.pd (.bool (!decide (p = q)))) := rfl
@[simp] theorem isNon_i : isNon (.int a) = false := rfl
@[simp] theorem isNon_n : isNon .none = true := rfl
@[simp] theorem isNon_s : isNon (.str x) = false := rfl
@[simp] theorem isNon_b : isNon (.bool p) = false := rfl
@[simp] theorem isNon_t : isNon (.tuple l) = false := rfl
@[simp] theorem isNon_l : isNon (.list l) = false := rfl
@[simp] theorem pIx_l : pIx [.list l, .int i] = (atI l i).map .pd := rfl
@[simp] theorem pIx_t : pIx [.tuple l, .int i] = (atI l i).map .pd := rfl
@[simp] theorem pIx_s : pIx [.str x, .int i] = if x.length ≤ sizeLine then (atI x.cps.toList i).map fun c => .pd (.str ⟨#[c]⟩) else none := rfl
@[simp] theorem pSl_l {lo hi : Option Int} : pSl lo hi [.list l] = some (.nl (cutD l lo hi)) := rfl
@[simp] theorem pSl_t {lo hi : Option Int} : pSl lo hi [.tuple l] = some (.pd (.tuple (cutD l lo hi))) := rfl
@[simp] theorem pSl_s {lo hi : Option Int} : pSl lo hi [.str x] = if x.length ≤ sizeLine then some (.pd (.str (cutS x lo hi))) else none := rfl
@[simp] theorem pLen_l : pLen [.list l] = some (.pd (.int l.length)) := rfl
@[simp] theorem pLen_t : pLen [.tuple l] = some (.pd (.int l.length)) := rfl
@[simp] theorem pLen_s : pLen [.str x] = if x.length ≤ sizeLine then some (.pd (.int x.length)) else none := rfl
@[simp] theorem pSum_l : pSum [.list l] = (ints? l).map fun ns => .pd (.int ns.sum) := rfl
@[simp] theorem pSum_t : pSum [.tuple l] = (ints? l).map fun ns => .pd (.int ns.sum) := rfl
@[simp] theorem pMax_l : pMax [.list l] = (ints? l).bind fun ns => if ns = [] then none else some (.pd (.int (maxI ns))) := rfl
@[simp] theorem pMax_ii : pMax [.int i, .int j] = some (.pd (.int (max i j))) := rfl
@[simp] theorem pMin_l : pMin [.list l] = (ints? l).bind fun ns => if ns = [] then none else some (.pd (.int (minI ns))) := rfl
@[simp] theorem pMin_ii : pMin [.int i, .int j] = some (.pd (.int (min i j))) := rfl
@[simp] theorem pInt1_i : pInt1 [.int i] = some (.pd (.int i)) := rfl
@[simp] theorem pInt1_b : pInt1 [.bool p] = some (.pd (.int (if p then 1 else 0))) := rfl
@[simp] theorem pTupOf_l : pTupOf [.list l] = some (.pd (.tuple l)) := rfl
@[simp] theorem pTupOf_t : pTupOf [.tuple l] = some (.pd (.tuple l)) := rfl
@[simp] theorem pNeg_i : pNeg [.int i] = some (.pd (.int (-i))) := rfl
@[simp] theorem pTup_eq : pTup l = if l.length ≤ sizeLine then some (.pd (.tuple l)) else none := rfl
@[simp] theorem pLst_eq : pLst l = if l.length ≤ sizeLine then some (.nl l) else none := rfl
@[simp] theorem pEq_eq : pEq [d, e] = if min d.depth e.depth ≤ 40 then some (.pd (.bool (PyData.eqv d e))) else none := rfl
@[simp] theorem pNe_eq : pNe [d, e] = if min d.depth e.depth ≤ 40 then some (.pd (.bool (!PyData.eqv d e))) else none := rfl
@[simp] theorem dep_i : PyData.depth (.int a) = 0 := rfl
@[simp] theorem dep_s : PyData.depth (.str x) = 0 := rfl
@[simp] theorem dep_b : PyData.depth (.bool p) = 0 := rfl
@[simp] theorem dep_n : PyData.depth .none = 0 := rfl
@[simp] theorem dep_t : PyData.depth (.tuple l) = PyData.depthAll l + 1 := by simp only [PyData.depth]
@[simp] theorem dep_l : PyData.depth (.list l) = PyData.depthAll l + 1 := by simp only [PyData.depth]
@[simp] theorem depA_n : PyData.depthAll [] = 0 := rfl
@[simp] theorem depA_c : PyData.depthAll (d :: l) = max d.depth (PyData.depthAll l) := by simp only [PyData.depthAll]
@[simp] theorem eqv_ii : PyData.eqv (.int a) (.int b) = decide (a = b) := by simp only [PyData.eqv]; exact Bool.beq_eq_decide_eq a b
@[simp] theorem eqv_ss : PyData.eqv (.str x) (.str y) = decide (x = y) := by simp only [PyData.eqv]; exact Bool.beq_eq_decide_eq x y
@[simp] theorem eqv_bb : PyData.eqv (.bool p) (.bool q) = decide (p = q) := by simp only [PyData.eqv]; exact Bool.beq_eq_decide_eq p q
@[simp] theorem eqv_nn : PyData.eqv .none .none = true := by simp only [PyData.eqv]
@[simp] theorem eqv_tt : PyData.eqv (.tuple l) (.tuple m) = PyData.eqvAll l m := by simp only [PyData.eqv]
@[simp] theorem eqv_ll : PyData.eqv (.list l) (.list m) = PyData.eqvAll l m := by simp only [PyData.eqv]
@[simp] theorem eqvA_nn : PyData.eqvAll [] [] = true := by simp only [PyData.eqvAll]
@[simp] theorem eqvA_cc : PyData.eqvAll (d :: l) (e :: m) = (PyData.eqv d e && PyData.eqvAll l m) := by simp only [PyData.eqvAll]
@[simp] theorem eqvA_nc : PyData.eqvAll [] (e :: m) = false := by simp only [PyData.eqvAll]
@[simp] theorem eqvA_cn : PyData.eqvAll (d :: l) [] = false := by simp only [PyData.eqvAll]
@[simp] theorem ints_nil : ints? [] = some [] := rfl
@[simp] theorem ints_cons : ints? (.int i :: l) = (ints? l).map (i :: ·) := rfl
theorem atI_lit {α : Type} {l : List α} {n : Nat} : atI l (@OfNat.ofNat Int n instOfNat) = l[n]? := by
  unfold atI ixN
  have e : (@OfNat.ofNat Int n instOfNat) = (n : Int) := rfl
  rw [e, if_pos (by omega)]
  by_cases h : (n : Int) < (l.length : Int)
  · rw [if_pos h]
    simp
  · rw [if_neg h]
    simp
    omega
@[simp] theorem atI_0 : atI (d :: l) 0 = some d := atI_lit
section
variable {d1 d2 d3 d4 d5 d6 d7 d8 d9 : D}
@[simp] theorem atI_1 : atI (d :: d1 :: l) 1 = some d1 := atI_lit
@[simp] theorem atI_2 : atI (d :: d1 :: d2 :: l) 2 = some d2 := atI_lit
@[simp] theorem atI_3 : atI (d :: d1 :: d2 :: d3 :: l) 3 = some d3 := atI_lit
@[simp] theorem atI_4 : atI (d :: d1 :: d2 :: d3 :: d4 :: l) 4 = some d4 := atI_lit
@[simp] theorem atI_5 : atI (d :: d1 :: d2 :: d3 :: d4 :: d5 :: l) 5 = some d5 := atI_lit
@[simp] theorem atI_6 : atI (d :: d1 :: d2 :: d3 :: d4 :: d5 :: d6 :: l) 6 = some d6 := atI_lit
@[simp] theorem atI_7 : atI (d :: d1 :: d2 :: d3 :: d4 :: d5 :: d6 :: d7 :: l) 7 = some d7 := atI_lit
@[simp] theorem ixN_0 {n : Nat} (h : 0 < n) : ixN n 0 = some 0 := by
  unfold ixN
  rw [if_pos (by omega), if_pos (by omega)]
  rfl
end
theorem ixN_num {n k : Nat} (h : k < n) : ixN n (@OfNat.ofNat Int k instOfNat) = some k := by
  unfold ixN
  have e : (@OfNat.ofNat Int k instOfNat) = (k : Int) := rfl
  rw [e, if_pos (by omega), if_pos (by omega)]
  simp
@[simp] theorem ixN_1 {n : Nat} : ixN (n + 2) 1 = some 1 := ixN_num (Nat.lt_of_lt_of_le (Nat.lt_succ_self 1) (Nat.le_add_left 2 n))
@[simp] theorem ixN_5_0 : ixN 5 0 = some 0 := rfl
@[simp] theorem ixN_5_1 : ixN 5 1 = some 1 := rfl
@[simp] theorem ixN_5_2 : ixN 5 2 = some 2 := rfl
@[simp] theorem ixN_5_3 : ixN 5 3 = some 3 := rfl
@[simp] theorem ixN_5_4 : ixN 5 4 = some 4 := rfl
@[simp] theorem cut_to {l : List D} {k : Nat} : cutD l none (some (no_index (@OfNat.ofNat Int k instOfNat))) = l.take (@OfNat.ofNat Nat k (instOfNatNat k)) := by
  show cutD l none (some (@OfNat.ofNat Int k instOfNat)) = l.take k
  have e : (@OfNat.ofNat Int k instOfNat) = (k : Int) := rfl
  unfold cutD
  rw [HT.sIx_none, e, HT.sIx_nat, List.drop_zero, Nat.sub_zero]
  by_cases h : k ≤ l.length
  · rw [Nat.min_eq_left h]
  · rw [Nat.min_eq_right (by omega), List.take_of_length_le (Nat.le_refl _), List.take_of_length_le (by omega)]
@[simp] theorem ints_map {ns : List Int} : ints? (ns.map .int) = some ns := by
  induction ns with
  | nil => rfl
  | cons n ns ih => rw [List.map_cons, ints_cons, ih]; rfl
@[simp] theorem ixN_lit {n : Nat} {k : Nat} (h : k < n) : ixN n (k : Int) = some k := by
  unfold ixN
  rw [if_pos (by omega), if_pos (by omega)]
  simp
end
theorem cmul {a b : Int} (ha : a.natAbs < 2 ^ 300) (hb : b.natAbs < 2 ^ 300) : CMulW a b := wide_mul ha hb (by decide) (by decide) (by decide)
theorem cdiv {a b : Int} (h0 : 0 < b) (hb : b.natAbs < 2 ^ 300) : CDivW a b := wide_div h0 hb (by decide) (by decide)
@[simp] theorem sizeLine_eq : sizeLine = 16777216 := Nat.le_antisymm (by decide) (by decide)
@[simp ↓] theorem ev_mul {a b : Int} {ρ : Env} {Q : Rs → Env → Prop} : Ev (oMul [.own (.p (.int a)), .own (.p (.int b))]) ρ Q ↔ CMulW a b ∧ Q (.own (.p (.int (a * b)))) ρ := by
  constructor
  · rintro ⟨r, ρ', e, q⟩
    unfold oMul oMulI opG oRep at e
    simp only [viewAll, Rs.view, pInt] at e
    by_cases h : CMulW a b
    · simp only [if_pos h] at e
      cases e
      exact ⟨h, q⟩
    · simp only [if_neg h] at e
      cases e
  · rintro ⟨h, q⟩
    refine ⟨_, ρ, ?_, q⟩
    unfold oMul oMulI opG
    simp only [viewAll, Rs.view, pInt, if_pos h]
    rfl
@[simp ↓] theorem ev_mulL {t : Option Nat} {l : List D} {k : Int} {ρ : Env} {Q : Rs → Env → Prop} : Ev (oMul [.own (.ml t l), .own (.p (.int k))]) ρ Q ↔ (-(2 ^ 63) ≤ k ∧ k < 2 ^ 63 ∧ l.length * k.toNat ≤ sizeLine) ∧ Q (.own (.ml none (List.replicate k.toNat l).flatten)) ρ := by
  constructor
  · rintro ⟨r, ρ', e, q⟩
    unfold oMul oMulI opG oRep at e
    simp only [viewAll, Rs.view, pInt] at e
    split at e
    · rename_i h
      cases e
      exact ⟨h, q⟩
    · cases e
  · rintro ⟨h, q⟩
    refine ⟨_, ρ, ?_, q⟩
    unfold oMul oMulI opG oRep
    simp only [viewAll, Rs.view, pInt, if_pos h]
theorem ev_loop_inv {t : D → Env → Option Env} {body : M Fl} {Q : Fl → Env → Prop} (all : List D) (I : List D → Env → Prop)
    (hs : ∀ done d r ρ, all = done ++ d :: r → I done ρ → envQ (fun ρ1 => Ev body ρ1 fun fl ρ2 => (fl = .nx ∨ fl = .ct) ∧ I (done ++ [d]) ρ2) (t d ρ)) (hd : ∀ ρ', I all ρ' → Q .nx ρ') :
    ∀ (rest done : List D) (ρ : Env), all = done ++ rest → I done ρ → Ev (loopD t body rest) ρ Q
  | [], done, ρ, ha, h0 => by
    unfold loopD
    rw [ev_ret]
    exact hd ρ (by rw [ha]; simpa using h0)
  | d :: r, done, ρ, ha, h0 => by
    have h := hs done d r ρ ha h0
    unfold envQ at h
    split at h
    · rename_i ρ1 e1
      obtain ⟨fl, ρ2, e2, hfl, h2⟩ := h
      obtain ⟨a, ρ3, e3, q⟩ := ev_loop_inv all I hs hd r (done ++ [d]) ρ2 (by rw [ha]; simp) h2
      refine ⟨a, ρ3, ?_, q⟩
      unfold loopD
      simp only [e1, e2]
      rcases hfl with rfl | rfl
      · exact e3
      · exact e3
    · exact h.elim
theorem ev_loop {t : D → Env → Option Env} {body : M Fl} {Q : Fl → Env → Prop} {l : List D} {ρ : Env} (I : List D → Env → Prop) (h0 : I [] ρ)
    (hs : ∀ done d r ρ, l = done ++ d :: r → I done ρ → envQ (fun ρ1 => Ev body ρ1 fun fl ρ2 => (fl = .nx ∨ fl = .ct) ∧ I (done ++ [d]) ρ2) (t d ρ)) (hd : ∀ ρ', I l ρ' → Q .nx ρ') : Ev (loopD t body l) ρ Q :=
  ev_loop_inv l I hs hd l [] ρ rfl h0
@[simp ↓] theorem ev_for {src : M (List D)} {t : D → Env → Option Env} {body : M Fl} {ρ : Env} {Q : Fl → Env → Prop} : Ev (gFor src t body) ρ Q ↔ Ev src ρ fun l ρ1 => Ev (loopD t body l) ρ1 Q := by
  unfold gFor
  exact ev_bind
@[simp ↓] theorem ev_loop_nil {t : D → Env → Option Env} {body : M Fl} {ρ : Env} {Q : Fl → Env → Prop} : Ev (loopD t body []) ρ Q ↔ Q .nx ρ := by
  unfold loopD
  exact ev_ret
def seqQ (ρ : Env) (Q : List D → Env → Prop) : D → Prop
  | .list l => Q l ρ
  | .tuple l => Q l ρ
  | .str z => Q (strSigns z) ρ
  | _ => False
@[simp] theorem seqQ_l {ρ : Env} {Q : List D → Env → Prop} {l : List D} : seqQ ρ Q (.list l) = Q l ρ := rfl
@[simp] theorem seqQ_t {ρ : Env} {Q : List D → Env → Prop} {l : List D} : seqQ ρ Q (.tuple l) = Q l ρ := rfl
@[simp] theorem seqQ_s {ρ : Env} {Q : List D → Env → Prop} {z : Str} : seqQ ρ Q (.str z) = Q (strSigns z) ρ := rfl
@[simp ↓] theorem ev_mSeq {f : M Rs} {ρ : Env} {Q : List D → Env → Prop} : Ev (mSeq f) ρ Q ↔ Ev f ρ fun r ρ1 => Ev (freezeR r) ρ1 fun d ρ2 => seqQ ρ2 Q d := by
  unfold mSeq
  simp only [ev_bind]
  constructor
  · rintro ⟨r, ρ1, e, d, ρ2, e2, b, ρ3, e3, q⟩
    refine ⟨r, ρ1, e, d, ρ2, e2, ?_⟩
    try dsimp only at e3
    split at e3
    · cases e3; exact q
    · cases e3; exact q
    · cases e3; exact q
    · cases e3
  · rintro ⟨r, ρ1, e, d, ρ2, e2, q⟩
    refine ⟨r, ρ1, e, d, ρ2, e2, ?_⟩
    cases d with
    | list l => exact ⟨l, ρ2, rfl, q⟩
    | tuple l => exact ⟨l, ρ2, rfl, q⟩
    | str l => exact ⟨_, ρ2, rfl, q⟩
    | none => exact q.elim
    | bool b => exact q.elim
    | int b => exact q.elim
    | dict b => exact q.elim
def rng1Q (ρ : Env) (Q : List D → Env → Prop) : Option (List D) → Prop
  | some [.int j] => (-(2 ^ 62) ≤ j ∧ j < 2 ^ 62) ∧ Q (rngD 0 j.toNat) ρ
  | _ => False
@[simp] theorem rng1Q_i {ρ : Env} {Q : List D → Env → Prop} {j : Int} : rng1Q ρ Q (some [.int j]) = ((-(2 ^ 62) ≤ j ∧ j < 2 ^ 62) ∧ Q (rngD 0 j.toNat) ρ) := rfl
@[simp ↓] theorem ev_rng1 {f : M (List Rs)} {ρ : Env} {Q : List D → Env → Prop} : Ev (mRng1 f) ρ Q ↔ Ev f ρ fun rs ρ1 => rng1Q ρ1 Q (viewAll rs ρ1) := by
  unfold mRng1
  simp only [ev_bind]
  constructor
  · rintro ⟨r, ρ1, e, b, ρ3, e3, q⟩
    refine ⟨r, ρ1, e, ?_⟩
    try dsimp only at e3
    split at e3
    · rename_i j h
      split at e3
      · rename_i h2; cases e3; rw [h]; exact ⟨h2, q⟩
      · cases e3
    · cases e3
  · rintro ⟨r, ρ1, e, q⟩
    refine ⟨r, ρ1, e, ?_⟩
    unfold rng1Q at q
    split at q
    · rename_i j h
      exact ⟨_, ρ1, by simp only [h]; rw [if_pos q.1], q.2⟩
    · exact q.elim
@[simp ↓] theorem ev_lc {src : M (List D)} {own : List Nat} {t : D → Env → Option Env} {tt : M Bool} {te : M Rs} {ρ : Env} {Q : Rs → Env → Prop} :
    Ev (eLc src own t tt te) ρ Q ↔ Ev src ρ fun l ρ0 => plainAt ρ0 own = true ∧ Ev (compD own t tt te l []) ρ0 fun acc ρ1 => Q (.own (.ml none acc)) (backE ρ0 (wipeE ρ1 own) own) := by
  unfold eLc
  rw [ev_bind]
  constructor
  · rintro ⟨l, ρ1, e, b, ρ2, e2, q⟩
    refine ⟨l, ρ1, e, ?_⟩
    dsimp only at e2
    split at e2
    · rename_i hp
      split at e2
      · rename_i acc ρ3 h; cases e2; exact ⟨hp, acc, ρ3, h, q⟩
      · cases e2
    · cases e2
  · rintro ⟨l, ρ1, e, hp, acc, ρ3, h, q⟩
    exact ⟨l, ρ1, e, _, _, by dsimp only; rw [if_pos hp, h], q⟩
@[simp] theorem wipeE_nil {ρ : Env} : wipeE ρ [] = ρ := rfl
@[simp] theorem wipeE_cons {ρ : Env} {v : Nat} {vs : List Nat} : wipeE ρ (v :: vs) = (wipeE ρ vs).set v none := rfl
@[simp] theorem backE_nil {ρ ρ0 : Env} : backE ρ0 ρ [] = ρ := rfl
@[simp] theorem backE_cons {ρ ρ0 : Env} {v : Nat} {vs : List Nat} : backE ρ0 ρ (v :: vs) = (backE ρ0 ρ vs).set v (ρ0.getD v none) := rfl
def slotP : Option (Option Sl) → Bool
  | some (some (.p _)) => true
  | some none => true
  | _ => false
@[simp] theorem slotP_p {d : D} : slotP (some (some (.p d))) = true := rfl
@[simp] theorem slotP_n : slotP (some none) = true := rfl
@[simp] theorem plainAt_nil {ρ : Env} : plainAt ρ [] = true := rfl
@[simp] theorem plainAt_cons {ρ : Env} {v : Nat} {vs : List Nat} : plainAt ρ (v :: vs) = (slotP ρ[v]? && plainAt ρ vs) := by
  rw [plainAt]
  congr 1
@[simp ↓] theorem ev_yes {ρ : Env} {Q : Bool → Env → Prop} : Ev tYes' ρ Q ↔ Q true ρ := ev_ret
theorem ev_comp_inv {own : List Nat} {t : D → Env → Option Env} {tt : M Bool} {te : M Rs} {Q : List D → Env → Prop} (all : List D) (I : List D → List D → Env → Prop)
    (hs : ∀ done d r acc ρ, all = done ++ d :: r → I done acc ρ → envQ (fun ρ1 => Ev tt ρ1 fun b ρ2 => if b = true then Ev te ρ2 fun r ρ3 => Ev (freezeR r) ρ3 fun y ρ4 => acc.length < sizeLine ∧ I (done ++ [d]) (acc ++ [y]) ρ4 else I (done ++ [d]) acc ρ2) (t d (wipeE ρ own)))
    (hd : ∀ acc ρ', I all acc ρ' → Q acc ρ') : ∀ (rest done acc : List D) (ρ : Env), all = done ++ rest → I done acc ρ → Ev (compD own t tt te rest acc) ρ Q
  | [], done, acc, ρ, ha, h0 => by
    unfold compD
    rw [ev_ret]
    exact hd acc ρ (by rw [ha]; simpa using h0)
  | d :: r, done, acc, ρ, ha, h0 => by
    have h := hs done d r acc ρ ha h0
    unfold envQ at h
    split at h
    · rename_i ρ1 e1
      obtain ⟨b, ρ2, e2, q⟩ := h
      cases b with
      | false =>
        rw [if_neg (by decide)] at q
        obtain ⟨a, ρ3, e3, q3⟩ := ev_comp_inv all I hs hd r (done ++ [d]) acc ρ2 (by rw [ha]; simp) q
        refine ⟨a, ρ3, ?_, q3⟩
        unfold compD
        simp only [e1, e2]
        exact e3
      | true =>
        rw [if_pos rfl] at q
        obtain ⟨rr, ρ3, e3, y, ρ4, e4, hl, q⟩ := q
        obtain ⟨a, ρ5, e5, q5⟩ := ev_comp_inv all I hs hd r (done ++ [d]) (acc ++ [y]) ρ4 (by rw [ha]; simp) q
        refine ⟨a, ρ5, ?_, q5⟩
        unfold compD
        have : M.bind te freezeR ρ2 = some (.ok y ρ4) := by unfold M.bind; simp only [e3, e4]
        simp only [e1, e2, this, if_pos hl]
        exact e5
    · exact h.elim
theorem ev_comp {own : List Nat} {t : D → Env → Option Env} {tt : M Bool} {te : M Rs} {Q : List D → Env → Prop} {l : List D} {ρ : Env} (I : List D → List D → Env → Prop) (h0 : I [] [] ρ)
    (hs : ∀ done d r acc ρ, l = done ++ d :: r → I done acc ρ → envQ (fun ρ1 => Ev tt ρ1 fun b ρ2 => if b = true then Ev te ρ2 fun r ρ3 => Ev (freezeR r) ρ3 fun y ρ4 => acc.length < sizeLine ∧ I (done ++ [d]) (acc ++ [y]) ρ4 else I (done ++ [d]) acc ρ2) (t d (wipeE ρ own)))
    (hd : ∀ acc ρ', I l acc ρ' → Q acc ρ') : Ev (compD own t tt te l []) ρ Q := ev_comp_inv l I hs hd l [] [] ρ rfl h0
end B
end Pd
set_option Elab.async false
set_option linter.all false
set_option maxRecDepth 100000
set_option maxHeartbeats 1000000
namespace Pd
open PySem PySem.Spec PyProof.Rows L2
open B (view_p view_ml slotV slotV_ml slotV_p view_bor viewAll_nil viewAll_cons Sl.tag_p Sl.tag_ml Sl.tag_md Sl.tag_mr Sl.tag_ob Sl.tag_ex Sl.tag_tp Sl.tag_fd Sl.mark_fd Sl.bare_fd Sl.retag_fd Sl.mark_p Sl.mark_ml Sl.mark_md Sl.mark_mr Sl.mark_ob Sl.mark_ex Sl.bare_p Sl.bare_ml Sl.bare_md Sl.bare_mr Sl.bare_ob Sl.bare_ex Sl.retag_p Sl.retag_ml Sl.retag_md Sl.retag_mr Sl.retag_ob Sl.retag_ex tgName_eq tgTup_eq tgNil_eq tgCons_eq argS_nil argS_own argS_bor' bors_nil bors_own bors_bor wb_nil wb_own wb_bor slotT slotT_s tagAt_eq kindOk_l kindOk_s kQ kQ_t endE_nil endE_p slotE slotE_s endE_ml endE_md endE_mr endE_ob endE_ex startE_eq markAll_nil markAll_cons rep_z rep_s Rd'_rs_pd oAdd_eq oSub_eq oDiv_eq oMod_eq oEq_eq oNe_eq oLt_eq oLe_eq oGt_eq oGe_eq oIsn_eq oIx_eq oSl_eq oLen_eq oSum_eq oMax_eq oMin_eq oInt1_eq oTupOf_eq oNeg_eq oTup_eq oLst_eq pAdd_ii pAdd_ss pAdd_tt pAdd_ll pSub_ii pInt_ii pCmpI_ii pIsn_n pIsn_b isNon_i isNon_n isNon_s isNon_b isNon_t isNon_l pIx_l pIx_t pIx_s pSl_l pSl_t pSl_s pLen_l pLen_t pLen_s pSum_l pSum_t pMax_l pMax_ii pMin_l pMin_ii pInt1_i pInt1_b pTupOf_l pTupOf_t pNeg_i pTup_eq pLst_eq pEq_eq pNe_eq dep_i dep_s dep_b dep_n dep_t dep_l depA_n depA_c eqv_ii eqv_ss eqv_bb eqv_nn eqv_tt eqv_ll eqvA_nn eqvA_cc eqvA_nc eqvA_cn ints_nil ints_cons atI_lit atI_0 atI_1 atI_2 atI_3 atI_4 atI_5 atI_6 atI_7 ixN_0 ixN_num ixN_1 ixN_5_0 ixN_5_1 ixN_5_2 ixN_5_3 ixN_5_4 cut_to ints_map ixN_lit cmul cdiv sizeLine_eq wipeE_nil wipeE_cons backE_nil backE_cons slotP slotP_p slotP_n plainAt_nil plainAt_cons)
class Fx {α : Sort u} (q : α) : Type
instance {α : Sort u} (q : α) : Fx q := {}
open PySem PySem.Spec PyProof.Rows L2
def Ev {α : Type} (f : M α) (ρ : Env) (Q : α → Env → Prop) [Fx Q] : Prop := B.Ev f ρ Q
def Sp (F : List Sl → Option (Sl × List Sl)) (ss : List Sl) (Q : Sl → List Sl → Prop) [Fx Q] : Prop := B.Sp F ss Q
theorem Ev.mono {α : Type} {f : M α} {ρ : Env} {Q Q' : α → Env → Prop} (h : Ev f ρ Q) (i : ∀ a ρ', Q a ρ' → Q' a ρ') : Ev f ρ Q' := B.Ev.mono h i
theorem Sp.mono {F : List Sl → Option (Sl × List Sl)} {ss : List Sl} {Q Q' : Sl → List Sl → Prop} (h : Sp F ss Q) (i : ∀ a ρ', Q a ρ' → Q' a ρ') : Sp F ss Q' := B.Sp.mono h i
theorem sp_iff {F : List Sl → Option (Sl × List Sl)} {ss ss' : List Sl} {r : Sl} (h : Sp F ss fun a b => a = r ∧ b = ss') (Q : Sl → List Sl → Prop) : Sp F ss Q ↔ Q r ss' := B.sp_iff h Q
section
variable {α β : Type} {ρ ρ' : Env}
@[simp ↓] theorem ev_bind {f : M α} {g : α → M β} {Q : β → Env → Prop} : Ev (M.bind f g) ρ Q ↔ Ev f ρ fun a ρ1 => Ev (g a) ρ1 Q := B.ev_bind
@[simp ↓] theorem ev_ret {a : α} {Q : α → Env → Prop} : Ev (M.ret a) ρ Q ↔ Q a ρ := B.ev_ret
@[simp ↓] theorem ev_fail {Q : α → Env → Prop} : Ev M.fail ρ Q ↔ False := B.ev_fail
@[simp ↓] theorem ev_c {d : D} {Q : Rs → Env → Prop} : Ev (eC d) ρ Q ↔ Q (.own (.p d)) ρ := B.ev_c
@[simp ↓] theorem ev_bin {fa fb : M Rs} {op : List Rs → M Rs} {Q : Rs → Env → Prop} : Ev (eBin fa fb op) ρ Q ↔ Ev fa ρ fun a ρ1 => Ev fb ρ1 fun b ρ2 => Ev (op [a, b]) ρ2 Q := B.ev_bin
@[simp ↓] theorem ev_un {fa : M Rs} {op : List Rs → M Rs} {Q : Rs → Env → Prop} : Ev (eUn fa op) ρ Q ↔ Ev fa ρ fun a ρ1 => Ev (op [a]) ρ1 Q := B.ev_un
@[simp ↓] theorem ev_aNil {Q : List Rs → Env → Prop} : Ev aNil ρ Q ↔ Q [] ρ := B.ev_aNil
@[simp ↓] theorem ev_aCons {f : M Rs} {g : M (List Rs)} {Q : List Rs → Env → Prop} : Ev (aCons f g) ρ Q ↔ Ev f ρ fun a ρ1 => Ev g ρ1 fun r ρ2 => Q (a :: r) ρ2 := B.ev_aCons
def slotQ (i : Nat) (ρ : Env) (Q : Rs → Env → Prop) [Fx Q] (o0 : Option (Option Sl)) : Prop := B.slotQ i ρ Q o0
@[simp] theorem slotQ_p {i : Nat} {Q : Rs → Env → Prop} {d : D} : slotQ i ρ Q (some (some (.p d))) = Q (.own (.p d)) ρ := B.slotQ_p
@[simp] theorem slotQ_ml {i : Nat} {Q : Rs → Env → Prop} {t : Option Nat} {d : List D} : slotQ i ρ Q (some (some (.ml t d))) = Q (.bor i) ρ := B.slotQ_ml
@[simp] theorem slotQ_md {i : Nat} {Q : Rs → Env → Prop} {t : Option Nat} {d : List (Key × D)} : slotQ i ρ Q (some (some (.md t d))) = Q (.bor i) ρ := B.slotQ_md
@[simp] theorem slotQ_mr {i : Nat} {Q : Rs → Env → Prop} {t : Option Nat} {d : List Sl} : slotQ i ρ Q (some (some (.mr t d))) = Q (.bor i) ρ := B.slotQ_mr
@[simp] theorem slotQ_ob {i : Nat} {Q : Rs → Env → Prop} {t : Option Nat} {c : Str} {ns : List Str} {d : List Sl} : slotQ i ρ Q (some (some (.ob t c ns d))) = Q (.bor i) ρ := B.slotQ_ob
@[simp] theorem slotQ_tp {i : Nat} {Q : Rs → Env → Prop} {d : List Sl} : slotQ i ρ Q (some (some (.tp d))) = Q (.bor i) ρ := B.slotQ_tp
@[simp] theorem slotQ_fd {i : Nat} {Q : Rs → Env → Prop} {l : List (Key × D)} : slotQ i ρ Q (some (some (.fd l))) = Q (.own (.fd l)) ρ := B.slotQ_fd
@[simp] theorem slotQ_ex {i : Nat} {Q : Rs → Env → Prop} {c : Str} {f : Option (Str × D)} : slotQ i ρ Q (some (some (.ex c f))) = Q (.own (.ex c f)) ρ := B.slotQ_ex
@[simp ↓] theorem ev_name {i : Nat} {Q : Rs → Env → Prop} : Ev (eName i) ρ Q ↔ slotQ i ρ Q ρ[i]? := B.ev_name
def resQ (ρ : Env) (Q : Rs → Env → Prop) [Fx Q] (o0 : Option Rd') : Prop := B.resQ ρ Q o0
@[simp] theorem resQ_pd {Q : Rs → Env → Prop} {d : D} : resQ ρ Q (some (.pd d)) = Q (.own (.p d)) ρ := B.resQ_pd
@[simp] theorem resQ_nl {Q : Rs → Env → Prop} {l : List D} : resQ ρ Q (some (.nl l)) = Q (.own (.ml none l)) ρ := B.resQ_nl
@[simp] theorem resQ_none {Q : Rs → Env → Prop} : resQ ρ Q none = False := B.resQ_none
@[simp] theorem resQ_ite {Q : Rs → Env → Prop} {c : Prop} [Decidable c] {o : Option Rd'} : resQ ρ Q (if c then o else none) ↔ c ∧ resQ ρ Q o := B.resQ_ite
@[simp ↓] theorem ev_opG {pf : List D → Option Rd'} {rs : List Rs} {Q : Rs → Env → Prop} : Ev (opG pf rs) ρ Q ↔ resQ ρ Q ((viewAll rs ρ).bind pf) := B.ev_opG
@[simp ↓] theorem ev_opF {pf : List D → Option Rd'} {rs : List Rs} {Q : Rs → Env → Prop} : Ev (opF pf rs) ρ Q ↔ Ev (freezeAll rs) ρ fun ds ρ1 => resQ ρ1 Q (pf ds) := B.ev_opF
@[simp ↓] theorem ev_freezeAll_nil {Q : List D → Env → Prop} : Ev (freezeAll []) ρ Q ↔ Q [] ρ := B.ev_freezeAll_nil
@[simp ↓] theorem ev_freezeAll_cons {r : Rs} {rs : List Rs} {Q : List D → Env → Prop} : Ev (freezeAll (r :: rs)) ρ Q ↔ Ev (freezeR r) ρ fun d ρ1 => Ev (freezeAll rs) ρ1 fun ds ρ2 => Q (d :: ds) ρ2 := B.ev_freezeAll_cons
def testQ (ρ : Env) (Q : Bool → Env → Prop) [Fx Q] (o0 : Option D) : Prop := B.testQ ρ Q o0
@[simp] theorem testQ_b {Q : Bool → Env → Prop} {b : Bool} : testQ ρ Q (some (.bool b)) = Q b ρ := B.testQ_b
@[simp ↓] theorem ev_test {f : M Rs} {Q : Bool → Env → Prop} : Ev (mTest f) ρ Q ↔ Ev f ρ fun r ρ1 => testQ ρ1 Q (r.view ρ1) := B.ev_test
@[simp ↓] theorem ev_and {fa fb : M Rs} {Q : Rs → Env → Prop} : Ev (eAnd fa fb) ρ Q ↔ Ev (mTest fa) ρ fun b ρ1 => if b = true then Ev fb ρ1 Q else Q (.own (.p (.bool false))) ρ1 := B.ev_and
@[simp ↓] theorem ev_tand {c d : M Bool} {Q : Bool → Env → Prop} : Ev (tAnd' c d) ρ Q ↔ Ev c ρ fun b ρ1 => if b = true then Ev d ρ1 Q else Q false ρ1 := B.ev_tand
@[simp ↓] theorem ev_tor {c d : M Bool} {Q : Bool → Env → Prop} : Ev (tOr' c d) ρ Q ↔ Ev c ρ fun b ρ1 => if b = true then Q true ρ1 else Ev d ρ1 Q := B.ev_tor
@[simp ↓] theorem ev_tnot {c : M Bool} {Q : Bool → Env → Prop} : Ev (tNot' c) ρ Q ↔ Ev c ρ fun b ρ1 => Q (!b) ρ1 := B.ev_tnot
def intQ (ρ : Env) (Q : Option Int → Env → Prop) [Fx Q] (o0 : Option D) : Prop := B.intQ ρ Q o0
@[simp] theorem intQ_i {Q : Option Int → Env → Prop} {b : Int} : intQ ρ Q (some (.int b)) = Q (some b) ρ := B.intQ_i
@[simp ↓] theorem ev_mInt {f : M Rs} {Q : Option Int → Env → Prop} : Ev (mInt f) ρ Q ↔ Ev f ρ fun r ρ1 => intQ ρ1 Q (r.view ρ1) := B.ev_mInt
@[simp ↓] theorem ev_mNo {Q : Option Int → Env → Prop} : Ev mNo ρ Q ↔ Q none ρ := B.ev_mNo
@[simp ↓] theorem ev_sl {fe : M Rs} {lo hi : M (Option Int)} {op : Option Int → Option Int → List Rs → M Rs} {Q : Rs → Env → Prop} :
    Ev (eSl fe lo hi op) ρ Q ↔ Ev fe ρ fun r ρ1 => Ev lo ρ1 fun l ρ2 => Ev hi ρ2 fun h ρ3 => Ev (op l h [r]) ρ3 Q := B.ev_sl
def takeQ (i : Nat) (ρ : Env) (Q : Sl → Env → Prop) [Fx Q] (o0 : Option (Option Sl)) : Prop := B.takeQ i ρ Q o0
@[simp] theorem takeQ_s {i : Nat} {Q : Sl → Env → Prop} {s : Sl} : takeQ i ρ Q (some (some s)) = Q s (ρ.set i none) := B.takeQ_s
@[simp ↓] theorem ev_take_own {s : Sl} {Q : Sl → Env → Prop} : Ev (takeR (.own s)) ρ Q ↔ Q s ρ := B.ev_take_own
@[simp ↓] theorem ev_take_bor {i : Nat} {Q : Sl → Env → Prop} : Ev (takeR (.bor i)) ρ Q ↔ takeQ i ρ Q ρ[i]? := B.ev_take_bor
@[simp ↓] theorem ev_gSet {i : Nat} {f : M Rs} {Q : Fl → Env → Prop} : Ev (gSet i f) ρ Q ↔ Ev f ρ fun r ρ1 => Ev (takeR r) ρ1 fun s ρ2 => i < ρ2.length ∧ Q .nx (ρ2.set i (some s)) := B.ev_gSet
@[simp ↓] theorem ev_gRet {f : M Rs} {Q : Fl → Env → Prop} : Ev (gRet f) ρ Q ↔ Ev f ρ fun r ρ1 => Ev (takeR r) ρ1 fun s ρ2 => s.tag = none ∧ Q (.rt s) ρ2 := B.ev_gRet
@[simp ↓] theorem ev_gNext {Q : Fl → Env → Prop} : Ev gNext ρ Q ↔ Q .nx ρ := B.ev_gNext
@[simp ↓] theorem ev_gNever {Q : Fl → Env → Prop} : Ev gNever ρ Q ↔ False := B.ev_gNever
@[simp ↓] theorem ev_gExpr {f : M Rs} {Q : Fl → Env → Prop} : Ev (gExpr f) ρ Q ↔ Ev f ρ fun _ ρ1 => Q .nx ρ1 := B.ev_gExpr
def flQ (g : M Fl) (Q : Fl → Env → Prop) [Fx Q] (ρ : Env) (o0 : Fl) : Prop := B.flQ g Q ρ o0
@[simp ↓] theorem flQ_nx {g : M Fl} {Q : Fl → Env → Prop} : flQ g Q ρ .nx = Ev g ρ Q := B.flQ_nx
@[simp ↓] theorem flQ_bk {g : M Fl} {Q : Fl → Env → Prop} : flQ g Q ρ .bk = Q .bk ρ := B.flQ_bk
@[simp ↓] theorem flQ_ct {g : M Fl} {Q : Fl → Env → Prop} : flQ g Q ρ .ct = Q .ct ρ := B.flQ_ct
@[simp ↓] theorem flQ_rt {g : M Fl} {Q : Fl → Env → Prop} {s : Sl} : flQ g Q ρ (.rt s) = Q (.rt s) ρ := B.flQ_rt
@[simp ↓] theorem ev_gSeq {g1 g2 : M Fl} {Q : Fl → Env → Prop} : Ev (gSeq g1 g2) ρ Q ↔ Ev g1 ρ fun fl ρ1 => flQ g2 Q ρ1 fl := B.ev_gSeq
@[simp ↓] theorem ev_ite {c : Prop} [Decidable c] {f g : M α} {Q : α → Env → Prop} : Ev (if c then f else g) ρ Q ↔ if c then Ev f ρ Q else Ev g ρ Q := B.ev_ite
@[simp ↓] theorem ev_gIf {c : M Bool} {g1 g2 : M Fl} {Q : Fl → Env → Prop} : Ev (gIf c g1 g2) ρ Q ↔ Ev c ρ fun b ρ1 => if b = true then Ev g1 ρ1 Q else Ev g2 ρ1 Q := B.ev_gIf
def envQ (Q : Env → Prop) [Fx Q] (o0 : Option Env) : Prop := B.envQ Q o0
@[simp] theorem envQ_s {Q : Env → Prop} : envQ Q (some ρ) = Q ρ := B.envQ_s
@[simp] theorem envQ_n {Q : Env → Prop} : envQ Q none = False := B.envQ_n
@[simp] theorem envQ_ite {Q : Env → Prop} {c : Prop} [Decidable c] {o : Option Env} : envQ Q (if c then o else none) ↔ c ∧ envQ Q o := B.envQ_ite
@[simp ↓] theorem ev_gAsg {t : D → Env → Option Env} {f : M Rs} {Q : Fl → Env → Prop} : Ev (gAsg t f) ρ Q ↔ Ev f ρ fun r ρ1 => Ev (freezeR r) ρ1 fun d ρ2 => envQ (fun ρ3 => Q .nx ρ3) (t d ρ2) := B.ev_gAsg
@[simp ↓] theorem ev_freeze_p {d : D} {Q : D → Env → Prop} : Ev (freezeR (.own (.p d))) ρ Q ↔ Q d ρ := B.ev_freeze_p
@[simp ↓] theorem ev_freeze_ml {t : Option Nat} {l : List D} {Q : D → Env → Prop} : Ev (freezeR (.own (.ml t l))) ρ Q ↔ Q (.list l) ρ := B.ev_freeze_ml
def freezeQ (i : Nat) (ρ : Env) (Q : D → Env → Prop) [Fx Q] (o0 : Option (Option Sl)) : Prop := B.freezeQ i ρ Q o0
@[simp] theorem freezeQ_ml {i : Nat} {Q : D → Env → Prop} {l : List D} : freezeQ i ρ Q (some (some (.ml none l))) = Q (.list l) (ρ.set i (some (.p (.list l)))) := B.freezeQ_ml
@[simp] theorem freezeQ_p {i : Nat} {Q : D → Env → Prop} {d : D} : freezeQ i ρ Q (some (some (.p d))) = Q d ρ := B.freezeQ_p
@[simp ↓] theorem ev_freeze_bor {i : Nat} {Q : D → Env → Prop} : Ev (freezeR (.bor i)) ρ Q ↔ freezeQ i ρ Q ρ[i]? := B.ev_freeze_bor
def argQ (Q : List Sl → Prop) [Fx Q] (o0 : Option (List Sl)) : Prop := B.argQ Q o0
@[simp] theorem argQ_s {Q : List Sl → Prop} {ss : List Sl} : argQ Q (some ss) = Q ss := B.argQ_s
@[simp] theorem argQ_n {Q : List Sl → Prop} : argQ Q none = False := B.argQ_n
@[simp ↓] theorem ev_opCall {n : Nat} {F : List Sl → Option (Sl × List Sl)} {rs : List Rs} {Q : Rs → Env → Prop} : Ev (opCall n F rs) ρ Q ↔ (rs.length = n ∧ (bors rs).Nodup) ∧ argQ (fun ss => Sp F ss fun r ss' => Q (.own r) (wb rs ss' ρ)) (argS rs ρ) := B.ev_opCall
def ixQ (Q : Nat → Prop) [Fx Q] (o0 : Option Nat) : Prop := B.ixQ Q o0
def subQ (j : Nat) (d : D) (ρ : Env) (Q : Fl → Env → Prop) [Fx Q] (o0 : Option (Option Sl)) (o1 : Option D) : Prop := B.subQ j d ρ Q o0 o1
@[simp] theorem ixQ_s {Q : Nat → Prop} {q : Nat} : ixQ Q (some q) = Q q := B.ixQ_s
@[simp] theorem subQ_ml {j : Nat} {d : D} {Q : Fl → Env → Prop} {t : Option Nat} {l : List D} {k : Int} : subQ j d ρ Q (some (some (.ml t l))) (some (.int k)) = ixQ (fun q => Q .nx (ρ.set j (some (.ml t (l.set q d))))) (ixN l.length k) := B.subQ_ml
@[simp ↓] theorem ev_setSub {j : Nat} {i : Rs} {d : D} {Q : Fl → Env → Prop} : Ev (setSub (.bor j) i d) ρ Q ↔ subQ j d ρ Q ρ[j]? (i.view ρ) := B.ev_setSub
@[simp ↓] theorem ev_gSub {f fo fi : M Rs} {Q : Fl → Env → Prop} : Ev (gSub f fo fi) ρ Q ↔ Ev f ρ fun r ρ1 => Ev (freezeR r) ρ1 fun d ρ2 => Ev fo ρ2 fun o ρ3 => Ev fi ρ3 fun i ρ4 => Ev (setSub o i d) ρ4 Q := B.ev_gSub
@[simp ↓] theorem ev_meth {T : String} {fo : M Rs} {fa : M (List Rs)} {op : List Rs → M Rs} {Q : Rs → Env → Prop} : Ev (eMeth T fo fa op) ρ Q ↔ Ev fo ρ fun o ρ1 => kQ (Ev fa ρ1 fun rs ρ2 => Ev (op (o :: rs)) ρ2 Q) (kindOk T (o.view ρ1)) := B.ev_meth
def l1Q (j : Nat) (ρ : Env) (f : List D → List D → Option (D × List D)) (ds : List D) (Q : Rs → Env → Prop) [Fx Q] (o0 : Option (Option Sl)) : Prop := B.l1Q j ρ f ds Q o0
def prQ (Q : D → List D → Prop) [Fx Q] (o0 : Option (D × List D)) : Prop := B.prQ Q o0
@[simp] theorem prQ_s {Q : D → List D → Prop} {d : D} {l : List D} : prQ Q (some (d, l)) = Q d l := B.prQ_s
@[simp] theorem prQ_n {Q : D → List D → Prop} : prQ Q none = False := B.prQ_n
@[simp] theorem prQ_ite {Q : D → List D → Prop} {c : Prop} [Decidable c] {o : Option (D × List D)} : prQ Q (if c then o else none) ↔ c ∧ prQ Q o := B.prQ_ite
@[simp] theorem l1Q_ml {j : Nat} {f : List D → List D → Option (D × List D)} {ds : List D} {Q : Rs → Env → Prop} {t : Option Nat} {l : List D} : l1Q j ρ f ds Q (some (some (.ml t l))) = prQ (fun d l' => Q (.own (.p d)) (ρ.set j (some (.ml t l')))) (f l ds) := B.l1Q_ml
@[simp ↓] theorem ev_opL1 {f : List D → List D → Option (D × List D)} {j : Nat} {rest : List Rs} {Q : Rs → Env → Prop} : Ev (opL1 f (.bor j :: rest)) ρ Q ↔ Ev (freezeAll rest) ρ fun ds ρ1 => l1Q j ρ1 f ds Q ρ1[j]? := B.ev_opL1
@[simp ↓] theorem ev_pop1 {j : Nat} {rest : List Rs} {Q : Rs → Env → Prop} : Ev (o_pop1 (.bor j :: rest)) ρ Q ↔ Ev (freezeAll rest) ρ fun ds ρ1 => l1Q j ρ1 fPop1 ds Q ρ1[j]? := B.ev_pop1
@[simp ↓] theorem ev_chain {fa fb fc : M Rs} {op op' : List Rs → M Rs} {Q : Rs → Env → Prop} : Ev (eChain fa fb fc op op') ρ Q ↔ Ev fa ρ fun x ρ1 => Ev fb ρ1 fun y ρ2 => Ev (match y with
  | .own (.p d) => M.bind (mTest (op [x, .own (.p d)])) fun b => if b = true then M.bind fc fun z => op' [.own (.p d), z] else eC (.bool false)
  | _ => M.fail) ρ2 Q := B.ev_chain
end
def endQ (ss : List Sl) (Q : Sl → List Sl → Prop) [Fx Q] (ρ : Env) (o0 : Fl) : Prop := B.endQ ss Q ρ o0
@[simp ↓] theorem endQ_rt {ss : List Sl} {Q : Sl → List Sl → Prop} {ρ : Env} {s : Sl} : endQ ss Q ρ (.rt s) = argQ (fun ss' => Q s ss') (endE 0 ss ρ) := B.endQ_rt
@[simp ↓] theorem endQ_nx {ss : List Sl} {Q : Sl → List Sl → Prop} {ρ : Env} : endQ ss Q ρ .nx = argQ (fun ss' => Q (.p .none) ss') (endE 0 ss ρ) := B.endQ_nx
theorem sp_mkF {m : Nat} {g : M Fl} {ss : List Sl} {Q : Sl → List Sl → Prop} : Sp (mkF m g) ss Q ↔ Ev g (startE m ss) fun fl ρ' => endQ ss Q ρ' fl := B.sp_mkF
@[simp ↓] theorem ev_mul {a b : Int} {ρ : Env} {Q : Rs → Env → Prop} : Ev (oMul [.own (.p (.int a)), .own (.p (.int b))]) ρ Q ↔ CMulW a b ∧ Q (.own (.p (.int (a * b)))) ρ := B.ev_mul
@[simp ↓] theorem ev_mulL {t : Option Nat} {l : List D} {k : Int} {ρ : Env} {Q : Rs → Env → Prop} : Ev (oMul [.own (.ml t l), .own (.p (.int k))]) ρ Q ↔ (-(2 ^ 63) ≤ k ∧ k < 2 ^ 63 ∧ l.length * k.toNat ≤ sizeLine) ∧ Q (.own (.ml none (List.replicate k.toNat l).flatten)) ρ := B.ev_mulL
theorem ev_loop_inv {t : D → Env → Option Env} {body : M Fl} {Q : Fl → Env → Prop} (all : List D) (I : List D → Env → Prop)
    (hs : ∀ done d r ρ, all = done ++ d :: r → I done ρ → envQ (fun ρ1 => Ev body ρ1 fun fl ρ2 => (fl = .nx ∨ fl = .ct) ∧ I (done ++ [d]) ρ2) (t d ρ)) (hd : ∀ ρ', I all ρ' → Q .nx ρ') :
    ∀ (rest done : List D) (ρ : Env), all = done ++ rest → I done ρ → Ev (loopD t body rest) ρ Q := B.ev_loop_inv all I hs hd
theorem ev_loop {t : D → Env → Option Env} {body : M Fl} {Q : Fl → Env → Prop} {l : List D} {ρ : Env} (I : List D → Env → Prop) (h0 : I [] ρ)
    (hs : ∀ done d r ρ, l = done ++ d :: r → I done ρ → envQ (fun ρ1 => Ev body ρ1 fun fl ρ2 => (fl = .nx ∨ fl = .ct) ∧ I (done ++ [d]) ρ2) (t d ρ)) (hd : ∀ ρ', I l ρ' → Q .nx ρ') : Ev (loopD t body l) ρ Q := B.ev_loop I h0 hs hd
@[simp ↓] theorem ev_for {src : M (List D)} {t : D → Env → Option Env} {body : M Fl} {ρ : Env} {Q : Fl → Env → Prop} : Ev (gFor src t body) ρ Q ↔ Ev src ρ fun l ρ1 => Ev (loopD t body l) ρ1 Q := B.ev_for
@[simp ↓] theorem ev_loop_nil {t : D → Env → Option Env} {body : M Fl} {ρ : Env} {Q : Fl → Env → Prop} : Ev (loopD t body []) ρ Q ↔ Q .nx ρ := B.ev_loop_nil
def seqQ (ρ : Env) (Q : List D → Env → Prop) [Fx Q] (o0 : D) : Prop := B.seqQ ρ Q o0
@[simp] theorem seqQ_l {ρ : Env} {Q : List D → Env → Prop} {l : List D} : seqQ ρ Q (.list l) = Q l ρ := B.seqQ_l
@[simp] theorem seqQ_t {ρ : Env} {Q : List D → Env → Prop} {l : List D} : seqQ ρ Q (.tuple l) = Q l ρ := B.seqQ_t
@[simp] theorem seqQ_s {ρ : Env} {Q : List D → Env → Prop} {z : Str} : seqQ ρ Q (.str z) = Q (strSigns z) ρ := B.seqQ_s
@[simp ↓] theorem ev_mSeq {f : M Rs} {ρ : Env} {Q : List D → Env → Prop} : Ev (mSeq f) ρ Q ↔ Ev f ρ fun r ρ1 => Ev (freezeR r) ρ1 fun d ρ2 => seqQ ρ2 Q d := B.ev_mSeq
def rng1Q (ρ : Env) (Q : List D → Env → Prop) [Fx Q] (o0 : Option (List D)) : Prop := B.rng1Q ρ Q o0
@[simp] theorem rng1Q_i {ρ : Env} {Q : List D → Env → Prop} {j : Int} : rng1Q ρ Q (some [.int j]) = ((-(2 ^ 62) ≤ j ∧ j < 2 ^ 62) ∧ Q (rngD 0 j.toNat) ρ) := B.rng1Q_i
@[simp ↓] theorem ev_rng1 {f : M (List Rs)} {ρ : Env} {Q : List D → Env → Prop} : Ev (mRng1 f) ρ Q ↔ Ev f ρ fun rs ρ1 => rng1Q ρ1 Q (viewAll rs ρ1) := B.ev_rng1
@[simp ↓] theorem ev_lc {src : M (List D)} {own : List Nat} {t : D → Env → Option Env} {tt : M Bool} {te : M Rs} {ρ : Env} {Q : Rs → Env → Prop} :
    Ev (eLc src own t tt te) ρ Q ↔ Ev src ρ fun l ρ0 => plainAt ρ0 own = true ∧ Ev (compD own t tt te l []) ρ0 fun acc ρ1 => Q (.own (.ml none acc)) (backE ρ0 (wipeE ρ1 own) own) := B.ev_lc
@[simp ↓] theorem ev_yes {ρ : Env} {Q : Bool → Env → Prop} : Ev tYes' ρ Q ↔ Q true ρ := B.ev_yes
theorem ev_comp_inv {own : List Nat} {t : D → Env → Option Env} {tt : M Bool} {te : M Rs} {Q : List D → Env → Prop} (all : List D) (I : List D → List D → Env → Prop)
    (hs : ∀ done d r acc ρ, all = done ++ d :: r → I done acc ρ → envQ (fun ρ1 => Ev tt ρ1 fun b ρ2 => if b = true then Ev te ρ2 fun r ρ3 => Ev (freezeR r) ρ3 fun y ρ4 => acc.length < sizeLine ∧ I (done ++ [d]) (acc ++ [y]) ρ4 else I (done ++ [d]) acc ρ2) (t d (wipeE ρ own)))
    (hd : ∀ acc ρ', I all acc ρ' → Q acc ρ') : ∀ (rest done acc : List D) (ρ : Env), all = done ++ rest → I done acc ρ → Ev (compD own t tt te rest acc) ρ Q := B.ev_comp_inv all I hs hd
theorem ev_comp {own : List Nat} {t : D → Env → Option Env} {tt : M Bool} {te : M Rs} {Q : List D → Env → Prop} {l : List D} {ρ : Env} (I : List D → List D → Env → Prop) (h0 : I [] [] ρ)
    (hs : ∀ done d r acc ρ, l = done ++ d :: r → I done acc ρ → envQ (fun ρ1 => Ev tt ρ1 fun b ρ2 => if b = true then Ev te ρ2 fun r ρ3 => Ev (freezeR r) ρ3 fun y ρ4 => acc.length < sizeLine ∧ I (done ++ [d]) (acc ++ [y]) ρ4 else I (done ++ [d]) acc ρ2) (t d (wipeE ρ own)))
    (hd : ∀ acc ρ', I l acc ρ' → Q acc ρ') : Ev (compD own t tt te l []) ρ Q := B.ev_comp I h0 hs hd
end Pd
set_option Elab.async false
set_option linter.all false
set_option maxRecDepth 100000
set_option maxHeartbeats 1000000
namespace Pd
open PySem PySem.Spec PyProof.Rows L2
theorem jok_new {K : PySem.W.Frag} {B2 H2 : Hp} {T : Addr} {vs : List V} {ds : List D} (s2 : Same B2 H2) (hT : H2 T = none) (hd : DpAll K B2 vs ds) :
    ∃ B3, Fr B2 H2 (fun _ => False) B3 (upd H2 T (.tup vs)) (fun _ => False) ∧ Same B3 (upd H2 T (.tup vs)) ∧ Dp K B3 (.ref T) (.tuple ds) := by
  have fr := Fr.new (o := HO.tup vs) hT s2
  exact ⟨_, fr, same_upd s2, .tup (Or.inl (Or.inl upd_same)) (DpAll.mono fr.bb hd)⟩
def pMulS : List D → Option Rd'
  | [.str z, .int k] => if 0 ≤ k ∧ k ≤ 1000 ∧ z.length ≤ 1000 then some (.pd (.str (PySem.Txt.mul z k))) else none
  | _ => none
theorem mulOk_small {x : Str} {n : Int} (h0 : 0 ≤ n) (h1 : n ≤ 1000) (h2 : x.length ≤ 1000) : PySem.MulOk x n := by
  have hm : (x.length : Int) * n ≤ 1000 * 1000 := Int.mul_le_mul (by omega) h1 h0 (by omega)
  have hn : x.length * n.toNat ≤ 1000 * 1000 := Nat.mul_le_mul h2 (by omega)
  refine ⟨by rw [decide_eq_false (by omega), decide_eq_false (by omega)]; rfl, fun p _ => ?_, fun p _ => ?_⟩
  · have := Int.le_ediv_of_mul_le (a := (x.length : Int)) (b := 2 ^ 63 - 1) (c := n) (by omega) (by omega)
    omega
  · exact decide_eq_false (by have : sizeLine = 16777216 := rfl; omega)
def rMulS : R2 := fun x y H Q => ∃ (z : Str) (k : Int), x = .str z ∧ y = .int k ∧ (0 ≤ k ∧ k ≤ 1000 ∧ z.length ≤ 1000) ∧ Q (.str (PySem.Txt.mul z k)) H
theorem op_mulS {X : Cx} : OpR X (binaryOp .Mult) rMulS := by
  intro pins s σ H x y v u Q I rx ry h
  obtain ⟨i, j, rfl, rfl, hz, q⟩ := h
  obtain ⟨t, rfl⟩ := rx
  obtain ⟨t', rfl⟩ := ry
  refine PySem.SB.mul (mulOk_small hz.1 hz.2.1 hz.2.2) (fun t' tk => ⟨.str _, H, I.tok _, ⟨_, rfl⟩, q⟩)
theorem oMulS_ok {K : PySem.W.Frag} : OpOk K (r2 rMulS) (opG pMulS) := opG_ok fun B H vs ds res Q e hs hp k => by
  unfold pMulS at hp
  split at hp
  · split at hp
    · rename_i hc
      obtain ⟨x, y, rfl, h1, h2⟩ := hs.two
      cases hp
      cases h1
      exact ⟨_, _, rfl, _, _, rfl, h2.int, hc, k.str e⟩
    · cases hp
  · cases hp
def oMul2 : List Rs → M Rs := fun rs ρ => match oMul rs ρ with
  | some x => some x
  | none => opG pMulS rs ρ
abbrev rMul2 : R2 := fun x y H Q => rMulAll x y H Q ∨ rMulS x y H Q
theorem op_mul2 {X : Cx} : OpR X (binaryOp .Mult) rMul2 := OpR.or op_mulAll op_mulS
theorem oMul2_ok {K : PySem.W.Frag} : OpOk K (r2 rMul2) oMul2 := fun vs0 σ B H ρ fs vs rs Ts Q g ok nd r' ρ' e k =>
  r2_or.mpr ((OpOk.or (oMul_ok (K := K)) oMulS_ok) vs0 σ B H ρ fs vs rs Ts Q g ok nd r' ρ' e k)
end Pd
set_option Elab.async false
set_option linter.all false
set_option maxRecDepth 100000
set_option maxHeartbeats 1000000
set_option Elab.async false
set_option linter.all false
set_option maxRecDepth 100000
set_option maxHeartbeats 1000000
set_option Elab.async false
set_option linter.all false
set_option maxRecDepth 100000
set_option maxHeartbeats 1000000
namespace Pd
open PySem PySem.Spec PyProof.Rows L2
namespace B
section
variable {ρ : Env}
@[simp ↓] theorem ev_mul2 {a b : Int} {Q : Rs → Env → Prop} : Ev (oMul2 [.own (.p (.int a)), .own (.p (.int b))]) ρ Q ↔ CMulW a b ∧ Q (.own (.p (.int (a * b)))) ρ := by
  rw [← ev_mul]
  constructor
  · rintro ⟨r, ρ', e, q⟩
    unfold oMul2 at e
    split at e
    · rename_i x h; cases e; exact ⟨r, ρ', h, q⟩
    · cases e
  · rintro ⟨r, ρ', e, q⟩
    exact ⟨r, ρ', by unfold oMul2; rw [e], q⟩
@[simp ↓] theorem ev_mul2L {t : Option Nat} {l : List D} {k : Int} {Q : Rs → Env → Prop} : Ev (oMul2 [.own (.ml t l), .own (.p (.int k))]) ρ Q ↔ (-(2 ^ 63) ≤ k ∧ k < 2 ^ 63 ∧ l.length * k.toNat ≤ sizeLine) ∧ Q (.own (.ml none (List.replicate k.toNat l).flatten)) ρ := by
  rw [← ev_mulL (t := t)]
  constructor
  · rintro ⟨r, ρ', e, q⟩
    unfold oMul2 at e
    split at e
    · rename_i x h; cases e; exact ⟨r, ρ', h, q⟩
    · cases e
  · rintro ⟨r, ρ', e, q⟩
    exact ⟨r, ρ', by unfold oMul2; rw [e], q⟩
@[simp ↓] theorem ev_mul2S {z : Str} {k : Int} {Q : Rs → Env → Prop} : Ev (oMul2 [.own (.p (.str z)), .own (.p (.int k))]) ρ Q ↔ (0 ≤ k ∧ k ≤ 1000 ∧ z.length ≤ 1000) ∧ Q (.own (.p (.str (PySem.Txt.mul z k)))) ρ := by
  have e0 : oMul2 [.own (.p (.str z)), .own (.p (.int k))] ρ = opG pMulS [.own (.p (.str z)), .own (.p (.int k))] ρ := rfl
  unfold Ev
  rw [e0]
  have := ev_opG (pf := pMulS) (rs := [.own (.p (.str z)), .own (.p (.int k))]) (ρ := ρ) (Q := Q)
  refine this.trans ?_
  simp only [viewAll_cons, view_p, viewAll_nil, Option.bind_some]
  unfold pMulS
  rw [resQ_ite, resQ_pd]
theorem ev_comp_nil {own : List Nat} {t : D → Env → Option Env} {tt : M Bool} {te : M Rs} {acc : List D} {Q : List D → Env → Prop} : Ev (compD own t tt te [] acc) ρ Q ↔ Q acc ρ := by
  unfold compD
  exact ev_ret
theorem ev_comp_pure {own : List Nat} {t : D → Env → Option Env} {tt : M Bool} {te : M Rs} {Q : List D → Env → Prop} {α : Type} (f g : α → D) (c : α → Bool) {l : List α} (hn : l.length < sizeLine)
    (hs : ∀ x ∈ l, envQ (fun ρ1 => Ev tt ρ1 fun b ρ2 => b = c x ∧ if b = true then Ev te ρ2 fun r ρ3 => Ev (freezeR r) ρ3 fun y ρ4 => y = g x ∧ wipeE ρ4 own = wipeE ρ own else wipeE ρ2 own = wipeE ρ own) (t (f x) (wipeE ρ own)))
    (hd : ∀ ρ', wipeE ρ' own = wipeE ρ own → Q ((l.filter c).map g) ρ') : Ev (compD own t tt te (l.map f) []) ρ Q := by
  refine ev_comp (fun done acc ρ' => wipeE ρ' own = wipeE ρ own ∧ acc = ((l.take done.length).filter c).map g ∧ done.length ≤ l.length) ⟨rfl, by simp, Nat.zero_le _⟩ ?_ ?_
  · rintro done d r acc ρ1 ha ⟨hw, rfl, hdl⟩
    have hlen := congrArg List.length ha
    simp at hlen
    have hlt : done.length < l.length := by omega
    have hdx : d = f l[done.length] := by
      have : (l.map f)[done.length]? = some d := by rw [ha]; simp
      rw [List.getElem?_map, List.getElem?_eq_getElem hlt] at this
      cases this
      rfl
    subst hdx
    have h := hs _ (List.getElem_mem hlt)
    have htk : l.take (done.length + 1) = l.take done.length ++ [l[done.length]] := by rw [List.take_succ, List.getElem?_eq_getElem hlt]; rfl
    rw [← hw] at h
    unfold envQ at h ⊢
    split at h
    · rename_i ρ2 e2
      obtain ⟨b, ρ3, e3, hb, q⟩ := h
      show Ev tt ρ2 _
      refine ⟨b, ρ3, e3, ?_⟩
      cases b with
      | false =>
        rw [if_neg (by decide)] at q
        try dsimp only
        rw [if_neg (by decide)]
        refine ⟨q.trans hw, ?_, by simp; omega⟩
        rw [List.length_append, List.length_singleton, htk, List.filter_append, List.filter_cons, ← hb]
        simp
      | true =>
        rw [if_pos rfl] at q
        obtain ⟨rr, ρ4, e4, y, ρ5, e5, rfl, q⟩ := q
        try dsimp only
        rw [if_pos rfl]
        refine ⟨rr, ρ4, e4, _, ρ5, e5, ?_, q.trans hw, ?_, by simp; omega⟩
        · have h1 := List.length_filter_le c (l.take done.length)
          have h2 := List.length_take_le done.length l
          rw [List.length_map]
          omega
        · rw [List.length_append, List.length_singleton, htk, List.filter_append, List.filter_cons, ← hb]
          simp
    · exact h.elim
  · rintro acc ρ1 ⟨hw, rfl, _⟩
    rw [List.length_map, List.take_of_length_le (Nat.le_refl _)]
    exact hd ρ1 hw
end
section
variable {d : D} {l : List D}
@[simp] theorem eqvA_ln : PyData.eqvAll l [] = l.isEmpty := by cases l <;> simp
@[simp] theorem rngD_two : rngD 0 2 = [.int 0, .int 1] := rfl
@[simp] theorem rngD_len {a : Int} {n : Nat} : (rngD a n).length = n := by unfold rngD; simp
theorem rngD_at {a : Int} {n : Nat} {done r : List D} {x : D} (h : rngD a n = done ++ x :: r) : x = .int (a + done.length) ∧ done.length < n := by
  have hl := congrArg List.length h
  rw [rngD_len, List.length_append, List.length_cons] at hl
  have : (rngD a n)[done.length]? = some x := by rw [h]; simp
  unfold rngD at this
  rw [List.getElem?_map, List.getElem?_range (by omega)] at this
  cases this
  exact ⟨rfl, by omega⟩
theorem fPop1_of {i : Int} (h0 : 0 ≤ i) (h1 : i < l.length) (h2 : i < 2 ^ 63) : fPop1 l [.int i] = some (l.getD i.toNat .none, l.eraseIdx i.toNat) := by
  have e : ixN l.length i = some i.toNat := by
    unfold ixN
    rw [if_pos h0, if_pos h1]
  unfold fPop1
  dsimp only
  rw [if_pos ⟨by omega, h2⟩, e]
  dsimp only
  rw [List.getD_eq_getElem?_getD, List.getElem?_eq_getElem (by omega)]
  rfl
theorem atI_in {i : Int} (h0 : 0 ≤ i) (h1 : i < l.length) : atI l i = some (l.getD i.toNat .none) := by
  unfold atI ixN
  rw [if_pos h0, if_pos h1, Option.bind_some, List.getD_eq_getElem?_getD, List.getElem?_eq_getElem (by omega)]
  rfl
end
end B
end Pd
set_option Elab.async false
set_option linter.all false
set_option maxRecDepth 100000
set_option maxHeartbeats 1000000
namespace Pd
open PySem PySem.Spec PyProof.Rows L2
open B (eqvA_ln rngD_two rngD_len rngD_at fPop1_of atI_in)
section
variable {ρ : Env}
@[simp ↓] theorem ev_mul2 {a b : Int} {Q : Rs → Env → Prop} : Ev (oMul2 [.own (.p (.int a)), .own (.p (.int b))]) ρ Q ↔ CMulW a b ∧ Q (.own (.p (.int (a * b)))) ρ := B.ev_mul2
@[simp ↓] theorem ev_mul2L {t : Option Nat} {l : List D} {k : Int} {Q : Rs → Env → Prop} : Ev (oMul2 [.own (.ml t l), .own (.p (.int k))]) ρ Q ↔ (-(2 ^ 63) ≤ k ∧ k < 2 ^ 63 ∧ l.length * k.toNat ≤ sizeLine) ∧ Q (.own (.ml none (List.replicate k.toNat l).flatten)) ρ := B.ev_mul2L
@[simp ↓] theorem ev_mul2S {z : Str} {k : Int} {Q : Rs → Env → Prop} : Ev (oMul2 [.own (.p (.str z)), .own (.p (.int k))]) ρ Q ↔ (0 ≤ k ∧ k ≤ 1000 ∧ z.length ≤ 1000) ∧ Q (.own (.p (.str (PySem.Txt.mul z k)))) ρ := B.ev_mul2S
theorem ev_comp_nil {own : List Nat} {t : D → Env → Option Env} {tt : M Bool} {te : M Rs} {acc : List D} {Q : List D → Env → Prop} : Ev (compD own t tt te [] acc) ρ Q ↔ Q acc ρ := B.ev_comp_nil
theorem ev_comp_pure {own : List Nat} {t : D → Env → Option Env} {tt : M Bool} {te : M Rs} {Q : List D → Env → Prop} {α : Type} (f g : α → D) (c : α → Bool) {l : List α} (hn : l.length < sizeLine)
    (hs : ∀ x ∈ l, envQ (fun ρ1 => Ev tt ρ1 fun b ρ2 => b = c x ∧ if b = true then Ev te ρ2 fun r ρ3 => Ev (freezeR r) ρ3 fun y ρ4 => y = g x ∧ wipeE ρ4 own = wipeE ρ own else wipeE ρ2 own = wipeE ρ own) (t (f x) (wipeE ρ own)))
    (hd : ∀ ρ', wipeE ρ' own = wipeE ρ own → Q ((l.filter c).map g) ρ') : Ev (compD own t tt te (l.map f) []) ρ Q := B.ev_comp_pure f g c hn hs hd
end
end Pd
set_option Elab.async false
set_option linter.all false
set_option maxRecDepth 100000
set_option maxHeartbeats 1000000
set_option Elab.async false
set_option linter.all false
set_option maxRecDepth 100000
set_option maxHeartbeats 1000000
set_option Elab.async false
set_option linter.all false
set_option maxRecDepth 100000
set_option maxHeartbeats 1000000
set_option Elab.async false
set_option linter.all false
set_option maxRecDepth 100000
set_option maxHeartbeats 1000000
set_option Elab.async false
set_option linter.all false
set_option maxRecDepth 100000
set_option maxHeartbeats 1000000
set_option Elab.async false
set_option linter.all false
set_option maxRecDepth 100000
set_option maxHeartbeats 1000000
set_option Elab.async false
set_option linter.all false
set_option maxRecDepth 100000
set_option maxHeartbeats 1000000
set_option Elab.async false
set_option linter.all false
set_option maxRecDepth 100000
set_option maxHeartbeats 1000000
set_option Elab.async false
set_option linter.all false
set_option maxRecDepth 100000
set_option maxHeartbeats 1000000
set_option Elab.async false
set_option linter.all false
set_option maxRecDepth 100000
set_option maxHeartbeats 1000000
namespace Pd
open PySem PySem.Spec PyProof.Rows L2
def eFz (f : M Rs) : M Rs := M.bind f fun r => M.bind (freezeR r) fun d => M.ret (.own (.p d))
theorem de_fz {X : Cx} {vs0 : List V} {e : Expr} {f : M Rs} (h : PE X e (rdE X.K vs0 f)) : PE X e (rdE X.K vs0 (eFz f)) := PE.imp h fun σ H Q q => by
  obtain ⟨B, ρ, fs, g, r, ρ', e1, k⟩ := q
  obtain ⟨r1, ρ1, e2, e3⟩ := M.bind_ok e1
  obtain ⟨d, ρ2, e4, e5⟩ := M.bind_ok e3
  cases e5
  refine ⟨B, ρ, fs, g, r1, ρ1, e2, fun v B1 H1 fs1 T1 fr1 g1 ok1 => ?_⟩
  obtain ⟨B2, fs2, fr2, g2, d2⟩ := freezeR_ok g1 ok1 e4
  exact k v B2 H1 fs2 [] ((fr1.trans fr2).weak (fun _ h => h) fun a h => by
    rcases h with h | h
    · exact Or.inl h
    · cases h) g2 ⟨⟨d2, rfl⟩, rfl, fun a ha => nomatch ha⟩
namespace B
@[simp ↓] theorem ev_fz {f : M Rs} {ρ : Env} {Q : Rs → Env → Prop} : Ev (eFz f) ρ Q ↔ Ev f ρ fun r ρ1 => Ev (freezeR r) ρ1 fun d ρ2 => Q (.own (.p d)) ρ2 := by
  unfold eFz
  simp only [ev_bind, ev_ret]
end B
@[simp ↓] theorem ev_fz {f : M Rs} {ρ : Env} {Q : Rs → Env → Prop} : Ev (eFz f) ρ Q ↔ Ev f ρ fun r ρ1 => Ev (freezeR r) ρ1 fun d ρ2 => Q (.own (.p d)) ρ2 := B.ev_fz
end Pd
set_option Elab.async false
set_option linter.all false
set_option maxRecDepth 100000
set_option maxHeartbeats 1000000
namespace Pd
open PySem PySem.Spec PyProof.Rows L2
structure CRg (a b : Int) : Prop where
  ok : RgOk a b
noncomputable instance (a b : Int) : Decidable (CRg a b) := Classical.propDecidable _
end Pd
set_option Elab.async false
set_option linter.all false
set_option maxRecDepth 100000
set_option maxHeartbeats 1000000
set_option Elab.async false
set_option linter.all false
set_option maxRecDepth 100000
set_option maxHeartbeats 1000000
set_option Elab.async false
set_option linter.all false
set_option maxRecDepth 100000
set_option maxHeartbeats 1000000
set_option Elab.async false
set_option linter.all false
set_option maxRecDepth 100000
set_option maxHeartbeats 1000000
set_option Elab.async false
set_option linter.all false
set_option maxRecDepth 100000
set_option maxHeartbeats 1000000
set_option Elab.async false
set_option linter.all false
set_option maxRecDepth 100000
set_option maxHeartbeats 1000000
set_option Elab.async false
set_option linter.all false
set_option maxRecDepth 100000
set_option maxHeartbeats 1000000
set_option Elab.async false
set_option linter.all false
set_option maxRecDepth 100000
set_option maxHeartbeats 1000000
set_option Elab.async false
set_option linter.all false
set_option maxRecDepth 100000
set_option maxHeartbeats 1000000
namespace Pd
open PySem PySem.Spec PyProof.Rows L2
instance (i j : Int) : Decidable (CShl i j) := by unfold CShl; infer_instance
structure CShlS (i j : Int) : Prop where
  h : CShl i j
end Pd
set_option Elab.async false
set_option linter.all false
set_option maxRecDepth 100000
set_option maxHeartbeats 1000000
set_option Elab.async false
set_option linter.all false
set_option maxRecDepth 100000
set_option maxHeartbeats 1000000
set_option Elab.async false
set_option linter.all false
set_option maxRecDepth 100000
set_option maxHeartbeats 1000000
set_option Elab.async false
set_option linter.all false
set_option maxRecDepth 100000
set_option maxHeartbeats 1000000
set_option Elab.async false
set_option linter.all false
set_option maxRecDepth 100000
set_option maxHeartbeats 1000000
namespace Pd
open PySem PySem.Spec PyProof.Rows L2
structure CalleeK (P : Program) (w : World) (K : PySem.W.Frag) (mg : Str → Option Value) (base : Heap) (k : Nat) (x : Str) (n : Nat) (F : List Sl → Option (Sl × List Sl)) (ks : List Str) : Prop where
  ex : ∃ (f : Addr) (fd : FuncData) (ps : List Str), FnOk P w K mg base CX0 k f fd ps (spD K n F) ∧ mg x = some (.ref f) ∧ PySem.W.keepIn K (.ref f) = true ∧ ∀ (s : Shared) (ws : List Value), ws.length = ps.length → BindsTo s fd ⟨[], ks.zip ws⟩ (ps.zip ws)
end Pd
set_option Elab.async false
set_option linter.all false
set_option maxRecDepth 100000
set_option maxHeartbeats 1000000
namespace Pd
open PySem PySem.Spec PyProof.Rows L2
def kOf : D → Option Key
  | .int i => some (.inl i)
  | .str x => some (.inr x)
  | _ => none
def kD : Key → D
  | .inl i => .int i
  | .inr x => .str x
def valD (l : List (Key × D)) (k : Key) : Option D := (l.find? fun kv => decide (kv.1 = k)).map (·.2)
def putD (l : List (Key × D)) (k : Key) (d : D) : List (Key × D) :=
  if (l.any fun kv => decide (kv.1 = k)) = true then l.map (fun kv => if kv.1 = k then (kv.1, d) else kv) else l ++ [(k, d)]
section
variable {K : PySem.W.Frag} {B H : Hp}
theorem kOf_dp {v : V} {d : D} {k : Key} (h : Dp K B v d) (e : kOf d = some k) : v = kV k := by
  cases d with
  | int i => cases e; cases h; rfl
  | str x => cases e; cases h; rfl
  | none => cases e
  | bool b => cases e
  | list l => cases e
  | tuple l => cases e
  | dict l => cases e
theorem kD_dp (k : Key) : Dp K B (kV k) (kD k) := by
  cases k with
  | inl i => exact .int i
  | inr x => exact .str x
theorem KvD.len {ks : List (Key × V)} {l : List (Key × D)} (h : KvD K B ks l) : ks.length = l.length := Paired.length h
theorem KvD.val {ks : List (Key × V)} {l : List (Key × D)} (h : KvD K B ks l) (k : Key) : (valV ks k = none ∧ valD l k = none) ∨ ∃ v d, valV ks k = some v ∧ valD l k = some d ∧ Dp K B v d := by
  unfold KvD at h
  induction h with
  | nil => exact Or.inl ⟨rfl, rfl⟩
  | @cons p q ps qs h t ih =>
    obtain ⟨h1, h2⟩ := h
    by_cases e : p.1 = k
    · refine Or.inr ⟨p.2, q.2, valV_pos e, ?_, h2⟩
      simp [valD, List.find?_cons, ← h1, e]
    · have e' : ¬ q.1 = k := fun z => e (h1.trans z)
      have b : valD (q :: qs) k = valD qs k := by simp [valD, List.find?_cons, e']
      rw [valV_neg e, b]
      exact ih
theorem KvD.any {ks : List (Key × V)} {l : List (Key × D)} (h : KvD K B ks l) (k : Key) : (ks.any fun kv => decide (kv.1 = k)) = l.any fun kv => decide (kv.1 = k) := by
  unfold KvD at h
  induction h with
  | nil => rfl
  | cons h t ih => rw [List.any_cons, List.any_cons, ih, h.1]
theorem KvD.app {ks ks' : List (Key × V)} {l l' : List (Key × D)} (h : KvD K B ks l) (h' : KvD K B ks' l') : KvD K B (ks ++ ks') (l ++ l') := by
  unfold KvD at h ⊢
  induction h with
  | nil => exact h'
  | cons h t ih => exact .cons h ih
theorem KvD.repl {ks : List (Key × V)} {l : List (Key × D)} (h : KvD K B ks l) (k : Key) {v : V} {d : D} (hd : Dp K B v d) :
    KvD K B (ks.map fun kv => if kv.1 = k then (kv.1, v) else kv) (l.map fun kv => if kv.1 = k then (kv.1, d) else kv) := by
  unfold KvD at h ⊢
  induction h with
  | nil => exact .nil
  | @cons p q ps qs h t ih =>
    rw [List.map_cons, List.map_cons]
    refine .cons ?_ ih
    obtain ⟨h1, h2⟩ := h
    by_cases e : p.1 = k
    · rw [if_pos e, if_pos (h1.symm.trans e)]; exact ⟨h1, hd⟩
    · rw [if_neg e, if_neg (fun z => e (h1.trans z))]; exact ⟨h1, h2⟩
theorem KvD.put {ks : List (Key × V)} {l : List (Key × D)} (h : KvD K B ks l) (k : Key) {v : V} {d : D} (hd : Dp K B v d) : KvD K B (putK ks k v) (putD l k d) := by
  unfold putK putD
  rw [h.any k]
  split
  · exact h.repl k hd
  · exact h.app (.cons ⟨rfl, hd⟩ .nil)
end
inductive Vw where
  | d (x : D)
  | m (l : List (Key × D))
def Rs.vw (r : Rs) (ρ : Env) : Option Vw := match r with
  | .own (.md _ l) => some (.m l)
  | .own (.fd l) => some (.m l)
  | .bor i => match ρ[i]? with
    | some (some (.md _ l)) => some (.m l)
    | _ => (Rs.view (.bor i) ρ).map .d
  | r => (r.view ρ).map .d
def ShV (K : PySem.W.Frag) (B H : Hp) (v : V) : Vw → Prop
  | .d x => ShD K B H v x
  | .m l => ∃ a ks, v = .ref a ∧ Rd H a (.dK ks) ∧ KvD K B ks l
def vwAll : List Rs → Env → Option (List Vw)
  | [], _ => some []
  | r :: rs, ρ => match r.vw ρ with
    | some d => match vwAll rs ρ with
      | some ds => some (d :: ds)
      | none => none
    | none => none
def ShVs (K : PySem.W.Frag) (B H : Hp) : List V → List Vw → Prop
  | [], [] => True
  | v :: vs, d :: ds => ShV K B H v d ∧ ShVs K B H vs ds
  | _, _ => False
section
variable {K : PySem.W.Frag} {vs0 : List V} {B H : Hp} {σ : L2.St} {ρ : Env} {fs : Nat → List Addr}
theorem ShVs.one {vs : List V} {a : Vw} (h : ShVs K B H vs [a]) : ∃ x, vs = [x] ∧ ShV K B H x a := by
  match vs, h with
  | [x], h => exact ⟨x, rfl, h.1⟩
theorem ShVs.two {vs : List V} {a b : Vw} (h : ShVs K B H vs [a, b]) : ∃ x y, vs = [x, y] ∧ ShV K B H x a ∧ ShV K B H y b := by
  match vs, h with
  | [x, y], h => exact ⟨x, y, rfl, h.1, h.2.1⟩
theorem vw_d {v : V} {r : Rs} {T : List Addr} {w : Vw} (g : Good K vs0 B H σ ρ fs) (h : RsOk K B H σ fs v r T) (e : (r.view ρ).map Vw.d = some w) : ShV K B H v w := by
  cases e2 : r.view ρ with
  | none => rw [e2] at e; cases e
  | some d => rw [e2] at e; cases e; exact view_ok g h e2
theorem vw_ok {v : V} {r : Rs} {T : List Addr} {w : Vw} (g : Good K vs0 B H σ ρ fs) (h : RsOk K B H σ fs v r T) (e : r.vw ρ = some w) : ShV K B H v w := by
  cases r with
  | own s =>
    cases s with
    | p d' => exact vw_d g h e
    | ml t l => exact vw_d g h e
    | md t l =>
      cases e
      obtain ⟨⟨a, ks, rfl, _, h1, h2⟩, _⟩ := h
      exact ⟨a, ks, rfl, Or.inl h1, h2⟩
    | mr t l => exact vw_d g h e
    | ob t c ns l => exact vw_d g h e
    | ex c f => exact vw_d g h e
    | fd l =>
      cases e
      obtain ⟨⟨⟨a, ks, o, rfl, h1, h2⟩, _⟩, _⟩ := h
      exact ⟨a, ks, rfl, Or.inr ⟨o, g.ext _ _ h1⟩, h2⟩
    | hl t => exact vw_d g h e
    | tp l => exact vw_d g h e
  | lent i s k => exact vw_d g h e
  | bor i =>
    unfold Rs.vw at e
    dsimp only at e
    split at e
    · rename_i t l e2
      cases e
      obtain ⟨v', h1, ⟨a, xs, rfl, _, h2, h3⟩, _⟩ := g.at_ i _ e2
      have hh : σ[i]? = some (some v) ∧ T = [] := h
      rw [h1] at hh
      cases hh.1
      exact ⟨a, xs, rfl, Or.inl h2, h3⟩
    · exact vw_d g h e
theorem vwAll_ok (g : Good K vs0 B H σ ρ fs) : ∀ {vs : List V} {rs : List Rs} {Ts : List (List Addr)} {ds : List Vw}, RsAll K B H σ fs vs rs Ts → vwAll rs ρ = some ds → ShVs K B H vs ds
  | [], [], [], ds, _, e => by cases e; exact True.intro
  | v :: vs, r :: rs, T :: Ts, ds, h, e => by
    unfold vwAll at e
    split at e
    · rename_i d e1
      split at e
      · rename_i ds' e2
        cases e
        exact ⟨vw_ok g h.1 e1, vwAll_ok g h.2 e2⟩
      · cases e
    · cases e
  | [], [], _ :: _, _, g, _ => g.elim
  | [], _ :: _, _, _, g, _ => g.elim
  | _ :: _, [], _, _, g, _ => g.elim
  | _ :: _, _ :: _, [], _, g, _ => g.elim
end
inductive Rd2 where
  | pd (d : D)
  | nl (l : List D)
  | nm (l : List (Key × D))
def Rd2.rs : Rd2 → Rs
  | .pd d => .own (.p d)
  | .nl l => .own (.ml none l)
  | .nm l => .own (.md none l)
def ResV (K : PySem.W.Frag) (B H : Hp) (Q : VK) : Rd2 → Prop
  | .pd d => ∀ v B' H', Fr B H (fun _ => False) B' H' (fun _ => False) → Same B' H' → Dp K B' v d → Q v H'
  | .nl l => ∀ p xs, H p = none → DpAll K B xs l → Q (.ref p) (upd H p (.lst xs))
  | .nm l => ∀ p ks, H p = none → KvD K B ks l → Q (.ref p) (upd H p (.dK ks))
def opV (pf : List Vw → Option Rd2) : List Rs → M Rs := fun rs ρ => match vwAll rs ρ with
  | some ds => match pf ds with
    | some res => some (.ok res.rs ρ)
    | none => none
  | none => none
theorem newOwn_ok {K : PySem.W.Frag} {vs0 : List V} {σ : L2.St} {B H : Hp} {ρ : Env} {fs : Nat → List Addr} {Ts : List Addr} {Q : VK} {s : Sl} {p : Addr} {o : HO} (g : Good K vs0 B H σ ρ fs) (hp : H p = none) (own : Own K B (upd H p o) (.ref p) s [p]) (ht : s.tag = none)
    (k : ∀ v B' H' fs' T, Fr B H (UnF (InF fs) Ts) B' H' (UnF (InF fs') T) → Good K vs0 B' H' σ ρ fs' → RsOk K B' H' σ fs' v (.own s) T → Q v H') : Q (.ref p) (upd H p o) := by
  have fr := Fr.newL (B := B) (o := o) hp
  refine k (.ref p) B _ fs [p] (fr.weak (fun _ f => f.elim) fun a f => ?_) (g.grow fr (fun _ _ f => f) (g.ext.trans fr.sameH)) ⟨own, ht, fun a ha => ?_⟩
  · rcases f with f | f
    · exact Or.inr (Or.inl (Or.inl f))
    · exact Or.inl f
  · simp at ha
    subst ha
    refine ⟨?_, fun i hi => g.lives hi hp⟩
    cases e : B a with
    | none => rfl
    | some u => rw [g.ext a u e] at hp; cases hp
theorem opV_ok {K : PySem.W.Frag} {r : List V → Hp → VK → Prop} {pf : List Vw → Option Rd2} (h : ∀ B H vs ds res Q, Same B H → ShVs K B H vs ds → pf ds = some res → ResV K B H Q res → r vs H Q) : OpOk K r (opV pf) := by
  intro vs0 σ B H ρ fs vs rs Ts Q g ok nd r' ρ' e k
  unfold opV at e
  split at e
  · rename_i ds e1
    split at e
    · rename_i res e2
      cases e
      refine h B H vs ds res Q g.ext (vwAll_ok g ok e1) e2 ?_
      cases res with
      | pd d =>
        intro v B' H' fr ex hd
        refine k v B' H' fs [] (fr.weak (fun _ f => f.elim) fun a f => ?_) (g.grow fr (fun _ _ f => f) ex) ⟨⟨hd, rfl⟩, rfl, fun a ha => nomatch ha⟩
        rcases f with f | f
        · exact Or.inr (Or.inl (Or.inl f))
        · cases f
      | nl l => exact fun p xs hp hd => newOwn_ok (s := .ml none l) g hp ⟨p, xs, rfl, rfl, upd_same, hd⟩ rfl k
      | nm l => exact fun p xs hp hd => newOwn_ok (s := .md none l) g hp ⟨p, xs, rfl, rfl, upd_same, hd⟩ rfl k
    · cases e
  · cases e
section
variable {K : PySem.W.Frag} {B H : Hp} {Q : VK}
theorem ResV.same {d : D} (k : ResV K B H Q (.pd d)) (e : Same B H) {v : V} (h : Dp K B v d) : Q v H := k v B H (Fr.refl B H _) e h
theorem ResV.bool {i : Bool} (k : ResV K B H Q (.pd (.bool i))) (e : Same B H) : Q (.bl i) H := k.same e (.bl i)
end
def eDNew : M Rs := fun ρ => some (.ok (.own (.md none [])) ρ)
theorem de_dnew {X : Cx} {vs0 : List V} {pos : Pos} : PE X (.Dict [] [] pos) (rdE X.K vs0 eDNew) := PE.imp pe_dnewK fun σ H Q q => by
  obtain ⟨B, ρ, fs, g, r, ρ', e1, k⟩ := q
  cases e1
  intro p hp
  exact newOwn_ok (Ts := []) (s := .md none []) g hp ⟨p, [], rfl, rfl, upd_same, .nil⟩ rfl fun v B' H' fs' T fr g' ok => k v B' H' fs' T (Fr.weak fr (fun a h => by
    rcases h with h | h
    · exact h
    · cases h) fun a h => Or.inl h) g' ok
def rIxD : R2 := fun x y H Q => ∃ a v, x = .ref a ∧ DGet H a y (some v) ∧ Q v H
def rInD : R2 := fun x y H Q => ∃ a o, y = .ref a ∧ DGet H a x o ∧ Q (.bl o.isSome) H
def rNiD : R2 := fun x y H Q => ∃ a o, y = .ref a ∧ DGet H a x o ∧ Q (.bl (!o.isSome)) H
section
variable {X : Cx}
theorem ix_dict (hu : X.A.units + 64 < cLine) : IxR X rIxD := by
  intro value slice pins s σ H x y v u Q I rx ry h hs
  obtain ⟨a, z, rfl, g, q⟩ := h
  cases rx
  exact tail_any (dict_typeIs I g) PySem.F.slot_dict_getitem.lookup (d_getItem (by omega) I g ry fun w' s' I' rw' => ⟨z, H, I', rw', q⟩) hs
theorem op_inDd (hu : X.A.units + 64 < cLine) : OpR X (compareOp .In) rInD := by
  intro pins s σ H x y v u Q I rx ry h
  obtain ⟨a, o, rfl, g, q⟩ := h
  cases ry
  exact d_in (by omega) I g rx fun s' I' => ⟨.bl _, H, I', rfl, q⟩
theorem op_niDd (hu : X.A.units + 64 < cLine) : OpR X (compareOp .NotIn) rNiD := by
  intro pins s σ H x y v u Q I rx ry h
  obtain ⟨a, o, rfl, g, q⟩ := h
  cases ry
  exact d_notIn (by omega) I g rx fun s' I' => ⟨.bl _, H, I', rfl, q⟩
end
theorem dgetR {H : Hp} {a : Addr} {kvs : List (Key × V)} {k : Key} (e : Rd H a (.dK kvs)) : DGet H a (kV k) (valV kvs k) := .inl ⟨kvs, k, e, rfl, rfl⟩
def pIxD : List Vw → Option Rd2
  | [.m l, .d y] => match kOf y with
    | some k => match valD l k with
      | some d => some (.pd d)
      | none => none
    | none => none
  | _ => none
def pInD : List Vw → Option Rd2
  | [.d y, .m l] => match kOf y with
    | some k => some (.pd (.bool (valD l k).isSome))
    | none => none
  | _ => none
def pNiD : List Vw → Option Rd2
  | [.d y, .m l] => match kOf y with
    | some k => some (.pd (.bool (!(valD l k).isSome)))
    | none => none
  | _ => none
def oInD := opV pInD
def oNiD := opV pNiD
theorem valD_some {K : PySem.W.Frag} {B : Hp} {ks : List (Key × V)} {l : List (Key × D)} (h : KvD K B ks l) (k : Key) : (valV ks k).isSome = (valD l k).isSome := by
  rcases h.val k with ⟨z1, z2⟩ | ⟨v, d', z1, z2, z3⟩
  · rw [z1, z2]; rfl
  · rw [z1, z2]; rfl
theorem oInD_ok {K : PySem.W.Frag} : OpOk K (r2 rInD) oInD := opV_ok fun B H vs ds res Q e hs hp k => by
  unfold pInD at hp
  split at hp
  · split at hp
    · rename_i kk hk
      cases hp
      obtain ⟨x, y, rfl, h3, ⟨a, ks, rfl, h1, h2⟩⟩ := hs.two
      have e3 := kOf_dp (h3.dp e) hk
      subst e3
      exact ⟨_, _, rfl, a, _, rfl, dgetR h1, by rw [valD_some h2]; exact k.bool e⟩
    · cases hp
  · cases hp
theorem oNiD_ok {K : PySem.W.Frag} : OpOk K (r2 rNiD) oNiD := opV_ok fun B H vs ds res Q e hs hp k => by
  unfold pNiD at hp
  split at hp
  · split at hp
    · rename_i kk hk
      cases hp
      obtain ⟨x, y, rfl, h3, ⟨a, ks, rfl, h1, h2⟩⟩ := hs.two
      have e3 := kOf_dp (h3.dp e) hk
      subst e3
      exact ⟨_, _, rfl, a, _, rfl, dgetR h1, by rw [valD_some h2]; exact k.bool e⟩
    · cases hp
  · cases hp
def putSub (o i : Rs) (d : D) : M Fl := fun ρ => match o with
  | .bor j => match ρ[j]? with
    | some (some (.md t l)) => match i.view ρ with
      | some y => match kOf y with
        | some k => if l.length < sizeLine then some (.ok .nx (ρ.set j (some (.md t (putD l k d))))) else none
        | none => none
      | none => none
    | _ => none
  | _ => none
def gPut (f fo fi : M Rs) : M Fl := M.bind f fun r => M.bind (freezeR r) fun d => M.bind fo fun o => M.bind fi fun i => putSub o i d
theorem ds_put {X : Cx} {vs0 : List V} {e o i : Expr} {f fo fi : M Rs} {pos tpos : Pos} (hu : X.A.units + 64 < cLine) (he : PE X e (rdE X.K vs0 f)) (ho : PE X o (rdE X.K vs0 fo)) (hi : PE X i (rdE X.K vs0 fi))
    (hs : swapsWith e (some (.Subscript o i tpos)) pos.line X.env = pure false := by rfl) :
    PS X (.Assign [.Subscript o i tpos] e pos) (rdS X.K vs0 (gPut f fo fi)) := PS.imp (ps_dput (by omega) ho hi he hs) fun D σ H q => by
  obtain ⟨B, ρ, fs, gd, fl, ρ', e1, k⟩ := q
  obtain ⟨r, ρ1, e2, e3⟩ := M.bind_ok e1
  obtain ⟨d, ρ2, e4, e5⟩ := M.bind_ok e3
  obtain ⟨ro, ρ3, e6, e7⟩ := M.bind_ok e5
  obtain ⟨ri, ρ4, e8, e9⟩ := M.bind_ok e7
  refine ⟨B, ρ, fs, gd, r, ρ1, e2, fun v B1 H1 fs1 T1 fr1 g1 ok1 => ?_⟩
  obtain ⟨B2, fs2, fr2, g2, d2⟩ := freezeR_ok g1 ok1 e4
  refine ⟨B2, ρ2, fs2, g2, ro, ρ3, e6, fun u B3 H3 fs3 T3 fr3 g3 ok3 => ⟨B3, ρ3, fs3, g3, ri, ρ4, e8, fun w B4 H4 fs4 T4 fr4 g4 ok4 => ?_⟩⟩
  unfold putSub at e9
  cases ro with
  | own s => cases e9
  | lent _ _ _ => cases e9
  | bor j =>
  dsimp only at e9
  split at e9
  · rename_i t l e10
    split at e9
    · rename_i y e11
      split at e9
      · rename_i kk e12
        split at e9
        · rename_i hsz
          cases e9
          obtain ⟨v', q1, ⟨a, ks, rfl, hfs, q2, q3⟩, _⟩ := g4.at_ j _ e10
          obtain ⟨z1, z2⟩ := ok3
          rw [q1] at z1
          cases z1
          have ew := kOf_dp ((view_ok g4 ok4 e11).dp g4.ext) e12
          subst ew
          refine ⟨a, _, rfl, DPut.k q2 (by rw [q3.len]; exact hsz), ?_⟩
          have dv : Dp X.K B4 v d := Dp.mono ((fr3.bb).trans fr4.bb) d2
          have g5 := g4.upd (o := HO.dK (putK ks kk v)) (s' := .md t (putD l kk d)) e10 hfs q1 ⟨a, _, rfl, rfl, upd_same, q3.put kk dv⟩ rfl
          refine k σ B4 _ fs4 ((fr1.trans fr2).trans (((fr_drop fr3).trans (fr_drop fr4)).trans (Fr.updIn ⟨j, by rw [hfs]; simp⟩))) g5
        · cases e9
      · cases e9
    · cases e9
  · cases e9
def hitsD (lb : List (Key × D)) : List (Key × D) → Bool
  | [] => true
  | p :: r => match valD lb p.1 with
    | none => false
    | some e => PyData.eqv p.2 e && hitsD lb r
def eqD (la lb : List (Key × D)) : Bool := la.length == lb.length && hitsD lb la
def shal (l : List (Key × D)) : Bool := l.all fun p => decide (p.2.depth ≤ 40)
def rNeD (K : PySem.W.Frag) : R2 := fun x y H Q => ∃ a b ka kb la lb, x = .ref a ∧ y = .ref b ∧ Rd H a (.dK ka) ∧ Rd H b (.dK kb) ∧ KvD K H ka la ∧ KvD K H kb lb ∧ shal la = true ∧ Q (.bl (!eqD la lb)) H
section
variable {X : Cx} {pins : List (Addr × Obj)} {σ : L2.St} {H : Hp} {s : Shared}
theorem relO_none {u : Option Value} (h : RelO none u) : u = none := by
  cases u with
  | none => rfl
  | some _ => exact (show False from h).elim
theorem relO_some {v : V} {u : Option Value} (h : RelO (some v) u) : ∃ w, u = some w ∧ RelV v w := by
  cases u with
  | none => exact (show False from h).elim
  | some w => exact ⟨w, rfl, h⟩
theorem hits_of (I : Inv X pins σ H s) {A : Around} (hu : A.units + 40 < cLine) {kb : List (Key × V)} {lb : List (Key × D)} {vb : List (Key × Value)} (hb : KvD X.K H kb lb) (rb : KV kb vb) :
    ∀ {la : List (Key × D)} {ka : List (Key × V)} {va : List (Key × Value)}, KvD X.K H ka la → KV ka va → shal la = true → PySem.W.KeqHits A s vb va (hitsD lb la)
  | [], ka, va, h, r, _ => by
    unfold KvD at h
    cases h
    unfold KV at r
    cases r
    exact .nil
  | p :: la, ka, va, h, r, hs => by
    unfold KvD at h
    cases h with
    | @cons q _ ks _ h1 h2 =>
    unfold KV at r
    cases r with
    | @cons _ w _ ws r1 r2 =>
    obtain ⟨k, v⟩ := w
    obtain ⟨e1, d1⟩ := h1
    obtain ⟨e2, rv⟩ := r1
    have ek : p.1 = k := e1.symm.trans e2
    have hs' : p.2.depth ≤ 40 ∧ shal la = true := by
      unfold shal at hs ⊢
      rw [List.all_cons, Bool.and_eq_true] at hs
      exact ⟨of_decide_eq_true hs.1, hs.2⟩
    have ih := hits_of I hu hb rb h2 r2 hs'.2
    have rr := rb.val k
    unfold hitsD
    rw [ek]
    rcases hb.val k with ⟨z1, z2⟩ | ⟨v', d', z1, z2, z3⟩
    · rw [z2]
      rw [z1] at rr
      exact .miss (relO_none rr)
    · rw [z2]
      rw [z1] at rr
      obtain ⟨y, hy, ry⟩ := relO_some rr
      obtain ⟨as, ra⟩ := Dp.reads I _ _ _ d1 rv
      obtain ⟨bs, rb'⟩ := Dp.reads I _ _ _ z3 ry
      exact .hit hy (SeqAt.eqAt_plain _ _ _ _ _ _ _ _ ra rb' (Dp.plain d1) (Dp.plain z3) (by
        have := hs'.1
        have := Nat.min_le_left p.2.depth d'.depth
        omega)) ih
theorem op_neDd (hu : X.A.units + 64 < cLine) : OpR X (compareOp .NotEq) (rNeD X.K) := by
  intro pins s σ H x y v u Q I rx ry h
  obtain ⟨a, b, ka, kb, la, lb, rfl, rfl, h1, h2, k1, k2, hs, q⟩ := h
  cases rx
  cases ry
  obtain ⟨_, ya, va, ra, da⟩ := dk_rd I.hok h1
  obtain ⟨_, yb, vb, rb, db⟩ := dk_rd I.hok h2
  refine PySem.W.keq_ne (knd := mixKind X.prog X.w) (r := hitsD lb la) ya yb da db (by omega) (fun _ => hits_of I (A := X.A.in1) (by show X.A.units + 1 + 40 < cLine; omega) k2 rb k1 ra hs) ⟨.bl _, H, I, rfl, ?_⟩
  have e : (va.length == vb.length && hitsD lb la) = eqD la lb := by
    unfold eqD
    rw [← ra.length, ← rb.length, k1.len, k2.len]
  rw [e]
  exact q
end
def pNeD : List Vw → Option Rd2
  | [.m a, .m b] => if shal a = true then some (.pd (.bool (!eqD a b))) else none
  | _ => none
def oNeD := opV pNeD
theorem oNeD_ok {K : PySem.W.Frag} : OpOk K (r2 (rNeD K)) oNeD := opV_ok fun B H vs ds res Q e hs hp k => by
  unfold pNeD at hp
  split at hp
  · split at hp
    · rename_i h
      cases hp
      obtain ⟨x, y, rfl, ⟨a, ka, rfl, h1, h2⟩, ⟨b, kb, rfl, h3, h4⟩⟩ := hs.two
      exact ⟨_, _, rfl, a, b, ka, kb, _, _, rfl, rfl, h1, h3, h2.mono e, h4.mono e, h, k.bool e⟩
    · cases hp
  · cases hp
end Pd
set_option Elab.async false
set_option linter.all false
set_option maxRecDepth 100000
set_option maxHeartbeats 1000000
namespace Pd
open PySem PySem.Spec PyProof.Rows L2
namespace B
section
variable {ρ : Env}
@[simp ↓] theorem ev_dnew {Q : Rs → Env → Prop} : Ev eDNew ρ Q ↔ Q (.own (.md none [])) ρ := by
  constructor
  · rintro ⟨a', ρ', e, q⟩; cases e; exact q
  · intro q; exact ⟨_, ρ, rfl, q⟩
def slotW : Option (Option Sl) → Option Vw
  | some (some (.md _ l)) => some (.m l)
  | some (some (.ml _ l)) => some (.d (.list l))
  | some (some (.p d)) => some (.d d)
  | _ => none
@[simp] theorem slotW_md {t : Option Nat} {l : List (Key × D)} : slotW (some (some (.md t l))) = some (.m l) := rfl
@[simp] theorem slotW_ml {t : Option Nat} {l : List D} : slotW (some (some (.ml t l))) = some (.d (.list l)) := rfl
@[simp] theorem slotW_p {d : D} : slotW (some (some (.p d))) = some (.d d) := rfl
@[simp] theorem vw_p {d : D} : (Rs.own (.p d)).vw ρ = some (.d d) := rfl
@[simp] theorem vw_ml {t : Option Nat} {l : List D} : (Rs.own (.ml t l)).vw ρ = some (.d (.list l)) := rfl
@[simp] theorem vw_md {t : Option Nat} {l : List (Key × D)} : (Rs.own (.md t l)).vw ρ = some (.m l) := rfl
@[simp] theorem vw_bor {i : Nat} : (Rs.bor i).vw ρ = slotW ρ[i]? := by
  unfold Rs.vw Rs.view slotW
  dsimp only
  split
  · rename_i h; rw [h]
  · rename_i h
    split
    · rename_i h2; rw [h2]; rfl
    · rename_i h2; rw [h2]; rfl
    · rename_i h2 h3
      split
      · rename_i h4; exact absurd h4 (h _ _)
      · rename_i h4; exact absurd h4 (h2 _ _)
      · rename_i h4; exact absurd h4 (h3 _)
      · rfl
@[simp] theorem vwAll_nil : vwAll [] ρ = some [] := rfl
@[simp] theorem vwAll_cons {r : Rs} {rs : List Rs} : vwAll (r :: rs) ρ = (r.vw ρ).bind fun d => (vwAll rs ρ).bind fun ds => some (d :: ds) := by
  rw [vwAll]
  cases r.vw ρ with
  | none => rfl
  | some d =>
    cases vwAll rs ρ with
    | none => rfl
    | some ds => rfl
def resW (ρ : Env) (Q : Rs → Env → Prop) : Option Rd2 → Prop
  | some res => Q res.rs ρ
  | none => False
@[simp] theorem resW_pd {Q : Rs → Env → Prop} {d : D} : resW ρ Q (some (.pd d)) = Q (.own (.p d)) ρ := rfl
@[simp] theorem resW_nl {Q : Rs → Env → Prop} {l : List D} : resW ρ Q (some (.nl l)) = Q (.own (.ml none l)) ρ := rfl
@[simp] theorem resW_nm {Q : Rs → Env → Prop} {l : List (Key × D)} : resW ρ Q (some (.nm l)) = Q (.own (.md none l)) ρ := rfl
@[simp] theorem resW_none {Q : Rs → Env → Prop} : resW ρ Q none = False := rfl
@[simp] theorem resW_ite {Q : Rs → Env → Prop} {c : Prop} [Decidable c] {o : Option Rd2} : resW ρ Q (if c then o else none) ↔ c ∧ resW ρ Q o := by
  split
  · rename_i h; simp [h]
  · rename_i h; simp [h, resW]
@[simp] theorem resW_mpd {Q : Rs → Env → Prop} {o : Option D} : resW ρ Q (o.map .pd) ↔ ∃ d, o = some d ∧ Q (.own (.p d)) ρ := by
  cases o with
  | none => simp
  | some d => simp
@[simp] theorem resW_mnm {Q : Rs → Env → Prop} {o : Option (List (Key × D))} : resW ρ Q (o.map .nm) ↔ ∃ d, o = some d ∧ Q (.own (.md none d)) ρ := by
  cases o with
  | none => simp
  | some d => simp
@[simp ↓] theorem ev_opV {pf : List Vw → Option Rd2} {rs : List Rs} {Q : Rs → Env → Prop} : Ev (opV pf rs) ρ Q ↔ resW ρ Q ((vwAll rs ρ).bind pf) := by
  constructor
  · rintro ⟨a', ρ', e, q⟩
    unfold opV at e
    split at e
    · rename_i ds h
      split at e
      · rename_i res h2; cases e; rw [h, Option.bind_some, h2]; exact q
      · cases e
    · cases e
  · intro q
    unfold resW at q
    split at q
    · rename_i res h
      rw [Option.bind_eq_some_iff] at h
      obtain ⟨ds, h1, h2⟩ := h
      exact ⟨_, ρ, by unfold opV; simp only [h1, h2], q⟩
    · exact q.elim
@[simp ↓] theorem oInD_eq : oInD = opV pInD := rfl
@[simp ↓] theorem oNiD_eq : oNiD = opV pNiD := rfl
@[simp ↓] theorem oNeD_eq : oNeD = opV pNeD := rfl
@[simp] theorem pIxD_s {l : List (Key × D)} {x : Str} : pIxD [.m l, .d (.str x)] = (valD l (.inr x)).map .pd := by
  unfold pIxD kOf
  dsimp only
  cases valD l (.inr x) <;> rfl
@[simp] theorem pIxD_i {l : List (Key × D)} {x : Int} : pIxD [.m l, .d (.int x)] = (valD l (.inl x)).map .pd := by
  unfold pIxD kOf
  dsimp only
  cases valD l (.inl x) <;> rfl
@[simp] theorem pInD_s {l : List (Key × D)} {x : Str} : pInD [.d (.str x), .m l] = some (.pd (.bool (valD l (.inr x)).isSome)) := rfl
@[simp] theorem pInD_i {l : List (Key × D)} {x : Int} : pInD [.d (.int x), .m l] = some (.pd (.bool (valD l (.inl x)).isSome)) := rfl
@[simp] theorem pNiD_s {l : List (Key × D)} {x : Str} : pNiD [.d (.str x), .m l] = some (.pd (.bool (!(valD l (.inr x)).isSome))) := rfl
@[simp] theorem pNiD_i {l : List (Key × D)} {x : Int} : pNiD [.d (.int x), .m l] = some (.pd (.bool (!(valD l (.inl x)).isSome))) := rfl
@[simp] theorem pNeD_m {a b : List (Key × D)} : pNeD [.m a, .m b] = if shal a = true then some (.pd (.bool (!eqD a b))) else none := rfl
def putQ (j : Nat) (d : D) (ρ : Env) (Q : Fl → Env → Prop) : Option (Option Sl) → Option D → Prop
  | some (some (.md t l)), some (.str x) => l.length < sizeLine ∧ Q .nx (ρ.set j (some (.md t (putD l (.inr x) d))))
  | some (some (.md t l)), some (.int x) => l.length < sizeLine ∧ Q .nx (ρ.set j (some (.md t (putD l (.inl x) d))))
  | _, _ => False
@[simp] theorem putQ_s {j : Nat} {d : D} {t : Option Nat} {l : List (Key × D)} {x : Str} {Q : Fl → Env → Prop} : putQ j d ρ Q (some (some (.md t l))) (some (.str x)) = (l.length < sizeLine ∧ Q .nx (ρ.set j (some (.md t (putD l (.inr x) d))))) := rfl
@[simp] theorem putQ_i {j : Nat} {d : D} {t : Option Nat} {l : List (Key × D)} {x : Int} {Q : Fl → Env → Prop} : putQ j d ρ Q (some (some (.md t l))) (some (.int x)) = (l.length < sizeLine ∧ Q .nx (ρ.set j (some (.md t (putD l (.inl x) d))))) := rfl
@[simp ↓] theorem ev_putSub {j : Nat} {i : Rs} {d : D} {Q : Fl → Env → Prop} : Ev (putSub (.bor j) i d) ρ Q ↔ putQ j d ρ Q ρ[j]? (i.view ρ) := by
  constructor
  · rintro ⟨a', ρ', e, q⟩
    unfold putSub at e
    dsimp only at e
    split at e
    · rename_i t l h1
      split at e
      · rename_i y h2
        split at e
        · rename_i k h3
          split at e
          · rename_i h4
            cases e
            rw [h1, h2]
            cases y with
            | int x => cases h3; exact ⟨h4, q⟩
            | str x => cases h3; exact ⟨h4, q⟩
            | none => cases h3
            | bool x => cases h3
            | list x => cases h3
            | tuple x => cases h3
            | dict x => cases h3
          · cases e
        · cases e
      · cases e
    · cases e
  · intro q
    unfold putQ at q
    split at q
    · rename_i t l x h1 h2
      exact ⟨.nx, _, by unfold putSub; simp only [h1, h2, kOf, if_pos q.1], q.2⟩
    · rename_i t l x h1 h2
      exact ⟨.nx, _, by unfold putSub; simp only [h1, h2, kOf, if_pos q.1], q.2⟩
    · exact q.elim
@[simp ↓] theorem ev_gPut {f fo fi : M Rs} {Q : Fl → Env → Prop} : Ev (gPut f fo fi) ρ Q ↔ Ev f ρ fun r ρ1 => Ev (freezeR r) ρ1 fun d ρ2 => Ev fo ρ2 fun o ρ3 => Ev fi ρ3 fun i ρ4 => Ev (putSub o i d) ρ4 Q := by
  unfold gPut
  simp only [ev_bind]
end
end B
end Pd
set_option Elab.async false
set_option linter.all false
set_option maxRecDepth 100000
set_option maxHeartbeats 1000000
namespace Pd
open PySem PySem.Spec PyProof.Rows L2
open B (slotW slotW_md slotW_ml slotW_p vw_p vw_ml vw_md vw_bor vwAll_nil vwAll_cons oInD_eq oNiD_eq oNeD_eq pIxD_s pIxD_i pInD_s pInD_i pNiD_s pNiD_i pNeD_m)
section
variable {ρ : Env}
@[simp ↓] theorem ev_dnew {Q : Rs → Env → Prop} : Ev eDNew ρ Q ↔ Q (.own (.md none [])) ρ := B.ev_dnew
def resW (ρ : Env) (Q : Rs → Env → Prop) [Fx Q] (o0 : Option Rd2) : Prop := B.resW ρ Q o0
@[simp] theorem resW_pd {Q : Rs → Env → Prop} {d : D} : resW ρ Q (some (.pd d)) = Q (.own (.p d)) ρ := B.resW_pd
@[simp] theorem resW_nl {Q : Rs → Env → Prop} {l : List D} : resW ρ Q (some (.nl l)) = Q (.own (.ml none l)) ρ := B.resW_nl
@[simp] theorem resW_nm {Q : Rs → Env → Prop} {l : List (Key × D)} : resW ρ Q (some (.nm l)) = Q (.own (.md none l)) ρ := B.resW_nm
@[simp] theorem resW_none {Q : Rs → Env → Prop} : resW ρ Q none = False := B.resW_none
@[simp] theorem resW_ite {Q : Rs → Env → Prop} {c : Prop} [Decidable c] {o : Option Rd2} : resW ρ Q (if c then o else none) ↔ c ∧ resW ρ Q o := B.resW_ite
@[simp] theorem resW_mpd {Q : Rs → Env → Prop} {o : Option D} : resW ρ Q (o.map .pd) ↔ ∃ d, o = some d ∧ Q (.own (.p d)) ρ := B.resW_mpd
@[simp] theorem resW_mnm {Q : Rs → Env → Prop} {o : Option (List (Key × D))} : resW ρ Q (o.map .nm) ↔ ∃ d, o = some d ∧ Q (.own (.md none d)) ρ := B.resW_mnm
@[simp ↓] theorem ev_opV {pf : List Vw → Option Rd2} {rs : List Rs} {Q : Rs → Env → Prop} : Ev (opV pf rs) ρ Q ↔ resW ρ Q ((vwAll rs ρ).bind pf) := B.ev_opV
def putQ (j : Nat) (d : D) (ρ : Env) (Q : Fl → Env → Prop) [Fx Q] (o0 : Option (Option Sl)) (o1 : Option D) : Prop := B.putQ j d ρ Q o0 o1
@[simp] theorem putQ_s {j : Nat} {d : D} {t : Option Nat} {l : List (Key × D)} {x : Str} {Q : Fl → Env → Prop} : putQ j d ρ Q (some (some (.md t l))) (some (.str x)) = (l.length < sizeLine ∧ Q .nx (ρ.set j (some (.md t (putD l (.inr x) d))))) := B.putQ_s
@[simp] theorem putQ_i {j : Nat} {d : D} {t : Option Nat} {l : List (Key × D)} {x : Int} {Q : Fl → Env → Prop} : putQ j d ρ Q (some (some (.md t l))) (some (.int x)) = (l.length < sizeLine ∧ Q .nx (ρ.set j (some (.md t (putD l (.inl x) d))))) := B.putQ_i
@[simp ↓] theorem ev_putSub {j : Nat} {i : Rs} {d : D} {Q : Fl → Env → Prop} : Ev (putSub (.bor j) i d) ρ Q ↔ putQ j d ρ Q ρ[j]? (i.view ρ) := B.ev_putSub
@[simp ↓] theorem ev_gPut {f fo fi : M Rs} {Q : Fl → Env → Prop} : Ev (gPut f fo fi) ρ Q ↔ Ev f ρ fun r ρ1 => Ev (freezeR r) ρ1 fun d ρ2 => Ev fo ρ2 fun o ρ3 => Ev fi ρ3 fun i ρ4 => Ev (putSub o i d) ρ4 Q := B.ev_gPut
end
end Pd
set_option Elab.async false
set_option linter.all false
set_option maxRecDepth 100000
set_option maxHeartbeats 1000000
set_option Elab.async false
set_option linter.all false
set_option maxRecDepth 100000
set_option maxHeartbeats 1000000
namespace Pd
open PySem PySem.Spec PyProof.Rows L2
namespace B
@[simp] theorem resQ_mbool {ρ : Env} {Q : Rs → Env → Prop} {o : Option (List Bool)} : resQ ρ Q (o.map fun bs => .pd (.bool (bs.all id))) ↔ ∃ bs, o = some bs ∧ Q (.own (.p (.bool (bs.all id)))) ρ := by
  cases o with
  | none => simp
  | some d => simp
end B
end Pd
set_option Elab.async false
set_option linter.all false
set_option maxRecDepth 100000
set_option maxHeartbeats 1000000
set_option Elab.async false
set_option linter.all false
set_option maxRecDepth 100000
set_option maxHeartbeats 1000000
set_option Elab.async false
set_option linter.all false
set_option maxRecDepth 100000
set_option maxHeartbeats 1000000
set_option Elab.async false
set_option linter.all false
set_option maxRecDepth 100000
set_option maxHeartbeats 1000000
set_option Elab.async false
set_option linter.all false
set_option maxRecDepth 100000
set_option maxHeartbeats 1000000
namespace Pd
open PySem PySem.Spec PyProof.Rows L2
section
variable {K : PySem.W.Frag} {B B' H H' : Hp}
theorem RsAll.lenT {σ : L2.St} {fs : Nat → List Addr} : ∀ {vs : List V} {rs : List Rs} {Ts : List (List Addr)}, RsAll K B H σ fs vs rs Ts → Ts.length = rs.length
  | [], [], [], _ => rfl
  | v :: vs, r :: rs, T :: Ts, g => by simp [RsAll.lenT g.2]
  | [], [], _ :: _, g => g.elim
  | [], _ :: _, _, g => g.elim
  | _ :: _, [], _, g => g.elim
  | _ :: _, _ :: _, [], g => g.elim
end
end Pd
set_option Elab.async false
set_option linter.all false
set_option maxRecDepth 100000
set_option maxHeartbeats 2000000
namespace Pd
open PySem PySem.Spec PyProof.Rows L2
def argR : Rs → Env → Option Sl
  | .own s, _ => some s
  | .bor i, ρ => match ρ[i]? with
    | some (some s) => some s.bare
    | _ => none
  | .lent i s k, ρ => match ρ[i]? with
    | some (some (.hl _)) => (s.kid k).map Sl.bare
    | _ => none
def argL : List Rs → Env → Option (List Sl)
  | [], _ => some []
  | r :: rs, ρ => match argR r ρ with
    | some s => match argL rs ρ with
      | some t => some (s :: t)
      | none => none
    | none => none
def Rs.root : Rs → Option Nat
  | .own _ => none
  | .bor i => some i
  | .lent i _ _ => some i
def Rs.back : Rs → Sl → Option Nat → Sl
  | .lent _ w k, s, t => (w.setKid k s).retag t
  | _, s, t => s.retag t
def roots : List Rs → List Nat
  | [] => []
  | r :: rs => match r.root with
    | some i => i :: roots rs
    | none => roots rs
def wbR (r : Rs) (s : Sl) (ρ : Env) : Env := match r.root with
  | some i => ρ.set i (some (r.back s (tagAt ρ i)))
  | none => ρ
def wbL : List Rs → List Sl → Env → Env
  | r :: rs, s :: ss, ρ => wbL rs ss (wbR r s ρ)
  | _, _, ρ => ρ
theorem wbR_len (r : Rs) (s : Sl) (ρ : Env) : (wbR r s ρ).length = ρ.length := by
  unfold wbR
  split
  · simp
  · rfl
theorem wbL_len : ∀ (rs : List Rs) (ss : List Sl) (ρ : Env), (wbL rs ss ρ).length = ρ.length
  | [], _, _ => rfl
  | _ :: _, [], _ => rfl
  | r :: rs, s :: ss, ρ => by
    rw [wbL, wbL_len rs ss, wbR_len]
theorem mem_roots {i : Nat} : ∀ {rs : List Rs}, i ∈ roots rs ↔ ∃ (k : Nat) (r : Rs), rs[k]? = some r ∧ r.root = some i
  | [] => by simp [roots]
  | r :: rs => by
    have ih := mem_roots (i := i) (rs := rs)
    unfold roots
    cases e : r.root with
    | none =>
      dsimp only
      rw [ih]
      constructor
      · rintro ⟨k, q, h1, h2⟩; exact ⟨k + 1, q, by simpa using h1, h2⟩
      · rintro ⟨k, q, h1, h2⟩
        cases k with
        | zero => simp at h1; subst h1; rw [e] at h2; cases h2
        | succ k => exact ⟨k, q, by simpa using h1, h2⟩
    | some j =>
      dsimp only
      rw [List.mem_cons, ih]
      constructor
      · rintro (rfl | ⟨k, q, h1, h2⟩)
        · exact ⟨0, r, rfl, e⟩
        · exact ⟨k + 1, q, by simpa using h1, h2⟩
      · rintro ⟨k, q, h1, h2⟩
        cases k with
        | zero => simp at h1; subst h1; rw [e] at h2; cases h2; exact Or.inl rfl
        | succ k => exact Or.inr ⟨k, q, by simpa using h1, h2⟩
theorem roots_inj {i : Nat} : ∀ {rs : List Rs} {k k' : Nat} {r r' : Rs}, (roots rs).Nodup → rs[k]? = some r → r.root = some i → rs[k']? = some r' → r'.root = some i → k = k'
  | [], k, _, _, _, _, h, _, _, _ => by simp at h
  | q :: rs, k, k', r, r', hn, h, hr, h', hr' => by
    have hn2 : (roots rs).Nodup := by
      unfold roots at hn
      split at hn
      · exact (List.nodup_cons.mp hn).2
      · exact hn
    have hd : ∀ j, q.root = some j → j ∉ roots rs := fun j e => by
      unfold roots at hn
      rw [e] at hn
      exact (List.nodup_cons.mp hn).1
    cases k with
    | zero =>
      simp at h
      subst h
      cases k' with
      | zero => rfl
      | succ k' => exact (hd i hr (mem_roots.mpr ⟨k', r', by simpa using h', hr'⟩)).elim
    | succ k =>
      cases k' with
      | zero =>
        simp at h'
        subst h'
        exact (hd i hr' (mem_roots.mpr ⟨k, r, by simpa using h, hr⟩)).elim
      | succ k' => exact congrArg (· + 1) (roots_inj (rs := rs) hn2 (by simpa using h) hr (by simpa using h') hr')
theorem wbR_out {i : Nat} {r : Rs} {s : Sl} {ρ : Env} (h : r.root ≠ some i) : (wbR r s ρ)[i]? = ρ[i]? := by
  unfold wbR
  split
  · rename_i j e
    rw [List.getElem?_set_ne (fun q => h (by rw [e, q]))]
  · rfl
theorem wbL_out {i : Nat} : ∀ (rs : List Rs) (ss : List Sl) (ρ : Env), i ∉ roots rs → (wbL rs ss ρ)[i]? = ρ[i]?
  | [], _, _, _ => rfl
  | _ :: _, [], _, _ => rfl
  | r :: rs, s :: ss, ρ, h => by
    rw [wbL, wbL_out rs ss _ (fun q => h (by
      obtain ⟨k, r', h1, h2⟩ := mem_roots.mp q
      exact mem_roots.mpr ⟨k + 1, r', by simpa using h1, h2⟩)), wbR_out (fun q => h (mem_roots.mpr ⟨0, r, rfl, q⟩))]
theorem wbL_in {i : Nat} : ∀ {rs : List Rs} {ss : List Sl} {ρ : Env} {k : Nat} {r : Rs} {s : Sl}, (roots rs).Nodup → rs[k]? = some r → r.root = some i → ss[k]? = some s → i < ρ.length → (wbL rs ss ρ)[i]? = some (some (r.back s (tagAt ρ i)))
  | [], _, _, k, _, _, _, h, _, _, _ => by simp at h
  | _ :: _, [], _, _, _, _, _, _, _, h, _ => by simp at h
  | q :: rs, s1 :: ss, ρ, k, r, s, hn, h, hr, hs, hi => by
    rw [wbL]
    cases k with
    | zero =>
      simp at h hs
      subst h hs
      have hni : i ∉ roots rs := by
        unfold roots at hn
        rw [hr] at hn
        exact (List.nodup_cons.mp hn).1
      rw [wbL_out rs ss _ hni]
      unfold wbR
      rw [hr]
      dsimp only
      rw [List.getElem?_set_self hi]
    | succ k =>
      have hn2 : (roots rs).Nodup := by
        unfold roots at hn
        split at hn
        · exact (List.nodup_cons.mp hn).2
        · exact hn
      have hq : q.root ≠ some i := fun e => by
        have := roots_inj (k := 0) (k' := k + 1) hn rfl e h hr
        omega
      rw [wbL_in (rs := rs) hn2 (by simpa using h) hr (by simpa using hs) (by rw [wbR_len]; exact hi)]
      have : tagAt (wbR q s1 ρ) i = tagAt ρ i := by
        unfold tagAt
        rw [wbR_out hq]
      rw [this]
theorem argL_get {ρ : Env} : ∀ {rs : List Rs} {ss : List Sl}, argL rs ρ = some ss → ss.length = rs.length ∧ ∀ (k : Nat) s, ss[k]? = some s → ∃ r, rs[k]? = some r ∧ argR r ρ = some s
  | [], ss, e => by cases e; exact ⟨rfl, fun k s h => by simp at h⟩
  | r :: rs, ss, e => by
    unfold argL at e
    split at e
    · rename_i s0 e0
      split at e
      · rename_i t e1
        cases e
        obtain ⟨h1, h2⟩ := argL_get e1
        refine ⟨by simp [h1], fun k s h => ?_⟩
        cases k with
        | zero => simp at h; subst h; exact ⟨r, rfl, e0⟩
        | succ k => simpa using h2 k s (by simpa using h)
      · cases e
    · cases e
theorem Own.back {K : PySem.W.Frag} {B H : Hp} {v : V} {s : Sl} {T : List Addr} {r : Rs} {t : Option Nat} (hr : ∀ i w k, r ≠ .lent i w k) (h : Own K B H v s T) : Own K B H v (r.back s t) T := by
  cases r with
  | own _ => exact h.retag'
  | bor _ => exact h.retag'
  | lent i w k => exact (hr i w k rfl).elim
theorem Rs.back_tag {r : Rs} {s : Sl} {t : Option Nat} {k : Nat} (h : (r.back s t).tag = some k) : t = some k := by
  cases r with
  | own _ => exact Sl.retag_tag h
  | bor _ => exact Sl.retag_tag h
  | lent i w k => exact Sl.retag_tag h
section
variable {K : PySem.W.Frag} {vs0 : List V} {σ : L2.St} {B H : Hp} {ρ : Env} {fs : Nat → List Addr} {vs : List V} {rs : List Rs} {Ts : List (List Addr)} {ss : List Sl}
def FtOk (K : PySem.W.Frag) (B H : Hp) (σ : L2.St) (fs : Nat → List Addr) (vs : List V) (Ts : List (List Addr)) (j : Nat) (F : List Addr) : Option Rs → Prop
  | some (.own _) => F = Ts.getD j []
  | some (.bor i) => F = fs i
  | some (.lent i w k) => ∃ v0 v c, σ[i]? = some (some v0) ∧ vs[j]? = some v ∧ w.kid k = some c ∧ Own K B H v c F ∧ (∀ a ∈ F, a ∈ Ts.getD j []) ∧ ∀ {B' H' : Hp} {c' : Sl} {T' : List Addr}, Same B B' → (∀ a ∈ Ts.getD j [], a ∉ F → H' a = H a) → Own K B' H' v c' T' → (∀ a ∈ T', a ∈ Ts.getD j [] → a ∈ F) →
      ∃ T2, Own K B' H' v0 (w.setKid k c') T2 ∧ ∀ a ∈ T2, (a ∈ Ts.getD j [] ∧ a ∉ F) ∨ a ∈ T'
  | none => F = []
theorem ft_ex (ok : RsAll K B H σ fs vs rs Ts) (e1 : argL rs ρ = some ss) (j : Nat) : ∃ F, FtOk K B H σ fs vs Ts j F rs[j]? := by
  cases q : rs[j]? with
  | none => exact ⟨[], rfl⟩
  | some r =>
    obtain ⟨v, T, h1, h2, h3⟩ := RsAll.get ok q
    cases r with
    | own s => exact ⟨_, rfl⟩
    | bor i => exact ⟨_, rfl⟩
    | lent i w k =>
      obtain ⟨hl, hg⟩ := argL_get e1
      have hj : j < ss.length := by rw [hl]; exact (List.getElem?_eq_some_iff.mp q).1
      obtain ⟨r', q1, q2⟩ := hg j ss[j] (List.getElem?_eq_getElem hj)
      rw [q] at q1
      cases q1
      have hk : ∃ c, w.kid k = some c := by
        unfold argR at q2
        dsimp only at q2
        split at q2
        · cases e : w.kid k with
          | none => rw [e] at q2; cases q2
          | some c => exact ⟨c, rfl⟩
        · cases q2
      obtain ⟨c, hk⟩ := hk
      obtain ⟨⟨v0, z1, z2, z3⟩, z4⟩ := h3
      have eT : Ts.getD j [] = T := by rw [List.getD_eq_getElem?_getD, h2]; rfl
      obtain ⟨Tk, y1, y2, y3⟩ := z2.kid z3 hk
      refine ⟨Tk, v0, v, c, z1, h1, hk, y1, fun a ha => by rw [eT]; exact y2 a ha, fun {B' H' c' T'} sb kp o dj => ?_⟩
      rw [eT] at kp dj ⊢
      exact y3 sb kp o dj
open Classical in
theorem call_core (g : Good K vs0 B H σ ρ fs) (ok : RsAll K B H σ fs vs rs Ts) (nd : Ts.flatten.Nodup) (hnd : (roots rs).Nodup) (e1 : argL rs ρ = some ss) :
    ∃ fsA : Nat → List Addr, Good K [] B H (vs.map some) (ss.map some) fsA ∧ (∀ s ∈ ss, s.tag = none) ∧ vs.length = rs.length ∧ ∀ (ss' : List Sl) (B' H' : Hp) (fsB : Nat → List Addr) (T : List Addr),
      Fr B H (InF fsA) B' H' (UnF (InF fsB) T) → Good K [] B' H' (vs.map some) (ss'.map some) fsB → (∀ a ∈ T, B' a = none ∧ ∀ i, a ∉ fsB i) →
      ∃ fs2 : Nat → List Addr, Fr B H (UnF (InF fs) Ts.flatten) B' H' (UnF (InF fs2) T) ∧ Good K vs0 B' H' σ (wbL rs ss' ρ) fs2 ∧ ∀ a ∈ T, B' a = none ∧ ∀ i, a ∉ fs2 i := by
  obtain ⟨hl, hg⟩ := argL_get e1
  have hvl := RsAll.len ok
  let fsA : Nat → List Addr := fun j => Classical.choose (ft_ex ok e1 j)
  have fA : ∀ j, FtOk K B H σ fs vs Ts j (fsA j) rs[j]? := fun j => Classical.choose_spec (ft_ex ok e1 j)
  have wh : ∀ j a, a ∈ fsA j → (∃ i, rs[j]? = some (Rs.bor i) ∧ a ∈ fs i) ∨ ∃ T, Ts[j]? = some T ∧ a ∈ T ∧ ∀ i, rs[j]? ≠ some (.bor i) := fun j a h => by
    have f := fA j
    cases q : rs[j]? with
    | none => rw [q] at f; rw [show fsA j = [] from f] at h; cases h
    | some r =>
      rw [q] at f
      have inT : a ∈ Ts.getD j [] → ∃ T, Ts[j]? = some T ∧ a ∈ T := fun ha => by
        rw [List.getD_eq_getElem?_getD] at ha
        cases e : Ts[j]? with
        | none => rw [e] at ha; cases ha
        | some T => rw [e] at ha; exact ⟨T, rfl, ha⟩
      cases r with
      | bor i => exact Or.inl ⟨i, rfl, by rw [← show fsA j = fs i from f]; exact h⟩
      | own s =>
        obtain ⟨T, h1, h2⟩ := inT (by rw [← show fsA j = Ts.getD j [] from f]; exact h)
        exact Or.inr ⟨T, h1, h2, fun i e => nomatch e⟩
      | lent i w k =>
        obtain ⟨v0, v, c, z1, z2, z3, z4, z5, z6⟩ := f
        obtain ⟨T, h1, h2⟩ := inT (z5 a h)
        exact Or.inr ⟨T, h1, h2, fun i e => nomatch e⟩
  have offT : ∀ (j : Nat) (T : List Addr) (a : Addr), Ts[j]? = some T → a ∈ T → (∀ i, a ∉ fs i) ∧ H a ≠ none ∧ B a = none := fun j T a hT ha => by
    have hj : j < rs.length := by
      have h1 := RsAll.lenT ok
      rw [← h1]
      exact (List.getElem?_eq_some_iff.mp hT).1
    obtain ⟨v, T', q1, q2, q3⟩ := RsAll.get ok (List.getElem?_eq_getElem hj)
    rw [hT] at q2
    cases q2
    refine ⟨fun i hi => q3.off a ha ⟨i, hi⟩, q3.live a ha, ?_⟩
    cases e : rs[j] with
    | own s => rw [e] at q3; exact (q3.2.2 a ha).1
    | bor i => rw [e] at q3; rw [q3.2] at ha; cases ha
    | lent i w k => rw [e] at q3; exact (q3.2 a ha).1
  have gA : Good K [] B H (vs.map some) (ss.map some) fsA := by
    refine ⟨g.ext, by simp [hvl, hl], fun j s h => ?_, fun j h => ?_, fun j j' a h1 h2 => ?_, fun j a h => ?_⟩
    · rw [List.getElem?_map] at h
      cases q : ss[j]? with
      | none => rw [q] at h; cases h
      | some s' =>
        rw [q] at h
        cases h
        obtain ⟨r, h1, h2⟩ := hg j s q
        obtain ⟨v, T, q1, q2, q3⟩ := RsAll.get ok h1
        have f := fA j
        rw [h1] at f
        cases r with
        | own s0 =>
          cases h2
          refine ⟨v, by rw [List.getElem?_map, q1]; rfl, ?_, fun k hk => by rw [q3.2.1] at hk; cases hk⟩
          have e : fsA j = T := by
            rw [show fsA j = Ts.getD j [] from f, List.getD_eq_getElem?_getD, q2]
            rfl
          rw [e]
          exact q3.1
        | bor i =>
          unfold argR at h2
          dsimp only at h2
          split at h2
          · rename_i s0 e0
            cases h2
            obtain ⟨v', w1, w2, _⟩ := g.at_ i s0 e0
            have hv : σ[i]? = some (some v) := q3.1
            rw [hv] at w1
            cases w1
            refine ⟨v, by rw [List.getElem?_map, q1]; rfl, ?_, fun k hk => by rw [Sl.bare_tag] at hk; cases hk⟩
            rw [show fsA j = fs i from f]
            exact w2.bare
          · cases h2
        | lent i w k =>
          obtain ⟨v0, v', c, z1, z2, z3, z4, z5, z6⟩ := f
          rw [q1] at z2
          cases z2
          unfold argR at h2
          dsimp only at h2
          split at h2
          · rw [z3] at h2
            cases h2
            exact ⟨v, by rw [List.getElem?_map, q1]; rfl, z4.bare, fun k hk => by rw [Sl.bare_tag] at hk; cases hk⟩
          · cases h2
    · have hj : ¬ j < ss.length := fun hj => h ss[j] (by rw [List.getElem?_map, List.getElem?_eq_getElem hj]; rfl)
      have f := fA j
      rw [List.getElem?_eq_none (by omega)] at f
      exact f
    · rcases wh j a h1 with ⟨i, q1, q2⟩ | ⟨T, q1, q2, _⟩
      · rcases wh j' a h2 with ⟨i', w1, w2⟩ | ⟨T', w1, w2, _⟩
        · have := g.dis i i' a q2 w2
          subst this
          exact roots_inj hnd q1 rfl w1 rfl
        · exact ((offT j' T' a w1 w2).1 i q2).elim
      · rcases wh j' a h2 with ⟨i', w1, w2⟩ | ⟨T', w1, w2, _⟩
        · exact ((offT j T a q1 q2).1 i' w2).elim
        · exact flat_injL nd q1 w1 q2 w2
    · rcases wh j a h with ⟨i, q1, q2⟩ | ⟨T, q1, q2, _⟩
      · exact g.out i a q2
      · exact (offT j T a q1 q2).2.2
  refine ⟨fsA, gA, fun s hs => ?_, hvl, fun ss' B' H' fsB T fr gB okB => ?_⟩
  · obtain ⟨j, hj⟩ := List.getElem?_of_mem hs
    obtain ⟨r, h1, h2⟩ := hg j s hj
    cases r with
    | own s0 =>
      cases h2
      obtain ⟨v, T, q1, q2, q3⟩ := RsAll.get ok h1
      exact q3.2.1
    | bor i =>
      unfold argR at h2
      dsimp only at h2
      split at h2
      · cases h2; exact Sl.bare_tag _
      · cases h2
    | lent i w k =>
      unfold argR at h2
      dsimp only at h2
      split at h2
      · cases e : w.kid k with
        | none => rw [e] at h2; cases h2
        | some c => rw [e] at h2; cases h2; exact Sl.bare_tag _
      · cases h2
  have inA : ∀ (p : Nat) (T1 : List Addr) (a : Addr), Ts[p]? = some T1 → a ∈ T1 → ∀ q, a ∈ fsA q → q = p := fun p T1 a hT ha q hq => by
    rcases wh q a hq with ⟨i, _, h2⟩ | ⟨T2, h1, h2, _⟩
    · exact ((offT p T1 a hT ha).1 i h2).elim
    · exact flat_injL nd h1 hT h2 ha
  have live : ∀ a, UnF (InF fsB) T a → InF fsA a ∨ H a = none := fun a h => fr.own a h
  have hl' : ss'.length = rs.length := by
    have := gB.len
    simp at this
    omega
  have rest : ∀ (p : Nat) (T1 : List Addr) (a : Addr), Ts[p]? = some T1 → a ∈ T1 → a ∉ fsA p → ¬ InF fsA a ∧ ¬ UnF (InF fsB) T a := fun p T1 a hT ha hn => by
    have h1 : ¬ InF fsA a := fun ⟨q, hq⟩ => hn (by rw [← inA p T1 a hT ha q hq]; exact hq)
    refine ⟨h1, fun h => ?_⟩
    rcases live a h with h | h
    · exact h1 h
    · exact (offT p T1 a hT ha).2.1 h
  have whole : ∀ (j i : Nat) (w : Sl) (k : List Nat), rs[j]? = some (.lent i w k) → ∃ (v0 : V) (c' : Sl) (T2 : List Addr), σ[i]? = some (some v0) ∧ ss'[j]? = some c' ∧ Own K B' H' v0 (w.setKid k c') T2 ∧ ∀ a ∈ T2, (a ∈ Ts.getD j [] ∧ a ∉ fsA j) ∨ a ∈ fsB j := fun j i w k q => by
    have f := fA j
    rw [q] at f
    obtain ⟨v0, v, c, z1, z2, z3, z4, z5, z6⟩ := f
    have hj : j < ss'.length := by rw [hl']; exact (List.getElem?_eq_some_iff.mp q).1
    obtain ⟨v', y1, y2, _⟩ := gB.at_ j ss'[j] (by rw [List.getElem?_map, List.getElem?_eq_getElem hj]; rfl)
    rw [List.getElem?_map, z2] at y1
    have y1 : v = v' := by simpa using y1
    subst y1
    have hT : ∃ T1, Ts[j]? = some T1 := by
      have : j < Ts.length := by rw [RsAll.lenT ok]; exact (List.getElem?_eq_some_iff.mp q).1
      exact ⟨_, List.getElem?_eq_getElem this⟩
    obtain ⟨T1, hT⟩ := hT
    have eT : Ts.getD j [] = T1 := by rw [List.getD_eq_getElem?_getD, hT]; rfl
    obtain ⟨T2, x1, x2⟩ := z6 (B' := B') (H' := H') fr.bb (fun a ha hn => by
      rw [eT] at ha
      exact fr.keep a (offT j T1 a hT ha).2.1 (rest j T1 a hT ha hn).1) y2 (fun a ha ht => by
      rw [eT] at ht
      rcases live a (Or.inl ⟨j, ha⟩) with ⟨q', h⟩ | h
      · rw [inA j T1 a hT ht q' h] at h; exact h
      · exact ((offT j T1 a hT ht).2.1 h).elim)
    exact ⟨v0, ss'[j], T2, z1, List.getElem?_eq_getElem hj, x1, x2⟩
  let ftB : Nat → List Addr := fun j => match rs[j]? with
    | some (.lent i w k) => if h : ∃ (v0 : V) (c' : Sl) (T2 : List Addr), σ[i]? = some (some v0) ∧ ss'[j]? = some c' ∧ Own K B' H' v0 (w.setKid k c') T2 ∧ ∀ a ∈ T2, (a ∈ Ts.getD j [] ∧ a ∉ fsA j) ∨ a ∈ fsB j then Classical.choose (Classical.choose_spec (Classical.choose_spec h)) else []
    | _ => fsB j
  have ftL : ∀ (j i : Nat) (w : Sl) (k : List Nat), rs[j]? = some (.lent i w k) → ∃ (v0 : V) (c' : Sl), σ[i]? = some (some v0) ∧ ss'[j]? = some c' ∧ Own K B' H' v0 (w.setKid k c') (ftB j) ∧ ∀ a ∈ ftB j, (a ∈ Ts.getD j [] ∧ a ∉ fsA j) ∨ a ∈ fsB j := fun j i w k q => by
    have h := whole j i w k q
    have e : ftB j = Classical.choose (Classical.choose_spec (Classical.choose_spec h)) := by
      show (match rs[j]? with
        | some (.lent i w k) => if h : ∃ (v0 : V) (c' : Sl) (T2 : List Addr), σ[i]? = some (some v0) ∧ ss'[j]? = some c' ∧ Own K B' H' v0 (w.setKid k c') T2 ∧ ∀ a ∈ T2, (a ∈ Ts.getD j [] ∧ a ∉ fsA j) ∨ a ∈ fsB j then Classical.choose (Classical.choose_spec (Classical.choose_spec h)) else []
        | _ => fsB j) = _
      rw [q]
      dsimp only
      rw [dif_pos h]
    rw [e]
    exact ⟨_, _, Classical.choose_spec (Classical.choose_spec (Classical.choose_spec h))⟩
  have ftO : ∀ (j : Nat) (r : Rs), rs[j]? = some r → (∀ i w k, r ≠ .lent i w k) → ftB j = fsB j := fun j r q hr => by
    show (match rs[j]? with
      | some (.lent i w k) => if h : ∃ (v0 : V) (c' : Sl) (T2 : List Addr), σ[i]? = some (some v0) ∧ ss'[j]? = some c' ∧ Own K B' H' v0 (w.setKid k c') T2 ∧ ∀ a ∈ T2, (a ∈ Ts.getD j [] ∧ a ∉ fsA j) ∨ a ∈ fsB j then Classical.choose (Classical.choose_spec (Classical.choose_spec h)) else []
      | _ => fsB j) = _
    rw [q]
    cases r with
    | own s => rfl
    | bor i => rfl
    | lent i w k => exact (hr i w k rfl).elim
  have whB : ∀ (j : Nat) (a : Addr), j < rs.length → a ∈ ftB j → a ∈ fsB j ∨ ∃ T1, Ts[j]? = some T1 ∧ a ∈ T1 ∧ a ∉ fsA j := fun j a hj h => by
    have q := List.getElem?_eq_getElem hj
    by_cases hr : ∃ i w k, rs[j] = .lent i w k
    · obtain ⟨i, w, k, e⟩ := hr
      rw [e] at q
      obtain ⟨v0, c', _, _, _, h4⟩ := ftL j i w k q
      rcases h4 a h with ⟨h5, h6⟩ | h5
      · rw [List.getD_eq_getElem?_getD] at h5
        cases e2 : Ts[j]? with
        | none => rw [e2] at h5; cases h5
        | some T1 => rw [e2] at h5; exact Or.inr ⟨T1, rfl, h5, h6⟩
      · exact Or.inl h5
    · rw [ftO j _ q fun i w k e => hr ⟨i, w, k, e⟩] at h
      exact Or.inl h
  let fs2 : Nat → List Addr := fun i => if h : ∃ (k : Nat) (r : Rs), rs[k]? = some r ∧ r.root = some i then ftB (Classical.choose h) else fs i
  have f2in : ∀ {i k : Nat} {r : Rs}, rs[k]? = some r → r.root = some i → fs2 i = ftB k := fun {i k r} h hr => by
    have hx : ∃ (k : Nat) (r : Rs), rs[k]? = some r ∧ r.root = some i := ⟨k, r, h, hr⟩
    show (if h : ∃ (k : Nat) (r : Rs), rs[k]? = some r ∧ r.root = some i then ftB (Classical.choose h) else fs i) = ftB k
    rw [dif_pos hx]
    obtain ⟨r', q1, q2⟩ := Classical.choose_spec hx
    rw [roots_inj hnd q1 q2 h hr]
  have f2out : ∀ {i : Nat}, (¬ ∃ (k : Nat) (r : Rs), rs[k]? = some r ∧ r.root = some i) → fs2 i = fs i := fun {i} h => by
    show (if h : ∃ (k : Nat) (r : Rs), rs[k]? = some r ∧ r.root = some i then ftB (Classical.choose h) else fs i) = fs i
    rw [dif_neg h]
  have notA : ∀ {i a}, (¬ ∃ (k : Nat) (r : Rs), rs[k]? = some r ∧ r.root = some i) → a ∈ fs i → ¬ InF fsA a := fun {i a} h hi ⟨j, hj⟩ => by
    rcases wh j a hj with ⟨i', q1, q2⟩ | ⟨T1, q1, q2, _⟩
    · have := g.dis i i' a hi q2
      subst this
      exact h ⟨j, _, q1, rfl⟩
    · exact (offT j T1 a q1 q2).1 i hi
  have notB : ∀ {i a}, (¬ ∃ (k : Nat) (r : Rs), rs[k]? = some r ∧ r.root = some i) → a ∈ fs i → ¬ UnF (InF fsB) T a := fun {i a} h hi f => by
    rcases live a f with q | q
    · exact notA h hi q
    · exact g.lives hi q
  have len_of : ∀ {k : Nat} {r : Rs}, rs[k]? = some r → k < rs.length := fun h => (List.getElem?_eq_some_iff.mp h).1
  have notF : ∀ {i j : Nat} {a : Addr}, (¬ ∃ (k : Nat) (r : Rs), rs[k]? = some r ∧ r.root = some i) → a ∈ fs i → j < rs.length → a ∉ ftB j := fun {i j a} h hi hj hf => by
    rcases whB j a hj hf with q | ⟨T1, q1, q2, _⟩
    · exact notB h hi (Or.inl ⟨j, q⟩)
    · exact (offT j T1 a q1 q2).1 i hi
  have gd2 : Good K vs0 B' H' σ (wbL rs ss' ρ) fs2 := by
    refine ⟨gB.ext, by rw [wbL_len]; exact g.len, fun i s h => ?_, fun i h => ?_, fun i j a h1 h2 => ?_, fun i a h => ?_⟩
    · by_cases hx : ∃ (k : Nat) (r : Rs), rs[k]? = some r ∧ r.root = some i
      · obtain ⟨j, r, hj, hr⟩ := hx
        have hj' : j < ss'.length := by rw [hl']; exact len_of hj
        have hs' : ss'[j]? = some ss'[j] := List.getElem?_eq_getElem hj'
        have hj2 : j < ss.length := by rw [hl]; exact len_of hj
        obtain ⟨r', a1, a2⟩ := hg j ss[j] (List.getElem?_eq_getElem hj2)
        rw [hj] at a1
        cases a1
        have hold : ∃ s0, ρ[i]? = some (some s0) := by
          cases r with
          | own _ => cases hr
          | bor i' =>
            cases hr
            unfold argR at a2
            dsimp only at a2
            split at a2
            · rename_i s0 e0; exact ⟨s0, e0⟩
            · cases a2
          | lent i' w k =>
            cases hr
            unfold argR at a2
            dsimp only at a2
            split at a2
            · rename_i t e0; exact ⟨_, e0⟩
            · cases a2
        obtain ⟨s0, hs0⟩ := hold
        rw [wbL_in hnd hj hr hs' (List.getElem?_eq_some_iff.mp hs0).1] at h
        cases h
        obtain ⟨v3, b1, _, b3⟩ := g.at_ i s0 hs0
        have tg : ∀ q, (r.back ss'[j] (tagAt ρ i)).tag = some q → vs0[q]? = some v3 := fun q hq => by
          have ht := Rs.back_tag hq
          unfold tagAt at ht
          rw [hs0] at ht
          exact b3 q ht
        by_cases hlt : ∃ i' w k, r = .lent i' w k
        · obtain ⟨i', w, k, rfl⟩ := hlt
          cases hr
          obtain ⟨v0, c', c1, c2, c3, _⟩ := ftL j i w k hj
          rw [c1] at b1
          cases b1
          rw [hs'] at c2
          cases c2
          exact ⟨_, c1, by rw [f2in hj rfl]; exact c3.retag', tg⟩
        · obtain ⟨v1, q1, q2, _⟩ := gB.at_ j _ (by rw [List.getElem?_map, hs']; rfl)
          obtain ⟨v2, T2, w1, w2, w3⟩ := RsAll.get ok hj
          rw [List.getElem?_map, w1] at q1
          have q1 : v2 = v1 := by simpa using q1
          subst q1
          have hv : σ[i]? = some (some v2) := by
            cases r with
            | own _ => cases hr
            | bor i' => cases hr; exact w3.1
            | lent i' w k => exact (hlt ⟨i', w, k, rfl⟩).elim
          rw [hv] at b1
          cases b1
          refine ⟨_, hv, ?_, tg⟩
          rw [f2in hj hr, ftO j r hj fun i w k e => hlt ⟨i, w, k, e⟩]
          exact Own.back (fun i w k e => hlt ⟨i, w, k, e⟩) q2
      · rw [wbL_out _ _ _ (fun q => hx (mem_roots.mp q))] at h
        obtain ⟨v1, q1, q2, q3⟩ := g.at_ i s h
        refine ⟨v1, q1, ?_, q3⟩
        rw [f2out hx]
        exact q2.keep fr.bb fun a ha => fr.keep a (g.lives ha) (notA hx ha)
    · by_cases hx : ∃ (k : Nat) (r : Rs), rs[k]? = some r ∧ r.root = some i
      · obtain ⟨j, r, hj, hr⟩ := hx
        have hj' : j < ss'.length := by rw [hl']; exact len_of hj
        have hj2 : j < ss.length := by rw [hl]; exact len_of hj
        obtain ⟨r', a1, a2⟩ := hg j ss[j] (List.getElem?_eq_getElem hj2)
        rw [hj] at a1
        cases a1
        have hi : i < ρ.length := by
          cases r with
          | own _ => cases hr
          | bor i' =>
            cases hr
            unfold argR at a2
            dsimp only at a2
            split at a2
            · rename_i s0 e0; exact (List.getElem?_eq_some_iff.mp e0).1
            · cases a2
          | lent i' w k =>
            cases hr
            unfold argR at a2
            dsimp only at a2
            split at a2
            · rename_i t e0; exact (List.getElem?_eq_some_iff.mp e0).1
            · cases a2
        exact (h _ (wbL_in hnd hj hr (List.getElem?_eq_getElem hj') hi)).elim
      · rw [f2out hx]
        rw [wbL_out _ _ _ (fun q => hx (mem_roots.mp q))] at h
        exact g.emp i h
    · by_cases hx : ∃ (k : Nat) (r : Rs), rs[k]? = some r ∧ r.root = some i
      · obtain ⟨p, r, hp, hr⟩ := hx
        rw [f2in hp hr] at h1
        by_cases hy : ∃ (k : Nat) (r : Rs), rs[k]? = some r ∧ r.root = some j
        · obtain ⟨q, r', hq, hr'⟩ := hy
          rw [f2in hq hr'] at h2
          have : p = q := by
            rcases whB p a (len_of hp) h1 with x | ⟨T1, x1, x2, x3⟩
            · rcases whB q a (len_of hq) h2 with y | ⟨T2, y1, y2, y3⟩
              · exact gB.dis p q a x y
              · exact ((rest q T2 a y1 y2 y3).2 (Or.inl ⟨p, x⟩)).elim
            · rcases whB q a (len_of hq) h2 with y | ⟨T2, y1, y2, y3⟩
              · exact ((rest p T1 a x1 x2 x3).2 (Or.inl ⟨q, y⟩)).elim
              · exact flat_injL nd x1 y1 x2 y2
          subst this
          rw [hp] at hq
          cases hq
          rw [hr] at hr'
          cases hr'
          rfl
        · rw [f2out hy] at h2
          exact (notF hy h2 (len_of hp) h1).elim
      · rw [f2out hx] at h1
        by_cases hy : ∃ (k : Nat) (r : Rs), rs[k]? = some r ∧ r.root = some j
        · obtain ⟨q, r', hq, hr'⟩ := hy
          rw [f2in hq hr'] at h2
          exact (notF hx h1 (len_of hq) h2).elim
        · rw [f2out hy] at h2
          exact g.dis i j a h1 h2
    · by_cases hx : ∃ (k : Nat) (r : Rs), rs[k]? = some r ∧ r.root = some i
      · obtain ⟨p, r, hp, hr⟩ := hx
        rw [f2in hp hr] at h
        rcases whB p a (len_of hp) h with x | ⟨T1, x1, x2, x3⟩
        · exact gB.out p a x
        · exact fr.bnew a (offT p T1 a x1 x2).2.1 (rest p T1 a x1 x2 x3).1 (offT p T1 a x1 x2).2.2
      · rw [f2out hx] at h
        exact fr.bnew a (g.lives h) (notA hx h) (g.out i a h)
  have w1 : ∀ a, InF fsA a → UnF (InF fs) Ts.flatten a := by
    rintro a ⟨j, hj⟩
    rcases wh j a hj with ⟨i, q1, q2⟩ | ⟨T1, q1, q2, _⟩
    · exact Or.inl ⟨i, q2⟩
    · exact Or.inr (List.mem_flatten.mpr ⟨T1, List.mem_of_getElem? q1, q2⟩)
  have w2 : ∀ a, UnF (InF fs2) T a → UnF (InF fsB) T a ∨ UnF (InF fs) Ts.flatten a ∨ H a = none := by
    rintro a h
    rcases h with ⟨i, hi⟩ | h
    · by_cases hx : ∃ (k : Nat) (r : Rs), rs[k]? = some r ∧ r.root = some i
      · obtain ⟨p, r, hp, hr⟩ := hx
        rw [f2in hp hr] at hi
        rcases whB p a (len_of hp) hi with x | ⟨T1, x1, x2, x3⟩
        · exact Or.inl (Or.inl ⟨p, x⟩)
        · exact Or.inr (Or.inl (Or.inr (List.mem_flatten.mpr ⟨T1, List.mem_of_getElem? x1, x2⟩)))
      · rw [f2out hx] at hi
        exact Or.inr (Or.inl (Or.inl ⟨i, hi⟩))
    · exact Or.inl (Or.inr h)
  refine ⟨fs2, fr.weak w1 w2, gd2, fun a haT => ⟨(okB a haT).1, fun i hi => ?_⟩⟩
  by_cases hx : ∃ (k : Nat) (r : Rs), rs[k]? = some r ∧ r.root = some i
  · obtain ⟨p, r, hp, hr⟩ := hx
    rw [f2in hp hr] at hi
    rcases whB p a (len_of hp) hi with x | ⟨T1, x1, x2, x3⟩
    · exact (okB a haT).2 p x
    · exact (rest p T1 a x1 x2 x3).2 (Or.inr haT)
  · rw [f2out hx] at hi
    exact notB hx hi (Or.inr haT)
end
end Pd
set_option Elab.async false
set_option linter.all false
set_option maxRecDepth 100000
set_option maxHeartbeats 2000000
namespace Pd
open PySem PySem.Spec PyProof.Rows L2
mutual
def Sl.nofd : Sl → Bool
  | .mr _ l => nofdL l
  | .ob _ _ _ l => nofdL l
  | .tp l => nofdL l
  | .fd _ => false
  | _ => true
def nofdL : List Sl → Bool
  | [] => true
  | s :: r => s.nofd && nofdL r
end
def nofdE : Env → Bool
  | [] => true
  | some s :: r => s.nofd && nofdE r
  | none :: r => nofdE r
theorem nofdE_at : ∀ {ρ : Env} {i : Nat} {s : Sl}, nofdE ρ = true → ρ[i]? = some (some s) → s.nofd = true
  | [], i, s, _, h => by simp at h
  | none :: r, i, s, e, h => by
    cases i with
    | zero => simp at h
    | succ i => exact nofdE_at (ρ := r) e (by simpa using h)
  | some q :: r, i, s, e, h => by
    unfold nofdE at e
    rw [Bool.and_eq_true] at e
    cases i with
    | zero => simp at h; subst h; exact e.1
    | succ i => exact nofdE_at (ρ := r) e.2 (by simpa using h)
def dropA (B : Hp) (a : Addr) : Hp := fun b => if b = a then none else B b
theorem dropA_ne {B : Hp} {a b : Addr} (h : b ≠ a) : dropA B a b = B b := by unfold dropA; rw [if_neg h]
theorem dropA_same {B : Hp} {a : Addr} : dropA B a a = none := by unfold dropA; rw [if_pos rfl]
theorem dropA_at {B : Hp} {a b : Addr} {u : HO} (h : dropA B a b = some u) : b ≠ a ∧ B b = some u := by
  unfold dropA at h
  split at h
  · cases h
  · rename_i n
    exact ⟨n, h⟩
section
variable {K : PySem.W.Frag} {B H H' : Hp} {a : Addr} {ks : List (Key × V)} {o : Obj}
theorem rd_drop (ha : B a = some (.frz o (.dK ks))) {b : Addr} {u : HO} (hu : ∀ k, u ≠ .dK k) (hf : ∀ o' k, u ≠ .frz o' (.dK k)) (h : Rd B b u) : Rd (dropA B a) b u := by
  rcases h with h | ⟨o', h⟩
  · have n : b ≠ a := fun e => by rw [e, ha] at h; cases h; exact hf _ _ rfl
    exact Or.inl (by rw [dropA_ne n]; exact h)
  · have n : b ≠ a := fun e => by rw [e, ha] at h; cases h; exact hu _ rfl
    exact Or.inr ⟨o', by rw [dropA_ne n]; exact h⟩
theorem sql_drop (ha : B a = some (.frz o (.dK ks))) {b : Addr} {xs : List V} (h : SqL K B b xs) : SqL K (dropA B a) b xs := by
  rcases h with h | h
  · exact Or.inl (rd_drop ha (fun k q => by cases q) (fun o' k q => by cases q) h)
  · exact Or.inr h
theorem sqt_drop (ha : B a = some (.frz o (.dK ks))) {b : Addr} {xs : List V} (h : SqT K B b xs) : SqT K (dropA B a) b xs := by
  rcases h with h | h
  · exact Or.inl (rd_drop ha (fun k q => by cases q) (fun o' k q => by cases q) h)
  · exact Or.inr h
mutual
theorem Dp.drop (ha : B a = some (.frz o (.dK ks))) : ∀ {d : PyData} {v : V}, Dp K B v d → Dp K (dropA B a) v d
  | .none, _, h => by cases h; exact .non
  | .bool b, _, h => by cases h; exact .bl b
  | .int i, _, h => by cases h; exact .int i
  | .str x, _, h => by cases h; exact .str x
  | .list ds, _, h => by
    cases h with
    | lst h1 h2 => exact .lst (sql_drop ha h1) (DpAll.dropB ha h2)
  | .tuple ds, _, h => by
    cases h with
    | tup h1 h2 => exact .tup (sqt_drop ha h1) (DpAll.dropB ha h2)
  | .dict _, _, h => by cases h
theorem DpAll.dropB (ha : B a = some (.frz o (.dK ks))) : ∀ {ds : List PyData} {vs : List V}, DpAll K B vs ds → DpAll K (dropA B a) vs ds
  | [], _, h => by cases h; exact .nil
  | d :: ds, _, h => by
    cases h with
    | cons h1 h2 => exact .cons (Dp.drop ha h1) (DpAll.dropB ha h2)
end
theorem KvD.drop (ha : B a = some (.frz o (.dK ks))) {kvs : List (Key × V)} {l : List (Key × D)} (h : KvD K B kvs l) : KvD K (dropA B a) kvs l :=
  Paired.mapP h fun p q r => ⟨r.1, Dp.drop ha r.2⟩
theorem ExIs.drop (ha : B a = some (.frz o (.dK ks))) {v : V} {c : Str} : ∀ {f : Option (Str × D)}, ExIs K B v c f → ExIs K (dropA B a) v c f
  | none, h => by
    obtain ⟨b, C, h1, h2, h3⟩ := h
    have n : b ≠ a := fun e => by rw [e, ha] at h3; cases h3
    exact ⟨b, C, h1, h2, by rw [dropA_ne n]; exact h3⟩
  | some (x, d), h => by
    rcases h with ⟨h0, b, C, dx, u, h1, h2, h3, h4, h5⟩ | ⟨h0, b, o, ys, l, h1, h2, h3, h4, h5⟩
    · have n : b ≠ a := fun e => by rw [e, ha] at h3; cases h3
      have n2 : dx ≠ a := fun e => by rw [e, ha] at h4; cases h4
      exact Or.inl ⟨h0, b, C, dx, u, h1, h2, by rw [dropA_ne n]; exact h3, by rw [dropA_ne n2]; exact h4, Dp.drop ha h5⟩
    · have n : b ≠ a := fun e => by rw [e, ha] at h2; cases h2
      exact Or.inr ⟨h0, b, o, ys, l, h1, by rw [dropA_ne n]; exact h2, h3, h4, DpAll.dropB ha h5⟩
mutual
theorem Own.dropA (ha : B a = some (.frz o (.dK ks))) : ∀ {s : Sl} {v : V} {T : List Addr}, s.nofd = true → Own K B H v s T → (∀ b ∈ T, H' b = H b) → Own K (dropA B a) H' v s T
  | .p d, v, T, _, h, k => ⟨Dp.drop ha h.1, h.2⟩
  | .ml t l, v, T, _, h, k => by
    obtain ⟨a, xs, rfl, rfl, h1, h2⟩ := h
    exact ⟨a, xs, rfl, rfl, by rw [k a (by simp)]; exact h1, DpAll.dropB ha h2⟩
  | .md t l, v, T, _, h, k => by
    obtain ⟨a, xs, rfl, rfl, h1, h2⟩ := h
    exact ⟨a, xs, rfl, rfl, by rw [k a (by simp)]; exact h1, KvD.drop ha h2⟩
  | .mr t l, v, T, n, h, k => by
    obtain ⟨a, xs, Ts, rfl, rfl, h1, h2, h3⟩ := h
    exact ⟨a, xs, Ts, rfl, rfl, by rw [k a (by simp)]; exact h1, OwnL.dropA ha n h2 (fun b hb => k b (List.mem_cons_of_mem _ hb)), h3⟩
  | .ob t c ns l, v, T, n, h, k => by
    obtain ⟨a, dx, C, vs, Ts, rfl, rfl, h1, h2, h3, h4, h5, h6⟩ := h
    exact ⟨a, dx, C, vs, Ts, rfl, rfl, h1, by rw [k a (by simp)]; exact h2, h3, by rw [k dx (by simp)]; exact h4, OwnL.dropA ha n h5 (fun b hb => k b (List.mem_cons_of_mem _ (List.mem_cons_of_mem _ hb))), h6⟩
  | .ex c f, v, T, _, h, k => ⟨ExIs.drop ha h.1, h.2⟩
  | .fd l, v, T, n, h, k => by cases n
  | .hl _, v, T, _, h, k => h
  | .tp l, v, T, n, h, k => by
    obtain ⟨b, xs, Ts, rfl, rfl, h1, h2, h3⟩ := h
    have nb : b ≠ a := fun e => by rw [e, ha] at h1; cases h1
    exact ⟨b, xs, Ts, rfl, rfl, by rw [dropA_ne nb]; exact h1, OwnL.dropA ha n h2 k, h3⟩
theorem OwnL.dropA (ha : B a = some (.frz o (.dK ks))) : ∀ {ss : List Sl} {vs : List V} {Ts : List (List Addr)}, nofdL ss = true → OwnL K B H vs ss Ts → (∀ b ∈ Ts.flatten, H' b = H b) → OwnL K (dropA B a) H' vs ss Ts
  | [], [], [], _, _, _ => True.intro
  | s :: ss, v :: vs, T :: Ts, n, h, k => by
    unfold nofdL at n
    rw [Bool.and_eq_true] at n
    exact ⟨Own.dropA ha n.1 h.1 (fun a ha => k a (by rw [List.flatten_cons]; exact List.mem_append_left _ ha)), OwnL.dropA ha n.2 h.2 (fun a ha => k a (by rw [List.flatten_cons]; exact List.mem_append_right _ ha))⟩
  | [], [], _ :: _, _, h, _ => h.elim
  | [], _ :: _, _, _, h, _ => h.elim
  | _ :: _, [], _, _, h, _ => h.elim
  | _ :: _, _ :: _, [], _, h, _ => h.elim
end
end
def eLock (j : Nat) (f : M Rs) : M Rs := fun ρ => match ρ[j]? with
  | some (some (.md t l)) => match f (ρ.set j (some (.fd l))) with
    | some (.ok (.own s) ρ1) => if s.nofd = true ∧ s.tag = none ∧ nofdE (ρ1.set j none) = true then some (.ok (.own s) (ρ1.set j (some (.md t l)))) else none
    | _ => none
  | some (some (.fd _)) => f ρ
  | _ => none
theorem PE.or {X : Cx} {e : Expr} {t t' : TE} (h : PE X e t) (h' : PE X e t') : PE X e (fun σ H Q => t σ H Q ∨ t' σ H Q) := ⟨fun pins s σ H Q I q => by
  rcases q with q | q
  · exact h.run pins s σ H Q I q
  · exact h'.run pins s σ H Q I q⟩
section
variable {K : PySem.W.Frag} {vs0 : List V}
theorem rd_lock {j : Nat} {f : M Rs} {σ : L2.St} {H : Hp} {Q : VK} (q : rdE K vs0 (eLock j f) σ H Q) : tLockE (rdE K vs0 f) σ H Q ∨ rdE K vs0 f σ H Q := by
  obtain ⟨B, ρ, fs, g, r, ρ', e1, k⟩ := q
  unfold eLock at e1
  split at e1
  · rename_i t l e0
    split at e1
    · rename_i s ρ1 e2
      split at e1
      · rename_i hc
        obtain ⟨c1, c2, c3⟩ := hc
        cases e1
        left
        obtain ⟨v0, z1, z2, z3⟩ := g.at_ j _ e0
        obtain ⟨a, ks, rfl, eT, h1, h2⟩ := z2
        have hj : j < ρ.length := (List.getElem?_eq_some_iff.mp e0).1
        have ain : a ∈ fs j := by rw [eT]; simp
        have hBa : B a = none := g.out j a ain
        refine ⟨a, .dK ks, h1, ?_, fun od => ?_⟩
        · trivial
        have sB : Same B (upd B a (.frz od (.dK ks))) := fun b u e => by
          rw [upd_ne (fun q => by rw [q, hBa] at e; cases e)]
          exact e
        have gl : Good K vs0 (upd B a (.frz od (.dK ks))) (upd H a (.frz od (.dK ks))) σ (ρ.set j (some (.fd l))) (fun i => if i = j then [] else fs i) := {
          ext := same_upd g.ext
          len := by rw [List.length_set]; exact g.len
          at_ := fun i s' h => by
            by_cases e : i = j
            · subst e
              rw [List.getElem?_set_self hj] at h
              cases h
              refine ⟨_, z1, ⟨⟨a, ks, od, rfl, upd_same, h2.mono sB⟩, if_pos rfl⟩, fun k hk => by cases hk⟩
            · rw [List.getElem?_set_ne (Ne.symm e)] at h
              obtain ⟨v', y1, y2, y3⟩ := g.at_ i s' h
              refine ⟨v', y1, ?_, y3⟩
              rw [if_neg e]
              exact y2.keep sB fun b hb => upd_ne fun q => e (g.dis i j a (q ▸ hb) ain)
          emp := fun i h => by
            by_cases e : i = j
            · rw [if_pos e]
            · rw [if_neg e]
              exact g.emp i fun s' q => h s' (by rw [List.getElem?_set_ne (Ne.symm e)]; exact q)
          dis := fun i i' b hb hb' => by
            by_cases e : i = j
            · rw [if_pos e] at hb; cases hb
            · by_cases e' : i' = j
              · rw [if_pos e'] at hb'; cases hb'
              · rw [if_neg e] at hb; rw [if_neg e'] at hb'; exact g.dis i i' b hb hb'
          out := fun i b hb => by
            by_cases e : i = j
            · rw [if_pos e] at hb; cases hb
            · rw [if_neg e] at hb
              rw [upd_ne (show b ≠ a from fun q => e (g.dis i j a (q ▸ hb) ain))]
              exact g.out i b hb }
        refine ⟨_, _, _, gl, _, _, e2, fun v B2 H2 fs2 T fr g2 ok => ?_⟩
        have ha2 : B2 a = some (.frz od (.dK ks)) := fr.bb a _ upd_same
        have hH2 := g2.ext a _ ha2
        refine ⟨hH2, ?_⟩
        have sub : ∀ b, InF (fun i => if i = j then [] else fs i) b → InF fs b := fun b ⟨i, hi⟩ => by
          dsimp only at hi
          by_cases e : i = j
          · rw [if_pos e] at hi; cases hi
          · rw [if_neg e] at hi; exact ⟨i, hi⟩
        have n2 : ∀ i b, b ∈ fs2 i → b ≠ a := fun i b hb q => by
          have := g2.out i b hb
          rw [q, ha2] at this
          cases this
        have hj2 : j < ρ1.length := by rw [← g2.len, g.len]; exact hj
        have s3 : Same B (dropA B2 a) := fun b u e => by
          have n : b ≠ a := fun q => by rw [q, hBa] at e; cases e
          rw [dropA_ne n]
          exact fr.bb b u (by rw [upd_ne n]; exact e)
        have g3 : Good K vs0 (dropA B2 a) (upd H2 a (.dK ks)) σ (ρ1.set j (some (.md t l))) (fun i => if i = j then [a] else fs2 i) := {
          ext := fun b u e => by
            obtain ⟨n, e⟩ := dropA_at e
            rw [upd_ne n]
            exact g2.ext b u e
          len := by rw [List.length_set]; exact g2.len
          at_ := fun i s' h => by
            by_cases e : i = j
            · subst e
              rw [List.getElem?_set_self hj2] at h
              cases h
              exact ⟨_, z1, ⟨a, ks, rfl, if_pos rfl, upd_same, h2.mono s3⟩, z3⟩
            · rw [List.getElem?_set_ne (Ne.symm e)] at h
              obtain ⟨v', y1, y2, y3⟩ := g2.at_ i s' h
              refine ⟨v', y1, ?_, y3⟩
              rw [if_neg e]
              exact y2.dropA ha2 (nofdE_at c3 (by rw [List.getElem?_set_ne (Ne.symm e)]; exact h)) fun b hb => upd_ne (n2 i b hb)
          emp := fun i h => by
            by_cases e : i = j
            · subst e
              exact (h _ (List.getElem?_set_self hj2)).elim
            · rw [if_neg e]
              exact g2.emp i fun s' q => h s' (by rw [List.getElem?_set_ne (Ne.symm e)]; exact q)
          dis := fun i i' b hb hb' => by
            by_cases e : i = j
            · by_cases e' : i' = j
              · rw [e, e']
              · rw [if_pos e] at hb; rw [if_neg e'] at hb'
                simp at hb
                exact (n2 i' b hb' hb).elim
            · by_cases e' : i' = j
              · rw [if_neg e] at hb; rw [if_pos e'] at hb'
                simp at hb'
                exact (n2 i b hb hb').elim
              · rw [if_neg e] at hb; rw [if_neg e'] at hb'; exact g2.dis i i' b hb hb'
          out := fun i b hb => by
            by_cases e : i = j
            · rw [if_pos e] at hb
              simp at hb
              rw [hb]
              exact dropA_same
            · rw [if_neg e] at hb
              rw [dropA_ne (n2 i b hb)]
              exact g2.out i b hb }
        have nT : ∀ b ∈ T, b ≠ a := fun b hb q => by
          have := (ok.2.2 b hb).1
          rw [q, ha2] at this
          cases this
        refine k v _ _ _ T ?_ g3 ⟨ok.1.dropA ha2 c1 fun b hb => upd_ne (nT b hb), c2, fun b hb => ⟨by rw [dropA_ne (nT b hb)]; exact (ok.2.2 b hb).1, fun i hi => ?_⟩⟩
        · have H1 : ∀ {b}, b ≠ a → upd H a (HO.frz od (.dK ks)) b = H b := fun n => upd_ne n
          refine ⟨s3, fun b hb nf => ?_, fun b hb => ?_, fun b hb => ?_, fun b hb nf hB => ?_⟩
          · have n : b ≠ a := fun q => nf ⟨j, q ▸ ain⟩
            rw [upd_ne n, fr.keep b (by rw [H1 n]; exact hb) (fun q => nf (sub b q)), H1 n]
          · by_cases n : b = a
            · rw [n, upd_same]; simp
            · rw [upd_ne n]
              exact fr.live b (by rw [H1 n]; exact hb)
          · have main : UnF (InF fs2) T b → InF fs b ∨ H b = none := fun q => by
              rcases fr.own b q with q | q
              · exact Or.inl (sub b q)
              · by_cases n : b = a
                · rw [n, upd_same] at q; cases q
                · rw [H1 n] at q; exact Or.inr q
            rcases hb with ⟨i, hi⟩ | hb
            · dsimp only at hi
              by_cases e : i = j
              · rw [if_pos e] at hi
                simp at hi
                exact Or.inl ⟨j, hi ▸ ain⟩
              · rw [if_neg e] at hi
                exact main (Or.inl ⟨i, hi⟩)
            · exact main (Or.inr hb)
          · have n : b ≠ a := fun q => nf ⟨j, q ▸ ain⟩
            rw [dropA_ne n]
            exact fr.bnew b (by rw [H1 n]; exact hb) (fun q => nf (sub b q)) (by rw [upd_ne n]; exact hB)
        · dsimp only at hi
          by_cases e : i = j
          · rw [if_pos e] at hi
            simp at hi
            exact nT b hb hi
          · rw [if_neg e] at hi
            exact (ok.2.2 b hb).2 i hi
      · cases e1
    · cases e1
  · right
    exact ⟨B, ρ, fs, g, r, ρ', e1, k⟩
  · cases e1
variable {X : Cx}
theorem de_lock {j : Nat} {f : M Rs} {e : Expr} (h : PE X e (rdE X.K vs0 f)) : PE X e (rdE X.K vs0 (eLock j f)) := PE.imp (PE.or (pe_lock h) h) fun σ H Q q => rd_lock q
def itemsD (l : List (Key × D)) : List D := l.map fun p => .tuple [kD p.1, p.2]
def mItems (f : M Rs) : M (List D) := M.bind f fun r ρ => match r with
  | .own (.fd l) => some (.ok (itemsD l) ρ)
  | _ => none
theorem KvD.get {B : Hp} : ∀ {ks : List (Key × V)} {l : List (Key × D)} {i : Nat} {p : Key × D}, KvD K B ks l → l[i]? = some p → ∃ v, ks[i]? = some (p.1, v) ∧ Dp K B v p.2 := by
  intro ks l i p h
  unfold KvD at h
  induction h generalizing i with
  | nil => intro q; simp at q
  | @cons a b as bs h t ih =>
    intro q
    cases i with
    | zero =>
      simp at q
      subst q
      obtain ⟨a1, a2⟩ := a
      obtain ⟨h1, h2⟩ := h
      dsimp only at h1 h2
      subst h1
      exact ⟨a2, rfl, h2⟩
    | succ i => simpa using ih (i := i) (by simpa using q)
theorem jok_vals {B : Hp} {a : Addr} {o : Obj} {ks : List (Key × V)} {l : List (Key × D)} (h1 : B a = some (.frz o (.dK ks))) (h2 : KvD K B ks l) : JOk K B (Itd a o ks) (l.map (·.2)) := fun B2 H2 s1 s2 i => by
  have hq := s2 a _ (s1 a _ h1)
  refine ⟨fun d hd => ?_, fun hl => ⟨hq, by rw [h2.len]; simpa using Nat.le_of_eq hl⟩⟩
  rw [List.getElem?_map] at hd
  cases e0 : l[i]? with
  | none => rw [e0] at hd; cases hd
  | some p =>
    rw [e0] at hd
    cases hd
    obtain ⟨v, e1, e2⟩ := h2.get e0
    refine ⟨⟨hq, (List.getElem?_eq_some_iff.mp e1).1⟩, fun x H3 q => ?_⟩
    obtain ⟨rfl, k, q1⟩ := q
    rw [e1] at q1
    cases q1
    exact ⟨B2, Fr.refl _ _ _, s2, Dp.mono s1 e2⟩
theorem jok_items {B : Hp} {a : Addr} {o : Obj} {ks : List (Key × V)} {l : List (Key × D)} (h1 : B a = some (.frz o (.dK ks))) (h2 : KvD K B ks l) : JOk K B (Iti a o ks) (itemsD l) := fun B2 H2 s1 s2 i => by
  have hq := s2 a _ (s1 a _ h1)
  unfold itemsD
  refine ⟨fun d hd => ?_, fun hl => ⟨hq, by rw [h2.len]; simpa using Nat.le_of_eq hl⟩⟩
  rw [List.getElem?_map] at hd
  cases e0 : l[i]? with
  | none => rw [e0] at hd; cases hd
  | some p =>
    rw [e0] at hd
    cases hd
    obtain ⟨v, e1, e2⟩ := h2.get e0
    refine ⟨⟨hq, (List.getElem?_eq_some_iff.mp e1).1⟩, fun x H3 q => ?_⟩
    obtain ⟨T, k, v', q1, rfl, hT, rfl⟩ := q
    rw [e1] at q1
    cases q1
    exact jok_new s2 hT (.cons (kD_dp _) (.cons (Dp.mono s1 e2) .nil))
theorem own_fd {B H : Hp} {v : V} {T : List Addr} {l : List (Key × D)} (h : Own K B H v (.fd l) T) : (∃ a ks o, v = .ref a ∧ B a = some (.frz o (.dK ks)) ∧ KvD K B ks l) ∧ T = [] := h
theorem fr_nil {B H B' H' : Hp} {F : Addr → Prop} {fs : Nat → List Addr} (h : Fr B H F B' H' (UnF (InF fs) [])) : Fr B H F B' H' (InF fs) := h.weak (fun _ h => h) fun a h => Or.inl (Or.inl h)
variable {tg e : Expr} {apos cpos : Pos}
theorem di_items {elts : List Expr} {kk : Nat} {tpos : Pos} {f : M Rs} (h : PE X e (rdE X.K vs0 f)) (hbase : attributeBase e "items" X.env (eval e X.env) = eval e X.env := by rfl) (hline : (apos.endLine == cpos.line) = true := by rfl) : PI X (.Tuple elts kk tpos) (.Call (.Attribute e "items" apos) [] [] cpos) (rdI X.K vs0 (mItems f)) := PI.imp (pi_items h hbase hline) fun σ H R q => by
  obtain ⟨B, ρ, fs, g, l, ρ', e1, k⟩ := q
  obtain ⟨r, ρ1, e2, e3⟩ := M.bind_ok e1
  split at e3
  · cases e3
    refine ⟨B, ρ, fs, g, _, _, e2, fun v B1 H1 fs1 T fr g1 ok => ?_⟩
    obtain ⟨⟨a, ks, o, rfl, h1, h2⟩, rfl⟩ := own_fd ok.1
    exact ⟨a, o, ks, rfl, g1.ext a _ h1, k _ _ _ _ (fr_nil fr) g1 (jok_items h1 h2)⟩
  · cases e3
end
end Pd
set_option Elab.async false
set_option linter.all false
set_option maxRecDepth 100000
set_option maxHeartbeats 1000000
namespace Pd
open PySem PySem.Spec PyProof.Rows L2
namespace B
section
variable {ρ : Env}
def lockR (j : Nat) (t : Option Nat) (l : List (Key × D)) (Q : Rs → Env → Prop) (ρ1 : Env) : Rs → Prop
  | .own s => s.nofd = true ∧ s.tag = none ∧ nofdE (ρ1.set j none) = true ∧ Q (.own s) (ρ1.set j (some (.md t l)))
  | _ => False
@[simp] theorem lockR_own {j : Nat} {t : Option Nat} {l : List (Key × D)} {Q : Rs → Env → Prop} {ρ1 : Env} {s : Sl} : lockR j t l Q ρ1 (.own s) = (s.nofd = true ∧ s.tag = none ∧ nofdE (ρ1.set j none) = true ∧ Q (.own s) (ρ1.set j (some (.md t l)))) := rfl
def lockQ (j : Nat) (f : M Rs) (ρ : Env) (Q : Rs → Env → Prop) : Option (Option Sl) → Prop
  | some (some (.md t l)) => Ev f (ρ.set j (some (.fd l))) fun r ρ1 => lockR j t l Q ρ1 r
  | some (some (.fd _)) => Ev f ρ Q
  | _ => False
@[simp] theorem lockQ_md {j : Nat} {f : M Rs} {Q : Rs → Env → Prop} {t : Option Nat} {l : List (Key × D)} : lockQ j f ρ Q (some (some (.md t l))) = (Ev f (ρ.set j (some (.fd l))) fun r ρ1 => lockR j t l Q ρ1 r) := rfl
@[simp] theorem lockQ_fd {j : Nat} {f : M Rs} {Q : Rs → Env → Prop} {l : List (Key × D)} : lockQ j f ρ Q (some (some (.fd l))) = Ev f ρ Q := rfl
@[simp ↓] theorem ev_lock {j : Nat} {f : M Rs} {Q : Rs → Env → Prop} : Ev (eLock j f) ρ Q ↔ lockQ j f ρ Q ρ[j]? := by
  constructor
  · rintro ⟨r, ρ', e, q⟩
    unfold eLock at e
    split at e
    · rename_i t l h
      rw [h]
      split at e
      · rename_i s ρ1 e2
        split at e
        · rename_i hc
          cases e
          exact ⟨_, _, e2, hc.1, hc.2.1, hc.2.2, q⟩
        · cases e
      · cases e
    · rename_i l h
      rw [h]
      exact ⟨r, ρ', e, q⟩
    · cases e
  · intro q
    unfold lockQ at q
    split at q
    · rename_i t l h
      obtain ⟨r, ρ1, e, q⟩ := q
      unfold lockR at q
      split at q
      · rename_i s
        refine ⟨_, _, ?_, q.2.2.2⟩
        unfold eLock
        rw [h]
        dsimp only
        rw [e]
        dsimp only
        rw [if_pos ⟨q.1, q.2.1, q.2.2.1⟩]
      · exact q.elim
    · rename_i l h
      obtain ⟨r, ρ1, e, q⟩ := q
      refine ⟨r, ρ1, ?_, q⟩
      unfold eLock
      rw [h]
      exact e
    · exact q.elim
def fdQ (g : List (Key × D) → List D) (ρ : Env) (Q : List D → Env → Prop) : Rs → Prop
  | .own (.fd l) => Q (g l) ρ
  | _ => False
@[simp] theorem fdQ_fd {g : List (Key × D) → List D} {Q : List D → Env → Prop} {l : List (Key × D)} : fdQ g ρ Q (.own (.fd l)) = Q (g l) ρ := rfl
theorem ev_fdQ {g : List (Key × D) → List D} {f : M Rs} {Q : List D → Env → Prop} : Ev (M.bind f fun r ρ => match r with
  | .own (.fd l) => some (.ok (g l) ρ)
  | _ => none) ρ Q ↔ Ev f ρ fun r ρ1 => fdQ g ρ1 Q r := by
  constructor
  · rintro ⟨l, ρ', e, q⟩
    obtain ⟨r, ρ1, e1, e2⟩ := M.bind_ok e
    split at e2
    · cases e2
      exact ⟨_, _, e1, q⟩
    · cases e2
  · rintro ⟨r, ρ1, e1, q⟩
    unfold fdQ at q
    split at q
    · refine ⟨_, _, ?_, q⟩
      unfold M.bind
      rw [e1]
    · exact q.elim
@[simp ↓] theorem ev_mItems {f : M Rs} {Q : List D → Env → Prop} : Ev (mItems f) ρ Q ↔ Ev f ρ fun r ρ1 => fdQ itemsD ρ1 Q r := ev_fdQ
@[simp] theorem nofd_p {d : D} : (Sl.p d).nofd = true := rfl
@[simp] theorem nofd_ml {t : Option Nat} {l : List D} : (Sl.ml t l).nofd = true := rfl
@[simp] theorem nofd_md {t : Option Nat} {l : List (Key × D)} : (Sl.md t l).nofd = true := rfl
@[simp] theorem nofdE_nil : nofdE [] = true := rfl
@[simp] theorem nofdE_none {r : Env} : nofdE (none :: r) = nofdE r := rfl
@[simp] theorem nofdE_p {r : Env} {d : D} : nofdE (some (.p d) :: r) = nofdE r := rfl
@[simp] theorem nofdE_ml {r : Env} {t : Option Nat} {l : List D} : nofdE (some (.ml t l) :: r) = nofdE r := rfl
@[simp] theorem nofdE_md {r : Env} {t : Option Nat} {l : List (Key × D)} : nofdE (some (.md t l) :: r) = nofdE r := rfl
end
end B
end Pd
set_option Elab.async false
set_option linter.all false
set_option maxRecDepth 100000
set_option maxHeartbeats 1000000
namespace Pd
open PySem PySem.Spec PyProof.Rows L2
open B (nofd_p nofd_ml nofd_md nofdE_nil nofdE_none nofdE_p nofdE_ml nofdE_md)
section
variable {ρ : Env}
def lockR (j : Nat) (t : Option Nat) (l : List (Key × D)) (Q : Rs → Env → Prop) [Fx Q] (ρ1 : Env) (o0 : Rs) : Prop := B.lockR j t l Q ρ1 o0
@[simp] theorem lockR_own {j : Nat} {t : Option Nat} {l : List (Key × D)} {Q : Rs → Env → Prop} {ρ1 : Env} {s : Sl} : lockR j t l Q ρ1 (.own s) = (s.nofd = true ∧ s.tag = none ∧ nofdE (ρ1.set j none) = true ∧ Q (.own s) (ρ1.set j (some (.md t l)))) := B.lockR_own
def lockQ (j : Nat) (f : M Rs) (ρ : Env) (Q : Rs → Env → Prop) [Fx Q] (o0 : Option (Option Sl)) : Prop := B.lockQ j f ρ Q o0
@[simp] theorem lockQ_md {j : Nat} {f : M Rs} {Q : Rs → Env → Prop} {t : Option Nat} {l : List (Key × D)} : lockQ j f ρ Q (some (some (.md t l))) = (Ev f (ρ.set j (some (.fd l))) fun r ρ1 => lockR j t l Q ρ1 r) := B.lockQ_md
@[simp] theorem lockQ_fd {j : Nat} {f : M Rs} {Q : Rs → Env → Prop} {l : List (Key × D)} : lockQ j f ρ Q (some (some (.fd l))) = Ev f ρ Q := B.lockQ_fd
@[simp ↓] theorem ev_lock {j : Nat} {f : M Rs} {Q : Rs → Env → Prop} : Ev (eLock j f) ρ Q ↔ lockQ j f ρ Q ρ[j]? := B.ev_lock
def fdQ (g : List (Key × D) → List D) (ρ : Env) (Q : List D → Env → Prop) [Fx Q] (o0 : Rs) : Prop := B.fdQ g ρ Q o0
@[simp] theorem fdQ_fd {g : List (Key × D) → List D} {Q : List D → Env → Prop} {l : List (Key × D)} : fdQ g ρ Q (.own (.fd l)) = Q (g l) ρ := B.fdQ_fd
theorem ev_fdQ {g : List (Key × D) → List D} {f : M Rs} {Q : List D → Env → Prop} : Ev (M.bind f fun r ρ => match r with
  | .own (.fd l) => some (.ok (g l) ρ)
  | _ => none) ρ Q ↔ Ev f ρ fun r ρ1 => fdQ g ρ1 Q r := B.ev_fdQ
@[simp ↓] theorem ev_mItems {f : M Rs} {Q : List D → Env → Prop} : Ev (mItems f) ρ Q ↔ Ev f ρ fun r ρ1 => fdQ itemsD ρ1 Q r := B.ev_mItems
end
end Pd
set_option Elab.async false
set_option linter.all false
set_option maxRecDepth 100000
set_option maxHeartbeats 1000000
set_option Elab.async false
set_option linter.all false
set_option maxRecDepth 100000
set_option maxHeartbeats 1000000
set_option Elab.async false
set_option linter.all false
set_option maxRecDepth 100000
set_option maxHeartbeats 1000000
set_option Elab.async false
set_option linter.all false
set_option maxRecDepth 100000
set_option maxHeartbeats 2000000
namespace Pd
open PySem PySem.Spec PyProof.Rows L2
open Classical in
noncomputable def opCallL (n : Nat) (F : List Sl → Option (Sl × List Sl)) : List Rs → M Rs := fun rs ρ => if rs.length = n ∧ (roots rs).Nodup then match argL rs ρ with
    | some ss => match F ss with
      | some (r, ss') => some (.ok (.own r) (wbL rs ss' ρ))
      | none => none
    | none => none
  else none
open Classical in
theorem opCallL_ok {K : PySem.W.Frag} {n : Nat} {F : List Sl → Option (Sl × List Sl)} : OpOk K (fun vs H Q => spD K n F vs H Q E0) (opCallL n F) := by
  intro vs0 σ B H ρ fs vs rs Ts Q g ok nd r' ρ' e k
  unfold opCallL at e
  split at e
  · rename_i hc
    split at e
    · rename_i ss e1
      split at e
      · rename_i r ss' e2
        cases e
        obtain ⟨hn, hnd⟩ := hc
        obtain ⟨fsA, gA, tg, hvl, step⟩ := call_core g ok nd hnd e1
        refine ⟨by rw [hvl]; exact hn, B, ss, fsA, gA, tg, r, ss', e2, fun v B' H' fs' T fr g' okr => ?_⟩
        obtain ⟨fs2, fr2, g2, t2⟩ := step ss' B' H' fs' T fr g' okr.2.2
        exact k v B' H' fs2 T fr2 g2 ⟨okr.1, okr.2.1, t2⟩
      · cases e
    · cases e
  · cases e
end Pd
set_option Elab.async false
set_option linter.all false
set_option maxRecDepth 100000
set_option maxHeartbeats 2000000
namespace Pd
open PySem PySem.Spec PyProof.Rows L2
def recOb (c m : Str) (r : Rs) (ρ : Env) : Bool := match argR r ρ with
  | some (.ob _ c' ns _) => decide (c' = c) && decide (m ∉ ns)
  | _ => false
def eChk (c m : Str) (fo : M Rs) : M Rs := M.bind fo fun r ρ => if recOb c m r ρ = true then some (.ok r ρ) else none
noncomputable def eCallM (c m : Str) (fo : M Rs) (fa : M (List Rs)) (n : Nat) (F : List Sl → Option (Sl × List Sl)) : M Rs := M.bind (aCons (eChk c m fo) fa) (opCallL n F)
theorem lookup_zip {ns : List Str} {m : Str} : ∀ {vs : List V}, m ∉ ns → (ns.zip vs).lookup m = none := by
  induction ns with
  | nil => intro vs _; rfl
  | cons a ns ih =>
    intro vs h
    cases vs with
    | nil => rfl
    | cons v vs =>
      rw [List.zip_cons_cons, List.lookup_cons]
      rw [List.mem_cons, not_or] at h
      rw [show (m == a) = false from by simpa using h.1]
      exact ih h.2
section
variable {K : PySem.W.Frag} {vs0 : List V} {B H : Hp} {σ : L2.St} {ρ : Env} {fs : Nat → List Addr} {c m : Str} {r : Rs} {x : V} {T : List Addr} {C : Addr}
theorem own_ob {v : V} {s : Sl} (h : Own K B H v s T) {t : Option Nat} {ns : List Str} {l : List Sl} (e : s.bare = .ob t c ns l) (hC : PySem.W.nsIn K mainGlobals c = some (some (.ref C))) (hm : m ∉ ns) : ∃ a dx fs, v = .ref a ∧ H a = some (.ins C dx fs) ∧ fs.lookup m = none := by
  cases s <;> cases e
  obtain ⟨a, dx, C', vs, Ts, rfl, rfl, h1, h2, h3, h4, h5, h6⟩ := h
  rw [hC] at h1
  cases h1
  exact ⟨a, dx, _, rfl, h2, lookup_zip hm⟩
theorem recOb_ok (g : Good K vs0 B H σ ρ fs) (ok : RsOk K B H σ fs x r T) (h : recOb c m r ρ = true) (hC : PySem.W.nsIn K mainGlobals c = some (some (.ref C))) : ∃ a dx fs, x = .ref a ∧ H a = some (.ins C dx fs) ∧ fs.lookup m = none := by
  unfold recOb at h
  split at h
  · rename_i t c' ns l e
    rw [Bool.and_eq_true] at h
    obtain ⟨h1, h2⟩ := h
    have h1 := of_decide_eq_true h1
    have h2 := of_decide_eq_true h2
    subst h1
    cases r with
    | own s =>
      cases e
      exact own_ob ok.1 rfl hC h2
    | bor i =>
      unfold argR at e
      dsimp only at e
      split at e
      · rename_i s e1
        obtain ⟨v, q1, q2⟩ := g.slot e1
        rw [ok.1] at q1
        cases q1
        exact own_ob q2 (Option.some.inj e) hC h2
      · cases e
    | lent i w k =>
      unfold argR at e
      dsimp only at e
      split at e
      · obtain ⟨s, e1, e2⟩ := Option.map_eq_some_iff.mp e
        obtain ⟨⟨v0, z1, z2, z3⟩, z4⟩ := ok
        obtain ⟨Tk, y1, y2, y3⟩ := z2.kid z3 e1
        exact own_ob y1 e2 hC h2
      · cases e
  · cases h
theorem rd_chk {fo : M Rs} {H : Hp} {Q : VK} (hC : PySem.W.nsIn K mainGlobals c = some (some (.ref C))) (q : rdE K vs0 (eChk c m fo) σ H Q) : rdE K vs0 fo σ H fun x H1 => (∃ a dx fs, x = .ref a ∧ H1 a = some (.ins C dx fs) ∧ fs.lookup m = none) ∧ Q x H1 := by
  obtain ⟨B, ρ, fs, g, r, ρ', e1, k⟩ := q
  obtain ⟨r1, ρ1, e2, e3⟩ := M.bind_ok e1
  split at e3
  · rename_i hr
    cases e3
    exact ⟨B, ρ, fs, g, _, _, e2, fun v B' H' fs' T fr g' ok => ⟨recOb_ok g' ok hr hC, k v B' H' fs' T fr g' ok⟩⟩
  · cases e3
end
structure CalleeM (P : Program) (w : World) (K : PySem.W.Frag) (mg : Str → Option Value) (base : Heap) (k : Nat) (c m : Str) (n : Nat) (F : List Sl → Option (Sl × List Sl)) : Prop where
  ex : ∃ C f fd ps, PySem.W.nsIn K mainGlobals c = some (some (.ref C)) ∧ Cls K C ∧ Meth K C m f ∧ FnOk P w K mg base CX0 k f fd ps (spD K n F) ∧ Binds K fd ps []
section
variable {X : Cx} {vs0 : List V} {k n : Nat} {F : List Sl → Option (Sl × List Sl)} {c m : Str} {o e : Expr} {es : List Expr} {p pos apos : Pos} {fo : M Rs} {fa : M (List Rs)} {pl : Sem Bool}
theorem rd_callM {K : PySem.W.Frag} {C : Addr} {σ : L2.St} {H : Hp} {Q : VK} (hC : PySem.W.nsIn K mainGlobals c = some (some (.ref C))) (q : rdE K vs0 (eCallM c m fo fa n F) σ H Q) : tMeth C m (spD K n F) [] E0 (rdE K vs0 fo) (rdA K vs0 fa) σ H Q := by
  refine rdE_imp (rd_chk hC (rd_cons (rd_op opCallL_ok q))) fun x H1 q1 => ?_
  obtain ⟨⟨a, dx, fs, e1, e2, e3⟩, q2⟩ := q1
  refine ⟨a, dx, fs, e1, e2, e3, ?_⟩
  obtain ⟨B, ρ, fs1, g, rs, ρ', e4, k⟩ := q2
  exact ⟨B, ρ, fs1, g, rs, ρ', e4, fun vs B' H' fs' Ts fr g' ok nd => by
    show spD K n F (x :: (vs ++ [])) H' Q E0
    rw [List.append_nil]
    exact k vs B' H' fs' Ts fr g' ok nd⟩
theorem de_meth (D : CalleeM X.prog X.w X.K X.mg X.base k c m n F) (hr : Room k X.A) (ho : PE X o (rdE X.K vs0 fo)) (ha : PA X (e :: es) (rdA X.K vs0 fa))
    (hst : starEach (e :: es) X.env = (false, eval e X.env) :: starEach es X.env := by rfl) (hpl : (backTo pos (starEach es X.env)).any (·.1) = false := by rfl)
    (ht : eval (.Call (.Attribute o m apos) (e :: es) [] pos) X.env = (do
      let ov ← eval o X.env
      standAt apos.atName
      let (f, first) ← holding [ov] (getMethod ov m pl)
      callWith pos f first (backTo pos (starEach (e :: es) X.env)) (backToKw pos (keywordEach [] X.env))) := by rfl) :
    PE X (.Call (.Attribute o m apos) (e :: es) [] pos) (rdE X.K vs0 (eCallM c m fo fa n F)) := by
  obtain ⟨C, f, fd, ps, hC, hcl, hme, Fn, hb⟩ := D.ex
  exact PE.imp (pe_meth ho hcl hme Fn hr hb .nil pass0 ha hst hpl ht) fun σ H Q q => rd_callM hC q
theorem de_meth0 (D : CalleeM X.prog X.w X.K X.mg X.base k c m n F) (hr : Room k X.A) (ho : PE X o (rdE X.K vs0 fo))
    (ht : eval (.Call (.Attribute o m apos) [] [] pos) X.env = (do
      let ov ← eval o X.env
      standAt apos.atName
      let (f, first) ← holding [ov] (getMethod ov m pl)
      callWith pos f first (backTo pos (starEach [] X.env)) (backToKw pos (keywordEach [] X.env))) := by rfl) :
    PE X (.Call (.Attribute o m apos) [] [] pos) (rdE X.K vs0 (eCallM c m fo aNil n F)) := by
  obtain ⟨C, f, fd, ps, hC, hcl, hme, Fn, hb⟩ := D.ex
  refine PE.imp (pe_meth0 (E := E0) ho hcl hme Fn hr hb .nil pass0 ht) fun σ H Q q => ?_
  refine rdE_imp (rd_callM hC q) fun x H1 q1 => ?_
  obtain ⟨a, dx, fs, e1, e2, e3, q2⟩ := q1
  exact ⟨a, dx, fs, e1, e2, e3, rdA_nil q2⟩
end
end Pd
set_option Elab.async false
set_option linter.all false
set_option maxRecDepth 100000
set_option maxHeartbeats 2000000
namespace Pd
open PySem PySem.Spec PyProof.Rows L2
def Sl.dat : Sl → Option D
  | .p d => some d
  | .ml _ l => some (.list l)
  | _ => none
def datAll : List Sl → Option (List D)
  | [] => some []
  | s :: r => match s.dat with
    | some d => match datAll r with
      | some t => some (d :: t)
      | none => none
    | none => none
section
variable {K : PySem.W.Frag} {vs0 : List V} {B H : Hp} {σ : L2.St} {ρ : Env} {fs : Nat → List Addr}
theorem dat_sh {v : V} {s : Sl} {T : List Addr} {d : D} (e : Same B H) (h : Own K B H v s T) (q : s.dat = some d) : ShD K B H v d := by
  cases s <;> cases q
  · exact ShD.of e h.1
  · obtain ⟨a, xs, rfl, rfl, h1, h2⟩ := h
    exact ⟨a, xs, rfl, Or.inl (Or.inl h1), h2⟩
theorem datAll_sh (e : Same B H) : ∀ {ss : List Sl} {vs : List V} {ds : List D}, (∀ (j : Nat) s, ss[j]? = some s → ∃ v T, vs[j]? = some v ∧ Own K B H v s T) → vs.length = ss.length → datAll ss = some ds → ShAll K B H vs ds
  | [], [], ds, _, _, q => by cases q; trivial
  | [], _ :: _, _, _, hl, _ => by cases hl
  | _ :: _, [], _, _, hl, _ => by cases hl
  | s :: ss, v :: vs, ds, h, hl, q => by
    unfold datAll at q
    split at q
    · rename_i d e1
      split at q
      · rename_i t e2
        cases q
        obtain ⟨v', T, h1, h2⟩ := h 0 s rfl
        cases h1
        exact ⟨dat_sh e h2 e1, datAll_sh e (fun j s' hj => h (j + 1) s' (by simpa using hj)) (by simpa using hl) e2⟩
      · cases q
    · cases q
end
open Classical in
noncomputable def opGL (pf : List D → Option Rd') : List Rs → M Rs := fun rs ρ => if (roots rs).Nodup then match argL rs ρ with
    | some ss => match datAll ss with
      | some ds => match pf ds with
        | some res => some (.ok res.rs (wbL rs ss ρ))
        | none => none
      | none => none
    | none => none
  else none
open Classical in
theorem opGL_ok {K : PySem.W.Frag} {r : List V → Hp → VK → Prop} {pf : List D → Option Rd'} (h : ∀ B H vs ds res Q, Same B H → ShAll K B H vs ds → pf ds = some res → ResK K B H Q res → r vs H Q) : OpOk K r (opGL pf) := by
  intro vs0 σ B H ρ fs vs rs Ts Q g ok nd r' ρ' e k
  unfold opGL at e
  split at e
  · rename_i hnd
    split at e
    · rename_i ss e1
      split at e
      · rename_i ds e2
        split at e
        · rename_i res e3
          cases e
          obtain ⟨fsA, gA, tg, hvl, step⟩ := call_core g ok nd hnd e1
          have hsl := (argL_get e1).1
          have hsh : ShAll K B H vs ds := datAll_sh g.ext (fun j s hj => by
            obtain ⟨v, h1, h2, _⟩ := gA.at_ j s (by rw [List.getElem?_map, hj]; rfl)
            rw [List.getElem?_map] at h1
            cases q : vs[j]? with
            | none => rw [q] at h1; cases h1
            | some v' => rw [q] at h1; cases h1; exact ⟨v, _, rfl, h2⟩) (by rw [hvl, hsl]) e2
          refine h B H vs ds res Q g.ext hsh e3 ?_
          cases res with
          | pd d =>
            intro v B' H' fr ex hd
            obtain ⟨fs2, fr2, g2, t2⟩ := step ss B' H' fsA [] (fr.weak (fun _ f => f.elim) fun a f => by
              rcases f with f | f
              · exact Or.inr (Or.inl f)
              · cases f) (gA.grow fr (fun _ _ f => f) ex) (fun a ha => nomatch ha)
            exact k v B' H' fs2 [] fr2 g2 ⟨⟨hd, rfl⟩, rfl, fun a ha => nomatch ha⟩
          | nl l =>
            intro p xs hp hd
            have fr := Fr.newL (B := B) (o := HO.lst xs) hp
            have hpB : B p = none := by
              cases e : B p with
              | none => rfl
              | some u => rw [g.ext p u e] at hp; cases hp
            have gA2 := gA.grow fr (fun _ _ f => f) (g.ext.trans fr.sameH)
            obtain ⟨fs2, fr2, g2, t2⟩ := step ss B (upd H p (HO.lst xs)) fsA [p] (fr.weak (fun _ f => f.elim) fun a f => by
              rcases f with f | f
              · exact Or.inr (Or.inl f)
              · exact Or.inl f) gA2 (fun a ha => by
                simp at ha
                subst ha
                exact ⟨hpB, fun i hi => gA.lives hi hp⟩)
            exact k (.ref p) B _ fs2 [p] fr2 g2 ⟨⟨p, xs, rfl, rfl, upd_same, hd⟩, rfl, t2⟩
        · cases e
      · cases e
    · cases e
  · cases e
noncomputable def opGA (pf : List D → Option Rd') : List Rs → M Rs := fun rs ρ => match opG pf rs ρ with
  | some x => some x
  | none => opGL pf rs ρ
theorem opGA_ok {K : PySem.W.Frag} {r : List V → Hp → VK → Prop} {pf : List D → Option Rd'} (h : ∀ B H vs ds res Q, Same B H → ShAll K B H vs ds → pf ds = some res → ResK K B H Q res → r vs H Q) : OpOk K r (opGA pf) := by
  intro vs0 σ B H ρ fs vs rs Ts Q g ok nd r' ρ' e k
  unfold opGA at e
  split at e
  · rename_i x e1
    cases e
    exact opG_ok h vs0 σ B H ρ fs vs rs Ts Q g ok nd r' ρ' e1 k
  · exact opGL_ok h vs0 σ B H ρ fs vs rs Ts Q g ok nd r' ρ' e k
end Pd
set_option Elab.async false
set_option linter.all false
set_option maxRecDepth 100000
set_option maxHeartbeats 2000000
namespace Pd
open PySem PySem.Spec PyProof.Rows L2
def ixOf (f : Str) : List Str → Option Nat
  | [] => none
  | a :: r => if a = f then some 0 else (ixOf f r).map (· + 1)
theorem ixOf_at {f : Str} : ∀ {ns : List Str} {k : Nat} {vs : List V}, ixOf f ns = some k → ns.length = vs.length → ∃ v, vs[k]? = some v ∧ (ns.zip vs).lookup f = some v
  | [], k, vs, h, _ => by cases h
  | a :: ns, k, [], h, hl => by cases hl
  | a :: ns, k, v :: vs, h, hl => by
    unfold ixOf at h
    rw [List.zip_cons_cons, List.lookup_cons]
    split at h
    · rename_i e
      cases h
      subst e
      exact ⟨v, rfl, by simp⟩
    · rename_i e
      obtain ⟨j, hj, rfl⟩ := Option.map_eq_some_iff.mp h
      obtain ⟨u, h1, h2⟩ := ixOf_at hj (by simpa using hl)
      refine ⟨u, by simpa using h1, ?_⟩
      rw [show (f == a) = false from by simpa using fun q : f = a => e q.symm]
      exact h2
def eAttr (c f : Str) (i : Nat) : M Rs := fun ρ => match ρ[i]? with
  | some (some (.ob t c' ns l)) => if c' = c then match ixOf f ns with
      | some k => match l[k]? with
        | some (.p d) => some (.ok (.own (.p d)) ρ)
        | some (.ml _ _) => some (.ok (.lent i (.ob t c' ns l) [k]) (ρ.set i (some (.hl t))))
        | some (.md _ _) => some (.ok (.lent i (.ob t c' ns l) [k]) (ρ.set i (some (.hl t))))
        | some (.mr _ _) => some (.ok (.lent i (.ob t c' ns l) [k]) (ρ.set i (some (.hl t))))
        | some (.ob _ _ _ _) => some (.ok (.lent i (.ob t c' ns l) [k]) (ρ.set i (some (.hl t))))
        | _ => none
      | none => none
    else none
  | _ => none
section
variable {K : PySem.W.Frag} {vs0 : List V} {B H : Hp} {σ : L2.St} {ρ : Env} {fs : Nat → List Addr}
theorem Good.hole {i : Nat} {s : Sl} (g : Good K vs0 B H σ ρ fs) (e : ρ[i]? = some (some s)) : Good K vs0 B H σ (ρ.set i (some (.hl s.tag))) (fun j => if j = i then [] else fs j) := by
  have hi : i < ρ.length := (List.getElem?_eq_some_iff.mp e).1
  refine ⟨g.ext, by rw [List.length_set]; exact g.len, fun j s' h => ?_, fun j h => ?_, fun j j' b hb hb' => ?_, fun j b hb => ?_⟩
  · by_cases q : j = i
    · subst q
      rw [List.getElem?_set_self hi] at h
      cases h
      obtain ⟨v, h1, h2, h3⟩ := g.at_ j s e
      exact ⟨v, h1, if_pos rfl, h3⟩
    · rw [List.getElem?_set_ne (Ne.symm q)] at h
      obtain ⟨v, h1, h2, h3⟩ := g.at_ j s' h
      exact ⟨v, h1, by rw [if_neg q]; exact h2, h3⟩
  · by_cases q : j = i
    · rw [if_pos q]
    · rw [if_neg q]
      exact g.emp j fun s' z => h s' (by rw [List.getElem?_set_ne (Ne.symm q)]; exact z)
  · by_cases q : j = i
    · rw [if_pos q] at hb; cases hb
    · by_cases q' : j' = i
      · rw [if_pos q'] at hb'; cases hb'
      · rw [if_neg q] at hb; rw [if_neg q'] at hb'; exact g.dis j j' b hb hb'
  · by_cases q : j = i
    · rw [if_pos q] at hb; cases hb
    · rw [if_neg q] at hb; exact g.out j b hb
theorem rd_attr {c f : Str} {i : Nat} {C : Addr} {Q : VK} (hC : PySem.W.nsIn K mainGlobals c = some (some (.ref C))) (hc : Cls K C) (hn : NoAttr K C f) (q : rdE K vs0 (eAttr c f i) σ H Q) : tFld K (tVar i) f σ H Q := by
  obtain ⟨B, ρ, fs, g, r, ρ', e1, k⟩ := q
  unfold eAttr at e1
  split at e1
  · rename_i t c' ns l e0
    split at e1
    · rename_i ec
      subst ec
      split at e1
      · rename_i j hj
        obtain ⟨v0, h1, h2, h3⟩ := g.at_ i _ e0
        have hown := h2
        obtain ⟨a, dx, C', vs, Ts, rfl, eT, q1, q2, q3, q4, q5, q6⟩ := h2
        rw [hC] at q1
        cases q1
        obtain ⟨v, hv, hlk⟩ := ixOf_at hj q3
        have lend : ∀ (w : Sl), l[j]? = some w → some (Out.ok (Rs.lent i (.ob t c' ns l) [j]) (ρ.set i (some (.hl t)))) = some (Out.ok r ρ') → tFld K (tVar i) f σ H Q := fun w hw e => by
          cases e
          refine ⟨.ref a, h1, a, C, dx, _, v, rfl, q2, hc, hn, hlk, ?_⟩
          refine k v B H (fun j => if j = i then [] else fs j) (fs i) ((Fr.refl B H (InF fs)).weak (fun _ h => h) fun b hb => Or.inl ?_) (g.hole e0) ⟨⟨.ref a, h1, hown, ?_⟩, fun b hb => ⟨g.out i b hb, fun j' hj' => ?_⟩⟩
          · rcases hb with ⟨j', hb⟩ | hb
            · dsimp only at hb
              by_cases z : j' = i
              · rw [if_pos z] at hb; cases hb
              · rw [if_neg z] at hb; exact ⟨j', hb⟩
            · exact ⟨i, hb⟩
          · refine ⟨v, w, ⟨a, C, dx, _, rfl, q2, ?_⟩, hw, rfl⟩
            rw [zip_snd q3]
            exact hv
          · dsimp only at hj'
            by_cases z : j' = i
            · rw [if_pos z] at hj'; cases hj'
            · rw [if_neg z] at hj'; exact z (g.dis j' i b hj' hb)
        split at e1
        · rename_i d hd
          cases e1
          obtain ⟨v', T, w1, w2, w3⟩ := OwnL.get q5 hd
          rw [hv] at w1
          cases w1
          exact ⟨.ref a, h1, a, C, dx, _, v, rfl, q2, hc, hn, hlk, k v B H fs [] fr_unr g ⟨⟨w3.1, rfl⟩, rfl, fun b hb => nomatch hb⟩⟩
        · rename_i hw; exact lend _ hw e1
        · rename_i hw; exact lend _ hw e1
        · rename_i hw; exact lend _ hw e1
        · rename_i hw; exact lend _ hw e1
        · cases e1
      · cases e1
    · cases e1
  · cases e1
end
structure AttrIs (K : PySem.W.Frag) (c f : Str) : Prop where
  ex : ∃ C, PySem.W.nsIn K mainGlobals c = some (some (.ref C)) ∧ Cls K C ∧ NoAttr K C f
theorem de_attr {X : Cx} {vs0 : List V} {c f : Str} {i : Nat} {e : Expr} {pos : Pos} (A : AttrIs X.K c f) (h : PE X e (tVar i)) (hb : attributeBase e f X.env (eval e X.env) = eval e X.env := by rfl) : PE X (.Attribute e f pos) (rdE X.K vs0 (eAttr c f i)) := by
  obtain ⟨C, hC, hc, hn⟩ := A.ex
  exact PE.imp (pe_fld h hb) fun σ H Q q => rd_attr hC hc hn q
end Pd
set_option Elab.async false
set_option linter.all false
set_option maxRecDepth 100000
set_option maxHeartbeats 2000000
namespace Pd
open PySem PySem.Spec PyProof.Rows L2
theorem putF_ix {f : Str} {y : V} : ∀ {ns : List Str} {vs : List V} {k : Nat}, ixOf f ns = some k → ns.length = vs.length → putF f y (ns.zip vs) = ns.zip (vs.set k y)
  | [], vs, k, h, _ => by cases h
  | a :: ns, [], k, h, hl => by cases hl
  | a :: ns, v :: vs, k, h, hl => by
    unfold ixOf at h
    rw [List.zip_cons_cons]
    unfold putF
    split at h
    · rename_i e
      cases h
      rw [if_pos e]
      rfl
    · rename_i e
      obtain ⟨j, hj, rfl⟩ := Option.map_eq_some_iff.mp h
      rw [if_neg e, putF_ix hj (by simpa using hl)]
      rfl
theorem putF_new {f : Str} {y : V} : ∀ {ns : List Str} {vs : List V}, ixOf f ns = none → ns.length = vs.length → putF f y (ns.zip vs) = (ns ++ [f]).zip (vs ++ [y])
  | [], [], _, _ => rfl
  | [], _ :: _, _, hl => by cases hl
  | _ :: _, [], _, hl => by cases hl
  | a :: ns, v :: vs, h, hl => by
    unfold ixOf at h
    rw [List.zip_cons_cons]
    unfold putF
    split at h
    · cases h
    · rename_i e
      rw [if_neg e, putF_new (by simpa using h) (by simpa using hl)]
      rfl
def setAt (f : Str) (ns : List Str) (l : List Sl) (s : Sl) : List Str × List Sl := match ixOf f ns with
  | some k => (ns, l.set k s)
  | none => (ns ++ [f], l ++ [s])
def gAttr (c f : Str) (i : Nat) (fe : M Rs) : M Fl := M.bind fe fun r ρ => match r, ρ[i]? with
  | .own s, some (some (.ob t c' ns l)) => if c' = c ∧ ns.length < 1000 then some (.ok .nx (ρ.set i (some (.ob t c' (setAt f ns l s).1 (setAt f ns l s).2)))) else none
  | _, _ => none
section
variable {K : PySem.W.Frag} {vs0 : List V} {B H H' : Hp} {σ : L2.St} {ρ : Env} {fs : Nat → List Addr}
theorem OwnL.snoc : ∀ {ss : List Sl} {vs : List V} {Ts : List (List Addr)} {v : V} {s : Sl} {T : List Addr}, OwnL K B H vs ss Ts → Own K B H v s T → OwnL K B H (vs ++ [v]) (ss ++ [s]) (Ts ++ [T])
  | [], [], [], v, s, T, _, o => ⟨o, trivial⟩
  | _ :: ss, _ :: vs, _ :: Ts, v, s, T, h, o => ⟨h.1, OwnL.snoc h.2 o⟩
  | [], [], _ :: _, _, _, _, h, _ => h.elim
  | [], _ :: _, _, _, _, _, h, _ => h.elim
  | _ :: _, [], _, _, _, _, h, _ => h.elim
  | _ :: _, _ :: _, [], _, _, _, h, _ => h.elim
theorem OwnL.len2 : ∀ {ss : List Sl} {vs : List V} {Ts : List (List Addr)}, OwnL K B H vs ss Ts → vs.length = ss.length ∧ Ts.length = ss.length
  | [], [], [], _ => ⟨rfl, rfl⟩
  | _ :: ss, _ :: vs, _ :: Ts, h => by
    obtain ⟨h1, h2⟩ := OwnL.len2 h.2
    exact ⟨by simp [h1], by simp [h2]⟩
  | [], [], _ :: _, h => h.elim
  | [], _ :: _, _, h => h.elim
  | _ :: _, [], _, h => h.elim
  | _ :: _, _ :: _, [], h => h.elim
theorem nodup_flat_set : ∀ {Ts : List (List Addr)} {k : Nat} {T : List Addr}, Ts.flatten.Nodup → T.Nodup → (∀ a ∈ T, a ∉ Ts.flatten) → (Ts.set k T).flatten.Nodup
  | [], k, T, h, _, _ => by simpa using h
  | T0 :: Ts, 0, T, h, hT, hd => by
    rw [List.set_cons_zero, List.flatten_cons, List.nodup_append]
    rw [List.flatten_cons, List.nodup_append] at h
    exact ⟨hT, h.2.1, fun a ha b hb e => hd a ha (by rw [List.flatten_cons]; exact List.mem_append_right _ (e ▸ hb))⟩
  | T0 :: Ts, k + 1, T, h, hT, hd => by
    rw [List.set_cons_succ, List.flatten_cons, List.nodup_append]
    rw [List.flatten_cons, List.nodup_append] at h
    refine ⟨h.1, nodup_flat_set h.2.1 hT fun a ha q => hd a ha (by rw [List.flatten_cons]; exact List.mem_append_right _ q), fun a ha b hb e => ?_⟩
    subst e
    rcases flat_set_mem hb with q | ⟨j, T', _, hj, q⟩
    · exact hd a q (by rw [List.flatten_cons]; exact List.mem_append_left _ ha)
    · exact h.2.2 a ha a (List.mem_flatten.mpr ⟨T', List.mem_of_getElem? hj, q⟩) rfl
theorem own_set {f : Str} {a dx C : Addr} {t : Option Nat} {c : Str} {ns : List Str} {l : List Sl} {vs : List V} {Ts : List (List Addr)} {y : V} {s : Sl} {T : List Addr} (hC : PySem.W.nsIn K mainGlobals c = some (some (.ref C)))
    (h3 : ns.length = vs.length) (h4 : H dx = some (.own a)) (h5 : OwnL K B H vs l Ts) (h6 : (a :: dx :: Ts.flatten).Nodup) (o : Own K B H y s T) (hd : ∀ b ∈ T, b ∉ a :: dx :: Ts.flatten) :
    ∃ T2, Own K B (upd H a (.ins C dx (putF f y (ns.zip vs)))) (.ref a) (.ob t c (setAt f ns l s).1 (setAt f ns l s).2) T2 ∧ ∀ b ∈ T2, b ∈ a :: dx :: Ts.flatten ∨ b ∈ T := by
  have hne : ∀ b ∈ dx :: Ts.flatten, b ≠ a := fun b hb e => (List.nodup_cons.mp h6).1 (e ▸ hb)
  have hnT : ∀ b ∈ T, b ≠ a := fun b hb e => hd b hb (by rw [e]; exact List.mem_cons_self ..)
  have o2 : Own K B (upd H a (.ins C dx (putF f y (ns.zip vs)))) y s T := o.keep (Same.refl B) fun b hb => upd_ne (hnT b hb)
  have l2 : OwnL K B (upd H a (.ins C dx (putF f y (ns.zip vs)))) vs l Ts := OwnL.keepA (Same.refl B) h5 fun b hb => upd_ne (hne b (List.mem_cons_of_mem _ hb))
  have dx2 : upd H a (.ins C dx (putF f y (ns.zip vs))) dx = some (.own a) := by rw [upd_ne (hne dx (List.mem_cons_self ..))]; exact h4
  obtain ⟨hl1, hl2⟩ := h5.len2
  have h62 := List.nodup_cons.mp (List.nodup_cons.mp h6).2
  cases q : ixOf f ns with
  | some k =>
    have e : setAt f ns l s = (ns, l.set k s) := by unfold setAt; rw [q]
    obtain ⟨v, hv, _⟩ := ixOf_at q h3
    have hk : k < vs.length := (List.getElem?_eq_some_iff.mp hv).1
    rw [e]
    have hsub : ∀ b ∈ (Ts.set k T).flatten, b ∈ Ts.flatten ∨ b ∈ T := fun b hb => by
      rcases flat_set_mem hb with z | ⟨j, T', _, hj, z⟩
      · exact Or.inr z
      · exact Or.inl (List.mem_flatten.mpr ⟨T', List.mem_of_getElem? hj, z⟩)
    have hnew : OwnL K B (upd H a (.ins C dx (putF f y (ns.zip vs)))) (vs.set k y) (l.set k s) (Ts.set k T) := by
      clear hsub e q hv
      have : ∀ {l : List Sl} {vs : List V} {Ts : List (List Addr)} {k : Nat} {H : Hp}, OwnL K B H vs l Ts → Own K B H y s T → OwnL K B H (vs.set k y) (l.set k s) (Ts.set k T) := by
        intro l
        induction l with
        | nil =>
          intro vs Ts k H h _
          match vs, Ts, h with
          | [], [], _ => trivial
        | cons s0 l ih =>
          intro vs Ts k H h o
          match vs, Ts, h with
          | v0 :: vs, T0 :: Ts, h =>
            cases k with
            | zero => exact ⟨o, h.2⟩
            | succ k => exact ⟨h.1, ih h.2 o⟩
      exact this l2 o2
    refine ⟨a :: dx :: (Ts.set k T).flatten, ⟨a, dx, C, vs.set k y, Ts.set k T, rfl, rfl, hC, by rw [upd_same, putF_ix q h3], by simpa using h3, dx2, hnew, ?_⟩, fun b hb => ?_⟩
    · rw [List.nodup_cons, List.nodup_cons]
      refine ⟨fun z => ?_, fun z => ?_, nodup_flat_set h62.2 o.nodup fun b hb z => hd b hb (List.mem_cons_of_mem _ (List.mem_cons_of_mem _ z))⟩
      · rcases List.mem_cons.mp z with z | z
        · exact hne dx (List.mem_cons_self ..) z.symm
        · rcases hsub a z with z | z
          · exact (List.nodup_cons.mp h6).1 (List.mem_cons_of_mem _ z)
          · exact hnT a z rfl
      · rcases hsub dx z with z | z
        · exact h62.1 z
        · exact hd dx z (List.mem_cons_of_mem _ (List.mem_cons_self ..))
    · rcases List.mem_cons.mp hb with z | z
      · rw [z]; exact Or.inl (List.mem_cons_self ..)
      · rcases List.mem_cons.mp z with z | z
        · rw [z]; exact Or.inl (List.mem_cons_of_mem _ (List.mem_cons_self ..))
        · rcases hsub b z with z | z
          · exact Or.inl (List.mem_cons_of_mem _ (List.mem_cons_of_mem _ z))
          · exact Or.inr z
  | none =>
    have e : setAt f ns l s = (ns ++ [f], l ++ [s]) := by unfold setAt; rw [q]
    rw [e]
    have ef : (Ts ++ [T]).flatten = Ts.flatten ++ T := by simp
    refine ⟨a :: dx :: (Ts ++ [T]).flatten, ⟨a, dx, C, vs ++ [y], Ts ++ [T], rfl, rfl, hC, by rw [upd_same, putF_new q h3], by simp [h3], dx2, OwnL.snoc l2 o2, ?_⟩, fun b hb => ?_⟩
    · rw [ef, List.nodup_cons, List.nodup_cons]
      refine ⟨fun z => ?_, fun z => ?_, ?_⟩
      · rcases List.mem_cons.mp z with z | z
        · exact hne dx (List.mem_cons_self ..) z.symm
        · rcases List.mem_append.mp z with z | z
          · exact (List.nodup_cons.mp h6).1 (List.mem_cons_of_mem _ z)
          · exact hnT a z rfl
      · rcases List.mem_append.mp z with z | z
        · exact h62.1 z
        · exact hd dx z (List.mem_cons_of_mem _ (List.mem_cons_self ..))
      · rw [List.nodup_append]
        exact ⟨h62.2, o.nodup, fun b hb b' hb' z => hd b' hb' (z ▸ List.mem_cons_of_mem _ (List.mem_cons_of_mem _ hb))⟩
    · rw [ef] at hb
      rcases List.mem_cons.mp hb with z | z
      · rw [z]; exact Or.inl (List.mem_cons_self ..)
      · rcases List.mem_cons.mp z with z | z
        · rw [z]; exact Or.inl (List.mem_cons_of_mem _ (List.mem_cons_self ..))
        · rcases List.mem_append.mp z with z | z
          · exact Or.inl (List.mem_cons_of_mem _ (List.mem_cons_of_mem _ z))
          · exact Or.inr z
end
end Pd
set_option Elab.async false
set_option linter.all false
set_option maxRecDepth 100000
set_option maxHeartbeats 2000000
namespace Pd
open PySem PySem.Spec PyProof.Rows L2
section
variable {K : PySem.W.Frag} {vs0 : List V} {σ : L2.St} {H : Hp} {c f : Str} {i : Nat} {fe : M Rs} {D : Ends} {C : Addr}
theorem rd_gAttr (hC : PySem.W.nsIn K mainGlobals c = some (some (.ref C))) (hc : Cls K C) (hn : NoAttr K C f) (q : rdS K vs0 (gAttr c f i fe) D σ H) : sFld K (tVar i) (rdE K vs0 fe) f D σ H := by
  obtain ⟨B, ρ, fs, g, fl, ρ', e1, k⟩ := q
  obtain ⟨r, ρ1, e2, e3⟩ := M.bind_ok e1
  split at e3
  · rename_i s t c' ns l e0
    split at e3
    · rename_i hcond
      obtain ⟨ec, hlen⟩ := hcond
      subst ec
      cases e3
      refine ⟨B, ρ, fs, g, _, ρ1, e2, fun v B1 H1 fs1 T1 fr1 g1 ok1 => ?_⟩
      obtain ⟨v0, h1, h2, h3⟩ := g1.at_ i _ e0
      obtain ⟨a, dx, C', vs, Ts, rfl, eT, q1, q2, q3, q4, q5, q6⟩ := h2
      rw [hC] at q1
      cases q1
      rw [eT] at q6
      have hi : i < ρ1.length := (List.getElem?_eq_some_iff.mp e0).1
      have ain : a ∈ fs1 i := by rw [eT]; exact List.mem_cons_self ..
      obtain ⟨T2, o2, hT2⟩ := own_set (f := f) (t := t) hC q3 q4 q5 q6 ok1.1 fun b hb => by
        rw [← eT]
        exact (ok1.2.2 b hb).2 i
      have hT2' : ∀ b ∈ T2, b ∈ fs1 i ∨ b ∈ T1 := fun b hb => by rw [eT]; exact hT2 b hb
      refine ⟨.ref a, h1, a, C, dx, _, rfl, q2, hc, hn, by rw [List.length_zip, ← q3]; omega, ?_⟩
      refine k σ B1 _ (fun j => if j = i then T2 else fs1 j) ?_ ?_
      · refine fr1.trans ((Fr.mut (F := UnF (InF fs1) T1) (Or.inl ⟨i, ain⟩)).weak (fun _ h => h) fun b hb => Or.inl ?_)
        obtain ⟨j, hj⟩ := hb
        dsimp only at hj
        by_cases e : j = i
        · rw [if_pos e] at hj
          rcases hT2' b hj with z | z
          · exact Or.inl ⟨i, z⟩
          · exact Or.inr z
        · rw [if_neg e] at hj
          exact Or.inl ⟨j, hj⟩
      · have nB : B1 a = none := g1.out i a ain
        refine ⟨fun b u e => ?_, by rw [List.length_set]; exact g1.len, fun j s' h => ?_, fun j h => ?_, fun j j' b hb hb' => ?_, fun j b hb => ?_⟩
        · rw [upd_ne (fun z => by rw [z, nB] at e; cases e)]
          exact g1.ext b u e
        · by_cases e : j = i
          · subst e
            rw [List.getElem?_set_self hi] at h
            cases h
            exact ⟨.ref a, h1, by rw [if_pos rfl]; exact o2, h3⟩
          · rw [List.getElem?_set_ne (Ne.symm e)] at h
            obtain ⟨v', y1, y2, y3⟩ := g1.at_ j s' h
            refine ⟨v', y1, ?_, y3⟩
            rw [if_neg e]
            exact y2.keep (Same.refl B1) fun b hb => upd_ne fun z => e (g1.dis j i b hb (z ▸ ain))
        · by_cases e : j = i
          · subst e
            exact (h _ (List.getElem?_set_self hi)).elim
          · rw [if_neg e]
            exact g1.emp j fun s' z => h s' (by rw [List.getElem?_set_ne (Ne.symm e)]; exact z)
        · by_cases e : j = i
          · by_cases e' : j' = i
            · rw [e, e']
            · rw [if_pos e] at hb; rw [if_neg e'] at hb'
              rcases hT2' b hb with z | z
              · exact e.trans (g1.dis i j' b z hb')
              · exact ((ok1.2.2 b z).2 j' hb').elim
          · by_cases e' : j' = i
            · rw [if_neg e] at hb; rw [if_pos e'] at hb'
              rcases hT2' b hb' with z | z
              · exact (g1.dis j i b hb z).trans e'.symm
              · exact ((ok1.2.2 b z).2 j hb).elim
            · rw [if_neg e] at hb; rw [if_neg e'] at hb'; exact g1.dis j j' b hb hb'
        · by_cases e : j = i
          · rw [if_pos e] at hb
            rcases hT2' b hb with z | z
            · exact g1.out i b z
            · exact (ok1.2.2 b z).1
          · rw [if_neg e] at hb; exact g1.out j b hb
    · cases e3
  · cases e3
end
theorem ds_attr {X : Cx} {vs0 : List V} {c f : Str} {i : Nat} {o value : Expr} {pos pos' : Pos} {fe : M Rs} (A : AttrIs X.K c f) (ho : PE X o (tVar i)) (hv : PE X value (rdE X.K vs0 fe)) (hs : swapsWith value (some (.Attribute o f pos')) pos.line X.env = pure false := by rfl) :
    PS X (.Assign [.Attribute o f pos'] value pos) (rdS X.K vs0 (gAttr c f i fe)) := by
  obtain ⟨C, hC, hc, hn⟩ := A.ex
  exact PS.imp (ps_fld ho hv hs) fun D σ H q => rd_gAttr hC hc hn q
end Pd
set_option Elab.async false
set_option linter.all false
set_option maxRecDepth 100000
set_option maxHeartbeats 2000000
namespace Pd
open PySem PySem.Spec PyProof.Rows L2
open Classical in
noncomputable def opMake (n : Nat) (c : Str) (F : List Sl → Option (Sl × List Sl)) : List Rs → M Rs := fun rs ρ => if rs.length + 1 = n ∧ (roots rs).Nodup then match argL rs ρ with
    | some ss => match F (.ob none c [] [] :: ss) with
      | some (.p .none, s :: ss') => if s.tag = none then some (.ok (.own s) (wbL rs ss' ρ)) else none
      | _ => none
    | none => none
  else none
def rMake (K : PySem.W.Frag) (C : Addr) (n : Nat) (F : List Sl → Option (Sl × List Sl)) : List V → Hp → VK → Prop := fun vs H Q => ∀ x dx, H x = none → H dx = none → dx ≠ x → spD K n F (.ref x :: vs) (upd (upd H dx (.own x)) x (.ins C dx [])) (fun v H2 => v = .non ∧ Q (.ref x) H2) E0
open Classical in
theorem opMake_ok {K : PySem.W.Frag} {n : Nat} {c : Str} {C : Addr} {F : List Sl → Option (Sl × List Sl)} (hC : PySem.W.nsIn K mainGlobals c = some (some (.ref C))) : OpOk K (rMake K C n F) (opMake n c F) := by
  intro vs0 σ B H ρ fs vs rs Ts Q g ok nd r' ρ' e k
  unfold opMake at e
  split at e
  · rename_i hc
    obtain ⟨hn, hnd⟩ := hc
    split at e
    · rename_i ss e1
      split at e
      · rename_i s ss' e2
        split at e
        · rename_i htag
          cases e
          intro x dx hx hdx hne
          have hBx : B x = none := by
            cases q : B x with
            | none => rfl
            | some u => rw [g.ext x u q] at hx; cases hx
          have hBdx : B dx = none := by
            cases q : B dx with
            | none => rfl
            | some u => rw [g.ext dx u q] at hdx; cases hdx
          have up : ∀ b, H b ≠ none → upd (upd H dx (.own x)) x (.ins C dx []) b = H b := fun b hb => by
            rw [upd_ne (fun z => hb (by rw [z]; exact hx)), upd_ne (fun z => hb (by rw [z]; exact hdx))]
          have upx : upd (upd H dx (.own x)) x (.ins C dx []) x = some (.ins C dx []) := upd_same
          have updx : upd (upd H dx (.own x)) x (.ins C dx []) dx = some (.own x) := by rw [upd_ne hne, upd_same]
          generalize hH : upd (upd H dx (.own x)) x (.ins C dx []) = Hn at up upx updx
          have fr : Fr B H (InF fs) B Hn (UnF (InF fs) [x, dx]) := ⟨Same.refl B, fun b hb _ => up b hb, fun b hb => by rw [up b hb]; exact hb, fun b hb => by
            rcases hb with hb | hb
            · exact Or.inl hb
            · refine Or.inr ?_
              simp at hb
              rcases hb with z | z <;> rw [z]
              · exact hx
              · exact hdx, fun b _ _ hb => hb⟩
          have gn : Good K vs0 B Hn σ ρ fs := g.grow (F := fun _ => False) (F' := fun _ => False) ⟨Same.refl B, fun b hb _ => up b hb, fun b hb => by rw [up b hb]; exact hb, fun _ f => f.elim, fun b _ _ hb => hb⟩ (fun _ _ f => f) fun b u q => by
            have := g.ext b u q
            rw [up b (by rw [this]; simp)]
            exact this
          have okn : RsAll K B Hn σ fs vs rs Ts := RsAll.keep fr (fun a ha => Or.inl ha) ok ok.off
          have offx : ∀ b ∈ [x, dx], ∀ i, b ∉ fs i := fun b hb i hi => by
            have := g.lives hi
            simp at hb
            rcases hb with z | z <;> rw [z] at this
            · exact this hx
            · exact this hdx
          have ok2 : RsAll K B Hn σ fs (.ref x :: vs) (.own (.ob none c [] []) :: rs) ([x, dx] :: Ts) := ⟨⟨⟨x, dx, C, [], [], rfl, rfl, hC, upx, rfl, updx, trivial, by simp; exact fun z => hne z.symm⟩, rfl, fun b hb => ⟨by
            simp at hb
            rcases hb with z | z <;> rw [z]
            · exact hBx
            · exact hBdx, offx b hb⟩⟩, okn⟩
          have nd2 : ([x, dx] :: Ts).flatten.Nodup := by
            rw [List.flatten_cons, List.nodup_append]
            refine ⟨by simp; exact fun z => hne z.symm, nd, fun b hb b' hb' z => ?_⟩
            have := RsAll.live ok b' hb'
            rw [← z] at this
            simp at hb
            rcases hb with y | y <;> rw [y] at this
            · exact this hx
            · exact this hdx
          have e1' : argL (.own (.ob none c [] []) :: rs) ρ = some (.ob none c [] [] :: ss) := by
            unfold argL argR
            dsimp only
            rw [e1]
          obtain ⟨fsA, gA, tg, hvl, step⟩ := call_core gn ok2 nd2 (show (roots (.own (.ob none c [] []) :: rs)).Nodup from hnd) e1'
          refine ⟨by rw [hvl, List.length_cons]; exact hn, B, _, fsA, gA, tg, _, _, e2, fun v B' H' fs' T fr' g' okr => ?_⟩
          obtain ⟨⟨hv, hT⟩, _, _⟩ := okr
          have hv : v = .non := by cases hv; rfl
          subst hT
          refine ⟨hv, ?_⟩
          have g0 := g'.hole (i := 0) (s := s) rfl
          rw [htag] at g0
          obtain ⟨v0, y1, y2, y3⟩ := g'.at_ 0 s rfl
          cases y1
          obtain ⟨fs2, fr2, g2, t2⟩ := step (.hl none :: ss') B' H' (fun j => if j = 0 then [] else fs' j) (fs' 0) (fr'.weak (fun _ h => h) fun b hb => Or.inl (by
            rcases hb with ⟨j, hj⟩ | hb
            · try dsimp only at hj
              by_cases z : j = 0
              · rw [if_pos z] at hj; cases hj
              · rw [if_neg z] at hj; exact Or.inl ⟨j, hj⟩
            · exact Or.inl ⟨0, hb⟩)) g0 (fun b hb => ⟨g'.out 0 b hb, fun j hj => by
              try dsimp only at hj
              by_cases z : j = 0
              · rw [if_pos z] at hj; cases hj
              · rw [if_neg z] at hj; exact z (g'.dis j 0 b hj hb)⟩)
          refine k (.ref x) B' H' fs2 (fs' 0) ?_ g2 ⟨y2, htag, t2⟩
          refine ((fr.frame Ts.flatten).weak (fun _ h => h) (G' := UnF (InF fs) ([x, dx] :: Ts).flatten) fun b hb => Or.inl ?_).trans fr2
          rcases hb with hb | hb
          · exact Or.inl (Or.inl hb)
          · rw [List.flatten_cons, List.mem_append] at hb
            rcases hb with hb | hb
            · exact Or.inl (Or.inr hb)
            · exact Or.inr hb
        · cases e
      · cases e
    · cases e
  · cases e
structure CalleeC (P : Program) (w : World) (K : PySem.W.Frag) (mg : Str → Option Value) (base : Heap) (k : Nat) (x c : Str) (n : Nat) (F : List Sl → Option (Sl × List Sl)) : Prop where
  ex : ∃ C f fd ps, PySem.W.nsIn K mainGlobals c = some (some (.ref C)) ∧ Mk K C f ∧ FnOk P w K mg base CX0 k f fd ps (spD K n F) ∧ mg x = some (.ref C) ∧ Binds K fd ps []
section
variable {X : Cx} {vs0 : List V} {k n : Nat} {F : List Sl → Option (Sl × List Sl)} {x c : Str} {p pos : Pos} {e : Expr} {es : List Expr} {fa : M (List Rs)}
theorem de_make0 (D : CalleeC X.prog X.w X.K X.mg X.base k x c n F) (hr : Room (k + 1) X.A) (hg : Gl X x) (hdb : (x == ("__debug__" : Str)) = false := by decide) :
    PE X (.Call (.Name x p) [] [] pos) (rdE X.K vs0 (M.bind aNil (opMake n c F))) := by
  obtain ⟨C, f, fd, ps, hC, hM, Fn, hm, hb⟩ := D.ex
  exact PE.imp (pe_make0 (E := E0) hM Fn hr hg hm hb .nil pass0 hdb) fun σ H Q q => rdA_nil (rd_op (opMake_ok hC) q)
end
end Pd
set_option Elab.async false
set_option linter.all false
set_option maxRecDepth 100000
set_option maxHeartbeats 2000000
set_option Elab.async false
set_option linter.all false
set_option maxRecDepth 100000
set_option maxHeartbeats 2000000
set_option Elab.async false
set_option linter.all false
set_option maxRecDepth 100000
set_option maxHeartbeats 2000000
set_option Elab.async false
set_option linter.all false
set_option maxRecDepth 100000
set_option maxHeartbeats 2000000
namespace Pd
open PySem PySem.Spec PyProof.Rows L2
theorem pIx_ok {K : PySem.W.Frag} : ∀ B H vs ds res Q, Same B H → ShAll K B H vs ds → pIx ds = some res → ResK K B H Q res → r2 (rIx K) vs H Q := fun B H vs ds res Q e hs hp k => by
  unfold pIx at hp
  split at hp
  · rename_i l i
    obtain ⟨x, y, rfl, ⟨p, xs, rfl, s1, d1⟩, h2⟩ := hs.two
    cases e1 : atI l i with
    | none => rw [e1] at hp; cases hp
    | some d =>
      rw [e1] at hp
      cases hp
      obtain ⟨v, e2, hv⟩ := atI_dp d1 e1
      exact ⟨_, _, rfl, Or.inl ⟨p, xs, i, v, rfl, h2.int, s1, e2, k.same e hv⟩⟩
  · rename_i l i
    obtain ⟨x, y, rfl, h1, h2⟩ := hs.two
    obtain ⟨p, xs, rfl, s1, d1⟩ := h1.tup
    cases e1 : atI l i with
    | none => rw [e1] at hp; cases hp
    | some d =>
      rw [e1] at hp
      cases hp
      obtain ⟨v, e2, hv⟩ := atI_dp d1 e1
      exact ⟨_, _, rfl, Or.inr (Or.inl ⟨p, xs, i, v, rfl, h2.int, sqt_mono e s1, e2, k.same e hv⟩)⟩
  · rename_i z i
    split at hp
    · rename_i hz
      obtain ⟨x, y, rfl, h1, h2⟩ := hs.two
      cases e1 : atI z.cps.toList i with
      | none => rw [e1] at hp; cases hp
      | some c =>
        rw [e1] at hp
        cases hp
        exact ⟨_, _, rfl, Or.inr (Or.inr ⟨z, i, c, h1.str, h2.int, hz, e1, k.str e⟩)⟩
    · cases hp
  · cases hp
noncomputable def oIxA := opGA pIx
theorem oIxA_ok {K : PySem.W.Frag} : OpOk K (r2 (rIx K)) oIxA := opGA_ok pIx_ok
section
variable {K : PySem.W.Frag} {vs0 : List V} {σ : L2.St} {B1 H1 : Hp} {ρ1 : Env} {fs1 : Nat → List Addr} {c f : Str} {i : Nat} {t : Option Nat} {ns : List Str} {l : List Sl} {s : Sl} {v : V} {T1 : List Addr} {C : Addr}
theorem good_setA (hC : PySem.W.nsIn K mainGlobals c = some (some (.ref C))) (g1 : Good K vs0 B1 H1 σ ρ1 fs1) (ok1 : RsOk K B1 H1 σ fs1 v (.own s) T1) (e0 : ρ1[i]? = some (some (.ob t c ns l))) :
    ∃ a dx vs, σ[i]? = some (some (.ref a)) ∧ H1 a = some (.ins C dx (ns.zip vs)) ∧ ns.length = vs.length ∧ vs.length = l.length ∧ ∃ fs', Fr B1 H1 (UnF (InF fs1) T1) B1 (upd H1 a (.ins C dx (putF f v (ns.zip vs)))) (InF fs') ∧
      Good K vs0 B1 (upd H1 a (.ins C dx (putF f v (ns.zip vs)))) σ (ρ1.set i (some (.ob t c (setAt f ns l s).1 (setAt f ns l s).2))) fs' := by
  obtain ⟨v0, h1, h2, h3⟩ := g1.at_ i _ e0
  obtain ⟨a, dx, C', vs, Ts, rfl, eT, q1, q2, q3, q4, q5, q6⟩ := h2
  rw [hC] at q1
  cases q1
  rw [eT] at q6
  have hi : i < ρ1.length := (List.getElem?_eq_some_iff.mp e0).1
  have ain : a ∈ fs1 i := by rw [eT]; exact List.mem_cons_self ..
  obtain ⟨T2, o2, hT2⟩ := own_set (f := f) (t := t) hC q3 q4 q5 q6 ok1.1 fun b hb => by
    rw [← eT]
    exact (ok1.2.2 b hb).2 i
  have hT2' : ∀ b ∈ T2, b ∈ fs1 i ∨ b ∈ T1 := fun b hb => by rw [eT]; exact hT2 b hb
  refine ⟨a, dx, vs, h1, q2, q3, q5.len2.1, fun j => if j = i then T2 else fs1 j, ?_, ?_⟩
  · refine (Fr.mut (F := UnF (InF fs1) T1) (Or.inl ⟨i, ain⟩)).weak (fun _ h => h) fun b hb => Or.inl ?_
    obtain ⟨j, hj⟩ := hb
    dsimp only at hj
    by_cases e : j = i
    · rw [if_pos e] at hj
      rcases hT2' b hj with z | z
      · exact Or.inl ⟨i, z⟩
      · exact Or.inr z
    · rw [if_neg e] at hj
      exact Or.inl ⟨j, hj⟩
  · have nB : B1 a = none := g1.out i a ain
    refine ⟨fun b u e => ?_, by rw [List.length_set]; exact g1.len, fun j s' h => ?_, fun j h => ?_, fun j j' b hb hb' => ?_, fun j b hb => ?_⟩
    · rw [upd_ne (fun z => by rw [z, nB] at e; cases e)]
      exact g1.ext b u e
    · by_cases e : j = i
      · subst e
        rw [List.getElem?_set_self hi] at h
        cases h
        exact ⟨.ref a, h1, by rw [if_pos rfl]; exact o2, h3⟩
      · rw [List.getElem?_set_ne (Ne.symm e)] at h
        obtain ⟨v', y1, y2, y3⟩ := g1.at_ j s' h
        refine ⟨v', y1, ?_, y3⟩
        rw [if_neg e]
        exact y2.keep (Same.refl B1) fun b hb => upd_ne fun z => e (g1.dis j i b hb (z ▸ ain))
    · by_cases e : j = i
      · subst e
        exact (h _ (List.getElem?_set_self hi)).elim
      · rw [if_neg e]
        exact g1.emp j fun s' z => h s' (by rw [List.getElem?_set_ne (Ne.symm e)]; exact z)
    · by_cases e : j = i
      · by_cases e' : j' = i
        · rw [e, e']
        · rw [if_pos e] at hb; rw [if_neg e'] at hb'
          rcases hT2' b hb with z | z
          · exact e.trans (g1.dis i j' b z hb')
          · exact ((ok1.2.2 b z).2 j' hb').elim
      · by_cases e' : j' = i
        · rw [if_neg e] at hb; rw [if_pos e'] at hb'
          rcases hT2' b hb' with z | z
          · exact (g1.dis j i b hb z).trans e'.symm
          · exact ((ok1.2.2 b z).2 j hb).elim
        · rw [if_neg e] at hb; rw [if_neg e'] at hb'; exact g1.dis j j' b hb hb'
    · by_cases e : j = i
      · rw [if_pos e] at hb
        rcases hT2' b hb with z | z
        · exact g1.out i b z
        · exact (ok1.2.2 b z).1
      · rw [if_neg e] at hb; exact g1.out j b hb
end
def gAugA (op : Int → Int → Int) (c f : Str) (i : Nat) (fe : M Rs) : M Fl := fun ρ => match ρ[i]? with
  | some (some (.ob t c' ns l)) => if c' = c then match ixOf f ns with
      | some k => match l[k]? with
        | some (.p (.int x)) => M.bind fe (fun r ρ1 => match r.view ρ1, ρ1[i]? with
          | some (.int y), some (some (.ob t1 c1 ns1 l1)) => if c1 = c ∧ ns1.length < 1000 then some (.ok .nx (ρ1.set i (some (.ob t1 c1 (setAt f ns1 l1 (.p (.int (op x y)))).1 (setAt f ns1 l1 (.p (.int (op x y)))).2)))) else none
          | _, _ => none) ρ
        | _ => none
      | none => none
    else none
  | _ => none
def augInt (op : Int → Int → Int) : V → V → Hp → VK → Prop := fun x y H Q => ∃ i j, x = .int i ∧ y = .int j ∧ Q (.int (op i j)) H
theorem rd_gAugA {K : PySem.W.Frag} {vs0 : List V} {σ : L2.St} {H : Hp} {c f : Str} {i : Nat} {fe : M Rs} {D : Ends} {C : Addr} {op : Int → Int → Int} (hC : PySem.W.nsIn K mainGlobals c = some (some (.ref C))) (hc : Cls K C) (hn : NoAttr K C f)
    (q : rdS K vs0 (gAugA op c f i fe) D σ H) : sFldAug K (tVar i) (rdE K vs0 fe) (augInt op) f D σ H := by
  obtain ⟨B, ρ, fs, g, fl, ρ', e1, k⟩ := q
  unfold gAugA at e1
  split at e1
  · rename_i t c' ns l e0
    split at e1
    · rename_i ec
      subst ec
      split at e1
      · rename_i kk hk
        split at e1
        · rename_i x hx
          obtain ⟨r, ρ1, e2, e3⟩ := M.bind_ok e1
          obtain ⟨v0, h1, h2, h3⟩ := g.at_ i _ e0
          obtain ⟨a, dx, C', vs, Ts, rfl, eT, q1, q2, q3, q4, q5, q6⟩ := h2
          rw [hC] at q1
          cases q1
          obtain ⟨v, hv, hlk⟩ := ixOf_at hk q3
          obtain ⟨v', T', w1, w2, w3⟩ := OwnL.get q5 hx
          rw [hv] at w1
          cases w1
          have hvi : v = .int x := by
            have := w3.1
            cases this
            rfl
          subst hvi
          refine ⟨.ref a, h1, a, C, dx, _, _, rfl, q2, hc, hn, hlk, B, ρ, fs, g, r, ρ1, e2, fun y B1 H1 fs1 T1 fr1 g1 ok1 => ?_⟩
          split at e3
          · rename_i yv t1 c1 ns1 l1 hy e4
            split at e3
            · rename_i hcond
              obtain ⟨ec1, hlen⟩ := hcond
              subst ec1
              cases e3
              refine ⟨x, yv, rfl, (view_ok g1 ok1 hy).int, ?_⟩
              have okn : RsOk K B1 H1 σ fs1 (.int (op x yv)) (.own (.p (.int (op x yv)))) [] := ⟨⟨.int _, rfl⟩, rfl, fun a ha => nomatch ha⟩
              obtain ⟨a', dx', vs', y1, y2, y3, y4, fs', fr', g'⟩ := good_setA (f := f) hC g1 okn e4
              rw [h1] at y1
              cases y1
              refine ⟨dx', _, y2, by rw [List.length_zip, ← y3]; omega, ?_⟩
              refine k σ B1 _ fs' ?_ g'
              refine fr1.trans (fr'.weak (fun b hb => ?_) fun b hb => Or.inl hb)
              rcases hb with hb | hb
              · exact Or.inl hb
              · cases hb
            · cases e3
          · cases e3
        · cases e1
      · cases e1
    · cases e1
  · cases e1
theorem ds_attrAug {X : Cx} {vs0 : List V} {c f : Str} {i : Nat} {o value : Expr} {oper : Operator} {pos tpos : Pos} {fe : M Rs} {op : Int → Int → Int} (hop : InOp X oper (augInt op)) (A : AttrIs X.K c f) (ho : PE X o (tVar i)) (hv : PE X value (rdE X.K vs0 fe)) :
    PS X (.AugAssign (.Attribute o f tpos) oper value pos) (rdS X.K vs0 (gAugA op c f i fe)) := by
  obtain ⟨C, hC, hc, hn⟩ := A.ex
  exact PS.imp (ps_fldaug ho hv hop) fun D σ H q => rd_gAugA hC hc hn q
theorem ds_attrAdd {X : Cx} {vs0 : List V} {c f : Str} {i : Nat} {o value : Expr} {pos tpos : Pos} {fe : M Rs} (A : AttrIs X.K c f) (ho : PE X o (tVar i)) (hv : PE X value (rdE X.K vs0 fe)) :
    PS X (.AugAssign (.Attribute o f tpos) .Add value pos) (rdS X.K vs0 (gAugA (fun a b => a + b) c f i fe)) := ds_attrAug in_add A ho hv
end Pd
set_option Elab.async false
set_option linter.all false
set_option maxRecDepth 100000
set_option maxHeartbeats 1000000
namespace Pd
open PySem PySem.Spec PyProof.Rows L2
namespace B
section
variable {ρ : Env}
theorem ev_make {n : Nat} {c : Str} {F : List Sl → Option (Sl × List Sl)} {rs : List Rs} {ss : List Sl} {Q : Rs → Env → Prop} (hn : rs.length + 1 = n) (hd : (roots rs).Nodup) (ha : argL rs ρ = some ss)
    (h : Sp F (.ob none c [] [] :: ss) fun r ss' => ∃ s ss2, r = .p .none ∧ ss' = s :: ss2 ∧ s.tag = none ∧ Q (.own s) (wbL rs ss2 ρ)) : Ev (opMake n c F rs) ρ Q := by
  obtain ⟨r, ss', e, s, ss2, rfl, rfl, ht, q⟩ := h
  refine ⟨_, _, ?_, q⟩
  unfold opMake
  rw [if_pos ⟨hn, hd⟩, ha]
  dsimp only
  rw [e]
  dsimp only
  rw [if_pos ht]
end
end B
end Pd
set_option Elab.async false
set_option linter.all false
set_option maxRecDepth 100000
set_option maxHeartbeats 1000000
set_option Elab.async false
set_option linter.all false
set_option maxRecDepth 100000
set_option maxHeartbeats 1000000
namespace Pd
open PySem PySem.Spec PyProof.Rows L2
namespace B
section
variable {ρ : Env}
def attrS (i k : Nat) (t : Option Nat) (c : Str) (ns : List Str) (l : List Sl) (ρ : Env) (Q : Rs → Env → Prop) : Option Sl → Prop
  | some (.p d) => Q (.own (.p d)) ρ
  | some (.ml _ _) => Q (.lent i (.ob t c ns l) [k]) (ρ.set i (some (.hl t)))
  | some (.md _ _) => Q (.lent i (.ob t c ns l) [k]) (ρ.set i (some (.hl t)))
  | some (.mr _ _) => Q (.lent i (.ob t c ns l) [k]) (ρ.set i (some (.hl t)))
  | some (.ob _ _ _ _) => Q (.lent i (.ob t c ns l) [k]) (ρ.set i (some (.hl t)))
  | _ => False
@[simp] theorem attrS_p {i k : Nat} {t : Option Nat} {c : Str} {ns : List Str} {l : List Sl} {Q : Rs → Env → Prop} {d : D} : attrS i k t c ns l ρ Q (some (.p d)) = Q (.own (.p d)) ρ := rfl
@[simp] theorem attrS_ml {i k : Nat} {t t' : Option Nat} {c : Str} {ns : List Str} {l : List Sl} {Q : Rs → Env → Prop} {d : List D} : attrS i k t c ns l ρ Q (some (.ml t' d)) = Q (.lent i (.ob t c ns l) [k]) (ρ.set i (some (.hl t))) := rfl
@[simp] theorem attrS_md {i k : Nat} {t t' : Option Nat} {c : Str} {ns : List Str} {l : List Sl} {Q : Rs → Env → Prop} {d : List (Key × D)} : attrS i k t c ns l ρ Q (some (.md t' d)) = Q (.lent i (.ob t c ns l) [k]) (ρ.set i (some (.hl t))) := rfl
@[simp] theorem attrS_mr {i k : Nat} {t t' : Option Nat} {c : Str} {ns : List Str} {l : List Sl} {Q : Rs → Env → Prop} {d : List Sl} : attrS i k t c ns l ρ Q (some (.mr t' d)) = Q (.lent i (.ob t c ns l) [k]) (ρ.set i (some (.hl t))) := rfl
@[simp] theorem attrS_ob {i k : Nat} {t t' : Option Nat} {c c' : Str} {ns ns' : List Str} {l : List Sl} {Q : Rs → Env → Prop} {d : List Sl} : attrS i k t c ns l ρ Q (some (.ob t' c' ns' d)) = Q (.lent i (.ob t c ns l) [k]) (ρ.set i (some (.hl t))) := rfl
def attrK (i : Nat) (t : Option Nat) (c : Str) (ns : List Str) (l : List Sl) (ρ : Env) (Q : Rs → Env → Prop) : Option Nat → Prop
  | some k => attrS i k t c ns l ρ Q l[k]?
  | none => False
@[simp] theorem attrK_s {i k : Nat} {t : Option Nat} {c : Str} {ns : List Str} {l : List Sl} {Q : Rs → Env → Prop} : attrK i t c ns l ρ Q (some k) = attrS i k t c ns l ρ Q l[k]? := rfl
def attrQ (c f : Str) (i : Nat) (ρ : Env) (Q : Rs → Env → Prop) : Option (Option Sl) → Prop
  | some (some (.ob t c' ns l)) => c' = c ∧ attrK i t c' ns l ρ Q (ixOf f ns)
  | _ => False
@[simp] theorem attrQ_ob {c f : Str} {i : Nat} {t : Option Nat} {c' : Str} {ns : List Str} {l : List Sl} {Q : Rs → Env → Prop} : attrQ c f i ρ Q (some (some (.ob t c' ns l))) = (c' = c ∧ attrK i t c' ns l ρ Q (ixOf f ns)) := rfl
@[simp ↓] theorem ev_attr {c f : Str} {i : Nat} {Q : Rs → Env → Prop} : Ev (eAttr c f i) ρ Q ↔ attrQ c f i ρ Q ρ[i]? := by
  constructor
  · rintro ⟨r, ρ', e, q⟩
    unfold eAttr at e
    split at e
    · rename_i t c' ns l h
      rw [h]
      split at e
      · rename_i hc
        refine ⟨hc, ?_⟩
        split at e
        · rename_i k hk
          rw [hk, attrK_s]
          split at e
          · rename_i h2; cases e; rw [h2]; exact q
          · rename_i h2; cases e; rw [h2]; exact q
          · rename_i h2; cases e; rw [h2]; exact q
          · rename_i h2; cases e; rw [h2]; exact q
          · rename_i h2; cases e; rw [h2]; exact q
          · cases e
        · cases e
      · cases e
    · cases e
  · intro q
    unfold attrQ at q
    split at q
    · rename_i t c' ns l h
      obtain ⟨hc, q⟩ := q
      unfold attrK at q
      split at q
      · rename_i k hk
        unfold attrS at q
        split at q
        · rename_i h2; refine ⟨_, _, ?_, q⟩; unfold eAttr; rw [h]; dsimp only; rw [if_pos hc, hk]; dsimp only; rw [h2]
        · rename_i h2; refine ⟨_, _, ?_, q⟩; unfold eAttr; rw [h]; dsimp only; rw [if_pos hc, hk]; dsimp only; rw [h2]
        · rename_i h2; refine ⟨_, _, ?_, q⟩; unfold eAttr; rw [h]; dsimp only; rw [if_pos hc, hk]; dsimp only; rw [h2]
        · rename_i h2; refine ⟨_, _, ?_, q⟩; unfold eAttr; rw [h]; dsimp only; rw [if_pos hc, hk]; dsimp only; rw [h2]
        · rename_i h2; refine ⟨_, _, ?_, q⟩; unfold eAttr; rw [h]; dsimp only; rw [if_pos hc, hk]; dsimp only; rw [h2]
        · exact q.elim
      · exact q.elim
    · exact q.elim
def gAttrQ (c f : Str) (i : Nat) (s : Sl) (ρ : Env) (Q : Fl → Env → Prop) : Option (Option Sl) → Prop
  | some (some (.ob t c' ns l)) => c' = c ∧ ns.length < 1000 ∧ Q .nx (ρ.set i (some (.ob t c' (setAt f ns l s).1 (setAt f ns l s).2)))
  | _ => False
@[simp] theorem gAttrQ_ob {c f : Str} {i : Nat} {s : Sl} {Q : Fl → Env → Prop} {t : Option Nat} {c' : Str} {ns : List Str} {l : List Sl} : gAttrQ c f i s ρ Q (some (some (.ob t c' ns l))) = (c' = c ∧ ns.length < 1000 ∧ Q .nx (ρ.set i (some (.ob t c' (setAt f ns l s).1 (setAt f ns l s).2)))) := rfl
def gAttrR (c f : Str) (i : Nat) (ρ : Env) (Q : Fl → Env → Prop) : Rs → Prop
  | .own s => gAttrQ c f i s ρ Q ρ[i]?
  | _ => False
@[simp] theorem gAttrR_own {c f : Str} {i : Nat} {Q : Fl → Env → Prop} {s : Sl} : gAttrR c f i ρ Q (.own s) = gAttrQ c f i s ρ Q ρ[i]? := rfl
@[simp ↓] theorem ev_gAttrI {c f : Str} {i : Nat} {fe : M Rs} {Q : Fl → Env → Prop} : Ev (gAttr c f i fe) ρ Q ↔ Ev fe ρ fun r ρ1 => gAttrR c f i ρ1 Q r := by
  unfold gAttr
  rw [ev_bind]
  constructor
  · rintro ⟨r, ρ1, e, fl, ρ2, e2, q⟩
    refine ⟨r, ρ1, e, ?_⟩
    try dsimp only at e2
    split at e2
    · rename_i s t c' ns l h
      split at e2
      · rename_i hc
        cases e2
        show gAttrQ c f i s ρ1 Q ρ1[i]?
        rw [h]
        exact ⟨hc.1, hc.2, q⟩
      · cases e2
    · cases e2
  · rintro ⟨r, ρ1, e, q⟩
    refine ⟨r, ρ1, e, ?_⟩
    unfold gAttrR at q
    split at q
    · rename_i s
      unfold gAttrQ at q
      split at q
      · rename_i t c' ns l h
        refine ⟨_, _, ?_, q.2.2⟩
        dsimp only
        rw [h]
        dsimp only
        rw [if_pos ⟨q.1, q.2.1⟩]
      · exact q.elim
    · exact q.elim
def gAugAQ3 (g : Int → Int → Int) (c f : Str) (i : Nat) (x : Int) (ρ : Env) (Q : Fl → Env → Prop) : Option D → Option (Option Sl) → Prop
  | some (.int y), some (some (.ob t c' ns l)) => c' = c ∧ ns.length < 1000 ∧ Q .nx (ρ.set i (some (.ob t c' (setAt f ns l (.p (.int (g x y)))).1 (setAt f ns l (.p (.int (g x y)))).2)))
  | _, _ => False
@[simp] theorem gAugAQ3_ob {g : Int → Int → Int} {c f : Str} {i : Nat} {x y : Int} {Q : Fl → Env → Prop} {t : Option Nat} {c' : Str} {ns : List Str} {l : List Sl} : gAugAQ3 g c f i x ρ Q (some (.int y)) (some (some (.ob t c' ns l))) = (c' = c ∧ ns.length < 1000 ∧ Q .nx (ρ.set i (some (.ob t c' (setAt f ns l (.p (.int (g x y)))).1 (setAt f ns l (.p (.int (g x y)))).2)))) := rfl
def gAugAQ2 (g : Int → Int → Int) (c f : Str) (i : Nat) (fe : M Rs) (ρ : Env) (Q : Fl → Env → Prop) : Option Sl → Prop
  | some (.p (.int x)) => Ev fe ρ fun r ρ1 => gAugAQ3 g c f i x ρ1 Q (r.view ρ1) ρ1[i]?
  | _ => False
@[simp] theorem gAugAQ2_p {g : Int → Int → Int} {c f : Str} {i : Nat} {fe : M Rs} {x : Int} {Q : Fl → Env → Prop} : gAugAQ2 g c f i fe ρ Q (some (.p (.int x))) = (Ev fe ρ fun r ρ1 => gAugAQ3 g c f i x ρ1 Q (r.view ρ1) ρ1[i]?) := rfl
def gAugAQ1 (g : Int → Int → Int) (c f : Str) (i : Nat) (fe : M Rs) (l : List Sl) (ρ : Env) (Q : Fl → Env → Prop) : Option Nat → Prop
  | some k => gAugAQ2 g c f i fe ρ Q l[k]?
  | none => False
@[simp] theorem gAugAQ1_s {g : Int → Int → Int} {c f : Str} {i k : Nat} {fe : M Rs} {l : List Sl} {Q : Fl → Env → Prop} : gAugAQ1 g c f i fe l ρ Q (some k) = gAugAQ2 g c f i fe ρ Q l[k]? := rfl
def gAugAQ (g : Int → Int → Int) (c f : Str) (i : Nat) (fe : M Rs) (ρ : Env) (Q : Fl → Env → Prop) : Option (Option Sl) → Prop
  | some (some (.ob t c' ns l)) => c' = c ∧ gAugAQ1 g c f i fe l ρ Q (ixOf f ns)
  | _ => False
@[simp] theorem gAugAQ_ob {g : Int → Int → Int} {c f : Str} {i : Nat} {fe : M Rs} {Q : Fl → Env → Prop} {t : Option Nat} {c' : Str} {ns : List Str} {l : List Sl} : gAugAQ g c f i fe ρ Q (some (some (.ob t c' ns l))) = (c' = c ∧ gAugAQ1 g c f i fe l ρ Q (ixOf f ns)) := rfl
@[simp ↓] theorem ev_gAugA {g : Int → Int → Int} {c f : Str} {i : Nat} {fe : M Rs} {Q : Fl → Env → Prop} : Ev (gAugA g c f i fe) ρ Q ↔ gAugAQ g c f i fe ρ Q ρ[i]? := by
  constructor
  · rintro ⟨r, ρ', e, q⟩
    unfold gAugA at e
    split at e
    · rename_i t c' ns l h
      rw [h]
      split at e
      · rename_i hc
        refine ⟨hc, ?_⟩
        split at e
        · rename_i k hk
          rw [hk, gAugAQ1_s]
          split at e
          · rename_i x hx
            rw [hx]
            obtain ⟨r, ρ1, e1, e2⟩ := M.bind_ok e
            refine ⟨r, ρ1, e1, ?_⟩
            split at e2
            · rename_i y t1 c1 ns1 l1 h1 h2
              split at e2
              · rename_i hc2
                cases e2
                rw [h1, h2]
                exact ⟨hc2.1, hc2.2, q⟩
              · cases e2
            · cases e2
          · cases e
        · cases e
      · cases e
    · cases e
  · intro q
    unfold gAugAQ at q
    split at q
    · rename_i t c' ns l h
      obtain ⟨hc, q⟩ := q
      unfold gAugAQ1 at q
      split at q
      · rename_i k hk
        unfold gAugAQ2 at q
        split at q
        · rename_i x hx
          obtain ⟨r, ρ1, e1, q⟩ := q
          unfold gAugAQ3 at q
          split at q
          · rename_i y t1 c1 ns1 l1 h1 h2
            refine ⟨_, _, ?_, q.2.2⟩
            unfold gAugA
            rw [h]
            dsimp only
            rw [if_pos hc, hk]
            dsimp only
            rw [hx]
            dsimp only
            unfold M.bind
            rw [e1]
            dsimp only
            rw [h1, h2]
            dsimp only
            rw [if_pos ⟨q.1, q.2.1⟩]
          · exact q.elim
        · exact q.elim
      · exact q.elim
    · exact q.elim
@[simp ↓] theorem ev_opCallL {n : Nat} {F : List Sl → Option (Sl × List Sl)} {rs : List Rs} {Q : Rs → Env → Prop} : Ev (opCallL n F rs) ρ Q ↔ (rs.length = n ∧ (roots rs).Nodup) ∧ argQ (fun ss => Sp F ss fun r ss' => Q (.own r) (wbL rs ss' ρ)) (argL rs ρ) := by
  constructor
  · rintro ⟨a', ρ', e, q⟩
    unfold opCallL at e
    split at e
    · rename_i hc
      split at e
      · rename_i ss h
        split at e
        · rename_i r ss' h2; cases e; exact ⟨hc, by rw [h]; exact ⟨r, ss', h2, q⟩⟩
        · cases e
      · cases e
    · cases e
  · rintro ⟨hc, q⟩
    unfold argQ at q
    split at q
    · rename_i ss h
      obtain ⟨r, ss', h2, q⟩ := q
      exact ⟨_, _, by unfold opCallL; rw [if_pos hc]; simp only [h, h2], q⟩
    · exact q.elim
@[simp] theorem argL_nil : argL [] ρ = some [] := rfl
@[simp] theorem argL_cons {r : Rs} {rs : List Rs} : argL (r :: rs) ρ = (argR r ρ).bind fun s => (argL rs ρ).map (s :: ·) := by
  rw [argL]
  cases argR r ρ with
  | none => rfl
  | some s => cases argL rs ρ <;> rfl
@[simp] theorem argR_own {s : Sl} : argR (.own s) ρ = some s := rfl
def slotB : Option (Option Sl) → Option Sl
  | some (some s) => some s.bare
  | _ => none
@[simp] theorem slotB_s {s : Sl} : slotB (some (some s)) = some s.bare := rfl
@[simp] theorem argR_bor {i : Nat} : argR (.bor i) ρ = slotB ρ[i]? := by
  unfold argR slotB
  dsimp only
  all_goals (split <;> simp_all)
def slotH (s : Sl) (k : List Nat) : Option (Option Sl) → Option Sl
  | some (some (.hl _)) => (s.kid k).map Sl.bare
  | _ => none
@[simp] theorem slotH_h {s : Sl} {k : List Nat} {t : Option Nat} : slotH s k (some (some (.hl t))) = (s.kid k).map Sl.bare := rfl
@[simp] theorem argR_lent {i : Nat} {k : List Nat} {s : Sl} : argR (.lent i s k) ρ = slotH s k ρ[i]? := by
  unfold argR slotH
  dsimp only
  all_goals (split <;> simp_all)
@[simp] theorem kid1_ob {t : Option Nat} {c : Str} {ns : List Str} {l : List Sl} {k : Nat} : (Sl.ob t c ns l).kid1 k = l[k]? := rfl
@[simp] theorem kid1_mr {t : Option Nat} {l : List Sl} {k : Nat} : (Sl.mr t l).kid1 k = l[k]? := rfl
@[simp] theorem setKid_nil {s c : Sl} : s.setKid [] c = c := rfl
theorem set_none {α : Type} {l : List α} {k : Nat} {c : α} (h : l[k]? = none) : l.set k c = l := by
  have : l.length ≤ k := by simpa using h
  exact List.set_eq_of_length_le this
@[simp] theorem setKid_ob {t : Option Nat} {c : Str} {ns : List Str} {l : List Sl} {k : Nat} {s : Sl} : (Sl.ob t c ns l).setKid [k] s = .ob t c ns (l.set k s) := by
  show (match l[k]? with
    | some d => (Sl.ob t c ns l).setKid1 k s
    | none => Sl.ob t c ns l) = _
  cases h : l[k]? with
  | none => rw [set_none h]
  | some d => rfl
@[simp] theorem setKid_mr {t : Option Nat} {l : List Sl} {k : Nat} {s : Sl} : (Sl.mr t l).setKid [k] s = .mr t (l.set k s) := by
  show (match l[k]? with
    | some d => (Sl.mr t l).setKid1 k s
    | none => Sl.mr t l) = _
  cases h : l[k]? with
  | none => rw [set_none h]
  | some d => rfl
def updK (l : List Sl) (k : Nat) (f : Sl → Sl) : List Sl := match l[k]? with
  | some d => l.set k (f d)
  | none => l
@[simp] theorem updK_0 {a : Sl} {l : List Sl} {f : Sl → Sl} : updK (a :: l) 0 f = f a :: l := rfl
@[simp] theorem updK_s {a : Sl} {l : List Sl} {k : Nat} {f : Sl → Sl} : updK (a :: l) (k + 1) f = a :: updK l k f := by
  unfold updK
  rw [List.getElem?_cons_succ]
  cases l[k]? <;> rfl
@[simp] theorem setKid_obS {t : Option Nat} {c : Str} {ns : List Str} {l : List Sl} {k j : Nat} {ks : List Nat} {s : Sl} : (Sl.ob t c ns l).setKid (k :: j :: ks) s = .ob t c ns (updK l k fun d => d.setKid (j :: ks) s) := by
  show (match l[k]? with
    | some d => (Sl.ob t c ns l).setKid1 k (d.setKid (j :: ks) s)
    | none => Sl.ob t c ns l) = _
  unfold updK
  cases h : l[k]? <;> rfl
@[simp] theorem setKid_mrS {t : Option Nat} {l : List Sl} {k j : Nat} {ks : List Nat} {s : Sl} : (Sl.mr t l).setKid (k :: j :: ks) s = .mr t (updK l k fun d => d.setKid (j :: ks) s) := by
  show (match l[k]? with
    | some d => (Sl.mr t l).setKid1 k (d.setKid (j :: ks) s)
    | none => Sl.mr t l) = _
  unfold updK
  cases h : l[k]? <;> rfl
@[simp] theorem roots_nil : roots [] = [] := rfl
@[simp] theorem roots_own {s : Sl} {r : List Rs} : roots (.own s :: r) = roots r := rfl
@[simp] theorem roots_bor {i : Nat} {r : List Rs} : roots (.bor i :: r) = i :: roots r := rfl
@[simp] theorem roots_lent {i : Nat} {k : List Nat} {s : Sl} {r : List Rs} : roots (.lent i s k :: r) = i :: roots r := rfl
@[simp] theorem wbL_nil {ss : List Sl} : wbL [] ss ρ = ρ := by simp [wbL]
@[simp] theorem wbL_own {s s' : Sl} {r : List Rs} {ss : List Sl} : wbL (.own s :: r) (s' :: ss) ρ = wbL r ss ρ := rfl
@[simp] theorem wbL_bor {i : Nat} {s' : Sl} {r : List Rs} {ss : List Sl} : wbL (.bor i :: r) (s' :: ss) ρ = wbL r ss (ρ.set i (some (s'.retag (tagAt ρ i)))) := rfl
@[simp] theorem wbL_lent {i : Nat} {k : List Nat} {s s' : Sl} {r : List Rs} {ss : List Sl} : wbL (.lent i s k :: r) (s' :: ss) ρ = wbL r ss (ρ.set i (some ((s.setKid k s').retag (tagAt ρ i)))) := rfl
@[simp] theorem retag_hl {t t' : Option Nat} : (Sl.hl t').retag t = .hl t := rfl
@[simp] theorem tag_hl {t : Option Nat} : (Sl.hl t).tag = t := rfl
def chkO (c m : Str) : Option Sl → Prop
  | some (.ob _ c' ns _) => c' = c ∧ ns.contains m = false
  | _ => False
@[simp] theorem chkO_ob {c m : Str} {t : Option Nat} {c' : Str} {ns : List Str} {l : List Sl} : chkO c m (some (.ob t c' ns l)) = (c' = c ∧ ns.contains m = false) := rfl
@[simp ↓] theorem ev_chkI {c m : Str} {fo : M Rs} {Q : Rs → Env → Prop} : Ev (eChk c m fo) ρ Q ↔ Ev fo ρ fun r ρ1 => chkO c m (argR r ρ1) ∧ Q r ρ1 := by
  unfold eChk
  rw [ev_bind]
  have hh : ∀ (r : Rs) (ρ1 : Env), recOb c m r ρ1 = true ↔ chkO c m (argR r ρ1) := fun r ρ1 => by
    unfold recOb
    generalize argR r ρ1 = o
    cases o with
    | none => exact ⟨fun q => (Bool.false_ne_true q).elim, fun q => q.elim⟩
    | some s =>
      cases s with
      | ob t c' ns l =>
        show (decide (c' = c) && decide (m ∉ ns)) = true ↔ (c' = c ∧ ns.contains m = false)
        rw [Bool.and_eq_true, decide_eq_true_iff, decide_eq_true_iff, List.contains_eq_mem, decide_eq_false_iff_not]
      | p d => exact ⟨fun q => (Bool.false_ne_true q).elim, fun q => q.elim⟩
      | ml t l => exact ⟨fun q => (Bool.false_ne_true q).elim, fun q => q.elim⟩
      | md t l => exact ⟨fun q => (Bool.false_ne_true q).elim, fun q => q.elim⟩
      | mr t l => exact ⟨fun q => (Bool.false_ne_true q).elim, fun q => q.elim⟩
      | ex c f => exact ⟨fun q => (Bool.false_ne_true q).elim, fun q => q.elim⟩
      | fd l => exact ⟨fun q => (Bool.false_ne_true q).elim, fun q => q.elim⟩
      | hl t => exact ⟨fun q => (Bool.false_ne_true q).elim, fun q => q.elim⟩
      | tp l => exact ⟨fun q => (Bool.false_ne_true q).elim, fun q => q.elim⟩
  constructor
  · rintro ⟨r, ρ1, e, a, ρ2, e2, q⟩
    refine ⟨r, ρ1, e, ?_⟩
    try dsimp only at e2
    split at e2
    · rename_i h
      cases e2
      exact ⟨(hh _ _).mp h, q⟩
    · cases e2
  · rintro ⟨r, ρ1, e, h, q⟩
    refine ⟨r, ρ1, e, r, ρ1, ?_, q⟩
    dsimp only
    rw [if_pos ((hh _ _).mpr h)]
@[simp ↓] theorem ev_callM {c m : Str} {fo : M Rs} {fa : M (List Rs)} {n : Nat} {F : List Sl → Option (Sl × List Sl)} {Q : Rs → Env → Prop} : Ev (eCallM c m fo fa n F) ρ Q ↔ Ev fo ρ fun r ρ1 => chkO c m (argR r ρ1) ∧ Ev fa ρ1 fun rs ρ2 => Ev (opCallL n F (r :: rs)) ρ2 Q := by
  unfold eCallM
  rw [ev_bind, ev_aCons, ev_chkI]
def makeQ (rs : List Rs) (ρ : Env) (Q : Rs → Env → Prop) (r : Sl) : List Sl → Prop
  | s :: ss2 => r = .p .none ∧ s.tag = none ∧ Q (.own s) (wbL rs ss2 ρ)
  | [] => False
@[simp] theorem makeQ_c {rs : List Rs} {Q : Rs → Env → Prop} {r s : Sl} {ss : List Sl} : makeQ rs ρ Q r (s :: ss) = (r = .p .none ∧ s.tag = none ∧ Q (.own s) (wbL rs ss ρ)) := rfl
@[simp ↓] theorem ev_opMake {n : Nat} {c : Str} {F : List Sl → Option (Sl × List Sl)} {rs : List Rs} {Q : Rs → Env → Prop} : Ev (opMake n c F rs) ρ Q ↔ (rs.length + 1 = n ∧ (roots rs).Nodup) ∧ argQ (fun ss => Sp F (.ob none c [] [] :: ss) fun r ss' => makeQ rs ρ Q r ss') (argL rs ρ) := by
  constructor
  · rintro ⟨a', ρ', e, q⟩
    unfold opMake at e
    split at e
    · rename_i hc
      refine ⟨hc, ?_⟩
      split at e
      · rename_i ss h
        rw [h]
        split at e
        · rename_i s ss' h2
          split at e
          · rename_i ht
            cases e
            exact ⟨_, _, h2, rfl, ht, q⟩
          · cases e
        · cases e
      · cases e
    · cases e
  · rintro ⟨hc, q⟩
    unfold argQ at q
    split at q
    · rename_i ss h
      refine ev_make hc.1 hc.2 h (q.mono fun r ss' q => ?_)
      unfold makeQ at q
      split at q
      · exact ⟨_, _, q.1, rfl, q.2.1, q.2.2⟩
      · exact q.elim
    · exact q.elim
def lentD (i : Nat) (k : List Nat) (w : Sl) (ρ : Env) (Q : Rs → Env → Prop) (pf : D → Option Rd') (t : Option Nat) (s : Sl) : Option D → Prop
  | some d => resQ (ρ.set i (some ((w.setKid k s).retag t))) Q (pf d)
  | none => False
def lentQ (i : Nat) (k : List Nat) (w : Sl) (ρ : Env) (Q : Rs → Env → Prop) (pf : D → Option Rd') : Option (Option Sl) → Option Sl → Prop
  | some (some (.hl t)), some s => lentD i k w ρ Q pf t s.bare s.bare.dat
  | _, _ => False
@[simp] theorem lentQ_ml {i : Nat} {k : List Nat} {w : Sl} {Q : Rs → Env → Prop} {pf : D → Option Rd'} {t tg : Option Nat} {l : List D} : lentQ i k w ρ Q pf (some (some (.hl t))) (some (.ml tg l)) = resQ (ρ.set i (some ((w.setKid k (.ml none l)).retag t))) Q (pf (.list l)) := rfl
theorem opGA_lent {pf : List D → Option Rd'} {i : Nat} {k : List Nat} {w : Sl} {r : List Rs} {ρ : Env} : opGA pf (.lent i w k :: r) ρ = opGL pf (.lent i w k :: r) ρ := rfl
theorem argR_some {i : Nat} {k : List Nat} {w : Sl} {s : Sl} : argR (.lent i w k) ρ = some s → ∃ t s0, ρ[i]? = some (some (.hl t)) ∧ w.kid k = some s0 ∧ s = s0.bare := fun h => by
  rw [argR_lent] at h
  unfold slotH at h
  split at h
  · rename_i t e
    cases e2 : w.kid k with
    | none => rw [e2] at h; cases h
    | some s0 => rw [e2] at h; cases h; exact ⟨t, s0, e, rfl, rfl⟩
  · cases h
@[simp ↓] theorem ev_opGA1 {pf : List D → Option Rd'} {i : Nat} {k : List Nat} {w : Sl} {Q : Rs → Env → Prop} : Ev (opGA pf [.lent i w k]) ρ Q ↔ lentQ i k w ρ Q (fun d => pf [d]) ρ[i]? (w.kid k) := by
  constructor
  · rintro ⟨r, ρ', e, q⟩
    rw [opGA_lent] at e
    unfold opGL at e
    split at e
    · split at e
      · rename_i ss h1
        split at e
        · rename_i ds h2
          split at e
          · rename_i res h3
            cases e
            rw [argL_cons] at h1
            obtain ⟨s, h4, h5⟩ := Option.bind_eq_some_iff.mp h1
            obtain ⟨t, s0, h6, h7, rfl⟩ := argR_some h4
            rw [argL_nil] at h5
            cases h5
            rw [h6, h7]
            unfold datAll datAll at h2
            show lentD i k w ρ Q (fun d => pf [d]) t s0.bare s0.bare.dat
            cases e8 : s0.bare.dat with
            | none => rw [e8] at h2; cases h2
            | some d =>
              rw [e8] at h2
              cases h2
              unfold lentD
              dsimp only
              rw [h3]
              show Q _ _
              simpa [tagAt_eq, h6] using q
          · cases e
        · cases e
      · cases e
    · cases e
  · intro q
    unfold lentQ at q
    split at q
    · rename_i t s e1 e2
      unfold lentD at q
      split at q
      · rename_i d e3
        unfold resQ at q
        split at q
        · rename_i res e4
          refine ⟨_, _, ?_, q⟩
          rw [opGA_lent]
          unfold opGL
          rw [if_pos (by simp), show argL [.lent i w k] ρ = some [s.bare] by simp [e1, e2]]
          dsimp only
          rw [show datAll [s.bare] = some [d] by unfold datAll datAll; rw [e3]]
          dsimp only
          dsimp only at e4
          rw [e4]
          simp [e1]
        · exact q.elim
      · exact q.elim
    · exact q.elim
@[simp ↓] theorem ev_opGA2 {pf : List D → Option Rd'} {i : Nat} {k : List Nat} {w : Sl} {d : D} {Q : Rs → Env → Prop} : Ev (opGA pf [.lent i w k, .own (.p d)]) ρ Q ↔ lentQ i k w ρ Q (fun d0 => pf [d0, d]) ρ[i]? (w.kid k) := by
  constructor
  · rintro ⟨r, ρ', e, q⟩
    rw [opGA_lent] at e
    unfold opGL at e
    split at e
    · split at e
      · rename_i ss h1
        split at e
        · rename_i ds h2
          split at e
          · rename_i res h3
            cases e
            rw [argL_cons] at h1
            obtain ⟨s, h4, h5⟩ := Option.bind_eq_some_iff.mp h1
            obtain ⟨t, s0, h6, h7, rfl⟩ := argR_some h4
            rw [show argL [.own (.p d)] ρ = some [.p d] by simp] at h5
            cases h5
            rw [h6, h7]
            unfold datAll at h2
            rw [show datAll [.p d] = some [d] from rfl] at h2
            show lentD i k w ρ Q (fun d0 => pf [d0, d]) t s0.bare s0.bare.dat
            cases e8 : s0.bare.dat with
            | none => rw [e8] at h2; cases h2
            | some d1 =>
              rw [e8] at h2
              cases h2
              unfold lentD
              dsimp only
              rw [h3]
              show Q _ _
              simpa [tagAt_eq, h6] using q
          · cases e
        · cases e
      · cases e
    · cases e
  · intro q
    unfold lentQ at q
    split at q
    · rename_i t s e1 e2
      unfold lentD at q
      split at q
      · rename_i d1 e3
        unfold resQ at q
        split at q
        · rename_i res e4
          refine ⟨_, _, ?_, q⟩
          rw [opGA_lent]
          unfold opGL
          rw [if_pos (by simp), show argL [.lent i w k, .own (.p d)] ρ = some [s.bare, .p d] by simp [e1, e2]]
          dsimp only
          rw [show datAll [s.bare, .p d] = some [d1, d] by unfold datAll; rw [e3]; rfl]
          dsimp only
          dsimp only at e4
          rw [e4]
          simp [e1]
        · exact q.elim
      · exact q.elim
    · exact q.elim
@[simp ↓] theorem oIxA_eq : oIxA = opGA pIx := rfl
end
end B
end Pd
set_option Elab.async false
set_option linter.all false
set_option maxRecDepth 100000
set_option maxHeartbeats 1000000
namespace Pd
open PySem PySem.Spec PyProof.Rows L2
open B (argL_nil argL_cons argR_own slotB slotB_s argR_bor slotH slotH_h argR_lent kid1_ob kid1_mr setKid_nil set_none setKid_ob setKid_mr updK updK_0 updK_s setKid_obS setKid_mrS roots_nil roots_own roots_bor roots_lent wbL_nil wbL_own wbL_bor wbL_lent retag_hl tag_hl chkO chkO_ob opGA_lent argR_some oIxA_eq)
section
variable {ρ : Env}
def attrS (i k : Nat) (t : Option Nat) (c : Str) (ns : List Str) (l : List Sl) (ρ : Env) (Q : Rs → Env → Prop) [Fx Q] (o0 : Option Sl) : Prop := B.attrS i k t c ns l ρ Q o0
@[simp] theorem attrS_p {i k : Nat} {t : Option Nat} {c : Str} {ns : List Str} {l : List Sl} {Q : Rs → Env → Prop} {d : D} : attrS i k t c ns l ρ Q (some (.p d)) = Q (.own (.p d)) ρ := B.attrS_p
@[simp] theorem attrS_ml {i k : Nat} {t t' : Option Nat} {c : Str} {ns : List Str} {l : List Sl} {Q : Rs → Env → Prop} {d : List D} : attrS i k t c ns l ρ Q (some (.ml t' d)) = Q (.lent i (.ob t c ns l) [k]) (ρ.set i (some (.hl t))) := B.attrS_ml
@[simp] theorem attrS_md {i k : Nat} {t t' : Option Nat} {c : Str} {ns : List Str} {l : List Sl} {Q : Rs → Env → Prop} {d : List (Key × D)} : attrS i k t c ns l ρ Q (some (.md t' d)) = Q (.lent i (.ob t c ns l) [k]) (ρ.set i (some (.hl t))) := B.attrS_md
@[simp] theorem attrS_mr {i k : Nat} {t t' : Option Nat} {c : Str} {ns : List Str} {l : List Sl} {Q : Rs → Env → Prop} {d : List Sl} : attrS i k t c ns l ρ Q (some (.mr t' d)) = Q (.lent i (.ob t c ns l) [k]) (ρ.set i (some (.hl t))) := B.attrS_mr
@[simp] theorem attrS_ob {i k : Nat} {t t' : Option Nat} {c c' : Str} {ns ns' : List Str} {l : List Sl} {Q : Rs → Env → Prop} {d : List Sl} : attrS i k t c ns l ρ Q (some (.ob t' c' ns' d)) = Q (.lent i (.ob t c ns l) [k]) (ρ.set i (some (.hl t))) := B.attrS_ob
def attrK (i : Nat) (t : Option Nat) (c : Str) (ns : List Str) (l : List Sl) (ρ : Env) (Q : Rs → Env → Prop) [Fx Q] (o0 : Option Nat) : Prop := B.attrK i t c ns l ρ Q o0
@[simp] theorem attrK_s {i k : Nat} {t : Option Nat} {c : Str} {ns : List Str} {l : List Sl} {Q : Rs → Env → Prop} : attrK i t c ns l ρ Q (some k) = attrS i k t c ns l ρ Q l[k]? := B.attrK_s
def attrQ (c f : Str) (i : Nat) (ρ : Env) (Q : Rs → Env → Prop) [Fx Q] (o0 : Option (Option Sl)) : Prop := B.attrQ c f i ρ Q o0
@[simp] theorem attrQ_ob {c f : Str} {i : Nat} {t : Option Nat} {c' : Str} {ns : List Str} {l : List Sl} {Q : Rs → Env → Prop} : attrQ c f i ρ Q (some (some (.ob t c' ns l))) = (c' = c ∧ attrK i t c' ns l ρ Q (ixOf f ns)) := B.attrQ_ob
@[simp ↓] theorem ev_attr {c f : Str} {i : Nat} {Q : Rs → Env → Prop} : Ev (eAttr c f i) ρ Q ↔ attrQ c f i ρ Q ρ[i]? := B.ev_attr
def gAttrQ (c f : Str) (i : Nat) (s : Sl) (ρ : Env) (Q : Fl → Env → Prop) [Fx Q] (o0 : Option (Option Sl)) : Prop := B.gAttrQ c f i s ρ Q o0
@[simp] theorem gAttrQ_ob {c f : Str} {i : Nat} {s : Sl} {Q : Fl → Env → Prop} {t : Option Nat} {c' : Str} {ns : List Str} {l : List Sl} : gAttrQ c f i s ρ Q (some (some (.ob t c' ns l))) = (c' = c ∧ ns.length < 1000 ∧ Q .nx (ρ.set i (some (.ob t c' (setAt f ns l s).1 (setAt f ns l s).2)))) := B.gAttrQ_ob
def gAttrR (c f : Str) (i : Nat) (ρ : Env) (Q : Fl → Env → Prop) [Fx Q] (o0 : Rs) : Prop := B.gAttrR c f i ρ Q o0
@[simp] theorem gAttrR_own {c f : Str} {i : Nat} {Q : Fl → Env → Prop} {s : Sl} : gAttrR c f i ρ Q (.own s) = gAttrQ c f i s ρ Q ρ[i]? := B.gAttrR_own
@[simp ↓] theorem ev_gAttrI {c f : Str} {i : Nat} {fe : M Rs} {Q : Fl → Env → Prop} : Ev (gAttr c f i fe) ρ Q ↔ Ev fe ρ fun r ρ1 => gAttrR c f i ρ1 Q r := B.ev_gAttrI
def gAugAQ3 (g : Int → Int → Int) (c f : Str) (i : Nat) (x : Int) (ρ : Env) (Q : Fl → Env → Prop) [Fx Q] (o0 : Option D) (o1 : Option (Option Sl)) : Prop := B.gAugAQ3 g c f i x ρ Q o0 o1
@[simp] theorem gAugAQ3_ob {g : Int → Int → Int} {c f : Str} {i : Nat} {x y : Int} {Q : Fl → Env → Prop} {t : Option Nat} {c' : Str} {ns : List Str} {l : List Sl} : gAugAQ3 g c f i x ρ Q (some (.int y)) (some (some (.ob t c' ns l))) = (c' = c ∧ ns.length < 1000 ∧ Q .nx (ρ.set i (some (.ob t c' (setAt f ns l (.p (.int (g x y)))).1 (setAt f ns l (.p (.int (g x y)))).2)))) := B.gAugAQ3_ob
def gAugAQ2 (g : Int → Int → Int) (c f : Str) (i : Nat) (fe : M Rs) (ρ : Env) (Q : Fl → Env → Prop) [Fx Q] (o0 : Option Sl) : Prop := B.gAugAQ2 g c f i fe ρ Q o0
@[simp] theorem gAugAQ2_p {g : Int → Int → Int} {c f : Str} {i : Nat} {fe : M Rs} {x : Int} {Q : Fl → Env → Prop} : gAugAQ2 g c f i fe ρ Q (some (.p (.int x))) = (Ev fe ρ fun r ρ1 => gAugAQ3 g c f i x ρ1 Q (r.view ρ1) ρ1[i]?) := B.gAugAQ2_p
def gAugAQ1 (g : Int → Int → Int) (c f : Str) (i : Nat) (fe : M Rs) (l : List Sl) (ρ : Env) (Q : Fl → Env → Prop) [Fx Q] (o0 : Option Nat) : Prop := B.gAugAQ1 g c f i fe l ρ Q o0
@[simp] theorem gAugAQ1_s {g : Int → Int → Int} {c f : Str} {i k : Nat} {fe : M Rs} {l : List Sl} {Q : Fl → Env → Prop} : gAugAQ1 g c f i fe l ρ Q (some k) = gAugAQ2 g c f i fe ρ Q l[k]? := B.gAugAQ1_s
def gAugAQ (g : Int → Int → Int) (c f : Str) (i : Nat) (fe : M Rs) (ρ : Env) (Q : Fl → Env → Prop) [Fx Q] (o0 : Option (Option Sl)) : Prop := B.gAugAQ g c f i fe ρ Q o0
@[simp] theorem gAugAQ_ob {g : Int → Int → Int} {c f : Str} {i : Nat} {fe : M Rs} {Q : Fl → Env → Prop} {t : Option Nat} {c' : Str} {ns : List Str} {l : List Sl} : gAugAQ g c f i fe ρ Q (some (some (.ob t c' ns l))) = (c' = c ∧ gAugAQ1 g c f i fe l ρ Q (ixOf f ns)) := B.gAugAQ_ob
@[simp ↓] theorem ev_gAugA {g : Int → Int → Int} {c f : Str} {i : Nat} {fe : M Rs} {Q : Fl → Env → Prop} : Ev (gAugA g c f i fe) ρ Q ↔ gAugAQ g c f i fe ρ Q ρ[i]? := B.ev_gAugA
@[simp ↓] theorem ev_opCallL {n : Nat} {F : List Sl → Option (Sl × List Sl)} {rs : List Rs} {Q : Rs → Env → Prop} : Ev (opCallL n F rs) ρ Q ↔ (rs.length = n ∧ (roots rs).Nodup) ∧ argQ (fun ss => Sp F ss fun r ss' => Q (.own r) (wbL rs ss' ρ)) (argL rs ρ) := B.ev_opCallL
@[simp ↓] theorem ev_chkI {c m : Str} {fo : M Rs} {Q : Rs → Env → Prop} : Ev (eChk c m fo) ρ Q ↔ Ev fo ρ fun r ρ1 => chkO c m (argR r ρ1) ∧ Q r ρ1 := B.ev_chkI
@[simp ↓] theorem ev_callM {c m : Str} {fo : M Rs} {fa : M (List Rs)} {n : Nat} {F : List Sl → Option (Sl × List Sl)} {Q : Rs → Env → Prop} : Ev (eCallM c m fo fa n F) ρ Q ↔ Ev fo ρ fun r ρ1 => chkO c m (argR r ρ1) ∧ Ev fa ρ1 fun rs ρ2 => Ev (opCallL n F (r :: rs)) ρ2 Q := B.ev_callM
def makeQ (rs : List Rs) (ρ : Env) (Q : Rs → Env → Prop) [Fx Q] (r : Sl) (o0 : List Sl) : Prop := B.makeQ rs ρ Q r o0
@[simp] theorem makeQ_c {rs : List Rs} {Q : Rs → Env → Prop} {r s : Sl} {ss : List Sl} : makeQ rs ρ Q r (s :: ss) = (r = .p .none ∧ s.tag = none ∧ Q (.own s) (wbL rs ss ρ)) := B.makeQ_c
@[simp ↓] theorem ev_opMake {n : Nat} {c : Str} {F : List Sl → Option (Sl × List Sl)} {rs : List Rs} {Q : Rs → Env → Prop} : Ev (opMake n c F rs) ρ Q ↔ (rs.length + 1 = n ∧ (roots rs).Nodup) ∧ argQ (fun ss => Sp F (.ob none c [] [] :: ss) fun r ss' => makeQ rs ρ Q r ss') (argL rs ρ) := B.ev_opMake
def lentD (i : Nat) (k : List Nat) (w : Sl) (ρ : Env) (Q : Rs → Env → Prop) [Fx Q] (pf : D → Option Rd') (t : Option Nat) (s : Sl) (o0 : Option D) : Prop := B.lentD i k w ρ Q pf t s o0
def lentQ (i : Nat) (k : List Nat) (w : Sl) (ρ : Env) (Q : Rs → Env → Prop) [Fx Q] (pf : D → Option Rd') (o0 : Option (Option Sl)) (o1 : Option Sl) : Prop := B.lentQ i k w ρ Q pf o0 o1
@[simp] theorem lentQ_ml {i : Nat} {k : List Nat} {w : Sl} {Q : Rs → Env → Prop} {pf : D → Option Rd'} {t tg : Option Nat} {l : List D} : lentQ i k w ρ Q pf (some (some (.hl t))) (some (.ml tg l)) = resQ (ρ.set i (some ((w.setKid k (.ml none l)).retag t))) Q (pf (.list l)) := B.lentQ_ml
@[simp ↓] theorem ev_opGA1 {pf : List D → Option Rd'} {i : Nat} {k : List Nat} {w : Sl} {Q : Rs → Env → Prop} : Ev (opGA pf [.lent i w k]) ρ Q ↔ lentQ i k w ρ Q (fun d => pf [d]) ρ[i]? (w.kid k) := B.ev_opGA1
@[simp ↓] theorem ev_opGA2 {pf : List D → Option Rd'} {i : Nat} {k : List Nat} {w : Sl} {d : D} {Q : Rs → Env → Prop} : Ev (opGA pf [.lent i w k, .own (.p d)]) ρ Q ↔ lentQ i k w ρ Q (fun d0 => pf [d0, d]) ρ[i]? (w.kid k) := B.ev_opGA2
end
end Pd
set_option Elab.async false
set_option linter.all false
set_option maxRecDepth 100000
set_option maxHeartbeats 1000000
set_option Elab.async false
set_option linter.all false
set_option maxRecDepth 100000
set_option maxHeartbeats 1000000
set_option Elab.async false
set_option linter.all false
set_option maxRecDepth 100000
set_option maxHeartbeats 2000000
namespace Pd
open PySem PySem.Spec PyProof.Rows L2
def Sl.vws : Sl → Option Vw
  | .md _ l => some (.m l)
  | .fd l => some (.m l)
  | s => s.dat.map .d
def vwsAll : List Sl → Option (List Vw)
  | [] => some []
  | s :: r => match s.vws with
    | some d => match vwsAll r with
      | some t => some (d :: t)
      | none => none
    | none => none
section
variable {K : PySem.W.Frag} {vs0 : List V} {B H : Hp} {σ : L2.St} {ρ : Env} {fs : Nat → List Addr}
theorem vws_sh {v : V} {s : Sl} {T : List Addr} {d : Vw} (e : Same B H) (h : Own K B H v s T) (q : s.vws = some d) : ShV K B H v d := by
  cases s with
  | p x => cases q; exact dat_sh e h rfl
  | ml t l => cases q; exact dat_sh e h rfl
  | md t l =>
    cases q
    obtain ⟨a, ks, rfl, rfl, h1, h2⟩ := h
    exact ⟨a, ks, rfl, Or.inl h1, h2⟩
  | fd l =>
    cases q
    obtain ⟨⟨a, ks, o, rfl, h1, h2⟩, _⟩ := h
    exact ⟨a, ks, rfl, Or.inr ⟨o, e _ _ h1⟩, h2⟩
  | mr t l => cases q
  | ob t c ns l => cases q
  | ex c f => cases q
  | hl t => cases q
  | tp l => cases q
theorem vwsAll_sh (e : Same B H) : ∀ {ss : List Sl} {vs : List V} {ds : List Vw}, (∀ (j : Nat) s, ss[j]? = some s → ∃ v T, vs[j]? = some v ∧ Own K B H v s T) → vs.length = ss.length → vwsAll ss = some ds → ShVs K B H vs ds
  | [], [], ds, _, _, q => by cases q; trivial
  | [], _ :: _, _, _, hl, _ => by cases hl
  | _ :: _, [], _, _, hl, _ => by cases hl
  | s :: ss, v :: vs, ds, h, hl, q => by
    unfold vwsAll at q
    split at q
    · rename_i d e1
      split at q
      · rename_i t e2
        cases q
        obtain ⟨v', T, h1, h2⟩ := h 0 s rfl
        cases h1
        exact ⟨vws_sh e h2 e1, vwsAll_sh e (fun j s' hj => h (j + 1) s' (by simpa using hj)) (by simpa using hl) e2⟩
      · cases q
    · cases q
end
open Classical in
noncomputable def opVL (pf : List Vw → Option Rd2) : List Rs → M Rs := fun rs ρ => if (roots rs).Nodup then match argL rs ρ with
    | some ss => match vwsAll ss with
      | some ds => match pf ds with
        | some res => some (.ok res.rs (wbL rs ss ρ))
        | none => none
      | none => none
    | none => none
  else none
open Classical in
theorem opVL_ok {K : PySem.W.Frag} {r : List V → Hp → VK → Prop} {pf : List Vw → Option Rd2} (h : ∀ B H vs ds res Q, Same B H → ShVs K B H vs ds → pf ds = some res → ResV K B H Q res → r vs H Q) : OpOk K r (opVL pf) := by
  intro vs0 σ B H ρ fs vs rs Ts Q g ok nd r' ρ' e k
  unfold opVL at e
  split at e
  · rename_i hnd
    split at e
    · rename_i ss e1
      split at e
      · rename_i ds e2
        split at e
        · rename_i res e3
          cases e
          obtain ⟨fsA, gA, tg, hvl, step⟩ := call_core g ok nd hnd e1
          have hsl := (argL_get e1).1
          have hsh : ShVs K B H vs ds := vwsAll_sh g.ext (fun j s hj => by
            obtain ⟨v, h1, h2, _⟩ := gA.at_ j s (by rw [List.getElem?_map, hj]; rfl)
            rw [List.getElem?_map] at h1
            cases q : vs[j]? with
            | none => rw [q] at h1; cases h1
            | some v' => rw [q] at h1; cases h1; exact ⟨v, _, rfl, h2⟩) (by rw [hvl, hsl]) e2
          refine h B H vs ds res Q g.ext hsh e3 ?_
          have mk : ∀ (o : HO) (s : Sl) (p : Addr), H p = none → Own K B (upd H p o) (.ref p) s [p] → s.tag = none → res.rs = .own s → Q (.ref p) (upd H p o) := fun o s p hp ow ht hr => by
            have fr := Fr.newL (B := B) (o := o) hp
            have hpB : B p = none := by
              cases e : B p with
              | none => rfl
              | some u => rw [g.ext p u e] at hp; cases hp
            have gA2 := gA.grow fr (fun _ _ f => f) (g.ext.trans fr.sameH)
            obtain ⟨fs2, fr2, g2, t2⟩ := step ss B (upd H p o) fsA [p] (fr.weak (fun _ f => f.elim) fun a f => by
              rcases f with f | f
              · exact Or.inr (Or.inl f)
              · exact Or.inl f) gA2 (fun a ha => by
                simp at ha
                subst ha
                exact ⟨hpB, fun i hi => gA.lives hi hp⟩)
            exact k (.ref p) B _ fs2 [p] fr2 g2 (by rw [hr]; exact ⟨ow, ht, t2⟩)
          cases res with
          | pd d =>
            intro v B' H' fr ex hd
            obtain ⟨fs2, fr2, g2, t2⟩ := step ss B' H' fsA [] (fr.weak (fun _ f => f.elim) fun a f => by
              rcases f with f | f
              · exact Or.inr (Or.inl f)
              · cases f) (gA.grow fr (fun _ _ f => f) ex) (fun a ha => nomatch ha)
            exact k v B' H' fs2 [] fr2 g2 ⟨⟨hd, rfl⟩, rfl, fun a ha => nomatch ha⟩
          | nl l => exact fun p xs hp hd => mk (HO.lst xs) (.ml none l) p hp ⟨p, xs, rfl, rfl, upd_same, hd⟩ rfl rfl
          | nm l => exact fun p ks hp hd => mk (HO.dK ks) (.md none l) p hp ⟨p, ks, rfl, rfl, upd_same, hd⟩ rfl rfl
        · cases e
      · cases e
    · cases e
  · cases e
theorem pIxD_ok {K : PySem.W.Frag} : ∀ B H vs ds res Q, Same B H → ShVs K B H vs ds → pIxD ds = some res → ResV K B H Q res → r2 rIxD vs H Q := fun B H vs ds res Q e hs hp k => by
  unfold pIxD at hp
  split at hp
  · split at hp
    · rename_i kk hk
      split at hp
      · rename_i d hv
        cases hp
        obtain ⟨x, y, rfl, ⟨a, ks, rfl, h1, h2⟩, h3⟩ := hs.two
        have e3 := kOf_dp (h3.dp e) hk
        subst e3
        rcases h2.val kk with ⟨_, z⟩ | ⟨v, d', z1, z2, z3⟩
        · rw [hv] at z; cases z
        · rw [hv] at z2
          cases z2
          exact ⟨_, _, rfl, a, v, rfl, by rw [← z1]; exact dgetR h1, k.same e z3⟩
      · cases hp
    · cases hp
  · cases hp
theorem pInD_ok {K : PySem.W.Frag} : ∀ B H vs ds res Q, Same B H → ShVs K B H vs ds → pInD ds = some res → ResV K B H Q res → r2 rInD vs H Q := fun B H vs ds res Q e hs hp k => by
  unfold pInD at hp
  split at hp
  · split at hp
    · rename_i kk hk
      cases hp
      obtain ⟨x, y, rfl, h3, ⟨a, ks, rfl, h1, h2⟩⟩ := hs.two
      have e3 := kOf_dp (h3.dp e) hk
      subst e3
      exact ⟨_, _, rfl, a, _, rfl, dgetR h1, by rw [valD_some h2]; exact k.bool e⟩
    · cases hp
  · cases hp
theorem pNiD_ok {K : PySem.W.Frag} : ∀ B H vs ds res Q, Same B H → ShVs K B H vs ds → pNiD ds = some res → ResV K B H Q res → r2 rNiD vs H Q := fun B H vs ds res Q e hs hp k => by
  unfold pNiD at hp
  split at hp
  · split at hp
    · rename_i kk hk
      cases hp
      obtain ⟨x, y, rfl, h3, ⟨a, ks, rfl, h1, h2⟩⟩ := hs.two
      have e3 := kOf_dp (h3.dp e) hk
      subst e3
      exact ⟨_, _, rfl, a, _, rfl, dgetR h1, by rw [valD_some h2]; exact k.bool e⟩
    · cases hp
  · cases hp
noncomputable def oIxDL := opVL pIxD
noncomputable def oInDL := opVL pInD
noncomputable def oNiDL := opVL pNiD
theorem oIxDL_ok {K : PySem.W.Frag} : OpOk K (r2 rIxD) oIxDL := opVL_ok pIxD_ok
theorem oInDL_ok {K : PySem.W.Frag} : OpOk K (r2 rInD) oInDL := opVL_ok pInD_ok
theorem oNiDL_ok {K : PySem.W.Frag} : OpOk K (r2 rNiD) oNiDL := opVL_ok pNiD_ok
section
variable {K : PySem.W.Frag} {vs0 : List V} {B H : Hp} {σ : L2.St} {ρ : Env} {fs : Nat → List Addr} {v : V} {w : Sl} {i : Nat} {k : List Nat} {T : List Addr} {tg t : Option Nat} {l : List (Key × D)}
theorem good_mutD (g : Good K vs0 B H σ ρ fs) (ok : RsOk K B H σ fs v (.lent i w k) T) (hk : w.kid k = some (.md tg l)) (hh : ρ[i]? = some (some (.hl t))) :
    ∃ a ks, v = .ref a ∧ H a = some (.dK ks) ∧ KvD K B ks l ∧ ∀ (ks' : List (Key × V)) (l' : List (Key × D)), KvD K B ks' l' →
      ∃ fs', Fr B H (UnF (InF fs) T) B (upd H a (.dK ks')) (InF fs') ∧ Good K vs0 B (upd H a (.dK ks')) σ (ρ.set i (some ((w.setKid k (.md none l')).retag t))) fs' := by
  obtain ⟨⟨v0, z1, z2, z3⟩, z4⟩ := ok
  obtain ⟨Tk, y1, y2, y3⟩ := z2.kid z3 hk
  obtain ⟨a, ks, rfl, rfl, h1, h2⟩ := y1
  have ha : a ∈ T := y2 a (by simp)
  have hi : i < ρ.length := (List.getElem?_eq_some_iff.mp hh).1
  refine ⟨a, ks, rfl, h1, h2, fun ks' l' hd => ?_⟩
  obtain ⟨T2, o2, hT2⟩ := y3 (B' := B) (H' := upd H a (.dK ks')) (c' := .md none l') (T' := [a]) (Same.refl B) (fun b hb hn => upd_ne fun q => hn (by rw [q]; simp)) ⟨a, ks', rfl, rfl, upd_same, hd⟩ (fun b hb _ => hb)
  have sub : ∀ b ∈ T2, b ∈ T := fun b hb => by
    rcases hT2 b hb with q | q
    · exact q.1
    · simp at q; rw [q]; exact ha
  refine ⟨fun j => if j = i then T2 else fs j, (Fr.mut (F := UnF (InF fs) T) (Or.inr ha)).weak (fun _ h => h) fun b hb => Or.inl ?_, ?_⟩
  · obtain ⟨j, hj⟩ := hb
    try dsimp only at hj
    by_cases e : j = i
    · rw [if_pos e] at hj; exact Or.inr (sub b hj)
    · rw [if_neg e] at hj; exact Or.inl ⟨j, hj⟩
  · have nB : B a = none := (z4 a ha).1
    refine ⟨fun b u e => ?_, by rw [List.length_set]; exact g.len, fun j s' h => ?_, fun j h => ?_, fun j j' b hb hb' => ?_, fun j b hb => ?_⟩
    · rw [upd_ne (fun z => by rw [z, nB] at e; cases e)]
      exact g.ext b u e
    · by_cases e : j = i
      · subst e
        rw [List.getElem?_set_self hi] at h
        cases h
        obtain ⟨v1, q1, _, q3⟩ := g.at_ j _ hh
        rw [z1] at q1
        cases q1
        exact ⟨v0, z1, by rw [if_pos rfl]; exact o2.retag', fun m hm => q3 m (Sl.retag_tag hm)⟩
      · rw [List.getElem?_set_ne (Ne.symm e)] at h
        obtain ⟨v', y1, y2, y3⟩ := g.at_ j s' h
        refine ⟨v', y1, ?_, y3⟩
        rw [if_neg e]
        exact y2.keep (Same.refl B) fun b hb => upd_ne fun z => (z4 a ha).2 j (z ▸ hb)
    · by_cases e : j = i
      · subst e
        exact (h _ (List.getElem?_set_self hi)).elim
      · rw [if_neg e]
        exact g.emp j fun s' z => h s' (by rw [List.getElem?_set_ne (Ne.symm e)]; exact z)
    · by_cases e : j = i
      · by_cases e' : j' = i
        · rw [e, e']
        · rw [if_pos e] at hb; rw [if_neg e'] at hb'
          exact ((z4 b (sub b hb)).2 j' hb').elim
      · by_cases e' : j' = i
        · rw [if_neg e] at hb; rw [if_pos e'] at hb'
          exact ((z4 b (sub b hb')).2 j hb).elim
        · rw [if_neg e] at hb; rw [if_neg e'] at hb'; exact g.dis j j' b hb hb'
    · by_cases e : j = i
      · rw [if_pos e] at hb; exact (z4 b (sub b hb)).1
      · rw [if_neg e] at hb; exact g.out j b hb
end
def putSubL (o i : Rs) (d : D) : M Fl := fun ρ => match o with
  | .lent j w k0 => match w.kid k0, ρ[j]? with
    | some (.md tg l), some (some (.hl t)) => match i.view ρ with
      | some y => match kOf y with
        | some k => if l.length < sizeLine then some (.ok .nx (ρ.set j (some ((w.setKid k0 (.md none (putD l k d))).retag t)))) else none
        | none => none
      | none => none
    | _, _ => none
  | _ => none
def gPutL (f fo fi : M Rs) : M Fl := M.bind f fun r => M.bind (freezeR r) fun d => M.bind fo fun o => M.bind fi fun i => putSubL o i d
theorem ds_putL {X : Cx} {vs0 : List V} {e o i : Expr} {f fo fi : M Rs} {pos tpos : Pos} (hu : X.A.units + 64 < cLine) (he : PE X e (rdE X.K vs0 f)) (ho : PE X o (rdE X.K vs0 fo)) (hi : PE X i (rdE X.K vs0 fi))
    (hs : swapsWith e (some (.Subscript o i tpos)) pos.line X.env = pure false := by rfl) :
    PS X (.Assign [.Subscript o i tpos] e pos) (rdS X.K vs0 (gPutL f fo fi)) := PS.imp (ps_dput (by omega) ho hi he hs) fun D σ H q => by
  obtain ⟨B, ρ, fs, gd, fl, ρ', e1, k⟩ := q
  obtain ⟨r, ρ1, e2, e3⟩ := M.bind_ok e1
  obtain ⟨d, ρ2, e4, e5⟩ := M.bind_ok e3
  obtain ⟨ro, ρ3, e6, e7⟩ := M.bind_ok e5
  obtain ⟨ri, ρ4, e8, e9⟩ := M.bind_ok e7
  refine ⟨B, ρ, fs, gd, r, ρ1, e2, fun v B1 H1 fs1 T1 fr1 g1 ok1 => ?_⟩
  obtain ⟨B2, fs2, fr2, g2, d2⟩ := freezeR_ok g1 ok1 e4
  refine ⟨B2, ρ2, fs2, g2, ro, ρ3, e6, fun u B3 H3 fs3 T3 fr3 g3 ok3 => ⟨B3, ρ3, fs3, g3, ri, ρ4, e8, fun w B4 H4 fs4 T4 fr4 g4 ok4 => ?_⟩⟩
  unfold putSubL at e9
  cases ro with
  | own s => cases e9
  | bor j => cases e9
  | lent j w0 k0 =>
  dsimp only at e9
  split at e9
  · rename_i tg l t hk hh
    split at e9
    · rename_i y e11
      split at e9
      · rename_i kk e12
        split at e9
        · rename_i hsz
          cases e9
          have ok5 : RsOk X.K B4 H4 σ fs4 u (.lent j w0 k0) T3 := ok3.keep fr4 ok3.off fun a h => Or.inl h
          obtain ⟨a, ks, rfl, q2, q3, put⟩ := good_mutD g4 ok5 hk hh
          have ew := kOf_dp ((view_ok g4 ok4 e11).dp g4.ext) e12
          subst ew
          have dv : Dp X.K B4 v d := Dp.mono ((fr3.bb).trans fr4.bb) d2
          obtain ⟨fs5, fr5, g5⟩ := put (putK ks kk v) (putD l kk d) (q3.put kk dv)
          refine ⟨a, _, rfl, DPut.k q2 (by rw [q3.len]; exact hsz), ?_⟩
          refine k σ B4 _ fs5 ((fr1.trans fr2).trans (fr3.trans (((fr4.frame T3).weak (fun _ h => h) (G' := UnF (InF fs4) T3) fun b hb => Or.inl ?_).trans fr5))) g5
          rcases hb with hb | hb
          · exact Or.inl (Or.inl hb)
          · exact Or.inr hb
        · cases e9
      · cases e9
    · cases e9
  · cases e9
def dropD (l : List (Key × D)) (k : Key) : List (Key × D) := l.filter fun kv => decide (kv.1 ≠ k)
theorem KvD.dropK {K : PySem.W.Frag} {B : Hp} {ks : List (Key × V)} {l : List (Key × D)} (h : KvD K B ks l) (k : Key) : KvD K B (dropK ks k) (dropD l k) := by
  unfold KvD at h ⊢
  unfold L2.dropK dropD
  induction h with
  | nil => exact .nil
  | @cons p q ps qs h t ih =>
    rw [List.filter_cons, List.filter_cons, h.1]
    by_cases e : q.1 = k
    · rw [if_neg (by simp [e]), if_neg (by simp [e])]; exact ih
    · rw [if_pos (by simp [e]), if_pos (by simp [e])]; exact .cons h ih
def isMd (o : Rs) (ρ : Env) : Bool := match o with
  | .bor j => match ρ[j]? with
    | some (some (.md _ _)) => true
    | _ => false
  | .lent _ w k0 => match w.kid k0 with
    | some (.md _ _) => true
    | _ => false
  | _ => false
def popSub (o i : Rs) : M Rs := fun ρ => match o with
  | .bor j => match ρ[j]?, i.view ρ with
    | some (some (.md t l)), some y => match kOf y with
      | some k => match valD l k with
        | some d => some (.ok (.own (.p d)) (ρ.set j (some (.md t (dropD l k)))))
        | none => none
      | none => none
    | _, _ => none
  | .lent j w k0 => match w.kid k0, ρ[j]?, i.view ρ with
    | some (.md tg l), some (some (.hl t)), some y => match kOf y with
      | some k => match valD l k with
        | some d => some (.ok (.own (.p d)) (ρ.set j (some ((w.setKid k0 (.md none (dropD l k))).retag t))))
        | none => none
      | none => none
    | _, _, _ => none
  | _ => none
def eDPop (fo fi : M Rs) : M Rs := M.bind fo fun o => M.bind (fun ρ => if isMd o ρ = true then some (.ok () ρ) else none) fun _ => M.bind fi fun i => popSub o i
theorem isMd_ok {K : PySem.W.Frag} {vs0 : List V} {B H : Hp} {σ : L2.St} {ρ : Env} {fs : Nat → List Addr} {o : Rs} {v : V} {T : List Addr} (g : Good K vs0 B H σ ρ fs) (ok : RsOk K B H σ fs v o T) (h : isMd o ρ = true) : ∃ a, v = .ref a ∧ IsD H a := by
  cases o with
  | own s => cases h
  | bor j =>
    unfold isMd at h
    dsimp only at h
    split at h
    · rename_i t l e
      obtain ⟨v', q1, ⟨a, ks, rfl, hfs, q2, q3⟩, _⟩ := g.at_ j _ e
      obtain ⟨z1, z2⟩ := ok
      rw [q1] at z1
      cases z1
      exact ⟨a, rfl, Or.inl ⟨ks, Or.inl q2⟩⟩
    · cases h
  | lent j w k0 =>
    unfold isMd at h
    dsimp only at h
    split at h
    · rename_i t l e
      obtain ⟨⟨v0, z1, z2, z3⟩, z4⟩ := ok
      obtain ⟨Tk, ⟨a, ks, rfl, _, q2, q3⟩, y2, y3⟩ := z2.kid z3 e
      exact ⟨a, rfl, Or.inl ⟨ks, Or.inl q2⟩⟩
    · cases h
theorem de_dpop {X : Cx} {vs0 : List V} {o e : Expr} {fo fi : M Rs} {apos cpos : Pos} (ho : PE X o (rdE X.K vs0 fo)) (hi : PE X e (rdE X.K vs0 fi)) (m : M1 X o "pop" apos e cpos := by exact ⟨rfl, rfl, rfl, rfl⟩) :
    PE X (.Call (.Attribute o "pop" apos) [e] [] cpos) (rdE X.K vs0 (eDPop fo fi)) := PE.imp (pe_dpop1 ho hi m) fun σ H Q q => by
  obtain ⟨B, ρ, fs, gd, r, ρ', e1, kk⟩ := q
  obtain ⟨ro, ρ1, e2, e3⟩ := M.bind_ok e1
  obtain ⟨_, ρ2, e4, e5⟩ := M.bind_ok e3
  obtain ⟨ri, ρ3, e6, e7⟩ := M.bind_ok e5
  split at e4
  · rename_i hmd
    cases e4
    refine ⟨B, ρ, fs, gd, ro, ρ1, e2, fun u B1 H1 fs1 T1 fr1 g1 ok1 => ?_⟩
    obtain ⟨a, rfl, hd⟩ := isMd_ok g1 ok1 hmd
    refine ⟨a, rfl, hd, B1, ρ1, fs1, g1, ri, ρ3, e6, fun y B2 H2 fs2 T2 fr2 g2 ok2 => ?_⟩
    unfold popSub at e7
    cases ro with
    | own s => cases e7
    | bor j =>
      dsimp only at e7
      split at e7
      · rename_i t l y' e10 e11
        split at e7
        · rename_i k e12
          split at e7
          · rename_i d e13
            cases e7
            obtain ⟨v', q1, ⟨a', ks, rfl, hfs, q2, q3⟩, _⟩ := g2.at_ j _ e10
            obtain ⟨z1, z2⟩ := ok1
            rw [q1] at z1
            cases z1
            have ew := kOf_dp ((view_ok g2 ok2 e11).dp g2.ext) e12
            subst ew
            rcases q3.val k with ⟨_, z⟩ | ⟨v, d', y1, y2, y3⟩
            · rw [e13] at z; cases z
            · rw [e13] at y2
              cases y2
              refine ⟨ks, k, v, q2, rfl, y1, ?_⟩
              have g5 := g2.upd (o := HO.dK (dropK ks k)) (s' := .md t (dropD l k)) e10 hfs q1 ⟨_, _, rfl, rfl, upd_same, q3.dropK k⟩ rfl
              refine kk v B2 _ fs2 [] ((((fr_drop fr1).trans (fr_drop fr2)).trans (Fr.updIn (o := HO.dK (dropK ks k)) ⟨j, by rw [hfs]; simp⟩)).weak (fun _ h => h) fun b hb => Or.inl ?_) g5 ⟨⟨y3, rfl⟩, rfl, fun b hb => nomatch hb⟩
              rcases hb with hb | hb
              · exact hb
              · cases hb
          · cases e7
        · cases e7
      · cases e7
    | lent j w k0 =>
      dsimp only at e7
      split at e7
      · rename_i tg l t y' hk hh e11
        split at e7
        · rename_i k e12
          split at e7
          · rename_i d e13
            cases e7
            have ok3 : RsOk X.K B2 H2 σ fs2 (.ref a) (.lent j w k0) T1 := ok1.keep fr2 ok1.off fun a h => Or.inl h
            obtain ⟨a', ks, q0, q2, q3, put⟩ := good_mutD g2 ok3 hk hh
            cases q0
            have ew := kOf_dp ((view_ok g2 ok2 e11).dp g2.ext) e12
            subst ew
            rcases q3.val k with ⟨_, z⟩ | ⟨v, d', y1, y2, y3⟩
            · rw [e13] at z; cases z
            · rw [e13] at y2
              cases y2
              refine ⟨ks, k, v, q2, rfl, y1, ?_⟩
              obtain ⟨fs5, fr5, g5⟩ := put (dropK ks k) (dropD l k) (q3.dropK k)
              refine kk v B2 _ fs5 [] (fr1.trans ((((fr2.frame T1).weak (fun _ h => h) (G' := UnF (InF fs2) T1) fun b hb => Or.inl ?_).trans fr5).weak (fun _ h => h) fun b hb => Or.inl ?_)) g5 ⟨⟨y3, rfl⟩, rfl, fun b hb => nomatch hb⟩
              · rcases hb with hb | hb
                · exact Or.inl (Or.inl hb)
                · exact Or.inr hb
              · rcases hb with hb | hb
                · exact hb
                · cases hb
          · cases e7
        · cases e7
      · cases e7
  · cases e4
end Pd
set_option Elab.async false
set_option linter.all false
set_option maxRecDepth 100000
set_option maxHeartbeats 2000000
namespace Pd
open PySem PySem.Spec PyProof.Rows L2
def wkVals (l : List (Key × D)) : List D := l.map (·.2)
def wkItems (l : List (Key × D)) : List D := itemsD l
def eLcA (c f : Str) (i : Nat) (wk : List (Key × D) → List D) (own : List Nat) (t : D → Env → Option Env) (tt : M Bool) (te : M Rs) : M Rs := fun ρ => match ρ[i]? with
  | some (some (.ob tg c' ns l)) => if c' = c then match ixOf f ns with
      | some k => match l[k]? with
        | some (.md _ kv) => match eLc (M.ret (wk kv)) own t tt te (ρ.set i (some (.hl tg))) with
          | some (.ok (.own s) ρ1) => if s.nofd = true ∧ s.tag = none ∧ nofdE (ρ1.set i none) = true then some (.ok (.own s) (ρ1.set i (some (.ob tg c' ns l)))) else none
          | _ => none
        | _ => none
      | none => none
    else none
  | _ => none
section
variable {K : PySem.W.Frag} {vs0 : List V}
theorem rd_lcA {c f : Str} {i : Nat} {C : Addr} {wk : List (Key × D) → List D} {own is : List Nat} {t : D → Env → Option Env} {tt : M Bool} {te : M Rs} (his : ∀ i ∈ is, i ∈ own) (hC : PySem.W.nsIn K mainGlobals c = some (some (.ref C))) (hc : Cls K C) (hn : NoAttr K C f) {wi : TI} {σ : L2.St}
    (hw : ∀ (B Hx : Hp) (a : Addr) (o : Obj) (ks : List (Key × V)) (kv : List (Key × D)) (R : _), B a = some (.frz o (.dK ks)) → Hx a = some (.frz o (.dK ks)) → KvD K B ks kv → (∀ P : VK, P (.ref a) Hx → tFld K (tVar i) f σ Hx P) → (∀ J, JOk K B J (wk kv) → R J Hx) → wi σ Hx R)
    {H : Hp} {Q : VK} (q : rdE K vs0 (eLcA c f i wk own t tt te) σ H Q) : tLockE (tLc wi (rdG K vs0 is t) (rdT K vs0 tt) (rdE K vs0 te) own) σ H Q := by
  obtain ⟨B, ρ, fs, g, r, ρ', e1, k⟩ := q
  unfold eLcA at e1
  split at e1
  · rename_i tg c' ns l e0
    split at e1
    · rename_i ec
      subst ec
      split at e1
      · rename_i kx hk
        split at e1
        · rename_i tgk kv hx
          split at e1
          · rename_i s ρ1 e2
            split at e1
            · rename_i hcnd
              obtain ⟨c1, c2, c3⟩ := hcnd
              cases e1
              obtain ⟨v0, z1, z2, z3⟩ := g.at_ i _ e0
              have z2' := z2
              obtain ⟨p, dx, C', vs, Ts, rfl, eT, q1, q2, q3, q4, q5, q6⟩ := z2
              rw [hC] at q1
              cases q1
              obtain ⟨v, hv, hlk⟩ := ixOf_at hk q3
              obtain ⟨v', Tk, w1, w2, w3⟩ := OwnL.get q5 hx
              rw [hv] at w1
              cases w1
              obtain ⟨a, ks, rfl, rfl, h1, h2⟩ := w3
              have hi : i < ρ.length := (List.getElem?_eq_some_iff.mp e0).1
              have ain : a ∈ fs i := by
                rw [eT]
                exact List.mem_cons_of_mem _ (List.mem_cons_of_mem _ (List.mem_flatten.mpr ⟨[a], List.mem_of_getElem? w2, by simp⟩))
              have hpa : p ≠ a := fun e => by rw [e, h1] at q2; cases q2
              have hBa : B a = none := g.out i a ain
              refine ⟨a, .dK ks, h1, trivial, fun od => ?_⟩
              have sB : Same B (upd B a (.frz od (.dK ks))) := fun b u e => by
                rw [upd_ne (fun q => by rw [q, hBa] at e; cases e)]
                exact e
              have gl : Good K vs0 (upd B a (.frz od (.dK ks))) (upd H a (.frz od (.dK ks))) σ (ρ.set i (some (.hl tg))) (fun j => if j = i then [] else fs j) := {
                ext := same_upd g.ext
                len := by rw [List.length_set]; exact g.len
                at_ := fun j s' h => by
                  by_cases e : j = i
                  · subst e
                    rw [List.getElem?_set_self hi] at h
                    cases h
                    exact ⟨_, z1, if_pos rfl, z3⟩
                  · rw [List.getElem?_set_ne (Ne.symm e)] at h
                    obtain ⟨v', y1, y2, y3⟩ := g.at_ j s' h
                    refine ⟨v', y1, ?_, y3⟩
                    rw [if_neg e]
                    exact y2.keep sB fun b hb => upd_ne fun q => e (g.dis j i a (q ▸ hb) ain)
                emp := fun j h => by
                  by_cases e : j = i
                  · rw [if_pos e]
                  · rw [if_neg e]
                    exact g.emp j fun s' q => h s' (by rw [List.getElem?_set_ne (Ne.symm e)]; exact q)
                dis := fun j j' b hb hb' => by
                  by_cases e : j = i
                  · rw [if_pos e] at hb; cases hb
                  · by_cases e' : j' = i
                    · rw [if_pos e'] at hb'; cases hb'
                    · rw [if_neg e] at hb; rw [if_neg e'] at hb'; exact g.dis j j' b hb hb'
                out := fun j b hb => by
                  by_cases e : j = i
                  · rw [if_pos e] at hb; cases hb
                  · rw [if_neg e] at hb
                    rw [upd_ne (show b ≠ a from fun q => e (g.dis j i a (q ▸ hb) ain))]
                    exact g.out j b hb }
              refine rd_lcW his ⟨_, _, _, gl, ⟨_, _, e2, fun v B2 H2 fs2 T fr g2 ok => ?_⟩, fun R l1 ρ2 e3 kk => ?_⟩
              · have ha2 : B2 a = some (.frz od (.dK ks)) := fr.bb a _ upd_same
                have hH2 := g2.ext a _ ha2
                refine ⟨hH2, ?_⟩
                have sub : ∀ b, InF (fun j => if j = i then [] else fs j) b → ∃ j, j ≠ i ∧ b ∈ fs j := fun b ⟨j, hj⟩ => by
                  dsimp only at hj
                  by_cases e : j = i
                  · rw [if_pos e] at hj; cases hj
                  · rw [if_neg e] at hj; exact ⟨j, e, hj⟩
                have n2 : ∀ j b, b ∈ fs2 j → b ≠ a := fun j b hb q => by
                  have := g2.out j b hb
                  rw [q, ha2] at this
                  cases this
                have hj2 : i < ρ1.length := by rw [← g2.len, g.len]; exact hi
                have s3 : Same B (dropA B2 a) := fun b u e => by
                  have n : b ≠ a := fun q => by rw [q, hBa] at e; cases e
                  rw [dropA_ne n]
                  exact fr.bb b u (by rw [upd_ne n]; exact e)
                have H1 : ∀ {b}, b ≠ a → upd H a (HO.frz od (.dK ks)) b = H b := fun n => upd_ne n
                have off : ∀ b, b ∈ fs i → ¬ UnF (InF fs2) T b := fun b hb f => by
                  rcases fr.own b f with q | q
                  · obtain ⟨j, hj, hbj⟩ := sub b q
                    exact hj (g.dis j i b hbj hb)
                  · by_cases n : b = a
                    · rw [n, upd_same] at q; cases q
                    · rw [H1 n] at q; exact g.lives hb q
                have notF : ∀ b, b ∈ fs i → ¬ InF (fun j => if j = i then [] else fs j) b := fun b hb f => by
                  obtain ⟨j, hj, hbj⟩ := sub b f
                  exact hj (g.dis j i b hbj hb)
                have live1 : ∀ b, b ∈ fs i → upd H a (HO.frz od (.dK ks)) b ≠ none := fun b hb => by
                  by_cases n : b = a
                  · rw [n, upd_same]; simp
                  · rw [H1 n]; exact g.lives hb
                have hold : ∀ b ∈ fs i, upd H2 a (HO.dK ks) b = H b := fun b hb => by
                  by_cases n : b = a
                  · rw [n, upd_same, h1]
                  · rw [upd_ne n, fr.keep b (live1 b hb) (notF b hb), H1 n]
                have g3 : Good K vs0 (dropA B2 a) (upd H2 a (.dK ks)) σ (ρ1.set i (some (.ob tg c' ns l))) (fun j => if j = i then fs i else fs2 j) := {
                  ext := fun b u e => by
                    obtain ⟨n, e⟩ := dropA_at e
                    rw [upd_ne n]
                    exact g2.ext b u e
                  len := by rw [List.length_set]; exact g2.len
                  at_ := fun j s' h => by
                    by_cases e : j = i
                    · subst e
                      rw [List.getElem?_set_self hj2] at h
                      cases h
                      refine ⟨_, z1, ?_, z3⟩
                      rw [if_pos rfl]
                      exact z2'.keep s3 hold
                    · rw [List.getElem?_set_ne (Ne.symm e)] at h
                      obtain ⟨v', y1, y2, y3⟩ := g2.at_ j s' h
                      refine ⟨v', y1, ?_, y3⟩
                      rw [if_neg e]
                      exact y2.dropA ha2 (nofdE_at c3 (by rw [List.getElem?_set_ne (Ne.symm e)]; exact h)) fun b hb => upd_ne (n2 j b hb)
                  emp := fun j h => by
                    by_cases e : j = i
                    · subst e
                      exact (h _ (List.getElem?_set_self hj2)).elim
                    · rw [if_neg e]
                      exact g2.emp j fun s' q => h s' (by rw [List.getElem?_set_ne (Ne.symm e)]; exact q)
                  dis := fun j j' b hb hb' => by
                    by_cases e : j = i
                    · by_cases e' : j' = i
                      · rw [e, e']
                      · rw [if_pos e] at hb; rw [if_neg e'] at hb'
                        exact (off b hb (Or.inl ⟨j', hb'⟩)).elim
                    · by_cases e' : j' = i
                      · rw [if_neg e] at hb; rw [if_pos e'] at hb'
                        exact (off b hb' (Or.inl ⟨j, hb⟩)).elim
                      · rw [if_neg e] at hb; rw [if_neg e'] at hb'; exact g2.dis j j' b hb hb'
                  out := fun j b hb => by
                    by_cases e : j = i
                    · rw [if_pos e] at hb
                      by_cases n : b = a
                      · rw [n]; exact dropA_same
                      · rw [dropA_ne n]
                        exact fr.bnew b (live1 b hb) (notF b hb) (by rw [upd_ne n]; exact g.out i b hb)
                    · rw [if_neg e] at hb
                      rw [dropA_ne (n2 j b hb)]
                      exact g2.out j b hb }
                have nT : ∀ b ∈ T, b ≠ a := fun b hb q => by
                  have := (ok.2.2 b hb).1
                  rw [q, ha2] at this
                  cases this
                refine k v _ _ _ T ?_ g3 ⟨ok.1.dropA ha2 c1 fun b hb => upd_ne (nT b hb), c2, fun b hb => ⟨by rw [dropA_ne (nT b hb)]; exact (ok.2.2 b hb).1, fun j hj => ?_⟩⟩
                · refine ⟨s3, fun b hb nf => ?_, fun b hb => ?_, fun b hb => ?_, fun b hb nf hB => ?_⟩
                  · have n : b ≠ a := fun q => nf ⟨i, q ▸ ain⟩
                    rw [upd_ne n, fr.keep b (by rw [H1 n]; exact hb) (fun q => nf (let ⟨j, _, hj⟩ := sub b q; ⟨j, hj⟩)), H1 n]
                  · by_cases n : b = a
                    · rw [n, upd_same]; simp
                    · rw [upd_ne n]
                      exact fr.live b (by rw [H1 n]; exact hb)
                  · have main : UnF (InF fs2) T b → InF fs b ∨ H b = none := fun q => by
                      rcases fr.own b q with q | q
                      · exact Or.inl (let ⟨j, _, hj⟩ := sub b q; ⟨j, hj⟩)
                      · by_cases n : b = a
                        · rw [n, upd_same] at q; cases q
                        · rw [H1 n] at q; exact Or.inr q
                    rcases hb with ⟨j, hj⟩ | hb
                    · dsimp only at hj
                      by_cases e : j = i
                      · rw [if_pos e] at hj
                        exact Or.inl ⟨i, hj⟩
                      · rw [if_neg e] at hj
                        exact main (Or.inl ⟨j, hj⟩)
                    · exact main (Or.inr hb)
                  · have n : b ≠ a := fun q => nf ⟨i, q ▸ ain⟩
                    rw [dropA_ne n]
                    exact fr.bnew b (by rw [H1 n]; exact hb) (fun q => nf (let ⟨j, _, hj⟩ := sub b q; ⟨j, hj⟩)) (by rw [upd_ne n]; exact hB)
                · dsimp only at hj
                  by_cases e : j = i
                  · rw [if_pos e] at hj
                    exact off b hj (Or.inr hb)
                  · rw [if_neg e] at hj
                    exact (ok.2.2 b hb).2 j hj
              · cases e3
                refine hw (upd B a (.frz od (.dK ks))) (upd H a (.frz od (.dK ks))) a od ks kv R upd_same upd_same (h2.mono sB) (fun P hP => ⟨_, z1, p, C, dx, _, _, rfl, by rw [upd_ne hpa]; exact q2, hc, hn, hlk, hP⟩) fun J hJ => ?_
                exact kk J _ _ _ (Fr.refl _ _ _) gl hJ
            · cases e1
          · cases e1
        · cases e1
      · cases e1
    · cases e1
  · cases e1
end
section
variable {X : Cx} {vs0 : List V} {c f : Str} {i : Nat} {o elt tg : Expr} {ifs : List Expr} {scope : Scope} {own : List (Str × Nat)} {is : List Nat} {pos fpos apos cpos : Pos} {t : D → Env → Option Env} {tt : M Bool} {te : M Rs}
theorem de_lcAVals (A : AttrIs X.K c f) (hc : X.calm = true) (hN : X.N.Nodup) (ho : PE X o (tVar i)) (ok : BlkOk X.N X.env.scope scope own)
    (his : ∀ i ∈ is, i ∈ own.map (·.2))
    (hg : ∀ (s : Shared) (H : Hp) (C : Addr) (cl : List (Str × Addr)) (fp : List Addr), PG (X.blk s H scope (compEnvC scope cl C X.env) fp) tg (rdG X.K vs0 is t)) (ht : ∀ (s : Shared) (H : Hp) (C : Addr) (cl : List (Str × Addr)) (fp : List Addr), PTs (X.blk s H scope (compEnvC scope cl C X.env) fp) ifs (rdT X.K vs0 tt))
    (he : ∀ (s : Shared) (H : Hp) (C : Addr) (cl : List (Str × Addr)) (fp : List Addr), PE (X.blk s H scope (compEnvC scope cl C X.env) fp) elt (rdE X.K vs0 te)) (hb : attributeBase o f X.env (eval o X.env) = eval o X.env := by rfl) (hbase : attributeBase (.Attribute o f fpos) "values" X.env (eval (.Attribute o f fpos) X.env) = eval (.Attribute o f fpos) X.env := by rfl) (hline : (apos.endLine == cpos.line) = true := by rfl) (hs : ∀ x, foldedSetIterable (.Call (.Attribute (.Attribute o f fpos) "values" apos) [] [] cpos) X.env x = pure x := by intro _; rfl) :
    PE X (.ListComp elt [⟨tg, .Call (.Attribute (.Attribute o f fpos) "values" apos) [] [] cpos, ifs, 0⟩] scope pos) (rdE X.K vs0 (eLcA c f i wkVals (own.map (·.2)) t tt te)) := by
  obtain ⟨C, hC, hcl, hn⟩ := A.ex
  exact PE.imp (pe_lock (pe_lc hc hN (pi_values (pe_fld ho hb) hbase hline) ok hg ht he hs)) fun σ H Q q => rd_lcA his hC hcl hn (fun B Hx a o ks kv R h1 h2 h3 h4 h5 => h4 _ ⟨a, o, ks, rfl, h2, h5 _ (jok_vals h1 h3)⟩) q
theorem de_lcAItems {elts : List Expr} {kk : Nat} {tpos : Pos} (A : AttrIs X.K c f) (hc : X.calm = true) (hN : X.N.Nodup) (ho : PE X o (tVar i)) (ok : BlkOk X.N X.env.scope scope own)
    (his : ∀ i ∈ is, i ∈ own.map (·.2))
    (hg : ∀ (s : Shared) (H : Hp) (C : Addr) (cl : List (Str × Addr)) (fp : List Addr), PG (X.blk s H scope (compEnvC scope cl C X.env) fp) (.Tuple elts kk tpos) (rdG X.K vs0 is t)) (ht : ∀ (s : Shared) (H : Hp) (C : Addr) (cl : List (Str × Addr)) (fp : List Addr), PTs (X.blk s H scope (compEnvC scope cl C X.env) fp) ifs (rdT X.K vs0 tt))
    (he : ∀ (s : Shared) (H : Hp) (C : Addr) (cl : List (Str × Addr)) (fp : List Addr), PE (X.blk s H scope (compEnvC scope cl C X.env) fp) elt (rdE X.K vs0 te)) (hb : attributeBase o f X.env (eval o X.env) = eval o X.env := by rfl) (hbase : attributeBase (.Attribute o f fpos) "items" X.env (eval (.Attribute o f fpos) X.env) = eval (.Attribute o f fpos) X.env := by rfl) (hline : (apos.endLine == cpos.line) = true := by rfl) (hs : ∀ x, foldedSetIterable (.Call (.Attribute (.Attribute o f fpos) "items" apos) [] [] cpos) X.env x = pure x := by intro _; rfl) :
    PE X (.ListComp elt [⟨.Tuple elts kk tpos, .Call (.Attribute (.Attribute o f fpos) "items" apos) [] [] cpos, ifs, 0⟩] scope pos) (rdE X.K vs0 (eLcA c f i wkItems (own.map (·.2)) t tt te)) := by
  obtain ⟨C, hC, hcl, hn⟩ := A.ex
  exact PE.imp (pe_lock (pe_lc hc hN (pi_items (pe_fld ho hb) hbase hline) ok hg ht he hs)) fun σ H Q q => rd_lcA his hC hcl hn (fun B Hx a o ks kv R h1 h2 h3 h4 h5 => h4 _ ⟨a, o, ks, rfl, h2, h5 _ (jok_items h1 h3)⟩) q
end
end Pd
set_option Elab.async false
set_option linter.all false
set_option maxRecDepth 100000
set_option maxHeartbeats 1000000
namespace Pd
open PySem PySem.Spec PyProof.Rows L2
namespace B
section
variable {ρ : Env}
def resQ2 (ρ : Env) (Q : Rs → Env → Prop) : Option Rd2 → Prop
  | some res => Q res.rs ρ
  | none => False
@[simp] theorem resQ2_pd {Q : Rs → Env → Prop} {d : D} : resQ2 ρ Q (some (.pd d)) = Q (.own (.p d)) ρ := rfl
@[simp] theorem resQ2_nl {Q : Rs → Env → Prop} {l : List D} : resQ2 ρ Q (some (.nl l)) = Q (.own (.ml none l)) ρ := rfl
@[simp] theorem resQ2_nm {Q : Rs → Env → Prop} {l : List (Key × D)} : resQ2 ρ Q (some (.nm l)) = Q (.own (.md none l)) ρ := rfl
@[simp] theorem resQ2_none {Q : Rs → Env → Prop} : resQ2 ρ Q none = False := rfl
def lentV (i : Nat) (k : List Nat) (w : Sl) (ρ : Env) (Q : Rs → Env → Prop) (pf : Vw → Option Rd2) (t : Option Nat) (s : Sl) : Option Vw → Prop
  | some d => resQ2 (ρ.set i (some ((w.setKid k s).retag t))) Q (pf d)
  | none => False
def lentVQ (i : Nat) (k : List Nat) (w : Sl) (ρ : Env) (Q : Rs → Env → Prop) (pf : Vw → Option Rd2) : Option (Option Sl) → Option Sl → Prop
  | some (some (.hl t)), some s => lentV i k w ρ Q pf t s.bare s.bare.vws
  | _, _ => False
@[simp] theorem lentVQ_md {i : Nat} {k : List Nat} {w : Sl} {Q : Rs → Env → Prop} {pf : Vw → Option Rd2} {t tg : Option Nat} {l : List (Key × D)} : lentVQ i k w ρ Q pf (some (some (.hl t))) (some (.md tg l)) = resQ2 (ρ.set i (some ((w.setKid k (.md none l)).retag t))) Q (pf (.m l)) := rfl
theorem opVL_12 {pf : List Vw → Option Rd2} {i : Nat} {k : List Nat} {w : Sl} {d : D} {Q : Rs → Env → Prop} : Ev (opVL pf [.lent i w k, .own (.p d)]) ρ Q ↔ lentVQ i k w ρ Q (fun d0 => pf [d0, .d d]) ρ[i]? (w.kid k) := by
  constructor
  · rintro ⟨r, ρ', e, q⟩
    unfold opVL at e
    split at e
    · split at e
      · rename_i ss h1
        split at e
        · rename_i ds h2
          split at e
          · rename_i res h3
            cases e
            rw [argL_cons] at h1
            obtain ⟨s, h4, h5⟩ := Option.bind_eq_some_iff.mp h1
            obtain ⟨t, s0, h6, h7, rfl⟩ := argR_some h4
            rw [show argL [.own (.p d)] ρ = some [.p d] by simp] at h5
            cases h5
            rw [h6, h7]
            unfold vwsAll at h2
            rw [show vwsAll [.p d] = some [.d d] from rfl] at h2
            show lentV i k w ρ Q (fun d0 => pf [d0, .d d]) t s0.bare s0.bare.vws
            cases e8 : s0.bare.vws with
            | none => rw [e8] at h2; cases h2
            | some d1 =>
              rw [e8] at h2
              cases h2
              unfold lentV
              dsimp only
              rw [h3]
              show Q _ _
              simpa [tagAt_eq, h6] using q
          · cases e
        · cases e
      · cases e
    · cases e
  · intro q
    unfold lentVQ at q
    split at q
    · rename_i t s e1 e2
      unfold lentV at q
      split at q
      · rename_i d1 e3
        unfold resQ2 at q
        split at q
        · rename_i res e4
          refine ⟨_, _, ?_, q⟩
          unfold opVL
          rw [if_pos (by simp), show argL [.lent i w k, .own (.p d)] ρ = some [s.bare, .p d] by simp [e1, e2]]
          dsimp only
          rw [show vwsAll [s.bare, .p d] = some [d1, .d d] by unfold vwsAll; rw [e3]; rfl]
          dsimp only
          dsimp only at e4
          rw [e4]
          simp [e1]
        · exact q.elim
      · exact q.elim
    · exact q.elim
theorem opVL_21 {pf : List Vw → Option Rd2} {i : Nat} {k : List Nat} {w : Sl} {d : D} {Q : Rs → Env → Prop} : Ev (opVL pf [.own (.p d), .lent i w k]) ρ Q ↔ lentVQ i k w ρ Q (fun d0 => pf [.d d, d0]) ρ[i]? (w.kid k) := by
  constructor
  · rintro ⟨r, ρ', e, q⟩
    unfold opVL at e
    split at e
    · split at e
      · rename_i ss h1
        split at e
        · rename_i ds h2
          split at e
          · rename_i res h3
            cases e
            rw [argL_cons] at h1
            obtain ⟨s1, h40, h50⟩ := Option.bind_eq_some_iff.mp h1
            rw [argR_own] at h40
            cases h40
            rw [Option.map_eq_some_iff] at h50
            obtain ⟨ss2, h51, rfl⟩ := h50
            rw [argL_cons] at h51
            obtain ⟨s, h4, h5⟩ := Option.bind_eq_some_iff.mp h51
            obtain ⟨t, s0, h6, h7, rfl⟩ := argR_some h4
            rw [argL_nil] at h5
            cases h5
            rw [h6, h7]
            unfold vwsAll at h2
            rw [show (Sl.p d).vws = some (.d d) from rfl] at h2
            unfold vwsAll at h2
            show lentV i k w ρ Q (fun d0 => pf [.d d, d0]) t s0.bare s0.bare.vws
            cases e8 : s0.bare.vws with
            | none => rw [e8] at h2; cases h2
            | some d1 =>
              rw [e8] at h2
              cases h2
              unfold lentV
              dsimp only
              rw [h3]
              show Q _ _
              simpa [tagAt_eq, h6] using q
          · cases e
        · cases e
      · cases e
    · cases e
  · intro q
    unfold lentVQ at q
    split at q
    · rename_i t s e1 e2
      unfold lentV at q
      split at q
      · rename_i d1 e3
        unfold resQ2 at q
        split at q
        · rename_i res e4
          refine ⟨_, _, ?_, q⟩
          unfold opVL
          rw [if_pos (by simp), show argL [.own (.p d), .lent i w k] ρ = some [.p d, s.bare] by simp [e1, e2]]
          dsimp only
          rw [show vwsAll [.p d, s.bare] = some [.d d, d1] by unfold vwsAll vwsAll; rw [e3]; rfl]
          dsimp only
          dsimp only at e4
          rw [e4]
          simp [e1]
        · exact q.elim
      · exact q.elim
    · exact q.elim
@[simp ↓] theorem ev_ixDL {i : Nat} {k : List Nat} {w : Sl} {d : D} {Q : Rs → Env → Prop} : Ev (oIxDL [.lent i w k, .own (.p d)]) ρ Q ↔ lentVQ i k w ρ Q (fun d0 => pIxD [d0, .d d]) ρ[i]? (w.kid k) := opVL_12
@[simp ↓] theorem ev_inDL {i : Nat} {k : List Nat} {w : Sl} {d : D} {Q : Rs → Env → Prop} : Ev (oInDL [.own (.p d), .lent i w k]) ρ Q ↔ lentVQ i k w ρ Q (fun d0 => pInD [.d d, d0]) ρ[i]? (w.kid k) := opVL_21
@[simp ↓] theorem ev_niDL {i : Nat} {k : List Nat} {w : Sl} {d : D} {Q : Rs → Env → Prop} : Ev (oNiDL [.own (.p d), .lent i w k]) ρ Q ↔ lentVQ i k w ρ Q (fun d0 => pNiD [.d d, d0]) ρ[i]? (w.kid k) := opVL_21
def putLQ (j : Nat) (k0 : List Nat) (w : Sl) (d : D) (ρ : Env) (Q : Fl → Env → Prop) : Option (Option Sl) → Option Sl → Option D → Prop
  | some (some (.hl t)), some (.md tg l), some y => ∃ k, kOf y = some k ∧ l.length < sizeLine ∧ Q .nx (ρ.set j (some ((w.setKid k0 (.md none (putD l k d))).retag t)))
  | _, _, _ => False
@[simp] theorem putLQ_md {j : Nat} {k0 : List Nat} {w : Sl} {d y : D} {Q : Fl → Env → Prop} {t tg : Option Nat} {l : List (Key × D)} : putLQ j k0 w d ρ Q (some (some (.hl t))) (some (.md tg l)) (some y) = (∃ k, kOf y = some k ∧ l.length < sizeLine ∧ Q .nx (ρ.set j (some ((w.setKid k0 (.md none (putD l k d))).retag t)))) := rfl
@[simp ↓] theorem ev_putSubL {j : Nat} {k0 : List Nat} {w : Sl} {i : Rs} {d : D} {Q : Fl → Env → Prop} : Ev (putSubL (.lent j w k0) i d) ρ Q ↔ putLQ j k0 w d ρ Q ρ[j]? (w.kid k0) (i.view ρ) := by
  constructor
  · rintro ⟨fl, ρ', e, q⟩
    unfold putSubL at e
    dsimp only at e
    split at e
    · rename_i tg l t h1 h2
      split at e
      · rename_i y h3
        split at e
        · rename_i k h4
          split at e
          · rename_i hl
            cases e
            rw [h1, h2, h3]
            exact ⟨k, h4, hl, q⟩
          · cases e
        · cases e
      · cases e
    · cases e
  · intro q
    unfold putLQ at q
    split at q
    · rename_i t tg l y h1 h2 h3
      obtain ⟨k, h4, hl, q⟩ := q
      refine ⟨_, _, ?_, q⟩
      unfold putSubL
      dsimp only
      rw [h1, h2]
      dsimp only
      rw [h3]
      dsimp only
      rw [h4]
      dsimp only
      rw [if_pos hl]
    · exact q.elim
@[simp ↓] theorem ev_gPutL {f fo fi : M Rs} {Q : Fl → Env → Prop} : Ev (gPutL f fo fi) ρ Q ↔ Ev f ρ fun r ρ1 => Ev (freezeR r) ρ1 fun d ρ2 => Ev fo ρ2 fun o ρ3 => Ev fi ρ3 fun i ρ4 => Ev (putSubL o i d) ρ4 Q := by
  unfold gPutL
  simp only [ev_bind]
def popQ (j : Nat) (ρ : Env) (Q : Rs → Env → Prop) : Option (Option Sl) → Option D → Prop
  | some (some (.md t l)), some y => ∃ k d, kOf y = some k ∧ valD l k = some d ∧ Q (.own (.p d)) (ρ.set j (some (.md t (dropD l k))))
  | _, _ => False
@[simp] theorem popQ_md {j : Nat} {Q : Rs → Env → Prop} {t : Option Nat} {l : List (Key × D)} {y : D} : popQ j ρ Q (some (some (.md t l))) (some y) = (∃ k d, kOf y = some k ∧ valD l k = some d ∧ Q (.own (.p d)) (ρ.set j (some (.md t (dropD l k))))) := rfl
def popLQ (j : Nat) (k0 : List Nat) (w : Sl) (ρ : Env) (Q : Rs → Env → Prop) : Option Sl → Option (Option Sl) → Option D → Prop
  | some (.md tg l), some (some (.hl t)), some y => ∃ k d, kOf y = some k ∧ valD l k = some d ∧ Q (.own (.p d)) (ρ.set j (some ((w.setKid k0 (.md none (dropD l k))).retag t)))
  | _, _, _ => False
@[simp] theorem popLQ_md {j : Nat} {k0 : List Nat} {w : Sl} {Q : Rs → Env → Prop} {t tg : Option Nat} {l : List (Key × D)} {y : D} : popLQ j k0 w ρ Q (some (.md tg l)) (some (some (.hl t))) (some y) = (∃ k d, kOf y = some k ∧ valD l k = some d ∧ Q (.own (.p d)) (ρ.set j (some ((w.setKid k0 (.md none (dropD l k))).retag t)))) := rfl
@[simp ↓] theorem ev_popSub {j : Nat} {i : Rs} {Q : Rs → Env → Prop} : Ev (popSub (.bor j) i) ρ Q ↔ popQ j ρ Q ρ[j]? (i.view ρ) := by
  constructor
  · rintro ⟨r, ρ', e, q⟩
    unfold popSub at e
    dsimp only at e
    split at e
    · rename_i t l y h1 h2
      split at e
      · rename_i k h3
        split at e
        · rename_i d h4
          cases e
          rw [h1, h2]
          exact ⟨k, d, h3, h4, q⟩
        · cases e
      · cases e
    · cases e
  · intro q
    unfold popQ at q
    split at q
    · rename_i t l y h1 h2
      obtain ⟨k, d, h3, h4, q⟩ := q
      refine ⟨_, _, ?_, q⟩
      unfold popSub
      dsimp only
      rw [h1, h2]
      dsimp only
      rw [h3]
      dsimp only
      rw [h4]
    · exact q.elim
@[simp ↓] theorem ev_popSubL {j : Nat} {k0 : List Nat} {w : Sl} {i : Rs} {Q : Rs → Env → Prop} : Ev (popSub (.lent j w k0) i) ρ Q ↔ popLQ j k0 w ρ Q (w.kid k0) ρ[j]? (i.view ρ) := by
  constructor
  · rintro ⟨r, ρ', e, q⟩
    unfold popSub at e
    dsimp only at e
    split at e
    · rename_i tg l t y h1 h2 h3
      split at e
      · rename_i k h4
        split at e
        · rename_i d h5
          cases e
          rw [h1, h2, h3]
          exact ⟨k, d, h4, h5, q⟩
        · cases e
      · cases e
    · cases e
  · intro q
    unfold popLQ at q
    split at q
    · rename_i tg l t y h1 h2 h3
      obtain ⟨k, d, h4, h5, q⟩ := q
      refine ⟨_, _, ?_, q⟩
      unfold popSub
      dsimp only
      rw [h1, h2, h3]
      dsimp only
      rw [h4]
      dsimp only
      rw [h5]
    · exact q.elim
def mdO : Option (Option Sl) → Prop
  | some (some (.md _ _)) => True
  | _ => False
@[simp] theorem mdO_md {t : Option Nat} {l : List (Key × D)} : mdO (some (some (.md t l))) = True := rfl
@[simp] theorem isMd_bor {j : Nat} : (isMd (.bor j) ρ = true) = mdO ρ[j]? := by
  apply propext
  unfold isMd
  dsimp only
  generalize ρ[j]? = o
  cases o with
  | none => exact ⟨fun h => (Bool.false_ne_true h).elim, fun h => h.elim⟩
  | some o =>
    cases o with
    | none => exact ⟨fun h => (Bool.false_ne_true h).elim, fun h => h.elim⟩
    | some s =>
      cases s with
      | md t l => exact ⟨fun _ => trivial, fun _ => rfl⟩
      | p d => exact ⟨fun h => (Bool.false_ne_true h).elim, fun h => h.elim⟩
      | ml t l => exact ⟨fun h => (Bool.false_ne_true h).elim, fun h => h.elim⟩
      | mr t l => exact ⟨fun h => (Bool.false_ne_true h).elim, fun h => h.elim⟩
      | ob t c ns l => exact ⟨fun h => (Bool.false_ne_true h).elim, fun h => h.elim⟩
      | ex c f => exact ⟨fun h => (Bool.false_ne_true h).elim, fun h => h.elim⟩
      | fd l => exact ⟨fun h => (Bool.false_ne_true h).elim, fun h => h.elim⟩
      | hl t => exact ⟨fun h => (Bool.false_ne_true h).elim, fun h => h.elim⟩
      | tp l => exact ⟨fun h => (Bool.false_ne_true h).elim, fun h => h.elim⟩
@[simp] theorem isMd_lent {j : Nat} {k0 : List Nat} {w : Sl} : (isMd (.lent j w k0) ρ = true) = mdO (some (w.kid k0)) := by
  apply propext
  unfold isMd
  dsimp only
  generalize w.kid k0 = o
  cases o with
  | none => exact ⟨fun h => (Bool.false_ne_true h).elim, fun h => h.elim⟩
  | some s =>
      cases s with
      | md t l => exact ⟨fun _ => trivial, fun _ => rfl⟩
      | p d => exact ⟨fun h => (Bool.false_ne_true h).elim, fun h => h.elim⟩
      | ml t l => exact ⟨fun h => (Bool.false_ne_true h).elim, fun h => h.elim⟩
      | mr t l => exact ⟨fun h => (Bool.false_ne_true h).elim, fun h => h.elim⟩
      | ob t c ns l => exact ⟨fun h => (Bool.false_ne_true h).elim, fun h => h.elim⟩
      | ex c f => exact ⟨fun h => (Bool.false_ne_true h).elim, fun h => h.elim⟩
      | fd l => exact ⟨fun h => (Bool.false_ne_true h).elim, fun h => h.elim⟩
      | hl t => exact ⟨fun h => (Bool.false_ne_true h).elim, fun h => h.elim⟩
      | tp l => exact ⟨fun h => (Bool.false_ne_true h).elim, fun h => h.elim⟩
@[simp ↓] theorem ev_dpop {fo fi : M Rs} {Q : Rs → Env → Prop} : Ev (eDPop fo fi) ρ Q ↔ Ev fo ρ fun o ρ1 => isMd o ρ1 = true ∧ Ev fi ρ1 fun i ρ2 => Ev (popSub o i) ρ2 Q := by
  unfold eDPop
  rw [ev_bind]
  constructor
  · rintro ⟨o, ρ1, e, h⟩
    refine ⟨o, ρ1, e, ?_⟩
    rw [ev_bind] at h
    obtain ⟨_, ρ2, e2, h⟩ := h
    dsimp only at e2
    split at e2
    · rename_i hm
      cases e2
      exact ⟨hm, ev_bind.mp h⟩
    · cases e2
  · rintro ⟨o, ρ1, e, hm, h⟩
    refine ⟨o, ρ1, e, ?_⟩
    refine ev_bind.mpr ⟨(), ρ1, ?_, ev_bind.mpr h⟩
    dsimp only
    rw [if_pos hm]
def lcaR (i : Nat) (ob : Sl) (ρ1 : Env) (Q : Rs → Env → Prop) : Rs → Prop
  | .own s => s.nofd = true ∧ s.tag = none ∧ nofdE (ρ1.set i none) = true ∧ Q (.own s) (ρ1.set i (some ob))
  | _ => False
@[simp] theorem lcaR_own {i : Nat} {ob : Sl} {ρ1 : Env} {Q : Rs → Env → Prop} {s : Sl} : lcaR i ob ρ1 Q (.own s) = (s.nofd = true ∧ s.tag = none ∧ nofdE (ρ1.set i none) = true ∧ Q (.own s) (ρ1.set i (some ob))) := rfl
def lcaQ3 (i : Nat) (tg : Option Nat) (ob : Sl) (wk : List (Key × D) → List D) (own : List Nat) (t : D → Env → Option Env) (tt : M Bool) (te : M Rs) (ρ : Env) (Q : Rs → Env → Prop) : Option Sl → Prop
  | some (.md _ kv) => Ev (eLc (M.ret (wk kv)) own t tt te) (ρ.set i (some (.hl tg))) fun r ρ1 => lcaR i ob ρ1 Q r
  | _ => False
@[simp] theorem lcaQ3_md {i : Nat} {tg tk : Option Nat} {ob : Sl} {wk : List (Key × D) → List D} {own : List Nat} {t : D → Env → Option Env} {tt : M Bool} {te : M Rs} {Q : Rs → Env → Prop} {kv : List (Key × D)} : lcaQ3 i tg ob wk own t tt te ρ Q (some (.md tk kv)) = (Ev (eLc (M.ret (wk kv)) own t tt te) (ρ.set i (some (.hl tg))) fun r ρ1 => lcaR i ob ρ1 Q r) := rfl
def lcaQ2 (i : Nat) (tg : Option Nat) (c : Str) (ns : List Str) (l : List Sl) (wk : List (Key × D) → List D) (own : List Nat) (t : D → Env → Option Env) (tt : M Bool) (te : M Rs) (ρ : Env) (Q : Rs → Env → Prop) : Option Nat → Prop
  | some k => lcaQ3 i tg (.ob tg c ns l) wk own t tt te ρ Q l[k]?
  | none => False
@[simp] theorem lcaQ2_s {i k : Nat} {tg : Option Nat} {c : Str} {ns : List Str} {l : List Sl} {wk : List (Key × D) → List D} {own : List Nat} {t : D → Env → Option Env} {tt : M Bool} {te : M Rs} {Q : Rs → Env → Prop} : lcaQ2 i tg c ns l wk own t tt te ρ Q (some k) = lcaQ3 i tg (.ob tg c ns l) wk own t tt te ρ Q l[k]? := rfl
def lcaQ (c f : Str) (i : Nat) (wk : List (Key × D) → List D) (own : List Nat) (t : D → Env → Option Env) (tt : M Bool) (te : M Rs) (ρ : Env) (Q : Rs → Env → Prop) : Option (Option Sl) → Prop
  | some (some (.ob tg c' ns l)) => c' = c ∧ lcaQ2 i tg c' ns l wk own t tt te ρ Q (ixOf f ns)
  | _ => False
@[simp] theorem lcaQ_ob {c f : Str} {i : Nat} {wk : List (Key × D) → List D} {own : List Nat} {t : D → Env → Option Env} {tt : M Bool} {te : M Rs} {Q : Rs → Env → Prop} {tg : Option Nat} {c' : Str} {ns : List Str} {l : List Sl} : lcaQ c f i wk own t tt te ρ Q (some (some (.ob tg c' ns l))) = (c' = c ∧ lcaQ2 i tg c' ns l wk own t tt te ρ Q (ixOf f ns)) := rfl
@[simp ↓] theorem ev_lcA {c f : Str} {i : Nat} {wk : List (Key × D) → List D} {own : List Nat} {t : D → Env → Option Env} {tt : M Bool} {te : M Rs} {Q : Rs → Env → Prop} : Ev (eLcA c f i wk own t tt te) ρ Q ↔ lcaQ c f i wk own t tt te ρ Q ρ[i]? := by
  constructor
  · rintro ⟨r, ρ', e, q⟩
    unfold eLcA at e
    split at e
    · rename_i tg c' ns l h
      rw [h]
      split at e
      · rename_i hc
        refine ⟨hc, ?_⟩
        split at e
        · rename_i k hk
          rw [hk, lcaQ2_s]
          split at e
          · rename_i tk kv hx
            rw [hx, lcaQ3_md]
            split at e
            · rename_i s ρ1 e2
              split at e
              · rename_i hcnd
                cases e
                exact ⟨_, _, e2, hcnd.1, hcnd.2.1, hcnd.2.2, q⟩
              · cases e
            · cases e
          · cases e
        · cases e
      · cases e
    · cases e
  · intro q
    unfold lcaQ at q
    split at q
    · rename_i tg c' ns l h
      obtain ⟨hc, q⟩ := q
      unfold lcaQ2 at q
      split at q
      · rename_i k hk
        unfold lcaQ3 at q
        split at q
        · rename_i tk kv hx
          obtain ⟨r, ρ1, e2, q⟩ := q
          unfold lcaR at q
          split at q
          · rename_i s
            refine ⟨_, _, ?_, q.2.2.2⟩
            unfold eLcA
            rw [h]
            dsimp only
            rw [if_pos hc, hk]
            dsimp only
            rw [hx]
            dsimp only
            rw [e2]
            dsimp only
            rw [if_pos ⟨q.1, q.2.1, q.2.2.1⟩]
          · exact q.elim
        · exact q.elim
      · exact q.elim
    · exact q.elim
end
end B
end Pd
set_option Elab.async false
set_option linter.all false
set_option maxRecDepth 100000
set_option maxHeartbeats 1000000
namespace Pd
open PySem PySem.Spec PyProof.Rows L2
open B (mdO mdO_md isMd_bor isMd_lent)
section
variable {ρ : Env}
def resQ2 (ρ : Env) (Q : Rs → Env → Prop) [Fx Q] (o0 : Option Rd2) : Prop := B.resQ2 ρ Q o0
@[simp] theorem resQ2_pd {Q : Rs → Env → Prop} {d : D} : resQ2 ρ Q (some (.pd d)) = Q (.own (.p d)) ρ := B.resQ2_pd
@[simp] theorem resQ2_nl {Q : Rs → Env → Prop} {l : List D} : resQ2 ρ Q (some (.nl l)) = Q (.own (.ml none l)) ρ := B.resQ2_nl
@[simp] theorem resQ2_nm {Q : Rs → Env → Prop} {l : List (Key × D)} : resQ2 ρ Q (some (.nm l)) = Q (.own (.md none l)) ρ := B.resQ2_nm
@[simp] theorem resQ2_none {Q : Rs → Env → Prop} : resQ2 ρ Q none = False := B.resQ2_none
def lentV (i : Nat) (k : List Nat) (w : Sl) (ρ : Env) (Q : Rs → Env → Prop) [Fx Q] (pf : Vw → Option Rd2) (t : Option Nat) (s : Sl) (o0 : Option Vw) : Prop := B.lentV i k w ρ Q pf t s o0
def lentVQ (i : Nat) (k : List Nat) (w : Sl) (ρ : Env) (Q : Rs → Env → Prop) [Fx Q] (pf : Vw → Option Rd2) (o0 : Option (Option Sl)) (o1 : Option Sl) : Prop := B.lentVQ i k w ρ Q pf o0 o1
@[simp] theorem lentVQ_md {i : Nat} {k : List Nat} {w : Sl} {Q : Rs → Env → Prop} {pf : Vw → Option Rd2} {t tg : Option Nat} {l : List (Key × D)} : lentVQ i k w ρ Q pf (some (some (.hl t))) (some (.md tg l)) = resQ2 (ρ.set i (some ((w.setKid k (.md none l)).retag t))) Q (pf (.m l)) := B.lentVQ_md
theorem opVL_12 {pf : List Vw → Option Rd2} {i : Nat} {k : List Nat} {w : Sl} {d : D} {Q : Rs → Env → Prop} : Ev (opVL pf [.lent i w k, .own (.p d)]) ρ Q ↔ lentVQ i k w ρ Q (fun d0 => pf [d0, .d d]) ρ[i]? (w.kid k) := B.opVL_12
theorem opVL_21 {pf : List Vw → Option Rd2} {i : Nat} {k : List Nat} {w : Sl} {d : D} {Q : Rs → Env → Prop} : Ev (opVL pf [.own (.p d), .lent i w k]) ρ Q ↔ lentVQ i k w ρ Q (fun d0 => pf [.d d, d0]) ρ[i]? (w.kid k) := B.opVL_21
@[simp ↓] theorem ev_ixDL {i : Nat} {k : List Nat} {w : Sl} {d : D} {Q : Rs → Env → Prop} : Ev (oIxDL [.lent i w k, .own (.p d)]) ρ Q ↔ lentVQ i k w ρ Q (fun d0 => pIxD [d0, .d d]) ρ[i]? (w.kid k) := B.ev_ixDL
@[simp ↓] theorem ev_inDL {i : Nat} {k : List Nat} {w : Sl} {d : D} {Q : Rs → Env → Prop} : Ev (oInDL [.own (.p d), .lent i w k]) ρ Q ↔ lentVQ i k w ρ Q (fun d0 => pInD [.d d, d0]) ρ[i]? (w.kid k) := B.ev_inDL
@[simp ↓] theorem ev_niDL {i : Nat} {k : List Nat} {w : Sl} {d : D} {Q : Rs → Env → Prop} : Ev (oNiDL [.own (.p d), .lent i w k]) ρ Q ↔ lentVQ i k w ρ Q (fun d0 => pNiD [.d d, d0]) ρ[i]? (w.kid k) := B.ev_niDL
def putLQ (j : Nat) (k0 : List Nat) (w : Sl) (d : D) (ρ : Env) (Q : Fl → Env → Prop) [Fx Q] (o0 : Option (Option Sl)) (o1 : Option Sl) (o2 : Option D) : Prop := B.putLQ j k0 w d ρ Q o0 o1 o2
@[simp] theorem putLQ_md {j : Nat} {k0 : List Nat} {w : Sl} {d y : D} {Q : Fl → Env → Prop} {t tg : Option Nat} {l : List (Key × D)} : putLQ j k0 w d ρ Q (some (some (.hl t))) (some (.md tg l)) (some y) = (∃ k, kOf y = some k ∧ l.length < sizeLine ∧ Q .nx (ρ.set j (some ((w.setKid k0 (.md none (putD l k d))).retag t)))) := B.putLQ_md
@[simp ↓] theorem ev_putSubL {j : Nat} {k0 : List Nat} {w : Sl} {i : Rs} {d : D} {Q : Fl → Env → Prop} : Ev (putSubL (.lent j w k0) i d) ρ Q ↔ putLQ j k0 w d ρ Q ρ[j]? (w.kid k0) (i.view ρ) := B.ev_putSubL
@[simp ↓] theorem ev_gPutL {f fo fi : M Rs} {Q : Fl → Env → Prop} : Ev (gPutL f fo fi) ρ Q ↔ Ev f ρ fun r ρ1 => Ev (freezeR r) ρ1 fun d ρ2 => Ev fo ρ2 fun o ρ3 => Ev fi ρ3 fun i ρ4 => Ev (putSubL o i d) ρ4 Q := B.ev_gPutL
def popQ (j : Nat) (ρ : Env) (Q : Rs → Env → Prop) [Fx Q] (o0 : Option (Option Sl)) (o1 : Option D) : Prop := B.popQ j ρ Q o0 o1
@[simp] theorem popQ_md {j : Nat} {Q : Rs → Env → Prop} {t : Option Nat} {l : List (Key × D)} {y : D} : popQ j ρ Q (some (some (.md t l))) (some y) = (∃ k d, kOf y = some k ∧ valD l k = some d ∧ Q (.own (.p d)) (ρ.set j (some (.md t (dropD l k))))) := B.popQ_md
def popLQ (j : Nat) (k0 : List Nat) (w : Sl) (ρ : Env) (Q : Rs → Env → Prop) [Fx Q] (o0 : Option Sl) (o1 : Option (Option Sl)) (o2 : Option D) : Prop := B.popLQ j k0 w ρ Q o0 o1 o2
@[simp] theorem popLQ_md {j : Nat} {k0 : List Nat} {w : Sl} {Q : Rs → Env → Prop} {t tg : Option Nat} {l : List (Key × D)} {y : D} : popLQ j k0 w ρ Q (some (.md tg l)) (some (some (.hl t))) (some y) = (∃ k d, kOf y = some k ∧ valD l k = some d ∧ Q (.own (.p d)) (ρ.set j (some ((w.setKid k0 (.md none (dropD l k))).retag t)))) := B.popLQ_md
@[simp ↓] theorem ev_popSub {j : Nat} {i : Rs} {Q : Rs → Env → Prop} : Ev (popSub (.bor j) i) ρ Q ↔ popQ j ρ Q ρ[j]? (i.view ρ) := B.ev_popSub
@[simp ↓] theorem ev_popSubL {j : Nat} {k0 : List Nat} {w : Sl} {i : Rs} {Q : Rs → Env → Prop} : Ev (popSub (.lent j w k0) i) ρ Q ↔ popLQ j k0 w ρ Q (w.kid k0) ρ[j]? (i.view ρ) := B.ev_popSubL
@[simp ↓] theorem ev_dpop {fo fi : M Rs} {Q : Rs → Env → Prop} : Ev (eDPop fo fi) ρ Q ↔ Ev fo ρ fun o ρ1 => isMd o ρ1 = true ∧ Ev fi ρ1 fun i ρ2 => Ev (popSub o i) ρ2 Q := B.ev_dpop
def lcaR (i : Nat) (ob : Sl) (ρ1 : Env) (Q : Rs → Env → Prop) [Fx Q] (o0 : Rs) : Prop := B.lcaR i ob ρ1 Q o0
@[simp] theorem lcaR_own {i : Nat} {ob : Sl} {ρ1 : Env} {Q : Rs → Env → Prop} {s : Sl} : lcaR i ob ρ1 Q (.own s) = (s.nofd = true ∧ s.tag = none ∧ nofdE (ρ1.set i none) = true ∧ Q (.own s) (ρ1.set i (some ob))) := B.lcaR_own
def lcaQ3 (i : Nat) (tg : Option Nat) (ob : Sl) (wk : List (Key × D) → List D) (own : List Nat) (t : D → Env → Option Env) (tt : M Bool) (te : M Rs) (ρ : Env) (Q : Rs → Env → Prop) [Fx Q] (o0 : Option Sl) : Prop := B.lcaQ3 i tg ob wk own t tt te ρ Q o0
@[simp] theorem lcaQ3_md {i : Nat} {tg tk : Option Nat} {ob : Sl} {wk : List (Key × D) → List D} {own : List Nat} {t : D → Env → Option Env} {tt : M Bool} {te : M Rs} {Q : Rs → Env → Prop} {kv : List (Key × D)} : lcaQ3 i tg ob wk own t tt te ρ Q (some (.md tk kv)) = (Ev (eLc (M.ret (wk kv)) own t tt te) (ρ.set i (some (.hl tg))) fun r ρ1 => lcaR i ob ρ1 Q r) := B.lcaQ3_md
def lcaQ2 (i : Nat) (tg : Option Nat) (c : Str) (ns : List Str) (l : List Sl) (wk : List (Key × D) → List D) (own : List Nat) (t : D → Env → Option Env) (tt : M Bool) (te : M Rs) (ρ : Env) (Q : Rs → Env → Prop) [Fx Q] (o0 : Option Nat) : Prop := B.lcaQ2 i tg c ns l wk own t tt te ρ Q o0
@[simp] theorem lcaQ2_s {i k : Nat} {tg : Option Nat} {c : Str} {ns : List Str} {l : List Sl} {wk : List (Key × D) → List D} {own : List Nat} {t : D → Env → Option Env} {tt : M Bool} {te : M Rs} {Q : Rs → Env → Prop} : lcaQ2 i tg c ns l wk own t tt te ρ Q (some k) = lcaQ3 i tg (.ob tg c ns l) wk own t tt te ρ Q l[k]? := B.lcaQ2_s
def lcaQ (c f : Str) (i : Nat) (wk : List (Key × D) → List D) (own : List Nat) (t : D → Env → Option Env) (tt : M Bool) (te : M Rs) (ρ : Env) (Q : Rs → Env → Prop) [Fx Q] (o0 : Option (Option Sl)) : Prop := B.lcaQ c f i wk own t tt te ρ Q o0
@[simp] theorem lcaQ_ob {c f : Str} {i : Nat} {wk : List (Key × D) → List D} {own : List Nat} {t : D → Env → Option Env} {tt : M Bool} {te : M Rs} {Q : Rs → Env → Prop} {tg : Option Nat} {c' : Str} {ns : List Str} {l : List Sl} : lcaQ c f i wk own t tt te ρ Q (some (some (.ob tg c' ns l))) = (c' = c ∧ lcaQ2 i tg c' ns l wk own t tt te ρ Q (ixOf f ns)) := B.lcaQ_ob
@[simp ↓] theorem ev_lcA {c f : Str} {i : Nat} {wk : List (Key × D) → List D} {own : List Nat} {t : D → Env → Option Env} {tt : M Bool} {te : M Rs} {Q : Rs → Env → Prop} : Ev (eLcA c f i wk own t tt te) ρ Q ↔ lcaQ c f i wk own t tt te ρ Q ρ[i]? := B.ev_lcA
end
end Pd
set_option Elab.async false
set_option linter.all false
set_option maxRecDepth 100000
set_option maxHeartbeats 1000000
set_option Elab.async false
set_option linter.all false
set_option maxRecDepth 100000
set_option maxHeartbeats 1000000
namespace Pd
open PySem PySem.Spec PyProof.Rows L2
@[simp] theorem viewAll_dummy : viewAll [] [] = some [] := rfl
end Pd
set_option Elab.async false
set_option linter.all false
set_option maxRecDepth 100000
set_option maxHeartbeats 1000000
set_option Elab.async false
set_option linter.all false
set_option maxRecDepth 100000
set_option maxHeartbeats 1000000
set_option Elab.async false
set_option linter.all false
set_option maxRecDepth 100000
set_option maxHeartbeats 1000000
namespace Pd
open PySem PySem.Spec PyProof.Rows L2
def pk {α : Type} (d : α) (js : List Nat) (l : List α) : List α := js.map fun j => l.getD j d
structure CalleeP (P : Program) (w : World) (K : PySem.W.Frag) (mg : Str → Option Value) (base : Heap) (k : Nat) (x : Str) (n : Nat) (F : List Sl → Option (Sl × List Sl)) (ks : List Str) (js : List Nat) : Prop where
  ex : ∃ (f : Addr) (fd : FuncData) (ps : List Str), FnOk P w K mg base CX0 k f fd ps (spD K n F) ∧ mg x = some (.ref f) ∧ PySem.W.keepIn K (.ref f) = true ∧ ∀ (s : Shared) (ws : List Value), ws.length = js.length → BindsTo s fd ⟨[], ks.zip ws⟩ (ps.zip (pk .none js ws))
structure CalleeMP (P : Program) (w : World) (K : PySem.W.Frag) (mg : Str → Option Value) (base : Heap) (k : Nat) (c m : Str) (n : Nat) (F : List Sl → Option (Sl × List Sl)) (ks : List Str) (js : List Nat) : Prop where
  ex : ∃ (C f : Addr) (fd : FuncData) (ps : List Str), PySem.W.nsIn K mainGlobals c = some (some (.ref C)) ∧ Cls K C ∧ Meth K C m f ∧ FnOk P w K mg base CX0 k f fd ps (spD K n F) ∧ ∀ (s : Shared) (a : Value) (ws : List Value), ws.length = js.length → BindsTo s fd ⟨[a], ks.zip ws⟩ (ps.zip (a :: pk .none js ws))
structure CalleeCP (P : Program) (w : World) (K : PySem.W.Frag) (mg : Str → Option Value) (base : Heap) (k : Nat) (x c : Str) (n : Nat) (F : List Sl → Option (Sl × List Sl)) (ks : List Str) (js : List Nat) : Prop where
  ex : ∃ (C f : Addr) (fd : FuncData) (ps : List Str), PySem.W.nsIn K mainGlobals c = some (some (.ref C)) ∧ Mk K C f ∧ FnOk P w K mg base CX0 k f fd ps (spD K n F) ∧ mg x = some (.ref C) ∧ ks.length = js.length ∧ ∀ (s : Shared) (a : Value) (ws : List Value), ws.length = js.length → BindsTo s fd ⟨[a], ks.zip ws⟩ (ps.zip (a :: pk .none js ws))
@[simp] theorem pk_nil {α : Type} {d : α} {l : List α} : pk d [] l = [] := rfl
@[simp] theorem pk_cons' {α : Type} {d : α} {l : List α} {j : Nat} {js : List Nat} : pk d (j :: js) l = l.getD j d :: pk d js l := rfl
end Pd
set_option Elab.async false
set_option linter.all false
set_option maxRecDepth 100000
set_option maxHeartbeats 1000000
set_option Elab.async false
set_option linter.all false
set_option maxRecDepth 100000
set_option maxHeartbeats 1000000
namespace Pd
open PySem PySem.Spec PyProof.Rows L2
section
variable {X : Cx} {pins : List (Addr × Obj)} {σ : L2.St} {H : Hp} {s : Shared} {a : Addr}
theorem track_ext {φ : Heap → Prop} (I : Inv X pins σ H s) (na : H a = none) (n0 : X.s_0.heap.get? a = none) (nL : a ≠ X.env.locals) (nc : ∀ v, ¬ s.heap.IsCell a v) (np : ∀ p ∈ X.pn ++ pins, p.1 ≠ a)
    (new : ObjOk X.prog X.w (upd H a (.ext φ)) s.heap a (.ext φ)) : Inv X pins σ (upd H a (.ext φ)) s := by
  have old : ∀ {b : Addr} {u : HO}, H b = some u → upd H a (.ext φ) b = some u := fun {b u} e => by
    have : b ≠ a := fun z => by rw [z, na] at e; cases e
    rw [upd_ne this, e]
  refine ⟨I.ok, I.os, I.bare, ⟨I.base.keep, I.base.slot, fun b o e n hb => ?_, I.base.there, fun b xs e => old (I.base.tups b xs e), fun b o u e => old (I.base.frzs b o u e), fun b ps e => ?_⟩, I.loc, I.cell, ?_, fun x c e => ?_, fun p hp => ?_, ?_, I.len⟩
  · have : b ≠ a := fun z => by rw [z, n0] at e; cases e
    rw [upd_ne this]
    exact I.base.free b o e n hb
  · obtain ⟨more, q⟩ := I.base.tbls b ps e
    exact ⟨more, old q⟩
  · rw [upd_ne (fun z => nL z.symm)]
    exact I.free
  · obtain ⟨v, q⟩ := I.cell x c e
    have : c ≠ a := fun z => nc v (z ▸ q)
    rw [upd_ne this]
    exact I.freeC x c e
  · obtain ⟨q1, q2, q3⟩ := I.pin p hp
    refine ⟨q1, ?_, q3⟩
    rw [upd_ne (np p hp)]
    exact q2
  · exact I.hok.laidN (fun _ _ q => q) na new
theorem exV_ok {P : Program} {w : World} {H : Hp} {h : Heap} {cls : Value} {d : Option Addr} {oe : Obj} {vs : Array Value} (e : h.get? a = some oe) (z : Zc cls d oe) (hd : oe.data = .fields vs) : ObjOk P w H h a (ExV cls d a) :=
  ⟨⟨oe, vs, e, z.1, z.2, hd⟩, ⟨oe, e⟩, fun _ _ ⟨o, v, q, r⟩ k => ⟨o, v, k o q, r⟩⟩
end
def wAsV (K : PySem.W.Frag) (c : Value) (i : Nat) (ts : Addr → Value → Option Addr → L2.TS) (Wout : WX) (D : Ends) : WX := fun cls d σ H =>
  ∃ b, PySem.W.exmOne K cls c = some b ∧ (b = true → ∀ a, H a = none → ts a cls d
    { nx := fun σ' H' => H' a = none → D.nx (σ'.set i none) (upd H' a (ExV cls d a)), rt := fun v H' => H' a = none → D.rt v (upd H' a (ExV cls d a)), bk := fun σ' H' => H' a = none → D.bk (σ'.set i none) (upd H' a (ExV cls d a)), ct := fun σ' H' => H' a = none → D.ct (σ'.set i none) (upd H' a (ExV cls d a)) } (σ.set i (some (.ref a))) H) ∧
    (b = false → Wout cls d σ H)
section
variable {X : Cx} {x n : Str} {c : Value} {i : Nat} {body suite : List Stmt} {b₀ : Stmt} {np pos pos' : Pos} {tb : WX → L2.TS} {ts : Addr → Value → Option Addr → L2.TS} {Wout : WX}
theorem ps_try_keep (hs : X.stack = X.env :: X.outer) (hf : X.env.frame = some X.env.locals) (hex : X.ex = []) (hN : X.N.Nodup) (hi : X.N[i]? = some n) (hln : X.env.kindOf n = some .local) (hc : Names X x c) (tk : Takes X Wout)
    (hb : ∀ (W : WX) (pn : List (Addr × Obj)) (xe : Value → Shared → Prop), Takes (X.tr pn xe) W → PassesOwn (model X.prog X.w) X.A X.env xe → PSs (X.tr pn xe) body (tb W))
    (hsu : ∀ (a : Addr) (oe : Obj) (cls : Value) (d : Option Addr) (pn : List (Addr × Obj)), Zc cls d oe → (∃ vs, oe.data = .fields vs) → PSs (X.suite a ((a, oe) :: pn)) (b₀ :: suite) (ts a cls d)) :
    PS X (.Try body [.ExceptHandler (some (.Name x np)) (some n) (b₀ :: suite) pos'] [] [] pos) (fun D σ H => tb (wAsV X.K c i ts Wout D) D σ H) := by
  refine ⟨fun pins s σ H D I h => ?_⟩
  have ok := I.ok
  have frames : X.A.frames = some (X.env :: X.outer) := by rw [← hs]; exact ok.frames
  have loc : Loc X.env.scope n := Or.inl hln
  refine wpAny_Try_except ?_
  refine wpAny_mono ((hb (wAsV X.K c i ts Wout D) (X.pn ++ pins) (fun e s₁ => wpAny (model X.prog X.w) X.A (noteFrame e X.env) (fun _ s₂ => wpAny (model X.prog X.w) X.A (setFlight e none) (fun _ s₃ =>
    wpAny (model X.prog X.w) X.A (handleBy e X.env [.ExceptHandler (some (.Name x np)) (some n) (b₀ :: suite) pos']) (SP X pins D) X.xe s₃) X.xe s₂) X.xe s₁) ?_ PassesOwn.looking).run [] s σ H D (I.toTry _) h) ?_ fun _ _ z => z
  ·
    intro u s' xx
    obtain ⟨a, B, sI, pins', σ', H', cls, d, rfl, J0, nb, up, sky, na, os, ag, b, hb1, hyes, hno⟩ := xx
    have J : Inv X pins σ' H' sI := J0.ofTry ok
    rw [hs] at sky
    show wpAny (model X.prog X.w) X.A (noteFrame (.ref a) X.env) _ _ _
    refine Sky.land Zc.steady frames hf sky ?_
    intro h3 fl3 up3
    have J3 : Inv X pins σ' H' { s' with heap := h3 } := J.landed nb fl3.1 (up.trans up3) os ag
    obtain ⟨oe3, vs3, he3, hz3, hd3⟩ := fl3.there
    have out : a ∉ frs (X.env :: X.outer) := by
      intro hm
      obtain ⟨_, o', e', no⟩ := fl3.2.2.1.mem hm
      rw [he3] at e'
      cases e'
      exact no _ hd3
    have nL : a ≠ X.env.locals := fun z => out (List.mem_filterMap.mpr ⟨X.env, List.mem_cons_self, by rw [hf, z]⟩)
    have nF : a ∉ X.fs := by
      intro hm
      obtain ⟨e, he, q⟩ := List.mem_filterMap.mp hm
      exact out (List.mem_filterMap.mpr ⟨e, List.mem_cons_of_mem _ he, q⟩)
    have nI : sI.heap.get? a = none := by
      cases q : sI.heap.get? a with
      | none => rfl
      | some o =>
        have z := nb a o q (by rw [hs]; exact out)
        rw [fl3.2.1] at z
        cases z
    have n0 : X.s_0.heap.get? a = none := by
      cases q : X.s_0.heap.get? a with
      | none => rfl
      | some o =>
        obtain ⟨o', z⟩ := J.base.there a o q (by rw [hex]; exact List.not_mem_nil)
        rw [nI] at z
        cases z
    have hnp : ∀ p ∈ X.pn ++ pins, p.1 ≠ a := fun p hp z => by
      have := (J.pin p hp).1
      rw [z, nI] at this
      cases this
    have S3 := J3.suite he3 hd3 na nL nF
    refine wpAny_handleBy_cons (codeAny_handlers_test ?_) (by intro q; cases q)
    have LT : PySem.W.Looks (model X.prog X.w) h3 (typeOf (.ref a)) cls := fun A Q E s k q => wpAny_typeOf_ref (k _ _ he3) (by rw [hz3.1]; exact q)
    have LM := PySem.W.exm_one (M := model X.prog X.w) (J3.kIn) LT hb1
    have test : ∀ {Q : Value → Shared → Prop} {E : Value → Shared → Prop}, Q c { s' with heap := h3 } → wpAny (model X.prog X.w) (X.A.mark (some (.ref a))) (eval (.Name x np) X.env) Q E { s' with heap := h3 } := by
      intro Q E q
      obtain ⟨hg, hdbg, hm | ⟨hm, hv, hnn⟩⟩ := hc
      · exact ld_glob (X := X.suite a ((a, oe3) :: (X.pn ++ pins))) S3 hg hm q hdbg
      · exact ld_blt (X := X.suite a ((a, oe3) :: (X.pn ++ pins))) S3 hg hm hv q hnn hdbg
    refine test (LM.here ?_)
    cases b with
    | true =>
      refine codeAny_handlers_suite_as ?_
      refine HandSPX.lands_againZ fl3 ?_
      intro h4 fl4 up4
      have J4 : Inv X pins σ' H' { s' with heap := h4 } := J.landed nb fl4.1 ((up.trans up3).trans up4) os ag
      obtain ⟨oe4, vs4, he4, hz4, hd4⟩ := fl4.there
      have S4 := J4.suite he4 hd4 na nL nF
      refine store_ok (X := X.suite a ((a, oe4) :: (X.pn ++ pins))) (v := .ref a) S4 hN hi loc rfl (fun s5 S5 => ?_) (.inr hln)
      refine wpAny_mono ((hsu a oe4 cls d (X.pn ++ pins) hz4 ⟨_, hd4⟩).run [] s5 _ H' _ S5 (hyes rfl a na)) ?_ fun _ _ z => False.elim z
      intro f s6 hsp
      have fin : ∀ {σ6 : L2.St} {H6 : Hp} {Q : Shared → Prop}, Inv (X.suite a ((a, oe4) :: (X.pn ++ pins))) [] σ6 H6 s6 → (∀ s7, H6 a = none → Inv X pins (σ6.set i none) (upd H6 a (ExV cls d a)) s7 → Q s7) →
          wpAny (model X.prog X.w) X.A (do bindName X.env n .none; unbindBehindTheSuite X.env n pos') (fun _ s7 => Q s7) X.xe s6 := by
        intro σ6 H6 Q S6 hq
        refine gone_ok (X := X.suite a ((a, oe4) :: (X.pn ++ pins))) S6 hN hi hln ?_
        intro s7 S7
        obtain ⟨g1, g2, g3, g4, g5⟩ := S7.pin (a, oe4) (by simp)
        refine hq s7 g2 (track_ext (S7.unsuite ok) g2 n0 nL (fun v z => ?_) hnp (exV_ok g1 hz4 hd4))
        obtain ⟨o, z1, z2⟩ := z
        rw [g1] at z1
        cases z1
        exact g5 v z2
      cases f with
      | next =>
        obtain ⟨σ6, H6, S6, q6⟩ := hsp
        exact fin S6 fun s7 g J7 => ⟨_, _, J7, q6 g⟩
      | brk =>
        obtain ⟨σ6, H6, S6, q6⟩ := hsp
        exact fin S6 fun s7 g J7 => ⟨_, _, J7, q6 g⟩
      | cont =>
        obtain ⟨σ6, H6, S6, q6⟩ := hsp
        exact fin S6 fun s7 g J7 => ⟨_, _, J7, q6 g⟩
      | ret u =>
        obtain ⟨v6, σ6, H6, S6, r6, q6⟩ := hsp
        exact fin S6 fun s7 g J7 => ⟨_, _, _, J7, r6, q6 g⟩
    | false =>
      show wpAny _ X.A (handleBy (.ref a) X.env []) _ _ _
      refine wpAny_handleBy_nil ?_
      have fly := fl3
      obtain ⟨k1, k2, k3, oe, vs, T, oT, ts', he, hz, hd, h1, hr⟩ := fly
      unfold PySem.passOn
      refine wpAny_bind (wpAny_field he hd h1 ?_)
      rw [if_neg (show ¬ ((Value.ref T == Value.none) = true) from by simp)]
      have fin : wpAny (model X.prog X.w) X.A (setFlight (.ref a) X.env.frame) (fun _ s4 => wpAny (model X.prog X.w) X.A (throw (.ref a) : Sem Flow) (SP X pins D) X.xe s4) X.xe { s' with heap := h3 } := by
        rw [hf]
        refine HandSPX.setFlight_upZ fl3 ?_
        intro h4 hh4 up4
        refine wpAny_throw (tk _ _ ⟨a, B, sI, pins, σ', H', cls, d, rfl, J, nb, (up.trans up3).trans up4, ?_, na, os, ag, hno rfl⟩)
        rw [hs]
        exact Or.inr (Or.inr hh4)
      first
        | exact wpAny_bind (wpAny_pure (wpAny_bind fin))
        | exact wpAny_bind fin
  · intro f s1 hsp
    cases f with
    | next =>
      obtain ⟨σ', H', J', q⟩ := hsp
      exact wpAny_execs_nil ⟨σ', H', J'.ofTry ok, q⟩
    | brk =>
      obtain ⟨σ', H', J', q⟩ := hsp
      exact ⟨σ', H', J'.ofTry ok, q⟩
    | cont =>
      obtain ⟨σ', H', J', q⟩ := hsp
      exact ⟨σ', H', J'.ofTry ok, q⟩
    | ret u =>
      obtain ⟨v, σ', H', J', r, q⟩ := hsp
      exact ⟨v, σ', H', J'.ofTry ok, r, q⟩
end
end Pd
set_option Elab.async false
set_option linter.all false
set_option maxRecDepth 100000
set_option maxHeartbeats 1000000
namespace Pd
open PySem PySem.Spec PyProof.Rows L2
def ExAt (K : PySem.W.Frag) (B : Hp) (c : Str) : Option (Str × D) → Value → Option Addr → Prop
  | none, cls, d => ∃ C, cls = .ref C ∧ PySem.W.nsIn K mainGlobals c = some (some (.ref C)) ∧ d = none
  | some (x, e), cls, d => c ≠ "tuple" ∧ ∃ C dx u, cls = .ref C ∧ PySem.W.nsIn K mainGlobals c = some (some (.ref C)) ∧ d = some dx ∧ B dx = some (.xd [(x, u)]) ∧ Dp K B u e
inductive OutF where
  | ret (r : Sl) (ss : List Sl)
  | exc (c : Str) (f : Option (Str × D)) (ss : List Sl)
inductive OutE where
  | ok (r : Rs) (ρ : Env)
  | exc (c : Str) (f : Option (Str × D)) (ρ : Env)
inductive OutS where
  | fl (f : Fl) (ρ : Env)
  | exc (c : Str) (f : Option (Str × D)) (ρ : Env)
abbrev FX := List Sl → Option OutF
abbrev EX := Env → Option OutE
abbrev SX := Env → Option OutS
def spX (K : PySem.W.Frag) (n : Nat) (F : FX) : L2.Sp := fun vs H Q E => vs.length = n ∧ ∃ B ss fs, Good K [] B H (vs.map some) (ss.map some) fs ∧ (∀ s ∈ ss, s.tag = none) ∧ ∃ out, F ss = some out ∧ match out with
  | .ret r ss' => ∀ v B' H' fs' T, Fr B H (InF fs) B' H' (UnF (InF fs') T) → Good K [] B' H' (vs.map some) (ss'.map some) fs' → RsOk K B' H' (vs.map some) fs' v (.own r) T → Q v H'
  | .exc c f ss' => ∀ B' H' fs' cls d, Fr B H (InF fs) B' H' (InF fs') → Good K [] B' H' (vs.map some) (ss'.map some) fs' → ExAt K B' c f cls d → E cls d H'
section
variable (K : PySem.W.Frag) (vs0 : List V) (W : WX)
def rdEX (f : EX) : TE := fun σ H Q => ∃ B ρ fs, Good K vs0 B H σ ρ fs ∧ ∃ o, f ρ = some o ∧ match o with
  | .ok r ρ' => ∀ v B' H' fs' T, Fr B H (InF fs) B' H' (UnF (InF fs') T) → Good K vs0 B' H' σ ρ' fs' → RsOk K B' H' σ fs' v r T → Q v H'
  | .exc c f ρ' => ∀ B' H' fs' cls d, Fr B H (InF fs) B' H' (InF fs') → Good K vs0 B' H' σ ρ' fs' → ExAt K B' c f cls d → W cls d σ H'
def rdSX (g : SX) : L2.TS := fun D σ H => ∃ B ρ fs, Good K vs0 B H σ ρ fs ∧ ∃ o, g ρ = some o ∧ match o with
  | .fl .nx ρ' => ∀ σ' B' H' fs', Fr B H (InF fs) B' H' (InF fs') → Good K vs0 B' H' σ' ρ' fs' → D.nx σ' H'
  | .fl .bk ρ' => ∀ σ' B' H' fs', Fr B H (InF fs) B' H' (InF fs') → Good K vs0 B' H' σ' ρ' fs' → D.bk σ' H'
  | .fl .ct ρ' => ∀ σ' B' H' fs', Fr B H (InF fs) B' H' (InF fs') → Good K vs0 B' H' σ' ρ' fs' → D.ct σ' H'
  | .fl (.rt s) ρ' => ∀ v σ' B' H' fs' T, Fr B H (InF fs) B' H' (UnF (InF fs') T) → Good K vs0 B' H' σ' ρ' fs' → RsOk K B' H' σ' fs' v (.own s) T → D.rt v H'
  | .exc c f ρ' => ∀ σ' B' H' fs' cls d, Fr B H (InF fs) B' H' (InF fs') → Good K vs0 B' H' σ' ρ' fs' → ExAt K B' c f cls d → W cls d σ' H'
end
def xLift (g : M Fl) : SX := fun ρ => match g ρ with
  | some (.ok fl ρ') => some (.fl fl ρ')
  | none => none
def xSeq (a b : SX) : SX := fun ρ => match a ρ with
  | some (.fl .nx ρ') => b ρ'
  | o => o
def xIf (t : M Bool) (a b : SX) : SX := fun ρ => match t ρ with
  | some (.ok true ρ') => a ρ'
  | some (.ok false ρ') => b ρ'
  | none => none
def xThen (f : EX) (g : Rs → M Fl) : SX := fun ρ => match f ρ with
  | some (.ok r ρ') => xLift (g r) ρ'
  | some (.exc c x ρ') => some (.exc c x ρ')
  | none => none
def xCall (n : Nat) (F : FX) : List Rs → EX := fun rs ρ => if rs.length = n ∧ (roots rs).Nodup then match argL rs ρ with
    | some ss => match F ss with
      | some (.ret r ss') => some (.ok (.own r) (wbL rs ss' ρ))
      | some (.exc c f ss') => some (.exc c f (wbL rs ss' ρ))
      | none => none
    | none => none
  else none
def xBind (fa : M (List Rs)) (g : List Rs → EX) : EX := fun ρ => match fa ρ with
  | some (.ok rs ρ') => g rs ρ'
  | none => none
section
variable {K : PySem.W.Frag} {vs0 : List V} {W : WX} {D : Ends} {σ : L2.St} {H : Hp}
theorem rdX_lift {g : M Fl} (q : rdSX K vs0 W (xLift g) D σ H) : rdS K vs0 g D σ H := by
  obtain ⟨B, ρ, fs, gd, o, e, k⟩ := q
  unfold xLift at e
  split at e
  · rename_i fl ρ' e1
    cases e
    refine ⟨B, ρ, fs, gd, fl, ρ', e1, ?_⟩
    cases fl <;> exact k
  · cases e
theorem rdX_seq {a b : SX} (q : rdSX K vs0 W (xSeq a b) D σ H) : rdSX K vs0 W a { D with nx := rdSX K vs0 W b D } σ H := by
  obtain ⟨B, ρ, fs, gd, o, e, k⟩ := q
  unfold xSeq at e
  split at e
  · rename_i ρ' e1
    refine ⟨B, ρ, fs, gd, _, e1, fun σ1 B1 H1 fs1 fr1 g1 => ⟨B1, ρ', fs1, g1, o, e, ?_⟩⟩
    cases o with
    | fl f ρ2 =>
      cases f with
      | nx => exact fun σ2 B2 H2 fs2 fr2 g2 => k σ2 B2 H2 fs2 (fr1.trans fr2) g2
      | bk => exact fun σ2 B2 H2 fs2 fr2 g2 => k σ2 B2 H2 fs2 (fr1.trans fr2) g2
      | ct => exact fun σ2 B2 H2 fs2 fr2 g2 => k σ2 B2 H2 fs2 (fr1.trans fr2) g2
      | rt s => exact fun v σ2 B2 H2 fs2 T fr2 g2 ok => k v σ2 B2 H2 fs2 T (fr1.trans fr2) g2 ok
    | exc c f ρ2 => exact fun σ2 B2 H2 fs2 cls d fr2 g2 x => k σ2 B2 H2 fs2 cls d (fr1.trans fr2) g2 x
  · rename_i hn
    refine ⟨B, ρ, fs, gd, o, e, ?_⟩
    cases o with
    | fl f ρ2 =>
      cases f with
      | nx => exact (hn ρ2 e).elim
      | bk => exact k
      | ct => exact k
      | rt s => exact k
    | exc c f ρ2 => exact k
theorem rdX_mono {g : SX} {B B1 : Hp} {H1 : Hp} {σ1 : L2.St} {ρ1 : Env} {fs fs1 : Nat → List Addr} {o : OutS} (fr1 : Fr B H (InF fs) B1 H1 (InF fs1)) (g1 : Good K vs0 B1 H1 σ1 ρ1 fs1) (e : g ρ1 = some o)
    (k : match (generalizing := false) o with
      | .fl .nx ρ' => ∀ σ' B' H' fs', Fr B H (InF fs) B' H' (InF fs') → Good K vs0 B' H' σ' ρ' fs' → D.nx σ' H'
      | .fl .bk ρ' => ∀ σ' B' H' fs', Fr B H (InF fs) B' H' (InF fs') → Good K vs0 B' H' σ' ρ' fs' → D.bk σ' H'
      | .fl .ct ρ' => ∀ σ' B' H' fs', Fr B H (InF fs) B' H' (InF fs') → Good K vs0 B' H' σ' ρ' fs' → D.ct σ' H'
      | .fl (.rt s) ρ' => ∀ v σ' B' H' fs' T, Fr B H (InF fs) B' H' (UnF (InF fs') T) → Good K vs0 B' H' σ' ρ' fs' → RsOk K B' H' σ' fs' v (.own s) T → D.rt v H'
      | .exc c f ρ' => ∀ σ' B' H' fs' cls d, Fr B H (InF fs) B' H' (InF fs') → Good K vs0 B' H' σ' ρ' fs' → ExAt K B' c f cls d → W cls d σ' H') : rdSX K vs0 W g D σ1 H1 := by
  refine ⟨B1, ρ1, fs1, g1, o, e, ?_⟩
  cases o with
  | fl f ρ2 =>
    cases f with
    | nx => exact fun σ2 B2 H2 fs2 fr2 g2 => k σ2 B2 H2 fs2 (fr1.trans fr2) g2
    | bk => exact fun σ2 B2 H2 fs2 fr2 g2 => k σ2 B2 H2 fs2 (fr1.trans fr2) g2
    | ct => exact fun σ2 B2 H2 fs2 fr2 g2 => k σ2 B2 H2 fs2 (fr1.trans fr2) g2
    | rt s => exact fun v σ2 B2 H2 fs2 T fr2 g2 ok => k v σ2 B2 H2 fs2 T (fr1.trans fr2) g2 ok
  | exc c f ρ2 => exact fun σ2 B2 H2 fs2 cls d fr2 g2 x => k σ2 B2 H2 fs2 cls d (fr1.trans fr2) g2 x
theorem rd_xcall {n : Nat} {F : FX} {fa : M (List Rs)} {Q : VK} (q : rdEX K vs0 W (xBind fa (xCall n F)) σ H Q) : rdA K vs0 fa σ H fun vs H1 => spX K n F vs H1 Q (WE W σ) := by
  obtain ⟨B, ρ, fs, gd, o, e, k⟩ := q
  unfold xBind at e
  split at e
  · rename_i rs ρ1 e1
    refine ⟨B, ρ, fs, gd, rs, ρ1, e1, fun vs B1 H1 fs1 Ts fr1 g1 ok nd => ?_⟩
    unfold xCall at e
    split at e
    · rename_i hc
      split at e
      · rename_i ss e2
        obtain ⟨fsA, gA, tg, hvl, step⟩ := call_core g1 ok nd hc.2 e2
        refine ⟨hvl.trans hc.1, B1, ss, fsA, gA, tg, ?_⟩
        split at e
        · rename_i r ss' e3
          cases e
          refine ⟨_, e3, fun v B' H' fs' T fr' g' okr => ?_⟩
          obtain ⟨o1, o2, o3⟩ := okr
          obtain ⟨fs2, fr2, g2, t2⟩ := step ss' B' H' fs' T fr' g' o3
          exact k v B' H' fs2 T (fr1.trans fr2) g2 ⟨o1, o2, t2⟩
        · rename_i c f ss' e3
          cases e
          refine ⟨_, e3, fun B' H' fs' cls d fr' g' x => ?_⟩
          obtain ⟨fs2, fr2, g2, t2⟩ := step ss' B' H' fs' [] (fr'.weak (fun _ h => h) fun a h => by
            rcases h with h | h
            · exact Or.inl h
            · cases h) g' fun a ha => nomatch ha
          exact k B' H' fs2 cls d (fr1.trans (fr2.weak (fun _ h => h) fun a h => Or.inl (Or.inl h))) g2 x
        · cases e
      · cases e
    · cases e
  · cases e
end
end Pd
set_option Elab.async false
set_option linter.all false
set_option maxRecDepth 100000
set_option maxHeartbeats 1000000
namespace Pd
open PySem PySem.Spec PyProof.Rows L2
def xExpr (f : EX) : SX := xThen f fun _ => M.ret .nx
section
variable {K : PySem.W.Frag} {vs0 : List V} {W : WX} {D : Ends} {σ : L2.St} {H : Hp} {f : EX}
theorem rdX_then {g : Rs → M Fl} {Q : VK} (q : rdSX K vs0 W (xThen f g) D σ H)
    (h : ∀ B ρ fs B1 H1 ρ1 fs1 r v T fl ρ', Good K vs0 B H σ ρ fs → Fr B H (InF fs) B1 H1 (UnF (InF fs1) T) → Good K vs0 B1 H1 σ ρ1 fs1 → RsOk K B1 H1 σ fs1 v r T → g r ρ1 = some (.ok fl ρ') →
      (match fl with
        | .nx => ∀ σ' B' H' fs', Fr B H (InF fs) B' H' (InF fs') → Good K vs0 B' H' σ' ρ' fs' → D.nx σ' H'
        | .bk => ∀ σ' B' H' fs', Fr B H (InF fs) B' H' (InF fs') → Good K vs0 B' H' σ' ρ' fs' → D.bk σ' H'
        | .ct => ∀ σ' B' H' fs', Fr B H (InF fs) B' H' (InF fs') → Good K vs0 B' H' σ' ρ' fs' → D.ct σ' H'
        | .rt s => ∀ v σ' B' H' fs' T, Fr B H (InF fs) B' H' (UnF (InF fs') T) → Good K vs0 B' H' σ' ρ' fs' → RsOk K B' H' σ' fs' v (.own s) T → D.rt v H') → Q v H1) : rdEX K vs0 W f σ H Q := by
  obtain ⟨B, ρ, fs, gd, o, e, k⟩ := q
  unfold xThen at e
  split at e
  · rename_i r ρ1 e1
    refine ⟨B, ρ, fs, gd, _, e1, fun v B1 H1 fs1 T fr g1 ok => ?_⟩
    unfold xLift at e
    split at e
    · rename_i fl ρ' e2
      cases e
      refine h B ρ fs B1 H1 ρ1 fs1 r v T fl ρ' gd fr g1 ok e2 ?_
      cases fl <;> exact k
    · cases e
  · rename_i c x ρ1 e1
    cases e
    exact ⟨B, ρ, fs, gd, _, e1, fun B2 H2 fs2 cls d fr2 g2 x => k σ B2 H2 fs2 cls d fr2 g2 x⟩
  · cases e
theorem rdX_expr (q : rdSX K vs0 W (xExpr f) D σ H) : tDrop (rdEX K vs0 W f) D σ H := rdX_then q fun B ρ fs B1 H1 ρ1 fs1 r v T fl ρ' gd fr g1 ok e k => by
  cases e
  exact k σ B1 H1 fs1 (fr_drop fr) g1
theorem rdX_if {t : M Bool} {a b : SX} (q : rdSX K vs0 W (xIf t a b) D σ H) : rdT K vs0 t σ H fun c H1 => if c = true then rdSX K vs0 W a D σ H1 else rdSX K vs0 W b D σ H1 := by
  obtain ⟨B, ρ, fs, gd, o, e, k⟩ := q
  unfold xIf at e
  split at e
  · rename_i ρ1 e1
    refine ⟨B, ρ, fs, gd, true, ρ1, e1, fun B1 H1 fs1 fr1 g1 => ?_⟩
    show rdSX K vs0 W a D σ H1
    exact rdX_mono fr1 g1 e k
  · rename_i ρ1 e1
    refine ⟨B, ρ, fs, gd, false, ρ1, e1, fun B1 H1 fs1 fr1 g1 => ?_⟩
    show rdSX K vs0 W b D σ H1
    exact rdX_mono fr1 g1 e k
  · cases e
end
section
variable {X : Cx} {vs0 : List V} {W : WX} {f : EX} {e : Expr} {pos : Pos} {st : Stmt} {rest : List Stmt} {g1 g2 : SX}
theorem dxs_lift {g : M Fl} {sts : List Stmt} (h : PSs X sts (rdS X.K vs0 g)) : PSs X sts (rdSX X.K vs0 W (xLift g)) := PSs.imp h fun D σ H q => rdX_lift q
theorem dxs_one (h : PS X st (rdSX X.K vs0 W g1)) : PSs X [st] (rdSX X.K vs0 W g1) := pss_one h
theorem dxs_cons (h1 : PS X st (rdSX X.K vs0 W g1)) (h2 : PSs X rest (rdSX X.K vs0 W g2)) : PSs X (st :: rest) (rdSX X.K vs0 W (xSeq g1 g2)) := PSs.imp (pss_cons h1 h2) fun D σ H q => rdX_seq q
theorem dx_if {c : Expr} {a b : List Stmt} {t : M Bool} (hc : PT X c (rdT X.K vs0 t)) (ha : PSs X a (rdSX X.K vs0 W g1)) (hb : PSs X b (rdSX X.K vs0 W g2)) : PS X (.If c a b pos) (rdSX X.K vs0 W (xIf t g1 g2)) := PS.imp (ps_if hc ha hb) fun D σ H q => by
  obtain ⟨B, ρ, fs, gd, c, ρ1, e1, k⟩ := rdX_if q
  refine ⟨B, ρ, fs, gd, c, ρ1, e1, fun B1 H1 fs1 fr1 g1 => ?_⟩
  have := k B1 H1 fs1 fr1 g1
  cases c with
  | true => exact this
  | false => exact this
theorem dx_expr (he : PE X e (rdEX X.K vs0 W f)) (hs : swapsWith e none pos.line X.env = pure false := by rfl) : PS X (.Expr e pos) (rdSX X.K vs0 W (xExpr f)) := PS.imp (ps_expr he hs) fun D σ H q => rdX_expr q
structure ExcK (K : PySem.W.Frag) (mg : Str → Option Value) (c : Str) : Prop where
  ex : ∃ C, PySem.W.nsIn K mainGlobals c = some (some (.ref C)) ∧ mg c = some (.ref C) ∧ PySem.W.excIn K C [.type "ValueError", .type "Exception", .type "BaseException", .type "object"] "ValueError.__new__" = true ∧ PySem.W.keepIn K (.ref C) = true ∧ PySem.W.subIn K (.ref C) (.type "BaseException") = some true ∧ PySem.W.typeIn K (.ref C) = some (.type "type")
end
structure CalleeX (P : Program) (w : World) (K : PySem.W.Frag) (mg : Str → Option Value) (base : Heap) (k : Nat) (x : Str) (n : Nat) (F : FX) : Prop where
  ex : ∃ f fd ps, FnOk P w K mg base (L2.CX P w) k f fd ps (spX K n F) ∧ mg x = some (.ref f) ∧ PySem.W.keepIn K (.ref f) = true ∧ Binds K fd ps []
structure CalleeMX (P : Program) (w : World) (K : PySem.W.Frag) (mg : Str → Option Value) (base : Heap) (k : Nat) (c m : Str) (n : Nat) (F : FX) : Prop where
  ex : ∃ C f fd ps, PySem.W.nsIn K mainGlobals c = some (some (.ref C)) ∧ Cls K C ∧ Meth K C m f ∧ FnOk P w K mg base (L2.CX P w) k f fd ps (spX K n F) ∧ Binds K fd ps []
section
variable {X : Cx} {vs0 : List V} {W : WX} {k n : Nat} {F : FX} {x c m : Str} {p pos apos : Pos} {o e : Expr} {es : List Expr} {fo : M Rs} {fa : M (List Rs)} {pl : Sem Bool}
noncomputable def xMeth (c m : Str) (fo : M Rs) (fa : M (List Rs)) (n : Nat) (F : FX) : EX := xBind (aCons (eChk c m fo) fa) (xCall n F)
theorem de_methX (T : CalleeMX X.prog X.w X.K X.mg X.base k c m n F) (tk : Takes X W) (hr : Room k X.A) (ho : PE X o (rdE X.K vs0 fo)) (ha : PA X (e :: es) (rdA X.K vs0 fa))
    (hst : starEach (e :: es) X.env = (false, eval e X.env) :: starEach es X.env := by rfl) (hpl : (backTo pos (starEach es X.env)).any (·.1) = false := by rfl)
    (ht : eval (.Call (.Attribute o m apos) (e :: es) [] pos) X.env = (do
      let ov ← eval o X.env
      standAt apos.atName
      let (f, first) ← holding [ov] (getMethod ov m pl)
      callWith pos f first (backTo pos (starEach (e :: es) X.env)) (backToKw pos (keywordEach [] X.env))) := by rfl) :
    PE X (.Call (.Attribute o m apos) (e :: es) [] pos) (rdEX X.K vs0 W (xMeth c m fo fa n F)) := by
  obtain ⟨C, f, fd, ps, hC, hcl, hme, Fn, hb⟩ := T.ex
  refine ⟨fun pins s σ H Q I h => ?_⟩
  have q := rd_chk hC (rd_cons (rd_xcall h))
  refine PySem.W.methodCall_KW (pl := pl) (thn (ho.run pins s σ H _ I q) ?_) ht
  rintro u s1 ⟨y, H1, I1, rx, ⟨a, dx, fs, ex, ea, l⟩, q1⟩
  subst ex
  obtain rfl : u = Value.ref a := rx
  refine getmeth_ok I1 ea hcl hme l ?_
  refine PySem.W.callWith_K (first := [.ref a]) (h₀ := X.base) I.ok.mod.kin hme.kp (thn (ha.run pos pins s1 σ H1 _ I1 q1) ?_) hst hpl
  rintro us s2 ⟨vs, H2, I2, r, q2⟩
  exact ⟨I2.kIn, run_fnS (us := .ref a :: us) (vs := .ref a :: vs) Fn hr hb (passAt tk σ) I2 (.cons rfl r) q2⟩
end
end Pd
set_option Elab.async false
set_option linter.all false
set_option maxRecDepth 100000
set_option maxHeartbeats 1000000
namespace Pd
open PySem PySem.Spec PyProof.Rows L2
def mkX (m : Nat) (g : SX) : FX := fun ss => match g (startE m ss) with
  | some (.fl (.rt s) ρ') => (endE 0 ss ρ').map fun ss' => .ret s ss'
  | some (.fl .nx ρ') => (endE 0 ss ρ').map fun ss' => .ret (.p .none) ss'
  | some (.exc c f ρ') => (endE 0 ss ρ').map fun ss' => .exc c f ss'
  | _ => none
section
variable {K : PySem.W.Frag}
theorem rdX_body {N : List Str} {m : Nat} {g : SX} {vs : List V} {H : Hp} {Q : VK} {E : XK} {n : Nat} (hn : N.length - n = m) (h : spX K n (mkX m g) vs H Q E) :
    rdSX K vs (fun cls d _ H' => E cls d H') g { nx := fun _ H' => Q .non H', rt := Q } (L2.start N vs) H := by
  obtain ⟨hv, B, ss, fs, gd, ht, out, e, k⟩ := h
  have g0 := good_start (N := N) (m := m) gd (by rw [hv]; exact hn)
  have sub : ∀ {fs' : Nat → List Addr} {a : Addr}, InF (fun i => if ((ss[i]?).map Sl.isP) = some false then fs' i else []) a → InF fs' a := fun {fs' a} h => by
    obtain ⟨i, hi⟩ := h
    try dsimp only at hi
    split at hi
    · exact ⟨i, hi⟩
    · cases hi
  unfold mkX at e
  split at e
  · rename_i s ρ' e1
    cases q : endE 0 ss ρ' with
    | none => rw [q] at e; cases e
    | some t =>
      rw [q] at e
      cases e
      refine ⟨B, _, fs, g0, _, e1, fun v σ' B' H' fs' T fr g' ok => ?_⟩
      refine k v B' H' _ T (fr.weak (fun _ h => h) fun a h => Or.inl ?_) (good_end gd fr.bb g' q) ⟨ok.1, ok.2.1, fun a ha => ⟨(ok.2.2 a ha).1, fun i hi => ?_⟩⟩
      · rcases h with h | h
        · exact Or.inl (sub h)
        · exact Or.inr h
      · obtain ⟨j, hj⟩ := sub ⟨i, hi⟩
        exact (ok.2.2 a ha).2 j hj
  · rename_i ρ' e1
    cases q : endE 0 ss ρ' with
    | none => rw [q] at e; cases e
    | some t =>
      rw [q] at e
      cases e
      refine ⟨B, _, fs, g0, _, e1, fun σ' B' H' fs' fr g' => ?_⟩
      refine k .non B' H' _ [] (fr.weak (fun _ h => h) fun a h => Or.inl ?_) (good_end gd fr.bb g' q) ⟨⟨.non, rfl⟩, rfl, fun a ha => nomatch ha⟩
      rcases h with h | h
      · exact sub h
      · cases h
  · rename_i c f ρ' e1
    cases q : endE 0 ss ρ' with
    | none => rw [q] at e; cases e
    | some t =>
      rw [q] at e
      cases e
      refine ⟨B, _, fs, g0, _, e1, fun σ' B' H' fs' cls d fr g' x => ?_⟩
      exact k B' H' _ cls d (fr.weak (fun _ h => h) fun a h => Or.inl (sub h)) (good_end gd fr.bb g' q) x
  · cases e
end
section
variable {P : Program} {w : World} {K : PySem.W.Frag} {mg : Str → Option Value} {base : Heap}
theorem fnX_ok {x qual : Str} {st : Stmt} {f : Addr} {fd : FuncData} {N ps : List Str} {k m : Nat} {g : SX} (F : Fun K x qual st f fd) (S : FnScope N ps (defScope st)) (hm : N.length - ps.length = m)
    (hbody : ∀ (cdv : Value) (A : Around) (outer : List PySem.Env) (s : Shared) (H : Hp) (E : XK) (vs0 : List V), Room k (A.deeper (envOfC qual (defScope st) s.heap.objs.size f cdv)) →
      PSs (cxOf (L2.CX P w) P w K mg base N qual (defScope st) f cdv A outer s H E) (defBody st) (rdSX K vs0 (fun cls d _ H' => E cls d H') g)) : FnOk P w K mg base (L2.CX P w) (k + 1) f fd ps (spX K ps.length (mkX m g)) :=
  F.okX S (fun vs H Q E h => h.1) fun cdv A outer s H vs Q E hr h => ⟨_, hbody cdv A outer s H E vs hr, rdX_body hm h⟩
end
def gTry (i j : Nat) (cs : List Str) (g : SX) : M Fl := fun ρ => match g ρ with
  | some (.fl fl ρ') => some (.ok fl ρ')
  | some (.exc c f ρ') => if c ∈ cs ∧ i < ρ'.length ∧ j < ρ'.length ∧ i ≠ j then some (.ok .nx ((ρ'.set j (some (.ex c f))).set i none)) else none
  | none => none
structure Catch (K : PySem.W.Frag) (mg : Str → Option Value) (C : Str) (cs : List Str) : Prop where
  ex : ∃ D, mg C = some (.ref D) ∧ ∀ c ∈ cs, ∀ A, PySem.W.nsIn K mainGlobals c = some (some (.ref A)) → PySem.W.exmOne K (.ref A) (.ref D) = some true
section
variable {X : Cx} {vs0 : List V} {C n y : Str} {i j : Nat} {body : List Stmt} {np p1 p2 p3 pos pos' : Pos} {cs : List Str} {g : SX}
theorem ds_try (hs : X.stack = X.env :: X.outer) (hf : X.env.frame = some X.env.locals) (hex : X.ex = []) (hN : X.N.Nodup) (hi : X.N[i]? = some n) (hln : X.env.kindOf n = some .local) (hj : X.N[j]? = some y) (hly : Loc X.env.scope y) (hvn : Vis X.env.scope n)
    (hgC : Gl X C) (T : Catch X.K X.mg C cs) (hdC : (C == ("__debug__" : Str)) = false := by decide) (hdn : (n == ("__debug__" : Str)) = false := by decide) (hcn : (n == ("__classdict__" : Str)) = false := by decide)
    (hfy : X.fn y = true ∨ X.env.scope.names.lookup y = some .local := by first | exact .inl rfl | exact .inr rfl | assumption)
    (hsw : swapsWith (.Name n p2) (some (.Name y p1)) p3.line X.env = pure false := by rfl)
    (hb : ∀ (W : WX) (pn : List (Addr × Obj)) (xe : Value → Shared → Prop), Takes (X.tr pn xe) W → PassesOwn (model X.prog X.w) X.A X.env xe → PSs (X.tr pn xe) body (rdSX X.K vs0 W g)) :
    PS X (.Try body [.ExceptHandler (some (.Name C np)) (some n) [.Assign [.Name y p1] (.Name n p2) p3] pos'] [] [] pos) (rdS X.K vs0 (gTry i j cs g)) := by
  obtain ⟨D, hD, hcs⟩ := T.ex
  refine PS.imp (ps_try_keep (c := .ref D) (i := i) (ts := fun a cls d => tAsg (tVar i) (gName j)) (Wout := fun _ _ _ _ => False) hs hf hex hN hi hln ⟨hgC, hdC, Or.inl hD⟩ takes0 hb ?_) ?_
  · intro a oe cls d pn hz hfl
    exact pss_one (ps_set (X := X.suite a ((a, oe) :: pn)) hN hj hly (pe_var (X := X.suite a ((a, oe) :: pn)) hi hvn hdn hcn) hsw hfy)
  · intro D' σ H q
    obtain ⟨B, ρ, fs, gd, fl, ρ', e, k⟩ := q
    unfold gTry at e
    split at e
    · rename_i fl' ρ1 e1
      cases e
      refine ⟨B, ρ, fs, gd, _, e1, ?_⟩
      cases fl <;> exact k
    · rename_i c f ρ1 e1
      split at e
      · rename_i hc
        cases e
        obtain ⟨hmem, hil, hjl, hij⟩ := hc
        refine ⟨B, ρ, fs, gd, _, e1, fun σ1 B1 H1 fs1 cls d fr1 g1 x => ?_⟩
        obtain ⟨A, hA, hnA⟩ : ∃ A, cls = .ref A ∧ PySem.W.nsIn X.K mainGlobals c = some (some (.ref A)) := by
          cases f with
          | none => obtain ⟨A, h1, h2, _⟩ := x; exact ⟨A, h1, h2⟩
          | some p => obtain ⟨_, A, _, _, h1, h2, _⟩ := x; exact ⟨A, h1, h2⟩
        refine ⟨true, by rw [hA]; exact hcs c hmem A hnA, fun _ a na => ?_, fun z => nomatch z⟩
        have hl1 : σ1.length = ρ1.length := g1.len
        refine ⟨.ref a, List.getElem?_set_self (by rw [hl1]; exact hil), fun na' => ?_⟩
        have fr2 := Fr.new (o := ExV cls d a) na g1.ext
        have g2 := g1.grow fr2 (fun _ _ z => z) (same_upd g1.ext)
        have own : Own X.K (upd B1 a (ExV cls d a)) (upd H1 a (ExV cls d a)) (.ref a) (.ex c f) [] := by
          refine ⟨?_, rfl⟩
          cases f with
          | none =>
            obtain ⟨A', h1, h2, h3⟩ := x
            exact ⟨a, A', rfl, h2, by rw [upd_same, h1, h3]⟩
          | some p =>
            obtain ⟨h0, A', dx, u, h1, h2, h3, h4, h5⟩ := x
            exact Or.inl ⟨h0, a, A', dx, u, rfl, h2, by rw [upd_same, h1, h3], fr2.bb _ _ h4, Dp.mono fr2.bb h5⟩
        have g3 := g2.put (i := j) hjl own (fun _ z => nomatch z) fun b hb => nomatch hb
        have g4 := g3.wipe1 i
        have es : ((σ1.set i (some (.ref a))).set j (some (.ref a))).set i none = (σ1.set j (some (.ref a))).set i none := by
          rw [List.set_comm _ _ hij, List.set_set]
        rw [es]
        refine k _ _ _ _ (fr1.trans (fr2.weak (fun _ z => False.elim z) fun b z => Or.inr (Or.inl ?_))) g4
        obtain ⟨t, ht⟩ := z
        try dsimp only at ht
        by_cases q1 : t = i
        · rw [if_pos q1] at ht; cases ht
        · rw [if_neg q1] at ht
          by_cases q2 : t = j
          · rw [if_pos q2] at ht; cases ht
          · rw [if_neg q2] at ht
            exact ⟨t, ht⟩
      · cases e
    · cases e
end
end Pd
set_option Elab.async false
set_option linter.all false
set_option maxRecDepth 100000
set_option maxHeartbeats 1000000
namespace Pd
open PySem PySem.Spec PyProof.Rows L2
structure IsXF (K : PySem.W.Frag) (us : List Value) (ts fs : List Str) : Prop where
  yes : ∀ c ∈ ts, ∀ D, PySem.W.nsIn K mainGlobals c = some (some (.ref D)) → ExcC K D ∧ PySem.W.kitAny K (.ref D) us = some true
  no : ∀ c ∈ fs, ∀ D, PySem.W.nsIn K mainGlobals c = some (some (.ref D)) → ExcC K D ∧ PySem.W.kitAny K (.ref D) us = some false
def ExHere (H : Hp) (a D : Addr) : Prop := H a = some (ExV (.ref D) none a) ∨ ∃ dx fs, H a = some (ExV (.ref D) (some dx) a) ∧ H dx = some (.xd fs)
section
variable {X : Cx}
variable {vs0 : List V} {f : M Rs} {ts fs : List Str} {o e : Expr} {p pos pos2 : Pos}
theorem ExHere.up {H : Hp} {a D p : Addr} {u : HO} (h : ExHere H a D) (hp : H p = none) : ExHere (upd H p u) a D := by
  have ne : ∀ b o, H b = some o → upd H p u b = some o := fun b o e => by
    rw [upd_ne (fun z => by rw [z, hp] at e; cases e)]
    exact e
  rcases h with h | ⟨dx, fs, h1, h2⟩
  · exact Or.inl (ne _ _ h)
  · exact Or.inr ⟨dx, fs, ne _ _ h1, ne _ _ h2⟩
end
end Pd
set_option Elab.async false
set_option linter.all false
set_option maxRecDepth 100000
set_option maxHeartbeats 1000000
namespace Pd
open PySem PySem.Spec PyProof.Rows L2
namespace B
def EvS (g : SX) (ρ : Env) (Q : OutS → Prop) : Prop := ∃ o, g ρ = some o ∧ Q o
def EvE (f : EX) (ρ : Env) (Q : OutE → Prop) : Prop := ∃ o, f ρ = some o ∧ Q o
def SpX (F : FX) (ss : List Sl) (Q : OutF → Prop) : Prop := ∃ o, F ss = some o ∧ Q o
theorem EvS.mono {g : SX} {ρ : Env} {Q Q' : OutS → Prop} (h : EvS g ρ Q) (i : ∀ o, Q o → Q' o) : EvS g ρ Q' := by
  obtain ⟨o, e, q⟩ := h
  exact ⟨o, e, i o q⟩
theorem SpX.mono {F : FX} {ss : List Sl} {Q Q' : OutF → Prop} (h : SpX F ss Q) (i : ∀ o, Q o → Q' o) : SpX F ss Q' := by
  obtain ⟨o, e, q⟩ := h
  exact ⟨o, e, i o q⟩
section
variable {ρ : Env}
@[simp ↓] theorem evS_lift {g : M Fl} {Q : OutS → Prop} : EvS (xLift g) ρ Q ↔ Ev g ρ fun fl ρ' => Q (.fl fl ρ') := by
  constructor
  · rintro ⟨o, e, q⟩
    unfold xLift at e
    split at e
    · rename_i fl ρ' h
      cases e
      exact ⟨fl, ρ', h, q⟩
    · cases e
  · rintro ⟨fl, ρ', h, q⟩
    exact ⟨_, by unfold xLift; rw [h], q⟩
def seqX (b : SX) (Q : OutS → Prop) : OutS → Prop
  | .fl .nx ρ' => EvS b ρ' Q
  | o => Q o
@[simp ↓] theorem seqX_nx {b : SX} {Q : OutS → Prop} : seqX b Q (.fl .nx ρ) = EvS b ρ Q := rfl
@[simp ↓] theorem seqX_rt {b : SX} {Q : OutS → Prop} {s : Sl} : seqX b Q (.fl (.rt s) ρ) = Q (.fl (.rt s) ρ) := rfl
@[simp ↓] theorem seqX_bk {b : SX} {Q : OutS → Prop} : seqX b Q (.fl .bk ρ) = Q (.fl .bk ρ) := rfl
@[simp ↓] theorem seqX_ct {b : SX} {Q : OutS → Prop} : seqX b Q (.fl .ct ρ) = Q (.fl .ct ρ) := rfl
@[simp ↓] theorem seqX_ex {b : SX} {Q : OutS → Prop} {c : Str} {x : Option (Str × D)} : seqX b Q (.exc c x ρ) = Q (.exc c x ρ) := rfl
@[simp ↓] theorem evS_seq {a b : SX} {Q : OutS → Prop} : EvS (xSeq a b) ρ Q ↔ EvS a ρ (fun o => seqX b Q o) := by
  constructor
  · rintro ⟨o, e, q⟩
    unfold xSeq at e
    split at e
    · rename_i ρ' h
      exact ⟨_, h, o, e, q⟩
    · rename_i hn
      refine ⟨o, e, ?_⟩
      show seqX b Q o
      unfold seqX
      split
      · rename_i ρ'
        exact (hn ρ' e).elim
      · exact q
  · rintro ⟨o, e, q⟩
    unfold seqX at q
    split at q
    · obtain ⟨o', e', q'⟩ := q
      exact ⟨o', by unfold xSeq; rw [e]; exact e', q'⟩
    · rename_i hn
      refine ⟨o, ?_, q⟩
      unfold xSeq
      rw [e]
      cases o with
      | fl f ρ' =>
        cases f with
        | nx => exact (hn ρ' rfl).elim
        | bk => rfl
        | ct => rfl
        | rt s => rfl
      | exc c x ρ' => rfl
@[simp ↓] theorem evS_if {t : M Bool} {a b : SX} {Q : OutS → Prop} : EvS (xIf t a b) ρ Q ↔ Ev t ρ fun c ρ' => if c = true then EvS a ρ' Q else EvS b ρ' Q := by
  constructor
  · rintro ⟨o, e, q⟩
    unfold xIf at e
    split at e
    · rename_i ρ' h
      exact ⟨true, ρ', h, o, e, q⟩
    · rename_i ρ' h
      exact ⟨false, ρ', h, o, e, q⟩
    · cases e
  · rintro ⟨c, ρ', h, q⟩
    cases c with
    | true =>
      obtain ⟨o, e, q⟩ := q
      exact ⟨o, by unfold xIf; rw [h]; exact e, q⟩
    | false =>
      obtain ⟨o, e, q⟩ := q
      exact ⟨o, by unfold xIf; rw [h]; exact e, q⟩
def thenX (g : Rs → M Fl) (Q : OutS → Prop) : OutE → Prop
  | .ok r ρ' => Ev (g r) ρ' fun fl ρ2 => Q (.fl fl ρ2)
  | .exc c x ρ' => Q (.exc c x ρ')
@[simp ↓] theorem thenX_ok {g : Rs → M Fl} {Q : OutS → Prop} {r : Rs} : thenX g Q (.ok r ρ) = Ev (g r) ρ fun fl ρ2 => Q (.fl fl ρ2) := rfl
@[simp ↓] theorem thenX_ex {g : Rs → M Fl} {Q : OutS → Prop} {c : Str} {x : Option (Str × D)} : thenX g Q (.exc c x ρ) = Q (.exc c x ρ) := rfl
theorem evS_then {f : EX} {g : Rs → M Fl} {Q : OutS → Prop} : EvS (xThen f g) ρ Q ↔ EvE f ρ (fun o => thenX g Q o) := by
  constructor
  · rintro ⟨o, e, q⟩
    unfold xThen at e
    split at e
    · rename_i r ρ' h
      exact ⟨_, h, evS_lift.mp ⟨o, e, q⟩⟩
    · rename_i c x ρ' h
      cases e
      exact ⟨_, h, q⟩
    · cases e
  · rintro ⟨o, e, q⟩
    cases o with
    | ok r ρ' =>
      obtain ⟨o', e', q'⟩ := evS_lift.mpr (show Ev (g r) ρ' _ from q)
      exact ⟨o', by unfold xThen; rw [e]; exact e', q'⟩
    | exc c x ρ' => exact ⟨_, by unfold xThen; rw [e], q⟩
@[simp ↓] theorem evS_expr {f : EX} {Q : OutS → Prop} : EvS (xExpr f) ρ Q ↔ EvE f ρ (fun o => thenX (fun r => gExpr (M.ret r)) Q o) := by
  rw [show xExpr f = xThen f (fun _ => M.ret .nx) from rfl, evS_then]
  exact Iff.rfl
@[simp ↓] theorem evE_bind {fa : M (List Rs)} {g : List Rs → EX} {Q : OutE → Prop} : EvE (xBind fa g) ρ Q ↔ Ev fa ρ fun rs ρ' => EvE (g rs) ρ' Q := by
  constructor
  · rintro ⟨o, e, q⟩
    unfold xBind at e
    split at e
    · rename_i rs ρ' h
      exact ⟨rs, ρ', h, o, e, q⟩
    · cases e
  · rintro ⟨rs, ρ', h, o, e, q⟩
    exact ⟨o, by unfold xBind; rw [h]; exact e, q⟩
def outFX (rs : List Rs) (ρ : Env) (Q : OutE → Prop) : OutF → Prop
  | .ret r ss' => Q (.ok (.own r) (wbL rs ss' ρ))
  | .exc c f ss' => Q (.exc c f (wbL rs ss' ρ))
@[simp ↓] theorem outFX_ret {rs : List Rs} {Q : OutE → Prop} {r : Sl} {ss : List Sl} : outFX rs ρ Q (.ret r ss) = Q (.ok (.own r) (wbL rs ss ρ)) := rfl
@[simp ↓] theorem outFX_ex {rs : List Rs} {Q : OutE → Prop} {c : Str} {x : Option (Str × D)} {ss : List Sl} : outFX rs ρ Q (.exc c x ss) = Q (.exc c x (wbL rs ss ρ)) := rfl
def callX (F : FX) (rs : List Rs) (ρ : Env) (Q : OutE → Prop) : Option (List Sl) → Prop
  | some ss => SpX F ss fun o => outFX rs ρ Q o
  | none => False
@[simp ↓] theorem callX_some {F : FX} {rs : List Rs} {Q : OutE → Prop} {ss : List Sl} : callX F rs ρ Q (some ss) = SpX F ss fun o => outFX rs ρ Q o := rfl
@[simp ↓] theorem evE_call {n : Nat} {F : FX} {rs : List Rs} {Q : OutE → Prop} : EvE (xCall n F rs) ρ Q ↔ (rs.length = n ∧ (roots rs).Nodup) ∧ callX F rs ρ Q (argL rs ρ) := by
  constructor
  · rintro ⟨o, e, q⟩
    unfold xCall at e
    split at e
    · rename_i hc
      refine ⟨hc, ?_⟩
      split at e
      · rename_i ss h1
        rw [h1]
        split at e
        · rename_i r ss' h2
          cases e
          exact ⟨_, h2, q⟩
        · rename_i c f ss' h2
          cases e
          exact ⟨_, h2, q⟩
        · cases e
      · cases e
    · cases e
  · rintro ⟨hc, q⟩
    cases h1 : argL rs ρ with
    | none => rw [h1] at q; exact q.elim
    | some ss =>
      rw [h1] at q
      obtain ⟨o, h2, q⟩ := q
      cases o with
      | ret r ss' => exact ⟨_, by unfold xCall; rw [if_pos hc, h1]; dsimp only; rw [h2], q⟩
      | exc c f ss' => exact ⟨_, by unfold xCall; rw [if_pos hc, h1]; dsimp only; rw [h2], q⟩
@[simp ↓] theorem evE_meth {c m : Str} {fo : M Rs} {fa : M (List Rs)} {n : Nat} {F : FX} {Q : OutE → Prop} : EvE (xMeth c m fo fa n F) ρ Q ↔ Ev fo ρ fun r ρ1 => Pd.B.chkO c m (argR r ρ1) ∧ Ev fa ρ1 fun rs ρ2 => EvE (xCall n F (r :: rs)) ρ2 Q := by
  unfold xMeth
  rw [evE_bind, ev_aCons, ev_chkI]
def endX (ss : List Sl) (Q : OutF → Prop) : OutS → Prop
  | .fl (.rt s) ρ' => argQ (fun ss' => Q (.ret s ss')) (endE 0 ss ρ')
  | .fl .nx ρ' => argQ (fun ss' => Q (.ret (.p .none) ss')) (endE 0 ss ρ')
  | .exc c f ρ' => argQ (fun ss' => Q (.exc c f ss')) (endE 0 ss ρ')
  | _ => False
@[simp ↓] theorem endX_rt {ss : List Sl} {Q : OutF → Prop} {s : Sl} : endX ss Q (.fl (.rt s) ρ) = argQ (fun ss' => Q (.ret s ss')) (endE 0 ss ρ) := rfl
@[simp ↓] theorem endX_nx {ss : List Sl} {Q : OutF → Prop} : endX ss Q (.fl .nx ρ) = argQ (fun ss' => Q (.ret (.p .none) ss')) (endE 0 ss ρ) := rfl
@[simp ↓] theorem endX_ex {ss : List Sl} {Q : OutF → Prop} {c : Str} {x : Option (Str × D)} : endX ss Q (.exc c x ρ) = argQ (fun ss' => Q (.exc c x ss')) (endE 0 ss ρ) := rfl
@[simp ↓] theorem spX_mkX {m : Nat} {g : SX} {ss : List Sl} {Q : OutF → Prop} : SpX (mkX m g) ss Q ↔ EvS g (startE m ss) (fun o => endX ss Q o) := by
  constructor
  · rintro ⟨o, e, q⟩
    unfold mkX at e
    split at e
    · rename_i s ρ' h
      refine ⟨_, h, ?_⟩
      show argQ _ _
      cases h2 : endE 0 ss ρ' with
      | none => rw [h2] at e; cases e
      | some t => rw [h2] at e; cases e; exact q
    · rename_i ρ' h
      refine ⟨_, h, ?_⟩
      show argQ _ _
      cases h2 : endE 0 ss ρ' with
      | none => rw [h2] at e; cases e
      | some t => rw [h2] at e; cases e; exact q
    · rename_i c x ρ' h
      refine ⟨_, h, ?_⟩
      show argQ _ _
      cases h2 : endE 0 ss ρ' with
      | none => rw [h2] at e; cases e
      | some t => rw [h2] at e; cases e; exact q
    · cases e
  · rintro ⟨o, e, q⟩
    cases o with
    | fl f ρ' =>
      cases f with
      | nx =>
        have q : argQ _ (endE 0 ss ρ') := q
        cases h2 : endE 0 ss ρ' with
        | none => rw [h2] at q; exact q.elim
        | some t => rw [h2] at q; exact ⟨_, by unfold mkX; rw [e]; dsimp only; rw [h2]; rfl, q⟩
      | bk => exact q.elim
      | ct => exact q.elim
      | rt s =>
        have q : argQ _ (endE 0 ss ρ') := q
        cases h2 : endE 0 ss ρ' with
        | none => rw [h2] at q; exact q.elim
        | some t => rw [h2] at q; exact ⟨_, by unfold mkX; rw [e]; dsimp only; rw [h2]; rfl, q⟩
    | exc c x ρ' =>
      have q : argQ _ (endE 0 ss ρ') := q
      cases h2 : endE 0 ss ρ' with
      | none => rw [h2] at q; exact q.elim
      | some t => rw [h2] at q; exact ⟨_, by unfold mkX; rw [e]; dsimp only; rw [h2]; rfl, q⟩
def tryX (i j : Nat) (cs : List Str) (Q : Fl → Env → Prop) : OutS → Prop
  | .fl fl ρ' => Q fl ρ'
  | .exc c f ρ' => (c ∈ cs ∧ i < ρ'.length ∧ j < ρ'.length ∧ i ≠ j) ∧ Q .nx ((ρ'.set j (some (.ex c f))).set i none)
@[simp ↓] theorem tryX_fl {i j : Nat} {cs : List Str} {Q : Fl → Env → Prop} {f : Fl} : tryX i j cs Q (.fl f ρ) = Q f ρ := rfl
@[simp ↓] theorem tryX_ex {i j : Nat} {cs : List Str} {Q : Fl → Env → Prop} {c : Str} {x : Option (Str × D)} : tryX i j cs Q (.exc c x ρ) = ((c ∈ cs ∧ i < ρ.length ∧ j < ρ.length ∧ i ≠ j) ∧ Q .nx ((ρ.set j (some (.ex c x))).set i none)) := rfl
@[simp ↓] theorem ev_try {i j : Nat} {cs : List Str} {g : SX} {Q : Fl → Env → Prop} : Ev (gTry i j cs g) ρ Q ↔ EvS g ρ (fun o => tryX i j cs Q o) := by
  constructor
  · rintro ⟨fl, ρ', e, q⟩
    unfold gTry at e
    split at e
    · rename_i fl' ρ1 h
      cases e
      exact ⟨_, h, q⟩
    · rename_i c f ρ1 h
      split at e
      · rename_i hc
        cases e
        exact ⟨_, h, hc, q⟩
      · cases e
    · cases e
  · rintro ⟨o, e, q⟩
    cases o with
    | fl f ρ' => exact ⟨f, ρ', by unfold gTry; rw [e], q⟩
    | exc c x ρ' => exact ⟨_, _, by unfold gTry; rw [e]; exact if_pos q.1, q.2⟩
end
end B
end Pd
set_option Elab.async false
set_option linter.all false
set_option maxRecDepth 100000
set_option maxHeartbeats 1000000
namespace Pd
open PySem PySem.Spec PyProof.Rows L2
def EvS (g : SX) (ρ : Env) (Q : OutS → Prop) [Fx Q] : Prop := B.EvS g ρ Q
def EvE (f : EX) (ρ : Env) (Q : OutE → Prop) [Fx Q] : Prop := B.EvE f ρ Q
def SpX (F : FX) (ss : List Sl) (Q : OutF → Prop) [Fx Q] : Prop := B.SpX F ss Q
theorem EvS.mono {g : SX} {ρ : Env} {Q Q' : OutS → Prop} (h : EvS g ρ Q) (i : ∀ o, Q o → Q' o) : EvS g ρ Q' := B.EvS.mono h i
theorem SpX.mono {F : FX} {ss : List Sl} {Q Q' : OutF → Prop} (h : SpX F ss Q) (i : ∀ o, Q o → Q' o) : SpX F ss Q' := B.SpX.mono h i
section
variable {ρ : Env}
@[simp ↓] theorem evS_lift {g : M Fl} {Q : OutS → Prop} : EvS (xLift g) ρ Q ↔ Ev g ρ fun fl ρ' => Q (.fl fl ρ') := B.evS_lift
def seqX (b : SX) (Q : OutS → Prop) [Fx Q] (o0 : OutS) : Prop := B.seqX b Q o0
@[simp ↓] theorem seqX_nx {b : SX} {Q : OutS → Prop} : seqX b Q (.fl .nx ρ) = EvS b ρ Q := B.seqX_nx
@[simp ↓] theorem seqX_rt {b : SX} {Q : OutS → Prop} {s : Sl} : seqX b Q (.fl (.rt s) ρ) = Q (.fl (.rt s) ρ) := B.seqX_rt
@[simp ↓] theorem seqX_bk {b : SX} {Q : OutS → Prop} : seqX b Q (.fl .bk ρ) = Q (.fl .bk ρ) := B.seqX_bk
@[simp ↓] theorem seqX_ct {b : SX} {Q : OutS → Prop} : seqX b Q (.fl .ct ρ) = Q (.fl .ct ρ) := B.seqX_ct
@[simp ↓] theorem seqX_ex {b : SX} {Q : OutS → Prop} {c : Str} {x : Option (Str × D)} : seqX b Q (.exc c x ρ) = Q (.exc c x ρ) := B.seqX_ex
@[simp ↓] theorem evS_seq {a b : SX} {Q : OutS → Prop} : EvS (xSeq a b) ρ Q ↔ EvS a ρ (fun o => seqX b Q o) := B.evS_seq
@[simp ↓] theorem evS_if {t : M Bool} {a b : SX} {Q : OutS → Prop} : EvS (xIf t a b) ρ Q ↔ Ev t ρ fun c ρ' => if c = true then EvS a ρ' Q else EvS b ρ' Q := B.evS_if
def thenX (g : Rs → M Fl) (Q : OutS → Prop) [Fx Q] (o0 : OutE) : Prop := B.thenX g Q o0
@[simp ↓] theorem thenX_ok {g : Rs → M Fl} {Q : OutS → Prop} {r : Rs} : thenX g Q (.ok r ρ) = Ev (g r) ρ fun fl ρ2 => Q (.fl fl ρ2) := B.thenX_ok
@[simp ↓] theorem thenX_ex {g : Rs → M Fl} {Q : OutS → Prop} {c : Str} {x : Option (Str × D)} : thenX g Q (.exc c x ρ) = Q (.exc c x ρ) := B.thenX_ex
theorem evS_then {f : EX} {g : Rs → M Fl} {Q : OutS → Prop} : EvS (xThen f g) ρ Q ↔ EvE f ρ (fun o => thenX g Q o) := B.evS_then
@[simp ↓] theorem evS_expr {f : EX} {Q : OutS → Prop} : EvS (xExpr f) ρ Q ↔ EvE f ρ (fun o => thenX (fun r => gExpr (M.ret r)) Q o) := B.evS_expr
@[simp ↓] theorem evE_bind {fa : M (List Rs)} {g : List Rs → EX} {Q : OutE → Prop} : EvE (xBind fa g) ρ Q ↔ Ev fa ρ fun rs ρ' => EvE (g rs) ρ' Q := B.evE_bind
def outFX (rs : List Rs) (ρ : Env) (Q : OutE → Prop) [Fx Q] (o0 : OutF) : Prop := B.outFX rs ρ Q o0
@[simp ↓] theorem outFX_ret {rs : List Rs} {Q : OutE → Prop} {r : Sl} {ss : List Sl} : outFX rs ρ Q (.ret r ss) = Q (.ok (.own r) (wbL rs ss ρ)) := B.outFX_ret
@[simp ↓] theorem outFX_ex {rs : List Rs} {Q : OutE → Prop} {c : Str} {x : Option (Str × D)} {ss : List Sl} : outFX rs ρ Q (.exc c x ss) = Q (.exc c x (wbL rs ss ρ)) := B.outFX_ex
def callX (F : FX) (rs : List Rs) (ρ : Env) (Q : OutE → Prop) [Fx Q] (o0 : Option (List Sl)) : Prop := B.callX F rs ρ Q o0
@[simp ↓] theorem callX_some {F : FX} {rs : List Rs} {Q : OutE → Prop} {ss : List Sl} : callX F rs ρ Q (some ss) = SpX F ss fun o => outFX rs ρ Q o := B.callX_some
@[simp ↓] theorem evE_call {n : Nat} {F : FX} {rs : List Rs} {Q : OutE → Prop} : EvE (xCall n F rs) ρ Q ↔ (rs.length = n ∧ (roots rs).Nodup) ∧ callX F rs ρ Q (argL rs ρ) := B.evE_call
@[simp ↓] theorem evE_meth {c m : Str} {fo : M Rs} {fa : M (List Rs)} {n : Nat} {F : FX} {Q : OutE → Prop} : EvE (xMeth c m fo fa n F) ρ Q ↔ Ev fo ρ fun r ρ1 => Pd.B.chkO c m (argR r ρ1) ∧ Ev fa ρ1 fun rs ρ2 => EvE (xCall n F (r :: rs)) ρ2 Q := B.evE_meth
def endX (ss : List Sl) (Q : OutF → Prop) [Fx Q] (o0 : OutS) : Prop := B.endX ss Q o0
@[simp ↓] theorem endX_rt {ss : List Sl} {Q : OutF → Prop} {s : Sl} : endX ss Q (.fl (.rt s) ρ) = argQ (fun ss' => Q (.ret s ss')) (endE 0 ss ρ) := B.endX_rt
@[simp ↓] theorem endX_nx {ss : List Sl} {Q : OutF → Prop} : endX ss Q (.fl .nx ρ) = argQ (fun ss' => Q (.ret (.p .none) ss')) (endE 0 ss ρ) := B.endX_nx
@[simp ↓] theorem endX_ex {ss : List Sl} {Q : OutF → Prop} {c : Str} {x : Option (Str × D)} : endX ss Q (.exc c x ρ) = argQ (fun ss' => Q (.exc c x ss')) (endE 0 ss ρ) := B.endX_ex
@[simp ↓] theorem spX_mkX {m : Nat} {g : SX} {ss : List Sl} {Q : OutF → Prop} : SpX (mkX m g) ss Q ↔ EvS g (startE m ss) (fun o => endX ss Q o) := B.spX_mkX
def tryX (i j : Nat) (cs : List Str) (Q : Fl → Env → Prop) [Fx Q] (o0 : OutS) : Prop := B.tryX i j cs Q o0
@[simp ↓] theorem tryX_fl {i j : Nat} {cs : List Str} {Q : Fl → Env → Prop} {f : Fl} : tryX i j cs Q (.fl f ρ) = Q f ρ := B.tryX_fl
@[simp ↓] theorem tryX_ex {i j : Nat} {cs : List Str} {Q : Fl → Env → Prop} {c : Str} {x : Option (Str × D)} : tryX i j cs Q (.exc c x ρ) = ((c ∈ cs ∧ i < ρ.length ∧ j < ρ.length ∧ i ≠ j) ∧ Q .nx ((ρ.set j (some (.ex c x))).set i none)) := B.tryX_ex
@[simp ↓] theorem ev_try {i j : Nat} {cs : List Str} {g : SX} {Q : Fl → Env → Prop} : Ev (gTry i j cs g) ρ Q ↔ EvS g ρ (fun o => tryX i j cs Q o) := B.ev_try
end
end Pd
set_option Elab.async false
set_option linter.all false
set_option maxRecDepth 100000
set_option maxHeartbeats 1000000
namespace Pd
open PySem PySem.Spec PyProof.Rows L2
section
variable {K : PySem.W.Frag} {mg : Str → Option Value} {C c : Str} {A D A0 : Addr} {P : Str → Addr → Prop}
theorem ex_nil : ∀ c ∈ ([] : List Str), ∀ A, PySem.W.nsIn K mainGlobals c = some (some (.ref A)) → P c A := fun c h => nomatch h
theorem ex_cons {cs : List Str} (a : PySem.W.nsIn K mainGlobals c = some (some (.ref A0))) (p : P c A0) (h : ∀ c ∈ cs, ∀ A, PySem.W.nsIn K mainGlobals c = some (some (.ref A)) → P c A) :
    ∀ c' ∈ c :: cs, ∀ A, PySem.W.nsIn K mainGlobals c' = some (some (.ref A)) → P c' A := by
  intro c' hc A hA
  rcases List.mem_cons.mp hc with e | e
  · subst e
    rw [a] at hA
    cases hA
    exact p
  · exact h c' e A hA
theorem exm_of {b : Bool} (hb : PySem.W.subIn K (.ref D) (.type "BaseException") = some true) (hd : PySem.W.hasDictIn K D = true) (ht : PySem.W.typeIn K (.ref D) = some (.type "type")) (s : PySem.W.subIn K (.ref A) (.ref D) = some b) : PySem.W.exmOne K (.ref A) (.ref D) = some b := PySem.W.exm_ref hb hd ht s
theorem catch_of {cs : List Str} (g : mg C = some (.ref D)) (h : ∀ c ∈ cs, ∀ A, PySem.W.nsIn K mainGlobals c = some (some (.ref A)) → PySem.W.exmOne K (.ref A) (.ref D) = some true) : Catch K mg C cs := ⟨D, g, h⟩
end
end Pd
set_option Elab.async false
set_option linter.all false
set_option maxRecDepth 100000
set_option maxHeartbeats 1000000
namespace Pd
open PySem PySem.Spec PyProof.Rows L2
def oIsnX0 : List Rs → M Rs := fun rs ρ => match rs with
  | [.own (.ex _ _), .own (.p .none)] => some (.ok (.own (.p (.bool true))) ρ)
  | rs => oIsn rs ρ
theorem exIs_ref {K : PySem.W.Frag} {B : Hp} {v : V} {c : Str} : ∀ {f : Option (Str × D)}, ExIs K B v c f → ∃ a, v = .ref a
  | none, h => by obtain ⟨a, _, h, _⟩ := h; exact ⟨a, h⟩
  | some (x, e), h => by
    rcases h with ⟨_, a, _, _, _, h, _⟩ | ⟨_, a, _, _, _, h, _⟩
    · exact ⟨a, h⟩
    · exact ⟨a, h⟩
theorem bool_fin {K : PySem.W.Frag} {vs0 : List V} {σ : L2.St} {B H : Hp} {ρ : Env} {fs : Nat → List Addr} {Ts : List (List Addr)} {Q : VK} {b : Bool} (g : Good K vs0 B H σ ρ fs)
    (k : ∀ v B' H' fs' T, Fr B H (UnF (InF fs) Ts.flatten) B' H' (UnF (InF fs') T) → Good K vs0 B' H' σ ρ fs' → RsOk K B' H' σ fs' v (.own (.p (.bool b))) T → Q v H') : Q (.bl b) H :=
  k _ B H fs [] ((Fr.refl _ _ _).weak (fun _ h => h) fun a h => by
    rcases h with h | h
    · exact Or.inl (Or.inl h)
    · cases h) g ⟨⟨.bl b, rfl⟩, rfl, fun a ha => nomatch ha⟩
theorem rsAll2 {K : PySem.W.Frag} {B H : Hp} {σ : L2.St} {fs : Nat → List Addr} {r s : Rs} : ∀ {vs : List V} {Ts : List (List Addr)}, RsAll K B H σ fs vs [r, s] Ts → ∃ v w T U, vs = [v, w] ∧ RsOk K B H σ fs v r T ∧ RsOk K B H σ fs w s U
  | [v, w], [T, U], h => ⟨v, w, T, U, rfl, h.1, h.2.1⟩
  | [], _, h => h.elim
  | _ :: _, [], h => h.elim
  | [_], [_], h => h.2.elim
  | [_], _ :: _ :: _, h => h.2.elim
  | _ :: _ :: _, [_], h => h.2.elim
  | _ :: _ :: _ :: _, _ :: _ :: [], h => h.2.2.elim
  | _ :: _ :: [], _ :: _ :: _ :: _, h => h.2.2.elim
  | _ :: _ :: _ :: _, _ :: _ :: _ :: _, h => h.2.2.elim
theorem oIsnX0_ok {K : PySem.W.Frag} : OpOk K (r2 rIsnAll) oIsnX0 := by
  intro vs0 σ B H ρ fs vs rs Ts Q g ok nd r' ρ' e k
  unfold oIsnX0 at e
  split at e
  · rename_i c f
    cases e
    obtain ⟨v, w, T, U, rfl, h1, h2⟩ := rsAll2 ok
    obtain ⟨a, rfl⟩ := exIs_ref h1.1.1
    have hw : w = .non := by
      have := h2.1.1
      cases this
      rfl
    exact ⟨_, _, rfl, Or.inl ⟨hw, bool_fin (b := true) g k⟩⟩
  · exact oIsn_ok vs0 σ B H ρ fs vs _ Ts Q g ok nd r' ρ' e k
def WantX (K : PySem.W.Frag) (vs0 : List V) (W : WX) (D : Ends) (B H : Hp) (fs : Nat → List Addr) : OutS → Prop
  | .fl fl ρ' => Want K vs0 D B H fs fl ρ'
  | .exc c f ρ' => ∀ σ' B' H' fs' cls d, Fr B H (InF fs) B' H' (InF fs') → Good K vs0 B' H' σ' ρ' fs' → ExAt K B' c f cls d → W cls d σ' H'
section
variable {K : PySem.W.Frag} {vs0 : List V} {W : WX} {D : Ends} {B H B1 H1 : Hp} {fs fs1 : Nat → List Addr} {o : OutS} {ρ : Env}
theorem WantX.later (w : WantX K vs0 W D B H fs o) (fr : Fr B H (InF fs) B1 H1 (InF fs1)) : WantX K vs0 W D B1 H1 fs1 o := by
  cases o with
  | fl fl ρ' => exact Want.later (fl := fl) w fr
  | exc c f ρ' => exact fun σ2 B2 H2 fs2 cls d fr2 g2 x => w σ2 B2 H2 fs2 cls d (fr.trans fr2) g2 x
theorem rdSX_to {σ : L2.St} {g : SX} (q : rdSX K vs0 W g D σ H) : ∃ B ρ fs, Good K vs0 B H σ ρ fs ∧ ∃ o, g ρ = some o ∧ WantX K vs0 W D B H fs o := by
  obtain ⟨B, ρ, fs, gd, o, e, w⟩ := q
  refine ⟨B, ρ, fs, gd, o, e, ?_⟩
  cases o with
  | fl fl ρ' => cases fl <;> exact w
  | exc c f ρ' => exact w
end
end Pd
set_option Elab.async false
set_option linter.all false
set_option maxRecDepth 100000
set_option maxHeartbeats 1000000
namespace Pd
open PySem PySem.Spec PyProof.Rows L2
namespace B
section
variable {ρ : Env}
@[simp ↓] theorem ev_isnX0_ex {c : Str} {f : Option (Str × D)} {Q : Rs → Env → Prop} : Ev (oIsnX0 [.own (.ex c f), .own (.p .none)]) ρ Q ↔ Q (.own (.p (.bool true))) ρ := by
  constructor
  · rintro ⟨a, ρ', e, q⟩
    cases e
    exact q
  · exact fun q => ⟨_, _, rfl, q⟩
@[simp ↓] theorem ev_isnX0_p {d e : D} {Q : Rs → Env → Prop} : Ev (oIsnX0 [.own (.p d), .own (.p e)]) ρ Q ↔ resQ ρ Q (pIsn [d, e]) := by
  show Ev (oIsn _) ρ Q ↔ _
  rw [show oIsn = opG pIsn from rfl, ev_opG]
  rfl
end
end B
end Pd
set_option Elab.async false
set_option linter.all false
set_option maxRecDepth 100000
set_option maxHeartbeats 1000000
namespace Pd
open PySem PySem.Spec PyProof.Rows L2
section
variable {ρ : Env}
@[simp ↓] theorem ev_isnX0_ex {c : Str} {f : Option (Str × D)} {Q : Rs → Env → Prop} : Ev (oIsnX0 [.own (.ex c f), .own (.p .none)]) ρ Q ↔ Q (.own (.p (.bool true))) ρ := B.ev_isnX0_ex
@[simp ↓] theorem ev_isnX0_p {d e : D} {Q : Rs → Env → Prop} : Ev (oIsnX0 [.own (.p d), .own (.p e)]) ρ Q ↔ resQ ρ Q (pIsn [d, e]) := B.ev_isnX0_p
end
end Pd
set_option Elab.async false
set_option linter.all false
set_option maxRecDepth 100000
set_option maxHeartbeats 1000000
namespace Pd
open PySem PySem.Spec PyProof.Rows L2
theorem strAny {X : Cx} : CallR X (.type "str") (fun xs H Q => (∃ i, xs = [.int i] ∧ i.natAbs.log2 < 1920 ∧ Q (.str (toString i)) H) ∨ ∃ a, xs = [.str a] ∧ Q (.str a) H) := by
  intro pins s σ H xs us Q I r h
  rcases h with h | h
  · exact call_str_int pins s σ H xs us Q I r h
  · exact SkE.call_str_str pins s σ H xs us Q I r h
section
variable {X : Cx} {e : Expr} {es : List Expr} {ta : TA} {b : Str} {p1 p2 pos : Pos} {B : Addr}
theorem pe_ceinit {pl : Sem Bool} (hg : Gl X b) (hm : X.mg b = some (.ref B)) (hs : PySem.W.specialIn X.K (.ref B) "__getattribute__" = some (some (.builtin "type.__getattribute__"))) (hr : PySem.W.readsIn X.K B (.type "type") = true)
    (vV : PySem.W.findCls X.K (.ref B) (.type "type") "__init__" = some (.val (.builtin "ValueError.__init__"))) (ha : PA X (e :: es) ta) (hdb : (b == ("__debug__" : Str)) = false := by decide)
    (hc : eval (.Call (.Attribute (.Name b p1) "__init__" p2) (e :: es) [] pos) X.env = (do
      let ov ← eval (.Name b p1) X.env
      standAt p2.atName
      let (f, first) ← holding [ov] (getMethod ov "__init__" pl)
      callWith pos f first (backTo pos (starEach (e :: es) X.env)) (backToKw pos (keywordEach [] X.env))) := by rfl)
    (he : starEach (e :: es) X.env = (false, eval e X.env) :: starEach es X.env := by rfl) (hpl : (backTo pos (starEach es X.env)).any (·.1) = false := by rfl) :
    PE X (.Call (.Attribute (.Name b p1) "__init__" p2) (e :: es) [] pos) (tVeI X.K ta) := by
  refine ⟨fun pins s σ H Q I h => ?_⟩
  refine PySem.W.methodCall_KW (ld_glob I hg hm ?_ hdb) hc
  refine PySem.W.method_cls I.kIn hs ?_
  refine PySem.W.cls_value I.kIn hr vV (by decide +kernel) ?_
  show wpAny _ _ (callWith pos (Value.builtin "ValueError.__init__") [] (backTo pos (starEach (e :: es) X.env)) []) _ _ _
  refine PyProof.Rows.callWith_method1 (thn (ha.run pos pins _ σ H _ (I.tok _) h) fun us s1 ⟨vs, H1, I1, r1, a, C, ws, ev, hl, T, ea, q⟩ => ?_) he hpl
  subst ev
  cases r1 with
  | @cons _ u0 _ ur ra rw' =>
    obtain rfl : u0 = Value.ref a := ra
    have hlen : ur.length ≤ sizeLine := by
      rw [← Paired.length rw', sizeLine_eq]
      omega
    exact oinit_ok T I1 ea hlen fun s' J => ⟨.non, H1, J, rfl, q⟩
end
def KeepV (v : V) : Prop := (∃ i : Int, v = .int i ∧ 0 ≤ i ∧ i < 10 ^ 10) ∨ ∃ s : Str, v = .str s ∧ s.length ≤ 1000
def spI (K : PySem.W.Frag) (C : Addr) (f : Str) : L2.Sp := fun vs H Q E => ∃ a v, vs = [.ref a, v] ∧ KeepV v ∧ OexC K C ∧ PySem.W.findIn K (.ref C) f = some none ∧ H a = some (exo a C none) ∧ ∀ dx, H dx = none → dx ≠ a → Q .non (upd (upd H dx (exd dx [(f, v)])) a (exo a C (some dx)))
structure ExcI (P : Program) (w : World) (K : PySem.W.Frag) (mg : Str → Option Value) (base : Heap) (k : Nat) (c f : Str) : Prop where
  ex : ∃ C fI fd ps, PySem.W.nsIn K mainGlobals c = some (some (.ref C)) ∧ mg c = some (.ref C) ∧ OexC K C ∧ PySem.W.findIn K (.ref C) f = some none ∧ PySem.W.findIn K (.ref C) "__init__" = some (some (.ref fI)) ∧ PySem.W.typeIn K (.ref fI) = some (.type "function") ∧
    FnOk P w K mg base CX0 k fI fd ps (spI K C f) ∧ Binds K fd ps []
theorem log2_small {i : Int} (h0 : 0 ≤ i) (h : i < 10 ^ 10) : i.natAbs.log2 < 1920 := by
  by_cases e : i.natAbs = 0
  · rw [e]; decide
  · rw [Nat.log2_lt e]
    have h1 : i.natAbs < 10 ^ 10 := by omega
    exact Nat.lt_of_lt_of_le h1 (Nat.le_trans (by decide : 10 ^ 10 ≤ 2 ^ 34) (Nat.pow_le_pow_right (by decide) (by decide)))
theorem keep_len {i : Int} (h0 : 0 ≤ i) (h1 : i < 10 ^ 10) : (Str.ofString (toString i)).length ≤ 1000 := Nat.le_trans (PySem.W.KT.len_num h0 h1) (by decide)
def xRaiseI (c f : Str) (fe : M Rs) : SX := fun ρ => match fe ρ with
  | some (.ok r ρ') => match r.view ρ' with
    | some (.int i) => if 0 ≤ i ∧ i < 10000000000 ∧ c ≠ "tuple" then some (.exc c (some (f, .int i)) ρ') else none
    | some (.str s) => if s.length ≤ 1000 ∧ c ≠ "tuple" then some (.exc c (some (f, .str s)) ρ') else none
    | _ => none
  | none => none
theorem del_upd {H1 : Hp} {a dx : Addr} {o1 o2 o3 o4 : HO} (ha : H1 a = none) (hd : dx ≠ a) : upd (L2.del (upd (upd (upd H1 a o1) dx o2) a o4) a) dx o3 = upd H1 dx o3 := by
  funext b
  by_cases h : b = dx
  · rw [h, upd_same, upd_same]
  · rw [upd_ne h, upd_ne h]
    by_cases h2 : b = a
    · rw [h2, del_same, ha]
    · rw [del_ne h2, upd_ne h2, upd_ne h, upd_ne h2]
section
variable {X : Cx} {vs0 : List V} {W : WX}
theorem rd_raiseI {K : PySem.W.Frag} {c f : Str} {C : Addr} {fe : M Rs} {De : Ends} {σ : L2.St} {H : Hp} (hC : PySem.W.nsIn K mainGlobals c = some (some (.ref C))) (hT : OexC K C) (no : PySem.W.findIn K (.ref C) f = some none) (q : rdSX K vs0 W (xRaiseI c f fe) De σ H) :
    tMkO C (spI K C f) [] (tCons (rdE K vs0 fe) tNil) σ H fun cls d H' => W cls d σ H' := by
  obtain ⟨B, ρ, fs, gd, o, e, w⟩ := rdSX_to q
  unfold xRaiseI at e
  split at e
  · rename_i r ρ1 e1
    refine ⟨B, ρ, fs, gd, r, ρ1, e1, fun v B1 H1 fs1 T1 fr1 g1 ok => ?_⟩
    have main : ∀ d : D, KeepV v → (∀ B, Dp K B v d) → c ≠ "tuple" → o = .exc c (some (f, d)) ρ1 → tNil σ H1 fun xs H2 => (fun vs H1 => vs.length ≤ 1000 ∧ ∀ a, H1 a = none → spI K C f (.ref a :: (vs ++ [])) (upd H1 a (exo a C none))
        (fun v H2 => v = .non ∧ ∃ (d : Addr) (fs : List (Str × V)), H2 a = some (exo a C (some d)) ∧ H2 d = some (exd d fs) ∧ H1 d = none ∧ (fun cls d H' => W cls d σ H') (.ref C) (some d) (upd (L2.del H2 a) d (.xd fs))) (fun _ _ _ => False)) (v :: xs) H2 := by
      intro d kv dp ht eo
      subst eo
      refine ⟨by simp, fun a ha => ⟨a, v, rfl, kv, hT, no, upd_same, fun dx hdx hne => ⟨rfl, dx, [(f, v)], upd_same, by rw [upd_ne hne, upd_same], by rw [upd_ne hne] at hdx; exact hdx, ?_⟩⟩⟩
      have hdx' : H1 dx = none := by rw [upd_ne hne] at hdx; exact hdx
      show W (.ref C) (some dx) σ (upd (L2.del (upd (upd (upd H1 a (exo a C none)) dx (exd dx [(f, v)])) a (exo a C (some dx))) a) dx (.xd [(f, v)]))
      rw [del_upd ha hne]
      have fr2 := Fr.new (o := .xd [(f, v)]) hdx' g1.ext
      have g2 := g1.grow fr2 (fun _ _ z => z) (same_upd g1.ext)
      refine w σ _ _ fs1 (.ref C) (some dx) (fr_drop fr1 |>.trans (fr2.weak (fun _ z => z.elim) fun b h => Or.inr (Or.inl h))) g2 ⟨ht, C, dx, v, rfl, hC, rfl, upd_same, dp _⟩
    split at e
    · rename_i i hv
      split at e
      · rename_i hc
        cases e
        have hs := (view_ok g1 ok hv).int
        exact main (.int i) (Or.inl ⟨i, hs, hc.1, by omega⟩) (fun B => by rw [hs]; exact .int i) hc.2.2 rfl
      · cases e
    · rename_i s hv
      split at e
      · rename_i hc
        cases e
        have hs := (view_ok g1 ok hv).str
        exact main (.str s) (Or.inr ⟨s, hs, hc.1⟩) (fun B => by rw [hs]; exact .str s) hc.2 rfl
      · cases e
    · cases e
  · cases e
theorem dx_raiseI {c f : Str} {p pos pos' : Pos} {e : Expr} {fe : M Rs} {k : Nat} (hc : X.calm = true) (tk : Takes X W) (T : ExcI X.prog X.w X.K X.mg X.base k c f) (hr : Room (k + 1) X.A) (hg : Gl X c) (he : PE X e (rdE X.K vs0 fe)) (hdb : (c == ("__debug__" : Str)) = false := by decide)
    (hs : starEach [e] X.env = (false, eval e X.env) :: starEach [] X.env := by rfl) (hpl : (backTo pos (starEach [] X.env)).any (·.1) = false := by rfl) :
    PS X (.Raise (some (.Call (.Name c p) [e] [] pos)) none pos') (rdSX X.K vs0 W (xRaiseI c f fe)) := by
  obtain ⟨C, fI, fd, ps, hC, gC, hT, no, iC, tI, Fn, hb⟩ := T.ex
  exact PS.imp (ps_raise hc tk (pmk_oex hT iC tI Fn hr hb .nil pass0 hg gC (pa_cons he pa_nil hs) hdb hs hpl)) fun D σ H q => rd_raiseI hC hT no q
end
def eXAt (f : Str) (cs : List Str) (fe : M Rs) : M Rs := M.bind fe fun r ρ => match r with
  | .own (.ex c (some (x, d))) => if c ∈ cs ∧ x = f then some (.ok (.own (.p d)) ρ) else none
  | _ => none
structure AtX (K : PySem.W.Frag) (f : Str) (cs : List Str) : Prop where
  nt : ("tuple" : Str) ∉ cs
  at_ : ∀ c ∈ cs, ∀ C, PySem.W.nsIn K mainGlobals c = some (some (.ref C)) → XfC K C ∧ PySem.W.findIn K (.ref C) f = some none
section
variable {X : Cx} {vs0 : List V} {W : WX}
theorem pe_xat {e : Expr} {te : TE} {pos : Pos} {n : Str} (he : PE X e te) (hb : attributeBase e n X.env (eval e X.env) = eval e X.env := by rfl) :
    PE X (.Attribute e n pos) (fun σ H Q => te σ H fun x H1 => ∃ a C dd fs v, x = .ref a ∧ H1 a = some (ExV (.ref C) (some dd) a) ∧ XfC X.K C ∧ PySem.W.findIn X.K (.ref C) n = some none ∧ H1 dd = some (.xd fs) ∧ fs.lookup n = some v ∧ Q v H1) := by
  refine ⟨fun pins s σ H Q I h => ?_⟩
  refine attr_of hb (thn (he.run pins s σ H _ I h) fun u s1 hh => ?_)
  obtain ⟨x, H1, I1, rx, a, C, dd, fs, v, ex, eo, T, hno, ea, l, q⟩ := hh
  subst ex
  obtain rfl : u = Value.ref a := rx
  obtain ⟨⟨⟨oc, od0, oda, osl⟩, vs, h1, h2, h3, h4⟩, _⟩ := I1.hok a _ eo
  dsimp only at h2 h3 h4
  subst h2 h3 h4
  have hx : ObjOk X.prog X.w H1 s1.heap dd (.xd fs) := I1.hok dd _ ea
  obtain ⟨mA, hns, hr⟩ := hx
  obtain ⟨od, ho, hl⟩ := lookIn_ns hns
  obtain ⟨u, hu, ru⟩ := RelO.some_of (v := v) (o := mA n) (by rw [← l]; exact hr n)
  have J : PySem.W.InstAt s1.heap a _ C (some od) := ⟨h1, rfl, rfl, ho⟩
  exact HandSPX.exc_get I1.kIn J T.ga T.gg T.exC (PySem.W.findObj_own T.hdC hno rfl (by rw [hl, hu])) (handed_of ru) ⟨v, H1, I1.tok _, ru, q⟩
theorem de_xat {e : Expr} {fe : M Rs} {pos : Pos} {n : Str} {cs : List Str} (T : AtX X.K n cs) (he : PE X e (rdE X.K vs0 fe)) (hb : attributeBase e n X.env (eval e X.env) = eval e X.env := by rfl) : PE X (.Attribute e n pos) (rdE X.K vs0 (eXAt n cs fe)) :=
  PE.imp (pe_xat he hb) fun σ H Q q => by
    obtain ⟨B, ρ, fs', g, r', ρ', e, k⟩ := q
    obtain ⟨r, ρ1, e0, e1⟩ := M.bind_ok e
    refine ⟨B, ρ, fs', g, r, ρ1, e0, fun v B1 H1 fs1 T1 fr1 g1 ok => ?_⟩
    split at e1
    · rename_i c x d
      split at e1
      · rename_i hm
        cases e1
        obtain ⟨⟨h0, h1⟩, _, _⟩ := ok
        subst h1
        obtain ⟨hc, rfl⟩ := hm
        rcases h0 with ⟨_, a, C, dx, u, q1, q2, q3, q4, q5⟩ | ⟨z, _⟩
        · obtain ⟨t1, t2⟩ := T.at_ c hc C q2
          exact ⟨a, C, dx, _, u, q1, g1.ext _ _ q3, t1, t2, g1.ext _ _ q4, by simp [List.lookup], k u B1 H1 fs1 [] fr1 g1 ⟨⟨q5, rfl⟩, rfl, fun a ha => nomatch ha⟩⟩
        · exact (T.nt (z ▸ hc)).elim
      · cases e1
    · cases e1
end
theorem refs1 {c : Addr} : PySem.HandSPX.refsVE [.ref c, .type "ValueError", .type "Exception", .type "BaseException", .type "object"] = true := by
  show PySem.HandSPX.refsVE [.type "ValueError", .type "Exception", .type "BaseException", .type "object"] = true
  decide +kernel
end Pd
set_option Elab.async false
set_option linter.all false
set_option maxRecDepth 100000
set_option maxHeartbeats 1000000
namespace Pd
open PySem PySem.Spec PyProof.Rows L2
namespace B
section
variable {ρ : Env}
def raiQ (c f : Str) (Q : OutS → Prop) (ρ : Env) : Option D → Prop
  | some (.int i) => (0 ≤ i ∧ i < 10000000000 ∧ c ≠ "tuple") ∧ Q (.exc c (some (f, .int i)) ρ)
  | some (.str s) => (s.length ≤ 1000 ∧ c ≠ "tuple") ∧ Q (.exc c (some (f, .str s)) ρ)
  | _ => False
@[simp] theorem raiQ_i {c f : Str} {Q : OutS → Prop} {i : Int} : raiQ c f Q ρ (some (.int i)) = ((0 ≤ i ∧ i < 10000000000 ∧ c ≠ "tuple") ∧ Q (.exc c (some (f, .int i)) ρ)) := rfl
@[simp] theorem raiQ_s {c f : Str} {Q : OutS → Prop} {s : Str} : raiQ c f Q ρ (some (.str s)) = ((s.length ≤ 1000 ∧ c ≠ "tuple") ∧ Q (.exc c (some (f, .str s)) ρ)) := rfl
@[simp ↓] theorem evS_raiseI {c f : Str} {fe : M Rs} {Q : OutS → Prop} : EvS (xRaiseI c f fe) ρ Q ↔ Ev fe ρ fun r ρ1 => raiQ c f Q ρ1 (r.view ρ1) := by
  constructor
  · rintro ⟨o, e, q⟩
    unfold xRaiseI at e
    split at e
    · rename_i r ρ1 h
      refine ⟨r, ρ1, h, ?_⟩
      split at e
      · rename_i i hv
        split at e
        · rename_i hc
          cases e
          rw [hv]
          exact ⟨hc, q⟩
        · cases e
      · rename_i s hv
        split at e
        · rename_i hc
          cases e
          rw [hv]
          exact ⟨hc, q⟩
        · cases e
      · cases e
    · cases e
  · rintro ⟨r, ρ1, h, q⟩
    unfold raiQ at q
    split at q
    · rename_i i hv
      exact ⟨_, by unfold xRaiseI; rw [h]; dsimp only; rw [hv]; exact if_pos q.1, q.2⟩
    · rename_i s hv
      exact ⟨_, by unfold xRaiseI; rw [h]; dsimp only; rw [hv]; exact if_pos q.1, q.2⟩
    · exact q.elim
def xatQ (f : Str) (cs : List Str) (Q : Rs → Env → Prop) (ρ : Env) : Rs → Prop
  | .own (.ex c (some (x, d))) => (c ∈ cs ∧ x = f) ∧ Q (.own (.p d)) ρ
  | _ => False
@[simp ↓] theorem xatQ_x {f c x : Str} {d : D} {cs : List Str} {Q : Rs → Env → Prop} : xatQ f cs Q ρ (.own (.ex c (some (x, d)))) = ((c ∈ cs ∧ x = f) ∧ Q (.own (.p d)) ρ) := rfl
@[simp ↓] theorem ev_xat {f : Str} {cs : List Str} {fe : M Rs} {Q : Rs → Env → Prop} : Ev (eXAt f cs fe) ρ Q ↔ Ev fe ρ fun r ρ1 => xatQ f cs Q ρ1 r := by
  constructor
  · rintro ⟨r, ρ', e, q⟩
    obtain ⟨r0, ρ1, e0, e1⟩ := M.bind_ok e
    refine ⟨r0, ρ1, e0, ?_⟩
    split at e1
    · rename_i c x d
      show (c ∈ cs ∧ x = f) ∧ _
      split at e1
      · rename_i h
        cases e1
        exact ⟨h, q⟩
      · cases e1
    · cases e1
  · rintro ⟨r0, ρ1, e0, q⟩
    unfold xatQ at q
    split at q
    · rename_i c x d
      exact ⟨_, _, by unfold eXAt M.bind; rw [e0]; exact if_pos q.1, q.2⟩
    · exact q.elim
end
end B
end Pd
set_option Elab.async false
set_option linter.all false
set_option maxRecDepth 100000
set_option maxHeartbeats 1000000
namespace Pd
open PySem PySem.Spec PyProof.Rows L2
section
variable {ρ : Env}
def raiQ (c f : Str) (Q : OutS → Prop) [Fx Q] (ρ : Env) (o0 : Option D) : Prop := B.raiQ c f Q ρ o0
@[simp] theorem raiQ_i {c f : Str} {Q : OutS → Prop} {i : Int} : raiQ c f Q ρ (some (.int i)) = ((0 ≤ i ∧ i < 10000000000 ∧ c ≠ "tuple") ∧ Q (.exc c (some (f, .int i)) ρ)) := B.raiQ_i
@[simp] theorem raiQ_s {c f : Str} {Q : OutS → Prop} {s : Str} : raiQ c f Q ρ (some (.str s)) = ((s.length ≤ 1000 ∧ c ≠ "tuple") ∧ Q (.exc c (some (f, .str s)) ρ)) := B.raiQ_s
@[simp ↓] theorem evS_raiseI {c f : Str} {fe : M Rs} {Q : OutS → Prop} : EvS (xRaiseI c f fe) ρ Q ↔ Ev fe ρ fun r ρ1 => raiQ c f Q ρ1 (r.view ρ1) := B.evS_raiseI
def xatQ (f : Str) (cs : List Str) (Q : Rs → Env → Prop) [Fx Q] (ρ : Env) (o0 : Rs) : Prop := B.xatQ f cs Q ρ o0
@[simp ↓] theorem xatQ_x {f c x : Str} {d : D} {cs : List Str} {Q : Rs → Env → Prop} : xatQ f cs Q ρ (.own (.ex c (some (x, d)))) = ((c ∈ cs ∧ x = f) ∧ Q (.own (.p d)) ρ) := B.xatQ_x
@[simp ↓] theorem ev_xat {f : Str} {cs : List Str} {fe : M Rs} {Q : Rs → Env → Prop} : Ev (eXAt f cs fe) ρ Q ↔ Ev fe ρ fun r ρ1 => xatQ f cs Q ρ1 r := B.ev_xat
end
end Pd
set_option Elab.async false
set_option linter.all false
set_option maxRecDepth 100000
set_option maxHeartbeats 1000000
set_option Elab.async false
set_option linter.all false
set_option maxRecDepth 100000
set_option maxHeartbeats 1000000
set_option Elab.async false
set_option linter.all false
set_option maxRecDepth 100000
set_option maxHeartbeats 1000000
set_option Elab.async false
set_option linter.all false
set_option maxRecDepth 100000
set_option maxHeartbeats 1000000
namespace Pd
open PySem PySem.Spec PyProof.Rows L2
def Sl.flat : Sl → Bool
  | .p _ => true
  | .ex _ _ => true
  | .fd _ => true
  | _ => false
def Sl.big : Sl → Bool
  | .ml _ _ => true
  | .md _ _ => true
  | .mr _ _ => true
  | .ob _ _ _ _ => true
  | _ => false
theorem Own.flatT {K : PySem.W.Frag} {B H : Hp} {v : V} {s : Sl} {T : List Addr} (h : Own K B H v s T) (f : s.flat = true) : T = [] ∧ s.tag = none ∧ ∀ B' H', Same B B' → Own K B' H' v s [] := by
  cases s with
  | p d => exact ⟨h.2, rfl, fun B' H' e => ⟨Dp.mono e h.1, rfl⟩⟩
  | ex c x => exact ⟨h.2, rfl, fun B' H' e => ⟨ExIs.mono e h.1, rfl⟩⟩
  | ml _ _ => cases f
  | md _ _ => cases f
  | mr _ _ => cases f
  | ob _ _ _ _ => cases f
  | fd l =>
    obtain ⟨⟨a, ks, od, h1, h2, h3⟩, h4⟩ := h
    exact ⟨h4, rfl, fun B' H' e => ⟨⟨a, ks, od, h1, e a _ h2, h3.mono e⟩, rfl⟩⟩
  | hl _ => cases f
  | tp _ => cases f
def pickM (l : List Sl) : Option D → Option (Nat × Sl)
  | some (.int m) => (ixN l.length m).bind fun q => (l[q]?).map fun c => (q, c)
  | _ => none
theorem pickM_some {l : List Sl} {i : Option D} {q : Nat} {c : Sl} (h : pickM l i = some (q, c)) : ∃ m, i = some (.int m) ∧ ixN l.length m = some q ∧ l[q]? = some c := by
  unfold pickM at h
  split at h
  · rename_i m
    obtain ⟨q', h1, h2⟩ := Option.bind_eq_some_iff.mp h
    obtain ⟨c', h3, h4⟩ := Option.map_eq_some_iff.mp h2
    cases h4
    exact ⟨m, rfl, h1, h3⟩
  · cases h
noncomputable def oIxM : List Rs → M Rs := fun rs ρ => match rs with
  | [.bor j, i] => match ρ[j]? with
    | some (some (.mr t l)) => match pickM l (i.view ρ) with
      | some (q, c) => if c.flat = true then some (.ok (.own c) ρ) else if c.big = true then some (.ok (.lent j (.mr t l) [q]) (ρ.set j (some (.hl t)))) else none
      | none => none
    | _ => oIx [.bor j, i] ρ
  | [.lent j w ks, i] => match w.kid ks with
    | some (.mr tg l) => match ρ[j]?, pickM l (i.view ρ) with
      | some (some (.hl t)), some (q, c) => if c.flat = true then some (.ok (.own c) (ρ.set j (some (w.retag t)))) else if c.big = true then some (.ok (.lent j w (ks ++ [q])) ρ) else none
      | _, _ => none
    | _ => oIxA [.lent j w ks, i] ρ
  | rs => oIx rs ρ
section
variable {K : PySem.W.Frag} {vs0 : List V} {B H : Hp} {σ : L2.St} {ρ : Env} {fs : Nat → List Addr}
theorem Kid.snoc {H : Hp} : ∀ {ks : List Nat} {v0 v w : V} {s c d : Sl} {q : Nat}, Kid H v0 s ks v → s.kid ks = some c → Kid1 H v c q w → c.kid1 q = some d → Kid H v0 s (ks ++ [q]) w
  | [], v0, v, w, s, c, d, q, h, e, k1, e1 => by
    cases e
    cases (show v = v0 from h)
    exact ⟨w, d, k1, e1, rfl⟩
  | k :: ks, v0, v, w, s, c, d, q, h, e, k1, e1 => by
    obtain ⟨v1, c1, a1, a2, a3⟩ := h
    rw [Sl.kid_cons, a2] at e
    exact ⟨v1, c1, a1, a2, Kid.snoc a3 e k1 e1⟩
theorem rsAll_two {r s : Rs} {vs : List V} {Ts : List (List Addr)} (h : RsAll K B H σ fs vs [r, s] Ts) : ∃ v w T U, vs = [v, w] ∧ Ts = [T, U] ∧ RsOk K B H σ fs v r T ∧ RsOk K B H σ fs w s U := by
  match vs, Ts, h with
  | [v, w], [T, U], h => exact ⟨v, w, T, U, rfl, rfl, h.1, h.2.1⟩
  | [], _, h => exact h.elim
  | _ :: _, [], h => exact h.elim
  | [_], [_], h => exact h.2.elim
  | [_], _ :: _ :: _, h => exact h.2.elim
  | _ :: _ :: _, [_], h => exact h.2.elim
  | _ :: _ :: _ :: _, _ :: _ :: [], h => exact h.2.2.elim
  | _ :: _ :: [], _ :: _ :: _ :: _, h => exact h.2.2.elim
  | _ :: _ :: _ :: _, _ :: _ :: _ :: _, h => exact h.2.2.elim
theorem oIxM_ok : OpOk K (r2 (rIx K)) oIxM := by
  intro vs0 σ B H ρ fs vs rs Ts Q g ok nd r' ρ' e k
  unfold oIxM at e
  split at e
  · rename_i j i
    split at e
    · rename_i t l e0
      split at e
      · rename_i q c hp
        obtain ⟨m, hi, hq, hc⟩ := pickM_some hp
        obtain ⟨v, w, T, U, rfl, rfl, o1, o2⟩ := rsAll_two ok
        have hw := (view_ok g o2 hi).int
        obtain ⟨v0, h1, h2, _⟩ := g.at_ j _ e0
        obtain ⟨hb, rfl⟩ := o1
        rw [h1] at hb
        cases hb
        have hown := h2
        obtain ⟨a, xs, Ts', rfl, eT, q2, q3, q4⟩ := h2
        obtain ⟨vq, Tq, w1, w2, w3⟩ := OwnL.get q3 hc
        have hl : xs.length = l.length := by
          have : ∀ {ss : List Sl} {vs : List V} {Ts : List (List Addr)}, OwnL K B H vs ss Ts → vs.length = ss.length := by
            intro ss
            induction ss with
            | nil =>
              intro vs Ts h
              cases vs with
              | nil => rfl
              | cons _ _ => cases Ts <;> exact h.elim
            | cons s ss ih =>
              intro vs Ts h
              cases vs with
              | nil => exact h.elim
              | cons v vs =>
                cases Ts with
                | nil => exact h.elim
                | cons T Ts => rw [List.length_cons, List.length_cons, ih h.2]
          exact this q3
        have hat : atI xs m = some vq := by
          unfold atI
          rw [hl, hq]
          exact w1
        refine ⟨_, _, rfl, Or.inl ⟨a, xs, m, vq, rfl, hw, SqL.of q2, hat, ?_⟩⟩
        split at e
        · rename_i hf
          cases e
          obtain ⟨f1, f2, f3⟩ := w3.flatT hf
          exact k vq B H fs [] ((Fr.refl _ _ _).weak (fun _ h => h) fun b h => by
            rcases h with h | h
            · exact Or.inl (Or.inl h)
            · cases h) g ⟨f3 B H (Same.refl B), f2, fun b hb => nomatch hb⟩
        · split at e
          · cases e
            refine k vq B H (fun z => if z = j then [] else fs z) (fs j) ((Fr.refl _ _ _).weak (fun _ h => h) fun b hb => Or.inl (Or.inl ?_)) (g.hole e0) ⟨⟨.ref a, h1, hown, vq, c, ⟨a, xs, rfl, q2, w1⟩, hc, rfl⟩, fun b hb => ⟨g.out j b hb, fun z hz => ?_⟩⟩
            · rcases hb with ⟨z, hb⟩ | hb
              · dsimp only at hb
                by_cases zz : z = j
                · rw [if_pos zz] at hb; cases hb
                · rw [if_neg zz] at hb; exact ⟨z, hb⟩
              · exact ⟨j, hb⟩
            · dsimp only at hz
              by_cases zz : z = j
              · rw [if_pos zz] at hz; cases hz
              · rw [if_neg zz] at hz; exact zz (g.dis z j b hz hb)
          · cases e
      · cases e
    · exact oIx_ok vs0 σ B H ρ fs vs _ Ts Q g ok nd r' ρ' e k
  · rename_i j w ks i
    split at e
    · rename_i tg l e0
      split at e
      · rename_i t q c hh hp
        obtain ⟨m, hi, hq, hc⟩ := pickM_some hp
        obtain ⟨v, u, T, U, rfl, rfl, o1, o2⟩ := rsAll_two ok
        have hw := (view_ok g o2 hi).int
        obtain ⟨⟨v0, z1, z2, z3⟩, z4⟩ := o1
        obtain ⟨Tk, y1, y2, y3⟩ := z2.kid z3 e0
        obtain ⟨a, xs, Ts', rfl, rfl, q2, q3, q4⟩ := y1
        obtain ⟨vq, Tq, w1, w2, w3⟩ := OwnL.get q3 hc
        have hl : xs.length = l.length := by
          have : ∀ {ss : List Sl} {vs : List V} {Ts : List (List Addr)}, OwnL K B H vs ss Ts → vs.length = ss.length := by
            intro ss
            induction ss with
            | nil =>
              intro vs Ts h
              cases vs with
              | nil => rfl
              | cons _ _ => cases Ts <;> exact h.elim
            | cons s ss ih =>
              intro vs Ts h
              cases vs with
              | nil => exact h.elim
              | cons v vs =>
                cases Ts with
                | nil => exact h.elim
                | cons T Ts => rw [List.length_cons, List.length_cons, ih h.2]
          exact this q3
        have hat : atI xs m = some vq := by
          unfold atI
          rw [hl, hq]
          exact w1
        refine ⟨_, _, rfl, Or.inl ⟨a, xs, m, vq, rfl, hw, SqL.of q2, hat, ?_⟩⟩
        split at e
        · rename_i hf
          cases e
          obtain ⟨f1, f2, f3⟩ := w3.flatT hf
          have hjl : j < ρ.length := (List.getElem?_eq_some_iff.mp hh).1
          obtain ⟨vj, hj1, _, hj3⟩ := g.at_ j _ hh
          have g2 := g.put (i := j) hjl (z2.retag' (t := t)) (fun kk hk => by
            rw [z1] at hj1
            cases hj1
            exact hj3 kk (Sl.retag_tag hk)) fun b hb => ⟨(z4 b hb).1, fun z _ => (z4 b hb).2 z⟩
          have es : σ.set j (some v0) = σ := by
            apply List.ext_getElem?
            intro z
            by_cases zz : z = j
            · subst zz
              rw [List.getElem?_set_self (List.getElem?_eq_some_iff.mp z1).1, z1]
            · rw [List.getElem?_set_ne (Ne.symm zz)]
          rw [es] at g2
          refine k vq B H _ [] ((Fr.refl _ _ _).weak (fun _ h => h) fun b hb => ?_) g2 ⟨f3 B H (Same.refl B), f2, fun b hb => nomatch hb⟩
          rcases hb with ⟨z, hb⟩ | hb
          · dsimp only at hb
            by_cases zz : z = j
            · rw [if_pos zz] at hb
              exact Or.inl (Or.inr (by rw [List.flatten_cons]; exact List.mem_append_left _ hb))
            · rw [if_neg zz] at hb; exact Or.inl (Or.inl ⟨z, hb⟩)
          · cases hb
        · split at e
          · cases e
            refine k vq B H fs T ((Fr.refl _ _ _).weak (fun _ h => h) fun b hb => ?_) g ⟨⟨v0, z1, z2, Kid.snoc z3 e0 ⟨a, xs, rfl, q2, w1⟩ hc⟩, z4⟩
            rcases hb with hb | hb
            · exact Or.inl (Or.inl hb)
            · exact Or.inl (Or.inr (by rw [List.flatten_cons]; exact List.mem_append_left _ hb))
          · cases e
      · cases e
    · exact oIxA_ok vs0 σ B H ρ fs vs _ Ts Q g ok nd r' ρ' e k
  · exact oIx_ok vs0 σ B H ρ fs vs _ Ts Q g ok nd r' ρ' e k
end
end Pd
set_option Elab.async false
set_option linter.all false
set_option maxRecDepth 100000
set_option maxHeartbeats 1000000
namespace Pd
open PySem PySem.Spec PyProof.Rows L2
def takeAll : List Rs → M (List Sl)
  | [] => M.ret []
  | r :: rs => M.bind (takeR r) fun s => M.bind (takeAll rs) fun ss => M.ret (s :: ss)
def noTags : List Sl → Bool
  | [] => true
  | s :: r => s.tag.isNone && noTags r
section
variable {K : PySem.W.Frag} {vs0 : List V} {B H : Hp} {σ : L2.St}
theorem takeAll_ok : ∀ {rs : List Rs} {vs : List V} {Ts : List (List Addr)} {ρ : Env} {fs : Nat → List Addr} {ss : List Sl} {ρ' : Env}, Good K vs0 B H σ ρ fs → RsAll K B H σ fs vs rs Ts → Ts.flatten.Nodup → takeAll rs ρ = some (.ok ss ρ') →
    ∃ fs' Us, Good K vs0 B H σ ρ' fs' ∧ OwnL K B H vs ss Us ∧ Us.flatten.Nodup ∧ (∀ a ∈ Us.flatten, B a = none ∧ ∀ i, a ∉ fs' i) ∧ (∀ a, UnF (InF fs') Us.flatten a → UnF (InF fs) Ts.flatten a)
  | [], [], [], ρ, fs, ss, ρ', g, ok, nd, e => by
    cases e
    exact ⟨fs, [], g, True.intro, List.nodup_nil, fun a h => (by simp at h), fun a h => h⟩
  | r :: rs, v :: vs, T :: Ts, ρ, fs, ss, ρ', g, ok, nd, e => by
    obtain ⟨s, ρ1, e1, e2⟩ := M.bind_ok e
    obtain ⟨sr, ρ2, e3, e4⟩ := M.bind_ok e2
    cases e4
    obtain ⟨fs1, T1, g1, o1, t1, n1, s1, _⟩ := takeR_ok g ok.1 e1
    rw [List.flatten_cons, List.nodup_append] at nd
    have off := RsAll.off ok.2
    have nT : ∀ a ∈ Ts.flatten, ¬ UnF (InF fs) T a := fun a ha h => by
      rcases h with h | h
      · exact off a ha h
      · exact nd.2.2 a h a ha rfl
    have ok2 : RsAll K B H σ fs1 vs rs Ts := RsAll.keep ((Fr.refl B H (UnF (InF fs) T)).weak (G' := UnF (InF fs1) T1) (fun a h => h) fun a h => Or.inl (s1 a h)) (fun a h => Or.inl h) ok.2 nT
    obtain ⟨fs2, Us, g2, o2, nd2, n2, s2⟩ := takeAll_ok g1 ok2 nd.2.1 e3
    have dis : ∀ a ∈ T1, a ∉ Us.flatten ∧ ∀ i, a ∉ fs2 i := fun a ha => by
      have key : ¬ UnF (InF fs1) Ts.flatten a := fun h => by
        rcases h with ⟨j, h⟩ | h
        · exact (n1 a ha).2 j h
        · exact nT a h (s1 a (Or.inr ha))
      exact ⟨fun h => key (s2 a (Or.inr h)), fun i h => key (s2 a (Or.inl ⟨i, h⟩))⟩
    refine ⟨fs2, T1 :: Us, g2, ⟨o1, o2⟩, ?_, fun a ha => ?_, fun a h => ?_⟩
    · rw [List.flatten_cons, List.nodup_append]
      exact ⟨o1.nodup, nd2, fun a ha b hb e => (dis a ha).1 (e ▸ hb)⟩
    · rw [List.flatten_cons, List.mem_append] at ha
      rcases ha with ha | ha
      · exact ⟨(n1 a ha).1, (dis a ha).2⟩
      · exact n2 a ha
    · have lift : UnF (InF fs1) Ts.flatten a → UnF (InF fs) (T :: Ts).flatten a := fun h => by
        rw [List.flatten_cons]
        rcases h with h | h
        · rcases s1 a (Or.inl h) with q | q
          · exact Or.inl q
          · exact Or.inr (List.mem_append_left _ q)
        · exact Or.inr (List.mem_append_right _ h)
      rcases h with h | h
      · exact lift (s2 a (Or.inl h))
      · rw [List.flatten_cons, List.mem_append] at h
        rcases h with h | h
        · rw [List.flatten_cons]
          rcases s1 a (Or.inr h) with q | q
          · exact Or.inl q
          · exact Or.inr (List.mem_append_left _ q)
        · exact lift (s2 a (Or.inr h))
  | [], [], _ :: _, _, _, _, _, _, h, _, _ => h.elim
  | [], _ :: _, _, _, _, _, _, _, h, _, _ => h.elim
  | _ :: _, [], _, _, _, _, _, _, h, _, _ => h.elim
  | _ :: _, _ :: _, [], _, _, _, _, _, h, _, _ => h.elim
end
def oLstM (fa : M (List Rs)) : M Rs := M.bind fa fun rs => M.bind (takeAll rs) fun ss ρ => if noTags ss = true ∧ ss.length ≤ sizeLine then some (.ok (.own (.mr none ss)) ρ) else none
theorem ownL_len {K : PySem.W.Frag} {B H : Hp} : ∀ {ss : List Sl} {vs : List V} {Ts : List (List Addr)}, OwnL K B H vs ss Ts → vs.length = ss.length
  | [], [], [], _ => rfl
  | s :: ss, v :: vs, T :: Ts, h => by rw [List.length_cons, List.length_cons, ownL_len h.2]
  | [], [], _ :: _, h => h.elim
  | [], _ :: _, _, h => h.elim
  | _ :: _, [], _, h => h.elim
  | _ :: _, _ :: _, [], h => h.elim
section
variable {X : Cx} {vs0 : List V} {es : List Expr} {fa : M (List Rs)} {pos : Pos}
theorem de_lstM (ha : PA X es (rdA X.K vs0 fa)) : PE X (.List es pos) (rdE X.K vs0 (oLstM fa)) := PE.imp (pe_lst ha) fun σ H Q q => by
  obtain ⟨B, ρ, fs, g, r, ρ', e, k⟩ := q
  obtain ⟨rs, ρ1, e1, e2⟩ := M.bind_ok e
  obtain ⟨ss, ρ2, e3, e4⟩ := M.bind_ok e2
  split at e4
  · rename_i hc
    cases e4
    refine ⟨B, ρ, fs, g, rs, ρ1, e1, fun vs B1 H1 fs1 Ts fr1 g1 ok nd => ?_⟩
    obtain ⟨fs2, Us, g2, o2, nd2, n2, s2⟩ := takeAll_ok g1 ok nd e3
    refine ⟨by rw [ownL_len o2]; exact hc.2, fun p hp => ?_⟩
    have frn := Fr.newL (B := B1) (o := HO.lst vs) hp
    have bp : B1 p = none := by
      cases z : B1 p with
      | none => rfl
      | some u => rw [g1.ext p u z] at hp; cases hp
    have lv : ∀ a ∈ Us.flatten, H1 a ≠ none := OwnL.liveA o2
    have np : p ∉ Us.flatten := fun h => lv p h hp
    have g3 := g2.grow frn (fun _ _ f => f) (g1.ext.trans frn.sameH)
    have o3 : OwnL X.K B1 (upd H1 p (.lst vs)) vs ss Us := OwnL.keepA (Same.refl _) o2 fun a ha => upd_ne fun z => np (z ▸ ha)
    refine k (.ref p) B1 _ fs2 (p :: Us.flatten) ?_ g3 ⟨⟨p, vs, Us, rfl, rfl, upd_same, o3, List.nodup_cons.mpr ⟨np, nd2⟩⟩, rfl, fun a ha => ?_⟩
    · refine (fr1.trans (frn.weak (fun a f => f.elim) fun a f => ?_))
      rcases f with f | f
      · exact Or.inr (Or.inl (s2 a (Or.inl f)))
      · rcases List.mem_cons.mp f with rfl | f
        · exact Or.inl (by simp)
        · exact Or.inr (Or.inl (s2 a (Or.inr f)))
    · rcases List.mem_cons.mp ha with rfl | ha
      · exact ⟨bp, fun i hi => g2.lives hi hp⟩
      · exact n2 a ha
  · cases e4
end
def tNames : List Nat → TGs
  | [] => fun vs σ H Q => vs = [] ∧ Q σ H
  | i :: is => fun vs σ H Q => ∃ v r, vs = v :: r ∧ tNames is r (σ.set i (some v)) H Q
section
variable {X : Cx} {pos : Pos}
theorem dn_nil : PGs X [] (tNames []) := pgs_nil
theorem dn_cons {es : List Expr} {i : Nat} {is : List Nat} {x : Str} (hN : X.N.Nodup) (hi : X.N[i]? = some x) (hx : Loc X.env.scope x) (h2 : PGs X es (tNames is)) (hf : X.fn x = true ∨ X.env.scope.names.lookup x = some .local := by first | exact .inl rfl | exact .inr rfl | assumption)
    (hs : (assignEach (.Name x pos :: es) X.env).map (·.2) = assign (.Name x pos) X.env :: (assignEach es X.env).map (·.2) := by rfl) : PGs X (.Name x pos :: es) (tNames (i :: is)) := pgs_cons (pg_name hN hi hx hf) h2 hs
end
end Pd
set_option Elab.async false
set_option linter.all false
set_option maxRecDepth 100000
set_option maxHeartbeats 1000000
namespace Pd
open PySem PySem.Spec PyProof.Rows L2
theorem OwnL.append {K : PySem.W.Frag} {B H : Hp} : ∀ {ss ss' : List Sl} {vs vs' : List V} {Ts Ts' : List (List Addr)}, OwnL K B H vs ss Ts → OwnL K B H vs' ss' Ts' → OwnL K B H (vs ++ vs') (ss ++ ss') (Ts ++ Ts')
  | [], _, [], _, [], _, _, g => g
  | s :: ss, _, v :: vs, _, T :: Ts, _, h, g => ⟨h.1, OwnL.append h.2 g⟩
  | [], _, [], _, _ :: _, _, h, _ => h.elim
  | [], _, _ :: _, _, _, _, h, _ => h.elim
  | _ :: _, _, [], _, _, _, h, _ => h.elim
  | _ :: _, _, _ :: _, _, [], _, h, _ => h.elim
end Pd
set_option Elab.async false
set_option linter.all false
set_option maxRecDepth 100000
set_option maxHeartbeats 1000000
namespace Pd
open PySem PySem.Spec PyProof.Rows L2
def isLst : Rs → Env → Bool
  | .lent _ w ks, _ => match w.kid ks with
    | some (.ml _ _) => true
    | some (.mr _ _) => true
    | _ => false
  | .bor j, ρ => match ρ[j]? with
    | some (some (.ml _ _)) => true
    | some (some (.mr _ _)) => true
    | _ => false
  | _, _ => false
def eMethM (fo : M Rs) (fa : M (List Rs)) (op : List Rs → M Rs) : M Rs := M.bind fo fun o ρ => if isLst o ρ = true then M.bind fa (fun rs => op (o :: rs)) ρ else none
section
variable {X : Cx} {vs0 : List V} {K : PySem.W.Frag}
theorem isLst_ok {B H : Hp} {σ : L2.St} {ρ : Env} {fs : Nat → List Addr} {v : V} {r : Rs} {T : List Addr} (g : Good K vs0 B H σ ρ fs) (ok : RsOk K B H σ fs v r T) (h : isLst r ρ = true) : tyV K "list" v H := by
  unfold isLst at h
  split at h
  · rename_i i w ks
    obtain ⟨⟨v0, z1, z2, z3⟩, z4⟩ := ok
    split at h
    · rename_i e
      obtain ⟨Tk, ⟨a, xs, rfl, _, q1, _⟩, _, _⟩ := z2.kid z3 e
      exact Or.inl ⟨rfl, xs, SqL.of q1⟩
    · rename_i e
      obtain ⟨Tk, ⟨a, xs, Ts, rfl, _, q1, _⟩, _, _⟩ := z2.kid z3 e
      exact Or.inl ⟨rfl, xs, SqL.of q1⟩
    · cases h
  · rename_i j
    obtain ⟨hv, rfl⟩ := ok
    split at h
    · rename_i e
      obtain ⟨v', h1, ⟨a, xs, rfl, _, q1, _⟩, _⟩ := g.at_ j _ e
      rw [h1] at hv
      cases hv
      exact Or.inl ⟨rfl, xs, SqL.of q1⟩
    · rename_i e
      obtain ⟨v', h1, ⟨a, xs, Ts, rfl, _, q1, _⟩, _⟩ := g.at_ j _ e
      rw [h1] at hv
      cases hv
      exact Or.inl ⟨rfl, xs, SqL.of q1⟩
    · cases h
  · cases h
theorem rd_methM {r : V → List V → Hp → VK → Prop} {op : List Rs → M Rs} {fo : M Rs} {fa : M (List Rs)} (ho : OpOk K (rM r) op) {σ : L2.St} {H : Hp} {Q : VK} (q : rdE K vs0 (eMethM fo fa op) σ H Q) :
    tBM K "list" r (rdE K vs0 fo) (rdA K vs0 fa) σ H Q := by
  obtain ⟨B, ρ, fs, g, r', ρ', e1, k⟩ := q
  obtain ⟨o, ρ1, e2, e3⟩ := M.bind_ok e1
  split at e3
  · rename_i hk
    obtain ⟨rs, ρ2, e4, e5⟩ := M.bind_ok e3
    refine ⟨B, ρ, fs, g, o, ρ1, e2, fun v B1 H1 fs1 T1 fr1 g1 ok1 => ⟨isLst_ok g1 ok1 hk, B1, ρ1, fs1, g1, rs, ρ2, e4, fun vs B2 H2 fs2 Ts fr2 g2 ok2 nd2 => ?_⟩⟩
    have n1 : ∀ a ∈ T1, ¬ InF fs1 a := ok1.off
    obtain ⟨x, xs, ex, q⟩ := ho vs0 σ B2 H2 ρ2 fs2 (v :: vs) (o :: rs) (T1 :: Ts) Q g2 ⟨ok1.keep fr2 n1 fun a h => Or.inl h, ok2⟩ (by
      rw [List.flatten_cons, List.nodup_append]
      refine ⟨ok1.nodup, nd2, fun a ha b hb e => ?_⟩
      subst e
      rcases fr2.own a (Or.inr hb) with q | q
      · exact n1 a ha q
      · exact ok1.live a ha q) r' ρ' e5 fun v4 B4 H4 fs4 T4 fr4 g4 ok4 => k v4 B4 H4 fs4 T4 (fr1.trans (((fr2.frame T1).weak (fun a h => h) fun a h => by
        rcases h with h | h
        · exact Or.inl (Or.inl (Or.inl h))
        · rw [List.flatten_cons, List.mem_append] at h
          rcases h with h | h
          · exact Or.inl (Or.inr h)
          · exact Or.inl (Or.inl (Or.inr h))).trans fr4)) g4 ok4
    cases ex
    exact q
  · cases e3
end
end Pd
set_option Elab.async false
set_option linter.all false
set_option maxRecDepth 100000
set_option maxHeartbeats 1000000
namespace Pd
open PySem PySem.Spec PyProof.Rows L2
namespace B
@[simp] theorem noTags_nil : noTags [] = true := rfl
@[simp] theorem noTags_cons {s : Sl} {l : List Sl} : noTags (s :: l) = (s.tag.isNone && noTags l) := rfl
section
variable {ρ : Env}
@[simp ↓] theorem ev_takeAll_nil {Q : List Sl → Env → Prop} : Ev (takeAll []) ρ Q ↔ Q [] ρ := by
  unfold takeAll
  exact ev_ret
@[simp ↓] theorem ev_takeAll_cons {r : Rs} {rs : List Rs} {Q : List Sl → Env → Prop} : Ev (takeAll (r :: rs)) ρ Q ↔ Ev (takeR r) ρ fun s ρ1 => Ev (takeAll rs) ρ1 fun ss ρ2 => Q (s :: ss) ρ2 := by
  rw [takeAll]
  simp only [ev_bind, ev_ret]
@[simp ↓] theorem ev_lstM {fa : M (List Rs)} {Q : Rs → Env → Prop} : Ev (oLstM fa) ρ Q ↔ Ev fa ρ fun rs ρ1 => Ev (takeAll rs) ρ1 fun ss ρ2 => (noTags ss = true ∧ ss.length ≤ sizeLine) ∧ Q (.own (.mr none ss)) ρ2 := by
  unfold oLstM
  simp only [ev_bind]
  constructor
  · rintro ⟨rs, ρ1, e1, ss, ρ2, e2, r, ρ3, e3, q⟩
    refine ⟨rs, ρ1, e1, ss, ρ2, e2, ?_⟩
    split at e3
    · rename_i h; cases e3; exact ⟨h, q⟩
    · cases e3
  · rintro ⟨rs, ρ1, e1, ss, ρ2, e2, h, q⟩
    exact ⟨rs, ρ1, e1, ss, ρ2, e2, _, _, if_pos h, q⟩
end
end B
end Pd
set_option Elab.async false
set_option linter.all false
set_option maxRecDepth 100000
set_option maxHeartbeats 1000000
namespace Pd
open PySem PySem.Spec PyProof.Rows L2
open B (noTags_nil noTags_cons)
section
variable {ρ : Env}
@[simp ↓] theorem ev_takeAll_nil {Q : List Sl → Env → Prop} : Ev (takeAll []) ρ Q ↔ Q [] ρ := B.ev_takeAll_nil
@[simp ↓] theorem ev_takeAll_cons {r : Rs} {rs : List Rs} {Q : List Sl → Env → Prop} : Ev (takeAll (r :: rs)) ρ Q ↔ Ev (takeR r) ρ fun s ρ1 => Ev (takeAll rs) ρ1 fun ss ρ2 => Q (s :: ss) ρ2 := B.ev_takeAll_cons
@[simp ↓] theorem ev_lstM {fa : M (List Rs)} {Q : Rs → Env → Prop} : Ev (oLstM fa) ρ Q ↔ Ev fa ρ fun rs ρ1 => Ev (takeAll rs) ρ1 fun ss ρ2 => (noTags ss = true ∧ ss.length ≤ sizeLine) ∧ Q (.own (.mr none ss)) ρ2 := B.ev_lstM
end
end Pd
set_option Elab.async false
set_option linter.all false
set_option maxRecDepth 100000
set_option maxHeartbeats 1000000
set_option Elab.async false
set_option linter.all false
set_option maxRecDepth 100000
set_option maxHeartbeats 1000000
set_option Elab.async false
set_option linter.all false
set_option maxRecDepth 100000
set_option maxHeartbeats 1000000
namespace Pd
open PySem PySem.Spec PyProof.Rows L2
namespace B
section
variable {ρ : Env}
def pickQ (j : Nat) (t : Option Nat) (l : List Sl) (ρ : Env) (Q : Rs → Env → Prop) : Option (Nat × Sl) → Prop
  | some (q, c) => if c.flat = true then Q (.own c) ρ else if c.big = true then Q (.lent j (.mr t l) [q]) (ρ.set j (some (.hl t))) else False
  | none => False
@[simp] theorem pickQ_fd {j : Nat} {t : Option Nat} {l : List Sl} {Q : Rs → Env → Prop} {q : Nat} {m : List (Key × D)} : pickQ j t l ρ Q (some (q, .fd m)) = Q (.own (.fd m)) ρ := rfl
@[simp] theorem pickQ_p {j : Nat} {t : Option Nat} {l : List Sl} {Q : Rs → Env → Prop} {q : Nat} {d : D} : pickQ j t l ρ Q (some (q, .p d)) = Q (.own (.p d)) ρ := rfl
@[simp] theorem pickQ_ml {j : Nat} {t : Option Nat} {l : List Sl} {Q : Rs → Env → Prop} {q : Nat} {u : Option Nat} {m : List D} : pickQ j t l ρ Q (some (q, .ml u m)) = Q (.lent j (.mr t l) [q]) (ρ.set j (some (.hl t))) := rfl
@[simp] theorem pickQ_md {j : Nat} {t : Option Nat} {l : List Sl} {Q : Rs → Env → Prop} {q : Nat} {u : Option Nat} {m : List (Key × D)} : pickQ j t l ρ Q (some (q, .md u m)) = Q (.lent j (.mr t l) [q]) (ρ.set j (some (.hl t))) := rfl
@[simp] theorem pickQ_ob {j : Nat} {t : Option Nat} {l : List Sl} {Q : Rs → Env → Prop} {q : Nat} {u : Option Nat} {c : Str} {ns : List Str} {m : List Sl} : pickQ j t l ρ Q (some (q, .ob u c ns m)) = Q (.lent j (.mr t l) [q]) (ρ.set j (some (.hl t))) := rfl
def ixMQ (j : Nat) (i : Rs) (ρ : Env) (Q : Rs → Env → Prop) : Option (Option Sl) → Prop
  | some (some (.mr t l)) => pickQ j t l ρ Q (pickM l (i.view ρ))
  | _ => Ev (oIx [.bor j, i]) ρ Q
@[simp] theorem ixMQ_mr {j : Nat} {i : Rs} {t : Option Nat} {l : List Sl} {Q : Rs → Env → Prop} : ixMQ j i ρ Q (some (some (.mr t l))) = pickQ j t l ρ Q (pickM l (i.view ρ)) := rfl
@[simp] theorem ixMQ_ml {j : Nat} {i : Rs} {t : Option Nat} {l : List D} {Q : Rs → Env → Prop} : ixMQ j i ρ Q (some (some (.ml t l))) = Ev (oIx [.bor j, i]) ρ Q := rfl
@[simp ↓] theorem ev_ixM {j : Nat} {i : Rs} {Q : Rs → Env → Prop} : Ev (oIxM [.bor j, i]) ρ Q ↔ ixMQ j i ρ Q ρ[j]? := by
  constructor
  · rintro ⟨r, ρ1, e, q⟩
    unfold oIxM at e
    dsimp only at e
    split at e
    · rename_i t l h
      rw [h, ixMQ_mr]
      split at e
      · rename_i k c h2
        rw [h2]
        unfold pickQ
        split at e
        · rename_i hf; cases e; dsimp only; rw [if_pos hf]; exact q
        · rename_i hf
          split at e
          · rename_i hb; cases e; dsimp only; rw [if_neg hf, if_pos hb]; exact q
          · cases e
      · cases e
    · rename_i hn
      unfold ixMQ
      split
      · rename_i t l h; exact (hn _ _ h).elim
      · exact ⟨r, ρ1, e, q⟩
  · intro q
    unfold ixMQ at q
    split at q
    · rename_i t l h
      unfold pickQ at q
      split at q
      · rename_i k c h2
        split at q
        · rename_i hf
          exact ⟨_, _, by unfold oIxM; dsimp only; simp only [h, h2, if_pos hf], q⟩
        · rename_i hf
          split at q
          · rename_i hb
            exact ⟨_, _, by unfold oIxM; dsimp only; simp only [h, h2, if_neg hf, if_pos hb], q⟩
          · exact q.elim
      · exact q.elim
    · rename_i hn
      obtain ⟨r, ρ1, e, q⟩ := q
      refine ⟨r, ρ1, ?_, q⟩
      unfold oIxM
      dsimp only
      split
      · rename_i t l h; exact (hn _ _ h).elim
      · exact e
@[simp ↓] theorem ev_ixM_own {s : Sl} {i : Rs} {Q : Rs → Env → Prop} : Ev (oIxM [.own s, i]) ρ Q ↔ Ev (oIx [.own s, i]) ρ Q := Iff.rfl
end
end B
end Pd
set_option Elab.async false
set_option linter.all false
set_option maxRecDepth 100000
set_option maxHeartbeats 1000000
namespace Pd
open PySem PySem.Spec PyProof.Rows L2
section
variable {ρ : Env}
def pickQ (j : Nat) (t : Option Nat) (l : List Sl) (ρ : Env) (Q : Rs → Env → Prop) [Fx Q] (o0 : Option (Nat × Sl)) : Prop := B.pickQ j t l ρ Q o0
@[simp] theorem pickQ_fd {j : Nat} {t : Option Nat} {l : List Sl} {Q : Rs → Env → Prop} {q : Nat} {m : List (Key × D)} : pickQ j t l ρ Q (some (q, .fd m)) = Q (.own (.fd m)) ρ := B.pickQ_fd
@[simp] theorem pickQ_p {j : Nat} {t : Option Nat} {l : List Sl} {Q : Rs → Env → Prop} {q : Nat} {d : D} : pickQ j t l ρ Q (some (q, .p d)) = Q (.own (.p d)) ρ := B.pickQ_p
@[simp] theorem pickQ_ml {j : Nat} {t : Option Nat} {l : List Sl} {Q : Rs → Env → Prop} {q : Nat} {u : Option Nat} {m : List D} : pickQ j t l ρ Q (some (q, .ml u m)) = Q (.lent j (.mr t l) [q]) (ρ.set j (some (.hl t))) := B.pickQ_ml
@[simp] theorem pickQ_md {j : Nat} {t : Option Nat} {l : List Sl} {Q : Rs → Env → Prop} {q : Nat} {u : Option Nat} {m : List (Key × D)} : pickQ j t l ρ Q (some (q, .md u m)) = Q (.lent j (.mr t l) [q]) (ρ.set j (some (.hl t))) := B.pickQ_md
@[simp] theorem pickQ_ob {j : Nat} {t : Option Nat} {l : List Sl} {Q : Rs → Env → Prop} {q : Nat} {u : Option Nat} {c : Str} {ns : List Str} {m : List Sl} : pickQ j t l ρ Q (some (q, .ob u c ns m)) = Q (.lent j (.mr t l) [q]) (ρ.set j (some (.hl t))) := B.pickQ_ob
def ixMQ (j : Nat) (i : Rs) (ρ : Env) (Q : Rs → Env → Prop) [Fx Q] (o0 : Option (Option Sl)) : Prop := B.ixMQ j i ρ Q o0
@[simp] theorem ixMQ_mr {j : Nat} {i : Rs} {t : Option Nat} {l : List Sl} {Q : Rs → Env → Prop} : ixMQ j i ρ Q (some (some (.mr t l))) = pickQ j t l ρ Q (pickM l (i.view ρ)) := B.ixMQ_mr
@[simp] theorem ixMQ_ml {j : Nat} {i : Rs} {t : Option Nat} {l : List D} {Q : Rs → Env → Prop} : ixMQ j i ρ Q (some (some (.ml t l))) = Ev (oIx [.bor j, i]) ρ Q := B.ixMQ_ml
@[simp ↓] theorem ev_ixM {j : Nat} {i : Rs} {Q : Rs → Env → Prop} : Ev (oIxM [.bor j, i]) ρ Q ↔ ixMQ j i ρ Q ρ[j]? := B.ev_ixM
@[simp ↓] theorem ev_ixM_own {s : Sl} {i : Rs} {Q : Rs → Env → Prop} : Ev (oIxM [.own s, i]) ρ Q ↔ Ev (oIx [.own s, i]) ρ Q := B.ev_ixM_own
end
end Pd
set_option Elab.async false
set_option linter.all false
set_option maxRecDepth 100000
set_option maxHeartbeats 1000000
set_option Elab.async false
set_option linter.all false
set_option maxRecDepth 100000
set_option maxHeartbeats 2000000
set_option Elab.async false
set_option linter.all false
set_option maxRecDepth 100000
set_option maxHeartbeats 1000000
set_option Elab.async false
set_option linter.all false
set_option maxRecDepth 100000
set_option maxHeartbeats 1000000
set_option Elab.async false
set_option linter.all false
set_option maxRecDepth 100000
set_option maxHeartbeats 2000000
namespace L2
open PySem PySem.Spec PyProof.Rows
theorem call_lenDK {X : Cx} : CallR X (.builtin "len") (fun xs H Q => ∃ a kvs, xs = [V.ref a] ∧ Rd H a (.dK kvs) ∧ Q (.int (kvs.length : Nat)) H) := by
  intro pins s σ H xs us Q I r h
  obtain ⟨a, kvs, rfl, e, q⟩ := h
  obtain ⟨u, rfl, rx⟩ := vals1 r
  cases rx
  obtain ⟨hl, hd, vs, kv, hm⟩ := dk_rd I.hok e
  have hs : sizeLine = 16777216 := sizeLine_eq
  have hlen : kvs.length = vs.length := kv.length
  exact PySem.call_len_dict hd hm (by omega) ⟨.int (kvs.length : Nat), H, I.tok _, ⟨_, by rw [hlen]⟩, q⟩
end L2
namespace Pd
open PySem PySem.Spec PyProof.Rows L2
def pLenD : List Vw → Option Rd2
  | [.m l] => some (.pd (.int l.length))
  | _ => none
def oLenD := opV pLenD
theorem oLenD_ok {K : PySem.W.Frag} : OpOk K (fun xs H1 Q => ∃ a kvs, xs = [V.ref a] ∧ Rd H1 a (.dK kvs) ∧ Q (.int (kvs.length : Nat)) H1) oLenD := opV_ok fun B H vs ds res Q e hs hp k => by
  unfold pLenD at hp
  split at hp
  · cases hp
    obtain ⟨x, rfl, ⟨a, ks, rfl, h1, h2⟩⟩ := hs.one
    exact ⟨a, ks, rfl, h1, by rw [h2.len]; exact k.same e (.int _)⟩
  · cases hp
@[simp ↓] theorem oLenD_eq : oLenD = opV pLenD := rfl
@[simp] theorem pLenD_m {l : List (Key × D)} : pLenD [.m l] = some (.pd (.int (l.length : Nat))) := rfl
section
variable {X : Cx} {vs0 : List V} {k n : Nat} {F : List Sl → Option (Sl × List Sl)} {x : Str} {p pos : Pos} {e : Expr} {es : List Expr} {fa : M (List Rs)}
theorem de_useL (C : Callee X.prog X.w X.K X.mg X.base k x n F) (hr : Room k X.A) (hg : Gl X x) (ha : PA X (e :: es) (rdA X.K vs0 fa)) (hdb : (x == ("__debug__" : Str)) = false := by decide)
    (he : starEach (e :: es) X.env = (false, eval e X.env) :: starEach es X.env := by rfl) (hpl : (backTo pos (starEach es X.env)).any (·.1) = false := by rfl) :
    PE X (.Call (.Name x p) (e :: es) [] pos) (rdE X.K vs0 (M.bind fa (opCallL n F))) := by
  obtain ⟨f, fd, ps, Fn, hm, hk, hb⟩ := C.ex
  refine PE.imp (pe_call (E := E0) Fn hr hg hm hk hb .nil pass0 ha hdb he hpl) fun σ H Q q => ?_
  obtain ⟨B, ρ, fs, gd, rs, ρ', e1, kk⟩ := rd_op (opCallL_ok (n := n) (F := F)) q
  refine ⟨B, ρ, fs, gd, rs, ρ', e1, fun vs B' H' fs' Ts a b c d => ?_⟩
  show spD X.K n F (vs ++ []) H' Q E0
  rw [List.append_nil]
  exact kk vs B' H' fs' Ts a b c d
end
end Pd
set_option Elab.async false
set_option linter.all false
set_option maxRecDepth 100000
set_option maxHeartbeats 2000000
set_option Elab.async false
set_option linter.all false
set_option maxRecDepth 100000
set_option maxHeartbeats 2000000
namespace Pd
open PySem PySem.Spec PyProof.Rows L2
def OwnLL (K : PySem.W.Frag) (B H : Hp) : List (List V) → List (List Sl) → List (List (List Addr)) → Prop
  | [], [], [] => True
  | xs :: xss, ss :: sss, Ts :: Tss => OwnL K B H xs ss Ts ∧ OwnLL K B H xss sss Tss
  | _, _, _ => False
theorem OwnLL.keepA {K : PySem.W.Frag} {B H B' H' : Hp} (e : Same B B') : ∀ {xss : List (List V)} {sss : List (List Sl)} {Tss : List (List (List Addr))}, OwnLL K B H xss sss Tss → (∀ a ∈ Tss.flatten.flatten, H' a = H a) → OwnLL K B' H' xss sss Tss
  | [], [], [], _, _ => True.intro
  | xs :: xss, ss :: sss, Ts :: Tss, h, k => by
    rw [List.flatten_cons, List.flatten_append] at k
    exact ⟨OwnL.keepA e h.1 fun a ha => k a (List.mem_append_left _ ha), OwnLL.keepA e h.2 fun a ha => k a (List.mem_append_right _ ha)⟩
  | [], [], _ :: _, h, _ => h.elim
  | [], _ :: _, _, h, _ => h.elim
  | _ :: _, [], _, h, _ => h.elim
  | _ :: _, _ :: _, [], h, _ => h.elim
theorem OwnLL.len {K : PySem.W.Frag} {B H : Hp} : ∀ {xss : List (List V)} {sss : List (List Sl)} {Tss : List (List (List Addr))}, OwnLL K B H xss sss Tss → xss.length = sss.length ∧ Tss.length = sss.length
  | [], [], [], _ => ⟨rfl, rfl⟩
  | xs :: xss, ss :: sss, Ts :: Tss, h => by
    have := h.2.len
    simp [this]
  | [], [], _ :: _, h => h.elim
  | [], _ :: _, _, h => h.elim
  | _ :: _, [], _, h => h.elim
  | _ :: _, _ :: _, [], h => h.elim
end Pd
set_option Elab.async false
set_option linter.all false
set_option maxRecDepth 100000
set_option maxHeartbeats 2000000
set_option Elab.async false
set_option linter.all false
set_option maxRecDepth 100000
set_option maxHeartbeats 1000000
set_option Elab.async false
set_option linter.all false
set_option maxRecDepth 100000
set_option maxHeartbeats 1000000
set_option Elab.async false
set_option linter.all false
set_option maxRecDepth 100000
set_option maxHeartbeats 1000000
set_option Elab.async false
set_option linter.all false
set_option maxRecDepth 100000
set_option maxHeartbeats 1000000
set_option Elab.async false
set_option linter.all false
set_option maxRecDepth 100000
set_option maxHeartbeats 2000000
namespace Pd
open PySem PySem.Spec PyProof.Rows L2
section
variable {K : PySem.W.Frag} {vs0 : List V}
structure Apart (B H : Hp) (fs : Nat → List Addr) (L : List Addr) : Prop where
  nd : L.Nodup
  out : ∀ a ∈ L, B a = none ∧ (∀ k, a ∉ fs k) ∧ H a ≠ none
end
end Pd
set_option Elab.async false
set_option linter.all false
set_option maxRecDepth 100000
set_option maxHeartbeats 1000000
set_option Elab.async false
set_option linter.all false
set_option maxRecDepth 100000
set_option maxHeartbeats 1000000
set_option Elab.async false
set_option linter.all false
set_option maxRecDepth 100000
set_option maxHeartbeats 2000000
set_option Elab.async false
set_option linter.all false
set_option maxRecDepth 100000
set_option maxHeartbeats 1000000
set_option Elab.async false
set_option linter.all false
set_option maxRecDepth 100000
set_option maxHeartbeats 1000000
set_option Elab.async false
set_option linter.all false
set_option maxRecDepth 100000
set_option maxHeartbeats 1000000
set_option Elab.async false
set_option linter.all false
set_option maxRecDepth 100000
set_option maxHeartbeats 2000000
set_option Elab.async false
set_option linter.all false
set_option maxRecDepth 100000
set_option maxHeartbeats 1000000
set_option Elab.async false
set_option linter.all false
set_option maxRecDepth 100000
set_option maxHeartbeats 1000000
set_option Elab.async false
set_option linter.all false
set_option maxRecDepth 100000
set_option maxHeartbeats 1000000
set_option Elab.async false
set_option linter.all false
set_option maxRecDepth 100000
set_option maxHeartbeats 1000000
set_option Elab.async false
set_option linter.all false
set_option maxRecDepth 100000
set_option maxHeartbeats 1000000
set_option Elab.async false
set_option linter.all false
set_option maxRecDepth 100000
set_option maxHeartbeats 1000000
set_option Elab.async false
set_option linter.all false
set_option maxRecDepth 100000
set_option maxHeartbeats 1000000
namespace Pd
open PySem PySem.Spec PyProof.Rows L2
open PySem.W (EachIs)
section
variable {X : Cx} {pins pins' : List (Addr × Obj)} {σ : L2.St} {H H2 : Hp} {s : Shared} {h' : Heap} {t' : Nat}
structure CalleeV (P : Program) (w : World) (K : PySem.W.Frag) (mg : Str → Option Value) (base : Heap) (k : Nat) (x : Str) (F : List Sl → Option (Sl × List Sl)) (f : Addr) : Prop where
  fn : ∃ (fd : FuncData) (p : Str), FnOk P w K mg base CX0 k f fd [p] (spD K 1 F) ∧ ∀ (s : Shared) (u : Value), BindsTo s fd ⟨[u], []⟩ [(p, u)]
  gl : mg x = some (.ref f)
variable {F : List Sl → Option (Sl × List Sl)} {k : Nat} {x : Str} {f : Addr} {A : Around}
structure KeyJ (X : Cx) (pins : List (Addr × Obj)) (σ : L2.St) (H : Hp) (kS a : Addr) (oa : Obj) (zs : List Int) (n : Nat) (s : Shared) : Prop where
  ex : ∃ (H' : Hp) (ks : List Value) (e : Nat), Inv X ((kS, seqObj "list" ks.toArray e) :: (a, oa) :: pins) σ H' s ∧ Same H H' ∧ Vals ((zs.take n).map V.int) ks
end
end Pd
set_option Elab.async false
set_option linter.all false
set_option maxRecDepth 100000
set_option maxHeartbeats 1000000
set_option Elab.async false
set_option linter.all false
set_option maxRecDepth 100000
set_option maxHeartbeats 1000000
set_option Elab.async false
set_option linter.all false
set_option maxRecDepth 100000
set_option maxHeartbeats 1000000
namespace Pd
open PySem PySem.Spec PyProof.Rows L2
namespace B
section
variable {ρ : Env}
def lstK : Option Sl → Bool
  | some (.ml _ _) => true
  | some (.mr _ _) => true
  | _ => false
@[simp] theorem lstK_ml {t : Option Nat} {l : List D} : lstK (some (.ml t l)) = true := rfl
@[simp] theorem lstK_mr {t : Option Nat} {l : List Sl} : lstK (some (.mr t l)) = true := rfl
@[simp] theorem isLst_lent {i : Nat} {w : Sl} {ks : List Nat} : isLst (.lent i w ks) ρ = lstK (w.kid ks) := by
  show (match w.kid ks with
    | some (.ml _ _) => true
    | some (.mr _ _) => true
    | _ => false) = lstK (w.kid ks)
  generalize w.kid ks = o
  cases o with
  | none => rfl
  | some s => cases s <;> rfl
def lstS : Option (Option Sl) → Bool
  | some o => lstK o
  | none => false
@[simp] theorem lstS_s {o : Option Sl} : lstS (some o) = lstK o := rfl
@[simp] theorem isLst_bor {i : Nat} : isLst (.bor i) ρ = lstS ρ[i]? := by
  show (match ρ[i]? with
    | some (some (.ml _ _)) => true
    | some (some (.mr _ _)) => true
    | _ => false) = lstS ρ[i]?
  generalize ρ[i]? = o
  cases o with
  | none => rfl
  | some o =>
    cases o with
    | none => rfl
    | some s => cases s <;> rfl
@[simp ↓] theorem ev_methM {fo : M Rs} {fa : M (List Rs)} {op : List Rs → M Rs} {Q : Rs → Env → Prop} : Ev (eMethM fo fa op) ρ Q ↔ Ev fo ρ fun o ρ1 => isLst o ρ1 = true ∧ Ev fa ρ1 fun rs ρ2 => Ev (op (o :: rs)) ρ2 Q := by
  unfold eMethM
  rw [ev_bind]
  constructor
  · rintro ⟨o, ρ1, e, b, ρ2, e2, q⟩
    refine ⟨o, ρ1, e, ?_⟩
    try dsimp only at e2
    split at e2
    · rename_i hp
      obtain ⟨rs, ρ3, e3, e4⟩ := M.bind_ok e2
      exact ⟨hp, rs, ρ3, e3, b, ρ2, e4, q⟩
    · cases e2
  · rintro ⟨o, ρ1, e, hp, rs, ρ3, e3, b, ρ2, e4, q⟩
    refine ⟨o, ρ1, e, b, ρ2, ?_, q⟩
    dsimp only
    rw [if_pos hp]
    unfold M.bind
    simp only [e3]
    exact e4
end
end B
end Pd
set_option Elab.async false
set_option linter.all false
set_option maxRecDepth 100000
set_option maxHeartbeats 1000000
namespace Pd
open PySem PySem.Spec PyProof.Rows L2
open B (lstK lstK_ml lstK_mr isLst_lent lstS lstS_s isLst_bor)
section
variable {ρ : Env}
@[simp ↓] theorem ev_methM {fo : M Rs} {fa : M (List Rs)} {op : List Rs → M Rs} {Q : Rs → Env → Prop} : Ev (eMethM fo fa op) ρ Q ↔ Ev fo ρ fun o ρ1 => isLst o ρ1 = true ∧ Ev fa ρ1 fun rs ρ2 => Ev (op (o :: rs)) ρ2 Q := B.ev_methM
end
end Pd
set_option Elab.async false
set_option linter.all false
set_option maxRecDepth 100000
set_option maxHeartbeats 3200000
set_option Elab.async false
set_option linter.all false
set_option maxRecDepth 100000
set_option maxHeartbeats 2000000
namespace Pd
open PySem PySem.Spec PyProof.Rows L2
def strK : List (Key × D) → Option (List Str)
  | [] => some []
  | (.inr x, _) :: l => (strK l).map (x :: ·)
  | _ => none
theorem strK_keys : ∀ {l : List (Key × D)} {ks : List Str}, strK l = some ks → l.map (·.1) = ks.map Sum.inr
  | [], ks, h => by
    cases h
    rfl
  | (.inr x, d) :: l, ks, h => by
    unfold strK at h
    cases e : strK l with
    | none => rw [e] at h; cases h
    | some m =>
      rw [e] at h
      cases h
      rw [List.map_cons, List.map_cons, strK_keys e]
  | (.inl x, d) :: l, ks, h => by cases h
theorem kv_keys {K : PySem.W.Frag} {B : Hp} : ∀ {kvs : List (Key × V)} {l : List (Key × D)}, KvD K B kvs l → kvs.map (·.1) = l.map (·.1)
  | _, _, .nil => rfl
  | _, _, .cons h t => by rw [List.map_cons, List.map_cons, kv_keys t, h.1]
theorem dpAll_strs {K : PySem.W.Frag} {B : Hp} : ∀ ns : List Str, DpAll K B (ns.map V.str) (ns.map PyData.str)
  | [] => .nil
  | k :: l => .cons (.str _) (dpAll_strs l)
theorem strK_map {α : Type} (f : α → Str) (g : α → D) : ∀ l : List α, strK (l.map fun a => (Sum.inr (f a), g a)) = some (l.map f)
  | [] => rfl
  | a :: l => by
    rw [List.map_cons, List.map_cons]
    unfold strK
    rw [strK_map f g l]
    rfl
end Pd
set_option Elab.async false
set_option linter.all false
set_option maxRecDepth 100000
set_option maxHeartbeats 1000000
set_option Elab.async false
set_option linter.all false
set_option maxRecDepth 100000
set_option maxHeartbeats 1000000
set_option Elab.async false
set_option linter.all false
set_option maxRecDepth 100000
set_option maxHeartbeats 2000000
set_option Elab.async false
set_option linter.all false
set_option maxRecDepth 100000
set_option maxHeartbeats 1000000
namespace Pd
open PySem PySem.Spec PyProof.Rows L2
section
variable {K : PySem.W.Frag} {vs0 : List V} {B H : Hp} {σ : L2.St} {ρ : Env} {fs : Nat → List Addr}
theorem Good.updM {j : Nat} {a : Addr} {s s' : Sl} {v : V} {o : HO} {T' : List Addr} (g : Good K vs0 B H σ ρ fs) (e : ρ[j]? = some (some s)) (ha : a ∈ fs j) (hv : σ[j]? = some (some v)) (own : Own K B (L2.upd H a o) v s' T') (ht : s'.tag = s.tag)
    (hT : ∀ b ∈ T', b ∈ fs j ∨ ((∀ i, b ∉ fs i) ∧ B b = none)) :
    Good K vs0 B (L2.upd H a o) σ (ρ.set j (some s')) (fun i => if i = j then T' else fs i) := by
  have hj : j < ρ.length := (List.getElem?_eq_some_iff.mp e).1
  refine ⟨fun b u q => ?_, by simp [g.len], fun i t h => ?_, fun i h => ?_, fun i k b h1 h2 => ?_, fun i b h => ?_⟩
  · rw [upd_ne (ne_of_none q (g.out j a ha))]
    exact g.ext b u q
  · by_cases q : i = j
    · subst q
      rw [List.getElem?_set_self hj] at h
      cases h
      refine ⟨v, hv, by rw [if_pos rfl]; exact own, fun k hk => ?_⟩
      obtain ⟨v', h1, _, h3⟩ := g.at_ i s e
      rw [hv] at h1
      cases h1
      exact h3 k (ht ▸ hk)
    · rw [List.getElem?_set_ne (Ne.symm q)] at h
      obtain ⟨v', h1, h2, h3⟩ := g.at_ i t h
      refine ⟨v', h1, ?_, h3⟩
      show Own K B (L2.upd H a o) v' t (if i = j then T' else fs i)
      rw [if_neg q]
      exact h2.keep (Same.refl B) fun b hb => upd_ne fun z => by
        subst z
        exact q (g.dis i j b hb ha)
  · by_cases q : i = j
    · subst q
      exact (h s' (List.getElem?_set_self hj)).elim
    · rw [if_neg q]
      refine g.emp i fun t z => h t ?_
      rw [List.getElem?_set_ne (Ne.symm q)]
      exact z
  · by_cases q1 : i = j
    · by_cases q2 : k = j
      · exact q1.trans q2.symm
      · rw [if_pos q1] at h1
        rw [if_neg q2] at h2
        rcases hT b h1 with h3 | ⟨h3, _⟩
        · rw [q1]
          exact g.dis j k b h3 h2
        · exact absurd h2 (h3 k)
    · rw [if_neg q1] at h1
      by_cases q2 : k = j
      · rw [if_pos q2] at h2
        rcases hT b h2 with h3 | ⟨h3, _⟩
        · rw [q2]
          exact g.dis i j b h1 h3
        · exact absurd h1 (h3 i)
      · rw [if_neg q2] at h2
        exact g.dis i k b h1 h2
  · by_cases q : i = j
    · rw [if_pos q] at h
      rcases hT b h with h3 | ⟨_, h3⟩
      · exact g.out j b h3
      · exact h3
    · rw [if_neg q] at h
      exact g.out i b h
def oR_append : List Rs → M Rs := fun rs => match rs with
  | [.bor j, r] => M.bind (takeR r) fun s ρ => match ρ[j]? with
    | some (some (.mr t l)) => if s.tag = none ∧ l.length < sizeLine then some (.ok (.own (.p .none)) (ρ.set j (some (.mr t (l ++ [s]))))) else none
    | _ => none
  | _ => M.fail
theorem oR_append_ok {K : PySem.W.Frag} : OpOk K (rM rAppend) oR_append := by
  intro vs0 σ B H ρ fs vs rs Ts Q g ok nd r' ρ' e k
  unfold oR_append at e
  split at e
  · rename_i j r
    obtain ⟨s, ρ1, e1, e2⟩ := M.bind_ok e
    obtain ⟨v, w, T, U, rfl, rfl, ⟨hv, hT⟩, okr⟩ := rsAll_two ok
    subst hT
    obtain ⟨fs1, T', g1, o1, t1, fr1, un1, ln1⟩ := takeR_ok g okr e1
    split at e2
    · rename_i t l e3
      split at e2
      · rename_i hc
        cases e2
        obtain ⟨v', q1, ⟨a, xs, Us, rfl, hfs, q2, q3, q4⟩, _⟩ := g1.at_ j _ e3
        rw [hv] at q1
        cases q1
        have hxl : xs.length = l.length := ownL_len q3
        have haf : a ∈ fs1 j := by rw [hfs]; simp
        have hna : ∀ b ∈ T', b ≠ a := fun b hb z => (fr1 b hb).2 j (z ▸ haf)
        rw [hfs] at q4
        have hnu : ∀ b ∈ Us.flatten, b ≠ a := fun b hb z => (List.nodup_cons.mp q4).1 (z ▸ hb)
        have o2 : Own K B (L2.upd H a (.lst (xs ++ [w]))) w s T' := o1.keep (Same.refl B) fun b hb => upd_ne (hna b hb)
        have own' : Own K B (L2.upd H a (.lst (xs ++ [w]))) (.ref a) (.mr t (l ++ [s])) (a :: (Us ++ [T']).flatten) := by
          refine ⟨a, xs ++ [w], Us ++ [T'], rfl, rfl, upd_same, OwnL.append (OwnL.keepA (Same.refl B) q3 fun b hb => upd_ne (hnu b hb)) ⟨o2, True.intro⟩, ?_⟩
          rw [List.flatten_append, List.flatten_cons, List.flatten_nil, List.append_nil, List.nodup_cons, List.mem_append, not_or, List.nodup_append]
          refine ⟨⟨(List.nodup_cons.mp q4).1, fun z => hna a z rfl⟩, (List.nodup_cons.mp q4).2, o1.nodup, fun b hb c hc e => ?_⟩
          subst e
          exact (fr1 b hc).2 j (by rw [hfs]; exact List.mem_cons_of_mem _ hb)
        have g5 := g1.updM (o := HO.lst (xs ++ [w])) e3 haf hv own' rfl fun b hb => by
          rw [List.flatten_append, List.flatten_cons, List.flatten_nil, List.append_nil, List.mem_cons, List.mem_append] at hb
          rcases hb with hb | hb | hb
          · exact Or.inl (hb ▸ haf)
          · exact Or.inl (by rw [hfs]; exact List.mem_cons_of_mem _ hb)
          · exact Or.inr ⟨(fr1 b hb).2, (fr1 b hb).1⟩
        refine ⟨.ref a, [w], rfl, a, xs, w, rfl, rfl, q2, by rw [hxl]; exact hc.2, ?_⟩
        refine k .non B _ _ [] ((Fr.updIn (F := UnF (InF fs1) T') (Or.inl ⟨j, haf⟩)).weak (fun b h => ?_) fun b h => ?_) g5 ⟨⟨.non, rfl⟩, rfl, fun a ha => nomatch ha⟩
        · rcases un1 b h with h | h
          · exact Or.inl h
          · exact Or.inr (by simpa using h)
        · rcases h with ⟨i, h⟩ | h
          · by_cases q : i = j
            · have h : b ∈ (if i = j then a :: (Us ++ [T']).flatten else fs1 i) := h
              rw [if_pos q, List.flatten_append, List.flatten_cons, List.flatten_nil, List.append_nil, List.mem_cons, List.mem_append] at h
              rcases h with h | h | h
              · exact Or.inl (Or.inl ⟨j, h ▸ haf⟩)
              · exact Or.inl (Or.inl ⟨j, by rw [hfs]; exact List.mem_cons_of_mem _ h⟩)
              · exact Or.inl (Or.inr h)
            · have h : b ∈ (if i = j then a :: (Us ++ [T']).flatten else fs1 i) := h
              rw [if_neg q] at h
              exact Or.inl (Or.inl ⟨i, h⟩)
          · cases h
      · cases e2
    · cases e2
  · cases e
theorem ownL_lenT : ∀ {ss : List Sl} {vs : List V} {Ts : List (List Addr)}, OwnL K B H vs ss Ts → Ts.length = ss.length
  | [], [], [], _ => rfl
  | s :: ss, v :: vs, T :: Ts, h => by rw [List.length_cons, List.length_cons, ownL_lenT h.2]
  | [], [], _ :: _, h => h.elim
  | [], _ :: _, _, h => h.elim
  | _ :: _, [], _, h => h.elim
  | _ :: _, _ :: _, [], h => h.elim
theorem OwnL.put : ∀ {ss : List Sl} {vs : List V} {Ts : List (List Addr)} {p : Nat} {s' : Sl} {v' : V} {T' : List Addr}, OwnL K B H vs ss Ts → Own K B H v' s' T' → OwnL K B H (vs.set p v') (ss.set p s') (Ts.set p T')
  | [], [], [], _, _, _, _, h, _ => h
  | s :: ss, v :: vs, T :: Ts, 0, _, _, _, h, g => ⟨g, h.2⟩
  | s :: ss, v :: vs, T :: Ts, p + 1, _, _, _, h, g => ⟨h.1, OwnL.put (p := p) h.2 g⟩
  | [], [], _ :: _, _, _, _, _, h, _ => h.elim
  | [], _ :: _, _, _, _, _, _, h, _ => h.elim
  | _ :: _, [], _, _, _, _, _, h, _ => h.elim
  | _ :: _, _ :: _, [], _, _, _, _, h, _ => h.elim
end
section
variable {X : Cx} {vs0 : List V} {o e e' : Expr} {fo : M Rs} {fa : M (List Rs)} {apos cpos : Pos}
theorem de_mR_append1 (ho : PE X o (rdE X.K vs0 fo)) (ha : PA X [e] (rdA X.K vs0 fa))
    (hbase : attributeBase o "append" X.env (eval o X.env) = eval o X.env := by rfl)
    (hfew : ((backTo cpos (starEach [e] X.env)).all (fun x => !x.1) && (backToKw cpos (keywordEach [] X.env)).all (fun x => x.1.isSome)
      && decide ([e].length + ([] : List Keyword).length + (if ([] : List Keyword).isEmpty then 0 else 1) < 30)) = true := by rfl)
    (hline : (apos.endLine == cpos.line) = true := by rfl) (hs : starEach [e] X.env = (false, eval e X.env) :: starEach [] X.env := by rfl) (hplain : (backTo cpos (starEach [] X.env)).any (·.1) = false := by rfl) :
    PE X (.Call (.Attribute o "append" apos) [e] [] cpos) (rdE X.K vs0 (eMethM fo fa oR_append)) :=
  PE.imp (pe_bm PySem.F.plainAttrs_list PySem.F.slot_list_append PySem.F.type_list_append mt_append ho ha hbase hfew hline hs hplain) fun σ H Q q => rd_methM oR_append_ok q
end
end Pd
set_option Elab.async false
set_option linter.all false
set_option maxRecDepth 100000
set_option maxHeartbeats 1000000
set_option Elab.async false
set_option linter.all false
set_option maxRecDepth 100000
set_option maxHeartbeats 1000000
namespace Pd
open PySem PySem.Spec PyProof.Rows L2
section
variable {X : Cx} {vs0 : List V} {K : PySem.W.Frag} {B H : Hp}
theorem Good.int {σ : L2.St} {ρ : Env} {fs : Nat → List Addr} {i : Nat} {m : Int} (g : Good K vs0 B H σ ρ fs) (e : ρ[i]? = some (some (.p (.int m)))) : σ[i]? = some (some (.int m)) := by
  obtain ⟨v, h1, h2, _⟩ := g.at_ i _ e
  cases h2.1
  exact h1
end
end Pd
set_option Elab.async false
set_option linter.all false
set_option maxRecDepth 100000
set_option maxHeartbeats 1000000
set_option Elab.async false
set_option linter.all false
set_option maxRecDepth 100000
set_option maxHeartbeats 1000000
set_option Elab.async false
set_option linter.all false
set_option maxRecDepth 100000
set_option maxHeartbeats 1000000
namespace Pd
open PySem PySem.Spec PyProof.Rows L2
namespace B
section
variable {ρ : Env}
theorem ev_Rappend {j : Nat} {r : Rs} {Q : Rs → Env → Prop} (h : Ev (takeR r) ρ fun s ρ1 => ∃ t l, ρ1[j]? = some (some (.mr t l)) ∧ s.tag = none ∧ l.length < sizeLine ∧ Q (.own (.p .none)) (ρ1.set j (some (.mr t (l ++ [s]))))) : Ev (oR_append [.bor j, r]) ρ Q := by
  obtain ⟨s, ρ1, e, t, l, h1, h2, h3, q⟩ := h
  refine ⟨_, _, ?_, q⟩
  unfold oR_append M.bind
  simp only [e, h1, h2, h3, and_self, if_true]
end
end B
end Pd
set_option Elab.async false
set_option linter.all false
set_option maxRecDepth 100000
set_option maxHeartbeats 1000000
namespace Pd
open PySem PySem.Spec PyProof.Rows L2
section
variable {ρ : Env}
theorem ev_Rappend {j : Nat} {r : Rs} {Q : Rs → Env → Prop} (h : Ev (takeR r) ρ fun s ρ1 => ∃ t l, ρ1[j]? = some (some (.mr t l)) ∧ s.tag = none ∧ l.length < sizeLine ∧ Q (.own (.p .none)) (ρ1.set j (some (.mr t (l ++ [s]))))) : Ev (oR_append [.bor j, r]) ρ Q := B.ev_Rappend h
end
end Pd
set_option Elab.async false
set_option linter.all false
set_option maxRecDepth 100000
set_option maxHeartbeats 1000000
set_option Elab.async false
set_option linter.all false
set_option maxRecDepth 100000
set_option maxHeartbeats 1000000
set_option Elab.async false
set_option linter.all false
set_option maxRecDepth 100000
set_option maxHeartbeats 1000000
set_option Elab.async false
set_option linter.all false
set_option maxRecDepth 100000
set_option maxHeartbeats 2000000
namespace Pd
open PySem PySem.Spec PyProof.Rows L2
open PySem.W (EachIs)
theorem u1 {n : Nat} (h : n + 64 < cLine) : n + 1 < cLine := by omega
end Pd
set_option Elab.async false
set_option linter.all false
set_option maxRecDepth 100000
set_option maxHeartbeats 2000000
namespace Pd
open PySem PySem.Spec PyProof.Rows L2
open PySem.W (EachIs)
abbrev Tq := List ((Int × Int) × Int)
def Stay (H0 H : Hp) : Prop := ∀ c, H0 c ≠ none → H c = H0 c
theorem Stay.refl (H : Hp) : Stay H H := fun _ _ => rfl
theorem Stay.trans {H0 H1 H2 : Hp} (a : Stay H0 H1) (b : Stay H1 H2) : Stay H0 H2 := fun c h => by
  have h1 := a c h
  exact (b c (by rw [h1]; exact h)).trans h1
theorem Stay.put {H0 H : Hp} {p : Addr} {o : HO} (e : Stay H0 H) (h : H0 p = none) : Stay H0 (upd H p o) := fun c hc => by
  rw [upd_ne (show c ≠ p from fun q => hc (by rw [q]; exact h))]
  exact e c hc
theorem Stay.fresh {H0 H : Hp} {p : Addr} (e : Stay H0 H) (h : H p = none) : H0 p = none := by
  cases q : H0 p with
  | none => rfl
  | some o =>
    have := e p (by rw [q]; simp)
    rw [h, q] at this
    cases this
theorem Stay.new {H0 H : Hp} {p : Addr} {o : HO} (e : Stay H0 H) (h : H p = none) : Stay H0 (upd H p o) := e.put (e.fresh h)
theorem Stay.at {H0 H : Hp} {p : Addr} {o : HO} (e : Stay H0 H) (h : H0 p = some o) : H p = some o := by rw [e p (by rw [h]; simp), h]
end Pd
set_option Elab.async false
set_option linter.all false
set_option maxRecDepth 100000
set_option maxHeartbeats 1000000
namespace Pd
open PySem PySem.Spec PyProof.Rows L2
def bareE (ρ : Env) : Env := ρ.map fun o => o.map Sl.bare
theorem bareE_get {ρ : Env} {i : Nat} : (bareE ρ)[i]? = (ρ[i]?).map fun o => o.map Sl.bare := by simp [bareE]
theorem bareE_length {ρ : Env} : (bareE ρ).length = ρ.length := by simp [bareE]
def openL : List (Nat × Nat) → List Sl → Nat → Env → Option (List Sl × Env)
  | [], l, _, ρ => some (l, ρ)
  | (i, k) :: ps, l, n, ρ => if i < ρ.length then match l[k]? with
      | some (.p d) => openL ps l (n + 1) (ρ.set i (some (.p d)))
      | some s => openL ps (l.set k (.hl none)) (n + 1) (ρ.set i (some (s.mark n)))
      | none => none
    else none
def closeL : List (Nat × Nat) → List Sl → Nat → Env → Option (List Sl × Env)
  | [], l, _, ρ => some (l, ρ)
  | (i, k) :: ps, l, n, ρ => match l[k]? with
    | some (.hl none) => match ρ[i]? with
      | some (some s) => if s.tag = some n then closeL ps (l.set k s.bare) (n + 1) (ρ.set i none) else none
      | _ => none
    | some _ => closeL ps l (n + 1) ρ
    | none => none
def keepL : List Nat → Nat → Env → Option Env
  | [], _, ρ => some ρ
  | j :: js, n, ρ => if j < ρ.length then keepL js (n + 1) (ρ.set j (some (.hl (some n)))) else none
def keptL : List Nat → Nat → Env → Bool
  | [], _, _ => true
  | j :: js, n, ρ => (match ρ[j]? with
    | some (some (.hl (some m))) => m == n
    | _ => false) && keptL js (n + 1) ρ
def gPart (ps : List (Nat × Nat)) (js : List Nat) (l : List Sl) (g : M Fl) : Env → Option (Fl × List Sl × Env) := fun ρ => match keepL js ps.length (bareE ρ) with
  | none => none
  | some ρ0 => match openL ps l 0 ρ0 with
    | none => none
    | some (lh, ρ1) => match g ρ1 with
      | none => none
      | some (.ok fl ρ2) => match fl with
        | .rt s => some (.rt s, [], ρ2.map fun _ => none)
        | fl => if keptL js ps.length ρ2 = true then match closeL ps lh 0 ρ2 with
            | some (l', ρ3) => some (fl, l', bareE ρ3)
            | none => none
          else none
section
variable {K : PySem.W.Frag} {vs0 vs1 : List V} {B H : Hp} {σ : L2.St} {ρ : Env} {fs : Nat → List Addr}
theorem Good.bareN (g : Good K vs0 B H σ ρ fs) : Good K vs1 B H σ (bareE ρ) fs where
  ext := g.ext
  len := by rw [bareE_length]; exact g.len
  at_ := fun i s h => by
    rw [bareE_get] at h
    cases e : ρ[i]? with
    | none => rw [e] at h; cases h
    | some o =>
      rw [e] at h
      cases o with
      | none => cases h
      | some s' =>
        cases h
        obtain ⟨v, h1, h2, h3⟩ := g.at_ i s' e
        exact ⟨v, h1, h2.bare, fun k h => by rw [Sl.bare_tag] at h; cases h⟩
  emp := fun i h => g.emp i fun s q => h s.bare (by rw [bareE_get, q]; rfl)
  dis := g.dis
  out := g.out
theorem Good.forget (g : Good K vs1 B H σ ρ fs) : Good K vs0 B H σ (ρ.map fun _ => none) (fun _ => []) where
  ext := g.ext
  len := by simp [g.len]
  at_ := fun i s h => by
    rw [List.getElem?_map] at h
    cases e : ρ[i]? with
    | none => rw [e] at h; cases h
    | some o => rw [e] at h; cases h
  emp := fun _ _ => rfl
  dis := fun i j a h => nomatch h
  out := fun i a h => nomatch h
theorem set_same {σ : L2.St} {i : Nat} {v : V} (h : σ[i]? = some (some v)) : σ.set i (some v) = σ := by
  apply List.ext_getElem?
  intro j
  by_cases q : j = i
  · subst q
    rw [List.getElem?_set_self (List.getElem?_eq_some_iff.mp h).1, h]
  · rw [List.getElem?_set_ne (Ne.symm q)]
theorem mark_tag {s : Sl} {n k : Nat} (h : (s.mark n).tag = some k) : k = n := by
  cases s <;> simp [Sl.mark, Sl.tag] at h <;> exact h.symm
theorem keepL_ok : ∀ {js : List Nat} {n : Nat} {ρ ρ0 : Env} {fs : Nat → List Addr}, keepL js n ρ = some ρ0 → Good K vs1 B H σ ρ fs → (∀ q j, js[q]? = some j → ∃ v, σ[j]? = some (some v) ∧ vs1[n + q]? = some v) →
    ∃ fs0, Good K vs1 B H σ ρ0 fs0 ∧ ∀ a, InF fs0 a → InF fs a
  | [], n, ρ, ρ0, fs, e, g, h => by cases e; exact ⟨fs, g, fun _ h => h⟩
  | j :: js, n, ρ, ρ0, fs, e, g, h => by
    unfold keepL at e
    split at e
    · rename_i hj
      obtain ⟨v, h1, h2⟩ := h 0 j rfl
      have g1 := g.put (i := j) (v := v) (s := .hl (some n)) (T := []) hj rfl (fun k hk => by cases hk; exact h2) (fun a ha => nomatch ha)
      rw [set_same h1] at g1
      obtain ⟨fs0, g2, s2⟩ := keepL_ok e g1 fun q j' hq => by
        obtain ⟨v', r1, r2⟩ := h (q + 1) j' (by simpa using hq)
        exact ⟨v', r1, by rw [show n + 1 + q = n + (q + 1) by omega]; exact r2⟩
      refine ⟨fs0, g2, fun a ha => ?_⟩
      obtain ⟨i, hi⟩ := s2 a ha
      try dsimp only at hi
      by_cases z : i = j
      · rw [if_pos z] at hi; cases hi
      · rw [if_neg z] at hi; exact ⟨i, hi⟩
    · cases e
theorem keptL_ok : ∀ {js : List Nat} {n : Nat}, keptL js n ρ = true → Good K vs1 B H σ ρ fs → ∀ q j v, js[q]? = some j → vs1[n + q]? = some v → σ[j]? = some (some v)
  | [], n, e, g, q, j, v, h, _ => by simp at h
  | i :: js, n, e, g, q, j, v, h, hv => by
    unfold keptL at e
    rw [Bool.and_eq_true] at e
    cases q with
    | zero =>
      simp at h
      subst h
      have e1 := e.1
      split at e1
      · rename_i m hm
        have e1 : m = n := by simpa using e1
        subst e1
        obtain ⟨v', h1, _, h3⟩ := g.at_ i _ hm
        have := h3 m rfl
        rw [Nat.add_zero] at hv
        rw [hv] at this
        cases this
        exact h1
      · cases e1
    | succ q =>
      refine keptL_ok e.2 g q j v (by simpa using h) ?_
      rw [show n + 1 + q = n + (q + 1) by omega]
      exact hv
theorem openL_ok : ∀ {ps : List (Nat × Nat)} {l : List Sl} {n : Nat} {ρ : Env} {fs : Nat → List Addr} {Us : List (List Addr)} {lh : List Sl} {ρo : Env} {xs : List V}, openL ps l n ρ = some (lh, ρo) → Good K vs1 B H σ ρ fs → OwnL K B H xs l Us → Us.flatten.Nodup → (∀ a ∈ Us.flatten, B a = none ∧ ∀ i, a ∉ fs i) →
    (∀ q i k, ps[q]? = some (i, k) → ∃ v, xs[k]? = some v ∧ σ[i]? = some (some v) ∧ vs1[n + q]? = some v) →
    ∃ fso Uh, Good K vs1 B H σ ρo fso ∧ OwnL K B H xs lh Uh ∧ Uh.flatten.Nodup ∧ (∀ a ∈ Uh.flatten, B a = none ∧ ∀ i, a ∉ fso i) ∧ (∀ a ∈ Uh.flatten, a ∈ Us.flatten) ∧ ∀ a, InF fso a → UnF (InF fs) Us.flatten a
  | [], l, n, ρ, fs, Us, lh, ρo, xs, e, g, ow, nd, off, nm => by
    cases e
    exact ⟨fs, Us, g, ow, nd, off, fun _ h => h, fun a h => Or.inl h⟩
  | (i, k) :: ps, l, n, ρ, fs, Us, lh, ρo, xs, e, g, ow, nd, off, nm => by
    have nm' : ∀ q i k, ps[q]? = some (i, k) → ∃ v, xs[k]? = some v ∧ σ[i]? = some (some v) ∧ vs1[n + 1 + q]? = some v := fun q i k hq => by
      obtain ⟨v, r1, r2, r3⟩ := nm (q + 1) i k (by simpa using hq)
      exact ⟨v, r1, r2, by rw [show n + 1 + q = n + (q + 1) by omega]; exact r3⟩
    obtain ⟨v, hv1, hv2, hv3⟩ := nm 0 i k rfl
    unfold openL at e
    split at e
    · rename_i hi
      split at e
      · rename_i d hd
        obtain ⟨v', Tk, w1, w2, w3⟩ := ow.get hd
        rw [hv1] at w1
        cases w1
        have g1 := g.put (i := i) (v := v) (s := .p d) (T := []) hi ⟨w3.1, rfl⟩ (fun k hk => nomatch hk) (fun a ha => nomatch ha)
        rw [set_same hv2] at g1
        have sub : ∀ a, InF (fun j => if j = i then [] else fs j) a → InF fs a := fun a ha => by
          obtain ⟨j, hj⟩ := ha
          try dsimp only at hj
          by_cases z : j = i
          · rw [if_pos z] at hj; cases hj
          · rw [if_neg z] at hj; exact ⟨j, hj⟩
        obtain ⟨fso, Uh, q1, q2, q3, q4, q5, q6⟩ := openL_ok e g1 ow nd (fun a ha => ⟨(off a ha).1, fun j hj => by
          obtain ⟨j', hj'⟩ := sub a ⟨j, hj⟩
          exact (off a ha).2 j' hj'⟩) nm'
        refine ⟨fso, Uh, q1, q2, q3, q4, q5, fun a ha => ?_⟩
        rcases q6 a ha with h | h
        · exact Or.inl (sub a h)
        · exact Or.inr h
      · rename_i s hs hd
        obtain ⟨v', Tk, w1, w2, w3⟩ := ow.get hd
        rw [hv1] at w1
        cases w1
        have inT : ∀ a ∈ Tk, a ∈ Us.flatten := fun a ha => List.mem_flatten.mpr ⟨Tk, List.mem_of_getElem? w2, ha⟩
        have g1 := g.put (i := i) (v := v) (s := s.mark n) (T := Tk) hi w3.mark (fun k hk => by rw [mark_tag hk]; exact hv3) (fun a ha => ⟨(off a (inT a ha)).1, fun j _ => (off a (inT a ha)).2 j⟩)
        rw [set_same hv2] at g1
        have ow1 : OwnL K B H xs (l.set k (.hl none)) (Us.set k []) := OwnL.set (Same.refl B) ow (fun _ _ _ _ _ _ => rfl) hv1 rfl
        have nd1 : (Us.set k []).flatten.Nodup := flat_set_nodup nd w2 List.nodup_nil (fun a ha => nomatch ha)
        have sub1 : ∀ a ∈ (Us.set k []).flatten, a ∈ Us.flatten ∧ a ∉ Tk := fun a ha => by
          rcases flat_set_mem ha with h | ⟨j, T, h1, h2, h3⟩
          · cases h
          · exact ⟨List.mem_flatten.mpr ⟨T, List.mem_of_getElem? h2, h3⟩, fun h => h1 (flat_injL nd h2 w2 h3 h)⟩
        obtain ⟨fso, Uh, q1, q2, q3, q4, q5, q6⟩ := openL_ok e g1 ow1 nd1 (fun a ha => ⟨(off a (sub1 a ha).1).1, fun j hj => by
          try dsimp only at hj
          by_cases z : j = i
          · rw [if_pos z] at hj; exact (sub1 a ha).2 hj
          · rw [if_neg z] at hj; exact (off a (sub1 a ha).1).2 j hj⟩) nm'
        refine ⟨fso, Uh, q1, q2, q3, q4, fun a ha => (sub1 a (q5 a ha)).1, fun a ha => ?_⟩
        rcases q6 a ha with ⟨j, hj⟩ | h
        · try dsimp only at hj
          by_cases z : j = i
          · rw [if_pos z] at hj; exact Or.inr (inT a hj)
          · rw [if_neg z] at hj; exact Or.inl ⟨j, hj⟩
        · exact Or.inr (sub1 a h).1
      · cases e
    · cases e
theorem closeL_ok : ∀ {ps : List (Nat × Nat)} {l : List Sl} {n : Nat} {ρ : Env} {fs : Nat → List Addr} {Us : List (List Addr)} {l' : List Sl} {ρc : Env} {xs : List V}, closeL ps l n ρ = some (l', ρc) → Good K vs1 B H σ ρ fs → OwnL K B H xs l Us → Us.flatten.Nodup → (∀ a ∈ Us.flatten, B a = none ∧ ∀ i, a ∉ fs i) →
    (∀ q i k, ps[q]? = some (i, k) → ∃ v, xs[k]? = some v ∧ vs1[n + q]? = some v) →
    ∃ fsc U', Good K vs1 B H σ ρc fsc ∧ OwnL K B H xs l' U' ∧ U'.flatten.Nodup ∧ (∀ a ∈ U'.flatten, B a = none ∧ ∀ i, a ∉ fsc i) ∧ (∀ a, InF fsc a → InF fs a) ∧ ∀ a ∈ U'.flatten, UnF (InF fs) Us.flatten a
  | [], l, n, ρ, fs, Us, l', ρc, xs, e, g, ow, nd, off, nm => by
    cases e
    exact ⟨fs, Us, g, ow, nd, off, fun _ h => h, fun a h => Or.inr h⟩
  | (i, k) :: ps, l, n, ρ, fs, Us, l', ρc, xs, e, g, ow, nd, off, nm => by
    have nm' : ∀ q i k, ps[q]? = some (i, k) → ∃ v, xs[k]? = some v ∧ vs1[n + 1 + q]? = some v := fun q i k hq => by
      obtain ⟨v, r1, r3⟩ := nm (q + 1) i k (by simpa using hq)
      exact ⟨v, r1, by rw [show n + 1 + q = n + (q + 1) by omega]; exact r3⟩
    obtain ⟨v, hv1, hv3⟩ := nm 0 i k rfl
    unfold closeL at e
    split at e
    · rename_i hk
      split at e
      · rename_i s hs
        split at e
        · rename_i ht
          obtain ⟨v', z1, z2, z3⟩ := g.at_ i s hs
          have := z3 n ht
          rw [Nat.add_zero] at hv3
          rw [hv3] at this
          cases this
          obtain ⟨v', Tk, w1, w2, w3⟩ := ow.get hk
          rw [hv1] at w1
          cases w1
          have hTk : Tk = [] := w3
          subst hTk
          have g1 := g.drop i
          have ow1 : OwnL K B H xs (l.set k s.bare) (Us.set k (fs i)) := OwnL.set (Same.refl B) ow (fun _ _ _ _ _ _ => rfl) hv1 z2.bare
          have dis : ∀ a ∈ fs i, a ∈ Us.flatten → a ∈ ([] : List Addr) := fun a ha hu => absurd ha ((off a hu).2 i)
          have nd1 : (Us.set k (fs i)).flatten.Nodup := flat_set_nodup nd w2 z2.nodup dis
          have sub1 : ∀ a ∈ (Us.set k (fs i)).flatten, a ∈ fs i ∨ a ∈ Us.flatten := fun a ha => by
            rcases flat_set_mem ha with h | ⟨j, T, h1, h2, h3⟩
            · exact Or.inl h
            · exact Or.inr (List.mem_flatten.mpr ⟨T, List.mem_of_getElem? h2, h3⟩)
          have off1 : ∀ a ∈ (Us.set k (fs i)).flatten, B a = none ∧ ∀ j, a ∉ (fun j => if j = i then [] else fs j) j := fun a ha => by
            rcases sub1 a ha with h | h
            · refine ⟨g.out i a h, fun j hj => ?_⟩
              try dsimp only at hj
              by_cases z : j = i
              · rw [if_pos z] at hj; cases hj
              · rw [if_neg z] at hj; exact z (g.dis j i a hj h)
            · refine ⟨(off a h).1, fun j hj => ?_⟩
              try dsimp only at hj
              by_cases z : j = i
              · rw [if_pos z] at hj; cases hj
              · rw [if_neg z] at hj; exact (off a h).2 j hj
          obtain ⟨fsc, U', q1, q2, q3, q4, q5, q6⟩ := closeL_ok e g1 ow1 nd1 off1 nm'
          have sub2 : ∀ a, InF (fun j => if j = i then [] else fs j) a → InF fs a := fun a ha => by
            obtain ⟨j, hj⟩ := ha
            try dsimp only at hj
            by_cases z : j = i
            · rw [if_pos z] at hj; cases hj
            · rw [if_neg z] at hj; exact ⟨j, hj⟩
          refine ⟨fsc, U', q1, q2, q3, q4, fun a ha => sub2 a (q5 a ha), fun a ha => ?_⟩
          rcases q6 a ha with h | h
          · exact Or.inl (sub2 a h)
          · rcases sub1 a h with h | h
            · exact Or.inl ⟨i, h⟩
            · exact Or.inr h
        · cases e
      · cases e
    · exact closeL_ok e g ow nd off nm'
    · cases e
theorem closeL_name : ∀ {ps : List (Nat × Nat)} {l : List Sl} {n : Nat} {ρ : Env} {fs : Nat → List Addr} {l' : List Sl} {ρc : Env}, closeL ps l n ρ = some (l', ρc) → Good K vs1 B H σ ρ fs → (ps.map (·.2)).Nodup → ∀ q i k v, ps[q]? = some (i, k) → l[k]? = some (.hl none) → vs1[n + q]? = some v → σ[i]? = some (some v)
  | [], l, n, ρ, fs, l', ρc, e, g, nd, q, i, k, v, h, _, _ => by simp at h
  | (i0, k0) :: ps, l, n, ρ, fs, l', ρc, e, g, nd, q, i, k, v, h, hk, hv => by
    rw [List.map_cons, List.nodup_cons] at nd
    unfold closeL at e
    cases q with
    | zero =>
      simp at h
      obtain ⟨rfl, rfl⟩ := h
      rw [hk] at e
      dsimp only at e
      split at e
      · rename_i s hs
        split at e
        · rename_i ht
          obtain ⟨v', z1, z2, z3⟩ := g.at_ i0 s hs
          have := z3 n ht
          rw [Nat.add_zero] at hv
          rw [hv] at this
          cases this
          exact z1
        · cases e
      · cases e
    | succ q =>
      have hq : ps[q]? = some (i, k) := by simpa using h
      have hkk : k ≠ k0 := fun z => nd.1 (by rw [← z]; exact List.mem_map.mpr ⟨(i, k), List.mem_of_getElem? hq, rfl⟩)
      have hv' : vs1[n + 1 + q]? = some v := by rw [show n + 1 + q = n + (q + 1) by omega]; exact hv
      split at e
      · split at e
        · rename_i s hs
          split at e
          · exact closeL_name e (g.drop i0) nd.2 q i k v hq (by rw [List.getElem?_set_ne (Ne.symm hkk)]; exact hk) hv'
          · cases e
        · cases e
      · exact closeL_name e g nd.2 q i k v hq hk hv'
      · cases e
theorem openL_hole : ∀ {ps : List (Nat × Nat)} {l : List Sl} {n : Nat} {ρ : Env} {lh : List Sl} {ρo : Env} {k : Nat}, openL ps l n ρ = some (lh, ρo) → (l[k]? = some (.hl none) → lh[k]? = some (.hl none)) ∧ (∀ i, (i, k) ∈ ps → (∀ d, l[k]? ≠ some (.p d)) → lh[k]? = some (.hl none))
  | [], l, n, ρ, lh, ρo, k, e => by cases e; exact ⟨fun h => h, fun i h => nomatch h⟩
  | (i0, k0) :: ps, l, n, ρ, lh, ρo, k, e => by
    unfold openL at e
    split at e
    · split at e
      · rename_i d hd
        obtain ⟨h1, h2⟩ := openL_hole (k := k) e
        refine ⟨h1, fun i hi hn => ?_⟩
        rcases List.mem_cons.mp hi with h | h
        · cases h
          exact absurd hd (hn d)
        · exact h2 i h hn
      · rename_i s hs hd
        obtain ⟨h1, h2⟩ := openL_hole (k := k) e
        have hl : k0 < l.length := (List.getElem?_eq_some_iff.mp hd).1
        by_cases z : k = k0
        · subst z
          have := h1 (List.getElem?_set_self hl)
          exact ⟨fun _ => this, fun _ _ _ => this⟩
        · rw [List.getElem?_set_ne (Ne.symm z)] at h1 h2
          refine ⟨h1, fun i hi hn => ?_⟩
          rcases List.mem_cons.mp hi with h | h
          · cases h
            exact absurd rfl z
          · exact h2 i h hn
      · cases e
    · cases e
end
def Ends.at (D : Ends) : Fl → L2.St → Hp → Prop
  | .nx => D.nx
  | .bk => D.bk
  | .ct => D.ct
  | .rt _ => fun _ _ => False
structure WantP (K : PySem.W.Frag) (vs0 : List V) (D : Ends) (B H : Hp) (F : Addr → Prop) (o : Addr) (xs : List V) (σ : L2.St) (ps : List (Nat × Nat)) (js : List Nat) (l : List Sl) (fl : Fl) (l' : List Sl) (ρ' : Env) : Prop where
  rt : ∀ s, fl = .rt s → ∀ v σ' B' H' fs' T, Fr B H F B' H' (UnF (InF fs') T) → Good K vs0 B' H' σ' ρ' fs' → RsOk K B' H' σ' fs' v (.own s) T → D.rt v H'
  go : (∀ s, fl ≠ .rt s) → ∀ σ' B' H' fs' U', Fr B H F B' H' (UnF (InF fs') (o :: U'.flatten)) → Good K vs0 B' H' σ' ρ' fs' → OwnL K B' H' xs l' U' → (o :: U'.flatten).Nodup → (∀ a ∈ o :: U'.flatten, B' a = none ∧ ∀ i, a ∉ fs' i) → H' o = some (.lst xs) →
    (∀ j ∈ js, σ'[j]? = σ[j]?) → ((ps.map (·.2)).Nodup → ∀ i k, (i, k) ∈ ps → (∀ d, l[k]? ≠ some (.p d)) → σ'[i]? = σ[i]?) → Ends.at D fl σ' H'
theorem part_ok {K : PySem.W.Frag} {vs0 : List V} {D : Ends} {B H : Hp} {σ : L2.St} {ρ : Env} {fs : Nat → List Addr} {o : Addr} {xs : List V} {l : List Sl} {Us : List (List Addr)} {ps : List (Nat × Nat)} {js : List Nat} {g : M Fl} {fl : Fl} {l' : List Sl} {ρ' : Env}
    (gd : Good K vs0 B H σ ρ fs) (hx : H o = some (.lst xs)) (ow : OwnL K B H xs l Us) (nd : (o :: Us.flatten).Nodup) (off : ∀ a ∈ o :: Us.flatten, B a = none ∧ ∀ i, a ∉ fs i)
    (nm : ∀ i k, (i, k) ∈ ps → ∃ v, xs[k]? = some v ∧ σ[i]? = some (some v)) (kj : ∀ j ∈ js, ∃ v, σ[j]? = some (some v)) (e : gPart ps js l g ρ = some (fl, l', ρ'))
    (w : WantP K vs0 D B H (UnF (InF fs) (o :: Us.flatten)) o xs σ ps js l fl l' ρ') : ∃ vs1, rdS K vs1 g D σ H := by
  refine ⟨ps.map (fun p => (xs[p.2]?).getD .non) ++ js.map (fun j => ((σ[j]?).getD none).getD .non), ?_⟩
  generalize hvs : (ps.map (fun p => (xs[p.2]?).getD .non) ++ js.map (fun j => ((σ[j]?).getD none).getD .non)) = vs1
  have hp : ∀ q i k, ps[q]? = some (i, k) → ∃ v, xs[k]? = some v ∧ σ[i]? = some (some v) ∧ vs1[0 + q]? = some v := fun q i k hq => by
    obtain ⟨v, h1, h2⟩ := nm i k (List.mem_of_getElem? hq)
    refine ⟨v, h1, h2, ?_⟩
    have hlt : q < ps.length := (List.getElem?_eq_some_iff.mp hq).1
    rw [← hvs, Nat.zero_add, List.getElem?_append_left (by rw [List.length_map]; exact hlt), List.getElem?_map, hq]
    simp [h1]
  have hj : ∀ q j, js[q]? = some j → ∃ v, σ[j]? = some (some v) ∧ vs1[ps.length + q]? = some v := fun q j hq => by
    obtain ⟨v, h1⟩ := kj j (List.mem_of_getElem? hq)
    refine ⟨v, h1, ?_⟩
    rw [← hvs, List.getElem?_append_right (by rw [List.length_map]; omega), List.length_map, Nat.add_sub_cancel_left, List.getElem?_map, hq]
    simp [h1]
  unfold gPart at e
  split at e
  · cases e
  · rename_i ρ0 e0
    split at e
    · cases e
    · rename_i lh ρ1 e1
      split at e
      · cases e
      · rename_i fl2 ρ2 e2
        obtain ⟨fs0, g0, s0⟩ := keepL_ok e0 (gd.bareN (vs1 := vs1)) hj
        have nd' := List.nodup_cons.mp nd
        obtain ⟨fs1, Uh, g1, ow1, nd1, off1, sU, s1⟩ := openL_ok e1 g0 ow nd'.2 (fun a ha => ⟨(off a (List.mem_cons_of_mem _ ha)).1, fun i hi => by
          obtain ⟨j, hj⟩ := s0 a ⟨i, hi⟩
          exact (off a (List.mem_cons_of_mem _ ha)).2 j hj⟩) hp
        have sF : ∀ a, InF fs1 a → UnF (InF fs) Us.flatten a := fun a ha => by
          rcases s1 a ha with h | h
          · exact Or.inl (s0 a h)
          · exact Or.inr h
        have ho : ∀ a ∈ o :: Uh.flatten, ¬ InF fs1 a := fun a ha hi => by
          rcases List.mem_cons.mp ha with rfl | ha
          · rcases sF a hi with ⟨j, hj⟩ | h
            · exact (off a (by simp)).2 j hj
            · exact nd'.1 h
          · obtain ⟨j, hj⟩ := hi
            exact (off1 a ha).2 j hj
        have lv : ∀ a ∈ o :: Uh.flatten, H a ≠ none := fun a ha => by
          rcases List.mem_cons.mp ha with rfl | ha
          · rw [hx]; simp
          · exact OwnL.liveA ow1 a ha
        have bo : ∀ a ∈ o :: Uh.flatten, B a = none := fun a ha => by
          rcases List.mem_cons.mp ha with rfl | ha
          · exact (off a (by simp)).1
          · exact (off1 a ha).1
        have ndo : (o :: Uh.flatten).Nodup := List.nodup_cons.mpr ⟨fun h => nd'.1 (sU _ h), nd1⟩
        refine rdS_of g1 e2 ?_
        have frW : ∀ {B' H' : Hp} {fs' : Nat → List Addr} {F' : Addr → Prop}, Fr B H (InF fs1) B' H' F' → Fr B H (UnF (InF fs) (o :: Us.flatten)) B' H' (UnF F' (o :: Uh.flatten)) := fun {B' H' fs' F'} fr =>
          (fr.frame (o :: Uh.flatten)).weak (fun a h => by
            rcases h with h | h
            · rcases sF a h with h | h
              · exact Or.inl h
              · exact Or.inr (List.mem_cons_of_mem _ h)
            · rcases List.mem_cons.mp h with rfl | h
              · exact Or.inr (by simp)
              · exact Or.inr (List.mem_cons_of_mem _ (sU a h))) fun a h => Or.inl h
        have run : (∀ s, fl2 ≠ .rt s) → ∀ σ' B' H' fs', Fr B H (InF fs1) B' H' (InF fs') → Good K vs1 B' H' σ' ρ2 fs' → Ends.at D fl2 σ' H' := by
          intro hn σ' B' H' fs' fr g'
          have e' : (if keptL js ps.length ρ2 = true then match closeL ps lh 0 ρ2 with
            | some (l', ρ3) => some (fl2, l', bareE ρ3)
            | none => none
          else none) = some (fl, l', ρ') := by
            cases fl2 with
            | rt s => exact absurd rfl (hn s)
            | nx => exact e
            | bk => exact e
            | ct => exact e
          split at e'
          · rename_i hk
            split at e'
            · rename_i l3 ρ3 ec
              cases e'
              have kp : ∀ a ∈ o :: Uh.flatten, H' a = H a := fun a ha => fr.keep a (lv a ha) (ho a ha)
              have off2 : ∀ a ∈ o :: Uh.flatten, B' a = none ∧ ∀ i, a ∉ fs' i := fun a ha => ⟨fr.bnew a (lv a ha) (ho a ha) (bo a ha), fun i hi => by
                rcases fr.own a ⟨i, hi⟩ with h | h
                · exact ho a ha h
                · exact lv a ha h⟩
              have ow2 : OwnL K B' H' xs lh Uh := OwnL.keepA fr.bb ow1 fun a ha => kp a (List.mem_cons_of_mem _ ha)
              obtain ⟨fsc, U', q1, q2, q3, q4, q5, q6⟩ := closeL_ok ec g' ow2 nd1 (fun a ha => off2 a (List.mem_cons_of_mem _ ha)) fun q i k hq => by
                obtain ⟨v, r1, _, r3⟩ := hp q i k hq
                exact ⟨v, r1, r3⟩
              have ou : o ∉ U'.flatten := fun h => by
                rcases q6 o h with ⟨j, hj⟩ | h
                · exact (off2 o (by simp)).2 j hj
                · exact (List.nodup_cons.mp ndo).1 h
              refine w.go hn σ' B' H' fsc U' ((frW (fs' := fs') fr).weak (fun _ h => h) fun a h => ?_) q1.bareN q2 (List.nodup_cons.mpr ⟨ou, q3⟩) (fun a ha => ?_) ?_ (fun j hj' => ?_) fun ndk i k hik hfl => ?_
              · rcases h with h | h
                · exact Or.inl (Or.inl (q5 a h))
                · rcases List.mem_cons.mp h with rfl | h
                  · exact Or.inl (Or.inr (by simp))
                  · rcases q6 a h with h | h
                    · exact Or.inl (Or.inl h)
                    · exact Or.inl (Or.inr (List.mem_cons_of_mem _ h))
              · rcases List.mem_cons.mp ha with rfl | ha
                · refine ⟨(off2 a (by simp)).1, fun i hi => ?_⟩
                  obtain ⟨j, hj⟩ := q5 a ⟨i, hi⟩
                  exact (off2 a (by simp)).2 j hj
                · exact q4 a ha
              · rw [kp o (by simp)]; exact hx
              · obtain ⟨q, hq⟩ := List.getElem?_of_mem hj'
                obtain ⟨v, r1, r2⟩ := hj q j hq
                rw [r1]
                exact keptL_ok hk g' q j v hq r2
              · obtain ⟨q, hq⟩ := List.getElem?_of_mem hik
                obtain ⟨v, r1, r2, r3⟩ := hp q i k hq
                rw [r2]
                exact closeL_name ec g' ndk q i k v hq ((openL_hole e1).2 i hik hfl) r3
            · cases e'
          · cases e'
        cases fl2 with
        | nx => exact fun σ' B' H' fs' fr g' => run (fun s h => nomatch h) σ' B' H' fs' fr g'
        | bk => exact fun σ' B' H' fs' fr g' => run (fun s h => nomatch h) σ' B' H' fs' fr g'
        | ct => exact fun σ' B' H' fs' fr g' => run (fun s h => nomatch h) σ' B' H' fs' fr g'
        | rt s =>
          cases e
          intro v σ' B' H' fs' T fr g' ok
          refine w.rt s rfl v σ' B' H' (fun _ => []) T ((frW (fs' := fs') fr).weak (fun _ h => h) fun a h => ?_) g'.forget ⟨ok.1, ok.2.1, fun a ha => ⟨(ok.2.2 a ha).1, fun i hi => nomatch hi⟩⟩
          rcases h with ⟨j, hj⟩ | h
          · cases hj
          · exact Or.inl (Or.inl (Or.inr h))
theorem pss_any {X : Cx} {st : List Stmt} {g : M Fl} (h : ∀ vs1, PSs X st (rdS X.K vs1 g)) : PSs X st (fun D σ H => ∃ vs1, rdS X.K vs1 g D σ H) := ⟨fun pins s σ H D I q => by
  obtain ⟨vs1, q⟩ := q
  exact (h vs1).run pins s σ H D I q⟩
theorem ps_any {X : Cx} {st : Stmt} {g : M Fl} (h : ∀ vs1, PS X st (rdS X.K vs1 g)) : PS X st (fun D σ H => ∃ vs1, rdS X.K vs1 g D σ H) := ⟨fun pins s σ H D I q => by
  obtain ⟨vs1, q⟩ := q
  exact (h vs1).run pins s σ H D I q⟩
end Pd
set_option Elab.async false
set_option linter.all false
set_option maxRecDepth 100000
set_option maxHeartbeats 1000000
namespace Pd
open PySem PySem.Spec PyProof.Rows L2
def hlAll : List Nat → Env → Env
  | [], ρ => ρ
  | i :: is, ρ => hlAll is (ρ.set i (some (.hl none)))
def turnP (is js : List Nat) (body : M Fl) (k : Nat) (l : List Sl) (ρ : Env) : Option (Fl × List Sl × Env) := match l[k]? with
  | some (.mr none le) => if le.length = is.length ∧ is.Nodup ∧ (∀ i ∈ is, i < ρ.length) ∧ (∀ j ∈ js, j ∉ is) then match gPart (is.zip (List.range is.length)) js le body (hlAll is ρ) with
      | some (fl, le', ρ') => match fl with
        | .rt s => some (.rt s, [], ρ')
        | fl => some (fl, l.set k (.mr none le'), ρ')
      | none => none
    else none
  | _ => none
def loopP (is js : List Nat) (body : M Fl) : List Nat → List Sl → Env → Option (Fl × List Sl × Env)
  | [], l, ρ => some (.nx, l, ρ)
  | k :: ks, l, ρ => match turnP is js body k l ρ with
    | none => none
    | some (fl, l', ρ') => match fl with
      | .nx => loopP is js body ks l' ρ'
      | .ct => loopP is js body ks l' ρ'
      | .bk => none
      | .rt s => some (.rt s, [], ρ')
section
variable {K : PySem.W.Frag} {vs0 : List V} {B H : Hp}
theorem names_ok : ∀ {is : List Nat} {vs : List V} {σ : L2.St} {ρ : Env} {fs : Nat → List Addr} {Q : L2.St → Hp → Prop}, Good K vs0 B H σ ρ fs → vs.length = is.length → is.Nodup → (∀ i ∈ is, i < ρ.length) →
    (∀ (σ' : L2.St) (fs' : Nat → List Addr), Good K vs0 B H σ' (hlAll is ρ) fs' → (∀ a, InF fs' a → InF fs a) → (∀ (q i : Nat) (v : V), is[q]? = some i → vs[q]? = some v → σ'[i]? = some (some v)) → (∀ j, j ∉ is → σ'[j]? = σ[j]?) → Q σ' H) → tNames is vs σ H Q
  | [], [], σ, ρ, fs, Q, g, hl, hi, hr, k => ⟨rfl, k σ fs g (fun _ h => h) (fun q i v h => by simp at h) fun _ _ => rfl⟩
  | i :: is, v :: vs, σ, ρ, fs, Q, g, hl, hi, hr, k => by
    have hir : i < ρ.length := hr i (by simp)
    have g1 := g.put (i := i) (v := v) (s := .hl none) (T := []) hir rfl (fun k h => nomatch h) (fun a ha => nomatch ha)
    have sub : ∀ a, InF (fun j => if j = i then [] else fs j) a → InF fs a := fun a ha => by
      obtain ⟨j, hj⟩ := ha
      try dsimp only at hj
      by_cases z : j = i
      · rw [if_pos z] at hj; cases hj
      · rw [if_neg z] at hj; exact ⟨j, hj⟩
    rw [List.nodup_cons] at hi
    refine ⟨v, vs, rfl, names_ok g1 (by simpa using hl) hi.2 (fun j hj => by rw [List.length_set]; exact hr j (List.mem_cons_of_mem _ hj)) fun σ' fs' g' s' h1 h2 => k σ' fs' g' (fun a h => sub a (s' a h)) (fun q j u hq hu => ?_) fun j hj => ?_⟩
    · cases q with
      | zero =>
        simp at hq hu
        subst hq hu
        rw [h2 i hi.1]
        exact List.getElem?_set_self (by rw [g.len]; exact hir)
      | succ q => exact h1 q j u (by simpa using hq) (by simpa using hu)
    · rw [h2 j fun h => hj (List.mem_cons_of_mem _ h), List.getElem?_set_ne fun h => hj (by rw [h]; simp)]
  | [], _ :: _, _, _, _, _, _, hl, _, _, _ => by simp at hl
  | _ :: _, [], _, _, _, _, _, hl, _, _, _ => by simp at hl
structure Hand (K : PySem.W.Frag) (vs0 : List V) (B H : Hp) (σ : L2.St) (ρ : Env) (fs : Nat → List Addr) (o : Addr) (xs : List V) (l : List Sl) (Us : List (List Addr)) : Prop where
  good : Good K vs0 B H σ ρ fs
  hx : H o = some (.lst xs)
  ow : OwnL K B H xs l Us
  nd : (o :: Us.flatten).Nodup
  off : ∀ a ∈ o :: Us.flatten, B a = none ∧ ∀ i, a ∉ fs i
section
variable {σ : L2.St} {ρ : Env} {fs : Nat → List Addr} {o : Addr} {xs : List V} {l : List Sl} {Us : List (List Addr)}
theorem Hand.live (h : Hand K vs0 B H σ ρ fs o xs l Us) : ∀ a ∈ o :: Us.flatten, H a ≠ none := fun a ha => by
  rcases List.mem_cons.mp ha with rfl | ha
  · rw [h.hx]; simp
  · exact OwnL.liveA h.ow a ha
theorem hand_of {j : Nat} {t : Option Nat} (g : Good K vs0 B H σ ρ fs) (e : ρ[j]? = some (some (.mr t l))) : ∃ o xs Us, σ[j]? = some (some (.ref o)) ∧ fs j = o :: Us.flatten ∧ Hand K vs0 B H σ (ρ.set j none) (fun i => if i = j then [] else fs i) o xs l Us := by
  obtain ⟨v0, z1, ⟨o, xs, Us, rfl, hfs, w1, w2, w3⟩, _⟩ := g.at_ j _ e
  rw [hfs] at w3
  refine ⟨o, xs, Us, z1, hfs, g.drop j, w1, w2, w3, fun a ha => ⟨g.out j a (by rw [hfs]; exact ha), fun i hi => ?_⟩⟩
  try dsimp only at hi
  by_cases z : i = j
  · rw [if_pos z] at hi; cases hi
  · rw [if_neg z] at hi; exact z (g.dis i j a hi (by rw [hfs]; exact ha))
theorem Hand.next {B2 H2 : Hp} {ρ2 : Env} {fs2 : Nat → List Addr} {T : List Addr} (h : Hand K vs0 B H σ ρ fs o xs l Us) (fr : Fr B H (InF fs) B2 H2 (UnF (InF fs2) T)) (g : Good K vs0 B2 H2 σ ρ2 fs2) :
    Hand K vs0 B2 H2 σ ρ2 fs2 o xs l Us ∧ Fr B H (UnF (InF fs) (o :: Us.flatten)) B2 H2 (UnF (InF fs2) (o :: Us.flatten)) := by
  have nf : ∀ a ∈ o :: Us.flatten, ¬ InF fs a := fun a ha hi => by
    obtain ⟨i, hi⟩ := hi
    exact (h.off a ha).2 i hi
  have kp : ∀ a ∈ o :: Us.flatten, H2 a = H a := fun a ha => fr.keep a (h.live a ha) (nf a ha)
  refine ⟨⟨g, by rw [kp o (by simp)]; exact h.hx, OwnL.keepA fr.bb h.ow fun a ha => kp a (List.mem_cons_of_mem _ ha), h.nd, fun a ha => ⟨fr.bnew a (h.live a ha) (nf a ha) (h.off a ha).1, fun i hi => ?_⟩⟩, (fr.frame _).weak (fun _ h => h) fun a h => ?_⟩
  · rcases fr.own a (Or.inl ⟨i, hi⟩) with q | q
    · exact nf a ha q
    · exact h.live a ha q
  · rcases h with h | h
    · exact Or.inl (Or.inl (Or.inl h))
    · exact Or.inl (Or.inr h)
theorem Hand.name {i : Nat} (h : Hand K vs0 B H σ ρ fs o xs l Us) (hi : i < ρ.length) (v : V) : ∃ fs', Hand K vs0 B H (σ.set i (some v)) (ρ.set i (some (.hl none))) fs' o xs l Us ∧ ∀ a, InF fs' a → InF fs a := by
  have g1 := h.good.put (i := i) (v := v) (s := .hl none) (T := []) hi rfl (fun k h => nomatch h) (fun a ha => nomatch ha)
  have sub : ∀ a, InF (fun j => if j = i then [] else fs j) a → InF fs a := fun a ha => by
    obtain ⟨j, hj⟩ := ha
    try dsimp only at hj
    by_cases z : j = i
    · rw [if_pos z] at hj; cases hj
    · rw [if_neg z] at hj; exact ⟨j, hj⟩
  refine ⟨_, ⟨g1, h.hx, h.ow, h.nd, fun a ha => ⟨(h.off a ha).1, fun j hj => ?_⟩⟩, sub⟩
  obtain ⟨j', hj'⟩ := sub a ⟨j, hj⟩
  exact (h.off a ha).2 j' hj'
theorem Hand.give {j : Nat} (h : Hand K vs0 B H σ ρ fs o xs l Us) (hj : j < ρ.length) (e : σ[j]? = some (some (.ref o))) : ∃ fs', Good K vs0 B H σ (ρ.set j (some (.mr none l))) fs' ∧ ∀ a, InF fs' a → UnF (InF fs) (o :: Us.flatten) a := by
  have g := h.good.put (i := j) (v := .ref o) (s := .mr none l) (T := o :: Us.flatten) hj ⟨o, xs, Us, rfl, rfl, h.hx, h.ow, h.nd⟩ (fun k h => nomatch h) (fun a ha => ⟨(h.off a ha).1, fun i _ => (h.off a ha).2 i⟩)
  rw [set_same e] at g
  refine ⟨_, g, fun a ha => ?_⟩
  obtain ⟨i, hi⟩ := ha
  try dsimp only at hi
  by_cases z : i = j
  · rw [if_pos z] at hi; exact Or.inr hi
  · rw [if_neg z] at hi; exact Or.inl ⟨i, hi⟩
theorem Hand.at (h : Hand K vs0 B H σ ρ fs o xs l Us) {k : Nat} {s : Sl} (e : l[k]? = some s) : ∃ v, xs[k]? = some v := by
  obtain ⟨v, T, h1, _, _⟩ := h.ow.get e
  exact ⟨v, h1⟩
end
structure WantT (K : PySem.W.Frag) (vs0 : List V) (D : Ends) (B H : Hp) (F : Addr → Prop) (o : Addr) (xs : List V) (σ : L2.St) (js : List Nat) (fl : Fl) (l' : List Sl) (ρ' : Env) : Prop where
  rt : ∀ s, fl = .rt s → ∀ v σ' B' H' fs' T, Fr B H F B' H' (UnF (InF fs') T) → Good K vs0 B' H' σ' ρ' fs' → RsOk K B' H' σ' fs' v (.own s) T → D.rt v H'
  go : (∀ s, fl ≠ .rt s) → ∀ σ' B' H' fs' U', Fr B H F B' H' (UnF (InF fs') (o :: U'.flatten)) → Hand K vs0 B' H' σ' ρ' fs' o xs l' U' → (∀ j ∈ js, σ'[j]? = σ[j]?) → Ends.at D fl σ' H'
theorem zip_range_get {is : List Nat} {q i k : Nat} (h : (is.zip (List.range is.length))[q]? = some (i, k)) : k = q ∧ is[q]? = some i := by
  rw [List.getElem?_zip_eq_some] at h
  obtain ⟨h1, h2⟩ := h
  have : q < (List.range is.length).length := (List.getElem?_eq_some_iff.mp h2).1
  rw [List.length_range] at this
  rw [List.getElem?_range this] at h2
  cases h2
  exact ⟨rfl, h1⟩
theorem turn_ok {is js : List Nat} {body : M Fl} {fl : Fl} {l l' : List Sl} {ρ ρ' : Env} {D : Ends} {o : Addr} {xs : List V} {k : Nat} {σ : L2.St} {fs : Nat → List Addr} {Us : List (List Addr)} {x : V} {Q : L2.St → Hp → Prop} (hQ : ∀ σ2 H2, (∃ vs1, rdS K vs1 body D σ2 H2) → Q σ2 H2)
    (h : Hand K vs0 B H σ ρ fs o xs l Us) (hxk : xs[k]? = some x) (kj : ∀ j ∈ js, ∃ v, σ[j]? = some (some v)) (e1 : turnP is js body k l ρ = some (fl, l', ρ'))
    (w : WantT K vs0 D B H (UnF (InF fs) (o :: Us.flatten)) o xs σ js fl l' ρ') : gUnl K is.length (tNames is) x σ H Q := by
  obtain ⟨g1, hx1, ow1, nd1, off1⟩ := h
  unfold turnP at e1
  split at e1
  · rename_i le hle
    split at e1
    · rename_i hc
      obtain ⟨c1, c2, c3, c4⟩ := hc
      split at e1
      · rename_i fl2 le' ρ2 e2
        obtain ⟨v', Tk, w1, w2, w3⟩ := ow1.get hle
        rw [hxk] at w1
        cases w1
        obtain ⟨a, zs, Uk, rfl, rfl, hz, owk, ndk⟩ := w3
        have nd1' := List.nodup_cons.mp nd1
        have inT : ∀ b ∈ a :: Uk.flatten, b ∈ Us.flatten := fun b hb => List.mem_flatten.mpr ⟨_, List.mem_of_getElem? w2, hb⟩
        have offk : ∀ b ∈ a :: Uk.flatten, B b = none ∧ ∀ i, b ∉ fs i := fun b hb => off1 b (List.mem_cons_of_mem _ (inT b hb))
        have owr : OwnL K B H xs (l.set k (.hl none)) (Us.set k []) := OwnL.set (Same.refl B) ow1 (fun _ _ _ _ _ _ => rfl) hxk rfl
        have ndr : (Us.set k []).flatten.Nodup := flat_set_nodup nd1'.2 w2 List.nodup_nil (fun a ha => nomatch ha)
        have subr : ∀ b ∈ (Us.set k []).flatten, b ∈ Us.flatten ∧ b ∉ a :: Uk.flatten := fun b hb => by
          rcases flat_set_mem hb with h | ⟨j, T, h1, h2, h3⟩
          · cases h
          · exact ⟨List.mem_flatten.mpr ⟨T, List.mem_of_getElem? h2, h3⟩, fun h => h1 (flat_injL nd1'.2 h2 w2 h3 h)⟩
        have oT : o ∉ a :: Uk.flatten := fun h => nd1'.1 (inT o h)
        have rest : ∀ b ∈ o :: (Us.set k []).flatten, b ∈ o :: Us.flatten ∧ b ∉ a :: Uk.flatten := fun b hb => by
          rcases List.mem_cons.mp hb with rfl | hb
          · exact ⟨by simp, oT⟩
          · exact ⟨List.mem_cons_of_mem _ (subr b hb).1, (subr b hb).2⟩
        have lvr : ∀ b ∈ o :: (Us.set k []).flatten, H b ≠ none := fun b hb => by
          rcases List.mem_cons.mp hb with rfl | hb
          · rw [hx1]; simp
          · exact OwnL.liveA owr b hb
        refine ⟨a, zs, rfl, Or.inl (Or.inl hz), by rw [ownL_len owk]; exact c1, names_ok g1 (by rw [ownL_len owk]; exact c1) c2 c3 fun σ2 fs2 g2 s2 n1 n2 => ?_⟩
        have off2 : ∀ b ∈ a :: Uk.flatten, B b = none ∧ ∀ i, b ∉ fs2 i := fun b hb => ⟨(offk b hb).1, fun i hi => by
          obtain ⟨j, hj⟩ := s2 b ⟨i, hi⟩
          exact (offk b hb).2 j hj⟩
        have nf2 : ∀ b ∈ o :: (Us.set k []).flatten, ¬ UnF (InF fs2) (a :: Uk.flatten) b := fun b hb h => by
          rcases h with h | h
          · obtain ⟨j, hj⟩ := s2 b h
            exact (off1 b (rest b hb).1).2 j hj
          · exact (rest b hb).2 h
        have frA : ∀ {B' H' : Hp} {F' : Addr → Prop}, Fr B H (UnF (InF fs2) (a :: Uk.flatten)) B' H' F' → Fr B H (UnF (InF fs) (o :: Us.flatten)) B' H' (UnF F' (o :: (Us.set k []).flatten)) := fun {B' H' F'} fr =>
          ((fr.frame (o :: (Us.set k []).flatten)).weak (fun b h => by
            rcases h with (h | h) | h
            · exact Or.inl (s2 b h)
            · exact Or.inr (List.mem_cons_of_mem _ (inT b h))
            · exact Or.inr (rest b h).1) fun b h => Or.inl h)
        refine hQ _ _ (part_ok g2 hz owk ndk off2 (fun i kk hik => ?_) (fun j hj => ?_) e2 ⟨?_, ?_⟩)
        · obtain ⟨qq, hqq⟩ := List.getElem?_of_mem hik
          obtain ⟨rfl, hi⟩ := zip_range_get hqq
          have hlt2 : kk < zs.length := by
            rw [ownL_len owk, c1]
            exact (List.getElem?_eq_some_iff.mp hi).1
          exact ⟨zs[kk], List.getElem?_eq_getElem hlt2, n1 kk i _ hi (List.getElem?_eq_getElem hlt2)⟩
        · obtain ⟨v, hv⟩ := kj j hj
          exact ⟨v, by rw [n2 j (c4 j hj)]; exact hv⟩
        · intro s hs v σ3 B3 H3 fs3 T fr3 g3 ok3
          subst hs
          cases e1
          exact w.rt s rfl v σ3 B3 H3 fs3 T ((frA fr3).weak (fun _ h => h) fun b h => by
            rcases h with h | h
            · exact Or.inl (Or.inl (Or.inl h))
            · exact Or.inl (Or.inl (Or.inr h))) g3 ok3
        · intro hn σ3 B3 H3 fs3 U3 fr3 g3 ow3 nd3 off3 hz3 js3 _
          have kp3 : ∀ b ∈ o :: (Us.set k []).flatten, H3 b = H b := fun b hb => fr3.keep b (lvr b hb) (nf2 b hb)
          have nw3 : ∀ b ∈ o :: (Us.set k []).flatten, ¬ UnF (InF fs3) (a :: U3.flatten) b := fun b hb h => by
            rcases fr3.own b h with h | h
            · exact nf2 b hb h
            · exact lvr b hb h
          have bn3 : ∀ b ∈ o :: (Us.set k []).flatten, B3 b = none := fun b hb => fr3.bnew b (lvr b hb) (nf2 b hb) (off1 b (rest b hb).1).1
          have ow4 : OwnL K B3 H3 xs (l.set k (.hl none)) (Us.set k []) := OwnL.keepA fr3.bb owr fun b hb => kp3 b (List.mem_cons_of_mem _ hb)
          have ok4 : Own K B3 H3 (.ref a) (.mr none le') (a :: U3.flatten) := ⟨a, zs, U3, rfl, rfl, hz3, ow3, nd3⟩
          have hkl : k < Us.length := (List.getElem?_eq_some_iff.mp w2).1
          have ow5 : OwnL K B3 H3 xs (l.set k (.mr none le')) (Us.set k (a :: U3.flatten)) := by
            have := OwnL.set (k := k) (Same.refl B3) ow4 (fun _ _ _ _ _ _ => rfl) hxk ok4
            rw [List.set_set, List.set_set] at this
            exact this
          have sub5 : ∀ b ∈ (Us.set k (a :: U3.flatten)).flatten, b ∈ a :: U3.flatten ∨ b ∈ (Us.set k []).flatten := fun b hb => by
            rcases flat_set_mem hb with h | ⟨j, T, h1, h2, h3⟩
            · exact Or.inl h
            · exact Or.inr (List.mem_flatten.mpr ⟨T, List.mem_of_getElem? (by rw [List.getElem?_set_ne (Ne.symm h1)]; exact h2), h3⟩)
          have nd5 : (o :: (Us.set k (a :: U3.flatten)).flatten).Nodup := by
            rw [List.nodup_cons]
            refine ⟨fun h => ?_, ?_⟩
            · rcases sub5 o h with h | h
              · exact nw3 o (by simp) (Or.inr h)
              · exact nd1'.1 (subr o h).1
            · have := flat_set_nodup (k := k) (T := []) (T' := a :: U3.flatten) ndr (List.getElem?_set_self hkl) nd3 (fun b hb hb2 => absurd (Or.inr hb) (nw3 b (List.mem_cons_of_mem _ hb2)))
              rw [List.set_set] at this
              exact this
          have off5 : ∀ b ∈ o :: (Us.set k (a :: U3.flatten)).flatten, B3 b = none ∧ ∀ i, b ∉ fs3 i := fun b hb => by
            have old : ∀ b ∈ o :: (Us.set k []).flatten, B3 b = none ∧ ∀ i, b ∉ fs3 i := fun b hb => ⟨bn3 b hb, fun i hi => nw3 b hb (Or.inl ⟨i, hi⟩)⟩
            rcases List.mem_cons.mp hb with rfl | hb
            · exact old b (by simp)
            · rcases sub5 b hb with h | h
              · exact off3 b h
              · exact old b (List.mem_cons_of_mem _ h)
          have fr5 : Fr B H (UnF (InF fs) (o :: Us.flatten)) B3 H3 (UnF (InF fs3) (o :: (Us.set k (a :: U3.flatten)).flatten)) := (frA fr3).weak (fun _ h => h) fun b h => by
            rcases h with h | h
            · exact Or.inl (Or.inl (Or.inl h))
            · rcases List.mem_cons.mp h with rfl | h
              · exact Or.inl (Or.inr (by simp))
              · rcases sub5 b h with h | h
                · exact Or.inl (Or.inl (Or.inr h))
                · exact Or.inl (Or.inr (List.mem_cons_of_mem _ h))
          have hx5 : H3 o = some (.lst xs) := by rw [kp3 o (by simp)]; exact hx1
          have js5 : ∀ j ∈ js, σ3[j]? = σ[j]? := fun j hj => by rw [js3 j hj, n2 j (c4 j hj)]
          have e3 : some (fl2, l.set k (.mr none le'), ρ2) = some (fl, l', ρ') := by
            cases fl2 with
            | rt s => exact absurd rfl (hn s)
            | bk => exact e1
            | nx => exact e1
            | ct => exact e1
          cases e3
          exact w.go hn σ3 B3 H3 fs3 _ fr5 ⟨g3, hx5, ow5, nd5, off5⟩ js5
      · cases e1
    · cases e1
  · cases e1
theorem forP_ok {is js : List Nat} {body : M Fl} {fl : Fl} {l0 l' : List Sl} {ρ0 ρ' : Env} {D : Ends} {o p : Addr} {xs ys : List V} {order : List Nat} {B0 H0 : Hp} {σ0 : L2.St} {fs0 : Nat → List Addr} {Us0 : List (List Addr)} {F : Addr → Prop}
    (h0 : Hand K vs0 B0 H0 σ0 ρ0 fs0 o xs l0 Us0) (fr0 : Fr B H F B0 H0 (UnF (InF fs0) (o :: Us0.flatten)))
    (hp0 : (p = o ∧ ys = xs) ∨ B0 p = some (.lst ys)) (hor : ys.length = order.length) (hy : ∀ (q k : Nat), order[q]? = some k → ys[q]? = xs[k]?) (kj : ∀ j ∈ js, ∃ v, σ0[j]? = some (some v)) (e0 : loopP is js body order l0 ρ0 = some (fl, l', ρ'))
    (w : WantT K vs0 D B H F o xs σ0 js fl l' ρ') :
    ∃ W : Nat → Nat → L2.St → Hp → Prop, (∃ m, W 0 m σ0 H0) ∧ ∀ i m σ H, W i m σ H →
      ((Itl K p).stop i H ∧ D.nx σ H) ∨ ((Itl K p).go i H ∧ ∃ N : L2.St → Hp → Prop, (∀ σ' H', N σ' H' → ∃ m', m' < m ∧ W (i + 1) m' σ' H') ∧ ∀ x H', (Itl K p).yld i H x H' → gUnl K is.length (tNames is) x σ H' fun σ2 H2 => (fun D σ H => ∃ vs1, rdS K vs1 body D σ H) { D with nx := N, ct := N, bk := D.nx } σ2 H2) := by
  refine for_list (K := K) (a := p) (g := gUnl K is.length (tNames is)) (tb := fun D σ H => ∃ vs1, rdS K vs1 body D σ H) (D := D) (σ := σ0) (H := H0) (xs := ys) (fun q σ1 H1 => ∃ B1 ρ1 fs1 l1 Us1, Hand K vs0 B1 H1 σ1 ρ1 fs1 o xs l1 Us1 ∧ Fr B H F B1 H1 (UnF (InF fs1) (o :: Us1.flatten)) ∧
    ((p = o ∧ ys = xs) ∨ B1 p = some (.lst ys)) ∧ (∀ j ∈ js, σ1[j]? = σ0[j]?) ∧ loopP is js body (order.drop q) l1 ρ1 = some (fl, l', ρ')) ?_ ?_ ?_ ?_
  · exact ⟨B0, ρ0, fs0, l0, Us0, h0, fr0, hp0, fun _ _ => rfl, by simpa using e0⟩
  · rintro q σ1 H1 hq ⟨B1, ρ1, fs1, l1, Us1, h1, fr1, hp1, js1, e1⟩
    rcases hp1 with ⟨rfl, rfl⟩ | h
    · exact Or.inl (Or.inl h1.hx)
    · exact Or.inl (Or.inl (h1.good.ext _ _ h))
  · rintro q x σ1 H1 hq ⟨B1, ρ1, fs1, l1, Us1, h1, fr1, hp1, js1, e1⟩
    have hlt : q < order.length := by rw [← hor]; exact (List.getElem?_eq_some_iff.mp hq).1
    rw [List.drop_eq_getElem_cons hlt] at e1
    have hxk : xs[order[q]]? = some x := by rw [← hy q _ (List.getElem?_eq_getElem hlt)]; exact hq
    generalize hk : order[q] = k at e1 hxk
    unfold loopP at e1
    split at e1
    · cases e1
    · rename_i fl2 l2 ρ2 e2
      refine turn_ok (fun _ _ q => q) h1 hxk (fun j hj => by rw [js1 j hj]; exact kj j hj) e2 ⟨?_, ?_⟩
      · intro s hs v σ' B' H' fs' T fr g ok
        subst hs
        cases e1
        exact w.rt s rfl v σ' B' H' fs' T (fr1.trans fr) g ok
      · intro hn σ' B' H' fs' U' fr h' js'
        have hp' : (p = o ∧ ys = xs) ∨ B' p = some (.lst ys) := by
          rcases hp1 with h | h
          · exact Or.inl h
          · exact Or.inr (fr.bb _ _ h)
        have jj : ∀ j ∈ js, σ'[j]? = σ0[j]? := fun j hj => by rw [js' j hj, js1 j hj]
        cases fl2 with
        | rt s => exact absurd rfl (hn s)
        | bk => cases e1
        | nx => exact ⟨B', ρ2, fs', l2, U', h', fr1.trans fr, hp', jj, e1⟩
        | ct => exact ⟨B', ρ2, fs', l2, U', h', fr1.trans fr, hp', jj, e1⟩
  · rintro σ1 H1 ⟨B1, ρ1, fs1, l1, Us1, h1, fr1, hp1, js1, e1⟩
    rw [hor, List.drop_length] at e1
    cases e1
    exact w.go (fun s h => nomatch h) σ1 B1 H1 fs1 Us1 fr1 h1 js1
end
end Pd
set_option Elab.async false
set_option linter.all false
set_option maxRecDepth 100000
set_option maxHeartbeats 1000000
namespace Pd
open PySem PySem.Spec PyProof.Rows L2
def vInt (f : M Rs) : M Int := M.bind f fun r ρ => match r.view ρ with
  | some (.int m) => some (.ok m ρ)
  | _ => none
def giveJ (j : Nat) : Fl × List Sl × Env → Option (Out Fl)
  | (fl, l, ρ) => match fl with
    | .rt s => some (.ok (.rt s) ρ)
    | fl => if j < ρ.length then some (.ok fl (ρ.set j (some (.mr none l)))) else none
theorem ixN_lt {n : Nat} {m : Int} {k : Nat} (h : ixN n m = some k) : k < n := by
  obtain ⟨s1, s2, s3, s4⟩ := ixN_seq h
  omega
end Pd
set_option Elab.async false
set_option linter.all false
set_option maxRecDepth 100000
set_option maxHeartbeats 1000000
namespace Pd
open PySem PySem.Spec PyProof.Rows L2
section
variable {X : Cx} {vs0 : List V}
theorem Good.setP {K : PySem.W.Frag} {B H : Hp} {σ : L2.St} {ρ : Env} {fs : Nat → List Addr} {j q : Nat} {t : Option Nat} {l : List Sl} {v : V} {b : D} {a : Addr} {xs : List V} (g : Good K vs0 B H σ ρ fs) (e : ρ[j]? = some (some (.mr t l))) (hv : σ[j]? = some (some (.ref a))) (hq : q < l.length) (dv : Dp K B v b) (hx : H a = some (.lst xs)) :
    ∃ fs', Good K vs0 B (L2.upd H a (.lst (xs.set q v))) σ (ρ.set j (some (.mr t (l.set q (.p b))))) fs' ∧ Fr B H (InF fs) B (L2.upd H a (.lst (xs.set q v))) (InF fs') := by
  obtain ⟨v', q1, ⟨a', xs', Us, rfl, hfs, q2, q3, q4⟩, _⟩ := g.at_ j _ e
  rw [hv] at q1
  cases q1
  rw [hx] at q2
  cases q2
  rw [hfs] at q4
  have haf : a ∈ fs j := by rw [hfs]; simp
  have hna : ∀ b ∈ Us.flatten, b ≠ a := fun b hb z => (List.nodup_cons.mp q4).1 (z ▸ hb)
  have hqU : q < Us.length := by rw [ownL_lenT q3]; exact hq
  have hUq := List.getElem?_eq_getElem hqU
  have nd2 := (List.nodup_cons.mp q4).2
  have sub : ∀ b ∈ (Us.set q []).flatten, b ∈ Us.flatten := fun b hb => by
    rcases flat_set_mem hb with h | ⟨j, T, h1, h2, h3⟩
    · cases h
    · exact List.mem_flatten.mpr ⟨T, List.mem_of_getElem? h2, h3⟩
  have q3' : OwnL K B (L2.upd H a (.lst (xs.set q v))) xs l Us := OwnL.keepA (Same.refl B) q3 fun b hb => upd_ne (hna b hb)
  have own' : Own K B (L2.upd H a (.lst (xs.set q v))) (.ref a) (.mr t (l.set q (.p b))) (a :: (Us.set q []).flatten) :=
    ⟨a, _, Us.set q [], rfl, rfl, upd_same, OwnL.put q3' ⟨dv, rfl⟩, List.nodup_cons.mpr ⟨fun h => hna a (sub a h) rfl, flat_set_nodup nd2 hUq List.nodup_nil fun a ha => nomatch ha⟩⟩
  have g5 := g.updM (o := HO.lst (xs.set q v)) e haf hv own' rfl fun b hb => by
    refine Or.inl ?_
    rw [hfs]
    rcases List.mem_cons.mp hb with rfl | hb
    · simp
    · exact List.mem_cons_of_mem _ (sub b hb)
  refine ⟨_, g5, (Fr.updIn (F := InF fs) ⟨j, haf⟩).weak (fun _ h => h) fun b h => Or.inl ?_⟩
  obtain ⟨i, h⟩ := h
  by_cases z : i = j
  · have h : b ∈ (if i = j then a :: (Us.set q []).flatten else fs i) := h
    rw [if_pos z] at h
    refine ⟨j, ?_⟩
    rw [hfs]
    rcases List.mem_cons.mp h with rfl | h
    · simp
    · exact List.mem_cons_of_mem _ (sub b h)
  · have h : b ∈ (if i = j then a :: (Us.set q []).flatten else fs i) := h
    rw [if_neg z] at h
    exact ⟨i, h⟩
end
end Pd
set_option Elab.async false
set_option linter.all false
set_option maxRecDepth 100000
set_option maxHeartbeats 1000000
set_option Elab.async false
set_option linter.all false
set_option maxRecDepth 100000
set_option maxHeartbeats 1000000
namespace Pd
open PySem PySem.Spec PyProof.Rows L2
namespace B
section
variable {ρ : Env}
def viQ (ρ : Env) (Q : Int → Env → Prop) : Option D → Prop
  | some (.int m) => Q m ρ
  | _ => False
@[simp ↓] theorem viQ_int {m : Int} {Q : Int → Env → Prop} : viQ ρ Q (some (.int m)) ↔ Q m ρ := Iff.rfl
@[simp ↓] theorem ev_vInt {f : M Rs} {Q : Int → Env → Prop} : Ev (vInt f) ρ Q ↔ Ev f ρ fun r ρ1 => viQ ρ1 Q (r.view ρ1) := by
  unfold vInt
  rw [ev_bind]
  constructor
  · rintro ⟨r, ρ1, e, m, ρ2, e2, q⟩
    refine ⟨r, ρ1, e, ?_⟩
    dsimp only at e2
    split at e2
    · rename_i m' h
      cases e2
      rw [h]
      exact q
    · cases e2
  · rintro ⟨r, ρ1, e, q⟩
    refine ⟨r, ρ1, e, ?_⟩
    unfold viQ at q
    split at q
    · rename_i m h
      exact ⟨m, ρ1, by dsimp only; rw [h], q⟩
    · exact q.elim
def PtQ (ps : List (Nat × Nat)) (js : List Nat) (l : List Sl) (g : M Fl) (ρ : Env) (Q : Fl → List Sl → Env → Prop) : Prop := ∃ fl l' ρ', gPart ps js l g ρ = some (fl, l', ρ') ∧ Q fl l' ρ'
theorem pt_of {ps : List (Nat × Nat)} {js : List Nat} {l lh : List Sl} {g : M Fl} {ρ0 ρ1 : Env} {Q : Fl → List Sl → Env → Prop} (h0 : keepL js ps.length (bareE ρ) = some ρ0) (h1 : openL ps l 0 ρ0 = some (lh, ρ1))
    (h : Ev g ρ1 fun fl ρ2 => fl = .nx ∧ keptL js ps.length ρ2 = true ∧ ∃ l' ρ3, closeL ps lh 0 ρ2 = some (l', ρ3) ∧ Q .nx l' (bareE ρ3)) : PtQ ps js l g ρ Q := by
  obtain ⟨fl, ρ2, e, rfl, hk, l', ρ3, ec, q⟩ := h
  refine ⟨_, _, _, ?_, q⟩
  unfold gPart
  simp only [h0, h1, e]
  rw [if_pos hk, ec]
end
end B
end Pd
set_option Elab.async false
set_option linter.all false
set_option maxRecDepth 100000
set_option maxHeartbeats 1000000
namespace Pd
open PySem PySem.Spec PyProof.Rows L2
section
variable {ρ : Env}
def viQ (ρ : Env) (Q : Int → Env → Prop) [Fx Q] (o0 : Option D) : Prop := B.viQ ρ Q o0
@[simp ↓] theorem viQ_int {m : Int} {Q : Int → Env → Prop} : viQ ρ Q (some (.int m)) ↔ Q m ρ := B.viQ_int
@[simp ↓] theorem ev_vInt {f : M Rs} {Q : Int → Env → Prop} : Ev (vInt f) ρ Q ↔ Ev f ρ fun r ρ1 => viQ ρ1 Q (r.view ρ1) := B.ev_vInt
def PtQ (ps : List (Nat × Nat)) (js : List Nat) (l : List Sl) (g : M Fl) (ρ : Env) (Q : Fl → List Sl → Env → Prop) [Fx Q] : Prop := B.PtQ ps js l g ρ Q
theorem pt_of {ps : List (Nat × Nat)} {js : List Nat} {l lh : List Sl} {g : M Fl} {ρ0 ρ1 : Env} {Q : Fl → List Sl → Env → Prop} (h0 : keepL js ps.length (bareE ρ) = some ρ0) (h1 : openL ps l 0 ρ0 = some (lh, ρ1))
    (h : Ev g ρ1 fun fl ρ2 => fl = .nx ∧ keptL js ps.length ρ2 = true ∧ ∃ l' ρ3, closeL ps lh 0 ρ2 = some (l', ρ3) ∧ Q .nx l' (bareE ρ3)) : PtQ ps js l g ρ Q := B.pt_of h0 h1 h
end
end Pd
set_option Elab.async false
set_option linter.all false
set_option maxRecDepth 100000
set_option maxHeartbeats 1000000
namespace Pd
open PySem PySem.Spec PyProof.Rows L2
def gForR (j : Nat) (is : List Nat) (body : M Fl) : M Fl := fun ρ => match ρ[j]? with
  | some (some (.mr _ l)) => (loopP is [j] body (List.range l.length) l (ρ.set j none)).bind (giveJ j)
  | _ => none
def gUnpR (j : Nat) (is : List Nat) (f : M Rs) (g : M Fl) : M Fl := fun ρ => match ρ[j]? with
  | some (some (.mr _ l)) => match vInt f (ρ.set j none) with
    | some (.ok m ρ1) => match ixN l.length m with
      | some k => (turnP is [j] g k l ρ1).bind (giveJ j)
      | none => none
    | none => none
  | _ => none
theorem rdS_seq {K : PySem.W.Frag} {vs0 : List V} {g1 g2 : M Fl} {D : Ends} {σ : L2.St} {H : Hp} (q : rdS K vs0 (gSeq g1 g2) D σ H) : rdS K vs0 g1 { D with nx := rdS K vs0 g2 D } σ H := by
  obtain ⟨B, ρ, fs, gd, fl, ρ', e1, k⟩ := q
  obtain ⟨fl1, ρ1, e2, e3⟩ := M.bind_ok e1
  refine ⟨B, ρ, fs, gd, fl1, ρ1, e2, ?_⟩
  cases fl1 with
  | nx =>
    intro σ1 B1 H1 fs1 fr1 g1
    refine ⟨B1, ρ1, fs1, g1, fl, ρ', e3, ?_⟩
    cases fl with
    | nx => exact fun σ2 B2 H2 fs2 fr2 g2 => k σ2 B2 H2 fs2 (fr1.trans fr2) g2
    | bk => exact fun σ2 B2 H2 fs2 fr2 g2 => k σ2 B2 H2 fs2 (fr1.trans fr2) g2
    | ct => exact fun σ2 B2 H2 fs2 fr2 g2 => k σ2 B2 H2 fs2 (fr1.trans fr2) g2
    | rt s => exact fun v σ2 B2 H2 fs2 T fr2 g2 ok => k v σ2 B2 H2 fs2 T (fr1.trans fr2) g2 ok
  | bk => cases e3; exact k
  | ct => cases e3; exact k
  | rt s => cases e3; exact k
section
variable {X : Cx} {vs0 : List V}
theorem loopP_end {is js : List Nat} {body : M Fl} : ∀ {ks : List Nat} {l l' : List Sl} {ρ ρ' : Env} {fl : Fl}, loopP is js body ks l ρ = some (fl, l', ρ') → fl = .nx ∨ ∃ s, fl = .rt s
  | [], l, l', ρ, ρ', fl, e => by cases e; exact Or.inl rfl
  | k :: ks, l, l', ρ, ρ', fl, e => by
    unfold loopP at e
    split at e
    · cases e
    · rename_i fl2 l2 ρ2 _
      cases fl2 with
      | nx => exact loopP_end e
      | ct => exact loopP_end e
      | bk => cases e
      | rt s => cases e; exact Or.inr ⟨_, rfl⟩
theorem ds_forR {j : Nat} {es : List Expr} {kk : Nat} {is : List Nat} {body : List Stmt} {iter : Expr} {g : M Fl} {p pos : Pos} (hp : PassesOwn (model X.prog X.w) X.A X.env X.xe) (hc : X.calm = true) (hj : PE X iter (tVar j)) (hg : PGs X es (tNames is)) (hb : ∀ vs1, PSs X body (rdS X.K vs1 g))
    (hn : (assignEach es X.env).length = is.length := by rfl) (hst : (assignEach es X.env).findIdx? (·.1) = none := by rfl)
    (hs : ∀ x, foldedSetIterable iter X.env x = pure x := by intro _; rfl) : PS X (.For (.Tuple es kk p) iter body [] pos) (rdS X.K vs0 (gForR j is g)) :=
  PS.imp (ps_for hp hc (pi_list hj) (pg_unl hc hg hn hst) (pss_any hb) hs) fun D σ H q => by
  obtain ⟨B, ρ, fs, gd, fl, ρ', e, w⟩ := q
  have w : Want X.K vs0 D B H fs fl ρ' := w
  unfold gForR at e
  split at e
  · rename_i t l hj0
    obtain ⟨⟨fl2, l2, ρ2⟩, ep, eg⟩ := Option.bind_eq_some_iff.mp e
    obtain ⟨o, xs, Us, z1, hfs, h0⟩ := hand_of gd hj0
    have fr0 : Fr B H (InF fs) B H (UnF (InF fun i => if i = j then [] else fs i) (o :: Us.flatten)) := (Fr.refl B H (InF fs)).weak (fun _ h => h) fun a h => Or.inl (by
      rcases h with ⟨i, hi⟩ | h
      · try dsimp only at hi
        by_cases z : i = j
        · rw [if_pos z] at hi; cases hi
        · rw [if_neg z] at hi; exact ⟨i, hi⟩
      · exact ⟨j, by rw [hfs]; exact h⟩)
    refine ⟨_, z1, o, rfl, ⟨xs, Or.inl (Or.inl h0.hx)⟩, ?_⟩
    refine forP_ok (order := List.range l.length) h0 fr0 (Or.inl ⟨rfl, rfl⟩) (by rw [List.length_range]; exact ownL_len h0.ow) (fun q k hq => ?_) (fun j' hj' => ?_) ep ⟨fun s hs v σ' B' H' fs' T fr g' ok => ?_, fun hn2 σ' B' H' fs' U' fr h' js => ?_⟩
    · have hlt : q < (List.range l.length).length := (List.getElem?_eq_some_iff.mp hq).1
      rw [List.length_range] at hlt
      rw [List.getElem?_range hlt] at hq
      cases hq
      rfl
    · rw [List.mem_singleton] at hj'
      subst hj'
      exact ⟨_, z1⟩
    · subst hs
      cases eg
      exact w v σ' B' H' fs' T fr g' ok
    · rcases loopP_end ep with rfl | ⟨s, rfl⟩
      · unfold giveJ at eg
        dsimp only at eg
        split at eg
        · rename_i hjl
          cases eg
          obtain ⟨fsz, gz, sz⟩ := h'.give hjl (by rw [js j (by simp)]; exact z1)
          exact w σ' B' H' fsz (fr.weak (fun _ h => h) fun a h => Or.inl (sz a h)) gz
        · cases eg
      · exact absurd rfl (hn2 s)
  · cases e
theorem ds_unpR {j : Nat} {es : List Expr} {kk : Nat} {is : List Nat} {ea e1 : Expr} {f1 : M Rs} {g1 g2 g3 : M Fl} {st1 st2 : Stmt} {rest : List Stmt} {q1 tp p1 : Pos} (hc : X.calm = true) (hj : PE X ea (tVar j)) (he1 : PE X e1 (rdE X.K vs0 f1)) (s1 : PlainIx e1) (hg : PGs X es (tNames is))
    (h1 : ∀ vs1, PS X st1 (rdS X.K vs1 g1)) (h2 : ∀ vs1, PS X st2 (rdS X.K vs1 g2)) (h3 : PSs X rest (rdS X.K vs0 g3))
    (hn : (assignEach es X.env).length = is.length := by rfl) (hst : (assignEach es X.env).findIdx? (·.1) = none := by rfl)
    (hs : swapsWithSole [.Tuple es kk tp] (.Subscript ea e1 q1) p1.line X.env = pure false := by rfl) (hw : swappedStores [.Tuple es kk tp] (.Subscript ea e1 q1) X.env = pure none := by rfl)
    (ha : (assignEach [.Tuple es kk tp] X.env).map (·.2) = [assign (.Tuple es kk tp) X.env] := by rfl) :
    PSs X (.Assign [.Tuple es kk tp] (.Subscript ea e1 q1) p1 :: st1 :: st2 :: rest) (rdS X.K vs0 (gSeq (gUnpR j is f1 (gSeq g1 g2)) g3)) :=
  PSs.imp (pss_cons (ps_asg (pe_ix ix_seq hj he1 s1) (pg_unl hc hg hn hst) hs hw ha) (pss_cons (ps_any h1) (pss_cons (ps_any h2) h3))) fun D σ H q => by
  have q := rdS_seq q
  obtain ⟨B, ρ, fs, gd, fl, ρ', e, w⟩ := q
  have w : Want X.K vs0 { D with nx := rdS X.K vs0 g3 D } B H fs fl ρ' := w
  unfold gUnpR at e
  split at e
  · rename_i t l hj0
    split at e
    · rename_i m1 ρ1 a1
      split at e
      · rename_i k hk
        obtain ⟨⟨fl2, l2, ρ2⟩, ep, eg⟩ := Option.bind_eq_some_iff.mp e
        obtain ⟨o, xs, Us, z1, hfs, h0⟩ := hand_of gd hj0
        obtain ⟨r1, ρ1a, b1, b2⟩ := M.bind_ok a1
        split at b2
        · rename_i m1' v1e
          cases b2
          refine ⟨_, z1, B, _, _, h0.good, r1, _, b1, fun y1 B1 H1 fs1 T1 fr1 g1' ok1 => ?_⟩
          obtain ⟨h1', fr1'⟩ := h0.next fr1 g1'
          have hkl : k < xs.length := by rw [ownL_len h0.ow]; exact ixN_lt hk
          have at1 : atI xs m1 = some xs[k] := by
            unfold atI
            rw [ownL_len h0.ow, hk]
            exact List.getElem?_eq_getElem hkl
          refine Or.inl ⟨o, xs, m1, xs[k], rfl, (view_ok g1' ok1 v1e).int, Or.inl (Or.inl h1'.hx), at1, ?_⟩
          have fr01 : Fr B H (InF fs) B1 H1 (UnF (InF fs1) (o :: Us.flatten)) := fr1'.weak (fun a h => by
            rcases h with ⟨i, hi⟩ | h
            · try dsimp only at hi
              by_cases z : i = j
              · rw [if_pos z] at hi; cases hi
              · rw [if_neg z] at hi; exact ⟨i, hi⟩
            · exact ⟨j, by rw [hfs]; exact h⟩) fun a h => Or.inl h
          refine turn_ok (D := { D with nx := rdS X.K vs0 g3 D }) (js := [j]) (fun σ2 H2 qq => ?_) h1' (List.getElem?_eq_getElem hkl) (fun j' hj' => ?_) ep ⟨fun s hs' v σ' B' H' fs' T fr g' ok => ?_, fun hn2 σ' B' H' fs' U' fr h' js => ?_⟩
          · obtain ⟨vs1, qq⟩ := qq
            have qq := rdS_seq qq
            obtain ⟨B2, ρ3, fs2, gd2, fl3, ρ4, e3, w3⟩ := qq
            have w3 : Want X.K vs1 { D with nx := rdS X.K vs1 g2 { D with nx := rdS X.K vs0 g3 D } } B2 H2 fs2 fl3 ρ4 := w3
            refine ⟨vs1, B2, ρ3, fs2, gd2, fl3, ρ4, e3, ?_⟩
            cases fl3 with
            | nx => exact fun σ' B' H' fs' fr g' => ⟨vs1, w3 σ' B' H' fs' fr g'⟩
            | bk => exact w3
            | ct => exact w3
            | rt s => exact w3
          · rw [List.mem_singleton] at hj'
            subst hj'
            exact ⟨_, z1⟩
          · subst hs'
            cases eg
            exact w v σ' B' H' fs' T (fr01.trans fr) g' ok
          · have e3 : (if j < ρ2.length then some (Out.ok fl2 (ρ2.set j (some (.mr none l2)))) else none) = some (Out.ok fl ρ') := by
              cases fl2 with
              | rt s => exact absurd rfl (hn2 s)
              | bk => exact eg
              | nx => exact eg
              | ct => exact eg
            split at e3
            · rename_i hjl
              cases e3
              obtain ⟨fsz, gz, sz⟩ := h'.give hjl (by rw [js j (by simp)]; exact z1)
              have frz : Fr B H (InF fs) B' H' (InF fsz) := (fr01.trans fr).weak (fun _ h => h) fun a h => Or.inl (sz a h)
              cases fl with
              | rt s => exact absurd rfl (hn2 s)
              | bk => exact w σ' B' H' fsz frz gz
              | nx => exact w σ' B' H' fsz frz gz
              | ct => exact w σ' B' H' fsz frz gz
            · cases e3
        · cases b2
      · cases e
    · cases e
  · cases e
end
end Pd
set_option Elab.async false
set_option linter.all false
set_option maxRecDepth 100000
set_option maxHeartbeats 2000000
namespace Pd
open PySem PySem.Spec PyProof.Rows L2
noncomputable def eCallP (F : List Sl → Option (Sl × List Sl)) (s j t n : Nat) : M Rs := fun ρ => match ρ[s]?, ρ[j]?, ρ[t]?, ρ[n]? with
  | some (some sd), some (some (.mr tg l)), some (some (.p (.int m))), some (some (.p dn)) => match ixN l.length m with
    | some k => match l[k]? with
      | some (.mr none [a, b, c]) => if s ≠ j ∧ a.tag = none ∧ b.tag = none then match F [sd.bare, a, b, .p dn] with
          | some (r, [sd', a', b', _]) => some (.ok (.own r) ((ρ.set s (some (sd'.retag sd.tag))).set j (some (.mr tg (l.set k (.mr none [a', b', c]))))))
          | _ => none
        else none
      | _ => none
    | none => none
  | _, _, _, _ => none
section
variable {K : PySem.W.Frag} {vs0 : List V} {B H : Hp} {σ : L2.St} {ρ : Env} {fs : Nat → List Addr}
theorem Good.nil (e : Same B H) : Good K vs0 B H [] [] (fun _ => []) := ⟨e, rfl, (fun i s h => by simp at h), fun _ _ => rfl, (fun _ _ _ h => nomatch h), (fun _ _ h => nomatch h)⟩
theorem Good.push {v : V} {s : Sl} {T : List Addr} (g : Good K vs0 B H σ ρ fs) (o : Own K B H v s T) (ht : s.tag = none) (hT : ∀ a ∈ T, B a = none ∧ ∀ i, a ∉ fs i) : Good K vs0 B H (σ ++ [some v]) (ρ ++ [some s]) (fun i => if i = ρ.length then T else fs i) where
  ext := g.ext
  len := by simp [g.len]
  at_ := fun i s' h => by
    by_cases e : i = ρ.length
    · subst e
      rw [List.getElem?_append_right (Nat.le_refl _), Nat.sub_self] at h
      cases h
      refine ⟨v, by rw [← g.len, List.getElem?_append_right (Nat.le_refl _), Nat.sub_self]; rfl, by rw [if_pos rfl]; exact o, fun k hk => by rw [ht] at hk; cases hk⟩
    · have hl : i < ρ.length := by
        have := (List.getElem?_eq_some_iff.mp h).1
        rw [List.length_append, List.length_singleton] at this
        omega
      rw [List.getElem?_append_left hl] at h
      obtain ⟨v', h1, h2, h3⟩ := g.at_ i s' h
      refine ⟨v', by rw [List.getElem?_append_left (by rw [g.len]; exact hl)]; exact h1, by rw [if_neg e]; exact h2, h3⟩
  emp := fun i h => by
    by_cases e : i = ρ.length
    · subst e
      exact absurd (by rw [List.getElem?_append_right (Nat.le_refl _), Nat.sub_self]; rfl) (h s)
    · rw [if_neg e]
      refine g.emp i fun s' q => h s' ?_
      rw [List.getElem?_append_left (List.getElem?_eq_some_iff.mp q).1]
      exact q
  dis := fun i j a h1 h2 => by
    by_cases e1 : i = ρ.length
    · by_cases e2 : j = ρ.length
      · rw [e1, e2]
      · rw [if_pos e1] at h1
        rw [if_neg e2] at h2
        exact absurd h2 ((hT a h1).2 j)
    · rw [if_neg e1] at h1
      by_cases e2 : j = ρ.length
      · rw [if_pos e2] at h2
        exact absurd h1 ((hT a h2).2 i)
      · rw [if_neg e2] at h2
        exact g.dis i j a h1 h2
  out := fun i a h => by
    by_cases e : i = ρ.length
    · rw [if_pos e] at h
      exact (hT a h).1
    · rw [if_neg e] at h
      exact g.out i a h
theorem ownL_three {zs : List V} {a b c : Sl} {Us : List (List Addr)} (h : OwnL K B H zs [a, b, c] Us) : ∃ va vb vc Ta Tb Tc, zs = [va, vb, vc] ∧ Us = [Ta, Tb, Tc] ∧ Own K B H va a Ta ∧ Own K B H vb b Tb ∧ Own K B H vc c Tc := by
  cases zs with
  | nil => exact h.elim
  | cons va zs =>
  cases Us with
  | nil => exact h.elim
  | cons Ta Us =>
  obtain ⟨h1, h⟩ := h
  cases zs with
  | nil => exact h.elim
  | cons vb zs =>
  cases Us with
  | nil => exact h.elim
  | cons Tb Us =>
  obtain ⟨h2, h⟩ := h
  cases zs with
  | nil => exact h.elim
  | cons vc zs =>
  cases Us with
  | nil => exact h.elim
  | cons Tc Us =>
  obtain ⟨h3, h⟩ := h
  cases zs with
  | cons _ _ => exact h.elim
  | nil =>
  cases Us with
  | cons _ _ => exact h.elim
  | nil => exact ⟨va, vb, vc, Ta, Tb, Tc, rfl, rfl, h1, h2, h3⟩
theorem retag_ok {v : V} {s : Sl} {T : List Addr} {t : Option Nat} (h : Own K B H v s T) : Own K B H v (s.retag t) T := by cases s <;> exact h
theorem retag_tag {s : Sl} {t : Option Nat} {k : Nat} (h : (s.retag t).tag = some k) : t = some k := by
  cases s <;> first | exact h | cases h
theorem st_callP {F : List Sl → Option (Sl × List Sl)} {s j t n : Nat} {σ : L2.St} {H : Hp} {Q : VK} (q : rdE K vs0 (eCallP F s j t n) σ H Q) :
    ∃ vS o xs m vk a va vb vc vn, σ[s]? = some (some vS) ∧ σ[j]? = some (some (.ref o)) ∧ H o = some (.lst xs) ∧ σ[t]? = some (some (.int m)) ∧ atI xs m = some vk ∧ vk = .ref a ∧ H a = some (.lst [va, vb, vc]) ∧ σ[n]? = some (some vn) ∧ spD K 4 F [vS, va, vb, vn] H Q E0 := by
  obtain ⟨B, ρ, fs, g, r, ρ', e1, kk⟩ := q
  unfold eCallP at e1
  split at e1
  · rename_i sd tg l m dn q1 q2 q3 q4
    split at e1
    · rename_i k hk
      split at e1
      · rename_i pa pb pc hl
        split at e1
        · rename_i hc
          obtain ⟨c1, c2, c3⟩ := hc
          split at e1
          · rename_i r sd' a' b' d' hF
            cases e1
            obtain ⟨vS, y1, y2, y3⟩ := g.at_ s _ q1
            obtain ⟨vn, n1, ⟨n2, _⟩, _⟩ := g.at_ n _ q4
            have ht := g.int q3
            have gs := g.drop s
            have q2' : (ρ.set s none)[j]? = some (some (.mr tg l)) := by rw [List.getElem?_set_ne c1]; exact q2
            obtain ⟨o, xs, Us, z1, hfs, h0⟩ := hand_of gs q2'
            have hfj : fs j = o :: Us.flatten := by
              have hfs : (if j = s then [] else fs j) = o :: Us.flatten := hfs
              rwa [if_neg (Ne.symm c1)] at hfs
            obtain ⟨v', Tk, w1, w2, w3⟩ := h0.ow.get hl
            obtain ⟨a, zs, Uk, rfl, rfl, hz, owk, ndk⟩ := w3
            obtain ⟨va, vb, vc, Ta, Tb, Tc, rfl, rfl, oa, ob, oc⟩ := ownL_three owk
            have hkl := ixN_lt hk
            have at1 : atI xs m = some (.ref a) := by
              unfold atI
              rw [ownL_len h0.ow, hk]
              exact w1
            refine ⟨vS, o, xs, m, _, a, va, vb, vc, vn, y1, z1, h0.hx, ht, at1, rfl, hz, n1, rfl, ?_⟩
            have nd' := List.nodup_cons.mp h0.nd
            have inK : ∀ x ∈ a :: [Ta, Tb, Tc].flatten, x ∈ Us.flatten := fun x hx => List.mem_flatten.mpr ⟨_, List.mem_of_getElem? w2, hx⟩
            have fl3 : ∀ x, x ∈ [Ta, Tb, Tc].flatten ↔ x ∈ Ta ∨ x ∈ Tb ∨ x ∈ Tc := fun x => by simp
            have ndk' := List.nodup_cons.mp ndk
            have ndk2 : Ta.Nodup ∧ (Tb.Nodup ∧ Tc.Nodup ∧ ∀ x ∈ Tb, ∀ y ∈ Tc, x ≠ y) ∧ ∀ x ∈ Ta, ∀ y ∈ Tb ++ Tc, x ≠ y := by
              have := ndk'.2
              simp only [List.flatten_cons, List.flatten_nil, List.append_nil] at this
              rw [List.nodup_append, List.nodup_append] at this
              exact this
            have offs : ∀ x ∈ fs s, B x = none := fun x hx => g.out s x hx
            have sj : ∀ x ∈ fs s, x ∉ o :: Us.flatten := fun x hx hy => c1 (g.dis s j x hx (by rw [hfj]; exact hy))
            have inJ : ∀ x ∈ a :: [Ta, Tb, Tc].flatten, x ∈ o :: Us.flatten := fun x hx => List.mem_cons_of_mem _ (inK x hx)
            have outJ : ∀ x ∈ o :: Us.flatten, B x = none := fun x hx => (h0.off x hx).1
            have g0 : Good K ([] : List V) B H [] [] (fun _ => []) := Good.nil g.ext
            have ga := g0.push y2.bare (Sl.bare_tag _) fun x hx => ⟨offs x hx, fun i hi => nomatch hi⟩
            have gb := ga.push oa c2 fun x hx => ⟨outJ x (inJ x (List.mem_cons_of_mem _ ((fl3 x).mpr (Or.inl hx)))), fun i hi => by
              try dsimp only at hi
              split at hi
              · exact sj x hi (inJ x (List.mem_cons_of_mem _ ((fl3 x).mpr (Or.inl hx))))
              · cases hi⟩
            have gc := gb.push ob c3 fun x hx => ⟨outJ x (inJ x (List.mem_cons_of_mem _ ((fl3 x).mpr (Or.inr (Or.inl hx))))), fun i hi => by
              try dsimp only at hi
              split at hi
              · exact ndk2.2.2 x hi x (List.mem_append_left _ hx) rfl
              · split at hi
                · exact sj x hi (inJ x (List.mem_cons_of_mem _ ((fl3 x).mpr (Or.inr (Or.inl hx)))))
                · cases hi⟩
            have gdd := gc.push (v := vn) (s := .p dn) (T := []) ⟨n2, rfl⟩ rfl fun x hx => nomatch hx
            have inA : ∀ x, InF (fun i => if i = 3 then ([] : List Addr) else if i = 2 then Tb else if i = 1 then Ta else if i = 0 then fs s else []) x → x ∈ fs s ∨ x ∈ Ta ∨ x ∈ Tb := fun x hx => by
              obtain ⟨i, hi⟩ := hx
              try dsimp only at hi
              split at hi
              · cases hi
              · split at hi
                · exact Or.inr (Or.inr hi)
                · split at hi
                  · exact Or.inr (Or.inl hi)
                  · split at hi
                    · exact Or.inl hi
                    · cases hi
            refine ⟨B, [sd.bare, pa, pb, .p dn], _, gdd, fun s hs => ?_, r, _, hF, fun v B' H' fs' T fr g' ok => ?_⟩
            · simp only [List.mem_cons, List.not_mem_nil, or_false] at hs
              rcases hs with rfl | rfl | rfl | rfl
              · exact Sl.bare_tag _
              · exact c2
              · exact c3
              · rfl
            · have fr : Fr B H (InF (fun i => if i = 3 then ([] : List Addr) else if i = 2 then Tb else if i = 1 then Ta else if i = 0 then fs s else [])) B' H' (UnF (InF fs') T) := fr
              obtain ⟨u0, e0, o0, _⟩ := g'.at_ 0 sd' rfl
              obtain ⟨u1, e1, o1, _⟩ := g'.at_ 1 a' rfl
              obtain ⟨u2, e2, o2, _⟩ := g'.at_ 2 b' rfl
              cases e0
              cases e1
              cases e2
              have restT : ∀ x ∈ o :: (Us.set k (a :: Tc)).flatten, x ∈ o :: Us.flatten ∧ x ∉ Ta ∧ x ∉ Tb := fun x hx => by
                rcases List.mem_cons.mp hx with rfl | hx
                · exact ⟨by simp, fun h => nd'.1 (inK _ (List.mem_cons_of_mem _ ((fl3 _).mpr (Or.inl h)))), fun h => nd'.1 (inK _ (List.mem_cons_of_mem _ ((fl3 _).mpr (Or.inr (Or.inl h)))))⟩
                · rcases flat_set_mem hx with h | ⟨i, T2, h1, h2, h3⟩
                  · rcases List.mem_cons.mp h with rfl | h
                    · exact ⟨inJ _ (by simp), fun h => ndk'.1 ((fl3 _).mpr (Or.inl h)), fun h => ndk'.1 ((fl3 _).mpr (Or.inr (Or.inl h)))⟩
                    · exact ⟨inJ _ (List.mem_cons_of_mem _ ((fl3 x).mpr (Or.inr (Or.inr h)))), fun h2 => ndk2.2.2 x h2 x (List.mem_append_right _ h) rfl, fun h2 => ndk2.2.1.2.2 x h2 x h rfl⟩
                  · refine ⟨List.mem_cons_of_mem _ (List.mem_flatten.mpr ⟨T2, List.mem_of_getElem? h2, h3⟩), fun h => h1 (flat_injL nd'.2 h2 w2 h3 (List.mem_cons_of_mem _ ((fl3 x).mpr (Or.inl h)))), fun h => h1 (flat_injL nd'.2 h2 w2 h3 (List.mem_cons_of_mem _ ((fl3 x).mpr (Or.inr (Or.inl h)))))⟩
              have nfR : ∀ x ∈ o :: (Us.set k (a :: Tc)).flatten, ¬ InF (fun i => if i = 3 then ([] : List Addr) else if i = 2 then Tb else if i = 1 then Ta else if i = 0 then fs s else []) x := fun x hx hi => by
                obtain ⟨r1, r2, r3⟩ := restT x hx
                rcases inA x hi with h | h | h
                · exact sj x h r1
                · exact r2 h
                · exact r3 h
              have lvJ : ∀ x ∈ o :: Us.flatten, H x ≠ none := h0.live
              have lvR : ∀ x ∈ o :: (Us.set k (a :: Tc)).flatten, H x ≠ none := fun x hx => lvJ x (restT x hx).1
              have kpR : ∀ x ∈ o :: (Us.set k (a :: Tc)).flatten, H' x = H x := fun x hx => fr.keep x (lvR x hx) (nfR x hx)
              have hkU : k < Us.length := (List.getElem?_eq_some_iff.mp w2).1
              have aR : a ∈ o :: (Us.set k (a :: Tc)).flatten := List.mem_cons_of_mem _ (List.mem_flatten.mpr ⟨a :: Tc, List.mem_of_getElem? (List.getElem?_set_self hkU), by simp⟩)
              have bnR : ∀ x ∈ o :: (Us.set k (a :: Tc)).flatten, B' x = none := fun x hx => fr.bnew x (lvR x hx) (nfR x hx) (outJ x (restT x hx).1)
              have newF : ∀ x, UnF (InF fs') T x → ∀ y ∈ o :: (Us.set k (a :: Tc)).flatten, x ≠ y := fun x hx y hy e => by
                subst e
                rcases fr.own x hx with h | h
                · exact nfR x hy h
                · exact lvR x hy h
              have in1 : ∀ x, InF (fun i => if i = j then [] else if i = s then [] else fs i) x → InF fs x ∧ x ∉ fs s ∧ x ∉ fs j := fun x hx => by
                obtain ⟨i, hi⟩ := hx
                try dsimp only at hi
                split at hi
                · cases hi
                · rename_i hij
                  split at hi
                  · cases hi
                  · rename_i his
                    exact ⟨⟨i, hi⟩, fun h => his (g.dis i s x hi h), fun h => hij (g.dis i j x hi h)⟩
              have nA1 : ∀ x, InF (fun i => if i = j then [] else if i = s then [] else fs i) x → ¬ InF (fun i => if i = 3 then ([] : List Addr) else if i = 2 then Tb else if i = 1 then Ta else if i = 0 then fs s else []) x := fun x hx hi => by
                obtain ⟨r1, r2, r3⟩ := in1 x hx
                rw [hfj] at r3
                rcases inA x hi with h | h | h
                · exact r2 h
                · exact r3 (inJ x (List.mem_cons_of_mem _ ((fl3 x).mpr (Or.inl h))))
                · exact r3 (inJ x (List.mem_cons_of_mem _ ((fl3 x).mpr (Or.inr (Or.inl h)))))
              have new1 : ∀ x, UnF (InF fs') T x → ∀ i, x ∉ (if i = j then [] else if i = s then [] else fs i) := fun x hx i hi => by
                rcases fr.own x hx with h | h
                · exact nA1 x ⟨i, hi⟩ h
                · exact h0.good.lives (i := i) hi h
              have mk1 : ∀ {x : Addr} {i : Nat}, ¬ i = j → ¬ i = s → x ∈ fs i → x ∈ (if i = j then [] else if i = s then [] else fs i) := fun hij his h => by
                rw [if_neg hij, if_neg his]
                exact h
              have g1 : Good K vs0 B' H' σ ((ρ.set s none).set j none) (fun i => if i = j then [] else if i = s then [] else fs i) := h0.good.grow fr nA1 g'.ext
              have hsl : s < ρ.length := (List.getElem?_eq_some_iff.mp q1).1
              have hjl : j < ρ.length := (List.getElem?_eq_some_iff.mp q2).1
              have g2 := g1.put (i := s) (v := vS) (s := sd'.retag sd.tag) (T := fs' 0) (by simpa using hsl) (retag_ok o0) (fun kk h => y3 kk (retag_tag h)) fun x hx => ⟨g'.out 0 x hx, fun i _ => new1 x (Or.inl ⟨0, hx⟩) i⟩
              rw [set_same y1] at g2
              have oc' : Own K B' H' vc pc Tc := oc.keep fr.bb fun x hx => kpR x (List.mem_cons_of_mem _ (List.mem_flatten.mpr ⟨a :: Tc, List.mem_of_getElem? (List.getElem?_set_self hkU), List.mem_cons_of_mem _ hx⟩))
              have cR : ∀ x ∈ Tc, x ∈ o :: (Us.set k (a :: Tc)).flatten := fun x hx => List.mem_cons_of_mem _ (List.mem_flatten.mpr ⟨a :: Tc, List.mem_of_getElem? (List.getElem?_set_self hkU), List.mem_cons_of_mem _ hx⟩)
              have ndn : (a :: [fs' 1, fs' 2, Tc].flatten).Nodup := by
                rw [List.nodup_cons]
                simp only [List.flatten_cons, List.flatten_nil, List.append_nil, List.mem_append, not_or, List.nodup_append]
                refine ⟨⟨fun h => newF _ (Or.inl ⟨1, h⟩) a aR rfl, fun h => newF _ (Or.inl ⟨2, h⟩) a aR rfl, fun h => ndk'.1 ((fl3 _).mpr (Or.inr (Or.inr h)))⟩, o1.nodup, ⟨o2.nodup, ndk2.2.1.2.1, fun x hx y hy e => newF x (Or.inl ⟨2, hx⟩) y (cR y hy) e⟩, fun x hx y hy e => ?_⟩
                subst e
                rcases hy with h | h
                · exact absurd (g'.dis 1 2 x hx h) (by decide)
                · exact newF x (Or.inl ⟨1, hx⟩) x (cR x h) rfl
              have own' : Own K B' H' (.ref a) (.mr none [a', b', pc]) (a :: [fs' 1, fs' 2, Tc].flatten) := ⟨a, [va, vb, vc], [fs' 1, fs' 2, Tc], rfl, rfl, by rw [kpR a aR]; exact hz, ⟨o1, o2, oc', True.intro⟩, ndn⟩
              have owh : OwnL K B H xs (l.set k (.hl none)) (Us.set k []) := OwnL.set (Same.refl B) h0.ow (fun _ _ _ _ _ _ => rfl) w1 rfl
              have subh : ∀ x ∈ (Us.set k []).flatten, x ∈ (Us.set k (a :: Tc)).flatten := fun x hx => by
                rcases flat_set_mem hx with h | ⟨i, T2, h1, h2, h3⟩
                · cases h
                · exact List.mem_flatten.mpr ⟨T2, List.mem_of_getElem? (by rw [List.getElem?_set_ne (Ne.symm h1)]; exact h2), h3⟩
              have owh' : OwnL K B' H' xs (l.set k (.hl none)) (Us.set k []) := OwnL.keepA fr.bb owh fun x hx => kpR x (List.mem_cons_of_mem _ (subh x hx))
              have ow' : OwnL K B' H' xs (l.set k (.mr none [a', b', pc])) (Us.set k (a :: [fs' 1, fs' 2, Tc].flatten)) := by
                have := OwnL.set (k := k) (Same.refl B') owh' (fun _ _ _ _ _ _ => rfl) w1 own'
                rw [List.set_set, List.set_set] at this
                exact this
              have sub' : ∀ x ∈ (Us.set k (a :: [fs' 1, fs' 2, Tc].flatten)).flatten, (x ∈ fs' 1 ∨ x ∈ fs' 2) ∨ x ∈ (Us.set k (a :: Tc)).flatten := fun x hx => by
                rcases flat_set_mem hx with h | ⟨i, T2, h1, h2, h3⟩
                · rcases List.mem_cons.mp h with rfl | h
                  · exact Or.inr (List.mem_flatten.mpr ⟨x :: Tc, List.mem_of_getElem? (List.getElem?_set_self hkU), by simp⟩)
                  · simp only [List.flatten_cons, List.flatten_nil, List.append_nil, List.mem_append] at h
                    rcases h with h | h | h
                    · exact Or.inl (Or.inl h)
                    · exact Or.inl (Or.inr h)
                    · exact Or.inr (List.mem_flatten.mpr ⟨a :: Tc, List.mem_of_getElem? (List.getElem?_set_self hkU), List.mem_cons_of_mem _ h⟩)
                · exact Or.inr (List.mem_flatten.mpr ⟨T2, List.mem_of_getElem? (by rw [List.getElem?_set_ne (Ne.symm h1)]; exact h2), h3⟩)
              have nd0 : (Us.set k ([] : List Addr)).flatten.Nodup := flat_set_nodup nd'.2 w2 List.nodup_nil (fun a ha => nomatch ha)
              have subh2 : ∀ x ∈ (Us.set k ([] : List Addr)).flatten, x ∉ a :: [Ta, Tb, Tc].flatten := fun x hx => by
                rcases flat_set_mem hx with h | ⟨i, T2, h1, h2, h3⟩
                · cases h
                · exact fun h => h1 (flat_injL nd'.2 h2 w2 h3 h)
              have ndf : (o :: (Us.set k (a :: [fs' 1, fs' 2, Tc].flatten)).flatten).Nodup := by
                rw [List.nodup_cons]
                refine ⟨fun h => ?_, ?_⟩
                · rcases sub' o h with h | h
                  · rcases h with h | h
                    · exact newF o (Or.inl ⟨1, h⟩) o (by simp) rfl
                    · exact newF o (Or.inl ⟨2, h⟩) o (by simp) rfl
                  · rcases flat_set_mem h with h | ⟨i, T2, h1, h2, h3⟩
                    · rcases List.mem_cons.mp h with rfl | h
                      · exact nd'.1 (inK _ (by simp))
                      · exact nd'.1 (inK _ (List.mem_cons_of_mem _ ((fl3 _).mpr (Or.inr (Or.inr h)))))
                    · exact nd'.1 (List.mem_flatten.mpr ⟨T2, List.mem_of_getElem? h2, h3⟩)
                · have := flat_set_nodup (k := k) (T := []) (T' := a :: [fs' 1, fs' 2, Tc].flatten) nd0 (List.getElem?_set_self hkU) ndn (fun x hx hx2 => by
                    exfalso
                    rcases List.mem_cons.mp hx with rfl | hx
                    · exact subh2 _ hx2 (by simp)
                    · simp only [List.flatten_cons, List.flatten_nil, List.append_nil, List.mem_append] at hx
                      rcases hx with h | h | h
                      · exact newF x (Or.inl ⟨1, h⟩) x (List.mem_cons_of_mem _ (subh x hx2)) rfl
                      · exact newF x (Or.inl ⟨2, h⟩) x (List.mem_cons_of_mem _ (subh x hx2)) rfl
                      · exact subh2 x hx2 (List.mem_cons_of_mem _ ((fl3 x).mpr (Or.inr (Or.inr h)))))
                  rw [List.set_set] at this
                  exact this
              have offf : ∀ x ∈ o :: (Us.set k (a :: [fs' 1, fs' 2, Tc].flatten)).flatten, B' x = none ∧ ((x ∈ fs' 1 ∨ x ∈ fs' 2) ∨ x ∈ o :: (Us.set k (a :: Tc)).flatten) := fun x hx => by
                rcases List.mem_cons.mp hx with rfl | hx
                · exact ⟨bnR _ (by simp), Or.inr (by simp)⟩
                · rcases sub' x hx with h | h
                  · refine ⟨?_, Or.inl h⟩
                    rcases h with h | h
                    · exact g'.out 1 x h
                    · exact g'.out 2 x h
                  · exact ⟨bnR x (List.mem_cons_of_mem _ h), Or.inr (List.mem_cons_of_mem _ h)⟩
              have g3 := g2.put (i := j) (v := .ref o) (s := .mr tg (l.set k (.mr none [a', b', pc]))) (T := o :: (Us.set k (a :: [fs' 1, fs' 2, Tc].flatten)).flatten) (by simpa using hjl) ⟨o, xs, _, rfl, rfl, by rw [kpR o (by simp)]; exact h0.hx, ow', ndf⟩ (fun kk h => by
                obtain ⟨vv, t1, _, t3⟩ := g.at_ j _ q2
                rw [z1] at t1
                cases t1
                exact t3 kk h) fun x hx => ⟨(offf x hx).1, fun i hij hi => ?_⟩
              · rw [set_same z1] at g3
                have eE : (((ρ.set s none).set j none).set s (some (sd'.retag sd.tag))).set j (some (.mr tg (l.set k (.mr none [a', b', pc])))) = (ρ.set s (some (sd'.retag sd.tag))).set j (some (.mr tg (l.set k (.mr none [a', b', pc])))) := by
                  rw [List.set_comm none (some (sd'.retag sd.tag)) (Ne.symm c1), List.set_set, List.set_set]
                rw [eE] at g3
                refine kk v B' H' _ T (fr.weak (fun x hx => ?_) fun x hx => ?_) g3 ⟨ok.1, ok.2.1, fun x hx => ⟨(ok.2.2 x hx).1, fun i hi => ?_⟩⟩
                · rcases inA x hx with h | h | h
                  · exact ⟨s, h⟩
                  · exact ⟨j, by rw [hfj]; exact inJ x (List.mem_cons_of_mem _ ((fl3 x).mpr (Or.inl h)))⟩
                  · exact ⟨j, by rw [hfj]; exact inJ x (List.mem_cons_of_mem _ ((fl3 x).mpr (Or.inr (Or.inl h))))⟩
                · rcases hx with ⟨i, hi⟩ | hx
                  · try dsimp only at hi
                    split at hi
                    · rcases (offf x hi).2 with (h | h) | h
                      · exact Or.inl (Or.inl ⟨1, h⟩)
                      · exact Or.inl (Or.inl ⟨2, h⟩)
                      · exact Or.inr (Or.inl ⟨j, by rw [hfj]; exact (restT x h).1⟩)
                    · rename_i hij
                      split at hi
                      · exact Or.inl (Or.inl ⟨0, hi⟩)
                      · rename_i his
                        exact Or.inr (Or.inl ⟨i, hi⟩)
                  · exact Or.inl (Or.inr hx)
                · try dsimp only at hi
                  split at hi
                  · rcases (offf x hi).2 with (h | h) | h
                    · exact (ok.2.2 x hx).2 1 h
                    · exact (ok.2.2 x hx).2 2 h
                    · exact newF x (Or.inr hx) x h rfl
                  · rename_i hij
                    split at hi
                    · exact (ok.2.2 x hx).2 0 hi
                    · rename_i his
                      exact new1 x (Or.inr hx) i (mk1 hij his hi)
              · try dsimp only at hi
                split at hi
                · rcases (offf x hx).2 with (h | h) | h
                  · exact absurd (g'.dis 0 1 x hi h) (by decide)
                  · exact absurd (g'.dis 0 2 x hi h) (by decide)
                  · exact newF x (Or.inl ⟨0, hi⟩) x h rfl
                · rename_i his
                  have hi := mk1 hij his hi
                  rcases (offf x hx).2 with (h | h) | h
                  · exact new1 x (Or.inl ⟨1, h⟩) i hi
                  · exact new1 x (Or.inl ⟨2, h⟩) i hi
                  · have r1 := (in1 x ⟨i, hi⟩).2.2
                    rw [hfj] at r1
                    exact r1 (restT x h).1
          · cases e1
        · cases e1
      · cases e1
    · cases e1
  · cases e1
end
section
variable {X : Cx} {vs0 : List V} {kk : Nat} {F : List Sl → Option (Sl × List Sl)} {x : Str} {p pos p1 p2 p3 p4 q1 q2 : Pos} {es ej et ej' et' en : Expr} {c0 c1 s j t n : Nat}
theorem de_callP (C : Callee X.prog X.w X.K X.mg X.base kk x 4 F) (hr : Room kk X.A) (hg : Gl X x) (hs : PE X es (tVar s)) (hj : PE X ej (tVar j)) (ht : PE X et (tVar t)) (hj' : PE X ej' (tVar j)) (ht' : PE X et' (tVar t)) (hn : PE X en (tVar n))
    (s1 : PlainIx et) (s2 : PlainIx (.Constant (.int 0) c0 q1)) (s3 : PlainIx et') (s4 : PlainIx (.Constant (.int 1) c1 q2)) (hdb : (x == ("__debug__" : Str)) = false := by decide)
    (h1 : starEach [es, .Subscript (.Subscript ej et p1) (.Constant (.int 0) c0 q1) p2, .Subscript (.Subscript ej' et' p3) (.Constant (.int 1) c1 q2) p4, en] X.env = (false, eval es X.env) :: starEach [.Subscript (.Subscript ej et p1) (.Constant (.int 0) c0 q1) p2, .Subscript (.Subscript ej' et' p3) (.Constant (.int 1) c1 q2) p4, en] X.env := by rfl)
    (h2 : starEach [.Subscript (.Subscript ej et p1) (.Constant (.int 0) c0 q1) p2, .Subscript (.Subscript ej' et' p3) (.Constant (.int 1) c1 q2) p4, en] X.env = (false, eval (.Subscript (.Subscript ej et p1) (.Constant (.int 0) c0 q1) p2) X.env) :: starEach [.Subscript (.Subscript ej' et' p3) (.Constant (.int 1) c1 q2) p4, en] X.env := by rfl)
    (h3 : starEach [.Subscript (.Subscript ej' et' p3) (.Constant (.int 1) c1 q2) p4, en] X.env = (false, eval (.Subscript (.Subscript ej' et' p3) (.Constant (.int 1) c1 q2) p4) X.env) :: starEach [en] X.env := by rfl)
    (h4 : starEach [en] X.env = (false, eval en X.env) :: starEach [] X.env := by rfl)
    (hpl : (backTo pos (starEach [.Subscript (.Subscript ej et p1) (.Constant (.int 0) c0 q1) p2, .Subscript (.Subscript ej' et' p3) (.Constant (.int 1) c1 q2) p4, en] X.env)).any (·.1) = false := by rfl) :
    PE X (.Call (.Name x p) [es, .Subscript (.Subscript ej et p1) (.Constant (.int 0) c0 q1) p2, .Subscript (.Subscript ej' et' p3) (.Constant (.int 1) c1 q2) p4, en] [] pos) (rdE X.K vs0 (eCallP F s j t n)) := by
  obtain ⟨f, fd, ps, Fn, hm, hk, hb⟩ := C.ex
  refine PE.imp (pe_call (E := E0) Fn hr hg hm hk hb .nil pass0 (pa_cons hs (pa_cons (pe_ix ix_seq (pe_ix ix_seq hj ht s1) pe_int s2) (pa_cons (pe_ix ix_seq (pe_ix ix_seq hj' ht' s3) pe_int s4) (pa_cons hn pa_nil h4) h3) h2) h1) hdb h1 hpl) fun σ H Q q => ?_
  obtain ⟨vS, o, xs, m, vk, a, va, vb, vc, vn, y1, z1, hx, hti, hat, rfl, hz, n1, sp⟩ := st_callP q
  refine ⟨vS, y1, _, z1, _, hti, Or.inl ⟨o, xs, m, _, rfl, rfl, Or.inl (Or.inl hx), hat, ?_⟩⟩
  refine Or.inl ⟨a, [va, vb, vc], 0, va, rfl, rfl, Or.inl (Or.inl hz), rfl, ?_⟩
  refine ⟨_, z1, _, hti, Or.inl ⟨o, xs, m, _, rfl, rfl, Or.inl (Or.inl hx), hat, ?_⟩⟩
  refine Or.inl ⟨a, [va, vb, vc], 1, vb, rfl, rfl, Or.inl (Or.inl hz), rfl, ?_⟩
  exact ⟨vn, n1, sp⟩
end
end Pd
set_option Elab.async false
set_option linter.all false
set_option maxRecDepth 100000
set_option maxHeartbeats 2000000
namespace Pd
open PySem PySem.Spec PyProof.Rows L2
def pListD : List Vw → Option Rd2
  | [.m l] => match strK l with
    | some ks => some (.nl (ks.map .str))
    | none => none
  | _ => none
def oListD := opV pListD
theorem kv_strs {ks : List Str} {kvs : List (Key × V)} (h : kvs.map (·.1) = ks.map Sum.inr) : kvs.map (fun kv => kV kv.1) = ks.map V.str := by
  have e : kvs.map (fun kv => kV kv.1) = (kvs.map (·.1)).map kV := by rw [List.map_map]; rfl
  rw [e, h, List.map_map]
  rfl
theorem oListD_ok {K : PySem.W.Frag} : OpOk K (fun xs H Q => ∃ (a : Addr) (kvs : List (Key × V)), xs = [.ref a] ∧ Rd H a (.dK kvs) ∧ ∀ p, H p = none → Q (.ref p) (upd H p (.lst (kvs.map fun kv => kV kv.1)))) oListD := opV_ok fun B H vs ds res Q e hs hp k => by
  unfold pListD at hp
  split at hp
  · split at hp
    · rename_i l ks hk
      cases hp
      obtain ⟨x, rfl, ⟨a, kvs, rfl, h1, h2⟩⟩ := hs.one
      refine ⟨a, kvs, rfl, h1, fun p hf => ?_⟩
      rw [kv_strs (by rw [← strK_keys hk]; exact kv_keys h2)]
      exact k p _ hf (dpAll_strs _)
    · cases hp
  · cases hp
@[simp ↓] theorem oListD_eq : oListD = opV pListD := rfl
end Pd
set_option Elab.async false
set_option linter.all false
set_option maxRecDepth 100000
set_option maxHeartbeats 1000000
namespace Pd
open PySem PySem.Spec PyProof.Rows L2
namespace B
section
variable {ρ : Env}
theorem ev_callP {F : List Sl → Option (Sl × List Sl)} {s j t n k : Nat} {sd a b c : Sl} {tg : Option Nat} {l : List Sl} {m : Int} {dn : D} {Q : Rs → Env → Prop} (h1 : ρ[s]? = some (some sd)) (h2 : ρ[j]? = some (some (.mr tg l))) (h3 : ρ[t]? = some (some (.p (.int m)))) (h4 : ρ[n]? = some (some (.p dn))) (hk : ixN l.length m = some k) (hl : l[k]? = some (.mr none [a, b, c])) (hc : s ≠ j ∧ a.tag = none ∧ b.tag = none)
    (h : Sp F [sd.bare, a, b, .p dn] fun r ss' => ∃ sd' a' b' d', ss' = [sd', a', b', d'] ∧ Q (.own r) ((ρ.set s (some (sd'.retag sd.tag))).set j (some (.mr tg (l.set k (.mr none [a', b', c])))))) : Ev (eCallP F s j t n) ρ Q := by
  obtain ⟨r, ss', e, sd', a', b', d', rfl, q⟩ := h
  refine ⟨_, _, ?_, q⟩
  unfold eCallP
  simp only [h1, h2, h3, h4, hk, hl]
  rw [if_pos hc]
  simp only [e]
theorem ev_unpR {j : Nat} {is : List Nat} {f : M Rs} {g : M Fl} {t : Option Nat} {l : List Sl} {Q : Fl → Env → Prop} (h1 : ρ[j]? = some (some (.mr t l)))
    (h : Ev (vInt f) (ρ.set j none) fun m ρ1 => ∃ k le, ixN l.length m = some k ∧ l[k]? = some (.mr none le) ∧ (le.length = is.length ∧ is.Nodup ∧ (∀ i ∈ is, i < ρ1.length) ∧ (∀ j' ∈ [j], j' ∉ is)) ∧
      PtQ (is.zip (List.range is.length)) [j] le g (hlAll is ρ1) fun fl le' ρ' => fl = .nx ∧ j < ρ'.length ∧ Q .nx (ρ'.set j (some (.mr none (l.set k (.mr none le')))))) : Ev (gUnpR j is f g) ρ Q := by
  obtain ⟨m, ρ1, e1, k, le, hk, hl, hc, fl, le', ρ', ep, rfl, hj, q⟩ := h
  refine ⟨_, _, ?_, q⟩
  unfold gUnpR
  simp only [h1, e1, hk]
  unfold turnP
  simp only [hl]
  rw [if_pos hc, ep]
  simp only [Option.bind_some, giveJ]
  rw [if_pos hj]
theorem loopP_inv {is js : List Nat} {body : M Fl} {N : Nat} (I : Nat → List Sl → Env → Prop)
    (hs : ∀ n l ρ, n < N → I n l ρ → ∃ le, l[n]? = some (.mr none le) ∧ (le.length = is.length ∧ is.Nodup ∧ (∀ i ∈ is, i < ρ.length) ∧ (∀ j ∈ js, j ∉ is)) ∧ PtQ (is.zip (List.range is.length)) js le body (hlAll is ρ) fun fl le' ρ' => fl = .nx ∧ I (n + 1) (l.set n (.mr none le')) ρ') :
    ∀ (m n : Nat) (l : List Sl) (ρ : Env), n + m = N → I n l ρ → ∃ l' ρ', loopP is js body ((List.range N).drop n) l ρ = some (.nx, l', ρ') ∧ I N l' ρ'
  | 0, n, l, ρ, e, h => by
    rw [Nat.add_zero] at e
    subst e
    refine ⟨l, ρ, ?_, h⟩
    rw [List.drop_eq_nil_of_le (by rw [List.length_range]; exact Nat.le_refl _)]
    rfl
  | m + 1, n, l, ρ, e, h => by
    have hn : n < N := by omega
    obtain ⟨le, h1, h2, fl, le', ρ', ep, rfl, q⟩ := hs n l ρ hn h
    obtain ⟨l2, ρ2, e2, q2⟩ := loopP_inv I hs m (n + 1) _ _ (by omega) q
    refine ⟨l2, ρ2, ?_, q2⟩
    rw [List.drop_eq_getElem_cons (by rw [List.length_range]; exact hn), List.getElem_range]
    unfold loopP turnP
    simp only [h1]
    rw [if_pos h2, ep]
    exact e2
theorem ev_forR {j : Nat} {is : List Nat} {g : M Fl} {t : Option Nat} {l : List Sl} {Q : Fl → Env → Prop} (h1 : ρ[j]? = some (some (.mr t l))) (I : Nat → List Sl → Env → Prop) (h0 : I 0 l (ρ.set j none))
    (hs : ∀ n l1 ρ1, n < l.length → I n l1 ρ1 → ∃ le, l1[n]? = some (.mr none le) ∧ (le.length = is.length ∧ is.Nodup ∧ (∀ i ∈ is, i < ρ1.length) ∧ (∀ j' ∈ [j], j' ∉ is)) ∧ PtQ (is.zip (List.range is.length)) [j] le g (hlAll is ρ1) fun fl le' ρ' => fl = .nx ∧ I (n + 1) (l1.set n (.mr none le')) ρ')
    (hd : ∀ l' ρ', I l.length l' ρ' → j < ρ'.length ∧ Q .nx (ρ'.set j (some (.mr none l')))) : Ev (gForR j is g) ρ Q := by
  obtain ⟨l', ρ', e, q⟩ := loopP_inv I hs l.length 0 l (ρ.set j none) (by omega) h0
  obtain ⟨c, q⟩ := hd l' ρ' q
  refine ⟨_, _, ?_, q⟩
  unfold gForR
  simp only [h1]
  rw [List.drop_zero] at e
  rw [e]
  simp only [Option.bind_some, giveJ]
  rw [if_pos c]
end
end B
end Pd
set_option Elab.async false
set_option linter.all false
set_option maxRecDepth 100000
set_option maxHeartbeats 1000000
namespace Pd
open PySem PySem.Spec PyProof.Rows L2
open B (loopP_inv)
section
variable {ρ : Env}
theorem ev_callP {F : List Sl → Option (Sl × List Sl)} {s j t n k : Nat} {sd a b c : Sl} {tg : Option Nat} {l : List Sl} {m : Int} {dn : D} {Q : Rs → Env → Prop} (h1 : ρ[s]? = some (some sd)) (h2 : ρ[j]? = some (some (.mr tg l))) (h3 : ρ[t]? = some (some (.p (.int m)))) (h4 : ρ[n]? = some (some (.p dn))) (hk : ixN l.length m = some k) (hl : l[k]? = some (.mr none [a, b, c])) (hc : s ≠ j ∧ a.tag = none ∧ b.tag = none)
    (h : Sp F [sd.bare, a, b, .p dn] fun r ss' => ∃ sd' a' b' d', ss' = [sd', a', b', d'] ∧ Q (.own r) ((ρ.set s (some (sd'.retag sd.tag))).set j (some (.mr tg (l.set k (.mr none [a', b', c])))))) : Ev (eCallP F s j t n) ρ Q := B.ev_callP h1 h2 h3 h4 hk hl hc h
theorem ev_unpR {j : Nat} {is : List Nat} {f : M Rs} {g : M Fl} {t : Option Nat} {l : List Sl} {Q : Fl → Env → Prop} (h1 : ρ[j]? = some (some (.mr t l)))
    (h : Ev (vInt f) (ρ.set j none) fun m ρ1 => ∃ k le, ixN l.length m = some k ∧ l[k]? = some (.mr none le) ∧ (le.length = is.length ∧ is.Nodup ∧ (∀ i ∈ is, i < ρ1.length) ∧ (∀ j' ∈ [j], j' ∉ is)) ∧
      PtQ (is.zip (List.range is.length)) [j] le g (hlAll is ρ1) fun fl le' ρ' => fl = .nx ∧ j < ρ'.length ∧ Q .nx (ρ'.set j (some (.mr none (l.set k (.mr none le')))))) : Ev (gUnpR j is f g) ρ Q := B.ev_unpR h1 h
theorem ev_forR {j : Nat} {is : List Nat} {g : M Fl} {t : Option Nat} {l : List Sl} {Q : Fl → Env → Prop} (h1 : ρ[j]? = some (some (.mr t l))) (I : Nat → List Sl → Env → Prop) (h0 : I 0 l (ρ.set j none))
    (hs : ∀ n l1 ρ1, n < l.length → I n l1 ρ1 → ∃ le, l1[n]? = some (.mr none le) ∧ (le.length = is.length ∧ is.Nodup ∧ (∀ i ∈ is, i < ρ1.length) ∧ (∀ j' ∈ [j], j' ∉ is)) ∧ PtQ (is.zip (List.range is.length)) [j] le g (hlAll is ρ1) fun fl le' ρ' => fl = .nx ∧ I (n + 1) (l1.set n (.mr none le')) ρ')
    (hd : ∀ l' ρ', I l.length l' ρ' → j < ρ'.length ∧ Q .nx (ρ'.set j (some (.mr none l')))) : Ev (gForR j is g) ρ Q := B.ev_forR h1 I h0 hs hd
end
end Pd
set_option Elab.async false
set_option linter.all false
set_option maxRecDepth 100000
set_option maxHeartbeats 4000000
namespace My
open PySem PySem.Spec PyProof.Rows L2 Pd
def top (i : Nat) : Stmt := PySem.Challenge.pw_belowpoints_k46_whole_two_kept_points.main.body.getD i (.Pass ⟨0, 0, 0, 0⟩)
noncomputable def g_law_folded : M Fl := (gSeq (gSet 1 (M.bind (aCons (eName 0) aNil) oLen))
    (gSeq (gFor (mSeq (eName 0)) (tgName 2)
    (gSet 1 (eBin (eBin (eBin (eName 1) (eC (.int 48271)) oMul2) (eBin (eName 2) (eC (.int 2147483629)) oMod) oAdd) (eC (.int 2147483647)) oMod)))
    (gRet (eName 1))))
noncomputable def m_law_folded : List Sl → Option (Sl × List Sl) := mkF 2 g_law_folded
noncomputable def g_law_seed : M Fl := (gSeq (gSet 1 (M.bind (aCons (eName 0) (aCons (eBin (eC (.int 0)) (eName 0) oSub) aNil)) oMax))
    (gRet (M.bind (aCons (eName 1) (aCons (M.bind (aCons (eBin (eName 1) (eC (.int 1000000000000000000)) oGe) aNil) oInt1) (aCons (eC (.int 0)) (aCons (eBin (eName 0) (eC (.int 1999999913)) oMod) aNil)))) oLst)))
noncomputable def m_law_seed : List Sl → Option (Sl × List Sl) := mkF 1 g_law_seed
noncomputable def g_law_draw : M Fl := (gSeq (gSub (eBin (eBin (eName 0) (eC (.int 2)) oIx) (eC (.int 1)) oAdd) (eName 0) (eC (.int 2)))
    (gSeq (gIf (tAnd' (mTest (eBin (eBin (eName 0) (eC (.int 1)) oIx) (eC (.int 1)) oEq)) (mTest (eBin (eBin (eName 0) (eC (.int 0)) oIx) (eC (.int 0)) oGt)))
    (gSeq (gSet 2 (eBin (eBin (eName 0) (eC (.int 0)) oIx) (eName 1) oMod))
    (gSeq (gSub (eBin (eBin (eName 0) (eC (.int 0)) oIx) (eName 1) oDiv) (eName 0) (eC (.int 0)))
    (gRet (eName 2))))
    gNext)
    (gSeq (gSet 3 (eBin (eBin (eBin (eBin (eBin (eName 0) (eC (.int 3)) oIx) (eBin (eC (.int 6997)) (eBin (eName 0) (eC (.int 2)) oIx) oMul2) oAdd) (eC (.int 11)) oAdd) (eC (.int 48271)) oMul2) (eC (.int 2147483647)) oMod))
    (gSeq (gSet 3 (eBin (eBin (eBin (eBin (eName 3) (eName 3) oMul2) (eC (.int 2147483629)) oMod) (eC (.int 40692)) oMul2) (eC (.int 2147483399)) oMod))
    (gRet (eBin (eBin (eName 3) (eC (.int 7)) oDiv) (eName 1) oMod))))))
noncomputable def m_law_draw : List Sl → Option (Sl × List Sl) := mkF 2 g_law_draw
noncomputable def g_law_names : M Fl := (gSeq (gSet 2 (eC (.str "abcdefghijklmnopqrstuvwxyz")))
    (gSeq (gSet 3 (eBin (eBin (eLc (mSeq (eName 2)) [4] (tgName 4) tYes' (eName 4)) (eLc (mSeq (eName 2)) [4] (tgName 4) tYes' (eBin (eName 4) (eC (.str "b")) oAdd)) oAdd) (eLc (mSeq (eName 2)) [4] (tgName 4) tYes' (eBin (eC (.str "zzzzzzz")) (eName 4) oAdd)) oAdd))
    (gSeq (gSet 3 (eBin (eName 3) (M.bind (aCons (eC (.str "put")) (aCons (eC (.str "take")) (aCons (eC (.str "move")) (aCons (eC (.str "points")) (aCons (eC (.str "counts")) (aCons (eC (.str "pairs")) (aCons (eC (.str "halves")) (aCons (eC (.str "below")) (aCons (eC (.str "above")) (aCons (eC (.str "abcdefgh")) aNil)))))))))) oLst) oAdd))
    (gSeq (gSet 3 (eBin (eName 3) (M.bind (aCons (eC (.str "mall")) (aCons (eC (.str "mill")) (aCons (eC (.str "mell")) (aCons (eC (.str "abcxefgh")) (aCons (eC (.str "millmal")) (aCons (eC (.str "mellmal")) (aCons (eC (.str "ba")) aNil))))))) oLst) oAdd))
    (gRet (eLc (mRng1 (aCons (eName 1) aNil)) [5] (tgName 5) tYes' (eMeth "list" (eName 3) (aCons (M.bind (aCons (eName 0) (aCons (eFz (M.bind (aCons (eName 3) aNil) oLen)) aNil)) (opCall 2 m_law_draw)) aNil) o_pop1)))))))
noncomputable def m_law_names : List Sl → Option (Sl × List Sl) := mkF 4 g_law_names
noncomputable def g_KeptPoints___init__ : M Fl := (gSeq (gAttr "KeptPoints" "places" 0 eDNew)
    (gAttr "KeptPoints" "counted" 0 (eC (.int 0))))
noncomputable def m_KeptPoints___init__ : List Sl → Option (Sl × List Sl) := mkF 0 g_KeptPoints___init__
noncomputable def g_law_number : M Fl := (gSeq (gIf (mTest (eBin (eName 1) (eC (.int 0)) oEq))
    (gRet (eBin (M.bind (aCons (eName 0) (aCons (eC (.int 4)) aNil)) (opCall 2 m_law_draw)) (eC (.int 1)) oSub))
    gNext)
    (gSeq (gIf (mTest (eBin (eName 1) (eC (.int 1)) oEq))
    (gRet (eBin (M.bind (aCons (eName 0) (aCons (eC (.int 41)) aNil)) (opCall 2 m_law_draw)) (eC (.int 20)) oSub))
    gNext)
    (gSeq (gSet 2 (eBin (M.bind (aCons (eBin (eBin (M.bind (aCons (eName 0) (aCons (eFz (eC (.int 100000))) aNil)) (opCall 2 m_law_draw)) (eC (.int 100000)) oMul2) (M.bind (aCons (eName 0) (aCons (eFz (eC (.int 100000))) aNil)) (opCall 2 m_law_draw)) oAdd) (aCons (eC (.int 9999999999)) aNil)) oLst) (M.bind (aCons (eBin (M.bind (aCons (eName 0) (aCons (eC (.int 8)) aNil)) (opCall 2 m_law_draw)) (eC (.int 0)) oEq) aNil) oInt1) oIx))
    (gRet (eBin (eBin (M.bind (aCons (eC (.int 1)) (aCons (eC (.int (-1))) aNil)) oLst) (M.bind (aCons (eName 0) (aCons (eC (.int 2)) aNil)) (opCall 2 m_law_draw)) oIx) (eName 2) oMul2)))))
noncomputable def m_law_number : List Sl → Option (Sl × List Sl) := mkF 1 g_law_number
noncomputable def g_law_near : M Fl := (gSeq (gIf (tOr' (mTest (eBin (eName 1) (M.bind aNil oTup) oEq)) (mTest (eBin (M.bind (aCons (eName 0) (aCons (eC (.int 5)) aNil)) (opCall 2 m_law_draw)) (eC (.int 0)) oEq)))
    (gRet (M.bind (aCons (eName 0) (aCons (eFz (M.bind (aCons (eName 0) (aCons (eC (.int 3)) aNil)) (opCall 2 m_law_draw))) aNil)) (opCall 2 m_law_number)))
    gNext)
    (gSeq (gSet 2 (eBin (eBin (eBin (eName 1) (M.bind (aCons (eName 0) (aCons (eFz (M.bind (aCons (eName 1) aNil) oLen)) aNil)) (opCall 2 m_law_draw)) oIx) (M.bind (aCons (eName 0) (aCons (eC (.int 3)) aNil)) (opCall 2 m_law_draw)) oAdd) (eC (.int 1)) oSub))
    (gRet (M.bind (aCons (eC (.int (-9999999999))) (aCons (M.bind (aCons (eC (.int 9999999999)) (aCons (eName 2) aNil)) oMin) aNil)) oMax))))
noncomputable def m_law_near : List Sl → Option (Sl × List Sl) := mkF 1 g_law_near
noncomputable def g_law_place : M Fl := (gSeq (gIf (tAnd' (mTest (eBin (eName 1) (M.bind aNil oTup) oNe)) (mTest (eBin (M.bind (aCons (eName 0) (aCons (eC (.int 4)) aNil)) (opCall 2 m_law_draw)) (eC (.int 0)) oEq)))
    (gRet (eSl (eBin (eName 1) (M.bind (aCons (eName 0) (aCons (eFz (M.bind (aCons (eName 1) aNil) oLen)) aNil)) (opCall 2 m_law_draw)) oIx) (mInt (eC (.int 1))) mNo oSl))
    gNext)
    (gSeq (gSet 2 (M.bind (aCons (eLc (mSeq (eName 1)) [4, 5, 6] (tgTup 3 (tgCons (tgName 4) (tgCons (tgName 5) (tgCons (tgName 6) tgNil)))) tYes' (eName 5)) aNil) oTupOf))
    (gSeq (gSet 3 (M.bind (aCons (eLc (mSeq (eName 1)) [4, 5, 6] (tgTup 3 (tgCons (tgName 4) (tgCons (tgName 5) (tgCons (tgName 6) tgNil)))) tYes' (eName 6)) aNil) oTupOf))
    (gRet (M.bind (aCons (M.bind (aCons (eName 0) (aCons (eFz (eName 2)) aNil)) (opCall 2 m_law_near)) (aCons (M.bind (aCons (eName 0) (aCons (eFz (eName 3)) aNil)) (opCall 2 m_law_near)) aNil)) oTup)))))
noncomputable def m_law_place : List Sl → Option (Sl × List Sl) := mkF 5 g_law_place
noncomputable def g_in_corner : M Fl := (gRet (M.bind (aCons (eLc (mSeq (eName 0)) [3, 4, 5] (tgTup 3 (tgCons (tgName 3) (tgCons (tgName 4) (tgCons (tgName 5) tgNil)))) (tAnd' (mTest (eBin (eName 4) (eName 1) oLe)) (mTest (eBin (eName 5) (eName 2) oLe))) (eName 3)) aNil) oLen))
noncomputable def m_in_corner : List Sl → Option (Sl × List Sl) := mkF 3 g_in_corner
noncomputable def g_KeptPoints_points_now : M Fl := (gRet (M.bind (aCons (eLcA "KeptPoints" "places" 0 wkItems [1, 2, 3] (tgTup 2 (tgCons (tgName 1) (tgCons (tgTup 2 (tgCons (tgName 2) (tgCons (tgName 3) tgNil))) tgNil))) tYes' (M.bind (aCons (eName 1) (aCons (eName 2) (aCons (eName 3) aNil))) oTup)) aNil) oTupOf))
noncomputable def m_KeptPoints_points_now : List Sl → Option (Sl × List Sl) := mkF 3 g_KeptPoints_points_now
noncomputable def g_KeptPoints_below_now : M Fl := (gSeq (gSet 3 (M.bind (aCons (eLcA "KeptPoints" "places" 0 wkVals [4] (tgName 4) (mTest (eBin (eName 4) (M.bind (aCons (eName 1) (aCons (eName 2) aNil)) oTup) oEq)) (eC (.int 1))) aNil) oLen))
    (gRet (eBin (M.bind (aCons (eFz (eCallM "KeptPoints" "points_now" (eName 0) aNil 1 m_KeptPoints_points_now)) (aCons (eName 1) (aCons (eName 2) aNil))) (opCall 3 m_in_corner)) (eName 3) oSub)))
noncomputable def m_KeptPoints_below_now : List Sl → Option (Sl × List Sl) := mkF 2 g_KeptPoints_below_now
noncomputable def g_lies_below : M Fl := (gRet (eAnd (eBin (eName 0) (eName 1) oNe) (eAnd (eBin (eBin (eName 0) (eC (.int 0)) oIx) (eBin (eName 1) (eC (.int 0)) oIx) oLe) (eBin (eBin (eName 0) (eC (.int 1)) oIx) (eBin (eName 1) (eC (.int 1)) oIx) oLe))))
noncomputable def m_lies_below : List Sl → Option (Sl × List Sl) := mkF 0 g_lies_below
noncomputable def g_KeptPoints_above_now : M Fl := (gRet (M.bind (aCons (eLcA "KeptPoints" "places" 0 wkVals [3] (tgName 3) (mTest (M.bind (aCons (M.bind (aCons (eName 1) (aCons (eName 2) aNil)) oTup) (aCons (eFz (eName 3)) aNil)) (opCall 2 m_lies_below))) (eC (.int 1))) aNil) oLen))
noncomputable def m_KeptPoints_above_now : List Sl → Option (Sl × List Sl) := mkF 1 g_KeptPoints_above_now
noncomputable def g_KeptPoints_count_in : M Fl := (gAugA (fun a b => a + b) "KeptPoints" "counted" 0 (eBin (eName 2) (eBin (eCallM "KeptPoints" "below_now" (eName 0) (aCons (eBin (eName 1) (eC (.int 0)) oIx) (aCons (eBin (eName 1) (eC (.int 1)) oIx) aNil)) 3 m_KeptPoints_below_now) (eCallM "KeptPoints" "above_now" (eName 0) (aCons (eBin (eName 1) (eC (.int 0)) oIx) (aCons (eBin (eName 1) (eC (.int 1)) oIx) aNil)) 3 m_KeptPoints_above_now) oAdd) oMul2))
noncomputable def m_KeptPoints_count_in : List Sl → Option (Sl × List Sl) := mkF 0 g_KeptPoints_count_in
noncomputable def g_KeptPoints_put_point : M Fl := (gSeq (gIf (mTest (eBin (eName 1) (eAttr "KeptPoints" "places" 0) oInDL))
    gNever
    gNext)
    (gSeq (gExpr (eCallM "KeptPoints" "count_in" (eName 0) (aCons (M.bind (aCons (eName 2) (aCons (eName 3) aNil)) oTup) (aCons (eC (.int 1)) aNil)) 3 m_KeptPoints_count_in))
    (gPutL (M.bind (aCons (eName 2) (aCons (eName 3) aNil)) oTup) (eAttr "KeptPoints" "places" 0) (eName 1))))
noncomputable def m_KeptPoints_put_point : List Sl → Option (Sl × List Sl) := mkF 0 g_KeptPoints_put_point
noncomputable def g_KeptPoints_need_there : M Fl := (gIf (mTest (eBin (eName 1) (eAttr "KeptPoints" "places" 0) oNiDL))
    gNever
    gNext)
noncomputable def m_KeptPoints_need_there : List Sl → Option (Sl × List Sl) := mkF 0 g_KeptPoints_need_there
noncomputable def g_KeptPoints_take_point : M Fl := (gSeq (gExpr (eCallM "KeptPoints" "need_there" (eName 0) (aCons (eName 1) aNil) 2 m_KeptPoints_need_there))
    (gExpr (eCallM "KeptPoints" "count_in" (eName 0) (aCons (eFz (eDPop (eAttr "KeptPoints" "places" 0) (eName 1))) (aCons (eC (.int (-1))) aNil)) 3 m_KeptPoints_count_in)))
noncomputable def m_KeptPoints_take_point : List Sl → Option (Sl × List Sl) := mkF 0 g_KeptPoints_take_point
noncomputable def g_KeptPoints_move_point : M Fl := (gSeq (gExpr (eCallM "KeptPoints" "need_there" (eName 0) (aCons (eName 1) aNil) 2 m_KeptPoints_need_there))
    (gSeq (gExpr (eCallM "KeptPoints" "count_in" (eName 0) (aCons (eBin (eAttr "KeptPoints" "places" 0) (eName 1) oIxDL) (aCons (eC (.int (-1))) aNil)) 3 m_KeptPoints_count_in))
    (gSeq (gPutL (M.bind (aCons (eName 2) (aCons (eName 3) aNil)) oTup) (eAttr "KeptPoints" "places" 0) (eName 1))
    (gExpr (eCallM "KeptPoints" "count_in" (eName 0) (aCons (M.bind (aCons (eName 2) (aCons (eName 3) aNil)) oTup) (aCons (eC (.int 1)) aNil)) 3 m_KeptPoints_count_in)))))
noncomputable def m_KeptPoints_move_point : List Sl → Option (Sl × List Sl) := mkF 0 g_KeptPoints_move_point
noncomputable def g_law_deed : M Fl := (gSeq (gSet 4 (eBin (eName 3) (M.bind (aCons (eName 0) (aCons (eFz (M.bind (aCons (eName 3) aNil) oLen)) aNil)) (opCall 2 m_law_draw)) oIx))
    (gSeq (gSet 5 (M.bind (aCons (eLock 2 (eLc (mItems (eName 2)) [8, 6] (tgTup 2 (tgCons (tgName 8) (tgCons (tgName 6) tgNil))) tYes' (eBin (M.bind (aCons (eName 8) aNil) oTup) (eName 6) oAdd))) aNil) oTupOf))
    (gSeq (gSet 6 (M.bind (aCons (eName 0) (aCons (eFz (eName 5)) aNil)) (opCall 2 m_law_place)))
    (gSeq (gSet 7 (M.bind (aCons (eName 0) (aCons (eC (.int 5)) aNil)) (opCall 2 m_law_draw)))
    (gIf (mTest (eBin (eName 4) (eName 2) oNiD))
    (gSeq (gExpr (eCallM "KeptPoints" "put_point" (eName 1) (aCons (eFz (eName 4)) (aCons (eBin (eName 6) (eC (.int 0)) oIx) (aCons (eBin (eName 6) (eC (.int 1)) oIx) aNil))) 4 m_KeptPoints_put_point))
    (gPut (eName 6) (eName 2) (eName 4)))
    (gIf (mTest (eBin (eName 7) (eC (.int 2)) oLt))
    (gSeq (gExpr (eCallM "KeptPoints" "take_point" (eName 1) (aCons (eFz (eName 4)) aNil) 2 m_KeptPoints_take_point))
    (gExpr (eDPop (eName 2) (eName 4))))
    (gIf (mTest (eBin (eName 7) (eC (.int 4)) oLt))
    (gSeq (gExpr (eCallM "KeptPoints" "move_point" (eName 1) (aCons (eFz (eName 4)) (aCons (eBin (eName 6) (eC (.int 0)) oIx) (aCons (eBin (eName 6) (eC (.int 1)) oIx) aNil))) 4 m_KeptPoints_move_point))
    (gPut (eName 6) (eName 2) (eName 4)))
    gNext)))))))
noncomputable def m_law_deed : List Sl → Option (Sl × List Sl) := mkF 5 g_law_deed
noncomputable def g_law_rows : M Fl := (gRet (M.bind (aCons (eLock 0 (eLc (mItems (eName 0)) [1, 2] (tgTup 2 (tgCons (tgName 1) (tgCons (tgName 2) tgNil))) tYes' (eBin (M.bind (aCons (eName 1) aNil) oTup) (eName 2) oAdd))) aNil) oTupOf))
noncomputable def m_law_rows : List Sl → Option (Sl × List Sl) := mkF 2 g_law_rows
noncomputable def g_law_box : M Fl := (gSeq (gSet 2 (M.bind (aCons (eName 0) (aCons (eName 1) aNil)) (opCall 2 m_law_place)))
    (gSeq (gSet 3 (M.bind (aCons (eName 0) (aCons (eName 1) aNil)) (opCall 2 m_law_place)))
    (gSeq (gIf (mTest (eBin (M.bind (aCons (eName 0) (aCons (eC (.int 8)) aNil)) (opCall 2 m_law_draw)) (eC (.int 0)) oEq))
    (gRet (eBin (eName 2) (eName 3) oAdd))
    gNext)
    (gSeq (gSet 4 (M.bind (aCons (M.bind (aCons (eBin (eName 2) (eC (.int 0)) oIx) (aCons (eBin (eName 3) (eC (.int 0)) oIx) aNil)) oMin) (aCons (M.bind (aCons (eBin (eName 2) (eC (.int 1)) oIx) (aCons (eBin (eName 3) (eC (.int 1)) oIx) aNil)) oMin) aNil)) oTup))
    (gRet (eBin (eName 4) (M.bind (aCons (M.bind (aCons (eBin (eName 2) (eC (.int 0)) oIx) (aCons (eBin (eName 3) (eC (.int 0)) oIx) aNil)) oMax) (aCons (M.bind (aCons (eBin (eName 2) (eC (.int 1)) oIx) (aCons (eBin (eName 3) (eC (.int 1)) oIx) aNil)) oMax) aNil)) oTup) oAdd))))))
noncomputable def m_law_box : List Sl → Option (Sl × List Sl) := mkF 3 g_law_box
noncomputable def g_KeptPoints_put_pointX : SX := (xSeq (xIf (mTest (eBin (eName 1) (eAttr "KeptPoints" "places" 0) oInDL))
    (xRaiseI "NoName" "word" (eName 1))
    (xLift gNext))
    (xLift (gSeq (gExpr (eCallM "KeptPoints" "count_in" (eName 0) (aCons (M.bind (aCons (eName 2) (aCons (eName 3) aNil)) oTup) (aCons (eC (.int 1)) aNil)) 3 m_KeptPoints_count_in))
    (gPutL (M.bind (aCons (eName 2) (aCons (eName 3) aNil)) oTup) (eAttr "KeptPoints" "places" 0) (eName 1)))))
noncomputable def m_KeptPoints_put_pointX : FX := mkX 0 g_KeptPoints_put_pointX
noncomputable def g_KeptPoints_need_thereX : SX := (xIf (mTest (eBin (eName 1) (eAttr "KeptPoints" "places" 0) oNiDL))
    (xRaiseI "NoName" "word" (eName 1))
    (xLift gNext))
noncomputable def m_KeptPoints_need_thereX : FX := mkX 0 g_KeptPoints_need_thereX
noncomputable def g_KeptPoints_move_pointX : SX := (xSeq (xExpr (xMeth "KeptPoints" "need_there" (eName 0) (aCons (eName 1) aNil) 2 m_KeptPoints_need_thereX))
    (xLift (gSeq (gExpr (eCallM "KeptPoints" "count_in" (eName 0) (aCons (eBin (eAttr "KeptPoints" "places" 0) (eName 1) oIxDL) (aCons (eC (.int (-1))) aNil)) 3 m_KeptPoints_count_in))
    (gSeq (gPutL (M.bind (aCons (eName 2) (aCons (eName 3) aNil)) oTup) (eAttr "KeptPoints" "places" 0) (eName 1))
    (gExpr (eCallM "KeptPoints" "count_in" (eName 0) (aCons (M.bind (aCons (eName 2) (aCons (eName 3) aNil)) oTup) (aCons (eC (.int 1)) aNil)) 3 m_KeptPoints_count_in))))))
noncomputable def m_KeptPoints_move_pointX : FX := mkX 0 g_KeptPoints_move_pointX
noncomputable def g_KeptPoints_take_pointX : SX := (xSeq (xExpr (xMeth "KeptPoints" "need_there" (eName 0) (aCons (eName 1) aNil) 2 m_KeptPoints_need_thereX))
    (xLift (gExpr (eCallM "KeptPoints" "count_in" (eName 0) (aCons (eFz (eDPop (eAttr "KeptPoints" "places" 0) (eName 1))) (aCons (eC (.int (-1))) aNil)) 3 m_KeptPoints_count_in))))
noncomputable def m_KeptPoints_take_pointX : FX := mkX 0 g_KeptPoints_take_pointX
noncomputable def g_law_is_refused : M Fl := (gSeq (gSet 3 (eC .none))
    (gSeq (gSet 4 (eC (.str "qqqqqqqq")))
    (gSeq (gSet 5 (M.bind (aCons (eName 0) (aCons (eC (.int 3)) aNil)) (opCall 2 m_law_draw)))
    (gSeq (gIf (tAnd' (mTest (eBin (eName 2) eDNew oNeD)) (mTest (eBin (eName 5) (eC (.int 0)) oEq)))
    (gSet 4 (eBin (M.bind (aCons (eName 2) aNil) oListD) (M.bind (aCons (eName 0) (aCons (eFz (M.bind (aCons (eName 2) aNil) oLenD)) aNil)) (opCall 2 m_law_draw)) oIx))
    gNext)
    (gSeq (gTry 6 3 ["NoName"] (xIf (mTest (eBin (eName 4) (eName 2) oInD))
    (xExpr (xMeth "KeptPoints" "put_point" (eName 1) (aCons (eFz (eName 4)) (aCons (eC (.int 3)) (aCons (eC (.int 3)) aNil))) 4 m_KeptPoints_put_pointX))
    (xIf (mTest (eBin (eName 5) (eC (.int 1)) oEq))
    (xExpr (xMeth "KeptPoints" "move_point" (eName 1) (aCons (eFz (eName 4)) (aCons (eC (.int 3)) (aCons (eC (.int 3)) aNil))) 4 m_KeptPoints_move_pointX))
    (xExpr (xMeth "KeptPoints" "take_point" (eName 1) (aCons (eFz (eName 4)) aNil) 2 m_KeptPoints_take_pointX)))))
    (gRet (eAnd (eBin (eName 3) (eC .none) oIsnX0) (eBin (eXAt "word" ["NoName"] (eName 3)) (eName 4) oEq))))))))
noncomputable def m_law_is_refused : List Sl → Option (Sl × List Sl) := mkF 4 g_law_is_refused
noncomputable def g_KeptPoints_pairs_now : M Fl := (gRet (eAttr "KeptPoints" "counted" 0))
noncomputable def m_KeptPoints_pairs_now : List Sl → Option (Sl × List Sl) := mkF 0 g_KeptPoints_pairs_now
noncomputable def g_is_in_box : M Fl := (gRet (eAnd (eChain (eBin (eName 0) (eC (.int 0)) oIx) (eName 1) (eBin (eName 0) (eC (.int 2)) oIx) oLe oLe) (eChain (eBin (eName 0) (eC (.int 1)) oIx) (eName 2) (eBin (eName 0) (eC (.int 3)) oIx) oLe oLe)))
noncomputable def m_is_in_box : List Sl → Option (Sl × List Sl) := mkF 0 g_is_in_box
noncomputable def g_names_in : M Fl := (gRet (eLc (mSeq (eName 0)) [2, 3, 4] (tgTup 3 (tgCons (tgName 2) (tgCons (tgName 3) (tgCons (tgName 4) tgNil)))) (mTest (M.bind (aCons (eName 1) (aCons (eFz (eName 3)) (aCons (eFz (eName 4)) aNil))) (opCall 3 m_is_in_box))) (eName 2)))
noncomputable def m_names_in : List Sl → Option (Sl × List Sl) := mkF 3 g_names_in
noncomputable def g_in_boxes : M Fl := (gRet (M.bind (aCons (eLc (mSeq (eName 1)) [2] (tgName 2) tYes' (M.bind (aCons (M.bind (aCons (eName 0) (aCons (eFz (eName 2)) aNil)) (opCall 2 m_names_in)) aNil) oLen)) aNil) oTupOf))
noncomputable def m_in_boxes : List Sl → Option (Sl × List Sl) := mkF 1 g_in_boxes
noncomputable def g_KeptPoints_box_now : M Fl := (gRet (eBin (M.bind (aCons (eFz (eCallM "KeptPoints" "points_now" (eName 0) aNil 1 m_KeptPoints_points_now)) (aCons (M.bind (aCons (eName 1) aNil) oTup) aNil)) (opCall 2 m_in_boxes)) (eC (.int 0)) oIx))
noncomputable def m_KeptPoints_box_now : List Sl → Option (Sl × List Sl) := mkF 0 g_KeptPoints_box_now
noncomputable def g_law_told : M Fl := (gSeq (gIf (mTest (eBin (eName 1) (eC (.int 0)) oEq))
    (gRet (eCallM "KeptPoints" "points_now" (eName 0) aNil 1 m_KeptPoints_points_now))
    gNext)
    (gSeq (gIf (mTest (eBin (eName 1) (eC (.int 1)) oEq))
    (gRet (eCallM "KeptPoints" "pairs_now" (eName 0) aNil 1 m_KeptPoints_pairs_now))
    gNext)
    (gSeq (gIf (mTest (eBin (eName 1) (eC (.int 2)) oEq))
    (gRet (eCallM "KeptPoints" "below_now" (eName 0) (aCons (eBin (eName 2) (eC (.int 0)) oIx) (aCons (eBin (eName 2) (eC (.int 1)) oIx) aNil)) 3 m_KeptPoints_below_now))
    gNext)
    (gSeq (gIf (mTest (eBin (eName 1) (eC (.int 3)) oEq))
    (gRet (eCallM "KeptPoints" "above_now" (eName 0) (aCons (eBin (eName 2) (eC (.int 0)) oIx) (aCons (eBin (eName 2) (eC (.int 1)) oIx) aNil)) 3 m_KeptPoints_above_now))
    gNext)
    (gRet (eCallM "KeptPoints" "box_now" (eName 0) (aCons (eName 2) aNil) 2 m_KeptPoints_box_now))))))
noncomputable def m_law_told : List Sl → Option (Sl × List Sl) := mkF 0 g_law_told
noncomputable def g_places_in : M Fl := (gRet (eLc (mSeq (eName 0)) [1, 2, 3] (tgTup 3 (tgCons (tgName 1) (tgCons (tgName 2) (tgCons (tgName 3) tgNil)))) tYes' (M.bind (aCons (eName 2) (aCons (eName 3) aNil)) oTup)))
noncomputable def m_places_in : List Sl → Option (Sl × List Sl) := mkF 3 g_places_in
noncomputable def g_below_each : M Fl := (gSeq (gSet 1 (M.bind (aCons (eName 0) aNil) (opCall 1 m_places_in)))
    (gRet (M.bind (aCons (eLc (mSeq (eName 1)) [2] (tgName 2) tYes' (M.bind (aCons (eLc (mSeq (eName 1)) [3] (tgName 3) tYes' (M.bind (aCons (M.bind (aCons (eFz (eName 3)) (aCons (eFz (eName 2)) aNil)) (opCall 2 m_lies_below)) aNil) oInt1)) aNil) oSum)) aNil) oTupOf)))
noncomputable def m_below_each : List Sl → Option (Sl × List Sl) := mkF 3 g_below_each
noncomputable def g_pairs_in_all : M Fl := (gRet (M.bind (aCons (M.bind (aCons (eName 0) aNil) (opCall 1 m_below_each)) aNil) oSum))
noncomputable def m_pairs_in_all : List Sl → Option (Sl × List Sl) := mkF 0 g_pairs_in_all
noncomputable def g_law_due : M Fl := (gSeq (gIf (mTest (eBin (eName 1) (eC (.int 0)) oEq))
    (gRet (eName 0))
    gNext)
    (gSeq (gIf (mTest (eBin (eName 1) (eC (.int 1)) oEq))
    (gRet (M.bind (aCons (eName 0) aNil) (opCall 1 m_pairs_in_all)))
    gNext)
    (gSeq (gIf (mTest (eBin (eName 1) (eC (.int 2)) oEq))
    (gRet (M.bind (aCons (eLc (mSeq (eName 0)) [3, 4, 5] (tgTup 3 (tgCons (tgName 3) (tgCons (tgName 4) (tgCons (tgName 5) tgNil)))) (mTest (M.bind (aCons (M.bind (aCons (eName 4) (aCons (eName 5) aNil)) oTup) (aCons (eName 2) aNil)) (opCall 2 m_lies_below))) (eC (.int 1))) aNil) oLen))
    gNext)
    (gSeq (gIf (mTest (eBin (eName 1) (eC (.int 3)) oEq))
    (gRet (M.bind (aCons (eLc (mSeq (eName 0)) [3, 4, 5] (tgTup 3 (tgCons (tgName 3) (tgCons (tgName 4) (tgCons (tgName 5) tgNil)))) (mTest (M.bind (aCons (eName 2) (aCons (M.bind (aCons (eName 4) (aCons (eName 5) aNil)) oTup) aNil)) (opCall 2 m_lies_below))) (eC (.int 1))) aNil) oLen))
    gNext)
    (gRet (eBin (M.bind (aCons (eName 0) (aCons (M.bind (aCons (eName 2) aNil) oTup) aNil)) (opCall 2 m_in_boxes)) (eC (.int 0)) oIx))))))
noncomputable def m_law_due : List Sl → Option (Sl × List Sl) := mkF 3 g_law_due
noncomputable def g_law_looked_right : M Fl := (gSeq (gSet 5 (eBin (eBin (M.bind (aCons (M.bind (aCons (eC (.int 0)) (aCons (M.bind aNil oTup) aNil)) oTup) (aCons (M.bind (aCons (eC (.int 1)) (aCons (M.bind aNil oTup) aNil)) oTup) aNil)) oLst) (eLc (mSeq (eName 3)) [10] (tgName 10) tYes' (M.bind (aCons (eC (.int 2)) (aCons (eName 10) aNil)) oTup)) oAdd) (eLc (mSeq (eName 3)) [10] (tgName 10) tYes' (M.bind (aCons (eC (.int 3)) (aCons (eName 10) aNil)) oTup)) oAdd))
    (gSeq (gSet 5 (eBin (eName 5) (eLc (mSeq (eName 4)) [11] (tgName 11) tYes' (M.bind (aCons (eC (.int 4)) (aCons (eName 11) aNil)) oTup)) oAdd))
    (gSeq (gSet 6 (M.bind (aCons (eName 2) aNil) (opCall 1 m_law_rows)))
    (gSeq (gFor (mRng1 (aCons (M.bind (aCons (eName 5) aNil) oLen) aNil)) (tgName 7)
    (gSeq (gAsg (tgTup 2 (tgCons (tgName 8) (tgCons (tgName 9) tgNil))) (eMeth "list" (eName 5) (aCons (M.bind (aCons (eName 0) (aCons (eFz (M.bind (aCons (eName 5) aNil) oLen)) aNil)) (opCall 2 m_law_draw)) aNil) o_pop1))
    (gIf (mTest (eBin (M.bind (aCons (eName 1) (aCons (eFz (eName 8)) (aCons (eFz (eName 9)) aNil))) (opCall 3 m_law_told)) (M.bind (aCons (eFz (eName 6)) (aCons (eFz (eName 8)) (aCons (eFz (eName 9)) aNil))) (opCall 3 m_law_due)) oNe))
    (gRet (eC (.bool false)))
    gNext)))
    (gRet (eC (.bool true)))))))
noncomputable def m_law_looked_right : List Sl → Option (Sl × List Sl) := mkF 7 g_law_looked_right
noncomputable def g_law_afresh : M Fl := (gSeq (gSet 1 (M.bind aNil (opMake 1 "KeptPoints" m_KeptPoints___init__)))
    (gSeq (gFor (mSeq (M.bind (aCons (eName 0) aNil) (opCall 1 m_law_rows))) (tgTup 3 (tgCons (tgName 2) (tgCons (tgName 3) (tgCons (tgName 4) tgNil))))
    (gExpr (eCallM "KeptPoints" "put_point" (eName 1) (aCons (eFz (eName 2)) (aCons (eFz (eName 3)) (aCons (eFz (eName 4)) aNil))) 4 m_KeptPoints_put_point)))
    (gRet (eName 1))))
noncomputable def m_law_afresh : List Sl → Option (Sl × List Sl) := mkF 4 g_law_afresh
noncomputable def g_law : M Fl := (gSeq (gFor (mSeq (eBin (eSl (eName 0) mNo (mInt (eC (.int 1))) oSl) (M.bind (aCons (M.bind (aCons (eName 0) aNil) (opCall 1 m_law_folded)) aNil) oLst) oAdd)) (tgName 1)
    (gSeq (gSet 2 (M.bind (aCons (eFz (eName 1)) aNil) (opCall 1 m_law_seed)))
    (gSeq (gSet 3 (oLstM aNil))
    (gSeq (gFor (mRng1 (aCons (eC (.int 2)) aNil)) (tgName 4)
    (gSeq (gSet 5 (M.bind (aCons (eName 2) (aCons (eFz (eBin (eC (.int 1)) (M.bind (aCons (eName 2) (aCons (eBin (M.bind (aCons (eC (.int 6)) (aCons (eC (.int 60)) aNil)) oLst) (M.bind (aCons (eName 2) (aCons (eC (.int 2)) aNil)) (opCall 2 m_law_draw)) oIx) aNil)) (opCall 2 m_law_draw)) oAdd)) aNil)) (opCall 2 m_law_names)))
    (gSeq (gExpr (eMethM (eName 3) (aCons (oLstM (aCons (M.bind aNil (opMake 1 "KeptPoints" m_KeptPoints___init__)) (aCons eDNew (aCons (eFz (eName 5)) aNil)))) aNil) oR_append))
    (gFor (mRng1 (aCons (M.bind (aCons (eName 2) (aCons (eC (.int 41)) aNil)) (opCall 2 m_law_draw)) aNil)) (tgName 6)
    (gExpr (eCallP m_law_deed 2 3 4 5))))))
    (gSeq (gSet 7 (eBin (M.bind (aCons (eBin (eBin (eName 3) (eC (.int 0)) oIxM) (eC (.int 1)) oIxM) aNil) (opCallL 1 m_law_rows)) (M.bind (aCons (eBin (eBin (eName 3) (eC (.int 1)) oIxM) (eC (.int 1)) oIxM) aNil) (opCallL 1 m_law_rows)) oAdd))
    (gSeq (gSet 8 (eLc (mRng1 (aCons (eC (.int 2)) aNil)) [4] (tgName 4) tYes' (M.bind (aCons (eName 2) (aCons (eFz (eName 7)) aNil)) (opCall 2 m_law_place))))
    (gSeq (gSet 9 (eLc (mRng1 (aCons (eC (.int 2)) aNil)) [4] (tgName 4) tYes' (M.bind (aCons (eName 2) (aCons (eFz (eName 7)) aNil)) (opCall 2 m_law_box))))
    (gSeq (gFor (mRng1 (aCons (eC (.int 8)) aNil)) (tgName 4)
    (gSeq (gUnpR 3 [10, 11, 5] (M.bind (aCons (eName 2) (aCons (eC (.int 2)) aNil)) (opCall 2 m_law_draw)) (gSeq (gFor (mRng1 (aCons (M.bind (aCons (eName 2) (aCons (eBin (M.bind (aCons (eC (.int 2)) (aCons (eC (.int 13)) aNil)) oLst) (M.bind (aCons (eName 2) (aCons (eC (.int 2)) aNil)) (opCall 2 m_law_draw)) oIx) aNil)) (opCall 2 m_law_draw)) aNil)) (tgName 6)
    (gExpr (M.bind (aCons (eName 2) (aCons (eName 10) (aCons (eName 11) (aCons (eFz (eName 5)) aNil)))) (opCall 4 m_law_deed))))
    (gIf (tAnd' (mTest (eBin (M.bind (aCons (eName 2) (aCons (eC (.int 2)) aNil)) (opCall 2 m_law_draw)) (eC (.int 0)) oEq)) (tNot' (mTest (M.bind (aCons (eName 2) (aCons (eName 10) (aCons (eName 11) aNil))) (opCall 3 m_law_is_refused)))))
    (gRet (eC (.bool false)))
    gNext)))
    (gForR 3 [12, 13, 14]
    (gIf (tNot' (mTest (M.bind (aCons (eName 2) (aCons (eName 12) (aCons (eName 13) (aCons (eFz (eName 8)) (aCons (eFz (eName 9)) aNil))))) (opCall 5 m_law_looked_right))))
    (gRet (eC (.bool false)))
    gNext))))
    (gForR 3 [12, 13, 14]
    (gIf (tNot' (mTest (M.bind (aCons (eName 2) (aCons (M.bind (aCons (eName 13) aNil) (opCall 1 m_law_afresh)) (aCons (eName 13) (aCons (eFz (eName 8)) (aCons (eFz (eName 9)) aNil))))) (opCall 5 m_law_looked_right))))
    (gRet (eC (.bool false)))
    gNext))))))))))
    (gRet (eC (.bool true))))
noncomputable def m_law : List Sl → Option (Sl × List Sl) := mkF 14 g_law
open Pd.B (cmul cdiv atI_in fPop1_of rngD_at)
theorem atI_map {α : Type} {f : α → D} {l : List α} {v : Int} (h0 : 0 ≤ v) (h : v < l.length) : ∃ x, x ∈ l ∧ l[v.toNat]? = some x ∧ atI (l.map f) v = some (f x) := by
  have hv : v.toNat < l.length := by omega
  refine ⟨l[v.toNat], List.getElem_mem hv, List.getElem?_eq_getElem hv, ?_⟩
  rw [atI_in h0 (by simpa using h)]
  rw [List.getD_eq_getElem?_getD, List.getElem?_map, List.getElem?_eq_getElem hv]
  rfl
theorem eraseIdx_map {α β : Type} {f : α → β} : ∀ {l : List α} {i : Nat}, (l.eraseIdx i).map f = (l.map f).eraseIdx i
  | [], _ => rfl
  | _ :: _, 0 => rfl
  | a :: l, i + 1 => by
    show f a :: (l.eraseIdx i).map f = f a :: (l.map f).eraseIdx i
    rw [eraseIdx_map]
theorem pop_map {α : Type} {f : α → D} {l : List α} {v : Int} (h0 : 0 ≤ v) (h : v < l.length) (h2 : l.length < 2 ^ 62) : ∃ x, x ∈ l ∧ l[v.toNat]? = some x ∧ fPop1 (l.map f) [.int v] = some (f x, (l.eraseIdx v.toNat).map f) := by
  have hv : v.toNat < l.length := by omega
  refine ⟨l[v.toNat], List.getElem_mem hv, List.getElem?_eq_getElem hv, ?_⟩
  rw [fPop1_of h0 (by simpa using h) (by omega)]
  rw [List.getD_eq_getElem?_getD, List.getElem?_map, List.getElem?_eq_getElem hv, ← eraseIdx_map]
  rfl
theorem filter_yes {α : Type} : ∀ {l : List α}, l.filter (fun _ => true) = l
  | [] => rfl
  | a :: l => by rw [List.filter_cons, if_pos rfl, filter_yes]
theorem map_at {α : Type} {f : α → D} {l : List α} {done r : List D} {x : D} (h : l.map f = done ++ x :: r) : ∃ t, l[done.length]? = some t ∧ x = f t ∧ done.length < l.length ∧ t ∈ l := by
  have hl := congrArg List.length h
  simp at hl
  have hlt : done.length < l.length := by omega
  have : (l.map f)[done.length]? = some x := by rw [h]; simp
  rw [List.getElem?_map, List.getElem?_eq_getElem hlt] at this
  cases this
  exact ⟨_, List.getElem?_eq_getElem hlt, rfl, hlt, List.getElem_mem hlt⟩
theorem take_next {α : Type} {l : List α} {n : Nat} {t : α} (h : l[n]? = some t) : l.take (n + 1) = l.take n ++ [t] := by rw [List.take_succ, h]; rfl
theorem ints_mapf {α : Type} {h : α → Int} : ∀ {l : List α}, ints? (l.map fun q => PyData.int (h q)) = some (l.map h)
  | [] => rfl
  | a :: l => by rw [List.map_cons, B.ints_cons, ints_mapf]; rfl
@[simp] theorem cut_3_1 {a b c : D} : Pd.cutD [a, b, c] (some 1) none = [b, c] := rfl
@[simp] theorem dep_mapI {α : Type} {h : α → Int} : ∀ {l : List α}, PyData.depthAll (l.map fun q => .int (h q)) = 0
  | [] => rfl
  | a :: l => by rw [List.map_cons, Pd.B.depA_c, dep_mapI]; rfl
@[simp] theorem eqvA_mapI {α : Type} {h : α → Int} : ∀ {l : List α}, PyData.eqvAll (l.map fun q => .int (h q)) (l.map fun q => .int (h q)) = true
  | [] => by simp
  | a :: l => by simp [eqvA_mapI]
def nfO : Option Sl → Bool
  | none => true
  | some s => s.nofd
theorem nofdE_cons (x : Option Sl) (r : Pd.Env) : Pd.nofdE (x :: r) = (nfO x && Pd.nofdE r) := by cases x <;> rfl
@[simp] theorem nofdE_nil : Pd.nofdE [] = true := rfl
@[simp] theorem nfO_none : nfO none = true := rfl
@[simp] theorem nfO_some {s : Sl} : nfO (some s) = s.nofd := rfl
@[simp] theorem nofd_p {d : D} : (Sl.p d).nofd = true := rfl
@[simp] theorem nofd_ml {t : Option Nat} {l : List D} : (Sl.ml t l).nofd = true := rfl
@[simp] theorem nofd_md {t : Option Nat} {l : List (Key × D)} : (Sl.md t l).nofd = true := rfl
@[simp] theorem nofd_hl {t : Option Nat} : (Sl.hl t).nofd = true := rfl
@[simp] theorem ixN_4_0 : ixN 4 0 = some 0 := rfl
@[simp] theorem ixN_4_1 : ixN 4 1 = some 1 := rfl
@[simp] theorem ixN_4_2 : ixN 4 2 = some 2 := rfl
@[simp] theorem ixN_4_3 : ixN 4 3 = some 3 := rfl
def SeedOk (C : Int) (ds : List D) : Prop := ∃ a f n s : Int, ds = [.int a, .int f, .int n, .int s] ∧ 0 ≤ a ∧ 0 ≤ n ∧ n ≤ C ∧ 0 ≤ s ∧ s < 1999999913
theorem SeedOk.mono {C C' : Int} {ds : List D} (h : SeedOk C ds) (hb : C ≤ C') : SeedOk C' ds := by
  obtain ⟨a, f, n, s, h1, h2, h3, h4, h5, h6⟩ := h
  exact ⟨a, f, n, s, h1, h2, h3, by omega, h5, h6⟩
theorem spec_draw {ds : List D} {most C : Int} {Q : Sl → List Sl → Prop} (hd : SeedOk C ds) (h0 : 0 < most) (hm : most < 2 ^ 64) (hC : C < 2 ^ 60)
    (k : ∀ v ds', SeedOk (C + 1) ds' → 0 ≤ v → v < most → Q (.p (.int v)) [.ml none ds', .p (.int most)]) : Sp m_law_draw [.ml none ds, .p (.int most)] Q := by
  obtain ⟨a, f, n, s, rfl, ha, hn0, hn, hs0, hs⟩ := hd
  unfold m_law_draw
  rw [sp_mkF]
  by_cases e : f = 1 ∧ 0 < a
  · simp -dsimp [g_law_draw, e.1, e.2]
    exact ⟨h0, cdiv h0 (by omega), k _ _ ⟨_, _, _, _, rfl, Int.ediv_nonneg (by omega) (by omega), by omega, by omega, hs0, hs⟩ (Int.emod_nonneg _ (by omega)) (Int.emod_lt_of_pos _ h0)⟩
  · have e' : ¬ (f = 1) ∨ ¬ (0 < a) := by omega
    have fin : CMulW 6997 (n + 1) ∧ CMulW (s + 6997 * (n + 1) + 11) 48271 := ⟨cmul (by omega) (by omega), cmul (by omega) (by omega)⟩
    rcases e' with e' | e'
    · simp -dsimp [g_law_draw, e']
      exact ⟨fin.1, fin.2, cmul (by omega) (by omega), cmul (by omega) (by omega), cdiv (by omega) (by omega), h0, k _ _ ⟨_, _, _, _, rfl, ha, by omega, by omega, hs0, hs⟩ (Int.emod_nonneg _ (by omega)) (Int.emod_lt_of_pos _ h0)⟩
    · by_cases e1 : f = 1
      · simp -dsimp [g_law_draw, e', e1]
        exact ⟨fin.1, fin.2, cmul (by omega) (by omega), cmul (by omega) (by omega), cdiv (by omega) (by omega), h0, k _ _ ⟨_, _, _, _, rfl, ha, by omega, by omega, hs0, hs⟩ (Int.emod_nonneg _ (by omega)) (Int.emod_lt_of_pos _ h0)⟩
      · simp -dsimp [g_law_draw, e', e1]
        exact ⟨fin.1, fin.2, cmul (by omega) (by omega), cmul (by omega) (by omega), cdiv (by omega) (by omega), h0, k _ _ ⟨_, _, _, _, rfl, ha, by omega, by omega, hs0, hs⟩ (Int.emod_nonneg _ (by omega)) (Int.emod_lt_of_pos _ h0)⟩
theorem spec_seed {c : Int} {Q : Sl → List Sl → Prop} (k : ∀ ds, SeedOk 0 ds → Q (.ml none ds) [.p (.int c)]) : Sp m_law_seed [.p (.int c)] Q := by
  unfold m_law_seed
  rw [sp_mkF]
  simp -dsimp [g_law_seed]
  exact k _ ⟨_, _, _, _, rfl, by omega, by omega, by omega, by omega, by omega⟩
def FoI (ns : List Int) (ρ : Pd.Env) : Prop := ∃ (v : Int) (x2 : Option Sl), 0 ≤ v ∧ v < 2147483647 ∧ ρ = [some (.p (.list (ns.map .int))), some (.p (.int v)), x2]
theorem spec_folded {ns : List Int} {Q : Sl → List Sl → Prop} (hl : ns.length ≤ 63) (k : ∀ v, Q (.p (.int v)) [.p (.list (ns.map .int))]) : Sp m_law_folded [.p (.list (ns.map .int))] Q := by
  unfold m_law_folded
  rw [sp_mkF]
  simp -dsimp [g_law_folded]
  refine ev_loop (fun _ ρ => FoI ns ρ) ⟨(ns.length : Int), none, by omega, by omega, rfl⟩ ?_ ?_
  · rintro done d r ρ ha ⟨v, x2, h1, h2, rfl⟩
    obtain ⟨x, hx, rfl, hdn, hxm⟩ := map_at ha
    simp -dsimp [tgName]
    exact ⟨cmul (by omega) (by omega), _, _, by omega, by omega, rfl⟩
  · rintro ρ ⟨v, x2, h1, h2, rfl⟩
    simp -dsimp
    exact k v
theorem spec_number {ds : List D} {way C : Int} {Q : Sl → List Sl → Prop} (hd : SeedOk C ds) (hC : C < 2 ^ 59)
    (k : ∀ v ds', SeedOk (C + 4) ds' → -9999999999 ≤ v → v ≤ 9999999999 → Q (.p (.int v)) [.ml none ds', .p (.int way)]) : Sp m_law_number [.ml none ds, .p (.int way)] Q := by
  unfold m_law_number
  rw [sp_mkF]
  by_cases e0 : way = 0
  · subst e0
    simp -dsimp [g_law_number]
    refine spec_draw hd (by omega) (by omega) (by omega) fun v d1 h1 a1 b1 => ?_
    simp -dsimp
    exact k _ _ (h1.mono (by omega)) (by omega) (by omega)
  · by_cases e1 : way = 1
    · subst e1
      simp -dsimp [g_law_number]
      refine spec_draw hd (by omega) (by omega) (by omega) fun v d1 h1 a1 b1 => ?_
      simp -dsimp
      exact k _ _ (h1.mono (by omega)) (by omega) (by omega)
    · simp -dsimp [g_law_number, e0, e1]
      refine spec_draw hd (by omega) (by omega) (by omega) fun v d1 h1 a1 b1 => ?_
      simp -dsimp
      refine ⟨cmul (by omega) (by omega), ?_⟩
      refine spec_draw h1 (by omega) (by omega) (by omega) fun w d2 h2 a2 b2 => ?_
      simp -dsimp
      refine spec_draw h2 (by omega) (by omega) (by omega) fun u d3 h3 a3 b3 => ?_
      obtain ⟨g, hg, g0, g1⟩ : ∃ g : Int, atI [PyData.int (v * 100000 + w), PyData.int 9999999999] (if u = 0 then 1 else 0) = some (.int g) ∧ -9999999999 ≤ g ∧ g ≤ 9999999999 := by
        by_cases hu : u = 0
        · rw [if_pos hu]; exact ⟨_, rfl, by omega, by omega⟩
        · rw [if_neg hu]; exact ⟨_, rfl, by omega, by omega⟩
      simp -dsimp [hg]
      refine spec_draw h3 (by omega) (by omega) (by omega) fun t d4 h4 a4 b4 => ?_
      rcases (by omega : t = 0 ∨ t = 1) with e | e <;> subst e <;> simp -dsimp
      · exact ⟨cmul (by omega) (by omega), k _ _ (h4.mono (by omega)) (by omega) (by omega)⟩
      · exact ⟨cmul (by omega) (by omega), k _ _ (h4.mono (by omega)) (by omega) (by omega)⟩
def ptn (p : Str × Int × Int) : D := .tuple [.str p.1, .int p.2.1, .int p.2.2]
def lettersL : List Nat := ("abcdefghijklmnopqrstuvwxyz" : Str).cps.toList
def spareL : List Str := (lettersL.map fun c => (⟨#[c]⟩ : Str)) ++ (lettersL.map fun c => (⟨#[c]⟩ : Str) ++ ("b" : Str)) ++ (lettersL.map fun c => ("zzzzzzz" : Str) ++ (⟨#[c]⟩ : Str)) ++
  [("put" : Str), "take", "move", "points", "counts", "pairs", "halves", "below", "above", "abcdefgh"] ++ [("mall" : Str), "mill", "mell", "abcxefgh", "millmal", "mellmal", "ba"]
theorem spare_len : spareL.length = 95 := by decide +kernel
theorem spare_nodup : spareL.Nodup := by decide +kernel
theorem letters_signs : strSigns ("abcdefghijklmnopqrstuvwxyz" : Str) = lettersL.map fun c => PyData.str ⟨#[c]⟩ := rfl
theorem len_b : 1 + ("b" : Str).length ≤ 16777216 := by decide +kernel
theorem len_z : ("zzzzzzz" : Str).length + 1 ≤ 16777216 := by decide +kernel
theorem lettersL_len : lettersL.length = 26 := by decide +kernel
theorem perm_erase {α : Type} : ∀ {l : List α} {n : Nat} {x : α}, l[n]? = some x → l.Perm (x :: l.eraseIdx n)
  | [], n, x, h => by simp at h
  | a :: l, 0, x, h => by simp at h; subst h; exact List.Perm.refl _
  | a :: l, n + 1, x, h => by
    have := perm_erase (l := l) (n := n) (x := x) (by simpa using h)
    exact (this.cons a).trans (List.Perm.swap x a _)
theorem perm_move {α : Type} {lf ts : List α} {n : Nat} {x : α} (h : lf[n]? = some x) : (lf.eraseIdx n ++ (ts ++ [x])).Perm (lf ++ ts) := by
  have h2 : lf.Perm (x :: lf.eraseIdx n) := perm_erase h
  rw [← List.append_assoc]
  exact (List.perm_append_singleton _ _).trans (h2.symm.append_right ts)
def NmC (C many : Int) (n : Nat) (acc : List D) (ρ : Pd.Env) : Prop := ∃ (ds : List D) (lf ts : List Str) (x4 x5 : Option Sl), SeedOk C ds ∧ (lf ++ ts).Perm spareL ∧ ts.length = n ∧ acc = ts.map .str ∧ ρ = [some (.ml (some 0) ds), some (.p (.int many)), some (.p (.str "abcdefghijklmnopqrstuvwxyz")), some (.ml none (lf.map .str)), x4, x5]
theorem spec_names {ds : List D} {many C : Int} {Q : Sl → List Sl → Prop} (hd : SeedOk C ds) (h0 : 0 ≤ many) (hm : many ≤ 90) (hC : C < 2 ^ 58)
    (k : ∀ (ws : List Str) ds', SeedOk (C + 100) ds' → (ws.length : Int) = many → ws.Nodup → (∀ w ∈ ws, w ∈ spareL) → Q (.ml none (ws.map .str)) [.ml none ds', .p (.int many)]) : Sp m_law_names [.ml none ds, .p (.int many)] Q := by
  unfold m_law_names
  rw [sp_mkF]
  simp -dsimp [g_law_names, letters_signs]
  have hl : lettersL.length < sizeLine := by rw [lettersL_len, Pd.B.sizeLine_eq]; omega
  refine ev_comp_pure (fun c : Nat => PyData.str ⟨#[c]⟩) (fun c => .str ⟨#[c]⟩) (fun _ => true) hl (fun c _ => by simp -dsimp [tgName]) ?_
  intro ρ1 hw1
  simp -dsimp [hw1, filter_yes, letters_signs]
  refine ev_comp_pure (fun c : Nat => PyData.str ⟨#[c]⟩) (fun c => .str ((⟨#[c]⟩ : Str) ++ ("b" : Str))) (fun _ => true) hl (fun c _ => by simp -dsimp [tgName]; exact len_b) ?_
  intro ρ2 hw2
  simp -dsimp [hw2, filter_yes, letters_signs]
  refine ⟨by rw [lettersL_len]; omega, ?_⟩
  refine ev_comp_pure (fun c : Nat => PyData.str ⟨#[c]⟩) (fun c => .str (("zzzzzzz" : Str) ++ (⟨#[c]⟩ : Str))) (fun _ => true) hl (fun c _ => by simp -dsimp [tgName]; exact len_z) ?_
  intro ρ3 hw3
  simp -dsimp [hw3, filter_yes, lettersL_len]
  refine ⟨by omega, ?_⟩
  refine ev_comp (fun done acc ρ => NmC (C + done.length) many done.length acc ρ) ⟨ds, spareL, [], none, none, hd.mono (by simp), by simp, rfl, rfl, by simp [spareL, Function.comp_def]⟩ ?_ ?_
  · rintro done d r acc ρ ha ⟨dsx, lf, ts, x4, x5, hdx, hpm, hts, rfl, rfl⟩
    obtain ⟨rfl, hdn⟩ := rngD_at ha
    have hlen := hpm.length_eq
    rw [List.length_append, spare_len, hts] at hlen
    simp -dsimp [tgName]
    refine spec_draw hdx (by omega) (by omega) (by omega) fun v e1 he1 q1 q2 => ?_
    obtain ⟨x, hx, hx2, hp⟩ := pop_map (f := PyData.str) q1 q2 (by omega)
    simp -dsimp [hp]
    refine ⟨by omega, e1, lf.eraseIdx v.toNat, ts ++ [x], _, _, he1.mono (by omega), (perm_move hx2).trans hpm, by simp [hts], by rw [List.map_append]; rfl, rfl⟩
  · rintro acc ρ ⟨dsx, lf, ts, x4, x5, hdx, hpm, hts, rfl, rfl⟩
    rw [Pd.B.rngD_len] at hts hdx
    simp -dsimp
    have hnd := hpm.nodup_iff.mpr spare_nodup
    rw [List.nodup_append] at hnd
    exact k ts dsx (hdx.mono (by omega)) (by omega) hnd.2.1 fun w hw => hpm.mem_iff.mp (List.mem_append_right _ hw)
theorem spec_near {ds : List D} {xs : List Int} {C : Int} {Q : Sl → List Sl → Prop} (hd : SeedOk C ds) (hl : xs.length ≤ 200) (hC : C < 2 ^ 57)
    (k : ∀ v ds', SeedOk (C + 8) ds' → Q (.p (.int v)) [.ml none ds', .p (.tuple (xs.map .int))]) : Sp m_law_near [.ml none ds, .p (.tuple (xs.map .int))] Q := by
  unfold m_law_near
  rw [sp_mkF]
  by_cases hne : xs = []
  · subst hne
    simp -dsimp [g_law_near]
    refine spec_draw hd (by omega) (by omega) (by omega) fun w e1 he1 _ _ => ?_
    simp -dsimp
    refine spec_number he1 (by omega) fun v e2 he2 _ _ => ?_
    simp -dsimp
    exact k v e2 (he2.mono (by omega))
  · have hpos : 0 < xs.length := List.length_pos_iff.mpr hne
    simp -dsimp [g_law_near, hne]
    refine spec_draw hd (by omega) (by omega) (by omega) fun u e0 he0 _ _ => ?_
    simp -dsimp
    by_cases hu : u = 0
    · rw [if_pos hu]
      refine spec_draw he0 (by omega) (by omega) (by omega) fun w e1 he1 _ _ => ?_
      simp -dsimp
      refine spec_number he1 (by omega) fun v e2 he2 _ _ => ?_
      simp -dsimp
      exact k v e2 (he2.mono (by omega))
    · rw [if_neg hu]
      refine spec_draw he0 (by omega) (by omega) (by omega) fun w e1 he1 w0 w1 => ?_
      obtain ⟨x, _, _, hxa⟩ := atI_map (f := PyData.int) (l := xs) w0 (by omega)
      simp -dsimp [hxa]
      refine spec_draw he1 (by omega) (by omega) (by omega) fun r e3 he3 r0 r1 => ?_
      simp -dsimp
      exact k _ e3 (he3.mono (by omega))
theorem spec_place {ds : List D} {ps : List (Str × Int × Int)} {C : Int} {Q : Sl → List Sl → Prop} (hd : SeedOk C ds) (hl : ps.length ≤ 200) (hC : C < 2 ^ 56)
    (k : ∀ x y ds', SeedOk (C + 20) ds' → Q (.p (.tuple [.int x, .int y])) [.ml none ds', .p (.tuple (ps.map ptn))]) : Sp m_law_place [.ml none ds, .p (.tuple (ps.map ptn))] Q := by
  unfold m_law_place
  rw [sp_mkF]
  have hlz : ps.length < sizeLine := by rw [Pd.B.sizeLine_eq]; omega
  by_cases hne : ps = []
  · subst hne
    simp -dsimp [g_law_place, ev_comp_nil]
    have h1 : ∀ Q, (∀ v ds', SeedOk (C + 8) ds' → Q (.p (.int v)) [.ml none ds', .p (.tuple [])]) → Sp m_law_near [.ml none ds, .p (.tuple [])] Q := fun Q k => spec_near (xs := []) hd (by simp) (by omega) k
    refine h1 _ fun v e1 he1 => ?_
    simp -dsimp
    have h2 : ∀ Q, (∀ v ds', SeedOk (C + 8 + 8) ds' → Q (.p (.int v)) [.ml none ds', .p (.tuple [])]) → Sp m_law_near [.ml none e1, .p (.tuple [])] Q := fun Q k => spec_near (xs := []) he1 (by simp) (by omega) k
    refine h2 _ fun w e2 he2 => ?_
    simp -dsimp
    exact k v w e2 (he2.mono (by omega))
  · have hpos : 0 < ps.length := List.length_pos_iff.mpr hne
    simp -dsimp [g_law_place, hne]
    refine spec_draw hd (by omega) (by omega) (by omega) fun u e0 he0 _ _ => ?_
    simp -dsimp
    by_cases hu : u = 0
    · rw [if_pos hu]
      refine spec_draw he0 (by omega) (by omega) (by omega) fun t e2 he2 t0 t1 => ?_
      obtain ⟨x, _, _, hxa⟩ := atI_map (f := ptn) (l := ps) t0 (by omega)
      simp -dsimp [hxa, ptn]
      exact k _ _ e2 (he2.mono (by omega))
    · rw [if_neg hu]
      refine ev_comp_pure ptn (fun p => .int p.2.1) (fun _ => true) hlz (fun p _ => by obtain ⟨w, x, y⟩ := p; simp -dsimp [tgTup, tgCons, tgName, tgNil, ptn]) ?_
      intro ρ1 hw1
      simp -dsimp [hw1, filter_yes]
      refine ev_comp_pure ptn (fun p => .int p.2.2) (fun _ => true) hlz (fun p _ => by obtain ⟨w, x, y⟩ := p; simp -dsimp [tgTup, tgCons, tgName, tgNil, ptn]) ?_
      intro ρ2 hw2
      simp -dsimp [hw2, filter_yes]
      have m1 : (ps.map fun p => PyData.int p.2.1) = (ps.map fun p => p.2.1).map .int := by simp [Function.comp_def]
      have m2 : (ps.map fun p => PyData.int p.2.2) = (ps.map fun p => p.2.2).map .int := by simp [Function.comp_def]
      rw [m1]
      refine spec_near (xs := ps.map fun p => p.2.1) he0 (by simpa using hl) (by omega) fun v e1 he1 => ?_
      simp -dsimp
      rw [m2]
      refine spec_near (xs := ps.map fun p => p.2.2) he1 (by simpa using hl) (by omega) fun w e2 he2 => ?_
      simp -dsimp
      exact k v w e2 (he2.mono (by omega))
def bx (b : Int × Int × Int × Int) : D := .tuple [.int b.1, .int b.2.1, .int b.2.2.1, .int b.2.2.2]
theorem spec_box {ds : List D} {ps : List (Str × Int × Int)} {C : Int} {Q : Sl → List Sl → Prop} (hd : SeedOk C ds) (hl : ps.length ≤ 200) (hC : C < 2 ^ 55)
    (k : ∀ b ds', SeedOk (C + 50) ds' → Q (.p (bx b)) [.ml none ds', .p (.tuple (ps.map ptn))]) : Sp m_law_box [.ml none ds, .p (.tuple (ps.map ptn))] Q := by
  unfold m_law_box
  rw [sp_mkF]
  simp -dsimp [g_law_box]
  refine spec_place hd hl (by omega) fun x y e1 he1 => ?_
  simp -dsimp
  refine spec_place he1 hl (by omega) fun x' y' e2 he2 => ?_
  simp -dsimp
  refine spec_draw he2 (by omega) (by omega) (by omega) fun u e3 he3 _ _ => ?_
  simp -dsimp
  by_cases hu : u = 0
  · rw [if_pos hu]
    exact k (x, y, x', y') e3 (he3.mono (by omega))
  · rw [if_neg hu]
    exact k (_, _, _, _) e3 (he3.mono (by omega))
def pt (p : Int × Int) : D := .tuple [.int p.1, .int p.2]
theorem eqvA_pts : ∀ {l m : List (Str × Int × Int)}, PyData.eqvAll (l.map ptn) (m.map ptn) = decide (l = m)
  | [], [] => by simp
  | [], b :: m => by simp
  | a :: l, [] => by simp
  | (a1, a2, a3) :: l, (b1, b2, b3) :: m => by
    rw [List.map_cons, List.map_cons, Pd.B.eqvA_cc, eqvA_pts]
    simp [ptn]
    try (by_cases h1 : a1 = b1 <;> by_cases h2 : a2 = b2 <;> by_cases h3 : a3 = b3 <;> by_cases h4 : l = m <;> simp [h1, h2, h3, h4])
theorem dep_pts : ∀ {l : List (Str × Int × Int)}, PyData.depthAll (l.map ptn) ≤ 1
  | [] => by simp
  | a :: l => by
    have := dep_pts (l := l)
    rw [List.map_cons, Pd.B.depA_c]
    simp [ptn]
    omega
@[simp high] theorem pNe_pts {l m : List (Str × Int × Int)} : Pd.pNe [.tuple (l.map ptn), .tuple (m.map ptn)] = some (.pd (.bool (!decide (l = m)))) := by
  rw [Pd.B.pNe_eq, if_pos]
  · rw [Pd.B.eqv_tt, eqvA_pts]
  · have := dep_pts (l := l)
    simp
    omega
@[simp high] theorem pEq_pts {l m : List (Str × Int × Int)} : Pd.pEq [.tuple (l.map ptn), .tuple (m.map ptn)] = some (.pd (.bool (decide (l = m)))) := by
  rw [Pd.B.pEq_eq, if_pos]
  · rw [Pd.B.eqv_tt, eqvA_pts]
  · have := dep_pts (l := l)
    simp
    omega
def below (p q : Int × Int) : Bool := decide ((p.1 ≠ q.1 ∨ p.2 ≠ q.2) ∧ p.1 ≤ q.1 ∧ p.2 ≤ q.2)
@[simp ↓] theorem spec_lies_below (p q : Int × Int) (Q : Sl → List Sl → Prop) : Sp m_lies_below [.p (pt p), .p (pt q)] Q ↔ Q (.p (.bool (below p q))) [.p (pt p), .p (pt q)] := by
  obtain ⟨a, b⟩ := p
  obtain ⟨c, d⟩ := q
  unfold m_lies_below pt
  rw [sp_mkF]
  simp [g_lies_below, below]
  by_cases h1 : a = c <;> by_cases h2 : b = d <;> by_cases h3 : a ≤ c <;> simp [h1, h2, h3] <;> simp_all
theorem valD_cons {p : Key × D} {l : List (Key × D)} {k : Key} : valD (p :: l) k = if p.1 = k then some p.2 else valD l k := by
  unfold valD
  rw [List.find?_cons]
  by_cases h : p.1 = k <;> simp [h]
@[simp] theorem valD_nil {k : Key} : valD [] k = none := rfl
theorem valD_none {l : List (Key × D)} {k : Key} : valD l k = none ↔ k ∉ l.map (·.1) := by
  induction l with
  | nil => simp
  | cons p l ih =>
    rw [valD_cons, List.map_cons, List.mem_cons]
    by_cases h : p.1 = k
    · simp [h]
    · rw [if_neg h, ih]
      constructor
      · intro q z
        rcases z with z | z
        · exact h z.symm
        · exact q z
      · intro q z
        exact q (Or.inr z)
theorem any_key {l : List (Key × D)} {k : Key} : (l.any fun kv => decide (kv.1 = k)) = true ↔ k ∈ l.map (·.1) := by
  rw [List.any_eq_true, List.mem_map]
  constructor
  · rintro ⟨x, h1, h2⟩; exact ⟨x, h1, of_decide_eq_true h2⟩
  · rintro ⟨x, h1, h2⟩; exact ⟨x, h1, decide_eq_true h2⟩
theorem putD_new {l : List (Key × D)} {k : Key} {d : D} (h : k ∉ l.map (·.1)) : putD l k d = l ++ [(k, d)] := by
  unfold putD
  rw [if_neg (fun z => h (any_key.mp z))]
theorem valD_mem : ∀ {l : List (Key × D)} {k : Key} {d : D}, (l.map (·.1)).Nodup → (k, d) ∈ l → valD l k = some d
  | [], _, _, _, h => by cases h
  | p :: l, k, d, hn, h => by
    rw [List.map_cons, List.nodup_cons] at hn
    rw [valD_cons]
    rcases List.mem_cons.mp h with h | h
    · rw [← h]; simp
    · have : p.1 ≠ k := fun z => hn.1 (by rw [z]; exact List.mem_map.mpr ⟨_, h, rfl⟩)
      rw [if_neg this]
      exact valD_mem hn.2 h
abbrev Pn := Str × Int × Int
def kvOf (ps : List Pn) : List (Key × D) := ps.map fun p => (Sum.inr p.1, pt p.2)
def nms (ps : List Pn) : List Str := ps.map (·.1)
theorem kv_keys (ps : List Pn) : (kvOf ps).map (·.1) = (nms ps).map Sum.inr := by simp [kvOf, nms]
theorem inr_mem {ps : List Pn} {w : Str} : (Sum.inr w : Key) ∈ (kvOf ps).map (·.1) ↔ w ∈ nms ps := by
  rw [kv_keys, List.mem_map]
  constructor
  · rintro ⟨x, h, e⟩; cases e; exact h
  · intro h; exact ⟨w, h, rfl⟩
theorem inr_nodup {l : List Str} (h : l.Nodup) : (l.map (Sum.inr : Str → Key)).Nodup := by
  rw [List.Nodup, List.pairwise_map]
  exact h.imp fun hne e => hne (by cases e; rfl)
theorem kv_val {ps : List Pn} (h : (nms ps).Nodup) {p : Pn} (hp : p ∈ ps) : valD (kvOf ps) (.inr p.1) = some (pt p.2) :=
  valD_mem (by rw [kv_keys]; exact inr_nodup h) (List.mem_map.mpr ⟨p, hp, rfl⟩)
theorem kv_no {ps : List Pn} {w : Str} (h : w ∉ nms ps) : valD (kvOf ps) (.inr w) = none := valD_none.mpr fun z => h (inr_mem.mp z)
theorem kv_is {ps : List Pn} {w : Str} : (valD (kvOf ps) (.inr w)).isSome = decide (w ∈ nms ps) := by
  by_cases h : w ∈ nms ps
  · rw [decide_eq_true h]
    cases e : valD (kvOf ps) (.inr w) with
    | none => exact (valD_none.mp e (inr_mem.mpr h)).elim
    | some d => rfl
  · rw [decide_eq_false h, kv_no h]; rfl
def setP (ps : List Pn) (w : Str) (q : Int × Int) : List Pn := ps.map fun p => if p.1 = w then (w, q) else p
def delP (ps : List Pn) (w : Str) : List Pn := ps.filter fun p => decide (p.1 ≠ w)
theorem kv_put {ps : List Pn} {w : Str} {q : Int × Int} (h : w ∉ nms ps) : putD (kvOf ps) (.inr w) (pt q) = kvOf (ps ++ [(w, q)]) := by
  rw [putD_new fun z => h (inr_mem.mp z)]
  simp [kvOf]
theorem kv_set {ps : List Pn} {w : Str} {q : Int × Int} (h : w ∈ nms ps) : putD (kvOf ps) (.inr w) (pt q) = kvOf (setP ps w q) := by
  unfold putD
  rw [if_pos (any_key.mpr (inr_mem.mpr h))]
  unfold kvOf setP
  rw [List.map_map, List.map_map]
  refine List.map_congr_left fun p _ => ?_
  by_cases e : p.1 = w
  · simp [e]
  · have : ¬ (Sum.inr p.1 : Key) = .inr w := fun z => e (by cases z; rfl)
    simp [e, this]
theorem kv_del {ps : List Pn} {w : Str} : dropD (kvOf ps) (.inr w) = kvOf (delP ps w) := by
  unfold dropD kvOf delP
  rw [List.filter_map]
  congr 1
  refine List.filter_congr fun p _ => ?_
  show decide ((Sum.inr p.1 : Key) ≠ .inr w) = decide (p.1 ≠ w)
  by_cases e : p.1 = w
  · simp [e]
  · have : ¬ (Sum.inr p.1 : Key) = .inr w := fun z => e (by cases z; rfl)
    simp [e, this]
theorem nms_set (ps : List Pn) (w : Str) (q : Int × Int) : nms (setP ps w q) = nms ps := by
  unfold nms setP
  rw [List.map_map]
  refine List.map_congr_left fun p _ => ?_
  by_cases e : p.1 = w <;> simp [e]
theorem nms_app (ps : List Pn) (p : Pn) : nms (ps ++ [p]) = nms ps ++ [p.1] := by simp [nms]
theorem nms_del (ps : List Pn) (w : Str) : nms (delP ps w) = (nms ps).filter fun x => decide (x ≠ w) := by
  unfold nms delP
  rw [List.filter_map]
  rfl
theorem nodup_app {ps : List Pn} {p : Pn} (h : (nms ps).Nodup) (hw : p.1 ∉ nms ps) : (nms (ps ++ [p])).Nodup := by
  rw [nms_app, List.nodup_append]
  exact ⟨h, by simp, fun a ha b hb e => hw (by rw [List.mem_singleton] at hb; rw [← hb, ← e]; exact ha)⟩
theorem nodup_del {ps : List Pn} {w : Str} (h : (nms ps).Nodup) : (nms (delP ps w)).Nodup := by rw [nms_del]; exact h.filter _
theorem len_of_sub : ∀ {l m : List Str}, l.Nodup → (∀ x ∈ l, x ∈ m) → l.length ≤ m.length
  | [], _, _, _ => Nat.zero_le _
  | a :: l, m, h, hs => by
    rw [List.nodup_cons] at h
    have ha := hs a (by simp)
    have := len_of_sub (l := l) (m := m.erase a) h.2 fun x hx => (List.mem_erase_of_ne (fun e => h.1 (by rw [← e]; exact hx))).mpr (hs x (by simp [hx]))
    rw [List.length_erase_of_mem ha] at this
    have : 0 < m.length := List.length_pos_of_mem ha
    simp
    omega
theorem nms_len (ps : List Pn) : (nms ps).length = ps.length := by simp [nms]
def belowAt (ps : List Pn) (q : Int × Int) : Int := ((ps.filter fun p => below p.2 q).length : Nat)
def aboveAt (ps : List Pn) (q : Int × Int) : Int := ((ps.filter fun p => below q p.2).length : Nat)
def le2 (p q : Int × Int) : Bool := decide (p.1 ≤ q.1) && decide (p.2 ≤ q.2)
theorem below_le2 (p q : Int × Int) : below p q = (le2 p q && !decide (p = q)) := by
  obtain ⟨a, b⟩ := p
  obtain ⟨c, d⟩ := q
  unfold below le2
  rw [Bool.eq_iff_iff]
  simp only [decide_eq_true_eq, Bool.and_eq_true, Bool.not_eq_true', decide_eq_false_iff_not, Prod.mk.injEq]
  constructor
  · rintro ⟨h1, h2, h3⟩; exact ⟨⟨h2, h3⟩, fun h => by omega⟩
  · rintro ⟨⟨h2, h3⟩, h1⟩
    refine ⟨?_, h2, h3⟩
    by_cases e : a = c
    · exact Or.inr fun z => h1 ⟨e, z⟩
    · exact Or.inl e
theorem below_cnt (ps : List Pn) (q : Int × Int) : ((ps.filter fun p => le2 p.2 q).length : Int) - ((ps.filter fun p => decide (p.2 = q)).length : Nat) = belowAt ps q := by
  unfold belowAt
  induction ps with
  | nil => rfl
  | cons p ps ih =>
    rw [List.filter_cons, List.filter_cons, List.filter_cons, below_le2]
    by_cases e : p.2 = q
    · have : le2 p.2 q = true := by rw [e]; unfold le2; simp
      simp [e] at this ⊢
      rw [if_pos (by unfold le2; simp)]
      simp
      omega
    · cases h : le2 p.2 q
      · simp [e]; omega
      · simp [e]; omega
@[simp] theorem ix_places0 : ixOf "places" [] = none := rfl
@[simp] theorem ix_counted0 : ixOf "counted" ["places"] = none := by decide +kernel
@[simp] theorem ix_places : ixOf "places" ["places", "counted"] = some 0 := by decide +kernel
@[simp] theorem ix_counted : ixOf "counted" ["places", "counted"] = some 1 := by decide +kernel
def kpS (t : Option Nat) (ps : List Pn) (n : Int) : Sl := .ob t "KeptPoints" ["places", "counted"] [.md none (kvOf ps), .p (.int n)]
section
variable {t t' : Option Nat} {ps : List Pn} {n : Int} {i k : Nat} {ρ : Pd.Env}
@[simp] theorem kpS_bare : (kpS t ps n).bare = kpS none ps n := rfl
@[simp] theorem kpS_mark : (kpS t ps n).mark k = kpS (some k) ps n := rfl
@[simp] theorem kpS_retag : (kpS t ps n).retag t' = kpS t' ps n := rfl
@[simp] theorem kpS_tag : (kpS t ps n).tag = t := rfl
@[simp] theorem kpS_nofd : (kpS t ps n).nofd = true := rfl
@[simp] theorem slotQ_kp {Q : Rs → Pd.Env → Prop} : slotQ i ρ Q (some (some (kpS t ps n))) = Q (.bor i) ρ := rfl
@[simp] theorem endE_kp {s : List Sl} : endE k (kpS t ps n :: s) ρ = Pd.B.slotE k (endE (k + 1) s ρ) ρ[k]? := Pd.B.endE_ob
@[simp] theorem attr_places {Q : Rs → Pd.Env → Prop} : attrQ "KeptPoints" "places" i ρ Q (some (some (kpS t ps n))) = Q (.lent i (kpS t ps n) [0]) (ρ.set i (some (.hl t))) := by
  unfold kpS
  simp -dsimp
@[simp] theorem attr_counted {Q : Rs → Pd.Env → Prop} : attrQ "KeptPoints" "counted" i ρ Q (some (some (kpS t ps n))) = Q (.own (.p (.int n))) ρ := by
  unfold kpS
  simp -dsimp
@[simp] theorem kid1_kp : (kpS t ps n).kid1 0 = some (.md none (kvOf ps)) := rfl
@[simp] theorem setKid_kp {qs : List Pn} : (kpS t ps n).setKid [0] (.md none (kvOf qs)) = kpS t qs n := rfl
@[simp] theorem lca_kp {wk : List (Key × D) → List D} {own : List Nat} {tg : D → Pd.Env → Option Pd.Env} {tt : M Bool} {te : M Rs} {Q : Rs → Pd.Env → Prop} : lcaQ "KeptPoints" "places" i wk own tg tt te ρ Q (some (some (kpS t ps n))) = (Ev (eLc (M.ret (wk (kvOf ps))) own tg tt te) (ρ.set i (some (.hl t))) fun r ρ1 => lcaR i (kpS t ps n) ρ1 Q r) := by
  unfold kpS
  simp -dsimp
@[simp] theorem aug_kp {g : Int → Int → Int} {fe : M Rs} {Q : Fl → Pd.Env → Prop} : gAugAQ g "KeptPoints" "counted" i fe ρ Q (some (some (kpS t ps n))) = (Ev fe ρ fun r ρ1 => gAugAQ3 g "KeptPoints" "counted" i n ρ1 Q (r.view ρ1) ρ1[i]?) := by
  unfold kpS
  simp -dsimp
@[simp] theorem aug3_kp {g : Int → Int → Int} {x y : Int} {Q : Fl → Pd.Env → Prop} : gAugAQ3 g "KeptPoints" "counted" i x ρ Q (some (.int y)) (some (some (kpS t ps n))) = Q .nx (ρ.set i (some (kpS t ps (g x y)))) := by
  unfold kpS
  simp -dsimp [setAt]
end
@[simp] theorem wkVals_kv (ps : List Pn) : wkVals (kvOf ps) = ps.map fun p => pt p.2 := by simp [wkVals, kvOf]
@[simp] theorem wkItems_kv (ps : List Pn) : wkItems (kvOf ps) = ps.map fun p => .tuple [.str p.1, pt p.2] := by
  simp [wkItems, itemsD, kvOf]
  intro a x y _
  rfl
@[simp] theorem chk_need_there {t : Option Nat} {ps : List Pn} {n : Int} : Pd.B.chkO "KeptPoints" "need_there" (some (kpS t ps n)) = True := eq_true ⟨rfl, by decide +kernel⟩
@[simp] theorem chk_count_in {t : Option Nat} {ps : List Pn} {n : Int} : Pd.B.chkO "KeptPoints" "count_in" (some (kpS t ps n)) = True := eq_true ⟨rfl, by decide +kernel⟩
@[simp] theorem chk_put_point {t : Option Nat} {ps : List Pn} {n : Int} : Pd.B.chkO "KeptPoints" "put_point" (some (kpS t ps n)) = True := eq_true ⟨rfl, by decide +kernel⟩
@[simp] theorem chk_take_point {t : Option Nat} {ps : List Pn} {n : Int} : Pd.B.chkO "KeptPoints" "take_point" (some (kpS t ps n)) = True := eq_true ⟨rfl, by decide +kernel⟩
@[simp] theorem chk_move_point {t : Option Nat} {ps : List Pn} {n : Int} : Pd.B.chkO "KeptPoints" "move_point" (some (kpS t ps n)) = True := eq_true ⟨rfl, by decide +kernel⟩
@[simp] theorem chk_points_now {t : Option Nat} {ps : List Pn} {n : Int} : Pd.B.chkO "KeptPoints" "points_now" (some (kpS t ps n)) = True := eq_true ⟨rfl, by decide +kernel⟩
@[simp] theorem chk_below_now {t : Option Nat} {ps : List Pn} {n : Int} : Pd.B.chkO "KeptPoints" "below_now" (some (kpS t ps n)) = True := eq_true ⟨rfl, by decide +kernel⟩
@[simp] theorem chk_above_now {t : Option Nat} {ps : List Pn} {n : Int} : Pd.B.chkO "KeptPoints" "above_now" (some (kpS t ps n)) = True := eq_true ⟨rfl, by decide +kernel⟩
@[simp] theorem chk_pairs_now {t : Option Nat} {ps : List Pn} {n : Int} : Pd.B.chkO "KeptPoints" "pairs_now" (some (kpS t ps n)) = True := eq_true ⟨rfl, by decide +kernel⟩
@[simp] theorem chk_box_now {t : Option Nat} {ps : List Pn} {n : Int} : Pd.B.chkO "KeptPoints" "box_now" (some (kpS t ps n)) = True := eq_true ⟨rfl, by decide +kernel⟩
theorem spec_kept (Q : Sl → List Sl → Prop) : Sp m_KeptPoints___init__ [.ob none "KeptPoints" [] []] Q ↔ Q (.p .none) [kpS none [] 0] := by
  refine sp_iff ?_ Q
  unfold m_KeptPoints___init__
  rw [sp_mkF]
  simp -dsimp [g_KeptPoints___init__, setAt]
  rfl
@[simp ↓] theorem spec_points_now (ps : List Pn) (n : Int) (hn : ps.length ≤ 1000) (Q : Sl → List Sl → Prop) : Sp m_KeptPoints_points_now [kpS none ps n] Q ↔ Q (.p (.tuple (ps.map ptn))) [kpS none ps n] := by
  refine sp_iff ?_ Q
  unfold m_KeptPoints_points_now
  rw [sp_mkF]
  simp -dsimp [g_KeptPoints_points_now]
  refine ev_comp_pure (fun p : Pn => .tuple [.str p.1, pt p.2]) ptn (fun _ => true) (by rw [Pd.B.sizeLine_eq]; omega) (fun p _ => ?_) ?_
  · obtain ⟨w, x, y⟩ := p
    simp -dsimp [tgTup, tgCons, tgName, tgNil, pt, ptn]
  · intro ρ1 hw
    simp -dsimp [hw, filter_yes, nofdE_cons]
@[simp ↓] theorem spec_above_now (ps : List Pn) (n : Int) (hn : ps.length ≤ 1000) (x y : Int) (Q : Sl → List Sl → Prop) : Sp m_KeptPoints_above_now [kpS none ps n, .p (.int x), .p (.int y)] Q ↔ Q (.p (.int (aboveAt ps (x, y)))) [kpS none ps n, .p (.int x), .p (.int y)] := by
  refine sp_iff ?_ Q
  unfold m_KeptPoints_above_now
  rw [sp_mkF]
  simp -dsimp [g_KeptPoints_above_now]
  refine ev_comp_pure (fun p : Pn => pt p.2) (fun _ => .int 1) (fun p => below (x, y) p.2) (by rw [Pd.B.sizeLine_eq]; omega) (fun p _ => ?_) ?_
  · have e := fun Q => spec_lies_below (x, y) p.2 Q
    simp only [pt] at e
    cases h : below (x, y) p.2 <;> simp -dsimp [tgName, pt, e, h]
  · intro ρ1 hw
    simp -dsimp [hw, nofdE_cons, aboveAt]
@[simp ↓] theorem spec_in_corner (ps : List Pn) (hl : ps.length ≤ 1000) (x y : Int) (Q : Sl → List Sl → Prop) : Sp m_in_corner [.p (.tuple (ps.map ptn)), .p (.int x), .p (.int y)] Q ↔ Q (.p (.int ((ps.filter fun p => le2 p.2 (x, y)).length : Nat))) [.p (.tuple (ps.map ptn)), .p (.int x), .p (.int y)] := by
  refine sp_iff ?_ Q
  unfold m_in_corner
  rw [sp_mkF]
  simp -dsimp [g_in_corner]
  refine ev_comp_pure ptn (fun p => .str p.1) (fun p => le2 p.2 (x, y)) (by rw [Pd.B.sizeLine_eq]; omega) (fun p _ => ?_) ?_
  · obtain ⟨w, a, b⟩ := p
    by_cases h1 : a ≤ x <;> by_cases h2 : b ≤ y <;> simp -dsimp [tgTup, tgCons, tgName, tgNil, ptn, le2, h1, h2]
  · intro ρ1 hw1
    simp -dsimp [hw1]
@[simp ↓] theorem spec_below_now (ps : List Pn) (n : Int) (hn : ps.length ≤ 1000) (x y : Int) (Q : Sl → List Sl → Prop) : Sp m_KeptPoints_below_now [kpS none ps n, .p (.int x), .p (.int y)] Q ↔ Q (.p (.int (belowAt ps (x, y)))) [kpS none ps n, .p (.int x), .p (.int y)] := by
  refine sp_iff ?_ Q
  unfold m_KeptPoints_below_now
  rw [sp_mkF]
  simp -dsimp [g_KeptPoints_below_now]
  refine ev_comp_pure (fun p : Pn => pt p.2) (fun _ => .int 1) (fun p => decide (p.2 = (x, y))) (by rw [Pd.B.sizeLine_eq]; omega) (fun p _ => ?_) ?_
  · obtain ⟨w, a, b⟩ := p
    by_cases h1 : a = x <;> by_cases h2 : b = y <;> simp -dsimp [tgName, pt, h1, h2]
  · intro ρ1 hw
    have e := below_cnt ps (x, y)
    simp -dsimp [hw, nofdE_cons, hn]
    exact e
theorem spec_count_in (ps : List Pn) (n : Int) (hn : ps.length ≤ 1000) (x y by_ : Int) (hb : by_.natAbs < 2 ^ 200) (Q : Sl → List Sl → Prop) : Sp m_KeptPoints_count_in [kpS none ps n, .p (.tuple [.int x, .int y]), .p (.int by_)] Q ↔ Q (.p .none) [kpS none ps (n + by_ * (belowAt ps (x, y) + aboveAt ps (x, y))), .p (.tuple [.int x, .int y]), .p (.int by_)] := by
  refine sp_iff ?_ Q
  unfold m_KeptPoints_count_in
  rw [sp_mkF]
  have h1 : (belowAt ps (x, y) + aboveAt ps (x, y)).natAbs < 2 ^ 200 := by
    have a := List.length_filter_le (fun p : Pn => below p.2 (x, y)) ps
    have b := List.length_filter_le (fun p : Pn => below (x, y) p.2) ps
    unfold belowAt aboveAt
    omega
  simp -dsimp [g_KeptPoints_count_in, hn]
  exact cmul (by omega) (by omega)
theorem spec_put_point (ps : List Pn) (n : Int) (hn : ps.length ≤ 1000) (w : Str) (hw : w ∉ nms ps) (x y : Int) (Q : Sl → List Sl → Prop) :
    Sp m_KeptPoints_put_point [kpS none ps n, .p (.str w), .p (.int x), .p (.int y)] Q ↔ Q (.p .none) [kpS none (ps ++ [(w, x, y)]) (n + (belowAt ps (x, y) + aboveAt ps (x, y))), .p (.str w), .p (.int x), .p (.int y)] := by
  refine sp_iff ?_ Q
  unfold m_KeptPoints_put_point
  rw [sp_mkF]
  have hk := kv_put (q := (x, y)) hw
  simp only [pt] at hk
  have hl : (kvOf ps).length < sizeLine := by rw [Pd.B.sizeLine_eq]; simp [kvOf]; omega
  simp -dsimp [g_KeptPoints_put_point]
  refine ⟨kv_no hw, ?_⟩
  refine (spec_count_in ps n hn x y 1 (by decide) _).mpr ?_
  simp -dsimp
  refine ⟨_, rfl, hl, ?_⟩
  rw [hk]
  simp -dsimp
theorem spec_need_there (ps : List Pn) (n : Int) (w : Str) (hw : w ∈ nms ps) (Q : Sl → List Sl → Prop) : Sp m_KeptPoints_need_there [kpS none ps n, .p (.str w)] Q ↔ Q (.p .none) [kpS none ps n, .p (.str w)] := by
  refine sp_iff ?_ Q
  unfold m_KeptPoints_need_there
  rw [sp_mkF]
  simp -dsimp [g_KeptPoints_need_there]
  intro h
  have := kv_is (ps := ps) (w := w)
  rw [h, decide_eq_true hw] at this
  cases this
theorem spec_take_point (ps : List Pn) (n : Int) (hn : ps.length ≤ 1000) (hnd : (nms ps).Nodup) (p : Pn) (hp : p ∈ ps) (Q : Sl → List Sl → Prop) :
    Sp m_KeptPoints_take_point [kpS none ps n, .p (.str p.1)] Q ↔ Q (.p .none) [kpS none (delP ps p.1) (n - (belowAt (delP ps p.1) p.2 + aboveAt (delP ps p.1) p.2)), .p (.str p.1)] := by
  refine sp_iff ?_ Q
  unfold m_KeptPoints_take_point
  rw [sp_mkF]
  simp -dsimp [g_KeptPoints_take_point]
  refine (spec_need_there ps n p.1 (List.mem_map.mpr ⟨p, hp, rfl⟩) _).mpr ?_
  simp -dsimp
  refine ⟨_, rfl, _, kv_val hnd hp, ?_⟩
  have hl : (delP ps p.1).length ≤ 1000 := Nat.le_trans (List.length_filter_le _ _) hn
  rw [kv_del]
  simp -dsimp [pt]
  refine (spec_count_in (delP ps p.1) n hl p.2.1 p.2.2 (-1) (by decide) _).mpr ?_
  simp -dsimp
  congr 1
theorem spec_move_point (ps : List Pn) (n : Int) (hn : ps.length ≤ 1000) (hnd : (nms ps).Nodup) (p : Pn) (hp : p ∈ ps) (x y : Int) (Q : Sl → List Sl → Prop) :
    Sp m_KeptPoints_move_point [kpS none ps n, .p (.str p.1), .p (.int x), .p (.int y)] Q ↔ Q (.p .none) [kpS none (setP ps p.1 (x, y)) (n - (belowAt ps p.2 + aboveAt ps p.2) + (belowAt (setP ps p.1 (x, y)) (x, y) + aboveAt (setP ps p.1 (x, y)) (x, y))), .p (.str p.1), .p (.int x), .p (.int y)] := by
  refine sp_iff ?_ Q
  unfold m_KeptPoints_move_point
  rw [sp_mkF]
  have hw : p.1 ∈ nms ps := List.mem_map.mpr ⟨p, hp, rfl⟩
  have hk := kv_set (q := (x, y)) hw
  simp only [pt] at hk
  have hl : (kvOf ps).length < sizeLine := by rw [Pd.B.sizeLine_eq]; simp [kvOf]; omega
  have hl2 : (setP ps p.1 (x, y)).length ≤ 1000 := by simp [setP]; omega
  simp -dsimp [g_KeptPoints_move_point]
  refine (spec_need_there ps n p.1 hw _).mpr ?_
  simp -dsimp [kv_val hnd hp, pt]
  refine (spec_count_in ps n hn p.2.1 p.2.2 (-1) (by decide) _).mpr ?_
  simp -dsimp
  refine ⟨_, rfl, hl, ?_⟩
  rw [hk]
  simp -dsimp
  refine (spec_count_in (setP ps p.1 (x, y)) _ hl2 x y 1 (by decide) _).mpr ?_
  simp -dsimp
  congr 1
theorem nms_sub_set {ps : List Pn} {ws : List Str} {w : Str} {q : Int × Int} (h : ∀ x ∈ nms ps, x ∈ ws) : ∀ x ∈ nms (setP ps w q), x ∈ ws := by rw [nms_set]; exact h
theorem nms_sub_del {ps : List Pn} {ws : List Str} {w : Str} (h : ∀ x ∈ nms ps, x ∈ ws) : ∀ x ∈ nms (delP ps w), x ∈ ws := by
  rw [nms_del]
  exact fun x hx => h x (List.mem_filter.mp hx).1
theorem nms_sub_app {ps : List Pn} {ws : List Str} {p : Pn} (h : ∀ x ∈ nms ps, x ∈ ws) (hp : p.1 ∈ ws) : ∀ x ∈ nms (ps ++ [p]), x ∈ ws := by
  rw [nms_app]
  intro x hx
  rcases List.mem_append.mp hx with z | z
  · exact h x z
  · rw [List.mem_singleton.mp z]; exact hp
structure KpOk (ws : List Str) (ps : List Pn) : Prop where
  nd : (nms ps).Nodup
  sub : ∀ x ∈ nms ps, x ∈ ws
theorem KpOk.len {ws : List Str} {ps : List Pn} (h : KpOk ws ps) : ps.length ≤ ws.length := by
  rw [← nms_len]
  exact len_of_sub h.nd h.sub
theorem KpOk.nil (ws : List Str) : KpOk ws [] := ⟨List.nodup_nil, fun x hx => by cases hx⟩
theorem KpOk.app {ws : List Str} {ps : List Pn} {p : Pn} (h : KpOk ws ps) (hp : p.1 ∈ ws) (hn : p.1 ∉ nms ps) : KpOk ws (ps ++ [p]) := ⟨nodup_app h.nd hn, nms_sub_app h.sub hp⟩
theorem KpOk.set {ws : List Str} {ps : List Pn} {w : Str} {q : Int × Int} (h : KpOk ws ps) : KpOk ws (setP ps w q) := ⟨by rw [nms_set]; exact h.nd, nms_sub_set h.sub⟩
theorem KpOk.del {ws : List Str} {ps : List Pn} {w : Str} (h : KpOk ws ps) : KpOk ws (delP ps w) := ⟨nodup_del h.nd, nms_sub_del h.sub⟩
theorem spec_deed {ds : List D} {ps : List Pn} {n : Int} {ws : List Str} {C : Int} {Q : Sl → List Sl → Prop} (hd : SeedOk C ds) (hC : C < 2 ^ 55) (h : KpOk ws ps) (h0 : 0 < ws.length) (hw : ws.length ≤ 60)
    (k : ∀ (ps' : List Pn) (n' : Int) ds', SeedOk (C + 100) ds' → KpOk ws ps' →
      (ps' = ps ∧ n' = n ∨ (∃ p : Pn, p.1 ∉ nms ps ∧ ps' = ps ++ [p] ∧ n' = n + (belowAt ps p.2 + aboveAt ps p.2)) ∨ (∃ p ∈ ps, ps' = delP ps p.1 ∧ n' = n - (belowAt (delP ps p.1) p.2 + aboveAt (delP ps p.1) p.2)) ∨
        ∃ p ∈ ps, ∃ q, ps' = setP ps p.1 q ∧ n' = n - (belowAt ps p.2 + aboveAt ps p.2) + (belowAt (setP ps p.1 q) q + aboveAt (setP ps p.1 q) q)) →
      ∀ r, Q (.p r) [.ml none ds', kpS none ps' n', .md none (kvOf ps'), .p (.list (ws.map .str))]) :
    Sp m_law_deed [.ml none ds, kpS none ps n, .md none (kvOf ps), .p (.list (ws.map .str))] Q := by
  have hlen := h.len
  unfold m_law_deed
  rw [sp_mkF]
  simp -dsimp [g_law_deed]
  refine spec_draw hd (by omega) (by omega) (by omega) fun v d1 h1 a1 b1 => ?_
  obtain ⟨w, hwm, hw2, hat⟩ := atI_map (f := PyData.str) a1 b1
  have hit : itemsD (kvOf ps) = ps.map fun p => PyData.tuple [.str p.1, pt p.2] := wkItems_kv ps
  simp -dsimp [hat, hit]
  refine ev_comp_pure (fun p : Pn => .tuple [.str p.1, pt p.2]) ptn (fun _ => true) (by rw [Pd.B.sizeLine_eq]; omega) (fun p _ => ?_) ?_
  · obtain ⟨w', x, y⟩ := p
    simp -dsimp [tgTup, tgCons, tgName, tgNil, pt, ptn]
  · intro ρ1 hw1
    simp -dsimp [hw1, filter_yes, nofdE_cons]
    refine spec_place h1 (by omega) (by omega) fun x y d2 h2 => ?_
    simp -dsimp
    refine spec_draw h2 (by omega) (by omega) (by omega) fun way d3 h3 a3 b3 => ?_
    have hl : (kvOf ps).length < 16777216 := by simp [kvOf]; omega
    by_cases hin : w ∈ nms ps
    · obtain ⟨p, hp, hpw⟩ := List.mem_map.mp hin
      subst hpw
      have hv := kv_val h.nd hp
      have hk := kv_set (q := (x, y)) hin
      simp only [pt] at hk
      simp -dsimp [hv]
      by_cases e1 : way < 2
      · simp -dsimp [e1]
        refine (spec_take_point ps n (by omega) h.nd p hp _).mpr ?_
        simp -dsimp
        refine ⟨_, rfl, ⟨_, hv⟩, ?_⟩
        rw [kv_del]
        exact k _ _ _ (h3.mono (by omega)) h.del (Or.inr (Or.inr (Or.inl ⟨p, hp, rfl, rfl⟩))) _
      · by_cases e2 : way < 4
        · simp -dsimp [e1, e2]
          refine (spec_move_point ps n (by omega) h.nd p hp x y _).mpr ?_
          simp -dsimp
          refine ⟨hl, ?_⟩
          rw [hk]
          exact k _ _ _ (h3.mono (by omega)) h.set (Or.inr (Or.inr (Or.inr ⟨p, hp, _, rfl, rfl⟩))) _
        · simp -dsimp [e1, e2]
          exact k _ _ _ (h3.mono (by omega)) h (Or.inl ⟨rfl, rfl⟩) _
    · have hk := kv_put (q := (x, y)) hin
      simp only [pt] at hk
      simp -dsimp [kv_no hin]
      refine (spec_put_point ps n (by omega) w hin x y _).mpr ?_
      simp -dsimp
      refine ⟨hl, ?_⟩
      rw [hk]
      exact k _ _ _ (h3.mono (by omega)) (h.app hwm hin) (Or.inr (Or.inl ⟨(w, x, y), hin, rfl, rfl⟩)) _
def pairsN (ps : List Pn) : Int := (ps.map fun p => belowAt ps p.2).sum
theorem sum_perm {α : Type} (f : α → Int) {l m : List α} (h : l.Perm m) : (l.map f).sum = (m.map f).sum := by
  induction h with
  | nil => rfl
  | cons x _ ih => simp [ih]
  | swap x y l => simp; omega
  | trans _ _ ih1 ih2 => rw [ih1, ih2]
theorem belowAt_perm {ps qs : List Pn} (h : ps.Perm qs) (q : Int × Int) : belowAt ps q = belowAt qs q := by
  unfold belowAt
  rw [(h.filter _).length_eq]
theorem aboveAt_perm {ps qs : List Pn} (h : ps.Perm qs) (q : Int × Int) : aboveAt ps q = aboveAt qs q := by
  unfold aboveAt
  rw [(h.filter _).length_eq]
theorem pairsN_perm {ps qs : List Pn} (h : ps.Perm qs) : pairsN ps = pairsN qs := by
  unfold pairsN
  rw [sum_perm _ h]
  congr 1
  exact List.map_congr_left fun p _ => belowAt_perm h p.2
theorem below_irr (p : Int × Int) : below p p = false := by simp [below]
theorem belowAt_app (ps : List Pn) (p : Pn) (q : Int × Int) : belowAt (ps ++ [p]) q = belowAt ps q + if below p.2 q then 1 else 0 := by
  unfold belowAt
  rw [List.filter_append, List.length_append]
  cases h : below p.2 q <;> simp [h]
theorem aboveAt_app (ps : List Pn) (p : Pn) (q : Int × Int) : aboveAt (ps ++ [p]) q = aboveAt ps q + if below q p.2 then 1 else 0 := by
  unfold aboveAt
  rw [List.filter_append, List.length_append]
  cases h : below q p.2 <;> simp [h]
theorem sum_if (ps : List Pn) (q : Int × Int) : (ps.map fun p => if below q p.2 then (1 : Int) else 0).sum = aboveAt ps q := by
  unfold aboveAt
  induction ps with
  | nil => rfl
  | cons p ps ih =>
    rw [List.map_cons, List.sum_cons, ih, List.filter_cons]
    cases h : below q p.2 <;> simp [h] <;> omega
theorem sum_add {α : Type} (f g : α → Int) (l : List α) : (l.map fun x => f x + g x).sum = (l.map f).sum + (l.map g).sum := by
  induction l with
  | nil => rfl
  | cons x l ih => simp [ih]; omega
theorem pairsN_app (ps : List Pn) (p : Pn) : pairsN (ps ++ [p]) = pairsN ps + (belowAt ps p.2 + aboveAt ps p.2) := by
  unfold pairsN
  rw [List.map_append, List.sum_append]
  simp only [belowAt_app, sum_add, sum_if, List.map_cons, List.map_nil, List.sum_cons, List.sum_nil, below_irr]
  simp
  omega
theorem del_perm : ∀ {ps : List Pn} {p : Pn}, (nms ps).Nodup → p ∈ ps → ps.Perm (delP ps p.1 ++ [p])
  | [], _, _, h => by cases h
  | x :: ps, p, hn, h => by
    unfold nms at hn
    rw [List.map_cons, List.nodup_cons] at hn
    rcases List.mem_cons.mp h with e | e
    · subst e
      have : delP (p :: ps) p.1 = ps := by
        unfold delP
        rw [List.filter_cons, if_neg (by simp)]
        refine List.filter_eq_self.mpr fun y hy => ?_
        have : y.1 ≠ p.1 := fun z => hn.1 (List.mem_map.mpr ⟨y, hy, z⟩)
        simpa using this
      rw [this]
      exact (List.perm_append_singleton p ps).symm
    · have hx : x.1 ≠ p.1 := fun z => hn.1 (by rw [z]; exact List.mem_map.mpr ⟨p, e, rfl⟩)
      have ih := del_perm (ps := ps) hn.2 e
      have : delP (x :: ps) p.1 = x :: delP ps p.1 := by
        unfold delP
        rw [List.filter_cons, if_pos (by simpa using hx)]
      rw [this]
      exact ih.cons x
theorem set_perm : ∀ {ps : List Pn} {p : Pn} {q : Int × Int}, (nms ps).Nodup → p ∈ ps → (setP ps p.1 q).Perm (delP ps p.1 ++ [(p.1, q)])
  | [], _, _, _, h => by cases h
  | x :: ps, p, q, hn, h => by
    unfold nms at hn
    rw [List.map_cons, List.nodup_cons] at hn
    rcases List.mem_cons.mp h with e | e
    · subst e
      have h1 : delP (p :: ps) p.1 = ps := by
        unfold delP
        rw [List.filter_cons, if_neg (by simp)]
        refine List.filter_eq_self.mpr fun y hy => ?_
        have : y.1 ≠ p.1 := fun z => hn.1 (List.mem_map.mpr ⟨y, hy, z⟩)
        simpa using this
      have h2 : setP (p :: ps) p.1 q = (p.1, q) :: ps := by
        unfold setP
        rw [List.map_cons, if_pos rfl]
        congr 1
        refine (List.map_congr_left fun y hy => ?_).trans (List.map_id ps)
        rw [if_neg fun z => hn.1 (List.mem_map.mpr ⟨y, hy, z⟩)]
        rfl
      rw [h1, h2]
      exact (List.perm_append_singleton _ ps).symm
    · have hx : x.1 ≠ p.1 := fun z => hn.1 (by rw [z]; exact List.mem_map.mpr ⟨p, e, rfl⟩)
      have ih := set_perm (ps := ps) (q := q) hn.2 e
      have h1 : delP (x :: ps) p.1 = x :: delP ps p.1 := by
        unfold delP
        rw [List.filter_cons, if_pos (by simpa using hx)]
      have h2 : setP (x :: ps) p.1 q = x :: setP ps p.1 q := by
        unfold setP
        rw [List.map_cons, if_neg hx]
      rw [h1, h2]
      exact ih.cons x
theorem pairsN_del {ps : List Pn} {p : Pn} (hn : (nms ps).Nodup) (h : p ∈ ps) : pairsN (delP ps p.1) = pairsN ps - (belowAt (delP ps p.1) p.2 + aboveAt (delP ps p.1) p.2) := by
  rw [pairsN_perm (del_perm hn h), pairsN_app]
  omega
theorem belowAt_del {ps : List Pn} {p : Pn} (hn : (nms ps).Nodup) (h : p ∈ ps) : belowAt ps p.2 = belowAt (delP ps p.1) p.2 := by
  rw [belowAt_perm (del_perm hn h), belowAt_app, below_irr]; simp
theorem aboveAt_del {ps : List Pn} {p : Pn} (hn : (nms ps).Nodup) (h : p ∈ ps) : aboveAt ps p.2 = aboveAt (delP ps p.1) p.2 := by
  rw [aboveAt_perm (del_perm hn h), aboveAt_app, below_irr]; simp
theorem pairsN_set {ps : List Pn} {p : Pn} {q : Int × Int} (hn : (nms ps).Nodup) (h : p ∈ ps) : pairsN (setP ps p.1 q) = pairsN ps - (belowAt ps p.2 + aboveAt ps p.2) + (belowAt (setP ps p.1 q) q + aboveAt (setP ps p.1 q) q) := by
  have h1 := set_perm (q := q) hn h
  rw [pairsN_perm h1, belowAt_perm h1, aboveAt_perm h1, pairsN_app, belowAt_app, aboveAt_app]
  dsimp only
  rw [below_irr, pairsN_perm (del_perm hn h), pairsN_app, belowAt_del hn h, aboveAt_del hn h]
  simp
theorem sum_ifB (ps : List Pn) (q : Int × Int) : (ps.map fun p => if below p.2 q then (1 : Int) else 0).sum = belowAt ps q := by
  unfold belowAt
  induction ps with
  | nil => rfl
  | cons p ps ih =>
    rw [List.map_cons, List.sum_cons, ih, List.filter_cons]
    cases h : below p.2 q <;> simp [h] <;> omega
def inB (b : Int × Int × Int × Int) (x y : Int) : Bool := decide (b.1 ≤ x) && (decide (x ≤ b.2.2.1) && (decide (b.2.1 ≤ y) && decide (y ≤ b.2.2.2)))
@[simp ↓] theorem spec_in_box (b : Int × Int × Int × Int) (x y : Int) (Q : Sl → List Sl → Prop) : Sp m_is_in_box [.p (bx b), .p (.int x), .p (.int y)] Q ↔ Q (.p (.bool (inB b x y))) [.p (bx b), .p (.int x), .p (.int y)] := by
  obtain ⟨p, q, r, s⟩ := b
  unfold m_is_in_box bx inB
  rw [sp_mkF]
  by_cases h1 : p ≤ x <;> by_cases h2 : x ≤ r <;> by_cases h3 : q ≤ y <;> simp -dsimp [g_is_in_box, h1, h2, h3]
def nIn (ps : List (Str × Int × Int)) (b : Int × Int × Int × Int) : Int := ((ps.filter fun p => inB b p.2.1 p.2.2).length : Int)
@[simp ↓] theorem spec_names_in (ps : List (Str × Int × Int)) (hl : ps.length ≤ 1000) (b : Int × Int × Int × Int) (Q : Sl → List Sl → Prop) : Sp m_names_in [.p (.tuple (ps.map ptn)), .p (bx b)] Q ↔ Q (.ml none ((ps.filter fun p => inB b p.2.1 p.2.2).map fun p => .str p.1)) [.p (.tuple (ps.map ptn)), .p (bx b)] := by
  refine sp_iff ?_ Q
  unfold m_names_in
  rw [sp_mkF]
  simp -dsimp [g_names_in]
  refine ev_comp_pure ptn (fun p => .str p.1) (fun p => inB b p.2.1 p.2.2) (by rw [Pd.B.sizeLine_eq]; omega) (fun p _ => ?_) ?_
  · obtain ⟨w, x, y⟩ := p
    cases h : inB b x y <;> simp -dsimp [tgTup, tgCons, tgName, tgNil, ptn, h]
  · intro ρ1 hw1
    simp -dsimp [hw1]
@[simp ↓] theorem spec_in_boxes (ps : List (Str × Int × Int)) (hl : ps.length ≤ 1000) (bs : List (Int × Int × Int × Int)) (hb : bs.length ≤ 1000) (Q : Sl → List Sl → Prop) : Sp m_in_boxes [.p (.tuple (ps.map ptn)), .p (.tuple (bs.map bx))] Q ↔ Q (.p (.tuple (bs.map fun b => .int (nIn ps b)))) [.p (.tuple (ps.map ptn)), .p (.tuple (bs.map bx))] := by
  refine sp_iff ?_ Q
  unfold m_in_boxes
  rw [sp_mkF]
  simp -dsimp [g_in_boxes]
  refine ev_comp_pure bx (fun b => .int (nIn ps b)) (fun _ => true) (by rw [Pd.B.sizeLine_eq]; omega) (fun b _ => ?_) ?_
  · simp -dsimp [tgName, hl, nIn]
  · intro ρ1 hw1
    simp -dsimp [hw1, filter_yes]
@[simp ↓] theorem spec_pairs_now (ps : List Pn) (n : Int) (Q : Sl → List Sl → Prop) : Sp m_KeptPoints_pairs_now [kpS none ps n] Q ↔ Q (.p (.int n)) [kpS none ps n] := by
  refine sp_iff ?_ Q
  unfold m_KeptPoints_pairs_now
  rw [sp_mkF]
  simp -dsimp [g_KeptPoints_pairs_now]
@[simp ↓] theorem spec_box_now (ps : List Pn) (n : Int) (hn : ps.length ≤ 1000) (b : Int × Int × Int × Int) (Q : Sl → List Sl → Prop) : Sp m_KeptPoints_box_now [kpS none ps n, .p (bx b)] Q ↔ Q (.p (.int (nIn ps b))) [kpS none ps n, .p (bx b)] := by
  refine sp_iff ?_ Q
  unfold m_KeptPoints_box_now
  rw [sp_mkF]
  have e := fun Q => spec_in_boxes ps hn [b] (by simp) Q
  simp only [List.map_cons, List.map_nil] at e
  simp -dsimp [g_KeptPoints_box_now, hn, e]
@[simp ↓] theorem spec_places_in (ps : List (Str × Int × Int)) (hn : ps.length ≤ 1000) (Q : Sl → List Sl → Prop) : Sp m_places_in [.p (.tuple (ps.map ptn))] Q ↔ Q (.ml none (ps.map fun p => pt p.2)) [.p (.tuple (ps.map ptn))] := by
  refine sp_iff ?_ Q
  unfold m_places_in
  rw [sp_mkF]
  simp -dsimp [g_places_in]
  refine ev_comp_pure ptn (fun p => pt p.2) (fun _ => true) (by rw [Pd.B.sizeLine_eq]; omega) ?_ ?_
  · rintro ⟨w, x, y⟩ hx
    simp -dsimp [tgTup, tgCons, tgName, tgNil, pt, ptn]
  · intro ρ' hw
    simp -dsimp [hw, filter_yes]
def nBelow (ps : List (Str × Int × Int)) (p : Str × Int × Int) : Int := ((ps.map fun q => if below q.2 p.2 then (1 : Int) else 0)).sum
@[simp ↓] theorem spec_below_each (ps : List (Str × Int × Int)) (hn : ps.length ≤ 1000) (Q : Sl → List Sl → Prop) : Sp m_below_each [.p (.tuple (ps.map ptn))] Q ↔ Q (.p (.tuple (ps.map fun p => .int (nBelow ps p)))) [.p (.tuple (ps.map ptn))] := by
  refine sp_iff ?_ Q
  unfold m_below_each
  rw [sp_mkF]
  simp -dsimp [g_below_each, hn]
  refine ev_comp_pure (fun p : Str × Int × Int => pt p.2) (fun p => .int (nBelow ps p)) (fun _ => true) (by rw [Pd.B.sizeLine_eq]; omega) ?_ ?_
  · rintro p hx
    simp -dsimp [tgName]
    refine ev_comp_pure (fun p : Str × Int × Int => pt p.2) (fun q => .int (if below q.2 p.2 then 1 else 0)) (fun _ => true) (by rw [Pd.B.sizeLine_eq]; omega) ?_ ?_
    · rintro q hq
      simp -dsimp [tgName]
    · intro ρ' hw
      simp -dsimp [hw, filter_yes, ints_mapf, nBelow]
  · intro ρ' hw
    simp -dsimp [hw, filter_yes]
theorem pairs_sum (ps : List (Str × Int × Int)) : ints? (ps.map fun p => .int (nBelow ps p)) = some (ps.map (nBelow ps)) := ints_mapf
def nPairs (ps : List (Str × Int × Int)) : Int := (ps.map (nBelow ps)).sum
@[simp ↓] theorem spec_pairs (ps : List (Str × Int × Int)) (hn : ps.length ≤ 1000) (Q : Sl → List Sl → Prop) : Sp m_pairs_in_all [.p (.tuple (ps.map ptn))] Q ↔ Q (.p (.int (nPairs ps))) [.p (.tuple (ps.map ptn))] := by
  refine sp_iff ?_ Q
  unfold m_pairs_in_all
  rw [sp_mkF]
  simp -dsimp [g_pairs_in_all, hn, pairs_sum, nPairs]
@[simp] theorem nn_tup : (("NoName" : Str) = "tuple") = False := eq_false (by decide +kernel)
theorem spX_iff {F : FX} {ss : List Sl} {out : OutF} (h : SpX F ss fun o => o = out) (Q : OutF → Prop) : SpX F ss Q ↔ Q out := by
  obtain ⟨o, e, rfl⟩ := h
  constructor
  · rintro ⟨o', e', q⟩
    rw [e] at e'
    cases e'
    exact q
  · intro q
    exact ⟨_, e, q⟩
theorem spec_need_thereX_no (ps : List Pn) (n : Int) (w : Str) (hw : w ∉ nms ps) (hl : w.length ≤ 1000) (Q : OutF → Prop) : SpX m_KeptPoints_need_thereX [kpS none ps n, .p (.str w)] Q ↔ Q (.exc "NoName" (some ("word", .str w)) [kpS none ps n, .p (.str w)]) := by
  refine spX_iff ?_ Q
  unfold m_KeptPoints_need_thereX
  rw [spX_mkX]
  simp -dsimp [g_KeptPoints_need_thereX, kv_no hw, hl]
theorem spec_put_pointX_no (ps : List Pn) (n : Int) (w : Str) (hw : w ∈ nms ps) (hl : w.length ≤ 1000) (x y : Int) (Q : OutF → Prop) :
    SpX m_KeptPoints_put_pointX [kpS none ps n, .p (.str w), .p (.int x), .p (.int y)] Q ↔ Q (.exc "NoName" (some ("word", .str w)) [kpS none ps n, .p (.str w), .p (.int x), .p (.int y)]) := by
  refine spX_iff ?_ Q
  unfold m_KeptPoints_put_pointX
  rw [spX_mkX]
  have := kv_is (ps := ps) (w := w)
  rw [decide_eq_true hw] at this
  obtain ⟨d, hd⟩ := Option.isSome_iff_exists.mp this
  simp -dsimp [g_KeptPoints_put_pointX, hd, hl]
theorem spec_take_pointX_no (ps : List Pn) (n : Int) (w : Str) (hw : w ∉ nms ps) (hl : w.length ≤ 1000) (Q : OutF → Prop) : SpX m_KeptPoints_take_pointX [kpS none ps n, .p (.str w)] Q ↔ Q (.exc "NoName" (some ("word", .str w)) [kpS none ps n, .p (.str w)]) := by
  refine spX_iff ?_ Q
  unfold m_KeptPoints_take_pointX
  rw [spX_mkX]
  simp -dsimp [g_KeptPoints_take_pointX]
  refine (spec_need_thereX_no ps n w hw hl _).mpr ?_
  simp -dsimp
theorem spec_move_pointX_no (ps : List Pn) (n : Int) (w : Str) (hw : w ∉ nms ps) (hl : w.length ≤ 1000) (x y : Int) (Q : OutF → Prop) :
    SpX m_KeptPoints_move_pointX [kpS none ps n, .p (.str w), .p (.int x), .p (.int y)] Q ↔ Q (.exc "NoName" (some ("word", .str w)) [kpS none ps n, .p (.str w), .p (.int x), .p (.int y)]) := by
  refine spX_iff ?_ Q
  unfold m_KeptPoints_move_pointX
  rw [spX_mkX]
  simp -dsimp [g_KeptPoints_move_pointX]
  refine (spec_need_thereX_no ps n w hw hl _).mpr ?_
  simp -dsimp
theorem spec_lrows6 (ps : List Pn) (hn : ps.length ≤ 1000) (Q : Sl → List Sl → Prop) : Sp m_law_rows [.md none (kvOf ps)] Q ↔ Q (.p (.tuple (ps.map ptn))) [.md none (kvOf ps)] := by
  refine sp_iff ?_ Q
  unfold m_law_rows
  rw [sp_mkF]
  have hit : itemsD (kvOf ps) = ps.map fun p => PyData.tuple [.str p.1, pt p.2] := wkItems_kv ps
  simp -dsimp [g_law_rows, hit]
  refine ev_comp_pure (fun p : Pn => .tuple [.str p.1, pt p.2]) ptn (fun _ => true) (by rw [Pd.B.sizeLine_eq]; omega) (fun p _ => ?_) ?_
  · obtain ⟨w', x, y⟩ := p
    simp -dsimp [tgTup, tgCons, tgName, tgNil, pt, ptn]
  · intro ρ1 hw1
    simp -dsimp [hw1, filter_yes, nofdE_cons]
inductive Qn : Int → D → Prop where
  | points : Qn 0 (.tuple [])
  | pairs : Qn 1 (.tuple [])
  | below (p : Int × Int) : Qn 2 (pt p)
  | above (p : Int × Int) : Qn 3 (pt p)
  | box (b : Int × Int × Int × Int) : Qn 4 (bx b)
theorem nP_eq (ps : List Pn) : nPairs ps = pairsN ps := by
  unfold nPairs pairsN
  exact congrArg List.sum (List.map_congr_left fun p _ => sum_ifB ps p.2)
def ansD (ps : List Pn) (w : Int) (h : D) : D → Prop := fun d => (∀ Q, Sp m_law_told [kpS none ps (pairsN ps), .p (.int w), .p h] Q ↔ Q (.p d) [kpS none ps (pairsN ps), .p (.int w), .p h]) ∧
  (∀ Q, Sp m_law_due [.p (.tuple (ps.map ptn)), .p (.int w), .p h] Q ↔ Q (.p d) [.p (.tuple (ps.map ptn)), .p (.int w), .p h]) ∧ PyData.eqv d d = true ∧ d.depth ≤ 3
theorem eqv_ptns (ps : List Pn) : PyData.eqvAll (ps.map ptn) (ps.map ptn) = true := by
  induction ps with
  | nil => simp
  | cons p ps ih =>
    obtain ⟨w, x, y⟩ := p
    simp [ptn, ih]
theorem dep_ptns (ps : List Pn) : PyData.depthAll (ps.map ptn) ≤ 1 := by
  induction ps with
  | nil => simp
  | cons p ps ih =>
    obtain ⟨w, x, y⟩ := p
    rw [List.map_cons, Pd.B.depA_c]
    simp [ptn]
    omega
theorem ans_is (ps : List Pn) (hn : ps.length ≤ 1000) {w : Int} {h : D} (q : Qn w h) : ∃ d, ansD ps w h d := by
  have hz : ps.length < sizeLine := by rw [Pd.B.sizeLine_eq]; omega
  cases q with
  | points =>
    refine ⟨.tuple (ps.map ptn), fun Q => sp_iff ?_ Q, fun Q => sp_iff ?_ Q, ?_, ?_⟩
    · unfold m_law_told
      rw [sp_mkF]
      simp -dsimp [g_law_told, hn]
    · unfold m_law_due
      rw [sp_mkF]
      simp -dsimp [g_law_due]
    · simp [eqv_ptns]
    · have := dep_ptns ps
      simp
      omega
  | pairs =>
    refine ⟨.int (pairsN ps), fun Q => sp_iff ?_ Q, fun Q => sp_iff ?_ Q, by simp, by simp⟩
    · unfold m_law_told
      rw [sp_mkF]
      simp -dsimp [g_law_told, hn]
    · unfold m_law_due
      rw [sp_mkF]
      simp -dsimp [g_law_due, hn, nP_eq]
  | below p =>
    obtain ⟨x, y⟩ := p
    refine ⟨.int (belowAt ps (x, y)), fun Q => sp_iff ?_ Q, fun Q => sp_iff ?_ Q, by simp, by simp⟩
    · unfold m_law_told pt
      rw [sp_mkF]
      simp -dsimp [g_law_told, hn]
    · unfold m_law_due
      rw [sp_mkF]
      simp -dsimp [g_law_due]
      refine ev_comp_pure ptn (fun _ => .int 1) (fun p => below p.2 (x, y)) hz (fun p _ => ?_) ?_
      · obtain ⟨w, a, b⟩ := p
        have hb := fun Q => spec_lies_below (a, b) (x, y) Q
        simp only [pt] at hb
        cases hc : below (a, b) (x, y) <;> simp -dsimp [tgTup, tgCons, tgName, tgNil, pt, ptn, hb, hc]
      · intro ρ1 hw1
        simp -dsimp [hw1]
        rfl
  | above p =>
    obtain ⟨x, y⟩ := p
    refine ⟨.int (aboveAt ps (x, y)), fun Q => sp_iff ?_ Q, fun Q => sp_iff ?_ Q, by simp, by simp⟩
    · unfold m_law_told pt
      rw [sp_mkF]
      simp -dsimp [g_law_told, hn]
    · unfold m_law_due
      rw [sp_mkF]
      simp -dsimp [g_law_due]
      refine ev_comp_pure ptn (fun _ => .int 1) (fun p => below (x, y) p.2) hz (fun p _ => ?_) ?_
      · obtain ⟨w, a, b⟩ := p
        have hb := fun Q => spec_lies_below (x, y) (a, b) Q
        simp only [pt] at hb
        cases hc : below (x, y) (a, b) <;> simp -dsimp [tgTup, tgCons, tgName, tgNil, pt, ptn, hb, hc]
      · intro ρ1 hw1
        simp -dsimp [hw1]
        rfl
  | box b =>
    have hb := fun Q => spec_in_boxes ps hn [b] (by simp) Q
    simp only [List.map_cons, List.map_nil] at hb
    refine ⟨.int (nIn ps b), fun Q => sp_iff ?_ Q, fun Q => sp_iff ?_ Q, by simp, by simp⟩
    · unfold m_law_told
      rw [sp_mkF]
      simp -dsimp [g_law_told, hn]
    · unfold m_law_due
      rw [sp_mkF]
      simp -dsimp [g_law_due, hb]
theorem fresh_at {ps : List Pn} (hnd : (nms ps).Nodup) {k : Nat} {t : Pn} (ht : ps[k]? = some t) : t.1 ∉ nms (ps.take k) := fun h => by
  obtain ⟨q, hq, e⟩ := List.mem_map.mp h
  obtain ⟨i, hi⟩ := List.getElem?_of_mem hq
  have hik : i < k := by
    have := (List.getElem?_eq_some_iff.mp hi).1
    rw [List.length_take] at this
    omega
  rw [List.getElem?_take_of_lt hik] at hi
  have hkl := (List.getElem?_eq_some_iff.mp ht).1
  have h1 : (nms ps)[i]? = some q.1 := by unfold nms; rw [List.getElem?_map, hi]; rfl
  have h2 : (nms ps)[k]? = some t.1 := by unfold nms; rw [List.getElem?_map, ht]; rfl
  have := (List.getElem?_inj (i := i) (j := k) (by rw [nms_len]; omega) hnd).mp (by rw [h1, h2, e])
  omega
def AfT (ps : List Pn) (n : Nat) (ρ : Pd.Env) : Prop := ∃ (x2 x3 x4 : Option Sl), ρ = [some (.md (some 0) (kvOf ps)), some (kpS none (ps.take n) (pairsN (ps.take n))), x2, x3, x4]
theorem spec_afresh6 (ps : List Pn) (hn : ps.length ≤ 1000) (hnd : (nms ps).Nodup) (Q : Sl → List Sl → Prop) : Sp m_law_afresh [.md none (kvOf ps)] Q ↔ Q (kpS none ps (pairsN ps)) [.md none (kvOf ps)] := by
  refine sp_iff ?_ Q
  unfold m_law_afresh
  rw [sp_mkF]
  have hr := fun Q => spec_lrows6 ps hn Q
  simp -dsimp [g_law_afresh]
  refine (spec_kept _).mpr ?_
  simp -dsimp [hr]
  refine ev_loop (fun done ρ => AfT ps done.length ρ) ⟨none, none, none, rfl⟩ ?_ ?_
  · rintro done d r ρ ha ⟨x2, x3, x4, rfl⟩
    obtain ⟨t, ht, rfl, hlt, _⟩ := map_at ha
    have hf := fresh_at hnd ht
    obtain ⟨w, x, y⟩ := t
    simp -dsimp [tgTup, tgCons, tgName, tgNil, ptn]
    refine (spec_put_point (ps.take done.length) _ (by simp; omega) w hf x y _).mpr ?_
    simp -dsimp
    refine ⟨some (.p (.str w)), some (.p (.int x)), some (.p (.int y)), ?_⟩
    rw [take_next ht, pairsN_app]
  · rintro ρ ⟨x2, x3, x4, rfl⟩
    rw [List.length_map, List.take_length]
    simp -dsimp
theorem spare_short : ∀ w ∈ spareL, w.length ≤ 1000 := by decide +kernel
theorem strK_kv (ps : List Pn) : Pd.strK (kvOf ps) = some (nms ps) := Pd.strK_map (fun p : Pn => p.1) (fun p => pt p.2) ps
theorem shal_kv6 (ps : List Pn) : Pd.shal (kvOf ps) = true := by
  unfold Pd.shal kvOf
  simp [pt]
theorem eqD_kv6 (ps : List Pn) : Pd.eqD (kvOf ps) [] = decide (ps = []) := by
  cases ps with
  | nil => rfl
  | cons p ps => unfold Pd.eqD kvOf; simp
def RfQ (C : Int) (ps : List Pn) (x5 : Option Sl) (ρ : Pd.Env) : Prop := ∃ (ds : List D) (w : Str), SeedOk C ds ∧ w.length ≤ 1000 ∧ ρ = [some (.ml (some 0) ds), some (kpS (some 1) ps (pairsN ps)), some (.md (some 2) (kvOf ps)), some (.p .none), some (.p (.str w)), x5, none]
theorem spec_refused6 {ds : List D} {ps : List Pn} {C : Int} {G : Sl → List Sl → Prop} (hd : SeedOk C ds) (hC : C < 2 ^ 55) (hl : ps.length ≤ 60) (hk : KpOk spareL ps)
    (k : ∀ ds', SeedOk (C + 10) ds' → G (.p (.bool true)) [.ml none ds', kpS none ps (pairsN ps), .md none (kvOf ps)]) : Sp m_law_is_refused [.ml none ds, kpS none ps (pairsN ps), .md none (kvOf ps)] G := by
  unfold m_law_is_refused
  rw [sp_mkF]
  have hsk := strK_kv ps
  have hkl : (kvOf ps).length = ps.length := by simp [kvOf]
  simp -dsimp [g_law_is_refused]
  refine spec_draw hd (by omega) (by omega) (by omega) fun way d1 h1 w0 w1 => ?_
  simp -dsimp [-ev_gIf]
  have hsh := shal_kv6 ps
  have hne := eqD_kv6 ps
  have hpl : Pd.pListD [Pd.Vw.m (kvOf ps)] = some (.nl ((nms ps).map .str)) := by unfold Pd.pListD; dsimp only; rw [hsk]
  have hnl := nms_len ps
  refine Ev.mono (Q := fun fl ρ1 => fl = .nx ∧ RfQ (C + 5) ps (some (.p (.int way))) ρ1) ?_ ?_
  · by_cases he : ps = []
    · simp -dsimp [shal_kv6, eqD_kv6, he]
      exact ⟨d1, _, h1.mono (by omega), by decide +kernel, rfl⟩
    · by_cases hw : way = 0
      · subst hw
        simp -dsimp [hsh, hne, he, hpl, hkl]
        have hpos : 0 < ps.length := List.length_pos_iff.mpr he
        refine spec_draw h1 (by omega) (by omega) (by omega) fun u d2 h2 u0 u1 => ?_
        obtain ⟨w, hwm, _, hat⟩ := atI_map (f := PyData.str) (l := nms ps) (v := u) u0 (by rw [hnl]; exact u1)
        simp -dsimp [hat]
        exact ⟨d2, _, h2.mono (by omega), spare_short w (hk.sub w hwm), rfl⟩
      · simp -dsimp [hsh, hne, he, hw]
        exact ⟨d1, _, h1.mono (by omega), by decide +kernel, rfl⟩
  · rintro fl ρ1 ⟨rfl, d2, w, h2, hwl, rfl⟩
    have hkk := k d2 (h2.mono (by omega))
    by_cases hin : w ∈ nms ps
    · have hs := kv_is (ps := ps) (w := w)
      rw [decide_eq_true hin] at hs
      obtain ⟨d, hd2⟩ := Option.isSome_iff_exists.mp hs
      simp -dsimp [hd2]
      refine (spec_put_pointX_no ps _ w hin hwl 3 3 _).mpr ?_
      simp -dsimp
      exact hkk
    · have hno := kv_no hin
      by_cases hw : way = 1
      · simp -dsimp [hno, hw]
        refine (spec_move_pointX_no ps _ w hin hwl 3 3 _).mpr ?_
        simp -dsimp
        exact hkk
      · simp -dsimp [hno, hw]
        refine (spec_take_pointX_no ps _ w hin hwl _).mpr ?_
        simp -dsimp
        exact hkk
def QnT (t : Int × D) : D := .tuple [.int t.1, t.2]
def QnOk (l : List (Int × D)) : Prop := ∀ t ∈ l, Qn t.1 t.2
def LkT (C : Int) (ps : List Pn) (n : Nat) (x3 x4 : Option Sl) (ρ : Pd.Env) : Prop := ∃ (ds : List D) (l : List (Int × D)) (x7 x8 x9 : Option Sl), SeedOk C ds ∧ QnOk l ∧ l.length = n ∧
  ρ = [some (.ml (some 0) ds), some (kpS (some 1) ps (pairsN ps)), some (.md (some 2) (kvOf ps)), x3, x4, some (.ml none (l.map QnT)), some (.p (.tuple (ps.map ptn))), x7, x8, x9, none, none]
theorem spec_looked6 {ds : List D} {ps : List Pn} {C : Int} {pl : List (Int × Int)} {bs : List (Int × Int × Int × Int)} {G : Sl → List Sl → Prop} (hd : SeedOk C ds) (hC : C < 2 ^ 55) (hn : ps.length ≤ 1000) (hp : pl.length ≤ 100) (hb : bs.length ≤ 100)
    (k : ∀ ds', SeedOk (C + 1000) ds' → G (.p (.bool true)) [.ml none ds', kpS none ps (pairsN ps), .md none (kvOf ps), .p (.list (pl.map pt)), .p (.list (bs.map bx))]) :
    Sp m_law_looked_right [.ml none ds, kpS none ps (pairsN ps), .md none (kvOf ps), .p (.list (pl.map pt)), .p (.list (bs.map bx))] G := by
  unfold m_law_looked_right
  rw [sp_mkF]
  have hr := fun Q => spec_lrows6 ps hn Q
  simp -dsimp [g_law_looked_right]
  refine ev_comp_pure pt (fun p => .tuple [.int 2, pt p]) (fun _ => true) (by rw [Pd.B.sizeLine_eq]; omega) (fun p _ => ?_) ?_
  · simp -dsimp [tgName]
  intro ρ1 hw1
  simp -dsimp [hw1, filter_yes]
  refine ⟨by omega, ?_⟩
  refine ev_comp_pure pt (fun p => .tuple [.int 3, pt p]) (fun _ => true) (by rw [Pd.B.sizeLine_eq]; omega) (fun p _ => ?_) ?_
  · simp -dsimp [tgName]
  intro ρ2 hw2
  simp -dsimp [hw2, filter_yes]
  refine ⟨by omega, ?_⟩
  refine ev_comp_pure bx (fun b => .tuple [.int 4, bx b]) (fun _ => true) (by rw [Pd.B.sizeLine_eq]; omega) (fun b _ => ?_) ?_
  · simp -dsimp [tgName]
  intro ρ3 hw3
  simp -dsimp [hw3, filter_yes, hr]
  obtain ⟨all, hall, hok, heq⟩ : ∃ all : List (Int × D), all.length = pl.length + (pl.length + bs.length) + 1 + 1 ∧ QnOk all ∧
      PyData.tuple [PyData.int 0, PyData.tuple []] :: PyData.tuple [PyData.int 1, PyData.tuple []] :: (List.map (fun p => PyData.tuple [PyData.int 2, pt p]) pl ++ (List.map (fun p => PyData.tuple [PyData.int 3, pt p]) pl ++ List.map (fun b => PyData.tuple [PyData.int 4, bx b]) bs)) = all.map QnT := by
    refine ⟨(0, .tuple []) :: (1, .tuple []) :: (pl.map (fun p => ((2 : Int), pt p)) ++ (pl.map (fun p => ((3 : Int), pt p)) ++ bs.map fun b => ((4 : Int), bx b))), by simp, fun t ht => ?_, ?_⟩
    · simp only [List.mem_cons, List.mem_append, List.mem_map] at ht
      rcases ht with rfl | rfl | ⟨p, _, rfl⟩ | ⟨p, _, rfl⟩ | ⟨b, _, rfl⟩
      · exact .points
      · exact .pairs
      · exact .below p
      · exact .above p
      · exact .box b
    · rw [List.map_cons, List.map_cons, List.map_append, List.map_append, List.map_map, List.map_map, List.map_map]
      rfl
  rw [heq]
  refine ⟨by omega, by omega, ?_⟩
  refine ev_loop (fun done ρ => LkT (C + done.length) ps (pl.length + (pl.length + bs.length) + 1 + 1 - done.length) (some (.p (.list (pl.map pt)))) (some (.p (.list (bs.map bx)))) ρ) ⟨ds, all, none, none, none, hd.mono (by simp), hok, by simpa using hall, rfl⟩ ?_ ?_
  · rintro done d r ρ ha ⟨ds1, l, x7, x8, x9, h1, hlo, hll, rfl⟩
    obtain ⟨rfl, hdn⟩ := rngD_at ha
    have hdl : done.length < pl.length + (pl.length + bs.length) + 1 + 1 := by omega
    simp -dsimp [tgName]
    refine spec_draw h1 (by omega) (by omega) (by omega) fun v d2 h2 v0 v1 => ?_
    obtain ⟨x, hx, hx2, hpp⟩ := pop_map (f := QnT) v0 v1 (by omega)
    obtain ⟨a, ha1, ha2, ha3, ha4⟩ := ans_is ps hn (hlo x (List.mem_of_getElem? hx2))
    obtain ⟨xw, xd⟩ := x
    simp -dsimp [hpp, QnT, tgTup, tgCons, tgNil, tgName, ha1, ha2, ha3]
    refine ⟨by omega, d2, l.eraseIdx v.toNat, _, _, _, h2.mono (by omega), fun t ht => hlo t (List.mem_of_mem_eraseIdx ht), by rw [List.length_eraseIdx_of_lt (by omega)]; omega, rfl⟩
  · rintro ρ ⟨ds1, l, x7, x8, x9, h1, hlo, hll, rfl⟩
    rw [B.rngD_len] at h1 hll
    simp -dsimp
    exact k ds1 (h1.mono (by omega))
@[simp] theorem bareE_nil : Pd.bareE [] = [] := rfl
@[simp] theorem bareE_cons {o : Option Sl} {r : Pd.Env} : Pd.bareE (o :: r) = o.map Sl.bare :: Pd.bareE r := rfl
@[simp] theorem bare_p {d : D} : (Sl.p d).bare = .p d := rfl
@[simp] theorem bare_ml {t : Option Nat} {l : List D} : (Sl.ml t l).bare = .ml none l := rfl
@[simp] theorem bare_md {t : Option Nat} {l : List (Key × D)} : (Sl.md t l).bare = .md none l := rfl
@[simp] theorem bare_mr {t : Option Nat} {l : List Sl} : (Sl.mr t l).bare = .mr none l := rfl
@[simp] theorem bare_ob {t : Option Nat} {c : Str} {ns : List Str} {l : List Sl} : (Sl.ob t c ns l).bare = .ob none c ns l := rfl
@[simp] theorem bare_hl {t : Option Nat} : (Sl.hl t).bare = .hl none := rfl
@[simp] theorem hlAll_nil {ρ : Pd.Env} : Pd.hlAll [] ρ = ρ := rfl
@[simp] theorem hlAll_cons {i : Nat} {is : List Nat} {ρ : Pd.Env} : Pd.hlAll (i :: is) ρ = Pd.hlAll is (ρ.set i (some (.hl none))) := rfl
@[simp] theorem pickQ_mr6 {j : Nat} {t u : Option Nat} {l m : List Sl} {ρ : Pd.Env} {Q : Rs → Pd.Env → Prop} {q : Nat} : pickQ j t l ρ Q (some (q, .mr u m)) = Q (.lent j (.mr t l) [q]) (ρ.set j (some (.hl t))) := rfl
@[simp] theorem pick2_0 {a b : Sl} : Pd.pickM [a, b] (some (.int 0)) = some (0, a) := rfl
@[simp] theorem pick2_1 {a b : Sl} : Pd.pickM [a, b] (some (.int 1)) = some (1, b) := rfl
abbrev R6 := List Str × List Pn
def rw6 (r : R6) : Sl := .mr none [kpS none r.2 (pairsN r.2), .md none (kvOf r.2), .p (.list (r.1.map .str))]
structure R6Ok (r : R6) : Prop where
  ws : r.1.length ≤ 60
  pos : 0 < r.1.length
  sp : ∀ w ∈ r.1, w ∈ spareL
  kp : KpOk r.1 r.2
theorem R6Ok.sub {r : R6} (h : R6Ok r) : KpOk spareL r.2 := ⟨h.kp.nd, fun x hx => h.sp x (h.kp.sub x hx)⟩
theorem R6Ok.len {r : R6} (h : R6Ok r) : r.2.length ≤ 60 := Nat.le_trans h.kp.len h.ws
theorem spec_deed6 {ds : List D} {r : R6} {C : Int} {Q : Sl → List Sl → Prop} (hd : SeedOk C ds) (hC : C < 2 ^ 55) (h : R6Ok r)
    (k : ∀ ps ds', SeedOk (C + 100) ds' → R6Ok (r.1, ps) → ∀ v, Q (.p v) [.ml none ds', kpS none ps (pairsN ps), .md none (kvOf ps), .p (.list (r.1.map .str))]) :
    Sp m_law_deed [.ml none ds, kpS none r.2 (pairsN r.2), .md none (kvOf r.2), .p (.list (r.1.map .str))] Q := by
  refine spec_deed hd hC h.kp h.pos h.ws fun ps' n' ds' h' hk hc v => ?_
  have e : n' = pairsN ps' := by
    rcases hc with ⟨rfl, rfl⟩ | ⟨p, hp, rfl, rfl⟩ | ⟨p, hp, rfl, rfl⟩ | ⟨p, hp, q, rfl, rfl⟩
    · rfl
    · rw [pairsN_app]
    · rw [pairsN_del h.kp.nd hp]
    · rw [pairsN_set h.kp.nd hp]
  rw [e]
  exact k ps' ds' h' ⟨h.ws, h.pos, h.sp, hk⟩ v
@[simp] theorem pickQ_k6 {j : Nat} {t u : Option Nat} {l : List Sl} {ρ : Pd.Env} {Q : Rs → Pd.Env → Prop} {q : Nat} {ps : List Pn} {n : Int} : pickQ j t l ρ Q (some (q, kpS u ps n)) = Q (.lent j (.mr t l) [q]) (ρ.set j (some (.hl t))) := pickQ_ob
@[simp] theorem bare_k6 {t : Option Nat} {ps : List Pn} {n : Int} : (kpS t ps n).bare = kpS none ps n := rfl
theorem ev_ixM_lent {ρ : Pd.Env} {j q : Nat} {w c : Sl} {ks : List Nat} {i : Rs} {t tg : Option Nat} {l : List Sl} {Q : Rs → Pd.Env → Prop} (h1 : w.kid ks = some (.mr tg l)) (h2 : ρ[j]? = some (some (.hl t))) (h3 : Pd.pickM l (i.view ρ) = some (q, c)) (h4 : c.flat = false) (h5 : c.big = true) (h : Q (.lent j w (ks ++ [q])) ρ) : Ev (Pd.oIxM [.lent j w ks, i]) ρ Q := by
  refine ⟨_, _, ?_, h⟩
  unfold Pd.oIxM
  simp only [h1, h2, h3, h4, h5]
  rfl
def L6 (x0 : Option Sl) (ρ : Pd.Env) : Prop := ∃ (x1 x2 x3 x4 x5 x6 x7 x8 x9 x10 x11 x12 x13 x14 : Option Sl), Pd.B.slotP (some x4) = true ∧
  ρ = [x0, x1, x2, x3, x4, x5, x6, x7, x8, x9, x10, x11, x12, x13, x14]
def P6 (C : Int) (n : Nat) (x0 x1 : Option Sl) (ρ : Pd.Env) : Prop := ∃ (ds : List D) (rs : List R6) (x4 x5 x6 x7 x8 x9 x10 x11 x12 x13 x14 : Option Sl), SeedOk C ds ∧ rs.length = n ∧ (∀ r ∈ rs, R6Ok r) ∧ Pd.B.slotP (some x4) = true ∧
  ρ = [x0, x1, some (.ml none ds), some (.mr none (rs.map rw6)), x4, x5, x6, x7, x8, x9, x10, x11, x12, x13, x14]
def D6 (C : Int) (rs : List R6) (ws : List Str) (x0 x1 x7 x8 x9 x10 x11 x12 x13 x14 : Option Sl) (ρ : Pd.Env) : Prop := ∃ (ds : List D) (ps : List Pn) (x6 : Option Sl), SeedOk C ds ∧ R6Ok (ws, ps) ∧
  ρ = [x0, x1, some (.ml none ds), some (.mr none (rs.map rw6 ++ [rw6 (ws, ps)])), some (.p (.int (rs.length : Nat))), some (.p (.list (ws.map .str))), x6, x7, x8, x9, x10, x11, x12, x13, x14]
def Pc6 (C : Int) (x0 x1 x3 x5 x6 : Option Sl) (pts : List Pn) (x8 x9 x10 x11 x12 x13 x14 : Option Sl) (n : Nat) (acc : List D) (ρ : Pd.Env) : Prop := ∃ (ds : List D) (pl : List (Int × Int)) (x4 : Option Sl), SeedOk C ds ∧ pl.length = n ∧ acc = pl.map pt ∧
  ρ = [x0, x1, some (.ml none ds), x3, x4, x5, x6, some (.p (.tuple (pts.map ptn))), x8, x9, x10, x11, x12, x13, x14]
def Bc6 (C : Int) (x0 x1 x3 x5 x6 : Option Sl) (pts : List Pn) (x8 x9 x10 x11 x12 x13 x14 : Option Sl) (n : Nat) (acc : List D) (ρ : Pd.Env) : Prop := ∃ (ds : List D) (bs : List (Int × Int × Int × Int)) (x4 : Option Sl), SeedOk C ds ∧ bs.length = n ∧ acc = bs.map bx ∧
  ρ = [x0, x1, some (.ml none ds), x3, x4, x5, x6, some (.p (.tuple (pts.map ptn))), x8, x9, x10, x11, x12, x13, x14]
def M6 (C : Int) (x0 x1 x7 : Option Sl) (pl : List (Int × Int)) (bs : List (Int × Int × Int × Int)) (ρ : Pd.Env) : Prop := ∃ (ds : List D) (r0 r1 : R6) (x4 x5 x6 x8 x9 x10 x11 x12 x13 x14 : Option Sl), SeedOk C ds ∧ R6Ok r0 ∧ R6Ok r1 ∧
  (x8 = some (.ml none (pl.map pt)) ∨ x8 = some (.p (.list (pl.map pt)))) ∧ (x9 = some (.ml none (bs.map bx)) ∨ x9 = some (.p (.list (bs.map bx)))) ∧ Pd.B.slotP (some x4) = true ∧
  ρ = [x0, x1, some (.ml none ds), some (.mr none [rw6 r0, rw6 r1]), x4, x5, x6, x7, x8, x9, x10, x11, x12, x13, x14]
def T6 (C : Int) (ws : List Str) (x0 x1 x4 x7 x8 x9 x12 x13 x14 : Option Sl) (ρ : Pd.Env) : Prop := ∃ (ds : List D) (ps : List Pn) (x6 : Option Sl), SeedOk C ds ∧ R6Ok (ws, ps) ∧
  ρ = [x0, x1, some (.ml none ds), some (.hl (some 3)), x4, some (.p (.list (ws.map .str))), x6, x7, x8, x9, some (kpS (some 0) ps (pairsN ps)), some (.md (some 1) (kvOf ps)), x12, x13, x14]
theorem e8b {x : Option Sl} {pl : List (Int × Int)} (h : x = some (.ml none (pl.map pt)) ∨ x = some (.p (.list (pl.map pt)))) : (x.map Sl.bare = some (.ml none (pl.map pt)) ∨ x.map Sl.bare = some (.p (.list (pl.map pt)))) := by
  rcases h with rfl | rfl
  · exact Or.inl rfl
  · exact Or.inr rfl
theorem e9b {x : Option Sl} {bs : List (Int × Int × Int × Int)} (h : x = some (.ml none (bs.map bx)) ∨ x = some (.p (.list (bs.map bx)))) : (x.map Sl.bare = some (.ml none (bs.map bx)) ∨ x.map Sl.bare = some (.p (.list (bs.map bx)))) := by
  rcases h with rfl | rfl
  · exact Or.inl rfl
  · exact Or.inr rfl
def F6 (C : Int) (a b : R6) (x0 x1 x7 : Option Sl) (pl : List (Int × Int)) (bs : List (Int × Int × Int × Int)) (l : List Sl) (ρ : Pd.Env) : Prop := l = [rw6 a, rw6 b] ∧ ∃ (ds : List D) (x3 x4 x5 x6 x8 x9 x10 x11 x12 x13 x14 : Option Sl), SeedOk C ds ∧
  (x8 = some (.ml none (pl.map pt)) ∨ x8 = some (.p (.list (pl.map pt)))) ∧ (x9 = some (.ml none (bs.map bx)) ∨ x9 = some (.p (.list (bs.map bx)))) ∧ Pd.B.slotP (some x4) = true ∧
  ρ = [x0, x1, some (.ml none ds), x3, x4, x5, x6, x7, x8, x9, x10, x11, x12, x13, x14]
theorem p4b {x : Option Sl} (h : Pd.B.slotP (some x) = true) : Pd.B.slotP (some (x.map Sl.bare)) = true := by
  cases x with
  | none => rfl
  | some s => cases s <;> first | rfl | cases h
theorem law_run : ∀ ns : List Int, ns.length ≤ 63 → Sp m_law [.p (.list (ns.map .int))] fun r ss' => r = .p (.bool true) := by
  intro ns hn
  unfold m_law
  rw [sp_mkF]
  simp -dsimp [g_law]
  refine spec_folded hn fun v => ?_
  simp -dsimp
  refine ⟨by omega, ?_⟩
  rw [← List.map_take, show [PyData.int v] = [v].map PyData.int from rfl, ← List.map_append]
  refine ev_loop (fun _ ρ => L6 (some (.p (.list (ns.map .int)))) ρ) ⟨none, none, none, none, none, none, none, none, none, none, none, none, none, none, rfl, rfl⟩ ?_ ?_
  · rintro done d r ρ ha ⟨x1, x2, x3, x4, x5, x6, x7, x8, x9, x10, x11, x12, x13, x14, p4, rfl⟩
    obtain ⟨c, _, rfl, hdn, _⟩ := map_at ha
    simp -dsimp [tgName]
    refine spec_seed fun ds hd => ?_
    simp -dsimp
    refine ev_loop (fun done ρ => P6 (10000 * done.length) done.length (some (.p (.list (ns.map .int)))) (some (.p (.int c))) ρ) ⟨ds, [], x4, x5, x6, x7, x8, x9, x10, x11, x12, x13, x14, hd.mono (by simp), rfl, by simp, p4, rfl⟩ ?_ ?_
    · rintro done2 d r ρ ha ⟨ds1, rs, x4, x5, x6, x7, x8, x9, x10, x11, x12, x13, x14, h1, hrl, hro, p4, rfl⟩
      obtain ⟨rfl, hdn2⟩ := rngD_at (a := 0) (n := 2) ha
      simp -dsimp [tgName]
      refine spec_draw h1 (by omega) (by omega) (by omega) fun u d2 h2 u0 u1 => ?_
      obtain ⟨m, hm, m0, m1⟩ : ∃ m : Int, atI [PyData.int 6, .int 60] u = some (.int m) ∧ 6 ≤ m ∧ m ≤ 60 := by
        rcases (by omega : u = 0 ∨ u = 1) with e | e <;> subst e <;> exact ⟨_, rfl, by omega, by omega⟩
      simp -dsimp [hm]
      refine spec_draw h2 (by omega) (by omega) (by omega) fun q d3 h3 q0 q1 => ?_
      simp -dsimp
      refine spec_names h3 (by omega) (by omega) (by omega) fun ws d4 h4 hwl hnd hsp => ?_
      simp -dsimp
      refine (spec_kept _).mpr ?_
      simp -dsimp
      refine ev_Rappend ?_
      simp -dsimp
      refine ⟨none, rs.map rw6, ⟨rfl, rfl⟩, by rw [List.length_map, hrl]; omega, ?_⟩
      refine spec_draw h4 (by omega) (by omega) (by omega) fun t d5 h5 t0 t1 => ?_
      simp -dsimp
      have hp0 : 0 < ws.length := by omega
      have okr : R6Ok (ws, []) := ⟨by show ws.length ≤ 60; omega, hp0, hsp, KpOk.nil ws⟩
      have hb6 : Pd.B.slotP (some x6) = true ∨ True := Or.inr trivial
      refine ⟨⟨by omega, by omega⟩, ?_⟩
      refine ev_loop (fun done ρ => D6 (10000 * done2.length + 200 + 100 * done.length) rs ws (some (.p (.list (ns.map .int)))) (some (.p (.int c))) x7 x8 x9 x10 x11 x12 x13 x14 ρ) ⟨d5, [], x6, h5.mono (by simp; omega), okr, by rw [hrl]; rfl⟩ ?_ ?_
      · rintro done3 d r ρ ha ⟨ds6, ps, x6', h6, ok6, rfl⟩
        obtain ⟨rfl, hdn3⟩ := rngD_at ha
        simp -dsimp [tgName]
        refine ev_callP (k := rs.length) (a := kpS none ps (pairsN ps)) (b := .md none (kvOf ps)) (c := .p (.list (ws.map .str))) rfl rfl rfl rfl ?_ ?_ ⟨by decide, rfl, rfl⟩ ?_
        · show ixN _ _ = _
          unfold ixN
          rw [List.length_append, List.length_map, List.length_singleton, if_pos (by omega), if_pos (by omega)]
          rfl
        · rw [List.getElem?_append_right (by rw [List.length_map]; exact Nat.le_refl _), List.length_map, Nat.sub_self]
          rfl
        refine spec_deed6 (r := (ws, ps)) h6 (by omega) ok6 fun ps' ds7 h7 ok7 v => ?_
        refine ⟨_, _, _, _, rfl, ?_⟩
        have hset : (rs.map rw6 ++ [rw6 (ws, ps)]).set rs.length (.mr none [kpS none ps' (pairsN ps'), .md none (kvOf ps'), .p (.list (ws.map .str))]) = rs.map rw6 ++ [rw6 (ws, ps')] := by
          rw [List.set_append_right _ _ (by rw [List.length_map]; exact Nat.le_refl _), List.length_map, Nat.sub_self]
          rfl
        rw [hset]
        simp -dsimp
        exact ⟨ds7, ps', _, h7.mono (by omega), ok7, rfl⟩
      · rintro ρ ⟨ds6, ps, x6', h6, ok6, rfl⟩
        rw [B.rngD_len] at h6
        simp -dsimp
        refine ⟨ds6, rs ++ [(ws, ps)], _, _, _, _, _, _, _, _, _, _, _, h6.mono (by omega), by rw [List.length_append, hrl]; rfl, fun r hr => ?_, ?_, by rw [List.map_append]; rfl⟩
        · rw [List.mem_append, List.mem_singleton] at hr
          rcases hr with hr | rfl
          · exact hro r hr
          · exact ok6
        · rfl
    · rintro ρ ⟨ds1, rs, x4, x5, x6, x7, x8, x9, x10, x11, x12, x13, x14, h1, hrl, hro, p4, rfl⟩
      obtain ⟨r0, r1, rfl⟩ : ∃ r0 r1, rs = [r0, r1] := by
        match rs, hrl with
        | [r0, r1], _ => exact ⟨r0, r1, rfl⟩
      have ok0 := hro r0 (by simp)
      have ok1 := hro r1 (by simp)
      have l0 := ok0.len
      have l1 := ok1.len
      have hr0 := fun Q => spec_lrows6 r0.2 (by omega) Q
      have hr1 := fun Q => spec_lrows6 r1.2 (by omega) Q
      simp -dsimp [rw6]
      refine ev_ixM_lent (q := 1) (c := .md none (kvOf r0.2)) rfl rfl rfl rfl rfl ?_
      simp -dsimp [hr0]
      refine ev_ixM_lent (q := 1) (c := .md none (kvOf r1.2)) rfl rfl rfl rfl rfl ?_
      simp -dsimp [hr1]
      rw [← List.map_append]
      have hpl : (r0.2 ++ r1.2).length ≤ 200 := by rw [List.length_append]; omega
      refine ⟨by omega, ?_⟩
      have hrr : ∀ r : R6, Sl.mr none [kpS none r.2 (pairsN r.2), .md none (kvOf r.2), .p (.list (r.1.map .str))] = rw6 r := fun r => rfl
      rw [hrr, hrr]
      generalize r0.2 ++ r1.2 = pts at *
      refine ⟨p4, ?_⟩
      refine ev_comp (fun done acc ρ => Pc6 (20000 + 100 * done.length) (some (.p (.list (ns.map .int)))) (some (.p (.int c))) (some (.mr none [rw6 r0, rw6 r1])) x5 x6 pts x8 x9 x10 x11 x12 x13 x14 done.length acc ρ) ⟨ds1, [], x4, h1.mono (by simp), rfl, rfl, rfl⟩ ?_ ?_
      · rintro done d r acc ρ ha ⟨ds2, pl, x4', h2, hpl2, rfl, rfl⟩
        obtain ⟨kk, _, rfl, hdn, _⟩ := map_at (f := PyData.int) (l := [0, 1]) ha
        have hdn : done.length < 2 := hdn
        simp -dsimp [tgName]
        refine spec_place h2 hpl (by omega) fun x y ds3 h3 => ?_
        simp -dsimp
        exact ⟨by omega, ds3, pl ++ [(x, y)], _, h3.mono (by omega), by simp [hpl2], by rw [List.map_append]; rfl, rfl⟩
      · rintro acc ρ ⟨ds2, pl, x4', h2, hpl2, rfl, rfl⟩
        have hpl2 : pl.length = 2 := hpl2
        simp -dsimp
        refine ⟨p4, ?_⟩
        refine ev_comp (fun done acc ρ => Bc6 (21000 + 100 * done.length) (some (.p (.list (ns.map .int)))) (some (.p (.int c))) (some (.mr none [rw6 r0, rw6 r1])) x5 x6 pts (some (.ml none (pl.map pt))) x9 x10 x11 x12 x13 x14 done.length acc ρ) ⟨ds2, [], x4, h2.mono (by simp), rfl, rfl, rfl⟩ ?_ ?_
        · rintro done d r acc ρ ha ⟨ds3, bs, x4'', h3, hbl, rfl, rfl⟩
          obtain ⟨kk, _, rfl, hdn, _⟩ := map_at (f := PyData.int) (l := [0, 1]) ha
          have hdn : done.length < 2 := hdn
          simp -dsimp [tgName]
          refine spec_box h3 hpl (by omega) fun b ds4 h4 => ?_
          simp -dsimp
          exact ⟨by omega, ds4, bs ++ [b], _, h4.mono (by omega), by simp [hbl], by rw [List.map_append]; rfl, rfl⟩
        · rintro acc ρ ⟨ds3, bs, x4'', h3, hbl, rfl, rfl⟩
          have hbl : bs.length = 2 := hbl
          simp -dsimp
          refine ev_loop (fun done ρ => M6 (22000 + 10000 * done.length) (some (.p (.list (ns.map .int)))) (some (.p (.int c))) (some (.p (.tuple (pts.map ptn)))) pl bs ρ) ⟨ds3, r0, r1, x4, x5, x6, _, _, x10, x11, x12, x13, x14, h3.mono (by simp), ok0, ok1, Or.inl rfl, Or.inl rfl, p4, rfl⟩ ?_ ?_
          · rintro done4 d r ρ ha ⟨ds4, r0, r1, x4, x5, x6, x8, x9, x10, x11, x12, x13, x14, h4, ok0, ok1, e8, e9, p4, rfl⟩
            obtain ⟨rfl, hdn4⟩ := rngD_at (a := 0) (n := 8) ha
            simp -dsimp [tgName]
            refine ev_unpR (t := none) (l := [rw6 r0, rw6 r1]) rfl ?_
            simp -dsimp
            refine spec_draw h4 (by omega) (by omega) (by omega) fun u ds5 h5 u0 u1 => ?_
            simp -dsimp
            obtain ⟨k, r, hk, hl, okr, hfin⟩ : ∃ (k : Nat) (r : R6), ixN 2 u = some k ∧ [rw6 r0, rw6 r1][k]? = some (rw6 r) ∧ R6Ok r ∧ ∀ r', R6Ok r' → ∃ a b, R6Ok a ∧ R6Ok b ∧ [rw6 r0, rw6 r1].set k (rw6 r') = [rw6 a, rw6 b] := by
              rcases (by omega : u = 0 ∨ u = 1) with e | e <;> subst e
              · exact ⟨0, r0, rfl, rfl, ok0, fun r' ok => ⟨r', r1, ok, ok1, rfl⟩⟩
              · exact ⟨1, r1, rfl, rfl, ok1, fun r' ok => ⟨r0, r', ok0, ok, rfl⟩⟩
            refine ⟨k, hk, _, hl, by simp, ?_⟩
            refine pt_of rfl rfl ?_
            simp -dsimp
            refine spec_draw h5 (by omega) (by omega) (by omega) fun u2 ds6 h6 u20 u21 => ?_
            obtain ⟨m, hm, m0, m1⟩ : ∃ m : Int, atI [PyData.int 2, .int 13] u2 = some (.int m) ∧ 2 ≤ m ∧ m ≤ 13 := by
              rcases (by omega : u2 = 0 ∨ u2 = 1) with e | e <;> subst e <;> exact ⟨_, rfl, by omega, by omega⟩
            simp -dsimp [hm]
            refine spec_draw h6 (by omega) (by omega) (by omega) fun q ds7 h7 q0 q1 => ?_
            simp -dsimp
            refine ⟨⟨by omega, by omega⟩, ?_⟩
            have e8' : Option.map Sl.bare x8 = x8 := by rcases e8 with rfl | rfl <;> rfl
            have e9' : Option.map Sl.bare x9 = x9 := by rcases e9 with rfl | rfl <;> rfl
            rw [e8', e9']
            refine ev_loop (fun done ρ => T6 (22000 + 10000 * done4.length + 50 + 100 * done.length) r.1 (some (.p (.list (ns.map .int)))) (some (.p (.int c))) (some (.p (.int (done4.length : Nat)))) (some (.p (.tuple (pts.map ptn)))) x8 x9 (Option.map Sl.bare x12) (Option.map Sl.bare x13) (Option.map Sl.bare x14) ρ) ⟨ds7, r.2, _, h7.mono (by simp; omega), okr, rfl⟩ ?_ ?_
            · rintro done5 d r' ρ ha ⟨ds8, ps, x6', h8, ok8, rfl⟩
              obtain ⟨rfl, hdn5⟩ := rngD_at ha
              simp -dsimp [tgName]
              refine spec_deed6 (r := (r.1, ps)) h8 (by omega) ok8 fun ps' ds9 h9 ok9 v => ?_
              simp -dsimp
              exact ⟨ds9, ps', _, h9.mono (by omega), ok9, rfl⟩
            · rintro ρ ⟨ds8, ps, x6', h8, ok8, rfl⟩
              rw [B.rngD_len] at h8
              simp -dsimp [-ev_gIf]
              refine Ev.mono (Q := fun fl ρ1 => fl = .nx ∧ T6 (22000 + 10000 * done4.length + 2000) r.1 (some (.p (.list (ns.map .int)))) (some (.p (.int c))) (some (.p (.int (done4.length : Nat)))) (some (.p (.tuple (pts.map ptn)))) x8 x9 (Option.map Sl.bare x12) (Option.map Sl.bare x13) (Option.map Sl.bare x14) ρ1) ?_ ?_
              · simp -dsimp
                refine spec_draw h8 (by omega) (by omega) (by omega) fun b ds9 h9 b0 b1 => ?_
                by_cases hb : b = 0
                · subst hb
                  simp -dsimp
                  refine spec_refused6 h9 (by omega) ok8.len ok8.sub fun ds10 h10 => ?_
                  simp -dsimp
                  exact ⟨ds10, ps, _, h10.mono (by omega), ok8, rfl⟩
                · simp -dsimp [hb]
                  exact ⟨ds9, ps, _, h9.mono (by omega), ok8, rfl⟩
              · rintro fl ρ1 ⟨rfl, ds9, ps, x6', h9, ok9, rfl⟩
                obtain ⟨a, b, oka, okb, hset⟩ := hfin (r.1, ps) ok9
                refine ⟨rfl, rfl, _, _, rfl, rfl, by simp, ?_⟩
                have hset2 : [rw6 r0, rw6 r1].set k (Sl.mr none [kpS none ps (pairsN ps), .md none (kvOf ps), .p (.list (r.1.map .str))]) = [rw6 a, rw6 b] := hset
                simp -dsimp [hset2]
                refine ev_forR (t := none) (l := [rw6 a, rw6 b]) rfl (fun n l ρ => F6 (22000 + 10000 * done4.length + 2000 + 1000 * n) a b (some (.p (.list (ns.map .int)))) (some (.p (.int c))) (some (.p (.tuple (pts.map ptn)))) pl bs l ρ) ⟨rfl, ds9, _, _, _, _, _, _, _, _, _, _, _, h9.mono (by simp), e8b e8, e9b e9, rfl, rfl⟩ ?_ ?_
                · rintro n l1 ρ1 hn1 ⟨rfl, ds10, x3, x4, x5, x6, x8, x9, x10, x11, x12, x13, x14, h10, e8, e9, p4, rfl⟩
                  have hn1 : n < 2 := hn1
                  obtain ⟨r, hl, okr, hset⟩ : ∃ r : R6, [rw6 a, rw6 b][n]? = some (rw6 r) ∧ R6Ok r ∧ [rw6 a, rw6 b].set n (rw6 r) = [rw6 a, rw6 b] := by
                    rcases (by omega : n = 0 ∨ n = 1) with e | e <;> subst e
                    · exact ⟨a, rfl, oka, rfl⟩
                    · exact ⟨b, rfl, okb, rfl⟩
                  refine ⟨_, hl, by simp, ?_⟩
                  refine pt_of rfl rfl ?_
                  have hlen := okr.len
                  have e8 := e8b e8
                  have e9 := e9b e9
                  have p4 := p4b p4
                  have hset2 : [rw6 a, rw6 b].set n (Sl.mr none [kpS none r.2 (pairsN r.2), .md none (kvOf r.2), .p (.list (r.1.map .str))]) = [rw6 a, rw6 b] := hset
                  simp -dsimp
                  generalize Option.map Sl.bare x8 = y8 at *
                  generalize Option.map Sl.bare x9 = y9 at *
                  generalize Option.map Sl.bare x4 = y4 at *
                  rcases e8 with rfl | rfl <;> rcases e9 with rfl | rfl
                  all_goals
                    simp -dsimp
                    refine spec_looked6 h10 (by omega) (by omega) (by omega) (by omega) fun ds11 h11 => ?_
                    simp -dsimp
                    refine ⟨rfl, _, _, rfl, ?_⟩
                    simp -dsimp [hset2]
                    exact ⟨rfl, ds11, _, _, _, _, _, _, _, _, _, _, _, h11.mono (by omega), Or.inr rfl, Or.inr rfl, p4b p4, rfl⟩
                · rintro l' ρ' ⟨rfl, ds10, x3, x4, x5, x6, x8, x9, x10, x11, x12, x13, x14, h10, e8, e9, p4, rfl⟩
                  simp -dsimp
                  exact ⟨ds10, a, b, x4, x5, x6, x8, x9, x10, x11, x12, x13, x14, h10.mono (by simp; omega), oka, okb, e8, e9, p4, rfl⟩
          · rintro ρ ⟨ds4, r0, r1, x4, x5, x6, x8, x9, x10, x11, x12, x13, x14, h4, ok0, ok1, e8, e9, p4, rfl⟩
            simp -dsimp
            refine ev_forR (t := none) (l := [rw6 r0, rw6 r1]) rfl (fun n l ρ => F6 (200000 + 1000 * n) r0 r1 (some (.p (.list (ns.map .int)))) (some (.p (.int c))) (some (.p (.tuple (pts.map ptn)))) pl bs l ρ) ⟨rfl, ds4, _, _, _, _, _, _, _, _, _, _, _, h4.mono (by simp), e8, e9, p4, rfl⟩ ?_ ?_
            · rintro n l1 ρ1 hn1 ⟨rfl, ds10, x3, x4, x5, x6, x8, x9, x10, x11, x12, x13, x14, h10, e8, e9, p4, rfl⟩
              have hn1 : n < 2 := hn1
              obtain ⟨r, hl, okr, hset⟩ : ∃ r : R6, [rw6 r0, rw6 r1][n]? = some (rw6 r) ∧ R6Ok r ∧ [rw6 r0, rw6 r1].set n (rw6 r) = [rw6 r0, rw6 r1] := by
                rcases (by omega : n = 0 ∨ n = 1) with e | e <;> subst e
                · exact ⟨r0, rfl, ok0, rfl⟩
                · exact ⟨r1, rfl, ok1, rfl⟩
              refine ⟨_, hl, by simp, ?_⟩
              refine pt_of rfl rfl ?_
              have hlen := okr.len
              have e8 := e8b e8
              have e9 := e9b e9
              have p4 := p4b p4
              have haf := fun Q => spec_afresh6 r.2 (by omega) okr.kp.nd Q
              have hset2 : [rw6 r0, rw6 r1].set n (Sl.mr none [kpS none r.2 (pairsN r.2), .md none (kvOf r.2), .p (.list (r.1.map .str))]) = [rw6 r0, rw6 r1] := hset
              simp -dsimp [haf]
              generalize Option.map Sl.bare x8 = y8 at *
              generalize Option.map Sl.bare x9 = y9 at *
              generalize Option.map Sl.bare x4 = y4 at *
              rcases e8 with rfl | rfl <;> rcases e9 with rfl | rfl
              all_goals
                simp -dsimp
                refine spec_looked6 h10 (by omega) (by omega) (by omega) (by omega) fun ds11 h11 => ?_
                simp -dsimp
                refine ⟨rfl, _, _, rfl, ?_⟩
                simp -dsimp [hset2]
                exact ⟨rfl, ds11, _, _, _, _, _, _, _, _, _, _, _, h11.mono (by omega), Or.inr rfl, Or.inr rfl, p4b p4, rfl⟩
            · rintro l' ρ' ⟨rfl, ds10, x3, x4, x5, x6, x8, x9, x10, x11, x12, x13, x14, h10, e8, e9, p4, rfl⟩
              simp -dsimp
              exact ⟨_, _, _, _, _, _, _, _, _, _, _, _, _, _, p4, rfl⟩
  · rintro ρ ⟨x1, x2, x3, x4, x5, x6, x7, x8, x9, x10, x11, x12, x13, x14, p4, rfl⟩
    simp -dsimp
theorem law_true : ∀ ns : List Int, ns.length ≤ 63 → ∃ ss', m_law [.p (.list (ns.map .int))] = some (.p (.bool true), ss') := by
  intro ns hn
  obtain ⟨r, ss', h, rfl⟩ := law_run ns hn
  exact ⟨ss', h⟩
abbrev s_law_folded : Stmt := top 17
theorem sc_law_folded : FnScope ["script", "found", "cell"] ["script"] (defScope s_law_folded) := ⟨rfl, rfl, rfl, by decide +kernel, rfl, by decide +kernel, by decide +kernel⟩
theorem c_law_folded {P : Program} {w : World} {K : PySem.W.Frag} {mg : Str → Option Value} {base : Heap} {f : Addr} {fd : FuncData} (F : Fun K "_law_folded" "_law_folded" s_law_folded f fd) (hm : mg "_law_folded" = some (.ref f)) (z_len : mg "len" = none) : Callee P w K mg base 1 "_law_folded" 1 m_law_folded :=
  ⟨f, fd, ["script"], fn_ok F sc_law_folded rfl (fun cdv A outer s H E vs0 hr =>
    (dss_cons (ds_set (i := 1) sc_law_folded.nd rfl (Or.inl rfl) (de_callB call_len oLen_ok (by rfl) z_len (by decide +kernel) (da_cons (de_var (pv 0)) da_nil)))
    (dss_cons (ds_for PassesOwn.never rfl (di_seq (de_var (pv 0))) (dg_name (i := 2) sc_law_folded.nd rfl (Or.inl rfl))
    (dss_one (ds_set (i := 1) sc_law_folded.nd rfl (Or.inl rfl) (de_op op_mod oMod_ok (de_op op_addAll oAdd_ok (de_op op_mul2 oMul2_ok (de_var (pv 1)) de_int) (de_op op_mod oMod_ok (de_var (pv 2)) de_int)) de_int))))
    (dss_one (ds_ret (de_var (pv 1))))))), hm, F.kp, F.binds fun _ _ _ _ _ _ us hl => match us, hl with | [_], _ => rfl⟩
abbrev s_law_seed : Stmt := top 18
theorem sc_law_seed : FnScope ["cell", "number"] ["cell"] (defScope s_law_seed) := ⟨rfl, rfl, rfl, by decide +kernel, rfl, by decide +kernel, by decide +kernel⟩
theorem c_law_seed {P : Program} {w : World} {K : PySem.W.Frag} {mg : Str → Option Value} {base : Heap} {f : Addr} {fd : FuncData} (F : Fun K "_law_seed" "_law_seed" s_law_seed f fd) (hm : mg "_law_seed" = some (.ref f)) (z_max : mg "max" = none) (z_int : mg "int" = none) : Callee P w K mg base 1 "_law_seed" 1 m_law_seed :=
  ⟨f, fd, ["cell"], fn_ok F sc_law_seed rfl (fun cdv A outer s H E vs0 hr =>
    (dss_cons (ds_set (i := 1) sc_law_seed.nd rfl (Or.inl rfl) (de_callB (cr_maxA rfl) oMax_ok (by rfl) z_max (by decide +kernel) (da_cons (de_var (pv 0)) (da_cons (de_op op_sub oSub_ok de_int (de_var (pv 0))) da_nil))))
    (dss_one (ds_ret (de_lst (da_cons (de_var (pv 1)) (da_cons (de_callTy call_int1 oInt1_ok (by rfl) z_int (by decide +kernel) (da_cons (de_cmp op_ge oCmpI_ok (de_var (pv 1)) (de_fold (d := .int 1000000000000000000) (de_op op_pow oPow_ok de_int de_int) (fun _ => rfl)) (nomark _)) da_nil)) (da_cons de_int (da_cons (de_op op_mod oMod_ok (de_var (pv 0)) de_int) da_nil))))))))), hm, F.kp, F.binds fun _ _ _ _ _ _ us hl => match us, hl with | [_], _ => rfl⟩
abbrev s_law_draw : Stmt := top 19
theorem sc_law_draw : FnScope ["seed", "most", "found", "number"] ["seed", "most"] (defScope s_law_draw) := ⟨rfl, rfl, rfl, by decide +kernel, rfl, by decide +kernel, by decide +kernel⟩
theorem c_law_draw {P : Program} {w : World} {K : PySem.W.Frag} {mg : Str → Option Value} {base : Heap} {f : Addr} {fd : FuncData} (F : Fun K "_law_draw" "_law_draw" s_law_draw f fd) (hm : mg "_law_draw" = some (.ref f)) : Callee P w K mg base 1 "_law_draw" 2 m_law_draw :=
  ⟨f, fd, ["seed", "most"], fn_ok F sc_law_draw rfl (fun cdv A outer s H E vs0 hr =>
    (dss_cons (ds_sub (de_op op_addAll oAdd_ok (de_ix ix_seq oIx_ok (de_var (pv 0)) de_int (fun _ _ => rfl)) de_int) (de_var (pv 0)) de_int)
    (dss_cons (ds_if (dw_and (dt_cmp (op_eqP hr.units) oEq_ok (de_ix ix_seq oIx_ok (de_var (pv 0)) de_int (fun _ _ => rfl)) de_int (nomark _)) (dw_and1 (dt_cmp op_gt oCmpI_ok (de_ix ix_seq oIx_ok (de_var (pv 0)) de_int (fun _ _ => rfl)) de_int (nomark _)))).pt
    (dss_cons (ds_set (i := 2) sc_law_draw.nd rfl (Or.inl rfl) (de_op op_mod oMod_ok (de_ix ix_seq oIx_ok (de_var (pv 0)) de_int (fun _ _ => rfl)) (de_var (pv 1))))
    (dss_cons (ds_sub (de_op op_fdivW oDiv_ok (de_ix ix_seq oIx_ok (de_var (pv 0)) de_int (fun _ _ => rfl)) (de_var (pv 1))) (de_var (pv 0)) de_int)
    (dss_one (ds_ret (de_var (pv 2))))))
    dss_nil)
    (dss_cons (ds_set (i := 3) sc_law_draw.nd rfl (Or.inl rfl) (de_op op_mod oMod_ok (de_op op_mul2 oMul2_ok (de_op op_addAll oAdd_ok (de_op op_addAll oAdd_ok (de_ix ix_seq oIx_ok (de_var (pv 0)) de_int (fun _ _ => rfl)) (de_op op_mul2 oMul2_ok de_int (de_ix ix_seq oIx_ok (de_var (pv 0)) de_int (fun _ _ => rfl)))) de_int) de_int) de_int))
    (dss_cons (ds_set (i := 3) sc_law_draw.nd rfl (Or.inl rfl) (de_op op_mod oMod_ok (de_op op_mul2 oMul2_ok (de_op op_mod oMod_ok (de_op op_mul2 oMul2_ok (de_var (pv 3)) (de_var (pv 3))) de_int) de_int) de_int))
    (dss_one (ds_ret (de_op op_mod oMod_ok (de_op op_fdivW oDiv_ok (de_var (pv 3)) de_int) (de_var (pv 1)))))))))), hm, F.kp, F.binds fun _ _ _ _ _ _ us hl => match us, hl with | [_, _], _ => rfl⟩
abbrev s_law_names : Stmt := top 21
theorem sc_law_names : FnScope ["seed", "many", "letters", "spare", "sign", "k"] ["seed", "many"] (defScope s_law_names) := ⟨rfl, rfl, rfl, by decide +kernel, rfl, by decide +kernel, by decide +kernel⟩
theorem c_law_names {P : Program} {w : World} {K : PySem.W.Frag} {mg : Str → Option Value} {base : Heap} {f : Addr} {fd : FuncData} (F : Fun K "_law_names" "_law_names" s_law_names f fd) (hm : mg "_law_names" = some (.ref f)) (z_range : mg "range" = none) (z_len : mg "len" = none) (C_law_draw : Callee P w K mg base 1 "_law_draw" 2 m_law_draw) : Callee P w K mg base 2 "_law_names" 2 m_law_names :=
  ⟨f, fd, ["seed", "many"], fn_ok F sc_law_names rfl (fun cdv A outer s H E vs0 hr =>
    (dss_cons (ds_set (i := 2) sc_law_names.nd rfl (Or.inl rfl) de_str)
    (dss_cons (ds_set (i := 3) sc_law_names.nd rfl (Or.inr rfl) (de_op op_addAll oAdd_ok (de_op op_addAll oAdd_ok (de_lc rfl sc_law_names.nd (di_seq (de_var (pv 2))) (blkOk_by (own := [(("sign" : Str), 4)]) (by kernel_rfl)) (by decide) (fun _ _ _ _ _ => (dg_name (i := 4) sc_law_names.nd rfl (Or.inl rfl))) (fun _ _ _ _ _ => dts_nil) (fun _ _ _ _ _ => (de_var (pv 4)))) (de_lc rfl sc_law_names.nd (di_seq (de_var (pv 2))) (blkOk_by (own := [(("sign" : Str), 4)]) (by kernel_rfl)) (by decide) (fun _ _ _ _ _ => (dg_name (i := 4) sc_law_names.nd rfl (Or.inl rfl))) (fun _ _ _ _ _ => dts_nil) (fun _ _ _ _ _ => (de_op op_addAll oAdd_ok (de_var (pv 4)) de_str)))) (de_lc rfl sc_law_names.nd (di_seq (de_var (pv 2))) (blkOk_by (own := [(("sign" : Str), 4)]) (by kernel_rfl)) (by decide) (fun _ _ _ _ _ => (dg_name (i := 4) sc_law_names.nd rfl (Or.inl rfl))) (fun _ _ _ _ _ => dts_nil) (fun _ _ _ _ _ => (de_op op_addAll oAdd_ok de_str (de_var (pv 4)))))))
    (dss_cons (ds_set (i := 3) sc_law_names.nd rfl (Or.inr rfl) (de_op op_addAll oAdd_ok (de_var (pv 3)) (de_lst (da_cons de_str (da_cons de_str (da_cons de_str (da_cons de_str (da_cons de_str (da_cons de_str (da_cons de_str (da_cons de_str (da_cons de_str (da_cons de_str da_nil)))))))))))))
    (dss_cons (ds_set (i := 3) sc_law_names.nd rfl (Or.inr rfl) (de_op op_addAll oAdd_ok (de_var (pv 3)) (de_lst (da_cons de_str (da_cons de_str (da_cons de_str (da_cons de_str (da_cons de_str (da_cons de_str (da_cons de_str da_nil))))))))))
    (dss_one (ds_ret (de_lc rfl sc_law_names.nd (di_range1 (by rfl) z_range (da_cons (de_var (pv 1)) da_nil)) (blkOk_by (own := [(("k" : Str), 5)]) (by kernel_rfl)) (by decide) (fun _ _ _ _ _ => (dg_name (i := 5) sc_law_names.nd rfl (Or.inl rfl))) (fun _ _ _ _ _ => dts_nil) (fun _ _ _ _ _ => (de_m_pop1 (de_var (pv 3)) (da_cons (de_use C_law_draw (hr.mono (by decide)) (by rfl) (da_cons (de_var (pv 0)) (da_cons (de_fz (de_callB call_len oLen_ok (by rfl) z_len (by decide +kernel) (da_cons (de_var (pv 3)) da_nil))) da_nil))) da_nil))))))))))), hm, F.kp, F.binds fun _ _ _ _ _ _ us hl => match us, hl with | [_, _], _ => rfl⟩
abbrev s_KeptPoints___init__ : Stmt := inClass (top 11) 0
theorem sc_KeptPoints___init__ : FnScope ["self"] ["self"] (defScope s_KeptPoints___init__) := ⟨rfl, rfl, rfl, by decide +kernel, rfl, by decide +kernel, by decide +kernel⟩
theorem c_KeptPoints___init__ {P : Program} {w : World} {K : PySem.W.Frag} {mg : Str → Option Value} {base : Heap} {f : Addr} {fd : FuncData} {C : Addr} (F : Fun K "__init__" "KeptPoints.__init__" s_KeptPoints___init__ f fd) (hC : PySem.W.nsIn K mainGlobals "KeptPoints" = some (some (.ref C))) (mk : Mk K C f) (hm : mg "KeptPoints" = some (.ref C)) (A_KeptPoints_places : AttrIs K "KeptPoints" "places") (A_KeptPoints_counted : AttrIs K "KeptPoints" "counted") : CalleeC P w K mg base 1 "KeptPoints" "KeptPoints" 1 m_KeptPoints___init__ :=
  ⟨C, f, fd, ["self"], hC, mk, fn_ok F sc_KeptPoints___init__ rfl (fun cdv A outer s H E vs0 hr =>
    (dss_cons (ds_attr A_KeptPoints_places (pv 0) de_dnew)
    (dss_one (ds_attr A_KeptPoints_counted (pv 0) de_int)))), hm, F.binds fun _ _ _ _ _ _ us hl => match us, hl with | [_], _ => rfl⟩
abbrev s_law_number : Stmt := top 20
theorem sc_law_number : FnScope ["seed", "way", "great"] ["seed", "way"] (defScope s_law_number) := ⟨rfl, rfl, rfl, by decide +kernel, rfl, by decide +kernel, by decide +kernel⟩
theorem c_law_number {P : Program} {w : World} {K : PySem.W.Frag} {mg : Str → Option Value} {base : Heap} {f : Addr} {fd : FuncData} (F : Fun K "_law_number" "_law_number" s_law_number f fd) (hm : mg "_law_number" = some (.ref f)) (z_int : mg "int" = none) (C_law_draw : Callee P w K mg base 1 "_law_draw" 2 m_law_draw) : Callee P w K mg base 2 "_law_number" 2 m_law_number :=
  ⟨f, fd, ["seed", "way"], fn_ok F sc_law_number rfl (fun cdv A outer s H E vs0 hr =>
    (dss_cons (ds_if (dt_cmp (op_eqP hr.units) oEq_ok (de_var (pv 1)) de_int (nomark _))
    (dss_one (ds_ret (de_op op_sub oSub_ok (de_use C_law_draw (hr.mono (by decide)) (by rfl) (da_cons (de_var (pv 0)) (da_cons de_int da_nil))) de_int)))
    dss_nil)
    (dss_cons (ds_if (dt_cmp (op_eqP hr.units) oEq_ok (de_var (pv 1)) de_int (nomark _))
    (dss_one (ds_ret (de_op op_sub oSub_ok (de_use C_law_draw (hr.mono (by decide)) (by rfl) (da_cons (de_var (pv 0)) (da_cons de_int da_nil))) de_int)))
    dss_nil)
    (dss_cons (ds_set (i := 2) sc_law_number.nd rfl (Or.inl rfl) (de_ix ix_seq oIx_ok (de_lst (da_cons (de_op op_addAll oAdd_ok (de_op op_mul2 oMul2_ok (de_use C_law_draw (hr.mono (by decide)) (by rfl) (da_cons (de_var (pv 0)) (da_cons (de_fz (de_fold (d := .int 100000) (de_op op_pow oPow_ok de_int de_int) (fun _ => rfl))) da_nil))) (de_fold (d := .int 100000) (de_op op_pow oPow_ok de_int de_int) (fun _ => rfl))) (de_use C_law_draw (hr.mono (by decide)) (by rfl) (da_cons (de_var (pv 0)) (da_cons (de_fz (de_fold (d := .int 100000) (de_op op_pow oPow_ok de_int de_int) (fun _ => rfl))) da_nil)))) (da_cons (de_fold (d := .int 9999999999) (de_op op_sub oSub_ok (de_fold (d := .int 10000000000) (de_op op_pow oPow_ok de_int de_int) (fun _ => rfl)) de_int) (fun _ => rfl)) da_nil))) (de_callTy call_int1 oInt1_ok (by rfl) z_int (by decide +kernel) (da_cons (de_cmp (op_eqP hr.units) oEq_ok (de_use C_law_draw (hr.mono (by decide)) (by rfl) (da_cons (de_var (pv 0)) (da_cons de_int da_nil))) de_int (nomark _)) da_nil)) (fun _ _ => rfl)))
    (dss_one (ds_ret (de_op op_mul2 oMul2_ok (de_ix ix_seq oIx_ok (de_lst (da_cons de_int (da_cons (de_fold (d := .int (-1)) (de_neg de_int) (fun _ => rfl)) da_nil))) (de_use C_law_draw (hr.mono (by decide)) (by rfl) (da_cons (de_var (pv 0)) (da_cons de_int da_nil))) (fun _ _ => rfl)) (de_var (pv 2))))))))), hm, F.kp, F.binds fun _ _ _ _ _ _ us hl => match us, hl with | [_, _], _ => rfl⟩
abbrev s_law_near : Stmt := top 22
theorem sc_law_near : FnScope ["seed", "numbers", "found"] ["seed", "numbers"] (defScope s_law_near) := ⟨rfl, rfl, rfl, by decide +kernel, rfl, by decide +kernel, by decide +kernel⟩
theorem c_law_near {P : Program} {w : World} {K : PySem.W.Frag} {mg : Str → Option Value} {base : Heap} {f : Addr} {fd : FuncData} (F : Fun K "_law_near" "_law_near" s_law_near f fd) (hm : mg "_law_near" = some (.ref f)) (z_len : mg "len" = none) (z_min : mg "min" = none) (z_max : mg "max" = none) (C_law_draw : Callee P w K mg base 1 "_law_draw" 2 m_law_draw) (C_law_number : Callee P w K mg base 2 "_law_number" 2 m_law_number) : Callee P w K mg base 3 "_law_near" 2 m_law_near :=
  ⟨f, fd, ["seed", "numbers"], fn_ok F sc_law_near rfl (fun cdv A outer s H E vs0 hr =>
    (dss_cons (ds_if (dw_or (dt_cmp (op_eqP hr.units) oEq_ok (de_var (pv 1)) (de_tup da_nil) (nomark _)) (dw_or1 (dt_cmp (op_eqP hr.units) oEq_ok (de_use C_law_draw (hr.mono (by decide)) (by rfl) (da_cons (de_var (pv 0)) (da_cons de_int da_nil))) de_int (nomark _)))).pt
    (dss_one (ds_ret (de_use C_law_number (hr.mono (by decide)) (by rfl) (da_cons (de_var (pv 0)) (da_cons (de_fz (de_use C_law_draw (hr.mono (by decide)) (by rfl) (da_cons (de_var (pv 0)) (da_cons de_int da_nil)))) da_nil)))))
    dss_nil)
    (dss_cons (ds_set (i := 2) sc_law_near.nd rfl (Or.inl rfl) (de_op op_sub oSub_ok (de_op op_addAll oAdd_ok (de_ix ix_seq oIx_ok (de_var (pv 1)) (de_use C_law_draw (hr.mono (by decide)) (by rfl) (da_cons (de_var (pv 0)) (da_cons (de_fz (de_callB call_len oLen_ok (by rfl) z_len (by decide +kernel) (da_cons (de_var (pv 1)) da_nil))) da_nil))) (fun _ _ => rfl)) (de_use C_law_draw (hr.mono (by decide)) (by rfl) (da_cons (de_var (pv 0)) (da_cons de_int da_nil)))) de_int))
    (dss_one (ds_ret (de_callB (cr_maxA rfl) oMax_ok (by rfl) z_max (by decide +kernel) (da_cons (de_fold (d := .int (-9999999999)) (de_op op_sub oSub_ok de_int (de_fold (d := .int 10000000000) (de_op op_pow oPow_ok de_int de_int) (fun _ => rfl))) (fun _ => rfl)) (da_cons (de_callB (cr_minA rfl) oMin_ok (by rfl) z_min (by decide +kernel) (da_cons (de_fold (d := .int 9999999999) (de_op op_sub oSub_ok (de_fold (d := .int 10000000000) (de_op op_pow oPow_ok de_int de_int) (fun _ => rfl)) de_int) (fun _ => rfl)) (da_cons (de_var (pv 2)) da_nil))) da_nil)))))))), hm, F.kp, F.binds fun _ _ _ _ _ _ us hl => match us, hl with | [_, _], _ => rfl⟩
abbrev s_law_place : Stmt := top 23
theorem sc_law_place : FnScope ["seed", "points", "xs", "ys", "name", "x", "y"] ["seed", "points"] (defScope s_law_place) := ⟨rfl, rfl, rfl, by decide +kernel, rfl, by decide +kernel, by decide +kernel⟩
theorem c_law_place {P : Program} {w : World} {K : PySem.W.Frag} {mg : Str → Option Value} {base : Heap} {f : Addr} {fd : FuncData} (F : Fun K "_law_place" "_law_place" s_law_place f fd) (hm : mg "_law_place" = some (.ref f)) (z_len : mg "len" = none) (z_tuple : mg "tuple" = none) (C_law_draw : Callee P w K mg base 1 "_law_draw" 2 m_law_draw) (C_law_near : Callee P w K mg base 3 "_law_near" 2 m_law_near) : Callee P w K mg base 4 "_law_place" 2 m_law_place :=
  ⟨f, fd, ["seed", "points"], fn_ok F sc_law_place rfl (fun cdv A outer s H E vs0 hr =>
    (dss_cons (ds_if (dw_and (dt_cmp (op_neP hr.units) oNe_ok (de_var (pv 1)) (de_tup da_nil) (nomark _)) (dw_and1 (dt_cmp (op_eqP hr.units) oEq_ok (de_use C_law_draw (hr.mono (by decide)) (by rfl) (da_cons (de_var (pv 0)) (da_cons de_int da_nil))) de_int (nomark _)))).pt
    (dss_one (ds_ret (de_slice (de_ix ix_seq oIx_ok (de_var (pv 1)) (de_use C_law_draw (hr.mono (by decide)) (by rfl) (da_cons (de_var (pv 0)) (da_cons (de_fz (de_callB call_len oLen_ok (by rfl) z_len (by decide +kernel) (da_cons (de_var (pv 1)) da_nil))) da_nil))) (fun _ _ => rfl)) (do_some de_int) do_none)))
    dss_nil)
    (dss_cons (ds_set (i := 2) sc_law_place.nd rfl (Or.inl rfl) (de_callTy call_tuple_of oTupOf_ok (by rfl) z_tuple (by decide +kernel) (da_cons (de_lc rfl sc_law_place.nd (di_seq (de_var (pv 1))) (blkOk_by (own := [(("name" : Str), 4), (("x" : Str), 5), (("y" : Str), 6)]) (by kernel_rfl)) (by decide) (fun _ _ _ _ _ => (dg_tup rfl (dgs_cons (dg_name (i := 4) sc_law_place.nd rfl (Or.inl rfl)) (dgs_cons (dg_name (i := 5) sc_law_place.nd rfl (Or.inl rfl)) (dgs_cons (dg_name (i := 6) sc_law_place.nd rfl (Or.inl rfl)) dgs_nil))))) (fun _ _ _ _ _ => dts_nil) (fun _ _ _ _ _ => (de_var (pv 5)))) da_nil)))
    (dss_cons (ds_set (i := 3) sc_law_place.nd rfl (Or.inl rfl) (de_callTy call_tuple_of oTupOf_ok (by rfl) z_tuple (by decide +kernel) (da_cons (de_lc rfl sc_law_place.nd (di_seq (de_var (pv 1))) (blkOk_by (own := [(("name" : Str), 4), (("x" : Str), 5), (("y" : Str), 6)]) (by kernel_rfl)) (by decide) (fun _ _ _ _ _ => (dg_tup rfl (dgs_cons (dg_name (i := 4) sc_law_place.nd rfl (Or.inl rfl)) (dgs_cons (dg_name (i := 5) sc_law_place.nd rfl (Or.inl rfl)) (dgs_cons (dg_name (i := 6) sc_law_place.nd rfl (Or.inl rfl)) dgs_nil))))) (fun _ _ _ _ _ => dts_nil) (fun _ _ _ _ _ => (de_var (pv 6)))) da_nil)))
    (dss_one (ds_ret (de_tup (da_cons (de_use C_law_near (hr.mono (by decide)) (by rfl) (da_cons (de_var (pv 0)) (da_cons (de_fz (de_var (pv 2))) da_nil))) (da_cons (de_use C_law_near (hr.mono (by decide)) (by rfl) (da_cons (de_var (pv 0)) (da_cons (de_fz (de_var (pv 3))) da_nil))) da_nil))))))))), hm, F.kp, F.binds fun _ _ _ _ _ _ us hl => match us, hl with | [_, _], _ => rfl⟩
abbrev s_in_corner : Stmt := top 6
theorem sc_in_corner : FnScope ["points", "x", "y", "name", "one", "other"] ["points", "x", "y"] (defScope s_in_corner) := ⟨rfl, rfl, rfl, by decide +kernel, rfl, by decide +kernel, by decide +kernel⟩
theorem c_in_corner {P : Program} {w : World} {K : PySem.W.Frag} {mg : Str → Option Value} {base : Heap} {f : Addr} {fd : FuncData} (F : Fun K "in_corner" "in_corner" s_in_corner f fd) (hm : mg "in_corner" = some (.ref f)) (z_len : mg "len" = none) : Callee P w K mg base 1 "in_corner" 3 m_in_corner :=
  ⟨f, fd, ["points", "x", "y"], fn_ok F sc_in_corner rfl (fun cdv A outer s H E vs0 hr =>
    (dss_one (ds_ret (de_callB call_len oLen_ok (by rfl) z_len (by decide +kernel) (da_cons (de_lc rfl sc_in_corner.nd (di_seq (de_var (pv 0))) (blkOk_by (own := [(("name" : Str), 3), (("one" : Str), 4), (("other" : Str), 5)]) (by kernel_rfl)) (by decide) (fun _ _ _ _ _ => (dg_tup rfl (dgs_cons (dg_name (i := 3) sc_in_corner.nd rfl (Or.inl rfl)) (dgs_cons (dg_name (i := 4) sc_in_corner.nd rfl (Or.inl rfl)) (dgs_cons (dg_name (i := 5) sc_in_corner.nd rfl (Or.inl rfl)) dgs_nil))))) (fun _ _ _ _ _ => (dts_one (dw_and (dt_cmp op_le oCmpI_ok (de_var (pv 4)) (de_var (pv 1)) (nomark _)) (dw_and1 (dt_cmp op_le oCmpI_ok (de_var (pv 5)) (de_var (pv 2)) (nomark _)))).pt)) (fun _ _ _ _ _ => (de_var (pv 3)))) da_nil))))), hm, F.kp, F.binds fun _ _ _ _ _ _ us hl => match us, hl with | [_, _, _], _ => rfl⟩
abbrev s_KeptPoints_points_now : Stmt := inClass (top 11) 6
theorem sc_KeptPoints_points_now : FnScope ["self", "name", "x", "y"] ["self"] (defScope s_KeptPoints_points_now) := ⟨rfl, rfl, rfl, by decide +kernel, rfl, by decide +kernel, by decide +kernel⟩
theorem c_KeptPoints_points_now {P : Program} {w : World} {K : PySem.W.Frag} {mg : Str → Option Value} {base : Heap} {f : Addr} {fd : FuncData} {C : Addr} (F : Fun K "points_now" "KeptPoints.points_now" s_KeptPoints_points_now f fd) (hC : PySem.W.nsIn K mainGlobals "KeptPoints" = some (some (.ref C))) (cl : Cls K C) (me : Meth K C "points_now" f) (z_tuple : mg "tuple" = none) (A_KeptPoints_places : AttrIs K "KeptPoints" "places") : CalleeM P w K mg base 1 "KeptPoints" "points_now" 1 m_KeptPoints_points_now :=
  ⟨C, f, fd, ["self"], hC, cl, me, fn_ok F sc_KeptPoints_points_now rfl (fun cdv A outer s H E vs0 hr =>
    (dss_one (ds_ret (de_callTy call_tuple_of oTupOf_ok (by rfl) z_tuple (by decide +kernel) (da_cons (de_lcAItems A_KeptPoints_places rfl sc_KeptPoints_points_now.nd (pv 0) (blkOk_by (own := [(("name" : Str), 1), (("x" : Str), 2), (("y" : Str), 3)]) (by kernel_rfl)) (by decide) (fun _ _ _ _ _ => (dg_tup rfl (dgs_cons (dg_name (i := 1) sc_KeptPoints_points_now.nd rfl (Or.inl rfl)) (dgs_cons (dg_tup rfl (dgs_cons (dg_name (i := 2) sc_KeptPoints_points_now.nd rfl (Or.inl rfl)) (dgs_cons (dg_name (i := 3) sc_KeptPoints_points_now.nd rfl (Or.inl rfl)) dgs_nil))) dgs_nil)))) (fun _ _ _ _ _ => dts_nil) (fun _ _ _ _ _ => (de_tup (da_cons (de_var (pv 1)) (da_cons (de_var (pv 2)) (da_cons (de_var (pv 3)) da_nil)))))) da_nil))))), F.binds fun _ _ _ _ _ _ us hl => match us, hl with | [_], _ => rfl⟩
abbrev s_KeptPoints_below_now : Stmt := inClass (top 11) 7
theorem sc_KeptPoints_below_now : FnScope ["self", "x", "y", "same", "place"] ["self", "x", "y"] (defScope s_KeptPoints_below_now) := ⟨rfl, rfl, rfl, by decide +kernel, rfl, by decide +kernel, by decide +kernel⟩
theorem c_KeptPoints_below_now {P : Program} {w : World} {K : PySem.W.Frag} {mg : Str → Option Value} {base : Heap} {f : Addr} {fd : FuncData} {C : Addr} (F : Fun K "below_now" "KeptPoints.below_now" s_KeptPoints_below_now f fd) (hC : PySem.W.nsIn K mainGlobals "KeptPoints" = some (some (.ref C))) (cl : Cls K C) (me : Meth K C "below_now" f) (z_len : mg "len" = none) (C_in_corner : Callee P w K mg base 1 "in_corner" 3 m_in_corner) (C_KeptPoints_points_now : CalleeM P w K mg base 1 "KeptPoints" "points_now" 1 m_KeptPoints_points_now) (A_KeptPoints_places : AttrIs K "KeptPoints" "places") : CalleeM P w K mg base 2 "KeptPoints" "below_now" 3 m_KeptPoints_below_now :=
  ⟨C, f, fd, ["self", "x", "y"], hC, cl, me, fn_ok F sc_KeptPoints_below_now rfl (fun cdv A outer s H E vs0 hr =>
    (dss_cons (ds_set (i := 3) sc_KeptPoints_below_now.nd rfl (Or.inl rfl) (de_callB call_len oLen_ok (by rfl) z_len (by decide +kernel) (da_cons (de_lcAVals A_KeptPoints_places rfl sc_KeptPoints_below_now.nd (pv 0) (blkOk_by (own := [(("place" : Str), 4)]) (by kernel_rfl)) (by decide) (fun _ _ _ _ _ => (dg_name (i := 4) sc_KeptPoints_below_now.nd rfl (Or.inl rfl))) (fun _ _ _ _ _ => (dts_one (dt_cmp (op_eqP hr.units) oEq_ok (de_var (pv 4)) (de_tup (da_cons (de_var (pv 1)) (da_cons (de_var (pv 2)) da_nil))) (nomark _)))) (fun _ _ _ _ _ => de_int)) da_nil)))
    (dss_one (ds_ret (de_op op_sub oSub_ok (de_use C_in_corner (hr.mono (by decide)) (by rfl) (da_cons (de_fz (de_meth0 C_KeptPoints_points_now (hr.mono (by decide)) (de_var (pv 0)))) (da_cons (de_var (pv 1)) (da_cons (de_var (pv 2)) da_nil)))) (de_var (pv 3))))))), F.binds fun _ _ _ _ _ _ us hl => match us, hl with | [_, _, _], _ => rfl⟩
abbrev s_lies_below : Stmt := top 9
theorem sc_lies_below : FnScope ["one", "other"] ["one", "other"] (defScope s_lies_below) := ⟨rfl, rfl, rfl, by decide +kernel, rfl, by decide +kernel, by decide +kernel⟩
theorem c_lies_below {P : Program} {w : World} {K : PySem.W.Frag} {mg : Str → Option Value} {base : Heap} {f : Addr} {fd : FuncData} (F : Fun K "lies_below" "lies_below" s_lies_below f fd) (hm : mg "lies_below" = some (.ref f)) : Callee P w K mg base 1 "lies_below" 2 m_lies_below :=
  ⟨f, fd, ["one", "other"], fn_ok F sc_lies_below rfl (fun cdv A outer s H E vs0 hr =>
    (dss_one (ds_ret (de_and (de_cmp (op_neP hr.units) oNe_ok (de_var (pv 0)) (de_var (pv 1)) (nomark _)) (de_and (de_cmp op_le oCmpI_ok (de_ix ix_seq oIx_ok (de_var (pv 0)) de_int (fun _ _ => rfl)) (de_ix ix_seq oIx_ok (de_var (pv 1)) de_int (fun _ _ => rfl)) (nomark _)) (de_one (de_cmp op_le oCmpI_ok (de_ix ix_seq oIx_ok (de_var (pv 0)) de_int (fun _ _ => rfl)) (de_ix ix_seq oIx_ok (de_var (pv 1)) de_int (fun _ _ => rfl)) (nomark _)))))))), hm, F.kp, F.binds fun _ _ _ _ _ _ us hl => match us, hl with | [_, _], _ => rfl⟩
abbrev s_KeptPoints_above_now : Stmt := inClass (top 11) 8
theorem sc_KeptPoints_above_now : FnScope ["self", "x", "y", "place"] ["self", "x", "y"] (defScope s_KeptPoints_above_now) := ⟨rfl, rfl, rfl, by decide +kernel, rfl, by decide +kernel, by decide +kernel⟩
theorem c_KeptPoints_above_now {P : Program} {w : World} {K : PySem.W.Frag} {mg : Str → Option Value} {base : Heap} {f : Addr} {fd : FuncData} {C : Addr} (F : Fun K "above_now" "KeptPoints.above_now" s_KeptPoints_above_now f fd) (hC : PySem.W.nsIn K mainGlobals "KeptPoints" = some (some (.ref C))) (cl : Cls K C) (me : Meth K C "above_now" f) (z_len : mg "len" = none) (C_lies_below : Callee P w K mg base 1 "lies_below" 2 m_lies_below) (A_KeptPoints_places : AttrIs K "KeptPoints" "places") : CalleeM P w K mg base 2 "KeptPoints" "above_now" 3 m_KeptPoints_above_now :=
  ⟨C, f, fd, ["self", "x", "y"], hC, cl, me, fn_ok F sc_KeptPoints_above_now rfl (fun cdv A outer s H E vs0 hr =>
    (dss_one (ds_ret (de_callB call_len oLen_ok (by rfl) z_len (by decide +kernel) (da_cons (de_lcAVals A_KeptPoints_places rfl sc_KeptPoints_above_now.nd (pv 0) (blkOk_by (own := [(("place" : Str), 3)]) (by kernel_rfl)) (by decide) (fun _ _ _ _ _ => (dg_name (i := 3) sc_KeptPoints_above_now.nd rfl (Or.inl rfl))) (fun _ _ _ _ _ => (dts_one (dt_val (de_use C_lies_below (hr.mono (by decide)) (by rfl) (da_cons (de_tup (da_cons (de_var (pv 1)) (da_cons (de_var (pv 2)) da_nil))) (da_cons (de_fz (de_var (pv 3))) da_nil)))))) (fun _ _ _ _ _ => de_int)) da_nil))))), F.binds fun _ _ _ _ _ _ us hl => match us, hl with | [_, _, _], _ => rfl⟩
abbrev s_KeptPoints_count_in : Stmt := inClass (top 11) 2
theorem sc_KeptPoints_count_in : FnScope ["self", "place", "by"] ["self", "place", "by"] (defScope s_KeptPoints_count_in) := ⟨rfl, rfl, rfl, by decide +kernel, rfl, by decide +kernel, by decide +kernel⟩
theorem c_KeptPoints_count_in {P : Program} {w : World} {K : PySem.W.Frag} {mg : Str → Option Value} {base : Heap} {f : Addr} {fd : FuncData} {C : Addr} (F : Fun K "count_in" "KeptPoints.count_in" s_KeptPoints_count_in f fd) (hC : PySem.W.nsIn K mainGlobals "KeptPoints" = some (some (.ref C))) (cl : Cls K C) (me : Meth K C "count_in" f) (C_KeptPoints_below_now : CalleeM P w K mg base 2 "KeptPoints" "below_now" 3 m_KeptPoints_below_now) (C_KeptPoints_above_now : CalleeM P w K mg base 2 "KeptPoints" "above_now" 3 m_KeptPoints_above_now) (A_KeptPoints_counted : AttrIs K "KeptPoints" "counted") : CalleeM P w K mg base 3 "KeptPoints" "count_in" 3 m_KeptPoints_count_in :=
  ⟨C, f, fd, ["self", "place", "by"], hC, cl, me, fn_ok F sc_KeptPoints_count_in rfl (fun cdv A outer s H E vs0 hr =>
    (dss_one (ds_attrAdd A_KeptPoints_counted (pv 0) (de_op op_mul2 oMul2_ok (de_var (pv 2)) (de_op op_addAll oAdd_ok (de_meth C_KeptPoints_below_now (hr.mono (by decide)) (de_var (pv 0)) (da_cons (de_ix ix_seq oIx_ok (de_var (pv 1)) de_int (fun _ _ => rfl)) (da_cons (de_ix ix_seq oIx_ok (de_var (pv 1)) de_int (fun _ _ => rfl)) da_nil))) (de_meth C_KeptPoints_above_now (hr.mono (by decide)) (de_var (pv 0)) (da_cons (de_ix ix_seq oIx_ok (de_var (pv 1)) de_int (fun _ _ => rfl)) (da_cons (de_ix ix_seq oIx_ok (de_var (pv 1)) de_int (fun _ _ => rfl)) da_nil)))))))), F.binds fun _ _ _ _ _ _ us hl => match us, hl with | [_, _, _], _ => rfl⟩
abbrev s_KeptPoints_put_point : Stmt := inClass (top 11) 3
theorem sc_KeptPoints_put_point : FnScope ["self", "name", "x", "y"] ["self", "name", "x", "y"] (defScope s_KeptPoints_put_point) := ⟨rfl, rfl, rfl, by decide +kernel, rfl, by decide +kernel, by decide +kernel⟩
theorem c_KeptPoints_put_point {P : Program} {w : World} {K : PySem.W.Frag} {mg : Str → Option Value} {base : Heap} {f : Addr} {fd : FuncData} {C : Addr} (F : Fun K "put_point" "KeptPoints.put_point" s_KeptPoints_put_point f fd) (hC : PySem.W.nsIn K mainGlobals "KeptPoints" = some (some (.ref C))) (cl : Cls K C) (me : Meth K C "put_point" f) (C_KeptPoints_count_in : CalleeM P w K mg base 3 "KeptPoints" "count_in" 3 m_KeptPoints_count_in) (A_KeptPoints_places : AttrIs K "KeptPoints" "places") : CalleeM P w K mg base 4 "KeptPoints" "put_point" 4 m_KeptPoints_put_point :=
  ⟨C, f, fd, ["self", "name", "x", "y"], hC, cl, me, fn_ok F sc_KeptPoints_put_point rfl (fun cdv A outer s H E vs0 hr =>
    (dss_cons (ds_if (dt_cmp (op_inDd hr.units) oInDL_ok (de_var (pv 1)) (de_attr A_KeptPoints_places (pv 0)) (by rfl))
    (dss_one ds_never)
    dss_nil)
    (dss_cons (ds_expr (de_meth C_KeptPoints_count_in (hr.mono (by decide)) (de_var (pv 0)) (da_cons (de_tup (da_cons (de_var (pv 2)) (da_cons (de_var (pv 3)) da_nil))) (da_cons de_int da_nil))))
    (dss_one (ds_putL hr.units (de_tup (da_cons (de_var (pv 2)) (da_cons (de_var (pv 3)) da_nil))) (de_attr A_KeptPoints_places (pv 0)) (de_var (pv 1))))))), F.binds fun _ _ _ _ _ _ us hl => match us, hl with | [_, _, _, _], _ => rfl⟩
abbrev s_KeptPoints_need_there : Stmt := inClass (top 11) 1
theorem sc_KeptPoints_need_there : FnScope ["self", "name"] ["self", "name"] (defScope s_KeptPoints_need_there) := ⟨rfl, rfl, rfl, by decide +kernel, rfl, by decide +kernel, by decide +kernel⟩
theorem c_KeptPoints_need_there {P : Program} {w : World} {K : PySem.W.Frag} {mg : Str → Option Value} {base : Heap} {f : Addr} {fd : FuncData} {C : Addr} (F : Fun K "need_there" "KeptPoints.need_there" s_KeptPoints_need_there f fd) (hC : PySem.W.nsIn K mainGlobals "KeptPoints" = some (some (.ref C))) (cl : Cls K C) (me : Meth K C "need_there" f) (A_KeptPoints_places : AttrIs K "KeptPoints" "places") : CalleeM P w K mg base 1 "KeptPoints" "need_there" 2 m_KeptPoints_need_there :=
  ⟨C, f, fd, ["self", "name"], hC, cl, me, fn_ok F sc_KeptPoints_need_there rfl (fun cdv A outer s H E vs0 hr =>
    (dss_one (ds_if (dt_cmp (op_niDd hr.units) oNiDL_ok (de_var (pv 1)) (de_attr A_KeptPoints_places (pv 0)) (by rfl))
    (dss_one ds_never)
    dss_nil))), F.binds fun _ _ _ _ _ _ us hl => match us, hl with | [_, _], _ => rfl⟩
abbrev s_KeptPoints_take_point : Stmt := inClass (top 11) 4
theorem sc_KeptPoints_take_point : FnScope ["self", "name"] ["self", "name"] (defScope s_KeptPoints_take_point) := ⟨rfl, rfl, rfl, by decide +kernel, rfl, by decide +kernel, by decide +kernel⟩
theorem c_KeptPoints_take_point {P : Program} {w : World} {K : PySem.W.Frag} {mg : Str → Option Value} {base : Heap} {f : Addr} {fd : FuncData} {C : Addr} (F : Fun K "take_point" "KeptPoints.take_point" s_KeptPoints_take_point f fd) (hC : PySem.W.nsIn K mainGlobals "KeptPoints" = some (some (.ref C))) (cl : Cls K C) (me : Meth K C "take_point" f) (C_KeptPoints_need_there : CalleeM P w K mg base 1 "KeptPoints" "need_there" 2 m_KeptPoints_need_there) (C_KeptPoints_count_in : CalleeM P w K mg base 3 "KeptPoints" "count_in" 3 m_KeptPoints_count_in) (A_KeptPoints_places : AttrIs K "KeptPoints" "places") : CalleeM P w K mg base 4 "KeptPoints" "take_point" 2 m_KeptPoints_take_point :=
  ⟨C, f, fd, ["self", "name"], hC, cl, me, fn_ok F sc_KeptPoints_take_point rfl (fun cdv A outer s H E vs0 hr =>
    (dss_cons (ds_expr (de_meth C_KeptPoints_need_there (hr.mono (by decide)) (de_var (pv 0)) (da_cons (de_var (pv 1)) da_nil)))
    (dss_one (ds_expr (de_meth C_KeptPoints_count_in (hr.mono (by decide)) (de_var (pv 0)) (da_cons (de_fz (de_dpop (de_attr A_KeptPoints_places (pv 0)) (de_var (pv 1)))) (da_cons (de_fold (d := .int (-1)) (de_neg de_int) (fun _ => rfl)) da_nil))))))), F.binds fun _ _ _ _ _ _ us hl => match us, hl with | [_, _], _ => rfl⟩
abbrev s_KeptPoints_move_point : Stmt := inClass (top 11) 5
theorem sc_KeptPoints_move_point : FnScope ["self", "name", "x", "y"] ["self", "name", "x", "y"] (defScope s_KeptPoints_move_point) := ⟨rfl, rfl, rfl, by decide +kernel, rfl, by decide +kernel, by decide +kernel⟩
theorem c_KeptPoints_move_point {P : Program} {w : World} {K : PySem.W.Frag} {mg : Str → Option Value} {base : Heap} {f : Addr} {fd : FuncData} {C : Addr} (F : Fun K "move_point" "KeptPoints.move_point" s_KeptPoints_move_point f fd) (hC : PySem.W.nsIn K mainGlobals "KeptPoints" = some (some (.ref C))) (cl : Cls K C) (me : Meth K C "move_point" f) (C_KeptPoints_need_there : CalleeM P w K mg base 1 "KeptPoints" "need_there" 2 m_KeptPoints_need_there) (C_KeptPoints_count_in : CalleeM P w K mg base 3 "KeptPoints" "count_in" 3 m_KeptPoints_count_in) (A_KeptPoints_places : AttrIs K "KeptPoints" "places") : CalleeM P w K mg base 4 "KeptPoints" "move_point" 4 m_KeptPoints_move_point :=
  ⟨C, f, fd, ["self", "name", "x", "y"], hC, cl, me, fn_ok F sc_KeptPoints_move_point rfl (fun cdv A outer s H E vs0 hr =>
    (dss_cons (ds_expr (de_meth C_KeptPoints_need_there (hr.mono (by decide)) (de_var (pv 0)) (da_cons (de_var (pv 1)) da_nil)))
    (dss_cons (ds_expr (de_meth C_KeptPoints_count_in (hr.mono (by decide)) (de_var (pv 0)) (da_cons (de_ix (ix_dict hr.units) oIxDL_ok (de_attr A_KeptPoints_places (pv 0)) (de_var (pv 1)) (fun _ _ => rfl)) (da_cons (de_fold (d := .int (-1)) (de_neg de_int) (fun _ => rfl)) da_nil))))
    (dss_cons (ds_putL hr.units (de_tup (da_cons (de_var (pv 2)) (da_cons (de_var (pv 3)) da_nil))) (de_attr A_KeptPoints_places (pv 0)) (de_var (pv 1)))
    (dss_one (ds_expr (de_meth C_KeptPoints_count_in (hr.mono (by decide)) (de_var (pv 0)) (da_cons (de_tup (da_cons (de_var (pv 2)) (da_cons (de_var (pv 3)) da_nil))) (da_cons de_int da_nil))))))))), F.binds fun _ _ _ _ _ _ us hl => match us, hl with | [_, _, _, _], _ => rfl⟩
abbrev s_law_deed : Stmt := top 25
theorem sc_law_deed : FnScope ["seed", "kept", "there", "names", "name", "points", "place", "way", "one"] ["seed", "kept", "there", "names"] (defScope s_law_deed) := ⟨rfl, rfl, rfl, by decide +kernel, rfl, by decide +kernel, by decide +kernel⟩
theorem c_law_deed {P : Program} {w : World} {K : PySem.W.Frag} {mg : Str → Option Value} {base : Heap} {f : Addr} {fd : FuncData} (F : Fun K "_law_deed" "_law_deed" s_law_deed f fd) (hm : mg "_law_deed" = some (.ref f)) (z_len : mg "len" = none) (z_tuple : mg "tuple" = none) (C_law_draw : Callee P w K mg base 1 "_law_draw" 2 m_law_draw) (C_law_place : Callee P w K mg base 4 "_law_place" 2 m_law_place) (C_KeptPoints_put_point : CalleeM P w K mg base 4 "KeptPoints" "put_point" 4 m_KeptPoints_put_point) (C_KeptPoints_take_point : CalleeM P w K mg base 4 "KeptPoints" "take_point" 2 m_KeptPoints_take_point) (C_KeptPoints_move_point : CalleeM P w K mg base 4 "KeptPoints" "move_point" 4 m_KeptPoints_move_point) : Callee P w K mg base 5 "_law_deed" 4 m_law_deed :=
  ⟨f, fd, ["seed", "kept", "there", "names"], fn_ok F sc_law_deed rfl (fun cdv A outer s H E vs0 hr =>
    (dss_cons (ds_set (i := 4) sc_law_deed.nd rfl (Or.inl rfl) (de_ix ix_seq oIx_ok (de_var (pv 3)) (de_use C_law_draw (hr.mono (by decide)) (by rfl) (da_cons (de_var (pv 0)) (da_cons (de_fz (de_callB call_len oLen_ok (by rfl) z_len (by decide +kernel) (da_cons (de_var (pv 3)) da_nil))) da_nil))) (fun _ _ => rfl)))
    (dss_cons (ds_set (i := 5) sc_law_deed.nd rfl (Or.inl rfl) (de_callTy call_tuple_of oTupOf_ok (by rfl) z_tuple (by decide +kernel) (da_cons (de_lock (j := 2) (de_lc rfl sc_law_deed.nd (di_items (de_var (pv 2))) (blkOk_by (own := [(("one" : Str), 8), (("place" : Str), 6)]) (by kernel_rfl)) (by decide) (fun _ _ _ _ _ => (dg_tup rfl (dgs_cons (dg_name (i := 8) sc_law_deed.nd rfl (Or.inl rfl)) (dgs_cons (dg_name (i := 6) sc_law_deed.nd rfl (Or.inl rfl)) dgs_nil)))) (fun _ _ _ _ _ => dts_nil) (fun _ _ _ _ _ => (de_op op_addAll oAdd_ok (de_tup (da_cons (de_var (pv 8)) da_nil)) (de_var (pv 6)))))) da_nil)))
    (dss_cons (ds_set (i := 6) sc_law_deed.nd rfl (Or.inl rfl) (de_use C_law_place (hr.mono (by decide)) (by rfl) (da_cons (de_var (pv 0)) (da_cons (de_fz (de_var (pv 5))) da_nil))))
    (dss_cons (ds_set (i := 7) sc_law_deed.nd rfl (Or.inl rfl) (de_use C_law_draw (hr.mono (by decide)) (by rfl) (da_cons (de_var (pv 0)) (da_cons de_int da_nil))))
    (dss_one (ds_if (dt_cmp (op_niDd hr.units) oNiD_ok (de_var (pv 4)) (de_var (pv 2)) (by rfl))
    (dss_cons (ds_expr (de_meth C_KeptPoints_put_point (hr.mono (by decide)) (de_var (pv 1)) (da_cons (de_fz (de_var (pv 4))) (da_cons (de_ix ix_seq oIx_ok (de_var (pv 6)) de_int (fun _ _ => rfl)) (da_cons (de_ix ix_seq oIx_ok (de_var (pv 6)) de_int (fun _ _ => rfl)) da_nil)))))
    (dss_one (ds_put hr.units (de_var (pv 6)) (de_var (pv 2)) (de_var (pv 4)))))
    (dss_one (ds_if (dt_cmp op_lt oCmpI_ok (de_var (pv 7)) de_int (nomark _))
    (dss_cons (ds_expr (de_meth C_KeptPoints_take_point (hr.mono (by decide)) (de_var (pv 1)) (da_cons (de_fz (de_var (pv 4))) da_nil)))
    (dss_one (ds_expr (de_dpop (de_var (pv 2)) (de_var (pv 4))))))
    (dss_one (ds_if (dt_cmp op_lt oCmpI_ok (de_var (pv 7)) de_int (nomark _))
    (dss_cons (ds_expr (de_meth C_KeptPoints_move_point (hr.mono (by decide)) (de_var (pv 1)) (da_cons (de_fz (de_var (pv 4))) (da_cons (de_ix ix_seq oIx_ok (de_var (pv 6)) de_int (fun _ _ => rfl)) (da_cons (de_ix ix_seq oIx_ok (de_var (pv 6)) de_int (fun _ _ => rfl)) da_nil)))))
    (dss_one (ds_put hr.units (de_var (pv 6)) (de_var (pv 2)) (de_var (pv 4)))))
    dss_nil))))))))))), hm, F.kp, F.binds fun _ _ _ _ _ _ us hl => match us, hl with | [_, _, _, _], _ => rfl⟩
abbrev s_law_rows : Stmt := top 26
theorem sc_law_rows : FnScope ["there", "name", "place"] ["there"] (defScope s_law_rows) := ⟨rfl, rfl, rfl, by decide +kernel, rfl, by decide +kernel, by decide +kernel⟩
theorem c_law_rows {P : Program} {w : World} {K : PySem.W.Frag} {mg : Str → Option Value} {base : Heap} {f : Addr} {fd : FuncData} (F : Fun K "_law_rows" "_law_rows" s_law_rows f fd) (hm : mg "_law_rows" = some (.ref f)) (z_tuple : mg "tuple" = none) : Callee P w K mg base 1 "_law_rows" 1 m_law_rows :=
  ⟨f, fd, ["there"], fn_ok F sc_law_rows rfl (fun cdv A outer s H E vs0 hr =>
    (dss_one (ds_ret (de_callTy call_tuple_of oTupOf_ok (by rfl) z_tuple (by decide +kernel) (da_cons (de_lock (j := 0) (de_lc rfl sc_law_rows.nd (di_items (de_var (pv 0))) (blkOk_by (own := [(("name" : Str), 1), (("place" : Str), 2)]) (by kernel_rfl)) (by decide) (fun _ _ _ _ _ => (dg_tup rfl (dgs_cons (dg_name (i := 1) sc_law_rows.nd rfl (Or.inl rfl)) (dgs_cons (dg_name (i := 2) sc_law_rows.nd rfl (Or.inl rfl)) dgs_nil)))) (fun _ _ _ _ _ => dts_nil) (fun _ _ _ _ _ => (de_op op_addAll oAdd_ok (de_tup (da_cons (de_var (pv 1)) da_nil)) (de_var (pv 2)))))) da_nil))))), hm, F.kp, F.binds fun _ _ _ _ _ _ us hl => match us, hl with | [_], _ => rfl⟩
abbrev s_law_box : Stmt := top 24
theorem sc_law_box : FnScope ["seed", "points", "one", "other", "low"] ["seed", "points"] (defScope s_law_box) := ⟨rfl, rfl, rfl, by decide +kernel, rfl, by decide +kernel, by decide +kernel⟩
theorem c_law_box {P : Program} {w : World} {K : PySem.W.Frag} {mg : Str → Option Value} {base : Heap} {f : Addr} {fd : FuncData} (F : Fun K "_law_box" "_law_box" s_law_box f fd) (hm : mg "_law_box" = some (.ref f)) (z_min : mg "min" = none) (z_max : mg "max" = none) (C_law_place : Callee P w K mg base 4 "_law_place" 2 m_law_place) (C_law_draw : Callee P w K mg base 1 "_law_draw" 2 m_law_draw) : Callee P w K mg base 5 "_law_box" 2 m_law_box :=
  ⟨f, fd, ["seed", "points"], fn_ok F sc_law_box rfl (fun cdv A outer s H E vs0 hr =>
    (dss_cons (ds_set (i := 2) sc_law_box.nd rfl (Or.inl rfl) (de_use C_law_place (hr.mono (by decide)) (by rfl) (da_cons (de_var (pv 0)) (da_cons (de_var (pv 1)) da_nil))))
    (dss_cons (ds_set (i := 3) sc_law_box.nd rfl (Or.inl rfl) (de_use C_law_place (hr.mono (by decide)) (by rfl) (da_cons (de_var (pv 0)) (da_cons (de_var (pv 1)) da_nil))))
    (dss_cons (ds_if (dt_cmp (op_eqP hr.units) oEq_ok (de_use C_law_draw (hr.mono (by decide)) (by rfl) (da_cons (de_var (pv 0)) (da_cons de_int da_nil))) de_int (nomark _))
    (dss_one (ds_ret (de_op op_addAll oAdd_ok (de_var (pv 2)) (de_var (pv 3)))))
    dss_nil)
    (dss_cons (ds_set (i := 4) sc_law_box.nd rfl (Or.inl rfl) (de_tup (da_cons (de_callB (cr_minA rfl) oMin_ok (by rfl) z_min (by decide +kernel) (da_cons (de_ix ix_seq oIx_ok (de_var (pv 2)) de_int (fun _ _ => rfl)) (da_cons (de_ix ix_seq oIx_ok (de_var (pv 3)) de_int (fun _ _ => rfl)) da_nil))) (da_cons (de_callB (cr_minA rfl) oMin_ok (by rfl) z_min (by decide +kernel) (da_cons (de_ix ix_seq oIx_ok (de_var (pv 2)) de_int (fun _ _ => rfl)) (da_cons (de_ix ix_seq oIx_ok (de_var (pv 3)) de_int (fun _ _ => rfl)) da_nil))) da_nil))))
    (dss_one (ds_ret (de_op op_addAll oAdd_ok (de_var (pv 4)) (de_tup (da_cons (de_callB (cr_maxA rfl) oMax_ok (by rfl) z_max (by decide +kernel) (da_cons (de_ix ix_seq oIx_ok (de_var (pv 2)) de_int (fun _ _ => rfl)) (da_cons (de_ix ix_seq oIx_ok (de_var (pv 3)) de_int (fun _ _ => rfl)) da_nil))) (da_cons (de_callB (cr_maxA rfl) oMax_ok (by rfl) z_max (by decide +kernel) (da_cons (de_ix ix_seq oIx_ok (de_var (pv 2)) de_int (fun _ _ => rfl)) (da_cons (de_ix ix_seq oIx_ok (de_var (pv 3)) de_int (fun _ _ => rfl)) da_nil))) da_nil))))))))))), hm, F.kp, F.binds fun _ _ _ _ _ _ us hl => match us, hl with | [_, _], _ => rfl⟩
abbrev s_KeptPoints_put_pointX : Stmt := inClass (top 11) 3
theorem sc_KeptPoints_put_pointX : FnScope ["self", "name", "x", "y"] ["self", "name", "x", "y"] (defScope s_KeptPoints_put_pointX) := ⟨rfl, rfl, rfl, by decide +kernel, rfl, by decide +kernel, by decide +kernel⟩
theorem c_KeptPoints_put_pointX {P : Program} {w : World} {K : PySem.W.Frag} {mg : Str → Option Value} {base : Heap} {f : Addr} {fd : FuncData} {C : Addr} (F : Fun K "put_point" "KeptPoints.put_point" s_KeptPoints_put_pointX f fd) (hC : PySem.W.nsIn K mainGlobals "KeptPoints" = some (some (.ref C))) (cl : Cls K C) (me : Meth K C "put_point" f) (C_KeptPoints_count_in : CalleeM P w K mg base 3 "KeptPoints" "count_in" 3 m_KeptPoints_count_in) (A_KeptPoints_places : AttrIs K "KeptPoints" "places") (XI_NoName : ExcI P w K mg base 1 "NoName" "word") : CalleeMX P w K mg base 4 "KeptPoints" "put_point" 4 m_KeptPoints_put_pointX :=
  ⟨C, f, fd, ["self", "name", "x", "y"], hC, cl, me, fnX_ok F sc_KeptPoints_put_pointX rfl (fun cdv A outer s H E vs0 hr =>
    (dxs_cons (dx_if (dt_cmp (op_inDd hr.units) oInDL_ok (de_var (pv 1)) (de_attr A_KeptPoints_places (pv 0)) (by rfl))
    (dxs_one (dx_raiseI rfl (takes_of rfl rfl rfl rfl) XI_NoName (hr.mono (by decide)) (by rfl) (de_var (pv 1))))
    (dxs_lift dss_nil))
    (dxs_lift (dss_cons (ds_expr (de_meth C_KeptPoints_count_in (hr.mono (by decide)) (de_var (pv 0)) (da_cons (de_tup (da_cons (de_var (pv 2)) (da_cons (de_var (pv 3)) da_nil))) (da_cons de_int da_nil))))
    (dss_one (ds_putL hr.units (de_tup (da_cons (de_var (pv 2)) (da_cons (de_var (pv 3)) da_nil))) (de_attr A_KeptPoints_places (pv 0)) (de_var (pv 1)))))))), F.binds fun _ _ _ _ _ _ us hl => match us, hl with | [_, _, _, _], _ => rfl⟩
abbrev s_KeptPoints_need_thereX : Stmt := inClass (top 11) 1
theorem sc_KeptPoints_need_thereX : FnScope ["self", "name"] ["self", "name"] (defScope s_KeptPoints_need_thereX) := ⟨rfl, rfl, rfl, by decide +kernel, rfl, by decide +kernel, by decide +kernel⟩
theorem c_KeptPoints_need_thereX {P : Program} {w : World} {K : PySem.W.Frag} {mg : Str → Option Value} {base : Heap} {f : Addr} {fd : FuncData} {C : Addr} (F : Fun K "need_there" "KeptPoints.need_there" s_KeptPoints_need_thereX f fd) (hC : PySem.W.nsIn K mainGlobals "KeptPoints" = some (some (.ref C))) (cl : Cls K C) (me : Meth K C "need_there" f) (A_KeptPoints_places : AttrIs K "KeptPoints" "places") (XI_NoName : ExcI P w K mg base 1 "NoName" "word") : CalleeMX P w K mg base 3 "KeptPoints" "need_there" 2 m_KeptPoints_need_thereX :=
  ⟨C, f, fd, ["self", "name"], hC, cl, me, fnX_ok F sc_KeptPoints_need_thereX rfl (fun cdv A outer s H E vs0 hr =>
    (dxs_one (dx_if (dt_cmp (op_niDd hr.units) oNiDL_ok (de_var (pv 1)) (de_attr A_KeptPoints_places (pv 0)) (by rfl))
    (dxs_one (dx_raiseI rfl (takes_of rfl rfl rfl rfl) XI_NoName (hr.mono (by decide)) (by rfl) (de_var (pv 1))))
    (dxs_lift dss_nil)))), F.binds fun _ _ _ _ _ _ us hl => match us, hl with | [_, _], _ => rfl⟩
abbrev s_KeptPoints_move_pointX : Stmt := inClass (top 11) 5
theorem sc_KeptPoints_move_pointX : FnScope ["self", "name", "x", "y"] ["self", "name", "x", "y"] (defScope s_KeptPoints_move_pointX) := ⟨rfl, rfl, rfl, by decide +kernel, rfl, by decide +kernel, by decide +kernel⟩
theorem c_KeptPoints_move_pointX {P : Program} {w : World} {K : PySem.W.Frag} {mg : Str → Option Value} {base : Heap} {f : Addr} {fd : FuncData} {C : Addr} (F : Fun K "move_point" "KeptPoints.move_point" s_KeptPoints_move_pointX f fd) (hC : PySem.W.nsIn K mainGlobals "KeptPoints" = some (some (.ref C))) (cl : Cls K C) (me : Meth K C "move_point" f) (C_KeptPoints_need_thereX : CalleeMX P w K mg base 3 "KeptPoints" "need_there" 2 m_KeptPoints_need_thereX) (C_KeptPoints_count_in : CalleeM P w K mg base 3 "KeptPoints" "count_in" 3 m_KeptPoints_count_in) (A_KeptPoints_places : AttrIs K "KeptPoints" "places") : CalleeMX P w K mg base 4 "KeptPoints" "move_point" 4 m_KeptPoints_move_pointX :=
  ⟨C, f, fd, ["self", "name", "x", "y"], hC, cl, me, fnX_ok F sc_KeptPoints_move_pointX rfl (fun cdv A outer s H E vs0 hr =>
    (dxs_cons (dx_expr (de_methX C_KeptPoints_need_thereX (takes_of rfl rfl rfl rfl) (hr.mono (by decide)) (de_var (pv 0)) (da_cons (de_var (pv 1)) da_nil)))
    (dxs_lift (dss_cons (ds_expr (de_meth C_KeptPoints_count_in (hr.mono (by decide)) (de_var (pv 0)) (da_cons (de_ix (ix_dict hr.units) oIxDL_ok (de_attr A_KeptPoints_places (pv 0)) (de_var (pv 1)) (fun _ _ => rfl)) (da_cons (de_fold (d := .int (-1)) (de_neg de_int) (fun _ => rfl)) da_nil))))
    (dss_cons (ds_putL hr.units (de_tup (da_cons (de_var (pv 2)) (da_cons (de_var (pv 3)) da_nil))) (de_attr A_KeptPoints_places (pv 0)) (de_var (pv 1)))
    (dss_one (ds_expr (de_meth C_KeptPoints_count_in (hr.mono (by decide)) (de_var (pv 0)) (da_cons (de_tup (da_cons (de_var (pv 2)) (da_cons (de_var (pv 3)) da_nil))) (da_cons de_int da_nil)))))))))), F.binds fun _ _ _ _ _ _ us hl => match us, hl with | [_, _, _, _], _ => rfl⟩
abbrev s_KeptPoints_take_pointX : Stmt := inClass (top 11) 4
theorem sc_KeptPoints_take_pointX : FnScope ["self", "name"] ["self", "name"] (defScope s_KeptPoints_take_pointX) := ⟨rfl, rfl, rfl, by decide +kernel, rfl, by decide +kernel, by decide +kernel⟩
theorem c_KeptPoints_take_pointX {P : Program} {w : World} {K : PySem.W.Frag} {mg : Str → Option Value} {base : Heap} {f : Addr} {fd : FuncData} {C : Addr} (F : Fun K "take_point" "KeptPoints.take_point" s_KeptPoints_take_pointX f fd) (hC : PySem.W.nsIn K mainGlobals "KeptPoints" = some (some (.ref C))) (cl : Cls K C) (me : Meth K C "take_point" f) (C_KeptPoints_need_thereX : CalleeMX P w K mg base 3 "KeptPoints" "need_there" 2 m_KeptPoints_need_thereX) (C_KeptPoints_count_in : CalleeM P w K mg base 3 "KeptPoints" "count_in" 3 m_KeptPoints_count_in) (A_KeptPoints_places : AttrIs K "KeptPoints" "places") : CalleeMX P w K mg base 4 "KeptPoints" "take_point" 2 m_KeptPoints_take_pointX :=
  ⟨C, f, fd, ["self", "name"], hC, cl, me, fnX_ok F sc_KeptPoints_take_pointX rfl (fun cdv A outer s H E vs0 hr =>
    (dxs_cons (dx_expr (de_methX C_KeptPoints_need_thereX (takes_of rfl rfl rfl rfl) (hr.mono (by decide)) (de_var (pv 0)) (da_cons (de_var (pv 1)) da_nil)))
    (dxs_lift (dss_one (ds_expr (de_meth C_KeptPoints_count_in (hr.mono (by decide)) (de_var (pv 0)) (da_cons (de_fz (de_dpop (de_attr A_KeptPoints_places (pv 0)) (de_var (pv 1)))) (da_cons (de_fold (d := .int (-1)) (de_neg de_int) (fun _ => rfl)) da_nil)))))))), F.binds fun _ _ _ _ _ _ us hl => match us, hl with | [_, _], _ => rfl⟩
abbrev s_law_is_refused : Stmt := top 30
theorem sc_law_is_refused : FnScope ["seed", "kept", "there", "caught", "name", "way", "e"] ["seed", "kept", "there"] (defScope s_law_is_refused) := ⟨rfl, rfl, rfl, by decide +kernel, rfl, by decide +kernel, by decide +kernel⟩
theorem c_law_is_refused {P : Program} {w : World} {K : PySem.W.Frag} {mg : Str → Option Value} {base : Heap} {f : Addr} {fd : FuncData} (F : Fun K "_law_is_refused" "_law_is_refused" s_law_is_refused f fd) (hm : mg "_law_is_refused" = some (.ref f)) (z_list : mg "list" = none) (z_len : mg "len" = none) (C_law_draw : Callee P w K mg base 1 "_law_draw" 2 m_law_draw) (C_KeptPoints_put_pointX : CalleeMX P w K mg base 4 "KeptPoints" "put_point" 4 m_KeptPoints_put_pointX) (C_KeptPoints_move_pointX : CalleeMX P w K mg base 4 "KeptPoints" "move_point" 4 m_KeptPoints_move_pointX) (C_KeptPoints_take_pointX : CalleeMX P w K mg base 4 "KeptPoints" "take_point" 2 m_KeptPoints_take_pointX) (TC_NoName : Catch K mg "NoName" ["NoName"]) (AT_word : AtX K "word" ["NoName"]) : Callee P w K mg base 5 "_law_is_refused" 3 m_law_is_refused :=
  ⟨f, fd, ["seed", "kept", "there"], fn_ok F sc_law_is_refused rfl (fun cdv A outer s H E vs0 hr =>
    (dss_cons (ds_set (i := 3) sc_law_is_refused.nd rfl (Or.inl rfl) de_non)
    (dss_cons (ds_set (i := 4) sc_law_is_refused.nd rfl (Or.inl rfl) de_str)
    (dss_cons (ds_set (i := 5) sc_law_is_refused.nd rfl (Or.inl rfl) (de_use C_law_draw (hr.mono (by decide)) (by rfl) (da_cons (de_var (pv 0)) (da_cons de_int da_nil))))
    (dss_cons (ds_if (dw_and (dt_cmp (op_neDd hr.units) oNeD_ok (de_var (pv 2)) de_dnew (nomark _)) (dw_and1 (dt_cmp (op_eqP hr.units) oEq_ok (de_var (pv 5)) de_int (nomark _)))).pt
    (dss_one (ds_set (i := 4) sc_law_is_refused.nd rfl (Or.inl rfl) (de_ix ix_seq oIx_ok (de_callTy (call_listD rfl) oListD_ok (by rfl) z_list (by decide +kernel) (da_cons (de_var (pv 2)) da_nil)) (de_use C_law_draw (hr.mono (by decide)) (by rfl) (da_cons (de_var (pv 0)) (da_cons (de_fz (de_callB call_lenDK oLenD_ok (by rfl) z_len (by decide +kernel) (da_cons (de_var (pv 2)) da_nil))) da_nil))) (fun _ _ => rfl))))
    dss_nil)
    (dss_cons (ds_try rfl rfl rfl sc_law_is_refused.nd rfl rfl rfl (Or.inl rfl) (.inl rfl) (by rfl) TC_NoName (hb := fun W pn xe tk po =>
    (dxs_one (dx_if (dt_cmp (op_inDd hr.units) oInD_ok (de_var (pv 4)) (de_var (pv 2)) (by rfl))
    (dxs_one (dx_expr (de_methX C_KeptPoints_put_pointX tk (hr.mono (by decide)) (de_var (pv 1)) (da_cons (de_fz (de_var (pv 4))) (da_cons de_int (da_cons de_int da_nil))))))
    (dxs_one (dx_if (dt_cmp (op_eqP hr.units) oEq_ok (de_var (pv 5)) de_int (nomark _))
    (dxs_one (dx_expr (de_methX C_KeptPoints_move_pointX tk (hr.mono (by decide)) (de_var (pv 1)) (da_cons (de_fz (de_var (pv 4))) (da_cons de_int (da_cons de_int da_nil))))))
    (dxs_one (dx_expr (de_methX C_KeptPoints_take_pointX tk (hr.mono (by decide)) (de_var (pv 1)) (da_cons (de_fz (de_var (pv 4))) da_nil))))))))))
    (dss_one (ds_ret (de_and (de_cmp op_isnAll oIsnX0_ok (de_var (pv 3)) de_non (nomark _)) (de_one (de_cmp (op_eqP hr.units) oEq_ok (de_xat AT_word (de_var (pv 3))) (de_var (pv 4)) (nomark _)))))))))))), hm, F.kp, F.binds fun _ _ _ _ _ _ us hl => match us, hl with | [_, _, _], _ => rfl⟩
abbrev s_KeptPoints_pairs_now : Stmt := inClass (top 11) 9
theorem sc_KeptPoints_pairs_now : FnScope ["self"] ["self"] (defScope s_KeptPoints_pairs_now) := ⟨rfl, rfl, rfl, by decide +kernel, rfl, by decide +kernel, by decide +kernel⟩
theorem c_KeptPoints_pairs_now {P : Program} {w : World} {K : PySem.W.Frag} {mg : Str → Option Value} {base : Heap} {f : Addr} {fd : FuncData} {C : Addr} (F : Fun K "pairs_now" "KeptPoints.pairs_now" s_KeptPoints_pairs_now f fd) (hC : PySem.W.nsIn K mainGlobals "KeptPoints" = some (some (.ref C))) (cl : Cls K C) (me : Meth K C "pairs_now" f) (A_KeptPoints_counted : AttrIs K "KeptPoints" "counted") : CalleeM P w K mg base 1 "KeptPoints" "pairs_now" 1 m_KeptPoints_pairs_now :=
  ⟨C, f, fd, ["self"], hC, cl, me, fn_ok F sc_KeptPoints_pairs_now rfl (fun cdv A outer s H E vs0 hr =>
    (dss_one (ds_ret (de_attr A_KeptPoints_counted (pv 0))))), F.binds fun _ _ _ _ _ _ us hl => match us, hl with | [_], _ => rfl⟩
abbrev s_is_in_box : Stmt := top 4
theorem sc_is_in_box : FnScope ["box", "x", "y"] ["box", "x", "y"] (defScope s_is_in_box) := ⟨rfl, rfl, rfl, by decide +kernel, rfl, by decide +kernel, by decide +kernel⟩
theorem c_is_in_box {P : Program} {w : World} {K : PySem.W.Frag} {mg : Str → Option Value} {base : Heap} {f : Addr} {fd : FuncData} (F : Fun K "is_in_box" "is_in_box" s_is_in_box f fd) (hm : mg "is_in_box" = some (.ref f)) : Callee P w K mg base 1 "is_in_box" 3 m_is_in_box :=
  ⟨f, fd, ["box", "x", "y"], fn_ok F sc_is_in_box rfl (fun cdv A outer s H E vs0 hr =>
    (dss_one (ds_ret (de_and (de_chain op_le op_le oCmpI_ok oCmpI_ok (de_ix ix_seq oIx_ok (de_var (pv 0)) de_int (fun _ _ => rfl)) (de_var (pv 1)) (de_ix ix_seq oIx_ok (de_var (pv 0)) de_int (fun _ _ => rfl))) (de_one (de_chain op_le op_le oCmpI_ok oCmpI_ok (de_ix ix_seq oIx_ok (de_var (pv 0)) de_int (fun _ _ => rfl)) (de_var (pv 2)) (de_ix ix_seq oIx_ok (de_var (pv 0)) de_int (fun _ _ => rfl)))))))), hm, F.kp, F.binds fun _ _ _ _ _ _ us hl => match us, hl with | [_, _, _], _ => rfl⟩
abbrev s_names_in : Stmt := top 5
theorem sc_names_in : FnScope ["points", "box", "name", "x", "y"] ["points", "box"] (defScope s_names_in) := ⟨rfl, rfl, rfl, by decide +kernel, rfl, by decide +kernel, by decide +kernel⟩
theorem c_names_in {P : Program} {w : World} {K : PySem.W.Frag} {mg : Str → Option Value} {base : Heap} {f : Addr} {fd : FuncData} (F : Fun K "names_in" "names_in" s_names_in f fd) (hm : mg "names_in" = some (.ref f)) (C_is_in_box : Callee P w K mg base 1 "is_in_box" 3 m_is_in_box) : Callee P w K mg base 2 "names_in" 2 m_names_in :=
  ⟨f, fd, ["points", "box"], fn_ok F sc_names_in rfl (fun cdv A outer s H E vs0 hr =>
    (dss_one (ds_ret (de_lc rfl sc_names_in.nd (di_seq (de_var (pv 0))) (blkOk_by (own := [(("name" : Str), 2), (("x" : Str), 3), (("y" : Str), 4)]) (by kernel_rfl)) (by decide) (fun _ _ _ _ _ => (dg_tup rfl (dgs_cons (dg_name (i := 2) sc_names_in.nd rfl (Or.inl rfl)) (dgs_cons (dg_name (i := 3) sc_names_in.nd rfl (Or.inl rfl)) (dgs_cons (dg_name (i := 4) sc_names_in.nd rfl (Or.inl rfl)) dgs_nil))))) (fun _ _ _ _ _ => (dts_one (dt_val (de_use C_is_in_box (hr.mono (by decide)) (by rfl) (da_cons (de_var (pv 1)) (da_cons (de_fz (de_var (pv 3))) (da_cons (de_fz (de_var (pv 4))) da_nil))))))) (fun _ _ _ _ _ => (de_var (pv 2))))))), hm, F.kp, F.binds fun _ _ _ _ _ _ us hl => match us, hl with | [_, _], _ => rfl⟩
abbrev s_in_boxes : Stmt := top 7
theorem sc_in_boxes : FnScope ["points", "boxes", "box"] ["points", "boxes"] (defScope s_in_boxes) := ⟨rfl, rfl, rfl, by decide +kernel, rfl, by decide +kernel, by decide +kernel⟩
theorem c_in_boxes {P : Program} {w : World} {K : PySem.W.Frag} {mg : Str → Option Value} {base : Heap} {f : Addr} {fd : FuncData} (F : Fun K "in_boxes" "in_boxes" s_in_boxes f fd) (hm : mg "in_boxes" = some (.ref f)) (z_len : mg "len" = none) (z_tuple : mg "tuple" = none) (C_names_in : Callee P w K mg base 2 "names_in" 2 m_names_in) : Callee P w K mg base 3 "in_boxes" 2 m_in_boxes :=
  ⟨f, fd, ["points", "boxes"], fn_ok F sc_in_boxes rfl (fun cdv A outer s H E vs0 hr =>
    (dss_one (ds_ret (de_callTy call_tuple_of oTupOf_ok (by rfl) z_tuple (by decide +kernel) (da_cons (de_lc rfl sc_in_boxes.nd (di_seq (de_var (pv 1))) (blkOk_by (own := [(("box" : Str), 2)]) (by kernel_rfl)) (by decide) (fun _ _ _ _ _ => (dg_name (i := 2) sc_in_boxes.nd rfl (Or.inl rfl))) (fun _ _ _ _ _ => dts_nil) (fun _ _ _ _ _ => (de_callB call_len oLen_ok (by rfl) z_len (by decide +kernel) (da_cons (de_use C_names_in (hr.mono (by decide)) (by rfl) (da_cons (de_var (pv 0)) (da_cons (de_fz (de_var (pv 2))) da_nil))) da_nil)))) da_nil))))), hm, F.kp, F.binds fun _ _ _ _ _ _ us hl => match us, hl with | [_, _], _ => rfl⟩
abbrev s_KeptPoints_box_now : Stmt := inClass (top 11) 10
theorem sc_KeptPoints_box_now : FnScope ["self", "box"] ["self", "box"] (defScope s_KeptPoints_box_now) := ⟨rfl, rfl, rfl, by decide +kernel, rfl, by decide +kernel, by decide +kernel⟩
theorem c_KeptPoints_box_now {P : Program} {w : World} {K : PySem.W.Frag} {mg : Str → Option Value} {base : Heap} {f : Addr} {fd : FuncData} {C : Addr} (F : Fun K "box_now" "KeptPoints.box_now" s_KeptPoints_box_now f fd) (hC : PySem.W.nsIn K mainGlobals "KeptPoints" = some (some (.ref C))) (cl : Cls K C) (me : Meth K C "box_now" f) (C_in_boxes : Callee P w K mg base 3 "in_boxes" 2 m_in_boxes) (C_KeptPoints_points_now : CalleeM P w K mg base 1 "KeptPoints" "points_now" 1 m_KeptPoints_points_now) : CalleeM P w K mg base 4 "KeptPoints" "box_now" 2 m_KeptPoints_box_now :=
  ⟨C, f, fd, ["self", "box"], hC, cl, me, fn_ok F sc_KeptPoints_box_now rfl (fun cdv A outer s H E vs0 hr =>
    (dss_one (ds_ret (de_ix ix_seq oIx_ok (de_use C_in_boxes (hr.mono (by decide)) (by rfl) (da_cons (de_fz (de_meth0 C_KeptPoints_points_now (hr.mono (by decide)) (de_var (pv 0)))) (da_cons (de_tup (da_cons (de_var (pv 1)) da_nil)) da_nil))) de_int (fun _ _ => rfl))))), F.binds fun _ _ _ _ _ _ us hl => match us, hl with | [_, _], _ => rfl⟩
abbrev s_law_told : Stmt := top 27
theorem sc_law_told : FnScope ["kept", "way", "here"] ["kept", "way", "here"] (defScope s_law_told) := ⟨rfl, rfl, rfl, by decide +kernel, rfl, by decide +kernel, by decide +kernel⟩
theorem c_law_told {P : Program} {w : World} {K : PySem.W.Frag} {mg : Str → Option Value} {base : Heap} {f : Addr} {fd : FuncData} (F : Fun K "_law_told" "_law_told" s_law_told f fd) (hm : mg "_law_told" = some (.ref f)) (C_KeptPoints_points_now : CalleeM P w K mg base 1 "KeptPoints" "points_now" 1 m_KeptPoints_points_now) (C_KeptPoints_pairs_now : CalleeM P w K mg base 1 "KeptPoints" "pairs_now" 1 m_KeptPoints_pairs_now) (C_KeptPoints_below_now : CalleeM P w K mg base 2 "KeptPoints" "below_now" 3 m_KeptPoints_below_now) (C_KeptPoints_above_now : CalleeM P w K mg base 2 "KeptPoints" "above_now" 3 m_KeptPoints_above_now) (C_KeptPoints_box_now : CalleeM P w K mg base 4 "KeptPoints" "box_now" 2 m_KeptPoints_box_now) : Callee P w K mg base 5 "_law_told" 3 m_law_told :=
  ⟨f, fd, ["kept", "way", "here"], fn_ok F sc_law_told rfl (fun cdv A outer s H E vs0 hr =>
    (dss_cons (ds_if (dt_cmp (op_eqP hr.units) oEq_ok (de_var (pv 1)) de_int (nomark _))
    (dss_one (ds_ret (de_meth0 C_KeptPoints_points_now (hr.mono (by decide)) (de_var (pv 0)))))
    dss_nil)
    (dss_cons (ds_if (dt_cmp (op_eqP hr.units) oEq_ok (de_var (pv 1)) de_int (nomark _))
    (dss_one (ds_ret (de_meth0 C_KeptPoints_pairs_now (hr.mono (by decide)) (de_var (pv 0)))))
    dss_nil)
    (dss_cons (ds_if (dt_cmp (op_eqP hr.units) oEq_ok (de_var (pv 1)) de_int (nomark _))
    (dss_one (ds_ret (de_meth C_KeptPoints_below_now (hr.mono (by decide)) (de_var (pv 0)) (da_cons (de_ix ix_seq oIx_ok (de_var (pv 2)) de_int (fun _ _ => rfl)) (da_cons (de_ix ix_seq oIx_ok (de_var (pv 2)) de_int (fun _ _ => rfl)) da_nil)))))
    dss_nil)
    (dss_cons (ds_if (dt_cmp (op_eqP hr.units) oEq_ok (de_var (pv 1)) de_int (nomark _))
    (dss_one (ds_ret (de_meth C_KeptPoints_above_now (hr.mono (by decide)) (de_var (pv 0)) (da_cons (de_ix ix_seq oIx_ok (de_var (pv 2)) de_int (fun _ _ => rfl)) (da_cons (de_ix ix_seq oIx_ok (de_var (pv 2)) de_int (fun _ _ => rfl)) da_nil)))))
    dss_nil)
    (dss_one (ds_ret (de_meth C_KeptPoints_box_now (hr.mono (by decide)) (de_var (pv 0)) (da_cons (de_var (pv 2)) da_nil))))))))), hm, F.kp, F.binds fun _ _ _ _ _ _ us hl => match us, hl with | [_, _, _], _ => rfl⟩
abbrev s_places_in : Stmt := top 13
theorem sc_places_in : FnScope ["points", "name", "x", "y"] ["points"] (defScope s_places_in) := ⟨rfl, rfl, rfl, by decide +kernel, rfl, by decide +kernel, by decide +kernel⟩
theorem c_places_in {P : Program} {w : World} {K : PySem.W.Frag} {mg : Str → Option Value} {base : Heap} {f : Addr} {fd : FuncData} (F : Fun K "places_in" "places_in" s_places_in f fd) (hm : mg "places_in" = some (.ref f)) : Callee P w K mg base 1 "places_in" 1 m_places_in :=
  ⟨f, fd, ["points"], fn_ok F sc_places_in rfl (fun cdv A outer s H E vs0 hr =>
    (dss_one (ds_ret (de_lc rfl sc_places_in.nd (di_seq (de_var (pv 0))) (blkOk_by (own := [(("name" : Str), 1), (("x" : Str), 2), (("y" : Str), 3)]) (by kernel_rfl)) (by decide) (fun _ _ _ _ _ => (dg_tup rfl (dgs_cons (dg_name (i := 1) sc_places_in.nd rfl (Or.inl rfl)) (dgs_cons (dg_name (i := 2) sc_places_in.nd rfl (Or.inl rfl)) (dgs_cons (dg_name (i := 3) sc_places_in.nd rfl (Or.inl rfl)) dgs_nil))))) (fun _ _ _ _ _ => dts_nil) (fun _ _ _ _ _ => (de_tup (da_cons (de_var (pv 2)) (da_cons (de_var (pv 3)) da_nil)))))))), hm, F.kp, F.binds fun _ _ _ _ _ _ us hl => match us, hl with | [_], _ => rfl⟩
abbrev s_below_each : Stmt := top 14
theorem sc_below_each : FnScope ["points", "places", "one", "other"] ["points"] (defScope s_below_each) := ⟨rfl, rfl, rfl, by decide +kernel, rfl, by decide +kernel, by decide +kernel⟩
theorem c_below_each {P : Program} {w : World} {K : PySem.W.Frag} {mg : Str → Option Value} {base : Heap} {f : Addr} {fd : FuncData} (F : Fun K "below_each" "below_each" s_below_each f fd) (hm : mg "below_each" = some (.ref f)) (z_int : mg "int" = none) (z_sum : mg "sum" = none) (z_tuple : mg "tuple" = none) (C_places_in : Callee P w K mg base 1 "places_in" 1 m_places_in) (C_lies_below : Callee P w K mg base 1 "lies_below" 2 m_lies_below) : Callee P w K mg base 2 "below_each" 1 m_below_each :=
  ⟨f, fd, ["points"], fn_ok F sc_below_each rfl (fun cdv A outer s H E vs0 hr =>
    (dss_cons (ds_set (i := 1) sc_below_each.nd rfl (Or.inr rfl) (de_use C_places_in (hr.mono (by decide)) (by rfl) (da_cons (de_var (pv 0)) da_nil)))
    (dss_one (ds_ret (de_callTy call_tuple_of oTupOf_ok (by rfl) z_tuple (by decide +kernel) (da_cons (de_lc rfl sc_below_each.nd (di_seq (de_var (pv 1))) (blkOk_by (own := [(("one" : Str), 2)]) (by kernel_rfl)) (by decide) (fun _ _ _ _ _ => (dg_name (i := 2) sc_below_each.nd rfl (Or.inr rfl))) (fun _ _ _ _ _ => dts_nil) (fun _ _ _ _ _ => (de_callB (cr_sumA rfl) oSum_ok (by rfl) z_sum (by decide +kernel) (da_cons (de_lc rfl sc_below_each.nd (di_seq (de_var (pv 1))) (blkOk_by (own := [(("other" : Str), 3)]) (by kernel_rfl)) (by decide) (fun _ _ _ _ _ => (dg_name (i := 3) sc_below_each.nd rfl (Or.inl rfl))) (fun _ _ _ _ _ => dts_nil) (fun _ _ _ _ _ => (de_callTy call_int1 oInt1_ok (by rfl) z_int (by decide +kernel) (da_cons (de_use C_lies_below (hr.mono (by decide)) (by rfl) (da_cons (de_fz (de_var (pv 3))) (da_cons (de_fz (de_var (pv 2))) da_nil))) da_nil)))) da_nil)))) da_nil)))))), hm, F.kp, F.binds fun _ _ _ _ _ _ us hl => match us, hl with | [_], _ => rfl⟩
abbrev s_pairs_in_all : Stmt := top 15
theorem sc_pairs_in_all : FnScope ["points"] ["points"] (defScope s_pairs_in_all) := ⟨rfl, rfl, rfl, by decide +kernel, rfl, by decide +kernel, by decide +kernel⟩
theorem c_pairs_in_all {P : Program} {w : World} {K : PySem.W.Frag} {mg : Str → Option Value} {base : Heap} {f : Addr} {fd : FuncData} (F : Fun K "pairs_in_all" "pairs_in_all" s_pairs_in_all f fd) (hm : mg "pairs_in_all" = some (.ref f)) (z_sum : mg "sum" = none) (C_below_each : Callee P w K mg base 2 "below_each" 1 m_below_each) : Callee P w K mg base 3 "pairs_in_all" 1 m_pairs_in_all :=
  ⟨f, fd, ["points"], fn_ok F sc_pairs_in_all rfl (fun cdv A outer s H E vs0 hr =>
    (dss_one (ds_ret (de_callB (cr_sumA rfl) oSum_ok (by rfl) z_sum (by decide +kernel) (da_cons (de_use C_below_each (hr.mono (by decide)) (by rfl) (da_cons (de_var (pv 0)) da_nil)) da_nil))))), hm, F.kp, F.binds fun _ _ _ _ _ _ us hl => match us, hl with | [_], _ => rfl⟩
abbrev s_law_due : Stmt := top 28
theorem sc_law_due : FnScope ["points", "way", "here", "name", "x", "y"] ["points", "way", "here"] (defScope s_law_due) := ⟨rfl, rfl, rfl, by decide +kernel, rfl, by decide +kernel, by decide +kernel⟩
theorem c_law_due {P : Program} {w : World} {K : PySem.W.Frag} {mg : Str → Option Value} {base : Heap} {f : Addr} {fd : FuncData} (F : Fun K "_law_due" "_law_due" s_law_due f fd) (hm : mg "_law_due" = some (.ref f)) (z_len : mg "len" = none) (C_pairs_in_all : Callee P w K mg base 3 "pairs_in_all" 1 m_pairs_in_all) (C_lies_below : Callee P w K mg base 1 "lies_below" 2 m_lies_below) (C_in_boxes : Callee P w K mg base 3 "in_boxes" 2 m_in_boxes) : Callee P w K mg base 4 "_law_due" 3 m_law_due :=
  ⟨f, fd, ["points", "way", "here"], fn_ok F sc_law_due rfl (fun cdv A outer s H E vs0 hr =>
    (dss_cons (ds_if (dt_cmp (op_eqP hr.units) oEq_ok (de_var (pv 1)) de_int (nomark _))
    (dss_one (ds_ret (de_var (pv 0))))
    dss_nil)
    (dss_cons (ds_if (dt_cmp (op_eqP hr.units) oEq_ok (de_var (pv 1)) de_int (nomark _))
    (dss_one (ds_ret (de_use C_pairs_in_all (hr.mono (by decide)) (by rfl) (da_cons (de_var (pv 0)) da_nil))))
    dss_nil)
    (dss_cons (ds_if (dt_cmp (op_eqP hr.units) oEq_ok (de_var (pv 1)) de_int (nomark _))
    (dss_one (ds_ret (de_callB call_len oLen_ok (by rfl) z_len (by decide +kernel) (da_cons (de_lc rfl sc_law_due.nd (di_seq (de_var (pv 0))) (blkOk_by (own := [(("name" : Str), 3), (("x" : Str), 4), (("y" : Str), 5)]) (by kernel_rfl)) (by decide) (fun _ _ _ _ _ => (dg_tup rfl (dgs_cons (dg_name (i := 3) sc_law_due.nd rfl (Or.inl rfl)) (dgs_cons (dg_name (i := 4) sc_law_due.nd rfl (Or.inl rfl)) (dgs_cons (dg_name (i := 5) sc_law_due.nd rfl (Or.inl rfl)) dgs_nil))))) (fun _ _ _ _ _ => (dts_one (dt_val (de_use C_lies_below (hr.mono (by decide)) (by rfl) (da_cons (de_tup (da_cons (de_var (pv 4)) (da_cons (de_var (pv 5)) da_nil))) (da_cons (de_var (pv 2)) da_nil)))))) (fun _ _ _ _ _ => de_int)) da_nil))))
    dss_nil)
    (dss_cons (ds_if (dt_cmp (op_eqP hr.units) oEq_ok (de_var (pv 1)) de_int (nomark _))
    (dss_one (ds_ret (de_callB call_len oLen_ok (by rfl) z_len (by decide +kernel) (da_cons (de_lc rfl sc_law_due.nd (di_seq (de_var (pv 0))) (blkOk_by (own := [(("name" : Str), 3), (("x" : Str), 4), (("y" : Str), 5)]) (by kernel_rfl)) (by decide) (fun _ _ _ _ _ => (dg_tup rfl (dgs_cons (dg_name (i := 3) sc_law_due.nd rfl (Or.inl rfl)) (dgs_cons (dg_name (i := 4) sc_law_due.nd rfl (Or.inl rfl)) (dgs_cons (dg_name (i := 5) sc_law_due.nd rfl (Or.inl rfl)) dgs_nil))))) (fun _ _ _ _ _ => (dts_one (dt_val (de_use C_lies_below (hr.mono (by decide)) (by rfl) (da_cons (de_var (pv 2)) (da_cons (de_tup (da_cons (de_var (pv 4)) (da_cons (de_var (pv 5)) da_nil))) da_nil)))))) (fun _ _ _ _ _ => de_int)) da_nil))))
    dss_nil)
    (dss_one (ds_ret (de_ix ix_seq oIx_ok (de_use C_in_boxes (hr.mono (by decide)) (by rfl) (da_cons (de_var (pv 0)) (da_cons (de_tup (da_cons (de_var (pv 2)) da_nil)) da_nil))) de_int (fun _ _ => rfl))))))))), hm, F.kp, F.binds fun _ _ _ _ _ _ us hl => match us, hl with | [_, _, _], _ => rfl⟩
abbrev s_law_looked_right : Stmt := top 29
theorem sc_law_looked_right : FnScope ["seed", "kept", "there", "places", "boxes", "some", "points", "turn", "way", "here", "place", "box"] ["seed", "kept", "there", "places", "boxes"] (defScope s_law_looked_right) := ⟨rfl, rfl, rfl, by decide +kernel, rfl, by decide +kernel, by decide +kernel⟩
theorem c_law_looked_right {P : Program} {w : World} {K : PySem.W.Frag} {mg : Str → Option Value} {base : Heap} {f : Addr} {fd : FuncData} (F : Fun K "_law_looked_right" "_law_looked_right" s_law_looked_right f fd) (hm : mg "_law_looked_right" = some (.ref f)) (z_len : mg "len" = none) (z_range : mg "range" = none) (C_law_rows : Callee P w K mg base 1 "_law_rows" 1 m_law_rows) (C_law_draw : Callee P w K mg base 1 "_law_draw" 2 m_law_draw) (C_law_told : Callee P w K mg base 5 "_law_told" 3 m_law_told) (C_law_due : Callee P w K mg base 4 "_law_due" 3 m_law_due) : Callee P w K mg base 6 "_law_looked_right" 5 m_law_looked_right :=
  ⟨f, fd, ["seed", "kept", "there", "places", "boxes"], fn_ok F sc_law_looked_right rfl (fun cdv A outer s H E vs0 hr =>
    (dss_cons (ds_set (i := 5) sc_law_looked_right.nd rfl (Or.inl rfl) (de_op op_addAll oAdd_ok (de_op op_addAll oAdd_ok (de_lst (da_cons (de_tup (da_cons de_int (da_cons (de_tup da_nil) da_nil))) (da_cons (de_tup (da_cons de_int (da_cons (de_tup da_nil) da_nil))) da_nil))) (de_lc rfl sc_law_looked_right.nd (di_seq (de_var (pv 3))) (blkOk_by (own := [(("place" : Str), 10)]) (by kernel_rfl)) (by decide) (fun _ _ _ _ _ => (dg_name (i := 10) sc_law_looked_right.nd rfl (Or.inl rfl))) (fun _ _ _ _ _ => dts_nil) (fun _ _ _ _ _ => (de_tup (da_cons de_int (da_cons (de_var (pv 10)) da_nil)))))) (de_lc rfl sc_law_looked_right.nd (di_seq (de_var (pv 3))) (blkOk_by (own := [(("place" : Str), 10)]) (by kernel_rfl)) (by decide) (fun _ _ _ _ _ => (dg_name (i := 10) sc_law_looked_right.nd rfl (Or.inl rfl))) (fun _ _ _ _ _ => dts_nil) (fun _ _ _ _ _ => (de_tup (da_cons de_int (da_cons (de_var (pv 10)) da_nil)))))))
    (dss_cons (ds_set (i := 5) sc_law_looked_right.nd rfl (Or.inl rfl) (de_op op_addAll oAdd_ok (de_var (pv 5)) (de_lc rfl sc_law_looked_right.nd (di_seq (de_var (pv 4))) (blkOk_by (own := [(("box" : Str), 11)]) (by kernel_rfl)) (by decide) (fun _ _ _ _ _ => (dg_name (i := 11) sc_law_looked_right.nd rfl (Or.inl rfl))) (fun _ _ _ _ _ => dts_nil) (fun _ _ _ _ _ => (de_tup (da_cons de_int (da_cons (de_var (pv 11)) da_nil)))))))
    (dss_cons (ds_set (i := 6) sc_law_looked_right.nd rfl (Or.inl rfl) (de_use C_law_rows (hr.mono (by decide)) (by rfl) (da_cons (de_var (pv 2)) da_nil)))
    (dss_cons (ds_for PassesOwn.never rfl (di_range1 (by rfl) z_range (da_cons (de_callB call_len oLen_ok (by rfl) z_len (by decide +kernel) (da_cons (de_var (pv 5)) da_nil)) da_nil)) (dg_name (i := 7) sc_law_looked_right.nd rfl (Or.inl rfl))
    (dss_cons (ds_asg (de_m_pop1 (de_var (pv 5)) (da_cons (de_use C_law_draw (hr.mono (by decide)) (by rfl) (da_cons (de_var (pv 0)) (da_cons (de_fz (de_callB call_len oLen_ok (by rfl) z_len (by decide +kernel) (da_cons (de_var (pv 5)) da_nil))) da_nil))) da_nil)) (dg_tup rfl (dgs_cons (dg_name (i := 8) sc_law_looked_right.nd rfl (Or.inl rfl)) (dgs_cons (dg_name (i := 9) sc_law_looked_right.nd rfl (Or.inl rfl)) dgs_nil))))
    (dss_one (ds_if (dt_cmp (op_neP hr.units) oNe_ok (de_use C_law_told (hr.mono (by decide)) (by rfl) (da_cons (de_var (pv 1)) (da_cons (de_fz (de_var (pv 8))) (da_cons (de_fz (de_var (pv 9))) da_nil)))) (de_use C_law_due (hr.mono (by decide)) (by rfl) (da_cons (de_fz (de_var (pv 6))) (da_cons (de_fz (de_var (pv 8))) (da_cons (de_fz (de_var (pv 9))) da_nil)))) (nomark _))
    (dss_one (ds_ret de_bl))
    dss_nil))))
    (dss_one (ds_ret de_bl))))))), hm, F.kp, F.binds fun _ _ _ _ _ _ us hl => match us, hl with | [_, _, _, _, _], _ => rfl⟩
abbrev s_law_afresh : Stmt := top 31
theorem sc_law_afresh : FnScope ["there", "kept", "name", "x", "y"] ["there"] (defScope s_law_afresh) := ⟨rfl, rfl, rfl, by decide +kernel, rfl, by decide +kernel, by decide +kernel⟩
theorem c_law_afresh {P : Program} {w : World} {K : PySem.W.Frag} {mg : Str → Option Value} {base : Heap} {f : Addr} {fd : FuncData} (F : Fun K "_law_afresh" "_law_afresh" s_law_afresh f fd) (hm : mg "_law_afresh" = some (.ref f)) (C_KeptPoints___init__ : CalleeC P w K mg base 1 "KeptPoints" "KeptPoints" 1 m_KeptPoints___init__) (C_law_rows : Callee P w K mg base 1 "_law_rows" 1 m_law_rows) (C_KeptPoints_put_point : CalleeM P w K mg base 4 "KeptPoints" "put_point" 4 m_KeptPoints_put_point) : Callee P w K mg base 5 "_law_afresh" 1 m_law_afresh :=
  ⟨f, fd, ["there"], fn_ok F sc_law_afresh rfl (fun cdv A outer s H E vs0 hr =>
    (dss_cons (ds_set (i := 1) sc_law_afresh.nd rfl (Or.inl rfl) (de_make0 C_KeptPoints___init__ (hr.mono (by decide)) (by rfl)))
    (dss_cons (ds_for PassesOwn.never rfl (di_seq (de_use C_law_rows (hr.mono (by decide)) (by rfl) (da_cons (de_var (pv 0)) da_nil))) (dg_tup rfl (dgs_cons (dg_name (i := 2) sc_law_afresh.nd rfl (Or.inl rfl)) (dgs_cons (dg_name (i := 3) sc_law_afresh.nd rfl (Or.inl rfl)) (dgs_cons (dg_name (i := 4) sc_law_afresh.nd rfl (Or.inl rfl)) dgs_nil))))
    (dss_one (ds_expr (de_meth C_KeptPoints_put_point (hr.mono (by decide)) (de_var (pv 1)) (da_cons (de_fz (de_var (pv 2))) (da_cons (de_fz (de_var (pv 3))) (da_cons (de_fz (de_var (pv 4))) da_nil)))))))
    (dss_one (ds_ret (de_var (pv 1))))))), hm, F.kp, F.binds fun _ _ _ _ _ _ us hl => match us, hl with | [_], _ => rfl⟩
abbrev s_law : Stmt := top 32
theorem sc_law : FnScope ["script", "cell", "seed", "pair", "turn", "names", "deed", "points", "places", "boxes", "kept", "there", "one", "own", "spare"] ["script"] (defScope s_law) := ⟨rfl, rfl, rfl, by decide +kernel, rfl, by decide +kernel, by decide +kernel⟩
abbrev sI_NoName : Stmt := inClass (top 2) 0
theorem scI_NoName : FnScope ["self", "word"] ["self", "word"] (defScope sI_NoName) := ⟨rfl, rfl, rfl, by decide +kernel, rfl, by decide +kernel, by decide +kernel⟩
theorem ci_NoName {P : Program} {w : World} {K : PySem.W.Frag} {mg : Str → Option Value} {base : Heap} {f : Addr} {fd : FuncData} {C C0 : Addr} (F : Fun K "__init__" "NoName.__init__" sI_NoName f fd) (hC : PySem.W.nsIn K mainGlobals "NoName" = some (some (.ref C))) (gC : mg "NoName" = some (.ref C))
   (T : OexC K C) (no : PySem.W.findIn K (.ref C) "word" = some none) (iC : PySem.W.findIn K (.ref C) "__init__" = some (some (.ref f))) (tI : PySem.W.typeIn K (.ref f) = some (.type "function"))
   (gB : mg "BelowError" = some (.ref C0)) (sB : PySem.W.specialIn K (.ref C0) "__getattribute__" = some (some (.builtin "type.__getattribute__"))) (rB : PySem.W.readsIn K C0 (.type "type") = true) (vB : PySem.W.findCls K (.ref C0) (.type "type") "__init__" = some (.val (.builtin "ValueError.__init__"))) (z_str : mg "str" = none) : ExcI P w K mg base 1 "NoName" "word" :=
  ⟨C, f, fd, ["self", "word"], hC, gC, T, no, iC, tI, F.ok scI_NoName (fun vs H Q E h => by obtain ⟨a, v, rfl, _⟩ := h; rfl) (fun cdv A outer s H vs Q E hr h => ⟨_, pss_cons (ps_expr (pe_ceinit (by rfl) gB sB rB vB (pa_cons (pv 0) (pa_cons (pe_op op_add_str pe_str (pe_callTy strAny (by rfl) z_str (by decide +kernel) (pa_cons (pv 1) pa_nil))) pa_nil)))) (pss_one (ps_ost (pv 0) (pv 1))), by
    obtain ⟨a, v, rfl, kv, T, no, ea, q⟩ := h
    rcases kv with ⟨i, rfl, h0, h1⟩ | ⟨y, rfl, h1⟩
    · exact ⟨_, rfl, _, rfl, Or.inl ⟨i, rfl, log2_small h0 h1, _, _, rfl, rfl, Nat.le_trans (Nat.add_le_add (show _ ≤ 1000 by decide +kernel) (keep_len h0 h1)) (by decide), a, C, _, rfl, (show 1 ≤ 1000 by decide), T, ea, _, rfl, _, rfl, a, C, rfl, T, no, Or.inl ⟨ea, q⟩⟩⟩
    · exact ⟨_, rfl, _, rfl, Or.inr ⟨y, rfl, _, _, rfl, rfl, Nat.le_trans (Nat.add_le_add (show _ ≤ 1000 by decide +kernel) h1) (by decide), a, C, _, rfl, (show 1 ≤ 1000 by decide), T, ea, _, rfl, _, rfl, a, C, rfl, T, no, Or.inl ⟨ea, q⟩⟩⟩⟩), F.binds fun _ _ _ _ _ _ us hl => match us, hl with | [_, _], _ => rfl⟩
theorem c_law_fn {P : Program} {w : World} {K : PySem.W.Frag} {mg : Str → Option Value} {base : Heap} {f : Addr} {fd : FuncData} (F : Fun K "law" "law" s_law f fd) (z_range : mg "range" = none) (C_law_folded : Callee P w K mg base 1 "_law_folded" 1 m_law_folded) (C_law_seed : Callee P w K mg base 1 "_law_seed" 1 m_law_seed) (C_law_names : Callee P w K mg base 2 "_law_names" 2 m_law_names) (C_law_draw : Callee P w K mg base 1 "_law_draw" 2 m_law_draw) (C_KeptPoints___init__ : CalleeC P w K mg base 1 "KeptPoints" "KeptPoints" 1 m_KeptPoints___init__) (C_law_deed : Callee P w K mg base 5 "_law_deed" 4 m_law_deed) (C_law_rows : Callee P w K mg base 1 "_law_rows" 1 m_law_rows) (C_law_place : Callee P w K mg base 4 "_law_place" 2 m_law_place) (C_law_box : Callee P w K mg base 5 "_law_box" 2 m_law_box) (C_law_is_refused : Callee P w K mg base 5 "_law_is_refused" 3 m_law_is_refused) (C_law_looked_right : Callee P w K mg base 6 "_law_looked_right" 5 m_law_looked_right) (C_law_afresh : Callee P w K mg base 5 "_law_afresh" 1 m_law_afresh) : FnOk P w K mg base CX0 7 f fd ["script"] (spD K 1 m_law) :=
  fn_ok F sc_law rfl (fun cdv A outer s H E vs0 hr =>
    (dss_cons (ds_for PassesOwn.never rfl (di_seq (de_op op_addAll oAdd_ok (de_slice (de_var (pv 0)) do_none (do_some de_int)) (de_lst (da_cons (de_use C_law_folded (hr.mono (by decide)) (by rfl) (da_cons (de_var (pv 0)) da_nil)) da_nil)))) (dg_name (i := 1) sc_law.nd rfl (Or.inl rfl))
    (dss_cons (ds_set (i := 2) sc_law.nd rfl (Or.inr rfl) (de_use C_law_seed (hr.mono (by decide)) (by rfl) (da_cons (de_fz (de_var (pv 1))) da_nil)))
    (dss_cons (ds_set (i := 3) sc_law.nd rfl (Or.inl rfl) (de_lstM da_nil))
    (dss_cons (ds_for PassesOwn.never rfl (di_range1 (by rfl) z_range (da_cons de_int da_nil)) (dg_name (i := 4) sc_law.nd rfl (Or.inl rfl))
    (dss_cons (ds_set (i := 5) sc_law.nd rfl (Or.inl rfl) (de_use C_law_names (hr.mono (by decide)) (by rfl) (da_cons (de_var (pv 2)) (da_cons (de_fz (de_op op_addAll oAdd_ok de_int (de_use C_law_draw (hr.mono (by decide)) (by rfl) (da_cons (de_var (pv 2)) (da_cons (de_ix ix_seq oIx_ok (de_lst (da_cons de_int (da_cons de_int da_nil))) (de_use C_law_draw (hr.mono (by decide)) (by rfl) (da_cons (de_var (pv 2)) (da_cons de_int da_nil))) (fun _ _ => rfl)) da_nil))))) da_nil))))
    (dss_cons (ds_expr (de_mR_append1 (de_var (pv 3)) (da_cons (de_lstM (da_cons (de_make0 C_KeptPoints___init__ (hr.mono (by decide)) (by rfl)) (da_cons de_dnew (da_cons (de_fz (de_var (pv 5))) da_nil)))) da_nil)))
    (dss_one (ds_for PassesOwn.never rfl (di_range1 (by rfl) z_range (da_cons (de_use C_law_draw (hr.mono (by decide)) (by rfl) (da_cons (de_var (pv 2)) (da_cons de_int da_nil))) da_nil)) (dg_name (i := 6) sc_law.nd rfl (Or.inl rfl))
    (dss_one (ds_expr (de_callP (s := 2) (j := 3) (t := 4) (n := 5) C_law_deed (hr.mono (by decide)) (by rfl) (pv 2) (pv 3) (pv 4) (pv 3) (pv 4) (pv 5) (fun _ _ => rfl) (fun _ _ => rfl) (fun _ _ => rfl) (fun _ _ => rfl)))))))))
    (dss_cons (ds_set (i := 7) sc_law.nd rfl (Or.inr rfl) (de_op op_addAll oAdd_ok (de_useL C_law_rows (hr.mono (by decide)) (by rfl) (da_cons (de_ix ix_seq oIxM_ok (de_ix ix_seq oIxM_ok (de_var (pv 3)) de_int (fun _ _ => rfl)) de_int (fun _ _ => rfl)) da_nil)) (de_useL C_law_rows (hr.mono (by decide)) (by rfl) (da_cons (de_ix ix_seq oIxM_ok (de_ix ix_seq oIxM_ok (de_var (pv 3)) de_int (fun _ _ => rfl)) de_int (fun _ _ => rfl)) da_nil))))
    (dss_cons (ds_setLc (i := 8) rfl sc_law.nd rfl rfl (sw_true rfl rfl rfl (by decide +kernel)) (di_range1 (by rfl) z_range (da_cons de_int da_nil)) (blkOk_by (own := [(("turn" : Str), 4)]) (by kernel_rfl)) (by decide) (fun _ _ _ _ _ => (dg_name (i := 4) sc_law.nd rfl (Or.inl rfl))) (fun _ _ _ _ _ => dts_nil) (fun _ _ _ _ _ => (de_use C_law_place (hr.mono (by decide)) (by rfl) (da_cons (de_var (pv 2)) (da_cons (de_fz (de_var (pv 7))) da_nil)))))
    (dss_cons (ds_setLc (i := 9) rfl sc_law.nd rfl rfl (sw_true rfl rfl rfl (by decide +kernel)) (di_range1 (by rfl) z_range (da_cons de_int da_nil)) (blkOk_by (own := [(("turn" : Str), 4)]) (by kernel_rfl)) (by decide) (fun _ _ _ _ _ => (dg_name (i := 4) sc_law.nd rfl (Or.inl rfl))) (fun _ _ _ _ _ => dts_nil) (fun _ _ _ _ _ => (de_use C_law_box (hr.mono (by decide)) (by rfl) (da_cons (de_var (pv 2)) (da_cons (de_fz (de_var (pv 7))) da_nil)))))
    (dss_cons (ds_for PassesOwn.never rfl (di_range1 (by rfl) z_range (da_cons de_int da_nil)) (dg_name (i := 4) sc_law.nd rfl (Or.inl rfl))
    (ds_unpR (j := 3) (is := [10, 11, 5]) rfl (pv 3) (de_use C_law_draw (hr.mono (by decide)) (by rfl) (da_cons (de_var (pv 2)) (da_cons de_int da_nil))) (fun _ _ => rfl) (dn_cons sc_law.nd rfl (Or.inl rfl) (dn_cons sc_law.nd rfl (Or.inl rfl) (dn_cons sc_law.nd rfl (Or.inl rfl) dn_nil))) (fun _ => (ds_for PassesOwn.never rfl (di_range1 (by rfl) z_range (da_cons (de_use C_law_draw (hr.mono (by decide)) (by rfl) (da_cons (de_var (pv 2)) (da_cons (de_ix ix_seq oIx_ok (de_lst (da_cons de_int (da_cons de_int da_nil))) (de_use C_law_draw (hr.mono (by decide)) (by rfl) (da_cons (de_var (pv 2)) (da_cons de_int da_nil))) (fun _ _ => rfl)) da_nil))) da_nil)) (dg_name (i := 6) sc_law.nd rfl (Or.inl rfl))
    (dss_one (ds_expr (de_use C_law_deed (hr.mono (by decide)) (by rfl) (da_cons (de_var (pv 2)) (da_cons (de_var (pv 10)) (da_cons (de_var (pv 11)) (da_cons (de_fz (de_var (pv 5))) da_nil)))))))))
    (fun _ => (ds_if (dw_and (dt_cmp (op_eqP hr.units) oEq_ok (de_use C_law_draw (hr.mono (by decide)) (by rfl) (da_cons (de_var (pv 2)) (da_cons de_int da_nil))) de_int (nomark _)) (dw_and1 (dt_not (dt_val (de_use C_law_is_refused (hr.mono (by decide)) (by rfl) (da_cons (de_var (pv 2)) (da_cons (de_var (pv 10)) (da_cons (de_var (pv 11)) da_nil)))))))).pt
    (dss_one (ds_ret de_bl))
    dss_nil))
    (dss_one (ds_forR (j := 3) (is := [12, 13, 14]) PassesOwn.never rfl (pv 3) (dn_cons sc_law.nd rfl (Or.inl rfl) (dn_cons sc_law.nd rfl (Or.inl rfl) (dn_cons sc_law.nd rfl (Or.inl rfl) dn_nil))) (fun _ =>
    (dss_one (ds_if (dt_not (dt_val (de_use C_law_looked_right (hr.mono (by decide)) (by rfl) (da_cons (de_var (pv 2)) (da_cons (de_var (pv 12)) (da_cons (de_var (pv 13)) (da_cons (de_fz (de_var (pv 8))) (da_cons (de_fz (de_var (pv 9))) da_nil))))))))
    (dss_one (ds_ret de_bl))
    dss_nil)))))))
    (dss_one (ds_forR (j := 3) (is := [12, 13, 14]) PassesOwn.never rfl (pv 3) (dn_cons sc_law.nd rfl (Or.inl rfl) (dn_cons sc_law.nd rfl (Or.inl rfl) (dn_cons sc_law.nd rfl (Or.inl rfl) dn_nil))) (fun _ =>
    (dss_one (ds_if (dt_not (dt_val (de_use C_law_looked_right (hr.mono (by decide)) (by rfl) (da_cons (de_var (pv 2)) (da_cons (de_use C_law_afresh (hr.mono (by decide)) (by rfl) (da_cons (de_var (pv 13)) da_nil)) (da_cons (de_var (pv 13)) (da_cons (de_fz (de_var (pv 8))) (da_cons (de_fz (de_var (pv 9))) da_nil))))))))
    (dss_one (ds_ret de_bl))
    dss_nil)))))))))))))
    (dss_one (ds_ret de_bl))))
theorem all_mk {l : PySem.W.OpenLaw} {w : World} {K : PySem.W.Frag} {h : Heap} {mg : Str → Option Value} {fa : Addr} (X : K.In h) (G : h.Ns mainGlobals mg) (hfa : mg "law" = some (.ref fa))
    {f0 f1 f2 f3 f4 f5 f6 f7 f8 f9 f10 f11 f12 f13 f14 f15 f16 f17 f18 f19 f20 f21 f22 f23 f24 f25 f26 f27 f28 f29 f30 f31 f32 f33 f34 f35 f36 f37 f38 C_KeptPoints C_BelowError C_NoName : Addr} {od0 an0 od1 an1 od2 an2 od3 an3 od4 an4 od5 an5 od6 an6 od7 an7 od8 an8 od9 an9 od10 an10 od11 an11 od12 an12 od13 an13 od14 an14 od15 an15 od16 an16 od17 an17 od18 an18 od19 an19 od20 an20 od21 an21 od22 an22 od23 an23 od24 an24 od25 an25 od26 an26 od27 an27 od28 an28 od29 an29 od30 an30 od31 an31 od32 an32 od33 an33 od34 an34 od35 an35 od36 an36 od37 an37 od38 an38 : Option Addr} {sl0 sl1 sl2 sl3 sl4 sl5 sl6 sl7 sl8 sl9 sl10 sl11 sl12 sl13 sl14 sl15 sl16 sl17 sl18 sl19 sl20 sl21 sl22 sl23 sl24 sl25 sl26 sl27 sl28 sl29 sl30 sl31 sl32 sl33 sl34 sl35 sl36 sl37 sl38 : Array (Option Value)} {oc0 kV0 dc0 pm0 cd0 ct0 oc1 kV1 dc1 pm1 cd1 ct1 oc2 kV2 dc2 pm2 cd2 ct2 oc3 kV3 dc3 pm3 cd3 ct3 oc4 kV4 dc4 pm4 cd4 ct4 oc5 kV5 dc5 pm5 cd5 ct5 oc6 kV6 dc6 pm6 cd6 ct6 oc7 kV7 dc7 pm7 cd7 ct7 oc8 kV8 dc8 pm8 cd8 ct8 oc9 kV9 dc9 pm9 cd9 ct9 oc10 kV10 dc10 pm10 cd10 ct10 oc11 kV11 dc11 pm11 cd11 ct11 oc12 kV12 dc12 pm12 cd12 ct12 oc13 kV13 dc13 pm13 cd13 ct13 oc14 kV14 dc14 pm14 cd14 ct14 oc15 kV15 dc15 pm15 cd15 ct15 oc16 kV16 dc16 pm16 cd16 ct16 oc17 kV17 dc17 pm17 cd17 ct17 oc18 kV18 dc18 pm18 cd18 ct18 oc19 kV19 dc19 pm19 cd19 ct19 oc20 kV20 dc20 pm20 cd20 ct20 oc21 kV21 dc21 pm21 cd21 ct21 oc22 kV22 dc22 pm22 cd22 ct22 oc23 kV23 dc23 pm23 cd23 ct23 oc24 kV24 dc24 pm24 cd24 ct24 oc25 kV25 dc25 pm25 cd25 ct25 oc26 kV26 dc26 pm26 cd26 ct26 oc27 kV27 dc27 pm27 cd27 ct27 oc28 kV28 dc28 pm28 cd28 ct28 oc29 kV29 dc29 pm29 cd29 ct29 oc30 kV30 dc30 pm30 cd30 ct30 oc31 kV31 dc31 pm31 cd31 ct31 oc32 kV32 dc32 pm32 cd32 ct32 oc33 kV33 dc33 pm33 cd33 ct33 oc34 kV34 dc34 pm34 cd34 ct34 oc35 kV35 dc35 pm35 cd35 ct35 oc36 kV36 dc36 pm36 cd36 ct36 oc37 kV37 dc37 pm37 cd37 ct37 oc38 kV38 dc38 pm38 cd38 ct38 : Value} {nm_NoName qn_NoName : Str} {N_NoName : Addr} {bs_NoName : List Value} {sn_NoName : List Str} {sub_NoName : List Value} {ab_NoName : Bool} {col_NoName : Option Bool} {dd_NoName odI_NoName anI_NoName : Option Addr} {m0_NoName m1_NoName m2_NoName m3_NoName m5_NoName : Option Value} {fI_NoName : Addr} {ocI_NoName kVI_NoName dcI_NoName pmI_NoName cdI_NoName ctI_NoName : Value} {slI_NoName : Array (Option Value)}
    (aC_KeptPoints : PySem.W.nsIn K mainGlobals "KeptPoints" = some (some (.ref C_KeptPoints))) (pg_KeptPoints : PySem.W.plainGet K C_KeptPoints Str.empty = true) (hd_KeptPoints : PySem.W.hasDictIn K C_KeptPoints = true) (po_KeptPoints : PySem.W.plainOver K C_KeptPoints = true) (sa_KeptPoints : PySem.W.findIn K (.ref C_KeptPoints) "__setattr__" = some (some (.builtin "object.__setattr__")))
    (mk_KeptPoints : PySem.W.makesIn K C_KeptPoints = true) (kc_KeptPoints : PySem.W.keepIn K (.ref C_KeptPoints) = true)
    (nA_KeptPoints_places : PySem.W.findIn K (.ref C_KeptPoints) "places" = some none)
    (nA_KeptPoints_counted : PySem.W.findIn K (.ref C_KeptPoints) "counted" = some none)
    (aC_BelowError : PySem.W.nsIn K mainGlobals "BelowError" = some (some (.ref C_BelowError))) (tC_BelowError : PySem.W.typeIn K (.ref C_BelowError) = some (.type "type")) (hd_BelowError : PySem.W.hasDictIn K C_BelowError = true) (bC_BelowError : PySem.W.subIn K (.ref C_BelowError) (.type "BaseException") = some true)
    (aC_NoName : PySem.W.nsIn K mainGlobals "NoName" = some (some (.ref C_NoName))) (tC_NoName : PySem.W.typeIn K (.ref C_NoName) = some (.type "type")) (hd_NoName : PySem.W.hasDictIn K C_NoName = true) (bC_NoName : PySem.W.subIn K (.ref C_NoName) (.type "BaseException") = some true)
    (eg_NoName : PySem.W.findIn K (.ref C_NoName) "__getattribute__" = some (some (.builtin "BaseException.__getattribute__"))) (ek_NoName : PySem.W.findIn K (.ref C_NoName) "__getattr__" = some none) (ec_NoName : PySem.W.findIn K (.ref C_NoName) "__class__" = some (some (.builtin "object.__class__"))) (em_NoName : PySem.W.mroIn K C_NoName (.type "object") = some true)
    (xL_NoName : K.lookup C_NoName = some (excClassObj nm_NoName qn_NoName C_NoName N_NoName bs_NoName [.ref C_BelowError, .type "ValueError", .type "Exception", .type "BaseException", .type "object"] true sn_NoName sub_NoName ab_NoName col_NoName dd_NoName m0_NoName m1_NoName m2_NoName m3_NoName m5_NoName "ValueError.__new__"))
    (sa_NoName : PySem.W.findIn K (.ref C_NoName) "__setattr__" = some (some (.builtin "object.__setattr__"))) (kC_NoName : PySem.W.keepIn K (.ref C_NoName) = true) (no_NoName : PySem.W.findIn K (.ref C_NoName) "word" = some none) (iI_NoName : PySem.W.findIn K (.ref C_NoName) "__init__" = some (some (.ref fI_NoName))) (tI_NoName : PySem.W.typeIn K (.ref fI_NoName) = some (.type "function"))
    (lI_NoName : K.lookup fI_NoName = some ⟨ocI_NoName, odI_NoName, .func (PySem.W.fnOf "__init__" "NoName.__init__" (defArgs sI_NoName) (defBody sI_NoName) (defScope sI_NoName) .none kVI_NoName dcI_NoName pmI_NoName anI_NoName cdI_NoName ctI_NoName), slI_NoName⟩) (cI_NoName : PySem.W.codeIn K cdI_NoName "NoName.__init__" = true) (kI_NoName : PySem.W.keepIn K (.ref fI_NoName) = true)
    (sB_BelowError : PySem.W.specialIn K (.ref C_BelowError) "__getattribute__" = some (some (.builtin "type.__getattribute__"))) (rB_BelowError : PySem.W.readsIn K C_BelowError (.type "type") = true) (vB_BelowError : PySem.W.findCls K (.ref C_BelowError) (.type "type") "__init__" = some (.val (.builtin "ValueError.__init__")))
    (su_NoName_NoName : PySem.W.subIn K (.ref C_NoName) (.ref C_NoName) = some true)
    (a0 : PySem.W.nsIn K mainGlobals "_law_folded" = some (some (.ref f0))) (l0 : K.lookup f0 = some ⟨oc0, od0, .func (PySem.W.fnOf "_law_folded" "_law_folded" (defArgs s_law_folded) (defBody s_law_folded) (defScope s_law_folded) .none kV0 dc0 pm0 an0 cd0 ct0), sl0⟩) (c0 : PySem.W.codeIn K cd0 "_law_folded" = true) (k0 : PySem.W.keepIn K (.ref f0) = true)
    (a1 : PySem.W.nsIn K mainGlobals "_law_seed" = some (some (.ref f1))) (l1 : K.lookup f1 = some ⟨oc1, od1, .func (PySem.W.fnOf "_law_seed" "_law_seed" (defArgs s_law_seed) (defBody s_law_seed) (defScope s_law_seed) .none kV1 dc1 pm1 an1 cd1 ct1), sl1⟩) (c1 : PySem.W.codeIn K cd1 "_law_seed" = true) (k1 : PySem.W.keepIn K (.ref f1) = true)
    (a2 : PySem.W.nsIn K mainGlobals "_law_draw" = some (some (.ref f2))) (l2 : K.lookup f2 = some ⟨oc2, od2, .func (PySem.W.fnOf "_law_draw" "_law_draw" (defArgs s_law_draw) (defBody s_law_draw) (defScope s_law_draw) .none kV2 dc2 pm2 an2 cd2 ct2), sl2⟩) (c2 : PySem.W.codeIn K cd2 "_law_draw" = true) (k2 : PySem.W.keepIn K (.ref f2) = true)
    (a3 : PySem.W.nsIn K mainGlobals "_law_names" = some (some (.ref f3))) (l3 : K.lookup f3 = some ⟨oc3, od3, .func (PySem.W.fnOf "_law_names" "_law_names" (defArgs s_law_names) (defBody s_law_names) (defScope s_law_names) .none kV3 dc3 pm3 an3 cd3 ct3), sl3⟩) (c3 : PySem.W.codeIn K cd3 "_law_names" = true) (k3 : PySem.W.keepIn K (.ref f3) = true)
    (a4 : PySem.W.findIn K (.ref C_KeptPoints) "__init__" = some (some (.ref f4))) (i4 : PySem.W.isFn K (.ref f4) = true) (l4 : K.lookup f4 = some ⟨oc4, od4, .func (PySem.W.fnOf "__init__" "KeptPoints.__init__" (defArgs s_KeptPoints___init__) (defBody s_KeptPoints___init__) (defScope s_KeptPoints___init__) .none kV4 dc4 pm4 an4 cd4 ct4), sl4⟩) (c4 : PySem.W.codeIn K cd4 "KeptPoints.__init__" = true) (k4 : PySem.W.keepIn K (.ref f4) = true)
    (a5 : PySem.W.nsIn K mainGlobals "_law_number" = some (some (.ref f5))) (l5 : K.lookup f5 = some ⟨oc5, od5, .func (PySem.W.fnOf "_law_number" "_law_number" (defArgs s_law_number) (defBody s_law_number) (defScope s_law_number) .none kV5 dc5 pm5 an5 cd5 ct5), sl5⟩) (c5 : PySem.W.codeIn K cd5 "_law_number" = true) (k5 : PySem.W.keepIn K (.ref f5) = true)
    (a6 : PySem.W.nsIn K mainGlobals "_law_near" = some (some (.ref f6))) (l6 : K.lookup f6 = some ⟨oc6, od6, .func (PySem.W.fnOf "_law_near" "_law_near" (defArgs s_law_near) (defBody s_law_near) (defScope s_law_near) .none kV6 dc6 pm6 an6 cd6 ct6), sl6⟩) (c6 : PySem.W.codeIn K cd6 "_law_near" = true) (k6 : PySem.W.keepIn K (.ref f6) = true)
    (a7 : PySem.W.nsIn K mainGlobals "_law_place" = some (some (.ref f7))) (l7 : K.lookup f7 = some ⟨oc7, od7, .func (PySem.W.fnOf "_law_place" "_law_place" (defArgs s_law_place) (defBody s_law_place) (defScope s_law_place) .none kV7 dc7 pm7 an7 cd7 ct7), sl7⟩) (c7 : PySem.W.codeIn K cd7 "_law_place" = true) (k7 : PySem.W.keepIn K (.ref f7) = true)
    (a8 : PySem.W.nsIn K mainGlobals "in_corner" = some (some (.ref f8))) (l8 : K.lookup f8 = some ⟨oc8, od8, .func (PySem.W.fnOf "in_corner" "in_corner" (defArgs s_in_corner) (defBody s_in_corner) (defScope s_in_corner) .none kV8 dc8 pm8 an8 cd8 ct8), sl8⟩) (c8 : PySem.W.codeIn K cd8 "in_corner" = true) (k8 : PySem.W.keepIn K (.ref f8) = true)
    (a9 : PySem.W.findIn K (.ref C_KeptPoints) "points_now" = some (some (.ref f9))) (i9 : PySem.W.isFn K (.ref f9) = true) (l9 : K.lookup f9 = some ⟨oc9, od9, .func (PySem.W.fnOf "points_now" "KeptPoints.points_now" (defArgs s_KeptPoints_points_now) (defBody s_KeptPoints_points_now) (defScope s_KeptPoints_points_now) .none kV9 dc9 pm9 an9 cd9 ct9), sl9⟩) (c9 : PySem.W.codeIn K cd9 "KeptPoints.points_now" = true) (k9 : PySem.W.keepIn K (.ref f9) = true)
    (a10 : PySem.W.findIn K (.ref C_KeptPoints) "below_now" = some (some (.ref f10))) (i10 : PySem.W.isFn K (.ref f10) = true) (l10 : K.lookup f10 = some ⟨oc10, od10, .func (PySem.W.fnOf "below_now" "KeptPoints.below_now" (defArgs s_KeptPoints_below_now) (defBody s_KeptPoints_below_now) (defScope s_KeptPoints_below_now) .none kV10 dc10 pm10 an10 cd10 ct10), sl10⟩) (c10 : PySem.W.codeIn K cd10 "KeptPoints.below_now" = true) (k10 : PySem.W.keepIn K (.ref f10) = true)
    (a11 : PySem.W.nsIn K mainGlobals "lies_below" = some (some (.ref f11))) (l11 : K.lookup f11 = some ⟨oc11, od11, .func (PySem.W.fnOf "lies_below" "lies_below" (defArgs s_lies_below) (defBody s_lies_below) (defScope s_lies_below) .none kV11 dc11 pm11 an11 cd11 ct11), sl11⟩) (c11 : PySem.W.codeIn K cd11 "lies_below" = true) (k11 : PySem.W.keepIn K (.ref f11) = true)
    (a12 : PySem.W.findIn K (.ref C_KeptPoints) "above_now" = some (some (.ref f12))) (i12 : PySem.W.isFn K (.ref f12) = true) (l12 : K.lookup f12 = some ⟨oc12, od12, .func (PySem.W.fnOf "above_now" "KeptPoints.above_now" (defArgs s_KeptPoints_above_now) (defBody s_KeptPoints_above_now) (defScope s_KeptPoints_above_now) .none kV12 dc12 pm12 an12 cd12 ct12), sl12⟩) (c12 : PySem.W.codeIn K cd12 "KeptPoints.above_now" = true) (k12 : PySem.W.keepIn K (.ref f12) = true)
    (a13 : PySem.W.findIn K (.ref C_KeptPoints) "count_in" = some (some (.ref f13))) (i13 : PySem.W.isFn K (.ref f13) = true) (l13 : K.lookup f13 = some ⟨oc13, od13, .func (PySem.W.fnOf "count_in" "KeptPoints.count_in" (defArgs s_KeptPoints_count_in) (defBody s_KeptPoints_count_in) (defScope s_KeptPoints_count_in) .none kV13 dc13 pm13 an13 cd13 ct13), sl13⟩) (c13 : PySem.W.codeIn K cd13 "KeptPoints.count_in" = true) (k13 : PySem.W.keepIn K (.ref f13) = true)
    (a14 : PySem.W.findIn K (.ref C_KeptPoints) "put_point" = some (some (.ref f14))) (i14 : PySem.W.isFn K (.ref f14) = true) (l14 : K.lookup f14 = some ⟨oc14, od14, .func (PySem.W.fnOf "put_point" "KeptPoints.put_point" (defArgs s_KeptPoints_put_point) (defBody s_KeptPoints_put_point) (defScope s_KeptPoints_put_point) .none kV14 dc14 pm14 an14 cd14 ct14), sl14⟩) (c14 : PySem.W.codeIn K cd14 "KeptPoints.put_point" = true) (k14 : PySem.W.keepIn K (.ref f14) = true)
    (a15 : PySem.W.findIn K (.ref C_KeptPoints) "need_there" = some (some (.ref f15))) (i15 : PySem.W.isFn K (.ref f15) = true) (l15 : K.lookup f15 = some ⟨oc15, od15, .func (PySem.W.fnOf "need_there" "KeptPoints.need_there" (defArgs s_KeptPoints_need_there) (defBody s_KeptPoints_need_there) (defScope s_KeptPoints_need_there) .none kV15 dc15 pm15 an15 cd15 ct15), sl15⟩) (c15 : PySem.W.codeIn K cd15 "KeptPoints.need_there" = true) (k15 : PySem.W.keepIn K (.ref f15) = true)
    (a16 : PySem.W.findIn K (.ref C_KeptPoints) "take_point" = some (some (.ref f16))) (i16 : PySem.W.isFn K (.ref f16) = true) (l16 : K.lookup f16 = some ⟨oc16, od16, .func (PySem.W.fnOf "take_point" "KeptPoints.take_point" (defArgs s_KeptPoints_take_point) (defBody s_KeptPoints_take_point) (defScope s_KeptPoints_take_point) .none kV16 dc16 pm16 an16 cd16 ct16), sl16⟩) (c16 : PySem.W.codeIn K cd16 "KeptPoints.take_point" = true) (k16 : PySem.W.keepIn K (.ref f16) = true)
    (a17 : PySem.W.findIn K (.ref C_KeptPoints) "move_point" = some (some (.ref f17))) (i17 : PySem.W.isFn K (.ref f17) = true) (l17 : K.lookup f17 = some ⟨oc17, od17, .func (PySem.W.fnOf "move_point" "KeptPoints.move_point" (defArgs s_KeptPoints_move_point) (defBody s_KeptPoints_move_point) (defScope s_KeptPoints_move_point) .none kV17 dc17 pm17 an17 cd17 ct17), sl17⟩) (c17 : PySem.W.codeIn K cd17 "KeptPoints.move_point" = true) (k17 : PySem.W.keepIn K (.ref f17) = true)
    (a18 : PySem.W.nsIn K mainGlobals "_law_deed" = some (some (.ref f18))) (l18 : K.lookup f18 = some ⟨oc18, od18, .func (PySem.W.fnOf "_law_deed" "_law_deed" (defArgs s_law_deed) (defBody s_law_deed) (defScope s_law_deed) .none kV18 dc18 pm18 an18 cd18 ct18), sl18⟩) (c18 : PySem.W.codeIn K cd18 "_law_deed" = true) (k18 : PySem.W.keepIn K (.ref f18) = true)
    (a19 : PySem.W.nsIn K mainGlobals "_law_rows" = some (some (.ref f19))) (l19 : K.lookup f19 = some ⟨oc19, od19, .func (PySem.W.fnOf "_law_rows" "_law_rows" (defArgs s_law_rows) (defBody s_law_rows) (defScope s_law_rows) .none kV19 dc19 pm19 an19 cd19 ct19), sl19⟩) (c19 : PySem.W.codeIn K cd19 "_law_rows" = true) (k19 : PySem.W.keepIn K (.ref f19) = true)
    (a20 : PySem.W.nsIn K mainGlobals "_law_box" = some (some (.ref f20))) (l20 : K.lookup f20 = some ⟨oc20, od20, .func (PySem.W.fnOf "_law_box" "_law_box" (defArgs s_law_box) (defBody s_law_box) (defScope s_law_box) .none kV20 dc20 pm20 an20 cd20 ct20), sl20⟩) (c20 : PySem.W.codeIn K cd20 "_law_box" = true) (k20 : PySem.W.keepIn K (.ref f20) = true)
    (a21 : PySem.W.findIn K (.ref C_KeptPoints) "put_point" = some (some (.ref f21))) (i21 : PySem.W.isFn K (.ref f21) = true) (l21 : K.lookup f21 = some ⟨oc21, od21, .func (PySem.W.fnOf "put_point" "KeptPoints.put_point" (defArgs s_KeptPoints_put_pointX) (defBody s_KeptPoints_put_pointX) (defScope s_KeptPoints_put_pointX) .none kV21 dc21 pm21 an21 cd21 ct21), sl21⟩) (c21 : PySem.W.codeIn K cd21 "KeptPoints.put_point" = true) (k21 : PySem.W.keepIn K (.ref f21) = true)
    (a22 : PySem.W.findIn K (.ref C_KeptPoints) "need_there" = some (some (.ref f22))) (i22 : PySem.W.isFn K (.ref f22) = true) (l22 : K.lookup f22 = some ⟨oc22, od22, .func (PySem.W.fnOf "need_there" "KeptPoints.need_there" (defArgs s_KeptPoints_need_thereX) (defBody s_KeptPoints_need_thereX) (defScope s_KeptPoints_need_thereX) .none kV22 dc22 pm22 an22 cd22 ct22), sl22⟩) (c22 : PySem.W.codeIn K cd22 "KeptPoints.need_there" = true) (k22 : PySem.W.keepIn K (.ref f22) = true)
    (a23 : PySem.W.findIn K (.ref C_KeptPoints) "move_point" = some (some (.ref f23))) (i23 : PySem.W.isFn K (.ref f23) = true) (l23 : K.lookup f23 = some ⟨oc23, od23, .func (PySem.W.fnOf "move_point" "KeptPoints.move_point" (defArgs s_KeptPoints_move_pointX) (defBody s_KeptPoints_move_pointX) (defScope s_KeptPoints_move_pointX) .none kV23 dc23 pm23 an23 cd23 ct23), sl23⟩) (c23 : PySem.W.codeIn K cd23 "KeptPoints.move_point" = true) (k23 : PySem.W.keepIn K (.ref f23) = true)
    (a24 : PySem.W.findIn K (.ref C_KeptPoints) "take_point" = some (some (.ref f24))) (i24 : PySem.W.isFn K (.ref f24) = true) (l24 : K.lookup f24 = some ⟨oc24, od24, .func (PySem.W.fnOf "take_point" "KeptPoints.take_point" (defArgs s_KeptPoints_take_pointX) (defBody s_KeptPoints_take_pointX) (defScope s_KeptPoints_take_pointX) .none kV24 dc24 pm24 an24 cd24 ct24), sl24⟩) (c24 : PySem.W.codeIn K cd24 "KeptPoints.take_point" = true) (k24 : PySem.W.keepIn K (.ref f24) = true)
    (a25 : PySem.W.nsIn K mainGlobals "_law_is_refused" = some (some (.ref f25))) (l25 : K.lookup f25 = some ⟨oc25, od25, .func (PySem.W.fnOf "_law_is_refused" "_law_is_refused" (defArgs s_law_is_refused) (defBody s_law_is_refused) (defScope s_law_is_refused) .none kV25 dc25 pm25 an25 cd25 ct25), sl25⟩) (c25 : PySem.W.codeIn K cd25 "_law_is_refused" = true) (k25 : PySem.W.keepIn K (.ref f25) = true)
    (a26 : PySem.W.findIn K (.ref C_KeptPoints) "pairs_now" = some (some (.ref f26))) (i26 : PySem.W.isFn K (.ref f26) = true) (l26 : K.lookup f26 = some ⟨oc26, od26, .func (PySem.W.fnOf "pairs_now" "KeptPoints.pairs_now" (defArgs s_KeptPoints_pairs_now) (defBody s_KeptPoints_pairs_now) (defScope s_KeptPoints_pairs_now) .none kV26 dc26 pm26 an26 cd26 ct26), sl26⟩) (c26 : PySem.W.codeIn K cd26 "KeptPoints.pairs_now" = true) (k26 : PySem.W.keepIn K (.ref f26) = true)
    (a27 : PySem.W.nsIn K mainGlobals "is_in_box" = some (some (.ref f27))) (l27 : K.lookup f27 = some ⟨oc27, od27, .func (PySem.W.fnOf "is_in_box" "is_in_box" (defArgs s_is_in_box) (defBody s_is_in_box) (defScope s_is_in_box) .none kV27 dc27 pm27 an27 cd27 ct27), sl27⟩) (c27 : PySem.W.codeIn K cd27 "is_in_box" = true) (k27 : PySem.W.keepIn K (.ref f27) = true)
    (a28 : PySem.W.nsIn K mainGlobals "names_in" = some (some (.ref f28))) (l28 : K.lookup f28 = some ⟨oc28, od28, .func (PySem.W.fnOf "names_in" "names_in" (defArgs s_names_in) (defBody s_names_in) (defScope s_names_in) .none kV28 dc28 pm28 an28 cd28 ct28), sl28⟩) (c28 : PySem.W.codeIn K cd28 "names_in" = true) (k28 : PySem.W.keepIn K (.ref f28) = true)
    (a29 : PySem.W.nsIn K mainGlobals "in_boxes" = some (some (.ref f29))) (l29 : K.lookup f29 = some ⟨oc29, od29, .func (PySem.W.fnOf "in_boxes" "in_boxes" (defArgs s_in_boxes) (defBody s_in_boxes) (defScope s_in_boxes) .none kV29 dc29 pm29 an29 cd29 ct29), sl29⟩) (c29 : PySem.W.codeIn K cd29 "in_boxes" = true) (k29 : PySem.W.keepIn K (.ref f29) = true)
    (a30 : PySem.W.findIn K (.ref C_KeptPoints) "box_now" = some (some (.ref f30))) (i30 : PySem.W.isFn K (.ref f30) = true) (l30 : K.lookup f30 = some ⟨oc30, od30, .func (PySem.W.fnOf "box_now" "KeptPoints.box_now" (defArgs s_KeptPoints_box_now) (defBody s_KeptPoints_box_now) (defScope s_KeptPoints_box_now) .none kV30 dc30 pm30 an30 cd30 ct30), sl30⟩) (c30 : PySem.W.codeIn K cd30 "KeptPoints.box_now" = true) (k30 : PySem.W.keepIn K (.ref f30) = true)
    (a31 : PySem.W.nsIn K mainGlobals "_law_told" = some (some (.ref f31))) (l31 : K.lookup f31 = some ⟨oc31, od31, .func (PySem.W.fnOf "_law_told" "_law_told" (defArgs s_law_told) (defBody s_law_told) (defScope s_law_told) .none kV31 dc31 pm31 an31 cd31 ct31), sl31⟩) (c31 : PySem.W.codeIn K cd31 "_law_told" = true) (k31 : PySem.W.keepIn K (.ref f31) = true)
    (a32 : PySem.W.nsIn K mainGlobals "places_in" = some (some (.ref f32))) (l32 : K.lookup f32 = some ⟨oc32, od32, .func (PySem.W.fnOf "places_in" "places_in" (defArgs s_places_in) (defBody s_places_in) (defScope s_places_in) .none kV32 dc32 pm32 an32 cd32 ct32), sl32⟩) (c32 : PySem.W.codeIn K cd32 "places_in" = true) (k32 : PySem.W.keepIn K (.ref f32) = true)
    (a33 : PySem.W.nsIn K mainGlobals "below_each" = some (some (.ref f33))) (l33 : K.lookup f33 = some ⟨oc33, od33, .func (PySem.W.fnOf "below_each" "below_each" (defArgs s_below_each) (defBody s_below_each) (defScope s_below_each) .none kV33 dc33 pm33 an33 cd33 ct33), sl33⟩) (c33 : PySem.W.codeIn K cd33 "below_each" = true) (k33 : PySem.W.keepIn K (.ref f33) = true)
    (a34 : PySem.W.nsIn K mainGlobals "pairs_in_all" = some (some (.ref f34))) (l34 : K.lookup f34 = some ⟨oc34, od34, .func (PySem.W.fnOf "pairs_in_all" "pairs_in_all" (defArgs s_pairs_in_all) (defBody s_pairs_in_all) (defScope s_pairs_in_all) .none kV34 dc34 pm34 an34 cd34 ct34), sl34⟩) (c34 : PySem.W.codeIn K cd34 "pairs_in_all" = true) (k34 : PySem.W.keepIn K (.ref f34) = true)
    (a35 : PySem.W.nsIn K mainGlobals "_law_due" = some (some (.ref f35))) (l35 : K.lookup f35 = some ⟨oc35, od35, .func (PySem.W.fnOf "_law_due" "_law_due" (defArgs s_law_due) (defBody s_law_due) (defScope s_law_due) .none kV35 dc35 pm35 an35 cd35 ct35), sl35⟩) (c35 : PySem.W.codeIn K cd35 "_law_due" = true) (k35 : PySem.W.keepIn K (.ref f35) = true)
    (a36 : PySem.W.nsIn K mainGlobals "_law_looked_right" = some (some (.ref f36))) (l36 : K.lookup f36 = some ⟨oc36, od36, .func (PySem.W.fnOf "_law_looked_right" "_law_looked_right" (defArgs s_law_looked_right) (defBody s_law_looked_right) (defScope s_law_looked_right) .none kV36 dc36 pm36 an36 cd36 ct36), sl36⟩) (c36 : PySem.W.codeIn K cd36 "_law_looked_right" = true) (k36 : PySem.W.keepIn K (.ref f36) = true)
    (a37 : PySem.W.nsIn K mainGlobals "_law_afresh" = some (some (.ref f37))) (l37 : K.lookup f37 = some ⟨oc37, od37, .func (PySem.W.fnOf "_law_afresh" "_law_afresh" (defArgs s_law_afresh) (defBody s_law_afresh) (defScope s_law_afresh) .none kV37 dc37 pm37 an37 cd37 ct37), sl37⟩) (c37 : PySem.W.codeIn K cd37 "_law_afresh" = true) (k37 : PySem.W.keepIn K (.ref f37) = true)
    (a38 : PySem.W.nsIn K mainGlobals "law" = some (some (.ref f38))) (l38 : K.lookup f38 = some ⟨oc38, od38, .func (PySem.W.fnOf "law" "law" (defArgs s_law) (defBody s_law) (defScope s_law) .none kV38 dc38 pm38 an38 cd38 ct38), sl38⟩) (c38 : PySem.W.codeIn K cd38 "law" = true) (k38 : PySem.W.keepIn K (.ref f38) = true)
    (z_len : PySem.W.nsIn K mainGlobals "len" = some none)
    (z_max : PySem.W.nsIn K mainGlobals "max" = some none)
    (z_int : PySem.W.nsIn K mainGlobals "int" = some none)
    (z_range : PySem.W.nsIn K mainGlobals "range" = some none)
    (z_min : PySem.W.nsIn K mainGlobals "min" = some none)
    (z_tuple : PySem.W.nsIn K mainGlobals "tuple" = some none)
    (z_list : PySem.W.nsIn K mainGlobals "list" = some none)
    (z_sum : PySem.W.nsIn K mainGlobals "sum" = some none)
    (z_str : PySem.W.nsIn K mainGlobals "str" = some none) :
    ∃ fd : FuncData, (∀ (s : Shared) (v : Value), BindsTo s fd ⟨[v], []⟩ [("script", v)]) ∧ ∀ base : Heap, K.In base → base.Ns mainGlobals mg → FnOk l.prog w K mg base CX0 7 fa fd ["script"] (spD K 1 m_law) := by
  have e := hfa.symm.trans (PySem.W.mg_of X G a38)
  cases e
  have y_len := PySem.W.mg_none_of X G z_len
  have y_max := PySem.W.mg_none_of X G z_max
  have y_int := PySem.W.mg_none_of X G z_int
  have y_range := PySem.W.mg_none_of X G z_range
  have y_min := PySem.W.mg_none_of X G z_min
  have y_tuple := PySem.W.mg_none_of X G z_tuple
  have y_list := PySem.W.mg_none_of X G z_list
  have y_sum := PySem.W.mg_none_of X G z_sum
  have y_str := PySem.W.mg_none_of X G z_str
  have cl_KeptPoints : Cls K C_KeptPoints := ⟨pg_KeptPoints, hd_KeptPoints, po_KeptPoints, sa_KeptPoints⟩
  have A_KeptPoints_places : AttrIs K "KeptPoints" "places" := ⟨⟨C_KeptPoints, aC_KeptPoints, cl_KeptPoints, nA_KeptPoints_places⟩⟩
  have A_KeptPoints_counted : AttrIs K "KeptPoints" "counted" := ⟨⟨C_KeptPoints, aC_KeptPoints, cl_KeptPoints, nA_KeptPoints_counted⟩⟩
  have G_BelowError := PySem.W.mg_of X G aC_BelowError
  have G_NoName := PySem.W.mg_of X G aC_NoName
  have AT_word : AtX K "word" ["NoName"] := ⟨by decide, (ex_cons aC_NoName ⟨⟨eg_NoName, ek_NoName, bC_NoName, hd_NoName⟩, no_NoName⟩ ex_nil)⟩
  have TC_NoName : Catch K mg "NoName" ["NoName"] := catch_of G_NoName (ex_cons aC_NoName (exm_of bC_NoName hd_NoName tC_NoName su_NoName_NoName) ex_nil)
  refine ⟨PySem.W.fnOf "law" "law" (defArgs s_law) (defBody s_law) (defScope s_law) .none kV38 dc38 pm38 an38 cd38 ct38, fun s v => .of_eq rfl, fun base _ _ => ?_⟩
  have XI_NoName := ci_NoName (P := l.prog) (w := w) (base := base) (fun_mk (st := sI_NoName) lI_NoName cI_NoName kI_NoName) aC_NoName G_NoName ⟨⟨_, _, _, _, _, _, _, _, _, _, _, _, _, _, _, xL_NoName, refs1⟩, sa_NoName, bC_NoName, tC_NoName, kC_NoName⟩ no_NoName iI_NoName tI_NoName G_BelowError sB_BelowError rB_BelowError vB_BelowError y_str
  have D_law_folded := c_law_folded (P := l.prog) (w := w) (base := base) (fun_mk (st := s_law_folded) l0 c0 k0) (PySem.W.mg_of X G a0) y_len
  have D_law_seed := c_law_seed (P := l.prog) (w := w) (base := base) (fun_mk (st := s_law_seed) l1 c1 k1) (PySem.W.mg_of X G a1) y_max y_int
  have D_law_draw := c_law_draw (P := l.prog) (w := w) (base := base) (fun_mk (st := s_law_draw) l2 c2 k2) (PySem.W.mg_of X G a2)
  have D_law_names := c_law_names (P := l.prog) (w := w) (base := base) (fun_mk (st := s_law_names) l3 c3 k3) (PySem.W.mg_of X G a3) y_range y_len D_law_draw
  have D_KeptPoints___init__ := c_KeptPoints___init__ (P := l.prog) (w := w) (base := base) (fun_mk (st := s_KeptPoints___init__) l4 c4 k4) aC_KeptPoints ⟨mk_KeptPoints, a4, i4, kc_KeptPoints⟩ (PySem.W.mg_of X G aC_KeptPoints) A_KeptPoints_places A_KeptPoints_counted
  have D_law_number := c_law_number (P := l.prog) (w := w) (base := base) (fun_mk (st := s_law_number) l5 c5 k5) (PySem.W.mg_of X G a5) y_int D_law_draw
  have D_law_near := c_law_near (P := l.prog) (w := w) (base := base) (fun_mk (st := s_law_near) l6 c6 k6) (PySem.W.mg_of X G a6) y_len y_min y_max D_law_draw D_law_number
  have D_law_place := c_law_place (P := l.prog) (w := w) (base := base) (fun_mk (st := s_law_place) l7 c7 k7) (PySem.W.mg_of X G a7) y_len y_tuple D_law_draw D_law_near
  have D_in_corner := c_in_corner (P := l.prog) (w := w) (base := base) (fun_mk (st := s_in_corner) l8 c8 k8) (PySem.W.mg_of X G a8) y_len
  have D_KeptPoints_points_now := c_KeptPoints_points_now (P := l.prog) (w := w) (mg := mg) (base := base) (fun_mk (st := s_KeptPoints_points_now) l9 c9 k9) aC_KeptPoints cl_KeptPoints ⟨a9, i9, k9⟩ y_tuple A_KeptPoints_places
  have D_KeptPoints_below_now := c_KeptPoints_below_now (P := l.prog) (w := w) (mg := mg) (base := base) (fun_mk (st := s_KeptPoints_below_now) l10 c10 k10) aC_KeptPoints cl_KeptPoints ⟨a10, i10, k10⟩ y_len D_in_corner D_KeptPoints_points_now A_KeptPoints_places
  have D_lies_below := c_lies_below (P := l.prog) (w := w) (base := base) (fun_mk (st := s_lies_below) l11 c11 k11) (PySem.W.mg_of X G a11)
  have D_KeptPoints_above_now := c_KeptPoints_above_now (P := l.prog) (w := w) (mg := mg) (base := base) (fun_mk (st := s_KeptPoints_above_now) l12 c12 k12) aC_KeptPoints cl_KeptPoints ⟨a12, i12, k12⟩ y_len D_lies_below A_KeptPoints_places
  have D_KeptPoints_count_in := c_KeptPoints_count_in (P := l.prog) (w := w) (mg := mg) (base := base) (fun_mk (st := s_KeptPoints_count_in) l13 c13 k13) aC_KeptPoints cl_KeptPoints ⟨a13, i13, k13⟩ D_KeptPoints_below_now D_KeptPoints_above_now A_KeptPoints_counted
  have D_KeptPoints_put_point := c_KeptPoints_put_point (P := l.prog) (w := w) (mg := mg) (base := base) (fun_mk (st := s_KeptPoints_put_point) l14 c14 k14) aC_KeptPoints cl_KeptPoints ⟨a14, i14, k14⟩ D_KeptPoints_count_in A_KeptPoints_places
  have D_KeptPoints_need_there := c_KeptPoints_need_there (P := l.prog) (w := w) (mg := mg) (base := base) (fun_mk (st := s_KeptPoints_need_there) l15 c15 k15) aC_KeptPoints cl_KeptPoints ⟨a15, i15, k15⟩ A_KeptPoints_places
  have D_KeptPoints_take_point := c_KeptPoints_take_point (P := l.prog) (w := w) (mg := mg) (base := base) (fun_mk (st := s_KeptPoints_take_point) l16 c16 k16) aC_KeptPoints cl_KeptPoints ⟨a16, i16, k16⟩ D_KeptPoints_need_there D_KeptPoints_count_in A_KeptPoints_places
  have D_KeptPoints_move_point := c_KeptPoints_move_point (P := l.prog) (w := w) (mg := mg) (base := base) (fun_mk (st := s_KeptPoints_move_point) l17 c17 k17) aC_KeptPoints cl_KeptPoints ⟨a17, i17, k17⟩ D_KeptPoints_need_there D_KeptPoints_count_in A_KeptPoints_places
  have D_law_deed := c_law_deed (P := l.prog) (w := w) (base := base) (fun_mk (st := s_law_deed) l18 c18 k18) (PySem.W.mg_of X G a18) y_len y_tuple D_law_draw D_law_place D_KeptPoints_put_point D_KeptPoints_take_point D_KeptPoints_move_point
  have D_law_rows := c_law_rows (P := l.prog) (w := w) (base := base) (fun_mk (st := s_law_rows) l19 c19 k19) (PySem.W.mg_of X G a19) y_tuple
  have D_law_box := c_law_box (P := l.prog) (w := w) (base := base) (fun_mk (st := s_law_box) l20 c20 k20) (PySem.W.mg_of X G a20) y_min y_max D_law_place D_law_draw
  have D_KeptPoints_put_pointX := c_KeptPoints_put_pointX (P := l.prog) (w := w) (mg := mg) (base := base) (fun_mk (st := s_KeptPoints_put_pointX) l21 c21 k21) aC_KeptPoints cl_KeptPoints ⟨a21, i21, k21⟩ D_KeptPoints_count_in A_KeptPoints_places XI_NoName
  have D_KeptPoints_need_thereX := c_KeptPoints_need_thereX (P := l.prog) (w := w) (mg := mg) (base := base) (fun_mk (st := s_KeptPoints_need_thereX) l22 c22 k22) aC_KeptPoints cl_KeptPoints ⟨a22, i22, k22⟩ A_KeptPoints_places XI_NoName
  have D_KeptPoints_move_pointX := c_KeptPoints_move_pointX (P := l.prog) (w := w) (mg := mg) (base := base) (fun_mk (st := s_KeptPoints_move_pointX) l23 c23 k23) aC_KeptPoints cl_KeptPoints ⟨a23, i23, k23⟩ D_KeptPoints_need_thereX D_KeptPoints_count_in A_KeptPoints_places
  have D_KeptPoints_take_pointX := c_KeptPoints_take_pointX (P := l.prog) (w := w) (mg := mg) (base := base) (fun_mk (st := s_KeptPoints_take_pointX) l24 c24 k24) aC_KeptPoints cl_KeptPoints ⟨a24, i24, k24⟩ D_KeptPoints_need_thereX D_KeptPoints_count_in A_KeptPoints_places
  have D_law_is_refused := c_law_is_refused (P := l.prog) (w := w) (base := base) (fun_mk (st := s_law_is_refused) l25 c25 k25) (PySem.W.mg_of X G a25) y_list y_len D_law_draw D_KeptPoints_put_pointX D_KeptPoints_move_pointX D_KeptPoints_take_pointX TC_NoName AT_word
  have D_KeptPoints_pairs_now := c_KeptPoints_pairs_now (P := l.prog) (w := w) (mg := mg) (base := base) (fun_mk (st := s_KeptPoints_pairs_now) l26 c26 k26) aC_KeptPoints cl_KeptPoints ⟨a26, i26, k26⟩ A_KeptPoints_counted
  have D_is_in_box := c_is_in_box (P := l.prog) (w := w) (base := base) (fun_mk (st := s_is_in_box) l27 c27 k27) (PySem.W.mg_of X G a27)
  have D_names_in := c_names_in (P := l.prog) (w := w) (base := base) (fun_mk (st := s_names_in) l28 c28 k28) (PySem.W.mg_of X G a28) D_is_in_box
  have D_in_boxes := c_in_boxes (P := l.prog) (w := w) (base := base) (fun_mk (st := s_in_boxes) l29 c29 k29) (PySem.W.mg_of X G a29) y_len y_tuple D_names_in
  have D_KeptPoints_box_now := c_KeptPoints_box_now (P := l.prog) (w := w) (mg := mg) (base := base) (fun_mk (st := s_KeptPoints_box_now) l30 c30 k30) aC_KeptPoints cl_KeptPoints ⟨a30, i30, k30⟩ D_in_boxes D_KeptPoints_points_now
  have D_law_told := c_law_told (P := l.prog) (w := w) (base := base) (fun_mk (st := s_law_told) l31 c31 k31) (PySem.W.mg_of X G a31) D_KeptPoints_points_now D_KeptPoints_pairs_now D_KeptPoints_below_now D_KeptPoints_above_now D_KeptPoints_box_now
  have D_places_in := c_places_in (P := l.prog) (w := w) (base := base) (fun_mk (st := s_places_in) l32 c32 k32) (PySem.W.mg_of X G a32)
  have D_below_each := c_below_each (P := l.prog) (w := w) (base := base) (fun_mk (st := s_below_each) l33 c33 k33) (PySem.W.mg_of X G a33) y_int y_sum y_tuple D_places_in D_lies_below
  have D_pairs_in_all := c_pairs_in_all (P := l.prog) (w := w) (base := base) (fun_mk (st := s_pairs_in_all) l34 c34 k34) (PySem.W.mg_of X G a34) y_sum D_below_each
  have D_law_due := c_law_due (P := l.prog) (w := w) (base := base) (fun_mk (st := s_law_due) l35 c35 k35) (PySem.W.mg_of X G a35) y_len D_pairs_in_all D_lies_below D_in_boxes
  have D_law_looked_right := c_law_looked_right (P := l.prog) (w := w) (base := base) (fun_mk (st := s_law_looked_right) l36 c36 k36) (PySem.W.mg_of X G a36) y_len y_range D_law_rows D_law_draw D_law_told D_law_due
  have D_law_afresh := c_law_afresh (P := l.prog) (w := w) (base := base) (fun_mk (st := s_law_afresh) l37 c37 k37) (PySem.W.mg_of X G a37) D_KeptPoints___init__ D_law_rows D_KeptPoints_put_point
  exact c_law_fn (P := l.prog) (w := w) (base := base) (fun_mk (st := s_law) l38 c38 k38) y_range D_law_folded D_law_seed D_law_names D_law_draw D_KeptPoints___init__ D_law_deed D_law_rows D_law_place D_law_box D_law_is_refused D_law_looked_right D_law_afresh
theorem walk {l : PySem.W.OpenLaw} {q : Program} {loose : List Str} {XP : (Str → Option Value) → Heap → Prop} {YP : World → Heap → Prop} {d : DefRec} {K : Params → PySem.W.Frag} (hn : l.most = some 63) (hdf : d.params.defaults = [])
    (hY : ∀ (w : World) (h : Heap), YP w h → (K w.params).In h)
    (F : ∀ (w : World) (mg : Str → Option Value) (fa : Addr) (h : Heap), (K w.params).In h → h.Ns mainGlobals mg → mg d.name = some (.ref fa) →
      ∃ fd : FuncData, (∀ (s : Shared) (u : Value), BindsTo s fd ⟨[u], []⟩ [("script", u)]) ∧ ∀ base : Heap, (K w.params).In base → base.Ns mainGlobals mg → FnOk l.prog w (K w.params) mg base CX0 7 fa fd ["script"] (spD (K w.params) 1 m_law)) :
    PySem.W.WalkO q loose XP YP l.row.toRowW d [] (fun f vs => PySem.call f vs) :=
  L2.walk_ofK (n := 63) (k := 7) (x := "script") (CX := CX0) (sp := fun K => spD K 1 m_law) hn (by decide) hdf ⟨rfl, by decide, by decide⟩ hY F (fun K H a ns hl _ hS => law_sp law_true hl hS) fun _ _ _ _ z => z
end My
open PySem PySem.W PyProof.Rows in
set_option maxRecDepth 100000 in
set_option maxHeartbeats 0 in
theorem PySem.Challenge.cw_belowpoints_k46_whole_two_kept_points_holds : PySem.Challenge.rw_belowpoints_k46_whole_two_kept_points.Holds := by
  w_on; o_law; k_head; (case hw => w_witness2)
  k_fill
  refine My.walk (l := PySem.Challenge.rw_belowpoints_k46_whole_two_kept_points) rfl rfl (fun w h Y => PySem.W.kIn_of Y) ?F
  case F =>
    intro w mg fa h KX G hmg
    refine' My.all_mk KX G hmg ?aC_KeptPoints ?pg_KeptPoints ?hd_KeptPoints ?po_KeptPoints ?sa_KeptPoints ?mk_KeptPoints ?kc_KeptPoints ?nA_KeptPoints_places ?nA_KeptPoints_counted ?aC_BelowError ?tC_BelowError ?hd_BelowError ?bC_BelowError ?aC_NoName ?tC_NoName ?hd_NoName ?bC_NoName ?eg_NoName ?ek_NoName ?ec_NoName ?em_NoName ?xL_NoName ?sa_NoName ?kC_NoName ?no_NoName ?iI_NoName ?tI_NoName ?lI_NoName ?cI_NoName ?kI_NoName ?sB_BelowError ?rB_BelowError ?vB_BelowError ?su_NoName_NoName ?a0 ?l0 ?c0 ?k0 ?a1 ?l1 ?c1 ?k1 ?a2 ?l2 ?c2 ?k2 ?a3 ?l3 ?c3 ?k3 ?a4 ?i4 ?l4 ?c4 ?k4 ?a5 ?l5 ?c5 ?k5 ?a6 ?l6 ?c6 ?k6 ?a7 ?l7 ?c7 ?k7 ?a8 ?l8 ?c8 ?k8 ?a9 ?i9 ?l9 ?c9 ?k9 ?a10 ?i10 ?l10 ?c10 ?k10 ?a11 ?l11 ?c11 ?k11 ?a12 ?i12 ?l12 ?c12 ?k12 ?a13 ?i13 ?l13 ?c13 ?k13 ?a14 ?i14 ?l14 ?c14 ?k14 ?a15 ?i15 ?l15 ?c15 ?k15 ?a16 ?i16 ?l16 ?c16 ?k16 ?a17 ?i17 ?l17 ?c17 ?k17 ?a18 ?l18 ?c18 ?k18 ?a19 ?l19 ?c19 ?k19 ?a20 ?l20 ?c20 ?k20 ?a21 ?i21 ?l21 ?c21 ?k21 ?a22 ?i22 ?l22 ?c22 ?k22 ?a23 ?i23 ?l23 ?c23 ?k23 ?a24 ?i24 ?l24 ?c24 ?k24 ?a25 ?l25 ?c25 ?k25 ?a26 ?i26 ?l26 ?c26 ?k26 ?a27 ?l27 ?c27 ?k27 ?a28 ?l28 ?c28 ?k28 ?a29 ?l29 ?c29 ?k29 ?a30 ?i30 ?l30 ?c30 ?k30 ?a31 ?l31 ?c31 ?k31 ?a32 ?l32 ?c32 ?k32 ?a33 ?l33 ?c33 ?k33 ?a34 ?l34 ?c34 ?k34 ?a35 ?l35 ?c35 ?k35 ?a36 ?l36 ?c36 ?k36 ?a37 ?l37 ?c37 ?k37 ?a38 ?l38 ?c38 ?k38 ?z_len ?z_max ?z_int ?z_range ?z_min ?z_tuple ?z_list ?z_sum ?z_str
    (case aC_KeptPoints => k_is)
    (case pg_KeptPoints => k_is)
    (case hd_KeptPoints => k_is)
    (case po_KeptPoints => k_is)
    (case sa_KeptPoints => k_is)
    (case mk_KeptPoints => k_is)
    (case kc_KeptPoints => k_is)
    (case nA_KeptPoints_places => k_is)
    (case nA_KeptPoints_counted => k_is)
    (case aC_BelowError => k_is)
    (case tC_BelowError => k_is)
    (case hd_BelowError => k_is)
    (case bC_BelowError => k_is)
    (case aC_NoName => k_is)
    (case tC_NoName => k_is)
    (case hd_NoName => k_is)
    (case bC_NoName => k_is)
    (case eg_NoName => k_is)
    (case ek_NoName => k_is)
    (case ec_NoName => k_is)
    (case em_NoName => k_is)
    (case xL_NoName => k_is)
    (case sa_NoName => k_is)
    (case kC_NoName => k_is)
    (case no_NoName => k_is)
    (case iI_NoName => k_is)
    (case tI_NoName => k_is)
    (case lI_NoName => k_is)
    (case cI_NoName => k_is)
    (case kI_NoName => k_is)
    (case sB_BelowError => k_is)
    (case rB_BelowError => k_is)
    (case vB_BelowError => k_is)
    (case su_NoName_NoName => k_is)
    (case a0 => k_is)
    (case l0 => k_is)
    (case c0 => k_is)
    (case k0 => k_is)
    (case a1 => k_is)
    (case l1 => k_is)
    (case c1 => k_is)
    (case k1 => k_is)
    (case a2 => k_is)
    (case l2 => k_is)
    (case c2 => k_is)
    (case k2 => k_is)
    (case a3 => k_is)
    (case l3 => k_is)
    (case c3 => k_is)
    (case k3 => k_is)
    (case a4 => k_is)
    (case i4 => k_is)
    (case l4 => k_is)
    (case c4 => k_is)
    (case k4 => k_is)
    (case a5 => k_is)
    (case l5 => k_is)
    (case c5 => k_is)
    (case k5 => k_is)
    (case a6 => k_is)
    (case l6 => k_is)
    (case c6 => k_is)
    (case k6 => k_is)
    (case a7 => k_is)
    (case l7 => k_is)
    (case c7 => k_is)
    (case k7 => k_is)
    (case a8 => k_is)
    (case l8 => k_is)
    (case c8 => k_is)
    (case k8 => k_is)
    (case a9 => k_is)
    (case i9 => k_is)
    (case l9 => k_is)
    (case c9 => k_is)
    (case k9 => k_is)
    (case a10 => k_is)
    (case i10 => k_is)
    (case l10 => k_is)
    (case c10 => k_is)
    (case k10 => k_is)
    (case a11 => k_is)
    (case l11 => k_is)
    (case c11 => k_is)
    (case k11 => k_is)
    (case a12 => k_is)
    (case i12 => k_is)
    (case l12 => k_is)
    (case c12 => k_is)
    (case k12 => k_is)
    (case a13 => k_is)
    (case i13 => k_is)
    (case l13 => k_is)
    (case c13 => k_is)
    (case k13 => k_is)
    (case a14 => k_is)
    (case i14 => k_is)
    (case l14 => k_is)
    (case c14 => k_is)
    (case k14 => k_is)
    (case a15 => k_is)
    (case i15 => k_is)
    (case l15 => k_is)
    (case c15 => k_is)
    (case k15 => k_is)
    (case a16 => k_is)
    (case i16 => k_is)
    (case l16 => k_is)
    (case c16 => k_is)
    (case k16 => k_is)
    (case a17 => k_is)
    (case i17 => k_is)
    (case l17 => k_is)
    (case c17 => k_is)
    (case k17 => k_is)
    (case a18 => k_is)
    (case l18 => k_is)
    (case c18 => k_is)
    (case k18 => k_is)
    (case a19 => k_is)
    (case l19 => k_is)
    (case c19 => k_is)
    (case k19 => k_is)
    (case a20 => k_is)
    (case l20 => k_is)
    (case c20 => k_is)
    (case k20 => k_is)
    (case a21 => k_is)
    (case i21 => k_is)
    (case l21 => k_is)
    (case c21 => k_is)
    (case k21 => k_is)
    (case a22 => k_is)
    (case i22 => k_is)
    (case l22 => k_is)
    (case c22 => k_is)
    (case k22 => k_is)
    (case a23 => k_is)
    (case i23 => k_is)
    (case l23 => k_is)
    (case c23 => k_is)
    (case k23 => k_is)
    (case a24 => k_is)
    (case i24 => k_is)
    (case l24 => k_is)
    (case c24 => k_is)
    (case k24 => k_is)
    (case a25 => k_is)
    (case l25 => k_is)
    (case c25 => k_is)
    (case k25 => k_is)
    (case a26 => k_is)
    (case i26 => k_is)
    (case l26 => k_is)
    (case c26 => k_is)
    (case k26 => k_is)
    (case a27 => k_is)
    (case l27 => k_is)
    (case c27 => k_is)
    (case k27 => k_is)
    (case a28 => k_is)
    (case l28 => k_is)
    (case c28 => k_is)
    (case k28 => k_is)
    (case a29 => k_is)
    (case l29 => k_is)
    (case c29 => k_is)
    (case k29 => k_is)
    (case a30 => k_is)
    (case i30 => k_is)
    (case l30 => k_is)
    (case c30 => k_is)
    (case k30 => k_is)
    (case a31 => k_is)
    (case l31 => k_is)
    (case c31 => k_is)
    (case k31 => k_is)
    (case a32 => k_is)
    (case l32 => k_is)
    (case c32 => k_is)
    (case k32 => k_is)
    (case a33 => k_is)
    (case l33 => k_is)
    (case c33 => k_is)
    (case k33 => k_is)
    (case a34 => k_is)
    (case l34 => k_is)
    (case c34 => k_is)
    (case k34 => k_is)
    (case a35 => k_is)
    (case l35 => k_is)
    (case c35 => k_is)
    (case k35 => k_is)
    (case a36 => k_is)
    (case l36 => k_is)
    (case c36 => k_is)
    (case k36 => k_is)
    (case a37 => k_is)
    (case l37 => k_is)
    (case c37 => k_is)
    (case k37 => k_is)
    (case a38 => k_is)
    (case l38 => k_is)
    (case c38 => k_is)
    (case k38 => k_is)
    (case z_len => k_is)
    (case z_max => k_is)
    (case z_int => k_is)
    (case z_range => k_is)
    (case z_min => k_is)
    (case z_tuple => k_is)
    (case z_list => k_is)
    (case z_sum => k_is)
    (case z_str => k_is)
