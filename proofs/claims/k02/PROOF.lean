import PyProof.Rows.All
import Wide.All
import OpenK.AllK
import Wide.FinOn
import HandS.ForMost
import HandS.TupAny
import HandS.Flow
import HandS.Style
import HandS.Wide
import HandS.WideBits
import HandS.TupMul
import PyProof.StrOps2
import KE.DataEq
import KE.LtData
import PyProof.Rows.SumAny
import PyProof.WalksMore
import HandS.IsInst
import HandS.More
import HandS.Zip
import KE.GoesEnum
import KE.GoesMore
import HandS.Conv
import HandS.SetFor
import KE.SortData
import HandS.SortInts
import HandS.Text
import HandS.TupLe
import HandS.EndBits
import HandS.DeepEq
import KE.KDictList
import KE.KDictSum
import HandS.Codes
import HandS.SortKw
import KE.SortKeyHeap
import KE.DataMinMax
import KE.DataFind
import HandS.MakeKwOnly
import HandS.Exc
import HandS.ExcValue
import HandS.WordsExc
import HandS.ExcOwn
import HandS.ExcIs
import KE.KExcIs
import HandS.ExcInit
import HandS.ExcField
import HandS.RaiseMore
import KE.KxText
import HandS.TupSets
import HandS.FStr
import PyProof.Rows.CountFlat
import HandS.NoneIn
import HandS.Strs
import KE.KDictZip
import KE.GoesRaise
import HandS.Replace
import PyProof.StrReplace2
import PyProof.MeetsStr3
import PySem.Challenge.RW_belowpoints_k02_no_points
set_option Elab.async false
set_option linter.all false
set_option maxRecDepth 100000
set_option maxHeartbeats 1000000
namespace Pd
open PySem PySem.Spec PyProof.Rows L2
abbrev D := PyData
inductive Sl where
  | p (d : D)
  | ml (t : Option Nat) (l : List D)
  | md (t : Option Nat) (l : List (Key × D))
  | mr (t : Option Nat) (l : List Sl)
  | ob (t : Option Nat) (c : Str) (ns : List Str) (l : List Sl)
  | ex (c : Str) (f : Option (Str × D))
  | fd (l : List (Key × D))
  | hl (t : Option Nat)
  | tp (l : List Sl)
def Sl.tag : Sl → Option Nat
  | .p _ => none
  | .ml t _ => t
  | .md t _ => t
  | .mr t _ => t
  | .ob t _ _ _ => t
  | .ex _ _ => none
  | .fd _ => none
  | .hl t => t
  | .tp _ => none
def Sl.bare : Sl → Sl
  | .p d => .p d
  | .ml _ l => .ml none l
  | .md _ l => .md none l
  | .mr _ l => .mr none l
  | .ob _ c ns l => .ob none c ns l
  | .ex c f => .ex c f
  | .fd l => .fd l
  | .hl _ => .hl none
  | .tp l => .tp l
def Sl.mark (k : Nat) : Sl → Sl
  | .p d => .p d
  | .ml _ l => .ml (some k) l
  | .md _ l => .md (some k) l
  | .mr _ l => .mr (some k) l
  | .ob _ c ns l => .ob (some k) c ns l
  | .ex c f => .ex c f
  | .fd l => .fd l
  | .hl _ => .hl (some k)
  | .tp l => .tp l
abbrev Env := List (Option Sl)
inductive Rs where
  | own (s : Sl)
  | bor (i : Nat)
  | lent (i : Nat) (s : Sl) (k : List Nat)
inductive Fl where
  | nx | bk | ct
  | rt (s : Sl)
inductive Out (α : Type) where
  | ok (a : α) (ρ : Env)
abbrev M (α : Type) := Env → Option (Out α)
def M.ret {α : Type} (a : α) : M α := fun ρ => some (.ok a ρ)
def M.fail {α : Type} : M α := fun _ => none
def M.bind {α β : Type} (f : M α) (g : α → M β) : M β := fun ρ => match f ρ with
  | some (.ok a ρ') => g a ρ'
  | none => none
theorem M.bind_ok {α β : Type} {f : M α} {g : α → M β} {ρ : Env} {b : β} {ρ2 : Env} (h : M.bind f g ρ = some (.ok b ρ2)) : ∃ a ρ1, f ρ = some (.ok a ρ1) ∧ g a ρ1 = some (.ok b ρ2) := by
  unfold M.bind at h
  split at h
  · rename_i a ρ1 e
    exact ⟨a, ρ1, e, h⟩
  · cases h
section
variable {X : Cx}
theorem PE.imp {e : Expr} {t t' : TE} (h : PE X e t) (i : ∀ σ H Q, t' σ H Q → t σ H Q) : PE X e t' := ⟨fun pins s σ H Q I q => h.run pins s σ H Q I (i σ H Q q)⟩
theorem PT.imp {e : Expr} {t t' : TT} (h : PT X e t) (i : ∀ σ H Q, t' σ H Q → t σ H Q) : PT X e t' := ⟨fun pins s σ H Q I q => h.run pins s σ H Q I (i σ H Q q)⟩
theorem PW.imp {e : Expr} {t t' : TT} (h : PW X e t) (i : ∀ σ H Q, t' σ H Q → t σ H Q) : PW X e t' := ⟨fun w pins s σ H Q I q => h.run w pins s σ H Q I (i σ H Q q)⟩
theorem PA.imp {es : List Expr} {t t' : TA} (h : PA X es t) (i : ∀ σ H Q, t' σ H Q → t σ H Q) : PA X es t' := ⟨fun pos pins s σ H Q I q => h.run pos pins s σ H Q I (i σ H Q q)⟩
theorem PK.imp {es : List Keyword} {t t' : TA} (h : PK X es t) (i : ∀ σ H Q, t' σ H Q → t σ H Q) : PK X es t' := ⟨fun pos pins s σ H Q I q => h.run pos pins s σ H Q I (i σ H Q q)⟩
theorem PS.imp {st : Stmt} {t t' : TS} (h : PS X st t) (i : ∀ D σ H, t' D σ H → t D σ H) : PS X st t' := ⟨fun pins s σ H D I q => h.run pins s σ H D I (i D σ H q)⟩
theorem PSs.imp {st : List Stmt} {t t' : TS} (h : PSs X st t) (i : ∀ D σ H, t' D σ H → t D σ H) : PSs X st t' := ⟨fun pins s σ H D I q => h.run pins s σ H D I (i D σ H q)⟩
theorem PO.imp {e : Option Expr} {t t' : TO} (h : PO X e t) (i : ∀ σ H Q, t' σ H Q → t σ H Q) : PO X e t' := ⟨fun pins s σ H Q I q => h.run pins s σ H Q I (i σ H Q q)⟩
end
section
variable {K : PySem.W.Frag} {B B' H H' : Hp}
theorem rd_mono {a : Addr} {u : HO} (e : Same B B') (h : Rd B a u) : Rd B' a u := by
  rcases h with h | ⟨o, h⟩
  · exact Or.inl (e a _ h)
  · exact Or.inr ⟨o, e a _ h⟩
theorem sql_mono {a : Addr} {xs : List V} (e : Same B B') (h : SqL K B a xs) : SqL K B' a xs := by
  rcases h with h | h
  · exact Or.inl (rd_mono e h)
  · exact Or.inr h
theorem sqt_mono {a : Addr} {xs : List V} (e : Same B B') (h : SqT K B a xs) : SqT K B' a xs := by
  rcases h with h | h
  · exact Or.inl (rd_mono e h)
  · exact Or.inr h
mutual
theorem Dp.mono (e : Same B B') : ∀ {d : PyData} {v : V}, Dp K B v d → Dp K B' v d
  | .none, _, h => by cases h; exact .non
  | .bool b, _, h => by cases h; exact .bl b
  | .int i, _, h => by cases h; exact .int i
  | .str x, _, h => by cases h; exact .str x
  | .list ds, _, h => by
    cases h with
    | lst h1 h2 => exact .lst (sql_mono e h1) (DpAll.mono e h2)
  | .tuple ds, _, h => by
    cases h with
    | tup h1 h2 => exact .tup (sqt_mono e h1) (DpAll.mono e h2)
  | .dict _, _, h => by cases h
theorem DpAll.mono (e : Same B B') : ∀ {ds : List PyData} {vs : List V}, DpAll K B vs ds → DpAll K B' vs ds
  | [], _, h => by cases h; exact .nil
  | d :: ds, _, h => by
    cases h with
    | cons h1 h2 => exact .cons (Dp.mono e h1) (DpAll.mono e h2)
end
theorem DpAll.length : ∀ {ds : List PyData} {vs : List V}, DpAll K B vs ds → vs.length = ds.length
  | [], _, h => by cases h; rfl
  | d :: ds, _, h => by
    cases h with
    | cons h1 h2 => rw [List.length_cons, List.length_cons, DpAll.length h2]
theorem DpAll.get : ∀ {ds : List PyData} {vs : List V} {i : Nat} {d : PyData}, DpAll K B vs ds → ds[i]? = some d → ∃ v, vs[i]? = some v ∧ Dp K B v d
  | [], _, i, d, _, e => by simp at e
  | d :: ds, _, i, d', h, e => by
    cases h with
    | cons h1 h2 =>
      cases i with
      | zero => simp at e; subst e; exact ⟨_, rfl, h1⟩
      | succ i => simpa using DpAll.get (i := i) h2 (by simpa using e)
theorem DpAll.append : ∀ {ds es : List PyData} {vs ws : List V}, DpAll K B vs ds → DpAll K B ws es → DpAll K B (vs ++ ws) (ds ++ es)
  | [], _, _, _, h, g => by cases h; exact g
  | d :: ds, _, _, _, h, g => by
    cases h with
    | cons h1 h2 => exact .cons h1 (DpAll.append h2 g)
theorem DpAll.one {v : V} {d : PyData} (h : Dp K B v d) : DpAll K B [v] [d] := .cons h .nil
theorem DpAll.drop : ∀ {ds : List PyData} {vs : List V} (n : Nat), DpAll K B vs ds → DpAll K B (vs.drop n) (ds.drop n)
  | _, _, 0, h => by simpa using h
  | [], _, n + 1, h => by cases h; exact .nil
  | d :: ds, _, n + 1, h => by
    cases h with
    | cons h1 h2 => simpa using DpAll.drop n h2
theorem DpAll.take : ∀ {ds : List PyData} {vs : List V} (n : Nat), DpAll K B vs ds → DpAll K B (vs.take n) (ds.take n)
  | _, _, 0, h => by simpa using DpAll.nil
  | [], _, n + 1, h => by cases h; exact .nil
  | d :: ds, _, n + 1, h => by
    cases h with
    | cons h1 h2 => simpa using DpAll.cons h1 (DpAll.take n h2)
theorem DpAll.set : ∀ {ds : List PyData} {vs : List V} {v : V} {d : PyData} (i : Nat), DpAll K B vs ds → Dp K B v d → DpAll K B (vs.set i v) (ds.set i d)
  | [], _, _, _, i, h, _ => by cases h; exact .nil
  | _ :: ds, _, _, _, 0, h, g => by
    cases h with
    | cons h1 h2 => exact .cons g h2
  | _ :: ds, _, _, _, i + 1, h, g => by
    cases h with
    | cons h1 h2 => exact .cons h1 (DpAll.set i h2 g)
theorem DpAll.erase : ∀ {ds : List PyData} {vs : List V} (i : Nat), DpAll K B vs ds → DpAll K B (vs.eraseIdx i) (ds.eraseIdx i)
  | [], _, i, h => by cases h; exact .nil
  | _ :: ds, _, 0, h => by
    cases h with
    | cons h1 h2 => exact h2
  | _ :: ds, _, i + 1, h => by
    cases h with
    | cons h1 h2 => exact .cons h1 (DpAll.erase i h2)
theorem DpAll.ints : ∀ {ns : List Int} {vs : List V}, DpAll K B vs (ns.map PyData.int) → vs = ns.map V.int
  | [], _, h => by cases h; rfl
  | n :: ns, _, h => by
    cases h with
    | cons h1 h2 => cases h1; rw [List.map_cons, DpAll.ints h2]
theorem DpAll.strs : ∀ {ns : List Str} {vs : List V}, DpAll K B vs (ns.map PyData.str) → vs = ns.map V.str
  | [], _, h => by cases h; rfl
  | n :: ns, _, h => by
    cases h with
    | cons h1 h2 => cases h1; rw [List.map_cons, DpAll.strs h2]
theorem DpAll.bools : ∀ {ns : List Bool} {vs : List V}, DpAll K B vs (ns.map PyData.bool) → vs = ns.map V.bl
  | [], _, h => by cases h; rfl
  | n :: ns, _, h => by
    cases h with
    | cons h1 h2 => cases h1; rw [List.map_cons, DpAll.bools h2]
theorem DpAll.of_ints : ∀ (ns : List Int), DpAll K B (ns.map V.int) (ns.map PyData.int)
  | [] => .nil
  | n :: ns => .cons (.int n) (DpAll.of_ints ns)
end
def KvD (K : PySem.W.Frag) (B : Hp) (ks : List (Key × V)) (l : List (Key × D)) : Prop := Paired (fun (p : Key × V) (q : Key × D) => p.1 = q.1 ∧ Dp K B p.2 q.2) ks l
def ExV (cls : Value) (d : Option Addr) (a : Addr) : HO := .ext fun h => ∃ (oe : Obj) (vs : Array Value), h.get? a = some oe ∧ oe.cls = cls ∧ oe.dict = d ∧ oe.data = .fields vs
def XtIs (K : PySem.W.Frag) (B : Hp) (v : V) (e : D) : Prop := ∃ a o ys l, v = .ref a ∧ B a = some (.frz o (.tup ys)) ∧ o.dict = none ∧ e = .tuple l ∧ DpAll K B ys l
def ExIs (K : PySem.W.Frag) (B : Hp) (v : V) (c : Str) : Option (Str × D) → Prop
  | none => ∃ a C, v = .ref a ∧ PySem.W.nsIn K mainGlobals c = some (some (.ref C)) ∧ B a = some (ExV (.ref C) none a)
  | some (x, e) => (c ≠ "tuple" ∧ ∃ a C dx u, v = .ref a ∧ PySem.W.nsIn K mainGlobals c = some (some (.ref C)) ∧ B a = some (ExV (.ref C) (some dx) a) ∧ B dx = some (.xd [(x, u)]) ∧ Dp K B u e) ∨ c = "tuple" ∧ XtIs K B v e
mutual
def Own (K : PySem.W.Frag) (B H : Hp) : V → Sl → List Addr → Prop
  | v, .p d, T => Dp K B v d ∧ T = []
  | v, .ml _ l, T => ∃ a xs, v = .ref a ∧ T = [a] ∧ H a = some (.lst xs) ∧ DpAll K B xs l
  | v, .md _ l, T => ∃ a ks, v = .ref a ∧ T = [a] ∧ H a = some (.dK ks) ∧ KvD K B ks l
  | v, .mr _ l, T => ∃ a xs Ts, v = .ref a ∧ T = a :: Ts.flatten ∧ H a = some (.lst xs) ∧ OwnL K B H xs l Ts ∧ T.Nodup
  | v, .ob _ c ns l, T => ∃ a dx C vs Ts, v = .ref a ∧ T = a :: dx :: Ts.flatten ∧ PySem.W.nsIn K mainGlobals c = some (some (.ref C)) ∧ H a = some (.ins C dx (ns.zip vs)) ∧ ns.length = vs.length ∧ H dx = some (.own a) ∧ OwnL K B H vs l Ts ∧ T.Nodup
  | v, .ex c f, T => ExIs K B v c f ∧ T = []
  | v, .fd l, T => (∃ a ks o, v = .ref a ∧ B a = some (.frz o (.dK ks)) ∧ KvD K B ks l) ∧ T = []
  | _, .hl _, T => T = []
  | v, .tp l, T => ∃ a xs Ts, v = .ref a ∧ T = Ts.flatten ∧ B a = some (.tup xs) ∧ OwnL K B H xs l Ts ∧ T.Nodup
def OwnL (K : PySem.W.Frag) (B H : Hp) : List V → List Sl → List (List Addr) → Prop
  | [], [], [] => True
  | v :: vs, s :: ss, T :: Ts => Own K B H v s T ∧ OwnL K B H vs ss Ts
  | _, _, _ => False
end
theorem KvD.mono {K : PySem.W.Frag} {B B' : Hp} (e : Same B B') {ks : List (Key × V)} {l : List (Key × D)} (h : KvD K B ks l) : KvD K B' ks l :=
  Paired.mapP h fun p q r => ⟨r.1, Dp.mono e r.2⟩
theorem ExIs.mono {K : PySem.W.Frag} {B B' : Hp} (e : Same B B') {v : V} {c : Str} : ∀ {f : Option (Str × D)}, ExIs K B v c f → ExIs K B' v c f
  | none, h => by
    obtain ⟨a, C, h1, h2, h3⟩ := h
    exact ⟨a, C, h1, h2, e _ _ h3⟩
  | some (x, d), h => by
    rcases h with ⟨h0, a, C, dx, u, h1, h2, h3, h4, h5⟩ | ⟨h0, a, o, ys, l, h1, h2, h3, h4, h5⟩
    · exact Or.inl ⟨h0, a, C, dx, u, h1, h2, e _ _ h3, e _ _ h4, Dp.mono e h5⟩
    · exact Or.inr ⟨h0, a, o, ys, l, h1, e _ _ h2, h3, h4, DpAll.mono e h5⟩
section
variable {K : PySem.W.Frag} {B B' H H' : Hp}
mutual
theorem Own.keepA (e : Same B B') : ∀ {s : Sl} {v : V} {T : List Addr}, Own K B H v s T → (∀ a ∈ T, H' a = H a) → Own K B' H' v s T
  | .p d, v, T, h, k => ⟨Dp.mono e h.1, h.2⟩
  | .ml t l, v, T, h, k => by
    obtain ⟨a, xs, rfl, rfl, h1, h2⟩ := h
    exact ⟨a, xs, rfl, rfl, by rw [k a (by simp)]; exact h1, DpAll.mono e h2⟩
  | .md t l, v, T, h, k => by
    obtain ⟨a, xs, rfl, rfl, h1, h2⟩ := h
    exact ⟨a, xs, rfl, rfl, by rw [k a (by simp)]; exact h1, KvD.mono e h2⟩
  | .mr t l, v, T, h, k => by
    obtain ⟨a, xs, Ts, rfl, rfl, h1, h2, h3⟩ := h
    exact ⟨a, xs, Ts, rfl, rfl, by rw [k a (by simp)]; exact h1, OwnL.keepA e h2 (fun b hb => k b (List.mem_cons_of_mem _ hb)), h3⟩
  | .ob t c ns l, v, T, h, k => by
    obtain ⟨a, dx, C, vs, Ts, rfl, rfl, h1, h2, h3, h4, h5, h6⟩ := h
    exact ⟨a, dx, C, vs, Ts, rfl, rfl, h1, by rw [k a (by simp)]; exact h2, h3, by rw [k dx (by simp)]; exact h4, OwnL.keepA e h5 (fun b hb => k b (List.mem_cons_of_mem _ (List.mem_cons_of_mem _ hb))), h6⟩
  | .ex c f, v, T, h, k => ⟨ExIs.mono e h.1, h.2⟩
  | .fd l, v, T, h, k => by
    obtain ⟨⟨a, ks, o, h1, h2, h3⟩, h4⟩ := h
    exact ⟨⟨a, ks, o, h1, e _ _ h2, KvD.mono e h3⟩, h4⟩
  | .hl _, v, T, h, k => h
  | .tp l, v, T, h, k => by
    obtain ⟨a, xs, Ts, rfl, rfl, h1, h2, h3⟩ := h
    exact ⟨a, xs, Ts, rfl, rfl, e _ _ h1, OwnL.keepA e h2 k, h3⟩
theorem OwnL.keepA (e : Same B B') : ∀ {ss : List Sl} {vs : List V} {Ts : List (List Addr)}, OwnL K B H vs ss Ts → (∀ a ∈ Ts.flatten, H' a = H a) → OwnL K B' H' vs ss Ts
  | [], [], [], _, _ => True.intro
  | s :: ss, v :: vs, T :: Ts, h, k => ⟨Own.keepA e h.1 (fun a ha => k a (by rw [List.flatten_cons]; exact List.mem_append_left _ ha)), OwnL.keepA e h.2 (fun a ha => k a (by rw [List.flatten_cons]; exact List.mem_append_right _ ha))⟩
  | [], [], _ :: _, h, _ => h.elim
  | [], _ :: _, _, h, _ => h.elim
  | _ :: _, [], _, h, _ => h.elim
  | _ :: _, _ :: _, [], h, _ => h.elim
end
mutual
theorem Own.liveA : ∀ {s : Sl} {v : V} {T : List Addr}, Own K B H v s T → ∀ a ∈ T, H a ≠ none
  | .p d, v, T, h, b, hb => by rw [h.2] at hb; cases hb
  | .ml t l, v, T, h, b, hb => by
    obtain ⟨a, xs, rfl, rfl, h1, h2⟩ := h
    simp at hb; subst hb; rw [h1]; simp
  | .md t l, v, T, h, b, hb => by
    obtain ⟨a, xs, rfl, rfl, h1, h2⟩ := h
    simp at hb; subst hb; rw [h1]; simp
  | .mr t l, v, T, h, b, hb => by
    obtain ⟨a, xs, Ts, rfl, rfl, h1, h2, h3⟩ := h
    rcases List.mem_cons.mp hb with rfl | hb
    · rw [h1]; simp
    · exact OwnL.liveA h2 b hb
  | .ob t c ns l, v, T, h, b, hb => by
    obtain ⟨a, dx, C, vs, Ts, rfl, rfl, h1, h2, h3, h4, h5, h6⟩ := h
    rcases List.mem_cons.mp hb with rfl | hb
    · rw [h2]; simp
    · rcases List.mem_cons.mp hb with rfl | hb
      · rw [h4]; simp
      · exact OwnL.liveA h5 b hb
  | .ex c f, v, T, h, b, hb => by rw [h.2] at hb; cases hb
  | .fd l, v, T, h, b, hb => by rw [h.2] at hb; cases hb
  | .hl _, v, T, h, b, hb => by rw [show T = [] from h] at hb; cases hb
  | .tp l, v, T, h, b, hb => by
    obtain ⟨a, xs, Ts, rfl, rfl, h1, h2, h3⟩ := h
    exact OwnL.liveA h2 b hb
theorem OwnL.liveA : ∀ {ss : List Sl} {vs : List V} {Ts : List (List Addr)}, OwnL K B H vs ss Ts → ∀ a ∈ Ts.flatten, H a ≠ none
  | [], [], [], _, a, h => by simp at h
  | s :: ss, v :: vs, T :: Ts, g, a, h => by
    rw [List.flatten_cons, List.mem_append] at h
    rcases h with h | h
    · exact Own.liveA g.1 a h
    · exact OwnL.liveA g.2 a h
  | [], [], _ :: _, h, _, _ => h.elim
  | [], _ :: _, _, h, _, _ => h.elim
  | _ :: _, [], _, h, _, _ => h.elim
  | _ :: _, _ :: _, [], h, _, _ => h.elim
end
end
section
variable {K : PySem.W.Frag} {B B' H H' : Hp} {v : V} {s : Sl} {T : List Addr}
theorem Own.keep (h : Own K B H v s T) (e : Same B B') (k : ∀ a ∈ T, H' a = H a) : Own K B' H' v s T := Own.keepA e h k
theorem Own.live (h : Own K B H v s T) : ∀ a ∈ T, H a ≠ none := Own.liveA h
theorem Own.nodup (h : Own K B H v s T) : T.Nodup := by
  cases s with
  | p d => rw [h.2]; exact List.nodup_nil
  | ml t l => obtain ⟨a, xs, rfl, rfl, h1, h2⟩ := h; simp
  | md t l => obtain ⟨a, xs, rfl, rfl, h1, h2⟩ := h; simp
  | mr t l => obtain ⟨a, xs, Ts, rfl, rfl, h1, h2, h3⟩ := h; exact h3
  | ob t c ns l => obtain ⟨a, dx, C, vs, Ts, rfl, rfl, h1, h2, h3, h4, h5, h6⟩ := h; exact h6
  | ex c f => rw [h.2]; exact List.nodup_nil
  | fd l => rw [h.2]; exact List.nodup_nil
  | hl t => rw [show T = [] from h]; exact List.nodup_nil
  | tp l => obtain ⟨a, xs, Ts, rfl, rfl, h1, h2, h3⟩ := h; exact h3
theorem Own.bare (h : Own K B H v s T) : Own K B H v s.bare T := by cases s <;> exact h
theorem Own.mark {k : Nat} (h : Own K B H v s T) : Own K B H v (s.mark k) T := by cases s <;> exact h
theorem Sl.bare_tag (s : Sl) : s.bare.tag = none := by cases s <;> rfl
end
structure Good (K : PySem.W.Frag) (vs0 : List V) (B H : Hp) (σ : L2.St) (ρ : Env) (fs : Nat → List Addr) : Prop where
  ext : Same B H
  len : σ.length = ρ.length
  at_ : ∀ i s, ρ[i]? = some (some s) → ∃ v, σ[i]? = some (some v) ∧ Own K B H v s (fs i) ∧ (∀ k, s.tag = some k → vs0[k]? = some v)
  emp : ∀ i, (∀ s, ρ[i]? ≠ some (some s)) → fs i = []
  dis : ∀ i j a, a ∈ fs i → a ∈ fs j → i = j
  out : ∀ i a, a ∈ fs i → B a = none
abbrev InF (fs : Nat → List Addr) : Addr → Prop := fun a => ∃ i, a ∈ fs i
abbrev UnF (F : Addr → Prop) (T : List Addr) : Addr → Prop := fun a => F a ∨ a ∈ T
structure Fr (B H : Hp) (F : Addr → Prop) (B' H' : Hp) (F' : Addr → Prop) : Prop where
  bb : Same B B'
  keep : ∀ a, H a ≠ none → ¬ F a → H' a = H a
  live : ∀ a, H a ≠ none → H' a ≠ none
  own : ∀ a, F' a → F a ∨ H a = none
  bnew : ∀ a, H a ≠ none → ¬ F a → B a = none → B' a = none
section
variable {B B1 B2 B' H H1 H2 H' : Hp} {F F1 F2 F' G : Addr → Prop}
theorem Fr.refl (B H : Hp) (F : Addr → Prop) : Fr B H F B H F := ⟨Same.refl B, fun _ _ _ => rfl, fun _ h => h, fun _ h => Or.inl h, fun _ _ _ h => h⟩
theorem Fr.trans (x : Fr B H F B1 H1 F1) (y : Fr B1 H1 F1 B2 H2 F2) : Fr B H F B2 H2 F2 := by
  have nf : ∀ a, H a ≠ none → ¬ F a → ¬ F1 a := fun a h nf f1 => by
    rcases x.own a f1 with h2 | h2
    · exact nf h2
    · exact h h2
  refine ⟨x.bb.trans y.bb, fun a h n => ?_, fun a h => y.live a (x.live a h), fun a f => ?_, fun a h n b => y.bnew a (x.live a h) (nf a h n) (x.bnew a h n b)⟩
  · exact (y.keep a (x.live a h) (nf a h n)).trans (x.keep a h n)
  · rcases y.own a f with h2 | h2
    · exact x.own a h2
    · refine Or.inr ?_
      cases e : H a with
      | none => rfl
      | some o => exact absurd h2 (x.live a (by rw [e]; simp))
theorem Fr.weak (x : Fr B H F B' H' F') (hF : ∀ a, F a → G a) {G' : Addr → Prop} (hG : ∀ a, G' a → F' a ∨ G a ∨ H a = none) : Fr B H G B' H' G' := by
  refine ⟨x.bb, fun a h n => x.keep a h fun f => n (hF a f), x.live, fun a f => ?_, fun a h n b => x.bnew a h (fun f => n (hF a f)) b⟩
  rcases hG a f with h | h | h
  · rcases x.own a h with h | h
    · exact Or.inl (hF a h)
    · exact Or.inr h
  · exact Or.inl h
  · exact Or.inr h
theorem Fr.frame (x : Fr B H F B' H' F') (T : List Addr) : Fr B H (UnF F T) B' H' (UnF F' T) :=
  x.weak (fun a f => Or.inl f) fun a f => by
    rcases f with f | f
    · exact Or.inl f
    · exact Or.inr (Or.inl (Or.inr f))
theorem Fr.new {p : Addr} {o : HO} (h : H p = none) (hb : Same B H) : Fr B H (fun _ => False) (upd B p o) (upd H p o) (fun _ => False) := by
  have bp : B p = none := by
    cases e : B p with
    | none => rfl
    | some u => rw [hb p u e] at h; cases h
  have ne : ∀ a, H a ≠ none → a ≠ p := fun a ha e => ha (by rw [e]; exact h)
  refine ⟨fun a u e => ?_, fun a ha _ => upd_ne (ne a ha), fun a ha => by rw [upd_ne (ne a ha)]; exact ha, fun _ f => f.elim, fun a ha _ hB => by rw [upd_ne (ne a ha)]; exact hB⟩
  rw [upd_ne (ne_of_none e bp)]
  exact e
theorem same_upd {p : Addr} {o : HO} (hb : Same B H) : Same (upd B p o) (upd H p o) := fun a u e => by
  by_cases h : a = p
  · subst h
    rw [upd_same] at e ⊢
    exact e
  · rw [upd_ne h] at e ⊢
    exact hb a u e
theorem Fr.newL {p : Addr} {o : HO} (h : H p = none) : Fr B H (fun _ => False) B (upd H p o) (fun a => a ∈ [p]) := by
  have ne : ∀ a, H a ≠ none → a ≠ p := fun a ha e => ha (by rw [e]; exact h)
  refine ⟨Same.refl B, fun a ha _ => upd_ne (ne a ha), fun a ha => by rw [upd_ne (ne a ha)]; exact ha, fun a f => ?_, fun a _ _ hB => hB⟩
  simp at f; subst f; exact Or.inr h
theorem Fr.sameH (x : Fr B H (fun _ => False) B' H' F') : Same H H' := fun a o e => by
  rw [x.keep a (by rw [e]; simp) (fun f => f)]
  exact e
end
section
variable {K : PySem.W.Frag} {vs0 : List V} {B H B' H' : Hp} {σ : L2.St} {ρ : Env} {fs : Nat → List Addr}
theorem Good.lives (g : Good K vs0 B H σ ρ fs) {i : Nat} {a : Addr} (h : a ∈ fs i) : H a ≠ none := by
  by_cases e : ∃ s, ρ[i]? = some (some s)
  · obtain ⟨s, e⟩ := e
    obtain ⟨v, _, o, _⟩ := g.at_ i s e
    exact o.live a h
  · rw [g.emp i (fun s q => e ⟨s, q⟩)] at h
    cases h
theorem Good.grow {F F' : Addr → Prop} (g : Good K vs0 B H σ ρ fs) (x : Fr B H F B' H' F') (n : ∀ a, InF fs a → ¬ F a) (e : Same B' H') : Good K vs0 B' H' σ ρ fs where
  ext := e
  len := g.len
  at_ := fun i s h => by
    obtain ⟨v, h1, h2, h3⟩ := g.at_ i s h
    exact ⟨v, h1, h2.keep x.bb fun a ha => x.keep a (g.lives ha) (n a ⟨i, ha⟩), h3⟩
  emp := g.emp
  dis := g.dis
  out := fun i a h => x.bnew a (g.lives h) (n a ⟨i, h⟩) (g.out i a h)
end
def Sl.kid1 : Sl → Nat → Option Sl
  | .mr _ l, k => l[k]?
  | .ob _ _ _ l, k => l[k]?
  | _, _ => none
def Sl.setKid1 (s : Sl) (k : Nat) (c : Sl) : Sl := match s with
  | .mr t l => .mr t (l.set k c)
  | .ob t C ns l => .ob t C ns (l.set k c)
  | s => s
def Kid1 (H : Hp) (v0 : V) (s : Sl) (k : Nat) (v : V) : Prop := match s with
  | .mr _ _ => ∃ a xs, v0 = .ref a ∧ H a = some (.lst xs) ∧ xs[k]? = some v
  | .ob _ _ _ _ => ∃ a C dx fs, v0 = .ref a ∧ H a = some (.ins C dx fs) ∧ (fs.map (·.2))[k]? = some v
  | _ => False
section
theorem flat_set_mem {a : Addr} : ∀ {Ts : List (List Addr)} {k : Nat} {T' : List Addr}, a ∈ (Ts.set k T').flatten → a ∈ T' ∨ ∃ j T, j ≠ k ∧ Ts[j]? = some T ∧ a ∈ T
  | [], _, _, h => by simp at h
  | T0 :: Ts, 0, T', h => by
    rw [List.set_cons_zero, List.flatten_cons, List.mem_append] at h
    rcases h with h | h
    · exact Or.inl h
    · obtain ⟨T, hT, ha⟩ := List.mem_flatten.mp h
      obtain ⟨j, hj⟩ := List.getElem?_of_mem hT
      exact Or.inr ⟨j + 1, T, by omega, by simpa using hj, ha⟩
  | T0 :: Ts, k + 1, T', h => by
    rw [List.set_cons_succ, List.flatten_cons, List.mem_append] at h
    rcases h with h | h
    · exact Or.inr ⟨0, T0, by omega, rfl, h⟩
    · rcases flat_set_mem h with h | ⟨j, T, h1, h2, h3⟩
      · exact Or.inl h
      · exact Or.inr ⟨j + 1, T, by omega, by simpa using h2, h3⟩
theorem flat_set_nodup : ∀ {Ts : List (List Addr)} {k : Nat} {T T' : List Addr}, Ts.flatten.Nodup → Ts[k]? = some T → T'.Nodup → (∀ a ∈ T', a ∈ Ts.flatten → a ∈ T) → (Ts.set k T').flatten.Nodup
  | [], _, _, _, _, h, _, _ => by simp at h
  | T0 :: Ts, 0, T, T', hn, h, hn', hd => by
    simp at h
    subst h
    rw [List.flatten_cons, List.nodup_append] at hn
    rw [List.set_cons_zero, List.flatten_cons, List.nodup_append]
    refine ⟨hn', hn.2.1, fun a ha b hb e => ?_⟩
    subst e
    exact hn.2.2 a (hd a ha (by rw [List.flatten_cons]; exact List.mem_append_right _ hb)) a hb rfl
  | T0 :: Ts, k + 1, T, T', hn, h, hn', hd => by
    rw [List.flatten_cons, List.nodup_append] at hn
    have h' : Ts[k]? = some T := by simpa using h
    rw [List.set_cons_succ, List.flatten_cons, List.nodup_append]
    refine ⟨hn.1, flat_set_nodup hn.2.1 h' hn' fun a ha hf => hd a ha (by rw [List.flatten_cons]; exact List.mem_append_right _ hf), fun a ha b hb e => ?_⟩
    subst e
    rcases flat_set_mem hb with q | ⟨j, T2, h1, h2, h3⟩
    · have := hd a q (by rw [List.flatten_cons]; exact List.mem_append_left _ ha)
      exact hn.2.2 a ha a (List.mem_flatten.mpr ⟨T, List.mem_of_getElem? h', this⟩) rfl
    · exact hn.2.2 a ha a (List.mem_flatten.mpr ⟨T2, List.mem_of_getElem? h2, h3⟩) rfl
theorem flat_injL {a : Addr} : ∀ {Ts : List (List Addr)} {k k' : Nat} {T T' : List Addr}, Ts.flatten.Nodup → Ts[k]? = some T → Ts[k']? = some T' → a ∈ T → a ∈ T' → k = k'
  | [], k, _, _, _, _, h, _, _, _ => by simp at h
  | T0 :: Ts, k, k', T, T', hn, h, h', ha, ha' => by
    rw [List.flatten_cons, List.nodup_append] at hn
    cases k with
    | zero =>
      simp at h; subst h
      cases k' with
      | zero => rfl
      | succ k' => exact (hn.2.2 a ha a (List.mem_flatten.mpr ⟨T', List.mem_of_getElem? (by simpa using h'), ha'⟩) rfl).elim
    | succ k =>
      cases k' with
      | zero =>
        simp at h'; subst h'
        exact (hn.2.2 a ha' a (List.mem_flatten.mpr ⟨T, List.mem_of_getElem? (by simpa using h), ha⟩) rfl).elim
      | succ k' => exact congrArg (· + 1) (flat_injL hn.2.1 (by simpa using h) (by simpa using h') ha ha')
variable {K : PySem.W.Frag} {B B' H H' : Hp}
theorem OwnL.get : ∀ {ss : List Sl} {vs : List V} {Ts : List (List Addr)} {k : Nat} {s : Sl}, OwnL K B H vs ss Ts → ss[k]? = some s → ∃ v T, vs[k]? = some v ∧ Ts[k]? = some T ∧ Own K B H v s T
  | [], [], [], k, s, _, e => by simp at e
  | s :: ss, v :: vs, T :: Ts, 0, s', h, e => by simp at e; subst e; exact ⟨v, T, rfl, rfl, h.1⟩
  | s :: ss, v :: vs, T :: Ts, k + 1, s', h, e => by simpa using OwnL.get (k := k) h.2 (by simpa using e)
  | [], [], _ :: _, _, _, h, _ => h.elim
  | [], _ :: _, _, _, _, h, _ => h.elim
  | _ :: _, [], _, _, _, h, _ => h.elim
  | _ :: _, _ :: _, [], _, _, h, _ => h.elim
theorem OwnL.set (e : Same B B') : ∀ {ss : List Sl} {vs : List V} {Ts : List (List Addr)} {k : Nat} {v : V} {c' : Sl} {T' : List Addr}, OwnL K B H vs ss Ts → (∀ j T, j ≠ k → Ts[j]? = some T → ∀ a ∈ T, H' a = H a) → vs[k]? = some v → Own K B' H' v c' T' →
    OwnL K B' H' vs (ss.set k c') (Ts.set k T')
  | [], [], [], k, v, _, _, _, _, e, _ => by simp at e
  | s :: ss, u :: vs, T :: Ts, 0, v, c', T', h, kp, ev, o => by
    simp at ev
    subst ev
    refine ⟨o, OwnL.keepA e h.2 fun a ha => ?_⟩
    obtain ⟨T2, hT, ha⟩ := List.mem_flatten.mp ha
    obtain ⟨j, hj⟩ := List.getElem?_of_mem hT
    exact kp (j + 1) T2 (by omega) (by simpa using hj) a ha
  | s :: ss, u :: vs, T :: Ts, k + 1, v, c', T', h, kp, ev, o => by
    refine ⟨h.1.keep e fun a ha => kp 0 T (by omega) rfl a ha, OwnL.set e h.2 (fun j T2 hj hT => kp (j + 1) T2 (by omega) (by simpa using hT)) (by simpa using ev) o⟩
  | [], [], _ :: _, _, _, _, _, h, _, _, _ => h.elim
  | [], _ :: _, _, _, _, _, _, h, _, _, _ => h.elim
  | _ :: _, [], _, _, _, _, _, h, _, _, _ => h.elim
  | _ :: _, _ :: _, [], _, _, _, _, h, _, _, _ => h.elim
theorem zip_snd : ∀ {ns : List Str} {vs : List V}, ns.length = vs.length → (ns.zip vs).map (·.2) = vs
  | [], [], _ => rfl
  | n :: ns, v :: vs, h => by rw [List.zip_cons_cons, List.map_cons, zip_snd (by simpa using h)]
  | [], _ :: _, h => by simp at h
  | _ :: _, [], h => by simp at h
theorem Own.kid1 {v0 v : V} {s c : Sl} {k : Nat} {T : List Addr} (o : Own K B H v0 s T) (kd : Kid1 H v0 s k v) (e : s.kid1 k = some c) :
    ∃ Tk, Own K B H v c Tk ∧ (∀ a ∈ Tk, a ∈ T) ∧ ∀ {B' H' : Hp} {c' : Sl} {T' : List Addr}, Same B B' → (∀ a ∈ T, a ∉ Tk → H' a = H a) → Own K B' H' v c' T' → (∀ a ∈ T', a ∈ T → a ∈ Tk) →
      ∃ T2, Own K B' H' v0 (s.setKid1 k c') T2 ∧ ∀ a ∈ T2, (a ∈ T ∧ a ∉ Tk) ∨ a ∈ T' := by
  cases s with
  | mr t l =>
    obtain ⟨a, xs, rfl, h1, h2⟩ := kd
    obtain ⟨a', xs', Ts, q1, rfl, q2, q3, q4⟩ := o
    cases q1
    rw [h1] at q2
    cases q2
    have e : l[k]? = some c := e
    obtain ⟨v', Tk, w1, w2, w3⟩ := OwnL.get q3 e
    rw [h2] at w1
    cases w1
    rw [List.nodup_cons] at q4
    have off : ∀ j T, j ≠ k → Ts[j]? = some T → ∀ b ∈ T, b ∉ Tk := fun j T hj hT b hb hb2 => hj (flat_injL q4.2 hT w2 hb hb2)
    have aT : a ∉ Tk := fun h => q4.1 (List.mem_flatten.mpr ⟨Tk, List.mem_of_getElem? w2, h⟩)
    refine ⟨Tk, w3, fun b hb => List.mem_cons_of_mem _ (List.mem_flatten.mpr ⟨Tk, List.mem_of_getElem? w2, hb⟩), fun {B' H' c' T'} sb kp o' dj => ?_⟩
    refine ⟨a :: (Ts.set k T').flatten, ⟨a, xs, Ts.set k T', rfl, rfl, by rw [kp a (by simp) aT]; exact h1, OwnL.set sb q3 (fun j T hj hT b hb => kp b (List.mem_cons_of_mem _ (List.mem_flatten.mpr ⟨T, List.mem_of_getElem? hT, hb⟩)) (off j T hj hT b hb)) h2 o', ?_⟩, fun b hb => ?_⟩
    · rw [List.nodup_cons]
      refine ⟨fun h => ?_, flat_set_nodup q4.2 w2 o'.nodup fun b hb hf => dj b hb (List.mem_cons_of_mem _ hf)⟩
      rcases flat_set_mem h with h | ⟨j, T, hj, hT, hb⟩
      · exact aT (dj a h (by simp))
      · exact q4.1 (List.mem_flatten.mpr ⟨T, List.mem_of_getElem? hT, hb⟩)
    · rcases List.mem_cons.mp hb with rfl | hb
      · exact Or.inl ⟨by simp, aT⟩
      · rcases flat_set_mem hb with h | ⟨j, T, hj, hT, hb⟩
        · exact Or.inr h
        · exact Or.inl ⟨List.mem_cons_of_mem _ (List.mem_flatten.mpr ⟨T, List.mem_of_getElem? hT, hb⟩), off j T hj hT b hb⟩
  | ob t C ns l =>
    obtain ⟨a, C', dx, fs, rfl, h1, h2⟩ := kd
    obtain ⟨a', dx', C2, vs, Ts, q1, rfl, q2, q3, q4, q5, q6, q7⟩ := o
    cases q1
    rw [h1] at q3
    cases q3
    have e : l[k]? = some c := e
    rw [zip_snd q4] at h2
    obtain ⟨v', Tk, w1, w2, w3⟩ := OwnL.get q6 e
    rw [h2] at w1
    cases w1
    rw [List.nodup_cons, List.nodup_cons] at q7
    have off : ∀ j T, j ≠ k → Ts[j]? = some T → ∀ b ∈ T, b ∉ Tk := fun j T hj hT b hb hb2 => hj (flat_injL q7.2.2 hT w2 hb hb2)
    have inT : ∀ b ∈ Tk, b ∈ Ts.flatten := fun b hb => List.mem_flatten.mpr ⟨Tk, List.mem_of_getElem? w2, hb⟩
    have aT : a ∉ Tk := fun h => q7.1 (List.mem_cons_of_mem _ (inT a h))
    have dT : dx ∉ Tk := fun h => q7.2.1 (inT dx h)
    refine ⟨Tk, w3, fun b hb => List.mem_cons_of_mem _ (List.mem_cons_of_mem _ (inT b hb)), fun {B' H' c' T'} sb kp o' dj => ?_⟩
    refine ⟨a :: dx :: (Ts.set k T').flatten, ⟨a, dx, C', vs, Ts.set k T', rfl, rfl, q2, by rw [kp a (by simp) aT]; exact h1, q4, by rw [kp dx (by simp) dT]; exact q5,
      OwnL.set sb q6 (fun j T hj hT b hb => kp b (List.mem_cons_of_mem _ (List.mem_cons_of_mem _ (List.mem_flatten.mpr ⟨T, List.mem_of_getElem? hT, hb⟩))) (off j T hj hT b hb)) h2 o', ?_⟩, fun b hb => ?_⟩
    · rw [List.nodup_cons, List.nodup_cons]
      refine ⟨fun h => ?_, fun h => ?_, flat_set_nodup q7.2.2 w2 o'.nodup fun b hb hf => dj b hb (List.mem_cons_of_mem _ (List.mem_cons_of_mem _ hf))⟩
      · rcases List.mem_cons.mp h with h | h
        · exact q7.1 (by rw [h]; simp)
        · rcases flat_set_mem h with h | ⟨j, T, hj, hT, hb⟩
          · exact aT (dj a h (by simp))
          · exact q7.1 (List.mem_cons_of_mem _ (List.mem_flatten.mpr ⟨T, List.mem_of_getElem? hT, hb⟩))
      · rcases flat_set_mem h with h | ⟨j, T, hj, hT, hb⟩
        · exact dT (dj dx h (by simp))
        · exact q7.2.1 (List.mem_flatten.mpr ⟨T, List.mem_of_getElem? hT, hb⟩)
    · rcases List.mem_cons.mp hb with rfl | hb
      · exact Or.inl ⟨by simp, aT⟩
      · rcases List.mem_cons.mp hb with rfl | hb
        · exact Or.inl ⟨by simp, dT⟩
        · rcases flat_set_mem hb with h | ⟨j, T, hj, hT, hb⟩
          · exact Or.inr h
          · exact Or.inl ⟨List.mem_cons_of_mem _ (List.mem_cons_of_mem _ (List.mem_flatten.mpr ⟨T, List.mem_of_getElem? hT, hb⟩)), off j T hj hT b hb⟩
  | p d => cases e
  | ml t l => cases e
  | md t l => cases e
  | ex c f => cases e
  | fd l => cases e
  | hl t => cases e
  | tp l => cases e
end
def Sl.kid : Sl → List Nat → Option Sl
  | s, [] => some s
  | s, k :: ks => (s.kid1 k).bind fun c => c.kid ks
def Sl.setKid : Sl → List Nat → Sl → Sl
  | _, [], c => c
  | s, k :: ks, c => match s.kid1 k with
    | some d => s.setKid1 k (d.setKid ks c)
    | none => s
def Kid (H : Hp) : V → Sl → List Nat → V → Prop
  | v0, _, [], v => v = v0
  | v0, s, k :: ks, v => ∃ v1 c, Kid1 H v0 s k v1 ∧ s.kid1 k = some c ∧ Kid H v1 c ks v
@[simp] theorem Sl.kid_nil {s : Sl} : s.kid [] = some s := rfl
@[simp] theorem Sl.kid_cons {s : Sl} {k : Nat} {ks : List Nat} : s.kid (k :: ks) = (s.kid1 k).bind fun c => c.kid ks := rfl
section
variable {K : PySem.W.Frag} {B B' H H' : Hp}
theorem Own.kid : ∀ {ks : List Nat} {v0 v : V} {s c : Sl} {T : List Addr}, Own K B H v0 s T → Kid H v0 s ks v → s.kid ks = some c →
    ∃ Tk, Own K B H v c Tk ∧ (∀ a ∈ Tk, a ∈ T) ∧ ∀ {B' H' : Hp} {c' : Sl} {T' : List Addr}, Same B B' → (∀ a ∈ T, a ∉ Tk → H' a = H a) → Own K B' H' v c' T' → (∀ a ∈ T', a ∈ T → a ∈ Tk) →
      ∃ T2, Own K B' H' v0 (s.setKid ks c') T2 ∧ ∀ a ∈ T2, (a ∈ T ∧ a ∉ Tk) ∨ a ∈ T'
  | [], v0, v, s, c, T, o, kd, e => by
    cases (show v = v0 from kd)
    cases e
    exact ⟨T, o, fun a h => h, fun {B' H' c' T'} sb kp o' dj => ⟨T', o', fun a h => Or.inr h⟩⟩
  | k :: ks, v0, v, s, c, T, o, kd, e => by
    obtain ⟨v1, c1, k1, e1, k2⟩ := kd
    have e2 : c1.kid ks = some c := by
      rw [Sl.kid_cons, e1] at e
      exact e
    obtain ⟨Tk, q1, q2, q3⟩ := Own.kid1 o k1 e1
    obtain ⟨Tj, p1, p2, p3⟩ := Own.kid q1 k2 e2
    refine ⟨Tj, p1, fun a h => q2 a (p2 a h), fun {B' H' c' T'} sb kp o' dj => ?_⟩
    obtain ⟨T3, w1, w2⟩ := p3 sb (fun a ha hn => kp a (q2 a ha) hn) o' (fun a ha hk => dj a ha (q2 a hk))
    obtain ⟨T2, u1, u2⟩ := q3 sb (fun a ha hn => kp a ha fun z => hn (p2 a z)) w1 (fun a ha hT => by
      rcases w2 a ha with h | h
      · exact h.1
      · exact p2 a (dj a h hT))
    refine ⟨T2, ?_, fun a ha => ?_⟩
    · show Own K B' H' v0 (match s.kid1 k with
        | some d => s.setKid1 k (d.setKid ks c')
        | none => s) T2
      rw [e1]
      exact u1
    · rcases u2 a ha with h | h
      · exact Or.inl ⟨h.1, fun z => h.2 (p2 a z)⟩
      · rcases w2 a h with h | h
        · exact Or.inl ⟨q2 a h.1, h.2⟩
        · exact Or.inr h
theorem Kid1.keep {v0 v : V} {s : Sl} {k : Nat} {T : List Addr} (o : Own K B H v0 s T) (h : Kid1 H v0 s k v) (e : ∀ a ∈ T, H' a = H a) : Kid1 H' v0 s k v := by
  cases s with
  | mr t l =>
    obtain ⟨a, xs, rfl, h1, h2⟩ := h
    obtain ⟨a', xs', Ts, q1, rfl, _⟩ := o
    cases q1
    exact ⟨a, xs, rfl, by rw [e a (by simp)]; exact h1, h2⟩
  | ob t c ns l =>
    obtain ⟨a, C, dx, fs, rfl, h1, h2⟩ := h
    obtain ⟨a', dx', C', vs, Ts, q1, rfl, _⟩ := o
    cases q1
    exact ⟨a, C, dx, fs, rfl, by rw [e a (by simp)]; exact h1, h2⟩
  | p d => exact h.elim
  | ml t l => exact h.elim
  | md t l => exact h.elim
  | ex c f => exact h.elim
  | fd l => exact h.elim
  | hl t => exact h.elim
  | tp l => exact h.elim
theorem Kid.keep : ∀ {ks : List Nat} {v0 v : V} {s : Sl} {T : List Addr}, Own K B H v0 s T → Kid H v0 s ks v → (∀ a ∈ T, H' a = H a) → Kid H' v0 s ks v
  | [], v0, v, s, T, o, h, e => h
  | k :: ks, v0, v, s, T, o, h, e => by
    obtain ⟨v1, c1, k1, e1, k2⟩ := h
    obtain ⟨Tk, q1, q2, _⟩ := Own.kid1 o k1 e1
    exact ⟨v1, c1, k1.keep o e, e1, Kid.keep q1 k2 fun a ha => e a (q2 a ha)⟩
end
def RsOk (K : PySem.W.Frag) (B H : Hp) (σ : L2.St) (fs : Nat → List Addr) (v : V) : Rs → List Addr → Prop
  | .own s, T => Own K B H v s T ∧ s.tag = none ∧ (∀ a ∈ T, B a = none ∧ ∀ i, a ∉ fs i)
  | .bor i, T => σ[i]? = some (some v) ∧ T = []
  | .lent i s k, T => (∃ v0, σ[i]? = some (some v0) ∧ Own K B H v0 s T ∧ Kid H v0 s k v) ∧ (∀ a ∈ T, B a = none ∧ ∀ i, a ∉ fs i)
def RsAll (K : PySem.W.Frag) (B H : Hp) (σ : L2.St) (fs : Nat → List Addr) : List V → List Rs → List (List Addr) → Prop
  | [], [], [] => True
  | v :: vs, r :: rs, T :: Ts => RsOk K B H σ fs v r T ∧ RsAll K B H σ fs vs rs Ts
  | _, _, _ => False
section
variable {K : PySem.W.Frag} {B H B' H' : Hp} {σ : L2.St} {fs fs' : Nat → List Addr} {v : V} {r : Rs} {T : List Addr}
theorem RsOk.live (h : RsOk K B H σ fs v r T) : ∀ a ∈ T, H a ≠ none := by
  cases r with
  | own s => exact h.1.live
  | bor i => rw [h.2]; intro a ha; cases ha
  | lent i s k => obtain ⟨⟨v0, _, o, _⟩, _⟩ := h; exact o.live
theorem RsOk.nodup (h : RsOk K B H σ fs v r T) : T.Nodup := by
  cases r with
  | own s => exact h.1.nodup
  | bor i => rw [h.2]; exact List.nodup_nil
  | lent i s k => obtain ⟨⟨v0, _, o, _⟩, _⟩ := h; exact o.nodup
theorem RsOk.off (h : RsOk K B H σ fs v r T) : ∀ a ∈ T, ¬ InF fs a := by
  cases r with
  | own s => intro a ha ⟨i, hi⟩; exact (h.2.2 a ha).2 i hi
  | bor i => rw [h.2]; intro a ha; cases ha
  | lent i s k => intro a ha ⟨i, hi⟩; exact (h.2 a ha).2 i hi
theorem RsOk.keep {F F' : Addr → Prop} (h : RsOk K B H σ fs v r T) (x : Fr B H F B' H' F') (n : ∀ a ∈ T, ¬ F a) (hf : ∀ a, InF fs' a → F' a) : RsOk K B' H' σ fs' v r T := by
  cases r with
  | own s =>
    refine ⟨h.1.keep x.bb fun a ha => x.keep a (h.1.live a ha) (n a ha), h.2.1, fun a ha => ⟨x.bnew a (h.1.live a ha) (n a ha) (h.2.2 a ha).1, fun i hi => ?_⟩⟩
    rcases x.own a (hf a ⟨i, hi⟩) with q | q
    · exact n a ha q
    · exact h.1.live a ha q
  | bor i => exact h
  | lent i s k =>
    obtain ⟨⟨v0, h1, o, kd⟩, h2⟩ := h
    refine ⟨⟨v0, h1, o.keep x.bb fun a ha => x.keep a (o.live a ha) (n a ha), kd.keep o fun a ha => x.keep a (o.live a ha) (n a ha)⟩, fun a ha => ⟨x.bnew a (o.live a ha) (n a ha) (h2 a ha).1, fun i hi => ?_⟩⟩
    rcases x.own a (hf a ⟨i, hi⟩) with q | q
    · exact n a ha q
    · exact o.live a ha q
theorem RsAll.live : ∀ {vs : List V} {rs : List Rs} {Ts : List (List Addr)}, RsAll K B H σ fs vs rs Ts → ∀ a ∈ Ts.flatten, H a ≠ none
  | [], [], [], _, a, h => by simp at h
  | v :: vs, r :: rs, T :: Ts, g, a, h => by
    rw [List.flatten_cons, List.mem_append] at h
    rcases h with h | h
    · exact g.1.live a h
    · exact RsAll.live g.2 a h
  | [], [], _ :: _, g, _, _ => g.elim
  | [], _ :: _, _, g, _, _ => g.elim
  | _ :: _, [], _, g, _, _ => g.elim
  | _ :: _, _ :: _, [], g, _, _ => g.elim
theorem RsAll.off : ∀ {vs : List V} {rs : List Rs} {Ts : List (List Addr)}, RsAll K B H σ fs vs rs Ts → ∀ a ∈ Ts.flatten, ¬ InF fs a
  | [], [], [], _, a, h => by simp at h
  | v :: vs, r :: rs, T :: Ts, g, a, h => by
    rw [List.flatten_cons, List.mem_append] at h
    rcases h with h | h
    · exact g.1.off a h
    · exact RsAll.off g.2 a h
  | [], [], _ :: _, g, _, _ => g.elim
  | [], _ :: _, _, g, _, _ => g.elim
  | _ :: _, [], _, g, _, _ => g.elim
  | _ :: _, _ :: _, [], g, _, _ => g.elim
theorem RsAll.keep {F F' : Addr → Prop} (x : Fr B H F B' H' F') (hf : ∀ a, InF fs' a → F' a) : ∀ {vs : List V} {rs : List Rs} {Ts : List (List Addr)}, RsAll K B H σ fs vs rs Ts → (∀ a ∈ Ts.flatten, ¬ F a) → RsAll K B' H' σ fs' vs rs Ts
  | [], [], [], _, _ => True.intro
  | v :: vs, r :: rs, T :: Ts, g, n =>
    ⟨g.1.keep x (fun a ha => n a (by rw [List.flatten_cons]; exact List.mem_append_left _ ha)) hf, RsAll.keep x hf g.2 fun a ha => n a (by rw [List.flatten_cons]; exact List.mem_append_right _ ha)⟩
  | [], [], _ :: _, g, _ => g.elim
  | [], _ :: _, _, g, _ => g.elim
  | _ :: _, [], _, g, _ => g.elim
  | _ :: _, _ :: _, [], g, _ => g.elim
end
section
variable (K : PySem.W.Frag) (vs0 : List V)
def rdE (f : M Rs) : TE := fun σ H Q => ∃ B ρ fs, Good K vs0 B H σ ρ fs ∧ ∃ r ρ', f ρ = some (.ok r ρ') ∧
  ∀ v B' H' fs' T, Fr B H (InF fs) B' H' (UnF (InF fs') T) → Good K vs0 B' H' σ ρ' fs' → RsOk K B' H' σ fs' v r T → Q v H'
def rdA (f : M (List Rs)) : TA := fun σ H Q => ∃ B ρ fs, Good K vs0 B H σ ρ fs ∧ ∃ rs ρ', f ρ = some (.ok rs ρ') ∧
  ∀ vs B' H' fs' Ts, Fr B H (InF fs) B' H' (UnF (InF fs') Ts.flatten) → Good K vs0 B' H' σ ρ' fs' → RsAll K B' H' σ fs' vs rs Ts → Ts.flatten.Nodup → Q vs H'
def rdT (f : M Bool) : TT := fun σ H Q => ∃ B ρ fs, Good K vs0 B H σ ρ fs ∧ ∃ b ρ', f ρ = some (.ok b ρ') ∧
  ∀ B' H' fs', Fr B H (InF fs) B' H' (InF fs') → Good K vs0 B' H' σ ρ' fs' → Q b H'
def rdS (g : M Fl) : TS := fun D σ H => ∃ B ρ fs, Good K vs0 B H σ ρ fs ∧ ∃ fl ρ', g ρ = some (.ok fl ρ') ∧
  match fl with
  | .nx => ∀ σ' B' H' fs', Fr B H (InF fs) B' H' (InF fs') → Good K vs0 B' H' σ' ρ' fs' → D.nx σ' H'
  | .bk => ∀ σ' B' H' fs', Fr B H (InF fs) B' H' (InF fs') → Good K vs0 B' H' σ' ρ' fs' → D.bk σ' H'
  | .ct => ∀ σ' B' H' fs', Fr B H (InF fs) B' H' (InF fs') → Good K vs0 B' H' σ' ρ' fs' → D.ct σ' H'
  | .rt s => ∀ v σ' B' H' fs' T, Fr B H (InF fs) B' H' (UnF (InF fs') T) → Good K vs0 B' H' σ' ρ' fs' → RsOk K B' H' σ' fs' v (.own s) T → D.rt v H'
end
def eName (i : Nat) : M Rs := fun ρ => match ρ[i]? with
  | some (some (.p d)) => some (.ok (.own (.p d)) ρ)
  | some (some (.ex c f)) => some (.ok (.own (.ex c f)) ρ)
  | some (some (.fd l)) => some (.ok (.own (.fd l)) ρ)
  | some (some (.hl _)) => none
  | some (some _) => some (.ok (.bor i) ρ)
  | _ => none
def eC (d : D) : M Rs := fun ρ => some (.ok (.own (.p d)) ρ)
section
variable {X : Cx} {vs0 : List V}
theorem fr_unr {B H : Hp} {fs : Nat → List Addr} : Fr B H (InF fs) B H (UnF (InF fs) []) := (Fr.refl B H (InF fs)).weak (fun _ h => h) fun a h => by
  rcases h with h | h
  · exact Or.inl h
  · cases h
theorem de_var {i : Nat} {e : Expr} (h : PE X e (tVar i)) : PE X e (rdE X.K vs0 (eName i)) := PE.imp h fun σ H Q q => by
  obtain ⟨B, ρ, fs, g, r, ρ', e1, k⟩ := q
  unfold eName at e1
  split at e1
  · rename_i d e2
    cases e1
    obtain ⟨v, h1, h2, _⟩ := g.at_ i _ e2
    exact ⟨v, h1, k v B H fs [] fr_unr g ⟨⟨h2.1, rfl⟩, rfl, fun a ha => nomatch ha⟩⟩
  · rename_i c f e2
    cases e1
    obtain ⟨v, h1, h2, _⟩ := g.at_ i _ e2
    exact ⟨v, h1, k v B H fs [] fr_unr g ⟨⟨h2.1, rfl⟩, rfl, fun a ha => nomatch ha⟩⟩
  · rename_i l e2
    cases e1
    obtain ⟨v, h1, h2, _⟩ := g.at_ i _ e2
    exact ⟨v, h1, k v B H fs [] fr_unr g ⟨⟨h2.1, rfl⟩, rfl, fun a ha => nomatch ha⟩⟩
  · cases e1
  · rename_i s _ _ _ _ e2
    cases e1
    obtain ⟨v, h1, h2, _⟩ := g.at_ i _ e2
    exact ⟨v, h1, k v B H fs [] fr_unr g ⟨h1, rfl⟩⟩
  · cases e1
theorem de_c {e : Expr} {v : V} {d : D} (h : PE X e (tC v)) (hd : ∀ B, Dp X.K B v d) : PE X e (rdE X.K vs0 (eC d)) := PE.imp h fun σ H Q q => by
  obtain ⟨B, ρ, fs, g, r, ρ', e1, k⟩ := q
  cases e1
  exact k v B H fs [] fr_unr g ⟨⟨hd B, rfl⟩, rfl, fun a ha => nomatch ha⟩
theorem de_int {i j pos} : PE X (.Constant (.int i) j pos) (rdE X.K vs0 (eC (.int i))) := de_c pe_int fun _ => .int i
theorem de_bl {b j pos} : PE X (.Constant (.bool b) j pos) (rdE X.K vs0 (eC (.bool b))) := de_c pe_bl fun _ => .bl b
theorem de_non {j pos} : PE X (.Constant .none j pos) (rdE X.K vs0 (eC .none)) := de_c pe_non fun _ => .non
theorem de_str {x j pos} : PE X (.Constant (.str x) j pos) (rdE X.K vs0 (eC (.str x))) := de_c pe_str fun _ => .str x
end
def aNil : M (List Rs) := M.ret []
def aCons (f : M Rs) (g : M (List Rs)) : M (List Rs) := M.bind f fun r => M.bind g fun rs => M.ret (r :: rs)
section
variable {X : Cx} {vs0 : List V} {K : PySem.W.Frag}
theorem da_nil : PA X [] (rdA X.K vs0 aNil) := PA.imp pa_nil fun σ H Q q => by
  obtain ⟨B, ρ, fs, g, r, ρ', e1, k⟩ := q
  cases e1
  exact k [] B H fs [] fr_unr g True.intro List.nodup_nil
theorem rd_cons {fe : M Rs} {fa : M (List Rs)} {σ : L2.St} {H : Hp} {Q : List V → Hp → Prop} (q : rdA K vs0 (aCons fe fa) σ H Q) :
    rdE K vs0 fe σ H fun x H1 => rdA K vs0 fa σ H1 fun xs H2 => Q (x :: xs) H2 := by
  obtain ⟨B, ρ, fs, g, rs, ρ', e1, k⟩ := q
  obtain ⟨r, ρ1, e2, e3⟩ := M.bind_ok e1
  obtain ⟨rr, ρ2, e4, e5⟩ := M.bind_ok e3
  cases e5
  refine ⟨B, ρ, fs, g, r, ρ1, e2, fun v B1 H1 fs1 T1 fr1 g1 ok1 => ⟨B1, ρ1, fs1, g1, rr, ρ', e4, fun vs B2 H2 fs2 Ts fr2 g2 ok2 nd2 => ?_⟩⟩
  have n1 : ∀ a ∈ T1, ¬ InF fs1 a := ok1.off
  refine k (v :: vs) B2 H2 fs2 (T1 :: Ts) ?_ g2 ⟨ok1.keep fr2 n1 fun a h => Or.inl h, ok2⟩ ?_
  · refine fr1.trans ((fr2.frame T1).weak (fun a h => h) fun a h => ?_)
    rw [List.flatten_cons] at h
    rcases h with h | h
    · exact Or.inl (Or.inl (Or.inl h))
    · rw [List.mem_append] at h
      rcases h with h | h
      · exact Or.inl (Or.inr h)
      · exact Or.inl (Or.inl (Or.inr h))
  · rw [List.flatten_cons, List.nodup_append]
    refine ⟨ok1.nodup, nd2, fun a ha b hb e => ?_⟩
    subst e
    rcases fr2.own a (Or.inr hb) with q | q
    · exact n1 a ha q
    · exact ok1.live a ha q
theorem da_cons {e : Expr} {es : List Expr} {fe : M Rs} {fa : M (List Rs)} (he : PE X e (rdE X.K vs0 fe)) (ha : PA X es (rdA X.K vs0 fa)) (hs : starEach (e :: es) X.env = (false, eval e X.env) :: starEach es X.env := by rfl) :
    PA X (e :: es) (rdA X.K vs0 (aCons fe fa)) := PA.imp (pa_cons he ha hs) fun σ H Q q => rd_cons q
end
def OpOk (K : PySem.W.Frag) (r : List V → Hp → VK → Prop) (op : List Rs → M Rs) : Prop :=
  ∀ (vs0 : List V) (σ : L2.St) (B H : Hp) (ρ : Env) (fs : Nat → List Addr) (vs : List V) (rs : List Rs) (Ts : List (List Addr)) (Q : VK), Good K vs0 B H σ ρ fs → RsAll K B H σ fs vs rs Ts → Ts.flatten.Nodup →
    ∀ r' ρ', op rs ρ = some (.ok r' ρ') →
    (∀ v B' H' fs' T, Fr B H (UnF (InF fs) Ts.flatten) B' H' (UnF (InF fs') T) → Good K vs0 B' H' σ ρ' fs' → RsOk K B' H' σ fs' v r' T → Q v H') → r vs H Q
section
variable {X : Cx} {vs0 : List V} {K : PySem.W.Frag} {r : List V → Hp → VK → Prop} {op : List Rs → M Rs}
theorem rd_op {fa : M (List Rs)} (ho : OpOk K r op) {σ : L2.St} {H : Hp} {Q : VK} (q : rdE K vs0 (M.bind fa op) σ H Q) : rdA K vs0 fa σ H fun vs H1 => r vs H1 Q := by
  obtain ⟨B, ρ, fs, g, r', ρ', e1, k⟩ := q
  obtain ⟨rs, ρ1, e2, e3⟩ := M.bind_ok e1
  refine ⟨B, ρ, fs, g, rs, ρ1, e2, fun vs B1 H1 fs1 Ts fr1 g1 ok1 nd1 => ?_⟩
  exact ho vs0 σ B1 H1 ρ1 fs1 vs rs Ts Q g1 ok1 nd1 r' ρ' e3 fun v B2 H2 fs2 T fr2 g2 ok2 => k v B2 H2 fs2 T (fr1.trans fr2) g2 ok2
theorem rdA_nil {σ : L2.St} {H : Hp} {Q : List V → Hp → Prop} (q : rdA K vs0 aNil σ H Q) : Q [] H := by
  obtain ⟨B, ρ, fs, g, r, ρ', e1, k⟩ := q
  cases e1
  exact k [] B H fs [] fr_unr g True.intro List.nodup_nil
def r2 (r : R2) : List V → Hp → VK → Prop := fun vs H Q => ∃ x y, vs = [x, y] ∧ r x y H Q
def eBin (fa fb : M Rs) (op : List Rs → M Rs) : M Rs := M.bind (aCons fa (aCons fb aNil)) op
theorem rdE_imp {f : M Rs} {σ : L2.St} {H : Hp} {Q Q' : VK} (q : rdE K vs0 f σ H Q) (i : ∀ v H', Q v H' → Q' v H') : rdE K vs0 f σ H Q' := by
  obtain ⟨B, ρ, fs, g, r, ρ', e1, k⟩ := q
  exact ⟨B, ρ, fs, g, r, ρ', e1, fun v B' H' fs' T a b c => i _ _ (k v B' H' fs' T a b c)⟩
theorem rd_bin {fa fb : M Rs} {r : R2} (ho : OpOk K (r2 r) op) {σ : L2.St} {H : Hp} {Q : VK} (q : rdE K vs0 (eBin fa fb op) σ H Q) : tOp r (rdE K vs0 fa) (rdE K vs0 fb) σ H Q := by
  refine rdE_imp (rd_cons (rd_op ho q)) fun x H1 q1 => rdE_imp (rd_cons q1) fun y H2 q2 => ?_
  obtain ⟨x', y', e, q3⟩ := rdA_nil q2
  cases e
  exact q3
theorem de_op {a b : Expr} {fa fb : M Rs} {oper : Operator} {r : R2} {pos : Pos} (ho : OpR X (binaryOp oper) r) (hp : OpOk X.K (r2 r) op) (ha : PE X a (rdE X.K vs0 fa)) (hb : PE X b (rdE X.K vs0 fb)) : PE X (.BinOp a oper b pos) (rdE X.K vs0 (eBin fa fb op)) :=
  PE.imp (pe_op ho ha hb) fun _ _ _ q => rd_bin hp q
theorem de_cmp {a b : Expr} {fa fb : M Rs} {oper : CmpOp} {r : R2} {pos : Pos} (ho : OpR X (compareOp oper) r) (hp : OpOk X.K (r2 r) op) (ha : PE X a (rdE X.K vs0 fa)) (hb : PE X b (rdE X.K vs0 fb)) (hm : behindInMarks oper b = false) : PE X (.Compare a [oper] [b] pos) (rdE X.K vs0 (eBin fa fb op)) :=
  PE.imp (pe_cmpR ho ha hb hm) fun _ _ _ q => rd_bin hp q
theorem de_ix {a b : Expr} {fa fb : M Rs} {r : R2} {pos : Pos} (ho : IxR X r) (hp : OpOk X.K (r2 r) op) (ha : PE X a (rdE X.K vs0 fa)) (hb : PE X b (rdE X.K vs0 fb)) (hs : PlainIx b) : PE X (.Subscript a b pos) (rdE X.K vs0 (eBin fa fb op)) :=
  PE.imp (pe_ix ho ha hb hs) fun _ _ _ q => rd_bin hp q
end
section
variable {X : Cx} {vs0 : List V} {r : List V → Hp → VK → Prop} {op : List Rs → M Rs} {x : Str} {p pos : Pos} {e : Expr} {es : List Expr} {id T : String} {fa : M (List Rs)}
theorem de_callB (hc : CallR X (.builtin id) r) (hp : OpOk X.K r op) (hg : Gl X x) (hm : X.mg x = none) (hv : bootBuiltins x = some (.builtin id)) (ha : PA X (e :: es) (rdA X.K vs0 fa)) (hn : x ≠ "__name__" := by decide) (hdb : (x == ("__debug__" : Str)) = false := by decide)
    (he : starEach (e :: es) X.env = (false, eval e X.env) :: starEach es X.env := by rfl) (hpl : (backTo pos (starEach es X.env)).any (·.1) = false := by rfl) : PE X (.Call (.Name x p) (e :: es) [] pos) (rdE X.K vs0 (M.bind fa op)) :=
  PE.imp (pe_callB hc hg hm hv ha hn hdb he hpl) fun _ _ _ q => rd_op hp q
theorem de_callTy (hc : CallR X (.type T) r) (hp : OpOk X.K r op) (hg : Gl X x) (hm : X.mg x = none) (hv : bootBuiltins x = some (.type T)) (ha : PA X (e :: es) (rdA X.K vs0 fa)) (hn : x ≠ "__name__" := by decide) (hdb : (x == ("__debug__" : Str)) = false := by decide)
    (he : starEach (e :: es) X.env = (false, eval e X.env) :: starEach es X.env := by rfl) (hpl : (backTo pos (starEach es X.env)).any (·.1) = false := by rfl) : PE X (.Call (.Name x p) (e :: es) [] pos) (rdE X.K vs0 (M.bind fa op)) :=
  PE.imp (pe_callTy hc hg hm hv ha hn hdb he hpl) fun _ _ _ q => rd_op hp q
end
end Pd
set_option Elab.async false
set_option linter.all false
set_option maxRecDepth 100000
set_option maxHeartbeats 1000000
namespace Pd
open PySem PySem.Spec PyProof.Rows L2
def ShD (K : PySem.W.Frag) (B H : Hp) (v : V) : D → Prop
  | .list l => ∃ a xs, v = .ref a ∧ SqL K H a xs ∧ DpAll K B xs l
  | d => Dp K B v d
def ShAll (K : PySem.W.Frag) (B H : Hp) : List V → List D → Prop
  | [], [] => True
  | v :: vs, d :: ds => ShD K B H v d ∧ ShAll K B H vs ds
  | _, _ => False
section
variable {K : PySem.W.Frag} {B H : Hp} {v : V} {d : D}
theorem ShD.of (e : Same B H) (h : Dp K B v d) : ShD K B H v d := by
  cases d with
  | list l =>
    cases h with
    | lst h1 h2 => exact ⟨_, _, rfl, sql_mono e h1, h2⟩
  | _ => exact h
theorem ShD.dp (e : Same B H) (h : ShD K B H v d) : Dp K H v d := by
  cases d with
  | list l =>
    obtain ⟨a, xs, rfl, h1, h2⟩ := h
    exact .lst h1 (DpAll.mono e h2)
  | _ => exact Dp.mono e h
theorem ShAll.dp (e : Same B H) : ∀ {vs : List V} {ds : List D}, ShAll K B H vs ds → DpAll K H vs ds
  | [], [], _ => .nil
  | v :: vs, d :: ds, h => .cons (ShD.dp e h.1) (ShAll.dp e h.2)
  | [], _ :: _, h => h.elim
  | _ :: _, [], h => h.elim
theorem ShD.tup {xs : List D} (h : ShD K B H v (.tuple xs)) : ∃ a vs, v = .ref a ∧ SqT K B a vs ∧ DpAll K B vs xs := by
  have h' : Dp K B v (.tuple xs) := h
  cases h' with
  | tup h1 h2 => exact ⟨_, _, rfl, h1, h2⟩
theorem ShD.int {i : Int} (h : ShD K B H v (.int i)) : v = .int i := by
  have h' : Dp K B v (.int i) := h
  cases h'; rfl
theorem ShD.str {i : Str} (h : ShD K B H v (.str i)) : v = .str i := by
  have h' : Dp K B v (.str i) := h
  cases h'; rfl
theorem ShD.bool {i : Bool} (h : ShD K B H v (.bool i)) : v = .bl i := by
  have h' : Dp K B v (.bool i) := h
  cases h'; rfl
theorem ShD.non (h : ShD K B H v .none) : v = .non := by
  have h' : Dp K B v .none := h
  cases h'; rfl
theorem ShAll.one {vs : List V} {a : D} (h : ShAll K B H vs [a]) : ∃ x, vs = [x] ∧ ShD K B H x a := by
  match vs, h with
  | [x], h => exact ⟨x, rfl, h.1⟩
theorem ShAll.two {vs : List V} {a b : D} (h : ShAll K B H vs [a, b]) : ∃ x y, vs = [x, y] ∧ ShD K B H x a ∧ ShD K B H y b := by
  match vs, h with
  | [x, y], h => exact ⟨x, y, rfl, h.1, h.2.1⟩
theorem ShAll.three {vs : List V} {a b c : D} (h : ShAll K B H vs [a, b, c]) : ∃ x y z, vs = [x, y, z] ∧ ShD K B H x a ∧ ShD K B H y b ∧ ShD K B H z c := by
  match vs, h with
  | [x, y, z], h => exact ⟨x, y, z, rfl, h.1, h.2.1, h.2.2.1⟩
end
def Rs.view : Rs → Env → Option D
  | .own (.p d), _ => some d
  | .own (.ml _ l), _ => some (.list l)
  | .own _, _ => none
  | .bor i, ρ => match ρ[i]? with
    | some (some (.ml _ l)) => some (.list l)
    | some (some (.p d)) => some d
    | _ => none
  | .lent _ _ _, _ => none
def viewAll : List Rs → Env → Option (List D)
  | [], _ => some []
  | r :: rs, ρ => match r.view ρ with
    | some d => match viewAll rs ρ with
      | some ds => some (d :: ds)
      | none => none
    | none => none
section
variable {K : PySem.W.Frag} {vs0 : List V} {B H : Hp} {σ : L2.St} {ρ : Env} {fs : Nat → List Addr}
theorem view_ok {v : V} {r : Rs} {T : List Addr} {d : D} (g : Good K vs0 B H σ ρ fs) (h : RsOk K B H σ fs v r T) (e : r.view ρ = some d) : ShD K B H v d := by
  cases r with
  | own s =>
    cases s with
    | p d' => cases e; exact ShD.of g.ext h.1.1
    | ml t l =>
      cases e
      obtain ⟨⟨a, xs, rfl, _, h1, h2⟩, _⟩ := h
      exact ⟨a, xs, rfl, SqL.of h1, h2⟩
    | md t l => cases e
    | mr t l => cases e
    | ob t c ns l => cases e
    | ex c f => cases e
    | fd l => cases e
    | hl t => cases e
    | tp l => cases e
  | lent i s k => cases e
  | bor i =>
    unfold Rs.view at e
    dsimp only at e
    split at e
    · rename_i t l e2
      cases e
      obtain ⟨v', h1, ⟨a, xs, rfl, _, h2, h3⟩, _⟩ := g.at_ i _ e2
      have hh : σ[i]? = some (some v) ∧ T = [] := h
      rw [h1] at hh
      cases hh.1
      exact ⟨a, xs, rfl, SqL.of h2, h3⟩
    · rename_i d' e2
      cases e
      obtain ⟨v', h1, h2, _⟩ := g.at_ i _ e2
      have hh : σ[i]? = some (some v) ∧ T = [] := h
      rw [h1] at hh
      cases hh.1
      exact ShD.of g.ext h2.1
    · cases e
theorem viewAll_ok (g : Good K vs0 B H σ ρ fs) : ∀ {vs : List V} {rs : List Rs} {Ts : List (List Addr)} {ds : List D}, RsAll K B H σ fs vs rs Ts → viewAll rs ρ = some ds → ShAll K B H vs ds
  | [], [], [], ds, _, e => by cases e; exact True.intro
  | v :: vs, r :: rs, T :: Ts, ds, h, e => by
    unfold viewAll at e
    split at e
    · rename_i d e1
      split at e
      · rename_i ds' e2
        cases e
        exact ⟨view_ok g h.1 e1, viewAll_ok g h.2 e2⟩
      · cases e
    · cases e
  | [], [], _ :: _, _, g, _ => g.elim
  | [], _ :: _, _, _, g, _ => g.elim
  | _ :: _, [], _, _, g, _ => g.elim
  | _ :: _, _ :: _, [], _, g, _ => g.elim
end
inductive Rd' where
  | pd (d : D)
  | nl (l : List D)
def Rd'.rs : Rd' → Rs
  | .pd d => .own (.p d)
  | .nl l => .own (.ml none l)
def ResK (K : PySem.W.Frag) (B H : Hp) (Q : VK) : Rd' → Prop
  | .pd d => ∀ v B' H', Fr B H (fun _ => False) B' H' (fun _ => False) → Same B' H' → Dp K B' v d → Q v H'
  | .nl l => ∀ p xs, H p = none → DpAll K B xs l → Q (.ref p) (upd H p (.lst xs))
def opG (pf : List D → Option Rd') : List Rs → M Rs := fun rs ρ => match viewAll rs ρ with
  | some ds => match pf ds with
    | some res => some (.ok res.rs ρ)
    | none => none
  | none => none
theorem opG_ok {K : PySem.W.Frag} {r : List V → Hp → VK → Prop} {pf : List D → Option Rd'} (h : ∀ B H vs ds res Q, Same B H → ShAll K B H vs ds → pf ds = some res → ResK K B H Q res → r vs H Q) : OpOk K r (opG pf) := by
  intro vs0 σ B H ρ fs vs rs Ts Q g ok nd r' ρ' e k
  unfold opG at e
  split at e
  · rename_i ds e1
    split at e
    · rename_i res e2
      cases e
      refine h B H vs ds res Q g.ext (viewAll_ok g ok e1) e2 ?_
      cases res with
      | pd d =>
        intro v B' H' fr ex hd
        refine k v B' H' fs [] (fr.weak (fun _ f => f.elim) fun a f => ?_) (g.grow fr (fun _ _ f => f) ex) ⟨⟨hd, rfl⟩, rfl, fun a ha => nomatch ha⟩
        rcases f with f | f
        · exact Or.inr (Or.inl (Or.inl f))
        · cases f
      | nl l =>
        intro p xs hp hd
        have fr := Fr.newL (B := B) (o := HO.lst xs) hp
        refine k (.ref p) B _ fs [p] (fr.weak (fun _ f => f.elim) fun a f => ?_) (g.grow fr (fun _ _ f => f) (g.ext.trans fr.sameH)) ⟨⟨p, xs, rfl, rfl, upd_same, hd⟩, rfl, fun a ha => ?_⟩
        · rcases f with f | f
          · exact Or.inr (Or.inl (Or.inl f))
          · exact Or.inl f
        · simp at ha
          subst ha
          refine ⟨?_, fun i hi => g.lives hi hp⟩
          cases e : B a with
          | none => rfl
          | some u => rw [g.ext a u e] at hp; cases hp
    · cases e
  · cases e
section
variable {K : PySem.W.Frag} {B H : Hp} {Q : VK}
theorem ResK.same {d : D} (k : ResK K B H Q (.pd d)) (e : Same B H) {v : V} (h : Dp K B v d) : Q v H := k v B H (Fr.refl B H _) e h
theorem ResK.int {i : Int} (k : ResK K B H Q (.pd (.int i))) (e : Same B H) : Q (.int i) H := k.same e (.int i)
theorem ResK.str {i : Str} (k : ResK K B H Q (.pd (.str i))) (e : Same B H) : Q (.str i) H := k.same e (.str i)
theorem ResK.bool {i : Bool} (k : ResK K B H Q (.pd (.bool i))) (e : Same B H) : Q (.bl i) H := k.same e (.bl i)
theorem ResK.non (k : ResK K B H Q (.pd .none)) (e : Same B H) : Q .non H := k.same e .non
theorem ResK.tup {l : List D} (k : ResK K B H Q (.pd (.tuple l))) (e : Same B H) {p : Addr} {xs : List V} (hp : H p = none) (h : DpAll K B xs l) : Q (.ref p) (upd H p (.tup xs)) :=
  k _ _ _ (Fr.new hp e) (same_upd e) (.tup (SqT.of upd_same) (DpAll.mono (Fr.new hp e).bb h))
end
theorem r2_or {r r' : R2} {vs : List V} {H : Hp} {Q : VK} : r2 (fun x y H Q => r x y H Q ∨ r' x y H Q) vs H Q ↔ r2 r vs H Q ∨ r2 r' vs H Q := by
  constructor
  · rintro ⟨x, y, rfl, h | h⟩
    · exact Or.inl ⟨x, y, rfl, h⟩
    · exact Or.inr ⟨x, y, rfl, h⟩
  · rintro (⟨x, y, rfl, h⟩ | ⟨x, y, rfl, h⟩)
    · exact ⟨x, y, rfl, Or.inl h⟩
    · exact ⟨x, y, rfl, Or.inr h⟩
section
variable {prog : Program} {w : World} {A : Around} {E : Value → Shared → Prop} {s : Shared}
theorem add_listsH {l b : Addr} {vs ws : List Value} {Q : Value → Shared → Prop} (hl : s.heap.IsList l vs.toArray) (hb : s.heap.IsList b ws.toArray)
    (h : Q (.ref s.heap.objs.size) { s with heap := s.heap.push { cls := .type "list", data := .seq (vs ++ ws).toArray } }) (hsz : vs.length + ws.length ≤ sizeLine) :
    wpAny (model prog w) A (binaryOp .Add (.ref l) (.ref b)) Q E s := by
  obtain ⟨⟨cls, dd, data, sl⟩, ho, hc, n, hd⟩ := id hl
  obtain ⟨⟨cls2, dd2, data2, sl2⟩, ho2, hc2, n2, hd2⟩ := id hb
  simp only at hc hd hc2 hd2
  subst hc hd hc2 hd2
  have e : vs.toArray ++ ws.toArray = (vs ++ ws).toArray := by simp
  refine concat_meets ⟨_, ho, rfl⟩ ⟨_, ho2, rfl⟩ noFill_list_add seq_list_add PySem.F.slot_list_add PySem.F.entry_list_add (PySem.F.args_list_add_2 _ _) (list_addW l b vs.toArray ws.toArray n n2 dd dd2 sl sl2 (by simpa using hsz)) ⟨ho, ho2, ?_⟩
  rw [e]
  exact h
end
def rCatS (K : PySem.W.Frag) : R2 := fun x y H Q => ∃ l b xs zs, x = .ref l ∧ y = .ref b ∧ SqL K H l xs ∧ SqL K H b zs ∧ xs.length + zs.length ≤ sizeLine ∧ ∀ p, H p = none → Q (.ref p) (upd H p (.lst (xs ++ zs)))
section
variable {X : Cx}
theorem op_catS : OpR X (binaryOp .Add) (rCatS X.K) := by
  intro pins s σ H x y v u Q I rx ry h
  obtain ⟨l, b, xs, zs, rfl, rfl, hH, hB, hz, q⟩ := h
  cases rx
  cases ry
  obtain ⟨its, r, e, z⟩ := I.list hH
  obtain ⟨its2, r2, e2, z2⟩ := I.list hB
  refine add_listsH e.isList e2.isList ?_ (by rw [← r.length, ← r2.length]; exact hz)
  exact ⟨.ref _, _, I.lnew (t' := s.toks) (r.append r2) (by rw [List.length_append]; omega), rfl, q _ I.fresh⟩
abbrev rAddAll (K : PySem.W.Frag) : R2 := fun x y H Q => (rI0 fun i j => V.int (i + j)) x y H Q ∨ (fun x y H Q => (fun x y H Q => ∃ i j, x = .str i ∧ y = .str j ∧ i.length + j.length ≤ sizeLine ∧ Q (.str (i ++ j)) H) x y H Q ∨ (fun x y H Q => rCatA K x y H Q ∨ rCatS K x y H Q) x y H Q) x y H Q
theorem op_addAll : OpR X (binaryOp .Add) (rAddAll X.K) := OpR.or op_add (OpR.or op_add_str (OpR.or op_catA op_catS))
end
def pAdd : List D → Option Rd'
  | [.int a, .int b] => some (.pd (.int (a + b)))
  | [.str a, .str b] => if a.length + b.length ≤ sizeLine then some (.pd (.str (a ++ b))) else none
  | [.tuple a, .tuple b] => if a.length + b.length ≤ sizeLine then some (.pd (.tuple (a ++ b))) else none
  | [.list a, .list b] => if a.length + b.length ≤ sizeLine then some (.nl (a ++ b)) else none
  | _ => none
def oAdd := opG pAdd
theorem oAdd_ok {K : PySem.W.Frag} : OpOk K (r2 (rAddAll K)) oAdd := opG_ok fun B H vs ds res Q e hs hp k => by
  unfold pAdd at hp
  split at hp
  · obtain ⟨x, y, rfl, h1, h2⟩ := hs.two
    cases hp
    exact ⟨_, _, rfl, Or.inl ⟨_, _, h1.int, h2.int, k.int e⟩⟩
  · split at hp
    · rename_i hl
      obtain ⟨x, y, rfl, h1, h2⟩ := hs.two
      cases hp
      exact ⟨_, _, rfl, Or.inr (Or.inl ⟨_, _, h1.str, h2.str, hl, k.str e⟩)⟩
    · cases hp
  · split at hp
    · rename_i a b hl
      obtain ⟨x, y, rfl, h1, h2⟩ := hs.two
      cases hp
      obtain ⟨p, xs, rfl, s1, d1⟩ := h1.tup
      obtain ⟨q, ys, rfl, s2, d2⟩ := h2.tup
      have l1 := DpAll.length d1
      have l2 := DpAll.length d2
      refine ⟨_, _, rfl, Or.inr (Or.inr (Or.inl ⟨p, q, xs, ys, rfl, rfl, sqt_mono e s1, sqt_mono e s2, by rw [l1, l2]; exact hl, fun z => ?_, fun _ z => ?_, fun _ _ t ht => ?_⟩))⟩
      · subst z
        have : a = [] := by cases a with
          | nil => rfl
          | cons _ _ => simp at l1
        subst this
        exact k.same e (.tup s2 d2)
      · subst z
        have : b = [] := by cases b with
          | nil => rfl
          | cons _ _ => simp at l2
        subst this
        rw [List.append_nil] at k
        exact k.same e (.tup s1 d1)
      · exact k.tup e ht (DpAll.append d1 d2)
    · cases hp
  · split at hp
    · rename_i a b hl
      obtain ⟨x, y, rfl, ⟨p, xs, rfl, s1, d1⟩, ⟨q, ys, rfl, s2, d2⟩⟩ := hs.two
      cases hp
      exact ⟨_, _, rfl, Or.inr (Or.inr (Or.inr ⟨p, q, xs, ys, rfl, rfl, s1, s2, by rw [DpAll.length d1, DpAll.length d2]; exact hl, fun t ht => k t _ ht (DpAll.append d1 d2)⟩))⟩
    · cases hp
  · cases hp
def pInt (C : Int → Int → Prop) [∀ a b, Decidable (C a b)] (f : Int → Int → Int) : List D → Option Rd'
  | [.int a, .int b] => if C a b then some (.pd (.int (f a b))) else none
  | _ => none
theorem oInt_ok {K : PySem.W.Frag} {C : Int → Int → Prop} [∀ a b, Decidable (C a b)] {f : Int → Int → Int} : OpOk K (r2 (rI C fun a b => .int (f a b))) (opG (pInt C f)) := opG_ok fun B H vs ds res Q e hs hp k => by
  unfold pInt at hp
  split at hp
  · split at hp
    · rename_i hc
      obtain ⟨x, y, rfl, h1, h2⟩ := hs.two
      cases hp
      exact ⟨_, _, rfl, _, _, h1.int, h2.int, hc, k.int e⟩
    · cases hp
  · cases hp
def pSub : List D → Option Rd'
  | [.int a, .int b] => some (.pd (.int (a - b)))
  | _ => none
def oSub := opG pSub
theorem oSub_ok {K : PySem.W.Frag} : OpOk K (r2 (rI0 fun a b => .int (a - b))) oSub := opG_ok fun B H vs ds res Q e hs hp k => by
  unfold pSub at hp
  split at hp
  · obtain ⟨x, y, rfl, h1, h2⟩ := hs.two
    cases hp
    exact ⟨_, _, rfl, _, _, h1.int, h2.int, k.int e⟩
  · cases hp
instance (i j : Int) : Decidable (CMulW i j) := by unfold CMulW; infer_instance
instance (i j : Int) : Decidable (CDivW i j) := by unfold CDivW; infer_instance
def oDiv := opG (pInt CDivW fun i j => i / j)
def oMod := opG (pInt (fun _ j => 0 < j) fun i j => i % j)
theorem oDiv_ok {K : PySem.W.Frag} : OpOk K (r2 (rI CDivW fun i j => .int (i / j))) oDiv := oInt_ok
theorem oMod_ok {K : PySem.W.Frag} : OpOk K (r2 (rI (fun _ j => 0 < j) fun i j => .int (i % j))) oMod := oInt_ok
end Pd
set_option Elab.async false
set_option linter.all false
set_option maxRecDepth 100000
set_option maxHeartbeats 1000000
namespace Pd
open PySem PySem.Spec PyProof.Rows L2
theorem OpOk.or {K : PySem.W.Frag} {r r' : List V → Hp → VK → Prop} {op op' : List Rs → M Rs} (h : OpOk K r op) (h' : OpOk K r' op') : OpOk K (fun vs H Q => r vs H Q ∨ r' vs H Q) (fun rs ρ => match op rs ρ with
    | some x => some x
    | none => op' rs ρ) := by
  intro vs0 σ B H ρ fs vs rs Ts Q g ok nd r2 ρ' e k
  dsimp only at e
  split at e
  · rename_i x e1
    cases e
    exact Or.inl (h vs0 σ B H ρ fs vs rs Ts Q g ok nd r2 ρ' e1 k)
  · exact Or.inr (h' vs0 σ B H ρ fs vs rs Ts Q g ok nd r2 ρ' e k)
theorem RsAll.two {K : PySem.W.Frag} {B H : Hp} {σ : L2.St} {fs : Nat → List Addr} {vs : List V} {r1 r2 : Rs} {Ts : List (List Addr)} (h : RsAll K B H σ fs vs [r1, r2] Ts) :
    ∃ x y T1 T2, vs = [x, y] ∧ Ts = [T1, T2] ∧ RsOk K B H σ fs x r1 T1 ∧ RsOk K B H σ fs y r2 T2 := by
  match vs, Ts with
  | [x, y], [T1, T2] => exact ⟨x, y, T1, T2, rfl, rfl, h.1, h.2.1⟩
  | [], _ => exact h.elim
  | _ :: _, [] => exact h.elim
  | [_], [_] => exact h.2.elim
  | [_], _ :: _ :: _ => exact h.2.elim
  | _ :: _ :: _, [_] => exact h.2.elim
  | _ :: _ :: _ :: _, [_, _] => exact h.2.2.elim
  | [_, _], _ :: _ :: _ :: _ => exact h.2.2.elim
  | _ :: _ :: _ :: _, _ :: _ :: _ :: _ => exact h.2.2.elim
theorem RsAll.one {K : PySem.W.Frag} {B H : Hp} {σ : L2.St} {fs : Nat → List Addr} {vs : List V} {r1 : Rs} {Ts : List (List Addr)} (h : RsAll K B H σ fs vs [r1] Ts) :
    ∃ x T1, vs = [x] ∧ Ts = [T1] ∧ RsOk K B H σ fs x r1 T1 := by
  match vs, Ts with
  | [x], [T1] => exact ⟨x, T1, rfl, rfl, h.1⟩
  | [], _ => exact h.elim
  | _ :: _, [] => exact h.elim
  | _ :: _ :: _, [_] => exact h.2.elim
  | [_], _ :: _ :: _ => exact h.2.elim
  | _ :: _ :: _, _ :: _ :: _ => exact h.2.elim
def oRep : List Rs → M Rs := fun rs ρ => match rs with
  | [.own (.ml _ l), .own (.p (.int k))] => if -(2 ^ 63) ≤ k ∧ k < 2 ^ 63 ∧ l.length * k.toNat ≤ sizeLine then some (.ok (.own (.ml none (List.replicate k.toNat l).flatten)) ρ) else none
  | _ => none
theorem DpAll.rep {K : PySem.W.Frag} {B : Hp} {xs : List V} {ds : List D} (h : DpAll K B xs ds) : ∀ n : Nat, DpAll K B (List.replicate n xs).flatten (List.replicate n ds).flatten
  | 0 => .nil
  | n + 1 => by
    rw [List.replicate_succ, List.replicate_succ, List.flatten_cons, List.flatten_cons]
    exact DpAll.append h (DpAll.rep h n)
theorem oRep_ok {K : PySem.W.Frag} : OpOk K (r2 rRep) oRep := by
  intro vs0 σ B H ρ fs vs rs Ts Q g ok nd r' ρ' e k
  unfold oRep at e
  split at e
  · rename_i t l n
    split at e
    · rename_i hc
      cases e
      obtain ⟨x, y, T1, T2, rfl, rfl, ⟨⟨a, xs, rfl, rfl, h1, h2⟩, _, _⟩, ⟨h3, rfl⟩, _, _⟩ := ok.two
      · cases h3
        refine ⟨_, _, rfl, a, n, xs, rfl, rfl, h1, hc.1, hc.2.1, by rw [DpAll.length h2]; exact hc.2.2, fun p hp => ?_⟩
        have fr := Fr.newL (B := B) (o := HO.lst (List.replicate n.toNat xs).flatten) hp
        refine k (.ref p) B _ fs [p] (fr.weak (fun _ f => f.elim) fun a f => ?_) (g.grow fr (fun _ _ f => f) (g.ext.trans fr.sameH)) ⟨⟨p, _, rfl, rfl, upd_same, DpAll.rep h2 _⟩, rfl, fun a ha => ?_⟩
        · rcases f with f | f
          · exact Or.inr (Or.inl (Or.inl f))
          · exact Or.inl f
        · simp at ha
          subst ha
          refine ⟨?_, fun i hi => g.lives hi hp⟩
          cases e : B a with
          | none => rfl
          | some u => rw [g.ext a u e] at hp; cases hp
    · cases e
  · cases e
def oMulI := opG (pInt CMulW fun i j => i * j)
def oMul : List Rs → M Rs := fun rs ρ => match oMulI rs ρ with
    | some x => some x
    | none => oRep rs ρ
abbrev rMulAll : R2 := fun x y H Q => rI CMulW (fun i j => V.int (i * j)) x y H Q ∨ rRep x y H Q
theorem op_mulAll {X : Cx} : OpR X (binaryOp .Mult) rMulAll := OpR.or op_mulW op_rep
theorem oMul_ok {K : PySem.W.Frag} : OpOk K (r2 rMulAll) oMul := fun vs0 σ B H ρ fs vs rs Ts Q g ok nd r' ρ' e k =>
  r2_or.mpr ((OpOk.or (oInt_ok (K := K)) oRep_ok) vs0 σ B H ρ fs vs rs Ts Q g ok nd r' ρ' e k)
section
mutual
theorem Dp.plain {K : PySem.W.Frag} {H : Hp} : ∀ {d : D} {v : V}, Dp K H v d → d.plain = true
  | .none, _, _ => rfl
  | .bool _, _, _ => rfl
  | .int _, _, _ => rfl
  | .str _, _, _ => rfl
  | .list xs, _, h => by
    cases h with
    | lst h1 h2 => simp only [PyData.plain]; exact DpAll.plain h2
  | .tuple xs, _, h => by
    cases h with
    | tup h1 h2 => simp only [PyData.plain]; exact DpAll.plain h2
  | .dict _, _, h => by cases h
theorem DpAll.plain {K : PySem.W.Frag} {H : Hp} : ∀ {ds : List D} {vs : List V}, DpAll K H vs ds → PyData.plainAll ds = true
  | [], _, _ => rfl
  | d :: ds, _, h => by
    cases h with
    | cons h1 h2 => simp only [PyData.plainAll, Dp.plain h1, DpAll.plain h2, Bool.and_self]
end
end
def rEqP (K : PySem.W.Frag) : R2 := fun x y H Q => ∃ d e, Dp K H x d ∧ Dp K H y e ∧ min d.depth e.depth ≤ 40 ∧ Q (.bl (PyData.eqv d e)) H
def rNeP (K : PySem.W.Frag) : R2 := fun x y H Q => ∃ d e, Dp K H x d ∧ Dp K H y e ∧ min d.depth e.depth ≤ 40 ∧ Q (.bl (!PyData.eqv d e)) H
def rInP (K : PySem.W.Frag) : R2 := fun x y H Q => ∃ d xs, Dp K H x d ∧ (Dp K H y (.list xs) ∨ Dp K H y (.tuple xs)) ∧ d.depth ≤ 40 ∧ Q (.bl (xs.any fun y => PyData.eqv y d)) H
def rNiP (K : PySem.W.Frag) : R2 := fun x y H Q => ∃ d xs, Dp K H x d ∧ (Dp K H y (.list xs) ∨ Dp K H y (.tuple xs)) ∧ d.depth ≤ 40 ∧ Q (.bl (!xs.any fun y => PyData.eqv y d)) H
section
variable {X : Cx}
theorem op_eqP (hu : X.A.units + 64 < cLine) : OpR X (compareOp .Eq) (rEqP X.K) := by
  intro pins s σ H x y v u Q I rx ry h
  obtain ⟨d, e, hd, he, hm, q⟩ := h
  obtain ⟨as, r1⟩ := Dp.reads I d x v hd rx
  obtain ⟨bs, r2⟩ := Dp.reads I e y u he ry
  exact SeqAt.eq_plain r1 r2 (Dp.plain hd) (Dp.plain he) (by omega) ⟨.bl _, H, I, rfl, q⟩
theorem op_neP (hu : X.A.units + 64 < cLine) : OpR X (compareOp .NotEq) (rNeP X.K) := by
  intro pins s σ H x y v u Q I rx ry h
  obtain ⟨d, e, hd, he, hm, q⟩ := h
  obtain ⟨as, r1⟩ := Dp.reads I d x v hd rx
  obtain ⟨bs, r2⟩ := Dp.reads I e y u he ry
  exact SeqAt.ne_plain r1 r2 (Dp.plain hd) (Dp.plain he) (by omega) ⟨.bl _, H, I, rfl, q⟩
theorem plain_list {xs : List D} (h : PyData.plain (.list xs) = true) : PyData.plainAll xs = true := by simpa only [PyData.plain] using h
theorem plain_tup {xs : List D} (h : PyData.plain (.tuple xs) = true) : PyData.plainAll xs = true := by simpa only [PyData.plain] using h
theorem op_inP (hu : X.A.units + 64 < cLine) : OpR X (compareOp .In) (rInP X.K) := by
  intro pins s σ H x y v u Q I rx ry h
  obtain ⟨d, xs, hd, he, hm, q⟩ := h
  obtain ⟨as, r1⟩ := Dp.reads I d x v hd rx
  rcases he with he | he
  · obtain ⟨bs, r2⟩ := Dp.reads I _ y u he ry
    exact SeqAt.in_list_data r2 r1 (plain_list (Dp.plain he)) (Dp.plain hd) (by omega) ⟨.bl _, H, I, rfl, q⟩
  · obtain ⟨bs, r2⟩ := Dp.reads I _ y u he ry
    exact SeqAt.in_tuple_data r2 r1 (plain_tup (Dp.plain he)) (Dp.plain hd) (by omega) ⟨.bl _, H, I, rfl, q⟩
theorem op_niP (hu : X.A.units + 64 < cLine) : OpR X (compareOp .NotIn) (rNiP X.K) := by
  intro pins s σ H x y v u Q I rx ry h
  obtain ⟨d, xs, hd, he, hm, q⟩ := h
  obtain ⟨as, r1⟩ := Dp.reads I d x v hd rx
  rcases he with he | he
  · obtain ⟨bs, r2⟩ := Dp.reads I _ y u he ry
    exact SeqAt.notIn_list_data r2 r1 (plain_list (Dp.plain he)) (Dp.plain hd) (by omega) ⟨.bl _, H, I, rfl, q⟩
  · obtain ⟨bs, r2⟩ := Dp.reads I _ y u he ry
    exact SeqAt.notIn_tuple_data r2 r1 (plain_tup (Dp.plain he)) (Dp.plain hd) (by omega) ⟨.bl _, H, I, rfl, q⟩
end
def pEq : List D → Option Rd'
  | [d, e] => if min d.depth e.depth ≤ 40 then some (.pd (.bool (PyData.eqv d e))) else none
  | _ => none
def pNe : List D → Option Rd'
  | [d, e] => if min d.depth e.depth ≤ 40 then some (.pd (.bool (!PyData.eqv d e))) else none
  | _ => none
def oEq := opG pEq
def oNe := opG pNe
theorem oEq_ok {K : PySem.W.Frag} : OpOk K (r2 (rEqP K)) oEq := opG_ok fun B H vs ds res Q e hs hp k => by
  unfold pEq at hp
  split at hp
  · split at hp
    · obtain ⟨x, y, rfl, h1, h2⟩ := hs.two
      cases hp
      exact ⟨_, _, rfl, _, _, h1.dp e, h2.dp e, by assumption, k.bool e⟩
    · cases hp
  · cases hp
theorem oNe_ok {K : PySem.W.Frag} : OpOk K (r2 (rNeP K)) oNe := opG_ok fun B H vs ds res Q e hs hp k => by
  unfold pNe at hp
  split at hp
  · split at hp
    · obtain ⟨x, y, rfl, h1, h2⟩ := hs.two
      cases hp
      exact ⟨_, _, rfl, _, _, h1.dp e, h2.dp e, by assumption, k.bool e⟩
    · cases hp
  · cases hp
def pIn : List D → Option Rd'
  | [d, .list xs] => if d.depth ≤ 40 then some (.pd (.bool (xs.any fun y => PyData.eqv y d))) else none
  | [d, .tuple xs] => if d.depth ≤ 40 then some (.pd (.bool (xs.any fun y => PyData.eqv y d))) else none
  | _ => none
def pNi : List D → Option Rd'
  | [d, .list xs] => if d.depth ≤ 40 then some (.pd (.bool (!xs.any fun y => PyData.eqv y d))) else none
  | [d, .tuple xs] => if d.depth ≤ 40 then some (.pd (.bool (!xs.any fun y => PyData.eqv y d))) else none
  | _ => none
def oIn := opG pIn
def oNi := opG pNi
theorem oIn_ok {K : PySem.W.Frag} : OpOk K (r2 (rInP K)) oIn := opG_ok fun B H vs ds res Q e hs hp k => by
  unfold pIn at hp
  split at hp
  · split at hp
    · obtain ⟨x, y, rfl, h1, h2⟩ := hs.two
      cases hp
      exact ⟨_, _, rfl, _, _, h1.dp e, Or.inl (h2.dp e), by assumption, k.bool e⟩
    · cases hp
  · split at hp
    · obtain ⟨x, y, rfl, h1, h2⟩ := hs.two
      cases hp
      exact ⟨_, _, rfl, _, _, h1.dp e, Or.inr (h2.dp e), by assumption, k.bool e⟩
    · cases hp
  · cases hp
theorem oNi_ok {K : PySem.W.Frag} : OpOk K (r2 (rNiP K)) oNi := opG_ok fun B H vs ds res Q e hs hp k => by
  unfold pNi at hp
  split at hp
  · split at hp
    · obtain ⟨x, y, rfl, h1, h2⟩ := hs.two
      cases hp
      exact ⟨_, _, rfl, _, _, h1.dp e, Or.inl (h2.dp e), by assumption, k.bool e⟩
    · cases hp
  · split at hp
    · obtain ⟨x, y, rfl, h1, h2⟩ := hs.two
      cases hp
      exact ⟨_, _, rfl, _, _, h1.dp e, Or.inr (h2.dp e), by assumption, k.bool e⟩
    · cases hp
  · cases hp
def pCmpI (f : Int → Int → Bool) : List D → Option Rd'
  | [.int a, .int b] => some (.pd (.bool (f a b)))
  | _ => none
theorem oCmpI_ok {K : PySem.W.Frag} {f : Int → Int → Bool} : OpOk K (r2 (rI0 fun a b => .bl (f a b))) (opG (pCmpI f)) := opG_ok fun B H vs ds res Q e hs hp k => by
  unfold pCmpI at hp
  split at hp
  · obtain ⟨x, y, rfl, h1, h2⟩ := hs.two
    cases hp
    exact ⟨_, _, rfl, _, _, h1.int, h2.int, k.bool e⟩
  · cases hp
def oLt := opG (pCmpI fun i j => decide (i < j))
def oLe := opG (pCmpI fun i j => decide (i ≤ j))
def oGt := opG (pCmpI fun i j => decide (j < i))
def oGe := opG (pCmpI fun i j => decide (j ≤ i))
abbrev rIsAll : R2 := fun x y H Q => (fun x y H Q => y = V.non ∧ Q (.bl (decide (x = .non))) H) x y H Q ∨ rIsB x y H Q
theorem op_isAll {X : Cx} : OpR X (compareOp .Is) rIsAll := OpR.or op_isN op_isBl
def isNon : D → Bool
  | .none => true
  | _ => false
def pIs : List D → Option Rd'
  | [d, .none] => some (.pd (.bool (isNon d)))
  | [.bool a, .bool b] => some (.pd (.bool (decide (a = b))))
  | _ => none
def oIs := opG pIs
theorem isNon_ok {K : PySem.W.Frag} {B H : Hp} {v : V} {d : D} (h : ShD K B H v d) : decide (v = .non) = isNon d := by
  cases d with
  | none => rw [h.non]; rfl
  | bool b => rw [h.bool]; rfl
  | int b => rw [h.int]; rfl
  | str b => rw [h.str]; rfl
  | list l => obtain ⟨a, xs, rfl, _⟩ := h; rfl
  | tuple l => obtain ⟨a, xs, rfl, _⟩ := h.tup; rfl
  | dict l => have h' : Dp K B v (.dict l) := h; cases h'
theorem oIs_ok {K : PySem.W.Frag} : OpOk K (r2 rIsAll) oIs := opG_ok fun B H vs ds res Q e hs hp k => by
  unfold pIs at hp
  split at hp
  · obtain ⟨x, y, rfl, h1, h2⟩ := hs.two
    cases hp
    exact ⟨_, _, rfl, Or.inl ⟨h2.non, by rw [isNon_ok h1]; exact k.bool e⟩⟩
  · obtain ⟨x, y, rfl, h1, h2⟩ := hs.two
    cases hp
    exact ⟨_, _, rfl, Or.inr ⟨_, _, h1.bool, h2.bool, k.bool e⟩⟩
  · cases hp
def pIx : List D → Option Rd'
  | [.list l, .int i] => (atI l i).map .pd
  | [.tuple l, .int i] => (atI l i).map .pd
  | [.str z, .int i] => if z.length ≤ sizeLine then (atI z.cps.toList i).map fun c => .pd (.str ⟨#[c]⟩) else none
  | _ => none
def oIx := opG pIx
theorem atI_dp {K : PySem.W.Frag} {B : Hp} {xs : List V} {l : List D} {i : Int} {d : D} (h : DpAll K B xs l) (e : atI l i = some d) : ∃ v, atI xs i = some v ∧ Dp K B v d := by
  unfold atI at e ⊢
  rw [DpAll.length h]
  cases e2 : ixN l.length i with
  | none => rw [e2] at e; cases e
  | some j =>
    rw [e2] at e
    exact DpAll.get h e
theorem oIx_ok {K : PySem.W.Frag} : OpOk K (r2 (rIx K)) oIx := opG_ok fun B H vs ds res Q e hs hp k => by
  unfold pIx at hp
  split at hp
  · rename_i l i
    obtain ⟨x, y, rfl, ⟨p, xs, rfl, s1, d1⟩, h2⟩ := hs.two
    cases e1 : atI l i with
    | none => rw [e1] at hp; cases hp
    | some d =>
      rw [e1] at hp
      cases hp
      obtain ⟨v, e2, hv⟩ := atI_dp d1 e1
      exact ⟨_, _, rfl, Or.inl ⟨p, xs, i, v, rfl, h2.int, s1, e2, k.same e hv⟩⟩
  · rename_i l i
    obtain ⟨x, y, rfl, h1, h2⟩ := hs.two
    obtain ⟨p, xs, rfl, s1, d1⟩ := h1.tup
    cases e1 : atI l i with
    | none => rw [e1] at hp; cases hp
    | some d =>
      rw [e1] at hp
      cases hp
      obtain ⟨v, e2, hv⟩ := atI_dp d1 e1
      exact ⟨_, _, rfl, Or.inr (Or.inl ⟨p, xs, i, v, rfl, h2.int, sqt_mono e s1, e2, k.same e hv⟩)⟩
  · rename_i z i
    split at hp
    · rename_i hz
      obtain ⟨x, y, rfl, h1, h2⟩ := hs.two
      cases e1 : atI z.cps.toList i with
      | none => rw [e1] at hp; cases hp
      | some c =>
        rw [e1] at hp
        cases hp
        exact ⟨_, _, rfl, Or.inr (Or.inr ⟨z, i, c, h1.str, h2.int, hz, e1, k.str e⟩)⟩
    · cases hp
  · cases hp
end Pd
set_option Elab.async false
set_option linter.all false
set_option maxRecDepth 100000
set_option maxHeartbeats 1000000
namespace Pd
open PySem PySem.Spec PyProof.Rows L2
def rdO (K : PySem.W.Frag) (vs0 : List V) (f : M (Option Int)) : TO := fun σ H Q => ∃ B ρ fs, Good K vs0 B H σ ρ fs ∧ ∃ o ρ', f ρ = some (.ok o ρ') ∧
  ∀ B' H' fs', Fr B H (InF fs) B' H' (InF fs') → Good K vs0 B' H' σ ρ' fs' → Q o H'
def mInt (f : M Rs) : M (Option Int) := M.bind f fun r ρ => match r.view ρ with
  | some (.int i) => some (.ok (some i) ρ)
  | _ => none
def mNo : M (Option Int) := M.ret none
def eSl (fe : M Rs) (lo hi : M (Option Int)) (op : Option Int → Option Int → List Rs → M Rs) : M Rs := M.bind fe fun r => M.bind lo fun l => M.bind hi fun h => op l h [r]
theorem fr_drop {B H B' H' : Hp} {F : Addr → Prop} {fs : Nat → List Addr} {T : List Addr} (x : Fr B H F B' H' (UnF (InF fs) T)) : Fr B H F B' H' (InF fs) := x.weak (fun _ h => h) fun a h => Or.inl (Or.inl h)
section
variable {X : Cx} {vs0 : List V} {K : PySem.W.Frag}
theorem do_none : PO X none (rdO X.K vs0 mNo) := PO.imp po_none fun σ H Q q => by
  obtain ⟨B, ρ, fs, g, o, ρ', e1, k⟩ := q
  cases e1
  exact k B H fs (Fr.refl _ _ _) g
theorem do_some {e : Expr} {f : M Rs} (h : PE X e (rdE X.K vs0 f)) : PO X (some e) (rdO X.K vs0 (mInt f)) := PO.imp (po_some h) fun σ H Q q => by
  obtain ⟨B, ρ, fs, g, o, ρ', e1, k⟩ := q
  obtain ⟨r, ρ1, e2, e3⟩ := M.bind_ok e1
  split at e3
  · rename_i i e4
    cases e3
    refine ⟨B, ρ, fs, g, r, ρ', e2, fun v B' H' fs' T fr g' ok => ⟨i, (view_ok g' ok e4).int, k B' H' fs' (fr_drop fr) g'⟩⟩
  · cases e3
theorem rd_sl {fe : M Rs} {lo hi : M (Option Int)} {op : Option Int → Option Int → List Rs → M Rs} {r : V → Option Int → Option Int → Hp → VK → Prop} (ho : ∀ l h, OpOk K (fun vs H Q => ∃ x, vs = [x] ∧ r x l h H Q) (op l h)) {σ : L2.St} {H : Hp} {Q : VK}
    (q : rdE K vs0 (eSl fe lo hi op) σ H Q) : tSl r (rdE K vs0 fe) (rdO K vs0 lo) (rdO K vs0 hi) σ H Q := by
  obtain ⟨B, ρ, fs, g, r', ρ', e1, k⟩ := q
  obtain ⟨r0, ρ1, e2, e3⟩ := M.bind_ok e1
  obtain ⟨l, ρ2, e4, e5⟩ := M.bind_ok e3
  obtain ⟨h, ρ3, e6, e7⟩ := M.bind_ok e5
  refine ⟨B, ρ, fs, g, r0, ρ1, e2, fun v B1 H1 fs1 T1 fr1 g1 ok1 => ⟨B1, ρ1, fs1, g1, l, ρ2, e4, fun B2 H2 fs2 fr2 g2 => ⟨B2, ρ2, fs2, g2, h, ρ3, e6, fun B3 H3 fs3 fr3 g3 => ?_⟩⟩⟩
  have n1 : ∀ a ∈ T1, ¬ InF fs1 a := ok1.off
  have ok2 := ok1.keep (fs' := fs2) fr2 n1 fun a h => h
  have n2 : ∀ a ∈ T1, ¬ InF fs2 a := ok2.off
  have ok3 := ok2.keep (fs' := fs3) fr3 n2 fun a h => h
  obtain ⟨x, ex, q⟩ := ho l h vs0 σ B3 H3 ρ3 fs3 [v] [r0] [T1] Q g3 ⟨ok3, True.intro⟩ (by simpa using ok3.nodup) r' ρ' e7 fun v4 B4 H4 fs4 T4 fr4 g4 ok4 =>
    k v4 B4 H4 fs4 T4 (fr1.trans ((fr2.frame T1).trans ((fr3.frame T1).trans (fr4.weak (fun a h => by
      rcases h with h | h
      · exact Or.inl h
      · exact Or.inr (by simpa using h)) fun a h => Or.inl h)))) g4 ok4
  cases ex
  exact q
def cutD (l : List D) (lo hi : Option Int) : List D := (l.drop (HT.sIx l.length 0 lo)).take (HT.sIx l.length l.length hi - HT.sIx l.length 0 lo)
def pSl (lo hi : Option Int) : List D → Option Rd'
  | [.list l] => some (.nl (cutD l lo hi))
  | [.tuple l] => some (.pd (.tuple (cutD l lo hi)))
  | [.str z] => if z.length ≤ sizeLine then some (.pd (.str (cutS z lo hi))) else none
  | _ => none
def oSl (lo hi : Option Int) := opG (pSl lo hi)
abbrev rSlAll (K : PySem.W.Frag) : V → Option Int → Option Int → Hp → VK → Prop := fun x lo hi H Q => rSlL K x lo hi H Q ∨ (fun x lo hi H Q => rSlA K x lo hi H Q ∨ rSlS x lo hi H Q) x lo hi H Q
theorem sl_all : SlR X (rSlAll X.K) := SlR.or sl_list (SlR.or sl_tupA sl_str)
theorem cut_dp {B : Hp} {xs : List V} {l : List D} (h : DpAll K B xs l) (lo hi : Option Int) : DpAll K B (cutV xs lo hi) (cutD l lo hi) := by
  unfold cutV cutD
  rw [DpAll.length h]
  exact DpAll.take _ (DpAll.drop _ h)
theorem oSl_ok (lo hi : Option Int) : OpOk K (fun vs H Q => ∃ x, vs = [x] ∧ rSlAll K x lo hi H Q) (oSl lo hi) := opG_ok fun B H vs ds res Q e hs hp k => by
  unfold pSl at hp
  split at hp
  · obtain ⟨x, rfl, p, xs, rfl, s1, d1⟩ := hs.one
    cases hp
    exact ⟨_, rfl, Or.inl ⟨p, xs, rfl, s1, fun t ht => k t _ ht (cut_dp d1 lo hi)⟩⟩
  · rename_i l
    obtain ⟨x, rfl, h1⟩ := hs.one
    obtain ⟨p, xs, rfl, s1, d1⟩ := h1.tup
    cases hp
    refine ⟨_, rfl, Or.inr (Or.inl ⟨p, xs, rfl, sqt_mono e s1, fun hw => ?_, fun _ t ht => k.tup e ht (cut_dp d1 lo hi)⟩)⟩
    have hc : cutD l lo hi = l := by
      unfold cutD
      rw [← DpAll.length d1, hw.1, hw.2, DpAll.length d1]
      simp
    rw [hc] at k
    exact k.same e (.tup s1 d1)
  · split at hp
    · rename_i z hz
      obtain ⟨x, rfl, h1⟩ := hs.one
      cases hp
      exact ⟨_, rfl, Or.inr (Or.inr ⟨z, h1.str, hz, k.str e⟩)⟩
    · cases hp
  · cases hp
theorem de_slice {e : Expr} {lo hi : Option Expr} {fe : M Rs} {fl fh : M (Option Int)} {pos p2 : Pos} (he : PE X e (rdE X.K vs0 fe)) (hl : PO X lo (rdO X.K vs0 fl)) (hu : PO X hi (rdO X.K vs0 fh)) :
    PE X (.Subscript e (.Slice lo hi none p2) pos) (rdE X.K vs0 (eSl fe fl fh oSl)) := PE.imp (pe_slice sl_all he hl hu) fun σ H Q q => rd_sl oSl_ok q
end
section
variable {X : Cx} {K : PySem.W.Frag}
def pLen : List D → Option Rd'
  | [.list l] => some (.pd (.int l.length))
  | [.tuple l] => some (.pd (.int l.length))
  | [.str z] => if z.length ≤ sizeLine then some (.pd (.int z.length)) else none
  | _ => none
def oLen := opG pLen
theorem oLen_ok : OpOk K (fun xs H Q => ∃ x n, xs = [x] ∧ LenV K x H n ∧ Q (.int n) H) oLen := opG_ok fun B H vs ds res Q e hs hp k => by
  unfold pLen at hp
  split at hp
  · obtain ⟨x, rfl, p, xs, rfl, s1, d1⟩ := hs.one
    cases hp
    exact ⟨_, _, rfl, Or.inl ⟨xs, s1, (DpAll.length d1).symm⟩, k.int e⟩
  · obtain ⟨x, rfl, h1⟩ := hs.one
    obtain ⟨p, xs, rfl, s1, d1⟩ := h1.tup
    cases hp
    exact ⟨_, _, rfl, Or.inr ⟨xs, sqt_mono e s1, (DpAll.length d1).symm⟩, k.int e⟩
  · split at hp
    · rename_i z hz
      obtain ⟨x, rfl, h1⟩ := hs.one
      cases hp
      rw [h1.str]
      exact ⟨_, _, rfl, ⟨hz, rfl⟩, k.int e⟩
    · cases hp
  · cases hp
def ints? : List D → Option (List Int)
  | [] => some []
  | .int i :: r => (ints? r).map (i :: ·)
  | _ :: _ => none
theorem ints?_eq : ∀ {l : List D} {ns : List Int}, ints? l = some ns → l = ns.map PyData.int
  | [], ns, h => by cases h; rfl
  | d :: l, ns, h => by
    cases d <;> try cases h
    rename_i i
    unfold ints? at h
    cases e : ints? l with
    | none => rw [e] at h; cases h
    | some ms => rw [e] at h; cases h; rw [ints?_eq e]; rfl
@[simp] theorem ints?_map (ns : List Int) : ints? (ns.map PyData.int) = some ns := by
  induction ns with
  | nil => rfl
  | cons n ns ih => simp [ints?, ih]
section
variable {prog : Program} {w : World} {A : Around} {E : Value → Shared → Prop} {s : Shared}
theorem sum_tupG {t : Addr} {xs : Array (Int × Tok)} {Q : Value → Shared → Prop} (hh : A.handled = none) (ht : s.heap.IsTuple t (intItems xs))
    (h : ∀ h' tk t', (∀ b o, s.heap.get? b = some o → h'.get? b = some o) → Q (.int (preSum (numAt xs) xs.size) t') { s with heap := h', toks := tk }) :
    wpAny (model prog w) A (call (.builtin "sum") [.ref t]) Q E s := by
  have hlt : t < s.heap.objs.size := by obtain ⟨_, e, _⟩ := ht; exact Heap.lt_size e
  have push : ∀ (ob : Obj), ({ s with heap := s.heap.push ob } : Shared).heap.IsTuple t (intItems xs) := fun ob => by
    obtain ⟨o, e, c, n, d⟩ := ht
    exact ⟨o, Heap.get?_push_of_some _ e, c, n, d⟩
  refine call_sum_walkG (wpAny_pyIter_tuple ht ?_)
  refine ⟨_, _, _, _, _, _, numAt xs, rfl, Walks.tuple (A := A.in1) hh s.heap.objs.size t (Nat.ne_of_lt hlt) (intItems xs), ⟨⟨_, Heap.get?_push_size _ rfl, rfl, rfl⟩, push _⟩, fun b hb => ?_, (fun _ _ => intItems_at), fun h' tk t' hk => ?_⟩
  · show b < (s.heap.push _).objs.size
    rw [Heap.size_push]
    rcases List.mem_cons.mp hb with rfl | hb
    · exact Nat.lt_succ_self _
    · simp at hb; subst hb; exact Nat.lt_succ_of_lt hlt
  · have := h h' tk t' (fun b o e => hk b o (fun hm => by
      simp at hm
      subst hm
      exact Nat.lt_irrefl _ (Heap.lt_size e)) (Heap.get?_push_of_some _ e))
    simpa [intItems] using this
theorem sum_tup {t : Addr} {its : List Value} {ns : List Int} {Q : Value → Shared → Prop} (hh : A.handled = none) (ht : s.heap.IsTuple t its.toArray) (hi : IntsAre its ns)
    (h : ∀ h' tk t', (∀ b o, s.heap.get? b = some o → h'.get? b = some o) → Q (.int ns.sum t') { s with heap := h', toks := tk }) : wpAny (model prog w) A (call (.builtin "sum") [.ref t]) Q E s := by
  obtain ⟨xs, e⟩ := hi.allInts.items
  have hn : numsOf (intItems xs).toList = ns := by rw [← e]; exact hi.numsOf
  rw [nums_intItems] at hn
  rw [e] at ht
  refine sum_tupG hh ht fun h' tk t' hk => ?_
  have := h h' tk t' hk
  rw [preSum_eq, List.take_of_length_le (by simp), hn]; exact this
end
def rSumA (K : PySem.W.Frag) : List V → Hp → VK → Prop := fun vs H Q => rSum K vs H Q ∨ ∃ (a : Addr) (ns : List Int), vs = [V.ref a] ∧ SqT K H a (ns.map V.int) ∧ Q (.int ns.sum) H
theorem cr_sumA (hc : X.calm = true) : CallR X (.builtin "sum") (rSumA X.K) := CallR.or (cr_sum hc) (by
  intro pins s σ H vs us Q I r h
  obtain ⟨a, ns, rfl, hs, q⟩ := h
  obtain ⟨its, rv, ⟨o, e, c, n, d⟩, _⟩ := I.tuple hs
  rw [Vals.ref1 r]
  exact sum_tup (I.ok.hd hc) ⟨o, e, c, n, d⟩ rv.ints fun h' tk t' hk => ⟨.int _, H, I.kept hk, ⟨_, rfl⟩, q⟩)
def pSum : List D → Option Rd'
  | [.list l] => (ints? l).map fun ns => .pd (.int ns.sum)
  | [.tuple l] => (ints? l).map fun ns => .pd (.int ns.sum)
  | _ => none
def oSum := opG pSum
theorem oSum_ok : OpOk K (rSumA K) oSum := opG_ok fun B H vs ds res Q e hs hp k => by
  unfold pSum at hp
  split at hp
  · rename_i l
    obtain ⟨x, rfl, p, xs, rfl, s1, d1⟩ := hs.one
    cases e1 : ints? l with
    | none => rw [e1] at hp; cases hp
    | some ns =>
      rw [e1] at hp
      cases hp
      rw [ints?_eq e1] at d1
      rw [DpAll.ints d1] at s1
      exact Or.inl ⟨p, ns, rfl, s1, k.int e⟩
  · rename_i l
    obtain ⟨x, rfl, h1⟩ := hs.one
    obtain ⟨p, xs, rfl, s1, d1⟩ := h1.tup
    cases e1 : ints? l with
    | none => rw [e1] at hp; cases hp
    | some ns =>
      rw [e1] at hp
      cases hp
      rw [ints?_eq e1] at d1
      rw [DpAll.ints d1] at s1
      exact Or.inr ⟨p, ns, rfl, sqt_mono e s1, k.int e⟩
  · cases hp
def maxI : List Int → Int
  | [] => 0
  | [a] => a
  | a :: r => max a (maxI r)
theorem maxI_spec : ∀ (l : List Int), l ≠ [] → maxI l ∈ l ∧ ∀ x ∈ l, x ≤ maxI l
  | [], h => (h rfl).elim
  | [a], _ => ⟨by simp [maxI], by simp [maxI]⟩
  | a :: b :: r, _ => by
    obtain ⟨h1, h2⟩ := maxI_spec (b :: r) (by simp)
    have e : maxI (a :: b :: r) = max a (maxI (b :: r)) := rfl
    rw [e]
    refine ⟨?_, fun x hx => ?_⟩
    · rcases Int.le_total a (maxI (b :: r)) with h | h
      · rw [Int.max_eq_right h]; exact List.mem_cons_of_mem _ h1
      · rw [Int.max_eq_left h]; simp
    · rcases List.mem_cons.mp hx with rfl | hx
      · exact Int.le_max_left _ _
      · exact Int.le_trans (h2 x hx) (Int.le_max_right _ _)
def pMax : List D → Option Rd'
  | [.list l] => (ints? l).bind fun ns => if ns = [] then none else some (.pd (.int (maxI ns)))
  | [.int i, .int j] => some (.pd (.int (max i j)))
  | _ => none
def oMax := opG pMax
def rMaxA (K : PySem.W.Frag) : List V → Hp → VK → Prop := fun vs H Q => rMax K vs H Q ∨ (fun xs H Q => ∃ i j, xs = [V.int i, .int j] ∧ Q (.int (if j > i then j else i)) H) vs H Q
theorem cr_maxA (hc : X.calm = true) : CallR X (.builtin "max") (rMaxA X.K) := CallR.or (cr_max hc) (call_max2 hc)
theorem oMax_ok : OpOk K (rMaxA K) oMax := opG_ok fun B H vs ds res Q e hs hp k => by
  unfold pMax at hp
  split at hp
  · rename_i l
    obtain ⟨x, rfl, p, xs, rfl, s1, d1⟩ := hs.one
    cases e1 : ints? l with
    | none => rw [e1] at hp; cases hp
    | some ns =>
      rw [e1, Option.bind_some] at hp
      split at hp
      · cases hp
      · rename_i hne
        cases hp
        rw [ints?_eq e1] at d1
        rw [DpAll.ints d1] at s1
        obtain ⟨m1, m2⟩ := maxI_spec ns hne
        refine Or.inl ⟨p, ns, rfl, s1, ?_, fun m hm hle => ?_⟩
        · cases ns with
          | nil => exact (hne rfl).elim
          | cons _ _ => simp
        · have : m = maxI ns := Int.le_antisymm (m2 m hm) (hle _ m1)
          rw [this]
          exact k.int e
  · rename_i i j
    obtain ⟨x, y, rfl, h1, h2⟩ := hs.two
    cases hp
    rw [h1.int, h2.int]
    refine Or.inr ⟨i, j, rfl, ?_⟩
    have : (if j > i then j else i) = max i j := by
      split <;> omega
    rw [this]
    exact k.int e
  · cases hp
def pAbs : List D → Option Rd'
  | [.int i] => some (.pd (.int (i.natAbs : Int)))
  | _ => none
def oAbs := opG pAbs
theorem oAbs_ok : OpOk K (fun xs H Q => ∃ i, xs = [V.int i] ∧ Q (.int (if i < 0 then -i else i)) H) oAbs := opG_ok fun B H vs ds res Q e hs hp k => by
  unfold pAbs at hp
  split at hp
  · rename_i i
    obtain ⟨x, rfl, h1⟩ := hs.one
    cases hp
    rw [h1.int]
    refine ⟨i, rfl, ?_⟩
    have : (if i < 0 then -i else i) = (i.natAbs : Int) := by split <;> omega
    rw [this]
    exact k.int e
  · cases hp
def pInt1 : List D → Option Rd'
  | [.int i] => some (.pd (.int i))
  | [.bool b] => some (.pd (.int (if b then 1 else 0)))
  | _ => none
def oInt1 := opG pInt1
theorem oInt1_ok : OpOk K (fun xs H Q => (∃ i, xs = [V.int i] ∧ Q (.int i) H) ∨ ∃ k, xs = [V.bl k] ∧ Q (.int (if k then 1 else 0)) H) oInt1 := opG_ok fun B H vs ds res Q e hs hp k => by
  unfold pInt1 at hp
  split at hp
  · obtain ⟨x, rfl, h1⟩ := hs.one
    cases hp
    exact Or.inl ⟨_, by rw [h1.int], k.int e⟩
  · obtain ⟨x, rfl, h1⟩ := hs.one
    cases hp
    exact Or.inr ⟨_, by rw [h1.bool], k.int e⟩
  · cases hp
def pListOf : List D → Option Rd'
  | [.list l] => some (.nl l)
  | [.tuple l] => some (.nl l)
  | _ => none
def oListOf := opG pListOf
theorem oListOf_ok : OpOk K (fun xs H Q => ∃ p ys, xs = [V.ref p] ∧ (SqL K H p ys ∨ SqT K H p ys) ∧ ∀ l, H l = none → Q (.ref l) (upd H l (.lst ys))) oListOf := opG_ok fun B H vs ds res Q e hs hp k => by
  unfold pListOf at hp
  split at hp
  · obtain ⟨x, rfl, p, xs, rfl, s1, d1⟩ := hs.one
    cases hp
    exact ⟨p, xs, rfl, Or.inl s1, fun l hl => k l xs hl d1⟩
  · obtain ⟨x, rfl, h1⟩ := hs.one
    obtain ⟨p, xs, rfl, s1, d1⟩ := h1.tup
    cases hp
    exact ⟨p, xs, rfl, Or.inr (sqt_mono e s1), fun l hl => k l xs hl d1⟩
  · cases hp
def pTupOf : List D → Option Rd'
  | [.list l] => some (.pd (.tuple l))
  | [.tuple l] => some (.pd (.tuple l))
  | _ => none
def oTupOf := opG pTupOf
theorem oTupOf_ok : OpOk K (fun xs H Q => ∃ p ys, xs = [V.ref p] ∧ ((SqL K H p ys ∧ ∀ l, H l = none → Q (.ref l) (upd H l (.tup ys))) ∨ (SqT K H p ys ∧ Q (.ref p) H))) oTupOf := opG_ok fun B H vs ds res Q e hs hp k => by
  unfold pTupOf at hp
  split at hp
  · obtain ⟨x, rfl, p, xs, rfl, s1, d1⟩ := hs.one
    cases hp
    exact ⟨p, xs, rfl, Or.inl ⟨s1, fun l hl => k.tup e hl d1⟩⟩
  · obtain ⟨x, rfl, h1⟩ := hs.one
    obtain ⟨p, xs, rfl, s1, d1⟩ := h1.tup
    cases hp
    exact ⟨p, xs, rfl, Or.inr ⟨sqt_mono e s1, k.same e (.tup s1 d1)⟩⟩
  · cases hp
def pNeg : List D → Option Rd'
  | [.int i] => some (.pd (.int (-i)))
  | _ => none
def oNeg := opG pNeg
def eUn (fa : M Rs) (op : List Rs → M Rs) : M Rs := M.bind (aCons fa aNil) op
theorem de_neg {vs0 : List V} {a : Expr} {fa : M Rs} {pos : Pos} (ha : PE X a (rdE X.K vs0 fa)) : PE X (.UnaryOp .USub a pos) (rdE X.K vs0 (eUn fa oNeg)) := PE.imp (pe_un un_neg ha) fun σ H Q q => by
  have ho : OpOk X.K (fun vs H Q => ∃ x, vs = [x] ∧ rU (fun i => .int (-i)) x H Q) oNeg := opG_ok fun B H vs ds res Q e hs hp k => by
    unfold pNeg at hp
    split at hp
    · obtain ⟨x, rfl, h1⟩ := hs.one
      cases hp
      exact ⟨_, rfl, _, h1.int, k.int e⟩
    · cases hp
  refine rdE_imp (rd_cons (rd_op ho q)) fun x H1 q1 => ?_
  obtain ⟨x', e, q2⟩ := rdA_nil q1
  cases e
  exact q2
end
end Pd
set_option Elab.async false
set_option linter.all false
set_option maxRecDepth 100000
set_option maxHeartbeats 1000000
namespace Pd
open PySem PySem.Spec PyProof.Rows L2
def freezeR : Rs → M D
  | .own (.p d) => M.ret d
  | .own (.ml _ l) => M.ret (.list l)
  | .own _ => M.fail
  | .bor i => fun ρ => match ρ[i]? with
    | some (some (.ml none l)) => some (.ok (.list l) (ρ.set i (some (.p (.list l)))))
    | some (some (.p d)) => some (.ok d ρ)
    | _ => none
  | .lent _ _ _ => M.fail
def freezeAll : List Rs → M (List D)
  | [] => M.ret []
  | r :: rs => M.bind (freezeR r) fun d => M.bind (freezeAll rs) fun ds => M.ret (d :: ds)
section
variable {K : PySem.W.Frag} {vs0 : List V} {B H : Hp} {σ : L2.St} {ρ : Env} {fs : Nat → List Addr}
theorem Good.slot {i : Nat} {s : Sl} (g : Good K vs0 B H σ ρ fs) (e : ρ[i]? = some (some s)) : ∃ v, σ[i]? = some (some v) ∧ Own K B H v s (fs i) := by
  obtain ⟨v, h1, h2, _⟩ := g.at_ i s e
  exact ⟨v, h1, h2⟩
theorem Good.put {i : Nat} {s : Sl} {T : List Addr} {v : V} (g : Good K vs0 B H σ ρ fs) (hi : i < ρ.length) (o : Own K B H v s T) (ht : ∀ k, s.tag = some k → vs0[k]? = some v) (hT : ∀ a ∈ T, B a = none ∧ ∀ j, j ≠ i → a ∉ fs j) :
    Good K vs0 B H (σ.set i (some v)) (ρ.set i (some s)) (fun j => if j = i then T else fs j) where
  ext := g.ext
  len := by simp [g.len]
  at_ := fun j s' h => by
    by_cases e : j = i
    · subst e
      rw [List.getElem?_set_self hi] at h
      cases h
      refine ⟨v, List.getElem?_set_self (by rw [g.len]; exact hi), ?_, ht⟩
      rw [if_pos rfl]
      exact o
    · rw [List.getElem?_set_ne (Ne.symm e)] at h
      obtain ⟨v', h1, h2, h3⟩ := g.at_ j s' h
      refine ⟨v', by rw [List.getElem?_set_ne (Ne.symm e)]; exact h1, ?_, h3⟩
      rw [if_neg e]
      exact h2
  emp := fun j h => by
    by_cases e : j = i
    · subst e
      exact (h s (List.getElem?_set_self hi)).elim
    · try dsimp only
      rw [if_neg e]
      refine g.emp j fun s' q => h s' ?_
      rw [List.getElem?_set_ne (Ne.symm e)]
      exact q
  dis := fun j k a h1 h2 => by
    try dsimp only at h1 h2
    by_cases ej : j = i
    · by_cases ek : k = i
      · rw [ej, ek]
      · rw [if_pos ej] at h1
        rw [if_neg ek] at h2
        exact ((hT a h1).2 k ek h2).elim
    · by_cases ek : k = i
      · rw [if_neg ej] at h1
        rw [if_pos ek] at h2
        exact ((hT a h2).2 j ej h1).elim
      · rw [if_neg ej] at h1
        rw [if_neg ek] at h2
        exact g.dis j k a h1 h2
  out := fun j a h => by
    try dsimp only at h
    by_cases ej : j = i
    · rw [if_pos ej] at h
      exact (hT a h).1
    · rw [if_neg ej] at h
      exact g.out j a h
theorem Good.drop (g : Good K vs0 B H σ ρ fs) (i : Nat) : Good K vs0 B H σ (ρ.set i none) (fun j => if j = i then [] else fs j) where
  ext := g.ext
  len := by simp [g.len]
  at_ := fun j s' h => by
    by_cases e : j = i
    · subst e
      by_cases hi : j < ρ.length
      · rw [List.getElem?_set_self hi] at h
        cases h
      · rw [List.getElem?_eq_none (by simp; omega)] at h
        cases h
    · rw [List.getElem?_set_ne (Ne.symm e)] at h
      obtain ⟨v', h1, h2, h3⟩ := g.at_ j s' h
      refine ⟨v', h1, ?_, h3⟩
      rw [if_neg e]
      exact h2
  emp := fun j h => by
    by_cases e : j = i
    · try dsimp only
      rw [if_pos e]
    · try dsimp only
      rw [if_neg e]
      refine g.emp j fun s' q => h s' ?_
      rw [List.getElem?_set_ne (Ne.symm e)]
      exact q
  dis := fun j k a h1 h2 => by
    try dsimp only at h1 h2
    by_cases ej : j = i
    · rw [if_pos ej] at h1; cases h1
    · by_cases ek : k = i
      · rw [if_pos ek] at h2; cases h2
      · rw [if_neg ej] at h1
        rw [if_neg ek] at h2
        exact g.dis j k a h1 h2
  out := fun j a h => by
    try dsimp only at h
    by_cases ej : j = i
    · rw [if_pos ej] at h; cases h
    · rw [if_neg ej] at h
      exact g.out j a h
theorem Good.thaw {a : Addr} {o : HO} (g : Good K vs0 B H σ ρ fs) (h : H a = some o) (hB : B a = none) (n : ∀ i, a ∉ fs i) : Good K vs0 (upd B a o) H σ ρ fs := by
  have bb : Same B (upd B a o) := fun b u e => by
    rw [upd_ne (ne_of_none e hB)]
    exact e
  refine ⟨fun b u e => ?_, g.len, fun i s e => ?_, g.emp, g.dis, fun i b hb => ?_⟩
  · by_cases q : b = a
    · subst q
      rw [upd_same] at e
      rw [h, e]
    · rw [upd_ne q] at e
      exact g.ext b u e
  · obtain ⟨v, h1, h2, h3⟩ := g.at_ i s e
    exact ⟨v, h1, h2.keep bb fun _ _ => rfl, h3⟩
  · rw [upd_ne (show b ≠ a from fun q => n i (by rw [← q]; exact hb))]
    exact g.out i b hb
theorem Fr.thaw {a : Addr} {o : HO} {F : Addr → Prop} (hB : B a = none) (hF : F a) : Fr B H F (upd B a o) H F := by
  refine ⟨fun b u e => ?_, fun _ _ _ => rfl, fun _ h => h, fun _ f => Or.inl f, fun b _ nf e => ?_⟩
  · rw [upd_ne (ne_of_none e hB)]
    exact e
  · rw [upd_ne (show b ≠ a from fun q => nf (by rw [q]; exact hF))]
    exact e
theorem freezeR_ok {r : Rs} {d : D} {ρ' : Env} {v : V} {T : List Addr} (g : Good K vs0 B H σ ρ fs) (ok : RsOk K B H σ fs v r T) (e : freezeR r ρ = some (.ok d ρ')) :
    ∃ B' fs', Fr B H (UnF (InF fs) T) B' H (InF fs') ∧ Good K vs0 B' H σ ρ' fs' ∧ Dp K B' v d := by
  have drop : Fr B H (UnF (InF fs) T) B H (InF fs) := (Fr.refl B H _).weak (fun _ h => h) fun a h => Or.inl (Or.inl h)
  unfold freezeR at e
  split at e
  · cases e
    exact ⟨B, fs, drop, g, ok.1.1⟩
  · rename_i t l
    cases e
    obtain ⟨⟨a, xs, rfl, rfl, h1, h2⟩, _, h3⟩ := ok
    have hB : B a = none := (h3 a (by simp)).1
    refine ⟨upd B a (.lst xs), fs, (Fr.thaw hB (Or.inr (by simp))).weak (fun _ h => h) fun b h => Or.inl (Or.inl h), g.thaw h1 hB (h3 a (by simp)).2, .lst (SqL.of upd_same) (DpAll.mono ?_ h2)⟩
    exact (Fr.thaw (H := H) (F := fun _ => True) hB True.intro).bb
  · cases e
  · rename_i i
    split at e
    · rename_i l e2
      cases e
      obtain ⟨v', h1, ⟨a, xs, rfl, hfs, h2, h3⟩, _⟩ := g.at_ i _ e2
      obtain ⟨q1, q2⟩ := ok
      rw [h1] at q1
      cases q1
      have hB : B a = none := g.out i a (by rw [hfs]; simp)
      have hi : i < ρ.length := (List.getElem?_eq_some_iff.mp e2).1
      have g1 := g.drop i
      have n1 : ∀ j, a ∉ (fun j => if j = i then [] else fs j) j := fun j hj => by
        try dsimp only at hj
        by_cases q : j = i
        · rw [if_pos q] at hj; cases hj
        · rw [if_neg q] at hj
          exact q (g.dis j i a hj (by rw [hfs]; simp))
      have g2 := g1.thaw h2 hB n1
      have hd : Dp K (upd B a (.lst xs)) (.ref a) (.list l) := .lst (SqL.of upd_same) (DpAll.mono (Fr.thaw (H := H) (F := fun _ => True) hB True.intro).bb h3)
      have g3 := g2.put (i := i) (v := .ref a) (s := .p (.list l)) (T := []) (by simpa using hi) ⟨hd, rfl⟩ (fun k h => nomatch h) (fun b hb => nomatch hb)
      rw [List.set_set] at g3
      have es : σ.set i (some (.ref a)) = σ := by
        apply List.ext_getElem?
        intro j
        by_cases q : j = i
        · subst q
          rw [List.getElem?_set_self (by rw [g.len]; exact hi), h1]
        · rw [List.getElem?_set_ne (Ne.symm q)]
      rw [es] at g3
      refine ⟨_, _, (Fr.thaw hB (Or.inl ⟨i, by rw [hfs]; simp⟩)).weak (fun _ h => h) fun b h => ?_, g3, hd⟩
      obtain ⟨j, hj⟩ := h
      try dsimp only at hj
      by_cases q : j = i
      · rw [if_pos q] at hj; cases hj
      · rw [if_neg q, if_neg q] at hj
        exact Or.inl (Or.inl ⟨j, hj⟩)
    · rename_i d' e2
      cases e
      obtain ⟨v', h1, h2, _⟩ := g.at_ i _ e2
      obtain ⟨q1, q2⟩ := ok
      rw [h1] at q1
      cases q1
      exact ⟨B, fs, drop, g, h2.1⟩
    · cases e
  · cases e
theorem freezeAll_ok : ∀ {rs : List Rs} {vs : List V} {Ts : List (List Addr)} {ds : List D} {B : Hp} {ρ ρ' : Env} {fs : Nat → List Addr}, Good K vs0 B H σ ρ fs → RsAll K B H σ fs vs rs Ts → Ts.flatten.Nodup → freezeAll rs ρ = some (.ok ds ρ') →
    ∃ B' fs', Fr B H (UnF (InF fs) Ts.flatten) B' H (InF fs') ∧ Good K vs0 B' H σ ρ' fs' ∧ DpAll K B' vs ds
  | [], vs, Ts, ds, B, ρ, ρ', fs, g, ok, nd, e => by
    match vs, Ts, ok with
    | [], [], _ =>
      cases e
      exact ⟨B, fs, (Fr.refl B H _).weak (fun _ h => h) fun a h => Or.inl (Or.inl h), g, .nil⟩
  | r :: rs, vs, Ts, ds, B, ρ, ρ', fs, g, ok, nd, e => by
    match vs, Ts, ok with
    | v :: vs, T :: Ts, ok =>
      obtain ⟨d, ρ1, e1, e2⟩ := M.bind_ok e
      obtain ⟨ds', ρ2, e3, e4⟩ := M.bind_ok e2
      cases e4
      obtain ⟨B1, fs1, fr1, g1, d1⟩ := freezeR_ok g ok.1 e1
      rw [List.flatten_cons, List.nodup_append] at nd
      have ok2 : RsAll K B1 H σ fs1 vs rs Ts := RsAll.keep fr1 (fun _ h => h) ok.2 fun a ha f => by
        rcases f with f | f
        · exact RsAll.off ok.2 a ha f
        · exact nd.2.2 a f a ha rfl
      obtain ⟨B2, fs2, fr2, g2, d2⟩ := freezeAll_ok g1 ok2 nd.2.1 e3
      refine ⟨B2, fs2, ?_, g2, .cons (Dp.mono fr2.bb d1) d2⟩
      refine ((fr1.frame Ts.flatten).trans fr2).weak (fun a h => ?_) fun a h => Or.inl h
      rcases h with (h | h) | h
      · exact Or.inl h
      · exact Or.inr (by rw [List.flatten_cons]; exact List.mem_append_left _ h)
      · exact Or.inr (by rw [List.flatten_cons]; exact List.mem_append_right _ h)
end
def opF (pf : List D → Option Rd') : List Rs → M Rs := fun rs => M.bind (freezeAll rs) fun ds ρ => match pf ds with
  | some res => some (.ok res.rs ρ)
  | none => none
theorem res_ok {K : PySem.W.Frag} {vs0 : List V} {B H : Hp} {σ : L2.St} {ρ : Env} {fs : Nat → List Addr} {res : Rd'} {Q : VK} {F : Addr → Prop} {B0 H0 : Hp} (g : Good K vs0 B H σ ρ fs) (fr0 : Fr B0 H0 F B H (InF fs))
    (k : ∀ v B' H' fs' T, Fr B0 H0 F B' H' (UnF (InF fs') T) → Good K vs0 B' H' σ ρ fs' → RsOk K B' H' σ fs' v res.rs T → Q v H') : ResK K B H Q res := by
  cases res with
  | pd d =>
    intro v B' H' fr ex hd
    refine k v B' H' fs [] (fr0.trans (fr.weak (fun _ f => f.elim) fun a f => ?_)) (g.grow fr (fun _ _ f => f) ex) ⟨⟨hd, rfl⟩, rfl, fun a ha => nomatch ha⟩
    rcases f with f | f
    · exact Or.inr (Or.inl f)
    · cases f
  | nl l =>
    intro p xs hp hd
    have fr := Fr.newL (B := B) (o := HO.lst xs) hp
    refine k (.ref p) B _ fs [p] (fr0.trans (fr.weak (fun _ f => f.elim) fun a f => ?_)) (g.grow fr (fun _ _ f => f) (g.ext.trans fr.sameH)) ⟨⟨p, xs, rfl, rfl, upd_same, hd⟩, rfl, fun a ha => ?_⟩
    · rcases f with f | f
      · exact Or.inr (Or.inl f)
      · exact Or.inl f
    · simp at ha
      subst ha
      refine ⟨?_, fun i hi => g.lives hi hp⟩
      cases e : B a with
      | none => rfl
      | some u => rw [g.ext a u e] at hp; cases hp
theorem opF_ok {K : PySem.W.Frag} {r : List V → Hp → VK → Prop} {pf : List D → Option Rd'} (h : ∀ B H vs ds res Q, Same B H → DpAll K B vs ds → pf ds = some res → ResK K B H Q res → r vs H Q) : OpOk K r (opF pf) := by
  intro vs0 σ B H ρ fs vs rs Ts Q g ok nd r' ρ' e k
  obtain ⟨ds, ρ1, e1, e2⟩ := M.bind_ok e
  obtain ⟨B1, fs1, fr1, g1, d1⟩ := freezeAll_ok g ok nd e1
  split at e2
  · rename_i res e3
    cases e2
    exact h B1 H vs ds res Q g1.ext d1 e3 (res_ok g1 fr1 k)
  · cases e2
def pTup : List D → Option Rd' := fun ds => if ds.length ≤ sizeLine then some (.pd (.tuple ds)) else none
def pLst : List D → Option Rd' := fun ds => if ds.length ≤ sizeLine then some (.nl ds) else none
def oTup := opF pTup
def oLst := opF pLst
section
variable {X : Cx} {vs0 : List V} {K : PySem.W.Frag}
theorem oTup_ok : OpOk K (fun xs H1 Q => xs.length ≤ sizeLine ∧ ∀ p, H1 p = none → Q (.ref p) (upd H1 p (.tup xs))) oTup := opF_ok fun B H vs ds res Q e hs hp k => by
  unfold pTup at hp
  split at hp
  · rename_i hl
    cases hp
    exact ⟨by rw [DpAll.length hs]; exact hl, fun p hp => k.tup e hp hs⟩
  · cases hp
theorem oLst_ok : OpOk K (fun xs H1 Q => xs.length ≤ sizeLine ∧ ∀ p, H1 p = none → Q (.ref p) (upd H1 p (.lst xs))) oLst := opF_ok fun B H vs ds res Q e hs hp k => by
  unfold pLst at hp
  split at hp
  · rename_i hl
    cases hp
    exact ⟨by rw [DpAll.length hs]; exact hl, fun p hp => k p vs hp hs⟩
  · cases hp
theorem de_tup {es : List Expr} {fa : M (List Rs)} {x1 pos} (h : PA X es (rdA X.K vs0 fa)) : PE X (.Tuple es x1 pos) (rdE X.K vs0 (M.bind fa oTup)) := PE.imp (pe_tup h) fun _ _ _ q => rd_op oTup_ok q
theorem de_lst {es : List Expr} {fa : M (List Rs)} {pos} (h : PA X es (rdA X.K vs0 fa)) : PE X (.List es pos) (rdE X.K vs0 (M.bind fa oLst)) := PE.imp (pe_lst h) fun _ _ _ q => rd_op oLst_ok q
end
def mTest (f : M Rs) : M Bool := M.bind f fun r ρ => match r.view ρ with
  | some (.bool b) => some (.ok b ρ)
  | _ => none
def eAnd (fa fb : M Rs) : M Rs := M.bind (mTest fa) fun b => if b = true then fb else eC (.bool false)
def eOr (fa fb : M Rs) : M Rs := M.bind (mTest fa) fun b => if b = true then eC (.bool true) else fb
def tAnd' (c d : M Bool) : M Bool := M.bind c fun b => if b = true then d else M.ret false
def tOr' (c d : M Bool) : M Bool := M.bind c fun b => if b = true then M.ret true else d
def tNot' (c : M Bool) : M Bool := M.bind c fun b => M.ret (!b)
section
variable {X : Cx} {vs0 : List V} {K : PySem.W.Frag} {a b : Expr} {fa fb : M Rs} {ca cb : M Bool} {pos : Pos} {rest : List Expr}
theorem rd_test {f : M Rs} {α : Type} {g : Bool → M α} {σ : L2.St} {H : Hp} {B : Hp} {ρ : Env} {fs : Nat → List Addr} {b : α} {ρ' : Env} {Q : VK} (gd : Good K vs0 B H σ ρ fs) (e : M.bind (mTest f) g ρ = some (.ok b ρ'))
    (k : ∀ c B1 H1 ρ1 fs1, Fr B H (InF fs) B1 H1 (InF fs1) → Good K vs0 B1 H1 σ ρ1 fs1 → g c ρ1 = some (.ok b ρ') → Q (.bl c) H1) : rdE K vs0 f σ H Q := by
  obtain ⟨c, ρ1, e1, e2⟩ := M.bind_ok e
  obtain ⟨r, ρ2, e3, e4⟩ := M.bind_ok e1
  split at e4
  · rename_i c' e5
    cases e4
    refine ⟨B, ρ, fs, gd, r, ρ1, e3, fun v B1 H1 fs1 T fr g1 ok => ?_⟩
    rw [(view_ok g1 ok e5).bool]
    exact k c B1 H1 ρ1 fs1 (fr_drop fr) g1 e2
  · cases e4
theorem de_one {op} {f : M Rs} (h : PE X a (rdE X.K vs0 f)) : PE X (.BoolOp op [a] pos) (rdE X.K vs0 f) := pe_one h
theorem de_and (ha : PE X a (rdE X.K vs0 fa)) (hb : PE X (.BoolOp .And (b :: rest) pos) (rdE X.K vs0 fb)) : PE X (.BoolOp .And (a :: b :: rest) pos) (rdE X.K vs0 (eAnd fa fb)) := PE.imp (pe_and ha hb) fun σ H Q q => by
  obtain ⟨B, ρ, fs, g, r, ρ', e, k⟩ := q
  refine rd_test g e fun c B1 H1 ρ1 fs1 fr1 g1 e1 => ⟨c, rfl, ?_⟩
  cases c with
  | true => exact ⟨B1, ρ1, fs1, g1, r, ρ', e1, fun v B2 H2 fs2 T fr2 g2 ok2 => k v B2 H2 fs2 T (fr1.trans fr2) g2 ok2⟩
  | false =>
    cases e1
    exact k _ B1 H1 fs1 [] (fr1.trans fr_unr) g1 ⟨⟨.bl false, rfl⟩, rfl, fun a ha => nomatch ha⟩
theorem de_or (ha : PE X a (rdE X.K vs0 fa)) (hb : PE X (.BoolOp .Or (b :: rest) pos) (rdE X.K vs0 fb)) : PE X (.BoolOp .Or (a :: b :: rest) pos) (rdE X.K vs0 (eOr fa fb)) := PE.imp (pe_or ha hb) fun σ H Q q => by
  obtain ⟨B, ρ, fs, g, r, ρ', e, k⟩ := q
  refine rd_test g e fun c B1 H1 ρ1 fs1 fr1 g1 e1 => ⟨c, rfl, ?_⟩
  cases c with
  | false => exact ⟨B1, ρ1, fs1, g1, r, ρ', e1, fun v B2 H2 fs2 T fr2 g2 ok2 => k v B2 H2 fs2 T (fr1.trans fr2) g2 ok2⟩
  | true =>
    cases e1
    exact k _ B1 H1 fs1 [] (fr1.trans fr_unr) g1 ⟨⟨.bl true, rfl⟩, rfl, fun a ha => nomatch ha⟩
theorem dt_val {e : Expr} (h : PE X e (rdE X.K vs0 fa)) (he : ∀ whole, isTrue e X.env whole = (do let v ← whole; standAt e.pos; holding [v] (truthy v)) := by intro _; rfl) : PT X e (rdT X.K vs0 (mTest fa)) := PT.imp (pt_val h he) fun σ H Q q => by
  obtain ⟨B, ρ, fs, g, b, ρ', e, k⟩ := q
  obtain ⟨r, ρ2, e3, e4⟩ := M.bind_ok e
  split at e4
  · rename_i c' e5
    cases e4
    refine ⟨B, ρ, fs, g, r, ρ', e3, fun v B1 H1 fs1 T fr g1 ok => ⟨b, (view_ok g1 ok e5).bool, k B1 H1 fs1 (fr_drop fr) g1⟩⟩
  · cases e4
theorem rd_t {α : Type} {g : Bool → M α} {σ : L2.St} {H : Hp} {B : Hp} {ρ : Env} {fs : Nat → List Addr} {b : α} {ρ' : Env} {Q : Bool → Hp → Prop} (gd : Good K vs0 B H σ ρ fs) (e : M.bind ca g ρ = some (.ok b ρ'))
    (k : ∀ c B1 H1 ρ1 fs1, Fr B H (InF fs) B1 H1 (InF fs1) → Good K vs0 B1 H1 σ ρ1 fs1 → g c ρ1 = some (.ok b ρ') → Q c H1) : rdT K vs0 ca σ H Q := by
  obtain ⟨c, ρ1, e1, e2⟩ := M.bind_ok e
  exact ⟨B, ρ, fs, gd, c, ρ1, e1, fun B1 H1 fs1 fr g1 => k c B1 H1 ρ1 fs1 fr g1 e2⟩
theorem dw_and1 (ha : PT X a (rdT X.K vs0 ca)) : PW X (.BoolOp .And [a] pos) (rdT X.K vs0 ca) := pw_and1 ha
theorem dw_or1 (ha : PT X a (rdT X.K vs0 ca)) : PW X (.BoolOp .Or [a] pos) (rdT X.K vs0 ca) := pw_or1 ha
theorem dw_and (ha : PT X a (rdT X.K vs0 ca)) (hb : PW X (.BoolOp .And (b :: rest) pos) (rdT X.K vs0 cb)) : PW X (.BoolOp .And (a :: b :: rest) pos) (rdT X.K vs0 (tAnd' ca cb)) := PW.imp (pw_and ha hb) fun σ H Q q => by
  obtain ⟨B, ρ, fs, g, r, ρ', e, k⟩ := q
  refine rd_t g e fun c B1 H1 ρ1 fs1 fr1 g1 e1 => ?_
  cases c with
  | true => exact ⟨B1, ρ1, fs1, g1, r, ρ', e1, fun B2 H2 fs2 fr2 g2 => k B2 H2 fs2 (fr1.trans fr2) g2⟩
  | false =>
    cases e1
    exact k B1 H1 fs1 fr1 g1
theorem dw_or (ha : PT X a (rdT X.K vs0 ca)) (hb : PW X (.BoolOp .Or (b :: rest) pos) (rdT X.K vs0 cb)) : PW X (.BoolOp .Or (a :: b :: rest) pos) (rdT X.K vs0 (tOr' ca cb)) := PW.imp (pw_or ha hb) fun σ H Q q => by
  obtain ⟨B, ρ, fs, g, r, ρ', e, k⟩ := q
  refine rd_t g e fun c B1 H1 ρ1 fs1 fr1 g1 e1 => ?_
  cases c with
  | false => exact ⟨B1, ρ1, fs1, g1, r, ρ', e1, fun B2 H2 fs2 fr2 g2 => k B2 H2 fs2 (fr1.trans fr2) g2⟩
  | true =>
    cases e1
    exact k B1 H1 fs1 fr1 g1
theorem dt_not (ha : PT X a (rdT X.K vs0 ca)) : PT X (.UnaryOp .Not a pos) (rdT X.K vs0 (tNot' ca)) := PT.imp (pt_not ha) fun σ H Q q => by
  obtain ⟨B, ρ, fs, g, r, ρ', e, k⟩ := q
  refine rd_t g e fun c B1 H1 ρ1 fs1 fr1 g1 e1 => ?_
  cases e1
  exact k B1 H1 fs1 fr1 g1
end
def eChain (fa fb fc : M Rs) (op op' : List Rs → M Rs) : M Rs := M.bind fa fun x => M.bind fb fun y => match y with
  | .own (.p d) => M.bind (mTest (op [x, .own (.p d)])) fun b => if b = true then M.bind fc fun z => op' [.own (.p d), z] else eC (.bool false)
  | _ => M.fail
def gSeq (g1 g2 : M Fl) : M Fl := M.bind g1 fun fl => match fl with
  | .nx => g2
  | fl => M.ret fl
def gNext : M Fl := M.ret .nx
def gExpr (f : M Rs) : M Fl := M.bind f fun _ => M.ret .nx
def gIf (c : M Bool) (g1 g2 : M Fl) : M Fl := M.bind c fun b => if b = true then g1 else g2
def takeR : Rs → M Sl
  | .own s => M.ret s
  | .bor i => fun ρ => match ρ[i]? with
    | some (some s) => some (.ok s (ρ.set i none))
    | _ => none
  | .lent _ _ _ => M.fail
def gSet (i : Nat) (f : M Rs) : M Fl := M.bind f fun r => M.bind (takeR r) fun s ρ => if i < ρ.length then some (.ok .nx (ρ.set i (some s))) else none
def gRet (f : M Rs) : M Fl := M.bind f fun r => M.bind (takeR r) fun s => if s.tag = none then M.ret (.rt s) else M.fail
section
variable {K : PySem.W.Frag} {vs0 : List V} {B H : Hp} {σ : L2.St} {ρ : Env} {fs : Nat → List Addr}
theorem takeR_ok {r : Rs} {s : Sl} {ρ' : Env} {v : V} {T : List Addr} (g : Good K vs0 B H σ ρ fs) (ok : RsOk K B H σ fs v r T) (e : takeR r ρ = some (.ok s ρ')) :
    ∃ fs' T', Good K vs0 B H σ ρ' fs' ∧ Own K B H v s T' ∧ (∀ k, s.tag = some k → vs0[k]? = some v) ∧ (∀ a ∈ T', B a = none ∧ ∀ i, a ∉ fs' i) ∧ (∀ a, UnF (InF fs') T' a → UnF (InF fs) T a) ∧ ρ'.length = ρ.length := by
  cases r with
  | own s' =>
    cases e
    exact ⟨fs, T, g, ok.1, (fun k h => by rw [ok.2.1] at h; cases h), ok.2.2, fun _ h => h, rfl⟩
  | lent i s k => cases e
  | bor i =>
    unfold takeR at e
    try dsimp only at e
    split at e
    · rename_i s' e2
      cases e
      obtain ⟨v', h1, h2, h3⟩ := g.at_ i _ e2
      obtain ⟨q1, q2⟩ := ok
      rw [h1] at q1
      cases q1
      refine ⟨_, fs i, g.drop i, h2, h3, fun a ha => ⟨g.out i a ha, fun j hj => ?_⟩, fun a h => ?_, by simp⟩
      · try dsimp only at hj
        by_cases q : j = i
        · rw [if_pos q] at hj; cases hj
        · rw [if_neg q] at hj
          exact q (g.dis j i a hj ha)
      · rcases h with ⟨j, hj⟩ | h
        · try dsimp only at hj
          by_cases q : j = i
          · rw [if_pos q] at hj; cases hj
          · rw [if_neg q] at hj
            exact Or.inl ⟨j, hj⟩
        · exact Or.inl ⟨i, h⟩
    · cases e
end
section
variable {X : Cx} {vs0 : List V} {st : Stmt} {rest : List Stmt} {g g1 g2 : M Fl} {f : M Rs} {e : Expr} {pos : Pos}
theorem dss_nil : PSs X [] (rdS X.K vs0 gNext) := PSs.imp pss_nil fun D σ H q => by
  obtain ⟨B, ρ, fs, gd, fl, ρ', e1, k⟩ := q
  cases e1
  exact k σ B H fs (Fr.refl _ _ _) gd
theorem dss_one (h : PS X st (rdS X.K vs0 g)) : PSs X [st] (rdS X.K vs0 g) := pss_one h
theorem dss_cons (h1 : PS X st (rdS X.K vs0 g1)) (h2 : PSs X rest (rdS X.K vs0 g2)) : PSs X (st :: rest) (rdS X.K vs0 (gSeq g1 g2)) := PSs.imp (pss_cons h1 h2) fun D σ H q => by
  obtain ⟨B, ρ, fs, gd, fl, ρ', e1, k⟩ := q
  obtain ⟨fl1, ρ1, e2, e3⟩ := M.bind_ok e1
  refine ⟨B, ρ, fs, gd, fl1, ρ1, e2, ?_⟩
  cases fl1 with
  | nx =>
    intro σ1 B1 H1 fs1 fr1 g1
    refine ⟨B1, ρ1, fs1, g1, fl, ρ', e3, ?_⟩
    cases fl with
    | nx => exact fun σ2 B2 H2 fs2 fr2 g2 => k σ2 B2 H2 fs2 (fr1.trans fr2) g2
    | bk => exact fun σ2 B2 H2 fs2 fr2 g2 => k σ2 B2 H2 fs2 (fr1.trans fr2) g2
    | ct => exact fun σ2 B2 H2 fs2 fr2 g2 => k σ2 B2 H2 fs2 (fr1.trans fr2) g2
    | rt s => exact fun v σ2 B2 H2 fs2 T fr2 g2 ok => k v σ2 B2 H2 fs2 T (fr1.trans fr2) g2 ok
  | bk => cases e3; exact k
  | ct => cases e3; exact k
  | rt s => cases e3; exact k
theorem ds_expr (he : PE X e (rdE X.K vs0 f)) (hs : swapsWith e none pos.line X.env = pure false := by rfl) : PS X (.Expr e pos) (rdS X.K vs0 (gExpr f)) := PS.imp (ps_expr he hs) fun D σ H q => by
  obtain ⟨B, ρ, fs, gd, fl, ρ', e1, k⟩ := q
  obtain ⟨r, ρ1, e2, e3⟩ := M.bind_ok e1
  cases e3
  exact ⟨B, ρ, fs, gd, r, ρ', e2, fun v B1 H1 fs1 T fr g1 ok => k σ B1 H1 fs1 (fr_drop fr) g1⟩
theorem ds_if {c : Expr} {a b : List Stmt} {mc : M Bool} (hc : PT X c (rdT X.K vs0 mc)) (ha : PSs X a (rdS X.K vs0 g1)) (hb : PSs X b (rdS X.K vs0 g2)) : PS X (.If c a b pos) (rdS X.K vs0 (gIf mc g1 g2)) := PS.imp (ps_if hc ha hb) fun D σ H q => by
  obtain ⟨B, ρ, fs, gd, fl, ρ', e1, k⟩ := q
  refine rd_t gd e1 fun c B1 H1 ρ1 fs1 fr1 g1 e2 => ?_
  have k' : ∀ g : M Fl, g ρ1 = some (.ok fl ρ') → rdS X.K vs0 g D σ H1 := fun g e => ⟨B1, ρ1, fs1, g1, fl, ρ', e, by
    cases fl with
    | nx => exact fun σ2 B2 H2 fs2 fr2 g2 => k σ2 B2 H2 fs2 (fr1.trans fr2) g2
    | bk => exact fun σ2 B2 H2 fs2 fr2 g2 => k σ2 B2 H2 fs2 (fr1.trans fr2) g2
    | ct => exact fun σ2 B2 H2 fs2 fr2 g2 => k σ2 B2 H2 fs2 (fr1.trans fr2) g2
    | rt s => exact fun v σ2 B2 H2 fs2 T fr2 g2 ok => k v σ2 B2 H2 fs2 T (fr1.trans fr2) g2 ok⟩
  cases c with
  | true => exact k' _ e2
  | false => exact k' _ e2
theorem rd_ret {D : Ends} {σ : L2.St} {H : Hp} {K : PySem.W.Frag} (q : rdS K vs0 (gRet f) D σ H) : tRet (rdE K vs0 f) D σ H := by
  obtain ⟨B, ρ, fs, gd, fl, ρ', e1, k⟩ := q
  obtain ⟨r, ρ1, e2, e3⟩ := M.bind_ok e1
  obtain ⟨s, ρ2, e4, e5⟩ := M.bind_ok e3
  split at e5
  · rename_i ht
    cases e5
    refine ⟨B, ρ, fs, gd, r, ρ1, e2, fun v B1 H1 fs1 T fr g1 ok => ?_⟩
    obtain ⟨fs2, T2, g2, o2, _, n2, s2, _⟩ := takeR_ok g1 ok e4
    exact k v σ B1 H1 fs2 T2 (fr.weak (fun _ h => h) fun a h => Or.inl (s2 a h)) g2 ⟨o2, ht, n2⟩
  · cases e5
theorem ds_ret (he : PE X e (rdE X.K vs0 f)) : PS X (.Return (some e) pos) (rdS X.K vs0 (gRet f)) := PS.imp (ps_ret he) fun D σ H q => rd_ret q
theorem rd_set {i : Nat} {D : Ends} {σ : L2.St} {H : Hp} {K : PySem.W.Frag} (q : rdS K vs0 (gSet i f) D σ H) : tAsg (rdE K vs0 f) (gName i) D σ H := by
  obtain ⟨B, ρ, fs, gd, fl, ρ', e1, k⟩ := q
  obtain ⟨r, ρ1, e2, e3⟩ := M.bind_ok e1
  obtain ⟨s, ρ2, e4, e5⟩ := M.bind_ok e3
  split at e5
  · rename_i hi
    cases e5
    refine ⟨B, ρ, fs, gd, r, ρ1, e2, fun v B1 H1 fs1 T fr g1 ok => ?_⟩
    obtain ⟨fs2, T2, g2, o2, t2, n2, s2, _⟩ := takeR_ok g1 ok e4
    refine k _ B1 H1 _ (fr.weak (fun _ h => h) fun a h => Or.inl (s2 a ?_)) (g2.put hi o2 t2 fun a ha => ⟨(n2 a ha).1, fun j _ => (n2 a ha).2 j⟩)
    obtain ⟨j, hj⟩ := h
    try dsimp only at hj
    by_cases q : j = i
    · rw [if_pos q] at hj; exact Or.inr hj
    · rw [if_neg q] at hj; exact Or.inl ⟨j, hj⟩
  · cases e5
theorem ds_set {i : Nat} {x : Str} {pos' : Pos} (hN : X.N.Nodup) (hi : X.N[i]? = some x) (hx : Loc X.env.scope x) (he : PE X e (rdE X.K vs0 f)) (hs : swapsWith e (some (.Name x pos')) pos.line X.env = pure false := by rfl) (hf : X.fn x = true ∨ X.env.scope.names.lookup x = some .local := by first | exact .inl rfl | exact .inr rfl | assumption) :
    PS X (.Assign [.Name x pos'] e pos) (rdS X.K vs0 (gSet i f)) := PS.imp (ps_set hN hi hx he hs hf) fun D σ H q => rd_set q
end
end Pd
set_option Elab.async false
set_option linter.all false
set_option maxRecDepth 100000
set_option maxHeartbeats 1000000
namespace Pd
open PySem PySem.Spec PyProof.Rows L2
section
variable (K : PySem.W.Frag) (vs0 : List V)
def rdG (is : List Nat) (t : D → Env → Option Env) : TG := fun v σ H Q => ∃ B ρ fs d ρ', Good K vs0 B H σ ρ fs ∧ Dp K B v d ∧ t d ρ = some ρ' ∧ ∀ σ' fs', Good K vs0 B H σ' ρ' fs' → (∀ a, InF fs' a → InF fs a) → (∀ j, j ∉ is → σ'[j]? = σ[j]?) → σ'.length = σ.length → Q σ' H
def rdGs (is : List Nat) (t : List D → Env → Option Env) : TGs := fun vs σ H Q => ∃ B ρ fs ds ρ', Good K vs0 B H σ ρ fs ∧ DpAll K B vs ds ∧ t ds ρ = some ρ' ∧ ∀ σ' fs', Good K vs0 B H σ' ρ' fs' → (∀ a, InF fs' a → InF fs a) → (∀ j, j ∉ is → σ'[j]? = σ[j]?) → σ'.length = σ.length → Q σ' H
end
def tgName (i : Nat) : D → Env → Option Env := fun d ρ => if i < ρ.length then some (ρ.set i (some (.p d))) else none
def tgNil : List D → Env → Option Env := fun ds ρ => match ds with
  | [] => some ρ
  | _ => none
def tgCons (t : D → Env → Option Env) (u : List D → Env → Option Env) : List D → Env → Option Env := fun ds ρ => match ds with
  | d :: r => match t d ρ with
    | some ρ1 => u r ρ1
    | none => none
  | [] => none
def tgTup (n : Nat) (u : List D → Env → Option Env) : D → Env → Option Env := fun d ρ => match d with
  | .tuple l => if l.length = n then u l ρ else none
  | _ => none
theorem PG.imp {X : Cx} {e : Expr} {t t' : TG} (h : PG X e t) (i : ∀ v σ H Q, t' v σ H Q → t v σ H Q) : PG X e t' := ⟨fun pins s σ H v u Q I r q => h.run pins s σ H v u Q I r (i v σ H Q q)⟩
theorem PGs.imp {X : Cx} {e : List Expr} {t t' : TGs} (h : PGs X e t) (i : ∀ v σ H Q, t' v σ H Q → t v σ H Q) : PGs X e t' := ⟨fun pins s σ H v u Q I r q => h.run pins s σ H v u Q I r (i v σ H Q q)⟩
section
variable {X : Cx} {vs0 : List V} {pos : Pos}
theorem dg_name {i : Nat} {x : Str} (hN : X.N.Nodup) (hi : X.N[i]? = some x) (hx : Loc X.env.scope x) (hf : X.fn x = true ∨ X.env.scope.names.lookup x = some .local := by first | exact .inl rfl | exact .inr rfl | assumption) : PG X (.Name x pos) (rdG X.K vs0 [i] (tgName i)) :=
  PG.imp (pg_name hN hi hx hf) fun v σ H Q q => by
    obtain ⟨B, ρ, fs, d, ρ', g, hd, e, k⟩ := q
    unfold tgName at e
    split at e
    · rename_i hl
      cases e
      refine k _ _ (g.put hl (s := .p d) (T := []) ⟨hd, rfl⟩ (fun k h => nomatch h) fun a h => nomatch h) (fun a h => ?_) (fun j hj => by
        rw [List.getElem?_set_ne (fun e => hj (by simp [e]))]) (by simp)
      obtain ⟨j, hj⟩ := h
      dsimp only at hj
      by_cases q : j = i
      · rw [if_pos q] at hj; cases hj
      · rw [if_neg q] at hj; exact ⟨j, hj⟩
    · cases e
theorem dgs_nil : PGs X [] (rdGs X.K vs0 [] tgNil) := PGs.imp pgs_nil fun v σ H Q q => by
  obtain ⟨B, ρ, fs, d, ρ', g, hd, e, k⟩ := q
  unfold tgNil at e
  split at e
  · cases e
    cases hd
    exact ⟨rfl, k σ fs g (fun _ h => h) (fun _ _ => rfl) rfl⟩
  · cases e
theorem dgs_cons {e : Expr} {es : List Expr} {is js : List Nat} {t : D → Env → Option Env} {u : List D → Env → Option Env} (h1 : PG X e (rdG X.K vs0 is t)) (h2 : PGs X es (rdGs X.K vs0 js u))
    (hs : (assignEach (e :: es) X.env).map (·.2) = assign e X.env :: (assignEach es X.env).map (·.2) := by rfl) : PGs X (e :: es) (rdGs X.K vs0 (is ++ js) (tgCons t u)) := PGs.imp (pgs_cons h1 h2 hs) fun vs σ H Q q => by
  obtain ⟨B, ρ, fs, ds, ρ', g, hd, e, k⟩ := q
  unfold tgCons at e
  split at e
  · rename_i d r
    split at e
    · rename_i ρ1 e1
      cases hd with
      | cons h1 h2 =>
        refine ⟨_, _, rfl, B, ρ, fs, d, ρ1, g, h1, e1, fun σ1 fs1 g1 s1 a1 l1 => ⟨B, ρ1, fs1, r, ρ', g1, h2, e, fun σ2 fs2 g2 s2 a2 l2 => k σ2 fs2 g2 (fun a h => s1 a (s2 a h)) (fun j hj => (a2 j fun h => hj (List.mem_append_right _ h)).trans (a1 j fun h => hj (List.mem_append_left _ h))) (l2.trans l1)⟩⟩
    · cases e
  · cases e
theorem dg_tup {es : List Expr} {k : Nat} {is : List Nat} {u : List D → Env → Option Env} {n : Nat} (hc : X.calm = true) (h : PGs X es (rdGs X.K vs0 is u))
    (hn : (assignEach es X.env).length = n := by rfl) (hst : (assignEach es X.env).findIdx? (·.1) = none := by rfl) : PG X (.Tuple es k pos) (rdG X.K vs0 is (tgTup n u)) := PG.imp (pg_tup hc h hn hst) fun v σ H Q q => by
  obtain ⟨B, ρ, fs, d, ρ', g, hd, e, k⟩ := q
  unfold tgTup at e
  split at e
  · rename_i l
    split at e
    · rename_i hl
      cases hd with
      | tup h1 h2 => exact ⟨_, _, rfl, sqt_mono g.ext h1, by rw [DpAll.length h2]; exact hl, B, ρ, fs, l, ρ', g, h2, e, k⟩
    · cases e
  · cases e
end
def JOk (K : PySem.W.Frag) (B : Hp) (J : It) (l : List D) : Prop := ∀ B2 H2, Same B B2 → Same B2 H2 → ∀ i,
  (∀ d, l[i]? = some d → J.go i H2 ∧ ∀ x H3, J.yld i H2 x H3 → ∃ B3, Fr B2 H2 (fun _ => False) B3 H3 (fun _ => False) ∧ Same B3 H3 ∧ Dp K B3 x d) ∧ (l.length = i → J.stop i H2)
def rdI (K : PySem.W.Frag) (vs0 : List V) (f : M (List D)) : TI := fun σ H R => ∃ B ρ fs, Good K vs0 B H σ ρ fs ∧ ∃ l ρ', f ρ = some (.ok l ρ') ∧
  ∀ J B' H' fs', Fr B H (InF fs) B' H' (InF fs') → Good K vs0 B' H' σ ρ' fs' → JOk K B' J l → R J H'
theorem PI.imp {X : Cx} {tg e : Expr} {t t' : TI} (h : PI X tg e t) (i : ∀ σ H Q, t' σ H Q → t σ H Q) : PI X tg e t' := ⟨fun pins s σ H R I q => h.run pins s σ H R I (i σ H R q)⟩
theorem PI.or {X : Cx} {tg e : Expr} {t t' : TI} (h : PI X tg e t) (h' : PI X tg e t') : PI X tg e (fun σ H Q => t σ H Q ∨ t' σ H Q) := ⟨fun pins s σ H R I q => by
  rcases q with q | q
  · exact h.run pins s σ H R I q
  · exact h'.run pins s σ H R I q⟩
def strSigns (z : Str) : List D := z.cps.toList.map fun c => .str ⟨#[c]⟩
def mSeq (f : M Rs) : M (List D) := M.bind f fun r => M.bind (freezeR r) fun d ρ => match d with
  | .list l => some (.ok l ρ)
  | .tuple l => some (.ok l ρ)
  | .str z => some (.ok (strSigns z) ρ)
  | _ => none
theorem jok_list {K : PySem.W.Frag} {B : Hp} {a : Addr} {xs : List V} {l : List D} (h1 : SqL K B a xs) (h2 : DpAll K B xs l) : JOk K B (Itl K a) l := fun B2 H2 s1 s2 i => by
  have hq : SqL K H2 a xs := sql_mono (s1.trans s2) h1
  refine ⟨fun d hd => ?_, fun hl => ⟨xs, hq, by rw [DpAll.length h2]; exact Nat.le_of_eq hl⟩⟩
  obtain ⟨v, e1, e2⟩ := DpAll.get h2 hd
  refine ⟨⟨xs, v, hq, e1⟩, fun x H3 q => ?_⟩
  obtain ⟨rfl, q⟩ := q
  have := q xs hq
  rw [e1] at this
  cases this
  exact ⟨B2, Fr.refl _ _ _, s2, Dp.mono s1 e2⟩
theorem jok_tup {K : PySem.W.Frag} {B : Hp} {a : Addr} {xs : List V} {l : List D} (h1 : SqT K B a xs) (h2 : DpAll K B xs l) : JOk K B (Itt K a) l := fun B2 H2 s1 s2 i => by
  have hq : SqT K H2 a xs := sqt_mono (s1.trans s2) h1
  refine ⟨fun d hd => ?_, fun hl => ⟨xs, hq, by rw [DpAll.length h2]; exact Nat.le_of_eq hl⟩⟩
  obtain ⟨v, e1, e2⟩ := DpAll.get h2 hd
  refine ⟨⟨xs, v, hq, e1⟩, fun x H3 q => ?_⟩
  obtain ⟨rfl, q⟩ := q
  have := q xs hq
  rw [e1] at this
  cases this
  exact ⟨B2, Fr.refl _ _ _, s2, Dp.mono s1 e2⟩
theorem jok_str {K : PySem.W.Frag} {B : Hp} {z : Str} : JOk K B (Its z) (strSigns z) := fun B2 H2 s1 s2 i => by
  unfold strSigns
  refine ⟨fun d hd => ?_, fun hl => by
    have hl := Nat.le_of_eq hl
    rw [List.length_map] at hl
    simpa [Its] using hl⟩
  rw [List.getElem?_map] at hd
  cases e : z.cps.toList[i]? with
  | none => rw [e] at hd; cases hd
  | some c =>
    rw [e] at hd
    cases hd
    have e' : z.cps[i]? = some c := by simpa using e
    refine ⟨by
      show i < z.cps.size
      exact (Array.getElem?_eq_some_iff.mp e').1, fun x H3 q => ?_⟩
    obtain ⟨rfl, c', q1, rfl⟩ := q
    rw [e'] at q1
    cases q1
    exact ⟨B2, Fr.refl _ _ _, s2, .str _⟩
section
variable {X : Cx} {vs0 : List V} {tg : Expr}
theorem di_seq {e : Expr} {f : M Rs} (he : PE X e (rdE X.K vs0 f)) : PI X tg e (rdI X.K vs0 (mSeq f)) := PI.imp (PI.or (pi_list he) (PI.or (pi_tup he) (pi_str he))) fun σ H R q => by
  obtain ⟨B, ρ, fs, g, l, ρ', e1, k⟩ := q
  obtain ⟨r, ρ1, e2, e3⟩ := M.bind_ok e1
  obtain ⟨d, ρ2, e4, e5⟩ := M.bind_ok e3
  split at e5
  · cases e5
    refine Or.inl ⟨B, ρ, fs, g, r, ρ1, e2, fun v B1 H1 fs1 T fr g1 ok => ?_⟩
    obtain ⟨B2, fs2, fr2, g2, d2⟩ := freezeR_ok g1 ok e4
    cases d2 with
    | lst h1 h2 => exact ⟨_, rfl, ⟨_, sql_mono g2.ext h1⟩, k _ B2 H1 fs2 (fr.trans fr2) g2 (jok_list h1 h2)⟩
  · cases e5
    refine Or.inr (Or.inl ⟨B, ρ, fs, g, r, ρ1, e2, fun v B1 H1 fs1 T fr g1 ok => ?_⟩)
    obtain ⟨B2, fs2, fr2, g2, d2⟩ := freezeR_ok g1 ok e4
    cases d2 with
    | tup h1 h2 => exact ⟨_, rfl, ⟨_, sqt_mono g2.ext h1⟩, k _ B2 H1 fs2 (fr.trans fr2) g2 (jok_tup h1 h2)⟩
  · cases e5
    refine Or.inr (Or.inr ⟨B, ρ, fs, g, r, ρ1, e2, fun v B1 H1 fs1 T fr g1 ok => ?_⟩)
    obtain ⟨B2, fs2, fr2, g2, d2⟩ := freezeR_ok g1 ok e4
    cases d2
    exact ⟨_, rfl, k _ B2 H1 fs2 (fr.trans fr2) g2 jok_str⟩
  · cases e5
def rngD (lo : Int) (n : Nat) : List D := (List.range n).map fun (i : Nat) => .int (lo + (i : Int))
theorem jok_rng {K : PySem.W.Frag} {B : Hp} {lo : Int} {n : Nat} : JOk K B (Itr lo n) (rngD lo n) := fun B2 H2 s1 s2 i => by
  unfold rngD
  refine ⟨fun d hd => ?_, fun hl => by
    have hl := Nat.le_of_eq hl
    simpa [Itr] using hl⟩
  rw [List.getElem?_map] at hd
  by_cases hi : i < n
  · rw [List.getElem?_range hi] at hd
    cases hd
    refine ⟨hi, fun x H3 q => ?_⟩
    obtain ⟨rfl, rfl⟩ := q
    exact ⟨B2, Fr.refl _ _ _, s2, .int _⟩
  · rw [List.getElem?_eq_none (by simpa using hi)] at hd
    cases hd
def mRng1 (f : M (List Rs)) : M (List D) := M.bind f fun rs ρ => match viewAll rs ρ with
  | some [.int j] => if -(2 ^ 62) ≤ j ∧ j < 2 ^ 62 then some (.ok (rngD 0 j.toNat) ρ) else none
  | _ => none
theorem di_range1 {a : Expr} {fa : M (List Rs)} {p pos : Pos} (hg : Gl X "range") (hm : X.mg "range" = none) (ha : PA X [a] (rdA X.K vs0 fa)) (hs : starEach [a] X.env = [(false, eval a X.env)] := by rfl) : PI X tg (.Call (.Name "range" p) [a] [] pos) (rdI X.K vs0 (mRng1 fa)) :=
  PI.imp (pi_range1 hg hm ha hs) fun σ H R q => by
    obtain ⟨B, ρ, fs, g, l, ρ', e1, k⟩ := q
    obtain ⟨rs, ρ1, e2, e3⟩ := M.bind_ok e1
    split at e3
    · rename_i j e4
      split at e3
      · rename_i hj
        cases e3
        refine ⟨B, ρ, fs, g, rs, ρ', e2, fun vs B1 H1 fs1 Ts fr g1 ok nd => ?_⟩
        obtain ⟨x, rfl, h1⟩ := (viewAll_ok g1 ok e4).one
        exact ⟨j, by rw [h1.int], hj.1, hj.2, k _ B1 H1 fs1 (fr_drop fr) g1 jok_rng⟩
      · cases e3
    · cases e3
end
def loopD (t : D → Env → Option Env) (body : M Fl) : List D → M Fl
  | [] => M.ret .nx
  | d :: l => fun ρ => match t d ρ with
    | none => none
    | some ρ1 => match body ρ1 with
      | none => none
      | some (.ok fl ρ2) => match fl with
        | .nx => loopD t body l ρ2
        | .ct => loopD t body l ρ2
        | .bk => some (.ok .nx ρ2)
        | .rt s => some (.ok (.rt s) ρ2)
def gFor (src : M (List D)) (t : D → Env → Option Env) (body : M Fl) : M Fl := M.bind src fun l => loopD t body l
def Want (K : PySem.W.Frag) (vs0 : List V) (D : Ends) (B H : Hp) (fs : Nat → List Addr) (fl : Fl) (ρ' : Env) : Prop := match fl with
  | .nx => ∀ σ' B' H' fs', Fr B H (InF fs) B' H' (InF fs') → Good K vs0 B' H' σ' ρ' fs' → D.nx σ' H'
  | .bk => ∀ σ' B' H' fs', Fr B H (InF fs) B' H' (InF fs') → Good K vs0 B' H' σ' ρ' fs' → D.bk σ' H'
  | .ct => ∀ σ' B' H' fs', Fr B H (InF fs) B' H' (InF fs') → Good K vs0 B' H' σ' ρ' fs' → D.ct σ' H'
  | .rt s => ∀ v σ' B' H' fs' T, Fr B H (InF fs) B' H' (UnF (InF fs') T) → Good K vs0 B' H' σ' ρ' fs' → RsOk K B' H' σ' fs' v (.own s) T → D.rt v H'
section
variable {K : PySem.W.Frag} {vs0 : List V} {D : Ends} {B H B1 H1 : Hp} {fs fs1 : Nat → List Addr} {fl : Fl} {ρ ρ' : Env}
theorem Want.later (w : Want K vs0 D B H fs fl ρ') (fr : Fr B H (InF fs) B1 H1 (InF fs1)) : Want K vs0 D B1 H1 fs1 fl ρ' := by
  cases fl with
  | nx => exact fun σ2 B2 H2 fs2 fr2 g2 => w σ2 B2 H2 fs2 (fr.trans fr2) g2
  | bk => exact fun σ2 B2 H2 fs2 fr2 g2 => w σ2 B2 H2 fs2 (fr.trans fr2) g2
  | ct => exact fun σ2 B2 H2 fs2 fr2 g2 => w σ2 B2 H2 fs2 (fr.trans fr2) g2
  | rt s => exact fun v σ2 B2 H2 fs2 T fr2 g2 ok => w v σ2 B2 H2 fs2 T (fr.trans fr2) g2 ok
theorem rdS_of {σ : L2.St} {g : M Fl} (gd : Good K vs0 B H σ ρ fs) (e : g ρ = some (.ok fl ρ')) (w : Want K vs0 D B H fs fl ρ') : rdS K vs0 g D σ H := ⟨B, ρ, fs, gd, fl, ρ', e, w⟩
end
section
variable {X : Cx} {vs0 : List V} {tg : Expr}
theorem rd_for {K : PySem.W.Frag} {src : M (List D)} {is : List Nat} {t : D → Env → Option Env} {body : M Fl} {D : Ends} {σ : L2.St} {H : Hp} (q : rdS K vs0 (gFor src t body) D σ H) : tFor (rdI K vs0 src) (rdG K vs0 is t) (rdS K vs0 body) D σ H := by
  obtain ⟨B, ρ, fs, gd, fl, ρ', e1, w⟩ := q
  have w : Want K vs0 D B H fs fl ρ' := w
  obtain ⟨l, ρ1, e2, e3⟩ := M.bind_ok e1
  refine ⟨B, ρ, fs, gd, l, ρ1, e2, fun J B1 H1 fs1 fr1 g1 jok => ?_⟩
  refine ⟨fun i m σ H => i ≤ l.length ∧ m = l.length - i ∧ ∃ B2 ρ2 fs2, Good K vs0 B2 H σ ρ2 fs2 ∧ Same B1 B2 ∧ loopD t body (l.drop i) ρ2 = some (.ok fl ρ') ∧ Want K vs0 D B2 H fs2 fl ρ',
    ⟨l.length, Nat.zero_le _, rfl, B1, ρ1, fs1, g1, Same.refl _, by simpa using e3, w.later fr1⟩, ?_⟩
  rintro i m σ2 H2 ⟨hi, rfl, B2, ρ2, fs2, g2, s2, e4, w2⟩
  obtain ⟨j1, j2⟩ := jok B2 H2 s2 g2.ext i
  by_cases hil : i < l.length
  · right
    have hd : l[i]? = some l[i] := List.getElem?_eq_getElem hil
    obtain ⟨jg, jy⟩ := j1 _ hd
    rw [List.drop_eq_getElem_cons hil] at e4
    unfold loopD at e4
    split at e4
    · cases e4
    · rename_i ρ3 e5
      split at e4
      · cases e4
      · rename_i fl4 ρ4 e6
        refine ⟨jg, fun σ' H' => (i + 1 ≤ l.length ∧ ∃ B5 ρ5 fs5, Good K vs0 B5 H' σ' ρ5 fs5 ∧ Same B1 B5 ∧ loopD t body (l.drop (i + 1)) ρ5 = some (.ok fl ρ') ∧ Want K vs0 D B5 H' fs5 fl ρ'), fun σ' H' n => ⟨l.length - (i + 1), by omega, n.1, rfl, n.2⟩, fun x H3 hy => ?_⟩
        obtain ⟨B3, fr3, s3, d3⟩ := jy x H3 hy
        have g3 := g2.grow fr3 (fun _ _ f => f) s3
        have fr3' : Fr B2 H2 (InF fs2) B3 H3 (InF fs2) := fr3.weak (fun _ f => f.elim) fun a h => Or.inr (Or.inl h)
        refine ⟨B3, ρ2, fs2, _, ρ3, g3, d3, e5, fun σ4 fs4 g4 s4 _ _ => ?_⟩
        have fr4 : Fr B2 H2 (InF fs2) B3 H3 (InF fs4) := fr3'.weak (fun _ h => h) fun a h => Or.inl (s4 a h)
        refine rdS_of g4 e6 ?_
        have wn : ∀ σ5 B5 H5 fs5, Fr B3 H3 (InF fs4) B5 H5 (InF fs5) → Good K vs0 B5 H5 σ5 ρ4 fs5 → loopD t body (l.drop (i + 1)) ρ4 = some (.ok fl ρ') →
            i + 1 ≤ l.length ∧ ∃ B5 ρ5 fs5, Good K vs0 B5 H5 σ5 ρ5 fs5 ∧ Same B1 B5 ∧ loopD t body (l.drop (i + 1)) ρ5 = some (.ok fl ρ') ∧ Want K vs0 D B5 H5 fs5 fl ρ' :=
          fun σ5 B5 H5 fs5 fr5 g5 e7 => ⟨hil, B5, ρ4, fs5, g5, (s2.trans fr3.bb).trans fr5.bb, e7, w2.later (fr4.trans fr5)⟩
        cases fl4 with
        | nx => exact fun σ5 B5 H5 fs5 fr5 g5 => wn σ5 B5 H5 fs5 fr5 g5 e4
        | ct => exact fun σ5 B5 H5 fs5 fr5 g5 => wn σ5 B5 H5 fs5 fr5 g5 e4
        | bk =>
          cases e4
          exact fun σ5 B5 H5 fs5 fr5 g5 => w2 σ5 B5 H5 fs5 (fr4.trans fr5) g5
        | rt s =>
          cases e4
          exact fun v σ5 B5 H5 fs5 T fr5 g5 ok => w2 v σ5 B5 H5 fs5 T (fr4.trans fr5) g5 ok
  · left
    refine ⟨j2 (by omega), ?_⟩
    rw [List.drop_eq_nil_of_le (by omega)] at e4
    cases e4
    exact w2 σ2 B2 H2 fs2 (Fr.refl _ _ _) g2
theorem ds_for {iter : Expr} {body : List Stmt} {src : M (List D)} {is : List Nat} {t : D → Env → Option Env} {g : M Fl} {pos : Pos} (hp : PassesOwn (model X.prog X.w) X.A X.env X.xe) (hc : X.calm = true) (hi : PI X tg iter (rdI X.K vs0 src)) (hg : PG X tg (rdG X.K vs0 is t)) (hb : PSs X body (rdS X.K vs0 g))
    (hs : ∀ x, foldedSetIterable iter X.env x = pure x := by intro _; rfl) : PS X (.For tg iter body [] pos) (rdS X.K vs0 (gFor src t g)) := PS.imp (ps_for hp hc hi hg hb hs) fun D σ H q => rd_for q
def fuel : Nat := 1000000000
end
end Pd
set_option Elab.async false
set_option linter.all false
set_option maxRecDepth 100000
set_option maxHeartbeats 1000000
namespace Pd
open PySem PySem.Spec PyProof.Rows L2
def wipeE (ρ : Env) : List Nat → Env
  | [] => ρ
  | v :: vs => (wipeE ρ vs).set v none
def plainAt (ρ : Env) : List Nat → Bool
  | [] => true
  | v :: vs => (match ρ[v]? with
    | some (some (.p _)) => true
    | some none => true
    | _ => false) && plainAt ρ vs
def backE (ρ0 ρ : Env) : List Nat → Env
  | [] => ρ
  | v :: vs => (backE ρ0 ρ vs).set v (ρ0.getD v none)
def compD (own : List Nat) (t : D → Env → Option Env) (tt : M Bool) (te : M Rs) : List D → List D → M (List D)
  | [], acc => M.ret acc
  | d :: l, acc => fun ρ => match t d (wipeE ρ own) with
    | none => none
    | some ρ1 => match tt ρ1 with
      | none => none
      | some (.ok false ρ2) => compD own t tt te l acc ρ2
      | some (.ok true ρ2) => match M.bind te freezeR ρ2 with
        | none => none
        | some (.ok y ρ3) => if acc.length < sizeLine then compD own t tt te l (acc ++ [y]) ρ3 else none
def eLc (src : M (List D)) (own : List Nat) (t : D → Env → Option Env) (tt : M Bool) (te : M Rs) : M Rs := M.bind src fun l ρ => if plainAt ρ own = true then
    match compD own t tt te l [] ρ with
    | some (.ok acc ρ1) => some (.ok (.own (.ml none acc)) (backE ρ (wipeE ρ1 own) own))
    | none => none
  else none
def tYes' : M Bool := M.ret true
section
variable {K : PySem.W.Frag} {vs0 : List V} {B H : Hp} {σ : L2.St} {ρ : Env} {fs : Nat → List Addr}
theorem Good.wipe1 (g : Good K vs0 B H σ ρ fs) (i : Nat) : Good K vs0 B H (σ.set i none) (ρ.set i none) (fun j => if j = i then [] else fs j) := by
  have g1 := g.drop i
  refine ⟨g1.ext, by simp [g.len], fun j s h => ?_, g1.emp, g1.dis, g1.out⟩
  obtain ⟨v, h1, h2, h3⟩ := g1.at_ j s h
  refine ⟨v, ?_, h2, h3⟩
  by_cases e : j = i
  · subst e
    by_cases hj : j < ρ.length
    · rw [List.getElem?_set_self hj] at h; cases h
    · rw [List.getElem?_eq_none (by simp; omega)] at h; cases h
  · rw [List.getElem?_set_ne (Ne.symm e)]; exact h1
theorem Good.wipes (g : Good K vs0 B H σ ρ fs) : ∀ own : List Nat, ∃ fs', Good K vs0 B H (wipe σ own) (wipeE ρ own) fs' ∧ ∀ a, InF fs' a → InF fs a
  | [] => ⟨fs, g, fun _ h => h⟩
  | v :: vs => by
    obtain ⟨fs1, g1, s1⟩ := g.wipes vs
    refine ⟨_, g1.wipe1 v, fun a h => s1 a ?_⟩
    obtain ⟨j, hj⟩ := h
    dsimp only at hj
    by_cases q : j = v
    · rw [if_pos q] at hj; cases hj
    · rw [if_neg q] at hj; exact ⟨j, hj⟩
theorem wipeE_get {j : Nat} : ∀ {own : List Nat} {s : Sl}, (wipeE ρ own)[j]? = some (some s) → ρ[j]? = some (some s) ∧ j ∉ own
  | [], s, h => ⟨h, by simp⟩
  | v :: vs, s, h => by
    unfold wipeE at h
    by_cases e : j = v
    · subst e
      by_cases hj : j < (wipeE ρ vs).length
      · rw [List.getElem?_set_self hj] at h; cases h
      · rw [List.getElem?_eq_none (by simp; omega)] at h; cases h
    · rw [List.getElem?_set_ne (Ne.symm e)] at h
      obtain ⟨h1, h2⟩ := wipeE_get h
      exact ⟨h1, by simp [e, h2]⟩
theorem backE_len (ρ0 ρ : Env) : ∀ own : List Nat, (backE ρ0 ρ own).length = ρ.length
  | [] => rfl
  | v :: vs => by simp [backE, backE_len ρ0 ρ vs]
theorem backE_get {ρ0 : Env} {j : Nat} {s : Sl} (hl : ρ0.length = ρ.length) : ∀ {own : List Nat}, (backE ρ0 ρ own)[j]? = some (some s) → (j ∈ own ∧ ρ0[j]? = some (some s)) ∨ (j ∉ own ∧ ρ[j]? = some (some s))
  | [], h => Or.inr ⟨by simp, h⟩
  | v :: vs, h => by
    unfold backE at h
    by_cases e : j = v
    · subst e
      by_cases hj : j < (backE ρ0 ρ vs).length
      · rw [List.getElem?_set_self hj] at h
        have h' := Option.some.inj h
        rw [List.getD_eq_getElem?_getD] at h'
        rw [backE_len] at hj
        rw [List.getElem?_eq_getElem (by omega), Option.getD_some] at h'
        exact Or.inl ⟨by simp, by rw [List.getElem?_eq_getElem (by omega), h']⟩
      · rw [List.getElem?_eq_none (by simp; omega)] at h; cases h
    · rw [List.getElem?_set_ne (Ne.symm e)] at h
      rcases backE_get hl h with ⟨h1, h2⟩ | ⟨h1, h2⟩
      · exact Or.inl ⟨List.mem_cons_of_mem _ h1, h2⟩
      · exact Or.inr ⟨by simp [e, h1], h2⟩
theorem plainAt_get {j : Nat} : ∀ {own : List Nat} {s : Sl}, plainAt ρ own = true → j ∈ own → ρ[j]? = some (some s) → ∃ d, s = .p d
  | [], _, _, h, _ => by cases h
  | v :: vs, s, hp, h, e => by
    unfold plainAt at hp
    rw [Bool.and_eq_true] at hp
    rcases List.mem_cons.mp h with rfl | h
    · rw [e] at hp
      cases s with
      | p d => exact ⟨d, rfl⟩
      | ml t l => exact absurd hp.1 (by simp)
      | md t l => exact absurd hp.1 (by simp)
      | mr t l => exact absurd hp.1 (by simp)
      | ob t c ns l => exact absurd hp.1 (by simp)
      | ex c f => exact absurd hp.1 (by simp)
      | fd l => exact absurd hp.1 (by simp)
      | hl t => exact absurd hp.1 (by simp)
      | tp l => exact absurd hp.1 (by simp)
    · exact plainAt_get hp.2 h e
end
theorem wipe_out' {σ : L2.St} {i : Nat} {vs : List Nat} (h : i ∉ vs) : (wipe σ vs)[i]? = σ[i]? := L2.wipe_out h
section
variable {K : PySem.W.Frag} {vs0 : List V}
theorem Good.mutOut {B H : Hp} {σ : L2.St} {ρ : Env} {fs : Nat → List Addr} {a : Addr} {o : HO} (g : Good K vs0 B H σ ρ fs) (hB : B a = none) (n : ∀ i, a ∉ fs i) : Good K vs0 B (upd H a o) σ ρ fs where
  ext := fun b u e => by
    rw [upd_ne (ne_of_none e hB)]
    exact g.ext b u e
  len := g.len
  at_ := fun i s h => by
    obtain ⟨v, h1, h2, h3⟩ := g.at_ i s h
    exact ⟨v, h1, h2.keep (Same.refl B) fun b hb => upd_ne fun q => n i (by rw [← q]; exact hb), h3⟩
  emp := g.emp
  dis := g.dis
  out := g.out
theorem Fr.mut {B H : Hp} {F : Addr → Prop} {a : Addr} {o : HO} (hF : F a) : Fr B H F B (upd H a o) F := by
  refine ⟨Same.refl B, fun b _ nf => upd_ne fun q => nf (by rw [q]; exact hF), fun b h => ?_, fun _ f => Or.inl f, fun _ _ _ h => h⟩
  by_cases e : b = a
  · rw [e, upd_same]; simp
  · rw [upd_ne e]; exact h
theorem backE_out {ρ0 ρ : Env} {j : Nat} : ∀ {own : List Nat}, j ∉ own → (backE ρ0 ρ own)[j]? = ρ[j]?
  | [], _ => rfl
  | v :: vs, h => by
    unfold backE
    rw [List.getElem?_set_ne (fun e => h (by simp [e])), backE_out fun q => h (List.mem_cons_of_mem _ q)]
theorem wipeE_in {ρ : Env} {j : Nat} {s : Sl} {own : List Nat} (h : j ∈ own) : (wipeE ρ own)[j]? ≠ some (some s) := fun e => (wipeE_get e).2 h
theorem Good.back {B B2 H H2 : Hp} {σ : L2.St} {ρ ρ2 : Env} {fs fs2 : Nat → List Addr} {own : List Nat} (g : Good K vs0 B H σ ρ fs) (bb : Same B B2) (hp : plainAt ρ own = true) (g2 : Good K vs0 B2 H2 (wipe σ own) (wipeE ρ2 own) fs2) :
    Good K vs0 B2 H2 σ (backE ρ (wipeE ρ2 own) own) fs2 where
  ext := g2.ext
  len := by rw [backE_len, ← g2.len, L2.wipe_length]
  at_ := fun j s h => by
    have hl : ρ.length = (wipeE ρ2 own).length := by rw [← g.len, ← g2.len, L2.wipe_length]
    rcases backE_get hl h with ⟨h1, h2⟩ | ⟨h1, h2⟩
    · obtain ⟨d, rfl⟩ := plainAt_get hp h1 h2
      obtain ⟨v, q1, q2, _⟩ := g.at_ j _ h2
      have e0 : fs2 j = [] := g2.emp j fun s q => wipeE_in h1 q
      rw [e0]
      exact ⟨v, q1, ⟨Dp.mono bb q2.1, rfl⟩, fun k h => nomatch h⟩
    · obtain ⟨v, q1, q2, q3⟩ := g2.at_ j s h2
      rw [wipe_out' h1] at q1
      exact ⟨v, q1, q2, q3⟩
  emp := fun j h => by
    by_cases hj : j ∈ own
    · exact g2.emp j fun s q => wipeE_in hj q
    · refine g2.emp j fun s q => h s ?_
      rw [backE_out hj]
      exact q
  dis := g2.dis
  out := g2.out
theorem wipe_eq {σ σ' : L2.St} {own is : List Nat} (hs : ∀ i ∈ is, i ∈ own) (hl : σ'.length = σ.length) (h : ∀ j, j ∉ is → σ'[j]? = (wipe σ own)[j]?) : wipe σ' own = wipe σ own := by
  apply List.ext_getElem?
  intro j
  by_cases hj : j ∈ own
  · have key : ∀ τ : L2.St, τ.length = σ.length → (wipe τ own)[j]? = if j < σ.length then some none else none := fun τ ht => by
      by_cases hl : j < σ.length
      · rw [if_pos hl]
        have : j < (wipe τ own).length := by rw [L2.wipe_length]; omega
        cases q : (wipe τ own)[j]? with
        | none => rw [List.getElem?_eq_getElem this] at q; cases q
        | some o =>
          cases o with
          | none => rfl
          | some x => exact ((L2.wipe_some q).2 hj).elim
      · rw [if_neg hl, List.getElem?_eq_none (by rw [L2.wipe_length]; omega)]
    rw [key σ' hl, key σ rfl]
  · rw [wipe_out' hj, h j fun q => hj (hs j q)]
theorem rd_lcW {src : M (List D)} {own is : List Nat} {t : D → Env → Option Env} {tt : M Bool} {te : M Rs} (his : ∀ i ∈ is, i ∈ own) {σ : L2.St} {H : Hp} {Q : VK} {wi : TI}
    (q : ∃ B ρ fs, Good K vs0 B H σ ρ fs ∧ (∃ r ρ', eLc src own t tt te ρ = some (.ok r ρ') ∧ ∀ v B' H' fs' T, Fr B H (InF fs) B' H' (UnF (InF fs') T) → Good K vs0 B' H' σ ρ' fs' → RsOk K B' H' σ fs' v r T → Q v H') ∧
      ∀ R l ρ1, src ρ = some (.ok l ρ1) → (∀ J B' H' fs', Fr B H (InF fs) B' H' (InF fs') → Good K vs0 B' H' σ ρ1 fs' → JOk K B' J l → R J H') → wi σ H R) :
    tLc wi (rdG K vs0 is t) (rdT K vs0 tt) (rdE K vs0 te) own σ H Q := by
  obtain ⟨B, ρ, fs, gd, ⟨r, ρ', e1, k⟩, hwi⟩ := q
  obtain ⟨l, ρ1, e2, e3⟩ := M.bind_ok e1
  split at e3
  · rename_i hpl
    split at e3
    · rename_i accE ρE e4
      cases e3
      refine hwi _ l ρ1 e2 fun J B1 H1 fs1 fr1 g1 jok => fun Dl hD => ?_
      refine ⟨fun i m H2 => i ≤ l.length ∧ m = l.length - i ∧ ∃ B2 ρ2 fs2 acc xs, Good K vs0 B2 H2 (wipe σ own) (wipeE ρ2 own) fs2 ∧ Fr B1 H1 (InF fs1) B2 H2 (UnF (InF fs2) [Dl]) ∧ H2 Dl = some (.lst xs) ∧ DpAll K B2 xs acc ∧ B2 Dl = none ∧
        (∀ j, Dl ∉ fs2 j) ∧ compD own t tt te (l.drop i) acc ρ2 = some (.ok accE ρE), ⟨l.length, Nat.zero_le _, rfl, ?_⟩, ?_⟩
      · have frn := Fr.newL (B := B1) (o := HO.lst []) hD
        have g2 := g1.grow frn (fun _ _ f => f) (g1.ext.trans frn.sameH)
        obtain ⟨fs2, g3, s3⟩ := g2.wipes own
        refine ⟨B1, ρ1, fs2, [], [], g3, frn.weak (fun _ f => f.elim) (fun a f => ?_), upd_same, .nil, ?_, fun j hj => ?_, by simpa using e4⟩
        · rcases f with f | f
          · exact Or.inr (Or.inl (s3 a f))
          · exact Or.inl f
        · cases q : B1 Dl with
          | none => rfl
          | some u => rw [g1.ext Dl u q] at hD; cases hD
        · obtain ⟨j', hj'⟩ := s3 Dl ⟨j, hj⟩
          exact g1.lives hj' hD
      · rintro i m H2 ⟨hi, rfl, B2, ρ2, fs2, acc, xs, g2, fr2, h2, d2, b2, n2, e5⟩
        obtain ⟨j1, j2⟩ := jok B2 H2 fr2.bb g2.ext i
        by_cases hil : i < l.length
        · right
          have hd : l[i]? = some l[i] := List.getElem?_eq_getElem hil
          obtain ⟨jg, jy⟩ := j1 _ hd
          rw [List.drop_eq_getElem_cons hil] at e5
          unfold compD at e5
          split at e5
          · cases e5
          · rename_i ρ3 e6
            refine ⟨jg, fun H' => (i + 1 ≤ l.length ∧ ∃ B2 ρ2 fs2 acc xs, Good K vs0 B2 H' (wipe σ own) (wipeE ρ2 own) fs2 ∧ Fr B1 H1 (InF fs1) B2 H' (UnF (InF fs2) [Dl]) ∧ H' Dl = some (.lst xs) ∧ DpAll K B2 xs acc ∧ B2 Dl = none ∧
              (∀ j, Dl ∉ fs2 j) ∧ compD own t tt te (l.drop (i + 1)) acc ρ2 = some (.ok accE ρE)), fun H' n => ⟨l.length - (i + 1), by omega, n.1, rfl, n.2⟩, fun x H3 hy => ?_⟩
            obtain ⟨B3, fr3, s3, d3⟩ := jy x H3 hy
            have g3 := g2.grow fr3 (fun _ _ f => f) s3
            have live2 : H2 Dl ≠ none := by rw [h2]; simp
            have h3 : H3 Dl = some (.lst xs) := by rw [fr3.keep Dl live2 (fun f => f)]; exact h2
            have b3 : B3 Dl = none := fr3.bnew Dl live2 (fun f => f) b2
            have fr03 : Fr B1 H1 (InF fs1) B3 H3 (UnF (InF fs2) [Dl]) := fr2.trans (fr3.weak (fun _ f => f.elim) fun a h => Or.inr (Or.inl h))
            refine ⟨B3, wipeE ρ2 own, fs2, _, ρ3, g3, d3, e6, fun σ4 fs4 g4 s4 a4 l4 => ?_⟩
            have hw : wipe σ4 own = wipe σ own := wipe_eq his (l4.trans (L2.wipe_length σ own)) a4
            refine ⟨hw, ?_⟩
            have n4 : ∀ j, Dl ∉ fs4 j := fun j hj => by
              obtain ⟨j', hj'⟩ := s4 Dl ⟨j, hj⟩
              exact n2 j' hj'
            split at e5
            · cases e5
            · rename_i ρ4 e7
              refine ⟨B3, ρ3, fs4, g4, false, ρ4, e7, fun B5 H5 fs5 fr5 g5 => ?_⟩
              dsimp only
              rw [if_neg (by decide)]
              have nF : ¬ InF fs4 Dl := fun ⟨j, hj⟩ => n4 j hj
              have live3 : H3 Dl ≠ none := by rw [h3]; simp
              obtain ⟨fs6, g6, s6⟩ := g5.wipes own
              rw [hw] at g6
              refine ⟨hil, B5, ρ4, fs6, acc, xs, g6, ?_, by rw [fr5.keep Dl live3 nF]; exact h3, DpAll.mono (fr3.bb.trans fr5.bb) d2, fr5.bnew Dl live3 nF b3, fun j hj => ?_, e5⟩
              · refine fr03.trans ((fr5.frame [Dl]).weak (fun a h => ?_) fun a h => ?_)
                · rcases h with h | h
                  · exact Or.inl (s4 a h)
                  · exact Or.inr h
                · rcases h with h | h
                  · exact Or.inl (Or.inl (s6 a h))
                  · exact Or.inl (Or.inr h)
              · rcases fr5.own Dl (s6 Dl ⟨j, hj⟩) with q | q
                · exact nF q
                · exact live3 q
            · rename_i ρ4 e7
              refine ⟨B3, ρ3, fs4, g4, true, ρ4, e7, fun B5 H5 fs5 fr5 g5 => ?_⟩
              dsimp only
              rw [if_pos rfl]
              have nF : ¬ InF fs4 Dl := fun ⟨j, hj⟩ => n4 j hj
              have live3 : H3 Dl ≠ none := by rw [h3]; simp
              have h5 : H5 Dl = some (.lst xs) := by rw [fr5.keep Dl live3 nF]; exact h3
              have b5 := fr5.bnew Dl live3 nF b3
              have live5 : H5 Dl ≠ none := by rw [h5]; simp
              have nF5 : ¬ InF fs5 Dl := fun f => by
                rcases fr5.own Dl f with q | q
                · exact nF q
                · exact live3 q
              split at e5
              · cases e5
              · rename_i y ρ5 e8
                split at e5
                · rename_i hsz
                  obtain ⟨r6, ρ6, e9, e10⟩ := M.bind_ok e8
                  refine ⟨B5, ρ4, fs5, g5, r6, ρ6, e9, fun v B6 H6 fs6 T6 fr6 g6 ok6 => ?_⟩
                  have h6 : H6 Dl = some (.lst xs) := by rw [fr6.keep Dl live5 nF5]; exact h5
                  have b6 := fr6.bnew Dl live5 nF5 b5
                  have live6 : H6 Dl ≠ none := by rw [h6]; simp
                  have nF6 : ¬ UnF (InF fs6) T6 Dl := fun f => by
                    rcases fr6.own Dl f with q | q
                    · exact nF5 q
                    · exact live5 q
                  obtain ⟨B7, fs7, fr7, g7, d7⟩ := freezeR_ok g6 ok6 e10
                  have b7 := fr7.bnew Dl live6 nF6 b6
                  have nF7 : ¬ InF fs7 Dl := fun f => by
                    rcases fr7.own Dl f with q | q
                    · exact nF6 q
                    · exact live6 q
                  have dx : DpAll K B7 xs acc := DpAll.mono (((fr3.bb.trans fr5.bb).trans fr6.bb).trans fr7.bb) d2
                  refine ⟨xs, h6, by rw [DpAll.length d2]; exact hsz, hil, ?_⟩
                  have g8 := g7.mutOut (o := HO.lst (xs ++ [v])) b7 fun i hi => nF7 ⟨i, hi⟩
                  obtain ⟨fs9, g9, s9⟩ := g8.wipes own
                  rw [hw] at g9
                  refine ⟨B7, ρ5, fs9, acc ++ [y], xs ++ [v], g9, ?_, upd_same, DpAll.append dx (DpAll.one d7), b7, fun j hj => nF7 (s9 Dl ⟨j, hj⟩), e5⟩
                  have frA : Fr B3 H3 (UnF (InF fs4) [Dl]) B7 H6 (UnF (InF fs7) [Dl]) := (fr5.frame [Dl]).trans ((fr6.frame [Dl]).trans ((fr7.frame [Dl]).weak (fun a h => h) fun a h => Or.inl h))
                  have frB : Fr B7 H6 (UnF (InF fs7) [Dl]) B7 (upd H6 Dl (HO.lst (xs ++ [v]))) (UnF (InF fs7) [Dl]) := Fr.mut (Or.inr (by simp))
                  refine fr03.trans ((frA.trans frB).weak (fun a h => ?_) fun a h => ?_)
                  · rcases h with h | h
                    · exact Or.inl (s4 a h)
                    · exact Or.inr h
                  · rcases h with h | h
                    · exact Or.inl (Or.inl (s9 a h))
                    · exact Or.inl (Or.inr h)
                · cases e5
        · left
          refine ⟨j2 (by omega), ?_⟩
          rw [List.drop_eq_nil_of_le (by omega)] at e5
          cases e5
          refine k (.ref Dl) B2 H2 fs2 [Dl] (fr1.trans fr2) (g1.back fr2.bb hpl g2) ⟨⟨Dl, xs, rfl, rfl, h2, d2⟩, rfl, fun a ha => ?_⟩
          simp at ha
          subst ha
          exact ⟨b2, n2⟩
    · cases e3
  · cases e3
theorem rd_lc {src : M (List D)} {own is : List Nat} {t : D → Env → Option Env} {tt : M Bool} {te : M Rs} (his : ∀ i ∈ is, i ∈ own) {σ : L2.St} {H : Hp} {Q : VK} (q : rdE K vs0 (eLc src own t tt te) σ H Q) :
    tLc (rdI K vs0 src) (rdG K vs0 is t) (rdT K vs0 tt) (rdE K vs0 te) own σ H Q := by
  obtain ⟨B, ρ, fs, gd, r, ρ', e1, k⟩ := q
  exact rd_lcW his ⟨B, ρ, fs, gd, ⟨r, ρ', e1, k⟩, fun R l ρ1 e kk => ⟨B, ρ, fs, gd, l, ρ1, e, kk⟩⟩
end
section
variable {X : Cx} {vs0 : List V}
theorem dts_nil {Y : Cx} {vs0 : List V} : PTs Y [] (rdT Y.K vs0 tYes') := ⟨fun pins s σ H Q I q => pts_nil.run pins s σ H Q I (by
  obtain ⟨B, ρ, fs, g, b, ρ', e, k⟩ := q
  cases e
  exact k B H fs (Fr.refl _ _ _) g)⟩
theorem dts_one {Y : Cx} {vs0 : List V} {c : Expr} {m : M Bool} (h : PT Y c (rdT Y.K vs0 m)) : PTs Y [c] (rdT Y.K vs0 m) := pts_one h
theorem de_lc {elt tg iter : Expr} {ifs : List Expr} {scope : Scope} {own : List (Str × Nat)} {is : List Nat} {pos : Pos} {src : M (List D)} {t : D → Env → Option Env} {tt : M Bool} {te : M Rs} (hc : X.calm = true) (hN : X.N.Nodup) (hi : PI X tg iter (rdI X.K vs0 src)) (ok : BlkOk X.N X.env.scope scope own)
    (his : ∀ i ∈ is, i ∈ own.map (·.2))
    (hg : ∀ (s : Shared) (H : Hp) (C : Addr) (cl : List (Str × Addr)) (fp : List Addr), PG (X.blk s H scope (compEnvC scope cl C X.env) fp) tg (rdG X.K vs0 is t)) (ht : ∀ (s : Shared) (H : Hp) (C : Addr) (cl : List (Str × Addr)) (fp : List Addr), PTs (X.blk s H scope (compEnvC scope cl C X.env) fp) ifs (rdT X.K vs0 tt))
    (he : ∀ (s : Shared) (H : Hp) (C : Addr) (cl : List (Str × Addr)) (fp : List Addr), PE (X.blk s H scope (compEnvC scope cl C X.env) fp) elt (rdE X.K vs0 te)) (hs : ∀ x, foldedSetIterable iter X.env x = pure x := by intro _; rfl) :
    PE X (.ListComp elt [⟨tg, iter, ifs, 0⟩] scope pos) (rdE X.K vs0 (eLc src (own.map (·.2)) t tt te)) := PE.imp (pe_lc hc hN hi ok hg ht he hs) fun σ H Q q => rd_lc his q
theorem ds_setLc {i : Nat} {y : Str} {py : Pos} {elt tg iter : Expr} {ifs : List Expr} {scope : Scope} {own : List (Str × Nat)} {is : List Nat} {pos spos : Pos} {src : M (List D)} {t : D → Env → Option Env} {tt : M Bool} {te : M Rs} (hc : X.calm = true) (hN : X.N.Nodup) (hy : X.N[i]? = some y) (hyl : X.env.scope.names.lookup y = some .local)
    (hsw : swapsWith (.ListComp elt [⟨tg, iter, ifs, 0⟩] scope pos) (some (.Name y py)) spos.line X.env = pure true) (hi : PI X tg iter (rdI X.K vs0 src)) (ok : BlkOk X.N X.env.scope scope own)
    (his : ∀ i ∈ is, i ∈ own.map (·.2))
    (hg : ∀ (s : Shared) (H : Hp) (C : Addr) (cl : List (Str × Addr)) (fp : List Addr), PG (X.blk s H scope (compEnvC scope cl C X.env) fp) tg (rdG X.K vs0 is t)) (ht : ∀ (s : Shared) (H : Hp) (C : Addr) (cl : List (Str × Addr)) (fp : List Addr), PTs (X.blk s H scope (compEnvC scope cl C X.env) fp) ifs (rdT X.K vs0 tt))
    (he : ∀ (s : Shared) (H : Hp) (C : Addr) (cl : List (Str × Addr)) (fp : List Addr), PE (X.blk s H scope (compEnvC scope cl C X.env) fp) elt (rdE X.K vs0 te)) (hs : ∀ x, foldedSetIterable iter X.env x = pure x := by intro _; rfl) :
    PS X (.Assign [.Name y py] (.ListComp elt [⟨tg, iter, ifs, 0⟩] scope pos) spos) (rdS X.K vs0 (gSet i (eLc src (own.map (·.2)) t tt te))) := PS.imp (ps_setLc hc hN hy hyl hsw hi ok hg ht he hs) fun D σ H q => by
  obtain ⟨B, ρ, fs, gd, fl, ρ', e1, k⟩ := q
  exact rd_lc (Q := fun x H1 => gName i x σ H1 D.nx) his (rd_set ⟨B, ρ, fs, gd, fl, ρ', e1, k⟩)
end
end Pd
set_option Elab.async false
set_option linter.all false
set_option maxRecDepth 100000
set_option maxHeartbeats 1000000
namespace Pd
open PySem PySem.Spec PyProof.Rows L2
def spD (K : PySem.W.Frag) (n : Nat) (F : List Sl → Option (Sl × List Sl)) : Sp := fun vs H Q _ => vs.length = n ∧ ∃ B ss fs, Good K [] B H (vs.map some) (ss.map some) fs ∧ (∀ s ∈ ss, s.tag = none) ∧ ∃ r ss', F ss = some (r, ss') ∧
  ∀ v B' H' fs' T, Fr B H (InF fs) B' H' (UnF (InF fs') T) → Good K [] B' H' (vs.map some) (ss'.map some) fs' → RsOk K B' H' (vs.map some) fs' v (.own r) T → Q v H'
def markAll : Nat → List Sl → List Sl
  | _, [] => []
  | k, s :: r => s.mark k :: markAll (k + 1) r
def startE (m : Nat) (ss : List Sl) : Env := (markAll 0 ss).map some ++ List.replicate m none
def Sl.isP : Sl → Bool
  | .p _ => true
  | .ex _ _ => true
  | .fd _ => true
  | .hl _ => true
  | _ => false
def endE : Nat → List Sl → Env → Option (List Sl)
  | _, [], _ => some []
  | k, s :: r, ρ => if s.isP = true then (endE (k + 1) r ρ).map (s :: ·) else match ρ[k]? with
    | some (some s') => if s'.tag = some k then (endE (k + 1) r ρ).map (s'.bare :: ·) else none
    | _ => none
def mkF (m : Nat) (g : M Fl) : List Sl → Option (Sl × List Sl) := fun ss => match g (startE m ss) with
  | some (.ok (.rt s) ρ') => (endE 0 ss ρ').map fun ss' => (s, ss')
  | some (.ok .nx ρ') => (endE 0 ss ρ').map fun ss' => (.p .none, ss')
  | _ => none
theorem markAll_len : ∀ (ss : List Sl) (k : Nat), (markAll k ss).length = ss.length
  | [], _ => rfl
  | s :: r, k => by simp [markAll, markAll_len r (k + 1)]
theorem markAll_get : ∀ (ss : List Sl) (k i : Nat), (markAll k ss)[i]? = (ss[i]?).map (Sl.mark (k + i))
  | [], _, _ => by simp [markAll]
  | s :: r, k, 0 => by simp [markAll]
  | s :: r, k, i + 1 => by
    simp only [markAll, List.getElem?_cons_succ]
    rw [markAll_get r (k + 1) i, show k + 1 + i = k + (i + 1) by omega]
theorem Sl.mark_tag {s : Sl} {k j : Nat} (h : (s.mark k).tag = some j) : j = k := by
  cases s with
  | p d => cases h
  | ml t l => cases h; rfl
  | md t l => cases h; rfl
  | mr t l => cases h; rfl
  | ob t c ns l => cases h; rfl
  | ex c f => cases h
  | fd l => cases h
  | hl t => cases h; rfl
  | tp l => cases h
theorem endE_ok {ρ : Env} : ∀ {ss : List Sl} {k : Nat} {ss' : List Sl}, endE k ss ρ = some ss' → ss'.length = ss.length ∧ ∀ i s, ss[i]? = some s → (s.isP = true ∧ ss'[i]? = some s) ∨ (s.isP = false ∧ ∃ s', ρ[k + i]? = some (some s') ∧ s'.tag = some (k + i) ∧ ss'[i]? = some s'.bare)
  | [], k, ss', e => by cases e; exact ⟨rfl, fun i s h => by simp at h⟩
  | s :: r, k, ss', e => by
    unfold endE at e
    split at e
    · rename_i hp
      cases q : endE (k + 1) r ρ with
      | none => rw [q] at e; cases e
      | some t =>
        rw [q] at e
        cases e
        obtain ⟨h1, h2⟩ := endE_ok q
        refine ⟨by simp [h1], fun i u hu => ?_⟩
        cases i with
        | zero => simp at hu; subst hu; exact Or.inl ⟨hp, rfl⟩
        | succ i =>
          have := h2 i u (by simpa using hu)
          rw [show k + 1 + i = k + (i + 1) by omega] at this
          simpa using this
    · rename_i hp
      split at e
      · rename_i s' e1
        split at e
        · rename_i ht
          cases q : endE (k + 1) r ρ with
          | none => rw [q] at e; cases e
          | some t =>
            rw [q] at e
            cases e
            obtain ⟨h1, h2⟩ := endE_ok q
            refine ⟨by simp [h1], fun i u hu => ?_⟩
            cases i with
            | zero => simp at hu; subst hu; exact Or.inr ⟨by simpa using hp, s', e1, ht, rfl⟩
            | succ i =>
              have := h2 i u (by simpa using hu)
              rw [show k + 1 + i = k + (i + 1) by omega] at this
              simpa using this
        · cases e
      · cases e
theorem Own.retag {K : PySem.W.Frag} {B H : Hp} {v : V} {s : Sl} {T : List Addr} {k : Nat} (h : Own K B H v s T) : Own K B H v (s.mark k) T := by cases s <;> exact h
section
variable {K : PySem.W.Frag}
theorem good_start {N : List Str} {B H : Hp} {vs : List V} {ss : List Sl} {fs : Nat → List Addr} {m : Nat} (g : Good K [] B H (vs.map some) (ss.map some) fs) (hm : N.length - vs.length = m) : Good K vs B H (L2.start N vs) (startE m ss) fs := by
  have hl : vs.length = ss.length := by simpa using g.len
  refine ⟨g.ext, ?_, fun i s h => ?_, fun i h => ?_, g.dis, g.out⟩
  · simp [L2.start, startE, markAll_len, hl]
    omega
  · by_cases hi : i < ss.length
    · unfold startE at h
      rw [List.getElem?_append_left (by simp [markAll_len, hi]), List.getElem?_map, markAll_get, List.getElem?_eq_getElem hi] at h
      simp only [Option.map_some, Nat.zero_add, Option.some.injEq] at h
      subst h
      obtain ⟨v, h1, h2, _⟩ := g.at_ i ss[i] (by rw [List.getElem?_map, List.getElem?_eq_getElem hi]; rfl)
      have hv : vs[i]? = some v := by
        rw [List.getElem?_map] at h1
        cases q : vs[i]? with
        | none => rw [q] at h1; cases h1
        | some u => rw [q] at h1; cases h1; rfl
      refine ⟨v, ?_, h2.retag, fun k hk => ?_⟩
      · unfold L2.start
        rw [List.getElem?_append_left (by simp [hl, hi]), List.getElem?_map, hv]
        rfl
      · rw [Sl.mark_tag hk]
        exact hv
    · unfold startE at h
      rw [List.getElem?_append_right (by simp [markAll_len]; omega), List.getElem?_replicate] at h
      split at h <;> cases h
  · by_cases hi : i < ss.length
    · refine (h (ss[i].mark i) ?_).elim
      unfold startE
      rw [List.getElem?_append_left (by simp [markAll_len, hi]), List.getElem?_map, markAll_get, List.getElem?_eq_getElem hi]
      simp
    · refine g.emp i fun s q => ?_
      rw [List.getElem?_eq_none (by simp; omega)] at q
      cases q
theorem good_end {B B' H' : Hp} {H : Hp} {vs : List V} {ss ss' : List Sl} {σ' : L2.St} {ρ' : Env} {fs fs' : Nat → List Addr} (g : Good K [] B H (vs.map some) (ss.map some) fs) (bb : Same B B') (g' : Good K vs B' H' σ' ρ' fs') (e : endE 0 ss ρ' = some ss') :
    Good K [] B' H' (vs.map some) (ss'.map some) (fun i => if ((ss[i]?).map Sl.isP) = some false then fs' i else []) := by
  obtain ⟨hl, he⟩ := endE_ok e
  have hl0 : vs.length = ss.length := by simpa using g.len
  refine ⟨g'.ext, by simp [hl, hl0], fun i s h => ?_, fun i h => ?_, fun i j a h1 h2 => ?_, fun i a h => ?_⟩
  · rw [List.getElem?_map] at h
    cases q : ss'[i]? with
    | none => rw [q] at h; cases h
    | some s' =>
      rw [q] at h
      cases h
      have hi : i < ss.length := by
        rw [← hl]
        exact (List.getElem?_eq_some_iff.mp q).1
      have hs : ss[i]? = some ss[i] := List.getElem?_eq_getElem hi
      rcases he i _ hs with ⟨h1, h2⟩ | ⟨h1, s'', h2, h3, h4⟩
      · rw [q] at h2
        cases h2
        obtain ⟨v, q1, q2, q3⟩ := g.at_ i ss[i] (by rw [List.getElem?_map, hs]; rfl)
        refine ⟨v, q1, ?_, q3⟩
        rw [if_neg (by rw [hs]; simp [h1])]
        cases hp : ss[i] with
        | p d => rw [hp] at q2; exact ⟨Dp.mono bb q2.1, rfl⟩
        | ml t l => rw [hp] at h1; cases h1
        | md t l => rw [hp] at h1; cases h1
        | mr t l => rw [hp] at h1; cases h1
        | ob t c ns l => rw [hp] at h1; cases h1
        | ex c f => rw [hp] at q2; exact ⟨ExIs.mono bb q2.1, rfl⟩
        | fd l =>
          rw [hp] at q2
          obtain ⟨⟨a, ks, o, h1, h2, h3⟩, _⟩ := q2
          exact ⟨⟨a, ks, o, h1, bb _ _ h2, KvD.mono bb h3⟩, rfl⟩
        | hl t => exact (rfl : ([] : List Addr) = [])
        | tp l => rw [hp] at h1; cases h1
      · rw [q] at h4
        cases h4
        rw [Nat.zero_add] at h2 h3
        obtain ⟨v, q1, q2, q3⟩ := g'.at_ i s'' h2
        have hv := q3 i h3
        refine ⟨v, by rw [List.getElem?_map, hv]; rfl, ?_, fun k hk => by rw [Sl.bare_tag] at hk; cases hk⟩
        rw [if_pos (by rw [hs]; simp [h1])]
        exact q2.bare
  · try dsimp only
    by_cases hi : i < ss.length
    · exfalso
      have : i < ss'.length := by omega
      exact h ss'[i] (by rw [List.getElem?_map, List.getElem?_eq_getElem this]; rfl)
    · rw [if_neg (by rw [List.getElem?_eq_none (by omega)]; simp)]
  · try dsimp only at h1 h2
    split at h1
    · split at h2
      · exact g'.dis i j a h1 h2
      · cases h2
    · cases h1
  · try dsimp only at h
    split at h
    · exact g'.out i a h
    · cases h
theorem rd_body {N : List Str} {m : Nat} {g : M Fl} {vs : List V} {H : Hp} {Q : VK} {E : XK} {n : Nat} (hn : N.length - n = m) (h : spD K n (mkF m g) vs H Q E) : rdS K vs g { nx := fun _ H' => Q .non H', rt := Q } (L2.start N vs) H := by
  obtain ⟨hv, B, ss, fs, gd, ht, r, ss', e, k⟩ := h
  have g0 := good_start (N := N) (m := m) gd (by rw [hv]; exact hn)
  unfold mkF at e
  have fin : ∀ {B' H' σ' ρ' fs' v T s}, Fr B H (InF fs) B' H' (UnF (InF fs') T) → Good K vs B' H' σ' ρ' fs' → RsOk K B' H' σ' fs' v (.own s) T → endE 0 ss ρ' = some ss' → s = r → Q v H' := fun {B' H' σ' ρ' fs' v T s} fr g' ok e1 e2 => by
    subst e2
    refine k v B' H' _ T (fr.weak (fun _ h => h) fun a h => Or.inl ?_) (good_end gd fr.bb g' e1) ⟨ok.1, ok.2.1, fun a ha => ⟨(ok.2.2 a ha).1, fun i hi => ?_⟩⟩
    · rcases h with ⟨i, hi⟩ | h
      · try dsimp only at hi
        split at hi
        · exact Or.inl ⟨i, hi⟩
        · cases hi
      · exact Or.inr h
    · try dsimp only at hi
      split at hi
      · exact (ok.2.2 a ha).2 i hi
      · cases hi
  split at e
  · rename_i s ρ' e1
    cases q : endE 0 ss ρ' with
    | none => rw [q] at e; cases e
    | some t =>
      rw [q] at e
      cases e
      exact ⟨B, _, fs, g0, _, ρ', e1, fun v σ' B' H' fs' T fr g' ok => fin fr g' ok q rfl⟩
  · rename_i ρ' e1
    cases q : endE 0 ss ρ' with
    | none => rw [q] at e; cases e
    | some t =>
      rw [q] at e
      cases e
      exact ⟨B, _, fs, g0, _, ρ', e1, fun σ' B' H' fs' fr g' => fin (v := .non) (T := []) (s := .p .none) (fr.weak (fun _ h => h) fun a h => by
        rcases h with h | h
        · exact Or.inl h
        · cases h) g' ⟨⟨.non, rfl⟩, rfl, fun a ha => nomatch ha⟩ q rfl⟩
  · cases e
end
section
variable {P : Program} {w : World} {K : PySem.W.Frag} {mg : Str → Option Value} {base : Heap}
theorem fn_ok {x qual : Str} {st : Stmt} {f : Addr} {fd : FuncData} {N ps : List Str} {k m : Nat} {g : M Fl} (F : Fun K x qual st f fd) (S : FnScope N ps (defScope st)) (hm : N.length - ps.length = m)
    (hbody : ∀ (cdv : Value) (A : Around) (outer : List PySem.Env) (s : Shared) (H : Hp) (E : XK) (vs0 : List V), Room k (A.deeper (envOfC qual (defScope st) s.heap.objs.size f cdv)) →
      PSs (cxOf CX0 P w K mg base N qual (defScope st) f cdv A outer s H E).nox (defBody st) (rdS K vs0 g)) : FnOk P w K mg base CX0 (k + 1) f fd ps (spD K ps.length (mkF m g)) :=
  F.ok S (fun vs H Q E h => h.1) fun cdv A outer s H vs Q E hr h => ⟨_, hbody cdv A outer s H E vs hr, rd_body hm h⟩
end
def argS : List Rs → Env → Option (List Sl)
  | [], _ => some []
  | .own s :: r, ρ => match argS r ρ with
    | some t => some (s :: t)
    | none => none
  | .bor i :: r, ρ => match ρ[i]? with
    | some (some s) => match argS r ρ with
      | some t => some (s.bare :: t)
      | none => none
    | _ => none
  | .lent _ _ _ :: _, _ => none
def bors : List Rs → List Nat
  | [] => []
  | .own _ :: r => bors r
  | .bor i :: r => i :: bors r
  | .lent _ _ _ :: r => bors r
def Sl.retag (t : Option Nat) : Sl → Sl
  | .p d => .p d
  | .ml _ l => .ml t l
  | .md _ l => .md t l
  | .mr _ l => .mr t l
  | .ob _ c ns l => .ob t c ns l
  | .ex c f => .ex c f
  | .fd l => .fd l
  | .hl _ => .hl t
  | .tp l => .tp l
def tagAt (ρ : Env) (i : Nat) : Option Nat := match ρ[i]? with
  | some (some s) => s.tag
  | _ => none
def wb : List Rs → List Sl → Env → Env
  | .bor i :: rs, s :: ss, ρ => wb rs ss (ρ.set i (some (s.retag (tagAt ρ i))))
  | .own _ :: rs, _ :: ss, ρ => wb rs ss ρ
  | .lent _ _ _ :: rs, _ :: ss, ρ => wb rs ss ρ
  | _, _, ρ => ρ
def opCall (n : Nat) (F : List Sl → Option (Sl × List Sl)) : List Rs → M Rs := fun rs ρ => if rs.length = n ∧ (bors rs).Nodup then match argS rs ρ with
    | some ss => match F ss with
      | some (r, ss') => some (.ok (.own r) (wb rs ss' ρ))
      | none => none
    | none => none
  else none
theorem wb_len : ∀ (rs : List Rs) (ss : List Sl) (ρ : Env), (wb rs ss ρ).length = ρ.length
  | [], _, _ => by simp [wb]
  | .own _ :: _, [], _ => by simp [wb]
  | .bor _ :: _, [], _ => by simp [wb]
  | .lent _ _ _ :: _, [], _ => by simp [wb]
  | .own _ :: rs, _ :: ss, ρ => by simp [wb, wb_len rs ss ρ]
  | .lent _ _ _ :: rs, _ :: ss, ρ => by simp [wb, wb_len rs ss ρ]
  | .bor i :: rs, s :: ss, ρ => by simp [wb, wb_len rs ss]
theorem wb_out {i : Nat} : ∀ (rs : List Rs) (ss : List Sl) (ρ : Env), i ∉ bors rs → (wb rs ss ρ)[i]? = ρ[i]?
  | [], _, _, _ => by simp [wb]
  | .own _ :: _, [], _, _ => by simp [wb]
  | .bor _ :: _, [], _, _ => by simp [wb]
  | .lent _ _ _ :: _, [], _, _ => by simp [wb]
  | .own _ :: rs, _ :: ss, ρ, h => by simp only [wb]; exact wb_out rs ss ρ h
  | .lent _ _ _ :: rs, _ :: ss, ρ, h => by simp only [wb]; exact wb_out rs ss ρ h
  | .bor j :: rs, s :: ss, ρ, h => by
    simp only [wb]
    simp only [bors, List.mem_cons, not_or] at h
    rw [wb_out rs ss _ h.2, List.getElem?_set_ne (Ne.symm h.1)]
theorem mem_bors {i : Nat} : ∀ {rs : List Rs}, i ∈ bors rs ↔ ∃ k : Nat, rs[k]? = some (.bor i)
  | [] => by simp [bors]
  | .own s :: r => by
    rw [bors, mem_bors]
    constructor
    · rintro ⟨k, h⟩; exact ⟨k + 1, by simpa using h⟩
    · rintro ⟨k, h⟩
      cases k with
      | zero => simp at h
      | succ k => exact ⟨k, by simpa using h⟩
  | .lent _ _ _ :: r => by
    rw [bors, mem_bors]
    constructor
    · rintro ⟨k, h⟩; exact ⟨k + 1, by simpa using h⟩
    · rintro ⟨k, h⟩
      cases k with
      | zero => simp at h
      | succ k => exact ⟨k, by simpa using h⟩
  | .bor j :: r => by
    rw [bors, List.mem_cons, mem_bors]
    constructor
    · rintro (rfl | ⟨k, h⟩)
      · exact ⟨0, rfl⟩
      · exact ⟨k + 1, by simpa using h⟩
    · rintro ⟨k, h⟩
      cases k with
      | zero => simp at h; exact Or.inl h.symm
      | succ k => exact Or.inr ⟨k, by simpa using h⟩
theorem bors_inj {i : Nat} : ∀ {rs : List Rs} {k k' : Nat}, (bors rs).Nodup → rs[k]? = some (.bor i) → rs[k']? = some (.bor i) → k = k'
  | [], k, _, _, h, _ => by simp at h
  | .own s :: r, k, k', hn, h, h' => by
    cases k with
    | zero => simp at h
    | succ k =>
      cases k' with
      | zero => simp at h'
      | succ k' => exact congrArg (· + 1) (bors_inj (rs := r) hn (by simpa using h) (by simpa using h'))
  | .lent _ _ _ :: r, k, k', hn, h, h' => by
    cases k with
    | zero => simp at h
    | succ k =>
      cases k' with
      | zero => simp at h'
      | succ k' => exact congrArg (· + 1) (bors_inj (rs := r) hn (by simpa using h) (by simpa using h'))
  | .bor j :: r, k, k', hn, h, h' => by
    rw [bors, List.nodup_cons] at hn
    cases k with
    | zero =>
      simp at h
      subst h
      cases k' with
      | zero => rfl
      | succ k' => exact (hn.1 (mem_bors.mpr ⟨k', by simpa using h'⟩)).elim
    | succ k =>
      cases k' with
      | zero =>
        simp at h'
        subst h'
        exact (hn.1 (mem_bors.mpr ⟨k, by simpa using h⟩)).elim
      | succ k' => exact congrArg (· + 1) (bors_inj (rs := r) hn.2 (by simpa using h) (by simpa using h'))
theorem wb_in {i : Nat} : ∀ {rs : List Rs} {ss : List Sl} {ρ : Env} {k : Nat} {s : Sl}, (bors rs).Nodup → rs[k]? = some (.bor i) → ss[k]? = some s → ss.length = rs.length → i < ρ.length → (wb rs ss ρ)[i]? = some (some (s.retag (tagAt ρ i)))
  | [], _, _, k, _, _, h, _, _, _ => by simp at h
  | _ :: _, [], _, _, _, _, _, h, _, _ => by simp at h
  | .own s0 :: r, s1 :: ss, ρ, k, s, hn, h, hs, hl, hi => by
    cases k with
    | zero => simp at h
    | succ k => simp only [wb]; exact wb_in (rs := r) hn (by simpa using h) (by simpa using hs) (by simpa using hl) hi
  | .lent _ _ _ :: r, s1 :: ss, ρ, k, s, hn, h, hs, hl, hi => by
    cases k with
    | zero => simp at h
    | succ k => simp only [wb]; exact wb_in (rs := r) hn (by simpa using h) (by simpa using hs) (by simpa using hl) hi
  | .bor j :: r, s1 :: ss, ρ, k, s, hn, h, hs, hl, hi => by
    rw [bors, List.nodup_cons] at hn
    cases k with
    | zero =>
      simp at h hs
      subst h hs
      simp only [wb]
      rw [wb_out r ss _ hn.1, List.getElem?_set_self hi]
    | succ k =>
      have hne : j ≠ i := fun e => hn.1 (mem_bors.mpr ⟨k, by rw [e]; simpa using h⟩)
      simp only [wb]
      rw [wb_in (rs := r) hn.2 (by simpa using h) (by simpa using hs) (by simpa using hl) (by simpa using hi)]
      unfold tagAt
      rw [List.getElem?_set_ne hne]
theorem argS_get {ρ : Env} : ∀ {rs : List Rs} {ss : List Sl}, argS rs ρ = some ss → ss.length = rs.length ∧ ∀ (k : Nat) s, ss[k]? = some s → rs[k]? = some (.own s) ∨ ∃ i s0, rs[k]? = some (.bor i) ∧ ρ[i]? = some (some s0) ∧ s = s0.bare
  | [], ss, e => by cases e; exact ⟨rfl, fun k s h => by simp at h⟩
  | .own s0 :: r, ss, e => by
    unfold argS at e
    split at e
    · rename_i t e1
      cases e
      obtain ⟨h1, h2⟩ := argS_get e1
      refine ⟨by simp [h1], fun k s h => ?_⟩
      cases k with
      | zero => simp at h; subst h; exact Or.inl rfl
      | succ k => simpa using h2 k s (by simpa using h)
    · cases e
  | .bor i :: r, ss, e => by
    unfold argS at e
    split at e
    · rename_i s0 e0
      split at e
      · rename_i t e1
        cases e
        obtain ⟨h1, h2⟩ := argS_get e1
        refine ⟨by simp [h1], fun k s h => ?_⟩
        cases k with
        | zero => simp at h; subst h; exact Or.inr ⟨i, s0, rfl, e0, rfl⟩
        | succ k => simpa using h2 k s (by simpa using h)
      · cases e
    · cases e
  | .lent _ _ _ :: r, ss, e => by cases e
theorem argS_bor {ρ : Env} : ∀ {rs : List Rs} {ss : List Sl} {k i : Nat}, argS rs ρ = some ss → rs[k]? = some (.bor i) → ∃ s0, ρ[i]? = some (some s0)
  | [], _, k, _, _, h => by simp at h
  | .own s0 :: r, ss, k, i, e, h => by
    unfold argS at e
    split at e
    · rename_i t e1
      cases k with
      | zero => simp at h
      | succ k => exact argS_bor e1 (by simpa using h)
    · cases e
  | .bor j :: r, ss, k, i, e, h => by
    unfold argS at e
    split at e
    · rename_i s0 e0
      split at e
      · rename_i t e1
        cases k with
        | zero => simp at h; subst h; exact ⟨s0, e0⟩
        | succ k => exact argS_bor e1 (by simpa using h)
      · cases e
    · cases e
  | .lent _ _ _ :: r, ss, k, i, e, h => by cases e
section
variable {K : PySem.W.Frag} {B H : Hp} {σ : L2.St} {fs : Nat → List Addr}
theorem RsAll.get : ∀ {vs : List V} {rs : List Rs} {Ts : List (List Addr)} {k : Nat} {r : Rs}, RsAll K B H σ fs vs rs Ts → rs[k]? = some r → ∃ v T, vs[k]? = some v ∧ Ts[k]? = some T ∧ RsOk K B H σ fs v r T
  | [], [], [], k, _, _, e => by simp at e
  | v :: vs, r :: rs, T :: Ts, k, r', g, e => by
    cases k with
    | zero => simp at e; subst e; exact ⟨v, T, rfl, rfl, g.1⟩
    | succ k => simpa using RsAll.get (k := k) g.2 (by simpa using e)
  | [], [], _ :: _, _, _, g, _ => g.elim
  | [], _ :: _, _, _, _, g, _ => g.elim
  | _ :: _, [], _, _, _, g, _ => g.elim
  | _ :: _, _ :: _, [], _, _, g, _ => g.elim
theorem RsAll.len : ∀ {vs : List V} {rs : List Rs} {Ts : List (List Addr)}, RsAll K B H σ fs vs rs Ts → vs.length = rs.length
  | [], [], [], _ => rfl
  | v :: vs, r :: rs, T :: Ts, g => by simp [RsAll.len g.2]
  | [], [], _ :: _, g => g.elim
  | [], _ :: _, _, g => g.elim
  | _ :: _, [], _, g => g.elim
  | _ :: _, _ :: _, [], g => g.elim
end
theorem flat_inj {a : Addr} : ∀ {Ts : List (List Addr)} {k k' : Nat} {T T' : List Addr}, Ts.flatten.Nodup → Ts[k]? = some T → Ts[k']? = some T' → a ∈ T → a ∈ T' → k = k'
  | [], k, _, _, _, _, h, _, _, _ => by simp at h
  | T0 :: Ts, k, k', T, T', hn, h, h', ha, ha' => by
    rw [List.flatten_cons, List.nodup_append] at hn
    cases k with
    | zero =>
      simp at h; subst h
      cases k' with
      | zero => rfl
      | succ k' => exact (hn.2.2 a ha a (List.mem_flatten.mpr ⟨T', List.mem_of_getElem? (by simpa using h'), ha'⟩) rfl).elim
    | succ k =>
      cases k' with
      | zero =>
        simp at h'; subst h'
        exact (hn.2.2 a ha' a (List.mem_flatten.mpr ⟨T, List.mem_of_getElem? (by simpa using h), ha⟩) rfl).elim
      | succ k' => exact congrArg (· + 1) (flat_inj hn.2.1 (by simpa using h) (by simpa using h') ha ha')
theorem Sl.retag_tag {s : Sl} {t : Option Nat} {k : Nat} (h : (s.retag t).tag = some k) : t = some k := by
  cases s with
  | p d => cases h
  | ml _ l => exact h
  | md _ l => exact h
  | mr _ l => exact h
  | ob _ c ns l => exact h
  | ex c f => cases h
  | fd l => cases h
  | hl t => exact h
  | tp l => cases h
theorem Own.retag' {K : PySem.W.Frag} {B H : Hp} {v : V} {s : Sl} {T : List Addr} {t : Option Nat} (h : Own K B H v s T) : Own K B H v (s.retag t) T := by cases s <;> exact h
open Classical in
theorem opCall_ok {K : PySem.W.Frag} {n : Nat} {F : List Sl → Option (Sl × List Sl)} : OpOk K (fun vs H Q => spD K n F vs H Q E0) (opCall n F) := by
  intro vs0 σ B H ρ fs vs rs Ts Q g ok nd r' ρ' e k
  unfold opCall at e
  split at e
  · rename_i hc
    split at e
    · rename_i ss e1
      split at e
      · rename_i r ss' e2
        cases e
        obtain ⟨hn, hnd⟩ := hc
        obtain ⟨hl, ha⟩ := argS_get e1
        have hvl := RsAll.len ok
        let fsA : Nat → List Addr := fun k => match rs[k]? with
          | some (.bor i) => fs i
          | some (.own _) => Ts.getD k []
          | _ => []
        have fA : ∀ k a, a ∈ fsA k → (∃ i, rs[k]? = some (Rs.bor i) ∧ a ∈ fs i) ∨ ∃ s T, rs[k]? = some (Rs.own s) ∧ Ts[k]? = some T ∧ a ∈ T := fun k a h => by
          show _ ∨ _
          have h' : a ∈ (match rs[k]? with
            | some (.bor i) => fs i
            | some (.own _) => Ts.getD k []
            | _ => []) := h
          cases q : rs[k]? with
          | none => rw [q] at h'; cases h'
          | some r =>
            rw [q] at h'
            cases r with
            | bor i => exact Or.inl ⟨i, rfl, h'⟩
            | lent i s kk => cases h'
            | own s =>
              obtain ⟨v, T, _, hT, _⟩ := RsAll.get ok q
              refine Or.inr ⟨s, T, rfl, hT, ?_⟩
              try dsimp only at h'
              rw [List.getD_eq_getElem?_getD, hT] at h'
              exact h'
        have offA : ∀ (k : Nat) (s : Sl) (T : List Addr) (a : Addr), rs[k]? = some (Rs.own s) → Ts[k]? = some T → a ∈ T → ∀ i, a ∉ fs i := fun k s T a q hT haT i hi => by
          obtain ⟨v, T', _, hT', okk⟩ := RsAll.get ok q
          rw [hT] at hT'; cases hT'
          exact okk.off a haT ⟨i, hi⟩
        have gA : Good K [] B H (vs.map some) (ss.map some) fsA := by
          refine ⟨g.ext, by simp [hvl, hl], fun j s h => ?_, fun j h => ?_, fun j j' a h1 h2 => ?_, fun j a h => ?_⟩
          · rw [List.getElem?_map] at h
            cases q : ss[j]? with
            | none => rw [q] at h; cases h
            | some s' =>
              rw [q] at h
              cases h
              rcases ha j s q with h1 | ⟨i, s0, h1, h2, rfl⟩
              · obtain ⟨v, T, q1, q2, q3⟩ := RsAll.get ok h1
                refine ⟨v, by rw [List.getElem?_map, q1]; rfl, ?_, fun k hk => by rw [q3.2.1] at hk; cases hk⟩
                have : fsA j = T := by
                  show (match rs[j]? with
                    | some (.bor i) => fs i
                    | some (.own _) => Ts.getD j []
                    | _ => []) = T
                  rw [h1]
                  try dsimp only
                  rw [List.getD_eq_getElem?_getD, q2]
                  rfl
                rw [this]
                exact q3.1
              · obtain ⟨v, T, q1, q2, q3⟩ := RsAll.get ok h1
                obtain ⟨v', w1, w2, _⟩ := g.at_ i s0 h2
                have hv : σ[i]? = some (some v) := q3.1
                rw [hv] at w1
                cases w1
                refine ⟨v, by rw [List.getElem?_map, q1]; rfl, ?_, fun k hk => by rw [Sl.bare_tag] at hk; cases hk⟩
                have : fsA j = fs i := by
                  show (match rs[j]? with
                    | some (.bor i) => fs i
                    | some (.own _) => Ts.getD j []
                    | _ => []) = fs i
                  rw [h1]
                rw [this]
                exact w2.bare
          · show (match rs[j]? with
                    | some (.bor i) => fs i
                    | some (.own _) => Ts.getD j []
                    | _ => []) = []
            have : ¬ j < ss.length := fun hj => h ss[j] (by rw [List.getElem?_map, List.getElem?_eq_getElem hj]; rfl)
            rw [List.getElem?_eq_none (by omega)]
          · rcases fA j a h1 with ⟨i, q1, q2⟩ | ⟨s, T, q1, q2, q3⟩
            · rcases fA j' a h2 with ⟨i', w1, w2⟩ | ⟨s', T', w1, w2, w3⟩
              · have := g.dis i i' a q2 w2
                subst this
                exact bors_inj hnd q1 w1
              · exact (offA j' s' T' a w1 w2 w3 i q2).elim
            · rcases fA j' a h2 with ⟨i', w1, w2⟩ | ⟨s', T', w1, w2, w3⟩
              · exact (offA j s T a q1 q2 q3 i' w2).elim
              · exact flat_inj nd q2 w2 q3 w3
          · rcases fA j a h with ⟨i, q1, q2⟩ | ⟨s, T, q1, q2, q3⟩
            · exact g.out i a q2
            · obtain ⟨v, T', _, hT', okk⟩ := RsAll.get ok q1
              rw [q2] at hT'; cases hT'
              exact (okk.2.2 a q3).1
        have tg : ∀ s ∈ ss, s.tag = none := fun s hs => by
          obtain ⟨j, hj⟩ := List.getElem?_of_mem hs
          rcases ha j s hj with h1 | ⟨i, s0, h1, h2, rfl⟩
          · obtain ⟨v, T, q1, q2, q3⟩ := RsAll.get ok h1
            exact q3.2.1
          · exact Sl.bare_tag s0
        refine ⟨by rw [hvl]; exact hn, B, ss, fsA, gA, tg, r, ss', e2, fun v B' H' fsB T fr gB okB => ?_⟩
        have hl' : ss'.length = rs.length := by
          have := gB.len
          simp at this
          omega
        let fs2 : Nat → List Addr := fun i => if h : ∃ k : Nat, rs[k]? = some (.bor i) then fsB (Classical.choose h) else fs i
        have f2in : ∀ {i k : Nat}, rs[k]? = some (.bor i) → fs2 i = fsB k := fun {i k} h => by
          show (if h : ∃ k : Nat, rs[k]? = some (.bor i) then fsB (Classical.choose h) else fs i) = fsB k
          have hx : ∃ k : Nat, rs[k]? = some (.bor i) := ⟨k, h⟩
          rw [dif_pos hx, bors_inj hnd (Classical.choose_spec hx) h]
        have f2out : ∀ {i : Nat}, (¬ ∃ k : Nat, rs[k]? = some (.bor i)) → fs2 i = fs i := fun {i} h => by
          show (if h : ∃ k : Nat, rs[k]? = some (.bor i) then fsB (Classical.choose h) else fs i) = fs i
          rw [dif_neg h]
        have notA : ∀ {i a}, (¬ ∃ k : Nat, rs[k]? = some (.bor i)) → a ∈ fs i → ¬ InF fsA a := fun {i a} h hi ⟨j, hj⟩ => by
          rcases fA j a hj with ⟨i', q1, q2⟩ | ⟨s, T, q1, q2, q3⟩
          · exact h ⟨j, by rw [g.dis i i' a hi q2]; exact q1⟩
          · exact offA j s T a q1 q2 q3 i hi
        have notB : ∀ {i a}, (¬ ∃ k : Nat, rs[k]? = some (.bor i)) → a ∈ fs i → ¬ UnF (InF fsB) T a := fun {i a} h hi f => by
          rcases fr.own a f with q | q
          · exact notA h hi q
          · exact g.lives hi q
        have gd2 : Good K vs0 B' H' σ (wb rs ss' ρ) fs2 := by
          refine ⟨gB.ext, by rw [wb_len]; exact g.len, fun i s h => ?_, fun i h => ?_, fun i j a h1 h2 => ?_, fun i a h => ?_⟩
          · by_cases hx : ∃ k : Nat, rs[k]? = some (.bor i)
            · obtain ⟨j, hj⟩ := hx
              obtain ⟨s0, hs0⟩ := argS_bor e1 hj
              have hj' : j < rs.length := (List.getElem?_eq_some_iff.mp hj).1
              have hs' : ss'[j]? = some (ss'[j]'(by omega)) := List.getElem?_eq_getElem (by omega)
              rw [wb_in hnd hj hs' hl' (List.getElem?_eq_some_iff.mp hs0).1] at h
              cases h
              obtain ⟨v1, q1, q2, _⟩ := gB.at_ j _ (by rw [List.getElem?_map, hs']; rfl)
              obtain ⟨v2, T2, w1, w2, w3⟩ := RsAll.get ok hj
              rw [List.getElem?_map, w1] at q1
              have q1 : some (some v2) = some (some v1) := q1
              have q1 : v2 = v1 := by simpa using q1
              subst q1
              refine ⟨v2, w3.1, by rw [f2in hj]; exact q2.retag', fun q hq => ?_⟩
              have ht := Sl.retag_tag hq
              unfold tagAt at ht
              rw [hs0] at ht
              obtain ⟨v3, z1, _, z3⟩ := g.at_ i s0 hs0
              have hv : σ[i]? = some (some v2) := w3.1
              rw [hv] at z1
              cases z1
              exact z3 q ht
            · rw [wb_out _ _ _ (fun q => hx (mem_bors.mp q))] at h
              obtain ⟨v1, q1, q2, q3⟩ := g.at_ i s h
              refine ⟨v1, q1, ?_, q3⟩
              rw [f2out hx]
              exact q2.keep fr.bb fun a ha => fr.keep a (g.lives ha) (notA hx ha)
          · by_cases hx : ∃ k : Nat, rs[k]? = some (.bor i)
            · obtain ⟨j, hj⟩ := hx
              obtain ⟨s0, hs0⟩ := argS_bor e1 hj
              have hj' : j < rs.length := (List.getElem?_eq_some_iff.mp hj).1
              have hs' : ss'[j]? = some (ss'[j]'(by omega)) := List.getElem?_eq_getElem (by omega)
              exact (h _ (wb_in hnd hj hs' hl' (List.getElem?_eq_some_iff.mp hs0).1)).elim
            · rw [f2out hx]
              rw [wb_out _ _ _ (fun q => hx (mem_bors.mp q))] at h
              exact g.emp i h
          · by_cases hx : ∃ k : Nat, rs[k]? = some (.bor i)
            · obtain ⟨p, hp⟩ := hx
              rw [f2in hp] at h1
              by_cases hy : ∃ k : Nat, rs[k]? = some (.bor j)
              · obtain ⟨q, hq⟩ := hy
                rw [f2in hq] at h2
                have := gB.dis p q a h1 h2
                subst this
                rw [hp] at hq
                cases hq
                rfl
              · rw [f2out hy] at h2
                exact (notB hy h2 (Or.inl ⟨p, h1⟩)).elim
            · rw [f2out hx] at h1
              by_cases hy : ∃ k : Nat, rs[k]? = some (.bor j)
              · obtain ⟨q, hq⟩ := hy
                rw [f2in hq] at h2
                exact (notB hx h1 (Or.inl ⟨q, h2⟩)).elim
              · rw [f2out hy] at h2
                exact g.dis i j a h1 h2
          · by_cases hx : ∃ k : Nat, rs[k]? = some (.bor i)
            · obtain ⟨p, hp⟩ := hx
              rw [f2in hp] at h
              exact gB.out p a h
            · rw [f2out hx] at h
              exact fr.bnew a (g.lives h) (notA hx h) (g.out i a h)
        have w1 : ∀ a, InF fsA a → UnF (InF fs) Ts.flatten a := by
          rintro a ⟨j, hj⟩
          rcases fA j a hj with ⟨i, q1, q2⟩ | ⟨s, T', q1, q2, q3⟩
          · exact Or.inl ⟨i, q2⟩
          · exact Or.inr (List.mem_flatten.mpr ⟨T', List.mem_of_getElem? q2, q3⟩)
        have w2 : ∀ a, UnF (InF fs2) T a → UnF (InF fsB) T a ∨ UnF (InF fs) Ts.flatten a ∨ H a = none := by
          rintro a h
          rcases h with ⟨i, hi⟩ | h
          · by_cases hx : ∃ k : Nat, rs[k]? = some (.bor i)
            · obtain ⟨p, hp⟩ := hx
              rw [f2in hp] at hi
              exact Or.inl (Or.inl ⟨p, hi⟩)
            · rw [f2out hx] at hi
              exact Or.inr (Or.inl (Or.inl ⟨i, hi⟩))
          · exact Or.inl (Or.inr h)
        refine k v B' H' fs2 T (fr.weak w1 w2) gd2 ⟨okB.1, okB.2.1, ?_⟩
        · intro a haT
          refine ⟨(okB.2.2 a haT).1, ?_⟩
          intro i hi
          by_cases hx : ∃ k : Nat, rs[k]? = some (.bor i)
          · obtain ⟨p, hp⟩ := hx
            rw [f2in hp] at hi
            exact (okB.2.2 a haT).2 p hi
          · rw [f2out hx] at hi
            exact notB hx hi (Or.inr haT)
      · cases e
    · cases e
  · cases e
section
variable {X : Cx} {vs0 : List V} {k n : Nat} {f : Addr} {fd : FuncData} {ps : List Str} {F : List Sl → Option (Sl × List Sl)} {x : Str} {p pos : Pos} {e : Expr} {es : List Expr} {fa : M (List Rs)}
theorem de_call (Fn : FnOk X.prog X.w X.K X.mg X.base CX0 k f fd ps (spD X.K n F)) (hr : Room k X.A) (hg : Gl X x) (hm : X.mg x = some (.ref f)) (hk : PySem.W.keepIn X.K (.ref f) = true) (hb : Binds X.K fd ps [])
    (ha : PA X (e :: es) (rdA X.K vs0 fa)) (hdb : (x == ("__debug__" : Str)) = false := by decide) (he : starEach (e :: es) X.env = (false, eval e X.env) :: starEach es X.env := by rfl) (hpl : (backTo pos (starEach es X.env)).any (·.1) = false := by rfl) :
    PE X (.Call (.Name x p) (e :: es) [] pos) (rdE X.K vs0 (M.bind fa (opCall n F))) := PE.imp (pe_call (E := E0) Fn hr hg hm hk hb .nil pass0 ha hdb he hpl) fun σ H Q q => by
  have q2 := rd_op (opCall_ok (n := n) (F := F)) q
  obtain ⟨B, ρ, fs, gd, rs, ρ', e1, kk⟩ := q2
  refine ⟨B, ρ, fs, gd, rs, ρ', e1, fun vs B' H' fs' Ts a b c d => ?_⟩
  show spD X.K n F (vs ++ []) H' Q E0
  rw [List.append_nil]
  exact kk vs B' H' fs' Ts a b c d
theorem de_call0 (Fn : FnOk X.prog X.w X.K X.mg X.base CX0 k f fd ps (spD X.K n F)) (hr : Room k X.A) (hg : Gl X x) (hm : X.mg x = some (.ref f)) (hk : PySem.W.keepIn X.K (.ref f) = true) (hb : Binds X.K fd ps [])
    (hdb : (x == ("__debug__" : Str)) = false := by decide) : PE X (.Call (.Name x p) [] [] pos) (rdE X.K vs0 (M.bind aNil (opCall n F))) := PE.imp (pe_call0 (E := E0) Fn hr hg hm hk hb .nil pass0 hdb) fun σ H Q q => by
  have q2 := rdA_nil (rd_op (opCall_ok (n := n) (F := F)) q)
  exact q2
end
end Pd
set_option Elab.async false
set_option linter.all false
set_option maxRecDepth 100000
set_option maxHeartbeats 1000000
namespace Pd
open PySem PySem.Spec PyProof.Rows L2
section
variable {X : Cx} {vs0 : List V} {e : Expr} {f : M Rs} {d : D}
theorem de_fold (h : PE X e (rdE X.K vs0 f)) (q : ∀ ρ, f ρ = eC d ρ) : PE X e (rdE X.K vs0 (eC d)) := by
  have : f = eC d := funext q
  rw [← this]
  exact h
instance (i j : Int) : Decidable (CPow i j) := by unfold CPow; infer_instance
def oPow := opG (pInt CPow fun i j => i ^ j.toNat)
theorem oPow_ok {K : PySem.W.Frag} : OpOk K (r2 (rI CPow fun i j => .int (i ^ j.toNat))) oPow := oInt_ok
end
section
variable {X : Cx} {vs0 : List V} {a b c : Expr} {fa fb fc : M Rs} {op op' : List Rs → M Rs} {o1 o2 : CmpOp} {r r' : R2} {pos : Pos}
theorem rd_chain {K : PySem.W.Frag} (h1 : OpOk K (r2 r) op) (h2 : OpOk K (r2 r') op') {σ : L2.St} {H : Hp} {Q : VK} (q : rdE K vs0 (eChain fa fb fc op op') σ H Q) : tChain r r' (rdE K vs0 fa) (rdE K vs0 fb) (rdE K vs0 fc) σ H Q := by
  obtain ⟨B, ρ, fs, g, r0, ρ', e, k⟩ := q
  obtain ⟨x, ρ1, e1, e2⟩ := M.bind_ok e
  obtain ⟨y, ρ2, e3, e4⟩ := M.bind_ok e2
  cases y with
  | bor i => cases e4
  | lent _ _ _ => cases e4
  | own sy =>
  cases sy with
  | ml _ _ => cases e4
  | md _ _ => cases e4
  | mr _ _ => cases e4
  | ob _ _ _ _ => cases e4
  | ex _ _ => cases e4
  | fd _ => cases e4
  | hl _ => cases e4
  | tp _ => cases e4
  | p d =>
  obtain ⟨t, ρ3, e5, e6⟩ := M.bind_ok e4
  obtain ⟨z, ρ4, e7, e8⟩ := M.bind_ok e5
  split at e8
  · rename_i t' ev
    cases e8
    refine ⟨B, ρ, fs, g, x, ρ1, e1, fun v B1 H1 fs1 T1 fr1 g1 ok1 => ⟨B1, ρ1, fs1, g1, .own (.p d), ρ2, e3, fun u B2 H2 fs2 T2 fr2 g2 ok2 => ?_⟩⟩
    have n1 := ok1.off
    have ok1' := ok1.keep (fs' := fs2) fr2 n1 fun a h => Or.inl h
    have hT2 : T2 = [] := ok2.1.2
    subst hT2
    have nd : [T1, ([] : List Addr)].flatten.Nodup := by simpa using ok1.nodup
    have frA : ∀ {B3 H3 fs3 T3}, Fr B2 H2 (UnF (InF fs2) [T1, ([] : List Addr)].flatten) B3 H3 (UnF (InF fs3) T3) → Fr B H (InF fs) B3 H3 (UnF (InF fs3) T3) := fun {B3 H3 fs3 T3} fr3 =>
      fr1.trans (((fr2.weak (fun _ h => h) fun a h => Or.inl h).frame T1).trans (fr3.weak (fun a h => by
        rcases h with h | h
        · exact Or.inl (Or.inl h)
        · exact Or.inr (by simpa using h)) fun a h => Or.inl h))
    obtain ⟨x', y', ex, q⟩ := h1 vs0 σ B2 H2 ρ2 fs2 [v, u] [x, .own (.p d)] [T1, []] (fun z H3 => ∃ k, z = .bl k ∧ (if k = true then rdE K vs0 fc σ H3 fun w' H4 => r' u w' H4 Q else Q (.bl false) H3)) g2 ⟨ok1', ok2, True.intro⟩ nd z ρ3 e7
      (fun w B3 H3 fs3 T3 fr3 g3 ok3 => by
        refine ⟨t, (view_ok g3 ok3 ev).bool, ?_⟩
        cases t with
        | false =>
          rw [if_neg (by decide)]
          rw [if_neg (by decide)] at e6
          cases e6
          exact k _ B3 H3 fs3 [] ((frA fr3).weak (fun _ h => h) fun a h => Or.inl (by
            rcases h with h | h
            · exact Or.inl h
            · cases h)) g3 ⟨⟨.bl false, rfl⟩, rfl, fun a ha => nomatch ha⟩
        | true =>
          rw [if_pos rfl]
          rw [if_pos rfl] at e6
          obtain ⟨zz, ρ5, e9, e10⟩ := M.bind_ok e6
          refine ⟨B3, ρ3, fs3, g3, zz, ρ5, e9, fun w' B4 H4 fs4 T4 fr4 g4 ok4 => ?_⟩
          have du : Dp K B4 u d := Dp.mono ((fr3.bb).trans fr4.bb) ok2.1.1
          obtain ⟨x2, y2, ex2, q2⟩ := h2 vs0 σ B4 H4 ρ5 fs4 [u, w'] [.own (.p d), zz] [[], T4] Q g4 ⟨⟨⟨du, rfl⟩, rfl, fun a ha => nomatch ha⟩, ok4, True.intro⟩ (by simpa using ok4.nodup) r0 ρ' e10 (fun v5 B5 H5 fs5 T5 fr5 g5 ok5 => by
            refine k v5 B5 H5 fs5 T5 (((frA fr3).weak (fun _ h => h) fun a h => Or.inl (Or.inl h)).trans (fr4.trans (fr5.weak (fun a h => ?_) fun a h => Or.inl h))) g5 ok5
            rcases h with h | h
            · exact Or.inl h
            · exact Or.inr (by simpa using h))
          cases ex2
          exact q2)
    cases ex
    exact q
  · cases e8
theorem de_chain (ho : OpR X (compareOp o1) r) (ho' : OpR X (compareOp o2) r') (h1 : OpOk X.K (r2 r) op) (h2 : OpOk X.K (r2 r') op') (ha : PE X a (rdE X.K vs0 fa)) (hb : PE X b (rdE X.K vs0 fb)) (hc : PE X c (rdE X.K vs0 fc))
    (hm : lastMarks [o1, o2] [b, c] = false := by with_unfolding_all rfl) : PE X (.Compare a [o1, o2] [b, c] pos) (rdE X.K vs0 (eChain fa fb fc op op')) := PE.imp (pe_chain ho ho' ha hb hc hm) fun σ H Q q => rd_chain h1 h2 q
theorem mtest_of {K : PySem.W.Frag} {f : M Rs} {t : TE} (i : ∀ σ H Q, rdE K vs0 f σ H Q → t σ H Q) {σ : L2.St} {H : Hp} {Q : Bool → Hp → Prop} (q : rdT K vs0 (mTest f) σ H Q) : tTest t σ H Q := by
  obtain ⟨B, ρ, fs, g, b, ρ', e, k⟩ := q
  obtain ⟨r, ρ2, e3, e4⟩ := M.bind_ok e
  split at e4
  · rename_i c' e5
    cases e4
    exact i σ H _ ⟨B, ρ, fs, g, r, ρ', e3, fun v B1 H1 fs1 T fr g1 ok => ⟨b, (view_ok g1 ok e5).bool, k B1 H1 fs1 (fr_drop fr) g1⟩⟩
  · cases e4
theorem dt_cmp (ho : OpR X (compareOp o1) r) (hp : OpOk X.K (r2 r) op) (ha : PE X a (rdE X.K vs0 fa)) (hb : PE X b (rdE X.K vs0 fb)) (hm : behindInMarks o1 b = false) : PT X (.Compare a [o1] [b] pos) (rdT X.K vs0 (mTest (eBin fa fb op))) :=
  PT.imp (pt_cmpR ho ha hb hm) fun _ _ _ q => mtest_of (fun _ _ _ q => rd_bin hp q) q
end
def tyName : D → String
  | .none => "NoneType"
  | .bool _ => "bool"
  | .int _ => "int"
  | .str _ => "str"
  | .list _ => "list"
  | .tuple _ => "tuple"
  | .dict _ => "dict"
def isTy (T : String) (d : D) : Bool := match d with
  | .none => decide (T = "NoneType")
  | .bool _ => decide (T = "bool") || decide (T = "int")
  | .int _ => decide (T = "int")
  | .str _ => decide (T = "str")
  | .list _ => decide (T = "list")
  | .tuple _ => decide (T = "tuple")
  | .dict _ => decide (T = "dict")
def isiOk (T : String) : Bool := ["NoneType", "bool", "int", "str", "list", "tuple", "dict"].all fun n => decide (kitB n T = some ((decide (n = T)) || (decide (n = "bool") && decide (T = "int"))))
theorem isiOk_kit {T : String} (h : isiOk T = true) (d : D) : kitB (tyName d) T = some (isTy T d) := by
  unfold isiOk at h
  simp only [List.all_cons, List.all_nil, Bool.and_eq_true, decide_eq_true_eq] at h
  obtain ⟨h1, h2, h3, h4, h5, h6, h7, _⟩ := h
  have sw : ∀ s : String, decide (s = T) = decide (T = s) := fun s => decide_eq_decide.mpr ⟨Eq.symm, Eq.symm⟩
  cases d with
  | none => simp only [tyName, isTy]; rw [h1, sw]; simp
  | bool b => simp only [tyName, isTy]; rw [h2, sw]; simp
  | int b => simp only [tyName, isTy]; rw [h3, sw]; simp
  | str b => simp only [tyName, isTy]; rw [h4, sw]; simp
  | list b => simp only [tyName, isTy]; rw [h5, sw]; simp
  | tuple b => simp only [tyName, isTy]; rw [h6, sw]; simp
  | dict b => simp only [tyName, isTy]; rw [h7, sw]; simp
def oIsi (T : String) : Rs → M Rs := fun r ρ => match r.view ρ with
  | some d => some (.ok (.own (.p (.bool (isTy T d)))) ρ)
  | none => none
theorem tyx_of {K : PySem.W.Frag} {H : Hp} {v : V} {d : D} (h : Dp K H v d) : TyX K H v (.type (tyName d)) := by
  cases h with
  | non => exact .base .non
  | bl b => exact .base (.bl b)
  | int i => exact .base (.int i)
  | str x => exact .base (.str x)
  | lst h1 h2 =>
    rcases h1 with (h1 | ⟨o, h1⟩) | ⟨o, its, n, h1, h2, _⟩
    · exact .base (.lst h1)
    · exact .base (.frz h1)
    · exact .kList h1 h2
  | tup h1 h2 =>
    rcases h1 with (h1 | ⟨o, h1⟩) | ⟨o, its, n, h1, h2, _⟩
    · exact .base (.tup h1)
    · exact .fTuple h1
    · exact .kTuple h1 h2
theorem de_isi {X : Cx} {vs0 : List V} {T : String} {t : Str} {e : Expr} {fe : M Rs} {p p2 pos : Pos} (hT : isiOk T = true) (hg : Gl X "isinstance") (hm : X.mg "isinstance" = none) (hgt : Gl X t) (hmt : X.mg t = none) (hv : bootBuiltins t = some (.type T)) (he : PE X e (rdE X.K vs0 fe))
    (hvi : bootBuiltins "isinstance" = some (.builtin "isinstance") := by decide +kernel) (hn : t ≠ "__name__" := by decide) (hd : (t == ("__debug__" : Str)) = false := by decide)
    (hs : starEach [e, .Name t p2] X.env = (false, eval e X.env) :: starEach [.Name t p2] X.env := by rfl) (hpl : (backTo pos (starEach [.Name t p2] X.env)).any (·.1) = false := by rfl) :
    PE X (.Call (.Name "isinstance" p) [e, .Name t p2] [] pos) (rdE X.K vs0 (M.bind fe (oIsi T))) :=
  PE.imp (pe_callB call_isi hg hm hvi (pa_cons he (pa_cons (pe_bltn (v := .ty T) hgt hmt hv rfl hn hd) pa_nil) hs) (by decide) (by decide) hs hpl) fun σ H Q q => by
    obtain ⟨B, ρ, fs, g, r, ρ', e1, k⟩ := q
    obtain ⟨r1, ρ1, e2, e3⟩ := M.bind_ok e1
    unfold oIsi at e3
    split at e3
    · rename_i d e4
      cases e3
      refine ⟨B, ρ, fs, g, r1, ρ', e2, fun v B1 H1 fs1 T1 fr1 g1 ok1 => ?_⟩
      refine ⟨v, .ty T, .type (tyName d), .type T, isTy T d, rfl, .ty T, tyx_of ((view_ok g1 ok1 e4).dp g1.ext), kit_ty (isiOk_kit hT d), ?_⟩
      exact k _ B1 H1 fs1 [] ((fr_drop fr1).weak (fun _ h => h) fun a h => Or.inl (by
        rcases h with h | h
        · exact h
        · cases h)) g1 ⟨⟨.bl _, rfl⟩, rfl, fun a ha => nomatch ha⟩
    · cases e3
structure Callee (P : Program) (w : World) (K : PySem.W.Frag) (mg : Str → Option Value) (base : Heap) (k : Nat) (x : Str) (n : Nat) (F : List Sl → Option (Sl × List Sl)) : Prop where
  ex : ∃ f fd ps, FnOk P w K mg base CX0 k f fd ps (spD K n F) ∧ mg x = some (.ref f) ∧ PySem.W.keepIn K (.ref f) = true ∧ Binds K fd ps []
section
variable {X : Cx} {vs0 : List V} {k n : Nat} {F : List Sl → Option (Sl × List Sl)} {x : Str} {p pos : Pos} {e : Expr} {es : List Expr} {fa : M (List Rs)}
theorem de_use (C : Callee X.prog X.w X.K X.mg X.base k x n F) (hr : Room k X.A) (hg : Gl X x) (ha : PA X (e :: es) (rdA X.K vs0 fa)) (hdb : (x == ("__debug__" : Str)) = false := by decide)
    (he : starEach (e :: es) X.env = (false, eval e X.env) :: starEach es X.env := by rfl) (hpl : (backTo pos (starEach es X.env)).any (·.1) = false := by rfl) :
    PE X (.Call (.Name x p) (e :: es) [] pos) (rdE X.K vs0 (M.bind fa (opCall n F))) := by
  obtain ⟨f, fd, ps, Fn, hm, hk, hb⟩ := C.ex
  exact de_call Fn hr hg hm hk hb ha hdb he hpl
theorem de_use0 (C : Callee X.prog X.w X.K X.mg X.base k x n F) (hr : Room k X.A) (hg : Gl X x) (hdb : (x == ("__debug__" : Str)) = false := by decide) :
    PE X (.Call (.Name x p) [] [] pos) (rdE X.K vs0 (M.bind aNil (opCall n F))) := by
  obtain ⟨f, fd, ps, Fn, hm, hk, hb⟩ := C.ex
  exact de_call0 Fn hr hg hm hk hb hdb
end
end Pd
set_option Elab.async false
set_option linter.all false
set_option maxRecDepth 100000
set_option maxHeartbeats 1000000
namespace Pd
open PySem PySem.Spec PyProof.Rows L2
section
variable {K : PySem.W.Frag} {vs0 : List V} {B H : Hp} {σ : L2.St} {ρ : Env} {fs : Nat → List Addr}
theorem Good.upd {j : Nat} {a : Addr} {s s' : Sl} {v : V} {o : HO} (g : Good K vs0 B H σ ρ fs) (e : ρ[j]? = some (some s)) (hf : fs j = [a]) (hv : σ[j]? = some (some v)) (own : Own K B (upd H a o) v s' [a]) (ht : s'.tag = s.tag) :
    Good K vs0 B (upd H a o) σ (ρ.set j (some s')) fs := by
  have hj : j < ρ.length := (List.getElem?_eq_some_iff.mp e).1
  have ha : a ∈ fs j := by rw [hf]; simp
  refine ⟨fun b u q => ?_, by simp [g.len], fun i t h => ?_, fun i h => ?_, g.dis, g.out⟩
  · rw [upd_ne (ne_of_none q (g.out j a ha))]
    exact g.ext b u q
  · by_cases q : i = j
    · subst q
      rw [List.getElem?_set_self hj] at h
      cases h
      rw [hf]
      refine ⟨v, hv, own, fun k hk => ?_⟩
      obtain ⟨v', h1, _, h3⟩ := g.at_ i s e
      rw [hv] at h1
      cases h1
      exact h3 k (ht ▸ hk)
    · rw [List.getElem?_set_ne (Ne.symm q)] at h
      obtain ⟨v', h1, h2, h3⟩ := g.at_ i t h
      refine ⟨v', h1, h2.keep (Same.refl B) fun b hb => upd_ne fun z => q ?_, h3⟩
      subst z
      exact g.dis i j b hb ha
  · by_cases q : i = j
    · subst q
      exact (h s' (List.getElem?_set_self hj)).elim
    · refine g.emp i fun t z => h t ?_
      rw [List.getElem?_set_ne (Ne.symm q)]
      exact z
theorem Fr.updIn {a : Addr} {o : HO} {F : Addr → Prop} (h : F a) : Fr B H F B (L2.upd H a o) F := Fr.mut h
end
def setSub (o i : Rs) (d : D) : M Fl := fun ρ => match o with
  | .bor j => match ρ[j]? with
    | some (some (.ml t l)) => match i.view ρ with
      | some (.int k) => match ixN l.length k with
        | some q => some (.ok .nx (ρ.set j (some (.ml t (l.set q d)))))
        | none => none
      | _ => none
    | _ => none
  | _ => none
def gSub (f fo fi : M Rs) : M Fl := M.bind f fun r => M.bind (freezeR r) fun d => M.bind fo fun o => M.bind fi fun i => setSub o i d
theorem ds_sub {X : Cx} {vs0 : List V} {e o i : Expr} {f fo fi : M Rs} {pos tpos : Pos} (he : PE X e (rdE X.K vs0 f)) (ho : PE X o (rdE X.K vs0 fo)) (hi : PE X i (rdE X.K vs0 fi))
    (ha : ∀ v, assign (.Subscript o i tpos) X.env v = (do
      let ov ← holding [v] (eval o X.env)
      let iv ← holding [v, ov] (eval i X.env)
      standAt tpos
      holding [v, ov, iv] (setItem ov iv v)
      release [v, ov, iv] []) := by intro _; rfl)
    (hs : swapsWithSole [.Subscript o i tpos] e pos.line X.env = pure false := by rfl) (hw : swappedStores [.Subscript o i tpos] e X.env = pure none := by rfl)
    (h1 : (assignEach [.Subscript o i tpos] X.env).map (·.2) = [assign (.Subscript o i tpos) X.env] := by rfl) :
    PS X (.Assign [.Subscript o i tpos] e pos) (rdS X.K vs0 (gSub f fo fi)) := PS.imp (ps_asg he (pg_sub ho hi set_list ha) hs hw h1) fun D σ H q => by
  obtain ⟨B, ρ, fs, gd, fl, ρ', e1, k⟩ := q
  obtain ⟨r, ρ1, e2, e3⟩ := M.bind_ok e1
  obtain ⟨d, ρ2, e4, e5⟩ := M.bind_ok e3
  obtain ⟨ro, ρ3, e6, e7⟩ := M.bind_ok e5
  obtain ⟨ri, ρ4, e8, e9⟩ := M.bind_ok e7
  refine ⟨B, ρ, fs, gd, r, ρ1, e2, fun v B1 H1 fs1 T1 fr1 g1 ok1 => ?_⟩
  obtain ⟨B2, fs2, fr2, g2, d2⟩ := freezeR_ok g1 ok1 e4
  refine ⟨B2, ρ2, fs2, g2, ro, ρ3, e6, fun u B3 H3 fs3 T3 fr3 g3 ok3 => ⟨B3, ρ3, fs3, g3, ri, ρ4, e8, fun w B4 H4 fs4 T4 fr4 g4 ok4 => ?_⟩⟩
  unfold setSub at e9
  cases ro with
  | own s => cases e9
  | lent _ _ _ => cases e9
  | bor j =>
  dsimp only at e9
  split at e9
  · rename_i t l e10
    split at e9
    · rename_i kk e11
      split at e9
      · rename_i q e12
        cases e9
        obtain ⟨v', q1, ⟨a, xs, rfl, hfs, q2, q3⟩, _⟩ := g4.at_ j _ e10
        obtain ⟨z1, z2⟩ := ok3
        rw [q1] at z1
        cases z1
        refine ⟨a, xs, kk, q, rfl, (view_ok g4 ok4 e11).int, q2, by rw [DpAll.length q3]; exact e12, ?_⟩
        have dv : Dp X.K B4 v d := Dp.mono ((fr3.bb).trans fr4.bb) d2
        have g5 := g4.upd (o := HO.lst (xs.set q v)) (s' := .ml t (l.set q d)) e10 hfs q1 ⟨a, _, rfl, rfl, upd_same, DpAll.set q q3 dv⟩ rfl
        refine k σ B4 _ fs4 ((fr1.trans fr2).trans (((fr_drop fr3).trans (fr_drop fr4)).trans (Fr.updIn ⟨j, by rw [hfs]; simp⟩))) g5
      · cases e9
    · cases e9
  · cases e9
def kindOk (T : String) : Option D → Bool
  | some (.list _) => decide (T = "list")
  | some (.str _) => decide (T = "str")
  | _ => false
def eMeth (T : String) (fo : M Rs) (fa : M (List Rs)) (op : List Rs → M Rs) : M Rs := M.bind fo fun o ρ => if kindOk T (o.view ρ) = true then M.bind fa (fun rs => op (o :: rs)) ρ else none
def rM (r : V → List V → Hp → VK → Prop) : List V → Hp → VK → Prop := fun vs H Q => ∃ x xs, vs = x :: xs ∧ r x xs H Q
section
variable {X : Cx} {vs0 : List V} {K : PySem.W.Frag}
theorem rd_meth {T : String} {r : V → List V → Hp → VK → Prop} {op : List Rs → M Rs} {fo : M Rs} {fa : M (List Rs)} (ho : OpOk K (rM r) op) {σ : L2.St} {H : Hp} {Q : VK} (q : rdE K vs0 (eMeth T fo fa op) σ H Q) :
    tBM K T r (rdE K vs0 fo) (rdA K vs0 fa) σ H Q := by
  obtain ⟨B, ρ, fs, g, r', ρ', e1, k⟩ := q
  obtain ⟨o, ρ1, e2, e3⟩ := M.bind_ok e1
  split at e3
  · rename_i hk
    obtain ⟨rs, ρ2, e4, e5⟩ := M.bind_ok e3
    refine ⟨B, ρ, fs, g, o, ρ1, e2, fun v B1 H1 fs1 T1 fr1 g1 ok1 => ⟨?_, B1, ρ1, fs1, g1, rs, ρ2, e4, fun vs B2 H2 fs2 Ts fr2 g2 ok2 nd2 => ?_⟩⟩
    · cases ev : o.view ρ1 with
      | none => rw [ev] at hk; cases hk
      | some d =>
        rw [ev] at hk
        have sh := view_ok g1 ok1 ev
        cases d with
        | list l =>
          obtain ⟨a, xs, rfl, s1, _⟩ := sh
          have : T = "list" := of_decide_eq_true hk
          exact Or.inl ⟨this, xs, s1⟩
        | str z =>
          rw [sh.str]
          show T = "str"
          exact of_decide_eq_true hk
        | none => cases hk
        | bool b => cases hk
        | int b => cases hk
        | tuple b => cases hk
        | dict b => cases hk
    · have n1 : ∀ a ∈ T1, ¬ InF fs1 a := ok1.off
      obtain ⟨x, xs, ex, q⟩ := ho vs0 σ B2 H2 ρ2 fs2 (v :: vs) (o :: rs) (T1 :: Ts) Q g2 ⟨ok1.keep fr2 n1 fun a h => Or.inl h, ok2⟩ (by
        rw [List.flatten_cons, List.nodup_append]
        refine ⟨ok1.nodup, nd2, fun a ha b hb e => ?_⟩
        subst e
        rcases fr2.own a (Or.inr hb) with q | q
        · exact n1 a ha q
        · exact ok1.live a ha q) r' ρ' e5 fun v4 B4 H4 fs4 T4 fr4 g4 ok4 => k v4 B4 H4 fs4 T4 (fr1.trans (((fr2.frame T1).weak (fun a h => h) fun a h => by
          rcases h with h | h
          · exact Or.inl (Or.inl (Or.inl h))
          · rw [List.flatten_cons, List.mem_append] at h
            rcases h with h | h
            · exact Or.inl (Or.inr h)
            · exact Or.inl (Or.inl (Or.inr h))).trans fr4)) g4 ok4
      cases ex
      exact q
  · cases e3
end
def opL1 (f : List D → List D → Option (D × List D)) : List Rs → M Rs := fun rs => match rs with
  | .bor j :: rest => M.bind (freezeAll rest) fun ds ρ => match ρ[j]? with
    | some (some (.ml t l)) => match f l ds with
      | some (d, l') => some (.ok (.own (.p d)) (ρ.set j (some (.ml t l'))))
      | none => none
    | _ => none
  | _ => M.fail
theorem opL1_ok {K : PySem.W.Frag} {r : V → List V → Hp → VK → Prop} {f : List D → List D → Option (D × List D)}
    (h : ∀ B H a xs l vs ds d l' Q, Same B H → H a = some (.lst xs) → DpAll K B xs l → DpAll K B vs ds → f l ds = some (d, l') → (∀ v xs', Dp K B v d → DpAll K B xs' l' → Q v (upd H a (.lst xs'))) → r (.ref a) vs H Q) : OpOk K (rM r) (opL1 f) := by
  intro vs0 σ B H ρ fs vs rs Ts Q g ok nd r' ρ' e k
  unfold opL1 at e
  split at e
  · rename_i j rest
    obtain ⟨ds, ρ1, e1, e2⟩ := M.bind_ok e
    match vs, Ts, ok with
    | v :: vs, T :: Ts, ok =>
      rw [List.flatten_cons, List.nodup_append] at nd
      obtain ⟨okj, okr⟩ := ok
      obtain ⟨hv, hT⟩ := okj
      obtain ⟨B1, fs1, fr1, g1, d1⟩ := freezeAll_ok g okr nd.2.1 e1
      split at e2
      · rename_i t l e3
        split at e2
        · rename_i d l' e4
          cases e2
          obtain ⟨v', q1, ⟨a, xs, rfl, hfs, q2, q3⟩, _⟩ := g1.at_ j _ e3
          rw [hv] at q1
          cases q1
          refine ⟨_, vs, rfl, h B1 H a xs l vs ds d l' Q g1.ext q2 q3 d1 e4 fun v2 xs' hd hx => ?_⟩
          have g5 := g1.upd (o := HO.lst xs') (s' := .ml t l') e3 hfs hv ⟨a, _, rfl, rfl, upd_same, hx⟩ rfl
          refine k v2 B1 _ fs1 [] ((fr1.weak (fun b h => ?_) fun b h => Or.inl h).trans ((Fr.updIn ⟨j, by rw [hfs]; simp⟩).weak (fun _ h => h) fun b h => Or.inl ?_)) g5 ⟨⟨hd, rfl⟩, rfl, fun a ha => nomatch ha⟩
          · rcases h with h | h
            · exact Or.inl h
            · exact Or.inr (by rw [List.flatten_cons]; exact List.mem_append_right _ h)
          · rcases h with h | h
            · exact h
            · cases h
        · cases e2
      · cases e2
  · cases e
def fAppend : List D → List D → Option (D × List D) := fun l ds => match ds with
  | [d] => if l.length < sizeLine then some (.none, l ++ [d]) else none
  | _ => none
def fPop1 : List D → List D → Option (D × List D) := fun l ds => match ds with
  | [.int i] => if -(2 ^ 63) ≤ i ∧ i < 2 ^ 63 then match ixN l.length i with
      | some k => match l[k]? with
        | some d => some (d, l.eraseIdx k)
        | none => none
      | none => none
    else none
  | _ => none
def o_append1 := opL1 fAppend
def o_pop1 := opL1 fPop1
section
variable {X : Cx} {vs0 : List V} {K : PySem.W.Frag}
theorem o_append1_ok : OpOk K (rM rAppend) o_append1 := opL1_ok fun B H a xs l vs ds d l' Q e hH hx hd hf k => by
  unfold fAppend at hf
  split at hf
  · split at hf
    · rename_i d0 hl
      cases hf
      cases hd with
      | cons h1 h2 =>
        cases h2
        exact ⟨a, xs, _, rfl, rfl, hH, by rw [DpAll.length hx]; exact hl, k _ _ .non (DpAll.append hx (DpAll.one h1))⟩
    · cases hf
  · cases hf
theorem o_pop1_ok : OpOk K (rM rPopAt) o_pop1 := opL1_ok fun B H a xs l vs ds d l' Q e hH hx hd hf k => by
  unfold fPop1 at hf
  split at hf
  · split at hf
    · rename_i i hi
      split at hf
      · rename_i q hq
        split at hf
        · rename_i d0 hl
          cases hf
          cases hd with
          | cons h1 h2 =>
            cases h2
            cases h1
            obtain ⟨v, q1, q2⟩ := DpAll.get hx hl
            obtain ⟨s1, s2, s3, s4⟩ := ixN_seq hq
            exact ⟨a, xs, i, q, v, rfl, rfl, hH, hi.1, hi.2, by rw [DpAll.length hx]; exact s1, q1, k _ _ q2 (DpAll.erase q hx)⟩
        · cases hf
      · cases hf
    · cases hf
  · cases hf
variable {o e : Expr} {es : List Expr} {fo : M Rs} {fa : M (List Rs)} {apos cpos : Pos}
theorem de_m_append1 (ho : PE X o (rdE X.K vs0 fo)) (ha : PA X [e] (rdA X.K vs0 fa))
    (hbase : attributeBase o "append" X.env (eval o X.env) = eval o X.env := by rfl)
    (hfew : ((backTo cpos (starEach [e] X.env)).all (fun x => !x.1) && (backToKw cpos (keywordEach [] X.env)).all (fun x => x.1.isSome)
      && decide ([e].length + ([] : List Keyword).length + (if ([] : List Keyword).isEmpty then 0 else 1) < 30)) = true := by rfl)
    (hline : (apos.endLine == cpos.line) = true := by rfl) (hs : starEach [e] X.env = (false, eval e X.env) :: starEach [] X.env := by rfl) (hplain : (backTo cpos (starEach [] X.env)).any (·.1) = false := by rfl) :
    PE X (.Call (.Attribute o "append" apos) [e] [] cpos) (rdE X.K vs0 (eMeth "list" fo fa o_append1)) :=
  PE.imp (pe_bm PySem.F.plainAttrs_list PySem.F.slot_list_append PySem.F.type_list_append mt_append ho ha hbase hfew hline hs hplain) fun σ H Q q => rd_meth o_append1_ok q
theorem de_m_pop1 (ho : PE X o (rdE X.K vs0 fo)) (ha : PA X [e] (rdA X.K vs0 fa))
    (hbase : attributeBase o "pop" X.env (eval o X.env) = eval o X.env := by rfl)
    (hfew : ((backTo cpos (starEach [e] X.env)).all (fun x => !x.1) && (backToKw cpos (keywordEach [] X.env)).all (fun x => x.1.isSome)
      && decide ([e].length + ([] : List Keyword).length + (if ([] : List Keyword).isEmpty then 0 else 1) < 30)) = true := by rfl)
    (hline : (apos.endLine == cpos.line) = true := by rfl) (hs : starEach [e] X.env = (false, eval e X.env) :: starEach [] X.env := by rfl) (hplain : (backTo cpos (starEach [] X.env)).any (·.1) = false := by rfl) :
    PE X (.Call (.Attribute o "pop" apos) [e] [] cpos) (rdE X.K vs0 (eMeth "list" fo fa o_pop1)) :=
  PE.imp (pe_bm PySem.F.plainAttrs_list PySem.F.slot_list_pop PySem.F.type_list_pop mt_popAt ho ha hbase hfew hline hs hplain) fun σ H Q q => rd_meth o_pop1_ok q
end
theorem law_sp {m : List Sl → Option (Sl × List Sl)} (h : ∀ ns : List Int, ns.length ≤ 63 → ∃ ss', m [.p (.list (ns.map .int))] = some (.p (.bool true), ss')) {K : PySem.W.Frag} {H : Hp} {a : Addr} {ns : List Int} {E : XK} (hl : ns.length ≤ 63) (hS : SqL K H a (ns.map V.int)) :
    spD K 1 m [.ref a] H (fun v _ => v = .bl true) E := by
  obtain ⟨ss', e⟩ := h ns hl
  refine ⟨rfl, H, [.p (.list (ns.map .int))], fun _ => [], ⟨Same.refl H, rfl, fun i s q => ?_, fun _ _ => rfl, (fun i j a h => nomatch h), (fun i a h => nomatch h)⟩, fun s hs => ?_, _, ss', e, fun v B' H' fs' T fr g ok => ?_⟩
  · cases i with
    | zero => cases q; exact ⟨.ref a, rfl, ⟨.lst hS (DpAll.of_ints ns), rfl⟩, fun k h => nomatch h⟩
    | succ i => simp at q
  · simp at hs; subst hs; rfl
  · have hd := ok.1.1
    cases hd
    rfl
end Pd
set_option Elab.async false
set_option linter.all false
set_option maxRecDepth 100000
set_option maxHeartbeats 1000000
namespace Pd
namespace B
open PySem PySem.Spec PyProof.Rows L2
def Ev {α : Type} (f : M α) (ρ : Env) (Q : α → Env → Prop) : Prop := ∃ a ρ', f ρ = some (.ok a ρ') ∧ Q a ρ'
def Sp (F : List Sl → Option (Sl × List Sl)) (ss : List Sl) (Q : Sl → List Sl → Prop) : Prop := ∃ r ss', F ss = some (r, ss') ∧ Q r ss'
theorem Ev.mono {α : Type} {f : M α} {ρ : Env} {Q Q' : α → Env → Prop} (h : Ev f ρ Q) (i : ∀ a ρ', Q a ρ' → Q' a ρ') : Ev f ρ Q' := by
  obtain ⟨a, ρ', e, q⟩ := h
  exact ⟨a, ρ', e, i a ρ' q⟩
theorem Sp.mono {F : List Sl → Option (Sl × List Sl)} {ss : List Sl} {Q Q' : Sl → List Sl → Prop} (h : Sp F ss Q) (i : ∀ a ρ', Q a ρ' → Q' a ρ') : Sp F ss Q' := by
  obtain ⟨a, ρ', e, q⟩ := h
  exact ⟨a, ρ', e, i a ρ' q⟩
theorem sp_iff {F : List Sl → Option (Sl × List Sl)} {ss ss' : List Sl} {r : Sl} (h : Sp F ss fun a b => a = r ∧ b = ss') (Q : Sl → List Sl → Prop) : Sp F ss Q ↔ Q r ss' := by
  obtain ⟨a, b, e, rfl, rfl⟩ := h
  constructor
  · rintro ⟨a', b', e', q⟩
    rw [e] at e'
    cases e'
    exact q
  · intro q
    exact ⟨_, _, e, q⟩
section
variable {α β : Type} {ρ ρ' : Env}
@[simp ↓] theorem ev_bind {f : M α} {g : α → M β} {Q : β → Env → Prop} : Ev (M.bind f g) ρ Q ↔ Ev f ρ fun a ρ1 => Ev (g a) ρ1 Q := by
  constructor
  · rintro ⟨b, ρ2, e, q⟩
    obtain ⟨a, ρ1, e1, e2⟩ := M.bind_ok e
    exact ⟨a, ρ1, e1, b, ρ2, e2, q⟩
  · rintro ⟨a, ρ1, e1, b, ρ2, e2, q⟩
    refine ⟨b, ρ2, ?_, q⟩
    unfold M.bind
    rw [e1]
    exact e2
@[simp ↓] theorem ev_ret {a : α} {Q : α → Env → Prop} : Ev (M.ret a) ρ Q ↔ Q a ρ := by
  constructor
  · rintro ⟨a', ρ', e, q⟩; cases e; exact q
  · intro q; exact ⟨a, ρ, rfl, q⟩
@[simp ↓] theorem ev_fail {Q : α → Env → Prop} : Ev M.fail ρ Q ↔ False := by
  constructor
  · rintro ⟨a', ρ', e, q⟩; cases e
  · intro q; exact q.elim
@[simp ↓] theorem ev_c {d : D} {Q : Rs → Env → Prop} : Ev (eC d) ρ Q ↔ Q (.own (.p d)) ρ := by
  constructor
  · rintro ⟨a', ρ', e, q⟩; cases e; exact q
  · intro q; exact ⟨_, ρ, rfl, q⟩
@[simp ↓] theorem ev_bin {fa fb : M Rs} {op : List Rs → M Rs} {Q : Rs → Env → Prop} : Ev (eBin fa fb op) ρ Q ↔ Ev fa ρ fun a ρ1 => Ev fb ρ1 fun b ρ2 => Ev (op [a, b]) ρ2 Q := by
  unfold eBin aCons aNil
  simp only [ev_bind, ev_ret]
@[simp ↓] theorem ev_un {fa : M Rs} {op : List Rs → M Rs} {Q : Rs → Env → Prop} : Ev (eUn fa op) ρ Q ↔ Ev fa ρ fun a ρ1 => Ev (op [a]) ρ1 Q := by
  unfold eUn aCons aNil
  simp only [ev_bind, ev_ret]
@[simp ↓] theorem ev_aNil {Q : List Rs → Env → Prop} : Ev aNil ρ Q ↔ Q [] ρ := ev_ret
@[simp ↓] theorem ev_aCons {f : M Rs} {g : M (List Rs)} {Q : List Rs → Env → Prop} : Ev (aCons f g) ρ Q ↔ Ev f ρ fun a ρ1 => Ev g ρ1 fun r ρ2 => Q (a :: r) ρ2 := by
  unfold aCons
  simp only [ev_bind, ev_ret]
def slotQ (i : Nat) (ρ : Env) (Q : Rs → Env → Prop) : Option (Option Sl) → Prop
  | some (some (.p d)) => Q (.own (.p d)) ρ
  | some (some (.ml _ _)) => Q (.bor i) ρ
  | some (some (.md _ _)) => Q (.bor i) ρ
  | some (some (.mr _ _)) => Q (.bor i) ρ
  | some (some (.ob _ _ _ _)) => Q (.bor i) ρ
  | some (some (.ex c f)) => Q (.own (.ex c f)) ρ
  | some (some (.fd l)) => Q (.own (.fd l)) ρ
  | some (some (.tp _)) => Q (.bor i) ρ
  | _ => False
@[simp] theorem slotQ_p {i : Nat} {Q : Rs → Env → Prop} {d : D} : slotQ i ρ Q (some (some (.p d))) = Q (.own (.p d)) ρ := rfl
@[simp] theorem slotQ_ml {i : Nat} {Q : Rs → Env → Prop} {t : Option Nat} {d : List D} : slotQ i ρ Q (some (some (.ml t d))) = Q (.bor i) ρ := rfl
@[simp] theorem slotQ_md {i : Nat} {Q : Rs → Env → Prop} {t : Option Nat} {d : List (Key × D)} : slotQ i ρ Q (some (some (.md t d))) = Q (.bor i) ρ := rfl
@[simp] theorem slotQ_mr {i : Nat} {Q : Rs → Env → Prop} {t : Option Nat} {d : List Sl} : slotQ i ρ Q (some (some (.mr t d))) = Q (.bor i) ρ := rfl
@[simp] theorem slotQ_ob {i : Nat} {Q : Rs → Env → Prop} {t : Option Nat} {c : Str} {ns : List Str} {d : List Sl} : slotQ i ρ Q (some (some (.ob t c ns d))) = Q (.bor i) ρ := rfl
@[simp] theorem slotQ_tp {i : Nat} {Q : Rs → Env → Prop} {d : List Sl} : slotQ i ρ Q (some (some (.tp d))) = Q (.bor i) ρ := rfl
@[simp] theorem slotQ_fd {i : Nat} {Q : Rs → Env → Prop} {l : List (Key × D)} : slotQ i ρ Q (some (some (.fd l))) = Q (.own (.fd l)) ρ := rfl
@[simp] theorem slotQ_ex {i : Nat} {Q : Rs → Env → Prop} {c : Str} {f : Option (Str × D)} : slotQ i ρ Q (some (some (.ex c f))) = Q (.own (.ex c f)) ρ := rfl
@[simp ↓] theorem ev_name {i : Nat} {Q : Rs → Env → Prop} : Ev (eName i) ρ Q ↔ slotQ i ρ Q ρ[i]? := by
  constructor
  · rintro ⟨a', ρ', e, q⟩
    unfold eName at e
    split at e
    · rename_i h; cases e; rw [h]; exact q
    · rename_i h; cases e; rw [h]; exact q
    · rename_i h; cases e; rw [h]; exact q
    · cases e
    · rename_i s hn hx hf hh h
      cases e; rw [h]
      cases s with
      | p d => exact (hn d rfl).elim
      | ex c f => exact (hx c f rfl).elim
      | fd l => exact (hf l rfl).elim
      | hl t => exact (hh t rfl).elim
      | tp l => exact q
      | ml t l => exact q
      | md t l => exact q
      | mr t l => exact q
      | ob t c ns l => exact q
    · cases e
  · intro q
    unfold slotQ at q
    split at q
    · rename_i h; exact ⟨_, ρ, by unfold eName; rw [h], q⟩
    · rename_i h; exact ⟨_, ρ, by unfold eName; rw [h], q⟩
    · rename_i h; exact ⟨_, ρ, by unfold eName; rw [h], q⟩
    · rename_i h; exact ⟨_, ρ, by unfold eName; rw [h], q⟩
    · rename_i h; exact ⟨_, ρ, by unfold eName; rw [h], q⟩
    · rename_i h; exact ⟨_, ρ, by unfold eName; rw [h], q⟩
    · rename_i h; exact ⟨_, ρ, by unfold eName; rw [h], q⟩
    · rename_i h; exact ⟨_, ρ, by unfold eName; rw [h], q⟩
    · exact q.elim
@[simp] theorem view_p {d : D} : (Rs.own (.p d)).view ρ = some d := rfl
@[simp] theorem view_ml {t : Option Nat} {l : List D} : (Rs.own (.ml t l)).view ρ = some (.list l) := rfl
def slotV : Option (Option Sl) → Option D
  | some (some (.ml _ l)) => some (.list l)
  | some (some (.p d)) => some d
  | _ => none
@[simp] theorem slotV_ml {t : Option Nat} {l : List D} : slotV (some (some (.ml t l))) = some (.list l) := rfl
@[simp] theorem slotV_p {d : D} : slotV (some (some (.p d))) = some d := rfl
@[simp] theorem view_bor {i : Nat} : (Rs.bor i).view ρ = slotV ρ[i]? := by
  unfold Rs.view slotV
  dsimp only
  all_goals (split <;> simp_all)
@[simp] theorem viewAll_nil : viewAll [] ρ = some [] := rfl
@[simp] theorem viewAll_cons {r : Rs} {rs : List Rs} : viewAll (r :: rs) ρ = (r.view ρ).bind fun d => (viewAll rs ρ).bind fun ds => some (d :: ds) := by
  rw [viewAll]
  cases r.view ρ with
  | none => rfl
  | some d =>
    cases viewAll rs ρ with
    | none => rfl
    | some ds => rfl
def resQ (ρ : Env) (Q : Rs → Env → Prop) : Option Rd' → Prop
  | some res => Q res.rs ρ
  | none => False
@[simp] theorem resQ_pd {Q : Rs → Env → Prop} {d : D} : resQ ρ Q (some (.pd d)) = Q (.own (.p d)) ρ := rfl
@[simp] theorem resQ_nl {Q : Rs → Env → Prop} {l : List D} : resQ ρ Q (some (.nl l)) = Q (.own (.ml none l)) ρ := rfl
@[simp] theorem resQ_none {Q : Rs → Env → Prop} : resQ ρ Q none = False := rfl
@[simp] theorem resQ_ite {Q : Rs → Env → Prop} {c : Prop} [Decidable c] {o : Option Rd'} : resQ ρ Q (if c then o else none) ↔ c ∧ resQ ρ Q o := by
  split
  · rename_i h; simp [h]
  · rename_i h; simp [h, resQ]
@[simp ↓] theorem ev_opG {pf : List D → Option Rd'} {rs : List Rs} {Q : Rs → Env → Prop} : Ev (opG pf rs) ρ Q ↔ resQ ρ Q ((viewAll rs ρ).bind pf) := by
  constructor
  · rintro ⟨a', ρ', e, q⟩
    unfold opG at e
    split at e
    · rename_i ds h
      split at e
      · rename_i res h2; cases e; rw [h, Option.bind_some, h2]; exact q
      · cases e
    · cases e
  · intro q
    unfold resQ at q
    split at q
    · rename_i res h
      rw [Option.bind_eq_some_iff] at h
      obtain ⟨ds, h, h2⟩ := h
      exact ⟨_, ρ, by unfold opG; simp only [h, h2], q⟩
    · exact q.elim
@[simp ↓] theorem ev_opF {pf : List D → Option Rd'} {rs : List Rs} {Q : Rs → Env → Prop} : Ev (opF pf rs) ρ Q ↔ Ev (freezeAll rs) ρ fun ds ρ1 => resQ ρ1 Q (pf ds) := by
  unfold opF
  rw [ev_bind]
  constructor
  · rintro ⟨ds, ρ1, e, b, ρ2, e2, q⟩
    refine ⟨ds, ρ1, e, ?_⟩
    dsimp only at e2
    split at e2
    · rename_i res h; cases e2; rw [h]; exact q
    · cases e2
  · rintro ⟨ds, ρ1, e, q⟩
    unfold resQ at q
    split at q
    · rename_i res h
      exact ⟨ds, ρ1, e, _, ρ1, by dsimp only; rw [h], q⟩
    · exact q.elim
@[simp ↓] theorem ev_freezeAll_nil {Q : List D → Env → Prop} : Ev (freezeAll []) ρ Q ↔ Q [] ρ := ev_ret
@[simp ↓] theorem ev_freezeAll_cons {r : Rs} {rs : List Rs} {Q : List D → Env → Prop} : Ev (freezeAll (r :: rs)) ρ Q ↔ Ev (freezeR r) ρ fun d ρ1 => Ev (freezeAll rs) ρ1 fun ds ρ2 => Q (d :: ds) ρ2 := by
  rw [freezeAll]
  simp only [ev_bind, ev_ret]
def testQ (ρ : Env) (Q : Bool → Env → Prop) : Option D → Prop
  | some (.bool b) => Q b ρ
  | _ => False
@[simp] theorem testQ_b {Q : Bool → Env → Prop} {b : Bool} : testQ ρ Q (some (.bool b)) = Q b ρ := rfl
@[simp ↓] theorem ev_test {f : M Rs} {Q : Bool → Env → Prop} : Ev (mTest f) ρ Q ↔ Ev f ρ fun r ρ1 => testQ ρ1 Q (r.view ρ1) := by
  unfold mTest
  rw [ev_bind]
  constructor
  · rintro ⟨r, ρ1, e, b, ρ2, e2, q⟩
    refine ⟨r, ρ1, e, ?_⟩
    try dsimp only at e2
    split at e2
    · rename_i c h; cases e2; rw [h]; exact q
    · cases e2
  · rintro ⟨r, ρ1, e, q⟩
    refine ⟨r, ρ1, e, ?_⟩
    unfold testQ at q
    split at q
    · rename_i c h; exact ⟨_, ρ1, by simp only [h], q⟩
    · exact q.elim
@[simp ↓] theorem ev_and {fa fb : M Rs} {Q : Rs → Env → Prop} : Ev (eAnd fa fb) ρ Q ↔ Ev (mTest fa) ρ fun b ρ1 => if b = true then Ev fb ρ1 Q else Q (.own (.p (.bool false))) ρ1 := by
  unfold eAnd
  rw [ev_bind]
  refine ⟨fun h => h.mono fun b ρ1 q => ?_, fun h => h.mono fun b ρ1 q => ?_⟩
  · cases b with
    | true => exact q
    | false => exact ev_c.mp q
  · cases b with
    | true => exact q
    | false => exact ev_c.mpr q
@[simp ↓] theorem ev_or {fa fb : M Rs} {Q : Rs → Env → Prop} : Ev (eOr fa fb) ρ Q ↔ Ev (mTest fa) ρ fun b ρ1 => if b = true then Q (.own (.p (.bool true))) ρ1 else Ev fb ρ1 Q := by
  unfold eOr
  rw [ev_bind]
  refine ⟨fun h => h.mono fun b ρ1 q => ?_, fun h => h.mono fun b ρ1 q => ?_⟩
  · cases b with
    | true => exact ev_c.mp q
    | false => exact q
  · cases b with
    | true => exact ev_c.mpr q
    | false => exact q
@[simp ↓] theorem ev_tand {c d : M Bool} {Q : Bool → Env → Prop} : Ev (tAnd' c d) ρ Q ↔ Ev c ρ fun b ρ1 => if b = true then Ev d ρ1 Q else Q false ρ1 := by
  unfold tAnd'
  rw [ev_bind]
  refine ⟨fun h => h.mono fun b ρ1 q => ?_, fun h => h.mono fun b ρ1 q => ?_⟩
  · cases b with
    | true => exact q
    | false => exact ev_ret.mp q
  · cases b with
    | true => exact q
    | false => exact ev_ret.mpr q
@[simp ↓] theorem ev_tor {c d : M Bool} {Q : Bool → Env → Prop} : Ev (tOr' c d) ρ Q ↔ Ev c ρ fun b ρ1 => if b = true then Q true ρ1 else Ev d ρ1 Q := by
  unfold tOr'
  rw [ev_bind]
  refine ⟨fun h => h.mono fun b ρ1 q => ?_, fun h => h.mono fun b ρ1 q => ?_⟩
  · cases b with
    | true => exact ev_ret.mp q
    | false => exact q
  · cases b with
    | true => exact ev_ret.mpr q
    | false => exact q
@[simp ↓] theorem ev_tnot {c : M Bool} {Q : Bool → Env → Prop} : Ev (tNot' c) ρ Q ↔ Ev c ρ fun b ρ1 => Q (!b) ρ1 := by
  unfold tNot'
  simp only [ev_bind, ev_ret]
def isiQ (ρ : Env) (T : String) (Q : Rs → Env → Prop) : Option D → Prop
  | some d => Q (.own (.p (.bool (isTy T d)))) ρ
  | none => False
@[simp] theorem isiQ_s {T : String} {Q : Rs → Env → Prop} {d : D} : isiQ ρ T Q (some d) = Q (.own (.p (.bool (isTy T d)))) ρ := rfl
@[simp ↓] theorem ev_isi {T : String} {r : Rs} {Q : Rs → Env → Prop} : Ev (oIsi T r) ρ Q ↔ isiQ ρ T Q (r.view ρ) := by
  constructor
  · rintro ⟨a', ρ', e, q⟩
    unfold oIsi at e
    split at e
    · rename_i d h; cases e; rw [h]; exact q
    · cases e
  · intro q
    unfold isiQ at q
    split at q
    · rename_i d h; exact ⟨_, ρ, by unfold oIsi; rw [h], q⟩
    · exact q.elim
def intQ (ρ : Env) (Q : Option Int → Env → Prop) : Option D → Prop
  | some (.int b) => Q (some b) ρ
  | _ => False
@[simp] theorem intQ_i {Q : Option Int → Env → Prop} {b : Int} : intQ ρ Q (some (.int b)) = Q (some b) ρ := rfl
@[simp ↓] theorem ev_mInt {f : M Rs} {Q : Option Int → Env → Prop} : Ev (mInt f) ρ Q ↔ Ev f ρ fun r ρ1 => intQ ρ1 Q (r.view ρ1) := by
  unfold mInt
  rw [ev_bind]
  constructor
  · rintro ⟨r, ρ1, e, b, ρ2, e2, q⟩
    refine ⟨r, ρ1, e, ?_⟩
    try dsimp only at e2
    split at e2
    · rename_i c h; cases e2; rw [h]; exact q
    · cases e2
  · rintro ⟨r, ρ1, e, q⟩
    refine ⟨r, ρ1, e, ?_⟩
    unfold intQ at q
    split at q
    · rename_i c h; exact ⟨_, ρ1, by simp only [h], q⟩
    · exact q.elim
@[simp ↓] theorem ev_mNo {Q : Option Int → Env → Prop} : Ev mNo ρ Q ↔ Q none ρ := ev_ret
@[simp ↓] theorem ev_sl {fe : M Rs} {lo hi : M (Option Int)} {op : Option Int → Option Int → List Rs → M Rs} {Q : Rs → Env → Prop} :
    Ev (eSl fe lo hi op) ρ Q ↔ Ev fe ρ fun r ρ1 => Ev lo ρ1 fun l ρ2 => Ev hi ρ2 fun h ρ3 => Ev (op l h [r]) ρ3 Q := by
  unfold eSl
  simp only [ev_bind]
def takeQ (i : Nat) (ρ : Env) (Q : Sl → Env → Prop) : Option (Option Sl) → Prop
  | some (some s) => Q s (ρ.set i none)
  | _ => False
@[simp] theorem takeQ_s {i : Nat} {Q : Sl → Env → Prop} {s : Sl} : takeQ i ρ Q (some (some s)) = Q s (ρ.set i none) := rfl
@[simp ↓] theorem ev_take_own {s : Sl} {Q : Sl → Env → Prop} : Ev (takeR (.own s)) ρ Q ↔ Q s ρ := by unfold takeR; exact ev_ret
@[simp ↓] theorem ev_take_bor {i : Nat} {Q : Sl → Env → Prop} : Ev (takeR (.bor i)) ρ Q ↔ takeQ i ρ Q ρ[i]? := by
  constructor
  · rintro ⟨r, ρ1, e, q⟩
    unfold takeR at e
    dsimp only at e
    split at e
    · rename_i s h; cases e; rw [h]; exact q
    · cases e
  · intro q
    unfold takeQ at q
    split at q
    · rename_i s h; exact ⟨s, _, by unfold takeR; dsimp only; rw [h], q⟩
    · exact q.elim
@[simp ↓] theorem ev_gSet {i : Nat} {f : M Rs} {Q : Fl → Env → Prop} : Ev (gSet i f) ρ Q ↔ Ev f ρ fun r ρ1 => Ev (takeR r) ρ1 fun s ρ2 => i < ρ2.length ∧ Q .nx (ρ2.set i (some s)) := by
  unfold gSet
  simp only [ev_bind]
  constructor
  · rintro ⟨r, ρ1, e, s, ρ2, e2, b, ρ3, e3, q⟩
    refine ⟨r, ρ1, e, s, ρ2, e2, ?_⟩
    try dsimp only at e3
    split at e3
    · rename_i h; cases e3; exact ⟨h, q⟩
    · cases e3
  · rintro ⟨r, ρ1, e, s, ρ2, e2, h, q⟩
    exact ⟨r, ρ1, e, s, ρ2, e2, _, _, by dsimp only; rw [if_pos h], q⟩
@[simp ↓] theorem ev_gRet {f : M Rs} {Q : Fl → Env → Prop} : Ev (gRet f) ρ Q ↔ Ev f ρ fun r ρ1 => Ev (takeR r) ρ1 fun s ρ2 => s.tag = none ∧ Q (.rt s) ρ2 := by
  unfold gRet
  simp only [ev_bind]
  constructor
  · rintro ⟨r, ρ1, e, s, ρ2, e2, b, ρ3, e3, q⟩
    refine ⟨r, ρ1, e, s, ρ2, e2, ?_⟩
    try dsimp only at e3
    split at e3
    · rename_i h; cases e3; exact ⟨h, q⟩
    · cases e3
  · rintro ⟨r, ρ1, e, s, ρ2, e2, h, q⟩
    exact ⟨r, ρ1, e, s, ρ2, e2, _, _, by rw [if_pos h]; rfl, q⟩
@[simp ↓] theorem ev_gNext {Q : Fl → Env → Prop} : Ev gNext ρ Q ↔ Q .nx ρ := ev_ret
@[simp ↓] theorem ev_gExpr {f : M Rs} {Q : Fl → Env → Prop} : Ev (gExpr f) ρ Q ↔ Ev f ρ fun _ ρ1 => Q .nx ρ1 := by
  unfold gExpr
  simp only [ev_bind, ev_ret]
@[simp] theorem Sl.tag_p {d : D} : (Sl.p d).tag = none := rfl
@[simp] theorem Sl.tag_ml {t : Option Nat} {d : List D} : (Sl.ml t d).tag = t := rfl
@[simp] theorem Sl.tag_md {t : Option Nat} {d : List (Key × D)} : (Sl.md t d).tag = t := rfl
@[simp] theorem Sl.tag_mr {t : Option Nat} {d : List Sl} : (Sl.mr t d).tag = t := rfl
@[simp] theorem Sl.tag_ob {t : Option Nat} {c : Str} {ns : List Str} {d : List Sl} : (Sl.ob t c ns d).tag = t := rfl
@[simp] theorem Sl.tag_ex {c : Str} {f : Option (Str × D)} : (Sl.ex c f).tag = none := rfl
@[simp] theorem Sl.tag_tp {l : List Sl} : (Sl.tp l).tag = none := rfl
@[simp] theorem Sl.tag_fd {l : List (Key × D)} : (Sl.fd l).tag = none := rfl
@[simp] theorem Sl.mark_fd {k : Nat} {l : List (Key × D)} : (Sl.fd l).mark k = .fd l := rfl
@[simp] theorem Sl.bare_fd {l : List (Key × D)} : (Sl.fd l).bare = .fd l := rfl
@[simp] theorem Sl.retag_fd {t : Option Nat} {l : List (Key × D)} : (Sl.fd l).retag t = .fd l := rfl
@[simp] theorem Sl.mark_p {k : Nat} {d : D} : (Sl.p d).mark k = .p d := rfl
@[simp] theorem Sl.mark_ml {k : Nat} {t : Option Nat} {d : List D} : (Sl.ml t d).mark k = .ml (some k) d := rfl
@[simp] theorem Sl.mark_md {k : Nat} {t : Option Nat} {d : List (Key × D)} : (Sl.md t d).mark k = .md (some k) d := rfl
@[simp] theorem Sl.mark_mr {k : Nat} {t : Option Nat} {d : List Sl} : (Sl.mr t d).mark k = .mr (some k) d := rfl
@[simp] theorem Sl.mark_ob {k : Nat} {t : Option Nat} {c : Str} {ns : List Str} {d : List Sl} : (Sl.ob t c ns d).mark k = .ob (some k) c ns d := rfl
@[simp] theorem Sl.mark_ex {k : Nat} {c : Str} {f : Option (Str × D)} : (Sl.ex c f).mark k = .ex c f := rfl
@[simp] theorem Sl.bare_p {d : D} : (Sl.p d).bare = .p d := rfl
@[simp] theorem Sl.bare_ml {t : Option Nat} {d : List D} : (Sl.ml t d).bare = .ml none d := rfl
@[simp] theorem Sl.bare_md {t : Option Nat} {d : List (Key × D)} : (Sl.md t d).bare = .md none d := rfl
@[simp] theorem Sl.bare_mr {t : Option Nat} {d : List Sl} : (Sl.mr t d).bare = .mr none d := rfl
@[simp] theorem Sl.bare_ob {t : Option Nat} {c : Str} {ns : List Str} {d : List Sl} : (Sl.ob t c ns d).bare = .ob none c ns d := rfl
@[simp] theorem Sl.bare_ex {c : Str} {f : Option (Str × D)} : (Sl.ex c f).bare = .ex c f := rfl
@[simp] theorem Sl.retag_p {t : Option Nat} {d : D} : (Sl.p d).retag t = .p d := rfl
@[simp] theorem Sl.retag_ml {t t' : Option Nat} {d : List D} : (Sl.ml t' d).retag t = .ml t d := rfl
@[simp] theorem Sl.retag_md {t t' : Option Nat} {d : List (Key × D)} : (Sl.md t' d).retag t = .md t d := rfl
@[simp] theorem Sl.retag_mr {t t' : Option Nat} {d : List Sl} : (Sl.mr t' d).retag t = .mr t d := rfl
@[simp] theorem Sl.retag_ob {t t' : Option Nat} {c : Str} {ns : List Str} {d : List Sl} : (Sl.ob t' c ns d).retag t = .ob t c ns d := rfl
@[simp] theorem Sl.retag_ex {t : Option Nat} {c : Str} {f : Option (Str × D)} : (Sl.ex c f).retag t = .ex c f := rfl
def flQ (g : M Fl) (Q : Fl → Env → Prop) (ρ : Env) : Fl → Prop
  | .nx => Ev g ρ Q
  | .bk => Q .bk ρ
  | .ct => Q .ct ρ
  | .rt s => Q (.rt s) ρ
@[simp ↓] theorem flQ_nx {g : M Fl} {Q : Fl → Env → Prop} : flQ g Q ρ .nx = Ev g ρ Q := rfl
@[simp ↓] theorem flQ_bk {g : M Fl} {Q : Fl → Env → Prop} : flQ g Q ρ .bk = Q .bk ρ := rfl
@[simp ↓] theorem flQ_ct {g : M Fl} {Q : Fl → Env → Prop} : flQ g Q ρ .ct = Q .ct ρ := rfl
@[simp ↓] theorem flQ_rt {g : M Fl} {Q : Fl → Env → Prop} {s : Sl} : flQ g Q ρ (.rt s) = Q (.rt s) ρ := rfl
@[simp ↓] theorem ev_gSeq {g1 g2 : M Fl} {Q : Fl → Env → Prop} : Ev (gSeq g1 g2) ρ Q ↔ Ev g1 ρ fun fl ρ1 => flQ g2 Q ρ1 fl := by
  unfold gSeq
  rw [ev_bind]
  constructor
  · rintro ⟨fl, ρ1, e, q⟩
    refine ⟨fl, ρ1, e, ?_⟩
    cases fl with
    | nx => exact q
    | bk => exact ev_ret.mp q
    | ct => exact ev_ret.mp q
    | rt s => exact ev_ret.mp q
  · rintro ⟨fl, ρ1, e, q⟩
    refine ⟨fl, ρ1, e, ?_⟩
    cases fl with
    | nx => exact q
    | bk => exact ev_ret.mpr q
    | ct => exact ev_ret.mpr q
    | rt s => exact ev_ret.mpr q
@[simp ↓] theorem ev_ite {c : Prop} [Decidable c] {f g : M α} {Q : α → Env → Prop} : Ev (if c then f else g) ρ Q ↔ if c then Ev f ρ Q else Ev g ρ Q := by split <;> exact Iff.rfl
@[simp ↓] theorem ev_gIf {c : M Bool} {g1 g2 : M Fl} {Q : Fl → Env → Prop} : Ev (gIf c g1 g2) ρ Q ↔ Ev c ρ fun b ρ1 => if b = true then Ev g1 ρ1 Q else Ev g2 ρ1 Q := by
  unfold gIf
  rw [ev_bind]
  refine ⟨fun h => h.mono fun b ρ1 q => ?_, fun h => h.mono fun b ρ1 q => ?_⟩ <;> cases b <;> exact q
def envQ (Q : Env → Prop) : Option Env → Prop
  | some ρ => Q ρ
  | none => False
@[simp] theorem envQ_s {Q : Env → Prop} : envQ Q (some ρ) = Q ρ := rfl
@[simp] theorem envQ_n {Q : Env → Prop} : envQ Q none = False := rfl
@[simp] theorem envQ_ite {Q : Env → Prop} {c : Prop} [Decidable c] {o : Option Env} : envQ Q (if c then o else none) ↔ c ∧ envQ Q o := by
  split
  · rename_i h; simp [h]
  · rename_i h; simp [h, envQ]
@[simp] theorem tgName_eq {i : Nat} {d : D} : tgName i d ρ = if i < ρ.length then some (ρ.set i (some (.p d))) else none := rfl
@[simp] theorem tgTup_eq {n : Nat} {u : List D → Env → Option Env} {l : List D} : tgTup n u (.tuple l) ρ = if l.length = n then u l ρ else none := rfl
@[simp] theorem tgNil_eq : tgNil [] ρ = some ρ := rfl
@[simp] theorem tgCons_eq {t : D → Env → Option Env} {u : List D → Env → Option Env} {d : D} {r : List D} : tgCons t u (d :: r) ρ = (t d ρ).bind (u r) := by
  show (match t d ρ with
    | some ρ1 => u r ρ1
    | none => none) = _
  cases t d ρ <;> rfl
@[simp ↓] theorem ev_freeze_p {d : D} {Q : D → Env → Prop} : Ev (freezeR (.own (.p d))) ρ Q ↔ Q d ρ := by unfold freezeR; exact ev_ret
@[simp ↓] theorem ev_freeze_ml {t : Option Nat} {l : List D} {Q : D → Env → Prop} : Ev (freezeR (.own (.ml t l))) ρ Q ↔ Q (.list l) ρ := by unfold freezeR; exact ev_ret
def freezeQ (i : Nat) (ρ : Env) (Q : D → Env → Prop) : Option (Option Sl) → Prop
  | some (some (.ml none l)) => Q (.list l) (ρ.set i (some (.p (.list l))))
  | some (some (.p d)) => Q d ρ
  | _ => False
@[simp] theorem freezeQ_ml {i : Nat} {Q : D → Env → Prop} {l : List D} : freezeQ i ρ Q (some (some (.ml none l))) = Q (.list l) (ρ.set i (some (.p (.list l)))) := rfl
@[simp] theorem freezeQ_p {i : Nat} {Q : D → Env → Prop} {d : D} : freezeQ i ρ Q (some (some (.p d))) = Q d ρ := rfl
@[simp ↓] theorem ev_freeze_bor {i : Nat} {Q : D → Env → Prop} : Ev (freezeR (.bor i)) ρ Q ↔ freezeQ i ρ Q ρ[i]? := by
  constructor
  · rintro ⟨r, ρ1, e, q⟩
    unfold freezeR at e
    dsimp only at e
    split at e
    · rename_i s h; cases e; rw [h]; exact q
    · rename_i s h; cases e; rw [h]; exact q
    · cases e
  · intro q
    unfold freezeQ at q
    split at q
    · rename_i s h; exact ⟨_, _, by unfold freezeR; dsimp only; rw [h], q⟩
    · rename_i s h; exact ⟨_, _, by unfold freezeR; dsimp only; rw [h], q⟩
    · exact q.elim
def argQ (Q : List Sl → Prop) : Option (List Sl) → Prop
  | some ss => Q ss
  | none => False
@[simp] theorem argQ_s {Q : List Sl → Prop} {ss : List Sl} : argQ Q (some ss) = Q ss := rfl
@[simp] theorem argQ_n {Q : List Sl → Prop} : argQ Q none = False := rfl
@[simp ↓] theorem ev_opCall {n : Nat} {F : List Sl → Option (Sl × List Sl)} {rs : List Rs} {Q : Rs → Env → Prop} : Ev (opCall n F rs) ρ Q ↔ (rs.length = n ∧ (bors rs).Nodup) ∧ argQ (fun ss => Sp F ss fun r ss' => Q (.own r) (wb rs ss' ρ)) (argS rs ρ) := by
  constructor
  · rintro ⟨a', ρ', e, q⟩
    unfold opCall at e
    split at e
    · rename_i hc
      split at e
      · rename_i ss h
        split at e
        · rename_i r ss' h2; cases e; exact ⟨hc, by rw [h]; exact ⟨r, ss', h2, q⟩⟩
        · cases e
      · cases e
    · cases e
  · rintro ⟨hc, q⟩
    unfold argQ at q
    split at q
    · rename_i ss h
      obtain ⟨r, ss', h2, q⟩ := q
      exact ⟨_, _, by unfold opCall; rw [if_pos hc]; simp only [h, h2], q⟩
    · exact q.elim
@[simp] theorem argS_nil : argS [] ρ = some [] := rfl
@[simp] theorem argS_own {s : Sl} {r : List Rs} : argS (.own s :: r) ρ = (argS r ρ).map (s :: ·) := by
  rw [argS]
  cases argS r ρ <;> rfl
@[simp] theorem argS_bor' {i : Nat} {r : List Rs} : argS (.bor i :: r) ρ = (ρ[i]?).bind fun o => o.bind fun s => (argS r ρ).map (s.bare :: ·) := by
  rw [argS]
  cases ρ[i]? with
  | none => rfl
  | some o =>
    cases o with
    | none => rfl
    | some s => cases argS r ρ <;> rfl
@[simp] theorem bors_nil : bors [] = [] := rfl
@[simp] theorem bors_own {s : Sl} {r : List Rs} : bors (.own s :: r) = bors r := rfl
@[simp] theorem bors_bor {i : Nat} {r : List Rs} : bors (.bor i :: r) = i :: bors r := rfl
@[simp] theorem wb_nil {ss : List Sl} : wb [] ss ρ = ρ := by simp [wb]
@[simp] theorem wb_own {s s' : Sl} {r : List Rs} {ss : List Sl} : wb (.own s :: r) (s' :: ss) ρ = wb r ss ρ := rfl
@[simp] theorem wb_bor {i : Nat} {s' : Sl} {r : List Rs} {ss : List Sl} : wb (.bor i :: r) (s' :: ss) ρ = wb r ss (ρ.set i (some (s'.retag (tagAt ρ i)))) := rfl
def slotT : Option (Option Sl) → Option Nat
  | some (some s) => s.tag
  | _ => none
@[simp] theorem slotT_s {s : Sl} : slotT (some (some s)) = s.tag := rfl
@[simp] theorem tagAt_eq {i : Nat} : tagAt ρ i = slotT ρ[i]? := by
  unfold tagAt slotT
  split <;> simp_all
def ixQ (Q : Nat → Prop) : Option Nat → Prop
  | some q => Q q
  | none => False
def subQ (j : Nat) (d : D) (ρ : Env) (Q : Fl → Env → Prop) : Option (Option Sl) → Option D → Prop
  | some (some (.ml t l)), some (.int k) => ixQ (fun q => Q .nx (ρ.set j (some (.ml t (l.set q d))))) (ixN l.length k)
  | _, _ => False
@[simp] theorem ixQ_s {Q : Nat → Prop} {q : Nat} : ixQ Q (some q) = Q q := rfl
@[simp] theorem subQ_ml {j : Nat} {d : D} {Q : Fl → Env → Prop} {t : Option Nat} {l : List D} {k : Int} : subQ j d ρ Q (some (some (.ml t l))) (some (.int k)) = ixQ (fun q => Q .nx (ρ.set j (some (.ml t (l.set q d))))) (ixN l.length k) := rfl
@[simp ↓] theorem ev_setSub {j : Nat} {i : Rs} {d : D} {Q : Fl → Env → Prop} : Ev (setSub (.bor j) i d) ρ Q ↔ subQ j d ρ Q ρ[j]? (i.view ρ) := by
  constructor
  · rintro ⟨a', ρ', e, q⟩
    unfold setSub at e
    dsimp only at e
    split at e
    · rename_i t l h
      split at e
      · rename_i k h2
        split at e
        · rename_i q' h3
          cases e
          rw [h, h2, subQ_ml, h3]
          exact q
        · cases e
      · cases e
    · cases e
  · intro q
    unfold subQ at q
    split at q
    · rename_i t l k h h2
      unfold ixQ at q
      split at q
      · rename_i q' h3
        exact ⟨_, _, by unfold setSub; simp only [h, h2, h3], q⟩
      · exact q.elim
    · exact q.elim
@[simp ↓] theorem ev_gSub {f fo fi : M Rs} {Q : Fl → Env → Prop} : Ev (gSub f fo fi) ρ Q ↔ Ev f ρ fun r ρ1 => Ev (freezeR r) ρ1 fun d ρ2 => Ev fo ρ2 fun o ρ3 => Ev fi ρ3 fun i ρ4 => Ev (setSub o i d) ρ4 Q := by
  unfold gSub
  simp only [ev_bind]
@[simp] theorem kindOk_l {l : List D} : kindOk "list" (some (.list l)) = true := rfl
@[simp] theorem kindOk_s {l : Str} : kindOk "str" (some (.str l)) = true := rfl
def kQ (P : Prop) : Bool → Prop
  | true => P
  | false => False
@[simp] theorem kQ_t {P : Prop} : kQ P true = P := rfl
@[simp ↓] theorem ev_meth {T : String} {fo : M Rs} {fa : M (List Rs)} {op : List Rs → M Rs} {Q : Rs → Env → Prop} : Ev (eMeth T fo fa op) ρ Q ↔ Ev fo ρ fun o ρ1 => kQ (Ev fa ρ1 fun rs ρ2 => Ev (op (o :: rs)) ρ2 Q) (kindOk T (o.view ρ1)) := by
  unfold eMeth
  rw [ev_bind]
  constructor
  · rintro ⟨o, ρ1, e, b, ρ2, e2, q⟩
    refine ⟨o, ρ1, e, ?_⟩
    dsimp only at e2
    split at e2
    · rename_i h; rw [h]; exact ev_bind.mp ⟨b, ρ2, e2, q⟩
    · cases e2
  · rintro ⟨o, ρ1, e, q⟩
    refine ⟨o, ρ1, e, ?_⟩
    cases h : kindOk T (o.view ρ1) with
    | false => rw [h] at q; exact q.elim
    | true =>
      rw [h] at q
      obtain ⟨b, ρ2, e2, q⟩ := ev_bind.mpr q
      exact ⟨b, ρ2, by dsimp only; rw [if_pos h]; exact e2, q⟩
def l1Q (j : Nat) (ρ : Env) (f : List D → List D → Option (D × List D)) (ds : List D) (Q : Rs → Env → Prop) : Option (Option Sl) → Prop
  | some (some (.ml t l)) => match f l ds with
    | some (d, l') => Q (.own (.p d)) (ρ.set j (some (.ml t l')))
    | none => False
  | _ => False
def prQ (Q : D → List D → Prop) : Option (D × List D) → Prop
  | some (d, l) => Q d l
  | none => False
@[simp] theorem prQ_s {Q : D → List D → Prop} {d : D} {l : List D} : prQ Q (some (d, l)) = Q d l := rfl
@[simp] theorem prQ_n {Q : D → List D → Prop} : prQ Q none = False := rfl
@[simp] theorem prQ_ite {Q : D → List D → Prop} {c : Prop} [Decidable c] {o : Option (D × List D)} : prQ Q (if c then o else none) ↔ c ∧ prQ Q o := by
  split
  · rename_i h; simp [h]
  · rename_i h; simp [h, prQ]
@[simp] theorem l1Q_ml {j : Nat} {f : List D → List D → Option (D × List D)} {ds : List D} {Q : Rs → Env → Prop} {t : Option Nat} {l : List D} : l1Q j ρ f ds Q (some (some (.ml t l))) = prQ (fun d l' => Q (.own (.p d)) (ρ.set j (some (.ml t l')))) (f l ds) := by
  unfold l1Q prQ
  dsimp only
@[simp ↓] theorem ev_opL1 {f : List D → List D → Option (D × List D)} {j : Nat} {rest : List Rs} {Q : Rs → Env → Prop} : Ev (opL1 f (.bor j :: rest)) ρ Q ↔ Ev (freezeAll rest) ρ fun ds ρ1 => l1Q j ρ1 f ds Q ρ1[j]? := by
  unfold opL1
  rw [ev_bind]
  constructor
  · rintro ⟨ds, ρ1, e, b, ρ2, e2, q⟩
    refine ⟨ds, ρ1, e, ?_⟩
    dsimp only at e2
    split at e2
    · rename_i t l h
      split at e2
      · rename_i d l' h2
        cases e2
        rw [h, l1Q_ml, h2]
        exact q
      · cases e2
    · cases e2
  · rintro ⟨ds, ρ1, e, q⟩
    refine ⟨ds, ρ1, e, ?_⟩
    unfold l1Q at q
    split at q
    · rename_i t l h
      split at q
      · rename_i d l' h2
        exact ⟨_, _, by dsimp only; simp only [h, h2], q⟩
      · exact q.elim
    · exact q.elim
@[simp ↓] theorem ev_append {j : Nat} {rest : List Rs} {Q : Rs → Env → Prop} : Ev (o_append1 (.bor j :: rest)) ρ Q ↔ Ev (freezeAll rest) ρ fun ds ρ1 => l1Q j ρ1 fAppend ds Q ρ1[j]? := ev_opL1
@[simp ↓] theorem ev_pop1 {j : Nat} {rest : List Rs} {Q : Rs → Env → Prop} : Ev (o_pop1 (.bor j :: rest)) ρ Q ↔ Ev (freezeAll rest) ρ fun ds ρ1 => l1Q j ρ1 fPop1 ds Q ρ1[j]? := ev_opL1
@[simp] theorem fAppend_eq {l : List D} {d : D} : fAppend l [d] = if l.length < sizeLine then some (.none, l ++ [d]) else none := rfl
@[simp ↓] theorem ev_chain {fa fb fc : M Rs} {op op' : List Rs → M Rs} {Q : Rs → Env → Prop} : Ev (eChain fa fb fc op op') ρ Q ↔ Ev fa ρ fun x ρ1 => Ev fb ρ1 fun y ρ2 => Ev (match y with
  | .own (.p d) => M.bind (mTest (op [x, .own (.p d)])) fun b => if b = true then M.bind fc fun z => op' [.own (.p d), z] else eC (.bool false)
  | _ => M.fail) ρ2 Q := by
  unfold eChain
  rw [ev_bind]
  refine ⟨fun h => h.mono fun x ρ1 q => ev_bind.mp q, fun h => h.mono fun x ρ1 q => ev_bind.mpr q⟩
end
def endQ (ss : List Sl) (Q : Sl → List Sl → Prop) (ρ : Env) : Fl → Prop
  | .rt s => argQ (fun ss' => Q s ss') (endE 0 ss ρ)
  | .nx => argQ (fun ss' => Q (.p .none) ss') (endE 0 ss ρ)
  | _ => False
@[simp ↓] theorem endQ_rt {ss : List Sl} {Q : Sl → List Sl → Prop} {ρ : Env} {s : Sl} : endQ ss Q ρ (.rt s) = argQ (fun ss' => Q s ss') (endE 0 ss ρ) := rfl
@[simp ↓] theorem endQ_nx {ss : List Sl} {Q : Sl → List Sl → Prop} {ρ : Env} : endQ ss Q ρ .nx = argQ (fun ss' => Q (.p .none) ss') (endE 0 ss ρ) := rfl
@[simp] theorem endE_nil {k : Nat} {ρ : Env} : endE k [] ρ = some [] := rfl
@[simp] theorem endE_p {k : Nat} {ρ : Env} {d : D} {r : List Sl} : endE k (.p d :: r) ρ = (endE (k + 1) r ρ).map (.p d :: ·) := rfl
def slotE (k : Nat) (o : Option (List Sl)) : Option (Option Sl) → Option (List Sl)
  | some (some s') => if s'.tag = some k then o.map (s'.bare :: ·) else none
  | _ => none
@[simp] theorem slotE_s {k : Nat} {o : Option (List Sl)} {s' : Sl} : slotE k o (some (some s')) = if s'.tag = some k then o.map (s'.bare :: ·) else none := rfl
@[simp] theorem endE_ml {k : Nat} {ρ : Env} {t : Option Nat} {l : List D} {r : List Sl} : endE k (.ml t l :: r) ρ = slotE k (endE (k + 1) r ρ) ρ[k]? := by
  rw [endE]
  simp only [Sl.isP, Bool.false_eq_true, if_false]
  unfold slotE
  split <;> simp_all
@[simp] theorem endE_md {k : Nat} {ρ : Env} {t : Option Nat} {l : List (Key × D)} {r : List Sl} : endE k (.md t l :: r) ρ = slotE k (endE (k + 1) r ρ) ρ[k]? := by
  rw [endE]
  simp only [Sl.isP, Bool.false_eq_true, if_false]
  unfold slotE
  split <;> simp_all
@[simp] theorem endE_mr {k : Nat} {ρ : Env} {t : Option Nat} {l : List Sl} {r : List Sl} : endE k (.mr t l :: r) ρ = slotE k (endE (k + 1) r ρ) ρ[k]? := by
  rw [endE]
  simp only [Sl.isP, Bool.false_eq_true, if_false]
  unfold slotE
  split <;> simp_all
@[simp] theorem endE_ob {k : Nat} {ρ : Env} {t : Option Nat} {c : Str} {ns : List Str} {l : List Sl} {r : List Sl} : endE k (.ob t c ns l :: r) ρ = slotE k (endE (k + 1) r ρ) ρ[k]? := by
  rw [endE]
  simp only [Sl.isP, Bool.false_eq_true, if_false]
  unfold slotE
  split <;> simp_all
@[simp] theorem endE_ex {k : Nat} {ρ : Env} {c : Str} {f : Option (Str × D)} {r : List Sl} : endE k (.ex c f :: r) ρ = (endE (k + 1) r ρ).map (.ex c f :: ·) := rfl
theorem sp_mkF {m : Nat} {g : M Fl} {ss : List Sl} {Q : Sl → List Sl → Prop} : Sp (mkF m g) ss Q ↔ Ev g (startE m ss) fun fl ρ' => endQ ss Q ρ' fl := by
  constructor
  · rintro ⟨r, ss', e, q⟩
    unfold mkF at e
    split at e
    · rename_i s ρ' h
      cases h2 : endE 0 ss ρ' with
      | none => rw [h2] at e; cases e
      | some t =>
        rw [h2] at e; cases e
        refine ⟨_, ρ', h, ?_⟩
        dsimp only
        rw [endQ_rt, h2]
        exact q
    · rename_i ρ' h
      cases h2 : endE 0 ss ρ' with
      | none => rw [h2] at e; cases e
      | some t =>
        rw [h2] at e; cases e
        refine ⟨_, ρ', h, ?_⟩
        dsimp only
        rw [endQ_nx, h2]
        exact q
    · cases e
  · rintro ⟨fl, ρ', e, q⟩
    cases fl with
    | rt s =>
      rw [endQ_rt] at q
      unfold argQ at q
      split at q
      · rename_i ss' h
        exact ⟨s, ss', by unfold mkF; rw [e]; dsimp only; rw [h]; rfl, q⟩
      · exact q.elim
    | nx =>
      rw [endQ_nx] at q
      unfold argQ at q
      split at q
      · rename_i ss' h
        exact ⟨_, ss', by unfold mkF; rw [e]; dsimp only; rw [h]; rfl, q⟩
      · exact q.elim
    | bk => exact q.elim
    | ct => exact q.elim
@[simp] theorem startE_eq {m : Nat} {ss : List Sl} : startE m ss = (markAll 0 ss).map some ++ List.replicate m none := rfl
@[simp] theorem markAll_nil {k : Nat} : markAll k [] = [] := rfl
@[simp] theorem markAll_cons {k : Nat} {s : Sl} {r : List Sl} : markAll k (s :: r) = s.mark k :: markAll (k + 1) r := rfl
@[simp] theorem rep_z {α : Type} {a : α} : List.replicate 0 a = [] := rfl
@[simp] theorem rep_s {α : Type} {a : α} {n : Nat} : List.replicate (n + 1) a = a :: List.replicate n a := rfl
section
variable {a b i j : Int} {x y : Str} {l m : List D} {d e : D} {p q : Bool}
@[simp] theorem Rd'_rs_pd : (Rd'.pd d).rs = .own (.p d) := rfl
@[simp ↓] theorem oAdd_eq : oAdd = opG pAdd := rfl
@[simp ↓] theorem oSub_eq : oSub = opG pSub := rfl
@[simp ↓] theorem oDiv_eq : oDiv = opG (pInt CDivW fun i j => i / j) := rfl
@[simp ↓] theorem oMod_eq : oMod = opG (pInt (fun _ j => 0 < j) fun i j => i % j) := rfl
@[simp ↓] theorem oEq_eq : oEq = opG pEq := rfl
@[simp ↓] theorem oNe_eq : oNe = opG pNe := rfl
@[simp ↓] theorem oLt_eq : oLt = opG (pCmpI fun i j => decide (i < j)) := rfl
@[simp ↓] theorem oLe_eq : oLe = opG (pCmpI fun i j => decide (i ≤ j)) := rfl
@[simp ↓] theorem oGt_eq : oGt = opG (pCmpI fun i j => decide (j < i)) := rfl
@[simp ↓] theorem oGe_eq : oGe = opG (pCmpI fun i j => decide (j ≤ i)) := rfl
@[simp ↓] theorem oIn_eq : oIn = opG pIn := rfl
@[simp ↓] theorem oNi_eq : oNi = opG pNi := rfl
@[simp ↓] theorem oIs_eq : oIs = opG pIs := rfl
@[simp ↓] theorem oIx_eq : oIx = opG pIx := rfl
@[simp ↓] theorem oSl_eq {lo hi : Option Int} : oSl lo hi = opG (pSl lo hi) := rfl
@[simp ↓] theorem oLen_eq : oLen = opG pLen := rfl
@[simp ↓] theorem oSum_eq : oSum = opG pSum := rfl
@[simp ↓] theorem oMax_eq : oMax = opG pMax := rfl
@[simp ↓] theorem oAbs_eq : oAbs = opG pAbs := rfl
@[simp ↓] theorem oInt1_eq : oInt1 = opG pInt1 := rfl
@[simp ↓] theorem oListOf_eq : oListOf = opG pListOf := rfl
@[simp ↓] theorem oTupOf_eq : oTupOf = opG pTupOf := rfl
@[simp ↓] theorem oNeg_eq : oNeg = opG pNeg := rfl
@[simp ↓] theorem oTup_eq : oTup = opF pTup := rfl
@[simp ↓] theorem oLst_eq : oLst = opF pLst := rfl
@[simp] theorem pAdd_ii : pAdd [.int a, .int b] = some (.pd (.int (a + b))) := rfl
@[simp] theorem pAdd_ss : pAdd [.str x, .str y] = if x.length + y.length ≤ sizeLine then some (.pd (.str (x ++ y))) else none := rfl
@[simp] theorem pAdd_tt : pAdd [.tuple l, .tuple m] = if l.length + m.length ≤ sizeLine then some (.pd (.tuple (l ++ m))) else none := rfl
@[simp] theorem pAdd_ll : pAdd [.list l, .list m] = if l.length + m.length ≤ sizeLine then some (.nl (l ++ m)) else none := rfl
@[simp] theorem pSub_ii : pSub [.int a, .int b] = some (.pd (.int (a - b))) := rfl
@[simp] theorem pInt_ii {C : Int → Int → Prop} [∀ a b, Decidable (C a b)] {f : Int → Int → Int} : pInt C f [.int a, .int b] = if C a b then some (.pd (.int (f a b))) else none := rfl
@[simp] theorem pCmpI_ii {f : Int → Int → Bool} : pCmpI f [.int a, .int b] = some (.pd (.bool (f a b))) := rfl
@[simp] theorem pIs_n : pIs [d, .none] = some (.pd (.bool (isNon d))) := by cases d <;> rfl
@[simp] theorem pIs_b : pIs [.bool p, .bool q] = some (.pd (.bool (decide (p = q)))) := rfl
@[simp] theorem isNon_i : isNon (.int a) = false := rfl
@[simp] theorem isNon_n : isNon .none = true := rfl
@[simp] theorem isNon_s : isNon (.str x) = false := rfl
@[simp] theorem isNon_b : isNon (.bool p) = false := rfl
@[simp] theorem isNon_t : isNon (.tuple l) = false := rfl
@[simp] theorem isNon_l : isNon (.list l) = false := rfl
@[simp] theorem pIx_l : pIx [.list l, .int i] = (atI l i).map .pd := rfl
@[simp] theorem pIx_t : pIx [.tuple l, .int i] = (atI l i).map .pd := rfl
@[simp] theorem pIx_s : pIx [.str x, .int i] = if x.length ≤ sizeLine then (atI x.cps.toList i).map fun c => .pd (.str ⟨#[c]⟩) else none := rfl
@[simp] theorem pSl_l {lo hi : Option Int} : pSl lo hi [.list l] = some (.nl (cutD l lo hi)) := rfl
@[simp] theorem pSl_t {lo hi : Option Int} : pSl lo hi [.tuple l] = some (.pd (.tuple (cutD l lo hi))) := rfl
@[simp] theorem pSl_s {lo hi : Option Int} : pSl lo hi [.str x] = if x.length ≤ sizeLine then some (.pd (.str (cutS x lo hi))) else none := rfl
@[simp] theorem pLen_l : pLen [.list l] = some (.pd (.int l.length)) := rfl
@[simp] theorem pLen_t : pLen [.tuple l] = some (.pd (.int l.length)) := rfl
@[simp] theorem pLen_s : pLen [.str x] = if x.length ≤ sizeLine then some (.pd (.int x.length)) else none := rfl
@[simp] theorem pSum_l : pSum [.list l] = (ints? l).map fun ns => .pd (.int ns.sum) := rfl
@[simp] theorem pSum_t : pSum [.tuple l] = (ints? l).map fun ns => .pd (.int ns.sum) := rfl
@[simp] theorem pMax_l : pMax [.list l] = (ints? l).bind fun ns => if ns = [] then none else some (.pd (.int (maxI ns))) := rfl
@[simp] theorem pMax_ii : pMax [.int i, .int j] = some (.pd (.int (max i j))) := rfl
@[simp] theorem pAbs_i : pAbs [.int i] = some (.pd (.int (i.natAbs : Int))) := rfl
@[simp] theorem pInt1_i : pInt1 [.int i] = some (.pd (.int i)) := rfl
@[simp] theorem pInt1_b : pInt1 [.bool p] = some (.pd (.int (if p then 1 else 0))) := rfl
@[simp] theorem pListOf_l : pListOf [.list l] = some (.nl l) := rfl
@[simp] theorem pListOf_t : pListOf [.tuple l] = some (.nl l) := rfl
@[simp] theorem pTupOf_l : pTupOf [.list l] = some (.pd (.tuple l)) := rfl
@[simp] theorem pTupOf_t : pTupOf [.tuple l] = some (.pd (.tuple l)) := rfl
@[simp] theorem pNeg_i : pNeg [.int i] = some (.pd (.int (-i))) := rfl
@[simp] theorem pTup_eq : pTup l = if l.length ≤ sizeLine then some (.pd (.tuple l)) else none := rfl
@[simp] theorem pLst_eq : pLst l = if l.length ≤ sizeLine then some (.nl l) else none := rfl
@[simp] theorem pEq_eq : pEq [d, e] = if min d.depth e.depth ≤ 40 then some (.pd (.bool (PyData.eqv d e))) else none := rfl
@[simp] theorem pNe_eq : pNe [d, e] = if min d.depth e.depth ≤ 40 then some (.pd (.bool (!PyData.eqv d e))) else none := rfl
@[simp] theorem pIn_l : pIn [d, .list l] = if d.depth ≤ 40 then some (.pd (.bool (l.any fun y => PyData.eqv y d))) else none := rfl
@[simp] theorem pIn_t : pIn [d, .tuple l] = if d.depth ≤ 40 then some (.pd (.bool (l.any fun y => PyData.eqv y d))) else none := rfl
@[simp] theorem pNi_l : pNi [d, .list l] = if d.depth ≤ 40 then some (.pd (.bool (!l.any fun y => PyData.eqv y d))) else none := rfl
@[simp] theorem pNi_t : pNi [d, .tuple l] = if d.depth ≤ 40 then some (.pd (.bool (!l.any fun y => PyData.eqv y d))) else none := rfl
@[simp] theorem dep_i : PyData.depth (.int a) = 0 := rfl
@[simp] theorem dep_s : PyData.depth (.str x) = 0 := rfl
@[simp] theorem dep_b : PyData.depth (.bool p) = 0 := rfl
@[simp] theorem dep_n : PyData.depth .none = 0 := rfl
@[simp] theorem dep_t : PyData.depth (.tuple l) = PyData.depthAll l + 1 := by simp only [PyData.depth]
@[simp] theorem dep_l : PyData.depth (.list l) = PyData.depthAll l + 1 := by simp only [PyData.depth]
@[simp] theorem depA_n : PyData.depthAll [] = 0 := rfl
@[simp] theorem depA_c : PyData.depthAll (d :: l) = max d.depth (PyData.depthAll l) := by simp only [PyData.depthAll]
@[simp] theorem eqv_ii : PyData.eqv (.int a) (.int b) = decide (a = b) := by simp only [PyData.eqv]; exact Bool.beq_eq_decide_eq a b
@[simp] theorem eqv_ss : PyData.eqv (.str x) (.str y) = decide (x = y) := by simp only [PyData.eqv]; exact Bool.beq_eq_decide_eq x y
@[simp] theorem eqv_bb : PyData.eqv (.bool p) (.bool q) = decide (p = q) := by simp only [PyData.eqv]; exact Bool.beq_eq_decide_eq p q
@[simp] theorem eqv_nn : PyData.eqv .none .none = true := by simp only [PyData.eqv]
@[simp] theorem eqv_tt : PyData.eqv (.tuple l) (.tuple m) = PyData.eqvAll l m := by simp only [PyData.eqv]
@[simp] theorem eqv_ll : PyData.eqv (.list l) (.list m) = PyData.eqvAll l m := by simp only [PyData.eqv]
@[simp] theorem eqvA_nn : PyData.eqvAll [] [] = true := by simp only [PyData.eqvAll]
@[simp] theorem eqvA_cc : PyData.eqvAll (d :: l) (e :: m) = (PyData.eqv d e && PyData.eqvAll l m) := by simp only [PyData.eqvAll]
@[simp] theorem eqvA_nc : PyData.eqvAll [] (e :: m) = false := by simp only [PyData.eqvAll]
@[simp] theorem eqvA_cn : PyData.eqvAll (d :: l) [] = false := by simp only [PyData.eqvAll]
@[simp] theorem ints_nil : ints? [] = some [] := rfl
@[simp] theorem ints_cons : ints? (.int i :: l) = (ints? l).map (i :: ·) := rfl
@[simp] theorem isTy_i {T : String} : isTy T (.int a) = decide (T = "int") := rfl
@[simp] theorem isTy_b {T : String} : isTy T (.bool p) = (decide (T = "bool") || decide (T = "int")) := rfl
@[simp] theorem isTy_s {T : String} : isTy T (.str x) = decide (T = "str") := rfl
@[simp] theorem isTy_t {T : String} : isTy T (.tuple l) = decide (T = "tuple") := rfl
@[simp] theorem isTy_l {T : String} : isTy T (.list l) = decide (T = "list") := rfl
@[simp] theorem isTy_n {T : String} : isTy T .none = decide (T = "NoneType") := rfl
theorem atI_lit {α : Type} {l : List α} {n : Nat} : atI l (@OfNat.ofNat Int n instOfNat) = l[n]? := by
  unfold atI ixN
  have e : (@OfNat.ofNat Int n instOfNat) = (n : Int) := rfl
  rw [e, if_pos (by omega)]
  by_cases h : (n : Int) < (l.length : Int)
  · rw [if_pos h]
    simp
  · rw [if_neg h]
    simp
    omega
@[simp] theorem atI_0 : atI (d :: l) 0 = some d := atI_lit
section
variable {d1 d2 d3 d4 d5 d6 d7 d8 d9 : D}
@[simp] theorem atI_1 : atI (d :: d1 :: l) 1 = some d1 := atI_lit
@[simp] theorem atI_2 : atI (d :: d1 :: d2 :: l) 2 = some d2 := atI_lit
@[simp] theorem atI_3 : atI (d :: d1 :: d2 :: d3 :: l) 3 = some d3 := atI_lit
@[simp] theorem atI_4 : atI (d :: d1 :: d2 :: d3 :: d4 :: l) 4 = some d4 := atI_lit
@[simp] theorem atI_5 : atI (d :: d1 :: d2 :: d3 :: d4 :: d5 :: l) 5 = some d5 := atI_lit
@[simp] theorem atI_6 : atI (d :: d1 :: d2 :: d3 :: d4 :: d5 :: d6 :: l) 6 = some d6 := atI_lit
@[simp] theorem atI_7 : atI (d :: d1 :: d2 :: d3 :: d4 :: d5 :: d6 :: d7 :: l) 7 = some d7 := atI_lit
@[simp] theorem ixN_0 {n : Nat} (h : 0 < n) : ixN n 0 = some 0 := by
  unfold ixN
  rw [if_pos (by omega), if_pos (by omega)]
  rfl
end
theorem ixN_num {n k : Nat} (h : k < n) : ixN n (@OfNat.ofNat Int k instOfNat) = some k := by
  unfold ixN
  have e : (@OfNat.ofNat Int k instOfNat) = (k : Int) := rfl
  rw [e, if_pos (by omega), if_pos (by omega)]
  simp
@[simp] theorem ixN_1 {n : Nat} : ixN (n + 2) 1 = some 1 := ixN_num (Nat.lt_of_lt_of_le (Nat.lt_succ_self 1) (Nat.le_add_left 2 n))
@[simp] theorem ixN_5_0 : ixN 5 0 = some 0 := rfl
@[simp] theorem ixN_5_1 : ixN 5 1 = some 1 := rfl
@[simp] theorem ixN_5_2 : ixN 5 2 = some 2 := rfl
@[simp] theorem ixN_5_3 : ixN 5 3 = some 3 := rfl
@[simp] theorem ixN_5_4 : ixN 5 4 = some 4 := rfl
@[simp] theorem cut_to {l : List D} {k : Nat} : cutD l none (some (no_index (@OfNat.ofNat Int k instOfNat))) = l.take (@OfNat.ofNat Nat k (instOfNatNat k)) := by
  show cutD l none (some (@OfNat.ofNat Int k instOfNat)) = l.take k
  have e : (@OfNat.ofNat Int k instOfNat) = (k : Int) := rfl
  unfold cutD
  rw [HT.sIx_none, e, HT.sIx_nat, List.drop_zero, Nat.sub_zero]
  by_cases h : k ≤ l.length
  · rw [Nat.min_eq_left h]
  · rw [Nat.min_eq_right (by omega), List.take_of_length_le (Nat.le_refl _), List.take_of_length_le (by omega)]
@[simp] theorem ints_map {ns : List Int} : ints? (ns.map .int) = some ns := by
  induction ns with
  | nil => rfl
  | cons n ns ih => rw [List.map_cons, ints_cons, ih]; rfl
@[simp] theorem ixN_lit {n : Nat} {k : Nat} (h : k < n) : ixN n (k : Int) = some k := by
  unfold ixN
  rw [if_pos (by omega), if_pos (by omega)]
  simp
theorem atI_of {α : Type} {l : List α} {i : Int} {k : Nat} {v : α} (hi : i = (k : Int)) (h : l[k]? = some v) : atI l i = some v := by
  subst hi
  exact atI_nat h
end
theorem cmul {a b : Int} (ha : a.natAbs < 2 ^ 300) (hb : b.natAbs < 2 ^ 300) : CMulW a b := wide_mul ha hb (by decide) (by decide) (by decide)
theorem cdiv {a b : Int} (h0 : 0 < b) (hb : b.natAbs < 2 ^ 300) : CDivW a b := wide_div h0 hb (by decide) (by decide)
@[simp] theorem sizeLine_eq : sizeLine = 16777216 := Nat.le_antisymm (by decide) (by decide)
@[simp ↓] theorem ev_mul {a b : Int} {ρ : Env} {Q : Rs → Env → Prop} : Ev (oMul [.own (.p (.int a)), .own (.p (.int b))]) ρ Q ↔ CMulW a b ∧ Q (.own (.p (.int (a * b)))) ρ := by
  constructor
  · rintro ⟨r, ρ', e, q⟩
    unfold oMul oMulI opG oRep at e
    simp only [viewAll, Rs.view, pInt] at e
    by_cases h : CMulW a b
    · simp only [if_pos h] at e
      cases e
      exact ⟨h, q⟩
    · simp only [if_neg h] at e
      cases e
  · rintro ⟨h, q⟩
    refine ⟨_, ρ, ?_, q⟩
    unfold oMul oMulI opG
    simp only [viewAll, Rs.view, pInt, if_pos h]
    rfl
@[simp ↓] theorem ev_mulL {t : Option Nat} {l : List D} {k : Int} {ρ : Env} {Q : Rs → Env → Prop} : Ev (oMul [.own (.ml t l), .own (.p (.int k))]) ρ Q ↔ (-(2 ^ 63) ≤ k ∧ k < 2 ^ 63 ∧ l.length * k.toNat ≤ sizeLine) ∧ Q (.own (.ml none (List.replicate k.toNat l).flatten)) ρ := by
  constructor
  · rintro ⟨r, ρ', e, q⟩
    unfold oMul oMulI opG oRep at e
    simp only [viewAll, Rs.view, pInt] at e
    split at e
    · rename_i h
      cases e
      exact ⟨h, q⟩
    · cases e
  · rintro ⟨h, q⟩
    refine ⟨_, ρ, ?_, q⟩
    unfold oMul oMulI opG oRep
    simp only [viewAll, Rs.view, pInt, if_pos h]
theorem ev_loop_inv {t : D → Env → Option Env} {body : M Fl} {Q : Fl → Env → Prop} (all : List D) (I : List D → Env → Prop)
    (hs : ∀ done d r ρ, all = done ++ d :: r → I done ρ → envQ (fun ρ1 => Ev body ρ1 fun fl ρ2 => (fl = .nx ∨ fl = .ct) ∧ I (done ++ [d]) ρ2) (t d ρ)) (hd : ∀ ρ', I all ρ' → Q .nx ρ') :
    ∀ (rest done : List D) (ρ : Env), all = done ++ rest → I done ρ → Ev (loopD t body rest) ρ Q
  | [], done, ρ, ha, h0 => by
    unfold loopD
    rw [ev_ret]
    exact hd ρ (by rw [ha]; simpa using h0)
  | d :: r, done, ρ, ha, h0 => by
    have h := hs done d r ρ ha h0
    unfold envQ at h
    split at h
    · rename_i ρ1 e1
      obtain ⟨fl, ρ2, e2, hfl, h2⟩ := h
      obtain ⟨a, ρ3, e3, q⟩ := ev_loop_inv all I hs hd r (done ++ [d]) ρ2 (by rw [ha]; simp) h2
      refine ⟨a, ρ3, ?_, q⟩
      unfold loopD
      simp only [e1, e2]
      rcases hfl with rfl | rfl
      · exact e3
      · exact e3
    · exact h.elim
theorem ev_loop {t : D → Env → Option Env} {body : M Fl} {Q : Fl → Env → Prop} {l : List D} {ρ : Env} (I : List D → Env → Prop) (h0 : I [] ρ)
    (hs : ∀ done d r ρ, l = done ++ d :: r → I done ρ → envQ (fun ρ1 => Ev body ρ1 fun fl ρ2 => (fl = .nx ∨ fl = .ct) ∧ I (done ++ [d]) ρ2) (t d ρ)) (hd : ∀ ρ', I l ρ' → Q .nx ρ') : Ev (loopD t body l) ρ Q :=
  ev_loop_inv l I hs hd l [] ρ rfl h0
@[simp ↓] theorem ev_for {src : M (List D)} {t : D → Env → Option Env} {body : M Fl} {ρ : Env} {Q : Fl → Env → Prop} : Ev (gFor src t body) ρ Q ↔ Ev src ρ fun l ρ1 => Ev (loopD t body l) ρ1 Q := by
  unfold gFor
  exact ev_bind
@[simp ↓] theorem ev_loop_nil {t : D → Env → Option Env} {body : M Fl} {ρ : Env} {Q : Fl → Env → Prop} : Ev (loopD t body []) ρ Q ↔ Q .nx ρ := by
  unfold loopD
  exact ev_ret
def turnQ (t : D → Env → Option Env) (body : M Fl) (l : List D) (Q : Fl → Env → Prop) (ρ : Env) : Fl → Prop
  | .nx => Ev (loopD t body l) ρ Q
  | .ct => Ev (loopD t body l) ρ Q
  | .bk => Q .nx ρ
  | .rt s => Q (.rt s) ρ
@[simp ↓] theorem turnQ_nx {t : D → Env → Option Env} {body : M Fl} {l : List D} {Q : Fl → Env → Prop} {ρ : Env} : turnQ t body l Q ρ .nx = Ev (loopD t body l) ρ Q := rfl
@[simp ↓] theorem turnQ_ct {t : D → Env → Option Env} {body : M Fl} {l : List D} {Q : Fl → Env → Prop} {ρ : Env} : turnQ t body l Q ρ .ct = Ev (loopD t body l) ρ Q := rfl
@[simp ↓] theorem turnQ_bk {t : D → Env → Option Env} {body : M Fl} {l : List D} {Q : Fl → Env → Prop} {ρ : Env} : turnQ t body l Q ρ .bk = Q .nx ρ := rfl
@[simp ↓] theorem turnQ_rt {t : D → Env → Option Env} {body : M Fl} {l : List D} {Q : Fl → Env → Prop} {ρ : Env} {s : Sl} : turnQ t body l Q ρ (.rt s) = Q (.rt s) ρ := rfl
theorem ev_loop_cons {t : D → Env → Option Env} {body : M Fl} {d : D} {l : List D} {ρ : Env} {Q : Fl → Env → Prop} : Ev (loopD t body (d :: l)) ρ Q ↔ envQ (fun ρ1 => Ev body ρ1 fun fl ρ2 => turnQ t body l Q ρ2 fl) (t d ρ) := by
  constructor
  · rintro ⟨a, ρ', e, q⟩
    unfold loopD at e
    split at e
    · cases e
    · rename_i ρ1 e1
      rw [e1, envQ_s]
      split at e
      · cases e
      · rename_i fl ρ2 e2
        refine ⟨fl, ρ2, e2, ?_⟩
        cases fl with
        | nx => exact ⟨a, ρ', e, q⟩
        | ct => exact ⟨a, ρ', e, q⟩
        | bk => cases e; exact q
        | rt s => cases e; exact q
  · intro h
    unfold envQ at h
    split at h
    · rename_i ρ1 e1
      obtain ⟨fl, ρ2, e2, q⟩ := h
      cases fl with
      | nx =>
        obtain ⟨a, ρ3, e3, q⟩ := q
        exact ⟨a, ρ3, by unfold loopD; simp only [e1, e2]; exact e3, q⟩
      | ct =>
        obtain ⟨a, ρ3, e3, q⟩ := q
        exact ⟨a, ρ3, by unfold loopD; simp only [e1, e2]; exact e3, q⟩
      | bk => exact ⟨_, _, by unfold loopD; simp only [e1, e2], q⟩
      | rt s => exact ⟨_, _, by unfold loopD; simp only [e1, e2], q⟩
    · exact h.elim
def seqQ (ρ : Env) (Q : List D → Env → Prop) : D → Prop
  | .list l => Q l ρ
  | .tuple l => Q l ρ
  | .str z => Q (strSigns z) ρ
  | _ => False
@[simp] theorem seqQ_l {ρ : Env} {Q : List D → Env → Prop} {l : List D} : seqQ ρ Q (.list l) = Q l ρ := rfl
@[simp] theorem seqQ_t {ρ : Env} {Q : List D → Env → Prop} {l : List D} : seqQ ρ Q (.tuple l) = Q l ρ := rfl
@[simp] theorem seqQ_s {ρ : Env} {Q : List D → Env → Prop} {z : Str} : seqQ ρ Q (.str z) = Q (strSigns z) ρ := rfl
@[simp ↓] theorem ev_mSeq {f : M Rs} {ρ : Env} {Q : List D → Env → Prop} : Ev (mSeq f) ρ Q ↔ Ev f ρ fun r ρ1 => Ev (freezeR r) ρ1 fun d ρ2 => seqQ ρ2 Q d := by
  unfold mSeq
  simp only [ev_bind]
  constructor
  · rintro ⟨r, ρ1, e, d, ρ2, e2, b, ρ3, e3, q⟩
    refine ⟨r, ρ1, e, d, ρ2, e2, ?_⟩
    try dsimp only at e3
    split at e3
    · cases e3; exact q
    · cases e3; exact q
    · cases e3; exact q
    · cases e3
  · rintro ⟨r, ρ1, e, d, ρ2, e2, q⟩
    refine ⟨r, ρ1, e, d, ρ2, e2, ?_⟩
    cases d with
    | list l => exact ⟨l, ρ2, rfl, q⟩
    | tuple l => exact ⟨l, ρ2, rfl, q⟩
    | str l => exact ⟨_, ρ2, rfl, q⟩
    | none => exact q.elim
    | bool b => exact q.elim
    | int b => exact q.elim
    | dict b => exact q.elim
def rng1Q (ρ : Env) (Q : List D → Env → Prop) : Option (List D) → Prop
  | some [.int j] => (-(2 ^ 62) ≤ j ∧ j < 2 ^ 62) ∧ Q (rngD 0 j.toNat) ρ
  | _ => False
@[simp] theorem rng1Q_i {ρ : Env} {Q : List D → Env → Prop} {j : Int} : rng1Q ρ Q (some [.int j]) = ((-(2 ^ 62) ≤ j ∧ j < 2 ^ 62) ∧ Q (rngD 0 j.toNat) ρ) := rfl
@[simp ↓] theorem ev_rng1 {f : M (List Rs)} {ρ : Env} {Q : List D → Env → Prop} : Ev (mRng1 f) ρ Q ↔ Ev f ρ fun rs ρ1 => rng1Q ρ1 Q (viewAll rs ρ1) := by
  unfold mRng1
  simp only [ev_bind]
  constructor
  · rintro ⟨r, ρ1, e, b, ρ3, e3, q⟩
    refine ⟨r, ρ1, e, ?_⟩
    try dsimp only at e3
    split at e3
    · rename_i j h
      split at e3
      · rename_i h2; cases e3; rw [h]; exact ⟨h2, q⟩
      · cases e3
    · cases e3
  · rintro ⟨r, ρ1, e, q⟩
    refine ⟨r, ρ1, e, ?_⟩
    unfold rng1Q at q
    split at q
    · rename_i j h
      exact ⟨_, ρ1, by simp only [h]; rw [if_pos q.1], q.2⟩
    · exact q.elim
@[simp ↓] theorem ev_lc {src : M (List D)} {own : List Nat} {t : D → Env → Option Env} {tt : M Bool} {te : M Rs} {ρ : Env} {Q : Rs → Env → Prop} :
    Ev (eLc src own t tt te) ρ Q ↔ Ev src ρ fun l ρ0 => plainAt ρ0 own = true ∧ Ev (compD own t tt te l []) ρ0 fun acc ρ1 => Q (.own (.ml none acc)) (backE ρ0 (wipeE ρ1 own) own) := by
  unfold eLc
  rw [ev_bind]
  constructor
  · rintro ⟨l, ρ1, e, b, ρ2, e2, q⟩
    refine ⟨l, ρ1, e, ?_⟩
    dsimp only at e2
    split at e2
    · rename_i hp
      split at e2
      · rename_i acc ρ3 h; cases e2; exact ⟨hp, acc, ρ3, h, q⟩
      · cases e2
    · cases e2
  · rintro ⟨l, ρ1, e, hp, acc, ρ3, h, q⟩
    exact ⟨l, ρ1, e, _, _, by dsimp only; rw [if_pos hp, h], q⟩
@[simp] theorem wipeE_nil {ρ : Env} : wipeE ρ [] = ρ := rfl
@[simp] theorem wipeE_cons {ρ : Env} {v : Nat} {vs : List Nat} : wipeE ρ (v :: vs) = (wipeE ρ vs).set v none := rfl
@[simp] theorem backE_nil {ρ ρ0 : Env} : backE ρ0 ρ [] = ρ := rfl
@[simp] theorem backE_cons {ρ ρ0 : Env} {v : Nat} {vs : List Nat} : backE ρ0 ρ (v :: vs) = (backE ρ0 ρ vs).set v (ρ0.getD v none) := rfl
def slotP : Option (Option Sl) → Bool
  | some (some (.p _)) => true
  | some none => true
  | _ => false
@[simp] theorem slotP_p {d : D} : slotP (some (some (.p d))) = true := rfl
@[simp] theorem slotP_n : slotP (some none) = true := rfl
@[simp] theorem plainAt_nil {ρ : Env} : plainAt ρ [] = true := rfl
@[simp] theorem plainAt_cons {ρ : Env} {v : Nat} {vs : List Nat} : plainAt ρ (v :: vs) = (slotP ρ[v]? && plainAt ρ vs) := by
  rw [plainAt]
  congr 1
@[simp ↓] theorem ev_yes {ρ : Env} {Q : Bool → Env → Prop} : Ev tYes' ρ Q ↔ Q true ρ := ev_ret
theorem ev_comp_inv {own : List Nat} {t : D → Env → Option Env} {tt : M Bool} {te : M Rs} {Q : List D → Env → Prop} (all : List D) (I : List D → List D → Env → Prop)
    (hs : ∀ done d r acc ρ, all = done ++ d :: r → I done acc ρ → envQ (fun ρ1 => Ev tt ρ1 fun b ρ2 => if b = true then Ev te ρ2 fun r ρ3 => Ev (freezeR r) ρ3 fun y ρ4 => acc.length < sizeLine ∧ I (done ++ [d]) (acc ++ [y]) ρ4 else I (done ++ [d]) acc ρ2) (t d (wipeE ρ own)))
    (hd : ∀ acc ρ', I all acc ρ' → Q acc ρ') : ∀ (rest done acc : List D) (ρ : Env), all = done ++ rest → I done acc ρ → Ev (compD own t tt te rest acc) ρ Q
  | [], done, acc, ρ, ha, h0 => by
    unfold compD
    rw [ev_ret]
    exact hd acc ρ (by rw [ha]; simpa using h0)
  | d :: r, done, acc, ρ, ha, h0 => by
    have h := hs done d r acc ρ ha h0
    unfold envQ at h
    split at h
    · rename_i ρ1 e1
      obtain ⟨b, ρ2, e2, q⟩ := h
      cases b with
      | false =>
        rw [if_neg (by decide)] at q
        obtain ⟨a, ρ3, e3, q3⟩ := ev_comp_inv all I hs hd r (done ++ [d]) acc ρ2 (by rw [ha]; simp) q
        refine ⟨a, ρ3, ?_, q3⟩
        unfold compD
        simp only [e1, e2]
        exact e3
      | true =>
        rw [if_pos rfl] at q
        obtain ⟨rr, ρ3, e3, y, ρ4, e4, hl, q⟩ := q
        obtain ⟨a, ρ5, e5, q5⟩ := ev_comp_inv all I hs hd r (done ++ [d]) (acc ++ [y]) ρ4 (by rw [ha]; simp) q
        refine ⟨a, ρ5, ?_, q5⟩
        unfold compD
        have : M.bind te freezeR ρ2 = some (.ok y ρ4) := by unfold M.bind; simp only [e3, e4]
        simp only [e1, e2, this, if_pos hl]
        exact e5
    · exact h.elim
theorem ev_comp {own : List Nat} {t : D → Env → Option Env} {tt : M Bool} {te : M Rs} {Q : List D → Env → Prop} {l : List D} {ρ : Env} (I : List D → List D → Env → Prop) (h0 : I [] [] ρ)
    (hs : ∀ done d r acc ρ, l = done ++ d :: r → I done acc ρ → envQ (fun ρ1 => Ev tt ρ1 fun b ρ2 => if b = true then Ev te ρ2 fun r ρ3 => Ev (freezeR r) ρ3 fun y ρ4 => acc.length < sizeLine ∧ I (done ++ [d]) (acc ++ [y]) ρ4 else I (done ++ [d]) acc ρ2) (t d (wipeE ρ own)))
    (hd : ∀ acc ρ', I l acc ρ' → Q acc ρ') : Ev (compD own t tt te l []) ρ Q := ev_comp_inv l I hs hd l [] [] ρ rfl h0
end B
end Pd
set_option Elab.async false
set_option linter.all false
set_option maxRecDepth 100000
set_option maxHeartbeats 1000000
namespace Pd
open PySem PySem.Spec PyProof.Rows L2
open B (view_p view_ml slotV slotV_ml slotV_p view_bor viewAll_nil viewAll_cons Sl.tag_p Sl.tag_ml Sl.tag_md Sl.tag_mr Sl.tag_ob Sl.tag_ex Sl.tag_tp Sl.tag_fd Sl.mark_fd Sl.bare_fd Sl.retag_fd Sl.mark_p Sl.mark_ml Sl.mark_md Sl.mark_mr Sl.mark_ob Sl.mark_ex Sl.bare_p Sl.bare_ml Sl.bare_md Sl.bare_mr Sl.bare_ob Sl.bare_ex Sl.retag_p Sl.retag_ml Sl.retag_md Sl.retag_mr Sl.retag_ob Sl.retag_ex tgName_eq tgTup_eq tgNil_eq tgCons_eq argS_nil argS_own argS_bor' bors_nil bors_own bors_bor wb_nil wb_own wb_bor slotT slotT_s tagAt_eq kindOk_l kindOk_s kQ kQ_t fAppend_eq endE_nil endE_p slotE slotE_s endE_ml endE_md endE_mr endE_ob endE_ex startE_eq markAll_nil markAll_cons rep_z rep_s Rd'_rs_pd oAdd_eq oSub_eq oDiv_eq oMod_eq oEq_eq oNe_eq oLt_eq oLe_eq oGt_eq oGe_eq oIn_eq oNi_eq oIs_eq oIx_eq oSl_eq oLen_eq oSum_eq oMax_eq oAbs_eq oInt1_eq oListOf_eq oTupOf_eq oNeg_eq oTup_eq oLst_eq pAdd_ii pAdd_ss pAdd_tt pAdd_ll pSub_ii pInt_ii pCmpI_ii pIs_n pIs_b isNon_i isNon_n isNon_s isNon_b isNon_t isNon_l pIx_l pIx_t pIx_s pSl_l pSl_t pSl_s pLen_l pLen_t pLen_s pSum_l pSum_t pMax_l pMax_ii pAbs_i pInt1_i pInt1_b pListOf_l pListOf_t pTupOf_l pTupOf_t pNeg_i pTup_eq pLst_eq pEq_eq pNe_eq pIn_l pIn_t pNi_l pNi_t dep_i dep_s dep_b dep_n dep_t dep_l depA_n depA_c eqv_ii eqv_ss eqv_bb eqv_nn eqv_tt eqv_ll eqvA_nn eqvA_cc eqvA_nc eqvA_cn ints_nil ints_cons isTy_i isTy_b isTy_s isTy_t isTy_l isTy_n atI_lit atI_0 atI_1 atI_2 atI_3 atI_4 atI_5 atI_6 atI_7 ixN_0 ixN_num ixN_1 ixN_5_0 ixN_5_1 ixN_5_2 ixN_5_3 ixN_5_4 cut_to ints_map ixN_lit atI_of cmul cdiv sizeLine_eq wipeE_nil wipeE_cons backE_nil backE_cons slotP slotP_p slotP_n plainAt_nil plainAt_cons)
class Fx {α : Sort u} (q : α) : Type
instance {α : Sort u} (q : α) : Fx q := {}
open PySem PySem.Spec PyProof.Rows L2
def Ev {α : Type} (f : M α) (ρ : Env) (Q : α → Env → Prop) [Fx Q] : Prop := B.Ev f ρ Q
def Sp (F : List Sl → Option (Sl × List Sl)) (ss : List Sl) (Q : Sl → List Sl → Prop) [Fx Q] : Prop := B.Sp F ss Q
theorem Ev.mono {α : Type} {f : M α} {ρ : Env} {Q Q' : α → Env → Prop} (h : Ev f ρ Q) (i : ∀ a ρ', Q a ρ' → Q' a ρ') : Ev f ρ Q' := B.Ev.mono h i
theorem Sp.mono {F : List Sl → Option (Sl × List Sl)} {ss : List Sl} {Q Q' : Sl → List Sl → Prop} (h : Sp F ss Q) (i : ∀ a ρ', Q a ρ' → Q' a ρ') : Sp F ss Q' := B.Sp.mono h i
theorem sp_iff {F : List Sl → Option (Sl × List Sl)} {ss ss' : List Sl} {r : Sl} (h : Sp F ss fun a b => a = r ∧ b = ss') (Q : Sl → List Sl → Prop) : Sp F ss Q ↔ Q r ss' := B.sp_iff h Q
section
variable {α β : Type} {ρ ρ' : Env}
@[simp ↓] theorem ev_bind {f : M α} {g : α → M β} {Q : β → Env → Prop} : Ev (M.bind f g) ρ Q ↔ Ev f ρ fun a ρ1 => Ev (g a) ρ1 Q := B.ev_bind
@[simp ↓] theorem ev_ret {a : α} {Q : α → Env → Prop} : Ev (M.ret a) ρ Q ↔ Q a ρ := B.ev_ret
@[simp ↓] theorem ev_fail {Q : α → Env → Prop} : Ev M.fail ρ Q ↔ False := B.ev_fail
@[simp ↓] theorem ev_c {d : D} {Q : Rs → Env → Prop} : Ev (eC d) ρ Q ↔ Q (.own (.p d)) ρ := B.ev_c
@[simp ↓] theorem ev_bin {fa fb : M Rs} {op : List Rs → M Rs} {Q : Rs → Env → Prop} : Ev (eBin fa fb op) ρ Q ↔ Ev fa ρ fun a ρ1 => Ev fb ρ1 fun b ρ2 => Ev (op [a, b]) ρ2 Q := B.ev_bin
@[simp ↓] theorem ev_un {fa : M Rs} {op : List Rs → M Rs} {Q : Rs → Env → Prop} : Ev (eUn fa op) ρ Q ↔ Ev fa ρ fun a ρ1 => Ev (op [a]) ρ1 Q := B.ev_un
@[simp ↓] theorem ev_aNil {Q : List Rs → Env → Prop} : Ev aNil ρ Q ↔ Q [] ρ := B.ev_aNil
@[simp ↓] theorem ev_aCons {f : M Rs} {g : M (List Rs)} {Q : List Rs → Env → Prop} : Ev (aCons f g) ρ Q ↔ Ev f ρ fun a ρ1 => Ev g ρ1 fun r ρ2 => Q (a :: r) ρ2 := B.ev_aCons
def slotQ (i : Nat) (ρ : Env) (Q : Rs → Env → Prop) [Fx Q] (o0 : Option (Option Sl)) : Prop := B.slotQ i ρ Q o0
@[simp] theorem slotQ_p {i : Nat} {Q : Rs → Env → Prop} {d : D} : slotQ i ρ Q (some (some (.p d))) = Q (.own (.p d)) ρ := B.slotQ_p
@[simp] theorem slotQ_ml {i : Nat} {Q : Rs → Env → Prop} {t : Option Nat} {d : List D} : slotQ i ρ Q (some (some (.ml t d))) = Q (.bor i) ρ := B.slotQ_ml
@[simp] theorem slotQ_md {i : Nat} {Q : Rs → Env → Prop} {t : Option Nat} {d : List (Key × D)} : slotQ i ρ Q (some (some (.md t d))) = Q (.bor i) ρ := B.slotQ_md
@[simp] theorem slotQ_mr {i : Nat} {Q : Rs → Env → Prop} {t : Option Nat} {d : List Sl} : slotQ i ρ Q (some (some (.mr t d))) = Q (.bor i) ρ := B.slotQ_mr
@[simp] theorem slotQ_ob {i : Nat} {Q : Rs → Env → Prop} {t : Option Nat} {c : Str} {ns : List Str} {d : List Sl} : slotQ i ρ Q (some (some (.ob t c ns d))) = Q (.bor i) ρ := B.slotQ_ob
@[simp] theorem slotQ_tp {i : Nat} {Q : Rs → Env → Prop} {d : List Sl} : slotQ i ρ Q (some (some (.tp d))) = Q (.bor i) ρ := B.slotQ_tp
@[simp] theorem slotQ_fd {i : Nat} {Q : Rs → Env → Prop} {l : List (Key × D)} : slotQ i ρ Q (some (some (.fd l))) = Q (.own (.fd l)) ρ := B.slotQ_fd
@[simp] theorem slotQ_ex {i : Nat} {Q : Rs → Env → Prop} {c : Str} {f : Option (Str × D)} : slotQ i ρ Q (some (some (.ex c f))) = Q (.own (.ex c f)) ρ := B.slotQ_ex
@[simp ↓] theorem ev_name {i : Nat} {Q : Rs → Env → Prop} : Ev (eName i) ρ Q ↔ slotQ i ρ Q ρ[i]? := B.ev_name
def resQ (ρ : Env) (Q : Rs → Env → Prop) [Fx Q] (o0 : Option Rd') : Prop := B.resQ ρ Q o0
@[simp] theorem resQ_pd {Q : Rs → Env → Prop} {d : D} : resQ ρ Q (some (.pd d)) = Q (.own (.p d)) ρ := B.resQ_pd
@[simp] theorem resQ_nl {Q : Rs → Env → Prop} {l : List D} : resQ ρ Q (some (.nl l)) = Q (.own (.ml none l)) ρ := B.resQ_nl
@[simp] theorem resQ_none {Q : Rs → Env → Prop} : resQ ρ Q none = False := B.resQ_none
@[simp] theorem resQ_ite {Q : Rs → Env → Prop} {c : Prop} [Decidable c] {o : Option Rd'} : resQ ρ Q (if c then o else none) ↔ c ∧ resQ ρ Q o := B.resQ_ite
@[simp ↓] theorem ev_opG {pf : List D → Option Rd'} {rs : List Rs} {Q : Rs → Env → Prop} : Ev (opG pf rs) ρ Q ↔ resQ ρ Q ((viewAll rs ρ).bind pf) := B.ev_opG
@[simp ↓] theorem ev_opF {pf : List D → Option Rd'} {rs : List Rs} {Q : Rs → Env → Prop} : Ev (opF pf rs) ρ Q ↔ Ev (freezeAll rs) ρ fun ds ρ1 => resQ ρ1 Q (pf ds) := B.ev_opF
@[simp ↓] theorem ev_freezeAll_nil {Q : List D → Env → Prop} : Ev (freezeAll []) ρ Q ↔ Q [] ρ := B.ev_freezeAll_nil
@[simp ↓] theorem ev_freezeAll_cons {r : Rs} {rs : List Rs} {Q : List D → Env → Prop} : Ev (freezeAll (r :: rs)) ρ Q ↔ Ev (freezeR r) ρ fun d ρ1 => Ev (freezeAll rs) ρ1 fun ds ρ2 => Q (d :: ds) ρ2 := B.ev_freezeAll_cons
def testQ (ρ : Env) (Q : Bool → Env → Prop) [Fx Q] (o0 : Option D) : Prop := B.testQ ρ Q o0
@[simp] theorem testQ_b {Q : Bool → Env → Prop} {b : Bool} : testQ ρ Q (some (.bool b)) = Q b ρ := B.testQ_b
@[simp ↓] theorem ev_test {f : M Rs} {Q : Bool → Env → Prop} : Ev (mTest f) ρ Q ↔ Ev f ρ fun r ρ1 => testQ ρ1 Q (r.view ρ1) := B.ev_test
@[simp ↓] theorem ev_and {fa fb : M Rs} {Q : Rs → Env → Prop} : Ev (eAnd fa fb) ρ Q ↔ Ev (mTest fa) ρ fun b ρ1 => if b = true then Ev fb ρ1 Q else Q (.own (.p (.bool false))) ρ1 := B.ev_and
@[simp ↓] theorem ev_or {fa fb : M Rs} {Q : Rs → Env → Prop} : Ev (eOr fa fb) ρ Q ↔ Ev (mTest fa) ρ fun b ρ1 => if b = true then Q (.own (.p (.bool true))) ρ1 else Ev fb ρ1 Q := B.ev_or
@[simp ↓] theorem ev_tand {c d : M Bool} {Q : Bool → Env → Prop} : Ev (tAnd' c d) ρ Q ↔ Ev c ρ fun b ρ1 => if b = true then Ev d ρ1 Q else Q false ρ1 := B.ev_tand
@[simp ↓] theorem ev_tor {c d : M Bool} {Q : Bool → Env → Prop} : Ev (tOr' c d) ρ Q ↔ Ev c ρ fun b ρ1 => if b = true then Q true ρ1 else Ev d ρ1 Q := B.ev_tor
@[simp ↓] theorem ev_tnot {c : M Bool} {Q : Bool → Env → Prop} : Ev (tNot' c) ρ Q ↔ Ev c ρ fun b ρ1 => Q (!b) ρ1 := B.ev_tnot
def isiQ (ρ : Env) (T : String) (Q : Rs → Env → Prop) [Fx Q] (o0 : Option D) : Prop := B.isiQ ρ T Q o0
@[simp] theorem isiQ_s {T : String} {Q : Rs → Env → Prop} {d : D} : isiQ ρ T Q (some d) = Q (.own (.p (.bool (isTy T d)))) ρ := B.isiQ_s
@[simp ↓] theorem ev_isi {T : String} {r : Rs} {Q : Rs → Env → Prop} : Ev (oIsi T r) ρ Q ↔ isiQ ρ T Q (r.view ρ) := B.ev_isi
def intQ (ρ : Env) (Q : Option Int → Env → Prop) [Fx Q] (o0 : Option D) : Prop := B.intQ ρ Q o0
@[simp] theorem intQ_i {Q : Option Int → Env → Prop} {b : Int} : intQ ρ Q (some (.int b)) = Q (some b) ρ := B.intQ_i
@[simp ↓] theorem ev_mInt {f : M Rs} {Q : Option Int → Env → Prop} : Ev (mInt f) ρ Q ↔ Ev f ρ fun r ρ1 => intQ ρ1 Q (r.view ρ1) := B.ev_mInt
@[simp ↓] theorem ev_mNo {Q : Option Int → Env → Prop} : Ev mNo ρ Q ↔ Q none ρ := B.ev_mNo
@[simp ↓] theorem ev_sl {fe : M Rs} {lo hi : M (Option Int)} {op : Option Int → Option Int → List Rs → M Rs} {Q : Rs → Env → Prop} :
    Ev (eSl fe lo hi op) ρ Q ↔ Ev fe ρ fun r ρ1 => Ev lo ρ1 fun l ρ2 => Ev hi ρ2 fun h ρ3 => Ev (op l h [r]) ρ3 Q := B.ev_sl
def takeQ (i : Nat) (ρ : Env) (Q : Sl → Env → Prop) [Fx Q] (o0 : Option (Option Sl)) : Prop := B.takeQ i ρ Q o0
@[simp] theorem takeQ_s {i : Nat} {Q : Sl → Env → Prop} {s : Sl} : takeQ i ρ Q (some (some s)) = Q s (ρ.set i none) := B.takeQ_s
@[simp ↓] theorem ev_take_own {s : Sl} {Q : Sl → Env → Prop} : Ev (takeR (.own s)) ρ Q ↔ Q s ρ := B.ev_take_own
@[simp ↓] theorem ev_take_bor {i : Nat} {Q : Sl → Env → Prop} : Ev (takeR (.bor i)) ρ Q ↔ takeQ i ρ Q ρ[i]? := B.ev_take_bor
@[simp ↓] theorem ev_gSet {i : Nat} {f : M Rs} {Q : Fl → Env → Prop} : Ev (gSet i f) ρ Q ↔ Ev f ρ fun r ρ1 => Ev (takeR r) ρ1 fun s ρ2 => i < ρ2.length ∧ Q .nx (ρ2.set i (some s)) := B.ev_gSet
@[simp ↓] theorem ev_gRet {f : M Rs} {Q : Fl → Env → Prop} : Ev (gRet f) ρ Q ↔ Ev f ρ fun r ρ1 => Ev (takeR r) ρ1 fun s ρ2 => s.tag = none ∧ Q (.rt s) ρ2 := B.ev_gRet
@[simp ↓] theorem ev_gNext {Q : Fl → Env → Prop} : Ev gNext ρ Q ↔ Q .nx ρ := B.ev_gNext
@[simp ↓] theorem ev_gExpr {f : M Rs} {Q : Fl → Env → Prop} : Ev (gExpr f) ρ Q ↔ Ev f ρ fun _ ρ1 => Q .nx ρ1 := B.ev_gExpr
def flQ (g : M Fl) (Q : Fl → Env → Prop) [Fx Q] (ρ : Env) (o0 : Fl) : Prop := B.flQ g Q ρ o0
@[simp ↓] theorem flQ_nx {g : M Fl} {Q : Fl → Env → Prop} : flQ g Q ρ .nx = Ev g ρ Q := B.flQ_nx
@[simp ↓] theorem flQ_bk {g : M Fl} {Q : Fl → Env → Prop} : flQ g Q ρ .bk = Q .bk ρ := B.flQ_bk
@[simp ↓] theorem flQ_ct {g : M Fl} {Q : Fl → Env → Prop} : flQ g Q ρ .ct = Q .ct ρ := B.flQ_ct
@[simp ↓] theorem flQ_rt {g : M Fl} {Q : Fl → Env → Prop} {s : Sl} : flQ g Q ρ (.rt s) = Q (.rt s) ρ := B.flQ_rt
@[simp ↓] theorem ev_gSeq {g1 g2 : M Fl} {Q : Fl → Env → Prop} : Ev (gSeq g1 g2) ρ Q ↔ Ev g1 ρ fun fl ρ1 => flQ g2 Q ρ1 fl := B.ev_gSeq
@[simp ↓] theorem ev_ite {c : Prop} [Decidable c] {f g : M α} {Q : α → Env → Prop} : Ev (if c then f else g) ρ Q ↔ if c then Ev f ρ Q else Ev g ρ Q := B.ev_ite
@[simp ↓] theorem ev_gIf {c : M Bool} {g1 g2 : M Fl} {Q : Fl → Env → Prop} : Ev (gIf c g1 g2) ρ Q ↔ Ev c ρ fun b ρ1 => if b = true then Ev g1 ρ1 Q else Ev g2 ρ1 Q := B.ev_gIf
def envQ (Q : Env → Prop) [Fx Q] (o0 : Option Env) : Prop := B.envQ Q o0
@[simp] theorem envQ_s {Q : Env → Prop} : envQ Q (some ρ) = Q ρ := B.envQ_s
@[simp] theorem envQ_n {Q : Env → Prop} : envQ Q none = False := B.envQ_n
@[simp] theorem envQ_ite {Q : Env → Prop} {c : Prop} [Decidable c] {o : Option Env} : envQ Q (if c then o else none) ↔ c ∧ envQ Q o := B.envQ_ite
@[simp ↓] theorem ev_freeze_p {d : D} {Q : D → Env → Prop} : Ev (freezeR (.own (.p d))) ρ Q ↔ Q d ρ := B.ev_freeze_p
@[simp ↓] theorem ev_freeze_ml {t : Option Nat} {l : List D} {Q : D → Env → Prop} : Ev (freezeR (.own (.ml t l))) ρ Q ↔ Q (.list l) ρ := B.ev_freeze_ml
def freezeQ (i : Nat) (ρ : Env) (Q : D → Env → Prop) [Fx Q] (o0 : Option (Option Sl)) : Prop := B.freezeQ i ρ Q o0
@[simp] theorem freezeQ_ml {i : Nat} {Q : D → Env → Prop} {l : List D} : freezeQ i ρ Q (some (some (.ml none l))) = Q (.list l) (ρ.set i (some (.p (.list l)))) := B.freezeQ_ml
@[simp] theorem freezeQ_p {i : Nat} {Q : D → Env → Prop} {d : D} : freezeQ i ρ Q (some (some (.p d))) = Q d ρ := B.freezeQ_p
@[simp ↓] theorem ev_freeze_bor {i : Nat} {Q : D → Env → Prop} : Ev (freezeR (.bor i)) ρ Q ↔ freezeQ i ρ Q ρ[i]? := B.ev_freeze_bor
def argQ (Q : List Sl → Prop) [Fx Q] (o0 : Option (List Sl)) : Prop := B.argQ Q o0
@[simp] theorem argQ_s {Q : List Sl → Prop} {ss : List Sl} : argQ Q (some ss) = Q ss := B.argQ_s
@[simp] theorem argQ_n {Q : List Sl → Prop} : argQ Q none = False := B.argQ_n
@[simp ↓] theorem ev_opCall {n : Nat} {F : List Sl → Option (Sl × List Sl)} {rs : List Rs} {Q : Rs → Env → Prop} : Ev (opCall n F rs) ρ Q ↔ (rs.length = n ∧ (bors rs).Nodup) ∧ argQ (fun ss => Sp F ss fun r ss' => Q (.own r) (wb rs ss' ρ)) (argS rs ρ) := B.ev_opCall
def ixQ (Q : Nat → Prop) [Fx Q] (o0 : Option Nat) : Prop := B.ixQ Q o0
def subQ (j : Nat) (d : D) (ρ : Env) (Q : Fl → Env → Prop) [Fx Q] (o0 : Option (Option Sl)) (o1 : Option D) : Prop := B.subQ j d ρ Q o0 o1
@[simp] theorem ixQ_s {Q : Nat → Prop} {q : Nat} : ixQ Q (some q) = Q q := B.ixQ_s
@[simp] theorem subQ_ml {j : Nat} {d : D} {Q : Fl → Env → Prop} {t : Option Nat} {l : List D} {k : Int} : subQ j d ρ Q (some (some (.ml t l))) (some (.int k)) = ixQ (fun q => Q .nx (ρ.set j (some (.ml t (l.set q d))))) (ixN l.length k) := B.subQ_ml
@[simp ↓] theorem ev_setSub {j : Nat} {i : Rs} {d : D} {Q : Fl → Env → Prop} : Ev (setSub (.bor j) i d) ρ Q ↔ subQ j d ρ Q ρ[j]? (i.view ρ) := B.ev_setSub
@[simp ↓] theorem ev_gSub {f fo fi : M Rs} {Q : Fl → Env → Prop} : Ev (gSub f fo fi) ρ Q ↔ Ev f ρ fun r ρ1 => Ev (freezeR r) ρ1 fun d ρ2 => Ev fo ρ2 fun o ρ3 => Ev fi ρ3 fun i ρ4 => Ev (setSub o i d) ρ4 Q := B.ev_gSub
@[simp ↓] theorem ev_meth {T : String} {fo : M Rs} {fa : M (List Rs)} {op : List Rs → M Rs} {Q : Rs → Env → Prop} : Ev (eMeth T fo fa op) ρ Q ↔ Ev fo ρ fun o ρ1 => kQ (Ev fa ρ1 fun rs ρ2 => Ev (op (o :: rs)) ρ2 Q) (kindOk T (o.view ρ1)) := B.ev_meth
def l1Q (j : Nat) (ρ : Env) (f : List D → List D → Option (D × List D)) (ds : List D) (Q : Rs → Env → Prop) [Fx Q] (o0 : Option (Option Sl)) : Prop := B.l1Q j ρ f ds Q o0
def prQ (Q : D → List D → Prop) [Fx Q] (o0 : Option (D × List D)) : Prop := B.prQ Q o0
@[simp] theorem prQ_s {Q : D → List D → Prop} {d : D} {l : List D} : prQ Q (some (d, l)) = Q d l := B.prQ_s
@[simp] theorem prQ_n {Q : D → List D → Prop} : prQ Q none = False := B.prQ_n
@[simp] theorem prQ_ite {Q : D → List D → Prop} {c : Prop} [Decidable c] {o : Option (D × List D)} : prQ Q (if c then o else none) ↔ c ∧ prQ Q o := B.prQ_ite
@[simp] theorem l1Q_ml {j : Nat} {f : List D → List D → Option (D × List D)} {ds : List D} {Q : Rs → Env → Prop} {t : Option Nat} {l : List D} : l1Q j ρ f ds Q (some (some (.ml t l))) = prQ (fun d l' => Q (.own (.p d)) (ρ.set j (some (.ml t l')))) (f l ds) := B.l1Q_ml
@[simp ↓] theorem ev_opL1 {f : List D → List D → Option (D × List D)} {j : Nat} {rest : List Rs} {Q : Rs → Env → Prop} : Ev (opL1 f (.bor j :: rest)) ρ Q ↔ Ev (freezeAll rest) ρ fun ds ρ1 => l1Q j ρ1 f ds Q ρ1[j]? := B.ev_opL1
@[simp ↓] theorem ev_append {j : Nat} {rest : List Rs} {Q : Rs → Env → Prop} : Ev (o_append1 (.bor j :: rest)) ρ Q ↔ Ev (freezeAll rest) ρ fun ds ρ1 => l1Q j ρ1 fAppend ds Q ρ1[j]? := B.ev_append
@[simp ↓] theorem ev_pop1 {j : Nat} {rest : List Rs} {Q : Rs → Env → Prop} : Ev (o_pop1 (.bor j :: rest)) ρ Q ↔ Ev (freezeAll rest) ρ fun ds ρ1 => l1Q j ρ1 fPop1 ds Q ρ1[j]? := B.ev_pop1
@[simp ↓] theorem ev_chain {fa fb fc : M Rs} {op op' : List Rs → M Rs} {Q : Rs → Env → Prop} : Ev (eChain fa fb fc op op') ρ Q ↔ Ev fa ρ fun x ρ1 => Ev fb ρ1 fun y ρ2 => Ev (match y with
  | .own (.p d) => M.bind (mTest (op [x, .own (.p d)])) fun b => if b = true then M.bind fc fun z => op' [.own (.p d), z] else eC (.bool false)
  | _ => M.fail) ρ2 Q := B.ev_chain
end
def endQ (ss : List Sl) (Q : Sl → List Sl → Prop) [Fx Q] (ρ : Env) (o0 : Fl) : Prop := B.endQ ss Q ρ o0
@[simp ↓] theorem endQ_rt {ss : List Sl} {Q : Sl → List Sl → Prop} {ρ : Env} {s : Sl} : endQ ss Q ρ (.rt s) = argQ (fun ss' => Q s ss') (endE 0 ss ρ) := B.endQ_rt
@[simp ↓] theorem endQ_nx {ss : List Sl} {Q : Sl → List Sl → Prop} {ρ : Env} : endQ ss Q ρ .nx = argQ (fun ss' => Q (.p .none) ss') (endE 0 ss ρ) := B.endQ_nx
theorem sp_mkF {m : Nat} {g : M Fl} {ss : List Sl} {Q : Sl → List Sl → Prop} : Sp (mkF m g) ss Q ↔ Ev g (startE m ss) fun fl ρ' => endQ ss Q ρ' fl := B.sp_mkF
@[simp ↓] theorem ev_mul {a b : Int} {ρ : Env} {Q : Rs → Env → Prop} : Ev (oMul [.own (.p (.int a)), .own (.p (.int b))]) ρ Q ↔ CMulW a b ∧ Q (.own (.p (.int (a * b)))) ρ := B.ev_mul
@[simp ↓] theorem ev_mulL {t : Option Nat} {l : List D} {k : Int} {ρ : Env} {Q : Rs → Env → Prop} : Ev (oMul [.own (.ml t l), .own (.p (.int k))]) ρ Q ↔ (-(2 ^ 63) ≤ k ∧ k < 2 ^ 63 ∧ l.length * k.toNat ≤ sizeLine) ∧ Q (.own (.ml none (List.replicate k.toNat l).flatten)) ρ := B.ev_mulL
theorem ev_loop_inv {t : D → Env → Option Env} {body : M Fl} {Q : Fl → Env → Prop} (all : List D) (I : List D → Env → Prop)
    (hs : ∀ done d r ρ, all = done ++ d :: r → I done ρ → envQ (fun ρ1 => Ev body ρ1 fun fl ρ2 => (fl = .nx ∨ fl = .ct) ∧ I (done ++ [d]) ρ2) (t d ρ)) (hd : ∀ ρ', I all ρ' → Q .nx ρ') :
    ∀ (rest done : List D) (ρ : Env), all = done ++ rest → I done ρ → Ev (loopD t body rest) ρ Q := B.ev_loop_inv all I hs hd
theorem ev_loop {t : D → Env → Option Env} {body : M Fl} {Q : Fl → Env → Prop} {l : List D} {ρ : Env} (I : List D → Env → Prop) (h0 : I [] ρ)
    (hs : ∀ done d r ρ, l = done ++ d :: r → I done ρ → envQ (fun ρ1 => Ev body ρ1 fun fl ρ2 => (fl = .nx ∨ fl = .ct) ∧ I (done ++ [d]) ρ2) (t d ρ)) (hd : ∀ ρ', I l ρ' → Q .nx ρ') : Ev (loopD t body l) ρ Q := B.ev_loop I h0 hs hd
@[simp ↓] theorem ev_for {src : M (List D)} {t : D → Env → Option Env} {body : M Fl} {ρ : Env} {Q : Fl → Env → Prop} : Ev (gFor src t body) ρ Q ↔ Ev src ρ fun l ρ1 => Ev (loopD t body l) ρ1 Q := B.ev_for
@[simp ↓] theorem ev_loop_nil {t : D → Env → Option Env} {body : M Fl} {ρ : Env} {Q : Fl → Env → Prop} : Ev (loopD t body []) ρ Q ↔ Q .nx ρ := B.ev_loop_nil
def turnQ (t : D → Env → Option Env) (body : M Fl) (l : List D) (Q : Fl → Env → Prop) [Fx Q] (ρ : Env) (o0 : Fl) : Prop := B.turnQ t body l Q ρ o0
@[simp ↓] theorem turnQ_nx {t : D → Env → Option Env} {body : M Fl} {l : List D} {Q : Fl → Env → Prop} {ρ : Env} : turnQ t body l Q ρ .nx = Ev (loopD t body l) ρ Q := B.turnQ_nx
@[simp ↓] theorem turnQ_ct {t : D → Env → Option Env} {body : M Fl} {l : List D} {Q : Fl → Env → Prop} {ρ : Env} : turnQ t body l Q ρ .ct = Ev (loopD t body l) ρ Q := B.turnQ_ct
@[simp ↓] theorem turnQ_bk {t : D → Env → Option Env} {body : M Fl} {l : List D} {Q : Fl → Env → Prop} {ρ : Env} : turnQ t body l Q ρ .bk = Q .nx ρ := B.turnQ_bk
@[simp ↓] theorem turnQ_rt {t : D → Env → Option Env} {body : M Fl} {l : List D} {Q : Fl → Env → Prop} {ρ : Env} {s : Sl} : turnQ t body l Q ρ (.rt s) = Q (.rt s) ρ := B.turnQ_rt
theorem ev_loop_cons {t : D → Env → Option Env} {body : M Fl} {d : D} {l : List D} {ρ : Env} {Q : Fl → Env → Prop} : Ev (loopD t body (d :: l)) ρ Q ↔ envQ (fun ρ1 => Ev body ρ1 fun fl ρ2 => turnQ t body l Q ρ2 fl) (t d ρ) := B.ev_loop_cons
def seqQ (ρ : Env) (Q : List D → Env → Prop) [Fx Q] (o0 : D) : Prop := B.seqQ ρ Q o0
@[simp] theorem seqQ_l {ρ : Env} {Q : List D → Env → Prop} {l : List D} : seqQ ρ Q (.list l) = Q l ρ := B.seqQ_l
@[simp] theorem seqQ_t {ρ : Env} {Q : List D → Env → Prop} {l : List D} : seqQ ρ Q (.tuple l) = Q l ρ := B.seqQ_t
@[simp] theorem seqQ_s {ρ : Env} {Q : List D → Env → Prop} {z : Str} : seqQ ρ Q (.str z) = Q (strSigns z) ρ := B.seqQ_s
@[simp ↓] theorem ev_mSeq {f : M Rs} {ρ : Env} {Q : List D → Env → Prop} : Ev (mSeq f) ρ Q ↔ Ev f ρ fun r ρ1 => Ev (freezeR r) ρ1 fun d ρ2 => seqQ ρ2 Q d := B.ev_mSeq
def rng1Q (ρ : Env) (Q : List D → Env → Prop) [Fx Q] (o0 : Option (List D)) : Prop := B.rng1Q ρ Q o0
@[simp] theorem rng1Q_i {ρ : Env} {Q : List D → Env → Prop} {j : Int} : rng1Q ρ Q (some [.int j]) = ((-(2 ^ 62) ≤ j ∧ j < 2 ^ 62) ∧ Q (rngD 0 j.toNat) ρ) := B.rng1Q_i
@[simp ↓] theorem ev_rng1 {f : M (List Rs)} {ρ : Env} {Q : List D → Env → Prop} : Ev (mRng1 f) ρ Q ↔ Ev f ρ fun rs ρ1 => rng1Q ρ1 Q (viewAll rs ρ1) := B.ev_rng1
@[simp ↓] theorem ev_lc {src : M (List D)} {own : List Nat} {t : D → Env → Option Env} {tt : M Bool} {te : M Rs} {ρ : Env} {Q : Rs → Env → Prop} :
    Ev (eLc src own t tt te) ρ Q ↔ Ev src ρ fun l ρ0 => plainAt ρ0 own = true ∧ Ev (compD own t tt te l []) ρ0 fun acc ρ1 => Q (.own (.ml none acc)) (backE ρ0 (wipeE ρ1 own) own) := B.ev_lc
@[simp ↓] theorem ev_yes {ρ : Env} {Q : Bool → Env → Prop} : Ev tYes' ρ Q ↔ Q true ρ := B.ev_yes
theorem ev_comp_inv {own : List Nat} {t : D → Env → Option Env} {tt : M Bool} {te : M Rs} {Q : List D → Env → Prop} (all : List D) (I : List D → List D → Env → Prop)
    (hs : ∀ done d r acc ρ, all = done ++ d :: r → I done acc ρ → envQ (fun ρ1 => Ev tt ρ1 fun b ρ2 => if b = true then Ev te ρ2 fun r ρ3 => Ev (freezeR r) ρ3 fun y ρ4 => acc.length < sizeLine ∧ I (done ++ [d]) (acc ++ [y]) ρ4 else I (done ++ [d]) acc ρ2) (t d (wipeE ρ own)))
    (hd : ∀ acc ρ', I all acc ρ' → Q acc ρ') : ∀ (rest done acc : List D) (ρ : Env), all = done ++ rest → I done acc ρ → Ev (compD own t tt te rest acc) ρ Q := B.ev_comp_inv all I hs hd
theorem ev_comp {own : List Nat} {t : D → Env → Option Env} {tt : M Bool} {te : M Rs} {Q : List D → Env → Prop} {l : List D} {ρ : Env} (I : List D → List D → Env → Prop) (h0 : I [] [] ρ)
    (hs : ∀ done d r acc ρ, l = done ++ d :: r → I done acc ρ → envQ (fun ρ1 => Ev tt ρ1 fun b ρ2 => if b = true then Ev te ρ2 fun r ρ3 => Ev (freezeR r) ρ3 fun y ρ4 => acc.length < sizeLine ∧ I (done ++ [d]) (acc ++ [y]) ρ4 else I (done ++ [d]) acc ρ2) (t d (wipeE ρ own)))
    (hd : ∀ acc ρ', I l acc ρ' → Q acc ρ') : Ev (compD own t tt te l []) ρ Q := B.ev_comp I h0 hs hd
end Pd
set_option Elab.async false
set_option linter.all false
set_option maxRecDepth 100000
set_option maxHeartbeats 1000000
namespace Pd
open PySem PySem.Spec PyProof.Rows L2
def enumD (l : List D) : List D := l.mapIdx fun i d => .tuple [.int (i : Nat), d]
def zipD (l m : List D) : List D := l.zipWith (fun d e => .tuple [d, e]) m
theorem jok_new {K : PySem.W.Frag} {B2 H2 : Hp} {T : Addr} {vs : List V} {ds : List D} (s2 : Same B2 H2) (hT : H2 T = none) (hd : DpAll K B2 vs ds) :
    ∃ B3, Fr B2 H2 (fun _ => False) B3 (upd H2 T (.tup vs)) (fun _ => False) ∧ Same B3 (upd H2 T (.tup vs)) ∧ Dp K B3 (.ref T) (.tuple ds) := by
  have fr := Fr.new (o := HO.tup vs) hT s2
  exact ⟨_, fr, same_upd s2, .tup (Or.inl (Or.inl upd_same)) (DpAll.mono fr.bb hd)⟩
theorem jok_enum {K : PySem.W.Frag} {B : Hp} {a : Addr} {xs : List V} {l : List D} (h1 : SqL K B a xs) (h2 : DpAll K B xs l) : JOk K B (Ite K a) (enumD l) := fun B2 H2 s1 s2 i => by
  have hq : SqL K H2 a xs := sql_mono (s1.trans s2) h1
  unfold enumD
  refine ⟨fun d hd => ?_, fun hl => ⟨xs, hq, by rw [DpAll.length h2]; have hl := Nat.le_of_eq hl; simpa using hl⟩⟩
  rw [List.getElem?_mapIdx] at hd
  cases e0 : l[i]? with
  | none => rw [e0] at hd; cases hd
  | some d0 =>
    rw [e0] at hd
    cases hd
    obtain ⟨v, e1, e2⟩ := DpAll.get h2 e0
    refine ⟨⟨xs, v, hq, e1⟩, fun x H3 q => ?_⟩
    obtain ⟨T, y, rfl, hT, rfl, q⟩ := q
    have := q xs hq
    rw [e1] at this
    cases this
    exact jok_new s2 hT (.cons (.int _) (.cons (Dp.mono s1 e2) .nil))
theorem zipD_get {l m : List D} {i : Nat} {d : D} (h : (zipD l m)[i]? = some d) : ∃ x y, l[i]? = some x ∧ m[i]? = some y ∧ d = .tuple [x, y] := by
  unfold zipD at h
  rw [List.getElem?_zipWith] at h
  cases e1 : l[i]? with
  | none => rw [e1] at h; cases h
  | some x =>
    cases e2 : m[i]? with
    | none => rw [e1, e2] at h; cases h
    | some y => rw [e1, e2] at h; cases h; exact ⟨x, y, rfl, rfl, rfl⟩
def pMulS : List D → Option Rd'
  | [.str z, .int k] => if 0 ≤ k ∧ k ≤ 1000 ∧ z.length ≤ 1000 then some (.pd (.str (PySem.Txt.mul z k))) else none
  | _ => none
theorem mulOk_small {x : Str} {n : Int} (h0 : 0 ≤ n) (h1 : n ≤ 1000) (h2 : x.length ≤ 1000) : PySem.MulOk x n := by
  have hm : (x.length : Int) * n ≤ 1000 * 1000 := Int.mul_le_mul (by omega) h1 h0 (by omega)
  have hn : x.length * n.toNat ≤ 1000 * 1000 := Nat.mul_le_mul h2 (by omega)
  refine ⟨by rw [decide_eq_false (by omega), decide_eq_false (by omega)]; rfl, fun p _ => ?_, fun p _ => ?_⟩
  · have := Int.le_ediv_of_mul_le (a := (x.length : Int)) (b := 2 ^ 63 - 1) (c := n) (by omega) (by omega)
    omega
  · exact decide_eq_false (by have : sizeLine = 16777216 := rfl; omega)
def rMulS : R2 := fun x y H Q => ∃ (z : Str) (k : Int), x = .str z ∧ y = .int k ∧ (0 ≤ k ∧ k ≤ 1000 ∧ z.length ≤ 1000) ∧ Q (.str (PySem.Txt.mul z k)) H
theorem op_mulS {X : Cx} : OpR X (binaryOp .Mult) rMulS := by
  intro pins s σ H x y v u Q I rx ry h
  obtain ⟨i, j, rfl, rfl, hz, q⟩ := h
  obtain ⟨t, rfl⟩ := rx
  obtain ⟨t', rfl⟩ := ry
  refine PySem.SB.mul (mulOk_small hz.1 hz.2.1 hz.2.2) (fun t' tk => ⟨.str _, H, I.tok _, ⟨_, rfl⟩, q⟩)
theorem oMulS_ok {K : PySem.W.Frag} : OpOk K (r2 rMulS) (opG pMulS) := opG_ok fun B H vs ds res Q e hs hp k => by
  unfold pMulS at hp
  split at hp
  · split at hp
    · rename_i hc
      obtain ⟨x, y, rfl, h1, h2⟩ := hs.two
      cases hp
      cases h1
      exact ⟨_, _, rfl, _, _, rfl, h2.int, hc, k.str e⟩
    · cases hp
  · cases hp
def oMul2 : List Rs → M Rs := fun rs ρ => match oMul rs ρ with
  | some x => some x
  | none => opG pMulS rs ρ
abbrev rMul2 : R2 := fun x y H Q => rMulAll x y H Q ∨ rMulS x y H Q
theorem op_mul2 {X : Cx} : OpR X (binaryOp .Mult) rMul2 := OpR.or op_mulAll op_mulS
theorem oMul2_ok {K : PySem.W.Frag} : OpOk K (r2 rMul2) oMul2 := fun vs0 σ B H ρ fs vs rs Ts Q g ok nd r' ρ' e k =>
  r2_or.mpr ((OpOk.or (oMul_ok (K := K)) oMulS_ok) vs0 σ B H ρ fs vs rs Ts Q g ok nd r' ρ' e k)
end Pd
set_option Elab.async false
set_option linter.all false
set_option maxRecDepth 100000
set_option maxHeartbeats 1000000
set_option Elab.async false
set_option linter.all false
set_option maxRecDepth 100000
set_option maxHeartbeats 1000000
namespace Pd
open PySem PySem.Spec PyProof.Rows L2
abbrev rInsert : V → List V → Hp → VK → Prop := fun x vs H Q => ∃ (l : Addr) (xs : List V) (i : Int) (y : V), x = .ref l ∧ vs = [.int i, y] ∧ H l = some (.lst xs) ∧ xs.length < sizeLine ∧ 0 ≤ i ∧ i < 2 ^ 63 ∧
    Q .non (upd H l (.lst (xs.take i.toNat ++ [y] ++ xs.drop i.toNat)))
def fInsert : List D → List D → Option (D × List D) := fun l ds => match ds with
  | [.int i, d] => if l.length < sizeLine ∧ 0 ≤ i ∧ i < 2 ^ 63 then some (.none, l.take i.toNat ++ [d] ++ l.drop i.toNat) else none
  | _ => none
def o_insert2 := opL1 fInsert
section
variable {X : Cx} {vs0 : List V} {K : PySem.W.Frag}
theorem o_insert2_ok : OpOk K (rM rInsert) o_insert2 := opL1_ok fun B H a xs l vs ds d l' Q e hH hx hd hf k => by
  unfold fInsert at hf
  split at hf
  · split at hf
    · rename_i hl
      cases hf
      cases hd with
      | cons h1 h2 =>
        cases h2 with
        | cons h2 h3 =>
          cases h3
          cases h1
          exact ⟨a, xs, _, _, rfl, rfl, hH, by rw [DpAll.length hx]; exact hl.1, hl.2.1, hl.2.2, k _ _ .non (DpAll.append (DpAll.append (DpAll.take _ hx) (DpAll.one h2)) (DpAll.drop _ hx))⟩
    · cases hf
  · cases hf
variable {o e e' : Expr} {fo : M Rs} {fa : M (List Rs)} {apos cpos : Pos}
theorem de_m_insert2 (ho : PE X o (rdE X.K vs0 fo)) (ha : PA X [e, e'] (rdA X.K vs0 fa))
    (hbase : attributeBase o "insert" X.env (eval o X.env) = eval o X.env := by rfl)
    (hfew : ((backTo cpos (starEach [e, e'] X.env)).all (fun x => !x.1) && (backToKw cpos (keywordEach [] X.env)).all (fun x => x.1.isSome)
      && decide ([e, e'].length + ([] : List Keyword).length + (if ([] : List Keyword).isEmpty then 0 else 1) < 30)) = true := by rfl)
    (hline : (apos.endLine == cpos.line) = true := by rfl) (hs : starEach [e, e'] X.env = (false, eval e X.env) :: starEach [e'] X.env := by rfl) (hplain : (backTo cpos (starEach [e'] X.env)).any (·.1) = false := by rfl) :
    PE X (.Call (.Attribute o "insert" apos) [e, e'] [] cpos) (rdE X.K vs0 (eMeth "list" fo fa o_insert2)) :=
  PE.imp (pe_bm PySem.F.plainAttrs_list PySem.F.slot_list_insert PySem.F.type_list_insert mt_insert ho ha hbase hfew hline hs hplain) fun σ H Q q => rd_meth o_insert2_ok q
end
section
variable {X : Cx} {vs0 : List V}
def mSub (fo fi : M Rs) (d : D) : M Fl := M.bind fo fun o => M.bind fi fun i => setSub o i d
theorem sub_run {K : PySem.W.Frag} {B H : Hp} {σ : L2.St} {ρ ρ' : Env} {fs : Nat → List Addr} {fo fi : M Rs} {v : V} {d : D} {fl : Fl} {Q : L2.St → Hp → Prop} (gd : Good K vs0 B H σ ρ fs) (dv : Dp K B v d) (e : mSub fo fi d ρ = some (.ok fl ρ'))
    (k : ∀ B' H' fs', Fr B H (InF fs) B' H' (InF fs') → Good K vs0 B' H' σ ρ' fs' → Q σ H') : L2.gSub (rdE K vs0 fo) (rdE K vs0 fi) rSetL v σ H Q := by
  obtain ⟨ro, ρ3, e6, e7⟩ := M.bind_ok e
  obtain ⟨ri, ρ4, e8, e9⟩ := M.bind_ok e7
  refine ⟨B, ρ, fs, gd, ro, ρ3, e6, fun u B3 H3 fs3 T3 fr3 g3 ok3 => ⟨B3, ρ3, fs3, g3, ri, ρ4, e8, fun w B4 H4 fs4 T4 fr4 g4 ok4 => ?_⟩⟩
  unfold setSub at e9
  cases ro with
  | own s => cases e9
  | lent _ _ _ => cases e9
  | bor j =>
  dsimp only at e9
  split at e9
  · rename_i t l e10
    split at e9
    · rename_i kk e11
      split at e9
      · rename_i q e12
        cases e9
        obtain ⟨v', q1, ⟨a, xs, rfl, hfs, q2, q3⟩, _⟩ := g4.at_ j _ e10
        obtain ⟨z1, z2⟩ := ok3
        rw [q1] at z1
        cases z1
        refine ⟨a, xs, kk, q, rfl, (view_ok g4 ok4 e11).int, q2, by rw [DpAll.length q3]; exact e12, ?_⟩
        have dv : Dp K B4 v d := Dp.mono ((fr3.bb).trans fr4.bb) dv
        have g5 := g4.upd (o := HO.lst (xs.set q v)) (s' := .ml t (l.set q d)) e10 hfs q1 ⟨a, _, rfl, rfl, upd_same, DpAll.set q q3 dv⟩ rfl
        exact k B4 _ fs4 (((fr_drop fr3).trans (fr_drop fr4)).trans (Fr.updIn ⟨j, by rw [hfs]; simp⟩)) g5
      · cases e9
    · cases e9
  · cases e9
def gSwap (f fo1 fi1 fo2 fi2 : M Rs) : M Fl := M.bind f fun r => M.bind (freezeR r) fun d => match d with
  | .tuple [d1, d2] => M.bind (mSub fo1 fi1 d1) fun _ => mSub fo2 fi2 d2
  | _ => M.fail
theorem sub_nx {fo fi : M Rs} {d : D} {ρ ρ' : Env} {fl : Fl} (e : mSub fo fi d ρ = some (.ok fl ρ')) : fl = .nx := by
  obtain ⟨ro, ρ3, e6, e7⟩ := M.bind_ok e
  obtain ⟨ri, ρ4, e8, e9⟩ := M.bind_ok e7
  unfold setSub at e9
  split at e9
  · split at e9
    · split at e9
      · split at e9
        · cases e9; rfl
        · cases e9
      · cases e9
    · cases e9
  · cases e9
theorem ds_swap {e o1 i1 o2 i2 : Expr} {f fo1 fi1 fo2 fi2 : M Rs} {k : Nat} {pos tpos p1 p2 : Pos} (hc : X.calm = true) (he : PE X e (rdE X.K vs0 f)) (ho1 : PE X o1 (rdE X.K vs0 fo1)) (hi1 : PE X i1 (rdE X.K vs0 fi1)) (ho2 : PE X o2 (rdE X.K vs0 fo2)) (hi2 : PE X i2 (rdE X.K vs0 fi2))
    (ha1 : ∀ v, assign (.Subscript o1 i1 p1) X.env v = (do
      let ov ← holding [v] (eval o1 X.env)
      let iv ← holding [v, ov] (eval i1 X.env)
      standAt p1
      holding [v, ov, iv] (setItem ov iv v)
      release [v, ov, iv] []) := by intro _; rfl)
    (ha2 : ∀ v, assign (.Subscript o2 i2 p2) X.env v = (do
      let ov ← holding [v] (eval o2 X.env)
      let iv ← holding [v, ov] (eval i2 X.env)
      standAt p2
      holding [v, ov, iv] (setItem ov iv v)
      release [v, ov, iv] []) := by intro _; rfl)
    (hs : swapsWithSole [.Tuple [.Subscript o1 i1 p1, .Subscript o2 i2 p2] k tpos] e pos.line X.env = pure false := by rfl) (hw : swappedStores [.Tuple [.Subscript o1 i1 p1, .Subscript o2 i2 p2] k tpos] e X.env = pure none := by rfl)
    (h1 : (assignEach [.Tuple [.Subscript o1 i1 p1, .Subscript o2 i2 p2] k tpos] X.env).map (·.2) = [assign (.Tuple [.Subscript o1 i1 p1, .Subscript o2 i2 p2] k tpos) X.env] := by rfl)
    (hn : (assignEach [.Subscript o1 i1 p1, .Subscript o2 i2 p2] X.env).length = 2 := by rfl) (hst : (assignEach [.Subscript o1 i1 p1, .Subscript o2 i2 p2] X.env).findIdx? (·.1) = none := by rfl)
    (hs1 : (assignEach [.Subscript o1 i1 p1, .Subscript o2 i2 p2] X.env).map (·.2) = assign (.Subscript o1 i1 p1) X.env :: (assignEach [.Subscript o2 i2 p2] X.env).map (·.2) := by rfl) (hs2 : (assignEach [.Subscript o2 i2 p2] X.env).map (·.2) = assign (.Subscript o2 i2 p2) X.env :: (assignEach [] X.env).map (·.2) := by rfl) :
    PS X (.Assign [.Tuple [.Subscript o1 i1 p1, .Subscript o2 i2 p2] k tpos] e pos) (rdS X.K vs0 (gSwap f fo1 fi1 fo2 fi2)) :=
  PS.imp (ps_asg he (pg_tup hc (pgs_cons (pg_sub ho1 hi1 set_list ha1) (pgs_cons (pg_sub ho2 hi2 set_list ha2) pgs_nil hs2) hs1) hn hst) hs hw h1) fun D σ H q => by
  obtain ⟨B, ρ, fs, gd, fl, ρ', e1, kk⟩ := q
  obtain ⟨r, ρ1, e2, e3⟩ := M.bind_ok e1
  obtain ⟨d, ρ2, e4, e5⟩ := M.bind_ok e3
  refine ⟨B, ρ, fs, gd, r, ρ1, e2, fun v B1 H1 fs1 T1 fr1 g1 ok1 => ?_⟩
  obtain ⟨B2, fs2, fr2, g2, d2⟩ := freezeR_ok g1 ok1 e4
  split at e5
  · rename_i da db
    obtain ⟨fl1, ρ3, e6, e7⟩ := M.bind_ok e5
    have n2 := sub_nx e7
    subst n2
    cases d2 with
    | tup s1 da1 =>
      cases da1 with
      | cons h1 h2 =>
        cases h2 with
        | cons h2 h3 =>
          cases h3
          refine ⟨_, _, rfl, sqt_mono g2.ext s1, rfl, _, _, rfl, sub_run g2 h1 e6 fun B3 H3 fs3 fr3 g3 => ⟨_, _, rfl, sub_run g3 (Dp.mono fr3.bb h2) e7 fun B4 H4 fs4 fr4 g4 => ⟨rfl, ?_⟩⟩⟩
          exact kk σ B4 H4 fs4 ((fr1.trans fr2).trans (fr3.trans fr4)) g4
  · cases e5
end
end Pd
set_option Elab.async false
set_option linter.all false
set_option maxRecDepth 100000
set_option maxHeartbeats 1000000
namespace Pd
open PySem PySem.Spec PyProof.Rows L2
namespace B
section
variable {ρ : Env}
@[simp ↓] theorem ev_mul2 {a b : Int} {Q : Rs → Env → Prop} : Ev (oMul2 [.own (.p (.int a)), .own (.p (.int b))]) ρ Q ↔ CMulW a b ∧ Q (.own (.p (.int (a * b)))) ρ := by
  rw [← ev_mul]
  constructor
  · rintro ⟨r, ρ', e, q⟩
    unfold oMul2 at e
    split at e
    · rename_i x h; cases e; exact ⟨r, ρ', h, q⟩
    · cases e
  · rintro ⟨r, ρ', e, q⟩
    exact ⟨r, ρ', by unfold oMul2; rw [e], q⟩
@[simp ↓] theorem ev_mul2L {t : Option Nat} {l : List D} {k : Int} {Q : Rs → Env → Prop} : Ev (oMul2 [.own (.ml t l), .own (.p (.int k))]) ρ Q ↔ (-(2 ^ 63) ≤ k ∧ k < 2 ^ 63 ∧ l.length * k.toNat ≤ sizeLine) ∧ Q (.own (.ml none (List.replicate k.toNat l).flatten)) ρ := by
  rw [← ev_mulL (t := t)]
  constructor
  · rintro ⟨r, ρ', e, q⟩
    unfold oMul2 at e
    split at e
    · rename_i x h; cases e; exact ⟨r, ρ', h, q⟩
    · cases e
  · rintro ⟨r, ρ', e, q⟩
    exact ⟨r, ρ', by unfold oMul2; rw [e], q⟩
@[simp ↓] theorem ev_mul2S {z : Str} {k : Int} {Q : Rs → Env → Prop} : Ev (oMul2 [.own (.p (.str z)), .own (.p (.int k))]) ρ Q ↔ (0 ≤ k ∧ k ≤ 1000 ∧ z.length ≤ 1000) ∧ Q (.own (.p (.str (PySem.Txt.mul z k)))) ρ := by
  have e0 : oMul2 [.own (.p (.str z)), .own (.p (.int k))] ρ = opG pMulS [.own (.p (.str z)), .own (.p (.int k))] ρ := rfl
  unfold Ev
  rw [e0]
  have := ev_opG (pf := pMulS) (rs := [.own (.p (.str z)), .own (.p (.int k))]) (ρ := ρ) (Q := Q)
  refine this.trans ?_
  simp only [viewAll_cons, view_p, viewAll_nil, Option.bind_some]
  unfold pMulS
  rw [resQ_ite, resQ_pd]
@[simp ↓] theorem ev_mSub {fo fi : M Rs} {d : D} {Q : Fl → Env → Prop} : Ev (mSub fo fi d) ρ Q ↔ Ev fo ρ fun o ρ1 => Ev fi ρ1 fun i ρ2 => Ev (setSub o i d) ρ2 Q := by
  unfold mSub
  simp only [ev_bind]
def swapQ (fo1 fi1 fo2 fi2 : M Rs) (ρ : Env) (Q : Fl → Env → Prop) : D → Prop
  | .tuple [d1, d2] => Ev (mSub fo1 fi1 d1) ρ fun _ ρ1 => Ev (mSub fo2 fi2 d2) ρ1 Q
  | _ => False
@[simp] theorem swapQ_t {fo1 fi1 fo2 fi2 : M Rs} {Q : Fl → Env → Prop} {d1 d2 : D} : swapQ fo1 fi1 fo2 fi2 ρ Q (.tuple [d1, d2]) = Ev (mSub fo1 fi1 d1) ρ fun _ ρ1 => Ev (mSub fo2 fi2 d2) ρ1 Q := rfl
@[simp ↓] theorem ev_gSwap {f fo1 fi1 fo2 fi2 : M Rs} {Q : Fl → Env → Prop} : Ev (gSwap f fo1 fi1 fo2 fi2) ρ Q ↔ Ev f ρ fun r ρ1 => Ev (freezeR r) ρ1 fun d ρ2 => swapQ fo1 fi1 fo2 fi2 ρ2 Q d := by
  unfold gSwap
  simp only [ev_bind]
  constructor
  · rintro ⟨r, ρ1, e, d, ρ2, e2, b, ρ3, e3, q⟩
    refine ⟨r, ρ1, e, d, ρ2, e2, ?_⟩
    try dsimp only at e3
    split at e3
    · exact ev_bind.mp ⟨b, ρ3, e3, q⟩
    · cases e3
  · rintro ⟨r, ρ1, e, d, ρ2, e2, q⟩
    refine ⟨r, ρ1, e, d, ρ2, e2, ?_⟩
    try dsimp only at q
    unfold swapQ at q
    split at q
    · exact ev_bind.mpr q
    · exact q.elim
@[simp ↓] theorem ev_insert {j : Nat} {rest : List Rs} {Q : Rs → Env → Prop} : Ev (o_insert2 (.bor j :: rest)) ρ Q ↔ Ev (freezeAll rest) ρ fun ds ρ1 => l1Q j ρ1 fInsert ds Q ρ1[j]? := ev_opL1
theorem ev_comp_cons {own : List Nat} {t : D → Env → Option Env} {tt : M Bool} {te : M Rs} {d : D} {rest acc : List D} {Q : List D → Env → Prop} : Ev (compD own t tt te (d :: rest) acc) ρ Q ↔
    envQ (fun ρ1 => Ev tt ρ1 fun b ρ2 => if b = true then Ev te ρ2 fun r ρ3 => Ev (freezeR r) ρ3 fun y ρ4 => acc.length < sizeLine ∧ Ev (compD own t tt te rest (acc ++ [y])) ρ4 Q else Ev (compD own t tt te rest acc) ρ2 Q) (t d (wipeE ρ own)) := by
  constructor
  · rintro ⟨a, ρ', e, q⟩
    unfold compD at e
    split at e
    · cases e
    · rename_i ρ1 e1
      rw [e1, envQ_s]
      split at e
      · cases e
      · rename_i ρ2 e2
        refine ⟨false, ρ2, e2, ?_⟩
        dsimp only
        rw [if_neg (by decide)]
        exact ⟨a, ρ', e, q⟩
      · rename_i ρ2 e2
        refine ⟨true, ρ2, e2, ?_⟩
        dsimp only
        rw [if_pos rfl]
        split at e
        · cases e
        · rename_i y ρ4 e3
          split at e
          · rename_i hl
            obtain ⟨r, ρ3, e4, e5⟩ := M.bind_ok e3
            exact ⟨r, ρ3, e4, y, ρ4, e5, hl, a, ρ', e, q⟩
          · cases e
  · intro h
    unfold envQ at h
    split at h
    · rename_i ρ1 e1
      obtain ⟨b, ρ2, e2, q⟩ := h
      cases b with
      | false =>
        try dsimp only at q
        rw [if_neg (by decide)] at q
        obtain ⟨a, ρ3, e3, q3⟩ := q
        exact ⟨a, ρ3, by unfold compD; simp only [e1, e2]; exact e3, q3⟩
      | true =>
        try dsimp only at q
        rw [if_pos rfl] at q
        obtain ⟨rr, ρ3, e3, y, ρ4, e4, hl, a, ρ5, e5, q5⟩ := q
        refine ⟨a, ρ5, ?_, q5⟩
        unfold compD
        have : M.bind te freezeR ρ2 = some (.ok y ρ4) := by unfold M.bind; simp only [e3, e4]
        simp only [e1, e2, this, if_pos hl]
        exact e5
    · exact h.elim
theorem ev_comp_nil {own : List Nat} {t : D → Env → Option Env} {tt : M Bool} {te : M Rs} {acc : List D} {Q : List D → Env → Prop} : Ev (compD own t tt te [] acc) ρ Q ↔ Q acc ρ := by
  unfold compD
  exact ev_ret
theorem ev_comp_pure {own : List Nat} {t : D → Env → Option Env} {tt : M Bool} {te : M Rs} {Q : List D → Env → Prop} {α : Type} (f g : α → D) (c : α → Bool) {l : List α} (hn : l.length < sizeLine)
    (hs : ∀ x ∈ l, envQ (fun ρ1 => Ev tt ρ1 fun b ρ2 => b = c x ∧ if b = true then Ev te ρ2 fun r ρ3 => Ev (freezeR r) ρ3 fun y ρ4 => y = g x ∧ wipeE ρ4 own = wipeE ρ own else wipeE ρ2 own = wipeE ρ own) (t (f x) (wipeE ρ own)))
    (hd : ∀ ρ', wipeE ρ' own = wipeE ρ own → Q ((l.filter c).map g) ρ') : Ev (compD own t tt te (l.map f) []) ρ Q := by
  refine ev_comp (fun done acc ρ' => wipeE ρ' own = wipeE ρ own ∧ acc = ((l.take done.length).filter c).map g ∧ done.length ≤ l.length) ⟨rfl, by simp, Nat.zero_le _⟩ ?_ ?_
  · rintro done d r acc ρ1 ha ⟨hw, rfl, hdl⟩
    have hlen := congrArg List.length ha
    simp at hlen
    have hlt : done.length < l.length := by omega
    have hdx : d = f l[done.length] := by
      have : (l.map f)[done.length]? = some d := by rw [ha]; simp
      rw [List.getElem?_map, List.getElem?_eq_getElem hlt] at this
      cases this
      rfl
    subst hdx
    have h := hs _ (List.getElem_mem hlt)
    have htk : l.take (done.length + 1) = l.take done.length ++ [l[done.length]] := by rw [List.take_succ, List.getElem?_eq_getElem hlt]; rfl
    rw [← hw] at h
    unfold envQ at h ⊢
    split at h
    · rename_i ρ2 e2
      obtain ⟨b, ρ3, e3, hb, q⟩ := h
      show Ev tt ρ2 _
      refine ⟨b, ρ3, e3, ?_⟩
      cases b with
      | false =>
        rw [if_neg (by decide)] at q
        try dsimp only
        rw [if_neg (by decide)]
        refine ⟨q.trans hw, ?_, by simp; omega⟩
        rw [List.length_append, List.length_singleton, htk, List.filter_append, List.filter_cons, ← hb]
        simp
      | true =>
        rw [if_pos rfl] at q
        obtain ⟨rr, ρ4, e4, y, ρ5, e5, rfl, q⟩ := q
        try dsimp only
        rw [if_pos rfl]
        refine ⟨rr, ρ4, e4, _, ρ5, e5, ?_, q.trans hw, ?_, by simp; omega⟩
        · have h1 := List.length_filter_le c (l.take done.length)
          have h2 := List.length_take_le done.length l
          rw [List.length_map]
          omega
        · rw [List.length_append, List.length_singleton, htk, List.filter_append, List.filter_cons, ← hb]
          simp
    · exact h.elim
  · rintro acc ρ1 ⟨hw, rfl, _⟩
    rw [List.length_map, List.take_of_length_le (Nat.le_refl _)]
    exact hd ρ1 hw
end
section
variable {d : D} {l : List D}
@[simp] theorem eqvA_ln : PyData.eqvAll l [] = l.isEmpty := by cases l <;> simp
@[simp] theorem rngD_two : rngD 0 2 = [.int 0, .int 1] := rfl
@[simp] theorem rngD_len {a : Int} {n : Nat} : (rngD a n).length = n := by unfold rngD; simp
theorem rngD_at {a : Int} {n : Nat} {done r : List D} {x : D} (h : rngD a n = done ++ x :: r) : x = .int (a + done.length) ∧ done.length < n := by
  have hl := congrArg List.length h
  rw [rngD_len, List.length_append, List.length_cons] at hl
  have : (rngD a n)[done.length]? = some x := by rw [h]; simp
  unfold rngD at this
  rw [List.getElem?_map, List.getElem?_range (by omega)] at this
  cases this
  exact ⟨rfl, by omega⟩
@[simp] theorem fInsert_eq {i : Int} : fInsert l [.int i, d] = if l.length < sizeLine ∧ 0 ≤ i ∧ i < 2 ^ 63 then some (.none, l.take i.toNat ++ [d] ++ l.drop i.toNat) else none := rfl
theorem fPop1_of {i : Int} (h0 : 0 ≤ i) (h1 : i < l.length) (h2 : i < 2 ^ 63) : fPop1 l [.int i] = some (l.getD i.toNat .none, l.eraseIdx i.toNat) := by
  have e : ixN l.length i = some i.toNat := by
    unfold ixN
    rw [if_pos h0, if_pos h1]
  unfold fPop1
  dsimp only
  rw [if_pos ⟨by omega, h2⟩, e]
  dsimp only
  rw [List.getD_eq_getElem?_getD, List.getElem?_eq_getElem (by omega)]
  rfl
theorem atI_in {i : Int} (h0 : 0 ≤ i) (h1 : i < l.length) : atI l i = some (l.getD i.toNat .none) := by
  unfold atI ixN
  rw [if_pos h0, if_pos h1, Option.bind_some, List.getD_eq_getElem?_getD, List.getElem?_eq_getElem (by omega)]
  rfl
theorem ixN_in {n : Nat} {i : Int} (h0 : 0 ≤ i) (h1 : i < n) : ixN n i = some i.toNat := by
  unfold ixN
  rw [if_pos h0, if_pos h1]
end
end B
end Pd
set_option Elab.async false
set_option linter.all false
set_option maxRecDepth 100000
set_option maxHeartbeats 1000000
namespace Pd
open PySem PySem.Spec PyProof.Rows L2
open B (eqvA_ln rngD_two rngD_len rngD_at fInsert_eq fPop1_of atI_in ixN_in)
section
variable {ρ : Env}
@[simp ↓] theorem ev_mul2 {a b : Int} {Q : Rs → Env → Prop} : Ev (oMul2 [.own (.p (.int a)), .own (.p (.int b))]) ρ Q ↔ CMulW a b ∧ Q (.own (.p (.int (a * b)))) ρ := B.ev_mul2
@[simp ↓] theorem ev_mul2L {t : Option Nat} {l : List D} {k : Int} {Q : Rs → Env → Prop} : Ev (oMul2 [.own (.ml t l), .own (.p (.int k))]) ρ Q ↔ (-(2 ^ 63) ≤ k ∧ k < 2 ^ 63 ∧ l.length * k.toNat ≤ sizeLine) ∧ Q (.own (.ml none (List.replicate k.toNat l).flatten)) ρ := B.ev_mul2L
@[simp ↓] theorem ev_mul2S {z : Str} {k : Int} {Q : Rs → Env → Prop} : Ev (oMul2 [.own (.p (.str z)), .own (.p (.int k))]) ρ Q ↔ (0 ≤ k ∧ k ≤ 1000 ∧ z.length ≤ 1000) ∧ Q (.own (.p (.str (PySem.Txt.mul z k)))) ρ := B.ev_mul2S
@[simp ↓] theorem ev_mSub {fo fi : M Rs} {d : D} {Q : Fl → Env → Prop} : Ev (mSub fo fi d) ρ Q ↔ Ev fo ρ fun o ρ1 => Ev fi ρ1 fun i ρ2 => Ev (setSub o i d) ρ2 Q := B.ev_mSub
def swapQ (fo1 fi1 fo2 fi2 : M Rs) (ρ : Env) (Q : Fl → Env → Prop) [Fx Q] (o0 : D) : Prop := B.swapQ fo1 fi1 fo2 fi2 ρ Q o0
@[simp] theorem swapQ_t {fo1 fi1 fo2 fi2 : M Rs} {Q : Fl → Env → Prop} {d1 d2 : D} : swapQ fo1 fi1 fo2 fi2 ρ Q (.tuple [d1, d2]) = Ev (mSub fo1 fi1 d1) ρ fun _ ρ1 => Ev (mSub fo2 fi2 d2) ρ1 Q := B.swapQ_t
@[simp ↓] theorem ev_gSwap {f fo1 fi1 fo2 fi2 : M Rs} {Q : Fl → Env → Prop} : Ev (gSwap f fo1 fi1 fo2 fi2) ρ Q ↔ Ev f ρ fun r ρ1 => Ev (freezeR r) ρ1 fun d ρ2 => swapQ fo1 fi1 fo2 fi2 ρ2 Q d := B.ev_gSwap
@[simp ↓] theorem ev_insert {j : Nat} {rest : List Rs} {Q : Rs → Env → Prop} : Ev (o_insert2 (.bor j :: rest)) ρ Q ↔ Ev (freezeAll rest) ρ fun ds ρ1 => l1Q j ρ1 fInsert ds Q ρ1[j]? := B.ev_insert
theorem ev_comp_cons {own : List Nat} {t : D → Env → Option Env} {tt : M Bool} {te : M Rs} {d : D} {rest acc : List D} {Q : List D → Env → Prop} : Ev (compD own t tt te (d :: rest) acc) ρ Q ↔
    envQ (fun ρ1 => Ev tt ρ1 fun b ρ2 => if b = true then Ev te ρ2 fun r ρ3 => Ev (freezeR r) ρ3 fun y ρ4 => acc.length < sizeLine ∧ Ev (compD own t tt te rest (acc ++ [y])) ρ4 Q else Ev (compD own t tt te rest acc) ρ2 Q) (t d (wipeE ρ own)) := B.ev_comp_cons
theorem ev_comp_nil {own : List Nat} {t : D → Env → Option Env} {tt : M Bool} {te : M Rs} {acc : List D} {Q : List D → Env → Prop} : Ev (compD own t tt te [] acc) ρ Q ↔ Q acc ρ := B.ev_comp_nil
theorem ev_comp_pure {own : List Nat} {t : D → Env → Option Env} {tt : M Bool} {te : M Rs} {Q : List D → Env → Prop} {α : Type} (f g : α → D) (c : α → Bool) {l : List α} (hn : l.length < sizeLine)
    (hs : ∀ x ∈ l, envQ (fun ρ1 => Ev tt ρ1 fun b ρ2 => b = c x ∧ if b = true then Ev te ρ2 fun r ρ3 => Ev (freezeR r) ρ3 fun y ρ4 => y = g x ∧ wipeE ρ4 own = wipeE ρ own else wipeE ρ2 own = wipeE ρ own) (t (f x) (wipeE ρ own)))
    (hd : ∀ ρ', wipeE ρ' own = wipeE ρ own → Q ((l.filter c).map g) ρ') : Ev (compD own t tt te (l.map f) []) ρ Q := B.ev_comp_pure f g c hn hs hd
end
end Pd
set_option Elab.async false
set_option linter.all false
set_option maxRecDepth 100000
set_option maxHeartbeats 1000000
namespace PySem
open Sem (wp)
theorem meets_enum_new1B {v : Value} {o : Obj} {H : Heap → Prop} (B : Begins v o H) :
    Meets (Builtin.«enumerate.__new__» ⟨[.type "enumerate", v], []⟩) (fun _ R s => H s.heap ∧
      R (.ok (.ret (.ref (s.heap.push o).objs.size))) { s with heap := (s.heap.push o).push { cls := .type "enumerate", data := .fields #[.none, .bool false, .ref s.heap.objs.size, rawInt 0, .none, .none] } }) :=
  .of_wp fun prog w A R s h => by
    obtain ⟨hp, g, d, tk, os⟩ := s; obtain ⟨h1, h⟩ := h
    have hsub := sub_enumerate
    have q1 : ∀ {A' : Around} {E : Value → Shared → Prop} {Q : Value → Shared → Prop}, Q (.ref hp.objs.size) ⟨hp.push o, g, d, tk, os⟩ → wpAny (model prog w) A' (pyIter v) Q E ⟨hp, g, d, tk, os⟩ :=
      fun q => B.iter prog w _ _ ⟨hp, g, d, tk, os⟩ _ h1 q
    wp_walk using q1
    refine wpAny_stack_any fun st => wpAny_pure ?_
    split
    · rename_i c _ _ _ _ _
      cases (c == Value.type "enumerate")
      · wp_walk using q1
        exact ⟨_, rfl, h⟩
      · wp_walk using q1
        exact ⟨_, rfl, h⟩
    · wp_walk using q1
      exact ⟨_, rfl, h⟩
section
variable {prog : Program} {w : World} {A : Around} {E : Value → Shared → Prop} {s : Shared}
theorem next_enum_endT {e it t : Addr} {i : Nat} {items : Array Value} {old : Value} {Q : Option Value → Shared → Prop} (hh : A.handled = none)
    (he : IsEnum s.heap e it i old) (hit : s.heap.IsTupleIter it t i) (hl : s.heap.IsTuple t items) (hx : items[i]? = none)
    (hQ : ∀ h', Heap.ExtBut it s.heap h' → Q none { s with heap := h' }) : wpAny (model prog w) A (pyNext (.ref e)) Q E s := by
  have hT : s.TypeIs (.ref e) "enumerate" := ⟨_, he, rfl⟩
  unfold pyNext
  refine wpAny_bind (wpAny_attempt (wpAny_callSpecial?_slot (name := Str.ofString "__next__") hT F.slot_enumerate_next
    (wpAny_call_entry F.slot_enumerate_next hT F.entry_enumerate_next ?_ (F.args_enumerate_next_1 _))))
  show wpAny _ _ (field (.ref e) 2 >>= _) _ _ _
  refine wpAny_bind (wpAny_field he rfl (x := .ref it) rfl ?_)
  refine wpAny_bind (wpAny_nextOf_tuple_end hh hit hl hx fun h' x he' hx' => ?_)
  obtain ⟨o, ho, hc⟩ := hx'
  refine wpAny_bind (wpAny_isInstance (T := "StopIteration") (b := true) ⟨o, ho, hc⟩ isSubtype_stop ?_)
  exact wpAny_pure (hQ _ he')
theorem call_enum_tuple {t : Addr} {items : Array Value} {Q : Value → Shared → Prop} (ht : s.heap.IsTuple t items)
    (h : ∀ h', IsEnum h' (s.heap.objs.size + 1) s.heap.objs.size 0 .none → h'.IsTupleIter s.heap.objs.size t 0 → h'.objs.size = s.heap.objs.size + 2 →
      (∀ b o, s.heap.get? b = some o → h'.get? b = some o) → Q (.ref (s.heap.objs.size + 1)) { s with heap := h' }) :
    wpAny (model prog w) A (call (.type "enumerate") [.ref t]) Q E s := by
  refine callType_new F.called_enumerate (by decide) (F.typeCall_enumerate_1 _) (F.newCall_enumerate_1 _) (fun obj => F.args_object_init_2 obj _) F.entry_enumerate_new
    (meets_enum_new1B (begins_tuple t items)) ⟨ht, ?_⟩
  have hz : (s.heap.push { cls := .type "tuple_iterator", data := .fields #[.ref t, .int 0 0] }).objs.size = s.heap.objs.size + 1 := Heap.size_push ..
  show _ ∧ _
  rw [hz]
  have he : IsEnum ((s.heap.push { cls := .type "tuple_iterator", data := .fields #[.ref t, .int 0 0] }).push
      { cls := .type "enumerate", data := .fields #[.none, .bool false, .ref s.heap.objs.size, rawInt 0, .none, .none] }) (s.heap.objs.size + 1) s.heap.objs.size 0 .none := by
    have := Heap.get?_push_size (s.heap.push { cls := .type "tuple_iterator", data := .fields #[.ref t, .int 0 0] })
      (o := { cls := .type "enumerate", data := .fields #[.none, .bool false, .ref s.heap.objs.size, rawInt 0, .none, .none] }) rfl
    rw [hz] at this; exact this
  refine ⟨⟨_, he, rfl⟩, h _ he ⟨_, Heap.get?_push_of_some _ (Heap.get?_push_size _ rfl), rfl, rfl⟩ (by rw [Heap.size_push, hz]) fun b o x => Heap.get?_push_of_some _ (Heap.get?_push_of_some _ x)⟩
end
end PySem
namespace Pd
open PySem PySem.Spec PyProof.Rows L2
def IteT (K : PySem.W.Frag) (a : Addr) : It :=
  ⟨fun i H => ∃ (xs : List V) (x : V), SqT K H a xs ∧ xs[i]? = some x, fun i H v H' => ∃ T x, v = .ref T ∧ H T = none ∧ H' = upd H T (.tup [.int (i : Nat), x]) ∧ ∀ xs, SqT K H a xs → xs[i]? = some x, fun i H => ∃ xs : List V, SqT K H a xs ∧ xs.length ≤ i⟩
theorem tupIt_ne {h : Heap} {a it : Addr} {i : Nat} {items : Array Value} (p : h.IsTuple a items) (q : h.IsTupleIter it a i) : a ≠ it := fun e => by
  obtain ⟨o, h1, h2, _⟩ := p
  obtain ⟨o', h3, h4, _⟩ := q
  rw [e, h3] at h1
  cases h1
  rw [h4] at h2
  exact absurd h2 (by decide)
theorem tupEn_ne {h : Heap} {a it e : Addr} {i : Int} {old : Value} {items : Array Value} (p : h.IsTuple a items) (q : IsEnum h e it i old) : e ≠ a := fun z => by
  obtain ⟨o, h1, h2, _⟩ := p
  have q' : h.get? e = _ := q
  rw [z, h1] at q'
  cases q'
  exact absurd (show Value.type "enumerate" = Value.type "tuple" from h2) (by decide)
theorem turn_enumT {P : Program} {w : World} {K : PySem.W.Frag} {elts : List Expr} {kk : Nat} {tpos : Pos} (a e it : Addr) :
    Turn P w K (.Tuple elts kk tpos) (IteT K a) [e, it] e (fun i h => (∃ old, IsEnum h e it ((i : Nat) : Int) old) ∧ h.IsTupleIter it a i ∧ e ≠ it) where
  mem := by simp
  obj := fun i h st b hb => by
    obtain ⟨⟨old, he⟩, ⟨o, ho, hc, hd⟩, _⟩ := st
    have e' : b = e ∨ b = it := by simpa using hb
    rcases e' with z | z
    · rw [z]; exact ⟨_, he, fun v q => nomatch q⟩
    · rw [z]; exact ⟨o, ho, fun v q => by rw [hd] at q; cases q⟩
  keep := fun i h h' st k => let ⟨⟨old, he⟩, hi, hne⟩ := st; ⟨⟨old, k e (by simp) _ he⟩, hi.at fun o q => k it (by simp) o q, hne⟩
  item := by
    intro X hP hw hK hc i pins s σ H E I hf st hg
    subst hP hw hK
    obtain ⟨⟨old, he⟩, hit, hne⟩ := st
    obtain ⟨xs, x, hq, hx⟩ := hg
    obtain ⟨its, rv, p, hz⟩ := I.tuple hq
    have p : s.heap.IsTuple a its.toArray := p
    obtain ⟨u, hu, ru⟩ := rv.get hx
    have hel : e < s.heap.objs.size := Heap.lt_size he
    have hil : it < s.heap.objs.size := by obtain ⟨_, q, _⟩ := hit; exact Heap.lt_size q
    have hln : i < its.toArray.size := by
      have := (List.getElem?_eq_some_iff.mp hu).1
      simpa using this
    have D := Draws.tuple (prog := X.prog) (w := X.w) (A := X.A.in1) (I.ok.hd hc) it a (tupIt_ne p hit) its.toArray
    refine wpAny_pyNext_enum_itemD D he ⟨hit, p⟩ hln hne (by simp; exact ⟨hne, tupEn_ne p he⟩) fun y h' tk hy ho hst' hT hsz hk => ?_
    have hyu : y = u := by
      have : its[i]? = some y := by simpa using hy
      rw [hu] at this
      cases this
      rfl
    subst hyu
    refine ⟨_, rfl, wpAny_letOwnedTupleGo_enum (s := { s with heap := h', toks := tk + 1 }) ho fun h'' he' sb => ?_⟩
    have hT2 : h''.get? s.heap.objs.size = some { cls := .type "tuple", data := .seq #[.int i tk, y] } := (sb.2 _ (Nat.ne_of_gt hel)).trans hT
    have new : ObjOk X.prog X.w (upd H s.heap.objs.size (.tup [.int (i : Nat), x])) h'' s.heap.objs.size (.tup [.int (i : Nat), x]) :=
      ⟨by show 2 ≤ sizeLine; decide, [.int i tk, y], .cons ⟨_, rfl⟩ (.cons ru .nil), ⟨_, hT2, rfl, _, rfl⟩⟩
    have I1 : Inv X pins σ (upd H s.heap.objs.size (.tup [.int (i : Nat), x])) { s with heap := h'', toks := tk + 1 } :=
      I.turnedNew (ch := [e, it]) (fun b ob hb q => (sb.2 b (fun z => hb (by simp [z]))).trans (hk b ob (fun z => hb (by simp [z])) (fun z => hb (by simp [z])) q)) hf (Nat.le_refl _) new
    refine ⟨.ref s.heap.objs.size, _, I1, rfl, ⟨_, x, rfl, I.hok.fresh (Nat.le_refl _), rfl, fun ys hy2 => by rw [I.tuple_inj hy2 hq]; exact hx⟩, ⟨⟨y, ?_⟩, hst'.1.at fun o q => (sb.2 it (Ne.symm hne)).trans q, hne⟩, fun b hb => ?_⟩
    · have e1 : ((i + 1 : Nat) : Int) = (i : Int) + 1 := by omega
      rw [e1]; exact he'
    · have hb' : b < s.heap.objs.size := by
        have e' : b = e ∨ b = it := by simpa using hb
        rcases e' with z | z
        · rw [z]; exact hel
        · rw [z]; exact hil
      rw [upd_ne (Nat.ne_of_lt hb')]
      exact (hf b hb).1
  done := by
    intro X hP hw hK hc i pins s σ H E I hf st hg
    subst hP hw hK
    obtain ⟨⟨old, he⟩, hit, hne⟩ := st
    obtain ⟨xs, hq, hx⟩ := hg
    obtain ⟨its, rv, p, hz⟩ := I.tuple hq
    have p : s.heap.IsTuple a its.toArray := p
    obtain ⟨f0, f1, f2, f3, f4, f5⟩ := hf it (by simp)
    have hl := rv.length
    exact next_enum_endT (I.ok.hd hc) he hit p (by simp; omega) fun h' eb => ⟨rfl, I.turned (t' := s.toks) (fun b o hb q => eb b o hb q) f0 f1 f3 f4 f5⟩
  self := fun A i s Q E st h => let ⟨⟨_, he⟩, _⟩ := st; wpAny_pyIter_enum he h
def iEnumA (K : PySem.W.Frag) (ta : TA) : TI := fun σ H R => ta σ H fun vs H1 => ∃ a xs, vs = [.ref a] ∧ ((SqL K H1 a xs ∧ R (Ite K a) H1) ∨ (SqT K H1 a xs ∧ R (IteT K a) H1))
theorem pi_enumA {X : Cx} {e : Expr} {ta : TA} {p pos tpos : Pos} {elts : List Expr} {kk : Nat} (hg : Gl X "enumerate") (hm : X.mg "enumerate" = none) (ha : PA X [e] ta) (hs : starEach [e] X.env = [(false, eval e X.env)] := by rfl) :
    PI X (.Tuple elts kk tpos) (.Call (.Name "enumerate" p) [e] [] pos) (iEnumA X.K ta) := by
  refine ⟨fun pins s σ H R I h => ?_⟩
  refine Call_ (ld_blt I hg hm boot_enumerate (PyProof.Rows.callWith_type1 (thn (ha.run pos pins s σ H _ I h) fun us s1 ⟨vs, H1, I1, r1, q1⟩ => ?_) hs rfl))
  obtain ⟨a, xs, ex, q1⟩ := q1
  subst ex
  cases r1 with
  | cons r rr =>
    cases rr
    cases r
    rcases q1 with ⟨hq, q⟩ | ⟨hq, q⟩
    · obtain ⟨its, rv, p', hz⟩ := I1.list hq
      refine call_enumerate_list p'.isList fun h' he hit hsz hk => wpAny_pyIter_enum he ?_
      have I2 : Inv X pins σ H1 { s1 with heap := h' } := I1.kept (t' := s1.toks) hk
      refine ⟨s1.heap.objs.size + 1, [s1.heap.objs.size + 1, s1.heap.objs.size], _, _, H1, rfl, I2, turn_enum a (s1.heap.objs.size + 1) s1.heap.objs.size, ⟨⟨.none, he⟩, hit, Nat.succ_ne_self _⟩, fun b hb => ?_, q⟩
      have e' : b = s1.heap.objs.size + 1 ∨ b = s1.heap.objs.size := by simpa using hb
      have hle : s1.heap.objs.size ≤ b := by
        rcases e' with z | z
        · rw [z]; exact Nat.le_add_right _ _
        · rw [z]; exact Nat.le_refl _
      exact I1.fpOk hle (I1.hok.fresh hle)
    · obtain ⟨its, rv, p', hz⟩ := I1.tuple hq
      refine call_enum_tuple (items := its.toArray) p' fun h' he hit hsz hk => wpAny_pyIter_enum he ?_
      have I2 : Inv X pins σ H1 { s1 with heap := h' } := I1.kept (t' := s1.toks) hk
      refine ⟨s1.heap.objs.size + 1, [s1.heap.objs.size + 1, s1.heap.objs.size], _, _, H1, rfl, I2, turn_enumT a (s1.heap.objs.size + 1) s1.heap.objs.size, ⟨⟨.none, he⟩, hit, Nat.succ_ne_self _⟩, fun b hb => ?_, q⟩
      have e' : b = s1.heap.objs.size + 1 ∨ b = s1.heap.objs.size := by simpa using hb
      have hle : s1.heap.objs.size ≤ b := by
        rcases e' with z | z
        · rw [z]; exact Nat.le_add_right _ _
        · rw [z]; exact Nat.le_refl _
      exact I1.fpOk hle (I1.hok.fresh hle)
theorem jok_enumT {K : PySem.W.Frag} {B : Hp} {a : Addr} {xs : List V} {l : List D} (h1 : SqT K B a xs) (h2 : DpAll K B xs l) : JOk K B (IteT K a) (enumD l) := fun B2 H2 s1 s2 i => by
  have hq : SqT K H2 a xs := sqt_mono (s1.trans s2) h1
  unfold enumD
  refine ⟨fun d hd => ?_, fun hl => ⟨xs, hq, by rw [DpAll.length h2]; have hl := Nat.le_of_eq hl; simpa using hl⟩⟩
  rw [List.getElem?_mapIdx] at hd
  cases e0 : l[i]? with
  | none => rw [e0] at hd; cases hd
  | some d0 =>
    rw [e0] at hd
    cases hd
    obtain ⟨v, e1, e2⟩ := DpAll.get h2 e0
    refine ⟨⟨xs, v, hq, e1⟩, fun x H3 q => ?_⟩
    obtain ⟨T, y, rfl, hT, rfl, q⟩ := q
    have := q xs hq
    rw [e1] at this
    cases this
    exact jok_new s2 hT (.cons (.int _) (.cons (Dp.mono s1 e2) .nil))
def mEnumA (f : M (List Rs)) : M (List D) := M.bind f fun rs => M.bind (freezeAll rs) fun ds ρ => match ds with
  | [.list l] => some (.ok (enumD l) ρ)
  | [.tuple l] => some (.ok (enumD l) ρ)
  | _ => none
theorem di_enumA {X : Cx} {vs0 : List V} {elts : List Expr} {kk : Nat} {tpos : Pos} {e : Expr} {fa : M (List Rs)} {p pos : Pos} (hg : Gl X "enumerate") (hm : X.mg "enumerate" = none) (ha : PA X [e] (rdA X.K vs0 fa)) (hs : starEach [e] X.env = [(false, eval e X.env)] := by rfl) :
    PI X (.Tuple elts kk tpos) (.Call (.Name "enumerate" p) [e] [] pos) (rdI X.K vs0 (mEnumA fa)) := PI.imp (pi_enumA hg hm ha hs) fun σ H R q => by
  obtain ⟨B, ρ, fs, g, l, ρ', e1, k⟩ := q
  obtain ⟨rs, ρ1, e2, e3⟩ := M.bind_ok e1
  obtain ⟨ds, ρ2, e4, e5⟩ := M.bind_ok e3
  split at e5
  · cases e5
    refine ⟨B, ρ, fs, g, rs, ρ1, e2, fun vs B1 H1 fs1 Ts fr g1 ok nd => ?_⟩
    obtain ⟨B2, fs2, fr2, g2, d2⟩ := freezeAll_ok g1 ok nd e4
    cases d2 with
    | cons d2 d3 =>
      cases d3
      cases d2 with
      | lst h1 h2 => exact ⟨_, _, rfl, Or.inl ⟨sql_mono g2.ext h1, k _ B2 H1 fs2 (fr.trans fr2) g2 (jok_enum h1 h2)⟩⟩
  · cases e5
    refine ⟨B, ρ, fs, g, rs, ρ1, e2, fun vs B1 H1 fs1 Ts fr g1 ok nd => ?_⟩
    obtain ⟨B2, fs2, fr2, g2, d2⟩ := freezeAll_ok g1 ok nd e4
    cases d2 with
    | cons d2 d3 =>
      cases d3
      cases d2 with
      | tup h1 h2 => exact ⟨_, _, rfl, Or.inr ⟨sqt_mono g2.ext h1, k _ B2 H1 fs2 (fr.trans fr2) g2 (jok_enumT h1 h2)⟩⟩
  · cases e5
end Pd
set_option Elab.async false
set_option linter.all false
set_option maxRecDepth 100000
set_option maxHeartbeats 1000000
namespace Pd
open PySem PySem.Spec PyProof.Rows L2
namespace B
section
variable {ρ : Env}
def enumAQ (ρ : Env) (Q : List D → Env → Prop) : List D → Prop
  | [.list l] => Q (enumD l) ρ
  | [.tuple l] => Q (enumD l) ρ
  | _ => False
@[simp] theorem enumAQ_l {Q : List D → Env → Prop} {l : List D} : enumAQ ρ Q [.list l] = Q (enumD l) ρ := rfl
@[simp] theorem enumAQ_t {Q : List D → Env → Prop} {l : List D} : enumAQ ρ Q [.tuple l] = Q (enumD l) ρ := rfl
@[simp ↓] theorem ev_mEnumA {f : M (List Rs)} {Q : List D → Env → Prop} : Ev (mEnumA f) ρ Q ↔ Ev f ρ fun rs ρ1 => Ev (freezeAll rs) ρ1 fun ds ρ2 => enumAQ ρ2 Q ds := by
  unfold mEnumA
  simp only [ev_bind]
  constructor
  · rintro ⟨rs, ρ1, e, ds, ρ2, e2, b, ρ3, e3, q⟩
    refine ⟨rs, ρ1, e, ds, ρ2, e2, ?_⟩
    try dsimp only at e3
    split at e3
    · cases e3; exact q
    · cases e3; exact q
    · cases e3
  · rintro ⟨rs, ρ1, e, ds, ρ2, e2, q⟩
    refine ⟨rs, ρ1, e, ds, ρ2, e2, ?_⟩
    try dsimp only at q
    unfold enumAQ at q
    split at q
    · exact ⟨_, ρ2, rfl, q⟩
    · exact ⟨_, ρ2, rfl, q⟩
    · exact q.elim
end
end B
end Pd
set_option Elab.async false
set_option linter.all false
set_option maxRecDepth 100000
set_option maxHeartbeats 1000000
namespace Pd
open PySem PySem.Spec PyProof.Rows L2
section
variable {ρ : Env}
def enumAQ (ρ : Env) (Q : List D → Env → Prop) [Fx Q] (o0 : List D) : Prop := B.enumAQ ρ Q o0
@[simp] theorem enumAQ_l {Q : List D → Env → Prop} {l : List D} : enumAQ ρ Q [.list l] = Q (enumD l) ρ := B.enumAQ_l
@[simp] theorem enumAQ_t {Q : List D → Env → Prop} {l : List D} : enumAQ ρ Q [.tuple l] = Q (enumD l) ρ := B.enumAQ_t
@[simp ↓] theorem ev_mEnumA {f : M (List Rs)} {Q : List D → Env → Prop} : Ev (mEnumA f) ρ Q ↔ Ev f ρ fun rs ρ1 => Ev (freezeAll rs) ρ1 fun ds ρ2 => enumAQ ρ2 Q ds := B.ev_mEnumA
end
end Pd
set_option Elab.async false
set_option linter.all false
set_option maxRecDepth 100000
set_option maxHeartbeats 1000000
namespace Pd
open PySem PySem.Spec PyProof.Rows L2
def compL (j : Nat) (own : List Nat) (t : D → Env → Option Env) (tt : M Bool) (te : M Rs) : Nat → Nat → List D → M (List D)
  | 0, _, _ => M.fail
  | n + 1, i, acc => fun ρ => match (wipeE ρ own)[j]? with
    | some (some (.ml _ l)) => match l[i]? with
      | none => some (.ok acc ρ)
      | some d => match t d (wipeE ρ own) with
        | none => none
        | some ρ1 => match tt ρ1 with
          | none => none
          | some (.ok false ρ2) => compL j own t tt te n (i + 1) acc ρ2
          | some (.ok true ρ2) => match M.bind te freezeR ρ2 with
            | none => none
            | some (.ok y ρ3) => if acc.length < sizeLine then compL j own t tt te n (i + 1) (acc ++ [y]) ρ3 else none
    | _ => none
def eLcL (j : Nat) (own : List Nat) (t : D → Env → Option Env) (tt : M Bool) (te : M Rs) : M Rs := fun ρ => if plainAt ρ own = true then
    match ρ[j]? with
    | some (some (.ml _ _)) => match compL j own t tt te fuel 0 [] ρ with
      | some (.ok acc ρ1) => some (.ok (.own (.ml none acc)) (backE ρ (wipeE ρ1 own) own))
      | none => none
    | _ => none
  else none
section
variable {K : PySem.W.Frag} {vs0 : List V}
theorem rd_lcL {jj : Nat} {own is : List Nat} {t : D → Env → Option Env} {tt : M Bool} {te : M Rs} (his : ∀ i ∈ is, i ∈ own) {σ : L2.St} {H : Hp} {Q : VK} (q : rdE K vs0 (eLcL jj own t tt te) σ H Q) :
    tLc (iList K (tVar jj)) (rdG K vs0 is t) (rdT K vs0 tt) (rdE K vs0 te) own σ H Q := by
  obtain ⟨B, ρ, fs, gd, r, ρ', e1, k⟩ := q
  unfold eLcL at e1
  split at e1
  · rename_i hpl
    split at e1
    · rename_i tg0 l0 e0
      split at e1
      · rename_i accE ρE e4
        cases e1
        obtain ⟨v, hv, ⟨a, ys, rfl, hfa, ha1, ha2⟩, _⟩ := gd.at_ jj _ e0
        refine ⟨.ref a, hv, a, rfl, ⟨ys, Or.inl (Or.inl ha1)⟩, fun Dl hD => ?_⟩
        refine ⟨fun i m H2 => ∃ B2 ρ2 fs2 acc xs, Good K vs0 B2 H2 (wipe σ own) (wipeE ρ2 own) fs2 ∧ Fr B H (InF fs) B2 H2 (UnF (InF fs2) [Dl]) ∧ H2 Dl = some (.lst xs) ∧ DpAll K B2 xs acc ∧ B2 Dl = none ∧ (∀ j, Dl ∉ fs2 j) ∧ compL jj own t tt te m i acc ρ2 = some (.ok accE ρE), ⟨fuel, ?_⟩, ?_⟩
        · have frn := Fr.newL (B := B) (o := HO.lst []) hD
          have g2 := gd.grow frn (fun _ _ f => f) (gd.ext.trans frn.sameH)
          obtain ⟨fs2, g3, s3⟩ := g2.wipes own
          refine ⟨B, ρ, fs2, [], [], g3, frn.weak (fun _ f => f.elim) (fun a f => ?_), upd_same, .nil, ?_, fun j hj => ?_, e4⟩
          · rcases f with f | f
            · exact Or.inr (Or.inl (s3 a f))
            · exact Or.inl f
          · cases q : B Dl with
            | none => rfl
            | some u => rw [gd.ext Dl u q] at hD; cases hD
          · obtain ⟨j', hj'⟩ := s3 Dl ⟨j, hj⟩
            exact gd.lives hj' hD
        · rintro i m H2 ⟨B2, ρ2, fs2, acc, xs, g2, fr2, h2, d2, b2, n2, e5⟩
          cases m with
          | zero => cases e5
          | succ m =>
          unfold compL at e5
          split at e5
          · rename_i tg1 l1 e10
            obtain ⟨v1, hv1, ⟨a1, zs, rfl, _, hz1, hz2⟩, _⟩ := g2.at_ jj _ e10
            have ea : a1 = a := by
              have := (L2.wipe_some hv1).1
              rw [hv] at this
              cases this
              rfl
            subst ea
            have hsq : SqL K H2 a1 zs := Or.inl (Or.inl hz1)
            split at e5
            · rename_i e11
              left
              refine ⟨⟨zs, hsq, by rw [DpAll.length hz2]; exact List.getElem?_eq_none_iff.mp e11⟩, ?_⟩
              cases e5
              refine k (.ref Dl) B2 H2 fs2 [Dl] fr2 (gd.back fr2.bb hpl g2) ⟨⟨Dl, xs, rfl, rfl, h2, d2⟩, rfl, fun a ha => ?_⟩
              simp at ha
              subst ha
              exact ⟨b2, n2⟩
            · rename_i d0 e11
              right
              obtain ⟨x0, hx0, dx0⟩ := DpAll.get hz2 e11
              split at e5
              · cases e5
              · rename_i ρ3 e6
                refine ⟨⟨zs, x0, hsq, hx0⟩, fun H' => (∃ B2 ρ2 fs2 acc xs, Good K vs0 B2 H' (wipe σ own) (wipeE ρ2 own) fs2 ∧ Fr B H (InF fs) B2 H' (UnF (InF fs2) [Dl]) ∧ H' Dl = some (.lst xs) ∧ DpAll K B2 xs acc ∧ B2 Dl = none ∧ (∀ j, Dl ∉ fs2 j) ∧ compL jj own t tt te m (i + 1) acc ρ2 = some (.ok accE ρE)), fun H' n => ⟨m, Nat.lt_succ_self m, n⟩, fun x H3 hy => ?_⟩
                obtain ⟨rfl, hy⟩ := hy
                have hxx := hy zs hsq
                rw [hx0] at hxx
                cases hxx
                have h3 := h2
                have b3 := b2
                have g3 := g2
                have d3 := dx0
                have fr3 := Fr.refl B2 H3 (fun _ => False)
                have fr03 := fr2
                refine ⟨B2, wipeE ρ2 own, fs2, _, ρ3, g3, d3, e6, fun σ4 fs4 g4 s4 a4 l4 => ?_⟩
                have hw : wipe σ4 own = wipe σ own := wipe_eq his (l4.trans (L2.wipe_length σ own)) a4
                refine ⟨hw, ?_⟩
                have n4 : ∀ j, Dl ∉ fs4 j := fun j hj => by
                  obtain ⟨j', hj'⟩ := s4 Dl ⟨j, hj⟩
                  exact n2 j' hj'
                split at e5
                · cases e5
                · rename_i ρ4 e7
                  refine ⟨B2, ρ3, fs4, g4, false, ρ4, e7, fun B5 H5 fs5 fr5 g5 => ?_⟩
                  dsimp only
                  rw [if_neg (by decide)]
                  have nF : ¬ InF fs4 Dl := fun ⟨j, hj⟩ => n4 j hj
                  have live3 : H3 Dl ≠ none := by rw [h3]; simp
                  obtain ⟨fs6, g6, s6⟩ := g5.wipes own
                  rw [hw] at g6
                  refine ⟨B5, ρ4, fs6, acc, xs, g6, ?_, by rw [fr5.keep Dl live3 nF]; exact h3, DpAll.mono (fr3.bb.trans fr5.bb) d2, fr5.bnew Dl live3 nF b3, fun j hj => ?_, e5⟩
                  · refine fr03.trans ((fr5.frame [Dl]).weak (fun a h => ?_) fun a h => ?_)
                    · rcases h with h | h
                      · exact Or.inl (s4 a h)
                      · exact Or.inr h
                    · rcases h with h | h
                      · exact Or.inl (Or.inl (s6 a h))
                      · exact Or.inl (Or.inr h)
                  · rcases fr5.own Dl (s6 Dl ⟨j, hj⟩) with q | q
                    · exact nF q
                    · exact live3 q
                · rename_i ρ4 e7
                  refine ⟨B2, ρ3, fs4, g4, true, ρ4, e7, fun B5 H5 fs5 fr5 g5 => ?_⟩
                  dsimp only
                  rw [if_pos rfl]
                  have nF : ¬ InF fs4 Dl := fun ⟨j, hj⟩ => n4 j hj
                  have live3 : H3 Dl ≠ none := by rw [h3]; simp
                  have h5 : H5 Dl = some (.lst xs) := by rw [fr5.keep Dl live3 nF]; exact h3
                  have b5 := fr5.bnew Dl live3 nF b3
                  have live5 : H5 Dl ≠ none := by rw [h5]; simp
                  have nF5 : ¬ InF fs5 Dl := fun f => by
                    rcases fr5.own Dl f with q | q
                    · exact nF q
                    · exact live3 q
                  split at e5
                  · cases e5
                  · rename_i y ρ5 e8
                    split at e5
                    · rename_i hsz
                      obtain ⟨r6, ρ6, e9, e10⟩ := M.bind_ok e8
                      refine ⟨B5, ρ4, fs5, g5, r6, ρ6, e9, fun v B6 H6 fs6 T6 fr6 g6 ok6 => ?_⟩
                      have h6 : H6 Dl = some (.lst xs) := by rw [fr6.keep Dl live5 nF5]; exact h5
                      have b6 := fr6.bnew Dl live5 nF5 b5
                      have live6 : H6 Dl ≠ none := by rw [h6]; simp
                      have nF6 : ¬ UnF (InF fs6) T6 Dl := fun f => by
                        rcases fr6.own Dl f with q | q
                        · exact nF5 q
                        · exact live5 q
                      obtain ⟨B7, fs7, fr7, g7, d7⟩ := freezeR_ok g6 ok6 e10
                      have b7 := fr7.bnew Dl live6 nF6 b6
                      have nF7 : ¬ InF fs7 Dl := fun f => by
                        rcases fr7.own Dl f with q | q
                        · exact nF6 q
                        · exact live6 q
                      have dx : DpAll K B7 xs acc := DpAll.mono (((fr3.bb.trans fr5.bb).trans fr6.bb).trans fr7.bb) d2
                      refine ⟨xs, h6, by rw [DpAll.length d2]; exact hsz, ?_⟩
                      have g8 := g7.mutOut (o := HO.lst (xs ++ [v])) b7 fun i hi => nF7 ⟨i, hi⟩
                      obtain ⟨fs9, g9, s9⟩ := g8.wipes own
                      rw [hw] at g9
                      refine ⟨B7, ρ5, fs9, acc ++ [y], xs ++ [v], g9, ?_, upd_same, DpAll.append dx (DpAll.one d7), b7, fun j hj => nF7 (s9 Dl ⟨j, hj⟩), e5⟩
                      have frA : Fr B2 H3 (UnF (InF fs4) [Dl]) B7 H6 (UnF (InF fs7) [Dl]) := (fr5.frame [Dl]).trans ((fr6.frame [Dl]).trans ((fr7.frame [Dl]).weak (fun a h => h) fun a h => Or.inl h))
                      have frB : Fr B7 H6 (UnF (InF fs7) [Dl]) B7 (upd H6 Dl (HO.lst (xs ++ [v]))) (UnF (InF fs7) [Dl]) := Fr.mut (Or.inr (by simp))
                      refine fr03.trans ((frA.trans frB).weak (fun a h => ?_) fun a h => ?_)
                      · rcases h with h | h
                        · exact Or.inl (s4 a h)
                        · exact Or.inr h
                      · rcases h with h | h
                        · exact Or.inl (Or.inl (s9 a h))
                        · exact Or.inl (Or.inr h)
                    · cases e5
          · cases e5
      · cases e1
    · cases e1
  · cases e1
end
def eLcN (j : Nat) (own : List Nat) (t : D → Env → Option Env) (tt : M Bool) (te : M Rs) : M Rs := fun ρ => match ρ[j]? with
  | some (some (.ml _ _)) => eLcL j own t tt te ρ
  | _ => eLc (mSeq (eName j)) own t tt te ρ
theorem rd_lcN {K : PySem.W.Frag} {vs0 : List V} {jj : Nat} {own is : List Nat} {t : D → Env → Option Env} {tt : M Bool} {te : M Rs} (his : ∀ i ∈ is, i ∈ own) {σ : L2.St} {H : Hp} {Q : VK} (q : rdE K vs0 (eLcN jj own t tt te) σ H Q) :
    tLc (fun σ H R => iList K (tVar jj) σ H R ∨ rdI K vs0 (mSeq (eName jj)) σ H R) (rdG K vs0 is t) (rdT K vs0 tt) (rdE K vs0 te) own σ H Q := by
  obtain ⟨B, ρ, fs, gd, r, ρ', e1, k⟩ := q
  unfold eLcN at e1
  split at e1
  · exact Or.inl (rd_lcL his ⟨B, ρ, fs, gd, r, ρ', e1, k⟩)
  · exact Or.inr (rd_lc his ⟨B, ρ, fs, gd, r, ρ', e1, k⟩)
section
variable {X : Cx} {vs0 : List V}
theorem de_lcN {j : Nat} {elt tg iter : Expr} {ifs : List Expr} {scope : Scope} {own : List (Str × Nat)} {is : List Nat} {pos : Pos} {t : D → Env → Option Env} {tt : M Bool} {te : M Rs} (hc : X.calm = true) (hN : X.N.Nodup) (hi : PE X iter (tVar j)) (ok : BlkOk X.N X.env.scope scope own)
    (his : ∀ i ∈ is, i ∈ own.map (·.2))
    (hg : ∀ (s : Shared) (H : Hp) (C : Addr) (cl : List (Str × Addr)) (fp : List Addr), PG (X.blk s H scope (compEnvC scope cl C X.env) fp) tg (rdG X.K vs0 is t)) (ht : ∀ (s : Shared) (H : Hp) (C : Addr) (cl : List (Str × Addr)) (fp : List Addr), PTs (X.blk s H scope (compEnvC scope cl C X.env) fp) ifs (rdT X.K vs0 tt))
    (he : ∀ (s : Shared) (H : Hp) (C : Addr) (cl : List (Str × Addr)) (fp : List Addr), PE (X.blk s H scope (compEnvC scope cl C X.env) fp) elt (rdE X.K vs0 te)) (hs : ∀ x, foldedSetIterable iter X.env x = pure x := by intro _; rfl) :
    PE X (.ListComp elt [⟨tg, iter, ifs, 0⟩] scope pos) (rdE X.K vs0 (eLcN j (own.map (·.2)) t tt te)) := PE.imp (pe_lc hc hN (PI.or (pi_list hi) (di_seq (de_var hi))) ok hg ht he hs) fun σ H Q q => rd_lcN his q
end
end Pd
set_option Elab.async false
set_option linter.all false
set_option maxRecDepth 100000
set_option maxHeartbeats 1000000
namespace Pd
open PySem PySem.Spec PyProof.Rows L2
namespace B
section
variable {ρ : Env} {j : Nat} {own : List Nat} {t : D → Env → Option Env} {tt : M Bool} {te : M Rs}
def lcNQ (j : Nat) (own : List Nat) (t : D → Env → Option Env) (tt : M Bool) (te : M Rs) (ρ : Env) (Q : Rs → Env → Prop) : Option (Option Sl) → Prop
  | some (some (.ml _ _)) => plainAt ρ own = true ∧ Ev (compL j own t tt te fuel 0 []) ρ fun acc ρ1 => Q (.own (.ml none acc)) (backE ρ (wipeE ρ1 own) own)
  | _ => Ev (eLc (mSeq (eName j)) own t tt te) ρ Q
@[simp] theorem lcNQ_ml {Q : Rs → Env → Prop} {tg : Option Nat} {l : List D} : lcNQ j own t tt te ρ Q (some (some (.ml tg l))) = (plainAt ρ own = true ∧ Ev (compL j own t tt te fuel 0 []) ρ fun acc ρ1 => Q (.own (.ml none acc)) (backE ρ (wipeE ρ1 own) own)) := rfl
@[simp] theorem lcNQ_p {Q : Rs → Env → Prop} {d : D} : lcNQ j own t tt te ρ Q (some (some (.p d))) = Ev (eLc (mSeq (eName j)) own t tt te) ρ Q := rfl
@[simp ↓] theorem ev_lcN {Q : Rs → Env → Prop} : Ev (eLcN j own t tt te) ρ Q ↔ lcNQ j own t tt te ρ Q ρ[j]? := by
  constructor
  · rintro ⟨r, ρ', e, q⟩
    unfold eLcN at e
    split at e
    · rename_i tg l h
      rw [h]
      unfold eLcL at e
      split at e
      · rename_i hp
        rw [h] at e
        dsimp only at e
        split at e
        · rename_i acc ρ1 h2
          cases e
          exact ⟨hp, acc, ρ1, h2, q⟩
        · cases e
      · cases e
    · rename_i hn
      unfold lcNQ
      split
      · rename_i tg l h
        exact (hn tg l h).elim
      · exact ⟨r, ρ', e, q⟩
  · intro q
    unfold lcNQ at q
    split at q
    · rename_i tg l h
      obtain ⟨hp, acc, ρ1, h2, q⟩ := q
      refine ⟨_, _, ?_, q⟩
      unfold eLcN
      rw [h]
      dsimp only
      unfold eLcL
      rw [if_pos hp, h]
      dsimp only
      rw [h2]
    · rename_i hn
      obtain ⟨r, ρ', e, q⟩ := q
      refine ⟨r, ρ', ?_, q⟩
      unfold eLcN
      split
      · rename_i tg l h
        exact (hn tg l h).elim
      · exact e
theorem ev_compL_pure {Q : List D → Env → Prop} {α : Type} (f g : α → D) (c : α → Bool) {l : List α} {tg : Option Nat} (hj : (wipeE ρ own)[j]? = some (some (.ml tg (l.map f)))) (hn : l.length < sizeLine)
    (hs : ∀ x ∈ l, envQ (fun ρ1 => Ev tt ρ1 fun b ρ2 => b = c x ∧ if b = true then Ev te ρ2 fun r ρ3 => Ev (freezeR r) ρ3 fun y ρ4 => y = g x ∧ wipeE ρ4 own = wipeE ρ own else wipeE ρ2 own = wipeE ρ own) (t (f x) (wipeE ρ own)))
    (hd : ∀ ρ', wipeE ρ' own = wipeE ρ own → Q ((l.filter c).map g) ρ') : Ev (compL j own t tt te fuel 0 []) ρ Q := by
  have main : ∀ (n i : Nat) (acc : List D) (ρ1 : Env), l.length - i < n → i ≤ l.length → wipeE ρ1 own = wipeE ρ own → acc = ((l.take i).filter c).map g → Ev (compL j own t tt te n i acc) ρ1 Q := by
    intro n
    induction n with
    | zero => intro i acc ρ1 h; exact (Nat.not_lt_zero _ h).elim
    | succ n ih =>
      intro i acc ρ1 hm hi hw ha
      by_cases hil : i < l.length
      · have h := hs _ (List.getElem_mem hil)
        have htk : l.take (i + 1) = l.take i ++ [l[i]] := by rw [List.take_succ, List.getElem?_eq_getElem hil]; rfl
        have hge : (l.map f)[i]? = some (f l[i]) := by rw [List.getElem?_map, List.getElem?_eq_getElem hil]; rfl
        have hal : acc.length < sizeLine := by
          rw [ha, List.length_map]
          have h1 := List.length_filter_le c (l.take i)
          have h2 := List.length_take_le i l
          omega
        unfold envQ at h
        split at h
        · rename_i ρ2 e2
          obtain ⟨b, ρ3, e3, hb, q⟩ := h
          cases b with
          | false =>
            rw [if_neg (by decide)] at q
            obtain ⟨a, ρ5, e5, q5⟩ := ih (i + 1) acc ρ3 (by omega) hil q (by rw [ha, htk, List.filter_append, List.filter_cons, ← hb]; simp)
            refine ⟨a, ρ5, ?_, q5⟩
            unfold compL
            simp only [hw, hj, hge, e2, e3]
            exact e5
          | true =>
            rw [if_pos rfl] at q
            obtain ⟨rr, ρ4, e4, y, ρ5, e5, rfl, q⟩ := q
            obtain ⟨a, ρ6, e6, q6⟩ := ih (i + 1) (acc ++ [g l[i]]) ρ5 (by omega) hil q (by rw [ha, htk, List.filter_append, List.filter_cons, ← hb]; simp)
            refine ⟨a, ρ6, ?_, q6⟩
            have hb2 : M.bind te freezeR ρ3 = some (.ok (g l[i]) ρ5) := by unfold M.bind; simp only [e4, e5]
            unfold compL
            simp only [hw, hj, hge, e2, e3, hb2, if_pos hal]
            exact e6
        · exact h.elim
      · have hie : i = l.length := by omega
        have hge : (l.map f)[i]? = none := by rw [List.getElem?_eq_none]; simp; omega
        refine ⟨acc, ρ1, ?_, ?_⟩
        · unfold compL
          simp only [hw, hj, hge]
        · rw [ha, hie, List.take_of_length_le (Nat.le_refl _)]
          exact hd ρ1 hw
  refine main fuel 0 [] ρ ?_ (Nat.zero_le _) rfl (by simp)
  have : sizeLine < fuel := by decide
  omega
end
end B
end Pd
set_option Elab.async false
set_option linter.all false
set_option maxRecDepth 100000
set_option maxHeartbeats 1000000
namespace Pd
open PySem PySem.Spec PyProof.Rows L2
section
variable {ρ : Env} {j : Nat} {own : List Nat} {t : D → Env → Option Env} {tt : M Bool} {te : M Rs}
def lcNQ (j : Nat) (own : List Nat) (t : D → Env → Option Env) (tt : M Bool) (te : M Rs) (ρ : Env) (Q : Rs → Env → Prop) [Fx Q] (o0 : Option (Option Sl)) : Prop := B.lcNQ j own t tt te ρ Q o0
@[simp] theorem lcNQ_ml {Q : Rs → Env → Prop} {tg : Option Nat} {l : List D} : lcNQ j own t tt te ρ Q (some (some (.ml tg l))) = (plainAt ρ own = true ∧ Ev (compL j own t tt te fuel 0 []) ρ fun acc ρ1 => Q (.own (.ml none acc)) (backE ρ (wipeE ρ1 own) own)) := B.lcNQ_ml
@[simp] theorem lcNQ_p {Q : Rs → Env → Prop} {d : D} : lcNQ j own t tt te ρ Q (some (some (.p d))) = Ev (eLc (mSeq (eName j)) own t tt te) ρ Q := B.lcNQ_p
@[simp ↓] theorem ev_lcN {Q : Rs → Env → Prop} : Ev (eLcN j own t tt te) ρ Q ↔ lcNQ j own t tt te ρ Q ρ[j]? := B.ev_lcN
theorem ev_compL_pure {Q : List D → Env → Prop} {α : Type} (f g : α → D) (c : α → Bool) {l : List α} {tg : Option Nat} (hj : (wipeE ρ own)[j]? = some (some (.ml tg (l.map f)))) (hn : l.length < sizeLine)
    (hs : ∀ x ∈ l, envQ (fun ρ1 => Ev tt ρ1 fun b ρ2 => b = c x ∧ if b = true then Ev te ρ2 fun r ρ3 => Ev (freezeR r) ρ3 fun y ρ4 => y = g x ∧ wipeE ρ4 own = wipeE ρ own else wipeE ρ2 own = wipeE ρ own) (t (f x) (wipeE ρ own)))
    (hd : ∀ ρ', wipeE ρ' own = wipeE ρ own → Q ((l.filter c).map g) ρ') : Ev (compL j own t tt te fuel 0 []) ρ Q := B.ev_compL_pure f g c hj hn hs hd
end
end Pd
set_option Elab.async false
set_option linter.all false
set_option maxRecDepth 100000
set_option maxHeartbeats 1000000
namespace Pd
open PySem PySem.Spec PyProof.Rows L2
def SqB (K : PySem.W.Frag) (b : Bool) (H : Hp) (a : Addr) (xs : List V) : Prop := match b with
  | true => SqT K H a xs
  | false => SqL K H a xs
def ItrB (b : Bool) (h : Heap) (it a : Addr) (i : Nat) : Prop := match b with
  | true => h.IsTupleIter it a i
  | false => h.IsListIter it a i
def IsB (b : Bool) (h : Heap) (a : Addr) (items : Array Value) : Prop := match b with
  | true => h.IsTuple a items
  | false => h.IsList a items
def objB (b : Bool) (a : Addr) : Obj := match b with
  | true => { cls := .type "tuple_iterator", data := .fields #[.ref a, .int 0 0] }
  | false => { cls := .type "list_iterator", data := .fields #[.ref a, .int 0 0] }
theorem beginsB (b : Bool) (a : Addr) (items : Array Value) : Begins (.ref a) (objB b a) fun h => IsB b h a items := by
  cases b with
  | true => exact begins_tuple a items
  | false => exact begins_list a items
theorem itrB_obj {b : Bool} {h : Heap} {it a : Addr} {i : Nat} (x : ItrB b h it a i) : ∃ o, h.get? it = some o ∧ ∀ v, o.data ≠ .cell v := by
  cases b with
  | true => obtain ⟨o, e, _, d⟩ := x; exact ⟨o, e, fun v q => by rw [d] at q; cases q⟩
  | false => obtain ⟨o, e, _, d⟩ := x; exact ⟨o, e, fun v q => by rw [d] at q; cases q⟩
theorem itrB_at {b : Bool} {h h' : Heap} {it a : Addr} {i : Nat} (x : ItrB b h it a i) (k : ∀ o, h.get? it = some o → h'.get? it = some o) : ItrB b h' it a i := by
  cases b with
  | true => exact Heap.IsTupleIter.at x k
  | false => exact Heap.IsListIter.at x k
theorem itrB_new {b : Bool} {h : Heap} {it a : Addr} (x : h.get? it = some (objB b a)) : ItrB b h it a 0 := by
  cases b with
  | true => exact ⟨_, x, rfl, rfl⟩
  | false => exact ⟨_, x, rfl, rfl⟩
theorem isB_lt {b : Bool} {h : Heap} {a : Addr} {items : Array Value} (x : IsB b h a items) : a < h.objs.size := by
  cases b with
  | true => obtain ⟨o, e, _⟩ := x; exact Heap.lt_size e
  | false => obtain ⟨o, e, _⟩ := x; exact Heap.lt_size e
theorem drawsB {prog : Program} {w : World} {A : Around} (b : Bool) (hh : A.handled = none) (it a : Addr) (hne : a ≠ it) (items : Array Value) :
    Draws prog w A it [it, a] items.size (fun i v => items[i]? = some v) (fun i h => ItrB b h it a i ∧ IsB b h a items) := by
  cases b with
  | true => exact Draws.tuple hh it a hne items
  | false => exact Draws.list hh it a hne items
section
variable {X : Cx} {pins : List (Addr × Obj)} {σ : L2.St} {H : Hp} {s : Shared} {b : Bool} {a : Addr} {xs ys : List V}
theorem invB (I : Inv X pins σ H s) (h : SqB X.K b H a xs) : ∃ its, Vals xs its ∧ IsB b s.heap a its.toArray := by
  cases b with
  | true => obtain ⟨its, rv, p, _⟩ := I.tuple h; exact ⟨its, rv, p⟩
  | false => obtain ⟨its, rv, p, _⟩ := I.list h; exact ⟨its, rv, p.isList⟩
theorem injB (I : Inv X pins σ H s) (h : SqB X.K b H a xs) (h' : SqB X.K b H a ys) : xs = ys := by
  cases b with
  | true => exact I.tuple_inj h h'
  | false => exact I.list_inj h h'
end
theorem sep_of {z TI TO i1 i2 a b : Addr} (D : ZipApart z TI TO i1 i2 a b) : ZipSep2 z TI TO i1 i2 [i1, a] [i2, b] where
  TIz := D.TIz
  TOz := D.TOz
  TITO := D.TITO
  TIi1 := D.TIi1
  mem1 := by simp
  zf1 := by simp; exact ⟨Ne.symm D.i1z, Ne.symm D.l1z⟩
  Tf1 := by simp; exact ⟨D.TOi1, Ne.symm D.l1TO⟩
  TIi2 := D.TIi2
  mem2 := by simp
  zf2 := by simp; exact ⟨Ne.symm D.i2z, Ne.symm D.l2z⟩
  Tf2 := by simp; exact ⟨D.TOi2, Ne.symm D.l2TO⟩
  sep1_2 := by simp; exact ⟨D.i12, Ne.symm D.l2i1⟩
  sep2_1 := by simp; exact ⟨Ne.symm D.i12, Ne.symm D.l1i2⟩
def ItzB (K : PySem.W.Frag) (b1 b2 : Bool) (a b : Addr) : It :=
  ⟨fun i H => ∃ (xs ys : List V) (x y : V), SqB K b1 H a xs ∧ SqB K b2 H b ys ∧ xs[i]? = some x ∧ ys[i]? = some y,
    fun i H v H' => ∃ T x y, v = .ref T ∧ H T = none ∧ H' = upd H T (.tup [x, y]) ∧ (∀ xs, SqB K b1 H a xs → xs[i]? = some x) ∧ ∀ ys, SqB K b2 H b ys → ys[i]? = some y,
    fun i H => ∃ xs ys : List V, SqB K b1 H a xs ∧ SqB K b2 H b ys ∧ i ≤ xs.length ∧ i ≤ ys.length ∧ (i = xs.length ∨ i = ys.length)⟩
theorem turn_zipB {P : Program} {w : World} {K : PySem.W.Frag} {elts : List Expr} {kk : Nat} {tpos : Pos} {b1 b2 : Bool} {a b z TI TO i1 i2 : Addr} (D : ZipApart z TI TO i1 i2 a b) :
    Turn P w K (.Tuple elts kk tpos) (ItzB K b1 b2 a b) [z, TI, TO, i1, i2] z (fun i h => IsZip h z TI TO .none ∧ IsTupOf2 h TI (.ref i1) (.ref i2) ∧ (∃ x y, IsTupOf2 h TO x y) ∧ ItrB b1 h i1 a i ∧ ItrB b2 h i2 b i) where
  mem := by simp
  obj := fun i h st c hc => by
    obtain ⟨hz, hTI, ⟨x, y, hTO⟩, h1, h2⟩ := st
    have e' : c = z ∨ c = TI ∨ c = TO ∨ c = i1 ∨ c = i2 := by simpa using hc
    rcases e' with q | q | q | q | q
    · rw [q]; exact ⟨_, hz, fun v q => nomatch q⟩
    · rw [q]; exact ⟨_, hTI, fun v q => nomatch q⟩
    · rw [q]; exact ⟨_, hTO, fun v q => nomatch q⟩
    · rw [q]; exact itrB_obj h1
    · rw [q]; exact itrB_obj h2
  keep := fun i h h' st k => by
    obtain ⟨hz, hTI, ⟨x, y, hTO⟩, h1, h2⟩ := st
    exact ⟨k z (by simp) _ hz, k TI (by simp) _ hTI, ⟨x, y, k TO (by simp) _ hTO⟩, itrB_at h1 fun o q => k i1 (by simp) o q, itrB_at h2 fun o q => k i2 (by simp) o q⟩
  item := by
    intro X hP hw hK hc i pins s σ H E I hf st hg
    subst hP hw hK
    obtain ⟨hz, hTI, ⟨x0, y0, hTO⟩, h1, h2⟩ := st
    obtain ⟨xs, ys, x, y, hqx, hqy, hx, hy⟩ := hg
    obtain ⟨its, rv, p⟩ := invB I hqx
    obtain ⟨its2, rv2, p2⟩ := invB I hqy
    obtain ⟨u, hu, ru⟩ := rv.get hx
    obtain ⟨u2, hu2, ru2⟩ := rv2.get hy
    have hzl : z < s.heap.objs.size := Heap.lt_size hz
    have hn1 : i < its.toArray.size := by simpa using (List.getElem?_eq_some_iff.mp hu).1
    have hn2 : i < its2.toArray.size := by simpa using (List.getElem?_eq_some_iff.mp hu2).1
    refine wpAny_pyNext_zipD2_item (sep_of D) (drawsB (prog := X.prog) (w := X.w) (A := X.A.in1) b1 (I.ok.hd hc) i1 a D.l1i1 its.toArray) (drawsB (prog := X.prog) (w := X.w) (A := X.A.in1) b2 (I.ok.hd hc) i2 b D.l2i2 its2.toArray) hz hTI hTO ⟨h1, p⟩ ⟨h2, p2⟩ hn1 hn2
      fun v1 v2 h' tk hv1 hv2 z' TO' s1' s2' hT hsz hk => ?_
    have e1 : v1 = u := by
      have : its[i]? = some v1 := by simpa using hv1
      rw [hu] at this; cases this; rfl
    have e2 : v2 = u2 := by
      have : its2[i]? = some v2 := by simpa using hv2
      rw [hu2] at this; cases this; rfl
    subst e1 e2
    refine ⟨_, rfl, wpAny_letOwnedTupleGo_zip (s := { s with heap := h', toks := tk }) z' fun h'' z'' sb => ?_⟩
    have hT2 : h''.get? s.heap.objs.size = some { cls := .type "tuple", data := .seq #[v1, v2] } := (sb.2 _ (Nat.ne_of_gt hzl)).trans hT
    have new : ObjOk X.prog X.w (upd H s.heap.objs.size (.tup [x, y])) h'' s.heap.objs.size (.tup [x, y]) :=
      ⟨by show 2 ≤ sizeLine; decide, [v1, v2], .cons ru (.cons ru2 .nil), ⟨_, hT2, rfl, _, rfl⟩⟩
    have I1 : Inv X pins σ (upd H s.heap.objs.size (.tup [x, y])) { s with heap := h'', toks := tk } :=
      I.turnedNew (t' := tk) (ch := [z, TI, TO, i1, i2]) (fun c o hb q => (sb.2 c (fun q' => hb (by simp [q']))).trans (hk c o (fun q' => hb (by simp [q'])) (fun q' => hb (by simp [q'])) (fun q' => hb (by simp [q'])) (fun q' => hb (by simp [q'])) q)) hf (Nat.le_refl _) new
    refine ⟨.ref s.heap.objs.size, _, I1, rfl, ⟨_, x, y, rfl, I.hok.fresh (Nat.le_refl _), rfl, fun l hl => by rw [injB I hl hqx]; exact hx, fun l hl => by rw [injB I hl hqy]; exact hy⟩, ⟨z'', ?_, ⟨v1, v2, ?_⟩, ?_, ?_⟩, fun c hcm => ?_⟩
    · exact (sb.2 _ D.TIz).trans (hk _ _ D.TIz D.TITO D.TIi1 D.TIi2 hTI)
    · exact (sb.2 _ D.TOz).trans TO'
    · exact itrB_at s1'.1 fun o q => (sb.2 _ D.i1z).trans q
    · exact itrB_at s2'.1 fun o q => (sb.2 _ D.i2z).trans q
    · have hlt : c < s.heap.objs.size := by
        have e' : c = z ∨ c = TI ∨ c = TO ∨ c = i1 ∨ c = i2 := by simpa using hcm
        rcases e' with q | q | q | q | q
        · rw [q]; exact hzl
        · rw [q]; exact Heap.lt_size hTI
        · rw [q]; exact Heap.lt_size hTO
        · rw [q]; obtain ⟨_, e1, _⟩ := itrB_obj h1; exact Heap.lt_size e1
        · rw [q]; obtain ⟨_, e2, _⟩ := itrB_obj h2; exact Heap.lt_size e2
      rw [upd_ne (Nat.ne_of_lt hlt)]
      exact (hf c hcm).1
  done := by
    intro X hP hw hK hc i pins s σ H E I hf st hg
    subst hP hw hK
    obtain ⟨hz, hTI, ⟨x0, y0, hTO⟩, h1, h2⟩ := st
    obtain ⟨xs, ys, hqx, hqy, hi1, hi2, hend⟩ := hg
    obtain ⟨its, rv, p⟩ := invB I hqx
    obtain ⟨its2, rv2, p2⟩ := invB I hqy
    have l1 := rv.length
    have l2 := rv2.length
    exact wpAny_pyNext_zipD2_end (sep_of D) (drawsB (prog := X.prog) (w := X.w) (A := X.A.in1) b1 (I.ok.hd hc) i1 a D.l1i1 its.toArray) (drawsB (prog := X.prog) (w := X.w) (A := X.A.in1) b2 (I.ok.hd hc) i2 b D.l2i2 its2.toArray) hz hTI hTO ⟨h1, p⟩ ⟨h2, p2⟩ (by simp; omega) (by simp; omega) (by simp; omega)
      fun h' tk hk => ⟨rfl, I.turnedL (t' := tk) (ch := [z, TI, TO, i1, i2]) (fun c o hb q =>
      hk c o (fun q' => hb (by simp [q'])) (fun q' => hb (by simp [q'])) (fun q' => hb (by simp [q'])) (fun q' => hb (by simp [q'])) q) hf⟩
  self := fun A i s Q E st h => wpAny_pyIter_zip st.1 h
def iZipB (K : PySem.W.Frag) (ta : TA) : TI := fun σ H R => ta σ H fun vs H1 => ∃ a b xs ys b1 b2, vs = [.ref a, .ref b] ∧ SqB K b1 H1 a xs ∧ SqB K b2 H1 b ys ∧ R (ItzB K b1 b2 a b) H1
theorem pi_zipB {X : Cx} {e e2 : Expr} {ta : TA} {p pos tpos : Pos} {elts : List Expr} {kk : Nat} (hg : Gl X "zip") (hm : X.mg "zip" = none) (ha : PA X [e, e2] ta)
    (hs : starEach [e, e2] X.env = (false, eval e X.env) :: starEach [e2] X.env := by rfl) (hpl : (backTo pos (starEach [e2] X.env)).any (·.1) = false := by rfl) :
    PI X (.Tuple elts kk tpos) (.Call (.Name "zip" p) [e, e2] [] pos) (iZipB X.K ta) := by
  refine ⟨fun pins s σ H R I h => ?_⟩
  refine Call_ (ld_blt I hg hm PyProof.Rows.boot_zip (PyProof.Rows.callWith_type1 (thn (ha.run pos pins s σ H _ I h) fun us s1 ⟨vs, H1, I1, r1, q1⟩ => ?_) hs hpl))
  obtain ⟨a, b, xs, ys, b1, b2, ex, hqx, hqy, q⟩ := q1
  subst ex
  cases r1 with
  | cons r rr =>
    cases rr with
    | cons r' rr =>
      cases rr
      cases r
      cases r'
      have fresh5 : ∀ c, c ∈ [s1.heap.objs.size + 4, s1.heap.objs.size + 2, s1.heap.objs.size + 3, s1.heap.objs.size, s1.heap.objs.size + 1] → FpOk X pins H1 c := fun c hcm => by
        have e' : c = s1.heap.objs.size + 4 ∨ c = s1.heap.objs.size + 2 ∨ c = s1.heap.objs.size + 3 ∨ c = s1.heap.objs.size ∨ c = s1.heap.objs.size + 1 := by simpa using hcm
        have hle : s1.heap.objs.size ≤ c := by omega
        exact I1.fpOk hle (I1.hok.fresh hle)
      obtain ⟨its, rv, p1⟩ := invB I1 hqx
      obtain ⟨its2, rv2, p2⟩ := invB I1 hqy
      refine zip_begins2 (beginsB b1 a its.toArray) (beginsB b2 b its2.toArray) p1 p2 fun h' hz hTI hTO h1 h2 hsz hk => wpAny_pyIter_zip hz ?_
      have I2 : Inv X pins σ H1 { s1 with heap := h' } := I1.kept (t' := s1.toks) hk
      exact ⟨s1.heap.objs.size + 4, [s1.heap.objs.size + 4, s1.heap.objs.size + 2, s1.heap.objs.size + 3, s1.heap.objs.size, s1.heap.objs.size + 1], _, _, H1, rfl, I2, turn_zipB (b1 := b1) (b2 := b2) (PySem.W.ktu_apart s1.heap.objs.size a b (isB_lt p1) (isB_lt p2)), ⟨hz, hTI, ⟨_, _, hTO⟩, itrB_new h1, itrB_new h2⟩, fresh5, q⟩
theorem sqB_mono {K : PySem.W.Frag} {b : Bool} {B B' : Hp} {a : Addr} {xs : List V} (e : Same B B') (h : SqB K b B a xs) : SqB K b B' a xs := by
  cases b with
  | true => exact sqt_mono e h
  | false => exact sql_mono e h
theorem jok_zipB {K : PySem.W.Frag} {B : Hp} {b1 b2 : Bool} {a b : Addr} {xs ys : List V} {l m : List D} (h1 : SqB K b1 B a xs) (h2 : DpAll K B xs l) (h3 : SqB K b2 B b ys) (h4 : DpAll K B ys m) : JOk K B (ItzB K b1 b2 a b) (zipD l m) := fun B2 H2 s1 s2 i => by
  have hq : SqB K b1 H2 a xs := sqB_mono (s1.trans s2) h1
  have hp : SqB K b2 H2 b ys := sqB_mono (s1.trans s2) h3
  refine ⟨fun d hd => ?_, fun hl => ⟨xs, ys, hq, hp, ?_⟩⟩
  · obtain ⟨d0, d1, e0, e0', rfl⟩ := zipD_get hd
    obtain ⟨v, e1, e2⟩ := DpAll.get h2 e0
    obtain ⟨w, e3, e4⟩ := DpAll.get h4 e0'
    refine ⟨⟨xs, ys, v, w, hq, hp, e1, e3⟩, fun x H3 q => ?_⟩
    obtain ⟨T, y, z, rfl, hT, rfl, q1, q2⟩ := q
    have t1 := q1 xs hq
    have t2 := q2 ys hp
    rw [e1] at t1
    rw [e3] at t2
    cases t1
    cases t2
    exact jok_new s2 hT (.cons (Dp.mono s1 e2) (.cons (Dp.mono s1 e4) .nil))
  · rw [DpAll.length h2, DpAll.length h4]
    unfold zipD at hl
    rw [List.length_zipWith] at hl
    omega
def seqB : D → Option (Bool × List D)
  | .list l => some (false, l)
  | .tuple l => some (true, l)
  | _ => none
def mZipA (f : M (List Rs)) : M (List D) := M.bind f fun rs => M.bind (freezeAll rs) fun ds ρ => match ds with
  | [d, e] => match seqB d, seqB e with
    | some (_, l), some (_, m) => some (.ok (zipD l m) ρ)
    | _, _ => none
  | _ => none
theorem seqB_dp {K : PySem.W.Frag} {B : Hp} {v : V} {d : D} {b : Bool} {l : List D} (h : Dp K B v d) (e : seqB d = some (b, l)) : ∃ a xs, v = .ref a ∧ SqB K b B a xs ∧ DpAll K B xs l := by
  unfold seqB at e
  split at e
  · cases e
    cases h with
    | lst h1 h2 => exact ⟨_, _, rfl, h1, h2⟩
  · cases e
    cases h with
    | tup h1 h2 => exact ⟨_, _, rfl, h1, h2⟩
  · cases e
theorem di_zipA {X : Cx} {vs0 : List V} {elts : List Expr} {kk : Nat} {tpos : Pos} {e e' : Expr} {fa : M (List Rs)} {p pos : Pos} (hg : Gl X "zip") (hm : X.mg "zip" = none) (ha : PA X [e, e'] (rdA X.K vs0 fa)) (hs : starEach [e, e'] X.env = (false, eval e X.env) :: starEach [e'] X.env := by rfl) (hpl : (backTo pos (starEach [e'] X.env)).any (·.1) = false := by rfl) :
    PI X (.Tuple elts kk tpos) (.Call (.Name "zip" p) [e, e'] [] pos) (rdI X.K vs0 (mZipA fa)) := PI.imp (pi_zipB hg hm ha hs hpl) fun σ H R q => by
  obtain ⟨B, ρ, fs, g, l, ρ', e1, k⟩ := q
  obtain ⟨rs, ρ1, e2, e3⟩ := M.bind_ok e1
  obtain ⟨ds, ρ2, e4, e5⟩ := M.bind_ok e3
  split at e5
  · split at e5
    · rename_i d d' b1 l1 b2 l2 hs1 hs2
      cases e5
      refine ⟨B, ρ, fs, g, rs, ρ1, e2, fun vs B1 H1 fs1 Ts fr g1 ok nd => ?_⟩
      obtain ⟨B2, fs2, fr2, g2, d2⟩ := freezeAll_ok g1 ok nd e4
      cases d2 with
      | cons d2 d3 =>
        cases d3 with
        | cons d3 d4 =>
          cases d4
          obtain ⟨a, xs, rfl, h1, h2⟩ := seqB_dp d2 hs1
          obtain ⟨b, ys, rfl, h3, h4⟩ := seqB_dp d3 hs2
          exact ⟨a, b, xs, ys, b1, b2, rfl, sqB_mono g2.ext h1, sqB_mono g2.ext h3, k _ B2 H1 fs2 (fr.trans fr2) g2 (jok_zipB h1 h2 h3 h4)⟩
    · cases e5
  · cases e5
end Pd
set_option Elab.async false
set_option linter.all false
set_option maxRecDepth 100000
set_option maxHeartbeats 1000000
namespace Pd
open PySem PySem.Spec PyProof.Rows L2
namespace B
section
variable {ρ : Env}
def zipAQ (ρ : Env) (Q : List D → Env → Prop) (ds : List D) : Prop := match ds with
  | [d, e] => match seqB d, seqB e with
    | some (_, l), some (_, m) => Q (zipD l m) ρ
    | _, _ => False
  | _ => False
@[simp] theorem zipAQ_ll {Q : List D → Env → Prop} {l m : List D} : zipAQ ρ Q [.list l, .list m] = Q (zipD l m) ρ := rfl
@[simp] theorem zipAQ_lt {Q : List D → Env → Prop} {l m : List D} : zipAQ ρ Q [.list l, .tuple m] = Q (zipD l m) ρ := rfl
@[simp] theorem zipAQ_tl {Q : List D → Env → Prop} {l m : List D} : zipAQ ρ Q [.tuple l, .list m] = Q (zipD l m) ρ := rfl
@[simp] theorem zipAQ_tt {Q : List D → Env → Prop} {l m : List D} : zipAQ ρ Q [.tuple l, .tuple m] = Q (zipD l m) ρ := rfl
@[simp ↓] theorem ev_mZipA {f : M (List Rs)} {Q : List D → Env → Prop} : Ev (mZipA f) ρ Q ↔ Ev f ρ fun rs ρ1 => Ev (freezeAll rs) ρ1 fun ds ρ2 => zipAQ ρ2 Q ds := by
  unfold mZipA
  simp only [ev_bind]
  constructor
  · rintro ⟨rs, ρ1, e, ds, ρ2, e2, b, ρ3, e3, q⟩
    refine ⟨rs, ρ1, e, ds, ρ2, e2, ?_⟩
    try dsimp only at e3
    split at e3
    · split at e3
      · rename_i h1 h2
        cases e3
        show zipAQ _ _ _
        unfold zipAQ
        simp only [h1, h2]
        exact q
      · cases e3
    · cases e3
  · rintro ⟨rs, ρ1, e, ds, ρ2, e2, q⟩
    refine ⟨rs, ρ1, e, ds, ρ2, e2, ?_⟩
    try dsimp only at q
    unfold zipAQ at q
    split at q
    · split at q
      · rename_i h1 h2
        refine ⟨_, ρ2, ?_, q⟩
        simp only [h1, h2]
      · exact q.elim
    · exact q.elim
end
end B
end Pd
set_option Elab.async false
set_option linter.all false
set_option maxRecDepth 100000
set_option maxHeartbeats 1000000
namespace Pd
open PySem PySem.Spec PyProof.Rows L2
section
variable {ρ : Env}
def zipAQ (ρ : Env) (Q : List D → Env → Prop) [Fx Q] (ds : List D) : Prop := B.zipAQ ρ Q ds
@[simp] theorem zipAQ_ll {Q : List D → Env → Prop} {l m : List D} : zipAQ ρ Q [.list l, .list m] = Q (zipD l m) ρ := B.zipAQ_ll
@[simp] theorem zipAQ_lt {Q : List D → Env → Prop} {l m : List D} : zipAQ ρ Q [.list l, .tuple m] = Q (zipD l m) ρ := B.zipAQ_lt
@[simp] theorem zipAQ_tl {Q : List D → Env → Prop} {l m : List D} : zipAQ ρ Q [.tuple l, .list m] = Q (zipD l m) ρ := B.zipAQ_tl
@[simp] theorem zipAQ_tt {Q : List D → Env → Prop} {l m : List D} : zipAQ ρ Q [.tuple l, .tuple m] = Q (zipD l m) ρ := B.zipAQ_tt
@[simp ↓] theorem ev_mZipA {f : M (List Rs)} {Q : List D → Env → Prop} : Ev (mZipA f) ρ Q ↔ Ev f ρ fun rs ρ1 => Ev (freezeAll rs) ρ1 fun ds ρ2 => zipAQ ρ2 Q ds := B.ev_mZipA
end
end Pd
set_option Elab.async false
set_option linter.all false
set_option maxRecDepth 100000
set_option maxHeartbeats 1000000
namespace Pd
open PySem PySem.Spec PyProof.Rows L2
def eFz (f : M Rs) : M Rs := M.bind f fun r => M.bind (freezeR r) fun d => M.ret (.own (.p d))
theorem de_fz {X : Cx} {vs0 : List V} {e : Expr} {f : M Rs} (h : PE X e (rdE X.K vs0 f)) : PE X e (rdE X.K vs0 (eFz f)) := PE.imp h fun σ H Q q => by
  obtain ⟨B, ρ, fs, g, r, ρ', e1, k⟩ := q
  obtain ⟨r1, ρ1, e2, e3⟩ := M.bind_ok e1
  obtain ⟨d, ρ2, e4, e5⟩ := M.bind_ok e3
  cases e5
  refine ⟨B, ρ, fs, g, r1, ρ1, e2, fun v B1 H1 fs1 T1 fr1 g1 ok1 => ?_⟩
  obtain ⟨B2, fs2, fr2, g2, d2⟩ := freezeR_ok g1 ok1 e4
  exact k v B2 H1 fs2 [] ((fr1.trans fr2).weak (fun _ h => h) fun a h => by
    rcases h with h | h
    · exact Or.inl h
    · cases h) g2 ⟨⟨d2, rfl⟩, rfl, fun a ha => nomatch ha⟩
namespace B
@[simp ↓] theorem ev_fz {f : M Rs} {ρ : Env} {Q : Rs → Env → Prop} : Ev (eFz f) ρ Q ↔ Ev f ρ fun r ρ1 => Ev (freezeR r) ρ1 fun d ρ2 => Q (.own (.p d)) ρ2 := by
  unfold eFz
  simp only [ev_bind, ev_ret]
end B
@[simp ↓] theorem ev_fz {f : M Rs} {ρ : Env} {Q : Rs → Env → Prop} : Ev (eFz f) ρ Q ↔ Ev f ρ fun r ρ1 => Ev (freezeR r) ρ1 fun d ρ2 => Q (.own (.p d)) ρ2 := B.ev_fz
end Pd
set_option Elab.async false
set_option linter.all false
set_option maxRecDepth 100000
set_option maxHeartbeats 1000000
namespace Pd
open PySem PySem.Spec PyProof.Rows L2
structure CRg (a b : Int) : Prop where
  ok : RgOk a b
noncomputable instance (a b : Int) : Decidable (CRg a b) := Classical.propDecidable _
end Pd
set_option Elab.async false
set_option linter.all false
set_option maxRecDepth 100000
set_option maxHeartbeats 1000000
set_option Elab.async false
set_option linter.all false
set_option maxRecDepth 100000
set_option maxHeartbeats 1000000
set_option Elab.async false
set_option linter.all false
set_option maxRecDepth 100000
set_option maxHeartbeats 1000000
set_option Elab.async false
set_option linter.all false
set_option maxRecDepth 100000
set_option maxHeartbeats 1000000
set_option Elab.async false
set_option linter.all false
set_option maxRecDepth 100000
set_option maxHeartbeats 1000000
set_option Elab.async false
set_option linter.all false
set_option maxRecDepth 100000
set_option maxHeartbeats 1000000
set_option Elab.async false
set_option linter.all false
set_option maxRecDepth 100000
set_option maxHeartbeats 1000000
set_option Elab.async false
set_option linter.all false
set_option maxRecDepth 100000
set_option maxHeartbeats 1000000
set_option Elab.async false
set_option linter.all false
set_option maxRecDepth 100000
set_option maxHeartbeats 1000000
namespace Pd
open PySem PySem.Spec PyProof.Rows L2
instance (i j : Int) : Decidable (CShl i j) := by unfold CShl; infer_instance
structure CShlS (i j : Int) : Prop where
  h : CShl i j
def strs? : List D → Option (List Str)
  | [] => some []
  | .str i :: l => (strs? l).map (i :: ·)
  | _ :: _ => none
theorem strs?_eq : ∀ {l : List D} {ns : List Str}, strs? l = some ns → l = ns.map PyData.str
  | [], ns, h => by cases h; rfl
  | .str i :: l, ns, h => by
    unfold strs? at h
    cases e : strs? l with
    | none => rw [e] at h; cases h
    | some ms => rw [e] at h; cases h; rw [strs?_eq e]; rfl
  | .none :: l, ns, h => by cases h
  | .bool _ :: l, ns, h => by cases h
  | .int _ :: l, ns, h => by cases h
  | .list _ :: l, ns, h => by cases h
  | .tuple _ :: l, ns, h => by cases h
  | .dict _ :: l, ns, h => by cases h
def CJoin (a : Str) (ys : List Str) : Prop := (ys.map (·.length)).sum + ys.length * a.length ≤ 16777216
instance (a : Str) (ys : List Str) : Decidable (CJoin a ys) := by unfold CJoin; infer_instance
def jJoin (a : Str) : Option (List Str) → Option Rd'
  | some ys => if CJoin a ys then some (.pd (.str (Txt.join a ys))) else none
  | none => none
def pJoin : List D → Option Rd'
  | [.str a, .list l] => jJoin a (strs? l)
  | [.str a, .tuple l] => jJoin a (strs? l)
  | _ => none
def o_join1 := opG pJoin
theorem DpAll.strs' {K : PySem.W.Frag} {B : Hp} {l : List D} {ns : List Str} {vs : List V} (h : strs? l = some ns) (d : DpAll K B vs l) : vs = ns.map V.str := by
  rw [strs?_eq h] at d
  exact Pd.DpAll.strs d
theorem o_join1_ok {K : PySem.W.Frag} : OpOk K (rM fun x xs H Q => ∃ a p, ∃ ys : List Str, x = .str a ∧ xs = [.ref p] ∧ (SqL K H p (ys.map V.str) ∨ SqT K H p (ys.map V.str)) ∧
    (ys.map (·.length)).sum + ys.length * a.length ≤ 16777216 ∧ Q (.str (Txt.join a ys)) H) o_join1 := opG_ok fun B H vs ds res Q e hs hp k => by
  unfold pJoin at hp
  split at hp
  · rename_i a l
    obtain ⟨x, y, rfl, h1, h2⟩ := hs.two
    cases es : strs? l with
    | none => rw [es] at hp; cases hp
    | some ys =>
      rw [es] at hp
      unfold jJoin at hp
      dsimp only at hp
      split at hp
      · rename_i hc
        cases hp
        obtain ⟨p, xs, rfl, h3, h4⟩ := h2
        have := Pd.DpAll.strs' es h4
        subst this
        exact ⟨x, [.ref p], rfl, a, p, ys, h1.str, rfl, Or.inl h3, hc, k.str e⟩
      · cases hp
  · rename_i a l
    obtain ⟨x, y, rfl, h1, h2⟩ := hs.two
    cases es : strs? l with
    | none => rw [es] at hp; cases hp
    | some ys =>
      rw [es] at hp
      unfold jJoin at hp
      dsimp only at hp
      split at hp
      · rename_i hc
        cases hp
        obtain ⟨p, xs, rfl, h3, h4⟩ := h2.tup
        have := Pd.DpAll.strs' es h4
        subst this
        exact ⟨x, [.ref p], rfl, a, p, ys, h1.str, rfl, Or.inr (sqt_mono e h3), hc, k.str e⟩
      · cases hp
  · cases hp
def pSplit : List D → Option Rd'
  | [.str a, .str b] => if (b.length == 0) = false ∧ a.length + 2 ≤ sizeLine then some (.nl ((Txt.split a b).map .str)) else none
  | _ => none
def o_split1 := opG pSplit
theorem DpAll.of_strs {K : PySem.W.Frag} {B : Hp} : ∀ (ns : List Str), DpAll K B (ns.map V.str) (ns.map PyData.str)
  | [] => .nil
  | n :: ns => .cons (.str n) (DpAll.of_strs ns)
theorem o_split1_ok {K : PySem.W.Frag} : OpOk K (rM fun x xs H Q => ∃ a b, x = .str a ∧ xs = [.str b] ∧ (b.length == 0) = false ∧ a.length + 2 ≤ sizeLine ∧ rNewStrs (Txt.split a b) H Q) o_split1 := opG_ok fun B H vs ds res Q e hs hp k => by
  unfold pSplit at hp
  split at hp
  · rename_i a b
    split at hp
    · rename_i hc
      cases hp
      obtain ⟨x, y, rfl, h1, h2⟩ := hs.two
      exact ⟨x, [y], rfl, a, b, h1.str, by rw [h2.str], hc.1, hc.2, fun p hp => k p _ hp (DpAll.of_strs _)⟩
    · cases hp
  · cases hp
def pFind : List D → Option Rd'
  | [.str a, .str b] => some (.pd (.int (Txt.find a b)))
  | _ => none
def o_find1 := opG pFind
theorem o_find1_ok {K : PySem.W.Frag} : OpOk K (rM fun x xs H Q => ∃ a b, x = .str a ∧ xs = [.str b] ∧ Q (.int (Txt.find a b)) H) o_find1 := opG_ok fun B H vs ds res Q e hs hp k => by
  unfold pFind at hp
  split at hp
  · rename_i a b
    cases hp
    obtain ⟨x, y, rfl, h1, h2⟩ := hs.two
    exact ⟨x, [y], rfl, a, b, h1.str, by rw [h2.str], k.int e⟩
  · cases hp
def pIntS : List D → Option Rd'
  | [.str a] => match PySem.intText? a with
    | some n => if a.length ≤ 640 then some (.pd (.int n)) else none
    | none => none
  | _ => none
def oIntS := opG pIntS
theorem oIntS_ok {K : PySem.W.Frag} : OpOk K (fun xs H Q => ∃ a n, xs = [V.str a] ∧ PySem.intText? a = some n ∧ a.length ≤ 640 ∧ Q (.int n) H) oIntS := opG_ok fun B H vs ds res Q e hs hp k => by
  match ds, hp with
  | [.str a], hp =>
    cases en : PySem.intText? a with
    | none =>
      have hp : (match PySem.intText? a with
        | some n => if a.length ≤ 640 then some (Rd'.pd (.int n)) else none
        | none => none) = some res := hp
      rw [en] at hp; cases hp
    | some n =>
      have hp : (match PySem.intText? a with
        | some n => if a.length ≤ 640 then some (Rd'.pd (.int n)) else none
        | none => none) = some res := hp
      rw [en] at hp
      dsimp only at hp
      split at hp
      · rename_i hl
        cases hp
        obtain ⟨x, rfl, h1⟩ := hs.one
        exact ⟨a, n, by rw [h1.str], en, hl, k.int e⟩
      · cases hp
section
variable {X : Cx} {vs0 : List V} {o e : Expr} {es : List Expr} {fo : M Rs} {fa : M (List Rs)} {apos cpos : Pos}
theorem de_m_join1 (ho : PE X o (rdE X.K vs0 fo)) (ha : PA X [e] (rdA X.K vs0 fa))
    (hbase : attributeBase o "join" X.env (eval o X.env) = eval o X.env := by rfl)
    (hfew : ((backTo cpos (starEach [e] X.env)).all (fun x => !x.1) && (backToKw cpos (keywordEach [] X.env)).all (fun x => x.1.isSome)
      && decide ([e].length + ([] : List Keyword).length + (if ([] : List Keyword).isEmpty then 0 else 1) < 30)) = true := by rfl)
    (hline : (apos.endLine == cpos.line) = true := by rfl) (hs : starEach [e] X.env = (false, eval e X.env) :: starEach [] X.env := by rfl) (hplain : (backTo cpos (starEach [] X.env)).any (·.1) = false := by rfl) :
    PE X (.Call (.Attribute o "join" apos) [e] [] cpos) (rdE X.K vs0 (eMeth "str" fo fa o_join1)) :=
  PE.imp (pe_bm PySem.F.plainAttrs_str PySem.F.slot_str_join PySem.F.type_str_join mt_join ho ha hbase hfew hline hs hplain) fun σ H Q q => rd_meth o_join1_ok q
theorem de_m_split1 (ho : PE X o (rdE X.K vs0 fo)) (ha : PA X [e] (rdA X.K vs0 fa))
    (hbase : attributeBase o "split" X.env (eval o X.env) = eval o X.env := by rfl)
    (hfew : ((backTo cpos (starEach [e] X.env)).all (fun x => !x.1) && (backToKw cpos (keywordEach [] X.env)).all (fun x => x.1.isSome)
      && decide ([e].length + ([] : List Keyword).length + (if ([] : List Keyword).isEmpty then 0 else 1) < 30)) = true := by rfl)
    (hline : (apos.endLine == cpos.line) = true := by rfl) (hs : starEach [e] X.env = (false, eval e X.env) :: starEach [] X.env := by rfl) (hplain : (backTo cpos (starEach [] X.env)).any (·.1) = false := by rfl) :
    PE X (.Call (.Attribute o "split" apos) [e] [] cpos) (rdE X.K vs0 (eMeth "str" fo fa o_split1)) :=
  PE.imp (pe_bm PySem.F.plainAttrs_str PySem.F.slot_str_split PySem.F.type_str_split mt_split ho ha hbase hfew hline hs hplain) fun σ H Q q => rd_meth o_split1_ok q
theorem de_m_find1 (ho : PE X o (rdE X.K vs0 fo)) (ha : PA X [e] (rdA X.K vs0 fa))
    (hbase : attributeBase o "find" X.env (eval o X.env) = eval o X.env := by rfl)
    (hfew : ((backTo cpos (starEach [e] X.env)).all (fun x => !x.1) && (backToKw cpos (keywordEach [] X.env)).all (fun x => x.1.isSome)
      && decide ([e].length + ([] : List Keyword).length + (if ([] : List Keyword).isEmpty then 0 else 1) < 30)) = true := by rfl)
    (hline : (apos.endLine == cpos.line) = true := by rfl) (hs : starEach [e] X.env = (false, eval e X.env) :: starEach [] X.env := by rfl) (hplain : (backTo cpos (starEach [] X.env)).any (·.1) = false := by rfl) :
    PE X (.Call (.Attribute o "find" apos) [e] [] cpos) (rdE X.K vs0 (eMeth "str" fo fa o_find1)) :=
  PE.imp (pe_bm PySem.F.plainAttrs_str PySem.F.slot_str_find PySem.F.type_str_find mt_find ho ha hbase hfew hline hs hplain) fun σ H Q q => rd_meth o_find1_ok q
end
end Pd
set_option Elab.async false
set_option linter.all false
set_option maxRecDepth 100000
set_option maxHeartbeats 1000000
namespace Pd
open PySem PySem.Spec PyProof.Rows L2
namespace B
section
variable {a b : Str} {l : List D} {i : Int}
@[simp ↓] theorem o_join1_eq : o_join1 = opG pJoin := rfl
@[simp ↓] theorem o_split1_eq : o_split1 = opG pSplit := rfl
@[simp ↓] theorem o_find1_eq : o_find1 = opG pFind := rfl
@[simp ↓] theorem oIntS_eq : oIntS = opG pIntS := rfl
@[simp] theorem pJoin_l : pJoin [.str a, .list l] = jJoin a (strs? l) := rfl
@[simp] theorem pJoin_t : pJoin [.str a, .tuple l] = jJoin a (strs? l) := rfl
@[simp] theorem jJoin_s {ys : List Str} : jJoin a (some ys) = if CJoin a ys then some (.pd (.str (Txt.join a ys))) else none := rfl
@[simp] theorem strs_nil : strs? [] = some [] := rfl
@[simp] theorem strs_cons : strs? (.str a :: l) = (strs? l).map (a :: ·) := rfl
@[simp] theorem strs_map {ns : List Str} : strs? (ns.map .str) = some ns := by
  induction ns with
  | nil => rfl
  | cons n ns ih => rw [List.map_cons, strs_cons, ih]; rfl
theorem strs_mapf {α : Type} {f : α → Str} {ns : List α} : strs? (ns.map fun a => .str (f a)) = some (ns.map f) := by
  have := strs_map (ns := ns.map f)
  rw [List.map_map] at this
  exact this
@[simp] theorem pSplit_ss : pSplit [.str a, .str b] = if (b.length == 0) = false ∧ a.length + 2 ≤ sizeLine then some (.nl ((Txt.split a b).map .str)) else none := rfl
@[simp] theorem pFind_ss : pFind [.str a, .str b] = some (.pd (.int (Txt.find a b))) := rfl
theorem pIntS_s {n : Int} (h : PySem.intText? a = some n) (hl : a.length ≤ 640) : pIntS [.str a] = some (.pd (.int n)) := by
  unfold pIntS
  simp only [h, if_pos hl]
end
end B
end Pd
set_option Elab.async false
set_option linter.all false
set_option maxRecDepth 100000
set_option maxHeartbeats 1000000
set_option Elab.async false
set_option linter.all false
set_option maxRecDepth 100000
set_option maxHeartbeats 1000000
set_option Elab.async false
set_option linter.all false
set_option maxRecDepth 100000
set_option maxHeartbeats 1000000
set_option Elab.async false
set_option linter.all false
set_option maxRecDepth 100000
set_option maxHeartbeats 1000000
namespace Pd
open PySem PySem.Spec PyProof.Rows L2
structure CalleeK (P : Program) (w : World) (K : PySem.W.Frag) (mg : Str → Option Value) (base : Heap) (k : Nat) (x : Str) (n : Nat) (F : List Sl → Option (Sl × List Sl)) (ks : List Str) : Prop where
  ex : ∃ (f : Addr) (fd : FuncData) (ps : List Str), FnOk P w K mg base CX0 k f fd ps (spD K n F) ∧ mg x = some (.ref f) ∧ PySem.W.keepIn K (.ref f) = true ∧ ∀ (s : Shared) (ws : List Value), ws.length = ps.length → BindsTo s fd ⟨[], ks.zip ws⟩ (ps.zip ws)
end Pd
set_option Elab.async false
set_option linter.all false
set_option maxRecDepth 100000
set_option maxHeartbeats 1000000
namespace Pd
open PySem PySem.Spec PyProof.Rows L2
def kOf : D → Option Key
  | .int i => some (.inl i)
  | .str x => some (.inr x)
  | _ => none
def valD (l : List (Key × D)) (k : Key) : Option D := (l.find? fun kv => decide (kv.1 = k)).map (·.2)
def putD (l : List (Key × D)) (k : Key) (d : D) : List (Key × D) :=
  if (l.any fun kv => decide (kv.1 = k)) = true then l.map (fun kv => if kv.1 = k then (kv.1, d) else kv) else l ++ [(k, d)]
section
variable {K : PySem.W.Frag} {B H : Hp}
theorem kOf_dp {v : V} {d : D} {k : Key} (h : Dp K B v d) (e : kOf d = some k) : v = kV k := by
  cases d with
  | int i => cases e; cases h; rfl
  | str x => cases e; cases h; rfl
  | none => cases e
  | bool b => cases e
  | list l => cases e
  | tuple l => cases e
  | dict l => cases e
theorem KvD.len {ks : List (Key × V)} {l : List (Key × D)} (h : KvD K B ks l) : ks.length = l.length := Paired.length h
theorem KvD.val {ks : List (Key × V)} {l : List (Key × D)} (h : KvD K B ks l) (k : Key) : (valV ks k = none ∧ valD l k = none) ∨ ∃ v d, valV ks k = some v ∧ valD l k = some d ∧ Dp K B v d := by
  unfold KvD at h
  induction h with
  | nil => exact Or.inl ⟨rfl, rfl⟩
  | @cons p q ps qs h t ih =>
    obtain ⟨h1, h2⟩ := h
    by_cases e : p.1 = k
    · refine Or.inr ⟨p.2, q.2, valV_pos e, ?_, h2⟩
      simp [valD, List.find?_cons, ← h1, e]
    · have e' : ¬ q.1 = k := fun z => e (h1.trans z)
      have b : valD (q :: qs) k = valD qs k := by simp [valD, List.find?_cons, e']
      rw [valV_neg e, b]
      exact ih
theorem KvD.any {ks : List (Key × V)} {l : List (Key × D)} (h : KvD K B ks l) (k : Key) : (ks.any fun kv => decide (kv.1 = k)) = l.any fun kv => decide (kv.1 = k) := by
  unfold KvD at h
  induction h with
  | nil => rfl
  | cons h t ih => rw [List.any_cons, List.any_cons, ih, h.1]
theorem KvD.app {ks ks' : List (Key × V)} {l l' : List (Key × D)} (h : KvD K B ks l) (h' : KvD K B ks' l') : KvD K B (ks ++ ks') (l ++ l') := by
  unfold KvD at h ⊢
  induction h with
  | nil => exact h'
  | cons h t ih => exact .cons h ih
theorem KvD.repl {ks : List (Key × V)} {l : List (Key × D)} (h : KvD K B ks l) (k : Key) {v : V} {d : D} (hd : Dp K B v d) :
    KvD K B (ks.map fun kv => if kv.1 = k then (kv.1, v) else kv) (l.map fun kv => if kv.1 = k then (kv.1, d) else kv) := by
  unfold KvD at h ⊢
  induction h with
  | nil => exact .nil
  | @cons p q ps qs h t ih =>
    rw [List.map_cons, List.map_cons]
    refine .cons ?_ ih
    obtain ⟨h1, h2⟩ := h
    by_cases e : p.1 = k
    · rw [if_pos e, if_pos (h1.symm.trans e)]; exact ⟨h1, hd⟩
    · rw [if_neg e, if_neg (fun z => e (h1.trans z))]; exact ⟨h1, h2⟩
theorem KvD.put {ks : List (Key × V)} {l : List (Key × D)} (h : KvD K B ks l) (k : Key) {v : V} {d : D} (hd : Dp K B v d) : KvD K B (putK ks k v) (putD l k d) := by
  unfold putK putD
  rw [h.any k]
  split
  · exact h.repl k hd
  · exact h.app (.cons ⟨rfl, hd⟩ .nil)
theorem KvD.vals {ks : List (Key × V)} {l : List (Key × D)} (h : KvD K B ks l) : DpAll K B (ks.map (·.2)) (l.map (·.2)) := by
  unfold KvD at h
  induction h with
  | nil => exact .nil
  | cons h t ih => rw [List.map_cons, List.map_cons]; exact .cons h.2 ih
end
inductive Vw where
  | d (x : D)
  | m (l : List (Key × D))
def Rs.vw (r : Rs) (ρ : Env) : Option Vw := match r with
  | .own (.md _ l) => some (.m l)
  | .own (.fd l) => some (.m l)
  | .bor i => match ρ[i]? with
    | some (some (.md _ l)) => some (.m l)
    | _ => (Rs.view (.bor i) ρ).map .d
  | r => (r.view ρ).map .d
def ShV (K : PySem.W.Frag) (B H : Hp) (v : V) : Vw → Prop
  | .d x => ShD K B H v x
  | .m l => ∃ a ks, v = .ref a ∧ Rd H a (.dK ks) ∧ KvD K B ks l
def vwAll : List Rs → Env → Option (List Vw)
  | [], _ => some []
  | r :: rs, ρ => match r.vw ρ with
    | some d => match vwAll rs ρ with
      | some ds => some (d :: ds)
      | none => none
    | none => none
def ShVs (K : PySem.W.Frag) (B H : Hp) : List V → List Vw → Prop
  | [], [] => True
  | v :: vs, d :: ds => ShV K B H v d ∧ ShVs K B H vs ds
  | _, _ => False
section
variable {K : PySem.W.Frag} {vs0 : List V} {B H : Hp} {σ : L2.St} {ρ : Env} {fs : Nat → List Addr}
theorem ShVs.one {vs : List V} {a : Vw} (h : ShVs K B H vs [a]) : ∃ x, vs = [x] ∧ ShV K B H x a := by
  match vs, h with
  | [x], h => exact ⟨x, rfl, h.1⟩
theorem ShVs.two {vs : List V} {a b : Vw} (h : ShVs K B H vs [a, b]) : ∃ x y, vs = [x, y] ∧ ShV K B H x a ∧ ShV K B H y b := by
  match vs, h with
  | [x, y], h => exact ⟨x, y, rfl, h.1, h.2.1⟩
theorem ShVs.three {vs : List V} {a b c : Vw} (h : ShVs K B H vs [a, b, c]) : ∃ x y z, vs = [x, y, z] ∧ ShV K B H x a ∧ ShV K B H y b ∧ ShV K B H z c := by
  match vs, h with
  | [x, y, z], h => exact ⟨x, y, z, rfl, h.1, h.2.1, h.2.2.1⟩
theorem vw_d {v : V} {r : Rs} {T : List Addr} {w : Vw} (g : Good K vs0 B H σ ρ fs) (h : RsOk K B H σ fs v r T) (e : (r.view ρ).map Vw.d = some w) : ShV K B H v w := by
  cases e2 : r.view ρ with
  | none => rw [e2] at e; cases e
  | some d => rw [e2] at e; cases e; exact view_ok g h e2
theorem vw_ok {v : V} {r : Rs} {T : List Addr} {w : Vw} (g : Good K vs0 B H σ ρ fs) (h : RsOk K B H σ fs v r T) (e : r.vw ρ = some w) : ShV K B H v w := by
  cases r with
  | own s =>
    cases s with
    | p d' => exact vw_d g h e
    | ml t l => exact vw_d g h e
    | md t l =>
      cases e
      obtain ⟨⟨a, ks, rfl, _, h1, h2⟩, _⟩ := h
      exact ⟨a, ks, rfl, Or.inl h1, h2⟩
    | mr t l => exact vw_d g h e
    | ob t c ns l => exact vw_d g h e
    | ex c f => exact vw_d g h e
    | fd l =>
      cases e
      obtain ⟨⟨⟨a, ks, o, rfl, h1, h2⟩, _⟩, _⟩ := h
      exact ⟨a, ks, rfl, Or.inr ⟨o, g.ext _ _ h1⟩, h2⟩
    | hl t => exact vw_d g h e
    | tp l => exact vw_d g h e
  | lent i s k => exact vw_d g h e
  | bor i =>
    unfold Rs.vw at e
    dsimp only at e
    split at e
    · rename_i t l e2
      cases e
      obtain ⟨v', h1, ⟨a, xs, rfl, _, h2, h3⟩, _⟩ := g.at_ i _ e2
      have hh : σ[i]? = some (some v) ∧ T = [] := h
      rw [h1] at hh
      cases hh.1
      exact ⟨a, xs, rfl, Or.inl h2, h3⟩
    · exact vw_d g h e
theorem vwAll_ok (g : Good K vs0 B H σ ρ fs) : ∀ {vs : List V} {rs : List Rs} {Ts : List (List Addr)} {ds : List Vw}, RsAll K B H σ fs vs rs Ts → vwAll rs ρ = some ds → ShVs K B H vs ds
  | [], [], [], ds, _, e => by cases e; exact True.intro
  | v :: vs, r :: rs, T :: Ts, ds, h, e => by
    unfold vwAll at e
    split at e
    · rename_i d e1
      split at e
      · rename_i ds' e2
        cases e
        exact ⟨vw_ok g h.1 e1, vwAll_ok g h.2 e2⟩
      · cases e
    · cases e
  | [], [], _ :: _, _, g, _ => g.elim
  | [], _ :: _, _, _, g, _ => g.elim
  | _ :: _, [], _, _, g, _ => g.elim
  | _ :: _, _ :: _, [], _, g, _ => g.elim
end
inductive Rd2 where
  | pd (d : D)
  | nl (l : List D)
  | nm (l : List (Key × D))
def Rd2.rs : Rd2 → Rs
  | .pd d => .own (.p d)
  | .nl l => .own (.ml none l)
  | .nm l => .own (.md none l)
def ResV (K : PySem.W.Frag) (B H : Hp) (Q : VK) : Rd2 → Prop
  | .pd d => ∀ v B' H', Fr B H (fun _ => False) B' H' (fun _ => False) → Same B' H' → Dp K B' v d → Q v H'
  | .nl l => ∀ p xs, H p = none → DpAll K B xs l → Q (.ref p) (upd H p (.lst xs))
  | .nm l => ∀ p ks, H p = none → KvD K B ks l → Q (.ref p) (upd H p (.dK ks))
def opV (pf : List Vw → Option Rd2) : List Rs → M Rs := fun rs ρ => match vwAll rs ρ with
  | some ds => match pf ds with
    | some res => some (.ok res.rs ρ)
    | none => none
  | none => none
theorem newOwn_ok {K : PySem.W.Frag} {vs0 : List V} {σ : L2.St} {B H : Hp} {ρ : Env} {fs : Nat → List Addr} {Ts : List Addr} {Q : VK} {s : Sl} {p : Addr} {o : HO} (g : Good K vs0 B H σ ρ fs) (hp : H p = none) (own : Own K B (upd H p o) (.ref p) s [p]) (ht : s.tag = none)
    (k : ∀ v B' H' fs' T, Fr B H (UnF (InF fs) Ts) B' H' (UnF (InF fs') T) → Good K vs0 B' H' σ ρ fs' → RsOk K B' H' σ fs' v (.own s) T → Q v H') : Q (.ref p) (upd H p o) := by
  have fr := Fr.newL (B := B) (o := o) hp
  refine k (.ref p) B _ fs [p] (fr.weak (fun _ f => f.elim) fun a f => ?_) (g.grow fr (fun _ _ f => f) (g.ext.trans fr.sameH)) ⟨own, ht, fun a ha => ?_⟩
  · rcases f with f | f
    · exact Or.inr (Or.inl (Or.inl f))
    · exact Or.inl f
  · simp at ha
    subst ha
    refine ⟨?_, fun i hi => g.lives hi hp⟩
    cases e : B a with
    | none => rfl
    | some u => rw [g.ext a u e] at hp; cases hp
theorem opV_ok {K : PySem.W.Frag} {r : List V → Hp → VK → Prop} {pf : List Vw → Option Rd2} (h : ∀ B H vs ds res Q, Same B H → ShVs K B H vs ds → pf ds = some res → ResV K B H Q res → r vs H Q) : OpOk K r (opV pf) := by
  intro vs0 σ B H ρ fs vs rs Ts Q g ok nd r' ρ' e k
  unfold opV at e
  split at e
  · rename_i ds e1
    split at e
    · rename_i res e2
      cases e
      refine h B H vs ds res Q g.ext (vwAll_ok g ok e1) e2 ?_
      cases res with
      | pd d =>
        intro v B' H' fr ex hd
        refine k v B' H' fs [] (fr.weak (fun _ f => f.elim) fun a f => ?_) (g.grow fr (fun _ _ f => f) ex) ⟨⟨hd, rfl⟩, rfl, fun a ha => nomatch ha⟩
        rcases f with f | f
        · exact Or.inr (Or.inl (Or.inl f))
        · cases f
      | nl l => exact fun p xs hp hd => newOwn_ok (s := .ml none l) g hp ⟨p, xs, rfl, rfl, upd_same, hd⟩ rfl k
      | nm l => exact fun p xs hp hd => newOwn_ok (s := .md none l) g hp ⟨p, xs, rfl, rfl, upd_same, hd⟩ rfl k
    · cases e
  · cases e
section
variable {K : PySem.W.Frag} {B H : Hp} {Q : VK}
theorem ResV.same {d : D} (k : ResV K B H Q (.pd d)) (e : Same B H) {v : V} (h : Dp K B v d) : Q v H := k v B H (Fr.refl B H _) e h
theorem ResV.bool {i : Bool} (k : ResV K B H Q (.pd (.bool i))) (e : Same B H) : Q (.bl i) H := k.same e (.bl i)
end
def eDNew : M Rs := fun ρ => some (.ok (.own (.md none [])) ρ)
theorem de_dnew {X : Cx} {vs0 : List V} {pos : Pos} : PE X (.Dict [] [] pos) (rdE X.K vs0 eDNew) := PE.imp pe_dnewK fun σ H Q q => by
  obtain ⟨B, ρ, fs, g, r, ρ', e1, k⟩ := q
  cases e1
  intro p hp
  exact newOwn_ok (Ts := []) (s := .md none []) g hp ⟨p, [], rfl, rfl, upd_same, .nil⟩ rfl fun v B' H' fs' T fr g' ok => k v B' H' fs' T (Fr.weak fr (fun a h => by
    rcases h with h | h
    · exact h
    · cases h) fun a h => Or.inl h) g' ok
def rInD : R2 := fun x y H Q => ∃ a o, y = .ref a ∧ DGet H a x o ∧ Q (.bl o.isSome) H
section
variable {X : Cx}
theorem op_inDd (hu : X.A.units + 64 < cLine) : OpR X (compareOp .In) rInD := by
  intro pins s σ H x y v u Q I rx ry h
  obtain ⟨a, o, rfl, g, q⟩ := h
  cases ry
  exact d_in (by omega) I g rx fun s' I' => ⟨.bl _, H, I', rfl, q⟩
end
theorem dgetR {H : Hp} {a : Addr} {kvs : List (Key × V)} {k : Key} (e : Rd H a (.dK kvs)) : DGet H a (kV k) (valV kvs k) := .inl ⟨kvs, k, e, rfl, rfl⟩
def pInD : List Vw → Option Rd2
  | [.d y, .m l] => match kOf y with
    | some k => some (.pd (.bool (valD l k).isSome))
    | none => none
  | _ => none
def oInD := opV pInD
theorem valD_some {K : PySem.W.Frag} {B : Hp} {ks : List (Key × V)} {l : List (Key × D)} (h : KvD K B ks l) (k : Key) : (valV ks k).isSome = (valD l k).isSome := by
  rcases h.val k with ⟨z1, z2⟩ | ⟨v, d', z1, z2, z3⟩
  · rw [z1, z2]; rfl
  · rw [z1, z2]; rfl
theorem oInD_ok {K : PySem.W.Frag} : OpOk K (r2 rInD) oInD := opV_ok fun B H vs ds res Q e hs hp k => by
  unfold pInD at hp
  split at hp
  · split at hp
    · rename_i kk hk
      cases hp
      obtain ⟨x, y, rfl, h3, ⟨a, ks, rfl, h1, h2⟩⟩ := hs.two
      have e3 := kOf_dp (h3.dp e) hk
      subst e3
      exact ⟨_, _, rfl, a, _, rfl, dgetR h1, by rw [valD_some h2]; exact k.bool e⟩
    · cases hp
  · cases hp
def putSub (o i : Rs) (d : D) : M Fl := fun ρ => match o with
  | .bor j => match ρ[j]? with
    | some (some (.md t l)) => match i.view ρ with
      | some y => match kOf y with
        | some k => if l.length < sizeLine then some (.ok .nx (ρ.set j (some (.md t (putD l k d))))) else none
        | none => none
      | none => none
    | _ => none
  | _ => none
def gPut (f fo fi : M Rs) : M Fl := M.bind f fun r => M.bind (freezeR r) fun d => M.bind fo fun o => M.bind fi fun i => putSub o i d
theorem ds_put {X : Cx} {vs0 : List V} {e o i : Expr} {f fo fi : M Rs} {pos tpos : Pos} (hu : X.A.units + 64 < cLine) (he : PE X e (rdE X.K vs0 f)) (ho : PE X o (rdE X.K vs0 fo)) (hi : PE X i (rdE X.K vs0 fi))
    (hs : swapsWith e (some (.Subscript o i tpos)) pos.line X.env = pure false := by rfl) :
    PS X (.Assign [.Subscript o i tpos] e pos) (rdS X.K vs0 (gPut f fo fi)) := PS.imp (ps_dput (by omega) ho hi he hs) fun D σ H q => by
  obtain ⟨B, ρ, fs, gd, fl, ρ', e1, k⟩ := q
  obtain ⟨r, ρ1, e2, e3⟩ := M.bind_ok e1
  obtain ⟨d, ρ2, e4, e5⟩ := M.bind_ok e3
  obtain ⟨ro, ρ3, e6, e7⟩ := M.bind_ok e5
  obtain ⟨ri, ρ4, e8, e9⟩ := M.bind_ok e7
  refine ⟨B, ρ, fs, gd, r, ρ1, e2, fun v B1 H1 fs1 T1 fr1 g1 ok1 => ?_⟩
  obtain ⟨B2, fs2, fr2, g2, d2⟩ := freezeR_ok g1 ok1 e4
  refine ⟨B2, ρ2, fs2, g2, ro, ρ3, e6, fun u B3 H3 fs3 T3 fr3 g3 ok3 => ⟨B3, ρ3, fs3, g3, ri, ρ4, e8, fun w B4 H4 fs4 T4 fr4 g4 ok4 => ?_⟩⟩
  unfold putSub at e9
  cases ro with
  | own s => cases e9
  | lent _ _ _ => cases e9
  | bor j =>
  dsimp only at e9
  split at e9
  · rename_i t l e10
    split at e9
    · rename_i y e11
      split at e9
      · rename_i kk e12
        split at e9
        · rename_i hsz
          cases e9
          obtain ⟨v', q1, ⟨a, ks, rfl, hfs, q2, q3⟩, _⟩ := g4.at_ j _ e10
          obtain ⟨z1, z2⟩ := ok3
          rw [q1] at z1
          cases z1
          have ew := kOf_dp ((view_ok g4 ok4 e11).dp g4.ext) e12
          subst ew
          refine ⟨a, _, rfl, DPut.k q2 (by rw [q3.len]; exact hsz), ?_⟩
          have dv : Dp X.K B4 v d := Dp.mono ((fr3.bb).trans fr4.bb) d2
          have g5 := g4.upd (o := HO.dK (putK ks kk v)) (s' := .md t (putD l kk d)) e10 hfs q1 ⟨a, _, rfl, rfl, upd_same, q3.put kk dv⟩ rfl
          refine k σ B4 _ fs4 ((fr1.trans fr2).trans (((fr_drop fr3).trans (fr_drop fr4)).trans (Fr.updIn ⟨j, by rw [hfs]; simp⟩))) g5
        · cases e9
      · cases e9
    · cases e9
  · cases e9
end Pd
set_option Elab.async false
set_option linter.all false
set_option maxRecDepth 100000
set_option maxHeartbeats 1000000
namespace Pd
open PySem PySem.Spec PyProof.Rows L2
namespace B
section
variable {ρ : Env}
@[simp ↓] theorem ev_dnew {Q : Rs → Env → Prop} : Ev eDNew ρ Q ↔ Q (.own (.md none [])) ρ := by
  constructor
  · rintro ⟨a', ρ', e, q⟩; cases e; exact q
  · intro q; exact ⟨_, ρ, rfl, q⟩
def slotW : Option (Option Sl) → Option Vw
  | some (some (.md _ l)) => some (.m l)
  | some (some (.ml _ l)) => some (.d (.list l))
  | some (some (.p d)) => some (.d d)
  | _ => none
@[simp] theorem slotW_md {t : Option Nat} {l : List (Key × D)} : slotW (some (some (.md t l))) = some (.m l) := rfl
@[simp] theorem slotW_ml {t : Option Nat} {l : List D} : slotW (some (some (.ml t l))) = some (.d (.list l)) := rfl
@[simp] theorem slotW_p {d : D} : slotW (some (some (.p d))) = some (.d d) := rfl
@[simp] theorem vw_p {d : D} : (Rs.own (.p d)).vw ρ = some (.d d) := rfl
@[simp] theorem vw_ml {t : Option Nat} {l : List D} : (Rs.own (.ml t l)).vw ρ = some (.d (.list l)) := rfl
@[simp] theorem vw_md {t : Option Nat} {l : List (Key × D)} : (Rs.own (.md t l)).vw ρ = some (.m l) := rfl
@[simp] theorem vw_bor {i : Nat} : (Rs.bor i).vw ρ = slotW ρ[i]? := by
  unfold Rs.vw Rs.view slotW
  dsimp only
  split
  · rename_i h; rw [h]
  · rename_i h
    split
    · rename_i h2; rw [h2]; rfl
    · rename_i h2; rw [h2]; rfl
    · rename_i h2 h3
      split
      · rename_i h4; exact absurd h4 (h _ _)
      · rename_i h4; exact absurd h4 (h2 _ _)
      · rename_i h4; exact absurd h4 (h3 _)
      · rfl
@[simp] theorem vwAll_nil : vwAll [] ρ = some [] := rfl
@[simp] theorem vwAll_cons {r : Rs} {rs : List Rs} : vwAll (r :: rs) ρ = (r.vw ρ).bind fun d => (vwAll rs ρ).bind fun ds => some (d :: ds) := by
  rw [vwAll]
  cases r.vw ρ with
  | none => rfl
  | some d =>
    cases vwAll rs ρ with
    | none => rfl
    | some ds => rfl
def resW (ρ : Env) (Q : Rs → Env → Prop) : Option Rd2 → Prop
  | some res => Q res.rs ρ
  | none => False
@[simp] theorem resW_pd {Q : Rs → Env → Prop} {d : D} : resW ρ Q (some (.pd d)) = Q (.own (.p d)) ρ := rfl
@[simp] theorem resW_nl {Q : Rs → Env → Prop} {l : List D} : resW ρ Q (some (.nl l)) = Q (.own (.ml none l)) ρ := rfl
@[simp] theorem resW_nm {Q : Rs → Env → Prop} {l : List (Key × D)} : resW ρ Q (some (.nm l)) = Q (.own (.md none l)) ρ := rfl
@[simp] theorem resW_none {Q : Rs → Env → Prop} : resW ρ Q none = False := rfl
@[simp] theorem resW_ite {Q : Rs → Env → Prop} {c : Prop} [Decidable c] {o : Option Rd2} : resW ρ Q (if c then o else none) ↔ c ∧ resW ρ Q o := by
  split
  · rename_i h; simp [h]
  · rename_i h; simp [h, resW]
@[simp] theorem resW_mpd {Q : Rs → Env → Prop} {o : Option D} : resW ρ Q (o.map .pd) ↔ ∃ d, o = some d ∧ Q (.own (.p d)) ρ := by
  cases o with
  | none => simp
  | some d => simp
@[simp] theorem resW_mnm {Q : Rs → Env → Prop} {o : Option (List (Key × D))} : resW ρ Q (o.map .nm) ↔ ∃ d, o = some d ∧ Q (.own (.md none d)) ρ := by
  cases o with
  | none => simp
  | some d => simp
@[simp ↓] theorem ev_opV {pf : List Vw → Option Rd2} {rs : List Rs} {Q : Rs → Env → Prop} : Ev (opV pf rs) ρ Q ↔ resW ρ Q ((vwAll rs ρ).bind pf) := by
  constructor
  · rintro ⟨a', ρ', e, q⟩
    unfold opV at e
    split at e
    · rename_i ds h
      split at e
      · rename_i res h2; cases e; rw [h, Option.bind_some, h2]; exact q
      · cases e
    · cases e
  · intro q
    unfold resW at q
    split at q
    · rename_i res h
      rw [Option.bind_eq_some_iff] at h
      obtain ⟨ds, h1, h2⟩ := h
      exact ⟨_, ρ, by unfold opV; simp only [h1, h2], q⟩
    · exact q.elim
@[simp ↓] theorem oInD_eq : oInD = opV pInD := rfl
@[simp] theorem pInD_s {l : List (Key × D)} {x : Str} : pInD [.d (.str x), .m l] = some (.pd (.bool (valD l (.inr x)).isSome)) := rfl
@[simp] theorem pInD_i {l : List (Key × D)} {x : Int} : pInD [.d (.int x), .m l] = some (.pd (.bool (valD l (.inl x)).isSome)) := rfl
def putQ (j : Nat) (d : D) (ρ : Env) (Q : Fl → Env → Prop) : Option (Option Sl) → Option D → Prop
  | some (some (.md t l)), some (.str x) => l.length < sizeLine ∧ Q .nx (ρ.set j (some (.md t (putD l (.inr x) d))))
  | some (some (.md t l)), some (.int x) => l.length < sizeLine ∧ Q .nx (ρ.set j (some (.md t (putD l (.inl x) d))))
  | _, _ => False
@[simp] theorem putQ_s {j : Nat} {d : D} {t : Option Nat} {l : List (Key × D)} {x : Str} {Q : Fl → Env → Prop} : putQ j d ρ Q (some (some (.md t l))) (some (.str x)) = (l.length < sizeLine ∧ Q .nx (ρ.set j (some (.md t (putD l (.inr x) d))))) := rfl
@[simp] theorem putQ_i {j : Nat} {d : D} {t : Option Nat} {l : List (Key × D)} {x : Int} {Q : Fl → Env → Prop} : putQ j d ρ Q (some (some (.md t l))) (some (.int x)) = (l.length < sizeLine ∧ Q .nx (ρ.set j (some (.md t (putD l (.inl x) d))))) := rfl
@[simp ↓] theorem ev_putSub {j : Nat} {i : Rs} {d : D} {Q : Fl → Env → Prop} : Ev (putSub (.bor j) i d) ρ Q ↔ putQ j d ρ Q ρ[j]? (i.view ρ) := by
  constructor
  · rintro ⟨a', ρ', e, q⟩
    unfold putSub at e
    dsimp only at e
    split at e
    · rename_i t l h1
      split at e
      · rename_i y h2
        split at e
        · rename_i k h3
          split at e
          · rename_i h4
            cases e
            rw [h1, h2]
            cases y with
            | int x => cases h3; exact ⟨h4, q⟩
            | str x => cases h3; exact ⟨h4, q⟩
            | none => cases h3
            | bool x => cases h3
            | list x => cases h3
            | tuple x => cases h3
            | dict x => cases h3
          · cases e
        · cases e
      · cases e
    · cases e
  · intro q
    unfold putQ at q
    split at q
    · rename_i t l x h1 h2
      exact ⟨.nx, _, by unfold putSub; simp only [h1, h2, kOf, if_pos q.1], q.2⟩
    · rename_i t l x h1 h2
      exact ⟨.nx, _, by unfold putSub; simp only [h1, h2, kOf, if_pos q.1], q.2⟩
    · exact q.elim
@[simp ↓] theorem ev_gPut {f fo fi : M Rs} {Q : Fl → Env → Prop} : Ev (gPut f fo fi) ρ Q ↔ Ev f ρ fun r ρ1 => Ev (freezeR r) ρ1 fun d ρ2 => Ev fo ρ2 fun o ρ3 => Ev fi ρ3 fun i ρ4 => Ev (putSub o i d) ρ4 Q := by
  unfold gPut
  simp only [ev_bind]
end
end B
end Pd
set_option Elab.async false
set_option linter.all false
set_option maxRecDepth 100000
set_option maxHeartbeats 1000000
namespace Pd
open PySem PySem.Spec PyProof.Rows L2
open B (slotW slotW_md slotW_ml slotW_p vw_p vw_ml vw_md vw_bor vwAll_nil vwAll_cons oInD_eq pInD_s pInD_i)
section
variable {ρ : Env}
@[simp ↓] theorem ev_dnew {Q : Rs → Env → Prop} : Ev eDNew ρ Q ↔ Q (.own (.md none [])) ρ := B.ev_dnew
def resW (ρ : Env) (Q : Rs → Env → Prop) [Fx Q] (o0 : Option Rd2) : Prop := B.resW ρ Q o0
@[simp] theorem resW_pd {Q : Rs → Env → Prop} {d : D} : resW ρ Q (some (.pd d)) = Q (.own (.p d)) ρ := B.resW_pd
@[simp] theorem resW_nl {Q : Rs → Env → Prop} {l : List D} : resW ρ Q (some (.nl l)) = Q (.own (.ml none l)) ρ := B.resW_nl
@[simp] theorem resW_nm {Q : Rs → Env → Prop} {l : List (Key × D)} : resW ρ Q (some (.nm l)) = Q (.own (.md none l)) ρ := B.resW_nm
@[simp] theorem resW_none {Q : Rs → Env → Prop} : resW ρ Q none = False := B.resW_none
@[simp] theorem resW_ite {Q : Rs → Env → Prop} {c : Prop} [Decidable c] {o : Option Rd2} : resW ρ Q (if c then o else none) ↔ c ∧ resW ρ Q o := B.resW_ite
@[simp] theorem resW_mpd {Q : Rs → Env → Prop} {o : Option D} : resW ρ Q (o.map .pd) ↔ ∃ d, o = some d ∧ Q (.own (.p d)) ρ := B.resW_mpd
@[simp] theorem resW_mnm {Q : Rs → Env → Prop} {o : Option (List (Key × D))} : resW ρ Q (o.map .nm) ↔ ∃ d, o = some d ∧ Q (.own (.md none d)) ρ := B.resW_mnm
@[simp ↓] theorem ev_opV {pf : List Vw → Option Rd2} {rs : List Rs} {Q : Rs → Env → Prop} : Ev (opV pf rs) ρ Q ↔ resW ρ Q ((vwAll rs ρ).bind pf) := B.ev_opV
def putQ (j : Nat) (d : D) (ρ : Env) (Q : Fl → Env → Prop) [Fx Q] (o0 : Option (Option Sl)) (o1 : Option D) : Prop := B.putQ j d ρ Q o0 o1
@[simp] theorem putQ_s {j : Nat} {d : D} {t : Option Nat} {l : List (Key × D)} {x : Str} {Q : Fl → Env → Prop} : putQ j d ρ Q (some (some (.md t l))) (some (.str x)) = (l.length < sizeLine ∧ Q .nx (ρ.set j (some (.md t (putD l (.inr x) d))))) := B.putQ_s
@[simp] theorem putQ_i {j : Nat} {d : D} {t : Option Nat} {l : List (Key × D)} {x : Int} {Q : Fl → Env → Prop} : putQ j d ρ Q (some (some (.md t l))) (some (.int x)) = (l.length < sizeLine ∧ Q .nx (ρ.set j (some (.md t (putD l (.inl x) d))))) := B.putQ_i
@[simp ↓] theorem ev_putSub {j : Nat} {i : Rs} {d : D} {Q : Fl → Env → Prop} : Ev (putSub (.bor j) i d) ρ Q ↔ putQ j d ρ Q ρ[j]? (i.view ρ) := B.ev_putSub
@[simp ↓] theorem ev_gPut {f fo fi : M Rs} {Q : Fl → Env → Prop} : Ev (gPut f fo fi) ρ Q ↔ Ev f ρ fun r ρ1 => Ev (freezeR r) ρ1 fun d ρ2 => Ev fo ρ2 fun o ρ3 => Ev fi ρ3 fun i ρ4 => Ev (putSub o i d) ρ4 Q := B.ev_gPut
end
end Pd
set_option Elab.async false
set_option linter.all false
set_option maxRecDepth 100000
set_option maxHeartbeats 1000000
namespace L2
open PySem PySem.Spec PyProof.Rows PySem.W
section
variable {prog : Program} {w : World} {A : Around} {E : Value → Shared → Prop} {s : Shared} {r d : Addr} {n : Nat} {P : Nat → Value → Prop} {OK : Heap → Prop}
theorem code_tuple_new_vals {Q₁ : Value → Shared → Prop} (K : KdlSrc prog w "dict_values" r d n P OK) (hh : A.handled = none) (hok : OK s.heap) (hn : n ≤ sizeLine)
    (h : ∀ (h' : Heap) (tk : Nat) (acc : Array Value), (∀ b o, s.heap.get? b = some o → h'.get? b = some o) → ItemsOf P acc n →
      Q₁ (.ref h'.objs.size) { s with heap := h'.push { cls := .type "tuple", data := .seq acc }, toks := tk }) :
    codeAny (model prog w) A (.call (.builtin "tuple.__new__") ⟨[.type "tuple", .ref r], []⟩) (wants Q₁ E) s := by
  refine codeAny_of_tree ?_
  show wpAny _ A.in1 (do checkBuiltinCall "tuple.__new__" ⟨[.type "tuple", .ref r], []⟩; again (.builtin "tuple.__new__" ⟨[.type "tuple", .ref r], []⟩)) _ _ s
  refine wpAny_bind (wpAny_of_eq (F.newCall_tuple_1 _) (wpAny_pure ⟨plainId_quiet F.plain_tuple_new _, codeAny_builtin F.entry_tuple_new ?_⟩))
  rw [Around.under_plainId F.plain_tuple_new _]
  have hsub := sub_tuple_self
  have hinit := init_tuple_lookup
  have hmh := madeHere_tuple
  have hTI : s.TypeIs (.ref r) "dict_values" := K.type s hok
  have hh1 : A.in1.handled = none := hh
  wp_walk using wpAny_typeOf hTI, kdu_collect (A := A.in1) K hh1 hok hn
  intro h' tk acc hk hacc
  show wpAny _ _ (Builtin.Tuple.tupleExact acc.toList.toArray >>= fun v => ret v) _ _ _
  unfold Builtin.Tuple.tupleExact
  refine wpAny_bind (wpAny_newObj_type ?_ (by show acc.toList.toArray.size ≤ sizeLine; simp only [Array.toArray_toList]; rw [hacc.1]; exact hn))
  refine wpAny_pure ?_
  have e : acc.toList.toArray = acc := by simp
  rw [e]
  exact h h' tk acc hk hacc
theorem call_tuple_vals {Q : Value → Shared → Prop} (K : KdlSrc prog w "dict_values" r d n P OK) (hh : A.handled = none) (hok : OK s.heap) (hn : n ≤ sizeLine)
    (hQ : ∀ (h' : Heap) (tk : Nat) (acc : Array Value), (∀ b o, s.heap.get? b = some o → h'.get? b = some o) → ItemsOf P acc n →
      Q (.ref h'.objs.size) { s with heap := h'.push { cls := .type "tuple", data := .seq acc }, toks := tk }) :
    wpAny (model prog w) A (call (.type "tuple") [.ref r]) Q E s := by
  refine callType_codes (Q₁ := fun obj s₁ => s₁.TypeIs obj "tuple" ∧ Q obj s₁) F.called_tuple (F.typeCall_tuple_1 _) F.entry_object_init
    (code_tuple_new_vals (A := A.in1) K hh hok hn fun h' tk acc hk hacc => ⟨⟨_, Heap.get?_push_size _ rfl, rfl⟩, hQ h' tk acc hk hacc⟩) fun obj s₁ h₁ => ?_
  exact ⟨h₁.1, F.args_object_init_2 obj _, object_init_meets F.called_tuple.init.lookup F.called_tuple.made (by decide) prog w A.in1 _ s₁ ⟨h₁.1, rfl, h₁.2⟩⟩
end
section
variable {X : Cx} {o : Expr} {p pos apos mpos : Pos} {td : TE}
def tVals (td : TE) (mk : List V → HO) : TE := fun σ H Q => td σ H fun x H1 => ∃ a kvs, x = V.ref a ∧ Rd H1 a (.dK kvs) ∧ ∀ p, H1 p = none → Q (.ref p) (upd H1 p (mk (kvs.map (·.2))))
theorem kv_vals {kvs : List (Key × V)} {vs : List (Key × Value)} (rel : KV kvs vs) {acc : Array Value} (h : ItemsOf (fun i v => ∃ k, vs[i]? = some (k, v)) acc vs.length) : Vals (kvs.map (·.2)) acc.toList := by
  have e := kdl_vals_eq (kvs := vs) acc.toList (by rw [Array.length_toList]; exact h.1) fun j v e => h.2 j v (by rw [← Array.getElem?_toList]; exact e)
  rw [e]
  clear e h
  unfold KV at rel
  induction rel with
  | nil => exact .nil
  | cons h t ih => rw [List.map_cons, List.map_cons]; exact .cons h.2 ih
theorem pe_tupleVals (hc : X.calm = true) (hg : Gl X "tuple") (hm : X.mg "tuple" = none) (hd : PE X o td) (hbase : attributeBase o "values" X.env (eval o X.env) = eval o X.env := by rfl) (hline : (apos.endLine == mpos.line) = true := by rfl)
    (hse : starEach [Expr.Call (.Attribute o "values" apos) [] [] mpos] X.env = [(false, eval (Expr.Call (.Attribute o "values" apos) [] [] mpos) X.env)] := by rfl) :
    PE X (.Call (.Name "tuple" p) [.Call (.Attribute o "values" apos) [] [] mpos] [] pos) (tVals td .tup) := by
  refine ⟨fun pins s σ H Q I h => ?_⟩
  refine wpAny_Call_Name_kw (ld_blt I hg hm (u := .type "tuple") (by first | rfl | decide +kernel) ?_ (by first | decide +kernel | decide) (by first | decide +kernel | decide))
  rw [hse]
  refine PySem.callWith_type1 (wpAny_Call_method0_late hbase hline (thn (hd.run pins s σ H _ I h) fun v s1 ⟨x, H1, I1, r1, a, kvs, ex, ha, q⟩ => ?_))
  subst ex
  obtain rfl : v = Value.ref a := r1
  obtain ⟨hz, hsys, vs, rel, dof⟩ := dk_rd I1.hok ha
  obtain ⟨ep, dat⟩ := dof.dictAt
  have dat' := dat
  obtain ⟨ob, es, ho, ex, hdat, hko, hpr, hnd⟩ := dat'
  refine ⟨"dict", "dict.values", F.plainAttrs_dict, F.slot_dict_values, F.type_dict_values, ⟨ob, ho, ex.1⟩, fun b e => ?_, Calls.callWith_builtin rfl (PySem.evalArgs_none ?_)⟩
  · cases e
    exact ⟨ob, ho, ex.2.1⟩
  refine call_meetsIn F.slot_dict_values ⟨ob, ho, ex.1⟩ F.entry_dict_values (F.args_dict_values_1 _) (meets_dict_values (mixKind X.prog X.w) a hsys) ⟨⟨vs, dof⟩, ?_⟩
  have k1 : ∀ b u, s1.heap.get? b = some u → (s1.heap.push { cls := .type "dict_values", data := .fields #[.ref a] }).get? b = some u := fun b u e => Heap.get?_push_of_some _ e
  refine call_tuple_vals (kdl_values (prog := X.prog) (w := X.w) (knd := mixKind X.prog X.w) (r := s1.heap.objs.size) (d := a) (kvs := vs) (ep := ep)) (I.ok.hd hc) ⟨⟨_, Heap.get?_push_size _ rfl, rfl, rfl⟩, dat.keep k1⟩ (by rw [← rel.length]; exact hz) fun h' tk acc hk hacc => ?_
  have I2 : Inv X pins σ H1 { s1 with heap := h', toks := tk } := I1.kept (t' := tk) fun b u e => hk b u (k1 b u e)
  have rv := kv_vals rel hacc
  have I3 : Inv X pins σ (upd H1 h'.objs.size (.tup (kvs.map (·.2)))) { s1 with heap := h'.push { cls := .type "tuple", data := .seq acc }, toks := tk } :=
    I2.laid (t' := tk) (fun b o e => Heap.get?_push_of_some _ e) (Nat.le_refl _) (show ObjOk X.prog X.w _ _ _ (.tup (kvs.map (·.2))) from ⟨by rw [List.length_map]; exact hz, acc.toList, rv, by simpa using IsTup.new h' acc⟩)
  exact ⟨.ref h'.objs.size, _, I3, rfl, q _ (I2.hok.fresh (Nat.le_refl _))⟩
end
end L2
namespace Pd
open PySem PySem.Spec PyProof.Rows L2
def pValsT : List Vw → Option Rd2
  | [.m l] => some (.pd (.tuple (l.map (·.2))))
  | _ => none
def oValsT := opV pValsT
def rVals (mk : List V → HO) : List V → Hp → VK → Prop := fun xs H1 Q => ∃ a kvs, xs = [V.ref a] ∧ Rd H1 a (.dK kvs) ∧ ∀ p, H1 p = none → Q (.ref p) (upd H1 p (mk (kvs.map (·.2))))
theorem oValsT_ok {K : PySem.W.Frag} : OpOk K (rVals .tup) oValsT := opV_ok fun B H vs ds res Q e hs hp k => by
  unfold pValsT at hp
  split at hp
  · cases hp
    obtain ⟨x, rfl, ⟨a, ks, rfl, h1, h2⟩⟩ := hs.one
    refine ⟨a, ks, rfl, h1, fun p hp => k _ _ _ (Fr.new hp e) (same_upd e) (.tup (SqT.of upd_same) (DpAll.mono (Fr.new hp e).bb h2.vals))⟩
  · cases hp
section
variable {X : Cx} {vs0 : List V} {o : Expr} {p pos apos mpos : Pos} {fo : M Rs}
theorem rd_vals {K : PySem.W.Frag} {mk : List V → HO} {op : List Rs → M Rs} (ho : OpOk K (rVals mk) op) {σ : L2.St} {H : Hp} {Q : VK} (q : rdE K vs0 (eUn fo op) σ H Q) : tVals (rdE K vs0 fo) mk σ H Q := by
  refine rdE_imp (rd_cons (rd_op ho q)) fun x H1 q1 => ?_
  obtain ⟨a, kvs, e, h1, h2⟩ := rdA_nil q1
  cases e
  exact ⟨a, kvs, rfl, h1, h2⟩
theorem de_tupleVals (hc : X.calm = true) (hg : Gl X "tuple") (hm : X.mg "tuple" = none) (ho : PE X o (rdE X.K vs0 fo)) (hbase : attributeBase o "values" X.env (eval o X.env) = eval o X.env := by rfl) (hline : (apos.endLine == mpos.line) = true := by rfl)
    (hse : starEach [Expr.Call (.Attribute o "values" apos) [] [] mpos] X.env = [(false, eval (Expr.Call (.Attribute o "values" apos) [] [] mpos) X.env)] := by rfl) :
    PE X (.Call (.Name "tuple" p) [.Call (.Attribute o "values" apos) [] [] mpos] [] pos) (rdE X.K vs0 (eUn fo oValsT)) := PE.imp (pe_tupleVals hc hg hm ho hbase hline hse) fun _ _ _ q => rd_vals oValsT_ok q
end
namespace B
@[simp ↓] theorem oValsT_eq : oValsT = opV pValsT := rfl
@[simp] theorem pValsT_m {l : List (Key × D)} : pValsT [.m l] = some (.pd (.tuple (l.map (·.2)))) := rfl
end B
end Pd
set_option Elab.async false
set_option linter.all false
set_option maxRecDepth 100000
set_option maxHeartbeats 1000000
namespace Pd
open PySem PySem.Spec PyProof.Rows L2
def inS (i j : Str) : Bool := !(Builtin.Str.occurrences j i 0 j.length 1).isEmpty
def pInS : List D → Option Rd'
  | [.str i, .str j] => some (.pd (.bool (inS i j)))
  | _ => none
def pNiS : List D → Option Rd'
  | [.str i, .str j] => some (.pd (.bool (!inS i j)))
  | _ => none
def oInS := opG pInS
def oNiS := opG pNiS
theorem oInS_ok {K : PySem.W.Frag} : OpOk K (r2 fun x y H Q => ∃ i j, x = .str i ∧ y = .str j ∧ Q (.bl (!(Builtin.Str.occurrences j i 0 j.length 1).isEmpty)) H) oInS := opG_ok fun B H vs ds res Q e hs hp k => by
  unfold pInS at hp
  split at hp
  · obtain ⟨x, y, rfl, h1, h2⟩ := hs.two
    cases hp
    exact ⟨_, _, rfl, _, _, h1.str, h2.str, k.bool e⟩
  · cases hp
theorem oNiS_ok {K : PySem.W.Frag} : OpOk K (r2 fun x y H Q => ∃ i j, x = .str i ∧ y = .str j ∧ Q (.bl (!(!(Builtin.Str.occurrences j i 0 j.length 1).isEmpty))) H) oNiS := opG_ok fun B H vs ds res Q e hs hp k => by
  unfold pNiS at hp
  split at hp
  · obtain ⟨x, y, rfl, h1, h2⟩ := hs.two
    cases hp
    exact ⟨_, _, rfl, _, _, h1.str, h2.str, k.bool e⟩
  · cases hp
theorem inS_one (c : Nat) (x : Str) : inS ⟨#[c]⟩ x = decide (c ∈ x.cps.toList) := by
  unfold inS
  rw [PyProof.Rows.empty_one, Bool.not_not]
def bools? : List D → Option (List Bool)
  | [] => some []
  | .bool b :: r => (bools? r).map (b :: ·)
  | _ :: _ => none
theorem bools?_eq : ∀ {l : List D} {bs : List Bool}, bools? l = some bs → l = bs.map PyData.bool
  | [], _, h => by cases h; rfl
  | d :: l, bs, h => by
    cases d with
    | bool b =>
      unfold bools? at h
      obtain ⟨r, h1, h2⟩ := Option.map_eq_some_iff.mp h
      cases h2
      rw [bools?_eq h1]
      rfl
    | none => cases h
    | int b => cases h
    | str b => cases h
    | list b => cases h
    | tuple b => cases h
    | dict b => cases h
def pAll : List D → Option Rd'
  | [.list l] => (bools? l).map fun bs => .pd (.bool (bs.all id))
  | _ => none
def oAll := opG pAll
theorem oAll_ok {K : PySem.W.Frag} : OpOk K (rAll K) oAll := opG_ok fun B H vs ds res Q e hs hp k => by
  unfold pAll at hp
  split at hp
  · rename_i l
    obtain ⟨bs, h1, h2⟩ := Option.map_eq_some_iff.mp hp
    cases h2
    obtain ⟨x, rfl, ⟨p, xs, rfl, s1, d1⟩⟩ := hs.one
    rw [bools?_eq h1] at d1
    have := DpAll.bools d1
    subst this
    exact ⟨p, bs, rfl, s1, k.bool e⟩
  · cases hp
namespace B
@[simp ↓] theorem oAll_eq : oAll = opG pAll := rfl
@[simp] theorem pAll_l {l : List D} : pAll [.list l] = (bools? l).map fun bs => .pd (.bool (bs.all id)) := rfl
@[simp] theorem bools_nil : bools? [] = some [] := rfl
@[simp] theorem bools_cons {b : Bool} {l : List D} : bools? (.bool b :: l) = (bools? l).map (b :: ·) := rfl
theorem bools_mapf {α : Type} {f : α → Bool} : ∀ {l : List α}, bools? (l.map fun a => .bool (f a)) = some (l.map f)
  | [] => rfl
  | a :: l => by rw [List.map_cons, bools_cons, bools_mapf]; rfl
@[simp] theorem resQ_mbool {ρ : Env} {Q : Rs → Env → Prop} {o : Option (List Bool)} : resQ ρ Q (o.map fun bs => .pd (.bool (bs.all id))) ↔ ∃ bs, o = some bs ∧ Q (.own (.p (.bool (bs.all id)))) ρ := by
  cases o with
  | none => simp
  | some d => simp
@[simp ↓] theorem oInS_eq : oInS = opG pInS := rfl
@[simp ↓] theorem oNiS_eq : oNiS = opG pNiS := rfl
@[simp] theorem pInS_ss {i j : Str} : pInS [.str i, .str j] = some (.pd (.bool (inS i j))) := rfl
@[simp] theorem pNiS_ss {i j : Str} : pNiS [.str i, .str j] = some (.pd (.bool (!inS i j))) := rfl
end B
end Pd
set_option Elab.async false
set_option linter.all false
set_option maxRecDepth 100000
set_option maxHeartbeats 1000000
set_option Elab.async false
set_option linter.all false
set_option maxRecDepth 100000
set_option maxHeartbeats 1000000
set_option Elab.async false
set_option linter.all false
set_option maxRecDepth 100000
set_option maxHeartbeats 1000000
set_option Elab.async false
set_option linter.all false
set_option maxRecDepth 100000
set_option maxHeartbeats 1000000
set_option Elab.async false
set_option linter.all false
set_option maxRecDepth 100000
set_option maxHeartbeats 1000000
namespace Pd
open PySem PySem.Spec PyProof.Rows L2
section
variable {K : PySem.W.Frag} {B B' H H' : Hp}
theorem RsAll.lenT {σ : L2.St} {fs : Nat → List Addr} : ∀ {vs : List V} {rs : List Rs} {Ts : List (List Addr)}, RsAll K B H σ fs vs rs Ts → Ts.length = rs.length
  | [], [], [], _ => rfl
  | v :: vs, r :: rs, T :: Ts, g => by simp [RsAll.lenT g.2]
  | [], [], _ :: _, g => g.elim
  | [], _ :: _, _, g => g.elim
  | _ :: _, [], _, g => g.elim
  | _ :: _, _ :: _, [], g => g.elim
end
end Pd
set_option Elab.async false
set_option linter.all false
set_option maxRecDepth 100000
set_option maxHeartbeats 2000000
namespace Pd
open PySem PySem.Spec PyProof.Rows L2
def argR : Rs → Env → Option Sl
  | .own s, _ => some s
  | .bor i, ρ => match ρ[i]? with
    | some (some s) => some s.bare
    | _ => none
  | .lent i s k, ρ => match ρ[i]? with
    | some (some (.hl _)) => (s.kid k).map Sl.bare
    | _ => none
def argL : List Rs → Env → Option (List Sl)
  | [], _ => some []
  | r :: rs, ρ => match argR r ρ with
    | some s => match argL rs ρ with
      | some t => some (s :: t)
      | none => none
    | none => none
def Rs.root : Rs → Option Nat
  | .own _ => none
  | .bor i => some i
  | .lent i _ _ => some i
def Rs.back : Rs → Sl → Option Nat → Sl
  | .lent _ w k, s, t => (w.setKid k s).retag t
  | _, s, t => s.retag t
def roots : List Rs → List Nat
  | [] => []
  | r :: rs => match r.root with
    | some i => i :: roots rs
    | none => roots rs
def wbR (r : Rs) (s : Sl) (ρ : Env) : Env := match r.root with
  | some i => ρ.set i (some (r.back s (tagAt ρ i)))
  | none => ρ
def wbL : List Rs → List Sl → Env → Env
  | r :: rs, s :: ss, ρ => wbL rs ss (wbR r s ρ)
  | _, _, ρ => ρ
theorem wbR_len (r : Rs) (s : Sl) (ρ : Env) : (wbR r s ρ).length = ρ.length := by
  unfold wbR
  split
  · simp
  · rfl
theorem wbL_len : ∀ (rs : List Rs) (ss : List Sl) (ρ : Env), (wbL rs ss ρ).length = ρ.length
  | [], _, _ => rfl
  | _ :: _, [], _ => rfl
  | r :: rs, s :: ss, ρ => by
    rw [wbL, wbL_len rs ss, wbR_len]
theorem mem_roots {i : Nat} : ∀ {rs : List Rs}, i ∈ roots rs ↔ ∃ (k : Nat) (r : Rs), rs[k]? = some r ∧ r.root = some i
  | [] => by simp [roots]
  | r :: rs => by
    have ih := mem_roots (i := i) (rs := rs)
    unfold roots
    cases e : r.root with
    | none =>
      dsimp only
      rw [ih]
      constructor
      · rintro ⟨k, q, h1, h2⟩; exact ⟨k + 1, q, by simpa using h1, h2⟩
      · rintro ⟨k, q, h1, h2⟩
        cases k with
        | zero => simp at h1; subst h1; rw [e] at h2; cases h2
        | succ k => exact ⟨k, q, by simpa using h1, h2⟩
    | some j =>
      dsimp only
      rw [List.mem_cons, ih]
      constructor
      · rintro (rfl | ⟨k, q, h1, h2⟩)
        · exact ⟨0, r, rfl, e⟩
        · exact ⟨k + 1, q, by simpa using h1, h2⟩
      · rintro ⟨k, q, h1, h2⟩
        cases k with
        | zero => simp at h1; subst h1; rw [e] at h2; cases h2; exact Or.inl rfl
        | succ k => exact Or.inr ⟨k, q, by simpa using h1, h2⟩
theorem roots_inj {i : Nat} : ∀ {rs : List Rs} {k k' : Nat} {r r' : Rs}, (roots rs).Nodup → rs[k]? = some r → r.root = some i → rs[k']? = some r' → r'.root = some i → k = k'
  | [], k, _, _, _, _, h, _, _, _ => by simp at h
  | q :: rs, k, k', r, r', hn, h, hr, h', hr' => by
    have hn2 : (roots rs).Nodup := by
      unfold roots at hn
      split at hn
      · exact (List.nodup_cons.mp hn).2
      · exact hn
    have hd : ∀ j, q.root = some j → j ∉ roots rs := fun j e => by
      unfold roots at hn
      rw [e] at hn
      exact (List.nodup_cons.mp hn).1
    cases k with
    | zero =>
      simp at h
      subst h
      cases k' with
      | zero => rfl
      | succ k' => exact (hd i hr (mem_roots.mpr ⟨k', r', by simpa using h', hr'⟩)).elim
    | succ k =>
      cases k' with
      | zero =>
        simp at h'
        subst h'
        exact (hd i hr' (mem_roots.mpr ⟨k, r, by simpa using h, hr⟩)).elim
      | succ k' => exact congrArg (· + 1) (roots_inj (rs := rs) hn2 (by simpa using h) hr (by simpa using h') hr')
theorem wbR_out {i : Nat} {r : Rs} {s : Sl} {ρ : Env} (h : r.root ≠ some i) : (wbR r s ρ)[i]? = ρ[i]? := by
  unfold wbR
  split
  · rename_i j e
    rw [List.getElem?_set_ne (fun q => h (by rw [e, q]))]
  · rfl
theorem wbL_out {i : Nat} : ∀ (rs : List Rs) (ss : List Sl) (ρ : Env), i ∉ roots rs → (wbL rs ss ρ)[i]? = ρ[i]?
  | [], _, _, _ => rfl
  | _ :: _, [], _, _ => rfl
  | r :: rs, s :: ss, ρ, h => by
    rw [wbL, wbL_out rs ss _ (fun q => h (by
      obtain ⟨k, r', h1, h2⟩ := mem_roots.mp q
      exact mem_roots.mpr ⟨k + 1, r', by simpa using h1, h2⟩)), wbR_out (fun q => h (mem_roots.mpr ⟨0, r, rfl, q⟩))]
theorem wbL_in {i : Nat} : ∀ {rs : List Rs} {ss : List Sl} {ρ : Env} {k : Nat} {r : Rs} {s : Sl}, (roots rs).Nodup → rs[k]? = some r → r.root = some i → ss[k]? = some s → i < ρ.length → (wbL rs ss ρ)[i]? = some (some (r.back s (tagAt ρ i)))
  | [], _, _, k, _, _, _, h, _, _, _ => by simp at h
  | _ :: _, [], _, _, _, _, _, _, _, h, _ => by simp at h
  | q :: rs, s1 :: ss, ρ, k, r, s, hn, h, hr, hs, hi => by
    rw [wbL]
    cases k with
    | zero =>
      simp at h hs
      subst h hs
      have hni : i ∉ roots rs := by
        unfold roots at hn
        rw [hr] at hn
        exact (List.nodup_cons.mp hn).1
      rw [wbL_out rs ss _ hni]
      unfold wbR
      rw [hr]
      dsimp only
      rw [List.getElem?_set_self hi]
    | succ k =>
      have hn2 : (roots rs).Nodup := by
        unfold roots at hn
        split at hn
        · exact (List.nodup_cons.mp hn).2
        · exact hn
      have hq : q.root ≠ some i := fun e => by
        have := roots_inj (k := 0) (k' := k + 1) hn rfl e h hr
        omega
      rw [wbL_in (rs := rs) hn2 (by simpa using h) hr (by simpa using hs) (by rw [wbR_len]; exact hi)]
      have : tagAt (wbR q s1 ρ) i = tagAt ρ i := by
        unfold tagAt
        rw [wbR_out hq]
      rw [this]
theorem argL_get {ρ : Env} : ∀ {rs : List Rs} {ss : List Sl}, argL rs ρ = some ss → ss.length = rs.length ∧ ∀ (k : Nat) s, ss[k]? = some s → ∃ r, rs[k]? = some r ∧ argR r ρ = some s
  | [], ss, e => by cases e; exact ⟨rfl, fun k s h => by simp at h⟩
  | r :: rs, ss, e => by
    unfold argL at e
    split at e
    · rename_i s0 e0
      split at e
      · rename_i t e1
        cases e
        obtain ⟨h1, h2⟩ := argL_get e1
        refine ⟨by simp [h1], fun k s h => ?_⟩
        cases k with
        | zero => simp at h; subst h; exact ⟨r, rfl, e0⟩
        | succ k => simpa using h2 k s (by simpa using h)
      · cases e
    · cases e
theorem Own.back {K : PySem.W.Frag} {B H : Hp} {v : V} {s : Sl} {T : List Addr} {r : Rs} {t : Option Nat} (hr : ∀ i w k, r ≠ .lent i w k) (h : Own K B H v s T) : Own K B H v (r.back s t) T := by
  cases r with
  | own _ => exact h.retag'
  | bor _ => exact h.retag'
  | lent i w k => exact (hr i w k rfl).elim
theorem Rs.back_tag {r : Rs} {s : Sl} {t : Option Nat} {k : Nat} (h : (r.back s t).tag = some k) : t = some k := by
  cases r with
  | own _ => exact Sl.retag_tag h
  | bor _ => exact Sl.retag_tag h
  | lent i w k => exact Sl.retag_tag h
section
variable {K : PySem.W.Frag} {vs0 : List V} {σ : L2.St} {B H : Hp} {ρ : Env} {fs : Nat → List Addr} {vs : List V} {rs : List Rs} {Ts : List (List Addr)} {ss : List Sl}
def FtOk (K : PySem.W.Frag) (B H : Hp) (σ : L2.St) (fs : Nat → List Addr) (vs : List V) (Ts : List (List Addr)) (j : Nat) (F : List Addr) : Option Rs → Prop
  | some (.own _) => F = Ts.getD j []
  | some (.bor i) => F = fs i
  | some (.lent i w k) => ∃ v0 v c, σ[i]? = some (some v0) ∧ vs[j]? = some v ∧ w.kid k = some c ∧ Own K B H v c F ∧ (∀ a ∈ F, a ∈ Ts.getD j []) ∧ ∀ {B' H' : Hp} {c' : Sl} {T' : List Addr}, Same B B' → (∀ a ∈ Ts.getD j [], a ∉ F → H' a = H a) → Own K B' H' v c' T' → (∀ a ∈ T', a ∈ Ts.getD j [] → a ∈ F) →
      ∃ T2, Own K B' H' v0 (w.setKid k c') T2 ∧ ∀ a ∈ T2, (a ∈ Ts.getD j [] ∧ a ∉ F) ∨ a ∈ T'
  | none => F = []
theorem ft_ex (ok : RsAll K B H σ fs vs rs Ts) (e1 : argL rs ρ = some ss) (j : Nat) : ∃ F, FtOk K B H σ fs vs Ts j F rs[j]? := by
  cases q : rs[j]? with
  | none => exact ⟨[], rfl⟩
  | some r =>
    obtain ⟨v, T, h1, h2, h3⟩ := RsAll.get ok q
    cases r with
    | own s => exact ⟨_, rfl⟩
    | bor i => exact ⟨_, rfl⟩
    | lent i w k =>
      obtain ⟨hl, hg⟩ := argL_get e1
      have hj : j < ss.length := by rw [hl]; exact (List.getElem?_eq_some_iff.mp q).1
      obtain ⟨r', q1, q2⟩ := hg j ss[j] (List.getElem?_eq_getElem hj)
      rw [q] at q1
      cases q1
      have hk : ∃ c, w.kid k = some c := by
        unfold argR at q2
        dsimp only at q2
        split at q2
        · cases e : w.kid k with
          | none => rw [e] at q2; cases q2
          | some c => exact ⟨c, rfl⟩
        · cases q2
      obtain ⟨c, hk⟩ := hk
      obtain ⟨⟨v0, z1, z2, z3⟩, z4⟩ := h3
      have eT : Ts.getD j [] = T := by rw [List.getD_eq_getElem?_getD, h2]; rfl
      obtain ⟨Tk, y1, y2, y3⟩ := z2.kid z3 hk
      refine ⟨Tk, v0, v, c, z1, h1, hk, y1, fun a ha => by rw [eT]; exact y2 a ha, fun {B' H' c' T'} sb kp o dj => ?_⟩
      rw [eT] at kp dj ⊢
      exact y3 sb kp o dj
open Classical in
theorem call_core (g : Good K vs0 B H σ ρ fs) (ok : RsAll K B H σ fs vs rs Ts) (nd : Ts.flatten.Nodup) (hnd : (roots rs).Nodup) (e1 : argL rs ρ = some ss) :
    ∃ fsA : Nat → List Addr, Good K [] B H (vs.map some) (ss.map some) fsA ∧ (∀ s ∈ ss, s.tag = none) ∧ vs.length = rs.length ∧ ∀ (ss' : List Sl) (B' H' : Hp) (fsB : Nat → List Addr) (T : List Addr),
      Fr B H (InF fsA) B' H' (UnF (InF fsB) T) → Good K [] B' H' (vs.map some) (ss'.map some) fsB → (∀ a ∈ T, B' a = none ∧ ∀ i, a ∉ fsB i) →
      ∃ fs2 : Nat → List Addr, Fr B H (UnF (InF fs) Ts.flatten) B' H' (UnF (InF fs2) T) ∧ Good K vs0 B' H' σ (wbL rs ss' ρ) fs2 ∧ ∀ a ∈ T, B' a = none ∧ ∀ i, a ∉ fs2 i := by
  obtain ⟨hl, hg⟩ := argL_get e1
  have hvl := RsAll.len ok
  let fsA : Nat → List Addr := fun j => Classical.choose (ft_ex ok e1 j)
  have fA : ∀ j, FtOk K B H σ fs vs Ts j (fsA j) rs[j]? := fun j => Classical.choose_spec (ft_ex ok e1 j)
  have wh : ∀ j a, a ∈ fsA j → (∃ i, rs[j]? = some (Rs.bor i) ∧ a ∈ fs i) ∨ ∃ T, Ts[j]? = some T ∧ a ∈ T ∧ ∀ i, rs[j]? ≠ some (.bor i) := fun j a h => by
    have f := fA j
    cases q : rs[j]? with
    | none => rw [q] at f; rw [show fsA j = [] from f] at h; cases h
    | some r =>
      rw [q] at f
      have inT : a ∈ Ts.getD j [] → ∃ T, Ts[j]? = some T ∧ a ∈ T := fun ha => by
        rw [List.getD_eq_getElem?_getD] at ha
        cases e : Ts[j]? with
        | none => rw [e] at ha; cases ha
        | some T => rw [e] at ha; exact ⟨T, rfl, ha⟩
      cases r with
      | bor i => exact Or.inl ⟨i, rfl, by rw [← show fsA j = fs i from f]; exact h⟩
      | own s =>
        obtain ⟨T, h1, h2⟩ := inT (by rw [← show fsA j = Ts.getD j [] from f]; exact h)
        exact Or.inr ⟨T, h1, h2, fun i e => nomatch e⟩
      | lent i w k =>
        obtain ⟨v0, v, c, z1, z2, z3, z4, z5, z6⟩ := f
        obtain ⟨T, h1, h2⟩ := inT (z5 a h)
        exact Or.inr ⟨T, h1, h2, fun i e => nomatch e⟩
  have offT : ∀ (j : Nat) (T : List Addr) (a : Addr), Ts[j]? = some T → a ∈ T → (∀ i, a ∉ fs i) ∧ H a ≠ none ∧ B a = none := fun j T a hT ha => by
    have hj : j < rs.length := by
      have h1 := RsAll.lenT ok
      rw [← h1]
      exact (List.getElem?_eq_some_iff.mp hT).1
    obtain ⟨v, T', q1, q2, q3⟩ := RsAll.get ok (List.getElem?_eq_getElem hj)
    rw [hT] at q2
    cases q2
    refine ⟨fun i hi => q3.off a ha ⟨i, hi⟩, q3.live a ha, ?_⟩
    cases e : rs[j] with
    | own s => rw [e] at q3; exact (q3.2.2 a ha).1
    | bor i => rw [e] at q3; rw [q3.2] at ha; cases ha
    | lent i w k => rw [e] at q3; exact (q3.2 a ha).1
  have gA : Good K [] B H (vs.map some) (ss.map some) fsA := by
    refine ⟨g.ext, by simp [hvl, hl], fun j s h => ?_, fun j h => ?_, fun j j' a h1 h2 => ?_, fun j a h => ?_⟩
    · rw [List.getElem?_map] at h
      cases q : ss[j]? with
      | none => rw [q] at h; cases h
      | some s' =>
        rw [q] at h
        cases h
        obtain ⟨r, h1, h2⟩ := hg j s q
        obtain ⟨v, T, q1, q2, q3⟩ := RsAll.get ok h1
        have f := fA j
        rw [h1] at f
        cases r with
        | own s0 =>
          cases h2
          refine ⟨v, by rw [List.getElem?_map, q1]; rfl, ?_, fun k hk => by rw [q3.2.1] at hk; cases hk⟩
          have e : fsA j = T := by
            rw [show fsA j = Ts.getD j [] from f, List.getD_eq_getElem?_getD, q2]
            rfl
          rw [e]
          exact q3.1
        | bor i =>
          unfold argR at h2
          dsimp only at h2
          split at h2
          · rename_i s0 e0
            cases h2
            obtain ⟨v', w1, w2, _⟩ := g.at_ i s0 e0
            have hv : σ[i]? = some (some v) := q3.1
            rw [hv] at w1
            cases w1
            refine ⟨v, by rw [List.getElem?_map, q1]; rfl, ?_, fun k hk => by rw [Sl.bare_tag] at hk; cases hk⟩
            rw [show fsA j = fs i from f]
            exact w2.bare
          · cases h2
        | lent i w k =>
          obtain ⟨v0, v', c, z1, z2, z3, z4, z5, z6⟩ := f
          rw [q1] at z2
          cases z2
          unfold argR at h2
          dsimp only at h2
          split at h2
          · rw [z3] at h2
            cases h2
            exact ⟨v, by rw [List.getElem?_map, q1]; rfl, z4.bare, fun k hk => by rw [Sl.bare_tag] at hk; cases hk⟩
          · cases h2
    · have hj : ¬ j < ss.length := fun hj => h ss[j] (by rw [List.getElem?_map, List.getElem?_eq_getElem hj]; rfl)
      have f := fA j
      rw [List.getElem?_eq_none (by omega)] at f
      exact f
    · rcases wh j a h1 with ⟨i, q1, q2⟩ | ⟨T, q1, q2, _⟩
      · rcases wh j' a h2 with ⟨i', w1, w2⟩ | ⟨T', w1, w2, _⟩
        · have := g.dis i i' a q2 w2
          subst this
          exact roots_inj hnd q1 rfl w1 rfl
        · exact ((offT j' T' a w1 w2).1 i q2).elim
      · rcases wh j' a h2 with ⟨i', w1, w2⟩ | ⟨T', w1, w2, _⟩
        · exact ((offT j T a q1 q2).1 i' w2).elim
        · exact flat_injL nd q1 w1 q2 w2
    · rcases wh j a h with ⟨i, q1, q2⟩ | ⟨T, q1, q2, _⟩
      · exact g.out i a q2
      · exact (offT j T a q1 q2).2.2
  refine ⟨fsA, gA, fun s hs => ?_, hvl, fun ss' B' H' fsB T fr gB okB => ?_⟩
  · obtain ⟨j, hj⟩ := List.getElem?_of_mem hs
    obtain ⟨r, h1, h2⟩ := hg j s hj
    cases r with
    | own s0 =>
      cases h2
      obtain ⟨v, T, q1, q2, q3⟩ := RsAll.get ok h1
      exact q3.2.1
    | bor i =>
      unfold argR at h2
      dsimp only at h2
      split at h2
      · cases h2; exact Sl.bare_tag _
      · cases h2
    | lent i w k =>
      unfold argR at h2
      dsimp only at h2
      split at h2
      · cases e : w.kid k with
        | none => rw [e] at h2; cases h2
        | some c => rw [e] at h2; cases h2; exact Sl.bare_tag _
      · cases h2
  have inA : ∀ (p : Nat) (T1 : List Addr) (a : Addr), Ts[p]? = some T1 → a ∈ T1 → ∀ q, a ∈ fsA q → q = p := fun p T1 a hT ha q hq => by
    rcases wh q a hq with ⟨i, _, h2⟩ | ⟨T2, h1, h2, _⟩
    · exact ((offT p T1 a hT ha).1 i h2).elim
    · exact flat_injL nd h1 hT h2 ha
  have live : ∀ a, UnF (InF fsB) T a → InF fsA a ∨ H a = none := fun a h => fr.own a h
  have hl' : ss'.length = rs.length := by
    have := gB.len
    simp at this
    omega
  have rest : ∀ (p : Nat) (T1 : List Addr) (a : Addr), Ts[p]? = some T1 → a ∈ T1 → a ∉ fsA p → ¬ InF fsA a ∧ ¬ UnF (InF fsB) T a := fun p T1 a hT ha hn => by
    have h1 : ¬ InF fsA a := fun ⟨q, hq⟩ => hn (by rw [← inA p T1 a hT ha q hq]; exact hq)
    refine ⟨h1, fun h => ?_⟩
    rcases live a h with h | h
    · exact h1 h
    · exact (offT p T1 a hT ha).2.1 h
  have whole : ∀ (j i : Nat) (w : Sl) (k : List Nat), rs[j]? = some (.lent i w k) → ∃ (v0 : V) (c' : Sl) (T2 : List Addr), σ[i]? = some (some v0) ∧ ss'[j]? = some c' ∧ Own K B' H' v0 (w.setKid k c') T2 ∧ ∀ a ∈ T2, (a ∈ Ts.getD j [] ∧ a ∉ fsA j) ∨ a ∈ fsB j := fun j i w k q => by
    have f := fA j
    rw [q] at f
    obtain ⟨v0, v, c, z1, z2, z3, z4, z5, z6⟩ := f
    have hj : j < ss'.length := by rw [hl']; exact (List.getElem?_eq_some_iff.mp q).1
    obtain ⟨v', y1, y2, _⟩ := gB.at_ j ss'[j] (by rw [List.getElem?_map, List.getElem?_eq_getElem hj]; rfl)
    rw [List.getElem?_map, z2] at y1
    have y1 : v = v' := by simpa using y1
    subst y1
    have hT : ∃ T1, Ts[j]? = some T1 := by
      have : j < Ts.length := by rw [RsAll.lenT ok]; exact (List.getElem?_eq_some_iff.mp q).1
      exact ⟨_, List.getElem?_eq_getElem this⟩
    obtain ⟨T1, hT⟩ := hT
    have eT : Ts.getD j [] = T1 := by rw [List.getD_eq_getElem?_getD, hT]; rfl
    obtain ⟨T2, x1, x2⟩ := z6 (B' := B') (H' := H') fr.bb (fun a ha hn => by
      rw [eT] at ha
      exact fr.keep a (offT j T1 a hT ha).2.1 (rest j T1 a hT ha hn).1) y2 (fun a ha ht => by
      rw [eT] at ht
      rcases live a (Or.inl ⟨j, ha⟩) with ⟨q', h⟩ | h
      · rw [inA j T1 a hT ht q' h] at h; exact h
      · exact ((offT j T1 a hT ht).2.1 h).elim)
    exact ⟨v0, ss'[j], T2, z1, List.getElem?_eq_getElem hj, x1, x2⟩
  let ftB : Nat → List Addr := fun j => match rs[j]? with
    | some (.lent i w k) => if h : ∃ (v0 : V) (c' : Sl) (T2 : List Addr), σ[i]? = some (some v0) ∧ ss'[j]? = some c' ∧ Own K B' H' v0 (w.setKid k c') T2 ∧ ∀ a ∈ T2, (a ∈ Ts.getD j [] ∧ a ∉ fsA j) ∨ a ∈ fsB j then Classical.choose (Classical.choose_spec (Classical.choose_spec h)) else []
    | _ => fsB j
  have ftL : ∀ (j i : Nat) (w : Sl) (k : List Nat), rs[j]? = some (.lent i w k) → ∃ (v0 : V) (c' : Sl), σ[i]? = some (some v0) ∧ ss'[j]? = some c' ∧ Own K B' H' v0 (w.setKid k c') (ftB j) ∧ ∀ a ∈ ftB j, (a ∈ Ts.getD j [] ∧ a ∉ fsA j) ∨ a ∈ fsB j := fun j i w k q => by
    have h := whole j i w k q
    have e : ftB j = Classical.choose (Classical.choose_spec (Classical.choose_spec h)) := by
      show (match rs[j]? with
        | some (.lent i w k) => if h : ∃ (v0 : V) (c' : Sl) (T2 : List Addr), σ[i]? = some (some v0) ∧ ss'[j]? = some c' ∧ Own K B' H' v0 (w.setKid k c') T2 ∧ ∀ a ∈ T2, (a ∈ Ts.getD j [] ∧ a ∉ fsA j) ∨ a ∈ fsB j then Classical.choose (Classical.choose_spec (Classical.choose_spec h)) else []
        | _ => fsB j) = _
      rw [q]
      dsimp only
      rw [dif_pos h]
    rw [e]
    exact ⟨_, _, Classical.choose_spec (Classical.choose_spec (Classical.choose_spec h))⟩
  have ftO : ∀ (j : Nat) (r : Rs), rs[j]? = some r → (∀ i w k, r ≠ .lent i w k) → ftB j = fsB j := fun j r q hr => by
    show (match rs[j]? with
      | some (.lent i w k) => if h : ∃ (v0 : V) (c' : Sl) (T2 : List Addr), σ[i]? = some (some v0) ∧ ss'[j]? = some c' ∧ Own K B' H' v0 (w.setKid k c') T2 ∧ ∀ a ∈ T2, (a ∈ Ts.getD j [] ∧ a ∉ fsA j) ∨ a ∈ fsB j then Classical.choose (Classical.choose_spec (Classical.choose_spec h)) else []
      | _ => fsB j) = _
    rw [q]
    cases r with
    | own s => rfl
    | bor i => rfl
    | lent i w k => exact (hr i w k rfl).elim
  have whB : ∀ (j : Nat) (a : Addr), j < rs.length → a ∈ ftB j → a ∈ fsB j ∨ ∃ T1, Ts[j]? = some T1 ∧ a ∈ T1 ∧ a ∉ fsA j := fun j a hj h => by
    have q := List.getElem?_eq_getElem hj
    by_cases hr : ∃ i w k, rs[j] = .lent i w k
    · obtain ⟨i, w, k, e⟩ := hr
      rw [e] at q
      obtain ⟨v0, c', _, _, _, h4⟩ := ftL j i w k q
      rcases h4 a h with ⟨h5, h6⟩ | h5
      · rw [List.getD_eq_getElem?_getD] at h5
        cases e2 : Ts[j]? with
        | none => rw [e2] at h5; cases h5
        | some T1 => rw [e2] at h5; exact Or.inr ⟨T1, rfl, h5, h6⟩
      · exact Or.inl h5
    · rw [ftO j _ q fun i w k e => hr ⟨i, w, k, e⟩] at h
      exact Or.inl h
  let fs2 : Nat → List Addr := fun i => if h : ∃ (k : Nat) (r : Rs), rs[k]? = some r ∧ r.root = some i then ftB (Classical.choose h) else fs i
  have f2in : ∀ {i k : Nat} {r : Rs}, rs[k]? = some r → r.root = some i → fs2 i = ftB k := fun {i k r} h hr => by
    have hx : ∃ (k : Nat) (r : Rs), rs[k]? = some r ∧ r.root = some i := ⟨k, r, h, hr⟩
    show (if h : ∃ (k : Nat) (r : Rs), rs[k]? = some r ∧ r.root = some i then ftB (Classical.choose h) else fs i) = ftB k
    rw [dif_pos hx]
    obtain ⟨r', q1, q2⟩ := Classical.choose_spec hx
    rw [roots_inj hnd q1 q2 h hr]
  have f2out : ∀ {i : Nat}, (¬ ∃ (k : Nat) (r : Rs), rs[k]? = some r ∧ r.root = some i) → fs2 i = fs i := fun {i} h => by
    show (if h : ∃ (k : Nat) (r : Rs), rs[k]? = some r ∧ r.root = some i then ftB (Classical.choose h) else fs i) = fs i
    rw [dif_neg h]
  have notA : ∀ {i a}, (¬ ∃ (k : Nat) (r : Rs), rs[k]? = some r ∧ r.root = some i) → a ∈ fs i → ¬ InF fsA a := fun {i a} h hi ⟨j, hj⟩ => by
    rcases wh j a hj with ⟨i', q1, q2⟩ | ⟨T1, q1, q2, _⟩
    · have := g.dis i i' a hi q2
      subst this
      exact h ⟨j, _, q1, rfl⟩
    · exact (offT j T1 a q1 q2).1 i hi
  have notB : ∀ {i a}, (¬ ∃ (k : Nat) (r : Rs), rs[k]? = some r ∧ r.root = some i) → a ∈ fs i → ¬ UnF (InF fsB) T a := fun {i a} h hi f => by
    rcases live a f with q | q
    · exact notA h hi q
    · exact g.lives hi q
  have len_of : ∀ {k : Nat} {r : Rs}, rs[k]? = some r → k < rs.length := fun h => (List.getElem?_eq_some_iff.mp h).1
  have notF : ∀ {i j : Nat} {a : Addr}, (¬ ∃ (k : Nat) (r : Rs), rs[k]? = some r ∧ r.root = some i) → a ∈ fs i → j < rs.length → a ∉ ftB j := fun {i j a} h hi hj hf => by
    rcases whB j a hj hf with q | ⟨T1, q1, q2, _⟩
    · exact notB h hi (Or.inl ⟨j, q⟩)
    · exact (offT j T1 a q1 q2).1 i hi
  have gd2 : Good K vs0 B' H' σ (wbL rs ss' ρ) fs2 := by
    refine ⟨gB.ext, by rw [wbL_len]; exact g.len, fun i s h => ?_, fun i h => ?_, fun i j a h1 h2 => ?_, fun i a h => ?_⟩
    · by_cases hx : ∃ (k : Nat) (r : Rs), rs[k]? = some r ∧ r.root = some i
      · obtain ⟨j, r, hj, hr⟩ := hx
        have hj' : j < ss'.length := by rw [hl']; exact len_of hj
        have hs' : ss'[j]? = some ss'[j] := List.getElem?_eq_getElem hj'
        have hj2 : j < ss.length := by rw [hl]; exact len_of hj
        obtain ⟨r', a1, a2⟩ := hg j ss[j] (List.getElem?_eq_getElem hj2)
        rw [hj] at a1
        cases a1
        have hold : ∃ s0, ρ[i]? = some (some s0) := by
          cases r with
          | own _ => cases hr
          | bor i' =>
            cases hr
            unfold argR at a2
            dsimp only at a2
            split at a2
            · rename_i s0 e0; exact ⟨s0, e0⟩
            · cases a2
          | lent i' w k =>
            cases hr
            unfold argR at a2
            dsimp only at a2
            split at a2
            · rename_i t e0; exact ⟨_, e0⟩
            · cases a2
        obtain ⟨s0, hs0⟩ := hold
        rw [wbL_in hnd hj hr hs' (List.getElem?_eq_some_iff.mp hs0).1] at h
        cases h
        obtain ⟨v3, b1, _, b3⟩ := g.at_ i s0 hs0
        have tg : ∀ q, (r.back ss'[j] (tagAt ρ i)).tag = some q → vs0[q]? = some v3 := fun q hq => by
          have ht := Rs.back_tag hq
          unfold tagAt at ht
          rw [hs0] at ht
          exact b3 q ht
        by_cases hlt : ∃ i' w k, r = .lent i' w k
        · obtain ⟨i', w, k, rfl⟩ := hlt
          cases hr
          obtain ⟨v0, c', c1, c2, c3, _⟩ := ftL j i w k hj
          rw [c1] at b1
          cases b1
          rw [hs'] at c2
          cases c2
          exact ⟨_, c1, by rw [f2in hj rfl]; exact c3.retag', tg⟩
        · obtain ⟨v1, q1, q2, _⟩ := gB.at_ j _ (by rw [List.getElem?_map, hs']; rfl)
          obtain ⟨v2, T2, w1, w2, w3⟩ := RsAll.get ok hj
          rw [List.getElem?_map, w1] at q1
          have q1 : v2 = v1 := by simpa using q1
          subst q1
          have hv : σ[i]? = some (some v2) := by
            cases r with
            | own _ => cases hr
            | bor i' => cases hr; exact w3.1
            | lent i' w k => exact (hlt ⟨i', w, k, rfl⟩).elim
          rw [hv] at b1
          cases b1
          refine ⟨_, hv, ?_, tg⟩
          rw [f2in hj hr, ftO j r hj fun i w k e => hlt ⟨i, w, k, e⟩]
          exact Own.back (fun i w k e => hlt ⟨i, w, k, e⟩) q2
      · rw [wbL_out _ _ _ (fun q => hx (mem_roots.mp q))] at h
        obtain ⟨v1, q1, q2, q3⟩ := g.at_ i s h
        refine ⟨v1, q1, ?_, q3⟩
        rw [f2out hx]
        exact q2.keep fr.bb fun a ha => fr.keep a (g.lives ha) (notA hx ha)
    · by_cases hx : ∃ (k : Nat) (r : Rs), rs[k]? = some r ∧ r.root = some i
      · obtain ⟨j, r, hj, hr⟩ := hx
        have hj' : j < ss'.length := by rw [hl']; exact len_of hj
        have hj2 : j < ss.length := by rw [hl]; exact len_of hj
        obtain ⟨r', a1, a2⟩ := hg j ss[j] (List.getElem?_eq_getElem hj2)
        rw [hj] at a1
        cases a1
        have hi : i < ρ.length := by
          cases r with
          | own _ => cases hr
          | bor i' =>
            cases hr
            unfold argR at a2
            dsimp only at a2
            split at a2
            · rename_i s0 e0; exact (List.getElem?_eq_some_iff.mp e0).1
            · cases a2
          | lent i' w k =>
            cases hr
            unfold argR at a2
            dsimp only at a2
            split at a2
            · rename_i t e0; exact (List.getElem?_eq_some_iff.mp e0).1
            · cases a2
        exact (h _ (wbL_in hnd hj hr (List.getElem?_eq_getElem hj') hi)).elim
      · rw [f2out hx]
        rw [wbL_out _ _ _ (fun q => hx (mem_roots.mp q))] at h
        exact g.emp i h
    · by_cases hx : ∃ (k : Nat) (r : Rs), rs[k]? = some r ∧ r.root = some i
      · obtain ⟨p, r, hp, hr⟩ := hx
        rw [f2in hp hr] at h1
        by_cases hy : ∃ (k : Nat) (r : Rs), rs[k]? = some r ∧ r.root = some j
        · obtain ⟨q, r', hq, hr'⟩ := hy
          rw [f2in hq hr'] at h2
          have : p = q := by
            rcases whB p a (len_of hp) h1 with x | ⟨T1, x1, x2, x3⟩
            · rcases whB q a (len_of hq) h2 with y | ⟨T2, y1, y2, y3⟩
              · exact gB.dis p q a x y
              · exact ((rest q T2 a y1 y2 y3).2 (Or.inl ⟨p, x⟩)).elim
            · rcases whB q a (len_of hq) h2 with y | ⟨T2, y1, y2, y3⟩
              · exact ((rest p T1 a x1 x2 x3).2 (Or.inl ⟨q, y⟩)).elim
              · exact flat_injL nd x1 y1 x2 y2
          subst this
          rw [hp] at hq
          cases hq
          rw [hr] at hr'
          cases hr'
          rfl
        · rw [f2out hy] at h2
          exact (notF hy h2 (len_of hp) h1).elim
      · rw [f2out hx] at h1
        by_cases hy : ∃ (k : Nat) (r : Rs), rs[k]? = some r ∧ r.root = some j
        · obtain ⟨q, r', hq, hr'⟩ := hy
          rw [f2in hq hr'] at h2
          exact (notF hx h1 (len_of hq) h2).elim
        · rw [f2out hy] at h2
          exact g.dis i j a h1 h2
    · by_cases hx : ∃ (k : Nat) (r : Rs), rs[k]? = some r ∧ r.root = some i
      · obtain ⟨p, r, hp, hr⟩ := hx
        rw [f2in hp hr] at h
        rcases whB p a (len_of hp) h with x | ⟨T1, x1, x2, x3⟩
        · exact gB.out p a x
        · exact fr.bnew a (offT p T1 a x1 x2).2.1 (rest p T1 a x1 x2 x3).1 (offT p T1 a x1 x2).2.2
      · rw [f2out hx] at h
        exact fr.bnew a (g.lives h) (notA hx h) (g.out i a h)
  have w1 : ∀ a, InF fsA a → UnF (InF fs) Ts.flatten a := by
    rintro a ⟨j, hj⟩
    rcases wh j a hj with ⟨i, q1, q2⟩ | ⟨T1, q1, q2, _⟩
    · exact Or.inl ⟨i, q2⟩
    · exact Or.inr (List.mem_flatten.mpr ⟨T1, List.mem_of_getElem? q1, q2⟩)
  have w2 : ∀ a, UnF (InF fs2) T a → UnF (InF fsB) T a ∨ UnF (InF fs) Ts.flatten a ∨ H a = none := by
    rintro a h
    rcases h with ⟨i, hi⟩ | h
    · by_cases hx : ∃ (k : Nat) (r : Rs), rs[k]? = some r ∧ r.root = some i
      · obtain ⟨p, r, hp, hr⟩ := hx
        rw [f2in hp hr] at hi
        rcases whB p a (len_of hp) hi with x | ⟨T1, x1, x2, x3⟩
        · exact Or.inl (Or.inl ⟨p, x⟩)
        · exact Or.inr (Or.inl (Or.inr (List.mem_flatten.mpr ⟨T1, List.mem_of_getElem? x1, x2⟩)))
      · rw [f2out hx] at hi
        exact Or.inr (Or.inl (Or.inl ⟨i, hi⟩))
    · exact Or.inl (Or.inr h)
  refine ⟨fs2, fr.weak w1 w2, gd2, fun a haT => ⟨(okB a haT).1, fun i hi => ?_⟩⟩
  by_cases hx : ∃ (k : Nat) (r : Rs), rs[k]? = some r ∧ r.root = some i
  · obtain ⟨p, r, hp, hr⟩ := hx
    rw [f2in hp hr] at hi
    rcases whB p a (len_of hp) hi with x | ⟨T1, x1, x2, x3⟩
    · exact (okB a haT).2 p x
    · exact (rest p T1 a x1 x2 x3).2 (Or.inr haT)
  · rw [f2out hx] at hi
    exact notB hx hi (Or.inr haT)
end
end Pd
set_option Elab.async false
set_option linter.all false
set_option maxRecDepth 100000
set_option maxHeartbeats 2000000
namespace Pd
open PySem PySem.Spec PyProof.Rows L2
mutual
def Sl.nofd : Sl → Bool
  | .mr _ l => nofdL l
  | .ob _ _ _ l => nofdL l
  | .tp l => nofdL l
  | .fd _ => false
  | _ => true
def nofdL : List Sl → Bool
  | [] => true
  | s :: r => s.nofd && nofdL r
end
def dropA (B : Hp) (a : Addr) : Hp := fun b => if b = a then none else B b
theorem dropA_ne {B : Hp} {a b : Addr} (h : b ≠ a) : dropA B a b = B b := by unfold dropA; rw [if_neg h]
section
variable {K : PySem.W.Frag} {B H H' : Hp} {a : Addr} {ks : List (Key × V)} {o : Obj}
theorem rd_drop (ha : B a = some (.frz o (.dK ks))) {b : Addr} {u : HO} (hu : ∀ k, u ≠ .dK k) (hf : ∀ o' k, u ≠ .frz o' (.dK k)) (h : Rd B b u) : Rd (dropA B a) b u := by
  rcases h with h | ⟨o', h⟩
  · have n : b ≠ a := fun e => by rw [e, ha] at h; cases h; exact hf _ _ rfl
    exact Or.inl (by rw [dropA_ne n]; exact h)
  · have n : b ≠ a := fun e => by rw [e, ha] at h; cases h; exact hu _ rfl
    exact Or.inr ⟨o', by rw [dropA_ne n]; exact h⟩
theorem sql_drop (ha : B a = some (.frz o (.dK ks))) {b : Addr} {xs : List V} (h : SqL K B b xs) : SqL K (dropA B a) b xs := by
  rcases h with h | h
  · exact Or.inl (rd_drop ha (fun k q => by cases q) (fun o' k q => by cases q) h)
  · exact Or.inr h
theorem sqt_drop (ha : B a = some (.frz o (.dK ks))) {b : Addr} {xs : List V} (h : SqT K B b xs) : SqT K (dropA B a) b xs := by
  rcases h with h | h
  · exact Or.inl (rd_drop ha (fun k q => by cases q) (fun o' k q => by cases q) h)
  · exact Or.inr h
mutual
theorem Dp.drop (ha : B a = some (.frz o (.dK ks))) : ∀ {d : PyData} {v : V}, Dp K B v d → Dp K (dropA B a) v d
  | .none, _, h => by cases h; exact .non
  | .bool b, _, h => by cases h; exact .bl b
  | .int i, _, h => by cases h; exact .int i
  | .str x, _, h => by cases h; exact .str x
  | .list ds, _, h => by
    cases h with
    | lst h1 h2 => exact .lst (sql_drop ha h1) (DpAll.dropB ha h2)
  | .tuple ds, _, h => by
    cases h with
    | tup h1 h2 => exact .tup (sqt_drop ha h1) (DpAll.dropB ha h2)
  | .dict _, _, h => by cases h
theorem DpAll.dropB (ha : B a = some (.frz o (.dK ks))) : ∀ {ds : List PyData} {vs : List V}, DpAll K B vs ds → DpAll K (dropA B a) vs ds
  | [], _, h => by cases h; exact .nil
  | d :: ds, _, h => by
    cases h with
    | cons h1 h2 => exact .cons (Dp.drop ha h1) (DpAll.dropB ha h2)
end
theorem KvD.drop (ha : B a = some (.frz o (.dK ks))) {kvs : List (Key × V)} {l : List (Key × D)} (h : KvD K B kvs l) : KvD K (dropA B a) kvs l :=
  Paired.mapP h fun p q r => ⟨r.1, Dp.drop ha r.2⟩
theorem ExIs.drop (ha : B a = some (.frz o (.dK ks))) {v : V} {c : Str} : ∀ {f : Option (Str × D)}, ExIs K B v c f → ExIs K (dropA B a) v c f
  | none, h => by
    obtain ⟨b, C, h1, h2, h3⟩ := h
    have n : b ≠ a := fun e => by rw [e, ha] at h3; cases h3
    exact ⟨b, C, h1, h2, by rw [dropA_ne n]; exact h3⟩
  | some (x, d), h => by
    rcases h with ⟨h0, b, C, dx, u, h1, h2, h3, h4, h5⟩ | ⟨h0, b, o, ys, l, h1, h2, h3, h4, h5⟩
    · have n : b ≠ a := fun e => by rw [e, ha] at h3; cases h3
      have n2 : dx ≠ a := fun e => by rw [e, ha] at h4; cases h4
      exact Or.inl ⟨h0, b, C, dx, u, h1, h2, by rw [dropA_ne n]; exact h3, by rw [dropA_ne n2]; exact h4, Dp.drop ha h5⟩
    · have n : b ≠ a := fun e => by rw [e, ha] at h2; cases h2
      exact Or.inr ⟨h0, b, o, ys, l, h1, by rw [dropA_ne n]; exact h2, h3, h4, DpAll.dropB ha h5⟩
mutual
theorem Own.dropA (ha : B a = some (.frz o (.dK ks))) : ∀ {s : Sl} {v : V} {T : List Addr}, s.nofd = true → Own K B H v s T → (∀ b ∈ T, H' b = H b) → Own K (dropA B a) H' v s T
  | .p d, v, T, _, h, k => ⟨Dp.drop ha h.1, h.2⟩
  | .ml t l, v, T, _, h, k => by
    obtain ⟨a, xs, rfl, rfl, h1, h2⟩ := h
    exact ⟨a, xs, rfl, rfl, by rw [k a (by simp)]; exact h1, DpAll.dropB ha h2⟩
  | .md t l, v, T, _, h, k => by
    obtain ⟨a, xs, rfl, rfl, h1, h2⟩ := h
    exact ⟨a, xs, rfl, rfl, by rw [k a (by simp)]; exact h1, KvD.drop ha h2⟩
  | .mr t l, v, T, n, h, k => by
    obtain ⟨a, xs, Ts, rfl, rfl, h1, h2, h3⟩ := h
    exact ⟨a, xs, Ts, rfl, rfl, by rw [k a (by simp)]; exact h1, OwnL.dropA ha n h2 (fun b hb => k b (List.mem_cons_of_mem _ hb)), h3⟩
  | .ob t c ns l, v, T, n, h, k => by
    obtain ⟨a, dx, C, vs, Ts, rfl, rfl, h1, h2, h3, h4, h5, h6⟩ := h
    exact ⟨a, dx, C, vs, Ts, rfl, rfl, h1, by rw [k a (by simp)]; exact h2, h3, by rw [k dx (by simp)]; exact h4, OwnL.dropA ha n h5 (fun b hb => k b (List.mem_cons_of_mem _ (List.mem_cons_of_mem _ hb))), h6⟩
  | .ex c f, v, T, _, h, k => ⟨ExIs.drop ha h.1, h.2⟩
  | .fd l, v, T, n, h, k => by cases n
  | .hl _, v, T, _, h, k => h
  | .tp l, v, T, n, h, k => by
    obtain ⟨b, xs, Ts, rfl, rfl, h1, h2, h3⟩ := h
    have nb : b ≠ a := fun e => by rw [e, ha] at h1; cases h1
    exact ⟨b, xs, Ts, rfl, rfl, by rw [dropA_ne nb]; exact h1, OwnL.dropA ha n h2 k, h3⟩
theorem OwnL.dropA (ha : B a = some (.frz o (.dK ks))) : ∀ {ss : List Sl} {vs : List V} {Ts : List (List Addr)}, nofdL ss = true → OwnL K B H vs ss Ts → (∀ b ∈ Ts.flatten, H' b = H b) → OwnL K (dropA B a) H' vs ss Ts
  | [], [], [], _, _, _ => True.intro
  | s :: ss, v :: vs, T :: Ts, n, h, k => by
    unfold nofdL at n
    rw [Bool.and_eq_true] at n
    exact ⟨Own.dropA ha n.1 h.1 (fun a ha => k a (by rw [List.flatten_cons]; exact List.mem_append_left _ ha)), OwnL.dropA ha n.2 h.2 (fun a ha => k a (by rw [List.flatten_cons]; exact List.mem_append_right _ ha))⟩
  | [], [], _ :: _, _, h, _ => h.elim
  | [], _ :: _, _, _, h, _ => h.elim
  | _ :: _, [], _, _, h, _ => h.elim
  | _ :: _, _ :: _, [], _, h, _ => h.elim
end
end
theorem PE.or {X : Cx} {e : Expr} {t t' : TE} (h : PE X e t) (h' : PE X e t') : PE X e (fun σ H Q => t σ H Q ∨ t' σ H Q) := ⟨fun pins s σ H Q I q => by
  rcases q with q | q
  · exact h.run pins s σ H Q I q
  · exact h'.run pins s σ H Q I q⟩
section
variable {K : PySem.W.Frag} {vs0 : List V}
variable {X : Cx}
theorem KvD.get {B : Hp} : ∀ {ks : List (Key × V)} {l : List (Key × D)} {i : Nat} {p : Key × D}, KvD K B ks l → l[i]? = some p → ∃ v, ks[i]? = some (p.1, v) ∧ Dp K B v p.2 := by
  intro ks l i p h
  unfold KvD at h
  induction h generalizing i with
  | nil => intro q; simp at q
  | @cons a b as bs h t ih =>
    intro q
    cases i with
    | zero =>
      simp at q
      subst q
      obtain ⟨a1, a2⟩ := a
      obtain ⟨h1, h2⟩ := h
      dsimp only at h1 h2
      subst h1
      exact ⟨a2, rfl, h2⟩
    | succ i => simpa using ih (i := i) (by simpa using q)
variable {tg e : Expr} {apos cpos : Pos}
end
end Pd
set_option Elab.async false
set_option linter.all false
set_option maxRecDepth 100000
set_option maxHeartbeats 1000000
namespace Pd
open PySem PySem.Spec PyProof.Rows L2
namespace B
section
variable {ρ : Env}
@[simp] theorem nofd_p {d : D} : (Sl.p d).nofd = true := rfl
@[simp] theorem nofd_ml {t : Option Nat} {l : List D} : (Sl.ml t l).nofd = true := rfl
@[simp] theorem nofd_md {t : Option Nat} {l : List (Key × D)} : (Sl.md t l).nofd = true := rfl
end
end B
end Pd
set_option Elab.async false
set_option linter.all false
set_option maxRecDepth 100000
set_option maxHeartbeats 1000000
set_option Elab.async false
set_option linter.all false
set_option maxRecDepth 100000
set_option maxHeartbeats 1000000
set_option Elab.async false
set_option linter.all false
set_option maxRecDepth 100000
set_option maxHeartbeats 1000000
set_option Elab.async false
set_option linter.all false
set_option maxRecDepth 100000
set_option maxHeartbeats 1000000
set_option Elab.async false
set_option linter.all false
set_option maxRecDepth 100000
set_option maxHeartbeats 2000000
set_option Elab.async false
set_option linter.all false
set_option maxRecDepth 100000
set_option maxHeartbeats 2000000
namespace Pd
open PySem PySem.Spec PyProof.Rows L2
structure CalleeM (P : Program) (w : World) (K : PySem.W.Frag) (mg : Str → Option Value) (base : Heap) (k : Nat) (c m : Str) (n : Nat) (F : List Sl → Option (Sl × List Sl)) : Prop where
  ex : ∃ C f fd ps, PySem.W.nsIn K mainGlobals c = some (some (.ref C)) ∧ Cls K C ∧ Meth K C m f ∧ FnOk P w K mg base CX0 k f fd ps (spD K n F) ∧ Binds K fd ps []
end Pd
set_option Elab.async false
set_option linter.all false
set_option maxRecDepth 100000
set_option maxHeartbeats 2000000
namespace Pd
open PySem PySem.Spec PyProof.Rows L2
def Sl.dat : Sl → Option D
  | .p d => some d
  | .ml _ l => some (.list l)
  | _ => none
end Pd
set_option Elab.async false
set_option linter.all false
set_option maxRecDepth 100000
set_option maxHeartbeats 2000000
namespace Pd
open PySem PySem.Spec PyProof.Rows L2
structure AttrIs (K : PySem.W.Frag) (c f : Str) : Prop where
  ex : ∃ C, PySem.W.nsIn K mainGlobals c = some (some (.ref C)) ∧ Cls K C ∧ NoAttr K C f
end Pd
set_option Elab.async false
set_option linter.all false
set_option maxRecDepth 100000
set_option maxHeartbeats 2000000
set_option Elab.async false
set_option linter.all false
set_option maxRecDepth 100000
set_option maxHeartbeats 2000000
set_option Elab.async false
set_option linter.all false
set_option maxRecDepth 100000
set_option maxHeartbeats 2000000
namespace Pd
open PySem PySem.Spec PyProof.Rows L2
structure CalleeC (P : Program) (w : World) (K : PySem.W.Frag) (mg : Str → Option Value) (base : Heap) (k : Nat) (x c : Str) (n : Nat) (F : List Sl → Option (Sl × List Sl)) : Prop where
  ex : ∃ C f fd ps, PySem.W.nsIn K mainGlobals c = some (some (.ref C)) ∧ Mk K C f ∧ FnOk P w K mg base CX0 k f fd ps (spD K n F) ∧ mg x = some (.ref C) ∧ Binds K fd ps []
end Pd
set_option Elab.async false
set_option linter.all false
set_option maxRecDepth 100000
set_option maxHeartbeats 2000000
set_option Elab.async false
set_option linter.all false
set_option maxRecDepth 100000
set_option maxHeartbeats 2000000
set_option Elab.async false
set_option linter.all false
set_option maxRecDepth 100000
set_option maxHeartbeats 2000000
set_option Elab.async false
set_option linter.all false
set_option maxRecDepth 100000
set_option maxHeartbeats 2000000
set_option Elab.async false
set_option linter.all false
set_option maxRecDepth 100000
set_option maxHeartbeats 1000000
set_option Elab.async false
set_option linter.all false
set_option maxRecDepth 100000
set_option maxHeartbeats 1000000
set_option Elab.async false
set_option linter.all false
set_option maxRecDepth 100000
set_option maxHeartbeats 1000000
namespace Pd
open PySem PySem.Spec PyProof.Rows L2
namespace B
section
variable {ρ : Env}
@[simp] theorem argL_nil : argL [] ρ = some [] := rfl
@[simp] theorem argL_cons {r : Rs} {rs : List Rs} : argL (r :: rs) ρ = (argR r ρ).bind fun s => (argL rs ρ).map (s :: ·) := by
  rw [argL]
  cases argR r ρ with
  | none => rfl
  | some s => cases argL rs ρ <;> rfl
@[simp] theorem argR_own {s : Sl} : argR (.own s) ρ = some s := rfl
def slotB : Option (Option Sl) → Option Sl
  | some (some s) => some s.bare
  | _ => none
@[simp] theorem slotB_s {s : Sl} : slotB (some (some s)) = some s.bare := rfl
@[simp] theorem argR_bor {i : Nat} : argR (.bor i) ρ = slotB ρ[i]? := by
  unfold argR slotB
  dsimp only
  all_goals (split <;> simp_all)
def slotH (s : Sl) (k : List Nat) : Option (Option Sl) → Option Sl
  | some (some (.hl _)) => (s.kid k).map Sl.bare
  | _ => none
@[simp] theorem slotH_h {s : Sl} {k : List Nat} {t : Option Nat} : slotH s k (some (some (.hl t))) = (s.kid k).map Sl.bare := rfl
@[simp] theorem argR_lent {i : Nat} {k : List Nat} {s : Sl} : argR (.lent i s k) ρ = slotH s k ρ[i]? := by
  unfold argR slotH
  dsimp only
  all_goals (split <;> simp_all)
@[simp] theorem kid1_ob {t : Option Nat} {c : Str} {ns : List Str} {l : List Sl} {k : Nat} : (Sl.ob t c ns l).kid1 k = l[k]? := rfl
@[simp] theorem kid1_mr {t : Option Nat} {l : List Sl} {k : Nat} : (Sl.mr t l).kid1 k = l[k]? := rfl
@[simp] theorem setKid_nil {s c : Sl} : s.setKid [] c = c := rfl
theorem set_none {α : Type} {l : List α} {k : Nat} {c : α} (h : l[k]? = none) : l.set k c = l := by
  have : l.length ≤ k := by simpa using h
  exact List.set_eq_of_length_le this
@[simp] theorem setKid_ob {t : Option Nat} {c : Str} {ns : List Str} {l : List Sl} {k : Nat} {s : Sl} : (Sl.ob t c ns l).setKid [k] s = .ob t c ns (l.set k s) := by
  show (match l[k]? with
    | some d => (Sl.ob t c ns l).setKid1 k s
    | none => Sl.ob t c ns l) = _
  cases h : l[k]? with
  | none => rw [set_none h]
  | some d => rfl
@[simp] theorem setKid_mr {t : Option Nat} {l : List Sl} {k : Nat} {s : Sl} : (Sl.mr t l).setKid [k] s = .mr t (l.set k s) := by
  show (match l[k]? with
    | some d => (Sl.mr t l).setKid1 k s
    | none => Sl.mr t l) = _
  cases h : l[k]? with
  | none => rw [set_none h]
  | some d => rfl
def updK (l : List Sl) (k : Nat) (f : Sl → Sl) : List Sl := match l[k]? with
  | some d => l.set k (f d)
  | none => l
@[simp] theorem updK_0 {a : Sl} {l : List Sl} {f : Sl → Sl} : updK (a :: l) 0 f = f a :: l := rfl
@[simp] theorem updK_s {a : Sl} {l : List Sl} {k : Nat} {f : Sl → Sl} : updK (a :: l) (k + 1) f = a :: updK l k f := by
  unfold updK
  rw [List.getElem?_cons_succ]
  cases l[k]? <;> rfl
@[simp] theorem setKid_obS {t : Option Nat} {c : Str} {ns : List Str} {l : List Sl} {k j : Nat} {ks : List Nat} {s : Sl} : (Sl.ob t c ns l).setKid (k :: j :: ks) s = .ob t c ns (updK l k fun d => d.setKid (j :: ks) s) := by
  show (match l[k]? with
    | some d => (Sl.ob t c ns l).setKid1 k (d.setKid (j :: ks) s)
    | none => Sl.ob t c ns l) = _
  unfold updK
  cases h : l[k]? <;> rfl
@[simp] theorem setKid_mrS {t : Option Nat} {l : List Sl} {k j : Nat} {ks : List Nat} {s : Sl} : (Sl.mr t l).setKid (k :: j :: ks) s = .mr t (updK l k fun d => d.setKid (j :: ks) s) := by
  show (match l[k]? with
    | some d => (Sl.mr t l).setKid1 k (d.setKid (j :: ks) s)
    | none => Sl.mr t l) = _
  unfold updK
  cases h : l[k]? <;> rfl
@[simp] theorem roots_nil : roots [] = [] := rfl
@[simp] theorem roots_own {s : Sl} {r : List Rs} : roots (.own s :: r) = roots r := rfl
@[simp] theorem roots_bor {i : Nat} {r : List Rs} : roots (.bor i :: r) = i :: roots r := rfl
@[simp] theorem roots_lent {i : Nat} {k : List Nat} {s : Sl} {r : List Rs} : roots (.lent i s k :: r) = i :: roots r := rfl
@[simp] theorem wbL_nil {ss : List Sl} : wbL [] ss ρ = ρ := by simp [wbL]
@[simp] theorem wbL_own {s s' : Sl} {r : List Rs} {ss : List Sl} : wbL (.own s :: r) (s' :: ss) ρ = wbL r ss ρ := rfl
@[simp] theorem wbL_bor {i : Nat} {s' : Sl} {r : List Rs} {ss : List Sl} : wbL (.bor i :: r) (s' :: ss) ρ = wbL r ss (ρ.set i (some (s'.retag (tagAt ρ i)))) := rfl
@[simp] theorem wbL_lent {i : Nat} {k : List Nat} {s s' : Sl} {r : List Rs} {ss : List Sl} : wbL (.lent i s k :: r) (s' :: ss) ρ = wbL r ss (ρ.set i (some ((s.setKid k s').retag (tagAt ρ i)))) := rfl
@[simp] theorem retag_hl {t t' : Option Nat} : (Sl.hl t').retag t = .hl t := rfl
@[simp] theorem tag_hl {t : Option Nat} : (Sl.hl t).tag = t := rfl
end
end B
end Pd
set_option Elab.async false
set_option linter.all false
set_option maxRecDepth 100000
set_option maxHeartbeats 1000000
set_option Elab.async false
set_option linter.all false
set_option maxRecDepth 100000
set_option maxHeartbeats 1000000
namespace Pd
open PySem PySem.Spec PyProof.Rows L2
namespace B
def outX (Q : Fl → Env → Prop) (J : Env → Prop) (ρ : Env) : Fl → Prop
  | .nx => J ρ
  | .ct => J ρ
  | .bk => Q .nx ρ
  | .rt s => Q (.rt s) ρ
@[simp] theorem outX_nx {Q : Fl → Env → Prop} {J : Env → Prop} {ρ : Env} : outX Q J ρ .nx = J ρ := rfl
@[simp] theorem outX_ct {Q : Fl → Env → Prop} {J : Env → Prop} {ρ : Env} : outX Q J ρ .ct = J ρ := rfl
@[simp] theorem outX_bk {Q : Fl → Env → Prop} {J : Env → Prop} {ρ : Env} : outX Q J ρ .bk = Q .nx ρ := rfl
@[simp] theorem outX_rt {Q : Fl → Env → Prop} {J : Env → Prop} {ρ : Env} {s : Sl} : outX Q J ρ (.rt s) = Q (.rt s) ρ := rfl
theorem envQ_mono {P P' : Env → Prop} (i : ∀ ρ, P ρ → P' ρ) : ∀ {o : Option Env}, envQ P o → envQ P' o
  | some ρ, h => i ρ h
  | none, h => h
theorem ev_loopX_inv {t : D → Env → Option Env} {body : M Fl} {Q : Fl → Env → Prop} (all : List D) (I : List D → Env → Prop)
    (hs : ∀ done d r ρ, all = done ++ d :: r → I done ρ → envQ (fun ρ1 => Ev body ρ1 fun fl ρ2 => outX Q (I (done ++ [d])) ρ2 fl) (t d ρ)) (hd : ∀ ρ', I all ρ' → Q .nx ρ') :
    ∀ (rest done : List D) (ρ : Env), all = done ++ rest → I done ρ → Ev (loopD t body rest) ρ Q
  | [], done, ρ, ha, h0 => ev_loop_nil.mpr (hd ρ (by rw [ha]; simpa using h0))
  | d :: rest, done, ρ, ha, h0 => ev_loop_cons.mpr (envQ_mono (fun ρ1 h => h.mono fun fl ρ2 q => by
    cases fl with
    | nx => exact ev_loopX_inv all I hs hd rest (done ++ [d]) ρ2 (by rw [ha]; simp) q
    | ct => exact ev_loopX_inv all I hs hd rest (done ++ [d]) ρ2 (by rw [ha]; simp) q
    | bk => exact q
    | rt s => exact q) (hs done d rest ρ ha h0))
theorem ev_loopX {t : D → Env → Option Env} {body : M Fl} {Q : Fl → Env → Prop} {l : List D} {ρ : Env} (I : List D → Env → Prop) (h0 : I [] ρ)
    (hs : ∀ done d r ρ, l = done ++ d :: r → I done ρ → envQ (fun ρ1 => Ev body ρ1 fun fl ρ2 => outX Q (I (done ++ [d])) ρ2 fl) (t d ρ)) (hd : ∀ ρ', I l ρ' → Q .nx ρ') : Ev (loopD t body l) ρ Q :=
  ev_loopX_inv l I hs hd l [] ρ rfl h0
end B
end Pd
set_option Elab.async false
set_option linter.all false
set_option maxRecDepth 100000
set_option maxHeartbeats 1000000
namespace Pd
open PySem PySem.Spec PyProof.Rows L2
open B (envQ_mono)
def outX (Q : Fl → Env → Prop) [Fx Q] (J : Env → Prop) (ρ : Env) (o0 : Fl) : Prop := B.outX Q J ρ o0
@[simp] theorem outX_nx {Q : Fl → Env → Prop} {J : Env → Prop} {ρ : Env} : outX Q J ρ .nx = J ρ := B.outX_nx
@[simp] theorem outX_ct {Q : Fl → Env → Prop} {J : Env → Prop} {ρ : Env} : outX Q J ρ .ct = J ρ := B.outX_ct
@[simp] theorem outX_bk {Q : Fl → Env → Prop} {J : Env → Prop} {ρ : Env} : outX Q J ρ .bk = Q .nx ρ := B.outX_bk
@[simp] theorem outX_rt {Q : Fl → Env → Prop} {J : Env → Prop} {ρ : Env} {s : Sl} : outX Q J ρ (.rt s) = Q (.rt s) ρ := B.outX_rt
theorem ev_loopX_inv {t : D → Env → Option Env} {body : M Fl} {Q : Fl → Env → Prop} (all : List D) (I : List D → Env → Prop)
    (hs : ∀ done d r ρ, all = done ++ d :: r → I done ρ → envQ (fun ρ1 => Ev body ρ1 fun fl ρ2 => outX Q (I (done ++ [d])) ρ2 fl) (t d ρ)) (hd : ∀ ρ', I all ρ' → Q .nx ρ') :
    ∀ (rest done : List D) (ρ : Env), all = done ++ rest → I done ρ → Ev (loopD t body rest) ρ Q := B.ev_loopX_inv all I hs hd
theorem ev_loopX {t : D → Env → Option Env} {body : M Fl} {Q : Fl → Env → Prop} {l : List D} {ρ : Env} (I : List D → Env → Prop) (h0 : I [] ρ)
    (hs : ∀ done d r ρ, l = done ++ d :: r → I done ρ → envQ (fun ρ1 => Ev body ρ1 fun fl ρ2 => outX Q (I (done ++ [d])) ρ2 fl) (t d ρ)) (hd : ∀ ρ', I l ρ' → Q .nx ρ') : Ev (loopD t body l) ρ Q := B.ev_loopX I h0 hs hd
end Pd
set_option Elab.async false
set_option linter.all false
set_option maxRecDepth 100000
set_option maxHeartbeats 2000000
set_option Elab.async false
set_option linter.all false
set_option maxRecDepth 100000
set_option maxHeartbeats 2000000
set_option Elab.async false
set_option linter.all false
set_option maxRecDepth 100000
set_option maxHeartbeats 1000000
set_option Elab.async false
set_option linter.all false
set_option maxRecDepth 100000
set_option maxHeartbeats 1000000
set_option Elab.async false
set_option linter.all false
set_option maxRecDepth 100000
set_option maxHeartbeats 1000000
set_option Elab.async false
set_option linter.all false
set_option maxRecDepth 100000
set_option maxHeartbeats 1000000
namespace Pd
open PySem PySem.Spec PyProof.Rows L2
@[simp] theorem viewAll_dummy : viewAll [] [] = some [] := rfl
end Pd
set_option Elab.async false
set_option linter.all false
set_option maxRecDepth 100000
set_option maxHeartbeats 1000000
set_option Elab.async false
set_option linter.all false
set_option maxRecDepth 100000
set_option maxHeartbeats 1000000
set_option Elab.async false
set_option linter.all false
set_option maxRecDepth 100000
set_option maxHeartbeats 1000000
namespace Pd
open PySem PySem.Spec PyProof.Rows L2
def pk {α : Type} (d : α) (js : List Nat) (l : List α) : List α := js.map fun j => l.getD j d
structure CalleeP (P : Program) (w : World) (K : PySem.W.Frag) (mg : Str → Option Value) (base : Heap) (k : Nat) (x : Str) (n : Nat) (F : List Sl → Option (Sl × List Sl)) (ks : List Str) (js : List Nat) : Prop where
  ex : ∃ (f : Addr) (fd : FuncData) (ps : List Str), FnOk P w K mg base CX0 k f fd ps (spD K n F) ∧ mg x = some (.ref f) ∧ PySem.W.keepIn K (.ref f) = true ∧ ∀ (s : Shared) (ws : List Value), ws.length = js.length → BindsTo s fd ⟨[], ks.zip ws⟩ (ps.zip (pk .none js ws))
structure CalleeMP (P : Program) (w : World) (K : PySem.W.Frag) (mg : Str → Option Value) (base : Heap) (k : Nat) (c m : Str) (n : Nat) (F : List Sl → Option (Sl × List Sl)) (ks : List Str) (js : List Nat) : Prop where
  ex : ∃ (C f : Addr) (fd : FuncData) (ps : List Str), PySem.W.nsIn K mainGlobals c = some (some (.ref C)) ∧ Cls K C ∧ Meth K C m f ∧ FnOk P w K mg base CX0 k f fd ps (spD K n F) ∧ ∀ (s : Shared) (a : Value) (ws : List Value), ws.length = js.length → BindsTo s fd ⟨[a], ks.zip ws⟩ (ps.zip (a :: pk .none js ws))
structure CalleeCP (P : Program) (w : World) (K : PySem.W.Frag) (mg : Str → Option Value) (base : Heap) (k : Nat) (x c : Str) (n : Nat) (F : List Sl → Option (Sl × List Sl)) (ks : List Str) (js : List Nat) : Prop where
  ex : ∃ (C f : Addr) (fd : FuncData) (ps : List Str), PySem.W.nsIn K mainGlobals c = some (some (.ref C)) ∧ Mk K C f ∧ FnOk P w K mg base CX0 k f fd ps (spD K n F) ∧ mg x = some (.ref C) ∧ ks.length = js.length ∧ ∀ (s : Shared) (a : Value) (ws : List Value), ws.length = js.length → BindsTo s fd ⟨[a], ks.zip ws⟩ (ps.zip (a :: pk .none js ws))
@[simp] theorem pk_nil {α : Type} {d : α} {l : List α} : pk d [] l = [] := rfl
@[simp] theorem pk_cons' {α : Type} {d : α} {l : List α} {j : Nat} {js : List Nat} : pk d (j :: js) l = l.getD j d :: pk d js l := rfl
end Pd
set_option Elab.async false
set_option linter.all false
set_option maxRecDepth 100000
set_option maxHeartbeats 1000000
set_option Elab.async false
set_option linter.all false
set_option maxRecDepth 100000
set_option maxHeartbeats 1000000
namespace Pd
open PySem PySem.Spec PyProof.Rows L2
section
variable {X : Cx} {pins : List (Addr × Obj)} {σ : L2.St} {H : Hp} {s : Shared} {a : Addr}
theorem track_ext {φ : Heap → Prop} (I : Inv X pins σ H s) (na : H a = none) (n0 : X.s_0.heap.get? a = none) (nL : a ≠ X.env.locals) (nc : ∀ v, ¬ s.heap.IsCell a v) (np : ∀ p ∈ X.pn ++ pins, p.1 ≠ a)
    (new : ObjOk X.prog X.w (upd H a (.ext φ)) s.heap a (.ext φ)) : Inv X pins σ (upd H a (.ext φ)) s := by
  have old : ∀ {b : Addr} {u : HO}, H b = some u → upd H a (.ext φ) b = some u := fun {b u} e => by
    have : b ≠ a := fun z => by rw [z, na] at e; cases e
    rw [upd_ne this, e]
  refine ⟨I.ok, I.os, I.bare, ⟨I.base.keep, I.base.slot, fun b o e n hb => ?_, I.base.there, fun b xs e => old (I.base.tups b xs e), fun b o u e => old (I.base.frzs b o u e), fun b ps e => ?_⟩, I.loc, I.cell, ?_, fun x c e => ?_, fun p hp => ?_, ?_, I.len⟩
  · have : b ≠ a := fun z => by rw [z, n0] at e; cases e
    rw [upd_ne this]
    exact I.base.free b o e n hb
  · obtain ⟨more, q⟩ := I.base.tbls b ps e
    exact ⟨more, old q⟩
  · rw [upd_ne (fun z => nL z.symm)]
    exact I.free
  · obtain ⟨v, q⟩ := I.cell x c e
    have : c ≠ a := fun z => nc v (z ▸ q)
    rw [upd_ne this]
    exact I.freeC x c e
  · obtain ⟨q1, q2, q3⟩ := I.pin p hp
    refine ⟨q1, ?_, q3⟩
    rw [upd_ne (np p hp)]
    exact q2
  · exact I.hok.laidN (fun _ _ q => q) na new
theorem exV_ok {P : Program} {w : World} {H : Hp} {h : Heap} {cls : Value} {d : Option Addr} {oe : Obj} {vs : Array Value} (e : h.get? a = some oe) (z : Zc cls d oe) (hd : oe.data = .fields vs) : ObjOk P w H h a (ExV cls d a) :=
  ⟨⟨oe, vs, e, z.1, z.2, hd⟩, ⟨oe, e⟩, fun _ _ ⟨o, v, q, r⟩ k => ⟨o, v, k o q, r⟩⟩
end
def wAsV (K : PySem.W.Frag) (c : Value) (i : Nat) (ts : Addr → Value → Option Addr → L2.TS) (Wout : WX) (D : Ends) : WX := fun cls d σ H =>
  ∃ b, PySem.W.exmOne K cls c = some b ∧ (b = true → ∀ a, H a = none → ts a cls d
    { nx := fun σ' H' => H' a = none → D.nx (σ'.set i none) (upd H' a (ExV cls d a)), rt := fun v H' => H' a = none → D.rt v (upd H' a (ExV cls d a)), bk := fun σ' H' => H' a = none → D.bk (σ'.set i none) (upd H' a (ExV cls d a)), ct := fun σ' H' => H' a = none → D.ct (σ'.set i none) (upd H' a (ExV cls d a)) } (σ.set i (some (.ref a))) H) ∧
    (b = false → Wout cls d σ H)
section
variable {X : Cx} {x n : Str} {c : Value} {i : Nat} {body suite : List Stmt} {b₀ : Stmt} {np pos pos' : Pos} {tb : WX → L2.TS} {ts : Addr → Value → Option Addr → L2.TS} {Wout : WX}
theorem ps_try_keep (hs : X.stack = X.env :: X.outer) (hf : X.env.frame = some X.env.locals) (hex : X.ex = []) (hN : X.N.Nodup) (hi : X.N[i]? = some n) (hln : X.env.kindOf n = some .local) (hc : Names X x c) (tk : Takes X Wout)
    (hb : ∀ (W : WX) (pn : List (Addr × Obj)) (xe : Value → Shared → Prop), Takes (X.tr pn xe) W → PassesOwn (model X.prog X.w) X.A X.env xe → PSs (X.tr pn xe) body (tb W))
    (hsu : ∀ (a : Addr) (oe : Obj) (cls : Value) (d : Option Addr) (pn : List (Addr × Obj)), Zc cls d oe → (∃ vs, oe.data = .fields vs) → PSs (X.suite a ((a, oe) :: pn)) (b₀ :: suite) (ts a cls d)) :
    PS X (.Try body [.ExceptHandler (some (.Name x np)) (some n) (b₀ :: suite) pos'] [] [] pos) (fun D σ H => tb (wAsV X.K c i ts Wout D) D σ H) := by
  refine ⟨fun pins s σ H D I h => ?_⟩
  have ok := I.ok
  have frames : X.A.frames = some (X.env :: X.outer) := by rw [← hs]; exact ok.frames
  have loc : Loc X.env.scope n := Or.inl hln
  refine wpAny_Try_except ?_
  refine wpAny_mono ((hb (wAsV X.K c i ts Wout D) (X.pn ++ pins) (fun e s₁ => wpAny (model X.prog X.w) X.A (noteFrame e X.env) (fun _ s₂ => wpAny (model X.prog X.w) X.A (setFlight e none) (fun _ s₃ =>
    wpAny (model X.prog X.w) X.A (handleBy e X.env [.ExceptHandler (some (.Name x np)) (some n) (b₀ :: suite) pos']) (SP X pins D) X.xe s₃) X.xe s₂) X.xe s₁) ?_ PassesOwn.looking).run [] s σ H D (I.toTry _) h) ?_ fun _ _ z => z
  ·
    intro u s' xx
    obtain ⟨a, B, sI, pins', σ', H', cls, d, rfl, J0, nb, up, sky, na, os, ag, b, hb1, hyes, hno⟩ := xx
    have J : Inv X pins σ' H' sI := J0.ofTry ok
    rw [hs] at sky
    show wpAny (model X.prog X.w) X.A (noteFrame (.ref a) X.env) _ _ _
    refine Sky.land Zc.steady frames hf sky ?_
    intro h3 fl3 up3
    have J3 : Inv X pins σ' H' { s' with heap := h3 } := J.landed nb fl3.1 (up.trans up3) os ag
    obtain ⟨oe3, vs3, he3, hz3, hd3⟩ := fl3.there
    have out : a ∉ frs (X.env :: X.outer) := by
      intro hm
      obtain ⟨_, o', e', no⟩ := fl3.2.2.1.mem hm
      rw [he3] at e'
      cases e'
      exact no _ hd3
    have nL : a ≠ X.env.locals := fun z => out (List.mem_filterMap.mpr ⟨X.env, List.mem_cons_self, by rw [hf, z]⟩)
    have nF : a ∉ X.fs := by
      intro hm
      obtain ⟨e, he, q⟩ := List.mem_filterMap.mp hm
      exact out (List.mem_filterMap.mpr ⟨e, List.mem_cons_of_mem _ he, q⟩)
    have nI : sI.heap.get? a = none := by
      cases q : sI.heap.get? a with
      | none => rfl
      | some o =>
        have z := nb a o q (by rw [hs]; exact out)
        rw [fl3.2.1] at z
        cases z
    have n0 : X.s_0.heap.get? a = none := by
      cases q : X.s_0.heap.get? a with
      | none => rfl
      | some o =>
        obtain ⟨o', z⟩ := J.base.there a o q (by rw [hex]; exact List.not_mem_nil)
        rw [nI] at z
        cases z
    have hnp : ∀ p ∈ X.pn ++ pins, p.1 ≠ a := fun p hp z => by
      have := (J.pin p hp).1
      rw [z, nI] at this
      cases this
    have S3 := J3.suite he3 hd3 na nL nF
    refine wpAny_handleBy_cons (codeAny_handlers_test ?_) (by intro q; cases q)
    have LT : PySem.W.Looks (model X.prog X.w) h3 (typeOf (.ref a)) cls := fun A Q E s k q => wpAny_typeOf_ref (k _ _ he3) (by rw [hz3.1]; exact q)
    have LM := PySem.W.exm_one (M := model X.prog X.w) (J3.kIn) LT hb1
    have test : ∀ {Q : Value → Shared → Prop} {E : Value → Shared → Prop}, Q c { s' with heap := h3 } → wpAny (model X.prog X.w) (X.A.mark (some (.ref a))) (eval (.Name x np) X.env) Q E { s' with heap := h3 } := by
      intro Q E q
      obtain ⟨hg, hdbg, hm | ⟨hm, hv, hnn⟩⟩ := hc
      · exact ld_glob (X := X.suite a ((a, oe3) :: (X.pn ++ pins))) S3 hg hm q hdbg
      · exact ld_blt (X := X.suite a ((a, oe3) :: (X.pn ++ pins))) S3 hg hm hv q hnn hdbg
    refine test (LM.here ?_)
    cases b with
    | true =>
      refine codeAny_handlers_suite_as ?_
      refine HandSPX.lands_againZ fl3 ?_
      intro h4 fl4 up4
      have J4 : Inv X pins σ' H' { s' with heap := h4 } := J.landed nb fl4.1 ((up.trans up3).trans up4) os ag
      obtain ⟨oe4, vs4, he4, hz4, hd4⟩ := fl4.there
      have S4 := J4.suite he4 hd4 na nL nF
      refine store_ok (X := X.suite a ((a, oe4) :: (X.pn ++ pins))) (v := .ref a) S4 hN hi loc rfl (fun s5 S5 => ?_) (.inr hln)
      refine wpAny_mono ((hsu a oe4 cls d (X.pn ++ pins) hz4 ⟨_, hd4⟩).run [] s5 _ H' _ S5 (hyes rfl a na)) ?_ fun _ _ z => False.elim z
      intro f s6 hsp
      have fin : ∀ {σ6 : L2.St} {H6 : Hp} {Q : Shared → Prop}, Inv (X.suite a ((a, oe4) :: (X.pn ++ pins))) [] σ6 H6 s6 → (∀ s7, H6 a = none → Inv X pins (σ6.set i none) (upd H6 a (ExV cls d a)) s7 → Q s7) →
          wpAny (model X.prog X.w) X.A (do bindName X.env n .none; unbindBehindTheSuite X.env n pos') (fun _ s7 => Q s7) X.xe s6 := by
        intro σ6 H6 Q S6 hq
        refine gone_ok (X := X.suite a ((a, oe4) :: (X.pn ++ pins))) S6 hN hi hln ?_
        intro s7 S7
        obtain ⟨g1, g2, g3, g4, g5⟩ := S7.pin (a, oe4) (by simp)
        refine hq s7 g2 (track_ext (S7.unsuite ok) g2 n0 nL (fun v z => ?_) hnp (exV_ok g1 hz4 hd4))
        obtain ⟨o, z1, z2⟩ := z
        rw [g1] at z1
        cases z1
        exact g5 v z2
      cases f with
      | next =>
        obtain ⟨σ6, H6, S6, q6⟩ := hsp
        exact fin S6 fun s7 g J7 => ⟨_, _, J7, q6 g⟩
      | brk =>
        obtain ⟨σ6, H6, S6, q6⟩ := hsp
        exact fin S6 fun s7 g J7 => ⟨_, _, J7, q6 g⟩
      | cont =>
        obtain ⟨σ6, H6, S6, q6⟩ := hsp
        exact fin S6 fun s7 g J7 => ⟨_, _, J7, q6 g⟩
      | ret u =>
        obtain ⟨v6, σ6, H6, S6, r6, q6⟩ := hsp
        exact fin S6 fun s7 g J7 => ⟨_, _, _, J7, r6, q6 g⟩
    | false =>
      show wpAny _ X.A (handleBy (.ref a) X.env []) _ _ _
      refine wpAny_handleBy_nil ?_
      have fly := fl3
      obtain ⟨k1, k2, k3, oe, vs, T, oT, ts', he, hz, hd, h1, hr⟩ := fly
      unfold PySem.passOn
      refine wpAny_bind (wpAny_field he hd h1 ?_)
      rw [if_neg (show ¬ ((Value.ref T == Value.none) = true) from by simp)]
      have fin : wpAny (model X.prog X.w) X.A (setFlight (.ref a) X.env.frame) (fun _ s4 => wpAny (model X.prog X.w) X.A (throw (.ref a) : Sem Flow) (SP X pins D) X.xe s4) X.xe { s' with heap := h3 } := by
        rw [hf]
        refine HandSPX.setFlight_upZ fl3 ?_
        intro h4 hh4 up4
        refine wpAny_throw (tk _ _ ⟨a, B, sI, pins, σ', H', cls, d, rfl, J, nb, (up.trans up3).trans up4, ?_, na, os, ag, hno rfl⟩)
        rw [hs]
        exact Or.inr (Or.inr hh4)
      first
        | exact wpAny_bind (wpAny_pure (wpAny_bind fin))
        | exact wpAny_bind fin
  · intro f s1 hsp
    cases f with
    | next =>
      obtain ⟨σ', H', J', q⟩ := hsp
      exact wpAny_execs_nil ⟨σ', H', J'.ofTry ok, q⟩
    | brk =>
      obtain ⟨σ', H', J', q⟩ := hsp
      exact ⟨σ', H', J'.ofTry ok, q⟩
    | cont =>
      obtain ⟨σ', H', J', q⟩ := hsp
      exact ⟨σ', H', J'.ofTry ok, q⟩
    | ret u =>
      obtain ⟨v, σ', H', J', r, q⟩ := hsp
      exact ⟨v, σ', H', J'.ofTry ok, r, q⟩
end
end Pd
set_option Elab.async false
set_option linter.all false
set_option maxRecDepth 100000
set_option maxHeartbeats 1000000
namespace Pd
open PySem PySem.Spec PyProof.Rows L2
def ExAt (K : PySem.W.Frag) (B : Hp) (c : Str) : Option (Str × D) → Value → Option Addr → Prop
  | none, cls, d => ∃ C, cls = .ref C ∧ PySem.W.nsIn K mainGlobals c = some (some (.ref C)) ∧ d = none
  | some (x, e), cls, d => c ≠ "tuple" ∧ ∃ C dx u, cls = .ref C ∧ PySem.W.nsIn K mainGlobals c = some (some (.ref C)) ∧ d = some dx ∧ B dx = some (.xd [(x, u)]) ∧ Dp K B u e
inductive OutF where
  | ret (r : Sl) (ss : List Sl)
  | exc (c : Str) (f : Option (Str × D)) (ss : List Sl)
inductive OutE where
  | ok (r : Rs) (ρ : Env)
  | exc (c : Str) (f : Option (Str × D)) (ρ : Env)
inductive OutS where
  | fl (f : Fl) (ρ : Env)
  | exc (c : Str) (f : Option (Str × D)) (ρ : Env)
abbrev FX := List Sl → Option OutF
abbrev EX := Env → Option OutE
abbrev SX := Env → Option OutS
def spX (K : PySem.W.Frag) (n : Nat) (F : FX) : L2.Sp := fun vs H Q E => vs.length = n ∧ ∃ B ss fs, Good K [] B H (vs.map some) (ss.map some) fs ∧ (∀ s ∈ ss, s.tag = none) ∧ ∃ out, F ss = some out ∧ match out with
  | .ret r ss' => ∀ v B' H' fs' T, Fr B H (InF fs) B' H' (UnF (InF fs') T) → Good K [] B' H' (vs.map some) (ss'.map some) fs' → RsOk K B' H' (vs.map some) fs' v (.own r) T → Q v H'
  | .exc c f ss' => ∀ B' H' fs' cls d, Fr B H (InF fs) B' H' (InF fs') → Good K [] B' H' (vs.map some) (ss'.map some) fs' → ExAt K B' c f cls d → E cls d H'
section
variable (K : PySem.W.Frag) (vs0 : List V) (W : WX)
def rdEX (f : EX) : TE := fun σ H Q => ∃ B ρ fs, Good K vs0 B H σ ρ fs ∧ ∃ o, f ρ = some o ∧ match o with
  | .ok r ρ' => ∀ v B' H' fs' T, Fr B H (InF fs) B' H' (UnF (InF fs') T) → Good K vs0 B' H' σ ρ' fs' → RsOk K B' H' σ fs' v r T → Q v H'
  | .exc c f ρ' => ∀ B' H' fs' cls d, Fr B H (InF fs) B' H' (InF fs') → Good K vs0 B' H' σ ρ' fs' → ExAt K B' c f cls d → W cls d σ H'
def rdSX (g : SX) : L2.TS := fun D σ H => ∃ B ρ fs, Good K vs0 B H σ ρ fs ∧ ∃ o, g ρ = some o ∧ match o with
  | .fl .nx ρ' => ∀ σ' B' H' fs', Fr B H (InF fs) B' H' (InF fs') → Good K vs0 B' H' σ' ρ' fs' → D.nx σ' H'
  | .fl .bk ρ' => ∀ σ' B' H' fs', Fr B H (InF fs) B' H' (InF fs') → Good K vs0 B' H' σ' ρ' fs' → D.bk σ' H'
  | .fl .ct ρ' => ∀ σ' B' H' fs', Fr B H (InF fs) B' H' (InF fs') → Good K vs0 B' H' σ' ρ' fs' → D.ct σ' H'
  | .fl (.rt s) ρ' => ∀ v σ' B' H' fs' T, Fr B H (InF fs) B' H' (UnF (InF fs') T) → Good K vs0 B' H' σ' ρ' fs' → RsOk K B' H' σ' fs' v (.own s) T → D.rt v H'
  | .exc c f ρ' => ∀ σ' B' H' fs' cls d, Fr B H (InF fs) B' H' (InF fs') → Good K vs0 B' H' σ' ρ' fs' → ExAt K B' c f cls d → W cls d σ' H'
end
def xLift (g : M Fl) : SX := fun ρ => match g ρ with
  | some (.ok fl ρ') => some (.fl fl ρ')
  | none => none
def xSeq (a b : SX) : SX := fun ρ => match a ρ with
  | some (.fl .nx ρ') => b ρ'
  | o => o
def xIf (t : M Bool) (a b : SX) : SX := fun ρ => match t ρ with
  | some (.ok true ρ') => a ρ'
  | some (.ok false ρ') => b ρ'
  | none => none
def xThen (f : EX) (g : Rs → M Fl) : SX := fun ρ => match f ρ with
  | some (.ok r ρ') => xLift (g r) ρ'
  | some (.exc c x ρ') => some (.exc c x ρ')
  | none => none
def xCall (n : Nat) (F : FX) : List Rs → EX := fun rs ρ => if rs.length = n ∧ (roots rs).Nodup then match argL rs ρ with
    | some ss => match F ss with
      | some (.ret r ss') => some (.ok (.own r) (wbL rs ss' ρ))
      | some (.exc c f ss') => some (.exc c f (wbL rs ss' ρ))
      | none => none
    | none => none
  else none
def xBind (fa : M (List Rs)) (g : List Rs → EX) : EX := fun ρ => match fa ρ with
  | some (.ok rs ρ') => g rs ρ'
  | none => none
section
variable {K : PySem.W.Frag} {vs0 : List V} {W : WX} {D : Ends} {σ : L2.St} {H : Hp}
theorem rdX_lift {g : M Fl} (q : rdSX K vs0 W (xLift g) D σ H) : rdS K vs0 g D σ H := by
  obtain ⟨B, ρ, fs, gd, o, e, k⟩ := q
  unfold xLift at e
  split at e
  · rename_i fl ρ' e1
    cases e
    refine ⟨B, ρ, fs, gd, fl, ρ', e1, ?_⟩
    cases fl <;> exact k
  · cases e
theorem rdX_seq {a b : SX} (q : rdSX K vs0 W (xSeq a b) D σ H) : rdSX K vs0 W a { D with nx := rdSX K vs0 W b D } σ H := by
  obtain ⟨B, ρ, fs, gd, o, e, k⟩ := q
  unfold xSeq at e
  split at e
  · rename_i ρ' e1
    refine ⟨B, ρ, fs, gd, _, e1, fun σ1 B1 H1 fs1 fr1 g1 => ⟨B1, ρ', fs1, g1, o, e, ?_⟩⟩
    cases o with
    | fl f ρ2 =>
      cases f with
      | nx => exact fun σ2 B2 H2 fs2 fr2 g2 => k σ2 B2 H2 fs2 (fr1.trans fr2) g2
      | bk => exact fun σ2 B2 H2 fs2 fr2 g2 => k σ2 B2 H2 fs2 (fr1.trans fr2) g2
      | ct => exact fun σ2 B2 H2 fs2 fr2 g2 => k σ2 B2 H2 fs2 (fr1.trans fr2) g2
      | rt s => exact fun v σ2 B2 H2 fs2 T fr2 g2 ok => k v σ2 B2 H2 fs2 T (fr1.trans fr2) g2 ok
    | exc c f ρ2 => exact fun σ2 B2 H2 fs2 cls d fr2 g2 x => k σ2 B2 H2 fs2 cls d (fr1.trans fr2) g2 x
  · rename_i hn
    refine ⟨B, ρ, fs, gd, o, e, ?_⟩
    cases o with
    | fl f ρ2 =>
      cases f with
      | nx => exact (hn ρ2 e).elim
      | bk => exact k
      | ct => exact k
      | rt s => exact k
    | exc c f ρ2 => exact k
theorem rdX_mono {g : SX} {B B1 : Hp} {H1 : Hp} {σ1 : L2.St} {ρ1 : Env} {fs fs1 : Nat → List Addr} {o : OutS} (fr1 : Fr B H (InF fs) B1 H1 (InF fs1)) (g1 : Good K vs0 B1 H1 σ1 ρ1 fs1) (e : g ρ1 = some o)
    (k : match (generalizing := false) o with
      | .fl .nx ρ' => ∀ σ' B' H' fs', Fr B H (InF fs) B' H' (InF fs') → Good K vs0 B' H' σ' ρ' fs' → D.nx σ' H'
      | .fl .bk ρ' => ∀ σ' B' H' fs', Fr B H (InF fs) B' H' (InF fs') → Good K vs0 B' H' σ' ρ' fs' → D.bk σ' H'
      | .fl .ct ρ' => ∀ σ' B' H' fs', Fr B H (InF fs) B' H' (InF fs') → Good K vs0 B' H' σ' ρ' fs' → D.ct σ' H'
      | .fl (.rt s) ρ' => ∀ v σ' B' H' fs' T, Fr B H (InF fs) B' H' (UnF (InF fs') T) → Good K vs0 B' H' σ' ρ' fs' → RsOk K B' H' σ' fs' v (.own s) T → D.rt v H'
      | .exc c f ρ' => ∀ σ' B' H' fs' cls d, Fr B H (InF fs) B' H' (InF fs') → Good K vs0 B' H' σ' ρ' fs' → ExAt K B' c f cls d → W cls d σ' H') : rdSX K vs0 W g D σ1 H1 := by
  refine ⟨B1, ρ1, fs1, g1, o, e, ?_⟩
  cases o with
  | fl f ρ2 =>
    cases f with
    | nx => exact fun σ2 B2 H2 fs2 fr2 g2 => k σ2 B2 H2 fs2 (fr1.trans fr2) g2
    | bk => exact fun σ2 B2 H2 fs2 fr2 g2 => k σ2 B2 H2 fs2 (fr1.trans fr2) g2
    | ct => exact fun σ2 B2 H2 fs2 fr2 g2 => k σ2 B2 H2 fs2 (fr1.trans fr2) g2
    | rt s => exact fun v σ2 B2 H2 fs2 T fr2 g2 ok => k v σ2 B2 H2 fs2 T (fr1.trans fr2) g2 ok
  | exc c f ρ2 => exact fun σ2 B2 H2 fs2 cls d fr2 g2 x => k σ2 B2 H2 fs2 cls d (fr1.trans fr2) g2 x
theorem rd_xcall {n : Nat} {F : FX} {fa : M (List Rs)} {Q : VK} (q : rdEX K vs0 W (xBind fa (xCall n F)) σ H Q) : rdA K vs0 fa σ H fun vs H1 => spX K n F vs H1 Q (WE W σ) := by
  obtain ⟨B, ρ, fs, gd, o, e, k⟩ := q
  unfold xBind at e
  split at e
  · rename_i rs ρ1 e1
    refine ⟨B, ρ, fs, gd, rs, ρ1, e1, fun vs B1 H1 fs1 Ts fr1 g1 ok nd => ?_⟩
    unfold xCall at e
    split at e
    · rename_i hc
      split at e
      · rename_i ss e2
        obtain ⟨fsA, gA, tg, hvl, step⟩ := call_core g1 ok nd hc.2 e2
        refine ⟨hvl.trans hc.1, B1, ss, fsA, gA, tg, ?_⟩
        split at e
        · rename_i r ss' e3
          cases e
          refine ⟨_, e3, fun v B' H' fs' T fr' g' okr => ?_⟩
          obtain ⟨o1, o2, o3⟩ := okr
          obtain ⟨fs2, fr2, g2, t2⟩ := step ss' B' H' fs' T fr' g' o3
          exact k v B' H' fs2 T (fr1.trans fr2) g2 ⟨o1, o2, t2⟩
        · rename_i c f ss' e3
          cases e
          refine ⟨_, e3, fun B' H' fs' cls d fr' g' x => ?_⟩
          obtain ⟨fs2, fr2, g2, t2⟩ := step ss' B' H' fs' [] (fr'.weak (fun _ h => h) fun a h => by
            rcases h with h | h
            · exact Or.inl h
            · cases h) g' fun a ha => nomatch ha
          exact k B' H' fs2 cls d (fr1.trans (fr2.weak (fun _ h => h) fun a h => Or.inl (Or.inl h))) g2 x
        · cases e
      · cases e
    · cases e
  · cases e
end
end Pd
set_option Elab.async false
set_option linter.all false
set_option maxRecDepth 100000
set_option maxHeartbeats 1000000
namespace Pd
open PySem PySem.Spec PyProof.Rows L2
def xSet (i : Nat) (f : EX) : SX := xThen f fun r => M.bind (takeR r) fun s ρ => if i < ρ.length then some (.ok .nx (ρ.set i (some s))) else none
section
variable {K : PySem.W.Frag} {vs0 : List V} {W : WX} {D : Ends} {σ : L2.St} {H : Hp} {f : EX}
theorem rdX_then {g : Rs → M Fl} {Q : VK} (q : rdSX K vs0 W (xThen f g) D σ H)
    (h : ∀ B ρ fs B1 H1 ρ1 fs1 r v T fl ρ', Good K vs0 B H σ ρ fs → Fr B H (InF fs) B1 H1 (UnF (InF fs1) T) → Good K vs0 B1 H1 σ ρ1 fs1 → RsOk K B1 H1 σ fs1 v r T → g r ρ1 = some (.ok fl ρ') →
      (match fl with
        | .nx => ∀ σ' B' H' fs', Fr B H (InF fs) B' H' (InF fs') → Good K vs0 B' H' σ' ρ' fs' → D.nx σ' H'
        | .bk => ∀ σ' B' H' fs', Fr B H (InF fs) B' H' (InF fs') → Good K vs0 B' H' σ' ρ' fs' → D.bk σ' H'
        | .ct => ∀ σ' B' H' fs', Fr B H (InF fs) B' H' (InF fs') → Good K vs0 B' H' σ' ρ' fs' → D.ct σ' H'
        | .rt s => ∀ v σ' B' H' fs' T, Fr B H (InF fs) B' H' (UnF (InF fs') T) → Good K vs0 B' H' σ' ρ' fs' → RsOk K B' H' σ' fs' v (.own s) T → D.rt v H') → Q v H1) : rdEX K vs0 W f σ H Q := by
  obtain ⟨B, ρ, fs, gd, o, e, k⟩ := q
  unfold xThen at e
  split at e
  · rename_i r ρ1 e1
    refine ⟨B, ρ, fs, gd, _, e1, fun v B1 H1 fs1 T fr g1 ok => ?_⟩
    unfold xLift at e
    split at e
    · rename_i fl ρ' e2
      cases e
      refine h B ρ fs B1 H1 ρ1 fs1 r v T fl ρ' gd fr g1 ok e2 ?_
      cases fl <;> exact k
    · cases e
  · rename_i c x ρ1 e1
    cases e
    exact ⟨B, ρ, fs, gd, _, e1, fun B2 H2 fs2 cls d fr2 g2 x => k σ B2 H2 fs2 cls d fr2 g2 x⟩
  · cases e
theorem rdX_set {i : Nat} (q : rdSX K vs0 W (xSet i f) D σ H) : tAsg (rdEX K vs0 W f) (gName i) D σ H := rdX_then q fun B ρ fs B1 H1 ρ1 fs1 r v T fl ρ' gd fr g1 ok e k => by
  obtain ⟨s, ρ2, e4, e5⟩ := M.bind_ok e
  split at e5
  · rename_i hi
    cases e5
    obtain ⟨fs2, T2, g2, o2, t2, n2, s2, _⟩ := takeR_ok g1 ok e4
    refine k _ B1 H1 _ (fr.weak (fun _ h => h) fun a h => Or.inl (s2 a ?_)) (g2.put hi o2 t2 fun a ha => ⟨(n2 a ha).1, fun j _ => (n2 a ha).2 j⟩)
    obtain ⟨j, hj⟩ := h
    try dsimp only at hj
    by_cases q : j = i
    · rw [if_pos q] at hj; exact Or.inr hj
    · rw [if_neg q] at hj; exact Or.inl ⟨j, hj⟩
  · cases e5
theorem rdX_if {t : M Bool} {a b : SX} (q : rdSX K vs0 W (xIf t a b) D σ H) : rdT K vs0 t σ H fun c H1 => if c = true then rdSX K vs0 W a D σ H1 else rdSX K vs0 W b D σ H1 := by
  obtain ⟨B, ρ, fs, gd, o, e, k⟩ := q
  unfold xIf at e
  split at e
  · rename_i ρ1 e1
    refine ⟨B, ρ, fs, gd, true, ρ1, e1, fun B1 H1 fs1 fr1 g1 => ?_⟩
    show rdSX K vs0 W a D σ H1
    exact rdX_mono fr1 g1 e k
  · rename_i ρ1 e1
    refine ⟨B, ρ, fs, gd, false, ρ1, e1, fun B1 H1 fs1 fr1 g1 => ?_⟩
    show rdSX K vs0 W b D σ H1
    exact rdX_mono fr1 g1 e k
  · cases e
end
section
variable {X : Cx} {vs0 : List V} {W : WX} {f : EX} {e : Expr} {pos : Pos} {st : Stmt} {rest : List Stmt} {g1 g2 : SX}
theorem dx_lift {g : M Fl} (h : PS X st (rdS X.K vs0 g)) : PS X st (rdSX X.K vs0 W (xLift g)) := PS.imp h fun D σ H q => rdX_lift q
theorem dxs_lift {g : M Fl} {sts : List Stmt} (h : PSs X sts (rdS X.K vs0 g)) : PSs X sts (rdSX X.K vs0 W (xLift g)) := PSs.imp h fun D σ H q => rdX_lift q
theorem dxs_one (h : PS X st (rdSX X.K vs0 W g1)) : PSs X [st] (rdSX X.K vs0 W g1) := pss_one h
theorem dxs_cons (h1 : PS X st (rdSX X.K vs0 W g1)) (h2 : PSs X rest (rdSX X.K vs0 W g2)) : PSs X (st :: rest) (rdSX X.K vs0 W (xSeq g1 g2)) := PSs.imp (pss_cons h1 h2) fun D σ H q => rdX_seq q
theorem dx_if {c : Expr} {a b : List Stmt} {t : M Bool} (hc : PT X c (rdT X.K vs0 t)) (ha : PSs X a (rdSX X.K vs0 W g1)) (hb : PSs X b (rdSX X.K vs0 W g2)) : PS X (.If c a b pos) (rdSX X.K vs0 W (xIf t g1 g2)) := PS.imp (ps_if hc ha hb) fun D σ H q => by
  obtain ⟨B, ρ, fs, gd, c, ρ1, e1, k⟩ := rdX_if q
  refine ⟨B, ρ, fs, gd, c, ρ1, e1, fun B1 H1 fs1 fr1 g1 => ?_⟩
  have := k B1 H1 fs1 fr1 g1
  cases c with
  | true => exact this
  | false => exact this
theorem dx_set {i : Nat} {x : Str} {pos' : Pos} (hN : X.N.Nodup) (hi : X.N[i]? = some x) (hx : Loc X.env.scope x) (he : PE X e (rdEX X.K vs0 W f)) (hs : swapsWith e (some (.Name x pos')) pos.line X.env = pure false := by rfl) (hf : X.fn x = true ∨ X.env.scope.names.lookup x = some .local := by first | exact .inl rfl | exact .inr rfl | assumption) :
    PS X (.Assign [.Name x pos'] e pos) (rdSX X.K vs0 W (xSet i f)) := PS.imp (ps_set hN hi hx he hs hf) fun D σ H q => rdX_set q
structure ExcK (K : PySem.W.Frag) (mg : Str → Option Value) (c : Str) : Prop where
  ex : ∃ C, PySem.W.nsIn K mainGlobals c = some (some (.ref C)) ∧ mg c = some (.ref C) ∧ PySem.W.excIn K C [.type "ValueError", .type "Exception", .type "BaseException", .type "object"] "ValueError.__new__" = true ∧ PySem.W.keepIn K (.ref C) = true ∧ PySem.W.subIn K (.ref C) (.type "BaseException") = some true ∧ PySem.W.typeIn K (.ref C) = some (.type "type")
end
structure CalleeX (P : Program) (w : World) (K : PySem.W.Frag) (mg : Str → Option Value) (base : Heap) (k : Nat) (x : Str) (n : Nat) (F : FX) : Prop where
  ex : ∃ f fd ps, FnOk P w K mg base (L2.CX P w) k f fd ps (spX K n F) ∧ mg x = some (.ref f) ∧ PySem.W.keepIn K (.ref f) = true ∧ Binds K fd ps []
structure CalleeMX (P : Program) (w : World) (K : PySem.W.Frag) (mg : Str → Option Value) (base : Heap) (k : Nat) (c m : Str) (n : Nat) (F : FX) : Prop where
  ex : ∃ C f fd ps, PySem.W.nsIn K mainGlobals c = some (some (.ref C)) ∧ Cls K C ∧ Meth K C m f ∧ FnOk P w K mg base (L2.CX P w) k f fd ps (spX K n F) ∧ Binds K fd ps []
section
variable {X : Cx} {vs0 : List V} {W : WX} {k n : Nat} {F : FX} {x c m : Str} {p pos apos : Pos} {o e : Expr} {es : List Expr} {fo : M Rs} {fa : M (List Rs)} {pl : Sem Bool}
theorem de_useX (C : CalleeX X.prog X.w X.K X.mg X.base k x n F) (tk : Takes X W) (hr : Room k X.A) (hg : Gl X x) (ha : PA X (e :: es) (rdA X.K vs0 fa)) (hdb : (x == ("__debug__" : Str)) = false := by decide)
    (he : starEach (e :: es) X.env = (false, eval e X.env) :: starEach es X.env := by rfl) (hpl : (backTo pos (starEach es X.env)).any (·.1) = false := by rfl) :
    PE X (.Call (.Name x p) (e :: es) [] pos) (rdEX X.K vs0 W (xBind fa (xCall n F))) := by
  obtain ⟨f, fd, ps, Fn, hm, hk, hb⟩ := C.ex
  exact PE.imp (pe_callS Fn hr hg hm hk hb (fun σ => passAt tk σ) ha hdb he hpl) fun σ H Q q => rd_xcall q
end
end Pd
set_option Elab.async false
set_option linter.all false
set_option maxRecDepth 100000
set_option maxHeartbeats 1000000
namespace Pd
open PySem PySem.Spec PyProof.Rows L2
def mkX (m : Nat) (g : SX) : FX := fun ss => match g (startE m ss) with
  | some (.fl (.rt s) ρ') => (endE 0 ss ρ').map fun ss' => .ret s ss'
  | some (.fl .nx ρ') => (endE 0 ss ρ').map fun ss' => .ret (.p .none) ss'
  | some (.exc c f ρ') => (endE 0 ss ρ').map fun ss' => .exc c f ss'
  | _ => none
section
variable {K : PySem.W.Frag}
theorem rdX_body {N : List Str} {m : Nat} {g : SX} {vs : List V} {H : Hp} {Q : VK} {E : XK} {n : Nat} (hn : N.length - n = m) (h : spX K n (mkX m g) vs H Q E) :
    rdSX K vs (fun cls d _ H' => E cls d H') g { nx := fun _ H' => Q .non H', rt := Q } (L2.start N vs) H := by
  obtain ⟨hv, B, ss, fs, gd, ht, out, e, k⟩ := h
  have g0 := good_start (N := N) (m := m) gd (by rw [hv]; exact hn)
  have sub : ∀ {fs' : Nat → List Addr} {a : Addr}, InF (fun i => if ((ss[i]?).map Sl.isP) = some false then fs' i else []) a → InF fs' a := fun {fs' a} h => by
    obtain ⟨i, hi⟩ := h
    try dsimp only at hi
    split at hi
    · exact ⟨i, hi⟩
    · cases hi
  unfold mkX at e
  split at e
  · rename_i s ρ' e1
    cases q : endE 0 ss ρ' with
    | none => rw [q] at e; cases e
    | some t =>
      rw [q] at e
      cases e
      refine ⟨B, _, fs, g0, _, e1, fun v σ' B' H' fs' T fr g' ok => ?_⟩
      refine k v B' H' _ T (fr.weak (fun _ h => h) fun a h => Or.inl ?_) (good_end gd fr.bb g' q) ⟨ok.1, ok.2.1, fun a ha => ⟨(ok.2.2 a ha).1, fun i hi => ?_⟩⟩
      · rcases h with h | h
        · exact Or.inl (sub h)
        · exact Or.inr h
      · obtain ⟨j, hj⟩ := sub ⟨i, hi⟩
        exact (ok.2.2 a ha).2 j hj
  · rename_i ρ' e1
    cases q : endE 0 ss ρ' with
    | none => rw [q] at e; cases e
    | some t =>
      rw [q] at e
      cases e
      refine ⟨B, _, fs, g0, _, e1, fun σ' B' H' fs' fr g' => ?_⟩
      refine k .non B' H' _ [] (fr.weak (fun _ h => h) fun a h => Or.inl ?_) (good_end gd fr.bb g' q) ⟨⟨.non, rfl⟩, rfl, fun a ha => nomatch ha⟩
      rcases h with h | h
      · exact sub h
      · cases h
  · rename_i c f ρ' e1
    cases q : endE 0 ss ρ' with
    | none => rw [q] at e; cases e
    | some t =>
      rw [q] at e
      cases e
      refine ⟨B, _, fs, g0, _, e1, fun σ' B' H' fs' cls d fr g' x => ?_⟩
      exact k B' H' _ cls d (fr.weak (fun _ h => h) fun a h => Or.inl (sub h)) (good_end gd fr.bb g' q) x
  · cases e
end
section
variable {P : Program} {w : World} {K : PySem.W.Frag} {mg : Str → Option Value} {base : Heap}
theorem fnX_ok {x qual : Str} {st : Stmt} {f : Addr} {fd : FuncData} {N ps : List Str} {k m : Nat} {g : SX} (F : Fun K x qual st f fd) (S : FnScope N ps (defScope st)) (hm : N.length - ps.length = m)
    (hbody : ∀ (cdv : Value) (A : Around) (outer : List PySem.Env) (s : Shared) (H : Hp) (E : XK) (vs0 : List V), Room k (A.deeper (envOfC qual (defScope st) s.heap.objs.size f cdv)) →
      PSs (cxOf (L2.CX P w) P w K mg base N qual (defScope st) f cdv A outer s H E) (defBody st) (rdSX K vs0 (fun cls d _ H' => E cls d H') g)) : FnOk P w K mg base (L2.CX P w) (k + 1) f fd ps (spX K ps.length (mkX m g)) :=
  F.okX S (fun vs H Q E h => h.1) fun cdv A outer s H vs Q E hr h => ⟨_, hbody cdv A outer s H E vs hr, rdX_body hm h⟩
end
def gTry (i j : Nat) (cs : List Str) (g : SX) : M Fl := fun ρ => match g ρ with
  | some (.fl fl ρ') => some (.ok fl ρ')
  | some (.exc c f ρ') => if c ∈ cs ∧ i < ρ'.length ∧ j < ρ'.length ∧ i ≠ j then some (.ok .nx ((ρ'.set j (some (.ex c f))).set i none)) else none
  | none => none
structure Catch (K : PySem.W.Frag) (mg : Str → Option Value) (C : Str) (cs : List Str) : Prop where
  ex : ∃ D, mg C = some (.ref D) ∧ ∀ c ∈ cs, ∀ A, PySem.W.nsIn K mainGlobals c = some (some (.ref A)) → PySem.W.exmOne K (.ref A) (.ref D) = some true
section
variable {X : Cx} {vs0 : List V} {C n y : Str} {i j : Nat} {body : List Stmt} {np p1 p2 p3 pos pos' : Pos} {cs : List Str} {g : SX}
theorem ds_try (hs : X.stack = X.env :: X.outer) (hf : X.env.frame = some X.env.locals) (hex : X.ex = []) (hN : X.N.Nodup) (hi : X.N[i]? = some n) (hln : X.env.kindOf n = some .local) (hj : X.N[j]? = some y) (hly : Loc X.env.scope y) (hvn : Vis X.env.scope n)
    (hgC : Gl X C) (T : Catch X.K X.mg C cs) (hdC : (C == ("__debug__" : Str)) = false := by decide) (hdn : (n == ("__debug__" : Str)) = false := by decide) (hcn : (n == ("__classdict__" : Str)) = false := by decide)
    (hfy : X.fn y = true ∨ X.env.scope.names.lookup y = some .local := by first | exact .inl rfl | exact .inr rfl | assumption)
    (hsw : swapsWith (.Name n p2) (some (.Name y p1)) p3.line X.env = pure false := by rfl)
    (hb : ∀ (W : WX) (pn : List (Addr × Obj)) (xe : Value → Shared → Prop), Takes (X.tr pn xe) W → PassesOwn (model X.prog X.w) X.A X.env xe → PSs (X.tr pn xe) body (rdSX X.K vs0 W g)) :
    PS X (.Try body [.ExceptHandler (some (.Name C np)) (some n) [.Assign [.Name y p1] (.Name n p2) p3] pos'] [] [] pos) (rdS X.K vs0 (gTry i j cs g)) := by
  obtain ⟨D, hD, hcs⟩ := T.ex
  refine PS.imp (ps_try_keep (c := .ref D) (i := i) (ts := fun a cls d => tAsg (tVar i) (gName j)) (Wout := fun _ _ _ _ => False) hs hf hex hN hi hln ⟨hgC, hdC, Or.inl hD⟩ takes0 hb ?_) ?_
  · intro a oe cls d pn hz hfl
    exact pss_one (ps_set (X := X.suite a ((a, oe) :: pn)) hN hj hly (pe_var (X := X.suite a ((a, oe) :: pn)) hi hvn hdn hcn) hsw hfy)
  · intro D' σ H q
    obtain ⟨B, ρ, fs, gd, fl, ρ', e, k⟩ := q
    unfold gTry at e
    split at e
    · rename_i fl' ρ1 e1
      cases e
      refine ⟨B, ρ, fs, gd, _, e1, ?_⟩
      cases fl <;> exact k
    · rename_i c f ρ1 e1
      split at e
      · rename_i hc
        cases e
        obtain ⟨hmem, hil, hjl, hij⟩ := hc
        refine ⟨B, ρ, fs, gd, _, e1, fun σ1 B1 H1 fs1 cls d fr1 g1 x => ?_⟩
        obtain ⟨A, hA, hnA⟩ : ∃ A, cls = .ref A ∧ PySem.W.nsIn X.K mainGlobals c = some (some (.ref A)) := by
          cases f with
          | none => obtain ⟨A, h1, h2, _⟩ := x; exact ⟨A, h1, h2⟩
          | some p => obtain ⟨_, A, _, _, h1, h2, _⟩ := x; exact ⟨A, h1, h2⟩
        refine ⟨true, by rw [hA]; exact hcs c hmem A hnA, fun _ a na => ?_, fun z => nomatch z⟩
        have hl1 : σ1.length = ρ1.length := g1.len
        refine ⟨.ref a, List.getElem?_set_self (by rw [hl1]; exact hil), fun na' => ?_⟩
        have fr2 := Fr.new (o := ExV cls d a) na g1.ext
        have g2 := g1.grow fr2 (fun _ _ z => z) (same_upd g1.ext)
        have own : Own X.K (upd B1 a (ExV cls d a)) (upd H1 a (ExV cls d a)) (.ref a) (.ex c f) [] := by
          refine ⟨?_, rfl⟩
          cases f with
          | none =>
            obtain ⟨A', h1, h2, h3⟩ := x
            exact ⟨a, A', rfl, h2, by rw [upd_same, h1, h3]⟩
          | some p =>
            obtain ⟨h0, A', dx, u, h1, h2, h3, h4, h5⟩ := x
            exact Or.inl ⟨h0, a, A', dx, u, rfl, h2, by rw [upd_same, h1, h3], fr2.bb _ _ h4, Dp.mono fr2.bb h5⟩
        have g3 := g2.put (i := j) hjl own (fun _ z => nomatch z) fun b hb => nomatch hb
        have g4 := g3.wipe1 i
        have es : ((σ1.set i (some (.ref a))).set j (some (.ref a))).set i none = (σ1.set j (some (.ref a))).set i none := by
          rw [List.set_comm _ _ hij, List.set_set]
        rw [es]
        refine k _ _ _ _ (fr1.trans (fr2.weak (fun _ z => False.elim z) fun b z => Or.inr (Or.inl ?_))) g4
        obtain ⟨t, ht⟩ := z
        try dsimp only at ht
        by_cases q1 : t = i
        · rw [if_pos q1] at ht; cases ht
        · rw [if_neg q1] at ht
          by_cases q2 : t = j
          · rw [if_pos q2] at ht; cases ht
          · rw [if_neg q2] at ht
            exact ⟨t, ht⟩
      · cases e
    · cases e
end
end Pd
set_option Elab.async false
set_option linter.all false
set_option maxRecDepth 100000
set_option maxHeartbeats 1000000
namespace Pd
open PySem PySem.Spec PyProof.Rows L2
def eIsX (f : M Rs) (ts fs : List Str) : M Rs := M.bind f fun r ρ => match r with
  | .own (.ex c _) => if c ∈ ts then some (.ok (.own (.p (.bool true))) ρ) else if c ∈ fs then some (.ok (.own (.p (.bool false))) ρ) else none
  | _ => none
structure IsXF (K : PySem.W.Frag) (us : List Value) (ts fs : List Str) : Prop where
  yes : ∀ c ∈ ts, ∀ D, PySem.W.nsIn K mainGlobals c = some (some (.ref D)) → ExcC K D ∧ PySem.W.kitAny K (.ref D) us = some true
  no : ∀ c ∈ fs, ∀ D, PySem.W.nsIn K mainGlobals c = some (some (.ref D)) → ExcC K D ∧ PySem.W.kitAny K (.ref D) us = some false
def ExHere (H : Hp) (a D : Addr) : Prop := H a = some (ExV (.ref D) none a) ∨ ∃ dx fs, H a = some (ExV (.ref D) (some dx) a) ∧ H dx = some (.xd fs)
def rIsV (K : PySem.W.Frag) : List V → Hp → VK → Prop := fun xs H Q => ∃ (a D : Addr) (c : V) (cv : Value) (b : Bool), xs = [.ref a, c] ∧ (∀ u, RelV c u → u = cv) ∧ ExHere H a D ∧ ExcC K D ∧ PySem.W.kitOne K (.ref D) cv = some b ∧ Q (.bl b) H
def rIsVT (K : PySem.W.Frag) : List V → Hp → VK → Prop := fun xs H Q => ∃ (a D tp : Addr) (cs : List V) (us : List Value) (b : Bool), xs = [.ref a, .ref tp] ∧ H tp = some (.tup cs) ∧ Paired ClsV cs us ∧ ExHere H a D ∧ ExcC K D ∧ PySem.W.kitAny K (.ref D) us = some b ∧ Q (.bl b) H
theorem kitAny_one {K : PySem.W.Frag} {t c : Value} {b : Bool} (h : PySem.W.kitAny K t [c] = some b) : PySem.W.kitOne K t c = some b := by
  unfold PySem.W.kitAny at h
  cases e : PySem.W.kitOne K t c with
  | none => rw [e] at h; cases h
  | some d =>
    rw [e] at h
    cases d with
    | true => exact h
    | false => exact h
section
variable {X : Cx}
theorem exV_inst {pins : List (Addr × Obj)} {s : Shared} {σ : L2.St} {H : Hp} {a D : Addr} (I : Inv X pins σ H s) (h : ExHere H a D) : ∃ oe od, PySem.W.InstAt s.heap a oe D od := by
  rcases h with h | ⟨dx, fs, h, hd⟩
  · obtain ⟨⟨⟨oc, od, oda, osl⟩, vs, h1, h2, h3, h4⟩, _⟩ := I.hok a _ h
    dsimp only at h2 h3 h4
    subst h2 h3 h4
    exact ⟨_, none, h1, rfl, rfl, trivial⟩
  · obtain ⟨⟨⟨oc, od, oda, osl⟩, vs, h1, h2, h3, h4⟩, _⟩ := I.hok a _ h
    dsimp only at h2 h3 h4
    subst h2 h3 h4
    obtain ⟨mA, ⟨od, es, ep, e, c⟩, r⟩ := (show ObjOk X.prog X.w H s.heap dx (.xd fs) from I.hok dx _ hd)
    exact ⟨_, some _, h1, rfl, rfl, e⟩
theorem kitx_of_excC {K : PySem.W.Frag} {D a : Addr} {oe : Obj} {od : Option Obj} (T : ExcC K D) : PySem.W.KitX K (.ref a) (.ref D) (fun h => PySem.W.InstAt h a oe D od) :=
  PySem.W.kitx_exc (by obtain ⟨cd, hc, _⟩ := PySem.W.any_some T.hd; rw [hc]; rfl) T.hg T.hk T.hs T.ha T.hn T.ht T.hm
theorem call_isV : CallR X (.builtin "isinstance") (rIsV X.K) := by
  intro pins s σ H xs us Q I r h
  obtain ⟨a, D, c, cv, b, rfl, hcv, hH, T, e, q⟩ := h
  obtain ⟨u1, u2, rfl, r1, r2⟩ := vals2 r
  cases (show u1 = Value.ref a from r1)
  have ec := hcv _ r2
  subst ec
  obtain ⟨oe, od, J⟩ := exV_inst I hH
  exact PySem.W.kia_one (kitx_of_excC T) I.kIn J e (fun z => nomatch z) fun tk => ⟨.bl b, H, I.tok tk, rfl, q⟩
theorem call_isVT : CallR X (.builtin "isinstance") (rIsVT X.K) := by
  intro pins s σ H xs us Q I r h
  obtain ⟨a, D, tp, cs, ws, b, rfl, hT, k, hH, T, e, q⟩ := h
  obtain ⟨u1, u2, rfl, r1, r2⟩ := vals2 r
  cases (show u1 = Value.ref a from r1)
  cases (show u2 = Value.ref tp from r2)
  obtain ⟨oe, od, J⟩ := exV_inst I hH
  obtain ⟨_, its, rv, ⟨oc, od', dt, sl⟩, h1, h2, n, h3⟩ := (show ObjOk X.prog X.w H s.heap tp (.tup cs) from I.hok tp _ hT)
  have e3 := ClsV.all k rv
  subst e3
  simp only at h2 h3
  subst h2 h3
  exact PySem.W.kia_tup (kitx_of_excC T) I.kIn J h1 e (fun z => nomatch z) fun tk => ⟨.bl b, H, I.tok tk, rfl, q⟩
variable {vs0 : List V} {f : M Rs} {ts fs : List Str} {o e : Expr} {p pos pos2 : Pos}
theorem exIs_here {K : PySem.W.Frag} {B H : Hp} {v : V} {c : Str} (hB : Same B H) (hc : c ≠ "tuple") : ∀ {f : Option (Str × D)}, ExIs K B v c f → ∃ a D, v = .ref a ∧ PySem.W.nsIn K mainGlobals c = some (some (.ref D)) ∧ ExHere H a D
  | none, h => by
    obtain ⟨a, D, h1, h2, h3⟩ := h
    exact ⟨a, D, h1, h2, Or.inl (hB _ _ h3)⟩
  | some (x, d), h => by
    rcases h with ⟨_, a, D, dx, u, h1, h2, h3, h4, _⟩ | ⟨h, _⟩
    · exact ⟨a, D, h1, h2, Or.inr ⟨dx, _, hB _ _ h3, hB _ _ h4⟩⟩
    · exact (hc h).elim
theorem ExHere.up {H : Hp} {a D p : Addr} {u : HO} (h : ExHere H a D) (hp : H p = none) : ExHere (upd H p u) a D := by
  have ne : ∀ b o, H b = some o → upd H p u b = some o := fun b o e => by
    rw [upd_ne (fun z => by rw [z, hp] at e; cases e)]
    exact e
  rcases h with h | ⟨dx, fs, h1, h2⟩
  · exact Or.inl (ne _ _ h)
  · exact Or.inr ⟨dx, fs, ne _ _ h1, ne _ _ h2⟩
theorem rd_isX {K : PySem.W.Frag} {us : List Value} (T : IsXF K us ts fs) (nt : ("tuple" : Str) ∉ ts ++ fs) {σ : L2.St} {H : Hp} {Q : VK} (q : rdE K vs0 (eIsX f ts fs) σ H Q) :
    rdE K vs0 f σ H fun v H1 => ∃ a D b, v = .ref a ∧ ExHere H1 a D ∧ ExcC K D ∧ PySem.W.kitAny K (.ref D) us = some b ∧ ∃ B, Same B H1 ∧ (∀ B' H', Fr B H1 (fun _ => False) B' H' (fun _ => False) → Same B' H' → Q (.bl b) H') := by
  obtain ⟨B, ρ, fs', g, r', ρ', e, k⟩ := q
  obtain ⟨r, ρ1, e0, e1⟩ := M.bind_ok e
  refine ⟨B, ρ, fs', g, r, ρ1, e0, fun v B1 H1 fs1 T1 fr1 g1 ok => ?_⟩
  split at e1
  · rename_i c x
    obtain ⟨⟨h0, h1⟩, _, _⟩ := ok
    subst h1
    have fin : ∀ b : Bool, r' = .own (.p (.bool b)) → ρ' = ρ1 → ∀ B' H', Fr B1 H1 (fun _ => False) B' H' (fun _ => False) → Same B' H' → Q (.bl b) H' := fun b er eρ B' H' fr ex => by
      subst er eρ
      exact k _ B' H' fs1 [] (fr1.trans (fr.weak (fun _ f => f.elim) fun a f => by
        rcases f with f | f
        · exact Or.inr (Or.inl (Or.inl f))
        · cases f)) (g1.grow fr (fun _ _ f => f) ex) ⟨⟨.bl b, rfl⟩, rfl, fun a ha => nomatch ha⟩
    split at e1
    · rename_i hm
      cases e1
      obtain ⟨a, D, q1, q2, q3⟩ := exIs_here g1.ext (fun z => nt (List.mem_append_left _ (z ▸ hm))) h0
      obtain ⟨x1, x2⟩ := T.yes c hm D q2
      exact ⟨a, D, true, q1, q3, x1, x2, B1, g1.ext, fin true rfl rfl⟩
    · split at e1
      · rename_i hm
        cases e1
        obtain ⟨a, D, q1, q2, q3⟩ := exIs_here g1.ext (fun z => nt (List.mem_append_right _ (z ▸ hm))) h0
        obtain ⟨x1, x2⟩ := T.no c hm D q2
        exact ⟨a, D, false, q1, q3, x1, x2, B1, g1.ext, fin false rfl rfl⟩
      · cases e1
  · cases e1
theorem de_isX {cV : V} {cv : Value} (T : IsXF X.K [cv] ts fs) (nt : ("tuple" : Str) ∉ ts ++ fs) (hcv : ∀ u, RelV cV u → u = cv) (hg : Gl X "isinstance") (hm : X.mg "isinstance" = none) (ho : PE X o (rdE X.K vs0 f)) (he : PE X e (tC cV))
    (hs : starEach [o, e] X.env = (false, eval o X.env) :: starEach [e] X.env := by rfl) (hs2 : starEach [e] X.env = (false, eval e X.env) :: starEach [] X.env := by rfl) (hpl : (backTo pos (starEach [e] X.env)).any (·.1) = false := by rfl) :
    PE X (.Call (.Name "isinstance" p) [o, e] [] pos) (rdE X.K vs0 (eIsX f ts fs)) :=
  PE.imp (pe_callB call_isV hg hm (by decide +kernel) (pa_cons ho (pa_cons he pa_nil hs2) hs) (by decide) (by decide) hs hpl) fun σ H Q q => rdE_imp (rd_isX T nt q) fun v H1 ⟨a, D, b, h1, h2, h3, h4, B, ex, k⟩ => by
    subst h1
    exact ⟨a, D, cV, cv, b, rfl, hcv, h2, h3, kitAny_one h4, k B H1 (Fr.refl _ _ _) ex⟩
theorem de_isXT {es : List Expr} {vs : List V} {us : List Value} {tpos : Pos} {kk : Nat} (T : IsXF X.K us ts fs) (nt : ("tuple" : Str) ∉ ts ++ fs) (hp : Paired ClsV vs us) (hlen : vs.length ≤ sizeLine) (hg : Gl X "isinstance") (hm : X.mg "isinstance" = none) (ho : PE X o (rdE X.K vs0 f)) (he : PA X es (fun _ H Q => Q vs H))
    (hs : starEach [o, .Tuple es kk tpos] X.env = (false, eval o X.env) :: starEach [.Tuple es kk tpos] X.env := by rfl) (hs2 : starEach [.Tuple es kk tpos] X.env = (false, eval (.Tuple es kk tpos) X.env) :: starEach [] X.env := by rfl) (hpl : (backTo pos (starEach [.Tuple es kk tpos] X.env)).any (·.1) = false := by rfl) :
    PE X (.Call (.Name "isinstance" p) [o, .Tuple es kk tpos] [] pos) (rdE X.K vs0 (eIsX f ts fs)) :=
  PE.imp (pe_callB call_isVT hg hm (by decide +kernel) (pa_cons ho (pa_cons (pe_tup he) pa_nil hs2) hs) (by decide) (by decide) hs hpl) fun σ H Q q => rdE_imp (rd_isX T nt q) fun v H1 ⟨a, D, b, h1, h2, h3, h4, B, ex, k⟩ => by
    subst h1
    exact ⟨hlen, fun p hp' => ⟨a, D, p, vs, us, b, rfl, upd_same, hp, h2.up hp', h3, h4, k _ _ (Fr.new hp' ex) (same_upd ex)⟩⟩
end
theorem pe_excV {X : Cx} {C : Addr} {bmB : List Value} {B newId initId : String} {x : Str} {e : Expr} {ta : TE} {p pos : Pos} (F : ExcBaseFacts B newId initId bmB) (q : PySem.W.excIn X.K C bmB newId = true) (gC : X.mg x = some (.ref C)) (kC : PySem.W.keepIn X.K (.ref C) = true) (hg : Gl X x)
    (he : PE X e ta) (hs : starEach [e] X.env = (false, eval e X.env) :: starEach [] X.env := by rfl) (hdb : (x == ("__debug__" : Str)) = false := by decide) :
    PE X (.Call (.Name x p) [e] [] pos) (fun σ H Q => ta σ H fun _ H1 => ∀ a, H1 a = none → Q (.ref a) (upd H1 a (ExV (.ref C) none a))) := by
  refine ⟨fun pins s σ H Q I h => ?_⟩
  refine wpAny_Call_Name_kw (ld_glob I hg gC ?_ hdb)
  refine PySem.W.callWith_K (h₀ := X.base) I.ok.mod.kin kC ?_ hs (by rfl)
  rw [hs]
  show wpAny _ _ (spliced ((false, eval e X.env) :: backTo pos (starEach [] X.env))) _ _ s
  refine Calls.spliced_cons (thn (he.run pins s σ H _ I h) fun u s1 ⟨v, H1, I1, r1, q1⟩ => ?_)
  refine Calls.spliced_nil ⟨I1.kIn, ?_⟩
  show wpAny _ _ (call (.ref C) [u]) _ _ _
  obtain ⟨bm, N, nm, qn, bs, hdct, sn, sub, ab, col, dd, k0, k1, k2, k3, k5, mN, hC, hN, hni, T⟩ := exc_obj I1.kIn q
  refine wpAny_call_exc_subT F T hC hN hni (fun h' a hm => ?_) (by show 1 ≤ sizeLine; rw [sizeLine_eq]; omega)
  have hn : H1 a = none := I1.hok.gone hm.new
  obtain ⟨t, ht, _, _⟩ := hm.there
  exact ⟨.ref a, upd H1 a (ExV (.ref C) none a), I1.laidN hm.keeps hm.new hn (exV_ok ht ⟨rfl, rfl⟩ rfl), rfl, q1 a hn⟩
def eExNew (c : Str) : M Rs := fun ρ => some (.ok (.own (.ex c none)) ρ)
theorem de_exNew {X : Cx} {vs0 : List V} {x m : Str} {j : Nat} {p p2 pos : Pos} (T : ExcK X.K X.mg x) (hg : Gl X x) (hdb : (x == ("__debug__" : Str)) = false := by decide) :
    PE X (.Call (.Name x p) [.Constant (.str m) j p2] [] pos) (rdE X.K vs0 (eExNew x)) := by
  obtain ⟨C, hC, gC, xC, kC, bC, tC⟩ := T.ex
  refine PE.imp (pe_excV PySem.F.excBase_ValueError xC gC kC hg pe_str (hdb := hdb)) fun σ H Q q a na => ?_
  obtain ⟨B, ρ, fs, g, r, ρ', e, k⟩ := q
  cases e
  have fr := Fr.new (o := ExV (.ref C) none a) na g.ext
  exact k (.ref a) _ _ fs [] (fr.weak (fun _ z => z.elim) fun b h => by
    rcases h with h | h
    · exact Or.inr (Or.inl h)
    · cases h) (g.grow fr (fun _ _ z => z) (same_upd g.ext)) ⟨⟨⟨a, C, rfl, hC, upd_same⟩, rfl⟩, rfl, fun b hb => nomatch hb⟩
end Pd
set_option Elab.async false
set_option linter.all false
set_option maxRecDepth 100000
set_option maxHeartbeats 1000000
namespace Pd
open PySem PySem.Spec PyProof.Rows L2
namespace B
def EvS (g : SX) (ρ : Env) (Q : OutS → Prop) : Prop := ∃ o, g ρ = some o ∧ Q o
def EvE (f : EX) (ρ : Env) (Q : OutE → Prop) : Prop := ∃ o, f ρ = some o ∧ Q o
def SpX (F : FX) (ss : List Sl) (Q : OutF → Prop) : Prop := ∃ o, F ss = some o ∧ Q o
theorem EvS.mono {g : SX} {ρ : Env} {Q Q' : OutS → Prop} (h : EvS g ρ Q) (i : ∀ o, Q o → Q' o) : EvS g ρ Q' := by
  obtain ⟨o, e, q⟩ := h
  exact ⟨o, e, i o q⟩
theorem SpX.mono {F : FX} {ss : List Sl} {Q Q' : OutF → Prop} (h : SpX F ss Q) (i : ∀ o, Q o → Q' o) : SpX F ss Q' := by
  obtain ⟨o, e, q⟩ := h
  exact ⟨o, e, i o q⟩
section
variable {ρ : Env}
@[simp ↓] theorem evS_lift {g : M Fl} {Q : OutS → Prop} : EvS (xLift g) ρ Q ↔ Ev g ρ fun fl ρ' => Q (.fl fl ρ') := by
  constructor
  · rintro ⟨o, e, q⟩
    unfold xLift at e
    split at e
    · rename_i fl ρ' h
      cases e
      exact ⟨fl, ρ', h, q⟩
    · cases e
  · rintro ⟨fl, ρ', h, q⟩
    exact ⟨_, by unfold xLift; rw [h], q⟩
def seqX (b : SX) (Q : OutS → Prop) : OutS → Prop
  | .fl .nx ρ' => EvS b ρ' Q
  | o => Q o
@[simp ↓] theorem seqX_nx {b : SX} {Q : OutS → Prop} : seqX b Q (.fl .nx ρ) = EvS b ρ Q := rfl
@[simp ↓] theorem seqX_rt {b : SX} {Q : OutS → Prop} {s : Sl} : seqX b Q (.fl (.rt s) ρ) = Q (.fl (.rt s) ρ) := rfl
@[simp ↓] theorem seqX_bk {b : SX} {Q : OutS → Prop} : seqX b Q (.fl .bk ρ) = Q (.fl .bk ρ) := rfl
@[simp ↓] theorem seqX_ct {b : SX} {Q : OutS → Prop} : seqX b Q (.fl .ct ρ) = Q (.fl .ct ρ) := rfl
@[simp ↓] theorem seqX_ex {b : SX} {Q : OutS → Prop} {c : Str} {x : Option (Str × D)} : seqX b Q (.exc c x ρ) = Q (.exc c x ρ) := rfl
@[simp ↓] theorem evS_seq {a b : SX} {Q : OutS → Prop} : EvS (xSeq a b) ρ Q ↔ EvS a ρ (fun o => seqX b Q o) := by
  constructor
  · rintro ⟨o, e, q⟩
    unfold xSeq at e
    split at e
    · rename_i ρ' h
      exact ⟨_, h, o, e, q⟩
    · rename_i hn
      refine ⟨o, e, ?_⟩
      show seqX b Q o
      unfold seqX
      split
      · rename_i ρ'
        exact (hn ρ' e).elim
      · exact q
  · rintro ⟨o, e, q⟩
    unfold seqX at q
    split at q
    · obtain ⟨o', e', q'⟩ := q
      exact ⟨o', by unfold xSeq; rw [e]; exact e', q'⟩
    · rename_i hn
      refine ⟨o, ?_, q⟩
      unfold xSeq
      rw [e]
      cases o with
      | fl f ρ' =>
        cases f with
        | nx => exact (hn ρ' rfl).elim
        | bk => rfl
        | ct => rfl
        | rt s => rfl
      | exc c x ρ' => rfl
@[simp ↓] theorem evS_if {t : M Bool} {a b : SX} {Q : OutS → Prop} : EvS (xIf t a b) ρ Q ↔ Ev t ρ fun c ρ' => if c = true then EvS a ρ' Q else EvS b ρ' Q := by
  constructor
  · rintro ⟨o, e, q⟩
    unfold xIf at e
    split at e
    · rename_i ρ' h
      exact ⟨true, ρ', h, o, e, q⟩
    · rename_i ρ' h
      exact ⟨false, ρ', h, o, e, q⟩
    · cases e
  · rintro ⟨c, ρ', h, q⟩
    cases c with
    | true =>
      obtain ⟨o, e, q⟩ := q
      exact ⟨o, by unfold xIf; rw [h]; exact e, q⟩
    | false =>
      obtain ⟨o, e, q⟩ := q
      exact ⟨o, by unfold xIf; rw [h]; exact e, q⟩
def thenX (g : Rs → M Fl) (Q : OutS → Prop) : OutE → Prop
  | .ok r ρ' => Ev (g r) ρ' fun fl ρ2 => Q (.fl fl ρ2)
  | .exc c x ρ' => Q (.exc c x ρ')
@[simp ↓] theorem thenX_ok {g : Rs → M Fl} {Q : OutS → Prop} {r : Rs} : thenX g Q (.ok r ρ) = Ev (g r) ρ fun fl ρ2 => Q (.fl fl ρ2) := rfl
@[simp ↓] theorem thenX_ex {g : Rs → M Fl} {Q : OutS → Prop} {c : Str} {x : Option (Str × D)} : thenX g Q (.exc c x ρ) = Q (.exc c x ρ) := rfl
theorem evS_then {f : EX} {g : Rs → M Fl} {Q : OutS → Prop} : EvS (xThen f g) ρ Q ↔ EvE f ρ (fun o => thenX g Q o) := by
  constructor
  · rintro ⟨o, e, q⟩
    unfold xThen at e
    split at e
    · rename_i r ρ' h
      exact ⟨_, h, evS_lift.mp ⟨o, e, q⟩⟩
    · rename_i c x ρ' h
      cases e
      exact ⟨_, h, q⟩
    · cases e
  · rintro ⟨o, e, q⟩
    cases o with
    | ok r ρ' =>
      obtain ⟨o', e', q'⟩ := evS_lift.mpr (show Ev (g r) ρ' _ from q)
      exact ⟨o', by unfold xThen; rw [e]; exact e', q'⟩
    | exc c x ρ' => exact ⟨_, by unfold xThen; rw [e], q⟩
@[simp ↓] theorem evS_set {i : Nat} {f : EX} {Q : OutS → Prop} : EvS (xSet i f) ρ Q ↔ EvE f ρ (fun o => thenX (fun r => gSet i (M.ret r)) Q o) := by
  rw [show xSet i f = xThen f (fun r => M.bind (takeR r) fun s ρ => if i < ρ.length then some (.ok .nx (ρ.set i (some s))) else none) from rfl, evS_then]
  exact Iff.rfl
@[simp ↓] theorem evE_bind {fa : M (List Rs)} {g : List Rs → EX} {Q : OutE → Prop} : EvE (xBind fa g) ρ Q ↔ Ev fa ρ fun rs ρ' => EvE (g rs) ρ' Q := by
  constructor
  · rintro ⟨o, e, q⟩
    unfold xBind at e
    split at e
    · rename_i rs ρ' h
      exact ⟨rs, ρ', h, o, e, q⟩
    · cases e
  · rintro ⟨rs, ρ', h, o, e, q⟩
    exact ⟨o, by unfold xBind; rw [h]; exact e, q⟩
def outFX (rs : List Rs) (ρ : Env) (Q : OutE → Prop) : OutF → Prop
  | .ret r ss' => Q (.ok (.own r) (wbL rs ss' ρ))
  | .exc c f ss' => Q (.exc c f (wbL rs ss' ρ))
@[simp ↓] theorem outFX_ret {rs : List Rs} {Q : OutE → Prop} {r : Sl} {ss : List Sl} : outFX rs ρ Q (.ret r ss) = Q (.ok (.own r) (wbL rs ss ρ)) := rfl
@[simp ↓] theorem outFX_ex {rs : List Rs} {Q : OutE → Prop} {c : Str} {x : Option (Str × D)} {ss : List Sl} : outFX rs ρ Q (.exc c x ss) = Q (.exc c x (wbL rs ss ρ)) := rfl
def callX (F : FX) (rs : List Rs) (ρ : Env) (Q : OutE → Prop) : Option (List Sl) → Prop
  | some ss => SpX F ss fun o => outFX rs ρ Q o
  | none => False
@[simp ↓] theorem callX_some {F : FX} {rs : List Rs} {Q : OutE → Prop} {ss : List Sl} : callX F rs ρ Q (some ss) = SpX F ss fun o => outFX rs ρ Q o := rfl
@[simp ↓] theorem evE_call {n : Nat} {F : FX} {rs : List Rs} {Q : OutE → Prop} : EvE (xCall n F rs) ρ Q ↔ (rs.length = n ∧ (roots rs).Nodup) ∧ callX F rs ρ Q (argL rs ρ) := by
  constructor
  · rintro ⟨o, e, q⟩
    unfold xCall at e
    split at e
    · rename_i hc
      refine ⟨hc, ?_⟩
      split at e
      · rename_i ss h1
        rw [h1]
        split at e
        · rename_i r ss' h2
          cases e
          exact ⟨_, h2, q⟩
        · rename_i c f ss' h2
          cases e
          exact ⟨_, h2, q⟩
        · cases e
      · cases e
    · cases e
  · rintro ⟨hc, q⟩
    cases h1 : argL rs ρ with
    | none => rw [h1] at q; exact q.elim
    | some ss =>
      rw [h1] at q
      obtain ⟨o, h2, q⟩ := q
      cases o with
      | ret r ss' => exact ⟨_, by unfold xCall; rw [if_pos hc, h1]; dsimp only; rw [h2], q⟩
      | exc c f ss' => exact ⟨_, by unfold xCall; rw [if_pos hc, h1]; dsimp only; rw [h2], q⟩
def endX (ss : List Sl) (Q : OutF → Prop) : OutS → Prop
  | .fl (.rt s) ρ' => argQ (fun ss' => Q (.ret s ss')) (endE 0 ss ρ')
  | .fl .nx ρ' => argQ (fun ss' => Q (.ret (.p .none) ss')) (endE 0 ss ρ')
  | .exc c f ρ' => argQ (fun ss' => Q (.exc c f ss')) (endE 0 ss ρ')
  | _ => False
@[simp ↓] theorem endX_rt {ss : List Sl} {Q : OutF → Prop} {s : Sl} : endX ss Q (.fl (.rt s) ρ) = argQ (fun ss' => Q (.ret s ss')) (endE 0 ss ρ) := rfl
@[simp ↓] theorem endX_nx {ss : List Sl} {Q : OutF → Prop} : endX ss Q (.fl .nx ρ) = argQ (fun ss' => Q (.ret (.p .none) ss')) (endE 0 ss ρ) := rfl
@[simp ↓] theorem endX_ex {ss : List Sl} {Q : OutF → Prop} {c : Str} {x : Option (Str × D)} : endX ss Q (.exc c x ρ) = argQ (fun ss' => Q (.exc c x ss')) (endE 0 ss ρ) := rfl
@[simp ↓] theorem spX_mkX {m : Nat} {g : SX} {ss : List Sl} {Q : OutF → Prop} : SpX (mkX m g) ss Q ↔ EvS g (startE m ss) (fun o => endX ss Q o) := by
  constructor
  · rintro ⟨o, e, q⟩
    unfold mkX at e
    split at e
    · rename_i s ρ' h
      refine ⟨_, h, ?_⟩
      show argQ _ _
      cases h2 : endE 0 ss ρ' with
      | none => rw [h2] at e; cases e
      | some t => rw [h2] at e; cases e; exact q
    · rename_i ρ' h
      refine ⟨_, h, ?_⟩
      show argQ _ _
      cases h2 : endE 0 ss ρ' with
      | none => rw [h2] at e; cases e
      | some t => rw [h2] at e; cases e; exact q
    · rename_i c x ρ' h
      refine ⟨_, h, ?_⟩
      show argQ _ _
      cases h2 : endE 0 ss ρ' with
      | none => rw [h2] at e; cases e
      | some t => rw [h2] at e; cases e; exact q
    · cases e
  · rintro ⟨o, e, q⟩
    cases o with
    | fl f ρ' =>
      cases f with
      | nx =>
        have q : argQ _ (endE 0 ss ρ') := q
        cases h2 : endE 0 ss ρ' with
        | none => rw [h2] at q; exact q.elim
        | some t => rw [h2] at q; exact ⟨_, by unfold mkX; rw [e]; dsimp only; rw [h2]; rfl, q⟩
      | bk => exact q.elim
      | ct => exact q.elim
      | rt s =>
        have q : argQ _ (endE 0 ss ρ') := q
        cases h2 : endE 0 ss ρ' with
        | none => rw [h2] at q; exact q.elim
        | some t => rw [h2] at q; exact ⟨_, by unfold mkX; rw [e]; dsimp only; rw [h2]; rfl, q⟩
    | exc c x ρ' =>
      have q : argQ _ (endE 0 ss ρ') := q
      cases h2 : endE 0 ss ρ' with
      | none => rw [h2] at q; exact q.elim
      | some t => rw [h2] at q; exact ⟨_, by unfold mkX; rw [e]; dsimp only; rw [h2]; rfl, q⟩
def tryX (i j : Nat) (cs : List Str) (Q : Fl → Env → Prop) : OutS → Prop
  | .fl fl ρ' => Q fl ρ'
  | .exc c f ρ' => (c ∈ cs ∧ i < ρ'.length ∧ j < ρ'.length ∧ i ≠ j) ∧ Q .nx ((ρ'.set j (some (.ex c f))).set i none)
@[simp ↓] theorem tryX_fl {i j : Nat} {cs : List Str} {Q : Fl → Env → Prop} {f : Fl} : tryX i j cs Q (.fl f ρ) = Q f ρ := rfl
@[simp ↓] theorem tryX_ex {i j : Nat} {cs : List Str} {Q : Fl → Env → Prop} {c : Str} {x : Option (Str × D)} : tryX i j cs Q (.exc c x ρ) = ((c ∈ cs ∧ i < ρ.length ∧ j < ρ.length ∧ i ≠ j) ∧ Q .nx ((ρ.set j (some (.ex c x))).set i none)) := rfl
@[simp ↓] theorem ev_try {i j : Nat} {cs : List Str} {g : SX} {Q : Fl → Env → Prop} : Ev (gTry i j cs g) ρ Q ↔ EvS g ρ (fun o => tryX i j cs Q o) := by
  constructor
  · rintro ⟨fl, ρ', e, q⟩
    unfold gTry at e
    split at e
    · rename_i fl' ρ1 h
      cases e
      exact ⟨_, h, q⟩
    · rename_i c f ρ1 h
      split at e
      · rename_i hc
        cases e
        exact ⟨_, h, hc, q⟩
      · cases e
    · cases e
  · rintro ⟨o, e, q⟩
    cases o with
    | fl f ρ' => exact ⟨f, ρ', by unfold gTry; rw [e], q⟩
    | exc c x ρ' => exact ⟨_, _, by unfold gTry; rw [e]; exact if_pos q.1, q.2⟩
end
section
variable {ρ : Env}
def isXQ (ts fs : List Str) (Q : Rs → Env → Prop) (ρ : Env) : Rs → Prop
  | .own (.ex c _) => if c ∈ ts then Q (.own (.p (.bool true))) ρ else c ∈ fs ∧ Q (.own (.p (.bool false))) ρ
  | _ => False
@[simp ↓] theorem isXQ_x {ts fs : List Str} {c : Str} {f : Option (Str × D)} {Q : Rs → Env → Prop} : isXQ ts fs Q ρ (.own (.ex c f)) = if c ∈ ts then Q (.own (.p (.bool true))) ρ else c ∈ fs ∧ Q (.own (.p (.bool false))) ρ := rfl
@[simp ↓] theorem ev_isX {f : M Rs} {ts fs : List Str} {Q : Rs → Env → Prop} : Ev (eIsX f ts fs) ρ Q ↔ Ev f ρ fun r ρ1 => isXQ ts fs Q ρ1 r := by
  constructor
  · rintro ⟨r, ρ', e, q⟩
    obtain ⟨r0, ρ1, e0, e1⟩ := M.bind_ok e
    refine ⟨r0, ρ1, e0, ?_⟩
    split at e1
    · rename_i c x
      show if c ∈ ts then _ else _
      split at e1
      · rename_i h
        cases e1
        rw [if_pos h]
        exact q
      · rename_i h
        split at e1
        · rename_i h2
          cases e1
          rw [if_neg h]
          exact ⟨h2, q⟩
        · cases e1
    · cases e1
  · rintro ⟨r0, ρ1, e0, q⟩
    unfold isXQ at q
    split at q
    · rename_i c x
      by_cases h : c ∈ ts
      · rw [if_pos h] at q
        exact ⟨_, _, by unfold eIsX M.bind; rw [e0]; exact if_pos h, q⟩
      · rw [if_neg h] at q
        exact ⟨_, _, by unfold eIsX M.bind; rw [e0]; exact (if_neg h).trans (if_pos q.1), q.2⟩
    · exact q.elim
@[simp ↓] theorem ev_exNew {c : Str} {Q : Rs → Env → Prop} : Ev (eExNew c) ρ Q ↔ Q (.own (.ex c none)) ρ := by
  constructor
  · rintro ⟨r, ρ', e, q⟩
    cases e
    exact q
  · exact fun q => ⟨_, _, rfl, q⟩
end
end B
end Pd
set_option Elab.async false
set_option linter.all false
set_option maxRecDepth 100000
set_option maxHeartbeats 1000000
namespace Pd
open PySem PySem.Spec PyProof.Rows L2
def EvS (g : SX) (ρ : Env) (Q : OutS → Prop) [Fx Q] : Prop := B.EvS g ρ Q
def EvE (f : EX) (ρ : Env) (Q : OutE → Prop) [Fx Q] : Prop := B.EvE f ρ Q
def SpX (F : FX) (ss : List Sl) (Q : OutF → Prop) [Fx Q] : Prop := B.SpX F ss Q
theorem EvS.mono {g : SX} {ρ : Env} {Q Q' : OutS → Prop} (h : EvS g ρ Q) (i : ∀ o, Q o → Q' o) : EvS g ρ Q' := B.EvS.mono h i
theorem SpX.mono {F : FX} {ss : List Sl} {Q Q' : OutF → Prop} (h : SpX F ss Q) (i : ∀ o, Q o → Q' o) : SpX F ss Q' := B.SpX.mono h i
section
variable {ρ : Env}
@[simp ↓] theorem evS_lift {g : M Fl} {Q : OutS → Prop} : EvS (xLift g) ρ Q ↔ Ev g ρ fun fl ρ' => Q (.fl fl ρ') := B.evS_lift
def seqX (b : SX) (Q : OutS → Prop) [Fx Q] (o0 : OutS) : Prop := B.seqX b Q o0
@[simp ↓] theorem seqX_nx {b : SX} {Q : OutS → Prop} : seqX b Q (.fl .nx ρ) = EvS b ρ Q := B.seqX_nx
@[simp ↓] theorem seqX_rt {b : SX} {Q : OutS → Prop} {s : Sl} : seqX b Q (.fl (.rt s) ρ) = Q (.fl (.rt s) ρ) := B.seqX_rt
@[simp ↓] theorem seqX_bk {b : SX} {Q : OutS → Prop} : seqX b Q (.fl .bk ρ) = Q (.fl .bk ρ) := B.seqX_bk
@[simp ↓] theorem seqX_ct {b : SX} {Q : OutS → Prop} : seqX b Q (.fl .ct ρ) = Q (.fl .ct ρ) := B.seqX_ct
@[simp ↓] theorem seqX_ex {b : SX} {Q : OutS → Prop} {c : Str} {x : Option (Str × D)} : seqX b Q (.exc c x ρ) = Q (.exc c x ρ) := B.seqX_ex
@[simp ↓] theorem evS_seq {a b : SX} {Q : OutS → Prop} : EvS (xSeq a b) ρ Q ↔ EvS a ρ (fun o => seqX b Q o) := B.evS_seq
@[simp ↓] theorem evS_if {t : M Bool} {a b : SX} {Q : OutS → Prop} : EvS (xIf t a b) ρ Q ↔ Ev t ρ fun c ρ' => if c = true then EvS a ρ' Q else EvS b ρ' Q := B.evS_if
def thenX (g : Rs → M Fl) (Q : OutS → Prop) [Fx Q] (o0 : OutE) : Prop := B.thenX g Q o0
@[simp ↓] theorem thenX_ok {g : Rs → M Fl} {Q : OutS → Prop} {r : Rs} : thenX g Q (.ok r ρ) = Ev (g r) ρ fun fl ρ2 => Q (.fl fl ρ2) := B.thenX_ok
@[simp ↓] theorem thenX_ex {g : Rs → M Fl} {Q : OutS → Prop} {c : Str} {x : Option (Str × D)} : thenX g Q (.exc c x ρ) = Q (.exc c x ρ) := B.thenX_ex
theorem evS_then {f : EX} {g : Rs → M Fl} {Q : OutS → Prop} : EvS (xThen f g) ρ Q ↔ EvE f ρ (fun o => thenX g Q o) := B.evS_then
@[simp ↓] theorem evS_set {i : Nat} {f : EX} {Q : OutS → Prop} : EvS (xSet i f) ρ Q ↔ EvE f ρ (fun o => thenX (fun r => gSet i (M.ret r)) Q o) := B.evS_set
@[simp ↓] theorem evE_bind {fa : M (List Rs)} {g : List Rs → EX} {Q : OutE → Prop} : EvE (xBind fa g) ρ Q ↔ Ev fa ρ fun rs ρ' => EvE (g rs) ρ' Q := B.evE_bind
def outFX (rs : List Rs) (ρ : Env) (Q : OutE → Prop) [Fx Q] (o0 : OutF) : Prop := B.outFX rs ρ Q o0
@[simp ↓] theorem outFX_ret {rs : List Rs} {Q : OutE → Prop} {r : Sl} {ss : List Sl} : outFX rs ρ Q (.ret r ss) = Q (.ok (.own r) (wbL rs ss ρ)) := B.outFX_ret
@[simp ↓] theorem outFX_ex {rs : List Rs} {Q : OutE → Prop} {c : Str} {x : Option (Str × D)} {ss : List Sl} : outFX rs ρ Q (.exc c x ss) = Q (.exc c x (wbL rs ss ρ)) := B.outFX_ex
def callX (F : FX) (rs : List Rs) (ρ : Env) (Q : OutE → Prop) [Fx Q] (o0 : Option (List Sl)) : Prop := B.callX F rs ρ Q o0
@[simp ↓] theorem callX_some {F : FX} {rs : List Rs} {Q : OutE → Prop} {ss : List Sl} : callX F rs ρ Q (some ss) = SpX F ss fun o => outFX rs ρ Q o := B.callX_some
@[simp ↓] theorem evE_call {n : Nat} {F : FX} {rs : List Rs} {Q : OutE → Prop} : EvE (xCall n F rs) ρ Q ↔ (rs.length = n ∧ (roots rs).Nodup) ∧ callX F rs ρ Q (argL rs ρ) := B.evE_call
def endX (ss : List Sl) (Q : OutF → Prop) [Fx Q] (o0 : OutS) : Prop := B.endX ss Q o0
@[simp ↓] theorem endX_rt {ss : List Sl} {Q : OutF → Prop} {s : Sl} : endX ss Q (.fl (.rt s) ρ) = argQ (fun ss' => Q (.ret s ss')) (endE 0 ss ρ) := B.endX_rt
@[simp ↓] theorem endX_nx {ss : List Sl} {Q : OutF → Prop} : endX ss Q (.fl .nx ρ) = argQ (fun ss' => Q (.ret (.p .none) ss')) (endE 0 ss ρ) := B.endX_nx
@[simp ↓] theorem endX_ex {ss : List Sl} {Q : OutF → Prop} {c : Str} {x : Option (Str × D)} : endX ss Q (.exc c x ρ) = argQ (fun ss' => Q (.exc c x ss')) (endE 0 ss ρ) := B.endX_ex
@[simp ↓] theorem spX_mkX {m : Nat} {g : SX} {ss : List Sl} {Q : OutF → Prop} : SpX (mkX m g) ss Q ↔ EvS g (startE m ss) (fun o => endX ss Q o) := B.spX_mkX
def tryX (i j : Nat) (cs : List Str) (Q : Fl → Env → Prop) [Fx Q] (o0 : OutS) : Prop := B.tryX i j cs Q o0
@[simp ↓] theorem tryX_fl {i j : Nat} {cs : List Str} {Q : Fl → Env → Prop} {f : Fl} : tryX i j cs Q (.fl f ρ) = Q f ρ := B.tryX_fl
@[simp ↓] theorem tryX_ex {i j : Nat} {cs : List Str} {Q : Fl → Env → Prop} {c : Str} {x : Option (Str × D)} : tryX i j cs Q (.exc c x ρ) = ((c ∈ cs ∧ i < ρ.length ∧ j < ρ.length ∧ i ≠ j) ∧ Q .nx ((ρ.set j (some (.ex c x))).set i none)) := B.tryX_ex
@[simp ↓] theorem ev_try {i j : Nat} {cs : List Str} {g : SX} {Q : Fl → Env → Prop} : Ev (gTry i j cs g) ρ Q ↔ EvS g ρ (fun o => tryX i j cs Q o) := B.ev_try
end
section
variable {ρ : Env}
def isXQ (ts fs : List Str) (Q : Rs → Env → Prop) [Fx Q] (ρ : Env) (o0 : Rs) : Prop := B.isXQ ts fs Q ρ o0
@[simp ↓] theorem isXQ_x {ts fs : List Str} {c : Str} {f : Option (Str × D)} {Q : Rs → Env → Prop} : isXQ ts fs Q ρ (.own (.ex c f)) = if c ∈ ts then Q (.own (.p (.bool true))) ρ else c ∈ fs ∧ Q (.own (.p (.bool false))) ρ := B.isXQ_x
@[simp ↓] theorem ev_isX {f : M Rs} {ts fs : List Str} {Q : Rs → Env → Prop} : Ev (eIsX f ts fs) ρ Q ↔ Ev f ρ fun r ρ1 => isXQ ts fs Q ρ1 r := B.ev_isX
@[simp ↓] theorem ev_exNew {c : Str} {Q : Rs → Env → Prop} : Ev (eExNew c) ρ Q ↔ Q (.own (.ex c none)) ρ := B.ev_exNew
end
end Pd
set_option Elab.async false
set_option linter.all false
set_option maxRecDepth 100000
set_option maxHeartbeats 1000000
namespace Pd
open PySem PySem.Spec PyProof.Rows L2
section
variable {K : PySem.W.Frag} {mg : Str → Option Value} {C c : Str} {A D A0 : Addr} {P : Str → Addr → Prop}
theorem ex_nil : ∀ c ∈ ([] : List Str), ∀ A, PySem.W.nsIn K mainGlobals c = some (some (.ref A)) → P c A := fun c h => nomatch h
theorem ex_cons {cs : List Str} (a : PySem.W.nsIn K mainGlobals c = some (some (.ref A0))) (p : P c A0) (h : ∀ c ∈ cs, ∀ A, PySem.W.nsIn K mainGlobals c = some (some (.ref A)) → P c A) :
    ∀ c' ∈ c :: cs, ∀ A, PySem.W.nsIn K mainGlobals c' = some (some (.ref A)) → P c' A := by
  intro c' hc A hA
  rcases List.mem_cons.mp hc with e | e
  · subst e
    rw [a] at hA
    cases hA
    exact p
  · exact h c' e A hA
theorem excK_of (a : PySem.W.nsIn K mainGlobals c = some (some (.ref A))) (g : mg c = some (.ref A)) (x : PySem.W.excIn K A [.type "ValueError", .type "Exception", .type "BaseException", .type "object"] "ValueError.__new__" = true) (k : PySem.W.keepIn K (.ref A) = true) (b : PySem.W.subIn K (.ref A) (.type "BaseException") = some true)
    (t : PySem.W.typeIn K (.ref A) = some (.type "type")) : ExcK K mg c := ⟨A, a, g, x, k, b, t⟩
theorem exm_of {b : Bool} (hb : PySem.W.subIn K (.ref D) (.type "BaseException") = some true) (hd : PySem.W.hasDictIn K D = true) (ht : PySem.W.typeIn K (.ref D) = some (.type "type")) (s : PySem.W.subIn K (.ref A) (.ref D) = some b) : PySem.W.exmOne K (.ref A) (.ref D) = some b := PySem.W.exm_ref hb hd ht s
theorem catch_of {cs : List Str} (g : mg C = some (.ref D)) (h : ∀ c ∈ cs, ∀ A, PySem.W.nsIn K mainGlobals c = some (some (.ref A)) → PySem.W.exmOne K (.ref A) (.ref D) = some true) : Catch K mg C cs := ⟨D, g, h⟩
theorem kit_ref {b : Bool} (hd : PySem.W.hasDictIn K D = true) (ht : PySem.W.typeIn K (.ref D) = some (.type "type")) (self : PySem.W.subIn K (.ref A) (.ref A) = some true) (s : PySem.W.subIn K (.ref A) (.ref D) = some b) : PySem.W.kitOne K (.ref A) (.ref D) = some b := by
  unfold PySem.W.kitOne
  by_cases e : (Value.ref A == Value.ref D) = true
  · rw [if_pos e]
    have : A = D := by simpa using e
    subst this
    rw [self] at s
    exact s
  · rw [if_neg e]
    obtain ⟨cd, hc, _⟩ := PySem.W.any_some hd
    have q : ((PySem.W.clsIn K D).isSome && PySem.W.typeIn K (.ref D) == some (.type "type")) = true := by
      rw [hc, ht]
      rfl
    exact (if_pos q).trans s
theorem kit_type {b : Bool} {T : String} (hm : PySem.W.kitMeta T = true) (s : PySem.W.subIn K (.ref A) (.type T) = some b) : PySem.W.kitOne K (.ref A) (.type T) = some b := by
  unfold PySem.W.kitOne
  rw [if_neg (by intro z; cases (beq_iff_eq.mp z))]
  exact (if_pos hm).trans s
theorem kit_nil {t : Value} : PySem.W.kitAny K t [] = some false := rfl
theorem kit_yes {t v : Value} {r : List Value} (h : PySem.W.kitOne K t v = some true) : PySem.W.kitAny K t (v :: r) = some true := by
  unfold PySem.W.kitAny
  rw [h]
theorem kit_no {t v : Value} {r : List Value} {b : Bool} (h : PySem.W.kitOne K t v = some false) (q : PySem.W.kitAny K t r = some b) : PySem.W.kitAny K t (v :: r) = some b := by
  rw [PySem.W.kitAny, h]
  exact q
theorem isxf_of {us : List Value} {ts fs : List Str} (h1 : ∀ c ∈ ts, ∀ D, PySem.W.nsIn K mainGlobals c = some (some (.ref D)) → ExcC K D ∧ PySem.W.kitAny K (.ref D) us = some true)
    (h2 : ∀ c ∈ fs, ∀ D, PySem.W.nsIn K mainGlobals c = some (some (.ref D)) → ExcC K D ∧ PySem.W.kitAny K (.ref D) us = some false) : IsXF K us ts fs := ⟨h1, h2⟩
end
end Pd
set_option Elab.async false
set_option linter.all false
set_option maxRecDepth 100000
set_option maxHeartbeats 1000000
namespace Pd
open PySem PySem.Spec PyProof.Rows L2
def oIsX0 : List Rs → M Rs := fun rs ρ => match rs with
  | [.own (.ex _ _), .own (.p .none)] => some (.ok (.own (.p (.bool false))) ρ)
  | rs => oIs rs ρ
theorem exIs_ref {K : PySem.W.Frag} {B : Hp} {v : V} {c : Str} : ∀ {f : Option (Str × D)}, ExIs K B v c f → ∃ a, v = .ref a
  | none, h => by obtain ⟨a, _, h, _⟩ := h; exact ⟨a, h⟩
  | some (x, e), h => by
    rcases h with ⟨_, a, _, _, _, h, _⟩ | ⟨_, a, _, _, _, h, _⟩
    · exact ⟨a, h⟩
    · exact ⟨a, h⟩
theorem bool_fin {K : PySem.W.Frag} {vs0 : List V} {σ : L2.St} {B H : Hp} {ρ : Env} {fs : Nat → List Addr} {Ts : List (List Addr)} {Q : VK} {b : Bool} (g : Good K vs0 B H σ ρ fs)
    (k : ∀ v B' H' fs' T, Fr B H (UnF (InF fs) Ts.flatten) B' H' (UnF (InF fs') T) → Good K vs0 B' H' σ ρ fs' → RsOk K B' H' σ fs' v (.own (.p (.bool b))) T → Q v H') : Q (.bl b) H :=
  k _ B H fs [] ((Fr.refl _ _ _).weak (fun _ h => h) fun a h => by
    rcases h with h | h
    · exact Or.inl (Or.inl h)
    · cases h) g ⟨⟨.bl b, rfl⟩, rfl, fun a ha => nomatch ha⟩
theorem rsAll2 {K : PySem.W.Frag} {B H : Hp} {σ : L2.St} {fs : Nat → List Addr} {r s : Rs} : ∀ {vs : List V} {Ts : List (List Addr)}, RsAll K B H σ fs vs [r, s] Ts → ∃ v w T U, vs = [v, w] ∧ RsOk K B H σ fs v r T ∧ RsOk K B H σ fs w s U
  | [v, w], [T, U], h => ⟨v, w, T, U, rfl, h.1, h.2.1⟩
  | [], _, h => h.elim
  | _ :: _, [], h => h.elim
  | [_], [_], h => h.2.elim
  | [_], _ :: _ :: _, h => h.2.elim
  | _ :: _ :: _, [_], h => h.2.elim
  | _ :: _ :: _ :: _, _ :: _ :: [], h => h.2.2.elim
  | _ :: _ :: [], _ :: _ :: _ :: _, h => h.2.2.elim
  | _ :: _ :: _ :: _, _ :: _ :: _ :: _, h => h.2.2.elim
theorem oIsX0_ok {K : PySem.W.Frag} : OpOk K (r2 rIsAll) oIsX0 := by
  intro vs0 σ B H ρ fs vs rs Ts Q g ok nd r' ρ' e k
  unfold oIsX0 at e
  split at e
  · rename_i c f
    cases e
    obtain ⟨v, w, T, U, rfl, h1, h2⟩ := rsAll2 ok
    obtain ⟨a, rfl⟩ := exIs_ref h1.1.1
    have hw : w = .non := by
      have := h2.1.1
      cases this
      rfl
    exact ⟨_, _, rfl, Or.inl ⟨hw, bool_fin (b := false) g k⟩⟩
  · exact oIs_ok vs0 σ B H ρ fs vs _ Ts Q g ok nd r' ρ' e k
def loopX (t : D → Env → Option Env) (body : SX) : List D → SX
  | [] => fun ρ => some (.fl .nx ρ)
  | d :: l => fun ρ => match t d ρ with
    | none => none
    | some ρ1 => match body ρ1 with
      | none => none
      | some (.exc c f ρ2) => some (.exc c f ρ2)
      | some (.fl fl ρ2) => match fl with
        | .nx => loopX t body l ρ2
        | .ct => loopX t body l ρ2
        | .bk => some (.fl .nx ρ2)
        | .rt s => some (.fl (.rt s) ρ2)
def xFor (src : M (List D)) (t : D → Env → Option Env) (body : SX) : SX := fun ρ => match src ρ with
  | some (.ok l ρ') => loopX t body l ρ'
  | none => none
def WantX (K : PySem.W.Frag) (vs0 : List V) (W : WX) (D : Ends) (B H : Hp) (fs : Nat → List Addr) : OutS → Prop
  | .fl fl ρ' => Want K vs0 D B H fs fl ρ'
  | .exc c f ρ' => ∀ σ' B' H' fs' cls d, Fr B H (InF fs) B' H' (InF fs') → Good K vs0 B' H' σ' ρ' fs' → ExAt K B' c f cls d → W cls d σ' H'
section
variable {K : PySem.W.Frag} {vs0 : List V} {W : WX} {D : Ends} {B H B1 H1 : Hp} {fs fs1 : Nat → List Addr} {o : OutS} {ρ : Env}
theorem WantX.later (w : WantX K vs0 W D B H fs o) (fr : Fr B H (InF fs) B1 H1 (InF fs1)) : WantX K vs0 W D B1 H1 fs1 o := by
  cases o with
  | fl fl ρ' => exact Want.later (fl := fl) w fr
  | exc c f ρ' => exact fun σ2 B2 H2 fs2 cls d fr2 g2 x => w σ2 B2 H2 fs2 cls d (fr.trans fr2) g2 x
theorem rdSX_of {σ : L2.St} {g : SX} (gd : Good K vs0 B H σ ρ fs) (e : g ρ = some o) (w : WantX K vs0 W D B H fs o) : rdSX K vs0 W g D σ H := by
  refine ⟨B, ρ, fs, gd, o, e, ?_⟩
  cases o with
  | fl fl ρ' => cases fl <;> exact w
  | exc c f ρ' => exact w
theorem rdSX_to {σ : L2.St} {g : SX} (q : rdSX K vs0 W g D σ H) : ∃ B ρ fs, Good K vs0 B H σ ρ fs ∧ ∃ o, g ρ = some o ∧ WantX K vs0 W D B H fs o := by
  obtain ⟨B, ρ, fs, gd, o, e, w⟩ := q
  refine ⟨B, ρ, fs, gd, o, e, ?_⟩
  cases o with
  | fl fl ρ' => cases fl <;> exact w
  | exc c f ρ' => exact w
end
section
variable {X : Cx} {vs0 : List V} {W : WX} {tg : Expr}
theorem rd_xfor {K : PySem.W.Frag} {src : M (List D)} {is : List Nat} {t : D → Env → Option Env} {body : SX} {D : Ends} {σ : L2.St} {H : Hp} (q : rdSX K vs0 W (xFor src t body) D σ H) : tFor (rdI K vs0 src) (rdG K vs0 is t) (rdSX K vs0 W body) D σ H := by
  obtain ⟨B, ρ, fs, gd, o, e1, w⟩ := rdSX_to q
  unfold xFor at e1
  split at e1
  · rename_i l ρ1 e2
    refine ⟨B, ρ, fs, gd, l, ρ1, e2, fun J B1 H1 fs1 fr1 g1 jok => ?_⟩
    refine ⟨fun i m σ H => i ≤ l.length ∧ m = l.length - i ∧ ∃ B2 ρ2 fs2, Good K vs0 B2 H σ ρ2 fs2 ∧ Same B1 B2 ∧ loopX t body (l.drop i) ρ2 = some o ∧ WantX K vs0 W D B2 H fs2 o,
      ⟨l.length, Nat.zero_le _, rfl, B1, ρ1, fs1, g1, Same.refl _, by simpa using e1, w.later fr1⟩, ?_⟩
    rintro i m σ2 H2 ⟨hi, rfl, B2, ρ2, fs2, g2, s2, e4, w2⟩
    obtain ⟨j1, j2⟩ := jok B2 H2 s2 g2.ext i
    by_cases hil : i < l.length
    · right
      have hd : l[i]? = some l[i] := List.getElem?_eq_getElem hil
      obtain ⟨jg, jy⟩ := j1 _ hd
      rw [List.drop_eq_getElem_cons hil] at e4
      unfold loopX at e4
      split at e4
      · cases e4
      · rename_i ρ3 e5
        refine ⟨jg, fun σ' H' => (i + 1 ≤ l.length ∧ ∃ B5 ρ5 fs5, Good K vs0 B5 H' σ' ρ5 fs5 ∧ Same B1 B5 ∧ loopX t body (l.drop (i + 1)) ρ5 = some o ∧ WantX K vs0 W D B5 H' fs5 o), fun σ' H' n => ⟨l.length - (i + 1), by omega, n.1, rfl, n.2⟩, fun x H3 hy => ?_⟩
        obtain ⟨B3, fr3, s3, d3⟩ := jy x H3 hy
        have g3 := g2.grow fr3 (fun _ _ f => f) s3
        have fr3' : Fr B2 H2 (InF fs2) B3 H3 (InF fs2) := fr3.weak (fun _ f => f.elim) fun a h => Or.inr (Or.inl h)
        refine ⟨B3, ρ2, fs2, _, ρ3, g3, d3, e5, fun σ4 fs4 g4 s4 _ _ => ?_⟩
        have fr4 : Fr B2 H2 (InF fs2) B3 H3 (InF fs4) := fr3'.weak (fun _ h => h) fun a h => Or.inl (s4 a h)
        split at e4
        · cases e4
        · rename_i c f ρ4 e6
          cases e4
          exact rdSX_of g4 e6 fun σ5 B5 H5 fs5 cls d fr5 g5 x => w2 σ5 B5 H5 fs5 cls d (fr4.trans fr5) g5 x
        · rename_i fl4 ρ4 e6
          refine rdSX_of g4 e6 ?_
          have wn : ∀ σ5 B5 H5 fs5, Fr B3 H3 (InF fs4) B5 H5 (InF fs5) → Good K vs0 B5 H5 σ5 ρ4 fs5 → loopX t body (l.drop (i + 1)) ρ4 = some o →
              i + 1 ≤ l.length ∧ ∃ B5 ρ5 fs5, Good K vs0 B5 H5 σ5 ρ5 fs5 ∧ Same B1 B5 ∧ loopX t body (l.drop (i + 1)) ρ5 = some o ∧ WantX K vs0 W D B5 H5 fs5 o :=
            fun σ5 B5 H5 fs5 fr5 g5 e7 => ⟨hil, B5, ρ4, fs5, g5, (s2.trans fr3.bb).trans fr5.bb, e7, w2.later (fr4.trans fr5)⟩
          cases fl4 with
          | nx => exact fun σ5 B5 H5 fs5 fr5 g5 => wn σ5 B5 H5 fs5 fr5 g5 e4
          | ct => exact fun σ5 B5 H5 fs5 fr5 g5 => wn σ5 B5 H5 fs5 fr5 g5 e4
          | bk =>
            cases e4
            exact fun σ5 B5 H5 fs5 fr5 g5 => w2 σ5 B5 H5 fs5 (fr4.trans fr5) g5
          | rt s =>
            cases e4
            exact fun v σ5 B5 H5 fs5 T fr5 g5 ok => w2 v σ5 B5 H5 fs5 T (fr4.trans fr5) g5 ok
    · left
      refine ⟨j2 (by omega), ?_⟩
      rw [List.drop_eq_nil_of_le (by omega)] at e4
      unfold loopX at e4
      cases e4
      exact w2 σ2 B2 H2 fs2 (Fr.refl _ _ _) g2
  · cases e1
theorem dx_for {iter : Expr} {body : List Stmt} {src : M (List D)} {is : List Nat} {t : D → Env → Option Env} {g : SX} {pos : Pos} (hp : PassesOwn (model X.prog X.w) X.A X.env X.xe) (hc : X.calm = true) (hi : PI X tg iter (rdI X.K vs0 src)) (hg : PG X tg (rdG X.K vs0 is t)) (hb : PSs X body (rdSX X.K vs0 W g))
    (hs : ∀ x, foldedSetIterable iter X.env x = pure x := by intro _; rfl) : PS X (.For tg iter body [] pos) (rdSX X.K vs0 W (xFor src t g)) := PS.imp (ps_for hp hc hi hg hb hs) fun D σ H q => rd_xfor q
end
end Pd
set_option Elab.async false
set_option linter.all false
set_option maxRecDepth 100000
set_option maxHeartbeats 1000000
namespace Pd
open PySem PySem.Spec PyProof.Rows L2
namespace B
section
variable {ρ : Env}
@[simp ↓] theorem ev_isX0_ex {c : Str} {f : Option (Str × D)} {Q : Rs → Env → Prop} : Ev (oIsX0 [.own (.ex c f), .own (.p .none)]) ρ Q ↔ Q (.own (.p (.bool false))) ρ := by
  constructor
  · rintro ⟨a, ρ', e, q⟩
    cases e
    exact q
  · exact fun q => ⟨_, _, rfl, q⟩
@[simp ↓] theorem ev_isX0_p {d e : D} {Q : Rs → Env → Prop} : Ev (oIsX0 [.own (.p d), .own (.p e)]) ρ Q ↔ resQ ρ Q (pIs [d, e]) := by
  show Ev (oIs _) ρ Q ↔ _
  rw [oIs_eq, ev_opG]
  rfl
@[simp ↓] theorem evS_for {src : M (List D)} {t : D → Env → Option Env} {body : SX} {Q : OutS → Prop} : EvS (xFor src t body) ρ Q ↔ Ev src ρ fun l ρ1 => EvS (loopX t body l) ρ1 Q := by
  constructor
  · rintro ⟨o, e, q⟩
    unfold xFor at e
    split at e
    · rename_i l ρ1 h
      exact ⟨l, ρ1, h, o, e, q⟩
    · cases e
  · rintro ⟨l, ρ1, h, o, e, q⟩
    exact ⟨o, by unfold xFor; rw [h]; exact e, q⟩
@[simp ↓] theorem evS_loop_nil {t : D → Env → Option Env} {body : SX} {Q : OutS → Prop} : EvS (loopX t body []) ρ Q ↔ Q (.fl .nx ρ) := by
  constructor
  · rintro ⟨o, e, q⟩
    unfold loopX at e
    cases e
    exact q
  · exact fun q => ⟨_, by unfold loopX; rfl, q⟩
end
def turnX (J : Env → Prop) (Q : OutS → Prop) : OutS → Prop
  | .fl .nx ρ => J ρ
  | .fl .ct ρ => J ρ
  | .fl .bk ρ => Q (.fl .nx ρ)
  | .fl (.rt s) ρ => Q (.fl (.rt s) ρ)
  | .exc c f ρ => Q (.exc c f ρ)
@[simp] theorem turnX_nx {J : Env → Prop} {Q : OutS → Prop} {ρ : Env} : turnX J Q (.fl .nx ρ) = J ρ := rfl
@[simp] theorem turnX_ct {J : Env → Prop} {Q : OutS → Prop} {ρ : Env} : turnX J Q (.fl .ct ρ) = J ρ := rfl
@[simp] theorem turnX_bk {J : Env → Prop} {Q : OutS → Prop} {ρ : Env} : turnX J Q (.fl .bk ρ) = Q (.fl .nx ρ) := rfl
@[simp] theorem turnX_rt {J : Env → Prop} {Q : OutS → Prop} {ρ : Env} {s : Sl} : turnX J Q (.fl (.rt s) ρ) = Q (.fl (.rt s) ρ) := rfl
@[simp] theorem turnX_ex {J : Env → Prop} {Q : OutS → Prop} {ρ : Env} {c : Str} {f : Option (Str × D)} : turnX J Q (.exc c f ρ) = Q (.exc c f ρ) := rfl
theorem evS_loop_inv {t : D → Env → Option Env} {body : SX} {Q : OutS → Prop} (all : List D) (I : List D → Env → Prop)
    (hs : ∀ done d r ρ, all = done ++ d :: r → I done ρ → envQ (fun ρ1 => EvS body ρ1 fun o => turnX (I (done ++ [d])) Q o) (t d ρ)) (hd : ∀ ρ', I all ρ' → Q (.fl .nx ρ')) :
    ∀ (rest done : List D) (ρ : Env), all = done ++ rest → I done ρ → EvS (loopX t body rest) ρ Q
  | [], done, ρ, ha, h0 => evS_loop_nil.mpr (hd ρ (by rw [ha]; simpa using h0))
  | d :: rest, done, ρ, ha, h0 => by
    have h := hs done d rest ρ ha h0
    unfold envQ at h
    split at h
    · rename_i ρ1 e1
      obtain ⟨o, e2, q⟩ := h
      cases o with
      | exc c f ρ2 => exact ⟨_, by unfold loopX; rw [e1]; dsimp only; rw [e2], q⟩
      | fl fl ρ2 =>
        cases fl with
        | nx =>
          obtain ⟨o, e3, q3⟩ := evS_loop_inv all I hs hd rest (done ++ [d]) ρ2 (by rw [ha]; simp) q
          exact ⟨o, by unfold loopX; rw [e1]; dsimp only; rw [e2]; exact e3, q3⟩
        | ct =>
          obtain ⟨o, e3, q3⟩ := evS_loop_inv all I hs hd rest (done ++ [d]) ρ2 (by rw [ha]; simp) q
          exact ⟨o, by unfold loopX; rw [e1]; dsimp only; rw [e2]; exact e3, q3⟩
        | bk => exact ⟨_, by unfold loopX; rw [e1]; dsimp only; rw [e2], q⟩
        | rt s => exact ⟨_, by unfold loopX; rw [e1]; dsimp only; rw [e2], q⟩
    · exact h.elim
theorem evS_loop {t : D → Env → Option Env} {body : SX} {Q : OutS → Prop} {l : List D} {ρ : Env} (I : List D → Env → Prop) (h0 : I [] ρ)
    (hs : ∀ done d r ρ, l = done ++ d :: r → I done ρ → envQ (fun ρ1 => EvS body ρ1 fun o => turnX (I (done ++ [d])) Q o) (t d ρ)) (hd : ∀ ρ', I l ρ' → Q (.fl .nx ρ')) : EvS (loopX t body l) ρ Q :=
  evS_loop_inv l I hs hd l [] ρ rfl h0
end B
end Pd
set_option Elab.async false
set_option linter.all false
set_option maxRecDepth 100000
set_option maxHeartbeats 1000000
namespace Pd
open PySem PySem.Spec PyProof.Rows L2
section
variable {ρ : Env}
@[simp ↓] theorem ev_isX0_ex {c : Str} {f : Option (Str × D)} {Q : Rs → Env → Prop} : Ev (oIsX0 [.own (.ex c f), .own (.p .none)]) ρ Q ↔ Q (.own (.p (.bool false))) ρ := B.ev_isX0_ex
@[simp ↓] theorem ev_isX0_p {d e : D} {Q : Rs → Env → Prop} : Ev (oIsX0 [.own (.p d), .own (.p e)]) ρ Q ↔ resQ ρ Q (pIs [d, e]) := B.ev_isX0_p
@[simp ↓] theorem evS_for {src : M (List D)} {t : D → Env → Option Env} {body : SX} {Q : OutS → Prop} : EvS (xFor src t body) ρ Q ↔ Ev src ρ fun l ρ1 => EvS (loopX t body l) ρ1 Q := B.evS_for
@[simp ↓] theorem evS_loop_nil {t : D → Env → Option Env} {body : SX} {Q : OutS → Prop} : EvS (loopX t body []) ρ Q ↔ Q (.fl .nx ρ) := B.evS_loop_nil
end
def turnX (J : Env → Prop) (Q : OutS → Prop) [Fx Q] (o0 : OutS) : Prop := B.turnX J Q o0
@[simp] theorem turnX_nx {J : Env → Prop} {Q : OutS → Prop} {ρ : Env} : turnX J Q (.fl .nx ρ) = J ρ := B.turnX_nx
@[simp] theorem turnX_ct {J : Env → Prop} {Q : OutS → Prop} {ρ : Env} : turnX J Q (.fl .ct ρ) = J ρ := B.turnX_ct
@[simp] theorem turnX_bk {J : Env → Prop} {Q : OutS → Prop} {ρ : Env} : turnX J Q (.fl .bk ρ) = Q (.fl .nx ρ) := B.turnX_bk
@[simp] theorem turnX_rt {J : Env → Prop} {Q : OutS → Prop} {ρ : Env} {s : Sl} : turnX J Q (.fl (.rt s) ρ) = Q (.fl (.rt s) ρ) := B.turnX_rt
@[simp] theorem turnX_ex {J : Env → Prop} {Q : OutS → Prop} {ρ : Env} {c : Str} {f : Option (Str × D)} : turnX J Q (.exc c f ρ) = Q (.exc c f ρ) := B.turnX_ex
theorem evS_loop_inv {t : D → Env → Option Env} {body : SX} {Q : OutS → Prop} (all : List D) (I : List D → Env → Prop)
    (hs : ∀ done d r ρ, all = done ++ d :: r → I done ρ → envQ (fun ρ1 => EvS body ρ1 fun o => turnX (I (done ++ [d])) Q o) (t d ρ)) (hd : ∀ ρ', I all ρ' → Q (.fl .nx ρ')) :
    ∀ (rest done : List D) (ρ : Env), all = done ++ rest → I done ρ → EvS (loopX t body rest) ρ Q := B.evS_loop_inv all I hs hd
theorem evS_loop {t : D → Env → Option Env} {body : SX} {Q : OutS → Prop} {l : List D} {ρ : Env} (I : List D → Env → Prop) (h0 : I [] ρ)
    (hs : ∀ done d r ρ, l = done ++ d :: r → I done ρ → envQ (fun ρ1 => EvS body ρ1 fun o => turnX (I (done ++ [d])) Q o) (t d ρ)) (hd : ∀ ρ', I l ρ' → Q (.fl .nx ρ')) : EvS (loopX t body l) ρ Q := B.evS_loop I h0 hs hd
end Pd
set_option Elab.async false
set_option linter.all false
set_option maxRecDepth 100000
set_option maxHeartbeats 1000000
namespace Pd
open PySem PySem.Spec PyProof.Rows L2
theorem strAny {X : Cx} : CallR X (.type "str") (fun xs H Q => (∃ i, xs = [.int i] ∧ i.natAbs.log2 < 1920 ∧ Q (.str (toString i)) H) ∨ ∃ a, xs = [.str a] ∧ Q (.str a) H) := by
  intro pins s σ H xs us Q I r h
  rcases h with h | h
  · exact call_str_int pins s σ H xs us Q I r h
  · exact SkE.call_str_str pins s σ H xs us Q I r h
section
variable {X : Cx} {e : Expr} {es : List Expr} {ta : TA} {b : Str} {p1 p2 pos : Pos} {B : Addr}
theorem pe_ceinit {pl : Sem Bool} (hg : Gl X b) (hm : X.mg b = some (.ref B)) (hs : PySem.W.specialIn X.K (.ref B) "__getattribute__" = some (some (.builtin "type.__getattribute__"))) (hr : PySem.W.readsIn X.K B (.type "type") = true)
    (vV : PySem.W.findCls X.K (.ref B) (.type "type") "__init__" = some (.val (.builtin "ValueError.__init__"))) (ha : PA X (e :: es) ta) (hdb : (b == ("__debug__" : Str)) = false := by decide)
    (hc : eval (.Call (.Attribute (.Name b p1) "__init__" p2) (e :: es) [] pos) X.env = (do
      let ov ← eval (.Name b p1) X.env
      standAt p2.atName
      let (f, first) ← holding [ov] (getMethod ov "__init__" pl)
      callWith pos f first (backTo pos (starEach (e :: es) X.env)) (backToKw pos (keywordEach [] X.env))) := by rfl)
    (he : starEach (e :: es) X.env = (false, eval e X.env) :: starEach es X.env := by rfl) (hpl : (backTo pos (starEach es X.env)).any (·.1) = false := by rfl) :
    PE X (.Call (.Attribute (.Name b p1) "__init__" p2) (e :: es) [] pos) (tVeI X.K ta) := by
  refine ⟨fun pins s σ H Q I h => ?_⟩
  refine PySem.W.methodCall_KW (ld_glob I hg hm ?_ hdb) hc
  refine PySem.W.method_cls I.kIn hs ?_
  refine PySem.W.cls_value I.kIn hr vV (by decide +kernel) ?_
  show wpAny _ _ (callWith pos (Value.builtin "ValueError.__init__") [] (backTo pos (starEach (e :: es) X.env)) []) _ _ _
  refine PyProof.Rows.callWith_method1 (thn (ha.run pos pins _ σ H _ (I.tok _) h) fun us s1 ⟨vs, H1, I1, r1, a, C, ws, ev, hl, T, ea, q⟩ => ?_) he hpl
  subst ev
  cases r1 with
  | @cons _ u0 _ ur ra rw' =>
    obtain rfl : u0 = Value.ref a := ra
    have hlen : ur.length ≤ sizeLine := by
      rw [← Paired.length rw', sizeLine_eq]
      omega
    exact oinit_ok T I1 ea hlen fun s' J => ⟨.non, H1, J, rfl, q⟩
end
def KeepV (v : V) : Prop := (∃ i : Int, v = .int i ∧ 0 ≤ i ∧ i < 10 ^ 10) ∨ ∃ s : Str, v = .str s ∧ s.length ≤ 1000
def spI (K : PySem.W.Frag) (C : Addr) (f : Str) : L2.Sp := fun vs H Q E => ∃ a v, vs = [.ref a, v] ∧ KeepV v ∧ OexC K C ∧ PySem.W.findIn K (.ref C) f = some none ∧ H a = some (exo a C none) ∧ ∀ dx, H dx = none → dx ≠ a → Q .non (upd (upd H dx (exd dx [(f, v)])) a (exo a C (some dx)))
structure ExcI (P : Program) (w : World) (K : PySem.W.Frag) (mg : Str → Option Value) (base : Heap) (k : Nat) (c f : Str) : Prop where
  ex : ∃ C fI fd ps, PySem.W.nsIn K mainGlobals c = some (some (.ref C)) ∧ mg c = some (.ref C) ∧ OexC K C ∧ PySem.W.findIn K (.ref C) f = some none ∧ PySem.W.findIn K (.ref C) "__init__" = some (some (.ref fI)) ∧ PySem.W.typeIn K (.ref fI) = some (.type "function") ∧
    FnOk P w K mg base CX0 k fI fd ps (spI K C f) ∧ Binds K fd ps []
theorem log2_small {i : Int} (h0 : 0 ≤ i) (h : i < 10 ^ 10) : i.natAbs.log2 < 1920 := by
  by_cases e : i.natAbs = 0
  · rw [e]; decide
  · rw [Nat.log2_lt e]
    have h1 : i.natAbs < 10 ^ 10 := by omega
    exact Nat.lt_of_lt_of_le h1 (Nat.le_trans (by decide : 10 ^ 10 ≤ 2 ^ 34) (Nat.pow_le_pow_right (by decide) (by decide)))
theorem keep_len {i : Int} (h0 : 0 ≤ i) (h1 : i < 10 ^ 10) : (Str.ofString (toString i)).length ≤ 1000 := Nat.le_trans (PySem.W.KT.len_num h0 h1) (by decide)
def xRaiseI (c f : Str) (fe : M Rs) : SX := fun ρ => match fe ρ with
  | some (.ok r ρ') => match r.view ρ' with
    | some (.int i) => if 0 ≤ i ∧ i < 10000000000 ∧ c ≠ "tuple" then some (.exc c (some (f, .int i)) ρ') else none
    | some (.str s) => if s.length ≤ 1000 ∧ c ≠ "tuple" then some (.exc c (some (f, .str s)) ρ') else none
    | _ => none
  | none => none
theorem del_upd {H1 : Hp} {a dx : Addr} {o1 o2 o3 o4 : HO} (ha : H1 a = none) (hd : dx ≠ a) : upd (L2.del (upd (upd (upd H1 a o1) dx o2) a o4) a) dx o3 = upd H1 dx o3 := by
  funext b
  by_cases h : b = dx
  · rw [h, upd_same, upd_same]
  · rw [upd_ne h, upd_ne h]
    by_cases h2 : b = a
    · rw [h2, del_same, ha]
    · rw [del_ne h2, upd_ne h2, upd_ne h, upd_ne h2]
section
variable {X : Cx} {vs0 : List V} {W : WX}
theorem rd_raiseI {K : PySem.W.Frag} {c f : Str} {C : Addr} {fe : M Rs} {De : Ends} {σ : L2.St} {H : Hp} (hC : PySem.W.nsIn K mainGlobals c = some (some (.ref C))) (hT : OexC K C) (no : PySem.W.findIn K (.ref C) f = some none) (q : rdSX K vs0 W (xRaiseI c f fe) De σ H) :
    tMkO C (spI K C f) [] (tCons (rdE K vs0 fe) tNil) σ H fun cls d H' => W cls d σ H' := by
  obtain ⟨B, ρ, fs, gd, o, e, w⟩ := rdSX_to q
  unfold xRaiseI at e
  split at e
  · rename_i r ρ1 e1
    refine ⟨B, ρ, fs, gd, r, ρ1, e1, fun v B1 H1 fs1 T1 fr1 g1 ok => ?_⟩
    have main : ∀ d : D, KeepV v → (∀ B, Dp K B v d) → c ≠ "tuple" → o = .exc c (some (f, d)) ρ1 → tNil σ H1 fun xs H2 => (fun vs H1 => vs.length ≤ 1000 ∧ ∀ a, H1 a = none → spI K C f (.ref a :: (vs ++ [])) (upd H1 a (exo a C none))
        (fun v H2 => v = .non ∧ ∃ (d : Addr) (fs : List (Str × V)), H2 a = some (exo a C (some d)) ∧ H2 d = some (exd d fs) ∧ H1 d = none ∧ (fun cls d H' => W cls d σ H') (.ref C) (some d) (upd (L2.del H2 a) d (.xd fs))) (fun _ _ _ => False)) (v :: xs) H2 := by
      intro d kv dp ht eo
      subst eo
      refine ⟨by simp, fun a ha => ⟨a, v, rfl, kv, hT, no, upd_same, fun dx hdx hne => ⟨rfl, dx, [(f, v)], upd_same, by rw [upd_ne hne, upd_same], by rw [upd_ne hne] at hdx; exact hdx, ?_⟩⟩⟩
      have hdx' : H1 dx = none := by rw [upd_ne hne] at hdx; exact hdx
      show W (.ref C) (some dx) σ (upd (L2.del (upd (upd (upd H1 a (exo a C none)) dx (exd dx [(f, v)])) a (exo a C (some dx))) a) dx (.xd [(f, v)]))
      rw [del_upd ha hne]
      have fr2 := Fr.new (o := .xd [(f, v)]) hdx' g1.ext
      have g2 := g1.grow fr2 (fun _ _ z => z) (same_upd g1.ext)
      refine w σ _ _ fs1 (.ref C) (some dx) (fr_drop fr1 |>.trans (fr2.weak (fun _ z => z.elim) fun b h => Or.inr (Or.inl h))) g2 ⟨ht, C, dx, v, rfl, hC, rfl, upd_same, dp _⟩
    split at e
    · rename_i i hv
      split at e
      · rename_i hc
        cases e
        have hs := (view_ok g1 ok hv).int
        exact main (.int i) (Or.inl ⟨i, hs, hc.1, by omega⟩) (fun B => by rw [hs]; exact .int i) hc.2.2 rfl
      · cases e
    · rename_i s hv
      split at e
      · rename_i hc
        cases e
        have hs := (view_ok g1 ok hv).str
        exact main (.str s) (Or.inr ⟨s, hs, hc.1⟩) (fun B => by rw [hs]; exact .str s) hc.2 rfl
      · cases e
    · cases e
  · cases e
theorem dx_raiseI {c f : Str} {p pos pos' : Pos} {e : Expr} {fe : M Rs} {k : Nat} (hc : X.calm = true) (tk : Takes X W) (T : ExcI X.prog X.w X.K X.mg X.base k c f) (hr : Room (k + 1) X.A) (hg : Gl X c) (he : PE X e (rdE X.K vs0 fe)) (hdb : (c == ("__debug__" : Str)) = false := by decide)
    (hs : starEach [e] X.env = (false, eval e X.env) :: starEach [] X.env := by rfl) (hpl : (backTo pos (starEach [] X.env)).any (·.1) = false := by rfl) :
    PS X (.Raise (some (.Call (.Name c p) [e] [] pos)) none pos') (rdSX X.K vs0 W (xRaiseI c f fe)) := by
  obtain ⟨C, fI, fd, ps, hC, gC, hT, no, iC, tI, Fn, hb⟩ := T.ex
  exact PS.imp (ps_raise hc tk (pmk_oex hT iC tI Fn hr hb .nil pass0 hg gC (pa_cons he pa_nil hs) hdb hs hpl)) fun D σ H q => rd_raiseI hC hT no q
end
def eXAt (f : Str) (cs : List Str) (fe : M Rs) : M Rs := M.bind fe fun r ρ => match r with
  | .own (.ex c (some (x, d))) => if c ∈ cs ∧ x = f then some (.ok (.own (.p d)) ρ) else none
  | _ => none
structure AtX (K : PySem.W.Frag) (f : Str) (cs : List Str) : Prop where
  nt : ("tuple" : Str) ∉ cs
  at_ : ∀ c ∈ cs, ∀ C, PySem.W.nsIn K mainGlobals c = some (some (.ref C)) → XfC K C ∧ PySem.W.findIn K (.ref C) f = some none
section
variable {X : Cx} {vs0 : List V} {W : WX}
theorem pe_xat {e : Expr} {te : TE} {pos : Pos} {n : Str} (he : PE X e te) (hb : attributeBase e n X.env (eval e X.env) = eval e X.env := by rfl) :
    PE X (.Attribute e n pos) (fun σ H Q => te σ H fun x H1 => ∃ a C dd fs v, x = .ref a ∧ H1 a = some (ExV (.ref C) (some dd) a) ∧ XfC X.K C ∧ PySem.W.findIn X.K (.ref C) n = some none ∧ H1 dd = some (.xd fs) ∧ fs.lookup n = some v ∧ Q v H1) := by
  refine ⟨fun pins s σ H Q I h => ?_⟩
  refine attr_of hb (thn (he.run pins s σ H _ I h) fun u s1 hh => ?_)
  obtain ⟨x, H1, I1, rx, a, C, dd, fs, v, ex, eo, T, hno, ea, l, q⟩ := hh
  subst ex
  obtain rfl : u = Value.ref a := rx
  obtain ⟨⟨⟨oc, od0, oda, osl⟩, vs, h1, h2, h3, h4⟩, _⟩ := I1.hok a _ eo
  dsimp only at h2 h3 h4
  subst h2 h3 h4
  have hx : ObjOk X.prog X.w H1 s1.heap dd (.xd fs) := I1.hok dd _ ea
  obtain ⟨mA, hns, hr⟩ := hx
  obtain ⟨od, ho, hl⟩ := lookIn_ns hns
  obtain ⟨u, hu, ru⟩ := RelO.some_of (v := v) (o := mA n) (by rw [← l]; exact hr n)
  have J : PySem.W.InstAt s1.heap a _ C (some od) := ⟨h1, rfl, rfl, ho⟩
  exact HandSPX.exc_get I1.kIn J T.ga T.gg T.exC (PySem.W.findObj_own T.hdC hno rfl (by rw [hl, hu])) (handed_of ru) ⟨v, H1, I1.tok _, ru, q⟩
theorem de_xat {e : Expr} {fe : M Rs} {pos : Pos} {n : Str} {cs : List Str} (T : AtX X.K n cs) (he : PE X e (rdE X.K vs0 fe)) (hb : attributeBase e n X.env (eval e X.env) = eval e X.env := by rfl) : PE X (.Attribute e n pos) (rdE X.K vs0 (eXAt n cs fe)) :=
  PE.imp (pe_xat he hb) fun σ H Q q => by
    obtain ⟨B, ρ, fs', g, r', ρ', e, k⟩ := q
    obtain ⟨r, ρ1, e0, e1⟩ := M.bind_ok e
    refine ⟨B, ρ, fs', g, r, ρ1, e0, fun v B1 H1 fs1 T1 fr1 g1 ok => ?_⟩
    split at e1
    · rename_i c x d
      split at e1
      · rename_i hm
        cases e1
        obtain ⟨⟨h0, h1⟩, _, _⟩ := ok
        subst h1
        obtain ⟨hc, rfl⟩ := hm
        rcases h0 with ⟨_, a, C, dx, u, q1, q2, q3, q4, q5⟩ | ⟨z, _⟩
        · obtain ⟨t1, t2⟩ := T.at_ c hc C q2
          exact ⟨a, C, dx, _, u, q1, g1.ext _ _ q3, t1, t2, g1.ext _ _ q4, by simp [List.lookup], k u B1 H1 fs1 [] fr1 g1 ⟨⟨q5, rfl⟩, rfl, fun a ha => nomatch ha⟩⟩
        · exact (T.nt (z ▸ hc)).elim
      · cases e1
    · cases e1
theorem pe_of_mk {e : Expr} {t : L2.St → Hp → XK → Prop} (h : PMk X e t) : PE X e (fun σ H Q => t σ H fun cls d H' => ∀ a, H' a = none → Q (.ref a) (upd H' a (ExV cls d a))) := by
  refine ⟨fun pins s σ H Q I q => ?_⟩
  refine wpAny_mono (h pins s σ H _ I q) (fun u s' hu => ?_) fun _ _ z => z
  obtain ⟨a, oe, vs, sI, H', cls, d, rfl, J, kp, hn, he, hz, hd, h1, na, ho, hb, hr, q'⟩ := hu
  have J2 := J.laidN (t' := s'.toks) kp hn na (exV_ok (cls := cls) (d := d) he hz hd)
  exact ⟨.ref a, _, ⟨J2.ok, by rw [ho]; exact J2.os, hb, J2.base, J2.loc, J2.cell, J2.free, J2.freeC, J2.pin, J2.hok, J2.len⟩, rfl, q' a na⟩
def eExNewI (c f : Str) (fe : M Rs) : M Rs := fun ρ => match fe ρ with
  | some (.ok r ρ') => match r.view ρ' with
    | some (.int i) => if 0 ≤ i ∧ i < 10000000000 ∧ c ≠ "tuple" then some (.ok (.own (.ex c (some (f, .int i)))) ρ') else none
    | some (.str s) => if s.length ≤ 1000 ∧ c ≠ "tuple" then some (.ok (.own (.ex c (some (f, .str s)))) ρ') else none
    | _ => none
  | none => none
theorem rd_newI {K : PySem.W.Frag} {c f : Str} {C : Addr} {fe : M Rs} {σ : L2.St} {H : Hp} {Q : VK} (hC : PySem.W.nsIn K mainGlobals c = some (some (.ref C))) (hT : OexC K C) (no : PySem.W.findIn K (.ref C) f = some none) (q : rdE K vs0 (eExNewI c f fe) σ H Q) :
    tMkO C (spI K C f) [] (tCons (rdE K vs0 fe) tNil) σ H fun cls d H' => ∀ a, H' a = none → Q (.ref a) (upd H' a (ExV cls d a)) := by
  obtain ⟨B, ρ, fs, gd, ro, ρo, e, w⟩ := q
  unfold eExNewI at e
  split at e
  · rename_i r ρ1 e1
    refine ⟨B, ρ, fs, gd, r, ρ1, e1, fun v B1 H1 fs1 T1 fr1 g1 ok => ?_⟩
    have main : ∀ d : D, KeepV v → (∀ B, Dp K B v d) → c ≠ "tuple" → ro = .own (.ex c (some (f, d))) → ρo = ρ1 → tNil σ H1 fun xs H2 => (fun vs H1 => vs.length ≤ 1000 ∧ ∀ a, H1 a = none → spI K C f (.ref a :: (vs ++ [])) (upd H1 a (exo a C none))
        (fun v H2 => v = .non ∧ ∃ (d : Addr) (fs : List (Str × V)), H2 a = some (exo a C (some d)) ∧ H2 d = some (exd d fs) ∧ H1 d = none ∧ (fun cls d H' => ∀ a, H' a = none → Q (.ref a) (upd H' a (ExV cls d a))) (.ref C) (some d) (upd (L2.del H2 a) d (.xd fs))) (fun _ _ _ => False)) (v :: xs) H2 := by
      intro d kv dp ht eo eρ
      subst eo eρ
      refine ⟨by simp, fun a ha => ⟨a, v, rfl, kv, hT, no, upd_same, fun dx hdx hne => ⟨rfl, dx, [(f, v)], upd_same, by rw [upd_ne hne, upd_same], by rw [upd_ne hne] at hdx; exact hdx, ?_⟩⟩⟩
      have hdx' : H1 dx = none := by rw [upd_ne hne] at hdx; exact hdx
      show ∀ a', upd (L2.del (upd (upd (upd H1 a (exo a C none)) dx (exd dx [(f, v)])) a (exo a C (some dx))) a) dx (.xd [(f, v)]) a' = none → Q (.ref a') (upd (upd (L2.del (upd (upd (upd H1 a (exo a C none)) dx (exd dx [(f, v)])) a (exo a C (some dx))) a) dx (.xd [(f, v)])) a' (ExV (.ref C) (some dx) a'))
      rw [del_upd ha hne]
      intro a' na'
      have fr2 := Fr.new (o := .xd [(f, v)]) hdx' g1.ext
      have g2 := g1.grow fr2 (fun _ _ z => z) (same_upd g1.ext)
      have fr3 := Fr.new (o := ExV (.ref C) (some dx) a') na' g2.ext
      have g3 := g2.grow fr3 (fun _ _ z => z) (same_upd g2.ext)
      have w2 : ∀ (B H B' H' : Hp), Fr B H (fun _ => False) B' H' (fun _ => False) → Fr B H (InF fs1) B' H' (InF fs1) := fun B H B' H' x => x.weak (fun _ z => z.elim) fun b h => Or.inr (Or.inl h)
      refine w (.ref a') _ _ fs1 [] ((((fr_drop fr1).trans (w2 _ _ _ _ fr2)).trans (w2 _ _ _ _ fr3)).weak (fun _ h => h) fun b h => ?_) g3 ⟨⟨Or.inl ⟨ht, a', C, dx, v, rfl, hC, upd_same, fr3.bb _ _ upd_same, dp _⟩, rfl⟩, rfl, fun b hb => nomatch hb⟩
      rcases h with h | h
      · exact Or.inl h
      · cases h
    split at e
    · rename_i i hv
      split at e
      · rename_i hc
        cases e
        have hs := (view_ok g1 ok hv).int
        exact main (.int i) (Or.inl ⟨i, hs, hc.1, by omega⟩) (fun B => by rw [hs]; exact .int i) hc.2.2 rfl rfl
      · cases e
    · rename_i s hv
      split at e
      · rename_i hc
        cases e
        have hs := (view_ok g1 ok hv).str
        exact main (.str s) (Or.inr ⟨s, hs, hc.1⟩) (fun B => by rw [hs]; exact .str s) hc.2 rfl rfl
      · cases e
    · cases e
  · cases e
theorem de_exNewI {c f : Str} {p pos : Pos} {e : Expr} {fe : M Rs} {k : Nat} (T : ExcI X.prog X.w X.K X.mg X.base k c f) (hr : Room (k + 1) X.A) (hg : Gl X c) (he : PE X e (rdE X.K vs0 fe)) (hdb : (c == ("__debug__" : Str)) = false := by decide)
    (hs : starEach [e] X.env = (false, eval e X.env) :: starEach [] X.env := by rfl) (hpl : (backTo pos (starEach [] X.env)).any (·.1) = false := by rfl) :
    PE X (.Call (.Name c p) [e] [] pos) (rdE X.K vs0 (eExNewI c f fe)) := by
  obtain ⟨C, fI, fd, ps, hC, gC, hT, no, iC, tI, Fn, hb⟩ := T.ex
  exact PE.imp (pe_of_mk (pmk_oex hT iC tI Fn hr hb .nil pass0 hg gC (pa_cons he pa_nil hs) hdb hs hpl)) fun σ H Q q => rd_newI hC hT no q
end
theorem refs1 {c : Addr} : PySem.HandSPX.refsVE [.ref c, .type "ValueError", .type "Exception", .type "BaseException", .type "object"] = true := by
  show PySem.HandSPX.refsVE [.type "ValueError", .type "Exception", .type "BaseException", .type "object"] = true
  decide +kernel
end Pd
set_option Elab.async false
set_option linter.all false
set_option maxRecDepth 100000
set_option maxHeartbeats 1000000
namespace Pd
open PySem PySem.Spec PyProof.Rows L2
namespace B
section
variable {ρ : Env}
def raiQ (c f : Str) (Q : OutS → Prop) (ρ : Env) : Option D → Prop
  | some (.int i) => (0 ≤ i ∧ i < 10000000000 ∧ c ≠ "tuple") ∧ Q (.exc c (some (f, .int i)) ρ)
  | some (.str s) => (s.length ≤ 1000 ∧ c ≠ "tuple") ∧ Q (.exc c (some (f, .str s)) ρ)
  | _ => False
@[simp] theorem raiQ_i {c f : Str} {Q : OutS → Prop} {i : Int} : raiQ c f Q ρ (some (.int i)) = ((0 ≤ i ∧ i < 10000000000 ∧ c ≠ "tuple") ∧ Q (.exc c (some (f, .int i)) ρ)) := rfl
@[simp] theorem raiQ_s {c f : Str} {Q : OutS → Prop} {s : Str} : raiQ c f Q ρ (some (.str s)) = ((s.length ≤ 1000 ∧ c ≠ "tuple") ∧ Q (.exc c (some (f, .str s)) ρ)) := rfl
@[simp ↓] theorem evS_raiseI {c f : Str} {fe : M Rs} {Q : OutS → Prop} : EvS (xRaiseI c f fe) ρ Q ↔ Ev fe ρ fun r ρ1 => raiQ c f Q ρ1 (r.view ρ1) := by
  constructor
  · rintro ⟨o, e, q⟩
    unfold xRaiseI at e
    split at e
    · rename_i r ρ1 h
      refine ⟨r, ρ1, h, ?_⟩
      split at e
      · rename_i i hv
        split at e
        · rename_i hc
          cases e
          rw [hv]
          exact ⟨hc, q⟩
        · cases e
      · rename_i s hv
        split at e
        · rename_i hc
          cases e
          rw [hv]
          exact ⟨hc, q⟩
        · cases e
      · cases e
    · cases e
  · rintro ⟨r, ρ1, h, q⟩
    unfold raiQ at q
    split at q
    · rename_i i hv
      exact ⟨_, by unfold xRaiseI; rw [h]; dsimp only; rw [hv]; exact if_pos q.1, q.2⟩
    · rename_i s hv
      exact ⟨_, by unfold xRaiseI; rw [h]; dsimp only; rw [hv]; exact if_pos q.1, q.2⟩
    · exact q.elim
def newIQ (c f : Str) (Q : Rs → Env → Prop) (ρ : Env) : Option D → Prop
  | some (.int i) => (0 ≤ i ∧ i < 10000000000 ∧ c ≠ "tuple") ∧ Q (.own (.ex c (some (f, .int i)))) ρ
  | some (.str s) => (s.length ≤ 1000 ∧ c ≠ "tuple") ∧ Q (.own (.ex c (some (f, .str s)))) ρ
  | _ => False
@[simp] theorem newIQ_i {c f : Str} {Q : Rs → Env → Prop} {i : Int} : newIQ c f Q ρ (some (.int i)) = ((0 ≤ i ∧ i < 10000000000 ∧ c ≠ "tuple") ∧ Q (.own (.ex c (some (f, .int i)))) ρ) := rfl
@[simp] theorem newIQ_s {c f : Str} {Q : Rs → Env → Prop} {s : Str} : newIQ c f Q ρ (some (.str s)) = ((s.length ≤ 1000 ∧ c ≠ "tuple") ∧ Q (.own (.ex c (some (f, .str s)))) ρ) := rfl
@[simp ↓] theorem ev_exNewI {c f : Str} {fe : M Rs} {Q : Rs → Env → Prop} : Ev (eExNewI c f fe) ρ Q ↔ Ev fe ρ fun r ρ1 => newIQ c f Q ρ1 (r.view ρ1) := by
  constructor
  · rintro ⟨o, ρ2, e, q⟩
    unfold eExNewI at e
    split at e
    · rename_i r ρ1 h
      refine ⟨r, ρ1, h, ?_⟩
      split at e
      · rename_i i hv
        split at e
        · rename_i hc
          cases e
          rw [hv]
          exact ⟨hc, q⟩
        · cases e
      · rename_i s hv
        split at e
        · rename_i hc
          cases e
          rw [hv]
          exact ⟨hc, q⟩
        · cases e
      · cases e
    · cases e
  · rintro ⟨r, ρ1, h, q⟩
    unfold newIQ at q
    split at q
    · rename_i i hv
      exact ⟨_, _, by unfold eExNewI; rw [h]; dsimp only; rw [hv]; exact if_pos q.1, q.2⟩
    · rename_i s hv
      exact ⟨_, _, by unfold eExNewI; rw [h]; dsimp only; rw [hv]; exact if_pos q.1, q.2⟩
    · exact q.elim
def xatQ (f : Str) (cs : List Str) (Q : Rs → Env → Prop) (ρ : Env) : Rs → Prop
  | .own (.ex c (some (x, d))) => (c ∈ cs ∧ x = f) ∧ Q (.own (.p d)) ρ
  | _ => False
@[simp ↓] theorem xatQ_x {f c x : Str} {d : D} {cs : List Str} {Q : Rs → Env → Prop} : xatQ f cs Q ρ (.own (.ex c (some (x, d)))) = ((c ∈ cs ∧ x = f) ∧ Q (.own (.p d)) ρ) := rfl
@[simp ↓] theorem ev_xat {f : Str} {cs : List Str} {fe : M Rs} {Q : Rs → Env → Prop} : Ev (eXAt f cs fe) ρ Q ↔ Ev fe ρ fun r ρ1 => xatQ f cs Q ρ1 r := by
  constructor
  · rintro ⟨r, ρ', e, q⟩
    obtain ⟨r0, ρ1, e0, e1⟩ := M.bind_ok e
    refine ⟨r0, ρ1, e0, ?_⟩
    split at e1
    · rename_i c x d
      show (c ∈ cs ∧ x = f) ∧ _
      split at e1
      · rename_i h
        cases e1
        exact ⟨h, q⟩
      · cases e1
    · cases e1
  · rintro ⟨r0, ρ1, e0, q⟩
    unfold xatQ at q
    split at q
    · rename_i c x d
      exact ⟨_, _, by unfold eXAt M.bind; rw [e0]; exact if_pos q.1, q.2⟩
    · exact q.elim
end
end B
end Pd
set_option Elab.async false
set_option linter.all false
set_option maxRecDepth 100000
set_option maxHeartbeats 1000000
namespace Pd
open PySem PySem.Spec PyProof.Rows L2
section
variable {ρ : Env}
def raiQ (c f : Str) (Q : OutS → Prop) [Fx Q] (ρ : Env) (o0 : Option D) : Prop := B.raiQ c f Q ρ o0
@[simp] theorem raiQ_i {c f : Str} {Q : OutS → Prop} {i : Int} : raiQ c f Q ρ (some (.int i)) = ((0 ≤ i ∧ i < 10000000000 ∧ c ≠ "tuple") ∧ Q (.exc c (some (f, .int i)) ρ)) := B.raiQ_i
@[simp] theorem raiQ_s {c f : Str} {Q : OutS → Prop} {s : Str} : raiQ c f Q ρ (some (.str s)) = ((s.length ≤ 1000 ∧ c ≠ "tuple") ∧ Q (.exc c (some (f, .str s)) ρ)) := B.raiQ_s
@[simp ↓] theorem evS_raiseI {c f : Str} {fe : M Rs} {Q : OutS → Prop} : EvS (xRaiseI c f fe) ρ Q ↔ Ev fe ρ fun r ρ1 => raiQ c f Q ρ1 (r.view ρ1) := B.evS_raiseI
def newIQ (c f : Str) (Q : Rs → Env → Prop) [Fx Q] (ρ : Env) (o0 : Option D) : Prop := B.newIQ c f Q ρ o0
@[simp] theorem newIQ_i {c f : Str} {Q : Rs → Env → Prop} {i : Int} : newIQ c f Q ρ (some (.int i)) = ((0 ≤ i ∧ i < 10000000000 ∧ c ≠ "tuple") ∧ Q (.own (.ex c (some (f, .int i)))) ρ) := B.newIQ_i
@[simp] theorem newIQ_s {c f : Str} {Q : Rs → Env → Prop} {s : Str} : newIQ c f Q ρ (some (.str s)) = ((s.length ≤ 1000 ∧ c ≠ "tuple") ∧ Q (.own (.ex c (some (f, .str s)))) ρ) := B.newIQ_s
@[simp ↓] theorem ev_exNewI {c f : Str} {fe : M Rs} {Q : Rs → Env → Prop} : Ev (eExNewI c f fe) ρ Q ↔ Ev fe ρ fun r ρ1 => newIQ c f Q ρ1 (r.view ρ1) := B.ev_exNewI
def xatQ (f : Str) (cs : List Str) (Q : Rs → Env → Prop) [Fx Q] (ρ : Env) (o0 : Rs) : Prop := B.xatQ f cs Q ρ o0
@[simp ↓] theorem xatQ_x {f c x : Str} {d : D} {cs : List Str} {Q : Rs → Env → Prop} : xatQ f cs Q ρ (.own (.ex c (some (x, d)))) = ((c ∈ cs ∧ x = f) ∧ Q (.own (.p d)) ρ) := B.xatQ_x
@[simp ↓] theorem ev_xat {f : Str} {cs : List Str} {fe : M Rs} {Q : Rs → Env → Prop} : Ev (eXAt f cs fe) ρ Q ↔ Ev fe ρ fun r ρ1 => xatQ f cs Q ρ1 r := B.ev_xat
end
end Pd
set_option Elab.async false
set_option linter.all false
set_option maxRecDepth 100000
set_option maxHeartbeats 1000000
set_option Elab.async false
set_option linter.all false
set_option maxRecDepth 100000
set_option maxHeartbeats 1000000
set_option Elab.async false
set_option linter.all false
set_option maxRecDepth 100000
set_option maxHeartbeats 1000000
set_option Elab.async false
set_option linter.all false
set_option maxRecDepth 100000
set_option maxHeartbeats 1000000
set_option Elab.async false
set_option linter.all false
set_option maxRecDepth 100000
set_option maxHeartbeats 1000000
namespace Pd
open PySem PySem.Spec PyProof.Rows L2
def takeAll : List Rs → M (List Sl)
  | [] => M.ret []
  | r :: rs => M.bind (takeR r) fun s => M.bind (takeAll rs) fun ss => M.ret (s :: ss)
def noTags : List Sl → Bool
  | [] => true
  | s :: r => s.tag.isNone && noTags r
section
variable {K : PySem.W.Frag} {vs0 : List V} {B H : Hp} {σ : L2.St}
theorem takeAll_ok : ∀ {rs : List Rs} {vs : List V} {Ts : List (List Addr)} {ρ : Env} {fs : Nat → List Addr} {ss : List Sl} {ρ' : Env}, Good K vs0 B H σ ρ fs → RsAll K B H σ fs vs rs Ts → Ts.flatten.Nodup → takeAll rs ρ = some (.ok ss ρ') →
    ∃ fs' Us, Good K vs0 B H σ ρ' fs' ∧ OwnL K B H vs ss Us ∧ Us.flatten.Nodup ∧ (∀ a ∈ Us.flatten, B a = none ∧ ∀ i, a ∉ fs' i) ∧ (∀ a, UnF (InF fs') Us.flatten a → UnF (InF fs) Ts.flatten a)
  | [], [], [], ρ, fs, ss, ρ', g, ok, nd, e => by
    cases e
    exact ⟨fs, [], g, True.intro, List.nodup_nil, fun a h => (by simp at h), fun a h => h⟩
  | r :: rs, v :: vs, T :: Ts, ρ, fs, ss, ρ', g, ok, nd, e => by
    obtain ⟨s, ρ1, e1, e2⟩ := M.bind_ok e
    obtain ⟨sr, ρ2, e3, e4⟩ := M.bind_ok e2
    cases e4
    obtain ⟨fs1, T1, g1, o1, t1, n1, s1, _⟩ := takeR_ok g ok.1 e1
    rw [List.flatten_cons, List.nodup_append] at nd
    have off := RsAll.off ok.2
    have nT : ∀ a ∈ Ts.flatten, ¬ UnF (InF fs) T a := fun a ha h => by
      rcases h with h | h
      · exact off a ha h
      · exact nd.2.2 a h a ha rfl
    have ok2 : RsAll K B H σ fs1 vs rs Ts := RsAll.keep ((Fr.refl B H (UnF (InF fs) T)).weak (G' := UnF (InF fs1) T1) (fun a h => h) fun a h => Or.inl (s1 a h)) (fun a h => Or.inl h) ok.2 nT
    obtain ⟨fs2, Us, g2, o2, nd2, n2, s2⟩ := takeAll_ok g1 ok2 nd.2.1 e3
    have dis : ∀ a ∈ T1, a ∉ Us.flatten ∧ ∀ i, a ∉ fs2 i := fun a ha => by
      have key : ¬ UnF (InF fs1) Ts.flatten a := fun h => by
        rcases h with ⟨j, h⟩ | h
        · exact (n1 a ha).2 j h
        · exact nT a h (s1 a (Or.inr ha))
      exact ⟨fun h => key (s2 a (Or.inr h)), fun i h => key (s2 a (Or.inl ⟨i, h⟩))⟩
    refine ⟨fs2, T1 :: Us, g2, ⟨o1, o2⟩, ?_, fun a ha => ?_, fun a h => ?_⟩
    · rw [List.flatten_cons, List.nodup_append]
      exact ⟨o1.nodup, nd2, fun a ha b hb e => (dis a ha).1 (e ▸ hb)⟩
    · rw [List.flatten_cons, List.mem_append] at ha
      rcases ha with ha | ha
      · exact ⟨(n1 a ha).1, (dis a ha).2⟩
      · exact n2 a ha
    · have lift : UnF (InF fs1) Ts.flatten a → UnF (InF fs) (T :: Ts).flatten a := fun h => by
        rw [List.flatten_cons]
        rcases h with h | h
        · rcases s1 a (Or.inl h) with q | q
          · exact Or.inl q
          · exact Or.inr (List.mem_append_left _ q)
        · exact Or.inr (List.mem_append_right _ h)
      rcases h with h | h
      · exact lift (s2 a (Or.inl h))
      · rw [List.flatten_cons, List.mem_append] at h
        rcases h with h | h
        · rw [List.flatten_cons]
          rcases s1 a (Or.inr h) with q | q
          · exact Or.inl q
          · exact Or.inr (List.mem_append_left _ q)
        · exact lift (s2 a (Or.inr h))
  | [], [], _ :: _, _, _, _, _, _, h, _, _ => h.elim
  | [], _ :: _, _, _, _, _, _, _, h, _, _ => h.elim
  | _ :: _, [], _, _, _, _, _, _, h, _, _ => h.elim
  | _ :: _, _ :: _, [], _, _, _, _, _, h, _, _ => h.elim
end
def oLstM (fa : M (List Rs)) : M Rs := M.bind fa fun rs => M.bind (takeAll rs) fun ss ρ => if noTags ss = true ∧ ss.length ≤ sizeLine then some (.ok (.own (.mr none ss)) ρ) else none
theorem ownL_len {K : PySem.W.Frag} {B H : Hp} : ∀ {ss : List Sl} {vs : List V} {Ts : List (List Addr)}, OwnL K B H vs ss Ts → vs.length = ss.length
  | [], [], [], _ => rfl
  | s :: ss, v :: vs, T :: Ts, h => by rw [List.length_cons, List.length_cons, ownL_len h.2]
  | [], [], _ :: _, h => h.elim
  | [], _ :: _, _, h => h.elim
  | _ :: _, [], _, h => h.elim
  | _ :: _, _ :: _, [], h => h.elim
section
variable {X : Cx} {vs0 : List V} {es : List Expr} {fa : M (List Rs)} {pos : Pos}
theorem de_lstM (ha : PA X es (rdA X.K vs0 fa)) : PE X (.List es pos) (rdE X.K vs0 (oLstM fa)) := PE.imp (pe_lst ha) fun σ H Q q => by
  obtain ⟨B, ρ, fs, g, r, ρ', e, k⟩ := q
  obtain ⟨rs, ρ1, e1, e2⟩ := M.bind_ok e
  obtain ⟨ss, ρ2, e3, e4⟩ := M.bind_ok e2
  split at e4
  · rename_i hc
    cases e4
    refine ⟨B, ρ, fs, g, rs, ρ1, e1, fun vs B1 H1 fs1 Ts fr1 g1 ok nd => ?_⟩
    obtain ⟨fs2, Us, g2, o2, nd2, n2, s2⟩ := takeAll_ok g1 ok nd e3
    refine ⟨by rw [ownL_len o2]; exact hc.2, fun p hp => ?_⟩
    have frn := Fr.newL (B := B1) (o := HO.lst vs) hp
    have bp : B1 p = none := by
      cases z : B1 p with
      | none => rfl
      | some u => rw [g1.ext p u z] at hp; cases hp
    have lv : ∀ a ∈ Us.flatten, H1 a ≠ none := OwnL.liveA o2
    have np : p ∉ Us.flatten := fun h => lv p h hp
    have g3 := g2.grow frn (fun _ _ f => f) (g1.ext.trans frn.sameH)
    have o3 : OwnL X.K B1 (upd H1 p (.lst vs)) vs ss Us := OwnL.keepA (Same.refl _) o2 fun a ha => upd_ne fun z => np (z ▸ ha)
    refine k (.ref p) B1 _ fs2 (p :: Us.flatten) ?_ g3 ⟨⟨p, vs, Us, rfl, rfl, upd_same, o3, List.nodup_cons.mpr ⟨np, nd2⟩⟩, rfl, fun a ha => ?_⟩
    · refine (fr1.trans (frn.weak (fun a f => f.elim) fun a f => ?_))
      rcases f with f | f
      · exact Or.inr (Or.inl (s2 a (Or.inl f)))
      · rcases List.mem_cons.mp f with rfl | f
        · exact Or.inl (by simp)
        · exact Or.inr (Or.inl (s2 a (Or.inr f)))
    · rcases List.mem_cons.mp ha with rfl | ha
      · exact ⟨bp, fun i hi => g2.lives hi hp⟩
      · exact n2 a ha
  · cases e4
end
end Pd
set_option Elab.async false
set_option linter.all false
set_option maxRecDepth 100000
set_option maxHeartbeats 1000000
namespace Pd
open PySem PySem.Spec PyProof.Rows L2
theorem OwnL.append {K : PySem.W.Frag} {B H : Hp} : ∀ {ss ss' : List Sl} {vs vs' : List V} {Ts Ts' : List (List Addr)}, OwnL K B H vs ss Ts → OwnL K B H vs' ss' Ts' → OwnL K B H (vs ++ vs') (ss ++ ss') (Ts ++ Ts')
  | [], _, [], _, [], _, _, g => g
  | s :: ss, _, v :: vs, _, T :: Ts, _, h, g => ⟨h.1, OwnL.append h.2 g⟩
  | [], _, [], _, _ :: _, _, h, _ => h.elim
  | [], _, _ :: _, _, _, _, h, _ => h.elim
  | _ :: _, _, [], _, _, _, h, _ => h.elim
  | _ :: _, _, _ :: _, _, [], _, h, _ => h.elim
end Pd
set_option Elab.async false
set_option linter.all false
set_option maxRecDepth 100000
set_option maxHeartbeats 1000000
set_option Elab.async false
set_option linter.all false
set_option maxRecDepth 100000
set_option maxHeartbeats 1000000
namespace Pd
open PySem PySem.Spec PyProof.Rows L2
namespace B
@[simp] theorem noTags_nil : noTags [] = true := rfl
@[simp] theorem noTags_cons {s : Sl} {l : List Sl} : noTags (s :: l) = (s.tag.isNone && noTags l) := rfl
section
variable {ρ : Env}
@[simp ↓] theorem ev_takeAll_nil {Q : List Sl → Env → Prop} : Ev (takeAll []) ρ Q ↔ Q [] ρ := by
  unfold takeAll
  exact ev_ret
@[simp ↓] theorem ev_takeAll_cons {r : Rs} {rs : List Rs} {Q : List Sl → Env → Prop} : Ev (takeAll (r :: rs)) ρ Q ↔ Ev (takeR r) ρ fun s ρ1 => Ev (takeAll rs) ρ1 fun ss ρ2 => Q (s :: ss) ρ2 := by
  rw [takeAll]
  simp only [ev_bind, ev_ret]
@[simp ↓] theorem ev_lstM {fa : M (List Rs)} {Q : Rs → Env → Prop} : Ev (oLstM fa) ρ Q ↔ Ev fa ρ fun rs ρ1 => Ev (takeAll rs) ρ1 fun ss ρ2 => (noTags ss = true ∧ ss.length ≤ sizeLine) ∧ Q (.own (.mr none ss)) ρ2 := by
  unfold oLstM
  simp only [ev_bind]
  constructor
  · rintro ⟨rs, ρ1, e1, ss, ρ2, e2, r, ρ3, e3, q⟩
    refine ⟨rs, ρ1, e1, ss, ρ2, e2, ?_⟩
    split at e3
    · rename_i h; cases e3; exact ⟨h, q⟩
    · cases e3
  · rintro ⟨rs, ρ1, e1, ss, ρ2, e2, h, q⟩
    exact ⟨rs, ρ1, e1, ss, ρ2, e2, _, _, if_pos h, q⟩
end
end B
end Pd
set_option Elab.async false
set_option linter.all false
set_option maxRecDepth 100000
set_option maxHeartbeats 1000000
namespace Pd
open PySem PySem.Spec PyProof.Rows L2
open B (noTags_nil noTags_cons)
section
variable {ρ : Env}
@[simp ↓] theorem ev_takeAll_nil {Q : List Sl → Env → Prop} : Ev (takeAll []) ρ Q ↔ Q [] ρ := B.ev_takeAll_nil
@[simp ↓] theorem ev_takeAll_cons {r : Rs} {rs : List Rs} {Q : List Sl → Env → Prop} : Ev (takeAll (r :: rs)) ρ Q ↔ Ev (takeR r) ρ fun s ρ1 => Ev (takeAll rs) ρ1 fun ss ρ2 => Q (s :: ss) ρ2 := B.ev_takeAll_cons
@[simp ↓] theorem ev_lstM {fa : M (List Rs)} {Q : Rs → Env → Prop} : Ev (oLstM fa) ρ Q ↔ Ev fa ρ fun rs ρ1 => Ev (takeAll rs) ρ1 fun ss ρ2 => (noTags ss = true ∧ ss.length ≤ sizeLine) ∧ Q (.own (.mr none ss)) ρ2 := B.ev_lstM
end
end Pd
set_option Elab.async false
set_option linter.all false
set_option maxRecDepth 100000
set_option maxHeartbeats 1000000
set_option Elab.async false
set_option linter.all false
set_option maxRecDepth 100000
set_option maxHeartbeats 1000000
set_option Elab.async false
set_option linter.all false
set_option maxRecDepth 100000
set_option maxHeartbeats 1000000
set_option Elab.async false
set_option linter.all false
set_option maxRecDepth 100000
set_option maxHeartbeats 1000000
set_option Elab.async false
set_option linter.all false
set_option maxRecDepth 100000
set_option maxHeartbeats 1000000
set_option Elab.async false
set_option linter.all false
set_option maxRecDepth 100000
set_option maxHeartbeats 2000000
set_option Elab.async false
set_option linter.all false
set_option maxRecDepth 100000
set_option maxHeartbeats 1000000
set_option Elab.async false
set_option linter.all false
set_option maxRecDepth 100000
set_option maxHeartbeats 1000000
set_option Elab.async false
set_option linter.all false
set_option maxRecDepth 100000
set_option maxHeartbeats 2000000
set_option Elab.async false
set_option linter.all false
set_option maxRecDepth 100000
set_option maxHeartbeats 2000000
set_option Elab.async false
set_option linter.all false
set_option maxRecDepth 100000
set_option maxHeartbeats 2000000
namespace Pd
open PySem PySem.Spec PyProof.Rows L2
def OwnLL (K : PySem.W.Frag) (B H : Hp) : List (List V) → List (List Sl) → List (List (List Addr)) → Prop
  | [], [], [] => True
  | xs :: xss, ss :: sss, Ts :: Tss => OwnL K B H xs ss Ts ∧ OwnLL K B H xss sss Tss
  | _, _, _ => False
theorem OwnLL.keepA {K : PySem.W.Frag} {B H B' H' : Hp} (e : Same B B') : ∀ {xss : List (List V)} {sss : List (List Sl)} {Tss : List (List (List Addr))}, OwnLL K B H xss sss Tss → (∀ a ∈ Tss.flatten.flatten, H' a = H a) → OwnLL K B' H' xss sss Tss
  | [], [], [], _, _ => True.intro
  | xs :: xss, ss :: sss, Ts :: Tss, h, k => by
    rw [List.flatten_cons, List.flatten_append] at k
    exact ⟨OwnL.keepA e h.1 fun a ha => k a (List.mem_append_left _ ha), OwnLL.keepA e h.2 fun a ha => k a (List.mem_append_right _ ha)⟩
  | [], [], _ :: _, h, _ => h.elim
  | [], _ :: _, _, h, _ => h.elim
  | _ :: _, [], _, h, _ => h.elim
  | _ :: _, _ :: _, [], h, _ => h.elim
theorem OwnLL.len {K : PySem.W.Frag} {B H : Hp} : ∀ {xss : List (List V)} {sss : List (List Sl)} {Tss : List (List (List Addr))}, OwnLL K B H xss sss Tss → xss.length = sss.length ∧ Tss.length = sss.length
  | [], [], [], _ => ⟨rfl, rfl⟩
  | xs :: xss, ss :: sss, Ts :: Tss, h => by
    have := h.2.len
    simp [this]
  | [], [], _ :: _, h => h.elim
  | [], _ :: _, _, h => h.elim
  | _ :: _, [], _, h => h.elim
  | _ :: _, _ :: _, [], h => h.elim
end Pd
set_option Elab.async false
set_option linter.all false
set_option maxRecDepth 100000
set_option maxHeartbeats 2000000
set_option Elab.async false
set_option linter.all false
set_option maxRecDepth 100000
set_option maxHeartbeats 1000000
set_option Elab.async false
set_option linter.all false
set_option maxRecDepth 100000
set_option maxHeartbeats 1000000
set_option Elab.async false
set_option linter.all false
set_option maxRecDepth 100000
set_option maxHeartbeats 1000000
set_option Elab.async false
set_option linter.all false
set_option maxRecDepth 100000
set_option maxHeartbeats 1000000
set_option Elab.async false
set_option linter.all false
set_option maxRecDepth 100000
set_option maxHeartbeats 2000000
namespace Pd
open PySem PySem.Spec PyProof.Rows L2
section
variable {K : PySem.W.Frag} {vs0 : List V}
structure Apart (B H : Hp) (fs : Nat → List Addr) (L : List Addr) : Prop where
  nd : L.Nodup
  out : ∀ a ∈ L, B a = none ∧ (∀ k, a ∉ fs k) ∧ H a ≠ none
end
end Pd
set_option Elab.async false
set_option linter.all false
set_option maxRecDepth 100000
set_option maxHeartbeats 1000000
set_option Elab.async false
set_option linter.all false
set_option maxRecDepth 100000
set_option maxHeartbeats 1000000
set_option Elab.async false
set_option linter.all false
set_option maxRecDepth 100000
set_option maxHeartbeats 2000000
set_option Elab.async false
set_option linter.all false
set_option maxRecDepth 100000
set_option maxHeartbeats 1000000
set_option Elab.async false
set_option linter.all false
set_option maxRecDepth 100000
set_option maxHeartbeats 1000000
set_option Elab.async false
set_option linter.all false
set_option maxRecDepth 100000
set_option maxHeartbeats 1000000
set_option Elab.async false
set_option linter.all false
set_option maxRecDepth 100000
set_option maxHeartbeats 2000000
set_option Elab.async false
set_option linter.all false
set_option maxRecDepth 100000
set_option maxHeartbeats 1000000
set_option Elab.async false
set_option linter.all false
set_option maxRecDepth 100000
set_option maxHeartbeats 1000000
set_option Elab.async false
set_option linter.all false
set_option maxRecDepth 100000
set_option maxHeartbeats 1000000
set_option Elab.async false
set_option linter.all false
set_option maxRecDepth 100000
set_option maxHeartbeats 1000000
set_option Elab.async false
set_option linter.all false
set_option maxRecDepth 100000
set_option maxHeartbeats 1000000
set_option Elab.async false
set_option linter.all false
set_option maxRecDepth 100000
set_option maxHeartbeats 1000000
set_option Elab.async false
set_option linter.all false
set_option maxRecDepth 100000
set_option maxHeartbeats 1000000
namespace Pd
open PySem PySem.Spec PyProof.Rows L2
open PySem.W (EachIs)
section
variable {X : Cx} {pins pins' : List (Addr × Obj)} {σ : L2.St} {H H2 : Hp} {s : Shared} {h' : Heap} {t' : Nat}
structure CalleeV (P : Program) (w : World) (K : PySem.W.Frag) (mg : Str → Option Value) (base : Heap) (k : Nat) (x : Str) (F : List Sl → Option (Sl × List Sl)) (f : Addr) : Prop where
  fn : ∃ (fd : FuncData) (p : Str), FnOk P w K mg base CX0 k f fd [p] (spD K 1 F) ∧ ∀ (s : Shared) (u : Value), BindsTo s fd ⟨[u], []⟩ [(p, u)]
  gl : mg x = some (.ref f)
variable {F : List Sl → Option (Sl × List Sl)} {k : Nat} {x : Str} {f : Addr} {A : Around}
structure KeyJ (X : Cx) (pins : List (Addr × Obj)) (σ : L2.St) (H : Hp) (kS a : Addr) (oa : Obj) (zs : List Int) (n : Nat) (s : Shared) : Prop where
  ex : ∃ (H' : Hp) (ks : List Value) (e : Nat), Inv X ((kS, seqObj "list" ks.toArray e) :: (a, oa) :: pins) σ H' s ∧ Same H H' ∧ Vals ((zs.take n).map V.int) ks
end
end Pd
set_option Elab.async false
set_option linter.all false
set_option maxRecDepth 100000
set_option maxHeartbeats 1000000
set_option Elab.async false
set_option linter.all false
set_option maxRecDepth 100000
set_option maxHeartbeats 1000000
set_option Elab.async false
set_option linter.all false
set_option maxRecDepth 100000
set_option maxHeartbeats 1000000
set_option Elab.async false
set_option linter.all false
set_option maxRecDepth 100000
set_option maxHeartbeats 1000000
set_option Elab.async false
set_option linter.all false
set_option maxRecDepth 100000
set_option maxHeartbeats 3200000
set_option Elab.async false
set_option linter.all false
set_option maxRecDepth 100000
set_option maxHeartbeats 2000000
set_option Elab.async false
set_option linter.all false
set_option maxRecDepth 100000
set_option maxHeartbeats 1000000
set_option Elab.async false
set_option linter.all false
set_option maxRecDepth 100000
set_option maxHeartbeats 1000000
set_option Elab.async false
set_option linter.all false
set_option maxRecDepth 100000
set_option maxHeartbeats 2000000
set_option Elab.async false
set_option linter.all false
set_option maxRecDepth 100000
set_option maxHeartbeats 1000000
namespace Pd
open PySem PySem.Spec PyProof.Rows L2
section
variable {K : PySem.W.Frag} {vs0 : List V} {B H : Hp} {σ : L2.St} {ρ : Env} {fs : Nat → List Addr}
theorem OwnL.put : ∀ {ss : List Sl} {vs : List V} {Ts : List (List Addr)} {p : Nat} {s' : Sl} {v' : V} {T' : List Addr}, OwnL K B H vs ss Ts → Own K B H v' s' T' → OwnL K B H (vs.set p v') (ss.set p s') (Ts.set p T')
  | [], [], [], _, _, _, _, h, _ => h
  | s :: ss, v :: vs, T :: Ts, 0, _, _, _, h, g => ⟨g, h.2⟩
  | s :: ss, v :: vs, T :: Ts, p + 1, _, _, _, h, g => ⟨h.1, OwnL.put (p := p) h.2 g⟩
  | [], [], _ :: _, _, _, _, _, h, _ => h.elim
  | [], _ :: _, _, _, _, _, _, h, _ => h.elim
  | _ :: _, [], _, _, _, _, _, h, _ => h.elim
  | _ :: _, _ :: _, [], _, _, _, _, h, _ => h.elim
end
end Pd
set_option Elab.async false
set_option linter.all false
set_option maxRecDepth 100000
set_option maxHeartbeats 1000000
set_option Elab.async false
set_option linter.all false
set_option maxRecDepth 100000
set_option maxHeartbeats 1000000
namespace Pd
open PySem PySem.Spec PyProof.Rows L2
section
variable {X : Cx} {vs0 : List V} {K : PySem.W.Frag} {B H : Hp}
theorem Good.int {σ : L2.St} {ρ : Env} {fs : Nat → List Addr} {i : Nat} {m : Int} (g : Good K vs0 B H σ ρ fs) (e : ρ[i]? = some (some (.p (.int m)))) : σ[i]? = some (some (.int m)) := by
  obtain ⟨v, h1, h2, _⟩ := g.at_ i _ e
  cases h2.1
  exact h1
end
end Pd
set_option Elab.async false
set_option linter.all false
set_option maxRecDepth 100000
set_option maxHeartbeats 1000000
set_option Elab.async false
set_option linter.all false
set_option maxRecDepth 100000
set_option maxHeartbeats 1000000
set_option Elab.async false
set_option linter.all false
set_option maxRecDepth 100000
set_option maxHeartbeats 1000000
set_option Elab.async false
set_option linter.all false
set_option maxRecDepth 100000
set_option maxHeartbeats 1000000
set_option Elab.async false
set_option linter.all false
set_option maxRecDepth 100000
set_option maxHeartbeats 1000000
set_option Elab.async false
set_option linter.all false
set_option maxRecDepth 100000
set_option maxHeartbeats 1000000
set_option Elab.async false
set_option linter.all false
set_option maxRecDepth 100000
set_option maxHeartbeats 1000000
set_option Elab.async false
set_option linter.all false
set_option maxRecDepth 100000
set_option maxHeartbeats 2000000
namespace Pd
open PySem PySem.Spec PyProof.Rows L2
open PySem.W (EachIs)
theorem u1 {n : Nat} (h : n + 64 < cLine) : n + 1 < cLine := by omega
end Pd
set_option Elab.async false
set_option linter.all false
set_option maxRecDepth 100000
set_option maxHeartbeats 2000000
namespace Pd
open PySem PySem.Spec PyProof.Rows L2
open PySem.W (EachIs)
def Stay (H0 H : Hp) : Prop := ∀ c, H0 c ≠ none → H c = H0 c
theorem Stay.refl (H : Hp) : Stay H H := fun _ _ => rfl
theorem Stay.trans {H0 H1 H2 : Hp} (a : Stay H0 H1) (b : Stay H1 H2) : Stay H0 H2 := fun c h => by
  have h1 := a c h
  exact (b c (by rw [h1]; exact h)).trans h1
theorem Stay.put {H0 H : Hp} {p : Addr} {o : HO} (e : Stay H0 H) (h : H0 p = none) : Stay H0 (upd H p o) := fun c hc => by
  rw [upd_ne (show c ≠ p from fun q => hc (by rw [q]; exact h))]
  exact e c hc
theorem Stay.fresh {H0 H : Hp} {p : Addr} (e : Stay H0 H) (h : H p = none) : H0 p = none := by
  cases q : H0 p with
  | none => rfl
  | some o =>
    have := e p (by rw [q]; simp)
    rw [h, q] at this
    cases this
theorem Stay.new {H0 H : Hp} {p : Addr} {o : HO} (e : Stay H0 H) (h : H p = none) : Stay H0 (upd H p o) := e.put (e.fresh h)
theorem Stay.at {H0 H : Hp} {p : Addr} {o : HO} (e : Stay H0 H) (h : H0 p = some o) : H p = some o := by rw [e p (by rw [h]; simp), h]
end Pd
set_option Elab.async false
set_option linter.all false
set_option maxRecDepth 100000
set_option maxHeartbeats 1000000
namespace Pd
open PySem PySem.Spec PyProof.Rows L2
def bareE (ρ : Env) : Env := ρ.map fun o => o.map Sl.bare
theorem bareE_get {ρ : Env} {i : Nat} : (bareE ρ)[i]? = (ρ[i]?).map fun o => o.map Sl.bare := by simp [bareE]
theorem bareE_length {ρ : Env} : (bareE ρ).length = ρ.length := by simp [bareE]
def openL : List (Nat × Nat) → List Sl → Nat → Env → Option (List Sl × Env)
  | [], l, _, ρ => some (l, ρ)
  | (i, k) :: ps, l, n, ρ => if i < ρ.length then match l[k]? with
      | some (.p d) => openL ps l (n + 1) (ρ.set i (some (.p d)))
      | some s => openL ps (l.set k (.hl none)) (n + 1) (ρ.set i (some (s.mark n)))
      | none => none
    else none
def closeL : List (Nat × Nat) → List Sl → Nat → Env → Option (List Sl × Env)
  | [], l, _, ρ => some (l, ρ)
  | (i, k) :: ps, l, n, ρ => match l[k]? with
    | some (.hl none) => match ρ[i]? with
      | some (some s) => if s.tag = some n then closeL ps (l.set k s.bare) (n + 1) (ρ.set i none) else none
      | _ => none
    | some _ => closeL ps l (n + 1) ρ
    | none => none
def keepL : List Nat → Nat → Env → Option Env
  | [], _, ρ => some ρ
  | j :: js, n, ρ => if j < ρ.length then keepL js (n + 1) (ρ.set j (some (.hl (some n)))) else none
def keptL : List Nat → Nat → Env → Bool
  | [], _, _ => true
  | j :: js, n, ρ => (match ρ[j]? with
    | some (some (.hl (some m))) => m == n
    | _ => false) && keptL js (n + 1) ρ
def gPart (ps : List (Nat × Nat)) (js : List Nat) (l : List Sl) (g : M Fl) : Env → Option (Fl × List Sl × Env) := fun ρ => match keepL js ps.length (bareE ρ) with
  | none => none
  | some ρ0 => match openL ps l 0 ρ0 with
    | none => none
    | some (lh, ρ1) => match g ρ1 with
      | none => none
      | some (.ok fl ρ2) => match fl with
        | .rt s => some (.rt s, [], ρ2.map fun _ => none)
        | fl => if keptL js ps.length ρ2 = true then match closeL ps lh 0 ρ2 with
            | some (l', ρ3) => some (fl, l', bareE ρ3)
            | none => none
          else none
section
variable {K : PySem.W.Frag} {vs0 vs1 : List V} {B H : Hp} {σ : L2.St} {ρ : Env} {fs : Nat → List Addr}
theorem Good.bareN (g : Good K vs0 B H σ ρ fs) : Good K vs1 B H σ (bareE ρ) fs where
  ext := g.ext
  len := by rw [bareE_length]; exact g.len
  at_ := fun i s h => by
    rw [bareE_get] at h
    cases e : ρ[i]? with
    | none => rw [e] at h; cases h
    | some o =>
      rw [e] at h
      cases o with
      | none => cases h
      | some s' =>
        cases h
        obtain ⟨v, h1, h2, h3⟩ := g.at_ i s' e
        exact ⟨v, h1, h2.bare, fun k h => by rw [Sl.bare_tag] at h; cases h⟩
  emp := fun i h => g.emp i fun s q => h s.bare (by rw [bareE_get, q]; rfl)
  dis := g.dis
  out := g.out
theorem Good.forget (g : Good K vs1 B H σ ρ fs) : Good K vs0 B H σ (ρ.map fun _ => none) (fun _ => []) where
  ext := g.ext
  len := by simp [g.len]
  at_ := fun i s h => by
    rw [List.getElem?_map] at h
    cases e : ρ[i]? with
    | none => rw [e] at h; cases h
    | some o => rw [e] at h; cases h
  emp := fun _ _ => rfl
  dis := fun i j a h => nomatch h
  out := fun i a h => nomatch h
theorem set_same {σ : L2.St} {i : Nat} {v : V} (h : σ[i]? = some (some v)) : σ.set i (some v) = σ := by
  apply List.ext_getElem?
  intro j
  by_cases q : j = i
  · subst q
    rw [List.getElem?_set_self (List.getElem?_eq_some_iff.mp h).1, h]
  · rw [List.getElem?_set_ne (Ne.symm q)]
theorem mark_tag {s : Sl} {n k : Nat} (h : (s.mark n).tag = some k) : k = n := by
  cases s <;> simp [Sl.mark, Sl.tag] at h <;> exact h.symm
theorem keepL_ok : ∀ {js : List Nat} {n : Nat} {ρ ρ0 : Env} {fs : Nat → List Addr}, keepL js n ρ = some ρ0 → Good K vs1 B H σ ρ fs → (∀ q j, js[q]? = some j → ∃ v, σ[j]? = some (some v) ∧ vs1[n + q]? = some v) →
    ∃ fs0, Good K vs1 B H σ ρ0 fs0 ∧ ∀ a, InF fs0 a → InF fs a
  | [], n, ρ, ρ0, fs, e, g, h => by cases e; exact ⟨fs, g, fun _ h => h⟩
  | j :: js, n, ρ, ρ0, fs, e, g, h => by
    unfold keepL at e
    split at e
    · rename_i hj
      obtain ⟨v, h1, h2⟩ := h 0 j rfl
      have g1 := g.put (i := j) (v := v) (s := .hl (some n)) (T := []) hj rfl (fun k hk => by cases hk; exact h2) (fun a ha => nomatch ha)
      rw [set_same h1] at g1
      obtain ⟨fs0, g2, s2⟩ := keepL_ok e g1 fun q j' hq => by
        obtain ⟨v', r1, r2⟩ := h (q + 1) j' (by simpa using hq)
        exact ⟨v', r1, by rw [show n + 1 + q = n + (q + 1) by omega]; exact r2⟩
      refine ⟨fs0, g2, fun a ha => ?_⟩
      obtain ⟨i, hi⟩ := s2 a ha
      try dsimp only at hi
      by_cases z : i = j
      · rw [if_pos z] at hi; cases hi
      · rw [if_neg z] at hi; exact ⟨i, hi⟩
    · cases e
theorem keptL_ok : ∀ {js : List Nat} {n : Nat}, keptL js n ρ = true → Good K vs1 B H σ ρ fs → ∀ q j v, js[q]? = some j → vs1[n + q]? = some v → σ[j]? = some (some v)
  | [], n, e, g, q, j, v, h, _ => by simp at h
  | i :: js, n, e, g, q, j, v, h, hv => by
    unfold keptL at e
    rw [Bool.and_eq_true] at e
    cases q with
    | zero =>
      simp at h
      subst h
      have e1 := e.1
      split at e1
      · rename_i m hm
        have e1 : m = n := by simpa using e1
        subst e1
        obtain ⟨v', h1, _, h3⟩ := g.at_ i _ hm
        have := h3 m rfl
        rw [Nat.add_zero] at hv
        rw [hv] at this
        cases this
        exact h1
      · cases e1
    | succ q =>
      refine keptL_ok e.2 g q j v (by simpa using h) ?_
      rw [show n + 1 + q = n + (q + 1) by omega]
      exact hv
theorem openL_ok : ∀ {ps : List (Nat × Nat)} {l : List Sl} {n : Nat} {ρ : Env} {fs : Nat → List Addr} {Us : List (List Addr)} {lh : List Sl} {ρo : Env} {xs : List V}, openL ps l n ρ = some (lh, ρo) → Good K vs1 B H σ ρ fs → OwnL K B H xs l Us → Us.flatten.Nodup → (∀ a ∈ Us.flatten, B a = none ∧ ∀ i, a ∉ fs i) →
    (∀ q i k, ps[q]? = some (i, k) → ∃ v, xs[k]? = some v ∧ σ[i]? = some (some v) ∧ vs1[n + q]? = some v) →
    ∃ fso Uh, Good K vs1 B H σ ρo fso ∧ OwnL K B H xs lh Uh ∧ Uh.flatten.Nodup ∧ (∀ a ∈ Uh.flatten, B a = none ∧ ∀ i, a ∉ fso i) ∧ (∀ a ∈ Uh.flatten, a ∈ Us.flatten) ∧ ∀ a, InF fso a → UnF (InF fs) Us.flatten a
  | [], l, n, ρ, fs, Us, lh, ρo, xs, e, g, ow, nd, off, nm => by
    cases e
    exact ⟨fs, Us, g, ow, nd, off, fun _ h => h, fun a h => Or.inl h⟩
  | (i, k) :: ps, l, n, ρ, fs, Us, lh, ρo, xs, e, g, ow, nd, off, nm => by
    have nm' : ∀ q i k, ps[q]? = some (i, k) → ∃ v, xs[k]? = some v ∧ σ[i]? = some (some v) ∧ vs1[n + 1 + q]? = some v := fun q i k hq => by
      obtain ⟨v, r1, r2, r3⟩ := nm (q + 1) i k (by simpa using hq)
      exact ⟨v, r1, r2, by rw [show n + 1 + q = n + (q + 1) by omega]; exact r3⟩
    obtain ⟨v, hv1, hv2, hv3⟩ := nm 0 i k rfl
    unfold openL at e
    split at e
    · rename_i hi
      split at e
      · rename_i d hd
        obtain ⟨v', Tk, w1, w2, w3⟩ := ow.get hd
        rw [hv1] at w1
        cases w1
        have g1 := g.put (i := i) (v := v) (s := .p d) (T := []) hi ⟨w3.1, rfl⟩ (fun k hk => nomatch hk) (fun a ha => nomatch ha)
        rw [set_same hv2] at g1
        have sub : ∀ a, InF (fun j => if j = i then [] else fs j) a → InF fs a := fun a ha => by
          obtain ⟨j, hj⟩ := ha
          try dsimp only at hj
          by_cases z : j = i
          · rw [if_pos z] at hj; cases hj
          · rw [if_neg z] at hj; exact ⟨j, hj⟩
        obtain ⟨fso, Uh, q1, q2, q3, q4, q5, q6⟩ := openL_ok e g1 ow nd (fun a ha => ⟨(off a ha).1, fun j hj => by
          obtain ⟨j', hj'⟩ := sub a ⟨j, hj⟩
          exact (off a ha).2 j' hj'⟩) nm'
        refine ⟨fso, Uh, q1, q2, q3, q4, q5, fun a ha => ?_⟩
        rcases q6 a ha with h | h
        · exact Or.inl (sub a h)
        · exact Or.inr h
      · rename_i s hs hd
        obtain ⟨v', Tk, w1, w2, w3⟩ := ow.get hd
        rw [hv1] at w1
        cases w1
        have inT : ∀ a ∈ Tk, a ∈ Us.flatten := fun a ha => List.mem_flatten.mpr ⟨Tk, List.mem_of_getElem? w2, ha⟩
        have g1 := g.put (i := i) (v := v) (s := s.mark n) (T := Tk) hi w3.mark (fun k hk => by rw [mark_tag hk]; exact hv3) (fun a ha => ⟨(off a (inT a ha)).1, fun j _ => (off a (inT a ha)).2 j⟩)
        rw [set_same hv2] at g1
        have ow1 : OwnL K B H xs (l.set k (.hl none)) (Us.set k []) := OwnL.set (Same.refl B) ow (fun _ _ _ _ _ _ => rfl) hv1 rfl
        have nd1 : (Us.set k []).flatten.Nodup := flat_set_nodup nd w2 List.nodup_nil (fun a ha => nomatch ha)
        have sub1 : ∀ a ∈ (Us.set k []).flatten, a ∈ Us.flatten ∧ a ∉ Tk := fun a ha => by
          rcases flat_set_mem ha with h | ⟨j, T, h1, h2, h3⟩
          · cases h
          · exact ⟨List.mem_flatten.mpr ⟨T, List.mem_of_getElem? h2, h3⟩, fun h => h1 (flat_injL nd h2 w2 h3 h)⟩
        obtain ⟨fso, Uh, q1, q2, q3, q4, q5, q6⟩ := openL_ok e g1 ow1 nd1 (fun a ha => ⟨(off a (sub1 a ha).1).1, fun j hj => by
          try dsimp only at hj
          by_cases z : j = i
          · rw [if_pos z] at hj; exact (sub1 a ha).2 hj
          · rw [if_neg z] at hj; exact (off a (sub1 a ha).1).2 j hj⟩) nm'
        refine ⟨fso, Uh, q1, q2, q3, q4, fun a ha => (sub1 a (q5 a ha)).1, fun a ha => ?_⟩
        rcases q6 a ha with ⟨j, hj⟩ | h
        · try dsimp only at hj
          by_cases z : j = i
          · rw [if_pos z] at hj; exact Or.inr (inT a hj)
          · rw [if_neg z] at hj; exact Or.inl ⟨j, hj⟩
        · exact Or.inr (sub1 a h).1
      · cases e
    · cases e
theorem closeL_ok : ∀ {ps : List (Nat × Nat)} {l : List Sl} {n : Nat} {ρ : Env} {fs : Nat → List Addr} {Us : List (List Addr)} {l' : List Sl} {ρc : Env} {xs : List V}, closeL ps l n ρ = some (l', ρc) → Good K vs1 B H σ ρ fs → OwnL K B H xs l Us → Us.flatten.Nodup → (∀ a ∈ Us.flatten, B a = none ∧ ∀ i, a ∉ fs i) →
    (∀ q i k, ps[q]? = some (i, k) → ∃ v, xs[k]? = some v ∧ vs1[n + q]? = some v) →
    ∃ fsc U', Good K vs1 B H σ ρc fsc ∧ OwnL K B H xs l' U' ∧ U'.flatten.Nodup ∧ (∀ a ∈ U'.flatten, B a = none ∧ ∀ i, a ∉ fsc i) ∧ (∀ a, InF fsc a → InF fs a) ∧ ∀ a ∈ U'.flatten, UnF (InF fs) Us.flatten a
  | [], l, n, ρ, fs, Us, l', ρc, xs, e, g, ow, nd, off, nm => by
    cases e
    exact ⟨fs, Us, g, ow, nd, off, fun _ h => h, fun a h => Or.inr h⟩
  | (i, k) :: ps, l, n, ρ, fs, Us, l', ρc, xs, e, g, ow, nd, off, nm => by
    have nm' : ∀ q i k, ps[q]? = some (i, k) → ∃ v, xs[k]? = some v ∧ vs1[n + 1 + q]? = some v := fun q i k hq => by
      obtain ⟨v, r1, r3⟩ := nm (q + 1) i k (by simpa using hq)
      exact ⟨v, r1, by rw [show n + 1 + q = n + (q + 1) by omega]; exact r3⟩
    obtain ⟨v, hv1, hv3⟩ := nm 0 i k rfl
    unfold closeL at e
    split at e
    · rename_i hk
      split at e
      · rename_i s hs
        split at e
        · rename_i ht
          obtain ⟨v', z1, z2, z3⟩ := g.at_ i s hs
          have := z3 n ht
          rw [Nat.add_zero] at hv3
          rw [hv3] at this
          cases this
          obtain ⟨v', Tk, w1, w2, w3⟩ := ow.get hk
          rw [hv1] at w1
          cases w1
          have hTk : Tk = [] := w3
          subst hTk
          have g1 := g.drop i
          have ow1 : OwnL K B H xs (l.set k s.bare) (Us.set k (fs i)) := OwnL.set (Same.refl B) ow (fun _ _ _ _ _ _ => rfl) hv1 z2.bare
          have dis : ∀ a ∈ fs i, a ∈ Us.flatten → a ∈ ([] : List Addr) := fun a ha hu => absurd ha ((off a hu).2 i)
          have nd1 : (Us.set k (fs i)).flatten.Nodup := flat_set_nodup nd w2 z2.nodup dis
          have sub1 : ∀ a ∈ (Us.set k (fs i)).flatten, a ∈ fs i ∨ a ∈ Us.flatten := fun a ha => by
            rcases flat_set_mem ha with h | ⟨j, T, h1, h2, h3⟩
            · exact Or.inl h
            · exact Or.inr (List.mem_flatten.mpr ⟨T, List.mem_of_getElem? h2, h3⟩)
          have off1 : ∀ a ∈ (Us.set k (fs i)).flatten, B a = none ∧ ∀ j, a ∉ (fun j => if j = i then [] else fs j) j := fun a ha => by
            rcases sub1 a ha with h | h
            · refine ⟨g.out i a h, fun j hj => ?_⟩
              try dsimp only at hj
              by_cases z : j = i
              · rw [if_pos z] at hj; cases hj
              · rw [if_neg z] at hj; exact z (g.dis j i a hj h)
            · refine ⟨(off a h).1, fun j hj => ?_⟩
              try dsimp only at hj
              by_cases z : j = i
              · rw [if_pos z] at hj; cases hj
              · rw [if_neg z] at hj; exact (off a h).2 j hj
          obtain ⟨fsc, U', q1, q2, q3, q4, q5, q6⟩ := closeL_ok e g1 ow1 nd1 off1 nm'
          have sub2 : ∀ a, InF (fun j => if j = i then [] else fs j) a → InF fs a := fun a ha => by
            obtain ⟨j, hj⟩ := ha
            try dsimp only at hj
            by_cases z : j = i
            · rw [if_pos z] at hj; cases hj
            · rw [if_neg z] at hj; exact ⟨j, hj⟩
          refine ⟨fsc, U', q1, q2, q3, q4, fun a ha => sub2 a (q5 a ha), fun a ha => ?_⟩
          rcases q6 a ha with h | h
          · exact Or.inl (sub2 a h)
          · rcases sub1 a h with h | h
            · exact Or.inl ⟨i, h⟩
            · exact Or.inr h
        · cases e
      · cases e
    · exact closeL_ok e g ow nd off nm'
    · cases e
theorem closeL_name : ∀ {ps : List (Nat × Nat)} {l : List Sl} {n : Nat} {ρ : Env} {fs : Nat → List Addr} {l' : List Sl} {ρc : Env}, closeL ps l n ρ = some (l', ρc) → Good K vs1 B H σ ρ fs → (ps.map (·.2)).Nodup → ∀ q i k v, ps[q]? = some (i, k) → l[k]? = some (.hl none) → vs1[n + q]? = some v → σ[i]? = some (some v)
  | [], l, n, ρ, fs, l', ρc, e, g, nd, q, i, k, v, h, _, _ => by simp at h
  | (i0, k0) :: ps, l, n, ρ, fs, l', ρc, e, g, nd, q, i, k, v, h, hk, hv => by
    rw [List.map_cons, List.nodup_cons] at nd
    unfold closeL at e
    cases q with
    | zero =>
      simp at h
      obtain ⟨rfl, rfl⟩ := h
      rw [hk] at e
      dsimp only at e
      split at e
      · rename_i s hs
        split at e
        · rename_i ht
          obtain ⟨v', z1, z2, z3⟩ := g.at_ i0 s hs
          have := z3 n ht
          rw [Nat.add_zero] at hv
          rw [hv] at this
          cases this
          exact z1
        · cases e
      · cases e
    | succ q =>
      have hq : ps[q]? = some (i, k) := by simpa using h
      have hkk : k ≠ k0 := fun z => nd.1 (by rw [← z]; exact List.mem_map.mpr ⟨(i, k), List.mem_of_getElem? hq, rfl⟩)
      have hv' : vs1[n + 1 + q]? = some v := by rw [show n + 1 + q = n + (q + 1) by omega]; exact hv
      split at e
      · split at e
        · rename_i s hs
          split at e
          · exact closeL_name e (g.drop i0) nd.2 q i k v hq (by rw [List.getElem?_set_ne (Ne.symm hkk)]; exact hk) hv'
          · cases e
        · cases e
      · exact closeL_name e g nd.2 q i k v hq hk hv'
      · cases e
theorem openL_hole : ∀ {ps : List (Nat × Nat)} {l : List Sl} {n : Nat} {ρ : Env} {lh : List Sl} {ρo : Env} {k : Nat}, openL ps l n ρ = some (lh, ρo) → (l[k]? = some (.hl none) → lh[k]? = some (.hl none)) ∧ (∀ i, (i, k) ∈ ps → (∀ d, l[k]? ≠ some (.p d)) → lh[k]? = some (.hl none))
  | [], l, n, ρ, lh, ρo, k, e => by cases e; exact ⟨fun h => h, fun i h => nomatch h⟩
  | (i0, k0) :: ps, l, n, ρ, lh, ρo, k, e => by
    unfold openL at e
    split at e
    · split at e
      · rename_i d hd
        obtain ⟨h1, h2⟩ := openL_hole (k := k) e
        refine ⟨h1, fun i hi hn => ?_⟩
        rcases List.mem_cons.mp hi with h | h
        · cases h
          exact absurd hd (hn d)
        · exact h2 i h hn
      · rename_i s hs hd
        obtain ⟨h1, h2⟩ := openL_hole (k := k) e
        have hl : k0 < l.length := (List.getElem?_eq_some_iff.mp hd).1
        by_cases z : k = k0
        · subst z
          have := h1 (List.getElem?_set_self hl)
          exact ⟨fun _ => this, fun _ _ _ => this⟩
        · rw [List.getElem?_set_ne (Ne.symm z)] at h1 h2
          refine ⟨h1, fun i hi hn => ?_⟩
          rcases List.mem_cons.mp hi with h | h
          · cases h
            exact absurd rfl z
          · exact h2 i h hn
      · cases e
    · cases e
end
def Ends.at (D : Ends) : Fl → L2.St → Hp → Prop
  | .nx => D.nx
  | .bk => D.bk
  | .ct => D.ct
  | .rt _ => fun _ _ => False
structure WantP (K : PySem.W.Frag) (vs0 : List V) (D : Ends) (B H : Hp) (F : Addr → Prop) (o : Addr) (xs : List V) (σ : L2.St) (ps : List (Nat × Nat)) (js : List Nat) (l : List Sl) (fl : Fl) (l' : List Sl) (ρ' : Env) : Prop where
  rt : ∀ s, fl = .rt s → ∀ v σ' B' H' fs' T, Fr B H F B' H' (UnF (InF fs') T) → Good K vs0 B' H' σ' ρ' fs' → RsOk K B' H' σ' fs' v (.own s) T → D.rt v H'
  go : (∀ s, fl ≠ .rt s) → ∀ σ' B' H' fs' U', Fr B H F B' H' (UnF (InF fs') (o :: U'.flatten)) → Good K vs0 B' H' σ' ρ' fs' → OwnL K B' H' xs l' U' → (o :: U'.flatten).Nodup → (∀ a ∈ o :: U'.flatten, B' a = none ∧ ∀ i, a ∉ fs' i) → H' o = some (.lst xs) →
    (∀ j ∈ js, σ'[j]? = σ[j]?) → ((ps.map (·.2)).Nodup → ∀ i k, (i, k) ∈ ps → (∀ d, l[k]? ≠ some (.p d)) → σ'[i]? = σ[i]?) → Ends.at D fl σ' H'
theorem part_ok {K : PySem.W.Frag} {vs0 : List V} {D : Ends} {B H : Hp} {σ : L2.St} {ρ : Env} {fs : Nat → List Addr} {o : Addr} {xs : List V} {l : List Sl} {Us : List (List Addr)} {ps : List (Nat × Nat)} {js : List Nat} {g : M Fl} {fl : Fl} {l' : List Sl} {ρ' : Env}
    (gd : Good K vs0 B H σ ρ fs) (hx : H o = some (.lst xs)) (ow : OwnL K B H xs l Us) (nd : (o :: Us.flatten).Nodup) (off : ∀ a ∈ o :: Us.flatten, B a = none ∧ ∀ i, a ∉ fs i)
    (nm : ∀ i k, (i, k) ∈ ps → ∃ v, xs[k]? = some v ∧ σ[i]? = some (some v)) (kj : ∀ j ∈ js, ∃ v, σ[j]? = some (some v)) (e : gPart ps js l g ρ = some (fl, l', ρ'))
    (w : WantP K vs0 D B H (UnF (InF fs) (o :: Us.flatten)) o xs σ ps js l fl l' ρ') : ∃ vs1, rdS K vs1 g D σ H := by
  refine ⟨ps.map (fun p => (xs[p.2]?).getD .non) ++ js.map (fun j => ((σ[j]?).getD none).getD .non), ?_⟩
  generalize hvs : (ps.map (fun p => (xs[p.2]?).getD .non) ++ js.map (fun j => ((σ[j]?).getD none).getD .non)) = vs1
  have hp : ∀ q i k, ps[q]? = some (i, k) → ∃ v, xs[k]? = some v ∧ σ[i]? = some (some v) ∧ vs1[0 + q]? = some v := fun q i k hq => by
    obtain ⟨v, h1, h2⟩ := nm i k (List.mem_of_getElem? hq)
    refine ⟨v, h1, h2, ?_⟩
    have hlt : q < ps.length := (List.getElem?_eq_some_iff.mp hq).1
    rw [← hvs, Nat.zero_add, List.getElem?_append_left (by rw [List.length_map]; exact hlt), List.getElem?_map, hq]
    simp [h1]
  have hj : ∀ q j, js[q]? = some j → ∃ v, σ[j]? = some (some v) ∧ vs1[ps.length + q]? = some v := fun q j hq => by
    obtain ⟨v, h1⟩ := kj j (List.mem_of_getElem? hq)
    refine ⟨v, h1, ?_⟩
    rw [← hvs, List.getElem?_append_right (by rw [List.length_map]; omega), List.length_map, Nat.add_sub_cancel_left, List.getElem?_map, hq]
    simp [h1]
  unfold gPart at e
  split at e
  · cases e
  · rename_i ρ0 e0
    split at e
    · cases e
    · rename_i lh ρ1 e1
      split at e
      · cases e
      · rename_i fl2 ρ2 e2
        obtain ⟨fs0, g0, s0⟩ := keepL_ok e0 (gd.bareN (vs1 := vs1)) hj
        have nd' := List.nodup_cons.mp nd
        obtain ⟨fs1, Uh, g1, ow1, nd1, off1, sU, s1⟩ := openL_ok e1 g0 ow nd'.2 (fun a ha => ⟨(off a (List.mem_cons_of_mem _ ha)).1, fun i hi => by
          obtain ⟨j, hj⟩ := s0 a ⟨i, hi⟩
          exact (off a (List.mem_cons_of_mem _ ha)).2 j hj⟩) hp
        have sF : ∀ a, InF fs1 a → UnF (InF fs) Us.flatten a := fun a ha => by
          rcases s1 a ha with h | h
          · exact Or.inl (s0 a h)
          · exact Or.inr h
        have ho : ∀ a ∈ o :: Uh.flatten, ¬ InF fs1 a := fun a ha hi => by
          rcases List.mem_cons.mp ha with rfl | ha
          · rcases sF a hi with ⟨j, hj⟩ | h
            · exact (off a (by simp)).2 j hj
            · exact nd'.1 h
          · obtain ⟨j, hj⟩ := hi
            exact (off1 a ha).2 j hj
        have lv : ∀ a ∈ o :: Uh.flatten, H a ≠ none := fun a ha => by
          rcases List.mem_cons.mp ha with rfl | ha
          · rw [hx]; simp
          · exact OwnL.liveA ow1 a ha
        have bo : ∀ a ∈ o :: Uh.flatten, B a = none := fun a ha => by
          rcases List.mem_cons.mp ha with rfl | ha
          · exact (off a (by simp)).1
          · exact (off1 a ha).1
        have ndo : (o :: Uh.flatten).Nodup := List.nodup_cons.mpr ⟨fun h => nd'.1 (sU _ h), nd1⟩
        refine rdS_of g1 e2 ?_
        have frW : ∀ {B' H' : Hp} {fs' : Nat → List Addr} {F' : Addr → Prop}, Fr B H (InF fs1) B' H' F' → Fr B H (UnF (InF fs) (o :: Us.flatten)) B' H' (UnF F' (o :: Uh.flatten)) := fun {B' H' fs' F'} fr =>
          (fr.frame (o :: Uh.flatten)).weak (fun a h => by
            rcases h with h | h
            · rcases sF a h with h | h
              · exact Or.inl h
              · exact Or.inr (List.mem_cons_of_mem _ h)
            · rcases List.mem_cons.mp h with rfl | h
              · exact Or.inr (by simp)
              · exact Or.inr (List.mem_cons_of_mem _ (sU a h))) fun a h => Or.inl h
        have run : (∀ s, fl2 ≠ .rt s) → ∀ σ' B' H' fs', Fr B H (InF fs1) B' H' (InF fs') → Good K vs1 B' H' σ' ρ2 fs' → Ends.at D fl2 σ' H' := by
          intro hn σ' B' H' fs' fr g'
          have e' : (if keptL js ps.length ρ2 = true then match closeL ps lh 0 ρ2 with
            | some (l', ρ3) => some (fl2, l', bareE ρ3)
            | none => none
          else none) = some (fl, l', ρ') := by
            cases fl2 with
            | rt s => exact absurd rfl (hn s)
            | nx => exact e
            | bk => exact e
            | ct => exact e
          split at e'
          · rename_i hk
            split at e'
            · rename_i l3 ρ3 ec
              cases e'
              have kp : ∀ a ∈ o :: Uh.flatten, H' a = H a := fun a ha => fr.keep a (lv a ha) (ho a ha)
              have off2 : ∀ a ∈ o :: Uh.flatten, B' a = none ∧ ∀ i, a ∉ fs' i := fun a ha => ⟨fr.bnew a (lv a ha) (ho a ha) (bo a ha), fun i hi => by
                rcases fr.own a ⟨i, hi⟩ with h | h
                · exact ho a ha h
                · exact lv a ha h⟩
              have ow2 : OwnL K B' H' xs lh Uh := OwnL.keepA fr.bb ow1 fun a ha => kp a (List.mem_cons_of_mem _ ha)
              obtain ⟨fsc, U', q1, q2, q3, q4, q5, q6⟩ := closeL_ok ec g' ow2 nd1 (fun a ha => off2 a (List.mem_cons_of_mem _ ha)) fun q i k hq => by
                obtain ⟨v, r1, _, r3⟩ := hp q i k hq
                exact ⟨v, r1, r3⟩
              have ou : o ∉ U'.flatten := fun h => by
                rcases q6 o h with ⟨j, hj⟩ | h
                · exact (off2 o (by simp)).2 j hj
                · exact (List.nodup_cons.mp ndo).1 h
              refine w.go hn σ' B' H' fsc U' ((frW (fs' := fs') fr).weak (fun _ h => h) fun a h => ?_) q1.bareN q2 (List.nodup_cons.mpr ⟨ou, q3⟩) (fun a ha => ?_) ?_ (fun j hj' => ?_) fun ndk i k hik hfl => ?_
              · rcases h with h | h
                · exact Or.inl (Or.inl (q5 a h))
                · rcases List.mem_cons.mp h with rfl | h
                  · exact Or.inl (Or.inr (by simp))
                  · rcases q6 a h with h | h
                    · exact Or.inl (Or.inl h)
                    · exact Or.inl (Or.inr (List.mem_cons_of_mem _ h))
              · rcases List.mem_cons.mp ha with rfl | ha
                · refine ⟨(off2 a (by simp)).1, fun i hi => ?_⟩
                  obtain ⟨j, hj⟩ := q5 a ⟨i, hi⟩
                  exact (off2 a (by simp)).2 j hj
                · exact q4 a ha
              · rw [kp o (by simp)]; exact hx
              · obtain ⟨q, hq⟩ := List.getElem?_of_mem hj'
                obtain ⟨v, r1, r2⟩ := hj q j hq
                rw [r1]
                exact keptL_ok hk g' q j v hq r2
              · obtain ⟨q, hq⟩ := List.getElem?_of_mem hik
                obtain ⟨v, r1, r2, r3⟩ := hp q i k hq
                rw [r2]
                exact closeL_name ec g' ndk q i k v hq ((openL_hole e1).2 i hik hfl) r3
            · cases e'
          · cases e'
        cases fl2 with
        | nx => exact fun σ' B' H' fs' fr g' => run (fun s h => nomatch h) σ' B' H' fs' fr g'
        | bk => exact fun σ' B' H' fs' fr g' => run (fun s h => nomatch h) σ' B' H' fs' fr g'
        | ct => exact fun σ' B' H' fs' fr g' => run (fun s h => nomatch h) σ' B' H' fs' fr g'
        | rt s =>
          cases e
          intro v σ' B' H' fs' T fr g' ok
          refine w.rt s rfl v σ' B' H' (fun _ => []) T ((frW (fs' := fs') fr).weak (fun _ h => h) fun a h => ?_) g'.forget ⟨ok.1, ok.2.1, fun a ha => ⟨(ok.2.2 a ha).1, fun i hi => nomatch hi⟩⟩
          rcases h with ⟨j, hj⟩ | h
          · cases hj
          · exact Or.inl (Or.inl (Or.inr h))
theorem pss_any {X : Cx} {st : List Stmt} {g : M Fl} (h : ∀ vs1, PSs X st (rdS X.K vs1 g)) : PSs X st (fun D σ H => ∃ vs1, rdS X.K vs1 g D σ H) := ⟨fun pins s σ H D I q => by
  obtain ⟨vs1, q⟩ := q
  exact (h vs1).run pins s σ H D I q⟩
end Pd
set_option Elab.async false
set_option linter.all false
set_option maxRecDepth 100000
set_option maxHeartbeats 1000000
namespace Pd
open PySem PySem.Spec PyProof.Rows L2
section
variable {K : PySem.W.Frag} {vs0 : List V} {B H : Hp}
structure Hand (K : PySem.W.Frag) (vs0 : List V) (B H : Hp) (σ : L2.St) (ρ : Env) (fs : Nat → List Addr) (o : Addr) (xs : List V) (l : List Sl) (Us : List (List Addr)) : Prop where
  good : Good K vs0 B H σ ρ fs
  hx : H o = some (.lst xs)
  ow : OwnL K B H xs l Us
  nd : (o :: Us.flatten).Nodup
  off : ∀ a ∈ o :: Us.flatten, B a = none ∧ ∀ i, a ∉ fs i
section
variable {σ : L2.St} {ρ : Env} {fs : Nat → List Addr} {o : Addr} {xs : List V} {l : List Sl} {Us : List (List Addr)}
theorem Hand.live (h : Hand K vs0 B H σ ρ fs o xs l Us) : ∀ a ∈ o :: Us.flatten, H a ≠ none := fun a ha => by
  rcases List.mem_cons.mp ha with rfl | ha
  · rw [h.hx]; simp
  · exact OwnL.liveA h.ow a ha
theorem hand_of {j : Nat} {t : Option Nat} (g : Good K vs0 B H σ ρ fs) (e : ρ[j]? = some (some (.mr t l))) : ∃ o xs Us, σ[j]? = some (some (.ref o)) ∧ fs j = o :: Us.flatten ∧ Hand K vs0 B H σ (ρ.set j none) (fun i => if i = j then [] else fs i) o xs l Us := by
  obtain ⟨v0, z1, ⟨o, xs, Us, rfl, hfs, w1, w2, w3⟩, _⟩ := g.at_ j _ e
  rw [hfs] at w3
  refine ⟨o, xs, Us, z1, hfs, g.drop j, w1, w2, w3, fun a ha => ⟨g.out j a (by rw [hfs]; exact ha), fun i hi => ?_⟩⟩
  try dsimp only at hi
  by_cases z : i = j
  · rw [if_pos z] at hi; cases hi
  · rw [if_neg z] at hi; exact z (g.dis i j a hi (by rw [hfs]; exact ha))
theorem Hand.next {B2 H2 : Hp} {ρ2 : Env} {fs2 : Nat → List Addr} {T : List Addr} (h : Hand K vs0 B H σ ρ fs o xs l Us) (fr : Fr B H (InF fs) B2 H2 (UnF (InF fs2) T)) (g : Good K vs0 B2 H2 σ ρ2 fs2) :
    Hand K vs0 B2 H2 σ ρ2 fs2 o xs l Us ∧ Fr B H (UnF (InF fs) (o :: Us.flatten)) B2 H2 (UnF (InF fs2) (o :: Us.flatten)) := by
  have nf : ∀ a ∈ o :: Us.flatten, ¬ InF fs a := fun a ha hi => by
    obtain ⟨i, hi⟩ := hi
    exact (h.off a ha).2 i hi
  have kp : ∀ a ∈ o :: Us.flatten, H2 a = H a := fun a ha => fr.keep a (h.live a ha) (nf a ha)
  refine ⟨⟨g, by rw [kp o (by simp)]; exact h.hx, OwnL.keepA fr.bb h.ow fun a ha => kp a (List.mem_cons_of_mem _ ha), h.nd, fun a ha => ⟨fr.bnew a (h.live a ha) (nf a ha) (h.off a ha).1, fun i hi => ?_⟩⟩, (fr.frame _).weak (fun _ h => h) fun a h => ?_⟩
  · rcases fr.own a (Or.inl ⟨i, hi⟩) with q | q
    · exact nf a ha q
    · exact h.live a ha q
  · rcases h with h | h
    · exact Or.inl (Or.inl (Or.inl h))
    · exact Or.inl (Or.inr h)
theorem Hand.name {i : Nat} (h : Hand K vs0 B H σ ρ fs o xs l Us) (hi : i < ρ.length) (v : V) : ∃ fs', Hand K vs0 B H (σ.set i (some v)) (ρ.set i (some (.hl none))) fs' o xs l Us ∧ ∀ a, InF fs' a → InF fs a := by
  have g1 := h.good.put (i := i) (v := v) (s := .hl none) (T := []) hi rfl (fun k h => nomatch h) (fun a ha => nomatch ha)
  have sub : ∀ a, InF (fun j => if j = i then [] else fs j) a → InF fs a := fun a ha => by
    obtain ⟨j, hj⟩ := ha
    try dsimp only at hj
    by_cases z : j = i
    · rw [if_pos z] at hj; cases hj
    · rw [if_neg z] at hj; exact ⟨j, hj⟩
  refine ⟨_, ⟨g1, h.hx, h.ow, h.nd, fun a ha => ⟨(h.off a ha).1, fun j hj => ?_⟩⟩, sub⟩
  obtain ⟨j', hj'⟩ := sub a ⟨j, hj⟩
  exact (h.off a ha).2 j' hj'
theorem Hand.give {j : Nat} (h : Hand K vs0 B H σ ρ fs o xs l Us) (hj : j < ρ.length) (e : σ[j]? = some (some (.ref o))) : ∃ fs', Good K vs0 B H σ (ρ.set j (some (.mr none l))) fs' ∧ ∀ a, InF fs' a → UnF (InF fs) (o :: Us.flatten) a := by
  have g := h.good.put (i := j) (v := .ref o) (s := .mr none l) (T := o :: Us.flatten) hj ⟨o, xs, Us, rfl, rfl, h.hx, h.ow, h.nd⟩ (fun k h => nomatch h) (fun a ha => ⟨(h.off a ha).1, fun i _ => (h.off a ha).2 i⟩)
  rw [set_same e] at g
  refine ⟨_, g, fun a ha => ?_⟩
  obtain ⟨i, hi⟩ := ha
  try dsimp only at hi
  by_cases z : i = j
  · rw [if_pos z] at hi; exact Or.inr hi
  · rw [if_neg z] at hi; exact Or.inl ⟨i, hi⟩
theorem Hand.at (h : Hand K vs0 B H σ ρ fs o xs l Us) {k : Nat} {s : Sl} (e : l[k]? = some s) : ∃ v, xs[k]? = some v := by
  obtain ⟨v, T, h1, _, _⟩ := h.ow.get e
  exact ⟨v, h1⟩
end
structure WantT (K : PySem.W.Frag) (vs0 : List V) (D : Ends) (B H : Hp) (F : Addr → Prop) (o : Addr) (xs : List V) (σ : L2.St) (js : List Nat) (fl : Fl) (l' : List Sl) (ρ' : Env) : Prop where
  rt : ∀ s, fl = .rt s → ∀ v σ' B' H' fs' T, Fr B H F B' H' (UnF (InF fs') T) → Good K vs0 B' H' σ' ρ' fs' → RsOk K B' H' σ' fs' v (.own s) T → D.rt v H'
  go : (∀ s, fl ≠ .rt s) → ∀ σ' B' H' fs' U', Fr B H F B' H' (UnF (InF fs') (o :: U'.flatten)) → Hand K vs0 B' H' σ' ρ' fs' o xs l' U' → (∀ j ∈ js, σ'[j]? = σ[j]?) → Ends.at D fl σ' H'
end
end Pd
set_option Elab.async false
set_option linter.all false
set_option maxRecDepth 100000
set_option maxHeartbeats 1000000
namespace Pd
open PySem PySem.Spec PyProof.Rows L2
def giveJ (j : Nat) : Fl × List Sl × Env → Option (Out Fl)
  | (fl, l, ρ) => match fl with
    | .rt s => some (.ok (.rt s) ρ)
    | fl => if j < ρ.length then some (.ok fl (ρ.set j (some (.mr none l)))) else none
end Pd
set_option Elab.async false
set_option linter.all false
set_option maxRecDepth 100000
set_option maxHeartbeats 1000000
set_option Elab.async false
set_option linter.all false
set_option maxRecDepth 100000
set_option maxHeartbeats 1000000
set_option Elab.async false
set_option linter.all false
set_option maxRecDepth 100000
set_option maxHeartbeats 1000000
set_option Elab.async false
set_option linter.all false
set_option maxRecDepth 100000
set_option maxHeartbeats 1000000
set_option Elab.async false
set_option linter.all false
set_option maxRecDepth 100000
set_option maxHeartbeats 1000000
namespace Pd
open PySem PySem.Spec PyProof.Rows L2
theorem rdS_seq {K : PySem.W.Frag} {vs0 : List V} {g1 g2 : M Fl} {D : Ends} {σ : L2.St} {H : Hp} (q : rdS K vs0 (gSeq g1 g2) D σ H) : rdS K vs0 g1 { D with nx := rdS K vs0 g2 D } σ H := by
  obtain ⟨B, ρ, fs, gd, fl, ρ', e1, k⟩ := q
  obtain ⟨fl1, ρ1, e2, e3⟩ := M.bind_ok e1
  refine ⟨B, ρ, fs, gd, fl1, ρ1, e2, ?_⟩
  cases fl1 with
  | nx =>
    intro σ1 B1 H1 fs1 fr1 g1
    refine ⟨B1, ρ1, fs1, g1, fl, ρ', e3, ?_⟩
    cases fl with
    | nx => exact fun σ2 B2 H2 fs2 fr2 g2 => k σ2 B2 H2 fs2 (fr1.trans fr2) g2
    | bk => exact fun σ2 B2 H2 fs2 fr2 g2 => k σ2 B2 H2 fs2 (fr1.trans fr2) g2
    | ct => exact fun σ2 B2 H2 fs2 fr2 g2 => k σ2 B2 H2 fs2 (fr1.trans fr2) g2
    | rt s => exact fun v σ2 B2 H2 fs2 T fr2 g2 ok => k v σ2 B2 H2 fs2 T (fr1.trans fr2) g2 ok
  | bk => cases e3; exact k
  | ct => cases e3; exact k
  | rt s => cases e3; exact k
end Pd
set_option Elab.async false
set_option linter.all false
set_option maxRecDepth 100000
set_option maxHeartbeats 2000000
namespace Pd
open PySem PySem.Spec PyProof.Rows L2
section
variable {K : PySem.W.Frag} {vs0 : List V} {B H : Hp} {σ : L2.St} {ρ : Env} {fs : Nat → List Addr}
theorem Good.nil (e : Same B H) : Good K vs0 B H [] [] (fun _ => []) := ⟨e, rfl, (fun i s h => by simp at h), fun _ _ => rfl, (fun _ _ _ h => nomatch h), (fun _ _ h => nomatch h)⟩
theorem Good.push {v : V} {s : Sl} {T : List Addr} (g : Good K vs0 B H σ ρ fs) (o : Own K B H v s T) (ht : s.tag = none) (hT : ∀ a ∈ T, B a = none ∧ ∀ i, a ∉ fs i) : Good K vs0 B H (σ ++ [some v]) (ρ ++ [some s]) (fun i => if i = ρ.length then T else fs i) where
  ext := g.ext
  len := by simp [g.len]
  at_ := fun i s' h => by
    by_cases e : i = ρ.length
    · subst e
      rw [List.getElem?_append_right (Nat.le_refl _), Nat.sub_self] at h
      cases h
      refine ⟨v, by rw [← g.len, List.getElem?_append_right (Nat.le_refl _), Nat.sub_self]; rfl, by rw [if_pos rfl]; exact o, fun k hk => by rw [ht] at hk; cases hk⟩
    · have hl : i < ρ.length := by
        have := (List.getElem?_eq_some_iff.mp h).1
        rw [List.length_append, List.length_singleton] at this
        omega
      rw [List.getElem?_append_left hl] at h
      obtain ⟨v', h1, h2, h3⟩ := g.at_ i s' h
      refine ⟨v', by rw [List.getElem?_append_left (by rw [g.len]; exact hl)]; exact h1, by rw [if_neg e]; exact h2, h3⟩
  emp := fun i h => by
    by_cases e : i = ρ.length
    · subst e
      exact absurd (by rw [List.getElem?_append_right (Nat.le_refl _), Nat.sub_self]; rfl) (h s)
    · rw [if_neg e]
      refine g.emp i fun s' q => h s' ?_
      rw [List.getElem?_append_left (List.getElem?_eq_some_iff.mp q).1]
      exact q
  dis := fun i j a h1 h2 => by
    by_cases e1 : i = ρ.length
    · by_cases e2 : j = ρ.length
      · rw [e1, e2]
      · rw [if_pos e1] at h1
        rw [if_neg e2] at h2
        exact absurd h2 ((hT a h1).2 j)
    · rw [if_neg e1] at h1
      by_cases e2 : j = ρ.length
      · rw [if_pos e2] at h2
        exact absurd h1 ((hT a h2).2 i)
      · rw [if_neg e2] at h2
        exact g.dis i j a h1 h2
  out := fun i a h => by
    by_cases e : i = ρ.length
    · rw [if_pos e] at h
      exact (hT a h).1
    · rw [if_neg e] at h
      exact g.out i a h
theorem retag_tag {s : Sl} {t : Option Nat} {k : Nat} (h : (s.retag t).tag = some k) : t = some k := by
  cases s <;> first | exact h | cases h
end
end Pd
set_option Elab.async false
set_option linter.all false
set_option maxRecDepth 100000
set_option maxHeartbeats 2000000
set_option Elab.async false
set_option linter.all false
set_option maxRecDepth 100000
set_option maxHeartbeats 1000000
set_option Elab.async false
set_option linter.all false
set_option maxRecDepth 100000
set_option maxHeartbeats 1000000
set_option Elab.async false
set_option linter.all false
set_option maxRecDepth 100000
set_option maxHeartbeats 1000000
set_option Elab.async false
set_option linter.all false
set_option maxRecDepth 100000
set_option maxHeartbeats 2000000
set_option Elab.async false
set_option linter.all false
set_option maxRecDepth 100000
set_option maxHeartbeats 1000000
set_option Elab.async false
set_option linter.all false
set_option maxRecDepth 100000
set_option maxHeartbeats 1000000
set_option Elab.async false
set_option linter.all false
set_option maxRecDepth 100000
set_option maxHeartbeats 1000000
set_option Elab.async false
set_option linter.all false
set_option maxRecDepth 100000
set_option maxHeartbeats 2000000
set_option Elab.async false
set_option linter.all false
set_option maxRecDepth 100000
set_option maxHeartbeats 2000000
namespace Pd
open PySem PySem.Spec PyProof.Rows L2
inductive OutC where
  | ok (acc : List D) (ρ : Env)
  | exc (c : Str) (f : Option (Str × D)) (ρ : Env)
end Pd
set_option Elab.async false
set_option linter.all false
set_option maxRecDepth 100000
set_option maxHeartbeats 2000000
namespace Pd
open PySem PySem.Spec PyProof.Rows L2
inductive OutA where
  | ok (rs : List Rs) (ρ : Env)
  | exc (c : Str) (f : Option (Str × D)) (ρ : Env)
end Pd
set_option Elab.async false
set_option linter.all false
set_option maxRecDepth 100000
set_option maxHeartbeats 1000000
set_option Elab.async false
set_option linter.all false
set_option maxRecDepth 100000
set_option maxHeartbeats 1000000
set_option Elab.async false
set_option linter.all false
set_option maxRecDepth 100000
set_option maxHeartbeats 1000000
namespace Pd
open PySem PySem.Spec PyProof.Rows L2
def rep1 (x y z : Str) : Str :=
  if ((Builtin.Str.occurrences x y 0 x.length 1).isEmpty || (y.length == 0 && z.length == 0)) = true then x
  else Builtin.Str.glued z (Builtin.Str.partsBetween x (Builtin.Str.occurrences x y 0 x.length 1) y.length)
def repB (x z : Str) : Prop := x.length + (x.length + 1) * z.length ≤ 16777216
instance (x z : Str) : Decidable (repB x z) := by unfold repB; infer_instance
theorem cuts1_le (x y : Str) : (Builtin.Str.occurrences x y 0 x.length 1).length ≤ 1 := StrLaws.occ_length_le x y 0 x.length 1
theorem glued1_len (x y z : Str) : (Builtin.Str.glued z (Builtin.Str.partsBetween x (Builtin.Str.occurrences x y 0 x.length 1) y.length)).length ≤ x.length + z.length := by
  have hc := cuts1_le x y
  have hy : (Builtin.Str.glued y (Builtin.Str.partsBetween x (Builtin.Str.occurrences x y 0 x.length 1) y.length)).length = x.length := congrArg Str.length (StrLaws.glued_between_self x y 1)
  rw [size_glued, length_partsBetween, Nat.add_sub_cancel] at hy
  rw [size_glued, length_partsBetween, Nat.add_sub_cancel]
  have h2 := Nat.mul_le_mul_right z.length hc
  omega
theorem rep1_tree (x y z : Str) (t u v c : Tok) : Builtin.«str.replace» ⟨[.str x t, .str y u, .str z v, .int 1 c], []⟩ =
    (if ((Builtin.Str.occurrences x y 0 x.length 1).isEmpty || (y.length == 0 && z.length == 0)) = true then (do rule "str.replace.nothing"; ret (.str x t)) else
      (do let same ← isSame (.str y u) (.str z v)
          if same = true then (do rule "str.replace.old-is-new"; ret (.str x t)) else
          if Builtin.Str.tooLong (x.length + (Builtin.Str.occurrences x y 0 x.length 1).length * z.length) = true then unsupported "str.replace:memory" else
          retStr (Builtin.Str.glued z (Builtin.Str.partsBetween x (Builtin.Str.occurrences x y 0 x.length 1) y.length)))) := by
  show (do let limit ← Builtin.Str.countLimit "str.replace" (some (.int 1 c)) (x.length + 1); _) = _
  rw [PySem.countLimit_int "str.replace" 1 c (x.length + 1) (by decide)]
  rfl
theorem rep1_gives (x y z : Str) (t u v c : Tok) (h0 : (u == 0 || v == 0) = false) (huv : (u == v) = false) (hl : Builtin.Str.tooLong (x.length + (Builtin.Str.occurrences x y 0 x.length 1).length * z.length) = false) :
    GivesAt (fun s => NoneBooked s.heap) (Builtin.«str.replace» ⟨[.str x t, .str y u, .str z v, .int 1 c], []⟩)
      (if ((Builtin.Str.occurrences x y 0 x.length 1).isEmpty || (y.length == 0 && z.length == 0)) = true then .val (.str x t)
       else if (y == z) = true then .either (.val (.str x t)) (.str (Builtin.Str.glued z (Builtin.Str.partsBetween x (Builtin.Str.occurrences x y 0 x.length 1) y.length)))
       else .str (Builtin.Str.glued z (Builtin.Str.partsBetween x (Builtin.Str.occurrences x y 0 x.length 1) y.length))) := by
  rw [rep1_tree]
  cases hc : ((Builtin.Str.occurrences x y 0 x.length 1).isEmpty || (y.length == 0 && z.length == 0))
  · simp only [Bool.false_eq_true, if_false]
    cases hyz : (y == z)
    · rw [isSame_str_other y z u v h0 huv hyz, hl]
      exact Gives.at (.of_eq rfl)
    · intro prog w A R s hb hq
      rw [hl]
      refine wpAny_bind (wpAny_isSame_str h0 hb fun b => ?_)
      cases b with
      | false => exact wpAny_bind (wpAny_mkStr (wpAny_pure hq.2.2) hq.2.1)
      | true => exact wpAny_bind (wpAny_rule (wpAny_pure hq.1))
  · simp only [if_true]
    exact Gives.at (.rule (.of_eq rfl))
section
variable {prog : Program} {w : World} {A : Around} {E : Value → Shared → Prop} {s : Shared} {x y z : Str} {t u v c : Tok} {Q : Value → Shared → Prop}
theorem call_rep1 (hu : u ≠ 0) (hv : v ≠ 0) (huv : u ≠ v) (hb : repB x z) (hq : ∀ t' k, Q (.str (rep1 x y z) t') { s with toks := k }) (hnb : NoneBooked s.heap) :
    wpAny (model prog w) A (call (.builtin "str.replace") [.str x t, .str y u, .str z v, .int 1 c]) Q E s := by
  have hc := cuts1_le x y
  have hz : x.length + z.length ≤ 16777216 := by
    unfold repB at hb
    have : z.length ≤ (x.length + 1) * z.length := Nat.le_mul_of_pos_left _ (Nat.succ_pos _)
    omega
  have hl : Builtin.Str.tooLong (x.length + (Builtin.Str.occurrences x y 0 x.length 1).length * z.length) = false := by
    have h2 := Nat.mul_le_mul_right z.length hc
    unfold Builtin.Str.tooLong sizeLine
    exact decide_eq_false (by omega)
  have hf : (Builtin.Str.glued z (Builtin.Str.partsBetween x (Builtin.Str.occurrences x y 0 x.length 1) y.length)).length ≤ sizeLine := by
    have := glued1_len x y z
    rw [sizeLine_eq]
    omega
  refine call_givesAt F.slot_str_replace (typeIs_str _ _ _) F.entry_str_replace (F.args_str_replace_4 _ _ _ _) (rep1_gives x y z t u v c (by simp [hu, hv]) (by simp [huv]) hl) hnb ?_
  unfold rep1 at hq
  cases he : ((Builtin.Str.occurrences x y 0 x.length 1).isEmpty || (y.length == 0 && z.length == 0)) with
  | true =>
    rw [he] at hq
    simp only [if_true] at hq ⊢
    exact hq t s.toks
  | false =>
    rw [he] at hq
    simp only [Bool.false_eq_true, if_false] at hq ⊢
    cases hyz : (y == z) with
    | false =>
      simp only [Bool.false_eq_true, if_false]
      exact ⟨hf, hq _ _⟩
    | true =>
      simp only [if_true]
      have e : y = z := eq_of_beq hyz
      subst e
      rw [StrLaws.glued_between_self] at hq hf ⊢
      exact ⟨hq t s.toks, hf, hq _ _⟩
theorem call_rep (hu : u ≠ 0) (hv : v ≠ 0) (huv : u ≠ v) (hb : repB x z) (hq : ∀ t' k, Q (.str (Txt.replace x y z) t') { s with toks := k }) (hnb : NoneBooked s.heap) :
    wpAny (model prog w) A (call (.builtin "str.replace") [.str x t, .str y u, .str z v]) Q E s := PySem.SC.replaceA hu hv huv hb hq hnb
end
def rRep (x : V) (xs : List V) (H : Hp) (Q : VK) : Prop := ∃ a b c, x = .str a ∧ xs = [.str b, .str c] ∧ repB a c ∧ Q (.str (Txt.replace a b c)) H
def rRep1 (x : V) (xs : List V) (H : Hp) (Q : VK) : Prop := ∃ a b c, x = .str a ∧ xs = [.str b, .str c, .int 1] ∧ repB a c ∧ Q (.str (rep1 a b c)) H
def pRep : List D → Option Rd'
  | [.str a, .str b, .str c] => if repB a c then some (.pd (.str (Txt.replace a b c))) else none
  | _ => none
def o_replace2 := opG pRep
def pRep1 : List D → Option Rd'
  | [.str a, .str b, .str c, .int i] => if repB a c ∧ i = 1 then some (.pd (.str (rep1 a b c))) else none
  | _ => none
def o_replace3 := opG pRep1
theorem shAll3 {K : PySem.W.Frag} {B H : Hp} {a b c : D} : ∀ {vs : List V}, ShAll K B H vs [a, b, c] → ∃ x y z, vs = [x, y, z] ∧ ShD K B H x a ∧ ShD K B H y b ∧ ShD K B H z c
  | [x, y, z], h => ⟨x, y, z, rfl, h.1, h.2.1, h.2.2.1⟩
  | [], h => h.elim
  | [_], h => h.2.elim
  | [_, _], h => h.2.2.elim
  | _ :: _ :: _ :: _ :: _, h => h.2.2.2.elim
theorem shAll4 {K : PySem.W.Frag} {B H : Hp} {a b c d : D} : ∀ {vs : List V}, ShAll K B H vs [a, b, c, d] → ∃ x y z w, vs = [x, y, z, w] ∧ ShD K B H x a ∧ ShD K B H y b ∧ ShD K B H z c ∧ ShD K B H w d
  | [x, y, z, w], h => ⟨x, y, z, w, rfl, h.1, h.2.1, h.2.2.1, h.2.2.2.1⟩
  | [], h => h.elim
  | [_], h => h.2.elim
  | [_, _], h => h.2.2.elim
  | [_, _, _], h => h.2.2.2.elim
  | _ :: _ :: _ :: _ :: _ :: _, h => h.2.2.2.2.elim
theorem o_replace2_ok {K : PySem.W.Frag} : OpOk K (rM rRep) o_replace2 := opG_ok fun B H vs ds res Q e hs hp k => by
  unfold pRep at hp
  split at hp
  · split at hp
    · rename_i a b c hc
      cases hp
      obtain ⟨x, y, z, rfl, h1, h2, h3⟩ := shAll3 hs
      exact ⟨x, [y, z], rfl, a, b, c, h1.str, by rw [h2.str, h3.str], hc, k.str e⟩
    · cases hp
  · cases hp
theorem o_replace3_ok {K : PySem.W.Frag} : OpOk K (rM rRep1) o_replace3 := opG_ok fun B H vs ds res Q e hs hp k => by
  unfold pRep1 at hp
  split at hp
  · split at hp
    · rename_i a b c i hc
      cases hp
      obtain ⟨hc, rfl⟩ := hc
      obtain ⟨x, y, z, w, rfl, h1, h2, h3, h4⟩ := shAll4 hs
      exact ⟨x, [y, z, w], rfl, a, b, c, h1.str, by rw [h2.str, h3.str, h4.int], hc, k.str e⟩
    · cases hp
  · cases hp
def pIxS : List D → Option Rd'
  | [.str z, .int i] => if z.length ≤ sizeLine then (atI z.cps.toList i).map fun c => .pd (.str ⟨#[c]⟩) else none
  | _ => none
def oIxS := opG pIxS
theorem oIxS_ok {K : PySem.W.Frag} : OpOk K (r2 rIxS) oIxS := opG_ok fun B H vs ds res Q e hs hp k => by
  unfold pIxS at hp
  split at hp
  · rename_i z i
    split at hp
    · rename_i hz
      obtain ⟨x, y, rfl, h1, h2⟩ := hs.two
      cases e1 : atI z.cps.toList i with
      | none => rw [e1] at hp; cases hp
      | some c =>
        rw [e1] at hp
        cases hp
        exact ⟨x, y, rfl, z, i, c, h1.str, h2.int, hz, e1, k.str e⟩
    · cases hp
  · cases hp
end Pd
set_option Elab.async false
set_option linter.all false
set_option maxRecDepth 100000
set_option maxHeartbeats 1000000
namespace Pd
open PySem PySem.Spec PyProof.Rows L2
def PE1 (X : Cx) (e : Expr) (t : TE) : Prop :=
  ∀ (pins : List (Addr × Obj)) (s : Shared) (σ : L2.St) (H : Hp) (Q : VK), Inv X pins σ H s → t σ H Q → wpAny (model X.prog X.w) X.A (eval e X.env) (fun v s' => 1 ≤ s'.toks ∧ EP X pins σ Q v s') X.xe s
def PA1 (X : Cx) (es : List Expr) (t : TA) : Prop :=
  ∀ (pos : Pos) (pins : List (Addr × Obj)) (s : Shared) (σ : L2.St) (H : Hp) (Q : List V → Hp → Prop), Inv X pins σ H s → t σ H Q → wpAny (model X.prog X.w) X.A (spliced (backTo pos (starEach es X.env))) (fun us s' => 1 ≤ s'.toks ∧ AP X pins σ Q us s') X.xe s
section
variable {X : Cx}
theorem PE1.imp {e : Expr} {t t' : TE} (h : PE1 X e t) (i : ∀ σ H Q, t' σ H Q → t σ H Q) : PE1 X e t' := fun pins s σ H Q I q => h pins s σ H Q I (i σ H Q q)
theorem PA1.imp {es : List Expr} {t t' : TA} (h : PA1 X es t) (i : ∀ σ H Q, t' σ H Q → t σ H Q) : PA1 X es t' := fun pos pins s σ H Q I q => h pos pins s σ H Q I (i σ H Q q)
theorem PET.imp {e : Expr} {t t' : TE} (h : PET X e t) (i : ∀ σ H Q, t' σ H Q → t σ H Q) : PET X e t' := fun pins s σ H Q h0 I q => h pins s σ H Q h0 I (i σ H Q q)
theorem PAT.imp {es : List Expr} {t t' : TA} (h : PAT X es t) (i : ∀ σ H Q, t' σ H Q → t σ H Q) : PAT X es t' := fun pos pins s σ H Q h0 I q => h pos pins s σ H Q h0 I (i σ H Q q)
theorem PIT.imp {tg e : Expr} {t t' : TI} (h : PIT X tg e t) (i : ∀ σ H Q, t' σ H Q → t σ H Q) : PIT X tg e t' := fun pins s σ H R h0 I q => h pins s σ H R h0 I (i σ H R q)
theorem PST.imp {st : Stmt} {t t' : TS} (h : PST X st t) (i : ∀ D σ H, t' D σ H → t D σ H) : PST X st t' := fun pins s σ H D h0 I q => h pins s σ H D h0 I (i D σ H q)
theorem PSsT.imp {st : List Stmt} {t t' : TS} (h : PSsT X st t) (i : ∀ D σ H, t' D σ H → t D σ H) : PSsT X st t' := fun pins s σ H D h0 I q => h pins s σ H D h0 I (i D σ H q)
theorem PET.of {e : Expr} {t : TE} (h : PE X e t) : PET X e t := fun pins s σ H Q _ I q => h.run pins s σ H Q I q
theorem out_of {α : Type} {t : Sem α} {Q : α → Shared → Prop} {M : Model} {A : Around} {E : Value → Shared → Prop} {s : Shared} {n : Nat} (hn : n ≤ s.toks) (h : wpAny M A t Q E s) : wpAny M A t (fun a s' => n ≤ s'.toks ∧ Q a s') E s :=
  wpAny_mono (PySem.wpAny_toks_of hn h) (fun _ _ q => q) fun _ _ q => q.2
theorem pe1_str {x j pos} : PE1 X (.Constant (.str x) j pos) (tC (.str x)) := fun _ s σ H _ I h => Calls.Constant_str ⟨Nat.succ_le_succ (Nat.zero_le _), .str x, H, I.tok _, ⟨_, rfl⟩, h⟩
theorem pe1_int {i j pos} : PE1 X (.Constant (.int i) j pos) (tC (.int i)) := fun _ s σ H _ I h => wpAny_Constant_int ⟨Nat.succ_le_succ (Nat.zero_le _), .int i, H, I.tok _, ⟨_, rfl⟩, h⟩
variable {a b e : Expr} {es : List Expr} {ta tb te : TE} {tr : TA} {pos : Pos}
theorem pe1_opL {op : Operator} {r : R2} (ho : OpR X (binaryOp op) r) (ha : PE1 X a ta) (hb : PE X b tb) : PE1 X (.BinOp a op b pos) (tOp r ta tb) := by
  intro pins s σ H Q I h
  refine wpAny_BinOp (thn (ha pins s σ H _ I h) fun v s1 ⟨k1, x, H1, I1, r1, q1⟩ => ?_)
  refine thn (out_of k1 (hb.run pins s1 σ H1 _ I1 q1)) fun u s2 ⟨k2, y, H2, I2, r2, q2⟩ => ?_
  exact out_of k2 (ho pins s2 σ H2 x y v u Q I2 r1 r2 q2)
theorem pe1_opR {op : Operator} {r : R2} (ho : OpR X (binaryOp op) r) (ha : PE X a ta) (hb : PE1 X b tb) : PE1 X (.BinOp a op b pos) (tOp r ta tb) := by
  intro pins s σ H Q I h
  refine wpAny_BinOp (thn (ha.run pins s σ H _ I h) fun v s1 ⟨x, H1, I1, r1, q1⟩ => ?_)
  refine thn (hb pins s1 σ H1 _ I1 q1) fun u s2 ⟨k2, y, H2, I2, r2, q2⟩ => ?_
  exact out_of k2 (ho pins s2 σ H2 x y v u Q I2 r1 r2 q2)
theorem pa1_cons (ha : PE1 X e te) (hr : PAT X es tr) (hs : starEach (e :: es) X.env = (false, eval e X.env) :: starEach es X.env := by rfl) : PA1 X (e :: es) (tCons te tr) := by
  intro pos pins s σ H Q I h
  rw [hs]
  show wpAny _ _ (spliced ((false, eval e X.env) :: backTo pos (starEach es X.env))) _ _ s
  refine Calls.spliced_cons (thn (ha pins s σ H _ I h) fun v s1 ⟨k1, x, H1, I1, r1, q1⟩ => ?_)
  exact thn (out_of k1 (hr pos pins s1 σ H1 _ k1 I1 q1)) fun us s2 ⟨k2, xs, H2, I2, r2, q2⟩ => ⟨k2, x :: xs, H2, I2, .cons r1 r2, q2⟩
theorem pe1_lst (h : PA1 X es tr) : PE1 X (.List es pos) (tLst tr) := by
  intro pins s σ H Q I hq
  refine wpAny_List_spliced (thn (h pos pins s σ H _ I hq) fun us s1 ⟨k1, xs, H1, I1, r, z, q⟩ => ⟨by rw [← r.length]; exact z, k1, ?_⟩)
  have hf : H1 s1.heap.objs.size = none := I1.hok.fresh (Nat.le_refl _)
  exact ⟨.ref s1.heap.objs.size, upd H1 s1.heap.objs.size (.lst xs), I1.laid (t' := s1.toks) (fun b u e => Heap.get?_push_of_some _ e) (Nat.le_refl _) ⟨z, us, 0, r, Heap.get?_push_size _ rfl⟩, rfl, q _ hf⟩
theorem pss_set1 {i : Nat} {x : Str} {rest : List Stmt} {u : TS} {pos' : Pos} (hN : X.N.Nodup) (hi : X.N[i]? = some x) (hx : Loc X.env.scope x) (he : PE1 X e te) (h2 : PSsT X rest u) (hs : swapsWith e (some (.Name x pos')) pos.line X.env = pure false := by rfl) (hf : X.fn x = true ∨ X.env.scope.names.lookup x = some .local := by first | exact .inl rfl | exact .inr rfl | assumption) :
    PSs X (.Assign [.Name x pos'] e pos :: rest) (tSeq (tAsg te (gName i)) u) := by
  refine ⟨fun pins s σ H D I h => ?_⟩
  refine wpAny_execs_cons (wpAny_Assign_Name (thn (he pins s σ H _ I h) fun v s1 ⟨k1, y, H1, I1, r1, q1⟩ => ?_) hs)
  exact thn (out_of k1 (store_ok (Q := fun _ s2 => Inv X pins (σ.set i (some y)) H1 s2) I1 hN hi hx r1 (fun _ J => J) hf)) fun _ s2 ⟨k2, J⟩ => h2 pins s2 _ H1 D k2 J q1
theorem psst_cons {st : Stmt} {rest : List Stmt} {t u : TS} (h1 : PST X st t) (h2 : PSsT X rest u) : PSsT X (st :: rest) (tSeq t u) := by
  intro pins s σ H D h0 I h
  refine wpAny_execs_cons (thn (out_of h0 (h1 pins s σ H { D with nx := u D } h0 I h)) fun f s1 ⟨k1, q⟩ => ?_)
  cases f with
  | next => obtain ⟨σ1, H1, I1, q⟩ := q; exact h2 pins s1 σ1 H1 D k1 I1 q
  | ret v => exact q
  | brk => exact q
  | cont => exact q
theorem pet_bm {T id : String} {name : Str} {o : Expr} {to : TE} {t : TA} {apos cpos : Pos} {r : V → List V → Hp → VK → Prop} (pa : PlainAttrs T) (slot : Slot T name id) (hty : typeOf (.builtin id) = pure (.type "method_descriptor")) (hm : MtR X id r) (ho : PET X o to) (ha : PA X (e :: es) t)
    (hbase : attributeBase o name X.env (eval o X.env) = eval o X.env := by rfl)
    (hfew : ((backTo cpos (starEach (e :: es) X.env)).all (fun x => !x.1) && (backToKw cpos (keywordEach [] X.env)).all (fun x => x.1.isSome)
      && decide ((e :: es).length + ([] : List Keyword).length + (if ([] : List Keyword).isEmpty then 0 else 1) < 30)) = true := by rfl)
    (hline : (apos.endLine == cpos.line) = true := by rfl) (hs : starEach (e :: es) X.env = (false, eval e X.env) :: starEach es X.env := by rfl) (hplain : (backTo cpos (starEach es X.env)).any (·.1) = false := by rfl) :
    PET X (.Call (.Attribute o name apos) (e :: es) [] cpos) (tBM X.K T r to t) := by
  intro pins s σ H Q h0 I h
  refine wpAny_Call_method_late hbase hfew hline rfl (thn (ho pins s σ H _ h0 I h) fun v s1 hh => ?_)
  obtain ⟨x, H1, I1, r1, ty, q1⟩ := hh
  obtain ⟨h1, h2⟩ := tyV_is I1 r1 ty
  refine ⟨T, id, pa, slot, hty, h1, h2, ?_⟩
  have hA := ha.run cpos pins s1 σ H1 _ I1 q1
  rw [hs] at hA ⊢
  refine Calls.callWith_builtin (by show (false || (backTo cpos (starEach es X.env)).any (·.1)) = false; rw [hplain] <;> rfl) (Calls.evalArgs_plain (thn hA fun us s2 ha2 => ?_))
  obtain ⟨vs, H2, I2, r2, q2⟩ := ha2
  exact hm pins s2 σ H2 x vs v us Q I2 r1 r2 q2
theorem pet_rep {o : Expr} {to : TE} {c0 c1 : Str} {j0 j1 : Nat} {p0 p1 apos pos : Pos} (ho : PE X o to) (hne : (c0 == c1) = false)
    (hbase : attributeBase o "replace" X.env (eval o X.env) = eval o X.env := by rfl)
    (hst : starEach [.Constant (.str c0) j0 p0, .Constant (.str c1) j1 p1] X.env = [(false, eval (.Constant (.str c0) j0 p0) X.env), (false, eval (.Constant (.str c1) j1 p1) X.env)] := by rfl) (hline : (apos.endLine == pos.line) = true := by rfl) :
    PET X (.Call (.Attribute o "replace" apos) [.Constant (.str c0) j0 p0, .Constant (.str c1) j1 p1] [] pos) (fun σ H Q => to σ H fun x H1 => rRep x [.str c0, .str c1] H1 Q) := by
  intro pins s σ H Q h0 I h
  refine PySem.Call_method2 hbase hst hline (thn (out_of h0 (ho.run pins s σ H _ I h)) fun v s1 hh => ?_)
  obtain ⟨k1, x, H1, I1, r1, a, b, c, rfl, e2, hb, q⟩ := hh
  cases e2
  obtain ⟨tx, rfl⟩ := r1
  refine ⟨"str", _, F.plainAttrs_str, F.slot_str_replace, F.type_str_replace, typeIs_str _ _ _, (fun _ e => nomatch e), Calls.callWith_builtin rfl (Calls.evalArgs_plain (Calls.spliced_cons (Calls.Constant_str (Calls.spliced_cons (Calls.Constant_str (Calls.spliced_nil ?_))))))⟩
  exact PySem.SC.replace (show s1.toks ≠ 0 by omega) (show s1.toks + 1 ≠ 0 by omega) (show s1.toks ≠ s1.toks + 1 by omega) hne hb fun t' k => ⟨.str _, H1, I1.tok k, ⟨t', rfl⟩, q⟩
theorem pet_rep1 {o : Expr} {to : TE} {c0 c1 : Str} {j0 j1 j2 : Nat} {p0 p1 p2 apos pos : Pos} (nb : NoneBooked X.base) (ho : PE X o to)
    (hbase : attributeBase o "replace" X.env (eval o X.env) = eval o X.env := by rfl)
    (hfew : ((backTo pos (starEach [.Constant (.str c0) j0 p0, .Constant (.str c1) j1 p1, .Constant (.int 1) j2 p2] X.env)).all (fun x => !x.1) && (backToKw pos (keywordEach [] X.env)).all (fun x => x.1.isSome)
      && decide (([.Constant (.str c0) j0 p0, .Constant (.str c1) j1 p1, .Constant (.int 1) j2 p2] : List Expr).length + ([] : List Keyword).length + (if ([] : List Keyword).isEmpty then 0 else 1) < 30)) = true := by rfl)
    (hline : (apos.endLine == pos.line) = true := by rfl)
    (hst : backTo pos (starEach [.Constant (.str c0) j0 p0, .Constant (.str c1) j1 p1, .Constant (.int 1) j2 p2] X.env) = [(false, eval (.Constant (.str c0) j0 p0) X.env), (false, eval (.Constant (.str c1) j1 p1) X.env), (false, eval (.Constant (.int 1) j2 p2) X.env)] := by rfl) :
    PET X (.Call (.Attribute o "replace" apos) [.Constant (.str c0) j0 p0, .Constant (.str c1) j1 p1, .Constant (.int 1) j2 p2] [] pos) (fun σ H Q => to σ H fun x H1 => rRep1 x [.str c0, .str c1, .int 1] H1 Q) := by
  intro pins s σ H Q h0 I h
  refine PySem.wpAny_Call_method_lateS hbase hfew hline (thn (out_of h0 (ho.run pins s σ H _ I h)) fun v s1 hh => ?_)
  obtain ⟨k1, x, H1, I1, r1, a, b, c, rfl, e2, hb, q⟩ := hh
  cases e2
  obtain ⟨tx, rfl⟩ := r1
  rw [hst]
  have nb1 : NoneBooked s1.heap := by
    obtain ⟨mc, h1, h2⟩ := nb
    exact ⟨mc, h1.keeps I1.bk, h2⟩
  refine ⟨"str", _, F.plainAttrs_str, F.slot_str_replace, F.type_str_replace, typeIs_str _ _ _, (fun _ e => nomatch e), Calls.callWith_builtin rfl (Calls.evalArgs_plain (Calls.spliced_cons (Calls.Constant_str (Calls.spliced_cons (Calls.Constant_str (Calls.spliced_cons (wpAny_Constant_int (Calls.spliced_nil ?_))))))))⟩
  exact call_rep1 (show s1.toks ≠ 0 by omega) (show s1.toks + 1 ≠ 0 by omega) (show s1.toks ≠ s1.toks + 1 by omega) hb (fun t' k => ⟨.str _, H1, I1.tok k, ⟨t', rfl⟩, q⟩) nb1
end
section
variable {K : PySem.W.Frag} {vs0 : List V}
theorem rdE_c {d : D} {v : V} {σ : L2.St} {H : Hp} {Q : VK} (q : rdE K vs0 (eC d) σ H Q) (hd : ∀ B, Dp K B v d) : Q v H := by
  obtain ⟨B, ρ, fs, g, r, ρ', e1, k⟩ := q
  cases e1
  exact k v B H fs [] fr_unr g ⟨⟨hd B, rfl⟩, rfl, fun a ha => nomatch ha⟩
end
section
variable {X : Cx} {vs0 : List V} {a b e : Expr} {es : List Expr} {fa fb fe : M Rs} {fs' : M (List Rs)} {pos : Pos}
theorem de1_str {x j pos} : PE1 X (.Constant (.str x) j pos) (rdE X.K vs0 (eC (.str x))) := pe1_str.imp fun _ _ _ q => rdE_c q fun _ => .str x
theorem de1_int {i j pos} : PE1 X (.Constant (.int i) j pos) (rdE X.K vs0 (eC (.int i))) := pe1_int.imp fun _ _ _ q => rdE_c q fun _ => .int i
theorem de1_opL {op : List Rs → M Rs} {oper : Operator} {r : R2} (ho : OpR X (binaryOp oper) r) (hp : OpOk X.K (r2 r) op) (ha : PE1 X a (rdE X.K vs0 fa)) (hb : PE X b (rdE X.K vs0 fb)) : PE1 X (.BinOp a oper b pos) (rdE X.K vs0 (eBin fa fb op)) := (pe1_opL ho ha hb).imp fun _ _ _ q => rd_bin hp q
theorem de1_opR {op : List Rs → M Rs} {oper : Operator} {r : R2} (ho : OpR X (binaryOp oper) r) (hp : OpOk X.K (r2 r) op) (ha : PE X a (rdE X.K vs0 fa)) (hb : PE1 X b (rdE X.K vs0 fb)) : PE1 X (.BinOp a oper b pos) (rdE X.K vs0 (eBin fa fb op)) := (pe1_opR ho ha hb).imp fun _ _ _ q => rd_bin hp q
theorem dat_nil : PAT X [] (rdA X.K vs0 aNil) := PAT.imp pat_nil fun _ _ _ q => rdA_nil q
theorem dat_cons (ha : PET X e (rdE X.K vs0 fe)) (hr : PAT X es (rdA X.K vs0 fs')) (hs : starEach (e :: es) X.env = (false, eval e X.env) :: starEach es X.env := by rfl) : PAT X (e :: es) (rdA X.K vs0 (aCons fe fs')) := PAT.imp (pat_cons ha hr hs) fun _ _ _ q => rd_cons q
theorem da1_cons (ha : PE1 X e (rdE X.K vs0 fe)) (hr : PAT X es (rdA X.K vs0 fs')) (hs : starEach (e :: es) X.env = (false, eval e X.env) :: starEach es X.env := by rfl) : PA1 X (e :: es) (rdA X.K vs0 (aCons fe fs')) := (pa1_cons ha hr hs).imp fun _ _ _ q => rd_cons q
theorem de1_lst (h : PA1 X es (rdA X.K vs0 fs')) : PE1 X (.List es pos) (rdE X.K vs0 (M.bind fs' oLst)) := (pe1_lst h).imp fun _ _ _ q => rd_op oLst_ok q
theorem dss_set1 {i : Nat} {x : Str} {rest : List Stmt} {g2 : M Fl} {pos' : Pos} (hN : X.N.Nodup) (hi : X.N[i]? = some x) (hx : Loc X.env.scope x) (he : PE1 X e (rdE X.K vs0 fe)) (h2 : PSsT X rest (rdS X.K vs0 g2)) (hs : swapsWith e (some (.Name x pos')) pos.line X.env = pure false := by rfl) (hf : X.fn x = true ∨ X.env.scope.names.lookup x = some .local := by first | exact .inl rfl | exact .inr rfl | assumption) :
    PSs X (.Assign [.Name x pos'] e pos :: rest) (rdS X.K vs0 (gSeq (gSet i fe) g2)) := PSs.imp (pss_set1 hN hi hx he h2 hs hf) fun D σ H q => rd_set (rdS_seq q)
theorem dsst_cons {st : Stmt} {rest : List Stmt} {g1 g2 : M Fl} (h1 : PST X st (rdS X.K vs0 g1)) (h2 : PSsT X rest (rdS X.K vs0 g2)) : PSsT X (st :: rest) (rdS X.K vs0 (gSeq g1 g2)) := PSsT.imp (psst_cons h1 h2) fun D σ H q => rdS_seq q
theorem det_split {o : Expr} {fo : M Rs} {fa : M (List Rs)} {apos cpos : Pos} (ho : PET X o (rdE X.K vs0 fo)) (ha : PA X [e] (rdA X.K vs0 fa))
    (hbase : attributeBase o "split" X.env (eval o X.env) = eval o X.env := by rfl)
    (hfew : ((backTo cpos (starEach [e] X.env)).all (fun x => !x.1) && (backToKw cpos (keywordEach [] X.env)).all (fun x => x.1.isSome)
      && decide ([e].length + ([] : List Keyword).length + (if ([] : List Keyword).isEmpty then 0 else 1) < 30)) = true := by rfl)
    (hline : (apos.endLine == cpos.line) = true := by rfl) (hs : starEach [e] X.env = (false, eval e X.env) :: starEach [] X.env := by rfl) (hplain : (backTo cpos (starEach [] X.env)).any (·.1) = false := by rfl) :
    PET X (.Call (.Attribute o "split" apos) [e] [] cpos) (rdE X.K vs0 (eMeth "str" fo fa o_split1)) :=
  PET.imp (pet_bm PySem.F.plainAttrs_str PySem.F.slot_str_split PySem.F.type_str_split mt_split ho ha hbase hfew hline hs hplain) fun σ H Q q => rd_meth o_split1_ok q
theorem det_rep {o : Expr} {fo : M Rs} {c0 c1 : Str} {j0 j1 : Nat} {p0 p1 apos cpos : Pos} (ho : PE X o (rdE X.K vs0 fo)) (hne : (c0 == c1) = false)
    (hbase : attributeBase o "replace" X.env (eval o X.env) = eval o X.env := by rfl)
    (hst : starEach [.Constant (.str c0) j0 p0, .Constant (.str c1) j1 p1] X.env = [(false, eval (.Constant (.str c0) j0 p0) X.env), (false, eval (.Constant (.str c1) j1 p1) X.env)] := by rfl) (hline : (apos.endLine == cpos.line) = true := by rfl) :
    PET X (.Call (.Attribute o "replace" apos) [.Constant (.str c0) j0 p0, .Constant (.str c1) j1 p1] [] cpos) (rdE X.K vs0 (eMeth "str" fo (aCons (eC (.str c0)) (aCons (eC (.str c1)) aNil)) o_replace2)) :=
  PET.imp (pet_rep ho hne hbase hst hline) fun σ H Q q => rdE_imp (rd_meth o_replace2_ok q) fun x H1 ⟨_, q1⟩ => rdA_nil (rdE_c (rd_cons (rdE_c (rd_cons q1) fun _ => .str c0)) fun _ => .str c1)
theorem det_rep1 {o : Expr} {fo : M Rs} {c0 c1 : Str} {j0 j1 j2 : Nat} {p0 p1 p2 apos cpos : Pos} (nb : NoneBooked X.base) (ho : PE X o (rdE X.K vs0 fo))
    (hbase : attributeBase o "replace" X.env (eval o X.env) = eval o X.env := by rfl)
    (hfew : ((backTo cpos (starEach [.Constant (.str c0) j0 p0, .Constant (.str c1) j1 p1, .Constant (.int 1) j2 p2] X.env)).all (fun x => !x.1) && (backToKw cpos (keywordEach [] X.env)).all (fun x => x.1.isSome)
      && decide (([.Constant (.str c0) j0 p0, .Constant (.str c1) j1 p1, .Constant (.int 1) j2 p2] : List Expr).length + ([] : List Keyword).length + (if ([] : List Keyword).isEmpty then 0 else 1) < 30)) = true := by rfl)
    (hline : (apos.endLine == cpos.line) = true := by rfl)
    (hst : backTo cpos (starEach [.Constant (.str c0) j0 p0, .Constant (.str c1) j1 p1, .Constant (.int 1) j2 p2] X.env) = [(false, eval (.Constant (.str c0) j0 p0) X.env), (false, eval (.Constant (.str c1) j1 p1) X.env), (false, eval (.Constant (.int 1) j2 p2) X.env)] := by rfl) :
    PET X (.Call (.Attribute o "replace" apos) [.Constant (.str c0) j0 p0, .Constant (.str c1) j1 p1, .Constant (.int 1) j2 p2] [] cpos) (rdE X.K vs0 (eMeth "str" fo (aCons (eC (.str c0)) (aCons (eC (.str c1)) (aCons (eC (.int 1)) aNil))) o_replace3)) :=
  PET.imp (pet_rep1 nb ho hbase hfew hline hst) fun σ H Q q => rdE_imp (rd_meth o_replace3_ok q) fun x H1 ⟨_, q1⟩ => rdA_nil (rdE_c (rd_cons (rdE_c (rd_cons (rdE_c (rd_cons q1) fun _ => .str c0)) fun _ => .str c1)) fun _ => .int 1)
theorem dit_list {tg : Expr} {f : M Rs} (he : PET X e (rdE X.K vs0 f)) (hl : ∀ ρ r ρ', f ρ = some (.ok r ρ') → ∃ t l, r = .own (.ml t l)) : PIT X tg e (rdI X.K vs0 (mSeq f)) := PIT.imp (pit_list he) fun σ H R q => by
  obtain ⟨B, ρ, fs, g, l, ρ', e1, k⟩ := q
  obtain ⟨r, ρ1, e2, e3⟩ := M.bind_ok e1
  obtain ⟨d, ρ2, e4, e5⟩ := M.bind_ok e3
  obtain ⟨t, l0, rfl⟩ := hl _ _ _ e2
  refine ⟨B, ρ, fs, g, _, ρ1, e2, fun v B1 H1 fs1 T fr g1 ok => ?_⟩
  obtain ⟨B2, fs2, fr2, g2, d2⟩ := freezeR_ok g1 ok e4
  have hv : ∃ a, v = .ref a := by
    obtain ⟨⟨a, xs, h1, _⟩, _⟩ := ok
    exact ⟨a, h1⟩
  obtain ⟨a, rfl⟩ := hv
  split at e5
  · cases e5
    cases d2 with
    | lst h1 h2 => exact ⟨_, rfl, ⟨_, sql_mono g2.ext h1⟩, k _ B2 H1 fs2 (fr.trans fr2) g2 (jok_list h1 h2)⟩
  · exfalso
    have z : ∀ l1, freezeR (.own (.ml t l0)) ρ1 ≠ some (.ok (.tuple l1) ρ2) := by
      intro l1 z
      unfold freezeR at z
      cases z
    exact z _ e4
  · cases d2
  · cases e5
theorem split_ml {fo : M Rs} {fa : M (List Rs)} : ∀ ρ r ρ', eMeth "str" fo fa o_split1 ρ = some (.ok r ρ') → ∃ t l, r = .own (.ml t l) := by
  intro ρ r ρ' e
  obtain ⟨o, ρ1, e2, e3⟩ := M.bind_ok e
  split at e3
  · obtain ⟨rs, ρ2, e4, e5⟩ := M.bind_ok e3
    unfold o_split1 opG at e5
    split at e5
    · split at e5
      · rename_i res h
        cases e5
        unfold pSplit at h
        split at h
        · split at h
          · cases h
            exact ⟨_, _, rfl⟩
          · cases h
        · cases h
      · cases e5
    · cases e5
  · cases e3
end
end Pd
set_option Elab.async false
set_option linter.all false
set_option maxRecDepth 100000
set_option maxHeartbeats 1000000
namespace Pd
open PySem PySem.Spec PyProof.Rows L2
def Hold (X : Cx) (x : Str) (u : Value) (s : Shared) : Prop := ∃ m, s.heap.Ns X.env.locals m ∧ m x = some u
theorem ns_same {h : Heap} {a : Addr} {m m' : Str → Option Value} (p : h.Ns a m) (q : h.Ns a m') : m = m' := by
  obtain ⟨o, es, ep, e, d, _, f⟩ := p
  obtain ⟨o', es', ep', e', d', _, f'⟩ := q
  rw [e] at e'
  cases e'
  rw [d] at d'
  cases d'
  funext n
  rw [← f n, f' n]
theorem booked {X : Cx} {pins : List (Addr × Obj)} {σ : L2.St} {H : Hp} {s : Shared} (nb : NoneBooked X.base) (I : Inv X pins σ H s) : NoneBooked s.heap := by
  obtain ⟨mc, h1, h2⟩ := nb
  exact ⟨mc, h1.keeps I.bk, h2⟩
section
variable {X : Cx} {pins : List (Addr × Obj)} {σ : L2.St} {H : Hp} {s : Shared} {x : Str} {u : Value} {Q E : Value → Shared → Prop}
theorem Hold.rel {i : Nat} {v : V} (hh : Hold X x u s) (I : Inv X pins σ H s) (hN : X.N[i]? = some x) (hk : X.env.kindOf x = some .local) (hσ : σ[i]? = some (some v)) : RelV v u := by
  obtain ⟨m, n, e⟩ := hh
  obtain ⟨m', n', l⟩ := I.loc
  obtain rfl := ns_same n n'
  obtain ⟨w, r, lk⟩ := l i x v hN hσ (.inl hk)
  rcases lk with ⟨_, e2⟩ | ⟨hc, _⟩
  · rw [e] at e2
    cases e2
    exact r
  · rcases hc with hc | hc
    · rw [hk] at hc; cases hc
    · rw [hk] at hc; cases hc
theorem Hold.name {pos : Pos} (hh : Hold X x u s) (I : Inv X pins σ H s) (hk : X.env.kindOf x = some .local) (q : Q u s) (hd : (x == ("__debug__" : Str)) = false := by decide) : wpAny (model X.prog X.w) X.A (eval (.Name x pos) X.env) Q E s := by
  obtain ⟨m, n, e⟩ := hh
  exact wpAny_Name (wpAny_loadName_local I.ok.kind hk n e q) hd
theorem Hold.call {R : VK} {w : Value} {s' : Shared} (hh : Hold X x u s) (I : Inv X pins σ H s) (c : CE X.stack X.prog X.w H s R w s') : Hold X x u s' := by
  obtain ⟨m, ⟨o, es, ep, ho, hd, hk, hf⟩, e⟩ := hh
  obtain ⟨v, H', _, _, un, _⟩ := c
  obtain ⟨sl, hL⟩ := un.any ho I.free (by simp)
  exact ⟨m, ⟨_, es, ep, hL, hd, hk, hf⟩, e⟩
theorem store_hold {M : Model} {A : Around} {E : Value → Shared → Prop} {i : Nat} {v : V} {R : Unit → Shared → Prop} (I : Inv X pins σ H s) (hN : X.N.Nodup) (hi : X.N[i]? = some x) (hk : X.env.kindOf x = some .local) (r : RelV v u)
    (q : ∀ s', Inv X pins (σ.set i (some v)) H s' → Hold X x u s' → s'.toks = s.toks + 1 → R () s') : wpAny M A (storeName X.env x u) R E s := by
  obtain ⟨m, hn, hl⟩ := id I.loc
  have hcls : (X.env.scope.kind == .class || (X.env.scope.kind == .module && X.env.locals != X.env.globals)) = false := by rw [I.ok.kind]; rfl
  have hiσ : i < σ.length := by rw [I.len]; exact (List.getElem?_eq_some_iff.mp hi).1
  refine wpAny_storeName_local hk hn (fun h' hn' hs => ?_) hcls
  have old : ∀ b o, X.s_0.heap.get? b = some o → b ≠ X.env.locals := fun b o e => Nat.ne_of_lt (Nat.lt_of_lt_of_le (Heap.lt_size e) I.ok.above)
  have st : ∀ b, b ≠ X.env.locals → h'.get? b = s.heap.get? b := fun b hb => hs.2 b hb
  have trk : ∀ b ob, H b = some ob → b ≠ X.env.locals := fun b ob e z => by rw [z, I.free] at e; cases e
  refine q { s with heap := h', toks := s.toks + 1 } ⟨I.ok, I.os, I.bare, ⟨?k1, ?k2, I.base.free, ?k3, I.base.tups, I.base.frzs, I.base.tbls⟩, ⟨_, hn', ?k4⟩, ?k5, I.free, I.freeC, ?k6, ?k7, ?k8⟩ ⟨_, hn', if_pos rfl⟩ rfl
  case k1 => exact fun b o e n hb hx => (st b (old b o e)).trans (I.base.keep b o e n hb hx)
  case k2 =>
    intro b o e n hb hx
    obtain ⟨sl, e1⟩ := I.base.slot b o e n hb hx
    exact ⟨sl, (st b (old b o e)).trans e1⟩
  case k3 =>
    intro b o e hx
    obtain ⟨o', e1⟩ := I.base.there b o e hx
    exact ⟨o', (st b (old b o e)).trans e1⟩
  case k4 =>
    intro j y w e1 e2 e3
    by_cases hj : j = i
    · subst hj
      rw [hi] at e1
      cases e1
      rw [List.getElem?_set_self hiσ] at e2
      cases e2
      exact ⟨u, r, .inl ⟨hk, if_pos rfl⟩⟩
    · rw [List.getElem?_set_ne (Ne.symm hj)] at e2
      obtain ⟨w', r', lk⟩ := hl j y w e1 e2 e3
      refine ⟨w', r', ?_⟩
      rcases lk with ⟨k, e⟩ | ⟨k, c, e, z⟩
      · refine .inl ⟨k, ?_⟩
        have hne : y ≠ x := fun z => hj (nodup_ix hN e1 (z ▸ hi))
        exact (if_neg hne).trans e
      · exact .inr ⟨k, c, e, z.sameBut hs (I.cne y c e)⟩
  case k5 =>
    intro y c e
    obtain ⟨w, z⟩ := I.cell y c e
    exact ⟨w, z.sameBut hs (I.cne y c e)⟩
  case k6 =>
    intro p hp
    obtain ⟨e, n, ne, nf, d⟩ := I.pin p hp
    exact ⟨(st p.1 ne).trans e, n, ne, nf, d⟩
  case k7 =>
    intro b ob e
    refine (I.hok b ob e).stay (fun c w hc g => (st c ?_).trans g) (fun _ g => g) fun _ _ g => g
    rcases hc with rfl | hc
    · exact trk _ _ e
    · exact trk _ _ hc
  case k8 => simpa using I.len
end
def NewS (n : Nat) : Flow → Prop
  | .ret u => ∃ z t, u = .str z t ∧ n ≤ t
  | _ => False
def PSsN (X : Cx) (n : Nat) (sts : List Stmt) (t : TS) : Prop :=
  ∀ (pins : List (Addr × Obj)) (s : Shared) (σ : L2.St) (H : Hp) (D : Ends), n ≤ s.toks → Inv X pins σ H s → t D σ H → wpAny (model X.prog X.w) X.A (execs sts X.env) (fun f s' => SP X pins D f s' ∧ NewS n f) X.xe s
theorem pssn_sign {X : Cx} {n i : Nat} {x c : Str} {ie : Expr} {ti : TE} {j : Nat} {p0 p1 p2 p3 q0 q1 : Pos} (hN : X.N.Nodup) (hi : X.N[i]? = some x) (hx : X.env.scope.names.lookup x = some .local) (hb : PE X ie ti) (hpl : PlainIx ie)
    (hs : swapsWith (.Constant (.str c) j q0) (some (.Name x p0)) p1.line X.env = pure false := by rfl) (hd : (x == ("__debug__" : Str)) = false := by decide) (hcd : (x == ("__classdict__" : Str)) = false := by decide) :
    PSsN X n [.Assign [.Name x p0] (.Constant (.str c) j q0) p1, .Return (some (.Subscript (.Name x p2) ie q1)) p3] (tSeq (tAsg (tC (.str c)) (gName i)) (tRet (tOp rIxS (tVar i) ti))) := by
  intro pins s σ H D hn I h
  refine wpAny_execs_cons (wpAny_Assign_Name (Calls.Constant_str ?_) hs)
  refine thn (out_of (Nat.le_succ_of_le hn) (store_ok (v := V.str c) (Q := fun _ s2 => Inv X pins (σ.set i (some (V.str c))) H s2) (I.tok (s.toks + 1)) hN hi (.inl hx) ⟨s.toks, rfl⟩ (fun _ J => J) (.inr hx))) fun _ s2 ⟨k2, I2⟩ => ?_
  obtain ⟨v, e1, h⟩ := h
  refine wpAny_execs_cons (wpAny_Return_some (Subscript_ (raw_name hi (.inl hx) I2 e1 (fun u ru => ?_) hd hcd)))
  refine thn (out_of k2 (hb.run pins s2 _ H _ I2 h)) fun w s3 ⟨k3, y, H3, I3, ry, q⟩ => ?_
  obtain ⟨z, i', c', rfl, rfl, hz, he, q⟩ := q
  obtain ⟨t, rfl⟩ := ru
  obtain ⟨t', rfl⟩ := ry
  obtain ⟨j', h1, h2, h3, h4, h5⟩ := atI_get he
  have hl : z.cps.toList.length = z.length := by simp [Str.length]
  rw [hl] at h1 h4 h5
  have hn63 := line63
  refine tail_any (typeIs_str s3 z t) slot_str_getitem.lookup (getItem_str (c := c') ?_ ?_ ?_) (hpl _ _)
  · rw [decide_eq_false (show ¬ i' < -(2 ^ 63 : Int) by omega), decide_eq_false (show ¬ i' ≥ 2 ^ 63 by omega), Bool.or_false]
  · rw [h1]
    simpa using h2
  · exact ⟨⟨.str ⟨#[c']⟩, _, H3, I3.tok _, ⟨_, rfl⟩, q⟩, _, s3.toks, rfl, k3⟩
structure CalleeN (P : Program) (w : World) (K : PySem.W.Frag) (mg : Str → Option Value) (base : Heap) (k : Nat) (x : Str) (F : List Sl → Option (Sl × List Sl)) : Prop where
  ex : ∃ f fd p, (∀ (A : Around) (outer : List PySem.Env) (s : Shared) (H : Hp) (args : Args) (us : List Value) (vs : List V) (Q : VK) (E : XK), Room k A → Env0 P w K mg base A outer s H → BindsTo s fd args ([p].zip us) → Vals vs us → spD K 1 F vs H Q E →
      codeAny (model P w) A (.call (.ref f) args) (fun r s' => CR CX0 outer P w H s Q E r s' ∧ ∀ u, r = .ok (.ret u) → ∃ z t, u = .str z t ∧ s.toks ≤ t) s) ∧ mg x = some (.ref f) ∧ PySem.W.keepIn K (.ref f) = true ∧ Binds K fd [p] []
section
variable {P : Program} {w : World} {K : PySem.W.Frag} {mg : Str → Option Value} {base : Heap}
theorem fnN_ok {x qual p : Str} {st : Stmt} {f : Addr} {fd : FuncData} {N : List Str} {k m : Nat} {g : M Fl} (F : Fun K x qual st f fd) (S : FnScope N [p] (defScope st)) (hm : N.length - 1 = m)
    (hbody : ∀ (n : Nat) (cdv : Value) (A : Around) (outer : List PySem.Env) (s : Shared) (H : Hp) (E : XK) (vs0 : List V), Room k (A.deeper (envOfC qual (defScope st) s.heap.objs.size f cdv)) →
      PSsN (cxOf CX0 P w K mg base N qual (defScope st) f cdv A outer s H E).nox n (defBody st) (rdS K vs0 g)) :
    ∀ (A : Around) (outer : List PySem.Env) (s : Shared) (H : Hp) (args : Args) (us : List Value) (vs : List V) (Q : VK) (E : XK), Room (k + 1) A → Env0 P w K mg base A outer s H → BindsTo s fd args ([p].zip us) → Vals vs us → spD K 1 (mkF m g) vs H Q E →
      codeAny (model P w) A (.call (.ref f) args) (fun r s' => CR CX0 outer P w H s Q E r s' ∧ ∀ u, r = .ok (.ret u) → ∃ z t, u = .str z t ∧ s.toks ≤ t) s := by
  intro A outer s H args us vs Q E hr e0 hb r hsp
  obtain ⟨oc, od, kV, doc, pm, an, cdv, ct, osl, rfl, lk, hcd⟩ := F.ex
  have KX : K.In s.heap := e0.mod.kin.keeps fun b o e => (e0.bs b o e).1
  have hlim : s.heap.NoLimit := e0.mod.nolimit.keeps fun b o e => (e0.bs b o e).1
  have hkind : ∀ y ∈ [p].zip us, (defScope st).names.lookup y.1 = some .local ∨ ((defScope st).names.lookup y.1 = some .cell ∧ ((cellsFrom (s.heap.objs.size + 1) (defScope st).names []).lookup y.1).isSome = true) := by
    rintro ⟨n, v⟩ hy
    rcases S.par n (List.of_mem_zip hy).1 with q | q
    · exact .inl q
    · exact .inr ⟨q, PySem.W.cellsFrom_some _ _ _ (.inl q)⟩
  refine codeAny_call_function hr.depth (KX _ _ lk) rfl S.co S.gen rfl (PySem.W.codeRec_of KX hcd) (hb _ _ _ _ ?_)
  refine PySem.wpAny_with_toks (Nat.le_refl s.toks) (wpAny_newFunctionEnv_cells S.kind hkind fun env he s1 xx hk1 => ?_)
  subst he
  refine ⟨hlim.keeps xx.toInCall.keep, codeAny_func ?_⟩
  have I : Inv (cxOf CX0 P w K mg base N qual (defScope st) f cdv A outer s H E) [] (L2.start N vs) H s1 := inv_start S hr.hd e0 hsp.1 r xx
  refine wpAny_mono (hbody s.toks cdv A outer s H E vs (hr.deeper _) [] s1 (L2.start N vs) H _ hk1 (I.wish _) (rd_body (n := 1) hm hsp)) (fun fl s' hs => ?_) fun e s' hs => False.elim hs
  obtain ⟨hs, hf⟩ := hs
  cases fl with
  | ret u =>
    obtain ⟨v, σ', H', J, rv, q⟩ := hs
    refine ⟨⟨v, H', J.os, J.bare, J.base, J.hok, rv, q⟩, fun u' e => ?_⟩
    cases e
    exact hf
  | next => exact hf.elim
  | brk => exact hf.elim
  | cont => exact hf.elim
end
end Pd
set_option Elab.async false
set_option linter.all false
set_option maxRecDepth 100000
set_option maxHeartbeats 1000000
namespace Pd
open PySem PySem.Spec PyProof.Rows L2
section
variable {K : PySem.W.Frag} {vs0 : List V} {σ : L2.St} {H : Hp} {Q : VK}
theorem rd_var {i : Nat} (q : rdE K vs0 (eName i) σ H Q) : tVar i σ H Q := by
  obtain ⟨B, ρ, fs, g, r, ρ', e1, k⟩ := q
  have fin : ∀ s, ρ[i]? = some (some s) → ρ' = ρ → (∀ v, σ[i]? = some (some v) → Own K B H v s (fs i) → RsOk K B H σ fs v r []) → tVar i σ H Q := fun s h e f => by
    obtain ⟨v, h1, h2, _⟩ := g.at_ i _ h
    exact ⟨v, h1, k v B H fs [] fr_unr (e ▸ g) (f v h1 h2)⟩
  unfold eName at e1
  split at e1
  · rename_i d e2
    cases e1
    exact fin _ e2 rfl fun v _ h => ⟨⟨h.1, rfl⟩, rfl, fun a ha => nomatch ha⟩
  · rename_i c f e2
    cases e1
    exact fin _ e2 rfl fun v _ h => ⟨⟨h.1, rfl⟩, rfl, fun a ha => nomatch ha⟩
  · rename_i l e2
    cases e1
    exact fin _ e2 rfl fun v _ h => ⟨⟨h.1, rfl⟩, rfl, fun a ha => nomatch ha⟩
  · cases e1
  · rename_i s _ _ _ _ e2
    cases e1
    exact fin _ e2 rfl fun v h1 _ => ⟨h1, rfl⟩
  · cases e1
theorem rd_callN {n : Nat} {F : List Sl → Option (Sl × List Sl)} {fa : M (List Rs)} (q : rdE K vs0 (M.bind fa (opCall n F)) σ H Q) : rdA K vs0 fa σ H fun vs H1 => spD K n F vs H1 Q E0 := rd_op (opCall_ok (n := n) (F := F)) q
end
theorem tyV_str {K : PySem.W.Frag} {x : V} {H : Hp} (h : tyV K "str" x H) : ∃ a, x = .str a := by
  cases x with
  | str a => exact ⟨a, rfl⟩
  | int i => exact absurd (show ("str" : String) = "int" from h) (by decide)
  | ref p => rcases h with ⟨e, _⟩ | ⟨e, _⟩ | ⟨e, _⟩ | ⟨e, _⟩ <;> exact absurd e (by decide)
  | non => exact h.elim
  | bl _ => exact h.elim
  | byt _ => exact h.elim
  | flt _ => exact h.elim
  | ty _ => exact h.elim
section
variable {X : Cx} {pins : List (Addr × Obj)} {σ : L2.St} {H : Hp} {s : Shared} {ox fx dx kx : Str} {ou : Value} {Q : VK} {k : Nat} {F : List Sl → Option (Sl × List Sl)} {vs0 : List V} {ik io id : Nat} {c : Str} {t : Nat}
theorem sign_call {pf p3 pc : Pos} (C : CalleeN X.prog X.w X.K X.mg X.base k fx F) (hr : Room k X.A) (hg : Gl X fx) (I : Inv X pins σ H s) (hh : Hold X ox ou s) (hNd : X.N[id]? = some dx) (hvd : Vis X.env.scope dx)
    (q : rdE X.K vs0 (M.bind (aCons (eName id) aNil) (opCall 1 F)) σ H Q) (hdb : (fx == ("__debug__" : Str)) = false := by decide) (hdd : (dx == ("__debug__" : Str)) = false := by decide) (hcd : (dx == ("__classdict__" : Str)) = false := by decide)
    (he : starEach [.Name dx p3] X.env = (false, eval (.Name dx p3) X.env) :: starEach [] X.env := by rfl) (hpl : (backTo pc (starEach [] X.env)).any (·.1) = false := by rfl) :
    wpAny (model X.prog X.w) X.A (eval (.Call (.Name fx pf) [.Name dx p3] [] pc) X.env) (fun u s' => (∃ z t, u = .str z t ∧ s.toks ≤ t) ∧ Hold X ox ou s' ∧ EP X pins σ Q u s') X.xe s := by
  obtain ⟨f, fd, p, run, hm, hk, hb⟩ := C.ex
  obtain ⟨v, e1, q⟩ := rd_var (rd_cons (rd_callN q))
  have q := rdA_nil q
  refine wpAny_Call_Name_kw (ld_glob I hg hm ?_ hdb)
  refine PySem.W.callWith_K (h₀ := X.base) I.ok.mod.kin hk ?_ he hpl
  rw [he]
  show wpAny _ _ (spliced ((false, eval (.Name dx p3) X.env) :: backTo pc (starEach [] X.env))) _ _ s
  refine Calls.spliced_cons (raw_name hNd hvd I e1 (fun u ru => Calls.spliced_nil ⟨I.kIn, ?_⟩) hdd hcd)
  have rv : Vals [v] [u] := .cons ru .nil
  have hbind := hb s [u] I.kIn rfl
  rw [List.append_nil] at hbind
  refine wpAny_call (codeAny_mono (run X.A X.stack s H ⟨[u], []⟩ [u] [v] Q E0 hr I.env0 hbind rv q) fun r s' hq => ?_)
  obtain ⟨hq, new⟩ := hq
  cases r with
  | error e => exact pass0 pins σ H s e s' I hq
  | ok fl =>
    cases fl with
    | ret w => exact ⟨new w rfl, hh.call I hq, I.after hq⟩
    | next => exact False.elim hq
    | brk => exact False.elim hq
    | cont => exact False.elim hq
theorem rep_name {p1 p2 p3 pf pc apos cpos : Pos} (nb : NoneBooked X.base) (C : CalleeN X.prog X.w X.K X.mg X.base k fx F) (hr : Room k X.A) (hg : Gl X fx) (I : Inv X pins σ H s) (hh : Hold X ox (.str c t) s) (h1 : 1 ≤ t) (ht : t < s.toks)
    (hNk : X.N[ik]? = some kx) (hvk : Vis X.env.scope kx) (hNo : X.N[io]? = some ox) (hko : X.env.kindOf ox = some .local) (hNd : X.N[id]? = some dx) (hvd : Vis X.env.scope dx)
    (q : rdE X.K vs0 (eMeth "str" (eName ik) (aCons (eName io) (aCons (M.bind (aCons (eName id) aNil) (opCall 1 F)) aNil)) o_replace2) σ H Q)
    (hdb : (fx == ("__debug__" : Str)) = false := by decide) (hdd : (dx == ("__debug__" : Str)) = false := by decide) (hcd : (dx == ("__classdict__" : Str)) = false := by decide)
    (hkd : (kx == ("__debug__" : Str)) = false := by decide) (hkc : (kx == ("__classdict__" : Str)) = false := by decide) (hod : (ox == ("__debug__" : Str)) = false := by decide)
    (he : starEach [.Name dx p3] X.env = (false, eval (.Name dx p3) X.env) :: starEach [] X.env := by rfl) (hpl : (backTo pc (starEach [] X.env)).any (·.1) = false := by rfl)
    (hbase : attributeBase (.Name kx p1) "replace" X.env (eval (.Name kx p1) X.env) = eval (.Name kx p1) X.env := by rfl)
    (hst : starEach [.Name ox p2, .Call (.Name fx pf) [.Name dx p3] [] pc] X.env = [(false, eval (.Name ox p2) X.env), (false, eval (.Call (.Name fx pf) [.Name dx p3] [] pc) X.env)] := by rfl) (hline : (apos.endLine == cpos.line) = true := by rfl) :
    wpAny (model X.prog X.w) X.A (eval (.Call (.Attribute (.Name kx p1) "replace" apos) [.Name ox p2, .Call (.Name fx pf) [.Name dx p3] [] pc] [] cpos) X.env) (fun v s' => Hold X ox (.str c t) s' ∧ EP X pins σ Q v s') X.xe s := by
  obtain ⟨v, e1, ty, q⟩ := rd_var (rd_meth o_replace2_ok q)
  obtain ⟨a, rfl⟩ := tyV_str ty
  obtain ⟨w, e2, q⟩ := rd_var (rd_cons q)
  have q := rd_cons q
  refine PySem.Call_method2 hbase hst hline (raw_name hNk hvk I e1 (fun u r => ?_) hkd hkc)
  obtain ⟨tx, rfl⟩ := r
  refine ⟨"str", _, PySem.F.plainAttrs_str, PySem.F.slot_str_replace, PySem.F.type_str_replace, typeIs_str _ _ _, (fun _ e => nomatch e), Calls.callWith_builtin rfl (Calls.evalArgs_plain (Calls.spliced_cons (hh.name I hko ?_ hod)))⟩
  refine Calls.spliced_cons (thn (sign_call C hr hg I hh hNd hvd q hdb hdd hcd he hpl) fun u s2 hq => Calls.spliced_nil ?_)
  obtain ⟨⟨z, tz, rfl, le⟩, hh2, y, H2, I2, ry, q2⟩ := hq
  obtain ⟨a', b, cc, ea, exs, hb, q3⟩ := rdA_nil q2
  cases ea
  cases exs
  obtain ⟨t1, et⟩ := hh.rel I hNo hko e2
  cases et
  obtain ⟨t2, et⟩ := ry
  cases et
  exact call_rep (Nat.ne_of_gt h1) (Nat.ne_of_gt (Nat.lt_of_lt_of_le (Nat.lt_trans h1 ht) le)) (Nat.ne_of_lt (Nat.lt_of_lt_of_le ht le)) hb (fun t' k => ⟨hh2, .str _, H2, I2.tok k, ⟨t', rfl⟩, q3⟩) (booked nb I2)
theorem rep_name1 {p1 p2 p3 pf pc pj apos cpos : Pos} {j : Nat} (nb : NoneBooked X.base) (C : CalleeN X.prog X.w X.K X.mg X.base k fx F) (hr : Room k X.A) (hg : Gl X fx) (I : Inv X pins σ H s) (hh : Hold X ox (.str c t) s) (h1 : 1 ≤ t) (ht : t < s.toks)
    (hNk : X.N[ik]? = some kx) (hvk : Vis X.env.scope kx) (hNo : X.N[io]? = some ox) (hko : X.env.kindOf ox = some .local) (hNd : X.N[id]? = some dx) (hvd : Vis X.env.scope dx)
    (q : rdE X.K vs0 (eMeth "str" (eName ik) (aCons (eName io) (aCons (M.bind (aCons (eName id) aNil) (opCall 1 F)) (aCons (eC (.int 1)) aNil))) o_replace3) σ H Q)
    (hdb : (fx == ("__debug__" : Str)) = false := by decide) (hdd : (dx == ("__debug__" : Str)) = false := by decide) (hcd : (dx == ("__classdict__" : Str)) = false := by decide)
    (hkd : (kx == ("__debug__" : Str)) = false := by decide) (hkc : (kx == ("__classdict__" : Str)) = false := by decide) (hod : (ox == ("__debug__" : Str)) = false := by decide)
    (he : starEach [.Name dx p3] X.env = (false, eval (.Name dx p3) X.env) :: starEach [] X.env := by rfl) (hpl : (backTo pc (starEach [] X.env)).any (·.1) = false := by rfl)
    (hbase : attributeBase (.Name kx p1) "replace" X.env (eval (.Name kx p1) X.env) = eval (.Name kx p1) X.env := by rfl)
    (hfew : ((backTo cpos (starEach [.Name ox p2, .Call (.Name fx pf) [.Name dx p3] [] pc, .Constant (.int 1) j pj] X.env)).all (fun x => !x.1) && (backToKw cpos (keywordEach [] X.env)).all (fun x => x.1.isSome)
      && decide (([.Name ox p2, .Call (.Name fx pf) [.Name dx p3] [] pc, .Constant (.int 1) j pj] : List Expr).length + ([] : List Keyword).length + (if ([] : List Keyword).isEmpty then 0 else 1) < 30)) = true := by rfl)
    (hst : backTo cpos (starEach [.Name ox p2, .Call (.Name fx pf) [.Name dx p3] [] pc, .Constant (.int 1) j pj] X.env) = [(false, eval (.Name ox p2) X.env), (false, eval (.Call (.Name fx pf) [.Name dx p3] [] pc) X.env), (false, eval (.Constant (.int 1) j pj) X.env)] := by rfl) (hline : (apos.endLine == cpos.line) = true := by rfl) :
    wpAny (model X.prog X.w) X.A (eval (.Call (.Attribute (.Name kx p1) "replace" apos) [.Name ox p2, .Call (.Name fx pf) [.Name dx p3] [] pc, .Constant (.int 1) j pj] [] cpos) X.env) (fun v s' => Hold X ox (.str c t) s' ∧ EP X pins σ Q v s') X.xe s := by
  obtain ⟨v, e1, ty, q⟩ := rd_var (rd_meth o_replace3_ok q)
  obtain ⟨a, rfl⟩ := tyV_str ty
  obtain ⟨w, e2, q⟩ := rd_var (rd_cons q)
  have q := rd_cons q
  refine PySem.wpAny_Call_method_lateS hbase hfew hline (raw_name hNk hvk I e1 (fun u r => ?_) hkd hkc)
  obtain ⟨tx, rfl⟩ := r
  rw [hst]
  refine ⟨"str", _, PySem.F.plainAttrs_str, PySem.F.slot_str_replace, PySem.F.type_str_replace, typeIs_str _ _ _, (fun _ e => nomatch e), Calls.callWith_builtin rfl (Calls.evalArgs_plain (Calls.spliced_cons (hh.name I hko ?_ hod)))⟩
  refine Calls.spliced_cons (thn (sign_call C hr hg I hh hNd hvd q hdb hdd hcd he hpl) fun u s2 hq => Calls.spliced_cons (wpAny_Constant_int (Calls.spliced_nil ?_)))
  obtain ⟨⟨z, tz, rfl, le⟩, hh2, y, H2, I2, ry, q2⟩ := hq
  obtain ⟨a', b, cc, ea, exs, hb, q3⟩ := rdA_nil (rdE_c (rd_cons q2) (v := .int 1) fun _ => .int 1)
  cases ea
  cases exs
  obtain ⟨t1, et⟩ := hh.rel I hNo hko e2
  cases et
  obtain ⟨t2, et⟩ := ry
  cases et
  exact call_rep1 (s := { s2 with toks := s2.toks + 1 }) (Nat.ne_of_gt h1) (Nat.ne_of_gt (Nat.lt_of_lt_of_le (Nat.lt_trans h1 ht) le)) (Nat.ne_of_lt (Nat.lt_of_lt_of_le ht le)) hb (fun t' k => ⟨hh2, .str _, H2, I2.tok k, ⟨t', rfl⟩, q3⟩) (booked nb (I2.tok (s2.toks + 1)))
end
def PSH (X : Cx) (ox : Str) (st : Stmt) (t : TS) : Prop :=
  ∀ (pins : List (Addr × Obj)) (s : Shared) (σ : L2.St) (H : Hp) (D : Ends) (c : Str) (k : Nat), Hold X ox (.str c k) s → 1 ≤ k → k < s.toks → Inv X pins σ H s → t D σ H → wpAny (model X.prog X.w) X.A (exec st X.env) (SP X pins D) X.xe s
def PEH (X : Cx) (ox : Str) (e : Expr) (t : TE) : Prop :=
  ∀ (pins : List (Addr × Obj)) (s : Shared) (σ : L2.St) (H : Hp) (Q : VK) (c : Str) (k : Nat), Hold X ox (.str c k) s → 1 ≤ k → k < s.toks → Inv X pins σ H s → t σ H Q → wpAny (model X.prog X.w) X.A (eval e X.env) (fun v s' => Hold X ox (.str c k) s' ∧ EP X pins σ Q v s') X.xe s
section
variable {X : Cx} {vs0 : List V}
theorem deh_rep {k : Nat} {F : List Sl → Option (Sl × List Sl)} {ox fx dx kx : Str} {ik io id : Nat} {p1 p2 p3 pf pc apos cpos : Pos} (nb : NoneBooked X.base) (C : CalleeN X.prog X.w X.K X.mg X.base k fx F) (hr : Room k X.A) (hg : Gl X fx)
    (hNk : X.N[ik]? = some kx) (hvk : Vis X.env.scope kx) (hNo : X.N[io]? = some ox) (hko : X.env.kindOf ox = some .local) (hNd : X.N[id]? = some dx) (hvd : Vis X.env.scope dx)
    (hdb : (fx == ("__debug__" : Str)) = false := by decide) (hdd : (dx == ("__debug__" : Str)) = false := by decide) (hcd : (dx == ("__classdict__" : Str)) = false := by decide)
    (hkd : (kx == ("__debug__" : Str)) = false := by decide) (hkc : (kx == ("__classdict__" : Str)) = false := by decide) (hod : (ox == ("__debug__" : Str)) = false := by decide)
    (he : starEach [.Name dx p3] X.env = (false, eval (.Name dx p3) X.env) :: starEach [] X.env := by rfl) (hpl : (backTo pc (starEach [] X.env)).any (·.1) = false := by rfl)
    (hbase : attributeBase (.Name kx p1) "replace" X.env (eval (.Name kx p1) X.env) = eval (.Name kx p1) X.env := by rfl)
    (hst : starEach [.Name ox p2, .Call (.Name fx pf) [.Name dx p3] [] pc] X.env = [(false, eval (.Name ox p2) X.env), (false, eval (.Call (.Name fx pf) [.Name dx p3] [] pc) X.env)] := by rfl) (hline : (apos.endLine == cpos.line) = true := by rfl) :
    PEH X ox (.Call (.Attribute (.Name kx p1) "replace" apos) [.Name ox p2, .Call (.Name fx pf) [.Name dx p3] [] pc] [] cpos) (rdE X.K vs0 (eMeth "str" (eName ik) (aCons (eName io) (aCons (M.bind (aCons (eName id) aNil) (opCall 1 F)) aNil)) o_replace2)) :=
  fun pins s σ H Q c k hh h1 ht I q => rep_name nb C hr hg I hh h1 ht hNk hvk hNo hko hNd hvd q hdb hdd hcd hkd hkc hod he hpl hbase hst hline
theorem deh_rep1 {k : Nat} {F : List Sl → Option (Sl × List Sl)} {ox fx dx kx : Str} {ik io id j : Nat} {p1 p2 p3 pf pc pj apos cpos : Pos} (nb : NoneBooked X.base) (C : CalleeN X.prog X.w X.K X.mg X.base k fx F) (hr : Room k X.A) (hg : Gl X fx)
    (hNk : X.N[ik]? = some kx) (hvk : Vis X.env.scope kx) (hNo : X.N[io]? = some ox) (hko : X.env.kindOf ox = some .local) (hNd : X.N[id]? = some dx) (hvd : Vis X.env.scope dx)
    (hdb : (fx == ("__debug__" : Str)) = false := by decide) (hdd : (dx == ("__debug__" : Str)) = false := by decide) (hcd : (dx == ("__classdict__" : Str)) = false := by decide)
    (hkd : (kx == ("__debug__" : Str)) = false := by decide) (hkc : (kx == ("__classdict__" : Str)) = false := by decide) (hod : (ox == ("__debug__" : Str)) = false := by decide)
    (he : starEach [.Name dx p3] X.env = (false, eval (.Name dx p3) X.env) :: starEach [] X.env := by rfl) (hpl : (backTo pc (starEach [] X.env)).any (·.1) = false := by rfl)
    (hbase : attributeBase (.Name kx p1) "replace" X.env (eval (.Name kx p1) X.env) = eval (.Name kx p1) X.env := by rfl)
    (hfew : ((backTo cpos (starEach [.Name ox p2, .Call (.Name fx pf) [.Name dx p3] [] pc, .Constant (.int 1) j pj] X.env)).all (fun x => !x.1) && (backToKw cpos (keywordEach [] X.env)).all (fun x => x.1.isSome)
      && decide (([.Name ox p2, .Call (.Name fx pf) [.Name dx p3] [] pc, .Constant (.int 1) j pj] : List Expr).length + ([] : List Keyword).length + (if ([] : List Keyword).isEmpty then 0 else 1) < 30)) = true := by rfl)
    (hst : backTo cpos (starEach [.Name ox p2, .Call (.Name fx pf) [.Name dx p3] [] pc, .Constant (.int 1) j pj] X.env) = [(false, eval (.Name ox p2) X.env), (false, eval (.Call (.Name fx pf) [.Name dx p3] [] pc) X.env), (false, eval (.Constant (.int 1) j pj) X.env)] := by rfl) (hline : (apos.endLine == cpos.line) = true := by rfl) :
    PEH X ox (.Call (.Attribute (.Name kx p1) "replace" apos) [.Name ox p2, .Call (.Name fx pf) [.Name dx p3] [] pc, .Constant (.int 1) j pj] [] cpos) (rdE X.K vs0 (eMeth "str" (eName ik) (aCons (eName io) (aCons (M.bind (aCons (eName id) aNil) (opCall 1 F)) (aCons (eC (.int 1)) aNil))) o_replace3)) :=
  fun pins s σ H Q c k hh h1 ht I q => rep_name1 nb C hr hg I hh h1 ht hNk hvk hNo hko hNd hvd q hdb hdd hcd hkd hkc hod he hpl hbase hfew hst hline
theorem dsh_add2 {ox sx : Str} {i : Nat} {e1 e2 : Expr} {f1 f2 : M Rs} {r : R2} {op : List Rs → M Rs} {p0 p1 p2 p3 pos : Pos} (hN : X.N.Nodup) (hi : X.N[i]? = some sx) (hx : X.env.kindOf sx = some .local) (ho : OpR X (binaryOp .Add) r) (hop : OpOk X.K (r2 r) op)
    (h1 : PEH X ox e1 (rdE X.K vs0 f1)) (h2 : PEH X ox e2 (rdE X.K vs0 f2)) (hs : swapsWith (.BinOp (.Name sx p1) .Add (.List [e1, e2] p2) p3) (some (.Name sx p0)) pos.line X.env = pure false := by rfl)
    (hst : ∀ q, backTo q (starEach [e1, e2] X.env) = [(false, eval e1 X.env), (false, eval e2 X.env)] := by intro _; rfl) (hd : (sx == ("__debug__" : Str)) = false := by decide) (hcd : (sx == ("__classdict__" : Str)) = false := by decide) :
    PSH X ox (.Assign [.Name sx p0] (.BinOp (.Name sx p1) .Add (.List [e1, e2] p2) p3) pos) (rdS X.K vs0 (gSet i (eBin (eName i) (M.bind (aCons f1 (aCons f2 aNil)) oLst) op))) := by
  intro pins s σ H D c k hh k1 kt I q
  obtain ⟨v, ev, q⟩ := rd_var (rd_bin hop (rd_set q))
  have q := rd_cons (rd_op oLst_ok q)
  refine wpAny_Assign_Name (wpAny_BinOp (raw_name hi (.inl hx) I ev (fun u ru => ?_) hd hcd)) hs
  refine wpAny_List_spliced ?_
  rw [hst]
  refine Calls.spliced_cons (thn (out_of kt (h1 pins s σ H _ c k hh k1 kt I q)) fun u1 s1 ⟨t1, hh1, x1, H1, I1, r1, q1⟩ => ?_)
  refine Calls.spliced_cons (thn (h2 pins s1 σ H1 _ c k hh1 k1 t1 I1 (rd_cons q1)) fun u2 s2 ⟨hh2, x2, H2, I2, r2, q2⟩ => Calls.spliced_nil ?_)
  obtain ⟨z, q2⟩ := rdA_nil q2
  refine ⟨z, ?_⟩
  have hf : H2 s2.heap.objs.size = none := I2.hok.fresh (Nat.le_refl _)
  have I3 : Inv X pins σ (upd H2 s2.heap.objs.size (.lst [x1, x2])) { s2 with heap := s2.heap.push { cls := .type "list", data := .seq #[u1, u2] } } :=
    I2.laid (t' := s2.toks) (fun b o e => Heap.get?_push_of_some _ e) (Nat.le_refl _) ⟨z, [u1, u2], 0, .cons r1 (.cons r2 .nil), Heap.get?_push_size _ rfl⟩
  refine thn (ho pins _ σ _ v (.ref s2.heap.objs.size) u (.ref s2.heap.objs.size) _ I3 ru rfl (q2 _ hf)) fun u4 s4 ⟨x4, H4, I4, r4, q4⟩ => ?_
  exact store_ok I4 hN hi (.inl hx) r4 (fun s5 I5 => ⟨_, H4, I5, q4⟩) (.inr hx)
end
def JTwo (c0 c1 : Str) : It := ⟨fun i _ => i < 2, fun i H x H' => H' = H ∧ [V.str c0, V.str c1][i]? = some x, fun i _ => 2 ≤ i⟩
def iTwo (c0 c1 : Str) : TI := fun _ H R => R (JTwo c0 c1) H
theorem jok_two {K : PySem.W.Frag} {B : Hp} {c0 c1 : Str} : JOk K B (JTwo c0 c1) [.str c0, .str c1] := fun B2 H2 s1 s2 i => by
  refine ⟨fun d hd => ?_, fun hl => Nat.le_of_eq hl⟩
  have hi : i < 2 := (List.getElem?_eq_some_iff.mp hd).1
  refine ⟨hi, fun x H3 q => ?_⟩
  obtain ⟨rfl, q⟩ := q
  refine ⟨B2, Fr.refl _ _ _, s2, ?_⟩
  match i, hi with
  | 0, _ => cases hd; cases q; exact .str c0
  | 1, _ => cases hd; cases q; exact .str c1
theorem two_at (c0 c1 : Str) (t k : Nat) (go : k < 2) (h0 : 1 ≤ t) : ∃ (c : Str) (tk : Nat), #[Value.str c0 t, .str c1 (t + 1)][k]? = some (.str c tk) ∧ [V.str c0, V.str c1][k]? = some (.str c) ∧ 1 ≤ tk ∧ tk < t + 2 := by
  rcases (by omega : k = 0 ∨ k = 1) with rfl | rfl
  · exact ⟨c0, t, by simp, by simp, h0, by omega⟩
  · exact ⟨c1, t + 1, by simp, by simp, by omega, by omega⟩
section
variable {X : Cx} {vs0 : List V}
theorem pst_two {i : Nat} {x : Str} {c0 c1 : Str} {j0 j1 : Nat} {st : Stmt} {tb : TS} {p q0 q1 lp pos : Pos} (hp : PassesOwn (model X.prog X.w) X.A X.env X.xe) (hc : X.calm = true) (hN : X.N.Nodup) (hi : X.N[i]? = some x) (hx : X.env.kindOf x = some .local) (hb : PSH X x st tb)
    (hs : ∀ y, foldedSetIterable (.List [.Constant (.str c0) j0 q0, .Constant (.str c1) j1 q1] lp) X.env y = pure y := by intro _; rfl)
    (hst : ∀ q, backTo q (starEach [.Constant (.str c0) j0 q0, .Constant (.str c1) j1 q1] X.env) = [(false, eval (.Constant (.str c0) j0 q0) X.env), (false, eval (.Constant (.str c1) j1 q1) X.env)] := by intro _; rfl) :
    PST X (.For (.Name x p) (.List [.Constant (.str c0) j0 q0, .Constant (.str c1) j1 q1] lp) [st] [] pos) (tFor (iTwo c0 c1) (gName i) tb) := by
  intro pins s σ H D h0 I h
  obtain ⟨W, ⟨m0, w0⟩, turn⟩ := h
  refine wpAny_For (wpAny_List_spliced ?_) hs
  rw [hst]
  refine Calls.spliced_cons (Calls.Constant_str (Calls.spliced_cons (Calls.Constant_str (Calls.spliced_nil ⟨by show 2 ≤ sizeLine; decide, ?_⟩))))
  refine wpAny_pyIter_list (items := #[Value.str c0 s.toks, .str c1 (s.toks + 1)]) ⟨_, Heap.get?_push_size _ rfl, rfl, 0, rfl⟩ ?_
  have fpL : FpOk X pins H s.heap.objs.size := I.fpOk (Nat.le_refl _) (I.hok.fresh (Nat.le_refl _))
  have fpI : FpOk X pins H (s.heap.objs.size + 1) := I.fpOk (Nat.le_succ _) (I.hok.fresh (Nat.le_succ _))
  have keep0 : ∀ (b : Addr) (o : Obj) (n1 n2 : Obj), s.heap.get? b = some o → ((s.heap.push n1).push n2).get? b = some o := fun b o n1 n2 e => Heap.get?_push_of_some _ (Heap.get?_push_of_some _ e)
  have sz : ∀ n1 : Obj, (s.heap.push n1).objs.size = s.heap.objs.size + 1 := fun n1 => by simp [Heap.push]
  rw [sz]
  generalize hla : s.heap.objs.size = la at fpL fpI ⊢
  refine codeAny_forLoop_any (fun n s' => ∃ k σ' H', Inv X pins σ' H' s' ∧ s'.heap.IsListIter (la + 1) la k ∧ s'.heap.get? la = some { cls := .type "list", data := .seq #[Value.str c0 s.toks, .str c1 (s.toks + 1)] } ∧ H' (la + 1) = none ∧ H' la = none ∧ s.toks + 2 ≤ s'.toks ∧ W k n σ' H') ?_ m0 ?_
  · rintro n s3 ⟨k, σ3, H3, I3, st3, ob3, f1, f2, t3, w3⟩
    have isl : s3.heap.IsList la #[Value.str c0 s.toks, .str c1 (s.toks + 1)] := ⟨_, ob3, rfl, 0, rfl⟩
    obtain ⟨_, a1, a2, a3, a4, a5⟩ := fpI
    obtain ⟨_, b1, b2, b3, b4, b5⟩ := fpL
    rcases turn k n σ3 H3 w3 with ⟨stop, qn⟩ | ⟨go, Nx, hNx, step⟩
    · refine wpAny_passesOwn hp (wpAny_pyNext_list_end (I3.ok.hd hc) st3 isl (Array.getElem?_eq_none stop) fun h' eb => ?_)
      exact wpAny_execs_nil ⟨σ3, H3, I3.turned (t' := s3.toks) (fun b o hb e => eb b o hb e) f1 a1 a3 a4 a5, qn⟩
    · have hu := two_at c0 c1 s.toks k go h0
      obtain ⟨c, tk, u1, u2, u3, u4⟩ := hu
      refine wpAny_passesOwn hp (wpAny_pyNext_list_item st3 isl u1 fun h' st' sb => ?_)
      have I4 : Inv X pins σ3 H3 { s3 with heap := h' } := I3.turned (t' := s3.toks) (fun b o hb e => (sb.2 b hb).trans e) f1 a1 a3 a4 a5
      have ob4 : h'.get? la = some { cls := .type "list", data := .seq #[Value.str c0 s.toks, .str c1 (s.toks + 1)] } := (sb.2 la (Nat.ne_of_lt (Nat.lt_succ_self la))).trans ob3
      obtain ⟨o4, e4, c4, d4⟩ := id st'
      refine wpAny_passesOwn hp (go_of (s := { s3 with heap := h' }) e4 c4 d4 (by decide) ?_)
      have fps : ∀ b ∈ [la + 1, la], FpOk X pins H3 b := by
        intro b hb'
        rcases List.mem_cons.mp hb' with rfl | hb'
        · exact ⟨f1, a1, a2, a3, a4, a5⟩
        · obtain rfl := List.mem_singleton.mp hb'
          exact ⟨f2, b1, b2, b3, b4, b5⟩
      have obs : ∀ b ∈ [la + 1, la], ∃ o, h'.get? b = some o ∧ ∀ v, o.data ≠ .cell v := by
        intro b hb'
        rcases List.mem_cons.mp hb' with rfl | hb'
        · exact ⟨o4, e4, fun v z => by rw [d4] at z; cases z⟩
        · obtain rfl := List.mem_singleton.mp hb'
          exact ⟨_, ob4, fun v z => nomatch z⟩
      have I5 := I4.pinned fps obs
      refine wpAny_passesOwn hp (wpAny_assign_Name (store_hold I5 hN hi hx (v := V.str c) ⟨tk, rfl⟩ fun s6 I6 hh6 e6 => ?_))
      have k6 : s.toks + 2 ≤ s6.toks := by
        have e7 : s6.toks = s3.toks + 1 := e6
        omega
      refine wpAny_passesOwn hp (wpAny_execs_cons (thn (out_of k6 (hb _ s6 _ H3 _ c tk hh6 u3 (Nat.lt_of_lt_of_le u4 k6) I6 (step _ H3 ⟨rfl, u2⟩))) fun f s7 q7 => ?_))
      obtain ⟨k7, q7⟩ := q7
      have again : ∀ {σ7 : L2.St} {H7 : Hp}, Inv X (pins ++ pinsAt [la + 1, la] h') σ7 H7 s7 → Nx σ7 H7 → ∃ m, m < n ∧ ∃ k σ' H', Inv X pins σ' H' s7 ∧ s7.heap.IsListIter (la + 1) la k ∧ s7.heap.get? la = some { cls := .type "list", data := .seq #[Value.str c0 s.toks, .str c1 (s.toks + 1)] } ∧ H' (la + 1) = none ∧ H' la = none ∧ s.toks + 2 ≤ s7.toks ∧ W k m σ' H' := by
        intro σ7 H7 I7 n7
        obtain ⟨m', hm, w7⟩ := hNx σ7 H7 n7
        have p1 := I7.pin (la + 1, o4) (List.mem_append_right _ (List.mem_append_right _ (mem_pinsAt (by simp) e4)))
        have p2 := I7.pin (la, _) (List.mem_append_right _ (List.mem_append_right _ (mem_pinsAt (by simp) ob4)))
        exact ⟨m', hm, k + 1, σ7, H7, I7.unpinned, ⟨o4, p1.1, c4, d4⟩, p2.1, p1.2.1, p2.2.1, k7, w7⟩
      cases f with
      | next => obtain ⟨σ7, H7, I7, n7⟩ := q7; exact wpAny_execs_nil (again I7 n7)
      | cont => obtain ⟨σ7, H7, I7, n7⟩ := q7; exact again I7 n7
      | brk => obtain ⟨σ7, H7, I7, q7⟩ := q7; exact ⟨σ7, H7, I7.unpinned, q7⟩
      | ret v => obtain ⟨x7, σ7, H7, I7, r7, q7⟩ := q7; exact ⟨x7, σ7, H7, I7.unpinned, r7, q7⟩
  · subst hla
    refine ⟨0, σ, H, I.kept (t' := s.toks + 1 + 1) fun b o e => keep0 b o _ _ e, ⟨{ cls := .type "list_iterator", data := .fields #[.ref s.heap.objs.size, .int 0 0] }, ?_, rfl, rfl⟩, ?_, fpI.1, fpL.1, by show s.toks + 2 ≤ s.toks + 1 + 1; omega, w0⟩
    · rw [← sz { cls := .type "list", data := .seq [Value.str c0 s.toks, .str c1 (s.toks + 1)].toArray }]
      exact Heap.get?_push_size _ rfl
    · exact Heap.get?_push_of_some _ (Heap.get?_push_size _ rfl)
theorem dst_two {i : Nat} {x : Str} {c0 c1 : Str} {j0 j1 : Nat} {st : Stmt} {g : M Fl} {p q0 q1 lp pos : Pos} (hp : PassesOwn (model X.prog X.w) X.A X.env X.xe) (hc : X.calm = true) (hN : X.N.Nodup) (hi : X.N[i]? = some x) (hx : X.env.kindOf x = some .local) (hb : PSH X x st (rdS X.K vs0 g))
    (hs : ∀ y, foldedSetIterable (.List [.Constant (.str c0) j0 q0, .Constant (.str c1) j1 q1] lp) X.env y = pure y := by intro _; rfl)
    (hst : ∀ q, backTo q (starEach [.Constant (.str c0) j0 q0, .Constant (.str c1) j1 q1] X.env) = [(false, eval (.Constant (.str c0) j0 q0) X.env), (false, eval (.Constant (.str c1) j1 q1) X.env)] := by intro _; rfl) :
    PST X (.For (.Name x p) (.List [.Constant (.str c0) j0 q0, .Constant (.str c1) j1 q1] lp) [st] [] pos) (rdS X.K vs0 (gFor (mSeq (M.bind (aCons (eC (.str c0)) (aCons (eC (.str c1)) aNil)) oLst)) (tgName i) g)) :=
  PST.imp (pst_two hp hc hN hi hx hb hs hst) fun D σ H q => by
    have q := rd_for (is := [i]) q
    obtain ⟨B, ρ, fs, gd, l, ρ', e1, k⟩ := q
    have el : l = [.str c0, .str c1] ∧ ρ' = ρ := by
      have : mSeq (M.bind (aCons (eC (.str c0)) (aCons (eC (.str c1)) aNil)) oLst) ρ = some (.ok [.str c0, .str c1] ρ) := rfl
      rw [this] at e1
      cases e1
      exact ⟨rfl, rfl⟩
    obtain ⟨rfl, rfl⟩ := el
    obtain ⟨W, w0, turn⟩ := k (JTwo c0 c1) B H fs (Fr.refl _ _ _) gd jok_two
    refine ⟨W, w0, fun i' m σ' H' w => ?_⟩
    rcases turn i' m σ' H' w with h | ⟨go, Nx, h1, h2⟩
    · exact Or.inl h
    · refine Or.inr ⟨go, Nx, h1, fun y H2 hy => ?_⟩
      have q := h2 y H2 hy
      obtain ⟨B, ρ, fs, d, ρ', g, hd, e, k⟩ := q
      unfold tgName at e
      split at e
      · rename_i hl
        cases e
        refine k _ _ (g.put hl (s := .p d) (T := []) ⟨hd, rfl⟩ (fun k h => nomatch h) fun a h => nomatch h) (fun a h => ?_) (fun j hj => by rw [List.getElem?_set_ne (fun e => hj (by simp [e]))]) (by simp)
        obtain ⟨j, hj⟩ := h
        dsimp only at hj
        by_cases z : j = i
        · rw [if_pos z] at hj; cases hj
        · rw [if_neg z] at hj; exact ⟨j, hj⟩
      · cases e
end
end Pd
set_option Elab.async false
set_option linter.all false
set_option maxRecDepth 100000
set_option maxHeartbeats 1000000
namespace Pd
open PySem PySem.Spec PyProof.Rows L2
def nbOk (h : Heap) : Bool := h.isNs cStatics && (h.nsMap cStatics sharingNotToldKey).isNone
theorem nb_of {h : Heap} (x : nbOk h = true) : NoneBooked h := by
  obtain ⟨x1, x2⟩ := Bool.and_eq_true_iff.mp x
  exact ⟨_, .of_isNs x1, Option.isNone_iff_eq_none.mp x2⟩
theorem NoneBooked.up {h h' : Heap} (x : NoneBooked h) (k : ∀ b o, h.get? b = some o → h'.get? b = some o) : NoneBooked h' := by
  obtain ⟨mc, h1, h2⟩ := x
  exact ⟨mc, h1.keeps k, h2⟩
def nbHook (K : Params → PySem.W.Frag) (as : List Addr) (e : ∀ P, as = (K P).map (·.1)) (_ : Unit) : PySem.W.Hook where
  α := List (Option Obj) × Bool
  obs := fun s => (as.map s.heap.get?, nbOk s.heap)
  val := fun w => ((K w.params).map fun p => some p.2, true)
  says := fun w h => PySem.W.InK K w h ∧ NoneBooked h
  of := fun w s x => ⟨PySem.W.InK.of e w s (Prod.mk.inj x).1, nb_of (Prod.mk.inj x).2⟩
  keeps := fun w h h' x k => ⟨PySem.W.InK.keeps w h h' x.1 k, NoneBooked.up x.2 k⟩
theorem lookup_cons_ne {K : PySem.W.Frag} {c b : Addr} {o : Obj} (h : b ≠ c) : ((c, o) :: K : PySem.W.Frag).lookup b = K.lookup b := by
  show (match b == c with | true => some o | false => List.lookup b K) = _
  rw [beq_eq_false_iff_ne.mpr h]
theorem law_callN {P : Program} {w : World} {K : PySem.W.Frag} {mg mb : Str → Option Value} {CX : CXT} {k : Nat} {fa a : Addr} {fd : FuncData} {x : Str} {sp : L2.Sp} {s1 : Shared} {vs : List Value} {ns : List Int}
    (KX : K.In s1.heap) (hns : s1.heap.Ns mainGlobals mg) (hb : s1.heap.Ns builtinsNs mb) (hbb : ∀ x : Str, x ≠ "__name__" → mb x = bootBuiltins x) (hlim : s1.heap.NoLimit) (hg : s1.gens = #[])
    (ha : s1.heap.get? a = some { cls := .type "list", data := .seq vs.toArray }) (hi : IntsAre vs ns) (hl : ns.length ≤ sizeLine) (hr : Room k callerA) (nb : NoneBooked s1.heap)
    (F : ∀ base : Heap, K.In base → base.Ns mainGlobals mg → NoneBooked base → FnOk P w K mg base CX k fa fd [x] sp) (hbind : ∀ (s : Shared) (u : Value), BindsTo s fd ⟨[u], []⟩ [(x, u)])
    (hsp : ∀ H : Hp, Only H → SqL K H a (ns.map V.int) → sp [.ref a] H (fun v _ => v = .bl true) fun _ _ _ => False)
    (hCX : ∀ H e s', CX [] H s1 (fun _ _ _ => False) e s' → False) :
    codeAny (model P w) callerA (.call (.ref fa) ⟨[.ref a], []⟩) (fun r s' => r = .ok (.ret (.bool true)) ∧ OldK s1.heap s'.heap ∧ s'.os = s1.os ∧ AllBare s'.gens) s1 := by
  obtain ⟨mc, ⟨o, es, ep, ho, hd, hk, hf⟩, hn⟩ := nb
  have at_ : ((cStatics, o) :: K : PySem.W.Frag).lookup cStatics = some o := by
    show (match cStatics == cStatics with | true => some o | false => List.lookup cStatics K) = _
    rw [beq_self_eq_true]
  have dn : ∀ {h : Heap}, PySem.W.Frag.In ((cStatics, o) :: K) h → K.In h := fun {h} X b ob e => by
    by_cases z : b = cStatics
    · subst z
      have e1 := KX _ _ e
      rw [ho] at e1
      cases e1
      exact X _ _ at_
    · exact X b ob ((lookup_cons_ne z).trans e)
  have booked : ∀ {h : Heap}, PySem.W.Frag.In ((cStatics, o) :: K) h → NoneBooked h := fun {h} X => ⟨mc, ⟨o, es, ep, X _ _ at_, hd, hk, hf⟩, hn⟩
  have KX' : PySem.W.Frag.In ((cStatics, o) :: K) s1.heap := fun b ob e => by
    by_cases z : b = cStatics
    · subst z
      rw [at_] at e
      cases e
      exact ho
    · exact KX b ob ((lookup_cons_ne z).symm.trans e)
  refine law_call (K := (cStatics, o) :: K) KX' hns hb hbb hlim hg ha hi hl hr (fun base X G => ?_) hbind (fun H hO hS => hsp H hO ?_) hCX
  · have Fn := F base (dn X) G (booked X)
    exact ⟨Fn.len, fun A outer s H args us vs Q E hr e0 hb r q => Fn.run A outer s H args us vs Q E hr ⟨e0.frames, ⟨dn e0.mod.kin, e0.mod.glob, e0.mod.blt, e0.mod.nolimit⟩, e0.bs, e0.bsz, e0.funs, e0.frf, e0.hok, e0.bare⟩ hb r q⟩
  · rcases hS with h | ⟨ob, its, n, h1, h2⟩
    · exact Or.inl h
    · by_cases z : a = cStatics
      · subst z
        rw [ha] at ho
        cases ho
        cases hd
      · exact Or.inr ⟨ob, its, n, (lookup_cons_ne z).symm.trans h1, h2⟩
theorem walk_ofN {l : PySem.W.OpenLaw} {n k : Nat} {q : Program} {loose : List Str} {XP : (Str → Option Value) → Heap → Prop} {YP : World → Heap → Prop} {d : DefRec} {K : Params → PySem.W.Frag} {CX : CXT} {sp : PySem.W.Frag → L2.Sp} {x : Str}
    (hn : l.most = some n) (hn2 : n ≤ sizeLine) (hdf : d.params.defaults = []) (hr : Room k callerA)
    (hY : ∀ (w : World) (h : Heap), YP w h → (K w.params).In h ∧ NoneBooked h)
    (F : ∀ (w : World) (mg : Str → Option Value) (fa : Addr) (h : Heap), (K w.params).In h → h.Ns mainGlobals mg → mg d.name = some (.ref fa) →
      ∃ fd : FuncData, (∀ (s : Shared) (u : Value), BindsTo s fd ⟨[u], []⟩ [(x, u)]) ∧
        ∀ base : Heap, (K w.params).In base → base.Ns mainGlobals mg → NoneBooked base → FnOk l.prog w (K w.params) mg base CX k fa fd [x] (sp (K w.params)))
    (hsp : ∀ (K : PySem.W.Frag) (H : Hp) (a : Addr) (ns : List Int), ns.length ≤ n → Only H → SqL K H a (ns.map V.int) → sp K [.ref a] H (fun v _ => v = .bl true) fun _ _ _ => False)
    (hCX : ∀ (H : Hp) (s : Shared) (e : Value) (s' : Shared), CX [] H s (fun _ _ _ => False) e s' → False) :
    PySem.W.WalkO q loose XP YP l.row.toRowW d [] (fun f vs => PySem.call f vs) := by
  refine Att.attach_call hn hdf fun w s0 s1 mg mb fa o pm cd doc a vs ns G Y ho hd hcd hmg hobj hints hlen hg => ?_
  obtain ⟨KX, nb⟩ := hY w _ Y
  obtain ⟨fd, hb, hF⟩ := F w mg fa _ KX G.T.g hmg
  exact law_callN KX G.T.g G.T.b G.T.builtins G.T.nolimit hg hobj hints (Nat.le_trans hlen hn2) hr nb hF hb (fun H hO hS => hsp _ H a ns hlen hO hS) fun H e s' => hCX H s1 e s'
end Pd
set_option Elab.async false
set_option linter.all false
set_option maxRecDepth 100000
set_option maxHeartbeats 1000000
namespace Pd
open PySem PySem.Spec PyProof.Rows L2
def loopEx (i e j : Nat) (body : M Fl) : List Nat → List Sl → Env → Option (Fl × List Sl × Env)
  | [], l, ρ => some (.nx, l, ρ)
  | k :: ks, l, ρ => match l[k]? with
    | some (.ex c f) => if i < ρ.length ∧ e < ρ.length ∧ i ≠ j ∧ e ≠ j then match gPart [] [j] l body ((ρ.set i (some (.p (.int (k : Nat))))).set e (some (.ex c f))) with
        | none => none
        | some (fl, l', ρ') => match fl with
          | .nx => loopEx i e j body ks l' ρ'
          | .ct => loopEx i e j body ks l' ρ'
          | .bk => none
          | .rt s => some (.rt s, [], ρ')
      else none
    | _ => none
def gForEx (i e j : Nat) (body : M Fl) : M Fl := fun ρ => match ρ[j]? with
  | some (some (.mr _ l)) => (loopEx i e j body (List.range l.length) l (ρ.set j none)).bind (giveJ j)
  | _ => none
section
variable {X : Cx} {vs0 : List V}
theorem ds_forEx {i e j : Nat} {xi xe xj : Str} {body : List Stmt} {g : M Fl} {kk : Nat} {p p1 p2 p3 tp pos pos' : Pos} (hp : PassesOwn (model X.prog X.w) X.A X.env X.xe) (hc : X.calm = true) (hg : Gl X "enumerate") (hm : X.mg "enumerate" = none) (hN : X.N.Nodup)
    (hi : X.N[i]? = some xi) (hxi : Loc X.env.scope xi) (he : X.N[e]? = some xe) (hxe : Loc X.env.scope xe) (hj : PE X (.Name xj p3) (tVar j)) (hb : ∀ vs1, PSs X body (rdS X.K vs1 g))
    (hs1 : starEach [.Name xj p3] X.env = [(false, eval (.Name xj p3) X.env)] := by rfl) (hs2 : starEach [.Name xj p3] X.env = (false, eval (.Name xj p3) X.env) :: starEach [] X.env := by rfl)
    (ha1 : (assignEach [.Name xi p1, .Name xe p2] X.env).map (·.2) = assign (.Name xi p1) X.env :: (assignEach [.Name xe p2] X.env).map (·.2) := by rfl) (ha2 : (assignEach [.Name xe p2] X.env).map (·.2) = assign (.Name xe p2) X.env :: (assignEach [] X.env).map (·.2) := by rfl)
    (hn : (assignEach [.Name xi p1, .Name xe p2] X.env).length = 2 := by rfl) (hst : (assignEach [.Name xi p1, .Name xe p2] X.env).findIdx? (·.1) = none := by rfl)
    (hfi : X.fn xi = true ∨ X.env.scope.names.lookup xi = some .local := by first | exact .inl rfl | exact .inr rfl | assumption) (hfe : X.fn xe = true ∨ X.env.scope.names.lookup xe = some .local := by first | exact .inl rfl | exact .inr rfl | assumption)
    (hs : ∀ x, foldedSetIterable (.Call (.Name "enumerate" p) [.Name xj p3] [] pos') X.env x = pure x := by intro _; rfl) :
    PS X (.For (.Tuple [.Name xi p1, .Name xe p2] kk tp) (.Call (.Name "enumerate" p) [.Name xj p3] [] pos') body [] pos) (rdS X.K vs0 (gForEx i e j g)) :=
  PS.imp (ps_for hp hc (pi_enum hg hm (pa_cons hj pa_nil hs2) hs1) (pg_tup (n := 2) hc (pgs_cons (pg_name hN hi hxi hfi) (pgs_cons (pg_name hN he hxe hfe) pgs_nil ha2) ha1) hn hst) (pss_any hb) hs) fun D σ H q => by
  obtain ⟨B, ρ, fs, gd, fl, ρ', e1, w⟩ := q
  have w : Want X.K vs0 D B H fs fl ρ' := w
  unfold gForEx at e1
  split at e1
  · rename_i t l hj0
    obtain ⟨⟨fl2, l2, ρ2⟩, ep, eg⟩ := Option.bind_eq_some_iff.mp e1
    obtain ⟨o, xs, Us, z1, hfs, h0⟩ := hand_of gd hj0
    have fr0 : Fr B H (InF fs) B H (UnF (InF fun i => if i = j then [] else fs i) (o :: Us.flatten)) := (Fr.refl B H (InF fs)).weak (fun _ h => h) fun a h => Or.inl (by
      rcases h with ⟨i, hi⟩ | h
      · try dsimp only at hi
        by_cases z : i = j
        · rw [if_pos z] at hi; cases hi
        · rw [if_neg z] at hi; exact ⟨i, hi⟩
      · exact ⟨j, by rw [hfs]; exact h⟩)
    have hlen : xs.length = l.length := ownL_len h0.ow
    refine ⟨_, z1, o, xs, rfl, Or.inl (Or.inl h0.hx), fun q m σ' H' => q ≤ l.length ∧ m = l.length - q ∧ ∃ B1 ρ1 fs1 l1 Us1, Hand X.K vs0 B1 H' σ' ρ1 fs1 o xs l1 Us1 ∧ Fr B H (InF fs) B1 H' (UnF (InF fs1) (o :: Us1.flatten)) ∧ σ'[j]? = σ[j]? ∧
      loopEx i e j g ((List.range l.length).drop q) l1 ρ1 = some (fl2, l2, ρ2), ⟨l.length, Nat.zero_le _, rfl, B, _, _, l, Us, h0, fr0, rfl, by simpa using ep⟩, ?_⟩
    rintro q m σ1 H1 ⟨hq, rfl, B1, ρ1, fs1, l1, Us1, h1, fr1, j1, e2⟩
    by_cases hlt : q < l.length
    · right
      have hlt2 : q < (List.range l.length).length := by rw [List.length_range]; exact hlt
      rw [List.drop_eq_getElem_cons hlt2, List.getElem_range] at e2
      unfold loopEx at e2
      split at e2
      · rename_i c f hq1
        split at e2
        · rename_i hcond
          obtain ⟨c1, c2, c3, c4⟩ := hcond
          obtain ⟨v, T, w1, w2, w3⟩ := h1.ow.get hq1
          refine ⟨⟨xs, v, Or.inl (Or.inl h1.hx), w1⟩, fun σ' H' => (q + 1 ≤ l.length ∧ ∃ B1 ρ1 fs1 l1 Us1, Hand X.K vs0 B1 H' σ' ρ1 fs1 o xs l1 Us1 ∧ Fr B H (InF fs) B1 H' (UnF (InF fs1) (o :: Us1.flatten)) ∧ σ'[j]? = σ[j]? ∧
            loopEx i e j g ((List.range l.length).drop (q + 1)) l1 ρ1 = some (fl2, l2, ρ2)), fun σ' H' n => ⟨l.length - (q + 1), by omega, n.1, rfl, n.2⟩, ?_⟩
          rintro x H3 ⟨T3, y, rfl, hT3, rfl, hy⟩
          have hy := hy xs (Or.inl (Or.inl h1.hx))
          rw [w1] at hy
          cases hy
          have frn := Fr.new (B := B1) (o := HO.tup [.int (q : Nat), v]) hT3 h1.good.ext
          have hw3 : Own X.K B1 H1 v (.ex c f) [] := ⟨w3.1, rfl⟩
          have g3 := h1.good.grow frn (fun _ _ z => z) (same_upd h1.good.ext)
          have own3 : Own X.K (upd B1 T3 (.tup [.int (q : Nat), v])) (upd H1 T3 (.tup [.int (q : Nat), v])) v (.ex c f) [] := ⟨w3.1.mono frn.bb, rfl⟩
          have g4 := g3.put (i := i) (v := V.int (q : Nat)) (s := .p (.int (q : Nat))) (T := []) c1 ⟨.int _, rfl⟩ (fun k h => nomatch h) (fun a ha => nomatch ha)
          have g5 := g4.put (i := e) (v := v) (s := .ex c f) (T := []) (by rw [List.length_set]; exact c2) own3 (fun k h => nomatch h) (fun a ha => nomatch ha)
          have sub : ∀ a, InF (fun j' => if j' = e then [] else if j' = i then [] else fs1 j') a → InF fs1 a := fun a ha => by
            obtain ⟨j', hj'⟩ := ha
            try dsimp only at hj'
            split at hj'
            · cases hj'
            · split at hj'
              · cases hj'
              · exact ⟨j', hj'⟩
          have lv := h1.live
          have kp : ∀ a ∈ o :: Us1.flatten, (upd H1 T3 (.tup [.int (q : Nat), v])) a = H1 a := fun a ha => upd_ne (fun z => lv a ha (by rw [z]; exact hT3))
          have kb : ∀ a ∈ o :: Us1.flatten, (upd B1 T3 (.tup [.int (q : Nat), v])) a = none := fun a ha => by
            rw [upd_ne (fun z => lv a ha (by rw [z]; exact hT3))]
            exact (h1.off a ha).1
          split at e2
          · cases e2
          · rename_i fl3 l3 ρ3 e3
            refine ⟨T3, [.int (q : Nat), v], rfl, Or.inl (Or.inl upd_same), rfl, _, _, rfl, _, _, rfl, rfl, ?_⟩
            have frA : ∀ {B' H' : Hp} {F' : Addr → Prop}, Fr (upd B1 T3 (.tup [.int (q : Nat), v])) (upd H1 T3 (.tup [.int (q : Nat), v])) (UnF (InF fun j' => if j' = e then [] else if j' = i then [] else fs1 j') (o :: Us1.flatten)) B' H' F' → Fr B H (InF fs) B' H' F' := fun {B' H' F'} fr =>
              (fr1.trans (frn.weak (fun _ z => z.elim) fun a ha => Or.inr (Or.inl ha))).trans (fr.weak (fun a ha => by
                rcases ha with ha | ha
                · exact Or.inl (sub a ha)
                · exact Or.inr ha) fun a ha => Or.inl ha)
            refine part_ok (D := { D with nx := _, ct := _, bk := D.nx }) g5 (by rw [kp o (by simp)]; exact h1.hx) (OwnL.keepA frn.bb h1.ow fun a ha => kp a (List.mem_cons_of_mem _ ha)) h1.nd (fun a ha => ⟨kb a ha, fun j' hj' => ?_⟩) (fun i' k' h => by cases h) (fun j' hj' => ?_) e3 ⟨?_, ?_⟩
            · obtain ⟨j2, hj2⟩ := sub a ⟨j', hj'⟩
              exact (h1.off a ha).2 j2 hj2
            · rw [List.mem_singleton] at hj'
              subst hj'
              exact ⟨.ref o, by rw [List.getElem?_set_ne c4, List.getElem?_set_ne c3, j1]; exact z1⟩
            · intro s hs v' σ' B' H' fs' T' fr g' ok
              subst hs
              cases e2
              cases eg
              exact w v' σ' B' H' fs' T' (frA fr) g' ok
            · intro hn2 σ' B' H' fs' U' fr g' ow' nd' off' hx' js' _
              have jj : σ'[j]? = σ[j]? := by
                rw [js' j (by simp), List.getElem?_set_ne c4, List.getElem?_set_ne c3]
                exact j1
              have hand' : Hand X.K vs0 B' H' σ' ρ3 fs' o xs l3 U' := ⟨g', hx', ow', nd', off'⟩
              cases fl3 with
              | rt s => exact absurd rfl (hn2 s)
              | bk => cases e2
              | nx => exact ⟨hlt, B', ρ3, fs', l3, U', hand', frA fr, jj, e2⟩
              | ct => exact ⟨hlt, B', ρ3, fs', l3, U', hand', frA fr, jj, e2⟩
        · cases e2
      · cases e2
    · left
      refine ⟨⟨xs, Or.inl (Or.inl h1.hx), by rw [hlen]; omega⟩, ?_⟩
      rw [List.drop_eq_nil_of_le (by rw [List.length_range]; omega)] at e2
      cases e2
      unfold giveJ at eg
      dsimp only at eg
      split at eg
      · rename_i hjl
        cases eg
        obtain ⟨fsz, gz, sz⟩ := h1.give hjl (by rw [j1]; exact z1)
        exact w σ1 B1 H1 fsz (fr1.weak (fun _ h => h) fun a h => Or.inl (sz a h)) gz
      · cases eg
  · cases e1
end
def eExAt (j : Nat) (k : Int) (f : Str) (cs : List Str) : M Rs := fun ρ => match ρ[j]? with
  | some (some (.mr _ l)) => match atI l k with
    | some (.ex c (some (x, d))) => if c ∈ cs ∧ x = f then some (.ok (.own (.p d)) ρ) else none
    | _ => none
  | _ => none
theorem ownL_at {K : PySem.W.Frag} {B H : Hp} {vs : List V} {ss : List Sl} {Ts : List (List Addr)} {k : Int} {s : Sl} (h : OwnL K B H vs ss Ts) (e : atI ss k = some s) : ∃ v T, atI vs k = some v ∧ Own K B H v s T := by
  unfold atI at e ⊢
  rw [ownL_len h]
  cases q : ixN ss.length k with
  | none => rw [q] at e; cases e
  | some n =>
    rw [q] at e
    obtain ⟨v, T, h1, _, h3⟩ := h.get e
    exact ⟨v, T, h1, h3⟩
theorem de_exAt {X : Cx} {vs0 : List V} {j : Nat} {k : Int} {f : Str} {cs : List Str} {a b : Expr} {p pos : Pos} (T : AtX X.K f cs) (ha : PE X a (tVar j)) (hb : PE X b (tC (.int k))) (hs : PlainIx b) (hbase : attributeBase (.Subscript a b p) f X.env (eval (.Subscript a b p) X.env) = eval (.Subscript a b p) X.env := by rfl) :
    PE X (.Attribute (.Subscript a b p) f pos) (rdE X.K vs0 (eExAt j k f cs)) :=
  PE.imp (pe_xat (pe_ix ix_seq ha hb hs) hbase) fun σ H Q q => by
    obtain ⟨B, ρ, fs, g, r, ρ', e, w⟩ := q
    unfold eExAt at e
    split at e
    · rename_i t l hj
      split at e
      · rename_i c x d hk
        split at e
        · rename_i hm
          cases e
          obtain ⟨hc, rfl⟩ := hm
          obtain ⟨v0, z1, ⟨o, xs, Us, rfl, hfs, hx, ow, nd⟩, _⟩ := g.at_ j _ hj
          obtain ⟨v, T', h1, h2⟩ := ownL_at ow hk
          refine ⟨_, z1, Or.inl ⟨o, xs, k, v, rfl, rfl, Or.inl (Or.inl hx), h1, ?_⟩⟩
          rcases h2.1 with ⟨_, a', C, dx, u, q1, q2, q3, q4, q5⟩ | ⟨z, _⟩
          · obtain ⟨t1, t2⟩ := T.at_ c hc C q2
            exact ⟨a', C, dx, _, u, q1, g.ext _ _ q3, t1, t2, g.ext _ _ q4, by simp [List.lookup], w u B H fs [] fr_unr g ⟨⟨q5, rfl⟩, rfl, fun a ha => nomatch ha⟩⟩
          · exact (T.nt (z ▸ hc)).elim
        · cases e
      · cases e
    · cases e
end Pd
set_option Elab.async false
set_option linter.all false
set_option maxRecDepth 100000
set_option maxHeartbeats 1000000
namespace Pd
open PySem PySem.Spec PyProof.Rows L2
section
variable {X : Cx} {vs0 : List V}
theorem dst_for {tg iter : Expr} {body : List Stmt} {src : M (List D)} {is : List Nat} {t : D → Env → Option Env} {g : M Fl} {pos : Pos} (hp : PassesOwn (model X.prog X.w) X.A X.env X.xe) (hc : X.calm = true) (hi : PIT X tg iter (rdI X.K vs0 src)) (hg : PG X tg (rdG X.K vs0 is t)) (hb : PSs X body (rdS X.K vs0 g))
    (hs : ∀ x, foldedSetIterable iter X.env x = pure x := by intro _; rfl) : PST X (.For tg iter body [] pos) (rdS X.K vs0 (gFor src t g)) := PST.imp (pst_for hp hc hi hg hb hs) fun D σ H q => rd_for q
theorem dssn_sign {n i : Nat} {x c : Str} {ie : Expr} {f : M Rs} {j : Nat} {p0 p1 p2 p3 q0 q1 : Pos} (hN : X.N.Nodup) (hi : X.N[i]? = some x) (hx : X.env.scope.names.lookup x = some .local) (hb : PE X ie (rdE X.K vs0 f)) (hpl : PlainIx ie)
    (hs : swapsWith (.Constant (.str c) j q0) (some (.Name x p0)) p1.line X.env = pure false := by rfl) (hd : (x == ("__debug__" : Str)) = false := by decide) (hcd : (x == ("__classdict__" : Str)) = false := by decide) :
    PSsN X n [.Assign [.Name x p0] (.Constant (.str c) j q0) p1, .Return (some (.Subscript (.Name x p2) ie q1)) p3] (rdS X.K vs0 (gSeq (gSet i (eC (.str c))) (gRet (eBin (eName i) f oIxS)))) :=
  fun pins s σ H D hn I q => pssn_sign (i := i) (ti := rdE X.K vs0 f) hN hi hx hb hpl hs hd hcd pins s σ H D hn I (by
    have q1 := rdE_c (v := V.str c) (rd_set (rdS_seq q)) fun _ => .str c
    exact rd_var (rd_bin oIxS_ok (rd_ret q1)))
end
end Pd
set_option Elab.async false
set_option linter.all false
set_option maxRecDepth 100000
set_option maxHeartbeats 4000000
namespace My
open PySem PySem.Spec PyProof.Rows L2 Pd
def top (i : Nat) : Stmt := PySem.Challenge.pw_belowpoints_k02_no_points.main.body.getD i (.Pass ⟨0, 0, 0, 0⟩)
noncomputable def g_law_deck : M Fl := (gRet (M.bind (aCons (eSl (eName 0) mNo (mInt (eC (.int 63))) oSl) (aCons (eC (.int 0)) (aCons (eC (.int 0)) (aCons (eC (.int 0)) (aCons (M.bind (aCons (eSl (eName 0) mNo (mInt (eC (.int 63))) oSl) aNil) oSum) aNil))))) oLst))
noncomputable def m_law_deck : List Sl → Option (Sl × List Sl) := mkF 0 g_law_deck
noncomputable def g_law_mix : M Fl := (gSeq (gSet 2 (eBin (eBin (eName 0) (eC (.int 2147483629)) oMod) (eBin (eBin (eC (.int 1000003)) (eName 1) oMul2) (eName 1) oMul2) oAdd))
    (gSeq (gSet 2 (eBin (eBin (eName 2) (eBin (eC (.int 7919)) (eName 1) oMul2) oAdd) (eC (.int 2147483629)) oMod))
    (gSeq (gSet 2 (eBin (eBin (eName 2) (eName 2) oMul2) (eC (.int 2147483587)) oMod))
    (gRet (eBin (eBin (eBin (eName 2) (eBin (eName 2) (eC (.int 40961)) oAdd) oMul2) (eC (.int 2147483563)) oMod) (eC (.int 4)) oDiv)))))
noncomputable def m_law_mix : List Sl → Option (Sl × List Sl) := mkF 1 g_law_mix
noncomputable def g_law_next : M Fl := (gSeq (gIf (tAnd' (mTest (eBin (eBin (eName 0) (eC (.int 2)) oIx) (eC (.int 0)) oEq)) (mTest (eBin (eBin (eName 0) (eC (.int 1)) oIx) (M.bind (aCons (eBin (eName 0) (eC (.int 0)) oIx) aNil) oLen) oLt)))
    (gSeq (gSet 2 (eBin (eBin (eName 0) (eC (.int 0)) oIx) (eBin (eName 0) (eC (.int 1)) oIx) oIx))
    (gSeq (gSub (eBin (eBin (eName 0) (eC (.int 1)) oIx) (eC (.int 1)) oAdd) (eName 0) (eC (.int 1)))
    (gSeq (gIf (mTest (eBin (eName 2) (eC (.int 1000000000000000000)) oLt))
    (gRet (eBin (M.bind (aCons (eFz (eName 2)) (aCons (eBin (eName 0) (eC (.int 1)) oIx) aNil)) (opCall 2 m_law_mix)) (eName 1) oMod))
    gNext)
    (gSub (eName 2) (eName 0) (eC (.int 2))))))
    gNext)
    (gSeq (gIf (mTest (eBin (eBin (eName 0) (eC (.int 2)) oIx) (eC (.int 0)) oGt))
    (gSeq (gSet 3 (eBin (eBin (eName 0) (eC (.int 2)) oIx) (eName 1) oMod))
    (gSeq (gSub (eBin (eBin (eName 0) (eC (.int 2)) oIx) (eName 1) oDiv) (eName 0) (eC (.int 2)))
    (gRet (eName 3))))
    gNext)
    (gSeq (gSub (eBin (eBin (eName 0) (eC (.int 3)) oIx) (eC (.int 1)) oAdd) (eName 0) (eC (.int 3)))
    (gRet (eBin (M.bind (aCons (eBin (eName 0) (eC (.int 4)) oIx) (aCons (eFz (eBin (eBin (eName 0) (eC (.int 3)) oIx) (eC (.int 683)) oAdd)) aNil)) (opCall 2 m_law_mix)) (eName 1) oMod)))))
noncomputable def m_law_next : List Sl → Option (Sl × List Sl) := mkF 2 g_law_next
noncomputable def g_law_number : M Fl := (gSeq (gIf (mTest (eBin (eName 1) (eC (.int 2)) oEq))
    (gSeq (gSet 2 (eBin (eBin (M.bind (aCons (eName 0) (aCons (eFz (eC (.int 200000))) aNil)) (opCall 2 m_law_next)) (eC (.int 100000)) oMul2) (M.bind (aCons (eName 0) (aCons (eFz (eC (.int 100000))) aNil)) (opCall 2 m_law_next)) oAdd))
    (gSeq (gSet 2 (eBin (eBin (eBin (eName 2) (eC (.int 19999999999)) oMod) (eC (.int 10000000000)) oSub) (eC (.int 1)) oAdd))
    (gRet (eBin (M.bind (aCons (eName 2) (aCons (eC (.int 9999999999)) (aCons (eC (.int (-9999999999))) aNil))) oLst) (M.bind (aCons (eC (.int 0)) (aCons (eBin (M.bind (aCons (eName 0) (aCons (eC (.int 9)) aNil)) (opCall 2 m_law_next)) (eC (.int 6)) oSub) aNil)) oMax) oIx))))
    gNext)
    (gRet (eBin (M.bind (aCons (eName 0) (aCons (eBin (M.bind (aCons (eC (.int 4)) (aCons (eC (.int 99)) aNil)) oLst) (eName 1) oIx) aNil)) (opCall 2 m_law_next)) (eBin (M.bind (aCons (eC (.int 1)) (aCons (eC (.int 50)) aNil)) oLst) (eName 1) oIx) oSub)))
noncomputable def m_law_number : List Sl → Option (Sl × List Sl) := mkF 1 g_law_number
noncomputable def g_law_places : M Fl := (gSeq (gSet 2 (eBin (M.bind (aCons (M.bind (aCons (eName 0) (aCons (eFz (eBin (eName 1) (eC (.int 1)) oAdd)) aNil)) (opCall 2 m_law_next)) (aCons (M.bind (aCons (eName 0) (aCons (eC (.int 7)) aNil)) (opCall 2 m_law_next)) (aCons (eName 1) aNil))) oLst) (M.bind (aCons (eName 0) (aCons (eC (.int 3)) aNil)) (opCall 2 m_law_next)) oIx))
    (gSeq (gSet 3 (M.bind (aCons (eName 0) (aCons (eC (.int 3)) aNil)) (opCall 2 m_law_next)))
    (gSeq (gSet 4 (M.bind (aCons (eName 0) (aCons (eC (.int 6)) aNil)) (opCall 2 m_law_next)))
    (gSeq (gSet 5 (eLc (mRng1 (aCons (eC (.int 2)) aNil)) [7] (tgName 7) tYes' (M.bind (aCons (M.bind (aCons (eName 0) (aCons (eFz (eName 3)) aNil)) (opCall 2 m_law_number)) (aCons (M.bind (aCons (eName 0) (aCons (eFz (eName 3)) aNil)) (opCall 2 m_law_number)) aNil)) oTup)))
    (gSeq (gSet 6 (M.bind aNil oLst))
    (gSeq (gFor (mRng1 (aCons (eName 2) aNil)) (tgName 7)
    (gSeq (gSet 8 (M.bind (aCons (M.bind (aCons (eName 0) (aCons (eFz (eName 3)) aNil)) (opCall 2 m_law_number)) (aCons (M.bind (aCons (eName 0) (aCons (eFz (eName 3)) aNil)) (opCall 2 m_law_number)) aNil)) oTup))
    (gSeq (gIf (mTest (eBin (eName 4) (eC (.int 1)) oEq))
    (gSet 8 (M.bind (aCons (eBin (eName 7) (eC (.int 2)) oDiv) (aCons (eBin (eName 7) (eBin (eName 7) (eC (.int 3)) oDiv) oSub) aNil)) oTup))
    gNext)
    (gSeq (gIf (mTest (eBin (eName 4) (eC (.int 2)) oEq))
    (gSet 8 (M.bind (aCons (eBin (eName 7) (eC (.int 2)) oDiv) (aCons (eBin (eC (.int 0)) (eName 7) oSub) aNil)) oTup))
    gNext)
    (gSeq (gIf (mTest (eBin (eName 4) (eC (.int 3)) oEq))
    (gSet 8 (M.bind (aCons (eBin (eName 8) (eC (.int 0)) oIx) (aCons (eBin (eBin (eName 5) (eC (.int 0)) oIx) (eC (.int 1)) oIx) aNil)) oTup))
    gNext)
    (gSeq (gIf (mTest (eBin (eName 4) (eC (.int 4)) oEq))
    (gSet 8 (eBin (eName 5) (M.bind (aCons (eName 0) (aCons (eC (.int 2)) aNil)) (opCall 2 m_law_next)) oIx))
    gNext)
    (gSeq (gIf (tAnd' (mTest (eBin (M.bind (aCons (eName 0) (aCons (eC (.int 6)) aNil)) (opCall 2 m_law_next)) (eC (.int 0)) oEq)) (mTest (eBin (eName 6) (M.bind aNil oLst) oNe)))
    (gSet 8 (eBin (eName 6) (M.bind (aCons (eName 0) (aCons (eFz (M.bind (aCons (eName 6) aNil) oLen)) aNil)) (opCall 2 m_law_next)) oIx))
    gNext)
    (gExpr (eMeth "list" (eName 6) (aCons (eName 8) aNil) o_append1)))))))))
    (gRet (eName 6))))))))
noncomputable def m_law_places : List Sl → Option (Sl × List Sl) := mkF 7 g_law_places
noncomputable def g_law_names : M Fl := (gSeq (gSet 2 (eC (.str "abcdefghijklmnopqrstuvwxyz")))
    (gSeq (gSet 3 (eBin (eName 2) (M.bind (aCons (eName 0) (aCons (eC (.int 26)) aNil)) (opCall 2 m_law_next)) oIx))
    (gSeq (gSet 4 (M.bind (aCons (eName 0) (aCons (eC (.int 600)) aNil)) (opCall 2 m_law_next)))
    (gSeq (gSet 5 (M.bind (aCons (eName 0) (aCons (eC (.int 4)) aNil)) (opCall 2 m_law_next)))
    (gSeq (gSet 6 (M.bind aNil oLst))
    (gSeq (gFor (mRng1 (aCons (eName 1) aNil)) (tgName 7)
    (gSeq (gSet 8 (eBin (eName 4) (eBin (eC (.int 7)) (eName 7) oMul2) oAdd))
    (gSeq (gSet 9 (eBin (eBin (eName 2) (eBin (eName 8) (eC (.int 26)) oMod) oIx) (eBin (eName 2) (eBin (eBin (eName 8) (eC (.int 26)) oDiv) (eC (.int 26)) oMod) oIx) oAdd))
    (gSeq (gSet 9 (eBin (eName 9) (eBin (eName 2) (eBin (eName 8) (eC (.int 676)) oDiv) oIx) oAdd))
    (gSeq (gIf (mTest (eBin (eName 5) (eC (.int 1)) oEq))
    (gSet 9 (eBin (eBin (eName 3) (eBin (eName 7) (eC (.int 6)) oMod) oMul2) (eName 9) oAdd))
    gNext)
    (gSeq (gIf (mTest (eBin (eName 5) (eC (.int 2)) oEq))
    (gSet 9 (eBin (eName 9) (eBin (eName 3) (eBin (eName 7) (eC (.int 6)) oMod) oMul2) oAdd))
    gNext)
    (gSeq (gIf (mTest (eBin (eName 5) (eC (.int 3)) oEq))
    (gSet 9 (eBin (M.bind (aCons (eBin (eName 2) (eBin (eName 7) (eC (.int 26)) oMod) oIx) (aCons (eBin (eBin (eName 2) (eBin (eName 7) (eC (.int 26)) oMod) oIx) (eC (.str "x")) oAdd) (aCons (eBin (eBin (eName 2) (eBin (eName 7) (eC (.int 26)) oMod) oIx) (eC (.str "xy")) oAdd) aNil))) oLst) (eBin (eName 7) (eC (.int 26)) oDiv) oIx))
    gNext)
    (gExpr (eMeth "list" (eName 6) (aCons (eName 9) aNil) o_append1)))))))))
    (gSeq (gSet 10 (M.bind (aCons (eName 6) aNil) oListOf))
    (gSeq (gSet 11 (eLc (mRng1 (aCons (eName 1) aNil)) [7] (tgName 7) tYes' (eMeth "list" (eName 10) (aCons (M.bind (aCons (eName 0) (aCons (eFz (M.bind (aCons (eName 10) aNil) oLen)) aNil)) (opCall 2 m_law_next)) aNil) o_pop1)))
    (gRet (eLc (mEnumA (aCons (eName 11) aNil)) [7, 12] (tgTup 2 (tgCons (tgName 7) (tgCons (tgName 12) tgNil))) (mTest (eBin (eName 12) (eSl (eName 11) mNo (mInt (eName 7)) oSl) oNi)) (eName 12)))))))))))
noncomputable def m_law_names : List Sl → Option (Sl × List Sl) := mkF 11 g_law_names
noncomputable def g_law_points : M Fl := (gSeq (gSet 2 (M.bind (aCons (eName 0) (aCons (eName 1) aNil)) (opCall 2 m_law_places)))
    (gSeq (gIf (mTest (eBin (M.bind (aCons (eName 0) (aCons (eC (.int 2)) aNil)) (opCall 2 m_law_next)) (eC (.int 0)) oEq))
    (gSet 2 (eLc (mRng1 (aCons (M.bind (aCons (eName 2) aNil) oLen) aNil)) [4] (tgName 4) tYes' (eMeth "list" (eName 2) (aCons (M.bind (aCons (eName 0) (aCons (eFz (M.bind (aCons (eName 2) aNil) oLen)) aNil)) (opCall 2 m_law_next)) aNil) o_pop1)))
    gNext)
    (gSeq (gSet 3 (M.bind (aCons (eName 0) (aCons (eFz (M.bind (aCons (eName 2) aNil) oLen)) aNil)) (opCall 2 m_law_names)))
    (gRet (M.bind (aCons (eLc (mZipA (aCons (eName 3) (aCons (eName 2) aNil))) [5, 6] (tgTup 2 (tgCons (tgName 5) (tgCons (tgName 6) tgNil))) tYes' (M.bind (aCons (eName 5) (aCons (eBin (eName 6) (eC (.int 0)) oIx) (aCons (eBin (eName 6) (eC (.int 1)) oIx) aNil))) oTup)) aNil) oTupOf)))))
noncomputable def m_law_points : List Sl → Option (Sl × List Sl) := mkF 5 g_law_points
noncomputable def g_law_figures : M Fl := (gSeq (gSet 1 (eBin (M.bind (aCons (eC (.str "")) (aCons (eC (.str "-")) aNil)) oLst) (M.bind (aCons (eBin (eName 0) (eC (.int 0)) oLt) aNil) oInt1) oIx))
    (gSeq (gSet 0 (M.bind (aCons (eName 0) aNil) oAbs))
    (gSeq (gSet 2 (eBin (eC (.str "0123456789")) (eBin (eName 0) (eC (.int 10)) oMod) oIx))
    (gSeq (gFor (mRng1 (aCons (eC (.int 30)) aNil)) (tgName 3)
    (gIf (mTest (eBin (eName 0) (eC (.int 9)) oGt))
    (gSeq (gSet 0 (eBin (eName 0) (eC (.int 10)) oDiv))
    (gSet 2 (eBin (eBin (eC (.str "0123456789")) (eBin (eName 0) (eC (.int 10)) oMod) oIx) (eName 2) oAdd)))
    gNext))
    (gRet (eBin (eName 1) (eName 2) oAdd))))))
noncomputable def m_law_figures : List Sl → Option (Sl × List Sl) := mkF 3 g_law_figures
noncomputable def g_law_text : M Fl := (gRet (eMeth "str" (eC (.str "\n")) (aCons (eLc (mSeq (eName 0)) [1, 2, 3] (tgTup 3 (tgCons (tgName 1) (tgCons (tgName 2) (tgCons (tgName 3) tgNil)))) tYes' (eBin (eBin (eBin (eBin (eName 1) (eC (.str " ")) oAdd) (M.bind (aCons (eFz (eName 2)) aNil) (opCall 1 m_law_figures)) oAdd) (eC (.str " ")) oAdd) (M.bind (aCons (eFz (eName 3)) aNil) (opCall 1 m_law_figures)) oAdd)) aNil) o_join1))
noncomputable def m_law_text : List Sl → Option (Sl × List Sl) := mkF 3 g_law_text
noncomputable def g_law_sign : M Fl := (gSeq (gSet 1 (eC (.str " !\"#$&'()*+,-./0123456789:;<=>?@ABCDEFGHIJKLMNOPQRSTUVWXYZ[\\]^_`abcdefghijklmnopqrstuvwxyz{|}~\n")))
    (gRet (eBin (eName 1) (M.bind (aCons (eName 0) (aCons (eFz (M.bind (aCons (eName 1) aNil) oLen)) aNil)) (opCall 2 m_law_next)) oIxS)))
noncomputable def m_law_sign : List Sl → Option (Sl × List Sl) := mkF 1 g_law_sign
noncomputable def g_law_spoilt_line : M Fl := (gSeq (gSet 3 (eMeth "str" (eName 1) (aCons (eC (.str " ")) aNil) o_split1))
    (gSeq (gSet 4 (M.bind (aCons (eName 0) (aCons (eFz (M.bind (aCons (eName 3) aNil) oLen)) aNil)) (opCall 2 m_law_next)))
    (gSeq (gSet 5 (M.bind (aCons (eName 0) (aCons (eFz (M.bind (aCons (eName 3) aNil) oLen)) aNil)) (opCall 2 m_law_next)))
    (gSeq (gSet 6 (eBin (eName 2) (M.bind (aCons (eC (.str "a")) (aCons (eC (.str "abcdefgh")) (aCons (eC (.str "abcdefghi")) (aCons (eC (.str "A")) (aCons (eC (.str "a1")) (aCons (eC (.str "")) (aCons (eC (.str "0")) (aCons (eC (.str "-0")) (aCons (eC (.str "00")) (aCons (eC (.str "07")) (aCons (eC (.str "-07")) (aCons (eC (.str "-1")) (aCons (eC (.str "+1")) (aCons (eC (.str "--1")) aNil)))))))))))))) oLst) oAdd))
    (gSeq (gSet 6 (eBin (eName 6) (M.bind (aCons (eC (.str "1.0")) (aCons (eC (.str "1_0")) (aCons (eC (.str "12")) (aCons (eC (.str "0x1")) (aCons (eC (.str "-")) (aCons (eC (.str "- 1")) aNil)))))) oLst) oAdd))
    (gSeq (gSet 7 (M.bind (aCons (eName 0) (aCons (eC (.int 7)) aNil)) (opCall 2 m_law_next)))
    (gSeq (gIf (mTest (eBin (eName 7) (eC (.int 0)) oEq))
    (gExpr (eMeth "list" (eName 3) (aCons (eName 4) aNil) o_pop1))
    (gIf (mTest (eBin (eName 7) (eC (.int 1)) oEq))
    (gExpr (eMeth "list" (eName 3) (aCons (eName 5) (aCons (eBin (eName 3) (eName 4) oIx) aNil)) o_insert2))
    (gIf (mTest (eBin (eName 7) (eC (.int 2)) oEq))
    (gSwap (M.bind (aCons (eBin (eName 3) (eName 5) oIx) (aCons (eBin (eName 3) (eName 4) oIx) aNil)) oTup) (eName 3) (eName 4) (eName 3) (eName 5))
    (gIf (mTest (eBin (eName 7) (eC (.int 3)) oEq))
    (gSub (eBin (eName 6) (M.bind (aCons (eName 0) (aCons (eFz (M.bind (aCons (eName 6) aNil) oLen)) aNil)) (opCall 2 m_law_next)) oIx) (eName 3) (eName 4))
    (gIf (mTest (eBin (eName 7) (eC (.int 4)) oEq))
    (gExpr (eMeth "list" (eName 3) (aCons (eName 4) (aCons (eBin (eName 6) (M.bind (aCons (eName 0) (aCons (eFz (M.bind (aCons (eName 6) aNil) oLen)) aNil)) (opCall 2 m_law_next)) oIx) aNil)) o_insert2))
    gNext)))))
    (gSeq (gSet 8 (eMeth "str" (eC (.str " ")) (aCons (eName 3) aNil) o_join1))
    (gSeq (gSet 9 (M.bind (aCons (eName 0) (aCons (eFz (eBin (M.bind (aCons (eName 8) aNil) oLen) (eC (.int 1)) oAdd)) aNil)) (opCall 2 m_law_next)))
    (gSeq (gIf (mTest (eBin (eName 7) (eC (.int 5)) oEq))
    (gRet (eBin (eBin (eSl (eName 8) mNo (mInt (eName 9)) oSl) (eBin (M.bind (aCons (eBin (eC (.str " 0-a\n")) (M.bind (aCons (eName 0) (aCons (eC (.int 5)) aNil)) (opCall 2 m_law_next)) oIx) (aCons (M.bind (aCons (eName 0) aNil) (opCall 1 m_law_sign)) aNil)) oLst) (M.bind (aCons (eName 0) (aCons (eC (.int 2)) aNil)) (opCall 2 m_law_next)) oIx) oAdd) (eSl (eName 8) (mInt (eName 9)) mNo oSl) oAdd))
    gNext)
    (gSeq (gIf (mTest (eBin (eName 7) (eC (.int 6)) oEq))
    (gRet (eBin (eSl (eName 8) mNo (mInt (eName 9)) oSl) (eSl (eName 8) (mInt (eBin (eName 9) (eC (.int 1)) oAdd)) mNo oSl) oAdd))
    gNext)
    (gRet (eName 8)))))))))))))
noncomputable def m_law_spoilt_line : List Sl → Option (Sl × List Sl) := mkF 7 g_law_spoilt_line
noncomputable def g_law_spoilt : M Fl := (gSeq (gSet 2 (eMeth "str" (M.bind (aCons (eName 1) aNil) (opCall 1 m_law_text)) (aCons (eC (.str "\n")) aNil) o_split1))
    (gSeq (gFor (mRng1 (aCons (eBin (eC (.int 1)) (M.bind (aCons (eName 0) (aCons (eC (.int 3)) aNil)) (opCall 2 m_law_next)) oAdd) aNil)) (tgName 3)
    (gSeq (gSet 4 (M.bind (aCons (eName 0) (aCons (eFz (M.bind (aCons (eName 2) aNil) oLen)) aNil)) (opCall 2 m_law_next)))
    (gSeq (gSet 5 (M.bind (aCons (eName 0) (aCons (eC (.int 8)) aNil)) (opCall 2 m_law_next)))
    (gIf (tAnd' (mTest (eBin (eName 5) (eC (.int 0)) oEq)) (mTest (eBin (M.bind (aCons (eName 2) aNil) oLen) (eC (.int 1)) oGt)))
    (gExpr (eMeth "list" (eName 2) (aCons (eName 4) aNil) o_pop1))
    (gIf (mTest (eBin (eName 5) (eC (.int 1)) oEq))
    (gExpr (eMeth "list" (eName 2) (aCons (M.bind (aCons (eName 0) (aCons (eFz (eBin (M.bind (aCons (eName 2) aNil) oLen) (eC (.int 1)) oAdd)) aNil)) (opCall 2 m_law_next)) (aCons (eBin (eName 2) (eName 4) oIx) aNil)) o_insert2))
    (gIf (mTest (eBin (eName 5) (eC (.int 2)) oEq))
    (gSub (eBin (M.bind (aCons (eC (.str "")) (aCons (eC (.str " ")) (aCons (eC (.str "a 1")) (aCons (eC (.str "a 1 1")) aNil)))) oLst) (M.bind (aCons (eName 0) (aCons (eC (.int 4)) aNil)) (opCall 2 m_law_next)) oIx) (eName 2) (eName 4))
    (gSub (M.bind (aCons (eName 0) (aCons (eBin (eName 2) (eName 4) oIx) (aCons (eFz (eLc (mSeq (eName 1)) [6] (tgName 6) tYes' (eBin (eName 6) (eC (.int 0)) oIx))) aNil))) (opCall 3 m_law_spoilt_line)) (eName 2) (eName 4))))))))
    (gRet (eMeth "str" (eC (.str "\n")) (aCons (eName 2) aNil) o_join1))))
noncomputable def m_law_spoilt : List Sl → Option (Sl × List Sl) := mkF 5 g_law_spoilt
noncomputable def g_law_number_of : M Fl := (gSeq (gSet 1 (eC (.int 0)))
    (gSeq (gSet 2 (eBin (M.bind (aCons (eC (.int 1)) (aCons (eC (.int (-1))) aNil)) oLst) (M.bind (aCons (eBin (eSl (eName 0) mNo (mInt (eC (.int 1))) oSl) (eC (.str "-")) oEq) aNil) oInt1) oIx))
    (gSeq (gSet 3 (eSl (eName 0) (mInt (M.bind (aCons (eBin (eName 2) (eC (.int 0)) oLt) aNil) oInt1)) mNo oSl))
    (gSeq (gFor (mSeq (eName 3)) (tgName 4)
    (gSeq (gIf (mTest (eBin (eName 4) (eC (.str "0123456789")) oNiS))
    (gRet (M.bind aNil oLst))
    gNext)
    (gSet 1 (eBin (eBin (eC (.int 10)) (eName 1) oMul2) (eMeth "str" (eC (.str "0123456789")) (aCons (eName 4) aNil) o_find1) oAdd))))
    (gSeq (gIf (tOr' (mTest (eBin (eName 3) (eC (.str "")) oEq)) (tAnd' (mTest (eBin (eBin (eName 3) (eC (.int 0)) oIx) (eC (.str "0")) oEq)) (mTest (eBin (eName 0) (eC (.str "0")) oNe))))
    (gRet (M.bind aNil oLst))
    gNext)
    (gRet (M.bind (aCons (eBin (eName 2) (eName 1) oMul2) aNil) oLst)))))))
noncomputable def m_law_number_of : List Sl → Option (Sl × List Sl) := mkF 4 g_law_number_of
noncomputable def g_law_beyond : M Fl := (gSeq (gSet 1 (M.bind (aCons (eC (.int 0)) aNil) oLst))
    (gSeq (gFor (mSeq (eMeth "str" (eMeth "str" (eName 0) (aCons (eC (.str "\n")) (aCons (eC (.str " ")) aNil)) o_replace2) (aCons (eC (.str " ")) aNil) o_split1)) (tgName 2)
    (gSet 1 (eBin (eName 1) (M.bind (aCons (eFz (eName 2)) aNil) (opCall 1 m_law_number_of)) oAdd)))
    (gRet (eBin (M.bind (aCons (eLc (mSeq (eName 1)) [3] (tgName 3) tYes' (M.bind (aCons (eName 3) aNil) oAbs)) aNil) oMax) (eC (.int 10000000000)) oGe))))
noncomputable def m_law_beyond : List Sl → Option (Sl × List Sl) := mkF 3 g_law_beyond
noncomputable def g_law_is_name : M Fl := (gSeq (gSet 1 (eLc (mSeq (eName 0)) [2] (tgName 2) (mTest (eBin (eName 2) (eC (.str "abcdefghijklmnopqrstuvwxyz")) oInS)) (eName 2)))
    (gRet (eAnd (eChain (eC (.int 0)) (M.bind (aCons (eName 0) aNil) oLen) (eC (.int 9)) oLt oLt) (eBin (M.bind (aCons (eName 1) aNil) oLen) (M.bind (aCons (eName 0) aNil) oLen) oEq))))
noncomputable def m_law_is_name : List Sl → Option (Sl × List Sl) := mkF 2 g_law_is_name
noncomputable def g_law_due : M Fl := (gSeq (gSet 1 (M.bind aNil oLst))
    (gSeq (gIf (mTest (eBin (eName 0) (eC (.str "")) oEq))
    (gRet (M.bind aNil oTup))
    gNext)
    (gSeq (gFor (mSeq (eMeth "str" (eName 0) (aCons (eC (.str "\n")) aNil) o_split1)) (tgName 2)
    (gSeq (gSet 3 (eMeth "str" (eName 2) (aCons (eC (.str " ")) aNil) o_split1))
    (gSeq (gIf (tOr' (mTest (eBin (M.bind (aCons (eName 3) aNil) oLen) (eC (.int 3)) oNe)) (tOr' (tNot' (mTest (M.bind (aCons (eBin (eName 3) (eC (.int 0)) oIx) aNil) (opCall 1 m_law_is_name)))) (mTest (eBin (eBin (eName 3) (eC (.int 0)) oIx) (eLcN 1 [5] (tgName 5) tYes' (eBin (eName 5) (eC (.int 0)) oIx)) oIn))))
    (gRet (M.bind (aCons (eName 1) aNil) oLen))
    gNext)
    (gSeq (gSet 4 (eBin (M.bind (aCons (eBin (eName 3) (eC (.int 1)) oIx) aNil) (opCall 1 m_law_number_of)) (M.bind (aCons (eBin (eName 3) (eC (.int 2)) oIx) aNil) (opCall 1 m_law_number_of)) oAdd))
    (gSeq (gIf (mTest (eBin (M.bind (aCons (eName 4) aNil) oLen) (eC (.int 2)) oNe))
    (gRet (M.bind (aCons (eName 1) aNil) oLen))
    gNext)
    (gExpr (eMeth "list" (eName 1) (aCons (M.bind (aCons (eBin (eName 3) (eC (.int 0)) oIx) (aCons (eBin (eName 4) (eC (.int 0)) oIx) (aCons (eBin (eName 4) (eC (.int 1)) oIx) aNil))) oTup) aNil) o_append1)))))))
    (gRet (M.bind (aCons (eName 1) aNil) oTupOf)))))
noncomputable def m_law_due : List Sl → Option (Sl × List Sl) := mkF 5 g_law_due
noncomputable def g_is_point_name : M Fl := (gRet (eAnd (eChain (eC (.int 1)) (M.bind (aCons (eName 0) aNil) oLen) (eC (.int 8)) oLe oLe) (M.bind (aCons (eLc (mSeq (eName 0)) [1] (tgName 1) tYes' (eBin (eName 1) (eC (.str "abcdefghijklmnopqrstuvwxyz")) oInS)) aNil) oAll)))
noncomputable def m_is_point_name : List Sl → Option (Sl × List Sl) := mkF 1 g_is_point_name
noncomputable def g_is_number_word : M Fl := (gSeq (gSet 1 (eName 0))
    (gSeq (gIf (mTest (eBin (eSl (eName 0) mNo (mInt (eC (.int 1))) oSl) (eC (.str "-")) oEq))
    (gSet 1 (eSl (eName 0) (mInt (eC (.int 1))) mNo oSl))
    gNext)
    (gSeq (gIf (tOr' (mTest (eBin (eName 1) (eC (.str "")) oEq)) (tNot' (mTest (M.bind (aCons (eLc (mSeq (eName 1)) [2] (tgName 2) tYes' (eBin (eName 2) (eC (.str "0123456789")) oInS)) aNil) oAll))))
    (gRet (eC (.bool false)))
    gNext)
    (gRet (eOr (eBin (eBin (eName 1) (eC (.int 0)) oIx) (eC (.str "0")) oNe) (eBin (eName 0) (eC (.str "0")) oEq))))))
noncomputable def m_is_number_word : List Sl → Option (Sl × List Sl) := mkF 2 g_is_number_word
noncomputable def g_read_pointsX : SX := (xSeq (xLift (gIf (mTest (eBin (eName 0) (eC (.str "")) oEq))
    (gRet (M.bind aNil oTup))
    gNext))
    (xSeq (xLift (gSet 1 eDNew))
    (xSeq (xFor (mEnumA (aCons (eMeth "str" (eName 0) (aCons (eC (.str "\n")) aNil) o_split1) aNil)) (tgTup 2 (tgCons (tgName 2) (tgCons (tgName 3) tgNil)))
    (xSeq (xLift (gSet 4 (eMeth "str" (eName 3) (aCons (eC (.str " ")) aNil) o_split1)))
    (xSeq (xIf (tOr' (mTest (eBin (M.bind (aCons (eName 4) aNil) oLen) (eC (.int 3)) oNe)) (tOr' (tNot' (mTest (M.bind (aCons (eBin (eName 4) (eC (.int 0)) oIx) aNil) (opCall 1 m_is_point_name)))) (mTest (eBin (eBin (eName 4) (eC (.int 0)) oIx) (eName 1) oInD))))
    (xRaiseI "NoPoints" "row" (eName 2))
    (xLift gNext))
    (xSeq (xIf (tOr' (tNot' (mTest (M.bind (aCons (eBin (eName 4) (eC (.int 1)) oIx) aNil) (opCall 1 m_is_number_word)))) (tNot' (mTest (M.bind (aCons (eBin (eName 4) (eC (.int 2)) oIx) aNil) (opCall 1 m_is_number_word)))))
    (xRaiseI "NoPoints" "row" (eName 2))
    (xLift gNext))
    (xLift (gPut (M.bind (aCons (eBin (eName 4) (eC (.int 0)) oIx) (aCons (M.bind (aCons (eBin (eName 4) (eC (.int 1)) oIx) aNil) oIntS) (aCons (M.bind (aCons (eBin (eName 4) (eC (.int 2)) oIx) aNil) oIntS) aNil))) oTup) (eName 1) (eBin (eName 4) (eC (.int 0)) oIx)))))))
    (xLift (gRet (eUn (eName 1) oValsT))))))
noncomputable def m_read_pointsX : FX := mkX 4 g_read_pointsX
noncomputable def g_law_right : M Fl := (gSeq (gSet 1 (M.bind (aCons (eName 0) aNil) (opCall 1 m_law_due)))
    (gSeq (gSet 2 (eC .none))
    (gSeq (gSet 3 (eC .none))
    (gSeq (gTry 4 3 ["NoAsk", "NoCounts", "NoName", "NoPlace", "NoPoints"] (xSet 2 (xBind (aCons (eName 0) aNil) (xCall 1 m_read_pointsX))))
    (gSeq (gIf (mTest (M.bind (eName 1) (oIsi "tuple")))
    (gRet (eAnd (eBin (eName 3) (eC .none) oIsX0) (eBin (eName 2) (eName 1) oEq)))
    gNext)
    (gSeq (gIf (tOr' (mTest (eIsX (eName 3) ["NoAsk", "NoCounts", "NoName", "NoPlace"] ["NoPoints"])) (tNot' (mTest (eIsX (eName 3) ["NoPoints"] ["NoAsk", "NoCounts", "NoName", "NoPlace"]))))
    (gRet (eC (.bool false)))
    gNext)
    (gSeq (gIf (tOr' (tNot' (mTest (eIsX (eName 3) ["NoAsk", "NoCounts", "NoName", "NoPlace", "NoPoints"] []))) (mTest (M.bind (eXAt "row" ["NoCounts", "NoPoints"] (eName 3)) (oIsi "bool"))))
    (gRet (eC (.bool false)))
    gNext)
    (gRet (eAnd (M.bind (eXAt "row" ["NoCounts", "NoPoints"] (eName 3)) (oIsi "int")) (eBin (eXAt "row" ["NoCounts", "NoPoints"] (eName 3)) (eName 1) oEq))))))))))
noncomputable def m_law_right : List Sl → Option (Sl × List Sl) := mkF 4 g_law_right
noncomputable def g_law_classes_right : M Fl := (gSeq (gSet 0 (oLstM (aCons (eExNew "NoAsk") (aCons (eExNewI "NoCounts" "row" (eC (.int 3))) (aCons (eExNewI "NoName" "word" (eC (.str "ab"))) (aCons (eExNew "NoPlace") (aCons (eExNewI "NoPoints" "row" (eC (.int 4))) aNil)))))))
    (gSeq (gForEx 1 2 0
    (gSeq (gSet 3 (M.bind (aCons (eIsX (eName 2) ["NoAsk"] ["NoCounts", "NoName", "NoPlace", "NoPoints"]) (aCons (eIsX (eName 2) ["NoCounts"] ["NoAsk", "NoName", "NoPlace", "NoPoints"]) (aCons (eIsX (eName 2) ["NoName"] ["NoAsk", "NoCounts", "NoPlace", "NoPoints"]) (aCons (eIsX (eName 2) ["NoPlace"] ["NoAsk", "NoCounts", "NoName", "NoPoints"]) aNil)))) oLst))
    (gSeq (gExpr (eMeth "list" (eName 3) (aCons (eIsX (eName 2) ["NoPoints"] ["NoAsk", "NoCounts", "NoName", "NoPlace"]) aNil) o_append1))
    (gIf (tOr' (mTest (eBin (eName 3) (eLc (mRng1 (aCons (eC (.int 5)) aNil)) [4] (tgName 4) tYes' (eBin (eName 4) (eName 1) oEq)) oNe)) (tOr' (tNot' (mTest (eIsX (eName 2) ["NoAsk", "NoCounts", "NoName", "NoPlace", "NoPoints"] []))) (tNot' (mTest (eIsX (eName 2) ["NoAsk", "NoCounts", "NoName", "NoPlace", "NoPoints"] [])))))
    (gRet (eC (.bool false)))
    gNext))))
    (gRet (eAnd (eBin (eExAt 0 1 "row" ["NoCounts", "NoPoints"]) (eC (.int 3)) oEq) (eAnd (eBin (eExAt 0 2 "word" ["NoName"]) (eC (.str "ab")) oEq) (eBin (eExAt 0 4 "row" ["NoCounts", "NoPoints"]) (eC (.int 4)) oEq))))))
noncomputable def m_law_classes_right : List Sl → Option (Sl × List Sl) := mkF 5 g_law_classes_right
noncomputable def g_law : M Fl := (gSeq (gSet 1 (M.bind (aCons (eName 0) aNil) (opCall 1 m_law_deck)))
    (gSeq (gFor (mRng1 (aCons (eC (.int 3)) aNil)) (tgName 2)
    (gSeq (gSet 3 (M.bind (aCons (eName 1) (aCons (eBin (M.bind (aCons (eC (.int 12)) (aCons (eC (.int 57)) aNil)) oLst) (M.bind (aCons (eAnd (eBin (eName 2) (eC (.int 0)) oEq) (eBin (M.bind (aCons (eName 1) (aCons (eC (.int 3)) aNil)) (opCall 2 m_law_next)) (eC (.int 0)) oEq)) aNil) oInt1) oIx) aNil)) (opCall 2 m_law_points)))
    (gSeq (gSet 4 (M.bind (aCons (eFz (eName 3)) aNil) (opCall 1 m_law_text)))
    (gSeq (gSet 5 (eLc (mRng1 (aCons (eC (.int 4)) aNil)) [9] (tgName 9) tYes' (M.bind (aCons (eName 1) (aCons (eFz (eName 3)) aNil)) (opCall 2 m_law_spoilt))))
    (gSeq (gSet 5 (eBin (eName 5) (M.bind (aCons (eBin (eC (.str " ")) (eName 4) oAdd) (aCons (eBin (eName 4) (eC (.str " ")) oAdd) (aCons (eBin (eName 4) (eC (.str "\n")) oAdd) (aCons (eBin (eC (.str "\n")) (eName 4) oAdd) (aCons (eMeth "str" (eName 4) (aCons (eC (.str " ")) (aCons (eC (.str "  ")) (aCons (eC (.int 1)) aNil))) o_replace3) (aCons (eName 4) aNil)))))) oLst) oAdd))
    (gSeq (gFor (mSeq (M.bind (aCons (eC (.str " ")) (aCons (eC (.str "\n")) aNil)) oLst)) (tgName 6)
    (gSet 5 (eBin (eName 5) (M.bind (aCons (eMeth "str" (eName 4) (aCons (eName 6) (aCons (M.bind (aCons (eName 1) aNil) (opCall 1 m_law_sign)) aNil)) o_replace2) (aCons (eMeth "str" (eName 4) (aCons (eName 6) (aCons (M.bind (aCons (eName 1) aNil) (opCall 1 m_law_sign)) (aCons (eC (.int 1)) aNil))) o_replace3) aNil)) oLst) oAdd)))
    (gFor (mSeq (eBin (eName 5) (M.bind (aCons (M.bind (aCons (eName 1) aNil) (opCall 1 m_law_sign)) (aCons (eBin (eName 4) (M.bind (aCons (eName 1) aNil) (opCall 1 m_law_sign)) oAdd) aNil)) oLst) oAdd)) (tgName 7)
    (gIf (tAnd' (tNot' (mTest (M.bind (aCons (eFz (eName 7)) aNil) (opCall 1 m_law_beyond)))) (tOr' (tNot' (mTest (M.bind (aCons (eFz (eName 7)) aNil) (opCall 1 m_law_right)))) (tNot' (mTest (M.bind (aCons (eFz (eName 7)) aNil) (opCall 1 m_law_right))))))
    (gRet (eC (.bool false)))
    gNext))))))))
    (gSeq (gSet 8 (M.bind (aCons (eC (.str "")) (aCons (eC (.str "\n")) (aCons (eC (.str " ")) (aCons (eC (.str "a")) (aCons (eC (.str "a 1")) (aCons (eC (.str "a 1 1\na 2 2")) (aCons (eC (.str "a 1 1\n\nb 2 2")) (aCons (eC (.str "a 01 1")) (aCons (eC (.str "a -0 1")) (aCons (eC (.str "a 1 - 1")) (aCons (eC (.str "A 1 1")) aNil))))))))))) oLst))
    (gSeq (gSet 8 (eBin (eName 8) (M.bind (aCons (eC (.str "a 1 1;b 2 2")) (aCons (eC (.str "a 1 1\nb 1")) (aCons (eC (.str "1 a 1")) (aCons (eC (.str "a 1 1 1")) (aCons (eC (.str "a 1,1")) (aCons (eC (.str "a 1 1\n")) (aCons (eC (.str "a +1 1")) aNil))))))) oLst) oAdd))
    (gSeq (gIf (mTest (eBin (eLc (mSeq (eName 8)) [4] (tgName 4) (tNot' (mTest (M.bind (aCons (eFz (eName 4)) aNil) (opCall 1 m_law_right)))) (eName 4)) (M.bind aNil oLst) oNe))
    (gRet (eC (.bool false)))
    gNext)
    (gRet (M.bind aNil (opCall 0 m_law_classes_right))))))))
noncomputable def m_law : List Sl → Option (Sl × List Sl) := mkF 9 g_law
open Pd.B (cmul cdiv atI_of atI_in ixN_in fPop1_of rngD_at)
theorem spec_mix {a b : Int} {Q : Sl → List Sl → Prop} (hb : b.natAbs < 2 ^ 64) (k : ∀ v, 0 ≤ v → v < 536870891 → Q (.p (.int v)) [.p (.int a), .p (.int b)]) : Sp m_law_mix [.p (.int a), .p (.int b)] Q := by
  unfold m_law_mix
  rw [sp_mkF]
  simp [g_law_mix]
  refine ⟨cmul (by omega) (by omega), cmul (by omega) (by omega), cmul (by omega) (by omega), cmul (by omega) (by omega), cmul (by omega) (by omega), cdiv (by omega) (by omega), k _ (by omega) (by omega)⟩
def DeckOk (B : Int) (ds : List D) : Prop := ∃ (cells : List Int) (i a b c : Int), ds = [.list (cells.map .int), .int i, .int a, .int b, .int c] ∧ 0 ≤ i ∧ i ≤ cells.length ∧ cells.length ≤ 63 ∧ 0 ≤ a ∧ 0 ≤ b ∧ b ≤ B
theorem atI_cell {cells : List Int} {i : Int} (h0 : 0 ≤ i) (h : i < cells.length) : atI (cells.map PyData.int) i = some (.int (cells.getD i.toNat 0)) := by
  refine B.atI_of (k := i.toNat) (by omega) ?_
  rw [List.getElem?_map, List.getD_eq_getElem?_getD]
  rw [List.getElem?_eq_getElem (by omega)]
  rfl
theorem spec_next {ds : List D} {many B : Int} {Q : Sl → List Sl → Prop} (hd : DeckOk B ds) (h0 : 0 < many) (hm : many < 2 ^ 64) (hB : B < 2 ^ 62)
    (k : ∀ v ds', DeckOk (B + 1) ds' → 0 ≤ v → v < many → Q (.p (.int v)) [.ml none ds', .p (.int many)]) : Sp m_law_next [.ml none ds, .p (.int many)] Q := by
  obtain ⟨cells, i, a, b, c, rfl, hi0, hi, hl, ha, hb0, hb⟩ := hd
  unfold m_law_next
  rw [sp_mkF]
  by_cases ea : a = 0
  · subst ea
    by_cases el : i < cells.length
    · simp -dsimp [g_law_next, el, atI_cell hi0 el]
      by_cases ev : cells.getD i.toNat 0 < 1000000000000000000
      · rw [if_pos (by simpa using ev)]
        refine spec_mix (by omega) fun v h1 h2 => ?_
        simp -dsimp
        refine ⟨h0, k _ _ ⟨cells, i + 1, 0, b, c, rfl, by omega, by omega, hl, by omega, hb0, by omega⟩ (Int.emod_nonneg _ (by omega)) (Int.emod_lt_of_pos _ h0)⟩
      · rw [if_neg (by simpa using ev)]
        rw [if_pos (by simp at ev; omega)]
        refine ⟨h0, cdiv h0 (by omega), k _ _ ⟨cells, i + 1, _, b, c, rfl, by omega, by omega, hl, Int.ediv_nonneg (by simp at ev; omega) (by omega), hb0, by omega⟩ (Int.emod_nonneg _ (by omega)) (Int.emod_lt_of_pos _ h0)⟩
    · simp -dsimp [g_law_next, el]
      refine spec_mix (by omega) fun v h1 h2 => ?_
      simp -dsimp
      refine ⟨h0, k _ _ ⟨cells, i, 0, b + 1, c, rfl, by omega, by omega, hl, by omega, by omega, by omega⟩ (Int.emod_nonneg _ (by omega)) (Int.emod_lt_of_pos _ h0)⟩
  · have ea' : 0 < a := by omega
    simp -dsimp [g_law_next, ea, ea']
    refine ⟨h0, cdiv h0 (by omega), k _ _ ⟨cells, i, _, b, c, rfl, by omega, by omega, hl, Int.ediv_nonneg (by omega) (by omega), hb0, by omega⟩ (Int.emod_nonneg _ (by omega)) (Int.emod_lt_of_pos _ h0)⟩
theorem spec_deck {ns : List Int} {Q : Sl → List Sl → Prop} (k : ∀ ds, DeckOk 0 ds → Q (.ml none ds) [.p (.list (ns.map .int))]) : Sp m_law_deck [.p (.list (ns.map .int))] Q := by
  unfold m_law_deck
  rw [sp_mkF]
  simp -dsimp [g_law_deck, ← List.map_take]
  exact k _ ⟨ns.take 63, 0, 0, 0, _, rfl, by omega, by omega, by simp; omega, by omega, by omega, by omega⟩
theorem DeckOk.mono {B B' : Int} {ds : List D} (h : DeckOk B ds) (hb : B ≤ B') : DeckOk B' ds := by
  obtain ⟨cells, i, a, b, c, h1, h2, h3, h4, h5, h6, h7⟩ := h
  exact ⟨cells, i, a, b, c, h1, h2, h3, h4, h5, h6, by omega⟩
theorem atI_map {α : Type} {f : α → D} {l : List α} {v : Int} (h0 : 0 ≤ v) (h : v < l.length) : ∃ x, x ∈ l ∧ l[v.toNat]? = some x ∧ atI (l.map f) v = some (f x) := by
  have hv : v.toNat < l.length := by omega
  refine ⟨l[v.toNat], List.getElem_mem hv, List.getElem?_eq_getElem hv, ?_⟩
  rw [atI_in h0 (by simpa using h)]
  rw [List.getD_eq_getElem?_getD, List.getElem?_map, List.getElem?_eq_getElem hv]
  rfl
theorem eraseIdx_map {α β : Type} {f : α → β} : ∀ {l : List α} {i : Nat}, (l.eraseIdx i).map f = (l.map f).eraseIdx i
  | [], _ => rfl
  | _ :: _, 0 => rfl
  | a :: l, i + 1 => by
    show f a :: (l.eraseIdx i).map f = f a :: (l.map f).eraseIdx i
    rw [eraseIdx_map]
theorem pop_map {α : Type} {f : α → D} {l : List α} {v : Int} (h0 : 0 ≤ v) (h : v < l.length) (h2 : l.length < 2 ^ 62) : ∃ x, x ∈ l ∧ l[v.toNat]? = some x ∧ fPop1 (l.map f) [.int v] = some (f x, (l.eraseIdx v.toNat).map f) := by
  have hv : v.toNat < l.length := by omega
  refine ⟨l[v.toNat], List.getElem_mem hv, List.getElem?_eq_getElem hv, ?_⟩
  rw [fPop1_of h0 (by simpa using h) (by omega)]
  rw [List.getD_eq_getElem?_getD, List.getElem?_map, List.getElem?_eq_getElem hv, ← eraseIdx_map]
  rfl
theorem cut_nat {l : List D} {k : Nat} : Pd.cutD l none (some (k : Int)) = l.take k := by
  unfold Pd.cutD
  rw [HT.sIx_none, HT.sIx_nat, List.drop_zero, Nat.sub_zero]
  by_cases h : k ≤ l.length
  · rw [Nat.min_eq_left h]
  · rw [Nat.min_eq_right (by omega), List.take_of_length_le (Nat.le_refl _), List.take_of_length_le (by omega)]
theorem enumD_at {α : Type} {f : α → D} {l : List α} {done r : List D} {x : D} (h : enumD (l.map f) = done ++ x :: r) : ∃ t, l[done.length]? = some t ∧ x = .tuple [.int (done.length : Nat), f t] ∧ done.length < l.length := by
  have hl := congrArg List.length h
  unfold enumD at hl
  simp at hl
  have : (enumD (l.map f))[done.length]? = some x := by rw [h]; simp
  unfold enumD at this
  rw [List.getElem?_mapIdx, List.getElem?_map, List.getElem?_eq_getElem (by omega)] at this
  refine ⟨_, List.getElem?_eq_getElem (by omega), ?_, by omega⟩
  cases this
  rfl
theorem any_str {ws : List Str} {w : Str} : (ws.map PyData.str).any (fun y => PyData.eqv y (.str w)) = decide (w ∈ ws) := by
  induction ws with
  | nil => rfl
  | cons a ws ih =>
    rw [List.map_cons, List.any_cons, ih, Bool.eq_iff_iff]
    simp
    constructor
    · rintro (h | h)
      · exact Or.inl h.symm
      · exact Or.inr h
    · rintro (h | h)
      · exact Or.inl h.symm
      · exact Or.inr h
theorem filter_yes {α : Type} : ∀ {l : List α}, l.filter (fun _ => true) = l
  | [] => rfl
  | a :: l => by rw [List.filter_cons, if_pos rfl, filter_yes]
theorem map_at {α : Type} {f : α → D} {l : List α} {done r : List D} {x : D} (h : l.map f = done ++ x :: r) : ∃ t, l[done.length]? = some t ∧ x = f t ∧ done.length < l.length ∧ t ∈ l := by
  have hl := congrArg List.length h
  simp at hl
  have hlt : done.length < l.length := by omega
  have : (l.map f)[done.length]? = some x := by rw [h]; simp
  rw [List.getElem?_map, List.getElem?_eq_getElem hlt] at this
  cases this
  exact ⟨_, List.getElem?_eq_getElem hlt, rfl, hlt, List.getElem_mem hlt⟩
theorem take_next {α : Type} {l : List α} {n : Nat} {t : α} (h : l[n]? = some t) : l.take (n + 1) = l.take n ++ [t] := by rw [List.take_succ, h]; rfl
theorem ints_mapf {α : Type} {h : α → Int} : ∀ {l : List α}, ints? (l.map fun q => PyData.int (h q)) = some (l.map h)
  | [] => rfl
  | a :: l => by rw [List.map_cons, B.ints_cons, ints_mapf]; rfl
@[simp] theorem cut_3_1 {a b c : D} : Pd.cutD [a, b, c] (some 1) none = [b, c] := rfl
@[simp] theorem dep_mapI {α : Type} {h : α → Int} : ∀ {l : List α}, PyData.depthAll (l.map fun q => .int (h q)) = 0
  | [] => rfl
  | a :: l => by rw [List.map_cons, Pd.B.depA_c, dep_mapI]; rfl
@[simp] theorem eqvA_mapI {α : Type} {h : α → Int} : ∀ {l : List α}, PyData.eqvAll (l.map fun q => .int (h q)) (l.map fun q => .int (h q)) = true
  | [] => by simp
  | a :: l => by simp [eqvA_mapI]
theorem three {v : Int} (h0 : 0 ≤ v) (h : v < 3) : v = 0 ∨ v = 1 ∨ v = 2 := by omega
theorem spec_number {ds : List D} {kind B : Int} {Q : Sl → List Sl → Prop} (hd : DeckOk B ds) (h0 : 0 ≤ kind) (hm : kind < 3) (hB : B < 2 ^ 61)
    (k : ∀ v ds', DeckOk (B + 3) ds' → -9999999999 ≤ v → v ≤ 9999999999 → Q (.p (.int v)) [.ml none ds', .p (.int kind)]) : Sp m_law_number [.ml none ds, .p (.int kind)] Q := by
  unfold m_law_number
  rw [sp_mkF]
  have weak : ∀ ds', DeckOk (B + 1) ds' → DeckOk (B + 3) ds' := fun ds' ⟨cells, i, a, b, c, h1, h2, h3, h4, h5, h6, h7⟩ => ⟨cells, i, a, b, c, h1, h2, h3, h4, h5, h6, by omega⟩
  rcases three h0 hm with rfl | rfl | rfl
  · simp -dsimp [g_law_number]
    refine spec_next hd (by omega) (by omega) (by omega) fun v ds1 hd1 h1 h2 => ?_
    simp -dsimp
    exact k _ _ (weak _ hd1) (by omega) (by omega)
  · simp -dsimp [g_law_number]
    refine spec_next hd (by omega) (by omega) (by omega) fun v ds1 hd1 h1 h2 => ?_
    simp -dsimp
    exact k _ _ (weak _ hd1) (by omega) (by omega)
  · simp -dsimp [g_law_number]
    refine spec_next hd (by omega) (by omega) (by omega) fun v ds1 hd1 h1 h2 => ?_
    simp -dsimp
    refine ⟨cmul (by omega) (by omega), ?_⟩
    refine spec_next hd1 (by omega) (by omega) (by omega) fun w ds2 hd2 h3 h4 => ?_
    simp -dsimp
    refine spec_next hd2 (by omega) (by omega) (by omega) fun u ds3 hd3 h5 h6 => ?_
    have hd4 : DeckOk (B + 3) ds3 := by rw [show B + 3 = B + 1 + 1 + 1 by omega]; exact hd3
    rcases three (v := max 0 (u - 6)) (by omega) (by omega) with e | e | e <;> simp -dsimp [e] <;> refine k _ _ hd4 (by omega) (by omega)
def pt (p : Int × Int) : D := .tuple [.int p.1, .int p.2]
def PtIn (p : Int × Int) : Prop := -9999999999 ≤ p.1 ∧ p.1 ≤ 9999999999 ∧ -9999999999 ≤ p.2 ∧ p.2 ≤ 9999999999
theorem pts_in {ps : List (Int × Int)} {v : Int} (h0 : 0 ≤ v) (h : v < ps.length) : ∃ p, p ∈ ps ∧ atI (ps.map pt) v = some (pt p) := by
  have hv : v.toNat < ps.length := by omega
  refine ⟨ps[v.toNat], List.getElem_mem hv, ?_⟩
  rw [atI_in h0 (by simpa using h)]
  rw [List.getD_eq_getElem?_getD, List.getElem?_map, List.getElem?_eq_getElem hv]
  rfl
def PlI (C most many kd way : Int) (a b : Int × Int) (ps : List (Int × Int)) (k : Int) (ρ : Pd.Env) : Prop := ∃ p e, PtIn p ∧ DeckOk C e ∧ ρ = [some (.ml (some 0) e), some (.p (.int most)), some (.p (.int many)), some (.p (.int kd)), some (.p (.int way)), some (.ml none [pt a, pt b]), some (.ml none (ps.map pt)), some (.p (.int k)), some (.p (pt p))]
def PlT (C most many kd way : Int) (a b : Int × Int) (n : Nat) (ρ : Pd.Env) : Prop := ∃ (dsx : List D) (ps : List (Int × Int)) (x7 x8 : Option Sl), DeckOk C dsx ∧ ps.length = n ∧ (∀ p ∈ ps, PtIn p) ∧ ρ = [some (.ml (some 0) dsx), some (.p (.int most)), some (.p (.int many)), some (.p (.int kd)), some (.p (.int way)),
      some (.ml none [pt a, pt b]), some (.ml none (ps.map pt)), x7, x8]
theorem spec_places {ds : List D} {most B : Int} {Q : Sl → List Sl → Prop} (hd : DeckOk B ds) (h0 : 0 ≤ most) (hm : most ≤ 60) (hB : B < 2 ^ 60)
    (k : ∀ (ps : List (Int × Int)) ds', DeckOk (B + 1000) ds' → (ps.length ≤ 60) → (∀ p ∈ ps, PtIn p) → Q (.ml none (ps.map pt)) [.ml none ds', .p (.int most)]) : Sp m_law_places [.ml none ds, .p (.int most)] Q := by
  unfold m_law_places
  rw [sp_mkF]
  simp -dsimp [g_law_places]
  refine spec_next hd (by omega) (by omega) (by omega) fun n1 ds1 hd1 a1 b1 => ?_
  simp -dsimp
  refine spec_next hd1 (by omega) (by omega) (by omega) fun n2 ds2 hd2 a2 b2 => ?_
  simp -dsimp
  refine spec_next hd2 (by omega) (by omega) (by omega) fun n3 ds3 hd3 a3 b3 => ?_
  obtain ⟨many, hmany, m0, m1⟩ : ∃ many : Int, atI [PyData.int n1, PyData.int n2, PyData.int most] n3 = some (.int many) ∧ 0 ≤ many ∧ many ≤ 60 := by
    rcases three a3 b3 with e | e | e <;> subst e
    · exact ⟨n1, by simp, a1, by omega⟩
    · exact ⟨n2, by simp, a2, by omega⟩
    · exact ⟨most, by simp, h0, by omega⟩
  simp -dsimp [hmany]
  refine spec_next hd3 (by omega) (by omega) (by omega) fun kd ds4 hd4 a4 b4 => ?_
  simp -dsimp
  refine spec_next hd4 (by omega) (by omega) (by omega) fun way ds5 hd5 a5 b5 => ?_
  simp -dsimp [ev_comp_cons, ev_comp_nil, tgName]
  refine spec_number hd5 a4 b4 (by omega) fun x1 ds6 hd6 p1 p2 => ?_
  simp -dsimp
  refine spec_number hd6 a4 b4 (by omega) fun x2 ds7 hd7 p3 p4 => ?_
  simp -dsimp [ev_comp_cons, ev_comp_nil, tgName]
  refine spec_number hd7 a4 b4 (by omega) fun x3 ds8 hd8 p5 p6 => ?_
  simp -dsimp
  refine spec_number hd8 a4 b4 (by omega) fun x4 ds9 hd9 p7 p8 => ?_
  simp -dsimp [ev_comp_cons, ev_comp_nil, tgName]
  refine ⟨by omega, ?_⟩
  refine ev_loop (fun done ρ => PlT (B + 30 + 10 * done.length) most many kd way (x1, x2) (x3, x4) done.length ρ) ⟨ds9, [], _, _, hd9.mono (by simp; omega), rfl, by simp, rfl⟩ ?_ ?_
  · rintro done d r ρ ha ⟨dsx, ps, x7, x8, hdx, hl, hps, rfl⟩
    obtain ⟨rfl, hdn⟩ := rngD_at ha
    have hdn60 : done.length < 60 := by omega
    simp -dsimp [tgName]
    refine spec_number hdx a4 b4 (by omega) fun y1 e1 he1 q1 q2 => ?_
    simp -dsimp
    refine spec_number he1 a4 b4 (by omega) fun y2 e2 he2 q3 q4 => ?_
    simp -dsimp [-ev_gIf]
    have hk0 : (0 : Int) ≤ done.length := by omega
    have hp0 : PtIn (y1, y2) := ⟨q1, q2, q3, q4⟩
    have C6 : DeckOk (B + 30 + 10 * done.length + 6) e2 := he2.mono (by omega)
    refine Ev.mono (Q := fun fl ρ1 => fl = .nx ∧ PlI (B + 30 + 10 * done.length + 6) most many kd way (x1, x2) (x3, x4) ps done.length ρ1) ?_ ?_
    · simp -dsimp
      split
      · exact ⟨cdiv (by omega) (by omega), cdiv (by omega) (by omega), (_, _), _, ⟨by dsimp only; omega, by dsimp only; omega, by dsimp only; omega, by dsimp only; omega⟩, C6, rfl⟩
      · exact ⟨(_, _), _, hp0, C6, rfl⟩
    rintro fl ρ ⟨rfl, p, e3, hp, he3, rfl⟩
    simp -dsimp [-ev_gIf]
    refine Ev.mono (Q := fun fl ρ1 => fl = .nx ∧ PlI (B + 30 + 10 * done.length + 6) most many kd way (x1, x2) (x3, x4) ps done.length ρ1) ?_ ?_
    · simp -dsimp
      split
      · exact ⟨cdiv (by omega) (by omega), (_, _), _, ⟨by dsimp only; omega, by dsimp only; omega, by dsimp only; omega, by dsimp only; omega⟩, he3, rfl⟩
      · exact ⟨_, _, hp, he3, rfl⟩
    clear hp he3
    rintro fl ρ ⟨rfl, p, e3, hp, he3, rfl⟩
    simp -dsimp [-ev_gIf]
    refine Ev.mono (Q := fun fl ρ1 => fl = .nx ∧ PlI (B + 30 + 10 * done.length + 6) most many kd way (x1, x2) (x3, x4) ps done.length ρ1) ?_ ?_
    · simp -dsimp [pt]
      split
      · exact ⟨(p.1, x2), _, ⟨hp.1, hp.2.1, p3, p4⟩, he3, rfl⟩
      · exact ⟨_, _, hp, he3, rfl⟩
    clear hp he3
    rintro fl ρ ⟨rfl, p, e3, hp, he3, rfl⟩
    simp -dsimp [-ev_gIf]
    refine Ev.mono (Q := fun fl ρ1 => fl = .nx ∧ PlI (B + 30 + 10 * done.length + 7) most many kd way (x1, x2) (x3, x4) ps done.length ρ1) ?_ ?_
    · simp -dsimp
      split
      · refine spec_next he3 (by omega) (by omega) (by omega) fun v e4 he4 a6 b6 => ?_
        simp -dsimp
        rcases (by omega : v = 0 ∨ v = 1) with e | e <;> subst e <;> simp -dsimp
        · exact ⟨(x1, x2), e4, ⟨p1, p2, p3, p4⟩, he4.mono (by omega), rfl⟩
        · exact ⟨(x3, x4), e4, ⟨p5, p6, p7, p8⟩, he4.mono (by omega), rfl⟩
      · exact ⟨_, _, hp, he3.mono (by omega), rfl⟩
    clear hp he3
    rintro fl ρ ⟨rfl, p, e3, hp, he3, rfl⟩
    simp -dsimp [-ev_gIf]
    refine Ev.mono (Q := fun fl ρ1 => fl = .nx ∧ PlI (B + 30 + 10 * done.length + 9) most many kd way (x1, x2) (x3, x4) ps done.length ρ1) ?_ ?_
    · simp -dsimp
      refine spec_next he3 (by omega) (by omega) (by omega) fun v e4 he4 a6 b6 => ?_
      simp -dsimp
      split
      · split
        · exact ⟨_, _, hp, he4.mono (by omega), rfl⟩
        · rename_i hne
          have hpos : 0 < ps.length := List.length_pos_iff.mpr hne
          refine spec_next he4 (by omega) (by omega) (by omega) fun u e5 he5 a7 b7 => ?_
          obtain ⟨p', hp', hat⟩ := pts_in a7 (by omega)
          simp -dsimp [hat]
          exact ⟨_, _, hps _ hp', he5.mono (by omega), rfl⟩
      · exact ⟨_, _, hp, he4.mono (by omega), rfl⟩
    clear hp he3
    rintro fl ρ ⟨rfl, p, e4, hp, he4, rfl⟩
    simp -dsimp
    refine ⟨by omega, e4, ps ++ [p], _, _, he4.mono (by omega), by simp [hl], fun q hq => ?_, by rw [List.map_append]; rfl⟩
    simp at hq
    rcases hq with hq | hq
    · exact hps q hq
    · subst hq; exact hp
  · rintro ρ ⟨dsx, ps, x7, x8, hdx, hl, hps, rfl⟩
    simp -dsimp
    refine k ps dsx (hdx.mono ?_) ?_ hps
    · simp
      omega
    · rw [hl]
      simp
      omega
def L1 (k : Nat) : Str := ⟨#[97 + k]⟩
theorem letters_cps : ∀ k : Fin 26, ("abcdefghijklmnopqrstuvwxyz" : Str).cps.toList[k.1]? = some (97 + k.1) := by decide +kernel
theorem letters_len2 : ("abcdefghijklmnopqrstuvwxyz" : Str).length = 26 := by decide +kernel
theorem pIx_letters {i : Int} (h0 : 0 ≤ i) (h : i < 26) : pIx [.str "abcdefghijklmnopqrstuvwxyz", .int i] = some (.pd (.str (L1 i.toNat))) := by
  show (if ("abcdefghijklmnopqrstuvwxyz" : Str).length ≤ sizeLine then (atI ("abcdefghijklmnopqrstuvwxyz" : Str).cps.toList i).map fun c => Rd'.pd (.str ⟨#[c]⟩) else none) = _
  have e1 := letters_cps ⟨i.toNat, by omega⟩
  have e2 : atI ("abcdefghijklmnopqrstuvwxyz" : Str).cps.toList i = some (97 + i.toNat) := atI_of (k := i.toNat) (by omega) e1
  rw [e2, letters_len2, if_pos (by decide)]
  rfl
def W (lo hi : Nat) (x : Str) : Prop := lo ≤ x.length ∧ x.length ≤ hi ∧ ∀ c ∈ x.cps.toList, 97 ≤ c ∧ c ≤ 122
theorem W.L1 {k : Nat} (h : k < 26) : W 1 1 (L1 k) := ⟨Nat.le_refl _, Nat.le_refl _, fun c hc => by simp [My.L1] at hc; omega⟩
theorem W.add {a b c d : Nat} {x y : Str} (h : W a b x) (g : W c d y) : W (a + c) (b + d) (x ++ y) := by
  have e : (x ++ y).cps = x.cps ++ y.cps := rfl
  have l : (x ++ y).length = x.length + y.length := by
    show (x ++ y).cps.size = x.cps.size + y.cps.size
    rw [e, Array.size_append]
  refine ⟨by rw [l]; have := h.1; have := g.1; omega, by rw [l]; have := h.2.1; have := g.2.1; omega, fun k hk => ?_⟩
  rw [e, Array.toList_append, List.mem_append] at hk
  rcases hk with hk | hk
  · exact h.2.2 k hk
  · exact g.2.2 k hk
theorem W.weak {a b c d : Nat} {x : Str} (h : W a b x) (h1 : c ≤ a) (h2 : b ≤ d) : W c d x := ⟨by have := h.1; omega, by have := h.2.1; omega, h.2.2⟩
theorem W.mul {x : Str} {k : Int} (h : W 1 1 x) (h0 : 0 ≤ k) (h5 : k ≤ 5) : W 0 5 (PySem.Txt.mul x k) := by
  obtain ⟨⟨l⟩⟩ := x
  match l, h with
  | [c], h =>
    have hc := h.2.2 c (by simp)
    have e : k = 0 ∨ k = 1 ∨ k = 2 ∨ k = 3 ∨ k = 4 ∨ k = 5 := by omega
    rcases e with e | e | e | e | e | e <;> subst e <;> refine ⟨Nat.zero_le _, ?_, fun d hd => ?_⟩ <;> first
      | exact (by show (PySem.Txt.mul _ _).cps.size ≤ 5; simp [PySem.Txt.mul, Str.empty, Str.length, List.replicate])
      | (simp [PySem.Txt.mul, Str.empty, Str.length, List.replicate] at hd; try (rw [hd]; exact hc))
  | [], h => exact absurd h.1 (by decide)
  | _ :: _ :: _, h => exact absurd h.2.1 (by show ¬ (_ + 1 + 1 ≤ 1); omega)
theorem W.x : W 1 1 ("x" : Str) := ⟨by decide, by decide, by decide +kernel⟩
theorem W.xy : W 2 2 ("xy" : Str) := ⟨by decide, by decide, by decide +kernel⟩
def NmI (lo hi : Nat) (ds : List D) (many begin_ way : Int) (pad : Str) (ws : List Str) (k num : Int) (ρ : Pd.Env) : Prop := ∃ w, W lo hi w ∧
  ρ = [some (.ml (some 0) ds), some (.p (.int many)), some (.p (.str "abcdefghijklmnopqrstuvwxyz")), some (.p (.str pad)), some (.p (.int begin_)), some (.p (.int way)), some (.ml none (ws.map .str)), some (.p (.int k)), some (.p (.int num)), some (.p (.str w)), none, none, none]
def NmT (ds : List D) (many begin_ way : Int) (pad : Str) (n : Nat) (ρ : Pd.Env) : Prop := ∃ (ws : List Str) (x7 x8 x9 : Option Sl), ws.length = n ∧ (∀ w ∈ ws, W 1 8 w) ∧ Pd.B.slotP (some x7) = true ∧
  ρ = [some (.ml (some 0) ds), some (.p (.int many)), some (.p (.str "abcdefghijklmnopqrstuvwxyz")), some (.p (.str pad)), some (.p (.int begin_)), some (.p (.int way)), some (.ml none (ws.map .str)), x7, x8, x9, none, none, none]
def NmJ (ds : List D) (many begin_ way : Int) (pad : Str) (ws : List Str) (k num : Int) (ρ : Pd.Env) : Prop := (way = 1 → NmI 3 8 ds many begin_ way pad ws k num ρ) ∧ (way ≠ 1 → NmI 3 3 ds many begin_ way pad ws k num ρ)
def NmC (C many begin_ way : Int) (pad : Str) (ws : List Str) (x8 x9 : Option Sl) (n : Nat) (acc : List D) (ρ : Pd.Env) : Prop := ∃ (dsx : List D) (lf ts : List Str) (x7 : Option Sl), DeckOk C dsx ∧ lf.length + n = ws.length ∧ (∀ w ∈ lf, W 1 8 w) ∧ acc = ts.map .str ∧ ts.length = n ∧ (∀ w ∈ ts, W 1 8 w) ∧
  ρ = [some (.ml (some 0) dsx), some (.p (.int many)), some (.p (.str "abcdefghijklmnopqrstuvwxyz")), some (.p (.str pad)), some (.p (.int begin_)), some (.p (.int way)), some (.ml none (ws.map .str)), x7, x8, x9, some (.ml none (lf.map .str)), none, none]
def NmE (dsx : List D) (many begin_ way : Int) (pad : Str) (ws lf ts : List Str) (x8 x9 : Option Sl) (n : Nat) (acc : List D) (ρ : Pd.Env) : Prop := ∃ (x7 x12 : Option Sl) (vs : List Str), acc = vs.map .str ∧ vs.Nodup ∧ (∀ v ∈ vs, v ∈ ts.take n) ∧ vs.length ≤ n ∧
  ρ = [some (.ml (some 0) dsx), some (.p (.int many)), some (.p (.str "abcdefghijklmnopqrstuvwxyz")), some (.p (.str pad)), some (.p (.int begin_)), some (.p (.int way)), some (.ml none (ws.map .str)), x7, x8, x9, some (.ml none (lf.map .str)), some (.p (.list (ts.map .str))), x12]
theorem spec_names {ds : List D} {many B : Int} {Q : Sl → List Sl → Prop} (hd : DeckOk B ds) (h0 : 0 ≤ many) (hm : many ≤ 60) (hB : B < 2 ^ 60)
    (k : ∀ (ws : List Str) ds', DeckOk (B + 100) ds' → (ws.length ≤ many) → ws.Nodup → (∀ w ∈ ws, W 1 8 w) → Q (.ml none (ws.map .str)) [.ml none ds', .p (.int many)]) : Sp m_law_names [.ml none ds, .p (.int many)] Q := by
  unfold m_law_names
  rw [sp_mkF]
  simp -dsimp [g_law_names]
  refine spec_next hd (by omega) (by omega) (by omega) fun n1 ds1 hd1 a1 b1 => ?_
  simp -dsimp [pIx_letters a1 b1, -Pd.B.pIx_s]
  refine spec_next hd1 (by omega) (by omega) (by omega) fun bg ds2 hd2 a2 b2 => ?_
  simp -dsimp
  refine spec_next hd2 (by omega) (by omega) (by omega) fun way ds3 hd3 a3 b3 => ?_
  simp -dsimp
  have hpad : W 1 1 (L1 n1.toNat) := W.L1 (by omega)
  refine ⟨by omega, ?_⟩
  refine ev_loop (fun done ρ => NmT ds3 many bg way (L1 n1.toNat) done.length ρ) ⟨[], _, _, _, rfl, by simp, rfl, rfl⟩ ?_ ?_
  · rintro done d r ρ ha ⟨ws, x7, x8, x9, hl, hws, hx7, rfl⟩
    obtain ⟨rfl, hdn⟩ := rngD_at ha
    have hdn60 : done.length < 60 := by omega
    have i1 : (0 : Int) ≤ (bg + 7 * done.length) % 26 := by omega
    have i2 : (bg + 7 * done.length) % 26 < 26 := by omega
    have i3 : (0 : Int) ≤ (bg + 7 * done.length) / 26 % 26 := by omega
    have i4 : (bg + 7 * done.length) / 26 % 26 < 26 := by omega
    have i5 : (0 : Int) ≤ (bg + 7 * done.length) / 676 := by omega
    have i6 : (bg + 7 * done.length) / 676 < 26 := by omega
    have j1 : (0 : Int) ≤ (done.length : Int) % 26 := by omega
    have j2 : (done.length : Int) % 26 < 26 := by omega
    have j3 : (0 : Int) ≤ (done.length : Int) % 6 := by omega
    have j4 : (done.length : Int) % 6 ≤ 5 := by omega
    simp -dsimp [tgName, pIx_letters i1 i2, pIx_letters i3 i4, pIx_letters i5 i6, -ev_gIf, -Pd.B.pIx_s]
    have w1 : W 1 1 (L1 ((bg + 7 * (done.length : Int)) % 26).toNat) := W.L1 (by omega)
    have w2 : W 1 1 (L1 ((bg + 7 * (done.length : Int)) / 26 % 26).toNat) := W.L1 (by omega)
    have w3 : W 1 1 (L1 ((bg + 7 * (done.length : Int)) / 676).toNat) := W.L1 (by omega)
    have w4 : W 1 1 (L1 ((done.length : Int) % 26).toNat) := W.L1 (by omega)
    have w12 := w1.add w2
    have w123 := w12.add w3
    refine ⟨cmul (by omega) (by omega), cdiv (by omega) (by omega), by have := w1.2.1; have := w2.2.1; omega, cdiv (by omega) (by omega), by have := w12.2.1; have := w3.2.1; omega, ?_⟩
    have wm := W.mul hpad j3 j4
    refine Ev.mono (Q := fun fl ρ1 => fl = .nx ∧ NmJ ds3 many bg way (L1 n1.toNat) ws done.length (bg + 7 * done.length) ρ1) ?_ ?_
    · simp -dsimp
      split
      · rename_i e
        refine ⟨⟨by omega, by omega, by have := hpad.2.1; omega⟩, by have := wm.2.1; have := w123.2.1; omega, fun _ => ?_, fun h => absurd e h⟩
        exact ⟨_, (wm.add w123).weak (by omega) (by omega), rfl⟩
      · rename_i e
        exact ⟨fun h => absurd h e, fun _ => ⟨_, w123, rfl⟩⟩
    rintro fl ρ ⟨rfl, hA, hB'⟩
    obtain ⟨w, hw, hw3, rfl⟩ : ∃ w, W 3 8 w ∧ (way ≠ 1 → W 3 3 w) ∧ ρ = [some (.ml (some 0) ds3), some (.p (.int many)), some (.p (.str "abcdefghijklmnopqrstuvwxyz")), some (.p (.str (L1 n1.toNat))), some (.p (.int bg)), some (.p (.int way)), some (.ml none (ws.map .str)), some (.p (.int done.length)), some (.p (.int (bg + 7 * done.length))), some (.p (.str w)), none, none, none] := by
      by_cases e : way = 1
      · obtain ⟨w, hw, h⟩ := hA e
        exact ⟨w, hw, fun h => absurd e h, h⟩
      · obtain ⟨w, hw, h⟩ := hB' e
        exact ⟨w, hw.weak (by omega) (by omega), fun _ => hw, h⟩
    simp -dsimp [-ev_gIf, -Pd.B.pIx_s]
    refine Ev.mono (Q := fun fl ρ1 => fl = .nx ∧ NmI 1 8 ds3 many bg way (L1 n1.toNat) ws done.length (bg + 7 * done.length) ρ1) ?_ ?_
    · simp -dsimp
      split
      · rename_i e
        have h3 := hw3 (by omega)
        refine ⟨⟨by omega, by omega, by have := hpad.2.1; omega⟩, by have := wm.2.1; have := h3.2.1; omega, ?_⟩
        exact ⟨_, (h3.add wm).weak (by omega) (by omega), rfl⟩
      · exact ⟨_, hw.weak (by omega) (by omega), rfl⟩
    clear hw hw3 hA hB'
    rintro fl ρ ⟨rfl, w, hw, rfl⟩
    simp -dsimp [-ev_gIf, -Pd.B.pIx_s]
    refine Ev.mono (Q := fun fl ρ1 => fl = .nx ∧ NmI 1 8 ds3 many bg way (L1 n1.toNat) ws done.length (bg + 7 * done.length) ρ1) ?_ ?_
    · simp -dsimp [pIx_letters j1 j2, -Pd.B.pIx_s]
      split
      · have wx := w4.add W.x
        have wxy := w4.add W.xy
        refine ⟨by have := w4.2.1; have := W.x.2.1; omega, by have := w4.2.1; have := W.xy.2.1; omega, cdiv (by omega) (by omega), ?_⟩
        rcases (by omega : (done.length : Int) / 26 = 0 ∨ (done.length : Int) / 26 = 1 ∨ (done.length : Int) / 26 = 2) with e | e | e <;> simp -dsimp [e, -Pd.B.pIx_s]
        · exact ⟨_, w4.weak (by omega) (by omega), rfl⟩
        · exact ⟨_, wx.weak (by omega) (by omega), rfl⟩
        · exact ⟨_, wxy.weak (by omega) (by omega), rfl⟩
      · exact ⟨_, hw, rfl⟩
    clear hw
    rintro fl ρ ⟨rfl, w, hw, rfl⟩
    simp -dsimp
    refine ⟨by omega, ws ++ [w], _, _, _, by simp [hl], fun q hq => ?_, rfl, by rw [List.map_append]; rfl⟩
    simp at hq
    rcases hq with hq | hq
    · exact hws q hq
    · subst hq; exact hw
  · rintro ρ ⟨ws, x7, x8, x9, hl, hws, hx7, rfl⟩
    simp -dsimp
    refine ⟨by omega, hx7, ?_⟩
    have hl60 : ws.length ≤ 60 := by rw [hl]; simp; omega
    refine ev_comp (fun done acc ρ => NmC (B + 3 + done.length) many bg way (L1 n1.toNat) ws x8 x9 done.length acc ρ) ⟨ds3, ws, [], x7, hd3.mono (by simp; omega), by simp, hws, rfl, rfl, by simp, rfl⟩ ?_ ?_
    · rintro done d r acc ρ ha ⟨dsx, lf, ts, y7, hdx, hlf, hlw, rfl, hts, htw, rfl⟩
      obtain ⟨rfl, hdn⟩ := rngD_at ha
      have hlen : ws.length = many.toNat := by rw [hl]; simp
      simp -dsimp [tgName]
      refine spec_next hdx (by omega) (by omega) (by omega) fun v e1 he1 q1 q2 => ?_
      obtain ⟨x, hx, hx2, hp⟩ := pop_map (f := PyData.str) q1 q2 (by omega)
      simp -dsimp [hp]
      refine ⟨by omega, e1, lf.eraseIdx v.toNat, ts ++ [x], _, he1.mono (by omega), ?_, fun q hq => hlw q (List.mem_of_mem_eraseIdx hq), by rw [List.map_append]; rfl, by simp [hts], fun q hq => ?_, rfl⟩
      · rw [List.length_eraseIdx, if_pos (by omega)]
        omega
      · simp at hq
        rcases hq with hq | hq
        · exact htw q hq
        · subst hq; exact hlw _ hx
    · rintro acc ρ ⟨dsx, lf, ts, y7, hdx, hlf, hlw, rfl, hts, htw, rfl⟩
      simp -dsimp
      refine ⟨hx7, ?_⟩
      have ht60 : ts.length ≤ 60 := by rw [hts]; simp; omega
      have hDk : DeckOk (B + 100) dsx := hdx.mono (by simp; omega)
      refine ev_comp (fun done acc ρ => NmE dsx many bg way (L1 n1.toNat) ws lf ts x8 x9 done.length acc ρ) ⟨x7, none, [], rfl, List.nodup_nil, by simp, by simp, rfl⟩ ?_ ?_
      · rintro done d r acc ρ ha ⟨y7, y12, vs, rfl, hnd, hsub, hvl, rfl⟩
        obtain ⟨w, hw, rfl, hdn⟩ := enumD_at ha
        simp -dsimp [tgTup, tgCons, tgName, tgNil, cut_nat, ← List.map_take, any_str]
        have htk : ts.take (done.length + 1) = ts.take done.length ++ [w] := by rw [List.take_succ, hw]; rfl
        split
        · rename_i hn
          refine ⟨by omega, _, _, vs ++ [w], by rw [List.map_append]; rfl, ?_, fun v hv => ?_, by simp; omega, rfl⟩
          · rw [List.nodup_append]
            refine ⟨hnd, by simp, fun a ha b hb e => ?_⟩
            simp at hb
            exact hn a (hsub a ha) (e.trans hb)
          · rw [htk]
            simp at hv ⊢
            rcases hv with hv | hv
            · exact Or.inl (hsub v hv)
            · exact Or.inr hv
        · refine ⟨_, _, vs, rfl, hnd, fun v hv => ?_, by omega, rfl⟩
          rw [htk]
          exact List.mem_append_left _ (hsub v hv)
      · rintro acc ρ ⟨y7, y12, vs, rfl, hnd, hsub, hvl, rfl⟩
        simp -dsimp
        have el : (enumD (ts.map PyData.str)).length = ts.length := by unfold enumD; simp
        rw [el] at hvl
        refine k vs dsx hDk ?_ hnd fun v hv => htw v (List.mem_of_mem_take (hsub v hv))
        rw [hts] at hvl
        simp at hvl
        omega
def ptn (p : Str × Int × Int) : D := .tuple [.str p.1, .int p.2.1, .int p.2.2]
def PnIn (p : Str × Int × Int) : Prop := W 1 8 p.1 ∧ PtIn p.2
def PoC (C most : Int) (n m : Nat) (acc : List D) (ρ : Pd.Env) : Prop := ∃ (dsx : List D) (lf ts : List (Int × Int)) (x4 : Option Sl), DeckOk C dsx ∧ lf.length + n = m ∧ (∀ w ∈ lf, PtIn w) ∧ acc = ts.map pt ∧ ts.length = n ∧ (∀ w ∈ ts, PtIn w) ∧
  ρ = [some (.ml (some 0) dsx), some (.p (.int most)), some (.ml none (lf.map pt)), none, x4, none, none]
def PoI (C most : Int) (ρ : Pd.Env) : Prop := ∃ (dsx : List D) (ts : List (Int × Int)) (x4 : Option Sl), DeckOk C dsx ∧ ts.length ≤ 60 ∧ (∀ w ∈ ts, PtIn w) ∧
  ρ = [some (.ml (some 0) dsx), some (.p (.int most)), some (.ml none (ts.map pt)), none, x4, none, none]
theorem zip_pt {ws : List Str} {ts : List (Int × Int)} : zipD (ws.map .str) (ts.map pt) = (ws.zip ts).map fun p => .tuple [.str p.1, pt p.2] := by
  unfold zipD
  induction ws generalizing ts with
  | nil => rfl
  | cons w ws ih =>
    cases ts with
    | nil => rfl
    | cons t ts => simp [ih]
theorem zip_fst {α β : Type} : ∀ {l : List α} {m : List β}, (l.zip m).map (·.1) <+: l
  | [], _ => ⟨[], rfl⟩
  | a :: l, [] => ⟨a :: l, rfl⟩
  | a :: l, b :: m => by
    obtain ⟨r, hr⟩ := zip_fst (l := l) (m := m)
    exact ⟨r, by simpa using hr⟩
theorem spec_points {ds : List D} {most B : Int} {Q : Sl → List Sl → Prop} (hd : DeckOk B ds) (h0 : 0 ≤ most) (hm : most ≤ 60) (hB : B < 2 ^ 59)
    (k : ∀ (ps : List (Str × Int × Int)) ds', DeckOk (B + 2000) ds' → (ps.length ≤ 60) → (ps.map (·.1)).Nodup → (∀ p ∈ ps, PnIn p) → Q (.p (.tuple (ps.map ptn))) [.ml none ds', .p (.int most)]) : Sp m_law_points [.ml none ds, .p (.int most)] Q := by
  unfold m_law_points
  rw [sp_mkF]
  simp -dsimp [g_law_points]
  refine spec_places hd h0 hm (by omega) fun ps ds1 hd1 hps hpi => ?_
  simp -dsimp [-ev_gIf]
  refine Ev.mono (Q := fun fl ρ1 => fl = .nx ∧ PoI (B + 1500) most ρ1) ?_ ?_
  · simp -dsimp
    refine spec_next hd1 (by omega) (by omega) (by omega) fun v ds2 hd2 a1 b1 => ?_
    simp -dsimp
    split
    · refine ⟨by omega, ?_⟩
      refine ev_comp (fun done acc ρ => PoC (B + 1001 + done.length) most done.length ps.length acc ρ) ⟨ds2, ps, [], _, hd2.mono (by simp; omega), by simp, hpi, rfl, rfl, by simp, rfl⟩ ?_ ?_
      · rintro done d r acc ρ ha ⟨dsx, lf, ts, y4, hdx, hlf, hlw, rfl, hts, htw, rfl⟩
        obtain ⟨rfl, hdn⟩ := rngD_at ha
        simp -dsimp [tgName]
        refine spec_next hdx (by omega) (by omega) (by omega) fun v e1 he1 q1 q2 => ?_
        obtain ⟨x, hx, hx2, hp⟩ := pop_map (f := pt) q1 q2 (by omega)
        simp -dsimp [hp]
        refine ⟨by omega, e1, lf.eraseIdx v.toNat, ts ++ [x], _, he1.mono (by omega), ?_, fun q hq => hlw q (List.mem_of_mem_eraseIdx hq), by rw [List.map_append]; rfl, by simp [hts], fun q hq => ?_, rfl⟩
        · rw [List.length_eraseIdx, if_pos (by omega)]
          omega
        · simp at hq
          rcases hq with hq | hq
          · exact htw q hq
          · subst hq; exact hlw _ hx
      · rintro acc ρ ⟨dsx, lf, ts, y4, hdx, hlf, hlw, rfl, hts, htw, rfl⟩
        simp -dsimp
        simp at hdx hts
        exact ⟨dsx, ts, _, hdx.mono (by omega), by omega, htw, rfl⟩
    · exact ⟨ds2, ps, _, hd2.mono (by omega), hps, hpi, rfl⟩
  rintro fl ρ ⟨rfl, dsx, ts, x4, hdx, hts, htw, rfl⟩
  simp -dsimp
  refine spec_names hdx (by omega) (by omega) (by omega) fun ws ds3 hd3 hwl hnd hww => ?_
  simp -dsimp [zip_pt]
  have hz : (ws.zip ts).length ≤ 60 := by rw [List.length_zip]; omega
  refine ev_comp_pure (fun p : Str × (Int × Int) => PyData.tuple [PyData.str p.1, pt p.2]) ptn (fun _ => true) (by rw [Pd.B.sizeLine_eq]; omega) ?_ ?_
  · rintro ⟨w, x, y⟩ hx
    simp -dsimp [tgTup, tgCons, tgName, tgNil, pt, ptn]
  · intro ρ' hw
    simp -dsimp [hw]
    have hl : (ws.zip ts).map (·.1) <+: ws := zip_fst
    rw [filter_yes]
    refine k (ws.zip ts) ds3 (hd3.mono (by omega)) hz (hnd.sublist hl.sublist) fun p hp => ?_
    have := List.of_mem_zip hp
    exact ⟨hww _ this.1, htw _ this.2⟩
theorem valD_cons {p : Key × D} {l : List (Key × D)} {k : Key} : valD (p :: l) k = if p.1 = k then some p.2 else valD l k := by
  unfold valD
  rw [List.find?_cons]
  by_cases h : p.1 = k <;> simp [h]
@[simp] theorem valD_nil {k : Key} : valD [] k = none := rfl
theorem valD_none {l : List (Key × D)} {k : Key} : valD l k = none ↔ k ∉ l.map (·.1) := by
  induction l with
  | nil => simp
  | cons p l ih =>
    rw [valD_cons, List.map_cons, List.mem_cons]
    by_cases h : p.1 = k
    · simp [h]
    · rw [if_neg h, ih]
      constructor
      · intro q z
        rcases z with z | z
        · exact h z.symm
        · exact q z
      · intro q z
        exact q (Or.inr z)
theorem any_key {l : List (Key × D)} {k : Key} : (l.any fun kv => decide (kv.1 = k)) = true ↔ k ∈ l.map (·.1) := by
  rw [List.any_eq_true, List.mem_map]
  constructor
  · rintro ⟨x, h1, h2⟩; exact ⟨x, h1, of_decide_eq_true h2⟩
  · rintro ⟨x, h1, h2⟩; exact ⟨x, h1, decide_eq_true h2⟩
theorem putD_new {l : List (Key × D)} {k : Key} {d : D} (h : k ∉ l.map (·.1)) : putD l k d = l ++ [(k, d)] := by
  unfold putD
  rw [if_neg (fun z => h (any_key.mp z))]
open TL (tl numL)
abbrev tlS (x : Str) : List Nat := x.cps.toList
def figL (n : Int) : List Nat := (if n < 0 then [45] else []) ++ TL.numL n.natAbs
def figS (n : Int) : Str := ⟨(figL n).toArray⟩
theorem str_eq {x y : Str} (h : tlS x = tlS y) : x = y := TL.ext_tl h
theorem tlS_app (x y : Str) : tlS (x ++ y) = tlS x ++ tlS y := TL.tl_append x y
theorem len_tlS (x : Str) : x.length = (tlS x).length := TL.len_tl x
def lnS (p : Str × Int × Int) : Str := p.1 ++ " " ++ figS p.2.1 ++ " " ++ figS p.2.2
def txt (ps : List (Str × Int × Int)) : Str := Txt.join "\n" (ps.map lnS)
theorem fig_len {n : Int} (h : n.natAbs < 10 ^ 10) : (figS n).length ≤ 11 := by
  have h1 := TL.numL_len (n := n.natAbs) (k := 10) (by decide) h
  rw [len_tlS]
  show (figL n).length ≤ 11
  unfold figL
  rw [List.length_append]
  split
  · show 1 + _ ≤ 11; omega
  · show 0 + _ ≤ 11; omega
theorem app_len (x y : Str) : (x ++ y).length = x.length + y.length := by
  rw [len_tlS, tlS_app, List.length_append, ← len_tlS, ← len_tlS]
theorem spc_len : (" " : Str).length = 1 := rfl
theorem PnIn.bd {p : Str × Int × Int} (h : PnIn p) : p.1.length ≤ 8 ∧ p.2.1.natAbs < 10 ^ 10 ∧ p.2.2.natAbs < 10 ^ 10 := by
  obtain ⟨⟨_, h1, _⟩, h2, h3, h4, h5⟩ := h
  refine ⟨h1, by omega, by omega⟩
theorem ln_len {p : Str × Int × Int} (h : PnIn p) : (lnS p).length ≤ 32 := by
  obtain ⟨h1, h2, h3⟩ := h.bd
  have := fig_len h2
  have := fig_len h3
  unfold lnS
  rw [app_len, app_len, app_len, app_len, spc_len]
  omega
theorem sum_len {ps : List (Str × Int × Int)} (h : ∀ p ∈ ps, PnIn p) : ((ps.map lnS).map (·.length)).sum ≤ 32 * ps.length := by
  induction ps with
  | nil => simp
  | cons p ps ih =>
    have h1 := ln_len (h p (by simp))
    have h2 := ih fun q hq => h q (List.mem_cons_of_mem _ hq)
    simp only [List.map_cons, List.sum_cons, List.length_cons] at h2 ⊢
    omega
theorem abc_mem (c : Nat) : c ∈ ("abcdefghijklmnopqrstuvwxyz" : Str).cps.toList ↔ 97 ≤ c ∧ c ≤ 122 := by
  have e : ("abcdefghijklmnopqrstuvwxyz" : Str).cps.toList = (List.range 26).map (97 + ·) := rfl
  rw [e, List.mem_map]
  constructor
  · rintro ⟨k, hk, rfl⟩
    rw [List.mem_range] at hk
    omega
  · intro h
    exact ⟨c - 97, by rw [List.mem_range]; omega, by omega⟩
theorem dig_mem (c : Nat) : c ∈ ("0123456789" : Str).cps.toList ↔ 48 ≤ c ∧ c ≤ 57 := by
  have e : ("0123456789" : Str).cps.toList = (List.range 10).map (48 + ·) := rfl
  rw [e, List.mem_map]
  constructor
  · rintro ⟨k, hk, rfl⟩
    rw [List.mem_range] at hk
    omega
  · intro h
    exact ⟨c - 48, by rw [List.mem_range]; omega, by omega⟩
theorem atI_zero {α : Type} {c : α} {r : List α} : atI (c :: r) 0 = some c := by
  unfold atI
  have : ixN (c :: r).length 0 = some 0 := by simp [ixN]
  rw [this]
  rfl
theorem cut1_cons {c : Nat} {r : List Nat} : L2.cutS (⟨(c :: r).toArray⟩ : Str) none (some 1) = ⟨#[c]⟩ := by
  refine str_eq ?_
  show (((c :: r).drop 0).take _) = [c]
  have : HT.sIx (⟨(c :: r).toArray⟩ : Str).length (⟨(c :: r).toArray⟩ : Str).length (some 1) = 1 := by
    have := HT.sIx_nat (⟨(c :: r).toArray⟩ : Str).length (⟨(c :: r).toArray⟩ : Str).length 1
    rw [show ((1 : Nat) : Int) = 1 from rfl] at this
    rw [this, len_tlS]
    show min 1 (c :: r).length = 1
    rw [List.length_cons]
    omega
  rw [this]
  rfl
theorem cutr_cons {c : Nat} {r : List Nat} : L2.cutS (⟨(c :: r).toArray⟩ : Str) (some 1) none = ⟨r.toArray⟩ := by
  refine str_eq ?_
  have h0 : (⟨(c :: r).toArray⟩ : Str).length = r.length + 1 := by rw [len_tlS]; rfl
  have : HT.sIx (⟨(c :: r).toArray⟩ : Str).length 0 (some 1) = 1 := by
    have := HT.sIx_nat (⟨(c :: r).toArray⟩ : Str).length 0 1
    rw [show ((1 : Nat) : Int) = 1 from rfl] at this
    rw [this, h0]
    omega
  show (((c :: r).drop (HT.sIx (⟨(c :: r).toArray⟩ : Str).length 0 (some 1))).take (HT.sIx (⟨(c :: r).toArray⟩ : Str).length (⟨(c :: r).toArray⟩ : Str).length none - HT.sIx (⟨(c :: r).toArray⟩ : Str).length 0 (some 1))) = r
  rw [this, h0]
  show (r.take (r.length + 1 - 1)) = r
  simp
theorem fig_free {n : Int} {c : Nat} (h : c ≠ 45 ∧ (c < 48 ∨ 57 < c)) : c ∉ tlS (figS n) := by
  show c ∉ figL n
  unfold figL
  rw [List.mem_append]
  rintro (z | z)
  · split at z
    · simp at z; exact h.1 z
    · cases z
  · exact TL.numL_free h.2 z
theorem W_free {w : Str} {a b c : Nat} (h : W a b w) (hc : c < 97) : c ∉ tlS w := fun z => by
  have := h.2.2 c z
  omega
theorem txt_split {ps : List (Str × Int × Int)} (hne : ps ≠ []) (h : ∀ p ∈ ps, PnIn p) : Txt.split (txt ps) "\n" = ps.map lnS := by
  refine TL.split_join (s := 10) (S := []) rfl (by decide +kernel) (by simpa using hne) fun q hq => ?_
  obtain ⟨p, hp, rfl⟩ := List.mem_map.mp hq
  show 10 ∉ tlS (lnS p)
  unfold lnS
  simp only [tlS_app, List.mem_append]
  rintro ((((z | z) | z) | z) | z)
  · exact W_free (h p hp).1 (by omega) z
  · revert z; decide
  · exact fig_free ⟨by decide, Or.inl (by omega)⟩ z
  · revert z; decide
  · exact fig_free ⟨by decide, Or.inl (by omega)⟩ z
theorem txt_len {ps : List (Str × Int × Int)} (h : ∀ p ∈ ps, PnIn p) : (txt ps).length ≤ 33 * ps.length := by
  have key : ∀ ps : List (Str × Int × Int), (∀ p ∈ ps, PnIn p) → (Str.join "\n" (ps.map lnS)).length ≤ 33 * ps.length := by
    intro ps
    induction ps with
    | nil => intro _; exact Nat.zero_le _
    | cons p ps ih =>
      intro h
      have h1 := ln_len (h p (by simp))
      have h2 := ih fun q hq => h q (List.mem_cons_of_mem _ hq)
      cases ps with
      | nil =>
        show (lnS p).length ≤ _
        simp
        omega
      | cons q ps =>
        have e : (Str.join "\n" ((p :: q :: ps).map lnS)) = lnS p ++ "\n" ++ Str.join "\n" ((q :: ps).map lnS) := rfl
        rw [e, app_len, app_len]
        have h3 : ("\n" : Str).length = 1 := rfl
        rw [h3]
        simp only [List.length_cons] at h2 ⊢
        omega
  unfold txt
  rw [TL.join_eq]
  exact key ps h
theorem dig_at {i : Int} (h0 : 0 ≤ i) (h : i < 10) : atI ("0123456789" : Str).cps.toList i = some (48 + i.toNat) := by
  rcases (by omega : i = 0 ∨ i = 1 ∨ i = 2 ∨ i = 3 ∨ i = 4 ∨ i = 5 ∨ i = 6 ∨ i = 7 ∨ i = 8 ∨ i = 9) with e | e | e | e | e | e | e | e | e | e <;> subst e <;> rfl
theorem dig_len : ("0123456789" : Str).length = 10 := rfl
theorem dig_nat (m : Nat) : atI ("0123456789" : Str).cps.toList ((m : Int) % 10) = some (48 + m % 10) := by
  rw [dig_at (by omega) (by omega)]
  congr 1
def FgT (sg : Str) (N n : Nat) (ρ : Pd.Env) : Prop := ∃ (m : Nat) (t : Str) (x3 : Option Sl), TL.numL N = (if m < 10 then [] else TL.numL (m / 10)) ++ tlS t ∧ (m < 10 ∨ m * 10 ^ n ≤ N) ∧ t.length ≤ n + 1 ∧ ρ = [some (.p (.int (m : Nat))), some (.p (.str sg)), some (.p (.str t)), x3]
theorem fg_start (N : Nat) : TL.numL N = (if N < 10 then [] else TL.numL (N / 10)) ++ tlS ⟨#[48 + N % 10]⟩ := by
  by_cases h : N < 10
  · rw [if_pos h, TL.numL_lt h, Nat.mod_eq_of_lt h]; rfl
  · rw [if_neg h, TL.numL_step (by omega)]
theorem fg_next {N m : Nat} {t : Str} (h : TL.numL N = (if m < 10 then [] else TL.numL (m / 10)) ++ tlS t) (hm : ¬ m < 10) : TL.numL N = (if m / 10 < 10 then [] else TL.numL (m / 10 / 10)) ++ tlS ((⟨#[48 + m / 10 % 10]⟩ : Str) ++ t) := by
  rw [if_neg hm] at h
  rw [h, fg_start (m / 10), tlS_app, List.append_assoc]
theorem one_len (c : Nat) (t : Str) : ((⟨#[c]⟩ : Str) ++ t).length = t.length + 1 := by
  rw [len_tlS, tlS_app, List.length_append, ← len_tlS t]
  show 1 + t.length = _
  omega
theorem fg_body {sg : Str} {N : Nat} {done r : List D} {d : D} {ρ : Pd.Env} (ha : rngD 0 30 = done ++ d :: r) (hI : FgT sg N done.length ρ) : Pd.envQ (fun ρ1 => Ev (gIf (mTest (eBin (eName 0) (eC (.int 9)) oGt))
    (gSeq (gSet 0 (eBin (eName 0) (eC (.int 10)) oDiv))
    (gSet 2 (eBin (eBin (eC (.str "0123456789")) (eBin (eName 0) (eC (.int 10)) oMod) oIx) (eName 2) oAdd)))
    gNext) ρ1 fun fl ρ2 => (fl = .nx ∨ fl = .ct) ∧ FgT sg N (done ++ [d]).length ρ2) (tgName 3 d ρ) := by
  obtain ⟨m, t, x3, h1, h2, h3, rfl⟩ := hI
  obtain ⟨rfl, hdn⟩ := rngD_at ha
  have e8 := dig_nat (m / 10)
  have e7 : (m : Int) / 10 = ((m / 10 : Nat) : Int) := by omega
  rw [← e7] at e8
  by_cases hm : m < 10
  · simp -dsimp [tgName, show ¬ (9 : Int) < (m : Int) by omega]
    exact ⟨m, t, _, h1, Or.inl hm, by omega, rfl⟩
  · simp -dsimp [tgName, show (9 : Int) < (m : Int) by omega, dig_len, e8]
    refine ⟨cdiv (by omega) (by omega), ?_, m / 10, _, _, fg_next h1 hm, ?_, ?_, by rw [e7]⟩
    · show 1 + t.length ≤ 16777216
      omega
    · rcases h2 with h2 | h2
      · exact absurd h2 hm
      · refine Or.inr (Nat.le_trans ?_ h2)
        rw [Nat.pow_succ, Nat.mul_comm (10 ^ _) 10, ← Nat.mul_assoc]
        exact Nat.mul_le_mul_right _ (by omega)
    · rw [one_len]
      omega
theorem neg_len : ("-" : Str).length = 1 := rfl
theorem emp_len : ("" : Str).length = 0 := rfl
theorem spec_figures (n : Int) (hn : n.natAbs < 10 ^ 30) (Q : Sl → List Sl → Prop) : Sp m_law_figures [.p (.int n)] Q ↔ Q (.p (.str (figS n))) [.p (.int n)] := by
  refine sp_iff ?_ Q
  unfold m_law_figures
  rw [sp_mkF]
  by_cases h : n < 0
  all_goals
    have e9 := dig_nat n.natAbs
    simp -dsimp [g_law_figures, h, dig_len, e9]
  · refine ev_loop (fun done ρ => FgT "-" n.natAbs done.length ρ) ⟨n.natAbs, _, _, fg_start _, Or.inr (by simp), by show (1 : Nat) ≤ 1; omega, rfl⟩ ?_ ?_
    · intro done d r ρ ha hI
      exact fg_body ha hI
    · rintro ρ ⟨m, t, x3, h1, h2, h3, rfl⟩
      simp at h2 h3
      simp -dsimp
      rw [if_pos (by omega), List.nil_append] at h1
      refine ⟨by rw [neg_len]; omega, str_eq ?_⟩
      rw [tlS_app, ← h1]
      unfold figS figL
      rw [if_pos h]
      rfl
  · refine ev_loop (fun done ρ => FgT "" n.natAbs done.length ρ) ⟨n.natAbs, _, _, fg_start _, Or.inr (by simp), by show (1 : Nat) ≤ 1; omega, rfl⟩ ?_ ?_
    · intro done d r ρ ha hI
      exact fg_body ha hI
    · rintro ρ ⟨m, t, x3, h1, h2, h3, rfl⟩
      simp at h2 h3
      simp -dsimp
      rw [if_pos (by omega), List.nil_append] at h1
      refine ⟨by rw [emp_len]; omega, str_eq ?_⟩
      rw [tlS_app, ← h1]
      unfold figS figL
      rw [if_neg h]
      rfl
theorem spec_law_text (ps : List (Str × Int × Int)) (hl : ps.length ≤ 100) (hp : ∀ p ∈ ps, PnIn p) (Q : Sl → List Sl → Prop) : Sp m_law_text [.p (.tuple (ps.map ptn))] Q ↔ Q (.p (.str (txt ps))) [.p (.tuple (ps.map ptn))] := by
  refine sp_iff ?_ Q
  unfold m_law_text
  rw [sp_mkF]
  simp -dsimp [g_law_text]
  refine ev_comp_pure ptn (fun p => .str (lnS p)) (fun _ => true) (by rw [Pd.B.sizeLine_eq]; omega) (fun p hpm => ?_) ?_
  · obtain ⟨h1, h2, h3⟩ := (hp p hpm).bd
    have l1 := fig_len h2
    have l2 := fig_len h3
    have f1 := fun Q => spec_figures p.2.1 (Nat.lt_of_lt_of_le h2 (by decide)) Q
    have f2 := fun Q => spec_figures p.2.2 (Nat.lt_of_lt_of_le h3 (by decide)) Q
    obtain ⟨w, x, y⟩ := p
    simp -dsimp [tgTup, tgCons, tgName, tgNil, ptn] at f1 f2 ⊢
    simp -dsimp [f1, f2, app_len, spc_len]
    simp only at h1 l1 l2
    exact ⟨by omega, by omega, by omega, by omega, rfl⟩
  · intro ρ1 hw1
    have e : Pd.strs? (ps.map fun p => PyData.str (lnS p)) = some (ps.map lnS) := Pd.B.strs_mapf
    have hc : CJoin ("\n" : Str) (ps.map lnS) := by
      unfold CJoin
      have := sum_len hp
      have h1 : ("\n" : Str).length = 1 := rfl
      rw [h1, List.length_map]
      omega
    simp -dsimp [hw1, filter_yes, e, hc]
    rfl
def nmB (w : Str) : Bool := decide (1 ≤ w.length) && (decide (w.length ≤ 8) && (tlS w).all fun c => decide (97 ≤ c ∧ c ≤ 122))
theorem abc_dec (c : Nat) : inS ⟨#[c]⟩ ("abcdefghijklmnopqrstuvwxyz" : Str) = decide (97 ≤ c ∧ c ≤ 122) := by
  rw [inS_one]
  exact decide_eq_decide.mpr (abc_mem c)
theorem dig_dec (c : Nat) : inS ⟨#[c]⟩ ("0123456789" : Str) = decide (48 ≤ c ∧ c ≤ 57) := by
  rw [inS_one]
  exact decide_eq_decide.mpr (dig_mem c)
theorem spec_is_point_name (w : Str) (hw : w.length ≤ 100000) (Q : Sl → List Sl → Prop) : Sp m_is_point_name [.p (.str w)] Q ↔ Q (.p (.bool (nmB w))) [.p (.str w)] := by
  have hz : (tlS w).length < sizeLine := by rw [← len_tlS, Pd.B.sizeLine_eq]; omega
  refine sp_iff ?_ Q
  unfold m_is_point_name
  rw [sp_mkF]
  by_cases h1 : 1 ≤ w.length
  · have b1 : (1 : Int) ≤ (w.length : Int) := by omega
    by_cases h2 : w.length ≤ 8
    · have b2 : (w.length : Int) ≤ 8 := by omega
      simp -dsimp [g_is_point_name, b1, b2, strSigns]
      refine ⟨by omega, ?_⟩
      refine ev_comp_pure (fun c : Nat => PyData.str ⟨#[c]⟩) (fun c => .bool (decide (97 ≤ c ∧ c ≤ 122))) (fun _ => true) hz (fun c hc => ?_) ?_
      · simp -dsimp [tgName, abc_dec]
      · intro ρ1 hw1
        simp -dsimp [hw1, filter_yes, Pd.B.bools_mapf, nmB, h1, h2]
    · have b2 : ¬ (w.length : Int) ≤ 8 := by omega
      simp -dsimp [g_is_point_name, b1, b2, nmB, h1, h2]
      omega
  · have b1 : ¬ (1 : Int) ≤ (w.length : Int) := by omega
    simp -dsimp [g_is_point_name, b1, nmB, h1]
    omega
theorem spec_law_is_name (w : Str) (hw : w.length ≤ 100000) (Q : Sl → List Sl → Prop) : Sp m_law_is_name [.p (.str w)] Q ↔ Q (.p (.bool (nmB w))) [.p (.str w)] := by
  have hz : (tlS w).length < sizeLine := by rw [← len_tlS, Pd.B.sizeLine_eq]; omega
  refine sp_iff ?_ Q
  unfold m_law_is_name
  rw [sp_mkF]
  simp -dsimp [g_law_is_name, strSigns]
  refine ev_comp_pure (fun c : Nat => PyData.str ⟨#[c]⟩) (fun c => .str ⟨#[c]⟩) (fun c => decide (97 ≤ c ∧ c ≤ 122)) hz (fun c hc => ?_) ?_
  · simp -dsimp [tgName, abc_dec]
  · intro ρ1 hw1
    have hl : w.length = (tlS w).length := len_tlS w
    by_cases h1 : 1 ≤ w.length
    · have b1 : (0 : Int) < (w.length : Int) := by omega
      have b1' : 0 < w.length := by omega
      by_cases h2 : w.length ≤ 8
      · have b2 : (w.length : Int) < 9 := by omega
        have key : decide ((((tlS w).filter fun c => decide (97 ≤ c ∧ c ≤ 122)).length : Int) = (w.length : Int)) = (tlS w).all fun c => decide (97 ≤ c ∧ c ≤ 122) := by
          rw [Bool.eq_iff_iff, decide_eq_true_iff, hl, Int.ofNat_inj, List.length_filter_eq_length_iff, List.all_eq_true]
        unfold nmB
        rw [← key]
        simp -dsimp [hw1, b1, b1', b2, h1, h2]
        omega
      · have b2 : ¬ (w.length : Int) < 9 := by omega
        simp -dsimp [hw1, b1, b1', b2, nmB, h1, h2]
        omega
    · have b1 : ¬ (0 : Int) < (w.length : Int) := by omega
      have b1' : ¬ 0 < w.length := by omega
      simp -dsimp [hw1, b1, b1', nmB, h1]
      omega
def dgB (c : Nat) : Bool := decide (48 ≤ c ∧ c ≤ 57)
def nuL (w : Str) : List Nat := if (tlS w).head? = some 45 then (tlS w).tail else tlS w
def fgs (w : Str) : Str := ⟨(nuL w).toArray⟩
def nuB (w : Str) : Bool := (nuL w).all dgB && (decide (nuL w ≠ []) && (decide ((nuL w).head? ≠ some 48) || decide (w = "0")))
def nuV (w : Str) : Int := (if (tlS w).head? = some 45 then -1 else 1) * (NumText.digitsVal (nuL w) : Nat)
theorem sgn_eq {c d : Nat} : ((⟨#[c]⟩ : Str) = ⟨#[d]⟩) ↔ c = d := by
  constructor
  · intro z
    have := congrArg tlS z
    have z2 : [c] = [d] := this
    simpa using z2
  · rintro rfl; rfl
theorem str_cases (w : Str) : w = "" ∨ ∃ c r, w = ⟨(c :: r).toArray⟩ := by
  cases e : tlS w with
  | nil => exact Or.inl (str_eq e)
  | cons c r => exact Or.inr ⟨c, r, str_eq e⟩
theorem cut1_is {w : Str} : (L2.cutS w none (some 1) = "-") ↔ (tlS w).head? = some 45 := by
  rcases str_cases w with rfl | ⟨c, r, rfl⟩
  · constructor
    · intro h
      have e1 : L2.cutS ("" : Str) none (some 1) = "" := rfl
      rw [e1] at h
      revert h
      decide
    · intro h
      cases h
  · rw [cut1_cons]
    have := @sgn_eq c 45
    rw [show (⟨#[45]⟩ : Str) = "-" from rfl] at this
    rw [this]
    show _ ↔ some c = some 45
    simp
theorem cutr_is {w : Str} : L2.cutS w (some 1) none = ⟨(tlS w).tail.toArray⟩ := by
  rcases str_cases w with rfl | ⟨c, r, rfl⟩
  · rfl
  · rw [cutr_cons]
    rfl
theorem tl_emp {w : Str} : w = "" ↔ tlS w = [] := by
  constructor
  · rintro rfl; rfl
  · intro h; exact str_eq h
theorem sg_zero {c : Nat} : (⟨#[c]⟩ : Str) = "0" ↔ c = 48 := by
  have := @sgn_eq c 48
  rw [show (⟨#[48]⟩ : Str) = "0" from rfl] at this
  exact this
theorem fgs_tl {w : Str} : tlS (fgs w) = nuL w := rfl
theorem fgs_len {w : Str} : (fgs w).length ≤ w.length := by
  rw [len_tlS, len_tlS, fgs_tl]
  unfold nuL
  split
  · rw [List.length_tail]; omega
  · exact Nat.le_refl _
theorem fgs_emp {w : Str} : fgs w = "" ↔ nuL w = [] := tl_emp
theorem spec_is_number_word (w : Str) (hw : w.length ≤ 100000) (Q : Sl → List Sl → Prop) : Sp m_is_number_word [.p (.str w)] Q ↔ Q (.p (.bool (nuB w))) [.p (.str w)] := by
  refine sp_iff ?_ Q
  unfold m_is_number_word
  rw [sp_mkF]
  by_cases hw0 : w = "0"
  · subst hw0
    have e1 : ¬ L2.cutS ("0" : Str) none (some 1) = "-" := by decide +kernel
    have e2 : ¬ (("0" : Str) = "") := by decide
    have e3 : strSigns ("0" : Str) = [48].map fun c => PyData.str ⟨#[c]⟩ := rfl
    have e4 : atI ("0" : Str).cps.toList 0 = some 48 := rfl
    have e5 : (⟨#[48]⟩ : Str) = "0" := rfl
    have e6 : nuB "0" = true := rfl
    have e7 : ("0" : Str).length ≤ 16777216 := by decide
    have e8 : (("0" : Str).length : Int) ≤ 16777216 := by decide
    simp -dsimp [g_is_number_word, e1, e2, e3, -List.map_cons, e7]
    refine ev_comp_pure (fun c : Nat => PyData.str ⟨#[c]⟩) (fun c => .bool (dgB c)) (fun _ => true) (l := [48]) (by rw [Pd.B.sizeLine_eq]; decide) (fun c hc => ?_) ?_
    · simp -dsimp [tgName, dig_dec, dgB]
    · intro ρ1 hw1
      have e9 : ([48].map dgB).all id = true := rfl
      simp -dsimp [hw1, filter_yes, Pd.B.bools_mapf, e9, e4, e5, e6, e7, -List.map_cons]
  simp -dsimp [g_is_number_word, -ev_gIf]
  refine Ev.mono (Q := fun fl ρ1 => fl = .nx ∧ ρ1 = [some (.p (.str w)), some (.p (.str (fgs w))), none]) ?_ ?_
  · have hc := @cut1_is w
    by_cases h : (tlS w).head? = some 45
    · have e : fgs w = ⟨(tlS w).tail.toArray⟩ := by unfold fgs nuL; rw [if_pos h]
      have h1 := hc.mpr h
      simp -dsimp [h1, cutr_is, e]
      omega
    · have e : fgs w = w := by unfold fgs nuL; rw [if_neg h]
      have h1 : ¬ L2.cutS w none (some 1) = "-" := fun z => h (hc.mp z)
      simp -dsimp [h1, e]
      omega
  rintro fl ρ ⟨rfl, rfl⟩
  have hfl := @fgs_len w
  have sz := Pd.B.sizeLine_eq
  have hz : (nuL w).length < sizeLine := by rw [← fgs_tl, ← len_tlS, Pd.B.sizeLine_eq]; omega
  by_cases h0 : nuL w = []
  · have h1 := fgs_emp.mpr h0
    have e : nuB w = false := by unfold nuB; rw [h0]; rfl
    simp -dsimp [h1, e]
  · have h1 : ¬ fgs w = "" := fun z => h0 (fgs_emp.mp z)
    have hsg : strSigns (fgs w) = (nuL w).map fun c => PyData.str ⟨#[c]⟩ := rfl
    simp -dsimp [h1, hsg]
    refine ev_comp_pure (fun c : Nat => PyData.str ⟨#[c]⟩) (fun c => .bool (dgB c)) (fun _ => true) hz (fun c hc => ?_) ?_
    · simp -dsimp [tgName, dig_dec, dgB]
    · intro ρ1 hw1
      cases ha : (nuL w).all dgB with
      | false =>
        have e : nuB w = false := by unfold nuB; rw [ha]; rfl
        simp -dsimp [hw1, filter_yes, Pd.B.bools_mapf, ha, e]
      | true =>
        obtain ⟨c, r, e⟩ : ∃ c r, nuL w = c :: r := by
          cases e : nuL w with
          | nil => exact absurd e h0
          | cons c r => exact ⟨c, r, rfl⟩
        have hat : atI (nuL w) 0 = some c := by rw [e]; exact atI_zero
        have hat2 : atI (fgs w).cps.toList 0 = some c := hat
        have en : nuB w = (decide (c ≠ 48) || decide (w = "0")) := by
          have h48 : decide ((nuL w).head? ≠ some 48) = decide (c ≠ 48) := by
            rw [e]
            exact decide_eq_decide.mpr (by simp)
          unfold nuB
          rw [ha, h48, decide_eq_true h0]
          simp
        by_cases h48 : c = 48 <;> simp -dsimp [hw1, filter_yes, Pd.B.bools_mapf, ha, en, hat2, sg_zero, h48, hw0]
        all_goals omega
theorem dig_find {c : Nat} (h : 48 ≤ c ∧ c ≤ 57) : Txt.find ("0123456789" : Str) ⟨#[c]⟩ = ((c - 48 : Nat) : Int) := by
  rcases (by omega : c = 48 ∨ c = 49 ∨ c = 50 ∨ c = 51 ∨ c = 52 ∨ c = 53 ∨ c = 54 ∨ c = 55 ∨ c = 56 ∨ c = 57) with e | e | e | e | e | e | e | e | e | e <;> subst e <;> decide +kernel
theorem dig_lt0 : ∀ (l : List Nat) (a : Nat), NumText.AllDigits l → l.foldl (fun acc c => acc * 10 + (c - 48)) a < (a + 1) * 16 ^ l.length
  | [], a, _ => by simp
  | c :: l, a, h => by
    have hc := h c (by simp)
    have := dig_lt0 l (a * 10 + (c - 48)) fun d hd => h d (List.mem_cons_of_mem _ hd)
    rw [List.foldl_cons]
    refine Nat.lt_of_lt_of_le this ?_
    rw [List.length_cons, Nat.pow_succ, Nat.mul_comm (16 ^ _) 16, ← Nat.mul_assoc]
    exact Nat.mul_le_mul_right _ (by omega)
theorem dig_lt {l : List Nat} (h : NumText.AllDigits l) : NumText.digitsVal l < 2 ^ (4 * l.length) := by
  have := dig_lt0 l 0 h
  rw [Nat.pow_mul]
  unfold NumText.digitsVal
  simpa using this
def NoL (w : Str) (sg : Int) (n : Nat) (ρ : Pd.Env) : Prop := NumText.AllDigits ((nuL w).take n) ∧ ∃ x4 : Option Sl, ρ = [some (.p (.str w)), some (.p (.int (NumText.digitsVal ((nuL w).take n) : Nat))), some (.p (.int sg)), some (.p (.str (fgs w))), x4]
def nuD (w : Str) : List D := if nuB w then [.int (nuV w)] else []
theorem cut0_is {w : Str} : L2.cutS w (some 0) none = w := by
  refine str_eq ?_
  show ((tlS w).drop (HT.sIx w.length 0 (some 0))).take (HT.sIx w.length w.length none - HT.sIx w.length 0 (some 0)) = tlS w
  have : HT.sIx w.length 0 (some 0) = 0 := by
    have := HT.sIx_nat w.length 0 0
    simpa using this
  rw [this, HT.sIx_none, List.drop_zero, Nat.sub_zero, len_tlS, List.take_length]
theorem all_dg {l : List Nat} : l.all dgB = true ↔ NumText.AllDigits l := by
  rw [List.all_eq_true]
  unfold NumText.AllDigits dgB
  constructor
  · intro h c hc
    exact of_decide_eq_true (h c hc)
  · intro h c hc
    exact decide_eq_true (h c hc)
theorem spec_number_of (w : Str) (hw : w.length ≤ 100000) (Q : Sl → List Sl → Prop) : Sp m_law_number_of [.p (.str w)] Q ↔ Q (.ml none (nuD w)) [.p (.str w)] := by
  have sz := Pd.B.sizeLine_eq
  have hfl := @fgs_len w
  have hnl : (nuL w).length ≤ w.length := by rw [← fgs_tl, ← len_tlS]; exact hfl
  refine sp_iff ?_ Q
  unfold m_law_number_of
  rw [sp_mkF]
  by_cases hw0 : w = "0"
  · subst hw0
    have e1 : ¬ L2.cutS ("0" : Str) none (some 1) = "-" := by decide +kernel
    have e2 : ¬ (("0" : Str) = "") := by decide
    have e3 : strSigns ("0" : Str) = [.str "0"] := rfl
    have e4 : atI ("0" : Str).cps.toList 0 = some 48 := rfl
    have e5 : (⟨#[48]⟩ : Str) = "0" := rfl
    have e6 : nuD "0" = [.int 0] := rfl
    have e7 : ("0" : Str).length ≤ 16777216 := by decide
    have e8 : Txt.find ("0123456789" : Str) "0" = 0 := by decide +kernel
    have e9 : inS "0" ("0123456789" : Str) = true := by decide +kernel
    have e10 : CMulW 10 0 := cmul (by omega) (by omega)
    have e11 : CMulW 1 0 := cmul (by omega) (by omega)
    simp -dsimp [g_law_number_of, e1, e2, e3, e4, e5, e6, e7, e8, e9, e10, e11, cut0_is, tgName]
    rw [ev_loop_cons]
    simp -dsimp [g_law_number_of, e1, e2, e3, e4, e5, e6, e7, e8, e9, e10, e11, cut0_is, tgName]
  have hc := @cut1_is w
  have hsg : strSigns (fgs w) = (nuL w).map fun c => PyData.str ⟨#[c]⟩ := rfl
  have hcr : (tlS w).head? = some 45 → L2.cutS w (some 1) none = fgs w := fun h => by
    rw [cutr_is]; unfold fgs nuL; rw [if_pos h]
  have hc0 : ¬ (tlS w).head? = some 45 → L2.cutS w (some 0) none = fgs w := fun h => by
    rw [cut0_is]; unfold fgs nuL; rw [if_neg h]
  by_cases h : (tlS w).head? = some 45
  all_goals
    first
      | have hf := hcr h
      | have hf := hc0 h
    simp -dsimp [g_law_number_of, hc, h, hf, hsg]
    have hV : nuV w = (if (tlS w).head? = some 45 then -1 else 1) * (NumText.digitsVal (nuL w) : Nat) := rfl
    simp -dsimp [h] at hV
    refine ⟨by omega, ?_⟩
    refine ev_loopX (fun done ρ => NoL w _ done.length ρ) ⟨by intro c hc; simp at hc, none, rfl⟩ ?_ ?_
    · rintro done d r ρ ha ⟨hd, x4, rfl⟩
      obtain ⟨c, hx, rfl, hlt, hm⟩ := map_at ha
      have htk := take_next hx
      cases hcd : dgB c with
      | false =>
        have en : nuB w = false := by
          have : (nuL w).all dgB = false := by
            rw [List.all_eq_false]
            exact ⟨c, hm, by simp [hcd]⟩
          unfold nuB
          rw [this]; rfl
        have hcd2 : decide (48 ≤ c ∧ c ≤ 57) = false := hcd
        have eD : nuD w = [] := by unfold nuD; rw [en]; rfl
        simp -dsimp [tgName, dig_dec, hcd2, eD]
      | true =>
        have hcd2 : decide (48 ≤ c ∧ c ≤ 57) = true := hcd
        have hcd3 := of_decide_eq_true hcd2
        have hv := NumText.digitsVal_snoc ((nuL w).take done.length) c
        have hdl := dig_lt hd
        simp -dsimp [tgName, dig_dec, hcd2, dig_find hcd3]
        refine ⟨?_, ?_, some (.p (.str ⟨#[c]⟩)), ?_⟩
        · refine wide_mul (a := 4) (b := 400000) (by decide) ?_ (by decide) (by decide) (by decide)
          rw [Int.natAbs_natCast]
          refine Nat.lt_of_lt_of_le hdl (Nat.pow_le_pow_right (Nat.succ_pos 1) ?_)
          rw [List.length_take]
          omega
        · rw [htk]
          intro d hd2
          rcases List.mem_append.mp hd2 with z | z
          · exact hd d z
          · rw [List.mem_singleton] at z; subst z; exact hcd3
        · have e9 : 10 * ((NumText.digitsVal ((nuL w).take done.length) : Nat) : Int) + ((c - 48 : Nat) : Int) = ((NumText.digitsVal ((nuL w).take done.length) * 10 + (c - 48) : Nat) : Int) := by omega
          rw [htk, hv, e9]
    · rintro ρ ⟨hd, x4, rfl⟩
      rw [List.length_map, List.take_length] at hd ⊢
      have hdl := dig_lt hd
      have hall := all_dg.mpr hd
      by_cases h0 : nuL w = []
      · have h1 := fgs_emp.mpr h0
        have e : nuD w = [] := by unfold nuD nuB; rw [h0]; rfl
        simp -dsimp [h1, e]
      · have h1 : ¬ fgs w = "" := fun z => h0 (fgs_emp.mp z)
        obtain ⟨c, r, e⟩ : ∃ c r, nuL w = c :: r := by
          cases e : nuL w with
          | nil => exact absurd e h0
          | cons c r => exact ⟨c, r, rfl⟩
        have hat : atI (nuL w) 0 = some c := by rw [e]; exact atI_zero
        have hat2 : atI (fgs w).cps.toList 0 = some c := hat
        have en : nuB w = (decide (c ≠ 48) || decide (w = "0")) := by
          have h48 : decide ((nuL w).head? ≠ some 48) = decide (c ≠ 48) := by
            rw [e]
            exact decide_eq_decide.mpr (by simp)
          unfold nuB
          rw [hall, h48, decide_eq_true h0]
          simp
        have eD : nuD w = if nuB w then [.int (nuV w)] else [] := rfl
        have hmul : ∀ s : Int, s.natAbs ≤ 1 → CMulW s ((NumText.digitsVal (nuL w) : Nat) : Int) := fun s hs => by
          refine wide_mul (a := 1) (b := 400000) (by omega) ?_ (by decide) (by decide) (by decide)
          rw [Int.natAbs_natCast]
          exact Nat.lt_of_lt_of_le hdl (Nat.pow_le_pow_right (by decide) (by omega))
        by_cases h48 : c = 48 <;> simp -dsimp [eD, en, hat2, sg_zero, h1, h48, hw0, hV]
        all_goals first
          | omega
          | exact ⟨by omega, hmul _ (by decide)⟩
theorem spX_iff {F : FX} {ss : List Sl} {out : OutF} (h : SpX F ss fun o => o = out) (Q : OutF → Prop) : SpX F ss Q ↔ Q out := by
  obtain ⟨o, e, rfl⟩ := h
  constructor
  · rintro ⟨o', e', q⟩
    rw [e] at e'
    cases e'
    exact q
  · intro q
    exact ⟨_, e, q⟩
theorem nu_dg {w : Str} (h : nuB w = true) : NumText.AllDigits (nuL w) ∧ nuL w ≠ [] ∧ ((nuL w).head? ≠ some 48 ∨ w = "0") := by
  unfold nuB at h
  rw [Bool.and_eq_true, Bool.and_eq_true, Bool.or_eq_true, decide_eq_true_iff, decide_eq_true_iff, decide_eq_true_iff] at h
  exact ⟨all_dg.mp h.1, h.2.1, h.2.2⟩
theorem tl_neg {w : Str} (h : (tlS w).head? = some 45) : tlS w = 45 :: nuL w := by
  unfold nuL
  rw [if_pos h]
  cases e : tlS w with
  | nil => rw [e] at h; cases h
  | cons c r =>
    rw [e] at h
    cases h
    rfl
theorem nu_text {w : Str} (h : nuB w = true) (hl : w.length ≤ 4300) : PySem.intText? w = some (nuV w) := by
  obtain ⟨h1, h2, _⟩ := nu_dg h
  unfold nuV
  by_cases hn : (tlS w).head? = some 45
  · rw [PySem.intText_neg (tl_neg hn) h1 h2 hl, if_pos hn]
    congr 1
    omega
  · have e : nuL w = tlS w := by unfold nuL; rw [if_neg hn]
    rw [e] at h1 h2
    rw [PySem.intText_digits h1 h2 hl, if_neg hn, e, Int.one_mul]
theorem dig_ge : ∀ (l : List Nat) (a : Nat), a * 10 ^ l.length ≤ l.foldl (fun acc c => acc * 10 + (c - 48)) a
  | [], a => by simp
  | c :: l, a => by
    rw [List.foldl_cons]
    refine Nat.le_trans ?_ (dig_ge l _)
    rw [List.length_cons, Nat.pow_succ, Nat.mul_comm (10 ^ _) 10, ← Nat.mul_assoc]
    exact Nat.mul_le_mul_right _ (by omega)
theorem nu_len {w : Str} (h : nuB w = true) (hb : (nuV w).natAbs < 10 ^ 10) : w.length ≤ 11 := by
  obtain ⟨h1, h2, h3⟩ := nu_dg h
  rcases h3 with h3 | rfl
  · obtain ⟨c, r, e⟩ : ∃ c r, nuL w = c :: r := by
      cases e : nuL w with
      | nil => exact absurd e h2
      | cons c r => exact ⟨c, r, rfl⟩
    have hc := h1 c (by rw [e]; simp)
    have hc8 : c ≠ 48 := fun z => h3 (by rw [e, z]; rfl)
    have hv : (nuV w).natAbs = NumText.digitsVal (nuL w) := by
      unfold nuV
      split <;> omega
    have hge := dig_ge r (c - 48)
    have hd : NumText.digitsVal (nuL w) = r.foldl (fun acc c => acc * 10 + (c - 48)) (c - 48) := by
      rw [e]
      show r.foldl _ (0 * 10 + (c - 48)) = _
      rw [Nat.zero_mul, Nat.zero_add]
    have hlt : 10 ^ r.length < 10 ^ 10 := by
      refine Nat.lt_of_le_of_lt ?_ hb
      rw [hv, hd]
      refine Nat.le_trans ?_ hge
      exact Nat.le_mul_of_pos_left _ (by omega)
    have hr : r.length < 10 := (Nat.pow_lt_pow_iff_right (by decide)).mp hlt
    have hl : w.length ≤ (nuL w).length + 1 := by
      rw [len_tlS]
      unfold nuL
      split
      · rw [List.length_tail]; omega
      · omega
    rw [e, List.length_cons] at hl
    omega
  · decide
theorem join_cons {s p q : Str} {r : List Str} : Str.join s (p :: q :: r) = p ++ s ++ Str.join s (q :: r) := rfl
theorem join_len {s : Str} : ∀ {ps : List Str}, (∀ p ∈ ps, p.length ≤ (Str.join s ps).length) ∧ (s.length = 1 → ps.length ≤ (Str.join s ps).length + 1)
  | [] => ⟨by simp, fun _ => Nat.zero_le _⟩
  | [p] => ⟨fun q hq => by rw [List.mem_singleton] at hq; subst hq; exact Nat.le_refl _, fun _ => by simp⟩
  | p :: q :: r => by
    obtain ⟨h1, h2⟩ := join_len (s := s) (ps := q :: r)
    rw [join_cons, app_len, app_len]
    refine ⟨fun x hx => ?_, fun hs => ?_⟩
    · rcases List.mem_cons.mp hx with rfl | hx
      · omega
      · have := h1 x hx; omega
    · have := h2 hs
      rw [List.length_cons]
      omega
theorem split_len {x y : Str} (hy : y.length = 1) : (∀ p ∈ Txt.split x y, p.length ≤ x.length) ∧ (Txt.split x y).length ≤ x.length + 1 := by
  have h := StrLaws.join_split x y
  obtain ⟨h1, h2⟩ := join_len (s := y) (ps := Txt.split x y)
  rw [h] at h1 h2
  exact ⟨h1, h2 hy⟩
def lineB (fnd : List (Str × Int × Int)) (l : Str) : Option (Str × Int × Int) :=
  match Txt.split l " " with
  | [a, b, c] => if (nmB a = true ∧ a ∉ fnd.map (·.1)) ∧ nuB b = true ∧ nuB c = true then some (a, nuV b, nuV c) else none
  | _ => none
def goL : List (Str × Int × Int) → List Str → List (Str × Int × Int) × Bool
  | fnd, [] => (fnd, true)
  | fnd, l :: ls => match lineB fnd l with
    | some p => goL (fnd ++ [p]) ls
    | none => (fnd, false)
def dueP (t : Str) : List (Str × Int × Int) × Bool := if t = "" then ([], true) else goL [] (Txt.split t "\n")
def dueD (t : Str) : D := if (dueP t).2 = true then .tuple ((dueP t).1.map ptn) else .int ((dueP t).1.length : Nat)
theorem three_or (l : List Str) : (∃ a b c, l = [a, b, c]) ∨ l.length ≠ 3 := by
  match l with
  | [] => right; decide
  | [_] => right; simp
  | [_, _] => right; simp
  | [a, b, c] => left; exact ⟨a, b, c, rfl⟩
  | _ :: _ :: _ :: _ :: _ => right; simp
theorem lineB_no {fnd : List (Str × Int × Int)} {l : Str} (h : (Txt.split l " ").length ≠ 3) : lineB fnd l = none := by
  unfold lineB
  split
  · rename_i a b c e
    rw [e] at h
    exact absurd rfl h
  · rfl
theorem lineB_3 {fnd : List (Str × Int × Int)} {l a b c : Str} (h : Txt.split l " " = [a, b, c]) : lineB fnd l = if (nmB a = true ∧ a ∉ fnd.map (·.1)) ∧ nuB b = true ∧ nuB c = true then some (a, nuV b, nuV c) else none := by
  unfold lineB
  rw [h]
theorem goL_drop {fnd : List (Str × Int × Int)} {ls : List Str} {n : Nat} {l : Str} (h : ls[n]? = some l) : goL fnd (ls.drop n) = match lineB fnd l with
    | some p => goL (fnd ++ [p]) (ls.drop (n + 1))
    | none => (fnd, false) := by
  obtain ⟨hn, rfl⟩ := List.getElem?_eq_some_iff.mp h
  rw [List.drop_eq_getElem_cons hn]
  rfl
theorem any_nm {fnd : List (Str × Int × Int)} {a : Str} : fnd.any ((fun y => PyData.eqv y (PyData.str a)) ∘ fun p => PyData.str p.1) = decide (a ∈ fnd.map (·.1)) := by
  rw [← any_str, List.any_map, List.any_map]
  rfl
def DuL (t : Str) (ls : List Str) (n : Nat) (ρ : Pd.Env) : Prop := ∃ (fnd : List (Str × Int × Int)) (x2 x3 x4 : Option Sl), fnd.length = n ∧ goL [] ls = goL fnd (ls.drop n) ∧ ρ = [some (.p (.str t)), some (.ml none (fnd.map ptn)), x2, x3, x4, none]
theorem spec_law_due (t : Str) (ht : t.length ≤ 100000) (Q : Sl → List Sl → Prop) : Sp m_law_due [.p (.str t)] Q ↔ Q (.p (dueD t)) [.p (.str t)] := by
  have sz := Pd.B.sizeLine_eq
  refine sp_iff ?_ Q
  unfold m_law_due
  rw [sp_mkF]
  by_cases h0 : t = ""
  · have e : dueD t = .tuple [] := by unfold dueD dueP; rw [if_pos h0]; rfl
    simp -dsimp [g_law_due, h0]
    rw [h0] at e
    simp -dsimp [e]
  · have h10 : ("\n" : Str).length = 1 := rfl
    have eP : dueP t = goL [] (Txt.split t "\n") := by unfold dueP; rw [if_neg h0]
    obtain ⟨hpl, hpn⟩ := split_len (x := t) h10
    simp -dsimp [g_law_due, h0, h10]
    refine ⟨by omega, ?_⟩
    refine ev_loopX (fun done ρ => DuL t (Txt.split t "\n") done.length ρ) ⟨[], _, _, _, rfl, rfl, rfl⟩ ?_ ?_
    · rintro done d r ρ ha ⟨fnd, x2, x3, x4, hfl, hg, rfl⟩
      obtain ⟨l, hx, rfl, hlt, hm⟩ := map_at ha
      rw [goL_drop hx] at hg
      have hll := hpl l hm
      obtain ⟨hwl, hwn⟩ := split_len (x := l) spc_len
      have hbad : lineB fnd l = none → dueD t = .int (fnd.length : Nat) := fun e => by
        rw [e] at hg
        unfold dueD
        rw [eP, hg]
        rfl
      simp -dsimp [tgName, spc_len]
      refine ⟨by omega, ?_⟩
      rcases three_or (Txt.split l " ") with ⟨a, b, c, e3⟩ | hn3
      · have hwl' : ∀ w ∈ [a, b, c], w.length ≤ 100000 := fun w hw => by
          rw [← e3] at hw
          exact Nat.le_trans (hwl w hw) (Nat.le_trans hll ht)
        have na := fun Q => spec_law_is_name a (hwl' a (by simp)) Q
        have nb := fun Q => spec_number_of b (hwl' b (by simp)) Q
        have nc := fun Q => spec_number_of c (hwl' c (by simp)) Q
        have hl3 := lineB_3 (fnd := fnd) e3
        simp -dsimp [e3, na]
        cases hna : nmB a with
        | false =>
          have := hbad (by rw [hl3, if_neg (by rw [hna]; simp)])
          simp -dsimp [this]
        | true =>
          simp -dsimp
          refine ev_compL_pure ptn (fun p => .str p.1) (fun _ => true) (l := fnd) (tg := none) rfl (by omega) (fun p hp => ?_) ?_
          · simp -dsimp [tgName, ptn]
          · intro ρ1 hw1
            have hany := any_nm (fnd := fnd) (a := a)
            by_cases hin : a ∈ fnd.map (·.1)
            · have := hbad (by rw [hl3, if_neg (fun z => z.1.2 hin)])
              simp -dsimp [hw1, filter_yes, hany, hin, this]
            · simp -dsimp [hw1, filter_yes, hany, hin, nb, nc]
              cases hnb : nuB b with
              | false =>
                have := hbad (by rw [hl3, if_neg (by rw [hnb]; simp)])
                cases hnc : nuB c <;> simp -dsimp [nuD, hnb, hnc, this]
              | true =>
                cases hnc : nuB c with
                | false =>
                  have := hbad (by rw [hl3, if_neg (by rw [hnc]; simp)])
                  simp -dsimp [nuD, hnb, hnc, this]
                | true =>
                  rw [hl3, if_pos ⟨⟨hna, hin⟩, hnb, hnc⟩] at hg
                  simp -dsimp [nuD, hnb, hnc]
                  refine ⟨by omega, fnd ++ [(a, nuV b, nuV c)], _, _, _, by simp [hfl], by rw [hg], by rw [List.map_append]; rfl⟩
      · have := hbad (lineB_no hn3)
        have hn3' : ¬ ((Txt.split l " ").length : Int) = 3 := by omega
        simp -dsimp [hn3', this]
    · rintro ρ ⟨fnd, x2, x3, x4, hfl, hg, rfl⟩
      rw [List.length_map, List.drop_length] at hg
      have e : dueD t = .tuple (fnd.map ptn) := by
        unfold dueD
        rw [eP, hg]
        rfl
      simp -dsimp [e]
def RdX (t : Str) (ls : List Str) (n : Nat) (ρ : Pd.Env) : Prop := ∃ (fnd : List (Str × Int × Int)) (x2 x3 x4 : Option Sl), fnd.length = n ∧ (fnd.map (·.1)).Nodup ∧ goL [] ls = goL fnd (ls.drop n) ∧ ρ = [some (.p (.str t)), some (.md none (fnd.map fun p => (.inr p.1, ptn p))), x2, x3, x4]
def readO (t : Str) : OutF := if (dueP t).2 = true then .ret (.p (.tuple ((dueP t).1.map ptn))) [.p (.str t)] else .exc "NoPoints" (some ("row", .int ((dueP t).1.length : Nat))) [.p (.str t)]
def Tame (t : Str) : Prop := ∀ l ∈ Txt.split t "\n", ∀ w ∈ Txt.split l " ", nuB w = true → (nuV w).natAbs < 10 ^ 10
theorem spec_read_pointsX (t : Str) (ht : t.length ≤ 100000) (hT : Tame t) (Q : OutF → Prop) : SpX m_read_pointsX [.p (.str t)] Q ↔ Q (readO t) := by
  have sz := Pd.B.sizeLine_eq
  refine spX_iff ?_ Q
  unfold m_read_pointsX
  rw [spX_mkX]
  by_cases h0 : t = ""
  · have e : readO t = .ret (.p (.tuple [])) [.p (.str t)] := by unfold readO dueP; rw [if_pos h0]; rfl
    rw [h0] at e
    simp -dsimp [g_read_pointsX, h0, e]
  · have h10 : ("\n" : Str).length = 1 := rfl
    have eP : dueP t = goL [] (Txt.split t "\n") := by unfold dueP; rw [if_neg h0]
    obtain ⟨hpl, hpn⟩ := split_len (x := t) h10
    simp -dsimp [g_read_pointsX, h0, h10]
    refine ⟨by omega, ?_⟩
    refine evS_loop (fun done ρ => RdX t (Txt.split t "\n") done.length ρ) ⟨[], _, _, _, rfl, List.nodup_nil, rfl, rfl⟩ ?_ ?_
    · rintro done d r ρ ha ⟨fnd, x2, x3, x4, hfl, hnd, hg, rfl⟩
      have ha' : enumD ((Txt.split t "\n").map PyData.str) = done ++ d :: r := ha
      obtain ⟨l, hx, rfl, hlt⟩ := enumD_at ha'
      have hm : l ∈ Txt.split t "\n" := List.mem_of_getElem? hx
      rw [goL_drop hx] at hg
      have hll := hpl l hm
      obtain ⟨hwl, hwn⟩ := split_len (x := l) spc_len
      have hbad : lineB fnd l = none → readO t = .exc "NoPoints" (some ("row", .int (done.length : Nat))) [.p (.str t)] := fun e => by
        rw [e] at hg
        unfold readO
        rw [eP, hg, hfl]
        rfl
      have hrow : (0 : Int) ≤ (done.length : Int) ∧ (done.length : Int) < 10000000000 := by omega
      simp -dsimp [tgTup, tgCons, tgName, tgNil, spc_len]
      refine ⟨by omega, ?_⟩
      rcases three_or (Txt.split l " ") with ⟨a, b, c, e3⟩ | hn3
      · have hwl' : ∀ w ∈ [a, b, c], w.length ≤ 100000 := fun w hw => by
          rw [← e3] at hw
          exact Nat.le_trans (hwl w hw) (Nat.le_trans hll ht)
        have na := fun Q => spec_is_point_name a (hwl' a (by simp)) Q
        have nb := fun Q => spec_is_number_word b (hwl' b (by simp)) Q
        have nc := fun Q => spec_is_number_word c (hwl' c (by simp)) Q
        have hl3 := lineB_3 (fnd := fnd) e3
        have tb := hT l hm b (by rw [e3]; simp)
        have tc := hT l hm c (by rw [e3]; simp)
        simp -dsimp [e3, na]
        cases hna : nmB a with
        | false =>
          have := hbad (by rw [hl3, if_neg (by rw [hna]; simp)])
          simp -dsimp [this]
          exact ⟨by omega, by decide +kernel⟩
        | true =>
          have hkeys : (fnd.map fun p => ((Sum.inr p.1 : Key), ptn p)).map (·.1) = (fnd.map (·.1)).map Sum.inr := by
            rw [List.map_map, List.map_map]; rfl
          by_cases hin : a ∈ fnd.map (·.1)
          · have := hbad (by rw [hl3, if_neg (fun z => z.1.2 hin)])
            have hvs : (valD (fnd.map fun p => ((Sum.inr p.1 : Key), ptn p)) (.inr a)).isSome = true := by
              cases e : valD (fnd.map fun p => ((Sum.inr p.1 : Key), ptn p)) (.inr a) with
              | none =>
                have := valD_none.mp e
                rw [hkeys] at this
                exact absurd (List.mem_map.mpr ⟨a, hin, rfl⟩) this
              | some v => rfl
            simp -dsimp [this, hvs]
            exact ⟨by omega, by decide +kernel⟩
          · have hnew : (Sum.inr a : Key) ∉ (fnd.map fun p => ((Sum.inr p.1 : Key), ptn p)).map (·.1) := by
              rw [hkeys]
              intro hz
              obtain ⟨q, hq, e⟩ := List.mem_map.mp hz
              exact hin (Sum.inr.inj e ▸ hq)
            have hvn := valD_none.mpr hnew
            simp -dsimp [hvn, nb, nc]
            cases hnb : nuB b with
            | false =>
              have := hbad (by rw [hl3, if_neg (by rw [hnb]; simp)])
              simp -dsimp [this]
              exact ⟨by omega, by decide +kernel⟩
            | true =>
              cases hnc : nuB c with
              | false =>
                have := hbad (by rw [hl3, if_neg (by rw [hnc]; simp)])
                simp -dsimp [this]
                exact ⟨by omega, by decide +kernel⟩
              | true =>
                rw [hl3, if_pos ⟨⟨hna, hin⟩, hnb, hnc⟩] at hg
                have lb := nu_len hnb (tb hnb)
                have lc := nu_len hnc (tc hnc)
                have i1 := Pd.B.pIntS_s (nu_text hnb (by omega)) (by omega)
                have i2 := Pd.B.pIntS_s (nu_text hnc (by omega)) (by omega)
                simp -dsimp [i1, i2]
                refine ⟨by omega, fnd ++ [(a, nuV b, nuV c)], _, _, _, by simp [hfl], ?_, by rw [hg], by rw [putD_new hnew, List.map_append]; rfl⟩
                rw [List.map_append, List.nodup_append]
                refine ⟨hnd, by simp, fun x hx y hy e => ?_⟩
                simp at hy
                exact hin (hy ▸ e ▸ hx)
      · have := hbad (lineB_no hn3)
        have hn3' : ¬ ((Txt.split l " ").length : Int) = 3 := by omega
        simp -dsimp [hn3', this]
        exact ⟨by omega, by decide +kernel⟩
    · rintro ρ ⟨fnd, x2, x3, x4, hfl, hnd, hg, rfl⟩
      have hlen : (enumD ((Txt.split t "\n").map PyData.str)).length = (Txt.split t "\n").length := by simp [enumD]
      rw [hlen, List.drop_length] at hg
      have e : readO t = .ret (.p (.tuple (fnd.map ptn))) [.p (.str t)] := by
        unfold readO
        rw [eP, hg]
        rfl
      simp -dsimp [e]
theorem dep_ptn : ∀ {l : List (Str × Int × Int)}, PyData.depthAll (l.map ptn) ≤ 1
  | [] => by simp
  | a :: l => by
    have := dep_ptn (l := l)
    rw [List.map_cons, Pd.B.depA_c]
    simp [ptn]
    omega
theorem eqvA_ptn : ∀ {l : List (Str × Int × Int)}, PyData.eqvAll (l.map ptn) (l.map ptn) = true
  | [] => by simp
  | (a1, a2, a3) :: l => by
    rw [List.map_cons, Pd.B.eqvA_cc, eqvA_ptn]
    simp [ptn]
@[simp high] theorem pEq_ptn {l : List (Str × Int × Int)} : Pd.pEq [.tuple (l.map ptn), .tuple (l.map ptn)] = some (.pd (.bool true)) := by
  rw [Pd.B.pEq_eq, if_pos]
  · rw [Pd.B.eqv_tt, eqvA_ptn]
  · have := dep_ptn (l := l)
    simp
    omega
theorem spec_right (t : Str) (ht : t.length ≤ 100000) (hT : Tame t) (Q : Sl → List Sl → Prop) : Sp m_law_right [.p (.str t)] Q ↔ Q (.p (.bool true)) [.p (.str t)] := by
  refine sp_iff ?_ Q
  have hd := fun Q => spec_law_due t ht Q
  have hr := fun Q => spec_read_pointsX t ht hT Q
  unfold m_law_right
  rw [sp_mkF]
  cases hp : (dueP t).2 with
  | true =>
    have e1 : dueD t = .tuple ((dueP t).1.map ptn) := by unfold dueD; rw [if_pos hp]
    have e2 : readO t = .ret (.p (.tuple ((dueP t).1.map ptn))) [.p (.str t)] := by unfold readO; rw [if_pos hp]
    simp -dsimp [g_law_right, hd, hr, e1, e2]
  | false =>
    have e1 : dueD t = .int ((dueP t).1.length : Nat) := by unfold dueD; rw [if_neg (by simp [hp])]
    have e2 : readO t = .exc "NoPoints" (some ("row", .int ((dueP t).1.length : Nat))) [.p (.str t)] := by unfold readO; rw [if_neg (by simp [hp])]
    simp -dsimp [g_law_right, hd, hr, e1, e2]
    refine ⟨?_, ?_, ?_, ?_⟩ <;> decide +kernel
section
variable {a b c : Str} {i : Int}
@[simp ↓] theorem oRep2_eq : o_replace2 = opG pRep := rfl
@[simp ↓] theorem oRep3_eq : o_replace3 = opG pRep1 := rfl
@[simp ↓] theorem oIxS_eq : oIxS = opG pIxS := rfl
@[simp] theorem pRep_sss : pRep [.str a, .str b, .str c] = if repB a c then some (.pd (.str (Txt.replace a b c))) else none := rfl
@[simp] theorem pRep1_sssi : pRep1 [.str a, .str b, .str c, .int i] = if repB a c ∧ i = 1 then some (.pd (.str (rep1 a b c))) else none := rfl
@[simp] theorem pIxS_si : pIxS [.str a, .int i] = if a.length ≤ sizeLine then (atI a.cps.toList i).map fun c => .pd (.str ⟨#[c]⟩) else none := rfl
end
theorem le_maxI : ∀ {l : List Int} {x : Int}, x ∈ l → x ≤ maxI l
  | [a], x, h => by
    rw [List.mem_singleton] at h
    subst h
    exact Int.le_refl _
  | a :: b :: l, x, h => by
    show x ≤ max a (maxI (b :: l))
    rcases List.mem_cons.mp h with rfl | h
    · omega
    · have := le_maxI h
      omega
theorem join_one {s1 s2 : Str} (h : s1.length = s2.length) : ∀ {ps : List Str}, (Str.join s1 ps).length = (Str.join s2 ps).length
  | [] => rfl
  | [p] => rfl
  | p :: q :: r => by
    rw [join_cons, join_cons, app_len, app_len, app_len, app_len, join_one h (ps := q :: r), h]
theorem join_app {s : Str} : ∀ {ps qs : List Str}, ps ≠ [] → qs ≠ [] → Str.join s (ps ++ qs) = Str.join s ps ++ s ++ Str.join s qs
  | [], _, h, _ => absurd rfl h
  | [p], [], _, h => absurd rfl h
  | [p], q :: r, _, _ => rfl
  | p :: q :: r, qs, _, h => by
    have ih := join_app (s := s) (ps := q :: r) (qs := qs) (by simp) h
    show Str.join s (p :: q :: (r ++ qs)) = _
    rw [join_cons, join_cons]
    rw [show q :: (r ++ qs) = (q :: r) ++ qs from rfl, ih]
    refine str_eq ?_
    simp only [tlS_app, List.append_assoc]
theorem flat_ne {f : Str → List Str} (hf : ∀ l, f l ≠ []) {l : Str} {ls : List Str} : (l :: ls).flatMap f ≠ [] := by
  rw [List.flatMap_cons]
  intro h
  exact hf l (List.append_eq_nil_iff.mp h).1
theorem join_flat {s : Str} {f : Str → List Str} (hf : ∀ l, f l ≠ []) : ∀ {ls : List Str}, (∀ l ∈ ls, Str.join s (f l) = l) → Str.join s (ls.flatMap f) = Str.join s ls
  | [], _ => rfl
  | [l], h => by
    rw [List.flatMap_cons, List.flatMap_nil, List.append_nil, h l (by simp)]
    rfl
  | l :: m :: r, h => by
    rw [List.flatMap_cons, join_app (hf l) (flat_ne hf), join_flat hf (fun x hx => h x (List.mem_cons_of_mem _ hx)), h l (by simp)]
    rfl
theorem split_ne (x y : Str) : Txt.split x y ≠ [] := by
  unfold Txt.split
  split
  · simp
  · split
    · simp
    · rw [StrLaws.partsBetween_eq]
      obtain ⟨p, r, e⟩ := StrLaws.partsFrom_ne x y.length 0 (Builtin.Str.occurrences x y 0 x.length (x.length + 1))
      rw [e]
      simp
theorem beyond_words (t : Str) : Txt.split (Txt.replace t "\n" " ") " " = (Txt.split t "\n").flatMap fun l => Txt.split l " " := by
  have e1 : Txt.replace t "\n" " " = Str.join " " (Txt.split t "\n") := StrLaws.replace_one t " " 10
  have hf : ∀ l : Str, Txt.split l " " ≠ [] := fun l => split_ne l " "
  rw [e1, ← join_flat (s := " ") hf (ls := Txt.split t "\n") (fun l _ => StrLaws.join_split l " "), ← TL.join_eq]
  refine TL.split_join (s := 32) (S := []) rfl (by decide +kernel) ?_ fun q hq => ?_
  · obtain ⟨l, r, e⟩ : ∃ l r, Txt.split t "\n" = l :: r := by
      cases e : Txt.split t "\n" with
      | nil => exact absurd e (split_ne _ _)
      | cons l r => exact ⟨l, r, rfl⟩
    rw [e]
    exact flat_ne hf
  · obtain ⟨l, hl, hq⟩ := List.mem_flatMap.mp hq
    exact StrLaws.split_free l 32 q hq
theorem beyond_len (t : Str) : (Txt.replace t "\n" " ").length = t.length := by
  have e1 : Txt.replace t "\n" " " = Str.join " " (Txt.split t "\n") := StrLaws.replace_one t " " 10
  rw [e1, join_one (s1 := " ") (s2 := "\n") rfl, StrLaws.join_split]
def nuI (w : Str) : List Int := if nuB w = true then [nuV w] else []
theorem nuD_I {w : Str} : nuD w = (nuI w).map .int := by
  unfold nuD nuI
  split <;> rfl
theorem nuI_len {w : Str} : (nuI w).length ≤ 1 := by
  unfold nuI
  split <;> simp
theorem flatI_len : ∀ {ws : List Str}, (ws.flatMap nuI).length ≤ ws.length
  | [] => Nat.le_refl _
  | w :: ws => by
    have := @nuI_len w
    have := flatI_len (ws := ws)
    rw [List.flatMap_cons, List.length_append, List.length_cons]
    omega
def ByL (x0 : Option Sl) (ws : List Str) (n : Nat) (ρ : Pd.Env) : Prop := ∃ x2 : Option Sl, ρ = [x0, some (.ml none ((0 :: (ws.take n).flatMap nuI).map .int)), x2, none]
theorem spec_beyond {t : Str} {Q : Sl → List Sl → Prop} (ht : t.length ≤ 100000) (k : ∀ b : Bool, (b = false → Tame t) → Q (.p (.bool b)) [.p (.str t)]) : Sp m_law_beyond [.p (.str t)] Q := by
  have sz := Pd.B.sizeLine_eq
  have h10 : ("\n" : Str).length = 1 := rfl
  have hrl := beyond_len t
  have hrep : repB t " " := by
    unfold repB
    rw [spc_len]
    omega
  obtain ⟨hwl, hwn⟩ := split_len (x := Txt.replace t "\n" " ") spc_len
  unfold m_law_beyond
  rw [sp_mkF]
  simp -dsimp [g_law_beyond, hrep, spc_len]
  refine ⟨by omega, ?_⟩
  refine ev_loop (fun done ρ => ByL (some (.p (.str t))) (Txt.split (Txt.replace t "\n" " ") " ") done.length ρ) ⟨_, rfl⟩ ?_ ?_
  · rintro done d r ρ ha ⟨x2, rfl⟩
    obtain ⟨w, hx, rfl, hlt, hm⟩ := map_at ha
    have hn := fun Q => spec_number_of w (Nat.le_trans (hwl w hm) (by omega)) Q
    have hfl := flatI_len (ws := (Txt.split (Txt.replace t "\n" " ") " ").take done.length)
    have htl : ((Txt.split (Txt.replace t "\n" " ") " ").take done.length).length ≤ done.length := List.length_take_le _ _
    have hil := @nuI_len w
    simp -dsimp [tgName, hn, nuD_I, -List.length_flatMap]
    refine ⟨by omega, some (.p (.str w)), ?_⟩
    rw [take_next hx, List.flatMap_append, List.flatMap_cons, List.flatMap_nil, List.append_nil, ← List.map_append]
    rfl
  · rintro ρ ⟨x2, rfl⟩
    rw [List.length_map, List.take_length]
    obtain ⟨ns, hns⟩ : ∃ ns, 0 :: (Txt.split (Txt.replace t "\n" " ") " ").flatMap nuI = ns := ⟨_, rfl⟩
    have hnl : ns.length < sizeLine := by
      have := flatI_len (ws := Txt.split (Txt.replace t "\n" " ") " ")
      rw [← hns, List.length_cons]
      omega
    have hne : ns ≠ [] := by rw [← hns]; simp
    rw [hns]
    simp -dsimp
    refine ev_comp_pure PyData.int (fun n => .int (n.natAbs : Nat)) (fun _ => true) hnl (fun n hn => ?_) ?_
    · simp -dsimp [tgName]
    · intro ρ1 hw1
      simp -dsimp [hw1, filter_yes, ints_mapf, hne]
      refine k _ fun hb l hl w hw hnw => ?_
      have hm : nuV w ∈ ns := by
        rw [← hns, beyond_words]
        refine List.mem_cons_of_mem _ (List.mem_flatMap.mpr ⟨w, List.mem_flatMap.mpr ⟨l, hl, hw⟩, ?_⟩)
        unfold nuI
        rw [if_pos hnw]
        exact List.mem_singleton.mpr rfl
      have hle := le_maxI (List.mem_map.mpr ⟨nuV w, hm, rfl⟩ : (((nuV w).natAbs : Nat) : Int) ∈ ns.map fun q => ((q.natAbs : Nat) : Int))
      have hlt := of_decide_eq_false hb
      omega
theorem signs_len : (" !\"#$&'()*+,-./0123456789:;<=>?@ABCDEFGHIJKLMNOPQRSTUVWXYZ[\\]^_`abcdefghijklmnopqrstuvwxyz{|}~\n" : Str).length = 95 := by decide +kernel
theorem sign_at {x : Str} {v : Int} (h0 : 0 ≤ v) (h : v < x.length) : ∃ c, atI x.cps.toList v = some c := by
  have hv : v.toNat < x.cps.toList.length := by
    have := len_tlS x
    show v.toNat < (tlS x).length
    omega
  exact ⟨_, Pd.B.atI_of (k := v.toNat) (by omega) (List.getElem?_eq_getElem hv)⟩
theorem spec_sign {ds : List D} {B : Int} {Q : Sl → List Sl → Prop} (hd : DeckOk B ds) (hB : B < 2 ^ 60) (k : ∀ c ds', DeckOk (B + 1) ds' → Q (.p (.str ⟨#[c]⟩)) [.ml none ds']) : Sp m_law_sign [.ml none ds] Q := by
  have sz := Pd.B.sizeLine_eq
  unfold m_law_sign
  rw [sp_mkF]
  simp -dsimp [g_law_sign, signs_len]
  refine spec_next hd (by omega) (by omega) (by omega) fun v d1 h1 a1 b1 => ?_
  obtain ⟨c, hc⟩ := sign_at (x := " !\"#$&'()*+,-./0123456789:;<=>?@ABCDEFGHIJKLMNOPQRSTUVWXYZ[\\]^_`abcdefghijklmnopqrstuvwxyz{|}~\n") a1 (by rw [signs_len]; exact b1)
  simp -dsimp [hc, signs_len]
  exact k c d1 h1
def tot (ws : List Str) : Nat := (ws.map (·.length)).sum + ws.length
theorem tot_nil : tot [] = 0 := rfl
theorem tot_cons {w : Str} {ws : List Str} : tot (w :: ws) = w.length + 1 + tot ws := by
  unfold tot
  rw [List.map_cons, List.sum_cons, List.length_cons]
  omega
theorem tot_app {a b : List Str} : tot (a ++ b) = tot a + tot b := by
  unfold tot
  rw [List.map_append, List.sum_append, List.length_append]
  omega
theorem tot_join {s : Str} (hs : s.length = 1) : ∀ {ws : List Str}, ws ≠ [] → (Str.join s ws).length + 1 = tot ws
  | [], h => absurd rfl h
  | [w], _ => by rw [tot_cons, tot_nil]; rfl
  | w :: v :: r, _ => by
    rw [join_cons, tot_cons, ← tot_join hs (ws := v :: r) (by simp), app_len, app_len, hs]
    omega
theorem join_tot {s : Str} (hs : s.length = 1) {ws : List Str} : (Str.join s ws).length ≤ tot ws := by
  by_cases h : ws = []
  · subst h; exact Nat.zero_le _
  · have := tot_join hs h
    omega
theorem tot_split {x y : Str} (hy : y.length = 1) : tot (Txt.split x y) = x.length + 1 := by
  rw [← tot_join hy (split_ne x y), StrLaws.join_split]
theorem tot_mem {w : Str} : ∀ {ws : List Str}, w ∈ ws → w.length + 1 ≤ tot ws
  | v :: ws, h => by
    rw [tot_cons]
    rcases List.mem_cons.mp h with rfl | h
    · omega
    · have := tot_mem h
      omega
theorem tot_erase : ∀ {ws : List Str} {i : Nat}, tot (ws.eraseIdx i) ≤ tot ws
  | [], _ => Nat.le_refl _
  | w :: ws, 0 => by
    show tot ws ≤ _
    rw [tot_cons]
    omega
  | w :: ws, i + 1 => by
    have := tot_erase (ws := ws) (i := i)
    show tot (w :: ws.eraseIdx i) ≤ _
    rw [tot_cons, tot_cons]
    omega
theorem tot_set {v : Str} : ∀ {ws : List Str} {i : Nat}, tot (ws.set i v) ≤ tot ws + v.length
  | [], _ => by show 0 ≤ _; omega
  | w :: ws, 0 => by
    show tot (v :: ws) ≤ _
    rw [tot_cons, tot_cons]
    omega
  | w :: ws, i + 1 => by
    have := tot_set (v := v) (ws := ws) (i := i)
    show tot (w :: ws.set i v) ≤ _
    rw [tot_cons, tot_cons]
    omega
theorem tot_ins {v : Str} {ws : List Str} {i : Nat} : tot (ws.take i ++ [v] ++ ws.drop i) = tot ws + v.length + 1 := by
  have h : tot (ws.take i) + tot (ws.drop i) = tot ws := by rw [← tot_app, List.take_append_drop]
  rw [tot_app, tot_app, tot_cons, tot_nil]
  omega
theorem cjoin_tot {s : Str} (hs : s.length = 1) {ws : List Str} (h : tot ws ≤ 16777216) : CJoin s ws := by
  unfold CJoin
  unfold tot at h
  rw [hs]
  omega
theorem cut_to {x : Str} {v : Int} (h0 : 0 ≤ v) (h : v ≤ x.length) : (L2.cutS x none (some v)).length = v.toNat := by
  obtain ⟨n, rfl⟩ : ∃ n : Nat, v = n := ⟨v.toNat, by omega⟩
  rw [len_tlS]
  show ((((tlS x).drop 0).take (HT.sIx x.length x.length (some (n : Int)) - 0))).length = _
  rw [HT.sIx_nat, List.drop_zero, List.length_take, ← len_tlS]
  omega
theorem cut_from {x : Str} {v : Int} (h0 : 0 ≤ v) : (L2.cutS x (some v) none).length ≤ x.length - v.toNat := by
  obtain ⟨n, rfl⟩ : ∃ n : Nat, v = n := ⟨v.toNat, by omega⟩
  rw [len_tlS]
  show ((((tlS x).drop (HT.sIx x.length 0 (some (n : Int)))).take (x.length - HT.sIx x.length 0 (some (n : Int))))).length ≤ _
  rw [HT.sIx_nat, List.length_take, List.length_drop, ← len_tlS]
  omega
def SlI (C : Int) (l : Str) (ns sm : List Str) (N : Nat) (at_ there way : Int) (ρ : Pd.Env) : Prop := ∃ (dsx : List D) (ws : List Str), DeckOk C dsx ∧ tot ws ≤ N ∧ ρ = [some (.ml (some 0) dsx), some (.p (.str l)), some (.p (.list (ns.map .str))), some (.ml none (ws.map .str)), some (.p (.int at_)), some (.p (.int there)), some (.ml none (sm.map .str)), some (.p (.int way)), none, none]
def smL : List Str := ["a", "abcdefgh", "abcdefghi", "A", "a1", "", "0", "-0", "00", "07", "-07", "-1", "+1", "--1", "1.0", "1_0", "12", "0x1", "-", "- 1"]
theorem smL_len : ∀ w ∈ smL, w.length ≤ 9 := by decide +kernel
theorem smL_map (ns : List Str) : ns.map PyData.str ++ [.str "a", .str "abcdefgh", .str "abcdefghi", .str "A", .str "a1", .str "", .str "0", .str "-0", .str "00", .str "07", .str "-07", .str "-1", .str "+1", .str "--1", .str "1.0", .str "1_0", .str "12", .str "0x1", .str "-", .str "- 1"] = (ns ++ smL).map .str := by
  rw [List.map_append]
  rfl
theorem spec_spoilt_line {ds : List D} {C : Int} {M : Nat} {l : Str} {ns : List Str} {Q : Sl → List Sl → Prop} (hd : DeckOk C ds) (hB : C < 2 ^ 59) (hl : l.length ≤ M) (hM : M ≤ 1000) (hnl : ns.length ≤ 100) (hns : ∀ n ∈ ns, n.length ≤ 8)
    (k : ∀ (l' : Str) ds', DeckOk (C + 20) ds' → l'.length ≤ 3 * M + 20 → Q (.p (.str l')) [.ml none ds', .p (.str l), .p (.list (ns.map .str))]) : Sp m_law_spoilt_line [.ml none ds, .p (.str l), .p (.list (ns.map .str))] Q := by
  have sz := Pd.B.sizeLine_eq
  have htl := tot_split (x := l) spc_len
  have hne := split_ne l " "
  obtain ⟨ws, hws⟩ : ∃ ws, Txt.split l " " = ws := ⟨_, rfl⟩
  rw [hws] at htl hne
  have hpos : 0 < ws.length := List.length_pos_iff.mpr hne
  have hwn : ws.length ≤ tot ws := by unfold tot; omega
  unfold m_law_spoilt_line
  rw [sp_mkF]
  simp -dsimp [g_law_spoilt_line, spc_len, hws]
  refine ⟨by omega, ?_⟩
  refine spec_next hd (by omega) (by omega) (by omega) fun at_ d1 h1 a1 b1 => ?_
  simp -dsimp
  refine spec_next h1 (by omega) (by omega) (by omega) fun there d2 h2 a2 b2 => ?_
  simp -dsimp
  refine ⟨by omega, by omega, ?_⟩
  rw [smL_map]
  obtain ⟨sm, hsm⟩ : ∃ sm, ns ++ smL = sm := ⟨_, rfl⟩
  have sml : ∀ w ∈ sm, w.length ≤ 9 := fun w hw => by
    rw [← hsm] at hw
    rcases List.mem_append.mp hw with z | z
    · exact Nat.le_trans (hns w z) (by decide)
    · exact smL_len w z
  have smn : 0 < sm.length ∧ sm.length ≤ 120 := by
    rw [← hsm, List.length_append]
    have : smL.length = 20 := rfl
    omega
  rw [hsm]
  refine spec_next h2 (by omega) (by omega) (by omega) fun way d3 h3 a3 b3 => ?_
  have eat := atI_map (f := PyData.str) (l := ws) a1 b1
  obtain ⟨wa, hwa, _, eat⟩ := eat
  obtain ⟨wt, hwt, _, eth⟩ := atI_map (f := PyData.str) (l := ws) a2 b2
  have lwa := tot_mem hwa
  have lwt := tot_mem hwt
  simp -dsimp [-ev_gIf]
  refine Ev.mono (Q := fun fl ρ1 => fl = .nx ∧ SlI (C + 10) l ns sm (3 * M + 12) at_ there way ρ1) ?_ ?_
  · have ixa : ixN ws.length at_ = some at_.toNat := Pd.B.ixN_in a1 b1
    have ixt : ixN ws.length there = some there.toNat := Pd.B.ixN_in a2 b2
    rcases (by omega : way = 0 ∨ way = 1 ∨ way = 2 ∨ way = 3 ∨ way = 4 ∨ (way ≠ 0 ∧ way ≠ 1 ∧ way ≠ 2 ∧ way ≠ 3 ∧ way ≠ 4)) with e | e | e | e | e | ⟨e0, e1, e2, e3, e4⟩
    · obtain ⟨y, hy, _, hp⟩ := pop_map (f := PyData.str) (l := ws) a1 b1 (by omega)
      simp -dsimp [e, hp]
      refine ⟨d3, _, h3.mono (by omega), ?_, rfl⟩
      have := @tot_erase ws at_.toNat
      omega
    · simp -dsimp [e, eat]
      refine ⟨⟨by omega, by omega⟩, d3, ws.take there.toNat ++ [wa] ++ ws.drop there.toNat, h3.mono (by omega), ?_, ?_⟩
      · rw [tot_ins]
        omega
      · simp [List.map_take, List.map_drop]
    · simp -dsimp [e, eat, eth, ixa, ixt]
      refine ⟨d3, (ws.set at_.toNat wt).set there.toNat wa, h3.mono (by omega), ?_, ?_⟩
      · have g1 := @tot_set wa (ws.set at_.toNat wt) there.toNat
        have g2 := @tot_set wt ws at_.toNat
        omega
      · rw [List.map_set, List.map_set]
    · simp -dsimp [e]
      refine spec_next h3 (by omega) (by omega) (by omega) fun v d4 h4 a4 b4 => ?_
      obtain ⟨y, hy, _, ey⟩ := atI_map (f := PyData.str) (l := sm) a4 b4
      have ly := sml y hy
      simp -dsimp [ey, ixa]
      refine ⟨d4, ws.set at_.toNat y, h4.mono (by omega), ?_, ?_⟩
      · have g2 := @tot_set y ws at_.toNat
        omega
      · rw [List.map_set, e]
    · simp -dsimp [e]
      refine spec_next h3 (by omega) (by omega) (by omega) fun v d4 h4 a4 b4 => ?_
      obtain ⟨y, hy, _, ey⟩ := atI_map (f := PyData.str) (l := sm) a4 b4
      have ly := sml y hy
      simp -dsimp [ey]
      refine ⟨⟨by omega, by omega⟩, d4, ws.take at_.toNat ++ [y] ++ ws.drop at_.toNat, h4.mono (by omega), ?_, ?_⟩
      · rw [tot_ins]
        omega
      · simp [List.map_take, List.map_drop, e]
    · simp -dsimp [e0, e1, e2, e3, e4]
      exact ⟨d3, ws, h3.mono (by omega), by omega, rfl⟩
  rintro fl ρ ⟨rfl, dsx, ws', hdx, htw, rfl⟩
  have hcj := cjoin_tot (s := " ") rfl (ws := ws') (by omega)
  have hjl := join_tot (s := " ") rfl (ws := ws')
  rw [← TL.join_eq] at hjl
  obtain ⟨x, hx⟩ : ∃ x, Txt.join " " ws' = x := ⟨_, rfl⟩
  rw [hx] at hjl
  simp -dsimp [hcj, hx]
  refine ⟨by omega, ?_⟩
  refine spec_next hdx (by omega) (by omega) (by omega) fun cut e1 i1 p1 q1 => ?_
  have c1 := cut_to (x := x) p1 (by omega)
  have c2 := cut_from (x := x) p1
  have c3 := cut_from (x := x) (v := cut + 1) (by omega)
  by_cases w5 : way = 5
  · simp -dsimp [w5]
    refine ⟨by omega, ?_⟩
    refine spec_next i1 (by omega) (by omega) (by omega) fun v1 e2 i2 p2 q2 => ?_
    obtain ⟨s1, hs1⟩ := sign_at (x := " 0-a\n") p2 (by rw [show (" 0-a\n" : Str).length = 5 from rfl]; exact q2)
    have h5 : (" 0-a\n" : Str).length ≤ 16777216 := by decide
    simp -dsimp [hs1, h5]
    refine spec_sign i2 (by omega) fun s2 e3 i3 => ?_
    simp -dsimp
    refine spec_next i3 (by omega) (by omega) (by omega) fun v2 e4 i4 p4 q4 => ?_
    obtain ⟨s3, hs3⟩ : ∃ s3, atI [PyData.str ⟨#[s1]⟩, PyData.str ⟨#[s2]⟩] v2 = some (.str ⟨#[s3]⟩) := by
      rcases (by omega : v2 = 0 ∨ v2 = 1) with e | e <;> subst e <;> exact ⟨_, rfl⟩
    have l3 : (⟨#[s3]⟩ : Str).length = 1 := rfl
    simp -dsimp [hs3, l3, app_len]
    refine ⟨by omega, by omega, by omega, k _ e4 (i4.mono (by omega)) ?_⟩
    rw [app_len, app_len, l3]
    omega
  · by_cases w6 : way = 6
    · simp -dsimp [w5, w6]
      refine ⟨by omega, by omega, k _ e1 (i1.mono (by omega)) ?_⟩
      rw [app_len]
      omega
    · simp -dsimp [w5, w6]
      exact k _ e1 (i1.mono (by omega)) (by omega)
def bN : Nat → Nat
  | 0 => 32
  | n + 1 => 3 * bN n + 20
theorem bN_le : bN 0 = 32 ∧ bN 1 = 116 ∧ bN 2 = 368 ∧ bN 3 = 1124 := ⟨rfl, rfl, rfl, rfl⟩
theorem bN_3 {n : Nat} (h : n ≤ 3) : bN n ≤ 1124 ∧ 32 ≤ bN n := by
  obtain ⟨h0, h1, h2, h3⟩ := bN_le
  rcases (by omega : n = 0 ∨ n = 1 ∨ n = 2 ∨ n = 3) with e | e | e | e <;> subst e <;> omega
theorem bN_2 {n : Nat} (h : n < 3) : bN n ≤ 368 ∧ bN (n + 1) = 3 * bN n + 20 := by
  obtain ⟨h0, h1, h2, h3⟩ := bN_le
  refine ⟨?_, rfl⟩
  rcases (by omega : n = 0 ∨ n = 1 ∨ n = 2) with e | e | e <;> subst e <;> omega
def SpI (C : Int) (ps : List (Str × Int × Int)) (n : Nat) (ρ : Pd.Env) : Prop := ∃ (ds : List D) (ls : List Str) (x3 x4 x5 : Option Sl), DeckOk C ds ∧ ls ≠ [] ∧ ls.length ≤ 60 + n ∧ (∀ l ∈ ls, l.length ≤ bN n) ∧ ρ = [some (.ml (some 0) ds), some (.p (.tuple (ps.map ptn))), some (.ml none (ls.map .str)), x3, x4, x5, none]
theorem tot_le {B : Nat} : ∀ {ls : List Str}, (∀ l ∈ ls, l.length ≤ B) → tot ls ≤ ls.length * (B + 1)
  | [], _ => by rw [tot_nil]; exact Nat.zero_le _
  | l :: ls, h => by
    have h1 := h l (by simp)
    have h2 := tot_le (ls := ls) fun x hx => h x (List.mem_cons_of_mem _ hx)
    rw [tot_cons, List.length_cons, Nat.succ_mul]
    omega
theorem lines_ok {ps : List (Str × Int × Int)} (hl : ps.length ≤ 60) (hp : ∀ p ∈ ps, PnIn p) : Txt.split (txt ps) "\n" ≠ [] ∧ (Txt.split (txt ps) "\n").length ≤ 60 ∧ ∀ l ∈ Txt.split (txt ps) "\n", l.length ≤ 32 := by
  refine ⟨split_ne _ _, ?_⟩
  by_cases hne : ps = []
  · subst hne
    have : Txt.split (txt []) "\n" = [("" : Str)] := by decide +kernel
    rw [this]
    decide
  · rw [txt_split hne hp, List.length_map]
    refine ⟨hl, fun l hlm => ?_⟩
    obtain ⟨p, hpm, rfl⟩ := List.mem_map.mp hlm
    exact ln_len (hp p hpm)
theorem spec_spoilt {ds : List D} {C : Int} {ps : List (Str × Int × Int)} {Q : Sl → List Sl → Prop} (hd : DeckOk C ds) (hB : C < 2 ^ 58) (hl : ps.length ≤ 60) (hp : ∀ p ∈ ps, PnIn p)
    (k : ∀ (t : Str) ds', DeckOk (C + 200) ds' → t.length ≤ 80000 → Q (.p (.str t)) [.ml none ds', .p (.tuple (ps.map ptn))]) : Sp m_law_spoilt [.ml none ds, .p (.tuple (ps.map ptn))] Q := by
  have sz := Pd.B.sizeLine_eq
  have htx := fun Q => spec_law_text ps (by omega) hp Q
  have htl := txt_len hp
  have h10 : ("\n" : Str).length = 1 := rfl
  obtain ⟨n1, n2, n3⟩ := lines_ok hl hp
  unfold m_law_spoilt
  rw [sp_mkF]
  simp -dsimp [g_law_spoilt, htx, h10]
  refine ⟨by omega, ?_⟩
  refine spec_next hd (by omega) (by omega) (by omega) fun v d1 h1 a1 b1 => ?_
  simp -dsimp
  refine ⟨by omega, ?_⟩
  refine ev_loop (fun done ρ => SpI (C + 1 + 50 * done.length) ps done.length ρ) ⟨d1, _, none, none, none, h1.mono (by simp), n1, by simpa using n2, n3, rfl⟩ ?_ ?_
  · rintro done d r ρ ha ⟨dsx, ls, x3, x4, x5, hdx, hne, hln, hlb, rfl⟩
    obtain ⟨rfl, hdn⟩ := rngD_at ha
    have hd3 : done.length < 3 := by omega
    obtain ⟨b2, b3⟩ := bN_2 hd3
    have b4 := (bN_3 (n := done.length) (by omega)).2
    have hpos : 0 < ls.length := List.length_pos_iff.mpr hne
    simp -dsimp [tgName]
    refine spec_next hdx (by omega) (by omega) (by omega) fun at_ d2 h2 p2 q2 => ?_
    simp -dsimp
    refine spec_next h2 (by omega) (by omega) (by omega) fun way d3 h3 p3 q3 => ?_
    obtain ⟨y, hy, hy2, ey⟩ := atI_map (f := PyData.str) (l := ls) p2 q2
    have ixa : ixN ls.length at_ = some at_.toNat := Pd.B.ixN_in p2 q2
    have ly := hlb y hy
    by_cases w0 : way = 0 ∧ (1 : Int) < ls.length
    · obtain ⟨w0, hl1⟩ := w0
      obtain ⟨z, hz, _, hpp⟩ := pop_map (f := PyData.str) (l := ls) p2 q2 (by omega)
      simp -dsimp [w0, hl1, hpp]
      have hle : (ls.eraseIdx at_.toNat).length = ls.length - 1 := List.length_eraseIdx_of_lt (by omega)
      refine ⟨d3, _, _, _, _, h3.mono (by omega), ?_, by omega, fun q hq => ?_, rfl⟩
      · intro z
        rw [z] at hle
        simp at hle
        omega
      · have := hlb q (List.mem_of_mem_eraseIdx hq)
        omega
    · by_cases w1 : way = 1
      · simp -dsimp [w1, ey]
        refine spec_next h3 (by omega) (by omega) (by omega) fun v d4 h4 a4 b4 => ?_
        simp -dsimp [ey]
        refine ⟨⟨by omega, by omega⟩, d4, ls.take v.toNat ++ [y] ++ ls.drop v.toNat, some (.p (.int done.length)), some (.p (.int at_)), some (.p (.int 1)), h4.mono (by omega), by simp, ?_, fun q hq => ?_, by simp [List.map_take, List.map_drop]⟩
        · rw [List.length_append, List.length_append, List.length_take, List.length_drop, List.length_singleton]
          omega
        · simp only [List.mem_append, List.mem_singleton] at hq
          rcases hq with (hq | hq) | hq
          · have := hlb q (List.mem_of_mem_take hq)
            omega
          · subst hq; omega
          · have := hlb q (List.mem_of_mem_drop hq)
            omega
      · by_cases w2 : way = 2
        · simp -dsimp [w1, w2]
          refine spec_next h3 (by omega) (by omega) (by omega) fun v d4 h4 a4 b4 => ?_
          obtain ⟨z, hz, lz⟩ : ∃ z : Str, atI [PyData.str "", PyData.str " ", PyData.str "a 1", PyData.str "a 1 1"] v = some (.str z) ∧ z.length ≤ 32 := by
            rcases (by omega : v = 0 ∨ v = 1 ∨ v = 2 ∨ v = 3) with e | e | e | e <;> subst e <;> exact ⟨_, rfl, by decide⟩
          simp -dsimp [hz, ixa]
          refine ⟨d4, ls.set at_.toNat z, _, _, _, h4.mono (by omega), by simpa using hne, by rw [List.length_set]; omega, fun q hq => ?_, by rw [List.map_set]⟩
          rcases List.mem_or_eq_of_mem_set hq with hq | hq
          · have := hlb q hq
            omega
          · subst hq; omega
        · have hmap : ps.map (fun p => PyData.str p.1) = (ps.map (·.1)).map PyData.str := by rw [List.map_map]; rfl
          have hnm : ∀ n ∈ ps.map (·.1), n.length ≤ 8 := fun n hn => by
            obtain ⟨p, hpm, rfl⟩ := List.mem_map.mp hn
            exact (hp p hpm).bd.1
          by_cases w00 : way = 0
          · have hn1 : ¬ (1 : Int) < ls.length := fun z => w0 ⟨w00, z⟩
            have hn2 : ¬ 1 < ls.length := fun z => w0 ⟨w00, by omega⟩
            simp -dsimp [w00, hn1, hn2, ey]
            refine ev_comp_pure ptn (fun p => .str p.1) (fun _ => true) (by omega) (fun p hp => ?_) ?_
            · simp -dsimp [tgName, ptn]
            · intro ρ1 hw1
              rw [hw1]
              simp -dsimp [filter_yes, hmap, -List.map_map]
              refine spec_spoilt_line (M := bN done.length) h3 (by omega) (hlb y hy) (by omega) (by rw [List.length_map]; omega) hnm fun l' d4 h4 hl4 => ?_
              simp -dsimp [ixa, -List.map_map]
              refine ⟨d4, ls.set at_.toNat l', _, _, _, h4.mono (by omega), by simpa using hne, by rw [List.length_set]; omega, fun q hq => ?_, by rw [List.map_set]⟩
              rcases List.mem_or_eq_of_mem_set hq with hq | hq
              · have := hlb q hq
                omega
              · subst hq; omega
          · simp -dsimp [w00, w1, w2, ey]
            refine ev_comp_pure ptn (fun p => .str p.1) (fun _ => true) (by omega) (fun p hp => ?_) ?_
            · simp -dsimp [tgName, ptn]
            · intro ρ1 hw1
              rw [hw1]
              simp -dsimp [filter_yes, hmap, -List.map_map]
              refine spec_spoilt_line (M := bN done.length) h3 (by omega) (hlb y hy) (by omega) (by rw [List.length_map]; omega) hnm fun l' d4 h4 hl4 => ?_
              simp -dsimp [ixa, -List.map_map]
              refine ⟨d4, ls.set at_.toNat l', _, _, _, h4.mono (by omega), by simpa using hne, by rw [List.length_set]; omega, fun q hq => ?_, by rw [List.map_set]⟩
              rcases List.mem_or_eq_of_mem_set hq with hq | hq
              · have := hlb q hq
                omega
              · subst hq; omega
  · rintro ρ ⟨dsx, ls, x3, x4, x5, hdx, hne, hln, hlb, rfl⟩
    rw [Pd.B.rngD_len] at hdx hln hlb
    have hv3 : (1 + v).toNat ≤ 3 := by omega
    have hb := (bN_3 hv3).1
    have ht := tot_le (ls := ls) (B := 1124) fun l hl => Nat.le_trans (hlb l hl) hb
    have ht2 : ls.length * (1124 + 1) ≤ 63 * 1125 := Nat.mul_le_mul (by omega) (by decide)
    have hcj := cjoin_tot (s := "\n") rfl (ws := ls) (by omega)
    have hjl := join_tot (s := "\n") rfl (ws := ls)
    rw [← TL.join_eq] at hjl
    simp -dsimp [hcj]
    exact k _ dsx (hdx.mono (by omega)) (by omega)
theorem classes_is : m_law_classes_right [] = some (.p (.bool true), []) := by
  unfold m_law_classes_right
  with_unfolding_all rfl
theorem rep_len {x z : Str} {c : Nat} (hz : z.length = 1) : (Txt.replace x ⟨#[c]⟩ z).length = x.length := by
  rw [StrLaws.replace_one x z c, join_one (s1 := z) (s2 := ⟨#[c]⟩) (by rw [hz]; rfl), StrLaws.join_split]
theorem rep1_len (x y z : Str) : (rep1 x y z).length ≤ x.length + z.length := by
  unfold rep1
  split
  · omega
  · exact glued1_len x y z
instance (t : Str) : Decidable (Tame t) := by unfold Tame; infer_instance
def fxB : List D → Bool
  | [] => true
  | .str t :: l => decide (t.length ≤ 100000) && (decide (Tame t) && fxB l)
  | _ => false
theorem fxB_is : ∀ {l : List D}, fxB l = true → ∃ ts : List Str, l = ts.map .str ∧ ∀ t ∈ ts, t.length ≤ 100000 ∧ Tame t
  | [], _ => ⟨[], rfl, by simp⟩
  | d :: l, h => by
    unfold fxB at h
    split at h
    · cases ‹d :: l = []›
    · rename_i t l' e
      cases e
      rw [Bool.and_eq_true, Bool.and_eq_true, decide_eq_true_iff, decide_eq_true_iff] at h
      obtain ⟨ts, rfl, k⟩ := fxB_is h.2.2
      refine ⟨t :: ts, rfl, fun q hq => ?_⟩
      rcases List.mem_cons.mp hq with rfl | hq
      · exact ⟨h.1, h.2.1⟩
      · exact k q hq
    · cases h
theorem fx_comp {own : List Nat} {t : D → Pd.Env → Option Pd.Env} {tt : M Bool} {te : M Rs} {Q : List D → Pd.Env → Prop} {ds : List D} {ρ : Pd.Env} (h : fxB ds = true) (hz : ds.length < 1000)
    (k : ∀ ts : List Str, ts.length < sizeLine → (∀ t ∈ ts, t.length ≤ 100000 ∧ Tame t) → Ev (compD own t tt te (ts.map .str) []) ρ Q) : Ev (compD own t tt te ds []) ρ Q := by
  obtain ⟨ts, rfl, hk⟩ := fxB_is h
  rw [List.length_map] at hz
  exact k ts (by rw [Pd.B.sizeLine_eq]; omega) hk
def La02 (n : Nat) (ρ : Pd.Env) : Prop := ∃ (ds : List D) (x0 x2 x3 x4 x5 x6 x7 : Option Sl), DeckOk (5000 * n) ds ∧ Pd.B.slotP (some x4) = true ∧ ρ = [x0, some (.ml none ds), x2, x3, x4, x5, x6, x7, none, none]
def Pt02 (C : Int) (x0 x2 x4 x5 x6 x7 : Option Sl) (ρ : Pd.Env) : Prop := ∃ (ds : List D) (ps : List (Str × Int × Int)), DeckOk C ds ∧ ps.length ≤ 60 ∧ (∀ p ∈ ps, PnIn p) ∧ ρ = [x0, some (.ml none ds), x2, some (.p (.tuple (ps.map ptn))), x4, x5, x6, x7, none, none]
def So02 (C : Int) (ps : List (Str × Int × Int)) (x0 x2 x4 x5 x6 x7 : Option Sl) (n : Nat) (acc : List D) (ρ : Pd.Env) : Prop := ∃ (ds : List D) (sl : List Str) (x9 : Option Sl), DeckOk C ds ∧ acc = sl.map .str ∧ sl.length = n ∧ (∀ t ∈ sl, t.length ≤ 90000) ∧ ρ = [x0, some (.ml none ds), x2, some (.p (.tuple (ps.map ptn))), x4, x5, x6, x7, none, x9]
def Old02 (C : Int) (x0 x2 x3 x4 x7 : Option Sl) (n : Nat) (ρ : Pd.Env) : Prop := ∃ (ds : List D) (sl : List Str) (x6 : Option Sl), DeckOk C ds ∧ sl.length ≤ n ∧ (∀ t ∈ sl, t.length ≤ 90000) ∧ ρ = [x0, some (.ml none ds), x2, x3, x4, some (.ml none (sl.map .str)), x6, x7, none, none]
theorem law_run : ∀ ns : List Int, ns.length ≤ 63 → Sp m_law [.p (.list (ns.map .int))] fun r ss' => r = .p (.bool true) := by
  intro ns hn
  have sz := Pd.B.sizeLine_eq
  unfold m_law
  rw [sp_mkF]
  simp -dsimp [g_law]
  refine spec_deck fun ds hd => ?_
  simp -dsimp
  refine ev_loop (fun done ρ => La02 done.length ρ) ⟨ds, _, _, _, _, _, _, _, hd.mono (by simp), rfl, rfl⟩ ?_ ?_
  · rintro done d r ρ ha ⟨dsx, x0, x2, x3, x4, x5, x6, x7, hdx, hx4, rfl⟩
    obtain ⟨rfl, hdn⟩ := rngD_at (a := 0) (n := 3) ha
    simp -dsimp [tgName, -ev_gSeq]
    refine ev_gSeq.mpr ?_
    refine Ev.mono (Q := fun fl ρ1 => fl = .nx ∧ Pt02 (5000 * done.length + 2100) x0 (some (.p (.int (done.length : Nat)))) x4 x5 x6 x7 ρ1) ?_ ?_
    · by_cases h0 : (done.length : Int) = 0
      · simp -dsimp [h0]
        refine spec_next hdx (by omega) (by omega) (by omega) fun v d1 h1 a1 b1 => ?_
        by_cases hv : v = 0
        · simp -dsimp [hv]
          refine spec_points h1 (by omega) (by omega) (by omega) fun ps d2 h2 g1 g2 g3 => ?_
          simp -dsimp
          exact ⟨d2, ps, h2.mono (by omega), g1, g3, by rw [h0]⟩
        · simp -dsimp [hv]
          refine spec_points h1 (by omega) (by omega) (by omega) fun ps d2 h2 g1 g2 g3 => ?_
          simp -dsimp
          exact ⟨d2, ps, h2.mono (by omega), g1, g3, by rw [h0]⟩
      · have h0' : ¬ done = [] := fun z => h0 (by rw [z]; rfl)
        simp -dsimp [h0, h0']
        refine spec_points hdx (by omega) (by omega) (by omega) fun ps d2 h2 g1 g2 g3 => ?_
        simp -dsimp
        exact ⟨d2, ps, h2.mono (by omega), g1, g3, rfl⟩
    rintro fl ρ ⟨rfl, d2, ps, hd2, hpl, hpi, rfl⟩
    have htx := fun Q => spec_law_text ps (by omega) hpi Q
    have htl := txt_len hpi
    obtain ⟨t, ht⟩ : ∃ t, txt ps = t := ⟨_, rfl⟩
    rw [ht] at htx htl
    have htl2 : t.length ≤ 2000 := by omega
    simp -dsimp [htx]
    refine ev_comp (fun dn acc ρ => So02 (5000 * done.length + 2100 + 200 * dn.length) ps x0 (some (.p (.int (done.length : Nat)))) (some (.p (.str t))) x5 x6 x7 dn.length acc ρ) ⟨d2, [], none, hd2.mono (by simp), rfl, rfl, by simp, rfl⟩ ?_ ?_
    · rintro dn e r2 acc ρ ha2 ⟨dy, sl, x9, hdy, rfl, hsl, hsb, rfl⟩
      obtain ⟨rfl, hdn2⟩ := rngD_at (a := 0) (n := 4) ha2
      simp -dsimp [tgName]
      refine spec_spoilt hdy (by omega) hpl hpi fun u e1 he1 hu => ?_
      simp -dsimp
      refine ⟨by omega, e1, sl ++ [u], _, he1.mono (by omega), by rw [List.map_append]; rfl, by simp [hsl], fun q hq => ?_, rfl⟩
      rcases List.mem_append.mp hq with z | z
      · exact hsb q z
      · rw [List.mem_singleton] at z
        subst z
        omega
    · rintro acc ρ ⟨dy, sl, x9, hdy, rfl, hsl, hsb, rfl⟩
      rw [Pd.B.rngD_len] at hsl
      have h2l : ("  " : Str).length = 2 := rfl
      have h10 : ("\n" : Str).length = 1 := rfl
      have hr2 : repB t "  " := by
        unfold repB
        rw [h2l]
        omega
      simp -dsimp [h2l, h10, spc_len, hr2]
      refine ⟨by omega, by omega, by omega, by omega, ?_⟩
      have hr1 := rep1_len t " " "  "
      have emap : sl.map PyData.str ++ [PyData.str (" " ++ t), PyData.str (t ++ " "), PyData.str (t ++ "\n"), PyData.str ("\n" ++ t), PyData.str (rep1 t " " "  "), PyData.str t] = (sl ++ [" " ++ t, t ++ " ", t ++ "\n", "\n" ++ t, rep1 t " " "  ", t]).map PyData.str := by
        rw [List.map_append]; rfl
      rw [emap]
      have hall : ∀ q ∈ sl ++ [" " ++ t, t ++ " ", t ++ "\n", "\n" ++ t, rep1 t " " "  ", t], q.length ≤ 90000 := fun q hq => by
        rcases List.mem_append.mp hq with z | z
        · exact hsb q z
        · simp only [List.mem_cons, List.not_mem_nil, or_false] at z
          rcases z with rfl | rfl | rfl | rfl | rfl | rfl
          · rw [app_len, spc_len]; omega
          · rw [app_len, spc_len]; omega
          · rw [app_len, h10]; omega
          · rw [app_len, h10]; omega
          · rw [h2l] at hr1; omega
          · omega
      have hc : ∀ c : Nat, repB t ⟨#[c]⟩ := fun c => by
        unfold repB
        rw [show (⟨#[c]⟩ : Str).length = 1 from rfl]
        omega
      simp at hdy
      refine ev_loop (fun dn ρ => Old02 (5000 * done.length + 2900 + 2 * dn.length) x0 (some (.p (.int (done.length : Nat)))) (some (.p (.tuple (ps.map ptn)))) (some (.p (.str t))) x7 (10 + 2 * dn.length) ρ) ⟨dy, _, x6, hdy.mono (by simp; omega), by simp [hsl], hall, rfl⟩ ?_ ?_
      · rintro dn e r2 ρ ha2 ⟨dz, sl2, y6, hdz, hl2, hb2, rfl⟩
        have ha3 : [32, 10].map (fun c : Nat => PyData.str ⟨#[c]⟩) = dn ++ e :: r2 := ha2
        obtain ⟨c, _, rfl, hdn2, _⟩ := map_at ha3
        have hdn3 : dn.length < 2 := hdn2
        simp -dsimp [tgName]
        refine spec_sign hdz (by omega) fun s1 e1 i1 => ?_
        simp -dsimp [hc]
        refine spec_sign i1 (by omega) fun s2 e2 i2 => ?_
        simp -dsimp [hc]
        have g1 := rep_len (x := t) (c := c) (z := ⟨#[s1]⟩) rfl
        have g2 := rep1_len t ⟨#[c]⟩ ⟨#[s2]⟩
        rw [show (⟨#[s2]⟩ : Str).length = 1 from rfl] at g2
        refine ⟨by omega, e2, sl2 ++ [Txt.replace t ⟨#[c]⟩ ⟨#[s1]⟩, rep1 t ⟨#[c]⟩ ⟨#[s2]⟩], _, i2.mono (by omega), by simp; omega, fun q hq => ?_, by rw [List.map_append]; rfl⟩
        rcases List.mem_append.mp hq with z | z
        · exact hb2 q z
        · simp only [List.mem_cons, List.not_mem_nil, or_false] at z
          rcases z with rfl | rfl <;> omega
      · rintro ρ ⟨dz, sl2, y6, hdz, hl2, hb2, rfl⟩
        simp -dsimp
        simp at hdz hl2
        refine spec_sign hdz (by omega) fun s1 e1 i1 => ?_
        simp -dsimp
        refine spec_sign i1 (by omega) fun s2 e2 i2 => ?_
        have l1 : (⟨#[s2]⟩ : Str).length = 1 := rfl
        simp -dsimp [l1]
        refine ⟨by omega, by omega, ?_⟩
        have emap2 : sl2.map PyData.str ++ [PyData.str ⟨#[s1]⟩, PyData.str (t ++ ⟨#[s2]⟩)] = (sl2 ++ [⟨#[s1]⟩, t ++ ⟨#[s2]⟩]).map PyData.str := by
          rw [List.map_append]; rfl
        rw [emap2]
        have hall2 : ∀ q ∈ sl2 ++ [(⟨#[s1]⟩ : Str), t ++ ⟨#[s2]⟩], q.length ≤ 90000 := fun q hq => by
          rcases List.mem_append.mp hq with z | z
          · exact hb2 q z
          · simp only [List.mem_cons, List.not_mem_nil, or_false] at z
            rcases z with rfl | rfl
            · exact (by decide : 1 ≤ 90000)
            · rw [app_len, l1]; omega
        refine ev_loopX (fun _ ρ => ∃ y7 : Option Sl, ρ = [x0, some (.ml none e2), some (.p (.int (done.length : Nat))), some (.p (.tuple (ps.map ptn))), some (.p (.str t)), some (.ml none (sl2.map .str)), y6, y7, none, none]) ⟨x7, rfl⟩ ?_ ?_
        · rintro dn e r2 ρ ha2 ⟨y7, rfl⟩
          obtain ⟨q, _, rfl, _, hqm⟩ := map_at ha2
          have hql := hall2 q hqm
          simp -dsimp [tgName]
          refine spec_beyond (by omega) fun b hb => ?_
          cases b with
          | true =>
            simp -dsimp
          | false =>
            have hr := fun Q => spec_right q (by omega) (hb rfl) Q
            simp -dsimp [hr]
        · rintro ρ ⟨y7, rfl⟩
          simp -dsimp
          exact ⟨e2, _, _, _, _, _, _, _, i2.mono (by omega), rfl, rfl⟩
  · rintro ρ ⟨dsx, x0, x2, x3, x4, x5, x6, x7, hdx, hx4, rfl⟩
    have cl : ∀ Q : Sl → List Sl → Prop, Sp m_law_classes_right [] Q ↔ Q (.p (.bool true)) [] := fun Q => sp_iff ⟨_, _, classes_is, rfl, rfl⟩ Q
    simp -dsimp
    refine ⟨hx4, ?_⟩
    refine fx_comp (by decide +kernel) (by decide +kernel) fun ts hz hok => ?_
    refine ev_comp_pure PyData.str (fun t => .str t) (fun _ => false) hz (fun t ht => ?_) ?_
    · obtain ⟨t1, t2⟩ := hok t ht
      have hr := fun Q => spec_right t t1 t2 Q
      simp -dsimp [tgName, hr]
    · intro ρ1 hw1
      rw [hw1]
      simp -dsimp [cl]
theorem law_true : ∀ ns : List Int, ns.length ≤ 63 → ∃ ss', m_law [.p (.list (ns.map .int))] = some (.p (.bool true), ss') := by
  intro ns hn
  obtain ⟨r, ss', h, rfl⟩ := law_run ns hn
  exact ⟨ss', h⟩
abbrev s_law_deck : Stmt := top 16
theorem sc_law_deck : FnScope ["script"] ["script"] (defScope s_law_deck) := ⟨rfl, rfl, rfl, by decide +kernel, rfl, by decide +kernel, by decide +kernel⟩
theorem c_law_deck {P : Program} {w : World} {K : PySem.W.Frag} {mg : Str → Option Value} {base : Heap} {f : Addr} {fd : FuncData} (F : Fun K "_law_deck" "_law_deck" s_law_deck f fd) (hm : mg "_law_deck" = some (.ref f)) (z_sum : mg "sum" = none) : Callee P w K mg base 1 "_law_deck" 1 m_law_deck :=
  ⟨f, fd, ["script"], fn_ok F sc_law_deck rfl (fun cdv A outer s H E vs0 hr =>
    (dss_one (ds_ret (de_lst (da_cons (de_slice (de_var (pv 0)) do_none (do_some de_int)) (da_cons de_int (da_cons de_int (da_cons de_int (da_cons (de_callB (cr_sumA rfl) oSum_ok (by rfl) z_sum (by decide +kernel) (da_cons (de_slice (de_var (pv 0)) do_none (do_some de_int)) da_nil)) da_nil))))))))), hm, F.kp, F.binds fun _ _ _ _ _ _ us hl => match us, hl with | [_], _ => rfl⟩
abbrev s_law_mix : Stmt := top 15
theorem sc_law_mix : FnScope ["cell", "k", "number"] ["cell", "k"] (defScope s_law_mix) := ⟨rfl, rfl, rfl, by decide +kernel, rfl, by decide +kernel, by decide +kernel⟩
theorem c_law_mix {P : Program} {w : World} {K : PySem.W.Frag} {mg : Str → Option Value} {base : Heap} {f : Addr} {fd : FuncData} (F : Fun K "_law_mix" "_law_mix" s_law_mix f fd) (hm : mg "_law_mix" = some (.ref f)) : Callee P w K mg base 1 "_law_mix" 2 m_law_mix :=
  ⟨f, fd, ["cell", "k"], fn_ok F sc_law_mix rfl (fun cdv A outer s H E vs0 hr =>
    (dss_cons (ds_set (i := 2) sc_law_mix.nd rfl (Or.inl rfl) (de_op op_addAll oAdd_ok (de_op op_mod oMod_ok (de_var (pv 0)) de_int) (de_op op_mul2 oMul2_ok (de_op op_mul2 oMul2_ok de_int (de_var (pv 1))) (de_var (pv 1)))))
    (dss_cons (ds_set (i := 2) sc_law_mix.nd rfl (Or.inl rfl) (de_op op_mod oMod_ok (de_op op_addAll oAdd_ok (de_var (pv 2)) (de_op op_mul2 oMul2_ok de_int (de_var (pv 1)))) de_int))
    (dss_cons (ds_set (i := 2) sc_law_mix.nd rfl (Or.inl rfl) (de_op op_mod oMod_ok (de_op op_mul2 oMul2_ok (de_var (pv 2)) (de_var (pv 2))) de_int))
    (dss_one (ds_ret (de_op op_fdivW oDiv_ok (de_op op_mod oMod_ok (de_op op_mul2 oMul2_ok (de_var (pv 2)) (de_op op_addAll oAdd_ok (de_var (pv 2)) de_int)) de_int) de_int))))))), hm, F.kp, F.binds fun _ _ _ _ _ _ us hl => match us, hl with | [_, _], _ => rfl⟩
abbrev s_law_next : Stmt := top 17
theorem sc_law_next : FnScope ["deck", "many", "cell", "found"] ["deck", "many"] (defScope s_law_next) := ⟨rfl, rfl, rfl, by decide +kernel, rfl, by decide +kernel, by decide +kernel⟩
theorem c_law_next {P : Program} {w : World} {K : PySem.W.Frag} {mg : Str → Option Value} {base : Heap} {f : Addr} {fd : FuncData} (F : Fun K "_law_next" "_law_next" s_law_next f fd) (hm : mg "_law_next" = some (.ref f)) (z_len : mg "len" = none) (C_law_mix : Callee P w K mg base 1 "_law_mix" 2 m_law_mix) : Callee P w K mg base 2 "_law_next" 2 m_law_next :=
  ⟨f, fd, ["deck", "many"], fn_ok F sc_law_next rfl (fun cdv A outer s H E vs0 hr =>
    (dss_cons (ds_if (dw_and (dt_cmp (op_eqP hr.units) oEq_ok (de_ix ix_seq oIx_ok (de_var (pv 0)) de_int (fun _ _ => rfl)) de_int (nomark _)) (dw_and1 (dt_cmp op_lt oCmpI_ok (de_ix ix_seq oIx_ok (de_var (pv 0)) de_int (fun _ _ => rfl)) (de_callB call_len oLen_ok (by rfl) z_len (by decide +kernel) (da_cons (de_ix ix_seq oIx_ok (de_var (pv 0)) de_int (fun _ _ => rfl)) da_nil)) (nomark _)))).pt
    (dss_cons (ds_set (i := 2) sc_law_next.nd rfl (Or.inl rfl) (de_ix ix_seq oIx_ok (de_ix ix_seq oIx_ok (de_var (pv 0)) de_int (fun _ _ => rfl)) (de_ix ix_seq oIx_ok (de_var (pv 0)) de_int (fun _ _ => rfl)) (fun _ _ => rfl)))
    (dss_cons (ds_sub (de_op op_addAll oAdd_ok (de_ix ix_seq oIx_ok (de_var (pv 0)) de_int (fun _ _ => rfl)) de_int) (de_var (pv 0)) de_int)
    (dss_cons (ds_if (dt_cmp op_lt oCmpI_ok (de_var (pv 2)) (de_fold (d := .int 1000000000000000000) (de_op op_pow oPow_ok de_int de_int) (fun _ => rfl)) (nomark _))
    (dss_one (ds_ret (de_op op_mod oMod_ok (de_use C_law_mix (hr.mono (by decide)) (by rfl) (da_cons (de_fz (de_var (pv 2))) (da_cons (de_ix ix_seq oIx_ok (de_var (pv 0)) de_int (fun _ _ => rfl)) da_nil))) (de_var (pv 1)))))
    dss_nil)
    (dss_one (ds_sub (de_var (pv 2)) (de_var (pv 0)) de_int)))))
    dss_nil)
    (dss_cons (ds_if (dt_cmp op_gt oCmpI_ok (de_ix ix_seq oIx_ok (de_var (pv 0)) de_int (fun _ _ => rfl)) de_int (nomark _))
    (dss_cons (ds_set (i := 3) sc_law_next.nd rfl (Or.inl rfl) (de_op op_mod oMod_ok (de_ix ix_seq oIx_ok (de_var (pv 0)) de_int (fun _ _ => rfl)) (de_var (pv 1))))
    (dss_cons (ds_sub (de_op op_fdivW oDiv_ok (de_ix ix_seq oIx_ok (de_var (pv 0)) de_int (fun _ _ => rfl)) (de_var (pv 1))) (de_var (pv 0)) de_int)
    (dss_one (ds_ret (de_var (pv 3))))))
    dss_nil)
    (dss_cons (ds_sub (de_op op_addAll oAdd_ok (de_ix ix_seq oIx_ok (de_var (pv 0)) de_int (fun _ _ => rfl)) de_int) (de_var (pv 0)) de_int)
    (dss_one (ds_ret (de_op op_mod oMod_ok (de_use C_law_mix (hr.mono (by decide)) (by rfl) (da_cons (de_ix ix_seq oIx_ok (de_var (pv 0)) de_int (fun _ _ => rfl)) (da_cons (de_fz (de_op op_addAll oAdd_ok (de_ix ix_seq oIx_ok (de_var (pv 0)) de_int (fun _ _ => rfl)) de_int)) da_nil))) (de_var (pv 1))))))))), hm, F.kp, F.binds fun _ _ _ _ _ _ us hl => match us, hl with | [_, _], _ => rfl⟩
abbrev s_law_number : Stmt := top 19
theorem sc_law_number : FnScope ["deck", "kind", "great"] ["deck", "kind"] (defScope s_law_number) := ⟨rfl, rfl, rfl, by decide +kernel, rfl, by decide +kernel, by decide +kernel⟩
theorem c_law_number {P : Program} {w : World} {K : PySem.W.Frag} {mg : Str → Option Value} {base : Heap} {f : Addr} {fd : FuncData} (F : Fun K "_law_number" "_law_number" s_law_number f fd) (hm : mg "_law_number" = some (.ref f)) (z_max : mg "max" = none) (C_law_next : Callee P w K mg base 2 "_law_next" 2 m_law_next) : Callee P w K mg base 3 "_law_number" 2 m_law_number :=
  ⟨f, fd, ["deck", "kind"], fn_ok F sc_law_number rfl (fun cdv A outer s H E vs0 hr =>
    (dss_cons (ds_if (dt_cmp (op_eqP hr.units) oEq_ok (de_var (pv 1)) de_int (nomark _))
    (dss_cons (ds_set (i := 2) sc_law_number.nd rfl (Or.inl rfl) (de_op op_addAll oAdd_ok (de_op op_mul2 oMul2_ok (de_use C_law_next (hr.mono (by decide)) (by rfl) (da_cons (de_var (pv 0)) (da_cons (de_fz (de_fold (d := .int 200000) (de_op op_mul2 oMul2_ok de_int (de_fold (d := .int 100000) (de_op op_pow oPow_ok de_int de_int) (fun _ => rfl))) (fun _ => rfl))) da_nil))) (de_fold (d := .int 100000) (de_op op_pow oPow_ok de_int de_int) (fun _ => rfl))) (de_use C_law_next (hr.mono (by decide)) (by rfl) (da_cons (de_var (pv 0)) (da_cons (de_fz (de_fold (d := .int 100000) (de_op op_pow oPow_ok de_int de_int) (fun _ => rfl))) da_nil)))))
    (dss_cons (ds_set (i := 2) sc_law_number.nd rfl (Or.inl rfl) (de_op op_addAll oAdd_ok (de_op op_sub oSub_ok (de_op op_mod oMod_ok (de_var (pv 2)) (de_fold (d := .int 19999999999) (de_op op_sub oSub_ok (de_fold (d := .int 20000000000) (de_op op_mul2 oMul2_ok de_int (de_fold (d := .int 10000000000) (de_op op_pow oPow_ok de_int de_int) (fun _ => rfl))) (fun _ => rfl)) de_int) (fun _ => rfl))) (de_fold (d := .int 10000000000) (de_op op_pow oPow_ok de_int de_int) (fun _ => rfl))) de_int))
    (dss_one (ds_ret (de_ix ix_seq oIx_ok (de_lst (da_cons (de_var (pv 2)) (da_cons (de_fold (d := .int 9999999999) (de_op op_sub oSub_ok (de_fold (d := .int 10000000000) (de_op op_pow oPow_ok de_int de_int) (fun _ => rfl)) de_int) (fun _ => rfl)) (da_cons (de_fold (d := .int (-9999999999)) (de_op op_sub oSub_ok de_int (de_fold (d := .int 10000000000) (de_op op_pow oPow_ok de_int de_int) (fun _ => rfl))) (fun _ => rfl)) da_nil)))) (de_callB (cr_maxA rfl) oMax_ok (by rfl) z_max (by decide +kernel) (da_cons de_int (da_cons (de_op op_sub oSub_ok (de_use C_law_next (hr.mono (by decide)) (by rfl) (da_cons (de_var (pv 0)) (da_cons de_int da_nil))) de_int) da_nil))) (fun _ _ => rfl))))))
    dss_nil)
    (dss_one (ds_ret (de_op op_sub oSub_ok (de_use C_law_next (hr.mono (by decide)) (by rfl) (da_cons (de_var (pv 0)) (da_cons (de_ix ix_seq oIx_ok (de_lst (da_cons de_int (da_cons de_int da_nil))) (de_var (pv 1)) (fun _ _ => rfl)) da_nil))) (de_ix ix_seq oIx_ok (de_lst (da_cons de_int (da_cons de_int da_nil))) (de_var (pv 1)) (fun _ _ => rfl))))))), hm, F.kp, F.binds fun _ _ _ _ _ _ us hl => match us, hl with | [_, _], _ => rfl⟩
abbrev s_law_places : Stmt := top 20
theorem sc_law_places : FnScope ["deck", "most", "many", "kind", "way", "some", "found", "k", "place"] ["deck", "most"] (defScope s_law_places) := ⟨rfl, rfl, rfl, by decide +kernel, rfl, by decide +kernel, by decide +kernel⟩
theorem c_law_places {P : Program} {w : World} {K : PySem.W.Frag} {mg : Str → Option Value} {base : Heap} {f : Addr} {fd : FuncData} (F : Fun K "_law_places" "_law_places" s_law_places f fd) (hm : mg "_law_places" = some (.ref f)) (z_range : mg "range" = none) (z_len : mg "len" = none) (C_law_next : Callee P w K mg base 2 "_law_next" 2 m_law_next) (C_law_number : Callee P w K mg base 3 "_law_number" 2 m_law_number) : Callee P w K mg base 4 "_law_places" 2 m_law_places :=
  ⟨f, fd, ["deck", "most"], fn_ok F sc_law_places rfl (fun cdv A outer s H E vs0 hr =>
    (dss_cons (ds_set (i := 2) sc_law_places.nd rfl (Or.inl rfl) (de_ix ix_seq oIx_ok (de_lst (da_cons (de_use C_law_next (hr.mono (by decide)) (by rfl) (da_cons (de_var (pv 0)) (da_cons (de_fz (de_op op_addAll oAdd_ok (de_var (pv 1)) de_int)) da_nil))) (da_cons (de_use C_law_next (hr.mono (by decide)) (by rfl) (da_cons (de_var (pv 0)) (da_cons de_int da_nil))) (da_cons (de_var (pv 1)) da_nil)))) (de_use C_law_next (hr.mono (by decide)) (by rfl) (da_cons (de_var (pv 0)) (da_cons de_int da_nil))) (fun _ _ => rfl)))
    (dss_cons (ds_set (i := 3) sc_law_places.nd rfl (Or.inr rfl) (de_use C_law_next (hr.mono (by decide)) (by rfl) (da_cons (de_var (pv 0)) (da_cons de_int da_nil))))
    (dss_cons (ds_set (i := 4) sc_law_places.nd rfl (Or.inl rfl) (de_use C_law_next (hr.mono (by decide)) (by rfl) (da_cons (de_var (pv 0)) (da_cons de_int da_nil))))
    (dss_cons (ds_setLc (i := 5) rfl sc_law_places.nd rfl rfl (sw_true rfl rfl rfl (by decide +kernel)) (di_range1 (by rfl) z_range (da_cons de_int da_nil)) (blkOk_by (own := [(("k" : Str), 7)]) (by kernel_rfl)) (by decide) (fun _ _ _ _ _ => (dg_name (i := 7) sc_law_places.nd rfl (Or.inl rfl))) (fun _ _ _ _ _ => dts_nil) (fun _ _ _ _ _ => (de_tup (da_cons (de_use C_law_number (hr.mono (by decide)) (by rfl) (da_cons (de_var (pv 0)) (da_cons (de_fz (de_var (pv 3))) da_nil))) (da_cons (de_use C_law_number (hr.mono (by decide)) (by rfl) (da_cons (de_var (pv 0)) (da_cons (de_fz (de_var (pv 3))) da_nil))) da_nil)))))
    (dss_cons (ds_set (i := 6) sc_law_places.nd rfl (Or.inl rfl) (de_lst da_nil))
    (dss_cons (ds_for PassesOwn.never rfl (di_range1 (by rfl) z_range (da_cons (de_var (pv 2)) da_nil)) (dg_name (i := 7) sc_law_places.nd rfl (Or.inl rfl))
    (dss_cons (ds_set (i := 8) sc_law_places.nd rfl (Or.inl rfl) (de_tup (da_cons (de_use C_law_number (hr.mono (by decide)) (by rfl) (da_cons (de_var (pv 0)) (da_cons (de_fz (de_var (pv 3))) da_nil))) (da_cons (de_use C_law_number (hr.mono (by decide)) (by rfl) (da_cons (de_var (pv 0)) (da_cons (de_fz (de_var (pv 3))) da_nil))) da_nil))))
    (dss_cons (ds_if (dt_cmp (op_eqP hr.units) oEq_ok (de_var (pv 4)) de_int (nomark _))
    (dss_one (ds_set (i := 8) sc_law_places.nd rfl (Or.inl rfl) (de_tup (da_cons (de_op op_fdivW oDiv_ok (de_var (pv 7)) de_int) (da_cons (de_op op_sub oSub_ok (de_var (pv 7)) (de_op op_fdivW oDiv_ok (de_var (pv 7)) de_int)) da_nil)))))
    dss_nil)
    (dss_cons (ds_if (dt_cmp (op_eqP hr.units) oEq_ok (de_var (pv 4)) de_int (nomark _))
    (dss_one (ds_set (i := 8) sc_law_places.nd rfl (Or.inl rfl) (de_tup (da_cons (de_op op_fdivW oDiv_ok (de_var (pv 7)) de_int) (da_cons (de_op op_sub oSub_ok de_int (de_var (pv 7))) da_nil)))))
    dss_nil)
    (dss_cons (ds_if (dt_cmp (op_eqP hr.units) oEq_ok (de_var (pv 4)) de_int (nomark _))
    (dss_one (ds_set (i := 8) sc_law_places.nd rfl (Or.inl rfl) (de_tup (da_cons (de_ix ix_seq oIx_ok (de_var (pv 8)) de_int (fun _ _ => rfl)) (da_cons (de_ix ix_seq oIx_ok (de_ix ix_seq oIx_ok (de_var (pv 5)) de_int (fun _ _ => rfl)) de_int (fun _ _ => rfl)) da_nil)))))
    dss_nil)
    (dss_cons (ds_if (dt_cmp (op_eqP hr.units) oEq_ok (de_var (pv 4)) de_int (nomark _))
    (dss_one (ds_set (i := 8) sc_law_places.nd rfl (Or.inl rfl) (de_ix ix_seq oIx_ok (de_var (pv 5)) (de_use C_law_next (hr.mono (by decide)) (by rfl) (da_cons (de_var (pv 0)) (da_cons de_int da_nil))) (fun _ _ => rfl))))
    dss_nil)
    (dss_cons (ds_if (dw_and (dt_cmp (op_eqP hr.units) oEq_ok (de_use C_law_next (hr.mono (by decide)) (by rfl) (da_cons (de_var (pv 0)) (da_cons de_int da_nil))) de_int (nomark _)) (dw_and1 (dt_cmp (op_neP hr.units) oNe_ok (de_var (pv 6)) (de_lst da_nil) (nomark _)))).pt
    (dss_one (ds_set (i := 8) sc_law_places.nd rfl (Or.inl rfl) (de_ix ix_seq oIx_ok (de_var (pv 6)) (de_use C_law_next (hr.mono (by decide)) (by rfl) (da_cons (de_var (pv 0)) (da_cons (de_fz (de_callB call_len oLen_ok (by rfl) z_len (by decide +kernel) (da_cons (de_var (pv 6)) da_nil))) da_nil))) (fun _ _ => rfl))))
    dss_nil)
    (dss_one (ds_expr (de_m_append1 (de_var (pv 6)) (da_cons (de_var (pv 8)) da_nil)))))))))))
    (dss_one (ds_ret (de_var (pv 6))))))))))), hm, F.kp, F.binds fun _ _ _ _ _ _ us hl => match us, hl with | [_, _], _ => rfl⟩
abbrev s_law_names : Stmt := top 18
theorem sc_law_names : FnScope ["deck", "many", "letters", "pad", "begin", "way", "found", "k", "number", "name", "left", "told", "one"] ["deck", "many"] (defScope s_law_names) := ⟨rfl, rfl, rfl, by decide +kernel, rfl, by decide +kernel, by decide +kernel⟩
theorem c_law_names {P : Program} {w : World} {K : PySem.W.Frag} {mg : Str → Option Value} {base : Heap} {f : Addr} {fd : FuncData} (F : Fun K "_law_names" "_law_names" s_law_names f fd) (hm : mg "_law_names" = some (.ref f)) (z_range : mg "range" = none) (z_list : mg "list" = none) (z_len : mg "len" = none) (z_enumerate : mg "enumerate" = none) (C_law_next : Callee P w K mg base 2 "_law_next" 2 m_law_next) : Callee P w K mg base 3 "_law_names" 2 m_law_names :=
  ⟨f, fd, ["deck", "many"], fn_ok F sc_law_names rfl (fun cdv A outer s H E vs0 hr =>
    (dss_cons (ds_set (i := 2) sc_law_names.nd rfl (Or.inl rfl) de_str)
    (dss_cons (ds_set (i := 3) sc_law_names.nd rfl (Or.inl rfl) (de_ix ix_seq oIx_ok (de_var (pv 2)) (de_use C_law_next (hr.mono (by decide)) (by rfl) (da_cons (de_var (pv 0)) (da_cons de_int da_nil))) (fun _ _ => rfl)))
    (dss_cons (ds_set (i := 4) sc_law_names.nd rfl (Or.inl rfl) (de_use C_law_next (hr.mono (by decide)) (by rfl) (da_cons (de_var (pv 0)) (da_cons de_int da_nil))))
    (dss_cons (ds_set (i := 5) sc_law_names.nd rfl (Or.inl rfl) (de_use C_law_next (hr.mono (by decide)) (by rfl) (da_cons (de_var (pv 0)) (da_cons de_int da_nil))))
    (dss_cons (ds_set (i := 6) sc_law_names.nd rfl (Or.inl rfl) (de_lst da_nil))
    (dss_cons (ds_for PassesOwn.never rfl (di_range1 (by rfl) z_range (da_cons (de_var (pv 1)) da_nil)) (dg_name (i := 7) sc_law_names.nd rfl (Or.inl rfl))
    (dss_cons (ds_set (i := 8) sc_law_names.nd rfl (Or.inl rfl) (de_op op_addAll oAdd_ok (de_var (pv 4)) (de_op op_mul2 oMul2_ok de_int (de_var (pv 7)))))
    (dss_cons (ds_set (i := 9) sc_law_names.nd rfl (Or.inl rfl) (de_op op_addAll oAdd_ok (de_ix ix_seq oIx_ok (de_var (pv 2)) (de_op op_mod oMod_ok (de_var (pv 8)) de_int) (fun _ _ => rfl)) (de_ix ix_seq oIx_ok (de_var (pv 2)) (de_op op_mod oMod_ok (de_op op_fdivW oDiv_ok (de_var (pv 8)) de_int) de_int) (fun _ _ => rfl))))
    (dss_cons (ds_set (i := 9) sc_law_names.nd rfl (Or.inl rfl) (de_op op_addAll oAdd_ok (de_var (pv 9)) (de_ix ix_seq oIx_ok (de_var (pv 2)) (de_op op_fdivW oDiv_ok (de_var (pv 8)) de_int) (fun _ _ => rfl))))
    (dss_cons (ds_if (dt_cmp (op_eqP hr.units) oEq_ok (de_var (pv 5)) de_int (nomark _))
    (dss_one (ds_set (i := 9) sc_law_names.nd rfl (Or.inl rfl) (de_op op_addAll oAdd_ok (de_op op_mul2 oMul2_ok (de_var (pv 3)) (de_op op_mod oMod_ok (de_var (pv 7)) de_int)) (de_var (pv 9)))))
    dss_nil)
    (dss_cons (ds_if (dt_cmp (op_eqP hr.units) oEq_ok (de_var (pv 5)) de_int (nomark _))
    (dss_one (ds_set (i := 9) sc_law_names.nd rfl (Or.inl rfl) (de_op op_addAll oAdd_ok (de_var (pv 9)) (de_op op_mul2 oMul2_ok (de_var (pv 3)) (de_op op_mod oMod_ok (de_var (pv 7)) de_int)))))
    dss_nil)
    (dss_cons (ds_if (dt_cmp (op_eqP hr.units) oEq_ok (de_var (pv 5)) de_int (nomark _))
    (dss_one (ds_set (i := 9) sc_law_names.nd rfl (Or.inl rfl) (de_ix ix_seq oIx_ok (de_lst (da_cons (de_ix ix_seq oIx_ok (de_var (pv 2)) (de_op op_mod oMod_ok (de_var (pv 7)) de_int) (fun _ _ => rfl)) (da_cons (de_op op_addAll oAdd_ok (de_ix ix_seq oIx_ok (de_var (pv 2)) (de_op op_mod oMod_ok (de_var (pv 7)) de_int) (fun _ _ => rfl)) de_str) (da_cons (de_op op_addAll oAdd_ok (de_ix ix_seq oIx_ok (de_var (pv 2)) (de_op op_mod oMod_ok (de_var (pv 7)) de_int) (fun _ _ => rfl)) de_str) da_nil)))) (de_op op_fdivW oDiv_ok (de_var (pv 7)) de_int) (fun _ _ => rfl))))
    dss_nil)
    (dss_one (ds_expr (de_m_append1 (de_var (pv 6)) (da_cons (de_var (pv 9)) da_nil)))))))))))
    (dss_cons (ds_set (i := 10) sc_law_names.nd rfl (Or.inr rfl) (de_callTy call_list_of oListOf_ok (by rfl) z_list (by decide +kernel) (da_cons (de_var (pv 6)) da_nil)))
    (dss_cons (ds_set (i := 11) sc_law_names.nd rfl (Or.inr rfl) (de_lc rfl sc_law_names.nd (di_range1 (by rfl) z_range (da_cons (de_var (pv 1)) da_nil)) (blkOk_by (own := [(("k" : Str), 7)]) (by kernel_rfl)) (by decide) (fun _ _ _ _ _ => (dg_name (i := 7) sc_law_names.nd rfl (Or.inl rfl))) (fun _ _ _ _ _ => dts_nil) (fun _ _ _ _ _ => (de_m_pop1 (de_var (pv 10)) (da_cons (de_use C_law_next (hr.mono (by decide)) (by rfl) (da_cons (de_var (pv 0)) (da_cons (de_fz (de_callB call_len oLen_ok (by rfl) z_len (by decide +kernel) (da_cons (de_var (pv 10)) da_nil))) da_nil))) da_nil)))))
    (dss_one (ds_ret (de_lc rfl sc_law_names.nd (di_enumA (by rfl) z_enumerate (da_cons (de_var (pv 11)) da_nil)) (blkOk_by (own := [(("k" : Str), 7), (("one" : Str), 12)]) (by kernel_rfl)) (by decide) (fun _ _ _ _ _ => (dg_tup rfl (dgs_cons (dg_name (i := 7) sc_law_names.nd rfl (Or.inl rfl)) (dgs_cons (dg_name (i := 12) sc_law_names.nd rfl (Or.inl rfl)) dgs_nil)))) (fun _ _ _ _ _ => (dts_one (dt_cmp (op_niP hr.units) oNi_ok (de_var (pv 12)) (de_slice (de_var (pv 11)) do_none (do_some (de_var (pv 7)))) (by rfl)))) (fun _ _ _ _ _ => (de_var (pv 12))))))))))))))), hm, F.kp, F.binds fun _ _ _ _ _ _ us hl => match us, hl with | [_, _], _ => rfl⟩
abbrev s_law_points : Stmt := top 21
theorem sc_law_points : FnScope ["deck", "most", "places", "names", "k", "name", "place"] ["deck", "most"] (defScope s_law_points) := ⟨rfl, rfl, rfl, by decide +kernel, rfl, by decide +kernel, by decide +kernel⟩
theorem c_law_points {P : Program} {w : World} {K : PySem.W.Frag} {mg : Str → Option Value} {base : Heap} {f : Addr} {fd : FuncData} (F : Fun K "_law_points" "_law_points" s_law_points f fd) (hm : mg "_law_points" = some (.ref f)) (z_len : mg "len" = none) (z_range : mg "range" = none) (z_zip : mg "zip" = none) (z_tuple : mg "tuple" = none) (C_law_places : Callee P w K mg base 4 "_law_places" 2 m_law_places) (C_law_next : Callee P w K mg base 2 "_law_next" 2 m_law_next) (C_law_names : Callee P w K mg base 3 "_law_names" 2 m_law_names) : Callee P w K mg base 5 "_law_points" 2 m_law_points :=
  ⟨f, fd, ["deck", "most"], fn_ok F sc_law_points rfl (fun cdv A outer s H E vs0 hr =>
    (dss_cons (ds_set (i := 2) sc_law_points.nd rfl (Or.inr rfl) (de_use C_law_places (hr.mono (by decide)) (by rfl) (da_cons (de_var (pv 0)) (da_cons (de_var (pv 1)) da_nil))))
    (dss_cons (ds_if (dt_cmp (op_eqP hr.units) oEq_ok (de_use C_law_next (hr.mono (by decide)) (by rfl) (da_cons (de_var (pv 0)) (da_cons de_int da_nil))) de_int (nomark _))
    (dss_one (ds_set (i := 2) sc_law_points.nd rfl (Or.inr rfl) (de_lc rfl sc_law_points.nd (di_range1 (by rfl) z_range (da_cons (de_callB call_len oLen_ok (by rfl) z_len (by decide +kernel) (da_cons (de_var (pv 2)) da_nil)) da_nil)) (blkOk_by (own := [(("k" : Str), 4)]) (by kernel_rfl)) (by decide) (fun _ _ _ _ _ => (dg_name (i := 4) sc_law_points.nd rfl (Or.inl rfl))) (fun _ _ _ _ _ => dts_nil) (fun _ _ _ _ _ => (de_m_pop1 (de_var (pv 2)) (da_cons (de_use C_law_next (hr.mono (by decide)) (by rfl) (da_cons (de_var (pv 0)) (da_cons (de_fz (de_callB call_len oLen_ok (by rfl) z_len (by decide +kernel) (da_cons (de_var (pv 2)) da_nil))) da_nil))) da_nil))))))
    dss_nil)
    (dss_cons (ds_set (i := 3) sc_law_points.nd rfl (Or.inl rfl) (de_use C_law_names (hr.mono (by decide)) (by rfl) (da_cons (de_var (pv 0)) (da_cons (de_fz (de_callB call_len oLen_ok (by rfl) z_len (by decide +kernel) (da_cons (de_var (pv 2)) da_nil))) da_nil))))
    (dss_one (ds_ret (de_callTy call_tuple_of oTupOf_ok (by rfl) z_tuple (by decide +kernel) (da_cons (de_lc rfl sc_law_points.nd (di_zipA (by rfl) z_zip (da_cons (de_var (pv 3)) (da_cons (de_var (pv 2)) da_nil))) (blkOk_by (own := [(("name" : Str), 5), (("place" : Str), 6)]) (by kernel_rfl)) (by decide) (fun _ _ _ _ _ => (dg_tup rfl (dgs_cons (dg_name (i := 5) sc_law_points.nd rfl (Or.inl rfl)) (dgs_cons (dg_name (i := 6) sc_law_points.nd rfl (Or.inl rfl)) dgs_nil)))) (fun _ _ _ _ _ => dts_nil) (fun _ _ _ _ _ => (de_tup (da_cons (de_var (pv 5)) (da_cons (de_ix ix_seq oIx_ok (de_var (pv 6)) de_int (fun _ _ => rfl)) (da_cons (de_ix ix_seq oIx_ok (de_var (pv 6)) de_int (fun _ _ => rfl)) da_nil)))))) da_nil)))))))), hm, F.kp, F.binds fun _ _ _ _ _ _ us hl => match us, hl with | [_, _], _ => rfl⟩
abbrev s_law_figures : Stmt := top 22
theorem sc_law_figures : FnScope ["number", "sign", "text", "k"] ["number"] (defScope s_law_figures) := ⟨rfl, rfl, rfl, by decide +kernel, rfl, by decide +kernel, by decide +kernel⟩
theorem c_law_figures {P : Program} {w : World} {K : PySem.W.Frag} {mg : Str → Option Value} {base : Heap} {f : Addr} {fd : FuncData} (F : Fun K "_law_figures" "_law_figures" s_law_figures f fd) (hm : mg "_law_figures" = some (.ref f)) (z_int : mg "int" = none) (z_abs : mg "abs" = none) (z_range : mg "range" = none) : Callee P w K mg base 1 "_law_figures" 1 m_law_figures :=
  ⟨f, fd, ["number"], fn_ok F sc_law_figures rfl (fun cdv A outer s H E vs0 hr =>
    (dss_cons (ds_set (i := 1) sc_law_figures.nd rfl (Or.inl rfl) (de_ix ix_seq oIx_ok (de_lst (da_cons de_str (da_cons de_str da_nil))) (de_callTy call_int1 oInt1_ok (by rfl) z_int (by decide +kernel) (da_cons (de_cmp op_lt oCmpI_ok (de_var (pv 0)) de_int (nomark _)) da_nil)) (fun _ _ => rfl)))
    (dss_cons (ds_set (i := 0) sc_law_figures.nd rfl (Or.inl rfl) (de_callB call_abs oAbs_ok (by rfl) z_abs (by decide +kernel) (da_cons (de_var (pv 0)) da_nil)))
    (dss_cons (ds_set (i := 2) sc_law_figures.nd rfl (Or.inl rfl) (de_ix ix_seq oIx_ok de_str (de_op op_mod oMod_ok (de_var (pv 0)) de_int) (fun _ _ => rfl)))
    (dss_cons (ds_for PassesOwn.never rfl (di_range1 (by rfl) z_range (da_cons de_int da_nil)) (dg_name (i := 3) sc_law_figures.nd rfl (Or.inl rfl))
    (dss_one (ds_if (dt_cmp op_gt oCmpI_ok (de_var (pv 0)) de_int (nomark _))
    (dss_cons (ds_set (i := 0) sc_law_figures.nd rfl (Or.inl rfl) (de_op op_fdivW oDiv_ok (de_var (pv 0)) de_int))
    (dss_one (ds_set (i := 2) sc_law_figures.nd rfl (Or.inl rfl) (de_op op_addAll oAdd_ok (de_ix ix_seq oIx_ok de_str (de_op op_mod oMod_ok (de_var (pv 0)) de_int) (fun _ _ => rfl)) (de_var (pv 2))))))
    dss_nil)))
    (dss_one (ds_ret (de_op op_addAll oAdd_ok (de_var (pv 1)) (de_var (pv 2)))))))))), hm, F.kp, F.binds fun _ _ _ _ _ _ us hl => match us, hl with | [_], _ => rfl⟩
abbrev s_law_text : Stmt := top 23
theorem sc_law_text : FnScope ["points", "name", "x", "y"] ["points"] (defScope s_law_text) := ⟨rfl, rfl, rfl, by decide +kernel, rfl, by decide +kernel, by decide +kernel⟩
theorem c_law_text {P : Program} {w : World} {K : PySem.W.Frag} {mg : Str → Option Value} {base : Heap} {f : Addr} {fd : FuncData} (F : Fun K "_law_text" "_law_text" s_law_text f fd) (hm : mg "_law_text" = some (.ref f)) (C_law_figures : Callee P w K mg base 1 "_law_figures" 1 m_law_figures) : Callee P w K mg base 2 "_law_text" 1 m_law_text :=
  ⟨f, fd, ["points"], fn_ok F sc_law_text rfl (fun cdv A outer s H E vs0 hr =>
    (dss_one (ds_ret (de_m_join1 de_str (da_cons (de_lc rfl sc_law_text.nd (di_seq (de_var (pv 0))) (blkOk_by (own := [(("name" : Str), 1), (("x" : Str), 2), (("y" : Str), 3)]) (by kernel_rfl)) (by decide) (fun _ _ _ _ _ => (dg_tup rfl (dgs_cons (dg_name (i := 1) sc_law_text.nd rfl (Or.inl rfl)) (dgs_cons (dg_name (i := 2) sc_law_text.nd rfl (Or.inl rfl)) (dgs_cons (dg_name (i := 3) sc_law_text.nd rfl (Or.inl rfl)) dgs_nil))))) (fun _ _ _ _ _ => dts_nil) (fun _ _ _ _ _ => (de_op op_addAll oAdd_ok (de_op op_addAll oAdd_ok (de_op op_addAll oAdd_ok (de_op op_addAll oAdd_ok (de_var (pv 1)) de_str) (de_use C_law_figures (hr.mono (by decide)) (by rfl) (da_cons (de_fz (de_var (pv 2))) da_nil))) de_str) (de_use C_law_figures (hr.mono (by decide)) (by rfl) (da_cons (de_fz (de_var (pv 3))) da_nil))))) da_nil))))), hm, F.kp, F.binds fun _ _ _ _ _ _ us hl => match us, hl with | [_], _ => rfl⟩
abbrev s_law_sign : Stmt := top 24
theorem sc_law_sign : FnScope ["deck", "signs"] ["deck"] (defScope s_law_sign) := ⟨rfl, rfl, rfl, by decide +kernel, rfl, by decide +kernel, by decide +kernel⟩
theorem cn_law_sign {P : Program} {w : World} {K : PySem.W.Frag} {mg : Str → Option Value} {base : Heap} {f : Addr} {fd : FuncData} (F : Fun K "_law_sign" "_law_sign" s_law_sign f fd) (hm : mg "_law_sign" = some (.ref f)) (z_len : mg "len" = none) (C_law_next : Callee P w K mg base 2 "_law_next" 2 m_law_next) : CalleeN P w K mg base 3 "_law_sign" m_law_sign :=
  ⟨f, fd, "deck", fnN_ok F sc_law_sign rfl (fun n cdv A outer s H E vs0 hr =>
    dssn_sign (i := 1) sc_law_sign.nd rfl rfl (de_use C_law_next (hr.mono (by decide)) (by rfl) (da_cons (de_var (pv 0)) (da_cons (de_fz (de_callB call_len oLen_ok (by rfl) z_len (by decide +kernel) (da_cons (de_var (pv 1)) da_nil))) da_nil))) (fun _ _ => rfl)), hm, F.kp, F.binds fun _ _ _ _ _ _ us hl => match us, hl with | [_], _ => rfl⟩
theorem c_law_sign {P : Program} {w : World} {K : PySem.W.Frag} {mg : Str → Option Value} {base : Heap} {f : Addr} {fd : FuncData} (F : Fun K "_law_sign" "_law_sign" s_law_sign f fd) (hm : mg "_law_sign" = some (.ref f)) (z_len : mg "len" = none) (C_law_next : Callee P w K mg base 2 "_law_next" 2 m_law_next) : Callee P w K mg base 3 "_law_sign" 1 m_law_sign :=
  ⟨f, fd, ["deck"], fn_ok F sc_law_sign rfl (fun cdv A outer s H E vs0 hr =>
    (dss_cons (ds_set (i := 1) sc_law_sign.nd rfl (Or.inl rfl) de_str)
    (dss_one (ds_ret (de_ix ix_str oIxS_ok (de_var (pv 1)) (de_use C_law_next (hr.mono (by decide)) (by rfl) (da_cons (de_var (pv 0)) (da_cons (de_fz (de_callB call_len oLen_ok (by rfl) z_len (by decide +kernel) (da_cons (de_var (pv 1)) da_nil))) da_nil))) (fun _ _ => rfl)))))), hm, F.kp, F.binds fun _ _ _ _ _ _ us hl => match us, hl with | [_], _ => rfl⟩
abbrev s_law_spoilt_line : Stmt := top 28
theorem sc_law_spoilt_line : FnScope ["deck", "line", "names", "words", "at", "there", "some", "way", "text", "cut"] ["deck", "line", "names"] (defScope s_law_spoilt_line) := ⟨rfl, rfl, rfl, by decide +kernel, rfl, by decide +kernel, by decide +kernel⟩
theorem c_law_spoilt_line {P : Program} {w : World} {K : PySem.W.Frag} {mg : Str → Option Value} {base : Heap} {f : Addr} {fd : FuncData} (F : Fun K "_law_spoilt_line" "_law_spoilt_line" s_law_spoilt_line f fd) (hm : mg "_law_spoilt_line" = some (.ref f)) (z_len : mg "len" = none) (C_law_next : Callee P w K mg base 2 "_law_next" 2 m_law_next) (C_law_sign : Callee P w K mg base 3 "_law_sign" 1 m_law_sign) : Callee P w K mg base 4 "_law_spoilt_line" 3 m_law_spoilt_line :=
  ⟨f, fd, ["deck", "line", "names"], fn_ok F sc_law_spoilt_line rfl (fun cdv A outer s H E vs0 hr =>
    (dss_cons (ds_set (i := 3) sc_law_spoilt_line.nd rfl (Or.inl rfl) (de_m_split1 (de_var (pv 1)) (da_cons de_str da_nil)))
    (dss_cons (ds_set (i := 4) sc_law_spoilt_line.nd rfl (Or.inl rfl) (de_use C_law_next (hr.mono (by decide)) (by rfl) (da_cons (de_var (pv 0)) (da_cons (de_fz (de_callB call_len oLen_ok (by rfl) z_len (by decide +kernel) (da_cons (de_var (pv 3)) da_nil))) da_nil))))
    (dss_cons (ds_set (i := 5) sc_law_spoilt_line.nd rfl (Or.inl rfl) (de_use C_law_next (hr.mono (by decide)) (by rfl) (da_cons (de_var (pv 0)) (da_cons (de_fz (de_callB call_len oLen_ok (by rfl) z_len (by decide +kernel) (da_cons (de_var (pv 3)) da_nil))) da_nil))))
    (dss_cons (ds_set (i := 6) sc_law_spoilt_line.nd rfl (Or.inl rfl) (de_op op_addAll oAdd_ok (de_var (pv 2)) (de_lst (da_cons de_str (da_cons de_str (da_cons de_str (da_cons de_str (da_cons de_str (da_cons de_str (da_cons de_str (da_cons de_str (da_cons de_str (da_cons de_str (da_cons de_str (da_cons de_str (da_cons de_str (da_cons de_str da_nil)))))))))))))))))
    (dss_cons (ds_set (i := 6) sc_law_spoilt_line.nd rfl (Or.inl rfl) (de_op op_addAll oAdd_ok (de_var (pv 6)) (de_lst (da_cons de_str (da_cons de_str (da_cons de_str (da_cons de_str (da_cons de_str (da_cons de_str da_nil)))))))))
    (dss_cons (ds_set (i := 7) sc_law_spoilt_line.nd rfl (Or.inl rfl) (de_use C_law_next (hr.mono (by decide)) (by rfl) (da_cons (de_var (pv 0)) (da_cons de_int da_nil))))
    (dss_cons (ds_if (dt_cmp (op_eqP hr.units) oEq_ok (de_var (pv 7)) de_int (nomark _))
    (dss_one (ds_expr (de_m_pop1 (de_var (pv 3)) (da_cons (de_var (pv 4)) da_nil))))
    (dss_one (ds_if (dt_cmp (op_eqP hr.units) oEq_ok (de_var (pv 7)) de_int (nomark _))
    (dss_one (ds_expr (de_m_insert2 (de_var (pv 3)) (da_cons (de_var (pv 5)) (da_cons (de_ix ix_seq oIx_ok (de_var (pv 3)) (de_var (pv 4)) (fun _ _ => rfl)) da_nil)))))
    (dss_one (ds_if (dt_cmp (op_eqP hr.units) oEq_ok (de_var (pv 7)) de_int (nomark _))
    (dss_one (ds_swap rfl (de_tup (da_cons (de_ix ix_seq oIx_ok (de_var (pv 3)) (de_var (pv 5)) (fun _ _ => rfl)) (da_cons (de_ix ix_seq oIx_ok (de_var (pv 3)) (de_var (pv 4)) (fun _ _ => rfl)) da_nil))) (de_var (pv 3)) (de_var (pv 4)) (de_var (pv 3)) (de_var (pv 5))))
    (dss_one (ds_if (dt_cmp (op_eqP hr.units) oEq_ok (de_var (pv 7)) de_int (nomark _))
    (dss_one (ds_sub (de_ix ix_seq oIx_ok (de_var (pv 6)) (de_use C_law_next (hr.mono (by decide)) (by rfl) (da_cons (de_var (pv 0)) (da_cons (de_fz (de_callB call_len oLen_ok (by rfl) z_len (by decide +kernel) (da_cons (de_var (pv 6)) da_nil))) da_nil))) (fun _ _ => rfl)) (de_var (pv 3)) (de_var (pv 4))))
    (dss_one (ds_if (dt_cmp (op_eqP hr.units) oEq_ok (de_var (pv 7)) de_int (nomark _))
    (dss_one (ds_expr (de_m_insert2 (de_var (pv 3)) (da_cons (de_var (pv 4)) (da_cons (de_ix ix_seq oIx_ok (de_var (pv 6)) (de_use C_law_next (hr.mono (by decide)) (by rfl) (da_cons (de_var (pv 0)) (da_cons (de_fz (de_callB call_len oLen_ok (by rfl) z_len (by decide +kernel) (da_cons (de_var (pv 6)) da_nil))) da_nil))) (fun _ _ => rfl)) da_nil)))))
    dss_nil)))))))))
    (dss_cons (ds_set (i := 8) sc_law_spoilt_line.nd rfl (Or.inl rfl) (de_m_join1 de_str (da_cons (de_var (pv 3)) da_nil)))
    (dss_cons (ds_set (i := 9) sc_law_spoilt_line.nd rfl (Or.inl rfl) (de_use C_law_next (hr.mono (by decide)) (by rfl) (da_cons (de_var (pv 0)) (da_cons (de_fz (de_op op_addAll oAdd_ok (de_callB call_len oLen_ok (by rfl) z_len (by decide +kernel) (da_cons (de_var (pv 8)) da_nil)) de_int)) da_nil))))
    (dss_cons (ds_if (dt_cmp (op_eqP hr.units) oEq_ok (de_var (pv 7)) de_int (nomark _))
    (dss_one (ds_ret (de_op op_addAll oAdd_ok (de_op op_addAll oAdd_ok (de_slice (de_var (pv 8)) do_none (do_some (de_var (pv 9)))) (de_ix ix_seq oIx_ok (de_lst (da_cons (de_ix ix_seq oIx_ok de_str (de_use C_law_next (hr.mono (by decide)) (by rfl) (da_cons (de_var (pv 0)) (da_cons de_int da_nil))) (fun _ _ => rfl)) (da_cons (de_use C_law_sign (hr.mono (by decide)) (by rfl) (da_cons (de_var (pv 0)) da_nil)) da_nil))) (de_use C_law_next (hr.mono (by decide)) (by rfl) (da_cons (de_var (pv 0)) (da_cons de_int da_nil))) (fun _ _ => rfl))) (de_slice (de_var (pv 8)) (do_some (de_var (pv 9))) do_none))))
    dss_nil)
    (dss_cons (ds_if (dt_cmp (op_eqP hr.units) oEq_ok (de_var (pv 7)) de_int (nomark _))
    (dss_one (ds_ret (de_op op_addAll oAdd_ok (de_slice (de_var (pv 8)) do_none (do_some (de_var (pv 9)))) (de_slice (de_var (pv 8)) (do_some (de_op op_addAll oAdd_ok (de_var (pv 9)) de_int)) do_none))))
    dss_nil)
    (dss_one (ds_ret (de_var (pv 8)))))))))))))))), hm, F.kp, F.binds fun _ _ _ _ _ _ us hl => match us, hl with | [_, _, _], _ => rfl⟩
abbrev s_law_spoilt : Stmt := top 29
theorem sc_law_spoilt : FnScope ["deck", "points", "lines", "k", "at", "way", "one"] ["deck", "points"] (defScope s_law_spoilt) := ⟨rfl, rfl, rfl, by decide +kernel, rfl, by decide +kernel, by decide +kernel⟩
theorem c_law_spoilt {P : Program} {w : World} {K : PySem.W.Frag} {mg : Str → Option Value} {base : Heap} {f : Addr} {fd : FuncData} (F : Fun K "_law_spoilt" "_law_spoilt" s_law_spoilt f fd) (hm : mg "_law_spoilt" = some (.ref f)) (z_range : mg "range" = none) (z_len : mg "len" = none) (C_law_text : Callee P w K mg base 2 "_law_text" 1 m_law_text) (C_law_next : Callee P w K mg base 2 "_law_next" 2 m_law_next) (C_law_spoilt_line : Callee P w K mg base 4 "_law_spoilt_line" 3 m_law_spoilt_line) : Callee P w K mg base 5 "_law_spoilt" 2 m_law_spoilt :=
  ⟨f, fd, ["deck", "points"], fn_ok F sc_law_spoilt rfl (fun cdv A outer s H E vs0 hr =>
    (dss_cons (ds_set (i := 2) sc_law_spoilt.nd rfl (Or.inl rfl) (de_m_split1 (de_use C_law_text (hr.mono (by decide)) (by rfl) (da_cons (de_var (pv 1)) da_nil)) (da_cons de_str da_nil)))
    (dss_cons (ds_for PassesOwn.never rfl (di_range1 (by rfl) z_range (da_cons (de_op op_addAll oAdd_ok de_int (de_use C_law_next (hr.mono (by decide)) (by rfl) (da_cons (de_var (pv 0)) (da_cons de_int da_nil)))) da_nil)) (dg_name (i := 3) sc_law_spoilt.nd rfl (Or.inl rfl))
    (dss_cons (ds_set (i := 4) sc_law_spoilt.nd rfl (Or.inl rfl) (de_use C_law_next (hr.mono (by decide)) (by rfl) (da_cons (de_var (pv 0)) (da_cons (de_fz (de_callB call_len oLen_ok (by rfl) z_len (by decide +kernel) (da_cons (de_var (pv 2)) da_nil))) da_nil))))
    (dss_cons (ds_set (i := 5) sc_law_spoilt.nd rfl (Or.inl rfl) (de_use C_law_next (hr.mono (by decide)) (by rfl) (da_cons (de_var (pv 0)) (da_cons de_int da_nil))))
    (dss_one (ds_if (dw_and (dt_cmp (op_eqP hr.units) oEq_ok (de_var (pv 5)) de_int (nomark _)) (dw_and1 (dt_cmp op_gt oCmpI_ok (de_callB call_len oLen_ok (by rfl) z_len (by decide +kernel) (da_cons (de_var (pv 2)) da_nil)) de_int (nomark _)))).pt
    (dss_one (ds_expr (de_m_pop1 (de_var (pv 2)) (da_cons (de_var (pv 4)) da_nil))))
    (dss_one (ds_if (dt_cmp (op_eqP hr.units) oEq_ok (de_var (pv 5)) de_int (nomark _))
    (dss_one (ds_expr (de_m_insert2 (de_var (pv 2)) (da_cons (de_use C_law_next (hr.mono (by decide)) (by rfl) (da_cons (de_var (pv 0)) (da_cons (de_fz (de_op op_addAll oAdd_ok (de_callB call_len oLen_ok (by rfl) z_len (by decide +kernel) (da_cons (de_var (pv 2)) da_nil)) de_int)) da_nil))) (da_cons (de_ix ix_seq oIx_ok (de_var (pv 2)) (de_var (pv 4)) (fun _ _ => rfl)) da_nil)))))
    (dss_one (ds_if (dt_cmp (op_eqP hr.units) oEq_ok (de_var (pv 5)) de_int (nomark _))
    (dss_one (ds_sub (de_ix ix_seq oIx_ok (de_lst (da_cons de_str (da_cons de_str (da_cons de_str (da_cons de_str da_nil))))) (de_use C_law_next (hr.mono (by decide)) (by rfl) (da_cons (de_var (pv 0)) (da_cons de_int da_nil))) (fun _ _ => rfl)) (de_var (pv 2)) (de_var (pv 4))))
    (dss_one (ds_sub (de_use C_law_spoilt_line (hr.mono (by decide)) (by rfl) (da_cons (de_var (pv 0)) (da_cons (de_ix ix_seq oIx_ok (de_var (pv 2)) (de_var (pv 4)) (fun _ _ => rfl)) (da_cons (de_fz (de_lc rfl sc_law_spoilt.nd (di_seq (de_var (pv 1))) (blkOk_by (own := [(("one" : Str), 6)]) (by kernel_rfl)) (by decide) (fun _ _ _ _ _ => (dg_name (i := 6) sc_law_spoilt.nd rfl (Or.inl rfl))) (fun _ _ _ _ _ => dts_nil) (fun _ _ _ _ _ => (de_ix ix_seq oIx_ok (de_var (pv 6)) de_int (fun _ _ => rfl))))) da_nil)))) (de_var (pv 2)) (de_var (pv 4)))))))))))))
    (dss_one (ds_ret (de_m_join1 de_str (da_cons (de_var (pv 2)) da_nil))))))), hm, F.kp, F.binds fun _ _ _ _ _ _ us hl => match us, hl with | [_, _], _ => rfl⟩
abbrev s_law_number_of : Stmt := top 26
theorem sc_law_number_of : FnScope ["word", "number", "sign", "figures", "figure"] ["word"] (defScope s_law_number_of) := ⟨rfl, rfl, rfl, by decide +kernel, rfl, by decide +kernel, by decide +kernel⟩
theorem c_law_number_of {P : Program} {w : World} {K : PySem.W.Frag} {mg : Str → Option Value} {base : Heap} {f : Addr} {fd : FuncData} (F : Fun K "_law_number_of" "_law_number_of" s_law_number_of f fd) (hm : mg "_law_number_of" = some (.ref f)) (z_int : mg "int" = none) : Callee P w K mg base 1 "_law_number_of" 1 m_law_number_of :=
  ⟨f, fd, ["word"], fn_ok F sc_law_number_of rfl (fun cdv A outer s H E vs0 hr =>
    (dss_cons (ds_set (i := 1) sc_law_number_of.nd rfl (Or.inl rfl) de_int)
    (dss_cons (ds_set (i := 2) sc_law_number_of.nd rfl (Or.inl rfl) (de_ix ix_seq oIx_ok (de_lst (da_cons de_int (da_cons (de_fold (d := .int (-1)) (de_neg de_int) (fun _ => rfl)) da_nil))) (de_callTy call_int1 oInt1_ok (by rfl) z_int (by decide +kernel) (da_cons (de_cmp (op_eqP hr.units) oEq_ok (de_slice (de_var (pv 0)) do_none (do_some de_int)) de_str (nomark _)) da_nil)) (fun _ _ => rfl)))
    (dss_cons (ds_set (i := 3) sc_law_number_of.nd rfl (Or.inl rfl) (de_slice (de_var (pv 0)) (do_some (de_callTy call_int1 oInt1_ok (by rfl) z_int (by decide +kernel) (da_cons (de_cmp op_lt oCmpI_ok (de_var (pv 2)) de_int (nomark _)) da_nil))) do_none))
    (dss_cons (ds_for PassesOwn.never rfl (di_seq (de_var (pv 3))) (dg_name (i := 4) sc_law_number_of.nd rfl (Or.inl rfl))
    (dss_cons (ds_if (dt_cmp op_notin_str oNiS_ok (de_var (pv 4)) de_str (by rfl))
    (dss_one (ds_ret (de_lst da_nil)))
    dss_nil)
    (dss_one (ds_set (i := 1) sc_law_number_of.nd rfl (Or.inl rfl) (de_op op_addAll oAdd_ok (de_op op_mul2 oMul2_ok de_int (de_var (pv 1))) (de_m_find1 de_str (da_cons (de_var (pv 4)) da_nil)))))))
    (dss_cons (ds_if (dw_or (dt_cmp (op_eqP hr.units) oEq_ok (de_var (pv 3)) de_str (nomark _)) (dw_or1 (dw_and (dt_cmp (op_eqP hr.units) oEq_ok (de_ix ix_seq oIx_ok (de_var (pv 3)) de_int (fun _ _ => rfl)) de_str (nomark _)) (dw_and1 (dt_cmp (op_neP hr.units) oNe_ok (de_var (pv 0)) de_str (nomark _)))).pt)).pt
    (dss_one (ds_ret (de_lst da_nil)))
    dss_nil)
    (dss_one (ds_ret (de_lst (da_cons (de_op op_mul2 oMul2_ok (de_var (pv 2)) (de_var (pv 1))) da_nil)))))))))), hm, F.kp, F.binds fun _ _ _ _ _ _ us hl => match us, hl with | [_], _ => rfl⟩
abbrev s_law_beyond : Stmt := top 30
theorem sc_law_beyond : FnScope ["text", "numbers", "word", "number"] ["text"] (defScope s_law_beyond) := ⟨rfl, rfl, rfl, by decide +kernel, rfl, by decide +kernel, by decide +kernel⟩
theorem c_law_beyond {P : Program} {w : World} {K : PySem.W.Frag} {mg : Str → Option Value} {base : Heap} {f : Addr} {fd : FuncData} (F : Fun K "_law_beyond" "_law_beyond" s_law_beyond f fd) (hm : mg "_law_beyond" = some (.ref f)) (z_abs : mg "abs" = none) (z_max : mg "max" = none) (C_law_number_of : Callee P w K mg base 1 "_law_number_of" 1 m_law_number_of) : Callee P w K mg base 2 "_law_beyond" 1 m_law_beyond :=
  ⟨f, fd, ["text"], fn_ok F sc_law_beyond rfl (fun cdv A outer s H E vs0 hr =>
    (dss_set1 (i := 1) sc_law_beyond.nd rfl (Or.inl rfl) (de1_lst (da1_cons de1_int dat_nil))
    (dsst_cons (dst_for PassesOwn.never rfl (dit_list (det_split (det_rep (de_var (pv 0)) (by decide +kernel)) (da_cons de_str da_nil)) split_ml) (dg_name (i := 2) sc_law_beyond.nd rfl (Or.inl rfl))
    (dss_one (ds_set (i := 1) sc_law_beyond.nd rfl (Or.inl rfl) (de_op op_addAll oAdd_ok (de_var (pv 1)) (de_use C_law_number_of (hr.mono (by decide)) (by rfl) (da_cons (de_fz (de_var (pv 2))) da_nil))))))
    (PSsT.of (dss_one (ds_ret (de_cmp op_ge oCmpI_ok (de_callB (cr_maxA rfl) oMax_ok (by rfl) z_max (by decide +kernel) (da_cons (de_lc rfl sc_law_beyond.nd (di_seq (de_var (pv 1))) (blkOk_by (own := [(("number" : Str), 3)]) (by kernel_rfl)) (by decide) (fun _ _ _ _ _ => (dg_name (i := 3) sc_law_beyond.nd rfl (Or.inl rfl))) (fun _ _ _ _ _ => dts_nil) (fun _ _ _ _ _ => (de_callB call_abs oAbs_ok (by rfl) z_abs (by decide +kernel) (da_cons (de_var (pv 3)) da_nil)))) da_nil)) (de_fold (d := .int 10000000000) (de_op op_pow oPow_ok de_int de_int) (fun _ => rfl)) (nomark _)))))))), hm, F.kp, F.binds fun _ _ _ _ _ _ us hl => match us, hl with | [_], _ => rfl⟩
abbrev s_law_is_name : Stmt := top 25
theorem sc_law_is_name : FnScope ["word", "letters", "sign"] ["word"] (defScope s_law_is_name) := ⟨rfl, rfl, rfl, by decide +kernel, rfl, by decide +kernel, by decide +kernel⟩
theorem c_law_is_name {P : Program} {w : World} {K : PySem.W.Frag} {mg : Str → Option Value} {base : Heap} {f : Addr} {fd : FuncData} (F : Fun K "_law_is_name" "_law_is_name" s_law_is_name f fd) (hm : mg "_law_is_name" = some (.ref f)) (z_len : mg "len" = none) : Callee P w K mg base 1 "_law_is_name" 1 m_law_is_name :=
  ⟨f, fd, ["word"], fn_ok F sc_law_is_name rfl (fun cdv A outer s H E vs0 hr =>
    (dss_cons (ds_setLc (i := 1) rfl sc_law_is_name.nd rfl rfl (sw_true rfl rfl rfl (by decide +kernel)) (di_seq (de_var (pv 0))) (blkOk_by (own := [(("sign" : Str), 2)]) (by kernel_rfl)) (by decide) (fun _ _ _ _ _ => (dg_name (i := 2) sc_law_is_name.nd rfl (Or.inl rfl))) (fun _ _ _ _ _ => (dts_one (dt_cmp op_in_str oInS_ok (de_var (pv 2)) de_str (by rfl)))) (fun _ _ _ _ _ => (de_var (pv 2))))
    (dss_one (ds_ret (de_and (de_chain op_lt op_lt oCmpI_ok oCmpI_ok de_int (de_callB call_len oLen_ok (by rfl) z_len (by decide +kernel) (da_cons (de_var (pv 0)) da_nil)) de_int) (de_one (de_cmp (op_eqP hr.units) oEq_ok (de_callB call_len oLen_ok (by rfl) z_len (by decide +kernel) (da_cons (de_var (pv 1)) da_nil)) (de_callB call_len oLen_ok (by rfl) z_len (by decide +kernel) (da_cons (de_var (pv 0)) da_nil)) (nomark _)))))))), hm, F.kp, F.binds fun _ _ _ _ _ _ us hl => match us, hl with | [_], _ => rfl⟩
abbrev s_law_due : Stmt := top 27
theorem sc_law_due : FnScope ["text", "found", "line", "words", "numbers", "one"] ["text"] (defScope s_law_due) := ⟨rfl, rfl, rfl, by decide +kernel, rfl, by decide +kernel, by decide +kernel⟩
theorem c_law_due {P : Program} {w : World} {K : PySem.W.Frag} {mg : Str → Option Value} {base : Heap} {f : Addr} {fd : FuncData} (F : Fun K "_law_due" "_law_due" s_law_due f fd) (hm : mg "_law_due" = some (.ref f)) (z_len : mg "len" = none) (z_tuple : mg "tuple" = none) (C_law_is_name : Callee P w K mg base 1 "_law_is_name" 1 m_law_is_name) (C_law_number_of : Callee P w K mg base 1 "_law_number_of" 1 m_law_number_of) : Callee P w K mg base 2 "_law_due" 1 m_law_due :=
  ⟨f, fd, ["text"], fn_ok F sc_law_due rfl (fun cdv A outer s H E vs0 hr =>
    (dss_cons (ds_set (i := 1) sc_law_due.nd rfl (Or.inl rfl) (de_lst da_nil))
    (dss_cons (ds_if (dt_cmp (op_eqP hr.units) oEq_ok (de_var (pv 0)) de_str (nomark _))
    (dss_one (ds_ret (de_tup da_nil)))
    dss_nil)
    (dss_cons (ds_for PassesOwn.never rfl (di_seq (de_m_split1 (de_var (pv 0)) (da_cons de_str da_nil))) (dg_name (i := 2) sc_law_due.nd rfl (Or.inl rfl))
    (dss_cons (ds_set (i := 3) sc_law_due.nd rfl (Or.inl rfl) (de_m_split1 (de_var (pv 2)) (da_cons de_str da_nil)))
    (dss_cons (ds_if (dw_or (dt_cmp (op_neP hr.units) oNe_ok (de_callB call_len oLen_ok (by rfl) z_len (by decide +kernel) (da_cons (de_var (pv 3)) da_nil)) de_int (nomark _)) (dw_or (dt_not (dt_val (de_use C_law_is_name (hr.mono (by decide)) (by rfl) (da_cons (de_ix ix_seq oIx_ok (de_var (pv 3)) de_int (fun _ _ => rfl)) da_nil)))) (dw_or1 (dt_cmp (op_inP hr.units) oIn_ok (de_ix ix_seq oIx_ok (de_var (pv 3)) de_int (fun _ _ => rfl)) (de_lcN rfl sc_law_due.nd (pv 1) (blkOk_by (own := [(("one" : Str), 5)]) (by kernel_rfl)) (by decide) (fun _ _ _ _ _ => (dg_name (i := 5) sc_law_due.nd rfl (Or.inl rfl))) (fun _ _ _ _ _ => dts_nil) (fun _ _ _ _ _ => (de_ix ix_seq oIx_ok (de_var (pv 5)) de_int (fun _ _ => rfl)))) (by rfl))))).pt
    (dss_one (ds_ret (de_callB call_len oLen_ok (by rfl) z_len (by decide +kernel) (da_cons (de_var (pv 1)) da_nil))))
    dss_nil)
    (dss_cons (ds_set (i := 4) sc_law_due.nd rfl (Or.inl rfl) (de_op op_addAll oAdd_ok (de_use C_law_number_of (hr.mono (by decide)) (by rfl) (da_cons (de_ix ix_seq oIx_ok (de_var (pv 3)) de_int (fun _ _ => rfl)) da_nil)) (de_use C_law_number_of (hr.mono (by decide)) (by rfl) (da_cons (de_ix ix_seq oIx_ok (de_var (pv 3)) de_int (fun _ _ => rfl)) da_nil))))
    (dss_cons (ds_if (dt_cmp (op_neP hr.units) oNe_ok (de_callB call_len oLen_ok (by rfl) z_len (by decide +kernel) (da_cons (de_var (pv 4)) da_nil)) de_int (nomark _))
    (dss_one (ds_ret (de_callB call_len oLen_ok (by rfl) z_len (by decide +kernel) (da_cons (de_var (pv 1)) da_nil))))
    dss_nil)
    (dss_one (ds_expr (de_m_append1 (de_var (pv 1)) (da_cons (de_tup (da_cons (de_ix ix_seq oIx_ok (de_var (pv 3)) de_int (fun _ _ => rfl)) (da_cons (de_ix ix_seq oIx_ok (de_var (pv 4)) de_int (fun _ _ => rfl)) (da_cons (de_ix ix_seq oIx_ok (de_var (pv 4)) de_int (fun _ _ => rfl)) da_nil)))) da_nil)))))))))
    (dss_one (ds_ret (de_callTy call_tuple_of oTupOf_ok (by rfl) z_tuple (by decide +kernel) (da_cons (de_var (pv 1)) da_nil)))))))), hm, F.kp, F.binds fun _ _ _ _ _ _ us hl => match us, hl with | [_], _ => rfl⟩
abbrev s_is_point_name : Stmt := top 11
theorem sc_is_point_name : FnScope ["word", "sign"] ["word"] (defScope s_is_point_name) := ⟨rfl, rfl, rfl, by decide +kernel, rfl, by decide +kernel, by decide +kernel⟩
theorem c_is_point_name {P : Program} {w : World} {K : PySem.W.Frag} {mg : Str → Option Value} {base : Heap} {f : Addr} {fd : FuncData} (F : Fun K "is_point_name" "is_point_name" s_is_point_name f fd) (hm : mg "is_point_name" = some (.ref f)) (z_len : mg "len" = none) (z_all : mg "all" = none) {u_LONGEST : Tok} (k_LONGEST : mg "LONGEST" = some (.int 8 u_LONGEST)) {u_NAME_SIGNS : Tok} (k_NAME_SIGNS : mg "NAME_SIGNS" = some (.str "abcdefghijklmnopqrstuvwxyz" u_NAME_SIGNS)) : Callee P w K mg base 1 "is_point_name" 1 m_is_point_name :=
  ⟨f, fd, ["word"], fn_ok F sc_is_point_name rfl (fun cdv A outer s H E vs0 hr =>
    (dss_one (ds_ret (de_and (de_chain op_le op_le oCmpI_ok oCmpI_ok de_int (de_callB call_len oLen_ok (by rfl) z_len (by decide +kernel) (da_cons (de_var (pv 0)) da_nil)) (de_c (pe_glob (v := .int 8) (by rfl) k_LONGEST ⟨_, rfl⟩) (fun _ => .int _))) (de_one (de_callB (cr_all rfl) oAll_ok (by rfl) z_all (by decide +kernel) (da_cons (de_lc rfl sc_is_point_name.nd (di_seq (de_var (pv 0))) (blkOk_by (own := [(("sign" : Str), 1)]) (by kernel_rfl)) (by decide) (fun _ _ _ _ _ => (dg_name (i := 1) sc_is_point_name.nd rfl (Or.inl rfl))) (fun _ _ _ _ _ => dts_nil) (fun _ _ _ _ _ => (de_cmp op_in_str oInS_ok (de_var (pv 1)) (de_c (pe_glob (v := .str "abcdefghijklmnopqrstuvwxyz") (by rfl) k_NAME_SIGNS ⟨_, rfl⟩) (fun _ => .str _)) (by rfl)))) da_nil))))))), hm, F.kp, F.binds fun _ _ _ _ _ _ us hl => match us, hl with | [_], _ => rfl⟩
abbrev s_is_number_word : Stmt := top 12
theorem sc_is_number_word : FnScope ["word", "figures", "sign"] ["word"] (defScope s_is_number_word) := ⟨rfl, rfl, rfl, by decide +kernel, rfl, by decide +kernel, by decide +kernel⟩
theorem c_is_number_word {P : Program} {w : World} {K : PySem.W.Frag} {mg : Str → Option Value} {base : Heap} {f : Addr} {fd : FuncData} (F : Fun K "is_number_word" "is_number_word" s_is_number_word f fd) (hm : mg "is_number_word" = some (.ref f)) (z_all : mg "all" = none) {u_NUMBER_SIGNS : Tok} (k_NUMBER_SIGNS : mg "NUMBER_SIGNS" = some (.str "0123456789" u_NUMBER_SIGNS)) : Callee P w K mg base 1 "is_number_word" 1 m_is_number_word :=
  ⟨f, fd, ["word"], fn_ok F sc_is_number_word rfl (fun cdv A outer s H E vs0 hr =>
    (dss_cons (ds_set (i := 1) sc_is_number_word.nd rfl (Or.inl rfl) (de_var (pv 0)))
    (dss_cons (ds_if (dt_cmp (op_eqP hr.units) oEq_ok (de_slice (de_var (pv 0)) do_none (do_some de_int)) de_str (nomark _))
    (dss_one (ds_set (i := 1) sc_is_number_word.nd rfl (Or.inl rfl) (de_slice (de_var (pv 0)) (do_some de_int) do_none)))
    dss_nil)
    (dss_cons (ds_if (dw_or (dt_cmp (op_eqP hr.units) oEq_ok (de_var (pv 1)) de_str (nomark _)) (dw_or1 (dt_not (dt_val (de_callB (cr_all rfl) oAll_ok (by rfl) z_all (by decide +kernel) (da_cons (de_lc rfl sc_is_number_word.nd (di_seq (de_var (pv 1))) (blkOk_by (own := [(("sign" : Str), 2)]) (by kernel_rfl)) (by decide) (fun _ _ _ _ _ => (dg_name (i := 2) sc_is_number_word.nd rfl (Or.inl rfl))) (fun _ _ _ _ _ => dts_nil) (fun _ _ _ _ _ => (de_cmp op_in_str oInS_ok (de_var (pv 2)) (de_c (pe_glob (v := .str "0123456789") (by rfl) k_NUMBER_SIGNS ⟨_, rfl⟩) (fun _ => .str _)) (by rfl)))) da_nil)))))).pt
    (dss_one (ds_ret de_bl))
    dss_nil)
    (dss_one (ds_ret (de_or (de_cmp (op_neP hr.units) oNe_ok (de_ix ix_seq oIx_ok (de_var (pv 1)) de_int (fun _ _ => rfl)) de_str (nomark _)) (de_one (de_cmp (op_eqP hr.units) oEq_ok (de_var (pv 0)) de_str (nomark _)))))))))), hm, F.kp, F.binds fun _ _ _ _ _ _ us hl => match us, hl with | [_], _ => rfl⟩
abbrev s_read_pointsX : Stmt := top 13
theorem sc_read_pointsX : FnScope ["text", "found", "row", "line", "words"] ["text"] (defScope s_read_pointsX) := ⟨rfl, rfl, rfl, by decide +kernel, rfl, by decide +kernel, by decide +kernel⟩
theorem c_read_pointsX {P : Program} {w : World} {K : PySem.W.Frag} {mg : Str → Option Value} {base : Heap} {f : Addr} {fd : FuncData} (F : Fun K "read_points" "read_points" s_read_pointsX f fd) (hm : mg "read_points" = some (.ref f)) (z_enumerate : mg "enumerate" = none) (z_len : mg "len" = none) (z_int : mg "int" = none) (z_tuple : mg "tuple" = none) (C_is_point_name : Callee P w K mg base 1 "is_point_name" 1 m_is_point_name) (C_is_number_word : Callee P w K mg base 1 "is_number_word" 1 m_is_number_word) (XI_NoPoints : ExcI P w K mg base 1 "NoPoints" "row") : CalleeX P w K mg base 3 "read_points" 1 m_read_pointsX :=
  ⟨f, fd, ["text"], fnX_ok F sc_read_pointsX rfl (fun cdv A outer s H E vs0 hr =>
    (dxs_cons (dx_lift (ds_if (dt_cmp (op_eqP hr.units) oEq_ok (de_var (pv 0)) de_str (nomark _))
    (dss_one (ds_ret (de_tup da_nil)))
    dss_nil))
    (dxs_cons (dx_lift (ds_set (i := 1) sc_read_pointsX.nd rfl (Or.inl rfl) de_dnew))
    (dxs_cons (dx_for (passes_of rfl) rfl (di_enumA (by rfl) z_enumerate (da_cons (de_m_split1 (de_var (pv 0)) (da_cons de_str da_nil)) da_nil)) (dg_tup rfl (dgs_cons (dg_name (i := 2) sc_read_pointsX.nd rfl (Or.inl rfl)) (dgs_cons (dg_name (i := 3) sc_read_pointsX.nd rfl (Or.inl rfl)) dgs_nil)))
    (dxs_cons (dx_lift (ds_set (i := 4) sc_read_pointsX.nd rfl (Or.inl rfl) (de_m_split1 (de_var (pv 3)) (da_cons de_str da_nil))))
    (dxs_cons (dx_if (dw_or (dt_cmp (op_neP hr.units) oNe_ok (de_callB call_len oLen_ok (by rfl) z_len (by decide +kernel) (da_cons (de_var (pv 4)) da_nil)) de_int (nomark _)) (dw_or (dt_not (dt_val (de_use C_is_point_name (hr.mono (by decide)) (by rfl) (da_cons (de_ix ix_seq oIx_ok (de_var (pv 4)) de_int (fun _ _ => rfl)) da_nil)))) (dw_or1 (dt_cmp (op_inDd hr.units) oInD_ok (de_ix ix_seq oIx_ok (de_var (pv 4)) de_int (fun _ _ => rfl)) (de_var (pv 1)) (by rfl))))).pt
    (dxs_one (dx_raiseI rfl (takes_of rfl rfl rfl rfl) XI_NoPoints (hr.mono (by decide)) (by rfl) (de_var (pv 2))))
    (dxs_lift dss_nil))
    (dxs_cons (dx_if (dw_or (dt_not (dt_val (de_use C_is_number_word (hr.mono (by decide)) (by rfl) (da_cons (de_ix ix_seq oIx_ok (de_var (pv 4)) de_int (fun _ _ => rfl)) da_nil)))) (dw_or1 (dt_not (dt_val (de_use C_is_number_word (hr.mono (by decide)) (by rfl) (da_cons (de_ix ix_seq oIx_ok (de_var (pv 4)) de_int (fun _ _ => rfl)) da_nil)))))).pt
    (dxs_one (dx_raiseI rfl (takes_of rfl rfl rfl rfl) XI_NoPoints (hr.mono (by decide)) (by rfl) (de_var (pv 2))))
    (dxs_lift dss_nil))
    (dxs_lift (dss_one (ds_put hr.units (de_tup (da_cons (de_ix ix_seq oIx_ok (de_var (pv 4)) de_int (fun _ _ => rfl)) (da_cons (de_callTy call_int_str oIntS_ok (by rfl) z_int (by decide +kernel) (da_cons (de_ix ix_seq oIx_ok (de_var (pv 4)) de_int (fun _ _ => rfl)) da_nil)) (da_cons (de_callTy call_int_str oIntS_ok (by rfl) z_int (by decide +kernel) (da_cons (de_ix ix_seq oIx_ok (de_var (pv 4)) de_int (fun _ _ => rfl)) da_nil)) da_nil)))) (de_var (pv 1)) (de_ix ix_seq oIx_ok (de_var (pv 4)) de_int (fun _ _ => rfl)))))))))
    (dxs_lift (dss_one (ds_ret (de_tupleVals rfl (by rfl) z_tuple (de_var (pv 1)))))))))), hm, F.kp, F.binds fun _ _ _ _ _ _ us hl => match us, hl with | [_], _ => rfl⟩
abbrev s_law_right : Stmt := top 31
theorem sc_law_right : FnScope ["text", "due", "found", "caught", "e"] ["text"] (defScope s_law_right) := ⟨rfl, rfl, rfl, by decide +kernel, rfl, by decide +kernel, by decide +kernel⟩
theorem c_law_right {P : Program} {w : World} {K : PySem.W.Frag} {mg : Str → Option Value} {base : Heap} {f : Addr} {fd : FuncData} (F : Fun K "_law_right" "_law_right" s_law_right f fd) (hm : mg "_law_right" = some (.ref f)) (z_isinstance : mg "isinstance" = none) (z_tuple : mg "tuple" = none) (z_ValueError : mg "ValueError" = none) (z_bool : mg "bool" = none) (z_int : mg "int" = none) (C_law_due : Callee P w K mg base 2 "_law_due" 1 m_law_due) (C_read_pointsX : CalleeX P w K mg base 3 "read_points" 1 m_read_pointsX) (TC_BelowError : Catch K mg "BelowError" ["NoAsk", "NoCounts", "NoName", "NoPlace", "NoPoints"]) (AT_row : AtX K "row" ["NoCounts", "NoPoints"]) {A_NoAsk A_NoCounts A_NoName A_NoPlace A_NoPoints : Addr} (G_NoAsk : mg "NoAsk" = some (.ref A_NoAsk)) (G_NoCounts : mg "NoCounts" = some (.ref A_NoCounts)) (G_NoName : mg "NoName" = some (.ref A_NoName)) (G_NoPlace : mg "NoPlace" = some (.ref A_NoPlace)) (G_NoPoints : mg "NoPoints" = some (.ref A_NoPoints)) (I_NoAsk_NoCounts_NoName_NoPlace : IsXF K [.ref A_NoAsk, .ref A_NoCounts, .ref A_NoName, .ref A_NoPlace] ["NoAsk", "NoCounts", "NoName", "NoPlace"] ["NoPoints"]) (I_NoPoints : IsXF K [.ref A_NoPoints] ["NoPoints"] ["NoAsk", "NoCounts", "NoName", "NoPlace"]) (I_ValueError : IsXF K [.type "ValueError"] ["NoAsk", "NoCounts", "NoName", "NoPlace", "NoPoints"] []) : Callee P w K mg base 4 "_law_right" 1 m_law_right :=
  ⟨f, fd, ["text"], fn_ok F sc_law_right rfl (fun cdv A outer s H E vs0 hr =>
    (dss_cons (ds_set (i := 1) sc_law_right.nd rfl (Or.inl rfl) (de_use C_law_due (hr.mono (by decide)) (by rfl) (da_cons (de_var (pv 0)) da_nil)))
    (dss_cons (ds_set (i := 2) sc_law_right.nd rfl (Or.inl rfl) de_non)
    (dss_cons (ds_set (i := 3) sc_law_right.nd rfl (Or.inl rfl) de_non)
    (dss_cons (ds_try rfl rfl rfl sc_law_right.nd rfl rfl rfl (Or.inl rfl) (.inl rfl) (by rfl) TC_BelowError (hb := fun W pn xe tk po =>
    (dxs_one (dx_set (i := 2) sc_law_right.nd rfl (Or.inl rfl) (de_useX C_read_pointsX tk (hr.mono (by decide)) (by rfl) (da_cons (de_var (pv 0)) da_nil))))))
    (dss_cons (ds_if (dt_val (de_isi (T := "tuple") (by decide +kernel) (by rfl) z_isinstance (by rfl) z_tuple (by decide +kernel) (de_var (pv 1))))
    (dss_one (ds_ret (de_and (de_cmp op_isAll oIsX0_ok (de_var (pv 3)) de_non (nomark _)) (de_one (de_cmp (op_eqP hr.units) oEq_ok (de_var (pv 2)) (de_var (pv 1)) (nomark _))))))
    dss_nil)
    (dss_cons (ds_if (dw_or (dt_val (de_isXT (vs := [.ref A_NoAsk, .ref A_NoCounts, .ref A_NoName, .ref A_NoPlace]) I_NoAsk_NoCounts_NoName_NoPlace (by decide) (.cons (.own _) (.cons (.own _) (.cons (.own _) (.cons (.own _) .nil)))) (by show 4 ≤ sizeLine; decide) (by rfl) z_isinstance (de_var (pv 3)) (pa_cons (pe_glob (v := .ref A_NoAsk) (by rfl) G_NoAsk rfl) (pa_cons (pe_glob (v := .ref A_NoCounts) (by rfl) G_NoCounts rfl) (pa_cons (pe_glob (v := .ref A_NoName) (by rfl) G_NoName rfl) (pa_cons (pe_glob (v := .ref A_NoPlace) (by rfl) G_NoPlace rfl) pa_nil)))))) (dw_or1 (dt_not (dt_val (de_isX (cV := .ref A_NoPoints) (cv := .ref A_NoPoints) I_NoPoints (by decide) (fun _ r => r) (by rfl) z_isinstance (de_var (pv 3)) (pe_glob (v := .ref A_NoPoints) (by rfl) G_NoPoints rfl)))))).pt
    (dss_one (ds_ret de_bl))
    dss_nil)
    (dss_cons (ds_if (dw_or (dt_not (dt_val (de_isX (cV := .ty "ValueError") (cv := .type "ValueError") I_ValueError (by decide) (fun _ r => r) (by rfl) z_isinstance (de_var (pv 3)) (pe_bltn (v := .ty "ValueError") (by rfl) z_ValueError (by decide +kernel) rfl)))) (dw_or1 (dt_val (de_isi (T := "bool") (by decide +kernel) (by rfl) z_isinstance (by rfl) z_bool (by decide +kernel) (de_xat AT_row (de_var (pv 3))))))).pt
    (dss_one (ds_ret de_bl))
    dss_nil)
    (dss_one (ds_ret (de_and (de_isi (T := "int") (by decide +kernel) (by rfl) z_isinstance (by rfl) z_int (by decide +kernel) (de_xat AT_row (de_var (pv 3)))) (de_one (de_cmp (op_eqP hr.units) oEq_ok (de_xat AT_row (de_var (pv 3))) (de_var (pv 1)) (nomark _)))))))))))))), hm, F.kp, F.binds fun _ _ _ _ _ _ us hl => match us, hl with | [_], _ => rfl⟩
abbrev s_law_classes_right : Stmt := top 32
theorem sc_law_classes_right : FnScope ["made", "k", "e", "flags", "j"] [] (defScope s_law_classes_right) := ⟨rfl, rfl, rfl, by decide +kernel, rfl, by decide +kernel, by decide +kernel⟩
theorem c_law_classes_right {P : Program} {w : World} {K : PySem.W.Frag} {mg : Str → Option Value} {base : Heap} {f : Addr} {fd : FuncData} (F : Fun K "_law_classes_right" "_law_classes_right" s_law_classes_right f fd) (hm : mg "_law_classes_right" = some (.ref f)) (z_isinstance : mg "isinstance" = none) (z_range : mg "range" = none) (z_ValueError : mg "ValueError" = none) (z_enumerate : mg "enumerate" = none) (XK_NoPlace : ExcK K mg "NoPlace") (XK_NoAsk : ExcK K mg "NoAsk") (XI_NoPoints : ExcI P w K mg base 1 "NoPoints" "row") (XI_NoName : ExcI P w K mg base 1 "NoName" "word") (XI_NoCounts : ExcI P w K mg base 1 "NoCounts" "row") (AT_row : AtX K "row" ["NoCounts", "NoPoints"]) (AT_word : AtX K "word" ["NoName"]) {A_NoPlace A_NoName A_NoCounts A_NoAsk A_NoPoints A_BelowError : Addr} (G_NoPlace : mg "NoPlace" = some (.ref A_NoPlace)) (G_NoName : mg "NoName" = some (.ref A_NoName)) (G_NoCounts : mg "NoCounts" = some (.ref A_NoCounts)) (G_NoAsk : mg "NoAsk" = some (.ref A_NoAsk)) (G_NoPoints : mg "NoPoints" = some (.ref A_NoPoints)) (G_BelowError : mg "BelowError" = some (.ref A_BelowError)) (I_NoPlace : IsXF K [.ref A_NoPlace] ["NoPlace"] ["NoAsk", "NoCounts", "NoName", "NoPoints"]) (I_NoName : IsXF K [.ref A_NoName] ["NoName"] ["NoAsk", "NoCounts", "NoPlace", "NoPoints"]) (I_NoCounts : IsXF K [.ref A_NoCounts] ["NoCounts"] ["NoAsk", "NoName", "NoPlace", "NoPoints"]) (I_NoAsk : IsXF K [.ref A_NoAsk] ["NoAsk"] ["NoCounts", "NoName", "NoPlace", "NoPoints"]) (I_NoPoints : IsXF K [.ref A_NoPoints] ["NoPoints"] ["NoAsk", "NoCounts", "NoName", "NoPlace"]) (I_BelowError : IsXF K [.ref A_BelowError] ["NoAsk", "NoCounts", "NoName", "NoPlace", "NoPoints"] []) (I_ValueError : IsXF K [.type "ValueError"] ["NoAsk", "NoCounts", "NoName", "NoPlace", "NoPoints"] []) : Callee P w K mg base 3 "_law_classes_right" 0 m_law_classes_right :=
  ⟨f, fd, [], fn_ok F sc_law_classes_right rfl (fun cdv A outer s H E vs0 hr =>
    (dss_cons (ds_set (i := 0) sc_law_classes_right.nd rfl (Or.inl rfl) (de_lstM (da_cons (de_exNew XK_NoAsk (by rfl)) (da_cons (de_exNewI XI_NoCounts (hr.mono (by decide)) (by rfl) de_int) (da_cons (de_exNewI XI_NoName (hr.mono (by decide)) (by rfl) de_str) (da_cons (de_exNew XK_NoPlace (by rfl)) (da_cons (de_exNewI XI_NoPoints (hr.mono (by decide)) (by rfl) de_int) da_nil)))))))
    (dss_cons (ds_forEx (i := 1) (e := 2) (j := 0) PassesOwn.never rfl (by rfl) z_enumerate sc_law_classes_right.nd rfl (Or.inr rfl) rfl (Or.inl rfl) (pv 0) (fun _ =>
    (dss_cons (ds_set (i := 3) sc_law_classes_right.nd rfl (Or.inl rfl) (de_lst (da_cons (de_isX (cV := .ref A_NoAsk) (cv := .ref A_NoAsk) I_NoAsk (by decide) (fun _ r => r) (by rfl) z_isinstance (de_var (pv 2)) (pe_glob (v := .ref A_NoAsk) (by rfl) G_NoAsk rfl)) (da_cons (de_isX (cV := .ref A_NoCounts) (cv := .ref A_NoCounts) I_NoCounts (by decide) (fun _ r => r) (by rfl) z_isinstance (de_var (pv 2)) (pe_glob (v := .ref A_NoCounts) (by rfl) G_NoCounts rfl)) (da_cons (de_isX (cV := .ref A_NoName) (cv := .ref A_NoName) I_NoName (by decide) (fun _ r => r) (by rfl) z_isinstance (de_var (pv 2)) (pe_glob (v := .ref A_NoName) (by rfl) G_NoName rfl)) (da_cons (de_isX (cV := .ref A_NoPlace) (cv := .ref A_NoPlace) I_NoPlace (by decide) (fun _ r => r) (by rfl) z_isinstance (de_var (pv 2)) (pe_glob (v := .ref A_NoPlace) (by rfl) G_NoPlace rfl)) da_nil))))))
    (dss_cons (ds_expr (de_m_append1 (de_var (pv 3)) (da_cons (de_isX (cV := .ref A_NoPoints) (cv := .ref A_NoPoints) I_NoPoints (by decide) (fun _ r => r) (by rfl) z_isinstance (de_var (pv 2)) (pe_glob (v := .ref A_NoPoints) (by rfl) G_NoPoints rfl)) da_nil)))
    (dss_one (ds_if (dw_or (dt_cmp (op_neP hr.units) oNe_ok (de_var (pv 3)) (de_lc rfl sc_law_classes_right.nd (di_range1 (by rfl) z_range (da_cons de_int da_nil)) (blkOk_by (own := [(("j" : Str), 4)]) (by kernel_rfl)) (by decide) (fun _ _ _ _ _ => (dg_name (i := 4) sc_law_classes_right.nd rfl (Or.inl rfl))) (fun _ _ _ _ _ => dts_nil) (fun _ _ _ _ _ => (de_cmp (op_eqP hr.units) oEq_ok (de_var (pv 4)) (de_var (pv 1)) (nomark _)))) (nomark _)) (dw_or (dt_not (dt_val (de_isX (cV := .ref A_BelowError) (cv := .ref A_BelowError) I_BelowError (by decide) (fun _ r => r) (by rfl) z_isinstance (de_var (pv 2)) (pe_glob (v := .ref A_BelowError) (by rfl) G_BelowError rfl)))) (dw_or1 (dt_not (dt_val (de_isX (cV := .ty "ValueError") (cv := .type "ValueError") I_ValueError (by decide) (fun _ r => r) (by rfl) z_isinstance (de_var (pv 2)) (pe_bltn (v := .ty "ValueError") (by rfl) z_ValueError (by decide +kernel) rfl))))))).pt
    (dss_one (ds_ret de_bl))
    dss_nil))))))
    (dss_one (ds_ret (de_and (de_cmp (op_eqP hr.units) oEq_ok (de_exAt AT_row (pv 0) pe_int (fun _ _ => rfl)) de_int (nomark _)) (de_and (de_cmp (op_eqP hr.units) oEq_ok (de_exAt AT_word (pv 0) pe_int (fun _ _ => rfl)) de_str (nomark _)) (de_one (de_cmp (op_eqP hr.units) oEq_ok (de_exAt AT_row (pv 0) pe_int (fun _ _ => rfl)) de_int (nomark _)))))))))), hm, F.kp, F.binds fun _ _ _ _ _ _ us hl => match us, hl with | [], _ => rfl⟩
abbrev s_law : Stmt := top 33
theorem sc_law : FnScope ["script", "deck", "turn", "points", "text", "some", "old", "odd", "fixed", "k"] ["script"] (defScope s_law) := ⟨rfl, rfl, rfl, by decide +kernel, rfl, by decide +kernel, by decide +kernel⟩
abbrev sI_NoPoints : Stmt := inClass (top 2) 0
theorem scI_NoPoints : FnScope ["self", "row"] ["self", "row"] (defScope sI_NoPoints) := ⟨rfl, rfl, rfl, by decide +kernel, rfl, by decide +kernel, by decide +kernel⟩
theorem ci_NoPoints {P : Program} {w : World} {K : PySem.W.Frag} {mg : Str → Option Value} {base : Heap} {f : Addr} {fd : FuncData} {C C0 : Addr} (F : Fun K "__init__" "NoPoints.__init__" sI_NoPoints f fd) (hC : PySem.W.nsIn K mainGlobals "NoPoints" = some (some (.ref C))) (gC : mg "NoPoints" = some (.ref C))
   (T : OexC K C) (no : PySem.W.findIn K (.ref C) "row" = some none) (iC : PySem.W.findIn K (.ref C) "__init__" = some (some (.ref f))) (tI : PySem.W.typeIn K (.ref f) = some (.type "function"))
   (gB : mg "BelowError" = some (.ref C0)) (sB : PySem.W.specialIn K (.ref C0) "__getattribute__" = some (some (.builtin "type.__getattribute__"))) (rB : PySem.W.readsIn K C0 (.type "type") = true) (vB : PySem.W.findCls K (.ref C0) (.type "type") "__init__" = some (.val (.builtin "ValueError.__init__"))) (z_str : mg "str" = none) : ExcI P w K mg base 1 "NoPoints" "row" :=
  ⟨C, f, fd, ["self", "row"], hC, gC, T, no, iC, tI, F.ok scI_NoPoints (fun vs H Q E h => by obtain ⟨a, v, rfl, _⟩ := h; rfl) (fun cdv A outer s H vs Q E hr h => ⟨_, pss_cons (ps_expr (pe_ceinit (by rfl) gB sB rB vB (pa_cons (pv 0) (pa_cons (pe_op op_add_str pe_str (pe_callTy strAny (by rfl) z_str (by decide +kernel) (pa_cons (pv 1) pa_nil))) pa_nil)))) (pss_one (ps_ost (pv 0) (pv 1))), by
    obtain ⟨a, v, rfl, kv, T, no, ea, q⟩ := h
    rcases kv with ⟨i, rfl, h0, h1⟩ | ⟨y, rfl, h1⟩
    · exact ⟨_, rfl, _, rfl, Or.inl ⟨i, rfl, log2_small h0 h1, _, _, rfl, rfl, Nat.le_trans (Nat.add_le_add (show _ ≤ 1000 by decide +kernel) (keep_len h0 h1)) (by decide), a, C, _, rfl, (show 1 ≤ 1000 by decide), T, ea, _, rfl, _, rfl, a, C, rfl, T, no, Or.inl ⟨ea, q⟩⟩⟩
    · exact ⟨_, rfl, _, rfl, Or.inr ⟨y, rfl, _, _, rfl, rfl, Nat.le_trans (Nat.add_le_add (show _ ≤ 1000 by decide +kernel) h1) (by decide), a, C, _, rfl, (show 1 ≤ 1000 by decide), T, ea, _, rfl, _, rfl, a, C, rfl, T, no, Or.inl ⟨ea, q⟩⟩⟩⟩), F.binds fun _ _ _ _ _ _ us hl => match us, hl with | [_, _], _ => rfl⟩
abbrev sI_NoName : Stmt := inClass (top 4) 0
theorem scI_NoName : FnScope ["self", "word"] ["self", "word"] (defScope sI_NoName) := ⟨rfl, rfl, rfl, by decide +kernel, rfl, by decide +kernel, by decide +kernel⟩
theorem ci_NoName {P : Program} {w : World} {K : PySem.W.Frag} {mg : Str → Option Value} {base : Heap} {f : Addr} {fd : FuncData} {C C0 : Addr} (F : Fun K "__init__" "NoName.__init__" sI_NoName f fd) (hC : PySem.W.nsIn K mainGlobals "NoName" = some (some (.ref C))) (gC : mg "NoName" = some (.ref C))
   (T : OexC K C) (no : PySem.W.findIn K (.ref C) "word" = some none) (iC : PySem.W.findIn K (.ref C) "__init__" = some (some (.ref f))) (tI : PySem.W.typeIn K (.ref f) = some (.type "function"))
   (gB : mg "BelowError" = some (.ref C0)) (sB : PySem.W.specialIn K (.ref C0) "__getattribute__" = some (some (.builtin "type.__getattribute__"))) (rB : PySem.W.readsIn K C0 (.type "type") = true) (vB : PySem.W.findCls K (.ref C0) (.type "type") "__init__" = some (.val (.builtin "ValueError.__init__"))) (z_str : mg "str" = none) : ExcI P w K mg base 1 "NoName" "word" :=
  ⟨C, f, fd, ["self", "word"], hC, gC, T, no, iC, tI, F.ok scI_NoName (fun vs H Q E h => by obtain ⟨a, v, rfl, _⟩ := h; rfl) (fun cdv A outer s H vs Q E hr h => ⟨_, pss_cons (ps_expr (pe_ceinit (by rfl) gB sB rB vB (pa_cons (pv 0) (pa_cons (pe_op op_add_str pe_str (pe_callTy strAny (by rfl) z_str (by decide +kernel) (pa_cons (pv 1) pa_nil))) pa_nil)))) (pss_one (ps_ost (pv 0) (pv 1))), by
    obtain ⟨a, v, rfl, kv, T, no, ea, q⟩ := h
    rcases kv with ⟨i, rfl, h0, h1⟩ | ⟨y, rfl, h1⟩
    · exact ⟨_, rfl, _, rfl, Or.inl ⟨i, rfl, log2_small h0 h1, _, _, rfl, rfl, Nat.le_trans (Nat.add_le_add (show _ ≤ 1000 by decide +kernel) (keep_len h0 h1)) (by decide), a, C, _, rfl, (show 1 ≤ 1000 by decide), T, ea, _, rfl, _, rfl, a, C, rfl, T, no, Or.inl ⟨ea, q⟩⟩⟩
    · exact ⟨_, rfl, _, rfl, Or.inr ⟨y, rfl, _, _, rfl, rfl, Nat.le_trans (Nat.add_le_add (show _ ≤ 1000 by decide +kernel) h1) (by decide), a, C, _, rfl, (show 1 ≤ 1000 by decide), T, ea, _, rfl, _, rfl, a, C, rfl, T, no, Or.inl ⟨ea, q⟩⟩⟩⟩), F.binds fun _ _ _ _ _ _ us hl => match us, hl with | [_, _], _ => rfl⟩
abbrev sI_NoCounts : Stmt := inClass (top 3) 0
theorem scI_NoCounts : FnScope ["self", "row"] ["self", "row"] (defScope sI_NoCounts) := ⟨rfl, rfl, rfl, by decide +kernel, rfl, by decide +kernel, by decide +kernel⟩
theorem ci_NoCounts {P : Program} {w : World} {K : PySem.W.Frag} {mg : Str → Option Value} {base : Heap} {f : Addr} {fd : FuncData} {C C0 : Addr} (F : Fun K "__init__" "NoCounts.__init__" sI_NoCounts f fd) (hC : PySem.W.nsIn K mainGlobals "NoCounts" = some (some (.ref C))) (gC : mg "NoCounts" = some (.ref C))
   (T : OexC K C) (no : PySem.W.findIn K (.ref C) "row" = some none) (iC : PySem.W.findIn K (.ref C) "__init__" = some (some (.ref f))) (tI : PySem.W.typeIn K (.ref f) = some (.type "function"))
   (gB : mg "BelowError" = some (.ref C0)) (sB : PySem.W.specialIn K (.ref C0) "__getattribute__" = some (some (.builtin "type.__getattribute__"))) (rB : PySem.W.readsIn K C0 (.type "type") = true) (vB : PySem.W.findCls K (.ref C0) (.type "type") "__init__" = some (.val (.builtin "ValueError.__init__"))) (z_str : mg "str" = none) : ExcI P w K mg base 1 "NoCounts" "row" :=
  ⟨C, f, fd, ["self", "row"], hC, gC, T, no, iC, tI, F.ok scI_NoCounts (fun vs H Q E h => by obtain ⟨a, v, rfl, _⟩ := h; rfl) (fun cdv A outer s H vs Q E hr h => ⟨_, pss_cons (ps_expr (pe_ceinit (by rfl) gB sB rB vB (pa_cons (pv 0) (pa_cons (pe_op op_add_str pe_str (pe_callTy strAny (by rfl) z_str (by decide +kernel) (pa_cons (pv 1) pa_nil))) pa_nil)))) (pss_one (ps_ost (pv 0) (pv 1))), by
    obtain ⟨a, v, rfl, kv, T, no, ea, q⟩ := h
    rcases kv with ⟨i, rfl, h0, h1⟩ | ⟨y, rfl, h1⟩
    · exact ⟨_, rfl, _, rfl, Or.inl ⟨i, rfl, log2_small h0 h1, _, _, rfl, rfl, Nat.le_trans (Nat.add_le_add (show _ ≤ 1000 by decide +kernel) (keep_len h0 h1)) (by decide), a, C, _, rfl, (show 1 ≤ 1000 by decide), T, ea, _, rfl, _, rfl, a, C, rfl, T, no, Or.inl ⟨ea, q⟩⟩⟩
    · exact ⟨_, rfl, _, rfl, Or.inr ⟨y, rfl, _, _, rfl, rfl, Nat.le_trans (Nat.add_le_add (show _ ≤ 1000 by decide +kernel) h1) (by decide), a, C, _, rfl, (show 1 ≤ 1000 by decide), T, ea, _, rfl, _, rfl, a, C, rfl, T, no, Or.inl ⟨ea, q⟩⟩⟩⟩), F.binds fun _ _ _ _ _ _ us hl => match us, hl with | [_, _], _ => rfl⟩
theorem c_law_fn {P : Program} {w : World} {K : PySem.W.Frag} {mg : Str → Option Value} {base : Heap} {f : Addr} {fd : FuncData} (F : Fun K "law" "law" s_law f fd) (z_range : mg "range" = none) (z_int : mg "int" = none) (C_law_deck : Callee P w K mg base 1 "_law_deck" 1 m_law_deck) (C_law_points : Callee P w K mg base 5 "_law_points" 2 m_law_points) (C_law_next : Callee P w K mg base 2 "_law_next" 2 m_law_next) (C_law_text : Callee P w K mg base 2 "_law_text" 1 m_law_text) (C_law_spoilt : Callee P w K mg base 5 "_law_spoilt" 2 m_law_spoilt) (C_law_sign : Callee P w K mg base 3 "_law_sign" 1 m_law_sign) (C_law_beyond : Callee P w K mg base 2 "_law_beyond" 1 m_law_beyond) (C_law_right : Callee P w K mg base 4 "_law_right" 1 m_law_right) (C_law_classes_right : Callee P w K mg base 3 "_law_classes_right" 0 m_law_classes_right) (CN_law_sign : CalleeN P w K mg base 3 "_law_sign" m_law_sign) (NB : NoneBooked base) : FnOk P w K mg base CX0 6 f fd ["script"] (spD K 1 m_law) :=
  fn_ok F sc_law rfl (fun cdv A outer s H E vs0 hr =>
    (dss_cons (ds_set (i := 1) sc_law.nd rfl (Or.inr rfl) (de_use C_law_deck (hr.mono (by decide)) (by rfl) (da_cons (de_var (pv 0)) da_nil)))
    (dss_cons (ds_for PassesOwn.never rfl (di_range1 (by rfl) z_range (da_cons de_int da_nil)) (dg_name (i := 2) sc_law.nd rfl (Or.inl rfl))
    (dss_cons (ds_set (i := 3) sc_law.nd rfl (Or.inr rfl) (de_use C_law_points (hr.mono (by decide)) (by rfl) (da_cons (de_var (pv 1)) (da_cons (de_ix ix_seq oIx_ok (de_lst (da_cons de_int (da_cons de_int da_nil))) (de_callTy call_int1 oInt1_ok (by rfl) z_int (by decide +kernel) (da_cons (de_and (de_cmp (op_eqP hr.units) oEq_ok (de_var (pv 2)) de_int (nomark _)) (de_one (de_cmp (op_eqP hr.units) oEq_ok (de_use C_law_next (hr.mono (by decide)) (by rfl) (da_cons (de_var (pv 1)) (da_cons de_int da_nil))) de_int (nomark _)))) da_nil)) (fun _ _ => rfl)) da_nil))))
    (dss_cons (ds_set (i := 4) sc_law.nd rfl (Or.inl rfl) (de_use C_law_text (hr.mono (by decide)) (by rfl) (da_cons (de_fz (de_var (pv 3))) da_nil)))
    (dss_cons (ds_setLc (i := 5) rfl sc_law.nd rfl rfl (sw_true rfl rfl rfl (by decide +kernel)) (di_range1 (by rfl) z_range (da_cons de_int da_nil)) (blkOk_by (own := [(("k" : Str), 9)]) (by kernel_rfl)) (by decide) (fun _ _ _ _ _ => (dg_name (i := 9) sc_law.nd rfl (Or.inl rfl))) (fun _ _ _ _ _ => dts_nil) (fun _ _ _ _ _ => (de_use C_law_spoilt (hr.mono (by decide)) (by rfl) (da_cons (de_var (pv 1)) (da_cons (de_fz (de_var (pv 3))) da_nil)))))
    (dss_set1 (i := 5) sc_law.nd rfl (Or.inl rfl) (de1_opR op_addAll oAdd_ok (de_var (pv 5)) (de1_lst (da1_cons (de1_opL op_addAll oAdd_ok de1_str (de_var (pv 4))) (dat_cons (PET.of (de_op op_addAll oAdd_ok (de_var (pv 4)) de_str)) (dat_cons (PET.of (de_op op_addAll oAdd_ok (de_var (pv 4)) de_str)) (dat_cons (PET.of (de_op op_addAll oAdd_ok de_str (de_var (pv 4)))) (dat_cons (det_rep1 NB (de_var (pv 4))) (dat_cons (PET.of (de_var (pv 4))) dat_nil))))))))
    (dsst_cons (dst_two (i := 6) PassesOwn.never rfl sc_law.nd rfl rfl (dsh_add2 (i := 5) sc_law.nd rfl rfl op_addAll oAdd_ok
    (deh_rep (ik := 4) (io := 6) (id := 1) NB CN_law_sign (hr.mono (by decide)) (by rfl) rfl (.inl rfl) rfl rfl rfl (.inr (.inl rfl)))
    (deh_rep1 (ik := 4) (io := 6) (id := 1) NB CN_law_sign (hr.mono (by decide)) (by rfl) rfl (.inl rfl) rfl rfl rfl (.inr (.inl rfl)))))
    (PSsT.of (dss_one (ds_for PassesOwn.never rfl (di_seq (de_op op_addAll oAdd_ok (de_var (pv 5)) (de_lst (da_cons (de_use C_law_sign (hr.mono (by decide)) (by rfl) (da_cons (de_var (pv 1)) da_nil)) (da_cons (de_op op_addAll oAdd_ok (de_var (pv 4)) (de_use C_law_sign (hr.mono (by decide)) (by rfl) (da_cons (de_var (pv 1)) da_nil))) da_nil))))) (dg_name (i := 7) sc_law.nd rfl (Or.inl rfl))
    (dss_one (ds_if (dw_and (dt_not (dt_val (de_use C_law_beyond (hr.mono (by decide)) (by rfl) (da_cons (de_fz (de_var (pv 7))) da_nil)))) (dw_and1 (dw_or (dt_not (dt_val (de_use C_law_right (hr.mono (by decide)) (by rfl) (da_cons (de_fz (de_var (pv 7))) da_nil)))) (dw_or1 (dt_not (dt_val (de_use C_law_right (hr.mono (by decide)) (by rfl) (da_cons (de_fz (de_var (pv 7))) da_nil)))))).pt)).pt
    (dss_one (ds_ret de_bl))
    dss_nil)))))))))))
    (dss_cons (ds_set (i := 8) sc_law.nd rfl (Or.inl rfl) (de_lst (da_cons de_str (da_cons de_str (da_cons de_str (da_cons de_str (da_cons de_str (da_cons de_str (da_cons de_str (da_cons de_str (da_cons de_str (da_cons de_str (da_cons de_str da_nil)))))))))))))
    (dss_cons (ds_set (i := 8) sc_law.nd rfl (Or.inl rfl) (de_op op_addAll oAdd_ok (de_var (pv 8)) (de_lst (da_cons de_str (da_cons de_str (da_cons de_str (da_cons de_str (da_cons de_str (da_cons de_str (da_cons de_str da_nil))))))))))
    (dss_cons (ds_if (dt_cmp (op_neP hr.units) oNe_ok (de_lc rfl sc_law.nd (di_seq (de_var (pv 8))) (blkOk_by (own := [(("text" : Str), 4)]) (by kernel_rfl)) (by decide) (fun _ _ _ _ _ => (dg_name (i := 4) sc_law.nd rfl (Or.inl rfl))) (fun _ _ _ _ _ => (dts_one (dt_not (dt_val (de_use C_law_right (hr.mono (by decide)) (by rfl) (da_cons (de_fz (de_var (pv 4))) da_nil)))))) (fun _ _ _ _ _ => (de_var (pv 4)))) (de_lst da_nil) (nomark _))
    (dss_one (ds_ret de_bl))
    dss_nil)
    (dss_one (ds_ret (de_use0 C_law_classes_right (hr.mono (by decide)) (by rfl))))))))))
theorem all_mk {l : PySem.W.OpenLaw} {w : World} {K : PySem.W.Frag} {h : Heap} {mg : Str → Option Value} {fa : Addr} (X : K.In h) (G : h.Ns mainGlobals mg) (hfa : mg "law" = some (.ref fa))
    {f0 f1 f2 f3 f4 f5 f6 f7 f8 f9 f10 f11 f12 f13 f14 f15 f16 f17 f18 f19 f20 f21 C_BelowError C_NoAsk C_NoCounts C_NoName C_NoPlace C_NoPoints : Addr} {od0 an0 od1 an1 od2 an2 od3 an3 od4 an4 od5 an5 od6 an6 od7 an7 od8 an8 od9 an9 od10 an10 od11 an11 od12 an12 od13 an13 od14 an14 od15 an15 od16 an16 od17 an17 od18 an18 od19 an19 od20 an20 od21 an21 : Option Addr} {sl0 sl1 sl2 sl3 sl4 sl5 sl6 sl7 sl8 sl9 sl10 sl11 sl12 sl13 sl14 sl15 sl16 sl17 sl18 sl19 sl20 sl21 : Array (Option Value)} {oc0 kV0 dc0 pm0 cd0 ct0 oc1 kV1 dc1 pm1 cd1 ct1 oc2 kV2 dc2 pm2 cd2 ct2 oc3 kV3 dc3 pm3 cd3 ct3 oc4 kV4 dc4 pm4 cd4 ct4 oc5 kV5 dc5 pm5 cd5 ct5 oc6 kV6 dc6 pm6 cd6 ct6 oc7 kV7 dc7 pm7 cd7 ct7 oc8 kV8 dc8 pm8 cd8 ct8 oc9 kV9 dc9 pm9 cd9 ct9 oc10 kV10 dc10 pm10 cd10 ct10 oc11 kV11 dc11 pm11 cd11 ct11 oc12 kV12 dc12 pm12 cd12 ct12 oc13 kV13 dc13 pm13 cd13 ct13 oc14 kV14 dc14 pm14 cd14 ct14 oc15 kV15 dc15 pm15 cd15 ct15 oc16 kV16 dc16 pm16 cd16 ct16 oc17 kV17 dc17 pm17 cd17 ct17 oc18 kV18 dc18 pm18 cd18 ct18 oc19 kV19 dc19 pm19 cd19 ct19 oc20 kV20 dc20 pm20 cd20 ct20 oc21 kV21 dc21 pm21 cd21 ct21 : Value} {u_LONGEST u_NAME_SIGNS u_NUMBER_SIGNS : Tok} {nm_NoPoints qn_NoPoints : Str} {N_NoPoints : Addr} {bs_NoPoints : List Value} {sn_NoPoints : List Str} {sub_NoPoints : List Value} {ab_NoPoints : Bool} {col_NoPoints : Option Bool} {dd_NoPoints odI_NoPoints anI_NoPoints : Option Addr} {m0_NoPoints m1_NoPoints m2_NoPoints m3_NoPoints m5_NoPoints : Option Value} {fI_NoPoints : Addr} {ocI_NoPoints kVI_NoPoints dcI_NoPoints pmI_NoPoints cdI_NoPoints ctI_NoPoints : Value} {slI_NoPoints : Array (Option Value)} {nm_NoName qn_NoName : Str} {N_NoName : Addr} {bs_NoName : List Value} {sn_NoName : List Str} {sub_NoName : List Value} {ab_NoName : Bool} {col_NoName : Option Bool} {dd_NoName odI_NoName anI_NoName : Option Addr} {m0_NoName m1_NoName m2_NoName m3_NoName m5_NoName : Option Value} {fI_NoName : Addr} {ocI_NoName kVI_NoName dcI_NoName pmI_NoName cdI_NoName ctI_NoName : Value} {slI_NoName : Array (Option Value)} {nm_NoCounts qn_NoCounts : Str} {N_NoCounts : Addr} {bs_NoCounts : List Value} {sn_NoCounts : List Str} {sub_NoCounts : List Value} {ab_NoCounts : Bool} {col_NoCounts : Option Bool} {dd_NoCounts odI_NoCounts anI_NoCounts : Option Addr} {m0_NoCounts m1_NoCounts m2_NoCounts m3_NoCounts m5_NoCounts : Option Value} {fI_NoCounts : Addr} {ocI_NoCounts kVI_NoCounts dcI_NoCounts pmI_NoCounts cdI_NoCounts ctI_NoCounts : Value} {slI_NoCounts : Array (Option Value)}
    (aC_BelowError : PySem.W.nsIn K mainGlobals "BelowError" = some (some (.ref C_BelowError))) (tC_BelowError : PySem.W.typeIn K (.ref C_BelowError) = some (.type "type")) (hd_BelowError : PySem.W.hasDictIn K C_BelowError = true) (bC_BelowError : PySem.W.subIn K (.ref C_BelowError) (.type "BaseException") = some true)
    (aC_NoAsk : PySem.W.nsIn K mainGlobals "NoAsk" = some (some (.ref C_NoAsk))) (tC_NoAsk : PySem.W.typeIn K (.ref C_NoAsk) = some (.type "type")) (hd_NoAsk : PySem.W.hasDictIn K C_NoAsk = true) (bC_NoAsk : PySem.W.subIn K (.ref C_NoAsk) (.type "BaseException") = some true)
    (xC_NoAsk : PySem.W.excIn K C_NoAsk [.type "ValueError", .type "Exception", .type "BaseException", .type "object"] "ValueError.__new__" = true) (kC_NoAsk : PySem.W.keepIn K (.ref C_NoAsk) = true)
    (eg_NoAsk : PySem.W.findIn K (.ref C_NoAsk) "__getattribute__" = some (some (.builtin "BaseException.__getattribute__"))) (ek_NoAsk : PySem.W.findIn K (.ref C_NoAsk) "__getattr__" = some none) (ec_NoAsk : PySem.W.findIn K (.ref C_NoAsk) "__class__" = some (some (.builtin "object.__class__"))) (em_NoAsk : PySem.W.mroIn K C_NoAsk (.type "object") = some true)
    (su_NoAsk_ValueError : PySem.W.subIn K (.ref C_NoAsk) (.type "ValueError") = some true)
    (aC_NoCounts : PySem.W.nsIn K mainGlobals "NoCounts" = some (some (.ref C_NoCounts))) (tC_NoCounts : PySem.W.typeIn K (.ref C_NoCounts) = some (.type "type")) (hd_NoCounts : PySem.W.hasDictIn K C_NoCounts = true) (bC_NoCounts : PySem.W.subIn K (.ref C_NoCounts) (.type "BaseException") = some true)
    (eg_NoCounts : PySem.W.findIn K (.ref C_NoCounts) "__getattribute__" = some (some (.builtin "BaseException.__getattribute__"))) (ek_NoCounts : PySem.W.findIn K (.ref C_NoCounts) "__getattr__" = some none) (ec_NoCounts : PySem.W.findIn K (.ref C_NoCounts) "__class__" = some (some (.builtin "object.__class__"))) (em_NoCounts : PySem.W.mroIn K C_NoCounts (.type "object") = some true)
    (su_NoCounts_ValueError : PySem.W.subIn K (.ref C_NoCounts) (.type "ValueError") = some true)
    (aC_NoName : PySem.W.nsIn K mainGlobals "NoName" = some (some (.ref C_NoName))) (tC_NoName : PySem.W.typeIn K (.ref C_NoName) = some (.type "type")) (hd_NoName : PySem.W.hasDictIn K C_NoName = true) (bC_NoName : PySem.W.subIn K (.ref C_NoName) (.type "BaseException") = some true)
    (eg_NoName : PySem.W.findIn K (.ref C_NoName) "__getattribute__" = some (some (.builtin "BaseException.__getattribute__"))) (ek_NoName : PySem.W.findIn K (.ref C_NoName) "__getattr__" = some none) (ec_NoName : PySem.W.findIn K (.ref C_NoName) "__class__" = some (some (.builtin "object.__class__"))) (em_NoName : PySem.W.mroIn K C_NoName (.type "object") = some true)
    (su_NoName_ValueError : PySem.W.subIn K (.ref C_NoName) (.type "ValueError") = some true)
    (aC_NoPlace : PySem.W.nsIn K mainGlobals "NoPlace" = some (some (.ref C_NoPlace))) (tC_NoPlace : PySem.W.typeIn K (.ref C_NoPlace) = some (.type "type")) (hd_NoPlace : PySem.W.hasDictIn K C_NoPlace = true) (bC_NoPlace : PySem.W.subIn K (.ref C_NoPlace) (.type "BaseException") = some true)
    (xC_NoPlace : PySem.W.excIn K C_NoPlace [.type "ValueError", .type "Exception", .type "BaseException", .type "object"] "ValueError.__new__" = true) (kC_NoPlace : PySem.W.keepIn K (.ref C_NoPlace) = true)
    (eg_NoPlace : PySem.W.findIn K (.ref C_NoPlace) "__getattribute__" = some (some (.builtin "BaseException.__getattribute__"))) (ek_NoPlace : PySem.W.findIn K (.ref C_NoPlace) "__getattr__" = some none) (ec_NoPlace : PySem.W.findIn K (.ref C_NoPlace) "__class__" = some (some (.builtin "object.__class__"))) (em_NoPlace : PySem.W.mroIn K C_NoPlace (.type "object") = some true)
    (su_NoPlace_ValueError : PySem.W.subIn K (.ref C_NoPlace) (.type "ValueError") = some true)
    (aC_NoPoints : PySem.W.nsIn K mainGlobals "NoPoints" = some (some (.ref C_NoPoints))) (tC_NoPoints : PySem.W.typeIn K (.ref C_NoPoints) = some (.type "type")) (hd_NoPoints : PySem.W.hasDictIn K C_NoPoints = true) (bC_NoPoints : PySem.W.subIn K (.ref C_NoPoints) (.type "BaseException") = some true)
    (eg_NoPoints : PySem.W.findIn K (.ref C_NoPoints) "__getattribute__" = some (some (.builtin "BaseException.__getattribute__"))) (ek_NoPoints : PySem.W.findIn K (.ref C_NoPoints) "__getattr__" = some none) (ec_NoPoints : PySem.W.findIn K (.ref C_NoPoints) "__class__" = some (some (.builtin "object.__class__"))) (em_NoPoints : PySem.W.mroIn K C_NoPoints (.type "object") = some true)
    (su_NoPoints_ValueError : PySem.W.subIn K (.ref C_NoPoints) (.type "ValueError") = some true)
    (xL_NoCounts : K.lookup C_NoCounts = some (excClassObj nm_NoCounts qn_NoCounts C_NoCounts N_NoCounts bs_NoCounts [.ref C_BelowError, .type "ValueError", .type "Exception", .type "BaseException", .type "object"] true sn_NoCounts sub_NoCounts ab_NoCounts col_NoCounts dd_NoCounts m0_NoCounts m1_NoCounts m2_NoCounts m3_NoCounts m5_NoCounts "ValueError.__new__"))
    (sa_NoCounts : PySem.W.findIn K (.ref C_NoCounts) "__setattr__" = some (some (.builtin "object.__setattr__"))) (kC_NoCounts : PySem.W.keepIn K (.ref C_NoCounts) = true) (no_NoCounts : PySem.W.findIn K (.ref C_NoCounts) "row" = some none) (iI_NoCounts : PySem.W.findIn K (.ref C_NoCounts) "__init__" = some (some (.ref fI_NoCounts))) (tI_NoCounts : PySem.W.typeIn K (.ref fI_NoCounts) = some (.type "function"))
    (lI_NoCounts : K.lookup fI_NoCounts = some ⟨ocI_NoCounts, odI_NoCounts, .func (PySem.W.fnOf "__init__" "NoCounts.__init__" (defArgs sI_NoCounts) (defBody sI_NoCounts) (defScope sI_NoCounts) .none kVI_NoCounts dcI_NoCounts pmI_NoCounts anI_NoCounts cdI_NoCounts ctI_NoCounts), slI_NoCounts⟩) (cI_NoCounts : PySem.W.codeIn K cdI_NoCounts "NoCounts.__init__" = true) (kI_NoCounts : PySem.W.keepIn K (.ref fI_NoCounts) = true)
    (xL_NoName : K.lookup C_NoName = some (excClassObj nm_NoName qn_NoName C_NoName N_NoName bs_NoName [.ref C_BelowError, .type "ValueError", .type "Exception", .type "BaseException", .type "object"] true sn_NoName sub_NoName ab_NoName col_NoName dd_NoName m0_NoName m1_NoName m2_NoName m3_NoName m5_NoName "ValueError.__new__"))
    (sa_NoName : PySem.W.findIn K (.ref C_NoName) "__setattr__" = some (some (.builtin "object.__setattr__"))) (kC_NoName : PySem.W.keepIn K (.ref C_NoName) = true) (no_NoName : PySem.W.findIn K (.ref C_NoName) "word" = some none) (iI_NoName : PySem.W.findIn K (.ref C_NoName) "__init__" = some (some (.ref fI_NoName))) (tI_NoName : PySem.W.typeIn K (.ref fI_NoName) = some (.type "function"))
    (lI_NoName : K.lookup fI_NoName = some ⟨ocI_NoName, odI_NoName, .func (PySem.W.fnOf "__init__" "NoName.__init__" (defArgs sI_NoName) (defBody sI_NoName) (defScope sI_NoName) .none kVI_NoName dcI_NoName pmI_NoName anI_NoName cdI_NoName ctI_NoName), slI_NoName⟩) (cI_NoName : PySem.W.codeIn K cdI_NoName "NoName.__init__" = true) (kI_NoName : PySem.W.keepIn K (.ref fI_NoName) = true)
    (xL_NoPoints : K.lookup C_NoPoints = some (excClassObj nm_NoPoints qn_NoPoints C_NoPoints N_NoPoints bs_NoPoints [.ref C_BelowError, .type "ValueError", .type "Exception", .type "BaseException", .type "object"] true sn_NoPoints sub_NoPoints ab_NoPoints col_NoPoints dd_NoPoints m0_NoPoints m1_NoPoints m2_NoPoints m3_NoPoints m5_NoPoints "ValueError.__new__"))
    (sa_NoPoints : PySem.W.findIn K (.ref C_NoPoints) "__setattr__" = some (some (.builtin "object.__setattr__"))) (kC_NoPoints : PySem.W.keepIn K (.ref C_NoPoints) = true) (no_NoPoints : PySem.W.findIn K (.ref C_NoPoints) "row" = some none) (iI_NoPoints : PySem.W.findIn K (.ref C_NoPoints) "__init__" = some (some (.ref fI_NoPoints))) (tI_NoPoints : PySem.W.typeIn K (.ref fI_NoPoints) = some (.type "function"))
    (lI_NoPoints : K.lookup fI_NoPoints = some ⟨ocI_NoPoints, odI_NoPoints, .func (PySem.W.fnOf "__init__" "NoPoints.__init__" (defArgs sI_NoPoints) (defBody sI_NoPoints) (defScope sI_NoPoints) .none kVI_NoPoints dcI_NoPoints pmI_NoPoints anI_NoPoints cdI_NoPoints ctI_NoPoints), slI_NoPoints⟩) (cI_NoPoints : PySem.W.codeIn K cdI_NoPoints "NoPoints.__init__" = true) (kI_NoPoints : PySem.W.keepIn K (.ref fI_NoPoints) = true)
    (sB_BelowError : PySem.W.specialIn K (.ref C_BelowError) "__getattribute__" = some (some (.builtin "type.__getattribute__"))) (rB_BelowError : PySem.W.readsIn K C_BelowError (.type "type") = true) (vB_BelowError : PySem.W.findCls K (.ref C_BelowError) (.type "type") "__init__" = some (.val (.builtin "ValueError.__init__")))
    (su_NoAsk_BelowError : PySem.W.subIn K (.ref C_NoAsk) (.ref C_BelowError) = some true)
    (su_NoAsk_NoAsk : PySem.W.subIn K (.ref C_NoAsk) (.ref C_NoAsk) = some true)
    (su_NoAsk_NoCounts : PySem.W.subIn K (.ref C_NoAsk) (.ref C_NoCounts) = some false)
    (su_NoAsk_NoName : PySem.W.subIn K (.ref C_NoAsk) (.ref C_NoName) = some false)
    (su_NoAsk_NoPlace : PySem.W.subIn K (.ref C_NoAsk) (.ref C_NoPlace) = some false)
    (su_NoAsk_NoPoints : PySem.W.subIn K (.ref C_NoAsk) (.ref C_NoPoints) = some false)
    (su_NoCounts_BelowError : PySem.W.subIn K (.ref C_NoCounts) (.ref C_BelowError) = some true)
    (su_NoCounts_NoAsk : PySem.W.subIn K (.ref C_NoCounts) (.ref C_NoAsk) = some false)
    (su_NoCounts_NoCounts : PySem.W.subIn K (.ref C_NoCounts) (.ref C_NoCounts) = some true)
    (su_NoCounts_NoName : PySem.W.subIn K (.ref C_NoCounts) (.ref C_NoName) = some false)
    (su_NoCounts_NoPlace : PySem.W.subIn K (.ref C_NoCounts) (.ref C_NoPlace) = some false)
    (su_NoCounts_NoPoints : PySem.W.subIn K (.ref C_NoCounts) (.ref C_NoPoints) = some false)
    (su_NoName_BelowError : PySem.W.subIn K (.ref C_NoName) (.ref C_BelowError) = some true)
    (su_NoName_NoAsk : PySem.W.subIn K (.ref C_NoName) (.ref C_NoAsk) = some false)
    (su_NoName_NoCounts : PySem.W.subIn K (.ref C_NoName) (.ref C_NoCounts) = some false)
    (su_NoName_NoName : PySem.W.subIn K (.ref C_NoName) (.ref C_NoName) = some true)
    (su_NoName_NoPlace : PySem.W.subIn K (.ref C_NoName) (.ref C_NoPlace) = some false)
    (su_NoName_NoPoints : PySem.W.subIn K (.ref C_NoName) (.ref C_NoPoints) = some false)
    (su_NoPlace_BelowError : PySem.W.subIn K (.ref C_NoPlace) (.ref C_BelowError) = some true)
    (su_NoPlace_NoAsk : PySem.W.subIn K (.ref C_NoPlace) (.ref C_NoAsk) = some false)
    (su_NoPlace_NoCounts : PySem.W.subIn K (.ref C_NoPlace) (.ref C_NoCounts) = some false)
    (su_NoPlace_NoName : PySem.W.subIn K (.ref C_NoPlace) (.ref C_NoName) = some false)
    (su_NoPlace_NoPlace : PySem.W.subIn K (.ref C_NoPlace) (.ref C_NoPlace) = some true)
    (su_NoPlace_NoPoints : PySem.W.subIn K (.ref C_NoPlace) (.ref C_NoPoints) = some false)
    (su_NoPoints_BelowError : PySem.W.subIn K (.ref C_NoPoints) (.ref C_BelowError) = some true)
    (su_NoPoints_NoAsk : PySem.W.subIn K (.ref C_NoPoints) (.ref C_NoAsk) = some false)
    (su_NoPoints_NoCounts : PySem.W.subIn K (.ref C_NoPoints) (.ref C_NoCounts) = some false)
    (su_NoPoints_NoName : PySem.W.subIn K (.ref C_NoPoints) (.ref C_NoName) = some false)
    (su_NoPoints_NoPlace : PySem.W.subIn K (.ref C_NoPoints) (.ref C_NoPlace) = some false)
    (su_NoPoints_NoPoints : PySem.W.subIn K (.ref C_NoPoints) (.ref C_NoPoints) = some true)
    (en_ : PySem.W.specialIn K (.builtin "object.__class__") "__get__" = some (some (.builtin "getset_descriptor.__get__"))) (et_ : PySem.W.takesIn K (.builtin "object.__class__") = some true)
    (a0 : PySem.W.nsIn K mainGlobals "_law_deck" = some (some (.ref f0))) (l0 : K.lookup f0 = some ⟨oc0, od0, .func (PySem.W.fnOf "_law_deck" "_law_deck" (defArgs s_law_deck) (defBody s_law_deck) (defScope s_law_deck) .none kV0 dc0 pm0 an0 cd0 ct0), sl0⟩) (c0 : PySem.W.codeIn K cd0 "_law_deck" = true) (k0 : PySem.W.keepIn K (.ref f0) = true)
    (a1 : PySem.W.nsIn K mainGlobals "_law_mix" = some (some (.ref f1))) (l1 : K.lookup f1 = some ⟨oc1, od1, .func (PySem.W.fnOf "_law_mix" "_law_mix" (defArgs s_law_mix) (defBody s_law_mix) (defScope s_law_mix) .none kV1 dc1 pm1 an1 cd1 ct1), sl1⟩) (c1 : PySem.W.codeIn K cd1 "_law_mix" = true) (k1 : PySem.W.keepIn K (.ref f1) = true)
    (a2 : PySem.W.nsIn K mainGlobals "_law_next" = some (some (.ref f2))) (l2 : K.lookup f2 = some ⟨oc2, od2, .func (PySem.W.fnOf "_law_next" "_law_next" (defArgs s_law_next) (defBody s_law_next) (defScope s_law_next) .none kV2 dc2 pm2 an2 cd2 ct2), sl2⟩) (c2 : PySem.W.codeIn K cd2 "_law_next" = true) (k2 : PySem.W.keepIn K (.ref f2) = true)
    (a3 : PySem.W.nsIn K mainGlobals "_law_number" = some (some (.ref f3))) (l3 : K.lookup f3 = some ⟨oc3, od3, .func (PySem.W.fnOf "_law_number" "_law_number" (defArgs s_law_number) (defBody s_law_number) (defScope s_law_number) .none kV3 dc3 pm3 an3 cd3 ct3), sl3⟩) (c3 : PySem.W.codeIn K cd3 "_law_number" = true) (k3 : PySem.W.keepIn K (.ref f3) = true)
    (a4 : PySem.W.nsIn K mainGlobals "_law_places" = some (some (.ref f4))) (l4 : K.lookup f4 = some ⟨oc4, od4, .func (PySem.W.fnOf "_law_places" "_law_places" (defArgs s_law_places) (defBody s_law_places) (defScope s_law_places) .none kV4 dc4 pm4 an4 cd4 ct4), sl4⟩) (c4 : PySem.W.codeIn K cd4 "_law_places" = true) (k4 : PySem.W.keepIn K (.ref f4) = true)
    (a5 : PySem.W.nsIn K mainGlobals "_law_names" = some (some (.ref f5))) (l5 : K.lookup f5 = some ⟨oc5, od5, .func (PySem.W.fnOf "_law_names" "_law_names" (defArgs s_law_names) (defBody s_law_names) (defScope s_law_names) .none kV5 dc5 pm5 an5 cd5 ct5), sl5⟩) (c5 : PySem.W.codeIn K cd5 "_law_names" = true) (k5 : PySem.W.keepIn K (.ref f5) = true)
    (a6 : PySem.W.nsIn K mainGlobals "_law_points" = some (some (.ref f6))) (l6 : K.lookup f6 = some ⟨oc6, od6, .func (PySem.W.fnOf "_law_points" "_law_points" (defArgs s_law_points) (defBody s_law_points) (defScope s_law_points) .none kV6 dc6 pm6 an6 cd6 ct6), sl6⟩) (c6 : PySem.W.codeIn K cd6 "_law_points" = true) (k6 : PySem.W.keepIn K (.ref f6) = true)
    (a7 : PySem.W.nsIn K mainGlobals "_law_figures" = some (some (.ref f7))) (l7 : K.lookup f7 = some ⟨oc7, od7, .func (PySem.W.fnOf "_law_figures" "_law_figures" (defArgs s_law_figures) (defBody s_law_figures) (defScope s_law_figures) .none kV7 dc7 pm7 an7 cd7 ct7), sl7⟩) (c7 : PySem.W.codeIn K cd7 "_law_figures" = true) (k7 : PySem.W.keepIn K (.ref f7) = true)
    (a8 : PySem.W.nsIn K mainGlobals "_law_text" = some (some (.ref f8))) (l8 : K.lookup f8 = some ⟨oc8, od8, .func (PySem.W.fnOf "_law_text" "_law_text" (defArgs s_law_text) (defBody s_law_text) (defScope s_law_text) .none kV8 dc8 pm8 an8 cd8 ct8), sl8⟩) (c8 : PySem.W.codeIn K cd8 "_law_text" = true) (k8 : PySem.W.keepIn K (.ref f8) = true)
    (a9 : PySem.W.nsIn K mainGlobals "_law_sign" = some (some (.ref f9))) (l9 : K.lookup f9 = some ⟨oc9, od9, .func (PySem.W.fnOf "_law_sign" "_law_sign" (defArgs s_law_sign) (defBody s_law_sign) (defScope s_law_sign) .none kV9 dc9 pm9 an9 cd9 ct9), sl9⟩) (c9 : PySem.W.codeIn K cd9 "_law_sign" = true) (k9 : PySem.W.keepIn K (.ref f9) = true)
    (a10 : PySem.W.nsIn K mainGlobals "_law_spoilt_line" = some (some (.ref f10))) (l10 : K.lookup f10 = some ⟨oc10, od10, .func (PySem.W.fnOf "_law_spoilt_line" "_law_spoilt_line" (defArgs s_law_spoilt_line) (defBody s_law_spoilt_line) (defScope s_law_spoilt_line) .none kV10 dc10 pm10 an10 cd10 ct10), sl10⟩) (c10 : PySem.W.codeIn K cd10 "_law_spoilt_line" = true) (k10 : PySem.W.keepIn K (.ref f10) = true)
    (a11 : PySem.W.nsIn K mainGlobals "_law_spoilt" = some (some (.ref f11))) (l11 : K.lookup f11 = some ⟨oc11, od11, .func (PySem.W.fnOf "_law_spoilt" "_law_spoilt" (defArgs s_law_spoilt) (defBody s_law_spoilt) (defScope s_law_spoilt) .none kV11 dc11 pm11 an11 cd11 ct11), sl11⟩) (c11 : PySem.W.codeIn K cd11 "_law_spoilt" = true) (k11 : PySem.W.keepIn K (.ref f11) = true)
    (a12 : PySem.W.nsIn K mainGlobals "_law_number_of" = some (some (.ref f12))) (l12 : K.lookup f12 = some ⟨oc12, od12, .func (PySem.W.fnOf "_law_number_of" "_law_number_of" (defArgs s_law_number_of) (defBody s_law_number_of) (defScope s_law_number_of) .none kV12 dc12 pm12 an12 cd12 ct12), sl12⟩) (c12 : PySem.W.codeIn K cd12 "_law_number_of" = true) (k12 : PySem.W.keepIn K (.ref f12) = true)
    (a13 : PySem.W.nsIn K mainGlobals "_law_beyond" = some (some (.ref f13))) (l13 : K.lookup f13 = some ⟨oc13, od13, .func (PySem.W.fnOf "_law_beyond" "_law_beyond" (defArgs s_law_beyond) (defBody s_law_beyond) (defScope s_law_beyond) .none kV13 dc13 pm13 an13 cd13 ct13), sl13⟩) (c13 : PySem.W.codeIn K cd13 "_law_beyond" = true) (k13 : PySem.W.keepIn K (.ref f13) = true)
    (a14 : PySem.W.nsIn K mainGlobals "_law_is_name" = some (some (.ref f14))) (l14 : K.lookup f14 = some ⟨oc14, od14, .func (PySem.W.fnOf "_law_is_name" "_law_is_name" (defArgs s_law_is_name) (defBody s_law_is_name) (defScope s_law_is_name) .none kV14 dc14 pm14 an14 cd14 ct14), sl14⟩) (c14 : PySem.W.codeIn K cd14 "_law_is_name" = true) (k14 : PySem.W.keepIn K (.ref f14) = true)
    (a15 : PySem.W.nsIn K mainGlobals "_law_due" = some (some (.ref f15))) (l15 : K.lookup f15 = some ⟨oc15, od15, .func (PySem.W.fnOf "_law_due" "_law_due" (defArgs s_law_due) (defBody s_law_due) (defScope s_law_due) .none kV15 dc15 pm15 an15 cd15 ct15), sl15⟩) (c15 : PySem.W.codeIn K cd15 "_law_due" = true) (k15 : PySem.W.keepIn K (.ref f15) = true)
    (a16 : PySem.W.nsIn K mainGlobals "is_point_name" = some (some (.ref f16))) (l16 : K.lookup f16 = some ⟨oc16, od16, .func (PySem.W.fnOf "is_point_name" "is_point_name" (defArgs s_is_point_name) (defBody s_is_point_name) (defScope s_is_point_name) .none kV16 dc16 pm16 an16 cd16 ct16), sl16⟩) (c16 : PySem.W.codeIn K cd16 "is_point_name" = true) (k16 : PySem.W.keepIn K (.ref f16) = true)
    (a17 : PySem.W.nsIn K mainGlobals "is_number_word" = some (some (.ref f17))) (l17 : K.lookup f17 = some ⟨oc17, od17, .func (PySem.W.fnOf "is_number_word" "is_number_word" (defArgs s_is_number_word) (defBody s_is_number_word) (defScope s_is_number_word) .none kV17 dc17 pm17 an17 cd17 ct17), sl17⟩) (c17 : PySem.W.codeIn K cd17 "is_number_word" = true) (k17 : PySem.W.keepIn K (.ref f17) = true)
    (a18 : PySem.W.nsIn K mainGlobals "read_points" = some (some (.ref f18))) (l18 : K.lookup f18 = some ⟨oc18, od18, .func (PySem.W.fnOf "read_points" "read_points" (defArgs s_read_pointsX) (defBody s_read_pointsX) (defScope s_read_pointsX) .none kV18 dc18 pm18 an18 cd18 ct18), sl18⟩) (c18 : PySem.W.codeIn K cd18 "read_points" = true) (k18 : PySem.W.keepIn K (.ref f18) = true)
    (a19 : PySem.W.nsIn K mainGlobals "_law_right" = some (some (.ref f19))) (l19 : K.lookup f19 = some ⟨oc19, od19, .func (PySem.W.fnOf "_law_right" "_law_right" (defArgs s_law_right) (defBody s_law_right) (defScope s_law_right) .none kV19 dc19 pm19 an19 cd19 ct19), sl19⟩) (c19 : PySem.W.codeIn K cd19 "_law_right" = true) (k19 : PySem.W.keepIn K (.ref f19) = true)
    (a20 : PySem.W.nsIn K mainGlobals "_law_classes_right" = some (some (.ref f20))) (l20 : K.lookup f20 = some ⟨oc20, od20, .func (PySem.W.fnOf "_law_classes_right" "_law_classes_right" (defArgs s_law_classes_right) (defBody s_law_classes_right) (defScope s_law_classes_right) .none kV20 dc20 pm20 an20 cd20 ct20), sl20⟩) (c20 : PySem.W.codeIn K cd20 "_law_classes_right" = true) (k20 : PySem.W.keepIn K (.ref f20) = true)
    (a21 : PySem.W.nsIn K mainGlobals "law" = some (some (.ref f21))) (l21 : K.lookup f21 = some ⟨oc21, od21, .func (PySem.W.fnOf "law" "law" (defArgs s_law) (defBody s_law) (defScope s_law) .none kV21 dc21 pm21 an21 cd21 ct21), sl21⟩) (c21 : PySem.W.codeIn K cd21 "law" = true) (k21 : PySem.W.keepIn K (.ref f21) = true)
    (z_sum : PySem.W.nsIn K mainGlobals "sum" = some none)
    (z_len : PySem.W.nsIn K mainGlobals "len" = some none)
    (z_max : PySem.W.nsIn K mainGlobals "max" = some none)
    (z_range : PySem.W.nsIn K mainGlobals "range" = some none)
    (z_list : PySem.W.nsIn K mainGlobals "list" = some none)
    (z_enumerate : PySem.W.nsIn K mainGlobals "enumerate" = some none)
    (z_zip : PySem.W.nsIn K mainGlobals "zip" = some none)
    (z_tuple : PySem.W.nsIn K mainGlobals "tuple" = some none)
    (z_int : PySem.W.nsIn K mainGlobals "int" = some none)
    (z_abs : PySem.W.nsIn K mainGlobals "abs" = some none)
    (z_all : PySem.W.nsIn K mainGlobals "all" = some none)
    (z_isinstance : PySem.W.nsIn K mainGlobals "isinstance" = some none)
    (z_ValueError : PySem.W.nsIn K mainGlobals "ValueError" = some none)
    (z_bool : PySem.W.nsIn K mainGlobals "bool" = some none)
    (z_str : PySem.W.nsIn K mainGlobals "str" = some none)
    (q_LONGEST : PySem.W.nsIn K mainGlobals "LONGEST" = some (some (.int 8 u_LONGEST)))
    (q_NAME_SIGNS : PySem.W.nsIn K mainGlobals "NAME_SIGNS" = some (some (.str "abcdefghijklmnopqrstuvwxyz" u_NAME_SIGNS)))
    (q_NUMBER_SIGNS : PySem.W.nsIn K mainGlobals "NUMBER_SIGNS" = some (some (.str "0123456789" u_NUMBER_SIGNS))) :
    ∃ fd : FuncData, (∀ (s : Shared) (v : Value), BindsTo s fd ⟨[v], []⟩ [("script", v)]) ∧ ∀ base : Heap, K.In base → base.Ns mainGlobals mg → NoneBooked base → FnOk l.prog w K mg base CX0 6 fa fd ["script"] (spD K 1 m_law) := by
  have e := hfa.symm.trans (PySem.W.mg_of X G a21)
  cases e
  have y_sum := PySem.W.mg_none_of X G z_sum
  have y_len := PySem.W.mg_none_of X G z_len
  have y_max := PySem.W.mg_none_of X G z_max
  have y_range := PySem.W.mg_none_of X G z_range
  have y_list := PySem.W.mg_none_of X G z_list
  have y_enumerate := PySem.W.mg_none_of X G z_enumerate
  have y_zip := PySem.W.mg_none_of X G z_zip
  have y_tuple := PySem.W.mg_none_of X G z_tuple
  have y_int := PySem.W.mg_none_of X G z_int
  have y_abs := PySem.W.mg_none_of X G z_abs
  have y_all := PySem.W.mg_none_of X G z_all
  have y_isinstance := PySem.W.mg_none_of X G z_isinstance
  have y_ValueError := PySem.W.mg_none_of X G z_ValueError
  have y_bool := PySem.W.mg_none_of X G z_bool
  have y_str := PySem.W.mg_none_of X G z_str
  have k_LONGEST := PySem.W.mg_of X G q_LONGEST
  have k_NAME_SIGNS := PySem.W.mg_of X G q_NAME_SIGNS
  have k_NUMBER_SIGNS := PySem.W.mg_of X G q_NUMBER_SIGNS
  have G_BelowError := PySem.W.mg_of X G aC_BelowError
  have G_NoAsk := PySem.W.mg_of X G aC_NoAsk
  have XK_NoAsk : ExcK K mg "NoAsk" := excK_of aC_NoAsk G_NoAsk xC_NoAsk kC_NoAsk bC_NoAsk tC_NoAsk
  have EC_NoAsk : ExcC K C_NoAsk := ⟨eg_NoAsk, ek_NoAsk, bC_NoAsk, hd_NoAsk, ec_NoAsk, en_, et_, em_NoAsk⟩
  have G_NoCounts := PySem.W.mg_of X G aC_NoCounts
  have EC_NoCounts : ExcC K C_NoCounts := ⟨eg_NoCounts, ek_NoCounts, bC_NoCounts, hd_NoCounts, ec_NoCounts, en_, et_, em_NoCounts⟩
  have G_NoName := PySem.W.mg_of X G aC_NoName
  have EC_NoName : ExcC K C_NoName := ⟨eg_NoName, ek_NoName, bC_NoName, hd_NoName, ec_NoName, en_, et_, em_NoName⟩
  have G_NoPlace := PySem.W.mg_of X G aC_NoPlace
  have XK_NoPlace : ExcK K mg "NoPlace" := excK_of aC_NoPlace G_NoPlace xC_NoPlace kC_NoPlace bC_NoPlace tC_NoPlace
  have EC_NoPlace : ExcC K C_NoPlace := ⟨eg_NoPlace, ek_NoPlace, bC_NoPlace, hd_NoPlace, ec_NoPlace, en_, et_, em_NoPlace⟩
  have G_NoPoints := PySem.W.mg_of X G aC_NoPoints
  have EC_NoPoints : ExcC K C_NoPoints := ⟨eg_NoPoints, ek_NoPoints, bC_NoPoints, hd_NoPoints, ec_NoPoints, en_, et_, em_NoPoints⟩
  have AT_row : AtX K "row" ["NoCounts", "NoPoints"] := ⟨by decide, (ex_cons aC_NoCounts ⟨⟨eg_NoCounts, ek_NoCounts, bC_NoCounts, hd_NoCounts⟩, no_NoCounts⟩ (ex_cons aC_NoPoints ⟨⟨eg_NoPoints, ek_NoPoints, bC_NoPoints, hd_NoPoints⟩, no_NoPoints⟩ ex_nil))⟩
  have AT_word : AtX K "word" ["NoName"] := ⟨by decide, (ex_cons aC_NoName ⟨⟨eg_NoName, ek_NoName, bC_NoName, hd_NoName⟩, no_NoName⟩ ex_nil)⟩
  have TC_BelowError : Catch K mg "BelowError" ["NoAsk", "NoCounts", "NoName", "NoPlace", "NoPoints"] := catch_of G_BelowError (ex_cons aC_NoAsk (exm_of bC_BelowError hd_BelowError tC_BelowError su_NoAsk_BelowError) (ex_cons aC_NoCounts (exm_of bC_BelowError hd_BelowError tC_BelowError su_NoCounts_BelowError) (ex_cons aC_NoName (exm_of bC_BelowError hd_BelowError tC_BelowError su_NoName_BelowError) (ex_cons aC_NoPlace (exm_of bC_BelowError hd_BelowError tC_BelowError su_NoPlace_BelowError) (ex_cons aC_NoPoints (exm_of bC_BelowError hd_BelowError tC_BelowError su_NoPoints_BelowError) ex_nil)))))
  have I_NoAsk_NoCounts_NoName_NoPlace : IsXF K [.ref C_NoAsk, .ref C_NoCounts, .ref C_NoName, .ref C_NoPlace] ["NoAsk", "NoCounts", "NoName", "NoPlace"] ["NoPoints"] := isxf_of (ex_cons aC_NoAsk ⟨EC_NoAsk, (kit_yes (kit_ref hd_NoAsk tC_NoAsk su_NoAsk_NoAsk su_NoAsk_NoAsk))⟩ (ex_cons aC_NoCounts ⟨EC_NoCounts, (kit_no (kit_ref hd_NoAsk tC_NoAsk su_NoCounts_NoCounts su_NoCounts_NoAsk) (kit_yes (kit_ref hd_NoCounts tC_NoCounts su_NoCounts_NoCounts su_NoCounts_NoCounts)))⟩ (ex_cons aC_NoName ⟨EC_NoName, (kit_no (kit_ref hd_NoAsk tC_NoAsk su_NoName_NoName su_NoName_NoAsk) (kit_no (kit_ref hd_NoCounts tC_NoCounts su_NoName_NoName su_NoName_NoCounts) (kit_yes (kit_ref hd_NoName tC_NoName su_NoName_NoName su_NoName_NoName))))⟩ (ex_cons aC_NoPlace ⟨EC_NoPlace, (kit_no (kit_ref hd_NoAsk tC_NoAsk su_NoPlace_NoPlace su_NoPlace_NoAsk) (kit_no (kit_ref hd_NoCounts tC_NoCounts su_NoPlace_NoPlace su_NoPlace_NoCounts) (kit_no (kit_ref hd_NoName tC_NoName su_NoPlace_NoPlace su_NoPlace_NoName) (kit_yes (kit_ref hd_NoPlace tC_NoPlace su_NoPlace_NoPlace su_NoPlace_NoPlace)))))⟩ ex_nil)))) (ex_cons aC_NoPoints ⟨EC_NoPoints, (kit_no (kit_ref hd_NoAsk tC_NoAsk su_NoPoints_NoPoints su_NoPoints_NoAsk) (kit_no (kit_ref hd_NoCounts tC_NoCounts su_NoPoints_NoPoints su_NoPoints_NoCounts) (kit_no (kit_ref hd_NoName tC_NoName su_NoPoints_NoPoints su_NoPoints_NoName) (kit_no (kit_ref hd_NoPlace tC_NoPlace su_NoPoints_NoPoints su_NoPoints_NoPlace) kit_nil))))⟩ ex_nil)
  have I_NoPoints : IsXF K [.ref C_NoPoints] ["NoPoints"] ["NoAsk", "NoCounts", "NoName", "NoPlace"] := isxf_of (ex_cons aC_NoPoints ⟨EC_NoPoints, (kit_yes (kit_ref hd_NoPoints tC_NoPoints su_NoPoints_NoPoints su_NoPoints_NoPoints))⟩ ex_nil) (ex_cons aC_NoAsk ⟨EC_NoAsk, (kit_no (kit_ref hd_NoPoints tC_NoPoints su_NoAsk_NoAsk su_NoAsk_NoPoints) kit_nil)⟩ (ex_cons aC_NoCounts ⟨EC_NoCounts, (kit_no (kit_ref hd_NoPoints tC_NoPoints su_NoCounts_NoCounts su_NoCounts_NoPoints) kit_nil)⟩ (ex_cons aC_NoName ⟨EC_NoName, (kit_no (kit_ref hd_NoPoints tC_NoPoints su_NoName_NoName su_NoName_NoPoints) kit_nil)⟩ (ex_cons aC_NoPlace ⟨EC_NoPlace, (kit_no (kit_ref hd_NoPoints tC_NoPoints su_NoPlace_NoPlace su_NoPlace_NoPoints) kit_nil)⟩ ex_nil))))
  have I_ValueError : IsXF K [.type "ValueError"] ["NoAsk", "NoCounts", "NoName", "NoPlace", "NoPoints"] [] := isxf_of (ex_cons aC_NoAsk ⟨EC_NoAsk, (kit_yes (kit_type (by decide +kernel) su_NoAsk_ValueError))⟩ (ex_cons aC_NoCounts ⟨EC_NoCounts, (kit_yes (kit_type (by decide +kernel) su_NoCounts_ValueError))⟩ (ex_cons aC_NoName ⟨EC_NoName, (kit_yes (kit_type (by decide +kernel) su_NoName_ValueError))⟩ (ex_cons aC_NoPlace ⟨EC_NoPlace, (kit_yes (kit_type (by decide +kernel) su_NoPlace_ValueError))⟩ (ex_cons aC_NoPoints ⟨EC_NoPoints, (kit_yes (kit_type (by decide +kernel) su_NoPoints_ValueError))⟩ ex_nil))))) ex_nil
  have I_NoPlace : IsXF K [.ref C_NoPlace] ["NoPlace"] ["NoAsk", "NoCounts", "NoName", "NoPoints"] := isxf_of (ex_cons aC_NoPlace ⟨EC_NoPlace, (kit_yes (kit_ref hd_NoPlace tC_NoPlace su_NoPlace_NoPlace su_NoPlace_NoPlace))⟩ ex_nil) (ex_cons aC_NoAsk ⟨EC_NoAsk, (kit_no (kit_ref hd_NoPlace tC_NoPlace su_NoAsk_NoAsk su_NoAsk_NoPlace) kit_nil)⟩ (ex_cons aC_NoCounts ⟨EC_NoCounts, (kit_no (kit_ref hd_NoPlace tC_NoPlace su_NoCounts_NoCounts su_NoCounts_NoPlace) kit_nil)⟩ (ex_cons aC_NoName ⟨EC_NoName, (kit_no (kit_ref hd_NoPlace tC_NoPlace su_NoName_NoName su_NoName_NoPlace) kit_nil)⟩ (ex_cons aC_NoPoints ⟨EC_NoPoints, (kit_no (kit_ref hd_NoPlace tC_NoPlace su_NoPoints_NoPoints su_NoPoints_NoPlace) kit_nil)⟩ ex_nil))))
  have I_NoName : IsXF K [.ref C_NoName] ["NoName"] ["NoAsk", "NoCounts", "NoPlace", "NoPoints"] := isxf_of (ex_cons aC_NoName ⟨EC_NoName, (kit_yes (kit_ref hd_NoName tC_NoName su_NoName_NoName su_NoName_NoName))⟩ ex_nil) (ex_cons aC_NoAsk ⟨EC_NoAsk, (kit_no (kit_ref hd_NoName tC_NoName su_NoAsk_NoAsk su_NoAsk_NoName) kit_nil)⟩ (ex_cons aC_NoCounts ⟨EC_NoCounts, (kit_no (kit_ref hd_NoName tC_NoName su_NoCounts_NoCounts su_NoCounts_NoName) kit_nil)⟩ (ex_cons aC_NoPlace ⟨EC_NoPlace, (kit_no (kit_ref hd_NoName tC_NoName su_NoPlace_NoPlace su_NoPlace_NoName) kit_nil)⟩ (ex_cons aC_NoPoints ⟨EC_NoPoints, (kit_no (kit_ref hd_NoName tC_NoName su_NoPoints_NoPoints su_NoPoints_NoName) kit_nil)⟩ ex_nil))))
  have I_NoCounts : IsXF K [.ref C_NoCounts] ["NoCounts"] ["NoAsk", "NoName", "NoPlace", "NoPoints"] := isxf_of (ex_cons aC_NoCounts ⟨EC_NoCounts, (kit_yes (kit_ref hd_NoCounts tC_NoCounts su_NoCounts_NoCounts su_NoCounts_NoCounts))⟩ ex_nil) (ex_cons aC_NoAsk ⟨EC_NoAsk, (kit_no (kit_ref hd_NoCounts tC_NoCounts su_NoAsk_NoAsk su_NoAsk_NoCounts) kit_nil)⟩ (ex_cons aC_NoName ⟨EC_NoName, (kit_no (kit_ref hd_NoCounts tC_NoCounts su_NoName_NoName su_NoName_NoCounts) kit_nil)⟩ (ex_cons aC_NoPlace ⟨EC_NoPlace, (kit_no (kit_ref hd_NoCounts tC_NoCounts su_NoPlace_NoPlace su_NoPlace_NoCounts) kit_nil)⟩ (ex_cons aC_NoPoints ⟨EC_NoPoints, (kit_no (kit_ref hd_NoCounts tC_NoCounts su_NoPoints_NoPoints su_NoPoints_NoCounts) kit_nil)⟩ ex_nil))))
  have I_NoAsk : IsXF K [.ref C_NoAsk] ["NoAsk"] ["NoCounts", "NoName", "NoPlace", "NoPoints"] := isxf_of (ex_cons aC_NoAsk ⟨EC_NoAsk, (kit_yes (kit_ref hd_NoAsk tC_NoAsk su_NoAsk_NoAsk su_NoAsk_NoAsk))⟩ ex_nil) (ex_cons aC_NoCounts ⟨EC_NoCounts, (kit_no (kit_ref hd_NoAsk tC_NoAsk su_NoCounts_NoCounts su_NoCounts_NoAsk) kit_nil)⟩ (ex_cons aC_NoName ⟨EC_NoName, (kit_no (kit_ref hd_NoAsk tC_NoAsk su_NoName_NoName su_NoName_NoAsk) kit_nil)⟩ (ex_cons aC_NoPlace ⟨EC_NoPlace, (kit_no (kit_ref hd_NoAsk tC_NoAsk su_NoPlace_NoPlace su_NoPlace_NoAsk) kit_nil)⟩ (ex_cons aC_NoPoints ⟨EC_NoPoints, (kit_no (kit_ref hd_NoAsk tC_NoAsk su_NoPoints_NoPoints su_NoPoints_NoAsk) kit_nil)⟩ ex_nil))))
  have I_BelowError : IsXF K [.ref C_BelowError] ["NoAsk", "NoCounts", "NoName", "NoPlace", "NoPoints"] [] := isxf_of (ex_cons aC_NoAsk ⟨EC_NoAsk, (kit_yes (kit_ref hd_BelowError tC_BelowError su_NoAsk_NoAsk su_NoAsk_BelowError))⟩ (ex_cons aC_NoCounts ⟨EC_NoCounts, (kit_yes (kit_ref hd_BelowError tC_BelowError su_NoCounts_NoCounts su_NoCounts_BelowError))⟩ (ex_cons aC_NoName ⟨EC_NoName, (kit_yes (kit_ref hd_BelowError tC_BelowError su_NoName_NoName su_NoName_BelowError))⟩ (ex_cons aC_NoPlace ⟨EC_NoPlace, (kit_yes (kit_ref hd_BelowError tC_BelowError su_NoPlace_NoPlace su_NoPlace_BelowError))⟩ (ex_cons aC_NoPoints ⟨EC_NoPoints, (kit_yes (kit_ref hd_BelowError tC_BelowError su_NoPoints_NoPoints su_NoPoints_BelowError))⟩ ex_nil))))) ex_nil
  refine ⟨PySem.W.fnOf "law" "law" (defArgs s_law) (defBody s_law) (defScope s_law) .none kV21 dc21 pm21 an21 cd21 ct21, fun s v => .of_eq rfl, fun base _ _ NB => ?_⟩
  have XI_NoPoints := ci_NoPoints (P := l.prog) (w := w) (base := base) (fun_mk (st := sI_NoPoints) lI_NoPoints cI_NoPoints kI_NoPoints) aC_NoPoints G_NoPoints ⟨⟨_, _, _, _, _, _, _, _, _, _, _, _, _, _, _, xL_NoPoints, refs1⟩, sa_NoPoints, bC_NoPoints, tC_NoPoints, kC_NoPoints⟩ no_NoPoints iI_NoPoints tI_NoPoints G_BelowError sB_BelowError rB_BelowError vB_BelowError y_str
  have XI_NoName := ci_NoName (P := l.prog) (w := w) (base := base) (fun_mk (st := sI_NoName) lI_NoName cI_NoName kI_NoName) aC_NoName G_NoName ⟨⟨_, _, _, _, _, _, _, _, _, _, _, _, _, _, _, xL_NoName, refs1⟩, sa_NoName, bC_NoName, tC_NoName, kC_NoName⟩ no_NoName iI_NoName tI_NoName G_BelowError sB_BelowError rB_BelowError vB_BelowError y_str
  have XI_NoCounts := ci_NoCounts (P := l.prog) (w := w) (base := base) (fun_mk (st := sI_NoCounts) lI_NoCounts cI_NoCounts kI_NoCounts) aC_NoCounts G_NoCounts ⟨⟨_, _, _, _, _, _, _, _, _, _, _, _, _, _, _, xL_NoCounts, refs1⟩, sa_NoCounts, bC_NoCounts, tC_NoCounts, kC_NoCounts⟩ no_NoCounts iI_NoCounts tI_NoCounts G_BelowError sB_BelowError rB_BelowError vB_BelowError y_str
  have D_law_deck := c_law_deck (P := l.prog) (w := w) (base := base) (fun_mk (st := s_law_deck) l0 c0 k0) (PySem.W.mg_of X G a0) y_sum
  have D_law_mix := c_law_mix (P := l.prog) (w := w) (base := base) (fun_mk (st := s_law_mix) l1 c1 k1) (PySem.W.mg_of X G a1)
  have D_law_next := c_law_next (P := l.prog) (w := w) (base := base) (fun_mk (st := s_law_next) l2 c2 k2) (PySem.W.mg_of X G a2) y_len D_law_mix
  have D_law_number := c_law_number (P := l.prog) (w := w) (base := base) (fun_mk (st := s_law_number) l3 c3 k3) (PySem.W.mg_of X G a3) y_max D_law_next
  have D_law_places := c_law_places (P := l.prog) (w := w) (base := base) (fun_mk (st := s_law_places) l4 c4 k4) (PySem.W.mg_of X G a4) y_range y_len D_law_next D_law_number
  have D_law_names := c_law_names (P := l.prog) (w := w) (base := base) (fun_mk (st := s_law_names) l5 c5 k5) (PySem.W.mg_of X G a5) y_range y_list y_len y_enumerate D_law_next
  have D_law_points := c_law_points (P := l.prog) (w := w) (base := base) (fun_mk (st := s_law_points) l6 c6 k6) (PySem.W.mg_of X G a6) y_len y_range y_zip y_tuple D_law_places D_law_next D_law_names
  have D_law_figures := c_law_figures (P := l.prog) (w := w) (base := base) (fun_mk (st := s_law_figures) l7 c7 k7) (PySem.W.mg_of X G a7) y_int y_abs y_range
  have D_law_text := c_law_text (P := l.prog) (w := w) (base := base) (fun_mk (st := s_law_text) l8 c8 k8) (PySem.W.mg_of X G a8) D_law_figures
  have D_law_sign := c_law_sign (P := l.prog) (w := w) (base := base) (fun_mk (st := s_law_sign) l9 c9 k9) (PySem.W.mg_of X G a9) y_len D_law_next
  have DN_law_sign := cn_law_sign (P := l.prog) (w := w) (base := base) (fun_mk (st := s_law_sign) l9 c9 k9) (PySem.W.mg_of X G a9) y_len D_law_next
  have D_law_spoilt_line := c_law_spoilt_line (P := l.prog) (w := w) (base := base) (fun_mk (st := s_law_spoilt_line) l10 c10 k10) (PySem.W.mg_of X G a10) y_len D_law_next D_law_sign
  have D_law_spoilt := c_law_spoilt (P := l.prog) (w := w) (base := base) (fun_mk (st := s_law_spoilt) l11 c11 k11) (PySem.W.mg_of X G a11) y_range y_len D_law_text D_law_next D_law_spoilt_line
  have D_law_number_of := c_law_number_of (P := l.prog) (w := w) (base := base) (fun_mk (st := s_law_number_of) l12 c12 k12) (PySem.W.mg_of X G a12) y_int
  have D_law_beyond := c_law_beyond (P := l.prog) (w := w) (base := base) (fun_mk (st := s_law_beyond) l13 c13 k13) (PySem.W.mg_of X G a13) y_abs y_max D_law_number_of
  have D_law_is_name := c_law_is_name (P := l.prog) (w := w) (base := base) (fun_mk (st := s_law_is_name) l14 c14 k14) (PySem.W.mg_of X G a14) y_len
  have D_law_due := c_law_due (P := l.prog) (w := w) (base := base) (fun_mk (st := s_law_due) l15 c15 k15) (PySem.W.mg_of X G a15) y_len y_tuple D_law_is_name D_law_number_of
  have D_is_point_name := c_is_point_name (P := l.prog) (w := w) (base := base) (fun_mk (st := s_is_point_name) l16 c16 k16) (PySem.W.mg_of X G a16) y_len y_all k_LONGEST k_NAME_SIGNS
  have D_is_number_word := c_is_number_word (P := l.prog) (w := w) (base := base) (fun_mk (st := s_is_number_word) l17 c17 k17) (PySem.W.mg_of X G a17) y_all k_NUMBER_SIGNS
  have D_read_pointsX := c_read_pointsX (P := l.prog) (w := w) (base := base) (fun_mk (st := s_read_pointsX) l18 c18 k18) (PySem.W.mg_of X G a18) y_enumerate y_len y_int y_tuple D_is_point_name D_is_number_word XI_NoPoints
  have D_law_right := c_law_right (P := l.prog) (w := w) (base := base) (fun_mk (st := s_law_right) l19 c19 k19) (PySem.W.mg_of X G a19) y_isinstance y_tuple y_ValueError y_bool y_int D_law_due D_read_pointsX TC_BelowError AT_row G_NoAsk G_NoCounts G_NoName G_NoPlace G_NoPoints I_NoAsk_NoCounts_NoName_NoPlace I_NoPoints I_ValueError
  have D_law_classes_right := c_law_classes_right (P := l.prog) (w := w) (base := base) (fun_mk (st := s_law_classes_right) l20 c20 k20) (PySem.W.mg_of X G a20) y_isinstance y_range y_ValueError y_enumerate XK_NoPlace XK_NoAsk XI_NoPoints XI_NoName XI_NoCounts AT_row AT_word G_NoPlace G_NoName G_NoCounts G_NoAsk G_NoPoints G_BelowError I_NoPlace I_NoName I_NoCounts I_NoAsk I_NoPoints I_BelowError I_ValueError
  exact c_law_fn (P := l.prog) (w := w) (base := base) (fun_mk (st := s_law) l21 c21 k21) y_range y_int D_law_deck D_law_points D_law_next D_law_text D_law_spoilt D_law_sign D_law_beyond D_law_right D_law_classes_right DN_law_sign NB
theorem walk {l : PySem.W.OpenLaw} {q : Program} {loose : List Str} {XP : (Str → Option Value) → Heap → Prop} {YP : World → Heap → Prop} {d : DefRec} {K : Params → PySem.W.Frag} (hn : l.most = some 63) (hdf : d.params.defaults = [])
    (hY : ∀ (w : World) (h : Heap), YP w h → (K w.params).In h ∧ NoneBooked h)
    (F : ∀ (w : World) (mg : Str → Option Value) (fa : Addr) (h : Heap), (K w.params).In h → h.Ns mainGlobals mg → mg d.name = some (.ref fa) →
      ∃ fd : FuncData, (∀ (s : Shared) (u : Value), BindsTo s fd ⟨[u], []⟩ [("script", u)]) ∧ ∀ base : Heap, (K w.params).In base → base.Ns mainGlobals mg → NoneBooked base → FnOk l.prog w (K w.params) mg base CX0 6 fa fd ["script"] (spD (K w.params) 1 m_law)) :
    PySem.W.WalkO q loose XP YP l.row.toRowW d [] (fun f vs => PySem.call f vs) :=
  Pd.walk_ofN (n := 63) (k := 6) (x := "script") (CX := CX0) (sp := fun K => spD K 1 m_law) hn (by decide) hdf ⟨rfl, by decide, by decide⟩ hY F (fun K H a ns hl _ hS => law_sp law_true hl hS) fun _ _ _ _ z => z
end My
local macro_rules | `(tactic| o_head ($f:term $k $a $p)) => `(tactic| o_head (Pd.nbHook $k $a $p ()))
open PySem PySem.W PyProof.Rows in
set_option maxRecDepth 100000 in
set_option maxHeartbeats 0 in
theorem PySem.Challenge.cw_belowpoints_k02_no_points_holds : PySem.Challenge.rw_belowpoints_k02_no_points.Holds := by
  w_on; o_law; k_head; (case hw => w_witness2)
  k_fill
  refine My.walk (l := PySem.Challenge.rw_belowpoints_k02_no_points) rfl rfl (fun w h Y => ⟨Y.1, Y.2⟩) ?F
  case F =>
    intro w mg fa h KX G hmg
    refine' My.all_mk KX G hmg ?aC_BelowError ?tC_BelowError ?hd_BelowError ?bC_BelowError ?aC_NoAsk ?tC_NoAsk ?hd_NoAsk ?bC_NoAsk ?xC_NoAsk ?kC_NoAsk ?eg_NoAsk ?ek_NoAsk ?ec_NoAsk ?em_NoAsk ?su_NoAsk_ValueError ?aC_NoCounts ?tC_NoCounts ?hd_NoCounts ?bC_NoCounts ?eg_NoCounts ?ek_NoCounts ?ec_NoCounts ?em_NoCounts ?su_NoCounts_ValueError ?aC_NoName ?tC_NoName ?hd_NoName ?bC_NoName ?eg_NoName ?ek_NoName ?ec_NoName ?em_NoName ?su_NoName_ValueError ?aC_NoPlace ?tC_NoPlace ?hd_NoPlace ?bC_NoPlace ?xC_NoPlace ?kC_NoPlace ?eg_NoPlace ?ek_NoPlace ?ec_NoPlace ?em_NoPlace ?su_NoPlace_ValueError ?aC_NoPoints ?tC_NoPoints ?hd_NoPoints ?bC_NoPoints ?eg_NoPoints ?ek_NoPoints ?ec_NoPoints ?em_NoPoints ?su_NoPoints_ValueError ?xL_NoCounts ?sa_NoCounts ?kC_NoCounts ?no_NoCounts ?iI_NoCounts ?tI_NoCounts ?lI_NoCounts ?cI_NoCounts ?kI_NoCounts ?xL_NoName ?sa_NoName ?kC_NoName ?no_NoName ?iI_NoName ?tI_NoName ?lI_NoName ?cI_NoName ?kI_NoName ?xL_NoPoints ?sa_NoPoints ?kC_NoPoints ?no_NoPoints ?iI_NoPoints ?tI_NoPoints ?lI_NoPoints ?cI_NoPoints ?kI_NoPoints ?sB_BelowError ?rB_BelowError ?vB_BelowError ?su_NoAsk_BelowError ?su_NoAsk_NoAsk ?su_NoAsk_NoCounts ?su_NoAsk_NoName ?su_NoAsk_NoPlace ?su_NoAsk_NoPoints ?su_NoCounts_BelowError ?su_NoCounts_NoAsk ?su_NoCounts_NoCounts ?su_NoCounts_NoName ?su_NoCounts_NoPlace ?su_NoCounts_NoPoints ?su_NoName_BelowError ?su_NoName_NoAsk ?su_NoName_NoCounts ?su_NoName_NoName ?su_NoName_NoPlace ?su_NoName_NoPoints ?su_NoPlace_BelowError ?su_NoPlace_NoAsk ?su_NoPlace_NoCounts ?su_NoPlace_NoName ?su_NoPlace_NoPlace ?su_NoPlace_NoPoints ?su_NoPoints_BelowError ?su_NoPoints_NoAsk ?su_NoPoints_NoCounts ?su_NoPoints_NoName ?su_NoPoints_NoPlace ?su_NoPoints_NoPoints ?en_ ?et_ ?a0 ?l0 ?c0 ?k0 ?a1 ?l1 ?c1 ?k1 ?a2 ?l2 ?c2 ?k2 ?a3 ?l3 ?c3 ?k3 ?a4 ?l4 ?c4 ?k4 ?a5 ?l5 ?c5 ?k5 ?a6 ?l6 ?c6 ?k6 ?a7 ?l7 ?c7 ?k7 ?a8 ?l8 ?c8 ?k8 ?a9 ?l9 ?c9 ?k9 ?a10 ?l10 ?c10 ?k10 ?a11 ?l11 ?c11 ?k11 ?a12 ?l12 ?c12 ?k12 ?a13 ?l13 ?c13 ?k13 ?a14 ?l14 ?c14 ?k14 ?a15 ?l15 ?c15 ?k15 ?a16 ?l16 ?c16 ?k16 ?a17 ?l17 ?c17 ?k17 ?a18 ?l18 ?c18 ?k18 ?a19 ?l19 ?c19 ?k19 ?a20 ?l20 ?c20 ?k20 ?a21 ?l21 ?c21 ?k21 ?z_sum ?z_len ?z_max ?z_range ?z_list ?z_enumerate ?z_zip ?z_tuple ?z_int ?z_abs ?z_all ?z_isinstance ?z_ValueError ?z_bool ?z_str ?q_LONGEST ?q_NAME_SIGNS ?q_NUMBER_SIGNS
    (case aC_BelowError => k_is)
    (case tC_BelowError => k_is)
    (case hd_BelowError => k_is)
    (case bC_BelowError => k_is)
    (case aC_NoAsk => k_is)
    (case tC_NoAsk => k_is)
    (case hd_NoAsk => k_is)
    (case bC_NoAsk => k_is)
    (case xC_NoAsk => k_exc)
    (case kC_NoAsk => k_is)
    (case eg_NoAsk => k_is)
    (case ek_NoAsk => k_is)
    (case ec_NoAsk => k_is)
    (case em_NoAsk => k_is)
    (case su_NoAsk_ValueError => k_is)
    (case aC_NoCounts => k_is)
    (case tC_NoCounts => k_is)
    (case hd_NoCounts => k_is)
    (case bC_NoCounts => k_is)
    (case eg_NoCounts => k_is)
    (case ek_NoCounts => k_is)
    (case ec_NoCounts => k_is)
    (case em_NoCounts => k_is)
    (case su_NoCounts_ValueError => k_is)
    (case aC_NoName => k_is)
    (case tC_NoName => k_is)
    (case hd_NoName => k_is)
    (case bC_NoName => k_is)
    (case eg_NoName => k_is)
    (case ek_NoName => k_is)
    (case ec_NoName => k_is)
    (case em_NoName => k_is)
    (case su_NoName_ValueError => k_is)
    (case aC_NoPlace => k_is)
    (case tC_NoPlace => k_is)
    (case hd_NoPlace => k_is)
    (case bC_NoPlace => k_is)
    (case xC_NoPlace => k_exc)
    (case kC_NoPlace => k_is)
    (case eg_NoPlace => k_is)
    (case ek_NoPlace => k_is)
    (case ec_NoPlace => k_is)
    (case em_NoPlace => k_is)
    (case su_NoPlace_ValueError => k_is)
    (case aC_NoPoints => k_is)
    (case tC_NoPoints => k_is)
    (case hd_NoPoints => k_is)
    (case bC_NoPoints => k_is)
    (case eg_NoPoints => k_is)
    (case ek_NoPoints => k_is)
    (case ec_NoPoints => k_is)
    (case em_NoPoints => k_is)
    (case su_NoPoints_ValueError => k_is)
    (case xL_NoCounts => k_is)
    (case sa_NoCounts => k_is)
    (case kC_NoCounts => k_is)
    (case no_NoCounts => k_is)
    (case iI_NoCounts => k_is)
    (case tI_NoCounts => k_is)
    (case lI_NoCounts => k_is)
    (case cI_NoCounts => k_is)
    (case kI_NoCounts => k_is)
    (case xL_NoName => k_is)
    (case sa_NoName => k_is)
    (case kC_NoName => k_is)
    (case no_NoName => k_is)
    (case iI_NoName => k_is)
    (case tI_NoName => k_is)
    (case lI_NoName => k_is)
    (case cI_NoName => k_is)
    (case kI_NoName => k_is)
    (case xL_NoPoints => k_is)
    (case sa_NoPoints => k_is)
    (case kC_NoPoints => k_is)
    (case no_NoPoints => k_is)
    (case iI_NoPoints => k_is)
    (case tI_NoPoints => k_is)
    (case lI_NoPoints => k_is)
    (case cI_NoPoints => k_is)
    (case kI_NoPoints => k_is)
    (case sB_BelowError => k_is)
    (case rB_BelowError => k_is)
    (case vB_BelowError => k_is)
    (case su_NoAsk_BelowError => k_is)
    (case su_NoAsk_NoAsk => k_is)
    (case su_NoAsk_NoCounts => k_is)
    (case su_NoAsk_NoName => k_is)
    (case su_NoAsk_NoPlace => k_is)
    (case su_NoAsk_NoPoints => k_is)
    (case su_NoCounts_BelowError => k_is)
    (case su_NoCounts_NoAsk => k_is)
    (case su_NoCounts_NoCounts => k_is)
    (case su_NoCounts_NoName => k_is)
    (case su_NoCounts_NoPlace => k_is)
    (case su_NoCounts_NoPoints => k_is)
    (case su_NoName_BelowError => k_is)
    (case su_NoName_NoAsk => k_is)
    (case su_NoName_NoCounts => k_is)
    (case su_NoName_NoName => k_is)
    (case su_NoName_NoPlace => k_is)
    (case su_NoName_NoPoints => k_is)
    (case su_NoPlace_BelowError => k_is)
    (case su_NoPlace_NoAsk => k_is)
    (case su_NoPlace_NoCounts => k_is)
    (case su_NoPlace_NoName => k_is)
    (case su_NoPlace_NoPlace => k_is)
    (case su_NoPlace_NoPoints => k_is)
    (case su_NoPoints_BelowError => k_is)
    (case su_NoPoints_NoAsk => k_is)
    (case su_NoPoints_NoCounts => k_is)
    (case su_NoPoints_NoName => k_is)
    (case su_NoPoints_NoPlace => k_is)
    (case su_NoPoints_NoPoints => k_is)
    (case en_ => k_is)
    (case et_ => k_is)
    (case a0 => k_is)
    (case l0 => k_is)
    (case c0 => k_is)
    (case k0 => k_is)
    (case a1 => k_is)
    (case l1 => k_is)
    (case c1 => k_is)
    (case k1 => k_is)
    (case a2 => k_is)
    (case l2 => k_is)
    (case c2 => k_is)
    (case k2 => k_is)
    (case a3 => k_is)
    (case l3 => k_is)
    (case c3 => k_is)
    (case k3 => k_is)
    (case a4 => k_is)
    (case l4 => k_is)
    (case c4 => k_is)
    (case k4 => k_is)
    (case a5 => k_is)
    (case l5 => k_is)
    (case c5 => k_is)
    (case k5 => k_is)
    (case a6 => k_is)
    (case l6 => k_is)
    (case c6 => k_is)
    (case k6 => k_is)
    (case a7 => k_is)
    (case l7 => k_is)
    (case c7 => k_is)
    (case k7 => k_is)
    (case a8 => k_is)
    (case l8 => k_is)
    (case c8 => k_is)
    (case k8 => k_is)
    (case a9 => k_is)
    (case l9 => k_is)
    (case c9 => k_is)
    (case k9 => k_is)
    (case a10 => k_is)
    (case l10 => k_is)
    (case c10 => k_is)
    (case k10 => k_is)
    (case a11 => k_is)
    (case l11 => k_is)
    (case c11 => k_is)
    (case k11 => k_is)
    (case a12 => k_is)
    (case l12 => k_is)
    (case c12 => k_is)
    (case k12 => k_is)
    (case a13 => k_is)
    (case l13 => k_is)
    (case c13 => k_is)
    (case k13 => k_is)
    (case a14 => k_is)
    (case l14 => k_is)
    (case c14 => k_is)
    (case k14 => k_is)
    (case a15 => k_is)
    (case l15 => k_is)
    (case c15 => k_is)
    (case k15 => k_is)
    (case a16 => k_is)
    (case l16 => k_is)
    (case c16 => k_is)
    (case k16 => k_is)
    (case a17 => k_is)
    (case l17 => k_is)
    (case c17 => k_is)
    (case k17 => k_is)
    (case a18 => k_is)
    (case l18 => k_is)
    (case c18 => k_is)
    (case k18 => k_is)
    (case a19 => k_is)
    (case l19 => k_is)
    (case c19 => k_is)
    (case k19 => k_is)
    (case a20 => k_is)
    (case l20 => k_is)
    (case c20 => k_is)
    (case k20 => k_is)
    (case a21 => k_is)
    (case l21 => k_is)
    (case c21 => k_is)
    (case k21 => k_is)
    (case z_sum => k_is)
    (case z_len => k_is)
    (case z_max => k_is)
    (case z_range => k_is)
    (case z_list => k_is)
    (case z_enumerate => k_is)
    (case z_zip => k_is)
    (case z_tuple => k_is)
    (case z_int => k_is)
    (case z_abs => k_is)
    (case z_all => k_is)
    (case z_isinstance => k_is)
    (case z_ValueError => k_is)
    (case z_bool => k_is)
    (case z_str => k_is)
    (case q_LONGEST => k_is)
    (case q_NAME_SIGNS => k_is)
    (case q_NUMBER_SIGNS => k_is)
