import PyProof.Rows.All
import Wide.All
import OpenK.AllK
import Wide.FinOn
import HandS.ForMost
import HandS.TupAny
import HandS.Flow
import HandS.Style
import HandS.Wide
import HandS.WideBits
import HandS.TupMul
import PyProof.StrOps2
import KE.DataEq
import KE.LtData
import PyProof.Rows.SumAny
import PyProof.WalksMore
import HandS.IsInst
import HandS.More
import HandS.Zip
import KE.GoesEnum
import KE.GoesMore
import HandS.Conv
import HandS.SetFor
import KE.SortData
import HandS.SortInts
import HandS.Text
import HandS.TupLe
import HandS.EndBits
import HandS.DeepEq
import KE.KDictList
import KE.KDictSum
import HandS.Codes
import HandS.SortKw
import KE.SortKeyHeap
import KE.DataMinMax
import KE.DataFind
import PySem.Challenge.RW_belowpoints_k15_whole_trees_and_places
set_option Elab.async false
set_option linter.all false
set_option maxRecDepth 100000
set_option maxHeartbeats 1000000
/-! Pd: Python defs over pure data: a small functional semantics over environments of data, each construct once tied to the readings of the hand layer. -/
namespace Pd
open PySem PySem.Spec PyProof.Rows L2

abbrev D := PyData

/-- what a name holds: data that nobody changes, a list or a dict that this frame alone may change; t: it is the k-th argument's own object -/
inductive Sl where
  | p (d : D)
  | ml (t : Option Nat) (l : List D)
  | md (t : Option Nat) (l : List (Key × D))
  /-- a list of such things, each owned by it -/
  | mr (t : Option Nat) (l : List Sl)
  /-- an instance of the class c, its attributes' names and what they hold -/
  | ob (t : Option Nat) (c : Str) (ns : List Str) (l : List Sl)
  /-- an exception of the class c, perhaps with one attribute -/
  | ex (c : Str) (f : Option (Str × D))
  /-- a dict while it is walked: it may be read -/
  | fd (l : List (Key × D))
  /-- what stood here is lent -/
  | hl (t : Option Nat)

def Sl.tag : Sl → Option Nat
  | .p _ => none
  | .ml t _ => t
  | .md t _ => t
  | .mr t _ => t
  | .ob t _ _ _ => t
  | .ex _ _ => none
  | .fd _ => none
  | .hl t => t
def Sl.bare : Sl → Sl
  | .p d => .p d
  | .ml _ l => .ml none l
  | .md _ l => .md none l
  | .mr _ l => .mr none l
  | .ob _ c ns l => .ob none c ns l
  | .ex c f => .ex c f
  | .fd l => .fd l
  | .hl _ => .hl none
def Sl.mark (k : Nat) : Sl → Sl
  | .p d => .p d
  | .ml _ l => .ml (some k) l
  | .md _ l => .md (some k) l
  | .mr _ l => .mr (some k) l
  | .ob _ c ns l => .ob (some k) c ns l
  | .ex c f => .ex c f
  | .fd l => .fd l
  | .hl _ => .hl (some k)

abbrev Env := List (Option Sl)
inductive Rs where
  | own (s : Sl)
  | bor (i : Nat)
  /-- the k-th part of s, which name i held and which is taken along -/
  | lent (i : Nat) (s : Sl) (k : Nat)
inductive Fl where
  | nx | bk | ct
  | rt (s : Sl)
/-- a step's outcome -/
inductive Out (α : Type) where
  | ok (a : α) (ρ : Env)
abbrev M (α : Type) := Env → Option (Out α)
def M.ret {α : Type} (a : α) : M α := fun ρ => some (.ok a ρ)
def M.fail {α : Type} : M α := fun _ => none
def M.bind {α β : Type} (f : M α) (g : α → M β) : M β := fun ρ => match f ρ with
  | some (.ok a ρ') => g a ρ'
  | none => none
theorem M.bind_ok {α β : Type} {f : M α} {g : α → M β} {ρ : Env} {b : β} {ρ2 : Env} (h : M.bind f g ρ = some (.ok b ρ2)) : ∃ a ρ1, f ρ = some (.ok a ρ1) ∧ g a ρ1 = some (.ok b ρ2) := by
  unfold M.bind at h
  split at h
  · rename_i a ρ1 e
    exact ⟨a, ρ1, e, h⟩
  · cases h

/-! ### readings are monotone -/
section
variable {X : Cx}
theorem PE.imp {e : Expr} {t t' : TE} (h : PE X e t) (i : ∀ σ H Q, t' σ H Q → t σ H Q) : PE X e t' := ⟨fun pins s σ H Q I q => h.run pins s σ H Q I (i σ H Q q)⟩
theorem PT.imp {e : Expr} {t t' : TT} (h : PT X e t) (i : ∀ σ H Q, t' σ H Q → t σ H Q) : PT X e t' := ⟨fun pins s σ H Q I q => h.run pins s σ H Q I (i σ H Q q)⟩
theorem PW.imp {e : Expr} {t t' : TT} (h : PW X e t) (i : ∀ σ H Q, t' σ H Q → t σ H Q) : PW X e t' := ⟨fun w pins s σ H Q I q => h.run w pins s σ H Q I (i σ H Q q)⟩
theorem PA.imp {es : List Expr} {t t' : TA} (h : PA X es t) (i : ∀ σ H Q, t' σ H Q → t σ H Q) : PA X es t' := ⟨fun pos pins s σ H Q I q => h.run pos pins s σ H Q I (i σ H Q q)⟩
theorem PK.imp {es : List Keyword} {t t' : TA} (h : PK X es t) (i : ∀ σ H Q, t' σ H Q → t σ H Q) : PK X es t' := ⟨fun pos pins s σ H Q I q => h.run pos pins s σ H Q I (i σ H Q q)⟩
theorem PS.imp {st : Stmt} {t t' : TS} (h : PS X st t) (i : ∀ D σ H, t' D σ H → t D σ H) : PS X st t' := ⟨fun pins s σ H D I q => h.run pins s σ H D I (i D σ H q)⟩
theorem PSs.imp {st : List Stmt} {t t' : TS} (h : PSs X st t) (i : ∀ D σ H, t' D σ H → t D σ H) : PSs X st t' := ⟨fun pins s σ H D I q => h.run pins s σ H D I (i D σ H q)⟩
theorem PO.imp {e : Option Expr} {t t' : TO} (h : PO X e t) (i : ∀ σ H Q, t' σ H Q → t σ H Q) : PO X e t' := ⟨fun pins s σ H Q I q => h.run pins s σ H Q I (i σ H Q q)⟩
end

/-! ### data at a value -/
section
variable {K : PySem.W.Frag} {B B' H H' : Hp}
theorem rd_mono {a : Addr} {u : HO} (e : Same B B') (h : Rd B a u) : Rd B' a u := by
  rcases h with h | ⟨o, h⟩
  · exact Or.inl (e a _ h)
  · exact Or.inr ⟨o, e a _ h⟩
theorem sql_mono {a : Addr} {xs : List V} (e : Same B B') (h : SqL K B a xs) : SqL K B' a xs := by
  rcases h with h | h
  · exact Or.inl (rd_mono e h)
  · exact Or.inr h
theorem sqt_mono {a : Addr} {xs : List V} (e : Same B B') (h : SqT K B a xs) : SqT K B' a xs := by
  rcases h with h | h
  · exact Or.inl (rd_mono e h)
  · exact Or.inr h
mutual
theorem Dp.mono (e : Same B B') : ∀ {d : PyData} {v : V}, Dp K B v d → Dp K B' v d
  | .none, _, h => by cases h; exact .non
  | .bool b, _, h => by cases h; exact .bl b
  | .int i, _, h => by cases h; exact .int i
  | .str x, _, h => by cases h; exact .str x
  | .list ds, _, h => by
    cases h with
    | lst h1 h2 => exact .lst (sql_mono e h1) (DpAll.mono e h2)
  | .tuple ds, _, h => by
    cases h with
    | tup h1 h2 => exact .tup (sqt_mono e h1) (DpAll.mono e h2)
  | .dict _, _, h => by cases h
theorem DpAll.mono (e : Same B B') : ∀ {ds : List PyData} {vs : List V}, DpAll K B vs ds → DpAll K B' vs ds
  | [], _, h => by cases h; exact .nil
  | d :: ds, _, h => by
    cases h with
    | cons h1 h2 => exact .cons (Dp.mono e h1) (DpAll.mono e h2)
end
theorem DpAll.length : ∀ {ds : List PyData} {vs : List V}, DpAll K B vs ds → vs.length = ds.length
  | [], _, h => by cases h; rfl
  | d :: ds, _, h => by
    cases h with
    | cons h1 h2 => rw [List.length_cons, List.length_cons, DpAll.length h2]
theorem DpAll.get : ∀ {ds : List PyData} {vs : List V} {i : Nat} {d : PyData}, DpAll K B vs ds → ds[i]? = some d → ∃ v, vs[i]? = some v ∧ Dp K B v d
  | [], _, i, d, _, e => by simp at e
  | d :: ds, _, i, d', h, e => by
    cases h with
    | cons h1 h2 =>
      cases i with
      | zero => simp at e; subst e; exact ⟨_, rfl, h1⟩
      | succ i => simpa using DpAll.get (i := i) h2 (by simpa using e)
theorem DpAll.getV : ∀ {ds : List PyData} {vs : List V} {i : Nat} {v : V}, DpAll K B vs ds → vs[i]? = some v → ∃ d, ds[i]? = some d ∧ Dp K B v d
  | [], _, i, v, h, e => by cases h; simp at e
  | d :: ds, _, i, v', h, e => by
    cases h with
    | cons h1 h2 =>
      cases i with
      | zero => simp at e; subst e; exact ⟨_, rfl, h1⟩
      | succ i => simpa using DpAll.getV (i := i) h2 (by simpa using e)
theorem DpAll.append : ∀ {ds es : List PyData} {vs ws : List V}, DpAll K B vs ds → DpAll K B ws es → DpAll K B (vs ++ ws) (ds ++ es)
  | [], _, _, _, h, g => by cases h; exact g
  | d :: ds, _, _, _, h, g => by
    cases h with
    | cons h1 h2 => exact .cons h1 (DpAll.append h2 g)
theorem DpAll.one {v : V} {d : PyData} (h : Dp K B v d) : DpAll K B [v] [d] := .cons h .nil
theorem DpAll.drop : ∀ {ds : List PyData} {vs : List V} (n : Nat), DpAll K B vs ds → DpAll K B (vs.drop n) (ds.drop n)
  | _, _, 0, h => by simpa using h
  | [], _, n + 1, h => by cases h; exact .nil
  | d :: ds, _, n + 1, h => by
    cases h with
    | cons h1 h2 => simpa using DpAll.drop n h2
theorem DpAll.take : ∀ {ds : List PyData} {vs : List V} (n : Nat), DpAll K B vs ds → DpAll K B (vs.take n) (ds.take n)
  | _, _, 0, h => by simpa using DpAll.nil
  | [], _, n + 1, h => by cases h; exact .nil
  | d :: ds, _, n + 1, h => by
    cases h with
    | cons h1 h2 => simpa using DpAll.cons h1 (DpAll.take n h2)
theorem DpAll.reverse {ds : List PyData} {vs : List V} (h : DpAll K B vs ds) : DpAll K B vs.reverse ds.reverse := by
  induction ds generalizing vs with
  | nil => cases h; exact .nil
  | cons d ds ih =>
    cases h with
    | cons h1 h2 =>
      rw [List.reverse_cons, List.reverse_cons]
      exact DpAll.append (ih h2) (DpAll.one h1)
theorem DpAll.set : ∀ {ds : List PyData} {vs : List V} {v : V} {d : PyData} (i : Nat), DpAll K B vs ds → Dp K B v d → DpAll K B (vs.set i v) (ds.set i d)
  | [], _, _, _, i, h, _ => by cases h; exact .nil
  | _ :: ds, _, _, _, 0, h, g => by
    cases h with
    | cons h1 h2 => exact .cons g h2
  | _ :: ds, _, _, _, i + 1, h, g => by
    cases h with
    | cons h1 h2 => exact .cons h1 (DpAll.set i h2 g)
theorem DpAll.erase : ∀ {ds : List PyData} {vs : List V} (i : Nat), DpAll K B vs ds → DpAll K B (vs.eraseIdx i) (ds.eraseIdx i)
  | [], _, i, h => by cases h; exact .nil
  | _ :: ds, _, 0, h => by
    cases h with
    | cons h1 h2 => exact h2
  | _ :: ds, _, i + 1, h => by
    cases h with
    | cons h1 h2 => exact .cons h1 (DpAll.erase i h2)
theorem DpAll.ints : ∀ {ns : List Int} {vs : List V}, DpAll K B vs (ns.map PyData.int) → vs = ns.map V.int
  | [], _, h => by cases h; rfl
  | n :: ns, _, h => by
    cases h with
    | cons h1 h2 => cases h1; rw [List.map_cons, DpAll.ints h2]
theorem DpAll.strs : ∀ {ns : List Str} {vs : List V}, DpAll K B vs (ns.map PyData.str) → vs = ns.map V.str
  | [], _, h => by cases h; rfl
  | n :: ns, _, h => by
    cases h with
    | cons h1 h2 => cases h1; rw [List.map_cons, DpAll.strs h2]
theorem DpAll.bools : ∀ {ns : List Bool} {vs : List V}, DpAll K B vs (ns.map PyData.bool) → vs = ns.map V.bl
  | [], _, h => by cases h; rfl
  | n :: ns, _, h => by
    cases h with
    | cons h1 h2 => cases h1; rw [List.map_cons, DpAll.bools h2]
theorem DpAll.of_ints : ∀ (ns : List Int), DpAll K B (ns.map V.int) (ns.map PyData.int)
  | [] => .nil
  | n :: ns => .cons (.int n) (DpAll.of_ints ns)
end

/-! ### what a name holds, in the heap -/
def KvD (K : PySem.W.Frag) (B : Hp) (ks : List (Key × V)) (l : List (Key × D)) : Prop := Paired (fun (p : Key × V) (q : Key × D) => p.1 = q.1 ∧ Dp K B p.2 q.2) ks l
/-- an exception's object, caught once -/
def ExV (cls : Value) (d : Option Addr) (a : Addr) : HO := .ext fun h => ∃ (oe : Obj) (vs : Array Value), h.get? a = some oe ∧ oe.cls = cls ∧ oe.dict = d ∧ oe.data = .fields vs
/-- a tuple of the heap whose object is known: it has no attributes of its own -/
def XtIs (K : PySem.W.Frag) (B : Hp) (v : V) (e : D) : Prop := ∃ a o ys l, v = .ref a ∧ B a = some (.frz o (.tup ys)) ∧ o.dict = none ∧ e = .tuple l ∧ DpAll K B ys l
def ExIs (K : PySem.W.Frag) (B : Hp) (v : V) (c : Str) : Option (Str × D) → Prop
  | none => ∃ a C, v = .ref a ∧ PySem.W.nsIn K mainGlobals c = some (some (.ref C)) ∧ B a = some (ExV (.ref C) none a)
  | some (x, e) => (c ≠ "tuple" ∧ ∃ a C dx u, v = .ref a ∧ PySem.W.nsIn K mainGlobals c = some (some (.ref C)) ∧ B a = some (ExV (.ref C) (some dx) a) ∧ B dx = some (.xd [(x, u)]) ∧ Dp K B u e) ∨ c = "tuple" ∧ XtIs K B v e
mutual
def Own (K : PySem.W.Frag) (B H : Hp) : V → Sl → List Addr → Prop
  | v, .p d, T => Dp K B v d ∧ T = []
  | v, .ml _ l, T => ∃ a xs, v = .ref a ∧ T = [a] ∧ H a = some (.lst xs) ∧ DpAll K B xs l
  | v, .md _ l, T => ∃ a ks, v = .ref a ∧ T = [a] ∧ H a = some (.dK ks) ∧ KvD K B ks l
  | v, .mr _ l, T => ∃ a xs Ts, v = .ref a ∧ T = a :: Ts.flatten ∧ H a = some (.lst xs) ∧ OwnL K B H xs l Ts ∧ T.Nodup
  | v, .ob _ c ns l, T => ∃ a dx C vs Ts, v = .ref a ∧ T = a :: dx :: Ts.flatten ∧ PySem.W.nsIn K mainGlobals c = some (some (.ref C)) ∧ H a = some (.ins C dx (ns.zip vs)) ∧ ns.length = vs.length ∧ H dx = some (.own a) ∧ OwnL K B H vs l Ts ∧ T.Nodup
  | v, .ex c f, T => ExIs K B v c f ∧ T = []
  | v, .fd l, T => (∃ a ks o, v = .ref a ∧ B a = some (.frz o (.dK ks)) ∧ KvD K B ks l) ∧ T = []
  | _, .hl _, T => T = []
def OwnL (K : PySem.W.Frag) (B H : Hp) : List V → List Sl → List (List Addr) → Prop
  | [], [], [] => True
  | v :: vs, s :: ss, T :: Ts => Own K B H v s T ∧ OwnL K B H vs ss Ts
  | _, _, _ => False
end
theorem KvD.mono {K : PySem.W.Frag} {B B' : Hp} (e : Same B B') {ks : List (Key × V)} {l : List (Key × D)} (h : KvD K B ks l) : KvD K B' ks l :=
  Paired.mapP h fun p q r => ⟨r.1, Dp.mono e r.2⟩
theorem ExIs.mono {K : PySem.W.Frag} {B B' : Hp} (e : Same B B') {v : V} {c : Str} : ∀ {f : Option (Str × D)}, ExIs K B v c f → ExIs K B' v c f
  | none, h => by
    obtain ⟨a, C, h1, h2, h3⟩ := h
    exact ⟨a, C, h1, h2, e _ _ h3⟩
  | some (x, d), h => by
    rcases h with ⟨h0, a, C, dx, u, h1, h2, h3, h4, h5⟩ | ⟨h0, a, o, ys, l, h1, h2, h3, h4, h5⟩
    · exact Or.inl ⟨h0, a, C, dx, u, h1, h2, e _ _ h3, e _ _ h4, Dp.mono e h5⟩
    · exact Or.inr ⟨h0, a, o, ys, l, h1, e _ _ h2, h3, h4, DpAll.mono e h5⟩
section
variable {K : PySem.W.Frag} {B B' H H' : Hp}
mutual
theorem Own.keepA (e : Same B B') : ∀ {s : Sl} {v : V} {T : List Addr}, Own K B H v s T → (∀ a ∈ T, H' a = H a) → Own K B' H' v s T
  | .p d, v, T, h, k => ⟨Dp.mono e h.1, h.2⟩
  | .ml t l, v, T, h, k => by
    obtain ⟨a, xs, rfl, rfl, h1, h2⟩ := h
    exact ⟨a, xs, rfl, rfl, by rw [k a (by simp)]; exact h1, DpAll.mono e h2⟩
  | .md t l, v, T, h, k => by
    obtain ⟨a, xs, rfl, rfl, h1, h2⟩ := h
    exact ⟨a, xs, rfl, rfl, by rw [k a (by simp)]; exact h1, KvD.mono e h2⟩
  | .mr t l, v, T, h, k => by
    obtain ⟨a, xs, Ts, rfl, rfl, h1, h2, h3⟩ := h
    exact ⟨a, xs, Ts, rfl, rfl, by rw [k a (by simp)]; exact h1, OwnL.keepA e h2 (fun b hb => k b (List.mem_cons_of_mem _ hb)), h3⟩
  | .ob t c ns l, v, T, h, k => by
    obtain ⟨a, dx, C, vs, Ts, rfl, rfl, h1, h2, h3, h4, h5, h6⟩ := h
    exact ⟨a, dx, C, vs, Ts, rfl, rfl, h1, by rw [k a (by simp)]; exact h2, h3, by rw [k dx (by simp)]; exact h4, OwnL.keepA e h5 (fun b hb => k b (List.mem_cons_of_mem _ (List.mem_cons_of_mem _ hb))), h6⟩
  | .ex c f, v, T, h, k => ⟨ExIs.mono e h.1, h.2⟩
  | .fd l, v, T, h, k => by
    obtain ⟨⟨a, ks, o, h1, h2, h3⟩, h4⟩ := h
    exact ⟨⟨a, ks, o, h1, e _ _ h2, KvD.mono e h3⟩, h4⟩
  | .hl _, v, T, h, k => h
theorem OwnL.keepA (e : Same B B') : ∀ {ss : List Sl} {vs : List V} {Ts : List (List Addr)}, OwnL K B H vs ss Ts → (∀ a ∈ Ts.flatten, H' a = H a) → OwnL K B' H' vs ss Ts
  | [], [], [], _, _ => True.intro
  | s :: ss, v :: vs, T :: Ts, h, k => ⟨Own.keepA e h.1 (fun a ha => k a (by rw [List.flatten_cons]; exact List.mem_append_left _ ha)), OwnL.keepA e h.2 (fun a ha => k a (by rw [List.flatten_cons]; exact List.mem_append_right _ ha))⟩
  | [], [], _ :: _, h, _ => h.elim
  | [], _ :: _, _, h, _ => h.elim
  | _ :: _, [], _, h, _ => h.elim
  | _ :: _, _ :: _, [], h, _ => h.elim
end
mutual
theorem Own.liveA : ∀ {s : Sl} {v : V} {T : List Addr}, Own K B H v s T → ∀ a ∈ T, H a ≠ none
  | .p d, v, T, h, b, hb => by rw [h.2] at hb; cases hb
  | .ml t l, v, T, h, b, hb => by
    obtain ⟨a, xs, rfl, rfl, h1, h2⟩ := h
    simp at hb; subst hb; rw [h1]; simp
  | .md t l, v, T, h, b, hb => by
    obtain ⟨a, xs, rfl, rfl, h1, h2⟩ := h
    simp at hb; subst hb; rw [h1]; simp
  | .mr t l, v, T, h, b, hb => by
    obtain ⟨a, xs, Ts, rfl, rfl, h1, h2, h3⟩ := h
    rcases List.mem_cons.mp hb with rfl | hb
    · rw [h1]; simp
    · exact OwnL.liveA h2 b hb
  | .ob t c ns l, v, T, h, b, hb => by
    obtain ⟨a, dx, C, vs, Ts, rfl, rfl, h1, h2, h3, h4, h5, h6⟩ := h
    rcases List.mem_cons.mp hb with rfl | hb
    · rw [h2]; simp
    · rcases List.mem_cons.mp hb with rfl | hb
      · rw [h4]; simp
      · exact OwnL.liveA h5 b hb
  | .ex c f, v, T, h, b, hb => by rw [h.2] at hb; cases hb
  | .fd l, v, T, h, b, hb => by rw [h.2] at hb; cases hb
  | .hl _, v, T, h, b, hb => by rw [show T = [] from h] at hb; cases hb
theorem OwnL.liveA : ∀ {ss : List Sl} {vs : List V} {Ts : List (List Addr)}, OwnL K B H vs ss Ts → ∀ a ∈ Ts.flatten, H a ≠ none
  | [], [], [], _, a, h => by simp at h
  | s :: ss, v :: vs, T :: Ts, g, a, h => by
    rw [List.flatten_cons, List.mem_append] at h
    rcases h with h | h
    · exact Own.liveA g.1 a h
    · exact OwnL.liveA g.2 a h
  | [], [], _ :: _, h, _, _ => h.elim
  | [], _ :: _, _, h, _, _ => h.elim
  | _ :: _, [], _, h, _, _ => h.elim
  | _ :: _, _ :: _, [], h, _, _ => h.elim
end
end
section
variable {K : PySem.W.Frag} {B B' H H' : Hp} {v : V} {s : Sl} {T : List Addr}
theorem Own.keep (h : Own K B H v s T) (e : Same B B') (k : ∀ a ∈ T, H' a = H a) : Own K B' H' v s T := Own.keepA e h k
theorem Own.live (h : Own K B H v s T) : ∀ a ∈ T, H a ≠ none := Own.liveA h
theorem Own.nodup (h : Own K B H v s T) : T.Nodup := by
  cases s with
  | p d => rw [h.2]; exact List.nodup_nil
  | ml t l => obtain ⟨a, xs, rfl, rfl, h1, h2⟩ := h; simp
  | md t l => obtain ⟨a, xs, rfl, rfl, h1, h2⟩ := h; simp
  | mr t l => obtain ⟨a, xs, Ts, rfl, rfl, h1, h2, h3⟩ := h; exact h3
  | ob t c ns l => obtain ⟨a, dx, C, vs, Ts, rfl, rfl, h1, h2, h3, h4, h5, h6⟩ := h; exact h6
  | ex c f => rw [h.2]; exact List.nodup_nil
  | fd l => rw [h.2]; exact List.nodup_nil
  | hl t => rw [show T = [] from h]; exact List.nodup_nil
theorem Own.bare (h : Own K B H v s T) : Own K B H v s.bare T := by cases s <;> exact h
theorem Own.mark {k : Nat} (h : Own K B H v s T) : Own K B H v (s.mark k) T := by cases s <;> exact h
theorem Sl.bare_tag (s : Sl) : s.bare.tag = none := by cases s <;> rfl
end

structure Good (K : PySem.W.Frag) (vs0 : List V) (B H : Hp) (σ : L2.St) (ρ : Env) (fs : Nat → List Addr) : Prop where
  ext : Same B H
  len : σ.length = ρ.length
  at_ : ∀ i s, ρ[i]? = some (some s) → ∃ v, σ[i]? = some (some v) ∧ Own K B H v s (fs i) ∧ (∀ k, s.tag = some k → vs0[k]? = some v)
  emp : ∀ i, (∀ s, ρ[i]? ≠ some (some s)) → fs i = []
  dis : ∀ i j a, a ∈ fs i → a ∈ fs j → i = j
  out : ∀ i a, a ∈ fs i → B a = none

abbrev InF (fs : Nat → List Addr) : Addr → Prop := fun a => ∃ i, a ∈ fs i
abbrev UnF (F : Addr → Prop) (T : List Addr) : Addr → Prop := fun a => F a ∨ a ∈ T
/-- from one moment to a later one: F may change, all else that stood stands -/
structure Fr (B H : Hp) (F : Addr → Prop) (B' H' : Hp) (F' : Addr → Prop) : Prop where
  bb : Same B B'
  keep : ∀ a, H a ≠ none → ¬ F a → H' a = H a
  live : ∀ a, H a ≠ none → H' a ≠ none
  own : ∀ a, F' a → F a ∨ H a = none
  bnew : ∀ a, H a ≠ none → ¬ F a → B a = none → B' a = none
section
variable {B B1 B2 B' H H1 H2 H' : Hp} {F F1 F2 F' G : Addr → Prop}
theorem Fr.refl (B H : Hp) (F : Addr → Prop) : Fr B H F B H F := ⟨Same.refl B, fun _ _ _ => rfl, fun _ h => h, fun _ h => Or.inl h, fun _ _ _ h => h⟩
theorem Fr.trans (x : Fr B H F B1 H1 F1) (y : Fr B1 H1 F1 B2 H2 F2) : Fr B H F B2 H2 F2 := by
  have nf : ∀ a, H a ≠ none → ¬ F a → ¬ F1 a := fun a h nf f1 => by
    rcases x.own a f1 with h2 | h2
    · exact nf h2
    · exact h h2
  refine ⟨x.bb.trans y.bb, fun a h n => ?_, fun a h => y.live a (x.live a h), fun a f => ?_, fun a h n b => y.bnew a (x.live a h) (nf a h n) (x.bnew a h n b)⟩
  · exact (y.keep a (x.live a h) (nf a h n)).trans (x.keep a h n)
  · rcases y.own a f with h2 | h2
    · exact x.own a h2
    · refine Or.inr ?_
      cases e : H a with
      | none => rfl
      | some o => exact absurd h2 (x.live a (by rw [e]; simp))
theorem Fr.weak (x : Fr B H F B' H' F') (hF : ∀ a, F a → G a) {G' : Addr → Prop} (hG : ∀ a, G' a → F' a ∨ G a ∨ H a = none) : Fr B H G B' H' G' := by
  refine ⟨x.bb, fun a h n => x.keep a h fun f => n (hF a f), x.live, fun a f => ?_, fun a h n b => x.bnew a h (fun f => n (hF a f)) b⟩
  rcases hG a f with h | h | h
  · rcases x.own a h with h | h
    · exact Or.inl (hF a h)
    · exact Or.inr h
  · exact Or.inl h
  · exact Or.inr h
/-- what stands by the way stands -/
theorem Fr.frame (x : Fr B H F B' H' F') (T : List Addr) : Fr B H (UnF F T) B' H' (UnF F' T) :=
  x.weak (fun a f => Or.inl f) fun a f => by
    rcases f with f | f
    · exact Or.inl f
    · exact Or.inr (Or.inl (Or.inr f))
theorem Fr.new {p : Addr} {o : HO} (h : H p = none) (hb : Same B H) : Fr B H (fun _ => False) (upd B p o) (upd H p o) (fun _ => False) := by
  have bp : B p = none := by
    cases e : B p with
    | none => rfl
    | some u => rw [hb p u e] at h; cases h
  have ne : ∀ a, H a ≠ none → a ≠ p := fun a ha e => ha (by rw [e]; exact h)
  refine ⟨fun a u e => ?_, fun a ha _ => upd_ne (ne a ha), fun a ha => by rw [upd_ne (ne a ha)]; exact ha, fun _ f => f.elim, fun a ha _ hB => by rw [upd_ne (ne a ha)]; exact hB⟩
  rw [upd_ne (ne_of_none e bp)]
  exact e
theorem same_upd {p : Addr} {o : HO} (hb : Same B H) : Same (upd B p o) (upd H p o) := fun a u e => by
  by_cases h : a = p
  · subst h
    rw [upd_same] at e ⊢
    exact e
  · rw [upd_ne h] at e ⊢
    exact hb a u e
/-- a new list that is not data yet -/
theorem Fr.newL {p : Addr} {o : HO} (h : H p = none) : Fr B H (fun _ => False) B (upd H p o) (fun a => a ∈ [p]) := by
  have ne : ∀ a, H a ≠ none → a ≠ p := fun a ha e => ha (by rw [e]; exact h)
  refine ⟨Same.refl B, fun a ha _ => upd_ne (ne a ha), fun a ha => by rw [upd_ne (ne a ha)]; exact ha, fun a f => ?_, fun a _ _ hB => hB⟩
  simp at f; subst f; exact Or.inr h
theorem Fr.sameH (x : Fr B H (fun _ => False) B' H' F') : Same H H' := fun a o e => by
  rw [x.keep a (by rw [e]; simp) (fun f => f)]
  exact e
end
section
variable {K : PySem.W.Frag} {vs0 : List V} {B H B' H' : Hp} {σ : L2.St} {ρ : Env} {fs : Nat → List Addr}
theorem Good.lives (g : Good K vs0 B H σ ρ fs) {i : Nat} {a : Addr} (h : a ∈ fs i) : H a ≠ none := by
  by_cases e : ∃ s, ρ[i]? = some (some s)
  · obtain ⟨s, e⟩ := e
    obtain ⟨v, _, o, _⟩ := g.at_ i s e
    exact o.live a h
  · rw [g.emp i (fun s q => e ⟨s, q⟩)] at h
    cases h
/-- something else happened -/
theorem Good.grow {F F' : Addr → Prop} (g : Good K vs0 B H σ ρ fs) (x : Fr B H F B' H' F') (n : ∀ a, InF fs a → ¬ F a) (e : Same B' H') : Good K vs0 B' H' σ ρ fs where
  ext := e
  len := g.len
  at_ := fun i s h => by
    obtain ⟨v, h1, h2, h3⟩ := g.at_ i s h
    exact ⟨v, h1, h2.keep x.bb fun a ha => x.keep a (g.lives ha) (n a ⟨i, ha⟩), h3⟩
  emp := g.emp
  dis := g.dis
  out := fun i a h => x.bnew a (g.lives h) (n a ⟨i, h⟩) (g.out i a h)
end

/-! ### what an expression hands back -/
/-- v is the k-th part of what stands at v0 -/
def Kid (H : Hp) (v0 : V) (s : Sl) (k : Nat) (v : V) : Prop := match s with
  | .mr _ _ => ∃ a xs, v0 = .ref a ∧ H a = some (.lst xs) ∧ xs[k]? = some v
  | .ob _ _ _ _ => ∃ a C dx fs, v0 = .ref a ∧ H a = some (.ins C dx fs) ∧ (fs.map (·.2))[k]? = some v
  | _ => False
theorem Kid.keep {K : PySem.W.Frag} {B H H' : Hp} {v0 v : V} {s : Sl} {k : Nat} {T : List Addr} (o : Own K B H v0 s T) (h : Kid H v0 s k v) (e : ∀ a ∈ T, H' a = H a) : Kid H' v0 s k v := by
  cases s with
  | mr t l =>
    obtain ⟨a, xs, rfl, h1, h2⟩ := h
    obtain ⟨a', xs', Ts, q1, rfl, _⟩ := o
    cases q1
    exact ⟨a, xs, rfl, by rw [e a (by simp)]; exact h1, h2⟩
  | ob t c ns l =>
    obtain ⟨a, C, dx, fs, rfl, h1, h2⟩ := h
    obtain ⟨a', dx', C', vs, Ts, q1, rfl, _⟩ := o
    cases q1
    exact ⟨a, C, dx, fs, rfl, by rw [e a (by simp)]; exact h1, h2⟩
  | p d => exact h.elim
  | ml t l => exact h.elim
  | md t l => exact h.elim
  | ex c f => exact h.elim
  | fd l => exact h.elim
  | hl t => exact h.elim
def RsOk (K : PySem.W.Frag) (B H : Hp) (σ : L2.St) (fs : Nat → List Addr) (v : V) : Rs → List Addr → Prop
  | .own s, T => Own K B H v s T ∧ s.tag = none ∧ (∀ a ∈ T, B a = none ∧ ∀ i, a ∉ fs i)
  | .bor i, T => σ[i]? = some (some v) ∧ T = []
  | .lent i s k, T => (∃ v0, σ[i]? = some (some v0) ∧ Own K B H v0 s T ∧ Kid H v0 s k v) ∧ (∀ a ∈ T, B a = none ∧ ∀ i, a ∉ fs i)
def RsAll (K : PySem.W.Frag) (B H : Hp) (σ : L2.St) (fs : Nat → List Addr) : List V → List Rs → List (List Addr) → Prop
  | [], [], [] => True
  | v :: vs, r :: rs, T :: Ts => RsOk K B H σ fs v r T ∧ RsAll K B H σ fs vs rs Ts
  | _, _, _ => False
section
variable {K : PySem.W.Frag} {B H B' H' : Hp} {σ : L2.St} {fs fs' : Nat → List Addr} {v : V} {r : Rs} {T : List Addr}
theorem RsOk.live (h : RsOk K B H σ fs v r T) : ∀ a ∈ T, H a ≠ none := by
  cases r with
  | own s => exact h.1.live
  | bor i => rw [h.2]; intro a ha; cases ha
  | lent i s k => obtain ⟨⟨v0, _, o, _⟩, _⟩ := h; exact o.live
theorem RsOk.nodup (h : RsOk K B H σ fs v r T) : T.Nodup := by
  cases r with
  | own s => exact h.1.nodup
  | bor i => rw [h.2]; exact List.nodup_nil
  | lent i s k => obtain ⟨⟨v0, _, o, _⟩, _⟩ := h; exact o.nodup
theorem RsOk.off (h : RsOk K B H σ fs v r T) : ∀ a ∈ T, ¬ InF fs a := by
  cases r with
  | own s => intro a ha ⟨i, hi⟩; exact (h.2.2 a ha).2 i hi
  | bor i => rw [h.2]; intro a ha; cases ha
  | lent i s k => intro a ha ⟨i, hi⟩; exact (h.2 a ha).2 i hi
theorem RsOk.keep {F F' : Addr → Prop} (h : RsOk K B H σ fs v r T) (x : Fr B H F B' H' F') (n : ∀ a ∈ T, ¬ F a) (hf : ∀ a, InF fs' a → F' a) : RsOk K B' H' σ fs' v r T := by
  cases r with
  | own s =>
    refine ⟨h.1.keep x.bb fun a ha => x.keep a (h.1.live a ha) (n a ha), h.2.1, fun a ha => ⟨x.bnew a (h.1.live a ha) (n a ha) (h.2.2 a ha).1, fun i hi => ?_⟩⟩
    rcases x.own a (hf a ⟨i, hi⟩) with q | q
    · exact n a ha q
    · exact h.1.live a ha q
  | bor i => exact h
  | lent i s k =>
    obtain ⟨⟨v0, h1, o, kd⟩, h2⟩ := h
    refine ⟨⟨v0, h1, o.keep x.bb fun a ha => x.keep a (o.live a ha) (n a ha), kd.keep o fun a ha => x.keep a (o.live a ha) (n a ha)⟩, fun a ha => ⟨x.bnew a (o.live a ha) (n a ha) (h2 a ha).1, fun i hi => ?_⟩⟩
    rcases x.own a (hf a ⟨i, hi⟩) with q | q
    · exact n a ha q
    · exact o.live a ha q
theorem RsAll.live : ∀ {vs : List V} {rs : List Rs} {Ts : List (List Addr)}, RsAll K B H σ fs vs rs Ts → ∀ a ∈ Ts.flatten, H a ≠ none
  | [], [], [], _, a, h => by simp at h
  | v :: vs, r :: rs, T :: Ts, g, a, h => by
    rw [List.flatten_cons, List.mem_append] at h
    rcases h with h | h
    · exact g.1.live a h
    · exact RsAll.live g.2 a h
  | [], [], _ :: _, g, _, _ => g.elim
  | [], _ :: _, _, g, _, _ => g.elim
  | _ :: _, [], _, g, _, _ => g.elim
  | _ :: _, _ :: _, [], g, _, _ => g.elim
theorem RsAll.off : ∀ {vs : List V} {rs : List Rs} {Ts : List (List Addr)}, RsAll K B H σ fs vs rs Ts → ∀ a ∈ Ts.flatten, ¬ InF fs a
  | [], [], [], _, a, h => by simp at h
  | v :: vs, r :: rs, T :: Ts, g, a, h => by
    rw [List.flatten_cons, List.mem_append] at h
    rcases h with h | h
    · exact g.1.off a h
    · exact RsAll.off g.2 a h
  | [], [], _ :: _, g, _, _ => g.elim
  | [], _ :: _, _, g, _, _ => g.elim
  | _ :: _, [], _, g, _, _ => g.elim
  | _ :: _, _ :: _, [], g, _, _ => g.elim
theorem RsAll.keep {F F' : Addr → Prop} (x : Fr B H F B' H' F') (hf : ∀ a, InF fs' a → F' a) : ∀ {vs : List V} {rs : List Rs} {Ts : List (List Addr)}, RsAll K B H σ fs vs rs Ts → (∀ a ∈ Ts.flatten, ¬ F a) → RsAll K B' H' σ fs' vs rs Ts
  | [], [], [], _, _ => True.intro
  | v :: vs, r :: rs, T :: Ts, g, n =>
    ⟨g.1.keep x (fun a ha => n a (by rw [List.flatten_cons]; exact List.mem_append_left _ ha)) hf, RsAll.keep x hf g.2 fun a ha => n a (by rw [List.flatten_cons]; exact List.mem_append_right _ ha)⟩
  | [], [], _ :: _, g, _ => g.elim
  | [], _ :: _, _, g, _ => g.elim
  | _ :: _, [], _, g, _ => g.elim
  | _ :: _, _ :: _, [], g, _ => g.elim
end

/-! ### the readings that a step of data gives -/
section
variable (K : PySem.W.Frag) (vs0 : List V)
def rdE (f : M Rs) : TE := fun σ H Q => ∃ B ρ fs, Good K vs0 B H σ ρ fs ∧ ∃ r ρ', f ρ = some (.ok r ρ') ∧
  ∀ v B' H' fs' T, Fr B H (InF fs) B' H' (UnF (InF fs') T) → Good K vs0 B' H' σ ρ' fs' → RsOk K B' H' σ fs' v r T → Q v H'
def rdA (f : M (List Rs)) : TA := fun σ H Q => ∃ B ρ fs, Good K vs0 B H σ ρ fs ∧ ∃ rs ρ', f ρ = some (.ok rs ρ') ∧
  ∀ vs B' H' fs' Ts, Fr B H (InF fs) B' H' (UnF (InF fs') Ts.flatten) → Good K vs0 B' H' σ ρ' fs' → RsAll K B' H' σ fs' vs rs Ts → Ts.flatten.Nodup → Q vs H'
def rdT (f : M Bool) : TT := fun σ H Q => ∃ B ρ fs, Good K vs0 B H σ ρ fs ∧ ∃ b ρ', f ρ = some (.ok b ρ') ∧
  ∀ B' H' fs', Fr B H (InF fs) B' H' (InF fs') → Good K vs0 B' H' σ ρ' fs' → Q b H'
def rdS (g : M Fl) : TS := fun D σ H => ∃ B ρ fs, Good K vs0 B H σ ρ fs ∧ ∃ fl ρ', g ρ = some (.ok fl ρ') ∧
  match fl with
  | .nx => ∀ σ' B' H' fs', Fr B H (InF fs) B' H' (InF fs') → Good K vs0 B' H' σ' ρ' fs' → D.nx σ' H'
  | .bk => ∀ σ' B' H' fs', Fr B H (InF fs) B' H' (InF fs') → Good K vs0 B' H' σ' ρ' fs' → D.bk σ' H'
  | .ct => ∀ σ' B' H' fs', Fr B H (InF fs) B' H' (InF fs') → Good K vs0 B' H' σ' ρ' fs' → D.ct σ' H'
  | .rt s => ∀ v σ' B' H' fs' T, Fr B H (InF fs) B' H' (UnF (InF fs') T) → Good K vs0 B' H' σ' ρ' fs' → RsOk K B' H' σ' fs' v (.own s) T → D.rt v H'
end

/-! ### names and constants -/
def eName (i : Nat) : M Rs := fun ρ => match ρ[i]? with
  | some (some (.p d)) => some (.ok (.own (.p d)) ρ)
  | some (some (.ex c f)) => some (.ok (.own (.ex c f)) ρ)
  | some (some (.fd l)) => some (.ok (.own (.fd l)) ρ)
  | some (some (.hl _)) => none
  | some (some _) => some (.ok (.bor i) ρ)
  | _ => none
def eC (d : D) : M Rs := fun ρ => some (.ok (.own (.p d)) ρ)
section
variable {X : Cx} {vs0 : List V}
theorem fr_unr {B H : Hp} {fs : Nat → List Addr} : Fr B H (InF fs) B H (UnF (InF fs) []) := (Fr.refl B H (InF fs)).weak (fun _ h => h) fun a h => by
  rcases h with h | h
  · exact Or.inl h
  · cases h
theorem de_var {i : Nat} {e : Expr} (h : PE X e (tVar i)) : PE X e (rdE X.K vs0 (eName i)) := PE.imp h fun σ H Q q => by
  obtain ⟨B, ρ, fs, g, r, ρ', e1, k⟩ := q
  unfold eName at e1
  split at e1
  · rename_i d e2
    cases e1
    obtain ⟨v, h1, h2, _⟩ := g.at_ i _ e2
    exact ⟨v, h1, k v B H fs [] fr_unr g ⟨⟨h2.1, rfl⟩, rfl, fun a ha => nomatch ha⟩⟩
  · rename_i c f e2
    cases e1
    obtain ⟨v, h1, h2, _⟩ := g.at_ i _ e2
    exact ⟨v, h1, k v B H fs [] fr_unr g ⟨⟨h2.1, rfl⟩, rfl, fun a ha => nomatch ha⟩⟩
  · rename_i l e2
    cases e1
    obtain ⟨v, h1, h2, _⟩ := g.at_ i _ e2
    exact ⟨v, h1, k v B H fs [] fr_unr g ⟨⟨h2.1, rfl⟩, rfl, fun a ha => nomatch ha⟩⟩
  · cases e1
  · rename_i s _ _ _ _ e2
    cases e1
    obtain ⟨v, h1, h2, _⟩ := g.at_ i _ e2
    exact ⟨v, h1, k v B H fs [] fr_unr g ⟨h1, rfl⟩⟩
  · cases e1
theorem de_c {e : Expr} {v : V} {d : D} (h : PE X e (tC v)) (hd : ∀ B, Dp X.K B v d) : PE X e (rdE X.K vs0 (eC d)) := PE.imp h fun σ H Q q => by
  obtain ⟨B, ρ, fs, g, r, ρ', e1, k⟩ := q
  cases e1
  exact k v B H fs [] fr_unr g ⟨⟨hd B, rfl⟩, rfl, fun a ha => nomatch ha⟩
theorem de_int {i j pos} : PE X (.Constant (.int i) j pos) (rdE X.K vs0 (eC (.int i))) := de_c pe_int fun _ => .int i
theorem de_bl {b j pos} : PE X (.Constant (.bool b) j pos) (rdE X.K vs0 (eC (.bool b))) := de_c pe_bl fun _ => .bl b
theorem de_non {j pos} : PE X (.Constant .none j pos) (rdE X.K vs0 (eC .none)) := de_c pe_non fun _ => .non
theorem de_str {x j pos} : PE X (.Constant (.str x) j pos) (rdE X.K vs0 (eC (.str x))) := de_c pe_str fun _ => .str x
end

/-! ### arguments -/
def aNil : M (List Rs) := M.ret []
def aCons (f : M Rs) (g : M (List Rs)) : M (List Rs) := M.bind f fun r => M.bind g fun rs => M.ret (r :: rs)
section
variable {X : Cx} {vs0 : List V} {K : PySem.W.Frag}
theorem da_nil : PA X [] (rdA X.K vs0 aNil) := PA.imp pa_nil fun σ H Q q => by
  obtain ⟨B, ρ, fs, g, r, ρ', e1, k⟩ := q
  cases e1
  exact k [] B H fs [] fr_unr g True.intro List.nodup_nil
theorem rd_cons {fe : M Rs} {fa : M (List Rs)} {σ : L2.St} {H : Hp} {Q : List V → Hp → Prop} (q : rdA K vs0 (aCons fe fa) σ H Q) :
    rdE K vs0 fe σ H fun x H1 => rdA K vs0 fa σ H1 fun xs H2 => Q (x :: xs) H2 := by
  obtain ⟨B, ρ, fs, g, rs, ρ', e1, k⟩ := q
  obtain ⟨r, ρ1, e2, e3⟩ := M.bind_ok e1
  obtain ⟨rr, ρ2, e4, e5⟩ := M.bind_ok e3
  cases e5
  refine ⟨B, ρ, fs, g, r, ρ1, e2, fun v B1 H1 fs1 T1 fr1 g1 ok1 => ⟨B1, ρ1, fs1, g1, rr, ρ', e4, fun vs B2 H2 fs2 Ts fr2 g2 ok2 nd2 => ?_⟩⟩
  have n1 : ∀ a ∈ T1, ¬ InF fs1 a := ok1.off
  refine k (v :: vs) B2 H2 fs2 (T1 :: Ts) ?_ g2 ⟨ok1.keep fr2 n1 fun a h => Or.inl h, ok2⟩ ?_
  · refine fr1.trans ((fr2.frame T1).weak (fun a h => h) fun a h => ?_)
    rw [List.flatten_cons] at h
    rcases h with h | h
    · exact Or.inl (Or.inl (Or.inl h))
    · rw [List.mem_append] at h
      rcases h with h | h
      · exact Or.inl (Or.inr h)
      · exact Or.inl (Or.inl (Or.inr h))
  · rw [List.flatten_cons, List.nodup_append]
    refine ⟨ok1.nodup, nd2, fun a ha b hb e => ?_⟩
    subst e
    rcases fr2.own a (Or.inr hb) with q | q
    · exact n1 a ha q
    · exact ok1.live a ha q
theorem da_cons {e : Expr} {es : List Expr} {fe : M Rs} {fa : M (List Rs)} (he : PE X e (rdE X.K vs0 fe)) (ha : PA X es (rdA X.K vs0 fa)) (hs : starEach (e :: es) X.env = (false, eval e X.env) :: starEach es X.env := by rfl) :
    PA X (e :: es) (rdA X.K vs0 (aCons fe fa)) := PA.imp (pa_cons he ha hs) fun σ H Q q => rd_cons q
end

/-! ### operations on values -/
/-- the reading r of an operation on values does what op does with their data -/
def OpOk (K : PySem.W.Frag) (r : List V → Hp → VK → Prop) (op : List Rs → M Rs) : Prop :=
  ∀ (vs0 : List V) (σ : L2.St) (B H : Hp) (ρ : Env) (fs : Nat → List Addr) (vs : List V) (rs : List Rs) (Ts : List (List Addr)) (Q : VK), Good K vs0 B H σ ρ fs → RsAll K B H σ fs vs rs Ts → Ts.flatten.Nodup →
    ∀ r' ρ', op rs ρ = some (.ok r' ρ') →
    (∀ v B' H' fs' T, Fr B H (UnF (InF fs) Ts.flatten) B' H' (UnF (InF fs') T) → Good K vs0 B' H' σ ρ' fs' → RsOk K B' H' σ fs' v r' T → Q v H') → r vs H Q
section
variable {X : Cx} {vs0 : List V} {K : PySem.W.Frag} {r : List V → Hp → VK → Prop} {op : List Rs → M Rs}
theorem rd_op {fa : M (List Rs)} (ho : OpOk K r op) {σ : L2.St} {H : Hp} {Q : VK} (q : rdE K vs0 (M.bind fa op) σ H Q) : rdA K vs0 fa σ H fun vs H1 => r vs H1 Q := by
  obtain ⟨B, ρ, fs, g, r', ρ', e1, k⟩ := q
  obtain ⟨rs, ρ1, e2, e3⟩ := M.bind_ok e1
  refine ⟨B, ρ, fs, g, rs, ρ1, e2, fun vs B1 H1 fs1 Ts fr1 g1 ok1 nd1 => ?_⟩
  exact ho vs0 σ B1 H1 ρ1 fs1 vs rs Ts Q g1 ok1 nd1 r' ρ' e3 fun v B2 H2 fs2 T fr2 g2 ok2 => k v B2 H2 fs2 T (fr1.trans fr2) g2 ok2
theorem rdA_nil {σ : L2.St} {H : Hp} {Q : List V → Hp → Prop} (q : rdA K vs0 aNil σ H Q) : Q [] H := by
  obtain ⟨B, ρ, fs, g, r, ρ', e1, k⟩ := q
  cases e1
  exact k [] B H fs [] fr_unr g True.intro List.nodup_nil
/-- two operands -/
def r2 (r : R2) : List V → Hp → VK → Prop := fun vs H Q => ∃ x y, vs = [x, y] ∧ r x y H Q
def eBin (fa fb : M Rs) (op : List Rs → M Rs) : M Rs := M.bind (aCons fa (aCons fb aNil)) op
theorem rdE_imp {f : M Rs} {σ : L2.St} {H : Hp} {Q Q' : VK} (q : rdE K vs0 f σ H Q) (i : ∀ v H', Q v H' → Q' v H') : rdE K vs0 f σ H Q' := by
  obtain ⟨B, ρ, fs, g, r, ρ', e1, k⟩ := q
  exact ⟨B, ρ, fs, g, r, ρ', e1, fun v B' H' fs' T a b c => i _ _ (k v B' H' fs' T a b c)⟩
theorem rd_bin {fa fb : M Rs} {r : R2} (ho : OpOk K (r2 r) op) {σ : L2.St} {H : Hp} {Q : VK} (q : rdE K vs0 (eBin fa fb op) σ H Q) : tOp r (rdE K vs0 fa) (rdE K vs0 fb) σ H Q := by
  refine rdE_imp (rd_cons (rd_op ho q)) fun x H1 q1 => rdE_imp (rd_cons q1) fun y H2 q2 => ?_
  obtain ⟨x', y', e, q3⟩ := rdA_nil q2
  cases e
  exact q3
theorem de_op {a b : Expr} {fa fb : M Rs} {oper : Operator} {r : R2} {pos : Pos} (ho : OpR X (binaryOp oper) r) (hp : OpOk X.K (r2 r) op) (ha : PE X a (rdE X.K vs0 fa)) (hb : PE X b (rdE X.K vs0 fb)) : PE X (.BinOp a oper b pos) (rdE X.K vs0 (eBin fa fb op)) :=
  PE.imp (pe_op ho ha hb) fun _ _ _ q => rd_bin hp q
theorem de_cmp {a b : Expr} {fa fb : M Rs} {oper : CmpOp} {r : R2} {pos : Pos} (ho : OpR X (compareOp oper) r) (hp : OpOk X.K (r2 r) op) (ha : PE X a (rdE X.K vs0 fa)) (hb : PE X b (rdE X.K vs0 fb)) (hm : behindInMarks oper b = false) : PE X (.Compare a [oper] [b] pos) (rdE X.K vs0 (eBin fa fb op)) :=
  PE.imp (pe_cmpR ho ha hb hm) fun _ _ _ q => rd_bin hp q
theorem de_ix {a b : Expr} {fa fb : M Rs} {r : R2} {pos : Pos} (ho : IxR X r) (hp : OpOk X.K (r2 r) op) (ha : PE X a (rdE X.K vs0 fa)) (hb : PE X b (rdE X.K vs0 fb)) (hs : PlainIx b) : PE X (.Subscript a b pos) (rdE X.K vs0 (eBin fa fb op)) :=
  PE.imp (pe_ix ho ha hb hs) fun _ _ _ q => rd_bin hp q
end
section
variable {X : Cx} {vs0 : List V} {r : List V → Hp → VK → Prop} {op : List Rs → M Rs} {x : Str} {p pos : Pos} {e : Expr} {es : List Expr} {id T : String} {fa : M (List Rs)}
theorem de_callB (hc : CallR X (.builtin id) r) (hp : OpOk X.K r op) (hg : Gl X x) (hm : X.mg x = none) (hv : bootBuiltins x = some (.builtin id)) (ha : PA X (e :: es) (rdA X.K vs0 fa)) (hn : x ≠ "__name__" := by decide) (hdb : (x == ("__debug__" : Str)) = false := by decide)
    (he : starEach (e :: es) X.env = (false, eval e X.env) :: starEach es X.env := by rfl) (hpl : (backTo pos (starEach es X.env)).any (·.1) = false := by rfl) : PE X (.Call (.Name x p) (e :: es) [] pos) (rdE X.K vs0 (M.bind fa op)) :=
  PE.imp (pe_callB hc hg hm hv ha hn hdb he hpl) fun _ _ _ q => rd_op hp q
theorem de_callTy (hc : CallR X (.type T) r) (hp : OpOk X.K r op) (hg : Gl X x) (hm : X.mg x = none) (hv : bootBuiltins x = some (.type T)) (ha : PA X (e :: es) (rdA X.K vs0 fa)) (hn : x ≠ "__name__" := by decide) (hdb : (x == ("__debug__" : Str)) = false := by decide)
    (he : starEach (e :: es) X.env = (false, eval e X.env) :: starEach es X.env := by rfl) (hpl : (backTo pos (starEach es X.env)).any (·.1) = false := by rfl) : PE X (.Call (.Name x p) (e :: es) [] pos) (rdE X.K vs0 (M.bind fa op)) :=
  PE.imp (pe_callTy hc hg hm hv ha hn hdb he hpl) fun _ _ _ q => rd_op hp q
end
end Pd

set_option Elab.async false
set_option linter.all false
set_option maxRecDepth 100000
set_option maxHeartbeats 1000000
namespace Pd
open PySem PySem.Spec PyProof.Rows L2

/-! ### operands that are looked at -/
/-- a datum at a value, its own list perhaps not data yet -/
def ShD (K : PySem.W.Frag) (B H : Hp) (v : V) : D → Prop
  | .list l => ∃ a xs, v = .ref a ∧ SqL K H a xs ∧ DpAll K B xs l
  | d => Dp K B v d
def ShAll (K : PySem.W.Frag) (B H : Hp) : List V → List D → Prop
  | [], [] => True
  | v :: vs, d :: ds => ShD K B H v d ∧ ShAll K B H vs ds
  | _, _ => False
section
variable {K : PySem.W.Frag} {B H : Hp} {v : V} {d : D}
theorem ShD.of (e : Same B H) (h : Dp K B v d) : ShD K B H v d := by
  cases d with
  | list l =>
    cases h with
    | lst h1 h2 => exact ⟨_, _, rfl, sql_mono e h1, h2⟩
  | _ => exact h
theorem ShD.dp (e : Same B H) (h : ShD K B H v d) : Dp K H v d := by
  cases d with
  | list l =>
    obtain ⟨a, xs, rfl, h1, h2⟩ := h
    exact .lst h1 (DpAll.mono e h2)
  | _ => exact Dp.mono e h
theorem ShAll.dp (e : Same B H) : ∀ {vs : List V} {ds : List D}, ShAll K B H vs ds → DpAll K H vs ds
  | [], [], _ => .nil
  | v :: vs, d :: ds, h => .cons (ShD.dp e h.1) (ShAll.dp e h.2)
  | [], _ :: _, h => h.elim
  | _ :: _, [], h => h.elim
theorem ShD.tup {xs : List D} (h : ShD K B H v (.tuple xs)) : ∃ a vs, v = .ref a ∧ SqT K B a vs ∧ DpAll K B vs xs := by
  have h' : Dp K B v (.tuple xs) := h
  cases h' with
  | tup h1 h2 => exact ⟨_, _, rfl, h1, h2⟩
theorem ShD.int {i : Int} (h : ShD K B H v (.int i)) : v = .int i := by
  have h' : Dp K B v (.int i) := h
  cases h'; rfl
theorem ShD.str {i : Str} (h : ShD K B H v (.str i)) : v = .str i := by
  have h' : Dp K B v (.str i) := h
  cases h'; rfl
theorem ShD.bool {i : Bool} (h : ShD K B H v (.bool i)) : v = .bl i := by
  have h' : Dp K B v (.bool i) := h
  cases h'; rfl
theorem ShD.non (h : ShD K B H v .none) : v = .non := by
  have h' : Dp K B v .none := h
  cases h'; rfl
theorem ShAll.one {vs : List V} {a : D} (h : ShAll K B H vs [a]) : ∃ x, vs = [x] ∧ ShD K B H x a := by
  match vs, h with
  | [x], h => exact ⟨x, rfl, h.1⟩
theorem ShAll.two {vs : List V} {a b : D} (h : ShAll K B H vs [a, b]) : ∃ x y, vs = [x, y] ∧ ShD K B H x a ∧ ShD K B H y b := by
  match vs, h with
  | [x, y], h => exact ⟨x, y, rfl, h.1, h.2.1⟩
theorem ShAll.three {vs : List V} {a b c : D} (h : ShAll K B H vs [a, b, c]) : ∃ x y z, vs = [x, y, z] ∧ ShD K B H x a ∧ ShD K B H y b ∧ ShD K B H z c := by
  match vs, h with
  | [x, y, z], h => exact ⟨x, y, z, rfl, h.1, h.2.1, h.2.2.1⟩
end
def Rs.view : Rs → Env → Option D
  | .own (.p d), _ => some d
  | .own (.ml _ l), _ => some (.list l)
  | .own _, _ => none
  | .bor i, ρ => match ρ[i]? with
    | some (some (.ml _ l)) => some (.list l)
    | some (some (.p d)) => some d
    | _ => none
  | .lent _ _ _, _ => none
def viewAll : List Rs → Env → Option (List D)
  | [], _ => some []
  | r :: rs, ρ => match r.view ρ with
    | some d => match viewAll rs ρ with
      | some ds => some (d :: ds)
      | none => none
    | none => none
section
variable {K : PySem.W.Frag} {vs0 : List V} {B H : Hp} {σ : L2.St} {ρ : Env} {fs : Nat → List Addr}
theorem view_ok {v : V} {r : Rs} {T : List Addr} {d : D} (g : Good K vs0 B H σ ρ fs) (h : RsOk K B H σ fs v r T) (e : r.view ρ = some d) : ShD K B H v d := by
  cases r with
  | own s =>
    cases s with
    | p d' => cases e; exact ShD.of g.ext h.1.1
    | ml t l =>
      cases e
      obtain ⟨⟨a, xs, rfl, _, h1, h2⟩, _⟩ := h
      exact ⟨a, xs, rfl, SqL.of h1, h2⟩
    | md t l => cases e
    | mr t l => cases e
    | ob t c ns l => cases e
    | ex c f => cases e
    | fd l => cases e
    | hl t => cases e
  | lent i s k => cases e
  | bor i =>
    unfold Rs.view at e
    dsimp only at e
    split at e
    · rename_i t l e2
      cases e
      obtain ⟨v', h1, ⟨a, xs, rfl, _, h2, h3⟩, _⟩ := g.at_ i _ e2
      have hh : σ[i]? = some (some v) ∧ T = [] := h
      rw [h1] at hh
      cases hh.1
      exact ⟨a, xs, rfl, SqL.of h2, h3⟩
    · rename_i d' e2
      cases e
      obtain ⟨v', h1, h2, _⟩ := g.at_ i _ e2
      have hh : σ[i]? = some (some v) ∧ T = [] := h
      rw [h1] at hh
      cases hh.1
      exact ShD.of g.ext h2.1
    · cases e
theorem viewAll_ok (g : Good K vs0 B H σ ρ fs) : ∀ {vs : List V} {rs : List Rs} {Ts : List (List Addr)} {ds : List D}, RsAll K B H σ fs vs rs Ts → viewAll rs ρ = some ds → ShAll K B H vs ds
  | [], [], [], ds, _, e => by cases e; exact True.intro
  | v :: vs, r :: rs, T :: Ts, ds, h, e => by
    unfold viewAll at e
    split at e
    · rename_i d e1
      split at e
      · rename_i ds' e2
        cases e
        exact ⟨view_ok g h.1 e1, viewAll_ok g h.2 e2⟩
      · cases e
    · cases e
  | [], [], _ :: _, _, g, _ => g.elim
  | [], _ :: _, _, _, g, _ => g.elim
  | _ :: _, [], _, _, g, _ => g.elim
  | _ :: _, _ :: _, [], _, g, _ => g.elim
end

/-- an operation's result: data, or a new list -/
inductive Rd' where
  | pd (d : D)
  | nl (l : List D)
def Rd'.rs : Rd' → Rs
  | .pd d => .own (.p d)
  | .nl l => .own (.ml none l)
def ResK (K : PySem.W.Frag) (B H : Hp) (Q : VK) : Rd' → Prop
  | .pd d => ∀ v B' H', Fr B H (fun _ => False) B' H' (fun _ => False) → Same B' H' → Dp K B' v d → Q v H'
  | .nl l => ∀ p xs, H p = none → DpAll K B xs l → Q (.ref p) (upd H p (.lst xs))
def opG (pf : List D → Option Rd') : List Rs → M Rs := fun rs ρ => match viewAll rs ρ with
  | some ds => match pf ds with
    | some res => some (.ok res.rs ρ)
    | none => none
  | none => none
theorem opG_ok {K : PySem.W.Frag} {r : List V → Hp → VK → Prop} {pf : List D → Option Rd'} (h : ∀ B H vs ds res Q, Same B H → ShAll K B H vs ds → pf ds = some res → ResK K B H Q res → r vs H Q) : OpOk K r (opG pf) := by
  intro vs0 σ B H ρ fs vs rs Ts Q g ok nd r' ρ' e k
  unfold opG at e
  split at e
  · rename_i ds e1
    split at e
    · rename_i res e2
      cases e
      refine h B H vs ds res Q g.ext (viewAll_ok g ok e1) e2 ?_
      cases res with
      | pd d =>
        intro v B' H' fr ex hd
        refine k v B' H' fs [] (fr.weak (fun _ f => f.elim) fun a f => ?_) (g.grow fr (fun _ _ f => f) ex) ⟨⟨hd, rfl⟩, rfl, fun a ha => nomatch ha⟩
        rcases f with f | f
        · exact Or.inr (Or.inl (Or.inl f))
        · cases f
      | nl l =>
        intro p xs hp hd
        have fr := Fr.newL (B := B) (o := HO.lst xs) hp
        refine k (.ref p) B _ fs [p] (fr.weak (fun _ f => f.elim) fun a f => ?_) (g.grow fr (fun _ _ f => f) (g.ext.trans fr.sameH)) ⟨⟨p, xs, rfl, rfl, upd_same, hd⟩, rfl, fun a ha => ?_⟩
        · rcases f with f | f
          · exact Or.inr (Or.inl (Or.inl f))
          · exact Or.inl f
        · simp at ha
          subst ha
          refine ⟨?_, fun i hi => g.lives hi hp⟩
          cases e : B a with
          | none => rfl
          | some u => rw [g.ext a u e] at hp; cases hp
    · cases e
  · cases e
section
variable {K : PySem.W.Frag} {B H : Hp} {Q : VK}
theorem ResK.same {d : D} (k : ResK K B H Q (.pd d)) (e : Same B H) {v : V} (h : Dp K B v d) : Q v H := k v B H (Fr.refl B H _) e h
theorem ResK.int {i : Int} (k : ResK K B H Q (.pd (.int i))) (e : Same B H) : Q (.int i) H := k.same e (.int i)
theorem ResK.str {i : Str} (k : ResK K B H Q (.pd (.str i))) (e : Same B H) : Q (.str i) H := k.same e (.str i)
theorem ResK.bool {i : Bool} (k : ResK K B H Q (.pd (.bool i))) (e : Same B H) : Q (.bl i) H := k.same e (.bl i)
theorem ResK.non (k : ResK K B H Q (.pd .none)) (e : Same B H) : Q .non H := k.same e .non
theorem ResK.tup {l : List D} (k : ResK K B H Q (.pd (.tuple l))) (e : Same B H) {p : Addr} {xs : List V} (hp : H p = none) (h : DpAll K B xs l) : Q (.ref p) (upd H p (.tup xs)) :=
  k _ _ _ (Fr.new hp e) (same_upd e) (.tup (SqT.of upd_same) (DpAll.mono (Fr.new hp e).bb h))
end
/-! ### or: several kinds of operands -/
theorem r2_or {r r' : R2} {vs : List V} {H : Hp} {Q : VK} : r2 (fun x y H Q => r x y H Q ∨ r' x y H Q) vs H Q ↔ r2 r vs H Q ∨ r2 r' vs H Q := by
  constructor
  · rintro ⟨x, y, rfl, h | h⟩
    · exact Or.inl ⟨x, y, rfl, h⟩
    · exact Or.inr ⟨x, y, rfl, h⟩
  · rintro (⟨x, y, rfl, h⟩ | ⟨x, y, rfl, h⟩)
    · exact ⟨x, y, rfl, Or.inl h⟩
    · exact ⟨x, y, rfl, Or.inr h⟩

/-! ### + - * // % & << -/
section
variable {prog : Program} {w : World} {A : Around} {E : Value → Shared → Prop} {s : Shared}
theorem add_listsH {l b : Addr} {vs ws : List Value} {Q : Value → Shared → Prop} (hl : s.heap.IsList l vs.toArray) (hb : s.heap.IsList b ws.toArray)
    (h : Q (.ref s.heap.objs.size) { s with heap := s.heap.push { cls := .type "list", data := .seq (vs ++ ws).toArray } }) (hsz : vs.length + ws.length ≤ sizeLine) :
    wpAny (model prog w) A (binaryOp .Add (.ref l) (.ref b)) Q E s := by
  obtain ⟨⟨cls, dd, data, sl⟩, ho, hc, n, hd⟩ := id hl
  obtain ⟨⟨cls2, dd2, data2, sl2⟩, ho2, hc2, n2, hd2⟩ := id hb
  simp only at hc hd hc2 hd2
  subst hc hd hc2 hd2
  have e : vs.toArray ++ ws.toArray = (vs ++ ws).toArray := by simp
  refine concat_meets ⟨_, ho, rfl⟩ ⟨_, ho2, rfl⟩ noFill_list_add seq_list_add PySem.F.slot_list_add PySem.F.entry_list_add (PySem.F.args_list_add_2 _ _) (list_addW l b vs.toArray ws.toArray n n2 dd dd2 sl sl2 (by simpa using hsz)) ⟨ho, ho2, ?_⟩
  rw [e]
  exact h
end
def rCatS (K : PySem.W.Frag) : R2 := fun x y H Q => ∃ l b xs zs, x = .ref l ∧ y = .ref b ∧ SqL K H l xs ∧ SqL K H b zs ∧ xs.length + zs.length ≤ sizeLine ∧ ∀ p, H p = none → Q (.ref p) (upd H p (.lst (xs ++ zs)))
section
variable {X : Cx}
theorem op_catS : OpR X (binaryOp .Add) (rCatS X.K) := by
  intro pins s σ H x y v u Q I rx ry h
  obtain ⟨l, b, xs, zs, rfl, rfl, hH, hB, hz, q⟩ := h
  cases rx
  cases ry
  obtain ⟨its, r, e, z⟩ := I.list hH
  obtain ⟨its2, r2, e2, z2⟩ := I.list hB
  refine add_listsH e.isList e2.isList ?_ (by rw [← r.length, ← r2.length]; exact hz)
  exact ⟨.ref _, _, I.lnew (t' := s.toks) (r.append r2) (by rw [List.length_append]; omega), rfl, q _ I.fresh⟩
abbrev rAddAll (K : PySem.W.Frag) : R2 := fun x y H Q => (rI0 fun i j => V.int (i + j)) x y H Q ∨ (fun x y H Q => (fun x y H Q => ∃ i j, x = .str i ∧ y = .str j ∧ i.length + j.length ≤ sizeLine ∧ Q (.str (i ++ j)) H) x y H Q ∨ (fun x y H Q => rCatA K x y H Q ∨ rCatS K x y H Q) x y H Q) x y H Q
theorem op_addAll : OpR X (binaryOp .Add) (rAddAll X.K) := OpR.or op_add (OpR.or op_add_str (OpR.or op_catA op_catS))
end
def pAdd : List D → Option Rd'
  | [.int a, .int b] => some (.pd (.int (a + b)))
  | [.str a, .str b] => if a.length + b.length ≤ sizeLine then some (.pd (.str (a ++ b))) else none
  | [.tuple a, .tuple b] => if a.length + b.length ≤ sizeLine then some (.pd (.tuple (a ++ b))) else none
  | [.list a, .list b] => if a.length + b.length ≤ sizeLine then some (.nl (a ++ b)) else none
  | _ => none
def oAdd := opG pAdd
theorem oAdd_ok {K : PySem.W.Frag} : OpOk K (r2 (rAddAll K)) oAdd := opG_ok fun B H vs ds res Q e hs hp k => by
  unfold pAdd at hp
  split at hp
  · obtain ⟨x, y, rfl, h1, h2⟩ := hs.two
    cases hp
    exact ⟨_, _, rfl, Or.inl ⟨_, _, h1.int, h2.int, k.int e⟩⟩
  · split at hp
    · rename_i hl
      obtain ⟨x, y, rfl, h1, h2⟩ := hs.two
      cases hp
      exact ⟨_, _, rfl, Or.inr (Or.inl ⟨_, _, h1.str, h2.str, hl, k.str e⟩)⟩
    · cases hp
  · split at hp
    · rename_i a b hl
      obtain ⟨x, y, rfl, h1, h2⟩ := hs.two
      cases hp
      obtain ⟨p, xs, rfl, s1, d1⟩ := h1.tup
      obtain ⟨q, ys, rfl, s2, d2⟩ := h2.tup
      have l1 := DpAll.length d1
      have l2 := DpAll.length d2
      refine ⟨_, _, rfl, Or.inr (Or.inr (Or.inl ⟨p, q, xs, ys, rfl, rfl, sqt_mono e s1, sqt_mono e s2, by rw [l1, l2]; exact hl, fun z => ?_, fun _ z => ?_, fun _ _ t ht => ?_⟩))⟩
      · subst z
        have : a = [] := by cases a with
          | nil => rfl
          | cons _ _ => simp at l1
        subst this
        exact k.same e (.tup s2 d2)
      · subst z
        have : b = [] := by cases b with
          | nil => rfl
          | cons _ _ => simp at l2
        subst this
        rw [List.append_nil] at k
        exact k.same e (.tup s1 d1)
      · exact k.tup e ht (DpAll.append d1 d2)
    · cases hp
  · split at hp
    · rename_i a b hl
      obtain ⟨x, y, rfl, ⟨p, xs, rfl, s1, d1⟩, ⟨q, ys, rfl, s2, d2⟩⟩ := hs.two
      cases hp
      exact ⟨_, _, rfl, Or.inr (Or.inr (Or.inr ⟨p, q, xs, ys, rfl, rfl, s1, s2, by rw [DpAll.length d1, DpAll.length d2]; exact hl, fun t ht => k t _ ht (DpAll.append d1 d2)⟩))⟩
    · cases hp
  · cases hp
/-- two ints give an int -/
def pInt (C : Int → Int → Prop) [∀ a b, Decidable (C a b)] (f : Int → Int → Int) : List D → Option Rd'
  | [.int a, .int b] => if C a b then some (.pd (.int (f a b))) else none
  | _ => none
theorem oInt_ok {K : PySem.W.Frag} {C : Int → Int → Prop} [∀ a b, Decidable (C a b)] {f : Int → Int → Int} : OpOk K (r2 (rI C fun a b => .int (f a b))) (opG (pInt C f)) := opG_ok fun B H vs ds res Q e hs hp k => by
  unfold pInt at hp
  split at hp
  · split at hp
    · rename_i hc
      obtain ⟨x, y, rfl, h1, h2⟩ := hs.two
      cases hp
      exact ⟨_, _, rfl, _, _, h1.int, h2.int, hc, k.int e⟩
    · cases hp
  · cases hp
def pSub : List D → Option Rd'
  | [.int a, .int b] => some (.pd (.int (a - b)))
  | _ => none
def oSub := opG pSub
theorem oSub_ok {K : PySem.W.Frag} : OpOk K (r2 (rI0 fun a b => .int (a - b))) oSub := opG_ok fun B H vs ds res Q e hs hp k => by
  unfold pSub at hp
  split at hp
  · obtain ⟨x, y, rfl, h1, h2⟩ := hs.two
    cases hp
    exact ⟨_, _, rfl, _, _, h1.int, h2.int, k.int e⟩
  · cases hp
instance (i j : Int) : Decidable (CMulW i j) := by unfold CMulW; infer_instance
instance (i j : Int) : Decidable (CDivW i j) := by unfold CDivW; infer_instance
def oDiv := opG (pInt CDivW fun i j => i / j)
def oMod := opG (pInt (fun _ j => 0 < j) fun i j => i % j)
theorem oDiv_ok {K : PySem.W.Frag} : OpOk K (r2 (rI CDivW fun i j => .int (i / j))) oDiv := oInt_ok
theorem oMod_ok {K : PySem.W.Frag} : OpOk K (r2 (rI (fun _ j => 0 < j) fun i j => .int (i % j))) oMod := oInt_ok
def pAnd : List D → Option Rd'
  | [.int a, .int b] => some (.pd (.int (Builtin.bitAnd a b)))
  | _ => none
def oAnd := opG pAnd
theorem oAnd_ok {K : PySem.W.Frag} : OpOk K (r2 (rI0 fun a b => .int (Builtin.bitAnd a b))) oAnd := opG_ok fun B H vs ds res Q e hs hp k => by
  unfold pAnd at hp
  split at hp
  · obtain ⟨x, y, rfl, h1, h2⟩ := hs.two
    cases hp
    exact ⟨_, _, rfl, _, _, h1.int, h2.int, k.int e⟩
  · cases hp
end Pd

set_option Elab.async false
set_option linter.all false
set_option maxRecDepth 100000
set_option maxHeartbeats 1000000
namespace Pd
open PySem PySem.Spec PyProof.Rows L2

theorem r2_imp {r r' : R2} (h : ∀ x y H Q, r x y H Q → r' x y H Q) {vs : List V} {H : Hp} {Q : VK} (q : r2 r vs H Q) : r2 r' vs H Q := by
  obtain ⟨x, y, e, q⟩ := q
  exact ⟨x, y, e, h _ _ _ _ q⟩
theorem OpOk.or {K : PySem.W.Frag} {r r' : List V → Hp → VK → Prop} {op op' : List Rs → M Rs} (h : OpOk K r op) (h' : OpOk K r' op') : OpOk K (fun vs H Q => r vs H Q ∨ r' vs H Q) (fun rs ρ => match op rs ρ with
    | some x => some x
    | none => op' rs ρ) := by
  intro vs0 σ B H ρ fs vs rs Ts Q g ok nd r2 ρ' e k
  dsimp only at e
  split at e
  · rename_i x e1
    cases e
    exact Or.inl (h vs0 σ B H ρ fs vs rs Ts Q g ok nd r2 ρ' e1 k)
  · exact Or.inr (h' vs0 σ B H ρ fs vs rs Ts Q g ok nd r2 ρ' e k)
theorem RsAll.two {K : PySem.W.Frag} {B H : Hp} {σ : L2.St} {fs : Nat → List Addr} {vs : List V} {r1 r2 : Rs} {Ts : List (List Addr)} (h : RsAll K B H σ fs vs [r1, r2] Ts) :
    ∃ x y T1 T2, vs = [x, y] ∧ Ts = [T1, T2] ∧ RsOk K B H σ fs x r1 T1 ∧ RsOk K B H σ fs y r2 T2 := by
  match vs, Ts with
  | [x, y], [T1, T2] => exact ⟨x, y, T1, T2, rfl, rfl, h.1, h.2.1⟩
  | [], _ => exact h.elim
  | _ :: _, [] => exact h.elim
  | [_], [_] => exact h.2.elim
  | [_], _ :: _ :: _ => exact h.2.elim
  | _ :: _ :: _, [_] => exact h.2.elim
  | _ :: _ :: _ :: _, [_, _] => exact h.2.2.elim
  | [_, _], _ :: _ :: _ :: _ => exact h.2.2.elim
  | _ :: _ :: _ :: _, _ :: _ :: _ :: _ => exact h.2.2.elim
theorem RsAll.one {K : PySem.W.Frag} {B H : Hp} {σ : L2.St} {fs : Nat → List Addr} {vs : List V} {r1 : Rs} {Ts : List (List Addr)} (h : RsAll K B H σ fs vs [r1] Ts) :
    ∃ x T1, vs = [x] ∧ Ts = [T1] ∧ RsOk K B H σ fs x r1 T1 := by
  match vs, Ts with
  | [x], [T1] => exact ⟨x, T1, rfl, rfl, h.1⟩
  | [], _ => exact h.elim
  | _ :: _, [] => exact h.elim
  | _ :: _ :: _, [_] => exact h.2.elim
  | [_], _ :: _ :: _ => exact h.2.elim
  | _ :: _ :: _, _ :: _ :: _ => exact h.2.elim
/-! ### list * int, the list just made -/
def oRep : List Rs → M Rs := fun rs ρ => match rs with
  | [.own (.ml _ l), .own (.p (.int k))] => if -(2 ^ 63) ≤ k ∧ k < 2 ^ 63 ∧ l.length * k.toNat ≤ sizeLine then some (.ok (.own (.ml none (List.replicate k.toNat l).flatten)) ρ) else none
  | _ => none
theorem DpAll.rep {K : PySem.W.Frag} {B : Hp} {xs : List V} {ds : List D} (h : DpAll K B xs ds) : ∀ n : Nat, DpAll K B (List.replicate n xs).flatten (List.replicate n ds).flatten
  | 0 => .nil
  | n + 1 => by
    rw [List.replicate_succ, List.replicate_succ, List.flatten_cons, List.flatten_cons]
    exact DpAll.append h (DpAll.rep h n)
theorem oRep_ok {K : PySem.W.Frag} : OpOk K (r2 rRep) oRep := by
  intro vs0 σ B H ρ fs vs rs Ts Q g ok nd r' ρ' e k
  unfold oRep at e
  split at e
  · rename_i t l n
    split at e
    · rename_i hc
      cases e
      obtain ⟨x, y, T1, T2, rfl, rfl, ⟨⟨a, xs, rfl, rfl, h1, h2⟩, _, _⟩, ⟨h3, rfl⟩, _, _⟩ := ok.two
      · cases h3
        refine ⟨_, _, rfl, a, n, xs, rfl, rfl, h1, hc.1, hc.2.1, by rw [DpAll.length h2]; exact hc.2.2, fun p hp => ?_⟩
        have fr := Fr.newL (B := B) (o := HO.lst (List.replicate n.toNat xs).flatten) hp
        refine k (.ref p) B _ fs [p] (fr.weak (fun _ f => f.elim) fun a f => ?_) (g.grow fr (fun _ _ f => f) (g.ext.trans fr.sameH)) ⟨⟨p, _, rfl, rfl, upd_same, DpAll.rep h2 _⟩, rfl, fun a ha => ?_⟩
        · rcases f with f | f
          · exact Or.inr (Or.inl (Or.inl f))
          · exact Or.inl f
        · simp at ha
          subst ha
          refine ⟨?_, fun i hi => g.lives hi hp⟩
          cases e : B a with
          | none => rfl
          | some u => rw [g.ext a u e] at hp; cases hp
    · cases e
  · cases e
def oMulI := opG (pInt CMulW fun i j => i * j)
def oMul : List Rs → M Rs := fun rs ρ => match oMulI rs ρ with
    | some x => some x
    | none => oRep rs ρ
abbrev rMulAll : R2 := fun x y H Q => rI CMulW (fun i j => V.int (i * j)) x y H Q ∨ rRep x y H Q
theorem op_mulAll {X : Cx} : OpR X (binaryOp .Mult) rMulAll := OpR.or op_mulW op_rep
theorem oMul_ok {K : PySem.W.Frag} : OpOk K (r2 rMulAll) oMul := fun vs0 σ B H ρ fs vs rs Ts Q g ok nd r' ρ' e k =>
  r2_or.mpr ((OpOk.or (oInt_ok (K := K)) oRep_ok) vs0 σ B H ρ fs vs rs Ts Q g ok nd r' ρ' e k)

/-! ### comparisons -/
section
mutual
theorem Dp.plain {K : PySem.W.Frag} {H : Hp} : ∀ {d : D} {v : V}, Dp K H v d → d.plain = true
  | .none, _, _ => rfl
  | .bool _, _, _ => rfl
  | .int _, _, _ => rfl
  | .str _, _, _ => rfl
  | .list xs, _, h => by
    cases h with
    | lst h1 h2 => simp only [PyData.plain]; exact DpAll.plain h2
  | .tuple xs, _, h => by
    cases h with
    | tup h1 h2 => simp only [PyData.plain]; exact DpAll.plain h2
  | .dict _, _, h => by cases h
theorem DpAll.plain {K : PySem.W.Frag} {H : Hp} : ∀ {ds : List D} {vs : List V}, DpAll K H vs ds → PyData.plainAll ds = true
  | [], _, _ => rfl
  | d :: ds, _, h => by
    cases h with
    | cons h1 h2 => simp only [PyData.plainAll, Dp.plain h1, DpAll.plain h2, Bool.and_self]
end
end
def rEqP (K : PySem.W.Frag) : R2 := fun x y H Q => ∃ d e, Dp K H x d ∧ Dp K H y e ∧ min d.depth e.depth ≤ 40 ∧ Q (.bl (PyData.eqv d e)) H
def rNeP (K : PySem.W.Frag) : R2 := fun x y H Q => ∃ d e, Dp K H x d ∧ Dp K H y e ∧ min d.depth e.depth ≤ 40 ∧ Q (.bl (!PyData.eqv d e)) H
def rInP (K : PySem.W.Frag) : R2 := fun x y H Q => ∃ d xs, Dp K H x d ∧ (Dp K H y (.list xs) ∨ Dp K H y (.tuple xs)) ∧ d.depth ≤ 40 ∧ Q (.bl (xs.any fun y => PyData.eqv y d)) H
def rNiP (K : PySem.W.Frag) : R2 := fun x y H Q => ∃ d xs, Dp K H x d ∧ (Dp K H y (.list xs) ∨ Dp K H y (.tuple xs)) ∧ d.depth ≤ 40 ∧ Q (.bl (!xs.any fun y => PyData.eqv y d)) H
section
variable {X : Cx}
theorem op_eqP (hu : X.A.units + 64 < cLine) : OpR X (compareOp .Eq) (rEqP X.K) := by
  intro pins s σ H x y v u Q I rx ry h
  obtain ⟨d, e, hd, he, hm, q⟩ := h
  obtain ⟨as, r1⟩ := Dp.reads I d x v hd rx
  obtain ⟨bs, r2⟩ := Dp.reads I e y u he ry
  exact SeqAt.eq_plain r1 r2 (Dp.plain hd) (Dp.plain he) (by omega) ⟨.bl _, H, I, rfl, q⟩
theorem op_neP (hu : X.A.units + 64 < cLine) : OpR X (compareOp .NotEq) (rNeP X.K) := by
  intro pins s σ H x y v u Q I rx ry h
  obtain ⟨d, e, hd, he, hm, q⟩ := h
  obtain ⟨as, r1⟩ := Dp.reads I d x v hd rx
  obtain ⟨bs, r2⟩ := Dp.reads I e y u he ry
  exact SeqAt.ne_plain r1 r2 (Dp.plain hd) (Dp.plain he) (by omega) ⟨.bl _, H, I, rfl, q⟩
theorem plain_list {xs : List D} (h : PyData.plain (.list xs) = true) : PyData.plainAll xs = true := by simpa only [PyData.plain] using h
theorem plain_tup {xs : List D} (h : PyData.plain (.tuple xs) = true) : PyData.plainAll xs = true := by simpa only [PyData.plain] using h
theorem op_inP (hu : X.A.units + 64 < cLine) : OpR X (compareOp .In) (rInP X.K) := by
  intro pins s σ H x y v u Q I rx ry h
  obtain ⟨d, xs, hd, he, hm, q⟩ := h
  obtain ⟨as, r1⟩ := Dp.reads I d x v hd rx
  rcases he with he | he
  · obtain ⟨bs, r2⟩ := Dp.reads I _ y u he ry
    exact SeqAt.in_list_data r2 r1 (plain_list (Dp.plain he)) (Dp.plain hd) (by omega) ⟨.bl _, H, I, rfl, q⟩
  · obtain ⟨bs, r2⟩ := Dp.reads I _ y u he ry
    exact SeqAt.in_tuple_data r2 r1 (plain_tup (Dp.plain he)) (Dp.plain hd) (by omega) ⟨.bl _, H, I, rfl, q⟩
theorem op_niP (hu : X.A.units + 64 < cLine) : OpR X (compareOp .NotIn) (rNiP X.K) := by
  intro pins s σ H x y v u Q I rx ry h
  obtain ⟨d, xs, hd, he, hm, q⟩ := h
  obtain ⟨as, r1⟩ := Dp.reads I d x v hd rx
  rcases he with he | he
  · obtain ⟨bs, r2⟩ := Dp.reads I _ y u he ry
    exact SeqAt.notIn_list_data r2 r1 (plain_list (Dp.plain he)) (Dp.plain hd) (by omega) ⟨.bl _, H, I, rfl, q⟩
  · obtain ⟨bs, r2⟩ := Dp.reads I _ y u he ry
    exact SeqAt.notIn_tuple_data r2 r1 (plain_tup (Dp.plain he)) (Dp.plain hd) (by omega) ⟨.bl _, H, I, rfl, q⟩
end
def pEq : List D → Option Rd'
  | [d, e] => if min d.depth e.depth ≤ 40 then some (.pd (.bool (PyData.eqv d e))) else none
  | _ => none
def pNe : List D → Option Rd'
  | [d, e] => if min d.depth e.depth ≤ 40 then some (.pd (.bool (!PyData.eqv d e))) else none
  | _ => none
def oEq := opG pEq
def oNe := opG pNe
theorem oEq_ok {K : PySem.W.Frag} : OpOk K (r2 (rEqP K)) oEq := opG_ok fun B H vs ds res Q e hs hp k => by
  unfold pEq at hp
  split at hp
  · split at hp
    · obtain ⟨x, y, rfl, h1, h2⟩ := hs.two
      cases hp
      exact ⟨_, _, rfl, _, _, h1.dp e, h2.dp e, by assumption, k.bool e⟩
    · cases hp
  · cases hp
theorem oNe_ok {K : PySem.W.Frag} : OpOk K (r2 (rNeP K)) oNe := opG_ok fun B H vs ds res Q e hs hp k => by
  unfold pNe at hp
  split at hp
  · split at hp
    · obtain ⟨x, y, rfl, h1, h2⟩ := hs.two
      cases hp
      exact ⟨_, _, rfl, _, _, h1.dp e, h2.dp e, by assumption, k.bool e⟩
    · cases hp
  · cases hp
def pIn : List D → Option Rd'
  | [d, .list xs] => if d.depth ≤ 40 then some (.pd (.bool (xs.any fun y => PyData.eqv y d))) else none
  | [d, .tuple xs] => if d.depth ≤ 40 then some (.pd (.bool (xs.any fun y => PyData.eqv y d))) else none
  | _ => none
def pNi : List D → Option Rd'
  | [d, .list xs] => if d.depth ≤ 40 then some (.pd (.bool (!xs.any fun y => PyData.eqv y d))) else none
  | [d, .tuple xs] => if d.depth ≤ 40 then some (.pd (.bool (!xs.any fun y => PyData.eqv y d))) else none
  | _ => none
def oIn := opG pIn
def oNi := opG pNi
theorem oIn_ok {K : PySem.W.Frag} : OpOk K (r2 (rInP K)) oIn := opG_ok fun B H vs ds res Q e hs hp k => by
  unfold pIn at hp
  split at hp
  · split at hp
    · obtain ⟨x, y, rfl, h1, h2⟩ := hs.two
      cases hp
      exact ⟨_, _, rfl, _, _, h1.dp e, Or.inl (h2.dp e), by assumption, k.bool e⟩
    · cases hp
  · split at hp
    · obtain ⟨x, y, rfl, h1, h2⟩ := hs.two
      cases hp
      exact ⟨_, _, rfl, _, _, h1.dp e, Or.inr (h2.dp e), by assumption, k.bool e⟩
    · cases hp
  · cases hp
theorem oNi_ok {K : PySem.W.Frag} : OpOk K (r2 (rNiP K)) oNi := opG_ok fun B H vs ds res Q e hs hp k => by
  unfold pNi at hp
  split at hp
  · split at hp
    · obtain ⟨x, y, rfl, h1, h2⟩ := hs.two
      cases hp
      exact ⟨_, _, rfl, _, _, h1.dp e, Or.inl (h2.dp e), by assumption, k.bool e⟩
    · cases hp
  · split at hp
    · obtain ⟨x, y, rfl, h1, h2⟩ := hs.two
      cases hp
      exact ⟨_, _, rfl, _, _, h1.dp e, Or.inr (h2.dp e), by assumption, k.bool e⟩
    · cases hp
  · cases hp
/-- two ints, a truth -/
def pCmpI (f : Int → Int → Bool) : List D → Option Rd'
  | [.int a, .int b] => some (.pd (.bool (f a b)))
  | _ => none
theorem oCmpI_ok {K : PySem.W.Frag} {f : Int → Int → Bool} : OpOk K (r2 (rI0 fun a b => .bl (f a b))) (opG (pCmpI f)) := opG_ok fun B H vs ds res Q e hs hp k => by
  unfold pCmpI at hp
  split at hp
  · obtain ⟨x, y, rfl, h1, h2⟩ := hs.two
    cases hp
    exact ⟨_, _, rfl, _, _, h1.int, h2.int, k.bool e⟩
  · cases hp
def oLt := opG (pCmpI fun i j => decide (i < j))
def oLe := opG (pCmpI fun i j => decide (i ≤ j))
def oGt := opG (pCmpI fun i j => decide (j < i))
def oGe := opG (pCmpI fun i j => decide (j ≤ i))
/-- is None, is True, .. -/
abbrev rIsAll : R2 := fun x y H Q => (fun x y H Q => y = V.non ∧ Q (.bl (decide (x = .non))) H) x y H Q ∨ rIsB x y H Q
abbrev rIsnAll : R2 := fun x y H Q => (fun x y H Q => y = V.non ∧ Q (.bl (!decide (x = .non))) H) x y H Q ∨ rNotB x y H Q
theorem op_isAll {X : Cx} : OpR X (compareOp .Is) rIsAll := OpR.or op_isN op_isBl
theorem op_isnAll {X : Cx} : OpR X (compareOp .IsNot) rIsnAll := OpR.or op_notN op_notBl
def isNon : D → Bool
  | .none => true
  | _ => false
def pIs : List D → Option Rd'
  | [d, .none] => some (.pd (.bool (isNon d)))
  | [.bool a, .bool b] => some (.pd (.bool (decide (a = b))))
  | _ => none
def pIsn : List D → Option Rd'
  | [d, .none] => some (.pd (.bool (!isNon d)))
  | [.bool a, .bool b] => some (.pd (.bool (!decide (a = b))))
  | _ => none
def oIs := opG pIs
def oIsn := opG pIsn
theorem isNon_ok {K : PySem.W.Frag} {B H : Hp} {v : V} {d : D} (h : ShD K B H v d) : decide (v = .non) = isNon d := by
  cases d with
  | none => rw [h.non]; rfl
  | bool b => rw [h.bool]; rfl
  | int b => rw [h.int]; rfl
  | str b => rw [h.str]; rfl
  | list l => obtain ⟨a, xs, rfl, _⟩ := h; rfl
  | tuple l => obtain ⟨a, xs, rfl, _⟩ := h.tup; rfl
  | dict l => have h' : Dp K B v (.dict l) := h; cases h'
theorem oIs_ok {K : PySem.W.Frag} : OpOk K (r2 rIsAll) oIs := opG_ok fun B H vs ds res Q e hs hp k => by
  unfold pIs at hp
  split at hp
  · obtain ⟨x, y, rfl, h1, h2⟩ := hs.two
    cases hp
    exact ⟨_, _, rfl, Or.inl ⟨h2.non, by rw [isNon_ok h1]; exact k.bool e⟩⟩
  · obtain ⟨x, y, rfl, h1, h2⟩ := hs.two
    cases hp
    exact ⟨_, _, rfl, Or.inr ⟨_, _, h1.bool, h2.bool, k.bool e⟩⟩
  · cases hp
theorem oIsn_ok {K : PySem.W.Frag} : OpOk K (r2 rIsnAll) oIsn := opG_ok fun B H vs ds res Q e hs hp k => by
  unfold pIsn at hp
  split at hp
  · obtain ⟨x, y, rfl, h1, h2⟩ := hs.two
    cases hp
    exact ⟨_, _, rfl, Or.inl ⟨h2.non, by rw [isNon_ok h1]; exact k.bool e⟩⟩
  · obtain ⟨x, y, rfl, h1, h2⟩ := hs.two
    cases hp
    exact ⟨_, _, rfl, Or.inr ⟨_, _, h1.bool, h2.bool, k.bool e⟩⟩
  · cases hp

/-! ### a[i] -/
def pIx : List D → Option Rd'
  | [.list l, .int i] => (atI l i).map .pd
  | [.tuple l, .int i] => (atI l i).map .pd
  | [.str z, .int i] => if z.length ≤ sizeLine then (atI z.cps.toList i).map fun c => .pd (.str ⟨#[c]⟩) else none
  | _ => none
def oIx := opG pIx
theorem atI_dp {K : PySem.W.Frag} {B : Hp} {xs : List V} {l : List D} {i : Int} {d : D} (h : DpAll K B xs l) (e : atI l i = some d) : ∃ v, atI xs i = some v ∧ Dp K B v d := by
  unfold atI at e ⊢
  rw [DpAll.length h]
  cases e2 : ixN l.length i with
  | none => rw [e2] at e; cases e
  | some j =>
    rw [e2] at e
    exact DpAll.get h e
theorem oIx_ok {K : PySem.W.Frag} : OpOk K (r2 (rIx K)) oIx := opG_ok fun B H vs ds res Q e hs hp k => by
  unfold pIx at hp
  split at hp
  · rename_i l i
    obtain ⟨x, y, rfl, ⟨p, xs, rfl, s1, d1⟩, h2⟩ := hs.two
    cases e1 : atI l i with
    | none => rw [e1] at hp; cases hp
    | some d =>
      rw [e1] at hp
      cases hp
      obtain ⟨v, e2, hv⟩ := atI_dp d1 e1
      exact ⟨_, _, rfl, Or.inl ⟨p, xs, i, v, rfl, h2.int, s1, e2, k.same e hv⟩⟩
  · rename_i l i
    obtain ⟨x, y, rfl, h1, h2⟩ := hs.two
    obtain ⟨p, xs, rfl, s1, d1⟩ := h1.tup
    cases e1 : atI l i with
    | none => rw [e1] at hp; cases hp
    | some d =>
      rw [e1] at hp
      cases hp
      obtain ⟨v, e2, hv⟩ := atI_dp d1 e1
      exact ⟨_, _, rfl, Or.inr (Or.inl ⟨p, xs, i, v, rfl, h2.int, sqt_mono e s1, e2, k.same e hv⟩)⟩
  · rename_i z i
    split at hp
    · rename_i hz
      obtain ⟨x, y, rfl, h1, h2⟩ := hs.two
      cases e1 : atI z.cps.toList i with
      | none => rw [e1] at hp; cases hp
      | some c =>
        rw [e1] at hp
        cases hp
        exact ⟨_, _, rfl, Or.inr (Or.inr ⟨z, i, c, h1.str, h2.int, hz, e1, k.str e⟩)⟩
    · cases hp
  · cases hp
end Pd

set_option Elab.async false
set_option linter.all false
set_option maxRecDepth 100000
set_option maxHeartbeats 1000000
namespace Pd
open PySem PySem.Spec PyProof.Rows L2

/-! ### slices -/
def rdO (K : PySem.W.Frag) (vs0 : List V) (f : M (Option Int)) : TO := fun σ H Q => ∃ B ρ fs, Good K vs0 B H σ ρ fs ∧ ∃ o ρ', f ρ = some (.ok o ρ') ∧
  ∀ B' H' fs', Fr B H (InF fs) B' H' (InF fs') → Good K vs0 B' H' σ ρ' fs' → Q o H'
def mInt (f : M Rs) : M (Option Int) := M.bind f fun r ρ => match r.view ρ with
  | some (.int i) => some (.ok (some i) ρ)
  | _ => none
def mNo : M (Option Int) := M.ret none
def eSl (fe : M Rs) (lo hi : M (Option Int)) (op : Option Int → Option Int → List Rs → M Rs) : M Rs := M.bind fe fun r => M.bind lo fun l => M.bind hi fun h => op l h [r]
theorem fr_drop {B H B' H' : Hp} {F : Addr → Prop} {fs : Nat → List Addr} {T : List Addr} (x : Fr B H F B' H' (UnF (InF fs) T)) : Fr B H F B' H' (InF fs) := x.weak (fun _ h => h) fun a h => Or.inl (Or.inl h)
section
variable {X : Cx} {vs0 : List V} {K : PySem.W.Frag}
theorem do_none : PO X none (rdO X.K vs0 mNo) := PO.imp po_none fun σ H Q q => by
  obtain ⟨B, ρ, fs, g, o, ρ', e1, k⟩ := q
  cases e1
  exact k B H fs (Fr.refl _ _ _) g
theorem do_some {e : Expr} {f : M Rs} (h : PE X e (rdE X.K vs0 f)) : PO X (some e) (rdO X.K vs0 (mInt f)) := PO.imp (po_some h) fun σ H Q q => by
  obtain ⟨B, ρ, fs, g, o, ρ', e1, k⟩ := q
  obtain ⟨r, ρ1, e2, e3⟩ := M.bind_ok e1
  split at e3
  · rename_i i e4
    cases e3
    refine ⟨B, ρ, fs, g, r, ρ', e2, fun v B' H' fs' T fr g' ok => ⟨i, (view_ok g' ok e4).int, k B' H' fs' (fr_drop fr) g'⟩⟩
  · cases e3
theorem rd_sl {fe : M Rs} {lo hi : M (Option Int)} {op : Option Int → Option Int → List Rs → M Rs} {r : V → Option Int → Option Int → Hp → VK → Prop} (ho : ∀ l h, OpOk K (fun vs H Q => ∃ x, vs = [x] ∧ r x l h H Q) (op l h)) {σ : L2.St} {H : Hp} {Q : VK}
    (q : rdE K vs0 (eSl fe lo hi op) σ H Q) : tSl r (rdE K vs0 fe) (rdO K vs0 lo) (rdO K vs0 hi) σ H Q := by
  obtain ⟨B, ρ, fs, g, r', ρ', e1, k⟩ := q
  obtain ⟨r0, ρ1, e2, e3⟩ := M.bind_ok e1
  obtain ⟨l, ρ2, e4, e5⟩ := M.bind_ok e3
  obtain ⟨h, ρ3, e6, e7⟩ := M.bind_ok e5
  refine ⟨B, ρ, fs, g, r0, ρ1, e2, fun v B1 H1 fs1 T1 fr1 g1 ok1 => ⟨B1, ρ1, fs1, g1, l, ρ2, e4, fun B2 H2 fs2 fr2 g2 => ⟨B2, ρ2, fs2, g2, h, ρ3, e6, fun B3 H3 fs3 fr3 g3 => ?_⟩⟩⟩
  have n1 : ∀ a ∈ T1, ¬ InF fs1 a := ok1.off
  have ok2 := ok1.keep (fs' := fs2) fr2 n1 fun a h => h
  have n2 : ∀ a ∈ T1, ¬ InF fs2 a := ok2.off
  have ok3 := ok2.keep (fs' := fs3) fr3 n2 fun a h => h
  obtain ⟨x, ex, q⟩ := ho l h vs0 σ B3 H3 ρ3 fs3 [v] [r0] [T1] Q g3 ⟨ok3, True.intro⟩ (by simpa using ok3.nodup) r' ρ' e7 fun v4 B4 H4 fs4 T4 fr4 g4 ok4 =>
    k v4 B4 H4 fs4 T4 (fr1.trans ((fr2.frame T1).trans ((fr3.frame T1).trans (fr4.weak (fun a h => by
      rcases h with h | h
      · exact Or.inl h
      · exact Or.inr (by simpa using h)) fun a h => Or.inl h)))) g4 ok4
  cases ex
  exact q
def cutD (l : List D) (lo hi : Option Int) : List D := (l.drop (HT.sIx l.length 0 lo)).take (HT.sIx l.length l.length hi - HT.sIx l.length 0 lo)
def pSl (lo hi : Option Int) : List D → Option Rd'
  | [.list l] => some (.nl (cutD l lo hi))
  | [.tuple l] => some (.pd (.tuple (cutD l lo hi)))
  | [.str z] => if z.length ≤ sizeLine then some (.pd (.str (cutS z lo hi))) else none
  | _ => none
def oSl (lo hi : Option Int) := opG (pSl lo hi)
abbrev rSlAll (K : PySem.W.Frag) : V → Option Int → Option Int → Hp → VK → Prop := fun x lo hi H Q => rSlL K x lo hi H Q ∨ (fun x lo hi H Q => rSlA K x lo hi H Q ∨ rSlS x lo hi H Q) x lo hi H Q
theorem sl_all : SlR X (rSlAll X.K) := SlR.or sl_list (SlR.or sl_tupA sl_str)
theorem cut_dp {B : Hp} {xs : List V} {l : List D} (h : DpAll K B xs l) (lo hi : Option Int) : DpAll K B (cutV xs lo hi) (cutD l lo hi) := by
  unfold cutV cutD
  rw [DpAll.length h]
  exact DpAll.take _ (DpAll.drop _ h)
theorem oSl_ok (lo hi : Option Int) : OpOk K (fun vs H Q => ∃ x, vs = [x] ∧ rSlAll K x lo hi H Q) (oSl lo hi) := opG_ok fun B H vs ds res Q e hs hp k => by
  unfold pSl at hp
  split at hp
  · obtain ⟨x, rfl, p, xs, rfl, s1, d1⟩ := hs.one
    cases hp
    exact ⟨_, rfl, Or.inl ⟨p, xs, rfl, s1, fun t ht => k t _ ht (cut_dp d1 lo hi)⟩⟩
  · rename_i l
    obtain ⟨x, rfl, h1⟩ := hs.one
    obtain ⟨p, xs, rfl, s1, d1⟩ := h1.tup
    cases hp
    refine ⟨_, rfl, Or.inr (Or.inl ⟨p, xs, rfl, sqt_mono e s1, fun hw => ?_, fun _ t ht => k.tup e ht (cut_dp d1 lo hi)⟩)⟩
    have hc : cutD l lo hi = l := by
      unfold cutD
      rw [← DpAll.length d1, hw.1, hw.2, DpAll.length d1]
      simp
    rw [hc] at k
    exact k.same e (.tup s1 d1)
  · split at hp
    · rename_i z hz
      obtain ⟨x, rfl, h1⟩ := hs.one
      cases hp
      exact ⟨_, rfl, Or.inr (Or.inr ⟨z, h1.str, hz, k.str e⟩)⟩
    · cases hp
  · cases hp
theorem de_slice {e : Expr} {lo hi : Option Expr} {fe : M Rs} {fl fh : M (Option Int)} {pos p2 : Pos} (he : PE X e (rdE X.K vs0 fe)) (hl : PO X lo (rdO X.K vs0 fl)) (hu : PO X hi (rdO X.K vs0 fh)) :
    PE X (.Subscript e (.Slice lo hi none p2) pos) (rdE X.K vs0 (eSl fe fl fh oSl)) := PE.imp (pe_slice sl_all he hl hu) fun σ H Q q => rd_sl oSl_ok q
end

/-! ### calls of built-ins -/
section
variable {X : Cx} {K : PySem.W.Frag}
def pLen : List D → Option Rd'
  | [.list l] => some (.pd (.int l.length))
  | [.tuple l] => some (.pd (.int l.length))
  | [.str z] => if z.length ≤ sizeLine then some (.pd (.int z.length)) else none
  | _ => none
def oLen := opG pLen
theorem oLen_ok : OpOk K (fun xs H Q => ∃ x n, xs = [x] ∧ LenV K x H n ∧ Q (.int n) H) oLen := opG_ok fun B H vs ds res Q e hs hp k => by
  unfold pLen at hp
  split at hp
  · obtain ⟨x, rfl, p, xs, rfl, s1, d1⟩ := hs.one
    cases hp
    exact ⟨_, _, rfl, Or.inl ⟨xs, s1, (DpAll.length d1).symm⟩, k.int e⟩
  · obtain ⟨x, rfl, h1⟩ := hs.one
    obtain ⟨p, xs, rfl, s1, d1⟩ := h1.tup
    cases hp
    exact ⟨_, _, rfl, Or.inr ⟨xs, sqt_mono e s1, (DpAll.length d1).symm⟩, k.int e⟩
  · split at hp
    · rename_i z hz
      obtain ⟨x, rfl, h1⟩ := hs.one
      cases hp
      rw [h1.str]
      exact ⟨_, _, rfl, ⟨hz, rfl⟩, k.int e⟩
    · cases hp
  · cases hp
/-- data as ints -/
def ints? : List D → Option (List Int)
  | [] => some []
  | .int i :: r => (ints? r).map (i :: ·)
  | _ :: _ => none
theorem ints?_eq : ∀ {l : List D} {ns : List Int}, ints? l = some ns → l = ns.map PyData.int
  | [], ns, h => by cases h; rfl
  | d :: l, ns, h => by
    cases d <;> try cases h
    rename_i i
    unfold ints? at h
    cases e : ints? l with
    | none => rw [e] at h; cases h
    | some ms => rw [e] at h; cases h; rw [ints?_eq e]; rfl
@[simp] theorem ints?_map (ns : List Int) : ints? (ns.map PyData.int) = some ns := by
  induction ns with
  | nil => rfl
  | cons n ns ih => simp [ints?, ih]
section
variable {prog : Program} {w : World} {A : Around} {E : Value → Shared → Prop} {s : Shared}
theorem sum_tupG {t : Addr} {xs : Array (Int × Tok)} {Q : Value → Shared → Prop} (hh : A.handled = none) (ht : s.heap.IsTuple t (intItems xs))
    (h : ∀ h' tk t', (∀ b o, s.heap.get? b = some o → h'.get? b = some o) → Q (.int (preSum (numAt xs) xs.size) t') { s with heap := h', toks := tk }) :
    wpAny (model prog w) A (call (.builtin "sum") [.ref t]) Q E s := by
  have hlt : t < s.heap.objs.size := by obtain ⟨_, e, _⟩ := ht; exact Heap.lt_size e
  have push : ∀ (ob : Obj), ({ s with heap := s.heap.push ob } : Shared).heap.IsTuple t (intItems xs) := fun ob => by
    obtain ⟨o, e, c, n, d⟩ := ht
    exact ⟨o, Heap.get?_push_of_some _ e, c, n, d⟩
  refine call_sum_walkG (wpAny_pyIter_tuple ht ?_)
  refine ⟨_, _, _, _, _, _, numAt xs, rfl, Walks.tuple (A := A.in1) hh s.heap.objs.size t (Nat.ne_of_lt hlt) (intItems xs), ⟨⟨_, Heap.get?_push_size _ rfl, rfl, rfl⟩, push _⟩, fun b hb => ?_, (fun _ _ => intItems_at), fun h' tk t' hk => ?_⟩
  · show b < (s.heap.push _).objs.size
    rw [Heap.size_push]
    rcases List.mem_cons.mp hb with rfl | hb
    · exact Nat.lt_succ_self _
    · simp at hb; subst hb; exact Nat.lt_succ_of_lt hlt
  · have := h h' tk t' (fun b o e => hk b o (fun hm => by
      simp at hm
      subst hm
      exact Nat.lt_irrefl _ (Heap.lt_size e)) (Heap.get?_push_of_some _ e))
    simpa [intItems] using this
theorem sum_tup {t : Addr} {its : List Value} {ns : List Int} {Q : Value → Shared → Prop} (hh : A.handled = none) (ht : s.heap.IsTuple t its.toArray) (hi : IntsAre its ns)
    (h : ∀ h' tk t', (∀ b o, s.heap.get? b = some o → h'.get? b = some o) → Q (.int ns.sum t') { s with heap := h', toks := tk }) : wpAny (model prog w) A (call (.builtin "sum") [.ref t]) Q E s := by
  obtain ⟨xs, e⟩ := hi.allInts.items
  have hn : numsOf (intItems xs).toList = ns := by rw [← e]; exact hi.numsOf
  rw [nums_intItems] at hn
  rw [e] at ht
  refine sum_tupG hh ht fun h' tk t' hk => ?_
  have := h h' tk t' hk
  rw [preSum_eq, List.take_of_length_le (by simp), hn]; exact this
end
def rSumA (K : PySem.W.Frag) : List V → Hp → VK → Prop := fun vs H Q => rSum K vs H Q ∨ ∃ (a : Addr) (ns : List Int), vs = [V.ref a] ∧ SqT K H a (ns.map V.int) ∧ Q (.int ns.sum) H
theorem cr_sumA (hc : X.calm = true) : CallR X (.builtin "sum") (rSumA X.K) := CallR.or (cr_sum hc) (by
  intro pins s σ H vs us Q I r h
  obtain ⟨a, ns, rfl, hs, q⟩ := h
  obtain ⟨its, rv, ⟨o, e, c, n, d⟩, _⟩ := I.tuple hs
  rw [Vals.ref1 r]
  exact sum_tup (I.ok.hd hc) ⟨o, e, c, n, d⟩ rv.ints fun h' tk t' hk => ⟨.int _, H, I.kept hk, ⟨_, rfl⟩, q⟩)
def pSum : List D → Option Rd'
  | [.list l] => (ints? l).map fun ns => .pd (.int ns.sum)
  | [.tuple l] => (ints? l).map fun ns => .pd (.int ns.sum)
  | _ => none
def oSum := opG pSum
theorem oSum_ok : OpOk K (rSumA K) oSum := opG_ok fun B H vs ds res Q e hs hp k => by
  unfold pSum at hp
  split at hp
  · rename_i l
    obtain ⟨x, rfl, p, xs, rfl, s1, d1⟩ := hs.one
    cases e1 : ints? l with
    | none => rw [e1] at hp; cases hp
    | some ns =>
      rw [e1] at hp
      cases hp
      rw [ints?_eq e1] at d1
      rw [DpAll.ints d1] at s1
      exact Or.inl ⟨p, ns, rfl, s1, k.int e⟩
  · rename_i l
    obtain ⟨x, rfl, h1⟩ := hs.one
    obtain ⟨p, xs, rfl, s1, d1⟩ := h1.tup
    cases e1 : ints? l with
    | none => rw [e1] at hp; cases hp
    | some ns =>
      rw [e1] at hp
      cases hp
      rw [ints?_eq e1] at d1
      rw [DpAll.ints d1] at s1
      exact Or.inr ⟨p, ns, rfl, sqt_mono e s1, k.int e⟩
  · cases hp
/-! max, min: of a list, of two -/
def maxI : List Int → Int
  | [] => 0
  | [a] => a
  | a :: r => max a (maxI r)
def minI : List Int → Int
  | [] => 0
  | [a] => a
  | a :: r => min a (minI r)
theorem maxI_spec : ∀ (l : List Int), l ≠ [] → maxI l ∈ l ∧ ∀ x ∈ l, x ≤ maxI l
  | [], h => (h rfl).elim
  | [a], _ => ⟨by simp [maxI], by simp [maxI]⟩
  | a :: b :: r, _ => by
    obtain ⟨h1, h2⟩ := maxI_spec (b :: r) (by simp)
    have e : maxI (a :: b :: r) = max a (maxI (b :: r)) := rfl
    rw [e]
    refine ⟨?_, fun x hx => ?_⟩
    · rcases Int.le_total a (maxI (b :: r)) with h | h
      · rw [Int.max_eq_right h]; exact List.mem_cons_of_mem _ h1
      · rw [Int.max_eq_left h]; simp
    · rcases List.mem_cons.mp hx with rfl | hx
      · exact Int.le_max_left _ _
      · exact Int.le_trans (h2 x hx) (Int.le_max_right _ _)
theorem minI_spec : ∀ (l : List Int), l ≠ [] → minI l ∈ l ∧ ∀ x ∈ l, minI l ≤ x
  | [], h => (h rfl).elim
  | [a], _ => ⟨by simp [minI], by simp [minI]⟩
  | a :: b :: r, _ => by
    obtain ⟨h1, h2⟩ := minI_spec (b :: r) (by simp)
    have e : minI (a :: b :: r) = min a (minI (b :: r)) := rfl
    rw [e]
    refine ⟨?_, fun x hx => ?_⟩
    · rcases Int.le_total a (minI (b :: r)) with h | h
      · rw [Int.min_eq_left h]; simp
      · rw [Int.min_eq_right h]; exact List.mem_cons_of_mem _ h1
    · rcases List.mem_cons.mp hx with rfl | hx
      · exact Int.min_le_left _ _
      · exact Int.le_trans (Int.min_le_right _ _) (h2 x hx)
def pMax : List D → Option Rd'
  | [.list l] => (ints? l).bind fun ns => if ns = [] then none else some (.pd (.int (maxI ns)))
  | [.int i, .int j] => some (.pd (.int (max i j)))
  | _ => none
def pMin : List D → Option Rd'
  | [.list l] => (ints? l).bind fun ns => if ns = [] then none else some (.pd (.int (minI ns)))
  | [.int i, .int j] => some (.pd (.int (min i j)))
  | _ => none
def oMax := opG pMax
def oMin := opG pMin
def rMaxA (K : PySem.W.Frag) : List V → Hp → VK → Prop := fun vs H Q => rMax K vs H Q ∨ (fun xs H Q => ∃ i j, xs = [V.int i, .int j] ∧ Q (.int (if j > i then j else i)) H) vs H Q
def rMinA (K : PySem.W.Frag) : List V → Hp → VK → Prop := fun vs H Q => rMin K vs H Q ∨ (fun xs H Q => ∃ i j, xs = [V.int i, .int j] ∧ Q (.int (if j < i then j else i)) H) vs H Q
theorem cr_maxA (hc : X.calm = true) : CallR X (.builtin "max") (rMaxA X.K) := CallR.or (cr_max hc) (call_max2 hc)
theorem cr_minA (hc : X.calm = true) : CallR X (.builtin "min") (rMinA X.K) := CallR.or (cr_min hc) (call_min2 hc)
theorem oMax_ok : OpOk K (rMaxA K) oMax := opG_ok fun B H vs ds res Q e hs hp k => by
  unfold pMax at hp
  split at hp
  · rename_i l
    obtain ⟨x, rfl, p, xs, rfl, s1, d1⟩ := hs.one
    cases e1 : ints? l with
    | none => rw [e1] at hp; cases hp
    | some ns =>
      rw [e1, Option.bind_some] at hp
      split at hp
      · cases hp
      · rename_i hne
        cases hp
        rw [ints?_eq e1] at d1
        rw [DpAll.ints d1] at s1
        obtain ⟨m1, m2⟩ := maxI_spec ns hne
        refine Or.inl ⟨p, ns, rfl, s1, ?_, fun m hm hle => ?_⟩
        · cases ns with
          | nil => exact (hne rfl).elim
          | cons _ _ => simp
        · have : m = maxI ns := Int.le_antisymm (m2 m hm) (hle _ m1)
          rw [this]
          exact k.int e
  · rename_i i j
    obtain ⟨x, y, rfl, h1, h2⟩ := hs.two
    cases hp
    rw [h1.int, h2.int]
    refine Or.inr ⟨i, j, rfl, ?_⟩
    have : (if j > i then j else i) = max i j := by
      split <;> omega
    rw [this]
    exact k.int e
  · cases hp
theorem oMin_ok : OpOk K (rMinA K) oMin := opG_ok fun B H vs ds res Q e hs hp k => by
  unfold pMin at hp
  split at hp
  · rename_i l
    obtain ⟨x, rfl, p, xs, rfl, s1, d1⟩ := hs.one
    cases e1 : ints? l with
    | none => rw [e1] at hp; cases hp
    | some ns =>
      rw [e1, Option.bind_some] at hp
      split at hp
      · cases hp
      · rename_i hne
        cases hp
        rw [ints?_eq e1] at d1
        rw [DpAll.ints d1] at s1
        obtain ⟨m1, m2⟩ := minI_spec ns hne
        refine Or.inl ⟨p, ns, rfl, s1, ?_, fun m hm hle => ?_⟩
        · cases ns with
          | nil => exact (hne rfl).elim
          | cons _ _ => simp
        · have : m = minI ns := Int.le_antisymm (hle _ m1) (m2 m hm)
          rw [this]
          exact k.int e
  · rename_i i j
    obtain ⟨x, y, rfl, h1, h2⟩ := hs.two
    cases hp
    rw [h1.int, h2.int]
    refine Or.inr ⟨i, j, rfl, ?_⟩
    have : (if j < i then j else i) = min i j := by
      split <;> omega
    rw [this]
    exact k.int e
  · cases hp
def pAbs : List D → Option Rd'
  | [.int i] => some (.pd (.int (i.natAbs : Int)))
  | _ => none
def oAbs := opG pAbs
theorem oAbs_ok : OpOk K (fun xs H Q => ∃ i, xs = [V.int i] ∧ Q (.int (if i < 0 then -i else i)) H) oAbs := opG_ok fun B H vs ds res Q e hs hp k => by
  unfold pAbs at hp
  split at hp
  · rename_i i
    obtain ⟨x, rfl, h1⟩ := hs.one
    cases hp
    rw [h1.int]
    refine ⟨i, rfl, ?_⟩
    have : (if i < 0 then -i else i) = (i.natAbs : Int) := by split <;> omega
    rw [this]
    exact k.int e
  · cases hp
/-! int(..) of ints and truths -/
def pInt1 : List D → Option Rd'
  | [.int i] => some (.pd (.int i))
  | [.bool b] => some (.pd (.int (if b then 1 else 0)))
  | _ => none
def oInt1 := opG pInt1
theorem oInt1_ok : OpOk K (fun xs H Q => (∃ i, xs = [V.int i] ∧ Q (.int i) H) ∨ ∃ k, xs = [V.bl k] ∧ Q (.int (if k then 1 else 0)) H) oInt1 := opG_ok fun B H vs ds res Q e hs hp k => by
  unfold pInt1 at hp
  split at hp
  · obtain ⟨x, rfl, h1⟩ := hs.one
    cases hp
    exact Or.inl ⟨_, by rw [h1.int], k.int e⟩
  · obtain ⟨x, rfl, h1⟩ := hs.one
    cases hp
    exact Or.inr ⟨_, by rw [h1.bool], k.int e⟩
  · cases hp
/-! list(..), tuple(..) -/
def pListOf : List D → Option Rd'
  | [.list l] => some (.nl l)
  | [.tuple l] => some (.nl l)
  | _ => none
def oListOf := opG pListOf
theorem oListOf_ok : OpOk K (fun xs H Q => ∃ p ys, xs = [V.ref p] ∧ (SqL K H p ys ∨ SqT K H p ys) ∧ ∀ l, H l = none → Q (.ref l) (upd H l (.lst ys))) oListOf := opG_ok fun B H vs ds res Q e hs hp k => by
  unfold pListOf at hp
  split at hp
  · obtain ⟨x, rfl, p, xs, rfl, s1, d1⟩ := hs.one
    cases hp
    exact ⟨p, xs, rfl, Or.inl s1, fun l hl => k l xs hl d1⟩
  · obtain ⟨x, rfl, h1⟩ := hs.one
    obtain ⟨p, xs, rfl, s1, d1⟩ := h1.tup
    cases hp
    exact ⟨p, xs, rfl, Or.inr (sqt_mono e s1), fun l hl => k l xs hl d1⟩
  · cases hp
def pTupOf : List D → Option Rd'
  | [.list l] => some (.pd (.tuple l))
  | [.tuple l] => some (.pd (.tuple l))
  | _ => none
def oTupOf := opG pTupOf
theorem oTupOf_ok : OpOk K (fun xs H Q => ∃ p ys, xs = [V.ref p] ∧ ((SqL K H p ys ∧ ∀ l, H l = none → Q (.ref l) (upd H l (.tup ys))) ∨ (SqT K H p ys ∧ Q (.ref p) H))) oTupOf := opG_ok fun B H vs ds res Q e hs hp k => by
  unfold pTupOf at hp
  split at hp
  · obtain ⟨x, rfl, p, xs, rfl, s1, d1⟩ := hs.one
    cases hp
    exact ⟨p, xs, rfl, Or.inl ⟨s1, fun l hl => k.tup e hl d1⟩⟩
  · obtain ⟨x, rfl, h1⟩ := hs.one
    obtain ⟨p, xs, rfl, s1, d1⟩ := h1.tup
    cases hp
    exact ⟨p, xs, rfl, Or.inr ⟨sqt_mono e s1, k.same e (.tup s1 d1)⟩⟩
  · cases hp
/-! unary minus -/
def pNeg : List D → Option Rd'
  | [.int i] => some (.pd (.int (-i)))
  | _ => none
def oNeg := opG pNeg
def eUn (fa : M Rs) (op : List Rs → M Rs) : M Rs := M.bind (aCons fa aNil) op
theorem de_neg {vs0 : List V} {a : Expr} {fa : M Rs} {pos : Pos} (ha : PE X a (rdE X.K vs0 fa)) : PE X (.UnaryOp .USub a pos) (rdE X.K vs0 (eUn fa oNeg)) := PE.imp (pe_un un_neg ha) fun σ H Q q => by
  have ho : OpOk X.K (fun vs H Q => ∃ x, vs = [x] ∧ rU (fun i => .int (-i)) x H Q) oNeg := opG_ok fun B H vs ds res Q e hs hp k => by
    unfold pNeg at hp
    split at hp
    · obtain ⟨x, rfl, h1⟩ := hs.one
      cases hp
      exact ⟨_, rfl, _, h1.int, k.int e⟩
    · cases hp
  refine rdE_imp (rd_cons (rd_op ho q)) fun x H1 q1 => ?_
  obtain ⟨x', e, q2⟩ := rdA_nil q1
  cases e
  exact q2
end
end Pd

set_option Elab.async false
set_option linter.all false
set_option maxRecDepth 100000
set_option maxHeartbeats 1000000
namespace Pd
open PySem PySem.Spec PyProof.Rows L2

/-! ### a list becomes data -/
def freezeR : Rs → M D
  | .own (.p d) => M.ret d
  | .own (.ml _ l) => M.ret (.list l)
  | .own _ => M.fail
  | .bor i => fun ρ => match ρ[i]? with
    | some (some (.ml none l)) => some (.ok (.list l) (ρ.set i (some (.p (.list l)))))
    | some (some (.p d)) => some (.ok d ρ)
    | _ => none
  | .lent _ _ _ => M.fail
def freezeAll : List Rs → M (List D)
  | [] => M.ret []
  | r :: rs => M.bind (freezeR r) fun d => M.bind (freezeAll rs) fun ds => M.ret (d :: ds)
section
variable {K : PySem.W.Frag} {vs0 : List V} {B H : Hp} {σ : L2.St} {ρ : Env} {fs : Nat → List Addr}
theorem Good.slot {i : Nat} {s : Sl} (g : Good K vs0 B H σ ρ fs) (e : ρ[i]? = some (some s)) : ∃ v, σ[i]? = some (some v) ∧ Own K B H v s (fs i) := by
  obtain ⟨v, h1, h2, _⟩ := g.at_ i s e
  exact ⟨v, h1, h2⟩
/-- slot i holds something else now -/
theorem Good.put {i : Nat} {s : Sl} {T : List Addr} {v : V} (g : Good K vs0 B H σ ρ fs) (hi : i < ρ.length) (o : Own K B H v s T) (ht : ∀ k, s.tag = some k → vs0[k]? = some v) (hT : ∀ a ∈ T, B a = none ∧ ∀ j, j ≠ i → a ∉ fs j) :
    Good K vs0 B H (σ.set i (some v)) (ρ.set i (some s)) (fun j => if j = i then T else fs j) where
  ext := g.ext
  len := by simp [g.len]
  at_ := fun j s' h => by
    by_cases e : j = i
    · subst e
      rw [List.getElem?_set_self hi] at h
      cases h
      refine ⟨v, List.getElem?_set_self (by rw [g.len]; exact hi), ?_, ht⟩
      rw [if_pos rfl]
      exact o
    · rw [List.getElem?_set_ne (Ne.symm e)] at h
      obtain ⟨v', h1, h2, h3⟩ := g.at_ j s' h
      refine ⟨v', by rw [List.getElem?_set_ne (Ne.symm e)]; exact h1, ?_, h3⟩
      rw [if_neg e]
      exact h2
  emp := fun j h => by
    by_cases e : j = i
    · subst e
      exact (h s (List.getElem?_set_self hi)).elim
    · try dsimp only
      rw [if_neg e]
      refine g.emp j fun s' q => h s' ?_
      rw [List.getElem?_set_ne (Ne.symm e)]
      exact q
  dis := fun j k a h1 h2 => by
    try dsimp only at h1 h2
    by_cases ej : j = i
    · by_cases ek : k = i
      · rw [ej, ek]
      · rw [if_pos ej] at h1
        rw [if_neg ek] at h2
        exact ((hT a h1).2 k ek h2).elim
    · by_cases ek : k = i
      · rw [if_neg ej] at h1
        rw [if_pos ek] at h2
        exact ((hT a h2).2 j ej h1).elim
      · rw [if_neg ej] at h1
        rw [if_neg ek] at h2
        exact g.dis j k a h1 h2
  out := fun j a h => by
    try dsimp only at h
    by_cases ej : j = i
    · rw [if_pos ej] at h
      exact (hT a h).1
    · rw [if_neg ej] at h
      exact g.out j a h
/-- slot i is forgotten -/
theorem Good.drop (g : Good K vs0 B H σ ρ fs) (i : Nat) : Good K vs0 B H σ (ρ.set i none) (fun j => if j = i then [] else fs j) where
  ext := g.ext
  len := by simp [g.len]
  at_ := fun j s' h => by
    by_cases e : j = i
    · subst e
      by_cases hi : j < ρ.length
      · rw [List.getElem?_set_self hi] at h
        cases h
      · rw [List.getElem?_eq_none (by simp; omega)] at h
        cases h
    · rw [List.getElem?_set_ne (Ne.symm e)] at h
      obtain ⟨v', h1, h2, h3⟩ := g.at_ j s' h
      refine ⟨v', h1, ?_, h3⟩
      rw [if_neg e]
      exact h2
  emp := fun j h => by
    by_cases e : j = i
    · try dsimp only
      rw [if_pos e]
    · try dsimp only
      rw [if_neg e]
      refine g.emp j fun s' q => h s' ?_
      rw [List.getElem?_set_ne (Ne.symm e)]
      exact q
  dis := fun j k a h1 h2 => by
    try dsimp only at h1 h2
    by_cases ej : j = i
    · rw [if_pos ej] at h1; cases h1
    · by_cases ek : k = i
      · rw [if_pos ek] at h2; cases h2
      · rw [if_neg ej] at h1
        rw [if_neg ek] at h2
        exact g.dis j k a h1 h2
  out := fun j a h => by
    try dsimp only at h
    by_cases ej : j = i
    · rw [if_pos ej] at h; cases h
    · rw [if_neg ej] at h
      exact g.out j a h
/-- an object becomes part of the data -/
theorem Good.thaw {a : Addr} {o : HO} (g : Good K vs0 B H σ ρ fs) (h : H a = some o) (hB : B a = none) (n : ∀ i, a ∉ fs i) : Good K vs0 (upd B a o) H σ ρ fs := by
  have bb : Same B (upd B a o) := fun b u e => by
    rw [upd_ne (ne_of_none e hB)]
    exact e
  refine ⟨fun b u e => ?_, g.len, fun i s e => ?_, g.emp, g.dis, fun i b hb => ?_⟩
  · by_cases q : b = a
    · subst q
      rw [upd_same] at e
      rw [h, e]
    · rw [upd_ne q] at e
      exact g.ext b u e
  · obtain ⟨v, h1, h2, h3⟩ := g.at_ i s e
    exact ⟨v, h1, h2.keep bb fun _ _ => rfl, h3⟩
  · rw [upd_ne (show b ≠ a from fun q => n i (by rw [← q]; exact hb))]
    exact g.out i b hb
theorem Fr.thaw {a : Addr} {o : HO} {F : Addr → Prop} (hB : B a = none) (hF : F a) : Fr B H F (upd B a o) H F := by
  refine ⟨fun b u e => ?_, fun _ _ _ => rfl, fun _ h => h, fun _ f => Or.inl f, fun b _ nf e => ?_⟩
  · rw [upd_ne (ne_of_none e hB)]
    exact e
  · rw [upd_ne (show b ≠ a from fun q => nf (by rw [q]; exact hF))]
    exact e
theorem freezeR_ok {r : Rs} {d : D} {ρ' : Env} {v : V} {T : List Addr} (g : Good K vs0 B H σ ρ fs) (ok : RsOk K B H σ fs v r T) (e : freezeR r ρ = some (.ok d ρ')) :
    ∃ B' fs', Fr B H (UnF (InF fs) T) B' H (InF fs') ∧ Good K vs0 B' H σ ρ' fs' ∧ Dp K B' v d := by
  have drop : Fr B H (UnF (InF fs) T) B H (InF fs) := (Fr.refl B H _).weak (fun _ h => h) fun a h => Or.inl (Or.inl h)
  unfold freezeR at e
  split at e
  · cases e
    exact ⟨B, fs, drop, g, ok.1.1⟩
  · rename_i t l
    cases e
    obtain ⟨⟨a, xs, rfl, rfl, h1, h2⟩, _, h3⟩ := ok
    have hB : B a = none := (h3 a (by simp)).1
    refine ⟨upd B a (.lst xs), fs, (Fr.thaw hB (Or.inr (by simp))).weak (fun _ h => h) fun b h => Or.inl (Or.inl h), g.thaw h1 hB (h3 a (by simp)).2, .lst (SqL.of upd_same) (DpAll.mono ?_ h2)⟩
    exact (Fr.thaw (H := H) (F := fun _ => True) hB True.intro).bb
  · cases e
  · rename_i i
    split at e
    · rename_i l e2
      cases e
      obtain ⟨v', h1, ⟨a, xs, rfl, hfs, h2, h3⟩, _⟩ := g.at_ i _ e2
      obtain ⟨q1, q2⟩ := ok
      rw [h1] at q1
      cases q1
      have hB : B a = none := g.out i a (by rw [hfs]; simp)
      have hi : i < ρ.length := (List.getElem?_eq_some_iff.mp e2).1
      have g1 := g.drop i
      have n1 : ∀ j, a ∉ (fun j => if j = i then [] else fs j) j := fun j hj => by
        try dsimp only at hj
        by_cases q : j = i
        · rw [if_pos q] at hj; cases hj
        · rw [if_neg q] at hj
          exact q (g.dis j i a hj (by rw [hfs]; simp))
      have g2 := g1.thaw h2 hB n1
      have hd : Dp K (upd B a (.lst xs)) (.ref a) (.list l) := .lst (SqL.of upd_same) (DpAll.mono (Fr.thaw (H := H) (F := fun _ => True) hB True.intro).bb h3)
      have g3 := g2.put (i := i) (v := .ref a) (s := .p (.list l)) (T := []) (by simpa using hi) ⟨hd, rfl⟩ (fun k h => nomatch h) (fun b hb => nomatch hb)
      rw [List.set_set] at g3
      have es : σ.set i (some (.ref a)) = σ := by
        apply List.ext_getElem?
        intro j
        by_cases q : j = i
        · subst q
          rw [List.getElem?_set_self (by rw [g.len]; exact hi), h1]
        · rw [List.getElem?_set_ne (Ne.symm q)]
      rw [es] at g3
      refine ⟨_, _, (Fr.thaw hB (Or.inl ⟨i, by rw [hfs]; simp⟩)).weak (fun _ h => h) fun b h => ?_, g3, hd⟩
      obtain ⟨j, hj⟩ := h
      try dsimp only at hj
      by_cases q : j = i
      · rw [if_pos q] at hj; cases hj
      · rw [if_neg q, if_neg q] at hj
        exact Or.inl (Or.inl ⟨j, hj⟩)
    · rename_i d' e2
      cases e
      obtain ⟨v', h1, h2, _⟩ := g.at_ i _ e2
      obtain ⟨q1, q2⟩ := ok
      rw [h1] at q1
      cases q1
      exact ⟨B, fs, drop, g, h2.1⟩
    · cases e
  · cases e
theorem freezeAll_ok : ∀ {rs : List Rs} {vs : List V} {Ts : List (List Addr)} {ds : List D} {B : Hp} {ρ ρ' : Env} {fs : Nat → List Addr}, Good K vs0 B H σ ρ fs → RsAll K B H σ fs vs rs Ts → Ts.flatten.Nodup → freezeAll rs ρ = some (.ok ds ρ') →
    ∃ B' fs', Fr B H (UnF (InF fs) Ts.flatten) B' H (InF fs') ∧ Good K vs0 B' H σ ρ' fs' ∧ DpAll K B' vs ds
  | [], vs, Ts, ds, B, ρ, ρ', fs, g, ok, nd, e => by
    match vs, Ts, ok with
    | [], [], _ =>
      cases e
      exact ⟨B, fs, (Fr.refl B H _).weak (fun _ h => h) fun a h => Or.inl (Or.inl h), g, .nil⟩
  | r :: rs, vs, Ts, ds, B, ρ, ρ', fs, g, ok, nd, e => by
    match vs, Ts, ok with
    | v :: vs, T :: Ts, ok =>
      obtain ⟨d, ρ1, e1, e2⟩ := M.bind_ok e
      obtain ⟨ds', ρ2, e3, e4⟩ := M.bind_ok e2
      cases e4
      obtain ⟨B1, fs1, fr1, g1, d1⟩ := freezeR_ok g ok.1 e1
      rw [List.flatten_cons, List.nodup_append] at nd
      have ok2 : RsAll K B1 H σ fs1 vs rs Ts := RsAll.keep fr1 (fun _ h => h) ok.2 fun a ha f => by
        rcases f with f | f
        · exact RsAll.off ok.2 a ha f
        · exact nd.2.2 a f a ha rfl
      obtain ⟨B2, fs2, fr2, g2, d2⟩ := freezeAll_ok g1 ok2 nd.2.1 e3
      refine ⟨B2, fs2, ?_, g2, .cons (Dp.mono fr2.bb d1) d2⟩
      refine ((fr1.frame Ts.flatten).trans fr2).weak (fun a h => ?_) fun a h => Or.inl h
      rcases h with (h | h) | h
      · exact Or.inl h
      · exact Or.inr (by rw [List.flatten_cons]; exact List.mem_append_left _ h)
      · exact Or.inr (by rw [List.flatten_cons]; exact List.mem_append_right _ h)
end
/-- an operation that keeps its operands -/
def opF (pf : List D → Option Rd') : List Rs → M Rs := fun rs => M.bind (freezeAll rs) fun ds ρ => match pf ds with
  | some res => some (.ok res.rs ρ)
  | none => none
theorem res_ok {K : PySem.W.Frag} {vs0 : List V} {B H : Hp} {σ : L2.St} {ρ : Env} {fs : Nat → List Addr} {res : Rd'} {Q : VK} {F : Addr → Prop} {B0 H0 : Hp} (g : Good K vs0 B H σ ρ fs) (fr0 : Fr B0 H0 F B H (InF fs))
    (k : ∀ v B' H' fs' T, Fr B0 H0 F B' H' (UnF (InF fs') T) → Good K vs0 B' H' σ ρ fs' → RsOk K B' H' σ fs' v res.rs T → Q v H') : ResK K B H Q res := by
  cases res with
  | pd d =>
    intro v B' H' fr ex hd
    refine k v B' H' fs [] (fr0.trans (fr.weak (fun _ f => f.elim) fun a f => ?_)) (g.grow fr (fun _ _ f => f) ex) ⟨⟨hd, rfl⟩, rfl, fun a ha => nomatch ha⟩
    rcases f with f | f
    · exact Or.inr (Or.inl f)
    · cases f
  | nl l =>
    intro p xs hp hd
    have fr := Fr.newL (B := B) (o := HO.lst xs) hp
    refine k (.ref p) B _ fs [p] (fr0.trans (fr.weak (fun _ f => f.elim) fun a f => ?_)) (g.grow fr (fun _ _ f => f) (g.ext.trans fr.sameH)) ⟨⟨p, xs, rfl, rfl, upd_same, hd⟩, rfl, fun a ha => ?_⟩
    · rcases f with f | f
      · exact Or.inr (Or.inl f)
      · exact Or.inl f
    · simp at ha
      subst ha
      refine ⟨?_, fun i hi => g.lives hi hp⟩
      cases e : B a with
      | none => rfl
      | some u => rw [g.ext a u e] at hp; cases hp
theorem opF_ok {K : PySem.W.Frag} {r : List V → Hp → VK → Prop} {pf : List D → Option Rd'} (h : ∀ B H vs ds res Q, Same B H → DpAll K B vs ds → pf ds = some res → ResK K B H Q res → r vs H Q) : OpOk K r (opF pf) := by
  intro vs0 σ B H ρ fs vs rs Ts Q g ok nd r' ρ' e k
  obtain ⟨ds, ρ1, e1, e2⟩ := M.bind_ok e
  obtain ⟨B1, fs1, fr1, g1, d1⟩ := freezeAll_ok g ok nd e1
  split at e2
  · rename_i res e3
    cases e2
    exact h B1 H vs ds res Q g1.ext d1 e3 (res_ok g1 fr1 k)
  · cases e2
/-! ### displays -/
def pTup : List D → Option Rd' := fun ds => if ds.length ≤ sizeLine then some (.pd (.tuple ds)) else none
def pLst : List D → Option Rd' := fun ds => if ds.length ≤ sizeLine then some (.nl ds) else none
def oTup := opF pTup
def oLst := opF pLst
section
variable {X : Cx} {vs0 : List V} {K : PySem.W.Frag}
theorem oTup_ok : OpOk K (fun xs H1 Q => xs.length ≤ sizeLine ∧ ∀ p, H1 p = none → Q (.ref p) (upd H1 p (.tup xs))) oTup := opF_ok fun B H vs ds res Q e hs hp k => by
  unfold pTup at hp
  split at hp
  · rename_i hl
    cases hp
    exact ⟨by rw [DpAll.length hs]; exact hl, fun p hp => k.tup e hp hs⟩
  · cases hp
theorem oLst_ok : OpOk K (fun xs H1 Q => xs.length ≤ sizeLine ∧ ∀ p, H1 p = none → Q (.ref p) (upd H1 p (.lst xs))) oLst := opF_ok fun B H vs ds res Q e hs hp k => by
  unfold pLst at hp
  split at hp
  · rename_i hl
    cases hp
    exact ⟨by rw [DpAll.length hs]; exact hl, fun p hp => k p vs hp hs⟩
  · cases hp
theorem de_tup {es : List Expr} {fa : M (List Rs)} {x1 pos} (h : PA X es (rdA X.K vs0 fa)) : PE X (.Tuple es x1 pos) (rdE X.K vs0 (M.bind fa oTup)) := PE.imp (pe_tup h) fun _ _ _ q => rd_op oTup_ok q
theorem de_lst {es : List Expr} {fa : M (List Rs)} {pos} (h : PA X es (rdA X.K vs0 fa)) : PE X (.List es pos) (rdE X.K vs0 (M.bind fa oLst)) := PE.imp (pe_lst h) fun _ _ _ q => rd_op oLst_ok q
end
/-! ### truths -/
def mTest (f : M Rs) : M Bool := M.bind f fun r ρ => match r.view ρ with
  | some (.bool b) => some (.ok b ρ)
  | _ => none
def eAnd (fa fb : M Rs) : M Rs := M.bind (mTest fa) fun b => if b = true then fb else eC (.bool false)
def eOr (fa fb : M Rs) : M Rs := M.bind (mTest fa) fun b => if b = true then eC (.bool true) else fb
def eNot (fa : M Rs) : M Rs := M.bind (mTest fa) fun b => eC (.bool (!b))
def eIf (c : M Bool) (fa fb : M Rs) : M Rs := M.bind c fun b => if b = true then fa else fb
def tAnd' (c d : M Bool) : M Bool := M.bind c fun b => if b = true then d else M.ret false
def tOr' (c d : M Bool) : M Bool := M.bind c fun b => if b = true then M.ret true else d
def tNot' (c : M Bool) : M Bool := M.bind c fun b => M.ret (!b)
section
variable {X : Cx} {vs0 : List V} {K : PySem.W.Frag} {a b : Expr} {fa fb : M Rs} {ca cb : M Bool} {pos : Pos} {rest : List Expr}
theorem rd_test {f : M Rs} {α : Type} {g : Bool → M α} {σ : L2.St} {H : Hp} {B : Hp} {ρ : Env} {fs : Nat → List Addr} {b : α} {ρ' : Env} {Q : VK} (gd : Good K vs0 B H σ ρ fs) (e : M.bind (mTest f) g ρ = some (.ok b ρ'))
    (k : ∀ c B1 H1 ρ1 fs1, Fr B H (InF fs) B1 H1 (InF fs1) → Good K vs0 B1 H1 σ ρ1 fs1 → g c ρ1 = some (.ok b ρ') → Q (.bl c) H1) : rdE K vs0 f σ H Q := by
  obtain ⟨c, ρ1, e1, e2⟩ := M.bind_ok e
  obtain ⟨r, ρ2, e3, e4⟩ := M.bind_ok e1
  split at e4
  · rename_i c' e5
    cases e4
    refine ⟨B, ρ, fs, gd, r, ρ1, e3, fun v B1 H1 fs1 T fr g1 ok => ?_⟩
    rw [(view_ok g1 ok e5).bool]
    exact k c B1 H1 ρ1 fs1 (fr_drop fr) g1 e2
  · cases e4
theorem de_one {op} {f : M Rs} (h : PE X a (rdE X.K vs0 f)) : PE X (.BoolOp op [a] pos) (rdE X.K vs0 f) := pe_one h
theorem de_and (ha : PE X a (rdE X.K vs0 fa)) (hb : PE X (.BoolOp .And (b :: rest) pos) (rdE X.K vs0 fb)) : PE X (.BoolOp .And (a :: b :: rest) pos) (rdE X.K vs0 (eAnd fa fb)) := PE.imp (pe_and ha hb) fun σ H Q q => by
  obtain ⟨B, ρ, fs, g, r, ρ', e, k⟩ := q
  refine rd_test g e fun c B1 H1 ρ1 fs1 fr1 g1 e1 => ⟨c, rfl, ?_⟩
  cases c with
  | true => exact ⟨B1, ρ1, fs1, g1, r, ρ', e1, fun v B2 H2 fs2 T fr2 g2 ok2 => k v B2 H2 fs2 T (fr1.trans fr2) g2 ok2⟩
  | false =>
    cases e1
    exact k _ B1 H1 fs1 [] (fr1.trans fr_unr) g1 ⟨⟨.bl false, rfl⟩, rfl, fun a ha => nomatch ha⟩
theorem de_or (ha : PE X a (rdE X.K vs0 fa)) (hb : PE X (.BoolOp .Or (b :: rest) pos) (rdE X.K vs0 fb)) : PE X (.BoolOp .Or (a :: b :: rest) pos) (rdE X.K vs0 (eOr fa fb)) := PE.imp (pe_or ha hb) fun σ H Q q => by
  obtain ⟨B, ρ, fs, g, r, ρ', e, k⟩ := q
  refine rd_test g e fun c B1 H1 ρ1 fs1 fr1 g1 e1 => ⟨c, rfl, ?_⟩
  cases c with
  | false => exact ⟨B1, ρ1, fs1, g1, r, ρ', e1, fun v B2 H2 fs2 T fr2 g2 ok2 => k v B2 H2 fs2 T (fr1.trans fr2) g2 ok2⟩
  | true =>
    cases e1
    exact k _ B1 H1 fs1 [] (fr1.trans fr_unr) g1 ⟨⟨.bl true, rfl⟩, rfl, fun a ha => nomatch ha⟩
theorem de_not (ha : PE X a (rdE X.K vs0 fa)) : PE X (.UnaryOp .Not a pos) (rdE X.K vs0 (eNot fa)) := PE.imp (pe_not ha) fun σ H Q q => by
  obtain ⟨B, ρ, fs, g, r, ρ', e, k⟩ := q
  refine rd_test g e fun c B1 H1 ρ1 fs1 fr1 g1 e1 => ⟨c, rfl, ?_⟩
  cases e1
  exact k _ B1 H1 fs1 [] (fr1.trans fr_unr) g1 ⟨⟨.bl _, rfl⟩, rfl, fun a ha => nomatch ha⟩
theorem dt_val {e : Expr} (h : PE X e (rdE X.K vs0 fa)) (he : ∀ whole, isTrue e X.env whole = (do let v ← whole; standAt e.pos; holding [v] (truthy v)) := by intro _; rfl) : PT X e (rdT X.K vs0 (mTest fa)) := PT.imp (pt_val h he) fun σ H Q q => by
  obtain ⟨B, ρ, fs, g, b, ρ', e, k⟩ := q
  obtain ⟨r, ρ2, e3, e4⟩ := M.bind_ok e
  split at e4
  · rename_i c' e5
    cases e4
    refine ⟨B, ρ, fs, g, r, ρ', e3, fun v B1 H1 fs1 T fr g1 ok => ⟨b, (view_ok g1 ok e5).bool, k B1 H1 fs1 (fr_drop fr) g1⟩⟩
  · cases e4
theorem rd_t {α : Type} {g : Bool → M α} {σ : L2.St} {H : Hp} {B : Hp} {ρ : Env} {fs : Nat → List Addr} {b : α} {ρ' : Env} {Q : Bool → Hp → Prop} (gd : Good K vs0 B H σ ρ fs) (e : M.bind ca g ρ = some (.ok b ρ'))
    (k : ∀ c B1 H1 ρ1 fs1, Fr B H (InF fs) B1 H1 (InF fs1) → Good K vs0 B1 H1 σ ρ1 fs1 → g c ρ1 = some (.ok b ρ') → Q c H1) : rdT K vs0 ca σ H Q := by
  obtain ⟨c, ρ1, e1, e2⟩ := M.bind_ok e
  exact ⟨B, ρ, fs, gd, c, ρ1, e1, fun B1 H1 fs1 fr g1 => k c B1 H1 ρ1 fs1 fr g1 e2⟩
theorem dw_and1 (ha : PT X a (rdT X.K vs0 ca)) : PW X (.BoolOp .And [a] pos) (rdT X.K vs0 ca) := pw_and1 ha
theorem dw_or1 (ha : PT X a (rdT X.K vs0 ca)) : PW X (.BoolOp .Or [a] pos) (rdT X.K vs0 ca) := pw_or1 ha
theorem dw_and (ha : PT X a (rdT X.K vs0 ca)) (hb : PW X (.BoolOp .And (b :: rest) pos) (rdT X.K vs0 cb)) : PW X (.BoolOp .And (a :: b :: rest) pos) (rdT X.K vs0 (tAnd' ca cb)) := PW.imp (pw_and ha hb) fun σ H Q q => by
  obtain ⟨B, ρ, fs, g, r, ρ', e, k⟩ := q
  refine rd_t g e fun c B1 H1 ρ1 fs1 fr1 g1 e1 => ?_
  cases c with
  | true => exact ⟨B1, ρ1, fs1, g1, r, ρ', e1, fun B2 H2 fs2 fr2 g2 => k B2 H2 fs2 (fr1.trans fr2) g2⟩
  | false =>
    cases e1
    exact k B1 H1 fs1 fr1 g1
theorem dw_or (ha : PT X a (rdT X.K vs0 ca)) (hb : PW X (.BoolOp .Or (b :: rest) pos) (rdT X.K vs0 cb)) : PW X (.BoolOp .Or (a :: b :: rest) pos) (rdT X.K vs0 (tOr' ca cb)) := PW.imp (pw_or ha hb) fun σ H Q q => by
  obtain ⟨B, ρ, fs, g, r, ρ', e, k⟩ := q
  refine rd_t g e fun c B1 H1 ρ1 fs1 fr1 g1 e1 => ?_
  cases c with
  | false => exact ⟨B1, ρ1, fs1, g1, r, ρ', e1, fun B2 H2 fs2 fr2 g2 => k B2 H2 fs2 (fr1.trans fr2) g2⟩
  | true =>
    cases e1
    exact k B1 H1 fs1 fr1 g1
theorem dt_not (ha : PT X a (rdT X.K vs0 ca)) : PT X (.UnaryOp .Not a pos) (rdT X.K vs0 (tNot' ca)) := PT.imp (pt_not ha) fun σ H Q q => by
  obtain ⟨B, ρ, fs, g, r, ρ', e, k⟩ := q
  refine rd_t g e fun c B1 H1 ρ1 fs1 fr1 g1 e1 => ?_
  cases e1
  exact k B1 H1 fs1 fr1 g1
theorem de_if {c : Expr} (hc : PT X c (rdT X.K vs0 ca)) (ha : PE X a (rdE X.K vs0 fa)) (hb : PE X b (rdE X.K vs0 fb)) : PE X (.IfExp c a b pos) (rdE X.K vs0 (eIf ca fa fb)) := PE.imp (pe_ifExp hc ha hb) fun σ H Q q => by
  obtain ⟨B, ρ, fs, g, r, ρ', e, k⟩ := q
  refine rd_t g e fun c B1 H1 ρ1 fs1 fr1 g1 e1 => ?_
  cases c with
  | true => exact ⟨B1, ρ1, fs1, g1, r, ρ', e1, fun v B2 H2 fs2 T fr2 g2 ok2 => k v B2 H2 fs2 T (fr1.trans fr2) g2 ok2⟩
  | false => exact ⟨B1, ρ1, fs1, g1, r, ρ', e1, fun v B2 H2 fs2 T fr2 g2 ok2 => k v B2 H2 fs2 T (fr1.trans fr2) g2 ok2⟩
end

/-! ### chains of comparisons -/
def eChain (fa fb fc : M Rs) (op op' : List Rs → M Rs) : M Rs := M.bind fa fun x => M.bind fb fun y => match y with
  | .own (.p d) => M.bind (mTest (op [x, .own (.p d)])) fun b => if b = true then M.bind fc fun z => op' [.own (.p d), z] else eC (.bool false)
  | _ => M.fail

/-! ### statements -/
def gSeq (g1 g2 : M Fl) : M Fl := M.bind g1 fun fl => match fl with
  | .nx => g2
  | fl => M.ret fl
def gNext : M Fl := M.ret .nx
def gExpr (f : M Rs) : M Fl := M.bind f fun _ => M.ret .nx
def gIf (c : M Bool) (g1 g2 : M Fl) : M Fl := M.bind c fun b => if b = true then g1 else g2
def takeR : Rs → M Sl
  | .own s => M.ret s
  | .bor i => fun ρ => match ρ[i]? with
    | some (some s) => some (.ok s (ρ.set i none))
    | _ => none
  | .lent _ _ _ => M.fail
def gSet (i : Nat) (f : M Rs) : M Fl := M.bind f fun r => M.bind (takeR r) fun s ρ => if i < ρ.length then some (.ok .nx (ρ.set i (some s))) else none
def gRet (f : M Rs) : M Fl := M.bind f fun r => M.bind (takeR r) fun s => if s.tag = none then M.ret (.rt s) else M.fail
section
variable {K : PySem.W.Frag} {vs0 : List V} {B H : Hp} {σ : L2.St} {ρ : Env} {fs : Nat → List Addr}
theorem takeR_ok {r : Rs} {s : Sl} {ρ' : Env} {v : V} {T : List Addr} (g : Good K vs0 B H σ ρ fs) (ok : RsOk K B H σ fs v r T) (e : takeR r ρ = some (.ok s ρ')) :
    ∃ fs' T', Good K vs0 B H σ ρ' fs' ∧ Own K B H v s T' ∧ (∀ k, s.tag = some k → vs0[k]? = some v) ∧ (∀ a ∈ T', B a = none ∧ ∀ i, a ∉ fs' i) ∧ (∀ a, UnF (InF fs') T' a → UnF (InF fs) T a) ∧ ρ'.length = ρ.length := by
  cases r with
  | own s' =>
    cases e
    exact ⟨fs, T, g, ok.1, (fun k h => by rw [ok.2.1] at h; cases h), ok.2.2, fun _ h => h, rfl⟩
  | lent i s k => cases e
  | bor i =>
    unfold takeR at e
    try dsimp only at e
    split at e
    · rename_i s' e2
      cases e
      obtain ⟨v', h1, h2, h3⟩ := g.at_ i _ e2
      obtain ⟨q1, q2⟩ := ok
      rw [h1] at q1
      cases q1
      refine ⟨_, fs i, g.drop i, h2, h3, fun a ha => ⟨g.out i a ha, fun j hj => ?_⟩, fun a h => ?_, by simp⟩
      · try dsimp only at hj
        by_cases q : j = i
        · rw [if_pos q] at hj; cases hj
        · rw [if_neg q] at hj
          exact q (g.dis j i a hj ha)
      · rcases h with ⟨j, hj⟩ | h
        · try dsimp only at hj
          by_cases q : j = i
          · rw [if_pos q] at hj; cases hj
          · rw [if_neg q] at hj
            exact Or.inl ⟨j, hj⟩
        · exact Or.inl ⟨i, h⟩
    · cases e
end
section
variable {X : Cx} {vs0 : List V} {st : Stmt} {rest : List Stmt} {g g1 g2 : M Fl} {f : M Rs} {e : Expr} {pos : Pos}
theorem dss_nil : PSs X [] (rdS X.K vs0 gNext) := PSs.imp pss_nil fun D σ H q => by
  obtain ⟨B, ρ, fs, gd, fl, ρ', e1, k⟩ := q
  cases e1
  exact k σ B H fs (Fr.refl _ _ _) gd
theorem ds_pass : PS X (.Pass pos) (rdS X.K vs0 gNext) := PS.imp ps_pass fun D σ H q => by
  obtain ⟨B, ρ, fs, gd, fl, ρ', e1, k⟩ := q
  cases e1
  exact k σ B H fs (Fr.refl _ _ _) gd
theorem dss_one (h : PS X st (rdS X.K vs0 g)) : PSs X [st] (rdS X.K vs0 g) := pss_one h
theorem dss_cons (h1 : PS X st (rdS X.K vs0 g1)) (h2 : PSs X rest (rdS X.K vs0 g2)) : PSs X (st :: rest) (rdS X.K vs0 (gSeq g1 g2)) := PSs.imp (pss_cons h1 h2) fun D σ H q => by
  obtain ⟨B, ρ, fs, gd, fl, ρ', e1, k⟩ := q
  obtain ⟨fl1, ρ1, e2, e3⟩ := M.bind_ok e1
  refine ⟨B, ρ, fs, gd, fl1, ρ1, e2, ?_⟩
  cases fl1 with
  | nx =>
    intro σ1 B1 H1 fs1 fr1 g1
    refine ⟨B1, ρ1, fs1, g1, fl, ρ', e3, ?_⟩
    cases fl with
    | nx => exact fun σ2 B2 H2 fs2 fr2 g2 => k σ2 B2 H2 fs2 (fr1.trans fr2) g2
    | bk => exact fun σ2 B2 H2 fs2 fr2 g2 => k σ2 B2 H2 fs2 (fr1.trans fr2) g2
    | ct => exact fun σ2 B2 H2 fs2 fr2 g2 => k σ2 B2 H2 fs2 (fr1.trans fr2) g2
    | rt s => exact fun v σ2 B2 H2 fs2 T fr2 g2 ok => k v σ2 B2 H2 fs2 T (fr1.trans fr2) g2 ok
  | bk => cases e3; exact k
  | ct => cases e3; exact k
  | rt s => cases e3; exact k
theorem ds_expr (he : PE X e (rdE X.K vs0 f)) (hs : swapsWith e none pos.line X.env = pure false := by rfl) : PS X (.Expr e pos) (rdS X.K vs0 (gExpr f)) := PS.imp (ps_expr he hs) fun D σ H q => by
  obtain ⟨B, ρ, fs, gd, fl, ρ', e1, k⟩ := q
  obtain ⟨r, ρ1, e2, e3⟩ := M.bind_ok e1
  cases e3
  exact ⟨B, ρ, fs, gd, r, ρ', e2, fun v B1 H1 fs1 T fr g1 ok => k σ B1 H1 fs1 (fr_drop fr) g1⟩
theorem ds_doc {x j pos pos'} : PS X (.Expr (.Constant (.str x) j pos) pos') (rdS X.K vs0 gNext) := PS.imp ps_doc fun D σ H q => by
  obtain ⟨B, ρ, fs, gd, fl, ρ', e1, k⟩ := q
  cases e1
  exact k σ B H fs (Fr.refl _ _ _) gd
theorem ds_if {c : Expr} {a b : List Stmt} {mc : M Bool} (hc : PT X c (rdT X.K vs0 mc)) (ha : PSs X a (rdS X.K vs0 g1)) (hb : PSs X b (rdS X.K vs0 g2)) : PS X (.If c a b pos) (rdS X.K vs0 (gIf mc g1 g2)) := PS.imp (ps_if hc ha hb) fun D σ H q => by
  obtain ⟨B, ρ, fs, gd, fl, ρ', e1, k⟩ := q
  refine rd_t gd e1 fun c B1 H1 ρ1 fs1 fr1 g1 e2 => ?_
  have k' : ∀ g : M Fl, g ρ1 = some (.ok fl ρ') → rdS X.K vs0 g D σ H1 := fun g e => ⟨B1, ρ1, fs1, g1, fl, ρ', e, by
    cases fl with
    | nx => exact fun σ2 B2 H2 fs2 fr2 g2 => k σ2 B2 H2 fs2 (fr1.trans fr2) g2
    | bk => exact fun σ2 B2 H2 fs2 fr2 g2 => k σ2 B2 H2 fs2 (fr1.trans fr2) g2
    | ct => exact fun σ2 B2 H2 fs2 fr2 g2 => k σ2 B2 H2 fs2 (fr1.trans fr2) g2
    | rt s => exact fun v σ2 B2 H2 fs2 T fr2 g2 ok => k v σ2 B2 H2 fs2 T (fr1.trans fr2) g2 ok⟩
  cases c with
  | true => exact k' _ e2
  | false => exact k' _ e2
theorem rd_ret {D : Ends} {σ : L2.St} {H : Hp} {K : PySem.W.Frag} (q : rdS K vs0 (gRet f) D σ H) : tRet (rdE K vs0 f) D σ H := by
  obtain ⟨B, ρ, fs, gd, fl, ρ', e1, k⟩ := q
  obtain ⟨r, ρ1, e2, e3⟩ := M.bind_ok e1
  obtain ⟨s, ρ2, e4, e5⟩ := M.bind_ok e3
  split at e5
  · rename_i ht
    cases e5
    refine ⟨B, ρ, fs, gd, r, ρ1, e2, fun v B1 H1 fs1 T fr g1 ok => ?_⟩
    obtain ⟨fs2, T2, g2, o2, _, n2, s2, _⟩ := takeR_ok g1 ok e4
    exact k v σ B1 H1 fs2 T2 (fr.weak (fun _ h => h) fun a h => Or.inl (s2 a h)) g2 ⟨o2, ht, n2⟩
  · cases e5
theorem ds_ret (he : PE X e (rdE X.K vs0 f)) : PS X (.Return (some e) pos) (rdS X.K vs0 (gRet f)) := PS.imp (ps_ret he) fun D σ H q => rd_ret q
def gRetN : M Fl := M.ret (.rt (.p .none))
theorem ds_retN : PS X (.Return none pos) (rdS X.K vs0 gRetN) := PS.imp ps_retN fun D σ H q => by
  obtain ⟨B, ρ, fs, gd, fl, ρ', e1, k⟩ := q
  cases e1
  exact k .non σ B H fs [] fr_unr gd ⟨⟨.non, rfl⟩, rfl, fun a ha => nomatch ha⟩
theorem rd_set {i : Nat} {D : Ends} {σ : L2.St} {H : Hp} {K : PySem.W.Frag} (q : rdS K vs0 (gSet i f) D σ H) : tAsg (rdE K vs0 f) (gName i) D σ H := by
  obtain ⟨B, ρ, fs, gd, fl, ρ', e1, k⟩ := q
  obtain ⟨r, ρ1, e2, e3⟩ := M.bind_ok e1
  obtain ⟨s, ρ2, e4, e5⟩ := M.bind_ok e3
  split at e5
  · rename_i hi
    cases e5
    refine ⟨B, ρ, fs, gd, r, ρ1, e2, fun v B1 H1 fs1 T fr g1 ok => ?_⟩
    obtain ⟨fs2, T2, g2, o2, t2, n2, s2, _⟩ := takeR_ok g1 ok e4
    refine k _ B1 H1 _ (fr.weak (fun _ h => h) fun a h => Or.inl (s2 a ?_)) (g2.put hi o2 t2 fun a ha => ⟨(n2 a ha).1, fun j _ => (n2 a ha).2 j⟩)
    obtain ⟨j, hj⟩ := h
    try dsimp only at hj
    by_cases q : j = i
    · rw [if_pos q] at hj; exact Or.inr hj
    · rw [if_neg q] at hj; exact Or.inl ⟨j, hj⟩
  · cases e5
theorem ds_set {i : Nat} {x : Str} {pos' : Pos} (hN : X.N.Nodup) (hi : X.N[i]? = some x) (hx : Loc X.env.scope x) (he : PE X e (rdE X.K vs0 f)) (hs : swapsWith e (some (.Name x pos')) pos.line X.env = pure false := by rfl) (hf : X.fn x = true ∨ X.env.scope.names.lookup x = some .local := by first | exact .inl rfl | exact .inr rfl | assumption) :
    PS X (.Assign [.Name x pos'] e pos) (rdS X.K vs0 (gSet i f)) := PS.imp (ps_set hN hi hx he hs hf) fun D σ H q => rd_set q
end
end Pd

set_option Elab.async false
set_option linter.all false
set_option maxRecDepth 100000
set_option maxHeartbeats 1000000
namespace Pd
open PySem PySem.Spec PyProof.Rows L2

/-! ### targets -/
section
variable (K : PySem.W.Frag) (vs0 : List V)
def rdG (is : List Nat) (t : D → Env → Option Env) : TG := fun v σ H Q => ∃ B ρ fs d ρ', Good K vs0 B H σ ρ fs ∧ Dp K B v d ∧ t d ρ = some ρ' ∧ ∀ σ' fs', Good K vs0 B H σ' ρ' fs' → (∀ a, InF fs' a → InF fs a) → (∀ j, j ∉ is → σ'[j]? = σ[j]?) → σ'.length = σ.length → Q σ' H
def rdGs (is : List Nat) (t : List D → Env → Option Env) : TGs := fun vs σ H Q => ∃ B ρ fs ds ρ', Good K vs0 B H σ ρ fs ∧ DpAll K B vs ds ∧ t ds ρ = some ρ' ∧ ∀ σ' fs', Good K vs0 B H σ' ρ' fs' → (∀ a, InF fs' a → InF fs a) → (∀ j, j ∉ is → σ'[j]? = σ[j]?) → σ'.length = σ.length → Q σ' H
end
def tgName (i : Nat) : D → Env → Option Env := fun d ρ => if i < ρ.length then some (ρ.set i (some (.p d))) else none
def tgNil : List D → Env → Option Env := fun ds ρ => match ds with
  | [] => some ρ
  | _ => none
def tgCons (t : D → Env → Option Env) (u : List D → Env → Option Env) : List D → Env → Option Env := fun ds ρ => match ds with
  | d :: r => match t d ρ with
    | some ρ1 => u r ρ1
    | none => none
  | [] => none
def tgTup (n : Nat) (u : List D → Env → Option Env) : D → Env → Option Env := fun d ρ => match d with
  | .tuple l => if l.length = n then u l ρ else none
  | _ => none
theorem PG.imp {X : Cx} {e : Expr} {t t' : TG} (h : PG X e t) (i : ∀ v σ H Q, t' v σ H Q → t v σ H Q) : PG X e t' := ⟨fun pins s σ H v u Q I r q => h.run pins s σ H v u Q I r (i v σ H Q q)⟩
theorem PGs.imp {X : Cx} {e : List Expr} {t t' : TGs} (h : PGs X e t) (i : ∀ v σ H Q, t' v σ H Q → t v σ H Q) : PGs X e t' := ⟨fun pins s σ H v u Q I r q => h.run pins s σ H v u Q I r (i v σ H Q q)⟩
section
variable {X : Cx} {vs0 : List V} {pos : Pos}
theorem dg_name {i : Nat} {x : Str} (hN : X.N.Nodup) (hi : X.N[i]? = some x) (hx : Loc X.env.scope x) (hf : X.fn x = true ∨ X.env.scope.names.lookup x = some .local := by first | exact .inl rfl | exact .inr rfl | assumption) : PG X (.Name x pos) (rdG X.K vs0 [i] (tgName i)) :=
  PG.imp (pg_name hN hi hx hf) fun v σ H Q q => by
    obtain ⟨B, ρ, fs, d, ρ', g, hd, e, k⟩ := q
    unfold tgName at e
    split at e
    · rename_i hl
      cases e
      refine k _ _ (g.put hl (s := .p d) (T := []) ⟨hd, rfl⟩ (fun k h => nomatch h) fun a h => nomatch h) (fun a h => ?_) (fun j hj => by
        rw [List.getElem?_set_ne (fun e => hj (by simp [e]))]) (by simp)
      obtain ⟨j, hj⟩ := h
      dsimp only at hj
      by_cases q : j = i
      · rw [if_pos q] at hj; cases hj
      · rw [if_neg q] at hj; exact ⟨j, hj⟩
    · cases e
theorem dgs_nil : PGs X [] (rdGs X.K vs0 [] tgNil) := PGs.imp pgs_nil fun v σ H Q q => by
  obtain ⟨B, ρ, fs, d, ρ', g, hd, e, k⟩ := q
  unfold tgNil at e
  split at e
  · cases e
    cases hd
    exact ⟨rfl, k σ fs g (fun _ h => h) (fun _ _ => rfl) rfl⟩
  · cases e
theorem dgs_cons {e : Expr} {es : List Expr} {is js : List Nat} {t : D → Env → Option Env} {u : List D → Env → Option Env} (h1 : PG X e (rdG X.K vs0 is t)) (h2 : PGs X es (rdGs X.K vs0 js u))
    (hs : (assignEach (e :: es) X.env).map (·.2) = assign e X.env :: (assignEach es X.env).map (·.2) := by rfl) : PGs X (e :: es) (rdGs X.K vs0 (is ++ js) (tgCons t u)) := PGs.imp (pgs_cons h1 h2 hs) fun vs σ H Q q => by
  obtain ⟨B, ρ, fs, ds, ρ', g, hd, e, k⟩ := q
  unfold tgCons at e
  split at e
  · rename_i d r
    split at e
    · rename_i ρ1 e1
      cases hd with
      | cons h1 h2 =>
        refine ⟨_, _, rfl, B, ρ, fs, d, ρ1, g, h1, e1, fun σ1 fs1 g1 s1 a1 l1 => ⟨B, ρ1, fs1, r, ρ', g1, h2, e, fun σ2 fs2 g2 s2 a2 l2 => k σ2 fs2 g2 (fun a h => s1 a (s2 a h)) (fun j hj => (a2 j fun h => hj (List.mem_append_right _ h)).trans (a1 j fun h => hj (List.mem_append_left _ h))) (l2.trans l1)⟩⟩
    · cases e
  · cases e
theorem dg_tup {es : List Expr} {k : Nat} {is : List Nat} {u : List D → Env → Option Env} {n : Nat} (hc : X.calm = true) (h : PGs X es (rdGs X.K vs0 is u))
    (hn : (assignEach es X.env).length = n := by rfl) (hst : (assignEach es X.env).findIdx? (·.1) = none := by rfl) : PG X (.Tuple es k pos) (rdG X.K vs0 is (tgTup n u)) := PG.imp (pg_tup hc h hn hst) fun v σ H Q q => by
  obtain ⟨B, ρ, fs, d, ρ', g, hd, e, k⟩ := q
  unfold tgTup at e
  split at e
  · rename_i l
    split at e
    · rename_i hl
      cases hd with
      | tup h1 h2 => exact ⟨_, _, rfl, sqt_mono g.ext h1, by rw [DpAll.length h2]; exact hl, B, ρ, fs, l, ρ', g, h2, e, k⟩
    · cases e
  · cases e
end
/-- target = value -/
def gAsg (t : D → Env → Option Env) (f : M Rs) : M Fl := M.bind f fun r => M.bind (freezeR r) fun d ρ => match t d ρ with
  | some ρ' => some (.ok .nx ρ')
  | none => none
theorem ds_asg {X : Cx} {vs0 : List V} {tg e : Expr} {f : M Rs} {is : List Nat} {t : D → Env → Option Env} {pos : Pos} (he : PE X e (rdE X.K vs0 f)) (hg : PG X tg (rdG X.K vs0 is t)) (hs : swapsWithSole [tg] e pos.line X.env = pure false := by rfl) (hw : swappedStores [tg] e X.env = pure none := by rfl)
    (h1 : (assignEach [tg] X.env).map (·.2) = [assign tg X.env] := by rfl) : PS X (.Assign [tg] e pos) (rdS X.K vs0 (gAsg t f)) := PS.imp (ps_asg he hg hs hw h1) fun D σ H q => by
  obtain ⟨B, ρ, fs, gd, fl, ρ', e1, k⟩ := q
  obtain ⟨r, ρ1, e2, e3⟩ := M.bind_ok e1
  obtain ⟨d, ρ2, e4, e5⟩ := M.bind_ok e3
  split at e5
  · rename_i ρ3 e6
    cases e5
    refine ⟨B, ρ, fs, gd, r, ρ1, e2, fun v B1 H1 fs1 T fr g1 ok => ?_⟩
    obtain ⟨B2, fs2, fr2, g2, d2⟩ := freezeR_ok g1 ok e4
    exact ⟨B2, ρ2, fs2, d, ρ', g2, d2, e6, fun σ3 fs3 g3 s3 _ _ => k σ3 B2 H1 fs3 (fr.trans (fr2.weak (fun _ h => h) fun a h => Or.inl (s3 a h))) g3⟩
  · cases e5

/-! ### what is walked -/
def JOk (K : PySem.W.Frag) (B : Hp) (J : It) (l : List D) : Prop := ∀ B2 H2, Same B B2 → Same B2 H2 → ∀ i,
  (∀ d, l[i]? = some d → J.go i H2 ∧ ∀ x H3, J.yld i H2 x H3 → ∃ B3, Fr B2 H2 (fun _ => False) B3 H3 (fun _ => False) ∧ Same B3 H3 ∧ Dp K B3 x d) ∧ (l.length = i → J.stop i H2)
def rdI (K : PySem.W.Frag) (vs0 : List V) (f : M (List D)) : TI := fun σ H R => ∃ B ρ fs, Good K vs0 B H σ ρ fs ∧ ∃ l ρ', f ρ = some (.ok l ρ') ∧
  ∀ J B' H' fs', Fr B H (InF fs) B' H' (InF fs') → Good K vs0 B' H' σ ρ' fs' → JOk K B' J l → R J H'
theorem PI.imp {X : Cx} {tg e : Expr} {t t' : TI} (h : PI X tg e t) (i : ∀ σ H Q, t' σ H Q → t σ H Q) : PI X tg e t' := ⟨fun pins s σ H R I q => h.run pins s σ H R I (i σ H R q)⟩
theorem PI.or {X : Cx} {tg e : Expr} {t t' : TI} (h : PI X tg e t) (h' : PI X tg e t') : PI X tg e (fun σ H Q => t σ H Q ∨ t' σ H Q) := ⟨fun pins s σ H R I q => by
  rcases q with q | q
  · exact h.run pins s σ H R I q
  · exact h'.run pins s σ H R I q⟩
def strSigns (z : Str) : List D := z.cps.toList.map fun c => .str ⟨#[c]⟩
def mSeq (f : M Rs) : M (List D) := M.bind f fun r => M.bind (freezeR r) fun d ρ => match d with
  | .list l => some (.ok l ρ)
  | .tuple l => some (.ok l ρ)
  | .str z => some (.ok (strSigns z) ρ)
  | _ => none
theorem jok_list {K : PySem.W.Frag} {B : Hp} {a : Addr} {xs : List V} {l : List D} (h1 : SqL K B a xs) (h2 : DpAll K B xs l) : JOk K B (Itl K a) l := fun B2 H2 s1 s2 i => by
  have hq : SqL K H2 a xs := sql_mono (s1.trans s2) h1
  refine ⟨fun d hd => ?_, fun hl => ⟨xs, hq, by rw [DpAll.length h2]; exact Nat.le_of_eq hl⟩⟩
  obtain ⟨v, e1, e2⟩ := DpAll.get h2 hd
  refine ⟨⟨xs, v, hq, e1⟩, fun x H3 q => ?_⟩
  obtain ⟨rfl, q⟩ := q
  have := q xs hq
  rw [e1] at this
  cases this
  exact ⟨B2, Fr.refl _ _ _, s2, Dp.mono s1 e2⟩
theorem jok_tup {K : PySem.W.Frag} {B : Hp} {a : Addr} {xs : List V} {l : List D} (h1 : SqT K B a xs) (h2 : DpAll K B xs l) : JOk K B (Itt K a) l := fun B2 H2 s1 s2 i => by
  have hq : SqT K H2 a xs := sqt_mono (s1.trans s2) h1
  refine ⟨fun d hd => ?_, fun hl => ⟨xs, hq, by rw [DpAll.length h2]; exact Nat.le_of_eq hl⟩⟩
  obtain ⟨v, e1, e2⟩ := DpAll.get h2 hd
  refine ⟨⟨xs, v, hq, e1⟩, fun x H3 q => ?_⟩
  obtain ⟨rfl, q⟩ := q
  have := q xs hq
  rw [e1] at this
  cases this
  exact ⟨B2, Fr.refl _ _ _, s2, Dp.mono s1 e2⟩
theorem jok_str {K : PySem.W.Frag} {B : Hp} {z : Str} : JOk K B (Its z) (strSigns z) := fun B2 H2 s1 s2 i => by
  unfold strSigns
  refine ⟨fun d hd => ?_, fun hl => by
    have hl := Nat.le_of_eq hl
    rw [List.length_map] at hl
    simpa [Its] using hl⟩
  rw [List.getElem?_map] at hd
  cases e : z.cps.toList[i]? with
  | none => rw [e] at hd; cases hd
  | some c =>
    rw [e] at hd
    cases hd
    have e' : z.cps[i]? = some c := by simpa using e
    refine ⟨by
      show i < z.cps.size
      exact (Array.getElem?_eq_some_iff.mp e').1, fun x H3 q => ?_⟩
    obtain ⟨rfl, c', q1, rfl⟩ := q
    rw [e'] at q1
    cases q1
    exact ⟨B2, Fr.refl _ _ _, s2, .str _⟩
section
variable {X : Cx} {vs0 : List V} {tg : Expr}
theorem di_seq {e : Expr} {f : M Rs} (he : PE X e (rdE X.K vs0 f)) : PI X tg e (rdI X.K vs0 (mSeq f)) := PI.imp (PI.or (pi_list he) (PI.or (pi_tup he) (pi_str he))) fun σ H R q => by
  obtain ⟨B, ρ, fs, g, l, ρ', e1, k⟩ := q
  obtain ⟨r, ρ1, e2, e3⟩ := M.bind_ok e1
  obtain ⟨d, ρ2, e4, e5⟩ := M.bind_ok e3
  split at e5
  · cases e5
    refine Or.inl ⟨B, ρ, fs, g, r, ρ1, e2, fun v B1 H1 fs1 T fr g1 ok => ?_⟩
    obtain ⟨B2, fs2, fr2, g2, d2⟩ := freezeR_ok g1 ok e4
    cases d2 with
    | lst h1 h2 => exact ⟨_, rfl, ⟨_, sql_mono g2.ext h1⟩, k _ B2 H1 fs2 (fr.trans fr2) g2 (jok_list h1 h2)⟩
  · cases e5
    refine Or.inr (Or.inl ⟨B, ρ, fs, g, r, ρ1, e2, fun v B1 H1 fs1 T fr g1 ok => ?_⟩)
    obtain ⟨B2, fs2, fr2, g2, d2⟩ := freezeR_ok g1 ok e4
    cases d2 with
    | tup h1 h2 => exact ⟨_, rfl, ⟨_, sqt_mono g2.ext h1⟩, k _ B2 H1 fs2 (fr.trans fr2) g2 (jok_tup h1 h2)⟩
  · cases e5
    refine Or.inr (Or.inr ⟨B, ρ, fs, g, r, ρ1, e2, fun v B1 H1 fs1 T fr g1 ok => ?_⟩)
    obtain ⟨B2, fs2, fr2, g2, d2⟩ := freezeR_ok g1 ok e4
    cases d2
    exact ⟨_, rfl, k _ B2 H1 fs2 (fr.trans fr2) g2 jok_str⟩
  · cases e5
/-! ranges -/
def rngD (lo : Int) (n : Nat) : List D := (List.range n).map fun (i : Nat) => .int (lo + (i : Int))
theorem jok_rng {K : PySem.W.Frag} {B : Hp} {lo : Int} {n : Nat} : JOk K B (Itr lo n) (rngD lo n) := fun B2 H2 s1 s2 i => by
  unfold rngD
  refine ⟨fun d hd => ?_, fun hl => by
    have hl := Nat.le_of_eq hl
    simpa [Itr] using hl⟩
  rw [List.getElem?_map] at hd
  by_cases hi : i < n
  · rw [List.getElem?_range hi] at hd
    cases hd
    refine ⟨hi, fun x H3 q => ?_⟩
    obtain ⟨rfl, rfl⟩ := q
    exact ⟨B2, Fr.refl _ _ _, s2, .int _⟩
  · rw [List.getElem?_eq_none (by simpa using hi)] at hd
    cases hd
def mRng1 (f : M (List Rs)) : M (List D) := M.bind f fun rs ρ => match viewAll rs ρ with
  | some [.int j] => if -(2 ^ 62) ≤ j ∧ j < 2 ^ 62 then some (.ok (rngD 0 j.toNat) ρ) else none
  | _ => none
def mRng2 (f : M (List Rs)) : M (List D) := M.bind f fun rs ρ => match viewAll rs ρ with
  | some [.int i, .int j] => if -(2 ^ 62) ≤ i ∧ i < 2 ^ 62 ∧ -(2 ^ 62) ≤ j ∧ j < 2 ^ 62 then some (.ok (rngD i (j - i).toNat) ρ) else none
  | _ => none
theorem di_range1 {a : Expr} {fa : M (List Rs)} {p pos : Pos} (hg : Gl X "range") (hm : X.mg "range" = none) (ha : PA X [a] (rdA X.K vs0 fa)) (hs : starEach [a] X.env = [(false, eval a X.env)] := by rfl) : PI X tg (.Call (.Name "range" p) [a] [] pos) (rdI X.K vs0 (mRng1 fa)) :=
  PI.imp (pi_range1 hg hm ha hs) fun σ H R q => by
    obtain ⟨B, ρ, fs, g, l, ρ', e1, k⟩ := q
    obtain ⟨rs, ρ1, e2, e3⟩ := M.bind_ok e1
    split at e3
    · rename_i j e4
      split at e3
      · rename_i hj
        cases e3
        refine ⟨B, ρ, fs, g, rs, ρ', e2, fun vs B1 H1 fs1 Ts fr g1 ok nd => ?_⟩
        obtain ⟨x, rfl, h1⟩ := (viewAll_ok g1 ok e4).one
        exact ⟨j, by rw [h1.int], hj.1, hj.2, k _ B1 H1 fs1 (fr_drop fr) g1 jok_rng⟩
      · cases e3
    · cases e3
theorem di_range2 {a b : Expr} {fa : M (List Rs)} {p pos : Pos} (hg : Gl X "range") (hm : X.mg "range" = none) (ha : PA X [a, b] (rdA X.K vs0 fa)) (hs : starEach [a, b] X.env = [(false, eval a X.env), (false, eval b X.env)] := by rfl) (hs2 : starEach [b] X.env = [(false, eval b X.env)] := by rfl) :
    PI X tg (.Call (.Name "range" p) [a, b] [] pos) (rdI X.K vs0 (mRng2 fa)) :=
  PI.imp (pi_range2 hg hm ha hs hs2) fun σ H R q => by
    obtain ⟨B, ρ, fs, g, l, ρ', e1, k⟩ := q
    obtain ⟨rs, ρ1, e2, e3⟩ := M.bind_ok e1
    split at e3
    · rename_i i j e4
      split at e3
      · rename_i hj
        cases e3
        refine ⟨B, ρ, fs, g, rs, ρ', e2, fun vs B1 H1 fs1 Ts fr g1 ok nd => ?_⟩
        obtain ⟨x, y, rfl, h1, h2⟩ := (viewAll_ok g1 ok e4).two
        exact ⟨i, j, by rw [h1.int, h2.int], hj, k _ B1 H1 fs1 (fr_drop fr) g1 jok_rng⟩
      · cases e3
    · cases e3
end
/-! ### for -/
def loopD (t : D → Env → Option Env) (body : M Fl) : List D → M Fl
  | [] => M.ret .nx
  | d :: l => fun ρ => match t d ρ with
    | none => none
    | some ρ1 => match body ρ1 with
      | none => none
      | some (.ok fl ρ2) => match fl with
        | .nx => loopD t body l ρ2
        | .ct => loopD t body l ρ2
        | .bk => some (.ok .nx ρ2)
        | .rt s => some (.ok (.rt s) ρ2)
def gFor (src : M (List D)) (t : D → Env → Option Env) (body : M Fl) : M Fl := M.bind src fun l => loopD t body l
/-- what is wanted behind a statement, by its outcome, from a moment on -/
def Want (K : PySem.W.Frag) (vs0 : List V) (D : Ends) (B H : Hp) (fs : Nat → List Addr) (fl : Fl) (ρ' : Env) : Prop := match fl with
  | .nx => ∀ σ' B' H' fs', Fr B H (InF fs) B' H' (InF fs') → Good K vs0 B' H' σ' ρ' fs' → D.nx σ' H'
  | .bk => ∀ σ' B' H' fs', Fr B H (InF fs) B' H' (InF fs') → Good K vs0 B' H' σ' ρ' fs' → D.bk σ' H'
  | .ct => ∀ σ' B' H' fs', Fr B H (InF fs) B' H' (InF fs') → Good K vs0 B' H' σ' ρ' fs' → D.ct σ' H'
  | .rt s => ∀ v σ' B' H' fs' T, Fr B H (InF fs) B' H' (UnF (InF fs') T) → Good K vs0 B' H' σ' ρ' fs' → RsOk K B' H' σ' fs' v (.own s) T → D.rt v H'
section
variable {K : PySem.W.Frag} {vs0 : List V} {D : Ends} {B H B1 H1 : Hp} {fs fs1 : Nat → List Addr} {fl : Fl} {ρ ρ' : Env}
theorem Want.later (w : Want K vs0 D B H fs fl ρ') (fr : Fr B H (InF fs) B1 H1 (InF fs1)) : Want K vs0 D B1 H1 fs1 fl ρ' := by
  cases fl with
  | nx => exact fun σ2 B2 H2 fs2 fr2 g2 => w σ2 B2 H2 fs2 (fr.trans fr2) g2
  | bk => exact fun σ2 B2 H2 fs2 fr2 g2 => w σ2 B2 H2 fs2 (fr.trans fr2) g2
  | ct => exact fun σ2 B2 H2 fs2 fr2 g2 => w σ2 B2 H2 fs2 (fr.trans fr2) g2
  | rt s => exact fun v σ2 B2 H2 fs2 T fr2 g2 ok => w v σ2 B2 H2 fs2 T (fr.trans fr2) g2 ok
theorem rdS_of {σ : L2.St} {g : M Fl} (gd : Good K vs0 B H σ ρ fs) (e : g ρ = some (.ok fl ρ')) (w : Want K vs0 D B H fs fl ρ') : rdS K vs0 g D σ H := ⟨B, ρ, fs, gd, fl, ρ', e, w⟩
end
theorem loop_end {t : D → Env → Option Env} {body : M Fl} : ∀ {l : List D} {ρ : Env} {fl : Fl} {ρ' : Env}, loopD t body l ρ = some (.ok fl ρ') → (fl = .nx ∨ ∃ s, fl = .rt s)
  | [], ρ, fl, ρ', e => by cases e; exact Or.inl rfl
  | d :: l, ρ, fl, ρ', e => by
    unfold loopD at e
    split at e
    · cases e
    · split at e
      · cases e
      · split at e
        · exact loop_end e
        · exact loop_end e
        · cases e; exact Or.inl rfl
        · cases e; exact Or.inr ⟨_, rfl⟩
section
variable {X : Cx} {vs0 : List V} {tg : Expr}
theorem rd_for {K : PySem.W.Frag} {src : M (List D)} {is : List Nat} {t : D → Env → Option Env} {body : M Fl} {D : Ends} {σ : L2.St} {H : Hp} (q : rdS K vs0 (gFor src t body) D σ H) : tFor (rdI K vs0 src) (rdG K vs0 is t) (rdS K vs0 body) D σ H := by
  obtain ⟨B, ρ, fs, gd, fl, ρ', e1, w⟩ := q
  have w : Want K vs0 D B H fs fl ρ' := w
  obtain ⟨l, ρ1, e2, e3⟩ := M.bind_ok e1
  refine ⟨B, ρ, fs, gd, l, ρ1, e2, fun J B1 H1 fs1 fr1 g1 jok => ?_⟩
  refine ⟨fun i m σ H => i ≤ l.length ∧ m = l.length - i ∧ ∃ B2 ρ2 fs2, Good K vs0 B2 H σ ρ2 fs2 ∧ Same B1 B2 ∧ loopD t body (l.drop i) ρ2 = some (.ok fl ρ') ∧ Want K vs0 D B2 H fs2 fl ρ',
    ⟨l.length, Nat.zero_le _, rfl, B1, ρ1, fs1, g1, Same.refl _, by simpa using e3, w.later fr1⟩, ?_⟩
  rintro i m σ2 H2 ⟨hi, rfl, B2, ρ2, fs2, g2, s2, e4, w2⟩
  obtain ⟨j1, j2⟩ := jok B2 H2 s2 g2.ext i
  by_cases hil : i < l.length
  · right
    have hd : l[i]? = some l[i] := List.getElem?_eq_getElem hil
    obtain ⟨jg, jy⟩ := j1 _ hd
    rw [List.drop_eq_getElem_cons hil] at e4
    unfold loopD at e4
    split at e4
    · cases e4
    · rename_i ρ3 e5
      split at e4
      · cases e4
      · rename_i fl4 ρ4 e6
        refine ⟨jg, fun σ' H' => (i + 1 ≤ l.length ∧ ∃ B5 ρ5 fs5, Good K vs0 B5 H' σ' ρ5 fs5 ∧ Same B1 B5 ∧ loopD t body (l.drop (i + 1)) ρ5 = some (.ok fl ρ') ∧ Want K vs0 D B5 H' fs5 fl ρ'), fun σ' H' n => ⟨l.length - (i + 1), by omega, n.1, rfl, n.2⟩, fun x H3 hy => ?_⟩
        obtain ⟨B3, fr3, s3, d3⟩ := jy x H3 hy
        have g3 := g2.grow fr3 (fun _ _ f => f) s3
        have fr3' : Fr B2 H2 (InF fs2) B3 H3 (InF fs2) := fr3.weak (fun _ f => f.elim) fun a h => Or.inr (Or.inl h)
        refine ⟨B3, ρ2, fs2, _, ρ3, g3, d3, e5, fun σ4 fs4 g4 s4 _ _ => ?_⟩
        have fr4 : Fr B2 H2 (InF fs2) B3 H3 (InF fs4) := fr3'.weak (fun _ h => h) fun a h => Or.inl (s4 a h)
        refine rdS_of g4 e6 ?_
        have wn : ∀ σ5 B5 H5 fs5, Fr B3 H3 (InF fs4) B5 H5 (InF fs5) → Good K vs0 B5 H5 σ5 ρ4 fs5 → loopD t body (l.drop (i + 1)) ρ4 = some (.ok fl ρ') →
            i + 1 ≤ l.length ∧ ∃ B5 ρ5 fs5, Good K vs0 B5 H5 σ5 ρ5 fs5 ∧ Same B1 B5 ∧ loopD t body (l.drop (i + 1)) ρ5 = some (.ok fl ρ') ∧ Want K vs0 D B5 H5 fs5 fl ρ' :=
          fun σ5 B5 H5 fs5 fr5 g5 e7 => ⟨hil, B5, ρ4, fs5, g5, (s2.trans fr3.bb).trans fr5.bb, e7, w2.later (fr4.trans fr5)⟩
        cases fl4 with
        | nx => exact fun σ5 B5 H5 fs5 fr5 g5 => wn σ5 B5 H5 fs5 fr5 g5 e4
        | ct => exact fun σ5 B5 H5 fs5 fr5 g5 => wn σ5 B5 H5 fs5 fr5 g5 e4
        | bk =>
          cases e4
          exact fun σ5 B5 H5 fs5 fr5 g5 => w2 σ5 B5 H5 fs5 (fr4.trans fr5) g5
        | rt s =>
          cases e4
          exact fun v σ5 B5 H5 fs5 T fr5 g5 ok => w2 v σ5 B5 H5 fs5 T (fr4.trans fr5) g5 ok
  · left
    refine ⟨j2 (by omega), ?_⟩
    rw [List.drop_eq_nil_of_le (by omega)] at e4
    cases e4
    exact w2 σ2 B2 H2 fs2 (Fr.refl _ _ _) g2
theorem ds_for {iter : Expr} {body : List Stmt} {src : M (List D)} {is : List Nat} {t : D → Env → Option Env} {g : M Fl} {pos : Pos} (hp : PassesOwn (model X.prog X.w) X.A X.env X.xe) (hc : X.calm = true) (hi : PI X tg iter (rdI X.K vs0 src)) (hg : PG X tg (rdG X.K vs0 is t)) (hb : PSs X body (rdS X.K vs0 g))
    (hs : ∀ x, foldedSetIterable iter X.env x = pure x := by intro _; rfl) : PS X (.For tg iter body [] pos) (rdS X.K vs0 (gFor src t g)) := PS.imp (ps_for hp hc hi hg hb hs) fun D σ H q => rd_for q
/-! ### while -/
def whileD (c : M Bool) (body : M Fl) : Nat → M Fl
  | 0 => M.fail
  | n + 1 => fun ρ => match c ρ with
    | none => none
    | some (.ok false ρ1) => some (.ok .nx ρ1)
    | some (.ok true ρ1) => match body ρ1 with
      | none => none
      | some (.ok fl ρ2) => match fl with
        | .nx => whileD c body n ρ2
        | .ct => whileD c body n ρ2
        | .bk => some (.ok .nx ρ2)
        | .rt s => some (.ok (.rt s) ρ2)
/-- turns enough -/
def fuel : Nat := 1000000000
def gWhile (c : M Bool) (body : M Fl) : M Fl := whileD c body fuel
theorem rd_while {K : PySem.W.Frag} {c : M Bool} {body : M Fl} {D : Ends} {σ : L2.St} {H : Hp} (q : rdS K vs0 (gWhile c body) D σ H) : tWhile (rdT K vs0 c) (rdS K vs0 body) D σ H := by
  obtain ⟨B, ρ, fs, gd, fl, ρ', e1, w⟩ := q
  have w : Want K vs0 D B H fs fl ρ' := w
  refine ⟨fun m σ H => ∃ B2 ρ2 fs2, Good K vs0 B2 H σ ρ2 fs2 ∧ whileD c body m ρ2 = some (.ok fl ρ') ∧ Want K vs0 D B2 H fs2 fl ρ', ⟨fuel, B, ρ, fs, gd, e1, w⟩, ?_⟩
  rintro m σ2 H2 ⟨B2, ρ2, fs2, g2, e2, w2⟩
  cases m with
  | zero => cases e2
  | succ m =>
    unfold whileD at e2
    split at e2
    · cases e2
    · rename_i ρ3 e3
      cases e2
      refine ⟨B2, ρ2, fs2, g2, false, ρ', e3, fun B3 H3 fs3 fr3 g3 => ?_⟩
      dsimp only
      rw [if_neg (by decide)]
      exact w2 σ2 B3 H3 fs3 fr3 g3
    · rename_i ρ3 e3
      refine ⟨B2, ρ2, fs2, g2, true, ρ3, e3, fun B3 H3 fs3 fr3 g3 => ?_⟩
      dsimp only
      rw [if_pos rfl]
      split at e2
      · cases e2
      · rename_i fl4 ρ4 e4
        refine ⟨fun σ' H' => ∃ B2 ρ2 fs2, Good K vs0 B2 H' σ' ρ2 fs2 ∧ whileD c body m ρ2 = some (.ok fl ρ') ∧ Want K vs0 D B2 H' fs2 fl ρ', fun σ' H' n => ⟨m, Nat.lt_succ_self m, n⟩, ?_⟩
        refine rdS_of g3 e4 ?_
        have w3 := w2.later fr3
        cases fl4 with
        | nx => exact fun σ5 B5 H5 fs5 fr5 g5 => ⟨B5, ρ4, fs5, g5, e2, w3.later fr5⟩
        | ct => exact fun σ5 B5 H5 fs5 fr5 g5 => ⟨B5, ρ4, fs5, g5, e2, w3.later fr5⟩
        | bk =>
          cases e2
          exact fun σ5 B5 H5 fs5 fr5 g5 => w3 σ5 B5 H5 fs5 fr5 g5
        | rt s =>
          cases e2
          exact fun v σ5 B5 H5 fs5 T fr5 g5 ok => w3 v σ5 B5 H5 fs5 T fr5 g5 ok
theorem ds_while {c : Expr} {body : List Stmt} {mc : M Bool} {g : M Fl} {pos : Pos} (hp : PassesOwn (model X.prog X.w) X.A X.env X.xe) (hc : PT X c (rdT X.K vs0 mc)) (hb : PSs X body (rdS X.K vs0 g)) : PS X (.While c body [] pos) (rdS X.K vs0 (gWhile mc g)) :=
  PS.imp (ps_while hp hc hb) fun D σ H q => rd_while q
end
end Pd

set_option Elab.async false
set_option linter.all false
set_option maxRecDepth 100000
set_option maxHeartbeats 1000000
namespace Pd
open PySem PySem.Spec PyProof.Rows L2

/-! ### list comprehensions -/
/-- the block's own names are empty -/
def wipeE (ρ : Env) : List Nat → Env
  | [] => ρ
  | v :: vs => (wipeE ρ vs).set v none
/-- they hold data or nothing ahead of the block -/
def plainAt (ρ : Env) : List Nat → Bool
  | [] => true
  | v :: vs => (match ρ[v]? with
    | some (some (.p _)) => true
    | some none => true
    | _ => false) && plainAt ρ vs
/-- behind the block they hold what they held -/
def backE (ρ0 ρ : Env) : List Nat → Env
  | [] => ρ
  | v :: vs => (backE ρ0 ρ vs).set v (ρ0.getD v none)
def compD (own : List Nat) (t : D → Env → Option Env) (tt : M Bool) (te : M Rs) : List D → List D → M (List D)
  | [], acc => M.ret acc
  | d :: l, acc => fun ρ => match t d (wipeE ρ own) with
    | none => none
    | some ρ1 => match tt ρ1 with
      | none => none
      | some (.ok false ρ2) => compD own t tt te l acc ρ2
      | some (.ok true ρ2) => match M.bind te freezeR ρ2 with
        | none => none
        | some (.ok y ρ3) => if acc.length < sizeLine then compD own t tt te l (acc ++ [y]) ρ3 else none
def eLc (src : M (List D)) (own : List Nat) (t : D → Env → Option Env) (tt : M Bool) (te : M Rs) : M Rs := M.bind src fun l ρ => if plainAt ρ own = true then
    match compD own t tt te l [] ρ with
    | some (.ok acc ρ1) => some (.ok (.own (.ml none acc)) (backE ρ (wipeE ρ1 own) own))
    | none => none
  else none
def tYes' : M Bool := M.ret true
section
variable {K : PySem.W.Frag} {vs0 : List V} {B H : Hp} {σ : L2.St} {ρ : Env} {fs : Nat → List Addr}
/-- the block's names forgotten on both sides -/
theorem Good.wipe1 (g : Good K vs0 B H σ ρ fs) (i : Nat) : Good K vs0 B H (σ.set i none) (ρ.set i none) (fun j => if j = i then [] else fs j) := by
  have g1 := g.drop i
  refine ⟨g1.ext, by simp [g.len], fun j s h => ?_, g1.emp, g1.dis, g1.out⟩
  obtain ⟨v, h1, h2, h3⟩ := g1.at_ j s h
  refine ⟨v, ?_, h2, h3⟩
  by_cases e : j = i
  · subst e
    by_cases hj : j < ρ.length
    · rw [List.getElem?_set_self hj] at h; cases h
    · rw [List.getElem?_eq_none (by simp; omega)] at h; cases h
  · rw [List.getElem?_set_ne (Ne.symm e)]; exact h1
theorem Good.wipes (g : Good K vs0 B H σ ρ fs) : ∀ own : List Nat, ∃ fs', Good K vs0 B H (wipe σ own) (wipeE ρ own) fs' ∧ ∀ a, InF fs' a → InF fs a
  | [] => ⟨fs, g, fun _ h => h⟩
  | v :: vs => by
    obtain ⟨fs1, g1, s1⟩ := g.wipes vs
    refine ⟨_, g1.wipe1 v, fun a h => s1 a ?_⟩
    obtain ⟨j, hj⟩ := h
    dsimp only at hj
    by_cases q : j = v
    · rw [if_pos q] at hj; cases hj
    · rw [if_neg q] at hj; exact ⟨j, hj⟩
theorem wipe_wipe (σ : L2.St) (own : List Nat) : ∀ vs : List Nat, (∀ v ∈ vs, v ∈ own) → wipe (wipe σ own) vs = wipe σ own
  | [], _ => rfl
  | v :: vs, h => by
    show (wipe (wipe σ own) vs).set v none = _
    rw [wipe_wipe σ own vs fun w hw => h w (List.mem_cons_of_mem _ hw)]
    apply List.ext_getElem?
    intro j
    by_cases e : j = v
    · subst e
      by_cases hj : j < (wipe σ own).length
      · rw [List.getElem?_set_self hj]
        have : (wipe σ own)[j]? ≠ none := by rw [List.getElem?_eq_getElem hj]; simp
        cases q : (wipe σ own)[j]? with
        | none => exact (this q).elim
        | some o =>
          cases o with
          | none => rfl
          | some x => exact ((L2.wipe_some q).2 (h j (by simp))).elim
      · rw [List.getElem?_eq_none (by simp; omega), List.getElem?_eq_none (by omega)]
    · rw [List.getElem?_set_ne (Ne.symm e)]
theorem wipeE_wipeE (ρ : Env) (own : List Nat) : (wipeE ρ own).length = ρ.length := by
  induction own with
  | nil => rfl
  | cons v vs ih => simp [wipeE, ih]
theorem wipeE_get {j : Nat} : ∀ {own : List Nat} {s : Sl}, (wipeE ρ own)[j]? = some (some s) → ρ[j]? = some (some s) ∧ j ∉ own
  | [], s, h => ⟨h, by simp⟩
  | v :: vs, s, h => by
    unfold wipeE at h
    by_cases e : j = v
    · subst e
      by_cases hj : j < (wipeE ρ vs).length
      · rw [List.getElem?_set_self hj] at h; cases h
      · rw [List.getElem?_eq_none (by simp; omega)] at h; cases h
    · rw [List.getElem?_set_ne (Ne.symm e)] at h
      obtain ⟨h1, h2⟩ := wipeE_get h
      exact ⟨h1, by simp [e, h2]⟩
theorem backE_len (ρ0 ρ : Env) : ∀ own : List Nat, (backE ρ0 ρ own).length = ρ.length
  | [] => rfl
  | v :: vs => by simp [backE, backE_len ρ0 ρ vs]
theorem backE_get {ρ0 : Env} {j : Nat} {s : Sl} (hl : ρ0.length = ρ.length) : ∀ {own : List Nat}, (backE ρ0 ρ own)[j]? = some (some s) → (j ∈ own ∧ ρ0[j]? = some (some s)) ∨ (j ∉ own ∧ ρ[j]? = some (some s))
  | [], h => Or.inr ⟨by simp, h⟩
  | v :: vs, h => by
    unfold backE at h
    by_cases e : j = v
    · subst e
      by_cases hj : j < (backE ρ0 ρ vs).length
      · rw [List.getElem?_set_self hj] at h
        have h' := Option.some.inj h
        rw [List.getD_eq_getElem?_getD] at h'
        rw [backE_len] at hj
        rw [List.getElem?_eq_getElem (by omega), Option.getD_some] at h'
        exact Or.inl ⟨by simp, by rw [List.getElem?_eq_getElem (by omega), h']⟩
      · rw [List.getElem?_eq_none (by simp; omega)] at h; cases h
    · rw [List.getElem?_set_ne (Ne.symm e)] at h
      rcases backE_get hl h with ⟨h1, h2⟩ | ⟨h1, h2⟩
      · exact Or.inl ⟨List.mem_cons_of_mem _ h1, h2⟩
      · exact Or.inr ⟨by simp [e, h1], h2⟩
theorem plainAt_get {j : Nat} : ∀ {own : List Nat} {s : Sl}, plainAt ρ own = true → j ∈ own → ρ[j]? = some (some s) → ∃ d, s = .p d
  | [], _, _, h, _ => by cases h
  | v :: vs, s, hp, h, e => by
    unfold plainAt at hp
    rw [Bool.and_eq_true] at hp
    rcases List.mem_cons.mp h with rfl | h
    · rw [e] at hp
      cases s with
      | p d => exact ⟨d, rfl⟩
      | ml t l => exact absurd hp.1 (by simp)
      | md t l => exact absurd hp.1 (by simp)
      | mr t l => exact absurd hp.1 (by simp)
      | ob t c ns l => exact absurd hp.1 (by simp)
      | ex c f => exact absurd hp.1 (by simp)
      | fd l => exact absurd hp.1 (by simp)
      | hl t => exact absurd hp.1 (by simp)
    · exact plainAt_get hp.2 h e
end
theorem Good.len_eq {K : PySem.W.Frag} {vs0 : List V} {B H B' H' : Hp} {σ : L2.St} {ρ ρ' : Env} {fs fs' : Nat → List Addr} (g : Good K vs0 B H σ ρ fs) (g' : Good K vs0 B' H' σ ρ' fs') : ρ'.length = ρ.length := by
  rw [← g.len, ← g'.len]
theorem wipe_out' {σ : L2.St} {i : Nat} {vs : List Nat} (h : i ∉ vs) : (wipe σ vs)[i]? = σ[i]? := L2.wipe_out h
section
variable {K : PySem.W.Frag} {vs0 : List V}
theorem Good.mutOut {B H : Hp} {σ : L2.St} {ρ : Env} {fs : Nat → List Addr} {a : Addr} {o : HO} (g : Good K vs0 B H σ ρ fs) (hB : B a = none) (n : ∀ i, a ∉ fs i) : Good K vs0 B (upd H a o) σ ρ fs where
  ext := fun b u e => by
    rw [upd_ne (ne_of_none e hB)]
    exact g.ext b u e
  len := g.len
  at_ := fun i s h => by
    obtain ⟨v, h1, h2, h3⟩ := g.at_ i s h
    exact ⟨v, h1, h2.keep (Same.refl B) fun b hb => upd_ne fun q => n i (by rw [← q]; exact hb), h3⟩
  emp := g.emp
  dis := g.dis
  out := g.out
theorem Fr.mut {B H : Hp} {F : Addr → Prop} {a : Addr} {o : HO} (hF : F a) : Fr B H F B (upd H a o) F := by
  refine ⟨Same.refl B, fun b _ nf => upd_ne fun q => nf (by rw [q]; exact hF), fun b h => ?_, fun _ f => Or.inl f, fun _ _ _ h => h⟩
  by_cases e : b = a
  · rw [e, upd_same]; simp
  · rw [upd_ne e]; exact h
theorem backE_out {ρ0 ρ : Env} {j : Nat} : ∀ {own : List Nat}, j ∉ own → (backE ρ0 ρ own)[j]? = ρ[j]?
  | [], _ => rfl
  | v :: vs, h => by
    unfold backE
    rw [List.getElem?_set_ne (fun e => h (by simp [e])), backE_out fun q => h (List.mem_cons_of_mem _ q)]
theorem wipeE_in {ρ : Env} {j : Nat} {s : Sl} {own : List Nat} (h : j ∈ own) : (wipeE ρ own)[j]? ≠ some (some s) := fun e => (wipeE_get e).2 h
/-- the block's end -/
theorem Good.back {B B2 H H2 : Hp} {σ : L2.St} {ρ ρ2 : Env} {fs fs2 : Nat → List Addr} {own : List Nat} (g : Good K vs0 B H σ ρ fs) (bb : Same B B2) (hp : plainAt ρ own = true) (g2 : Good K vs0 B2 H2 (wipe σ own) (wipeE ρ2 own) fs2) :
    Good K vs0 B2 H2 σ (backE ρ (wipeE ρ2 own) own) fs2 where
  ext := g2.ext
  len := by rw [backE_len, ← g2.len, L2.wipe_length]
  at_ := fun j s h => by
    have hl : ρ.length = (wipeE ρ2 own).length := by rw [← g.len, ← g2.len, L2.wipe_length]
    rcases backE_get hl h with ⟨h1, h2⟩ | ⟨h1, h2⟩
    · obtain ⟨d, rfl⟩ := plainAt_get hp h1 h2
      obtain ⟨v, q1, q2, _⟩ := g.at_ j _ h2
      have e0 : fs2 j = [] := g2.emp j fun s q => wipeE_in h1 q
      rw [e0]
      exact ⟨v, q1, ⟨Dp.mono bb q2.1, rfl⟩, fun k h => nomatch h⟩
    · obtain ⟨v, q1, q2, q3⟩ := g2.at_ j s h2
      rw [wipe_out' h1] at q1
      exact ⟨v, q1, q2, q3⟩
  emp := fun j h => by
    by_cases hj : j ∈ own
    · exact g2.emp j fun s q => wipeE_in hj q
    · refine g2.emp j fun s q => h s ?_
      rw [backE_out hj]
      exact q
  dis := g2.dis
  out := g2.out
theorem wipe_eq {σ σ' : L2.St} {own is : List Nat} (hs : ∀ i ∈ is, i ∈ own) (hl : σ'.length = σ.length) (h : ∀ j, j ∉ is → σ'[j]? = (wipe σ own)[j]?) : wipe σ' own = wipe σ own := by
  apply List.ext_getElem?
  intro j
  by_cases hj : j ∈ own
  · have key : ∀ τ : L2.St, τ.length = σ.length → (wipe τ own)[j]? = if j < σ.length then some none else none := fun τ ht => by
      by_cases hl : j < σ.length
      · rw [if_pos hl]
        have : j < (wipe τ own).length := by rw [L2.wipe_length]; omega
        cases q : (wipe τ own)[j]? with
        | none => rw [List.getElem?_eq_getElem this] at q; cases q
        | some o =>
          cases o with
          | none => rfl
          | some x => exact ((L2.wipe_some q).2 hj).elim
      · rw [if_neg hl, List.getElem?_eq_none (by rw [L2.wipe_length]; omega)]
    rw [key σ' hl, key σ rfl]
  · rw [wipe_out' hj, h j fun q => hj (hs j q)]
theorem rd_lcW {src : M (List D)} {own is : List Nat} {t : D → Env → Option Env} {tt : M Bool} {te : M Rs} (his : ∀ i ∈ is, i ∈ own) {σ : L2.St} {H : Hp} {Q : VK} {wi : TI}
    (q : ∃ B ρ fs, Good K vs0 B H σ ρ fs ∧ (∃ r ρ', eLc src own t tt te ρ = some (.ok r ρ') ∧ ∀ v B' H' fs' T, Fr B H (InF fs) B' H' (UnF (InF fs') T) → Good K vs0 B' H' σ ρ' fs' → RsOk K B' H' σ fs' v r T → Q v H') ∧
      ∀ R l ρ1, src ρ = some (.ok l ρ1) → (∀ J B' H' fs', Fr B H (InF fs) B' H' (InF fs') → Good K vs0 B' H' σ ρ1 fs' → JOk K B' J l → R J H') → wi σ H R) :
    tLc wi (rdG K vs0 is t) (rdT K vs0 tt) (rdE K vs0 te) own σ H Q := by
  obtain ⟨B, ρ, fs, gd, ⟨r, ρ', e1, k⟩, hwi⟩ := q
  obtain ⟨l, ρ1, e2, e3⟩ := M.bind_ok e1
  split at e3
  · rename_i hpl
    split at e3
    · rename_i accE ρE e4
      cases e3
      refine hwi _ l ρ1 e2 fun J B1 H1 fs1 fr1 g1 jok => fun Dl hD => ?_
      refine ⟨fun i m H2 => i ≤ l.length ∧ m = l.length - i ∧ ∃ B2 ρ2 fs2 acc xs, Good K vs0 B2 H2 (wipe σ own) (wipeE ρ2 own) fs2 ∧ Fr B1 H1 (InF fs1) B2 H2 (UnF (InF fs2) [Dl]) ∧ H2 Dl = some (.lst xs) ∧ DpAll K B2 xs acc ∧ B2 Dl = none ∧
        (∀ j, Dl ∉ fs2 j) ∧ compD own t tt te (l.drop i) acc ρ2 = some (.ok accE ρE), ⟨l.length, Nat.zero_le _, rfl, ?_⟩, ?_⟩
      · have frn := Fr.newL (B := B1) (o := HO.lst []) hD
        have g2 := g1.grow frn (fun _ _ f => f) (g1.ext.trans frn.sameH)
        obtain ⟨fs2, g3, s3⟩ := g2.wipes own
        refine ⟨B1, ρ1, fs2, [], [], g3, frn.weak (fun _ f => f.elim) (fun a f => ?_), upd_same, .nil, ?_, fun j hj => ?_, by simpa using e4⟩
        · rcases f with f | f
          · exact Or.inr (Or.inl (s3 a f))
          · exact Or.inl f
        · cases q : B1 Dl with
          | none => rfl
          | some u => rw [g1.ext Dl u q] at hD; cases hD
        · obtain ⟨j', hj'⟩ := s3 Dl ⟨j, hj⟩
          exact g1.lives hj' hD
      · rintro i m H2 ⟨hi, rfl, B2, ρ2, fs2, acc, xs, g2, fr2, h2, d2, b2, n2, e5⟩
        obtain ⟨j1, j2⟩ := jok B2 H2 fr2.bb g2.ext i
        by_cases hil : i < l.length
        · right
          have hd : l[i]? = some l[i] := List.getElem?_eq_getElem hil
          obtain ⟨jg, jy⟩ := j1 _ hd
          rw [List.drop_eq_getElem_cons hil] at e5
          unfold compD at e5
          split at e5
          · cases e5
          · rename_i ρ3 e6
            refine ⟨jg, fun H' => (i + 1 ≤ l.length ∧ ∃ B2 ρ2 fs2 acc xs, Good K vs0 B2 H' (wipe σ own) (wipeE ρ2 own) fs2 ∧ Fr B1 H1 (InF fs1) B2 H' (UnF (InF fs2) [Dl]) ∧ H' Dl = some (.lst xs) ∧ DpAll K B2 xs acc ∧ B2 Dl = none ∧
              (∀ j, Dl ∉ fs2 j) ∧ compD own t tt te (l.drop (i + 1)) acc ρ2 = some (.ok accE ρE)), fun H' n => ⟨l.length - (i + 1), by omega, n.1, rfl, n.2⟩, fun x H3 hy => ?_⟩
            obtain ⟨B3, fr3, s3, d3⟩ := jy x H3 hy
            have g3 := g2.grow fr3 (fun _ _ f => f) s3
            have live2 : H2 Dl ≠ none := by rw [h2]; simp
            have h3 : H3 Dl = some (.lst xs) := by rw [fr3.keep Dl live2 (fun f => f)]; exact h2
            have b3 : B3 Dl = none := fr3.bnew Dl live2 (fun f => f) b2
            have fr03 : Fr B1 H1 (InF fs1) B3 H3 (UnF (InF fs2) [Dl]) := fr2.trans (fr3.weak (fun _ f => f.elim) fun a h => Or.inr (Or.inl h))
            refine ⟨B3, wipeE ρ2 own, fs2, _, ρ3, g3, d3, e6, fun σ4 fs4 g4 s4 a4 l4 => ?_⟩
            have hw : wipe σ4 own = wipe σ own := wipe_eq his (l4.trans (L2.wipe_length σ own)) a4
            refine ⟨hw, ?_⟩
            have n4 : ∀ j, Dl ∉ fs4 j := fun j hj => by
              obtain ⟨j', hj'⟩ := s4 Dl ⟨j, hj⟩
              exact n2 j' hj'
            split at e5
            · cases e5
            · rename_i ρ4 e7
              refine ⟨B3, ρ3, fs4, g4, false, ρ4, e7, fun B5 H5 fs5 fr5 g5 => ?_⟩
              dsimp only
              rw [if_neg (by decide)]
              have nF : ¬ InF fs4 Dl := fun ⟨j, hj⟩ => n4 j hj
              have live3 : H3 Dl ≠ none := by rw [h3]; simp
              obtain ⟨fs6, g6, s6⟩ := g5.wipes own
              rw [hw] at g6
              refine ⟨hil, B5, ρ4, fs6, acc, xs, g6, ?_, by rw [fr5.keep Dl live3 nF]; exact h3, DpAll.mono (fr3.bb.trans fr5.bb) d2, fr5.bnew Dl live3 nF b3, fun j hj => ?_, e5⟩
              · refine fr03.trans ((fr5.frame [Dl]).weak (fun a h => ?_) fun a h => ?_)
                · rcases h with h | h
                  · exact Or.inl (s4 a h)
                  · exact Or.inr h
                · rcases h with h | h
                  · exact Or.inl (Or.inl (s6 a h))
                  · exact Or.inl (Or.inr h)
              · rcases fr5.own Dl (s6 Dl ⟨j, hj⟩) with q | q
                · exact nF q
                · exact live3 q
            · rename_i ρ4 e7
              refine ⟨B3, ρ3, fs4, g4, true, ρ4, e7, fun B5 H5 fs5 fr5 g5 => ?_⟩
              dsimp only
              rw [if_pos rfl]
              have nF : ¬ InF fs4 Dl := fun ⟨j, hj⟩ => n4 j hj
              have live3 : H3 Dl ≠ none := by rw [h3]; simp
              have h5 : H5 Dl = some (.lst xs) := by rw [fr5.keep Dl live3 nF]; exact h3
              have b5 := fr5.bnew Dl live3 nF b3
              have live5 : H5 Dl ≠ none := by rw [h5]; simp
              have nF5 : ¬ InF fs5 Dl := fun f => by
                rcases fr5.own Dl f with q | q
                · exact nF q
                · exact live3 q
              split at e5
              · cases e5
              · rename_i y ρ5 e8
                split at e5
                · rename_i hsz
                  obtain ⟨r6, ρ6, e9, e10⟩ := M.bind_ok e8
                  refine ⟨B5, ρ4, fs5, g5, r6, ρ6, e9, fun v B6 H6 fs6 T6 fr6 g6 ok6 => ?_⟩
                  have h6 : H6 Dl = some (.lst xs) := by rw [fr6.keep Dl live5 nF5]; exact h5
                  have b6 := fr6.bnew Dl live5 nF5 b5
                  have live6 : H6 Dl ≠ none := by rw [h6]; simp
                  have nF6 : ¬ UnF (InF fs6) T6 Dl := fun f => by
                    rcases fr6.own Dl f with q | q
                    · exact nF5 q
                    · exact live5 q
                  obtain ⟨B7, fs7, fr7, g7, d7⟩ := freezeR_ok g6 ok6 e10
                  have b7 := fr7.bnew Dl live6 nF6 b6
                  have nF7 : ¬ InF fs7 Dl := fun f => by
                    rcases fr7.own Dl f with q | q
                    · exact nF6 q
                    · exact live6 q
                  have dx : DpAll K B7 xs acc := DpAll.mono (((fr3.bb.trans fr5.bb).trans fr6.bb).trans fr7.bb) d2
                  refine ⟨xs, h6, by rw [DpAll.length d2]; exact hsz, hil, ?_⟩
                  have g8 := g7.mutOut (o := HO.lst (xs ++ [v])) b7 fun i hi => nF7 ⟨i, hi⟩
                  obtain ⟨fs9, g9, s9⟩ := g8.wipes own
                  rw [hw] at g9
                  refine ⟨B7, ρ5, fs9, acc ++ [y], xs ++ [v], g9, ?_, upd_same, DpAll.append dx (DpAll.one d7), b7, fun j hj => nF7 (s9 Dl ⟨j, hj⟩), e5⟩
                  have frA : Fr B3 H3 (UnF (InF fs4) [Dl]) B7 H6 (UnF (InF fs7) [Dl]) := (fr5.frame [Dl]).trans ((fr6.frame [Dl]).trans ((fr7.frame [Dl]).weak (fun a h => h) fun a h => Or.inl h))
                  have frB : Fr B7 H6 (UnF (InF fs7) [Dl]) B7 (upd H6 Dl (HO.lst (xs ++ [v]))) (UnF (InF fs7) [Dl]) := Fr.mut (Or.inr (by simp))
                  refine fr03.trans ((frA.trans frB).weak (fun a h => ?_) fun a h => ?_)
                  · rcases h with h | h
                    · exact Or.inl (s4 a h)
                    · exact Or.inr h
                  · rcases h with h | h
                    · exact Or.inl (Or.inl (s9 a h))
                    · exact Or.inl (Or.inr h)
                · cases e5
        · left
          refine ⟨j2 (by omega), ?_⟩
          rw [List.drop_eq_nil_of_le (by omega)] at e5
          cases e5
          refine k (.ref Dl) B2 H2 fs2 [Dl] (fr1.trans fr2) (g1.back fr2.bb hpl g2) ⟨⟨Dl, xs, rfl, rfl, h2, d2⟩, rfl, fun a ha => ?_⟩
          simp at ha
          subst ha
          exact ⟨b2, n2⟩
    · cases e3
  · cases e3
theorem rd_lc {src : M (List D)} {own is : List Nat} {t : D → Env → Option Env} {tt : M Bool} {te : M Rs} (his : ∀ i ∈ is, i ∈ own) {σ : L2.St} {H : Hp} {Q : VK} (q : rdE K vs0 (eLc src own t tt te) σ H Q) :
    tLc (rdI K vs0 src) (rdG K vs0 is t) (rdT K vs0 tt) (rdE K vs0 te) own σ H Q := by
  obtain ⟨B, ρ, fs, gd, r, ρ', e1, k⟩ := q
  exact rd_lcW his ⟨B, ρ, fs, gd, ⟨r, ρ', e1, k⟩, fun R l ρ1 e kk => ⟨B, ρ, fs, gd, l, ρ1, e, kk⟩⟩
end
section
variable {X : Cx} {vs0 : List V}
theorem dts_nil {Y : Cx} {vs0 : List V} : PTs Y [] (rdT Y.K vs0 tYes') := ⟨fun pins s σ H Q I q => pts_nil.run pins s σ H Q I (by
  obtain ⟨B, ρ, fs, g, b, ρ', e, k⟩ := q
  cases e
  exact k B H fs (Fr.refl _ _ _) g)⟩
theorem dts_one {Y : Cx} {vs0 : List V} {c : Expr} {m : M Bool} (h : PT Y c (rdT Y.K vs0 m)) : PTs Y [c] (rdT Y.K vs0 m) := pts_one h
theorem de_lc {elt tg iter : Expr} {ifs : List Expr} {scope : Scope} {own : List (Str × Nat)} {is : List Nat} {pos : Pos} {src : M (List D)} {t : D → Env → Option Env} {tt : M Bool} {te : M Rs} (hc : X.calm = true) (hN : X.N.Nodup) (hi : PI X tg iter (rdI X.K vs0 src)) (ok : BlkOk X.N X.env.scope scope own)
    (his : ∀ i ∈ is, i ∈ own.map (·.2))
    (hg : ∀ (s : Shared) (H : Hp) (C : Addr) (cl : List (Str × Addr)) (fp : List Addr), PG (X.blk s H scope (compEnvC scope cl C X.env) fp) tg (rdG X.K vs0 is t)) (ht : ∀ (s : Shared) (H : Hp) (C : Addr) (cl : List (Str × Addr)) (fp : List Addr), PTs (X.blk s H scope (compEnvC scope cl C X.env) fp) ifs (rdT X.K vs0 tt))
    (he : ∀ (s : Shared) (H : Hp) (C : Addr) (cl : List (Str × Addr)) (fp : List Addr), PE (X.blk s H scope (compEnvC scope cl C X.env) fp) elt (rdE X.K vs0 te)) (hs : ∀ x, foldedSetIterable iter X.env x = pure x := by intro _; rfl) :
    PE X (.ListComp elt [⟨tg, iter, ifs, 0⟩] scope pos) (rdE X.K vs0 (eLc src (own.map (·.2)) t tt te)) := PE.imp (pe_lc hc hN hi ok hg ht he hs) fun σ H Q q => rd_lc his q
theorem ds_setLc {i : Nat} {y : Str} {py : Pos} {elt tg iter : Expr} {ifs : List Expr} {scope : Scope} {own : List (Str × Nat)} {is : List Nat} {pos spos : Pos} {src : M (List D)} {t : D → Env → Option Env} {tt : M Bool} {te : M Rs} (hc : X.calm = true) (hN : X.N.Nodup) (hy : X.N[i]? = some y) (hyl : X.env.scope.names.lookup y = some .local)
    (hsw : swapsWith (.ListComp elt [⟨tg, iter, ifs, 0⟩] scope pos) (some (.Name y py)) spos.line X.env = pure true) (hi : PI X tg iter (rdI X.K vs0 src)) (ok : BlkOk X.N X.env.scope scope own)
    (his : ∀ i ∈ is, i ∈ own.map (·.2))
    (hg : ∀ (s : Shared) (H : Hp) (C : Addr) (cl : List (Str × Addr)) (fp : List Addr), PG (X.blk s H scope (compEnvC scope cl C X.env) fp) tg (rdG X.K vs0 is t)) (ht : ∀ (s : Shared) (H : Hp) (C : Addr) (cl : List (Str × Addr)) (fp : List Addr), PTs (X.blk s H scope (compEnvC scope cl C X.env) fp) ifs (rdT X.K vs0 tt))
    (he : ∀ (s : Shared) (H : Hp) (C : Addr) (cl : List (Str × Addr)) (fp : List Addr), PE (X.blk s H scope (compEnvC scope cl C X.env) fp) elt (rdE X.K vs0 te)) (hs : ∀ x, foldedSetIterable iter X.env x = pure x := by intro _; rfl) :
    PS X (.Assign [.Name y py] (.ListComp elt [⟨tg, iter, ifs, 0⟩] scope pos) spos) (rdS X.K vs0 (gSet i (eLc src (own.map (·.2)) t tt te))) := PS.imp (ps_setLc hc hN hy hyl hsw hi ok hg ht he hs) fun D σ H q => by
  obtain ⟨B, ρ, fs, gd, fl, ρ', e1, k⟩ := q
  exact rd_lc (Q := fun x H1 => gName i x σ H1 D.nx) his (rd_set ⟨B, ρ, fs, gd, fl, ρ', e1, k⟩)
end
end Pd

set_option Elab.async false
set_option linter.all false
set_option maxRecDepth 100000
set_option maxHeartbeats 1000000
namespace Pd
open PySem PySem.Spec PyProof.Rows L2

/-! ### defs -/
def spD (K : PySem.W.Frag) (n : Nat) (F : List Sl → Option (Sl × List Sl)) : Sp := fun vs H Q _ => vs.length = n ∧ ∃ B ss fs, Good K [] B H (vs.map some) (ss.map some) fs ∧ (∀ s ∈ ss, s.tag = none) ∧ ∃ r ss', F ss = some (r, ss') ∧
  ∀ v B' H' fs' T, Fr B H (InF fs) B' H' (UnF (InF fs') T) → Good K [] B' H' (vs.map some) (ss'.map some) fs' → RsOk K B' H' (vs.map some) fs' v (.own r) T → Q v H'
def markAll : Nat → List Sl → List Sl
  | _, [] => []
  | k, s :: r => s.mark k :: markAll (k + 1) r
def startE (m : Nat) (ss : List Sl) : Env := (markAll 0 ss).map some ++ List.replicate m none
def Sl.isP : Sl → Bool
  | .p _ => true
  | .ex _ _ => true
  | .fd _ => true
  | .hl _ => true
  | _ => false
def endE : Nat → List Sl → Env → Option (List Sl)
  | _, [], _ => some []
  | k, s :: r, ρ => if s.isP = true then (endE (k + 1) r ρ).map (s :: ·) else match ρ[k]? with
    | some (some s') => if s'.tag = some k then (endE (k + 1) r ρ).map (s'.bare :: ·) else none
    | _ => none
def mkF (m : Nat) (g : M Fl) : List Sl → Option (Sl × List Sl) := fun ss => match g (startE m ss) with
  | some (.ok (.rt s) ρ') => (endE 0 ss ρ').map fun ss' => (s, ss')
  | some (.ok .nx ρ') => (endE 0 ss ρ').map fun ss' => (.p .none, ss')
  | _ => none
theorem markAll_len : ∀ (ss : List Sl) (k : Nat), (markAll k ss).length = ss.length
  | [], _ => rfl
  | s :: r, k => by simp [markAll, markAll_len r (k + 1)]
theorem markAll_get : ∀ (ss : List Sl) (k i : Nat), (markAll k ss)[i]? = (ss[i]?).map (Sl.mark (k + i))
  | [], _, _ => by simp [markAll]
  | s :: r, k, 0 => by simp [markAll]
  | s :: r, k, i + 1 => by
    simp only [markAll, List.getElem?_cons_succ]
    rw [markAll_get r (k + 1) i, show k + 1 + i = k + (i + 1) by omega]
theorem Sl.mark_tag {s : Sl} {k j : Nat} (h : (s.mark k).tag = some j) : j = k := by
  cases s with
  | p d => cases h
  | ml t l => cases h; rfl
  | md t l => cases h; rfl
  | mr t l => cases h; rfl
  | ob t c ns l => cases h; rfl
  | ex c f => cases h
  | fd l => cases h
  | hl t => cases h; rfl
theorem endE_ok {ρ : Env} : ∀ {ss : List Sl} {k : Nat} {ss' : List Sl}, endE k ss ρ = some ss' → ss'.length = ss.length ∧ ∀ i s, ss[i]? = some s → (s.isP = true ∧ ss'[i]? = some s) ∨ (s.isP = false ∧ ∃ s', ρ[k + i]? = some (some s') ∧ s'.tag = some (k + i) ∧ ss'[i]? = some s'.bare)
  | [], k, ss', e => by cases e; exact ⟨rfl, fun i s h => by simp at h⟩
  | s :: r, k, ss', e => by
    unfold endE at e
    split at e
    · rename_i hp
      cases q : endE (k + 1) r ρ with
      | none => rw [q] at e; cases e
      | some t =>
        rw [q] at e
        cases e
        obtain ⟨h1, h2⟩ := endE_ok q
        refine ⟨by simp [h1], fun i u hu => ?_⟩
        cases i with
        | zero => simp at hu; subst hu; exact Or.inl ⟨hp, rfl⟩
        | succ i =>
          have := h2 i u (by simpa using hu)
          rw [show k + 1 + i = k + (i + 1) by omega] at this
          simpa using this
    · rename_i hp
      split at e
      · rename_i s' e1
        split at e
        · rename_i ht
          cases q : endE (k + 1) r ρ with
          | none => rw [q] at e; cases e
          | some t =>
            rw [q] at e
            cases e
            obtain ⟨h1, h2⟩ := endE_ok q
            refine ⟨by simp [h1], fun i u hu => ?_⟩
            cases i with
            | zero => simp at hu; subst hu; exact Or.inr ⟨by simpa using hp, s', e1, ht, rfl⟩
            | succ i =>
              have := h2 i u (by simpa using hu)
              rw [show k + 1 + i = k + (i + 1) by omega] at this
              simpa using this
        · cases e
      · cases e
theorem Own.retag {K : PySem.W.Frag} {B H : Hp} {v : V} {s : Sl} {T : List Addr} {k : Nat} (h : Own K B H v s T) : Own K B H v (s.mark k) T := by cases s <;> exact h
section
variable {K : PySem.W.Frag}
theorem good_start {N : List Str} {B H : Hp} {vs : List V} {ss : List Sl} {fs : Nat → List Addr} {m : Nat} (g : Good K [] B H (vs.map some) (ss.map some) fs) (hm : N.length - vs.length = m) : Good K vs B H (L2.start N vs) (startE m ss) fs := by
  have hl : vs.length = ss.length := by simpa using g.len
  refine ⟨g.ext, ?_, fun i s h => ?_, fun i h => ?_, g.dis, g.out⟩
  · simp [L2.start, startE, markAll_len, hl]
    omega
  · by_cases hi : i < ss.length
    · unfold startE at h
      rw [List.getElem?_append_left (by simp [markAll_len, hi]), List.getElem?_map, markAll_get, List.getElem?_eq_getElem hi] at h
      simp only [Option.map_some, Nat.zero_add, Option.some.injEq] at h
      subst h
      obtain ⟨v, h1, h2, _⟩ := g.at_ i ss[i] (by rw [List.getElem?_map, List.getElem?_eq_getElem hi]; rfl)
      have hv : vs[i]? = some v := by
        rw [List.getElem?_map] at h1
        cases q : vs[i]? with
        | none => rw [q] at h1; cases h1
        | some u => rw [q] at h1; cases h1; rfl
      refine ⟨v, ?_, h2.retag, fun k hk => ?_⟩
      · unfold L2.start
        rw [List.getElem?_append_left (by simp [hl, hi]), List.getElem?_map, hv]
        rfl
      · rw [Sl.mark_tag hk]
        exact hv
    · unfold startE at h
      rw [List.getElem?_append_right (by simp [markAll_len]; omega), List.getElem?_replicate] at h
      split at h <;> cases h
  · by_cases hi : i < ss.length
    · refine (h (ss[i].mark i) ?_).elim
      unfold startE
      rw [List.getElem?_append_left (by simp [markAll_len, hi]), List.getElem?_map, markAll_get, List.getElem?_eq_getElem hi]
      simp
    · refine g.emp i fun s q => ?_
      rw [List.getElem?_eq_none (by simp; omega)] at q
      cases q
theorem good_end {B B' H' : Hp} {H : Hp} {vs : List V} {ss ss' : List Sl} {σ' : L2.St} {ρ' : Env} {fs fs' : Nat → List Addr} (g : Good K [] B H (vs.map some) (ss.map some) fs) (bb : Same B B') (g' : Good K vs B' H' σ' ρ' fs') (e : endE 0 ss ρ' = some ss') :
    Good K [] B' H' (vs.map some) (ss'.map some) (fun i => if ((ss[i]?).map Sl.isP) = some false then fs' i else []) := by
  obtain ⟨hl, he⟩ := endE_ok e
  have hl0 : vs.length = ss.length := by simpa using g.len
  refine ⟨g'.ext, by simp [hl, hl0], fun i s h => ?_, fun i h => ?_, fun i j a h1 h2 => ?_, fun i a h => ?_⟩
  · rw [List.getElem?_map] at h
    cases q : ss'[i]? with
    | none => rw [q] at h; cases h
    | some s' =>
      rw [q] at h
      cases h
      have hi : i < ss.length := by
        rw [← hl]
        exact (List.getElem?_eq_some_iff.mp q).1
      have hs : ss[i]? = some ss[i] := List.getElem?_eq_getElem hi
      rcases he i _ hs with ⟨h1, h2⟩ | ⟨h1, s'', h2, h3, h4⟩
      · rw [q] at h2
        cases h2
        obtain ⟨v, q1, q2, q3⟩ := g.at_ i ss[i] (by rw [List.getElem?_map, hs]; rfl)
        refine ⟨v, q1, ?_, q3⟩
        rw [if_neg (by rw [hs]; simp [h1])]
        cases hp : ss[i] with
        | p d => rw [hp] at q2; exact ⟨Dp.mono bb q2.1, rfl⟩
        | ml t l => rw [hp] at h1; cases h1
        | md t l => rw [hp] at h1; cases h1
        | mr t l => rw [hp] at h1; cases h1
        | ob t c ns l => rw [hp] at h1; cases h1
        | ex c f => rw [hp] at q2; exact ⟨ExIs.mono bb q2.1, rfl⟩
        | fd l =>
          rw [hp] at q2
          obtain ⟨⟨a, ks, o, h1, h2, h3⟩, _⟩ := q2
          exact ⟨⟨a, ks, o, h1, bb _ _ h2, KvD.mono bb h3⟩, rfl⟩
        | hl t => exact (rfl : ([] : List Addr) = [])
      · rw [q] at h4
        cases h4
        rw [Nat.zero_add] at h2 h3
        obtain ⟨v, q1, q2, q3⟩ := g'.at_ i s'' h2
        have hv := q3 i h3
        refine ⟨v, by rw [List.getElem?_map, hv]; rfl, ?_, fun k hk => by rw [Sl.bare_tag] at hk; cases hk⟩
        rw [if_pos (by rw [hs]; simp [h1])]
        exact q2.bare
  · try dsimp only
    by_cases hi : i < ss.length
    · exfalso
      have : i < ss'.length := by omega
      exact h ss'[i] (by rw [List.getElem?_map, List.getElem?_eq_getElem this]; rfl)
    · rw [if_neg (by rw [List.getElem?_eq_none (by omega)]; simp)]
  · try dsimp only at h1 h2
    split at h1
    · split at h2
      · exact g'.dis i j a h1 h2
      · cases h2
    · cases h1
  · try dsimp only at h
    split at h
    · exact g'.out i a h
    · cases h
theorem rd_body {N : List Str} {m : Nat} {g : M Fl} {vs : List V} {H : Hp} {Q : VK} {E : XK} {n : Nat} (hn : N.length - n = m) (h : spD K n (mkF m g) vs H Q E) : rdS K vs g { nx := fun _ H' => Q .non H', rt := Q } (L2.start N vs) H := by
  obtain ⟨hv, B, ss, fs, gd, ht, r, ss', e, k⟩ := h
  have g0 := good_start (N := N) (m := m) gd (by rw [hv]; exact hn)
  unfold mkF at e
  have fin : ∀ {B' H' σ' ρ' fs' v T s}, Fr B H (InF fs) B' H' (UnF (InF fs') T) → Good K vs B' H' σ' ρ' fs' → RsOk K B' H' σ' fs' v (.own s) T → endE 0 ss ρ' = some ss' → s = r → Q v H' := fun {B' H' σ' ρ' fs' v T s} fr g' ok e1 e2 => by
    subst e2
    refine k v B' H' _ T (fr.weak (fun _ h => h) fun a h => Or.inl ?_) (good_end gd fr.bb g' e1) ⟨ok.1, ok.2.1, fun a ha => ⟨(ok.2.2 a ha).1, fun i hi => ?_⟩⟩
    · rcases h with ⟨i, hi⟩ | h
      · try dsimp only at hi
        split at hi
        · exact Or.inl ⟨i, hi⟩
        · cases hi
      · exact Or.inr h
    · try dsimp only at hi
      split at hi
      · exact (ok.2.2 a ha).2 i hi
      · cases hi
  split at e
  · rename_i s ρ' e1
    cases q : endE 0 ss ρ' with
    | none => rw [q] at e; cases e
    | some t =>
      rw [q] at e
      cases e
      exact ⟨B, _, fs, g0, _, ρ', e1, fun v σ' B' H' fs' T fr g' ok => fin fr g' ok q rfl⟩
  · rename_i ρ' e1
    cases q : endE 0 ss ρ' with
    | none => rw [q] at e; cases e
    | some t =>
      rw [q] at e
      cases e
      exact ⟨B, _, fs, g0, _, ρ', e1, fun σ' B' H' fs' fr g' => fin (v := .non) (T := []) (s := .p .none) (fr.weak (fun _ h => h) fun a h => by
        rcases h with h | h
        · exact Or.inl h
        · cases h) g' ⟨⟨.non, rfl⟩, rfl, fun a ha => nomatch ha⟩ q rfl⟩
  · cases e
end
section
variable {P : Program} {w : World} {K : PySem.W.Frag} {mg : Str → Option Value} {base : Heap}
/-- THE RULE: a def of the text does what its mirror does -/
theorem fn_ok {x qual : Str} {st : Stmt} {f : Addr} {fd : FuncData} {N ps : List Str} {k m : Nat} {g : M Fl} (F : Fun K x qual st f fd) (S : FnScope N ps (defScope st)) (hm : N.length - ps.length = m)
    (hbody : ∀ (cdv : Value) (A : Around) (outer : List PySem.Env) (s : Shared) (H : Hp) (E : XK) (vs0 : List V), Room k (A.deeper (envOfC qual (defScope st) s.heap.objs.size f cdv)) →
      PSs (cxOf CX0 P w K mg base N qual (defScope st) f cdv A outer s H E).nox (defBody st) (rdS K vs0 g)) : FnOk P w K mg base CX0 (k + 1) f fd ps (spD K ps.length (mkF m g)) :=
  F.ok S (fun vs H Q E h => h.1) fun cdv A outer s H vs Q E hr h => ⟨_, hbody cdv A outer s H E vs hr, rd_body hm h⟩
/-- a def that is not known to do anything -/
theorem fn_none {f : Addr} {fd : FuncData} {ps : List Str} {k n : Nat} : FnOk P w K mg base CX0 k f fd ps (spD K n fun _ => none) where
  len := fun vs H Q E h => by obtain ⟨_, B, ss, fs, _, _, r, ss', e, _⟩ := h; cases e
  run := fun A outer s H args us vs Q E _ _ _ _ h => by obtain ⟨_, B, ss, fs, _, _, r, ss', e, _⟩ := h; cases e
end

/-! ### calls -/
def argS : List Rs → Env → Option (List Sl)
  | [], _ => some []
  | .own s :: r, ρ => match argS r ρ with
    | some t => some (s :: t)
    | none => none
  | .bor i :: r, ρ => match ρ[i]? with
    | some (some s) => match argS r ρ with
      | some t => some (s.bare :: t)
      | none => none
    | _ => none
  | .lent _ _ _ :: _, _ => none
def bors : List Rs → List Nat
  | [] => []
  | .own _ :: r => bors r
  | .bor i :: r => i :: bors r
  | .lent _ _ _ :: r => bors r
def Sl.retag (t : Option Nat) : Sl → Sl
  | .p d => .p d
  | .ml _ l => .ml t l
  | .md _ l => .md t l
  | .mr _ l => .mr t l
  | .ob _ c ns l => .ob t c ns l
  | .ex c f => .ex c f
  | .fd l => .fd l
  | .hl _ => .hl t
def tagAt (ρ : Env) (i : Nat) : Option Nat := match ρ[i]? with
  | some (some s) => s.tag
  | _ => none
def wb : List Rs → List Sl → Env → Env
  | .bor i :: rs, s :: ss, ρ => wb rs ss (ρ.set i (some (s.retag (tagAt ρ i))))
  | .own _ :: rs, _ :: ss, ρ => wb rs ss ρ
  | .lent _ _ _ :: rs, _ :: ss, ρ => wb rs ss ρ
  | _, _, ρ => ρ
def opCall (n : Nat) (F : List Sl → Option (Sl × List Sl)) : List Rs → M Rs := fun rs ρ => if rs.length = n ∧ (bors rs).Nodup then match argS rs ρ with
    | some ss => match F ss with
      | some (r, ss') => some (.ok (.own r) (wb rs ss' ρ))
      | none => none
    | none => none
  else none
theorem wb_len : ∀ (rs : List Rs) (ss : List Sl) (ρ : Env), (wb rs ss ρ).length = ρ.length
  | [], _, _ => by simp [wb]
  | .own _ :: _, [], _ => by simp [wb]
  | .bor _ :: _, [], _ => by simp [wb]
  | .lent _ _ _ :: _, [], _ => by simp [wb]
  | .own _ :: rs, _ :: ss, ρ => by simp [wb, wb_len rs ss ρ]
  | .lent _ _ _ :: rs, _ :: ss, ρ => by simp [wb, wb_len rs ss ρ]
  | .bor i :: rs, s :: ss, ρ => by simp [wb, wb_len rs ss]
theorem wb_out {i : Nat} : ∀ (rs : List Rs) (ss : List Sl) (ρ : Env), i ∉ bors rs → (wb rs ss ρ)[i]? = ρ[i]?
  | [], _, _, _ => by simp [wb]
  | .own _ :: _, [], _, _ => by simp [wb]
  | .bor _ :: _, [], _, _ => by simp [wb]
  | .lent _ _ _ :: _, [], _, _ => by simp [wb]
  | .own _ :: rs, _ :: ss, ρ, h => by simp only [wb]; exact wb_out rs ss ρ h
  | .lent _ _ _ :: rs, _ :: ss, ρ, h => by simp only [wb]; exact wb_out rs ss ρ h
  | .bor j :: rs, s :: ss, ρ, h => by
    simp only [wb]
    simp only [bors, List.mem_cons, not_or] at h
    rw [wb_out rs ss _ h.2, List.getElem?_set_ne (Ne.symm h.1)]
theorem mem_bors {i : Nat} : ∀ {rs : List Rs}, i ∈ bors rs ↔ ∃ k : Nat, rs[k]? = some (.bor i)
  | [] => by simp [bors]
  | .own s :: r => by
    rw [bors, mem_bors]
    constructor
    · rintro ⟨k, h⟩; exact ⟨k + 1, by simpa using h⟩
    · rintro ⟨k, h⟩
      cases k with
      | zero => simp at h
      | succ k => exact ⟨k, by simpa using h⟩
  | .lent _ _ _ :: r => by
    rw [bors, mem_bors]
    constructor
    · rintro ⟨k, h⟩; exact ⟨k + 1, by simpa using h⟩
    · rintro ⟨k, h⟩
      cases k with
      | zero => simp at h
      | succ k => exact ⟨k, by simpa using h⟩
  | .bor j :: r => by
    rw [bors, List.mem_cons, mem_bors]
    constructor
    · rintro (rfl | ⟨k, h⟩)
      · exact ⟨0, rfl⟩
      · exact ⟨k + 1, by simpa using h⟩
    · rintro ⟨k, h⟩
      cases k with
      | zero => simp at h; exact Or.inl h.symm
      | succ k => exact Or.inr ⟨k, by simpa using h⟩
theorem bors_inj {i : Nat} : ∀ {rs : List Rs} {k k' : Nat}, (bors rs).Nodup → rs[k]? = some (.bor i) → rs[k']? = some (.bor i) → k = k'
  | [], k, _, _, h, _ => by simp at h
  | .own s :: r, k, k', hn, h, h' => by
    cases k with
    | zero => simp at h
    | succ k =>
      cases k' with
      | zero => simp at h'
      | succ k' => exact congrArg (· + 1) (bors_inj (rs := r) hn (by simpa using h) (by simpa using h'))
  | .lent _ _ _ :: r, k, k', hn, h, h' => by
    cases k with
    | zero => simp at h
    | succ k =>
      cases k' with
      | zero => simp at h'
      | succ k' => exact congrArg (· + 1) (bors_inj (rs := r) hn (by simpa using h) (by simpa using h'))
  | .bor j :: r, k, k', hn, h, h' => by
    rw [bors, List.nodup_cons] at hn
    cases k with
    | zero =>
      simp at h
      subst h
      cases k' with
      | zero => rfl
      | succ k' => exact (hn.1 (mem_bors.mpr ⟨k', by simpa using h'⟩)).elim
    | succ k =>
      cases k' with
      | zero =>
        simp at h'
        subst h'
        exact (hn.1 (mem_bors.mpr ⟨k, by simpa using h⟩)).elim
      | succ k' => exact congrArg (· + 1) (bors_inj (rs := r) hn.2 (by simpa using h) (by simpa using h'))
theorem wb_in {i : Nat} : ∀ {rs : List Rs} {ss : List Sl} {ρ : Env} {k : Nat} {s : Sl}, (bors rs).Nodup → rs[k]? = some (.bor i) → ss[k]? = some s → ss.length = rs.length → i < ρ.length → (wb rs ss ρ)[i]? = some (some (s.retag (tagAt ρ i)))
  | [], _, _, k, _, _, h, _, _, _ => by simp at h
  | _ :: _, [], _, _, _, _, _, h, _, _ => by simp at h
  | .own s0 :: r, s1 :: ss, ρ, k, s, hn, h, hs, hl, hi => by
    cases k with
    | zero => simp at h
    | succ k => simp only [wb]; exact wb_in (rs := r) hn (by simpa using h) (by simpa using hs) (by simpa using hl) hi
  | .lent _ _ _ :: r, s1 :: ss, ρ, k, s, hn, h, hs, hl, hi => by
    cases k with
    | zero => simp at h
    | succ k => simp only [wb]; exact wb_in (rs := r) hn (by simpa using h) (by simpa using hs) (by simpa using hl) hi
  | .bor j :: r, s1 :: ss, ρ, k, s, hn, h, hs, hl, hi => by
    rw [bors, List.nodup_cons] at hn
    cases k with
    | zero =>
      simp at h hs
      subst h hs
      simp only [wb]
      rw [wb_out r ss _ hn.1, List.getElem?_set_self hi]
    | succ k =>
      have hne : j ≠ i := fun e => hn.1 (mem_bors.mpr ⟨k, by rw [e]; simpa using h⟩)
      simp only [wb]
      rw [wb_in (rs := r) hn.2 (by simpa using h) (by simpa using hs) (by simpa using hl) (by simpa using hi)]
      unfold tagAt
      rw [List.getElem?_set_ne hne]
theorem argS_get {ρ : Env} : ∀ {rs : List Rs} {ss : List Sl}, argS rs ρ = some ss → ss.length = rs.length ∧ ∀ (k : Nat) s, ss[k]? = some s → rs[k]? = some (.own s) ∨ ∃ i s0, rs[k]? = some (.bor i) ∧ ρ[i]? = some (some s0) ∧ s = s0.bare
  | [], ss, e => by cases e; exact ⟨rfl, fun k s h => by simp at h⟩
  | .own s0 :: r, ss, e => by
    unfold argS at e
    split at e
    · rename_i t e1
      cases e
      obtain ⟨h1, h2⟩ := argS_get e1
      refine ⟨by simp [h1], fun k s h => ?_⟩
      cases k with
      | zero => simp at h; subst h; exact Or.inl rfl
      | succ k => simpa using h2 k s (by simpa using h)
    · cases e
  | .bor i :: r, ss, e => by
    unfold argS at e
    split at e
    · rename_i s0 e0
      split at e
      · rename_i t e1
        cases e
        obtain ⟨h1, h2⟩ := argS_get e1
        refine ⟨by simp [h1], fun k s h => ?_⟩
        cases k with
        | zero => simp at h; subst h; exact Or.inr ⟨i, s0, rfl, e0, rfl⟩
        | succ k => simpa using h2 k s (by simpa using h)
      · cases e
    · cases e
  | .lent _ _ _ :: r, ss, e => by cases e
theorem argS_nolent {ρ : Env} : ∀ {rs : List Rs} {ss : List Sl} {k i kk : Nat} {s : Sl}, argS rs ρ = some ss → rs[k]? ≠ some (.lent i s kk)
  | [], _, k, _, _, _, _, h => by simp at h
  | .own s0 :: r, ss, k, i, kk, s, e, h => by
    unfold argS at e
    split at e
    · rename_i t e1
      cases k with
      | zero => simp at h
      | succ k => exact argS_nolent e1 (by simpa using h)
    · cases e
  | .bor j :: r, ss, k, i, kk, s, e, h => by
    unfold argS at e
    split at e
    · split at e
      · rename_i t e1
        cases k with
        | zero => simp at h
        | succ k => exact argS_nolent e1 (by simpa using h)
      · cases e
    · cases e
  | .lent _ _ _ :: r, ss, k, i, kk, s, e, h => by cases e
theorem argS_bor {ρ : Env} : ∀ {rs : List Rs} {ss : List Sl} {k i : Nat}, argS rs ρ = some ss → rs[k]? = some (.bor i) → ∃ s0, ρ[i]? = some (some s0)
  | [], _, k, _, _, h => by simp at h
  | .own s0 :: r, ss, k, i, e, h => by
    unfold argS at e
    split at e
    · rename_i t e1
      cases k with
      | zero => simp at h
      | succ k => exact argS_bor e1 (by simpa using h)
    · cases e
  | .bor j :: r, ss, k, i, e, h => by
    unfold argS at e
    split at e
    · rename_i s0 e0
      split at e
      · rename_i t e1
        cases k with
        | zero => simp at h; subst h; exact ⟨s0, e0⟩
        | succ k => exact argS_bor e1 (by simpa using h)
      · cases e
    · cases e
  | .lent _ _ _ :: r, ss, k, i, e, h => by cases e
section
variable {K : PySem.W.Frag} {B H : Hp} {σ : L2.St} {fs : Nat → List Addr}
theorem RsAll.get : ∀ {vs : List V} {rs : List Rs} {Ts : List (List Addr)} {k : Nat} {r : Rs}, RsAll K B H σ fs vs rs Ts → rs[k]? = some r → ∃ v T, vs[k]? = some v ∧ Ts[k]? = some T ∧ RsOk K B H σ fs v r T
  | [], [], [], k, _, _, e => by simp at e
  | v :: vs, r :: rs, T :: Ts, k, r', g, e => by
    cases k with
    | zero => simp at e; subst e; exact ⟨v, T, rfl, rfl, g.1⟩
    | succ k => simpa using RsAll.get (k := k) g.2 (by simpa using e)
  | [], [], _ :: _, _, _, g, _ => g.elim
  | [], _ :: _, _, _, _, g, _ => g.elim
  | _ :: _, [], _, _, _, g, _ => g.elim
  | _ :: _, _ :: _, [], _, _, g, _ => g.elim
theorem RsAll.len : ∀ {vs : List V} {rs : List Rs} {Ts : List (List Addr)}, RsAll K B H σ fs vs rs Ts → vs.length = rs.length
  | [], [], [], _ => rfl
  | v :: vs, r :: rs, T :: Ts, g => by simp [RsAll.len g.2]
  | [], [], _ :: _, g => g.elim
  | [], _ :: _, _, g => g.elim
  | _ :: _, [], _, g => g.elim
  | _ :: _, _ :: _, [], g => g.elim
end
theorem flat_inj {a : Addr} : ∀ {Ts : List (List Addr)} {k k' : Nat} {T T' : List Addr}, Ts.flatten.Nodup → Ts[k]? = some T → Ts[k']? = some T' → a ∈ T → a ∈ T' → k = k'
  | [], k, _, _, _, _, h, _, _, _ => by simp at h
  | T0 :: Ts, k, k', T, T', hn, h, h', ha, ha' => by
    rw [List.flatten_cons, List.nodup_append] at hn
    cases k with
    | zero =>
      simp at h; subst h
      cases k' with
      | zero => rfl
      | succ k' => exact (hn.2.2 a ha a (List.mem_flatten.mpr ⟨T', List.mem_of_getElem? (by simpa using h'), ha'⟩) rfl).elim
    | succ k =>
      cases k' with
      | zero =>
        simp at h'; subst h'
        exact (hn.2.2 a ha' a (List.mem_flatten.mpr ⟨T, List.mem_of_getElem? (by simpa using h), ha⟩) rfl).elim
      | succ k' => exact congrArg (· + 1) (flat_inj hn.2.1 (by simpa using h) (by simpa using h') ha ha')
theorem Sl.retag_tag {s : Sl} {t : Option Nat} {k : Nat} (h : (s.retag t).tag = some k) : t = some k := by
  cases s with
  | p d => cases h
  | ml _ l => exact h
  | md _ l => exact h
  | mr _ l => exact h
  | ob _ c ns l => exact h
  | ex c f => cases h
  | fd l => cases h
  | hl t => exact h
theorem Own.retag' {K : PySem.W.Frag} {B H : Hp} {v : V} {s : Sl} {T : List Addr} {t : Option Nat} (h : Own K B H v s T) : Own K B H v (s.retag t) T := by cases s <;> exact h
open Classical in
theorem opCall_ok {K : PySem.W.Frag} {n : Nat} {F : List Sl → Option (Sl × List Sl)} : OpOk K (fun vs H Q => spD K n F vs H Q E0) (opCall n F) := by
  intro vs0 σ B H ρ fs vs rs Ts Q g ok nd r' ρ' e k
  unfold opCall at e
  split at e
  · rename_i hc
    split at e
    · rename_i ss e1
      split at e
      · rename_i r ss' e2
        cases e
        obtain ⟨hn, hnd⟩ := hc
        obtain ⟨hl, ha⟩ := argS_get e1
        have hvl := RsAll.len ok
        -- the callee's footprints
        let fsA : Nat → List Addr := fun k => match rs[k]? with
          | some (.bor i) => fs i
          | some (.own _) => Ts.getD k []
          | _ => []
        have fA : ∀ k a, a ∈ fsA k → (∃ i, rs[k]? = some (Rs.bor i) ∧ a ∈ fs i) ∨ ∃ s T, rs[k]? = some (Rs.own s) ∧ Ts[k]? = some T ∧ a ∈ T := fun k a h => by
          show _ ∨ _
          have h' : a ∈ (match rs[k]? with
            | some (.bor i) => fs i
            | some (.own _) => Ts.getD k []
            | _ => []) := h
          cases q : rs[k]? with
          | none => rw [q] at h'; cases h'
          | some r =>
            rw [q] at h'
            cases r with
            | bor i => exact Or.inl ⟨i, rfl, h'⟩
            | lent i s kk => cases h'
            | own s =>
              obtain ⟨v, T, _, hT, _⟩ := RsAll.get ok q
              refine Or.inr ⟨s, T, rfl, hT, ?_⟩
              try dsimp only at h'
              rw [List.getD_eq_getElem?_getD, hT] at h'
              exact h'
        have offA : ∀ (k : Nat) (s : Sl) (T : List Addr) (a : Addr), rs[k]? = some (Rs.own s) → Ts[k]? = some T → a ∈ T → ∀ i, a ∉ fs i := fun k s T a q hT haT i hi => by
          obtain ⟨v, T', _, hT', okk⟩ := RsAll.get ok q
          rw [hT] at hT'; cases hT'
          exact okk.off a haT ⟨i, hi⟩
        have gA : Good K [] B H (vs.map some) (ss.map some) fsA := by
          refine ⟨g.ext, by simp [hvl, hl], fun j s h => ?_, fun j h => ?_, fun j j' a h1 h2 => ?_, fun j a h => ?_⟩
          · rw [List.getElem?_map] at h
            cases q : ss[j]? with
            | none => rw [q] at h; cases h
            | some s' =>
              rw [q] at h
              cases h
              rcases ha j s q with h1 | ⟨i, s0, h1, h2, rfl⟩
              · obtain ⟨v, T, q1, q2, q3⟩ := RsAll.get ok h1
                refine ⟨v, by rw [List.getElem?_map, q1]; rfl, ?_, fun k hk => by rw [q3.2.1] at hk; cases hk⟩
                have : fsA j = T := by
                  show (match rs[j]? with
                    | some (.bor i) => fs i
                    | some (.own _) => Ts.getD j []
                    | _ => []) = T
                  rw [h1]
                  try dsimp only
                  rw [List.getD_eq_getElem?_getD, q2]
                  rfl
                rw [this]
                exact q3.1
              · obtain ⟨v, T, q1, q2, q3⟩ := RsAll.get ok h1
                obtain ⟨v', w1, w2, _⟩ := g.at_ i s0 h2
                have hv : σ[i]? = some (some v) := q3.1
                rw [hv] at w1
                cases w1
                refine ⟨v, by rw [List.getElem?_map, q1]; rfl, ?_, fun k hk => by rw [Sl.bare_tag] at hk; cases hk⟩
                have : fsA j = fs i := by
                  show (match rs[j]? with
                    | some (.bor i) => fs i
                    | some (.own _) => Ts.getD j []
                    | _ => []) = fs i
                  rw [h1]
                rw [this]
                exact w2.bare
          · show (match rs[j]? with
                    | some (.bor i) => fs i
                    | some (.own _) => Ts.getD j []
                    | _ => []) = []
            have : ¬ j < ss.length := fun hj => h ss[j] (by rw [List.getElem?_map, List.getElem?_eq_getElem hj]; rfl)
            rw [List.getElem?_eq_none (by omega)]
          · rcases fA j a h1 with ⟨i, q1, q2⟩ | ⟨s, T, q1, q2, q3⟩
            · rcases fA j' a h2 with ⟨i', w1, w2⟩ | ⟨s', T', w1, w2, w3⟩
              · have := g.dis i i' a q2 w2
                subst this
                exact bors_inj hnd q1 w1
              · exact (offA j' s' T' a w1 w2 w3 i q2).elim
            · rcases fA j' a h2 with ⟨i', w1, w2⟩ | ⟨s', T', w1, w2, w3⟩
              · exact (offA j s T a q1 q2 q3 i' w2).elim
              · exact flat_inj nd q2 w2 q3 w3
          · rcases fA j a h with ⟨i, q1, q2⟩ | ⟨s, T, q1, q2, q3⟩
            · exact g.out i a q2
            · obtain ⟨v, T', _, hT', okk⟩ := RsAll.get ok q1
              rw [q2] at hT'; cases hT'
              exact (okk.2.2 a q3).1
        have tg : ∀ s ∈ ss, s.tag = none := fun s hs => by
          obtain ⟨j, hj⟩ := List.getElem?_of_mem hs
          rcases ha j s hj with h1 | ⟨i, s0, h1, h2, rfl⟩
          · obtain ⟨v, T, q1, q2, q3⟩ := RsAll.get ok h1
            exact q3.2.1
          · exact Sl.bare_tag s0
        refine ⟨by rw [hvl]; exact hn, B, ss, fsA, gA, tg, r, ss', e2, fun v B' H' fsB T fr gB okB => ?_⟩
        have hl' : ss'.length = rs.length := by
          have := gB.len
          simp at this
          omega
        -- behind the call
        let fs2 : Nat → List Addr := fun i => if h : ∃ k : Nat, rs[k]? = some (.bor i) then fsB (Classical.choose h) else fs i
        have f2in : ∀ {i k : Nat}, rs[k]? = some (.bor i) → fs2 i = fsB k := fun {i k} h => by
          show (if h : ∃ k : Nat, rs[k]? = some (.bor i) then fsB (Classical.choose h) else fs i) = fsB k
          have hx : ∃ k : Nat, rs[k]? = some (.bor i) := ⟨k, h⟩
          rw [dif_pos hx, bors_inj hnd (Classical.choose_spec hx) h]
        have f2out : ∀ {i : Nat}, (¬ ∃ k : Nat, rs[k]? = some (.bor i)) → fs2 i = fs i := fun {i} h => by
          show (if h : ∃ k : Nat, rs[k]? = some (.bor i) then fsB (Classical.choose h) else fs i) = fs i
          rw [dif_neg h]
        have notA : ∀ {i a}, (¬ ∃ k : Nat, rs[k]? = some (.bor i)) → a ∈ fs i → ¬ InF fsA a := fun {i a} h hi ⟨j, hj⟩ => by
          rcases fA j a hj with ⟨i', q1, q2⟩ | ⟨s, T, q1, q2, q3⟩
          · exact h ⟨j, by rw [g.dis i i' a hi q2]; exact q1⟩
          · exact offA j s T a q1 q2 q3 i hi
        have notB : ∀ {i a}, (¬ ∃ k : Nat, rs[k]? = some (.bor i)) → a ∈ fs i → ¬ UnF (InF fsB) T a := fun {i a} h hi f => by
          rcases fr.own a f with q | q
          · exact notA h hi q
          · exact g.lives hi q
        have gd2 : Good K vs0 B' H' σ (wb rs ss' ρ) fs2 := by
          refine ⟨gB.ext, by rw [wb_len]; exact g.len, fun i s h => ?_, fun i h => ?_, fun i j a h1 h2 => ?_, fun i a h => ?_⟩
          · by_cases hx : ∃ k : Nat, rs[k]? = some (.bor i)
            · obtain ⟨j, hj⟩ := hx
              obtain ⟨s0, hs0⟩ := argS_bor e1 hj
              have hj' : j < rs.length := (List.getElem?_eq_some_iff.mp hj).1
              have hs' : ss'[j]? = some (ss'[j]'(by omega)) := List.getElem?_eq_getElem (by omega)
              rw [wb_in hnd hj hs' hl' (List.getElem?_eq_some_iff.mp hs0).1] at h
              cases h
              obtain ⟨v1, q1, q2, _⟩ := gB.at_ j _ (by rw [List.getElem?_map, hs']; rfl)
              obtain ⟨v2, T2, w1, w2, w3⟩ := RsAll.get ok hj
              rw [List.getElem?_map, w1] at q1
              have q1 : some (some v2) = some (some v1) := q1
              have q1 : v2 = v1 := by simpa using q1
              subst q1
              refine ⟨v2, w3.1, by rw [f2in hj]; exact q2.retag', fun q hq => ?_⟩
              have ht := Sl.retag_tag hq
              unfold tagAt at ht
              rw [hs0] at ht
              obtain ⟨v3, z1, _, z3⟩ := g.at_ i s0 hs0
              have hv : σ[i]? = some (some v2) := w3.1
              rw [hv] at z1
              cases z1
              exact z3 q ht
            · rw [wb_out _ _ _ (fun q => hx (mem_bors.mp q))] at h
              obtain ⟨v1, q1, q2, q3⟩ := g.at_ i s h
              refine ⟨v1, q1, ?_, q3⟩
              rw [f2out hx]
              exact q2.keep fr.bb fun a ha => fr.keep a (g.lives ha) (notA hx ha)
          · by_cases hx : ∃ k : Nat, rs[k]? = some (.bor i)
            · obtain ⟨j, hj⟩ := hx
              obtain ⟨s0, hs0⟩ := argS_bor e1 hj
              have hj' : j < rs.length := (List.getElem?_eq_some_iff.mp hj).1
              have hs' : ss'[j]? = some (ss'[j]'(by omega)) := List.getElem?_eq_getElem (by omega)
              exact (h _ (wb_in hnd hj hs' hl' (List.getElem?_eq_some_iff.mp hs0).1)).elim
            · rw [f2out hx]
              rw [wb_out _ _ _ (fun q => hx (mem_bors.mp q))] at h
              exact g.emp i h
          · by_cases hx : ∃ k : Nat, rs[k]? = some (.bor i)
            · obtain ⟨p, hp⟩ := hx
              rw [f2in hp] at h1
              by_cases hy : ∃ k : Nat, rs[k]? = some (.bor j)
              · obtain ⟨q, hq⟩ := hy
                rw [f2in hq] at h2
                have := gB.dis p q a h1 h2
                subst this
                rw [hp] at hq
                cases hq
                rfl
              · rw [f2out hy] at h2
                exact (notB hy h2 (Or.inl ⟨p, h1⟩)).elim
            · rw [f2out hx] at h1
              by_cases hy : ∃ k : Nat, rs[k]? = some (.bor j)
              · obtain ⟨q, hq⟩ := hy
                rw [f2in hq] at h2
                exact (notB hx h1 (Or.inl ⟨q, h2⟩)).elim
              · rw [f2out hy] at h2
                exact g.dis i j a h1 h2
          · by_cases hx : ∃ k : Nat, rs[k]? = some (.bor i)
            · obtain ⟨p, hp⟩ := hx
              rw [f2in hp] at h
              exact gB.out p a h
            · rw [f2out hx] at h
              exact fr.bnew a (g.lives h) (notA hx h) (g.out i a h)
        have w1 : ∀ a, InF fsA a → UnF (InF fs) Ts.flatten a := by
          rintro a ⟨j, hj⟩
          rcases fA j a hj with ⟨i, q1, q2⟩ | ⟨s, T', q1, q2, q3⟩
          · exact Or.inl ⟨i, q2⟩
          · exact Or.inr (List.mem_flatten.mpr ⟨T', List.mem_of_getElem? q2, q3⟩)
        have w2 : ∀ a, UnF (InF fs2) T a → UnF (InF fsB) T a ∨ UnF (InF fs) Ts.flatten a ∨ H a = none := by
          rintro a h
          rcases h with ⟨i, hi⟩ | h
          · by_cases hx : ∃ k : Nat, rs[k]? = some (.bor i)
            · obtain ⟨p, hp⟩ := hx
              rw [f2in hp] at hi
              exact Or.inl (Or.inl ⟨p, hi⟩)
            · rw [f2out hx] at hi
              exact Or.inr (Or.inl (Or.inl ⟨i, hi⟩))
          · exact Or.inl (Or.inr h)
        refine k v B' H' fs2 T (fr.weak w1 w2) gd2 ⟨okB.1, okB.2.1, ?_⟩
        · intro a haT
          refine ⟨(okB.2.2 a haT).1, ?_⟩
          intro i hi
          by_cases hx : ∃ k : Nat, rs[k]? = some (.bor i)
          · obtain ⟨p, hp⟩ := hx
            rw [f2in hp] at hi
            exact (okB.2.2 a haT).2 p hi
          · rw [f2out hx] at hi
            exact notB hx hi (Or.inr haT)
      · cases e
    · cases e
  · cases e
section
variable {X : Cx} {vs0 : List V} {k n : Nat} {f : Addr} {fd : FuncData} {ps : List Str} {F : List Sl → Option (Sl × List Sl)} {x : Str} {p pos : Pos} {e : Expr} {es : List Expr} {fa : M (List Rs)}
theorem de_call (Fn : FnOk X.prog X.w X.K X.mg X.base CX0 k f fd ps (spD X.K n F)) (hr : Room k X.A) (hg : Gl X x) (hm : X.mg x = some (.ref f)) (hk : PySem.W.keepIn X.K (.ref f) = true) (hb : Binds X.K fd ps [])
    (ha : PA X (e :: es) (rdA X.K vs0 fa)) (hdb : (x == ("__debug__" : Str)) = false := by decide) (he : starEach (e :: es) X.env = (false, eval e X.env) :: starEach es X.env := by rfl) (hpl : (backTo pos (starEach es X.env)).any (·.1) = false := by rfl) :
    PE X (.Call (.Name x p) (e :: es) [] pos) (rdE X.K vs0 (M.bind fa (opCall n F))) := PE.imp (pe_call (E := E0) Fn hr hg hm hk hb .nil pass0 ha hdb he hpl) fun σ H Q q => by
  have q2 := rd_op (opCall_ok (n := n) (F := F)) q
  obtain ⟨B, ρ, fs, gd, rs, ρ', e1, kk⟩ := q2
  refine ⟨B, ρ, fs, gd, rs, ρ', e1, fun vs B' H' fs' Ts a b c d => ?_⟩
  show spD X.K n F (vs ++ []) H' Q E0
  rw [List.append_nil]
  exact kk vs B' H' fs' Ts a b c d
theorem de_call0 (Fn : FnOk X.prog X.w X.K X.mg X.base CX0 k f fd ps (spD X.K n F)) (hr : Room k X.A) (hg : Gl X x) (hm : X.mg x = some (.ref f)) (hk : PySem.W.keepIn X.K (.ref f) = true) (hb : Binds X.K fd ps [])
    (hdb : (x == ("__debug__" : Str)) = false := by decide) : PE X (.Call (.Name x p) [] [] pos) (rdE X.K vs0 (M.bind aNil (opCall n F))) := PE.imp (pe_call0 (E := E0) Fn hr hg hm hk hb .nil pass0 hdb) fun σ H Q q => by
  have q2 := rdA_nil (rd_op (opCall_ok (n := n) (F := F)) q)
  exact q2
end
end Pd

set_option Elab.async false
set_option linter.all false
set_option maxRecDepth 100000
set_option maxHeartbeats 1000000
namespace Pd
open PySem PySem.Spec PyProof.Rows L2

/-! ### written numbers -/
section
variable {X : Cx} {vs0 : List V} {e : Expr} {f : M Rs} {d : D}
theorem de_fold (h : PE X e (rdE X.K vs0 f)) (q : ∀ ρ, f ρ = eC d ρ) : PE X e (rdE X.K vs0 (eC d)) := by
  have : f = eC d := funext q
  rw [← this]
  exact h
instance (i j : Int) : Decidable (CPow i j) := by unfold CPow; infer_instance
def oPow := opG (pInt CPow fun i j => i ^ j.toNat)
theorem oPow_ok {K : PySem.W.Frag} : OpOk K (r2 (rI CPow fun i j => .int (i ^ j.toNat))) oPow := oInt_ok
end
/-! ### chains -/
section
variable {X : Cx} {vs0 : List V} {a b c : Expr} {fa fb fc : M Rs} {op op' : List Rs → M Rs} {o1 o2 : CmpOp} {r r' : R2} {pos : Pos}
theorem rd_chain {K : PySem.W.Frag} (h1 : OpOk K (r2 r) op) (h2 : OpOk K (r2 r') op') {σ : L2.St} {H : Hp} {Q : VK} (q : rdE K vs0 (eChain fa fb fc op op') σ H Q) : tChain r r' (rdE K vs0 fa) (rdE K vs0 fb) (rdE K vs0 fc) σ H Q := by
  obtain ⟨B, ρ, fs, g, r0, ρ', e, k⟩ := q
  obtain ⟨x, ρ1, e1, e2⟩ := M.bind_ok e
  obtain ⟨y, ρ2, e3, e4⟩ := M.bind_ok e2
  cases y with
  | bor i => cases e4
  | lent _ _ _ => cases e4
  | own sy =>
  cases sy with
  | ml _ _ => cases e4
  | md _ _ => cases e4
  | mr _ _ => cases e4
  | ob _ _ _ _ => cases e4
  | ex _ _ => cases e4
  | fd _ => cases e4
  | hl _ => cases e4
  | p d =>
  obtain ⟨t, ρ3, e5, e6⟩ := M.bind_ok e4
  obtain ⟨z, ρ4, e7, e8⟩ := M.bind_ok e5
  split at e8
  · rename_i t' ev
    cases e8
    refine ⟨B, ρ, fs, g, x, ρ1, e1, fun v B1 H1 fs1 T1 fr1 g1 ok1 => ⟨B1, ρ1, fs1, g1, .own (.p d), ρ2, e3, fun u B2 H2 fs2 T2 fr2 g2 ok2 => ?_⟩⟩
    have n1 := ok1.off
    have ok1' := ok1.keep (fs' := fs2) fr2 n1 fun a h => Or.inl h
    have hT2 : T2 = [] := ok2.1.2
    subst hT2
    have nd : [T1, ([] : List Addr)].flatten.Nodup := by simpa using ok1.nodup
    have frA : ∀ {B3 H3 fs3 T3}, Fr B2 H2 (UnF (InF fs2) [T1, ([] : List Addr)].flatten) B3 H3 (UnF (InF fs3) T3) → Fr B H (InF fs) B3 H3 (UnF (InF fs3) T3) := fun {B3 H3 fs3 T3} fr3 =>
      fr1.trans (((fr2.weak (fun _ h => h) fun a h => Or.inl h).frame T1).trans (fr3.weak (fun a h => by
        rcases h with h | h
        · exact Or.inl (Or.inl h)
        · exact Or.inr (by simpa using h)) fun a h => Or.inl h))
    obtain ⟨x', y', ex, q⟩ := h1 vs0 σ B2 H2 ρ2 fs2 [v, u] [x, .own (.p d)] [T1, []] (fun z H3 => ∃ k, z = .bl k ∧ (if k = true then rdE K vs0 fc σ H3 fun w' H4 => r' u w' H4 Q else Q (.bl false) H3)) g2 ⟨ok1', ok2, True.intro⟩ nd z ρ3 e7
      (fun w B3 H3 fs3 T3 fr3 g3 ok3 => by
        refine ⟨t, (view_ok g3 ok3 ev).bool, ?_⟩
        cases t with
        | false =>
          rw [if_neg (by decide)]
          rw [if_neg (by decide)] at e6
          cases e6
          exact k _ B3 H3 fs3 [] ((frA fr3).weak (fun _ h => h) fun a h => Or.inl (by
            rcases h with h | h
            · exact Or.inl h
            · cases h)) g3 ⟨⟨.bl false, rfl⟩, rfl, fun a ha => nomatch ha⟩
        | true =>
          rw [if_pos rfl]
          rw [if_pos rfl] at e6
          obtain ⟨zz, ρ5, e9, e10⟩ := M.bind_ok e6
          refine ⟨B3, ρ3, fs3, g3, zz, ρ5, e9, fun w' B4 H4 fs4 T4 fr4 g4 ok4 => ?_⟩
          have du : Dp K B4 u d := Dp.mono ((fr3.bb).trans fr4.bb) ok2.1.1
          obtain ⟨x2, y2, ex2, q2⟩ := h2 vs0 σ B4 H4 ρ5 fs4 [u, w'] [.own (.p d), zz] [[], T4] Q g4 ⟨⟨⟨du, rfl⟩, rfl, fun a ha => nomatch ha⟩, ok4, True.intro⟩ (by simpa using ok4.nodup) r0 ρ' e10 (fun v5 B5 H5 fs5 T5 fr5 g5 ok5 => by
            refine k v5 B5 H5 fs5 T5 (((frA fr3).weak (fun _ h => h) fun a h => Or.inl (Or.inl h)).trans (fr4.trans (fr5.weak (fun a h => ?_) fun a h => Or.inl h))) g5 ok5
            rcases h with h | h
            · exact Or.inl h
            · exact Or.inr (by simpa using h))
          cases ex2
          exact q2)
    cases ex
    exact q
  · cases e8
theorem de_chain (ho : OpR X (compareOp o1) r) (ho' : OpR X (compareOp o2) r') (h1 : OpOk X.K (r2 r) op) (h2 : OpOk X.K (r2 r') op') (ha : PE X a (rdE X.K vs0 fa)) (hb : PE X b (rdE X.K vs0 fb)) (hc : PE X c (rdE X.K vs0 fc))
    (hm : lastMarks [o1, o2] [b, c] = false := by with_unfolding_all rfl) : PE X (.Compare a [o1, o2] [b, c] pos) (rdE X.K vs0 (eChain fa fb fc op op')) := PE.imp (pe_chain ho ho' ha hb hc hm) fun σ H Q q => rd_chain h1 h2 q
theorem mtest_of {K : PySem.W.Frag} {f : M Rs} {t : TE} (i : ∀ σ H Q, rdE K vs0 f σ H Q → t σ H Q) {σ : L2.St} {H : Hp} {Q : Bool → Hp → Prop} (q : rdT K vs0 (mTest f) σ H Q) : tTest t σ H Q := by
  obtain ⟨B, ρ, fs, g, b, ρ', e, k⟩ := q
  obtain ⟨r, ρ2, e3, e4⟩ := M.bind_ok e
  split at e4
  · rename_i c' e5
    cases e4
    exact i σ H _ ⟨B, ρ, fs, g, r, ρ', e3, fun v B1 H1 fs1 T fr g1 ok => ⟨b, (view_ok g1 ok e5).bool, k B1 H1 fs1 (fr_drop fr) g1⟩⟩
  · cases e4
theorem dt_cmp (ho : OpR X (compareOp o1) r) (hp : OpOk X.K (r2 r) op) (ha : PE X a (rdE X.K vs0 fa)) (hb : PE X b (rdE X.K vs0 fb)) (hm : behindInMarks o1 b = false) : PT X (.Compare a [o1] [b] pos) (rdT X.K vs0 (mTest (eBin fa fb op))) :=
  PT.imp (pt_cmpR ho ha hb hm) fun _ _ _ q => mtest_of (fun _ _ _ q => rd_bin hp q) q
theorem dt_chain (ho : OpR X (compareOp o1) r) (ho' : OpR X (compareOp o2) r') (h1 : OpOk X.K (r2 r) op) (h2 : OpOk X.K (r2 r') op') (ha : PE X a (rdE X.K vs0 fa)) (hb : PE X b (rdE X.K vs0 fb)) (hc : PE X c (rdE X.K vs0 fc))
    (hm : lastMarks [o1, o2] [b, c] = false := by with_unfolding_all rfl) : PT X (.Compare a [o1, o2] [b, c] pos) (rdT X.K vs0 (mTest (eChain fa fb fc op op'))) :=
  PT.imp (pt_chain ho ho' ha hb hc hm) fun _ _ _ q => mtest_of (fun _ _ _ q => rd_chain h1 h2 q) q
end
/-! ### isinstance -/
def tyName : D → String
  | .none => "NoneType"
  | .bool _ => "bool"
  | .int _ => "int"
  | .str _ => "str"
  | .list _ => "list"
  | .tuple _ => "tuple"
  | .dict _ => "dict"
def isTy (T : String) (d : D) : Bool := match d with
  | .none => decide (T = "NoneType")
  | .bool _ => decide (T = "bool") || decide (T = "int")
  | .int _ => decide (T = "int")
  | .str _ => decide (T = "str")
  | .list _ => decide (T = "list")
  | .tuple _ => decide (T = "tuple")
  | .dict _ => decide (T = "dict")
def isiOk (T : String) : Bool := ["NoneType", "bool", "int", "str", "list", "tuple", "dict"].all fun n => decide (kitB n T = some ((decide (n = T)) || (decide (n = "bool") && decide (T = "int"))))
theorem isiOk_kit {T : String} (h : isiOk T = true) (d : D) : kitB (tyName d) T = some (isTy T d) := by
  unfold isiOk at h
  simp only [List.all_cons, List.all_nil, Bool.and_eq_true, decide_eq_true_eq] at h
  obtain ⟨h1, h2, h3, h4, h5, h6, h7, _⟩ := h
  have sw : ∀ s : String, decide (s = T) = decide (T = s) := fun s => decide_eq_decide.mpr ⟨Eq.symm, Eq.symm⟩
  cases d with
  | none => simp only [tyName, isTy]; rw [h1, sw]; simp
  | bool b => simp only [tyName, isTy]; rw [h2, sw]; simp
  | int b => simp only [tyName, isTy]; rw [h3, sw]; simp
  | str b => simp only [tyName, isTy]; rw [h4, sw]; simp
  | list b => simp only [tyName, isTy]; rw [h5, sw]; simp
  | tuple b => simp only [tyName, isTy]; rw [h6, sw]; simp
  | dict b => simp only [tyName, isTy]; rw [h7, sw]; simp
def oIsi (T : String) : Rs → M Rs := fun r ρ => match r.view ρ with
  | some d => some (.ok (.own (.p (.bool (isTy T d)))) ρ)
  | none => none
theorem tyx_of {K : PySem.W.Frag} {H : Hp} {v : V} {d : D} (h : Dp K H v d) : TyX K H v (.type (tyName d)) := by
  cases h with
  | non => exact .base .non
  | bl b => exact .base (.bl b)
  | int i => exact .base (.int i)
  | str x => exact .base (.str x)
  | lst h1 h2 =>
    rcases h1 with (h1 | ⟨o, h1⟩) | ⟨o, its, n, h1, h2, _⟩
    · exact .base (.lst h1)
    · exact .base (.frz h1)
    · exact .kList h1 h2
  | tup h1 h2 =>
    rcases h1 with (h1 | ⟨o, h1⟩) | ⟨o, its, n, h1, h2, _⟩
    · exact .base (.tup h1)
    · exact .fTuple h1
    · exact .kTuple h1 h2
theorem de_isi {X : Cx} {vs0 : List V} {T : String} {t : Str} {e : Expr} {fe : M Rs} {p p2 pos : Pos} (hT : isiOk T = true) (hg : Gl X "isinstance") (hm : X.mg "isinstance" = none) (hgt : Gl X t) (hmt : X.mg t = none) (hv : bootBuiltins t = some (.type T)) (he : PE X e (rdE X.K vs0 fe))
    (hvi : bootBuiltins "isinstance" = some (.builtin "isinstance") := by decide +kernel) (hn : t ≠ "__name__" := by decide) (hd : (t == ("__debug__" : Str)) = false := by decide)
    (hs : starEach [e, .Name t p2] X.env = (false, eval e X.env) :: starEach [.Name t p2] X.env := by rfl) (hpl : (backTo pos (starEach [.Name t p2] X.env)).any (·.1) = false := by rfl) :
    PE X (.Call (.Name "isinstance" p) [e, .Name t p2] [] pos) (rdE X.K vs0 (M.bind fe (oIsi T))) :=
  PE.imp (pe_callB call_isi hg hm hvi (pa_cons he (pa_cons (pe_bltn (v := .ty T) hgt hmt hv rfl hn hd) pa_nil) hs) (by decide) (by decide) hs hpl) fun σ H Q q => by
    obtain ⟨B, ρ, fs, g, r, ρ', e1, k⟩ := q
    obtain ⟨r1, ρ1, e2, e3⟩ := M.bind_ok e1
    unfold oIsi at e3
    split at e3
    · rename_i d e4
      cases e3
      refine ⟨B, ρ, fs, g, r1, ρ', e2, fun v B1 H1 fs1 T1 fr1 g1 ok1 => ?_⟩
      refine ⟨v, .ty T, .type (tyName d), .type T, isTy T d, rfl, .ty T, tyx_of ((view_ok g1 ok1 e4).dp g1.ext), kit_ty (isiOk_kit hT d), ?_⟩
      exact k _ B1 H1 fs1 [] ((fr_drop fr1).weak (fun _ h => h) fun a h => Or.inl (by
        rcases h with h | h
        · exact h
        · cases h)) g1 ⟨⟨.bl _, rfl⟩, rfl, fun a ha => nomatch ha⟩
    · cases e3
/-! ### what a caller must know of a def -/
structure Callee (P : Program) (w : World) (K : PySem.W.Frag) (mg : Str → Option Value) (base : Heap) (k : Nat) (x : Str) (n : Nat) (F : List Sl → Option (Sl × List Sl)) : Prop where
  ex : ∃ f fd ps, FnOk P w K mg base CX0 k f fd ps (spD K n F) ∧ mg x = some (.ref f) ∧ PySem.W.keepIn K (.ref f) = true ∧ Binds K fd ps []
section
variable {X : Cx} {vs0 : List V} {k n : Nat} {F : List Sl → Option (Sl × List Sl)} {x : Str} {p pos : Pos} {e : Expr} {es : List Expr} {fa : M (List Rs)}
theorem de_use (C : Callee X.prog X.w X.K X.mg X.base k x n F) (hr : Room k X.A) (hg : Gl X x) (ha : PA X (e :: es) (rdA X.K vs0 fa)) (hdb : (x == ("__debug__" : Str)) = false := by decide)
    (he : starEach (e :: es) X.env = (false, eval e X.env) :: starEach es X.env := by rfl) (hpl : (backTo pos (starEach es X.env)).any (·.1) = false := by rfl) :
    PE X (.Call (.Name x p) (e :: es) [] pos) (rdE X.K vs0 (M.bind fa (opCall n F))) := by
  obtain ⟨f, fd, ps, Fn, hm, hk, hb⟩ := C.ex
  exact de_call Fn hr hg hm hk hb ha hdb he hpl
theorem de_use0 (C : Callee X.prog X.w X.K X.mg X.base k x n F) (hr : Room k X.A) (hg : Gl X x) (hdb : (x == ("__debug__" : Str)) = false := by decide) :
    PE X (.Call (.Name x p) [] [] pos) (rdE X.K vs0 (M.bind aNil (opCall n F))) := by
  obtain ⟨f, fd, ps, Fn, hm, hk, hb⟩ := C.ex
  exact de_call0 Fn hr hg hm hk hb hdb
end
end Pd

set_option Elab.async false
set_option linter.all false
set_option maxRecDepth 100000
set_option maxHeartbeats 1000000
namespace Pd
open PySem PySem.Spec PyProof.Rows L2

section
variable {K : PySem.W.Frag} {vs0 : List V} {B H : Hp} {σ : L2.St} {ρ : Env} {fs : Nat → List Addr}
/-- the object of slot j is rewritten -/
theorem Good.upd {j : Nat} {a : Addr} {s s' : Sl} {v : V} {o : HO} (g : Good K vs0 B H σ ρ fs) (e : ρ[j]? = some (some s)) (hf : fs j = [a]) (hv : σ[j]? = some (some v)) (own : Own K B (upd H a o) v s' [a]) (ht : s'.tag = s.tag) :
    Good K vs0 B (upd H a o) σ (ρ.set j (some s')) fs := by
  have hj : j < ρ.length := (List.getElem?_eq_some_iff.mp e).1
  have ha : a ∈ fs j := by rw [hf]; simp
  refine ⟨fun b u q => ?_, by simp [g.len], fun i t h => ?_, fun i h => ?_, g.dis, g.out⟩
  · rw [upd_ne (ne_of_none q (g.out j a ha))]
    exact g.ext b u q
  · by_cases q : i = j
    · subst q
      rw [List.getElem?_set_self hj] at h
      cases h
      rw [hf]
      refine ⟨v, hv, own, fun k hk => ?_⟩
      obtain ⟨v', h1, _, h3⟩ := g.at_ i s e
      rw [hv] at h1
      cases h1
      exact h3 k (ht ▸ hk)
    · rw [List.getElem?_set_ne (Ne.symm q)] at h
      obtain ⟨v', h1, h2, h3⟩ := g.at_ i t h
      refine ⟨v', h1, h2.keep (Same.refl B) fun b hb => upd_ne fun z => q ?_, h3⟩
      subst z
      exact g.dis i j b hb ha
  · by_cases q : i = j
    · subst q
      exact (h s' (List.getElem?_set_self hj)).elim
    · refine g.emp i fun t z => h t ?_
      rw [List.getElem?_set_ne (Ne.symm q)]
      exact z
theorem Fr.updIn {a : Addr} {o : HO} {F : Addr → Prop} (h : F a) : Fr B H F B (L2.upd H a o) F := Fr.mut h
end
/-! ### x[i] = e -/
def setSub (o i : Rs) (d : D) : M Fl := fun ρ => match o with
  | .bor j => match ρ[j]? with
    | some (some (.ml t l)) => match i.view ρ with
      | some (.int k) => match ixN l.length k with
        | some q => some (.ok .nx (ρ.set j (some (.ml t (l.set q d)))))
        | none => none
      | _ => none
    | _ => none
  | _ => none
def gSub (f fo fi : M Rs) : M Fl := M.bind f fun r => M.bind (freezeR r) fun d => M.bind fo fun o => M.bind fi fun i => setSub o i d
theorem ds_sub {X : Cx} {vs0 : List V} {e o i : Expr} {f fo fi : M Rs} {pos tpos : Pos} (he : PE X e (rdE X.K vs0 f)) (ho : PE X o (rdE X.K vs0 fo)) (hi : PE X i (rdE X.K vs0 fi))
    (ha : ∀ v, assign (.Subscript o i tpos) X.env v = (do
      let ov ← holding [v] (eval o X.env)
      let iv ← holding [v, ov] (eval i X.env)
      standAt tpos
      holding [v, ov, iv] (setItem ov iv v)
      release [v, ov, iv] []) := by intro _; rfl)
    (hs : swapsWithSole [.Subscript o i tpos] e pos.line X.env = pure false := by rfl) (hw : swappedStores [.Subscript o i tpos] e X.env = pure none := by rfl)
    (h1 : (assignEach [.Subscript o i tpos] X.env).map (·.2) = [assign (.Subscript o i tpos) X.env] := by rfl) :
    PS X (.Assign [.Subscript o i tpos] e pos) (rdS X.K vs0 (gSub f fo fi)) := PS.imp (ps_asg he (pg_sub ho hi set_list ha) hs hw h1) fun D σ H q => by
  obtain ⟨B, ρ, fs, gd, fl, ρ', e1, k⟩ := q
  obtain ⟨r, ρ1, e2, e3⟩ := M.bind_ok e1
  obtain ⟨d, ρ2, e4, e5⟩ := M.bind_ok e3
  obtain ⟨ro, ρ3, e6, e7⟩ := M.bind_ok e5
  obtain ⟨ri, ρ4, e8, e9⟩ := M.bind_ok e7
  refine ⟨B, ρ, fs, gd, r, ρ1, e2, fun v B1 H1 fs1 T1 fr1 g1 ok1 => ?_⟩
  obtain ⟨B2, fs2, fr2, g2, d2⟩ := freezeR_ok g1 ok1 e4
  refine ⟨B2, ρ2, fs2, g2, ro, ρ3, e6, fun u B3 H3 fs3 T3 fr3 g3 ok3 => ⟨B3, ρ3, fs3, g3, ri, ρ4, e8, fun w B4 H4 fs4 T4 fr4 g4 ok4 => ?_⟩⟩
  unfold setSub at e9
  cases ro with
  | own s => cases e9
  | lent _ _ _ => cases e9
  | bor j =>
  dsimp only at e9
  split at e9
  · rename_i t l e10
    split at e9
    · rename_i kk e11
      split at e9
      · rename_i q e12
        cases e9
        obtain ⟨v', q1, ⟨a, xs, rfl, hfs, q2, q3⟩, _⟩ := g4.at_ j _ e10
        obtain ⟨z1, z2⟩ := ok3
        rw [q1] at z1
        cases z1
        refine ⟨a, xs, kk, q, rfl, (view_ok g4 ok4 e11).int, q2, by rw [DpAll.length q3]; exact e12, ?_⟩
        have dv : Dp X.K B4 v d := Dp.mono ((fr3.bb).trans fr4.bb) d2
        have g5 := g4.upd (o := HO.lst (xs.set q v)) (s' := .ml t (l.set q d)) e10 hfs q1 ⟨a, _, rfl, rfl, upd_same, DpAll.set q q3 dv⟩ rfl
        refine k σ B4 _ fs4 ((fr1.trans fr2).trans (((fr_drop fr3).trans (fr_drop fr4)).trans (Fr.updIn ⟨j, by rw [hfs]; simp⟩))) g5
      · cases e9
    · cases e9
  · cases e9
/-! ### methods -/
def kindOk (T : String) : Option D → Bool
  | some (.list _) => decide (T = "list")
  | some (.str _) => decide (T = "str")
  | _ => false
def eMeth (T : String) (fo : M Rs) (fa : M (List Rs)) (op : List Rs → M Rs) : M Rs := M.bind fo fun o ρ => if kindOk T (o.view ρ) = true then M.bind fa (fun rs => op (o :: rs)) ρ else none
def rM (r : V → List V → Hp → VK → Prop) : List V → Hp → VK → Prop := fun vs H Q => ∃ x xs, vs = x :: xs ∧ r x xs H Q
section
variable {X : Cx} {vs0 : List V} {K : PySem.W.Frag}
theorem rd_meth {T : String} {r : V → List V → Hp → VK → Prop} {op : List Rs → M Rs} {fo : M Rs} {fa : M (List Rs)} (ho : OpOk K (rM r) op) {σ : L2.St} {H : Hp} {Q : VK} (q : rdE K vs0 (eMeth T fo fa op) σ H Q) :
    tBM K T r (rdE K vs0 fo) (rdA K vs0 fa) σ H Q := by
  obtain ⟨B, ρ, fs, g, r', ρ', e1, k⟩ := q
  obtain ⟨o, ρ1, e2, e3⟩ := M.bind_ok e1
  split at e3
  · rename_i hk
    obtain ⟨rs, ρ2, e4, e5⟩ := M.bind_ok e3
    refine ⟨B, ρ, fs, g, o, ρ1, e2, fun v B1 H1 fs1 T1 fr1 g1 ok1 => ⟨?_, B1, ρ1, fs1, g1, rs, ρ2, e4, fun vs B2 H2 fs2 Ts fr2 g2 ok2 nd2 => ?_⟩⟩
    · cases ev : o.view ρ1 with
      | none => rw [ev] at hk; cases hk
      | some d =>
        rw [ev] at hk
        have sh := view_ok g1 ok1 ev
        cases d with
        | list l =>
          obtain ⟨a, xs, rfl, s1, _⟩ := sh
          have : T = "list" := of_decide_eq_true hk
          exact Or.inl ⟨this, xs, s1⟩
        | str z =>
          rw [sh.str]
          show T = "str"
          exact of_decide_eq_true hk
        | none => cases hk
        | bool b => cases hk
        | int b => cases hk
        | tuple b => cases hk
        | dict b => cases hk
    · have n1 : ∀ a ∈ T1, ¬ InF fs1 a := ok1.off
      obtain ⟨x, xs, ex, q⟩ := ho vs0 σ B2 H2 ρ2 fs2 (v :: vs) (o :: rs) (T1 :: Ts) Q g2 ⟨ok1.keep fr2 n1 fun a h => Or.inl h, ok2⟩ (by
        rw [List.flatten_cons, List.nodup_append]
        refine ⟨ok1.nodup, nd2, fun a ha b hb e => ?_⟩
        subst e
        rcases fr2.own a (Or.inr hb) with q | q
        · exact n1 a ha q
        · exact ok1.live a ha q) r' ρ' e5 fun v4 B4 H4 fs4 T4 fr4 g4 ok4 => k v4 B4 H4 fs4 T4 (fr1.trans (((fr2.frame T1).weak (fun a h => h) fun a h => by
          rcases h with h | h
          · exact Or.inl (Or.inl (Or.inl h))
          · rw [List.flatten_cons, List.mem_append] at h
            rcases h with h | h
            · exact Or.inl (Or.inr h)
            · exact Or.inl (Or.inl (Or.inr h))).trans fr4)) g4 ok4
      cases ex
      exact q
  · cases e3
end
/-- an own list is rewritten, a value handed back -/
def opL1 (f : List D → List D → Option (D × List D)) : List Rs → M Rs := fun rs => match rs with
  | .bor j :: rest => M.bind (freezeAll rest) fun ds ρ => match ρ[j]? with
    | some (some (.ml t l)) => match f l ds with
      | some (d, l') => some (.ok (.own (.p d)) (ρ.set j (some (.ml t l'))))
      | none => none
    | _ => none
  | _ => M.fail
theorem opL1_ok {K : PySem.W.Frag} {r : V → List V → Hp → VK → Prop} {f : List D → List D → Option (D × List D)}
    (h : ∀ B H a xs l vs ds d l' Q, Same B H → H a = some (.lst xs) → DpAll K B xs l → DpAll K B vs ds → f l ds = some (d, l') → (∀ v xs', Dp K B v d → DpAll K B xs' l' → Q v (upd H a (.lst xs'))) → r (.ref a) vs H Q) : OpOk K (rM r) (opL1 f) := by
  intro vs0 σ B H ρ fs vs rs Ts Q g ok nd r' ρ' e k
  unfold opL1 at e
  split at e
  · rename_i j rest
    obtain ⟨ds, ρ1, e1, e2⟩ := M.bind_ok e
    match vs, Ts, ok with
    | v :: vs, T :: Ts, ok =>
      rw [List.flatten_cons, List.nodup_append] at nd
      obtain ⟨okj, okr⟩ := ok
      obtain ⟨hv, hT⟩ := okj
      obtain ⟨B1, fs1, fr1, g1, d1⟩ := freezeAll_ok g okr nd.2.1 e1
      split at e2
      · rename_i t l e3
        split at e2
        · rename_i d l' e4
          cases e2
          obtain ⟨v', q1, ⟨a, xs, rfl, hfs, q2, q3⟩, _⟩ := g1.at_ j _ e3
          rw [hv] at q1
          cases q1
          refine ⟨_, vs, rfl, h B1 H a xs l vs ds d l' Q g1.ext q2 q3 d1 e4 fun v2 xs' hd hx => ?_⟩
          have g5 := g1.upd (o := HO.lst xs') (s' := .ml t l') e3 hfs hv ⟨a, _, rfl, rfl, upd_same, hx⟩ rfl
          refine k v2 B1 _ fs1 [] ((fr1.weak (fun b h => ?_) fun b h => Or.inl h).trans ((Fr.updIn ⟨j, by rw [hfs]; simp⟩).weak (fun _ h => h) fun b h => Or.inl ?_)) g5 ⟨⟨hd, rfl⟩, rfl, fun a ha => nomatch ha⟩
          · rcases h with h | h
            · exact Or.inl h
            · exact Or.inr (by rw [List.flatten_cons]; exact List.mem_append_right _ h)
          · rcases h with h | h
            · exact h
            · cases h
        · cases e2
      · cases e2
  · cases e
def fAppend : List D → List D → Option (D × List D) := fun l ds => match ds with
  | [d] => if l.length < sizeLine then some (.none, l ++ [d]) else none
  | _ => none
def fPop0 : List D → List D → Option (D × List D) := fun l ds => match ds with
  | [] => match l[l.length - 1]? with
    | some d => some (d, l.dropLast)
    | none => none
  | _ => none
def fPop1 : List D → List D → Option (D × List D) := fun l ds => match ds with
  | [.int i] => if -(2 ^ 63) ≤ i ∧ i < 2 ^ 63 then match ixN l.length i with
      | some k => match l[k]? with
        | some d => some (d, l.eraseIdx k)
        | none => none
      | none => none
    else none
  | _ => none
def o_append1 := opL1 fAppend
def o_pop0 := opL1 fPop0
def o_pop1 := opL1 fPop1
theorem DpAll.dropLast {K : PySem.W.Frag} {B : Hp} : ∀ {ds : List D} {vs : List V}, DpAll K B vs ds → DpAll K B vs.dropLast ds.dropLast := fun {ds vs} h => by
  rw [List.dropLast_eq_take, List.dropLast_eq_take, DpAll.length h]
  exact DpAll.take _ h
section
variable {X : Cx} {vs0 : List V} {K : PySem.W.Frag}
theorem o_append1_ok : OpOk K (rM rAppend) o_append1 := opL1_ok fun B H a xs l vs ds d l' Q e hH hx hd hf k => by
  unfold fAppend at hf
  split at hf
  · split at hf
    · rename_i d0 hl
      cases hf
      cases hd with
      | cons h1 h2 =>
        cases h2
        exact ⟨a, xs, _, rfl, rfl, hH, by rw [DpAll.length hx]; exact hl, k _ _ .non (DpAll.append hx (DpAll.one h1))⟩
    · cases hf
  · cases hf
theorem o_pop0_ok : OpOk K (rM rPop) o_pop0 := opL1_ok fun B H a xs l vs ds d l' Q e hH hx hd hf k => by
  unfold fPop0 at hf
  split at hf
  · split at hf
    · rename_i d0 hl
      cases hf
      cases hd
      obtain ⟨v, q1, q2⟩ := DpAll.get hx hl
      exact ⟨a, xs, v, rfl, rfl, hH, by rw [DpAll.length hx]; exact q1, k _ _ q2 (DpAll.dropLast hx)⟩
    · cases hf
  · cases hf
theorem o_pop1_ok : OpOk K (rM rPopAt) o_pop1 := opL1_ok fun B H a xs l vs ds d l' Q e hH hx hd hf k => by
  unfold fPop1 at hf
  split at hf
  · split at hf
    · rename_i i hi
      split at hf
      · rename_i q hq
        split at hf
        · rename_i d0 hl
          cases hf
          cases hd with
          | cons h1 h2 =>
            cases h2
            cases h1
            obtain ⟨v, q1, q2⟩ := DpAll.get hx hl
            obtain ⟨s1, s2, s3, s4⟩ := ixN_seq hq
            exact ⟨a, xs, i, q, v, rfl, rfl, hH, hi.1, hi.2, by rw [DpAll.length hx]; exact s1, q1, k _ _ q2 (DpAll.erase q hx)⟩
        · cases hf
      · cases hf
    · cases hf
  · cases hf
variable {o e : Expr} {es : List Expr} {fo : M Rs} {fa : M (List Rs)} {apos cpos : Pos}
theorem de_m_append1 (ho : PE X o (rdE X.K vs0 fo)) (ha : PA X [e] (rdA X.K vs0 fa))
    (hbase : attributeBase o "append" X.env (eval o X.env) = eval o X.env := by rfl)
    (hfew : ((backTo cpos (starEach [e] X.env)).all (fun x => !x.1) && (backToKw cpos (keywordEach [] X.env)).all (fun x => x.1.isSome)
      && decide ([e].length + ([] : List Keyword).length + (if ([] : List Keyword).isEmpty then 0 else 1) < 30)) = true := by rfl)
    (hline : (apos.endLine == cpos.line) = true := by rfl) (hs : starEach [e] X.env = (false, eval e X.env) :: starEach [] X.env := by rfl) (hplain : (backTo cpos (starEach [] X.env)).any (·.1) = false := by rfl) :
    PE X (.Call (.Attribute o "append" apos) [e] [] cpos) (rdE X.K vs0 (eMeth "list" fo fa o_append1)) :=
  PE.imp (pe_bm PySem.F.plainAttrs_list PySem.F.slot_list_append PySem.F.type_list_append mt_append ho ha hbase hfew hline hs hplain) fun σ H Q q => rd_meth o_append1_ok q
theorem de_m_pop1 (ho : PE X o (rdE X.K vs0 fo)) (ha : PA X [e] (rdA X.K vs0 fa))
    (hbase : attributeBase o "pop" X.env (eval o X.env) = eval o X.env := by rfl)
    (hfew : ((backTo cpos (starEach [e] X.env)).all (fun x => !x.1) && (backToKw cpos (keywordEach [] X.env)).all (fun x => x.1.isSome)
      && decide ([e].length + ([] : List Keyword).length + (if ([] : List Keyword).isEmpty then 0 else 1) < 30)) = true := by rfl)
    (hline : (apos.endLine == cpos.line) = true := by rfl) (hs : starEach [e] X.env = (false, eval e X.env) :: starEach [] X.env := by rfl) (hplain : (backTo cpos (starEach [] X.env)).any (·.1) = false := by rfl) :
    PE X (.Call (.Attribute o "pop" apos) [e] [] cpos) (rdE X.K vs0 (eMeth "list" fo fa o_pop1)) :=
  PE.imp (pe_bm PySem.F.plainAttrs_list PySem.F.slot_list_pop PySem.F.type_list_pop mt_popAt ho ha hbase hfew hline hs hplain) fun σ H Q q => rd_meth o_pop1_ok q
theorem de_m_pop0 (ho : PE X o (rdE X.K vs0 fo)) (hbase : attributeBase o "pop" X.env (eval o X.env) = eval o X.env := by rfl) (hline : (apos.endLine == cpos.line) = true := by rfl) :
    PE X (.Call (.Attribute o "pop" apos) [] [] cpos) (rdE X.K vs0 (eMeth "list" fo aNil o_pop0)) :=
  PE.imp (pe_bm0 PySem.F.plainAttrs_list PySem.F.slot_list_pop PySem.F.type_list_pop mt_pop ho hbase hline) fun σ H Q q => by
    have q2 := rd_meth (T := "list") o_pop0_ok q
    exact rdE_imp q2 fun x H1 q3 => ⟨q3.1, rdA_nil q3.2⟩
end
/-! ### what is never reached; x += e -/
def gNever : M Fl := M.fail
theorem ds_never {X : Cx} {vs0 : List V} {st : Stmt} : PS X st (rdS X.K vs0 gNever) := PS.imp ps_never fun D σ H q => by
  obtain ⟨B, ρ, fs, gd, fl, ρ', e1, k⟩ := q
  cases e1
def augI (i : Nat) (f : Int → Int → Int) (a : D) (r : Rs) : M Fl := fun ρ => match a, r.view ρ with
  | .int x, some (.int y) => if i < ρ.length then some (.ok .nx (ρ.set i (some (.p (.int (f x y)))))) else none
  | _, _ => none
def gAugI (f : Int → Int → Int) (i : Nat) (fe : M Rs) : M Fl := fun ρ => match ρ[i]? with
  | some (some (.p a)) => M.bind fe (augI i f a) ρ
  | _ => none
abbrev gAugAdd := gAugI fun a b => a + b
abbrev gAugSub := gAugI fun a b => a - b
theorem ds_augI {X : Cx} {vs0 : List V} {i : Nat} {x : Str} {e : Expr} {fe : M Rs} {op : Operator} {f : Int → Int → Int} {pos pos' : Pos} (ho : PIp X op (ipI f)) (hN : X.N.Nodup) (hi : X.N[i]? = some x) (hx : Loc X.env.scope x) (he : PE X e (rdE X.K vs0 fe)) (hf : X.fn x = true ∨ X.env.scope.names.lookup x = some .local := by first | exact .inl rfl | exact .inr rfl | assumption) :
    PS X (.AugAssign (.Name x pos') op e pos) (rdS X.K vs0 (gAugI f i fe)) := PS.imp (ps_aug hN hi hx he ho hf) fun D σ H q => by
  obtain ⟨B, ρ, fs, gd, fl, ρ', e1, k⟩ := q
  unfold gAugI at e1
  split at e1
  · rename_i a e2
    obtain ⟨r, ρ1, e3, e4⟩ := M.bind_ok e1
    unfold augI at e4
    split at e4
    · rename_i x y e5
      split at e4
      · rename_i hl
        cases e4
        obtain ⟨v, q1, q2, _⟩ := gd.at_ i _ e2
        cases q2.1
        refine ⟨_, q1, B, ρ, fs, gd, r, ρ1, e3, fun u B1 H1 fs1 T1 fr1 g1 ok1 => ⟨x, y, rfl, (view_ok g1 ok1 e5).int, ?_⟩⟩
        refine k _ B1 H1 _ ((fr_drop fr1).weak (fun _ h => h) fun a h => Or.inl ?_) (g1.put hl (s := .p (.int (f x y))) (T := []) ⟨.int _, rfl⟩ (fun k h => nomatch h) fun a h => nomatch h)
        obtain ⟨j, hj⟩ := h
        try dsimp only at hj
        by_cases q : j = i
        · rw [if_pos q] at hj; cases hj
        · rw [if_neg q] at hj; exact ⟨j, hj⟩
      · cases e4
    · cases e4
  · cases e1
theorem ds_augAdd {X : Cx} {vs0 : List V} {i : Nat} {x : Str} {e : Expr} {fe : M Rs} {pos pos' : Pos} (hN : X.N.Nodup) (hi : X.N[i]? = some x) (hx : Loc X.env.scope x) (he : PE X e (rdE X.K vs0 fe)) (hf : X.fn x = true ∨ X.env.scope.names.lookup x = some .local := by first | exact .inl rfl | exact .inr rfl | assumption) :
    PS X (.AugAssign (.Name x pos') .Add e pos) (rdS X.K vs0 (gAugAdd i fe)) := ds_augI ip_add hN hi hx he hf
theorem ds_augSub {X : Cx} {vs0 : List V} {i : Nat} {x : Str} {e : Expr} {fe : M Rs} {pos pos' : Pos} (hN : X.N.Nodup) (hi : X.N[i]? = some x) (hx : Loc X.env.scope x) (he : PE X e (rdE X.K vs0 fe)) (hf : X.fn x = true ∨ X.env.scope.names.lookup x = some .local := by first | exact .inl rfl | exact .inr rfl | assumption) :
    PS X (.AugAssign (.Name x pos') .Sub e pos) (rdS X.K vs0 (gAugSub i fe)) := ds_augI ip_sub hN hi hx he hf
/-! ### the law -/
theorem law_sp {m : List Sl → Option (Sl × List Sl)} (h : ∀ ns : List Int, ns.length ≤ 63 → ∃ ss', m [.p (.list (ns.map .int))] = some (.p (.bool true), ss')) {K : PySem.W.Frag} {H : Hp} {a : Addr} {ns : List Int} {E : XK} (hl : ns.length ≤ 63) (hS : SqL K H a (ns.map V.int)) :
    spD K 1 m [.ref a] H (fun v _ => v = .bl true) E := by
  obtain ⟨ss', e⟩ := h ns hl
  refine ⟨rfl, H, [.p (.list (ns.map .int))], fun _ => [], ⟨Same.refl H, rfl, fun i s q => ?_, fun _ _ => rfl, (fun i j a h => nomatch h), (fun i a h => nomatch h)⟩, fun s hs => ?_, _, ss', e, fun v B' H' fs' T fr g ok => ?_⟩
  · cases i with
    | zero => cases q; exact ⟨.ref a, rfl, ⟨.lst hS (DpAll.of_ints ns), rfl⟩, fun k h => nomatch h⟩
    | succ i => simp at q
  · simp at hs; subst hs; rfl
  · have hd := ok.1.1
    cases hd
    rfl
end Pd

set_option Elab.async false
set_option linter.all false
set_option maxRecDepth 100000
set_option maxHeartbeats 1000000
namespace Pd
namespace B
open PySem PySem.Spec PyProof.Rows L2

/-! ### running a mirror: what is wanted behind it -/
def Ev {α : Type} (f : M α) (ρ : Env) (Q : α → Env → Prop) : Prop := ∃ a ρ', f ρ = some (.ok a ρ') ∧ Q a ρ'
def Sp (F : List Sl → Option (Sl × List Sl)) (ss : List Sl) (Q : Sl → List Sl → Prop) : Prop := ∃ r ss', F ss = some (r, ss') ∧ Q r ss'
theorem Ev.mono {α : Type} {f : M α} {ρ : Env} {Q Q' : α → Env → Prop} (h : Ev f ρ Q) (i : ∀ a ρ', Q a ρ' → Q' a ρ') : Ev f ρ Q' := by
  obtain ⟨a, ρ', e, q⟩ := h
  exact ⟨a, ρ', e, i a ρ' q⟩
theorem Sp.mono {F : List Sl → Option (Sl × List Sl)} {ss : List Sl} {Q Q' : Sl → List Sl → Prop} (h : Sp F ss Q) (i : ∀ a ρ', Q a ρ' → Q' a ρ') : Sp F ss Q' := by
  obtain ⟨a, ρ', e, q⟩ := h
  exact ⟨a, ρ', e, i a ρ' q⟩
/-- a def that hands back one thing -/
theorem sp_iff {F : List Sl → Option (Sl × List Sl)} {ss ss' : List Sl} {r : Sl} (h : Sp F ss fun a b => a = r ∧ b = ss') (Q : Sl → List Sl → Prop) : Sp F ss Q ↔ Q r ss' := by
  obtain ⟨a, b, e, rfl, rfl⟩ := h
  constructor
  · rintro ⟨a', b', e', q⟩
    rw [e] at e'
    cases e'
    exact q
  · intro q
    exact ⟨_, _, e, q⟩
section
variable {α β : Type} {ρ ρ' : Env}
@[simp ↓] theorem ev_bind {f : M α} {g : α → M β} {Q : β → Env → Prop} : Ev (M.bind f g) ρ Q ↔ Ev f ρ fun a ρ1 => Ev (g a) ρ1 Q := by
  constructor
  · rintro ⟨b, ρ2, e, q⟩
    obtain ⟨a, ρ1, e1, e2⟩ := M.bind_ok e
    exact ⟨a, ρ1, e1, b, ρ2, e2, q⟩
  · rintro ⟨a, ρ1, e1, b, ρ2, e2, q⟩
    refine ⟨b, ρ2, ?_, q⟩
    unfold M.bind
    rw [e1]
    exact e2
@[simp ↓] theorem ev_ret {a : α} {Q : α → Env → Prop} : Ev (M.ret a) ρ Q ↔ Q a ρ := by
  constructor
  · rintro ⟨a', ρ', e, q⟩; cases e; exact q
  · intro q; exact ⟨a, ρ, rfl, q⟩
@[simp ↓] theorem ev_fail {Q : α → Env → Prop} : Ev M.fail ρ Q ↔ False := by
  constructor
  · rintro ⟨a', ρ', e, q⟩; cases e
  · intro q; exact q.elim
@[simp ↓] theorem ev_c {d : D} {Q : Rs → Env → Prop} : Ev (eC d) ρ Q ↔ Q (.own (.p d)) ρ := by
  constructor
  · rintro ⟨a', ρ', e, q⟩; cases e; exact q
  · intro q; exact ⟨_, ρ, rfl, q⟩
@[simp ↓] theorem ev_bin {fa fb : M Rs} {op : List Rs → M Rs} {Q : Rs → Env → Prop} : Ev (eBin fa fb op) ρ Q ↔ Ev fa ρ fun a ρ1 => Ev fb ρ1 fun b ρ2 => Ev (op [a, b]) ρ2 Q := by
  unfold eBin aCons aNil
  simp only [ev_bind, ev_ret]
@[simp ↓] theorem ev_un {fa : M Rs} {op : List Rs → M Rs} {Q : Rs → Env → Prop} : Ev (eUn fa op) ρ Q ↔ Ev fa ρ fun a ρ1 => Ev (op [a]) ρ1 Q := by
  unfold eUn aCons aNil
  simp only [ev_bind, ev_ret]
@[simp ↓] theorem ev_aNil {Q : List Rs → Env → Prop} : Ev aNil ρ Q ↔ Q [] ρ := ev_ret
@[simp ↓] theorem ev_aCons {f : M Rs} {g : M (List Rs)} {Q : List Rs → Env → Prop} : Ev (aCons f g) ρ Q ↔ Ev f ρ fun a ρ1 => Ev g ρ1 fun r ρ2 => Q (a :: r) ρ2 := by
  unfold aCons
  simp only [ev_bind, ev_ret]
def slotQ (i : Nat) (ρ : Env) (Q : Rs → Env → Prop) : Option (Option Sl) → Prop
  | some (some (.p d)) => Q (.own (.p d)) ρ
  | some (some (.ml _ _)) => Q (.bor i) ρ
  | some (some (.md _ _)) => Q (.bor i) ρ
  | some (some (.mr _ _)) => Q (.bor i) ρ
  | some (some (.ob _ _ _ _)) => Q (.bor i) ρ
  | some (some (.ex c f)) => Q (.own (.ex c f)) ρ
  | some (some (.fd l)) => Q (.own (.fd l)) ρ
  | _ => False
@[simp] theorem slotQ_p {i : Nat} {Q : Rs → Env → Prop} {d : D} : slotQ i ρ Q (some (some (.p d))) = Q (.own (.p d)) ρ := rfl
@[simp] theorem slotQ_ml {i : Nat} {Q : Rs → Env → Prop} {t : Option Nat} {d : List D} : slotQ i ρ Q (some (some (.ml t d))) = Q (.bor i) ρ := rfl
@[simp] theorem slotQ_md {i : Nat} {Q : Rs → Env → Prop} {t : Option Nat} {d : List (Key × D)} : slotQ i ρ Q (some (some (.md t d))) = Q (.bor i) ρ := rfl
@[simp] theorem slotQ_mr {i : Nat} {Q : Rs → Env → Prop} {t : Option Nat} {d : List Sl} : slotQ i ρ Q (some (some (.mr t d))) = Q (.bor i) ρ := rfl
@[simp] theorem slotQ_ob {i : Nat} {Q : Rs → Env → Prop} {t : Option Nat} {c : Str} {ns : List Str} {d : List Sl} : slotQ i ρ Q (some (some (.ob t c ns d))) = Q (.bor i) ρ := rfl
@[simp] theorem slotQ_fd {i : Nat} {Q : Rs → Env → Prop} {l : List (Key × D)} : slotQ i ρ Q (some (some (.fd l))) = Q (.own (.fd l)) ρ := rfl
@[simp] theorem slotQ_ex {i : Nat} {Q : Rs → Env → Prop} {c : Str} {f : Option (Str × D)} : slotQ i ρ Q (some (some (.ex c f))) = Q (.own (.ex c f)) ρ := rfl
@[simp ↓] theorem ev_name {i : Nat} {Q : Rs → Env → Prop} : Ev (eName i) ρ Q ↔ slotQ i ρ Q ρ[i]? := by
  constructor
  · rintro ⟨a', ρ', e, q⟩
    unfold eName at e
    split at e
    · rename_i h; cases e; rw [h]; exact q
    · rename_i h; cases e; rw [h]; exact q
    · rename_i h; cases e; rw [h]; exact q
    · cases e
    · rename_i s hn hx hf hh h
      cases e; rw [h]
      cases s with
      | p d => exact (hn d rfl).elim
      | ex c f => exact (hx c f rfl).elim
      | fd l => exact (hf l rfl).elim
      | hl t => exact (hh t rfl).elim
      | ml t l => exact q
      | md t l => exact q
      | mr t l => exact q
      | ob t c ns l => exact q
    · cases e
  · intro q
    unfold slotQ at q
    split at q
    · rename_i h; exact ⟨_, ρ, by unfold eName; rw [h], q⟩
    · rename_i h; exact ⟨_, ρ, by unfold eName; rw [h], q⟩
    · rename_i h; exact ⟨_, ρ, by unfold eName; rw [h], q⟩
    · rename_i h; exact ⟨_, ρ, by unfold eName; rw [h], q⟩
    · rename_i h; exact ⟨_, ρ, by unfold eName; rw [h], q⟩
    · rename_i h; exact ⟨_, ρ, by unfold eName; rw [h], q⟩
    · rename_i h; exact ⟨_, ρ, by unfold eName; rw [h], q⟩
    · exact q.elim
@[simp] theorem view_p {d : D} : (Rs.own (.p d)).view ρ = some d := rfl
@[simp] theorem view_ml {t : Option Nat} {l : List D} : (Rs.own (.ml t l)).view ρ = some (.list l) := rfl
def slotV : Option (Option Sl) → Option D
  | some (some (.ml _ l)) => some (.list l)
  | some (some (.p d)) => some d
  | _ => none
@[simp] theorem slotV_ml {t : Option Nat} {l : List D} : slotV (some (some (.ml t l))) = some (.list l) := rfl
@[simp] theorem slotV_p {d : D} : slotV (some (some (.p d))) = some d := rfl
@[simp] theorem view_bor {i : Nat} : (Rs.bor i).view ρ = slotV ρ[i]? := by
  unfold Rs.view slotV
  dsimp only
  all_goals (split <;> simp_all)
@[simp] theorem viewAll_nil : viewAll [] ρ = some [] := rfl
@[simp] theorem viewAll_cons {r : Rs} {rs : List Rs} : viewAll (r :: rs) ρ = (r.view ρ).bind fun d => (viewAll rs ρ).bind fun ds => some (d :: ds) := by
  rw [viewAll]
  cases r.view ρ with
  | none => rfl
  | some d =>
    cases viewAll rs ρ with
    | none => rfl
    | some ds => rfl
/-- what an operation gives -/
def resQ (ρ : Env) (Q : Rs → Env → Prop) : Option Rd' → Prop
  | some res => Q res.rs ρ
  | none => False
@[simp] theorem resQ_pd {Q : Rs → Env → Prop} {d : D} : resQ ρ Q (some (.pd d)) = Q (.own (.p d)) ρ := rfl
@[simp] theorem resQ_nl {Q : Rs → Env → Prop} {l : List D} : resQ ρ Q (some (.nl l)) = Q (.own (.ml none l)) ρ := rfl
@[simp] theorem resQ_none {Q : Rs → Env → Prop} : resQ ρ Q none = False := rfl
@[simp] theorem resQ_ite {Q : Rs → Env → Prop} {c : Prop} [Decidable c] {o : Option Rd'} : resQ ρ Q (if c then o else none) ↔ c ∧ resQ ρ Q o := by
  split
  · rename_i h; simp [h]
  · rename_i h; simp [h, resQ]
@[simp ↓] theorem ev_opG {pf : List D → Option Rd'} {rs : List Rs} {Q : Rs → Env → Prop} : Ev (opG pf rs) ρ Q ↔ resQ ρ Q ((viewAll rs ρ).bind pf) := by
  constructor
  · rintro ⟨a', ρ', e, q⟩
    unfold opG at e
    split at e
    · rename_i ds h
      split at e
      · rename_i res h2; cases e; rw [h, Option.bind_some, h2]; exact q
      · cases e
    · cases e
  · intro q
    unfold resQ at q
    split at q
    · rename_i res h
      rw [Option.bind_eq_some_iff] at h
      obtain ⟨ds, h, h2⟩ := h
      exact ⟨_, ρ, by unfold opG; simp only [h, h2], q⟩
    · exact q.elim
@[simp ↓] theorem ev_opF {pf : List D → Option Rd'} {rs : List Rs} {Q : Rs → Env → Prop} : Ev (opF pf rs) ρ Q ↔ Ev (freezeAll rs) ρ fun ds ρ1 => resQ ρ1 Q (pf ds) := by
  unfold opF
  rw [ev_bind]
  constructor
  · rintro ⟨ds, ρ1, e, b, ρ2, e2, q⟩
    refine ⟨ds, ρ1, e, ?_⟩
    dsimp only at e2
    split at e2
    · rename_i res h; cases e2; rw [h]; exact q
    · cases e2
  · rintro ⟨ds, ρ1, e, q⟩
    unfold resQ at q
    split at q
    · rename_i res h
      exact ⟨ds, ρ1, e, _, ρ1, by dsimp only; rw [h], q⟩
    · exact q.elim
@[simp ↓] theorem ev_freezeAll_nil {Q : List D → Env → Prop} : Ev (freezeAll []) ρ Q ↔ Q [] ρ := ev_ret
@[simp ↓] theorem ev_freezeAll_cons {r : Rs} {rs : List Rs} {Q : List D → Env → Prop} : Ev (freezeAll (r :: rs)) ρ Q ↔ Ev (freezeR r) ρ fun d ρ1 => Ev (freezeAll rs) ρ1 fun ds ρ2 => Q (d :: ds) ρ2 := by
  rw [freezeAll]
  simp only [ev_bind, ev_ret]
def testQ (ρ : Env) (Q : Bool → Env → Prop) : Option D → Prop
  | some (.bool b) => Q b ρ
  | _ => False
@[simp] theorem testQ_b {Q : Bool → Env → Prop} {b : Bool} : testQ ρ Q (some (.bool b)) = Q b ρ := rfl
@[simp ↓] theorem ev_test {f : M Rs} {Q : Bool → Env → Prop} : Ev (mTest f) ρ Q ↔ Ev f ρ fun r ρ1 => testQ ρ1 Q (r.view ρ1) := by
  unfold mTest
  rw [ev_bind]
  constructor
  · rintro ⟨r, ρ1, e, b, ρ2, e2, q⟩
    refine ⟨r, ρ1, e, ?_⟩
    try dsimp only at e2
    split at e2
    · rename_i c h; cases e2; rw [h]; exact q
    · cases e2
  · rintro ⟨r, ρ1, e, q⟩
    refine ⟨r, ρ1, e, ?_⟩
    unfold testQ at q
    split at q
    · rename_i c h; exact ⟨_, ρ1, by simp only [h], q⟩
    · exact q.elim
@[simp ↓] theorem ev_and {fa fb : M Rs} {Q : Rs → Env → Prop} : Ev (eAnd fa fb) ρ Q ↔ Ev (mTest fa) ρ fun b ρ1 => if b = true then Ev fb ρ1 Q else Q (.own (.p (.bool false))) ρ1 := by
  unfold eAnd
  rw [ev_bind]
  refine ⟨fun h => h.mono fun b ρ1 q => ?_, fun h => h.mono fun b ρ1 q => ?_⟩
  · cases b with
    | true => exact q
    | false => exact ev_c.mp q
  · cases b with
    | true => exact q
    | false => exact ev_c.mpr q
@[simp ↓] theorem ev_or {fa fb : M Rs} {Q : Rs → Env → Prop} : Ev (eOr fa fb) ρ Q ↔ Ev (mTest fa) ρ fun b ρ1 => if b = true then Q (.own (.p (.bool true))) ρ1 else Ev fb ρ1 Q := by
  unfold eOr
  rw [ev_bind]
  refine ⟨fun h => h.mono fun b ρ1 q => ?_, fun h => h.mono fun b ρ1 q => ?_⟩
  · cases b with
    | true => exact ev_c.mp q
    | false => exact q
  · cases b with
    | true => exact ev_c.mpr q
    | false => exact q
@[simp ↓] theorem ev_not {fa : M Rs} {Q : Rs → Env → Prop} : Ev (eNot fa) ρ Q ↔ Ev (mTest fa) ρ fun b ρ1 => Q (.own (.p (.bool (!b)))) ρ1 := by
  unfold eNot
  simp only [ev_bind, ev_c]
@[simp ↓] theorem ev_if {c : M Bool} {fa fb : M Rs} {Q : Rs → Env → Prop} : Ev (eIf c fa fb) ρ Q ↔ Ev c ρ fun b ρ1 => if b = true then Ev fa ρ1 Q else Ev fb ρ1 Q := by
  unfold eIf
  rw [ev_bind]
  refine ⟨fun h => h.mono fun b ρ1 q => ?_, fun h => h.mono fun b ρ1 q => ?_⟩ <;> cases b <;> exact q
@[simp ↓] theorem ev_tand {c d : M Bool} {Q : Bool → Env → Prop} : Ev (tAnd' c d) ρ Q ↔ Ev c ρ fun b ρ1 => if b = true then Ev d ρ1 Q else Q false ρ1 := by
  unfold tAnd'
  rw [ev_bind]
  refine ⟨fun h => h.mono fun b ρ1 q => ?_, fun h => h.mono fun b ρ1 q => ?_⟩
  · cases b with
    | true => exact q
    | false => exact ev_ret.mp q
  · cases b with
    | true => exact q
    | false => exact ev_ret.mpr q
@[simp ↓] theorem ev_tor {c d : M Bool} {Q : Bool → Env → Prop} : Ev (tOr' c d) ρ Q ↔ Ev c ρ fun b ρ1 => if b = true then Q true ρ1 else Ev d ρ1 Q := by
  unfold tOr'
  rw [ev_bind]
  refine ⟨fun h => h.mono fun b ρ1 q => ?_, fun h => h.mono fun b ρ1 q => ?_⟩
  · cases b with
    | true => exact ev_ret.mp q
    | false => exact q
  · cases b with
    | true => exact ev_ret.mpr q
    | false => exact q
@[simp ↓] theorem ev_tnot {c : M Bool} {Q : Bool → Env → Prop} : Ev (tNot' c) ρ Q ↔ Ev c ρ fun b ρ1 => Q (!b) ρ1 := by
  unfold tNot'
  simp only [ev_bind, ev_ret]
def isiQ (ρ : Env) (T : String) (Q : Rs → Env → Prop) : Option D → Prop
  | some d => Q (.own (.p (.bool (isTy T d)))) ρ
  | none => False
@[simp] theorem isiQ_s {T : String} {Q : Rs → Env → Prop} {d : D} : isiQ ρ T Q (some d) = Q (.own (.p (.bool (isTy T d)))) ρ := rfl
@[simp ↓] theorem ev_isi {T : String} {r : Rs} {Q : Rs → Env → Prop} : Ev (oIsi T r) ρ Q ↔ isiQ ρ T Q (r.view ρ) := by
  constructor
  · rintro ⟨a', ρ', e, q⟩
    unfold oIsi at e
    split at e
    · rename_i d h; cases e; rw [h]; exact q
    · cases e
  · intro q
    unfold isiQ at q
    split at q
    · rename_i d h; exact ⟨_, ρ, by unfold oIsi; rw [h], q⟩
    · exact q.elim
def intQ (ρ : Env) (Q : Option Int → Env → Prop) : Option D → Prop
  | some (.int b) => Q (some b) ρ
  | _ => False
@[simp] theorem intQ_i {Q : Option Int → Env → Prop} {b : Int} : intQ ρ Q (some (.int b)) = Q (some b) ρ := rfl
@[simp ↓] theorem ev_mInt {f : M Rs} {Q : Option Int → Env → Prop} : Ev (mInt f) ρ Q ↔ Ev f ρ fun r ρ1 => intQ ρ1 Q (r.view ρ1) := by
  unfold mInt
  rw [ev_bind]
  constructor
  · rintro ⟨r, ρ1, e, b, ρ2, e2, q⟩
    refine ⟨r, ρ1, e, ?_⟩
    try dsimp only at e2
    split at e2
    · rename_i c h; cases e2; rw [h]; exact q
    · cases e2
  · rintro ⟨r, ρ1, e, q⟩
    refine ⟨r, ρ1, e, ?_⟩
    unfold intQ at q
    split at q
    · rename_i c h; exact ⟨_, ρ1, by simp only [h], q⟩
    · exact q.elim
@[simp ↓] theorem ev_mNo {Q : Option Int → Env → Prop} : Ev mNo ρ Q ↔ Q none ρ := ev_ret
@[simp ↓] theorem ev_sl {fe : M Rs} {lo hi : M (Option Int)} {op : Option Int → Option Int → List Rs → M Rs} {Q : Rs → Env → Prop} :
    Ev (eSl fe lo hi op) ρ Q ↔ Ev fe ρ fun r ρ1 => Ev lo ρ1 fun l ρ2 => Ev hi ρ2 fun h ρ3 => Ev (op l h [r]) ρ3 Q := by
  unfold eSl
  simp only [ev_bind]
def takeQ (i : Nat) (ρ : Env) (Q : Sl → Env → Prop) : Option (Option Sl) → Prop
  | some (some s) => Q s (ρ.set i none)
  | _ => False
@[simp] theorem takeQ_s {i : Nat} {Q : Sl → Env → Prop} {s : Sl} : takeQ i ρ Q (some (some s)) = Q s (ρ.set i none) := rfl
@[simp ↓] theorem ev_take_own {s : Sl} {Q : Sl → Env → Prop} : Ev (takeR (.own s)) ρ Q ↔ Q s ρ := by unfold takeR; exact ev_ret
@[simp ↓] theorem ev_take_bor {i : Nat} {Q : Sl → Env → Prop} : Ev (takeR (.bor i)) ρ Q ↔ takeQ i ρ Q ρ[i]? := by
  constructor
  · rintro ⟨r, ρ1, e, q⟩
    unfold takeR at e
    dsimp only at e
    split at e
    · rename_i s h; cases e; rw [h]; exact q
    · cases e
  · intro q
    unfold takeQ at q
    split at q
    · rename_i s h; exact ⟨s, _, by unfold takeR; dsimp only; rw [h], q⟩
    · exact q.elim
@[simp ↓] theorem ev_gSet {i : Nat} {f : M Rs} {Q : Fl → Env → Prop} : Ev (gSet i f) ρ Q ↔ Ev f ρ fun r ρ1 => Ev (takeR r) ρ1 fun s ρ2 => i < ρ2.length ∧ Q .nx (ρ2.set i (some s)) := by
  unfold gSet
  simp only [ev_bind]
  constructor
  · rintro ⟨r, ρ1, e, s, ρ2, e2, b, ρ3, e3, q⟩
    refine ⟨r, ρ1, e, s, ρ2, e2, ?_⟩
    try dsimp only at e3
    split at e3
    · rename_i h; cases e3; exact ⟨h, q⟩
    · cases e3
  · rintro ⟨r, ρ1, e, s, ρ2, e2, h, q⟩
    exact ⟨r, ρ1, e, s, ρ2, e2, _, _, by dsimp only; rw [if_pos h], q⟩
@[simp ↓] theorem ev_gRet {f : M Rs} {Q : Fl → Env → Prop} : Ev (gRet f) ρ Q ↔ Ev f ρ fun r ρ1 => Ev (takeR r) ρ1 fun s ρ2 => s.tag = none ∧ Q (.rt s) ρ2 := by
  unfold gRet
  simp only [ev_bind]
  constructor
  · rintro ⟨r, ρ1, e, s, ρ2, e2, b, ρ3, e3, q⟩
    refine ⟨r, ρ1, e, s, ρ2, e2, ?_⟩
    try dsimp only at e3
    split at e3
    · rename_i h; cases e3; exact ⟨h, q⟩
    · cases e3
  · rintro ⟨r, ρ1, e, s, ρ2, e2, h, q⟩
    exact ⟨r, ρ1, e, s, ρ2, e2, _, _, by rw [if_pos h]; rfl, q⟩
@[simp ↓] theorem ev_gRetN {Q : Fl → Env → Prop} : Ev gRetN ρ Q ↔ Q (.rt (.p .none)) ρ := ev_ret
@[simp ↓] theorem ev_gNext {Q : Fl → Env → Prop} : Ev gNext ρ Q ↔ Q .nx ρ := ev_ret
@[simp ↓] theorem ev_gNever {Q : Fl → Env → Prop} : Ev gNever ρ Q ↔ False := ev_fail
@[simp ↓] theorem ev_gExpr {f : M Rs} {Q : Fl → Env → Prop} : Ev (gExpr f) ρ Q ↔ Ev f ρ fun _ ρ1 => Q .nx ρ1 := by
  unfold gExpr
  simp only [ev_bind, ev_ret]
@[simp] theorem Sl.tag_p {d : D} : (Sl.p d).tag = none := rfl
@[simp] theorem Sl.tag_ml {t : Option Nat} {d : List D} : (Sl.ml t d).tag = t := rfl
@[simp] theorem Sl.tag_md {t : Option Nat} {d : List (Key × D)} : (Sl.md t d).tag = t := rfl
@[simp] theorem Sl.tag_mr {t : Option Nat} {d : List Sl} : (Sl.mr t d).tag = t := rfl
@[simp] theorem Sl.tag_ob {t : Option Nat} {c : Str} {ns : List Str} {d : List Sl} : (Sl.ob t c ns d).tag = t := rfl
@[simp] theorem Sl.tag_ex {c : Str} {f : Option (Str × D)} : (Sl.ex c f).tag = none := rfl
@[simp] theorem Sl.tag_fd {l : List (Key × D)} : (Sl.fd l).tag = none := rfl
@[simp] theorem Sl.mark_fd {k : Nat} {l : List (Key × D)} : (Sl.fd l).mark k = .fd l := rfl
@[simp] theorem Sl.bare_fd {l : List (Key × D)} : (Sl.fd l).bare = .fd l := rfl
@[simp] theorem Sl.retag_fd {t : Option Nat} {l : List (Key × D)} : (Sl.fd l).retag t = .fd l := rfl
@[simp] theorem Sl.mark_p {k : Nat} {d : D} : (Sl.p d).mark k = .p d := rfl
@[simp] theorem Sl.mark_ml {k : Nat} {t : Option Nat} {d : List D} : (Sl.ml t d).mark k = .ml (some k) d := rfl
@[simp] theorem Sl.mark_md {k : Nat} {t : Option Nat} {d : List (Key × D)} : (Sl.md t d).mark k = .md (some k) d := rfl
@[simp] theorem Sl.mark_mr {k : Nat} {t : Option Nat} {d : List Sl} : (Sl.mr t d).mark k = .mr (some k) d := rfl
@[simp] theorem Sl.mark_ob {k : Nat} {t : Option Nat} {c : Str} {ns : List Str} {d : List Sl} : (Sl.ob t c ns d).mark k = .ob (some k) c ns d := rfl
@[simp] theorem Sl.mark_ex {k : Nat} {c : Str} {f : Option (Str × D)} : (Sl.ex c f).mark k = .ex c f := rfl
@[simp] theorem Sl.bare_p {d : D} : (Sl.p d).bare = .p d := rfl
@[simp] theorem Sl.bare_ml {t : Option Nat} {d : List D} : (Sl.ml t d).bare = .ml none d := rfl
@[simp] theorem Sl.bare_md {t : Option Nat} {d : List (Key × D)} : (Sl.md t d).bare = .md none d := rfl
@[simp] theorem Sl.bare_mr {t : Option Nat} {d : List Sl} : (Sl.mr t d).bare = .mr none d := rfl
@[simp] theorem Sl.bare_ob {t : Option Nat} {c : Str} {ns : List Str} {d : List Sl} : (Sl.ob t c ns d).bare = .ob none c ns d := rfl
@[simp] theorem Sl.bare_ex {c : Str} {f : Option (Str × D)} : (Sl.ex c f).bare = .ex c f := rfl
@[simp] theorem Sl.retag_p {t : Option Nat} {d : D} : (Sl.p d).retag t = .p d := rfl
@[simp] theorem Sl.retag_ml {t t' : Option Nat} {d : List D} : (Sl.ml t' d).retag t = .ml t d := rfl
@[simp] theorem Sl.retag_md {t t' : Option Nat} {d : List (Key × D)} : (Sl.md t' d).retag t = .md t d := rfl
@[simp] theorem Sl.retag_mr {t t' : Option Nat} {d : List Sl} : (Sl.mr t' d).retag t = .mr t d := rfl
@[simp] theorem Sl.retag_ob {t t' : Option Nat} {c : Str} {ns : List Str} {d : List Sl} : (Sl.ob t' c ns d).retag t = .ob t c ns d := rfl
@[simp] theorem Sl.retag_ex {t : Option Nat} {c : Str} {f : Option (Str × D)} : (Sl.ex c f).retag t = .ex c f := rfl
/-- the flow goes on, or it has ended -/
def flQ (g : M Fl) (Q : Fl → Env → Prop) (ρ : Env) : Fl → Prop
  | .nx => Ev g ρ Q
  | .bk => Q .bk ρ
  | .ct => Q .ct ρ
  | .rt s => Q (.rt s) ρ
@[simp ↓] theorem flQ_nx {g : M Fl} {Q : Fl → Env → Prop} : flQ g Q ρ .nx = Ev g ρ Q := rfl
@[simp ↓] theorem flQ_bk {g : M Fl} {Q : Fl → Env → Prop} : flQ g Q ρ .bk = Q .bk ρ := rfl
@[simp ↓] theorem flQ_ct {g : M Fl} {Q : Fl → Env → Prop} : flQ g Q ρ .ct = Q .ct ρ := rfl
@[simp ↓] theorem flQ_rt {g : M Fl} {Q : Fl → Env → Prop} {s : Sl} : flQ g Q ρ (.rt s) = Q (.rt s) ρ := rfl
@[simp ↓] theorem ev_gSeq {g1 g2 : M Fl} {Q : Fl → Env → Prop} : Ev (gSeq g1 g2) ρ Q ↔ Ev g1 ρ fun fl ρ1 => flQ g2 Q ρ1 fl := by
  unfold gSeq
  rw [ev_bind]
  constructor
  · rintro ⟨fl, ρ1, e, q⟩
    refine ⟨fl, ρ1, e, ?_⟩
    cases fl with
    | nx => exact q
    | bk => exact ev_ret.mp q
    | ct => exact ev_ret.mp q
    | rt s => exact ev_ret.mp q
  · rintro ⟨fl, ρ1, e, q⟩
    refine ⟨fl, ρ1, e, ?_⟩
    cases fl with
    | nx => exact q
    | bk => exact ev_ret.mpr q
    | ct => exact ev_ret.mpr q
    | rt s => exact ev_ret.mpr q
@[simp ↓] theorem ev_ite {c : Prop} [Decidable c] {f g : M α} {Q : α → Env → Prop} : Ev (if c then f else g) ρ Q ↔ if c then Ev f ρ Q else Ev g ρ Q := by split <;> exact Iff.rfl
@[simp ↓] theorem ev_gIf {c : M Bool} {g1 g2 : M Fl} {Q : Fl → Env → Prop} : Ev (gIf c g1 g2) ρ Q ↔ Ev c ρ fun b ρ1 => if b = true then Ev g1 ρ1 Q else Ev g2 ρ1 Q := by
  unfold gIf
  rw [ev_bind]
  refine ⟨fun h => h.mono fun b ρ1 q => ?_, fun h => h.mono fun b ρ1 q => ?_⟩ <;> cases b <;> exact q
def envQ (Q : Env → Prop) : Option Env → Prop
  | some ρ => Q ρ
  | none => False
@[simp] theorem envQ_s {Q : Env → Prop} : envQ Q (some ρ) = Q ρ := rfl
@[simp] theorem envQ_n {Q : Env → Prop} : envQ Q none = False := rfl
@[simp] theorem envQ_ite {Q : Env → Prop} {c : Prop} [Decidable c] {o : Option Env} : envQ Q (if c then o else none) ↔ c ∧ envQ Q o := by
  split
  · rename_i h; simp [h]
  · rename_i h; simp [h, envQ]
@[simp ↓] theorem ev_gAsg {t : D → Env → Option Env} {f : M Rs} {Q : Fl → Env → Prop} : Ev (gAsg t f) ρ Q ↔ Ev f ρ fun r ρ1 => Ev (freezeR r) ρ1 fun d ρ2 => envQ (fun ρ3 => Q .nx ρ3) (t d ρ2) := by
  unfold gAsg
  simp only [ev_bind]
  constructor
  · rintro ⟨r, ρ1, e, s, ρ2, e2, b, ρ3, e3, q⟩
    refine ⟨r, ρ1, e, s, ρ2, e2, ?_⟩
    try dsimp only at e3
    split at e3
    · rename_i h; cases e3; rw [h]; exact q
    · cases e3
  · rintro ⟨r, ρ1, e, s, ρ2, e2, q⟩
    unfold envQ at q
    split at q
    · rename_i ρ3 h
      exact ⟨r, ρ1, e, s, ρ2, e2, _, _, by dsimp only; rw [h], q⟩
    · exact q.elim
@[simp] theorem tgName_eq {i : Nat} {d : D} : tgName i d ρ = if i < ρ.length then some (ρ.set i (some (.p d))) else none := rfl
@[simp] theorem tgTup_eq {n : Nat} {u : List D → Env → Option Env} {l : List D} : tgTup n u (.tuple l) ρ = if l.length = n then u l ρ else none := rfl
@[simp] theorem tgNil_eq : tgNil [] ρ = some ρ := rfl
@[simp] theorem tgCons_eq {t : D → Env → Option Env} {u : List D → Env → Option Env} {d : D} {r : List D} : tgCons t u (d :: r) ρ = (t d ρ).bind (u r) := by
  show (match t d ρ with
    | some ρ1 => u r ρ1
    | none => none) = _
  cases t d ρ <;> rfl
@[simp ↓] theorem ev_freeze_p {d : D} {Q : D → Env → Prop} : Ev (freezeR (.own (.p d))) ρ Q ↔ Q d ρ := by unfold freezeR; exact ev_ret
@[simp ↓] theorem ev_freeze_ml {t : Option Nat} {l : List D} {Q : D → Env → Prop} : Ev (freezeR (.own (.ml t l))) ρ Q ↔ Q (.list l) ρ := by unfold freezeR; exact ev_ret
def freezeQ (i : Nat) (ρ : Env) (Q : D → Env → Prop) : Option (Option Sl) → Prop
  | some (some (.ml none l)) => Q (.list l) (ρ.set i (some (.p (.list l))))
  | some (some (.p d)) => Q d ρ
  | _ => False
@[simp] theorem freezeQ_ml {i : Nat} {Q : D → Env → Prop} {l : List D} : freezeQ i ρ Q (some (some (.ml none l))) = Q (.list l) (ρ.set i (some (.p (.list l)))) := rfl
@[simp] theorem freezeQ_p {i : Nat} {Q : D → Env → Prop} {d : D} : freezeQ i ρ Q (some (some (.p d))) = Q d ρ := rfl
@[simp ↓] theorem ev_freeze_bor {i : Nat} {Q : D → Env → Prop} : Ev (freezeR (.bor i)) ρ Q ↔ freezeQ i ρ Q ρ[i]? := by
  constructor
  · rintro ⟨r, ρ1, e, q⟩
    unfold freezeR at e
    dsimp only at e
    split at e
    · rename_i s h; cases e; rw [h]; exact q
    · rename_i s h; cases e; rw [h]; exact q
    · cases e
  · intro q
    unfold freezeQ at q
    split at q
    · rename_i s h; exact ⟨_, _, by unfold freezeR; dsimp only; rw [h], q⟩
    · rename_i s h; exact ⟨_, _, by unfold freezeR; dsimp only; rw [h], q⟩
    · exact q.elim
def argQ (Q : List Sl → Prop) : Option (List Sl) → Prop
  | some ss => Q ss
  | none => False
@[simp] theorem argQ_s {Q : List Sl → Prop} {ss : List Sl} : argQ Q (some ss) = Q ss := rfl
@[simp] theorem argQ_n {Q : List Sl → Prop} : argQ Q none = False := rfl
@[simp ↓] theorem ev_opCall {n : Nat} {F : List Sl → Option (Sl × List Sl)} {rs : List Rs} {Q : Rs → Env → Prop} : Ev (opCall n F rs) ρ Q ↔ (rs.length = n ∧ (bors rs).Nodup) ∧ argQ (fun ss => Sp F ss fun r ss' => Q (.own r) (wb rs ss' ρ)) (argS rs ρ) := by
  constructor
  · rintro ⟨a', ρ', e, q⟩
    unfold opCall at e
    split at e
    · rename_i hc
      split at e
      · rename_i ss h
        split at e
        · rename_i r ss' h2; cases e; exact ⟨hc, by rw [h]; exact ⟨r, ss', h2, q⟩⟩
        · cases e
      · cases e
    · cases e
  · rintro ⟨hc, q⟩
    unfold argQ at q
    split at q
    · rename_i ss h
      obtain ⟨r, ss', h2, q⟩ := q
      exact ⟨_, _, by unfold opCall; rw [if_pos hc]; simp only [h, h2], q⟩
    · exact q.elim
@[simp] theorem argS_nil : argS [] ρ = some [] := rfl
@[simp] theorem argS_own {s : Sl} {r : List Rs} : argS (.own s :: r) ρ = (argS r ρ).map (s :: ·) := by
  rw [argS]
  cases argS r ρ <;> rfl
@[simp] theorem argS_bor' {i : Nat} {r : List Rs} : argS (.bor i :: r) ρ = (ρ[i]?).bind fun o => o.bind fun s => (argS r ρ).map (s.bare :: ·) := by
  rw [argS]
  cases ρ[i]? with
  | none => rfl
  | some o =>
    cases o with
    | none => rfl
    | some s => cases argS r ρ <;> rfl
@[simp] theorem bors_nil : bors [] = [] := rfl
@[simp] theorem bors_own {s : Sl} {r : List Rs} : bors (.own s :: r) = bors r := rfl
@[simp] theorem bors_bor {i : Nat} {r : List Rs} : bors (.bor i :: r) = i :: bors r := rfl
@[simp] theorem wb_nil {ss : List Sl} : wb [] ss ρ = ρ := by simp [wb]
@[simp] theorem wb_own {s s' : Sl} {r : List Rs} {ss : List Sl} : wb (.own s :: r) (s' :: ss) ρ = wb r ss ρ := rfl
@[simp] theorem wb_bor {i : Nat} {s' : Sl} {r : List Rs} {ss : List Sl} : wb (.bor i :: r) (s' :: ss) ρ = wb r ss (ρ.set i (some (s'.retag (tagAt ρ i)))) := rfl
def slotT : Option (Option Sl) → Option Nat
  | some (some s) => s.tag
  | _ => none
@[simp] theorem slotT_s {s : Sl} : slotT (some (some s)) = s.tag := rfl
@[simp] theorem tagAt_eq {i : Nat} : tagAt ρ i = slotT ρ[i]? := by
  unfold tagAt slotT
  split <;> simp_all
/-! x[i] = e -/
def ixQ (Q : Nat → Prop) : Option Nat → Prop
  | some q => Q q
  | none => False
def subQ (j : Nat) (d : D) (ρ : Env) (Q : Fl → Env → Prop) : Option (Option Sl) → Option D → Prop
  | some (some (.ml t l)), some (.int k) => ixQ (fun q => Q .nx (ρ.set j (some (.ml t (l.set q d))))) (ixN l.length k)
  | _, _ => False
@[simp] theorem ixQ_s {Q : Nat → Prop} {q : Nat} : ixQ Q (some q) = Q q := rfl
@[simp] theorem subQ_ml {j : Nat} {d : D} {Q : Fl → Env → Prop} {t : Option Nat} {l : List D} {k : Int} : subQ j d ρ Q (some (some (.ml t l))) (some (.int k)) = ixQ (fun q => Q .nx (ρ.set j (some (.ml t (l.set q d))))) (ixN l.length k) := rfl
@[simp ↓] theorem ev_setSub {j : Nat} {i : Rs} {d : D} {Q : Fl → Env → Prop} : Ev (setSub (.bor j) i d) ρ Q ↔ subQ j d ρ Q ρ[j]? (i.view ρ) := by
  constructor
  · rintro ⟨a', ρ', e, q⟩
    unfold setSub at e
    dsimp only at e
    split at e
    · rename_i t l h
      split at e
      · rename_i k h2
        split at e
        · rename_i q' h3
          cases e
          rw [h, h2, subQ_ml, h3]
          exact q
        · cases e
      · cases e
    · cases e
  · intro q
    unfold subQ at q
    split at q
    · rename_i t l k h h2
      unfold ixQ at q
      split at q
      · rename_i q' h3
        exact ⟨_, _, by unfold setSub; simp only [h, h2, h3], q⟩
      · exact q.elim
    · exact q.elim
@[simp ↓] theorem ev_gSub {f fo fi : M Rs} {Q : Fl → Env → Prop} : Ev (gSub f fo fi) ρ Q ↔ Ev f ρ fun r ρ1 => Ev (freezeR r) ρ1 fun d ρ2 => Ev fo ρ2 fun o ρ3 => Ev fi ρ3 fun i ρ4 => Ev (setSub o i d) ρ4 Q := by
  unfold gSub
  simp only [ev_bind]
/-! methods -/
@[simp] theorem kindOk_l {l : List D} : kindOk "list" (some (.list l)) = true := rfl
@[simp] theorem kindOk_s {l : Str} : kindOk "str" (some (.str l)) = true := rfl
def kQ (P : Prop) : Bool → Prop
  | true => P
  | false => False
@[simp] theorem kQ_t {P : Prop} : kQ P true = P := rfl
@[simp ↓] theorem ev_meth {T : String} {fo : M Rs} {fa : M (List Rs)} {op : List Rs → M Rs} {Q : Rs → Env → Prop} : Ev (eMeth T fo fa op) ρ Q ↔ Ev fo ρ fun o ρ1 => kQ (Ev fa ρ1 fun rs ρ2 => Ev (op (o :: rs)) ρ2 Q) (kindOk T (o.view ρ1)) := by
  unfold eMeth
  rw [ev_bind]
  constructor
  · rintro ⟨o, ρ1, e, b, ρ2, e2, q⟩
    refine ⟨o, ρ1, e, ?_⟩
    dsimp only at e2
    split at e2
    · rename_i h; rw [h]; exact ev_bind.mp ⟨b, ρ2, e2, q⟩
    · cases e2
  · rintro ⟨o, ρ1, e, q⟩
    refine ⟨o, ρ1, e, ?_⟩
    cases h : kindOk T (o.view ρ1) with
    | false => rw [h] at q; exact q.elim
    | true =>
      rw [h] at q
      obtain ⟨b, ρ2, e2, q⟩ := ev_bind.mpr q
      exact ⟨b, ρ2, by dsimp only; rw [if_pos h]; exact e2, q⟩
def l1Q (j : Nat) (ρ : Env) (f : List D → List D → Option (D × List D)) (ds : List D) (Q : Rs → Env → Prop) : Option (Option Sl) → Prop
  | some (some (.ml t l)) => match f l ds with
    | some (d, l') => Q (.own (.p d)) (ρ.set j (some (.ml t l')))
    | none => False
  | _ => False
def prQ (Q : D → List D → Prop) : Option (D × List D) → Prop
  | some (d, l) => Q d l
  | none => False
@[simp] theorem prQ_s {Q : D → List D → Prop} {d : D} {l : List D} : prQ Q (some (d, l)) = Q d l := rfl
@[simp] theorem prQ_n {Q : D → List D → Prop} : prQ Q none = False := rfl
@[simp] theorem prQ_ite {Q : D → List D → Prop} {c : Prop} [Decidable c] {o : Option (D × List D)} : prQ Q (if c then o else none) ↔ c ∧ prQ Q o := by
  split
  · rename_i h; simp [h]
  · rename_i h; simp [h, prQ]
@[simp] theorem l1Q_ml {j : Nat} {f : List D → List D → Option (D × List D)} {ds : List D} {Q : Rs → Env → Prop} {t : Option Nat} {l : List D} : l1Q j ρ f ds Q (some (some (.ml t l))) = prQ (fun d l' => Q (.own (.p d)) (ρ.set j (some (.ml t l')))) (f l ds) := by
  unfold l1Q prQ
  dsimp only
@[simp ↓] theorem ev_opL1 {f : List D → List D → Option (D × List D)} {j : Nat} {rest : List Rs} {Q : Rs → Env → Prop} : Ev (opL1 f (.bor j :: rest)) ρ Q ↔ Ev (freezeAll rest) ρ fun ds ρ1 => l1Q j ρ1 f ds Q ρ1[j]? := by
  unfold opL1
  rw [ev_bind]
  constructor
  · rintro ⟨ds, ρ1, e, b, ρ2, e2, q⟩
    refine ⟨ds, ρ1, e, ?_⟩
    dsimp only at e2
    split at e2
    · rename_i t l h
      split at e2
      · rename_i d l' h2
        cases e2
        rw [h, l1Q_ml, h2]
        exact q
      · cases e2
    · cases e2
  · rintro ⟨ds, ρ1, e, q⟩
    refine ⟨ds, ρ1, e, ?_⟩
    unfold l1Q at q
    split at q
    · rename_i t l h
      split at q
      · rename_i d l' h2
        exact ⟨_, _, by dsimp only; simp only [h, h2], q⟩
      · exact q.elim
    · exact q.elim
@[simp ↓] theorem ev_append {j : Nat} {rest : List Rs} {Q : Rs → Env → Prop} : Ev (o_append1 (.bor j :: rest)) ρ Q ↔ Ev (freezeAll rest) ρ fun ds ρ1 => l1Q j ρ1 fAppend ds Q ρ1[j]? := ev_opL1
@[simp ↓] theorem ev_pop0 {j : Nat} {rest : List Rs} {Q : Rs → Env → Prop} : Ev (o_pop0 (.bor j :: rest)) ρ Q ↔ Ev (freezeAll rest) ρ fun ds ρ1 => l1Q j ρ1 fPop0 ds Q ρ1[j]? := ev_opL1
@[simp ↓] theorem ev_pop1 {j : Nat} {rest : List Rs} {Q : Rs → Env → Prop} : Ev (o_pop1 (.bor j :: rest)) ρ Q ↔ Ev (freezeAll rest) ρ fun ds ρ1 => l1Q j ρ1 fPop1 ds Q ρ1[j]? := ev_opL1
@[simp] theorem fAppend_eq {l : List D} {d : D} : fAppend l [d] = if l.length < sizeLine then some (.none, l ++ [d]) else none := rfl
/-! x += e -/
def augQ (f : Int → Int → Int) (i : Nat) (fe : M Rs) (ρ : Env) (Q : Fl → Env → Prop) : Option (Option Sl) → Prop
  | some (some (.p (.int x))) => Ev fe ρ fun r ρ1 => intQ ρ1 (fun o ρ2 => match o with
    | some y => i < ρ2.length ∧ Q .nx (ρ2.set i (some (.p (.int (f x y)))))
    | none => False) (r.view ρ1)
  | _ => False
@[simp] theorem augQ_i {f : Int → Int → Int} {i : Nat} {fe : M Rs} {Q : Fl → Env → Prop} {x : Int} : augQ f i fe ρ Q (some (some (.p (.int x)))) = Ev fe ρ fun r ρ1 => intQ ρ1 (fun o ρ2 => match o with
    | some y => i < ρ2.length ∧ Q .nx (ρ2.set i (some (.p (.int (f x y)))))
    | none => False) (r.view ρ1) := rfl
@[simp ↓] theorem ev_aug {f : Int → Int → Int} {i : Nat} {fe : M Rs} {Q : Fl → Env → Prop} : Ev (gAugI f i fe) ρ Q ↔ augQ f i fe ρ Q ρ[i]? := by
  constructor
  · rintro ⟨fl, ρ', e, q⟩
    unfold gAugI at e
    split at e
    · rename_i a h
      obtain ⟨r, ρ1, e1, e2⟩ := M.bind_ok e
      unfold augI at e2
      split at e2
      · rename_i x y h2
        split at e2
        · rename_i hl
          cases e2
          rw [h]
          refine ⟨r, ρ1, e1, ?_⟩
          dsimp only
          rw [h2]
          exact ⟨hl, q⟩
        · cases e2
      · cases e2
    · cases e
  · intro q
    unfold augQ at q
    split at q
    · rename_i x h
      obtain ⟨r, ρ1, e1, q⟩ := q
      unfold intQ at q
      split at q
      · rename_i y h2
        obtain ⟨hl, q⟩ := q
        refine ⟨_, _, ?_, q⟩
        unfold gAugI
        rw [h]
        dsimp only
        unfold M.bind
        rw [e1]
        dsimp only
        unfold augI
        simp only [h2]
        rw [if_pos hl]
      · exact q.elim
    · exact q.elim
/-! chains -/
@[simp ↓] theorem ev_chain {fa fb fc : M Rs} {op op' : List Rs → M Rs} {Q : Rs → Env → Prop} : Ev (eChain fa fb fc op op') ρ Q ↔ Ev fa ρ fun x ρ1 => Ev fb ρ1 fun y ρ2 => Ev (match y with
  | .own (.p d) => M.bind (mTest (op [x, .own (.p d)])) fun b => if b = true then M.bind fc fun z => op' [.own (.p d), z] else eC (.bool false)
  | _ => M.fail) ρ2 Q := by
  unfold eChain
  rw [ev_bind]
  refine ⟨fun h => h.mono fun x ρ1 q => ev_bind.mp q, fun h => h.mono fun x ρ1 q => ev_bind.mpr q⟩
end
def endQ (ss : List Sl) (Q : Sl → List Sl → Prop) (ρ : Env) : Fl → Prop
  | .rt s => argQ (fun ss' => Q s ss') (endE 0 ss ρ)
  | .nx => argQ (fun ss' => Q (.p .none) ss') (endE 0 ss ρ)
  | _ => False
@[simp ↓] theorem endQ_rt {ss : List Sl} {Q : Sl → List Sl → Prop} {ρ : Env} {s : Sl} : endQ ss Q ρ (.rt s) = argQ (fun ss' => Q s ss') (endE 0 ss ρ) := rfl
@[simp ↓] theorem endQ_nx {ss : List Sl} {Q : Sl → List Sl → Prop} {ρ : Env} : endQ ss Q ρ .nx = argQ (fun ss' => Q (.p .none) ss') (endE 0 ss ρ) := rfl
@[simp] theorem endE_nil {k : Nat} {ρ : Env} : endE k [] ρ = some [] := rfl
@[simp] theorem endE_p {k : Nat} {ρ : Env} {d : D} {r : List Sl} : endE k (.p d :: r) ρ = (endE (k + 1) r ρ).map (.p d :: ·) := rfl
def slotE (k : Nat) (o : Option (List Sl)) : Option (Option Sl) → Option (List Sl)
  | some (some s') => if s'.tag = some k then o.map (s'.bare :: ·) else none
  | _ => none
@[simp] theorem slotE_s {k : Nat} {o : Option (List Sl)} {s' : Sl} : slotE k o (some (some s')) = if s'.tag = some k then o.map (s'.bare :: ·) else none := rfl
@[simp] theorem endE_ml {k : Nat} {ρ : Env} {t : Option Nat} {l : List D} {r : List Sl} : endE k (.ml t l :: r) ρ = slotE k (endE (k + 1) r ρ) ρ[k]? := by
  rw [endE]
  simp only [Sl.isP, Bool.false_eq_true, if_false]
  unfold slotE
  split <;> simp_all
@[simp] theorem endE_md {k : Nat} {ρ : Env} {t : Option Nat} {l : List (Key × D)} {r : List Sl} : endE k (.md t l :: r) ρ = slotE k (endE (k + 1) r ρ) ρ[k]? := by
  rw [endE]
  simp only [Sl.isP, Bool.false_eq_true, if_false]
  unfold slotE
  split <;> simp_all
@[simp] theorem endE_mr {k : Nat} {ρ : Env} {t : Option Nat} {l : List Sl} {r : List Sl} : endE k (.mr t l :: r) ρ = slotE k (endE (k + 1) r ρ) ρ[k]? := by
  rw [endE]
  simp only [Sl.isP, Bool.false_eq_true, if_false]
  unfold slotE
  split <;> simp_all
@[simp] theorem endE_ob {k : Nat} {ρ : Env} {t : Option Nat} {c : Str} {ns : List Str} {l : List Sl} {r : List Sl} : endE k (.ob t c ns l :: r) ρ = slotE k (endE (k + 1) r ρ) ρ[k]? := by
  rw [endE]
  simp only [Sl.isP, Bool.false_eq_true, if_false]
  unfold slotE
  split <;> simp_all
@[simp] theorem endE_ex {k : Nat} {ρ : Env} {c : Str} {f : Option (Str × D)} {r : List Sl} : endE k (.ex c f :: r) ρ = (endE (k + 1) r ρ).map (.ex c f :: ·) := rfl
theorem sp_mkF {m : Nat} {g : M Fl} {ss : List Sl} {Q : Sl → List Sl → Prop} : Sp (mkF m g) ss Q ↔ Ev g (startE m ss) fun fl ρ' => endQ ss Q ρ' fl := by
  constructor
  · rintro ⟨r, ss', e, q⟩
    unfold mkF at e
    split at e
    · rename_i s ρ' h
      cases h2 : endE 0 ss ρ' with
      | none => rw [h2] at e; cases e
      | some t =>
        rw [h2] at e; cases e
        refine ⟨_, ρ', h, ?_⟩
        dsimp only
        rw [endQ_rt, h2]
        exact q
    · rename_i ρ' h
      cases h2 : endE 0 ss ρ' with
      | none => rw [h2] at e; cases e
      | some t =>
        rw [h2] at e; cases e
        refine ⟨_, ρ', h, ?_⟩
        dsimp only
        rw [endQ_nx, h2]
        exact q
    · cases e
  · rintro ⟨fl, ρ', e, q⟩
    cases fl with
    | rt s =>
      rw [endQ_rt] at q
      unfold argQ at q
      split at q
      · rename_i ss' h
        exact ⟨s, ss', by unfold mkF; rw [e]; dsimp only; rw [h]; rfl, q⟩
      · exact q.elim
    | nx =>
      rw [endQ_nx] at q
      unfold argQ at q
      split at q
      · rename_i ss' h
        exact ⟨_, ss', by unfold mkF; rw [e]; dsimp only; rw [h]; rfl, q⟩
      · exact q.elim
    | bk => exact q.elim
    | ct => exact q.elim
@[simp] theorem startE_eq {m : Nat} {ss : List Sl} : startE m ss = (markAll 0 ss).map some ++ List.replicate m none := rfl
@[simp] theorem markAll_nil {k : Nat} : markAll k [] = [] := rfl
@[simp] theorem markAll_cons {k : Nat} {s : Sl} {r : List Sl} : markAll k (s :: r) = s.mark k :: markAll (k + 1) r := rfl
@[simp] theorem rep_z {α : Type} {a : α} : List.replicate 0 a = [] := rfl
@[simp] theorem rep_s {α : Type} {a : α} {n : Nat} : List.replicate (n + 1) a = a :: List.replicate n a := rfl
/-! what the operations are -/
section
variable {a b i j : Int} {x y : Str} {l m : List D} {d e : D} {p q : Bool}
@[simp] theorem Rd'_rs_pd : (Rd'.pd d).rs = .own (.p d) := rfl
@[simp ↓] theorem oAdd_eq : oAdd = opG pAdd := rfl
@[simp ↓] theorem oSub_eq : oSub = opG pSub := rfl
@[simp ↓] theorem oDiv_eq : oDiv = opG (pInt CDivW fun i j => i / j) := rfl
@[simp ↓] theorem oMod_eq : oMod = opG (pInt (fun _ j => 0 < j) fun i j => i % j) := rfl
@[simp ↓] theorem oAnd_eq : oAnd = opG pAnd := rfl
@[simp ↓] theorem oEq_eq : oEq = opG pEq := rfl
@[simp ↓] theorem oNe_eq : oNe = opG pNe := rfl
@[simp ↓] theorem oLt_eq : oLt = opG (pCmpI fun i j => decide (i < j)) := rfl
@[simp ↓] theorem oLe_eq : oLe = opG (pCmpI fun i j => decide (i ≤ j)) := rfl
@[simp ↓] theorem oGt_eq : oGt = opG (pCmpI fun i j => decide (j < i)) := rfl
@[simp ↓] theorem oGe_eq : oGe = opG (pCmpI fun i j => decide (j ≤ i)) := rfl
@[simp ↓] theorem oIn_eq : oIn = opG pIn := rfl
@[simp ↓] theorem oNi_eq : oNi = opG pNi := rfl
@[simp ↓] theorem oIs_eq : oIs = opG pIs := rfl
@[simp ↓] theorem oIsn_eq : oIsn = opG pIsn := rfl
@[simp ↓] theorem oIx_eq : oIx = opG pIx := rfl
@[simp ↓] theorem oSl_eq {lo hi : Option Int} : oSl lo hi = opG (pSl lo hi) := rfl
@[simp ↓] theorem oLen_eq : oLen = opG pLen := rfl
@[simp ↓] theorem oSum_eq : oSum = opG pSum := rfl
@[simp ↓] theorem oMax_eq : oMax = opG pMax := rfl
@[simp ↓] theorem oMin_eq : oMin = opG pMin := rfl
@[simp ↓] theorem oAbs_eq : oAbs = opG pAbs := rfl
@[simp ↓] theorem oInt1_eq : oInt1 = opG pInt1 := rfl
@[simp ↓] theorem oListOf_eq : oListOf = opG pListOf := rfl
@[simp ↓] theorem oTupOf_eq : oTupOf = opG pTupOf := rfl
@[simp ↓] theorem oNeg_eq : oNeg = opG pNeg := rfl
@[simp ↓] theorem oTup_eq : oTup = opF pTup := rfl
@[simp ↓] theorem oLst_eq : oLst = opF pLst := rfl
@[simp] theorem pAdd_ii : pAdd [.int a, .int b] = some (.pd (.int (a + b))) := rfl
@[simp] theorem pAdd_ss : pAdd [.str x, .str y] = if x.length + y.length ≤ sizeLine then some (.pd (.str (x ++ y))) else none := rfl
@[simp] theorem pAdd_tt : pAdd [.tuple l, .tuple m] = if l.length + m.length ≤ sizeLine then some (.pd (.tuple (l ++ m))) else none := rfl
@[simp] theorem pAdd_ll : pAdd [.list l, .list m] = if l.length + m.length ≤ sizeLine then some (.nl (l ++ m)) else none := rfl
@[simp] theorem pSub_ii : pSub [.int a, .int b] = some (.pd (.int (a - b))) := rfl
@[simp] theorem pInt_ii {C : Int → Int → Prop} [∀ a b, Decidable (C a b)] {f : Int → Int → Int} : pInt C f [.int a, .int b] = if C a b then some (.pd (.int (f a b))) else none := rfl
@[simp] theorem pAnd_ii : pAnd [.int a, .int b] = some (.pd (.int (Builtin.bitAnd a b))) := rfl
@[simp] theorem pCmpI_ii {f : Int → Int → Bool} : pCmpI f [.int a, .int b] = some (.pd (.bool (f a b))) := rfl
@[simp] theorem pIs_n : pIs [d, .none] = some (.pd (.bool (isNon d))) := by cases d <;> rfl
@[simp] theorem pIs_b : pIs [.bool p, .bool q] = some (.pd (.bool (decide (p = q)))) := rfl
@[simp] theorem pIsn_n : pIsn [d, .none] = some (.pd (.bool (!isNon d))) := by cases d <;> rfl
@[simp] theorem pIsn_b : pIsn [.bool p, .bool q] = some (.pd (.bool (!decide (p = q)))) := rfl
@[simp] theorem isNon_i : isNon (.int a) = false := rfl
@[simp] theorem isNon_n : isNon .none = true := rfl
@[simp] theorem isNon_s : isNon (.str x) = false := rfl
@[simp] theorem isNon_b : isNon (.bool p) = false := rfl
@[simp] theorem isNon_t : isNon (.tuple l) = false := rfl
@[simp] theorem isNon_l : isNon (.list l) = false := rfl
@[simp] theorem pIx_l : pIx [.list l, .int i] = (atI l i).map .pd := rfl
@[simp] theorem pIx_t : pIx [.tuple l, .int i] = (atI l i).map .pd := rfl
@[simp] theorem pIx_s : pIx [.str x, .int i] = if x.length ≤ sizeLine then (atI x.cps.toList i).map fun c => .pd (.str ⟨#[c]⟩) else none := rfl
@[simp] theorem pSl_l {lo hi : Option Int} : pSl lo hi [.list l] = some (.nl (cutD l lo hi)) := rfl
@[simp] theorem pSl_t {lo hi : Option Int} : pSl lo hi [.tuple l] = some (.pd (.tuple (cutD l lo hi))) := rfl
@[simp] theorem pSl_s {lo hi : Option Int} : pSl lo hi [.str x] = if x.length ≤ sizeLine then some (.pd (.str (cutS x lo hi))) else none := rfl
@[simp] theorem pLen_l : pLen [.list l] = some (.pd (.int l.length)) := rfl
@[simp] theorem pLen_t : pLen [.tuple l] = some (.pd (.int l.length)) := rfl
@[simp] theorem pLen_s : pLen [.str x] = if x.length ≤ sizeLine then some (.pd (.int x.length)) else none := rfl
@[simp] theorem pSum_l : pSum [.list l] = (ints? l).map fun ns => .pd (.int ns.sum) := rfl
@[simp] theorem pSum_t : pSum [.tuple l] = (ints? l).map fun ns => .pd (.int ns.sum) := rfl
@[simp] theorem pMax_l : pMax [.list l] = (ints? l).bind fun ns => if ns = [] then none else some (.pd (.int (maxI ns))) := rfl
@[simp] theorem pMax_ii : pMax [.int i, .int j] = some (.pd (.int (max i j))) := rfl
@[simp] theorem pMin_l : pMin [.list l] = (ints? l).bind fun ns => if ns = [] then none else some (.pd (.int (minI ns))) := rfl
@[simp] theorem pMin_ii : pMin [.int i, .int j] = some (.pd (.int (min i j))) := rfl
@[simp] theorem pAbs_i : pAbs [.int i] = some (.pd (.int (i.natAbs : Int))) := rfl
@[simp] theorem pInt1_i : pInt1 [.int i] = some (.pd (.int i)) := rfl
@[simp] theorem pInt1_b : pInt1 [.bool p] = some (.pd (.int (if p then 1 else 0))) := rfl
@[simp] theorem pListOf_l : pListOf [.list l] = some (.nl l) := rfl
@[simp] theorem pListOf_t : pListOf [.tuple l] = some (.nl l) := rfl
@[simp] theorem pTupOf_l : pTupOf [.list l] = some (.pd (.tuple l)) := rfl
@[simp] theorem pTupOf_t : pTupOf [.tuple l] = some (.pd (.tuple l)) := rfl
@[simp] theorem pNeg_i : pNeg [.int i] = some (.pd (.int (-i))) := rfl
@[simp] theorem pTup_eq : pTup l = if l.length ≤ sizeLine then some (.pd (.tuple l)) else none := rfl
@[simp] theorem pLst_eq : pLst l = if l.length ≤ sizeLine then some (.nl l) else none := rfl
@[simp] theorem pEq_eq : pEq [d, e] = if min d.depth e.depth ≤ 40 then some (.pd (.bool (PyData.eqv d e))) else none := rfl
@[simp] theorem pNe_eq : pNe [d, e] = if min d.depth e.depth ≤ 40 then some (.pd (.bool (!PyData.eqv d e))) else none := rfl
@[simp] theorem pIn_l : pIn [d, .list l] = if d.depth ≤ 40 then some (.pd (.bool (l.any fun y => PyData.eqv y d))) else none := rfl
@[simp] theorem pIn_t : pIn [d, .tuple l] = if d.depth ≤ 40 then some (.pd (.bool (l.any fun y => PyData.eqv y d))) else none := rfl
@[simp] theorem pNi_l : pNi [d, .list l] = if d.depth ≤ 40 then some (.pd (.bool (!l.any fun y => PyData.eqv y d))) else none := rfl
@[simp] theorem pNi_t : pNi [d, .tuple l] = if d.depth ≤ 40 then some (.pd (.bool (!l.any fun y => PyData.eqv y d))) else none := rfl
@[simp] theorem dep_i : PyData.depth (.int a) = 0 := rfl
@[simp] theorem dep_s : PyData.depth (.str x) = 0 := rfl
@[simp] theorem dep_b : PyData.depth (.bool p) = 0 := rfl
@[simp] theorem dep_n : PyData.depth .none = 0 := rfl
@[simp] theorem dep_t : PyData.depth (.tuple l) = PyData.depthAll l + 1 := by simp only [PyData.depth]
@[simp] theorem dep_l : PyData.depth (.list l) = PyData.depthAll l + 1 := by simp only [PyData.depth]
@[simp] theorem depA_n : PyData.depthAll [] = 0 := rfl
@[simp] theorem depA_c : PyData.depthAll (d :: l) = max d.depth (PyData.depthAll l) := by simp only [PyData.depthAll]
@[simp] theorem eqv_ii : PyData.eqv (.int a) (.int b) = decide (a = b) := by simp only [PyData.eqv]; exact Bool.beq_eq_decide_eq a b
@[simp] theorem eqv_ss : PyData.eqv (.str x) (.str y) = decide (x = y) := by simp only [PyData.eqv]; exact Bool.beq_eq_decide_eq x y
@[simp] theorem eqv_bb : PyData.eqv (.bool p) (.bool q) = decide (p = q) := by simp only [PyData.eqv]; exact Bool.beq_eq_decide_eq p q
@[simp] theorem eqv_nn : PyData.eqv .none .none = true := by simp only [PyData.eqv]
@[simp] theorem eqv_tt : PyData.eqv (.tuple l) (.tuple m) = PyData.eqvAll l m := by simp only [PyData.eqv]
@[simp] theorem eqv_ll : PyData.eqv (.list l) (.list m) = PyData.eqvAll l m := by simp only [PyData.eqv]
@[simp] theorem eqvA_nn : PyData.eqvAll [] [] = true := by simp only [PyData.eqvAll]
@[simp] theorem eqvA_cc : PyData.eqvAll (d :: l) (e :: m) = (PyData.eqv d e && PyData.eqvAll l m) := by simp only [PyData.eqvAll]
@[simp] theorem eqvA_nc : PyData.eqvAll [] (e :: m) = false := by simp only [PyData.eqvAll]
@[simp] theorem eqvA_cn : PyData.eqvAll (d :: l) [] = false := by simp only [PyData.eqvAll]
@[simp] theorem ints_nil : ints? [] = some [] := rfl
@[simp] theorem ints_cons : ints? (.int i :: l) = (ints? l).map (i :: ·) := rfl
@[simp] theorem isTy_i {T : String} : isTy T (.int a) = decide (T = "int") := rfl
@[simp] theorem isTy_b {T : String} : isTy T (.bool p) = (decide (T = "bool") || decide (T = "int")) := rfl
@[simp] theorem isTy_s {T : String} : isTy T (.str x) = decide (T = "str") := rfl
@[simp] theorem isTy_t {T : String} : isTy T (.tuple l) = decide (T = "tuple") := rfl
@[simp] theorem isTy_l {T : String} : isTy T (.list l) = decide (T = "list") := rfl
@[simp] theorem isTy_n {T : String} : isTy T .none = decide (T = "NoneType") := rfl
theorem atI_lit {α : Type} {l : List α} {n : Nat} : atI l (@OfNat.ofNat Int n instOfNat) = l[n]? := by
  unfold atI ixN
  have e : (@OfNat.ofNat Int n instOfNat) = (n : Int) := rfl
  rw [e, if_pos (by omega)]
  by_cases h : (n : Int) < (l.length : Int)
  · rw [if_pos h]
    simp
  · rw [if_neg h]
    simp
    omega
@[simp] theorem atI_0 : atI (d :: l) 0 = some d := atI_lit
section
variable {d1 d2 d3 d4 d5 d6 d7 d8 d9 : D}
@[simp] theorem atI_1 : atI (d :: d1 :: l) 1 = some d1 := atI_lit
@[simp] theorem atI_2 : atI (d :: d1 :: d2 :: l) 2 = some d2 := atI_lit
@[simp] theorem atI_3 : atI (d :: d1 :: d2 :: d3 :: l) 3 = some d3 := atI_lit
@[simp] theorem atI_4 : atI (d :: d1 :: d2 :: d3 :: d4 :: l) 4 = some d4 := atI_lit
@[simp] theorem atI_5 : atI (d :: d1 :: d2 :: d3 :: d4 :: d5 :: l) 5 = some d5 := atI_lit
@[simp] theorem atI_6 : atI (d :: d1 :: d2 :: d3 :: d4 :: d5 :: d6 :: l) 6 = some d6 := atI_lit
@[simp] theorem atI_7 : atI (d :: d1 :: d2 :: d3 :: d4 :: d5 :: d6 :: d7 :: l) 7 = some d7 := atI_lit
@[simp] theorem ixN_0 {n : Nat} (h : 0 < n) : ixN n 0 = some 0 := by
  unfold ixN
  rw [if_pos (by omega), if_pos (by omega)]
  rfl
end
theorem ixN_num {n k : Nat} (h : k < n) : ixN n (@OfNat.ofNat Int k instOfNat) = some k := by
  unfold ixN
  have e : (@OfNat.ofNat Int k instOfNat) = (k : Int) := rfl
  rw [e, if_pos (by omega), if_pos (by omega)]
  simp
@[simp] theorem ixN_1 {n : Nat} : ixN (n + 2) 1 = some 1 := ixN_num (Nat.lt_of_lt_of_le (Nat.lt_succ_self 1) (Nat.le_add_left 2 n))
@[simp] theorem ixN_5_0 : ixN 5 0 = some 0 := rfl
@[simp] theorem ixN_5_1 : ixN 5 1 = some 1 := rfl
@[simp] theorem ixN_5_2 : ixN 5 2 = some 2 := rfl
@[simp] theorem ixN_5_3 : ixN 5 3 = some 3 := rfl
@[simp] theorem ixN_5_4 : ixN 5 4 = some 4 := rfl
@[simp] theorem cut_to {l : List D} {k : Nat} : cutD l none (some (no_index (@OfNat.ofNat Int k instOfNat))) = l.take (@OfNat.ofNat Nat k (instOfNatNat k)) := by
  show cutD l none (some (@OfNat.ofNat Int k instOfNat)) = l.take k
  have e : (@OfNat.ofNat Int k instOfNat) = (k : Int) := rfl
  unfold cutD
  rw [HT.sIx_none, e, HT.sIx_nat, List.drop_zero, Nat.sub_zero]
  by_cases h : k ≤ l.length
  · rw [Nat.min_eq_left h]
  · rw [Nat.min_eq_right (by omega), List.take_of_length_le (Nat.le_refl _), List.take_of_length_le (by omega)]
@[simp] theorem ints_map {ns : List Int} : ints? (ns.map .int) = some ns := by
  induction ns with
  | nil => rfl
  | cons n ns ih => rw [List.map_cons, ints_cons, ih]; rfl
@[simp] theorem ixN_lit {n : Nat} {k : Nat} (h : k < n) : ixN n (k : Int) = some k := by
  unfold ixN
  rw [if_pos (by omega), if_pos (by omega)]
  simp
theorem atI_of {α : Type} {l : List α} {i : Int} {k : Nat} {v : α} (hi : i = (k : Int)) (h : l[k]? = some v) : atI l i = some v := by
  subst hi
  exact atI_nat h
end
theorem cmul {a b : Int} (ha : a.natAbs < 2 ^ 300) (hb : b.natAbs < 2 ^ 300) : CMulW a b := wide_mul ha hb (by decide) (by decide) (by decide)
theorem cdiv {a b : Int} (h0 : 0 < b) (hb : b.natAbs < 2 ^ 300) : CDivW a b := wide_div h0 hb (by decide) (by decide)
@[simp] theorem sizeLine_eq : sizeLine = 16777216 := Nat.le_antisymm (by decide) (by decide)
/-- * -/
@[simp ↓] theorem ev_mul {a b : Int} {ρ : Env} {Q : Rs → Env → Prop} : Ev (oMul [.own (.p (.int a)), .own (.p (.int b))]) ρ Q ↔ CMulW a b ∧ Q (.own (.p (.int (a * b)))) ρ := by
  constructor
  · rintro ⟨r, ρ', e, q⟩
    unfold oMul oMulI opG oRep at e
    simp only [viewAll, Rs.view, pInt] at e
    by_cases h : CMulW a b
    · simp only [if_pos h] at e
      cases e
      exact ⟨h, q⟩
    · simp only [if_neg h] at e
      cases e
  · rintro ⟨h, q⟩
    refine ⟨_, ρ, ?_, q⟩
    unfold oMul oMulI opG
    simp only [viewAll, Rs.view, pInt, if_pos h]
    rfl
@[simp ↓] theorem ev_mulL {t : Option Nat} {l : List D} {k : Int} {ρ : Env} {Q : Rs → Env → Prop} : Ev (oMul [.own (.ml t l), .own (.p (.int k))]) ρ Q ↔ (-(2 ^ 63) ≤ k ∧ k < 2 ^ 63 ∧ l.length * k.toNat ≤ sizeLine) ∧ Q (.own (.ml none (List.replicate k.toNat l).flatten)) ρ := by
  constructor
  · rintro ⟨r, ρ', e, q⟩
    unfold oMul oMulI opG oRep at e
    simp only [viewAll, Rs.view, pInt] at e
    split at e
    · rename_i h
      cases e
      exact ⟨h, q⟩
    · cases e
  · rintro ⟨h, q⟩
    refine ⟨_, ρ, ?_, q⟩
    unfold oMul oMulI opG oRep
    simp only [viewAll, Rs.view, pInt, if_pos h]
/-- * of ints -/
theorem ev_mulI {a b : Int} {ρ : Env} {Q : Rs → Env → Prop} (h : CMulW a b) (q : Q (.own (.p (.int (a * b)))) ρ) : Ev (oMul [.own (.p (.int a)), .own (.p (.int b))]) ρ Q := by
  refine ⟨_, ρ, ?_, q⟩
  unfold oMul oMulI opG
  simp only [viewAll, Rs.view, pInt, if_pos h]
  rfl
/-! loops -/
/-- a loop by what holds between its turns -/
theorem ev_loop_inv {t : D → Env → Option Env} {body : M Fl} {Q : Fl → Env → Prop} (all : List D) (I : List D → Env → Prop)
    (hs : ∀ done d r ρ, all = done ++ d :: r → I done ρ → envQ (fun ρ1 => Ev body ρ1 fun fl ρ2 => (fl = .nx ∨ fl = .ct) ∧ I (done ++ [d]) ρ2) (t d ρ)) (hd : ∀ ρ', I all ρ' → Q .nx ρ') :
    ∀ (rest done : List D) (ρ : Env), all = done ++ rest → I done ρ → Ev (loopD t body rest) ρ Q
  | [], done, ρ, ha, h0 => by
    unfold loopD
    rw [ev_ret]
    exact hd ρ (by rw [ha]; simpa using h0)
  | d :: r, done, ρ, ha, h0 => by
    have h := hs done d r ρ ha h0
    unfold envQ at h
    split at h
    · rename_i ρ1 e1
      obtain ⟨fl, ρ2, e2, hfl, h2⟩ := h
      obtain ⟨a, ρ3, e3, q⟩ := ev_loop_inv all I hs hd r (done ++ [d]) ρ2 (by rw [ha]; simp) h2
      refine ⟨a, ρ3, ?_, q⟩
      unfold loopD
      simp only [e1, e2]
      rcases hfl with rfl | rfl
      · exact e3
      · exact e3
    · exact h.elim
/-- the same, from the start -/
theorem ev_loop {t : D → Env → Option Env} {body : M Fl} {Q : Fl → Env → Prop} {l : List D} {ρ : Env} (I : List D → Env → Prop) (h0 : I [] ρ)
    (hs : ∀ done d r ρ, l = done ++ d :: r → I done ρ → envQ (fun ρ1 => Ev body ρ1 fun fl ρ2 => (fl = .nx ∨ fl = .ct) ∧ I (done ++ [d]) ρ2) (t d ρ)) (hd : ∀ ρ', I l ρ' → Q .nx ρ') : Ev (loopD t body l) ρ Q :=
  ev_loop_inv l I hs hd l [] ρ rfl h0
@[simp ↓] theorem ev_for {src : M (List D)} {t : D → Env → Option Env} {body : M Fl} {ρ : Env} {Q : Fl → Env → Prop} : Ev (gFor src t body) ρ Q ↔ Ev src ρ fun l ρ1 => Ev (loopD t body l) ρ1 Q := by
  unfold gFor
  exact ev_bind
/-- one turn more of a written loop -/
@[simp ↓] theorem ev_loop_nil {t : D → Env → Option Env} {body : M Fl} {ρ : Env} {Q : Fl → Env → Prop} : Ev (loopD t body []) ρ Q ↔ Q .nx ρ := by
  unfold loopD
  exact ev_ret
def turnQ (t : D → Env → Option Env) (body : M Fl) (l : List D) (Q : Fl → Env → Prop) (ρ : Env) : Fl → Prop
  | .nx => Ev (loopD t body l) ρ Q
  | .ct => Ev (loopD t body l) ρ Q
  | .bk => Q .nx ρ
  | .rt s => Q (.rt s) ρ
@[simp ↓] theorem turnQ_nx {t : D → Env → Option Env} {body : M Fl} {l : List D} {Q : Fl → Env → Prop} {ρ : Env} : turnQ t body l Q ρ .nx = Ev (loopD t body l) ρ Q := rfl
@[simp ↓] theorem turnQ_ct {t : D → Env → Option Env} {body : M Fl} {l : List D} {Q : Fl → Env → Prop} {ρ : Env} : turnQ t body l Q ρ .ct = Ev (loopD t body l) ρ Q := rfl
@[simp ↓] theorem turnQ_bk {t : D → Env → Option Env} {body : M Fl} {l : List D} {Q : Fl → Env → Prop} {ρ : Env} : turnQ t body l Q ρ .bk = Q .nx ρ := rfl
@[simp ↓] theorem turnQ_rt {t : D → Env → Option Env} {body : M Fl} {l : List D} {Q : Fl → Env → Prop} {ρ : Env} {s : Sl} : turnQ t body l Q ρ (.rt s) = Q (.rt s) ρ := rfl
theorem ev_loop_cons {t : D → Env → Option Env} {body : M Fl} {d : D} {l : List D} {ρ : Env} {Q : Fl → Env → Prop} : Ev (loopD t body (d :: l)) ρ Q ↔ envQ (fun ρ1 => Ev body ρ1 fun fl ρ2 => turnQ t body l Q ρ2 fl) (t d ρ) := by
  constructor
  · rintro ⟨a, ρ', e, q⟩
    unfold loopD at e
    split at e
    · cases e
    · rename_i ρ1 e1
      rw [e1, envQ_s]
      split at e
      · cases e
      · rename_i fl ρ2 e2
        refine ⟨fl, ρ2, e2, ?_⟩
        cases fl with
        | nx => exact ⟨a, ρ', e, q⟩
        | ct => exact ⟨a, ρ', e, q⟩
        | bk => cases e; exact q
        | rt s => cases e; exact q
  · intro h
    unfold envQ at h
    split at h
    · rename_i ρ1 e1
      obtain ⟨fl, ρ2, e2, q⟩ := h
      cases fl with
      | nx =>
        obtain ⟨a, ρ3, e3, q⟩ := q
        exact ⟨a, ρ3, by unfold loopD; simp only [e1, e2]; exact e3, q⟩
      | ct =>
        obtain ⟨a, ρ3, e3, q⟩ := q
        exact ⟨a, ρ3, by unfold loopD; simp only [e1, e2]; exact e3, q⟩
      | bk => exact ⟨_, _, by unfold loopD; simp only [e1, e2], q⟩
      | rt s => exact ⟨_, _, by unfold loopD; simp only [e1, e2], q⟩
    · exact h.elim
/-! what is walked -/
def seqQ (ρ : Env) (Q : List D → Env → Prop) : D → Prop
  | .list l => Q l ρ
  | .tuple l => Q l ρ
  | .str z => Q (strSigns z) ρ
  | _ => False
@[simp] theorem seqQ_l {ρ : Env} {Q : List D → Env → Prop} {l : List D} : seqQ ρ Q (.list l) = Q l ρ := rfl
@[simp] theorem seqQ_t {ρ : Env} {Q : List D → Env → Prop} {l : List D} : seqQ ρ Q (.tuple l) = Q l ρ := rfl
@[simp] theorem seqQ_s {ρ : Env} {Q : List D → Env → Prop} {z : Str} : seqQ ρ Q (.str z) = Q (strSigns z) ρ := rfl
@[simp ↓] theorem ev_mSeq {f : M Rs} {ρ : Env} {Q : List D → Env → Prop} : Ev (mSeq f) ρ Q ↔ Ev f ρ fun r ρ1 => Ev (freezeR r) ρ1 fun d ρ2 => seqQ ρ2 Q d := by
  unfold mSeq
  simp only [ev_bind]
  constructor
  · rintro ⟨r, ρ1, e, d, ρ2, e2, b, ρ3, e3, q⟩
    refine ⟨r, ρ1, e, d, ρ2, e2, ?_⟩
    try dsimp only at e3
    split at e3
    · cases e3; exact q
    · cases e3; exact q
    · cases e3; exact q
    · cases e3
  · rintro ⟨r, ρ1, e, d, ρ2, e2, q⟩
    refine ⟨r, ρ1, e, d, ρ2, e2, ?_⟩
    cases d with
    | list l => exact ⟨l, ρ2, rfl, q⟩
    | tuple l => exact ⟨l, ρ2, rfl, q⟩
    | str l => exact ⟨_, ρ2, rfl, q⟩
    | none => exact q.elim
    | bool b => exact q.elim
    | int b => exact q.elim
    | dict b => exact q.elim
def rng1Q (ρ : Env) (Q : List D → Env → Prop) : Option (List D) → Prop
  | some [.int j] => (-(2 ^ 62) ≤ j ∧ j < 2 ^ 62) ∧ Q (rngD 0 j.toNat) ρ
  | _ => False
@[simp] theorem rng1Q_i {ρ : Env} {Q : List D → Env → Prop} {j : Int} : rng1Q ρ Q (some [.int j]) = ((-(2 ^ 62) ≤ j ∧ j < 2 ^ 62) ∧ Q (rngD 0 j.toNat) ρ) := rfl
@[simp ↓] theorem ev_rng1 {f : M (List Rs)} {ρ : Env} {Q : List D → Env → Prop} : Ev (mRng1 f) ρ Q ↔ Ev f ρ fun rs ρ1 => rng1Q ρ1 Q (viewAll rs ρ1) := by
  unfold mRng1
  simp only [ev_bind]
  constructor
  · rintro ⟨r, ρ1, e, b, ρ3, e3, q⟩
    refine ⟨r, ρ1, e, ?_⟩
    try dsimp only at e3
    split at e3
    · rename_i j h
      split at e3
      · rename_i h2; cases e3; rw [h]; exact ⟨h2, q⟩
      · cases e3
    · cases e3
  · rintro ⟨r, ρ1, e, q⟩
    refine ⟨r, ρ1, e, ?_⟩
    unfold rng1Q at q
    split at q
    · rename_i j h
      exact ⟨_, ρ1, by simp only [h]; rw [if_pos q.1], q.2⟩
    · exact q.elim
def rng2Q (ρ : Env) (Q : List D → Env → Prop) : Option (List D) → Prop
  | some [.int i, .int j] => (-(2 ^ 62) ≤ i ∧ i < 2 ^ 62 ∧ -(2 ^ 62) ≤ j ∧ j < 2 ^ 62) ∧ Q (rngD i (j - i).toNat) ρ
  | _ => False
@[simp] theorem rng2Q_i {ρ : Env} {Q : List D → Env → Prop} {i j : Int} : rng2Q ρ Q (some [.int i, .int j]) = ((-(2 ^ 62) ≤ i ∧ i < 2 ^ 62 ∧ -(2 ^ 62) ≤ j ∧ j < 2 ^ 62) ∧ Q (rngD i (j - i).toNat) ρ) := rfl
@[simp ↓] theorem ev_rng2 {f : M (List Rs)} {ρ : Env} {Q : List D → Env → Prop} : Ev (mRng2 f) ρ Q ↔ Ev f ρ fun rs ρ1 => rng2Q ρ1 Q (viewAll rs ρ1) := by
  unfold mRng2
  simp only [ev_bind]
  constructor
  · rintro ⟨r, ρ1, e, b, ρ3, e3, q⟩
    refine ⟨r, ρ1, e, ?_⟩
    try dsimp only at e3
    split at e3
    · rename_i i j h
      split at e3
      · rename_i h2; cases e3; rw [h]; exact ⟨h2, q⟩
      · cases e3
    · cases e3
  · rintro ⟨r, ρ1, e, q⟩
    refine ⟨r, ρ1, e, ?_⟩
    unfold rng2Q at q
    split at q
    · rename_i i j h
      exact ⟨_, ρ1, by simp only [h]; rw [if_pos q.1], q.2⟩
    · exact q.elim
/-- a while by a measure -/
theorem ev_while_inv {c : M Bool} {body : M Fl} {Q : Fl → Env → Prop} (I : Nat → Env → Prop)
    (hs : ∀ m ρ, I m ρ → Ev c ρ fun b ρ1 => if b = true then 0 < m ∧ Ev body ρ1 (fun fl ρ2 => (fl = .nx ∨ fl = .ct) ∧ ∃ m', m' < m ∧ I m' ρ2) else Q .nx ρ1) :
    ∀ (n m : Nat) (ρ : Env), m < n → I m ρ → Ev (whileD c body n) ρ Q
  | 0, m, ρ, hl, _ => (Nat.not_lt_zero _ hl).elim
  | n + 1, m, ρ, hl, h0 => by
    obtain ⟨b, ρ1, e1, q⟩ := hs m ρ h0
    cases b with
    | false =>
      rw [if_neg (by decide)] at q
      exact ⟨_, ρ1, by unfold whileD; simp only [e1], q⟩
    | true =>
      rw [if_pos rfl] at q
      obtain ⟨h0m, fl, ρ2, e2, hfl, m', hm, h2⟩ := q
      obtain ⟨a, ρ3, e3, q3⟩ := ev_while_inv I hs n m' ρ2 (by omega) h2
      refine ⟨a, ρ3, ?_, q3⟩
      unfold whileD
      simp only [e1, e2]
      rcases hfl with rfl | rfl
      · exact e3
      · exact e3
theorem ev_while {c : M Bool} {body : M Fl} {ρ : Env} {Q : Fl → Env → Prop} (I : Nat → Env → Prop) (m : Nat) (hm : m < fuel) (h0 : I m ρ)
    (hs : ∀ m ρ, I m ρ → Ev c ρ fun b ρ1 => if b = true then 0 < m ∧ Ev body ρ1 (fun fl ρ2 => (fl = .nx ∨ fl = .ct) ∧ ∃ m', m' < m ∧ I m' ρ2) else Q .nx ρ1) : Ev (gWhile c body) ρ Q :=
  ev_while_inv I hs fuel m ρ hm h0
/-! comprehensions -/
@[simp ↓] theorem ev_lc {src : M (List D)} {own : List Nat} {t : D → Env → Option Env} {tt : M Bool} {te : M Rs} {ρ : Env} {Q : Rs → Env → Prop} :
    Ev (eLc src own t tt te) ρ Q ↔ Ev src ρ fun l ρ0 => plainAt ρ0 own = true ∧ Ev (compD own t tt te l []) ρ0 fun acc ρ1 => Q (.own (.ml none acc)) (backE ρ0 (wipeE ρ1 own) own) := by
  unfold eLc
  rw [ev_bind]
  constructor
  · rintro ⟨l, ρ1, e, b, ρ2, e2, q⟩
    refine ⟨l, ρ1, e, ?_⟩
    dsimp only at e2
    split at e2
    · rename_i hp
      split at e2
      · rename_i acc ρ3 h; cases e2; exact ⟨hp, acc, ρ3, h, q⟩
      · cases e2
    · cases e2
  · rintro ⟨l, ρ1, e, hp, acc, ρ3, h, q⟩
    exact ⟨l, ρ1, e, _, _, by dsimp only; rw [if_pos hp, h], q⟩
@[simp] theorem wipeE_nil {ρ : Env} : wipeE ρ [] = ρ := rfl
@[simp] theorem wipeE_cons {ρ : Env} {v : Nat} {vs : List Nat} : wipeE ρ (v :: vs) = (wipeE ρ vs).set v none := rfl
@[simp] theorem backE_nil {ρ ρ0 : Env} : backE ρ0 ρ [] = ρ := rfl
@[simp] theorem backE_cons {ρ ρ0 : Env} {v : Nat} {vs : List Nat} : backE ρ0 ρ (v :: vs) = (backE ρ0 ρ vs).set v (ρ0.getD v none) := rfl
def slotP : Option (Option Sl) → Bool
  | some (some (.p _)) => true
  | some none => true
  | _ => false
@[simp] theorem slotP_p {d : D} : slotP (some (some (.p d))) = true := rfl
@[simp] theorem slotP_n : slotP (some none) = true := rfl
@[simp] theorem plainAt_nil {ρ : Env} : plainAt ρ [] = true := rfl
@[simp] theorem plainAt_cons {ρ : Env} {v : Nat} {vs : List Nat} : plainAt ρ (v :: vs) = (slotP ρ[v]? && plainAt ρ vs) := by
  rw [plainAt]
  congr 1
@[simp ↓] theorem ev_yes {ρ : Env} {Q : Bool → Env → Prop} : Ev tYes' ρ Q ↔ Q true ρ := ev_ret
/-- a comprehension by what holds between its turns -/
theorem ev_comp_inv {own : List Nat} {t : D → Env → Option Env} {tt : M Bool} {te : M Rs} {Q : List D → Env → Prop} (all : List D) (I : List D → List D → Env → Prop)
    (hs : ∀ done d r acc ρ, all = done ++ d :: r → I done acc ρ → envQ (fun ρ1 => Ev tt ρ1 fun b ρ2 => if b = true then Ev te ρ2 fun r ρ3 => Ev (freezeR r) ρ3 fun y ρ4 => acc.length < sizeLine ∧ I (done ++ [d]) (acc ++ [y]) ρ4 else I (done ++ [d]) acc ρ2) (t d (wipeE ρ own)))
    (hd : ∀ acc ρ', I all acc ρ' → Q acc ρ') : ∀ (rest done acc : List D) (ρ : Env), all = done ++ rest → I done acc ρ → Ev (compD own t tt te rest acc) ρ Q
  | [], done, acc, ρ, ha, h0 => by
    unfold compD
    rw [ev_ret]
    exact hd acc ρ (by rw [ha]; simpa using h0)
  | d :: r, done, acc, ρ, ha, h0 => by
    have h := hs done d r acc ρ ha h0
    unfold envQ at h
    split at h
    · rename_i ρ1 e1
      obtain ⟨b, ρ2, e2, q⟩ := h
      cases b with
      | false =>
        rw [if_neg (by decide)] at q
        obtain ⟨a, ρ3, e3, q3⟩ := ev_comp_inv all I hs hd r (done ++ [d]) acc ρ2 (by rw [ha]; simp) q
        refine ⟨a, ρ3, ?_, q3⟩
        unfold compD
        simp only [e1, e2]
        exact e3
      | true =>
        rw [if_pos rfl] at q
        obtain ⟨rr, ρ3, e3, y, ρ4, e4, hl, q⟩ := q
        obtain ⟨a, ρ5, e5, q5⟩ := ev_comp_inv all I hs hd r (done ++ [d]) (acc ++ [y]) ρ4 (by rw [ha]; simp) q
        refine ⟨a, ρ5, ?_, q5⟩
        unfold compD
        have : M.bind te freezeR ρ2 = some (.ok y ρ4) := by unfold M.bind; simp only [e3, e4]
        simp only [e1, e2, this, if_pos hl]
        exact e5
    · exact h.elim
theorem ev_comp {own : List Nat} {t : D → Env → Option Env} {tt : M Bool} {te : M Rs} {Q : List D → Env → Prop} {l : List D} {ρ : Env} (I : List D → List D → Env → Prop) (h0 : I [] [] ρ)
    (hs : ∀ done d r acc ρ, l = done ++ d :: r → I done acc ρ → envQ (fun ρ1 => Ev tt ρ1 fun b ρ2 => if b = true then Ev te ρ2 fun r ρ3 => Ev (freezeR r) ρ3 fun y ρ4 => acc.length < sizeLine ∧ I (done ++ [d]) (acc ++ [y]) ρ4 else I (done ++ [d]) acc ρ2) (t d (wipeE ρ own)))
    (hd : ∀ acc ρ', I l acc ρ' → Q acc ρ') : Ev (compD own t tt te l []) ρ Q := ev_comp_inv l I hs hd l [] [] ρ rfl h0
end B
end Pd

set_option Elab.async false
set_option linter.all false
set_option maxRecDepth 100000
set_option maxHeartbeats 1000000
namespace Pd
open PySem PySem.Spec PyProof.Rows L2
open B (view_p view_ml slotV slotV_ml slotV_p view_bor viewAll_nil viewAll_cons Sl.tag_p Sl.tag_ml Sl.tag_md Sl.tag_mr Sl.tag_ob Sl.tag_ex Sl.tag_fd Sl.mark_fd Sl.bare_fd Sl.retag_fd Sl.mark_p Sl.mark_ml Sl.mark_md Sl.mark_mr Sl.mark_ob Sl.mark_ex Sl.bare_p Sl.bare_ml Sl.bare_md Sl.bare_mr Sl.bare_ob Sl.bare_ex Sl.retag_p Sl.retag_ml Sl.retag_md Sl.retag_mr Sl.retag_ob Sl.retag_ex tgName_eq tgTup_eq tgNil_eq tgCons_eq argS_nil argS_own argS_bor' bors_nil bors_own bors_bor wb_nil wb_own wb_bor slotT slotT_s tagAt_eq kindOk_l kindOk_s kQ kQ_t fAppend_eq endE_nil endE_p slotE slotE_s endE_ml endE_md endE_mr endE_ob endE_ex startE_eq markAll_nil markAll_cons rep_z rep_s Rd'_rs_pd oAdd_eq oSub_eq oDiv_eq oMod_eq oAnd_eq oEq_eq oNe_eq oLt_eq oLe_eq oGt_eq oGe_eq oIn_eq oNi_eq oIs_eq oIsn_eq oIx_eq oSl_eq oLen_eq oSum_eq oMax_eq oMin_eq oAbs_eq oInt1_eq oListOf_eq oTupOf_eq oNeg_eq oTup_eq oLst_eq pAdd_ii pAdd_ss pAdd_tt pAdd_ll pSub_ii pInt_ii pAnd_ii pCmpI_ii pIs_n pIs_b pIsn_n pIsn_b isNon_i isNon_n isNon_s isNon_b isNon_t isNon_l pIx_l pIx_t pIx_s pSl_l pSl_t pSl_s pLen_l pLen_t pLen_s pSum_l pSum_t pMax_l pMax_ii pMin_l pMin_ii pAbs_i pInt1_i pInt1_b pListOf_l pListOf_t pTupOf_l pTupOf_t pNeg_i pTup_eq pLst_eq pEq_eq pNe_eq pIn_l pIn_t pNi_l pNi_t dep_i dep_s dep_b dep_n dep_t dep_l depA_n depA_c eqv_ii eqv_ss eqv_bb eqv_nn eqv_tt eqv_ll eqvA_nn eqvA_cc eqvA_nc eqvA_cn ints_nil ints_cons isTy_i isTy_b isTy_s isTy_t isTy_l isTy_n atI_lit atI_0 atI_1 atI_2 atI_3 atI_4 atI_5 atI_6 atI_7 ixN_0 ixN_num ixN_1 ixN_5_0 ixN_5_1 ixN_5_2 ixN_5_3 ixN_5_4 cut_to ints_map ixN_lit atI_of cmul cdiv sizeLine_eq wipeE_nil wipeE_cons backE_nil backE_cons slotP slotP_p slotP_n plainAt_nil plainAt_cons)
/-- simp does not go into q -/
class Fx {α : Sort u} (q : α) : Type
instance {α : Sort u} (q : α) : Fx q := {}
open PySem PySem.Spec PyProof.Rows L2

/-! ### running a mirror: what is wanted behind it -/
def Ev {α : Type} (f : M α) (ρ : Env) (Q : α → Env → Prop) [Fx Q] : Prop := B.Ev f ρ Q
def Sp (F : List Sl → Option (Sl × List Sl)) (ss : List Sl) (Q : Sl → List Sl → Prop) [Fx Q] : Prop := B.Sp F ss Q
theorem Ev.mono {α : Type} {f : M α} {ρ : Env} {Q Q' : α → Env → Prop} (h : Ev f ρ Q) (i : ∀ a ρ', Q a ρ' → Q' a ρ') : Ev f ρ Q' := B.Ev.mono h i
theorem Sp.mono {F : List Sl → Option (Sl × List Sl)} {ss : List Sl} {Q Q' : Sl → List Sl → Prop} (h : Sp F ss Q) (i : ∀ a ρ', Q a ρ' → Q' a ρ') : Sp F ss Q' := B.Sp.mono h i
/-- a def that hands back one thing -/
theorem sp_iff {F : List Sl → Option (Sl × List Sl)} {ss ss' : List Sl} {r : Sl} (h : Sp F ss fun a b => a = r ∧ b = ss') (Q : Sl → List Sl → Prop) : Sp F ss Q ↔ Q r ss' := B.sp_iff h Q
section
variable {α β : Type} {ρ ρ' : Env}
@[simp ↓] theorem ev_bind {f : M α} {g : α → M β} {Q : β → Env → Prop} : Ev (M.bind f g) ρ Q ↔ Ev f ρ fun a ρ1 => Ev (g a) ρ1 Q := B.ev_bind
@[simp ↓] theorem ev_ret {a : α} {Q : α → Env → Prop} : Ev (M.ret a) ρ Q ↔ Q a ρ := B.ev_ret
@[simp ↓] theorem ev_fail {Q : α → Env → Prop} : Ev M.fail ρ Q ↔ False := B.ev_fail
@[simp ↓] theorem ev_c {d : D} {Q : Rs → Env → Prop} : Ev (eC d) ρ Q ↔ Q (.own (.p d)) ρ := B.ev_c
@[simp ↓] theorem ev_bin {fa fb : M Rs} {op : List Rs → M Rs} {Q : Rs → Env → Prop} : Ev (eBin fa fb op) ρ Q ↔ Ev fa ρ fun a ρ1 => Ev fb ρ1 fun b ρ2 => Ev (op [a, b]) ρ2 Q := B.ev_bin
@[simp ↓] theorem ev_un {fa : M Rs} {op : List Rs → M Rs} {Q : Rs → Env → Prop} : Ev (eUn fa op) ρ Q ↔ Ev fa ρ fun a ρ1 => Ev (op [a]) ρ1 Q := B.ev_un
@[simp ↓] theorem ev_aNil {Q : List Rs → Env → Prop} : Ev aNil ρ Q ↔ Q [] ρ := B.ev_aNil
@[simp ↓] theorem ev_aCons {f : M Rs} {g : M (List Rs)} {Q : List Rs → Env → Prop} : Ev (aCons f g) ρ Q ↔ Ev f ρ fun a ρ1 => Ev g ρ1 fun r ρ2 => Q (a :: r) ρ2 := B.ev_aCons
def slotQ (i : Nat) (ρ : Env) (Q : Rs → Env → Prop) [Fx Q] (o0 : Option (Option Sl)) : Prop := B.slotQ i ρ Q o0
@[simp] theorem slotQ_p {i : Nat} {Q : Rs → Env → Prop} {d : D} : slotQ i ρ Q (some (some (.p d))) = Q (.own (.p d)) ρ := B.slotQ_p
@[simp] theorem slotQ_ml {i : Nat} {Q : Rs → Env → Prop} {t : Option Nat} {d : List D} : slotQ i ρ Q (some (some (.ml t d))) = Q (.bor i) ρ := B.slotQ_ml
@[simp] theorem slotQ_md {i : Nat} {Q : Rs → Env → Prop} {t : Option Nat} {d : List (Key × D)} : slotQ i ρ Q (some (some (.md t d))) = Q (.bor i) ρ := B.slotQ_md
@[simp] theorem slotQ_mr {i : Nat} {Q : Rs → Env → Prop} {t : Option Nat} {d : List Sl} : slotQ i ρ Q (some (some (.mr t d))) = Q (.bor i) ρ := B.slotQ_mr
@[simp] theorem slotQ_ob {i : Nat} {Q : Rs → Env → Prop} {t : Option Nat} {c : Str} {ns : List Str} {d : List Sl} : slotQ i ρ Q (some (some (.ob t c ns d))) = Q (.bor i) ρ := B.slotQ_ob
@[simp] theorem slotQ_fd {i : Nat} {Q : Rs → Env → Prop} {l : List (Key × D)} : slotQ i ρ Q (some (some (.fd l))) = Q (.own (.fd l)) ρ := B.slotQ_fd
@[simp] theorem slotQ_ex {i : Nat} {Q : Rs → Env → Prop} {c : Str} {f : Option (Str × D)} : slotQ i ρ Q (some (some (.ex c f))) = Q (.own (.ex c f)) ρ := B.slotQ_ex
@[simp ↓] theorem ev_name {i : Nat} {Q : Rs → Env → Prop} : Ev (eName i) ρ Q ↔ slotQ i ρ Q ρ[i]? := B.ev_name
/-- what an operation gives -/
def resQ (ρ : Env) (Q : Rs → Env → Prop) [Fx Q] (o0 : Option Rd') : Prop := B.resQ ρ Q o0
@[simp] theorem resQ_pd {Q : Rs → Env → Prop} {d : D} : resQ ρ Q (some (.pd d)) = Q (.own (.p d)) ρ := B.resQ_pd
@[simp] theorem resQ_nl {Q : Rs → Env → Prop} {l : List D} : resQ ρ Q (some (.nl l)) = Q (.own (.ml none l)) ρ := B.resQ_nl
@[simp] theorem resQ_none {Q : Rs → Env → Prop} : resQ ρ Q none = False := B.resQ_none
@[simp] theorem resQ_ite {Q : Rs → Env → Prop} {c : Prop} [Decidable c] {o : Option Rd'} : resQ ρ Q (if c then o else none) ↔ c ∧ resQ ρ Q o := B.resQ_ite
@[simp ↓] theorem ev_opG {pf : List D → Option Rd'} {rs : List Rs} {Q : Rs → Env → Prop} : Ev (opG pf rs) ρ Q ↔ resQ ρ Q ((viewAll rs ρ).bind pf) := B.ev_opG
@[simp ↓] theorem ev_opF {pf : List D → Option Rd'} {rs : List Rs} {Q : Rs → Env → Prop} : Ev (opF pf rs) ρ Q ↔ Ev (freezeAll rs) ρ fun ds ρ1 => resQ ρ1 Q (pf ds) := B.ev_opF
@[simp ↓] theorem ev_freezeAll_nil {Q : List D → Env → Prop} : Ev (freezeAll []) ρ Q ↔ Q [] ρ := B.ev_freezeAll_nil
@[simp ↓] theorem ev_freezeAll_cons {r : Rs} {rs : List Rs} {Q : List D → Env → Prop} : Ev (freezeAll (r :: rs)) ρ Q ↔ Ev (freezeR r) ρ fun d ρ1 => Ev (freezeAll rs) ρ1 fun ds ρ2 => Q (d :: ds) ρ2 := B.ev_freezeAll_cons
def testQ (ρ : Env) (Q : Bool → Env → Prop) [Fx Q] (o0 : Option D) : Prop := B.testQ ρ Q o0
@[simp] theorem testQ_b {Q : Bool → Env → Prop} {b : Bool} : testQ ρ Q (some (.bool b)) = Q b ρ := B.testQ_b
@[simp ↓] theorem ev_test {f : M Rs} {Q : Bool → Env → Prop} : Ev (mTest f) ρ Q ↔ Ev f ρ fun r ρ1 => testQ ρ1 Q (r.view ρ1) := B.ev_test
@[simp ↓] theorem ev_and {fa fb : M Rs} {Q : Rs → Env → Prop} : Ev (eAnd fa fb) ρ Q ↔ Ev (mTest fa) ρ fun b ρ1 => if b = true then Ev fb ρ1 Q else Q (.own (.p (.bool false))) ρ1 := B.ev_and
@[simp ↓] theorem ev_or {fa fb : M Rs} {Q : Rs → Env → Prop} : Ev (eOr fa fb) ρ Q ↔ Ev (mTest fa) ρ fun b ρ1 => if b = true then Q (.own (.p (.bool true))) ρ1 else Ev fb ρ1 Q := B.ev_or
@[simp ↓] theorem ev_not {fa : M Rs} {Q : Rs → Env → Prop} : Ev (eNot fa) ρ Q ↔ Ev (mTest fa) ρ fun b ρ1 => Q (.own (.p (.bool (!b)))) ρ1 := B.ev_not
@[simp ↓] theorem ev_if {c : M Bool} {fa fb : M Rs} {Q : Rs → Env → Prop} : Ev (eIf c fa fb) ρ Q ↔ Ev c ρ fun b ρ1 => if b = true then Ev fa ρ1 Q else Ev fb ρ1 Q := B.ev_if
@[simp ↓] theorem ev_tand {c d : M Bool} {Q : Bool → Env → Prop} : Ev (tAnd' c d) ρ Q ↔ Ev c ρ fun b ρ1 => if b = true then Ev d ρ1 Q else Q false ρ1 := B.ev_tand
@[simp ↓] theorem ev_tor {c d : M Bool} {Q : Bool → Env → Prop} : Ev (tOr' c d) ρ Q ↔ Ev c ρ fun b ρ1 => if b = true then Q true ρ1 else Ev d ρ1 Q := B.ev_tor
@[simp ↓] theorem ev_tnot {c : M Bool} {Q : Bool → Env → Prop} : Ev (tNot' c) ρ Q ↔ Ev c ρ fun b ρ1 => Q (!b) ρ1 := B.ev_tnot
def isiQ (ρ : Env) (T : String) (Q : Rs → Env → Prop) [Fx Q] (o0 : Option D) : Prop := B.isiQ ρ T Q o0
@[simp] theorem isiQ_s {T : String} {Q : Rs → Env → Prop} {d : D} : isiQ ρ T Q (some d) = Q (.own (.p (.bool (isTy T d)))) ρ := B.isiQ_s
@[simp ↓] theorem ev_isi {T : String} {r : Rs} {Q : Rs → Env → Prop} : Ev (oIsi T r) ρ Q ↔ isiQ ρ T Q (r.view ρ) := B.ev_isi
def intQ (ρ : Env) (Q : Option Int → Env → Prop) [Fx Q] (o0 : Option D) : Prop := B.intQ ρ Q o0
@[simp] theorem intQ_i {Q : Option Int → Env → Prop} {b : Int} : intQ ρ Q (some (.int b)) = Q (some b) ρ := B.intQ_i
@[simp ↓] theorem ev_mInt {f : M Rs} {Q : Option Int → Env → Prop} : Ev (mInt f) ρ Q ↔ Ev f ρ fun r ρ1 => intQ ρ1 Q (r.view ρ1) := B.ev_mInt
@[simp ↓] theorem ev_mNo {Q : Option Int → Env → Prop} : Ev mNo ρ Q ↔ Q none ρ := B.ev_mNo
@[simp ↓] theorem ev_sl {fe : M Rs} {lo hi : M (Option Int)} {op : Option Int → Option Int → List Rs → M Rs} {Q : Rs → Env → Prop} :
    Ev (eSl fe lo hi op) ρ Q ↔ Ev fe ρ fun r ρ1 => Ev lo ρ1 fun l ρ2 => Ev hi ρ2 fun h ρ3 => Ev (op l h [r]) ρ3 Q := B.ev_sl
def takeQ (i : Nat) (ρ : Env) (Q : Sl → Env → Prop) [Fx Q] (o0 : Option (Option Sl)) : Prop := B.takeQ i ρ Q o0
@[simp] theorem takeQ_s {i : Nat} {Q : Sl → Env → Prop} {s : Sl} : takeQ i ρ Q (some (some s)) = Q s (ρ.set i none) := B.takeQ_s
@[simp ↓] theorem ev_take_own {s : Sl} {Q : Sl → Env → Prop} : Ev (takeR (.own s)) ρ Q ↔ Q s ρ := B.ev_take_own
@[simp ↓] theorem ev_take_bor {i : Nat} {Q : Sl → Env → Prop} : Ev (takeR (.bor i)) ρ Q ↔ takeQ i ρ Q ρ[i]? := B.ev_take_bor
@[simp ↓] theorem ev_gSet {i : Nat} {f : M Rs} {Q : Fl → Env → Prop} : Ev (gSet i f) ρ Q ↔ Ev f ρ fun r ρ1 => Ev (takeR r) ρ1 fun s ρ2 => i < ρ2.length ∧ Q .nx (ρ2.set i (some s)) := B.ev_gSet
@[simp ↓] theorem ev_gRet {f : M Rs} {Q : Fl → Env → Prop} : Ev (gRet f) ρ Q ↔ Ev f ρ fun r ρ1 => Ev (takeR r) ρ1 fun s ρ2 => s.tag = none ∧ Q (.rt s) ρ2 := B.ev_gRet
@[simp ↓] theorem ev_gRetN {Q : Fl → Env → Prop} : Ev gRetN ρ Q ↔ Q (.rt (.p .none)) ρ := B.ev_gRetN
@[simp ↓] theorem ev_gNext {Q : Fl → Env → Prop} : Ev gNext ρ Q ↔ Q .nx ρ := B.ev_gNext
@[simp ↓] theorem ev_gNever {Q : Fl → Env → Prop} : Ev gNever ρ Q ↔ False := B.ev_gNever
@[simp ↓] theorem ev_gExpr {f : M Rs} {Q : Fl → Env → Prop} : Ev (gExpr f) ρ Q ↔ Ev f ρ fun _ ρ1 => Q .nx ρ1 := B.ev_gExpr
/-- the flow goes on, or it has ended -/
def flQ (g : M Fl) (Q : Fl → Env → Prop) [Fx Q] (ρ : Env) (o0 : Fl) : Prop := B.flQ g Q ρ o0
@[simp ↓] theorem flQ_nx {g : M Fl} {Q : Fl → Env → Prop} : flQ g Q ρ .nx = Ev g ρ Q := B.flQ_nx
@[simp ↓] theorem flQ_bk {g : M Fl} {Q : Fl → Env → Prop} : flQ g Q ρ .bk = Q .bk ρ := B.flQ_bk
@[simp ↓] theorem flQ_ct {g : M Fl} {Q : Fl → Env → Prop} : flQ g Q ρ .ct = Q .ct ρ := B.flQ_ct
@[simp ↓] theorem flQ_rt {g : M Fl} {Q : Fl → Env → Prop} {s : Sl} : flQ g Q ρ (.rt s) = Q (.rt s) ρ := B.flQ_rt
@[simp ↓] theorem ev_gSeq {g1 g2 : M Fl} {Q : Fl → Env → Prop} : Ev (gSeq g1 g2) ρ Q ↔ Ev g1 ρ fun fl ρ1 => flQ g2 Q ρ1 fl := B.ev_gSeq
@[simp ↓] theorem ev_ite {c : Prop} [Decidable c] {f g : M α} {Q : α → Env → Prop} : Ev (if c then f else g) ρ Q ↔ if c then Ev f ρ Q else Ev g ρ Q := B.ev_ite
@[simp ↓] theorem ev_gIf {c : M Bool} {g1 g2 : M Fl} {Q : Fl → Env → Prop} : Ev (gIf c g1 g2) ρ Q ↔ Ev c ρ fun b ρ1 => if b = true then Ev g1 ρ1 Q else Ev g2 ρ1 Q := B.ev_gIf
def envQ (Q : Env → Prop) [Fx Q] (o0 : Option Env) : Prop := B.envQ Q o0
@[simp] theorem envQ_s {Q : Env → Prop} : envQ Q (some ρ) = Q ρ := B.envQ_s
@[simp] theorem envQ_n {Q : Env → Prop} : envQ Q none = False := B.envQ_n
@[simp] theorem envQ_ite {Q : Env → Prop} {c : Prop} [Decidable c] {o : Option Env} : envQ Q (if c then o else none) ↔ c ∧ envQ Q o := B.envQ_ite
@[simp ↓] theorem ev_gAsg {t : D → Env → Option Env} {f : M Rs} {Q : Fl → Env → Prop} : Ev (gAsg t f) ρ Q ↔ Ev f ρ fun r ρ1 => Ev (freezeR r) ρ1 fun d ρ2 => envQ (fun ρ3 => Q .nx ρ3) (t d ρ2) := B.ev_gAsg
@[simp ↓] theorem ev_freeze_p {d : D} {Q : D → Env → Prop} : Ev (freezeR (.own (.p d))) ρ Q ↔ Q d ρ := B.ev_freeze_p
@[simp ↓] theorem ev_freeze_ml {t : Option Nat} {l : List D} {Q : D → Env → Prop} : Ev (freezeR (.own (.ml t l))) ρ Q ↔ Q (.list l) ρ := B.ev_freeze_ml
def freezeQ (i : Nat) (ρ : Env) (Q : D → Env → Prop) [Fx Q] (o0 : Option (Option Sl)) : Prop := B.freezeQ i ρ Q o0
@[simp] theorem freezeQ_ml {i : Nat} {Q : D → Env → Prop} {l : List D} : freezeQ i ρ Q (some (some (.ml none l))) = Q (.list l) (ρ.set i (some (.p (.list l)))) := B.freezeQ_ml
@[simp] theorem freezeQ_p {i : Nat} {Q : D → Env → Prop} {d : D} : freezeQ i ρ Q (some (some (.p d))) = Q d ρ := B.freezeQ_p
@[simp ↓] theorem ev_freeze_bor {i : Nat} {Q : D → Env → Prop} : Ev (freezeR (.bor i)) ρ Q ↔ freezeQ i ρ Q ρ[i]? := B.ev_freeze_bor
def argQ (Q : List Sl → Prop) [Fx Q] (o0 : Option (List Sl)) : Prop := B.argQ Q o0
@[simp] theorem argQ_s {Q : List Sl → Prop} {ss : List Sl} : argQ Q (some ss) = Q ss := B.argQ_s
@[simp] theorem argQ_n {Q : List Sl → Prop} : argQ Q none = False := B.argQ_n
@[simp ↓] theorem ev_opCall {n : Nat} {F : List Sl → Option (Sl × List Sl)} {rs : List Rs} {Q : Rs → Env → Prop} : Ev (opCall n F rs) ρ Q ↔ (rs.length = n ∧ (bors rs).Nodup) ∧ argQ (fun ss => Sp F ss fun r ss' => Q (.own r) (wb rs ss' ρ)) (argS rs ρ) := B.ev_opCall
/-! x[i] = e -/
def ixQ (Q : Nat → Prop) [Fx Q] (o0 : Option Nat) : Prop := B.ixQ Q o0
def subQ (j : Nat) (d : D) (ρ : Env) (Q : Fl → Env → Prop) [Fx Q] (o0 : Option (Option Sl)) (o1 : Option D) : Prop := B.subQ j d ρ Q o0 o1
@[simp] theorem ixQ_s {Q : Nat → Prop} {q : Nat} : ixQ Q (some q) = Q q := B.ixQ_s
@[simp] theorem subQ_ml {j : Nat} {d : D} {Q : Fl → Env → Prop} {t : Option Nat} {l : List D} {k : Int} : subQ j d ρ Q (some (some (.ml t l))) (some (.int k)) = ixQ (fun q => Q .nx (ρ.set j (some (.ml t (l.set q d))))) (ixN l.length k) := B.subQ_ml
@[simp ↓] theorem ev_setSub {j : Nat} {i : Rs} {d : D} {Q : Fl → Env → Prop} : Ev (setSub (.bor j) i d) ρ Q ↔ subQ j d ρ Q ρ[j]? (i.view ρ) := B.ev_setSub
@[simp ↓] theorem ev_gSub {f fo fi : M Rs} {Q : Fl → Env → Prop} : Ev (gSub f fo fi) ρ Q ↔ Ev f ρ fun r ρ1 => Ev (freezeR r) ρ1 fun d ρ2 => Ev fo ρ2 fun o ρ3 => Ev fi ρ3 fun i ρ4 => Ev (setSub o i d) ρ4 Q := B.ev_gSub
/-! methods -/
@[simp ↓] theorem ev_meth {T : String} {fo : M Rs} {fa : M (List Rs)} {op : List Rs → M Rs} {Q : Rs → Env → Prop} : Ev (eMeth T fo fa op) ρ Q ↔ Ev fo ρ fun o ρ1 => kQ (Ev fa ρ1 fun rs ρ2 => Ev (op (o :: rs)) ρ2 Q) (kindOk T (o.view ρ1)) := B.ev_meth
def l1Q (j : Nat) (ρ : Env) (f : List D → List D → Option (D × List D)) (ds : List D) (Q : Rs → Env → Prop) [Fx Q] (o0 : Option (Option Sl)) : Prop := B.l1Q j ρ f ds Q o0
def prQ (Q : D → List D → Prop) [Fx Q] (o0 : Option (D × List D)) : Prop := B.prQ Q o0
@[simp] theorem prQ_s {Q : D → List D → Prop} {d : D} {l : List D} : prQ Q (some (d, l)) = Q d l := B.prQ_s
@[simp] theorem prQ_n {Q : D → List D → Prop} : prQ Q none = False := B.prQ_n
@[simp] theorem prQ_ite {Q : D → List D → Prop} {c : Prop} [Decidable c] {o : Option (D × List D)} : prQ Q (if c then o else none) ↔ c ∧ prQ Q o := B.prQ_ite
@[simp] theorem l1Q_ml {j : Nat} {f : List D → List D → Option (D × List D)} {ds : List D} {Q : Rs → Env → Prop} {t : Option Nat} {l : List D} : l1Q j ρ f ds Q (some (some (.ml t l))) = prQ (fun d l' => Q (.own (.p d)) (ρ.set j (some (.ml t l')))) (f l ds) := B.l1Q_ml
@[simp ↓] theorem ev_opL1 {f : List D → List D → Option (D × List D)} {j : Nat} {rest : List Rs} {Q : Rs → Env → Prop} : Ev (opL1 f (.bor j :: rest)) ρ Q ↔ Ev (freezeAll rest) ρ fun ds ρ1 => l1Q j ρ1 f ds Q ρ1[j]? := B.ev_opL1
@[simp ↓] theorem ev_append {j : Nat} {rest : List Rs} {Q : Rs → Env → Prop} : Ev (o_append1 (.bor j :: rest)) ρ Q ↔ Ev (freezeAll rest) ρ fun ds ρ1 => l1Q j ρ1 fAppend ds Q ρ1[j]? := B.ev_append
@[simp ↓] theorem ev_pop0 {j : Nat} {rest : List Rs} {Q : Rs → Env → Prop} : Ev (o_pop0 (.bor j :: rest)) ρ Q ↔ Ev (freezeAll rest) ρ fun ds ρ1 => l1Q j ρ1 fPop0 ds Q ρ1[j]? := B.ev_pop0
@[simp ↓] theorem ev_pop1 {j : Nat} {rest : List Rs} {Q : Rs → Env → Prop} : Ev (o_pop1 (.bor j :: rest)) ρ Q ↔ Ev (freezeAll rest) ρ fun ds ρ1 => l1Q j ρ1 fPop1 ds Q ρ1[j]? := B.ev_pop1
/-! x += e -/
def augQ (f : Int → Int → Int) (i : Nat) (fe : M Rs) (ρ : Env) (Q : Fl → Env → Prop) [Fx Q] (o0 : Option (Option Sl)) : Prop := B.augQ f i fe ρ Q o0
@[simp] theorem augQ_i {f : Int → Int → Int} {i : Nat} {fe : M Rs} {Q : Fl → Env → Prop} {x : Int} : augQ f i fe ρ Q (some (some (.p (.int x)))) = Ev fe ρ fun r ρ1 => intQ ρ1 (fun o ρ2 => match o with
    | some y => i < ρ2.length ∧ Q .nx (ρ2.set i (some (.p (.int (f x y)))))
    | none => False) (r.view ρ1) := B.augQ_i
@[simp ↓] theorem ev_aug {f : Int → Int → Int} {i : Nat} {fe : M Rs} {Q : Fl → Env → Prop} : Ev (gAugI f i fe) ρ Q ↔ augQ f i fe ρ Q ρ[i]? := B.ev_aug
/-! chains -/
@[simp ↓] theorem ev_chain {fa fb fc : M Rs} {op op' : List Rs → M Rs} {Q : Rs → Env → Prop} : Ev (eChain fa fb fc op op') ρ Q ↔ Ev fa ρ fun x ρ1 => Ev fb ρ1 fun y ρ2 => Ev (match y with
  | .own (.p d) => M.bind (mTest (op [x, .own (.p d)])) fun b => if b = true then M.bind fc fun z => op' [.own (.p d), z] else eC (.bool false)
  | _ => M.fail) ρ2 Q := B.ev_chain
end
def endQ (ss : List Sl) (Q : Sl → List Sl → Prop) [Fx Q] (ρ : Env) (o0 : Fl) : Prop := B.endQ ss Q ρ o0
@[simp ↓] theorem endQ_rt {ss : List Sl} {Q : Sl → List Sl → Prop} {ρ : Env} {s : Sl} : endQ ss Q ρ (.rt s) = argQ (fun ss' => Q s ss') (endE 0 ss ρ) := B.endQ_rt
@[simp ↓] theorem endQ_nx {ss : List Sl} {Q : Sl → List Sl → Prop} {ρ : Env} : endQ ss Q ρ .nx = argQ (fun ss' => Q (.p .none) ss') (endE 0 ss ρ) := B.endQ_nx
theorem sp_mkF {m : Nat} {g : M Fl} {ss : List Sl} {Q : Sl → List Sl → Prop} : Sp (mkF m g) ss Q ↔ Ev g (startE m ss) fun fl ρ' => endQ ss Q ρ' fl := B.sp_mkF
/-! what the operations are -/
section
variable {a b i j : Int} {x y : Str} {l m : List D} {d e : D} {p q : Bool}
section
variable {d1 d2 d3 d4 d5 d6 d7 d8 d9 : D}
end
end
/-- * -/
@[simp ↓] theorem ev_mul {a b : Int} {ρ : Env} {Q : Rs → Env → Prop} : Ev (oMul [.own (.p (.int a)), .own (.p (.int b))]) ρ Q ↔ CMulW a b ∧ Q (.own (.p (.int (a * b)))) ρ := B.ev_mul
@[simp ↓] theorem ev_mulL {t : Option Nat} {l : List D} {k : Int} {ρ : Env} {Q : Rs → Env → Prop} : Ev (oMul [.own (.ml t l), .own (.p (.int k))]) ρ Q ↔ (-(2 ^ 63) ≤ k ∧ k < 2 ^ 63 ∧ l.length * k.toNat ≤ sizeLine) ∧ Q (.own (.ml none (List.replicate k.toNat l).flatten)) ρ := B.ev_mulL
/-- * of ints -/
theorem ev_mulI {a b : Int} {ρ : Env} {Q : Rs → Env → Prop} (h : CMulW a b) (q : Q (.own (.p (.int (a * b)))) ρ) : Ev (oMul [.own (.p (.int a)), .own (.p (.int b))]) ρ Q := B.ev_mulI h q
/-! loops -/
/-- a loop by what holds between its turns -/
theorem ev_loop_inv {t : D → Env → Option Env} {body : M Fl} {Q : Fl → Env → Prop} (all : List D) (I : List D → Env → Prop)
    (hs : ∀ done d r ρ, all = done ++ d :: r → I done ρ → envQ (fun ρ1 => Ev body ρ1 fun fl ρ2 => (fl = .nx ∨ fl = .ct) ∧ I (done ++ [d]) ρ2) (t d ρ)) (hd : ∀ ρ', I all ρ' → Q .nx ρ') :
    ∀ (rest done : List D) (ρ : Env), all = done ++ rest → I done ρ → Ev (loopD t body rest) ρ Q := B.ev_loop_inv all I hs hd
/-- the same, from the start -/
theorem ev_loop {t : D → Env → Option Env} {body : M Fl} {Q : Fl → Env → Prop} {l : List D} {ρ : Env} (I : List D → Env → Prop) (h0 : I [] ρ)
    (hs : ∀ done d r ρ, l = done ++ d :: r → I done ρ → envQ (fun ρ1 => Ev body ρ1 fun fl ρ2 => (fl = .nx ∨ fl = .ct) ∧ I (done ++ [d]) ρ2) (t d ρ)) (hd : ∀ ρ', I l ρ' → Q .nx ρ') : Ev (loopD t body l) ρ Q := B.ev_loop I h0 hs hd
@[simp ↓] theorem ev_for {src : M (List D)} {t : D → Env → Option Env} {body : M Fl} {ρ : Env} {Q : Fl → Env → Prop} : Ev (gFor src t body) ρ Q ↔ Ev src ρ fun l ρ1 => Ev (loopD t body l) ρ1 Q := B.ev_for
/-- one turn more of a written loop -/
@[simp ↓] theorem ev_loop_nil {t : D → Env → Option Env} {body : M Fl} {ρ : Env} {Q : Fl → Env → Prop} : Ev (loopD t body []) ρ Q ↔ Q .nx ρ := B.ev_loop_nil
def turnQ (t : D → Env → Option Env) (body : M Fl) (l : List D) (Q : Fl → Env → Prop) [Fx Q] (ρ : Env) (o0 : Fl) : Prop := B.turnQ t body l Q ρ o0
@[simp ↓] theorem turnQ_nx {t : D → Env → Option Env} {body : M Fl} {l : List D} {Q : Fl → Env → Prop} {ρ : Env} : turnQ t body l Q ρ .nx = Ev (loopD t body l) ρ Q := B.turnQ_nx
@[simp ↓] theorem turnQ_ct {t : D → Env → Option Env} {body : M Fl} {l : List D} {Q : Fl → Env → Prop} {ρ : Env} : turnQ t body l Q ρ .ct = Ev (loopD t body l) ρ Q := B.turnQ_ct
@[simp ↓] theorem turnQ_bk {t : D → Env → Option Env} {body : M Fl} {l : List D} {Q : Fl → Env → Prop} {ρ : Env} : turnQ t body l Q ρ .bk = Q .nx ρ := B.turnQ_bk
@[simp ↓] theorem turnQ_rt {t : D → Env → Option Env} {body : M Fl} {l : List D} {Q : Fl → Env → Prop} {ρ : Env} {s : Sl} : turnQ t body l Q ρ (.rt s) = Q (.rt s) ρ := B.turnQ_rt
theorem ev_loop_cons {t : D → Env → Option Env} {body : M Fl} {d : D} {l : List D} {ρ : Env} {Q : Fl → Env → Prop} : Ev (loopD t body (d :: l)) ρ Q ↔ envQ (fun ρ1 => Ev body ρ1 fun fl ρ2 => turnQ t body l Q ρ2 fl) (t d ρ) := B.ev_loop_cons
/-! what is walked -/
def seqQ (ρ : Env) (Q : List D → Env → Prop) [Fx Q] (o0 : D) : Prop := B.seqQ ρ Q o0
@[simp] theorem seqQ_l {ρ : Env} {Q : List D → Env → Prop} {l : List D} : seqQ ρ Q (.list l) = Q l ρ := B.seqQ_l
@[simp] theorem seqQ_t {ρ : Env} {Q : List D → Env → Prop} {l : List D} : seqQ ρ Q (.tuple l) = Q l ρ := B.seqQ_t
@[simp] theorem seqQ_s {ρ : Env} {Q : List D → Env → Prop} {z : Str} : seqQ ρ Q (.str z) = Q (strSigns z) ρ := B.seqQ_s
@[simp ↓] theorem ev_mSeq {f : M Rs} {ρ : Env} {Q : List D → Env → Prop} : Ev (mSeq f) ρ Q ↔ Ev f ρ fun r ρ1 => Ev (freezeR r) ρ1 fun d ρ2 => seqQ ρ2 Q d := B.ev_mSeq
def rng1Q (ρ : Env) (Q : List D → Env → Prop) [Fx Q] (o0 : Option (List D)) : Prop := B.rng1Q ρ Q o0
@[simp] theorem rng1Q_i {ρ : Env} {Q : List D → Env → Prop} {j : Int} : rng1Q ρ Q (some [.int j]) = ((-(2 ^ 62) ≤ j ∧ j < 2 ^ 62) ∧ Q (rngD 0 j.toNat) ρ) := B.rng1Q_i
@[simp ↓] theorem ev_rng1 {f : M (List Rs)} {ρ : Env} {Q : List D → Env → Prop} : Ev (mRng1 f) ρ Q ↔ Ev f ρ fun rs ρ1 => rng1Q ρ1 Q (viewAll rs ρ1) := B.ev_rng1
def rng2Q (ρ : Env) (Q : List D → Env → Prop) [Fx Q] (o0 : Option (List D)) : Prop := B.rng2Q ρ Q o0
@[simp] theorem rng2Q_i {ρ : Env} {Q : List D → Env → Prop} {i j : Int} : rng2Q ρ Q (some [.int i, .int j]) = ((-(2 ^ 62) ≤ i ∧ i < 2 ^ 62 ∧ -(2 ^ 62) ≤ j ∧ j < 2 ^ 62) ∧ Q (rngD i (j - i).toNat) ρ) := B.rng2Q_i
@[simp ↓] theorem ev_rng2 {f : M (List Rs)} {ρ : Env} {Q : List D → Env → Prop} : Ev (mRng2 f) ρ Q ↔ Ev f ρ fun rs ρ1 => rng2Q ρ1 Q (viewAll rs ρ1) := B.ev_rng2
/-- a while by a measure -/
theorem ev_while_inv {c : M Bool} {body : M Fl} {Q : Fl → Env → Prop} (I : Nat → Env → Prop)
    (hs : ∀ m ρ, I m ρ → Ev c ρ fun b ρ1 => if b = true then 0 < m ∧ Ev body ρ1 (fun fl ρ2 => (fl = .nx ∨ fl = .ct) ∧ ∃ m', m' < m ∧ I m' ρ2) else Q .nx ρ1) :
    ∀ (n m : Nat) (ρ : Env), m < n → I m ρ → Ev (whileD c body n) ρ Q := B.ev_while_inv I hs
theorem ev_while {c : M Bool} {body : M Fl} {ρ : Env} {Q : Fl → Env → Prop} (I : Nat → Env → Prop) (m : Nat) (hm : m < fuel) (h0 : I m ρ)
    (hs : ∀ m ρ, I m ρ → Ev c ρ fun b ρ1 => if b = true then 0 < m ∧ Ev body ρ1 (fun fl ρ2 => (fl = .nx ∨ fl = .ct) ∧ ∃ m', m' < m ∧ I m' ρ2) else Q .nx ρ1) : Ev (gWhile c body) ρ Q := B.ev_while I m hm h0 hs
/-! comprehensions -/
@[simp ↓] theorem ev_lc {src : M (List D)} {own : List Nat} {t : D → Env → Option Env} {tt : M Bool} {te : M Rs} {ρ : Env} {Q : Rs → Env → Prop} :
    Ev (eLc src own t tt te) ρ Q ↔ Ev src ρ fun l ρ0 => plainAt ρ0 own = true ∧ Ev (compD own t tt te l []) ρ0 fun acc ρ1 => Q (.own (.ml none acc)) (backE ρ0 (wipeE ρ1 own) own) := B.ev_lc
@[simp ↓] theorem ev_yes {ρ : Env} {Q : Bool → Env → Prop} : Ev tYes' ρ Q ↔ Q true ρ := B.ev_yes
/-- a comprehension by what holds between its turns -/
theorem ev_comp_inv {own : List Nat} {t : D → Env → Option Env} {tt : M Bool} {te : M Rs} {Q : List D → Env → Prop} (all : List D) (I : List D → List D → Env → Prop)
    (hs : ∀ done d r acc ρ, all = done ++ d :: r → I done acc ρ → envQ (fun ρ1 => Ev tt ρ1 fun b ρ2 => if b = true then Ev te ρ2 fun r ρ3 => Ev (freezeR r) ρ3 fun y ρ4 => acc.length < sizeLine ∧ I (done ++ [d]) (acc ++ [y]) ρ4 else I (done ++ [d]) acc ρ2) (t d (wipeE ρ own)))
    (hd : ∀ acc ρ', I all acc ρ' → Q acc ρ') : ∀ (rest done acc : List D) (ρ : Env), all = done ++ rest → I done acc ρ → Ev (compD own t tt te rest acc) ρ Q := B.ev_comp_inv all I hs hd
theorem ev_comp {own : List Nat} {t : D → Env → Option Env} {tt : M Bool} {te : M Rs} {Q : List D → Env → Prop} {l : List D} {ρ : Env} (I : List D → List D → Env → Prop) (h0 : I [] [] ρ)
    (hs : ∀ done d r acc ρ, l = done ++ d :: r → I done acc ρ → envQ (fun ρ1 => Ev tt ρ1 fun b ρ2 => if b = true then Ev te ρ2 fun r ρ3 => Ev (freezeR r) ρ3 fun y ρ4 => acc.length < sizeLine ∧ I (done ++ [d]) (acc ++ [y]) ρ4 else I (done ++ [d]) acc ρ2) (t d (wipeE ρ own)))
    (hd : ∀ acc ρ', I l acc ρ' → Q acc ρ') : Ev (compD own t tt te l []) ρ Q := B.ev_comp I h0 hs hd
end Pd


set_option Elab.async false
set_option linter.all false
set_option maxRecDepth 100000
set_option maxHeartbeats 1000000
namespace Pd
open PySem PySem.Spec PyProof.Rows L2

/-! ### enumerate, zip -/
def enumD (l : List D) : List D := l.mapIdx fun i d => .tuple [.int (i : Nat), d]
def zipD (l m : List D) : List D := l.zipWith (fun d e => .tuple [d, e]) m
theorem jok_new {K : PySem.W.Frag} {B2 H2 : Hp} {T : Addr} {vs : List V} {ds : List D} (s2 : Same B2 H2) (hT : H2 T = none) (hd : DpAll K B2 vs ds) :
    ∃ B3, Fr B2 H2 (fun _ => False) B3 (upd H2 T (.tup vs)) (fun _ => False) ∧ Same B3 (upd H2 T (.tup vs)) ∧ Dp K B3 (.ref T) (.tuple ds) := by
  have fr := Fr.new (o := HO.tup vs) hT s2
  exact ⟨_, fr, same_upd s2, .tup (Or.inl (Or.inl upd_same)) (DpAll.mono fr.bb hd)⟩
theorem jok_enum {K : PySem.W.Frag} {B : Hp} {a : Addr} {xs : List V} {l : List D} (h1 : SqL K B a xs) (h2 : DpAll K B xs l) : JOk K B (Ite K a) (enumD l) := fun B2 H2 s1 s2 i => by
  have hq : SqL K H2 a xs := sql_mono (s1.trans s2) h1
  unfold enumD
  refine ⟨fun d hd => ?_, fun hl => ⟨xs, hq, by rw [DpAll.length h2]; have hl := Nat.le_of_eq hl; simpa using hl⟩⟩
  rw [List.getElem?_mapIdx] at hd
  cases e0 : l[i]? with
  | none => rw [e0] at hd; cases hd
  | some d0 =>
    rw [e0] at hd
    cases hd
    obtain ⟨v, e1, e2⟩ := DpAll.get h2 e0
    refine ⟨⟨xs, v, hq, e1⟩, fun x H3 q => ?_⟩
    obtain ⟨T, y, rfl, hT, rfl, q⟩ := q
    have := q xs hq
    rw [e1] at this
    cases this
    exact jok_new s2 hT (.cons (.int _) (.cons (Dp.mono s1 e2) .nil))
theorem zipD_get {l m : List D} {i : Nat} {d : D} (h : (zipD l m)[i]? = some d) : ∃ x y, l[i]? = some x ∧ m[i]? = some y ∧ d = .tuple [x, y] := by
  unfold zipD at h
  rw [List.getElem?_zipWith] at h
  cases e1 : l[i]? with
  | none => rw [e1] at h; cases h
  | some x =>
    cases e2 : m[i]? with
    | none => rw [e1, e2] at h; cases h
    | some y => rw [e1, e2] at h; cases h; exact ⟨x, y, rfl, rfl, rfl⟩
theorem jok_zip {K : PySem.W.Frag} {B : Hp} {a b : Addr} {xs ys : List V} {l m : List D} (h1 : SqL K B a xs) (h2 : DpAll K B xs l) (h3 : SqL K B b ys) (h4 : DpAll K B ys m) : JOk K B (Itz K a b) (zipD l m) := fun B2 H2 s1 s2 i => by
  have hq : SqL K H2 a xs := sql_mono (s1.trans s2) h1
  have hp : SqL K H2 b ys := sql_mono (s1.trans s2) h3
  refine ⟨fun d hd => ?_, fun hl => ⟨xs, ys, hq, hp, by rw [DpAll.length h2, DpAll.length h4]; unfold zipD at hl; rw [List.length_zipWith] at hl; omega⟩⟩
  obtain ⟨d0, d1, e0, e0', rfl⟩ := zipD_get hd
  obtain ⟨v, e1, e2⟩ := DpAll.get h2 e0
  obtain ⟨w, e3, e4⟩ := DpAll.get h4 e0'
  refine ⟨⟨xs, ys, v, w, hq, hp, e1, e3⟩, fun x H3 q => ?_⟩
  obtain ⟨T, y, z, rfl, hT, rfl, q1, q2⟩ := q
  have t1 := q1 xs hq
  have t2 := q2 ys hp
  rw [e1] at t1
  rw [e3] at t2
  cases t1
  cases t2
  exact jok_new s2 hT (.cons (Dp.mono s1 e2) (.cons (Dp.mono s1 e4) .nil))
theorem jok_zipT {K : PySem.W.Frag} {B : Hp} {a b : Addr} {xs ys : List V} {l m : List D} (h1 : SqT K B a xs) (h2 : DpAll K B xs l) (h3 : SqT K B b ys) (h4 : DpAll K B ys m) : JOk K B (RZ.ItzT K a b) (zipD l m) := fun B2 H2 s1 s2 i => by
  have hq : SqT K H2 a xs := sqt_mono (s1.trans s2) h1
  have hp : SqT K H2 b ys := sqt_mono (s1.trans s2) h3
  refine ⟨fun d hd => ?_, fun hl => ⟨xs, ys, hq, hp, by rw [DpAll.length h2, DpAll.length h4]; unfold zipD at hl; rw [List.length_zipWith] at hl; omega⟩⟩
  obtain ⟨d0, d1, e0, e0', rfl⟩ := zipD_get hd
  obtain ⟨v, e1, e2⟩ := DpAll.get h2 e0
  obtain ⟨w, e3, e4⟩ := DpAll.get h4 e0'
  refine ⟨⟨xs, ys, v, w, hq, hp, e1, e3⟩, fun x H3 q => ?_⟩
  obtain ⟨T, y, z, rfl, hT, rfl, q1, q2⟩ := q
  have t1 := q1 xs hq
  have t2 := q2 ys hp
  rw [e1] at t1
  rw [e3] at t2
  cases t1
  cases t2
  exact jok_new s2 hT (.cons (Dp.mono s1 e2) (.cons (Dp.mono s1 e4) .nil))
def mEnum (f : M (List Rs)) : M (List D) := M.bind f fun rs => M.bind (freezeAll rs) fun ds ρ => match ds with
  | [.list l] => some (.ok (enumD l) ρ)
  | _ => none
def mZip2 (f : M (List Rs)) : M (List D) := M.bind f fun rs => M.bind (freezeAll rs) fun ds ρ => match ds with
  | [.list l, .list m] => some (.ok (zipD l m) ρ)
  | [.tuple l, .tuple m] => some (.ok (zipD l m) ρ)
  | _ => none
section
variable {X : Cx} {vs0 : List V} {elts : List Expr} {kk : Nat} {tpos : Pos}
theorem di_enum {e : Expr} {fa : M (List Rs)} {p pos : Pos} (hg : Gl X "enumerate") (hm : X.mg "enumerate" = none) (ha : PA X [e] (rdA X.K vs0 fa)) (hs : starEach [e] X.env = [(false, eval e X.env)] := by rfl) :
    PI X (.Tuple elts kk tpos) (.Call (.Name "enumerate" p) [e] [] pos) (rdI X.K vs0 (mEnum fa)) := PI.imp (pi_enum hg hm ha hs) fun σ H R q => by
  obtain ⟨B, ρ, fs, g, l, ρ', e1, k⟩ := q
  obtain ⟨rs, ρ1, e2, e3⟩ := M.bind_ok e1
  obtain ⟨ds, ρ2, e4, e5⟩ := M.bind_ok e3
  split at e5
  · rename_i l0
    cases e5
    refine ⟨B, ρ, fs, g, rs, ρ1, e2, fun vs B1 H1 fs1 Ts fr g1 ok nd => ?_⟩
    obtain ⟨B2, fs2, fr2, g2, d2⟩ := freezeAll_ok g1 ok nd e4
    cases d2 with
    | cons d2 d3 =>
      cases d3
      cases d2 with
      | lst h1 h2 => exact ⟨_, _, rfl, sql_mono g2.ext h1, k _ B2 H1 fs2 (fr.trans fr2) g2 (jok_enum h1 h2)⟩
  · cases e5
theorem di_zip2 {e e' : Expr} {fa : M (List Rs)} {p pos : Pos} (hg : Gl X "zip") (hm : X.mg "zip" = none) (ha : PA X [e, e'] (rdA X.K vs0 fa)) (hs : starEach [e, e'] X.env = (false, eval e X.env) :: starEach [e'] X.env := by rfl) (hpl : (backTo pos (starEach [e'] X.env)).any (·.1) = false := by rfl) :
    PI X (.Tuple elts kk tpos) (.Call (.Name "zip" p) [e, e'] [] pos) (rdI X.K vs0 (mZip2 fa)) := PI.imp (RZ.pi_zipA hg hm ha hs hpl) fun σ H R q => by
  obtain ⟨B, ρ, fs, g, l, ρ', e1, k⟩ := q
  obtain ⟨rs, ρ1, e2, e3⟩ := M.bind_ok e1
  obtain ⟨ds, ρ2, e4, e5⟩ := M.bind_ok e3
  split at e5
  · cases e5
    refine ⟨B, ρ, fs, g, rs, ρ1, e2, fun vs B1 H1 fs1 Ts fr g1 ok nd => ?_⟩
    obtain ⟨B2, fs2, fr2, g2, d2⟩ := freezeAll_ok g1 ok nd e4
    cases d2 with
    | cons d2 d3 =>
      cases d3 with
      | cons d3 d4 =>
        cases d4
        cases d2 with
        | lst h1 h2 =>
          cases d3 with
          | lst h3 h4 => exact ⟨_, _, _, _, rfl, Or.inl ⟨sql_mono g2.ext h1, sql_mono g2.ext h3, k _ B2 H1 fs2 (fr.trans fr2) g2 (jok_zip h1 h2 h3 h4)⟩⟩
  · cases e5
    refine ⟨B, ρ, fs, g, rs, ρ1, e2, fun vs B1 H1 fs1 Ts fr g1 ok nd => ?_⟩
    obtain ⟨B2, fs2, fr2, g2, d2⟩ := freezeAll_ok g1 ok nd e4
    cases d2 with
    | cons d2 d3 =>
      cases d3 with
      | cons d3 d4 =>
        cases d4
        cases d2 with
        | tup h1 h2 =>
          cases d3 with
          | tup h3 h4 => exact ⟨_, _, _, _, rfl, Or.inr ⟨sqt_mono g2.ext h1, sqt_mono g2.ext h3, k _ B2 H1 fs2 (fr.trans fr2) g2 (jok_zipT h1 h2 h3 h4)⟩⟩
  · cases e5
end
/-! ### text times int -/
def pMulS : List D → Option Rd'
  | [.str z, .int k] => if 0 ≤ k ∧ k ≤ 1000 ∧ z.length ≤ 1000 then some (.pd (.str (PySem.Txt.mul z k))) else none
  | _ => none
theorem mulOk_small {x : Str} {n : Int} (h0 : 0 ≤ n) (h1 : n ≤ 1000) (h2 : x.length ≤ 1000) : PySem.MulOk x n := by
  have hm : (x.length : Int) * n ≤ 1000 * 1000 := Int.mul_le_mul (by omega) h1 h0 (by omega)
  have hn : x.length * n.toNat ≤ 1000 * 1000 := Nat.mul_le_mul h2 (by omega)
  refine ⟨by rw [decide_eq_false (by omega), decide_eq_false (by omega)]; rfl, fun p _ => ?_, fun p _ => ?_⟩
  · have := Int.le_ediv_of_mul_le (a := (x.length : Int)) (b := 2 ^ 63 - 1) (c := n) (by omega) (by omega)
    omega
  · exact decide_eq_false (by have : sizeLine = 16777216 := rfl; omega)
def rMulS : R2 := fun x y H Q => ∃ (z : Str) (k : Int), x = .str z ∧ y = .int k ∧ (0 ≤ k ∧ k ≤ 1000 ∧ z.length ≤ 1000) ∧ Q (.str (PySem.Txt.mul z k)) H
theorem op_mulS {X : Cx} : OpR X (binaryOp .Mult) rMulS := by
  intro pins s σ H x y v u Q I rx ry h
  obtain ⟨i, j, rfl, rfl, hz, q⟩ := h
  obtain ⟨t, rfl⟩ := rx
  obtain ⟨t', rfl⟩ := ry
  refine PySem.SB.mul (mulOk_small hz.1 hz.2.1 hz.2.2) (fun t' tk => ⟨.str _, H, I.tok _, ⟨_, rfl⟩, q⟩)
theorem oMulS_ok {K : PySem.W.Frag} : OpOk K (r2 rMulS) (opG pMulS) := opG_ok fun B H vs ds res Q e hs hp k => by
  unfold pMulS at hp
  split at hp
  · split at hp
    · rename_i hc
      obtain ⟨x, y, rfl, h1, h2⟩ := hs.two
      cases hp
      cases h1
      exact ⟨_, _, rfl, _, _, rfl, h2.int, hc, k.str e⟩
    · cases hp
  · cases hp
/-- * of every kind -/
def oMul2 : List Rs → M Rs := fun rs ρ => match oMul rs ρ with
  | some x => some x
  | none => opG pMulS rs ρ
abbrev rMul2 : R2 := fun x y H Q => rMulAll x y H Q ∨ rMulS x y H Q
theorem op_mul2 {X : Cx} : OpR X (binaryOp .Mult) rMul2 := OpR.or op_mulAll op_mulS
theorem oMul2_ok {K : PySem.W.Frag} : OpOk K (r2 rMul2) oMul2 := fun vs0 σ B H ρ fs vs rs Ts Q g ok nd r' ρ' e k =>
  r2_or.mpr ((OpOk.or (oMul_ok (K := K)) oMulS_ok) vs0 σ B H ρ fs vs rs Ts Q g ok nd r' ρ' e k)
end Pd

set_option Elab.async false
set_option linter.all false
set_option maxRecDepth 100000
set_option maxHeartbeats 1000000
namespace Pd
open PySem PySem.Spec PyProof.Rows L2 HT
/-! ### [::-1] of a list and of a tuple -/
section
variable {prog : Program} {w : World} {A : Around} {E : Value → Shared → Prop} {s : Shared}
theorem places_rev (n : Nat) : Builtin.Slice.slicePlaces ((n : Int) - 1) (-1) (-1) = n := by
  unfold Builtin.Slice.slicePlaces
  have h1 : ¬ ((-1 : Int) > 0) := by omega
  simp only [h1, if_false, Int.neg_neg, Int.ediv_one]
  split <;> omega
theorem adjust_rev (n : Nat) : Builtin.Slice.sliceAdjust none none (-1) (n : Int) = ((n : Int) - 1, -1) := by
  unfold Builtin.Slice.sliceAdjust
  rfl
theorem sliceApplied_rev {sl : Addr} {vl vu vs : Value} {n : Nat} {Q : Int × Int × Nat → Shared → Prop} (hs : s.heap.IsSliceOf sl vl vu vs) (pl : IsPart vl none) (pu : IsPart vu none) (ps : IsPart vs (some (-1)))
    (h : Q ((n : Int) - 1, -1, n) s) : wpAny (model prog w) A (Builtin.Slice.sliceApplied (.ref sl) (pure (n : Int))) Q E s := by
  obtain ⟨os, hos, hcs, hds⟩ := id hs
  unfold Builtin.Slice.sliceApplied Builtin.Slice.sliceFields
  refine wpAny_bind (wpAny_bind (wpAny_field hos hds (x := vl) rfl (wpAny_bind (wpAny_field hos hds (x := vu) rfl (wpAny_bind (wpAny_field hos hds (x := vs) rfl (wpAny_pure ?_)))))))
  refine wpAny_bind (slicePart_ ps ?_)
  show wpAny _ _ (if ((-1 : Int) == 0) = true then _ else _) _ _ s
  rw [if_neg (by decide)]
  refine wpAny_bind (slicePart_ pl (wpAny_bind (slicePart_ pu (wpAny_bind (wpAny_pure ?_)))))
  show wpAny _ _ (match Builtin.Slice.sliceAdjust none none (-1) (n : Int) with | (lo, hi) => pure (lo, (-1 : Int), Builtin.Slice.slicePlaces lo hi (-1))) _ _ s
  rw [adjust_rev n]
  show wpAny _ _ (pure ((n : Int) - 1, (-1 : Int), Builtin.Slice.slicePlaces ((n : Int) - 1) (-1) (-1))) _ _ s
  rw [places_rev]
  exact wpAny_pure h
theorem fm_some {α β : Type} {f : α → Option β} {g : α → β} : ∀ {l : List α}, (∀ m ∈ l, f m = some (g m)) → l.filterMap f = l.map g
  | [], _ => rfl
  | a :: l, h => by
    rw [List.filterMap_cons, h a (by simp), List.map_cons, fm_some (l := l) fun m hm => h m (by simp [hm])]
theorem pick_rev (xs : Array Value) : ((List.range xs.size).filterMap fun (m : Nat) => xs[(((xs.size : Int) - 1) + (m : Int) * (-1)).toNat]?).toArray = xs.toList.reverse.toArray := by
  have e : (List.range xs.size).filterMap (fun (m : Nat) => xs[(((xs.size : Int) - 1) + (m : Int) * (-1)).toNat]?) = (List.range xs.size).map fun m => xs.toList.reverse.getD m .none := by
    refine fm_some fun m hm => ?_
    rw [List.mem_range] at hm
    have e1 : ((((xs.size : Int) - 1) + (m : Int) * (-1)).toNat) = xs.size - 1 - m := by omega
    rw [e1]
    show _ = some _
    rw [List.getD_eq_getElem?_getD, List.getElem?_reverse (by simpa using hm)]
    have e2 : xs.toList.length - 1 - m = xs.size - 1 - m := by simp
    rw [e2, Array.getElem?_toList, Array.getElem?_eq_getElem (by omega)]
    rfl
  rw [e]
  congr 1
  apply List.ext_getElem?
  intro i
  rw [List.getElem?_map]
  by_cases hi : i < xs.size
  · rw [List.getElem?_range hi]
    show some (xs.toList.reverse.getD i .none) = _
    rw [List.getD_eq_getElem?_getD, List.getElem?_eq_getElem (by simpa using hi)]
    rfl
  · rw [List.getElem?_eq_none (by simpa using hi), List.getElem?_eq_none (by simpa using hi)]
    rfl
theorem getItem_tuple_rev {t sl : Addr} {items : Array Value} {vl vu vs : Value} {Q : Value → Shared → Prop} (ht : IsTup s.heap t items) (hs : s.heap.IsSliceOf sl vl vu vs) (pl : IsPart vl none) (pu : IsPart vu none) (ps : IsPart vs (some (-1)))
    (h : Q (.ref s.heap.objs.size) { s with heap := s.heap.push { cls := .type "tuple", data := .seq items.toList.reverse.toArray } })
    (hsz : items.size ≤ sizeLine) : wpAny (model prog w) A (getItem (.ref t) (.ref sl)) Q E s := by
  have htake : sizeOk (.seq items.toList.reverse.toArray) := by
    show items.toList.reverse.toArray.size ≤ sizeLine
    rw [List.size_toArray, List.length_reverse, Array.length_toList]
    exact hsz
  obtain ⟨os, hos, hcs, hds⟩ := id hs
  have hTs : s.TypeIs (.ref sl) "slice" := ⟨os, hos, hcs⟩
  unfold getItem
  try with_reducible refine wpAny_holding ?_
  first | refine wpAny_bind (wpAny_pure ?_) | skip
  refine wpAny_bind (wpAny_sequenceKey ht.typeIs (by decide) ?_)
  refine wpAny_bind (wpAny_callSpecial?_slot (name := Str.ofString "__getitem__") ht.typeIs PyProof.Rows.slot_tuple_getitem
    (wpAny_call_entry PyProof.Rows.slot_tuple_getitem ht.typeIs entry_tuple_getitem ?_ (args_tuple_getitem _ _)))
  show wpAny _ _ (Builtin.Tuple.tupleItemsOf (.ref t) >>= _) _ _ s
  refine wpAny_bind (tupleItemsOf_ ht ?_)
  refine wpAny_bind (wpAny_typeOf hTs ?_)
  rw [if_pos (by decide)]
  refine wpAny_bind (sliceApplied_rev hs pl pu ps ?_)
  have hno : ¬ ((((items.size : Int) - 1) == 0 && (-1 : Int) == 1 && items.size == items.size) = true) := by
    intro q
    rw [Bool.and_eq_true, Bool.and_eq_true] at q
    exact absurd q.1.2 (by decide)
  show wpAny _ _ (if ((((items.size : Int) - 1) == 0 && (-1 : Int) == 1 && items.size == items.size) = true) then _ else _) _ _ s
  rw [if_neg hno, pick_rev]
  first
    | exact wpAny_bind (m := Builtin.Tuple.tupleExact _) (wpAny_newObj_type (wpAny_pure ⟨_, rfl, wpAny_pure h⟩) htake)
    | exact wpAny_bind (m := Builtin.Tuple.tupleExact _) (wpAny_newObj_type (wpAny_bind (wpAny_pure (wpAny_pure ⟨_, rfl, wpAny_pure h⟩))) htake)
    | exact wpAny_bind (wpAny_bind (m := Builtin.Tuple.tupleExact _) (wpAny_newObj_type (wpAny_pure (wpAny_pure ⟨_, rfl, wpAny_pure h⟩)) htake))
    | exact wpAny_bind (wpAny_bind (m := Builtin.Tuple.tupleExact _) (wpAny_newObj_type (wpAny_pure ⟨_, rfl, wpAny_pure h⟩) htake))
end
def rRevA (K : PySem.W.Frag) : V → Hp → VK → Prop := fun x H Q => (∃ a xs, x = .ref a ∧ SqL K H a xs ∧ ∀ p, H p = none → Q (.ref p) (upd H p (.lst xs.reverse))) ∨ (∃ a xs, x = .ref a ∧ SqT K H a xs ∧ ∀ p, H p = none → Q (.ref p) (upd H p (.tup xs.reverse)))
theorem pe_revA {X : Cx} {e : Expr} {te : TE} {k : Nat} {p1 p2 p3 pos : Pos} (he : PE X e te) : PE X (.Subscript e (.Slice none none (some (.UnaryOp .USub (.Constant (.int 1) k p1) p2)) p3) pos) (fun σ H Q => te σ H fun x H1 => rRevA X.K x H1 Q) := by
  refine ⟨fun pins s σ H Q I h => ?_⟩
  refine Subscript_ (thn (he.run pins s σ H _ I h) fun v s1 ⟨x, H1, I1, r1, q1⟩ => ?_)
  have hst : PO X (some (.UnaryOp .USub (.Constant (.int 1) k p1) p2)) (tPart (tUn (rU fun i => .int (-i)) (tC (.int 1)))) := po_some (pe_un un_neg pe_int)
  refine wpAny_Slice (thn (po_none.run pins s1 σ H1 (fun o H2 => o = none ∧ H2 = H1) I1 ⟨rfl, rfl⟩) fun vl s2 ⟨l, H2, I2, pl, el, e2⟩ => ?_)
  subst el e2
  refine thn (po_none.run pins s2 σ H2 (fun o H3 => o = none ∧ H3 = H2) I2 ⟨rfl, rfl⟩) fun vu s3 ⟨u, H3, I3, pu, eu, e3⟩ => ?_
  subst eu e3
  refine thn (hst.run pins s3 σ H3 (fun o H4 => o = some (-1) ∧ H4 = H3) I3 ⟨1, rfl, -1, rfl, rfl, rfl⟩) fun vs s4 ⟨o, H4, I4, ps, eo, e4⟩ => ?_
  subst eo e4
  have I5 : Inv X pins σ H4 { s4 with heap := s4.heap.push { cls := .type "slice", data := .fields #[vl, vu, vs] } } := I4.kept (t' := s4.toks) fun b ob q => Heap.get?_push_of_some _ q
  rcases q1 with ⟨a, xs, ex, hx, q⟩ | ⟨a, xs, ex, hx, q⟩
  · subst ex
    cases r1
    obtain ⟨its, r, ht, hz⟩ := I5.list hx
    have hlen := r.length
    show wpAny (model X.prog X.w) X.A (subscriptTail e (.Slice none none (some (.UnaryOp .USub (.Constant (.int 1) k p1) p2)) p3) (.ref a) (.ref s4.heap.objs.size)) (EP X pins σ Q) X.xe { s4 with heap := s4.heap.push { cls := .type "slice", data := .fields #[vl, vu, vs] } }
    refine tail_any (ops := [.ref a, .ref s4.heap.objs.size]) ht.isList.typeIs (PySem.slot_list_getitem.lookup) ?_ (by with_unfolding_all rfl)
    refine wpAny_getItem_list_slice ht.isList (Heap.IsSliceOf.new _ vl vu vs) pl pu ps (by decide) ?_ (by rw [List.size_toArray]; omega)
    rw [PySem.W.krv_pick]
    refine ⟨.ref _, _, I5.laid (t' := s4.toks) (o := .lst xs.reverse) (fun b ob q => Heap.get?_push_of_some _ q) (Nat.le_refl _) ?_, rfl, q _ (I5.hok.fresh (Nat.le_refl _))⟩
    exact ⟨by rw [List.length_reverse]; exact hz, _, 0, r.reverse, Heap.get?_push_size _ rfl⟩
  · subst ex
    cases r1
    obtain ⟨its, r, ht, hz⟩ := I5.tuple hx
    have hlen := r.length
    show wpAny (model X.prog X.w) X.A (subscriptTail e (.Slice none none (some (.UnaryOp .USub (.Constant (.int 1) k p1) p2)) p3) (.ref a) (.ref s4.heap.objs.size)) (EP X pins σ Q) X.xe { s4 with heap := s4.heap.push { cls := .type "slice", data := .fields #[vl, vu, vs] } }
    refine tail_any (ops := [.ref a, .ref s4.heap.objs.size]) ht.typeIs (PyProof.Rows.slot_tuple_getitem.lookup) ?_ (by with_unfolding_all rfl)
    refine getItem_tuple_rev ht (Heap.IsSliceOf.new _ vl vu vs) pl pu ps ?_ (by rw [List.size_toArray]; omega)
    refine ⟨.ref _, _, I5.laid (t' := s4.toks) (o := .tup xs.reverse) (fun b ob q => Heap.get?_push_of_some _ q) (Nat.le_refl _) ?_, rfl, q _ (I5.hok.fresh (Nat.le_refl _))⟩
    exact ⟨by rw [List.length_reverse]; exact hz, _, r.reverse, ⟨{ cls := .type "tuple", data := .seq its.toArray.toList.reverse.toArray }, Heap.get?_push_size _ rfl, rfl, 0, by simp⟩⟩
end Pd

set_option Elab.async false
set_option linter.all false
set_option maxRecDepth 100000
set_option maxHeartbeats 1000000
namespace Pd
open PySem PySem.Spec PyProof.Rows L2
/-! ### [::-1] -/
def pRev : List D → Option Rd'
  | [.list l] => some (.nl l.reverse)
  | [.tuple l] => some (.pd (.tuple l.reverse))
  | _ => none
def oRev := opG pRev
theorem de_rev {X : Cx} {vs0 : List V} {e : Expr} {fe : M Rs} {k : Nat} {p1 p2 p3 pos : Pos} (he : PE X e (rdE X.K vs0 fe)) : PE X (.Subscript e (.Slice none none (some (.UnaryOp .USub (.Constant (.int 1) k p1) p2)) p3) pos) (rdE X.K vs0 (eUn fe oRev)) := PE.imp (pe_revA he) fun σ H Q q => by
  have ho : OpOk X.K (fun vs H Q => ∃ x, vs = [x] ∧ rRevA X.K x H Q) oRev := opG_ok fun B H vs ds res Q e hs hp k => by
    unfold pRev at hp
    split at hp
    · obtain ⟨x, rfl, p, xs, rfl, s1, d1⟩ := hs.one
      cases hp
      exact ⟨_, rfl, Or.inl ⟨p, xs, rfl, s1, fun l hl => k l _ hl (DpAll.reverse d1)⟩⟩
    · obtain ⟨x, rfl, h1⟩ := hs.one
      obtain ⟨p, xs, rfl, s1, d1⟩ := h1.tup
      cases hp
      exact ⟨_, rfl, Or.inr ⟨p, xs, rfl, sqt_mono e s1, fun l hl => k.tup e hl (DpAll.reverse d1)⟩⟩
    · cases hp
  refine rdE_imp (rd_cons (rd_op ho q)) fun x H1 q1 => ?_
  obtain ⟨x', e, q2⟩ := rdA_nil q1
  cases e
  exact q2
/-! ### xs.insert(i, y), xs.extend(ys) -/
abbrev rInsert : V → List V → Hp → VK → Prop := fun x vs H Q => ∃ (l : Addr) (xs : List V) (i : Int) (y : V), x = .ref l ∧ vs = [.int i, y] ∧ H l = some (.lst xs) ∧ xs.length < sizeLine ∧ 0 ≤ i ∧ i < 2 ^ 63 ∧
    Q .non (upd H l (.lst (xs.take i.toNat ++ [y] ++ xs.drop i.toNat)))
def fInsert : List D → List D → Option (D × List D) := fun l ds => match ds with
  | [.int i, d] => if l.length < sizeLine ∧ 0 ≤ i ∧ i < 2 ^ 63 then some (.none, l.take i.toNat ++ [d] ++ l.drop i.toNat) else none
  | _ => none
def o_insert2 := opL1 fInsert
section
variable {X : Cx} {vs0 : List V} {K : PySem.W.Frag}
theorem o_insert2_ok : OpOk K (rM rInsert) o_insert2 := opL1_ok fun B H a xs l vs ds d l' Q e hH hx hd hf k => by
  unfold fInsert at hf
  split at hf
  · split at hf
    · rename_i hl
      cases hf
      cases hd with
      | cons h1 h2 =>
        cases h2 with
        | cons h2 h3 =>
          cases h3
          cases h1
          exact ⟨a, xs, _, _, rfl, rfl, hH, by rw [DpAll.length hx]; exact hl.1, hl.2.1, hl.2.2, k _ _ .non (DpAll.append (DpAll.append (DpAll.take _ hx) (DpAll.one h2)) (DpAll.drop _ hx))⟩
    · cases hf
  · cases hf
variable {o e e' : Expr} {fo : M Rs} {fa : M (List Rs)} {apos cpos : Pos}
theorem de_m_insert2 (ho : PE X o (rdE X.K vs0 fo)) (ha : PA X [e, e'] (rdA X.K vs0 fa))
    (hbase : attributeBase o "insert" X.env (eval o X.env) = eval o X.env := by rfl)
    (hfew : ((backTo cpos (starEach [e, e'] X.env)).all (fun x => !x.1) && (backToKw cpos (keywordEach [] X.env)).all (fun x => x.1.isSome)
      && decide ([e, e'].length + ([] : List Keyword).length + (if ([] : List Keyword).isEmpty then 0 else 1) < 30)) = true := by rfl)
    (hline : (apos.endLine == cpos.line) = true := by rfl) (hs : starEach [e, e'] X.env = (false, eval e X.env) :: starEach [e'] X.env := by rfl) (hplain : (backTo cpos (starEach [e'] X.env)).any (·.1) = false := by rfl) :
    PE X (.Call (.Attribute o "insert" apos) [e, e'] [] cpos) (rdE X.K vs0 (eMeth "list" fo fa o_insert2)) :=
  PE.imp (pe_bm PySem.F.plainAttrs_list PySem.F.slot_list_insert PySem.F.type_list_insert mt_insert ho ha hbase hfew hline hs hplain) fun σ H Q q => rd_meth o_insert2_ok q
end
/-! ### x[i], y[j] = a, b -/
section
variable {X : Cx} {vs0 : List V}
def mSub (fo fi : M Rs) (d : D) : M Fl := M.bind fo fun o => M.bind fi fun i => setSub o i d
theorem sub_run {K : PySem.W.Frag} {B H : Hp} {σ : L2.St} {ρ ρ' : Env} {fs : Nat → List Addr} {fo fi : M Rs} {v : V} {d : D} {fl : Fl} {Q : L2.St → Hp → Prop} (gd : Good K vs0 B H σ ρ fs) (dv : Dp K B v d) (e : mSub fo fi d ρ = some (.ok fl ρ'))
    (k : ∀ B' H' fs', Fr B H (InF fs) B' H' (InF fs') → Good K vs0 B' H' σ ρ' fs' → Q σ H') : L2.gSub (rdE K vs0 fo) (rdE K vs0 fi) rSetL v σ H Q := by
  obtain ⟨ro, ρ3, e6, e7⟩ := M.bind_ok e
  obtain ⟨ri, ρ4, e8, e9⟩ := M.bind_ok e7
  refine ⟨B, ρ, fs, gd, ro, ρ3, e6, fun u B3 H3 fs3 T3 fr3 g3 ok3 => ⟨B3, ρ3, fs3, g3, ri, ρ4, e8, fun w B4 H4 fs4 T4 fr4 g4 ok4 => ?_⟩⟩
  unfold setSub at e9
  cases ro with
  | own s => cases e9
  | lent _ _ _ => cases e9
  | bor j =>
  dsimp only at e9
  split at e9
  · rename_i t l e10
    split at e9
    · rename_i kk e11
      split at e9
      · rename_i q e12
        cases e9
        obtain ⟨v', q1, ⟨a, xs, rfl, hfs, q2, q3⟩, _⟩ := g4.at_ j _ e10
        obtain ⟨z1, z2⟩ := ok3
        rw [q1] at z1
        cases z1
        refine ⟨a, xs, kk, q, rfl, (view_ok g4 ok4 e11).int, q2, by rw [DpAll.length q3]; exact e12, ?_⟩
        have dv : Dp K B4 v d := Dp.mono ((fr3.bb).trans fr4.bb) dv
        have g5 := g4.upd (o := HO.lst (xs.set q v)) (s' := .ml t (l.set q d)) e10 hfs q1 ⟨a, _, rfl, rfl, upd_same, DpAll.set q q3 dv⟩ rfl
        exact k B4 _ fs4 (((fr_drop fr3).trans (fr_drop fr4)).trans (Fr.updIn ⟨j, by rw [hfs]; simp⟩)) g5
      · cases e9
    · cases e9
  · cases e9
def gSwap (f fo1 fi1 fo2 fi2 : M Rs) : M Fl := M.bind f fun r => M.bind (freezeR r) fun d => match d with
  | .tuple [d1, d2] => M.bind (mSub fo1 fi1 d1) fun _ => mSub fo2 fi2 d2
  | _ => M.fail
theorem sub_nx {fo fi : M Rs} {d : D} {ρ ρ' : Env} {fl : Fl} (e : mSub fo fi d ρ = some (.ok fl ρ')) : fl = .nx := by
  obtain ⟨ro, ρ3, e6, e7⟩ := M.bind_ok e
  obtain ⟨ri, ρ4, e8, e9⟩ := M.bind_ok e7
  unfold setSub at e9
  split at e9
  · split at e9
    · split at e9
      · split at e9
        · cases e9; rfl
        · cases e9
      · cases e9
    · cases e9
  · cases e9
theorem ds_swap {e o1 i1 o2 i2 : Expr} {f fo1 fi1 fo2 fi2 : M Rs} {k : Nat} {pos tpos p1 p2 : Pos} (hc : X.calm = true) (he : PE X e (rdE X.K vs0 f)) (ho1 : PE X o1 (rdE X.K vs0 fo1)) (hi1 : PE X i1 (rdE X.K vs0 fi1)) (ho2 : PE X o2 (rdE X.K vs0 fo2)) (hi2 : PE X i2 (rdE X.K vs0 fi2))
    (ha1 : ∀ v, assign (.Subscript o1 i1 p1) X.env v = (do
      let ov ← holding [v] (eval o1 X.env)
      let iv ← holding [v, ov] (eval i1 X.env)
      standAt p1
      holding [v, ov, iv] (setItem ov iv v)
      release [v, ov, iv] []) := by intro _; rfl)
    (ha2 : ∀ v, assign (.Subscript o2 i2 p2) X.env v = (do
      let ov ← holding [v] (eval o2 X.env)
      let iv ← holding [v, ov] (eval i2 X.env)
      standAt p2
      holding [v, ov, iv] (setItem ov iv v)
      release [v, ov, iv] []) := by intro _; rfl)
    (hs : swapsWithSole [.Tuple [.Subscript o1 i1 p1, .Subscript o2 i2 p2] k tpos] e pos.line X.env = pure false := by rfl) (hw : swappedStores [.Tuple [.Subscript o1 i1 p1, .Subscript o2 i2 p2] k tpos] e X.env = pure none := by rfl)
    (h1 : (assignEach [.Tuple [.Subscript o1 i1 p1, .Subscript o2 i2 p2] k tpos] X.env).map (·.2) = [assign (.Tuple [.Subscript o1 i1 p1, .Subscript o2 i2 p2] k tpos) X.env] := by rfl)
    (hn : (assignEach [.Subscript o1 i1 p1, .Subscript o2 i2 p2] X.env).length = 2 := by rfl) (hst : (assignEach [.Subscript o1 i1 p1, .Subscript o2 i2 p2] X.env).findIdx? (·.1) = none := by rfl)
    (hs1 : (assignEach [.Subscript o1 i1 p1, .Subscript o2 i2 p2] X.env).map (·.2) = assign (.Subscript o1 i1 p1) X.env :: (assignEach [.Subscript o2 i2 p2] X.env).map (·.2) := by rfl) (hs2 : (assignEach [.Subscript o2 i2 p2] X.env).map (·.2) = assign (.Subscript o2 i2 p2) X.env :: (assignEach [] X.env).map (·.2) := by rfl) :
    PS X (.Assign [.Tuple [.Subscript o1 i1 p1, .Subscript o2 i2 p2] k tpos] e pos) (rdS X.K vs0 (gSwap f fo1 fi1 fo2 fi2)) :=
  PS.imp (ps_asg he (pg_tup hc (pgs_cons (pg_sub ho1 hi1 set_list ha1) (pgs_cons (pg_sub ho2 hi2 set_list ha2) pgs_nil hs2) hs1) hn hst) hs hw h1) fun D σ H q => by
  obtain ⟨B, ρ, fs, gd, fl, ρ', e1, kk⟩ := q
  obtain ⟨r, ρ1, e2, e3⟩ := M.bind_ok e1
  obtain ⟨d, ρ2, e4, e5⟩ := M.bind_ok e3
  refine ⟨B, ρ, fs, gd, r, ρ1, e2, fun v B1 H1 fs1 T1 fr1 g1 ok1 => ?_⟩
  obtain ⟨B2, fs2, fr2, g2, d2⟩ := freezeR_ok g1 ok1 e4
  split at e5
  · rename_i da db
    obtain ⟨fl1, ρ3, e6, e7⟩ := M.bind_ok e5
    have n2 := sub_nx e7
    subst n2
    cases d2 with
    | tup s1 da1 =>
      cases da1 with
      | cons h1 h2 =>
        cases h2 with
        | cons h2 h3 =>
          cases h3
          refine ⟨_, _, rfl, sqt_mono g2.ext s1, rfl, _, _, rfl, sub_run g2 h1 e6 fun B3 H3 fs3 fr3 g3 => ⟨_, _, rfl, sub_run g3 (Dp.mono fr3.bb h2) e7 fun B4 H4 fs4 fr4 g4 => ⟨rfl, ?_⟩⟩⟩
          exact kk σ B4 H4 fs4 ((fr1.trans fr2).trans (fr3.trans fr4)) g4
  · cases e5
end
end Pd

set_option Elab.async false
set_option linter.all false
set_option maxRecDepth 100000
set_option maxHeartbeats 1000000
namespace Pd
open PySem PySem.Spec PyProof.Rows L2
namespace B
section
variable {ρ : Env}
@[simp ↓] theorem ev_mul2 {a b : Int} {Q : Rs → Env → Prop} : Ev (oMul2 [.own (.p (.int a)), .own (.p (.int b))]) ρ Q ↔ CMulW a b ∧ Q (.own (.p (.int (a * b)))) ρ := by
  rw [← ev_mul]
  constructor
  · rintro ⟨r, ρ', e, q⟩
    unfold oMul2 at e
    split at e
    · rename_i x h; cases e; exact ⟨r, ρ', h, q⟩
    · cases e
  · rintro ⟨r, ρ', e, q⟩
    exact ⟨r, ρ', by unfold oMul2; rw [e], q⟩
@[simp ↓] theorem ev_mul2L {t : Option Nat} {l : List D} {k : Int} {Q : Rs → Env → Prop} : Ev (oMul2 [.own (.ml t l), .own (.p (.int k))]) ρ Q ↔ (-(2 ^ 63) ≤ k ∧ k < 2 ^ 63 ∧ l.length * k.toNat ≤ sizeLine) ∧ Q (.own (.ml none (List.replicate k.toNat l).flatten)) ρ := by
  rw [← ev_mulL (t := t)]
  constructor
  · rintro ⟨r, ρ', e, q⟩
    unfold oMul2 at e
    split at e
    · rename_i x h; cases e; exact ⟨r, ρ', h, q⟩
    · cases e
  · rintro ⟨r, ρ', e, q⟩
    exact ⟨r, ρ', by unfold oMul2; rw [e], q⟩
@[simp ↓] theorem ev_mul2S {z : Str} {k : Int} {Q : Rs → Env → Prop} : Ev (oMul2 [.own (.p (.str z)), .own (.p (.int k))]) ρ Q ↔ (0 ≤ k ∧ k ≤ 1000 ∧ z.length ≤ 1000) ∧ Q (.own (.p (.str (PySem.Txt.mul z k)))) ρ := by
  have e0 : oMul2 [.own (.p (.str z)), .own (.p (.int k))] ρ = opG pMulS [.own (.p (.str z)), .own (.p (.int k))] ρ := rfl
  unfold Ev
  rw [e0]
  have := ev_opG (pf := pMulS) (rs := [.own (.p (.str z)), .own (.p (.int k))]) (ρ := ρ) (Q := Q)
  refine this.trans ?_
  simp only [viewAll_cons, view_p, viewAll_nil, Option.bind_some]
  unfold pMulS
  rw [resQ_ite, resQ_pd]
def enumQ (ρ : Env) (Q : List D → Env → Prop) : List D → Prop
  | [.list l] => Q (enumD l) ρ
  | _ => False
@[simp] theorem enumQ_l {Q : List D → Env → Prop} {l : List D} : enumQ ρ Q [.list l] = Q (enumD l) ρ := rfl
@[simp ↓] theorem ev_mEnum {f : M (List Rs)} {Q : List D → Env → Prop} : Ev (mEnum f) ρ Q ↔ Ev f ρ fun rs ρ1 => Ev (freezeAll rs) ρ1 fun ds ρ2 => enumQ ρ2 Q ds := by
  unfold mEnum
  simp only [ev_bind]
  constructor
  · rintro ⟨rs, ρ1, e, ds, ρ2, e2, b, ρ3, e3, q⟩
    refine ⟨rs, ρ1, e, ds, ρ2, e2, ?_⟩
    try dsimp only at e3
    split at e3
    · cases e3; exact q
    · cases e3
  · rintro ⟨rs, ρ1, e, ds, ρ2, e2, q⟩
    refine ⟨rs, ρ1, e, ds, ρ2, e2, ?_⟩
    try dsimp only at q
    unfold enumQ at q
    split at q
    · exact ⟨_, ρ2, rfl, q⟩
    · exact q.elim
def zipQ (ρ : Env) (Q : List D → Env → Prop) : List D → Prop
  | [.list l, .list m] => Q (zipD l m) ρ
  | [.tuple l, .tuple m] => Q (zipD l m) ρ
  | _ => False
@[simp] theorem zipQ_l {Q : List D → Env → Prop} {l m : List D} : zipQ ρ Q [.list l, .list m] = Q (zipD l m) ρ := rfl
@[simp] theorem zipQ_t {Q : List D → Env → Prop} {l m : List D} : zipQ ρ Q [.tuple l, .tuple m] = Q (zipD l m) ρ := rfl
@[simp ↓] theorem ev_mZip2 {f : M (List Rs)} {Q : List D → Env → Prop} : Ev (mZip2 f) ρ Q ↔ Ev f ρ fun rs ρ1 => Ev (freezeAll rs) ρ1 fun ds ρ2 => zipQ ρ2 Q ds := by
  unfold mZip2
  simp only [ev_bind]
  constructor
  · rintro ⟨rs, ρ1, e, ds, ρ2, e2, b, ρ3, e3, q⟩
    refine ⟨rs, ρ1, e, ds, ρ2, e2, ?_⟩
    try dsimp only at e3
    split at e3
    · cases e3; exact q
    · cases e3; exact q
    · cases e3
  · rintro ⟨rs, ρ1, e, ds, ρ2, e2, q⟩
    refine ⟨rs, ρ1, e, ds, ρ2, e2, ?_⟩
    try dsimp only at q
    unfold zipQ at q
    split at q
    · exact ⟨_, ρ2, rfl, q⟩
    · exact ⟨_, ρ2, rfl, q⟩
    · exact q.elim
@[simp ↓] theorem ev_mSub {fo fi : M Rs} {d : D} {Q : Fl → Env → Prop} : Ev (mSub fo fi d) ρ Q ↔ Ev fo ρ fun o ρ1 => Ev fi ρ1 fun i ρ2 => Ev (setSub o i d) ρ2 Q := by
  unfold mSub
  simp only [ev_bind]
def swapQ (fo1 fi1 fo2 fi2 : M Rs) (ρ : Env) (Q : Fl → Env → Prop) : D → Prop
  | .tuple [d1, d2] => Ev (mSub fo1 fi1 d1) ρ fun _ ρ1 => Ev (mSub fo2 fi2 d2) ρ1 Q
  | _ => False
@[simp] theorem swapQ_t {fo1 fi1 fo2 fi2 : M Rs} {Q : Fl → Env → Prop} {d1 d2 : D} : swapQ fo1 fi1 fo2 fi2 ρ Q (.tuple [d1, d2]) = Ev (mSub fo1 fi1 d1) ρ fun _ ρ1 => Ev (mSub fo2 fi2 d2) ρ1 Q := rfl
@[simp ↓] theorem ev_gSwap {f fo1 fi1 fo2 fi2 : M Rs} {Q : Fl → Env → Prop} : Ev (gSwap f fo1 fi1 fo2 fi2) ρ Q ↔ Ev f ρ fun r ρ1 => Ev (freezeR r) ρ1 fun d ρ2 => swapQ fo1 fi1 fo2 fi2 ρ2 Q d := by
  unfold gSwap
  simp only [ev_bind]
  constructor
  · rintro ⟨r, ρ1, e, d, ρ2, e2, b, ρ3, e3, q⟩
    refine ⟨r, ρ1, e, d, ρ2, e2, ?_⟩
    try dsimp only at e3
    split at e3
    · exact ev_bind.mp ⟨b, ρ3, e3, q⟩
    · cases e3
  · rintro ⟨r, ρ1, e, d, ρ2, e2, q⟩
    refine ⟨r, ρ1, e, d, ρ2, e2, ?_⟩
    try dsimp only at q
    unfold swapQ at q
    split at q
    · exact ev_bind.mpr q
    · exact q.elim
@[simp ↓] theorem ev_insert {j : Nat} {rest : List Rs} {Q : Rs → Env → Prop} : Ev (o_insert2 (.bor j :: rest)) ρ Q ↔ Ev (freezeAll rest) ρ fun ds ρ1 => l1Q j ρ1 fInsert ds Q ρ1[j]? := ev_opL1
theorem ev_comp_cons {own : List Nat} {t : D → Env → Option Env} {tt : M Bool} {te : M Rs} {d : D} {rest acc : List D} {Q : List D → Env → Prop} : Ev (compD own t tt te (d :: rest) acc) ρ Q ↔
    envQ (fun ρ1 => Ev tt ρ1 fun b ρ2 => if b = true then Ev te ρ2 fun r ρ3 => Ev (freezeR r) ρ3 fun y ρ4 => acc.length < sizeLine ∧ Ev (compD own t tt te rest (acc ++ [y])) ρ4 Q else Ev (compD own t tt te rest acc) ρ2 Q) (t d (wipeE ρ own)) := by
  constructor
  · rintro ⟨a, ρ', e, q⟩
    unfold compD at e
    split at e
    · cases e
    · rename_i ρ1 e1
      rw [e1, envQ_s]
      split at e
      · cases e
      · rename_i ρ2 e2
        refine ⟨false, ρ2, e2, ?_⟩
        dsimp only
        rw [if_neg (by decide)]
        exact ⟨a, ρ', e, q⟩
      · rename_i ρ2 e2
        refine ⟨true, ρ2, e2, ?_⟩
        dsimp only
        rw [if_pos rfl]
        split at e
        · cases e
        · rename_i y ρ4 e3
          split at e
          · rename_i hl
            obtain ⟨r, ρ3, e4, e5⟩ := M.bind_ok e3
            exact ⟨r, ρ3, e4, y, ρ4, e5, hl, a, ρ', e, q⟩
          · cases e
  · intro h
    unfold envQ at h
    split at h
    · rename_i ρ1 e1
      obtain ⟨b, ρ2, e2, q⟩ := h
      cases b with
      | false =>
        try dsimp only at q
        rw [if_neg (by decide)] at q
        obtain ⟨a, ρ3, e3, q3⟩ := q
        exact ⟨a, ρ3, by unfold compD; simp only [e1, e2]; exact e3, q3⟩
      | true =>
        try dsimp only at q
        rw [if_pos rfl] at q
        obtain ⟨rr, ρ3, e3, y, ρ4, e4, hl, a, ρ5, e5, q5⟩ := q
        refine ⟨a, ρ5, ?_, q5⟩
        unfold compD
        have : M.bind te freezeR ρ2 = some (.ok y ρ4) := by unfold M.bind; simp only [e3, e4]
        simp only [e1, e2, this, if_pos hl]
        exact e5
    · exact h.elim
theorem ev_comp_nil {own : List Nat} {t : D → Env → Option Env} {tt : M Bool} {te : M Rs} {acc : List D} {Q : List D → Env → Prop} : Ev (compD own t tt te [] acc) ρ Q ↔ Q acc ρ := by
  unfold compD
  exact ev_ret
/-- a comprehension that changes nothing -/
theorem ev_comp_pure {own : List Nat} {t : D → Env → Option Env} {tt : M Bool} {te : M Rs} {Q : List D → Env → Prop} {α : Type} (f g : α → D) (c : α → Bool) {l : List α} (hn : l.length < sizeLine)
    (hs : ∀ x ∈ l, envQ (fun ρ1 => Ev tt ρ1 fun b ρ2 => b = c x ∧ if b = true then Ev te ρ2 fun r ρ3 => Ev (freezeR r) ρ3 fun y ρ4 => y = g x ∧ wipeE ρ4 own = wipeE ρ own else wipeE ρ2 own = wipeE ρ own) (t (f x) (wipeE ρ own)))
    (hd : ∀ ρ', wipeE ρ' own = wipeE ρ own → Q ((l.filter c).map g) ρ') : Ev (compD own t tt te (l.map f) []) ρ Q := by
  refine ev_comp (fun done acc ρ' => wipeE ρ' own = wipeE ρ own ∧ acc = ((l.take done.length).filter c).map g ∧ done.length ≤ l.length) ⟨rfl, by simp, Nat.zero_le _⟩ ?_ ?_
  · rintro done d r acc ρ1 ha ⟨hw, rfl, hdl⟩
    have hlen := congrArg List.length ha
    simp at hlen
    have hlt : done.length < l.length := by omega
    have hdx : d = f l[done.length] := by
      have : (l.map f)[done.length]? = some d := by rw [ha]; simp
      rw [List.getElem?_map, List.getElem?_eq_getElem hlt] at this
      cases this
      rfl
    subst hdx
    have h := hs _ (List.getElem_mem hlt)
    have htk : l.take (done.length + 1) = l.take done.length ++ [l[done.length]] := by rw [List.take_succ, List.getElem?_eq_getElem hlt]; rfl
    rw [← hw] at h
    unfold envQ at h ⊢
    split at h
    · rename_i ρ2 e2
      obtain ⟨b, ρ3, e3, hb, q⟩ := h
      show Ev tt ρ2 _
      refine ⟨b, ρ3, e3, ?_⟩
      cases b with
      | false =>
        rw [if_neg (by decide)] at q
        try dsimp only
        rw [if_neg (by decide)]
        refine ⟨q.trans hw, ?_, by simp; omega⟩
        rw [List.length_append, List.length_singleton, htk, List.filter_append, List.filter_cons, ← hb]
        simp
      | true =>
        rw [if_pos rfl] at q
        obtain ⟨rr, ρ4, e4, y, ρ5, e5, rfl, q⟩ := q
        try dsimp only
        rw [if_pos rfl]
        refine ⟨rr, ρ4, e4, _, ρ5, e5, ?_, q.trans hw, ?_, by simp; omega⟩
        · have h1 := List.length_filter_le c (l.take done.length)
          have h2 := List.length_take_le done.length l
          rw [List.length_map]
          omega
        · rw [List.length_append, List.length_singleton, htk, List.filter_append, List.filter_cons, ← hb]
          simp
    · exact h.elim
  · rintro acc ρ1 ⟨hw, rfl, _⟩
    rw [List.length_map, List.take_of_length_le (Nat.le_refl _)]
    exact hd ρ1 hw
end
section
variable {d : D} {l : List D}
@[simp] theorem eqvA_ln : PyData.eqvAll l [] = l.isEmpty := by cases l <;> simp
@[simp] theorem rngD_two : rngD 0 2 = [.int 0, .int 1] := rfl
@[simp] theorem rngD_len {a : Int} {n : Nat} : (rngD a n).length = n := by unfold rngD; simp
theorem rngD_at {a : Int} {n : Nat} {done r : List D} {x : D} (h : rngD a n = done ++ x :: r) : x = .int (a + done.length) ∧ done.length < n := by
  have hl := congrArg List.length h
  rw [rngD_len, List.length_append, List.length_cons] at hl
  have : (rngD a n)[done.length]? = some x := by rw [h]; simp
  unfold rngD at this
  rw [List.getElem?_map, List.getElem?_range (by omega)] at this
  cases this
  exact ⟨rfl, by omega⟩
@[simp ↓] theorem oRev_eq : oRev = opG pRev := rfl
@[simp] theorem pRev_l : pRev [.list l] = some (.nl l.reverse) := rfl
@[simp] theorem pRev_t : pRev [.tuple l] = some (.pd (.tuple l.reverse)) := rfl
@[simp] theorem fInsert_eq {i : Int} : fInsert l [.int i, d] = if l.length < sizeLine ∧ 0 ≤ i ∧ i < 2 ^ 63 then some (.none, l.take i.toNat ++ [d] ++ l.drop i.toNat) else none := rfl
theorem fPop1_of {i : Int} (h0 : 0 ≤ i) (h1 : i < l.length) (h2 : i < 2 ^ 63) : fPop1 l [.int i] = some (l.getD i.toNat .none, l.eraseIdx i.toNat) := by
  have e : ixN l.length i = some i.toNat := by
    unfold ixN
    rw [if_pos h0, if_pos h1]
  unfold fPop1
  dsimp only
  rw [if_pos ⟨by omega, h2⟩, e]
  dsimp only
  rw [List.getD_eq_getElem?_getD, List.getElem?_eq_getElem (by omega)]
  rfl
theorem atI_in {i : Int} (h0 : 0 ≤ i) (h1 : i < l.length) : atI l i = some (l.getD i.toNat .none) := by
  unfold atI ixN
  rw [if_pos h0, if_pos h1, Option.bind_some, List.getD_eq_getElem?_getD, List.getElem?_eq_getElem (by omega)]
  rfl
theorem ixN_in {n : Nat} {i : Int} (h0 : 0 ≤ i) (h1 : i < n) : ixN n i = some i.toNat := by
  unfold ixN
  rw [if_pos h0, if_pos h1]
theorem enumD_len : (enumD l).length = l.length := by unfold enumD; simp
end
end B
end Pd

set_option Elab.async false
set_option linter.all false
set_option maxRecDepth 100000
set_option maxHeartbeats 1000000
namespace Pd
open PySem PySem.Spec PyProof.Rows L2
open B (eqvA_ln rngD_two rngD_len rngD_at oRev_eq pRev_l pRev_t fInsert_eq fPop1_of atI_in ixN_in enumD_len)
section
variable {ρ : Env}
@[simp ↓] theorem ev_mul2 {a b : Int} {Q : Rs → Env → Prop} : Ev (oMul2 [.own (.p (.int a)), .own (.p (.int b))]) ρ Q ↔ CMulW a b ∧ Q (.own (.p (.int (a * b)))) ρ := B.ev_mul2
@[simp ↓] theorem ev_mul2L {t : Option Nat} {l : List D} {k : Int} {Q : Rs → Env → Prop} : Ev (oMul2 [.own (.ml t l), .own (.p (.int k))]) ρ Q ↔ (-(2 ^ 63) ≤ k ∧ k < 2 ^ 63 ∧ l.length * k.toNat ≤ sizeLine) ∧ Q (.own (.ml none (List.replicate k.toNat l).flatten)) ρ := B.ev_mul2L
@[simp ↓] theorem ev_mul2S {z : Str} {k : Int} {Q : Rs → Env → Prop} : Ev (oMul2 [.own (.p (.str z)), .own (.p (.int k))]) ρ Q ↔ (0 ≤ k ∧ k ≤ 1000 ∧ z.length ≤ 1000) ∧ Q (.own (.p (.str (PySem.Txt.mul z k)))) ρ := B.ev_mul2S
def enumQ (ρ : Env) (Q : List D → Env → Prop) [Fx Q] (o0 : List D) : Prop := B.enumQ ρ Q o0
@[simp] theorem enumQ_l {Q : List D → Env → Prop} {l : List D} : enumQ ρ Q [.list l] = Q (enumD l) ρ := B.enumQ_l
@[simp ↓] theorem ev_mEnum {f : M (List Rs)} {Q : List D → Env → Prop} : Ev (mEnum f) ρ Q ↔ Ev f ρ fun rs ρ1 => Ev (freezeAll rs) ρ1 fun ds ρ2 => enumQ ρ2 Q ds := B.ev_mEnum
def zipQ (ρ : Env) (Q : List D → Env → Prop) [Fx Q] (o0 : List D) : Prop := B.zipQ ρ Q o0
@[simp] theorem zipQ_l {Q : List D → Env → Prop} {l m : List D} : zipQ ρ Q [.list l, .list m] = Q (zipD l m) ρ := B.zipQ_l
@[simp] theorem zipQ_t {Q : List D → Env → Prop} {l m : List D} : zipQ ρ Q [.tuple l, .tuple m] = Q (zipD l m) ρ := B.zipQ_t
@[simp ↓] theorem ev_mZip2 {f : M (List Rs)} {Q : List D → Env → Prop} : Ev (mZip2 f) ρ Q ↔ Ev f ρ fun rs ρ1 => Ev (freezeAll rs) ρ1 fun ds ρ2 => zipQ ρ2 Q ds := B.ev_mZip2
@[simp ↓] theorem ev_mSub {fo fi : M Rs} {d : D} {Q : Fl → Env → Prop} : Ev (mSub fo fi d) ρ Q ↔ Ev fo ρ fun o ρ1 => Ev fi ρ1 fun i ρ2 => Ev (setSub o i d) ρ2 Q := B.ev_mSub
def swapQ (fo1 fi1 fo2 fi2 : M Rs) (ρ : Env) (Q : Fl → Env → Prop) [Fx Q] (o0 : D) : Prop := B.swapQ fo1 fi1 fo2 fi2 ρ Q o0
@[simp] theorem swapQ_t {fo1 fi1 fo2 fi2 : M Rs} {Q : Fl → Env → Prop} {d1 d2 : D} : swapQ fo1 fi1 fo2 fi2 ρ Q (.tuple [d1, d2]) = Ev (mSub fo1 fi1 d1) ρ fun _ ρ1 => Ev (mSub fo2 fi2 d2) ρ1 Q := B.swapQ_t
@[simp ↓] theorem ev_gSwap {f fo1 fi1 fo2 fi2 : M Rs} {Q : Fl → Env → Prop} : Ev (gSwap f fo1 fi1 fo2 fi2) ρ Q ↔ Ev f ρ fun r ρ1 => Ev (freezeR r) ρ1 fun d ρ2 => swapQ fo1 fi1 fo2 fi2 ρ2 Q d := B.ev_gSwap
@[simp ↓] theorem ev_insert {j : Nat} {rest : List Rs} {Q : Rs → Env → Prop} : Ev (o_insert2 (.bor j :: rest)) ρ Q ↔ Ev (freezeAll rest) ρ fun ds ρ1 => l1Q j ρ1 fInsert ds Q ρ1[j]? := B.ev_insert
theorem ev_comp_cons {own : List Nat} {t : D → Env → Option Env} {tt : M Bool} {te : M Rs} {d : D} {rest acc : List D} {Q : List D → Env → Prop} : Ev (compD own t tt te (d :: rest) acc) ρ Q ↔
    envQ (fun ρ1 => Ev tt ρ1 fun b ρ2 => if b = true then Ev te ρ2 fun r ρ3 => Ev (freezeR r) ρ3 fun y ρ4 => acc.length < sizeLine ∧ Ev (compD own t tt te rest (acc ++ [y])) ρ4 Q else Ev (compD own t tt te rest acc) ρ2 Q) (t d (wipeE ρ own)) := B.ev_comp_cons
theorem ev_comp_nil {own : List Nat} {t : D → Env → Option Env} {tt : M Bool} {te : M Rs} {acc : List D} {Q : List D → Env → Prop} : Ev (compD own t tt te [] acc) ρ Q ↔ Q acc ρ := B.ev_comp_nil
/-- a comprehension that changes nothing -/
theorem ev_comp_pure {own : List Nat} {t : D → Env → Option Env} {tt : M Bool} {te : M Rs} {Q : List D → Env → Prop} {α : Type} (f g : α → D) (c : α → Bool) {l : List α} (hn : l.length < sizeLine)
    (hs : ∀ x ∈ l, envQ (fun ρ1 => Ev tt ρ1 fun b ρ2 => b = c x ∧ if b = true then Ev te ρ2 fun r ρ3 => Ev (freezeR r) ρ3 fun y ρ4 => y = g x ∧ wipeE ρ4 own = wipeE ρ own else wipeE ρ2 own = wipeE ρ own) (t (f x) (wipeE ρ own)))
    (hd : ∀ ρ', wipeE ρ' own = wipeE ρ own → Q ((l.filter c).map g) ρ') : Ev (compD own t tt te (l.map f) []) ρ Q := B.ev_comp_pure f g c hn hs hd
end
section
variable {d : D} {l : List D}
end
end Pd


set_option Elab.async false
set_option linter.all false
set_option maxRecDepth 100000
set_option maxHeartbeats 1000000
namespace PySem
open Sem (wp)
theorem meets_enum_new1B {v : Value} {o : Obj} {H : Heap → Prop} (B : Begins v o H) :
    Meets (Builtin.«enumerate.__new__» ⟨[.type "enumerate", v], []⟩) (fun _ R s => H s.heap ∧
      R (.ok (.ret (.ref (s.heap.push o).objs.size))) { s with heap := (s.heap.push o).push { cls := .type "enumerate", data := .fields #[.none, .bool false, .ref s.heap.objs.size, rawInt 0, .none, .none] } }) :=
  .of_wp fun prog w A R s h => by
    obtain ⟨hp, g, d, tk, os⟩ := s; obtain ⟨h1, h⟩ := h
    have hsub := sub_enumerate
    have q1 : ∀ {A' : Around} {E : Value → Shared → Prop} {Q : Value → Shared → Prop}, Q (.ref hp.objs.size) ⟨hp.push o, g, d, tk, os⟩ → wpAny (model prog w) A' (pyIter v) Q E ⟨hp, g, d, tk, os⟩ :=
      fun q => B.iter prog w _ _ ⟨hp, g, d, tk, os⟩ _ h1 q
    wp_walk using q1
    refine wpAny_stack_any fun st => wpAny_pure ?_
    split
    · rename_i c _ _ _ _ _
      cases (c == Value.type "enumerate")
      · wp_walk using q1
        exact ⟨_, rfl, h⟩
      · wp_walk using q1
        exact ⟨_, rfl, h⟩
    · wp_walk using q1
      exact ⟨_, rfl, h⟩
section
variable {prog : Program} {w : World} {A : Around} {E : Value → Shared → Prop} {s : Shared}
theorem next_enum_endT {e it t : Addr} {i : Nat} {items : Array Value} {old : Value} {Q : Option Value → Shared → Prop} (hh : A.handled = none)
    (he : IsEnum s.heap e it i old) (hit : s.heap.IsTupleIter it t i) (hl : s.heap.IsTuple t items) (hx : items[i]? = none)
    (hQ : ∀ h', Heap.ExtBut it s.heap h' → Q none { s with heap := h' }) : wpAny (model prog w) A (pyNext (.ref e)) Q E s := by
  have hT : s.TypeIs (.ref e) "enumerate" := ⟨_, he, rfl⟩
  unfold pyNext
  refine wpAny_bind (wpAny_attempt (wpAny_callSpecial?_slot (name := Str.ofString "__next__") hT F.slot_enumerate_next
    (wpAny_call_entry F.slot_enumerate_next hT F.entry_enumerate_next ?_ (F.args_enumerate_next_1 _))))
  show wpAny _ _ (field (.ref e) 2 >>= _) _ _ _
  refine wpAny_bind (wpAny_field he rfl (x := .ref it) rfl ?_)
  refine wpAny_bind (wpAny_nextOf_tuple_end hh hit hl hx fun h' x he' hx' => ?_)
  obtain ⟨o, ho, hc⟩ := hx'
  refine wpAny_bind (wpAny_isInstance (T := "StopIteration") (b := true) ⟨o, ho, hc⟩ isSubtype_stop ?_)
  exact wpAny_pure (hQ _ he')
/-- enumerate(t) of a tuple: its two new cells -/
theorem call_enum_tuple {t : Addr} {items : Array Value} {Q : Value → Shared → Prop} (ht : s.heap.IsTuple t items)
    (h : ∀ h', IsEnum h' (s.heap.objs.size + 1) s.heap.objs.size 0 .none → h'.IsTupleIter s.heap.objs.size t 0 → h'.objs.size = s.heap.objs.size + 2 →
      (∀ b o, s.heap.get? b = some o → h'.get? b = some o) → Q (.ref (s.heap.objs.size + 1)) { s with heap := h' }) :
    wpAny (model prog w) A (call (.type "enumerate") [.ref t]) Q E s := by
  refine callType_new F.called_enumerate (by decide) (F.typeCall_enumerate_1 _) (F.newCall_enumerate_1 _) (fun obj => F.args_object_init_2 obj _) F.entry_enumerate_new
    (meets_enum_new1B (begins_tuple t items)) ⟨ht, ?_⟩
  have hz : (s.heap.push { cls := .type "tuple_iterator", data := .fields #[.ref t, .int 0 0] }).objs.size = s.heap.objs.size + 1 := Heap.size_push ..
  show _ ∧ _
  rw [hz]
  have he : IsEnum ((s.heap.push { cls := .type "tuple_iterator", data := .fields #[.ref t, .int 0 0] }).push
      { cls := .type "enumerate", data := .fields #[.none, .bool false, .ref s.heap.objs.size, rawInt 0, .none, .none] }) (s.heap.objs.size + 1) s.heap.objs.size 0 .none := by
    have := Heap.get?_push_size (s.heap.push { cls := .type "tuple_iterator", data := .fields #[.ref t, .int 0 0] })
      (o := { cls := .type "enumerate", data := .fields #[.none, .bool false, .ref s.heap.objs.size, rawInt 0, .none, .none] }) rfl
    rw [hz] at this; exact this
  refine ⟨⟨_, he, rfl⟩, h _ he ⟨_, Heap.get?_push_of_some _ (Heap.get?_push_size _ rfl), rfl, rfl⟩ (by rw [Heap.size_push, hz]) fun b o x => Heap.get?_push_of_some _ (Heap.get?_push_of_some _ x)⟩
end
end PySem
namespace Pd
open PySem PySem.Spec PyProof.Rows L2
/-- the tuple at a, each item in a new pair -/
def IteT (K : PySem.W.Frag) (a : Addr) : It :=
  ⟨fun i H => ∃ (xs : List V) (x : V), SqT K H a xs ∧ xs[i]? = some x, fun i H v H' => ∃ T x, v = .ref T ∧ H T = none ∧ H' = upd H T (.tup [.int (i : Nat), x]) ∧ ∀ xs, SqT K H a xs → xs[i]? = some x, fun i H => ∃ xs : List V, SqT K H a xs ∧ xs.length ≤ i⟩
theorem tupIt_ne {h : Heap} {a it : Addr} {i : Nat} {items : Array Value} (p : h.IsTuple a items) (q : h.IsTupleIter it a i) : a ≠ it := fun e => by
  obtain ⟨o, h1, h2, _⟩ := p
  obtain ⟨o', h3, h4, _⟩ := q
  rw [e, h3] at h1
  cases h1
  rw [h4] at h2
  exact absurd h2 (by decide)
theorem tupEn_ne {h : Heap} {a it e : Addr} {i : Int} {old : Value} {items : Array Value} (p : h.IsTuple a items) (q : IsEnum h e it i old) : e ≠ a := fun z => by
  obtain ⟨o, h1, h2, _⟩ := p
  have q' : h.get? e = _ := q
  rw [z, h1] at q'
  cases q'
  exact absurd (show Value.type "enumerate" = Value.type "tuple" from h2) (by decide)
theorem turn_enumT {P : Program} {w : World} {K : PySem.W.Frag} {elts : List Expr} {kk : Nat} {tpos : Pos} (a e it : Addr) :
    Turn P w K (.Tuple elts kk tpos) (IteT K a) [e, it] e (fun i h => (∃ old, IsEnum h e it ((i : Nat) : Int) old) ∧ h.IsTupleIter it a i ∧ e ≠ it) where
  mem := by simp
  obj := fun i h st b hb => by
    obtain ⟨⟨old, he⟩, ⟨o, ho, hc, hd⟩, _⟩ := st
    have e' : b = e ∨ b = it := by simpa using hb
    rcases e' with z | z
    · rw [z]; exact ⟨_, he, fun v q => nomatch q⟩
    · rw [z]; exact ⟨o, ho, fun v q => by rw [hd] at q; cases q⟩
  keep := fun i h h' st k => let ⟨⟨old, he⟩, hi, hne⟩ := st; ⟨⟨old, k e (by simp) _ he⟩, hi.at fun o q => k it (by simp) o q, hne⟩
  item := by
    intro X hP hw hK hc i pins s σ H E I hf st hg
    subst hP hw hK
    obtain ⟨⟨old, he⟩, hit, hne⟩ := st
    obtain ⟨xs, x, hq, hx⟩ := hg
    obtain ⟨its, rv, p, hz⟩ := I.tuple hq
    have p : s.heap.IsTuple a its.toArray := p
    obtain ⟨u, hu, ru⟩ := rv.get hx
    have hel : e < s.heap.objs.size := Heap.lt_size he
    have hil : it < s.heap.objs.size := by obtain ⟨_, q, _⟩ := hit; exact Heap.lt_size q
    have hln : i < its.toArray.size := by
      have := (List.getElem?_eq_some_iff.mp hu).1
      simpa using this
    have D := Draws.tuple (prog := X.prog) (w := X.w) (A := X.A.in1) (I.ok.hd hc) it a (tupIt_ne p hit) its.toArray
    refine wpAny_pyNext_enum_itemD D he ⟨hit, p⟩ hln hne (by simp; exact ⟨hne, tupEn_ne p he⟩) fun y h' tk hy ho hst' hT hsz hk => ?_
    have hyu : y = u := by
      have : its[i]? = some y := by simpa using hy
      rw [hu] at this
      cases this
      rfl
    subst hyu
    refine ⟨_, rfl, wpAny_letOwnedTupleGo_enum (s := { s with heap := h', toks := tk + 1 }) ho fun h'' he' sb => ?_⟩
    have hT2 : h''.get? s.heap.objs.size = some { cls := .type "tuple", data := .seq #[.int i tk, y] } := (sb.2 _ (Nat.ne_of_gt hel)).trans hT
    have new : ObjOk X.prog X.w (upd H s.heap.objs.size (.tup [.int (i : Nat), x])) h'' s.heap.objs.size (.tup [.int (i : Nat), x]) :=
      ⟨by show 2 ≤ sizeLine; decide, [.int i tk, y], .cons ⟨_, rfl⟩ (.cons ru .nil), ⟨_, hT2, rfl, _, rfl⟩⟩
    have I1 : Inv X pins σ (upd H s.heap.objs.size (.tup [.int (i : Nat), x])) { s with heap := h'', toks := tk + 1 } :=
      I.turnedNew (ch := [e, it]) (fun b ob hb q => (sb.2 b (fun z => hb (by simp [z]))).trans (hk b ob (fun z => hb (by simp [z])) (fun z => hb (by simp [z])) q)) hf (Nat.le_refl _) new
    refine ⟨.ref s.heap.objs.size, _, I1, rfl, ⟨_, x, rfl, I.hok.fresh (Nat.le_refl _), rfl, fun ys hy2 => by rw [I.tuple_inj hy2 hq]; exact hx⟩, ⟨⟨y, ?_⟩, hst'.1.at fun o q => (sb.2 it (Ne.symm hne)).trans q, hne⟩, fun b hb => ?_⟩
    · have e1 : ((i + 1 : Nat) : Int) = (i : Int) + 1 := by omega
      rw [e1]; exact he'
    · have hb' : b < s.heap.objs.size := by
        have e' : b = e ∨ b = it := by simpa using hb
        rcases e' with z | z
        · rw [z]; exact hel
        · rw [z]; exact hil
      rw [upd_ne (Nat.ne_of_lt hb')]
      exact (hf b hb).1
  done := by
    intro X hP hw hK hc i pins s σ H E I hf st hg
    subst hP hw hK
    obtain ⟨⟨old, he⟩, hit, hne⟩ := st
    obtain ⟨xs, hq, hx⟩ := hg
    obtain ⟨its, rv, p, hz⟩ := I.tuple hq
    have p : s.heap.IsTuple a its.toArray := p
    obtain ⟨f0, f1, f2, f3, f4, f5⟩ := hf it (by simp)
    have hl := rv.length
    exact next_enum_endT (I.ok.hd hc) he hit p (by simp; omega) fun h' eb => ⟨rfl, I.turned (t' := s.toks) (fun b o hb q => eb b o hb q) f0 f1 f3 f4 f5⟩
  self := fun A i s Q E st h => let ⟨⟨_, he⟩, _⟩ := st; wpAny_pyIter_enum he h
def iEnumA (K : PySem.W.Frag) (ta : TA) : TI := fun σ H R => ta σ H fun vs H1 => ∃ a xs, vs = [.ref a] ∧ ((SqL K H1 a xs ∧ R (Ite K a) H1) ∨ (SqT K H1 a xs ∧ R (IteT K a) H1))
theorem pi_enumA {X : Cx} {e : Expr} {ta : TA} {p pos tpos : Pos} {elts : List Expr} {kk : Nat} (hg : Gl X "enumerate") (hm : X.mg "enumerate" = none) (ha : PA X [e] ta) (hs : starEach [e] X.env = [(false, eval e X.env)] := by rfl) :
    PI X (.Tuple elts kk tpos) (.Call (.Name "enumerate" p) [e] [] pos) (iEnumA X.K ta) := by
  refine ⟨fun pins s σ H R I h => ?_⟩
  refine Call_ (ld_blt I hg hm boot_enumerate (PyProof.Rows.callWith_type1 (thn (ha.run pos pins s σ H _ I h) fun us s1 ⟨vs, H1, I1, r1, q1⟩ => ?_) hs rfl))
  obtain ⟨a, xs, ex, q1⟩ := q1
  subst ex
  cases r1 with
  | cons r rr =>
    cases rr
    cases r
    rcases q1 with ⟨hq, q⟩ | ⟨hq, q⟩
    · obtain ⟨its, rv, p', hz⟩ := I1.list hq
      refine call_enumerate_list p'.isList fun h' he hit hsz hk => wpAny_pyIter_enum he ?_
      have I2 : Inv X pins σ H1 { s1 with heap := h' } := I1.kept (t' := s1.toks) hk
      refine ⟨s1.heap.objs.size + 1, [s1.heap.objs.size + 1, s1.heap.objs.size], _, _, H1, rfl, I2, turn_enum a (s1.heap.objs.size + 1) s1.heap.objs.size, ⟨⟨.none, he⟩, hit, Nat.succ_ne_self _⟩, fun b hb => ?_, q⟩
      have e' : b = s1.heap.objs.size + 1 ∨ b = s1.heap.objs.size := by simpa using hb
      have hle : s1.heap.objs.size ≤ b := by
        rcases e' with z | z
        · rw [z]; exact Nat.le_add_right _ _
        · rw [z]; exact Nat.le_refl _
      exact I1.fpOk hle (I1.hok.fresh hle)
    · obtain ⟨its, rv, p', hz⟩ := I1.tuple hq
      refine call_enum_tuple (items := its.toArray) p' fun h' he hit hsz hk => wpAny_pyIter_enum he ?_
      have I2 : Inv X pins σ H1 { s1 with heap := h' } := I1.kept (t' := s1.toks) hk
      refine ⟨s1.heap.objs.size + 1, [s1.heap.objs.size + 1, s1.heap.objs.size], _, _, H1, rfl, I2, turn_enumT a (s1.heap.objs.size + 1) s1.heap.objs.size, ⟨⟨.none, he⟩, hit, Nat.succ_ne_self _⟩, fun b hb => ?_, q⟩
      have e' : b = s1.heap.objs.size + 1 ∨ b = s1.heap.objs.size := by simpa using hb
      have hle : s1.heap.objs.size ≤ b := by
        rcases e' with z | z
        · rw [z]; exact Nat.le_add_right _ _
        · rw [z]; exact Nat.le_refl _
      exact I1.fpOk hle (I1.hok.fresh hle)
theorem jok_enumT {K : PySem.W.Frag} {B : Hp} {a : Addr} {xs : List V} {l : List D} (h1 : SqT K B a xs) (h2 : DpAll K B xs l) : JOk K B (IteT K a) (enumD l) := fun B2 H2 s1 s2 i => by
  have hq : SqT K H2 a xs := sqt_mono (s1.trans s2) h1
  unfold enumD
  refine ⟨fun d hd => ?_, fun hl => ⟨xs, hq, by rw [DpAll.length h2]; have hl := Nat.le_of_eq hl; simpa using hl⟩⟩
  rw [List.getElem?_mapIdx] at hd
  cases e0 : l[i]? with
  | none => rw [e0] at hd; cases hd
  | some d0 =>
    rw [e0] at hd
    cases hd
    obtain ⟨v, e1, e2⟩ := DpAll.get h2 e0
    refine ⟨⟨xs, v, hq, e1⟩, fun x H3 q => ?_⟩
    obtain ⟨T, y, rfl, hT, rfl, q⟩ := q
    have := q xs hq
    rw [e1] at this
    cases this
    exact jok_new s2 hT (.cons (.int _) (.cons (Dp.mono s1 e2) .nil))
/-- enumerate of a list or a tuple -/
def mEnumA (f : M (List Rs)) : M (List D) := M.bind f fun rs => M.bind (freezeAll rs) fun ds ρ => match ds with
  | [.list l] => some (.ok (enumD l) ρ)
  | [.tuple l] => some (.ok (enumD l) ρ)
  | _ => none
theorem di_enumA {X : Cx} {vs0 : List V} {elts : List Expr} {kk : Nat} {tpos : Pos} {e : Expr} {fa : M (List Rs)} {p pos : Pos} (hg : Gl X "enumerate") (hm : X.mg "enumerate" = none) (ha : PA X [e] (rdA X.K vs0 fa)) (hs : starEach [e] X.env = [(false, eval e X.env)] := by rfl) :
    PI X (.Tuple elts kk tpos) (.Call (.Name "enumerate" p) [e] [] pos) (rdI X.K vs0 (mEnumA fa)) := PI.imp (pi_enumA hg hm ha hs) fun σ H R q => by
  obtain ⟨B, ρ, fs, g, l, ρ', e1, k⟩ := q
  obtain ⟨rs, ρ1, e2, e3⟩ := M.bind_ok e1
  obtain ⟨ds, ρ2, e4, e5⟩ := M.bind_ok e3
  split at e5
  · cases e5
    refine ⟨B, ρ, fs, g, rs, ρ1, e2, fun vs B1 H1 fs1 Ts fr g1 ok nd => ?_⟩
    obtain ⟨B2, fs2, fr2, g2, d2⟩ := freezeAll_ok g1 ok nd e4
    cases d2 with
    | cons d2 d3 =>
      cases d3
      cases d2 with
      | lst h1 h2 => exact ⟨_, _, rfl, Or.inl ⟨sql_mono g2.ext h1, k _ B2 H1 fs2 (fr.trans fr2) g2 (jok_enum h1 h2)⟩⟩
  · cases e5
    refine ⟨B, ρ, fs, g, rs, ρ1, e2, fun vs B1 H1 fs1 Ts fr g1 ok nd => ?_⟩
    obtain ⟨B2, fs2, fr2, g2, d2⟩ := freezeAll_ok g1 ok nd e4
    cases d2 with
    | cons d2 d3 =>
      cases d3
      cases d2 with
      | tup h1 h2 => exact ⟨_, _, rfl, Or.inr ⟨sqt_mono g2.ext h1, k _ B2 H1 fs2 (fr.trans fr2) g2 (jok_enumT h1 h2)⟩⟩
  · cases e5
end Pd

set_option Elab.async false
set_option linter.all false
set_option maxRecDepth 100000
set_option maxHeartbeats 1000000
namespace Pd
open PySem PySem.Spec PyProof.Rows L2
namespace B
section
variable {ρ : Env}
def enumAQ (ρ : Env) (Q : List D → Env → Prop) : List D → Prop
  | [.list l] => Q (enumD l) ρ
  | [.tuple l] => Q (enumD l) ρ
  | _ => False
@[simp] theorem enumAQ_l {Q : List D → Env → Prop} {l : List D} : enumAQ ρ Q [.list l] = Q (enumD l) ρ := rfl
@[simp] theorem enumAQ_t {Q : List D → Env → Prop} {l : List D} : enumAQ ρ Q [.tuple l] = Q (enumD l) ρ := rfl
@[simp ↓] theorem ev_mEnumA {f : M (List Rs)} {Q : List D → Env → Prop} : Ev (mEnumA f) ρ Q ↔ Ev f ρ fun rs ρ1 => Ev (freezeAll rs) ρ1 fun ds ρ2 => enumAQ ρ2 Q ds := by
  unfold mEnumA
  simp only [ev_bind]
  constructor
  · rintro ⟨rs, ρ1, e, ds, ρ2, e2, b, ρ3, e3, q⟩
    refine ⟨rs, ρ1, e, ds, ρ2, e2, ?_⟩
    try dsimp only at e3
    split at e3
    · cases e3; exact q
    · cases e3; exact q
    · cases e3
  · rintro ⟨rs, ρ1, e, ds, ρ2, e2, q⟩
    refine ⟨rs, ρ1, e, ds, ρ2, e2, ?_⟩
    try dsimp only at q
    unfold enumAQ at q
    split at q
    · exact ⟨_, ρ2, rfl, q⟩
    · exact ⟨_, ρ2, rfl, q⟩
    · exact q.elim
end
end B
end Pd

set_option Elab.async false
set_option linter.all false
set_option maxRecDepth 100000
set_option maxHeartbeats 1000000
namespace Pd
open PySem PySem.Spec PyProof.Rows L2
section
variable {ρ : Env}
def enumAQ (ρ : Env) (Q : List D → Env → Prop) [Fx Q] (o0 : List D) : Prop := B.enumAQ ρ Q o0
@[simp] theorem enumAQ_l {Q : List D → Env → Prop} {l : List D} : enumAQ ρ Q [.list l] = Q (enumD l) ρ := B.enumAQ_l
@[simp] theorem enumAQ_t {Q : List D → Env → Prop} {l : List D} : enumAQ ρ Q [.tuple l] = Q (enumD l) ρ := B.enumAQ_t
@[simp ↓] theorem ev_mEnumA {f : M (List Rs)} {Q : List D → Env → Prop} : Ev (mEnumA f) ρ Q ↔ Ev f ρ fun rs ρ1 => Ev (freezeAll rs) ρ1 fun ds ρ2 => enumAQ ρ2 Q ds := B.ev_mEnumA
end
end Pd


set_option Elab.async false
set_option linter.all false
set_option maxRecDepth 100000
set_option maxHeartbeats 1000000
namespace Pd
open PySem PySem.Spec PyProof.Rows L2
/-! ### a comprehension over a list that a name holds and that may change later: walked as it stands -/
def compL (j : Nat) (own : List Nat) (t : D → Env → Option Env) (tt : M Bool) (te : M Rs) : Nat → Nat → List D → M (List D)
  | 0, _, _ => M.fail
  | n + 1, i, acc => fun ρ => match (wipeE ρ own)[j]? with
    | some (some (.ml _ l)) => match l[i]? with
      | none => some (.ok acc ρ)
      | some d => match t d (wipeE ρ own) with
        | none => none
        | some ρ1 => match tt ρ1 with
          | none => none
          | some (.ok false ρ2) => compL j own t tt te n (i + 1) acc ρ2
          | some (.ok true ρ2) => match M.bind te freezeR ρ2 with
            | none => none
            | some (.ok y ρ3) => if acc.length < sizeLine then compL j own t tt te n (i + 1) (acc ++ [y]) ρ3 else none
    | _ => none
def eLcL (j : Nat) (own : List Nat) (t : D → Env → Option Env) (tt : M Bool) (te : M Rs) : M Rs := fun ρ => if plainAt ρ own = true then
    match ρ[j]? with
    | some (some (.ml _ _)) => match compL j own t tt te fuel 0 [] ρ with
      | some (.ok acc ρ1) => some (.ok (.own (.ml none acc)) (backE ρ (wipeE ρ1 own) own))
      | none => none
    | _ => none
  else none
section
variable {K : PySem.W.Frag} {vs0 : List V}
theorem rd_lcL {jj : Nat} {own is : List Nat} {t : D → Env → Option Env} {tt : M Bool} {te : M Rs} (his : ∀ i ∈ is, i ∈ own) {σ : L2.St} {H : Hp} {Q : VK} (q : rdE K vs0 (eLcL jj own t tt te) σ H Q) :
    tLc (iList K (tVar jj)) (rdG K vs0 is t) (rdT K vs0 tt) (rdE K vs0 te) own σ H Q := by
  obtain ⟨B, ρ, fs, gd, r, ρ', e1, k⟩ := q
  unfold eLcL at e1
  split at e1
  · rename_i hpl
    split at e1
    · rename_i tg0 l0 e0
      split at e1
      · rename_i accE ρE e4
        cases e1
        obtain ⟨v, hv, ⟨a, ys, rfl, hfa, ha1, ha2⟩, _⟩ := gd.at_ jj _ e0
        refine ⟨.ref a, hv, a, rfl, ⟨ys, Or.inl (Or.inl ha1)⟩, fun Dl hD => ?_⟩
        refine ⟨fun i m H2 => ∃ B2 ρ2 fs2 acc xs, Good K vs0 B2 H2 (wipe σ own) (wipeE ρ2 own) fs2 ∧ Fr B H (InF fs) B2 H2 (UnF (InF fs2) [Dl]) ∧ H2 Dl = some (.lst xs) ∧ DpAll K B2 xs acc ∧ B2 Dl = none ∧ (∀ j, Dl ∉ fs2 j) ∧ compL jj own t tt te m i acc ρ2 = some (.ok accE ρE), ⟨fuel, ?_⟩, ?_⟩
        · have frn := Fr.newL (B := B) (o := HO.lst []) hD
          have g2 := gd.grow frn (fun _ _ f => f) (gd.ext.trans frn.sameH)
          obtain ⟨fs2, g3, s3⟩ := g2.wipes own
          refine ⟨B, ρ, fs2, [], [], g3, frn.weak (fun _ f => f.elim) (fun a f => ?_), upd_same, .nil, ?_, fun j hj => ?_, e4⟩
          · rcases f with f | f
            · exact Or.inr (Or.inl (s3 a f))
            · exact Or.inl f
          · cases q : B Dl with
            | none => rfl
            | some u => rw [gd.ext Dl u q] at hD; cases hD
          · obtain ⟨j', hj'⟩ := s3 Dl ⟨j, hj⟩
            exact gd.lives hj' hD
        · rintro i m H2 ⟨B2, ρ2, fs2, acc, xs, g2, fr2, h2, d2, b2, n2, e5⟩
          cases m with
          | zero => cases e5
          | succ m =>
          unfold compL at e5
          split at e5
          · rename_i tg1 l1 e10
            obtain ⟨v1, hv1, ⟨a1, zs, rfl, _, hz1, hz2⟩, _⟩ := g2.at_ jj _ e10
            have ea : a1 = a := by
              have := (L2.wipe_some hv1).1
              rw [hv] at this
              cases this
              rfl
            subst ea
            have hsq : SqL K H2 a1 zs := Or.inl (Or.inl hz1)
            split at e5
            · rename_i e11
              left
              refine ⟨⟨zs, hsq, by rw [DpAll.length hz2]; exact List.getElem?_eq_none_iff.mp e11⟩, ?_⟩
              cases e5
              refine k (.ref Dl) B2 H2 fs2 [Dl] fr2 (gd.back fr2.bb hpl g2) ⟨⟨Dl, xs, rfl, rfl, h2, d2⟩, rfl, fun a ha => ?_⟩
              simp at ha
              subst ha
              exact ⟨b2, n2⟩
            · rename_i d0 e11
              right
              obtain ⟨x0, hx0, dx0⟩ := DpAll.get hz2 e11
              split at e5
              · cases e5
              · rename_i ρ3 e6
                refine ⟨⟨zs, x0, hsq, hx0⟩, fun H' => (∃ B2 ρ2 fs2 acc xs, Good K vs0 B2 H' (wipe σ own) (wipeE ρ2 own) fs2 ∧ Fr B H (InF fs) B2 H' (UnF (InF fs2) [Dl]) ∧ H' Dl = some (.lst xs) ∧ DpAll K B2 xs acc ∧ B2 Dl = none ∧ (∀ j, Dl ∉ fs2 j) ∧ compL jj own t tt te m (i + 1) acc ρ2 = some (.ok accE ρE)), fun H' n => ⟨m, Nat.lt_succ_self m, n⟩, fun x H3 hy => ?_⟩
                obtain ⟨rfl, hy⟩ := hy
                have hxx := hy zs hsq
                rw [hx0] at hxx
                cases hxx
                have h3 := h2
                have b3 := b2
                have g3 := g2
                have d3 := dx0
                have fr3 := Fr.refl B2 H3 (fun _ => False)
                have fr03 := fr2
                refine ⟨B2, wipeE ρ2 own, fs2, _, ρ3, g3, d3, e6, fun σ4 fs4 g4 s4 a4 l4 => ?_⟩
                have hw : wipe σ4 own = wipe σ own := wipe_eq his (l4.trans (L2.wipe_length σ own)) a4
                refine ⟨hw, ?_⟩
                have n4 : ∀ j, Dl ∉ fs4 j := fun j hj => by
                  obtain ⟨j', hj'⟩ := s4 Dl ⟨j, hj⟩
                  exact n2 j' hj'
                split at e5
                · cases e5
                · rename_i ρ4 e7
                  refine ⟨B2, ρ3, fs4, g4, false, ρ4, e7, fun B5 H5 fs5 fr5 g5 => ?_⟩
                  dsimp only
                  rw [if_neg (by decide)]
                  have nF : ¬ InF fs4 Dl := fun ⟨j, hj⟩ => n4 j hj
                  have live3 : H3 Dl ≠ none := by rw [h3]; simp
                  obtain ⟨fs6, g6, s6⟩ := g5.wipes own
                  rw [hw] at g6
                  refine ⟨B5, ρ4, fs6, acc, xs, g6, ?_, by rw [fr5.keep Dl live3 nF]; exact h3, DpAll.mono (fr3.bb.trans fr5.bb) d2, fr5.bnew Dl live3 nF b3, fun j hj => ?_, e5⟩
                  · refine fr03.trans ((fr5.frame [Dl]).weak (fun a h => ?_) fun a h => ?_)
                    · rcases h with h | h
                      · exact Or.inl (s4 a h)
                      · exact Or.inr h
                    · rcases h with h | h
                      · exact Or.inl (Or.inl (s6 a h))
                      · exact Or.inl (Or.inr h)
                  · rcases fr5.own Dl (s6 Dl ⟨j, hj⟩) with q | q
                    · exact nF q
                    · exact live3 q
                · rename_i ρ4 e7
                  refine ⟨B2, ρ3, fs4, g4, true, ρ4, e7, fun B5 H5 fs5 fr5 g5 => ?_⟩
                  dsimp only
                  rw [if_pos rfl]
                  have nF : ¬ InF fs4 Dl := fun ⟨j, hj⟩ => n4 j hj
                  have live3 : H3 Dl ≠ none := by rw [h3]; simp
                  have h5 : H5 Dl = some (.lst xs) := by rw [fr5.keep Dl live3 nF]; exact h3
                  have b5 := fr5.bnew Dl live3 nF b3
                  have live5 : H5 Dl ≠ none := by rw [h5]; simp
                  have nF5 : ¬ InF fs5 Dl := fun f => by
                    rcases fr5.own Dl f with q | q
                    · exact nF q
                    · exact live3 q
                  split at e5
                  · cases e5
                  · rename_i y ρ5 e8
                    split at e5
                    · rename_i hsz
                      obtain ⟨r6, ρ6, e9, e10⟩ := M.bind_ok e8
                      refine ⟨B5, ρ4, fs5, g5, r6, ρ6, e9, fun v B6 H6 fs6 T6 fr6 g6 ok6 => ?_⟩
                      have h6 : H6 Dl = some (.lst xs) := by rw [fr6.keep Dl live5 nF5]; exact h5
                      have b6 := fr6.bnew Dl live5 nF5 b5
                      have live6 : H6 Dl ≠ none := by rw [h6]; simp
                      have nF6 : ¬ UnF (InF fs6) T6 Dl := fun f => by
                        rcases fr6.own Dl f with q | q
                        · exact nF5 q
                        · exact live5 q
                      obtain ⟨B7, fs7, fr7, g7, d7⟩ := freezeR_ok g6 ok6 e10
                      have b7 := fr7.bnew Dl live6 nF6 b6
                      have nF7 : ¬ InF fs7 Dl := fun f => by
                        rcases fr7.own Dl f with q | q
                        · exact nF6 q
                        · exact live6 q
                      have dx : DpAll K B7 xs acc := DpAll.mono (((fr3.bb.trans fr5.bb).trans fr6.bb).trans fr7.bb) d2
                      refine ⟨xs, h6, by rw [DpAll.length d2]; exact hsz, ?_⟩
                      have g8 := g7.mutOut (o := HO.lst (xs ++ [v])) b7 fun i hi => nF7 ⟨i, hi⟩
                      obtain ⟨fs9, g9, s9⟩ := g8.wipes own
                      rw [hw] at g9
                      refine ⟨B7, ρ5, fs9, acc ++ [y], xs ++ [v], g9, ?_, upd_same, DpAll.append dx (DpAll.one d7), b7, fun j hj => nF7 (s9 Dl ⟨j, hj⟩), e5⟩
                      have frA : Fr B2 H3 (UnF (InF fs4) [Dl]) B7 H6 (UnF (InF fs7) [Dl]) := (fr5.frame [Dl]).trans ((fr6.frame [Dl]).trans ((fr7.frame [Dl]).weak (fun a h => h) fun a h => Or.inl h))
                      have frB : Fr B7 H6 (UnF (InF fs7) [Dl]) B7 (upd H6 Dl (HO.lst (xs ++ [v]))) (UnF (InF fs7) [Dl]) := Fr.mut (Or.inr (by simp))
                      refine fr03.trans ((frA.trans frB).weak (fun a h => ?_) fun a h => ?_)
                      · rcases h with h | h
                        · exact Or.inl (s4 a h)
                        · exact Or.inr h
                      · rcases h with h | h
                        · exact Or.inl (Or.inl (s9 a h))
                        · exact Or.inl (Or.inr h)
                    · cases e5
          · cases e5
      · cases e1
    · cases e1
  · cases e1
end
def eLcN (j : Nat) (own : List Nat) (t : D → Env → Option Env) (tt : M Bool) (te : M Rs) : M Rs := fun ρ => match ρ[j]? with
  | some (some (.ml _ _)) => eLcL j own t tt te ρ
  | _ => eLc (mSeq (eName j)) own t tt te ρ
theorem rd_lcN {K : PySem.W.Frag} {vs0 : List V} {jj : Nat} {own is : List Nat} {t : D → Env → Option Env} {tt : M Bool} {te : M Rs} (his : ∀ i ∈ is, i ∈ own) {σ : L2.St} {H : Hp} {Q : VK} (q : rdE K vs0 (eLcN jj own t tt te) σ H Q) :
    tLc (fun σ H R => iList K (tVar jj) σ H R ∨ rdI K vs0 (mSeq (eName jj)) σ H R) (rdG K vs0 is t) (rdT K vs0 tt) (rdE K vs0 te) own σ H Q := by
  obtain ⟨B, ρ, fs, gd, r, ρ', e1, k⟩ := q
  unfold eLcN at e1
  split at e1
  · exact Or.inl (rd_lcL his ⟨B, ρ, fs, gd, r, ρ', e1, k⟩)
  · exact Or.inr (rd_lc his ⟨B, ρ, fs, gd, r, ρ', e1, k⟩)
section
variable {X : Cx} {vs0 : List V}
theorem de_lcN {j : Nat} {elt tg iter : Expr} {ifs : List Expr} {scope : Scope} {own : List (Str × Nat)} {is : List Nat} {pos : Pos} {t : D → Env → Option Env} {tt : M Bool} {te : M Rs} (hc : X.calm = true) (hN : X.N.Nodup) (hi : PE X iter (tVar j)) (ok : BlkOk X.N X.env.scope scope own)
    (his : ∀ i ∈ is, i ∈ own.map (·.2))
    (hg : ∀ (s : Shared) (H : Hp) (C : Addr) (cl : List (Str × Addr)) (fp : List Addr), PG (X.blk s H scope (compEnvC scope cl C X.env) fp) tg (rdG X.K vs0 is t)) (ht : ∀ (s : Shared) (H : Hp) (C : Addr) (cl : List (Str × Addr)) (fp : List Addr), PTs (X.blk s H scope (compEnvC scope cl C X.env) fp) ifs (rdT X.K vs0 tt))
    (he : ∀ (s : Shared) (H : Hp) (C : Addr) (cl : List (Str × Addr)) (fp : List Addr), PE (X.blk s H scope (compEnvC scope cl C X.env) fp) elt (rdE X.K vs0 te)) (hs : ∀ x, foldedSetIterable iter X.env x = pure x := by intro _; rfl) :
    PE X (.ListComp elt [⟨tg, iter, ifs, 0⟩] scope pos) (rdE X.K vs0 (eLcN j (own.map (·.2)) t tt te)) := PE.imp (pe_lc hc hN (PI.or (pi_list hi) (di_seq (de_var hi))) ok hg ht he hs) fun σ H Q q => rd_lcN his q
theorem ds_setLcN {i j : Nat} {y : Str} {py : Pos} {elt tg iter : Expr} {ifs : List Expr} {scope : Scope} {own : List (Str × Nat)} {is : List Nat} {pos spos : Pos} {t : D → Env → Option Env} {tt : M Bool} {te : M Rs} (hc : X.calm = true) (hN : X.N.Nodup) (hy : X.N[i]? = some y) (hyl : X.env.scope.names.lookup y = some .local)
    (hsw : swapsWith (.ListComp elt [⟨tg, iter, ifs, 0⟩] scope pos) (some (.Name y py)) spos.line X.env = pure true) (hi : PE X iter (tVar j)) (ok : BlkOk X.N X.env.scope scope own)
    (his : ∀ i ∈ is, i ∈ own.map (·.2))
    (hg : ∀ (s : Shared) (H : Hp) (C : Addr) (cl : List (Str × Addr)) (fp : List Addr), PG (X.blk s H scope (compEnvC scope cl C X.env) fp) tg (rdG X.K vs0 is t)) (ht : ∀ (s : Shared) (H : Hp) (C : Addr) (cl : List (Str × Addr)) (fp : List Addr), PTs (X.blk s H scope (compEnvC scope cl C X.env) fp) ifs (rdT X.K vs0 tt))
    (he : ∀ (s : Shared) (H : Hp) (C : Addr) (cl : List (Str × Addr)) (fp : List Addr), PE (X.blk s H scope (compEnvC scope cl C X.env) fp) elt (rdE X.K vs0 te)) (hs : ∀ x, foldedSetIterable iter X.env x = pure x := by intro _; rfl) :
    PS X (.Assign [.Name y py] (.ListComp elt [⟨tg, iter, ifs, 0⟩] scope pos) spos) (rdS X.K vs0 (gSet i (eLcN j (own.map (·.2)) t tt te))) := PS.imp (ps_setLc hc hN hy hyl hsw (PI.or (pi_list hi) (di_seq (de_var hi))) ok hg ht he hs) fun D σ H q => by
  obtain ⟨B, ρ, fs, gd, fl, ρ', e1, k⟩ := q
  exact rd_lcN (Q := fun x H1 => gName i x σ H1 D.nx) his (rd_set ⟨B, ρ, fs, gd, fl, ρ', e1, k⟩)
end
end Pd

set_option Elab.async false
set_option linter.all false
set_option maxRecDepth 100000
set_option maxHeartbeats 1000000
namespace Pd
open PySem PySem.Spec PyProof.Rows L2
namespace B
section
variable {ρ : Env} {j : Nat} {own : List Nat} {t : D → Env → Option Env} {tt : M Bool} {te : M Rs}
def lcNQ (j : Nat) (own : List Nat) (t : D → Env → Option Env) (tt : M Bool) (te : M Rs) (ρ : Env) (Q : Rs → Env → Prop) : Option (Option Sl) → Prop
  | some (some (.ml _ _)) => plainAt ρ own = true ∧ Ev (compL j own t tt te fuel 0 []) ρ fun acc ρ1 => Q (.own (.ml none acc)) (backE ρ (wipeE ρ1 own) own)
  | _ => Ev (eLc (mSeq (eName j)) own t tt te) ρ Q
@[simp] theorem lcNQ_ml {Q : Rs → Env → Prop} {tg : Option Nat} {l : List D} : lcNQ j own t tt te ρ Q (some (some (.ml tg l))) = (plainAt ρ own = true ∧ Ev (compL j own t tt te fuel 0 []) ρ fun acc ρ1 => Q (.own (.ml none acc)) (backE ρ (wipeE ρ1 own) own)) := rfl
@[simp] theorem lcNQ_p {Q : Rs → Env → Prop} {d : D} : lcNQ j own t tt te ρ Q (some (some (.p d))) = Ev (eLc (mSeq (eName j)) own t tt te) ρ Q := rfl
@[simp ↓] theorem ev_lcN {Q : Rs → Env → Prop} : Ev (eLcN j own t tt te) ρ Q ↔ lcNQ j own t tt te ρ Q ρ[j]? := by
  constructor
  · rintro ⟨r, ρ', e, q⟩
    unfold eLcN at e
    split at e
    · rename_i tg l h
      rw [h]
      unfold eLcL at e
      split at e
      · rename_i hp
        rw [h] at e
        dsimp only at e
        split at e
        · rename_i acc ρ1 h2
          cases e
          exact ⟨hp, acc, ρ1, h2, q⟩
        · cases e
      · cases e
    · rename_i hn
      unfold lcNQ
      split
      · rename_i tg l h
        exact (hn tg l h).elim
      · exact ⟨r, ρ', e, q⟩
  · intro q
    unfold lcNQ at q
    split at q
    · rename_i tg l h
      obtain ⟨hp, acc, ρ1, h2, q⟩ := q
      refine ⟨_, _, ?_, q⟩
      unfold eLcN
      rw [h]
      dsimp only
      unfold eLcL
      rw [if_pos hp, h]
      dsimp only
      rw [h2]
    · rename_i hn
      obtain ⟨r, ρ', e, q⟩ := q
      refine ⟨r, ρ', ?_, q⟩
      unfold eLcN
      split
      · rename_i tg l h
        exact (hn tg l h).elim
      · exact e
/-- a comprehension over a live list that changes nothing -/
theorem ev_compL_pure {Q : List D → Env → Prop} {α : Type} (f g : α → D) (c : α → Bool) {l : List α} {tg : Option Nat} (hj : (wipeE ρ own)[j]? = some (some (.ml tg (l.map f)))) (hn : l.length < sizeLine)
    (hs : ∀ x ∈ l, envQ (fun ρ1 => Ev tt ρ1 fun b ρ2 => b = c x ∧ if b = true then Ev te ρ2 fun r ρ3 => Ev (freezeR r) ρ3 fun y ρ4 => y = g x ∧ wipeE ρ4 own = wipeE ρ own else wipeE ρ2 own = wipeE ρ own) (t (f x) (wipeE ρ own)))
    (hd : ∀ ρ', wipeE ρ' own = wipeE ρ own → Q ((l.filter c).map g) ρ') : Ev (compL j own t tt te fuel 0 []) ρ Q := by
  have main : ∀ (n i : Nat) (acc : List D) (ρ1 : Env), l.length - i < n → i ≤ l.length → wipeE ρ1 own = wipeE ρ own → acc = ((l.take i).filter c).map g → Ev (compL j own t tt te n i acc) ρ1 Q := by
    intro n
    induction n with
    | zero => intro i acc ρ1 h; exact (Nat.not_lt_zero _ h).elim
    | succ n ih =>
      intro i acc ρ1 hm hi hw ha
      by_cases hil : i < l.length
      · have h := hs _ (List.getElem_mem hil)
        have htk : l.take (i + 1) = l.take i ++ [l[i]] := by rw [List.take_succ, List.getElem?_eq_getElem hil]; rfl
        have hge : (l.map f)[i]? = some (f l[i]) := by rw [List.getElem?_map, List.getElem?_eq_getElem hil]; rfl
        have hal : acc.length < sizeLine := by
          rw [ha, List.length_map]
          have h1 := List.length_filter_le c (l.take i)
          have h2 := List.length_take_le i l
          omega
        unfold envQ at h
        split at h
        · rename_i ρ2 e2
          obtain ⟨b, ρ3, e3, hb, q⟩ := h
          cases b with
          | false =>
            rw [if_neg (by decide)] at q
            obtain ⟨a, ρ5, e5, q5⟩ := ih (i + 1) acc ρ3 (by omega) hil q (by rw [ha, htk, List.filter_append, List.filter_cons, ← hb]; simp)
            refine ⟨a, ρ5, ?_, q5⟩
            unfold compL
            simp only [hw, hj, hge, e2, e3]
            exact e5
          | true =>
            rw [if_pos rfl] at q
            obtain ⟨rr, ρ4, e4, y, ρ5, e5, rfl, q⟩ := q
            obtain ⟨a, ρ6, e6, q6⟩ := ih (i + 1) (acc ++ [g l[i]]) ρ5 (by omega) hil q (by rw [ha, htk, List.filter_append, List.filter_cons, ← hb]; simp)
            refine ⟨a, ρ6, ?_, q6⟩
            have hb2 : M.bind te freezeR ρ3 = some (.ok (g l[i]) ρ5) := by unfold M.bind; simp only [e4, e5]
            unfold compL
            simp only [hw, hj, hge, e2, e3, hb2, if_pos hal]
            exact e6
        · exact h.elim
      · have hie : i = l.length := by omega
        have hge : (l.map f)[i]? = none := by rw [List.getElem?_eq_none]; simp; omega
        refine ⟨acc, ρ1, ?_, ?_⟩
        · unfold compL
          simp only [hw, hj, hge]
        · rw [ha, hie, List.take_of_length_le (Nat.le_refl _)]
          exact hd ρ1 hw
  refine main fuel 0 [] ρ ?_ (Nat.zero_le _) rfl (by simp)
  have : sizeLine < fuel := by decide
  omega
end
end B
end Pd

set_option Elab.async false
set_option linter.all false
set_option maxRecDepth 100000
set_option maxHeartbeats 1000000
namespace Pd
open PySem PySem.Spec PyProof.Rows L2
section
variable {ρ : Env} {j : Nat} {own : List Nat} {t : D → Env → Option Env} {tt : M Bool} {te : M Rs}
def lcNQ (j : Nat) (own : List Nat) (t : D → Env → Option Env) (tt : M Bool) (te : M Rs) (ρ : Env) (Q : Rs → Env → Prop) [Fx Q] (o0 : Option (Option Sl)) : Prop := B.lcNQ j own t tt te ρ Q o0
@[simp] theorem lcNQ_ml {Q : Rs → Env → Prop} {tg : Option Nat} {l : List D} : lcNQ j own t tt te ρ Q (some (some (.ml tg l))) = (plainAt ρ own = true ∧ Ev (compL j own t tt te fuel 0 []) ρ fun acc ρ1 => Q (.own (.ml none acc)) (backE ρ (wipeE ρ1 own) own)) := B.lcNQ_ml
@[simp] theorem lcNQ_p {Q : Rs → Env → Prop} {d : D} : lcNQ j own t tt te ρ Q (some (some (.p d))) = Ev (eLc (mSeq (eName j)) own t tt te) ρ Q := B.lcNQ_p
@[simp ↓] theorem ev_lcN {Q : Rs → Env → Prop} : Ev (eLcN j own t tt te) ρ Q ↔ lcNQ j own t tt te ρ Q ρ[j]? := B.ev_lcN
/-- a comprehension over a live list that changes nothing -/
theorem ev_compL_pure {Q : List D → Env → Prop} {α : Type} (f g : α → D) (c : α → Bool) {l : List α} {tg : Option Nat} (hj : (wipeE ρ own)[j]? = some (some (.ml tg (l.map f)))) (hn : l.length < sizeLine)
    (hs : ∀ x ∈ l, envQ (fun ρ1 => Ev tt ρ1 fun b ρ2 => b = c x ∧ if b = true then Ev te ρ2 fun r ρ3 => Ev (freezeR r) ρ3 fun y ρ4 => y = g x ∧ wipeE ρ4 own = wipeE ρ own else wipeE ρ2 own = wipeE ρ own) (t (f x) (wipeE ρ own)))
    (hd : ∀ ρ', wipeE ρ' own = wipeE ρ own → Q ((l.filter c).map g) ρ') : Ev (compL j own t tt te fuel 0 []) ρ Q := B.ev_compL_pure f g c hj hn hs hd
end
end Pd


set_option Elab.async false
set_option linter.all false
set_option maxRecDepth 100000
set_option maxHeartbeats 1000000
namespace Pd
open PySem PySem.Spec PyProof.Rows L2
/-! ### zip of lists and tuples in any mixture (true: a tuple) -/
def SqB (K : PySem.W.Frag) (b : Bool) (H : Hp) (a : Addr) (xs : List V) : Prop := match b with
  | true => SqT K H a xs
  | false => SqL K H a xs
def ItrB (b : Bool) (h : Heap) (it a : Addr) (i : Nat) : Prop := match b with
  | true => h.IsTupleIter it a i
  | false => h.IsListIter it a i
def IsB (b : Bool) (h : Heap) (a : Addr) (items : Array Value) : Prop := match b with
  | true => h.IsTuple a items
  | false => h.IsList a items
def objB (b : Bool) (a : Addr) : Obj := match b with
  | true => { cls := .type "tuple_iterator", data := .fields #[.ref a, .int 0 0] }
  | false => { cls := .type "list_iterator", data := .fields #[.ref a, .int 0 0] }
theorem beginsB (b : Bool) (a : Addr) (items : Array Value) : Begins (.ref a) (objB b a) fun h => IsB b h a items := by
  cases b with
  | true => exact begins_tuple a items
  | false => exact begins_list a items
theorem itrB_obj {b : Bool} {h : Heap} {it a : Addr} {i : Nat} (x : ItrB b h it a i) : ∃ o, h.get? it = some o ∧ ∀ v, o.data ≠ .cell v := by
  cases b with
  | true => obtain ⟨o, e, _, d⟩ := x; exact ⟨o, e, fun v q => by rw [d] at q; cases q⟩
  | false => obtain ⟨o, e, _, d⟩ := x; exact ⟨o, e, fun v q => by rw [d] at q; cases q⟩
theorem itrB_at {b : Bool} {h h' : Heap} {it a : Addr} {i : Nat} (x : ItrB b h it a i) (k : ∀ o, h.get? it = some o → h'.get? it = some o) : ItrB b h' it a i := by
  cases b with
  | true => exact Heap.IsTupleIter.at x k
  | false => exact Heap.IsListIter.at x k
theorem itrB_new {b : Bool} {h : Heap} {it a : Addr} (x : h.get? it = some (objB b a)) : ItrB b h it a 0 := by
  cases b with
  | true => exact ⟨_, x, rfl, rfl⟩
  | false => exact ⟨_, x, rfl, rfl⟩
theorem isB_lt {b : Bool} {h : Heap} {a : Addr} {items : Array Value} (x : IsB b h a items) : a < h.objs.size := by
  cases b with
  | true => obtain ⟨o, e, _⟩ := x; exact Heap.lt_size e
  | false => obtain ⟨o, e, _⟩ := x; exact Heap.lt_size e
theorem drawsB {prog : Program} {w : World} {A : Around} (b : Bool) (hh : A.handled = none) (it a : Addr) (hne : a ≠ it) (items : Array Value) :
    Draws prog w A it [it, a] items.size (fun i v => items[i]? = some v) (fun i h => ItrB b h it a i ∧ IsB b h a items) := by
  cases b with
  | true => exact Draws.tuple hh it a hne items
  | false => exact Draws.list hh it a hne items
section
variable {X : Cx} {pins : List (Addr × Obj)} {σ : L2.St} {H : Hp} {s : Shared} {b : Bool} {a : Addr} {xs ys : List V}
theorem invB (I : Inv X pins σ H s) (h : SqB X.K b H a xs) : ∃ its, Vals xs its ∧ IsB b s.heap a its.toArray := by
  cases b with
  | true => obtain ⟨its, rv, p, _⟩ := I.tuple h; exact ⟨its, rv, p⟩
  | false => obtain ⟨its, rv, p, _⟩ := I.list h; exact ⟨its, rv, p.isList⟩
theorem injB (I : Inv X pins σ H s) (h : SqB X.K b H a xs) (h' : SqB X.K b H a ys) : xs = ys := by
  cases b with
  | true => exact I.tuple_inj h h'
  | false => exact I.list_inj h h'
end
theorem sep_of {z TI TO i1 i2 a b : Addr} (D : ZipApart z TI TO i1 i2 a b) : ZipSep2 z TI TO i1 i2 [i1, a] [i2, b] where
  TIz := D.TIz
  TOz := D.TOz
  TITO := D.TITO
  TIi1 := D.TIi1
  mem1 := by simp
  zf1 := by simp; exact ⟨Ne.symm D.i1z, Ne.symm D.l1z⟩
  Tf1 := by simp; exact ⟨D.TOi1, Ne.symm D.l1TO⟩
  TIi2 := D.TIi2
  mem2 := by simp
  zf2 := by simp; exact ⟨Ne.symm D.i2z, Ne.symm D.l2z⟩
  Tf2 := by simp; exact ⟨D.TOi2, Ne.symm D.l2TO⟩
  sep1_2 := by simp; exact ⟨D.i12, Ne.symm D.l2i1⟩
  sep2_1 := by simp; exact ⟨Ne.symm D.i12, Ne.symm D.l1i2⟩
def ItzB (K : PySem.W.Frag) (b1 b2 : Bool) (a b : Addr) : It :=
  ⟨fun i H => ∃ (xs ys : List V) (x y : V), SqB K b1 H a xs ∧ SqB K b2 H b ys ∧ xs[i]? = some x ∧ ys[i]? = some y,
    fun i H v H' => ∃ T x y, v = .ref T ∧ H T = none ∧ H' = upd H T (.tup [x, y]) ∧ (∀ xs, SqB K b1 H a xs → xs[i]? = some x) ∧ ∀ ys, SqB K b2 H b ys → ys[i]? = some y,
    fun i H => ∃ xs ys : List V, SqB K b1 H a xs ∧ SqB K b2 H b ys ∧ i ≤ xs.length ∧ i ≤ ys.length ∧ (i = xs.length ∨ i = ys.length)⟩
theorem turn_zipB {P : Program} {w : World} {K : PySem.W.Frag} {elts : List Expr} {kk : Nat} {tpos : Pos} {b1 b2 : Bool} {a b z TI TO i1 i2 : Addr} (D : ZipApart z TI TO i1 i2 a b) :
    Turn P w K (.Tuple elts kk tpos) (ItzB K b1 b2 a b) [z, TI, TO, i1, i2] z (fun i h => IsZip h z TI TO .none ∧ IsTupOf2 h TI (.ref i1) (.ref i2) ∧ (∃ x y, IsTupOf2 h TO x y) ∧ ItrB b1 h i1 a i ∧ ItrB b2 h i2 b i) where
  mem := by simp
  obj := fun i h st c hc => by
    obtain ⟨hz, hTI, ⟨x, y, hTO⟩, h1, h2⟩ := st
    have e' : c = z ∨ c = TI ∨ c = TO ∨ c = i1 ∨ c = i2 := by simpa using hc
    rcases e' with q | q | q | q | q
    · rw [q]; exact ⟨_, hz, fun v q => nomatch q⟩
    · rw [q]; exact ⟨_, hTI, fun v q => nomatch q⟩
    · rw [q]; exact ⟨_, hTO, fun v q => nomatch q⟩
    · rw [q]; exact itrB_obj h1
    · rw [q]; exact itrB_obj h2
  keep := fun i h h' st k => by
    obtain ⟨hz, hTI, ⟨x, y, hTO⟩, h1, h2⟩ := st
    exact ⟨k z (by simp) _ hz, k TI (by simp) _ hTI, ⟨x, y, k TO (by simp) _ hTO⟩, itrB_at h1 fun o q => k i1 (by simp) o q, itrB_at h2 fun o q => k i2 (by simp) o q⟩
  item := by
    intro X hP hw hK hc i pins s σ H E I hf st hg
    subst hP hw hK
    obtain ⟨hz, hTI, ⟨x0, y0, hTO⟩, h1, h2⟩ := st
    obtain ⟨xs, ys, x, y, hqx, hqy, hx, hy⟩ := hg
    obtain ⟨its, rv, p⟩ := invB I hqx
    obtain ⟨its2, rv2, p2⟩ := invB I hqy
    obtain ⟨u, hu, ru⟩ := rv.get hx
    obtain ⟨u2, hu2, ru2⟩ := rv2.get hy
    have hzl : z < s.heap.objs.size := Heap.lt_size hz
    have hn1 : i < its.toArray.size := by simpa using (List.getElem?_eq_some_iff.mp hu).1
    have hn2 : i < its2.toArray.size := by simpa using (List.getElem?_eq_some_iff.mp hu2).1
    refine wpAny_pyNext_zipD2_item (sep_of D) (drawsB (prog := X.prog) (w := X.w) (A := X.A.in1) b1 (I.ok.hd hc) i1 a D.l1i1 its.toArray) (drawsB (prog := X.prog) (w := X.w) (A := X.A.in1) b2 (I.ok.hd hc) i2 b D.l2i2 its2.toArray) hz hTI hTO ⟨h1, p⟩ ⟨h2, p2⟩ hn1 hn2
      fun v1 v2 h' tk hv1 hv2 z' TO' s1' s2' hT hsz hk => ?_
    have e1 : v1 = u := by
      have : its[i]? = some v1 := by simpa using hv1
      rw [hu] at this; cases this; rfl
    have e2 : v2 = u2 := by
      have : its2[i]? = some v2 := by simpa using hv2
      rw [hu2] at this; cases this; rfl
    subst e1 e2
    refine ⟨_, rfl, wpAny_letOwnedTupleGo_zip (s := { s with heap := h', toks := tk }) z' fun h'' z'' sb => ?_⟩
    have hT2 : h''.get? s.heap.objs.size = some { cls := .type "tuple", data := .seq #[v1, v2] } := (sb.2 _ (Nat.ne_of_gt hzl)).trans hT
    have new : ObjOk X.prog X.w (upd H s.heap.objs.size (.tup [x, y])) h'' s.heap.objs.size (.tup [x, y]) :=
      ⟨by show 2 ≤ sizeLine; decide, [v1, v2], .cons ru (.cons ru2 .nil), ⟨_, hT2, rfl, _, rfl⟩⟩
    have I1 : Inv X pins σ (upd H s.heap.objs.size (.tup [x, y])) { s with heap := h'', toks := tk } :=
      I.turnedNew (t' := tk) (ch := [z, TI, TO, i1, i2]) (fun c o hb q => (sb.2 c (fun q' => hb (by simp [q']))).trans (hk c o (fun q' => hb (by simp [q'])) (fun q' => hb (by simp [q'])) (fun q' => hb (by simp [q'])) (fun q' => hb (by simp [q'])) q)) hf (Nat.le_refl _) new
    refine ⟨.ref s.heap.objs.size, _, I1, rfl, ⟨_, x, y, rfl, I.hok.fresh (Nat.le_refl _), rfl, fun l hl => by rw [injB I hl hqx]; exact hx, fun l hl => by rw [injB I hl hqy]; exact hy⟩, ⟨z'', ?_, ⟨v1, v2, ?_⟩, ?_, ?_⟩, fun c hcm => ?_⟩
    · exact (sb.2 _ D.TIz).trans (hk _ _ D.TIz D.TITO D.TIi1 D.TIi2 hTI)
    · exact (sb.2 _ D.TOz).trans TO'
    · exact itrB_at s1'.1 fun o q => (sb.2 _ D.i1z).trans q
    · exact itrB_at s2'.1 fun o q => (sb.2 _ D.i2z).trans q
    · have hlt : c < s.heap.objs.size := by
        have e' : c = z ∨ c = TI ∨ c = TO ∨ c = i1 ∨ c = i2 := by simpa using hcm
        rcases e' with q | q | q | q | q
        · rw [q]; exact hzl
        · rw [q]; exact Heap.lt_size hTI
        · rw [q]; exact Heap.lt_size hTO
        · rw [q]; obtain ⟨_, e1, _⟩ := itrB_obj h1; exact Heap.lt_size e1
        · rw [q]; obtain ⟨_, e2, _⟩ := itrB_obj h2; exact Heap.lt_size e2
      rw [upd_ne (Nat.ne_of_lt hlt)]
      exact (hf c hcm).1
  done := by
    intro X hP hw hK hc i pins s σ H E I hf st hg
    subst hP hw hK
    obtain ⟨hz, hTI, ⟨x0, y0, hTO⟩, h1, h2⟩ := st
    obtain ⟨xs, ys, hqx, hqy, hi1, hi2, hend⟩ := hg
    obtain ⟨its, rv, p⟩ := invB I hqx
    obtain ⟨its2, rv2, p2⟩ := invB I hqy
    have l1 := rv.length
    have l2 := rv2.length
    exact wpAny_pyNext_zipD2_end (sep_of D) (drawsB (prog := X.prog) (w := X.w) (A := X.A.in1) b1 (I.ok.hd hc) i1 a D.l1i1 its.toArray) (drawsB (prog := X.prog) (w := X.w) (A := X.A.in1) b2 (I.ok.hd hc) i2 b D.l2i2 its2.toArray) hz hTI hTO ⟨h1, p⟩ ⟨h2, p2⟩ (by simp; omega) (by simp; omega) (by simp; omega)
      fun h' tk hk => ⟨rfl, I.turnedL (t' := tk) (ch := [z, TI, TO, i1, i2]) (fun c o hb q =>
      hk c o (fun q' => hb (by simp [q'])) (fun q' => hb (by simp [q'])) (fun q' => hb (by simp [q'])) (fun q' => hb (by simp [q'])) q) hf⟩
  self := fun A i s Q E st h => wpAny_pyIter_zip st.1 h
def iZipB (K : PySem.W.Frag) (ta : TA) : TI := fun σ H R => ta σ H fun vs H1 => ∃ a b xs ys b1 b2, vs = [.ref a, .ref b] ∧ SqB K b1 H1 a xs ∧ SqB K b2 H1 b ys ∧ R (ItzB K b1 b2 a b) H1
theorem pi_zipB {X : Cx} {e e2 : Expr} {ta : TA} {p pos tpos : Pos} {elts : List Expr} {kk : Nat} (hg : Gl X "zip") (hm : X.mg "zip" = none) (ha : PA X [e, e2] ta)
    (hs : starEach [e, e2] X.env = (false, eval e X.env) :: starEach [e2] X.env := by rfl) (hpl : (backTo pos (starEach [e2] X.env)).any (·.1) = false := by rfl) :
    PI X (.Tuple elts kk tpos) (.Call (.Name "zip" p) [e, e2] [] pos) (iZipB X.K ta) := by
  refine ⟨fun pins s σ H R I h => ?_⟩
  refine Call_ (ld_blt I hg hm PyProof.Rows.boot_zip (PyProof.Rows.callWith_type1 (thn (ha.run pos pins s σ H _ I h) fun us s1 ⟨vs, H1, I1, r1, q1⟩ => ?_) hs hpl))
  obtain ⟨a, b, xs, ys, b1, b2, ex, hqx, hqy, q⟩ := q1
  subst ex
  cases r1 with
  | cons r rr =>
    cases rr with
    | cons r' rr =>
      cases rr
      cases r
      cases r'
      have fresh5 : ∀ c, c ∈ [s1.heap.objs.size + 4, s1.heap.objs.size + 2, s1.heap.objs.size + 3, s1.heap.objs.size, s1.heap.objs.size + 1] → FpOk X pins H1 c := fun c hcm => by
        have e' : c = s1.heap.objs.size + 4 ∨ c = s1.heap.objs.size + 2 ∨ c = s1.heap.objs.size + 3 ∨ c = s1.heap.objs.size ∨ c = s1.heap.objs.size + 1 := by simpa using hcm
        have hle : s1.heap.objs.size ≤ c := by omega
        exact I1.fpOk hle (I1.hok.fresh hle)
      obtain ⟨its, rv, p1⟩ := invB I1 hqx
      obtain ⟨its2, rv2, p2⟩ := invB I1 hqy
      refine zip_begins2 (beginsB b1 a its.toArray) (beginsB b2 b its2.toArray) p1 p2 fun h' hz hTI hTO h1 h2 hsz hk => wpAny_pyIter_zip hz ?_
      have I2 : Inv X pins σ H1 { s1 with heap := h' } := I1.kept (t' := s1.toks) hk
      exact ⟨s1.heap.objs.size + 4, [s1.heap.objs.size + 4, s1.heap.objs.size + 2, s1.heap.objs.size + 3, s1.heap.objs.size, s1.heap.objs.size + 1], _, _, H1, rfl, I2, turn_zipB (b1 := b1) (b2 := b2) (PySem.W.ktu_apart s1.heap.objs.size a b (isB_lt p1) (isB_lt p2)), ⟨hz, hTI, ⟨_, _, hTO⟩, itrB_new h1, itrB_new h2⟩, fresh5, q⟩
theorem sqB_mono {K : PySem.W.Frag} {b : Bool} {B B' : Hp} {a : Addr} {xs : List V} (e : Same B B') (h : SqB K b B a xs) : SqB K b B' a xs := by
  cases b with
  | true => exact sqt_mono e h
  | false => exact sql_mono e h
theorem jok_zipB {K : PySem.W.Frag} {B : Hp} {b1 b2 : Bool} {a b : Addr} {xs ys : List V} {l m : List D} (h1 : SqB K b1 B a xs) (h2 : DpAll K B xs l) (h3 : SqB K b2 B b ys) (h4 : DpAll K B ys m) : JOk K B (ItzB K b1 b2 a b) (zipD l m) := fun B2 H2 s1 s2 i => by
  have hq : SqB K b1 H2 a xs := sqB_mono (s1.trans s2) h1
  have hp : SqB K b2 H2 b ys := sqB_mono (s1.trans s2) h3
  refine ⟨fun d hd => ?_, fun hl => ⟨xs, ys, hq, hp, ?_⟩⟩
  · obtain ⟨d0, d1, e0, e0', rfl⟩ := zipD_get hd
    obtain ⟨v, e1, e2⟩ := DpAll.get h2 e0
    obtain ⟨w, e3, e4⟩ := DpAll.get h4 e0'
    refine ⟨⟨xs, ys, v, w, hq, hp, e1, e3⟩, fun x H3 q => ?_⟩
    obtain ⟨T, y, z, rfl, hT, rfl, q1, q2⟩ := q
    have t1 := q1 xs hq
    have t2 := q2 ys hp
    rw [e1] at t1
    rw [e3] at t2
    cases t1
    cases t2
    exact jok_new s2 hT (.cons (Dp.mono s1 e2) (.cons (Dp.mono s1 e4) .nil))
  · rw [DpAll.length h2, DpAll.length h4]
    unfold zipD at hl
    rw [List.length_zipWith] at hl
    omega
def seqB : D → Option (Bool × List D)
  | .list l => some (false, l)
  | .tuple l => some (true, l)
  | _ => none
def mZipA (f : M (List Rs)) : M (List D) := M.bind f fun rs => M.bind (freezeAll rs) fun ds ρ => match ds with
  | [d, e] => match seqB d, seqB e with
    | some (_, l), some (_, m) => some (.ok (zipD l m) ρ)
    | _, _ => none
  | _ => none
theorem seqB_dp {K : PySem.W.Frag} {B : Hp} {v : V} {d : D} {b : Bool} {l : List D} (h : Dp K B v d) (e : seqB d = some (b, l)) : ∃ a xs, v = .ref a ∧ SqB K b B a xs ∧ DpAll K B xs l := by
  unfold seqB at e
  split at e
  · cases e
    cases h with
    | lst h1 h2 => exact ⟨_, _, rfl, h1, h2⟩
  · cases e
    cases h with
    | tup h1 h2 => exact ⟨_, _, rfl, h1, h2⟩
  · cases e
theorem di_zipA {X : Cx} {vs0 : List V} {elts : List Expr} {kk : Nat} {tpos : Pos} {e e' : Expr} {fa : M (List Rs)} {p pos : Pos} (hg : Gl X "zip") (hm : X.mg "zip" = none) (ha : PA X [e, e'] (rdA X.K vs0 fa)) (hs : starEach [e, e'] X.env = (false, eval e X.env) :: starEach [e'] X.env := by rfl) (hpl : (backTo pos (starEach [e'] X.env)).any (·.1) = false := by rfl) :
    PI X (.Tuple elts kk tpos) (.Call (.Name "zip" p) [e, e'] [] pos) (rdI X.K vs0 (mZipA fa)) := PI.imp (pi_zipB hg hm ha hs hpl) fun σ H R q => by
  obtain ⟨B, ρ, fs, g, l, ρ', e1, k⟩ := q
  obtain ⟨rs, ρ1, e2, e3⟩ := M.bind_ok e1
  obtain ⟨ds, ρ2, e4, e5⟩ := M.bind_ok e3
  split at e5
  · split at e5
    · rename_i d d' b1 l1 b2 l2 hs1 hs2
      cases e5
      refine ⟨B, ρ, fs, g, rs, ρ1, e2, fun vs B1 H1 fs1 Ts fr g1 ok nd => ?_⟩
      obtain ⟨B2, fs2, fr2, g2, d2⟩ := freezeAll_ok g1 ok nd e4
      cases d2 with
      | cons d2 d3 =>
        cases d3 with
        | cons d3 d4 =>
          cases d4
          obtain ⟨a, xs, rfl, h1, h2⟩ := seqB_dp d2 hs1
          obtain ⟨b, ys, rfl, h3, h4⟩ := seqB_dp d3 hs2
          exact ⟨a, b, xs, ys, b1, b2, rfl, sqB_mono g2.ext h1, sqB_mono g2.ext h3, k _ B2 H1 fs2 (fr.trans fr2) g2 (jok_zipB h1 h2 h3 h4)⟩
    · cases e5
  · cases e5
end Pd

set_option Elab.async false
set_option linter.all false
set_option maxRecDepth 100000
set_option maxHeartbeats 1000000
namespace Pd
open PySem PySem.Spec PyProof.Rows L2
namespace B
section
variable {ρ : Env}
def zipAQ (ρ : Env) (Q : List D → Env → Prop) (ds : List D) : Prop := match ds with
  | [d, e] => match seqB d, seqB e with
    | some (_, l), some (_, m) => Q (zipD l m) ρ
    | _, _ => False
  | _ => False
@[simp] theorem zipAQ_ll {Q : List D → Env → Prop} {l m : List D} : zipAQ ρ Q [.list l, .list m] = Q (zipD l m) ρ := rfl
@[simp] theorem zipAQ_lt {Q : List D → Env → Prop} {l m : List D} : zipAQ ρ Q [.list l, .tuple m] = Q (zipD l m) ρ := rfl
@[simp] theorem zipAQ_tl {Q : List D → Env → Prop} {l m : List D} : zipAQ ρ Q [.tuple l, .list m] = Q (zipD l m) ρ := rfl
@[simp] theorem zipAQ_tt {Q : List D → Env → Prop} {l m : List D} : zipAQ ρ Q [.tuple l, .tuple m] = Q (zipD l m) ρ := rfl
@[simp ↓] theorem ev_mZipA {f : M (List Rs)} {Q : List D → Env → Prop} : Ev (mZipA f) ρ Q ↔ Ev f ρ fun rs ρ1 => Ev (freezeAll rs) ρ1 fun ds ρ2 => zipAQ ρ2 Q ds := by
  unfold mZipA
  simp only [ev_bind]
  constructor
  · rintro ⟨rs, ρ1, e, ds, ρ2, e2, b, ρ3, e3, q⟩
    refine ⟨rs, ρ1, e, ds, ρ2, e2, ?_⟩
    try dsimp only at e3
    split at e3
    · split at e3
      · rename_i h1 h2
        cases e3
        show zipAQ _ _ _
        unfold zipAQ
        simp only [h1, h2]
        exact q
      · cases e3
    · cases e3
  · rintro ⟨rs, ρ1, e, ds, ρ2, e2, q⟩
    refine ⟨rs, ρ1, e, ds, ρ2, e2, ?_⟩
    try dsimp only at q
    unfold zipAQ at q
    split at q
    · split at q
      · rename_i h1 h2
        refine ⟨_, ρ2, ?_, q⟩
        simp only [h1, h2]
      · exact q.elim
    · exact q.elim
end
end B
end Pd

set_option Elab.async false
set_option linter.all false
set_option maxRecDepth 100000
set_option maxHeartbeats 1000000
namespace Pd
open PySem PySem.Spec PyProof.Rows L2
section
variable {ρ : Env}
def zipAQ (ρ : Env) (Q : List D → Env → Prop) [Fx Q] (ds : List D) : Prop := B.zipAQ ρ Q ds
@[simp] theorem zipAQ_ll {Q : List D → Env → Prop} {l m : List D} : zipAQ ρ Q [.list l, .list m] = Q (zipD l m) ρ := B.zipAQ_ll
@[simp] theorem zipAQ_lt {Q : List D → Env → Prop} {l m : List D} : zipAQ ρ Q [.list l, .tuple m] = Q (zipD l m) ρ := B.zipAQ_lt
@[simp] theorem zipAQ_tl {Q : List D → Env → Prop} {l m : List D} : zipAQ ρ Q [.tuple l, .list m] = Q (zipD l m) ρ := B.zipAQ_tl
@[simp] theorem zipAQ_tt {Q : List D → Env → Prop} {l m : List D} : zipAQ ρ Q [.tuple l, .tuple m] = Q (zipD l m) ρ := B.zipAQ_tt
@[simp ↓] theorem ev_mZipA {f : M (List Rs)} {Q : List D → Env → Prop} : Ev (mZipA f) ρ Q ↔ Ev f ρ fun rs ρ1 => Ev (freezeAll rs) ρ1 fun ds ρ2 => zipAQ ρ2 Q ds := B.ev_mZipA
end
end Pd


set_option Elab.async false
set_option linter.all false
set_option maxRecDepth 100000
set_option maxHeartbeats 1000000
namespace Pd
open PySem PySem.Spec PyProof.Rows L2
/-- handed on as data that nobody changes any more -/
def eFz (f : M Rs) : M Rs := M.bind f fun r => M.bind (freezeR r) fun d => M.ret (.own (.p d))
theorem de_fz {X : Cx} {vs0 : List V} {e : Expr} {f : M Rs} (h : PE X e (rdE X.K vs0 f)) : PE X e (rdE X.K vs0 (eFz f)) := PE.imp h fun σ H Q q => by
  obtain ⟨B, ρ, fs, g, r, ρ', e1, k⟩ := q
  obtain ⟨r1, ρ1, e2, e3⟩ := M.bind_ok e1
  obtain ⟨d, ρ2, e4, e5⟩ := M.bind_ok e3
  cases e5
  refine ⟨B, ρ, fs, g, r1, ρ1, e2, fun v B1 H1 fs1 T1 fr1 g1 ok1 => ?_⟩
  obtain ⟨B2, fs2, fr2, g2, d2⟩ := freezeR_ok g1 ok1 e4
  exact k v B2 H1 fs2 [] ((fr1.trans fr2).weak (fun _ h => h) fun a h => by
    rcases h with h | h
    · exact Or.inl h
    · cases h) g2 ⟨⟨d2, rfl⟩, rfl, fun a ha => nomatch ha⟩
namespace B
@[simp ↓] theorem ev_fz {f : M Rs} {ρ : Env} {Q : Rs → Env → Prop} : Ev (eFz f) ρ Q ↔ Ev f ρ fun r ρ1 => Ev (freezeR r) ρ1 fun d ρ2 => Q (.own (.p d)) ρ2 := by
  unfold eFz
  simp only [ev_bind, ev_ret]
end B
@[simp ↓] theorem ev_fz {f : M Rs} {ρ : Env} {Q : Rs → Env → Prop} : Ev (eFz f) ρ Q ↔ Ev f ρ fun r ρ1 => Ev (freezeR r) ρ1 fun d ρ2 => Q (.own (.p d)) ρ2 := B.ev_fz
end Pd

set_option Elab.async false
set_option linter.all false
set_option maxRecDepth 100000
set_option maxHeartbeats 1000000
namespace Pd
open PySem PySem.Spec PyProof.Rows L2
/-! ### list(range(..)) -/
structure CRg (a b : Int) : Prop where
  ok : RgOk a b
noncomputable instance (a b : Int) : Decidable (CRg a b) := Classical.propDecidable _
theorem crg_nat {n : Nat} (h : n ≤ 100000) : CRg 0 (n : Int) := ⟨by
  unfold RgOk
  have : (2 : Nat) ^ 24 = 16777216 := by decide
  omega⟩
noncomputable def pRgL : List D → Option Rd'
  | [.int i, .int j] => if CRg i j then some (.nl (rngD i (j - i).toNat)) else none
  | _ => none
noncomputable def pRgL1 : List D → Option Rd'
  | [.int j] => if CRg 0 j then some (.nl (rngD 0 j.toNat)) else none
  | _ => none
noncomputable def oRgL := opG pRgL
noncomputable def oRgL1 := opG pRgL1
theorem dp_rg {K : PySem.W.Frag} {B : Hp} {i j : Int} : DpAll K B (rgV i j) (rngD i (j - i).toNat) := by
  have e1 : rgV i j = ((List.range (j - i).toNat).map fun (k : Nat) => i + (k : Int)).map V.int := by simp [rgV, Function.comp_def]
  have e2 : rngD i (j - i).toNat = ((List.range (j - i).toNat).map fun (k : Nat) => i + (k : Int)).map PyData.int := by simp [rngD, Function.comp_def]
  rw [e1, e2]
  exact DpAll.of_ints _
def rRgL : R2 := fun x y H Q => ∃ i j, x = .int i ∧ y = .int j ∧ RgOk i j ∧ ∀ q, H q = none → Q (.ref q) (upd H q (.lst (rgV i j)))
theorem oRgL_ok {K : PySem.W.Frag} : OpOk K (r2 rRgL) oRgL := opG_ok fun B H vs ds res Q e hs hp k => by
  unfold pRgL at hp
  split at hp
  · split at hp
    · rename_i hc
      obtain ⟨x, y, rfl, h1, h2⟩ := hs.two
      cases hp
      exact ⟨_, _, rfl, _, _, h1.int, h2.int, hc.ok, fun q hq => k q _ hq dp_rg⟩
    · cases hp
  · cases hp
theorem oRgL1_ok {K : PySem.W.Frag} : OpOk K (fun vs H Q => ∃ x, vs = [x] ∧ ∃ j, x = .int j ∧ RgOk 0 j ∧ ∀ q, H q = none → Q (.ref q) (upd H q (.lst (rgV 0 j)))) oRgL1 := opG_ok fun B H vs ds res Q e hs hp k => by
  unfold pRgL1 at hp
  split at hp
  · split at hp
    · rename_i j hc
      obtain ⟨x, rfl, h1⟩ := hs.one
      cases hp
      refine ⟨_, rfl, _, h1.int, hc.ok, fun q hq => k q _ hq ?_⟩
      have := dp_rg (K := K) (B := B) (i := 0) (j := j)
      rwa [Int.sub_zero] at this
    · cases hp
  · cases hp
section
variable {X : Cx} {vs0 : List V} {a b : Expr} {fa fb : M Rs} {p p2 pos pos2 : Pos}
theorem de_listRg2 (hc : X.calm = true) (hg : Gl X "list") (hm : X.mg "list" = none) (hg2 : Gl X "range") (hm2 : X.mg "range" = none) (ha : PE X a (rdE X.K vs0 fa)) (hb : PE X b (rdE X.K vs0 fb))
    (na : starEach [a, b] X.env = (false, eval a X.env) :: starEach [b] X.env := by rfl) (nb : starEach [b] X.env = (false, eval b X.env) :: starEach [] X.env := by rfl) (hp : (backTo pos2 (starEach [b] X.env)).any (·.1) = false := by rfl)
    (nn : starEach [.Call (.Name "range" p2) [a, b] [] pos2] X.env = (false, eval (.Call (.Name "range" p2) [a, b] [] pos2) X.env) :: starEach [] X.env := by rfl) :
    PE X (.Call (.Name "list" p) [.Call (.Name "range" p2) [a, b] [] pos2] [] pos) (rdE X.K vs0 (eBin fa fb oRgL)) := PE.imp (pe_listRg hc hg hm (prg_2 hg2 hm2 ha hb na nb hp) nn) fun σ H Q q => by
  refine rdE_imp (rd_cons (rd_op oRgL_ok q)) fun x H1 q1 => rdE_imp (rd_cons q1) fun y H2 q2 => ?_
  obtain ⟨x', y', e, i, j, h1, h2, h3, h4⟩ := rdA_nil q2
  cases e
  exact ⟨i, j, h1, h2, h3, h4⟩
theorem de_listRg1 (hc : X.calm = true) (hg : Gl X "list") (hm : X.mg "list" = none) (hg2 : Gl X "range") (hm2 : X.mg "range" = none) (ha : PE X a (rdE X.K vs0 fa))
    (na : starEach [a] X.env = (false, eval a X.env) :: starEach [] X.env := by rfl)
    (nn : starEach [.Call (.Name "range" p2) [a] [] pos2] X.env = (false, eval (.Call (.Name "range" p2) [a] [] pos2) X.env) :: starEach [] X.env := by rfl) :
    PE X (.Call (.Name "list" p) [.Call (.Name "range" p2) [a] [] pos2] [] pos) (rdE X.K vs0 (eUn fa oRgL1)) := PE.imp (pe_listRg hc hg hm (prg_1 hg2 hm2 ha na) nn) fun σ H Q q => by
  refine rdE_imp (rd_cons (rd_op oRgL1_ok q)) fun x H1 q1 => ?_
  obtain ⟨x', e, j, h1, h3, h4⟩ := rdA_nil q1
  cases e
  exact ⟨j, h1, h3, h4⟩
end
@[simp ↓] theorem oRgL_eq : oRgL = opG pRgL := rfl
@[simp ↓] theorem oRgL1_eq : oRgL1 = opG pRgL1 := rfl
@[simp] theorem pRgL_ii {i j : Int} : pRgL [.int i, .int j] = if CRg i j then some (.nl (rngD i (j - i).toNat)) else none := rfl
@[simp] theorem pRgL1_i {j : Int} : pRgL1 [.int j] = if CRg 0 j then some (.nl (rngD 0 j.toNat)) else none := rfl
end Pd

set_option Elab.async false
set_option linter.all false
set_option maxRecDepth 100000
set_option maxHeartbeats 1000000
namespace Pd
open PySem PySem.Spec PyProof.Rows L2
/-! ### x[i] op= e, x an own list of ints there, i not below 0 -/
def rGetL : V → V → Hp → VK → Prop := fun o i H Q => ∃ p xs k j z, o = .ref p ∧ i = .int (k : Int) ∧ 0 ≤ k ∧ k.toNat = j ∧ H p = some (.lst xs) ∧ xs[j]? = some z ∧ Q z H
theorem get_list {X : Cx} : PGet X rGetL := by
  intro pins s σ H x y v u Q I rx ry h
  obtain ⟨p, xs, k, j, z, rfl, rfl, h0, hj, hp, hz, q⟩ := h
  cases rx
  obtain ⟨t, rfl⟩ := ry
  obtain ⟨its, r, pl, hlen⟩ := I.list (Or.inl (Or.inl hp) : SqL X.K H p xs)
  obtain ⟨w, ew, rw'⟩ := r.get hz
  have hl := r.length
  have hlt : j < its.length := (List.getElem?_eq_some_iff.mp ew).1
  have hn := line63
  exact wpAny_getItem_list pl.isList h0 (by omega) (by rw [hj]; simpa using ew) ⟨z, H, I, rw', q⟩
def addSub (f : Int → Int → Int) (fe : M Rs) (o i : Rs) : M Fl := fun ρ => match o with
  | .bor j => match ρ[j]?, i.view ρ with
    | some (some (.ml _ l)), some (.int k) => if 0 ≤ k then match l[k.toNat]? with
        | some (.int x) => M.bind fe (fun r ρ1 => match r.view ρ1, ρ1[j]? with
          | some (.int y), some (some (.ml t1 l1)) => if k.toNat < l1.length then some (.ok .nx (ρ1.set j (some (.ml t1 (l1.set k.toNat (.int (f x y))))))) else none
          | _, _ => none) ρ
        | _ => none
      else none
    | _, _ => none
  | _ => none
def gAugS (f : Int → Int → Int) (fo fi fe : M Rs) : M Fl := M.bind fo fun o => M.bind fi fun i => addSub f fe o i
theorem ds_augS {X : Cx} {vs0 : List V} {o i e : Expr} {fo fi fe : M Rs} {op : Operator} {f : Int → Int → Int} {pos tpos : Pos} (hp : PIp X op (ipI f)) (ho : PE X o (rdE X.K vs0 fo)) (hi : PE X i (rdE X.K vs0 fi)) (he : PE X e (rdE X.K vs0 fe))
    (ha : ∀ ov iv new, augStore i ov iv new = (do holding [new, ov, iv] (setItem ov iv new); release [new, ov, iv] []; pure .next) := by intros; rfl) : PS X (.AugAssign (.Subscript o i tpos) op e pos) (rdS X.K vs0 (gAugS f fo fi fe)) :=
  PS.imp (ps_augS ho hi get_list he hp set_list ha) fun D σ H q => by
  obtain ⟨B, ρ, fs, gd, fl, ρ', e1, kk⟩ := q
  obtain ⟨ro, ρ1, e2, e3⟩ := M.bind_ok e1
  obtain ⟨ri, ρ2, e4, e5⟩ := M.bind_ok e3
  refine ⟨B, ρ, fs, gd, ro, ρ1, e2, fun u B1 H1 fs1 T1 fr1 g1 ok1 => ⟨B1, ρ1, fs1, g1, ri, ρ2, e4, fun w B2 H2 fs2 T2 fr2 g2 ok2 => ?_⟩⟩
  unfold addSub at e5
  cases ro with
  | own s => cases e5
  | lent _ _ _ => cases e5
  | bor j =>
  dsimp only at e5
  split at e5
  · rename_i t l k h1 h2
    split at e5
    · rename_i h0
      split at e5
      · rename_i x h3
        obtain ⟨v', q1, ⟨a, xs, rfl, hfs, q2, q3⟩, _⟩ := g2.at_ j _ h1
        obtain ⟨z1, z2⟩ := ok1
        rw [q1] at z1
        cases z1
        obtain ⟨zv, hz1, hz2⟩ := DpAll.get q3 h3
        cases hz2
        refine ⟨a, xs, k, k.toNat, _, rfl, (view_ok g2 ok2 h2).int, h0, rfl, q2, hz1, ?_⟩
        obtain ⟨r, ρ3, e6, e7⟩ := M.bind_ok e5
        refine ⟨B2, ρ2, fs2, g2, r, ρ3, e6, fun v3 B3 H3 fs3 T3 fr3 g3 ok3 => ?_⟩
        split at e7
        · rename_i y t1 l1 h4 h5
          split at e7
          · rename_i h6
            cases e7
            obtain ⟨v4, q4, ⟨a4, xs4, rfl, hfs4, q5, q6⟩, _⟩ := g3.at_ j _ h5
            rw [q1] at q4
            cases q4
            have hix : ixN xs4.length k = some k.toNat := by
              unfold ixN
              rw [if_pos h0, if_pos (by rw [DpAll.length q6]; omega)]
            refine ⟨x, y, rfl, (view_ok g3 ok3 h4).int, a, xs4, k, k.toNat, rfl, (view_ok g2 ok2 h2).int, q5, hix, ?_⟩
            have g5 := g3.upd (o := HO.lst (xs4.set k.toNat (.int (f x y)))) (s' := .ml t1 (l1.set k.toNat (.int (f x y)))) h5 hfs4 q1 ⟨a, _, rfl, rfl, upd_same, DpAll.set _ q6 (.int _)⟩ rfl
            exact kk σ B3 _ fs3 (((fr_drop fr1).trans (fr_drop fr2)).trans ((fr_drop fr3).trans (Fr.updIn ⟨j, by rw [hfs4]; simp⟩))) g5
          · cases e7
        · cases e7
      · cases e5
    · cases e5
  · cases e5
theorem ds_augSAdd {X : Cx} {vs0 : List V} {o i e : Expr} {fo fi fe : M Rs} {pos tpos : Pos} (ho : PE X o (rdE X.K vs0 fo)) (hi : PE X i (rdE X.K vs0 fi)) (he : PE X e (rdE X.K vs0 fe))
    (ha : ∀ ov iv new, augStore i ov iv new = (do holding [new, ov, iv] (setItem ov iv new); release [new, ov, iv] []; pure .next) := by intros; rfl) : PS X (.AugAssign (.Subscript o i tpos) .Add e pos) (rdS X.K vs0 (gAugS (fun a b => a + b) fo fi fe)) := ds_augS ip_add ho hi he ha
end Pd

set_option Elab.async false
set_option linter.all false
set_option maxRecDepth 100000
set_option maxHeartbeats 1000000
namespace Pd
open PySem PySem.Spec PyProof.Rows L2
namespace B
@[simp ↓] theorem ev_gAugS {f : Int → Int → Int} {fo fi fe : M Rs} {ρ : Env} {Q : Fl → Env → Prop} : Ev (gAugS f fo fi fe) ρ Q ↔ Ev fo ρ fun o ρ1 => Ev fi ρ1 fun i ρ2 => Ev (addSub f fe o i) ρ2 Q := by
  unfold gAugS
  simp only [ev_bind]
theorem ev_addSub {f : Int → Int → Int} {fe : M Rs} {ρ : Env} {j : Nat} {i : Rs} {t : Option Nat} {l : List D} {k x : Int} {Q : Fl → Env → Prop} (h1 : ρ[j]? = some (some (.ml t l))) (h2 : i.view ρ = some (.int k)) (h0 : 0 ≤ k) (h3 : l[k.toNat]? = some (.int x))
    (h : Ev fe ρ fun r ρ1 => ∃ y t1 l1, r.view ρ1 = some (.int y) ∧ ρ1[j]? = some (some (.ml t1 l1)) ∧ k.toNat < l1.length ∧ Q .nx (ρ1.set j (some (.ml t1 (l1.set k.toNat (.int (f x y))))))) : Ev (addSub f fe (.bor j) i) ρ Q := by
  obtain ⟨r, ρ1, e, y, t1, l1, h4, h5, h6, q⟩ := h
  refine ⟨_, _, ?_, q⟩
  unfold addSub
  simp only [h1, h2, if_pos h0, h3]
  unfold M.bind
  simp only [e, h4, h5, if_pos h6]
end B
end Pd

set_option Elab.async false
set_option linter.all false
set_option maxRecDepth 100000
set_option maxHeartbeats 1000000
namespace Pd
open PySem PySem.Spec PyProof.Rows L2
@[simp ↓] theorem ev_gAugS {f : Int → Int → Int} {fo fi fe : M Rs} {ρ : Env} {Q : Fl → Env → Prop} : Ev (gAugS f fo fi fe) ρ Q ↔ Ev fo ρ fun o ρ1 => Ev fi ρ1 fun i ρ2 => Ev (addSub f fe o i) ρ2 Q := B.ev_gAugS
theorem ev_addSub {f : Int → Int → Int} {fe : M Rs} {ρ : Env} {j : Nat} {i : Rs} {t : Option Nat} {l : List D} {k x : Int} {Q : Fl → Env → Prop} (h1 : ρ[j]? = some (some (.ml t l))) (h2 : i.view ρ = some (.int k)) (h0 : 0 ≤ k) (h3 : l[k.toNat]? = some (.int x))
    (h : Ev fe ρ fun r ρ1 => ∃ y t1 l1, r.view ρ1 = some (.int y) ∧ ρ1[j]? = some (some (.ml t1 l1)) ∧ k.toNat < l1.length ∧ Q .nx (ρ1.set j (some (.ml t1 (l1.set k.toNat (.int (f x y))))))) : Ev (addSub f fe (.bor j) i) ρ Q := B.ev_addSub h1 h2 h0 h3 h
end Pd


set_option Elab.async false
set_option linter.all false
set_option maxRecDepth 100000
set_option maxHeartbeats 1000000
namespace Pd
open PySem PySem.Spec PyProof.Rows L2
/-! ### xs.count(k), ints -/
def pCount : List D → Option Rd'
  | [.list l, .int k] => (ints? l).map fun ns => .pd (.int (ns.count k : Nat))
  | _ => none
def o_count1 := opG pCount
theorem o_count1_ok {K : PySem.W.Frag} : OpOk K (rM (rCntI K)) o_count1 := opG_ok fun B H vs ds res Q e hs hp k => by
  unfold pCount at hp
  split at hp
  · rename_i l kk
    obtain ⟨x, y, rfl, ⟨p, xs, rfl, s1, d1⟩, h2⟩ := hs.two
    cases h3 : ints? l with
    | none => rw [h3] at hp; cases hp
    | some ns =>
      rw [h3] at hp
      cases hp
      rw [ints?_eq h3] at d1
      rw [DpAll.ints d1] at s1
      exact ⟨_, _, rfl, p, ns, kk, rfl, by rw [h2.int], s1, k.int e⟩
  · cases hp
section
variable {X : Cx} {vs0 : List V} {o e : Expr} {fo : M Rs} {fa : M (List Rs)} {apos cpos : Pos}
theorem de_m_count1 (ho : PE X o (rdE X.K vs0 fo)) (ha : PA X [e] (rdA X.K vs0 fa))
    (hbase : attributeBase o "count" X.env (eval o X.env) = eval o X.env := by rfl)
    (hfew : ((backTo cpos (starEach [e] X.env)).all (fun x => !x.1) && (backToKw cpos (keywordEach [] X.env)).all (fun x => x.1.isSome)
      && decide ([e].length + ([] : List Keyword).length + (if ([] : List Keyword).isEmpty then 0 else 1) < 30)) = true := by rfl)
    (hline : (apos.endLine == cpos.line) = true := by rfl) (hs : starEach [e] X.env = (false, eval e X.env) :: starEach [] X.env := by rfl) (hplain : (backTo cpos (starEach [] X.env)).any (·.1) = false := by rfl) :
    PE X (.Call (.Attribute o "count" apos) [e] [] cpos) (rdE X.K vs0 (eMeth "list" fo fa o_count1)) :=
  PE.imp (pe_bm PySem.F.plainAttrs_list PySem.F.slot_list_count PySem.F.type_list_count mt_lcount ho ha hbase hfew hline hs hplain) fun σ H Q q => rd_meth o_count1_ok q
end
@[simp ↓] theorem o_count1_eq : o_count1 = opG pCount := rfl
@[simp] theorem pCount_li {l : List D} {k : Int} : pCount [.list l, .int k] = (ints? l).map fun ns => .pd (.int (ns.count k : Nat)) := rfl
end Pd

set_option Elab.async false
set_option linter.all false
set_option maxRecDepth 100000
set_option maxHeartbeats 1000000
namespace Pd
open PySem PySem.Spec PyProof.Rows L2
/-! ### xs.extend(ys), ys just made -/
def o_extend1 : List Rs → M Rs := fun rs ρ => match rs with
  | [.bor j, .own (.ml _ m)] => match ρ[j]? with
    | some (some (.ml t l)) => if l.length + m.length ≤ sizeLine then some (.ok (.own (.p .none)) (ρ.set j (some (.ml t (l ++ m))))) else none
    | _ => none
  | _ => none
theorem o_extend1_ok {K : PySem.W.Frag} : OpOk K (rM rExtend) o_extend1 := by
  intro vs0 σ B H ρ fs vs rs Ts Q g ok nd r' ρ' e k
  unfold o_extend1 at e
  split at e
  · rename_i j tg m
    split at e
    · rename_i t l e3
      split at e
      · rename_i hsz
        cases e
        obtain ⟨v, w, T1, T2, rfl, rfl, ⟨hv, hT1⟩, ⟨⟨b, zs, rfl, hT2, hb1, hb2⟩, _, hfr⟩⟩ := ok.two
        obtain ⟨v', q1, ⟨a, xs, rfl, hfs, q2, q3⟩, _⟩ := g.at_ j _ e3
        rw [hv] at q1
        cases q1
        refine ⟨_, [_], rfl, a, b, xs, zs, rfl, rfl, q2, hb1, by rw [DpAll.length q3, DpAll.length hb2]; exact hsz, ?_⟩
        have g5 := g.upd (o := HO.lst (xs ++ zs)) (s' := .ml t (l ++ m)) e3 hfs hv ⟨a, _, rfl, rfl, upd_same, DpAll.append q3 hb2⟩ rfl
        refine k .non B _ fs [] ((Fr.updIn (F := UnF (InF fs) [T1, T2].flatten) (Or.inl ⟨j, by rw [hfs]; simp⟩)).weak (fun _ h => h) fun c h => ?_) g5 ⟨⟨.non, rfl⟩, rfl, fun a ha => nomatch ha⟩
        rcases h with h | h
        · exact Or.inl (Or.inl h)
        · cases h
      · cases e
    · cases e
  · cases e
section
variable {X : Cx} {vs0 : List V} {o e : Expr} {fo : M Rs} {fa : M (List Rs)} {apos cpos : Pos}
theorem de_m_extend1 (ho : PE X o (rdE X.K vs0 fo)) (ha : PA X [e] (rdA X.K vs0 fa))
    (hbase : attributeBase o "extend" X.env (eval o X.env) = eval o X.env := by rfl)
    (hfew : ((backTo cpos (starEach [e] X.env)).all (fun x => !x.1) && (backToKw cpos (keywordEach [] X.env)).all (fun x => x.1.isSome)
      && decide ([e].length + ([] : List Keyword).length + (if ([] : List Keyword).isEmpty then 0 else 1) < 30)) = true := by rfl)
    (hline : (apos.endLine == cpos.line) = true := by rfl) (hs : starEach [e] X.env = (false, eval e X.env) :: starEach [] X.env := by rfl) (hplain : (backTo cpos (starEach [] X.env)).any (·.1) = false := by rfl) :
    PE X (.Call (.Attribute o "extend" apos) [e] [] cpos) (rdE X.K vs0 (eMeth "list" fo fa o_extend1)) :=
  PE.imp (pe_bm PySem.F.plainAttrs_list PySem.F.slot_list_extend PySem.F.type_list_extend mt_extend ho ha hbase hfew hline hs hplain) fun σ H Q q => rd_meth o_extend1_ok q
end
end Pd

set_option Elab.async false
set_option linter.all false
set_option maxRecDepth 100000
set_option maxHeartbeats 1000000
namespace Pd
open PySem PySem.Spec PyProof.Rows L2
namespace B
section
variable {ρ : Env}
def extQ (j : Nat) (m : List D) (ρ : Env) (Q : Rs → Env → Prop) : Option (Option Sl) → Prop
  | some (some (.ml t l)) => l.length + m.length ≤ sizeLine ∧ Q (.own (.p .none)) (ρ.set j (some (.ml t (l ++ m))))
  | _ => False
@[simp] theorem extQ_ml {j : Nat} {m l : List D} {t : Option Nat} {Q : Rs → Env → Prop} : extQ j m ρ Q (some (some (.ml t l))) = (l.length + m.length ≤ sizeLine ∧ Q (.own (.p .none)) (ρ.set j (some (.ml t (l ++ m))))) := rfl
@[simp ↓] theorem ev_extend {j : Nat} {tg : Option Nat} {m : List D} {Q : Rs → Env → Prop} : Ev (o_extend1 [.bor j, .own (.ml tg m)]) ρ Q ↔ extQ j m ρ Q ρ[j]? := by
  constructor
  · rintro ⟨r, ρ', e, q⟩
    unfold o_extend1 at e
    dsimp only at e
    split at e
    · rename_i t l h
      split at e
      · rename_i hl
        cases e
        rw [h]
        exact ⟨hl, q⟩
      · cases e
    · cases e
  · intro q
    unfold extQ at q
    split at q
    · rename_i t l h
      refine ⟨_, _, ?_, q.2⟩
      unfold o_extend1
      simp only [h, if_pos q.1]
    · exact q.elim
end
end B
end Pd

set_option Elab.async false
set_option linter.all false
set_option maxRecDepth 100000
set_option maxHeartbeats 1000000
namespace Pd
open PySem PySem.Spec PyProof.Rows L2
section
variable {ρ : Env}
def extQ (j : Nat) (m : List D) (ρ : Env) (Q : Rs → Env → Prop) [Fx Q] (o0 : Option (Option Sl)) : Prop := B.extQ j m ρ Q o0
@[simp] theorem extQ_ml {j : Nat} {m l : List D} {t : Option Nat} {Q : Rs → Env → Prop} : extQ j m ρ Q (some (some (.ml t l))) = (l.length + m.length ≤ sizeLine ∧ Q (.own (.p .none)) (ρ.set j (some (.ml t (l ++ m))))) := B.extQ_ml
@[simp ↓] theorem ev_extend {j : Nat} {tg : Option Nat} {m : List D} {Q : Rs → Env → Prop} : Ev (o_extend1 [.bor j, .own (.ml tg m)]) ρ Q ↔ extQ j m ρ Q ρ[j]? := B.ev_extend
end
end Pd


set_option Elab.async false
set_option linter.all false
set_option maxRecDepth 100000
set_option maxHeartbeats 1000000
namespace Pd
open PySem PySem.Spec PyProof.Rows L2
open PySem.W (EachIs)

/-! ### sorted(xs), xs a list of data -/
def rSortD (K : PySem.W.Frag) : List V → Hp → VK → Prop := fun vs H Q => ∃ (B : Hp) (a : Addr) (xs : List V) (ds : List D), vs = [V.ref a] ∧ Same B H ∧ SqL K H a xs ∧ DpAll K B xs ds ∧ PySem.W.AllAlike ds ∧ PySem.W.Sortable ds ∧ (∀ d ∈ ds, d.depth ≤ 4) ∧
  ∀ (ys : List V) (p : Addr), DpAll K B ys (ds.mergeSort (PySem.W.dataLe false id)) → H p = none → Q (.ref p) (upd H p (.lst ys))
theorem each_of {K : PySem.W.Frag} {B : Hp} : ∀ {xs : List V} {its : List Value} {ds : List D}, Vals xs its → DpAll K B xs ds → EachIs (fun v d => ∃ x, RelV x v ∧ Dp K B x d) its ds
  | _, _, _, .nil, h => by cases h; exact .nil
  | _, _, _, .cons r t, h => by
    cases h with
    | cons h1 h2 => exact .cons ⟨_, r, h1⟩ (each_of t h2)
theorem each_reads {X : Cx} {pins : List (Addr × Obj)} {σ : L2.St} {B H : Hp} {s : Shared} (I : Inv X pins σ H s) (sb : Same B H) : ∀ {its : List Value} {ds : List D}, EachIs (fun v d => ∃ x, RelV x v ∧ Dp X.K B x d) its ds → EachIs (fun v d => ∃ as, Reads s.heap v d as) its ds
  | _, _, .nil => .nil
  | _, _, .cons ⟨x, r, h⟩ t => .cons (Dp.reads I _ x _ (Dp.mono sb h) r) (each_reads I sb t)
theorem each_back {K : PySem.W.Frag} {H : Hp} : ∀ {its : List Value} {ds : List D}, EachIs (fun v d => ∃ x, RelV x v ∧ Dp K H x d) its ds → ∃ ys, Vals ys its ∧ DpAll K H ys ds
  | _, _, .nil => ⟨[], .nil, .nil⟩
  | _, _, .cons ⟨x, r, h⟩ t => by
    obtain ⟨ys, h1, h2⟩ := each_back t
    exact ⟨x :: ys, .cons r h1, .cons h h2⟩
section
variable {X : Cx}
theorem cr_sortedD (hu : X.A.units + 64 < cLine) : CallR X (.builtin "sorted") (rSortD X.K) := by
  intro pins s σ H vs us Q I r h
  obtain ⟨B, a, xs, ds, rfl, sb, hs, hd, hal, hk, hdep, q⟩ := h
  obtain ⟨its, rv, hl, hz⟩ := I.list hs
  rw [Vals.ref1 r]
  have e := each_of rv hd
  have hlen : its.length = ds.length := by rw [← rv.length, DpAll.length hd]
  have hL : ds.length ≤ sizeLine := by rw [← DpAll.length hd]; exact hz
  refine PySem.W.sorted_data (enc := id) (bs := ds) (R := fun v d => ∃ x, RelV x v ∧ Dp X.K B x d) hl.isList e (each_reads I sb e) (by rw [List.map_id]; exact hal) (by rw [List.map_id]; exact hk) hL
    (fun b hb => by have := hdep b hb; show X.A.units + 2 + b.depth < cLine; omega) fun out ho eo => ?_
  obtain ⟨ys, h1, h2⟩ := each_back eo
  obtain ⟨ep, he'⟩ := PyProof.Rows.sortedAll_at s.heap its out.toArray
  have hl2 : ys.length ≤ sizeLine := by rw [h1.length, ho]; exact hL
  exact ⟨.ref _, upd H (s.heap.objs.size + 1) (.lst ys), I.laid (t' := s.toks) (fun _ _ => PyProof.Rows.sortedAll_old) (Nat.le_succ _) ⟨hl2, out, ep, h1, he'⟩, rfl, q _ _ h2 (I.hok.fresh (Nat.le_succ _))⟩
end
open Classical in
noncomputable def fSort (ds : List D) : Option (List D) := if PySem.W.AllAlike ds ∧ PySem.W.Sortable ds ∧ (∀ d ∈ ds, d.depth ≤ 4) then some (ds.mergeSort (PySem.W.dataLe false id)) else none
noncomputable def pSorted : List D → Option Rd'
  | [.list l] => (fSort l).map .nl
  | _ => none
noncomputable def oSorted := opG pSorted
theorem oSorted_ok {K : PySem.W.Frag} : OpOk K (rSortD K) oSorted := opG_ok fun B H vs ds res Q e hs hp k => by
  match ds, hp with
  | [.list l], hp =>
    have hp : (fSort l).map Rd'.nl = some res := hp
    cases h : fSort l with
    | none => rw [h] at hp; cases hp
    | some m =>
      rw [h] at hp
      cases hp
      unfold fSort at h
      split at h
      · rename_i hc
        cases h
        obtain ⟨x, rfl, h1⟩ := hs.one
        obtain ⟨a, xs, rfl, h2, h3⟩ := h1
        exact ⟨B, a, xs, l, rfl, e, h2, h3, hc.1, hc.2.1, hc.2.2, fun ys p hy hp => k p ys hp hy⟩
      · cases h
end Pd

set_option Elab.async false
set_option linter.all false
set_option maxRecDepth 100000
set_option maxHeartbeats 1000000
namespace Pd
open PySem PySem.Spec PyProof.Rows L2

/-! ### << -/
instance (i j : Int) : Decidable (CShl i j) := by unfold CShl; infer_instance
def shlV (i j : Int) : Int := i * 2 ^ j.toNat
structure CShlS (i j : Int) : Prop where
  h : CShl i j
open Classical in
noncomputable def pShl : List D → Option Rd'
  | [.int a, .int b] => if CShlS a b then some (.pd (.int (shlV a b))) else none
  | _ => none
noncomputable def oShl := opG pShl
theorem oShl_ok {K : PySem.W.Frag} : OpOk K (r2 (rI CShl fun i j => .int (i * 2 ^ j.toNat))) oShl := opG_ok fun B H vs ds res Q e hs hp k => by
  unfold pShl at hp
  split at hp
  · rename_i a b
    split at hp
    · rename_i hc
      cases hp
      obtain ⟨x, y, rfl, h1, h2⟩ := hs.two
      exact ⟨x, y, rfl, a, b, h1.int, h2.int, hc.h, k.int e⟩
    · cases hp
  · cases hp

/-! ### texts -/
def strs? : List D → Option (List Str)
  | [] => some []
  | .str i :: l => (strs? l).map (i :: ·)
  | _ :: _ => none
theorem strs?_eq : ∀ {l : List D} {ns : List Str}, strs? l = some ns → l = ns.map PyData.str
  | [], ns, h => by cases h; rfl
  | .str i :: l, ns, h => by
    unfold strs? at h
    cases e : strs? l with
    | none => rw [e] at h; cases h
    | some ms => rw [e] at h; cases h; rw [strs?_eq e]; rfl
  | .none :: l, ns, h => by cases h
  | .bool _ :: l, ns, h => by cases h
  | .int _ :: l, ns, h => by cases h
  | .list _ :: l, ns, h => by cases h
  | .tuple _ :: l, ns, h => by cases h
  | .dict _ :: l, ns, h => by cases h
def CJoin (a : Str) (ys : List Str) : Prop := (ys.map (·.length)).sum + ys.length * a.length ≤ 16777216
instance (a : Str) (ys : List Str) : Decidable (CJoin a ys) := by unfold CJoin; infer_instance
def jJoin (a : Str) : Option (List Str) → Option Rd'
  | some ys => if CJoin a ys then some (.pd (.str (Txt.join a ys))) else none
  | none => none
def pJoin : List D → Option Rd'
  | [.str a, .list l] => jJoin a (strs? l)
  | [.str a, .tuple l] => jJoin a (strs? l)
  | _ => none
def o_join1 := opG pJoin
theorem DpAll.strs' {K : PySem.W.Frag} {B : Hp} {l : List D} {ns : List Str} {vs : List V} (h : strs? l = some ns) (d : DpAll K B vs l) : vs = ns.map V.str := by
  rw [strs?_eq h] at d
  exact Pd.DpAll.strs d
theorem o_join1_ok {K : PySem.W.Frag} : OpOk K (rM fun x xs H Q => ∃ a p, ∃ ys : List Str, x = .str a ∧ xs = [.ref p] ∧ (SqL K H p (ys.map V.str) ∨ SqT K H p (ys.map V.str)) ∧
    (ys.map (·.length)).sum + ys.length * a.length ≤ 16777216 ∧ Q (.str (Txt.join a ys)) H) o_join1 := opG_ok fun B H vs ds res Q e hs hp k => by
  unfold pJoin at hp
  split at hp
  · rename_i a l
    obtain ⟨x, y, rfl, h1, h2⟩ := hs.two
    cases es : strs? l with
    | none => rw [es] at hp; cases hp
    | some ys =>
      rw [es] at hp
      unfold jJoin at hp
      dsimp only at hp
      split at hp
      · rename_i hc
        cases hp
        obtain ⟨p, xs, rfl, h3, h4⟩ := h2
        have := Pd.DpAll.strs' es h4
        subst this
        exact ⟨x, [.ref p], rfl, a, p, ys, h1.str, rfl, Or.inl h3, hc, k.str e⟩
      · cases hp
  · rename_i a l
    obtain ⟨x, y, rfl, h1, h2⟩ := hs.two
    cases es : strs? l with
    | none => rw [es] at hp; cases hp
    | some ys =>
      rw [es] at hp
      unfold jJoin at hp
      dsimp only at hp
      split at hp
      · rename_i hc
        cases hp
        obtain ⟨p, xs, rfl, h3, h4⟩ := h2.tup
        have := Pd.DpAll.strs' es h4
        subst this
        exact ⟨x, [.ref p], rfl, a, p, ys, h1.str, rfl, Or.inr (sqt_mono e h3), hc, k.str e⟩
      · cases hp
  · cases hp
def pSplit : List D → Option Rd'
  | [.str a, .str b] => if (b.length == 0) = false ∧ a.length + 2 ≤ sizeLine then some (.nl ((Txt.split a b).map .str)) else none
  | _ => none
def o_split1 := opG pSplit
theorem DpAll.of_strs {K : PySem.W.Frag} {B : Hp} : ∀ (ns : List Str), DpAll K B (ns.map V.str) (ns.map PyData.str)
  | [] => .nil
  | n :: ns => .cons (.str n) (DpAll.of_strs ns)
theorem o_split1_ok {K : PySem.W.Frag} : OpOk K (rM fun x xs H Q => ∃ a b, x = .str a ∧ xs = [.str b] ∧ (b.length == 0) = false ∧ a.length + 2 ≤ sizeLine ∧ rNewStrs (Txt.split a b) H Q) o_split1 := opG_ok fun B H vs ds res Q e hs hp k => by
  unfold pSplit at hp
  split at hp
  · rename_i a b
    split at hp
    · rename_i hc
      cases hp
      obtain ⟨x, y, rfl, h1, h2⟩ := hs.two
      exact ⟨x, [y], rfl, a, b, h1.str, by rw [h2.str], hc.1, hc.2, fun p hp => k p _ hp (DpAll.of_strs _)⟩
    · cases hp
  · cases hp
def pFind : List D → Option Rd'
  | [.str a, .str b] => some (.pd (.int (Txt.find a b)))
  | _ => none
def o_find1 := opG pFind
theorem o_find1_ok {K : PySem.W.Frag} : OpOk K (rM fun x xs H Q => ∃ a b, x = .str a ∧ xs = [.str b] ∧ Q (.int (Txt.find a b)) H) o_find1 := opG_ok fun B H vs ds res Q e hs hp k => by
  unfold pFind at hp
  split at hp
  · rename_i a b
    cases hp
    obtain ⟨x, y, rfl, h1, h2⟩ := hs.two
    exact ⟨x, [y], rfl, a, b, h1.str, by rw [h2.str], k.int e⟩
  · cases hp
/-- int(text) -/
def pIntS : List D → Option Rd'
  | [.str a] => match PySem.intText? a with
    | some n => if a.length ≤ 640 then some (.pd (.int n)) else none
    | none => none
  | _ => none
def oIntS := opG pIntS
theorem oIntS_ok {K : PySem.W.Frag} : OpOk K (fun xs H Q => ∃ a n, xs = [V.str a] ∧ PySem.intText? a = some n ∧ a.length ≤ 640 ∧ Q (.int n) H) oIntS := opG_ok fun B H vs ds res Q e hs hp k => by
  match ds, hp with
  | [.str a], hp =>
    cases en : PySem.intText? a with
    | none =>
      have hp : (match PySem.intText? a with
        | some n => if a.length ≤ 640 then some (Rd'.pd (.int n)) else none
        | none => none) = some res := hp
      rw [en] at hp; cases hp
    | some n =>
      have hp : (match PySem.intText? a with
        | some n => if a.length ≤ 640 then some (Rd'.pd (.int n)) else none
        | none => none) = some res := hp
      rw [en] at hp
      dsimp only at hp
      split at hp
      · rename_i hl
        cases hp
        obtain ⟨x, rfl, h1⟩ := hs.one
        exact ⟨a, n, by rw [h1.str], en, hl, k.int e⟩
      · cases hp
section
variable {X : Cx} {vs0 : List V} {o e : Expr} {es : List Expr} {fo : M Rs} {fa : M (List Rs)} {apos cpos : Pos}
theorem de_m_join1 (ho : PE X o (rdE X.K vs0 fo)) (ha : PA X [e] (rdA X.K vs0 fa))
    (hbase : attributeBase o "join" X.env (eval o X.env) = eval o X.env := by rfl)
    (hfew : ((backTo cpos (starEach [e] X.env)).all (fun x => !x.1) && (backToKw cpos (keywordEach [] X.env)).all (fun x => x.1.isSome)
      && decide ([e].length + ([] : List Keyword).length + (if ([] : List Keyword).isEmpty then 0 else 1) < 30)) = true := by rfl)
    (hline : (apos.endLine == cpos.line) = true := by rfl) (hs : starEach [e] X.env = (false, eval e X.env) :: starEach [] X.env := by rfl) (hplain : (backTo cpos (starEach [] X.env)).any (·.1) = false := by rfl) :
    PE X (.Call (.Attribute o "join" apos) [e] [] cpos) (rdE X.K vs0 (eMeth "str" fo fa o_join1)) :=
  PE.imp (pe_bm PySem.F.plainAttrs_str PySem.F.slot_str_join PySem.F.type_str_join mt_join ho ha hbase hfew hline hs hplain) fun σ H Q q => rd_meth o_join1_ok q
theorem de_m_split1 (ho : PE X o (rdE X.K vs0 fo)) (ha : PA X [e] (rdA X.K vs0 fa))
    (hbase : attributeBase o "split" X.env (eval o X.env) = eval o X.env := by rfl)
    (hfew : ((backTo cpos (starEach [e] X.env)).all (fun x => !x.1) && (backToKw cpos (keywordEach [] X.env)).all (fun x => x.1.isSome)
      && decide ([e].length + ([] : List Keyword).length + (if ([] : List Keyword).isEmpty then 0 else 1) < 30)) = true := by rfl)
    (hline : (apos.endLine == cpos.line) = true := by rfl) (hs : starEach [e] X.env = (false, eval e X.env) :: starEach [] X.env := by rfl) (hplain : (backTo cpos (starEach [] X.env)).any (·.1) = false := by rfl) :
    PE X (.Call (.Attribute o "split" apos) [e] [] cpos) (rdE X.K vs0 (eMeth "str" fo fa o_split1)) :=
  PE.imp (pe_bm PySem.F.plainAttrs_str PySem.F.slot_str_split PySem.F.type_str_split mt_split ho ha hbase hfew hline hs hplain) fun σ H Q q => rd_meth o_split1_ok q
theorem de_m_find1 (ho : PE X o (rdE X.K vs0 fo)) (ha : PA X [e] (rdA X.K vs0 fa))
    (hbase : attributeBase o "find" X.env (eval o X.env) = eval o X.env := by rfl)
    (hfew : ((backTo cpos (starEach [e] X.env)).all (fun x => !x.1) && (backToKw cpos (keywordEach [] X.env)).all (fun x => x.1.isSome)
      && decide ([e].length + ([] : List Keyword).length + (if ([] : List Keyword).isEmpty then 0 else 1) < 30)) = true := by rfl)
    (hline : (apos.endLine == cpos.line) = true := by rfl) (hs : starEach [e] X.env = (false, eval e X.env) :: starEach [] X.env := by rfl) (hplain : (backTo cpos (starEach [] X.env)).any (·.1) = false := by rfl) :
    PE X (.Call (.Attribute o "find" apos) [e] [] cpos) (rdE X.K vs0 (eMeth "str" fo fa o_find1)) :=
  PE.imp (pe_bm PySem.F.plainAttrs_str PySem.F.slot_str_find PySem.F.type_str_find mt_find ho ha hbase hfew hline hs hplain) fun σ H Q q => rd_meth o_find1_ok q
end
end Pd

set_option Elab.async false
set_option linter.all false
set_option maxRecDepth 100000
set_option maxHeartbeats 1000000
namespace Pd
open PySem PySem.Spec PyProof.Rows L2
namespace B
section
variable {a b : Str} {l : List D} {i : Int}
@[simp ↓] theorem oShl_eq : oShl = opG pShl := rfl
@[simp] theorem pShl_ii {Q : Rs → Env → Prop} {ρ : Env} {a b : Int} : resQ ρ Q (pShl [.int a, .int b]) = (CShlS a b ∧ Q (.own (.p (.int (shlV a b)))) ρ) := by
  unfold pShl
  dsimp only
  split <;> rename_i h <;> simp [h]
@[simp ↓] theorem oSorted_eq : oSorted = opG pSorted := rfl
@[simp ↓] theorem o_join1_eq : o_join1 = opG pJoin := rfl
@[simp ↓] theorem o_split1_eq : o_split1 = opG pSplit := rfl
@[simp ↓] theorem o_find1_eq : o_find1 = opG pFind := rfl
@[simp ↓] theorem oIntS_eq : oIntS = opG pIntS := rfl
@[simp] theorem pSorted_l : pSorted [.list l] = (fSort l).map .nl := rfl
@[simp] theorem pJoin_l : pJoin [.str a, .list l] = jJoin a (strs? l) := rfl
@[simp] theorem pJoin_t : pJoin [.str a, .tuple l] = jJoin a (strs? l) := rfl
@[simp] theorem jJoin_s {ys : List Str} : jJoin a (some ys) = if CJoin a ys then some (.pd (.str (Txt.join a ys))) else none := rfl
@[simp] theorem strs_nil : strs? [] = some [] := rfl
@[simp] theorem strs_cons : strs? (.str a :: l) = (strs? l).map (a :: ·) := rfl
@[simp] theorem strs_map {ns : List Str} : strs? (ns.map .str) = some ns := by
  induction ns with
  | nil => rfl
  | cons n ns ih => rw [List.map_cons, strs_cons, ih]; rfl
theorem strs_mapf {α : Type} {f : α → Str} {ns : List α} : strs? (ns.map fun a => .str (f a)) = some (ns.map f) := by
  have := strs_map (ns := ns.map f)
  rw [List.map_map] at this
  exact this
@[simp] theorem pSplit_ss : pSplit [.str a, .str b] = if (b.length == 0) = false ∧ a.length + 2 ≤ sizeLine then some (.nl ((Txt.split a b).map .str)) else none := rfl
@[simp] theorem pFind_ss : pFind [.str a, .str b] = some (.pd (.int (Txt.find a b))) := rfl
theorem pIntS_s {n : Int} (h : PySem.intText? a = some n) (hl : a.length ≤ 640) : pIntS [.str a] = some (.pd (.int n)) := by
  unfold pIntS
  simp only [h, if_pos hl]
end
end B
end Pd

set_option Elab.async false
set_option linter.all false
set_option maxRecDepth 100000
set_option maxHeartbeats 1000000
namespace Pd
open PySem PySem.Spec PyProof.Rows L2
open B (oShl_eq oSorted_eq o_join1_eq o_split1_eq o_find1_eq oIntS_eq pSorted_l pJoin_l pJoin_t jJoin_s strs_nil strs_cons strs_map strs_mapf pSplit_ss pFind_ss pIntS_s)
section
variable {a b : Str} {l : List D} {i : Int}
@[simp] theorem pShl_ii {Q : Rs → Env → Prop} {ρ : Env} {a b : Int} : resQ ρ Q (pShl [.int a, .int b]) = (CShlS a b ∧ Q (.own (.p (.int (shlV a b)))) ρ) := B.pShl_ii
end
end Pd


set_option Elab.async false
set_option linter.all false
set_option maxRecDepth 100000
set_option maxHeartbeats 1000000
namespace Pd
open PySem PySem.Spec PyProof.Rows L2

/-! ### < and <= of ints, and of tuples of ints -/
def leT (ns ms : List Int) : Bool := Ob.lexAt (fun j => decide (ns.getD j 0 = ms.getD j 0)) (fun j => decide (ns.getD j 0 ≤ ms.getD j 0)) (decide (ns.length ≤ ms.length)) 0 (min ns.length ms.length)
abbrev rLt2 (K : PySem.W.Frag) : R2 := fun x y H Q => (rI0 fun i j => V.bl (decide (i < j))) x y H Q ∨ rLtT K x y H Q
abbrev rLe2 (K : PySem.W.Frag) : R2 := fun x y H Q => (rI0 fun i j => V.bl (decide (i ≤ j))) x y H Q ∨ rLeT K x y H Q
theorem op_lt2 {X : Cx} (hu : X.A.units < cLine) : OpR X (compareOp .Lt) (rLt2 X.K) := OpR.or op_lt (op_ltT hu)
theorem op_le2 {X : Cx} (hu : X.A.units < cLine) : OpR X (compareOp .LtE) (rLe2 X.K) := OpR.or op_le (op_leT hu)
def jCmp (f : List Int → List Int → Bool) : Option (List Int) → Option (List Int) → Option Rd'
  | some ns, some ms => some (.pd (.bool (f ns ms)))
  | _, _ => none
def pCmp2 (f : Int → Int → Bool) (g : List Int → List Int → Bool) : List D → Option Rd'
  | [.int a, .int b] => some (.pd (.bool (f a b)))
  | [.tuple l, .tuple m] => jCmp g (ints? l) (ints? m)
  | _ => none
def oLt2 := opG (pCmp2 (fun i j => decide (i < j)) HT.lexLt)
def oLe2 := opG (pCmp2 (fun i j => decide (i ≤ j)) leT)
theorem DpAll.ints' {K : PySem.W.Frag} {B : Hp} {l : List D} {ns : List Int} {vs : List V} (h : ints? l = some ns) (d : DpAll K B vs l) : vs = ns.map V.int := by
  rw [ints?_eq h] at d
  exact Pd.DpAll.ints d
theorem cmp2_ok {K : PySem.W.Frag} {f : Int → Int → Bool} {g : List Int → List Int → Bool} : OpOk K (r2 fun x y H Q => (rI0 fun i j => V.bl (f i j)) x y H Q ∨ ∃ (a b : Addr) (ns ms : List Int), x = .ref a ∧ y = .ref b ∧ SqT K H a (ns.map V.int) ∧ SqT K H b (ms.map V.int) ∧ Q (.bl (g ns ms)) H) (opG (pCmp2 f g)) := opG_ok fun B H vs ds res Q e hs hp k => by
  unfold pCmp2 at hp
  split at hp
  · cases hp
    obtain ⟨x, y, rfl, h1, h2⟩ := hs.two
    refine ⟨x, y, rfl, Or.inl ⟨_, _, h1.int, h2.int, k.same e (.bl _)⟩⟩
  · rename_i l m
    obtain ⟨x, y, rfl, h1, h2⟩ := hs.two
    cases e1 : ints? l with
    | none => rw [e1] at hp; cases hp
    | some ns =>
      cases e2 : ints? m with
      | none => rw [e1, e2] at hp; cases hp
      | some ms =>
        rw [e1, e2] at hp
        cases hp
        obtain ⟨a, xs, rfl, h3, h4⟩ := h1.tup
        obtain ⟨b, ys, rfl, h5, h6⟩ := h2.tup
        have q1 := Pd.DpAll.ints' e1 h4
        have q2 := Pd.DpAll.ints' e2 h6
        subst q1
        subst q2
        exact ⟨_, _, rfl, Or.inr ⟨a, b, ns, ms, rfl, rfl, sqt_mono e h3, sqt_mono e h5, k.same e (.bl _)⟩⟩
  · cases hp
theorem oLt2_ok {K : PySem.W.Frag} : OpOk K (r2 (rLt2 K)) oLt2 := cmp2_ok
theorem oLe2_ok {K : PySem.W.Frag} : OpOk K (r2 (rLe2 K)) oLe2 := cmp2_ok
namespace B
@[simp ↓] theorem oLt2_eq : oLt2 = opG (pCmp2 (fun i j => decide (i < j)) HT.lexLt) := rfl
@[simp ↓] theorem oLe2_eq : oLe2 = opG (pCmp2 (fun i j => decide (i ≤ j)) leT) := rfl
@[simp] theorem pCmp2_ii {f : Int → Int → Bool} {g : List Int → List Int → Bool} {a b : Int} : pCmp2 f g [.int a, .int b] = some (.pd (.bool (f a b))) := rfl
@[simp] theorem pCmp2_tt {f : Int → Int → Bool} {g : List Int → List Int → Bool} {l m : List D} : pCmp2 f g [.tuple l, .tuple m] = jCmp g (ints? l) (ints? m) := rfl
@[simp] theorem jCmp_s {g : List Int → List Int → Bool} {l m : List Int} : jCmp g (some l) (some m) = some (.pd (.bool (g l m))) := rfl
theorem leT_two {a b c d : Int} : leT [a, b] [c, d] = decide (a < c ∨ (a = c ∧ b ≤ d)) := by
  unfold leT
  simp [Ob.lexAt, List.getD]
  by_cases h : a = c
  · subst h; simp; omega
  · have : a ≤ c ↔ a < c := by omega
    simp [h, this]
theorem ltT_two {a b c d : Int} : HT.lexLt [a, b] [c, d] = decide (a < c ∨ (a = c ∧ b < d)) := by
  unfold HT.lexLt HT.lexLt HT.lexLt
  by_cases h : a = c <;> by_cases h2 : b = d <;> simp [h, h2]
theorem ltT_three {a b c d e f : Int} : HT.lexLt [a, b, c] [d, e, f] = decide (a < d ∨ (a = d ∧ (b < e ∨ (b = e ∧ c < f)))) := by
  unfold HT.lexLt HT.lexLt HT.lexLt HT.lexLt
  by_cases h : a = d <;> by_cases h2 : b = e <;> by_cases h3 : c = f <;> simp [h, h2, h3]
end B
end Pd

set_option Elab.async false
set_option linter.all false
set_option maxRecDepth 100000
set_option maxHeartbeats 1000000
namespace Pd
open PySem PySem.Spec PyProof.Rows L2

/-! ### the law's own call, where its bits matter -/
theorem law_spB {m : List Sl → Option (Sl × List Sl)} {ns : List Int} (h : ∃ ss', m [.p (.list (ns.map .int))] = some (.p (.bool true), ss')) {K : PySem.W.Frag} {H : Hp} {a : Addr} {E : XK} (hS : SqL K H a (ns.map V.int)) :
    spD K 1 m [.ref a] H (fun v _ => v = .bl true) E := by
  obtain ⟨ss', e⟩ := h
  refine ⟨rfl, H, [.p (.list (ns.map .int))], fun _ => [], ⟨Same.refl H, rfl, fun i s q => ?_, fun _ _ => rfl, (fun i j a h => nomatch h), (fun i a h => nomatch h)⟩, fun s hs => ?_, _, ss', e, fun v B' H' fs' T fr g ok => ?_⟩
  · cases i with
    | zero => cases q; exact ⟨.ref a, rfl, ⟨.lst hS (DpAll.of_ints ns), rfl⟩, fun k h => nomatch h⟩
    | succ i => simp at q
  · simp at hs; subst hs; rfl
  · have hd := ok.1.1
    cases hd
    rfl
end Pd

set_option Elab.async false
set_option linter.all false
set_option maxRecDepth 100000
set_option maxHeartbeats 1000000
namespace Pd
open PySem PySem.Spec PyProof.Rows L2

/-! ### a call by the names of its arguments, in the parameters' order -/
structure CalleeK (P : Program) (w : World) (K : PySem.W.Frag) (mg : Str → Option Value) (base : Heap) (k : Nat) (x : Str) (n : Nat) (F : List Sl → Option (Sl × List Sl)) (ks : List Str) : Prop where
  ex : ∃ (f : Addr) (fd : FuncData) (ps : List Str), FnOk P w K mg base CX0 k f fd ps (spD K n F) ∧ mg x = some (.ref f) ∧ PySem.W.keepIn K (.ref f) = true ∧ ∀ (s : Shared) (ws : List Value), ws.length = ps.length → BindsTo s fd ⟨[], ks.zip ws⟩ (ps.zip ws)
section
variable {X : Cx} {vs0 : List V} {k n : Nat} {F : List Sl → Option (Sl × List Sl)} {x : Str} {p pos kpos : Pos} {e : Expr} {kws : List Keyword} {fe : M Rs} {fa : M (List Rs)} {ks : List Str} {nm : Option Str} {f : Addr} {fd : FuncData} {ps : List Str} {CX : CXT} {sp : L2.Sp} {E : XK} {tk : TA}
theorem dk_nil : PK X [] (rdA X.K vs0 aNil) := PK.imp pk_nil fun σ H Q q => rdA_nil q
theorem dk_cons (he : PE X e (rdE X.K vs0 fe)) (ha : PK X kws (rdA X.K vs0 fa)) : PK X (⟨nm, e, kpos⟩ :: kws) (rdA X.K vs0 (aCons fe fa)) := PK.imp (pk_cons he ha) fun σ H Q q => rd_cons q
theorem run_fnk0 {pins : List (Addr × Obj)} {σ : L2.St} {H : Hp} {s : Shared} {Q : VK} {ws : List Value} {zs : List V} (F : FnOk X.prog X.w X.K X.mg X.base CX k f fd ps sp) (hr : Room k X.A)
    (hb : ∀ (s : Shared) (ws : List Value), ws.length = ps.length → BindsTo s fd ⟨[], ks.zip ws⟩ (ps.zip ws)) (hx : Passes CX X E)
    (I : Inv X pins σ H s) (rz : Vals zs ws) (h : sp zs H Q E) : wpAny (model X.prog X.w) X.A (call (.ref f) [] (ks.zip ws)) (EP X pins σ Q) X.xe s := by
  have hl : ws.length = ps.length := by rw [← rz.length]; exact F.len _ _ _ _ h
  refine wpAny_call (codeAny_mono (F.run X.A X.stack s H ⟨[], ks.zip ws⟩ ws zs Q E hr I.env0 (hb s ws hl) rz h) fun r s' hq => ?_)
  cases r with
  | error e => exact hx pins σ H s e s' I hq
  | ok fl =>
    cases fl with
    | ret u => exact I.after hq
    | next => exact False.elim hq
    | brk => exact False.elim hq
    | cont => exact False.elim hq
theorem pe_callK0 (F : FnOk X.prog X.w X.K X.mg X.base CX k f fd ps sp) (hr : Room k X.A) (hg : Gl X x) (hm : X.mg x = some (.ref f)) (hk : PySem.W.keepIn X.K (.ref f) = true)
    (hb : ∀ (s : Shared) (ws : List Value), ws.length = ps.length → BindsTo s fd ⟨[], ks.zip ws⟩ (ps.zip ws)) (hx : Passes CX X E) (hkw : PK X kws tk)
    (hall : (backToKw pos (keywordEach kws X.env)).all (·.1.isSome) = true) (hks : (backToKw pos (keywordEach kws X.env)).filterMap (·.1) = ks) (hdb : (x == ("__debug__" : Str)) = false)
    (hpl : ((backTo pos (starEach [] X.env)).any (·.1) || (backToKw pos (keywordEach kws X.env)).any (·.1.isNone)) = false) :
    PE X (.Call (.Name x p) [] kws pos) (fun σ H Q => tk σ H fun zs H2 => sp zs H2 Q E) := by
  refine ⟨fun pins s σ H Q I h => ?_⟩
  refine wpAny_Call_Name_kw (ld_glob I hg hm ?_ hdb)
  refine PySem.W.callWith_KW0 (h₀ := X.base) I.ok.mod.kin hk hall ?_ hpl
  refine thn (hkw.run pos pins s σ H _ I h) fun ws s2 ⟨zs, H2, I2, rz, q2⟩ => ⟨I2.kIn, ?_⟩
  rw [hks]
  exact run_fnk0 F hr hb hx I2 rz q2
theorem de_useK (C : CalleeK X.prog X.w X.K X.mg X.base k x n F ks) (hr : Room k X.A) (hg : Gl X x) (ha : PK X kws (rdA X.K vs0 fa))
    (hall : (backToKw pos (keywordEach kws X.env)).all (·.1.isSome) = true := by rfl) (hks : (backToKw pos (keywordEach kws X.env)).filterMap (·.1) = ks := by rfl) (hdb : (x == ("__debug__" : Str)) = false := by decide)
    (hpl : ((backTo pos (starEach [] X.env)).any (·.1) || (backToKw pos (keywordEach kws X.env)).any (·.1.isNone)) = false := by rfl) :
    PE X (.Call (.Name x p) [] kws pos) (rdE X.K vs0 (M.bind fa (opCall n F))) := by
  obtain ⟨f, fd, ps, Fn, hm, hk, hb⟩ := C.ex
  exact PE.imp (pe_callK0 (E := E0) Fn hr hg hm hk hb pass0 ha hall hks hdb hpl) fun _ _ _ q => rd_op opCall_ok q
/-- how its arguments bind by their names -/
theorem kw_binds {K : PySem.W.Frag} {x qual : Str} {st : Stmt} {f : Addr} {fd : FuncData} {ps ks : List Str} (F : Fun K x qual st f fd)
    (h : ∀ (kV doc pm : Value) (an : Option Addr) (cdv ct : Value) (us : List Value), us.length = ps.length → bindArgs (PySem.W.fnOf x qual (defArgs st) (defBody st) (defScope st) .none kV doc pm an cdv ct) ⟨[], ks.zip us⟩ = pure (ps.zip us)) :
    ∀ (s : Shared) (ws : List Value), ws.length = ps.length → BindsTo s fd ⟨[], ks.zip ws⟩ (ps.zip ws) := by
  obtain ⟨oc, od, kV, doc, pm, an, cdv, ct, osl, rfl, lk, hcd⟩ := F.ex
  exact fun s ws hl => .of_eq (h kV doc pm an cdv ct ws hl)
end
end Pd

set_option Elab.async false
set_option linter.all false
set_option maxRecDepth 100000
set_option maxHeartbeats 1000000
namespace Pd
open PySem PySem.Spec PyProof.Rows L2

/-! ### dicts of data -/
def kOf : D → Option Key
  | .int i => some (.inl i)
  | .str x => some (.inr x)
  | _ => none
def kD : Key → D
  | .inl i => .int i
  | .inr x => .str x
def valD (l : List (Key × D)) (k : Key) : Option D := (l.find? fun kv => decide (kv.1 = k)).map (·.2)
def putD (l : List (Key × D)) (k : Key) (d : D) : List (Key × D) :=
  if (l.any fun kv => decide (kv.1 = k)) = true then l.map (fun kv => if kv.1 = k then (kv.1, d) else kv) else l ++ [(k, d)]
def mergeD (l more : List (Key × D)) : List (Key × D) := more.foldl (fun acc kv => putD acc kv.1 kv.2) l
section
variable {K : PySem.W.Frag} {B H : Hp}
theorem kOf_kD (k : Key) : kOf (kD k) = some k := by cases k <;> rfl
theorem kOf_dp {v : V} {d : D} {k : Key} (h : Dp K B v d) (e : kOf d = some k) : v = kV k := by
  cases d with
  | int i => cases e; cases h; rfl
  | str x => cases e; cases h; rfl
  | none => cases e
  | bool b => cases e
  | list l => cases e
  | tuple l => cases e
  | dict l => cases e
theorem kD_dp (k : Key) : Dp K B (kV k) (kD k) := by
  cases k with
  | inl i => exact .int i
  | inr x => exact .str x
theorem KvD.len {ks : List (Key × V)} {l : List (Key × D)} (h : KvD K B ks l) : ks.length = l.length := Paired.length h
theorem KvD.val {ks : List (Key × V)} {l : List (Key × D)} (h : KvD K B ks l) (k : Key) : (valV ks k = none ∧ valD l k = none) ∨ ∃ v d, valV ks k = some v ∧ valD l k = some d ∧ Dp K B v d := by
  unfold KvD at h
  induction h with
  | nil => exact Or.inl ⟨rfl, rfl⟩
  | @cons p q ps qs h t ih =>
    obtain ⟨h1, h2⟩ := h
    by_cases e : p.1 = k
    · refine Or.inr ⟨p.2, q.2, valV_pos e, ?_, h2⟩
      simp [valD, List.find?_cons, ← h1, e]
    · have e' : ¬ q.1 = k := fun z => e (h1.trans z)
      have b : valD (q :: qs) k = valD qs k := by simp [valD, List.find?_cons, e']
      rw [valV_neg e, b]
      exact ih
theorem KvD.any {ks : List (Key × V)} {l : List (Key × D)} (h : KvD K B ks l) (k : Key) : (ks.any fun kv => decide (kv.1 = k)) = l.any fun kv => decide (kv.1 = k) := by
  unfold KvD at h
  induction h with
  | nil => rfl
  | cons h t ih => rw [List.any_cons, List.any_cons, ih, h.1]
theorem KvD.app {ks ks' : List (Key × V)} {l l' : List (Key × D)} (h : KvD K B ks l) (h' : KvD K B ks' l') : KvD K B (ks ++ ks') (l ++ l') := by
  unfold KvD at h ⊢
  induction h with
  | nil => exact h'
  | cons h t ih => exact .cons h ih
theorem KvD.repl {ks : List (Key × V)} {l : List (Key × D)} (h : KvD K B ks l) (k : Key) {v : V} {d : D} (hd : Dp K B v d) :
    KvD K B (ks.map fun kv => if kv.1 = k then (kv.1, v) else kv) (l.map fun kv => if kv.1 = k then (kv.1, d) else kv) := by
  unfold KvD at h ⊢
  induction h with
  | nil => exact .nil
  | @cons p q ps qs h t ih =>
    rw [List.map_cons, List.map_cons]
    refine .cons ?_ ih
    obtain ⟨h1, h2⟩ := h
    by_cases e : p.1 = k
    · rw [if_pos e, if_pos (h1.symm.trans e)]; exact ⟨h1, hd⟩
    · rw [if_neg e, if_neg (fun z => e (h1.trans z))]; exact ⟨h1, h2⟩
theorem KvD.put {ks : List (Key × V)} {l : List (Key × D)} (h : KvD K B ks l) (k : Key) {v : V} {d : D} (hd : Dp K B v d) : KvD K B (putK ks k v) (putD l k d) := by
  unfold putK putD
  rw [h.any k]
  split
  · exact h.repl k hd
  · exact h.app (.cons ⟨rfl, hd⟩ .nil)
theorem KvD.merge {more : List (Key × V)} {mored : List (Key × D)} (hm : KvD K B more mored) : ∀ {ks : List (Key × V)} {l : List (Key × D)}, KvD K B ks l → KvD K B (mergeK ks more) (mergeD l mored) := by
  unfold KvD at hm
  induction hm with
  | nil => intro ks l h; exact h
  | @cons p q ps qs h t ih =>
    intro ks l g
    obtain ⟨h1, h2⟩ := h
    show KvD K B (mergeK (putK ks p.1 p.2) ps) (mergeD (putD l q.1 q.2) qs)
    rw [h1]
    exact ih (g.put q.1 h2)
theorem KvD.vals {ks : List (Key × V)} {l : List (Key × D)} (h : KvD K B ks l) : DpAll K B (ks.map (·.2)) (l.map (·.2)) := by
  unfold KvD at h
  induction h with
  | nil => exact .nil
  | cons h t ih => rw [List.map_cons, List.map_cons]; exact .cons h.2 ih
end

/-! ### what an operand is -/
inductive Vw where
  | d (x : D)
  | m (l : List (Key × D))
def Rs.vw (r : Rs) (ρ : Env) : Option Vw := match r with
  | .own (.md _ l) => some (.m l)
  | .own (.fd l) => some (.m l)
  | .bor i => match ρ[i]? with
    | some (some (.md _ l)) => some (.m l)
    | _ => (Rs.view (.bor i) ρ).map .d
  | r => (r.view ρ).map .d
def ShV (K : PySem.W.Frag) (B H : Hp) (v : V) : Vw → Prop
  | .d x => ShD K B H v x
  | .m l => ∃ a ks, v = .ref a ∧ Rd H a (.dK ks) ∧ KvD K B ks l
def vwAll : List Rs → Env → Option (List Vw)
  | [], _ => some []
  | r :: rs, ρ => match r.vw ρ with
    | some d => match vwAll rs ρ with
      | some ds => some (d :: ds)
      | none => none
    | none => none
def ShVs (K : PySem.W.Frag) (B H : Hp) : List V → List Vw → Prop
  | [], [] => True
  | v :: vs, d :: ds => ShV K B H v d ∧ ShVs K B H vs ds
  | _, _ => False
section
variable {K : PySem.W.Frag} {vs0 : List V} {B H : Hp} {σ : L2.St} {ρ : Env} {fs : Nat → List Addr}
theorem ShVs.one {vs : List V} {a : Vw} (h : ShVs K B H vs [a]) : ∃ x, vs = [x] ∧ ShV K B H x a := by
  match vs, h with
  | [x], h => exact ⟨x, rfl, h.1⟩
theorem ShVs.two {vs : List V} {a b : Vw} (h : ShVs K B H vs [a, b]) : ∃ x y, vs = [x, y] ∧ ShV K B H x a ∧ ShV K B H y b := by
  match vs, h with
  | [x, y], h => exact ⟨x, y, rfl, h.1, h.2.1⟩
theorem ShVs.three {vs : List V} {a b c : Vw} (h : ShVs K B H vs [a, b, c]) : ∃ x y z, vs = [x, y, z] ∧ ShV K B H x a ∧ ShV K B H y b ∧ ShV K B H z c := by
  match vs, h with
  | [x, y, z], h => exact ⟨x, y, z, rfl, h.1, h.2.1, h.2.2.1⟩
theorem vw_d {v : V} {r : Rs} {T : List Addr} {w : Vw} (g : Good K vs0 B H σ ρ fs) (h : RsOk K B H σ fs v r T) (e : (r.view ρ).map Vw.d = some w) : ShV K B H v w := by
  cases e2 : r.view ρ with
  | none => rw [e2] at e; cases e
  | some d => rw [e2] at e; cases e; exact view_ok g h e2
theorem vw_ok {v : V} {r : Rs} {T : List Addr} {w : Vw} (g : Good K vs0 B H σ ρ fs) (h : RsOk K B H σ fs v r T) (e : r.vw ρ = some w) : ShV K B H v w := by
  cases r with
  | own s =>
    cases s with
    | p d' => exact vw_d g h e
    | ml t l => exact vw_d g h e
    | md t l =>
      cases e
      obtain ⟨⟨a, ks, rfl, _, h1, h2⟩, _⟩ := h
      exact ⟨a, ks, rfl, Or.inl h1, h2⟩
    | mr t l => exact vw_d g h e
    | ob t c ns l => exact vw_d g h e
    | ex c f => exact vw_d g h e
    | fd l =>
      cases e
      obtain ⟨⟨⟨a, ks, o, rfl, h1, h2⟩, _⟩, _⟩ := h
      exact ⟨a, ks, rfl, Or.inr ⟨o, g.ext _ _ h1⟩, h2⟩
    | hl t => exact vw_d g h e
  | lent i s k => exact vw_d g h e
  | bor i =>
    unfold Rs.vw at e
    dsimp only at e
    split at e
    · rename_i t l e2
      cases e
      obtain ⟨v', h1, ⟨a, xs, rfl, _, h2, h3⟩, _⟩ := g.at_ i _ e2
      have hh : σ[i]? = some (some v) ∧ T = [] := h
      rw [h1] at hh
      cases hh.1
      exact ⟨a, xs, rfl, Or.inl h2, h3⟩
    · exact vw_d g h e
theorem vwAll_ok (g : Good K vs0 B H σ ρ fs) : ∀ {vs : List V} {rs : List Rs} {Ts : List (List Addr)} {ds : List Vw}, RsAll K B H σ fs vs rs Ts → vwAll rs ρ = some ds → ShVs K B H vs ds
  | [], [], [], ds, _, e => by cases e; exact True.intro
  | v :: vs, r :: rs, T :: Ts, ds, h, e => by
    unfold vwAll at e
    split at e
    · rename_i d e1
      split at e
      · rename_i ds' e2
        cases e
        exact ⟨vw_ok g h.1 e1, vwAll_ok g h.2 e2⟩
      · cases e
    · cases e
  | [], [], _ :: _, _, g, _ => g.elim
  | [], _ :: _, _, _, g, _ => g.elim
  | _ :: _, [], _, _, g, _ => g.elim
  | _ :: _, _ :: _, [], _, g, _ => g.elim
end
inductive Rd2 where
  | pd (d : D)
  | nl (l : List D)
  | nm (l : List (Key × D))
def Rd2.rs : Rd2 → Rs
  | .pd d => .own (.p d)
  | .nl l => .own (.ml none l)
  | .nm l => .own (.md none l)
def ResV (K : PySem.W.Frag) (B H : Hp) (Q : VK) : Rd2 → Prop
  | .pd d => ∀ v B' H', Fr B H (fun _ => False) B' H' (fun _ => False) → Same B' H' → Dp K B' v d → Q v H'
  | .nl l => ∀ p xs, H p = none → DpAll K B xs l → Q (.ref p) (upd H p (.lst xs))
  | .nm l => ∀ p ks, H p = none → KvD K B ks l → Q (.ref p) (upd H p (.dK ks))
def opV (pf : List Vw → Option Rd2) : List Rs → M Rs := fun rs ρ => match vwAll rs ρ with
  | some ds => match pf ds with
    | some res => some (.ok res.rs ρ)
    | none => none
  | none => none
theorem newOwn_ok {K : PySem.W.Frag} {vs0 : List V} {σ : L2.St} {B H : Hp} {ρ : Env} {fs : Nat → List Addr} {Ts : List Addr} {Q : VK} {s : Sl} {p : Addr} {o : HO} (g : Good K vs0 B H σ ρ fs) (hp : H p = none) (own : Own K B (upd H p o) (.ref p) s [p]) (ht : s.tag = none)
    (k : ∀ v B' H' fs' T, Fr B H (UnF (InF fs) Ts) B' H' (UnF (InF fs') T) → Good K vs0 B' H' σ ρ fs' → RsOk K B' H' σ fs' v (.own s) T → Q v H') : Q (.ref p) (upd H p o) := by
  have fr := Fr.newL (B := B) (o := o) hp
  refine k (.ref p) B _ fs [p] (fr.weak (fun _ f => f.elim) fun a f => ?_) (g.grow fr (fun _ _ f => f) (g.ext.trans fr.sameH)) ⟨own, ht, fun a ha => ?_⟩
  · rcases f with f | f
    · exact Or.inr (Or.inl (Or.inl f))
    · exact Or.inl f
  · simp at ha
    subst ha
    refine ⟨?_, fun i hi => g.lives hi hp⟩
    cases e : B a with
    | none => rfl
    | some u => rw [g.ext a u e] at hp; cases hp
theorem opV_ok {K : PySem.W.Frag} {r : List V → Hp → VK → Prop} {pf : List Vw → Option Rd2} (h : ∀ B H vs ds res Q, Same B H → ShVs K B H vs ds → pf ds = some res → ResV K B H Q res → r vs H Q) : OpOk K r (opV pf) := by
  intro vs0 σ B H ρ fs vs rs Ts Q g ok nd r' ρ' e k
  unfold opV at e
  split at e
  · rename_i ds e1
    split at e
    · rename_i res e2
      cases e
      refine h B H vs ds res Q g.ext (vwAll_ok g ok e1) e2 ?_
      cases res with
      | pd d =>
        intro v B' H' fr ex hd
        refine k v B' H' fs [] (fr.weak (fun _ f => f.elim) fun a f => ?_) (g.grow fr (fun _ _ f => f) ex) ⟨⟨hd, rfl⟩, rfl, fun a ha => nomatch ha⟩
        rcases f with f | f
        · exact Or.inr (Or.inl (Or.inl f))
        · cases f
      | nl l => exact fun p xs hp hd => newOwn_ok (s := .ml none l) g hp ⟨p, xs, rfl, rfl, upd_same, hd⟩ rfl k
      | nm l => exact fun p xs hp hd => newOwn_ok (s := .md none l) g hp ⟨p, xs, rfl, rfl, upd_same, hd⟩ rfl k
    · cases e
  · cases e
section
variable {K : PySem.W.Frag} {B H : Hp} {Q : VK}
theorem ResV.same {d : D} (k : ResV K B H Q (.pd d)) (e : Same B H) {v : V} (h : Dp K B v d) : Q v H := k v B H (Fr.refl B H _) e h
theorem ResV.bool {i : Bool} (k : ResV K B H Q (.pd (.bool i))) (e : Same B H) : Q (.bl i) H := k.same e (.bl i)
end

/-! ### {} -/
def eDNew : M Rs := fun ρ => some (.ok (.own (.md none [])) ρ)
theorem de_dnew {X : Cx} {vs0 : List V} {pos : Pos} : PE X (.Dict [] [] pos) (rdE X.K vs0 eDNew) := PE.imp pe_dnewK fun σ H Q q => by
  obtain ⟨B, ρ, fs, g, r, ρ', e1, k⟩ := q
  cases e1
  intro p hp
  exact newOwn_ok (Ts := []) (s := .md none []) g hp ⟨p, [], rfl, rfl, upd_same, .nil⟩ rfl fun v B' H' fs' T fr g' ok => k v B' H' fs' T (Fr.weak fr (fun a h => by
    rcases h with h | h
    · exact h
    · cases h) fun a h => Or.inl h) g' ok
/-! ### d[k], k in d, k not in d -/
def rIxD : R2 := fun x y H Q => ∃ a v, x = .ref a ∧ DGet H a y (some v) ∧ Q v H
def rInD : R2 := fun x y H Q => ∃ a o, y = .ref a ∧ DGet H a x o ∧ Q (.bl o.isSome) H
def rNiD : R2 := fun x y H Q => ∃ a o, y = .ref a ∧ DGet H a x o ∧ Q (.bl (!o.isSome)) H
section
variable {X : Cx}
theorem ix_dict (hu : X.A.units + 64 < cLine) : IxR X rIxD := by
  intro value slice pins s σ H x y v u Q I rx ry h hs
  obtain ⟨a, z, rfl, g, q⟩ := h
  cases rx
  exact tail_any (dict_typeIs I g) PySem.F.slot_dict_getitem.lookup (d_getItem (by omega) I g ry fun w' s' I' rw' => ⟨z, H, I', rw', q⟩) hs
theorem op_inDd (hu : X.A.units + 64 < cLine) : OpR X (compareOp .In) rInD := by
  intro pins s σ H x y v u Q I rx ry h
  obtain ⟨a, o, rfl, g, q⟩ := h
  cases ry
  exact d_in (by omega) I g rx fun s' I' => ⟨.bl _, H, I', rfl, q⟩
theorem op_niDd (hu : X.A.units + 64 < cLine) : OpR X (compareOp .NotIn) rNiD := by
  intro pins s σ H x y v u Q I rx ry h
  obtain ⟨a, o, rfl, g, q⟩ := h
  cases ry
  exact d_notIn (by omega) I g rx fun s' I' => ⟨.bl _, H, I', rfl, q⟩
end
theorem dgetR {H : Hp} {a : Addr} {kvs : List (Key × V)} {k : Key} (e : Rd H a (.dK kvs)) : DGet H a (kV k) (valV kvs k) := .inl ⟨kvs, k, e, rfl, rfl⟩
def pIxD : List Vw → Option Rd2
  | [.m l, .d y] => match kOf y with
    | some k => match valD l k with
      | some d => some (.pd d)
      | none => none
    | none => none
  | _ => none
def pInD : List Vw → Option Rd2
  | [.d y, .m l] => match kOf y with
    | some k => some (.pd (.bool (valD l k).isSome))
    | none => none
  | _ => none
def pNiD : List Vw → Option Rd2
  | [.d y, .m l] => match kOf y with
    | some k => some (.pd (.bool (!(valD l k).isSome)))
    | none => none
  | _ => none
def oIxD := opV pIxD
def oInD := opV pInD
def oNiD := opV pNiD
theorem oIxD_ok {K : PySem.W.Frag} : OpOk K (r2 rIxD) oIxD := opV_ok fun B H vs ds res Q e hs hp k => by
  unfold pIxD at hp
  split at hp
  · split at hp
    · rename_i kk hk
      split at hp
      · rename_i d hv
        cases hp
        obtain ⟨x, y, rfl, ⟨a, ks, rfl, h1, h2⟩, h3⟩ := hs.two
        have e3 := kOf_dp (h3.dp e) hk
        subst e3
        rcases h2.val kk with ⟨_, z⟩ | ⟨v, d', z1, z2, z3⟩
        · rw [hv] at z; cases z
        · rw [hv] at z2
          cases z2
          exact ⟨_, _, rfl, a, v, rfl, by rw [← z1]; exact dgetR h1, k.same e z3⟩
      · cases hp
    · cases hp
  · cases hp
theorem valD_some {K : PySem.W.Frag} {B : Hp} {ks : List (Key × V)} {l : List (Key × D)} (h : KvD K B ks l) (k : Key) : (valV ks k).isSome = (valD l k).isSome := by
  rcases h.val k with ⟨z1, z2⟩ | ⟨v, d', z1, z2, z3⟩
  · rw [z1, z2]; rfl
  · rw [z1, z2]; rfl
theorem oInD_ok {K : PySem.W.Frag} : OpOk K (r2 rInD) oInD := opV_ok fun B H vs ds res Q e hs hp k => by
  unfold pInD at hp
  split at hp
  · split at hp
    · rename_i kk hk
      cases hp
      obtain ⟨x, y, rfl, h3, ⟨a, ks, rfl, h1, h2⟩⟩ := hs.two
      have e3 := kOf_dp (h3.dp e) hk
      subst e3
      exact ⟨_, _, rfl, a, _, rfl, dgetR h1, by rw [valD_some h2]; exact k.bool e⟩
    · cases hp
  · cases hp
theorem oNiD_ok {K : PySem.W.Frag} : OpOk K (r2 rNiD) oNiD := opV_ok fun B H vs ds res Q e hs hp k => by
  unfold pNiD at hp
  split at hp
  · split at hp
    · rename_i kk hk
      cases hp
      obtain ⟨x, y, rfl, h3, ⟨a, ks, rfl, h1, h2⟩⟩ := hs.two
      have e3 := kOf_dp (h3.dp e) hk
      subst e3
      exact ⟨_, _, rfl, a, _, rfl, dgetR h1, by rw [valD_some h2]; exact k.bool e⟩
    · cases hp
  · cases hp
/-! ### d[k] = v -/
def putSub (o i : Rs) (d : D) : M Fl := fun ρ => match o with
  | .bor j => match ρ[j]? with
    | some (some (.md t l)) => match i.view ρ with
      | some y => match kOf y with
        | some k => if l.length < sizeLine then some (.ok .nx (ρ.set j (some (.md t (putD l k d))))) else none
        | none => none
      | none => none
    | _ => none
  | _ => none
def gPut (f fo fi : M Rs) : M Fl := M.bind f fun r => M.bind (freezeR r) fun d => M.bind fo fun o => M.bind fi fun i => putSub o i d
theorem ds_put {X : Cx} {vs0 : List V} {e o i : Expr} {f fo fi : M Rs} {pos tpos : Pos} (hu : X.A.units + 64 < cLine) (he : PE X e (rdE X.K vs0 f)) (ho : PE X o (rdE X.K vs0 fo)) (hi : PE X i (rdE X.K vs0 fi))
    (hs : swapsWith e (some (.Subscript o i tpos)) pos.line X.env = pure false := by rfl) :
    PS X (.Assign [.Subscript o i tpos] e pos) (rdS X.K vs0 (gPut f fo fi)) := PS.imp (ps_dput (by omega) ho hi he hs) fun D σ H q => by
  obtain ⟨B, ρ, fs, gd, fl, ρ', e1, k⟩ := q
  obtain ⟨r, ρ1, e2, e3⟩ := M.bind_ok e1
  obtain ⟨d, ρ2, e4, e5⟩ := M.bind_ok e3
  obtain ⟨ro, ρ3, e6, e7⟩ := M.bind_ok e5
  obtain ⟨ri, ρ4, e8, e9⟩ := M.bind_ok e7
  refine ⟨B, ρ, fs, gd, r, ρ1, e2, fun v B1 H1 fs1 T1 fr1 g1 ok1 => ?_⟩
  obtain ⟨B2, fs2, fr2, g2, d2⟩ := freezeR_ok g1 ok1 e4
  refine ⟨B2, ρ2, fs2, g2, ro, ρ3, e6, fun u B3 H3 fs3 T3 fr3 g3 ok3 => ⟨B3, ρ3, fs3, g3, ri, ρ4, e8, fun w B4 H4 fs4 T4 fr4 g4 ok4 => ?_⟩⟩
  unfold putSub at e9
  cases ro with
  | own s => cases e9
  | lent _ _ _ => cases e9
  | bor j =>
  dsimp only at e9
  split at e9
  · rename_i t l e10
    split at e9
    · rename_i y e11
      split at e9
      · rename_i kk e12
        split at e9
        · rename_i hsz
          cases e9
          obtain ⟨v', q1, ⟨a, ks, rfl, hfs, q2, q3⟩, _⟩ := g4.at_ j _ e10
          obtain ⟨z1, z2⟩ := ok3
          rw [q1] at z1
          cases z1
          have ew := kOf_dp ((view_ok g4 ok4 e11).dp g4.ext) e12
          subst ew
          refine ⟨a, _, rfl, DPut.k q2 (by rw [q3.len]; exact hsz), ?_⟩
          have dv : Dp X.K B4 v d := Dp.mono ((fr3.bb).trans fr4.bb) d2
          have g5 := g4.upd (o := HO.dK (putK ks kk v)) (s' := .md t (putD l kk d)) e10 hfs q1 ⟨a, _, rfl, rfl, upd_same, q3.put kk dv⟩ rfl
          refine k σ B4 _ fs4 ((fr1.trans fr2).trans (((fr_drop fr3).trans (fr_drop fr4)).trans (Fr.updIn ⟨j, by rw [hfs]; simp⟩))) g5
        · cases e9
      · cases e9
    · cases e9
  · cases e9
/-! ### dict(x) -/
def pairsD : List D → Option (List (Key × D))
  | [] => some []
  | .tuple [a, b] :: t => match kOf a with
    | some k => match pairsD t with
      | some l => some ((k, b) :: l)
      | none => none
    | none => none
  | _ :: _ => none
def pDict : List Vw → Option Rd2
  | [.m l] => some (.nm l)
  | [.d (.list ps)] => match pairsD ps with
    | some l => some (.nm (mergeD [] l))
    | none => none
  | _ => none
def oDict := opV pDict
def rDict (K : PySem.W.Frag) : List V → Hp → VK → Prop := fun xs H Q => (∃ a kvs, xs = [.ref a] ∧ Rd H a (.dK kvs) ∧ ∀ p, H p = none → Q (.ref p) (upd H p (.dK kvs))) ∨
  ∃ (a : Addr) (ps : List Addr) (kvs : List (Key × V)), xs = [.ref a] ∧ SqL K H a (ps.map V.ref) ∧ Paired (fun p kv => SqT K H p [kV kv.1, kv.2]) ps kvs ∧ ∀ p, H p = none → Q (.ref p) (upd H p (.dK (mergeK [] kvs)))
theorem call_dictA {X : Cx} (hcalm : X.calm = true) : CallR X (.type "dict") (rDict X.K) := CallR.or (fun pins s σ H xs us Q I r h => by
  obtain ⟨a, kvs, rfl, h1, q⟩ := h
  obtain ⟨u, rfl, rx⟩ := vals1 r
  cases rx
  exact d_copyOf I h1 fun p s' hp I' => ⟨.ref p, _, I', rfl, q p hp⟩) (call_dictP hcalm)
theorem pairs_dp {K : PySem.W.Frag} {B : Hp} : ∀ {ps : List D} {xs : List V} {l : List (Key × D)}, DpAll K B xs ps → pairsD ps = some l → ∃ (as : List Addr) (kvs : List (Key × V)), xs = as.map V.ref ∧ Paired (fun p kv => SqT K B p [kV kv.1, kv.2]) as kvs ∧ KvD K B kvs l
  | [], xs, l, h, e => by
    cases h
    cases e
    exact ⟨[], [], rfl, .nil, .nil⟩
  | d :: t, xs, l, h, e => by
    cases h with
    | @cons v vs _ _ h1 h2 =>
      unfold pairsD at e
      split at e
      · rename_i heq
        cases heq
      · rename_i a b t' heq
        cases heq
        split at e
        · rename_i k hk
          split at e
          · rename_i l' hl
            cases e
            obtain ⟨as, kvs, e1, e2, e3⟩ := pairs_dp h2 hl
            subst e1
            cases h1 with
            | tup s1 s2 =>
              cases s2 with
              | cons t1 t2 =>
                cases t2 with
                | cons t3 t4 =>
                  cases t4
                  have := kOf_dp t1 hk
                  subst this
                  exact ⟨_ :: as, (k, _) :: kvs, rfl, .cons s1 e2, .cons ⟨rfl, t3⟩ e3⟩
          · cases e
        · cases e
      · cases e
theorem oDict_ok {K : PySem.W.Frag} : OpOk K (rDict K) oDict := opV_ok fun B H vs ds res Q e hs hp k => by
  unfold pDict at hp
  split at hp
  · cases hp
    obtain ⟨x, rfl, ⟨a, ks, rfl, h1, h2⟩⟩ := hs.one
    exact Or.inl ⟨a, ks, rfl, h1, fun p hp => k p ks hp h2⟩
  · split at hp
    · rename_i l hl
      cases hp
      obtain ⟨x, rfl, ⟨a, xs, rfl, h1, h2⟩⟩ := hs.one
      obtain ⟨as, kvs, rfl, e2, e3⟩ := pairs_dp h2 hl
      exact Or.inr ⟨a, as, kvs, rfl, h1, Paired.mapP e2 fun p q r => sqt_mono e r, fun p hp => k p _ hp (KvD.merge e3 .nil)⟩
    · cases hp
  · cases hp
/-! ### == and != of dicts -/
def hitsD (lb : List (Key × D)) : List (Key × D) → Bool
  | [] => true
  | p :: r => match valD lb p.1 with
    | none => false
    | some e => PyData.eqv p.2 e && hitsD lb r
def eqD (la lb : List (Key × D)) : Bool := la.length == lb.length && hitsD lb la
def shal (l : List (Key × D)) : Bool := l.all fun p => decide (p.2.depth ≤ 40)
def rEqD (K : PySem.W.Frag) : R2 := fun x y H Q => ∃ a b ka kb la lb, x = .ref a ∧ y = .ref b ∧ Rd H a (.dK ka) ∧ Rd H b (.dK kb) ∧ KvD K H ka la ∧ KvD K H kb lb ∧ shal la = true ∧ Q (.bl (eqD la lb)) H
def rNeD (K : PySem.W.Frag) : R2 := fun x y H Q => ∃ a b ka kb la lb, x = .ref a ∧ y = .ref b ∧ Rd H a (.dK ka) ∧ Rd H b (.dK kb) ∧ KvD K H ka la ∧ KvD K H kb lb ∧ shal la = true ∧ Q (.bl (!eqD la lb)) H
section
variable {X : Cx} {pins : List (Addr × Obj)} {σ : L2.St} {H : Hp} {s : Shared}
theorem relO_none {u : Option Value} (h : RelO none u) : u = none := by
  cases u with
  | none => rfl
  | some _ => exact (show False from h).elim
theorem relO_some {v : V} {u : Option Value} (h : RelO (some v) u) : ∃ w, u = some w ∧ RelV v w := by
  cases u with
  | none => exact (show False from h).elim
  | some w => exact ⟨w, rfl, h⟩
theorem hits_of (I : Inv X pins σ H s) {A : Around} (hu : A.units + 40 < cLine) {kb : List (Key × V)} {lb : List (Key × D)} {vb : List (Key × Value)} (hb : KvD X.K H kb lb) (rb : KV kb vb) :
    ∀ {la : List (Key × D)} {ka : List (Key × V)} {va : List (Key × Value)}, KvD X.K H ka la → KV ka va → shal la = true → PySem.W.KeqHits A s vb va (hitsD lb la)
  | [], ka, va, h, r, _ => by
    unfold KvD at h
    cases h
    unfold KV at r
    cases r
    exact .nil
  | p :: la, ka, va, h, r, hs => by
    unfold KvD at h
    cases h with
    | @cons q _ ks _ h1 h2 =>
    unfold KV at r
    cases r with
    | @cons _ w _ ws r1 r2 =>
    obtain ⟨k, v⟩ := w
    obtain ⟨e1, d1⟩ := h1
    obtain ⟨e2, rv⟩ := r1
    have ek : p.1 = k := e1.symm.trans e2
    have hs' : p.2.depth ≤ 40 ∧ shal la = true := by
      unfold shal at hs ⊢
      rw [List.all_cons, Bool.and_eq_true] at hs
      exact ⟨of_decide_eq_true hs.1, hs.2⟩
    have ih := hits_of I hu hb rb h2 r2 hs'.2
    have rr := rb.val k
    unfold hitsD
    rw [ek]
    rcases hb.val k with ⟨z1, z2⟩ | ⟨v', d', z1, z2, z3⟩
    · rw [z2]
      rw [z1] at rr
      exact .miss (relO_none rr)
    · rw [z2]
      rw [z1] at rr
      obtain ⟨y, hy, ry⟩ := relO_some rr
      obtain ⟨as, ra⟩ := Dp.reads I _ _ _ d1 rv
      obtain ⟨bs, rb'⟩ := Dp.reads I _ _ _ z3 ry
      exact .hit hy (SeqAt.eqAt_plain _ _ _ _ _ _ _ _ ra rb' (Dp.plain d1) (Dp.plain z3) (by
        have := hs'.1
        have := Nat.min_le_left p.2.depth d'.depth
        omega)) ih
theorem op_eqDd (hu : X.A.units + 64 < cLine) : OpR X (compareOp .Eq) (rEqD X.K) := by
  intro pins s σ H x y v u Q I rx ry h
  obtain ⟨a, b, ka, kb, la, lb, rfl, rfl, h1, h2, k1, k2, hs, q⟩ := h
  cases rx
  cases ry
  obtain ⟨_, ya, va, ra, da⟩ := dk_rd I.hok h1
  obtain ⟨_, yb, vb, rb, db⟩ := dk_rd I.hok h2
  refine PySem.W.keq_eq (knd := mixKind X.prog X.w) (r := hitsD lb la) ya yb da db (by omega) (fun _ => hits_of I (A := X.A.in1) (by show X.A.units + 1 + 40 < cLine; omega) k2 rb k1 ra hs) ⟨.bl _, H, I, rfl, ?_⟩
  have e : (va.length == vb.length && hitsD lb la) = eqD la lb := by
    unfold eqD
    rw [← ra.length, ← rb.length, k1.len, k2.len]
  rw [e]
  exact q
theorem op_neDd (hu : X.A.units + 64 < cLine) : OpR X (compareOp .NotEq) (rNeD X.K) := by
  intro pins s σ H x y v u Q I rx ry h
  obtain ⟨a, b, ka, kb, la, lb, rfl, rfl, h1, h2, k1, k2, hs, q⟩ := h
  cases rx
  cases ry
  obtain ⟨_, ya, va, ra, da⟩ := dk_rd I.hok h1
  obtain ⟨_, yb, vb, rb, db⟩ := dk_rd I.hok h2
  refine PySem.W.keq_ne (knd := mixKind X.prog X.w) (r := hitsD lb la) ya yb da db (by omega) (fun _ => hits_of I (A := X.A.in1) (by show X.A.units + 1 + 40 < cLine; omega) k2 rb k1 ra hs) ⟨.bl _, H, I, rfl, ?_⟩
  have e : (va.length == vb.length && hitsD lb la) = eqD la lb := by
    unfold eqD
    rw [← ra.length, ← rb.length, k1.len, k2.len]
  rw [e]
  exact q
end
def pEqD : List Vw → Option Rd2
  | [.m a, .m b] => if shal a = true then some (.pd (.bool (eqD a b))) else none
  | _ => none
def pNeD : List Vw → Option Rd2
  | [.m a, .m b] => if shal a = true then some (.pd (.bool (!eqD a b))) else none
  | _ => none
def oEqD := opV pEqD
def oNeD := opV pNeD
theorem oEqD_ok {K : PySem.W.Frag} : OpOk K (r2 (rEqD K)) oEqD := opV_ok fun B H vs ds res Q e hs hp k => by
  unfold pEqD at hp
  split at hp
  · split at hp
    · rename_i h
      cases hp
      obtain ⟨x, y, rfl, ⟨a, ka, rfl, h1, h2⟩, ⟨b, kb, rfl, h3, h4⟩⟩ := hs.two
      exact ⟨_, _, rfl, a, b, ka, kb, _, _, rfl, rfl, h1, h3, h2.mono e, h4.mono e, h, k.bool e⟩
    · cases hp
  · cases hp
theorem oNeD_ok {K : PySem.W.Frag} : OpOk K (r2 (rNeD K)) oNeD := opV_ok fun B H vs ds res Q e hs hp k => by
  unfold pNeD at hp
  split at hp
  · split at hp
    · rename_i h
      cases hp
      obtain ⟨x, y, rfl, ⟨a, ka, rfl, h1, h2⟩, ⟨b, kb, rfl, h3, h4⟩⟩ := hs.two
      exact ⟨_, _, rfl, a, b, ka, kb, _, _, rfl, rfl, h1, h3, h2.mono e, h4.mono e, h, k.bool e⟩
    · cases hp
  · cases hp
end Pd

set_option Elab.async false
set_option linter.all false
set_option maxRecDepth 100000
set_option maxHeartbeats 1000000
namespace Pd
open PySem PySem.Spec PyProof.Rows L2
namespace B
section
variable {ρ : Env}
@[simp ↓] theorem ev_dnew {Q : Rs → Env → Prop} : Ev eDNew ρ Q ↔ Q (.own (.md none [])) ρ := by
  constructor
  · rintro ⟨a', ρ', e, q⟩; cases e; exact q
  · intro q; exact ⟨_, ρ, rfl, q⟩
def slotW : Option (Option Sl) → Option Vw
  | some (some (.md _ l)) => some (.m l)
  | some (some (.ml _ l)) => some (.d (.list l))
  | some (some (.p d)) => some (.d d)
  | _ => none
@[simp] theorem slotW_md {t : Option Nat} {l : List (Key × D)} : slotW (some (some (.md t l))) = some (.m l) := rfl
@[simp] theorem slotW_ml {t : Option Nat} {l : List D} : slotW (some (some (.ml t l))) = some (.d (.list l)) := rfl
@[simp] theorem slotW_p {d : D} : slotW (some (some (.p d))) = some (.d d) := rfl
@[simp] theorem vw_p {d : D} : (Rs.own (.p d)).vw ρ = some (.d d) := rfl
@[simp] theorem vw_ml {t : Option Nat} {l : List D} : (Rs.own (.ml t l)).vw ρ = some (.d (.list l)) := rfl
@[simp] theorem vw_md {t : Option Nat} {l : List (Key × D)} : (Rs.own (.md t l)).vw ρ = some (.m l) := rfl
@[simp] theorem vw_bor {i : Nat} : (Rs.bor i).vw ρ = slotW ρ[i]? := by
  unfold Rs.vw Rs.view slotW
  dsimp only
  split
  · rename_i h; rw [h]
  · rename_i h
    split
    · rename_i h2; rw [h2]; rfl
    · rename_i h2; rw [h2]; rfl
    · rename_i h2 h3
      split
      · rename_i h4; exact absurd h4 (h _ _)
      · rename_i h4; exact absurd h4 (h2 _ _)
      · rename_i h4; exact absurd h4 (h3 _)
      · rfl
@[simp] theorem vwAll_nil : vwAll [] ρ = some [] := rfl
@[simp] theorem vwAll_cons {r : Rs} {rs : List Rs} : vwAll (r :: rs) ρ = (r.vw ρ).bind fun d => (vwAll rs ρ).bind fun ds => some (d :: ds) := by
  rw [vwAll]
  cases r.vw ρ with
  | none => rfl
  | some d =>
    cases vwAll rs ρ with
    | none => rfl
    | some ds => rfl
def resW (ρ : Env) (Q : Rs → Env → Prop) : Option Rd2 → Prop
  | some res => Q res.rs ρ
  | none => False
@[simp] theorem resW_pd {Q : Rs → Env → Prop} {d : D} : resW ρ Q (some (.pd d)) = Q (.own (.p d)) ρ := rfl
@[simp] theorem resW_nl {Q : Rs → Env → Prop} {l : List D} : resW ρ Q (some (.nl l)) = Q (.own (.ml none l)) ρ := rfl
@[simp] theorem resW_nm {Q : Rs → Env → Prop} {l : List (Key × D)} : resW ρ Q (some (.nm l)) = Q (.own (.md none l)) ρ := rfl
@[simp] theorem resW_none {Q : Rs → Env → Prop} : resW ρ Q none = False := rfl
@[simp] theorem resW_ite {Q : Rs → Env → Prop} {c : Prop} [Decidable c] {o : Option Rd2} : resW ρ Q (if c then o else none) ↔ c ∧ resW ρ Q o := by
  split
  · rename_i h; simp [h]
  · rename_i h; simp [h, resW]
@[simp] theorem resW_mpd {Q : Rs → Env → Prop} {o : Option D} : resW ρ Q (o.map .pd) ↔ ∃ d, o = some d ∧ Q (.own (.p d)) ρ := by
  cases o with
  | none => simp
  | some d => simp
@[simp] theorem resW_mnm {Q : Rs → Env → Prop} {o : Option (List (Key × D))} : resW ρ Q (o.map .nm) ↔ ∃ d, o = some d ∧ Q (.own (.md none d)) ρ := by
  cases o with
  | none => simp
  | some d => simp
@[simp ↓] theorem ev_opV {pf : List Vw → Option Rd2} {rs : List Rs} {Q : Rs → Env → Prop} : Ev (opV pf rs) ρ Q ↔ resW ρ Q ((vwAll rs ρ).bind pf) := by
  constructor
  · rintro ⟨a', ρ', e, q⟩
    unfold opV at e
    split at e
    · rename_i ds h
      split at e
      · rename_i res h2; cases e; rw [h, Option.bind_some, h2]; exact q
      · cases e
    · cases e
  · intro q
    unfold resW at q
    split at q
    · rename_i res h
      rw [Option.bind_eq_some_iff] at h
      obtain ⟨ds, h1, h2⟩ := h
      exact ⟨_, ρ, by unfold opV; simp only [h1, h2], q⟩
    · exact q.elim
@[simp ↓] theorem oIxD_eq : oIxD = opV pIxD := rfl
@[simp ↓] theorem oInD_eq : oInD = opV pInD := rfl
@[simp ↓] theorem oNiD_eq : oNiD = opV pNiD := rfl
@[simp ↓] theorem oEqD_eq : oEqD = opV pEqD := rfl
@[simp ↓] theorem oNeD_eq : oNeD = opV pNeD := rfl
@[simp ↓] theorem oDict_eq : oDict = opV pDict := rfl
@[simp] theorem pIxD_s {l : List (Key × D)} {x : Str} : pIxD [.m l, .d (.str x)] = (valD l (.inr x)).map .pd := by
  unfold pIxD kOf
  dsimp only
  cases valD l (.inr x) <;> rfl
@[simp] theorem pIxD_i {l : List (Key × D)} {x : Int} : pIxD [.m l, .d (.int x)] = (valD l (.inl x)).map .pd := by
  unfold pIxD kOf
  dsimp only
  cases valD l (.inl x) <;> rfl
@[simp] theorem pInD_s {l : List (Key × D)} {x : Str} : pInD [.d (.str x), .m l] = some (.pd (.bool (valD l (.inr x)).isSome)) := rfl
@[simp] theorem pInD_i {l : List (Key × D)} {x : Int} : pInD [.d (.int x), .m l] = some (.pd (.bool (valD l (.inl x)).isSome)) := rfl
@[simp] theorem pNiD_s {l : List (Key × D)} {x : Str} : pNiD [.d (.str x), .m l] = some (.pd (.bool (!(valD l (.inr x)).isSome))) := rfl
@[simp] theorem pNiD_i {l : List (Key × D)} {x : Int} : pNiD [.d (.int x), .m l] = some (.pd (.bool (!(valD l (.inl x)).isSome))) := rfl
@[simp] theorem pEqD_m {a b : List (Key × D)} : pEqD [.m a, .m b] = if shal a = true then some (.pd (.bool (eqD a b))) else none := rfl
@[simp] theorem pNeD_m {a b : List (Key × D)} : pNeD [.m a, .m b] = if shal a = true then some (.pd (.bool (!eqD a b))) else none := rfl
@[simp] theorem pDict_m {a : List (Key × D)} : pDict [.m a] = some (.nm a) := rfl
@[simp] theorem pDict_l {a : List D} : pDict [.d (.list a)] = ((pairsD a).map (mergeD [])).map .nm := by
  cases h : pairsD a <;> simp [pDict, h]
def putQ (j : Nat) (d : D) (ρ : Env) (Q : Fl → Env → Prop) : Option (Option Sl) → Option D → Prop
  | some (some (.md t l)), some (.str x) => l.length < sizeLine ∧ Q .nx (ρ.set j (some (.md t (putD l (.inr x) d))))
  | some (some (.md t l)), some (.int x) => l.length < sizeLine ∧ Q .nx (ρ.set j (some (.md t (putD l (.inl x) d))))
  | _, _ => False
@[simp] theorem putQ_s {j : Nat} {d : D} {t : Option Nat} {l : List (Key × D)} {x : Str} {Q : Fl → Env → Prop} : putQ j d ρ Q (some (some (.md t l))) (some (.str x)) = (l.length < sizeLine ∧ Q .nx (ρ.set j (some (.md t (putD l (.inr x) d))))) := rfl
@[simp] theorem putQ_i {j : Nat} {d : D} {t : Option Nat} {l : List (Key × D)} {x : Int} {Q : Fl → Env → Prop} : putQ j d ρ Q (some (some (.md t l))) (some (.int x)) = (l.length < sizeLine ∧ Q .nx (ρ.set j (some (.md t (putD l (.inl x) d))))) := rfl
@[simp ↓] theorem ev_putSub {j : Nat} {i : Rs} {d : D} {Q : Fl → Env → Prop} : Ev (putSub (.bor j) i d) ρ Q ↔ putQ j d ρ Q ρ[j]? (i.view ρ) := by
  constructor
  · rintro ⟨a', ρ', e, q⟩
    unfold putSub at e
    dsimp only at e
    split at e
    · rename_i t l h1
      split at e
      · rename_i y h2
        split at e
        · rename_i k h3
          split at e
          · rename_i h4
            cases e
            rw [h1, h2]
            cases y with
            | int x => cases h3; exact ⟨h4, q⟩
            | str x => cases h3; exact ⟨h4, q⟩
            | none => cases h3
            | bool x => cases h3
            | list x => cases h3
            | tuple x => cases h3
            | dict x => cases h3
          · cases e
        · cases e
      · cases e
    · cases e
  · intro q
    unfold putQ at q
    split at q
    · rename_i t l x h1 h2
      exact ⟨.nx, _, by unfold putSub; simp only [h1, h2, kOf, if_pos q.1], q.2⟩
    · rename_i t l x h1 h2
      exact ⟨.nx, _, by unfold putSub; simp only [h1, h2, kOf, if_pos q.1], q.2⟩
    · exact q.elim
@[simp ↓] theorem ev_gPut {f fo fi : M Rs} {Q : Fl → Env → Prop} : Ev (gPut f fo fi) ρ Q ↔ Ev f ρ fun r ρ1 => Ev (freezeR r) ρ1 fun d ρ2 => Ev fo ρ2 fun o ρ3 => Ev fi ρ3 fun i ρ4 => Ev (putSub o i d) ρ4 Q := by
  unfold gPut
  simp only [ev_bind]
end
end B
end Pd

set_option Elab.async false
set_option linter.all false
set_option maxRecDepth 100000
set_option maxHeartbeats 1000000
namespace Pd
open PySem PySem.Spec PyProof.Rows L2
open B (slotW slotW_md slotW_ml slotW_p vw_p vw_ml vw_md vw_bor vwAll_nil vwAll_cons oIxD_eq oInD_eq oNiD_eq oEqD_eq oNeD_eq oDict_eq pIxD_s pIxD_i pInD_s pInD_i pNiD_s pNiD_i pEqD_m pNeD_m pDict_m pDict_l)
section
variable {ρ : Env}
@[simp ↓] theorem ev_dnew {Q : Rs → Env → Prop} : Ev eDNew ρ Q ↔ Q (.own (.md none [])) ρ := B.ev_dnew
def resW (ρ : Env) (Q : Rs → Env → Prop) [Fx Q] (o0 : Option Rd2) : Prop := B.resW ρ Q o0
@[simp] theorem resW_pd {Q : Rs → Env → Prop} {d : D} : resW ρ Q (some (.pd d)) = Q (.own (.p d)) ρ := B.resW_pd
@[simp] theorem resW_nl {Q : Rs → Env → Prop} {l : List D} : resW ρ Q (some (.nl l)) = Q (.own (.ml none l)) ρ := B.resW_nl
@[simp] theorem resW_nm {Q : Rs → Env → Prop} {l : List (Key × D)} : resW ρ Q (some (.nm l)) = Q (.own (.md none l)) ρ := B.resW_nm
@[simp] theorem resW_none {Q : Rs → Env → Prop} : resW ρ Q none = False := B.resW_none
@[simp] theorem resW_ite {Q : Rs → Env → Prop} {c : Prop} [Decidable c] {o : Option Rd2} : resW ρ Q (if c then o else none) ↔ c ∧ resW ρ Q o := B.resW_ite
@[simp] theorem resW_mpd {Q : Rs → Env → Prop} {o : Option D} : resW ρ Q (o.map .pd) ↔ ∃ d, o = some d ∧ Q (.own (.p d)) ρ := B.resW_mpd
@[simp] theorem resW_mnm {Q : Rs → Env → Prop} {o : Option (List (Key × D))} : resW ρ Q (o.map .nm) ↔ ∃ d, o = some d ∧ Q (.own (.md none d)) ρ := B.resW_mnm
@[simp ↓] theorem ev_opV {pf : List Vw → Option Rd2} {rs : List Rs} {Q : Rs → Env → Prop} : Ev (opV pf rs) ρ Q ↔ resW ρ Q ((vwAll rs ρ).bind pf) := B.ev_opV
def putQ (j : Nat) (d : D) (ρ : Env) (Q : Fl → Env → Prop) [Fx Q] (o0 : Option (Option Sl)) (o1 : Option D) : Prop := B.putQ j d ρ Q o0 o1
@[simp] theorem putQ_s {j : Nat} {d : D} {t : Option Nat} {l : List (Key × D)} {x : Str} {Q : Fl → Env → Prop} : putQ j d ρ Q (some (some (.md t l))) (some (.str x)) = (l.length < sizeLine ∧ Q .nx (ρ.set j (some (.md t (putD l (.inr x) d))))) := B.putQ_s
@[simp] theorem putQ_i {j : Nat} {d : D} {t : Option Nat} {l : List (Key × D)} {x : Int} {Q : Fl → Env → Prop} : putQ j d ρ Q (some (some (.md t l))) (some (.int x)) = (l.length < sizeLine ∧ Q .nx (ρ.set j (some (.md t (putD l (.inl x) d))))) := B.putQ_i
@[simp ↓] theorem ev_putSub {j : Nat} {i : Rs} {d : D} {Q : Fl → Env → Prop} : Ev (putSub (.bor j) i d) ρ Q ↔ putQ j d ρ Q ρ[j]? (i.view ρ) := B.ev_putSub
@[simp ↓] theorem ev_gPut {f fo fi : M Rs} {Q : Fl → Env → Prop} : Ev (gPut f fo fi) ρ Q ↔ Ev f ρ fun r ρ1 => Ev (freezeR r) ρ1 fun d ρ2 => Ev fo ρ2 fun o ρ3 => Ev fi ρ3 fun i ρ4 => Ev (putSub o i d) ρ4 Q := B.ev_gPut
end
end Pd


set_option Elab.async false
set_option linter.all false
set_option maxRecDepth 100000
set_option maxHeartbeats 1000000
/-! tuple(d.values()), list(d.values()) -/
namespace L2
open PySem PySem.Spec PyProof.Rows PySem.W
section
variable {prog : Program} {w : World} {A : Around} {E : Value → Shared → Prop} {s : Shared} {r d : Addr} {n : Nat} {P : Nat → Value → Prop} {OK : Heap → Prop}
theorem code_tuple_new_vals {Q₁ : Value → Shared → Prop} (K : KdlSrc prog w "dict_values" r d n P OK) (hh : A.handled = none) (hok : OK s.heap) (hn : n ≤ sizeLine)
    (h : ∀ (h' : Heap) (tk : Nat) (acc : Array Value), (∀ b o, s.heap.get? b = some o → h'.get? b = some o) → ItemsOf P acc n →
      Q₁ (.ref h'.objs.size) { s with heap := h'.push { cls := .type "tuple", data := .seq acc }, toks := tk }) :
    codeAny (model prog w) A (.call (.builtin "tuple.__new__") ⟨[.type "tuple", .ref r], []⟩) (wants Q₁ E) s := by
  refine codeAny_of_tree ?_
  show wpAny _ A.in1 (do checkBuiltinCall "tuple.__new__" ⟨[.type "tuple", .ref r], []⟩; again (.builtin "tuple.__new__" ⟨[.type "tuple", .ref r], []⟩)) _ _ s
  refine wpAny_bind (wpAny_of_eq (F.newCall_tuple_1 _) (wpAny_pure ⟨plainId_quiet F.plain_tuple_new _, codeAny_builtin F.entry_tuple_new ?_⟩))
  rw [Around.under_plainId F.plain_tuple_new _]
  have hsub := sub_tuple_self
  have hinit := init_tuple_lookup
  have hmh := madeHere_tuple
  have hTI : s.TypeIs (.ref r) "dict_values" := K.type s hok
  have hh1 : A.in1.handled = none := hh
  wp_walk using wpAny_typeOf hTI, kdu_collect (A := A.in1) K hh1 hok hn
  intro h' tk acc hk hacc
  show wpAny _ _ (Builtin.Tuple.tupleExact acc.toList.toArray >>= fun v => ret v) _ _ _
  unfold Builtin.Tuple.tupleExact
  refine wpAny_bind (wpAny_newObj_type ?_ (by show acc.toList.toArray.size ≤ sizeLine; simp only [Array.toArray_toList]; rw [hacc.1]; exact hn))
  refine wpAny_pure ?_
  have e : acc.toList.toArray = acc := by simp
  rw [e]
  exact h h' tk acc hk hacc
theorem call_tuple_vals {Q : Value → Shared → Prop} (K : KdlSrc prog w "dict_values" r d n P OK) (hh : A.handled = none) (hok : OK s.heap) (hn : n ≤ sizeLine)
    (hQ : ∀ (h' : Heap) (tk : Nat) (acc : Array Value), (∀ b o, s.heap.get? b = some o → h'.get? b = some o) → ItemsOf P acc n →
      Q (.ref h'.objs.size) { s with heap := h'.push { cls := .type "tuple", data := .seq acc }, toks := tk }) :
    wpAny (model prog w) A (call (.type "tuple") [.ref r]) Q E s := by
  refine callType_codes (Q₁ := fun obj s₁ => s₁.TypeIs obj "tuple" ∧ Q obj s₁) F.called_tuple (F.typeCall_tuple_1 _) F.entry_object_init
    (code_tuple_new_vals (A := A.in1) K hh hok hn fun h' tk acc hk hacc => ⟨⟨_, Heap.get?_push_size _ rfl, rfl⟩, hQ h' tk acc hk hacc⟩) fun obj s₁ h₁ => ?_
  exact ⟨h₁.1, F.args_object_init_2 obj _, object_init_meets F.called_tuple.init.lookup F.called_tuple.made (by decide) prog w A.in1 _ s₁ ⟨h₁.1, rfl, h₁.2⟩⟩
end
section
variable {X : Cx} {o : Expr} {p pos apos mpos : Pos} {td : TE}
/-- what d.values() holds, in new tuples or lists -/
def tVals (td : TE) (mk : List V → HO) : TE := fun σ H Q => td σ H fun x H1 => ∃ a kvs, x = V.ref a ∧ Rd H1 a (.dK kvs) ∧ ∀ p, H1 p = none → Q (.ref p) (upd H1 p (mk (kvs.map (·.2))))
theorem kv_vals {kvs : List (Key × V)} {vs : List (Key × Value)} (rel : KV kvs vs) {acc : Array Value} (h : ItemsOf (fun i v => ∃ k, vs[i]? = some (k, v)) acc vs.length) : Vals (kvs.map (·.2)) acc.toList := by
  have e := kdl_vals_eq (kvs := vs) acc.toList (by rw [Array.length_toList]; exact h.1) fun j v e => h.2 j v (by rw [← Array.getElem?_toList]; exact e)
  rw [e]
  clear e h
  unfold KV at rel
  induction rel with
  | nil => exact .nil
  | cons h t ih => rw [List.map_cons, List.map_cons]; exact .cons h.2 ih
theorem pe_tupleVals (hc : X.calm = true) (hg : Gl X "tuple") (hm : X.mg "tuple" = none) (hd : PE X o td) (hbase : attributeBase o "values" X.env (eval o X.env) = eval o X.env := by rfl) (hline : (apos.endLine == mpos.line) = true := by rfl)
    (hse : starEach [Expr.Call (.Attribute o "values" apos) [] [] mpos] X.env = [(false, eval (Expr.Call (.Attribute o "values" apos) [] [] mpos) X.env)] := by rfl) :
    PE X (.Call (.Name "tuple" p) [.Call (.Attribute o "values" apos) [] [] mpos] [] pos) (tVals td .tup) := by
  refine ⟨fun pins s σ H Q I h => ?_⟩
  refine wpAny_Call_Name_kw (ld_blt I hg hm (u := .type "tuple") (by first | rfl | decide +kernel) ?_ (by first | decide +kernel | decide) (by first | decide +kernel | decide))
  rw [hse]
  refine PySem.callWith_type1 (wpAny_Call_method0_late hbase hline (thn (hd.run pins s σ H _ I h) fun v s1 ⟨x, H1, I1, r1, a, kvs, ex, ha, q⟩ => ?_))
  subst ex
  obtain rfl : v = Value.ref a := r1
  obtain ⟨hz, hsys, vs, rel, dof⟩ := dk_rd I1.hok ha
  obtain ⟨ep, dat⟩ := dof.dictAt
  have dat' := dat
  obtain ⟨ob, es, ho, ex, hdat, hko, hpr, hnd⟩ := dat'
  refine ⟨"dict", "dict.values", F.plainAttrs_dict, F.slot_dict_values, F.type_dict_values, ⟨ob, ho, ex.1⟩, fun b e => ?_, Calls.callWith_builtin rfl (PySem.evalArgs_none ?_)⟩
  · cases e
    exact ⟨ob, ho, ex.2.1⟩
  refine call_meetsIn F.slot_dict_values ⟨ob, ho, ex.1⟩ F.entry_dict_values (F.args_dict_values_1 _) (meets_dict_values (mixKind X.prog X.w) a hsys) ⟨⟨vs, dof⟩, ?_⟩
  have k1 : ∀ b u, s1.heap.get? b = some u → (s1.heap.push { cls := .type "dict_values", data := .fields #[.ref a] }).get? b = some u := fun b u e => Heap.get?_push_of_some _ e
  refine call_tuple_vals (kdl_values (prog := X.prog) (w := X.w) (knd := mixKind X.prog X.w) (r := s1.heap.objs.size) (d := a) (kvs := vs) (ep := ep)) (I.ok.hd hc) ⟨⟨_, Heap.get?_push_size _ rfl, rfl, rfl⟩, dat.keep k1⟩ (by rw [← rel.length]; exact hz) fun h' tk acc hk hacc => ?_
  have I2 : Inv X pins σ H1 { s1 with heap := h', toks := tk } := I1.kept (t' := tk) fun b u e => hk b u (k1 b u e)
  have rv := kv_vals rel hacc
  have I3 : Inv X pins σ (upd H1 h'.objs.size (.tup (kvs.map (·.2)))) { s1 with heap := h'.push { cls := .type "tuple", data := .seq acc }, toks := tk } :=
    I2.laid (t' := tk) (fun b o e => Heap.get?_push_of_some _ e) (Nat.le_refl _) (show ObjOk X.prog X.w _ _ _ (.tup (kvs.map (·.2))) from ⟨by rw [List.length_map]; exact hz, acc.toList, rv, by simpa using IsTup.new h' acc⟩)
  exact ⟨.ref h'.objs.size, _, I3, rfl, q _ (I2.hok.fresh (Nat.le_refl _))⟩
theorem pe_listVals (hc : X.calm = true) (hg : Gl X "list") (hm : X.mg "list" = none) (hd : PE X o td) (hbase : attributeBase o "values" X.env (eval o X.env) = eval o X.env := by rfl) (hline : (apos.endLine == mpos.line) = true := by rfl)
    (hse : starEach [Expr.Call (.Attribute o "values" apos) [] [] mpos] X.env = [(false, eval (Expr.Call (.Attribute o "values" apos) [] [] mpos) X.env)] := by rfl) :
    PE X (.Call (.Name "list" p) [.Call (.Attribute o "values" apos) [] [] mpos] [] pos) (tVals td .lst) := by
  refine ⟨fun pins s σ H Q I h => ?_⟩
  refine wpAny_Call_Name_kw (ld_blt I hg hm (u := .type "list") (by first | rfl | decide +kernel) ?_ (by first | decide +kernel | decide) (by first | decide +kernel | decide))
  rw [hse]
  refine PySem.callWith_type1 (wpAny_Call_method0_late hbase hline (thn (hd.run pins s σ H _ I h) fun v s1 ⟨x, H1, I1, r1, a, kvs, ex, ha, q⟩ => ?_))
  subst ex
  obtain rfl : v = Value.ref a := r1
  obtain ⟨hz, hsys, vs, rel, dof⟩ := dk_rd I1.hok ha
  obtain ⟨ep, dat⟩ := dof.dictAt
  have dat' := dat
  obtain ⟨ob, es, ho, ex, hdat, hko, hpr, hnd⟩ := dat'
  refine ⟨"dict", "dict.values", F.plainAttrs_dict, F.slot_dict_values, F.type_dict_values, ⟨ob, ho, ex.1⟩, fun b e => ?_, Calls.callWith_builtin rfl (PySem.evalArgs_none ?_)⟩
  · cases e
    exact ⟨ob, ho, ex.2.1⟩
  refine call_meetsIn F.slot_dict_values ⟨ob, ho, ex.1⟩ F.entry_dict_values (F.args_dict_values_1 _) (meets_dict_values (mixKind X.prog X.w) a hsys) ⟨⟨vs, dof⟩, ?_⟩
  have k1 : ∀ b u, s1.heap.get? b = some u → (s1.heap.push { cls := .type "dict_values", data := .fields #[.ref a] }).get? b = some u := fun b u e => Heap.get?_push_of_some _ e
  refine kdl_call (kdl_values (prog := X.prog) (w := X.w) (knd := mixKind X.prog X.w) (r := s1.heap.objs.size) (d := a) (kvs := vs) (ep := ep)) (I.ok.hd hc) ⟨⟨_, Heap.get?_push_size _ rfl, rfl, rfl⟩, dat.keep k1⟩ (by rw [← rel.length]; exact hz) fun h' tk acc c' hk hS hacc => ?_
  have I2 : Inv X pins σ H1 { s1 with heap := s1.heap.push { cls := .type "dict_values", data := .fields #[.ref a] } } := I1.kept (t' := s1.toks) fun b u e => k1 b u e
  have rv := kv_vals rel hacc
  have hfr : H1 (s1.heap.push { cls := .type "dict_values", data := .fields #[.ref a] }).objs.size = none := I2.hok.fresh (Nat.le_refl _)
  exact ⟨.ref _, _, I2.laid (t' := tk) hk (Nat.le_refl _) (show ObjOk X.prog X.w _ h' _ (.lst (kvs.map (·.2))) from ⟨by rw [List.length_map]; exact hz, acc.toList, c', rv, by simpa using hS⟩), rfl, q _ hfr⟩
end
end L2
namespace Pd
open PySem PySem.Spec PyProof.Rows L2
def pValsT : List Vw → Option Rd2
  | [.m l] => some (.pd (.tuple (l.map (·.2))))
  | _ => none
def pValsL : List Vw → Option Rd2
  | [.m l] => some (.nl (l.map (·.2)))
  | _ => none
def oValsT := opV pValsT
def oValsL := opV pValsL
def rVals (mk : List V → HO) : List V → Hp → VK → Prop := fun xs H1 Q => ∃ a kvs, xs = [V.ref a] ∧ Rd H1 a (.dK kvs) ∧ ∀ p, H1 p = none → Q (.ref p) (upd H1 p (mk (kvs.map (·.2))))
theorem oValsT_ok {K : PySem.W.Frag} : OpOk K (rVals .tup) oValsT := opV_ok fun B H vs ds res Q e hs hp k => by
  unfold pValsT at hp
  split at hp
  · cases hp
    obtain ⟨x, rfl, ⟨a, ks, rfl, h1, h2⟩⟩ := hs.one
    refine ⟨a, ks, rfl, h1, fun p hp => k _ _ _ (Fr.new hp e) (same_upd e) (.tup (SqT.of upd_same) (DpAll.mono (Fr.new hp e).bb h2.vals))⟩
  · cases hp
theorem oValsL_ok {K : PySem.W.Frag} : OpOk K (rVals .lst) oValsL := opV_ok fun B H vs ds res Q e hs hp k => by
  unfold pValsL at hp
  split at hp
  · cases hp
    obtain ⟨x, rfl, ⟨a, ks, rfl, h1, h2⟩⟩ := hs.one
    exact ⟨a, ks, rfl, h1, fun p hp => k p _ hp h2.vals⟩
  · cases hp
section
variable {X : Cx} {vs0 : List V} {o : Expr} {p pos apos mpos : Pos} {fo : M Rs}
theorem rd_vals {K : PySem.W.Frag} {mk : List V → HO} {op : List Rs → M Rs} (ho : OpOk K (rVals mk) op) {σ : L2.St} {H : Hp} {Q : VK} (q : rdE K vs0 (eUn fo op) σ H Q) : tVals (rdE K vs0 fo) mk σ H Q := by
  refine rdE_imp (rd_cons (rd_op ho q)) fun x H1 q1 => ?_
  obtain ⟨a, kvs, e, h1, h2⟩ := rdA_nil q1
  cases e
  exact ⟨a, kvs, rfl, h1, h2⟩
theorem de_tupleVals (hc : X.calm = true) (hg : Gl X "tuple") (hm : X.mg "tuple" = none) (ho : PE X o (rdE X.K vs0 fo)) (hbase : attributeBase o "values" X.env (eval o X.env) = eval o X.env := by rfl) (hline : (apos.endLine == mpos.line) = true := by rfl)
    (hse : starEach [Expr.Call (.Attribute o "values" apos) [] [] mpos] X.env = [(false, eval (Expr.Call (.Attribute o "values" apos) [] [] mpos) X.env)] := by rfl) :
    PE X (.Call (.Name "tuple" p) [.Call (.Attribute o "values" apos) [] [] mpos] [] pos) (rdE X.K vs0 (eUn fo oValsT)) := PE.imp (pe_tupleVals hc hg hm ho hbase hline hse) fun _ _ _ q => rd_vals oValsT_ok q
theorem de_listVals (hc : X.calm = true) (hg : Gl X "list") (hm : X.mg "list" = none) (ho : PE X o (rdE X.K vs0 fo)) (hbase : attributeBase o "values" X.env (eval o X.env) = eval o X.env := by rfl) (hline : (apos.endLine == mpos.line) = true := by rfl)
    (hse : starEach [Expr.Call (.Attribute o "values" apos) [] [] mpos] X.env = [(false, eval (Expr.Call (.Attribute o "values" apos) [] [] mpos) X.env)] := by rfl) :
    PE X (.Call (.Name "list" p) [.Call (.Attribute o "values" apos) [] [] mpos] [] pos) (rdE X.K vs0 (eUn fo oValsL)) := PE.imp (pe_listVals hc hg hm ho hbase hline hse) fun _ _ _ q => rd_vals oValsL_ok q
end
namespace B
@[simp ↓] theorem oValsT_eq : oValsT = opV pValsT := rfl
@[simp ↓] theorem oValsL_eq : oValsL = opV pValsL := rfl
@[simp] theorem pValsT_m {l : List (Key × D)} : pValsT [.m l] = some (.pd (.tuple (l.map (·.2)))) := rfl
@[simp] theorem pValsL_m {l : List (Key × D)} : pValsL [.m l] = some (.nl (l.map (·.2))) := rfl
end B
end Pd

set_option Elab.async false
set_option linter.all false
set_option maxRecDepth 100000
set_option maxHeartbeats 1000000
namespace Pd
open PySem PySem.Spec PyProof.Rows L2
/-! ### a text in a text -/
def inS (i j : Str) : Bool := !(Builtin.Str.occurrences j i 0 j.length 1).isEmpty
def pInS : List D → Option Rd'
  | [.str i, .str j] => some (.pd (.bool (inS i j)))
  | _ => none
def pNiS : List D → Option Rd'
  | [.str i, .str j] => some (.pd (.bool (!inS i j)))
  | _ => none
def oInS := opG pInS
def oNiS := opG pNiS
theorem oInS_ok {K : PySem.W.Frag} : OpOk K (r2 fun x y H Q => ∃ i j, x = .str i ∧ y = .str j ∧ Q (.bl (!(Builtin.Str.occurrences j i 0 j.length 1).isEmpty)) H) oInS := opG_ok fun B H vs ds res Q e hs hp k => by
  unfold pInS at hp
  split at hp
  · obtain ⟨x, y, rfl, h1, h2⟩ := hs.two
    cases hp
    exact ⟨_, _, rfl, _, _, h1.str, h2.str, k.bool e⟩
  · cases hp
theorem oNiS_ok {K : PySem.W.Frag} : OpOk K (r2 fun x y H Q => ∃ i j, x = .str i ∧ y = .str j ∧ Q (.bl (!(!(Builtin.Str.occurrences j i 0 j.length 1).isEmpty))) H) oNiS := opG_ok fun B H vs ds res Q e hs hp k => by
  unfold pNiS at hp
  split at hp
  · obtain ⟨x, y, rfl, h1, h2⟩ := hs.two
    cases hp
    exact ⟨_, _, rfl, _, _, h1.str, h2.str, k.bool e⟩
  · cases hp
theorem inS_one (c : Nat) (x : Str) : inS ⟨#[c]⟩ x = decide (c ∈ x.cps.toList) := by
  unfold inS
  rw [PyProof.Rows.empty_one, Bool.not_not]
/-! ### str(int) -/
def pStr : List D → Option Rd'
  | [.int i] => if i.natAbs.log2 < 1920 then some (.pd (.str (Str.ofString (toString i)))) else none
  | _ => none
def oStr := opG pStr
theorem oStr_ok {K : PySem.W.Frag} : OpOk K (fun xs H Q => ∃ i, xs = [V.int i] ∧ i.natAbs.log2 < 1920 ∧ Q (.str (Str.ofString (toString i))) H) oStr := opG_ok fun B H vs ds res Q e hs hp k => by
  unfold pStr at hp
  split at hp
  · split at hp
    · rename_i h
      cases hp
      obtain ⟨x, rfl, h1⟩ := hs.one
      exact ⟨_, by rw [h1.int], h, k.str e⟩
    · cases hp
  · cases hp
/-! ### all -/
def bools? : List D → Option (List Bool)
  | [] => some []
  | .bool b :: r => (bools? r).map (b :: ·)
  | _ :: _ => none
theorem bools?_eq : ∀ {l : List D} {bs : List Bool}, bools? l = some bs → l = bs.map PyData.bool
  | [], _, h => by cases h; rfl
  | d :: l, bs, h => by
    cases d with
    | bool b =>
      unfold bools? at h
      obtain ⟨r, h1, h2⟩ := Option.map_eq_some_iff.mp h
      cases h2
      rw [bools?_eq h1]
      rfl
    | none => cases h
    | int b => cases h
    | str b => cases h
    | list b => cases h
    | tuple b => cases h
    | dict b => cases h
def pAll : List D → Option Rd'
  | [.list l] => (bools? l).map fun bs => .pd (.bool (bs.all id))
  | _ => none
def oAll := opG pAll
theorem oAll_ok {K : PySem.W.Frag} : OpOk K (rAll K) oAll := opG_ok fun B H vs ds res Q e hs hp k => by
  unfold pAll at hp
  split at hp
  · rename_i l
    obtain ⟨bs, h1, h2⟩ := Option.map_eq_some_iff.mp hp
    cases h2
    obtain ⟨x, rfl, ⟨p, xs, rfl, s1, d1⟩⟩ := hs.one
    rw [bools?_eq h1] at d1
    have := DpAll.bools d1
    subst this
    exact ⟨p, bs, rfl, s1, k.bool e⟩
  · cases hp
namespace B
@[simp ↓] theorem oStr_eq : oStr = opG pStr := rfl
@[simp] theorem pStr_i {i : Int} : pStr [.int i] = if i.natAbs.log2 < 1920 then some (.pd (.str (Str.ofString (toString i)))) else none := rfl
@[simp ↓] theorem oAll_eq : oAll = opG pAll := rfl
@[simp] theorem pAll_l {l : List D} : pAll [.list l] = (bools? l).map fun bs => .pd (.bool (bs.all id)) := rfl
@[simp] theorem bools_nil : bools? [] = some [] := rfl
@[simp] theorem bools_cons {b : Bool} {l : List D} : bools? (.bool b :: l) = (bools? l).map (b :: ·) := rfl
theorem bools_mapf {α : Type} {f : α → Bool} : ∀ {l : List α}, bools? (l.map fun a => .bool (f a)) = some (l.map f)
  | [] => rfl
  | a :: l => by rw [List.map_cons, bools_cons, bools_mapf]; rfl
@[simp] theorem resQ_mbool {ρ : Env} {Q : Rs → Env → Prop} {o : Option (List Bool)} : resQ ρ Q (o.map fun bs => .pd (.bool (bs.all id))) ↔ ∃ bs, o = some bs ∧ Q (.own (.p (.bool (bs.all id)))) ρ := by
  cases o with
  | none => simp
  | some d => simp
@[simp ↓] theorem oInS_eq : oInS = opG pInS := rfl
@[simp ↓] theorem oNiS_eq : oNiS = opG pNiS := rfl
@[simp] theorem pInS_ss {i j : Str} : pInS [.str i, .str j] = some (.pd (.bool (inS i j))) := rfl
@[simp] theorem pNiS_ss {i j : Str} : pNiS [.str i, .str j] = some (.pd (.bool (!inS i j))) := rfl
end B
end Pd

set_option Elab.async false
set_option linter.all false
set_option maxRecDepth 100000
set_option maxHeartbeats 1000000
namespace Pd
open PySem PySem.Spec PyProof.Rows L2
/-! ### xs.extend(ys), ys a name's own list -/
def o_extB : List Rs → M Rs := fun rs ρ => match rs with
  | [.bor j, .bor i] => if i = j then none else match ρ[j]?, ρ[i]? with
    | some (some (.ml t l)), some (some (.ml _ m)) => if l.length + m.length ≤ sizeLine then some (.ok (.own (.p .none)) (ρ.set j (some (.ml t (l ++ m))))) else none
    | _, _ => none
  | _ => none
theorem o_extB_ok {K : PySem.W.Frag} : OpOk K (rM rExtend) o_extB := by
  intro vs0 σ B H ρ fs vs rs Ts Q g ok nd r' ρ' e k
  unfold o_extB at e
  split at e
  · rename_i j i
    split at e
    · cases e
    · rename_i hne
      split at e
      · rename_i t l tm m e3 e4
        split at e
        · rename_i hsz
          cases e
          obtain ⟨v, w, T1, T2, rfl, rfl, ⟨hv, hT1⟩, ⟨hw, hT2⟩⟩ := ok.two
          obtain ⟨v', q1, ⟨a, xs, rfl, hfs, q2, q3⟩, _⟩ := g.at_ j _ e3
          obtain ⟨w', p1, ⟨b, zs, rfl, hfb, p2, p3⟩, _⟩ := g.at_ i _ e4
          rw [hv] at q1
          cases q1
          rw [hw] at p1
          cases p1
          refine ⟨_, [_], rfl, a, b, xs, zs, rfl, rfl, q2, p2, by rw [DpAll.length q3, DpAll.length p3]; exact hsz, ?_⟩
          have g5 := g.upd (o := HO.lst (xs ++ zs)) (s' := .ml t (l ++ m)) e3 hfs hv ⟨a, _, rfl, rfl, upd_same, DpAll.append q3 p3⟩ rfl
          refine k .non B _ fs [] ((Fr.updIn (F := UnF (InF fs) [T1, T2].flatten) (Or.inl ⟨j, by rw [hfs]; simp⟩)).weak (fun _ h => h) fun c h => ?_) g5 ⟨⟨.non, rfl⟩, rfl, fun a ha => nomatch ha⟩
          rcases h with h | h
          · exact Or.inl (Or.inl h)
          · cases h
        · cases e
      · cases e
  · cases e
section
variable {X : Cx} {vs0 : List V} {o e : Expr} {fo : M Rs} {fa : M (List Rs)} {apos cpos : Pos}
theorem de_m_extB (ho : PE X o (rdE X.K vs0 fo)) (ha : PA X [e] (rdA X.K vs0 fa))
    (hbase : attributeBase o "extend" X.env (eval o X.env) = eval o X.env := by rfl)
    (hfew : ((backTo cpos (starEach [e] X.env)).all (fun x => !x.1) && (backToKw cpos (keywordEach [] X.env)).all (fun x => x.1.isSome)
      && decide ([e].length + ([] : List Keyword).length + (if ([] : List Keyword).isEmpty then 0 else 1) < 30)) = true := by rfl)
    (hline : (apos.endLine == cpos.line) = true := by rfl) (hs : starEach [e] X.env = (false, eval e X.env) :: starEach [] X.env := by rfl) (hplain : (backTo cpos (starEach [] X.env)).any (·.1) = false := by rfl) :
    PE X (.Call (.Attribute o "extend" apos) [e] [] cpos) (rdE X.K vs0 (eMeth "list" fo fa o_extB)) :=
  PE.imp (pe_bm PySem.F.plainAttrs_list PySem.F.slot_list_extend PySem.F.type_list_extend mt_extend ho ha hbase hfew hline hs hplain) fun σ H Q q => rd_meth o_extB_ok q
end
end Pd

set_option Elab.async false
set_option linter.all false
set_option maxRecDepth 100000
set_option maxHeartbeats 1000000
namespace Pd
open PySem PySem.Spec PyProof.Rows L2
namespace B
section
variable {ρ : Env}
def extBQ (j i : Nat) (ρ : Env) (Q : Rs → Env → Prop) (o p : Option (Option Sl)) : Prop := match o, p with
  | some (some (.ml t l)), some (some (.ml _ m)) => i ≠ j ∧ l.length + m.length ≤ sizeLine ∧ Q (.own (.p .none)) (ρ.set j (some (.ml t (l ++ m))))
  | _, _ => False
@[simp] theorem extBQ_ml {j i : Nat} {l m : List D} {t u : Option Nat} {Q : Rs → Env → Prop} : extBQ j i ρ Q (some (some (.ml t l))) (some (some (.ml u m))) = (i ≠ j ∧ l.length + m.length ≤ sizeLine ∧ Q (.own (.p .none)) (ρ.set j (some (.ml t (l ++ m))))) := rfl
@[simp ↓] theorem ev_extB {j i : Nat} {Q : Rs → Env → Prop} : Ev (o_extB [.bor j, .bor i]) ρ Q ↔ extBQ j i ρ Q ρ[j]? ρ[i]? := by
  constructor
  · rintro ⟨r, ρ', e, q⟩
    unfold o_extB at e
    dsimp only at e
    split at e
    · cases e
    · rename_i hne
      split at e
      · rename_i t l tm m h1 h2
        split at e
        · rename_i hl
          cases e
          rw [h1, h2]
          exact ⟨hne, hl, q⟩
        · cases e
      · cases e
  · intro q
    unfold extBQ at q
    split at q
    · rename_i t l u m h1 h2
      refine ⟨_, _, ?_, q.2.2⟩
      unfold o_extB
      simp only [h1, h2, if_neg q.1, if_pos q.2.1]
    · exact q.elim
end
end B
end Pd

set_option Elab.async false
set_option linter.all false
set_option maxRecDepth 100000
set_option maxHeartbeats 1000000
namespace Pd
open PySem PySem.Spec PyProof.Rows L2
section
variable {ρ : Env}
def extBQ (j i : Nat) (ρ : Env) (Q : Rs → Env → Prop) [Fx Q] (o p : Option (Option Sl)) : Prop := B.extBQ j i ρ Q o p
@[simp] theorem extBQ_ml {j i : Nat} {l m : List D} {t u : Option Nat} {Q : Rs → Env → Prop} : extBQ j i ρ Q (some (some (.ml t l))) (some (some (.ml u m))) = (i ≠ j ∧ l.length + m.length ≤ sizeLine ∧ Q (.own (.p .none)) (ρ.set j (some (.ml t (l ++ m))))) := B.extBQ_ml
@[simp ↓] theorem ev_extB {j i : Nat} {Q : Rs → Env → Prop} : Ev (o_extB [.bor j, .bor i]) ρ Q ↔ extBQ j i ρ Q ρ[j]? ρ[i]? := B.ev_extB
end
end Pd


set_option Elab.async false
set_option linter.all false
set_option maxRecDepth 100000
set_option maxHeartbeats 1000000
namespace Pd
open PySem PySem.Spec PyProof.Rows L2
open PySem.W (EachIs)
/-! ### sorted(t), t a tuple; sorted(xs, reverse=True) -/
section
variable {prog : Program} {w : World} {A : Around} {E : Value → Shared → Prop} {s : Shared}
theorem collect_tup {l : Addr} {vs : List Value} {Q : List Value → Shared → Prop} (hl : IsTup s.heap l vs.toArray)
    (h : Q vs { s with heap := (s.heap.push (seqObj "list" #[] 0)).update s.heap.objs.size (Obj.mapSeq (· ++ vs.toArray)) }) (hsz : vs.length ≤ sizeLine) :
    wpAny (model prog w) A (collect (.ref l)) Q E s := by
  obtain ⟨o, ho, hc, n, hd⟩ := id hl
  unfold collect
  refine wpAny_bind (wpAny_runValue (codeAny_builtin F.entry_proto_collect ?_))
  rw [Around.under_plainId F.plain_proto_collect _]
  show wpAny _ A.in1 (newList [] >>= fun l => again (.builtin "list.__iadd__" ⟨[l, .ref _], []⟩)) _ _ s
  refine wpAny_bind (wpAny_newObj_type ?_)
  refine wpAny_pure ⟨plainId_quiet F.plain_list_iadd _, codeAny_builtin F.entry_list_iadd ?_⟩
  rw [Around.under_plainId F.plain_list_iadd _]
  show wpAny _ A.in1 (Builtin.List.listExtendWith (.ref s.heap.objs.size) (.ref l) (.ref s.heap.objs.size)) _ _ _
  have hS : (s.heap.push { cls := .type "list", data := .seq ([] : List Value).toArray }).get? s.heap.objs.size = some { cls := .type "list", data := .seq #[] 0 } := Heap.get?_push_size _ rfl
  have hS₂ := Heap.get?_update_self (Obj.mapSeq (· ++ vs.toArray)) hS rfl
  have fin' : wpAny (model prog w) A (match Value.ref s.heap.objs.size with
      | Value.ref a => do
        match (← load a).data with
          | Data.seq xs _ => pure xs.toList
          | _ => unsupported "internal:collect"
      | _ => unsupported "internal:collect") Q E { s with heap := (s.heap.push { cls := .type "list", data := .seq ([] : List Value).toArray }).update s.heap.objs.size (Obj.mapSeq (· ++ vs.toArray)) } := by
    show wpAny _ A (load s.heap.objs.size >>= _) _ _ _
    refine wpAny_bind (wpAny_load hS₂ ?_)
    refine wpAny_pure ?_
    have e : ((#[] : Array Value) ++ vs.toArray).toList = vs := by simp
    show Q ((#[] : Array Value) ++ vs.toArray).toList _
    rw [e]
    exact h
  refine wpAny_mono (wpAny_extend_seq (hsz := by simpa using hsz) (A := A) (R := fun r s' => r = .ok (.ret (.ref s.heap.objs.size)) ∧ s' = { s with heap := (s.heap.push { cls := .type "list", data := .seq ([] : List Value).toArray }).update s.heap.objs.size (Obj.mapSeq (· ++ vs.toArray)) })
    (s := { s with heap := s.heap.push { cls := .type "list", data := .seq ([] : List Value).toArray } }) _ l _ 0 (.inr rfl) hS (Heap.get?_push_of_some _ ho) hc hd ⟨rfl, rfl⟩) (fun fin s' h => ?_) (fun e s' h => ?_)
  · cases fin with
    | done f =>
      obtain ⟨e, rfl⟩ := h
      cases e
      exact fin'
    | again c' => exact ⟨h.1, codeAny_mono h.2 fun r s'' hr => by obtain ⟨rfl, rfl⟩ := hr; exact fin'⟩
  · exact absurd h.1 (by simp)
open PySem.W in
theorem sorted_of_sortT {l : Addr} {vs : List Value} {kw : List (Str × Value)} {Q : Value → Shared → Prop} (hl : IsTup s.heap l vs.toArray) (hL : vs.length ≤ sizeLine) (ha1 : argsOk "sorted" ⟨[.ref l], kw⟩) (ha2 : ∀ x, argsOk "list.sort" ⟨[.ref x], kw⟩)
    (body : ∀ E' : Value → Shared → Prop, wpAny (model prog w) A.in1.in1 (Builtin.«list.sort» ⟨[.ref (s.heap.objs.size + 1)], kw⟩) (fun f s' => f = .done (.ret .none) ∧ Q (.ref (s.heap.objs.size + 1)) s') E' { s with heap := copyHeap s.heap vs }) :
    wpAny (model prog w) A (call (.builtin "sorted") [.ref l] kw) Q E s := by
  refine call_function_entry_kw kind_sorted plain_sorted entry_sorted ha1 ?_
  unfold Builtin.«sorted»
  refine wpAny_bind (m := checkCount "sorted" 1 1 _) (wpAny_pure ?_)
  refine wpAny_bind (collect_tup hl ?_ hL)
  refine wpAny_bind (wpAny_newList ?_ hL)
  have hsz : ((s.heap.push (seqObj "list" #[] 0)).update s.heap.objs.size (Obj.mapSeq (· ++ vs.toArray))).objs.size = s.heap.objs.size + 1 := by
    rw [Heap.size_update, size_push']
  show wpAny _ _ _ _ _ { s with heap := copyHeap s.heap vs }
  rw [hsz]
  refine wpAny_bind (wpAny_holding (wpAny_call_entry_kw slot_list_sort ⟨_, copyHeap_at s.heap vs, rfl⟩ entry_list_sort ?body (ha2 _)))
  case body =>
    show wpAny (model prog w) A.in1.in1 (Builtin.«list.sort» ⟨[.ref (s.heap.objs.size + 1)], kw⟩) _ _ _
    refine wpAny_mono (body _) (fun f s' hf => ?_) fun _ _ e => e
    obtain ⟨rfl, hq⟩ := hf
    exact ⟨_, rfl, wpAny_pure ⟨_, rfl, hq⟩⟩
end
def rSortA (K : PySem.W.Frag) (b : Bool) : List V → Hp → VK → Prop := fun vs H Q => ∃ (B : Hp) (a : Addr) (xs : List V) (ds : List D), vs = [V.ref a] ∧ Same B H ∧ (SqL K H a xs ∨ SqT K H a xs) ∧ DpAll K B xs ds ∧ PySem.W.AllAlike ds ∧ PySem.W.Sortable ds ∧ (∀ d ∈ ds, d.depth ≤ 4) ∧
  ∀ (ys : List V) (p : Addr), DpAll K B ys (ds.mergeSort (PySem.W.dataLe b id)) → H p = none → Q (.ref p) (upd H p (.lst ys))
section
variable {X : Cx}
theorem cr_sortA_core (hu : X.A.units + 64 < cLine) {b : Bool} {kw : List (Str × Value)} (hkw : ∀ (x : Addr), Builtin.«list.sort» ⟨[.ref x], kw⟩ = Builtin.«list.sort» ⟨[.ref x], [(Str.ofString "reverse", .bool b)]⟩)
    (ha1 : ∀ l, argsOk "sorted" ⟨[l], kw⟩) (ha2 : ∀ x, argsOk "list.sort" ⟨[.ref x], kw⟩) {pins : List (Addr × Obj)} {s : Shared} {σ : L2.St} {H : Hp} {vs : List V} {us : List Value} {Q : VK} (I : Inv X pins σ H s) (r : Vals vs us) (h : rSortA X.K b vs H Q) :
    wpAny (model X.prog X.w) X.A (call (.builtin "sorted") us kw) (EP X pins σ Q) X.xe s := by
  obtain ⟨B, a, xs, ds, rfl, sb, hs, hd, hal, hk, hdep, q⟩ := h
  rw [Vals.ref1 r]
  have core : ∀ its : List Value, Vals xs its → xs.length ≤ sizeLine → ∀ E' : Value → Shared → Prop, wpAny (model X.prog X.w) X.A.in1.in1 (Builtin.«list.sort» ⟨[.ref (s.heap.objs.size + 1)], kw⟩) (fun f s' => f = .done (.ret .none) ∧ EP X pins σ Q (.ref (s.heap.objs.size + 1)) s') E' { s with heap := PySem.W.copyHeap s.heap its } := by
    intro its rv hz E'
    have e := each_of rv hd
    have hlen : its.length = ds.length := by rw [← rv.length, DpAll.length hd]
    have hL : ds.length ≤ sizeLine := by rw [← DpAll.length hd]; exact hz
    have er := each_reads I sb e
    have er' : EachIs (fun v b => ∃ as, Reads (PySem.W.sortingHeap (PySem.W.copyHeap s.heap its) (s.heap.objs.size + 1) its) v b as) its ds := er.mono fun _ _ ⟨as, r⟩ => ⟨as, PyProof.Rows.Reads.keeps (fun _ _ => PySem.W.sorting_copy_old) r⟩
    rw [hkw]
    have er'' : EachIs (fun v (b : D) => ∃ as, Reads (PySem.W.sortingHeap (PySem.W.copyHeap s.heap its) (s.heap.objs.size + 1) its) v (id b) as) its ds := er'
    refine PySem.W.list_sort_rev_vals (s := { s with heap := PySem.W.copyHeap s.heap its }) (PySem.W.copyHeap_at s.heap its) (PySem.W.SortsAt.data (s := { s with heap := PySem.W.sortingHeap (PySem.W.copyHeap s.heap its) (s.heap.objs.size + 1) its }) er' hal hk (fun d hd => by have := hdep d hd; show X.A.units + 2 + d.depth < cLine; omega)) (by rw [hlen]; exact hL) ?_
    refine ⟨rfl, ?_⟩
    have eo := PySem.W.sortVals_data (R := fun v d => ∃ x, RelV x v ∧ Dp X.K B x d) (enc := id) b e er'' (by rw [List.map_id]; exact hal)
    rw [List.map_id] at eo
    obtain ⟨ys, h1, h2⟩ := each_back eo
    obtain ⟨ep, he'⟩ := PyProof.Rows.sortedAll_at s.heap its (PySem.W.sortVals (PySem.W.dataKind (PySem.W.sortingHeap (PySem.W.copyHeap s.heap its) (s.heap.objs.size + 1) its) ds) b its its).toArray
    have hl2 : ys.length ≤ sizeLine := by
      rw [h1.length, PySem.W.sortVals_length b rfl, hlen]
      exact hL
    exact ⟨.ref _, upd H (s.heap.objs.size + 1) (.lst ys), I.laid (t' := s.toks) (fun _ _ => PyProof.Rows.sortedAll_old) (Nat.le_succ _) ⟨hl2, _, ep, h1, he'⟩, rfl, q _ _ h2 (I.hok.fresh (Nat.le_succ _))⟩
  rcases hs with hs | hs
  · obtain ⟨its, rv, hl, hz⟩ := I.list hs
    exact PySem.W.sorted_of_sort hl.isList (by rw [← rv.length]; exact hz) (ha1 _) ha2 (core its rv hz)
  · obtain ⟨its, rv, hl, hz⟩ := I.tuple hs
    exact sorted_of_sortT hl (by rw [← rv.length]; exact hz) (ha1 _) ha2 (core its rv hz)
theorem cr_sortedA (hu : X.A.units + 64 < cLine) : CallR X (.builtin "sorted") (rSortA X.K false) := fun pins s σ H vs us Q I r h =>
  cr_sortA_core hu PySem.W.plain_is_rev PyProof.Rows.args_sorted1 (fun _ => PyProof.Rows.args_list_sort _) I r h
theorem cr_sortedR (hu : X.A.units + 64 < cLine) {b : Bool} : CallRK X (.builtin "sorted") [Str.ofString "reverse"] (fun vs zs H Q => zs = [V.bl b] ∧ rSortA X.K b vs H Q) := by
  intro pins s σ H vs zs us ws Q I r rz h
  obtain ⟨rfl, h⟩ := h
  cases rz with
  | cons r1 r2 =>
    cases r2
    cases (show _ = Value.bool b from r1)
    exact cr_sortA_core hu (fun _ => rfl) (fun _ => PyProof.Rows.args_sorted_rev _ _) (fun _ => PyProof.Rows.args_list_sort_rev _ _) I r h
end
open Classical in
noncomputable def fSortB (b : Bool) (ds : List D) : Option (List D) := if PySem.W.AllAlike ds ∧ PySem.W.Sortable ds ∧ (∀ d ∈ ds, d.depth ≤ 4) then some (ds.mergeSort (PySem.W.dataLe b id)) else none
noncomputable def pSortB (b : Bool) : List D → Option Rd'
  | [.list l] => (fSortB b l).map .nl
  | [.tuple l] => (fSortB b l).map .nl
  | _ => none
noncomputable def oSortedA := opG (pSortB false)
noncomputable def oSortedR := opG (pSortB true)
theorem pSortB_ok {K : PySem.W.Frag} {b : Bool} : OpOk K (rSortA K b) (opG (pSortB b)) := opG_ok fun B H vs ds res Q e hs hp k => by
  have core : ∀ (l : List D) (a : Addr) (xs : List V), (SqL K H a xs ∨ SqT K H a xs) → DpAll K B xs l → (fSortB b l).map Rd'.nl = some res → rSortA K b [.ref a] H Q := by
    intro l a xs h2 h3 hp
    cases h : fSortB b l with
    | none => rw [h] at hp; cases hp
    | some m =>
      rw [h] at hp
      cases hp
      unfold fSortB at h
      split at h
      · rename_i hc
        cases h
        exact ⟨B, a, xs, l, rfl, e, h2, h3, hc.1, hc.2.1, hc.2.2, fun ys p hy hp => k p ys hp hy⟩
      · cases h
  match ds, hp with
  | [.list l], hp =>
    obtain ⟨x, rfl, h1⟩ := hs.one
    obtain ⟨a, xs, rfl, h2, h3⟩ := h1
    exact core l a xs (Or.inl h2) h3 hp
  | [.tuple l], hp =>
    obtain ⟨x, rfl, h1⟩ := hs.one
    have h1 : Dp K B x (.tuple l) := h1
    cases h1 with
    | tup h2 h3 => exact core l _ _ (Or.inr (sqt_mono e h2)) h3 hp
theorem oSortedA_ok {K : PySem.W.Frag} : OpOk K (rSortA K false) oSortedA := pSortB_ok
theorem de_sortedR {X : Cx} {vs0 : List V} {fa : M (List Rs)} {e : Expr} {p kpos pos : Pos} {j : Nat} {p2 : Pos} (hu : X.A.units + 64 < cLine) (hg : Gl X "sorted") (hm : X.mg "sorted" = none) (ha : PA X [e] (rdA X.K vs0 fa))
    (he : backTo pos (starEach [e] X.env) = (false, eval e X.env) :: backTo pos (starEach [] X.env) := by rfl) (hpl : (backTo pos (starEach [e] X.env)).any (·.1) = false := by rfl)
    (hall : (backToKw pos (keywordEach [⟨some "reverse", .Constant (.bool true) j p2, kpos⟩] X.env)).all (·.1.isSome) = true := by rfl) (hnone : (backToKw pos (keywordEach [⟨some "reverse", .Constant (.bool true) j p2, kpos⟩] X.env)).any (·.1.isNone) = false := by rfl) (hks : (backToKw pos (keywordEach [⟨some "reverse", .Constant (.bool true) j p2, kpos⟩] X.env)).filterMap (·.1) = [Str.ofString "reverse"] := by rfl) :
    PE X (.Call (.Name "sorted" p) [e] [⟨some "reverse", .Constant (.bool true) j p2, kpos⟩] pos) (rdE X.K vs0 (M.bind fa oSortedR)) := by
  refine PE.imp (pe_callBK (cr_sortedR (b := true) hu) hg hm (by decide +kernel) ha (pk_cons pe_bl pk_nil) (by decide) (by decide) he hpl hall hnone hks) fun σ H Q q => ?_
  have q2 := rd_op (pSortB_ok (K := X.K) (b := true)) q
  obtain ⟨B, ρ, fs, gd, rs, ρ', e1, kk⟩ := q2
  exact ⟨B, ρ, fs, gd, rs, ρ', e1, fun vs B' H' fs' Ts a b c d => ⟨rfl, kk vs B' H' fs' Ts a b c d⟩⟩
@[simp ↓] theorem oSortedA_eq : oSortedA = opG (pSortB false) := rfl
@[simp ↓] theorem oSortedR_eq : oSortedR = opG (pSortB true) := rfl
@[simp] theorem pSortA_l {l : List D} : pSortB false [.list l] = (fSort l).map .nl := rfl
@[simp] theorem pSortA_t {l : List D} : pSortB false [.tuple l] = (fSort l).map .nl := rfl
@[simp] theorem pSortR_l {l : List D} : pSortB true [.list l] = (fSortB true l).map .nl := rfl
@[simp] theorem pSortR_t {l : List D} : pSortB true [.tuple l] = (fSortB true l).map .nl := rfl
end Pd

set_option Elab.async false
set_option linter.all false
set_option maxRecDepth 100000
set_option maxHeartbeats 1000000
namespace Pd
open PySem PySem.Spec PyProof.Rows L2
/-! ### parts of what a name holds -/
def Sl.kid : Sl → Nat → Option Sl
  | .mr _ l, k => l[k]?
  | .ob _ _ _ l, k => l[k]?
  | _, _ => none
def Sl.setKid (s : Sl) (k : Nat) (c : Sl) : Sl := match s with
  | .mr t l => .mr t (l.set k c)
  | .ob t C ns l => .ob t C ns (l.set k c)
  | s => s
theorem Sl.setKid_tag (s : Sl) (k : Nat) (c : Sl) : (s.setKid k c).tag = s.tag := by cases s <;> rfl
section
theorem flat_set_mem {a : Addr} : ∀ {Ts : List (List Addr)} {k : Nat} {T' : List Addr}, a ∈ (Ts.set k T').flatten → a ∈ T' ∨ ∃ j T, j ≠ k ∧ Ts[j]? = some T ∧ a ∈ T
  | [], _, _, h => by simp at h
  | T0 :: Ts, 0, T', h => by
    rw [List.set_cons_zero, List.flatten_cons, List.mem_append] at h
    rcases h with h | h
    · exact Or.inl h
    · obtain ⟨T, hT, ha⟩ := List.mem_flatten.mp h
      obtain ⟨j, hj⟩ := List.getElem?_of_mem hT
      exact Or.inr ⟨j + 1, T, by omega, by simpa using hj, ha⟩
  | T0 :: Ts, k + 1, T', h => by
    rw [List.set_cons_succ, List.flatten_cons, List.mem_append] at h
    rcases h with h | h
    · exact Or.inr ⟨0, T0, by omega, rfl, h⟩
    · rcases flat_set_mem h with h | ⟨j, T, h1, h2, h3⟩
      · exact Or.inl h
      · exact Or.inr ⟨j + 1, T, by omega, by simpa using h2, h3⟩
theorem flat_set_nodup : ∀ {Ts : List (List Addr)} {k : Nat} {T T' : List Addr}, Ts.flatten.Nodup → Ts[k]? = some T → T'.Nodup → (∀ a ∈ T', a ∈ Ts.flatten → a ∈ T) → (Ts.set k T').flatten.Nodup
  | [], _, _, _, _, h, _, _ => by simp at h
  | T0 :: Ts, 0, T, T', hn, h, hn', hd => by
    simp at h
    subst h
    rw [List.flatten_cons, List.nodup_append] at hn
    rw [List.set_cons_zero, List.flatten_cons, List.nodup_append]
    refine ⟨hn', hn.2.1, fun a ha b hb e => ?_⟩
    subst e
    exact hn.2.2 a (hd a ha (by rw [List.flatten_cons]; exact List.mem_append_right _ hb)) a hb rfl
  | T0 :: Ts, k + 1, T, T', hn, h, hn', hd => by
    rw [List.flatten_cons, List.nodup_append] at hn
    have h' : Ts[k]? = some T := by simpa using h
    rw [List.set_cons_succ, List.flatten_cons, List.nodup_append]
    refine ⟨hn.1, flat_set_nodup hn.2.1 h' hn' fun a ha hf => hd a ha (by rw [List.flatten_cons]; exact List.mem_append_right _ hf), fun a ha b hb e => ?_⟩
    subst e
    rcases flat_set_mem hb with q | ⟨j, T2, h1, h2, h3⟩
    · have := hd a q (by rw [List.flatten_cons]; exact List.mem_append_left _ ha)
      exact hn.2.2 a ha a (List.mem_flatten.mpr ⟨T, List.mem_of_getElem? h', this⟩) rfl
    · exact hn.2.2 a ha a (List.mem_flatten.mpr ⟨T2, List.mem_of_getElem? h2, h3⟩) rfl
theorem flat_injL {a : Addr} : ∀ {Ts : List (List Addr)} {k k' : Nat} {T T' : List Addr}, Ts.flatten.Nodup → Ts[k]? = some T → Ts[k']? = some T' → a ∈ T → a ∈ T' → k = k'
  | [], k, _, _, _, _, h, _, _, _ => by simp at h
  | T0 :: Ts, k, k', T, T', hn, h, h', ha, ha' => by
    rw [List.flatten_cons, List.nodup_append] at hn
    cases k with
    | zero =>
      simp at h; subst h
      cases k' with
      | zero => rfl
      | succ k' => exact (hn.2.2 a ha a (List.mem_flatten.mpr ⟨T', List.mem_of_getElem? (by simpa using h'), ha'⟩) rfl).elim
    | succ k =>
      cases k' with
      | zero =>
        simp at h'; subst h'
        exact (hn.2.2 a ha' a (List.mem_flatten.mpr ⟨T, List.mem_of_getElem? (by simpa using h), ha⟩) rfl).elim
      | succ k' => exact congrArg (· + 1) (flat_injL hn.2.1 (by simpa using h) (by simpa using h') ha ha')
variable {K : PySem.W.Frag} {B B' H H' : Hp}
theorem OwnL.get : ∀ {ss : List Sl} {vs : List V} {Ts : List (List Addr)} {k : Nat} {s : Sl}, OwnL K B H vs ss Ts → ss[k]? = some s → ∃ v T, vs[k]? = some v ∧ Ts[k]? = some T ∧ Own K B H v s T
  | [], [], [], k, s, _, e => by simp at e
  | s :: ss, v :: vs, T :: Ts, 0, s', h, e => by simp at e; subst e; exact ⟨v, T, rfl, rfl, h.1⟩
  | s :: ss, v :: vs, T :: Ts, k + 1, s', h, e => by simpa using OwnL.get (k := k) h.2 (by simpa using e)
  | [], [], _ :: _, _, _, h, _ => h.elim
  | [], _ :: _, _, _, _, h, _ => h.elim
  | _ :: _, [], _, _, _, h, _ => h.elim
  | _ :: _, _ :: _, [], _, _, h, _ => h.elim
theorem OwnL.set (e : Same B B') : ∀ {ss : List Sl} {vs : List V} {Ts : List (List Addr)} {k : Nat} {v : V} {c' : Sl} {T' : List Addr}, OwnL K B H vs ss Ts → (∀ j T, j ≠ k → Ts[j]? = some T → ∀ a ∈ T, H' a = H a) → vs[k]? = some v → Own K B' H' v c' T' →
    OwnL K B' H' vs (ss.set k c') (Ts.set k T')
  | [], [], [], k, v, _, _, _, _, e, _ => by simp at e
  | s :: ss, u :: vs, T :: Ts, 0, v, c', T', h, kp, ev, o => by
    simp at ev
    subst ev
    refine ⟨o, OwnL.keepA e h.2 fun a ha => ?_⟩
    obtain ⟨T2, hT, ha⟩ := List.mem_flatten.mp ha
    obtain ⟨j, hj⟩ := List.getElem?_of_mem hT
    exact kp (j + 1) T2 (by omega) (by simpa using hj) a ha
  | s :: ss, u :: vs, T :: Ts, k + 1, v, c', T', h, kp, ev, o => by
    refine ⟨h.1.keep e fun a ha => kp 0 T (by omega) rfl a ha, OwnL.set e h.2 (fun j T2 hj hT => kp (j + 1) T2 (by omega) (by simpa using hT)) (by simpa using ev) o⟩
  | [], [], _ :: _, _, _, _, _, h, _, _, _ => h.elim
  | [], _ :: _, _, _, _, _, _, h, _, _, _ => h.elim
  | _ :: _, [], _, _, _, _, _, h, _, _, _ => h.elim
  | _ :: _, _ :: _, [], _, _, _, _, h, _, _, _ => h.elim
theorem zip_snd : ∀ {ns : List Str} {vs : List V}, ns.length = vs.length → (ns.zip vs).map (·.2) = vs
  | [], [], _ => rfl
  | n :: ns, v :: vs, h => by rw [List.zip_cons_cons, List.map_cons, zip_snd (by simpa using h)]
  | [], _ :: _, h => by simp at h
  | _ :: _, [], h => by simp at h
/-- a part, and the whole with something else in its place -/
theorem Own.kid {v0 v : V} {s c : Sl} {k : Nat} {T : List Addr} (o : Own K B H v0 s T) (kd : Kid H v0 s k v) (e : s.kid k = some c) :
    ∃ Tk, Own K B H v c Tk ∧ (∀ a ∈ Tk, a ∈ T) ∧ ∀ {B' H' : Hp} {c' : Sl} {T' : List Addr}, Same B B' → (∀ a ∈ T, a ∉ Tk → H' a = H a) → Own K B' H' v c' T' → (∀ a ∈ T', a ∈ T → a ∈ Tk) →
      ∃ T2, Own K B' H' v0 (s.setKid k c') T2 ∧ ∀ a ∈ T2, (a ∈ T ∧ a ∉ Tk) ∨ a ∈ T' := by
  cases s with
  | mr t l =>
    obtain ⟨a, xs, rfl, h1, h2⟩ := kd
    obtain ⟨a', xs', Ts, q1, rfl, q2, q3, q4⟩ := o
    cases q1
    rw [h1] at q2
    cases q2
    have e : l[k]? = some c := e
    obtain ⟨v', Tk, w1, w2, w3⟩ := OwnL.get q3 e
    rw [h2] at w1
    cases w1
    rw [List.nodup_cons] at q4
    have off : ∀ j T, j ≠ k → Ts[j]? = some T → ∀ b ∈ T, b ∉ Tk := fun j T hj hT b hb hb2 => hj (flat_injL q4.2 hT w2 hb hb2)
    have aT : a ∉ Tk := fun h => q4.1 (List.mem_flatten.mpr ⟨Tk, List.mem_of_getElem? w2, h⟩)
    refine ⟨Tk, w3, fun b hb => List.mem_cons_of_mem _ (List.mem_flatten.mpr ⟨Tk, List.mem_of_getElem? w2, hb⟩), fun {B' H' c' T'} sb kp o' dj => ?_⟩
    refine ⟨a :: (Ts.set k T').flatten, ⟨a, xs, Ts.set k T', rfl, rfl, by rw [kp a (by simp) aT]; exact h1, OwnL.set sb q3 (fun j T hj hT b hb => kp b (List.mem_cons_of_mem _ (List.mem_flatten.mpr ⟨T, List.mem_of_getElem? hT, hb⟩)) (off j T hj hT b hb)) h2 o', ?_⟩, fun b hb => ?_⟩
    · rw [List.nodup_cons]
      refine ⟨fun h => ?_, flat_set_nodup q4.2 w2 o'.nodup fun b hb hf => dj b hb (List.mem_cons_of_mem _ hf)⟩
      rcases flat_set_mem h with h | ⟨j, T, hj, hT, hb⟩
      · exact aT (dj a h (by simp))
      · exact q4.1 (List.mem_flatten.mpr ⟨T, List.mem_of_getElem? hT, hb⟩)
    · rcases List.mem_cons.mp hb with rfl | hb
      · exact Or.inl ⟨by simp, aT⟩
      · rcases flat_set_mem hb with h | ⟨j, T, hj, hT, hb⟩
        · exact Or.inr h
        · exact Or.inl ⟨List.mem_cons_of_mem _ (List.mem_flatten.mpr ⟨T, List.mem_of_getElem? hT, hb⟩), off j T hj hT b hb⟩
  | ob t C ns l =>
    obtain ⟨a, C', dx, fs, rfl, h1, h2⟩ := kd
    obtain ⟨a', dx', C2, vs, Ts, q1, rfl, q2, q3, q4, q5, q6, q7⟩ := o
    cases q1
    rw [h1] at q3
    cases q3
    have e : l[k]? = some c := e
    rw [zip_snd q4] at h2
    obtain ⟨v', Tk, w1, w2, w3⟩ := OwnL.get q6 e
    rw [h2] at w1
    cases w1
    rw [List.nodup_cons, List.nodup_cons] at q7
    have off : ∀ j T, j ≠ k → Ts[j]? = some T → ∀ b ∈ T, b ∉ Tk := fun j T hj hT b hb hb2 => hj (flat_injL q7.2.2 hT w2 hb hb2)
    have inT : ∀ b ∈ Tk, b ∈ Ts.flatten := fun b hb => List.mem_flatten.mpr ⟨Tk, List.mem_of_getElem? w2, hb⟩
    have aT : a ∉ Tk := fun h => q7.1 (List.mem_cons_of_mem _ (inT a h))
    have dT : dx ∉ Tk := fun h => q7.2.1 (inT dx h)
    refine ⟨Tk, w3, fun b hb => List.mem_cons_of_mem _ (List.mem_cons_of_mem _ (inT b hb)), fun {B' H' c' T'} sb kp o' dj => ?_⟩
    refine ⟨a :: dx :: (Ts.set k T').flatten, ⟨a, dx, C', vs, Ts.set k T', rfl, rfl, q2, by rw [kp a (by simp) aT]; exact h1, q4, by rw [kp dx (by simp) dT]; exact q5,
      OwnL.set sb q6 (fun j T hj hT b hb => kp b (List.mem_cons_of_mem _ (List.mem_cons_of_mem _ (List.mem_flatten.mpr ⟨T, List.mem_of_getElem? hT, hb⟩))) (off j T hj hT b hb)) h2 o', ?_⟩, fun b hb => ?_⟩
    · rw [List.nodup_cons, List.nodup_cons]
      refine ⟨fun h => ?_, fun h => ?_, flat_set_nodup q7.2.2 w2 o'.nodup fun b hb hf => dj b hb (List.mem_cons_of_mem _ (List.mem_cons_of_mem _ hf))⟩
      · rcases List.mem_cons.mp h with h | h
        · exact q7.1 (by rw [h]; simp)
        · rcases flat_set_mem h with h | ⟨j, T, hj, hT, hb⟩
          · exact aT (dj a h (by simp))
          · exact q7.1 (List.mem_cons_of_mem _ (List.mem_flatten.mpr ⟨T, List.mem_of_getElem? hT, hb⟩))
      · rcases flat_set_mem h with h | ⟨j, T, hj, hT, hb⟩
        · exact dT (dj dx h (by simp))
        · exact q7.2.1 (List.mem_flatten.mpr ⟨T, List.mem_of_getElem? hT, hb⟩)
    · rcases List.mem_cons.mp hb with rfl | hb
      · exact Or.inl ⟨by simp, aT⟩
      · rcases List.mem_cons.mp hb with rfl | hb
        · exact Or.inl ⟨by simp, dT⟩
        · rcases flat_set_mem hb with h | ⟨j, T, hj, hT, hb⟩
          · exact Or.inr h
          · exact Or.inl ⟨List.mem_cons_of_mem _ (List.mem_cons_of_mem _ (List.mem_flatten.mpr ⟨T, List.mem_of_getElem? hT, hb⟩)), off j T hj hT b hb⟩
  | p d => cases e
  | ml t l => cases e
  | md t l => cases e
  | ex c f => cases e
  | fd l => cases e
  | hl t => cases e
theorem RsAll.lenT {σ : L2.St} {fs : Nat → List Addr} : ∀ {vs : List V} {rs : List Rs} {Ts : List (List Addr)}, RsAll K B H σ fs vs rs Ts → Ts.length = rs.length
  | [], [], [], _ => rfl
  | v :: vs, r :: rs, T :: Ts, g => by simp [RsAll.lenT g.2]
  | [], [], _ :: _, g => g.elim
  | [], _ :: _, _, g => g.elim
  | _ :: _, [], _, g => g.elim
  | _ :: _, _ :: _, [], g => g.elim
end
end Pd

set_option Elab.async false
set_option linter.all false
set_option maxRecDepth 100000
set_option maxHeartbeats 2000000
namespace Pd
open PySem PySem.Spec PyProof.Rows L2
/-! ### calls that take names' own things and lent parts -/
def argR : Rs → Env → Option Sl
  | .own s, _ => some s
  | .bor i, ρ => match ρ[i]? with
    | some (some s) => some s.bare
    | _ => none
  | .lent i s k, ρ => match ρ[i]? with
    | some (some (.hl _)) => (s.kid k).map Sl.bare
    | _ => none
def argL : List Rs → Env → Option (List Sl)
  | [], _ => some []
  | r :: rs, ρ => match argR r ρ with
    | some s => match argL rs ρ with
      | some t => some (s :: t)
      | none => none
    | none => none
def Rs.root : Rs → Option Nat
  | .own _ => none
  | .bor i => some i
  | .lent i _ _ => some i
def Rs.back : Rs → Sl → Option Nat → Sl
  | .lent _ w k, s, t => (w.setKid k s).retag t
  | _, s, t => s.retag t
def roots : List Rs → List Nat
  | [] => []
  | r :: rs => match r.root with
    | some i => i :: roots rs
    | none => roots rs
def wbR (r : Rs) (s : Sl) (ρ : Env) : Env := match r.root with
  | some i => ρ.set i (some (r.back s (tagAt ρ i)))
  | none => ρ
def wbL : List Rs → List Sl → Env → Env
  | r :: rs, s :: ss, ρ => wbL rs ss (wbR r s ρ)
  | _, _, ρ => ρ
theorem wbR_len (r : Rs) (s : Sl) (ρ : Env) : (wbR r s ρ).length = ρ.length := by
  unfold wbR
  split
  · simp
  · rfl
theorem wbL_len : ∀ (rs : List Rs) (ss : List Sl) (ρ : Env), (wbL rs ss ρ).length = ρ.length
  | [], _, _ => rfl
  | _ :: _, [], _ => rfl
  | r :: rs, s :: ss, ρ => by
    rw [wbL, wbL_len rs ss, wbR_len]
theorem mem_roots {i : Nat} : ∀ {rs : List Rs}, i ∈ roots rs ↔ ∃ (k : Nat) (r : Rs), rs[k]? = some r ∧ r.root = some i
  | [] => by simp [roots]
  | r :: rs => by
    have ih := mem_roots (i := i) (rs := rs)
    unfold roots
    cases e : r.root with
    | none =>
      dsimp only
      rw [ih]
      constructor
      · rintro ⟨k, q, h1, h2⟩; exact ⟨k + 1, q, by simpa using h1, h2⟩
      · rintro ⟨k, q, h1, h2⟩
        cases k with
        | zero => simp at h1; subst h1; rw [e] at h2; cases h2
        | succ k => exact ⟨k, q, by simpa using h1, h2⟩
    | some j =>
      dsimp only
      rw [List.mem_cons, ih]
      constructor
      · rintro (rfl | ⟨k, q, h1, h2⟩)
        · exact ⟨0, r, rfl, e⟩
        · exact ⟨k + 1, q, by simpa using h1, h2⟩
      · rintro ⟨k, q, h1, h2⟩
        cases k with
        | zero => simp at h1; subst h1; rw [e] at h2; cases h2; exact Or.inl rfl
        | succ k => exact Or.inr ⟨k, q, by simpa using h1, h2⟩
theorem roots_inj {i : Nat} : ∀ {rs : List Rs} {k k' : Nat} {r r' : Rs}, (roots rs).Nodup → rs[k]? = some r → r.root = some i → rs[k']? = some r' → r'.root = some i → k = k'
  | [], k, _, _, _, _, h, _, _, _ => by simp at h
  | q :: rs, k, k', r, r', hn, h, hr, h', hr' => by
    have hn2 : (roots rs).Nodup := by
      unfold roots at hn
      split at hn
      · exact (List.nodup_cons.mp hn).2
      · exact hn
    have hd : ∀ j, q.root = some j → j ∉ roots rs := fun j e => by
      unfold roots at hn
      rw [e] at hn
      exact (List.nodup_cons.mp hn).1
    cases k with
    | zero =>
      simp at h
      subst h
      cases k' with
      | zero => rfl
      | succ k' => exact (hd i hr (mem_roots.mpr ⟨k', r', by simpa using h', hr'⟩)).elim
    | succ k =>
      cases k' with
      | zero =>
        simp at h'
        subst h'
        exact (hd i hr' (mem_roots.mpr ⟨k, r, by simpa using h, hr⟩)).elim
      | succ k' => exact congrArg (· + 1) (roots_inj (rs := rs) hn2 (by simpa using h) hr (by simpa using h') hr')
theorem wbR_out {i : Nat} {r : Rs} {s : Sl} {ρ : Env} (h : r.root ≠ some i) : (wbR r s ρ)[i]? = ρ[i]? := by
  unfold wbR
  split
  · rename_i j e
    rw [List.getElem?_set_ne (fun q => h (by rw [e, q]))]
  · rfl
theorem wbL_out {i : Nat} : ∀ (rs : List Rs) (ss : List Sl) (ρ : Env), i ∉ roots rs → (wbL rs ss ρ)[i]? = ρ[i]?
  | [], _, _, _ => rfl
  | _ :: _, [], _, _ => rfl
  | r :: rs, s :: ss, ρ, h => by
    rw [wbL, wbL_out rs ss _ (fun q => h (by
      obtain ⟨k, r', h1, h2⟩ := mem_roots.mp q
      exact mem_roots.mpr ⟨k + 1, r', by simpa using h1, h2⟩)), wbR_out (fun q => h (mem_roots.mpr ⟨0, r, rfl, q⟩))]
theorem wbL_in {i : Nat} : ∀ {rs : List Rs} {ss : List Sl} {ρ : Env} {k : Nat} {r : Rs} {s : Sl}, (roots rs).Nodup → rs[k]? = some r → r.root = some i → ss[k]? = some s → i < ρ.length → (wbL rs ss ρ)[i]? = some (some (r.back s (tagAt ρ i)))
  | [], _, _, k, _, _, _, h, _, _, _ => by simp at h
  | _ :: _, [], _, _, _, _, _, _, _, h, _ => by simp at h
  | q :: rs, s1 :: ss, ρ, k, r, s, hn, h, hr, hs, hi => by
    rw [wbL]
    cases k with
    | zero =>
      simp at h hs
      subst h hs
      have hni : i ∉ roots rs := by
        unfold roots at hn
        rw [hr] at hn
        exact (List.nodup_cons.mp hn).1
      rw [wbL_out rs ss _ hni]
      unfold wbR
      rw [hr]
      dsimp only
      rw [List.getElem?_set_self hi]
    | succ k =>
      have hn2 : (roots rs).Nodup := by
        unfold roots at hn
        split at hn
        · exact (List.nodup_cons.mp hn).2
        · exact hn
      have hq : q.root ≠ some i := fun e => by
        have := roots_inj (k := 0) (k' := k + 1) hn rfl e h hr
        omega
      rw [wbL_in (rs := rs) hn2 (by simpa using h) hr (by simpa using hs) (by rw [wbR_len]; exact hi)]
      have : tagAt (wbR q s1 ρ) i = tagAt ρ i := by
        unfold tagAt
        rw [wbR_out hq]
      rw [this]
theorem argL_get {ρ : Env} : ∀ {rs : List Rs} {ss : List Sl}, argL rs ρ = some ss → ss.length = rs.length ∧ ∀ (k : Nat) s, ss[k]? = some s → ∃ r, rs[k]? = some r ∧ argR r ρ = some s
  | [], ss, e => by cases e; exact ⟨rfl, fun k s h => by simp at h⟩
  | r :: rs, ss, e => by
    unfold argL at e
    split at e
    · rename_i s0 e0
      split at e
      · rename_i t e1
        cases e
        obtain ⟨h1, h2⟩ := argL_get e1
        refine ⟨by simp [h1], fun k s h => ?_⟩
        cases k with
        | zero => simp at h; subst h; exact ⟨r, rfl, e0⟩
        | succ k => simpa using h2 k s (by simpa using h)
      · cases e
    · cases e
theorem Own.back {K : PySem.W.Frag} {B H : Hp} {v : V} {s : Sl} {T : List Addr} {r : Rs} {t : Option Nat} (hr : ∀ i w k, r ≠ .lent i w k) (h : Own K B H v s T) : Own K B H v (r.back s t) T := by
  cases r with
  | own _ => exact h.retag'
  | bor _ => exact h.retag'
  | lent i w k => exact (hr i w k rfl).elim
theorem Rs.back_tag {r : Rs} {s : Sl} {t : Option Nat} {k : Nat} (h : (r.back s t).tag = some k) : t = some k := by
  cases r with
  | own _ => exact Sl.retag_tag h
  | bor _ => exact Sl.retag_tag h
  | lent i w k => exact Sl.retag_tag h
section
variable {K : PySem.W.Frag} {vs0 : List V} {σ : L2.St} {B H : Hp} {ρ : Env} {fs : Nat → List Addr} {vs : List V} {rs : List Rs} {Ts : List (List Addr)} {ss : List Sl}
/-- what an argument's footprint is -/
def FtOk (K : PySem.W.Frag) (B H : Hp) (σ : L2.St) (fs : Nat → List Addr) (vs : List V) (Ts : List (List Addr)) (j : Nat) (F : List Addr) : Option Rs → Prop
  | some (.own _) => F = Ts.getD j []
  | some (.bor i) => F = fs i
  | some (.lent i w k) => ∃ v0 v c, σ[i]? = some (some v0) ∧ vs[j]? = some v ∧ w.kid k = some c ∧ Own K B H v c F ∧ (∀ a ∈ F, a ∈ Ts.getD j []) ∧ ∀ {B' H' : Hp} {c' : Sl} {T' : List Addr}, Same B B' → (∀ a ∈ Ts.getD j [], a ∉ F → H' a = H a) → Own K B' H' v c' T' → (∀ a ∈ T', a ∈ Ts.getD j [] → a ∈ F) →
      ∃ T2, Own K B' H' v0 (w.setKid k c') T2 ∧ ∀ a ∈ T2, (a ∈ Ts.getD j [] ∧ a ∉ F) ∨ a ∈ T'
  | none => F = []
theorem ft_ex (ok : RsAll K B H σ fs vs rs Ts) (e1 : argL rs ρ = some ss) (j : Nat) : ∃ F, FtOk K B H σ fs vs Ts j F rs[j]? := by
  cases q : rs[j]? with
  | none => exact ⟨[], rfl⟩
  | some r =>
    obtain ⟨v, T, h1, h2, h3⟩ := RsAll.get ok q
    cases r with
    | own s => exact ⟨_, rfl⟩
    | bor i => exact ⟨_, rfl⟩
    | lent i w k =>
      obtain ⟨hl, hg⟩ := argL_get e1
      have hj : j < ss.length := by rw [hl]; exact (List.getElem?_eq_some_iff.mp q).1
      obtain ⟨r', q1, q2⟩ := hg j ss[j] (List.getElem?_eq_getElem hj)
      rw [q] at q1
      cases q1
      have hk : ∃ c, w.kid k = some c := by
        unfold argR at q2
        dsimp only at q2
        split at q2
        · cases e : w.kid k with
          | none => rw [e] at q2; cases q2
          | some c => exact ⟨c, rfl⟩
        · cases q2
      obtain ⟨c, hk⟩ := hk
      obtain ⟨⟨v0, z1, z2, z3⟩, z4⟩ := h3
      have eT : Ts.getD j [] = T := by rw [List.getD_eq_getElem?_getD, h2]; rfl
      obtain ⟨Tk, y1, y2, y3⟩ := z2.kid z3 hk
      refine ⟨Tk, v0, v, c, z1, h1, hk, y1, fun a ha => by rw [eT]; exact y2 a ha, fun {B' H' c' T'} sb kp o dj => ?_⟩
      rw [eT] at kp dj ⊢
      exact y3 sb kp o dj
open Classical in
theorem call_core (g : Good K vs0 B H σ ρ fs) (ok : RsAll K B H σ fs vs rs Ts) (nd : Ts.flatten.Nodup) (hnd : (roots rs).Nodup) (e1 : argL rs ρ = some ss) :
    ∃ fsA : Nat → List Addr, Good K [] B H (vs.map some) (ss.map some) fsA ∧ (∀ s ∈ ss, s.tag = none) ∧ vs.length = rs.length ∧ ∀ (ss' : List Sl) (B' H' : Hp) (fsB : Nat → List Addr) (T : List Addr),
      Fr B H (InF fsA) B' H' (UnF (InF fsB) T) → Good K [] B' H' (vs.map some) (ss'.map some) fsB → (∀ a ∈ T, B' a = none ∧ ∀ i, a ∉ fsB i) →
      ∃ fs2 : Nat → List Addr, Fr B H (UnF (InF fs) Ts.flatten) B' H' (UnF (InF fs2) T) ∧ Good K vs0 B' H' σ (wbL rs ss' ρ) fs2 ∧ ∀ a ∈ T, B' a = none ∧ ∀ i, a ∉ fs2 i := by
  obtain ⟨hl, hg⟩ := argL_get e1
  have hvl := RsAll.len ok
  let fsA : Nat → List Addr := fun j => Classical.choose (ft_ex ok e1 j)
  have fA : ∀ j, FtOk K B H σ fs vs Ts j (fsA j) rs[j]? := fun j => Classical.choose_spec (ft_ex ok e1 j)
  -- where an address of a footprint stands
  have wh : ∀ j a, a ∈ fsA j → (∃ i, rs[j]? = some (Rs.bor i) ∧ a ∈ fs i) ∨ ∃ T, Ts[j]? = some T ∧ a ∈ T ∧ ∀ i, rs[j]? ≠ some (.bor i) := fun j a h => by
    have f := fA j
    cases q : rs[j]? with
    | none => rw [q] at f; rw [show fsA j = [] from f] at h; cases h
    | some r =>
      rw [q] at f
      have inT : a ∈ Ts.getD j [] → ∃ T, Ts[j]? = some T ∧ a ∈ T := fun ha => by
        rw [List.getD_eq_getElem?_getD] at ha
        cases e : Ts[j]? with
        | none => rw [e] at ha; cases ha
        | some T => rw [e] at ha; exact ⟨T, rfl, ha⟩
      cases r with
      | bor i => exact Or.inl ⟨i, rfl, by rw [← show fsA j = fs i from f]; exact h⟩
      | own s =>
        obtain ⟨T, h1, h2⟩ := inT (by rw [← show fsA j = Ts.getD j [] from f]; exact h)
        exact Or.inr ⟨T, h1, h2, fun i e => nomatch e⟩
      | lent i w k =>
        obtain ⟨v0, v, c, z1, z2, z3, z4, z5, z6⟩ := f
        obtain ⟨T, h1, h2⟩ := inT (z5 a h)
        exact Or.inr ⟨T, h1, h2, fun i e => nomatch e⟩
  have offT : ∀ (j : Nat) (T : List Addr) (a : Addr), Ts[j]? = some T → a ∈ T → (∀ i, a ∉ fs i) ∧ H a ≠ none ∧ B a = none := fun j T a hT ha => by
    have hj : j < rs.length := by
      have h1 := RsAll.lenT ok
      rw [← h1]
      exact (List.getElem?_eq_some_iff.mp hT).1
    obtain ⟨v, T', q1, q2, q3⟩ := RsAll.get ok (List.getElem?_eq_getElem hj)
    rw [hT] at q2
    cases q2
    refine ⟨fun i hi => q3.off a ha ⟨i, hi⟩, q3.live a ha, ?_⟩
    cases e : rs[j] with
    | own s => rw [e] at q3; exact (q3.2.2 a ha).1
    | bor i => rw [e] at q3; rw [q3.2] at ha; cases ha
    | lent i w k => rw [e] at q3; exact (q3.2 a ha).1
  have gA : Good K [] B H (vs.map some) (ss.map some) fsA := by
    refine ⟨g.ext, by simp [hvl, hl], fun j s h => ?_, fun j h => ?_, fun j j' a h1 h2 => ?_, fun j a h => ?_⟩
    · rw [List.getElem?_map] at h
      cases q : ss[j]? with
      | none => rw [q] at h; cases h
      | some s' =>
        rw [q] at h
        cases h
        obtain ⟨r, h1, h2⟩ := hg j s q
        obtain ⟨v, T, q1, q2, q3⟩ := RsAll.get ok h1
        have f := fA j
        rw [h1] at f
        cases r with
        | own s0 =>
          cases h2
          refine ⟨v, by rw [List.getElem?_map, q1]; rfl, ?_, fun k hk => by rw [q3.2.1] at hk; cases hk⟩
          have e : fsA j = T := by
            rw [show fsA j = Ts.getD j [] from f, List.getD_eq_getElem?_getD, q2]
            rfl
          rw [e]
          exact q3.1
        | bor i =>
          unfold argR at h2
          dsimp only at h2
          split at h2
          · rename_i s0 e0
            cases h2
            obtain ⟨v', w1, w2, _⟩ := g.at_ i s0 e0
            have hv : σ[i]? = some (some v) := q3.1
            rw [hv] at w1
            cases w1
            refine ⟨v, by rw [List.getElem?_map, q1]; rfl, ?_, fun k hk => by rw [Sl.bare_tag] at hk; cases hk⟩
            rw [show fsA j = fs i from f]
            exact w2.bare
          · cases h2
        | lent i w k =>
          obtain ⟨v0, v', c, z1, z2, z3, z4, z5, z6⟩ := f
          rw [q1] at z2
          cases z2
          unfold argR at h2
          dsimp only at h2
          split at h2
          · rw [z3] at h2
            cases h2
            exact ⟨v, by rw [List.getElem?_map, q1]; rfl, z4.bare, fun k hk => by rw [Sl.bare_tag] at hk; cases hk⟩
          · cases h2
    · have hj : ¬ j < ss.length := fun hj => h ss[j] (by rw [List.getElem?_map, List.getElem?_eq_getElem hj]; rfl)
      have f := fA j
      rw [List.getElem?_eq_none (by omega)] at f
      exact f
    · rcases wh j a h1 with ⟨i, q1, q2⟩ | ⟨T, q1, q2, _⟩
      · rcases wh j' a h2 with ⟨i', w1, w2⟩ | ⟨T', w1, w2, _⟩
        · have := g.dis i i' a q2 w2
          subst this
          exact roots_inj hnd q1 rfl w1 rfl
        · exact ((offT j' T' a w1 w2).1 i q2).elim
      · rcases wh j' a h2 with ⟨i', w1, w2⟩ | ⟨T', w1, w2, _⟩
        · exact ((offT j T a q1 q2).1 i' w2).elim
        · exact flat_injL nd q1 w1 q2 w2
    · rcases wh j a h with ⟨i, q1, q2⟩ | ⟨T, q1, q2, _⟩
      · exact g.out i a q2
      · exact (offT j T a q1 q2).2.2
  refine ⟨fsA, gA, fun s hs => ?_, hvl, fun ss' B' H' fsB T fr gB okB => ?_⟩
  · obtain ⟨j, hj⟩ := List.getElem?_of_mem hs
    obtain ⟨r, h1, h2⟩ := hg j s hj
    cases r with
    | own s0 =>
      cases h2
      obtain ⟨v, T, q1, q2, q3⟩ := RsAll.get ok h1
      exact q3.2.1
    | bor i =>
      unfold argR at h2
      dsimp only at h2
      split at h2
      · cases h2; exact Sl.bare_tag _
      · cases h2
    | lent i w k =>
      unfold argR at h2
      dsimp only at h2
      split at h2
      · cases e : w.kid k with
        | none => rw [e] at h2; cases h2
        | some c => rw [e] at h2; cases h2; exact Sl.bare_tag _
      · cases h2
  -- an address of an argument that the callee was given
  have inA : ∀ (p : Nat) (T1 : List Addr) (a : Addr), Ts[p]? = some T1 → a ∈ T1 → ∀ q, a ∈ fsA q → q = p := fun p T1 a hT ha q hq => by
    rcases wh q a hq with ⟨i, _, h2⟩ | ⟨T2, h1, h2, _⟩
    · exact ((offT p T1 a hT ha).1 i h2).elim
    · exact flat_injL nd h1 hT h2 ha
  have live : ∀ a, UnF (InF fsB) T a → InF fsA a ∨ H a = none := fun a h => fr.own a h
  have hl' : ss'.length = rs.length := by
    have := gB.len
    simp at this
    omega
  -- what is left of a lent thing keeps off
  have rest : ∀ (p : Nat) (T1 : List Addr) (a : Addr), Ts[p]? = some T1 → a ∈ T1 → a ∉ fsA p → ¬ InF fsA a ∧ ¬ UnF (InF fsB) T a := fun p T1 a hT ha hn => by
    have h1 : ¬ InF fsA a := fun ⟨q, hq⟩ => hn (by rw [← inA p T1 a hT ha q hq]; exact hq)
    refine ⟨h1, fun h => ?_⟩
    rcases live a h with h | h
    · exact h1 h
    · exact (offT p T1 a hT ha).2.1 h
  -- the whole behind the call
  have whole : ∀ (j i : Nat) (w : Sl) (k : Nat), rs[j]? = some (.lent i w k) → ∃ (v0 : V) (c' : Sl) (T2 : List Addr), σ[i]? = some (some v0) ∧ ss'[j]? = some c' ∧ Own K B' H' v0 (w.setKid k c') T2 ∧ ∀ a ∈ T2, (a ∈ Ts.getD j [] ∧ a ∉ fsA j) ∨ a ∈ fsB j := fun j i w k q => by
    have f := fA j
    rw [q] at f
    obtain ⟨v0, v, c, z1, z2, z3, z4, z5, z6⟩ := f
    have hj : j < ss'.length := by rw [hl']; exact (List.getElem?_eq_some_iff.mp q).1
    obtain ⟨v', y1, y2, _⟩ := gB.at_ j ss'[j] (by rw [List.getElem?_map, List.getElem?_eq_getElem hj]; rfl)
    rw [List.getElem?_map, z2] at y1
    have y1 : v = v' := by simpa using y1
    subst y1
    have hT : ∃ T1, Ts[j]? = some T1 := by
      have : j < Ts.length := by rw [RsAll.lenT ok]; exact (List.getElem?_eq_some_iff.mp q).1
      exact ⟨_, List.getElem?_eq_getElem this⟩
    obtain ⟨T1, hT⟩ := hT
    have eT : Ts.getD j [] = T1 := by rw [List.getD_eq_getElem?_getD, hT]; rfl
    obtain ⟨T2, x1, x2⟩ := z6 (B' := B') (H' := H') fr.bb (fun a ha hn => by
      rw [eT] at ha
      exact fr.keep a (offT j T1 a hT ha).2.1 (rest j T1 a hT ha hn).1) y2 (fun a ha ht => by
      rw [eT] at ht
      rcases live a (Or.inl ⟨j, ha⟩) with ⟨q', h⟩ | h
      · rw [inA j T1 a hT ht q' h] at h; exact h
      · exact ((offT j T1 a hT ht).2.1 h).elim)
    exact ⟨v0, ss'[j], T2, z1, List.getElem?_eq_getElem hj, x1, x2⟩
  let ftB : Nat → List Addr := fun j => match rs[j]? with
    | some (.lent i w k) => if h : ∃ (v0 : V) (c' : Sl) (T2 : List Addr), σ[i]? = some (some v0) ∧ ss'[j]? = some c' ∧ Own K B' H' v0 (w.setKid k c') T2 ∧ ∀ a ∈ T2, (a ∈ Ts.getD j [] ∧ a ∉ fsA j) ∨ a ∈ fsB j then Classical.choose (Classical.choose_spec (Classical.choose_spec h)) else []
    | _ => fsB j
  have ftL : ∀ (j i : Nat) (w : Sl) (k : Nat), rs[j]? = some (.lent i w k) → ∃ (v0 : V) (c' : Sl), σ[i]? = some (some v0) ∧ ss'[j]? = some c' ∧ Own K B' H' v0 (w.setKid k c') (ftB j) ∧ ∀ a ∈ ftB j, (a ∈ Ts.getD j [] ∧ a ∉ fsA j) ∨ a ∈ fsB j := fun j i w k q => by
    have h := whole j i w k q
    have e : ftB j = Classical.choose (Classical.choose_spec (Classical.choose_spec h)) := by
      show (match rs[j]? with
        | some (.lent i w k) => if h : ∃ (v0 : V) (c' : Sl) (T2 : List Addr), σ[i]? = some (some v0) ∧ ss'[j]? = some c' ∧ Own K B' H' v0 (w.setKid k c') T2 ∧ ∀ a ∈ T2, (a ∈ Ts.getD j [] ∧ a ∉ fsA j) ∨ a ∈ fsB j then Classical.choose (Classical.choose_spec (Classical.choose_spec h)) else []
        | _ => fsB j) = _
      rw [q]
      dsimp only
      rw [dif_pos h]
    rw [e]
    exact ⟨_, _, Classical.choose_spec (Classical.choose_spec (Classical.choose_spec h))⟩
  have ftO : ∀ (j : Nat) (r : Rs), rs[j]? = some r → (∀ i w k, r ≠ .lent i w k) → ftB j = fsB j := fun j r q hr => by
    show (match rs[j]? with
      | some (.lent i w k) => if h : ∃ (v0 : V) (c' : Sl) (T2 : List Addr), σ[i]? = some (some v0) ∧ ss'[j]? = some c' ∧ Own K B' H' v0 (w.setKid k c') T2 ∧ ∀ a ∈ T2, (a ∈ Ts.getD j [] ∧ a ∉ fsA j) ∨ a ∈ fsB j then Classical.choose (Classical.choose_spec (Classical.choose_spec h)) else []
      | _ => fsB j) = _
    rw [q]
    cases r with
    | own s => rfl
    | bor i => rfl
    | lent i w k => exact (hr i w k rfl).elim
  -- an address behind the call: of the callee's, or what was left of a lent thing
  have whB : ∀ (j : Nat) (a : Addr), j < rs.length → a ∈ ftB j → a ∈ fsB j ∨ ∃ T1, Ts[j]? = some T1 ∧ a ∈ T1 ∧ a ∉ fsA j := fun j a hj h => by
    have q := List.getElem?_eq_getElem hj
    by_cases hr : ∃ i w k, rs[j] = .lent i w k
    · obtain ⟨i, w, k, e⟩ := hr
      rw [e] at q
      obtain ⟨v0, c', _, _, _, h4⟩ := ftL j i w k q
      rcases h4 a h with ⟨h5, h6⟩ | h5
      · rw [List.getD_eq_getElem?_getD] at h5
        cases e2 : Ts[j]? with
        | none => rw [e2] at h5; cases h5
        | some T1 => rw [e2] at h5; exact Or.inr ⟨T1, rfl, h5, h6⟩
      · exact Or.inl h5
    · rw [ftO j _ q fun i w k e => hr ⟨i, w, k, e⟩] at h
      exact Or.inl h
  let fs2 : Nat → List Addr := fun i => if h : ∃ (k : Nat) (r : Rs), rs[k]? = some r ∧ r.root = some i then ftB (Classical.choose h) else fs i
  have f2in : ∀ {i k : Nat} {r : Rs}, rs[k]? = some r → r.root = some i → fs2 i = ftB k := fun {i k r} h hr => by
    have hx : ∃ (k : Nat) (r : Rs), rs[k]? = some r ∧ r.root = some i := ⟨k, r, h, hr⟩
    show (if h : ∃ (k : Nat) (r : Rs), rs[k]? = some r ∧ r.root = some i then ftB (Classical.choose h) else fs i) = ftB k
    rw [dif_pos hx]
    obtain ⟨r', q1, q2⟩ := Classical.choose_spec hx
    rw [roots_inj hnd q1 q2 h hr]
  have f2out : ∀ {i : Nat}, (¬ ∃ (k : Nat) (r : Rs), rs[k]? = some r ∧ r.root = some i) → fs2 i = fs i := fun {i} h => by
    show (if h : ∃ (k : Nat) (r : Rs), rs[k]? = some r ∧ r.root = some i then ftB (Classical.choose h) else fs i) = fs i
    rw [dif_neg h]
  have notA : ∀ {i a}, (¬ ∃ (k : Nat) (r : Rs), rs[k]? = some r ∧ r.root = some i) → a ∈ fs i → ¬ InF fsA a := fun {i a} h hi ⟨j, hj⟩ => by
    rcases wh j a hj with ⟨i', q1, q2⟩ | ⟨T1, q1, q2, _⟩
    · have := g.dis i i' a hi q2
      subst this
      exact h ⟨j, _, q1, rfl⟩
    · exact (offT j T1 a q1 q2).1 i hi
  have notB : ∀ {i a}, (¬ ∃ (k : Nat) (r : Rs), rs[k]? = some r ∧ r.root = some i) → a ∈ fs i → ¬ UnF (InF fsB) T a := fun {i a} h hi f => by
    rcases live a f with q | q
    · exact notA h hi q
    · exact g.lives hi q
  have len_of : ∀ {k : Nat} {r : Rs}, rs[k]? = some r → k < rs.length := fun h => (List.getElem?_eq_some_iff.mp h).1
  have notF : ∀ {i j : Nat} {a : Addr}, (¬ ∃ (k : Nat) (r : Rs), rs[k]? = some r ∧ r.root = some i) → a ∈ fs i → j < rs.length → a ∉ ftB j := fun {i j a} h hi hj hf => by
    rcases whB j a hj hf with q | ⟨T1, q1, q2, _⟩
    · exact notB h hi (Or.inl ⟨j, q⟩)
    · exact (offT j T1 a q1 q2).1 i hi
  have gd2 : Good K vs0 B' H' σ (wbL rs ss' ρ) fs2 := by
    refine ⟨gB.ext, by rw [wbL_len]; exact g.len, fun i s h => ?_, fun i h => ?_, fun i j a h1 h2 => ?_, fun i a h => ?_⟩
    · by_cases hx : ∃ (k : Nat) (r : Rs), rs[k]? = some r ∧ r.root = some i
      · obtain ⟨j, r, hj, hr⟩ := hx
        have hj' : j < ss'.length := by rw [hl']; exact len_of hj
        have hs' : ss'[j]? = some ss'[j] := List.getElem?_eq_getElem hj'
        have hj2 : j < ss.length := by rw [hl]; exact len_of hj
        obtain ⟨r', a1, a2⟩ := hg j ss[j] (List.getElem?_eq_getElem hj2)
        rw [hj] at a1
        cases a1
        have hold : ∃ s0, ρ[i]? = some (some s0) := by
          cases r with
          | own _ => cases hr
          | bor i' =>
            cases hr
            unfold argR at a2
            dsimp only at a2
            split at a2
            · rename_i s0 e0; exact ⟨s0, e0⟩
            · cases a2
          | lent i' w k =>
            cases hr
            unfold argR at a2
            dsimp only at a2
            split at a2
            · rename_i t e0; exact ⟨_, e0⟩
            · cases a2
        obtain ⟨s0, hs0⟩ := hold
        rw [wbL_in hnd hj hr hs' (List.getElem?_eq_some_iff.mp hs0).1] at h
        cases h
        obtain ⟨v3, b1, _, b3⟩ := g.at_ i s0 hs0
        have tg : ∀ q, (r.back ss'[j] (tagAt ρ i)).tag = some q → vs0[q]? = some v3 := fun q hq => by
          have ht := Rs.back_tag hq
          unfold tagAt at ht
          rw [hs0] at ht
          exact b3 q ht
        by_cases hlt : ∃ i' w k, r = .lent i' w k
        · obtain ⟨i', w, k, rfl⟩ := hlt
          cases hr
          obtain ⟨v0, c', c1, c2, c3, _⟩ := ftL j i w k hj
          rw [c1] at b1
          cases b1
          rw [hs'] at c2
          cases c2
          exact ⟨_, c1, by rw [f2in hj rfl]; exact c3.retag', tg⟩
        · obtain ⟨v1, q1, q2, _⟩ := gB.at_ j _ (by rw [List.getElem?_map, hs']; rfl)
          obtain ⟨v2, T2, w1, w2, w3⟩ := RsAll.get ok hj
          rw [List.getElem?_map, w1] at q1
          have q1 : v2 = v1 := by simpa using q1
          subst q1
          have hv : σ[i]? = some (some v2) := by
            cases r with
            | own _ => cases hr
            | bor i' => cases hr; exact w3.1
            | lent i' w k => exact (hlt ⟨i', w, k, rfl⟩).elim
          rw [hv] at b1
          cases b1
          refine ⟨_, hv, ?_, tg⟩
          rw [f2in hj hr, ftO j r hj fun i w k e => hlt ⟨i, w, k, e⟩]
          exact Own.back (fun i w k e => hlt ⟨i, w, k, e⟩) q2
      · rw [wbL_out _ _ _ (fun q => hx (mem_roots.mp q))] at h
        obtain ⟨v1, q1, q2, q3⟩ := g.at_ i s h
        refine ⟨v1, q1, ?_, q3⟩
        rw [f2out hx]
        exact q2.keep fr.bb fun a ha => fr.keep a (g.lives ha) (notA hx ha)
    · by_cases hx : ∃ (k : Nat) (r : Rs), rs[k]? = some r ∧ r.root = some i
      · obtain ⟨j, r, hj, hr⟩ := hx
        have hj' : j < ss'.length := by rw [hl']; exact len_of hj
        have hj2 : j < ss.length := by rw [hl]; exact len_of hj
        obtain ⟨r', a1, a2⟩ := hg j ss[j] (List.getElem?_eq_getElem hj2)
        rw [hj] at a1
        cases a1
        have hi : i < ρ.length := by
          cases r with
          | own _ => cases hr
          | bor i' =>
            cases hr
            unfold argR at a2
            dsimp only at a2
            split at a2
            · rename_i s0 e0; exact (List.getElem?_eq_some_iff.mp e0).1
            · cases a2
          | lent i' w k =>
            cases hr
            unfold argR at a2
            dsimp only at a2
            split at a2
            · rename_i t e0; exact (List.getElem?_eq_some_iff.mp e0).1
            · cases a2
        exact (h _ (wbL_in hnd hj hr (List.getElem?_eq_getElem hj') hi)).elim
      · rw [f2out hx]
        rw [wbL_out _ _ _ (fun q => hx (mem_roots.mp q))] at h
        exact g.emp i h
    · by_cases hx : ∃ (k : Nat) (r : Rs), rs[k]? = some r ∧ r.root = some i
      · obtain ⟨p, r, hp, hr⟩ := hx
        rw [f2in hp hr] at h1
        by_cases hy : ∃ (k : Nat) (r : Rs), rs[k]? = some r ∧ r.root = some j
        · obtain ⟨q, r', hq, hr'⟩ := hy
          rw [f2in hq hr'] at h2
          have : p = q := by
            rcases whB p a (len_of hp) h1 with x | ⟨T1, x1, x2, x3⟩
            · rcases whB q a (len_of hq) h2 with y | ⟨T2, y1, y2, y3⟩
              · exact gB.dis p q a x y
              · exact ((rest q T2 a y1 y2 y3).2 (Or.inl ⟨p, x⟩)).elim
            · rcases whB q a (len_of hq) h2 with y | ⟨T2, y1, y2, y3⟩
              · exact ((rest p T1 a x1 x2 x3).2 (Or.inl ⟨q, y⟩)).elim
              · exact flat_injL nd x1 y1 x2 y2
          subst this
          rw [hp] at hq
          cases hq
          rw [hr] at hr'
          cases hr'
          rfl
        · rw [f2out hy] at h2
          exact (notF hy h2 (len_of hp) h1).elim
      · rw [f2out hx] at h1
        by_cases hy : ∃ (k : Nat) (r : Rs), rs[k]? = some r ∧ r.root = some j
        · obtain ⟨q, r', hq, hr'⟩ := hy
          rw [f2in hq hr'] at h2
          exact (notF hx h1 (len_of hq) h2).elim
        · rw [f2out hy] at h2
          exact g.dis i j a h1 h2
    · by_cases hx : ∃ (k : Nat) (r : Rs), rs[k]? = some r ∧ r.root = some i
      · obtain ⟨p, r, hp, hr⟩ := hx
        rw [f2in hp hr] at h
        rcases whB p a (len_of hp) h with x | ⟨T1, x1, x2, x3⟩
        · exact gB.out p a x
        · exact fr.bnew a (offT p T1 a x1 x2).2.1 (rest p T1 a x1 x2 x3).1 (offT p T1 a x1 x2).2.2
      · rw [f2out hx] at h
        exact fr.bnew a (g.lives h) (notA hx h) (g.out i a h)
  have w1 : ∀ a, InF fsA a → UnF (InF fs) Ts.flatten a := by
    rintro a ⟨j, hj⟩
    rcases wh j a hj with ⟨i, q1, q2⟩ | ⟨T1, q1, q2, _⟩
    · exact Or.inl ⟨i, q2⟩
    · exact Or.inr (List.mem_flatten.mpr ⟨T1, List.mem_of_getElem? q1, q2⟩)
  have w2 : ∀ a, UnF (InF fs2) T a → UnF (InF fsB) T a ∨ UnF (InF fs) Ts.flatten a ∨ H a = none := by
    rintro a h
    rcases h with ⟨i, hi⟩ | h
    · by_cases hx : ∃ (k : Nat) (r : Rs), rs[k]? = some r ∧ r.root = some i
      · obtain ⟨p, r, hp, hr⟩ := hx
        rw [f2in hp hr] at hi
        rcases whB p a (len_of hp) hi with x | ⟨T1, x1, x2, x3⟩
        · exact Or.inl (Or.inl ⟨p, x⟩)
        · exact Or.inr (Or.inl (Or.inr (List.mem_flatten.mpr ⟨T1, List.mem_of_getElem? x1, x2⟩)))
      · rw [f2out hx] at hi
        exact Or.inr (Or.inl (Or.inl ⟨i, hi⟩))
    · exact Or.inl (Or.inr h)
  refine ⟨fs2, fr.weak w1 w2, gd2, fun a haT => ⟨(okB a haT).1, fun i hi => ?_⟩⟩
  by_cases hx : ∃ (k : Nat) (r : Rs), rs[k]? = some r ∧ r.root = some i
  · obtain ⟨p, r, hp, hr⟩ := hx
    rw [f2in hp hr] at hi
    rcases whB p a (len_of hp) hi with x | ⟨T1, x1, x2, x3⟩
    · exact (okB a haT).2 p x
    · exact (rest p T1 a x1 x2 x3).2 (Or.inr haT)
  · rw [f2out hx] at hi
    exact notB hx hi (Or.inr haT)
end
end Pd

set_option Elab.async false
set_option linter.all false
set_option maxRecDepth 100000
set_option maxHeartbeats 2000000
namespace Pd
open PySem PySem.Spec PyProof.Rows L2
/-! ### a dict that is walked -/
mutual
def Sl.nofd : Sl → Bool
  | .mr _ l => nofdL l
  | .ob _ _ _ l => nofdL l
  | .fd _ => false
  | _ => true
def nofdL : List Sl → Bool
  | [] => true
  | s :: r => s.nofd && nofdL r
end
def nofdE : Env → Bool
  | [] => true
  | some s :: r => s.nofd && nofdE r
  | none :: r => nofdE r
theorem nofdE_at : ∀ {ρ : Env} {i : Nat} {s : Sl}, nofdE ρ = true → ρ[i]? = some (some s) → s.nofd = true
  | [], i, s, _, h => by simp at h
  | none :: r, i, s, e, h => by
    cases i with
    | zero => simp at h
    | succ i => exact nofdE_at (ρ := r) e (by simpa using h)
  | some q :: r, i, s, e, h => by
    unfold nofdE at e
    rw [Bool.and_eq_true] at e
    cases i with
    | zero => simp at h; subst h; exact e.1
    | succ i => exact nofdE_at (ρ := r) e.2 (by simpa using h)
def dropA (B : Hp) (a : Addr) : Hp := fun b => if b = a then none else B b
theorem dropA_ne {B : Hp} {a b : Addr} (h : b ≠ a) : dropA B a b = B b := by unfold dropA; rw [if_neg h]
theorem dropA_same {B : Hp} {a : Addr} : dropA B a a = none := by unfold dropA; rw [if_pos rfl]
theorem dropA_at {B : Hp} {a b : Addr} {u : HO} (h : dropA B a b = some u) : b ≠ a ∧ B b = some u := by
  unfold dropA at h
  split at h
  · cases h
  · rename_i n
    exact ⟨n, h⟩
section
variable {K : PySem.W.Frag} {B H H' : Hp} {a : Addr} {ks : List (Key × V)} {o : Obj}
theorem rd_drop (ha : B a = some (.frz o (.dK ks))) {b : Addr} {u : HO} (hu : ∀ k, u ≠ .dK k) (hf : ∀ o' k, u ≠ .frz o' (.dK k)) (h : Rd B b u) : Rd (dropA B a) b u := by
  rcases h with h | ⟨o', h⟩
  · have n : b ≠ a := fun e => by rw [e, ha] at h; cases h; exact hf _ _ rfl
    exact Or.inl (by rw [dropA_ne n]; exact h)
  · have n : b ≠ a := fun e => by rw [e, ha] at h; cases h; exact hu _ rfl
    exact Or.inr ⟨o', by rw [dropA_ne n]; exact h⟩
theorem sql_drop (ha : B a = some (.frz o (.dK ks))) {b : Addr} {xs : List V} (h : SqL K B b xs) : SqL K (dropA B a) b xs := by
  rcases h with h | h
  · exact Or.inl (rd_drop ha (fun k q => by cases q) (fun o' k q => by cases q) h)
  · exact Or.inr h
theorem sqt_drop (ha : B a = some (.frz o (.dK ks))) {b : Addr} {xs : List V} (h : SqT K B b xs) : SqT K (dropA B a) b xs := by
  rcases h with h | h
  · exact Or.inl (rd_drop ha (fun k q => by cases q) (fun o' k q => by cases q) h)
  · exact Or.inr h
mutual
theorem Dp.drop (ha : B a = some (.frz o (.dK ks))) : ∀ {d : PyData} {v : V}, Dp K B v d → Dp K (dropA B a) v d
  | .none, _, h => by cases h; exact .non
  | .bool b, _, h => by cases h; exact .bl b
  | .int i, _, h => by cases h; exact .int i
  | .str x, _, h => by cases h; exact .str x
  | .list ds, _, h => by
    cases h with
    | lst h1 h2 => exact .lst (sql_drop ha h1) (DpAll.dropB ha h2)
  | .tuple ds, _, h => by
    cases h with
    | tup h1 h2 => exact .tup (sqt_drop ha h1) (DpAll.dropB ha h2)
  | .dict _, _, h => by cases h
theorem DpAll.dropB (ha : B a = some (.frz o (.dK ks))) : ∀ {ds : List PyData} {vs : List V}, DpAll K B vs ds → DpAll K (dropA B a) vs ds
  | [], _, h => by cases h; exact .nil
  | d :: ds, _, h => by
    cases h with
    | cons h1 h2 => exact .cons (Dp.drop ha h1) (DpAll.dropB ha h2)
end
theorem KvD.drop (ha : B a = some (.frz o (.dK ks))) {kvs : List (Key × V)} {l : List (Key × D)} (h : KvD K B kvs l) : KvD K (dropA B a) kvs l :=
  Paired.mapP h fun p q r => ⟨r.1, Dp.drop ha r.2⟩
theorem ExIs.drop (ha : B a = some (.frz o (.dK ks))) {v : V} {c : Str} : ∀ {f : Option (Str × D)}, ExIs K B v c f → ExIs K (dropA B a) v c f
  | none, h => by
    obtain ⟨b, C, h1, h2, h3⟩ := h
    have n : b ≠ a := fun e => by rw [e, ha] at h3; cases h3
    exact ⟨b, C, h1, h2, by rw [dropA_ne n]; exact h3⟩
  | some (x, d), h => by
    rcases h with ⟨h0, b, C, dx, u, h1, h2, h3, h4, h5⟩ | ⟨h0, b, o, ys, l, h1, h2, h3, h4, h5⟩
    · have n : b ≠ a := fun e => by rw [e, ha] at h3; cases h3
      have n2 : dx ≠ a := fun e => by rw [e, ha] at h4; cases h4
      exact Or.inl ⟨h0, b, C, dx, u, h1, h2, by rw [dropA_ne n]; exact h3, by rw [dropA_ne n2]; exact h4, Dp.drop ha h5⟩
    · have n : b ≠ a := fun e => by rw [e, ha] at h2; cases h2
      exact Or.inr ⟨h0, b, o, ys, l, h1, by rw [dropA_ne n]; exact h2, h3, h4, DpAll.dropB ha h5⟩
mutual
theorem Own.dropA (ha : B a = some (.frz o (.dK ks))) : ∀ {s : Sl} {v : V} {T : List Addr}, s.nofd = true → Own K B H v s T → (∀ b ∈ T, H' b = H b) → Own K (dropA B a) H' v s T
  | .p d, v, T, _, h, k => ⟨Dp.drop ha h.1, h.2⟩
  | .ml t l, v, T, _, h, k => by
    obtain ⟨a, xs, rfl, rfl, h1, h2⟩ := h
    exact ⟨a, xs, rfl, rfl, by rw [k a (by simp)]; exact h1, DpAll.dropB ha h2⟩
  | .md t l, v, T, _, h, k => by
    obtain ⟨a, xs, rfl, rfl, h1, h2⟩ := h
    exact ⟨a, xs, rfl, rfl, by rw [k a (by simp)]; exact h1, KvD.drop ha h2⟩
  | .mr t l, v, T, n, h, k => by
    obtain ⟨a, xs, Ts, rfl, rfl, h1, h2, h3⟩ := h
    exact ⟨a, xs, Ts, rfl, rfl, by rw [k a (by simp)]; exact h1, OwnL.dropA ha n h2 (fun b hb => k b (List.mem_cons_of_mem _ hb)), h3⟩
  | .ob t c ns l, v, T, n, h, k => by
    obtain ⟨a, dx, C, vs, Ts, rfl, rfl, h1, h2, h3, h4, h5, h6⟩ := h
    exact ⟨a, dx, C, vs, Ts, rfl, rfl, h1, by rw [k a (by simp)]; exact h2, h3, by rw [k dx (by simp)]; exact h4, OwnL.dropA ha n h5 (fun b hb => k b (List.mem_cons_of_mem _ (List.mem_cons_of_mem _ hb))), h6⟩
  | .ex c f, v, T, _, h, k => ⟨ExIs.drop ha h.1, h.2⟩
  | .fd l, v, T, n, h, k => by cases n
  | .hl _, v, T, _, h, k => h
theorem OwnL.dropA (ha : B a = some (.frz o (.dK ks))) : ∀ {ss : List Sl} {vs : List V} {Ts : List (List Addr)}, nofdL ss = true → OwnL K B H vs ss Ts → (∀ b ∈ Ts.flatten, H' b = H b) → OwnL K (dropA B a) H' vs ss Ts
  | [], [], [], _, _, _ => True.intro
  | s :: ss, v :: vs, T :: Ts, n, h, k => by
    unfold nofdL at n
    rw [Bool.and_eq_true] at n
    exact ⟨Own.dropA ha n.1 h.1 (fun a ha => k a (by rw [List.flatten_cons]; exact List.mem_append_left _ ha)), OwnL.dropA ha n.2 h.2 (fun a ha => k a (by rw [List.flatten_cons]; exact List.mem_append_right _ ha))⟩
  | [], [], _ :: _, _, h, _ => h.elim
  | [], _ :: _, _, _, h, _ => h.elim
  | _ :: _, [], _, _, h, _ => h.elim
  | _ :: _, _ :: _, [], _, h, _ => h.elim
end
end
def eLock (j : Nat) (f : M Rs) : M Rs := fun ρ => match ρ[j]? with
  | some (some (.md t l)) => match f (ρ.set j (some (.fd l))) with
    | some (.ok (.own s) ρ1) => if s.nofd = true ∧ s.tag = none ∧ nofdE (ρ1.set j none) = true then some (.ok (.own s) (ρ1.set j (some (.md t l)))) else none
    | _ => none
  | some (some (.fd _)) => f ρ
  | _ => none
theorem PE.or {X : Cx} {e : Expr} {t t' : TE} (h : PE X e t) (h' : PE X e t') : PE X e (fun σ H Q => t σ H Q ∨ t' σ H Q) := ⟨fun pins s σ H Q I q => by
  rcases q with q | q
  · exact h.run pins s σ H Q I q
  · exact h'.run pins s σ H Q I q⟩
section
variable {K : PySem.W.Frag} {vs0 : List V}
theorem rd_lock {j : Nat} {f : M Rs} {σ : L2.St} {H : Hp} {Q : VK} (q : rdE K vs0 (eLock j f) σ H Q) : tLockE (rdE K vs0 f) σ H Q ∨ rdE K vs0 f σ H Q := by
  obtain ⟨B, ρ, fs, g, r, ρ', e1, k⟩ := q
  unfold eLock at e1
  split at e1
  · rename_i t l e0
    split at e1
    · rename_i s ρ1 e2
      split at e1
      · rename_i hc
        obtain ⟨c1, c2, c3⟩ := hc
        cases e1
        left
        obtain ⟨v0, z1, z2, z3⟩ := g.at_ j _ e0
        obtain ⟨a, ks, rfl, eT, h1, h2⟩ := z2
        have hj : j < ρ.length := (List.getElem?_eq_some_iff.mp e0).1
        have ain : a ∈ fs j := by rw [eT]; simp
        have hBa : B a = none := g.out j a ain
        refine ⟨a, .dK ks, h1, ?_, fun od => ?_⟩
        · trivial
        have sB : Same B (upd B a (.frz od (.dK ks))) := fun b u e => by
          rw [upd_ne (fun q => by rw [q, hBa] at e; cases e)]
          exact e
        have gl : Good K vs0 (upd B a (.frz od (.dK ks))) (upd H a (.frz od (.dK ks))) σ (ρ.set j (some (.fd l))) (fun i => if i = j then [] else fs i) := {
          ext := same_upd g.ext
          len := by rw [List.length_set]; exact g.len
          at_ := fun i s' h => by
            by_cases e : i = j
            · subst e
              rw [List.getElem?_set_self hj] at h
              cases h
              refine ⟨_, z1, ⟨⟨a, ks, od, rfl, upd_same, h2.mono sB⟩, if_pos rfl⟩, fun k hk => by cases hk⟩
            · rw [List.getElem?_set_ne (Ne.symm e)] at h
              obtain ⟨v', y1, y2, y3⟩ := g.at_ i s' h
              refine ⟨v', y1, ?_, y3⟩
              rw [if_neg e]
              exact y2.keep sB fun b hb => upd_ne fun q => e (g.dis i j a (q ▸ hb) ain)
          emp := fun i h => by
            by_cases e : i = j
            · rw [if_pos e]
            · rw [if_neg e]
              exact g.emp i fun s' q => h s' (by rw [List.getElem?_set_ne (Ne.symm e)]; exact q)
          dis := fun i i' b hb hb' => by
            by_cases e : i = j
            · rw [if_pos e] at hb; cases hb
            · by_cases e' : i' = j
              · rw [if_pos e'] at hb'; cases hb'
              · rw [if_neg e] at hb; rw [if_neg e'] at hb'; exact g.dis i i' b hb hb'
          out := fun i b hb => by
            by_cases e : i = j
            · rw [if_pos e] at hb; cases hb
            · rw [if_neg e] at hb
              rw [upd_ne (show b ≠ a from fun q => e (g.dis i j a (q ▸ hb) ain))]
              exact g.out i b hb }
        refine ⟨_, _, _, gl, _, _, e2, fun v B2 H2 fs2 T fr g2 ok => ?_⟩
        have ha2 : B2 a = some (.frz od (.dK ks)) := fr.bb a _ upd_same
        have hH2 := g2.ext a _ ha2
        refine ⟨hH2, ?_⟩
        have sub : ∀ b, InF (fun i => if i = j then [] else fs i) b → InF fs b := fun b ⟨i, hi⟩ => by
          dsimp only at hi
          by_cases e : i = j
          · rw [if_pos e] at hi; cases hi
          · rw [if_neg e] at hi; exact ⟨i, hi⟩
        have n2 : ∀ i b, b ∈ fs2 i → b ≠ a := fun i b hb q => by
          have := g2.out i b hb
          rw [q, ha2] at this
          cases this
        have hj2 : j < ρ1.length := by rw [← g2.len, g.len]; exact hj
        have s3 : Same B (dropA B2 a) := fun b u e => by
          have n : b ≠ a := fun q => by rw [q, hBa] at e; cases e
          rw [dropA_ne n]
          exact fr.bb b u (by rw [upd_ne n]; exact e)
        have g3 : Good K vs0 (dropA B2 a) (upd H2 a (.dK ks)) σ (ρ1.set j (some (.md t l))) (fun i => if i = j then [a] else fs2 i) := {
          ext := fun b u e => by
            obtain ⟨n, e⟩ := dropA_at e
            rw [upd_ne n]
            exact g2.ext b u e
          len := by rw [List.length_set]; exact g2.len
          at_ := fun i s' h => by
            by_cases e : i = j
            · subst e
              rw [List.getElem?_set_self hj2] at h
              cases h
              exact ⟨_, z1, ⟨a, ks, rfl, if_pos rfl, upd_same, h2.mono s3⟩, z3⟩
            · rw [List.getElem?_set_ne (Ne.symm e)] at h
              obtain ⟨v', y1, y2, y3⟩ := g2.at_ i s' h
              refine ⟨v', y1, ?_, y3⟩
              rw [if_neg e]
              exact y2.dropA ha2 (nofdE_at c3 (by rw [List.getElem?_set_ne (Ne.symm e)]; exact h)) fun b hb => upd_ne (n2 i b hb)
          emp := fun i h => by
            by_cases e : i = j
            · subst e
              exact (h _ (List.getElem?_set_self hj2)).elim
            · rw [if_neg e]
              exact g2.emp i fun s' q => h s' (by rw [List.getElem?_set_ne (Ne.symm e)]; exact q)
          dis := fun i i' b hb hb' => by
            by_cases e : i = j
            · by_cases e' : i' = j
              · rw [e, e']
              · rw [if_pos e] at hb; rw [if_neg e'] at hb'
                simp at hb
                exact (n2 i' b hb' hb).elim
            · by_cases e' : i' = j
              · rw [if_neg e] at hb; rw [if_pos e'] at hb'
                simp at hb'
                exact (n2 i b hb hb').elim
              · rw [if_neg e] at hb; rw [if_neg e'] at hb'; exact g2.dis i i' b hb hb'
          out := fun i b hb => by
            by_cases e : i = j
            · rw [if_pos e] at hb
              simp at hb
              rw [hb]
              exact dropA_same
            · rw [if_neg e] at hb
              rw [dropA_ne (n2 i b hb)]
              exact g2.out i b hb }
        have nT : ∀ b ∈ T, b ≠ a := fun b hb q => by
          have := (ok.2.2 b hb).1
          rw [q, ha2] at this
          cases this
        refine k v _ _ _ T ?_ g3 ⟨ok.1.dropA ha2 c1 fun b hb => upd_ne (nT b hb), c2, fun b hb => ⟨by rw [dropA_ne (nT b hb)]; exact (ok.2.2 b hb).1, fun i hi => ?_⟩⟩
        · have H1 : ∀ {b}, b ≠ a → upd H a (HO.frz od (.dK ks)) b = H b := fun n => upd_ne n
          refine ⟨s3, fun b hb nf => ?_, fun b hb => ?_, fun b hb => ?_, fun b hb nf hB => ?_⟩
          · have n : b ≠ a := fun q => nf ⟨j, q ▸ ain⟩
            rw [upd_ne n, fr.keep b (by rw [H1 n]; exact hb) (fun q => nf (sub b q)), H1 n]
          · by_cases n : b = a
            · rw [n, upd_same]; simp
            · rw [upd_ne n]
              exact fr.live b (by rw [H1 n]; exact hb)
          · have main : UnF (InF fs2) T b → InF fs b ∨ H b = none := fun q => by
              rcases fr.own b q with q | q
              · exact Or.inl (sub b q)
              · by_cases n : b = a
                · rw [n, upd_same] at q; cases q
                · rw [H1 n] at q; exact Or.inr q
            rcases hb with ⟨i, hi⟩ | hb
            · dsimp only at hi
              by_cases e : i = j
              · rw [if_pos e] at hi
                simp at hi
                exact Or.inl ⟨j, hi ▸ ain⟩
              · rw [if_neg e] at hi
                exact main (Or.inl ⟨i, hi⟩)
            · exact main (Or.inr hb)
          · have n : b ≠ a := fun q => nf ⟨j, q ▸ ain⟩
            rw [dropA_ne n]
            exact fr.bnew b (by rw [H1 n]; exact hb) (fun q => nf (sub b q)) (by rw [upd_ne n]; exact hB)
        · dsimp only at hi
          by_cases e : i = j
          · rw [if_pos e] at hi
            simp at hi
            exact nT b hb hi
          · rw [if_neg e] at hi
            exact (ok.2.2 b hb).2 i hi
      · cases e1
    · cases e1
  · right
    exact ⟨B, ρ, fs, g, r, ρ', e1, k⟩
  · cases e1
variable {X : Cx}
theorem de_lock {j : Nat} {f : M Rs} {e : Expr} (h : PE X e (rdE X.K vs0 f)) : PE X e (rdE X.K vs0 (eLock j f)) := PE.imp (PE.or (pe_lock h) h) fun σ H Q q => rd_lock q
/-! ### its keys, its values, its pairs -/
def itemsD (l : List (Key × D)) : List D := l.map fun p => .tuple [kD p.1, p.2]
def mKeys (f : M Rs) : M (List D) := M.bind f fun r ρ => match r with
  | .own (.fd l) => some (.ok (l.map fun p => kD p.1) ρ)
  | _ => none
def mVals (f : M Rs) : M (List D) := M.bind f fun r ρ => match r with
  | .own (.fd l) => some (.ok (l.map (·.2)) ρ)
  | _ => none
def mItems (f : M Rs) : M (List D) := M.bind f fun r ρ => match r with
  | .own (.fd l) => some (.ok (itemsD l) ρ)
  | _ => none
theorem KvD.get {B : Hp} : ∀ {ks : List (Key × V)} {l : List (Key × D)} {i : Nat} {p : Key × D}, KvD K B ks l → l[i]? = some p → ∃ v, ks[i]? = some (p.1, v) ∧ Dp K B v p.2 := by
  intro ks l i p h
  unfold KvD at h
  induction h generalizing i with
  | nil => intro q; simp at q
  | @cons a b as bs h t ih =>
    intro q
    cases i with
    | zero =>
      simp at q
      subst q
      obtain ⟨a1, a2⟩ := a
      obtain ⟨h1, h2⟩ := h
      dsimp only at h1 h2
      subst h1
      exact ⟨a2, rfl, h2⟩
    | succ i => simpa using ih (i := i) (by simpa using q)
theorem jok_keys {B : Hp} {a : Addr} {o : Obj} {ks : List (Key × V)} {l : List (Key × D)} (h1 : B a = some (.frz o (.dK ks))) (h2 : KvD K B ks l) : JOk K B (Itk a o ks) (l.map fun p => kD p.1) := fun B2 H2 s1 s2 i => by
  have hq := s2 a _ (s1 a _ h1)
  refine ⟨fun d hd => ?_, fun hl => ⟨hq, by rw [h2.len]; simpa using Nat.le_of_eq hl⟩⟩
  rw [List.getElem?_map] at hd
  cases e0 : l[i]? with
  | none => rw [e0] at hd; cases hd
  | some p =>
    rw [e0] at hd
    cases hd
    obtain ⟨v, e1, e2⟩ := h2.get e0
    refine ⟨⟨hq, (List.getElem?_eq_some_iff.mp e1).1⟩, fun x H3 q => ?_⟩
    obtain ⟨rfl, k, v', q1, rfl⟩ := q
    rw [e1] at q1
    cases q1
    exact ⟨B2, Fr.refl _ _ _, s2, kD_dp _⟩
theorem jok_vals {B : Hp} {a : Addr} {o : Obj} {ks : List (Key × V)} {l : List (Key × D)} (h1 : B a = some (.frz o (.dK ks))) (h2 : KvD K B ks l) : JOk K B (Itd a o ks) (l.map (·.2)) := fun B2 H2 s1 s2 i => by
  have hq := s2 a _ (s1 a _ h1)
  refine ⟨fun d hd => ?_, fun hl => ⟨hq, by rw [h2.len]; simpa using Nat.le_of_eq hl⟩⟩
  rw [List.getElem?_map] at hd
  cases e0 : l[i]? with
  | none => rw [e0] at hd; cases hd
  | some p =>
    rw [e0] at hd
    cases hd
    obtain ⟨v, e1, e2⟩ := h2.get e0
    refine ⟨⟨hq, (List.getElem?_eq_some_iff.mp e1).1⟩, fun x H3 q => ?_⟩
    obtain ⟨rfl, k, q1⟩ := q
    rw [e1] at q1
    cases q1
    exact ⟨B2, Fr.refl _ _ _, s2, Dp.mono s1 e2⟩
theorem jok_items {B : Hp} {a : Addr} {o : Obj} {ks : List (Key × V)} {l : List (Key × D)} (h1 : B a = some (.frz o (.dK ks))) (h2 : KvD K B ks l) : JOk K B (Iti a o ks) (itemsD l) := fun B2 H2 s1 s2 i => by
  have hq := s2 a _ (s1 a _ h1)
  unfold itemsD
  refine ⟨fun d hd => ?_, fun hl => ⟨hq, by rw [h2.len]; simpa using Nat.le_of_eq hl⟩⟩
  rw [List.getElem?_map] at hd
  cases e0 : l[i]? with
  | none => rw [e0] at hd; cases hd
  | some p =>
    rw [e0] at hd
    cases hd
    obtain ⟨v, e1, e2⟩ := h2.get e0
    refine ⟨⟨hq, (List.getElem?_eq_some_iff.mp e1).1⟩, fun x H3 q => ?_⟩
    obtain ⟨T, k, v', q1, rfl, hT, rfl⟩ := q
    rw [e1] at q1
    cases q1
    exact jok_new s2 hT (.cons (kD_dp _) (.cons (Dp.mono s1 e2) .nil))
theorem own_fd {B H : Hp} {v : V} {T : List Addr} {l : List (Key × D)} (h : Own K B H v (.fd l) T) : (∃ a ks o, v = .ref a ∧ B a = some (.frz o (.dK ks)) ∧ KvD K B ks l) ∧ T = [] := h
theorem fr_nil {B H B' H' : Hp} {F : Addr → Prop} {fs : Nat → List Addr} (h : Fr B H F B' H' (UnF (InF fs) [])) : Fr B H F B' H' (InF fs) := h.weak (fun _ h => h) fun a h => Or.inl (Or.inl h)
variable {tg e : Expr} {apos cpos : Pos}
theorem di_keys {f : M Rs} (h : PE X e (rdE X.K vs0 f)) : PI X tg e (rdI X.K vs0 (mKeys f)) := PI.imp (pi_keys h) fun σ H R q => by
  obtain ⟨B, ρ, fs, g, l, ρ', e1, k⟩ := q
  obtain ⟨r, ρ1, e2, e3⟩ := M.bind_ok e1
  split at e3
  · cases e3
    refine ⟨B, ρ, fs, g, _, _, e2, fun v B1 H1 fs1 T fr g1 ok => ?_⟩
    obtain ⟨⟨a, ks, o, rfl, h1, h2⟩, rfl⟩ := own_fd ok.1
    exact ⟨a, o, rfl, Or.inl ⟨ks, g1.ext a _ h1, k _ _ _ _ (fr_nil fr) g1 (jok_keys h1 h2)⟩⟩
  · cases e3
theorem di_values {f : M Rs} (h : PE X e (rdE X.K vs0 f)) (hbase : attributeBase e "values" X.env (eval e X.env) = eval e X.env := by rfl) (hline : (apos.endLine == cpos.line) = true := by rfl) : PI X tg (.Call (.Attribute e "values" apos) [] [] cpos) (rdI X.K vs0 (mVals f)) := PI.imp (pi_values h hbase hline) fun σ H R q => by
  obtain ⟨B, ρ, fs, g, l, ρ', e1, k⟩ := q
  obtain ⟨r, ρ1, e2, e3⟩ := M.bind_ok e1
  split at e3
  · cases e3
    refine ⟨B, ρ, fs, g, _, _, e2, fun v B1 H1 fs1 T fr g1 ok => ?_⟩
    obtain ⟨⟨a, ks, o, rfl, h1, h2⟩, rfl⟩ := own_fd ok.1
    exact ⟨a, o, ks, rfl, g1.ext a _ h1, k _ _ _ _ (fr_nil fr) g1 (jok_vals h1 h2)⟩
  · cases e3
theorem di_items {elts : List Expr} {kk : Nat} {tpos : Pos} {f : M Rs} (h : PE X e (rdE X.K vs0 f)) (hbase : attributeBase e "items" X.env (eval e X.env) = eval e X.env := by rfl) (hline : (apos.endLine == cpos.line) = true := by rfl) : PI X (.Tuple elts kk tpos) (.Call (.Attribute e "items" apos) [] [] cpos) (rdI X.K vs0 (mItems f)) := PI.imp (pi_items h hbase hline) fun σ H R q => by
  obtain ⟨B, ρ, fs, g, l, ρ', e1, k⟩ := q
  obtain ⟨r, ρ1, e2, e3⟩ := M.bind_ok e1
  split at e3
  · cases e3
    refine ⟨B, ρ, fs, g, _, _, e2, fun v B1 H1 fs1 T fr g1 ok => ?_⟩
    obtain ⟨⟨a, ks, o, rfl, h1, h2⟩, rfl⟩ := own_fd ok.1
    exact ⟨a, o, ks, rfl, g1.ext a _ h1, k _ _ _ _ (fr_nil fr) g1 (jok_items h1 h2)⟩
  · cases e3
end
end Pd

set_option Elab.async false
set_option linter.all false
set_option maxRecDepth 100000
set_option maxHeartbeats 1000000
namespace Pd
open PySem PySem.Spec PyProof.Rows L2
namespace B
section
variable {ρ : Env}
def lockR (j : Nat) (t : Option Nat) (l : List (Key × D)) (Q : Rs → Env → Prop) (ρ1 : Env) : Rs → Prop
  | .own s => s.nofd = true ∧ s.tag = none ∧ nofdE (ρ1.set j none) = true ∧ Q (.own s) (ρ1.set j (some (.md t l)))
  | _ => False
@[simp] theorem lockR_own {j : Nat} {t : Option Nat} {l : List (Key × D)} {Q : Rs → Env → Prop} {ρ1 : Env} {s : Sl} : lockR j t l Q ρ1 (.own s) = (s.nofd = true ∧ s.tag = none ∧ nofdE (ρ1.set j none) = true ∧ Q (.own s) (ρ1.set j (some (.md t l)))) := rfl
def lockQ (j : Nat) (f : M Rs) (ρ : Env) (Q : Rs → Env → Prop) : Option (Option Sl) → Prop
  | some (some (.md t l)) => Ev f (ρ.set j (some (.fd l))) fun r ρ1 => lockR j t l Q ρ1 r
  | some (some (.fd _)) => Ev f ρ Q
  | _ => False
@[simp] theorem lockQ_md {j : Nat} {f : M Rs} {Q : Rs → Env → Prop} {t : Option Nat} {l : List (Key × D)} : lockQ j f ρ Q (some (some (.md t l))) = (Ev f (ρ.set j (some (.fd l))) fun r ρ1 => lockR j t l Q ρ1 r) := rfl
@[simp] theorem lockQ_fd {j : Nat} {f : M Rs} {Q : Rs → Env → Prop} {l : List (Key × D)} : lockQ j f ρ Q (some (some (.fd l))) = Ev f ρ Q := rfl
@[simp ↓] theorem ev_lock {j : Nat} {f : M Rs} {Q : Rs → Env → Prop} : Ev (eLock j f) ρ Q ↔ lockQ j f ρ Q ρ[j]? := by
  constructor
  · rintro ⟨r, ρ', e, q⟩
    unfold eLock at e
    split at e
    · rename_i t l h
      rw [h]
      split at e
      · rename_i s ρ1 e2
        split at e
        · rename_i hc
          cases e
          exact ⟨_, _, e2, hc.1, hc.2.1, hc.2.2, q⟩
        · cases e
      · cases e
    · rename_i l h
      rw [h]
      exact ⟨r, ρ', e, q⟩
    · cases e
  · intro q
    unfold lockQ at q
    split at q
    · rename_i t l h
      obtain ⟨r, ρ1, e, q⟩ := q
      unfold lockR at q
      split at q
      · rename_i s
        refine ⟨_, _, ?_, q.2.2.2⟩
        unfold eLock
        rw [h]
        dsimp only
        rw [e]
        dsimp only
        rw [if_pos ⟨q.1, q.2.1, q.2.2.1⟩]
      · exact q.elim
    · rename_i l h
      obtain ⟨r, ρ1, e, q⟩ := q
      refine ⟨r, ρ1, ?_, q⟩
      unfold eLock
      rw [h]
      exact e
    · exact q.elim
def fdQ (g : List (Key × D) → List D) (ρ : Env) (Q : List D → Env → Prop) : Rs → Prop
  | .own (.fd l) => Q (g l) ρ
  | _ => False
@[simp] theorem fdQ_fd {g : List (Key × D) → List D} {Q : List D → Env → Prop} {l : List (Key × D)} : fdQ g ρ Q (.own (.fd l)) = Q (g l) ρ := rfl
theorem ev_fdQ {g : List (Key × D) → List D} {f : M Rs} {Q : List D → Env → Prop} : Ev (M.bind f fun r ρ => match r with
  | .own (.fd l) => some (.ok (g l) ρ)
  | _ => none) ρ Q ↔ Ev f ρ fun r ρ1 => fdQ g ρ1 Q r := by
  constructor
  · rintro ⟨l, ρ', e, q⟩
    obtain ⟨r, ρ1, e1, e2⟩ := M.bind_ok e
    split at e2
    · cases e2
      exact ⟨_, _, e1, q⟩
    · cases e2
  · rintro ⟨r, ρ1, e1, q⟩
    unfold fdQ at q
    split at q
    · refine ⟨_, _, ?_, q⟩
      unfold M.bind
      rw [e1]
    · exact q.elim
@[simp ↓] theorem ev_mKeys {f : M Rs} {Q : List D → Env → Prop} : Ev (mKeys f) ρ Q ↔ Ev f ρ fun r ρ1 => fdQ (fun l => l.map fun p => kD p.1) ρ1 Q r := ev_fdQ
@[simp ↓] theorem ev_mVals {f : M Rs} {Q : List D → Env → Prop} : Ev (mVals f) ρ Q ↔ Ev f ρ fun r ρ1 => fdQ (fun l => l.map (·.2)) ρ1 Q r := ev_fdQ
@[simp ↓] theorem ev_mItems {f : M Rs} {Q : List D → Env → Prop} : Ev (mItems f) ρ Q ↔ Ev f ρ fun r ρ1 => fdQ itemsD ρ1 Q r := ev_fdQ
@[simp] theorem nofd_p {d : D} : (Sl.p d).nofd = true := rfl
@[simp] theorem nofd_ml {t : Option Nat} {l : List D} : (Sl.ml t l).nofd = true := rfl
@[simp] theorem nofd_md {t : Option Nat} {l : List (Key × D)} : (Sl.md t l).nofd = true := rfl
@[simp] theorem nofdE_nil : nofdE [] = true := rfl
@[simp] theorem nofdE_none {r : Env} : nofdE (none :: r) = nofdE r := rfl
@[simp] theorem nofdE_p {r : Env} {d : D} : nofdE (some (.p d) :: r) = nofdE r := rfl
@[simp] theorem nofdE_ml {r : Env} {t : Option Nat} {l : List D} : nofdE (some (.ml t l) :: r) = nofdE r := rfl
@[simp] theorem nofdE_md {r : Env} {t : Option Nat} {l : List (Key × D)} : nofdE (some (.md t l) :: r) = nofdE r := rfl
end
end B
end Pd

set_option Elab.async false
set_option linter.all false
set_option maxRecDepth 100000
set_option maxHeartbeats 1000000
namespace Pd
open PySem PySem.Spec PyProof.Rows L2
open B (nofd_p nofd_ml nofd_md nofdE_nil nofdE_none nofdE_p nofdE_ml nofdE_md)
section
variable {ρ : Env}
def lockR (j : Nat) (t : Option Nat) (l : List (Key × D)) (Q : Rs → Env → Prop) [Fx Q] (ρ1 : Env) (o0 : Rs) : Prop := B.lockR j t l Q ρ1 o0
@[simp] theorem lockR_own {j : Nat} {t : Option Nat} {l : List (Key × D)} {Q : Rs → Env → Prop} {ρ1 : Env} {s : Sl} : lockR j t l Q ρ1 (.own s) = (s.nofd = true ∧ s.tag = none ∧ nofdE (ρ1.set j none) = true ∧ Q (.own s) (ρ1.set j (some (.md t l)))) := B.lockR_own
def lockQ (j : Nat) (f : M Rs) (ρ : Env) (Q : Rs → Env → Prop) [Fx Q] (o0 : Option (Option Sl)) : Prop := B.lockQ j f ρ Q o0
@[simp] theorem lockQ_md {j : Nat} {f : M Rs} {Q : Rs → Env → Prop} {t : Option Nat} {l : List (Key × D)} : lockQ j f ρ Q (some (some (.md t l))) = (Ev f (ρ.set j (some (.fd l))) fun r ρ1 => lockR j t l Q ρ1 r) := B.lockQ_md
@[simp] theorem lockQ_fd {j : Nat} {f : M Rs} {Q : Rs → Env → Prop} {l : List (Key × D)} : lockQ j f ρ Q (some (some (.fd l))) = Ev f ρ Q := B.lockQ_fd
@[simp ↓] theorem ev_lock {j : Nat} {f : M Rs} {Q : Rs → Env → Prop} : Ev (eLock j f) ρ Q ↔ lockQ j f ρ Q ρ[j]? := B.ev_lock
def fdQ (g : List (Key × D) → List D) (ρ : Env) (Q : List D → Env → Prop) [Fx Q] (o0 : Rs) : Prop := B.fdQ g ρ Q o0
@[simp] theorem fdQ_fd {g : List (Key × D) → List D} {Q : List D → Env → Prop} {l : List (Key × D)} : fdQ g ρ Q (.own (.fd l)) = Q (g l) ρ := B.fdQ_fd
theorem ev_fdQ {g : List (Key × D) → List D} {f : M Rs} {Q : List D → Env → Prop} : Ev (M.bind f fun r ρ => match r with
  | .own (.fd l) => some (.ok (g l) ρ)
  | _ => none) ρ Q ↔ Ev f ρ fun r ρ1 => fdQ g ρ1 Q r := B.ev_fdQ
@[simp ↓] theorem ev_mKeys {f : M Rs} {Q : List D → Env → Prop} : Ev (mKeys f) ρ Q ↔ Ev f ρ fun r ρ1 => fdQ (fun l => l.map fun p => kD p.1) ρ1 Q r := B.ev_mKeys
@[simp ↓] theorem ev_mVals {f : M Rs} {Q : List D → Env → Prop} : Ev (mVals f) ρ Q ↔ Ev f ρ fun r ρ1 => fdQ (fun l => l.map (·.2)) ρ1 Q r := B.ev_mVals
@[simp ↓] theorem ev_mItems {f : M Rs} {Q : List D → Env → Prop} : Ev (mItems f) ρ Q ↔ Ev f ρ fun r ρ1 => fdQ itemsD ρ1 Q r := B.ev_mItems
end
end Pd


set_option Elab.async false
set_option linter.all false
set_option maxRecDepth 100000
set_option maxHeartbeats 1000000
/-! max(d.values()) -/
namespace L2
open PySem PySem.Spec PyProof.Rows PySem.W
section
variable {X : Cx} {o : Expr} {p pos apos mpos : Pos} {td : TE}
def tMaxVals (td : TE) : TE := fun σ H Q => td σ H fun x H1 => ∃ a kvs is, x = V.ref a ∧ Rd H1 a (.dK kvs) ∧ kvs.map (·.2) = is.map V.int ∧ is ≠ [] ∧ ∀ m, m ∈ is → (∀ j ∈ is, j ≤ m) → Q (.int m) H1
theorem pe_maxVals (hc : X.calm = true) (hg : Gl X "max") (hm : X.mg "max" = none) (hd : PE X o td) (hbase : attributeBase o "values" X.env (eval o X.env) = eval o X.env := by rfl) (hline : (apos.endLine == mpos.line) = true := by rfl)
    (hse : starEach [Expr.Call (.Attribute o "values" apos) [] [] mpos] X.env = [(false, eval (Expr.Call (.Attribute o "values" apos) [] [] mpos) X.env)] := by rfl) :
    PE X (.Call (.Name "max" p) [.Call (.Attribute o "values" apos) [] [] mpos] [] pos) (tMaxVals td) := by
  refine ⟨fun pins s σ H Q I h => ?_⟩
  refine wpAny_Call_Name_kw (ld_blt I hg hm (u := .builtin "max") (by first | rfl | decide +kernel) ?_ (by first | decide +kernel | decide) (by first | decide +kernel | decide))
  rw [hse]
  refine PySem.callWith_builtin1 (wpAny_Call_method0_late hbase hline (thn (hd.run pins s σ H _ I h) fun v s1 ⟨x, H1, I1, r1, a, kvs, is, ex, ha, hv, hne, q⟩ => ?_))
  subst ex
  obtain rfl : v = Value.ref a := r1
  obtain ⟨_, hsys, vs, rel, dof⟩ := dk_rd I1.hok ha
  obtain ⟨ep, dat⟩ := dof.dictAt
  have dat' := dat
  obtain ⟨ob, es, ho, ex, hdat, hko, hpr, hnd⟩ := dat'
  refine ⟨"dict", "dict.values", F.plainAttrs_dict, F.slot_dict_values, F.type_dict_values, ⟨ob, ho, ex.1⟩, fun b e => ?_, Calls.callWith_builtin rfl (PySem.evalArgs_none ?_)⟩
  · cases e
    exact ⟨ob, ho, ex.2.1⟩
  refine call_meetsIn F.slot_dict_values ⟨ob, ho, ex.1⟩ F.entry_dict_values (F.args_dict_values_1 _) (meets_dict_values (mixKind X.prog X.w) a hsys) ⟨⟨vs, dof⟩, ?_⟩
  have k1 : ∀ b u, s1.heap.get? b = some u → (s1.heap.push { cls := .type "dict_values", data := .fields #[.ref a] }).get? b = some u := fun b u e => Heap.get?_push_of_some _ e
  have dat1 : (s1.heap.push { cls := .type "dict_values", data := .fields #[.ref a] }).DictAt (mixKind X.prog X.w) a vs ep := dat.keep k1
  have hlv : vs.length = is.length := by
    have e1 := congrArg List.length hv
    rw [List.length_map, List.length_map] at e1
    rw [← e1]
    exact (KV.length rel).symm
  have hlen : 0 < vs.length := by
    rw [hlv]
    exact List.length_pos_iff.mpr hne
  have hval : ∀ (i : Nat) (v : Value), (∃ k, vs[i]? = some (k, v)) → ∃ t, v = Value.int (is.getD i 0) t := fun i v ⟨k, hk⟩ => by
    obtain ⟨x, h1, h2⟩ := KV.at' rel hk
    have e1 : (kvs.map (·.2))[i]? = some x := by rw [List.getElem?_map, h1] <;> rfl
    rw [hv, List.getElem?_map] at e1
    obtain ⟨j, hj, e2⟩ := Option.map_eq_some_iff.mp e1
    subst e2
    obtain ⟨t, e3⟩ := h2
    refine ⟨t, ?_⟩
    rw [e3, List.getD_eq_getElem?_getD, hj] <;> rfl
  refine call_max_walk (wpAny_pyIter_values (v := s1.heap.objs.size) (d := a) ⟨_, Heap.get?_push_size _ rfl, rfl, rfl⟩ dat1 ?_)
  have hlt : a < s1.heap.objs.size := Heap.lt_size ho
  have hsz : (s1.heap.push { cls := .type "dict_values", data := .fields #[.ref a] }).objs.size = s1.heap.objs.size + 1 := Heap.size_push _ _
  refine ⟨_, _, _, _, _, _, _, rfl, Walks.dictValues (knd := mixKind X.prog X.w) (A := X.A.in1) (I.ok.hd hc) (s1.heap.push { cls := .type "dict_values", data := .fields #[.ref a] }).objs.size a (by rw [hsz]; exact Nat.ne_of_lt (Nat.lt_succ_of_lt hlt)) vs ep,
    ⟨⟨_, Heap.get?_push_size _ rfl, rfl, rfl⟩, dat1.keep fun b u e => Heap.get?_push_of_some _ e⟩, fun b hb => ?_, hlen, CmpOf.ints_gt (fun i => is.getD i 0) hval, fun v h' tk hP hk => ?_⟩
  · show b < ((s1.heap.push _).push _).objs.size
    rw [Heap.size_push, Heap.size_push]
    rw [hsz] at hb
    rcases List.mem_cons.mp hb with e | hb
    · rw [e]
      exact Nat.lt_succ_self _
    · have e : b = a := List.mem_singleton.mp hb
      rw [e]
      exact Nat.lt_succ_of_lt (Nat.lt_succ_of_lt hlt)
  · obtain ⟨t, rfl⟩ := hval _ v hP
    obtain ⟨b1, b2⟩ := argBest_gt (fun i => is.getD i 0) (vs.length - 1)
    refine ⟨.int _, H1, I1.kept (t' := tk) fun b u e => hk b u (fun hmem => ?_) (Heap.get?_push_of_some _ (k1 b u e)), ⟨t, rfl⟩, q _ ?_ fun j hj => ?_⟩
    · have e1 : b = (s1.heap.push { cls := .type "dict_values", data := .fields #[.ref a] }).objs.size := List.mem_singleton.mp hmem
      have e2 := Heap.lt_size e
      rw [hsz] at e1
      rw [e1] at e2
      exact absurd e2 (Nat.not_lt.mpr (Nat.le_succ _))
    · have hb : argBest (fun i j => decide (is.getD i 0 > is.getD j 0)) (vs.length - 1) < is.length := by omega
      rw [List.getD_eq_getElem?_getD, List.getElem?_eq_getElem hb]
      exact List.getElem_mem hb
    · obtain ⟨i, hi, e⟩ := List.mem_iff_getElem.mp hj
      have e3 : is.getD i 0 = j := by rw [List.getD_eq_getElem?_getD, List.getElem?_eq_getElem hi, e] <;> rfl
      have := b2 i (by omega)
      rw [e3] at this
      exact this
end
end L2
namespace Pd
open PySem PySem.Spec PyProof.Rows L2
def pMaxV : List Vw → Option Rd2
  | [.m l] => (ints? (l.map (·.2))).bind fun ns => if ns = [] then none else some (.pd (.int (maxI ns)))
  | _ => none
def oMaxV := opV pMaxV
def rMaxV : List V → Hp → VK → Prop := fun xs H1 Q => ∃ a kvs is, xs = [V.ref a] ∧ Rd H1 a (.dK kvs) ∧ kvs.map (·.2) = is.map V.int ∧ is ≠ [] ∧ ∀ m, m ∈ is → (∀ j ∈ is, j ≤ m) → Q (.int m) H1
theorem oMaxV_ok {K : PySem.W.Frag} : OpOk K rMaxV oMaxV := opV_ok fun B H vs ds res Q e hs hp k => by
  unfold pMaxV at hp
  split at hp
  · rename_i l
    obtain ⟨x, rfl, ⟨a, ks, rfl, h1, h2⟩⟩ := hs.one
    cases e1 : ints? (l.map (·.2)) with
    | none => rw [e1] at hp; cases hp
    | some ns =>
      rw [e1, Option.bind_some] at hp
      split at hp
      · cases hp
      · rename_i hne
        cases hp
        have d1 := h2.vals
        rw [ints?_eq e1] at d1
        obtain ⟨m1, m2⟩ := maxI_spec ns hne
        refine ⟨a, ks, ns, rfl, h1, DpAll.ints d1, hne, fun m hm hle => ?_⟩
        have : m = maxI ns := Int.le_antisymm (m2 m hm) (hle _ m1)
        rw [this]
        exact k _ B H (Fr.refl _ _ _) e (.int _)
  · cases hp
section
variable {X : Cx} {vs0 : List V} {o : Expr} {p pos apos mpos : Pos} {fo : M Rs}
theorem de_maxVals (hc : X.calm = true) (hg : Gl X "max") (hm : X.mg "max" = none) (ho : PE X o (rdE X.K vs0 fo)) (hbase : attributeBase o "values" X.env (eval o X.env) = eval o X.env := by rfl) (hline : (apos.endLine == mpos.line) = true := by rfl)
    (hse : starEach [Expr.Call (.Attribute o "values" apos) [] [] mpos] X.env = [(false, eval (Expr.Call (.Attribute o "values" apos) [] [] mpos) X.env)] := by rfl) :
    PE X (.Call (.Name "max" p) [.Call (.Attribute o "values" apos) [] [] mpos] [] pos) (rdE X.K vs0 (eUn fo oMaxV)) := PE.imp (pe_maxVals hc hg hm ho hbase hline hse) fun σ H Q q => by
  refine rdE_imp (rd_cons (rd_op oMaxV_ok q)) fun x H1 q1 => ?_
  obtain ⟨a, kvs, is, e, h1, h2, h3, h4⟩ := rdA_nil q1
  cases e
  exact ⟨a, kvs, is, rfl, h1, h2, h3, h4⟩
end
/-! ### min of a list of data -/
def rMinD (K : PySem.W.Frag) : List V → Hp → VK → Prop := fun vs H Q => ∃ (B : Hp) (a : Addr) (xs : List V) (d : D) (ds : List D), vs = [V.ref a] ∧ Same B H ∧ SqL K H a xs ∧ DpAll K B xs (d :: ds) ∧ PySem.W.AlikeAll (d :: ds) ∧ PyData.depthAll (d :: ds) ≤ 4 ∧ ∀ v, Dp K B v (PySem.W.minD d ds) → Q v H
theorem vals_at : ∀ {xs : List V} {us : List Value} {i : Nat} {u : Value}, Vals xs us → us[i]? = some u → ∃ x, xs[i]? = some x ∧ RelV x u
  | _, _, i, u, .nil, h => by simp at h
  | _, _, i, u, .cons r t, h => by
    cases i with
    | zero => simp at h; subst h; exact ⟨_, rfl, r⟩
    | succ i => simpa using vals_at (i := i) t (by simpa using h)
theorem cr_minD {X : Cx} (hc : X.calm = true) (hu : X.A.units + 64 < cLine) : CallR X (.builtin "min") (rMinD X.K) := by
  intro pins s σ H xs us Q I r h
  obtain ⟨B, a, xs, d, ds, rfl, sb, hs, hd, hal, hdep, q⟩ := h
  obtain ⟨its, rv, hl, hz⟩ := I.list hs
  rw [Vals.ref1 r]
  obtain ⟨as, hr⟩ := Dp.readsAll I _ _ _ (DpAll.mono sb hd) rv
  refine PySem.W.min_list_data (vs := its.toArray) (I.ok.hd hc) (by simpa using hl.isList) (by simpa using hr) hal (by omega) fun i v h' tk bs e r2 k => ?_
  obtain ⟨x, e1, rx⟩ := vals_at (i := i) (u := v) rv (by simpa using e)
  obtain ⟨dd, e2, hx⟩ := DpAll.getV hd e1
  obtain ⟨as2, r3⟩ := Dp.reads I dd x v (Dp.mono sb hx) rx
  have := (PySem.Reads.unique (PySem.W.reads_keeps k r3) _ _ r2).1
  subst this
  exact ⟨x, H, I.kept (t' := tk) k, rx, q x hx⟩
open Classical in
noncomputable def fMinD : List D → Option D
  | d :: ds => if PySem.W.AlikeAll (d :: ds) ∧ PyData.depthAll (d :: ds) ≤ 4 then some (PySem.W.minD d ds) else none
  | [] => none
noncomputable def pMinD : List D → Option Rd'
  | [.list l] => (fMinD l).map .pd
  | _ => none
theorem oMinD_ok {K : PySem.W.Frag} : OpOk K (rMinD K) (opG pMinD) := opG_ok fun B H vs ds res Q e hs hp k => by
  match ds, hp with
  | [.list l], hp =>
    have hp : (fMinD l).map Rd'.pd = some res := hp
    cases h : fMinD l with
    | none => rw [h] at hp; cases hp
    | some m =>
      rw [h] at hp
      cases hp
      cases l with
      | nil => cases h
      | cons d ds =>
        unfold fMinD at h
        dsimp only at h
        split at h
        · rename_i hc
          cases h
          obtain ⟨x, rfl, h1⟩ := hs.one
          obtain ⟨a, xs, rfl, h2, h3⟩ := h1
          exact ⟨B, a, xs, d, ds, rfl, e, h2, h3, hc.1, hc.2, fun v hv => k _ B H (Fr.refl _ _ _) e hv⟩
        · cases h
/-- min of every kind -/
noncomputable def oMinC : List Rs → M Rs := fun rs ρ => match oMin rs ρ with
  | some x => some x
  | none => opG pMinD rs ρ
abbrev rMinC (K : PySem.W.Frag) : List V → Hp → VK → Prop := fun vs H Q => rMinA K vs H Q ∨ rMinD K vs H Q
theorem cr_minC {X : Cx} (hc : X.calm = true) (hu : X.A.units + 64 < cLine) : CallR X (.builtin "min") (rMinC X.K) := CallR.or (cr_minA hc) (cr_minD hc hu)
theorem oMinC_ok {K : PySem.W.Frag} : OpOk K (rMinC K) oMinC := OpOk.or oMin_ok oMinD_ok
end Pd

set_option Elab.async false
set_option linter.all false
set_option maxRecDepth 100000
set_option maxHeartbeats 1000000
namespace Pd
open PySem PySem.Spec PyProof.Rows L2
namespace B
@[simp ↓] theorem oMaxV_eq : oMaxV = opV pMaxV := rfl
@[simp] theorem pMaxV_m {l : List (Key × D)} : pMaxV [.m l] = (ints? (l.map (·.2))).bind fun ns => if ns = [] then none else some (.pd (.int (maxI ns))) := rfl
noncomputable def pMinC : List D → Option Rd' := fun ds => match pMin ds with
  | some x => some x
  | none => pMinD ds
@[simp ↓] theorem oMinC_eq : oMinC = opG pMinC := by
  funext rs ρ
  unfold oMinC oMin opG pMinC
  cases h : viewAll rs ρ with
  | none => rfl
  | some ds =>
    dsimp only
    cases pMin ds <;> rfl
@[simp] theorem pMinC_ii {i j : Int} : pMinC [.int i, .int j] = some (.pd (.int (min i j))) := rfl
noncomputable def minL (l : List D) : Option D := match (ints? l).bind fun ns => if ns = [] then none else some (PyData.int (minI ns)) with
  | some x => some x
  | none => fMinD l
@[simp] theorem pMinC_l {l : List D} : pMinC [.list l] = (minL l).map Rd'.pd := by
  unfold pMinC minL
  rw [pMin_l]
  cases h : ints? l with
  | none => rfl
  | some ns =>
    rw [Option.bind_some, Option.bind_some]
    by_cases e : ns = []
    · rw [if_pos e, if_pos e]; rfl
    · rw [if_neg e, if_neg e]; rfl
end B
end Pd

set_option Elab.async false
set_option linter.all false
set_option maxRecDepth 100000
set_option maxHeartbeats 1000000
namespace Pd
open PySem PySem.Spec PyProof.Rows L2
open B (oMaxV_eq pMaxV_m oMinC_eq pMinC_ii pMinC_l)
end Pd


set_option Elab.async false
set_option linter.all false
set_option maxRecDepth 100000
set_option maxHeartbeats 2000000
namespace Pd
open PySem PySem.Spec PyProof.Rows L2
/-! ### a call whose arguments may be lent parts -/
open Classical in
noncomputable def opCallL (n : Nat) (F : List Sl → Option (Sl × List Sl)) : List Rs → M Rs := fun rs ρ => if rs.length = n ∧ (roots rs).Nodup then match argL rs ρ with
    | some ss => match F ss with
      | some (r, ss') => some (.ok (.own r) (wbL rs ss' ρ))
      | none => none
    | none => none
  else none
open Classical in
theorem opCallL_ok {K : PySem.W.Frag} {n : Nat} {F : List Sl → Option (Sl × List Sl)} : OpOk K (fun vs H Q => spD K n F vs H Q E0) (opCallL n F) := by
  intro vs0 σ B H ρ fs vs rs Ts Q g ok nd r' ρ' e k
  unfold opCallL at e
  split at e
  · rename_i hc
    split at e
    · rename_i ss e1
      split at e
      · rename_i r ss' e2
        cases e
        obtain ⟨hn, hnd⟩ := hc
        obtain ⟨fsA, gA, tg, hvl, step⟩ := call_core g ok nd hnd e1
        refine ⟨by rw [hvl]; exact hn, B, ss, fsA, gA, tg, r, ss', e2, fun v B' H' fs' T fr g' okr => ?_⟩
        obtain ⟨fs2, fr2, g2, t2⟩ := step ss' B' H' fs' T fr g' okr.2.2
        exact k v B' H' fs2 T fr2 g2 ⟨okr.1, okr.2.1, t2⟩
      · cases e
    · cases e
  · cases e
end Pd

set_option Elab.async false
set_option linter.all false
set_option maxRecDepth 100000
set_option maxHeartbeats 2000000
namespace Pd
open PySem PySem.Spec PyProof.Rows L2
/-! ### methods -/
/-- the receiver is an instance of c whose attributes do not hide m -/
def recOb (c m : Str) (r : Rs) (ρ : Env) : Bool := match argR r ρ with
  | some (.ob _ c' ns _) => decide (c' = c) && decide (m ∉ ns)
  | _ => false
def eChk (c m : Str) (fo : M Rs) : M Rs := M.bind fo fun r ρ => if recOb c m r ρ = true then some (.ok r ρ) else none
noncomputable def eCallM (c m : Str) (fo : M Rs) (fa : M (List Rs)) (n : Nat) (F : List Sl → Option (Sl × List Sl)) : M Rs := M.bind (aCons (eChk c m fo) fa) (opCallL n F)
theorem lookup_zip {ns : List Str} {m : Str} : ∀ {vs : List V}, m ∉ ns → (ns.zip vs).lookup m = none := by
  induction ns with
  | nil => intro vs _; rfl
  | cons a ns ih =>
    intro vs h
    cases vs with
    | nil => rfl
    | cons v vs =>
      rw [List.zip_cons_cons, List.lookup_cons]
      rw [List.mem_cons, not_or] at h
      rw [show (m == a) = false from by simpa using h.1]
      exact ih h.2
section
variable {K : PySem.W.Frag} {vs0 : List V} {B H : Hp} {σ : L2.St} {ρ : Env} {fs : Nat → List Addr} {c m : Str} {r : Rs} {x : V} {T : List Addr} {C : Addr}
theorem own_ob {v : V} {s : Sl} (h : Own K B H v s T) {t : Option Nat} {ns : List Str} {l : List Sl} (e : s.bare = .ob t c ns l) (hC : PySem.W.nsIn K mainGlobals c = some (some (.ref C))) (hm : m ∉ ns) : ∃ a dx fs, v = .ref a ∧ H a = some (.ins C dx fs) ∧ fs.lookup m = none := by
  cases s <;> cases e
  obtain ⟨a, dx, C', vs, Ts, rfl, rfl, h1, h2, h3, h4, h5, h6⟩ := h
  rw [hC] at h1
  cases h1
  exact ⟨a, dx, _, rfl, h2, lookup_zip hm⟩
theorem recOb_ok (g : Good K vs0 B H σ ρ fs) (ok : RsOk K B H σ fs x r T) (h : recOb c m r ρ = true) (hC : PySem.W.nsIn K mainGlobals c = some (some (.ref C))) : ∃ a dx fs, x = .ref a ∧ H a = some (.ins C dx fs) ∧ fs.lookup m = none := by
  unfold recOb at h
  split at h
  · rename_i t c' ns l e
    rw [Bool.and_eq_true] at h
    obtain ⟨h1, h2⟩ := h
    have h1 := of_decide_eq_true h1
    have h2 := of_decide_eq_true h2
    subst h1
    cases r with
    | own s =>
      cases e
      exact own_ob ok.1 rfl hC h2
    | bor i =>
      unfold argR at e
      dsimp only at e
      split at e
      · rename_i s e1
        obtain ⟨v, q1, q2⟩ := g.slot e1
        rw [ok.1] at q1
        cases q1
        exact own_ob q2 (Option.some.inj e) hC h2
      · cases e
    | lent i w k =>
      unfold argR at e
      dsimp only at e
      split at e
      · obtain ⟨s, e1, e2⟩ := Option.map_eq_some_iff.mp e
        obtain ⟨⟨v0, z1, z2, z3⟩, z4⟩ := ok
        obtain ⟨Tk, y1, y2, y3⟩ := z2.kid z3 e1
        exact own_ob y1 e2 hC h2
      · cases e
  · cases h
theorem rd_chk {fo : M Rs} {H : Hp} {Q : VK} (hC : PySem.W.nsIn K mainGlobals c = some (some (.ref C))) (q : rdE K vs0 (eChk c m fo) σ H Q) : rdE K vs0 fo σ H fun x H1 => (∃ a dx fs, x = .ref a ∧ H1 a = some (.ins C dx fs) ∧ fs.lookup m = none) ∧ Q x H1 := by
  obtain ⟨B, ρ, fs, g, r, ρ', e1, k⟩ := q
  obtain ⟨r1, ρ1, e2, e3⟩ := M.bind_ok e1
  split at e3
  · rename_i hr
    cases e3
    exact ⟨B, ρ, fs, g, _, _, e2, fun v B' H' fs' T fr g' ok => ⟨recOb_ok g' ok hr hC, k v B' H' fs' T fr g' ok⟩⟩
  · cases e3
end
structure CalleeM (P : Program) (w : World) (K : PySem.W.Frag) (mg : Str → Option Value) (base : Heap) (k : Nat) (c m : Str) (n : Nat) (F : List Sl → Option (Sl × List Sl)) : Prop where
  ex : ∃ C f fd ps, PySem.W.nsIn K mainGlobals c = some (some (.ref C)) ∧ Cls K C ∧ Meth K C m f ∧ FnOk P w K mg base CX0 k f fd ps (spD K n F) ∧ Binds K fd ps []
section
variable {X : Cx} {vs0 : List V} {k n : Nat} {F : List Sl → Option (Sl × List Sl)} {c m : Str} {o e : Expr} {es : List Expr} {p pos apos : Pos} {fo : M Rs} {fa : M (List Rs)} {pl : Sem Bool}
theorem rd_callM {K : PySem.W.Frag} {C : Addr} {σ : L2.St} {H : Hp} {Q : VK} (hC : PySem.W.nsIn K mainGlobals c = some (some (.ref C))) (q : rdE K vs0 (eCallM c m fo fa n F) σ H Q) : tMeth C m (spD K n F) [] E0 (rdE K vs0 fo) (rdA K vs0 fa) σ H Q := by
  refine rdE_imp (rd_chk hC (rd_cons (rd_op opCallL_ok q))) fun x H1 q1 => ?_
  obtain ⟨⟨a, dx, fs, e1, e2, e3⟩, q2⟩ := q1
  refine ⟨a, dx, fs, e1, e2, e3, ?_⟩
  obtain ⟨B, ρ, fs1, g, rs, ρ', e4, k⟩ := q2
  exact ⟨B, ρ, fs1, g, rs, ρ', e4, fun vs B' H' fs' Ts fr g' ok nd => by
    show spD K n F (x :: (vs ++ [])) H' Q E0
    rw [List.append_nil]
    exact k vs B' H' fs' Ts fr g' ok nd⟩
theorem de_meth (D : CalleeM X.prog X.w X.K X.mg X.base k c m n F) (hr : Room k X.A) (ho : PE X o (rdE X.K vs0 fo)) (ha : PA X (e :: es) (rdA X.K vs0 fa))
    (hst : starEach (e :: es) X.env = (false, eval e X.env) :: starEach es X.env := by rfl) (hpl : (backTo pos (starEach es X.env)).any (·.1) = false := by rfl)
    (ht : eval (.Call (.Attribute o m apos) (e :: es) [] pos) X.env = (do
      let ov ← eval o X.env
      standAt apos.atName
      let (f, first) ← holding [ov] (getMethod ov m pl)
      callWith pos f first (backTo pos (starEach (e :: es) X.env)) (backToKw pos (keywordEach [] X.env))) := by rfl) :
    PE X (.Call (.Attribute o m apos) (e :: es) [] pos) (rdE X.K vs0 (eCallM c m fo fa n F)) := by
  obtain ⟨C, f, fd, ps, hC, hcl, hme, Fn, hb⟩ := D.ex
  exact PE.imp (pe_meth ho hcl hme Fn hr hb .nil pass0 ha hst hpl ht) fun σ H Q q => rd_callM hC q
theorem de_meth0 (D : CalleeM X.prog X.w X.K X.mg X.base k c m n F) (hr : Room k X.A) (ho : PE X o (rdE X.K vs0 fo))
    (ht : eval (.Call (.Attribute o m apos) [] [] pos) X.env = (do
      let ov ← eval o X.env
      standAt apos.atName
      let (f, first) ← holding [ov] (getMethod ov m pl)
      callWith pos f first (backTo pos (starEach [] X.env)) (backToKw pos (keywordEach [] X.env))) := by rfl) :
    PE X (.Call (.Attribute o m apos) [] [] pos) (rdE X.K vs0 (eCallM c m fo aNil n F)) := by
  obtain ⟨C, f, fd, ps, hC, hcl, hme, Fn, hb⟩ := D.ex
  refine PE.imp (pe_meth0 (E := E0) ho hcl hme Fn hr hb .nil pass0 ht) fun σ H Q q => ?_
  refine rdE_imp (rd_callM hC q) fun x H1 q1 => ?_
  obtain ⟨a, dx, fs, e1, e2, e3, q2⟩ := q1
  exact ⟨a, dx, fs, e1, e2, e3, rdA_nil q2⟩
end
end Pd

set_option Elab.async false
set_option linter.all false
set_option maxRecDepth 100000
set_option maxHeartbeats 2000000
namespace Pd
open PySem PySem.Spec PyProof.Rows L2
/-! ### operations that only read, on lent parts -/
def Sl.dat : Sl → Option D
  | .p d => some d
  | .ml _ l => some (.list l)
  | _ => none
def datAll : List Sl → Option (List D)
  | [] => some []
  | s :: r => match s.dat with
    | some d => match datAll r with
      | some t => some (d :: t)
      | none => none
    | none => none
section
variable {K : PySem.W.Frag} {vs0 : List V} {B H : Hp} {σ : L2.St} {ρ : Env} {fs : Nat → List Addr}
theorem dat_sh {v : V} {s : Sl} {T : List Addr} {d : D} (e : Same B H) (h : Own K B H v s T) (q : s.dat = some d) : ShD K B H v d := by
  cases s <;> cases q
  · exact ShD.of e h.1
  · obtain ⟨a, xs, rfl, rfl, h1, h2⟩ := h
    exact ⟨a, xs, rfl, Or.inl (Or.inl h1), h2⟩
theorem datAll_sh (e : Same B H) : ∀ {ss : List Sl} {vs : List V} {ds : List D}, (∀ (j : Nat) s, ss[j]? = some s → ∃ v T, vs[j]? = some v ∧ Own K B H v s T) → vs.length = ss.length → datAll ss = some ds → ShAll K B H vs ds
  | [], [], ds, _, _, q => by cases q; trivial
  | [], _ :: _, _, _, hl, _ => by cases hl
  | _ :: _, [], _, _, hl, _ => by cases hl
  | s :: ss, v :: vs, ds, h, hl, q => by
    unfold datAll at q
    split at q
    · rename_i d e1
      split at q
      · rename_i t e2
        cases q
        obtain ⟨v', T, h1, h2⟩ := h 0 s rfl
        cases h1
        exact ⟨dat_sh e h2 e1, datAll_sh e (fun j s' hj => h (j + 1) s' (by simpa using hj)) (by simpa using hl) e2⟩
      · cases q
    · cases q
end
open Classical in
noncomputable def opGL (pf : List D → Option Rd') : List Rs → M Rs := fun rs ρ => if (roots rs).Nodup then match argL rs ρ with
    | some ss => match datAll ss with
      | some ds => match pf ds with
        | some res => some (.ok res.rs (wbL rs ss ρ))
        | none => none
      | none => none
    | none => none
  else none
open Classical in
theorem opGL_ok {K : PySem.W.Frag} {r : List V → Hp → VK → Prop} {pf : List D → Option Rd'} (h : ∀ B H vs ds res Q, Same B H → ShAll K B H vs ds → pf ds = some res → ResK K B H Q res → r vs H Q) : OpOk K r (opGL pf) := by
  intro vs0 σ B H ρ fs vs rs Ts Q g ok nd r' ρ' e k
  unfold opGL at e
  split at e
  · rename_i hnd
    split at e
    · rename_i ss e1
      split at e
      · rename_i ds e2
        split at e
        · rename_i res e3
          cases e
          obtain ⟨fsA, gA, tg, hvl, step⟩ := call_core g ok nd hnd e1
          have hsl := (argL_get e1).1
          have hsh : ShAll K B H vs ds := datAll_sh g.ext (fun j s hj => by
            obtain ⟨v, h1, h2, _⟩ := gA.at_ j s (by rw [List.getElem?_map, hj]; rfl)
            rw [List.getElem?_map] at h1
            cases q : vs[j]? with
            | none => rw [q] at h1; cases h1
            | some v' => rw [q] at h1; cases h1; exact ⟨v, _, rfl, h2⟩) (by rw [hvl, hsl]) e2
          refine h B H vs ds res Q g.ext hsh e3 ?_
          cases res with
          | pd d =>
            intro v B' H' fr ex hd
            obtain ⟨fs2, fr2, g2, t2⟩ := step ss B' H' fsA [] (fr.weak (fun _ f => f.elim) fun a f => by
              rcases f with f | f
              · exact Or.inr (Or.inl f)
              · cases f) (gA.grow fr (fun _ _ f => f) ex) (fun a ha => nomatch ha)
            exact k v B' H' fs2 [] fr2 g2 ⟨⟨hd, rfl⟩, rfl, fun a ha => nomatch ha⟩
          | nl l =>
            intro p xs hp hd
            have fr := Fr.newL (B := B) (o := HO.lst xs) hp
            have hpB : B p = none := by
              cases e : B p with
              | none => rfl
              | some u => rw [g.ext p u e] at hp; cases hp
            have gA2 := gA.grow fr (fun _ _ f => f) (g.ext.trans fr.sameH)
            obtain ⟨fs2, fr2, g2, t2⟩ := step ss B (upd H p (HO.lst xs)) fsA [p] (fr.weak (fun _ f => f.elim) fun a f => by
              rcases f with f | f
              · exact Or.inr (Or.inl f)
              · exact Or.inl f) gA2 (fun a ha => by
                simp at ha
                subst ha
                exact ⟨hpB, fun i hi => gA.lives hi hp⟩)
            exact k (.ref p) B _ fs2 [p] fr2 g2 ⟨⟨p, xs, rfl, rfl, upd_same, hd⟩, rfl, t2⟩
        · cases e
      · cases e
    · cases e
  · cases e
/-- on what names hold, and else on lent parts -/
noncomputable def opGA (pf : List D → Option Rd') : List Rs → M Rs := fun rs ρ => match opG pf rs ρ with
  | some x => some x
  | none => opGL pf rs ρ
theorem opGA_ok {K : PySem.W.Frag} {r : List V → Hp → VK → Prop} {pf : List D → Option Rd'} (h : ∀ B H vs ds res Q, Same B H → ShAll K B H vs ds → pf ds = some res → ResK K B H Q res → r vs H Q) : OpOk K r (opGA pf) := by
  intro vs0 σ B H ρ fs vs rs Ts Q g ok nd r' ρ' e k
  unfold opGA at e
  split at e
  · rename_i x e1
    cases e
    exact opG_ok h vs0 σ B H ρ fs vs rs Ts Q g ok nd r' ρ' e1 k
  · exact opGL_ok h vs0 σ B H ρ fs vs rs Ts Q g ok nd r' ρ' e k
end Pd

set_option Elab.async false
set_option linter.all false
set_option maxRecDepth 100000
set_option maxHeartbeats 2000000
namespace Pd
open PySem PySem.Spec PyProof.Rows L2
/-! ### attributes, read -/
def ixOf (f : Str) : List Str → Option Nat
  | [] => none
  | a :: r => if a = f then some 0 else (ixOf f r).map (· + 1)
theorem ixOf_at {f : Str} : ∀ {ns : List Str} {k : Nat} {vs : List V}, ixOf f ns = some k → ns.length = vs.length → ∃ v, vs[k]? = some v ∧ (ns.zip vs).lookup f = some v
  | [], k, vs, h, _ => by cases h
  | a :: ns, k, [], h, hl => by cases hl
  | a :: ns, k, v :: vs, h, hl => by
    unfold ixOf at h
    rw [List.zip_cons_cons, List.lookup_cons]
    split at h
    · rename_i e
      cases h
      subst e
      exact ⟨v, rfl, by simp⟩
    · rename_i e
      obtain ⟨j, hj, rfl⟩ := Option.map_eq_some_iff.mp h
      obtain ⟨u, h1, h2⟩ := ixOf_at hj (by simpa using hl)
      refine ⟨u, by simpa using h1, ?_⟩
      rw [show (f == a) = false from by simpa using fun q : f = a => e q.symm]
      exact h2
def eAttr (c f : Str) (i : Nat) : M Rs := fun ρ => match ρ[i]? with
  | some (some (.ob t c' ns l)) => if c' = c then match ixOf f ns with
      | some k => match l[k]? with
        | some (.p d) => some (.ok (.own (.p d)) ρ)
        | some (.ml _ _) => some (.ok (.lent i (.ob t c' ns l) k) (ρ.set i (some (.hl t))))
        | some (.md _ _) => some (.ok (.lent i (.ob t c' ns l) k) (ρ.set i (some (.hl t))))
        | some (.mr _ _) => some (.ok (.lent i (.ob t c' ns l) k) (ρ.set i (some (.hl t))))
        | some (.ob _ _ _ _) => some (.ok (.lent i (.ob t c' ns l) k) (ρ.set i (some (.hl t))))
        | _ => none
      | none => none
    else none
  | _ => none
section
variable {K : PySem.W.Frag} {vs0 : List V} {B H : Hp} {σ : L2.St} {ρ : Env} {fs : Nat → List Addr}
/-- what stood in slot i is taken out -/
theorem Good.hole {i : Nat} {s : Sl} (g : Good K vs0 B H σ ρ fs) (e : ρ[i]? = some (some s)) : Good K vs0 B H σ (ρ.set i (some (.hl s.tag))) (fun j => if j = i then [] else fs j) := by
  have hi : i < ρ.length := (List.getElem?_eq_some_iff.mp e).1
  refine ⟨g.ext, by rw [List.length_set]; exact g.len, fun j s' h => ?_, fun j h => ?_, fun j j' b hb hb' => ?_, fun j b hb => ?_⟩
  · by_cases q : j = i
    · subst q
      rw [List.getElem?_set_self hi] at h
      cases h
      obtain ⟨v, h1, h2, h3⟩ := g.at_ j s e
      exact ⟨v, h1, if_pos rfl, h3⟩
    · rw [List.getElem?_set_ne (Ne.symm q)] at h
      obtain ⟨v, h1, h2, h3⟩ := g.at_ j s' h
      exact ⟨v, h1, by rw [if_neg q]; exact h2, h3⟩
  · by_cases q : j = i
    · rw [if_pos q]
    · rw [if_neg q]
      exact g.emp j fun s' z => h s' (by rw [List.getElem?_set_ne (Ne.symm q)]; exact z)
  · by_cases q : j = i
    · rw [if_pos q] at hb; cases hb
    · by_cases q' : j' = i
      · rw [if_pos q'] at hb'; cases hb'
      · rw [if_neg q] at hb; rw [if_neg q'] at hb'; exact g.dis j j' b hb hb'
  · by_cases q : j = i
    · rw [if_pos q] at hb; cases hb
    · rw [if_neg q] at hb; exact g.out j b hb
theorem rd_attr {c f : Str} {i : Nat} {C : Addr} {Q : VK} (hC : PySem.W.nsIn K mainGlobals c = some (some (.ref C))) (hc : Cls K C) (hn : NoAttr K C f) (q : rdE K vs0 (eAttr c f i) σ H Q) : tFld K (tVar i) f σ H Q := by
  obtain ⟨B, ρ, fs, g, r, ρ', e1, k⟩ := q
  unfold eAttr at e1
  split at e1
  · rename_i t c' ns l e0
    split at e1
    · rename_i ec
      subst ec
      split at e1
      · rename_i j hj
        obtain ⟨v0, h1, h2, h3⟩ := g.at_ i _ e0
        have hown := h2
        obtain ⟨a, dx, C', vs, Ts, rfl, eT, q1, q2, q3, q4, q5, q6⟩ := h2
        rw [hC] at q1
        cases q1
        obtain ⟨v, hv, hlk⟩ := ixOf_at hj q3
        have lend : ∀ (w : Sl), l[j]? = some w → some (Out.ok (Rs.lent i (.ob t c' ns l) j) (ρ.set i (some (.hl t)))) = some (Out.ok r ρ') → tFld K (tVar i) f σ H Q := fun w hw e => by
          cases e
          refine ⟨.ref a, h1, a, C, dx, _, v, rfl, q2, hc, hn, hlk, ?_⟩
          refine k v B H (fun j => if j = i then [] else fs j) (fs i) ((Fr.refl B H (InF fs)).weak (fun _ h => h) fun b hb => Or.inl ?_) (g.hole e0) ⟨⟨.ref a, h1, hown, ?_⟩, fun b hb => ⟨g.out i b hb, fun j' hj' => ?_⟩⟩
          · rcases hb with ⟨j', hb⟩ | hb
            · dsimp only at hb
              by_cases z : j' = i
              · rw [if_pos z] at hb; cases hb
              · rw [if_neg z] at hb; exact ⟨j', hb⟩
            · exact ⟨i, hb⟩
          · refine ⟨a, C, dx, _, rfl, q2, ?_⟩
            rw [zip_snd q3]
            exact hv
          · dsimp only at hj'
            by_cases z : j' = i
            · rw [if_pos z] at hj'; cases hj'
            · rw [if_neg z] at hj'; exact z (g.dis j' i b hj' hb)
        split at e1
        · rename_i d hd
          cases e1
          obtain ⟨v', T, w1, w2, w3⟩ := OwnL.get q5 hd
          rw [hv] at w1
          cases w1
          exact ⟨.ref a, h1, a, C, dx, _, v, rfl, q2, hc, hn, hlk, k v B H fs [] fr_unr g ⟨⟨w3.1, rfl⟩, rfl, fun b hb => nomatch hb⟩⟩
        · rename_i hw; exact lend _ hw e1
        · rename_i hw; exact lend _ hw e1
        · rename_i hw; exact lend _ hw e1
        · rename_i hw; exact lend _ hw e1
        · cases e1
      · cases e1
    · cases e1
  · cases e1
end
/-- what is known of an attribute of a class -/
structure AttrIs (K : PySem.W.Frag) (c f : Str) : Prop where
  ex : ∃ C, PySem.W.nsIn K mainGlobals c = some (some (.ref C)) ∧ Cls K C ∧ NoAttr K C f
theorem de_attr {X : Cx} {vs0 : List V} {c f : Str} {i : Nat} {e : Expr} {pos : Pos} (A : AttrIs X.K c f) (h : PE X e (tVar i)) (hb : attributeBase e f X.env (eval e X.env) = eval e X.env := by rfl) : PE X (.Attribute e f pos) (rdE X.K vs0 (eAttr c f i)) := by
  obtain ⟨C, hC, hc, hn⟩ := A.ex
  exact PE.imp (pe_fld h hb) fun σ H Q q => rd_attr hC hc hn q
end Pd

set_option Elab.async false
set_option linter.all false
set_option maxRecDepth 100000
set_option maxHeartbeats 2000000
namespace Pd
open PySem PySem.Spec PyProof.Rows L2
/-! ### attributes, set -/
theorem putF_ix {f : Str} {y : V} : ∀ {ns : List Str} {vs : List V} {k : Nat}, ixOf f ns = some k → ns.length = vs.length → putF f y (ns.zip vs) = ns.zip (vs.set k y)
  | [], vs, k, h, _ => by cases h
  | a :: ns, [], k, h, hl => by cases hl
  | a :: ns, v :: vs, k, h, hl => by
    unfold ixOf at h
    rw [List.zip_cons_cons]
    unfold putF
    split at h
    · rename_i e
      cases h
      rw [if_pos e]
      rfl
    · rename_i e
      obtain ⟨j, hj, rfl⟩ := Option.map_eq_some_iff.mp h
      rw [if_neg e, putF_ix hj (by simpa using hl)]
      rfl
theorem putF_new {f : Str} {y : V} : ∀ {ns : List Str} {vs : List V}, ixOf f ns = none → ns.length = vs.length → putF f y (ns.zip vs) = (ns ++ [f]).zip (vs ++ [y])
  | [], [], _, _ => rfl
  | [], _ :: _, _, hl => by cases hl
  | _ :: _, [], _, hl => by cases hl
  | a :: ns, v :: vs, h, hl => by
    unfold ixOf at h
    rw [List.zip_cons_cons]
    unfold putF
    split at h
    · cases h
    · rename_i e
      rw [if_neg e, putF_new (by simpa using h) (by simpa using hl)]
      rfl
/-- the attribute f holds s now -/
def setAt (f : Str) (ns : List Str) (l : List Sl) (s : Sl) : List Str × List Sl := match ixOf f ns with
  | some k => (ns, l.set k s)
  | none => (ns ++ [f], l ++ [s])
def gAttr (c f : Str) (i : Nat) (fe : M Rs) : M Fl := M.bind fe fun r ρ => match r, ρ[i]? with
  | .own s, some (some (.ob t c' ns l)) => if c' = c ∧ ns.length < 1000 then some (.ok .nx (ρ.set i (some (.ob t c' (setAt f ns l s).1 (setAt f ns l s).2)))) else none
  | _, _ => none
section
variable {K : PySem.W.Frag} {vs0 : List V} {B H H' : Hp} {σ : L2.St} {ρ : Env} {fs : Nat → List Addr}
theorem OwnL.snoc : ∀ {ss : List Sl} {vs : List V} {Ts : List (List Addr)} {v : V} {s : Sl} {T : List Addr}, OwnL K B H vs ss Ts → Own K B H v s T → OwnL K B H (vs ++ [v]) (ss ++ [s]) (Ts ++ [T])
  | [], [], [], v, s, T, _, o => ⟨o, trivial⟩
  | _ :: ss, _ :: vs, _ :: Ts, v, s, T, h, o => ⟨h.1, OwnL.snoc h.2 o⟩
  | [], [], _ :: _, _, _, _, h, _ => h.elim
  | [], _ :: _, _, _, _, _, h, _ => h.elim
  | _ :: _, [], _, _, _, _, h, _ => h.elim
  | _ :: _, _ :: _, [], _, _, _, h, _ => h.elim
theorem OwnL.len2 : ∀ {ss : List Sl} {vs : List V} {Ts : List (List Addr)}, OwnL K B H vs ss Ts → vs.length = ss.length ∧ Ts.length = ss.length
  | [], [], [], _ => ⟨rfl, rfl⟩
  | _ :: ss, _ :: vs, _ :: Ts, h => by
    obtain ⟨h1, h2⟩ := OwnL.len2 h.2
    exact ⟨by simp [h1], by simp [h2]⟩
  | [], [], _ :: _, h => h.elim
  | [], _ :: _, _, h => h.elim
  | _ :: _, [], _, h => h.elim
  | _ :: _, _ :: _, [], h => h.elim
theorem nodup_flat_set : ∀ {Ts : List (List Addr)} {k : Nat} {T : List Addr}, Ts.flatten.Nodup → T.Nodup → (∀ a ∈ T, a ∉ Ts.flatten) → (Ts.set k T).flatten.Nodup
  | [], k, T, h, _, _ => by simpa using h
  | T0 :: Ts, 0, T, h, hT, hd => by
    rw [List.set_cons_zero, List.flatten_cons, List.nodup_append]
    rw [List.flatten_cons, List.nodup_append] at h
    exact ⟨hT, h.2.1, fun a ha b hb e => hd a ha (by rw [List.flatten_cons]; exact List.mem_append_right _ (e ▸ hb))⟩
  | T0 :: Ts, k + 1, T, h, hT, hd => by
    rw [List.set_cons_succ, List.flatten_cons, List.nodup_append]
    rw [List.flatten_cons, List.nodup_append] at h
    refine ⟨h.1, nodup_flat_set h.2.1 hT fun a ha q => hd a ha (by rw [List.flatten_cons]; exact List.mem_append_right _ q), fun a ha b hb e => ?_⟩
    subst e
    rcases flat_set_mem hb with q | ⟨j, T', _, hj, q⟩
    · exact hd a q (by rw [List.flatten_cons]; exact List.mem_append_left _ ha)
    · exact h.2.2 a ha a (List.mem_flatten.mpr ⟨T', List.mem_of_getElem? hj, q⟩) rfl
/-- the instance with that attribute -/
theorem own_set {f : Str} {a dx C : Addr} {t : Option Nat} {c : Str} {ns : List Str} {l : List Sl} {vs : List V} {Ts : List (List Addr)} {y : V} {s : Sl} {T : List Addr} (hC : PySem.W.nsIn K mainGlobals c = some (some (.ref C)))
    (h3 : ns.length = vs.length) (h4 : H dx = some (.own a)) (h5 : OwnL K B H vs l Ts) (h6 : (a :: dx :: Ts.flatten).Nodup) (o : Own K B H y s T) (hd : ∀ b ∈ T, b ∉ a :: dx :: Ts.flatten) :
    ∃ T2, Own K B (upd H a (.ins C dx (putF f y (ns.zip vs)))) (.ref a) (.ob t c (setAt f ns l s).1 (setAt f ns l s).2) T2 ∧ ∀ b ∈ T2, b ∈ a :: dx :: Ts.flatten ∨ b ∈ T := by
  have hne : ∀ b ∈ dx :: Ts.flatten, b ≠ a := fun b hb e => (List.nodup_cons.mp h6).1 (e ▸ hb)
  have hnT : ∀ b ∈ T, b ≠ a := fun b hb e => hd b hb (by rw [e]; exact List.mem_cons_self ..)
  have o2 : Own K B (upd H a (.ins C dx (putF f y (ns.zip vs)))) y s T := o.keep (Same.refl B) fun b hb => upd_ne (hnT b hb)
  have l2 : OwnL K B (upd H a (.ins C dx (putF f y (ns.zip vs)))) vs l Ts := OwnL.keepA (Same.refl B) h5 fun b hb => upd_ne (hne b (List.mem_cons_of_mem _ hb))
  have dx2 : upd H a (.ins C dx (putF f y (ns.zip vs))) dx = some (.own a) := by rw [upd_ne (hne dx (List.mem_cons_self ..))]; exact h4
  obtain ⟨hl1, hl2⟩ := h5.len2
  have h62 := List.nodup_cons.mp (List.nodup_cons.mp h6).2
  cases q : ixOf f ns with
  | some k =>
    have e : setAt f ns l s = (ns, l.set k s) := by unfold setAt; rw [q]
    obtain ⟨v, hv, _⟩ := ixOf_at q h3
    have hk : k < vs.length := (List.getElem?_eq_some_iff.mp hv).1
    rw [e]
    have hsub : ∀ b ∈ (Ts.set k T).flatten, b ∈ Ts.flatten ∨ b ∈ T := fun b hb => by
      rcases flat_set_mem hb with z | ⟨j, T', _, hj, z⟩
      · exact Or.inr z
      · exact Or.inl (List.mem_flatten.mpr ⟨T', List.mem_of_getElem? hj, z⟩)
    have hnew : OwnL K B (upd H a (.ins C dx (putF f y (ns.zip vs)))) (vs.set k y) (l.set k s) (Ts.set k T) := by
      clear hsub e q hv
      have : ∀ {l : List Sl} {vs : List V} {Ts : List (List Addr)} {k : Nat} {H : Hp}, OwnL K B H vs l Ts → Own K B H y s T → OwnL K B H (vs.set k y) (l.set k s) (Ts.set k T) := by
        intro l
        induction l with
        | nil =>
          intro vs Ts k H h _
          match vs, Ts, h with
          | [], [], _ => trivial
        | cons s0 l ih =>
          intro vs Ts k H h o
          match vs, Ts, h with
          | v0 :: vs, T0 :: Ts, h =>
            cases k with
            | zero => exact ⟨o, h.2⟩
            | succ k => exact ⟨h.1, ih h.2 o⟩
      exact this l2 o2
    refine ⟨a :: dx :: (Ts.set k T).flatten, ⟨a, dx, C, vs.set k y, Ts.set k T, rfl, rfl, hC, by rw [upd_same, putF_ix q h3], by simpa using h3, dx2, hnew, ?_⟩, fun b hb => ?_⟩
    · rw [List.nodup_cons, List.nodup_cons]
      refine ⟨fun z => ?_, fun z => ?_, nodup_flat_set h62.2 o.nodup fun b hb z => hd b hb (List.mem_cons_of_mem _ (List.mem_cons_of_mem _ z))⟩
      · rcases List.mem_cons.mp z with z | z
        · exact hne dx (List.mem_cons_self ..) z.symm
        · rcases hsub a z with z | z
          · exact (List.nodup_cons.mp h6).1 (List.mem_cons_of_mem _ z)
          · exact hnT a z rfl
      · rcases hsub dx z with z | z
        · exact h62.1 z
        · exact hd dx z (List.mem_cons_of_mem _ (List.mem_cons_self ..))
    · rcases List.mem_cons.mp hb with z | z
      · rw [z]; exact Or.inl (List.mem_cons_self ..)
      · rcases List.mem_cons.mp z with z | z
        · rw [z]; exact Or.inl (List.mem_cons_of_mem _ (List.mem_cons_self ..))
        · rcases hsub b z with z | z
          · exact Or.inl (List.mem_cons_of_mem _ (List.mem_cons_of_mem _ z))
          · exact Or.inr z
  | none =>
    have e : setAt f ns l s = (ns ++ [f], l ++ [s]) := by unfold setAt; rw [q]
    rw [e]
    have ef : (Ts ++ [T]).flatten = Ts.flatten ++ T := by simp
    refine ⟨a :: dx :: (Ts ++ [T]).flatten, ⟨a, dx, C, vs ++ [y], Ts ++ [T], rfl, rfl, hC, by rw [upd_same, putF_new q h3], by simp [h3], dx2, OwnL.snoc l2 o2, ?_⟩, fun b hb => ?_⟩
    · rw [ef, List.nodup_cons, List.nodup_cons]
      refine ⟨fun z => ?_, fun z => ?_, ?_⟩
      · rcases List.mem_cons.mp z with z | z
        · exact hne dx (List.mem_cons_self ..) z.symm
        · rcases List.mem_append.mp z with z | z
          · exact (List.nodup_cons.mp h6).1 (List.mem_cons_of_mem _ z)
          · exact hnT a z rfl
      · rcases List.mem_append.mp z with z | z
        · exact h62.1 z
        · exact hd dx z (List.mem_cons_of_mem _ (List.mem_cons_self ..))
      · rw [List.nodup_append]
        exact ⟨h62.2, o.nodup, fun b hb b' hb' z => hd b' hb' (z ▸ List.mem_cons_of_mem _ (List.mem_cons_of_mem _ hb))⟩
    · rw [ef] at hb
      rcases List.mem_cons.mp hb with z | z
      · rw [z]; exact Or.inl (List.mem_cons_self ..)
      · rcases List.mem_cons.mp z with z | z
        · rw [z]; exact Or.inl (List.mem_cons_of_mem _ (List.mem_cons_self ..))
        · rcases List.mem_append.mp z with z | z
          · exact Or.inl (List.mem_cons_of_mem _ (List.mem_cons_of_mem _ z))
          · exact Or.inr z
end
end Pd

set_option Elab.async false
set_option linter.all false
set_option maxRecDepth 100000
set_option maxHeartbeats 2000000
namespace Pd
open PySem PySem.Spec PyProof.Rows L2
section
variable {K : PySem.W.Frag} {vs0 : List V} {σ : L2.St} {H : Hp} {c f : Str} {i : Nat} {fe : M Rs} {D : Ends} {C : Addr}
theorem rd_gAttr (hC : PySem.W.nsIn K mainGlobals c = some (some (.ref C))) (hc : Cls K C) (hn : NoAttr K C f) (q : rdS K vs0 (gAttr c f i fe) D σ H) : sFld K (tVar i) (rdE K vs0 fe) f D σ H := by
  obtain ⟨B, ρ, fs, g, fl, ρ', e1, k⟩ := q
  obtain ⟨r, ρ1, e2, e3⟩ := M.bind_ok e1
  split at e3
  · rename_i s t c' ns l e0
    split at e3
    · rename_i hcond
      obtain ⟨ec, hlen⟩ := hcond
      subst ec
      cases e3
      refine ⟨B, ρ, fs, g, _, ρ1, e2, fun v B1 H1 fs1 T1 fr1 g1 ok1 => ?_⟩
      obtain ⟨v0, h1, h2, h3⟩ := g1.at_ i _ e0
      obtain ⟨a, dx, C', vs, Ts, rfl, eT, q1, q2, q3, q4, q5, q6⟩ := h2
      rw [hC] at q1
      cases q1
      rw [eT] at q6
      have hi : i < ρ1.length := (List.getElem?_eq_some_iff.mp e0).1
      have ain : a ∈ fs1 i := by rw [eT]; exact List.mem_cons_self ..
      obtain ⟨T2, o2, hT2⟩ := own_set (f := f) (t := t) hC q3 q4 q5 q6 ok1.1 fun b hb => by
        rw [← eT]
        exact (ok1.2.2 b hb).2 i
      have hT2' : ∀ b ∈ T2, b ∈ fs1 i ∨ b ∈ T1 := fun b hb => by rw [eT]; exact hT2 b hb
      refine ⟨.ref a, h1, a, C, dx, _, rfl, q2, hc, hn, by rw [List.length_zip, ← q3]; omega, ?_⟩
      refine k σ B1 _ (fun j => if j = i then T2 else fs1 j) ?_ ?_
      · refine fr1.trans ((Fr.mut (F := UnF (InF fs1) T1) (Or.inl ⟨i, ain⟩)).weak (fun _ h => h) fun b hb => Or.inl ?_)
        obtain ⟨j, hj⟩ := hb
        dsimp only at hj
        by_cases e : j = i
        · rw [if_pos e] at hj
          rcases hT2' b hj with z | z
          · exact Or.inl ⟨i, z⟩
          · exact Or.inr z
        · rw [if_neg e] at hj
          exact Or.inl ⟨j, hj⟩
      · have nB : B1 a = none := g1.out i a ain
        refine ⟨fun b u e => ?_, by rw [List.length_set]; exact g1.len, fun j s' h => ?_, fun j h => ?_, fun j j' b hb hb' => ?_, fun j b hb => ?_⟩
        · rw [upd_ne (fun z => by rw [z, nB] at e; cases e)]
          exact g1.ext b u e
        · by_cases e : j = i
          · subst e
            rw [List.getElem?_set_self hi] at h
            cases h
            exact ⟨.ref a, h1, by rw [if_pos rfl]; exact o2, h3⟩
          · rw [List.getElem?_set_ne (Ne.symm e)] at h
            obtain ⟨v', y1, y2, y3⟩ := g1.at_ j s' h
            refine ⟨v', y1, ?_, y3⟩
            rw [if_neg e]
            exact y2.keep (Same.refl B1) fun b hb => upd_ne fun z => e (g1.dis j i b hb (z ▸ ain))
        · by_cases e : j = i
          · subst e
            exact (h _ (List.getElem?_set_self hi)).elim
          · rw [if_neg e]
            exact g1.emp j fun s' z => h s' (by rw [List.getElem?_set_ne (Ne.symm e)]; exact z)
        · by_cases e : j = i
          · by_cases e' : j' = i
            · rw [e, e']
            · rw [if_pos e] at hb; rw [if_neg e'] at hb'
              rcases hT2' b hb with z | z
              · exact e.trans (g1.dis i j' b z hb')
              · exact ((ok1.2.2 b z).2 j' hb').elim
          · by_cases e' : j' = i
            · rw [if_neg e] at hb; rw [if_pos e'] at hb'
              rcases hT2' b hb' with z | z
              · exact (g1.dis j i b hb z).trans e'.symm
              · exact ((ok1.2.2 b z).2 j hb).elim
            · rw [if_neg e] at hb; rw [if_neg e'] at hb'; exact g1.dis j j' b hb hb'
        · by_cases e : j = i
          · rw [if_pos e] at hb
            rcases hT2' b hb with z | z
            · exact g1.out i b z
            · exact (ok1.2.2 b z).1
          · rw [if_neg e] at hb; exact g1.out j b hb
    · cases e3
  · cases e3
end
theorem ds_attr {X : Cx} {vs0 : List V} {c f : Str} {i : Nat} {o value : Expr} {pos pos' : Pos} {fe : M Rs} (A : AttrIs X.K c f) (ho : PE X o (tVar i)) (hv : PE X value (rdE X.K vs0 fe)) (hs : swapsWith value (some (.Attribute o f pos')) pos.line X.env = pure false := by rfl) :
    PS X (.Assign [.Attribute o f pos'] value pos) (rdS X.K vs0 (gAttr c f i fe)) := by
  obtain ⟨C, hC, hc, hn⟩ := A.ex
  exact PS.imp (ps_fld ho hv hs) fun D σ H q => rd_gAttr hC hc hn q
end Pd

set_option Elab.async false
set_option linter.all false
set_option maxRecDepth 100000
set_option maxHeartbeats 2000000
namespace Pd
open PySem PySem.Spec PyProof.Rows L2
/-! ### new instances -/
open Classical in
noncomputable def opMake (n : Nat) (c : Str) (F : List Sl → Option (Sl × List Sl)) : List Rs → M Rs := fun rs ρ => if rs.length + 1 = n ∧ (roots rs).Nodup then match argL rs ρ with
    | some ss => match F (.ob none c [] [] :: ss) with
      | some (.p .none, s :: ss') => if s.tag = none then some (.ok (.own s) (wbL rs ss' ρ)) else none
      | _ => none
    | none => none
  else none
def rMake (K : PySem.W.Frag) (C : Addr) (n : Nat) (F : List Sl → Option (Sl × List Sl)) : List V → Hp → VK → Prop := fun vs H Q => ∀ x dx, H x = none → H dx = none → dx ≠ x → spD K n F (.ref x :: vs) (upd (upd H dx (.own x)) x (.ins C dx [])) (fun v H2 => v = .non ∧ Q (.ref x) H2) E0
open Classical in
theorem opMake_ok {K : PySem.W.Frag} {n : Nat} {c : Str} {C : Addr} {F : List Sl → Option (Sl × List Sl)} (hC : PySem.W.nsIn K mainGlobals c = some (some (.ref C))) : OpOk K (rMake K C n F) (opMake n c F) := by
  intro vs0 σ B H ρ fs vs rs Ts Q g ok nd r' ρ' e k
  unfold opMake at e
  split at e
  · rename_i hc
    obtain ⟨hn, hnd⟩ := hc
    split at e
    · rename_i ss e1
      split at e
      · rename_i s ss' e2
        split at e
        · rename_i htag
          cases e
          intro x dx hx hdx hne
          have hBx : B x = none := by
            cases q : B x with
            | none => rfl
            | some u => rw [g.ext x u q] at hx; cases hx
          have hBdx : B dx = none := by
            cases q : B dx with
            | none => rfl
            | some u => rw [g.ext dx u q] at hdx; cases hdx
          have up : ∀ b, H b ≠ none → upd (upd H dx (.own x)) x (.ins C dx []) b = H b := fun b hb => by
            rw [upd_ne (fun z => hb (by rw [z]; exact hx)), upd_ne (fun z => hb (by rw [z]; exact hdx))]
          have upx : upd (upd H dx (.own x)) x (.ins C dx []) x = some (.ins C dx []) := upd_same
          have updx : upd (upd H dx (.own x)) x (.ins C dx []) dx = some (.own x) := by rw [upd_ne hne, upd_same]
          generalize hH : upd (upd H dx (.own x)) x (.ins C dx []) = Hn at up upx updx
          have fr : Fr B H (InF fs) B Hn (UnF (InF fs) [x, dx]) := ⟨Same.refl B, fun b hb _ => up b hb, fun b hb => by rw [up b hb]; exact hb, fun b hb => by
            rcases hb with hb | hb
            · exact Or.inl hb
            · refine Or.inr ?_
              simp at hb
              rcases hb with z | z <;> rw [z]
              · exact hx
              · exact hdx, fun b _ _ hb => hb⟩
          have gn : Good K vs0 B Hn σ ρ fs := g.grow (F := fun _ => False) (F' := fun _ => False) ⟨Same.refl B, fun b hb _ => up b hb, fun b hb => by rw [up b hb]; exact hb, fun _ f => f.elim, fun b _ _ hb => hb⟩ (fun _ _ f => f) fun b u q => by
            have := g.ext b u q
            rw [up b (by rw [this]; simp)]
            exact this
          have okn : RsAll K B Hn σ fs vs rs Ts := RsAll.keep fr (fun a ha => Or.inl ha) ok ok.off
          have offx : ∀ b ∈ [x, dx], ∀ i, b ∉ fs i := fun b hb i hi => by
            have := g.lives hi
            simp at hb
            rcases hb with z | z <;> rw [z] at this
            · exact this hx
            · exact this hdx
          have ok2 : RsAll K B Hn σ fs (.ref x :: vs) (.own (.ob none c [] []) :: rs) ([x, dx] :: Ts) := ⟨⟨⟨x, dx, C, [], [], rfl, rfl, hC, upx, rfl, updx, trivial, by simp; exact fun z => hne z.symm⟩, rfl, fun b hb => ⟨by
            simp at hb
            rcases hb with z | z <;> rw [z]
            · exact hBx
            · exact hBdx, offx b hb⟩⟩, okn⟩
          have nd2 : ([x, dx] :: Ts).flatten.Nodup := by
            rw [List.flatten_cons, List.nodup_append]
            refine ⟨by simp; exact fun z => hne z.symm, nd, fun b hb b' hb' z => ?_⟩
            have := RsAll.live ok b' hb'
            rw [← z] at this
            simp at hb
            rcases hb with y | y <;> rw [y] at this
            · exact this hx
            · exact this hdx
          have e1' : argL (.own (.ob none c [] []) :: rs) ρ = some (.ob none c [] [] :: ss) := by
            unfold argL argR
            dsimp only
            rw [e1]
          obtain ⟨fsA, gA, tg, hvl, step⟩ := call_core gn ok2 nd2 (show (roots (.own (.ob none c [] []) :: rs)).Nodup from hnd) e1'
          refine ⟨by rw [hvl, List.length_cons]; exact hn, B, _, fsA, gA, tg, _, _, e2, fun v B' H' fs' T fr' g' okr => ?_⟩
          obtain ⟨⟨hv, hT⟩, _, _⟩ := okr
          have hv : v = .non := by cases hv; rfl
          subst hT
          refine ⟨hv, ?_⟩
          have g0 := g'.hole (i := 0) (s := s) rfl
          rw [htag] at g0
          obtain ⟨v0, y1, y2, y3⟩ := g'.at_ 0 s rfl
          cases y1
          obtain ⟨fs2, fr2, g2, t2⟩ := step (.hl none :: ss') B' H' (fun j => if j = 0 then [] else fs' j) (fs' 0) (fr'.weak (fun _ h => h) fun b hb => Or.inl (by
            rcases hb with ⟨j, hj⟩ | hb
            · try dsimp only at hj
              by_cases z : j = 0
              · rw [if_pos z] at hj; cases hj
              · rw [if_neg z] at hj; exact Or.inl ⟨j, hj⟩
            · exact Or.inl ⟨0, hb⟩)) g0 (fun b hb => ⟨g'.out 0 b hb, fun j hj => by
              try dsimp only at hj
              by_cases z : j = 0
              · rw [if_pos z] at hj; cases hj
              · rw [if_neg z] at hj; exact z (g'.dis j 0 b hj hb)⟩)
          refine k (.ref x) B' H' fs2 (fs' 0) ?_ g2 ⟨y2, htag, t2⟩
          refine ((fr.frame Ts.flatten).weak (fun _ h => h) (G' := UnF (InF fs) ([x, dx] :: Ts).flatten) fun b hb => Or.inl ?_).trans fr2
          rcases hb with hb | hb
          · exact Or.inl (Or.inl hb)
          · rw [List.flatten_cons, List.mem_append] at hb
            rcases hb with hb | hb
            · exact Or.inl (Or.inr hb)
            · exact Or.inr hb
        · cases e
      · cases e
    · cases e
  · cases e
/-- what is known of a class that is made -/
structure CalleeC (P : Program) (w : World) (K : PySem.W.Frag) (mg : Str → Option Value) (base : Heap) (k : Nat) (x c : Str) (n : Nat) (F : List Sl → Option (Sl × List Sl)) : Prop where
  ex : ∃ C f fd ps, PySem.W.nsIn K mainGlobals c = some (some (.ref C)) ∧ Mk K C f ∧ FnOk P w K mg base CX0 k f fd ps (spD K n F) ∧ mg x = some (.ref C) ∧ Binds K fd ps []
section
variable {X : Cx} {vs0 : List V} {k n : Nat} {F : List Sl → Option (Sl × List Sl)} {x c : Str} {p pos : Pos} {e : Expr} {es : List Expr} {fa : M (List Rs)}
theorem de_make (D : CalleeC X.prog X.w X.K X.mg X.base k x c n F) (hr : Room (k + 1) X.A) (hg : Gl X x) (ha : PA X (e :: es) (rdA X.K vs0 fa)) (hdb : (x == ("__debug__" : Str)) = false := by decide)
    (he : starEach (e :: es) X.env = (false, eval e X.env) :: starEach es X.env := by rfl) (hpl : (backTo pos (starEach es X.env)).any (·.1) = false := by rfl) :
    PE X (.Call (.Name x p) (e :: es) [] pos) (rdE X.K vs0 (M.bind fa (opMake n c F))) := by
  obtain ⟨C, f, fd, ps, hC, hM, Fn, hm, hb⟩ := D.ex
  refine PE.imp (pe_make (E := E0) hM Fn hr hg hm hb .nil pass0 ha hdb he hpl) fun σ H Q q => ?_
  have q2 := rd_op (opMake_ok hC) q
  obtain ⟨B, ρ, fs, gd, rs, ρ', e1, kk⟩ := q2
  refine ⟨B, ρ, fs, gd, rs, ρ', e1, fun vs B' H' fs' Ts a b c d => ?_⟩
  intro x dx hx hdx hne
  rw [List.append_nil]
  exact kk vs B' H' fs' Ts a b c d x dx hx hdx hne
theorem de_make0 (D : CalleeC X.prog X.w X.K X.mg X.base k x c n F) (hr : Room (k + 1) X.A) (hg : Gl X x) (hdb : (x == ("__debug__" : Str)) = false := by decide) :
    PE X (.Call (.Name x p) [] [] pos) (rdE X.K vs0 (M.bind aNil (opMake n c F))) := by
  obtain ⟨C, f, fd, ps, hC, hM, Fn, hm, hb⟩ := D.ex
  exact PE.imp (pe_make0 (E := E0) hM Fn hr hg hm hb .nil pass0 hdb) fun σ H Q q => rdA_nil (rd_op (opMake_ok hC) q)
end
end Pd

set_option Elab.async false
set_option linter.all false
set_option maxRecDepth 100000
set_option maxHeartbeats 2000000
namespace Pd
open PySem PySem.Spec PyProof.Rows L2
/-! ### a lent part that is a list is changed and put back -/
section
variable {K : PySem.W.Frag} {vs0 : List V} {B H : Hp} {σ : L2.St} {ρ : Env} {fs : Nat → List Addr} {v : V} {w : Sl} {i k : Nat} {T : List Addr} {tg t : Option Nat} {l : List D}
theorem good_mutL (g : Good K vs0 B H σ ρ fs) (ok : RsOk K B H σ fs v (.lent i w k) T) (hk : w.kid k = some (.ml tg l)) (hh : ρ[i]? = some (some (.hl t))) :
    ∃ a xs, v = .ref a ∧ H a = some (.lst xs) ∧ DpAll K B xs l ∧ ∀ (xs' : List V) (l' : List D), DpAll K B xs' l' →
      ∃ fs', Fr B H (UnF (InF fs) T) B (upd H a (.lst xs')) (InF fs') ∧ Good K vs0 B (upd H a (.lst xs')) σ (ρ.set i (some ((w.setKid k (.ml tg l')).retag t))) fs' := by
  obtain ⟨⟨v0, z1, z2, z3⟩, z4⟩ := ok
  obtain ⟨Tk, y1, y2, y3⟩ := z2.kid z3 hk
  obtain ⟨a, xs, rfl, rfl, h1, h2⟩ := y1
  have ha : a ∈ T := y2 a (by simp)
  have hi : i < ρ.length := (List.getElem?_eq_some_iff.mp hh).1
  refine ⟨a, xs, rfl, h1, h2, fun xs' l' hd => ?_⟩
  obtain ⟨T2, o2, hT2⟩ := y3 (B' := B) (H' := upd H a (.lst xs')) (c' := .ml tg l') (T' := [a]) (Same.refl B) (fun b hb hn => upd_ne fun q => hn (by rw [q]; simp)) ⟨a, xs', rfl, rfl, upd_same, hd⟩ (fun b hb _ => hb)
  have sub : ∀ b ∈ T2, b ∈ T := fun b hb => by
    rcases hT2 b hb with q | q
    · exact q.1
    · simp at q; rw [q]; exact ha
  refine ⟨fun j => if j = i then T2 else fs j, (Fr.mut (F := UnF (InF fs) T) (Or.inr ha)).weak (fun _ h => h) fun b hb => Or.inl ?_, ?_⟩
  · obtain ⟨j, hj⟩ := hb
    try dsimp only at hj
    by_cases e : j = i
    · rw [if_pos e] at hj; exact Or.inr (sub b hj)
    · rw [if_neg e] at hj; exact Or.inl ⟨j, hj⟩
  · have nB : B a = none := (z4 a ha).1
    refine ⟨fun b u e => ?_, by rw [List.length_set]; exact g.len, fun j s' h => ?_, fun j h => ?_, fun j j' b hb hb' => ?_, fun j b hb => ?_⟩
    · rw [upd_ne (fun z => by rw [z, nB] at e; cases e)]
      exact g.ext b u e
    · by_cases e : j = i
      · subst e
        rw [List.getElem?_set_self hi] at h
        cases h
        obtain ⟨v1, q1, _, q3⟩ := g.at_ j _ hh
        rw [z1] at q1
        cases q1
        exact ⟨v0, z1, by rw [if_pos rfl]; exact o2.retag', fun m hm => q3 m (Sl.retag_tag hm)⟩
      · rw [List.getElem?_set_ne (Ne.symm e)] at h
        obtain ⟨v', y1, y2, y3⟩ := g.at_ j s' h
        refine ⟨v', y1, ?_, y3⟩
        rw [if_neg e]
        exact y2.keep (Same.refl B) fun b hb => upd_ne fun z => (z4 a ha).2 j (z ▸ hb)
    · by_cases e : j = i
      · subst e
        exact (h _ (List.getElem?_set_self hi)).elim
      · rw [if_neg e]
        exact g.emp j fun s' z => h s' (by rw [List.getElem?_set_ne (Ne.symm e)]; exact z)
    · by_cases e : j = i
      · by_cases e' : j' = i
        · rw [e, e']
        · rw [if_pos e] at hb; rw [if_neg e'] at hb'
          exact ((z4 b (sub b hb)).2 j' hb').elim
      · by_cases e' : j' = i
        · rw [if_neg e] at hb; rw [if_pos e'] at hb'
          exact ((z4 b (sub b hb')).2 j hb).elim
        · rw [if_neg e] at hb; rw [if_neg e'] at hb'; exact g.dis j j' b hb hb'
    · by_cases e : j = i
      · rw [if_pos e] at hb; exact (z4 b (sub b hb)).1
      · rw [if_neg e] at hb; exact g.out j b hb
end
end Pd

set_option Elab.async false
set_option linter.all false
set_option maxRecDepth 100000
set_option maxHeartbeats 2000000
namespace Pd
open PySem PySem.Spec PyProof.Rows L2
/-! ### o[i] = e, o a lent list -/
def setSubL (o i : Rs) (d : D) : M Fl := fun ρ => match o with
  | .lent j w k => match w.kid k, ρ[j]? with
    | some (.ml tg l), some (some (.hl t)) => match i.view ρ with
      | some (.int m) => match ixN l.length m with
        | some q => some (.ok .nx (ρ.set j (some ((w.setKid k (.ml tg (l.set q d))).retag t))))
        | none => none
      | _ => none
    | _, _ => none
  | _ => none
def gSubL (f fo fi : M Rs) : M Fl := M.bind f fun r => M.bind (freezeR r) fun d => M.bind fo fun o => M.bind fi fun i => setSubL o i d
theorem ds_subL {X : Cx} {vs0 : List V} {e o i : Expr} {f fo fi : M Rs} {pos tpos : Pos} (he : PE X e (rdE X.K vs0 f)) (ho : PE X o (rdE X.K vs0 fo)) (hi : PE X i (rdE X.K vs0 fi))
    (ha : ∀ v, assign (.Subscript o i tpos) X.env v = (do
      let ov ← holding [v] (eval o X.env)
      let iv ← holding [v, ov] (eval i X.env)
      standAt tpos
      holding [v, ov, iv] (setItem ov iv v)
      release [v, ov, iv] []) := by intro _; rfl)
    (hs : swapsWithSole [.Subscript o i tpos] e pos.line X.env = pure false := by rfl) (hw : swappedStores [.Subscript o i tpos] e X.env = pure none := by rfl)
    (h1 : (assignEach [.Subscript o i tpos] X.env).map (·.2) = [assign (.Subscript o i tpos) X.env] := by rfl) :
    PS X (.Assign [.Subscript o i tpos] e pos) (rdS X.K vs0 (gSubL f fo fi)) := PS.imp (ps_asg he (pg_sub ho hi set_list ha) hs hw h1) fun D σ H q => by
  obtain ⟨B, ρ, fs, gd, fl, ρ', e1, k⟩ := q
  obtain ⟨r, ρ1, e2, e3⟩ := M.bind_ok e1
  obtain ⟨d, ρ2, e4, e5⟩ := M.bind_ok e3
  obtain ⟨ro, ρ3, e6, e7⟩ := M.bind_ok e5
  obtain ⟨ri, ρ4, e8, e9⟩ := M.bind_ok e7
  refine ⟨B, ρ, fs, gd, r, ρ1, e2, fun v B1 H1 fs1 T1 fr1 g1 ok1 => ?_⟩
  obtain ⟨B2, fs2, fr2, g2, d2⟩ := freezeR_ok g1 ok1 e4
  refine ⟨B2, ρ2, fs2, g2, ro, ρ3, e6, fun u B3 H3 fs3 T3 fr3 g3 ok3 => ⟨B3, ρ3, fs3, g3, ri, ρ4, e8, fun w B4 H4 fs4 T4 fr4 g4 ok4 => ?_⟩⟩
  unfold setSubL at e9
  cases ro with
  | own s => cases e9
  | bor j => cases e9
  | lent j w0 k0 =>
  dsimp only at e9
  split at e9
  · rename_i tg l t hk hh
    split at e9
    · rename_i m e11
      split at e9
      · rename_i q e12
        cases e9
        have ok5 : RsOk X.K B4 H4 σ fs4 u (.lent j w0 k0) T3 := ok3.keep fr4 ok3.off fun a h => Or.inl h
        obtain ⟨a, xs, rfl, q2, q3, put⟩ := good_mutL g4 ok5 hk hh
        have dv : Dp X.K B4 v d := Dp.mono ((fr3.bb).trans fr4.bb) d2
        obtain ⟨fs5, fr5, g5⟩ := put (xs.set q v) (l.set q d) (DpAll.set q q3 dv)
        refine ⟨a, xs, m, q, rfl, (view_ok g4 ok4 e11).int, q2, by rw [DpAll.length q3]; exact e12, ?_⟩
        refine k σ B4 _ fs5 ((fr1.trans fr2).trans (fr3.trans (((fr4.frame T3).weak (fun _ h => h) (G' := UnF (InF fs4) T3) fun b hb => Or.inl ?_).trans fr5))) g5
        rcases hb with hb | hb
        · exact Or.inl (Or.inl hb)
        · exact Or.inr hb
      · cases e9
    · cases e9
  · cases e9
end Pd

set_option Elab.async false
set_option linter.all false
set_option maxRecDepth 100000
set_option maxHeartbeats 2000000
namespace Pd
open PySem PySem.Spec PyProof.Rows L2
/-! ### o[i] op= e, o a lent list of ints there -/
def addSubL (f : Int → Int → Int) (fe : M Rs) (o i : Rs) : M Fl := fun ρ => match o with
  | .lent j w k0 => match w.kid k0, ρ[j]?, i.view ρ with
    | some (.ml tg l), some (some (.hl _)), some (.int k) => if 0 ≤ k then match l[k.toNat]? with
        | some (.int x) => M.bind fe (fun r ρ1 => match r.view ρ1, ρ1[j]? with
          | some (.int y), some (some (.hl t1)) => some (.ok .nx (ρ1.set j (some ((w.setKid k0 (.ml tg (l.set k.toNat (.int (f x y))))).retag t1))))
          | _, _ => none) ρ
        | _ => none
      else none
    | _, _, _ => none
  | _ => none
def gAugL (f : Int → Int → Int) (fo fi fe : M Rs) : M Fl := M.bind fo fun o => M.bind fi fun i => addSubL f fe o i
theorem ds_augL {X : Cx} {vs0 : List V} {o i e : Expr} {fo fi fe : M Rs} {op : Operator} {f : Int → Int → Int} {pos tpos : Pos} (hp : PIp X op (ipI f)) (ho : PE X o (rdE X.K vs0 fo)) (hi : PE X i (rdE X.K vs0 fi)) (he : PE X e (rdE X.K vs0 fe))
    (ha : ∀ ov iv new, augStore i ov iv new = (do holding [new, ov, iv] (setItem ov iv new); release [new, ov, iv] []; pure .next) := by intros; rfl) : PS X (.AugAssign (.Subscript o i tpos) op e pos) (rdS X.K vs0 (gAugL f fo fi fe)) :=
  PS.imp (ps_augS ho hi get_list he hp set_list ha) fun D σ H q => by
  obtain ⟨B, ρ, fs, gd, fl, ρ', e1, kk⟩ := q
  obtain ⟨ro, ρ1, e2, e3⟩ := M.bind_ok e1
  obtain ⟨ri, ρ2, e4, e5⟩ := M.bind_ok e3
  refine ⟨B, ρ, fs, gd, ro, ρ1, e2, fun u B1 H1 fs1 T1 fr1 g1 ok1 => ⟨B1, ρ1, fs1, g1, ri, ρ2, e4, fun w B2 H2 fs2 T2 fr2 g2 ok2 => ?_⟩⟩
  unfold addSubL at e5
  cases ro with
  | own s => cases e5
  | bor j => cases e5
  | lent j w0 k0 =>
  dsimp only at e5
  split at e5
  · rename_i tg l t k hk0 hh h2
    split at e5
    · rename_i h0
      split at e5
      · rename_i x h3
        have okA : RsOk X.K B2 H2 σ fs2 u (.lent j w0 k0) T1 := ok1.keep fr2 ok1.off fun a h => Or.inl h
        obtain ⟨a, xs, rfl, q2, q3, _⟩ := good_mutL g2 okA hk0 hh
        obtain ⟨zv, hz1, hz2⟩ := DpAll.get q3 h3
        cases hz2
        refine ⟨a, xs, k, k.toNat, _, rfl, (view_ok g2 ok2 h2).int, h0, rfl, q2, hz1, ?_⟩
        obtain ⟨r, ρ3, e6, e7⟩ := M.bind_ok e5
        refine ⟨B2, ρ2, fs2, g2, r, ρ3, e6, fun v3 B3 H3 fs3 T3 fr3 g3 ok3 => ?_⟩
        split at e7
        · rename_i y t1 h4 h5
          cases e7
          have okB : RsOk X.K B3 H3 σ fs3 (.ref a) (.lent j w0 k0) T1 := okA.keep fr3 okA.off fun a h => Or.inl h
          obtain ⟨a4, xs4, e8, q5, q6, put⟩ := good_mutL g3 okB hk0 h5
          cases e8
          have hlt : k.toNat < l.length := (List.getElem?_eq_some_iff.mp h3).1
          have hix : ixN xs4.length k = some k.toNat := by
            unfold ixN
            rw [if_pos h0, if_pos (by rw [DpAll.length q6]; omega)]
          refine ⟨x, y, rfl, (view_ok g3 ok3 h4).int, a, xs4, k, k.toNat, rfl, (view_ok g2 ok2 h2).int, q5, hix, ?_⟩
          obtain ⟨fs5, fr5, g5⟩ := put (xs4.set k.toNat (.int (f x y))) (l.set k.toNat (.int (f x y))) (DpAll.set _ q6 (.int _))
          have drop : ∀ {B B' H H' : Hp} {F : Addr → Prop} {fs : Nat → List Addr} {T : List Addr}, Fr B H F B' H' (UnF (UnF (InF fs) T) T1) → Fr B H F B' H' (UnF (InF fs) T1) := fun h => h.weak (fun _ h => h) fun b hb => Or.inl (by
            rcases hb with hb | hb
            · exact Or.inl (Or.inl hb)
            · exact Or.inr hb)
          exact kk σ B3 _ fs5 (fr1.trans ((drop (fr2.frame T1)).trans ((drop (fr3.frame T1)).trans fr5))) g5
        · cases e7
      · cases e5
    · cases e5
  · cases e5
theorem ds_augLAdd {X : Cx} {vs0 : List V} {o i e : Expr} {fo fi fe : M Rs} {pos tpos : Pos} (ho : PE X o (rdE X.K vs0 fo)) (hi : PE X i (rdE X.K vs0 fi)) (he : PE X e (rdE X.K vs0 fe))
    (ha : ∀ ov iv new, augStore i ov iv new = (do holding [new, ov, iv] (setItem ov iv new); release [new, ov, iv] []; pure .next) := by intros; rfl) : PS X (.AugAssign (.Subscript o i tpos) .Add e pos) (rdS X.K vs0 (gAugL (fun a b => a + b) fo fi fe)) := ds_augL ip_add ho hi he ha
end Pd

set_option Elab.async false
set_option linter.all false
set_option maxRecDepth 100000
set_option maxHeartbeats 2000000
namespace Pd
open PySem PySem.Spec PyProof.Rows L2
/-! ### o[i], o[a:b] where o is perhaps a lent part -/
theorem pIx_ok {K : PySem.W.Frag} : ∀ B H vs ds res Q, Same B H → ShAll K B H vs ds → pIx ds = some res → ResK K B H Q res → r2 (rIx K) vs H Q := fun B H vs ds res Q e hs hp k => by
  unfold pIx at hp
  split at hp
  · rename_i l i
    obtain ⟨x, y, rfl, ⟨p, xs, rfl, s1, d1⟩, h2⟩ := hs.two
    cases e1 : atI l i with
    | none => rw [e1] at hp; cases hp
    | some d =>
      rw [e1] at hp
      cases hp
      obtain ⟨v, e2, hv⟩ := atI_dp d1 e1
      exact ⟨_, _, rfl, Or.inl ⟨p, xs, i, v, rfl, h2.int, s1, e2, k.same e hv⟩⟩
  · rename_i l i
    obtain ⟨x, y, rfl, h1, h2⟩ := hs.two
    obtain ⟨p, xs, rfl, s1, d1⟩ := h1.tup
    cases e1 : atI l i with
    | none => rw [e1] at hp; cases hp
    | some d =>
      rw [e1] at hp
      cases hp
      obtain ⟨v, e2, hv⟩ := atI_dp d1 e1
      exact ⟨_, _, rfl, Or.inr (Or.inl ⟨p, xs, i, v, rfl, h2.int, sqt_mono e s1, e2, k.same e hv⟩)⟩
  · rename_i z i
    split at hp
    · rename_i hz
      obtain ⟨x, y, rfl, h1, h2⟩ := hs.two
      cases e1 : atI z.cps.toList i with
      | none => rw [e1] at hp; cases hp
      | some c =>
        rw [e1] at hp
        cases hp
        exact ⟨_, _, rfl, Or.inr (Or.inr ⟨z, i, c, h1.str, h2.int, hz, e1, k.str e⟩)⟩
    · cases hp
  · cases hp
noncomputable def oIxA := opGA pIx
theorem oIxA_ok {K : PySem.W.Frag} : OpOk K (r2 (rIx K)) oIxA := opGA_ok pIx_ok
section
variable {X : Cx} {vs0 : List V} {K : PySem.W.Frag}
theorem pSl_ok (lo hi : Option Int) : ∀ B H vs ds res Q, Same B H → ShAll K B H vs ds → pSl lo hi ds = some res → ResK K B H Q res → (fun vs H Q => ∃ x, vs = [x] ∧ rSlAll K x lo hi H Q) vs H Q := fun B H vs ds res Q e hs hp k => by
  unfold pSl at hp
  split at hp
  · obtain ⟨x, rfl, p, xs, rfl, s1, d1⟩ := hs.one
    cases hp
    exact ⟨_, rfl, Or.inl ⟨p, xs, rfl, s1, fun t ht => k t _ ht (cut_dp d1 lo hi)⟩⟩
  · rename_i l
    obtain ⟨x, rfl, h1⟩ := hs.one
    obtain ⟨p, xs, rfl, s1, d1⟩ := h1.tup
    cases hp
    refine ⟨_, rfl, Or.inr (Or.inl ⟨p, xs, rfl, sqt_mono e s1, fun hw => ?_, fun _ t ht => k.tup e ht (cut_dp d1 lo hi)⟩)⟩
    have hc : cutD l lo hi = l := by
      unfold cutD
      rw [← DpAll.length d1, hw.1, hw.2, DpAll.length d1]
      simp
    rw [hc] at k
    exact k.same e (.tup s1 d1)
  · split at hp
    · rename_i z hz
      obtain ⟨x, rfl, h1⟩ := hs.one
      cases hp
      exact ⟨_, rfl, Or.inr (Or.inr ⟨z, h1.str, hz, k.str e⟩)⟩
    · cases hp
  · cases hp
noncomputable def oSlA (lo hi : Option Int) := opGA (pSl lo hi)
theorem oSlA_ok (lo hi : Option Int) : OpOk K (fun vs H Q => ∃ x, vs = [x] ∧ rSlAll K x lo hi H Q) (oSlA lo hi) := opGA_ok (pSl_ok lo hi)
theorem de_sliceA {e : Expr} {lo hi : Option Expr} {fe : M Rs} {fl fh : M (Option Int)} {pos p2 : Pos} (he : PE X e (rdE X.K vs0 fe)) (hl : PO X lo (rdO X.K vs0 fl)) (hu : PO X hi (rdO X.K vs0 fh)) :
    PE X (.Subscript e (.Slice lo hi none p2) pos) (rdE X.K vs0 (eSl fe fl fh oSlA)) := PE.imp (pe_slice sl_all he hl hu) fun σ H Q q => rd_sl oSlA_ok q
end
/-! ### o.f = y, and what it leaves -/
section
variable {K : PySem.W.Frag} {vs0 : List V} {σ : L2.St} {B1 H1 : Hp} {ρ1 : Env} {fs1 : Nat → List Addr} {c f : Str} {i : Nat} {t : Option Nat} {ns : List Str} {l : List Sl} {s : Sl} {v : V} {T1 : List Addr} {C : Addr}
theorem good_setA (hC : PySem.W.nsIn K mainGlobals c = some (some (.ref C))) (g1 : Good K vs0 B1 H1 σ ρ1 fs1) (ok1 : RsOk K B1 H1 σ fs1 v (.own s) T1) (e0 : ρ1[i]? = some (some (.ob t c ns l))) :
    ∃ a dx vs, σ[i]? = some (some (.ref a)) ∧ H1 a = some (.ins C dx (ns.zip vs)) ∧ ns.length = vs.length ∧ vs.length = l.length ∧ ∃ fs', Fr B1 H1 (UnF (InF fs1) T1) B1 (upd H1 a (.ins C dx (putF f v (ns.zip vs)))) (InF fs') ∧
      Good K vs0 B1 (upd H1 a (.ins C dx (putF f v (ns.zip vs)))) σ (ρ1.set i (some (.ob t c (setAt f ns l s).1 (setAt f ns l s).2))) fs' := by
  obtain ⟨v0, h1, h2, h3⟩ := g1.at_ i _ e0
  obtain ⟨a, dx, C', vs, Ts, rfl, eT, q1, q2, q3, q4, q5, q6⟩ := h2
  rw [hC] at q1
  cases q1
  rw [eT] at q6
  have hi : i < ρ1.length := (List.getElem?_eq_some_iff.mp e0).1
  have ain : a ∈ fs1 i := by rw [eT]; exact List.mem_cons_self ..
  obtain ⟨T2, o2, hT2⟩ := own_set (f := f) (t := t) hC q3 q4 q5 q6 ok1.1 fun b hb => by
    rw [← eT]
    exact (ok1.2.2 b hb).2 i
  have hT2' : ∀ b ∈ T2, b ∈ fs1 i ∨ b ∈ T1 := fun b hb => by rw [eT]; exact hT2 b hb
  refine ⟨a, dx, vs, h1, q2, q3, q5.len2.1, fun j => if j = i then T2 else fs1 j, ?_, ?_⟩
  · refine (Fr.mut (F := UnF (InF fs1) T1) (Or.inl ⟨i, ain⟩)).weak (fun _ h => h) fun b hb => Or.inl ?_
    obtain ⟨j, hj⟩ := hb
    dsimp only at hj
    by_cases e : j = i
    · rw [if_pos e] at hj
      rcases hT2' b hj with z | z
      · exact Or.inl ⟨i, z⟩
      · exact Or.inr z
    · rw [if_neg e] at hj
      exact Or.inl ⟨j, hj⟩
  · have nB : B1 a = none := g1.out i a ain
    refine ⟨fun b u e => ?_, by rw [List.length_set]; exact g1.len, fun j s' h => ?_, fun j h => ?_, fun j j' b hb hb' => ?_, fun j b hb => ?_⟩
    · rw [upd_ne (fun z => by rw [z, nB] at e; cases e)]
      exact g1.ext b u e
    · by_cases e : j = i
      · subst e
        rw [List.getElem?_set_self hi] at h
        cases h
        exact ⟨.ref a, h1, by rw [if_pos rfl]; exact o2, h3⟩
      · rw [List.getElem?_set_ne (Ne.symm e)] at h
        obtain ⟨v', y1, y2, y3⟩ := g1.at_ j s' h
        refine ⟨v', y1, ?_, y3⟩
        rw [if_neg e]
        exact y2.keep (Same.refl B1) fun b hb => upd_ne fun z => e (g1.dis j i b hb (z ▸ ain))
    · by_cases e : j = i
      · subst e
        exact (h _ (List.getElem?_set_self hi)).elim
      · rw [if_neg e]
        exact g1.emp j fun s' z => h s' (by rw [List.getElem?_set_ne (Ne.symm e)]; exact z)
    · by_cases e : j = i
      · by_cases e' : j' = i
        · rw [e, e']
        · rw [if_pos e] at hb; rw [if_neg e'] at hb'
          rcases hT2' b hb with z | z
          · exact e.trans (g1.dis i j' b z hb')
          · exact ((ok1.2.2 b z).2 j' hb').elim
      · by_cases e' : j' = i
        · rw [if_neg e] at hb; rw [if_pos e'] at hb'
          rcases hT2' b hb' with z | z
          · exact (g1.dis j i b hb z).trans e'.symm
          · exact ((ok1.2.2 b z).2 j hb).elim
        · rw [if_neg e] at hb; rw [if_neg e'] at hb'; exact g1.dis j j' b hb hb'
    · by_cases e : j = i
      · rw [if_pos e] at hb
        rcases hT2' b hb with z | z
        · exact g1.out i b z
        · exact (ok1.2.2 b z).1
      · rw [if_neg e] at hb; exact g1.out j b hb
end
/-! ### o.f op= e, an int there -/
def gAugA (op : Int → Int → Int) (c f : Str) (i : Nat) (fe : M Rs) : M Fl := fun ρ => match ρ[i]? with
  | some (some (.ob t c' ns l)) => if c' = c then match ixOf f ns with
      | some k => match l[k]? with
        | some (.p (.int x)) => M.bind fe (fun r ρ1 => match r.view ρ1, ρ1[i]? with
          | some (.int y), some (some (.ob t1 c1 ns1 l1)) => if c1 = c ∧ ns1.length < 1000 then some (.ok .nx (ρ1.set i (some (.ob t1 c1 (setAt f ns1 l1 (.p (.int (op x y)))).1 (setAt f ns1 l1 (.p (.int (op x y)))).2)))) else none
          | _, _ => none) ρ
        | _ => none
      | none => none
    else none
  | _ => none
def augInt (op : Int → Int → Int) : V → V → Hp → VK → Prop := fun x y H Q => ∃ i j, x = .int i ∧ y = .int j ∧ Q (.int (op i j)) H
theorem rd_gAugA {K : PySem.W.Frag} {vs0 : List V} {σ : L2.St} {H : Hp} {c f : Str} {i : Nat} {fe : M Rs} {D : Ends} {C : Addr} {op : Int → Int → Int} (hC : PySem.W.nsIn K mainGlobals c = some (some (.ref C))) (hc : Cls K C) (hn : NoAttr K C f)
    (q : rdS K vs0 (gAugA op c f i fe) D σ H) : sFldAug K (tVar i) (rdE K vs0 fe) (augInt op) f D σ H := by
  obtain ⟨B, ρ, fs, g, fl, ρ', e1, k⟩ := q
  unfold gAugA at e1
  split at e1
  · rename_i t c' ns l e0
    split at e1
    · rename_i ec
      subst ec
      split at e1
      · rename_i kk hk
        split at e1
        · rename_i x hx
          obtain ⟨r, ρ1, e2, e3⟩ := M.bind_ok e1
          obtain ⟨v0, h1, h2, h3⟩ := g.at_ i _ e0
          obtain ⟨a, dx, C', vs, Ts, rfl, eT, q1, q2, q3, q4, q5, q6⟩ := h2
          rw [hC] at q1
          cases q1
          obtain ⟨v, hv, hlk⟩ := ixOf_at hk q3
          obtain ⟨v', T', w1, w2, w3⟩ := OwnL.get q5 hx
          rw [hv] at w1
          cases w1
          have hvi : v = .int x := by
            have := w3.1
            cases this
            rfl
          subst hvi
          refine ⟨.ref a, h1, a, C, dx, _, _, rfl, q2, hc, hn, hlk, B, ρ, fs, g, r, ρ1, e2, fun y B1 H1 fs1 T1 fr1 g1 ok1 => ?_⟩
          split at e3
          · rename_i yv t1 c1 ns1 l1 hy e4
            split at e3
            · rename_i hcond
              obtain ⟨ec1, hlen⟩ := hcond
              subst ec1
              cases e3
              refine ⟨x, yv, rfl, (view_ok g1 ok1 hy).int, ?_⟩
              have okn : RsOk K B1 H1 σ fs1 (.int (op x yv)) (.own (.p (.int (op x yv)))) [] := ⟨⟨.int _, rfl⟩, rfl, fun a ha => nomatch ha⟩
              obtain ⟨a', dx', vs', y1, y2, y3, y4, fs', fr', g'⟩ := good_setA (f := f) hC g1 okn e4
              rw [h1] at y1
              cases y1
              refine ⟨dx', _, y2, by rw [List.length_zip, ← y3]; omega, ?_⟩
              refine k σ B1 _ fs' ?_ g'
              refine fr1.trans (fr'.weak (fun b hb => ?_) fun b hb => Or.inl hb)
              rcases hb with hb | hb
              · exact Or.inl hb
              · cases hb
            · cases e3
          · cases e3
        · cases e1
      · cases e1
    · cases e1
  · cases e1
theorem ds_attrAug {X : Cx} {vs0 : List V} {c f : Str} {i : Nat} {o value : Expr} {oper : Operator} {pos tpos : Pos} {fe : M Rs} {op : Int → Int → Int} (hop : InOp X oper (augInt op)) (A : AttrIs X.K c f) (ho : PE X o (tVar i)) (hv : PE X value (rdE X.K vs0 fe)) :
    PS X (.AugAssign (.Attribute o f tpos) oper value pos) (rdS X.K vs0 (gAugA op c f i fe)) := by
  obtain ⟨C, hC, hc, hn⟩ := A.ex
  exact PS.imp (ps_fldaug ho hv hop) fun D σ H q => rd_gAugA hC hc hn q
theorem ds_attrAdd {X : Cx} {vs0 : List V} {c f : Str} {i : Nat} {o value : Expr} {pos tpos : Pos} {fe : M Rs} (A : AttrIs X.K c f) (ho : PE X o (tVar i)) (hv : PE X value (rdE X.K vs0 fe)) :
    PS X (.AugAssign (.Attribute o f tpos) .Add value pos) (rdS X.K vs0 (gAugA (fun a b => a + b) c f i fe)) := ds_attrAug in_add A ho hv
/-! ### x *= e, x //= e -/
open Classical in
noncomputable def gAugC (c : Int → Int → Prop) (f : Int → Int → Int) (i : Nat) (fe : M Rs) : M Fl := fun ρ => match ρ[i]? with
  | some (some (.p (.int x))) => M.bind fe (fun r ρ1 => match r.view ρ1 with
    | some (.int y) => if c x y ∧ i < ρ1.length then some (.ok .nx (ρ1.set i (some (.p (.int (f x y)))))) else none
    | _ => none) ρ
  | _ => none
def ipC (c : Int → Int → Prop) (f : Int → Int → Int) : TIp := fun x y H Q => ∃ i j, x = .int i ∧ y = .int j ∧ c i j ∧ Q (.int (f i j)) H
theorem ip_mulW {X : Cx} : PIp X .Mult (ipC CMulW fun i j => i * j) := by
  intro pins s σ H x y v u Q I r1 r2 h
  obtain ⟨i, j, e1, e2, hc, q⟩ := h
  subst e1; subst e2
  obtain ⟨t, rfl⟩ := r1
  obtain ⟨t', rfl⟩ := r2
  exact imul_int ⟨.int _, H, I.tok _, ⟨_, rfl⟩, q⟩ hc.ok
theorem ip_divW {X : Cx} : PIp X .FloorDiv (ipC CDivW fun i j => i / j) := by
  intro pins s σ H x y v u Q I r1 r2 h
  obtain ⟨i, j, e1, e2, hc, q⟩ := h
  subst e1; subst e2
  obtain ⟨t, rfl⟩ := r1
  obtain ⟨t', rfl⟩ := r2
  have h1 : (0 : Int) < j := hc.1
  have hp := PyProof.noPylong_of_log2 (x := i) hc.2
  refine AutoIntOps.ifloordiv_1 (by simp; omega) (by rw [hp]; decide) ?_
  rw [Int.fdiv_eq_ediv_of_nonneg i (by omega)]
  exact ⟨.int _, H, I.tok _, ⟨_, rfl⟩, q⟩
theorem ds_augC {X : Cx} {vs0 : List V} {i : Nat} {x : Str} {e : Expr} {fe : M Rs} {op : Operator} {c : Int → Int → Prop} {f : Int → Int → Int} {pos pos' : Pos} (ho : PIp X op (ipC c f)) (hN : X.N.Nodup) (hi : X.N[i]? = some x) (hx : Loc X.env.scope x) (he : PE X e (rdE X.K vs0 fe)) (hf : X.fn x = true ∨ X.env.scope.names.lookup x = some .local := by first | exact .inl rfl | exact .inr rfl | assumption) :
    PS X (.AugAssign (.Name x pos') op e pos) (rdS X.K vs0 (gAugC c f i fe)) := PS.imp (ps_aug hN hi hx he ho hf) fun D σ H q => by
  obtain ⟨B, ρ, fs, gd, fl, ρ', e1, k⟩ := q
  unfold gAugC at e1
  split at e1
  · rename_i x e2
    obtain ⟨r, ρ1, e3, e4⟩ := M.bind_ok e1
    split at e4
    · rename_i y e5
      split at e4
      · rename_i hl
        cases e4
        obtain ⟨v, q1, q2, _⟩ := gd.at_ i _ e2
        cases q2.1
        refine ⟨_, q1, B, ρ, fs, gd, r, ρ1, e3, fun u B1 H1 fs1 T1 fr1 g1 ok1 => ⟨x, y, rfl, (view_ok g1 ok1 e5).int, hl.1, ?_⟩⟩
        refine k _ B1 H1 _ ((fr_drop fr1).weak (fun _ h => h) fun a h => Or.inl ?_) (g1.put hl.2 (s := .p (.int (f x y))) (T := []) ⟨.int _, rfl⟩ (fun k h => nomatch h) fun a h => nomatch h)
        obtain ⟨j, hj⟩ := h
        try dsimp only at hj
        by_cases q : j = i
        · rw [if_pos q] at hj; cases hj
        · rw [if_neg q] at hj; exact ⟨j, hj⟩
      · cases e4
    · cases e4
  · cases e1
noncomputable abbrev gAugMul := gAugC CMulW fun a b => a * b
noncomputable abbrev gAugDiv := gAugC CDivW fun a b => a / b
theorem ds_augMul {X : Cx} {vs0 : List V} {i : Nat} {x : Str} {e : Expr} {fe : M Rs} {pos pos' : Pos} (hN : X.N.Nodup) (hi : X.N[i]? = some x) (hx : Loc X.env.scope x) (he : PE X e (rdE X.K vs0 fe)) (hf : X.fn x = true ∨ X.env.scope.names.lookup x = some .local := by first | exact .inl rfl | exact .inr rfl | assumption) :
    PS X (.AugAssign (.Name x pos') .Mult e pos) (rdS X.K vs0 (gAugMul i fe)) := ds_augC ip_mulW hN hi hx he hf
theorem ds_augDiv {X : Cx} {vs0 : List V} {i : Nat} {x : Str} {e : Expr} {fe : M Rs} {pos pos' : Pos} (hN : X.N.Nodup) (hi : X.N[i]? = some x) (hx : Loc X.env.scope x) (he : PE X e (rdE X.K vs0 fe)) (hf : X.fn x = true ∨ X.env.scope.names.lookup x = some .local := by first | exact .inl rfl | exact .inr rfl | assumption) :
    PS X (.AugAssign (.Name x pos') .FloorDiv e pos) (rdS X.K vs0 (gAugDiv i fe)) := ds_augC ip_divW hN hi hx he hf
end Pd

set_option Elab.async false
set_option linter.all false
set_option maxRecDepth 100000
set_option maxHeartbeats 1000000
namespace Pd
open PySem PySem.Spec PyProof.Rows L2
namespace B
section
variable {ρ : Env}
def glQ (pf : List D → Option Rd') (rs : List Rs) (ρ : Env) (Q : Rs → Env → Prop) : Option (List Sl) → Prop
  | some ss => ∃ ds res, datAll ss = some ds ∧ pf ds = some res ∧ Q res.rs (wbL rs ss ρ)
  | none => False
theorem ev_opGL {pf : List D → Option Rd'} {rs : List Rs} {Q : Rs → Env → Prop} : Ev (opGL pf rs) ρ Q ↔ (roots rs).Nodup ∧ glQ pf rs ρ Q (argL rs ρ) := by
  constructor
  · rintro ⟨r, ρ', e, q⟩
    unfold opGL at e
    split at e
    · rename_i h
      split at e
      · rename_i ss h1
        split at e
        · rename_i ds h2
          split at e
          · rename_i res h3
            cases e
            rw [h1]
            exact ⟨h, ds, res, h2, h3, q⟩
          · cases e
        · cases e
      · cases e
    · cases e
  · rintro ⟨h, q⟩
    unfold glQ at q
    split at q
    · rename_i ss h1
      obtain ⟨ds, res, h2, h3, q⟩ := q
      refine ⟨_, _, ?_, q⟩
      unfold opGL
      rw [if_pos h, h1]
      dsimp only
      rw [h2]
      dsimp only
      rw [h3]
    · exact q.elim
theorem ev_callL {n : Nat} {F : List Sl → Option (Sl × List Sl)} {rs : List Rs} {ss : List Sl} {Q : Rs → Env → Prop} (hn : rs.length = n) (hd : (roots rs).Nodup) (ha : argL rs ρ = some ss) (h : Sp F ss fun r ss' => Q (.own r) (wbL rs ss' ρ)) : Ev (opCallL n F rs) ρ Q := by
  obtain ⟨r, ss', e, q⟩ := h
  refine ⟨_, _, ?_, q⟩
  unfold opCallL
  rw [if_pos ⟨hn, hd⟩, ha]
  dsimp only
  rw [e]
theorem ev_make {n : Nat} {c : Str} {F : List Sl → Option (Sl × List Sl)} {rs : List Rs} {ss : List Sl} {Q : Rs → Env → Prop} (hn : rs.length + 1 = n) (hd : (roots rs).Nodup) (ha : argL rs ρ = some ss)
    (h : Sp F (.ob none c [] [] :: ss) fun r ss' => ∃ s ss2, r = .p .none ∧ ss' = s :: ss2 ∧ s.tag = none ∧ Q (.own s) (wbL rs ss2 ρ)) : Ev (opMake n c F rs) ρ Q := by
  obtain ⟨r, ss', e, s, ss2, rfl, rfl, ht, q⟩ := h
  refine ⟨_, _, ?_, q⟩
  unfold opMake
  rw [if_pos ⟨hn, hd⟩, ha]
  dsimp only
  rw [e]
  dsimp only
  rw [if_pos ht]
theorem ev_gAttr {c f : Str} {i : Nat} {fe : M Rs} {Q : Fl → Env → Prop} (h : Ev fe ρ fun r ρ1 => ∃ s t ns l, r = .own s ∧ ρ1[i]? = some (some (.ob t c ns l)) ∧ ns.length < 1000 ∧ Q .nx (ρ1.set i (some (.ob t c (setAt f ns l s).1 (setAt f ns l s).2)))) : Ev (gAttr c f i fe) ρ Q := by
  obtain ⟨r, ρ1, e, s, t, ns, l, rfl, h1, h2, q⟩ := h
  refine ⟨_, _, ?_, q⟩
  unfold gAttr M.bind
  rw [e]
  dsimp only
  rw [h1]
  dsimp only
  rw [if_pos ⟨rfl, h2⟩]
end
end B
end Pd

set_option Elab.async false
set_option linter.all false
set_option maxRecDepth 100000
set_option maxHeartbeats 1000000
namespace Pd
open PySem PySem.Spec PyProof.Rows L2
namespace B
section
variable {ρ : Env}
theorem ev_attrP {c f : Str} {i k : Nat} {t : Option Nat} {ns : List Str} {l : List Sl} {d : D} {Q : Rs → Env → Prop} (h : ρ[i]? = some (some (.ob t c ns l))) (hk : ixOf f ns = some k) (hl : l[k]? = some (.p d)) (q : Q (.own (.p d)) ρ) : Ev (eAttr c f i) ρ Q := by
  refine ⟨_, _, ?_, q⟩
  unfold eAttr
  rw [h]
  dsimp only
  rw [if_pos rfl, hk]
  dsimp only
  rw [hl]
theorem ev_attrL {c f : Str} {i k : Nat} {t tg : Option Nat} {ns : List Str} {l : List Sl} {m : List D} {Q : Rs → Env → Prop} (h : ρ[i]? = some (some (.ob t c ns l))) (hk : ixOf f ns = some k) (hl : l[k]? = some (.ml tg m)) (q : Q (.lent i (.ob t c ns l) k) (ρ.set i (some (.hl t)))) : Ev (eAttr c f i) ρ Q := by
  refine ⟨_, _, ?_, q⟩
  unfold eAttr
  rw [h]
  dsimp only
  rw [if_pos rfl, hk]
  dsimp only
  rw [hl]
theorem ev_chk {c m : Str} {fo : M Rs} {Q : Rs → Env → Prop} (h : Ev fo ρ fun r ρ1 => recOb c m r ρ1 = true ∧ Q r ρ1) : Ev (eChk c m fo) ρ Q := by
  obtain ⟨r, ρ1, e, h1, q⟩ := h
  refine ⟨_, _, ?_, q⟩
  unfold eChk M.bind
  rw [e]
  dsimp only
  rw [if_pos h1]
theorem ev_setSubL {j k q : Nat} {w : Sl} {tg t : Option Nat} {l : List D} {i : Rs} {m : Int} {d : D} {Q : Fl → Env → Prop} (h1 : w.kid k = some (.ml tg l)) (h2 : ρ[j]? = some (some (.hl t))) (h3 : i.view ρ = some (.int m)) (h4 : ixN l.length m = some q)
    (h : Q .nx (ρ.set j (some ((w.setKid k (.ml tg (l.set q d))).retag t)))) : Ev (setSubL (.lent j w k) i d) ρ Q := by
  refine ⟨_, _, ?_, h⟩
  unfold setSubL
  dsimp only
  rw [h1, h2]
  dsimp only
  rw [h3]
  dsimp only
  rw [h4]
theorem ev_addSubL {f : Int → Int → Int} {fe : M Rs} {j k : Nat} {w : Sl} {tg t : Option Nat} {l : List D} {i : Rs} {m x : Int} {Q : Fl → Env → Prop} (h1 : w.kid k = some (.ml tg l)) (h2 : ρ[j]? = some (some (.hl t))) (h3 : i.view ρ = some (.int m)) (h0 : 0 ≤ m) (h4 : l[m.toNat]? = some (.int x))
    (h : Ev fe ρ fun r ρ1 => ∃ y t1, r.view ρ1 = some (.int y) ∧ ρ1[j]? = some (some (.hl t1)) ∧ Q .nx (ρ1.set j (some ((w.setKid k (.ml tg (l.set m.toNat (.int (f x y))))).retag t1)))) : Ev (addSubL f fe (.lent j w k) i) ρ Q := by
  obtain ⟨r, ρ1, e, y, t1, h5, h6, q⟩ := h
  refine ⟨_, _, ?_, q⟩
  unfold addSubL
  dsimp only
  rw [h1, h2, h3]
  dsimp only
  rw [if_pos h0, h4]
  dsimp only
  unfold M.bind
  rw [e]
  dsimp only
  rw [h5, h6]
end
end B
end Pd

set_option Elab.async false
set_option linter.all false
set_option maxRecDepth 100000
set_option maxHeartbeats 1000000
namespace Pd
open PySem PySem.Spec PyProof.Rows L2
namespace B
section
variable {ρ : Env}
/-! an attribute, read -/
def attrS (i k : Nat) (t : Option Nat) (c : Str) (ns : List Str) (l : List Sl) (ρ : Env) (Q : Rs → Env → Prop) : Option Sl → Prop
  | some (.p d) => Q (.own (.p d)) ρ
  | some (.ml _ _) => Q (.lent i (.ob t c ns l) k) (ρ.set i (some (.hl t)))
  | some (.md _ _) => Q (.lent i (.ob t c ns l) k) (ρ.set i (some (.hl t)))
  | some (.mr _ _) => Q (.lent i (.ob t c ns l) k) (ρ.set i (some (.hl t)))
  | some (.ob _ _ _ _) => Q (.lent i (.ob t c ns l) k) (ρ.set i (some (.hl t)))
  | _ => False
@[simp] theorem attrS_p {i k : Nat} {t : Option Nat} {c : Str} {ns : List Str} {l : List Sl} {Q : Rs → Env → Prop} {d : D} : attrS i k t c ns l ρ Q (some (.p d)) = Q (.own (.p d)) ρ := rfl
@[simp] theorem attrS_ml {i k : Nat} {t t' : Option Nat} {c : Str} {ns : List Str} {l : List Sl} {Q : Rs → Env → Prop} {d : List D} : attrS i k t c ns l ρ Q (some (.ml t' d)) = Q (.lent i (.ob t c ns l) k) (ρ.set i (some (.hl t))) := rfl
@[simp] theorem attrS_md {i k : Nat} {t t' : Option Nat} {c : Str} {ns : List Str} {l : List Sl} {Q : Rs → Env → Prop} {d : List (Key × D)} : attrS i k t c ns l ρ Q (some (.md t' d)) = Q (.lent i (.ob t c ns l) k) (ρ.set i (some (.hl t))) := rfl
@[simp] theorem attrS_mr {i k : Nat} {t t' : Option Nat} {c : Str} {ns : List Str} {l : List Sl} {Q : Rs → Env → Prop} {d : List Sl} : attrS i k t c ns l ρ Q (some (.mr t' d)) = Q (.lent i (.ob t c ns l) k) (ρ.set i (some (.hl t))) := rfl
@[simp] theorem attrS_ob {i k : Nat} {t t' : Option Nat} {c c' : Str} {ns ns' : List Str} {l : List Sl} {Q : Rs → Env → Prop} {d : List Sl} : attrS i k t c ns l ρ Q (some (.ob t' c' ns' d)) = Q (.lent i (.ob t c ns l) k) (ρ.set i (some (.hl t))) := rfl
def attrK (i : Nat) (t : Option Nat) (c : Str) (ns : List Str) (l : List Sl) (ρ : Env) (Q : Rs → Env → Prop) : Option Nat → Prop
  | some k => attrS i k t c ns l ρ Q l[k]?
  | none => False
@[simp] theorem attrK_s {i k : Nat} {t : Option Nat} {c : Str} {ns : List Str} {l : List Sl} {Q : Rs → Env → Prop} : attrK i t c ns l ρ Q (some k) = attrS i k t c ns l ρ Q l[k]? := rfl
def attrQ (c f : Str) (i : Nat) (ρ : Env) (Q : Rs → Env → Prop) : Option (Option Sl) → Prop
  | some (some (.ob t c' ns l)) => c' = c ∧ attrK i t c' ns l ρ Q (ixOf f ns)
  | _ => False
@[simp] theorem attrQ_ob {c f : Str} {i : Nat} {t : Option Nat} {c' : Str} {ns : List Str} {l : List Sl} {Q : Rs → Env → Prop} : attrQ c f i ρ Q (some (some (.ob t c' ns l))) = (c' = c ∧ attrK i t c' ns l ρ Q (ixOf f ns)) := rfl
@[simp ↓] theorem ev_attr {c f : Str} {i : Nat} {Q : Rs → Env → Prop} : Ev (eAttr c f i) ρ Q ↔ attrQ c f i ρ Q ρ[i]? := by
  constructor
  · rintro ⟨r, ρ', e, q⟩
    unfold eAttr at e
    split at e
    · rename_i t c' ns l h
      rw [h]
      split at e
      · rename_i hc
        refine ⟨hc, ?_⟩
        split at e
        · rename_i k hk
          rw [hk, attrK_s]
          split at e
          · rename_i h2; cases e; rw [h2]; exact q
          · rename_i h2; cases e; rw [h2]; exact q
          · rename_i h2; cases e; rw [h2]; exact q
          · rename_i h2; cases e; rw [h2]; exact q
          · rename_i h2; cases e; rw [h2]; exact q
          · cases e
        · cases e
      · cases e
    · cases e
  · intro q
    unfold attrQ at q
    split at q
    · rename_i t c' ns l h
      obtain ⟨hc, q⟩ := q
      unfold attrK at q
      split at q
      · rename_i k hk
        unfold attrS at q
        split at q
        · rename_i h2; refine ⟨_, _, ?_, q⟩; unfold eAttr; rw [h]; dsimp only; rw [if_pos hc, hk]; dsimp only; rw [h2]
        · rename_i h2; refine ⟨_, _, ?_, q⟩; unfold eAttr; rw [h]; dsimp only; rw [if_pos hc, hk]; dsimp only; rw [h2]
        · rename_i h2; refine ⟨_, _, ?_, q⟩; unfold eAttr; rw [h]; dsimp only; rw [if_pos hc, hk]; dsimp only; rw [h2]
        · rename_i h2; refine ⟨_, _, ?_, q⟩; unfold eAttr; rw [h]; dsimp only; rw [if_pos hc, hk]; dsimp only; rw [h2]
        · rename_i h2; refine ⟨_, _, ?_, q⟩; unfold eAttr; rw [h]; dsimp only; rw [if_pos hc, hk]; dsimp only; rw [h2]
        · exact q.elim
      · exact q.elim
    · exact q.elim
/-! o.f = e -/
def gAttrQ (c f : Str) (i : Nat) (s : Sl) (ρ : Env) (Q : Fl → Env → Prop) : Option (Option Sl) → Prop
  | some (some (.ob t c' ns l)) => c' = c ∧ ns.length < 1000 ∧ Q .nx (ρ.set i (some (.ob t c' (setAt f ns l s).1 (setAt f ns l s).2)))
  | _ => False
@[simp] theorem gAttrQ_ob {c f : Str} {i : Nat} {s : Sl} {Q : Fl → Env → Prop} {t : Option Nat} {c' : Str} {ns : List Str} {l : List Sl} : gAttrQ c f i s ρ Q (some (some (.ob t c' ns l))) = (c' = c ∧ ns.length < 1000 ∧ Q .nx (ρ.set i (some (.ob t c' (setAt f ns l s).1 (setAt f ns l s).2)))) := rfl
def gAttrR (c f : Str) (i : Nat) (ρ : Env) (Q : Fl → Env → Prop) : Rs → Prop
  | .own s => gAttrQ c f i s ρ Q ρ[i]?
  | _ => False
@[simp] theorem gAttrR_own {c f : Str} {i : Nat} {Q : Fl → Env → Prop} {s : Sl} : gAttrR c f i ρ Q (.own s) = gAttrQ c f i s ρ Q ρ[i]? := rfl
@[simp ↓] theorem ev_gAttrI {c f : Str} {i : Nat} {fe : M Rs} {Q : Fl → Env → Prop} : Ev (gAttr c f i fe) ρ Q ↔ Ev fe ρ fun r ρ1 => gAttrR c f i ρ1 Q r := by
  unfold gAttr
  rw [ev_bind]
  constructor
  · rintro ⟨r, ρ1, e, fl, ρ2, e2, q⟩
    refine ⟨r, ρ1, e, ?_⟩
    try dsimp only at e2
    split at e2
    · rename_i s t c' ns l h
      split at e2
      · rename_i hc
        cases e2
        show gAttrQ c f i s ρ1 Q ρ1[i]?
        rw [h]
        exact ⟨hc.1, hc.2, q⟩
      · cases e2
    · cases e2
  · rintro ⟨r, ρ1, e, q⟩
    refine ⟨r, ρ1, e, ?_⟩
    unfold gAttrR at q
    split at q
    · rename_i s
      unfold gAttrQ at q
      split at q
      · rename_i t c' ns l h
        refine ⟨_, _, ?_, q.2.2⟩
        dsimp only
        rw [h]
        dsimp only
        rw [if_pos ⟨q.1, q.2.1⟩]
      · exact q.elim
    · exact q.elim
/-! o.f += e -/
def gAugAQ3 (g : Int → Int → Int) (c f : Str) (i : Nat) (x : Int) (ρ : Env) (Q : Fl → Env → Prop) : Option D → Option (Option Sl) → Prop
  | some (.int y), some (some (.ob t c' ns l)) => c' = c ∧ ns.length < 1000 ∧ Q .nx (ρ.set i (some (.ob t c' (setAt f ns l (.p (.int (g x y)))).1 (setAt f ns l (.p (.int (g x y)))).2)))
  | _, _ => False
@[simp] theorem gAugAQ3_ob {g : Int → Int → Int} {c f : Str} {i : Nat} {x y : Int} {Q : Fl → Env → Prop} {t : Option Nat} {c' : Str} {ns : List Str} {l : List Sl} : gAugAQ3 g c f i x ρ Q (some (.int y)) (some (some (.ob t c' ns l))) = (c' = c ∧ ns.length < 1000 ∧ Q .nx (ρ.set i (some (.ob t c' (setAt f ns l (.p (.int (g x y)))).1 (setAt f ns l (.p (.int (g x y)))).2)))) := rfl
def gAugAQ2 (g : Int → Int → Int) (c f : Str) (i : Nat) (fe : M Rs) (ρ : Env) (Q : Fl → Env → Prop) : Option Sl → Prop
  | some (.p (.int x)) => Ev fe ρ fun r ρ1 => gAugAQ3 g c f i x ρ1 Q (r.view ρ1) ρ1[i]?
  | _ => False
@[simp] theorem gAugAQ2_p {g : Int → Int → Int} {c f : Str} {i : Nat} {fe : M Rs} {x : Int} {Q : Fl → Env → Prop} : gAugAQ2 g c f i fe ρ Q (some (.p (.int x))) = (Ev fe ρ fun r ρ1 => gAugAQ3 g c f i x ρ1 Q (r.view ρ1) ρ1[i]?) := rfl
def gAugAQ1 (g : Int → Int → Int) (c f : Str) (i : Nat) (fe : M Rs) (l : List Sl) (ρ : Env) (Q : Fl → Env → Prop) : Option Nat → Prop
  | some k => gAugAQ2 g c f i fe ρ Q l[k]?
  | none => False
@[simp] theorem gAugAQ1_s {g : Int → Int → Int} {c f : Str} {i k : Nat} {fe : M Rs} {l : List Sl} {Q : Fl → Env → Prop} : gAugAQ1 g c f i fe l ρ Q (some k) = gAugAQ2 g c f i fe ρ Q l[k]? := rfl
def gAugAQ (g : Int → Int → Int) (c f : Str) (i : Nat) (fe : M Rs) (ρ : Env) (Q : Fl → Env → Prop) : Option (Option Sl) → Prop
  | some (some (.ob t c' ns l)) => c' = c ∧ gAugAQ1 g c f i fe l ρ Q (ixOf f ns)
  | _ => False
@[simp] theorem gAugAQ_ob {g : Int → Int → Int} {c f : Str} {i : Nat} {fe : M Rs} {Q : Fl → Env → Prop} {t : Option Nat} {c' : Str} {ns : List Str} {l : List Sl} : gAugAQ g c f i fe ρ Q (some (some (.ob t c' ns l))) = (c' = c ∧ gAugAQ1 g c f i fe l ρ Q (ixOf f ns)) := rfl
@[simp ↓] theorem ev_gAugA {g : Int → Int → Int} {c f : Str} {i : Nat} {fe : M Rs} {Q : Fl → Env → Prop} : Ev (gAugA g c f i fe) ρ Q ↔ gAugAQ g c f i fe ρ Q ρ[i]? := by
  constructor
  · rintro ⟨r, ρ', e, q⟩
    unfold gAugA at e
    split at e
    · rename_i t c' ns l h
      rw [h]
      split at e
      · rename_i hc
        refine ⟨hc, ?_⟩
        split at e
        · rename_i k hk
          rw [hk, gAugAQ1_s]
          split at e
          · rename_i x hx
            rw [hx]
            obtain ⟨r, ρ1, e1, e2⟩ := M.bind_ok e
            refine ⟨r, ρ1, e1, ?_⟩
            split at e2
            · rename_i y t1 c1 ns1 l1 h1 h2
              split at e2
              · rename_i hc2
                cases e2
                rw [h1, h2]
                exact ⟨hc2.1, hc2.2, q⟩
              · cases e2
            · cases e2
          · cases e
        · cases e
      · cases e
    · cases e
  · intro q
    unfold gAugAQ at q
    split at q
    · rename_i t c' ns l h
      obtain ⟨hc, q⟩ := q
      unfold gAugAQ1 at q
      split at q
      · rename_i k hk
        unfold gAugAQ2 at q
        split at q
        · rename_i x hx
          obtain ⟨r, ρ1, e1, q⟩ := q
          unfold gAugAQ3 at q
          split at q
          · rename_i y t1 c1 ns1 l1 h1 h2
            refine ⟨_, _, ?_, q.2.2⟩
            unfold gAugA
            rw [h]
            dsimp only
            rw [if_pos hc, hk]
            dsimp only
            rw [hx]
            dsimp only
            unfold M.bind
            rw [e1]
            dsimp only
            rw [h1, h2]
            dsimp only
            rw [if_pos ⟨q.1, q.2.1⟩]
          · exact q.elim
        · exact q.elim
      · exact q.elim
    · exact q.elim
/-! calls with lent parts -/
@[simp ↓] theorem ev_opCallL {n : Nat} {F : List Sl → Option (Sl × List Sl)} {rs : List Rs} {Q : Rs → Env → Prop} : Ev (opCallL n F rs) ρ Q ↔ (rs.length = n ∧ (roots rs).Nodup) ∧ argQ (fun ss => Sp F ss fun r ss' => Q (.own r) (wbL rs ss' ρ)) (argL rs ρ) := by
  constructor
  · rintro ⟨a', ρ', e, q⟩
    unfold opCallL at e
    split at e
    · rename_i hc
      split at e
      · rename_i ss h
        split at e
        · rename_i r ss' h2; cases e; exact ⟨hc, by rw [h]; exact ⟨r, ss', h2, q⟩⟩
        · cases e
      · cases e
    · cases e
  · rintro ⟨hc, q⟩
    unfold argQ at q
    split at q
    · rename_i ss h
      obtain ⟨r, ss', h2, q⟩ := q
      exact ⟨_, _, by unfold opCallL; rw [if_pos hc]; simp only [h, h2], q⟩
    · exact q.elim
@[simp] theorem argL_nil : argL [] ρ = some [] := rfl
@[simp] theorem argL_cons {r : Rs} {rs : List Rs} : argL (r :: rs) ρ = (argR r ρ).bind fun s => (argL rs ρ).map (s :: ·) := by
  rw [argL]
  cases argR r ρ with
  | none => rfl
  | some s => cases argL rs ρ <;> rfl
@[simp] theorem argR_own {s : Sl} : argR (.own s) ρ = some s := rfl
def slotB : Option (Option Sl) → Option Sl
  | some (some s) => some s.bare
  | _ => none
@[simp] theorem slotB_s {s : Sl} : slotB (some (some s)) = some s.bare := rfl
@[simp] theorem argR_bor {i : Nat} : argR (.bor i) ρ = slotB ρ[i]? := by
  unfold argR slotB
  dsimp only
  all_goals (split <;> simp_all)
def slotH (s : Sl) (k : Nat) : Option (Option Sl) → Option Sl
  | some (some (.hl _)) => (s.kid k).map Sl.bare
  | _ => none
@[simp] theorem slotH_h {s : Sl} {k : Nat} {t : Option Nat} : slotH s k (some (some (.hl t))) = (s.kid k).map Sl.bare := rfl
@[simp] theorem argR_lent {i k : Nat} {s : Sl} : argR (.lent i s k) ρ = slotH s k ρ[i]? := by
  unfold argR slotH
  dsimp only
  all_goals (split <;> simp_all)
@[simp] theorem kid_ob {t : Option Nat} {c : Str} {ns : List Str} {l : List Sl} {k : Nat} : (Sl.ob t c ns l).kid k = l[k]? := rfl
@[simp] theorem kid_mr {t : Option Nat} {l : List Sl} {k : Nat} : (Sl.mr t l).kid k = l[k]? := rfl
@[simp] theorem setKid_ob {t : Option Nat} {c : Str} {ns : List Str} {l : List Sl} {k : Nat} {s : Sl} : (Sl.ob t c ns l).setKid k s = .ob t c ns (l.set k s) := rfl
@[simp] theorem setKid_mr {t : Option Nat} {l : List Sl} {k : Nat} {s : Sl} : (Sl.mr t l).setKid k s = .mr t (l.set k s) := rfl
@[simp] theorem roots_nil : roots [] = [] := rfl
@[simp] theorem roots_own {s : Sl} {r : List Rs} : roots (.own s :: r) = roots r := rfl
@[simp] theorem roots_bor {i : Nat} {r : List Rs} : roots (.bor i :: r) = i :: roots r := rfl
@[simp] theorem roots_lent {i k : Nat} {s : Sl} {r : List Rs} : roots (.lent i s k :: r) = i :: roots r := rfl
@[simp] theorem wbL_nil {ss : List Sl} : wbL [] ss ρ = ρ := by simp [wbL]
@[simp] theorem wbL_own {s s' : Sl} {r : List Rs} {ss : List Sl} : wbL (.own s :: r) (s' :: ss) ρ = wbL r ss ρ := rfl
@[simp] theorem wbL_bor {i : Nat} {s' : Sl} {r : List Rs} {ss : List Sl} : wbL (.bor i :: r) (s' :: ss) ρ = wbL r ss (ρ.set i (some (s'.retag (tagAt ρ i)))) := rfl
@[simp] theorem wbL_lent {i k : Nat} {s s' : Sl} {r : List Rs} {ss : List Sl} : wbL (.lent i s k :: r) (s' :: ss) ρ = wbL r ss (ρ.set i (some ((s.setKid k s').retag (tagAt ρ i)))) := rfl
@[simp] theorem retag_hl {t t' : Option Nat} : (Sl.hl t').retag t = .hl t := rfl
@[simp] theorem tag_hl {t : Option Nat} : (Sl.hl t).tag = t := rfl
/-! the receiver -/
def chkO (c m : Str) : Option Sl → Prop
  | some (.ob _ c' ns _) => c' = c ∧ ns.contains m = false
  | _ => False
@[simp] theorem chkO_ob {c m : Str} {t : Option Nat} {c' : Str} {ns : List Str} {l : List Sl} : chkO c m (some (.ob t c' ns l)) = (c' = c ∧ ns.contains m = false) := rfl
@[simp ↓] theorem ev_chkI {c m : Str} {fo : M Rs} {Q : Rs → Env → Prop} : Ev (eChk c m fo) ρ Q ↔ Ev fo ρ fun r ρ1 => chkO c m (argR r ρ1) ∧ Q r ρ1 := by
  unfold eChk
  rw [ev_bind]
  have hh : ∀ (r : Rs) (ρ1 : Env), recOb c m r ρ1 = true ↔ chkO c m (argR r ρ1) := fun r ρ1 => by
    unfold recOb
    generalize argR r ρ1 = o
    cases o with
    | none => exact ⟨fun q => (Bool.false_ne_true q).elim, fun q => q.elim⟩
    | some s =>
      cases s with
      | ob t c' ns l =>
        show (decide (c' = c) && decide (m ∉ ns)) = true ↔ (c' = c ∧ ns.contains m = false)
        rw [Bool.and_eq_true, decide_eq_true_iff, decide_eq_true_iff, List.contains_eq_mem, decide_eq_false_iff_not]
      | p d => exact ⟨fun q => (Bool.false_ne_true q).elim, fun q => q.elim⟩
      | ml t l => exact ⟨fun q => (Bool.false_ne_true q).elim, fun q => q.elim⟩
      | md t l => exact ⟨fun q => (Bool.false_ne_true q).elim, fun q => q.elim⟩
      | mr t l => exact ⟨fun q => (Bool.false_ne_true q).elim, fun q => q.elim⟩
      | ex c f => exact ⟨fun q => (Bool.false_ne_true q).elim, fun q => q.elim⟩
      | fd l => exact ⟨fun q => (Bool.false_ne_true q).elim, fun q => q.elim⟩
      | hl t => exact ⟨fun q => (Bool.false_ne_true q).elim, fun q => q.elim⟩
  constructor
  · rintro ⟨r, ρ1, e, a, ρ2, e2, q⟩
    refine ⟨r, ρ1, e, ?_⟩
    try dsimp only at e2
    split at e2
    · rename_i h
      cases e2
      exact ⟨(hh _ _).mp h, q⟩
    · cases e2
  · rintro ⟨r, ρ1, e, h, q⟩
    refine ⟨r, ρ1, e, r, ρ1, ?_, q⟩
    dsimp only
    rw [if_pos ((hh _ _).mpr h)]
@[simp ↓] theorem ev_callM {c m : Str} {fo : M Rs} {fa : M (List Rs)} {n : Nat} {F : List Sl → Option (Sl × List Sl)} {Q : Rs → Env → Prop} : Ev (eCallM c m fo fa n F) ρ Q ↔ Ev fo ρ fun r ρ1 => chkO c m (argR r ρ1) ∧ Ev fa ρ1 fun rs ρ2 => Ev (opCallL n F (r :: rs)) ρ2 Q := by
  unfold eCallM
  rw [ev_bind, ev_aCons, ev_chkI]
/-! a new instance -/
def makeQ (rs : List Rs) (ρ : Env) (Q : Rs → Env → Prop) (r : Sl) : List Sl → Prop
  | s :: ss2 => r = .p .none ∧ s.tag = none ∧ Q (.own s) (wbL rs ss2 ρ)
  | [] => False
@[simp] theorem makeQ_c {rs : List Rs} {Q : Rs → Env → Prop} {r s : Sl} {ss : List Sl} : makeQ rs ρ Q r (s :: ss) = (r = .p .none ∧ s.tag = none ∧ Q (.own s) (wbL rs ss ρ)) := rfl
@[simp ↓] theorem ev_opMake {n : Nat} {c : Str} {F : List Sl → Option (Sl × List Sl)} {rs : List Rs} {Q : Rs → Env → Prop} : Ev (opMake n c F rs) ρ Q ↔ (rs.length + 1 = n ∧ (roots rs).Nodup) ∧ argQ (fun ss => Sp F (.ob none c [] [] :: ss) fun r ss' => makeQ rs ρ Q r ss') (argL rs ρ) := by
  constructor
  · rintro ⟨a', ρ', e, q⟩
    unfold opMake at e
    split at e
    · rename_i hc
      refine ⟨hc, ?_⟩
      split at e
      · rename_i ss h
        rw [h]
        split at e
        · rename_i s ss' h2
          split at e
          · rename_i ht
            cases e
            exact ⟨_, _, h2, rfl, ht, q⟩
          · cases e
        · cases e
      · cases e
    · cases e
  · rintro ⟨hc, q⟩
    unfold argQ at q
    split at q
    · rename_i ss h
      refine ev_make hc.1 hc.2 h (q.mono fun r ss' q => ?_)
      unfold makeQ at q
      split at q
      · exact ⟨_, _, q.1, rfl, q.2.1, q.2.2⟩
      · exact q.elim
    · exact q.elim
/-! reading what is perhaps a lent part -/
def lentD (i k : Nat) (w : Sl) (ρ : Env) (Q : Rs → Env → Prop) (pf : D → Option Rd') (t : Option Nat) (s : Sl) : Option D → Prop
  | some d => resQ (ρ.set i (some ((w.setKid k s).retag t))) Q (pf d)
  | none => False
def lentQ (i k : Nat) (w : Sl) (ρ : Env) (Q : Rs → Env → Prop) (pf : D → Option Rd') : Option (Option Sl) → Option Sl → Prop
  | some (some (.hl t)), some s => lentD i k w ρ Q pf t s.bare s.bare.dat
  | _, _ => False
@[simp] theorem lentQ_ml {i k : Nat} {w : Sl} {Q : Rs → Env → Prop} {pf : D → Option Rd'} {t tg : Option Nat} {l : List D} : lentQ i k w ρ Q pf (some (some (.hl t))) (some (.ml tg l)) = resQ (ρ.set i (some ((w.setKid k (.ml none l)).retag t))) Q (pf (.list l)) := rfl
theorem opGA_lent {pf : List D → Option Rd'} {i k : Nat} {w : Sl} {r : List Rs} {ρ : Env} : opGA pf (.lent i w k :: r) ρ = opGL pf (.lent i w k :: r) ρ := rfl
theorem argR_some {i k : Nat} {w : Sl} {s : Sl} : argR (.lent i w k) ρ = some s → ∃ t s0, ρ[i]? = some (some (.hl t)) ∧ w.kid k = some s0 ∧ s = s0.bare := fun h => by
  rw [argR_lent] at h
  unfold slotH at h
  split at h
  · rename_i t e
    cases e2 : w.kid k with
    | none => rw [e2] at h; cases h
    | some s0 => rw [e2] at h; cases h; exact ⟨t, s0, e, rfl, rfl⟩
  · cases h
@[simp ↓] theorem ev_opGA1 {pf : List D → Option Rd'} {i k : Nat} {w : Sl} {Q : Rs → Env → Prop} : Ev (opGA pf [.lent i w k]) ρ Q ↔ lentQ i k w ρ Q (fun d => pf [d]) ρ[i]? (w.kid k) := by
  constructor
  · rintro ⟨r, ρ', e, q⟩
    rw [opGA_lent] at e
    unfold opGL at e
    split at e
    · split at e
      · rename_i ss h1
        split at e
        · rename_i ds h2
          split at e
          · rename_i res h3
            cases e
            rw [argL_cons] at h1
            obtain ⟨s, h4, h5⟩ := Option.bind_eq_some_iff.mp h1
            obtain ⟨t, s0, h6, h7, rfl⟩ := argR_some h4
            rw [argL_nil] at h5
            cases h5
            rw [h6, h7]
            unfold datAll datAll at h2
            show lentD i k w ρ Q (fun d => pf [d]) t s0.bare s0.bare.dat
            cases e8 : s0.bare.dat with
            | none => rw [e8] at h2; cases h2
            | some d =>
              rw [e8] at h2
              cases h2
              unfold lentD
              dsimp only
              rw [h3]
              show Q _ _
              simpa [tagAt_eq, h6] using q
          · cases e
        · cases e
      · cases e
    · cases e
  · intro q
    unfold lentQ at q
    split at q
    · rename_i t s e1 e2
      unfold lentD at q
      split at q
      · rename_i d e3
        unfold resQ at q
        split at q
        · rename_i res e4
          refine ⟨_, _, ?_, q⟩
          rw [opGA_lent]
          unfold opGL
          rw [if_pos (by simp), show argL [.lent i w k] ρ = some [s.bare] by simp [e1, e2]]
          dsimp only
          rw [show datAll [s.bare] = some [d] by unfold datAll datAll; rw [e3]]
          dsimp only
          dsimp only at e4
          rw [e4]
          simp [e1]
        · exact q.elim
      · exact q.elim
    · exact q.elim
@[simp ↓] theorem ev_opGA2 {pf : List D → Option Rd'} {i k : Nat} {w : Sl} {d : D} {Q : Rs → Env → Prop} : Ev (opGA pf [.lent i w k, .own (.p d)]) ρ Q ↔ lentQ i k w ρ Q (fun d0 => pf [d0, d]) ρ[i]? (w.kid k) := by
  constructor
  · rintro ⟨r, ρ', e, q⟩
    rw [opGA_lent] at e
    unfold opGL at e
    split at e
    · split at e
      · rename_i ss h1
        split at e
        · rename_i ds h2
          split at e
          · rename_i res h3
            cases e
            rw [argL_cons] at h1
            obtain ⟨s, h4, h5⟩ := Option.bind_eq_some_iff.mp h1
            obtain ⟨t, s0, h6, h7, rfl⟩ := argR_some h4
            rw [show argL [.own (.p d)] ρ = some [.p d] by simp] at h5
            cases h5
            rw [h6, h7]
            unfold datAll at h2
            rw [show datAll [.p d] = some [d] from rfl] at h2
            show lentD i k w ρ Q (fun d0 => pf [d0, d]) t s0.bare s0.bare.dat
            cases e8 : s0.bare.dat with
            | none => rw [e8] at h2; cases h2
            | some d1 =>
              rw [e8] at h2
              cases h2
              unfold lentD
              dsimp only
              rw [h3]
              show Q _ _
              simpa [tagAt_eq, h6] using q
          · cases e
        · cases e
      · cases e
    · cases e
  · intro q
    unfold lentQ at q
    split at q
    · rename_i t s e1 e2
      unfold lentD at q
      split at q
      · rename_i d1 e3
        unfold resQ at q
        split at q
        · rename_i res e4
          refine ⟨_, _, ?_, q⟩
          rw [opGA_lent]
          unfold opGL
          rw [if_pos (by simp), show argL [.lent i w k, .own (.p d)] ρ = some [s.bare, .p d] by simp [e1, e2]]
          dsimp only
          rw [show datAll [s.bare, .p d] = some [d1, d] by unfold datAll; rw [e3]; rfl]
          dsimp only
          dsimp only at e4
          rw [e4]
          simp [e1]
        · exact q.elim
      · exact q.elim
    · exact q.elim
@[simp ↓] theorem oIxA_eq : oIxA = opGA pIx := rfl
@[simp ↓] theorem oSlA_eq {lo hi : Option Int} : oSlA lo hi = opGA (pSl lo hi) := rfl
/-! o[i] += e, o a lent list -/
def augLQ3 (f : Int → Int → Int) (j k0 m : Nat) (w : Sl) (l : List D) (x : Int) (ρ : Env) (Q : Fl → Env → Prop) : Option D → Option (Option Sl) → Prop
  | some (.int y), some (some (.hl t1)) => Q .nx (ρ.set j (some ((w.setKid k0 (.ml none (l.set m (.int (f x y))))).retag t1)))
  | _, _ => False
@[simp] theorem augLQ3_i {f : Int → Int → Int} {j k0 m : Nat} {w : Sl} {l : List D} {x y : Int} {Q : Fl → Env → Prop} {t1 : Option Nat} : augLQ3 f j k0 m w l x ρ Q (some (.int y)) (some (some (.hl t1))) = Q .nx (ρ.set j (some ((w.setKid k0 (.ml none (l.set m (.int (f x y))))).retag t1))) := rfl
/-- as o[i] += e runs where the list is known -/
theorem ev_augL {f : Int → Int → Int} {fe : M Rs} {j k : Nat} {w : Sl} {t : Option Nat} {l : List D} {m x : Int} {Q : Fl → Env → Prop} (h1 : w.kid k = some (.ml none l)) (h2 : ρ[j]? = some (some (.hl t))) (h0 : 0 ≤ m) (h4 : l[m.toNat]? = some (.int x))
    (h : Ev fe ρ fun r ρ1 => augLQ3 f j k m.toNat w l x ρ1 Q (r.view ρ1) ρ1[j]?) : Ev (addSubL f fe (.lent j w k) (.own (.p (.int m)))) ρ Q := by
  refine ev_addSubL h1 h2 rfl h0 h4 (h.mono fun r ρ1 q => ?_)
  unfold augLQ3 at q
  split at q
  · rename_i y t1 h5 h6
    exact ⟨y, t1, h5, h6, q⟩
  · exact q.elim
@[simp ↓] theorem ev_gAugL {f : Int → Int → Int} {fo fi fe : M Rs} {Q : Fl → Env → Prop} : Ev (gAugL f fo fi fe) ρ Q ↔ Ev fo ρ fun o ρ1 => Ev fi ρ1 fun i ρ2 => Ev (addSubL f fe o i) ρ2 Q := by
  unfold gAugL
  simp only [ev_bind]
@[simp ↓] theorem ev_gSubL {f fo fi : M Rs} {Q : Fl → Env → Prop} : Ev (gSubL f fo fi) ρ Q ↔ Ev f ρ fun r ρ1 => Ev (freezeR r) ρ1 fun d ρ2 => Ev fo ρ2 fun o ρ3 => Ev fi ρ3 fun i ρ4 => Ev (setSubL o i d) ρ4 Q := by
  unfold gSubL
  simp only [ev_bind]
/-! x *= e, x //= e -/
def augCQ (c : Int → Int → Prop) (f : Int → Int → Int) (i : Nat) (fe : M Rs) (ρ : Env) (Q : Fl → Env → Prop) : Option (Option Sl) → Prop
  | some (some (.p (.int x))) => Ev fe ρ fun r ρ1 => intQ ρ1 (fun o ρ2 => match o with
    | some y => (c x y ∧ i < ρ2.length) ∧ Q .nx (ρ2.set i (some (.p (.int (f x y)))))
    | none => False) (r.view ρ1)
  | _ => False
@[simp] theorem augCQ_i {c : Int → Int → Prop} {f : Int → Int → Int} {i : Nat} {fe : M Rs} {Q : Fl → Env → Prop} {x : Int} : augCQ c f i fe ρ Q (some (some (.p (.int x)))) = Ev fe ρ fun r ρ1 => intQ ρ1 (fun o ρ2 => match o with
    | some y => (c x y ∧ i < ρ2.length) ∧ Q .nx (ρ2.set i (some (.p (.int (f x y)))))
    | none => False) (r.view ρ1) := rfl
@[simp ↓] theorem ev_augC {c : Int → Int → Prop} {f : Int → Int → Int} {i : Nat} {fe : M Rs} {Q : Fl → Env → Prop} : Ev (gAugC c f i fe) ρ Q ↔ augCQ c f i fe ρ Q ρ[i]? := by
  constructor
  · rintro ⟨fl, ρ', e, q⟩
    unfold gAugC at e
    split at e
    · rename_i x h
      obtain ⟨r, ρ1, e1, e2⟩ := M.bind_ok e
      split at e2
      · rename_i y h2
        split at e2
        · rename_i hl
          cases e2
          rw [h]
          refine ⟨r, ρ1, e1, ?_⟩
          dsimp only
          rw [h2]
          exact ⟨hl, q⟩
        · cases e2
      · cases e2
    · cases e
  · intro q
    unfold augCQ at q
    split at q
    · rename_i x h
      obtain ⟨r, ρ1, e1, q⟩ := q
      unfold intQ at q
      split at q
      · rename_i y h2
        obtain ⟨hl, q⟩ := q
        refine ⟨_, _, ?_, q⟩
        unfold gAugC
        rw [h]
        dsimp only
        unfold M.bind
        rw [e1]
        dsimp only
        rw [h2]
        dsimp only
        rw [if_pos hl]
      · exact q.elim
    · exact q.elim
end
end B
end Pd

set_option Elab.async false
set_option linter.all false
set_option maxRecDepth 100000
set_option maxHeartbeats 1000000
namespace Pd
open PySem PySem.Spec PyProof.Rows L2
open B (argL_nil argL_cons argR_own slotB slotB_s argR_bor slotH slotH_h argR_lent kid_ob kid_mr setKid_ob setKid_mr roots_nil roots_own roots_bor roots_lent wbL_nil wbL_own wbL_bor wbL_lent retag_hl tag_hl chkO chkO_ob opGA_lent argR_some oIxA_eq oSlA_eq)
section
variable {ρ : Env}
/-! an attribute, read -/
def attrS (i k : Nat) (t : Option Nat) (c : Str) (ns : List Str) (l : List Sl) (ρ : Env) (Q : Rs → Env → Prop) [Fx Q] (o0 : Option Sl) : Prop := B.attrS i k t c ns l ρ Q o0
@[simp] theorem attrS_p {i k : Nat} {t : Option Nat} {c : Str} {ns : List Str} {l : List Sl} {Q : Rs → Env → Prop} {d : D} : attrS i k t c ns l ρ Q (some (.p d)) = Q (.own (.p d)) ρ := B.attrS_p
@[simp] theorem attrS_ml {i k : Nat} {t t' : Option Nat} {c : Str} {ns : List Str} {l : List Sl} {Q : Rs → Env → Prop} {d : List D} : attrS i k t c ns l ρ Q (some (.ml t' d)) = Q (.lent i (.ob t c ns l) k) (ρ.set i (some (.hl t))) := B.attrS_ml
@[simp] theorem attrS_md {i k : Nat} {t t' : Option Nat} {c : Str} {ns : List Str} {l : List Sl} {Q : Rs → Env → Prop} {d : List (Key × D)} : attrS i k t c ns l ρ Q (some (.md t' d)) = Q (.lent i (.ob t c ns l) k) (ρ.set i (some (.hl t))) := B.attrS_md
@[simp] theorem attrS_mr {i k : Nat} {t t' : Option Nat} {c : Str} {ns : List Str} {l : List Sl} {Q : Rs → Env → Prop} {d : List Sl} : attrS i k t c ns l ρ Q (some (.mr t' d)) = Q (.lent i (.ob t c ns l) k) (ρ.set i (some (.hl t))) := B.attrS_mr
@[simp] theorem attrS_ob {i k : Nat} {t t' : Option Nat} {c c' : Str} {ns ns' : List Str} {l : List Sl} {Q : Rs → Env → Prop} {d : List Sl} : attrS i k t c ns l ρ Q (some (.ob t' c' ns' d)) = Q (.lent i (.ob t c ns l) k) (ρ.set i (some (.hl t))) := B.attrS_ob
def attrK (i : Nat) (t : Option Nat) (c : Str) (ns : List Str) (l : List Sl) (ρ : Env) (Q : Rs → Env → Prop) [Fx Q] (o0 : Option Nat) : Prop := B.attrK i t c ns l ρ Q o0
@[simp] theorem attrK_s {i k : Nat} {t : Option Nat} {c : Str} {ns : List Str} {l : List Sl} {Q : Rs → Env → Prop} : attrK i t c ns l ρ Q (some k) = attrS i k t c ns l ρ Q l[k]? := B.attrK_s
def attrQ (c f : Str) (i : Nat) (ρ : Env) (Q : Rs → Env → Prop) [Fx Q] (o0 : Option (Option Sl)) : Prop := B.attrQ c f i ρ Q o0
@[simp] theorem attrQ_ob {c f : Str} {i : Nat} {t : Option Nat} {c' : Str} {ns : List Str} {l : List Sl} {Q : Rs → Env → Prop} : attrQ c f i ρ Q (some (some (.ob t c' ns l))) = (c' = c ∧ attrK i t c' ns l ρ Q (ixOf f ns)) := B.attrQ_ob
@[simp ↓] theorem ev_attr {c f : Str} {i : Nat} {Q : Rs → Env → Prop} : Ev (eAttr c f i) ρ Q ↔ attrQ c f i ρ Q ρ[i]? := B.ev_attr
/-! o.f = e -/
def gAttrQ (c f : Str) (i : Nat) (s : Sl) (ρ : Env) (Q : Fl → Env → Prop) [Fx Q] (o0 : Option (Option Sl)) : Prop := B.gAttrQ c f i s ρ Q o0
@[simp] theorem gAttrQ_ob {c f : Str} {i : Nat} {s : Sl} {Q : Fl → Env → Prop} {t : Option Nat} {c' : Str} {ns : List Str} {l : List Sl} : gAttrQ c f i s ρ Q (some (some (.ob t c' ns l))) = (c' = c ∧ ns.length < 1000 ∧ Q .nx (ρ.set i (some (.ob t c' (setAt f ns l s).1 (setAt f ns l s).2)))) := B.gAttrQ_ob
def gAttrR (c f : Str) (i : Nat) (ρ : Env) (Q : Fl → Env → Prop) [Fx Q] (o0 : Rs) : Prop := B.gAttrR c f i ρ Q o0
@[simp] theorem gAttrR_own {c f : Str} {i : Nat} {Q : Fl → Env → Prop} {s : Sl} : gAttrR c f i ρ Q (.own s) = gAttrQ c f i s ρ Q ρ[i]? := B.gAttrR_own
@[simp ↓] theorem ev_gAttrI {c f : Str} {i : Nat} {fe : M Rs} {Q : Fl → Env → Prop} : Ev (gAttr c f i fe) ρ Q ↔ Ev fe ρ fun r ρ1 => gAttrR c f i ρ1 Q r := B.ev_gAttrI
/-! o.f += e -/
def gAugAQ3 (g : Int → Int → Int) (c f : Str) (i : Nat) (x : Int) (ρ : Env) (Q : Fl → Env → Prop) [Fx Q] (o0 : Option D) (o1 : Option (Option Sl)) : Prop := B.gAugAQ3 g c f i x ρ Q o0 o1
@[simp] theorem gAugAQ3_ob {g : Int → Int → Int} {c f : Str} {i : Nat} {x y : Int} {Q : Fl → Env → Prop} {t : Option Nat} {c' : Str} {ns : List Str} {l : List Sl} : gAugAQ3 g c f i x ρ Q (some (.int y)) (some (some (.ob t c' ns l))) = (c' = c ∧ ns.length < 1000 ∧ Q .nx (ρ.set i (some (.ob t c' (setAt f ns l (.p (.int (g x y)))).1 (setAt f ns l (.p (.int (g x y)))).2)))) := B.gAugAQ3_ob
def gAugAQ2 (g : Int → Int → Int) (c f : Str) (i : Nat) (fe : M Rs) (ρ : Env) (Q : Fl → Env → Prop) [Fx Q] (o0 : Option Sl) : Prop := B.gAugAQ2 g c f i fe ρ Q o0
@[simp] theorem gAugAQ2_p {g : Int → Int → Int} {c f : Str} {i : Nat} {fe : M Rs} {x : Int} {Q : Fl → Env → Prop} : gAugAQ2 g c f i fe ρ Q (some (.p (.int x))) = (Ev fe ρ fun r ρ1 => gAugAQ3 g c f i x ρ1 Q (r.view ρ1) ρ1[i]?) := B.gAugAQ2_p
def gAugAQ1 (g : Int → Int → Int) (c f : Str) (i : Nat) (fe : M Rs) (l : List Sl) (ρ : Env) (Q : Fl → Env → Prop) [Fx Q] (o0 : Option Nat) : Prop := B.gAugAQ1 g c f i fe l ρ Q o0
@[simp] theorem gAugAQ1_s {g : Int → Int → Int} {c f : Str} {i k : Nat} {fe : M Rs} {l : List Sl} {Q : Fl → Env → Prop} : gAugAQ1 g c f i fe l ρ Q (some k) = gAugAQ2 g c f i fe ρ Q l[k]? := B.gAugAQ1_s
def gAugAQ (g : Int → Int → Int) (c f : Str) (i : Nat) (fe : M Rs) (ρ : Env) (Q : Fl → Env → Prop) [Fx Q] (o0 : Option (Option Sl)) : Prop := B.gAugAQ g c f i fe ρ Q o0
@[simp] theorem gAugAQ_ob {g : Int → Int → Int} {c f : Str} {i : Nat} {fe : M Rs} {Q : Fl → Env → Prop} {t : Option Nat} {c' : Str} {ns : List Str} {l : List Sl} : gAugAQ g c f i fe ρ Q (some (some (.ob t c' ns l))) = (c' = c ∧ gAugAQ1 g c f i fe l ρ Q (ixOf f ns)) := B.gAugAQ_ob
@[simp ↓] theorem ev_gAugA {g : Int → Int → Int} {c f : Str} {i : Nat} {fe : M Rs} {Q : Fl → Env → Prop} : Ev (gAugA g c f i fe) ρ Q ↔ gAugAQ g c f i fe ρ Q ρ[i]? := B.ev_gAugA
/-! calls with lent parts -/
@[simp ↓] theorem ev_opCallL {n : Nat} {F : List Sl → Option (Sl × List Sl)} {rs : List Rs} {Q : Rs → Env → Prop} : Ev (opCallL n F rs) ρ Q ↔ (rs.length = n ∧ (roots rs).Nodup) ∧ argQ (fun ss => Sp F ss fun r ss' => Q (.own r) (wbL rs ss' ρ)) (argL rs ρ) := B.ev_opCallL
/-! the receiver -/
@[simp ↓] theorem ev_chkI {c m : Str} {fo : M Rs} {Q : Rs → Env → Prop} : Ev (eChk c m fo) ρ Q ↔ Ev fo ρ fun r ρ1 => chkO c m (argR r ρ1) ∧ Q r ρ1 := B.ev_chkI
@[simp ↓] theorem ev_callM {c m : Str} {fo : M Rs} {fa : M (List Rs)} {n : Nat} {F : List Sl → Option (Sl × List Sl)} {Q : Rs → Env → Prop} : Ev (eCallM c m fo fa n F) ρ Q ↔ Ev fo ρ fun r ρ1 => chkO c m (argR r ρ1) ∧ Ev fa ρ1 fun rs ρ2 => Ev (opCallL n F (r :: rs)) ρ2 Q := B.ev_callM
/-! a new instance -/
def makeQ (rs : List Rs) (ρ : Env) (Q : Rs → Env → Prop) [Fx Q] (r : Sl) (o0 : List Sl) : Prop := B.makeQ rs ρ Q r o0
@[simp] theorem makeQ_c {rs : List Rs} {Q : Rs → Env → Prop} {r s : Sl} {ss : List Sl} : makeQ rs ρ Q r (s :: ss) = (r = .p .none ∧ s.tag = none ∧ Q (.own s) (wbL rs ss ρ)) := B.makeQ_c
@[simp ↓] theorem ev_opMake {n : Nat} {c : Str} {F : List Sl → Option (Sl × List Sl)} {rs : List Rs} {Q : Rs → Env → Prop} : Ev (opMake n c F rs) ρ Q ↔ (rs.length + 1 = n ∧ (roots rs).Nodup) ∧ argQ (fun ss => Sp F (.ob none c [] [] :: ss) fun r ss' => makeQ rs ρ Q r ss') (argL rs ρ) := B.ev_opMake
/-! reading what is perhaps a lent part -/
def lentD (i k : Nat) (w : Sl) (ρ : Env) (Q : Rs → Env → Prop) [Fx Q] (pf : D → Option Rd') (t : Option Nat) (s : Sl) (o0 : Option D) : Prop := B.lentD i k w ρ Q pf t s o0
def lentQ (i k : Nat) (w : Sl) (ρ : Env) (Q : Rs → Env → Prop) [Fx Q] (pf : D → Option Rd') (o0 : Option (Option Sl)) (o1 : Option Sl) : Prop := B.lentQ i k w ρ Q pf o0 o1
@[simp] theorem lentQ_ml {i k : Nat} {w : Sl} {Q : Rs → Env → Prop} {pf : D → Option Rd'} {t tg : Option Nat} {l : List D} : lentQ i k w ρ Q pf (some (some (.hl t))) (some (.ml tg l)) = resQ (ρ.set i (some ((w.setKid k (.ml none l)).retag t))) Q (pf (.list l)) := B.lentQ_ml
@[simp ↓] theorem ev_opGA1 {pf : List D → Option Rd'} {i k : Nat} {w : Sl} {Q : Rs → Env → Prop} : Ev (opGA pf [.lent i w k]) ρ Q ↔ lentQ i k w ρ Q (fun d => pf [d]) ρ[i]? (w.kid k) := B.ev_opGA1
@[simp ↓] theorem ev_opGA2 {pf : List D → Option Rd'} {i k : Nat} {w : Sl} {d : D} {Q : Rs → Env → Prop} : Ev (opGA pf [.lent i w k, .own (.p d)]) ρ Q ↔ lentQ i k w ρ Q (fun d0 => pf [d0, d]) ρ[i]? (w.kid k) := B.ev_opGA2
/-! o[i] += e, o a lent list -/
def augLQ3 (f : Int → Int → Int) (j k0 m : Nat) (w : Sl) (l : List D) (x : Int) (ρ : Env) (Q : Fl → Env → Prop) [Fx Q] (o0 : Option D) (o1 : Option (Option Sl)) : Prop := B.augLQ3 f j k0 m w l x ρ Q o0 o1
@[simp] theorem augLQ3_i {f : Int → Int → Int} {j k0 m : Nat} {w : Sl} {l : List D} {x y : Int} {Q : Fl → Env → Prop} {t1 : Option Nat} : augLQ3 f j k0 m w l x ρ Q (some (.int y)) (some (some (.hl t1))) = Q .nx (ρ.set j (some ((w.setKid k0 (.ml none (l.set m (.int (f x y))))).retag t1))) := B.augLQ3_i
/-- as o[i] += e runs where the list is known -/
theorem ev_augL {f : Int → Int → Int} {fe : M Rs} {j k : Nat} {w : Sl} {t : Option Nat} {l : List D} {m x : Int} {Q : Fl → Env → Prop} (h1 : w.kid k = some (.ml none l)) (h2 : ρ[j]? = some (some (.hl t))) (h0 : 0 ≤ m) (h4 : l[m.toNat]? = some (.int x))
    (h : Ev fe ρ fun r ρ1 => augLQ3 f j k m.toNat w l x ρ1 Q (r.view ρ1) ρ1[j]?) : Ev (addSubL f fe (.lent j w k) (.own (.p (.int m)))) ρ Q := B.ev_augL h1 h2 h0 h4 h
@[simp ↓] theorem ev_gAugL {f : Int → Int → Int} {fo fi fe : M Rs} {Q : Fl → Env → Prop} : Ev (gAugL f fo fi fe) ρ Q ↔ Ev fo ρ fun o ρ1 => Ev fi ρ1 fun i ρ2 => Ev (addSubL f fe o i) ρ2 Q := B.ev_gAugL
@[simp ↓] theorem ev_gSubL {f fo fi : M Rs} {Q : Fl → Env → Prop} : Ev (gSubL f fo fi) ρ Q ↔ Ev f ρ fun r ρ1 => Ev (freezeR r) ρ1 fun d ρ2 => Ev fo ρ2 fun o ρ3 => Ev fi ρ3 fun i ρ4 => Ev (setSubL o i d) ρ4 Q := B.ev_gSubL
/-! x *= e, x //= e -/
def augCQ (c : Int → Int → Prop) (f : Int → Int → Int) (i : Nat) (fe : M Rs) (ρ : Env) (Q : Fl → Env → Prop) [Fx Q] (o0 : Option (Option Sl)) : Prop := B.augCQ c f i fe ρ Q o0
@[simp] theorem augCQ_i {c : Int → Int → Prop} {f : Int → Int → Int} {i : Nat} {fe : M Rs} {Q : Fl → Env → Prop} {x : Int} : augCQ c f i fe ρ Q (some (some (.p (.int x)))) = Ev fe ρ fun r ρ1 => intQ ρ1 (fun o ρ2 => match o with
    | some y => (c x y ∧ i < ρ2.length) ∧ Q .nx (ρ2.set i (some (.p (.int (f x y)))))
    | none => False) (r.view ρ1) := B.augCQ_i
@[simp ↓] theorem ev_augC {c : Int → Int → Prop} {f : Int → Int → Int} {i : Nat} {fe : M Rs} {Q : Fl → Env → Prop} : Ev (gAugC c f i fe) ρ Q ↔ augCQ c f i fe ρ Q ρ[i]? := B.ev_augC
end
end Pd


set_option Elab.async false
set_option linter.all false
set_option maxRecDepth 100000
set_option maxHeartbeats 1000000
namespace Pd
open PySem PySem.Spec PyProof.Rows L2
namespace B
/-- how a turn may end -/
def outX (Q : Fl → Env → Prop) (J : Env → Prop) (ρ : Env) : Fl → Prop
  | .nx => J ρ
  | .ct => J ρ
  | .bk => Q .nx ρ
  | .rt s => Q (.rt s) ρ
@[simp] theorem outX_nx {Q : Fl → Env → Prop} {J : Env → Prop} {ρ : Env} : outX Q J ρ .nx = J ρ := rfl
@[simp] theorem outX_ct {Q : Fl → Env → Prop} {J : Env → Prop} {ρ : Env} : outX Q J ρ .ct = J ρ := rfl
@[simp] theorem outX_bk {Q : Fl → Env → Prop} {J : Env → Prop} {ρ : Env} : outX Q J ρ .bk = Q .nx ρ := rfl
@[simp] theorem outX_rt {Q : Fl → Env → Prop} {J : Env → Prop} {ρ : Env} {s : Sl} : outX Q J ρ (.rt s) = Q (.rt s) ρ := rfl
theorem envQ_mono {P P' : Env → Prop} (i : ∀ ρ, P ρ → P' ρ) : ∀ {o : Option Env}, envQ P o → envQ P' o
  | some ρ, h => i ρ h
  | none, h => h
theorem ev_loopX_inv {t : D → Env → Option Env} {body : M Fl} {Q : Fl → Env → Prop} (all : List D) (I : List D → Env → Prop)
    (hs : ∀ done d r ρ, all = done ++ d :: r → I done ρ → envQ (fun ρ1 => Ev body ρ1 fun fl ρ2 => outX Q (I (done ++ [d])) ρ2 fl) (t d ρ)) (hd : ∀ ρ', I all ρ' → Q .nx ρ') :
    ∀ (rest done : List D) (ρ : Env), all = done ++ rest → I done ρ → Ev (loopD t body rest) ρ Q
  | [], done, ρ, ha, h0 => ev_loop_nil.mpr (hd ρ (by rw [ha]; simpa using h0))
  | d :: rest, done, ρ, ha, h0 => ev_loop_cons.mpr (envQ_mono (fun ρ1 h => h.mono fun fl ρ2 q => by
    cases fl with
    | nx => exact ev_loopX_inv all I hs hd rest (done ++ [d]) ρ2 (by rw [ha]; simp) q
    | ct => exact ev_loopX_inv all I hs hd rest (done ++ [d]) ρ2 (by rw [ha]; simp) q
    | bk => exact q
    | rt s => exact q) (hs done d rest ρ ha h0))
/-- a loop that may be left -/
theorem ev_loopX {t : D → Env → Option Env} {body : M Fl} {Q : Fl → Env → Prop} {l : List D} {ρ : Env} (I : List D → Env → Prop) (h0 : I [] ρ)
    (hs : ∀ done d r ρ, l = done ++ d :: r → I done ρ → envQ (fun ρ1 => Ev body ρ1 fun fl ρ2 => outX Q (I (done ++ [d])) ρ2 fl) (t d ρ)) (hd : ∀ ρ', I l ρ' → Q .nx ρ') : Ev (loopD t body l) ρ Q :=
  ev_loopX_inv l I hs hd l [] ρ rfl h0
end B
end Pd

set_option Elab.async false
set_option linter.all false
set_option maxRecDepth 100000
set_option maxHeartbeats 1000000
namespace Pd
open PySem PySem.Spec PyProof.Rows L2
open B (envQ_mono)
/-- how a turn may end -/
def outX (Q : Fl → Env → Prop) [Fx Q] (J : Env → Prop) (ρ : Env) (o0 : Fl) : Prop := B.outX Q J ρ o0
@[simp] theorem outX_nx {Q : Fl → Env → Prop} {J : Env → Prop} {ρ : Env} : outX Q J ρ .nx = J ρ := B.outX_nx
@[simp] theorem outX_ct {Q : Fl → Env → Prop} {J : Env → Prop} {ρ : Env} : outX Q J ρ .ct = J ρ := B.outX_ct
@[simp] theorem outX_bk {Q : Fl → Env → Prop} {J : Env → Prop} {ρ : Env} : outX Q J ρ .bk = Q .nx ρ := B.outX_bk
@[simp] theorem outX_rt {Q : Fl → Env → Prop} {J : Env → Prop} {ρ : Env} {s : Sl} : outX Q J ρ (.rt s) = Q (.rt s) ρ := B.outX_rt
theorem ev_loopX_inv {t : D → Env → Option Env} {body : M Fl} {Q : Fl → Env → Prop} (all : List D) (I : List D → Env → Prop)
    (hs : ∀ done d r ρ, all = done ++ d :: r → I done ρ → envQ (fun ρ1 => Ev body ρ1 fun fl ρ2 => outX Q (I (done ++ [d])) ρ2 fl) (t d ρ)) (hd : ∀ ρ', I all ρ' → Q .nx ρ') :
    ∀ (rest done : List D) (ρ : Env), all = done ++ rest → I done ρ → Ev (loopD t body rest) ρ Q := B.ev_loopX_inv all I hs hd
/-- a loop that may be left -/
theorem ev_loopX {t : D → Env → Option Env} {body : M Fl} {Q : Fl → Env → Prop} {l : List D} {ρ : Env} (I : List D → Env → Prop) (h0 : I [] ρ)
    (hs : ∀ done d r ρ, l = done ++ d :: r → I done ρ → envQ (fun ρ1 => Ev body ρ1 fun fl ρ2 => outX Q (I (done ++ [d])) ρ2 fl) (t d ρ)) (hd : ∀ ρ', I l ρ' → Q .nx ρ') : Ev (loopD t body l) ρ Q := B.ev_loopX I h0 hs hd
end Pd


set_option Elab.async false
set_option linter.all false
set_option maxRecDepth 100000
set_option maxHeartbeats 2000000
namespace Pd
open PySem PySem.Spec PyProof.Rows L2
/-! ### operations on dicts that are lent parts -/
def Sl.vws : Sl → Option Vw
  | .md _ l => some (.m l)
  | .fd l => some (.m l)
  | s => s.dat.map .d
def vwsAll : List Sl → Option (List Vw)
  | [] => some []
  | s :: r => match s.vws with
    | some d => match vwsAll r with
      | some t => some (d :: t)
      | none => none
    | none => none
section
variable {K : PySem.W.Frag} {vs0 : List V} {B H : Hp} {σ : L2.St} {ρ : Env} {fs : Nat → List Addr}
theorem vws_sh {v : V} {s : Sl} {T : List Addr} {d : Vw} (e : Same B H) (h : Own K B H v s T) (q : s.vws = some d) : ShV K B H v d := by
  cases s with
  | p x => cases q; exact dat_sh e h rfl
  | ml t l => cases q; exact dat_sh e h rfl
  | md t l =>
    cases q
    obtain ⟨a, ks, rfl, rfl, h1, h2⟩ := h
    exact ⟨a, ks, rfl, Or.inl h1, h2⟩
  | fd l =>
    cases q
    obtain ⟨⟨a, ks, o, rfl, h1, h2⟩, _⟩ := h
    exact ⟨a, ks, rfl, Or.inr ⟨o, e _ _ h1⟩, h2⟩
  | mr t l => cases q
  | ob t c ns l => cases q
  | ex c f => cases q
  | hl t => cases q
theorem vwsAll_sh (e : Same B H) : ∀ {ss : List Sl} {vs : List V} {ds : List Vw}, (∀ (j : Nat) s, ss[j]? = some s → ∃ v T, vs[j]? = some v ∧ Own K B H v s T) → vs.length = ss.length → vwsAll ss = some ds → ShVs K B H vs ds
  | [], [], ds, _, _, q => by cases q; trivial
  | [], _ :: _, _, _, hl, _ => by cases hl
  | _ :: _, [], _, _, hl, _ => by cases hl
  | s :: ss, v :: vs, ds, h, hl, q => by
    unfold vwsAll at q
    split at q
    · rename_i d e1
      split at q
      · rename_i t e2
        cases q
        obtain ⟨v', T, h1, h2⟩ := h 0 s rfl
        cases h1
        exact ⟨vws_sh e h2 e1, vwsAll_sh e (fun j s' hj => h (j + 1) s' (by simpa using hj)) (by simpa using hl) e2⟩
      · cases q
    · cases q
end
open Classical in
noncomputable def opVL (pf : List Vw → Option Rd2) : List Rs → M Rs := fun rs ρ => if (roots rs).Nodup then match argL rs ρ with
    | some ss => match vwsAll ss with
      | some ds => match pf ds with
        | some res => some (.ok res.rs (wbL rs ss ρ))
        | none => none
      | none => none
    | none => none
  else none
open Classical in
theorem opVL_ok {K : PySem.W.Frag} {r : List V → Hp → VK → Prop} {pf : List Vw → Option Rd2} (h : ∀ B H vs ds res Q, Same B H → ShVs K B H vs ds → pf ds = some res → ResV K B H Q res → r vs H Q) : OpOk K r (opVL pf) := by
  intro vs0 σ B H ρ fs vs rs Ts Q g ok nd r' ρ' e k
  unfold opVL at e
  split at e
  · rename_i hnd
    split at e
    · rename_i ss e1
      split at e
      · rename_i ds e2
        split at e
        · rename_i res e3
          cases e
          obtain ⟨fsA, gA, tg, hvl, step⟩ := call_core g ok nd hnd e1
          have hsl := (argL_get e1).1
          have hsh : ShVs K B H vs ds := vwsAll_sh g.ext (fun j s hj => by
            obtain ⟨v, h1, h2, _⟩ := gA.at_ j s (by rw [List.getElem?_map, hj]; rfl)
            rw [List.getElem?_map] at h1
            cases q : vs[j]? with
            | none => rw [q] at h1; cases h1
            | some v' => rw [q] at h1; cases h1; exact ⟨v, _, rfl, h2⟩) (by rw [hvl, hsl]) e2
          refine h B H vs ds res Q g.ext hsh e3 ?_
          have mk : ∀ (o : HO) (s : Sl) (p : Addr), H p = none → Own K B (upd H p o) (.ref p) s [p] → s.tag = none → res.rs = .own s → Q (.ref p) (upd H p o) := fun o s p hp ow ht hr => by
            have fr := Fr.newL (B := B) (o := o) hp
            have hpB : B p = none := by
              cases e : B p with
              | none => rfl
              | some u => rw [g.ext p u e] at hp; cases hp
            have gA2 := gA.grow fr (fun _ _ f => f) (g.ext.trans fr.sameH)
            obtain ⟨fs2, fr2, g2, t2⟩ := step ss B (upd H p o) fsA [p] (fr.weak (fun _ f => f.elim) fun a f => by
              rcases f with f | f
              · exact Or.inr (Or.inl f)
              · exact Or.inl f) gA2 (fun a ha => by
                simp at ha
                subst ha
                exact ⟨hpB, fun i hi => gA.lives hi hp⟩)
            exact k (.ref p) B _ fs2 [p] fr2 g2 (by rw [hr]; exact ⟨ow, ht, t2⟩)
          cases res with
          | pd d =>
            intro v B' H' fr ex hd
            obtain ⟨fs2, fr2, g2, t2⟩ := step ss B' H' fsA [] (fr.weak (fun _ f => f.elim) fun a f => by
              rcases f with f | f
              · exact Or.inr (Or.inl f)
              · cases f) (gA.grow fr (fun _ _ f => f) ex) (fun a ha => nomatch ha)
            exact k v B' H' fs2 [] fr2 g2 ⟨⟨hd, rfl⟩, rfl, fun a ha => nomatch ha⟩
          | nl l => exact fun p xs hp hd => mk (HO.lst xs) (.ml none l) p hp ⟨p, xs, rfl, rfl, upd_same, hd⟩ rfl rfl
          | nm l => exact fun p ks hp hd => mk (HO.dK ks) (.md none l) p hp ⟨p, ks, rfl, rfl, upd_same, hd⟩ rfl rfl
        · cases e
      · cases e
    · cases e
  · cases e
/-! d[k], k in d, k not in d -/
theorem pIxD_ok {K : PySem.W.Frag} : ∀ B H vs ds res Q, Same B H → ShVs K B H vs ds → pIxD ds = some res → ResV K B H Q res → r2 rIxD vs H Q := fun B H vs ds res Q e hs hp k => by
  unfold pIxD at hp
  split at hp
  · split at hp
    · rename_i kk hk
      split at hp
      · rename_i d hv
        cases hp
        obtain ⟨x, y, rfl, ⟨a, ks, rfl, h1, h2⟩, h3⟩ := hs.two
        have e3 := kOf_dp (h3.dp e) hk
        subst e3
        rcases h2.val kk with ⟨_, z⟩ | ⟨v, d', z1, z2, z3⟩
        · rw [hv] at z; cases z
        · rw [hv] at z2
          cases z2
          exact ⟨_, _, rfl, a, v, rfl, by rw [← z1]; exact dgetR h1, k.same e z3⟩
      · cases hp
    · cases hp
  · cases hp
theorem pInD_ok {K : PySem.W.Frag} : ∀ B H vs ds res Q, Same B H → ShVs K B H vs ds → pInD ds = some res → ResV K B H Q res → r2 rInD vs H Q := fun B H vs ds res Q e hs hp k => by
  unfold pInD at hp
  split at hp
  · split at hp
    · rename_i kk hk
      cases hp
      obtain ⟨x, y, rfl, h3, ⟨a, ks, rfl, h1, h2⟩⟩ := hs.two
      have e3 := kOf_dp (h3.dp e) hk
      subst e3
      exact ⟨_, _, rfl, a, _, rfl, dgetR h1, by rw [valD_some h2]; exact k.bool e⟩
    · cases hp
  · cases hp
theorem pNiD_ok {K : PySem.W.Frag} : ∀ B H vs ds res Q, Same B H → ShVs K B H vs ds → pNiD ds = some res → ResV K B H Q res → r2 rNiD vs H Q := fun B H vs ds res Q e hs hp k => by
  unfold pNiD at hp
  split at hp
  · split at hp
    · rename_i kk hk
      cases hp
      obtain ⟨x, y, rfl, h3, ⟨a, ks, rfl, h1, h2⟩⟩ := hs.two
      have e3 := kOf_dp (h3.dp e) hk
      subst e3
      exact ⟨_, _, rfl, a, _, rfl, dgetR h1, by rw [valD_some h2]; exact k.bool e⟩
    · cases hp
  · cases hp
noncomputable def oIxDL := opVL pIxD
noncomputable def oInDL := opVL pInD
noncomputable def oNiDL := opVL pNiD
theorem oIxDL_ok {K : PySem.W.Frag} : OpOk K (r2 rIxD) oIxDL := opVL_ok pIxD_ok
theorem oInDL_ok {K : PySem.W.Frag} : OpOk K (r2 rInD) oInDL := opVL_ok pInD_ok
theorem oNiDL_ok {K : PySem.W.Frag} : OpOk K (r2 rNiD) oNiDL := opVL_ok pNiD_ok
/-! ### a lent dict is changed and put back -/
section
variable {K : PySem.W.Frag} {vs0 : List V} {B H : Hp} {σ : L2.St} {ρ : Env} {fs : Nat → List Addr} {v : V} {w : Sl} {i k : Nat} {T : List Addr} {tg t : Option Nat} {l : List (Key × D)}
theorem good_mutD (g : Good K vs0 B H σ ρ fs) (ok : RsOk K B H σ fs v (.lent i w k) T) (hk : w.kid k = some (.md tg l)) (hh : ρ[i]? = some (some (.hl t))) :
    ∃ a ks, v = .ref a ∧ H a = some (.dK ks) ∧ KvD K B ks l ∧ ∀ (ks' : List (Key × V)) (l' : List (Key × D)), KvD K B ks' l' →
      ∃ fs', Fr B H (UnF (InF fs) T) B (upd H a (.dK ks')) (InF fs') ∧ Good K vs0 B (upd H a (.dK ks')) σ (ρ.set i (some ((w.setKid k (.md none l')).retag t))) fs' := by
  obtain ⟨⟨v0, z1, z2, z3⟩, z4⟩ := ok
  obtain ⟨Tk, y1, y2, y3⟩ := z2.kid z3 hk
  obtain ⟨a, ks, rfl, rfl, h1, h2⟩ := y1
  have ha : a ∈ T := y2 a (by simp)
  have hi : i < ρ.length := (List.getElem?_eq_some_iff.mp hh).1
  refine ⟨a, ks, rfl, h1, h2, fun ks' l' hd => ?_⟩
  obtain ⟨T2, o2, hT2⟩ := y3 (B' := B) (H' := upd H a (.dK ks')) (c' := .md none l') (T' := [a]) (Same.refl B) (fun b hb hn => upd_ne fun q => hn (by rw [q]; simp)) ⟨a, ks', rfl, rfl, upd_same, hd⟩ (fun b hb _ => hb)
  have sub : ∀ b ∈ T2, b ∈ T := fun b hb => by
    rcases hT2 b hb with q | q
    · exact q.1
    · simp at q; rw [q]; exact ha
  refine ⟨fun j => if j = i then T2 else fs j, (Fr.mut (F := UnF (InF fs) T) (Or.inr ha)).weak (fun _ h => h) fun b hb => Or.inl ?_, ?_⟩
  · obtain ⟨j, hj⟩ := hb
    try dsimp only at hj
    by_cases e : j = i
    · rw [if_pos e] at hj; exact Or.inr (sub b hj)
    · rw [if_neg e] at hj; exact Or.inl ⟨j, hj⟩
  · have nB : B a = none := (z4 a ha).1
    refine ⟨fun b u e => ?_, by rw [List.length_set]; exact g.len, fun j s' h => ?_, fun j h => ?_, fun j j' b hb hb' => ?_, fun j b hb => ?_⟩
    · rw [upd_ne (fun z => by rw [z, nB] at e; cases e)]
      exact g.ext b u e
    · by_cases e : j = i
      · subst e
        rw [List.getElem?_set_self hi] at h
        cases h
        obtain ⟨v1, q1, _, q3⟩ := g.at_ j _ hh
        rw [z1] at q1
        cases q1
        exact ⟨v0, z1, by rw [if_pos rfl]; exact o2.retag', fun m hm => q3 m (Sl.retag_tag hm)⟩
      · rw [List.getElem?_set_ne (Ne.symm e)] at h
        obtain ⟨v', y1, y2, y3⟩ := g.at_ j s' h
        refine ⟨v', y1, ?_, y3⟩
        rw [if_neg e]
        exact y2.keep (Same.refl B) fun b hb => upd_ne fun z => (z4 a ha).2 j (z ▸ hb)
    · by_cases e : j = i
      · subst e
        exact (h _ (List.getElem?_set_self hi)).elim
      · rw [if_neg e]
        exact g.emp j fun s' z => h s' (by rw [List.getElem?_set_ne (Ne.symm e)]; exact z)
    · by_cases e : j = i
      · by_cases e' : j' = i
        · rw [e, e']
        · rw [if_pos e] at hb; rw [if_neg e'] at hb'
          exact ((z4 b (sub b hb)).2 j' hb').elim
      · by_cases e' : j' = i
        · rw [if_neg e] at hb; rw [if_pos e'] at hb'
          exact ((z4 b (sub b hb')).2 j hb).elim
        · rw [if_neg e] at hb; rw [if_neg e'] at hb'; exact g.dis j j' b hb hb'
    · by_cases e : j = i
      · rw [if_pos e] at hb; exact (z4 b (sub b hb)).1
      · rw [if_neg e] at hb; exact g.out j b hb
end
/-! ### d[k] = v, d lent -/
def putSubL (o i : Rs) (d : D) : M Fl := fun ρ => match o with
  | .lent j w k0 => match w.kid k0, ρ[j]? with
    | some (.md tg l), some (some (.hl t)) => match i.view ρ with
      | some y => match kOf y with
        | some k => if l.length < sizeLine then some (.ok .nx (ρ.set j (some ((w.setKid k0 (.md none (putD l k d))).retag t)))) else none
        | none => none
      | none => none
    | _, _ => none
  | _ => none
def gPutL (f fo fi : M Rs) : M Fl := M.bind f fun r => M.bind (freezeR r) fun d => M.bind fo fun o => M.bind fi fun i => putSubL o i d
theorem ds_putL {X : Cx} {vs0 : List V} {e o i : Expr} {f fo fi : M Rs} {pos tpos : Pos} (hu : X.A.units + 64 < cLine) (he : PE X e (rdE X.K vs0 f)) (ho : PE X o (rdE X.K vs0 fo)) (hi : PE X i (rdE X.K vs0 fi))
    (hs : swapsWith e (some (.Subscript o i tpos)) pos.line X.env = pure false := by rfl) :
    PS X (.Assign [.Subscript o i tpos] e pos) (rdS X.K vs0 (gPutL f fo fi)) := PS.imp (ps_dput (by omega) ho hi he hs) fun D σ H q => by
  obtain ⟨B, ρ, fs, gd, fl, ρ', e1, k⟩ := q
  obtain ⟨r, ρ1, e2, e3⟩ := M.bind_ok e1
  obtain ⟨d, ρ2, e4, e5⟩ := M.bind_ok e3
  obtain ⟨ro, ρ3, e6, e7⟩ := M.bind_ok e5
  obtain ⟨ri, ρ4, e8, e9⟩ := M.bind_ok e7
  refine ⟨B, ρ, fs, gd, r, ρ1, e2, fun v B1 H1 fs1 T1 fr1 g1 ok1 => ?_⟩
  obtain ⟨B2, fs2, fr2, g2, d2⟩ := freezeR_ok g1 ok1 e4
  refine ⟨B2, ρ2, fs2, g2, ro, ρ3, e6, fun u B3 H3 fs3 T3 fr3 g3 ok3 => ⟨B3, ρ3, fs3, g3, ri, ρ4, e8, fun w B4 H4 fs4 T4 fr4 g4 ok4 => ?_⟩⟩
  unfold putSubL at e9
  cases ro with
  | own s => cases e9
  | bor j => cases e9
  | lent j w0 k0 =>
  dsimp only at e9
  split at e9
  · rename_i tg l t hk hh
    split at e9
    · rename_i y e11
      split at e9
      · rename_i kk e12
        split at e9
        · rename_i hsz
          cases e9
          have ok5 : RsOk X.K B4 H4 σ fs4 u (.lent j w0 k0) T3 := ok3.keep fr4 ok3.off fun a h => Or.inl h
          obtain ⟨a, ks, rfl, q2, q3, put⟩ := good_mutD g4 ok5 hk hh
          have ew := kOf_dp ((view_ok g4 ok4 e11).dp g4.ext) e12
          subst ew
          have dv : Dp X.K B4 v d := Dp.mono ((fr3.bb).trans fr4.bb) d2
          obtain ⟨fs5, fr5, g5⟩ := put (putK ks kk v) (putD l kk d) (q3.put kk dv)
          refine ⟨a, _, rfl, DPut.k q2 (by rw [q3.len]; exact hsz), ?_⟩
          refine k σ B4 _ fs5 ((fr1.trans fr2).trans (fr3.trans (((fr4.frame T3).weak (fun _ h => h) (G' := UnF (InF fs4) T3) fun b hb => Or.inl ?_).trans fr5))) g5
          rcases hb with hb | hb
          · exact Or.inl (Or.inl hb)
          · exact Or.inr hb
        · cases e9
      · cases e9
    · cases e9
  · cases e9
/-! ### d.pop(k) -/
def dropD (l : List (Key × D)) (k : Key) : List (Key × D) := l.filter fun kv => decide (kv.1 ≠ k)
theorem KvD.dropK {K : PySem.W.Frag} {B : Hp} {ks : List (Key × V)} {l : List (Key × D)} (h : KvD K B ks l) (k : Key) : KvD K B (dropK ks k) (dropD l k) := by
  unfold KvD at h ⊢
  unfold L2.dropK dropD
  induction h with
  | nil => exact .nil
  | @cons p q ps qs h t ih =>
    rw [List.filter_cons, List.filter_cons, h.1]
    by_cases e : q.1 = k
    · rw [if_neg (by simp [e]), if_neg (by simp [e])]; exact ih
    · rw [if_pos (by simp [e]), if_pos (by simp [e])]; exact .cons h ih
def isMd (o : Rs) (ρ : Env) : Bool := match o with
  | .bor j => match ρ[j]? with
    | some (some (.md _ _)) => true
    | _ => false
  | .lent _ w k0 => match w.kid k0 with
    | some (.md _ _) => true
    | _ => false
  | _ => false
def popSub (o i : Rs) : M Rs := fun ρ => match o with
  | .bor j => match ρ[j]?, i.view ρ with
    | some (some (.md t l)), some y => match kOf y with
      | some k => match valD l k with
        | some d => some (.ok (.own (.p d)) (ρ.set j (some (.md t (dropD l k)))))
        | none => none
      | none => none
    | _, _ => none
  | .lent j w k0 => match w.kid k0, ρ[j]?, i.view ρ with
    | some (.md tg l), some (some (.hl t)), some y => match kOf y with
      | some k => match valD l k with
        | some d => some (.ok (.own (.p d)) (ρ.set j (some ((w.setKid k0 (.md none (dropD l k))).retag t))))
        | none => none
      | none => none
    | _, _, _ => none
  | _ => none
def eDPop (fo fi : M Rs) : M Rs := M.bind fo fun o => M.bind (fun ρ => if isMd o ρ = true then some (.ok () ρ) else none) fun _ => M.bind fi fun i => popSub o i
theorem isMd_ok {K : PySem.W.Frag} {vs0 : List V} {B H : Hp} {σ : L2.St} {ρ : Env} {fs : Nat → List Addr} {o : Rs} {v : V} {T : List Addr} (g : Good K vs0 B H σ ρ fs) (ok : RsOk K B H σ fs v o T) (h : isMd o ρ = true) : ∃ a, v = .ref a ∧ IsD H a := by
  cases o with
  | own s => cases h
  | bor j =>
    unfold isMd at h
    dsimp only at h
    split at h
    · rename_i t l e
      obtain ⟨v', q1, ⟨a, ks, rfl, hfs, q2, q3⟩, _⟩ := g.at_ j _ e
      obtain ⟨z1, z2⟩ := ok
      rw [q1] at z1
      cases z1
      exact ⟨a, rfl, Or.inl ⟨ks, Or.inl q2⟩⟩
    · cases h
  | lent j w k0 =>
    unfold isMd at h
    dsimp only at h
    split at h
    · rename_i t l e
      obtain ⟨⟨v0, z1, z2, z3⟩, z4⟩ := ok
      obtain ⟨Tk, ⟨a, ks, rfl, _, q2, q3⟩, y2, y3⟩ := z2.kid z3 e
      exact ⟨a, rfl, Or.inl ⟨ks, Or.inl q2⟩⟩
    · cases h
theorem de_dpop {X : Cx} {vs0 : List V} {o e : Expr} {fo fi : M Rs} {apos cpos : Pos} (ho : PE X o (rdE X.K vs0 fo)) (hi : PE X e (rdE X.K vs0 fi)) (m : M1 X o "pop" apos e cpos := by exact ⟨rfl, rfl, rfl, rfl⟩) :
    PE X (.Call (.Attribute o "pop" apos) [e] [] cpos) (rdE X.K vs0 (eDPop fo fi)) := PE.imp (pe_dpop1 ho hi m) fun σ H Q q => by
  obtain ⟨B, ρ, fs, gd, r, ρ', e1, kk⟩ := q
  obtain ⟨ro, ρ1, e2, e3⟩ := M.bind_ok e1
  obtain ⟨_, ρ2, e4, e5⟩ := M.bind_ok e3
  obtain ⟨ri, ρ3, e6, e7⟩ := M.bind_ok e5

  split at e4
  · rename_i hmd
    cases e4
    refine ⟨B, ρ, fs, gd, ro, ρ1, e2, fun u B1 H1 fs1 T1 fr1 g1 ok1 => ?_⟩
    obtain ⟨a, rfl, hd⟩ := isMd_ok g1 ok1 hmd
    refine ⟨a, rfl, hd, B1, ρ1, fs1, g1, ri, ρ3, e6, fun y B2 H2 fs2 T2 fr2 g2 ok2 => ?_⟩
    unfold popSub at e7
    cases ro with
    | own s => cases e7
    | bor j =>
      dsimp only at e7
      split at e7
      · rename_i t l y' e10 e11
        split at e7
        · rename_i k e12
          split at e7
          · rename_i d e13
            cases e7
            obtain ⟨v', q1, ⟨a', ks, rfl, hfs, q2, q3⟩, _⟩ := g2.at_ j _ e10
            obtain ⟨z1, z2⟩ := ok1
            rw [q1] at z1
            cases z1
            have ew := kOf_dp ((view_ok g2 ok2 e11).dp g2.ext) e12
            subst ew
            rcases q3.val k with ⟨_, z⟩ | ⟨v, d', y1, y2, y3⟩
            · rw [e13] at z; cases z
            · rw [e13] at y2
              cases y2
              refine ⟨ks, k, v, q2, rfl, y1, ?_⟩
              have g5 := g2.upd (o := HO.dK (dropK ks k)) (s' := .md t (dropD l k)) e10 hfs q1 ⟨_, _, rfl, rfl, upd_same, q3.dropK k⟩ rfl
              refine kk v B2 _ fs2 [] ((((fr_drop fr1).trans (fr_drop fr2)).trans (Fr.updIn (o := HO.dK (dropK ks k)) ⟨j, by rw [hfs]; simp⟩)).weak (fun _ h => h) fun b hb => Or.inl ?_) g5 ⟨⟨y3, rfl⟩, rfl, fun b hb => nomatch hb⟩
              rcases hb with hb | hb
              · exact hb
              · cases hb
          · cases e7
        · cases e7
      · cases e7
    | lent j w k0 =>
      dsimp only at e7
      split at e7
      · rename_i tg l t y' hk hh e11
        split at e7
        · rename_i k e12
          split at e7
          · rename_i d e13
            cases e7
            have ok3 : RsOk X.K B2 H2 σ fs2 (.ref a) (.lent j w k0) T1 := ok1.keep fr2 ok1.off fun a h => Or.inl h
            obtain ⟨a', ks, q0, q2, q3, put⟩ := good_mutD g2 ok3 hk hh
            cases q0
            have ew := kOf_dp ((view_ok g2 ok2 e11).dp g2.ext) e12
            subst ew
            rcases q3.val k with ⟨_, z⟩ | ⟨v, d', y1, y2, y3⟩
            · rw [e13] at z; cases z
            · rw [e13] at y2
              cases y2
              refine ⟨ks, k, v, q2, rfl, y1, ?_⟩
              obtain ⟨fs5, fr5, g5⟩ := put (dropK ks k) (dropD l k) (q3.dropK k)
              refine kk v B2 _ fs5 [] (fr1.trans ((((fr2.frame T1).weak (fun _ h => h) (G' := UnF (InF fs2) T1) fun b hb => Or.inl ?_).trans fr5).weak (fun _ h => h) fun b hb => Or.inl ?_)) g5 ⟨⟨y3, rfl⟩, rfl, fun b hb => nomatch hb⟩
              · rcases hb with hb | hb
                · exact Or.inl (Or.inl hb)
                · exact Or.inr hb
              · rcases hb with hb | hb
                · exact hb
                · cases hb
          · cases e7
        · cases e7
      · cases e7
  · cases e4
end Pd

set_option Elab.async false
set_option linter.all false
set_option maxRecDepth 100000
set_option maxHeartbeats 2000000
namespace Pd
open PySem PySem.Spec PyProof.Rows L2
/-! ### comprehensions over a dict that is an attribute: its instance is out of sight meanwhile -/
def wkKeys (l : List (Key × D)) : List D := l.map fun p => kD p.1
def wkVals (l : List (Key × D)) : List D := l.map (·.2)
def wkItems (l : List (Key × D)) : List D := itemsD l
def eLcA (c f : Str) (i : Nat) (wk : List (Key × D) → List D) (own : List Nat) (t : D → Env → Option Env) (tt : M Bool) (te : M Rs) : M Rs := fun ρ => match ρ[i]? with
  | some (some (.ob tg c' ns l)) => if c' = c then match ixOf f ns with
      | some k => match l[k]? with
        | some (.md _ kv) => match eLc (M.ret (wk kv)) own t tt te (ρ.set i (some (.hl tg))) with
          | some (.ok (.own s) ρ1) => if s.nofd = true ∧ s.tag = none ∧ nofdE (ρ1.set i none) = true then some (.ok (.own s) (ρ1.set i (some (.ob tg c' ns l)))) else none
          | _ => none
        | _ => none
      | none => none
    else none
  | _ => none
section
variable {K : PySem.W.Frag} {vs0 : List V}
theorem rd_lcA {c f : Str} {i : Nat} {C : Addr} {wk : List (Key × D) → List D} {own is : List Nat} {t : D → Env → Option Env} {tt : M Bool} {te : M Rs} (his : ∀ i ∈ is, i ∈ own) (hC : PySem.W.nsIn K mainGlobals c = some (some (.ref C))) (hc : Cls K C) (hn : NoAttr K C f) {wi : TI} {σ : L2.St}
    (hw : ∀ (B Hx : Hp) (a : Addr) (o : Obj) (ks : List (Key × V)) (kv : List (Key × D)) (R : _), B a = some (.frz o (.dK ks)) → Hx a = some (.frz o (.dK ks)) → KvD K B ks kv → (∀ P : VK, P (.ref a) Hx → tFld K (tVar i) f σ Hx P) → (∀ J, JOk K B J (wk kv) → R J Hx) → wi σ Hx R)
    {H : Hp} {Q : VK} (q : rdE K vs0 (eLcA c f i wk own t tt te) σ H Q) : tLockE (tLc wi (rdG K vs0 is t) (rdT K vs0 tt) (rdE K vs0 te) own) σ H Q := by
  obtain ⟨B, ρ, fs, g, r, ρ', e1, k⟩ := q
  unfold eLcA at e1
  split at e1
  · rename_i tg c' ns l e0
    split at e1
    · rename_i ec
      subst ec
      split at e1
      · rename_i kx hk
        split at e1
        · rename_i tgk kv hx
          split at e1
          · rename_i s ρ1 e2
            split at e1
            · rename_i hcnd
              obtain ⟨c1, c2, c3⟩ := hcnd
              cases e1
              obtain ⟨v0, z1, z2, z3⟩ := g.at_ i _ e0
              have z2' := z2
              obtain ⟨p, dx, C', vs, Ts, rfl, eT, q1, q2, q3, q4, q5, q6⟩ := z2
              rw [hC] at q1
              cases q1
              obtain ⟨v, hv, hlk⟩ := ixOf_at hk q3
              obtain ⟨v', Tk, w1, w2, w3⟩ := OwnL.get q5 hx
              rw [hv] at w1
              cases w1
              obtain ⟨a, ks, rfl, rfl, h1, h2⟩ := w3
              have hi : i < ρ.length := (List.getElem?_eq_some_iff.mp e0).1
              have ain : a ∈ fs i := by
                rw [eT]
                exact List.mem_cons_of_mem _ (List.mem_cons_of_mem _ (List.mem_flatten.mpr ⟨[a], List.mem_of_getElem? w2, by simp⟩))
              have hpa : p ≠ a := fun e => by rw [e, h1] at q2; cases q2
              have hBa : B a = none := g.out i a ain
              refine ⟨a, .dK ks, h1, trivial, fun od => ?_⟩
              have sB : Same B (upd B a (.frz od (.dK ks))) := fun b u e => by
                rw [upd_ne (fun q => by rw [q, hBa] at e; cases e)]
                exact e
              have gl : Good K vs0 (upd B a (.frz od (.dK ks))) (upd H a (.frz od (.dK ks))) σ (ρ.set i (some (.hl tg))) (fun j => if j = i then [] else fs j) := {
                ext := same_upd g.ext
                len := by rw [List.length_set]; exact g.len
                at_ := fun j s' h => by
                  by_cases e : j = i
                  · subst e
                    rw [List.getElem?_set_self hi] at h
                    cases h
                    exact ⟨_, z1, if_pos rfl, z3⟩
                  · rw [List.getElem?_set_ne (Ne.symm e)] at h
                    obtain ⟨v', y1, y2, y3⟩ := g.at_ j s' h
                    refine ⟨v', y1, ?_, y3⟩
                    rw [if_neg e]
                    exact y2.keep sB fun b hb => upd_ne fun q => e (g.dis j i a (q ▸ hb) ain)
                emp := fun j h => by
                  by_cases e : j = i
                  · rw [if_pos e]
                  · rw [if_neg e]
                    exact g.emp j fun s' q => h s' (by rw [List.getElem?_set_ne (Ne.symm e)]; exact q)
                dis := fun j j' b hb hb' => by
                  by_cases e : j = i
                  · rw [if_pos e] at hb; cases hb
                  · by_cases e' : j' = i
                    · rw [if_pos e'] at hb'; cases hb'
                    · rw [if_neg e] at hb; rw [if_neg e'] at hb'; exact g.dis j j' b hb hb'
                out := fun j b hb => by
                  by_cases e : j = i
                  · rw [if_pos e] at hb; cases hb
                  · rw [if_neg e] at hb
                    rw [upd_ne (show b ≠ a from fun q => e (g.dis j i a (q ▸ hb) ain))]
                    exact g.out j b hb }
              refine rd_lcW his ⟨_, _, _, gl, ⟨_, _, e2, fun v B2 H2 fs2 T fr g2 ok => ?_⟩, fun R l1 ρ2 e3 kk => ?_⟩
              · have ha2 : B2 a = some (.frz od (.dK ks)) := fr.bb a _ upd_same
                have hH2 := g2.ext a _ ha2
                refine ⟨hH2, ?_⟩
                have sub : ∀ b, InF (fun j => if j = i then [] else fs j) b → ∃ j, j ≠ i ∧ b ∈ fs j := fun b ⟨j, hj⟩ => by
                  dsimp only at hj
                  by_cases e : j = i
                  · rw [if_pos e] at hj; cases hj
                  · rw [if_neg e] at hj; exact ⟨j, e, hj⟩
                have n2 : ∀ j b, b ∈ fs2 j → b ≠ a := fun j b hb q => by
                  have := g2.out j b hb
                  rw [q, ha2] at this
                  cases this
                have hj2 : i < ρ1.length := by rw [← g2.len, g.len]; exact hi
                have s3 : Same B (dropA B2 a) := fun b u e => by
                  have n : b ≠ a := fun q => by rw [q, hBa] at e; cases e
                  rw [dropA_ne n]
                  exact fr.bb b u (by rw [upd_ne n]; exact e)
                have H1 : ∀ {b}, b ≠ a → upd H a (HO.frz od (.dK ks)) b = H b := fun n => upd_ne n
                -- what belongs to slot i is not met by the body
                have off : ∀ b, b ∈ fs i → ¬ UnF (InF fs2) T b := fun b hb f => by
                  rcases fr.own b f with q | q
                  · obtain ⟨j, hj, hbj⟩ := sub b q
                    exact hj (g.dis j i b hbj hb)
                  · by_cases n : b = a
                    · rw [n, upd_same] at q; cases q
                    · rw [H1 n] at q; exact g.lives hb q
                have notF : ∀ b, b ∈ fs i → ¬ InF (fun j => if j = i then [] else fs j) b := fun b hb f => by
                  obtain ⟨j, hj, hbj⟩ := sub b f
                  exact hj (g.dis j i b hbj hb)
                have live1 : ∀ b, b ∈ fs i → upd H a (HO.frz od (.dK ks)) b ≠ none := fun b hb => by
                  by_cases n : b = a
                  · rw [n, upd_same]; simp
                  · rw [H1 n]; exact g.lives hb
                have hold : ∀ b ∈ fs i, upd H2 a (HO.dK ks) b = H b := fun b hb => by
                  by_cases n : b = a
                  · rw [n, upd_same, h1]
                  · rw [upd_ne n, fr.keep b (live1 b hb) (notF b hb), H1 n]
                have g3 : Good K vs0 (dropA B2 a) (upd H2 a (.dK ks)) σ (ρ1.set i (some (.ob tg c' ns l))) (fun j => if j = i then fs i else fs2 j) := {
                  ext := fun b u e => by
                    obtain ⟨n, e⟩ := dropA_at e
                    rw [upd_ne n]
                    exact g2.ext b u e
                  len := by rw [List.length_set]; exact g2.len
                  at_ := fun j s' h => by
                    by_cases e : j = i
                    · subst e
                      rw [List.getElem?_set_self hj2] at h
                      cases h
                      refine ⟨_, z1, ?_, z3⟩
                      rw [if_pos rfl]
                      exact z2'.keep s3 hold
                    · rw [List.getElem?_set_ne (Ne.symm e)] at h
                      obtain ⟨v', y1, y2, y3⟩ := g2.at_ j s' h
                      refine ⟨v', y1, ?_, y3⟩
                      rw [if_neg e]
                      exact y2.dropA ha2 (nofdE_at c3 (by rw [List.getElem?_set_ne (Ne.symm e)]; exact h)) fun b hb => upd_ne (n2 j b hb)
                  emp := fun j h => by
                    by_cases e : j = i
                    · subst e
                      exact (h _ (List.getElem?_set_self hj2)).elim
                    · rw [if_neg e]
                      exact g2.emp j fun s' q => h s' (by rw [List.getElem?_set_ne (Ne.symm e)]; exact q)
                  dis := fun j j' b hb hb' => by
                    by_cases e : j = i
                    · by_cases e' : j' = i
                      · rw [e, e']
                      · rw [if_pos e] at hb; rw [if_neg e'] at hb'
                        exact (off b hb (Or.inl ⟨j', hb'⟩)).elim
                    · by_cases e' : j' = i
                      · rw [if_neg e] at hb; rw [if_pos e'] at hb'
                        exact (off b hb' (Or.inl ⟨j, hb⟩)).elim
                      · rw [if_neg e] at hb; rw [if_neg e'] at hb'; exact g2.dis j j' b hb hb'
                  out := fun j b hb => by
                    by_cases e : j = i
                    · rw [if_pos e] at hb
                      by_cases n : b = a
                      · rw [n]; exact dropA_same
                      · rw [dropA_ne n]
                        exact fr.bnew b (live1 b hb) (notF b hb) (by rw [upd_ne n]; exact g.out i b hb)
                    · rw [if_neg e] at hb
                      rw [dropA_ne (n2 j b hb)]
                      exact g2.out j b hb }
                have nT : ∀ b ∈ T, b ≠ a := fun b hb q => by
                  have := (ok.2.2 b hb).1
                  rw [q, ha2] at this
                  cases this
                refine k v _ _ _ T ?_ g3 ⟨ok.1.dropA ha2 c1 fun b hb => upd_ne (nT b hb), c2, fun b hb => ⟨by rw [dropA_ne (nT b hb)]; exact (ok.2.2 b hb).1, fun j hj => ?_⟩⟩
                · refine ⟨s3, fun b hb nf => ?_, fun b hb => ?_, fun b hb => ?_, fun b hb nf hB => ?_⟩
                  · have n : b ≠ a := fun q => nf ⟨i, q ▸ ain⟩
                    rw [upd_ne n, fr.keep b (by rw [H1 n]; exact hb) (fun q => nf (let ⟨j, _, hj⟩ := sub b q; ⟨j, hj⟩)), H1 n]
                  · by_cases n : b = a
                    · rw [n, upd_same]; simp
                    · rw [upd_ne n]
                      exact fr.live b (by rw [H1 n]; exact hb)
                  · have main : UnF (InF fs2) T b → InF fs b ∨ H b = none := fun q => by
                      rcases fr.own b q with q | q
                      · exact Or.inl (let ⟨j, _, hj⟩ := sub b q; ⟨j, hj⟩)
                      · by_cases n : b = a
                        · rw [n, upd_same] at q; cases q
                        · rw [H1 n] at q; exact Or.inr q
                    rcases hb with ⟨j, hj⟩ | hb
                    · dsimp only at hj
                      by_cases e : j = i
                      · rw [if_pos e] at hj
                        exact Or.inl ⟨i, hj⟩
                      · rw [if_neg e] at hj
                        exact main (Or.inl ⟨j, hj⟩)
                    · exact main (Or.inr hb)
                  · have n : b ≠ a := fun q => nf ⟨i, q ▸ ain⟩
                    rw [dropA_ne n]
                    exact fr.bnew b (by rw [H1 n]; exact hb) (fun q => nf (let ⟨j, _, hj⟩ := sub b q; ⟨j, hj⟩)) (by rw [upd_ne n]; exact hB)
                · dsimp only at hj
                  by_cases e : j = i
                  · rw [if_pos e] at hj
                    exact off b hj (Or.inr hb)
                  · rw [if_neg e] at hj
                    exact (ok.2.2 b hb).2 j hj
              · cases e3
                refine hw (upd B a (.frz od (.dK ks))) (upd H a (.frz od (.dK ks))) a od ks kv R upd_same upd_same (h2.mono sB) (fun P hP => ⟨_, z1, p, C, dx, _, _, rfl, by rw [upd_ne hpa]; exact q2, hc, hn, hlk, hP⟩) fun J hJ => ?_
                exact kk J _ _ _ (Fr.refl _ _ _) gl hJ
            · cases e1
          · cases e1
        · cases e1
      · cases e1
    · cases e1
  · cases e1
end
section
variable {X : Cx} {vs0 : List V} {c f : Str} {i : Nat} {o elt tg : Expr} {ifs : List Expr} {scope : Scope} {own : List (Str × Nat)} {is : List Nat} {pos fpos apos cpos : Pos} {t : D → Env → Option Env} {tt : M Bool} {te : M Rs}
theorem de_lcAVals (A : AttrIs X.K c f) (hc : X.calm = true) (hN : X.N.Nodup) (ho : PE X o (tVar i)) (ok : BlkOk X.N X.env.scope scope own)
    (his : ∀ i ∈ is, i ∈ own.map (·.2))
    (hg : ∀ (s : Shared) (H : Hp) (C : Addr) (cl : List (Str × Addr)) (fp : List Addr), PG (X.blk s H scope (compEnvC scope cl C X.env) fp) tg (rdG X.K vs0 is t)) (ht : ∀ (s : Shared) (H : Hp) (C : Addr) (cl : List (Str × Addr)) (fp : List Addr), PTs (X.blk s H scope (compEnvC scope cl C X.env) fp) ifs (rdT X.K vs0 tt))
    (he : ∀ (s : Shared) (H : Hp) (C : Addr) (cl : List (Str × Addr)) (fp : List Addr), PE (X.blk s H scope (compEnvC scope cl C X.env) fp) elt (rdE X.K vs0 te)) (hb : attributeBase o f X.env (eval o X.env) = eval o X.env := by rfl) (hbase : attributeBase (.Attribute o f fpos) "values" X.env (eval (.Attribute o f fpos) X.env) = eval (.Attribute o f fpos) X.env := by rfl) (hline : (apos.endLine == cpos.line) = true := by rfl) (hs : ∀ x, foldedSetIterable (.Call (.Attribute (.Attribute o f fpos) "values" apos) [] [] cpos) X.env x = pure x := by intro _; rfl) :
    PE X (.ListComp elt [⟨tg, .Call (.Attribute (.Attribute o f fpos) "values" apos) [] [] cpos, ifs, 0⟩] scope pos) (rdE X.K vs0 (eLcA c f i wkVals (own.map (·.2)) t tt te)) := by
  obtain ⟨C, hC, hcl, hn⟩ := A.ex
  exact PE.imp (pe_lock (pe_lc hc hN (pi_values (pe_fld ho hb) hbase hline) ok hg ht he hs)) fun σ H Q q => rd_lcA his hC hcl hn (fun B Hx a o ks kv R h1 h2 h3 h4 h5 => h4 _ ⟨a, o, ks, rfl, h2, h5 _ (jok_vals h1 h3)⟩) q
theorem de_lcAItems {elts : List Expr} {kk : Nat} {tpos : Pos} (A : AttrIs X.K c f) (hc : X.calm = true) (hN : X.N.Nodup) (ho : PE X o (tVar i)) (ok : BlkOk X.N X.env.scope scope own)
    (his : ∀ i ∈ is, i ∈ own.map (·.2))
    (hg : ∀ (s : Shared) (H : Hp) (C : Addr) (cl : List (Str × Addr)) (fp : List Addr), PG (X.blk s H scope (compEnvC scope cl C X.env) fp) (.Tuple elts kk tpos) (rdG X.K vs0 is t)) (ht : ∀ (s : Shared) (H : Hp) (C : Addr) (cl : List (Str × Addr)) (fp : List Addr), PTs (X.blk s H scope (compEnvC scope cl C X.env) fp) ifs (rdT X.K vs0 tt))
    (he : ∀ (s : Shared) (H : Hp) (C : Addr) (cl : List (Str × Addr)) (fp : List Addr), PE (X.blk s H scope (compEnvC scope cl C X.env) fp) elt (rdE X.K vs0 te)) (hb : attributeBase o f X.env (eval o X.env) = eval o X.env := by rfl) (hbase : attributeBase (.Attribute o f fpos) "items" X.env (eval (.Attribute o f fpos) X.env) = eval (.Attribute o f fpos) X.env := by rfl) (hline : (apos.endLine == cpos.line) = true := by rfl) (hs : ∀ x, foldedSetIterable (.Call (.Attribute (.Attribute o f fpos) "items" apos) [] [] cpos) X.env x = pure x := by intro _; rfl) :
    PE X (.ListComp elt [⟨.Tuple elts kk tpos, .Call (.Attribute (.Attribute o f fpos) "items" apos) [] [] cpos, ifs, 0⟩] scope pos) (rdE X.K vs0 (eLcA c f i wkItems (own.map (·.2)) t tt te)) := by
  obtain ⟨C, hC, hcl, hn⟩ := A.ex
  exact PE.imp (pe_lock (pe_lc hc hN (pi_items (pe_fld ho hb) hbase hline) ok hg ht he hs)) fun σ H Q q => rd_lcA his hC hcl hn (fun B Hx a o ks kv R h1 h2 h3 h4 h5 => h4 _ ⟨a, o, ks, rfl, h2, h5 _ (jok_items h1 h3)⟩) q
end
end Pd

set_option Elab.async false
set_option linter.all false
set_option maxRecDepth 100000
set_option maxHeartbeats 1000000
namespace Pd
open PySem PySem.Spec PyProof.Rows L2
namespace B
section
variable {ρ : Env}
/-! operations on dicts that are lent parts -/
def resQ2 (ρ : Env) (Q : Rs → Env → Prop) : Option Rd2 → Prop
  | some res => Q res.rs ρ
  | none => False
@[simp] theorem resQ2_pd {Q : Rs → Env → Prop} {d : D} : resQ2 ρ Q (some (.pd d)) = Q (.own (.p d)) ρ := rfl
@[simp] theorem resQ2_nl {Q : Rs → Env → Prop} {l : List D} : resQ2 ρ Q (some (.nl l)) = Q (.own (.ml none l)) ρ := rfl
@[simp] theorem resQ2_nm {Q : Rs → Env → Prop} {l : List (Key × D)} : resQ2 ρ Q (some (.nm l)) = Q (.own (.md none l)) ρ := rfl
@[simp] theorem resQ2_none {Q : Rs → Env → Prop} : resQ2 ρ Q none = False := rfl
def lentV (i k : Nat) (w : Sl) (ρ : Env) (Q : Rs → Env → Prop) (pf : Vw → Option Rd2) (t : Option Nat) (s : Sl) : Option Vw → Prop
  | some d => resQ2 (ρ.set i (some ((w.setKid k s).retag t))) Q (pf d)
  | none => False
def lentVQ (i k : Nat) (w : Sl) (ρ : Env) (Q : Rs → Env → Prop) (pf : Vw → Option Rd2) : Option (Option Sl) → Option Sl → Prop
  | some (some (.hl t)), some s => lentV i k w ρ Q pf t s.bare s.bare.vws
  | _, _ => False
@[simp] theorem lentVQ_md {i k : Nat} {w : Sl} {Q : Rs → Env → Prop} {pf : Vw → Option Rd2} {t tg : Option Nat} {l : List (Key × D)} : lentVQ i k w ρ Q pf (some (some (.hl t))) (some (.md tg l)) = resQ2 (ρ.set i (some ((w.setKid k (.md none l)).retag t))) Q (pf (.m l)) := rfl
theorem opVL_12 {pf : List Vw → Option Rd2} {i k : Nat} {w : Sl} {d : D} {Q : Rs → Env → Prop} : Ev (opVL pf [.lent i w k, .own (.p d)]) ρ Q ↔ lentVQ i k w ρ Q (fun d0 => pf [d0, .d d]) ρ[i]? (w.kid k) := by
  constructor
  · rintro ⟨r, ρ', e, q⟩
    unfold opVL at e
    split at e
    · split at e
      · rename_i ss h1
        split at e
        · rename_i ds h2
          split at e
          · rename_i res h3
            cases e
            rw [argL_cons] at h1
            obtain ⟨s, h4, h5⟩ := Option.bind_eq_some_iff.mp h1
            obtain ⟨t, s0, h6, h7, rfl⟩ := argR_some h4
            rw [show argL [.own (.p d)] ρ = some [.p d] by simp] at h5
            cases h5
            rw [h6, h7]
            unfold vwsAll at h2
            rw [show vwsAll [.p d] = some [.d d] from rfl] at h2
            show lentV i k w ρ Q (fun d0 => pf [d0, .d d]) t s0.bare s0.bare.vws
            cases e8 : s0.bare.vws with
            | none => rw [e8] at h2; cases h2
            | some d1 =>
              rw [e8] at h2
              cases h2
              unfold lentV
              dsimp only
              rw [h3]
              show Q _ _
              simpa [tagAt_eq, h6] using q
          · cases e
        · cases e
      · cases e
    · cases e
  · intro q
    unfold lentVQ at q
    split at q
    · rename_i t s e1 e2
      unfold lentV at q
      split at q
      · rename_i d1 e3
        unfold resQ2 at q
        split at q
        · rename_i res e4
          refine ⟨_, _, ?_, q⟩
          unfold opVL
          rw [if_pos (by simp), show argL [.lent i w k, .own (.p d)] ρ = some [s.bare, .p d] by simp [e1, e2]]
          dsimp only
          rw [show vwsAll [s.bare, .p d] = some [d1, .d d] by unfold vwsAll; rw [e3]; rfl]
          dsimp only
          dsimp only at e4
          rw [e4]
          simp [e1]
        · exact q.elim
      · exact q.elim
    · exact q.elim
theorem opVL_21 {pf : List Vw → Option Rd2} {i k : Nat} {w : Sl} {d : D} {Q : Rs → Env → Prop} : Ev (opVL pf [.own (.p d), .lent i w k]) ρ Q ↔ lentVQ i k w ρ Q (fun d0 => pf [.d d, d0]) ρ[i]? (w.kid k) := by
  constructor
  · rintro ⟨r, ρ', e, q⟩
    unfold opVL at e
    split at e
    · split at e
      · rename_i ss h1
        split at e
        · rename_i ds h2
          split at e
          · rename_i res h3
            cases e
            rw [argL_cons] at h1
            obtain ⟨s1, h40, h50⟩ := Option.bind_eq_some_iff.mp h1
            rw [argR_own] at h40
            cases h40
            rw [Option.map_eq_some_iff] at h50
            obtain ⟨ss2, h51, rfl⟩ := h50
            rw [argL_cons] at h51
            obtain ⟨s, h4, h5⟩ := Option.bind_eq_some_iff.mp h51
            obtain ⟨t, s0, h6, h7, rfl⟩ := argR_some h4
            rw [argL_nil] at h5
            cases h5
            rw [h6, h7]
            unfold vwsAll at h2
            rw [show (Sl.p d).vws = some (.d d) from rfl] at h2
            unfold vwsAll at h2
            show lentV i k w ρ Q (fun d0 => pf [.d d, d0]) t s0.bare s0.bare.vws
            cases e8 : s0.bare.vws with
            | none => rw [e8] at h2; cases h2
            | some d1 =>
              rw [e8] at h2
              cases h2
              unfold lentV
              dsimp only
              rw [h3]
              show Q _ _
              simpa [tagAt_eq, h6] using q
          · cases e
        · cases e
      · cases e
    · cases e
  · intro q
    unfold lentVQ at q
    split at q
    · rename_i t s e1 e2
      unfold lentV at q
      split at q
      · rename_i d1 e3
        unfold resQ2 at q
        split at q
        · rename_i res e4
          refine ⟨_, _, ?_, q⟩
          unfold opVL
          rw [if_pos (by simp), show argL [.own (.p d), .lent i w k] ρ = some [.p d, s.bare] by simp [e1, e2]]
          dsimp only
          rw [show vwsAll [.p d, s.bare] = some [.d d, d1] by unfold vwsAll vwsAll; rw [e3]; rfl]
          dsimp only
          dsimp only at e4
          rw [e4]
          simp [e1]
        · exact q.elim
      · exact q.elim
    · exact q.elim
@[simp ↓] theorem ev_ixDL {i k : Nat} {w : Sl} {d : D} {Q : Rs → Env → Prop} : Ev (oIxDL [.lent i w k, .own (.p d)]) ρ Q ↔ lentVQ i k w ρ Q (fun d0 => pIxD [d0, .d d]) ρ[i]? (w.kid k) := opVL_12
@[simp ↓] theorem ev_inDL {i k : Nat} {w : Sl} {d : D} {Q : Rs → Env → Prop} : Ev (oInDL [.own (.p d), .lent i w k]) ρ Q ↔ lentVQ i k w ρ Q (fun d0 => pInD [.d d, d0]) ρ[i]? (w.kid k) := opVL_21
@[simp ↓] theorem ev_niDL {i k : Nat} {w : Sl} {d : D} {Q : Rs → Env → Prop} : Ev (oNiDL [.own (.p d), .lent i w k]) ρ Q ↔ lentVQ i k w ρ Q (fun d0 => pNiD [.d d, d0]) ρ[i]? (w.kid k) := opVL_21
/-! d[k] = v -/
def putLQ (j k0 : Nat) (w : Sl) (d : D) (ρ : Env) (Q : Fl → Env → Prop) : Option (Option Sl) → Option Sl → Option D → Prop
  | some (some (.hl t)), some (.md tg l), some y => ∃ k, kOf y = some k ∧ l.length < sizeLine ∧ Q .nx (ρ.set j (some ((w.setKid k0 (.md none (putD l k d))).retag t)))
  | _, _, _ => False
@[simp] theorem putLQ_md {j k0 : Nat} {w : Sl} {d y : D} {Q : Fl → Env → Prop} {t tg : Option Nat} {l : List (Key × D)} : putLQ j k0 w d ρ Q (some (some (.hl t))) (some (.md tg l)) (some y) = (∃ k, kOf y = some k ∧ l.length < sizeLine ∧ Q .nx (ρ.set j (some ((w.setKid k0 (.md none (putD l k d))).retag t)))) := rfl
@[simp ↓] theorem ev_putSubL {j k0 : Nat} {w : Sl} {i : Rs} {d : D} {Q : Fl → Env → Prop} : Ev (putSubL (.lent j w k0) i d) ρ Q ↔ putLQ j k0 w d ρ Q ρ[j]? (w.kid k0) (i.view ρ) := by
  constructor
  · rintro ⟨fl, ρ', e, q⟩
    unfold putSubL at e
    dsimp only at e
    split at e
    · rename_i tg l t h1 h2
      split at e
      · rename_i y h3
        split at e
        · rename_i k h4
          split at e
          · rename_i hl
            cases e
            rw [h1, h2, h3]
            exact ⟨k, h4, hl, q⟩
          · cases e
        · cases e
      · cases e
    · cases e
  · intro q
    unfold putLQ at q
    split at q
    · rename_i t tg l y h1 h2 h3
      obtain ⟨k, h4, hl, q⟩ := q
      refine ⟨_, _, ?_, q⟩
      unfold putSubL
      dsimp only
      rw [h1, h2]
      dsimp only
      rw [h3]
      dsimp only
      rw [h4]
      dsimp only
      rw [if_pos hl]
    · exact q.elim
@[simp ↓] theorem ev_gPutL {f fo fi : M Rs} {Q : Fl → Env → Prop} : Ev (gPutL f fo fi) ρ Q ↔ Ev f ρ fun r ρ1 => Ev (freezeR r) ρ1 fun d ρ2 => Ev fo ρ2 fun o ρ3 => Ev fi ρ3 fun i ρ4 => Ev (putSubL o i d) ρ4 Q := by
  unfold gPutL
  simp only [ev_bind]
/-! d.pop(k) -/
def isMdQ (ρ : Env) (P : Prop) : Rs → Prop := fun o => isMd o ρ = true ∧ P
def popQ (j : Nat) (ρ : Env) (Q : Rs → Env → Prop) : Option (Option Sl) → Option D → Prop
  | some (some (.md t l)), some y => ∃ k d, kOf y = some k ∧ valD l k = some d ∧ Q (.own (.p d)) (ρ.set j (some (.md t (dropD l k))))
  | _, _ => False
@[simp] theorem popQ_md {j : Nat} {Q : Rs → Env → Prop} {t : Option Nat} {l : List (Key × D)} {y : D} : popQ j ρ Q (some (some (.md t l))) (some y) = (∃ k d, kOf y = some k ∧ valD l k = some d ∧ Q (.own (.p d)) (ρ.set j (some (.md t (dropD l k))))) := rfl
def popLQ (j k0 : Nat) (w : Sl) (ρ : Env) (Q : Rs → Env → Prop) : Option Sl → Option (Option Sl) → Option D → Prop
  | some (.md tg l), some (some (.hl t)), some y => ∃ k d, kOf y = some k ∧ valD l k = some d ∧ Q (.own (.p d)) (ρ.set j (some ((w.setKid k0 (.md none (dropD l k))).retag t)))
  | _, _, _ => False
@[simp] theorem popLQ_md {j k0 : Nat} {w : Sl} {Q : Rs → Env → Prop} {t tg : Option Nat} {l : List (Key × D)} {y : D} : popLQ j k0 w ρ Q (some (.md tg l)) (some (some (.hl t))) (some y) = (∃ k d, kOf y = some k ∧ valD l k = some d ∧ Q (.own (.p d)) (ρ.set j (some ((w.setKid k0 (.md none (dropD l k))).retag t)))) := rfl
@[simp ↓] theorem ev_popSub {j : Nat} {i : Rs} {Q : Rs → Env → Prop} : Ev (popSub (.bor j) i) ρ Q ↔ popQ j ρ Q ρ[j]? (i.view ρ) := by
  constructor
  · rintro ⟨r, ρ', e, q⟩
    unfold popSub at e
    dsimp only at e
    split at e
    · rename_i t l y h1 h2
      split at e
      · rename_i k h3
        split at e
        · rename_i d h4
          cases e
          rw [h1, h2]
          exact ⟨k, d, h3, h4, q⟩
        · cases e
      · cases e
    · cases e
  · intro q
    unfold popQ at q
    split at q
    · rename_i t l y h1 h2
      obtain ⟨k, d, h3, h4, q⟩ := q
      refine ⟨_, _, ?_, q⟩
      unfold popSub
      dsimp only
      rw [h1, h2]
      dsimp only
      rw [h3]
      dsimp only
      rw [h4]
    · exact q.elim
@[simp ↓] theorem ev_popSubL {j k0 : Nat} {w : Sl} {i : Rs} {Q : Rs → Env → Prop} : Ev (popSub (.lent j w k0) i) ρ Q ↔ popLQ j k0 w ρ Q (w.kid k0) ρ[j]? (i.view ρ) := by
  constructor
  · rintro ⟨r, ρ', e, q⟩
    unfold popSub at e
    dsimp only at e
    split at e
    · rename_i tg l t y h1 h2 h3
      split at e
      · rename_i k h4
        split at e
        · rename_i d h5
          cases e
          rw [h1, h2, h3]
          exact ⟨k, d, h4, h5, q⟩
        · cases e
      · cases e
    · cases e
  · intro q
    unfold popLQ at q
    split at q
    · rename_i tg l t y h1 h2 h3
      obtain ⟨k, d, h4, h5, q⟩ := q
      refine ⟨_, _, ?_, q⟩
      unfold popSub
      dsimp only
      rw [h1, h2, h3]
      dsimp only
      rw [h4]
      dsimp only
      rw [h5]
    · exact q.elim
def mdO : Option (Option Sl) → Prop
  | some (some (.md _ _)) => True
  | _ => False
@[simp] theorem mdO_md {t : Option Nat} {l : List (Key × D)} : mdO (some (some (.md t l))) = True := rfl
@[simp] theorem isMd_bor {j : Nat} : (isMd (.bor j) ρ = true) = mdO ρ[j]? := by
  apply propext
  unfold isMd
  dsimp only
  generalize ρ[j]? = o
  cases o with
  | none => exact ⟨fun h => (Bool.false_ne_true h).elim, fun h => h.elim⟩
  | some o =>
    cases o with
    | none => exact ⟨fun h => (Bool.false_ne_true h).elim, fun h => h.elim⟩
    | some s =>
      cases s with
      | md t l => exact ⟨fun _ => trivial, fun _ => rfl⟩
      | p d => exact ⟨fun h => (Bool.false_ne_true h).elim, fun h => h.elim⟩
      | ml t l => exact ⟨fun h => (Bool.false_ne_true h).elim, fun h => h.elim⟩
      | mr t l => exact ⟨fun h => (Bool.false_ne_true h).elim, fun h => h.elim⟩
      | ob t c ns l => exact ⟨fun h => (Bool.false_ne_true h).elim, fun h => h.elim⟩
      | ex c f => exact ⟨fun h => (Bool.false_ne_true h).elim, fun h => h.elim⟩
      | fd l => exact ⟨fun h => (Bool.false_ne_true h).elim, fun h => h.elim⟩
      | hl t => exact ⟨fun h => (Bool.false_ne_true h).elim, fun h => h.elim⟩
@[simp] theorem isMd_lent {j k0 : Nat} {w : Sl} : (isMd (.lent j w k0) ρ = true) = mdO (some (w.kid k0)) := by
  apply propext
  unfold isMd
  dsimp only
  generalize w.kid k0 = o
  cases o with
  | none => exact ⟨fun h => (Bool.false_ne_true h).elim, fun h => h.elim⟩
  | some s =>
      cases s with
      | md t l => exact ⟨fun _ => trivial, fun _ => rfl⟩
      | p d => exact ⟨fun h => (Bool.false_ne_true h).elim, fun h => h.elim⟩
      | ml t l => exact ⟨fun h => (Bool.false_ne_true h).elim, fun h => h.elim⟩
      | mr t l => exact ⟨fun h => (Bool.false_ne_true h).elim, fun h => h.elim⟩
      | ob t c ns l => exact ⟨fun h => (Bool.false_ne_true h).elim, fun h => h.elim⟩
      | ex c f => exact ⟨fun h => (Bool.false_ne_true h).elim, fun h => h.elim⟩
      | fd l => exact ⟨fun h => (Bool.false_ne_true h).elim, fun h => h.elim⟩
      | hl t => exact ⟨fun h => (Bool.false_ne_true h).elim, fun h => h.elim⟩
@[simp ↓] theorem ev_dpop {fo fi : M Rs} {Q : Rs → Env → Prop} : Ev (eDPop fo fi) ρ Q ↔ Ev fo ρ fun o ρ1 => isMd o ρ1 = true ∧ Ev fi ρ1 fun i ρ2 => Ev (popSub o i) ρ2 Q := by
  unfold eDPop
  rw [ev_bind]
  constructor
  · rintro ⟨o, ρ1, e, h⟩
    refine ⟨o, ρ1, e, ?_⟩
    rw [ev_bind] at h
    obtain ⟨_, ρ2, e2, h⟩ := h
    dsimp only at e2
    split at e2
    · rename_i hm
      cases e2
      exact ⟨hm, ev_bind.mp h⟩
    · cases e2
  · rintro ⟨o, ρ1, e, hm, h⟩
    refine ⟨o, ρ1, e, ?_⟩
    refine ev_bind.mpr ⟨(), ρ1, ?_, ev_bind.mpr h⟩
    dsimp only
    rw [if_pos hm]
/-! comprehensions over a dict that is an attribute -/
def lcaR (i : Nat) (ob : Sl) (ρ1 : Env) (Q : Rs → Env → Prop) : Rs → Prop
  | .own s => s.nofd = true ∧ s.tag = none ∧ nofdE (ρ1.set i none) = true ∧ Q (.own s) (ρ1.set i (some ob))
  | _ => False
@[simp] theorem lcaR_own {i : Nat} {ob : Sl} {ρ1 : Env} {Q : Rs → Env → Prop} {s : Sl} : lcaR i ob ρ1 Q (.own s) = (s.nofd = true ∧ s.tag = none ∧ nofdE (ρ1.set i none) = true ∧ Q (.own s) (ρ1.set i (some ob))) := rfl
def lcaQ3 (i : Nat) (tg : Option Nat) (ob : Sl) (wk : List (Key × D) → List D) (own : List Nat) (t : D → Env → Option Env) (tt : M Bool) (te : M Rs) (ρ : Env) (Q : Rs → Env → Prop) : Option Sl → Prop
  | some (.md _ kv) => Ev (eLc (M.ret (wk kv)) own t tt te) (ρ.set i (some (.hl tg))) fun r ρ1 => lcaR i ob ρ1 Q r
  | _ => False
@[simp] theorem lcaQ3_md {i : Nat} {tg tk : Option Nat} {ob : Sl} {wk : List (Key × D) → List D} {own : List Nat} {t : D → Env → Option Env} {tt : M Bool} {te : M Rs} {Q : Rs → Env → Prop} {kv : List (Key × D)} : lcaQ3 i tg ob wk own t tt te ρ Q (some (.md tk kv)) = (Ev (eLc (M.ret (wk kv)) own t tt te) (ρ.set i (some (.hl tg))) fun r ρ1 => lcaR i ob ρ1 Q r) := rfl
def lcaQ2 (i : Nat) (tg : Option Nat) (c : Str) (ns : List Str) (l : List Sl) (wk : List (Key × D) → List D) (own : List Nat) (t : D → Env → Option Env) (tt : M Bool) (te : M Rs) (ρ : Env) (Q : Rs → Env → Prop) : Option Nat → Prop
  | some k => lcaQ3 i tg (.ob tg c ns l) wk own t tt te ρ Q l[k]?
  | none => False
@[simp] theorem lcaQ2_s {i k : Nat} {tg : Option Nat} {c : Str} {ns : List Str} {l : List Sl} {wk : List (Key × D) → List D} {own : List Nat} {t : D → Env → Option Env} {tt : M Bool} {te : M Rs} {Q : Rs → Env → Prop} : lcaQ2 i tg c ns l wk own t tt te ρ Q (some k) = lcaQ3 i tg (.ob tg c ns l) wk own t tt te ρ Q l[k]? := rfl
def lcaQ (c f : Str) (i : Nat) (wk : List (Key × D) → List D) (own : List Nat) (t : D → Env → Option Env) (tt : M Bool) (te : M Rs) (ρ : Env) (Q : Rs → Env → Prop) : Option (Option Sl) → Prop
  | some (some (.ob tg c' ns l)) => c' = c ∧ lcaQ2 i tg c' ns l wk own t tt te ρ Q (ixOf f ns)
  | _ => False
@[simp] theorem lcaQ_ob {c f : Str} {i : Nat} {wk : List (Key × D) → List D} {own : List Nat} {t : D → Env → Option Env} {tt : M Bool} {te : M Rs} {Q : Rs → Env → Prop} {tg : Option Nat} {c' : Str} {ns : List Str} {l : List Sl} : lcaQ c f i wk own t tt te ρ Q (some (some (.ob tg c' ns l))) = (c' = c ∧ lcaQ2 i tg c' ns l wk own t tt te ρ Q (ixOf f ns)) := rfl
@[simp ↓] theorem ev_lcA {c f : Str} {i : Nat} {wk : List (Key × D) → List D} {own : List Nat} {t : D → Env → Option Env} {tt : M Bool} {te : M Rs} {Q : Rs → Env → Prop} : Ev (eLcA c f i wk own t tt te) ρ Q ↔ lcaQ c f i wk own t tt te ρ Q ρ[i]? := by
  constructor
  · rintro ⟨r, ρ', e, q⟩
    unfold eLcA at e
    split at e
    · rename_i tg c' ns l h
      rw [h]
      split at e
      · rename_i hc
        refine ⟨hc, ?_⟩
        split at e
        · rename_i k hk
          rw [hk, lcaQ2_s]
          split at e
          · rename_i tk kv hx
            rw [hx, lcaQ3_md]
            split at e
            · rename_i s ρ1 e2
              split at e
              · rename_i hcnd
                cases e
                exact ⟨_, _, e2, hcnd.1, hcnd.2.1, hcnd.2.2, q⟩
              · cases e
            · cases e
          · cases e
        · cases e
      · cases e
    · cases e
  · intro q
    unfold lcaQ at q
    split at q
    · rename_i tg c' ns l h
      obtain ⟨hc, q⟩ := q
      unfold lcaQ2 at q
      split at q
      · rename_i k hk
        unfold lcaQ3 at q
        split at q
        · rename_i tk kv hx
          obtain ⟨r, ρ1, e2, q⟩ := q
          unfold lcaR at q
          split at q
          · rename_i s
            refine ⟨_, _, ?_, q.2.2.2⟩
            unfold eLcA
            rw [h]
            dsimp only
            rw [if_pos hc, hk]
            dsimp only
            rw [hx]
            dsimp only
            rw [e2]
            dsimp only
            rw [if_pos ⟨q.1, q.2.1, q.2.2.1⟩]
          · exact q.elim
        · exact q.elim
      · exact q.elim
    · exact q.elim
end
end B
end Pd

set_option Elab.async false
set_option linter.all false
set_option maxRecDepth 100000
set_option maxHeartbeats 1000000
namespace Pd
open PySem PySem.Spec PyProof.Rows L2
open B (isMdQ mdO mdO_md isMd_bor isMd_lent)
section
variable {ρ : Env}
/-! operations on dicts that are lent parts -/
def resQ2 (ρ : Env) (Q : Rs → Env → Prop) [Fx Q] (o0 : Option Rd2) : Prop := B.resQ2 ρ Q o0
@[simp] theorem resQ2_pd {Q : Rs → Env → Prop} {d : D} : resQ2 ρ Q (some (.pd d)) = Q (.own (.p d)) ρ := B.resQ2_pd
@[simp] theorem resQ2_nl {Q : Rs → Env → Prop} {l : List D} : resQ2 ρ Q (some (.nl l)) = Q (.own (.ml none l)) ρ := B.resQ2_nl
@[simp] theorem resQ2_nm {Q : Rs → Env → Prop} {l : List (Key × D)} : resQ2 ρ Q (some (.nm l)) = Q (.own (.md none l)) ρ := B.resQ2_nm
@[simp] theorem resQ2_none {Q : Rs → Env → Prop} : resQ2 ρ Q none = False := B.resQ2_none
def lentV (i k : Nat) (w : Sl) (ρ : Env) (Q : Rs → Env → Prop) [Fx Q] (pf : Vw → Option Rd2) (t : Option Nat) (s : Sl) (o0 : Option Vw) : Prop := B.lentV i k w ρ Q pf t s o0
def lentVQ (i k : Nat) (w : Sl) (ρ : Env) (Q : Rs → Env → Prop) [Fx Q] (pf : Vw → Option Rd2) (o0 : Option (Option Sl)) (o1 : Option Sl) : Prop := B.lentVQ i k w ρ Q pf o0 o1
@[simp] theorem lentVQ_md {i k : Nat} {w : Sl} {Q : Rs → Env → Prop} {pf : Vw → Option Rd2} {t tg : Option Nat} {l : List (Key × D)} : lentVQ i k w ρ Q pf (some (some (.hl t))) (some (.md tg l)) = resQ2 (ρ.set i (some ((w.setKid k (.md none l)).retag t))) Q (pf (.m l)) := B.lentVQ_md
theorem opVL_12 {pf : List Vw → Option Rd2} {i k : Nat} {w : Sl} {d : D} {Q : Rs → Env → Prop} : Ev (opVL pf [.lent i w k, .own (.p d)]) ρ Q ↔ lentVQ i k w ρ Q (fun d0 => pf [d0, .d d]) ρ[i]? (w.kid k) := B.opVL_12
theorem opVL_21 {pf : List Vw → Option Rd2} {i k : Nat} {w : Sl} {d : D} {Q : Rs → Env → Prop} : Ev (opVL pf [.own (.p d), .lent i w k]) ρ Q ↔ lentVQ i k w ρ Q (fun d0 => pf [.d d, d0]) ρ[i]? (w.kid k) := B.opVL_21
@[simp ↓] theorem ev_ixDL {i k : Nat} {w : Sl} {d : D} {Q : Rs → Env → Prop} : Ev (oIxDL [.lent i w k, .own (.p d)]) ρ Q ↔ lentVQ i k w ρ Q (fun d0 => pIxD [d0, .d d]) ρ[i]? (w.kid k) := B.ev_ixDL
@[simp ↓] theorem ev_inDL {i k : Nat} {w : Sl} {d : D} {Q : Rs → Env → Prop} : Ev (oInDL [.own (.p d), .lent i w k]) ρ Q ↔ lentVQ i k w ρ Q (fun d0 => pInD [.d d, d0]) ρ[i]? (w.kid k) := B.ev_inDL
@[simp ↓] theorem ev_niDL {i k : Nat} {w : Sl} {d : D} {Q : Rs → Env → Prop} : Ev (oNiDL [.own (.p d), .lent i w k]) ρ Q ↔ lentVQ i k w ρ Q (fun d0 => pNiD [.d d, d0]) ρ[i]? (w.kid k) := B.ev_niDL
/-! d[k] = v -/
def putLQ (j k0 : Nat) (w : Sl) (d : D) (ρ : Env) (Q : Fl → Env → Prop) [Fx Q] (o0 : Option (Option Sl)) (o1 : Option Sl) (o2 : Option D) : Prop := B.putLQ j k0 w d ρ Q o0 o1 o2
@[simp] theorem putLQ_md {j k0 : Nat} {w : Sl} {d y : D} {Q : Fl → Env → Prop} {t tg : Option Nat} {l : List (Key × D)} : putLQ j k0 w d ρ Q (some (some (.hl t))) (some (.md tg l)) (some y) = (∃ k, kOf y = some k ∧ l.length < sizeLine ∧ Q .nx (ρ.set j (some ((w.setKid k0 (.md none (putD l k d))).retag t)))) := B.putLQ_md
@[simp ↓] theorem ev_putSubL {j k0 : Nat} {w : Sl} {i : Rs} {d : D} {Q : Fl → Env → Prop} : Ev (putSubL (.lent j w k0) i d) ρ Q ↔ putLQ j k0 w d ρ Q ρ[j]? (w.kid k0) (i.view ρ) := B.ev_putSubL
@[simp ↓] theorem ev_gPutL {f fo fi : M Rs} {Q : Fl → Env → Prop} : Ev (gPutL f fo fi) ρ Q ↔ Ev f ρ fun r ρ1 => Ev (freezeR r) ρ1 fun d ρ2 => Ev fo ρ2 fun o ρ3 => Ev fi ρ3 fun i ρ4 => Ev (putSubL o i d) ρ4 Q := B.ev_gPutL
/-! d.pop(k) -/
def popQ (j : Nat) (ρ : Env) (Q : Rs → Env → Prop) [Fx Q] (o0 : Option (Option Sl)) (o1 : Option D) : Prop := B.popQ j ρ Q o0 o1
@[simp] theorem popQ_md {j : Nat} {Q : Rs → Env → Prop} {t : Option Nat} {l : List (Key × D)} {y : D} : popQ j ρ Q (some (some (.md t l))) (some y) = (∃ k d, kOf y = some k ∧ valD l k = some d ∧ Q (.own (.p d)) (ρ.set j (some (.md t (dropD l k))))) := B.popQ_md
def popLQ (j k0 : Nat) (w : Sl) (ρ : Env) (Q : Rs → Env → Prop) [Fx Q] (o0 : Option Sl) (o1 : Option (Option Sl)) (o2 : Option D) : Prop := B.popLQ j k0 w ρ Q o0 o1 o2
@[simp] theorem popLQ_md {j k0 : Nat} {w : Sl} {Q : Rs → Env → Prop} {t tg : Option Nat} {l : List (Key × D)} {y : D} : popLQ j k0 w ρ Q (some (.md tg l)) (some (some (.hl t))) (some y) = (∃ k d, kOf y = some k ∧ valD l k = some d ∧ Q (.own (.p d)) (ρ.set j (some ((w.setKid k0 (.md none (dropD l k))).retag t)))) := B.popLQ_md
@[simp ↓] theorem ev_popSub {j : Nat} {i : Rs} {Q : Rs → Env → Prop} : Ev (popSub (.bor j) i) ρ Q ↔ popQ j ρ Q ρ[j]? (i.view ρ) := B.ev_popSub
@[simp ↓] theorem ev_popSubL {j k0 : Nat} {w : Sl} {i : Rs} {Q : Rs → Env → Prop} : Ev (popSub (.lent j w k0) i) ρ Q ↔ popLQ j k0 w ρ Q (w.kid k0) ρ[j]? (i.view ρ) := B.ev_popSubL
@[simp ↓] theorem ev_dpop {fo fi : M Rs} {Q : Rs → Env → Prop} : Ev (eDPop fo fi) ρ Q ↔ Ev fo ρ fun o ρ1 => isMd o ρ1 = true ∧ Ev fi ρ1 fun i ρ2 => Ev (popSub o i) ρ2 Q := B.ev_dpop
/-! comprehensions over a dict that is an attribute -/
def lcaR (i : Nat) (ob : Sl) (ρ1 : Env) (Q : Rs → Env → Prop) [Fx Q] (o0 : Rs) : Prop := B.lcaR i ob ρ1 Q o0
@[simp] theorem lcaR_own {i : Nat} {ob : Sl} {ρ1 : Env} {Q : Rs → Env → Prop} {s : Sl} : lcaR i ob ρ1 Q (.own s) = (s.nofd = true ∧ s.tag = none ∧ nofdE (ρ1.set i none) = true ∧ Q (.own s) (ρ1.set i (some ob))) := B.lcaR_own
def lcaQ3 (i : Nat) (tg : Option Nat) (ob : Sl) (wk : List (Key × D) → List D) (own : List Nat) (t : D → Env → Option Env) (tt : M Bool) (te : M Rs) (ρ : Env) (Q : Rs → Env → Prop) [Fx Q] (o0 : Option Sl) : Prop := B.lcaQ3 i tg ob wk own t tt te ρ Q o0
@[simp] theorem lcaQ3_md {i : Nat} {tg tk : Option Nat} {ob : Sl} {wk : List (Key × D) → List D} {own : List Nat} {t : D → Env → Option Env} {tt : M Bool} {te : M Rs} {Q : Rs → Env → Prop} {kv : List (Key × D)} : lcaQ3 i tg ob wk own t tt te ρ Q (some (.md tk kv)) = (Ev (eLc (M.ret (wk kv)) own t tt te) (ρ.set i (some (.hl tg))) fun r ρ1 => lcaR i ob ρ1 Q r) := B.lcaQ3_md
def lcaQ2 (i : Nat) (tg : Option Nat) (c : Str) (ns : List Str) (l : List Sl) (wk : List (Key × D) → List D) (own : List Nat) (t : D → Env → Option Env) (tt : M Bool) (te : M Rs) (ρ : Env) (Q : Rs → Env → Prop) [Fx Q] (o0 : Option Nat) : Prop := B.lcaQ2 i tg c ns l wk own t tt te ρ Q o0
@[simp] theorem lcaQ2_s {i k : Nat} {tg : Option Nat} {c : Str} {ns : List Str} {l : List Sl} {wk : List (Key × D) → List D} {own : List Nat} {t : D → Env → Option Env} {tt : M Bool} {te : M Rs} {Q : Rs → Env → Prop} : lcaQ2 i tg c ns l wk own t tt te ρ Q (some k) = lcaQ3 i tg (.ob tg c ns l) wk own t tt te ρ Q l[k]? := B.lcaQ2_s
def lcaQ (c f : Str) (i : Nat) (wk : List (Key × D) → List D) (own : List Nat) (t : D → Env → Option Env) (tt : M Bool) (te : M Rs) (ρ : Env) (Q : Rs → Env → Prop) [Fx Q] (o0 : Option (Option Sl)) : Prop := B.lcaQ c f i wk own t tt te ρ Q o0
@[simp] theorem lcaQ_ob {c f : Str} {i : Nat} {wk : List (Key × D) → List D} {own : List Nat} {t : D → Env → Option Env} {tt : M Bool} {te : M Rs} {Q : Rs → Env → Prop} {tg : Option Nat} {c' : Str} {ns : List Str} {l : List Sl} : lcaQ c f i wk own t tt te ρ Q (some (some (.ob tg c' ns l))) = (c' = c ∧ lcaQ2 i tg c' ns l wk own t tt te ρ Q (ixOf f ns)) := B.lcaQ_ob
@[simp ↓] theorem ev_lcA {c f : Str} {i : Nat} {wk : List (Key × D) → List D} {own : List Nat} {t : D → Env → Option Env} {tt : M Bool} {te : M Rs} {Q : Rs → Env → Prop} : Ev (eLcA c f i wk own t tt te) ρ Q ↔ lcaQ c f i wk own t tt te ρ Q ρ[i]? := B.ev_lcA
end
end Pd


set_option Elab.async false
set_option linter.all false
set_option maxRecDepth 100000
set_option maxHeartbeats 1000000
namespace Pd
open PySem PySem.Spec PyProof.Rows L2
/-! ### sorted(set(t)), t a tuple of whole numbers -/
/-- x put into a strictly rising list -/
def insZ (x : Int) : List Int → List Int
  | [] => [x]
  | y :: l => if x < y then x :: y :: l else if x = y then y :: l else y :: insZ x l
def sdd (l : List Int) : List Int := l.foldr insZ []
theorem mem_insZ {x z : Int} : ∀ {l : List Int}, z ∈ insZ x l ↔ z = x ∨ z ∈ l
  | [] => by simp [insZ]
  | y :: l => by
    unfold insZ
    by_cases h : x < y
    · rw [if_pos h]; simp
    · rw [if_neg h]
      by_cases h2 : x = y
      · subst h2
        rw [if_pos rfl]; simp
      · rw [if_neg h2, List.mem_cons, mem_insZ, List.mem_cons]
        constructor
        · rintro (a | a | a)
          · exact Or.inr (Or.inl a)
          · exact Or.inl a
          · exact Or.inr (Or.inr a)
        · rintro (a | a | a)
          · exact Or.inr (Or.inl a)
          · exact Or.inl a
          · exact Or.inr (Or.inr a)
theorem insZ_up {x : Int} : ∀ {l : List Int}, l.Pairwise (· < ·) → (insZ x l).Pairwise (· < ·)
  | [], _ => by simp [insZ]
  | y :: l, h => by
    obtain ⟨h1, h2⟩ := List.pairwise_cons.mp h
    unfold insZ
    by_cases c : x < y
    · rw [if_pos c]
      refine List.pairwise_cons.mpr ⟨fun z hz => ?_, h⟩
      rcases List.mem_cons.mp hz with e | e
      · omega
      · have := h1 z e
        omega
    · rw [if_neg c]
      by_cases c2 : x = y
      · rw [if_pos c2]
        exact h
      · rw [if_neg c2]
        refine List.pairwise_cons.mpr ⟨fun z hz => ?_, insZ_up h2⟩
        rcases mem_insZ.mp hz with e | e
        · omega
        · exact h1 z e
theorem sdd_up : ∀ l : List Int, (sdd l).Pairwise (· < ·)
  | [] => List.Pairwise.nil
  | _ :: l => insZ_up (sdd_up l)
theorem mem_sdd {z : Int} : ∀ {l : List Int}, z ∈ sdd l ↔ z ∈ l
  | [] => Iff.rfl
  | x :: l => by
    show z ∈ insZ x (sdd l) ↔ _
    rw [mem_insZ, mem_sdd, List.mem_cons]
theorem up_unique : ∀ {l m : List Int}, l.Pairwise (· < ·) → m.Pairwise (· < ·) → (∀ z, z ∈ l ↔ z ∈ m) → l = m
  | [], [], _, _, _ => rfl
  | [], y :: m, _, _, h => absurd ((h y).2 (by simp)) (by simp)
  | x :: l, [], _, _, h => absurd ((h x).1 (by simp)) (by simp)
  | x :: l, y :: m, hl, hm, h => by
    obtain ⟨a1, a2⟩ := List.pairwise_cons.mp hl
    obtain ⟨b1, b2⟩ := List.pairwise_cons.mp hm
    have e : x = y := by
      have p := (h x).1 (by simp)
      have q := (h y).2 (by simp)
      rcases List.mem_cons.mp p with c | c
      · exact c
      · rcases List.mem_cons.mp q with d | d
        · exact d.symm
        · have := b1 x c
          have := a1 y d
          omega
    subst e
    rw [up_unique a2 b2 fun z => ?_]
    constructor
    · intro hz
      rcases List.mem_cons.mp ((h z).1 (List.mem_cons_of_mem _ hz)) with c | c
      · have := a1 z hz
        omega
      · exact c
    · intro hz
      rcases List.mem_cons.mp ((h z).2 (List.mem_cons_of_mem _ hz)) with c | c
      · have := b1 z hz
        omega
      · exact c
theorem each_ints {vs : List Value} {ns : List Int} (h : IntsAre vs ns) : PySem.W.EachIs (fun v k => ∃ t, v = Value.int k t) vs ns := by
  induction h with
  | nil => exact .nil
  | cons n t _ ih => exact .cons ⟨t, rfl⟩ ih
theorem ints_each {vs : List Value} {ns : List Int} (h : PySem.W.EachIs (fun v k => ∃ t, v = Value.int k t) vs ns) : IntsAre vs ns := by
  induction h with
  | nil => exact .nil
  | cons h1 _ ih =>
    obtain ⟨t, rfl⟩ := h1
    exact .cons _ t ih
theorem le_int (a b : Int) : PySem.W.dataLe false PyData.int a b = decide (a ≤ b) := by
  have := PySem.W.dataLe_int (fun x : Int => x)
  exact congrFun (congrFun this a) b
section
variable {P : Program} {w : World} {A : Around} {E : Value → Shared → Prop} {s : Shared} {a : Addr}
/-- what sorted(a set) hands out, n its members -/
theorem sorted_setN {S : Int → Bool} {n : Nat} {Q : Value → Shared → Prop} (R : SetR w s.heap a S n) (hh : A.handled = none) (hu : A.units + 8 < cLine)
    (hQ : ∀ s' p (out : Array Value) (c : Nat) (ns : List Int), (∀ b o, s.heap.get? b = some o → s'.heap.get? b = some o) → s'.gens = s.gens → s'.os = s.os → s.heap.objs.size ≤ p →
      s'.heap.get? p = some (seqObj "list" out c) → IntsAre out.toList ns → ns.Pairwise (· < ·) → (∀ k, k ∈ ns ↔ S k = true) → ns.length = n → Q (.ref p) s') :
    wpAny (model P w) A (call (.builtin "sorted") [.ref a]) Q E s := by
  obtain ⟨o, es, ep, t, ho, hex, hd, g, nd, hm, hb, hf, hn, hr, hl⟩ := R
  refine Calls.call_function_entry kind_sorted plain_sorted entry_sorted (args_sorted1 _) ?_
  unfold Builtin.«sorted»
  refine wpAny_bind (m := checkCount "sorted" 1 1 _) (wpAny_pure ?_)
  refine wpAny_bind (collect_set (A := A.in1) hh ⟨o, ho, hex.1, hd⟩ hf hb hr hl ?_)
  intro s1 vs k1 hz g1 o1 pm
  have hvl : vs.length = n := by rw [pm.length_eq, List.length_map, Array.length_toList]; exact hn
  have hvs : ∀ v ∈ vs, ∃ k tk, v = Value.int k tk := by
    intro v hv
    obtain ⟨e, he, rfl⟩ := List.mem_map.mp (pm.mem_iff.mp hv)
    obtain ⟨k, tk, h1, _⟩ := g e he
    exact ⟨k, tk, h1⟩
  have hE := each_ints (ints_of vs hvs)
  have hk : (vs.map Builtin.Re.reRawOf).Perm (es.toList.map keyOf) := by
    have := pm.map Builtin.Re.reRawOf
    rwa [List.map_map] at this
  have hfit : vs.length ≤ sizeLine := by rw [hvl, ← hn]; exact fits_of_scanBound hb
  generalize vs.map Builtin.Re.reRawOf = ns0 at hE hk
  refine wpAny_bind (wpAny_newList ?_ hfit)
  have hat : (s1.heap.push (seqObj "list" vs.toArray 0)).get? s1.heap.objs.size = some (seqObj "list" vs.toArray 0) := Heap.get?_push_size _ rfl
  have body : ∀ E' : Value → Shared → Prop, wpAny (model P w) A.in1.in1 (Builtin.«list.sort» ⟨[.ref s1.heap.objs.size], []⟩) (fun f s' => f = .done (.ret .none) ∧ Q (.ref s1.heap.objs.size) s') E' { s1 with heap := s1.heap.push (seqObj "list" vs.toArray 0) } := by
    intro E'
    rw [PySem.W.plain_is_rev]
    have hl0 : (ns0.map PyData.int).length = vs.length := by rw [List.length_map]; exact (ints_each hE).length.symm
    have er : ∀ h : Heap, PySem.W.EachIs (fun v k => ∃ as, Reads h v (PyData.int k) as) vs ns0 := by
      intro h
      refine hE.mono ?_
      rintro v k ⟨t, rfl⟩
      exact ⟨[], .int k t⟩
    have hal : PySem.W.AllAlike (ns0.map PyData.int) := PySem.W.AllAlike.of fun _ _ => rfl
    have hso : PySem.W.Sortable (ns0.map PyData.int) := PySem.W.Sortable.others fun b => ⟨by simp, by simp⟩
    refine PySem.W.list_sort_rev_vals hat (PySem.W.SortsAt.data (ds := ns0.map PyData.int) (PySem.W.each_map PyData.int (er _)) hal hso ?_) hfit ?_
    · intro d hd
      obtain ⟨k, _, rfl⟩ := List.mem_map.mp hd
      show A.units + 2 + 0 < cLine
      omega
    · refine ⟨rfl, ?_⟩
      have eo := PySem.W.sortVals_data (R := fun v k => ∃ t, v = Value.int k t) (enc := PyData.int) false hE (er (PySem.W.sortingHeap (s1.heap.push (seqObj "list" vs.toArray 0)) s1.heap.objs.size vs)) hal
      generalize hout : PySem.W.sortVals (PySem.W.dataKind (PySem.W.sortingHeap (s1.heap.push (seqObj "list" vs.toArray 0)) s1.heap.objs.size vs) (ns0.map PyData.int)) false vs vs = out at eo
      obtain ⟨c, hc⟩ := sortedHeap_at (vs := vs) (out := out.toArray) hat
      have hperm : (ns0.mergeSort (PySem.W.dataLe false PyData.int)).Perm (es.toList.map keyOf) := (List.mergeSort_perm _ _).trans hk
      refine hQ _ _ out.toArray c (ns0.mergeSort (PySem.W.dataLe false PyData.int)) ?_ g1 o1 hz ?_ ?_ ?_ ?_ ?_
      · intro b u e
        have e1 := k1 b u e
        have hlt := Heap.lt_size e1
        exact (sortedHeap_old (Nat.ne_of_lt hlt) (by rw [size_push']; exact Nat.lt_succ_of_lt hlt)).trans (Heap.get?_push_of_some _ e1)
      · exact hc
      · simpa using ints_each eo
      · have h1 := List.pairwise_mergeSort (le := PySem.W.dataLe false PyData.int) (fun x y z => by rw [le_int, le_int, le_int]; simp; omega) (fun x y => by rw [le_int, le_int]; simp; omega) ns0
        refine lt_of_le_nodup _ (h1.imp fun {x y} h => ?_) (hperm.nodup_iff.mpr nd)
        rw [le_int] at h
        exact of_decide_eq_true h
      · intro k
        rw [hperm.mem_iff, ← hm k]
      · rw [hperm.length_eq, List.length_map, Array.length_toList]
        exact hn
  refine wpAny_bind (wpAny_holding (wpAny_call_entry slot_list_sort ⟨_, hat, rfl⟩ entry_list_sort ?_ (args_list_sort _)))
  refine wpAny_mono (body _) (fun f s' hf => ?_) fun _ _ e => e
  obtain ⟨rfl, hq⟩ := hf
  exact ⟨_, rfl, wpAny_pure ⟨_, rfl, hq⟩⟩
end
/-- sorted(set(x)) -/
def rSS (K : PySem.W.Frag) : List V → Hp → VK → Prop := fun vs H Q => ∃ (a : Addr) (ns : List Int), vs = [V.ref a] ∧ SqT K H a (ns.map V.int) ∧ ns.length + 1 < scanBound ∧
  ∀ p : Addr, H p = none → Q (.ref p) (upd H p (.lst ((sdd ns).map V.int)))
section
variable {X : Cx} {vs0 : List V} {e : Expr} {fa : M (List Rs)} {p p2 pos pos2 : Pos}
theorem pe_sortSet {t : TA} (hu : X.A.units + 64 < cLine) (hc : X.calm = true) (hg : Gl X "sorted") (hm : X.mg "sorted" = none) (hg2 : Gl X "set") (hm2 : X.mg "set" = none) (ha : PA X [e] t)
    (he : starEach [e] X.env = (false, eval e X.env) :: starEach [] X.env := by rfl) (hpl : (backTo pos2 (starEach [] X.env)).any (·.1) = false := by rfl)
    (he2 : starEach [.Call (.Name "set" p2) [e] [] pos2] X.env = (false, eval (.Call (.Name "set" p2) [e] [] pos2) X.env) :: starEach [] X.env := by rfl) (hpl2 : (backTo pos (starEach [] X.env)).any (·.1) = false := by rfl) :
    PE X (.Call (.Name "sorted" p) [.Call (.Name "set" p2) [e] [] pos2] [] pos) (fun σ H Q => t σ H fun vs H1 => rSS X.K vs H1 Q) := by
  refine ⟨fun pins s σ H Q I h => ?_⟩
  refine wpAny_Call_Name_kw (ld_blt I hg hm PyProof.Rows.boot_sorted ?_)
  refine PyProof.Rows.callWith_builtin1 (PyProof.Rows.args_cons ?_ he2) he2 hpl2
  refine wpAny_Call_Name_kw (ld_blt I hg2 hm2 PyProof.Rows.boot_set ?_)
  refine PyProof.Rows.callWith_type1 (thn (ha.run pos2 pins s σ H _ I h) ?_) he hpl
  rintro us s1 ⟨vs, H1, I1, r1, a, ns, rfl, ht, hsz, q⟩
  rw [Vals.ref1 r1]
  obtain ⟨its, rv, tl, hlen⟩ := I1.tuple ht
  refine call_set_tupI ns (I1.ok.hd hc) tl (by simpa using ints_of_vals rv) hsz ?_
  intro h2 tk c hS hcl hkeep
  refine PyProof.Rows.args_nil ?_
  refine sorted_setN (s := { s1 with heap := h2, toks := tk }) hS (I1.ok.hd hc) (by omega) ?_
  intro s' p' out c' ms hk' hg' ho' hp' hat hi hup hmem hml
  have ems : ms = sdd ns := up_unique hup (sdd_up ns) fun z => by rw [hmem, mem_sdd, decide_eq_true_eq]
  subst ems
  have keep : ∀ b o, s1.heap.get? b = some o → s'.heap.get? b = some o := fun b o eo => hk' b o (hkeep b o eo)
  have hge : s1.heap.objs.size ≤ p' := by
    have := hS.lt
    exact Nat.le_trans (Nat.le_of_lt this) hp'
  have hn : H1 p' = none := I1.hok.fresh hge
  have hv : Vals ((sdd ns).map V.int) out.toList := vals_of_ints hi
  have hz : ((sdd ns).map V.int).length ≤ sizeLine := by
    rw [List.length_map, hml]
    have : sizeLine ≥ scanBound := by decide
    omega
  have J : Inv X pins σ (upd H1 p' (.lst ((sdd ns).map V.int))) { s1 with heap := s'.heap, gens := s'.gens, drawn := s'.drawn, toks := s'.toks } :=
    I1.call (ch := []) (Un.laid keep hge hn) (I1.hok.laid keep hge ⟨hz, out.toList, c', hv, hat⟩) (by rw [hg']; exact I1.bare) (fun _ z => nomatch z)
  have es : s' = { s1 with heap := s'.heap, gens := s'.gens, drawn := s'.drawn, toks := s'.toks } := by
    cases s'
    cases s1
    cases ho'
    rfl
  rw [es]
  exact ⟨.ref p', _, J, rfl, q p' hn⟩
def intsD : List D → Option (List Int)
  | [] => some []
  | .int k :: l => (intsD l).map (k :: ·)
  | _ => none
def fSS (l : List D) : Option (List D) := match intsD l with
  | some ns => if ns.length + 1 < scanBound then some ((sdd ns).map PyData.int) else none
  | none => none
def pSS : List D → Option Rd'
  | [.tuple l] => (fSS l).map .nl
  | _ => none
def oSS := opG pSS
theorem intsD_ok {K : PySem.W.Frag} {B : Hp} : ∀ {xs : List V} {l : List D} {ns : List Int}, DpAll K B xs l → intsD l = some ns → xs = ns.map V.int := by
  intro xs l
  induction l generalizing xs with
  | nil =>
    intro ns h e
    cases h
    cases e
    rfl
  | cons d l ih =>
    intro ns h e
    cases h with
    | cons h1 h2 =>
      cases d with
      | int k =>
        cases e1 : intsD l with
        | none =>
          rw [intsD, e1] at e
          cases e
        | some m =>
          rw [intsD, e1] at e
          cases e
          cases h1
          rw [ih h2 e1]
          rfl
      | _ => cases e
theorem dpAll_ints {K : PySem.W.Frag} {B : Hp} : ∀ ns : List Int, DpAll K B (ns.map V.int) (ns.map PyData.int)
  | [] => .nil
  | k :: l => .cons (.int _) (dpAll_ints l)
theorem pSS_ok {K : PySem.W.Frag} : OpOk K (rSS K) oSS := opG_ok fun B H vs ds res Q e hs hp k => by
  match ds, hp with
  | [.tuple l], hp =>
    obtain ⟨x, rfl, h1⟩ := hs.one
    have h1 : Dp K B x (.tuple l) := h1
    cases h1 with
    | tup h2 h3 =>
      cases hi : intsD l with
      | none =>
        rw [pSS, fSS, hi] at hp
        cases hp
      | some ns =>
        have ex := intsD_ok h3 hi
        subst ex
        rw [pSS, fSS, hi] at hp
        by_cases hsz : ns.length + 1 < scanBound
        · rw [show (match some ns with | some ns => if ns.length + 1 < scanBound then some ((sdd ns).map PyData.int) else none | none => none) = some ((sdd ns).map PyData.int) from if_pos hsz] at hp
          cases hp
          exact ⟨_, ns, rfl, sqt_mono e h2, hsz, fun p hp => k p _ hp (dpAll_ints _)⟩
        · rw [show (match some ns with | some ns => if ns.length + 1 < scanBound then some ((sdd ns).map PyData.int) else none | none => none) = none from if_neg hsz] at hp
          cases hp
theorem de_sortSet (hu : X.A.units + 64 < cLine) (hc : X.calm = true) (hg : Gl X "sorted") (hm : X.mg "sorted" = none) (hg2 : Gl X "set") (hm2 : X.mg "set" = none) (ha : PA X [e] (rdA X.K vs0 fa))
    (he : starEach [e] X.env = (false, eval e X.env) :: starEach [] X.env := by rfl) (hpl : (backTo pos2 (starEach [] X.env)).any (·.1) = false := by rfl)
    (he2 : starEach [.Call (.Name "set" p2) [e] [] pos2] X.env = (false, eval (.Call (.Name "set" p2) [e] [] pos2) X.env) :: starEach [] X.env := by rfl) (hpl2 : (backTo pos (starEach [] X.env)).any (·.1) = false := by rfl) :
    PE X (.Call (.Name "sorted" p) [.Call (.Name "set" p2) [e] [] pos2] [] pos) (rdE X.K vs0 (M.bind fa oSS)) :=
  PE.imp (pe_sortSet hu hc hg hm hg2 hm2 ha he hpl he2 hpl2) fun _ _ _ q => rd_op pSS_ok q
@[simp ↓] theorem oSS_eq : oSS = opG pSS := rfl
@[simp] theorem pSS_t {l : List D} : pSS [.tuple l] = (fSS l).map .nl := rfl
theorem intsD_map : ∀ ns : List Int, intsD (ns.map PyData.int) = some ns
  | [] => rfl
  | k :: l => by rw [List.map_cons, intsD, intsD_map l]; rfl
theorem fSS_ints {ns : List Int} (h : ns.length + 1 < scanBound) : fSS (ns.map PyData.int) = some ((sdd ns).map PyData.int) := by
  unfold fSS
  rw [intsD_map]
  exact if_pos h
end
end Pd

set_option Elab.async false
set_option linter.all false
set_option maxRecDepth 100000
set_option maxHeartbeats 1000000
namespace Pd
open PySem PySem.Spec PyProof.Rows L2
/-! ### tuples whose object is known: tuple(a list), t.count(k) -/
def rTupX (K : PySem.W.Frag) : List V → Hp → VK → Prop := fun xs H Q => ∃ p ys, xs = [V.ref p] ∧ SqL K H p ys ∧ ∀ (l : Addr) (o : Obj), H l = none → o.dict = none → Q (.ref l) (upd H l (.frz o (.tup ys)))
section
variable {X : Cx}
theorem call_tupleX : CallR X (.type "tuple") (rTupX X.K) := by
  intro pins s σ H xs us Q I r h
  obtain ⟨p, ys, rfl, hq, q⟩ := h
  rw [Vals.ref1 r]
  obtain ⟨its, rv, pl, hz⟩ := I.list hq
  have hlen := rv.length
  refine call_tuple_list pl.isList (fun h' kp => ?_) (by simp only [List.size_toArray]; omega)
  have J : Inv X pins σ H { s with heap := h' } := I.kept (t' := s.toks) kp
  have J2 : Inv X pins σ (upd H h'.objs.size (.frz { cls := .type "tuple", data := .seq its.toArray } (.tup ys))) { s with heap := h'.push { cls := .type "tuple", data := .seq its.toArray } } :=
    J.laid (t' := s.toks) (fun b o e => Heap.get?_push_of_some _ e) (Nat.le_refl _) ⟨Heap.get?_push_size _ rfl, hz, its, rv, IsTup.new _ _⟩
  exact ⟨.ref h'.objs.size, _, J2, rfl, q _ _ (J.hok.fresh (Nat.le_refl _)) rfl⟩
end
abbrev xtS (l : List D) : Sl := .ex "tuple" (some ("", .tuple l))
def oTupX : List Rs → M Rs := fun rs ρ => match viewAll rs ρ with
  | some [.list l] => some (.ok (.own (xtS l)) ρ)
  | _ => none
theorem oTupX_ok {K : PySem.W.Frag} : OpOk K (rTupX K) oTupX := by
  intro vs0 σ B H ρ fs vs rs Ts Q g ok nd r' ρ' e k
  unfold oTupX at e
  split at e
  · rename_i l e1
    cases e
    have hs := viewAll_ok g ok e1
    obtain ⟨x, rfl, h1⟩ := hs.one
    obtain ⟨a, ys, rfl, h2, h3⟩ := h1
    refine ⟨a, ys, rfl, h2, fun p o hp ho => ?_⟩
    have fr := Fr.new (o := HO.frz o (.tup ys)) hp g.ext
    refine k (.ref p) _ _ fs [] (fr.weak (fun _ f => f.elim) fun a f => ?_) (g.grow fr (fun _ _ f => f) (same_upd g.ext)) ⟨⟨Or.inr ⟨rfl, p, o, ys, l, rfl, upd_same, ho, rfl, DpAll.mono fr.bb h3⟩, rfl⟩, rfl, fun a ha => nomatch ha⟩
    rcases f with f | f
    · exact Or.inr (Or.inl (Or.inl f))
    · cases f
  · cases e
/-- read as data -/
def wkR : Rs → M Rs
  | .own (.ex c (some (_, d))), ρ => if c = "tuple" then some (.ok (.own (.p d)) ρ) else none
  | _, _ => none
def eWk (f : M Rs) : M Rs := M.bind f wkR
theorem ex_tup {K : PySem.W.Frag} {B H : Hp} {σ : L2.St} {fs : Nat → List Addr} {v : V} {x : Str} {d : D} {T : List Addr} (h : RsOk K B H σ fs v (.own (.ex "tuple" (some (x, d)))) T) : XtIs K B v d ∧ T = [] := by
  obtain ⟨⟨h1, h2⟩, _⟩ := h
  rcases h1 with ⟨n, _⟩ | ⟨_, h1⟩
  · exact absurd rfl n
  · exact ⟨h1, h2⟩
theorem de_wk {X : Cx} {vs0 : List V} {e : Expr} {f : M Rs} (h : PE X e (rdE X.K vs0 f)) : PE X e (rdE X.K vs0 (eWk f)) := PE.imp h fun σ H Q q => by
  obtain ⟨B, ρ, fs, g, r, ρ', e1, k⟩ := q
  obtain ⟨r1, ρ1, e2, e3⟩ := M.bind_ok e1
  refine ⟨B, ρ, fs, g, r1, ρ1, e2, fun v B1 H1 fs1 T1 fr1 g1 ok1 => ?_⟩
  unfold wkR at e3
  split at e3
  · split at e3
    · rename_i hc
      cases e3
      subst hc
      obtain ⟨⟨a, o, ys, l, rfl, h2, h3, rfl, h5⟩, rfl⟩ := ex_tup ok1
      exact k _ B1 H1 fs1 [] fr1 g1 ⟨⟨.tup (Or.inl (Or.inr ⟨o, h2⟩)) h5, rfl⟩, rfl, fun a ha => nomatch ha⟩
    · cases e3
  · cases e3
def cntA (l : List D) : List Rs → M Rs := fun rs ρ => match viewAll rs ρ, ints? l with
  | some [.int k], some ns => some (.ok (.own (.p (.int (ns.count k : Nat)))) ρ)
  | _, _ => none
def cntR (fa : M (List Rs)) : Rs → M Rs
  | .own (.ex c (some (_, .tuple l))), ρ => if c = "tuple" then M.bind fa (cntA l) ρ else none
  | _, _ => none
def eTc (fo : M Rs) (fa : M (List Rs)) : M Rs := M.bind fo (cntR fa)
section
variable {X : Cx} {vs0 : List V} {o e : Expr} {fo : M Rs} {fa : M (List Rs)} {apos cpos : Pos}
theorem de_tcount (ho : PE X o (rdE X.K vs0 fo)) (ha : PA X [e] (rdA X.K vs0 fa))
    (hbase : attributeBase o "count" X.env (eval o X.env) = eval o X.env := by rfl)
    (hfew : ((backTo cpos (starEach [e] X.env)).all (fun x => !x.1) && (backToKw cpos (keywordEach [] X.env)).all (fun x => x.1.isSome)
      && decide ([e].length + ([] : List Keyword).length + (if ([] : List Keyword).isEmpty then 0 else 1) < 30)) = true := by rfl)
    (hline : (apos.endLine == cpos.line) = true := by rfl) (hs : starEach [e] X.env = (false, eval e X.env) :: starEach [] X.env := by rfl) (hplain : (backTo cpos (starEach [] X.env)).any (·.1) = false := by rfl) :
    PE X (.Call (.Attribute o "count" apos) [e] [] cpos) (rdE X.K vs0 (eTc fo fa)) := by
  refine ⟨fun pins s σ H Q I h => ?_⟩
  have h' : rdE X.K vs0 fo σ H fun v H1 => ∃ (a : Addr) (ob : Obj) (ns : List Int), v = .ref a ∧ H1 a = some (.frz ob (.tup (ns.map V.int))) ∧ ob.dict = none ∧ rdA X.K vs0 fa σ H1 fun vs H2 => ∃ k, vs = [.int k] ∧ SqT X.K H2 a (ns.map V.int) ∧ Q (.int (ns.count k : Nat)) H2 := by
    obtain ⟨B, ρ, fs, g, r, ρ', e1, k⟩ := h
    obtain ⟨r1, ρ1, e2, e3⟩ := M.bind_ok e1
    refine ⟨B, ρ, fs, g, r1, ρ1, e2, fun v B1 H1 fs1 T1 fr1 g1 ok1 => ?_⟩
    unfold cntR at e3
    split at e3
    · split at e3
      · rename_i l hc
        subst hc
        obtain ⟨⟨a, ob, ys, l', rfl, h2, h3, e4, h5⟩, rfl⟩ := ex_tup ok1
        cases e4
        obtain ⟨rs, ρ2, e5, e6⟩ := M.bind_ok e3
        unfold cntA at e6
        split at e6
        · rename_i kk ns ev ei
          cases e6
          rw [ints?_eq ei] at h5
          have ey := DpAll.ints h5
          subst ey
          refine ⟨a, ob, ns, rfl, g1.ext _ _ h2, h3, B1, ρ1, fs1, g1, rs, _, e5, fun vs B2 H2 fs2 Ts fr2 g2 ok2 nd2 => ?_⟩
          have hsh := viewAll_ok g2 ok2 ev
          obtain ⟨x, rfl, hx⟩ := hsh.one
          have hx' : x = .int kk := hx.int
          subst hx'
          have hB2 := fr2.bb _ _ h2
          refine ⟨kk, rfl, Or.inl (Or.inr ⟨ob, g2.ext _ _ hB2⟩), ?_⟩
          refine k _ B2 H2 fs2 [] (fr1.trans (fr2.weak (fun a h => Or.inl h) fun a h => ?_)) g2 ⟨⟨.int _, rfl⟩, rfl, fun a ha => nomatch ha⟩
          rcases h with h | h
          · exact Or.inl (Or.inl h)
          · cases h
        · cases e6
      · cases e3
    · cases e3
  refine wpAny_Call_method_late hbase hfew hline rfl (thn (ho.run pins s σ H _ I h') ?_)
  rintro v s1 ⟨x, H1, I1, r1, a, ob, ns, rfl, hH, hob, q1⟩
  cases r1
  obtain ⟨hget, hlen, its, rv, hT⟩ := I1.hok a _ hH
  refine ⟨"tuple", "tuple.count", PySem.F.plainAttrs_tuple, PySem.F.slot_tuple_count, PySem.F.type_tuple_count, hT.typeIs, fun b e => ?_, ?_⟩
  · cases e
    exact ⟨ob, hget, hob⟩
  · have hA := ha.run cpos pins s1 σ H1 _ I1 q1
    rw [hs] at hA ⊢
    refine Calls.callWith_builtin (by show (false || (backTo cpos (starEach [] X.env)).any (·.1)) = false; rw [hplain]; rfl) (Calls.evalArgs_plain ?_)
    refine thn hA ?_
    rintro us s2 ⟨vs, H2, I2, r2, k, rfl, hq, q2⟩
    obtain ⟨u, rfl, t, rfl⟩ := vals1 r2
    obtain ⟨its2, rv2, ⟨⟨cls, dd, dt, sl⟩, hg, hc, n, hd⟩, hz⟩ := I2.tuple hq
    simp only at hc hd
    subst hc hd
    have hi := ints_of_vals rv2
    refine call_meets PySem.F.slot_tuple_count ⟨_, hg, rfl⟩ PySem.F.entry_tuple_count (PySem.F.args_tuple_count_2 _ _) (SeqAt.tuple_countAt a its2.toArray n dd sl (.int k t) (eqk k)) ⟨hg, fun y hy => (eqk_gives hi y (by simpa using hy)).at _ _, ?_⟩
    have ec : its2.toArray.toList.countP (eqk k) = ns.count k := eqk_count hi
    refine ⟨.int (ns.count k : Nat), H2, I2.tok _, ⟨s2.toks, ?_⟩, q2⟩
    show Value.int ((its2.toArray.toList.countP (eqk k) : Nat) : Int) s2.toks = Value.int ((ns.count k : Nat) : Int) s2.toks
    rw [ec]
end
@[simp] theorem viewAll_dummy : viewAll [] [] = some [] := rfl
end Pd

set_option Elab.async false
set_option linter.all false
set_option maxRecDepth 100000
set_option maxHeartbeats 1000000
namespace Pd
open PySem PySem.Spec PyProof.Rows L2
namespace B
section
variable {ρ : Env}
/-! tuples whose object is known -/
def tupXQ (ρ : Env) (Q : Rs → Env → Prop) : Option (List D) → Prop
  | some [.list l] => Q (.own (xtS l)) ρ
  | _ => False
@[simp] theorem tupXQ_l {Q : Rs → Env → Prop} {l : List D} : tupXQ ρ Q (some [.list l]) = Q (.own (xtS l)) ρ := rfl
@[simp ↓] theorem ev_tupX {rs : List Rs} {Q : Rs → Env → Prop} : Ev (oTupX rs) ρ Q ↔ tupXQ ρ Q (viewAll rs ρ) := by
  constructor
  · rintro ⟨r, ρ', e, q⟩
    unfold oTupX at e
    generalize viewAll rs ρ = o at e
    unfold tupXQ
    split at e
    · cases e
      exact q
    · cases e
  · intro q
    unfold tupXQ at q
    split at q
    · rename_i l h
      exact ⟨_, _, by unfold oTupX; rw [h], q⟩
    · exact q.elim
def wkQ (ρ : Env) (Q : Rs → Env → Prop) : Rs → Prop
  | .own (.ex c (some (_, d))) => c = "tuple" ∧ Q (.own (.p d)) ρ
  | _ => False
@[simp] theorem wkQ_x {Q : Rs → Env → Prop} {x : Str} {d : D} : wkQ ρ Q (.own (.ex "tuple" (some (x, d)))) = Q (.own (.p d)) ρ := by
  show (_ ∧ _) = _
  simp
@[simp ↓] theorem ev_wkR {r : Rs} {Q : Rs → Env → Prop} : Ev (wkR r) ρ Q ↔ wkQ ρ Q r := by
  constructor
  · rintro ⟨r', ρ', e, q⟩
    unfold wkR at e
    unfold wkQ
    split at e
    · split at e
      · rename_i h
        cases e
        exact ⟨h, q⟩
      · cases e
    · cases e
  · intro q
    unfold wkQ at q
    split at q
    · exact ⟨_, _, by unfold wkR; exact if_pos q.1, q.2⟩
    · exact q.elim
@[simp ↓] theorem ev_wk {f : M Rs} {Q : Rs → Env → Prop} : Ev (eWk f) ρ Q ↔ Ev f ρ fun r ρ1 => Ev (wkR r) ρ1 Q := by
  unfold eWk
  exact ev_bind
def cntI (ρ : Env) (Q : Rs → Env → Prop) (k : Int) : Option (List Int) → Prop
  | some ns => Q (.own (.p (.int (ns.count k : Nat)))) ρ
  | none => False
@[simp] theorem cntI_s {Q : Rs → Env → Prop} {k : Int} {ns : List Int} : cntI ρ Q k (some ns) = Q (.own (.p (.int (ns.count k : Nat)))) ρ := rfl
def cntAQ (ρ : Env) (Q : Rs → Env → Prop) (l : List D) : Option (List D) → Prop
  | some [.int k] => cntI ρ Q k (ints? l)
  | _ => False
@[simp] theorem cntAQ_i {Q : Rs → Env → Prop} {l : List D} {k : Int} : cntAQ ρ Q l (some [.int k]) = cntI ρ Q k (ints? l) := rfl
@[simp ↓] theorem ev_cntA {l : List D} {rs : List Rs} {Q : Rs → Env → Prop} : Ev (cntA l rs) ρ Q ↔ cntAQ ρ Q l (viewAll rs ρ) := by
  constructor
  · rintro ⟨r, ρ', e, q⟩
    unfold cntA at e
    split at e
    · rename_i k ns h1 h2
      cases e
      rw [h1, cntAQ_i, h2]
      exact q
    · cases e
  · intro q
    unfold cntAQ at q
    split at q
    · rename_i k h
      unfold cntI at q
      split at q
      · rename_i ns h2
        exact ⟨_, _, by unfold cntA; rw [h, h2], q⟩
      · exact q.elim
    · exact q.elim
def cntRQ (ρ : Env) (Q : Rs → Env → Prop) (fa : M (List Rs)) : Rs → Prop
  | .own (.ex c (some (_, .tuple l))) => c = "tuple" ∧ Ev fa ρ fun rs ρ2 => Ev (cntA l rs) ρ2 Q
  | _ => False
@[simp] theorem cntRQ_x {Q : Rs → Env → Prop} {fa : M (List Rs)} {x : Str} {l : List D} : cntRQ ρ Q fa (.own (.ex "tuple" (some (x, .tuple l)))) = Ev fa ρ fun rs ρ2 => Ev (cntA l rs) ρ2 Q := by
  show (_ ∧ _) = _
  simp
@[simp ↓] theorem ev_cntR {fa : M (List Rs)} {r : Rs} {Q : Rs → Env → Prop} : Ev (cntR fa r) ρ Q ↔ cntRQ ρ Q fa r := by
  constructor
  · rintro ⟨r', ρ', e, q⟩
    unfold cntR at e
    unfold cntRQ
    split at e
    · split at e
      · rename_i h
        exact ⟨h, ev_bind.mp ⟨_, _, e, q⟩⟩
      · cases e
    · cases e
  · intro q
    unfold cntRQ at q
    split at q
    · obtain ⟨h, q⟩ := q
      obtain ⟨r', ρ', e, q⟩ := ev_bind.mpr q
      exact ⟨r', ρ', by unfold cntR; exact (if_pos h).trans e, q⟩
    · exact q.elim
@[simp ↓] theorem ev_tc {fo : M Rs} {fa : M (List Rs)} {Q : Rs → Env → Prop} : Ev (eTc fo fa) ρ Q ↔ Ev fo ρ fun r ρ1 => Ev (cntR fa r) ρ1 Q := by
  unfold eTc
  exact ev_bind
end
end B
end Pd

set_option Elab.async false
set_option linter.all false
set_option maxRecDepth 100000
set_option maxHeartbeats 1000000
namespace Pd
open PySem PySem.Spec PyProof.Rows L2
section
variable {ρ : Env}
/-! tuples whose object is known -/
def tupXQ (ρ : Env) (Q : Rs → Env → Prop) [Fx Q] (o0 : Option (List D)) : Prop := B.tupXQ ρ Q o0
@[simp] theorem tupXQ_l {Q : Rs → Env → Prop} {l : List D} : tupXQ ρ Q (some [.list l]) = Q (.own (xtS l)) ρ := B.tupXQ_l
@[simp ↓] theorem ev_tupX {rs : List Rs} {Q : Rs → Env → Prop} : Ev (oTupX rs) ρ Q ↔ tupXQ ρ Q (viewAll rs ρ) := B.ev_tupX
def wkQ (ρ : Env) (Q : Rs → Env → Prop) [Fx Q] (o0 : Rs) : Prop := B.wkQ ρ Q o0
@[simp] theorem wkQ_x {Q : Rs → Env → Prop} {x : Str} {d : D} : wkQ ρ Q (.own (.ex "tuple" (some (x, d)))) = Q (.own (.p d)) ρ := B.wkQ_x
@[simp ↓] theorem ev_wkR {r : Rs} {Q : Rs → Env → Prop} : Ev (wkR r) ρ Q ↔ wkQ ρ Q r := B.ev_wkR
@[simp ↓] theorem ev_wk {f : M Rs} {Q : Rs → Env → Prop} : Ev (eWk f) ρ Q ↔ Ev f ρ fun r ρ1 => Ev (wkR r) ρ1 Q := B.ev_wk
def cntI (ρ : Env) (Q : Rs → Env → Prop) [Fx Q] (k : Int) (o0 : Option (List Int)) : Prop := B.cntI ρ Q k o0
@[simp] theorem cntI_s {Q : Rs → Env → Prop} {k : Int} {ns : List Int} : cntI ρ Q k (some ns) = Q (.own (.p (.int (ns.count k : Nat)))) ρ := B.cntI_s
def cntAQ (ρ : Env) (Q : Rs → Env → Prop) [Fx Q] (l : List D) (o0 : Option (List D)) : Prop := B.cntAQ ρ Q l o0
@[simp] theorem cntAQ_i {Q : Rs → Env → Prop} {l : List D} {k : Int} : cntAQ ρ Q l (some [.int k]) = cntI ρ Q k (ints? l) := B.cntAQ_i
@[simp ↓] theorem ev_cntA {l : List D} {rs : List Rs} {Q : Rs → Env → Prop} : Ev (cntA l rs) ρ Q ↔ cntAQ ρ Q l (viewAll rs ρ) := B.ev_cntA
def cntRQ (ρ : Env) (Q : Rs → Env → Prop) [Fx Q] (fa : M (List Rs)) (o0 : Rs) : Prop := B.cntRQ ρ Q fa o0
@[simp] theorem cntRQ_x {Q : Rs → Env → Prop} {fa : M (List Rs)} {x : Str} {l : List D} : cntRQ ρ Q fa (.own (.ex "tuple" (some (x, .tuple l)))) = Ev fa ρ fun rs ρ2 => Ev (cntA l rs) ρ2 Q := B.cntRQ_x
@[simp ↓] theorem ev_cntR {fa : M (List Rs)} {r : Rs} {Q : Rs → Env → Prop} : Ev (cntR fa r) ρ Q ↔ cntRQ ρ Q fa r := B.ev_cntR
@[simp ↓] theorem ev_tc {fo : M Rs} {fa : M (List Rs)} {Q : Rs → Env → Prop} : Ev (eTc fo fa) ρ Q ↔ Ev fo ρ fun r ρ1 => Ev (cntR fa r) ρ1 Q := B.ev_tc
end
end Pd


set_option Elab.async false
set_option linter.all false
set_option maxRecDepth 100000
set_option maxHeartbeats 4000000
namespace My
open PySem PySem.Spec PyProof.Rows L2 Pd
def top (i : Nat) : Stmt := PySem.Challenge.pw_belowpoints_k15_whole_trees_and_places.main.body.getD i (.Pass ⟨0, 0, 0, 0⟩)
noncomputable def g_law_folded : M Fl := (gSeq (gSet 1 (M.bind (aCons (eName 0) aNil) oLen))
    (gSeq (gFor (mSeq (eName 0)) (tgName 2)
    (gSet 1 (eBin (eBin (eBin (eName 1) (eC (.int 48271)) oMul2) (eBin (eName 2) (eC (.int 2147483629)) oMod) oAdd) (eC (.int 2147483647)) oMod)))
    (gRet (eName 1))))
noncomputable def m_law_folded : List Sl → Option (Sl × List Sl) := mkF 2 g_law_folded
noncomputable def g_SumTree_cells_now : M Fl := (gRet (M.bind (aCons (eSl (eAttr "SumTree" "cells" 0) (mInt (eC (.int 1))) mNo oSlA) aNil) oTupOf))
noncomputable def m_SumTree_cells_now : List Sl → Option (Sl × List Sl) := mkF 0 g_SumTree_cells_now
noncomputable def g_SumTree_least_many : M Fl := (gSeq (gSet 2 (eC (.int 1)))
    (gSeq (gWhile (mTest (eBin (eBin (eC (.int 2)) (eName 2) oMul2) (eAttr "SumTree" "many" 0) oLe))
    (gAugMul 2 (eC (.int 2))))
    (gSeq (gSet 3 (eC (.int 0)))
    (gSeq (gSet 4 (eName 1))
    (gSeq (gWhile (mTest (eBin (eName 2) (eC (.int 0)) oGt))
    (gSeq (gIf (tAnd' (mTest (eBin (eBin (eName 3) (eName 2) oAdd) (eAttr "SumTree" "many" 0) oLe)) (mTest (eBin (eBin (eAttr "SumTree" "cells" 0) (eBin (eName 3) (eName 2) oAdd) oIxA) (eName 4) oLt)))
    (gSeq (gAugAdd 3 (eName 2))
    (gAugSub 4 (eBin (eAttr "SumTree" "cells" 0) (eName 3) oIxA)))
    gNext)
    (gAugDiv 2 (eC (.int 2)))))
    (gSeq (gIf (mTest (eBin (eName 4) (eC (.int 0)) oLe))
    (gRet (eName 3))
    gNext)
    (gRet (eIf (mTest (eBin (eName 3) (eAttr "SumTree" "many" 0) oLt)) (eBin (eName 3) (eC (.int 1)) oAdd) (eC .none)))))))))
noncomputable def m_SumTree_least_many : List Sl → Option (Sl × List Sl) := mkF 3 g_SumTree_least_many
noncomputable def g_lowest_bit : M Fl := (gRet (eBin (eName 0) (eUn (eName 0) oNeg) oAnd))
noncomputable def m_lowest_bit : List Sl → Option (Sl × List Sl) := mkF 0 g_lowest_bit
noncomputable def g_SumTree_need_between : M Fl := (gIf (tNot' (mTest (eChain (eName 2) (eName 1) (eAttr "SumTree" "many" 0) oLe oLe)))
    gNever
    gNext)
noncomputable def m_SumTree_need_between : List Sl → Option (Sl × List Sl) := mkF 0 g_SumTree_need_between
noncomputable def g_SumTree_sum_of_first : M Fl := (gSeq (gExpr (eCallM "SumTree" "need_between" (eName 0) (aCons (eName 1) (aCons (eC (.int 0)) aNil)) 3 m_SumTree_need_between))
    (gSeq (gSet 2 (eC (.int 0)))
    (gSeq (gWhile (mTest (eBin (eName 1) (eC (.int 0)) oGt))
    (gSeq (gAugAdd 2 (eBin (eAttr "SumTree" "cells" 0) (eName 1) oIxA))
    (gAugSub 1 (M.bind (aCons (eName 1) aNil) (opCall 1 m_lowest_bit)))))
    (gRet (eName 2)))))
noncomputable def m_SumTree_sum_of_first : List Sl → Option (Sl × List Sl) := mkF 1 g_SumTree_sum_of_first
noncomputable def g_law_draw : M Fl := (gSeq (gSub (eBin (eBin (eName 0) (eC (.int 2)) oIx) (eC (.int 1)) oAdd) (eName 0) (eC (.int 2)))
    (gSeq (gIf (tAnd' (mTest (eBin (eBin (eName 0) (eC (.int 1)) oIx) (eC (.int 1)) oEq)) (mTest (eBin (eBin (eName 0) (eC (.int 0)) oIx) (eC (.int 0)) oGt)))
    (gSeq (gSet 2 (eBin (eBin (eName 0) (eC (.int 0)) oIx) (eName 1) oMod))
    (gSeq (gSub (eBin (eBin (eName 0) (eC (.int 0)) oIx) (eName 1) oDiv) (eName 0) (eC (.int 0)))
    (gRet (eName 2))))
    gNext)
    (gSeq (gSet 3 (eBin (eBin (eBin (eBin (eBin (eName 0) (eC (.int 3)) oIx) (eBin (eC (.int 6997)) (eBin (eName 0) (eC (.int 2)) oIx) oMul2) oAdd) (eC (.int 11)) oAdd) (eC (.int 48271)) oMul2) (eC (.int 2147483647)) oMod))
    (gSeq (gSet 3 (eBin (eBin (eBin (eBin (eName 3) (eName 3) oMul2) (eC (.int 2147483629)) oMod) (eC (.int 40692)) oMul2) (eC (.int 2147483399)) oMod))
    (gRet (eBin (eBin (eName 3) (eC (.int 7)) oDiv) (eName 1) oMod))))))
noncomputable def m_law_draw : List Sl → Option (Sl × List Sl) := mkF 2 g_law_draw
noncomputable def g_law_least : M Fl := (gSeq (gSet 2 (eC (.int 0)))
    (gSeq (gFor (mRng1 (aCons (eBin (M.bind (aCons (eName 0) aNil) oLen) (eC (.int 1)) oAdd) aNil)) (tgName 3)
    (gSeq (gIf (mTest (eBin (eName 2) (eName 1) oGe))
    (gRet (eName 3))
    gNext)
    (gSet 2 (eBin (eName 2) (M.bind (aCons (eSl (eName 0) (mInt (eName 3)) (mInt (eBin (eName 3) (eC (.int 1)) oAdd)) oSl) aNil) oSum) oAdd))))
    (gRet (eC .none))))
noncomputable def m_law_least : List Sl → Option (Sl × List Sl) := mkF 2 g_law_least
noncomputable def g_SumTree_put_to : M Fl := (gSeq (gExpr (eCallM "SumTree" "need_between" (eName 0) (aCons (eName 1) (aCons (eC (.int 1)) aNil)) 3 m_SumTree_need_between))
    (gWhile (mTest (eBin (eName 1) (eAttr "SumTree" "many" 0) oLe))
    (gSeq (gAugL (fun a b => a + b) (eAttr "SumTree" "cells" 0) (eName 1) (eName 2))
    (gAugAdd 1 (M.bind (aCons (eName 1) aNil) (opCall 1 m_lowest_bit))))))
noncomputable def m_SumTree_put_to : List Sl → Option (Sl × List Sl) := mkF 0 g_SumTree_put_to
noncomputable def g_SumTree___init__ : M Fl := (gSeq (gAttr "SumTree" "many" 0 (eName 1))
    (gAttr "SumTree" "cells" 0 (eBin (M.bind (aCons (eC (.int 0)) aNil) oLst) (eBin (eName 1) (eC (.int 1)) oAdd) oMul2)))
noncomputable def m_SumTree___init__ : List Sl → Option (Sl × List Sl) := mkF 0 g_SumTree___init__
noncomputable def g_law_tree_of : M Fl := (gSeq (gSet 1 (M.bind (aCons (eFz (M.bind (aCons (eName 0) aNil) oLen)) aNil) (opMake 2 "SumTree" m_SumTree___init__)))
    (gSeq (gFor (mEnumA (aCons (eName 0) aNil)) (tgTup 2 (tgCons (tgName 2) (tgCons (tgName 3) tgNil)))
    (gExpr (eCallM "SumTree" "put_to" (eName 1) (aCons (eFz (eBin (eName 2) (eC (.int 1)) oAdd)) (aCons (eFz (eName 3)) aNil)) 3 m_SumTree_put_to)))
    (gRet (eName 1))))
noncomputable def m_law_tree_of : List Sl → Option (Sl × List Sl) := mkF 3 g_law_tree_of
noncomputable def g_law_least_right : M Fl := (gSeq (gSet 2 (M.bind (aCons (eName 1) aNil) (opCall 1 m_law_tree_of)))
    (gSeq (gFor (mRng1 (aCons (eC (.int 4)) aNil)) (tgName 3)
    (gSeq (gSet 4 (eBin (eBin (eBin (eBin (M.bind (aCons (eName 1) aNil) oSum) (M.bind (aCons (eName 0) (aCons (eC (.int 1001)) aNil)) (opCall 2 m_law_draw)) oMul2) (eC (.int 1000)) oDiv) (M.bind (aCons (eName 0) (aCons (eC (.int 3)) aNil)) (opCall 2 m_law_draw)) oAdd) (eC (.int 1)) oSub))
    (gSeq (gIf (mTest (eBin (eCallM "SumTree" "least_many" (eName 2) (aCons (eFz (eName 4)) aNil) 2 m_SumTree_least_many) (M.bind (aCons (eName 1) (aCons (eFz (eName 4)) aNil)) (opCall 2 m_law_least)) oNe))
    (gRet (eC (.bool false)))
    gNext)
    (gSeq (gSet 5 (M.bind (aCons (eName 0) (aCons (eFz (eBin (M.bind (aCons (eName 1) aNil) oLen) (eC (.int 1)) oAdd)) aNil)) (opCall 2 m_law_draw)))
    (gSeq (gSet 6 (eCallM "SumTree" "least_many" (eName 2) (aCons (eFz (eCallM "SumTree" "sum_of_first" (eName 2) (aCons (eFz (eName 5)) aNil) 2 m_SumTree_sum_of_first)) aNil) 2 m_SumTree_least_many))
    (gIf (tOr' (mTest (eBin (eName 6) (eC .none) oIs)) (tOr' (mTest (eBin (eName 6) (eName 5) oGt)) (mTest (eBin (eCallM "SumTree" "sum_of_first" (eName 2) (aCons (eFz (eName 6)) aNil) 2 m_SumTree_sum_of_first) (eCallM "SumTree" "sum_of_first" (eName 2) (aCons (eFz (eName 5)) aNil) 2 m_SumTree_sum_of_first) oNe))))
    (gRet (eC (.bool false)))
    gNext))))))
    (gRet (eBin (eCallM "SumTree" "least_many" (eName 2) (aCons (eFz (eBin (M.bind (aCons (eName 1) aNil) oSum) (eC (.int 1)) oAdd)) aNil) 2 m_SumTree_least_many) (eC .none) oIs))))
noncomputable def m_law_least_right : List Sl → Option (Sl × List Sl) := mkF 5 g_law_least_right
noncomputable def g_SumTree_sum_from_to : M Fl := (gSeq (gExpr (eCallM "SumTree" "need_between" (eName 0) (aCons (eName 1) (aCons (eC (.int 1)) aNil)) 3 m_SumTree_need_between))
    (gSeq (gExpr (eCallM "SumTree" "need_between" (eName 0) (aCons (eName 2) (aCons (eC (.int 1)) aNil)) 3 m_SumTree_need_between))
    (gSeq (gIf (mTest (eBin (eName 2) (eName 1) oLt))
    (gRet (eC (.int 0)))
    gNext)
    (gRet (eBin (eCallM "SumTree" "sum_of_first" (eName 0) (aCons (eName 2) aNil) 2 m_SumTree_sum_of_first) (eCallM "SumTree" "sum_of_first" (eName 0) (aCons (eFz (eBin (eName 1) (eC (.int 1)) oSub)) aNil) 2 m_SumTree_sum_of_first) oSub)))))
noncomputable def m_SumTree_sum_from_to : List Sl → Option (Sl × List Sl) := mkF 0 g_SumTree_sum_from_to
noncomputable def g_SumTree_number_at : M Fl := (gRet (eCallM "SumTree" "sum_from_to" (eName 0) (aCons (eName 1) (aCons (eName 1) aNil)) 3 m_SumTree_sum_from_to))
noncomputable def m_SumTree_number_at : List Sl → Option (Sl × List Sl) := mkF 0 g_SumTree_number_at
noncomputable def g_SumTree_row_now : M Fl := (gRet (M.bind (aCons (eLc (mRng2 (aCons (eC (.int 1)) (aCons (eBin (eAttr "SumTree" "many" 0) (eC (.int 1)) oAdd) aNil))) [1] (tgName 1) tYes' (eCallM "SumTree" "number_at" (eName 0) (aCons (eFz (eName 1)) aNil) 2 m_SumTree_number_at)) aNil) oTupOf))
noncomputable def m_SumTree_row_now : List Sl → Option (Sl × List Sl) := mkF 1 g_SumTree_row_now
noncomputable def g_law_number : M Fl := (gSeq (gIf (mTest (eBin (eName 1) (eC (.int 0)) oEq))
    (gRet (eBin (M.bind (aCons (eName 0) (aCons (eC (.int 4)) aNil)) (opCall 2 m_law_draw)) (eC (.int 1)) oSub))
    gNext)
    (gSeq (gIf (mTest (eBin (eName 1) (eC (.int 1)) oEq))
    (gRet (eBin (M.bind (aCons (eName 0) (aCons (eC (.int 41)) aNil)) (opCall 2 m_law_draw)) (eC (.int 20)) oSub))
    gNext)
    (gSeq (gSet 2 (eBin (M.bind (aCons (eBin (eBin (M.bind (aCons (eName 0) (aCons (eFz (eC (.int 100000))) aNil)) (opCall 2 m_law_draw)) (eC (.int 100000)) oMul2) (M.bind (aCons (eName 0) (aCons (eFz (eC (.int 100000))) aNil)) (opCall 2 m_law_draw)) oAdd) (aCons (eC (.int 9999999999)) aNil)) oLst) (M.bind (aCons (eBin (M.bind (aCons (eName 0) (aCons (eC (.int 8)) aNil)) (opCall 2 m_law_draw)) (eC (.int 0)) oEq) aNil) oInt1) oIx))
    (gRet (eBin (eBin (M.bind (aCons (eC (.int 1)) (aCons (eC (.int (-1))) aNil)) oLst) (M.bind (aCons (eName 0) (aCons (eC (.int 2)) aNil)) (opCall 2 m_law_draw)) oIx) (eName 2) oMul2)))))
noncomputable def m_law_number : List Sl → Option (Sl × List Sl) := mkF 1 g_law_number
noncomputable def g_law_cells : M Fl := (gSeq (gSet 1 (M.bind aNil oLst))
    (gSeq (gFor (mRng2 (aCons (eC (.int 1)) (aCons (eBin (M.bind (aCons (eName 0) aNil) oLen) (eC (.int 1)) oAdd) aNil))) (tgName 2)
    (gExpr (eMeth "list" (eName 1) (aCons (M.bind (aCons (eSl (eName 0) (mInt (eBin (eName 2) (eBin (eName 2) (eBin (eC (.int 0)) (eName 2) oSub) oAnd) oSub)) (mInt (eName 2)) oSl) aNil) oSum) aNil) o_append1)))
    (gRet (M.bind (aCons (eName 1) aNil) oTupOf))))
noncomputable def m_law_cells : List Sl → Option (Sl × List Sl) := mkF 2 g_law_cells
noncomputable def g_law_trees_right : M Fl := (gSeq (gSet 2 (M.bind (aCons (eName 1) aNil) oLen))
    (gSeq (gSet 3 (M.bind (aCons (eName 1) aNil) (opCall 1 m_law_tree_of)))
    (gSeq (gIf (tOr' (mTest (eBin (eCallM "SumTree" "row_now" (eName 3) aNil 1 m_SumTree_row_now) (eName 1) oNe)) (mTest (eBin (eCallM "SumTree" "sum_of_first" (eName 3) (aCons (eFz (eName 2)) aNil) 2 m_SumTree_sum_of_first) (M.bind (aCons (eName 1) aNil) oSum) oNe)))
    (gRet (eC (.bool false)))
    gNext)
    (gSeq (gFor (mRng1 (aCons (eC (.int 6)) aNil)) (tgName 4)
    (gSeq (gSet 5 (eBin (eC (.int 1)) (M.bind (aCons (eName 0) (aCons (eFz (eName 2)) aNil)) (opCall 2 m_law_draw)) oAdd))
    (gSeq (gSet 6 (eBin (eName 5) (M.bind (aCons (eName 0) (aCons (eFz (eBin (eBin (eName 2) (eC (.int 1)) oAdd) (eName 5) oSub)) aNil)) (opCall 2 m_law_draw)) oAdd))
    (gSeq (gIf (mTest (eBin (eCallM "SumTree" "sum_from_to" (eName 3) (aCons (eFz (eName 5)) (aCons (eFz (eName 6)) aNil)) 3 m_SumTree_sum_from_to) (eBin (eCallM "SumTree" "sum_of_first" (eName 3) (aCons (eFz (eName 6)) aNil) 2 m_SumTree_sum_of_first) (eCallM "SumTree" "sum_of_first" (eName 3) (aCons (eFz (eBin (eName 5) (eC (.int 1)) oSub)) aNil) 2 m_SumTree_sum_of_first) oSub) oNe))
    (gRet (eC (.bool false)))
    gNext)
    (gIf (tOr' (mTest (eBin (eCallM "SumTree" "sum_from_to" (eName 3) (aCons (eFz (eName 5)) (aCons (eFz (eName 6)) aNil)) 3 m_SumTree_sum_from_to) (M.bind (aCons (eSl (eName 1) (mInt (eBin (eName 5) (eC (.int 1)) oSub)) (mInt (eName 6)) oSl) aNil) oSum) oNe)) (mTest (eBin (eCallM "SumTree" "sum_of_first" (eName 3) (aCons (eFz (eName 6)) aNil) 2 m_SumTree_sum_of_first) (M.bind (aCons (eSl (eName 1) mNo (mInt (eName 6)) oSl) aNil) oSum) oNe)))
    (gRet (eC (.bool false)))
    gNext)))))
    (gSeq (gSet 7 (eCallM "SumTree" "cells_now" (eName 3) aNil 1 m_SumTree_cells_now))
    (gSeq (gIf (mTest (eBin (eName 7) (M.bind (aCons (eName 1) aNil) (opCall 1 m_law_cells)) oNe))
    (gRet (eC (.bool false)))
    gNext)
    (gSeq (gSet 8 (eBin (eC (.int 1)) (M.bind (aCons (eName 0) (aCons (eFz (eName 2)) aNil)) (opCall 2 m_law_draw)) oAdd))
    (gSeq (gSet 9 (M.bind (aCons (eName 0) (aCons (eC (.int 2)) aNil)) (opCall 2 m_law_number)))
    (gSeq (gExpr (eCallM "SumTree" "put_to" (eName 3) (aCons (eFz (eName 8)) (aCons (eFz (eName 9)) aNil)) 3 m_SumTree_put_to))
    (gSeq (gExpr (eCallM "SumTree" "put_to" (eName 3) (aCons (eFz (eName 8)) (aCons (eFz (eBin (eC (.int 0)) (eName 9) oSub)) aNil)) 3 m_SumTree_put_to))
    (gSeq (gIf (tOr' (mTest (eBin (eCallM "SumTree" "cells_now" (eName 3) aNil 1 m_SumTree_cells_now) (eName 7) oNe)) (mTest (eBin (eCallM "SumTree" "row_now" (eName 3) aNil 1 m_SumTree_row_now) (eName 1) oNe)))
    (gRet (eC (.bool false)))
    gNext)
    (gSeq (gSet 10 (M.bind (aCons (eLc (mSeq (eName 1)) [13] (tgName 13) tYes' (eBin (eC (.int 0)) (eBin (eName 13) (eBin (eC (.int 1)) (M.bind (aCons (eName 0) (aCons (eC (.int 3)) aNil)) (opCall 2 m_law_draw)) oAdd) oDiv) oSub)) aNil) oTupOf))
    (gSeq (gSet 11 (M.bind (aCons (eFz (eLc (mZipA (aCons (eName 1) (aCons (eName 10) aNil))) [13, 14] (tgTup 2 (tgCons (tgName 13) (tgCons (tgName 14) tgNil))) tYes' (eBin (eName 13) (eName 14) oAdd))) aNil) (opCall 1 m_law_tree_of)))
    (gSeq (gSet 12 (eLc (mZipA (aCons (eName 7) (aCons (eCallM "SumTree" "cells_now" (M.bind (aCons (eFz (eName 10)) aNil) (opCall 1 m_law_tree_of)) aNil 1 m_SumTree_cells_now) aNil))) [13, 14] (tgTup 2 (tgCons (tgName 13) (tgCons (tgName 14) tgNil))) tYes' (eBin (eName 13) (eName 14) oAdd)))
    (gRet (eAnd (eBin (eCallM "SumTree" "cells_now" (eName 11) aNil 1 m_SumTree_cells_now) (M.bind (aCons (eName 12) aNil) oTupOf) oEq) (M.bind (aCons (eName 0) (aCons (eFz (M.bind (aCons (eLc (mSeq (eName 1)) [13] (tgName 13) tYes' (M.bind (aCons (eName 13) aNil) oAbs)) aNil) oTupOf)) aNil)) (opCall 2 m_law_least_right))))))))))))))))))
noncomputable def m_law_trees_right : List Sl → Option (Sl × List Sl) := mkF 13 g_law_trees_right
noncomputable def g_law_is_whole : M Fl := (gRet (eAnd (M.bind (eName 0) (oIsi "int")) (eAnd (eNot (M.bind (eName 0) (oIsi "bool"))) (eBin (eName 0) (eName 1) oEq))))
noncomputable def m_law_is_whole : List Sl → Option (Sl × List Sl) := mkF 0 g_law_is_whole
noncomputable def g_law_are_whole : M Fl := (gSeq (gIf (tOr' (tNot' (mTest (M.bind (eName 0) (oIsi "tuple")))) (mTest (eBin (M.bind (aCons (eName 0) aNil) oLen) (M.bind (aCons (eName 1) aNil) oLen) oNe)))
    (gRet (eC (.bool false)))
    gNext)
    (gRet (eBin (eLc (mZipA (aCons (eName 0) (aCons (eName 1) aNil))) [2, 3] (tgTup 2 (tgCons (tgName 2) (tgCons (tgName 3) tgNil))) (tNot' (mTest (M.bind (aCons (eFz (eName 2)) (aCons (eFz (eName 3)) aNil)) (opCall 2 m_law_is_whole)))) (eC (.int 1))) (M.bind aNil oLst) oEq)))
noncomputable def m_law_are_whole : List Sl → Option (Sl × List Sl) := mkF 2 g_law_are_whole
noncomputable def g_places_of : M Fl := (gSeq (gSet 1 (M.bind (aCons (eName 0) aNil) oSS))
    (gSeq (gSet 2 (M.bind (aCons (eLc (mEnumA (aCons (eName 1) aNil)) [3, 4] (tgTup 2 (tgCons (tgName 3) (tgCons (tgName 4) tgNil))) tYes' (M.bind (aCons (eName 4) (aCons (eBin (eName 3) (eC (.int 1)) oAdd) aNil)) oTup)) aNil) oDict))
    (gRet (M.bind (aCons (M.bind (aCons (eName 1) aNil) oTupOf) (aCons (M.bind (aCons (eLc (mSeq (eName 0)) [4] (tgName 4) tYes' (eBin (eName 2) (eName 4) oIxD)) aNil) oTupOf) aNil)) oTup))))
noncomputable def m_places_of : List Sl → Option (Sl × List Sl) := mkF 4 g_places_of
noncomputable def g_law_places_right : M Fl := (gSeq (gAsg (tgTup 2 (tgCons (tgName 1) (tgCons (tgName 2) tgNil))) (M.bind (aCons (eWk (eName 0)) aNil) (opCall 1 m_places_of)))
    (gSeq (gIf (tOr' (tNot' (mTest (M.bind (M.bind (aCons (eWk (eName 0)) aNil) (opCall 1 m_places_of)) (oIsi "tuple")))) (tNot' (mTest (M.bind (aCons (eFz (eName 1)) (aCons (eFz (M.bind (aCons (eWk (eName 0)) aNil) oSS)) aNil)) (opCall 2 m_law_are_whole)))))
    (gRet (eC (.bool false)))
    gNext)
    (gSeq (gSet 3 (eLc (mSeq (eWk (eName 0))) [7] (tgName 7) tYes' (eBin (eC (.int 1)) (M.bind (aCons (eLc (mSeq (eName 1)) [8] (tgName 8) (mTest (eBin (eName 8) (eName 7) oLt)) (eC (.int 1))) aNil) oLen) oAdd)))
    (gSeq (gIf (tOr' (tNot' (mTest (M.bind (aCons (eFz (eName 2)) (aCons (eFz (eName 3)) aNil)) (opCall 2 m_law_are_whole)))) (mTest (eBin (M.bind (aCons (eWk (eName 0)) aNil) (opCall 1 m_places_of)) (M.bind (aCons (eName 1) (aCons (eName 2) aNil)) oTup) oNe)))
    (gRet (eC (.bool false)))
    gNext)
    (gSeq (gIf (mTest (eBin (eWk (eName 0)) (M.bind aNil oTup) oEq))
    (gRet (eC (.bool true)))
    gNext)
    (gSeq (gSet 4 (M.bind (aCons (eFz (M.bind (aCons (eName 1) aNil) oLen)) aNil) (opMake 2 "SumTree" m_SumTree___init__)))
    (gSeq (gFor (mEnumA (aCons (eName 2) aNil)) (tgTup 2 (tgCons (tgName 5) (tgCons (tgName 6) tgNil)))
    (gSeq (gIf (mTest (eBin (eCallM "SumTree" "sum_of_first" (eName 4) (aCons (eFz (eName 6)) aNil) 2 m_SumTree_sum_of_first) (M.bind (aCons (eLc (mSeq (eSl (eWk (eName 0)) mNo (mInt (eName 5)) oSl)) [8] (tgName 8) (mTest (eBin (eName 8) (eBin (eWk (eName 0)) (eName 5) oIx) oLe)) (eC (.int 1))) aNil) oLen) oNe))
    (gRet (eC (.bool false)))
    gNext)
    (gExpr (eCallM "SumTree" "put_to" (eName 4) (aCons (eFz (eName 6)) (aCons (eC (.int 1)) aNil)) 3 m_SumTree_put_to))))
    (gRet (eBin (eCallM "SumTree" "row_now" (eName 4) aNil 1 m_SumTree_row_now) (M.bind (aCons (eLc (mSeq (eName 1)) [7] (tgName 7) tYes' (eTc (eName 0) (aCons (eName 7) aNil))) aNil) oTupOf) oEq)))))))))
noncomputable def m_law_places_right : List Sl → Option (Sl × List Sl) := mkF 8 g_law_places_right
noncomputable def g_law_numbers : M Fl := (gSeq (gSet 1 (M.bind (aCons (eName 0) (aCons (eC (.int 3)) aNil)) (opCall 2 m_law_draw)))
    (gSeq (gSet 2 (M.bind aNil oLst))
    (gSeq (gFor (mRng1 (aCons (eBin (M.bind (aCons (M.bind (aCons (eName 0) (aCons (eC (.int 8)) aNil)) (opCall 2 m_law_draw)) (aCons (M.bind (aCons (eName 0) (aCons (eC (.int 40)) aNil)) (opCall 2 m_law_draw)) (aCons (M.bind (aCons (eName 0) (aCons (eC (.int 201)) aNil)) (opCall 2 m_law_draw)) aNil))) oLst) (M.bind (aCons (eName 0) (aCons (eC (.int 3)) aNil)) (opCall 2 m_law_draw)) oIx) aNil)) (tgName 3)
    (gSeq (gExpr (eMeth "list" (eName 2) (aCons (M.bind (aCons (eName 0) (aCons (eFz (eName 1)) aNil)) (opCall 2 m_law_number)) aNil) o_append1))
    (gIf (mTest (eBin (M.bind (aCons (eName 0) (aCons (eC (.int 4)) aNil)) (opCall 2 m_law_draw)) (eC (.int 0)) oEq))
    (gSub (eBin (eName 2) (M.bind (aCons (eName 0) (aCons (eFz (M.bind (aCons (eName 2) aNil) oLen)) aNil)) (opCall 2 m_law_draw)) oIx) (eName 2) (eC (.int (-1))))
    gNext)))
    (gRet (M.bind (aCons (eName 2) aNil) oTupX)))))
noncomputable def m_law_numbers : List Sl → Option (Sl × List Sl) := mkF 3 g_law_numbers
noncomputable def g_law_seed : M Fl := (gSeq (gSet 1 (M.bind (aCons (eName 0) (aCons (eBin (eC (.int 0)) (eName 0) oSub) aNil)) oMax))
    (gRet (M.bind (aCons (eName 1) (aCons (M.bind (aCons (eBin (eName 1) (eC (.int 1000000000000000000)) oGe) aNil) oInt1) (aCons (eC (.int 0)) (aCons (eBin (eName 0) (eC (.int 1999999913)) oMod) aNil)))) oLst)))
noncomputable def m_law_seed : List Sl → Option (Sl × List Sl) := mkF 1 g_law_seed
noncomputable def g_law : M Fl := (gSeq (gFor (mSeq (eBin (eSl (eName 0) mNo (mInt (eC (.int 2))) oSl) (M.bind (aCons (M.bind (aCons (eName 0) aNil) (opCall 1 m_law_folded)) aNil) oLst) oAdd)) (tgName 1)
    (gSeq (gSet 2 (M.bind (aCons (eFz (eName 1)) aNil) (opCall 1 m_law_seed)))
    (gSeq (gSet 3 (M.bind (aCons (eName 2) aNil) (opCall 1 m_law_numbers)))
    (gSeq (gIf (tNot' (mTest (M.bind (aCons (eName 3) aNil) (opCall 1 m_law_places_right))))
    (gRet (eC (.bool false)))
    gNext)
    (gIf (tAnd' (mTest (eBin (eWk (eName 3)) (M.bind aNil oTup) oNe)) (tNot' (mTest (M.bind (aCons (eName 2) (aCons (eFz (eWk (eName 3))) aNil)) (opCall 2 m_law_trees_right)))))
    (gRet (eC (.bool false)))
    gNext)))))
    (gRet (eC (.bool true))))
noncomputable def m_law : List Sl → Option (Sl × List Sl) := mkF 3 g_law
open Pd.B (cmul cdiv atI_of atI_in ixN_in fPop1_of rngD_at)
theorem atI_map {α : Type} {f : α → D} {l : List α} {v : Int} (h0 : 0 ≤ v) (h : v < l.length) : ∃ x, x ∈ l ∧ l[v.toNat]? = some x ∧ atI (l.map f) v = some (f x) := by
  have hv : v.toNat < l.length := by omega
  refine ⟨l[v.toNat], List.getElem_mem hv, List.getElem?_eq_getElem hv, ?_⟩
  rw [atI_in h0 (by simpa using h)]
  rw [List.getD_eq_getElem?_getD, List.getElem?_map, List.getElem?_eq_getElem hv]
  rfl
theorem eraseIdx_map {α β : Type} {f : α → β} : ∀ {l : List α} {i : Nat}, (l.eraseIdx i).map f = (l.map f).eraseIdx i
  | [], _ => rfl
  | _ :: _, 0 => rfl
  | a :: l, i + 1 => by
    show f a :: (l.eraseIdx i).map f = f a :: (l.map f).eraseIdx i
    rw [eraseIdx_map]
theorem pop_map {α : Type} {f : α → D} {l : List α} {v : Int} (h0 : 0 ≤ v) (h : v < l.length) (h2 : l.length < 2 ^ 62) : ∃ x, x ∈ l ∧ l[v.toNat]? = some x ∧ fPop1 (l.map f) [.int v] = some (f x, (l.eraseIdx v.toNat).map f) := by
  have hv : v.toNat < l.length := by omega
  refine ⟨l[v.toNat], List.getElem_mem hv, List.getElem?_eq_getElem hv, ?_⟩
  rw [fPop1_of h0 (by simpa using h) (by omega)]
  rw [List.getD_eq_getElem?_getD, List.getElem?_map, List.getElem?_eq_getElem hv, ← eraseIdx_map]
  rfl
theorem cut_nat {l : List D} {k : Nat} : Pd.cutD l none (some (k : Int)) = l.take k := by
  unfold Pd.cutD
  rw [HT.sIx_none, HT.sIx_nat, List.drop_zero, Nat.sub_zero]
  by_cases h : k ≤ l.length
  · rw [Nat.min_eq_left h]
  · rw [Nat.min_eq_right (by omega), List.take_of_length_le (Nat.le_refl _), List.take_of_length_le (by omega)]
theorem enumD_at {α : Type} {f : α → D} {l : List α} {done r : List D} {x : D} (h : enumD (l.map f) = done ++ x :: r) : ∃ t, l[done.length]? = some t ∧ x = .tuple [.int (done.length : Nat), f t] ∧ done.length < l.length := by
  have hl := congrArg List.length h
  unfold enumD at hl
  simp at hl
  have : (enumD (l.map f))[done.length]? = some x := by rw [h]; simp
  unfold enumD at this
  rw [List.getElem?_mapIdx, List.getElem?_map, List.getElem?_eq_getElem (by omega)] at this
  refine ⟨_, List.getElem?_eq_getElem (by omega), ?_, by omega⟩
  cases this
  rfl
theorem any_str {ws : List Str} {w : Str} : (ws.map PyData.str).any (fun y => PyData.eqv y (.str w)) = decide (w ∈ ws) := by
  induction ws with
  | nil => rfl
  | cons a ws ih =>
    rw [List.map_cons, List.any_cons, ih, Bool.eq_iff_iff]
    simp
    constructor
    · rintro (h | h)
      · exact Or.inl h.symm
      · exact Or.inr h
    · rintro (h | h)
      · exact Or.inl h.symm
      · exact Or.inr h
theorem filter_yes {α : Type} : ∀ {l : List α}, l.filter (fun _ => true) = l
  | [] => rfl
  | a :: l => by rw [List.filter_cons, if_pos rfl, filter_yes]
theorem map_at {α : Type} {f : α → D} {l : List α} {done r : List D} {x : D} (h : l.map f = done ++ x :: r) : ∃ t, l[done.length]? = some t ∧ x = f t ∧ done.length < l.length ∧ t ∈ l := by
  have hl := congrArg List.length h
  simp at hl
  have hlt : done.length < l.length := by omega
  have : (l.map f)[done.length]? = some x := by rw [h]; simp
  rw [List.getElem?_map, List.getElem?_eq_getElem hlt] at this
  cases this
  exact ⟨_, List.getElem?_eq_getElem hlt, rfl, hlt, List.getElem_mem hlt⟩
theorem take_next {α : Type} {l : List α} {n : Nat} {t : α} (h : l[n]? = some t) : l.take (n + 1) = l.take n ++ [t] := by rw [List.take_succ, h]; rfl
theorem ints_mapf {α : Type} {h : α → Int} : ∀ {l : List α}, ints? (l.map fun q => PyData.int (h q)) = some (l.map h)
  | [] => rfl
  | a :: l => by rw [List.map_cons, B.ints_cons, ints_mapf]; rfl
@[simp] theorem cut_3_1 {a b c : D} : Pd.cutD [a, b, c] (some 1) none = [b, c] := rfl
@[simp] theorem dep_mapI {α : Type} {h : α → Int} : ∀ {l : List α}, PyData.depthAll (l.map fun q => .int (h q)) = 0
  | [] => rfl
  | a :: l => by rw [List.map_cons, Pd.B.depA_c, dep_mapI]; rfl
@[simp] theorem eqvA_mapI {α : Type} {h : α → Int} : ∀ {l : List α}, PyData.eqvAll (l.map fun q => .int (h q)) (l.map fun q => .int (h q)) = true
  | [] => by simp
  | a :: l => by simp [eqvA_mapI]

@[simp] theorem dep_ints : ∀ {l : List Int}, PyData.depthAll (l.map .int) = 0
  | [] => rfl
  | a :: l => by rw [List.map_cons, Pd.B.depA_c, dep_ints]; rfl
@[simp] theorem eqvA_ints : ∀ {l m : List Int}, PyData.eqvAll (l.map .int) (m.map .int) = decide (l = m)
  | [], [] => by simp
  | [], b :: m => by simp
  | a :: l, [] => by simp
  | a :: l, b :: m => by simp [eqvA_ints]; 

/-! trees of sums: lowest bits -/
theorem and_step0 (m : Nat) : (2 * m + 1) &&& (2 * m) = 2 * m := by
  have h1 : ((2 * m + 1) &&& (2 * m)) / 2 = m := by
    rw [Nat.and_div_two, show (2 * m + 1) / 2 = m by omega, show 2 * m / 2 = m by omega, Nat.and_self]
  have h2 : ((2 * m + 1) &&& (2 * m)) % 2 = 0 := by
    rcases Nat.mod_two_eq_zero_or_one ((2 * m + 1) &&& (2 * m)) with h | h
    · exact h
    · have := (Nat.and_mod_two_eq_one.mp h).2
      omega
  omega
theorem and_step1 (m : Nat) (h : 0 < m) : (2 * m) &&& (2 * m - 1) = 2 * (m &&& (m - 1)) := by
  have h1 : ((2 * m) &&& (2 * m - 1)) / 2 = m &&& (m - 1) := by
    rw [Nat.and_div_two, show (2 * m) / 2 = m by omega, show (2 * m - 1) / 2 = m - 1 by omega]
  have h2 : ((2 * m) &&& (2 * m - 1)) % 2 = 0 := by
    rcases Nat.mod_two_eq_zero_or_one ((2 * m) &&& (2 * m - 1)) with h | h
    · exact h
    · have := (Nat.and_mod_two_eq_one.mp h).1
      omega
  omega
/-- what the lowest bit is worth -/
def lw (k : Nat) : Nat := k - (k &&& (k - 1))
theorem lw_odd (m : Nat) : lw (2 * m + 1) = 1 := by
  unfold lw
  rw [show 2 * m + 1 - 1 = 2 * m by omega, and_step0]
  omega
theorem lw_even (m : Nat) (h : 0 < m) : lw (2 * m) = 2 * lw m := by
  unfold lw
  rw [and_step1 m h]
  have := Nat.and_le_left (n := m) (m := m - 1)
  omega
theorem lw_pos : ∀ (k : Nat), 0 < k → 0 < lw k ∧ lw k ≤ k := by
  intro k
  induction k using Nat.strongRecOn with
  | ind k ih =>
    intro h
    rcases Nat.mod_two_eq_zero_or_one k with e | e
    · obtain ⟨m, rfl⟩ : ∃ m, k = 2 * m := ⟨k / 2, by omega⟩
      have := ih m (by omega) (by omega)
      rw [lw_even m (by omega)]
      omega
    · obtain ⟨m, rfl⟩ : ∃ m, k = 2 * m + 1 := ⟨k / 2, by omega⟩
      rw [lw_odd]
      omega
theorem lw_bit (k : Nat) (h : 0 < k) : Builtin.bitAnd (k : Int) (-(k : Int)) = ((lw k : Nat) : Int) := by
  unfold Builtin.bitAnd
  rw [show decide (0 ≤ (k : Int)) = true by simp, show decide (0 ≤ -(k : Int)) = false by simp; omega]
  dsimp only
  have e : (Builtin.bitNot (-(k : Int))).toNat = k - 1 := by
    unfold Builtin.bitNot
    omega
  rw [e, Int.toNat_natCast]
  have := Nat.and_le_left (n := k) (m := k - 1)
  unfold lw
  omega
/-- the cell at k holds the number at p -/
def Cov (k p : Nat) : Prop := k < p + lw k ∧ p ≤ k
theorem cov_next : ∀ (N k p : Nat), k + p ≤ N → 0 < p → p < k → (Cov k p ↔ Cov k (p + lw p)) := by
  intro N
  induction N using Nat.strongRecOn with
  | ind N ih =>
    intro k p hN h0 hp
    unfold Cov
    rcases Nat.mod_two_eq_zero_or_one p with e | e
    · obtain ⟨q, rfl⟩ : ∃ q, p = 2 * q := ⟨p / 2, by omega⟩
      rw [lw_even q (by omega)]
      have hq := lw_pos q (by omega)
      rcases Nat.mod_two_eq_zero_or_one k with e2 | e2
      · obtain ⟨j, rfl⟩ : ∃ j, k = 2 * j := ⟨k / 2, by omega⟩
        rw [lw_even j (by omega)]
        have := ih (j + q) (by omega) j q (Nat.le_refl _) (by omega) (by omega)
        unfold Cov at this
        omega
      · obtain ⟨j, rfl⟩ : ∃ j, k = 2 * j + 1 := ⟨k / 2, by omega⟩
        rw [lw_odd]
        omega
    · obtain ⟨q, rfl⟩ : ∃ q, p = 2 * q + 1 := ⟨p / 2, by omega⟩
      rw [lw_odd]
      rcases Nat.mod_two_eq_zero_or_one k with e2 | e2
      · obtain ⟨j, rfl⟩ : ∃ j, k = 2 * j := ⟨k / 2, by omega⟩
        rw [lw_even j (by omega)]
        omega
      · obtain ⟨j, rfl⟩ : ∃ j, k = 2 * j + 1 := ⟨k / 2, by omega⟩
        rw [lw_odd]
        omega
theorem cov_self (p : Nat) (h : 0 < p) : Cov p p := by
  have := lw_pos p h
  unfold Cov
  omega
instance (k p : Nat) : Decidable (Cov k p) := by unfold Cov; infer_instance
/-- the sum of the numbers at the places above a, up to b -/
def seg (r : List Int) (a b : Nat) : Int := ((r.drop a).take (b - a)).sum
def cellOf (r : List Int) (k : Nat) : Int := seg r (k - lw k) k
def cellsOf (r : List Int) : List Int := 0 :: (List.range r.length).map fun i => cellOf r (i + 1)
theorem seg_take (r : List Int) (a b : Nat) (h : a ≤ b) : seg r a b = (r.take b).sum - (r.take a).sum := by
  unfold seg
  have e : r.take b = r.take a ++ (r.drop a).take (b - a) := by
    rw [← List.take_append_drop a (r.take b), List.take_take, List.drop_take, Nat.min_eq_left h]
  rw [e, List.sum_append]
  omega
theorem sum_set : ∀ (r : List Int) (p b : Nat) (v : Int) (hp : p < r.length), ((r.set p v).take b).sum = (r.take b).sum + if p < b then v - r[p] else 0
  | [], p, b, v, hp => by simp at hp
  | x :: r, 0, 0, v, hp => by simp
  | x :: r, 0, b + 1, v, hp => by simp; omega
  | x :: r, p + 1, 0, v, hp => by simp
  | x :: r, p + 1, b + 1, v, hp => by
    have := sum_set r p b v (by simpa using hp)
    simp only [List.set_cons_succ, List.take_succ_cons, List.sum_cons, List.getElem_cons_succ]
    rw [this]
    by_cases e : p < b
    · rw [if_pos e, if_pos (by omega)]; omega
    · rw [if_neg e, if_neg (by omega)]; omega
theorem cell_set (r : List Int) (p k : Nat) (x : Int) (hp : p < r.length) (hk : 0 < k) : cellOf (r.set p (r[p] + x)) k = cellOf r k + if Cov k (p + 1) then x else 0 := by
  have := lw_pos k hk
  unfold cellOf
  rw [seg_take _ _ _ (by omega), seg_take _ _ _ (by omega), sum_set _ _ _ _ hp, sum_set _ _ _ _ hp]
  have hcov : Cov k (p + 1) ↔ (k < p + 1 + lw k ∧ p + 1 ≤ k) := Iff.rfl
  by_cases hc : Cov k (p + 1)
  · have := hcov.mp hc
    rw [if_pos hc, if_pos (by omega), if_neg (by omega)]
    omega
  · have h2 : ¬ (k < p + 1 + lw k ∧ p + 1 ≤ k) := fun h => hc (hcov.mpr h)
    rw [if_neg hc]
    by_cases e1 : p < k
    · rw [if_pos e1, if_pos (by omega)]; omega
    · rw [if_neg e1, if_neg (by omega)]; omega
theorem cellsOf_len (r : List Int) : (cellsOf r).length = r.length + 1 := by simp [cellsOf]
theorem cellsOf_get (r : List Int) (k : Nat) (hk : 0 < k) (hn : k ≤ r.length) : (cellsOf r)[k]? = some (cellOf r k) := by
  obtain ⟨i, rfl⟩ : ∃ i, k = i + 1 := ⟨k - 1, by omega⟩
  unfold cellsOf
  rw [List.getElem?_cons_succ, List.getElem?_map, List.getElem?_range (by omega)]
  rfl
theorem cellsOf_zero (n : Nat) : cellsOf (List.replicate n 0) = List.replicate (n + 1) 0 := by
  apply List.ext_getElem?
  intro k
  have hs : ∀ a b, seg (List.replicate n 0) a b = 0 := fun a b => by
    unfold seg
    simp [List.drop_replicate, List.take_replicate]
  cases k with
  | zero => simp [cellsOf]
  | succ k =>
    unfold cellsOf cellOf
    by_cases h : k < n
    · rw [List.getElem?_cons_succ, List.getElem?_map, List.getElem?_range (by simpa using h), List.getElem?_replicate, if_pos (by omega)]
      simp [hs]
    · rw [List.getElem?_cons_succ, List.getElem?_map, List.getElem?_eq_none (by simp; omega), List.getElem?_replicate, if_neg (by omega)]
      rfl
/-- the cells while a number is put in at p: up to q they have it -/
def PutAt (r : List Int) (p q : Nat) (x : Int) (cs : List Int) : Prop := cs.length = r.length + 1 ∧ 0 < q ∧ (∀ k, q ≤ k → (Cov k p ↔ Cov k q)) ∧ ∀ k, k ≤ r.length → cs[k]? = ((cellsOf r)[k]?).map fun c => c + if 0 < k ∧ k < q ∧ Cov k p then x else 0
theorem putAt_first (r : List Int) (p : Nat) (x : Int) (h : 0 < p) : PutAt r p p x (cellsOf r) := by
  refine ⟨cellsOf_len r, h, fun k _ => Iff.rfl, fun k hk => ?_⟩
  have : ∀ c : Int, c + (if 0 < k ∧ k < p ∧ Cov k p then x else 0) = c := fun c => by
    rw [if_neg]
    · omega
    · rintro ⟨h1, h2, h3⟩
      have := h3.2
      omega
  simp [this]
theorem putAt_step {r : List Int} {p q : Nat} {x : Int} {cs : List Int} (h : PutAt r p q x cs) (hq : q ≤ r.length) : ∃ c, cs[q]? = some c ∧ PutAt r p (q + lw q) x (cs.set q (c + x)) := by
  obtain ⟨h1, h2, h3, h4⟩ := h
  have hl := lw_pos q h2
  have hc := h4 q hq
  rw [cellsOf_get r q h2 hq, Option.map_some, if_neg (by omega), Int.add_zero] at hc
  refine ⟨_, hc, by simpa using h1, by omega, fun k hk => ?_, fun k hk => ?_⟩
  · rw [h3 k (by omega), cov_next (k + q) k q (Nat.le_refl _) h2 (by omega)]
  · by_cases e : k = q
    · subst e
      rw [List.getElem?_set_self (by omega), cellsOf_get r k h2 hq, Option.map_some, if_pos ⟨h2, by omega, (h3 k (Nat.le_refl _)).mpr (cov_self k h2)⟩]
    · rw [List.getElem?_set_ne (Ne.symm e), h4 k hk]
      have : (0 < k ∧ k < q ∧ Cov k p) ↔ (0 < k ∧ k < q + lw q ∧ Cov k p) := by
        constructor
        · rintro ⟨a, b, c⟩; exact ⟨a, by omega, c⟩
        · rintro ⟨a, b, c⟩
          refine ⟨a, ?_, c⟩
          rcases Nat.lt_or_ge k q with z | z
          · exact z
          · have z1 := (h3 k z).mp c
            have z2 := (cov_next (k + q) k q (Nat.le_refl _) h2 (by omega)).mp z1
            have := z2.2
            omega
      simp only [this]
theorem putAt_last {r : List Int} {p q : Nat} {x : Int} {cs : List Int} (h : PutAt r (p + 1) q x cs) (hq : r.length < q) (hp : p < r.length) : cs = cellsOf (r.set p (r[p] + x)) := by
  obtain ⟨h1, h2, h3, h4⟩ := h
  apply List.ext_getElem?
  intro k
  by_cases hk : k ≤ r.length
  · rw [h4 k hk]
    cases k with
    | zero => simp [cellsOf]
    | succ k =>
      rw [cellsOf_get r _ (by omega) hk, cellsOf_get _ _ (by omega) (by simpa using hk), cell_set r p _ x hp (by omega), Option.map_some]
      simp only [show (0 < k + 1 ∧ k + 1 < q ∧ Cov (k + 1) (p + 1)) ↔ Cov (k + 1) (p + 1) from ⟨fun z => z.2.2, fun z => ⟨by omega, by omega, z⟩⟩]
  · rw [List.getElem?_eq_none (by omega), List.getElem?_eq_none (by rw [cellsOf_len]; simp; omega)]
theorem cutU {f : Int → D} {r : List Int} {a b : Nat} (h : a ≤ b) (hb : b ≤ r.length) : Pd.cutD (r.map f) (some (a : Int)) (some (b : Int)) = ((r.drop a).take (b - a)).map f := by
  unfold Pd.cutD
  rw [HT.sIx_nat, HT.sIx_nat, List.length_map, Nat.min_eq_left hb, Nat.min_eq_left (Nat.le_trans h hb), ← List.map_drop, ← List.map_take]
theorem sumU {r : List Int} {a b : Nat} (h : a ≤ b) (hb : b ≤ r.length) : ints? (Pd.cutD (r.map .int) (some (a : Int)) (some (b : Int))) = some ((r.drop a).take (b - a)) := by
  rw [cutU h hb, Pd.B.ints_map]
theorem mod_int (k m : Nat) : ((k : Int) % (2 * (m : Int))) = ((k % (2 * m) : Nat) : Int) := by
  push_cast
  rfl

/-! trees of sums: what their methods do -/
@[simp] theorem ix_many0 : ixOf "many" [] = none := rfl
@[simp] theorem ix_cells0 : ixOf "cells" ["many"] = none := by decide +kernel
@[simp] theorem ix_many : ixOf "many" ["many", "cells"] = some 0 := by decide +kernel
@[simp] theorem ix_cells : ixOf "cells" ["many", "cells"] = some 1 := by decide +kernel
/-- a tree of the row r -/
def trS (t : Option Nat) (r : List Int) : Sl := .ob t "SumTree" ["many", "cells"] [.p (.int (r.length : Nat)), .ml none ((cellsOf r).map .int)]
@[simp] theorem trS_bare {t : Option Nat} {r : List Int} : (trS t r).bare = trS none r := rfl
@[simp] theorem trS_mark {t : Option Nat} {r : List Int} {k : Nat} : (trS t r).mark k = trS (some k) r := rfl
@[simp] theorem trS_retag {t t' : Option Nat} {r : List Int} : (trS t r).retag t' = trS t' r := rfl
@[simp] theorem trS_tag {t : Option Nat} {r : List Int} : (trS t r).tag = t := rfl
@[simp] theorem slotQ_tr {i : Nat} {ρ : Pd.Env} {Q : Rs → Pd.Env → Prop} {t : Option Nat} {r : List Int} : slotQ i ρ Q (some (some (trS t r))) = Q (.bor i) ρ := rfl
@[simp] theorem chk_need_between {t : Option Nat} {r : List Int} : Pd.B.chkO "SumTree" "need_between" (some (trS t r)) = True := eq_true ⟨rfl, by decide +kernel⟩
@[simp] theorem chk_put_to {t : Option Nat} {r : List Int} : Pd.B.chkO "SumTree" "put_to" (some (trS t r)) = True := eq_true ⟨rfl, by decide +kernel⟩
@[simp] theorem chk_cells_now {t : Option Nat} {r : List Int} : Pd.B.chkO "SumTree" "cells_now" (some (trS t r)) = True := eq_true ⟨rfl, by decide +kernel⟩
@[simp] theorem chk_row_now {t : Option Nat} {r : List Int} : Pd.B.chkO "SumTree" "row_now" (some (trS t r)) = True := eq_true ⟨rfl, by decide +kernel⟩
@[simp] theorem chk_sum_of_first {t : Option Nat} {r : List Int} : Pd.B.chkO "SumTree" "sum_of_first" (some (trS t r)) = True := eq_true ⟨rfl, by decide +kernel⟩
@[simp] theorem chk_sum_from_to {t : Option Nat} {r : List Int} : Pd.B.chkO "SumTree" "sum_from_to" (some (trS t r)) = True := eq_true ⟨rfl, by decide +kernel⟩
@[simp] theorem chk_number_at {t : Option Nat} {r : List Int} : Pd.B.chkO "SumTree" "number_at" (some (trS t r)) = True := eq_true ⟨rfl, by decide +kernel⟩
@[simp] theorem chk_least_many {t : Option Nat} {r : List Int} : Pd.B.chkO "SumTree" "least_many" (some (trS t r)) = True := eq_true ⟨rfl, by decide +kernel⟩
@[simp] theorem endE_tr {k : Nat} {ρ : Pd.Env} {t : Option Nat} {r : List Int} {s : List Sl} : endE k (trS t r :: s) ρ = Pd.B.slotE k (endE (k + 1) s ρ) ρ[k]? := Pd.B.endE_ob
@[simp] theorem attr_many {i : Nat} {ρ : Pd.Env} {Q : Rs → Pd.Env → Prop} {t : Option Nat} {r : List Int} : attrQ "SumTree" "many" i ρ Q (some (some (trS t r))) = Q (.own (.p (.int (r.length : Nat)))) ρ := by
  unfold trS
  simp -dsimp
theorem spec_tree (n : Nat) (hn : n ≤ 1000) (Q : Sl → List Sl → Prop) : Sp m_SumTree___init__ [.ob none "SumTree" [] [], .p (.int (n : Nat))] Q ↔ Q (.p .none) [trS none (List.replicate n 0), .p (.int (n : Nat))] := by
  refine sp_iff ?_ Q
  unfold m_SumTree___init__
  rw [sp_mkF]
  simp -dsimp [g_SumTree___init__, setAt]
  refine ⟨⟨by omega, by omega, by omega⟩, ?_⟩
  unfold trS
  rw [cellsOf_zero, List.length_replicate, List.map_replicate]
  rfl
theorem spec_lowest (k : Nat) (hk : 0 < k) (Q : Sl → List Sl → Prop) : Sp m_lowest_bit [.p (.int (k : Nat))] Q ↔ Q (.p (.int (lw k : Nat))) [.p (.int (k : Nat))] := by
  refine sp_iff ?_ Q
  unfold m_lowest_bit
  rw [sp_mkF]
  simp -dsimp [g_lowest_bit, lw_bit k hk]
theorem spec_between (r : List Int) (a b : Int) (h1 : b ≤ a) (h2 : a ≤ r.length) (Q : Sl → List Sl → Prop) : Sp m_SumTree_need_between [trS none r, .p (.int a), .p (.int b)] Q ↔ Q (.p .none) [trS none r, .p (.int a), .p (.int b)] := by
  refine sp_iff ?_ Q
  unfold m_SumTree_need_between
  rw [sp_mkF]
  simp -dsimp [g_SumTree_need_between, trS, h1, h2]
def PuT (r : List Int) (p : Nat) (x : Int) (n : Nat) (ρ : Pd.Env) : Prop := ∃ (q : Nat) (cs : List Int), PutAt r (p + 1) q x cs ∧ n = r.length + 1 - q ∧ ρ = [some (.ob (some 0) "SumTree" ["many", "cells"] [.p (.int (r.length : Nat)), .ml none (cs.map .int)]), some (.p (.int (q : Nat))), some (.p (.int x))]
theorem spec_put (r : List Int) (p : Nat) (x : Int) (hp : p < r.length) (hn : r.length ≤ 1000) (Q : Sl → List Sl → Prop) :
    Sp m_SumTree_put_to [trS none r, .p (.int ((p : Int) + 1)), .p (.int x)] Q ↔ Q (.p .none) [trS none (r.set p (r[p] + x)), .p (.int ((p : Int) + 1)), .p (.int x)] := by
  refine sp_iff ?_ Q
  unfold m_SumTree_put_to
  rw [sp_mkF]
  simp -dsimp [g_SumTree_put_to]
  rw [spec_between r _ _ (by omega) (by omega)]
  simp -dsimp
  refine ev_while (PuT r p x) (r.length + 1 - (p + 1)) (by show _ < 1000000000; omega) ⟨p + 1, cellsOf r, putAt_first r (p + 1) x (by omega), rfl, rfl⟩ ?_
  rintro m ρ ⟨q, cs, h, hm, rfl⟩
  have hq := h.2.1
  by_cases e : q ≤ r.length
  · have e' : (q : Int) ≤ (r.length : Int) := by omega
    obtain ⟨c, hc, hs⟩ := putAt_step h e
    have hl := lw_pos q hq
    simp -dsimp [e']
    refine ⟨by omega, ?_⟩
    refine Pd.B.ev_augL (x := c) rfl rfl (by omega) (by simpa using hc) ?_
    simp -dsimp
    refine (spec_lowest q hq _).mpr ?_
    simp -dsimp
    exact ⟨r.length + 1 - (q + lw q), by omega, q + lw q, _, hs, rfl, by simp [List.map_set]⟩
  · have e' : ¬ (q : Int) ≤ (r.length : Int) := by omega
    simp -dsimp [e']
    unfold trS
    rw [← putAt_last h (by omega) hp, List.length_set]

theorem cells_tail (r : List Int) : (cellsOf r).tail = (List.range r.length).map fun i => cellOf r (i + 1) := rfl
def ctl (r : List Int) : List Int := (List.range r.length).map fun i => cellOf r (i + 1)
theorem ctl_len (r : List Int) : (ctl r).length = r.length := by simp [ctl]
@[simp ↓] theorem spec_cells_now (r : List Int) (hn : r.length ≤ 1000) (Q : Sl → List Sl → Prop) : Sp m_SumTree_cells_now [trS none r] Q ↔ Q (.p (.tuple ((ctl r).map .int))) [trS none r] := by
  refine sp_iff ?_ Q
  unfold m_SumTree_cells_now
  rw [sp_mkF]
  have e : Pd.cutD ((cellsOf r).map PyData.int) (some 1) none = (ctl r).map .int := by
    unfold Pd.cutD cellsOf ctl HT.sIx
    simp
    exact List.take_of_length_le (by simp)
  simp -dsimp [g_SumTree_cells_now, trS, e]

theorem first_step (r : List Int) (q : Nat) (hq : 0 < q) : cellOf r q + (r.take (q - lw q)).sum = (r.take q).sum := by
  have := lw_pos q hq
  unfold cellOf
  rw [seg_take _ _ _ (by omega)]
  omega
def FiT (r : List Int) (m : Nat) (n : Nat) (ρ : Pd.Env) : Prop := ∃ (q : Nat) (t : Int), n = q ∧ q ≤ r.length ∧ t + (r.take q).sum = (r.take m).sum ∧ ρ = [some (trS (some 0) r), some (.p (.int (q : Nat))), some (.p (.int t))]
@[simp ↓] theorem spec_sum_of_first (r : List Int) (m : Nat) (hm : m ≤ r.length) (hn : r.length ≤ 1000) (Q : Sl → List Sl → Prop) :
    Sp m_SumTree_sum_of_first [trS none r, .p (.int (m : Nat))] Q ↔ Q (.p (.int (r.take m).sum)) [trS none r, .p (.int (m : Nat))] := by
  refine sp_iff ?_ Q
  unfold m_SumTree_sum_of_first
  rw [sp_mkF]
  simp -dsimp [g_SumTree_sum_of_first]
  rw [spec_between r _ _ (by omega) (by omega)]
  simp -dsimp
  refine ev_while (FiT r m) m (by show _ < 1000000000; omega) ⟨m, 0, rfl, hm, by omega, rfl⟩ ?_
  rintro q ρ ⟨_, t, rfl, hq, ht, rfl⟩
  by_cases e : 0 < q
  · have hl := lw_pos q e
    have hc : atI ((cellsOf r).map PyData.int) ((q : Nat) : Int) = some (.int (cellOf r q)) := by
      refine Pd.B.atI_of rfl ?_
      rw [List.getElem?_map, cellsOf_get r q e hq]
      rfl
    simp -dsimp [trS, e, hc]
    refine (spec_lowest q e _).mpr ?_
    simp -dsimp
    have := first_step r q e
    exact ⟨q - lw q, by omega, q - lw q, t + cellOf r q, rfl, by omega, by omega, by rw [show ((q : Int) - (lw q : Nat)) = ((q - lw q : Nat) : Int) by omega]; rfl⟩
  · have : q = 0 := by omega
    subst this
    simp -dsimp
    simpa using ht
theorem seg_none (r : List Int) (a b : Nat) (h : b ≤ a) : seg r a b = 0 := by
  unfold seg
  rw [show b - a = 0 by omega]
  rfl
@[simp ↓] theorem spec_sum_from_to (r : List Int) (a b : Nat) (ha : a < r.length) (hb : b < r.length) (hn : r.length ≤ 1000) (Q : Sl → List Sl → Prop) :
    Sp m_SumTree_sum_from_to [trS none r, .p (.int ((a : Int) + 1)), .p (.int ((b : Int) + 1))] Q ↔ Q (.p (.int (seg r a (b + 1)))) [trS none r, .p (.int ((a : Int) + 1)), .p (.int ((b : Int) + 1))] := by
  refine sp_iff ?_ Q
  unfold m_SumTree_sum_from_to
  rw [sp_mkF]
  simp -dsimp [g_SumTree_sum_from_to]
  rw [spec_between r _ _ (by omega) (by omega)]
  simp -dsimp
  rw [spec_between r _ _ (by omega) (by omega)]
  by_cases e : b < a
  · have e' : (b : Int) < (a : Int) := by omega
    simp -dsimp [e, e', seg_none r a (b + 1) (by omega)]
  · have e' : ¬ (b : Int) < (a : Int) := by omega
    simp -dsimp [e, e']
    rw [show ((b : Int) + 1) = ((b + 1 : Nat) : Int) by omega]
    have h1 : b + 1 ≤ r.length := by omega
    have h2 : a ≤ r.length := by omega
    simp -dsimp only [spec_sum_of_first r (b + 1) h1 hn]
    simp -dsimp [h2, hn]
    rw [seg_take _ _ _ (by omega)]
theorem seg_one (r : List Int) (a : Nat) (h : a < r.length) : seg r a (a + 1) = r[a] := by
  unfold seg
  rw [show a + 1 - a = 1 by omega, List.drop_eq_getElem_cons h, List.take_succ_cons, List.take_zero, List.sum_cons, List.sum_nil, Int.add_zero]
@[simp ↓] theorem spec_number_at (r : List Int) (a : Nat) (ha : a < r.length) (hn : r.length ≤ 1000) (Q : Sl → List Sl → Prop) :
    Sp m_SumTree_number_at [trS none r, .p (.int ((a : Int) + 1))] Q ↔ Q (.p (.int r[a])) [trS none r, .p (.int ((a : Int) + 1))] := by
  refine sp_iff ?_ Q
  unfold m_SumTree_number_at
  rw [sp_mkF]
  simp -dsimp [g_SumTree_number_at, ha, hn]
  exact seg_one r a ha
@[simp ↓] theorem spec_row_now (r : List Int) (hn : r.length ≤ 1000) (Q : Sl → List Sl → Prop) :
    Sp m_SumTree_row_now [trS none r] Q ↔ Q (.p (.tuple (r.map .int))) [trS none r] := by
  refine sp_iff ?_ Q
  unfold m_SumTree_row_now
  rw [sp_mkF]
  simp -dsimp [g_SumTree_row_now]
  refine ⟨by omega, ?_⟩
  have e : rngD 1 r.length = (List.range r.length).map fun (i : Nat) => PyData.int ((i : Int) + 1) := by
    unfold rngD
    exact List.map_congr_left fun i _ => by rw [Int.add_comm]
  rw [e]
  refine ev_comp_pure (fun (i : Nat) => PyData.int ((i : Int) + 1)) (fun i => .int (r.getD i 0)) (fun _ => true) (by rw [Pd.B.sizeLine_eq]; simp; omega) (fun i hi => ?_) ?_
  · have hi' : i < r.length := by simpa using hi
    have hg : r.getD i 0 = r[i] := by rw [List.getD_eq_getElem?_getD, List.getElem?_eq_getElem hi']; rfl
    simp -dsimp [tgName, hi', hn, hg]
  · intro ρ1 hw
    have hm : (List.range r.length).map (fun i => PyData.int (r[i]?.getD 0)) = r.map .int := by
      apply List.ext_getElem?
      intro k
      rw [List.getElem?_map, List.getElem?_map]
      by_cases h : k < r.length
      · rw [List.getElem?_range h, List.getElem?_eq_getElem h, Option.map_some, Option.map_some, List.getElem?_eq_getElem h]
        rfl
      · rw [List.getElem?_eq_none (by simpa using h), List.getElem?_eq_none (by omega)]
        rfl
    simp -dsimp [hw, filter_yes, hm]

def pre (r : List Int) (k : Nat) : Int := (r.take k).sum
theorem lw_at (i m : Nat) : lw (2 ^ (i + 1) * m + 2 ^ i) = 2 ^ i := by
  induction i with
  | zero => simpa using lw_odd m
  | succ i ih =>
    have hp : 0 < 2 ^ i := Nat.pow_pos (by omega)
    rw [show 2 ^ (i + 1 + 1) * m + 2 ^ (i + 1) = 2 * (2 ^ (i + 1) * m + 2 ^ i) by rw [Nat.pow_succ 2 (i + 1), Nat.pow_succ 2 i, Nat.mul_add, Nat.mul_comm (2 ^ i * 2) 2, ← Nat.mul_assoc]; simp [Nat.mul_comm]; exact Nat.mul_left_comm .., lw_even _ (by omega), ih]
    rw [Nat.pow_succ]; omega
theorem pre_mono {r : List Int} (h : ∀ x ∈ r, 0 ≤ x) : ∀ {a b : Nat}, a ≤ b → pre r a ≤ pre r b := by
  intro a b hab
  unfold pre
  have e : r.take b = r.take a ++ (r.drop a).take (b - a) := by
    rw [← List.take_append_drop a (r.take b), List.take_take, List.drop_take, Nat.min_eq_left hab]
  rw [e, List.sum_append]
  have : ∀ l : List Int, (∀ x ∈ l, 0 ≤ x) → 0 ≤ l.sum := fun l => by
    induction l with
    | nil => intro _; simp
    | cons x l ih =>
      intro hl
      have := ih fun y hy => hl y (List.mem_cons_of_mem _ hy)
      have := hl x (List.mem_cons_self ..)
      rw [List.sum_cons]; omega
  have := this ((r.drop a).take (b - a)) fun x hx => h x (List.mem_of_mem_drop (List.mem_of_mem_take hx))
  omega
theorem cell_pre (r : List Int) (k : Nat) (hk : 0 < k) : cellOf r k = pre r k - pre r (k - lw k) := by
  have := lw_pos k hk
  unfold cellOf pre
  rw [seg_take _ _ _ (by omega)]
/-- the least how many of which the sum is no less -/
def lst (r : List Int) (x : Int) : Option Nat := (List.range (r.length + 1)).find? fun k => decide (x ≤ pre r k)
def natS : Option Nat → Sl
  | some k => .p (.int (k : Nat))
  | none => .p .none
theorem lst_some {r : List Int} {x : Int} {k : Nat} (hk : k ≤ r.length) (h1 : x ≤ pre r k) (h2 : ∀ j, j < k → pre r j < x) : lst r x = some k := by
  unfold lst
  rw [List.find?_range_eq_some]
  refine ⟨by simpa using h1, by simpa using (by omega : k < r.length + 1), fun j hj => ?_⟩
  have := h2 j hj
  simp; omega
theorem lst_none {r : List Int} {x : Int} (h : ∀ k, k ≤ r.length → pre r k < x) : lst r x = none := by
  unfold lst
  rw [List.find?_range_eq_none]
  intro j hj
  have := h j (by omega)
  simp; omega
/-- the going down by halves: W is what is left open above place -/
structure Lm (r : List Int) (x : Int) (step place W : Nat) : Prop where
  w : W = 2 * step ∨ (W = 1 ∧ step = 0)
  pw : ∃ j, W = 2 ^ j
  dv : ∃ m, place = W * m
  le : place ≤ r.length
  lo : place = 0 ∨ pre r place < x
  hi : r.length < place + W ∨ x ≤ pre r (place + W)
theorem Lm.down {r : List Int} {x : Int} {step place W : Nat} (h : Lm r x step place W) (hs : 0 < step) : lw (place + step) = step ∧
    ((place + step ≤ r.length ∧ pre r (place + step) < x) → Lm r x (step / 2) (place + step) step) ∧
    (¬ (place + step ≤ r.length ∧ pre r (place + step) < x) → Lm r x (step / 2) place step) := by
  obtain ⟨w, ⟨j, pw⟩, ⟨m, dv⟩, le, lo, hi⟩ := h
  have hW : W = 2 * step := by omega
  obtain ⟨i, rfl⟩ : ∃ i, j = i + 1 := by
    cases j with
    | zero => rw [Nat.pow_zero] at pw; omega
    | succ i => exact ⟨i, rfl⟩
  have hst : step = 2 ^ i := by rw [Nat.pow_succ] at pw; omega
  have hhalf : step = 2 * (step / 2) ∨ (step = 1 ∧ step / 2 = 0) := by
    cases i with
    | zero => rw [Nat.pow_zero] at hst; omega
    | succ i => rw [Nat.pow_succ] at hst; omega
  refine ⟨?_, fun hc => ⟨hhalf, ⟨i, hst⟩, ⟨2 * m + 1, ?_⟩, hc.1, Or.inr hc.2, ?_⟩, fun hc => ⟨hhalf, ⟨i, hst⟩, ⟨2 * m, ?_⟩, le, lo, ?_⟩⟩
  · rw [dv, pw, hst]
    exact lw_at i m
  · rw [dv, hW, Nat.mul_add, Nat.mul_one, Nat.mul_comm 2 step, Nat.mul_assoc]
  · rw [show place + step + step = place + W by omega]
    exact hi
  · rw [dv, hW, Nat.mul_comm 2 step, Nat.mul_assoc]
  · by_cases e : place + step ≤ r.length
    · have : ¬ pre r (place + step) < x := fun h => hc ⟨e, h⟩
      exact Or.inr (by omega)
    · exact Or.inl (by omega)
theorem Lm.last {r : List Int} {x : Int} {place W : Nat} (hr : ∀ y ∈ r, 0 ≤ y) (h : Lm r x 0 place W) : (x - pre r place ≤ 0 → lst r x = some place) ∧ (¬ x - pre r place ≤ 0 → place < r.length → lst r x = some (place + 1)) ∧ (¬ x - pre r place ≤ 0 → ¬ place < r.length → lst r x = none) := by
  obtain ⟨w, ⟨j, pw⟩, ⟨m, dv⟩, le, lo, hi⟩ := h
  have hp : 0 < W := by rw [pw]; exact Nat.pow_pos (by omega)
  have hW : W = 1 := by omega
  subst hW
  refine ⟨fun hc => ?_, fun hc hl => ?_, fun hc hl => ?_⟩
  · have : place = 0 := by
      rcases lo with h | h
      · exact h
      · omega
    subst this
    exact lst_some (Nat.zero_le _) (by omega) (fun j hj => by omega)
  · refine lst_some (by omega) ?_ fun j hj => ?_
    · rcases hi with h | h
      · omega
      · exact h
    · have := pre_mono hr (a := j) (b := place) (by omega)
      omega
  · refine lst_none fun k hk => ?_
    have := pre_mono hr (a := k) (b := place) (by omega)
    omega
def LsT (r : List Int) (x : Int) (n : Nat) (ρ : Pd.Env) : Prop := ∃ (st : Nat), (∃ i, st = 2 ^ i) ∧ (st ≤ r.length ∨ st = 1) ∧ n = r.length + 1 - st ∧ ρ = [some (trS (some 0) r), some (.p (.int x)), some (.p (.int (st : Nat))), none, none]
def LdT (r : List Int) (x : Int) (n : Nat) (ρ : Pd.Env) : Prop := ∃ (st pl W : Nat), Lm r x st pl W ∧ n = st ∧ ρ = [some (trS (some 0) r), some (.p (.int x)), some (.p (.int (st : Nat))), some (.p (.int (pl : Nat))), some (.p (.int (x - pre r pl)))]
theorem spec_least (r : List Int) (x : Int) (hr : ∀ y ∈ r, 0 ≤ y) (hn : r.length ≤ 1000) (Q : Sl → List Sl → Prop) :
    Sp m_SumTree_least_many [trS none r, .p (.int x)] Q ↔ Q (natS (lst r x)) [trS none r, .p (.int x)] := by
  refine sp_iff ?_ Q
  unfold m_SumTree_least_many
  rw [sp_mkF]
  simp -dsimp [g_SumTree_least_many]
  refine ev_while (LsT r x) r.length (by show _ < 1000000000; omega) ⟨1, ⟨0, rfl⟩, Or.inr rfl, by omega, rfl⟩ ?_
  rintro n ρ ⟨st, ⟨i, hi⟩, hs, rfl, rfl⟩
  have hpos : 0 < st := by rw [hi]; exact Nat.pow_pos (by omega)
  by_cases e : 2 * st ≤ r.length
  · have e' : (2 : Int) * (st : Int) ≤ (r.length : Int) := by omega
    simp -dsimp [e']
    exact ⟨cmul (by omega) (by omega), by omega, cmul (by omega) (by omega), r.length + 1 - 2 * st, by omega, 2 * st, ⟨i + 1, by rw [hi, Nat.pow_succ]; omega⟩, Or.inl e, rfl, by rw [show ((st : Int) * 2) = ((2 * st : Nat) : Int) by omega]⟩
  · have e' : ¬ (2 : Int) * (st : Int) ≤ (r.length : Int) := by omega
    simp -dsimp [e']
    refine ⟨cmul (by omega) (by omega), ?_⟩
    refine ev_while (LdT r x) st (by show _ < 1000000000; omega) ⟨st, 0, 2 * st, ⟨Or.inl rfl, ⟨i + 1, by rw [hi, Nat.pow_succ]; omega⟩, ⟨0, by simp⟩, Nat.zero_le _, Or.inl rfl, Or.inl (by omega)⟩, rfl, by simp [pre]⟩ ?_
    rintro n ρ ⟨_, pl, W, h, rfl, rfl⟩
    by_cases hst : 0 < n
    · obtain ⟨h1, h2, h3⟩ := h.down hst
      by_cases c1 : pl + n ≤ r.length
      · have c1' : (pl : Int) + (n : Int) ≤ (r.length : Int) := by omega
        have hc := cell_pre r (pl + n) (by omega)
        rw [h1, Nat.add_sub_cancel] at hc
        have hg : ∀ z : Int, z = ((pl + n : Nat) : Int) → atI ((cellsOf r).map PyData.int) z = some (.int (pre r (pl + n) - pre r pl)) := fun z hz => Pd.B.atI_of hz (by rw [List.getElem?_map, cellsOf_get r _ (by omega) c1, hc]; rfl)
        have hg1 := hg ((pl : Int) + (n : Int)) (by omega)
        by_cases c2 : pre r (pl + n) < x
        · have c2' : pre r (pl + n) - pre r pl < x - pre r pl := by omega
          simp -dsimp [hst, c1', trS, hg1, c2']
          exact ⟨cdiv (by omega) (by omega), n / 2, by omega, n / 2, pl + n, n, h2 ⟨c1, c2⟩, rfl, by rw [show x - pre r pl - (pre r (pl + n) - pre r pl) = x - pre r (pl + n) by omega]; rfl⟩
        · have c2' : ¬ pre r (pl + n) - pre r pl < x - pre r pl := by omega
          simp -dsimp [hst, c1', trS, hg1, c2']
          exact ⟨cdiv (by omega) (by omega), n / 2, by omega, n / 2, pl, n, h3 (fun z => c2 z.2), rfl, rfl⟩
      · have c1' : ¬ (pl : Int) + (n : Int) ≤ (r.length : Int) := by omega
        simp -dsimp [hst, c1']
        exact ⟨cdiv (by omega) (by omega), n / 2, by omega, n / 2, pl, n, h3 (fun z => c1 z.1), rfl, rfl⟩
    · have : n = 0 := by omega
      subst this
      obtain ⟨l1, l2, l3⟩ := h.last hr
      by_cases c1 : x - pre r pl ≤ 0
      · rw [l1 c1]
        simp -dsimp [c1, natS]
      · by_cases c2 : pl < r.length
        · have c2' : (pl : Int) < (r.length : Int) := by omega
          rw [l2 c1 c2]
          simp -dsimp [c1, c2', natS]
        · have c2' : ¬ (pl : Int) < (r.length : Int) := by omega
          rw [l3 c1 c2]
          simp -dsimp [c1, c2', natS]

@[simp] theorem ixN_4_0 : ixN 4 0 = some 0 := rfl
@[simp] theorem ixN_4_1 : ixN 4 1 = some 1 := rfl
@[simp] theorem ixN_4_2 : ixN 4 2 = some 2 := rfl
@[simp] theorem ixN_4_3 : ixN 4 3 = some 3 := rfl
def SeedOk (C : Int) (ds : List D) : Prop := ∃ a f n s : Int, ds = [.int a, .int f, .int n, .int s] ∧ 0 ≤ a ∧ 0 ≤ n ∧ n ≤ C ∧ 0 ≤ s ∧ s < 1999999913
theorem SeedOk.mono {C C' : Int} {ds : List D} (h : SeedOk C ds) (hb : C ≤ C') : SeedOk C' ds := by
  obtain ⟨a, f, n, s, h1, h2, h3, h4, h5, h6⟩ := h
  exact ⟨a, f, n, s, h1, h2, h3, by omega, h5, h6⟩
theorem spec_draw {ds : List D} {most C : Int} {Q : Sl → List Sl → Prop} (hd : SeedOk C ds) (h0 : 0 < most) (hm : most < 2 ^ 64) (hC : C < 2 ^ 60)
    (k : ∀ v ds', SeedOk (C + 1) ds' → 0 ≤ v → v < most → Q (.p (.int v)) [.ml none ds', .p (.int most)]) : Sp m_law_draw [.ml none ds, .p (.int most)] Q := by
  obtain ⟨a, f, n, s, rfl, ha, hn0, hn, hs0, hs⟩ := hd
  unfold m_law_draw
  rw [sp_mkF]
  by_cases e : f = 1 ∧ 0 < a
  · simp -dsimp [g_law_draw, e.1, e.2]
    exact ⟨h0, cdiv h0 (by omega), k _ _ ⟨_, _, _, _, rfl, Int.ediv_nonneg (by omega) (by omega), by omega, by omega, hs0, hs⟩ (Int.emod_nonneg _ (by omega)) (Int.emod_lt_of_pos _ h0)⟩
  · have e' : ¬ (f = 1) ∨ ¬ (0 < a) := by omega
    have fin : CMulW 6997 (n + 1) ∧ CMulW (s + 6997 * (n + 1) + 11) 48271 := ⟨cmul (by omega) (by omega), cmul (by omega) (by omega)⟩
    rcases e' with e' | e'
    · simp -dsimp [g_law_draw, e']
      exact ⟨fin.1, fin.2, cmul (by omega) (by omega), cmul (by omega) (by omega), cdiv (by omega) (by omega), h0, k _ _ ⟨_, _, _, _, rfl, ha, by omega, by omega, hs0, hs⟩ (Int.emod_nonneg _ (by omega)) (Int.emod_lt_of_pos _ h0)⟩
    · by_cases e1 : f = 1
      · simp -dsimp [g_law_draw, e', e1]
        exact ⟨fin.1, fin.2, cmul (by omega) (by omega), cmul (by omega) (by omega), cdiv (by omega) (by omega), h0, k _ _ ⟨_, _, _, _, rfl, ha, by omega, by omega, hs0, hs⟩ (Int.emod_nonneg _ (by omega)) (Int.emod_lt_of_pos _ h0)⟩
      · simp -dsimp [g_law_draw, e', e1]
        exact ⟨fin.1, fin.2, cmul (by omega) (by omega), cmul (by omega) (by omega), cdiv (by omega) (by omega), h0, k _ _ ⟨_, _, _, _, rfl, ha, by omega, by omega, hs0, hs⟩ (Int.emod_nonneg _ (by omega)) (Int.emod_lt_of_pos _ h0)⟩
theorem spec_seed {c : Int} {Q : Sl → List Sl → Prop} (k : ∀ ds, SeedOk 0 ds → Q (.ml none ds) [.p (.int c)]) : Sp m_law_seed [.p (.int c)] Q := by
  unfold m_law_seed
  rw [sp_mkF]
  simp -dsimp [g_law_seed]
  exact k _ ⟨_, _, _, _, rfl, by omega, by omega, by omega, by omega, by omega⟩
def FoI (ns : List Int) (ρ : Pd.Env) : Prop := ∃ (v : Int) (x2 : Option Sl), 0 ≤ v ∧ v < 2147483647 ∧ ρ = [some (.p (.list (ns.map .int))), some (.p (.int v)), x2]
theorem spec_folded {ns : List Int} {Q : Sl → List Sl → Prop} (hl : ns.length ≤ 63) (k : ∀ v, Q (.p (.int v)) [.p (.list (ns.map .int))]) : Sp m_law_folded [.p (.list (ns.map .int))] Q := by
  unfold m_law_folded
  rw [sp_mkF]
  simp -dsimp [g_law_folded]
  refine ev_loop (fun _ ρ => FoI ns ρ) ⟨(ns.length : Int), none, by omega, by omega, rfl⟩ ?_ ?_
  · rintro done d r ρ ha ⟨v, x2, h1, h2, rfl⟩
    obtain ⟨x, hx, rfl, hdn, hxm⟩ := map_at ha
    simp -dsimp [tgName]
    exact ⟨cmul (by omega) (by omega), _, _, by omega, by omega, rfl⟩
  · rintro ρ ⟨v, x2, h1, h2, rfl⟩
    simp -dsimp
    exact k v
theorem spec_number {ds : List D} {way C : Int} {Q : Sl → List Sl → Prop} (hd : SeedOk C ds) (hC : C < 2 ^ 59)
    (k : ∀ v ds', SeedOk (C + 4) ds' → -9999999999 ≤ v → v ≤ 9999999999 → Q (.p (.int v)) [.ml none ds', .p (.int way)]) : Sp m_law_number [.ml none ds, .p (.int way)] Q := by
  unfold m_law_number
  rw [sp_mkF]
  by_cases e0 : way = 0
  · subst e0
    simp -dsimp [g_law_number]
    refine spec_draw hd (by omega) (by omega) (by omega) fun v d1 h1 a1 b1 => ?_
    simp -dsimp
    exact k _ _ (h1.mono (by omega)) (by omega) (by omega)
  · by_cases e1 : way = 1
    · subst e1
      simp -dsimp [g_law_number]
      refine spec_draw hd (by omega) (by omega) (by omega) fun v d1 h1 a1 b1 => ?_
      simp -dsimp
      exact k _ _ (h1.mono (by omega)) (by omega) (by omega)
    · simp -dsimp [g_law_number, e0, e1]
      refine spec_draw hd (by omega) (by omega) (by omega) fun v d1 h1 a1 b1 => ?_
      simp -dsimp
      refine ⟨cmul (by omega) (by omega), ?_⟩
      refine spec_draw h1 (by omega) (by omega) (by omega) fun w d2 h2 a2 b2 => ?_
      simp -dsimp
      refine spec_draw h2 (by omega) (by omega) (by omega) fun u d3 h3 a3 b3 => ?_
      obtain ⟨g, hg, g0, g1⟩ : ∃ g : Int, atI [PyData.int (v * 100000 + w), PyData.int 9999999999] (if u = 0 then 1 else 0) = some (.int g) ∧ -9999999999 ≤ g ∧ g ≤ 9999999999 := by
        by_cases hu : u = 0
        · rw [if_pos hu]; exact ⟨_, rfl, by omega, by omega⟩
        · rw [if_neg hu]; exact ⟨_, rfl, by omega, by omega⟩
      simp -dsimp [hg]
      refine spec_draw h3 (by omega) (by omega) (by omega) fun t d4 h4 a4 b4 => ?_
      rcases (by omega : t = 0 ∨ t = 1) with e | e <;> subst e <;> simp -dsimp
      · exact ⟨cmul (by omega) (by omega), k _ _ (h4.mono (by omega)) (by omega) (by omega)⟩
      · exact ⟨cmul (by omega) (by omega), k _ _ (h4.mono (by omega)) (by omega) (by omega)⟩

/-! ### dicts of data, in general -/
theorem valD_cons {p : Key × D} {l : List (Key × D)} {k : Key} : valD (p :: l) k = if p.1 = k then some p.2 else valD l k := by
  unfold valD
  rw [List.find?_cons]
  by_cases h : p.1 = k <;> simp [h]
@[simp] theorem valD_nil {k : Key} : valD [] k = none := rfl
theorem valD_app {l m : List (Key × D)} {k : Key} : valD (l ++ m) k = if (valD l k).isSome then valD l k else valD m k := by
  induction l with
  | nil => simp
  | cons p l ih =>
    rw [List.cons_append, valD_cons, valD_cons]
    by_cases h : p.1 = k
    · simp [h]
    · simp [h, ih]
theorem valD_none {l : List (Key × D)} {k : Key} : valD l k = none ↔ k ∉ l.map (·.1) := by
  induction l with
  | nil => simp
  | cons p l ih =>
    rw [valD_cons, List.map_cons, List.mem_cons]
    by_cases h : p.1 = k
    · simp [h]
    · rw [if_neg h, ih]
      constructor
      · intro q z
        rcases z with z | z
        · exact h z.symm
        · exact q z
      · intro q z
        exact q (Or.inr z)
theorem any_key {l : List (Key × D)} {k : Key} : (l.any fun kv => decide (kv.1 = k)) = true ↔ k ∈ l.map (·.1) := by
  rw [List.any_eq_true, List.mem_map]
  constructor
  · rintro ⟨x, h1, h2⟩; exact ⟨x, h1, of_decide_eq_true h2⟩
  · rintro ⟨x, h1, h2⟩; exact ⟨x, h1, decide_eq_true h2⟩
theorem putD_new {l : List (Key × D)} {k : Key} {d : D} (h : k ∉ l.map (·.1)) : putD l k d = l ++ [(k, d)] := by
  unfold putD
  rw [if_neg (fun z => h (any_key.mp z))]
theorem putD_keys {l : List (Key × D)} {k : Key} {d : D} (h : k ∈ l.map (·.1)) : (putD l k d).map (·.1) = l.map (·.1) := by
  unfold putD
  rw [if_pos (any_key.mpr h), List.map_map]
  refine List.map_congr_left fun x _ => ?_
  by_cases e : x.1 = k <;> simp [e]
theorem mergeD_new : ∀ {m l : List (Key × D)}, (l.map (·.1) ++ m.map (·.1)).Nodup → mergeD l m = l ++ m
  | [], l, _ => by simp [mergeD]
  | p :: m, l, h => by
    have hk : p.1 ∉ l.map (·.1) := by
      intro z
      rw [List.nodup_append] at h
      exact h.2.2 _ z _ (by simp) rfl
    show mergeD (putD l p.1 p.2) m = _
    rw [putD_new hk, mergeD_new (by simpa using h)]
    simp
theorem valD_mem : ∀ {l : List (Key × D)} {k : Key} {d : D}, (l.map (·.1)).Nodup → (k, d) ∈ l → valD l k = some d
  | [], _, _, _, h => by cases h
  | p :: l, k, d, hn, h => by
    rw [List.map_cons, List.nodup_cons] at hn
    rw [valD_cons]
    rcases List.mem_cons.mp h with h | h
    · rw [← h]; simp
    · have : p.1 ≠ k := fun z => hn.1 (by rw [z]; exact List.mem_map.mpr ⟨_, h, rfl⟩)
      rw [if_neg this]
      exact valD_mem hn.2 h
theorem hitsD_all {lb : List (Key × D)} : ∀ {la : List (Key × D)}, (∀ p ∈ la, ∃ e, valD lb p.1 = some e ∧ PyData.eqv p.2 e = true) → Pd.hitsD lb la = true
  | [], _ => rfl
  | p :: la, h => by
    obtain ⟨e, h1, h2⟩ := h p (by simp)
    unfold Pd.hitsD
    rw [h1]
    simp only [h2, Bool.true_and]
    exact hitsD_all fun q hq => h q (List.mem_cons_of_mem _ hq)
theorem eqD_perm {la lb : List (Key × D)} (hn : (lb.map (·.1)).Nodup) (hp : la.Perm lb) (hi : ∀ p ∈ la, PyData.eqv p.2 p.2 = true) : eqD la lb = true := by
  unfold eqD
  rw [hitsD_all (fun p hp' => ⟨p.2, valD_mem hn (hp.mem_iff.mp hp'), hi p hp'⟩)]
  simp [hp.length_eq]
theorem shal_ints {α : Type} {f : α → Key} {g : α → Int} {l : List α} : shal (l.map fun a => (f a, PyData.int (g a))) = true := by
  unfold shal
  rw [List.all_map, List.all_eq_true]
  intro x _
  show decide ((PyData.int (g x)).depth ≤ 40) = true
  simp [PyData.depth]
/-- pairs of names and data -/
theorem pairsD_s {α : Type} {f : α → Str} {g : α → D} : ∀ {l : List α}, pairsD (l.map fun a => .tuple [.str (f a), g a]) = some (l.map fun a => (.inr (f a), g a))
  | [] => rfl
  | a :: l => by
    rw [List.map_cons, pairsD]
    simp only [kOf]
    rw [pairsD_s (l := l)]
    rfl
theorem pairsD_i {α : Type} {f : α → Int} {g : α → D} : ∀ {l : List α}, pairsD (l.map fun a => .tuple [.int (f a), g a]) = some (l.map fun a => (.inl (f a), g a))
  | [] => rfl
  | a :: l => by
    rw [List.map_cons, pairsD]
    simp only [kOf]
    rw [pairsD_i (l := l)]
    rfl
theorem nodup_inr {α : Type} {f : α → Str} {l : List α} {g : α → D} (h : (l.map f).Nodup) : ((l.map fun a => ((Sum.inr (f a) : Key), g a)).map (·.1)).Nodup := by
  rw [List.map_map]
  have : (List.map ((fun x : Key × D => x.1) ∘ fun a => ((Sum.inr (f a) : Key), g a)) l) = (l.map f).map Sum.inr := by rw [List.map_map]; rfl
  rw [this]
  exact h.map _ fun a b e z => e (Sum.inr.inj z)
theorem nodup_inl {α : Type} {f : α → Int} {l : List α} {g : α → D} (h : (l.map f).Nodup) : ((l.map fun a => ((Sum.inl (f a) : Key), g a)).map (·.1)).Nodup := by
  rw [List.map_map]
  have : (List.map ((fun x : Key × D => x.1) ∘ fun a => ((Sum.inl (f a) : Key), g a)) l) = (l.map f).map Sum.inl := by rw [List.map_map]; rfl
  rw [this]
  exact h.map _ fun a b e z => e (Sum.inl.inj z)
/-- what a dict of names and ints holds -/
def wtOf (l : List (Key × D)) (x : Str) : Int := match valD l (.inr x) with
  | some (.int i) => i
  | _ => 0
def WtOk (l : List (Key × D)) (xs : List Str) : Prop := ∀ x ∈ xs, valD l (.inr x) = some (.int (wtOf l x))
theorem wtOk_map {α : Type} {f : α → Str} {g : α → Int} {l : List α} (h : (l.map f).Nodup) : WtOk (l.map fun a => (.inr (f a), .int (g a))) (l.map f) := by
  intro x hx
  obtain ⟨a, ha, rfl⟩ := List.mem_map.mp hx
  have := valD_mem (nodup_inr (g := fun a => PyData.int (g a)) h) (List.mem_map.mpr ⟨a, ha, rfl⟩)
  unfold wtOf
  rw [this]
theorem wtOf_map {α : Type} {f : α → Str} {g : α → Int} {l : List α} (h : (l.map f).Nodup) {a : α} (ha : a ∈ l) : wtOf (l.map fun a => (.inr (f a), .int (g a))) (f a) = g a := by
  have := valD_mem (nodup_inr (g := fun a => PyData.int (g a)) h) (List.mem_map.mpr ⟨a, ha, rfl⟩)
  unfold wtOf
  rw [this]

def fillR (r : List Int) (k : Nat) : List Int := r.take k ++ List.replicate (r.length - k) 0
theorem fillR_len {r : List Int} {k : Nat} (h : k ≤ r.length) : (fillR r k).length = r.length := by
  unfold fillR
  rw [List.length_append, List.length_take, List.length_replicate]
  omega
theorem fillR_zero {r : List Int} : fillR r 0 = List.replicate r.length 0 := by simp [fillR]
theorem fillR_all {r : List Int} : fillR r r.length = r := by simp [fillR]
theorem fillR_lo {r : List Int} {k i : Nat} (h : k ≤ r.length) (hi : i < k) (h1 : i < (fillR r k).length) : (fillR r k)[i] = r[i] := by
  have : (fillR r k)[i]? = some r[i] := by
    unfold fillR
    rw [List.getElem?_append_left (by simp; omega), List.getElem?_take, if_pos hi, List.getElem?_eq_getElem (by omega)]
  rw [List.getElem?_eq_getElem h1] at this
  exact Option.some.inj this
theorem fillR_hi {r : List Int} {k i : Nat} (h : k ≤ r.length) (hi : k ≤ i) (h1 : i < (fillR r k).length) : (fillR r k)[i] = 0 := by
  have hl := fillR_len h
  have : (fillR r k)[i]? = some 0 := by
    unfold fillR
    rw [List.getElem?_append_right (by simp; omega), List.getElem?_replicate, if_pos (by simp; omega)]
  rw [List.getElem?_eq_getElem h1] at this
  exact Option.some.inj this
theorem fillR_step {r : List Int} {k : Nat} (h : k < r.length) : ∃ hk : k < (fillR r k).length, (fillR r k).set k ((fillR r k)[k] + r[k]) = fillR r (k + 1) := by
  have hk : k < (fillR r k).length := by rw [fillR_len (by omega)]; exact h
  refine ⟨hk, ?_⟩
  rw [fillR_hi (by omega) (Nat.le_refl k) hk]
  refine List.ext_getElem (by rw [List.length_set, fillR_len (by omega), fillR_len (by omega)]) fun i h1 h2 => ?_
  have h1' := h1
  rw [List.length_set, fillR_len (by omega)] at h1'
  rw [List.getElem_set]
  by_cases e : k = i
  · subst e
    rw [if_pos rfl, fillR_lo (by omega) (by omega)]
    omega
  · rw [if_neg e]
    rcases Nat.lt_or_ge i k with c | c
    · rw [fillR_lo (by omega) c, fillR_lo (by omega) (by omega)]
    · rw [fillR_hi (by omega) c, fillR_hi (by omega) (by omega)]
def ToT (d : D) (r : List Int) (n : Nat) (ρ : Pd.Env) : Prop := ∃ x2 x3, ρ = [some (.p d), some (trS none (fillR r n)), x2, x3]
theorem spec_tree_ofT (r : List Int) (hn : r.length ≤ 1000) (Q : Sl → List Sl → Prop) : Sp m_law_tree_of [.p (.tuple (r.map .int))] Q ↔ Q (trS none r) [.p (.tuple (r.map .int))] := by
  refine sp_iff ?_ Q
  unfold m_law_tree_of
  rw [sp_mkF]
  simp -dsimp [g_law_tree_of]
  refine (spec_tree r.length hn _).mpr ?_
  simp -dsimp
  refine ev_loop (fun done ρ => ToT (.tuple (r.map .int)) r done.length ρ) ⟨none, none, by rw [show ([] : List D).length = 0 from rfl, fillR_zero]⟩ ?_ ?_
  · rintro done d rest ρ ha ⟨x2, x3, rfl⟩
    obtain ⟨t, ht, rfl, hdn⟩ := enumD_at ha
    obtain ⟨hk, hs⟩ := fillR_step hdn
    have et : t = r[done.length] := by rw [List.getElem?_eq_getElem hdn] at ht; exact (Option.some.inj ht).symm
    subst et
    simp -dsimp [tgTup, tgCons, tgNil, tgName]
    refine (spec_put (fillR r done.length) done.length r[done.length] hk (by rw [fillR_len (by omega)]; exact hn) _).mpr ?_
    simp -dsimp
    exact ⟨_, _, by rw [hs]⟩
  · rintro ρ ⟨x2, x3, rfl⟩
    rw [Pd.B.enumD_len, List.length_map, fillR_all]
    simp -dsimp
theorem spec_tree_ofL (r : List Int) (hn : r.length ≤ 1000) (Q : Sl → List Sl → Prop) : Sp m_law_tree_of [.p (.list (r.map .int))] Q ↔ Q (trS none r) [.p (.list (r.map .int))] := by
  refine sp_iff ?_ Q
  unfold m_law_tree_of
  rw [sp_mkF]
  simp -dsimp [g_law_tree_of]
  refine (spec_tree r.length hn _).mpr ?_
  simp -dsimp
  refine ev_loop (fun done ρ => ToT (.list (r.map .int)) r done.length ρ) ⟨none, none, by rw [show ([] : List D).length = 0 from rfl, fillR_zero]⟩ ?_ ?_
  · rintro done d rest ρ ha ⟨x2, x3, rfl⟩
    obtain ⟨t, ht, rfl, hdn⟩ := enumD_at ha
    obtain ⟨hk, hs⟩ := fillR_step hdn
    have et : t = r[done.length] := by rw [List.getElem?_eq_getElem hdn] at ht; exact (Option.some.inj ht).symm
    subst et
    simp -dsimp [tgTup, tgCons, tgNil, tgName]
    refine (spec_put (fillR r done.length) done.length r[done.length] hk (by rw [fillR_len (by omega)]; exact hn) _).mpr ?_
    simp -dsimp
    exact ⟨_, _, by rw [hs]⟩
  · rintro ρ ⟨x2, x3, rfl⟩
    rw [Pd.B.enumD_len, List.length_map, fillR_all]
    simp -dsimp
def CeT (r : List Int) (n : Nat) (ρ : Pd.Env) : Prop := ∃ (x2 : Option Sl), ρ = [some (.p (.tuple (r.map .int))), some (.ml none (((List.range n).map fun i => cellOf r (i + 1)).map .int)), x2]
@[simp ↓] theorem spec_law_cells (r : List Int) (hn : r.length ≤ 1000) (Q : Sl → List Sl → Prop) : Sp m_law_cells [.p (.tuple (r.map .int))] Q ↔ Q (.p (.tuple ((ctl r).map .int))) [.p (.tuple (r.map .int))] := by
  refine sp_iff ?_ Q
  unfold m_law_cells
  rw [sp_mkF]
  simp -dsimp [g_law_cells]
  refine ⟨by omega, ?_⟩
  refine ev_loop (fun done ρ => CeT r done.length ρ) ⟨none, rfl⟩ ?_ ?_
  · rintro done d rest ρ ha ⟨x2, rfl⟩
    obtain ⟨rfl, hdn⟩ := rngD_at ha
    have ek : (1 : Int) + (done.length : Int) = ((done.length + 1 : Nat) : Int) := by omega
    rw [ek]
    generalize hk : done.length + 1 = k
    have hkp : 0 < k := by omega
    have hl := lw_pos k hkp
    have hb := lw_bit k hkp
    have hsl := sumU (r := r) (a := k - lw k) (b := k) (by omega) (by omega)
    rw [show (((k - lw k : Nat) : Nat) : Int) = (k : Int) - (lw k : Nat) by omega] at hsl
    simp -dsimp [tgName, hb, hsl]
    refine ⟨by omega, some (.p (.int (k : Nat))), ?_⟩
    have hc : cellOf r (done.length + 1) = (List.take (k - (k - lw k)) (List.drop (k - lw k) r)).sum := by
      unfold cellOf seg
      rw [hk]
    rw [← hc, List.range_succ, List.map_append, List.map_append, List.map_map]
    rfl
  · rintro ρ ⟨x2, rfl⟩
    simp -dsimp [ctl]
theorem one_cut (r : List Int) (k : Nat) (h : k ≤ r.length) : ∃ l, ints? (Pd.cutD (r.map .int) (some (k : Int)) (some ((k : Int) + 1))) = some l ∧ pre r (k + 1) = pre r k + l.sum := by
  rcases Nat.lt_or_ge k r.length with c | c
  · refine ⟨(r.drop k).take (k + 1 - k), ?_, ?_⟩
    · have := sumU (r := r) (a := k) (b := k + 1) (by omega) (by omega)
      rw [show ((k + 1 : Nat) : Int) = (k : Int) + 1 by omega] at this
      exact this
    · unfold pre
      rw [List.take_succ_eq_append_getElem c, List.sum_append, show k + 1 - k = 1 by omega, List.drop_eq_getElem_cons c, List.take_succ_cons, List.take_zero]
  · refine ⟨[], ?_, ?_⟩
    · have : k = r.length := by omega
      subst this
      unfold Pd.cutD HT.sIx
      simp [show ¬ ((r.length : Int) + 1 < 0) by omega, show ¬ ((r.length : Int) < 0) by omega, ints?]
    · unfold pre
      rw [List.take_of_length_le (by omega), List.take_of_length_le c]
      simp
def LwT2 (r : List Int) (x : Int) (n : Nat) (ρ : Pd.Env) : Prop := ∃ (x3 : Option Sl), (∀ j, j < n → pre r j < x) ∧ ρ = [some (.p (.tuple (r.map .int))), some (.p (.int x)), some (.p (.int (pre r n))), x3]
theorem spec_law_least (r : List Int) (x : Int) (hn : r.length ≤ 1000) (Q : Sl → List Sl → Prop) : Sp m_law_least [.p (.tuple (r.map .int)), .p (.int x)] Q ↔ Q (natS (lst r x)) [.p (.tuple (r.map .int)), .p (.int x)] := by
  refine sp_iff ?_ Q
  unfold m_law_least
  rw [sp_mkF]
  simp -dsimp [g_law_least]
  refine ⟨by omega, ?_⟩
  refine ev_loopX (fun done ρ => LwT2 r x done.length ρ) ⟨none, fun j hj => absurd hj (Nat.not_lt_zero _), rfl⟩ ?_ ?_
  · rintro done d rest ρ ha ⟨x3, hlt, rfl⟩
    obtain ⟨rfl, hdn⟩ := rngD_at ha
    have hdn' : done.length ≤ r.length := by omega
    by_cases c : x ≤ pre r done.length
    · have hl : lst r x = some done.length := lst_some hdn' c hlt
      simp -dsimp [tgName, c, hl, natS]
    · obtain ⟨l, e1, e2⟩ := one_cut r done.length hdn'
      simp -dsimp [tgName, c, e1]
      refine ⟨_, fun j hj => ?_, by rw [e2]⟩
      rcases Nat.lt_or_ge j done.length with z | z
      · exact hlt j z
      · rw [show j = done.length by omega]; omega
  · rintro ρ ⟨x3, hlt, rfl⟩
    have hl : lst r x = none := lst_none fun k hk => hlt k (by rw [Pd.B.rngD_len]; omega)
    simp -dsimp [hl, natS]

def BndR (r : List Int) : Prop := ∀ y ∈ r, -9999999999 ≤ y ∧ y ≤ 9999999999
theorem sum_bnd : ∀ {r : List Int}, BndR r → -(9999999999 * (r.length : Int)) ≤ r.sum ∧ r.sum ≤ 9999999999 * (r.length : Int)
  | [], _ => by simp
  | x :: l, h => by
    have ih := sum_bnd (r := l) fun y hy => h y (List.mem_cons_of_mem _ hy)
    have hx := h x (by simp)
    rw [List.sum_cons, List.length_cons]
    push_cast
    omega
theorem lst_pre {r : List Int} (hr : ∀ y ∈ r, 0 ≤ y) {m : Nat} (hm : m ≤ r.length) : ∃ k, lst r (pre r m) = some k ∧ k ≤ m ∧ pre r k = pre r m := by
  cases h : lst r (pre r m) with
  | none =>
    exfalso
    unfold lst at h
    rw [List.find?_eq_none] at h
    have := h m (List.mem_range.mpr (by omega))
    simp at this
  | some k =>
    refine ⟨k, rfl, ?_⟩
    unfold lst at h
    rw [List.find?_eq_some_iff_append] at h
    obtain ⟨h1, as, bs, h2, h3⟩ := h
    have h1 := of_decide_eq_true h1
    have hl : as.length = k := by
      have := congrArg (fun l => l[as.length]?) h2
      simp at this
      have q : as.length < r.length + 1 := by
        have := congrArg List.length h2
        simp at this
        omega
      rw [List.getElem?_range q] at this
      exact Option.some.inj this
    have hk : k ≤ m := by
      rcases Nat.lt_or_ge m k with c | c
      · exfalso
        have hm2 : m ∈ as := by
          have := congrArg (fun l => l[m]?) h2
          simp only [List.getElem?_range (show m < r.length + 1 by omega)] at this
          rw [List.getElem?_append_left (by omega)] at this
          exact List.mem_of_getElem? this.symm
        have := h3 m hm2
        simp at this
      · exact c
    exact ⟨hk, Int.le_antisymm (pre_mono hr hk) h1⟩
theorem lst_more {r : List Int} (hr : ∀ y ∈ r, 0 ≤ y) : lst r (r.sum + 1) = none := lst_none fun k hk => by
  have := pre_mono hr hk
  have e : pre r r.length = r.sum := by unfold pre; rw [List.take_length]
  omega
theorem spec_sof1 (r : List Int) (c : Nat) (hc : c < r.length) (hn : r.length ≤ 1000) (Q : Sl → List Sl → Prop) :
    Sp m_SumTree_sum_of_first [trS none r, .p (.int ((c : Int) + 1))] Q ↔ Q (.p (.int (r.take (c + 1)).sum)) [trS none r, .p (.int ((c : Int) + 1))] := by
  have := spec_sum_of_first r (c + 1) (by omega) hn Q
  rw [show ((c + 1 : Nat) : Int) = (c : Int) + 1 by omega] at this
  exact this
def LrT (C : Int) (r : List Int) (ρ : Pd.Env) : Prop := ∃ (ds : List D) (x3 x4 x5 x6 : Option Sl), SeedOk C ds ∧ Pd.B.slotP (some x6) = true ∧ ρ = [some (.ml (some 0) ds), some (.p (.tuple (r.map .int))), some (trS none r), x3, x4, x5, x6]
theorem spec_least_right {ds : List D} {r : List Int} {C : Int} {Q : Sl → List Sl → Prop} (hd : SeedOk C ds) (hC : C < 2 ^ 57) (hn : r.length ≤ 1000) (hr : ∀ y ∈ r, 0 ≤ y) (hb : BndR r)
    (k : ∀ ds', SeedOk (C + 12) ds' → Q (.p (.bool true)) [.ml none ds', .p (.tuple (r.map .int))]) : Sp m_law_least_right [.ml none ds, .p (.tuple (r.map .int))] Q := by
  unfold m_law_least_right
  rw [sp_mkF]
  simp -dsimp [g_law_least_right]
  refine (spec_tree_ofT r hn _).mpr ?_
  simp -dsimp
  have hs := sum_bnd hb
  refine ev_loop (fun dt ρ => LrT (C + 3 * dt.length) r ρ) ⟨ds, none, none, none, none, hd.mono (by simp), rfl, rfl⟩ ?_ ?_
  · rintro dt d' rest ρ ha ⟨dsx, x3, x4, x5, x6, hdx, h6, rfl⟩
    obtain ⟨rfl, hdn⟩ := rngD_at (a := 0) (n := 4) ha
    simp -dsimp [tgName]
    refine spec_draw hdx (by omega) (by omega) (by omega) fun v e1 i1 a1 b1 => ?_
    simp -dsimp
    refine ⟨cmul (by omega) (by omega), cdiv (by omega) (by omega), ?_⟩
    refine spec_draw i1 (by omega) (by omega) (by omega) fun w e2 i2 a2 b2 => ?_
    simp -dsimp
    generalize (r.sum * v / 1000 + w - 1) = x
    refine (spec_least r x hr hn _).mpr ?_
    simp -dsimp
    refine (spec_law_least r x hn _).mpr ?_
    cases e : lst r x
    all_goals
      simp -dsimp [natS]
      refine spec_draw i2 (by omega) (by omega) (by omega) fun u e3 i3 a3 b3 => ?_
      obtain ⟨m, rfl⟩ : ∃ m : Nat, u = m := ⟨u.toNat, by omega⟩
      have hm : m ≤ r.length := by omega
      obtain ⟨q', f1, f2, f3⟩ := lst_pre hr hm
      have f3' : (r.take q').sum = (r.take m).sum := f3
      simp -dsimp [hm, hn]
      refine (spec_least r _ hr hn _).mpr ?_
      rw [show (r.take m).sum = pre r m from rfl, f1]
      have g1 : ¬ ((m : Int) < (q' : Nat)) := by omega
      have g2 : q' ≤ r.length := by omega
      simp -dsimp [natS, hm, hn, f3', g1, g2]
      exact ⟨e3, _, _, _, _, i3.mono (by omega), rfl, rfl⟩
  · rintro ρ ⟨dsx, x3, x4, x5, x6, hdx, h6, rfl⟩
    rw [Pd.B.rngD_len] at hdx
    simp -dsimp
    refine (spec_least r (r.sum + 1) hr hn _).mpr ?_
    rw [lst_more hr]
    simp -dsimp [natS]
    exact k _ (hdx.mono (by simp))

def addR (a b : List Int) : List Int := List.zipWith (· + ·) a b
theorem addR_len {a b : List Int} (h : a.length = b.length) : (addR a b).length = a.length := by
  unfold addR
  rw [List.length_zipWith, ← h, Nat.min_self]
theorem addR_sum : ∀ {a b : List Int}, a.length = b.length → (addR a b).sum = a.sum + b.sum
  | [], [], _ => rfl
  | [], _ :: _, h => by simp at h
  | _ :: _, [], h => by simp at h
  | x :: a, y :: b, h => by
    have ih := addR_sum (a := a) (b := b) (by simpa using h)
    unfold addR at ih ⊢
    rw [List.zipWith_cons_cons, List.sum_cons, List.sum_cons, List.sum_cons, ih]
    omega
theorem addR_seg {a b : List Int} (h : a.length = b.length) (i j : Nat) : seg (addR a b) i j = seg a i j + seg b i j := by
  unfold seg
  rw [← addR_sum (by rw [List.length_take, List.length_take, List.length_drop, List.length_drop, h])]
  unfold addR
  rw [List.drop_zipWith, List.take_zipWith]
theorem ctl_at (r : List Int) (i : Nat) (h : i < r.length) : (ctl r)[i]? = some (cellOf r (i + 1)) := by
  unfold ctl
  rw [List.getElem?_map, List.getElem?_range h]
  rfl
theorem addR_at {a b : List Int} {i : Nat} {x y : Int} (hx : a[i]? = some x) (hy : b[i]? = some y) : (addR a b)[i]? = some (x + y) := by
  unfold addR
  rw [List.getElem?_zipWith, hx, hy]
theorem addR_ctl {a b : List Int} (h : a.length = b.length) : ctl (addR a b) = addR (ctl a) (ctl b) := by
  refine List.ext_getElem? fun i => ?_
  rcases Nat.lt_or_ge i a.length with c | c
  · rw [ctl_at _ _ (by rw [addR_len h]; exact c), addR_at (ctl_at _ _ c) (ctl_at _ _ (by omega))]
    exact congrArg some (addR_seg h _ _)
  · rw [List.getElem?_eq_none (by rw [ctl_len, addR_len h]; exact c), List.getElem?_eq_none (by rw [addR_len (by rw [ctl_len, ctl_len, h]), ctl_len]; exact c)]
theorem zipD_ints : ∀ {a b : List Int}, Pd.zipD (a.map .int) (b.map .int) = (a.zip b).map fun p => .tuple [.int p.1, .int p.2]
  | [], _ => by simp [Pd.zipD]
  | _ :: _, [] => by simp [Pd.zipD]
  | x :: a, y :: b => by
    have ih := zipD_ints (a := a) (b := b)
    unfold Pd.zipD at ih ⊢
    rw [List.map_cons, List.map_cons, List.zipWith_cons_cons, ih, List.zip_cons_cons, List.map_cons]
theorem addR_zip {a b : List Int} : ((a.zip b).map fun p => PyData.int (p.1 + p.2)) = (addR a b).map .int := by
  unfold addR
  rw [List.zip_eq_zipWith, List.map_zipWith, List.map_zipWith]
theorem set_back {r : List Int} {p : Nat} (x : Int) (hp : p < r.length) : ∃ hp2 : p < (r.set p (r[p] + x)).length, (r.set p (r[p] + x)).set p ((r.set p (r[p] + x))[p] + -x) = r := by
  have hp2 : p < (r.set p (r[p] + x)).length := by rw [List.length_set]; exact hp
  refine ⟨hp2, ?_⟩
  rw [List.getElem_set_self, List.set_set]
  have : r[p] + x + -x = r[p] := by omega
  rw [this, List.set_getElem_self]
def TrT (C : Int) (r : List Int) (y7 y8 y9 y10 y11 y12 : Option Sl) (ρ : Pd.Env) : Prop := ∃ (ds : List D) (x4 x5 x6 : Option Sl), SeedOk C ds ∧
  ρ = [some (.ml (some 0) ds), some (.p (.tuple (r.map .int))), some (.p (.int (r.length : Nat))), some (trS none r), x4, x5, x6, y7, y8, y9, y10, y11, y12, none, none]
def OtT (C : Int) (r : List Int) (x4 x5 x6 x7 x8 x9 : Option Sl) (n : Nat) (acc : List D) (ρ : Pd.Env) : Prop := ∃ (ds : List D) (zs : List Int) (x13 : Option Sl), SeedOk C ds ∧ zs.length = n ∧ acc = zs.map .int ∧
  ρ = [some (.ml (some 0) ds), some (.p (.tuple (r.map .int))), some (.p (.int (r.length : Nat))), some (trS none r), x4, x5, x6, x7, x8, x9, none, none, none, x13, none]
theorem spec_trees_right {ds : List D} {r : List Int} {C : Int} {Q : Sl → List Sl → Prop} (hd : SeedOk C ds) (hC : C < 2 ^ 55) (h0 : 0 < r.length) (hn : r.length ≤ 1000) (hb : BndR r)
    (k : ∀ ds', Q (.p (.bool true)) [.ml none ds', .p (.tuple (r.map .int))]) : Sp m_law_trees_right [.ml none ds, .p (.tuple (r.map .int))] Q := by
  unfold m_law_trees_right
  rw [sp_mkF]
  simp -dsimp [g_law_trees_right]
  refine (spec_tree_ofT r hn _).mpr ?_
  simp -dsimp [hn]
  refine ev_loop (fun dt ρ => TrT (C + 2 * dt.length) r none none none none none none ρ) ⟨ds, none, none, none, hd.mono (by simp), rfl⟩ ?_ ?_
  · rintro dt d' rest ρ ha ⟨dsx, x4, x5, x6, hdx, rfl⟩
    obtain ⟨rfl, hdn⟩ := rngD_at (a := 0) (n := 6) ha
    simp -dsimp [tgName]
    refine spec_draw hdx (by omega) (by omega) (by omega) fun v e1 i1 a1 b1 => ?_
    obtain ⟨a, rfl⟩ : ∃ a : Nat, v = a := ⟨v.toNat, by omega⟩
    simp -dsimp
    rw [Int.add_comm 1 (a : Int)]
    refine spec_draw i1 (by omega) (by omega) (by omega) fun w e2 i2 a2 b2 => ?_
    obtain ⟨b, rfl⟩ : ∃ b : Nat, w = b := ⟨w.toNat, by omega⟩
    simp -dsimp
    rw [show (a : Int) + 1 + (b : Int) = ((a + b : Nat) : Int) + 1 by omega]
    have hab : a + b < r.length := by omega
    have ha' : a < r.length := by omega
    generalize hc : a + b = c at hab ⊢
    have hsl := sumU (r := r) (a := a) (b := c + 1) (by omega) (by omega)
    rw [show ((c + 1 : Nat) : Int) = (c : Int) + 1 by omega] at hsl
    have hseg : seg r a (c + 1) = ((r.drop a).take (c + 1 - a)).sum := rfl
    have hsg := seg_take r a (c + 1) (by omega)
    have hct : Pd.cutD (r.map PyData.int) none (some ((c : Int) + 1)) = (r.map .int).take (c + 1) := by
      rw [show (c : Int) + 1 = ((c + 1 : Nat) : Int) by omega, cut_nat]
    have hin : ints? ((r.map PyData.int).take (c + 1)) = some (r.take (c + 1)) := by
      rw [← List.map_take, Pd.B.ints_map]
    have hal : a ≤ r.length := by omega
    have s1 := spec_sof1 r c hab hn
    simp -dsimp [s1, hab, ha', hn, hal]
    refine ⟨hsg, ?_⟩
    rw [hsl, Option.map_some, ← hseg]
    simp -dsimp [s1, hab, ha', hn, hal, hct, hin]
    exact ⟨e2, _, _, _, i2.mono (by omega), rfl⟩
  · rintro ρ ⟨dsx, x4, x5, x6, hdx, rfl⟩
    rw [Pd.B.rngD_len] at hdx
    simp -dsimp [hn]
    refine spec_draw hdx (by omega) (by omega) (by omega) fun v e1 i1 a1 b1 => ?_
    obtain ⟨p, rfl⟩ : ∃ p : Nat, v = p := ⟨v.toNat, by omega⟩
    have hp : p < r.length := by omega
    simp -dsimp
    rw [Int.add_comm 1 (p : Int)]
    refine spec_number i1 (by omega) fun x e2 i2 x1 x2 => ?_
    simp -dsimp
    refine (spec_put r p x hp hn _).mpr ?_
    simp -dsimp
    obtain ⟨hp2, hback⟩ := set_back x hp
    refine (spec_put _ p (-x) hp2 (by rw [List.length_set]; exact hn) _).mpr ?_
    rw [hback]
    simp -dsimp [hn]
    refine ev_comp (fun done acc ρ => OtT (C + 20 + done.length) r x4 x5 x6 (some (.p (.tuple ((ctl r).map .int)))) (some (.p (.int ((p : Int) + 1)))) (some (.p (.int x))) done.length acc ρ) ⟨e2, [], none, i2.mono (by simp; omega), rfl, rfl, rfl⟩ ?_ ?_
    · rintro done d rest acc ρ ha ⟨ds2, zs, z13, hd2, hzl, rfl, rfl⟩
      obtain ⟨y, hy, rfl, _, hlt⟩ := map_at ha
      have hyb := hb y (by assumption)
      simp -dsimp [tgName]
      refine spec_draw hd2 (by omega) (by omega) (by omega) fun w e3 i3 a3 b3 => ?_
      simp -dsimp
      refine ⟨cdiv (by omega) (by omega), by omega, e3, zs ++ [-(y / (1 + w))], _, i3.mono (by omega), by simp [hzl], by simp, rfl⟩
    · rintro acc ρ ⟨ds2, zs, z13, hd2, hzl, rfl, rfl⟩
      rw [List.length_map] at hzl hd2
      simp -dsimp [zipD_ints]
      have hz : r.length = zs.length := by omega
      have hC2 : C + 20 + (r.length : Int) < 2 ^ 57 := by omega
      have hb2 : ∀ y ∈ r.map fun y => ((y.natAbs : Nat) : Int), 0 ≤ y := by
        intro y hy
        obtain ⟨z, _, rfl⟩ := List.mem_map.mp hy
        exact Int.natCast_nonneg _
      have hb3 : BndR (r.map fun y => ((y.natAbs : Nat) : Int)) := by
        intro y hy
        obtain ⟨z, hz, rfl⟩ := List.mem_map.mp hy
        have := hb z hz
        omega
      have hal := addR_len hz
      refine ev_comp_pure (fun p : Int × Int => PyData.tuple [.int p.1, .int p.2]) (fun p => .int (p.1 + p.2)) (fun _ => true) (by rw [Pd.B.sizeLine_eq, List.length_zip]; omega) ?_ ?_
      · rintro q hq
        simp -dsimp [tgTup, tgCons, tgNil, tgName]
      · intro ρ' hw
        rw [filter_yes, addR_zip, hw]
        simp -dsimp
        refine (spec_tree_ofL (addR r zs) (by omega) _).mpr ?_
        simp -dsimp
        refine (spec_tree_ofT zs (by omega) _).mpr ?_
        have hn2 : zs.length ≤ 1000 := by omega
        simp -dsimp [hn2, zipD_ints]
        refine ev_comp_pure (fun p : Int × Int => PyData.tuple [.int p.1, .int p.2]) (fun p => .int (p.1 + p.2)) (fun _ => true) (by rw [Pd.B.sizeLine_eq, List.length_zip, ctl_len]; omega) ?_ ?_
        · rintro q hq
          simp -dsimp [tgTup, tgCons, tgNil, tgName]
        · intro ρ' hw
          have hn3 : (addR r zs).length ≤ 1000 := by omega
          rw [filter_yes, addR_zip, ← addR_ctl hz, hw]
          simp -dsimp [hn3]
          refine ev_comp_pure PyData.int (fun y => .int ((y.natAbs : Nat) : Int)) (fun _ => true) (by rw [Pd.B.sizeLine_eq]; omega) ?_ ?_
          · rintro q hq
            simp -dsimp [tgName]
          · intro ρ' hw
            rw [filter_yes, show (r.map fun y => PyData.int ((y.natAbs : Nat) : Int)) = (r.map fun y => ((y.natAbs : Nat) : Int)).map .int by rw [List.map_map]; rfl, hw]
            simp -dsimp
            rw [← List.map_map]
            refine spec_least_right hd2 hC2 (by rw [List.length_map]; exact hn) hb2 hb3 fun ds4 h4 => ?_
            simp -dsimp
            exact k _

@[simp ↓] theorem spec_is_whole2 (i : Int) (Q : Sl → List Sl → Prop) : Sp m_law_is_whole [.p (.int i), .p (.int i)] Q ↔ Q (.p (.bool true)) [.p (.int i), .p (.int i)] := by
  refine sp_iff ?_ Q
  unfold m_law_is_whole
  rw [sp_mkF]
  simp -dsimp [g_law_is_whole]
theorem zip_dupU {α : Type} {f : α → D} : ∀ {l : List α}, zipD (l.map f) (l.map f) = l.map fun d => .tuple [f d, f d]
  | [] => rfl
  | a :: l => by
    have ih := zip_dupU (f := f) (l := l)
    unfold Pd.zipD at ih ⊢
    rw [List.map_cons, List.zipWith_cons_cons, ih, List.map_cons]
@[simp ↓] theorem spec_are_wholeL (l : List Int) (hn : l.length ≤ 1000) (Q : Sl → List Sl → Prop) : Sp m_law_are_whole [.p (.tuple (l.map .int)), .p (.list (l.map .int))] Q ↔ Q (.p (.bool true)) [.p (.tuple (l.map .int)), .p (.list (l.map .int))] := by
  refine sp_iff ?_ Q
  unfold m_law_are_whole
  rw [sp_mkF]
  simp -dsimp [g_law_are_whole, zip_dupU]
  refine ev_comp_pure (fun p : Int => PyData.tuple [.int p, .int p]) (fun p => .int p) (fun _ => false) (by rw [Pd.B.sizeLine_eq]; omega) ?_ ?_
  · rintro p hx
    simp -dsimp [tgTup, tgCons, tgNil, tgName]
  · intro ρ' hw
    simp -dsimp [hw]
/-! ### strictly rising lists -/
def below (l : List Int) (x : Int) : Nat := (l.filter fun y => decide (y < x)).length
def plcZ (ns : List Int) (x : Int) : Nat := below (sdd ns) x
theorem below_at : ∀ {l : List Int}, l.Pairwise (· < ·) → ∀ {i : Nat} {x : Int}, l[i]? = some x → below l x = i
  | [], _, i, x, h => by simp at h
  | y :: l, hp, i, x, h => by
    obtain ⟨h1, h2⟩ := List.pairwise_cons.mp hp
    cases i with
    | zero =>
      have e : y = x := by simpa using h
      subst e
      unfold below
      rw [List.length_eq_zero_iff, List.filter_eq_nil_iff]
      intro z hz
      rcases List.mem_cons.mp hz with q | q
      · subst q; simp
      · have := h1 z q
        simp
        omega
    | succ i =>
      have hx : l[i]? = some x := by simpa using h
      have ih := below_at h2 hx
      have hlt := h1 x (List.mem_of_getElem? hx)
      unfold below at ih ⊢
      rw [List.filter_cons, if_pos (decide_eq_true hlt), List.length_cons, ih]
theorem plc_get {ns : List Int} {x : Int} (h : x ∈ ns) : (sdd ns)[plcZ ns x]? = some x ∧ plcZ ns x < (sdd ns).length := by
  obtain ⟨i, hi⟩ := List.mem_iff_getElem?.mp (mem_sdd.mpr h)
  have e : plcZ ns x = i := below_at (sdd_up ns) hi
  rw [e]
  exact ⟨hi, (List.getElem?_eq_some_iff.mp hi).1⟩
theorem insZ_len (x : Int) : ∀ l : List Int, (insZ x l).length ≤ l.length + 1
  | [] => by simp [insZ]
  | y :: l => by
    have ih := insZ_len x l
    unfold insZ
    split
    · simp
    · split
      · simp
      · simp; omega
theorem sdd_len : ∀ l : List Int, (sdd l).length ≤ l.length
  | [] => Nat.le_refl _
  | x :: l => by
    have ih := sdd_len l
    have := insZ_len x (sdd l)
    show (insZ x (sdd l)).length ≤ _
    rw [List.length_cons]
    omega
/-- the places as they are told -/
def plD (ns : List Int) : List Int := ns.map fun x => (plcZ ns x : Int) + 1
def prs (l : List Int) : List (Nat × Int) := (List.range l.length).map fun i => (i, l.getD i 0)
theorem prs_len (l : List Int) : (prs l).length = l.length := by simp [prs]
theorem prs_at {l : List Int} {i : Nat} (h : i < l.length) : (prs l)[i]? = some (i, l[i]) := by
  unfold prs
  rw [List.getElem?_map, List.getElem?_range h]
  simp [h]
theorem prs_mem {l : List Int} {i : Nat} {x : Int} (h : l[i]? = some x) : (i, x) ∈ prs l := by
  obtain ⟨h1, h2⟩ := List.getElem?_eq_some_iff.mp h
  have := prs_at h1
  rw [h2] at this
  exact List.mem_of_getElem? this
theorem prs_snd (l : List Int) : (prs l).map (·.2) = l := by
  refine List.ext_getElem? fun i => ?_
  rw [List.getElem?_map]
  rcases Nat.lt_or_ge i l.length with h | h
  · rw [prs_at h, List.getElem?_eq_getElem h]
    rfl
  · rw [List.getElem?_eq_none (by rw [prs_len]; exact h), List.getElem?_eq_none h]
    rfl
theorem enum_pairs (l : List Int) : Pd.enumD (l.map .int) = (prs l).map fun p => PyData.tuple [.int (p.1 : Int), .int p.2] := by
  refine List.ext_getElem? fun i => ?_
  unfold Pd.enumD
  rw [List.getElem?_mapIdx, List.getElem?_map, List.getElem?_map]
  rcases Nat.lt_or_ge i l.length with h | h
  · rw [prs_at h, List.getElem?_eq_getElem h]
    rfl
  · rw [List.getElem?_eq_none h, List.getElem?_eq_none (by rw [prs_len]; exact h)]
    rfl
def dcP (l : List Int) : List (Key × D) := (prs l).map fun p => (Sum.inl p.2, PyData.int ((p.1 : Int) + 1))
theorem dcP_nodup {l : List Int} (hl : l.Pairwise (· < ·)) : ((dcP l).map (·.1)).Nodup :=
  nodup_inl (f := fun p : Nat × Int => p.2) (by rw [prs_snd]; exact hl.imp fun h e => by omega)
theorem dcP_val {l : List Int} (hl : l.Pairwise (· < ·)) {i : Nat} {x : Int} (h : l[i]? = some x) : valD (dcP l) (Sum.inl x) = some (.int ((i : Int) + 1)) :=
  valD_mem (dcP_nodup hl) (List.mem_map.mpr ⟨(i, x), prs_mem h, rfl⟩)
@[simp ↓] theorem spec_places_of (ns : List Int) (hn : ns.length ≤ 1000) (Q : Sl → List Sl → Prop) : Sp m_places_of [.p (.tuple (ns.map .int))] Q ↔ Q (.p (.tuple [.tuple ((sdd ns).map .int), .tuple ((plD ns).map .int)])) [.p (.tuple (ns.map .int))] := by
  refine sp_iff ?_ Q
  unfold m_places_of
  rw [sp_mkF]
  have hl := sdd_len ns
  have hs : fSS (ns.map PyData.int) = some ((sdd ns).map .int) := fSS_ints (by unfold scanBound; omega)
  simp -dsimp [g_places_of, hs, enum_pairs]
  refine ev_comp_pure (fun p : Nat × Int => PyData.tuple [.int (p.1 : Int), .int p.2]) (fun p : Nat × Int => PyData.tuple [.int p.2, .int ((p.1 : Int) + 1)]) (fun _ => true) (by rw [Pd.B.sizeLine_eq, prs_len]; omega) ?_ ?_
  · rintro i hi
    simp -dsimp [tgTup, tgCons, tgNil, tgName]
  · intro ρ' hw
    rw [filter_yes, hw]
    have hd : pairsD ((prs (sdd ns)).map fun p : Nat × Int => PyData.tuple [.int p.2, .int ((p.1 : Int) + 1)]) = some (dcP (sdd ns)) := pairsD_i (f := fun p : Nat × Int => p.2) (g := fun p : Nat × Int => PyData.int ((p.1 : Int) + 1))
    have hm : mergeD [] (dcP (sdd ns)) = dcP (sdd ns) := mergeD_new (by simpa using dcP_nodup (sdd_up ns))
    simp -dsimp [hd, hm]
    refine ev_comp_pure PyData.int (fun x => .int ((plcZ ns x : Int) + 1)) (fun _ => true) (by rw [Pd.B.sizeLine_eq]; omega) ?_ ?_
    · rintro x hx
      have hv := dcP_val (sdd_up ns) (plc_get hx).1
      simp -dsimp [tgName, hv]
    · intro ρ' hw
      rw [filter_yes, hw, show (ns.map fun x => PyData.int ((plcZ ns x : Int) + 1)) = (plD ns).map .int by unfold plD; rw [List.map_map]; rfl]
      simp -dsimp

/-! ### counts at the places -/
def cntRow (ns : List Int) (k : Nat) : List Int := (sdd ns).map fun u => (((ns.take k).count u : Nat) : Int)
theorem cntRow_len (ns : List Int) (k : Nat) : (cntRow ns k).length = (sdd ns).length := by unfold cntRow; rw [List.length_map]
theorem cntRow_zero (ns : List Int) : cntRow ns 0 = List.replicate (sdd ns).length 0 := by
  unfold cntRow
  rw [List.take_zero]
  refine List.ext_getElem (by simp) fun i h1 h2 => by simp
theorem one_sum : ∀ {l : List Int} {y : Int}, l.Nodup → (l.map fun u => if u = y then (1 : Int) else 0).sum = if y ∈ l then 1 else 0
  | [], _, _ => by simp
  | x :: l, y, h => by
    obtain ⟨h1, h2⟩ := List.nodup_cons.mp h
    have ih := one_sum (y := y) h2
    rw [List.map_cons, List.sum_cons, ih]
    by_cases e : x = y
    · subst e
      simp [h1]
    · have e' : ¬ y = x := fun q => e q.symm
      simp [e, e']
theorem map_add_sum {f g : Int → Int} : ∀ l : List Int, (l.map fun u => f u + g u).sum = (l.map f).sum + (l.map g).sum
  | [] => rfl
  | x :: l => by
    have ih := map_add_sum (f := f) (g := g) l
    rw [List.map_cons, List.sum_cons, ih, List.map_cons, List.sum_cons, List.map_cons, List.sum_cons]
    omega
theorem cnt_sum {l : List Int} (hl : l.Nodup) : ∀ m : List Int, (l.map fun u => ((m.count u : Nat) : Int)).sum = ((m.filter fun y => decide (y ∈ l)).length : Int)
  | [] => by
    have : (l.map fun u => ((([] : List Int).count u : Nat) : Int)) = l.map fun _ => 0 := by
      refine List.map_congr_left fun u _ => by simp
    rw [this]
    have z : ∀ l : List Int, (l.map fun _ => (0 : Int)).sum = 0 := by
      intro l
      induction l with
      | nil => rfl
      | cons x l ih => rw [List.map_cons, List.sum_cons, ih]; rfl
    rw [z]
    rfl
  | y :: m => by
    have ih := cnt_sum hl m
    have : (l.map fun u => (((y :: m).count u : Nat) : Int)) = l.map fun u => ((m.count u : Nat) : Int) + if u = y then (1 : Int) else 0 := by
      refine List.map_congr_left fun u _ => ?_
      rw [List.count_cons]
      by_cases e : u = y
      · subst e; simp
      · have e' : ¬ y = u := fun q => e q.symm
        simp [e, e']
    rw [this, map_add_sum, ih, one_sum hl, List.filter_cons]
    by_cases hy : y ∈ l
    · simp [hy]
    · simp [hy]
theorem up_take : ∀ {l : List Int}, l.Pairwise (· < ·) → ∀ {p : Nat} {x y : Int}, l[p]? = some x → y ∈ l → (y ∈ l.take (p + 1) ↔ y ≤ x)
  | [], _, p, x, y, h, _ => by simp at h
  | a :: l, hl, p, x, y, h, hy => by
    obtain ⟨h1, h2⟩ := List.pairwise_cons.mp hl
    cases p with
    | zero =>
      have e : a = x := by simpa using h
      subst e
      rcases List.mem_cons.mp hy with q | q
      · subst q; simp
      · have := h1 y q
        simp
        constructor
        · intro e; omega
        · intro e; omega
    | succ p =>
      have hx : l[p]? = some x := by simpa using h
      have hxa := h1 x (List.mem_of_getElem? hx)
      rw [List.take_succ_cons, List.mem_cons]
      rcases List.mem_cons.mp hy with q | q
      · subst q
        simp
        omega
      · have ih := up_take h2 hx q
        have := h1 y q
        constructor
        · rintro (e | e)
          · omega
          · exact ih.mp e
        · intro e
          exact Or.inr (ih.mpr e)
theorem up_nodup {l : List Int} (h : l.Pairwise (· < ·)) : l.Nodup := h.imp fun h e => by omega
theorem first_cnt {ns : List Int} {k : Nat} (hk : k < ns.length) : ((cntRow ns k).take (plcZ ns ns[k] + 1)).sum = (((ns.take k).filter fun y => decide (y ≤ ns[k])).length : Int) := by
  obtain ⟨hp, _⟩ := plc_get (List.getElem_mem hk)
  unfold cntRow
  rw [← List.map_take, cnt_sum ((up_nodup (sdd_up ns)).sublist (List.take_sublist _ _))]
  congr 2
  refine List.filter_congr fun y hy => ?_
  have hy' : y ∈ sdd ns := mem_sdd.mpr (List.mem_of_mem_take hy)
  rw [decide_eq_decide]
  exact up_take (sdd_up ns) hp hy'
theorem cntRow_step {ns : List Int} {k : Nat} (hk : k < ns.length) : ∃ hp : plcZ ns ns[k] < (cntRow ns k).length, (cntRow ns k).set (plcZ ns ns[k]) ((cntRow ns k)[plcZ ns ns[k]] + 1) = cntRow ns (k + 1) := by
  obtain ⟨hp, hlt⟩ := plc_get (List.getElem_mem hk)
  have hp2 : plcZ ns ns[k] < (cntRow ns k).length := by rw [cntRow_len]; exact hlt
  refine ⟨hp2, ?_⟩
  generalize plcZ ns ns[k] = p at hp hlt hp2 ⊢
  have hx : (sdd ns)[p] = ns[k] := (List.getElem?_eq_some_iff.mp hp).2
  have tk : ns.take (k + 1) = ns.take k ++ [ns[k]] := List.take_succ_eq_append_getElem hk
  have at_ : ∀ (j i : Nat) (hi : i < (sdd ns).length), (cntRow ns j)[i]? = some (((ns.take j).count (sdd ns)[i] : Nat) : Int) := by
    intro j i hi
    unfold cntRow
    rw [List.getElem?_map, List.getElem?_eq_getElem hi]
    rfl
  refine List.ext_getElem? fun i => ?_
  rcases Nat.lt_or_ge i (sdd ns).length with hi | hi
  · by_cases e : p = i
    · subst e
      rw [List.getElem?_set_self hp2, at_ (k + 1) p hlt, hx, tk, List.count_append]
      have := at_ k p hlt
      rw [List.getElem?_eq_getElem hp2] at this
      rw [Option.some.inj this, hx]
      simp
    · have hne : ¬ ns[k] = (sdd ns)[i] := fun q => e ((List.getElem_inj (up_nodup (sdd_up ns))).mp (by rw [hx]; exact q))
      rw [List.getElem?_set_ne e, at_ k i hi, at_ (k + 1) i hi, tk, List.count_append]
      simp [hne]
  · rw [List.getElem?_eq_none (by rw [List.length_set, cntRow_len]; exact hi), List.getElem?_eq_none (by rw [cntRow_len]; exact hi)]
theorem cntRow_all (ns : List Int) : cntRow ns ns.length = (sdd ns).map fun u => ((ns.count u : Nat) : Int) := by
  unfold cntRow
  rw [List.take_length]

def NuT (C : Int) (x1 : Option Sl) (ρ : Pd.Env) (n : Nat) : Prop := ∃ (ds : List D) (r : List Int) (x3 : Option Sl), SeedOk C ds ∧ r.length = n ∧ BndR r ∧ ρ = [some (.ml (some 0) ds), x1, some (.ml none (r.map .int)), x3]
theorem bnd_app {r : List Int} {x : Int} (h : BndR r) (h1 : -9999999999 ≤ x) (h2 : x ≤ 9999999999) : BndR (r ++ [x]) := by
  intro y hy
  rcases List.mem_append.mp hy with q | q
  · exact h y q
  · rw [List.mem_singleton.mp q]
    exact ⟨h1, h2⟩
theorem bnd_set {r : List Int} {i : Nat} {x : Int} (h : BndR r) (hx : x ∈ r) : BndR (r.set i x) := by
  intro y hy
  rcases List.mem_or_eq_of_mem_set hy with q | q
  · exact h y q
  · rw [q]
    exact h x hx
theorem spec_numbers {ds : List D} {C : Int} {Q : Sl → List Sl → Prop} (hd : SeedOk C ds) (hC : C < 2 ^ 50)
    (k : ∀ (r : List Int) ds', SeedOk (C + 2000) ds' → r.length ≤ 200 → BndR r → Q (xtS (r.map .int)) [.ml none ds']) : Sp m_law_numbers [.ml none ds] Q := by
  unfold m_law_numbers
  rw [sp_mkF]
  simp -dsimp [g_law_numbers]
  refine spec_draw hd (by omega) (by omega) (by omega) fun way d1 h1 a1 b1 => ?_
  simp -dsimp
  refine spec_draw h1 (by omega) (by omega) (by omega) fun v1 d2 h2 a2 b2 => ?_
  simp -dsimp
  refine spec_draw h2 (by omega) (by omega) (by omega) fun v2 d3 h3 a3 b3 => ?_
  simp -dsimp
  refine spec_draw h3 (by omega) (by omega) (by omega) fun v3 d4 h4 a4 b4 => ?_
  simp -dsimp
  refine spec_draw h4 (by omega) (by omega) (by omega) fun v4 d5 h5 a5 b5 => ?_
  obtain ⟨n, hn, hle⟩ : ∃ n : Nat, atI [PyData.int v1, .int v2, .int v3] v4 = some (.int (n : Nat)) ∧ n ≤ 200 := by
    rcases (by omega : v4 = 0 ∨ v4 = 1 ∨ v4 = 2) with e | e | e <;> subst e
    · exact ⟨v1.toNat, by rw [Int.toNat_of_nonneg a2]; rfl, by omega⟩
    · exact ⟨v2.toNat, by rw [Int.toNat_of_nonneg a3]; rfl, by omega⟩
    · exact ⟨v3.toNat, by rw [Int.toNat_of_nonneg a4]; rfl, by omega⟩
  simp -dsimp [hn]
  refine ⟨by omega, ?_⟩
  refine ev_loop (fun done ρ => NuT (C + 10 + 6 * done.length) (some (.p (.int way))) ρ done.length) ⟨d5, [], none, h5.mono (by simp; omega), rfl, (fun y hy => nomatch hy), rfl⟩ ?_ ?_
  · rintro done d rest ρ ha ⟨dsx, r, x3, hdx, hrl, hb, rfl⟩
    obtain ⟨rfl, hdn⟩ := rngD_at (a := 0) (n := n) ha
    simp -dsimp [tgName]
    refine spec_number hdx (by omega) fun x e1 i1 x1 x2 => ?_
    have hb2 := bnd_app hb x1 x2
    have hl2 : (r ++ [x]).length = done.length + 1 := by simp [hrl]
    simp -dsimp
    refine ⟨by omega, ?_⟩
    refine spec_draw i1 (by omega) (by omega) (by omega) fun z e2 i2 z1 z2 => ?_
    rw [show r.map PyData.int ++ [PyData.int x] = (r ++ [x]).map .int by simp]
    generalize r ++ [x] = r2 at hb2 hl2 ⊢
    by_cases hz : z = 0
    · simp -dsimp [hz]
      refine spec_draw i2 (by omega) (by omega) (by omega) fun t e3 i3 t1 t2 => ?_
      obtain ⟨i, rfl⟩ : ∃ i : Nat, t = i := ⟨t.toNat, by omega⟩
      have hi : i < r2.length := by omega
      have hg : atI (r2.map PyData.int) (i : Int) = some (.int r2[i]) := Pd.B.atI_of rfl (by rw [List.getElem?_map, List.getElem?_eq_getElem hi]; rfl)
      have hix : ixN r2.length (-1) = some (r2.length - 1) := by
        unfold ixN
        rw [if_neg (by omega), if_pos (by omega)]
        exact congrArg some (by omega)
      simp -dsimp [hg, hix]
      exact ⟨e3, r2.set (r2.length - 1) r2[i], _, i3.mono (by omega), by rw [List.length_set]; exact hl2, bnd_set hb2 (List.getElem_mem hi), by rw [List.map_set]⟩
    · simp -dsimp [hz]
      exact ⟨e2, r2, _, i2.mono (by omega), hl2, hb2, rfl⟩
  · rintro ρ ⟨dsx, r, x3, hdx, hrl, hb, rfl⟩
    rw [Pd.B.rngD_len] at hdx hrl
    simp -dsimp
    exact k r _ (hdx.mono (by omega)) (by omega) hb
def PrT (ns : List Int) (n : Nat) (ρ : Pd.Env) : Prop := ∃ (x5 x6 : Option Sl), ρ = [some (xtS (ns.map .int)), some (.p (.tuple ((sdd ns).map .int))), some (.p (.tuple ((plD ns).map .int))), some (.p (.list ((plD ns).map .int))), some (trS none (cntRow ns n)), x5, x6, none, none]
theorem spec_places_right (ns : List Int) (hn : ns.length ≤ 1000) (Q : Sl → List Sl → Prop) : Sp m_law_places_right [xtS (ns.map .int)] Q ↔ Q (.p (.bool true)) [xtS (ns.map .int)] := by
  refine sp_iff ?_ Q
  unfold m_law_places_right
  rw [sp_mkF]
  have hl := sdd_len ns
  have hl1 : (sdd ns).length ≤ 1000 := by omega
  have hs : fSS (ns.map PyData.int) = some ((sdd ns).map .int) := fSS_ints (by unfold scanBound; omega)
  simp -dsimp [g_law_places_right, hs, hn, hl1]
  refine ev_comp_pure PyData.int (fun x => .int (1 + (plcZ ns x : Int))) (fun _ => true) (by rw [Pd.B.sizeLine_eq]; omega) ?_ ?_
  · rintro x hx
    simp -dsimp [tgName]
    refine ev_comp_pure PyData.int (fun _ => .int 1) (fun y => decide (y < x)) (by rw [Pd.B.sizeLine_eq]; omega) ?_ ?_
    · rintro y hy
      simp -dsimp [tgName]
    · intro ρ' hw
      rw [hw]
      simp -dsimp
      rfl
  · intro ρ' hw
    rw [filter_yes, hw, show (ns.map fun x => PyData.int (1 + (plcZ ns x : Int))) = (plD ns).map .int by unfold plD; rw [List.map_map]; exact List.map_congr_left fun x _ => by show PyData.int _ = PyData.int _; rw [Int.add_comm]]
    have hpl : (plD ns).length ≤ 1000 := by unfold plD; rw [List.length_map]; exact hn
    simp -dsimp [hn, hpl]
    intro hne
    refine (spec_tree (sdd ns).length hl1 _).mpr ?_
    simp -dsimp
    refine ev_loop (fun done ρ => PrT ns done.length ρ) ⟨none, none, by rw [show ([] : List D).length = 0 from rfl, cntRow_zero]⟩ ?_ ?_
    · rintro done d rest ρ ha ⟨x5, x6, rfl⟩
      obtain ⟨t, ht, rfl, hdn⟩ := enumD_at ha
      have hk : done.length < ns.length := by unfold plD at hdn; rw [List.length_map] at hdn; exact hdn
      have et : t = (plcZ ns ns[done.length] : Int) + 1 := by
        unfold plD at ht
        rw [List.getElem?_map, List.getElem?_eq_getElem hk] at ht
        exact (Option.some.inj ht).symm
      subst et
      obtain ⟨hp, hset⟩ := cntRow_step hk
      have hfc := first_cnt hk
      have hrl : (cntRow ns done.length).length ≤ 1000 := by rw [cntRow_len]; exact hl1
      have hg : atI (ns.map PyData.int) (done.length : Int) = some (.int ns[done.length]) := Pd.B.atI_of rfl (by rw [List.getElem?_map, List.getElem?_eq_getElem hk]; rfl)
      simp -dsimp [tgTup, tgCons, tgNil, tgName]
      refine (spec_sof1 (cntRow ns done.length) (plcZ ns ns[done.length]) hp hrl _).mpr ?_
      simp -dsimp [cut_nat]
      rw [← List.map_take]
      refine ev_comp_pure PyData.int (fun _ => .int 1) (fun y => decide (y ≤ ns[done.length])) (by rw [Pd.B.sizeLine_eq, List.length_take]; omega) ?_ ?_
      · rintro y hy
        simp -dsimp [tgName, hg]
      · intro ρ' hw
        rw [hw]
        simp -dsimp [hfc]
        refine (spec_put (cntRow ns done.length) (plcZ ns ns[done.length]) 1 hp hrl _).mpr ?_
        rw [hset]
        simp -dsimp
        exact ⟨_, _, rfl⟩
    · rintro ρ ⟨x5, x6, rfl⟩
      have hpl2 : (plD ns).length = ns.length := by unfold plD; rw [List.length_map]
      rw [Pd.B.enumD_len, List.length_map, hpl2, cntRow_all]
      have hrl : ((sdd ns).map fun u => ((ns.count u : Nat) : Int)).length ≤ 1000 := by rw [List.length_map]; exact hl1
      simp -dsimp
      refine (spec_row_now _ hrl _).mpr ?_
      simp -dsimp
      refine ev_comp_pure PyData.int (fun u => .int ((ns.count u : Nat) : Int)) (fun _ => true) (by rw [Pd.B.sizeLine_eq]; omega) ?_ ?_
      · rintro y hy
        simp -dsimp [tgName]
      · intro ρ' hw
        rw [filter_yes, hw]
        simp -dsimp
        show PyData.eqvAll (List.map (PyData.int ∘ fun u => ((ns.count u : Nat) : Int)) (sdd ns)) (List.map (PyData.int ∘ fun u => ((ns.count u : Nat) : Int)) (sdd ns)) = true
        rw [← List.map_map]
        generalize (List.map (fun u => ((ns.count u : Nat) : Int)) (sdd ns)) = l
        simp

def LawT (x0 : Option Sl) (ρ : Pd.Env) : Prop := ∃ (x1 x2 x3 : Option Sl), ρ = [x0, x1, x2, x3]
theorem law_run : ∀ ns : List Int, ns.length ≤ 63 → Sp m_law [.p (.list (ns.map .int))] fun r ss' => r = .p (.bool true) := by
  intro ns hn
  unfold m_law
  rw [sp_mkF]
  simp -dsimp [g_law]
  refine spec_folded hn fun v => ?_
  simp -dsimp
  refine ⟨by omega, ?_⟩
  rw [← List.map_take, show [PyData.int v] = [v].map PyData.int from rfl, ← List.map_append]
  refine ev_loop (fun _ ρ => LawT (some (.p (.list (ns.map .int)))) ρ) ⟨_, _, _, rfl⟩ ?_ ?_
  · rintro done d r ρ ha ⟨x1, x2, x3, rfl⟩
    obtain ⟨c, _, rfl, _, _⟩ := map_at ha
    simp -dsimp [tgName]
    refine spec_seed fun ds hd => ?_
    simp -dsimp
    refine spec_numbers hd (by omega) fun row d1 h1 n1 b1 => ?_
    simp -dsimp
    refine (spec_places_right row (by omega) _).mpr ?_
    simp -dsimp
    by_cases e : row = []
    · subst e
      simp -dsimp
      exact ⟨_, _, _, rfl⟩
    · simp -dsimp [e]
      refine spec_trees_right h1 (by omega) (List.length_pos_iff.mpr e) (by omega) b1 fun ds' => ?_
      simp -dsimp
      exact ⟨_, _, _, rfl⟩
  · rintro ρ ⟨x1, x2, x3, rfl⟩
    simp -dsimp
theorem law_true : ∀ ns : List Int, ns.length ≤ 63 → ∃ ss', m_law [.p (.list (ns.map .int))] = some (.p (.bool true), ss') := by
  intro ns hn
  obtain ⟨r, ss', h, rfl⟩ := law_run ns hn
  exact ⟨ss', h⟩

abbrev s_law_folded : Stmt := top 8
theorem sc_law_folded : FnScope ["script", "found", "cell"] ["script"] (defScope s_law_folded) := ⟨rfl, rfl, rfl, by decide +kernel, rfl, by decide +kernel, by decide +kernel⟩
theorem c_law_folded {P : Program} {w : World} {K : PySem.W.Frag} {mg : Str → Option Value} {base : Heap} {f : Addr} {fd : FuncData} (F : Fun K "_law_folded" "_law_folded" s_law_folded f fd) (hm : mg "_law_folded" = some (.ref f)) (z_len : mg "len" = none) : Callee P w K mg base 1 "_law_folded" 1 m_law_folded :=
  ⟨f, fd, ["script"], fn_ok F sc_law_folded rfl (fun cdv A outer s H E vs0 hr =>
    (dss_cons (ds_set (i := 1) sc_law_folded.nd rfl (Or.inl rfl) (de_callB call_len oLen_ok (by rfl) z_len (by decide +kernel) (da_cons (de_var (pv 0)) da_nil)))
    (dss_cons (ds_for PassesOwn.never rfl (di_seq (de_var (pv 0))) (dg_name (i := 2) sc_law_folded.nd rfl (Or.inl rfl))
    (dss_one (ds_set (i := 1) sc_law_folded.nd rfl (Or.inl rfl) (de_op op_mod oMod_ok (de_op op_addAll oAdd_ok (de_op op_mul2 oMul2_ok (de_var (pv 1)) de_int) (de_op op_mod oMod_ok (de_var (pv 2)) de_int)) de_int))))
    (dss_one (ds_ret (de_var (pv 1))))))), hm, F.kp, F.binds fun _ _ _ _ _ _ us hl => match us, hl with | [_], _ => rfl⟩
abbrev s_SumTree_cells_now : Stmt := inClass (top 5) 7
theorem sc_SumTree_cells_now : FnScope ["self"] ["self"] (defScope s_SumTree_cells_now) := ⟨rfl, rfl, rfl, by decide +kernel, rfl, by decide +kernel, by decide +kernel⟩
theorem c_SumTree_cells_now {P : Program} {w : World} {K : PySem.W.Frag} {mg : Str → Option Value} {base : Heap} {f : Addr} {fd : FuncData} {C : Addr} (F : Fun K "cells_now" "SumTree.cells_now" s_SumTree_cells_now f fd) (hC : PySem.W.nsIn K mainGlobals "SumTree" = some (some (.ref C))) (cl : Cls K C) (me : Meth K C "cells_now" f) (z_tuple : mg "tuple" = none) (A_SumTree_cells : AttrIs K "SumTree" "cells") : CalleeM P w K mg base 1 "SumTree" "cells_now" 1 m_SumTree_cells_now :=
  ⟨C, f, fd, ["self"], hC, cl, me, fn_ok F sc_SumTree_cells_now rfl (fun cdv A outer s H E vs0 hr =>
    (dss_one (ds_ret (de_callTy call_tuple_of oTupOf_ok (by rfl) z_tuple (by decide +kernel) (da_cons (de_sliceA (de_attr A_SumTree_cells (pv 0)) (do_some de_int) do_none) da_nil))))), F.binds fun _ _ _ _ _ _ us hl => match us, hl with | [_], _ => rfl⟩
abbrev s_SumTree_least_many : Stmt := inClass (top 5) 8
theorem sc_SumTree_least_many : FnScope ["self", "number", "step", "place", "left"] ["self", "number"] (defScope s_SumTree_least_many) := ⟨rfl, rfl, rfl, by decide +kernel, rfl, by decide +kernel, by decide +kernel⟩
theorem c_SumTree_least_many {P : Program} {w : World} {K : PySem.W.Frag} {mg : Str → Option Value} {base : Heap} {f : Addr} {fd : FuncData} {C : Addr} (F : Fun K "least_many" "SumTree.least_many" s_SumTree_least_many f fd) (hC : PySem.W.nsIn K mainGlobals "SumTree" = some (some (.ref C))) (cl : Cls K C) (me : Meth K C "least_many" f) (A_SumTree_many : AttrIs K "SumTree" "many") (A_SumTree_cells : AttrIs K "SumTree" "cells") : CalleeM P w K mg base 1 "SumTree" "least_many" 2 m_SumTree_least_many :=
  ⟨C, f, fd, ["self", "number"], hC, cl, me, fn_ok F sc_SumTree_least_many rfl (fun cdv A outer s H E vs0 hr =>
    (dss_cons (ds_set (i := 2) sc_SumTree_least_many.nd rfl (Or.inl rfl) de_int)
    (dss_cons (ds_while PassesOwn.never (dt_cmp op_le oCmpI_ok (de_op op_mul2 oMul2_ok de_int (de_var (pv 2))) (de_attr A_SumTree_many (pv 0)) (nomark _))
    (dss_one (ds_augMul (i := 2) sc_SumTree_least_many.nd rfl (Or.inl rfl) de_int)))
    (dss_cons (ds_set (i := 3) sc_SumTree_least_many.nd rfl (Or.inl rfl) de_int)
    (dss_cons (ds_set (i := 4) sc_SumTree_least_many.nd rfl (Or.inl rfl) (de_var (pv 1)))
    (dss_cons (ds_while PassesOwn.never (dt_cmp op_gt oCmpI_ok (de_var (pv 2)) de_int (nomark _))
    (dss_cons (ds_if (dw_and (dt_cmp op_le oCmpI_ok (de_op op_addAll oAdd_ok (de_var (pv 3)) (de_var (pv 2))) (de_attr A_SumTree_many (pv 0)) (nomark _)) (dw_and1 (dt_cmp op_lt oCmpI_ok (de_ix ix_seq oIxA_ok (de_attr A_SumTree_cells (pv 0)) (de_op op_addAll oAdd_ok (de_var (pv 3)) (de_var (pv 2))) (fun _ _ => rfl)) (de_var (pv 4)) (nomark _)))).pt
    (dss_cons (ds_augAdd (i := 3) sc_SumTree_least_many.nd rfl (Or.inl rfl) (de_var (pv 2)))
    (dss_one (ds_augSub (i := 4) sc_SumTree_least_many.nd rfl (Or.inl rfl) (de_ix ix_seq oIxA_ok (de_attr A_SumTree_cells (pv 0)) (de_var (pv 3)) (fun _ _ => rfl)))))
    dss_nil)
    (dss_one (ds_augDiv (i := 2) sc_SumTree_least_many.nd rfl (Or.inl rfl) de_int))))
    (dss_cons (ds_if (dt_cmp op_le oCmpI_ok (de_var (pv 4)) de_int (nomark _))
    (dss_one (ds_ret (de_var (pv 3))))
    dss_nil)
    (dss_one (ds_ret (de_if (dt_cmp op_lt oCmpI_ok (de_var (pv 3)) (de_attr A_SumTree_many (pv 0)) (nomark _)) (de_op op_addAll oAdd_ok (de_var (pv 3)) de_int) de_non)))))))))), F.binds fun _ _ _ _ _ _ us hl => match us, hl with | [_, _], _ => rfl⟩
abbrev s_lowest_bit : Stmt := top 4
theorem sc_lowest_bit : FnScope ["number"] ["number"] (defScope s_lowest_bit) := ⟨rfl, rfl, rfl, by decide +kernel, rfl, by decide +kernel, by decide +kernel⟩
theorem c_lowest_bit {P : Program} {w : World} {K : PySem.W.Frag} {mg : Str → Option Value} {base : Heap} {f : Addr} {fd : FuncData} (F : Fun K "lowest_bit" "lowest_bit" s_lowest_bit f fd) (hm : mg "lowest_bit" = some (.ref f)) : Callee P w K mg base 1 "lowest_bit" 1 m_lowest_bit :=
  ⟨f, fd, ["number"], fn_ok F sc_lowest_bit rfl (fun cdv A outer s H E vs0 hr =>
    (dss_one (ds_ret (de_op op_and oAnd_ok (de_var (pv 0)) (de_neg (de_var (pv 0))))))), hm, F.kp, F.binds fun _ _ _ _ _ _ us hl => match us, hl with | [_], _ => rfl⟩
abbrev s_SumTree_need_between : Stmt := inClass (top 5) 1
theorem sc_SumTree_need_between : FnScope ["self", "number", "least"] ["self", "number", "least"] (defScope s_SumTree_need_between) := ⟨rfl, rfl, rfl, by decide +kernel, rfl, by decide +kernel, by decide +kernel⟩
theorem c_SumTree_need_between {P : Program} {w : World} {K : PySem.W.Frag} {mg : Str → Option Value} {base : Heap} {f : Addr} {fd : FuncData} {C : Addr} (F : Fun K "need_between" "SumTree.need_between" s_SumTree_need_between f fd) (hC : PySem.W.nsIn K mainGlobals "SumTree" = some (some (.ref C))) (cl : Cls K C) (me : Meth K C "need_between" f) (A_SumTree_many : AttrIs K "SumTree" "many") : CalleeM P w K mg base 1 "SumTree" "need_between" 3 m_SumTree_need_between :=
  ⟨C, f, fd, ["self", "number", "least"], hC, cl, me, fn_ok F sc_SumTree_need_between rfl (fun cdv A outer s H E vs0 hr =>
    (dss_one (ds_if (dt_not (dt_chain op_le op_le oCmpI_ok oCmpI_ok (de_var (pv 2)) (de_var (pv 1)) (de_attr A_SumTree_many (pv 0))))
    (dss_one ds_never)
    dss_nil))), F.binds fun _ _ _ _ _ _ us hl => match us, hl with | [_, _, _], _ => rfl⟩
abbrev s_SumTree_sum_of_first : Stmt := inClass (top 5) 3
theorem sc_SumTree_sum_of_first : FnScope ["self", "many", "total"] ["self", "many"] (defScope s_SumTree_sum_of_first) := ⟨rfl, rfl, rfl, by decide +kernel, rfl, by decide +kernel, by decide +kernel⟩
theorem c_SumTree_sum_of_first {P : Program} {w : World} {K : PySem.W.Frag} {mg : Str → Option Value} {base : Heap} {f : Addr} {fd : FuncData} {C : Addr} (F : Fun K "sum_of_first" "SumTree.sum_of_first" s_SumTree_sum_of_first f fd) (hC : PySem.W.nsIn K mainGlobals "SumTree" = some (some (.ref C))) (cl : Cls K C) (me : Meth K C "sum_of_first" f) (C_lowest_bit : Callee P w K mg base 1 "lowest_bit" 1 m_lowest_bit) (C_SumTree_need_between : CalleeM P w K mg base 1 "SumTree" "need_between" 3 m_SumTree_need_between) (A_SumTree_cells : AttrIs K "SumTree" "cells") : CalleeM P w K mg base 2 "SumTree" "sum_of_first" 2 m_SumTree_sum_of_first :=
  ⟨C, f, fd, ["self", "many"], hC, cl, me, fn_ok F sc_SumTree_sum_of_first rfl (fun cdv A outer s H E vs0 hr =>
    (dss_cons (ds_expr (de_meth C_SumTree_need_between (hr.mono (by decide)) (de_var (pv 0)) (da_cons (de_var (pv 1)) (da_cons de_int da_nil))))
    (dss_cons (ds_set (i := 2) sc_SumTree_sum_of_first.nd rfl (Or.inl rfl) de_int)
    (dss_cons (ds_while PassesOwn.never (dt_cmp op_gt oCmpI_ok (de_var (pv 1)) de_int (nomark _))
    (dss_cons (ds_augAdd (i := 2) sc_SumTree_sum_of_first.nd rfl (Or.inl rfl) (de_ix ix_seq oIxA_ok (de_attr A_SumTree_cells (pv 0)) (de_var (pv 1)) (fun _ _ => rfl)))
    (dss_one (ds_augSub (i := 1) sc_SumTree_sum_of_first.nd rfl (Or.inl rfl) (de_use C_lowest_bit (hr.mono (by decide)) (by rfl) (da_cons (de_var (pv 1)) da_nil))))))
    (dss_one (ds_ret (de_var (pv 2)))))))), F.binds fun _ _ _ _ _ _ us hl => match us, hl with | [_, _], _ => rfl⟩
abbrev s_law_draw : Stmt := top 10
theorem sc_law_draw : FnScope ["seed", "most", "found", "number"] ["seed", "most"] (defScope s_law_draw) := ⟨rfl, rfl, rfl, by decide +kernel, rfl, by decide +kernel, by decide +kernel⟩
theorem c_law_draw {P : Program} {w : World} {K : PySem.W.Frag} {mg : Str → Option Value} {base : Heap} {f : Addr} {fd : FuncData} (F : Fun K "_law_draw" "_law_draw" s_law_draw f fd) (hm : mg "_law_draw" = some (.ref f)) : Callee P w K mg base 1 "_law_draw" 2 m_law_draw :=
  ⟨f, fd, ["seed", "most"], fn_ok F sc_law_draw rfl (fun cdv A outer s H E vs0 hr =>
    (dss_cons (ds_sub (de_op op_addAll oAdd_ok (de_ix ix_seq oIx_ok (de_var (pv 0)) de_int (fun _ _ => rfl)) de_int) (de_var (pv 0)) de_int)
    (dss_cons (ds_if (dw_and (dt_cmp (op_eqP hr.units) oEq_ok (de_ix ix_seq oIx_ok (de_var (pv 0)) de_int (fun _ _ => rfl)) de_int (nomark _)) (dw_and1 (dt_cmp op_gt oCmpI_ok (de_ix ix_seq oIx_ok (de_var (pv 0)) de_int (fun _ _ => rfl)) de_int (nomark _)))).pt
    (dss_cons (ds_set (i := 2) sc_law_draw.nd rfl (Or.inl rfl) (de_op op_mod oMod_ok (de_ix ix_seq oIx_ok (de_var (pv 0)) de_int (fun _ _ => rfl)) (de_var (pv 1))))
    (dss_cons (ds_sub (de_op op_fdivW oDiv_ok (de_ix ix_seq oIx_ok (de_var (pv 0)) de_int (fun _ _ => rfl)) (de_var (pv 1))) (de_var (pv 0)) de_int)
    (dss_one (ds_ret (de_var (pv 2))))))
    dss_nil)
    (dss_cons (ds_set (i := 3) sc_law_draw.nd rfl (Or.inl rfl) (de_op op_mod oMod_ok (de_op op_mul2 oMul2_ok (de_op op_addAll oAdd_ok (de_op op_addAll oAdd_ok (de_ix ix_seq oIx_ok (de_var (pv 0)) de_int (fun _ _ => rfl)) (de_op op_mul2 oMul2_ok de_int (de_ix ix_seq oIx_ok (de_var (pv 0)) de_int (fun _ _ => rfl)))) de_int) de_int) de_int))
    (dss_cons (ds_set (i := 3) sc_law_draw.nd rfl (Or.inl rfl) (de_op op_mod oMod_ok (de_op op_mul2 oMul2_ok (de_op op_mod oMod_ok (de_op op_mul2 oMul2_ok (de_var (pv 3)) (de_var (pv 3))) de_int) de_int) de_int))
    (dss_one (ds_ret (de_op op_mod oMod_ok (de_op op_fdivW oDiv_ok (de_var (pv 3)) de_int) (de_var (pv 1)))))))))), hm, F.kp, F.binds fun _ _ _ _ _ _ us hl => match us, hl with | [_, _], _ => rfl⟩
abbrev s_law_least : Stmt := top 18
theorem sc_law_least : FnScope ["row", "number", "total", "many"] ["row", "number"] (defScope s_law_least) := ⟨rfl, rfl, rfl, by decide +kernel, rfl, by decide +kernel, by decide +kernel⟩
theorem c_law_least {P : Program} {w : World} {K : PySem.W.Frag} {mg : Str → Option Value} {base : Heap} {f : Addr} {fd : FuncData} (F : Fun K "_law_least" "_law_least" s_law_least f fd) (hm : mg "_law_least" = some (.ref f)) (z_len : mg "len" = none) (z_range : mg "range" = none) (z_sum : mg "sum" = none) : Callee P w K mg base 1 "_law_least" 2 m_law_least :=
  ⟨f, fd, ["row", "number"], fn_ok F sc_law_least rfl (fun cdv A outer s H E vs0 hr =>
    (dss_cons (ds_set (i := 2) sc_law_least.nd rfl (Or.inl rfl) de_int)
    (dss_cons (ds_for PassesOwn.never rfl (di_range1 (by rfl) z_range (da_cons (de_op op_addAll oAdd_ok (de_callB call_len oLen_ok (by rfl) z_len (by decide +kernel) (da_cons (de_var (pv 0)) da_nil)) de_int) da_nil)) (dg_name (i := 3) sc_law_least.nd rfl (Or.inl rfl))
    (dss_cons (ds_if (dt_cmp op_ge oCmpI_ok (de_var (pv 2)) (de_var (pv 1)) (nomark _))
    (dss_one (ds_ret (de_var (pv 3))))
    dss_nil)
    (dss_one (ds_set (i := 2) sc_law_least.nd rfl (Or.inl rfl) (de_op op_addAll oAdd_ok (de_var (pv 2)) (de_callB (cr_sumA rfl) oSum_ok (by rfl) z_sum (by decide +kernel) (da_cons (de_slice (de_var (pv 0)) (do_some (de_var (pv 3))) (do_some (de_op op_addAll oAdd_ok (de_var (pv 3)) de_int))) da_nil)))))))
    (dss_one (ds_ret de_non))))), hm, F.kp, F.binds fun _ _ _ _ _ _ us hl => match us, hl with | [_, _], _ => rfl⟩
abbrev s_SumTree_put_to : Stmt := inClass (top 5) 2
theorem sc_SumTree_put_to : FnScope ["self", "place", "number"] ["self", "place", "number"] (defScope s_SumTree_put_to) := ⟨rfl, rfl, rfl, by decide +kernel, rfl, by decide +kernel, by decide +kernel⟩
theorem c_SumTree_put_to {P : Program} {w : World} {K : PySem.W.Frag} {mg : Str → Option Value} {base : Heap} {f : Addr} {fd : FuncData} {C : Addr} (F : Fun K "put_to" "SumTree.put_to" s_SumTree_put_to f fd) (hC : PySem.W.nsIn K mainGlobals "SumTree" = some (some (.ref C))) (cl : Cls K C) (me : Meth K C "put_to" f) (C_lowest_bit : Callee P w K mg base 1 "lowest_bit" 1 m_lowest_bit) (C_SumTree_need_between : CalleeM P w K mg base 1 "SumTree" "need_between" 3 m_SumTree_need_between) (A_SumTree_many : AttrIs K "SumTree" "many") (A_SumTree_cells : AttrIs K "SumTree" "cells") : CalleeM P w K mg base 2 "SumTree" "put_to" 3 m_SumTree_put_to :=
  ⟨C, f, fd, ["self", "place", "number"], hC, cl, me, fn_ok F sc_SumTree_put_to rfl (fun cdv A outer s H E vs0 hr =>
    (dss_cons (ds_expr (de_meth C_SumTree_need_between (hr.mono (by decide)) (de_var (pv 0)) (da_cons (de_var (pv 1)) (da_cons de_int da_nil))))
    (dss_one (ds_while PassesOwn.never (dt_cmp op_le oCmpI_ok (de_var (pv 1)) (de_attr A_SumTree_many (pv 0)) (nomark _))
    (dss_cons (ds_augLAdd (de_attr A_SumTree_cells (pv 0)) (de_var (pv 1)) (de_var (pv 2)))
    (dss_one (ds_augAdd (i := 1) sc_SumTree_put_to.nd rfl (Or.inl rfl) (de_use C_lowest_bit (hr.mono (by decide)) (by rfl) (da_cons (de_var (pv 1)) da_nil))))))))), F.binds fun _ _ _ _ _ _ us hl => match us, hl with | [_, _, _], _ => rfl⟩
abbrev s_SumTree___init__ : Stmt := inClass (top 5) 0
theorem sc_SumTree___init__ : FnScope ["self", "many"] ["self", "many"] (defScope s_SumTree___init__) := ⟨rfl, rfl, rfl, by decide +kernel, rfl, by decide +kernel, by decide +kernel⟩
theorem c_SumTree___init__ {P : Program} {w : World} {K : PySem.W.Frag} {mg : Str → Option Value} {base : Heap} {f : Addr} {fd : FuncData} {C : Addr} (F : Fun K "__init__" "SumTree.__init__" s_SumTree___init__ f fd) (hC : PySem.W.nsIn K mainGlobals "SumTree" = some (some (.ref C))) (mk : Mk K C f) (hm : mg "SumTree" = some (.ref C)) (A_SumTree_cells : AttrIs K "SumTree" "cells") (A_SumTree_many : AttrIs K "SumTree" "many") : CalleeC P w K mg base 1 "SumTree" "SumTree" 2 m_SumTree___init__ :=
  ⟨C, f, fd, ["self", "many"], hC, mk, fn_ok F sc_SumTree___init__ rfl (fun cdv A outer s H E vs0 hr =>
    (dss_cons (ds_attr A_SumTree_many (pv 0) (de_var (pv 1)))
    (dss_one (ds_attr A_SumTree_cells (pv 0) (de_op op_mul2 oMul2_ok (de_lst (da_cons de_int da_nil)) (de_op op_addAll oAdd_ok (de_var (pv 1)) de_int)))))), hm, F.binds fun _ _ _ _ _ _ us hl => match us, hl with | [_, _], _ => rfl⟩
abbrev s_law_tree_of : Stmt := top 16
theorem sc_law_tree_of : FnScope ["row", "tree", "k", "number"] ["row"] (defScope s_law_tree_of) := ⟨rfl, rfl, rfl, by decide +kernel, rfl, by decide +kernel, by decide +kernel⟩
theorem c_law_tree_of {P : Program} {w : World} {K : PySem.W.Frag} {mg : Str → Option Value} {base : Heap} {f : Addr} {fd : FuncData} (F : Fun K "_law_tree_of" "_law_tree_of" s_law_tree_of f fd) (hm : mg "_law_tree_of" = some (.ref f)) (z_enumerate : mg "enumerate" = none) (z_len : mg "len" = none) (C_SumTree_put_to : CalleeM P w K mg base 2 "SumTree" "put_to" 3 m_SumTree_put_to) (C_SumTree___init__ : CalleeC P w K mg base 1 "SumTree" "SumTree" 2 m_SumTree___init__) : Callee P w K mg base 3 "_law_tree_of" 1 m_law_tree_of :=
  ⟨f, fd, ["row"], fn_ok F sc_law_tree_of rfl (fun cdv A outer s H E vs0 hr =>
    (dss_cons (ds_set (i := 1) sc_law_tree_of.nd rfl (Or.inl rfl) (de_make C_SumTree___init__ (hr.mono (by decide)) (by rfl) (da_cons (de_fz (de_callB call_len oLen_ok (by rfl) z_len (by decide +kernel) (da_cons (de_var (pv 0)) da_nil))) da_nil)))
    (dss_cons (ds_for PassesOwn.never rfl (di_enumA (by rfl) z_enumerate (da_cons (de_var (pv 0)) da_nil)) (dg_tup rfl (dgs_cons (dg_name (i := 2) sc_law_tree_of.nd rfl (Or.inl rfl)) (dgs_cons (dg_name (i := 3) sc_law_tree_of.nd rfl (Or.inl rfl)) dgs_nil)))
    (dss_one (ds_expr (de_meth C_SumTree_put_to (hr.mono (by decide)) (de_var (pv 1)) (da_cons (de_fz (de_op op_addAll oAdd_ok (de_var (pv 2)) de_int)) (da_cons (de_fz (de_var (pv 3))) da_nil))))))
    (dss_one (ds_ret (de_var (pv 1))))))), hm, F.kp, F.binds fun _ _ _ _ _ _ us hl => match us, hl with | [_], _ => rfl⟩
abbrev s_law_least_right : Stmt := top 20
theorem sc_law_least_right : FnScope ["seed", "row", "tree", "turn", "number", "many", "found"] ["seed", "row"] (defScope s_law_least_right) := ⟨rfl, rfl, rfl, by decide +kernel, rfl, by decide +kernel, by decide +kernel⟩
theorem c_law_least_right {P : Program} {w : World} {K : PySem.W.Frag} {mg : Str → Option Value} {base : Heap} {f : Addr} {fd : FuncData} (F : Fun K "_law_least_right" "_law_least_right" s_law_least_right f fd) (hm : mg "_law_least_right" = some (.ref f)) (z_sum : mg "sum" = none) (z_range : mg "range" = none) (z_len : mg "len" = none) (C_SumTree_least_many : CalleeM P w K mg base 1 "SumTree" "least_many" 2 m_SumTree_least_many) (C_SumTree_sum_of_first : CalleeM P w K mg base 2 "SumTree" "sum_of_first" 2 m_SumTree_sum_of_first) (C_law_draw : Callee P w K mg base 1 "_law_draw" 2 m_law_draw) (C_law_least : Callee P w K mg base 1 "_law_least" 2 m_law_least) (C_law_tree_of : Callee P w K mg base 3 "_law_tree_of" 1 m_law_tree_of) : Callee P w K mg base 4 "_law_least_right" 2 m_law_least_right :=
  ⟨f, fd, ["seed", "row"], fn_ok F sc_law_least_right rfl (fun cdv A outer s H E vs0 hr =>
    (dss_cons (ds_set (i := 2) sc_law_least_right.nd rfl (Or.inl rfl) (de_use C_law_tree_of (hr.mono (by decide)) (by rfl) (da_cons (de_var (pv 1)) da_nil)))
    (dss_cons (ds_for PassesOwn.never rfl (di_range1 (by rfl) z_range (da_cons de_int da_nil)) (dg_name (i := 3) sc_law_least_right.nd rfl (Or.inl rfl))
    (dss_cons (ds_set (i := 4) sc_law_least_right.nd rfl (Or.inl rfl) (de_op op_sub oSub_ok (de_op op_addAll oAdd_ok (de_op op_fdivW oDiv_ok (de_op op_mul2 oMul2_ok (de_callB (cr_sumA rfl) oSum_ok (by rfl) z_sum (by decide +kernel) (da_cons (de_var (pv 1)) da_nil)) (de_use C_law_draw (hr.mono (by decide)) (by rfl) (da_cons (de_var (pv 0)) (da_cons de_int da_nil)))) de_int) (de_use C_law_draw (hr.mono (by decide)) (by rfl) (da_cons (de_var (pv 0)) (da_cons de_int da_nil)))) de_int))
    (dss_cons (ds_if (dt_cmp (op_neP hr.units) oNe_ok (de_meth C_SumTree_least_many (hr.mono (by decide)) (de_var (pv 2)) (da_cons (de_fz (de_var (pv 4))) da_nil)) (de_use C_law_least (hr.mono (by decide)) (by rfl) (da_cons (de_var (pv 1)) (da_cons (de_fz (de_var (pv 4))) da_nil))) (nomark _))
    (dss_one (ds_ret de_bl))
    dss_nil)
    (dss_cons (ds_set (i := 5) sc_law_least_right.nd rfl (Or.inl rfl) (de_use C_law_draw (hr.mono (by decide)) (by rfl) (da_cons (de_var (pv 0)) (da_cons (de_fz (de_op op_addAll oAdd_ok (de_callB call_len oLen_ok (by rfl) z_len (by decide +kernel) (da_cons (de_var (pv 1)) da_nil)) de_int)) da_nil))))
    (dss_cons (ds_set (i := 6) sc_law_least_right.nd rfl (Or.inl rfl) (de_meth C_SumTree_least_many (hr.mono (by decide)) (de_var (pv 2)) (da_cons (de_fz (de_meth C_SumTree_sum_of_first (hr.mono (by decide)) (de_var (pv 2)) (da_cons (de_fz (de_var (pv 5))) da_nil))) da_nil)))
    (dss_one (ds_if (dw_or (dt_cmp op_isAll oIs_ok (de_var (pv 6)) de_non (nomark _)) (dw_or (dt_cmp op_gt oCmpI_ok (de_var (pv 6)) (de_var (pv 5)) (nomark _)) (dw_or1 (dt_cmp (op_neP hr.units) oNe_ok (de_meth C_SumTree_sum_of_first (hr.mono (by decide)) (de_var (pv 2)) (da_cons (de_fz (de_var (pv 6))) da_nil)) (de_meth C_SumTree_sum_of_first (hr.mono (by decide)) (de_var (pv 2)) (da_cons (de_fz (de_var (pv 5))) da_nil)) (nomark _))))).pt
    (dss_one (ds_ret de_bl))
    dss_nil)))))))
    (dss_one (ds_ret (de_cmp op_isAll oIs_ok (de_meth C_SumTree_least_many (hr.mono (by decide)) (de_var (pv 2)) (da_cons (de_fz (de_op op_addAll oAdd_ok (de_callB (cr_sumA rfl) oSum_ok (by rfl) z_sum (by decide +kernel) (da_cons (de_var (pv 1)) da_nil)) de_int)) da_nil)) de_non (nomark _))))))), hm, F.kp, F.binds fun _ _ _ _ _ _ us hl => match us, hl with | [_, _], _ => rfl⟩
abbrev s_SumTree_sum_from_to : Stmt := inClass (top 5) 4
theorem sc_SumTree_sum_from_to : FnScope ["self", "first", "last"] ["self", "first", "last"] (defScope s_SumTree_sum_from_to) := ⟨rfl, rfl, rfl, by decide +kernel, rfl, by decide +kernel, by decide +kernel⟩
theorem c_SumTree_sum_from_to {P : Program} {w : World} {K : PySem.W.Frag} {mg : Str → Option Value} {base : Heap} {f : Addr} {fd : FuncData} {C : Addr} (F : Fun K "sum_from_to" "SumTree.sum_from_to" s_SumTree_sum_from_to f fd) (hC : PySem.W.nsIn K mainGlobals "SumTree" = some (some (.ref C))) (cl : Cls K C) (me : Meth K C "sum_from_to" f) (C_SumTree_sum_of_first : CalleeM P w K mg base 2 "SumTree" "sum_of_first" 2 m_SumTree_sum_of_first) (C_SumTree_need_between : CalleeM P w K mg base 1 "SumTree" "need_between" 3 m_SumTree_need_between) : CalleeM P w K mg base 3 "SumTree" "sum_from_to" 3 m_SumTree_sum_from_to :=
  ⟨C, f, fd, ["self", "first", "last"], hC, cl, me, fn_ok F sc_SumTree_sum_from_to rfl (fun cdv A outer s H E vs0 hr =>
    (dss_cons (ds_expr (de_meth C_SumTree_need_between (hr.mono (by decide)) (de_var (pv 0)) (da_cons (de_var (pv 1)) (da_cons de_int da_nil))))
    (dss_cons (ds_expr (de_meth C_SumTree_need_between (hr.mono (by decide)) (de_var (pv 0)) (da_cons (de_var (pv 2)) (da_cons de_int da_nil))))
    (dss_cons (ds_if (dt_cmp op_lt oCmpI_ok (de_var (pv 2)) (de_var (pv 1)) (nomark _))
    (dss_one (ds_ret de_int))
    dss_nil)
    (dss_one (ds_ret (de_op op_sub oSub_ok (de_meth C_SumTree_sum_of_first (hr.mono (by decide)) (de_var (pv 0)) (da_cons (de_var (pv 2)) da_nil)) (de_meth C_SumTree_sum_of_first (hr.mono (by decide)) (de_var (pv 0)) (da_cons (de_fz (de_op op_sub oSub_ok (de_var (pv 1)) de_int)) da_nil))))))))), F.binds fun _ _ _ _ _ _ us hl => match us, hl with | [_, _, _], _ => rfl⟩
abbrev s_SumTree_number_at : Stmt := inClass (top 5) 5
theorem sc_SumTree_number_at : FnScope ["self", "place"] ["self", "place"] (defScope s_SumTree_number_at) := ⟨rfl, rfl, rfl, by decide +kernel, rfl, by decide +kernel, by decide +kernel⟩
theorem c_SumTree_number_at {P : Program} {w : World} {K : PySem.W.Frag} {mg : Str → Option Value} {base : Heap} {f : Addr} {fd : FuncData} {C : Addr} (F : Fun K "number_at" "SumTree.number_at" s_SumTree_number_at f fd) (hC : PySem.W.nsIn K mainGlobals "SumTree" = some (some (.ref C))) (cl : Cls K C) (me : Meth K C "number_at" f) (C_SumTree_sum_from_to : CalleeM P w K mg base 3 "SumTree" "sum_from_to" 3 m_SumTree_sum_from_to) : CalleeM P w K mg base 4 "SumTree" "number_at" 2 m_SumTree_number_at :=
  ⟨C, f, fd, ["self", "place"], hC, cl, me, fn_ok F sc_SumTree_number_at rfl (fun cdv A outer s H E vs0 hr =>
    (dss_one (ds_ret (de_meth C_SumTree_sum_from_to (hr.mono (by decide)) (de_var (pv 0)) (da_cons (de_var (pv 1)) (da_cons (de_var (pv 1)) da_nil)))))), F.binds fun _ _ _ _ _ _ us hl => match us, hl with | [_, _], _ => rfl⟩
abbrev s_SumTree_row_now : Stmt := inClass (top 5) 6
theorem sc_SumTree_row_now : FnScope ["self", "place"] ["self"] (defScope s_SumTree_row_now) := ⟨rfl, rfl, rfl, by decide +kernel, rfl, by decide +kernel, by decide +kernel⟩
theorem c_SumTree_row_now {P : Program} {w : World} {K : PySem.W.Frag} {mg : Str → Option Value} {base : Heap} {f : Addr} {fd : FuncData} {C : Addr} (F : Fun K "row_now" "SumTree.row_now" s_SumTree_row_now f fd) (hC : PySem.W.nsIn K mainGlobals "SumTree" = some (some (.ref C))) (cl : Cls K C) (me : Meth K C "row_now" f) (z_range : mg "range" = none) (z_tuple : mg "tuple" = none) (C_SumTree_number_at : CalleeM P w K mg base 4 "SumTree" "number_at" 2 m_SumTree_number_at) (A_SumTree_many : AttrIs K "SumTree" "many") : CalleeM P w K mg base 5 "SumTree" "row_now" 1 m_SumTree_row_now :=
  ⟨C, f, fd, ["self"], hC, cl, me, fn_ok F sc_SumTree_row_now rfl (fun cdv A outer s H E vs0 hr =>
    (dss_one (ds_ret (de_callTy call_tuple_of oTupOf_ok (by rfl) z_tuple (by decide +kernel) (da_cons (de_lc rfl sc_SumTree_row_now.nd (di_range2 (by rfl) z_range (da_cons de_int (da_cons (de_op op_addAll oAdd_ok (de_attr A_SumTree_many (pv 0)) de_int) da_nil))) (blkOk_by (own := [(("place" : Str), 1)]) (by kernel_rfl)) (by decide) (fun _ _ _ _ _ => (dg_name (i := 1) sc_SumTree_row_now.nd rfl (Or.inl rfl))) (fun _ _ _ _ _ => dts_nil) (fun _ _ _ _ _ => (de_meth C_SumTree_number_at (hr.mono (by decide)) (de_var (pv 0)) (da_cons (de_fz (de_var (pv 1))) da_nil)))) da_nil))))), F.binds fun _ _ _ _ _ _ us hl => match us, hl with | [_], _ => rfl⟩
abbrev s_law_number : Stmt := top 11
theorem sc_law_number : FnScope ["seed", "way", "great"] ["seed", "way"] (defScope s_law_number) := ⟨rfl, rfl, rfl, by decide +kernel, rfl, by decide +kernel, by decide +kernel⟩
theorem c_law_number {P : Program} {w : World} {K : PySem.W.Frag} {mg : Str → Option Value} {base : Heap} {f : Addr} {fd : FuncData} (F : Fun K "_law_number" "_law_number" s_law_number f fd) (hm : mg "_law_number" = some (.ref f)) (z_int : mg "int" = none) (C_law_draw : Callee P w K mg base 1 "_law_draw" 2 m_law_draw) : Callee P w K mg base 2 "_law_number" 2 m_law_number :=
  ⟨f, fd, ["seed", "way"], fn_ok F sc_law_number rfl (fun cdv A outer s H E vs0 hr =>
    (dss_cons (ds_if (dt_cmp (op_eqP hr.units) oEq_ok (de_var (pv 1)) de_int (nomark _))
    (dss_one (ds_ret (de_op op_sub oSub_ok (de_use C_law_draw (hr.mono (by decide)) (by rfl) (da_cons (de_var (pv 0)) (da_cons de_int da_nil))) de_int)))
    dss_nil)
    (dss_cons (ds_if (dt_cmp (op_eqP hr.units) oEq_ok (de_var (pv 1)) de_int (nomark _))
    (dss_one (ds_ret (de_op op_sub oSub_ok (de_use C_law_draw (hr.mono (by decide)) (by rfl) (da_cons (de_var (pv 0)) (da_cons de_int da_nil))) de_int)))
    dss_nil)
    (dss_cons (ds_set (i := 2) sc_law_number.nd rfl (Or.inl rfl) (de_ix ix_seq oIx_ok (de_lst (da_cons (de_op op_addAll oAdd_ok (de_op op_mul2 oMul2_ok (de_use C_law_draw (hr.mono (by decide)) (by rfl) (da_cons (de_var (pv 0)) (da_cons (de_fz (de_fold (d := .int 100000) (de_op op_pow oPow_ok de_int de_int) (fun _ => rfl))) da_nil))) (de_fold (d := .int 100000) (de_op op_pow oPow_ok de_int de_int) (fun _ => rfl))) (de_use C_law_draw (hr.mono (by decide)) (by rfl) (da_cons (de_var (pv 0)) (da_cons (de_fz (de_fold (d := .int 100000) (de_op op_pow oPow_ok de_int de_int) (fun _ => rfl))) da_nil)))) (da_cons (de_fold (d := .int 9999999999) (de_op op_sub oSub_ok (de_fold (d := .int 10000000000) (de_op op_pow oPow_ok de_int de_int) (fun _ => rfl)) de_int) (fun _ => rfl)) da_nil))) (de_callTy call_int1 oInt1_ok (by rfl) z_int (by decide +kernel) (da_cons (de_cmp (op_eqP hr.units) oEq_ok (de_use C_law_draw (hr.mono (by decide)) (by rfl) (da_cons (de_var (pv 0)) (da_cons de_int da_nil))) de_int (nomark _)) da_nil)) (fun _ _ => rfl)))
    (dss_one (ds_ret (de_op op_mul2 oMul2_ok (de_ix ix_seq oIx_ok (de_lst (da_cons de_int (da_cons (de_fold (d := .int (-1)) (de_neg de_int) (fun _ => rfl)) da_nil))) (de_use C_law_draw (hr.mono (by decide)) (by rfl) (da_cons (de_var (pv 0)) (da_cons de_int da_nil))) (fun _ _ => rfl)) (de_var (pv 2))))))))), hm, F.kp, F.binds fun _ _ _ _ _ _ us hl => match us, hl with | [_, _], _ => rfl⟩
abbrev s_law_cells : Stmt := top 17
theorem sc_law_cells : FnScope ["row", "found", "k"] ["row"] (defScope s_law_cells) := ⟨rfl, rfl, rfl, by decide +kernel, rfl, by decide +kernel, by decide +kernel⟩
theorem c_law_cells {P : Program} {w : World} {K : PySem.W.Frag} {mg : Str → Option Value} {base : Heap} {f : Addr} {fd : FuncData} (F : Fun K "_law_cells" "_law_cells" s_law_cells f fd) (hm : mg "_law_cells" = some (.ref f)) (z_tuple : mg "tuple" = none) (z_len : mg "len" = none) (z_range : mg "range" = none) (z_sum : mg "sum" = none) : Callee P w K mg base 1 "_law_cells" 1 m_law_cells :=
  ⟨f, fd, ["row"], fn_ok F sc_law_cells rfl (fun cdv A outer s H E vs0 hr =>
    (dss_cons (ds_set (i := 1) sc_law_cells.nd rfl (Or.inl rfl) (de_lst da_nil))
    (dss_cons (ds_for PassesOwn.never rfl (di_range2 (by rfl) z_range (da_cons de_int (da_cons (de_op op_addAll oAdd_ok (de_callB call_len oLen_ok (by rfl) z_len (by decide +kernel) (da_cons (de_var (pv 0)) da_nil)) de_int) da_nil))) (dg_name (i := 2) sc_law_cells.nd rfl (Or.inl rfl))
    (dss_one (ds_expr (de_m_append1 (de_var (pv 1)) (da_cons (de_callB (cr_sumA rfl) oSum_ok (by rfl) z_sum (by decide +kernel) (da_cons (de_slice (de_var (pv 0)) (do_some (de_op op_sub oSub_ok (de_var (pv 2)) (de_op op_and oAnd_ok (de_var (pv 2)) (de_op op_sub oSub_ok de_int (de_var (pv 2)))))) (do_some (de_var (pv 2)))) da_nil)) da_nil)))))
    (dss_one (ds_ret (de_callTy call_tuple_of oTupOf_ok (by rfl) z_tuple (by decide +kernel) (da_cons (de_var (pv 1)) da_nil))))))), hm, F.kp, F.binds fun _ _ _ _ _ _ us hl => match us, hl with | [_], _ => rfl⟩
abbrev s_law_trees_right : Stmt := top 19
theorem sc_law_trees_right : FnScope ["seed", "row", "many", "tree", "turn", "first", "last", "cells", "place", "number", "other", "both", "added", "one", "more"] ["seed", "row"] (defScope s_law_trees_right) := ⟨rfl, rfl, rfl, by decide +kernel, rfl, by decide +kernel, by decide +kernel⟩
theorem c_law_trees_right {P : Program} {w : World} {K : PySem.W.Frag} {mg : Str → Option Value} {base : Heap} {f : Addr} {fd : FuncData} (F : Fun K "_law_trees_right" "_law_trees_right" s_law_trees_right f fd) (hm : mg "_law_trees_right" = some (.ref f)) (z_tuple : mg "tuple" = none) (z_abs : mg "abs" = none) (z_zip : mg "zip" = none) (z_range : mg "range" = none) (z_sum : mg "sum" = none) (z_len : mg "len" = none) (C_SumTree_cells_now : CalleeM P w K mg base 1 "SumTree" "cells_now" 1 m_SumTree_cells_now) (C_law_least_right : Callee P w K mg base 4 "_law_least_right" 2 m_law_least_right) (C_law_tree_of : Callee P w K mg base 3 "_law_tree_of" 1 m_law_tree_of) (C_law_draw : Callee P w K mg base 1 "_law_draw" 2 m_law_draw) (C_SumTree_row_now : CalleeM P w K mg base 5 "SumTree" "row_now" 1 m_SumTree_row_now) (C_SumTree_put_to : CalleeM P w K mg base 2 "SumTree" "put_to" 3 m_SumTree_put_to) (C_law_number : Callee P w K mg base 2 "_law_number" 2 m_law_number) (C_law_cells : Callee P w K mg base 1 "_law_cells" 1 m_law_cells) (C_SumTree_sum_from_to : CalleeM P w K mg base 3 "SumTree" "sum_from_to" 3 m_SumTree_sum_from_to) (C_SumTree_sum_of_first : CalleeM P w K mg base 2 "SumTree" "sum_of_first" 2 m_SumTree_sum_of_first) : Callee P w K mg base 6 "_law_trees_right" 2 m_law_trees_right :=
  ⟨f, fd, ["seed", "row"], fn_ok F sc_law_trees_right rfl (fun cdv A outer s H E vs0 hr =>
    (dss_cons (ds_set (i := 2) sc_law_trees_right.nd rfl (Or.inl rfl) (de_callB call_len oLen_ok (by rfl) z_len (by decide +kernel) (da_cons (de_var (pv 1)) da_nil)))
    (dss_cons (ds_set (i := 3) sc_law_trees_right.nd rfl (Or.inl rfl) (de_use C_law_tree_of (hr.mono (by decide)) (by rfl) (da_cons (de_var (pv 1)) da_nil)))
    (dss_cons (ds_if (dw_or (dt_cmp (op_neP hr.units) oNe_ok (de_meth0 C_SumTree_row_now (hr.mono (by decide)) (de_var (pv 3))) (de_var (pv 1)) (nomark _)) (dw_or1 (dt_cmp (op_neP hr.units) oNe_ok (de_meth C_SumTree_sum_of_first (hr.mono (by decide)) (de_var (pv 3)) (da_cons (de_fz (de_var (pv 2))) da_nil)) (de_callB (cr_sumA rfl) oSum_ok (by rfl) z_sum (by decide +kernel) (da_cons (de_var (pv 1)) da_nil)) (nomark _)))).pt
    (dss_one (ds_ret de_bl))
    dss_nil)
    (dss_cons (ds_for PassesOwn.never rfl (di_range1 (by rfl) z_range (da_cons de_int da_nil)) (dg_name (i := 4) sc_law_trees_right.nd rfl (Or.inl rfl))
    (dss_cons (ds_set (i := 5) sc_law_trees_right.nd rfl (Or.inl rfl) (de_op op_addAll oAdd_ok de_int (de_use C_law_draw (hr.mono (by decide)) (by rfl) (da_cons (de_var (pv 0)) (da_cons (de_fz (de_var (pv 2))) da_nil)))))
    (dss_cons (ds_set (i := 6) sc_law_trees_right.nd rfl (Or.inl rfl) (de_op op_addAll oAdd_ok (de_var (pv 5)) (de_use C_law_draw (hr.mono (by decide)) (by rfl) (da_cons (de_var (pv 0)) (da_cons (de_fz (de_op op_sub oSub_ok (de_op op_addAll oAdd_ok (de_var (pv 2)) de_int) (de_var (pv 5)))) da_nil)))))
    (dss_cons (ds_if (dt_cmp (op_neP hr.units) oNe_ok (de_meth C_SumTree_sum_from_to (hr.mono (by decide)) (de_var (pv 3)) (da_cons (de_fz (de_var (pv 5))) (da_cons (de_fz (de_var (pv 6))) da_nil))) (de_op op_sub oSub_ok (de_meth C_SumTree_sum_of_first (hr.mono (by decide)) (de_var (pv 3)) (da_cons (de_fz (de_var (pv 6))) da_nil)) (de_meth C_SumTree_sum_of_first (hr.mono (by decide)) (de_var (pv 3)) (da_cons (de_fz (de_op op_sub oSub_ok (de_var (pv 5)) de_int)) da_nil))) (nomark _))
    (dss_one (ds_ret de_bl))
    dss_nil)
    (dss_one (ds_if (dw_or (dt_cmp (op_neP hr.units) oNe_ok (de_meth C_SumTree_sum_from_to (hr.mono (by decide)) (de_var (pv 3)) (da_cons (de_fz (de_var (pv 5))) (da_cons (de_fz (de_var (pv 6))) da_nil))) (de_callB (cr_sumA rfl) oSum_ok (by rfl) z_sum (by decide +kernel) (da_cons (de_slice (de_var (pv 1)) (do_some (de_op op_sub oSub_ok (de_var (pv 5)) de_int)) (do_some (de_var (pv 6)))) da_nil)) (nomark _)) (dw_or1 (dt_cmp (op_neP hr.units) oNe_ok (de_meth C_SumTree_sum_of_first (hr.mono (by decide)) (de_var (pv 3)) (da_cons (de_fz (de_var (pv 6))) da_nil)) (de_callB (cr_sumA rfl) oSum_ok (by rfl) z_sum (by decide +kernel) (da_cons (de_slice (de_var (pv 1)) do_none (do_some (de_var (pv 6)))) da_nil)) (nomark _)))).pt
    (dss_one (ds_ret de_bl))
    dss_nil))))))
    (dss_cons (ds_set (i := 7) sc_law_trees_right.nd rfl (Or.inl rfl) (de_meth0 C_SumTree_cells_now (hr.mono (by decide)) (de_var (pv 3))))
    (dss_cons (ds_if (dt_cmp (op_neP hr.units) oNe_ok (de_var (pv 7)) (de_use C_law_cells (hr.mono (by decide)) (by rfl) (da_cons (de_var (pv 1)) da_nil)) (nomark _))
    (dss_one (ds_ret de_bl))
    dss_nil)
    (dss_cons (ds_set (i := 8) sc_law_trees_right.nd rfl (Or.inl rfl) (de_op op_addAll oAdd_ok de_int (de_use C_law_draw (hr.mono (by decide)) (by rfl) (da_cons (de_var (pv 0)) (da_cons (de_fz (de_var (pv 2))) da_nil)))))
    (dss_cons (ds_set (i := 9) sc_law_trees_right.nd rfl (Or.inl rfl) (de_use C_law_number (hr.mono (by decide)) (by rfl) (da_cons (de_var (pv 0)) (da_cons de_int da_nil))))
    (dss_cons (ds_expr (de_meth C_SumTree_put_to (hr.mono (by decide)) (de_var (pv 3)) (da_cons (de_fz (de_var (pv 8))) (da_cons (de_fz (de_var (pv 9))) da_nil))))
    (dss_cons (ds_expr (de_meth C_SumTree_put_to (hr.mono (by decide)) (de_var (pv 3)) (da_cons (de_fz (de_var (pv 8))) (da_cons (de_fz (de_op op_sub oSub_ok de_int (de_var (pv 9)))) da_nil))))
    (dss_cons (ds_if (dw_or (dt_cmp (op_neP hr.units) oNe_ok (de_meth0 C_SumTree_cells_now (hr.mono (by decide)) (de_var (pv 3))) (de_var (pv 7)) (nomark _)) (dw_or1 (dt_cmp (op_neP hr.units) oNe_ok (de_meth0 C_SumTree_row_now (hr.mono (by decide)) (de_var (pv 3))) (de_var (pv 1)) (nomark _)))).pt
    (dss_one (ds_ret de_bl))
    dss_nil)
    (dss_cons (ds_set (i := 10) sc_law_trees_right.nd rfl (Or.inl rfl) (de_callTy call_tuple_of oTupOf_ok (by rfl) z_tuple (by decide +kernel) (da_cons (de_lc rfl sc_law_trees_right.nd (di_seq (de_var (pv 1))) (blkOk_by (own := [(("one" : Str), 13)]) (by kernel_rfl)) (by decide) (fun _ _ _ _ _ => (dg_name (i := 13) sc_law_trees_right.nd rfl (Or.inl rfl))) (fun _ _ _ _ _ => dts_nil) (fun _ _ _ _ _ => (de_op op_sub oSub_ok de_int (de_op op_fdivW oDiv_ok (de_var (pv 13)) (de_op op_addAll oAdd_ok de_int (de_use C_law_draw (hr.mono (by decide)) (by rfl) (da_cons (de_var (pv 0)) (da_cons de_int da_nil)))))))) da_nil)))
    (dss_cons (ds_set (i := 11) sc_law_trees_right.nd rfl (Or.inl rfl) (de_use C_law_tree_of (hr.mono (by decide)) (by rfl) (da_cons (de_fz (de_lc rfl sc_law_trees_right.nd (di_zipA (by rfl) z_zip (da_cons (de_var (pv 1)) (da_cons (de_var (pv 10)) da_nil))) (blkOk_by (own := [(("one" : Str), 13), (("more" : Str), 14)]) (by kernel_rfl)) (by decide) (fun _ _ _ _ _ => (dg_tup rfl (dgs_cons (dg_name (i := 13) sc_law_trees_right.nd rfl (Or.inl rfl)) (dgs_cons (dg_name (i := 14) sc_law_trees_right.nd rfl (Or.inl rfl)) dgs_nil)))) (fun _ _ _ _ _ => dts_nil) (fun _ _ _ _ _ => (de_op op_addAll oAdd_ok (de_var (pv 13)) (de_var (pv 14)))))) da_nil)))
    (dss_cons (ds_setLc (i := 12) rfl sc_law_trees_right.nd rfl rfl (sw_true rfl rfl rfl (by decide +kernel)) (di_zipA (by rfl) z_zip (da_cons (de_var (pv 7)) (da_cons (de_meth0 C_SumTree_cells_now (hr.mono (by decide)) (de_use C_law_tree_of (hr.mono (by decide)) (by rfl) (da_cons (de_fz (de_var (pv 10))) da_nil))) da_nil))) (blkOk_by (own := [(("one" : Str), 13), (("more" : Str), 14)]) (by kernel_rfl)) (by decide) (fun _ _ _ _ _ => (dg_tup rfl (dgs_cons (dg_name (i := 13) sc_law_trees_right.nd rfl (Or.inl rfl)) (dgs_cons (dg_name (i := 14) sc_law_trees_right.nd rfl (Or.inl rfl)) dgs_nil)))) (fun _ _ _ _ _ => dts_nil) (fun _ _ _ _ _ => (de_op op_addAll oAdd_ok (de_var (pv 13)) (de_var (pv 14)))))
    (dss_one (ds_ret (de_and (de_cmp (op_eqP hr.units) oEq_ok (de_meth0 C_SumTree_cells_now (hr.mono (by decide)) (de_var (pv 11))) (de_callTy call_tuple_of oTupOf_ok (by rfl) z_tuple (by decide +kernel) (da_cons (de_var (pv 12)) da_nil)) (nomark _)) (de_one (de_use C_law_least_right (hr.mono (by decide)) (by rfl) (da_cons (de_var (pv 0)) (da_cons (de_fz (de_callTy call_tuple_of oTupOf_ok (by rfl) z_tuple (by decide +kernel) (da_cons (de_lc rfl sc_law_trees_right.nd (di_seq (de_var (pv 1))) (blkOk_by (own := [(("one" : Str), 13)]) (by kernel_rfl)) (by decide) (fun _ _ _ _ _ => (dg_name (i := 13) sc_law_trees_right.nd rfl (Or.inl rfl))) (fun _ _ _ _ _ => dts_nil) (fun _ _ _ _ _ => (de_callB call_abs oAbs_ok (by rfl) z_abs (by decide +kernel) (da_cons (de_var (pv 13)) da_nil)))) da_nil))) da_nil)))))))))))))))))))))), hm, F.kp, F.binds fun _ _ _ _ _ _ us hl => match us, hl with | [_, _], _ => rfl⟩
abbrev s_law_is_whole : Stmt := top 12
theorem sc_law_is_whole : FnScope ["found", "due"] ["found", "due"] (defScope s_law_is_whole) := ⟨rfl, rfl, rfl, by decide +kernel, rfl, by decide +kernel, by decide +kernel⟩
theorem c_law_is_whole {P : Program} {w : World} {K : PySem.W.Frag} {mg : Str → Option Value} {base : Heap} {f : Addr} {fd : FuncData} (F : Fun K "_law_is_whole" "_law_is_whole" s_law_is_whole f fd) (hm : mg "_law_is_whole" = some (.ref f)) (z_isinstance : mg "isinstance" = none) (z_int : mg "int" = none) (z_bool : mg "bool" = none) : Callee P w K mg base 1 "_law_is_whole" 2 m_law_is_whole :=
  ⟨f, fd, ["found", "due"], fn_ok F sc_law_is_whole rfl (fun cdv A outer s H E vs0 hr =>
    (dss_one (ds_ret (de_and (de_isi (T := "int") (by decide +kernel) (by rfl) z_isinstance (by rfl) z_int (by decide +kernel) (de_var (pv 0))) (de_and (de_not (de_isi (T := "bool") (by decide +kernel) (by rfl) z_isinstance (by rfl) z_bool (by decide +kernel) (de_var (pv 0)))) (de_one (de_cmp (op_eqP hr.units) oEq_ok (de_var (pv 0)) (de_var (pv 1)) (nomark _)))))))), hm, F.kp, F.binds fun _ _ _ _ _ _ us hl => match us, hl with | [_, _], _ => rfl⟩
abbrev s_law_are_whole : Stmt := top 13
theorem sc_law_are_whole : FnScope ["found", "due", "one", "other"] ["found", "due"] (defScope s_law_are_whole) := ⟨rfl, rfl, rfl, by decide +kernel, rfl, by decide +kernel, by decide +kernel⟩
theorem c_law_are_whole {P : Program} {w : World} {K : PySem.W.Frag} {mg : Str → Option Value} {base : Heap} {f : Addr} {fd : FuncData} (F : Fun K "_law_are_whole" "_law_are_whole" s_law_are_whole f fd) (hm : mg "_law_are_whole" = some (.ref f)) (z_zip : mg "zip" = none) (z_isinstance : mg "isinstance" = none) (z_tuple : mg "tuple" = none) (z_len : mg "len" = none) (C_law_is_whole : Callee P w K mg base 1 "_law_is_whole" 2 m_law_is_whole) : Callee P w K mg base 2 "_law_are_whole" 2 m_law_are_whole :=
  ⟨f, fd, ["found", "due"], fn_ok F sc_law_are_whole rfl (fun cdv A outer s H E vs0 hr =>
    (dss_cons (ds_if (dw_or (dt_not (dt_val (de_isi (T := "tuple") (by decide +kernel) (by rfl) z_isinstance (by rfl) z_tuple (by decide +kernel) (de_var (pv 0))))) (dw_or1 (dt_cmp (op_neP hr.units) oNe_ok (de_callB call_len oLen_ok (by rfl) z_len (by decide +kernel) (da_cons (de_var (pv 0)) da_nil)) (de_callB call_len oLen_ok (by rfl) z_len (by decide +kernel) (da_cons (de_var (pv 1)) da_nil)) (nomark _)))).pt
    (dss_one (ds_ret de_bl))
    dss_nil)
    (dss_one (ds_ret (de_cmp (op_eqP hr.units) oEq_ok (de_lc rfl sc_law_are_whole.nd (di_zipA (by rfl) z_zip (da_cons (de_var (pv 0)) (da_cons (de_var (pv 1)) da_nil))) (blkOk_by (own := [(("one" : Str), 2), (("other" : Str), 3)]) (by kernel_rfl)) (by decide) (fun _ _ _ _ _ => (dg_tup rfl (dgs_cons (dg_name (i := 2) sc_law_are_whole.nd rfl (Or.inl rfl)) (dgs_cons (dg_name (i := 3) sc_law_are_whole.nd rfl (Or.inl rfl)) dgs_nil)))) (fun _ _ _ _ _ => (dts_one (dt_not (dt_val (de_use C_law_is_whole (hr.mono (by decide)) (by rfl) (da_cons (de_fz (de_var (pv 2))) (da_cons (de_fz (de_var (pv 3))) da_nil))))))) (fun _ _ _ _ _ => de_int)) (de_lst da_nil) (nomark _)))))), hm, F.kp, F.binds fun _ _ _ _ _ _ us hl => match us, hl with | [_, _], _ => rfl⟩
abbrev s_places_of : Stmt := top 6
theorem sc_places_of : FnScope ["numbers", "unlike", "places", "place", "number"] ["numbers"] (defScope s_places_of) := ⟨rfl, rfl, rfl, by decide +kernel, rfl, by decide +kernel, by decide +kernel⟩
theorem c_places_of {P : Program} {w : World} {K : PySem.W.Frag} {mg : Str → Option Value} {base : Heap} {f : Addr} {fd : FuncData} (F : Fun K "places_of" "places_of" s_places_of f fd) (hm : mg "places_of" = some (.ref f)) (z_tuple : mg "tuple" = none) (z_enumerate : mg "enumerate" = none) (z_dict : mg "dict" = none) (z_sorted : mg "sorted" = none) (z_set : mg "set" = none) : Callee P w K mg base 1 "places_of" 1 m_places_of :=
  ⟨f, fd, ["numbers"], fn_ok F sc_places_of rfl (fun cdv A outer s H E vs0 hr =>
    (dss_cons (ds_set (i := 1) sc_places_of.nd rfl (Or.inl rfl) (de_sortSet hr.units rfl (by rfl) z_sorted (by rfl) z_set (da_cons (de_var (pv 0)) da_nil)))
    (dss_cons (ds_set (i := 2) sc_places_of.nd rfl (Or.inr rfl) (de_callTy (call_dictA rfl) oDict_ok (by rfl) z_dict (by decide +kernel) (da_cons (de_lc rfl sc_places_of.nd (di_enumA (by rfl) z_enumerate (da_cons (de_var (pv 1)) da_nil)) (blkOk_by (own := [(("place" : Str), 3), (("number" : Str), 4)]) (by kernel_rfl)) (by decide) (fun _ _ _ _ _ => (dg_tup rfl (dgs_cons (dg_name (i := 3) sc_places_of.nd rfl (Or.inl rfl)) (dgs_cons (dg_name (i := 4) sc_places_of.nd rfl (Or.inl rfl)) dgs_nil)))) (fun _ _ _ _ _ => dts_nil) (fun _ _ _ _ _ => (de_tup (da_cons (de_var (pv 4)) (da_cons (de_op op_addAll oAdd_ok (de_var (pv 3)) de_int) da_nil))))) da_nil)))
    (dss_one (ds_ret (de_tup (da_cons (de_callTy call_tuple_of oTupOf_ok (by rfl) z_tuple (by decide +kernel) (da_cons (de_var (pv 1)) da_nil)) (da_cons (de_callTy call_tuple_of oTupOf_ok (by rfl) z_tuple (by decide +kernel) (da_cons (de_lc rfl sc_places_of.nd (di_seq (de_var (pv 0))) (blkOk_by (own := [(("number" : Str), 4)]) (by kernel_rfl)) (by decide) (fun _ _ _ _ _ => (dg_name (i := 4) sc_places_of.nd rfl (Or.inl rfl))) (fun _ _ _ _ _ => dts_nil) (fun _ _ _ _ _ => (de_ix (ix_dict hr.units) oIxD_ok (de_var (pv 2)) (de_var (pv 4)) (fun _ _ => rfl)))) da_nil)) da_nil)))))))), hm, F.kp, F.binds fun _ _ _ _ _ _ us hl => match us, hl with | [_], _ => rfl⟩
abbrev s_law_places_right : Stmt := top 15
theorem sc_law_places_right : FnScope ["numbers", "unlike", "places", "due", "tree", "k", "place", "number", "other"] ["numbers"] (defScope s_law_places_right) := ⟨rfl, rfl, rfl, by decide +kernel, rfl, by decide +kernel, by decide +kernel⟩
theorem c_law_places_right {P : Program} {w : World} {K : PySem.W.Frag} {mg : Str → Option Value} {base : Heap} {f : Addr} {fd : FuncData} (F : Fun K "_law_places_right" "_law_places_right" s_law_places_right f fd) (hm : mg "_law_places_right" = some (.ref f)) (z_tuple : mg "tuple" = none) (z_enumerate : mg "enumerate" = none) (z_len : mg "len" = none) (z_isinstance : mg "isinstance" = none) (z_sorted : mg "sorted" = none) (z_set : mg "set" = none) (C_SumTree_row_now : CalleeM P w K mg base 5 "SumTree" "row_now" 1 m_SumTree_row_now) (C_SumTree_put_to : CalleeM P w K mg base 2 "SumTree" "put_to" 3 m_SumTree_put_to) (C_SumTree_sum_of_first : CalleeM P w K mg base 2 "SumTree" "sum_of_first" 2 m_SumTree_sum_of_first) (C_SumTree___init__ : CalleeC P w K mg base 1 "SumTree" "SumTree" 2 m_SumTree___init__) (C_law_are_whole : Callee P w K mg base 2 "_law_are_whole" 2 m_law_are_whole) (C_places_of : Callee P w K mg base 1 "places_of" 1 m_places_of) : Callee P w K mg base 6 "_law_places_right" 1 m_law_places_right :=
  ⟨f, fd, ["numbers"], fn_ok F sc_law_places_right rfl (fun cdv A outer s H E vs0 hr =>
    (dss_cons (ds_asg (de_use C_places_of (hr.mono (by decide)) (by rfl) (da_cons (de_wk (de_var (pv 0))) da_nil)) (dg_tup rfl (dgs_cons (dg_name (i := 1) sc_law_places_right.nd rfl (Or.inr rfl)) (dgs_cons (dg_name (i := 2) sc_law_places_right.nd rfl (Or.inl rfl)) dgs_nil))))
    (dss_cons (ds_if (dw_or (dt_not (dt_val (de_isi (T := "tuple") (by decide +kernel) (by rfl) z_isinstance (by rfl) z_tuple (by decide +kernel) (de_use C_places_of (hr.mono (by decide)) (by rfl) (da_cons (de_wk (de_var (pv 0))) da_nil))))) (dw_or1 (dt_not (dt_val (de_use C_law_are_whole (hr.mono (by decide)) (by rfl) (da_cons (de_fz (de_var (pv 1))) (da_cons (de_fz (de_sortSet hr.units rfl (by rfl) z_sorted (by rfl) z_set (da_cons (de_wk (de_var (pv 0))) da_nil))) da_nil))))))).pt
    (dss_one (ds_ret de_bl))
    dss_nil)
    (dss_cons (ds_setLc (i := 3) rfl sc_law_places_right.nd rfl rfl (sw_true rfl rfl rfl (by decide +kernel)) (di_seq (de_wk (de_var (pv 0)))) (blkOk_by (own := [(("number" : Str), 7)]) (by kernel_rfl)) (by decide) (fun _ _ _ _ _ => (dg_name (i := 7) sc_law_places_right.nd rfl (Or.inr rfl))) (fun _ _ _ _ _ => dts_nil) (fun _ _ _ _ _ => (de_op op_addAll oAdd_ok de_int (de_callB call_len oLen_ok (by rfl) z_len (by decide +kernel) (da_cons (de_lc rfl sc_law_places_right.nd (di_seq (de_var (pv 1))) (blkOk_by (own := [(("other" : Str), 8)]) (by kernel_rfl)) (by decide) (fun _ _ _ _ _ => (dg_name (i := 8) sc_law_places_right.nd rfl (Or.inl rfl))) (fun _ _ _ _ _ => (dts_one (dt_cmp op_lt oCmpI_ok (de_var (pv 8)) (de_var (pv 7)) (nomark _)))) (fun _ _ _ _ _ => de_int)) da_nil)))))
    (dss_cons (ds_if (dw_or (dt_not (dt_val (de_use C_law_are_whole (hr.mono (by decide)) (by rfl) (da_cons (de_fz (de_var (pv 2))) (da_cons (de_fz (de_var (pv 3))) da_nil))))) (dw_or1 (dt_cmp (op_neP hr.units) oNe_ok (de_use C_places_of (hr.mono (by decide)) (by rfl) (da_cons (de_wk (de_var (pv 0))) da_nil)) (de_tup (da_cons (de_var (pv 1)) (da_cons (de_var (pv 2)) da_nil))) (nomark _)))).pt
    (dss_one (ds_ret de_bl))
    dss_nil)
    (dss_cons (ds_if (dt_cmp (op_eqP hr.units) oEq_ok (de_wk (de_var (pv 0))) (de_tup da_nil) (nomark _))
    (dss_one (ds_ret de_bl))
    dss_nil)
    (dss_cons (ds_set (i := 4) sc_law_places_right.nd rfl (Or.inl rfl) (de_make C_SumTree___init__ (hr.mono (by decide)) (by rfl) (da_cons (de_fz (de_callB call_len oLen_ok (by rfl) z_len (by decide +kernel) (da_cons (de_var (pv 1)) da_nil))) da_nil)))
    (dss_cons (ds_for PassesOwn.never rfl (di_enumA (by rfl) z_enumerate (da_cons (de_var (pv 2)) da_nil)) (dg_tup rfl (dgs_cons (dg_name (i := 5) sc_law_places_right.nd rfl (Or.inr rfl)) (dgs_cons (dg_name (i := 6) sc_law_places_right.nd rfl (Or.inl rfl)) dgs_nil)))
    (dss_cons (ds_if (dt_cmp (op_neP hr.units) oNe_ok (de_meth C_SumTree_sum_of_first (hr.mono (by decide)) (de_var (pv 4)) (da_cons (de_fz (de_var (pv 6))) da_nil)) (de_callB call_len oLen_ok (by rfl) z_len (by decide +kernel) (da_cons (de_lc rfl sc_law_places_right.nd (di_seq (de_slice (de_wk (de_var (pv 0))) do_none (do_some (de_var (pv 5))))) (blkOk_by (own := [(("other" : Str), 8)]) (by kernel_rfl)) (by decide) (fun _ _ _ _ _ => (dg_name (i := 8) sc_law_places_right.nd rfl (Or.inl rfl))) (fun _ _ _ _ _ => (dts_one (dt_cmp op_le oCmpI_ok (de_var (pv 8)) (de_ix ix_seq oIx_ok (de_wk (de_var (pv 0))) (de_var (pv 5)) (fun _ _ => rfl)) (nomark _)))) (fun _ _ _ _ _ => de_int)) da_nil)) (nomark _))
    (dss_one (ds_ret de_bl))
    dss_nil)
    (dss_one (ds_expr (de_meth C_SumTree_put_to (hr.mono (by decide)) (de_var (pv 4)) (da_cons (de_fz (de_var (pv 6))) (da_cons de_int da_nil)))))))
    (dss_one (ds_ret (de_cmp (op_eqP hr.units) oEq_ok (de_meth0 C_SumTree_row_now (hr.mono (by decide)) (de_var (pv 4))) (de_callTy call_tuple_of oTupOf_ok (by rfl) z_tuple (by decide +kernel) (da_cons (de_lc rfl sc_law_places_right.nd (di_seq (de_var (pv 1))) (blkOk_by (own := [(("number" : Str), 7)]) (by kernel_rfl)) (by decide) (fun _ _ _ _ _ => (dg_name (i := 7) sc_law_places_right.nd rfl (Or.inl rfl))) (fun _ _ _ _ _ => dts_nil) (fun _ _ _ _ _ => (de_tcount (de_var (pv 0)) (da_cons (de_var (pv 7)) da_nil)))) da_nil)) (nomark _)))))))))))), hm, F.kp, F.binds fun _ _ _ _ _ _ us hl => match us, hl with | [_], _ => rfl⟩
abbrev s_law_numbers : Stmt := top 14
theorem sc_law_numbers : FnScope ["seed", "way", "found", "k"] ["seed"] (defScope s_law_numbers) := ⟨rfl, rfl, rfl, by decide +kernel, rfl, by decide +kernel, by decide +kernel⟩
theorem c_law_numbers {P : Program} {w : World} {K : PySem.W.Frag} {mg : Str → Option Value} {base : Heap} {f : Addr} {fd : FuncData} (F : Fun K "_law_numbers" "_law_numbers" s_law_numbers f fd) (hm : mg "_law_numbers" = some (.ref f)) (z_tuple : mg "tuple" = none) (z_range : mg "range" = none) (z_len : mg "len" = none) (C_law_draw : Callee P w K mg base 1 "_law_draw" 2 m_law_draw) (C_law_number : Callee P w K mg base 2 "_law_number" 2 m_law_number) : Callee P w K mg base 3 "_law_numbers" 1 m_law_numbers :=
  ⟨f, fd, ["seed"], fn_ok F sc_law_numbers rfl (fun cdv A outer s H E vs0 hr =>
    (dss_cons (ds_set (i := 1) sc_law_numbers.nd rfl (Or.inl rfl) (de_use C_law_draw (hr.mono (by decide)) (by rfl) (da_cons (de_var (pv 0)) (da_cons de_int da_nil))))
    (dss_cons (ds_set (i := 2) sc_law_numbers.nd rfl (Or.inl rfl) (de_lst da_nil))
    (dss_cons (ds_for PassesOwn.never rfl (di_range1 (by rfl) z_range (da_cons (de_ix ix_seq oIx_ok (de_lst (da_cons (de_use C_law_draw (hr.mono (by decide)) (by rfl) (da_cons (de_var (pv 0)) (da_cons de_int da_nil))) (da_cons (de_use C_law_draw (hr.mono (by decide)) (by rfl) (da_cons (de_var (pv 0)) (da_cons de_int da_nil))) (da_cons (de_use C_law_draw (hr.mono (by decide)) (by rfl) (da_cons (de_var (pv 0)) (da_cons de_int da_nil))) da_nil)))) (de_use C_law_draw (hr.mono (by decide)) (by rfl) (da_cons (de_var (pv 0)) (da_cons de_int da_nil))) (fun _ _ => rfl)) da_nil)) (dg_name (i := 3) sc_law_numbers.nd rfl (Or.inl rfl))
    (dss_cons (ds_expr (de_m_append1 (de_var (pv 2)) (da_cons (de_use C_law_number (hr.mono (by decide)) (by rfl) (da_cons (de_var (pv 0)) (da_cons (de_fz (de_var (pv 1))) da_nil))) da_nil)))
    (dss_one (ds_if (dt_cmp (op_eqP hr.units) oEq_ok (de_use C_law_draw (hr.mono (by decide)) (by rfl) (da_cons (de_var (pv 0)) (da_cons de_int da_nil))) de_int (nomark _))
    (dss_one (ds_sub (de_ix ix_seq oIx_ok (de_var (pv 2)) (de_use C_law_draw (hr.mono (by decide)) (by rfl) (da_cons (de_var (pv 0)) (da_cons (de_fz (de_callB call_len oLen_ok (by rfl) z_len (by decide +kernel) (da_cons (de_var (pv 2)) da_nil))) da_nil))) (fun _ _ => rfl)) (de_var (pv 2)) (de_fold (d := .int (-1)) (de_neg de_int) (fun _ => rfl))))
    dss_nil))))
    (dss_one (ds_ret (de_callTy call_tupleX oTupX_ok (by rfl) z_tuple (by decide +kernel) (da_cons (de_var (pv 2)) da_nil)))))))), hm, F.kp, F.binds fun _ _ _ _ _ _ us hl => match us, hl with | [_], _ => rfl⟩
abbrev s_law_seed : Stmt := top 9
theorem sc_law_seed : FnScope ["cell", "number"] ["cell"] (defScope s_law_seed) := ⟨rfl, rfl, rfl, by decide +kernel, rfl, by decide +kernel, by decide +kernel⟩
theorem c_law_seed {P : Program} {w : World} {K : PySem.W.Frag} {mg : Str → Option Value} {base : Heap} {f : Addr} {fd : FuncData} (F : Fun K "_law_seed" "_law_seed" s_law_seed f fd) (hm : mg "_law_seed" = some (.ref f)) (z_int : mg "int" = none) (z_max : mg "max" = none) : Callee P w K mg base 1 "_law_seed" 1 m_law_seed :=
  ⟨f, fd, ["cell"], fn_ok F sc_law_seed rfl (fun cdv A outer s H E vs0 hr =>
    (dss_cons (ds_set (i := 1) sc_law_seed.nd rfl (Or.inl rfl) (de_callB (cr_maxA rfl) oMax_ok (by rfl) z_max (by decide +kernel) (da_cons (de_var (pv 0)) (da_cons (de_op op_sub oSub_ok de_int (de_var (pv 0))) da_nil))))
    (dss_one (ds_ret (de_lst (da_cons (de_var (pv 1)) (da_cons (de_callTy call_int1 oInt1_ok (by rfl) z_int (by decide +kernel) (da_cons (de_cmp op_ge oCmpI_ok (de_var (pv 1)) (de_fold (d := .int 1000000000000000000) (de_op op_pow oPow_ok de_int de_int) (fun _ => rfl)) (nomark _)) da_nil)) (da_cons de_int (da_cons (de_op op_mod oMod_ok (de_var (pv 0)) de_int) da_nil))))))))), hm, F.kp, F.binds fun _ _ _ _ _ _ us hl => match us, hl with | [_], _ => rfl⟩
abbrev s_law : Stmt := top 21
theorem sc_law : FnScope ["script", "cell", "seed", "numbers"] ["script"] (defScope s_law) := ⟨rfl, rfl, rfl, by decide +kernel, rfl, by decide +kernel, by decide +kernel⟩
theorem c_law_fn {P : Program} {w : World} {K : PySem.W.Frag} {mg : Str → Option Value} {base : Heap} {f : Addr} {fd : FuncData} (F : Fun K "law" "law" s_law f fd) (C_law_folded : Callee P w K mg base 1 "_law_folded" 1 m_law_folded) (C_law_trees_right : Callee P w K mg base 6 "_law_trees_right" 2 m_law_trees_right) (C_law_places_right : Callee P w K mg base 6 "_law_places_right" 1 m_law_places_right) (C_law_numbers : Callee P w K mg base 3 "_law_numbers" 1 m_law_numbers) (C_law_seed : Callee P w K mg base 1 "_law_seed" 1 m_law_seed) : FnOk P w K mg base CX0 7 f fd ["script"] (spD K 1 m_law) :=
  fn_ok F sc_law rfl (fun cdv A outer s H E vs0 hr =>
    (dss_cons (ds_for PassesOwn.never rfl (di_seq (de_op op_addAll oAdd_ok (de_slice (de_var (pv 0)) do_none (do_some de_int)) (de_lst (da_cons (de_use C_law_folded (hr.mono (by decide)) (by rfl) (da_cons (de_var (pv 0)) da_nil)) da_nil)))) (dg_name (i := 1) sc_law.nd rfl (Or.inl rfl))
    (dss_cons (ds_set (i := 2) sc_law.nd rfl (Or.inl rfl) (de_use C_law_seed (hr.mono (by decide)) (by rfl) (da_cons (de_fz (de_var (pv 1))) da_nil)))
    (dss_cons (ds_set (i := 3) sc_law.nd rfl (Or.inl rfl) (de_use C_law_numbers (hr.mono (by decide)) (by rfl) (da_cons (de_var (pv 2)) da_nil)))
    (dss_cons (ds_if (dt_not (dt_val (de_use C_law_places_right (hr.mono (by decide)) (by rfl) (da_cons (de_var (pv 3)) da_nil))))
    (dss_one (ds_ret de_bl))
    dss_nil)
    (dss_one (ds_if (dw_and (dt_cmp (op_neP hr.units) oNe_ok (de_wk (de_var (pv 3))) (de_tup da_nil) (nomark _)) (dw_and1 (dt_not (dt_val (de_use C_law_trees_right (hr.mono (by decide)) (by rfl) (da_cons (de_var (pv 2)) (da_cons (de_fz (de_wk (de_var (pv 3)))) da_nil))))))).pt
    (dss_one (ds_ret de_bl))
    dss_nil))))))
    (dss_one (ds_ret de_bl))))
theorem all_mk {l : PySem.W.OpenLaw} {w : World} {K : PySem.W.Frag} {h : Heap} {mg : Str → Option Value} {fa : Addr} (X : K.In h) (G : h.Ns mainGlobals mg) (hfa : mg "law" = some (.ref fa))
    {f0 f1 f2 f3 f4 f5 f6 f7 f8 f9 f10 f11 f12 f13 f14 f15 f16 f17 f18 f19 f20 f21 f22 f23 f24 C_SumTree : Addr} {od0 an0 od1 an1 od2 an2 od3 an3 od4 an4 od5 an5 od6 an6 od7 an7 od8 an8 od9 an9 od10 an10 od11 an11 od12 an12 od13 an13 od14 an14 od15 an15 od16 an16 od17 an17 od18 an18 od19 an19 od20 an20 od21 an21 od22 an22 od23 an23 od24 an24 : Option Addr} {sl0 sl1 sl2 sl3 sl4 sl5 sl6 sl7 sl8 sl9 sl10 sl11 sl12 sl13 sl14 sl15 sl16 sl17 sl18 sl19 sl20 sl21 sl22 sl23 sl24 : Array (Option Value)} {oc0 kV0 dc0 pm0 cd0 ct0 oc1 kV1 dc1 pm1 cd1 ct1 oc2 kV2 dc2 pm2 cd2 ct2 oc3 kV3 dc3 pm3 cd3 ct3 oc4 kV4 dc4 pm4 cd4 ct4 oc5 kV5 dc5 pm5 cd5 ct5 oc6 kV6 dc6 pm6 cd6 ct6 oc7 kV7 dc7 pm7 cd7 ct7 oc8 kV8 dc8 pm8 cd8 ct8 oc9 kV9 dc9 pm9 cd9 ct9 oc10 kV10 dc10 pm10 cd10 ct10 oc11 kV11 dc11 pm11 cd11 ct11 oc12 kV12 dc12 pm12 cd12 ct12 oc13 kV13 dc13 pm13 cd13 ct13 oc14 kV14 dc14 pm14 cd14 ct14 oc15 kV15 dc15 pm15 cd15 ct15 oc16 kV16 dc16 pm16 cd16 ct16 oc17 kV17 dc17 pm17 cd17 ct17 oc18 kV18 dc18 pm18 cd18 ct18 oc19 kV19 dc19 pm19 cd19 ct19 oc20 kV20 dc20 pm20 cd20 ct20 oc21 kV21 dc21 pm21 cd21 ct21 oc22 kV22 dc22 pm22 cd22 ct22 oc23 kV23 dc23 pm23 cd23 ct23 oc24 kV24 dc24 pm24 cd24 ct24 : Value}
    (aC_SumTree : PySem.W.nsIn K mainGlobals "SumTree" = some (some (.ref C_SumTree))) (pg_SumTree : PySem.W.plainGet K C_SumTree Str.empty = true) (hd_SumTree : PySem.W.hasDictIn K C_SumTree = true) (po_SumTree : PySem.W.plainOver K C_SumTree = true) (sa_SumTree : PySem.W.findIn K (.ref C_SumTree) "__setattr__" = some (some (.builtin "object.__setattr__")))
    (mk_SumTree : PySem.W.makesIn K C_SumTree = true) (kc_SumTree : PySem.W.keepIn K (.ref C_SumTree) = true)
    (nA_SumTree_cells : PySem.W.findIn K (.ref C_SumTree) "cells" = some none)
    (nA_SumTree_many : PySem.W.findIn K (.ref C_SumTree) "many" = some none)
    (a0 : PySem.W.nsIn K mainGlobals "_law_folded" = some (some (.ref f0))) (l0 : K.lookup f0 = some ⟨oc0, od0, .func (PySem.W.fnOf "_law_folded" "_law_folded" (defArgs s_law_folded) (defBody s_law_folded) (defScope s_law_folded) .none kV0 dc0 pm0 an0 cd0 ct0), sl0⟩) (c0 : PySem.W.codeIn K cd0 "_law_folded" = true) (k0 : PySem.W.keepIn K (.ref f0) = true)
    (a1 : PySem.W.findIn K (.ref C_SumTree) "cells_now" = some (some (.ref f1))) (i1 : PySem.W.isFn K (.ref f1) = true) (l1 : K.lookup f1 = some ⟨oc1, od1, .func (PySem.W.fnOf "cells_now" "SumTree.cells_now" (defArgs s_SumTree_cells_now) (defBody s_SumTree_cells_now) (defScope s_SumTree_cells_now) .none kV1 dc1 pm1 an1 cd1 ct1), sl1⟩) (c1 : PySem.W.codeIn K cd1 "SumTree.cells_now" = true) (k1 : PySem.W.keepIn K (.ref f1) = true)
    (a2 : PySem.W.findIn K (.ref C_SumTree) "least_many" = some (some (.ref f2))) (i2 : PySem.W.isFn K (.ref f2) = true) (l2 : K.lookup f2 = some ⟨oc2, od2, .func (PySem.W.fnOf "least_many" "SumTree.least_many" (defArgs s_SumTree_least_many) (defBody s_SumTree_least_many) (defScope s_SumTree_least_many) .none kV2 dc2 pm2 an2 cd2 ct2), sl2⟩) (c2 : PySem.W.codeIn K cd2 "SumTree.least_many" = true) (k2 : PySem.W.keepIn K (.ref f2) = true)
    (a3 : PySem.W.nsIn K mainGlobals "lowest_bit" = some (some (.ref f3))) (l3 : K.lookup f3 = some ⟨oc3, od3, .func (PySem.W.fnOf "lowest_bit" "lowest_bit" (defArgs s_lowest_bit) (defBody s_lowest_bit) (defScope s_lowest_bit) .none kV3 dc3 pm3 an3 cd3 ct3), sl3⟩) (c3 : PySem.W.codeIn K cd3 "lowest_bit" = true) (k3 : PySem.W.keepIn K (.ref f3) = true)
    (a4 : PySem.W.findIn K (.ref C_SumTree) "need_between" = some (some (.ref f4))) (i4 : PySem.W.isFn K (.ref f4) = true) (l4 : K.lookup f4 = some ⟨oc4, od4, .func (PySem.W.fnOf "need_between" "SumTree.need_between" (defArgs s_SumTree_need_between) (defBody s_SumTree_need_between) (defScope s_SumTree_need_between) .none kV4 dc4 pm4 an4 cd4 ct4), sl4⟩) (c4 : PySem.W.codeIn K cd4 "SumTree.need_between" = true) (k4 : PySem.W.keepIn K (.ref f4) = true)
    (a5 : PySem.W.findIn K (.ref C_SumTree) "sum_of_first" = some (some (.ref f5))) (i5 : PySem.W.isFn K (.ref f5) = true) (l5 : K.lookup f5 = some ⟨oc5, od5, .func (PySem.W.fnOf "sum_of_first" "SumTree.sum_of_first" (defArgs s_SumTree_sum_of_first) (defBody s_SumTree_sum_of_first) (defScope s_SumTree_sum_of_first) .none kV5 dc5 pm5 an5 cd5 ct5), sl5⟩) (c5 : PySem.W.codeIn K cd5 "SumTree.sum_of_first" = true) (k5 : PySem.W.keepIn K (.ref f5) = true)
    (a6 : PySem.W.nsIn K mainGlobals "_law_draw" = some (some (.ref f6))) (l6 : K.lookup f6 = some ⟨oc6, od6, .func (PySem.W.fnOf "_law_draw" "_law_draw" (defArgs s_law_draw) (defBody s_law_draw) (defScope s_law_draw) .none kV6 dc6 pm6 an6 cd6 ct6), sl6⟩) (c6 : PySem.W.codeIn K cd6 "_law_draw" = true) (k6 : PySem.W.keepIn K (.ref f6) = true)
    (a7 : PySem.W.nsIn K mainGlobals "_law_least" = some (some (.ref f7))) (l7 : K.lookup f7 = some ⟨oc7, od7, .func (PySem.W.fnOf "_law_least" "_law_least" (defArgs s_law_least) (defBody s_law_least) (defScope s_law_least) .none kV7 dc7 pm7 an7 cd7 ct7), sl7⟩) (c7 : PySem.W.codeIn K cd7 "_law_least" = true) (k7 : PySem.W.keepIn K (.ref f7) = true)
    (a8 : PySem.W.findIn K (.ref C_SumTree) "put_to" = some (some (.ref f8))) (i8 : PySem.W.isFn K (.ref f8) = true) (l8 : K.lookup f8 = some ⟨oc8, od8, .func (PySem.W.fnOf "put_to" "SumTree.put_to" (defArgs s_SumTree_put_to) (defBody s_SumTree_put_to) (defScope s_SumTree_put_to) .none kV8 dc8 pm8 an8 cd8 ct8), sl8⟩) (c8 : PySem.W.codeIn K cd8 "SumTree.put_to" = true) (k8 : PySem.W.keepIn K (.ref f8) = true)
    (a9 : PySem.W.findIn K (.ref C_SumTree) "__init__" = some (some (.ref f9))) (i9 : PySem.W.isFn K (.ref f9) = true) (l9 : K.lookup f9 = some ⟨oc9, od9, .func (PySem.W.fnOf "__init__" "SumTree.__init__" (defArgs s_SumTree___init__) (defBody s_SumTree___init__) (defScope s_SumTree___init__) .none kV9 dc9 pm9 an9 cd9 ct9), sl9⟩) (c9 : PySem.W.codeIn K cd9 "SumTree.__init__" = true) (k9 : PySem.W.keepIn K (.ref f9) = true)
    (a10 : PySem.W.nsIn K mainGlobals "_law_tree_of" = some (some (.ref f10))) (l10 : K.lookup f10 = some ⟨oc10, od10, .func (PySem.W.fnOf "_law_tree_of" "_law_tree_of" (defArgs s_law_tree_of) (defBody s_law_tree_of) (defScope s_law_tree_of) .none kV10 dc10 pm10 an10 cd10 ct10), sl10⟩) (c10 : PySem.W.codeIn K cd10 "_law_tree_of" = true) (k10 : PySem.W.keepIn K (.ref f10) = true)
    (a11 : PySem.W.nsIn K mainGlobals "_law_least_right" = some (some (.ref f11))) (l11 : K.lookup f11 = some ⟨oc11, od11, .func (PySem.W.fnOf "_law_least_right" "_law_least_right" (defArgs s_law_least_right) (defBody s_law_least_right) (defScope s_law_least_right) .none kV11 dc11 pm11 an11 cd11 ct11), sl11⟩) (c11 : PySem.W.codeIn K cd11 "_law_least_right" = true) (k11 : PySem.W.keepIn K (.ref f11) = true)
    (a12 : PySem.W.findIn K (.ref C_SumTree) "sum_from_to" = some (some (.ref f12))) (i12 : PySem.W.isFn K (.ref f12) = true) (l12 : K.lookup f12 = some ⟨oc12, od12, .func (PySem.W.fnOf "sum_from_to" "SumTree.sum_from_to" (defArgs s_SumTree_sum_from_to) (defBody s_SumTree_sum_from_to) (defScope s_SumTree_sum_from_to) .none kV12 dc12 pm12 an12 cd12 ct12), sl12⟩) (c12 : PySem.W.codeIn K cd12 "SumTree.sum_from_to" = true) (k12 : PySem.W.keepIn K (.ref f12) = true)
    (a13 : PySem.W.findIn K (.ref C_SumTree) "number_at" = some (some (.ref f13))) (i13 : PySem.W.isFn K (.ref f13) = true) (l13 : K.lookup f13 = some ⟨oc13, od13, .func (PySem.W.fnOf "number_at" "SumTree.number_at" (defArgs s_SumTree_number_at) (defBody s_SumTree_number_at) (defScope s_SumTree_number_at) .none kV13 dc13 pm13 an13 cd13 ct13), sl13⟩) (c13 : PySem.W.codeIn K cd13 "SumTree.number_at" = true) (k13 : PySem.W.keepIn K (.ref f13) = true)
    (a14 : PySem.W.findIn K (.ref C_SumTree) "row_now" = some (some (.ref f14))) (i14 : PySem.W.isFn K (.ref f14) = true) (l14 : K.lookup f14 = some ⟨oc14, od14, .func (PySem.W.fnOf "row_now" "SumTree.row_now" (defArgs s_SumTree_row_now) (defBody s_SumTree_row_now) (defScope s_SumTree_row_now) .none kV14 dc14 pm14 an14 cd14 ct14), sl14⟩) (c14 : PySem.W.codeIn K cd14 "SumTree.row_now" = true) (k14 : PySem.W.keepIn K (.ref f14) = true)
    (a15 : PySem.W.nsIn K mainGlobals "_law_number" = some (some (.ref f15))) (l15 : K.lookup f15 = some ⟨oc15, od15, .func (PySem.W.fnOf "_law_number" "_law_number" (defArgs s_law_number) (defBody s_law_number) (defScope s_law_number) .none kV15 dc15 pm15 an15 cd15 ct15), sl15⟩) (c15 : PySem.W.codeIn K cd15 "_law_number" = true) (k15 : PySem.W.keepIn K (.ref f15) = true)
    (a16 : PySem.W.nsIn K mainGlobals "_law_cells" = some (some (.ref f16))) (l16 : K.lookup f16 = some ⟨oc16, od16, .func (PySem.W.fnOf "_law_cells" "_law_cells" (defArgs s_law_cells) (defBody s_law_cells) (defScope s_law_cells) .none kV16 dc16 pm16 an16 cd16 ct16), sl16⟩) (c16 : PySem.W.codeIn K cd16 "_law_cells" = true) (k16 : PySem.W.keepIn K (.ref f16) = true)
    (a17 : PySem.W.nsIn K mainGlobals "_law_trees_right" = some (some (.ref f17))) (l17 : K.lookup f17 = some ⟨oc17, od17, .func (PySem.W.fnOf "_law_trees_right" "_law_trees_right" (defArgs s_law_trees_right) (defBody s_law_trees_right) (defScope s_law_trees_right) .none kV17 dc17 pm17 an17 cd17 ct17), sl17⟩) (c17 : PySem.W.codeIn K cd17 "_law_trees_right" = true) (k17 : PySem.W.keepIn K (.ref f17) = true)
    (a18 : PySem.W.nsIn K mainGlobals "_law_is_whole" = some (some (.ref f18))) (l18 : K.lookup f18 = some ⟨oc18, od18, .func (PySem.W.fnOf "_law_is_whole" "_law_is_whole" (defArgs s_law_is_whole) (defBody s_law_is_whole) (defScope s_law_is_whole) .none kV18 dc18 pm18 an18 cd18 ct18), sl18⟩) (c18 : PySem.W.codeIn K cd18 "_law_is_whole" = true) (k18 : PySem.W.keepIn K (.ref f18) = true)
    (a19 : PySem.W.nsIn K mainGlobals "_law_are_whole" = some (some (.ref f19))) (l19 : K.lookup f19 = some ⟨oc19, od19, .func (PySem.W.fnOf "_law_are_whole" "_law_are_whole" (defArgs s_law_are_whole) (defBody s_law_are_whole) (defScope s_law_are_whole) .none kV19 dc19 pm19 an19 cd19 ct19), sl19⟩) (c19 : PySem.W.codeIn K cd19 "_law_are_whole" = true) (k19 : PySem.W.keepIn K (.ref f19) = true)
    (a20 : PySem.W.nsIn K mainGlobals "places_of" = some (some (.ref f20))) (l20 : K.lookup f20 = some ⟨oc20, od20, .func (PySem.W.fnOf "places_of" "places_of" (defArgs s_places_of) (defBody s_places_of) (defScope s_places_of) .none kV20 dc20 pm20 an20 cd20 ct20), sl20⟩) (c20 : PySem.W.codeIn K cd20 "places_of" = true) (k20 : PySem.W.keepIn K (.ref f20) = true)
    (a21 : PySem.W.nsIn K mainGlobals "_law_places_right" = some (some (.ref f21))) (l21 : K.lookup f21 = some ⟨oc21, od21, .func (PySem.W.fnOf "_law_places_right" "_law_places_right" (defArgs s_law_places_right) (defBody s_law_places_right) (defScope s_law_places_right) .none kV21 dc21 pm21 an21 cd21 ct21), sl21⟩) (c21 : PySem.W.codeIn K cd21 "_law_places_right" = true) (k21 : PySem.W.keepIn K (.ref f21) = true)
    (a22 : PySem.W.nsIn K mainGlobals "_law_numbers" = some (some (.ref f22))) (l22 : K.lookup f22 = some ⟨oc22, od22, .func (PySem.W.fnOf "_law_numbers" "_law_numbers" (defArgs s_law_numbers) (defBody s_law_numbers) (defScope s_law_numbers) .none kV22 dc22 pm22 an22 cd22 ct22), sl22⟩) (c22 : PySem.W.codeIn K cd22 "_law_numbers" = true) (k22 : PySem.W.keepIn K (.ref f22) = true)
    (a23 : PySem.W.nsIn K mainGlobals "_law_seed" = some (some (.ref f23))) (l23 : K.lookup f23 = some ⟨oc23, od23, .func (PySem.W.fnOf "_law_seed" "_law_seed" (defArgs s_law_seed) (defBody s_law_seed) (defScope s_law_seed) .none kV23 dc23 pm23 an23 cd23 ct23), sl23⟩) (c23 : PySem.W.codeIn K cd23 "_law_seed" = true) (k23 : PySem.W.keepIn K (.ref f23) = true)
    (a24 : PySem.W.nsIn K mainGlobals "law" = some (some (.ref f24))) (l24 : K.lookup f24 = some ⟨oc24, od24, .func (PySem.W.fnOf "law" "law" (defArgs s_law) (defBody s_law) (defScope s_law) .none kV24 dc24 pm24 an24 cd24 ct24), sl24⟩) (c24 : PySem.W.codeIn K cd24 "law" = true) (k24 : PySem.W.keepIn K (.ref f24) = true)
    (z_len : PySem.W.nsIn K mainGlobals "len" = some none)
    (z_tuple : PySem.W.nsIn K mainGlobals "tuple" = some none)
    (z_range : PySem.W.nsIn K mainGlobals "range" = some none)
    (z_sum : PySem.W.nsIn K mainGlobals "sum" = some none)
    (z_enumerate : PySem.W.nsIn K mainGlobals "enumerate" = some none)
    (z_int : PySem.W.nsIn K mainGlobals "int" = some none)
    (z_abs : PySem.W.nsIn K mainGlobals "abs" = some none)
    (z_zip : PySem.W.nsIn K mainGlobals "zip" = some none)
    (z_isinstance : PySem.W.nsIn K mainGlobals "isinstance" = some none)
    (z_bool : PySem.W.nsIn K mainGlobals "bool" = some none)
    (z_dict : PySem.W.nsIn K mainGlobals "dict" = some none)
    (z_sorted : PySem.W.nsIn K mainGlobals "sorted" = some none)
    (z_set : PySem.W.nsIn K mainGlobals "set" = some none)
    (z_max : PySem.W.nsIn K mainGlobals "max" = some none) :
    ∃ fd : FuncData, (∀ (s : Shared) (v : Value), BindsTo s fd ⟨[v], []⟩ [("script", v)]) ∧ ∀ base : Heap, K.In base → base.Ns mainGlobals mg → FnOk l.prog w K mg base CX0 7 fa fd ["script"] (spD K 1 m_law) := by
  have e := hfa.symm.trans (PySem.W.mg_of X G a24)
  cases e
  have y_len := PySem.W.mg_none_of X G z_len
  have y_tuple := PySem.W.mg_none_of X G z_tuple
  have y_range := PySem.W.mg_none_of X G z_range
  have y_sum := PySem.W.mg_none_of X G z_sum
  have y_enumerate := PySem.W.mg_none_of X G z_enumerate
  have y_int := PySem.W.mg_none_of X G z_int
  have y_abs := PySem.W.mg_none_of X G z_abs
  have y_zip := PySem.W.mg_none_of X G z_zip
  have y_isinstance := PySem.W.mg_none_of X G z_isinstance
  have y_bool := PySem.W.mg_none_of X G z_bool
  have y_dict := PySem.W.mg_none_of X G z_dict
  have y_sorted := PySem.W.mg_none_of X G z_sorted
  have y_set := PySem.W.mg_none_of X G z_set
  have y_max := PySem.W.mg_none_of X G z_max
  have cl_SumTree : Cls K C_SumTree := ⟨pg_SumTree, hd_SumTree, po_SumTree, sa_SumTree⟩
  have A_SumTree_cells : AttrIs K "SumTree" "cells" := ⟨⟨C_SumTree, aC_SumTree, cl_SumTree, nA_SumTree_cells⟩⟩
  have A_SumTree_many : AttrIs K "SumTree" "many" := ⟨⟨C_SumTree, aC_SumTree, cl_SumTree, nA_SumTree_many⟩⟩
  refine ⟨PySem.W.fnOf "law" "law" (defArgs s_law) (defBody s_law) (defScope s_law) .none kV24 dc24 pm24 an24 cd24 ct24, fun s v => .of_eq rfl, fun base _ _ => ?_⟩
  have D_law_folded := c_law_folded (P := l.prog) (w := w) (base := base) (fun_mk (st := s_law_folded) l0 c0 k0) (PySem.W.mg_of X G a0) y_len
  have D_SumTree_cells_now := c_SumTree_cells_now (P := l.prog) (w := w) (mg := mg) (base := base) (fun_mk (st := s_SumTree_cells_now) l1 c1 k1) aC_SumTree cl_SumTree ⟨a1, i1, k1⟩ y_tuple A_SumTree_cells
  have D_SumTree_least_many := c_SumTree_least_many (P := l.prog) (w := w) (mg := mg) (base := base) (fun_mk (st := s_SumTree_least_many) l2 c2 k2) aC_SumTree cl_SumTree ⟨a2, i2, k2⟩ A_SumTree_many A_SumTree_cells
  have D_lowest_bit := c_lowest_bit (P := l.prog) (w := w) (base := base) (fun_mk (st := s_lowest_bit) l3 c3 k3) (PySem.W.mg_of X G a3)
  have D_SumTree_need_between := c_SumTree_need_between (P := l.prog) (w := w) (mg := mg) (base := base) (fun_mk (st := s_SumTree_need_between) l4 c4 k4) aC_SumTree cl_SumTree ⟨a4, i4, k4⟩ A_SumTree_many
  have D_SumTree_sum_of_first := c_SumTree_sum_of_first (P := l.prog) (w := w) (mg := mg) (base := base) (fun_mk (st := s_SumTree_sum_of_first) l5 c5 k5) aC_SumTree cl_SumTree ⟨a5, i5, k5⟩ D_lowest_bit D_SumTree_need_between A_SumTree_cells
  have D_law_draw := c_law_draw (P := l.prog) (w := w) (base := base) (fun_mk (st := s_law_draw) l6 c6 k6) (PySem.W.mg_of X G a6)
  have D_law_least := c_law_least (P := l.prog) (w := w) (base := base) (fun_mk (st := s_law_least) l7 c7 k7) (PySem.W.mg_of X G a7) y_len y_range y_sum
  have D_SumTree_put_to := c_SumTree_put_to (P := l.prog) (w := w) (mg := mg) (base := base) (fun_mk (st := s_SumTree_put_to) l8 c8 k8) aC_SumTree cl_SumTree ⟨a8, i8, k8⟩ D_lowest_bit D_SumTree_need_between A_SumTree_many A_SumTree_cells
  have D_SumTree___init__ := c_SumTree___init__ (P := l.prog) (w := w) (base := base) (fun_mk (st := s_SumTree___init__) l9 c9 k9) aC_SumTree ⟨mk_SumTree, a9, i9, kc_SumTree⟩ (PySem.W.mg_of X G aC_SumTree) A_SumTree_cells A_SumTree_many
  have D_law_tree_of := c_law_tree_of (P := l.prog) (w := w) (base := base) (fun_mk (st := s_law_tree_of) l10 c10 k10) (PySem.W.mg_of X G a10) y_enumerate y_len D_SumTree_put_to D_SumTree___init__
  have D_law_least_right := c_law_least_right (P := l.prog) (w := w) (base := base) (fun_mk (st := s_law_least_right) l11 c11 k11) (PySem.W.mg_of X G a11) y_sum y_range y_len D_SumTree_least_many D_SumTree_sum_of_first D_law_draw D_law_least D_law_tree_of
  have D_SumTree_sum_from_to := c_SumTree_sum_from_to (P := l.prog) (w := w) (mg := mg) (base := base) (fun_mk (st := s_SumTree_sum_from_to) l12 c12 k12) aC_SumTree cl_SumTree ⟨a12, i12, k12⟩ D_SumTree_sum_of_first D_SumTree_need_between
  have D_SumTree_number_at := c_SumTree_number_at (P := l.prog) (w := w) (mg := mg) (base := base) (fun_mk (st := s_SumTree_number_at) l13 c13 k13) aC_SumTree cl_SumTree ⟨a13, i13, k13⟩ D_SumTree_sum_from_to
  have D_SumTree_row_now := c_SumTree_row_now (P := l.prog) (w := w) (mg := mg) (base := base) (fun_mk (st := s_SumTree_row_now) l14 c14 k14) aC_SumTree cl_SumTree ⟨a14, i14, k14⟩ y_range y_tuple D_SumTree_number_at A_SumTree_many
  have D_law_number := c_law_number (P := l.prog) (w := w) (base := base) (fun_mk (st := s_law_number) l15 c15 k15) (PySem.W.mg_of X G a15) y_int D_law_draw
  have D_law_cells := c_law_cells (P := l.prog) (w := w) (base := base) (fun_mk (st := s_law_cells) l16 c16 k16) (PySem.W.mg_of X G a16) y_tuple y_len y_range y_sum
  have D_law_trees_right := c_law_trees_right (P := l.prog) (w := w) (base := base) (fun_mk (st := s_law_trees_right) l17 c17 k17) (PySem.W.mg_of X G a17) y_tuple y_abs y_zip y_range y_sum y_len D_SumTree_cells_now D_law_least_right D_law_tree_of D_law_draw D_SumTree_row_now D_SumTree_put_to D_law_number D_law_cells D_SumTree_sum_from_to D_SumTree_sum_of_first
  have D_law_is_whole := c_law_is_whole (P := l.prog) (w := w) (base := base) (fun_mk (st := s_law_is_whole) l18 c18 k18) (PySem.W.mg_of X G a18) y_isinstance y_int y_bool
  have D_law_are_whole := c_law_are_whole (P := l.prog) (w := w) (base := base) (fun_mk (st := s_law_are_whole) l19 c19 k19) (PySem.W.mg_of X G a19) y_zip y_isinstance y_tuple y_len D_law_is_whole
  have D_places_of := c_places_of (P := l.prog) (w := w) (base := base) (fun_mk (st := s_places_of) l20 c20 k20) (PySem.W.mg_of X G a20) y_tuple y_enumerate y_dict y_sorted y_set
  have D_law_places_right := c_law_places_right (P := l.prog) (w := w) (base := base) (fun_mk (st := s_law_places_right) l21 c21 k21) (PySem.W.mg_of X G a21) y_tuple y_enumerate y_len y_isinstance y_sorted y_set D_SumTree_row_now D_SumTree_put_to D_SumTree_sum_of_first D_SumTree___init__ D_law_are_whole D_places_of
  have D_law_numbers := c_law_numbers (P := l.prog) (w := w) (base := base) (fun_mk (st := s_law_numbers) l22 c22 k22) (PySem.W.mg_of X G a22) y_tuple y_range y_len D_law_draw D_law_number
  have D_law_seed := c_law_seed (P := l.prog) (w := w) (base := base) (fun_mk (st := s_law_seed) l23 c23 k23) (PySem.W.mg_of X G a23) y_int y_max
  exact c_law_fn (P := l.prog) (w := w) (base := base) (fun_mk (st := s_law) l24 c24 k24) D_law_folded D_law_trees_right D_law_places_right D_law_numbers D_law_seed

theorem walk {l : PySem.W.OpenLaw} {q : Program} {loose : List Str} {XP : (Str → Option Value) → Heap → Prop} {YP : World → Heap → Prop} {d : DefRec} {K : Params → PySem.W.Frag} (hn : l.most = some 63) (hdf : d.params.defaults = [])
    (hY : ∀ (w : World) (h : Heap), YP w h → (K w.params).In h)
    (F : ∀ (w : World) (mg : Str → Option Value) (fa : Addr) (h : Heap), (K w.params).In h → h.Ns mainGlobals mg → mg d.name = some (.ref fa) →
      ∃ fd : FuncData, (∀ (s : Shared) (u : Value), BindsTo s fd ⟨[u], []⟩ [("script", u)]) ∧ ∀ base : Heap, (K w.params).In base → base.Ns mainGlobals mg → FnOk l.prog w (K w.params) mg base CX0 7 fa fd ["script"] (spD (K w.params) 1 m_law)) :
    PySem.W.WalkO q loose XP YP l.row.toRowW d [] (fun f vs => PySem.call f vs) :=
  L2.walk_ofK (n := 63) (k := 7) (x := "script") (CX := CX0) (sp := fun K => spD K 1 m_law) hn (by decide) hdf ⟨rfl, by decide, by decide⟩ hY F (fun K H a ns hl _ hS => law_sp law_true hl hS) fun _ _ _ _ z => z
end My

open PySem PySem.W PyProof.Rows in
set_option maxRecDepth 100000 in
set_option maxHeartbeats 0 in
theorem PySem.Challenge.cw_belowpoints_k15_whole_trees_and_places_holds : PySem.Challenge.rw_belowpoints_k15_whole_trees_and_places.Holds := by
  w_on; o_law; k_head; (case hw => w_witness2)
  k_fill
  refine My.walk (l := PySem.Challenge.rw_belowpoints_k15_whole_trees_and_places) rfl rfl (fun w h Y => PySem.W.kIn_of Y) ?F
  case F =>
    intro w mg fa h KX G hmg
    refine' My.all_mk KX G hmg ?aC_SumTree ?pg_SumTree ?hd_SumTree ?po_SumTree ?sa_SumTree ?mk_SumTree ?kc_SumTree ?nA_SumTree_cells ?nA_SumTree_many ?a0 ?l0 ?c0 ?k0 ?a1 ?i1 ?l1 ?c1 ?k1 ?a2 ?i2 ?l2 ?c2 ?k2 ?a3 ?l3 ?c3 ?k3 ?a4 ?i4 ?l4 ?c4 ?k4 ?a5 ?i5 ?l5 ?c5 ?k5 ?a6 ?l6 ?c6 ?k6 ?a7 ?l7 ?c7 ?k7 ?a8 ?i8 ?l8 ?c8 ?k8 ?a9 ?i9 ?l9 ?c9 ?k9 ?a10 ?l10 ?c10 ?k10 ?a11 ?l11 ?c11 ?k11 ?a12 ?i12 ?l12 ?c12 ?k12 ?a13 ?i13 ?l13 ?c13 ?k13 ?a14 ?i14 ?l14 ?c14 ?k14 ?a15 ?l15 ?c15 ?k15 ?a16 ?l16 ?c16 ?k16 ?a17 ?l17 ?c17 ?k17 ?a18 ?l18 ?c18 ?k18 ?a19 ?l19 ?c19 ?k19 ?a20 ?l20 ?c20 ?k20 ?a21 ?l21 ?c21 ?k21 ?a22 ?l22 ?c22 ?k22 ?a23 ?l23 ?c23 ?k23 ?a24 ?l24 ?c24 ?k24 ?z_len ?z_tuple ?z_range ?z_sum ?z_enumerate ?z_int ?z_abs ?z_zip ?z_isinstance ?z_bool ?z_dict ?z_sorted ?z_set ?z_max
    (case aC_SumTree => k_is)
    (case pg_SumTree => k_is)
    (case hd_SumTree => k_is)
    (case po_SumTree => k_is)
    (case sa_SumTree => k_is)
    (case mk_SumTree => k_is)
    (case kc_SumTree => k_is)
    (case nA_SumTree_cells => k_is)
    (case nA_SumTree_many => k_is)
    (case a0 => k_is)
    (case l0 => k_is)
    (case c0 => k_is)
    (case k0 => k_is)
    (case a1 => k_is)
    (case i1 => k_is)
    (case l1 => k_is)
    (case c1 => k_is)
    (case k1 => k_is)
    (case a2 => k_is)
    (case i2 => k_is)
    (case l2 => k_is)
    (case c2 => k_is)
    (case k2 => k_is)
    (case a3 => k_is)
    (case l3 => k_is)
    (case c3 => k_is)
    (case k3 => k_is)
    (case a4 => k_is)
    (case i4 => k_is)
    (case l4 => k_is)
    (case c4 => k_is)
    (case k4 => k_is)
    (case a5 => k_is)
    (case i5 => k_is)
    (case l5 => k_is)
    (case c5 => k_is)
    (case k5 => k_is)
    (case a6 => k_is)
    (case l6 => k_is)
    (case c6 => k_is)
    (case k6 => k_is)
    (case a7 => k_is)
    (case l7 => k_is)
    (case c7 => k_is)
    (case k7 => k_is)
    (case a8 => k_is)
    (case i8 => k_is)
    (case l8 => k_is)
    (case c8 => k_is)
    (case k8 => k_is)
    (case a9 => k_is)
    (case i9 => k_is)
    (case l9 => k_is)
    (case c9 => k_is)
    (case k9 => k_is)
    (case a10 => k_is)
    (case l10 => k_is)
    (case c10 => k_is)
    (case k10 => k_is)
    (case a11 => k_is)
    (case l11 => k_is)
    (case c11 => k_is)
    (case k11 => k_is)
    (case a12 => k_is)
    (case i12 => k_is)
    (case l12 => k_is)
    (case c12 => k_is)
    (case k12 => k_is)
    (case a13 => k_is)
    (case i13 => k_is)
    (case l13 => k_is)
    (case c13 => k_is)
    (case k13 => k_is)
    (case a14 => k_is)
    (case i14 => k_is)
    (case l14 => k_is)
    (case c14 => k_is)
    (case k14 => k_is)
    (case a15 => k_is)
    (case l15 => k_is)
    (case c15 => k_is)
    (case k15 => k_is)
    (case a16 => k_is)
    (case l16 => k_is)
    (case c16 => k_is)
    (case k16 => k_is)
    (case a17 => k_is)
    (case l17 => k_is)
    (case c17 => k_is)
    (case k17 => k_is)
    (case a18 => k_is)
    (case l18 => k_is)
    (case c18 => k_is)
    (case k18 => k_is)
    (case a19 => k_is)
    (case l19 => k_is)
    (case c19 => k_is)
    (case k19 => k_is)
    (case a20 => k_is)
    (case l20 => k_is)
    (case c20 => k_is)
    (case k20 => k_is)
    (case a21 => k_is)
    (case l21 => k_is)
    (case c21 => k_is)
    (case k21 => k_is)
    (case a22 => k_is)
    (case l22 => k_is)
    (case c22 => k_is)
    (case k22 => k_is)
    (case a23 => k_is)
    (case l23 => k_is)
    (case c23 => k_is)
    (case k23 => k_is)
    (case a24 => k_is)
    (case l24 => k_is)
    (case c24 => k_is)
    (case k24 => k_is)
    (case z_len => k_is)
    (case z_tuple => k_is)
    (case z_range => k_is)
    (case z_sum => k_is)
    (case z_enumerate => k_is)
    (case z_int => k_is)
    (case z_abs => k_is)
    (case z_zip => k_is)
    (case z_isinstance => k_is)
    (case z_bool => k_is)
    (case z_dict => k_is)
    (case z_sorted => k_is)
    (case z_set => k_is)
    (case z_max => k_is)

