import PyProof.Rows.All
import Wide.All
import OpenK.AllK
import Wide.FinOn
import HandS.Base
import HandS.Call
import HandS.List
import HandS.Comp
import HandS.Iter
import HandS.Exc
import HandS.ExcOwn
import HandS.TryOnly
import HandS.Words
import HandS.ExcCtx
import HandS.HotCalls
import HandS.ExcIs
import HandS.Walk
import HandS.Zip
import HandS.Wide
import HandS.TupAny
import HandS.TupMul
import KE.DataMinMax
import HandS.More
import HandS.WordsExc
import HandS.Ends
import HandS.IsInst
import PyProof.P3Eq
import KE.GoesEnum
import KE.GoesMore
import KE.GoesZip
import HandS.Deep
import HandS.SetFor
import HandS.Conv
import PyProof.EnumMake
import KE.LtData
import HandS.SortKw
import HandS.Dict
import HandS.Text
import HandS.Codes
import HandS.Style
import HandS.Strs
import PySem.Challenge.RW_rimhouse_k27_whole_merged_behind
set_option Elab.async false
set_option linter.all false
set_option maxRecDepth 100000
set_option maxHeartbeats 4000000
namespace Rk
open PySem PySem.Spec PyProof.Rows L2
mutual
inductive Rp (L T : Addr → List V → Prop) : V → PyData → Prop
  | non : Rp L T .non .none
  | bl (b : Bool) : Rp L T (.bl b) (.bool b)
  | int (i : Int) : Rp L T (.int i) (.int i)
  | str (x : Str) : Rp L T (.str x) (.str x)
  | lst {a : Addr} {xs : List V} {ds : List PyData} : L a xs → RpAll L T xs ds → Rp L T (.ref a) (.list ds)
  | tup {a : Addr} {xs : List V} {ds : List PyData} : T a xs → RpAll L T xs ds → Rp L T (.ref a) (.tuple ds)
inductive RpAll (L T : Addr → List V → Prop) : List V → List PyData → Prop
  | nil : RpAll L T [] []
  | cons {v : V} {vs : List V} {d : PyData} {ds : List PyData} : Rp L T v d → RpAll L T vs ds → RpAll L T (v :: vs) (d :: ds)
end
section
variable {L T L' T' : Addr → List V → Prop}
mutual
theorem Rp.mono (hL : ∀ a xs, L a xs → L' a xs) (hT : ∀ a xs, T a xs → T' a xs) : ∀ (d : PyData) (v : V), Rp L T v d → Rp L' T' v d
  | .none, _, h => by cases h; exact .non
  | .bool b, _, h => by cases h; exact .bl b
  | .int i, _, h => by cases h; exact .int i
  | .str x, _, h => by cases h; exact .str x
  | .list ds, _, h => by
    cases h with
    | lst a b => exact .lst (hL _ _ a) (RpAll.mono hL hT ds _ b)
  | .tuple ds, _, h => by
    cases h with
    | tup a b => exact .tup (hT _ _ a) (RpAll.mono hL hT ds _ b)
  | .dict _, _, h => by cases h
theorem RpAll.mono (hL : ∀ a xs, L a xs → L' a xs) (hT : ∀ a xs, T a xs → T' a xs) : ∀ (ds : List PyData) (vs : List V), RpAll L T vs ds → RpAll L' T' vs ds
  | [], _, h => by cases h; exact .nil
  | d :: ds, _, h => by
    cases h with
    | cons a b => exact .cons (Rp.mono hL hT d _ a) (RpAll.mono hL hT ds _ b)
end
def flat : PyData → Bool
  | .list _ => false
  | .tuple ds => flatAll ds
  | .dict _ => false
  | _ => true
where flatAll : List PyData → Bool
  | [] => true
  | d :: ds => flat d && flatAll ds
mutual
theorem Rp.flat (hT : ∀ a xs, T a xs → T' a xs) : ∀ (d : PyData) (v : V), Rp L T v d → Rk.flat d = true → Rp L' T' v d
  | .none, _, h, _ => by cases h; exact .non
  | .bool b, _, h, _ => by cases h; exact .bl b
  | .int i, _, h, _ => by cases h; exact .int i
  | .str x, _, h, _ => by cases h; exact .str x
  | .list ds, _, h, f => by simp [Rk.flat] at f
  | .tuple ds, _, h, f => by
    cases h with
    | tup a b => exact .tup (hT _ _ a) (RpAll.flat hT ds _ b (by simpa [Rk.flat] using f))
  | .dict _, _, h, _ => by cases h
theorem RpAll.flat (hT : ∀ a xs, T a xs → T' a xs) : ∀ (ds : List PyData) (vs : List V), RpAll L T vs ds → Rk.flat.flatAll ds = true → RpAll L' T' vs ds
  | [], _, h, _ => by cases h; exact .nil
  | d :: ds, _, h, f => by
    cases h with
    | cons a b =>
      simp only [Rk.flat.flatAll, Bool.and_eq_true] at f
      exact .cons (Rp.flat hT d _ a f.1) (RpAll.flat hT ds _ b f.2)
end
theorem RpAll.length : ∀ {ds : List PyData} {vs : List V}, RpAll L T vs ds → vs.length = ds.length
  | [], _, h => by cases h; rfl
  | d :: ds, _, h => by
    cases h with
    | cons a b => simp only [List.length_cons, RpAll.length b]
theorem RpAll.get : ∀ {ds : List PyData} {vs : List V} {i : Nat} {d : PyData}, RpAll L T vs ds → ds[i]? = some d → ∃ v, vs[i]? = some v ∧ Rp L T v d
  | [], _, _, _, _, e => by simp at e
  | d :: ds, _, 0, _, h, e => by
    cases h with
    | cons a b => simp at e; subst e; exact ⟨_, rfl, a⟩
  | d :: ds, _, i + 1, _, h, e => by
    cases h with
    | cons a b =>
      obtain ⟨v, e1, e2⟩ := RpAll.get (i := i) b (by simpa using e)
      exact ⟨v, by simpa using e1, e2⟩
theorem RpAll.get' : ∀ {ds : List PyData} {vs : List V} {i : Nat} {v : V}, RpAll L T vs ds → vs[i]? = some v → ∃ d, ds[i]? = some d ∧ Rp L T v d
  | [], _, _, _, h, e => by cases h; simp at e
  | d :: ds, _, 0, _, h, e => by
    cases h with
    | cons a b => simp at e; subst e; exact ⟨_, rfl, a⟩
  | d :: ds, _, i + 1, _, h, e => by
    cases h with
    | cons a b =>
      obtain ⟨v, e1, e2⟩ := RpAll.get' (i := i) b (by simpa using e)
      exact ⟨v, by simpa using e1, e2⟩
theorem RpAll.append : ∀ {ds es : List PyData} {vs ws : List V}, RpAll L T vs ds → RpAll L T ws es → RpAll L T (vs ++ ws) (ds ++ es)
  | [], _, _, _, h, k => by cases h; exact k
  | d :: ds, _, _, _, h, k => by
    cases h with
    | cons a b => exact .cons a (RpAll.append b k)
theorem RpAll.take : ∀ {ds : List PyData} {vs : List V} (n : Nat), RpAll L T vs ds → RpAll L T (vs.take n) (ds.take n)
  | _, _, 0, _ => by simpa using .nil
  | [], _, n + 1, h => by cases h; exact .nil
  | d :: ds, _, n + 1, h => by
    cases h with
    | cons a b => exact .cons a (RpAll.take n b)
theorem RpAll.drop : ∀ {ds : List PyData} {vs : List V} (n : Nat), RpAll L T vs ds → RpAll L T (vs.drop n) (ds.drop n)
  | _, _, 0, h => by simpa using h
  | [], _, n + 1, h => by cases h; exact .nil
  | d :: ds, _, n + 1, h => by
    cases h with
    | cons a b => exact RpAll.drop n b
theorem RpAll.set {v : V} {d : PyData} (r : Rp L T v d) : ∀ {ds : List PyData} {vs : List V} (i : Nat), RpAll L T vs ds → RpAll L T (vs.set i v) (ds.set i d)
  | [], _, _, h => by cases h; exact .nil
  | e :: ds, _, 0, h => by
    cases h with
    | cons a b => exact .cons r b
  | e :: ds, _, i + 1, h => by
    cases h with
    | cons a b => exact .cons a (RpAll.set r i b)
theorem RpAll.ints : ∀ {ns : List Int} {vs : List V}, RpAll L T vs (ns.map .int) → vs = ns.map V.int
  | [], _, h => by cases h; rfl
  | n :: ns, _, h => by
    cases h with
    | cons a b => cases a; rw [RpAll.ints b]; rfl
theorem RpAll.of_ints : ∀ (ns : List Int), RpAll L T (ns.map V.int) (ns.map .int)
  | [] => .nil
  | n :: ns => .cons (.int n) (RpAll.of_ints ns)
end
def LC (b : Bool) (H0 H : Hp) (N : Addr → Prop) (a : Addr) (xs : List V) : Prop :=
  ¬ N a ∧ H a = some (.lst xs) ∧ (b = true → H0 a = none)
abbrev RV (K : PySem.W.Frag) (b : Bool) (H0 H : Hp) (N : Addr → Prop) : V → PyData → Prop := Rp (LC b H0 H N) (SqT K H)
abbrev RA (K : PySem.W.Frag) (b : Bool) (H0 H : Hp) (N : Addr → Prop) : List V → List PyData → Prop := RpAll (LC b H0 H N) (SqT K H)
def OwnOk (H : Hp) (N : Addr → Prop) : Prop := ∀ a, N a → ∃ o, H a = some o ∧ (∀ xs, o ≠ .tup xs) ∧ ∀ ob u, o ≠ .frz ob u
structure Shift (H : Hp) (N : Addr → Prop) (H1 : Hp) (N1 : Addr → Prop) : Prop where
  keep : ∀ a o, ¬ N a → H a = some o → H1 a = some o
  own : ∀ a, N1 a → N a ∨ H a = none
  old : OwnOk H N
section
variable {K : PySem.W.Frag} {b : Bool} {H0 H H1 : Hp} {N N1 : Addr → Prop}
theorem Shift.rd (s : Shift H N H1 N1) {a : Addr} {ob : Obj} {u : HO} (h : H a = some (.frz ob u)) : H1 a = some (.frz ob u) :=
  s.keep _ _ (fun n => by obtain ⟨o', e, _, t⟩ := s.old a n; rw [h] at e; cases e; exact t _ _ rfl) h
theorem Shift.tup (s : Shift H N H1 N1) {a : Addr} {xs : List V} (h : SqT K H a xs) : SqT K H1 a xs := by
  rcases h with (h | ⟨o, h⟩) | h
  · exact .inl (.inl (s.keep _ _ (fun n => by obtain ⟨o, e, t, _⟩ := s.old a n; rw [h] at e; cases e; exact t xs rfl) h))
  · exact .inl (.inr ⟨o, s.rd h⟩)
  · exact .inr h
theorem Shift.lst (s : Shift H N H1 N1) {a : Addr} {xs : List V} (h : LC b H0 H N a xs) : LC b H0 H1 N1 a xs := by
  obtain ⟨n, h, hb⟩ := h
  have nn : ¬ N1 a := fun z => by
    rcases s.own a z with z1 | z1
    · exact n z1
    · rw [h] at z1; cases z1
  exact ⟨nn, s.keep _ _ n h, hb⟩
theorem Shift.rv (s : Shift H N H1 N1) {v : V} {d : PyData} (h : RV K b H0 H N v d) : RV K b H0 H1 N1 v d := Rp.mono (fun _ _ => s.lst) (fun _ _ => s.tup) _ _ h
theorem Shift.ra (s : Shift H N H1 N1) {v : List V} {d : List PyData} (h : RA K b H0 H N v d) : RA K b H0 H1 N1 v d := RpAll.mono (fun _ _ => s.lst) (fun _ _ => s.tup) _ _ h
theorem Shift.refl (o : OwnOk H N) : Shift H N H N := ⟨fun _ _ _ e => e, fun a n => .inl n, o⟩
theorem Shift.same (o : OwnOk H N) (s : Same H H1) : Shift H N H1 N := ⟨fun a o _ e => s a o e, fun a n => .inl n, o⟩
theorem RV.weak {v : V} {d : PyData} (h : RV K true H0 H N v d) : RV K b H0 H N v d := Rp.mono (fun _ _ q => ⟨q.1, q.2.1, fun _ => q.2.2 rfl⟩) (fun _ _ q => q) _ _ h
theorem RA.weak {v : List V} {d : List PyData} (h : RA K true H0 H N v d) : RA K b H0 H N v d := RpAll.mono (fun _ _ q => ⟨q.1, q.2.1, fun _ => q.2.2 rfl⟩) (fun _ _ q => q) _ _ h
theorem RV.shared {v : V} {d : PyData} (h : RV K b H0 H N v d) : RV K false H0 H N v d := Rp.mono (fun _ _ q => ⟨q.1, q.2.1, fun e => nomatch e⟩) (fun _ _ q => q) _ _ h
theorem RA.shared {v : List V} {d : List PyData} (h : RA K b H0 H N v d) : RA K false H0 H N v d := RpAll.mono (fun _ _ q => ⟨q.1, q.2.1, fun e => nomatch e⟩) (fun _ _ q => q) _ _ h
theorem RV.and {c : Bool} {v : V} {d : PyData} (h : RV K b H0 H N v d) : RV K (b && c) H0 H N v d := Rp.mono (fun _ _ q => ⟨q.1, q.2.1, fun e => q.2.2 (by simp at e; exact e.1)⟩) (fun _ _ q => q) _ _ h
theorem RV.and' {c : Bool} {v : V} {d : PyData} (h : RV K b H0 H N v d) : RV K (c && b) H0 H N v d := Rp.mono (fun _ _ q => ⟨q.1, q.2.1, fun e => q.2.2 (by simp at e; exact e.2)⟩) (fun _ _ q => q) _ _ h
theorem RA.and {c : Bool} {v : List V} {d : List PyData} (h : RA K b H0 H N v d) : RA K (b && c) H0 H N v d := RpAll.mono (fun _ _ q => ⟨q.1, q.2.1, fun e => q.2.2 (by simp at e; exact e.1)⟩) (fun _ _ q => q) _ _ h
theorem RA.and' {c : Bool} {v : List V} {d : List PyData} (h : RA K b H0 H N v d) : RA K (c && b) H0 H N v d := RpAll.mono (fun _ _ q => ⟨q.1, q.2.1, fun e => q.2.2 (by simp at e; exact e.2)⟩) (fun _ _ q => q) _ _ h
theorem RV.flat {c : Bool} {v : V} {d : PyData} (h : RV K b H0 H N v d) (f : Rk.flat d = true) : RV K c H0 H N v d := Rp.flat (fun _ _ q => q) _ _ h f
mutual
theorem RV.dp : ∀ (d : PyData) (v : V), RV K b H0 H N v d → Dp K H v d
  | .none, _, h => by cases h; exact .non
  | .bool b, _, h => by cases h; exact .bl b
  | .int i, _, h => by cases h; exact .int i
  | .str x, _, h => by cases h; exact .str x
  | .list ds, _, h => by
    cases h with
    | lst a b => exact .lst (SqL.of a.2.1) (RA.dp ds _ b)
  | .tuple ds, _, h => by
    cases h with
    | tup a b => exact .tup a (RA.dp ds _ b)
  | .dict _, _, h => by cases h
theorem RA.dp : ∀ (ds : List PyData) (vs : List V), RA K b H0 H N vs ds → DpAll K H vs ds
  | [], _, h => by cases h; exact .nil
  | d :: ds, _, h => by
    cases h with
    | cons a b => exact .cons (RV.dp d _ a) (RA.dp ds _ b)
end
end
inductive FV where
  | d (D : PyData)
  | o (Ds : List PyData)
inductive SV where
  | u
  | d (b : Bool) (D : PyData)
  | o (b : Bool) (Ds : List PyData)
  | s (ns : List Int)
  | oo (b : Bool) (Dss : List (List PyData))
  /-- an object of the frame's own: its attributes; what else stays as it is while it is used -/
  | ob (a C : Addr) (fv : List (Str × FV)) (G : List (Addr × HO))
  /-- a dict of the frame's own -/
  | dc (b : Bool) (Ks : List (Key × PyData))
  /-- an object of someone else, read only: its attributes as data -/
  | rb (a C : Addr) (fv : List (Str × FV))
  /-- a value, as it is -/
  | al (v : V)
  /-- a list of the frame's own, its items as they are (no name need hold it) -/
  | rl (p : Addr) (vs : List V)
  /-- a list of the frame's own at p (no name need hold it) -/
  | oa (p : Addr) (b : Bool) (Ds : List PyData)
  /-- what else stays as it is (no name holds it) -/
  | ot (G : List (Addr × HO))
abbrev Fd := Str × V × FV
def ownFd : Fd → List Addr
  | (_, .ref p, .o _) => [p]
  | _ => []
abbrev fsOf (Fs : List Fd) : List (Str × V) := Fs.map fun t => (t.1, t.2.1)
abbrev fvOf (Fs : List Fd) : List (Str × FV) := Fs.map fun t => (t.1, t.2.2)
inductive FldOk (K : PySem.W.Frag) (H0 H : Hp) (N : Addr → Prop) : V → FV → Prop
  | d {v D} : RV K false H0 H N v D → FldOk K H0 H N v (.d D)
  | o {p vs Ds} : H p = some (.lst vs) → RA K false H0 H N vs Ds → FldOk K H0 H N (.ref p) (.o Ds)
abbrev Qs (K : PySem.W.Frag) (b : Bool) (H0 H : Hp) (N : Addr → Prop) : List Addr → List (List PyData) → Prop := Paired fun q Ds => ∃ vs, H q = some (.lst vs) ∧ RA K b H0 H N vs Ds
abbrev KvOk (K : PySem.W.Frag) (b : Bool) (H0 H : Hp) (N : Addr → Prop) : List (Key × V) → List (Key × PyData) → Prop := Paired fun p q => p.1 = q.1 ∧ RV K b H0 H N p.2 q.2
def Scr (K : PySem.W.Frag) (H : Hp) (a : Addr) (xs : List V) : Prop :=
  (∃ o, H a = some (.frz o (.lst xs))) ∨
    ∃ (o : Obj) (its : Array Value) (n : Nat), K.lookup a = some o ∧ o.cls = .type "list" ∧ o.dict = none ∧ o.data = .seq its n ∧ its.size ≤ sizeLine ∧ Vals xs its.toList
theorem Scr.sql {K : PySem.W.Frag} {H : Hp} {a : Addr} {xs : List V} (h : Scr K H a xs) : SqL K H a xs := by
  rcases h with h | h
  · exact .inl (.inr h)
  · exact .inr h
theorem Scr.shift {K : PySem.W.Frag} {H H1 : Hp} {N N1 : Addr → Prop} {a : Addr} {xs : List V} (h : Scr K H a xs) (t : Shift H N H1 N1) : Scr K H1 a xs := by
  rcases h with ⟨o, h⟩ | h
  · exact .inl ⟨o, t.rd h⟩
  · exact .inr h
structure ObOk (K : PySem.W.Frag) (H0 H : Hp) (N : Addr → Prop) (a C : Addr) (fv : List (Str × FV)) (G : List (Addr × HO)) (l : List Addr) : Prop where
  ex : ∃ dx Fs, fv = fvOf Fs ∧ l = a :: dx :: (Fs.flatMap ownFd ++ G.map (·.1)) ∧ H a = some (.ins C dx (fsOf Fs)) ∧ H dx = some (.own a) ∧ (∀ t ∈ Fs, FldOk K H0 H N t.2.1 t.2.2) ∧ (a :: dx :: Fs.flatMap ownFd).Nodup ∧ (∀ g ∈ G, H g.1 = some g.2 ∧ g.1 ∉ a :: dx :: Fs.flatMap ownFd) ∧ Fs.length ≤ 100
def fvD : FV → PyData
  | .d D => D
  | .o Ds => .list Ds
structure RbOk (K : PySem.W.Frag) (H : Hp) (N : Addr → Prop) (a C : Addr) (fv : List (Str × FV)) : Prop where
  ex : ∃ dx Fs, fv = fvOf Fs ∧ H a = some (.ins C dx (fsOf Fs)) ∧ ¬ N a ∧ ∀ t ∈ Fs, RV K false H H N t.2.1 (fvD t.2.2)
inductive SlotOk (K : PySem.W.Frag) (H0 H : Hp) (N : Addr → Prop) : Option (Option V) → SV → List Addr → Prop
  | u {x} : SlotOk K H0 H N x .u []
  | d {v b D} : RV K b H0 H N v D → SlotOk K H0 H N (some (some v)) (.d b D) []
  | o {p vs b Ds} : H p = some (.lst vs) → RA K b H0 H N vs Ds → SlotOk K H0 H N (some (some (.ref p))) (.o b Ds) [p]
  | s {a ns} : Scr K H a (ns.map V.int) → SlotOk K H0 H N (some (some (.ref a))) (.s ns) []
  | oo {p qs b Dss} : H p = some (.lst (qs.map V.ref)) → Qs K b H0 H N qs Dss → (p :: qs).Nodup → SlotOk K H0 H N (some (some (.ref p))) (.oo b Dss) (p :: qs)
  | ob {a C fv G l} : ObOk K H0 H N a C fv G l → SlotOk K H0 H N (some (some (.ref a))) (.ob a C fv G) l
  | dc {p kvs b Ks} : H p = some (.dK kvs) → KvOk K b H0 H N kvs Ks → SlotOk K H0 H N (some (some (.ref p))) (.dc b Ks) [p]
  | rb {a C fv} : RbOk K H N a C fv → SlotOk K H0 H N (some (some (.ref a))) (.rb a C fv) []
  | al {v} : SlotOk K H0 H N (some (some v)) (.al v) []
  | rl {x p vs} : H p = some (.lst vs) → SlotOk K H0 H N x (.rl p vs) [p]
  | oa {x p vs b Ds} : H p = some (.lst vs) → RA K b H0 H N vs Ds → SlotOk K H0 H N x (.oa p b Ds) [p]
  | ot {x G} : (∀ g ∈ G, H g.1 = some g.2) → SlotOk K H0 H N x (.ot G) (G.map (·.1))
abbrev Qn := Nat → List Addr
def Own (q : Qn) (F : Addr → Prop) (a : Addr) : Prop := F a ∨ ∃ j, a ∈ q j
structure EnvQ (K : PySem.W.Frag) (H0 Pn H : Hp) (σ : L2.St) (ρ : List SV) (F : Addr → Prop) (q : Qn) : Prop where
  len : σ.length = ρ.length
  slot : ∀ (i : Nat) s, ρ[i]? = some s → SlotOk K H0 H (Own q F) σ[i]? s (q i)
  inj : ∀ i j a, a ∈ q i → a ∈ q j → i = j
  out : ∀ i, ρ.length ≤ i → q i = []
  same : Same Pn H
  base : Same H0 Pn
  new : ∀ a, Own q F a → Pn a = none
  dis : ∀ a i, F a → a ∉ q i
  own : OwnOk H (Own q F)
section
variable {K : PySem.W.Frag} {b : Bool} {H0 Pn H H1 : Hp} {N N1 F : Addr → Prop} {σ : L2.St} {ρ : List SV} {q : Qn} {p : Addr} {vs : List V}
theorem FldOk.shift {v : V} {x : FV} (k : FldOk K H0 H N v x) (t : Shift H N H1 N1) (hk : ∀ p, v = .ref p → (∃ Ds, x = .o Ds) → H1 p = H p) : FldOk K H0 H1 N1 v x := by
  cases k with
  | d r => exact .d (t.rv r)
  | o e r => exact .o ((hk _ rfl ⟨_, rfl⟩).trans e) (t.ra r)
theorem mem_ownFd {Fs : List Fd} {t : Fd} {p : Addr} (h : t ∈ Fs) (e : t.2.1 = .ref p) (x : ∃ Ds, t.2.2 = .o Ds) : p ∈ Fs.flatMap ownFd := by
  obtain ⟨Ds, x⟩ := x
  obtain ⟨n, v, f⟩ := t
  simp only at e x
  subst e x
  exact List.mem_flatMap.mpr ⟨_, h, by simp [ownFd]⟩
theorem ObOk.shift {a C : Addr} {fv : List (Str × FV)} {G : List (Addr × HO)} {l : List Addr} (h : ObOk K H0 H N a C fv G l) (t : Shift H N H1 N1) (hk : ∀ b ∈ l, H1 b = H b) : ObOk K H0 H1 N1 a C fv G l := by
  obtain ⟨dx, Fs, ef, el, e1, e2, hf, nd, hg, hl⟩ := h.ex
  subst el
  refine ⟨dx, Fs, ef, rfl, (hk _ (by simp)).trans e1, (hk _ (by simp)).trans e2, (fun u hu => (hf u hu).shift t fun p hp hx => hk p ?_), nd, (fun g hgm => ⟨(hk _ ?_).trans (hg g hgm).1, (hg g hgm).2⟩), hl⟩
  · have := mem_ownFd hu hp hx
    simp only [List.mem_cons, List.mem_append]
    exact .inr (.inr (.inl this))
  · simp only [List.mem_cons, List.mem_append]
    exact .inr (.inr (.inr (List.mem_map_of_mem hgm)))
theorem RbOk.shift {a C : Addr} {fv : List (Str × FV)} (h : RbOk K H N a C fv) (t : Shift H N H1 N1) : RbOk K H1 N1 a C fv := by
  obtain ⟨dx, Fs, ef, e1, na, hf⟩ := h.ex
  refine ⟨dx, Fs, ef, t.keep _ _ na e1, fun z => ?_, fun u hu => ?_⟩
  · rcases t.own a z with q | q
    · exact na q
    · rw [e1] at q; cases q
  · exact Rp.mono (fun _ _ q => ⟨q.1, q.2.1, fun z => nomatch z⟩) (fun _ _ q => q) _ _ (t.rv (hf u hu))
theorem SlotOk.shift {x : Option (Option V)} {s : SV} {l : List Addr} (k : SlotOk K H0 H N x s l) (t : Shift H N H1 N1) (hk : ∀ a ∈ l, H1 a = H a) : SlotOk K H0 H1 N1 x s l := by
  cases k with
  | u => exact .u
  | d r => exact .d (t.rv r)
  | o e r => exact .o ((hk _ (by simp)).trans e) (t.ra r)
  | s e => exact .s (e.shift t)
  | @oo p qs b Dss e r n =>
    refine .oo ((hk _ (by simp)).trans e) ?_ n
    have : ∀ {qs : List Addr} {Dss : List (List PyData)}, Qs K b H0 H N qs Dss → (∀ a ∈ qs, H1 a = H a) → Qs K b H0 H1 N1 qs Dss := by
      intro qs Dss h
      induction h with
      | nil => intro _; exact .nil
      | cons a b ih =>
        intro hq
        obtain ⟨vs, e1, r1⟩ := a
        exact .cons ⟨vs, (hq _ (by simp)).trans e1, t.ra r1⟩ (ih fun c hc => hq c (by simp [hc]))
    exact this r fun a ha => hk a (by simp [ha])
  | ob h => exact .ob (h.shift t hk)
  | rb h => exact .rb (h.shift t)
  | al => exact .al
  | rl e => exact .rl ((hk _ (by simp)).trans e)
  | oa e r => exact .oa ((hk _ (by simp)).trans e) (t.ra r)
  | ot e => exact .ot fun g hg => (hk _ (List.mem_map_of_mem hg)).trans (e g hg)
  | dc e r =>
    refine .dc ((hk _ (by simp)).trans e) ?_
    clear e hk
    induction r with
    | nil => exact .nil
    | cons a _ ih => exact .cons ⟨a.1, t.rv a.2⟩ ih
theorem Own.mem {q : Qn} {F : Addr → Prop} {a : Addr} {i : Nat} (h : a ∈ q i) : Own q F a := .inr ⟨i, h⟩
theorem EnvQ.grow (E : EnvQ K H0 Pn H σ ρ F q) (s : Same H H1) : EnvQ K H0 Pn H1 σ ρ F q :=
  ⟨E.len, fun i t h => (E.slot i t h).shift (Shift.same E.own s) (fun a ha => by
    obtain ⟨o, e, _⟩ := E.own a (.mem ha)
    rw [e, s a o e]), E.inj, E.out, E.same.trans s, E.base, E.new, E.dis, fun a n => by
      obtain ⟨o, e, z⟩ := E.own a n
      exact ⟨o, s a o e, z⟩⟩
def Fp (F : Addr → Prop) (p : Addr) : Addr → Prop := fun a => F a ∨ a = p
theorem EnvQ.addF (E : EnvQ K H0 Pn H σ ρ F q) (s : Same H H1) (hp : H p = none) (h1 : H1 p = some (.lst vs)) : EnvQ K H0 Pn H1 σ ρ (Fp F p) q := by
  have hq : ∀ i, p ∉ q i := fun i z => by
    obtain ⟨o, e, _⟩ := E.own p (.mem z)
    rw [hp] at e; cases e
  have hP : Pn p = none := E.same.free hp
  have t : Shift H (Own q F) H1 (Own q (Fp F p)) := ⟨fun a o _ e => s a o e, fun a n => by
    rcases n with (n | rfl) | n
    · exact .inl (.inl n)
    · exact .inr hp
    · exact .inl (.inr n), E.own⟩
  refine ⟨E.len, fun i u h => (E.slot i u h).shift t (fun a ha => ?_), E.inj, E.out, E.same.trans s, E.base, fun a n => ?_, fun a i n => ?_, fun a n => ?_⟩
  · obtain ⟨o, e, _⟩ := E.own a (.mem ha)
    rw [e, s a o e]
  · rcases n with (n | rfl) | n
    · exact E.new a (.inl n)
    · exact hP
    · exact E.new a (.inr n)
  · rcases n with n | rfl
    · exact E.dis a i n
    · exact hq i
  · rcases n with (n | rfl) | n
    · obtain ⟨o, e, z⟩ := E.own a (.inl n)
      exact ⟨o, s a o e, z⟩
    · exact ⟨_, h1, fun _ z => (by cases z), fun _ _ z => (by cases z)⟩
    · obtain ⟨o, e, z⟩ := E.own a (.inr n)
      exact ⟨o, s a o e, z⟩
theorem EnvQ.dropF {F' : Addr → Prop} (E : EnvQ K H0 Pn H σ ρ F q) (h : ∀ a, F' a → F a) : EnvQ K H0 Pn H σ ρ F' q := by
  have t : Shift H (Own q F) H (Own q F') := ⟨fun _ _ _ e => e, fun a n => .inl (n.imp (h a) id), E.own⟩
  exact ⟨E.len, fun i u z => (E.slot i u z).shift t (fun _ _ => rfl), E.inj, E.out, E.same, E.base, fun a n => E.new a (n.imp (h a) id), fun a i n => E.dis a i (h a n), fun a n => E.own a (n.imp (h a) id)⟩
def clr (q : Qn) (i : Nat) (l : List Addr) : Qn := fun j => if j = i then l else q j
theorem clr_same {i : Nat} {l : List Addr} : clr q i l i = l := if_pos rfl
theorem clr_ne {i j : Nat} {l : List Addr} (h : j ≠ i) : clr q i l j = q j := if_neg h
theorem EnvQ.put {F' : Addr → Prop} {i : Nat} {x : Option V} {s : SV} {l : List Addr} (E : EnvQ K H0 Pn H σ ρ F q) (hi : i < ρ.length) (hF : ∀ a, F' a → F a ∧ a ∉ l) (hl : ∀ a ∈ l, F a)
    (hs : SlotOk K H0 H (Own q F) (some x) s l) : EnvQ K H0 Pn H (σ.set i x) (ρ.set i s) F' (clr q i l) := by
  have sub : ∀ a, Own (clr q i l) F' a → Own q F a := fun a n => by
    rcases n with n | ⟨j, n⟩
    · exact .inl (hF a n).1
    · by_cases e : j = i
      · subst e; rw [clr_same] at n; exact .inl (hl a n)
      · rw [clr_ne e] at n; exact .inr ⟨j, n⟩
  have t : Shift H (Own q F) H (Own (clr q i l) F') := ⟨fun _ _ _ e => e, fun a n => .inl (sub a n), E.own⟩
  refine ⟨by simp [E.len], fun j u h => ?_, fun j k a h1 h2 => ?_, fun j h => ?_, E.same, E.base, fun a n => E.new a (sub a n), fun a j n => ?_, fun a n => E.own a (sub a n)⟩
  · by_cases e : j = i
    · subst e
      rw [List.getElem?_set_self hi] at h
      cases h
      rw [clr_same, List.getElem?_set_self (by rw [E.len]; exact hi)]
      exact hs.shift t (fun _ _ => rfl)
    · rw [List.getElem?_set_ne (Ne.symm e)] at h
      rw [clr_ne e, List.getElem?_set_ne (Ne.symm e)]
      exact (E.slot j u h).shift t (fun _ _ => rfl)
  · by_cases e1 : j = i
    · subst e1
      by_cases e2 : k = j
      · exact e2.symm
      · rw [clr_same] at h1; rw [clr_ne e2] at h2
        exact absurd h2 (E.dis a k (hl a h1))
    · by_cases e2 : k = i
      · subst e2
        rw [clr_same] at h2; rw [clr_ne e1] at h1
        exact absurd h1 (E.dis a j (hl a h2))
      · rw [clr_ne e1] at h1; rw [clr_ne e2] at h2
        exact E.inj j k a h1 h2
  · have : j ≠ i := by
      intro e; subst e
      simp at h; omega
    rw [clr_ne this]
    exact E.out j (by simpa using h)
  · by_cases e : j = i
    · subst e; rw [clr_same]; exact (hF a n).2
    · rw [clr_ne e]; exact E.dis a j (hF a n).1
theorem EnvQ.put_d {i : Nat} {v : V} {D : PyData} (E : EnvQ K H0 Pn H σ ρ F q) (hi : i < ρ.length) (r : RV K b H0 H (Own q F) v D) : EnvQ K H0 Pn H (σ.set i (some v)) (ρ.set i (.d b D)) F (clr q i []) :=
  E.put hi (fun a n => ⟨n, by simp⟩) (fun a n => nomatch n) (.d r)
theorem EnvQ.put_o {i : Nat} {Ds : List PyData} (E : EnvQ K H0 Pn H σ ρ (Fp F p) q) (hi : i < ρ.length) (hp : ¬ F p) (e : H p = some (.lst vs)) (r : RA K b H0 H (Own q (Fp F p)) vs Ds) :
    EnvQ K H0 Pn H (σ.set i (some (.ref p))) (ρ.set i (.o b Ds)) F (clr q i [p]) :=
  E.put hi (fun a n => ⟨.inl n, by simp; rintro rfl; exact hp n⟩) (fun a n => by simp at n; exact .inr n) (.o e r)
theorem EnvQ.forget {i : Nat} (E : EnvQ K H0 Pn H σ ρ F q) : EnvQ K H0 Pn H σ (ρ.set i .u) F (clr q i []) := by
  by_cases hi : i < ρ.length
  · have h1 : i < σ.length := by rw [E.len]; exact hi
    have e : σ.set i σ[i] = σ := by simp
    have := E.put (F' := F) (i := i) (x := σ[i]) (s := .u) (l := []) hi (fun a n => ⟨n, by simp⟩) (fun a n => nomatch n) .u
    rwa [e] at this
  · have e1 : ρ.set i SV.u = ρ := List.set_eq_of_length_le (by omega)
    have e2 : clr q i [] = q := by
      funext j
      by_cases e : j = i
      · subst e; rw [clr_same, E.out j (by omega)]
      · exact clr_ne e
    rw [e1, e2]; exact E
theorem EnvQ.freeze {i : Nat} {Ds : List PyData} (E : EnvQ K H0 Pn H σ ρ F q) (h : ρ[i]? = some (.o b Ds)) : EnvQ K H0 Pn H σ (ρ.set i (.d b (.list Ds))) F (clr q i []) := by
  have hi : i < ρ.length := (List.getElem?_eq_some_iff.mp h).1
  have hs := E.slot i _ h
  have h1 : i < σ.length := by rw [E.len]; exact hi
  rw [List.getElem?_eq_getElem h1] at hs
  generalize hx : σ[i] = x at hs
  generalize hl : q i = l at hs
  have e : σ.set i x = σ := by rw [← hx]; simp
  cases hs with
  | @o p vs _ _ hp r =>
    have sub : ∀ a, Own (clr q i []) F a → Own q F a ∧ a ≠ p := fun a n => by
      rcases n with n | ⟨j, n⟩
      · refine ⟨.inl n, ?_⟩
        rintro rfl
        exact E.dis a i n (by rw [hl]; simp)
      · by_cases ej : j = i
        · subst ej; rw [clr_same] at n; cases n
        · rw [clr_ne ej] at n
          refine ⟨.inr ⟨j, n⟩, fun z => ?_⟩
          subst z
          exact ej (E.inj j i _ n (by rw [hl]; simp))
    have t : Shift H (Own q F) H (Own (clr q i []) F) := ⟨fun _ _ _ e => e, fun a n => .inl (sub a n).1, E.own⟩
    refine ⟨by simp [E.len], fun j u h => ?_, fun j k a h1 h2 => ?_, fun j h => ?_, E.same, E.base, fun a n => E.new a (sub a n).1, fun a j n => ?_, fun a n => E.own a (sub a n).1⟩
    · by_cases e : j = i
      · subst e
        rw [List.getElem?_set_self hi] at h
        cases h
        rw [clr_same, List.getElem?_eq_getElem h1, hx]
        refine .d (.lst ⟨fun n => (sub p n).2 rfl, hp, fun _ => ?_⟩ (t.ra r))
        exact E.base.free (E.new p (.inr ⟨j, by rw [hl]; simp⟩))
      · rw [List.getElem?_set_ne (Ne.symm e)] at h
        rw [clr_ne e]
        exact (E.slot j u h).shift t (fun _ _ => rfl)
    · by_cases e1 : j = i
      · subst e1; rw [clr_same] at h1; cases h1
      · by_cases e2 : k = i
        · subst e2; rw [clr_same] at h2; cases h2
        · rw [clr_ne e1] at h1; rw [clr_ne e2] at h2
          exact E.inj j k a h1 h2
    · have : j ≠ i := by
        intro e; subst e
        simp at h; omega
      rw [clr_ne this]
      exact E.out j (by simpa using h)
    · by_cases e : j = i
      · subst e; rw [clr_same]; simp
      · rw [clr_ne e]; exact E.dis a j n
theorem EnvQ.write {i : Nat} {Ds Es : List PyData} {b' : Bool} {ws : List V} (E : EnvQ K H0 Pn H σ ρ F q) (h : ρ[i]? = some (.o b Ds)) (hv : σ[i]? = some (some (.ref p))) (r : RA K b' H0 H (Own q F) ws Es) :
    EnvQ K H0 Pn (upd H p (.lst ws)) σ (ρ.set i (.o b' Es)) F q := by
  have hi : i < ρ.length := (List.getElem?_eq_some_iff.mp h).1
  have hs := E.slot i _ h
  rw [hv] at hs
  generalize hl : q i = l at hs
  cases hs with
  | @o _ vs _ _ hp r0 =>
    have op : Own q F p := .inr ⟨i, by rw [hl]; simp⟩
    have t : Shift H (Own q F) (upd H p (.lst ws)) (Own q F) := ⟨fun a o n e => by rw [upd_ne (fun z => n (by rw [z]; exact op))]; exact e, fun a n => .inl n, E.own⟩
    refine ⟨by simp [E.len], fun j u h => ?_, E.inj, fun j h => E.out j (by simpa using h), fun a o e => ?_, E.base, E.new, E.dis, fun a n => ?_⟩
    · by_cases e : j = i
      · subst e
        rw [List.getElem?_set_self hi] at h
        cases h
        rw [hv, hl]
        exact .o upd_same (t.ra r)
      · rw [List.getElem?_set_ne (Ne.symm e)] at h
        refine (E.slot j u h).shift t (fun a ha => upd_ne ?_)
        rintro rfl
        exact e (E.inj j i a ha (by rw [hl]; simp))
    · rw [upd_ne (fun z => by rw [z, E.new p op] at e; cases e)]
      exact E.same a o e
    · by_cases e : a = p
      · subst e; exact ⟨_, upd_same, fun _ z => (by cases z), fun _ _ z => (by cases z)⟩
      · rw [upd_ne e]; exact E.own a n
theorem EnvQ.at_d {i : Nat} {D : PyData} (E : EnvQ K H0 Pn H σ ρ F q) (h : ρ[i]? = some (.d b D)) : ∃ v, σ[i]? = some (some v) ∧ RV K b H0 H (Own q F) v D := by
  have hs := E.slot i _ h
  generalize σ[i]? = x at hs
  generalize q i = l at hs
  cases hs with
  | d r => exact ⟨_, rfl, r⟩
theorem EnvQ.at_o {i : Nat} {Ds : List PyData} (E : EnvQ K H0 Pn H σ ρ F q) (h : ρ[i]? = some (.o b Ds)) : ∃ p vs, σ[i]? = some (some (.ref p)) ∧ H p = some (.lst vs) ∧ RA K b H0 H (Own q F) vs Ds := by
  have hs := E.slot i _ h
  generalize σ[i]? = x at hs
  generalize q i = l at hs
  cases hs with
  | o e r => exact ⟨_, _, rfl, e, r⟩
theorem EnvQ.at_s {i : Nat} {ns : List Int} (E : EnvQ K H0 Pn H σ ρ F q) (h : ρ[i]? = some (.s ns)) : ∃ p, σ[i]? = some (some (.ref p)) ∧ Scr K H p (ns.map V.int) := by
  have hs := E.slot i _ h
  generalize σ[i]? = x at hs
  generalize q i = l at hs
  cases hs with
  | s e => exact ⟨_, rfl, e⟩
end
end Rk
namespace Rk
open PySem PySem.Spec PyProof.Rows L2
section
variable {X : Cx} {σ : L2.St} {H : Hp}
def semE (X : Cx) (e : Expr) (σ : L2.St) (H : Hp) (Q : VK) : Prop := ∀ pins s, Inv X pins σ H s → wpAny (model X.prog X.w) X.A (eval e X.env) (EP X pins σ Q) X.xe s
def semT (X : Cx) (e : Expr) (σ : L2.St) (H : Hp) (Q : Bool → Hp → Prop) : Prop := ∀ pins s, Inv X pins σ H s → wpAny (model X.prog X.w) X.A (isTrue e X.env (eval e X.env)) (TP X pins σ Q) X.xe s
def semA (X : Cx) (es : List Expr) (σ : L2.St) (H : Hp) (Q : List V → Hp → Prop) : Prop := ∀ (pos : Pos) pins s, Inv X pins σ H s → wpAny (model X.prog X.w) X.A (spliced (backTo pos (starEach es X.env))) (AP X pins σ Q) X.xe s
def semS (X : Cx) (sts : List Stmt) (D : Ends) (σ : L2.St) (H : Hp) : Prop := ∀ pins s, Inv X pins σ H s → wpAny (model X.prog X.w) X.A (execs sts X.env) (SP X pins D) X.xe s
theorem pe_sem {e : Expr} : PE X e (semE X e) := ⟨fun pins s _ _ _ I h => h pins s I⟩
theorem pt_sem {e : Expr} : PT X e (semT X e) := ⟨fun pins s _ _ _ I h => h pins s I⟩
theorem pa_sem {es : List Expr} : PA X es (semA X es) := ⟨fun pos pins s _ _ _ I h => h pos pins s I⟩
theorem pss_sem {sts : List Stmt} : PSs X sts (semS X sts) := ⟨fun pins s _ _ _ I h => h pins s I⟩
theorem semE_of {e : Expr} {t : TE} {Q : VK} (h : PE X e t) (q : t σ H Q) : semE X e σ H Q := fun pins s I => h.run pins s σ H Q I q
theorem semT_of {e : Expr} {t : TT} {Q : Bool → Hp → Prop} (h : PT X e t) (q : t σ H Q) : semT X e σ H Q := fun pins s I => h.run pins s σ H Q I q
theorem semA_of {es : List Expr} {t : TA} {Q : List V → Hp → Prop} (h : PA X es t) (q : t σ H Q) : semA X es σ H Q := fun pos pins s I => h.run pos pins s σ H Q I q
theorem semS_of {sts : List Stmt} {t : TS} {D : Ends} (h : PSs X sts t) (q : t D σ H) : semS X sts D σ H := fun pins s I => h.run pins s σ H D I q
theorem semE.mono {e : Expr} {Q Q' : VK} (h : semE X e σ H Q) (hq : ∀ v H', Q v H' → Q' v H') : semE X e σ H Q' := fun pins s I =>
  thn (h pins s I) fun v s1 ⟨x, H1, I1, r1, q1⟩ => ⟨x, H1, I1, r1, hq x H1 q1⟩
theorem semT.mono {e : Expr} {Q Q' : Bool → Hp → Prop} (h : semT X e σ H Q) (hq : ∀ v H', Q v H' → Q' v H') : semT X e σ H Q' := fun pins s I =>
  thn (h pins s I) fun v s1 ⟨H1, I1, q1⟩ => ⟨H1, I1, hq v H1 q1⟩
theorem semA.mono {es : List Expr} {Q Q' : List V → Hp → Prop} (h : semA X es σ H Q) (hq : ∀ v H', Q v H' → Q' v H') : semA X es σ H Q' := fun pos pins s I =>
  thn (h pos pins s I) fun v s1 ⟨x, H1, I1, r1, q1⟩ => ⟨x, H1, I1, r1, hq x H1 q1⟩
theorem SP.mono {pins : List (Addr × Obj)} {D D' : Ends} {f : Flow} {s' : Shared} (h : SP X pins D f s') (h1 : ∀ σ H, D.nx σ H → D'.nx σ H) (h2 : ∀ v H, D.rt v H → D'.rt v H) (h3 : ∀ σ H, D.bk σ H → D'.bk σ H) (h4 : ∀ σ H, D.ct σ H → D'.ct σ H) : SP X pins D' f s' := by
  cases f with
  | next => obtain ⟨σ', H', I, q⟩ := h; exact ⟨σ', H', I, h1 _ _ q⟩
  | brk => obtain ⟨σ', H', I, q⟩ := h; exact ⟨σ', H', I, h3 _ _ q⟩
  | cont => obtain ⟨σ', H', I, q⟩ := h; exact ⟨σ', H', I, h4 _ _ q⟩
  | ret u => obtain ⟨v, σ', H', I, r, q⟩ := h; exact ⟨v, σ', H', I, r, h2 _ _ q⟩
theorem semS.mono {sts : List Stmt} {D D' : Ends} (h : semS X sts D σ H) (h1 : ∀ σ H, D.nx σ H → D'.nx σ H) (h2 : ∀ v H, D.rt v H → D'.rt v H) (h3 : ∀ σ H, D.bk σ H → D'.bk σ H) (h4 : ∀ σ H, D.ct σ H → D'.ct σ H) : semS X sts D' σ H :=
  fun pins s I => thn (h pins s I) fun _ _ q => SP.mono q h1 h2 h3 h4
end
structure Ct where
  X : Cx
  H0 : Hp
abbrev Ct.Env (C : Ct) (Pn H : Hp) (σ : L2.St) (ρ : List SV) (F : Addr → Prop) (q : Qn) : Prop := EnvQ C.X.K C.H0 Pn H σ ρ F q
abbrev Ct.R (C : Ct) (b : Bool) (H : Hp) (N : Addr → Prop) : V → PyData → Prop := RV C.X.K b C.H0 H N
abbrev Ct.Rs (C : Ct) (b : Bool) (H : Hp) (N : Addr → Prop) : List V → List PyData → Prop := RA C.X.K b C.H0 H N
structure Ev (C : Ct) (ρ : List SV) (e : Expr) (b : Bool) (D : PyData) : Prop where
  run : ∀ Pn F q σ H, C.Env Pn H σ ρ F q → semE C.X e σ H fun v H' => Same H H' ∧ C.R b H' (Own q F) v D
structure EvO (C : Ct) (ρ : List SV) (e : Expr) (b : Bool) (Ds : List PyData) : Prop where
  run : ∀ Pn F q σ H, C.Env Pn H σ ρ F q → semE C.X e σ H fun v H' => Same H H' ∧ ∃ p vs, v = .ref p ∧ H p = none ∧ H' p = some (.lst vs) ∧ C.Rs b H' (Own q (Fp F p)) vs Ds
structure Bw (C : Ct) (ρ : List SV) (e : Expr) (b : Bool) (Ds : List PyData) : Prop where
  run : ∀ Pn F q σ H, C.Env Pn H σ ρ F q → semE C.X e σ H fun v H' => Same H H' ∧ ∃ a vs, v = .ref a ∧ SqL C.X.K H' a vs ∧ C.Rs b H' (Own q F) vs Ds
structure Bx (C : Ct) (ρ : List SV) (e : Expr) (b : Bool) (Ds : List PyData) : Prop where
  run : ∀ Pn F q σ H, C.Env Pn H σ ρ F q → semE C.X e σ H fun v H' => Same H H' ∧ ∃ a vs, v = .ref a ∧ H' a = some (.lst vs) ∧ C.Rs b H' (Own q F) vs Ds
structure Evs (C : Ct) (ρ : List SV) (es : List Expr) (b : Bool) (Ds : List PyData) : Prop where
  run : ∀ Pn F q σ H, C.Env Pn H σ ρ F q → semA C.X es σ H fun vs H' => Same H H' ∧ C.Rs b H' (Own q F) vs Ds
structure EvT (C : Ct) (ρ : List SV) (e : Expr) (c : Bool) : Prop where
  run : ∀ Pn F q σ H, C.Env Pn H σ ρ F q → semT C.X e σ H fun b H' => Same H H' ∧ b = c
section
variable {C : Ct} {ρ : List SV} {b b' : Bool} {e a c : Expr} {es : List Expr} {D : PyData} {Ds Es : List PyData} {pos p : Pos} {i j : Int}
theorem Ct.Env.shift {C : Ct} {Pn H H' : Hp} {σ : L2.St} {F : Addr → Prop} {q : Qn} (E : C.Env Pn H σ ρ F q) (s : Same H H') : Shift H (Own q F) H' (Own q F) := Shift.same E.own s
theorem Ct.Env.fp {C : Ct} {Pn H H' : Hp} {σ : L2.St} {F : Addr → Prop} {q : Qn} {p : Addr} (E : C.Env Pn H σ ρ F q) (s : Same H H') (hp : H p = none) : Shift H (Own q F) H' (Own q (Fp F p)) :=
  ⟨fun a o _ e => s a o e, fun a n => by
    rcases n with (n | rfl) | n
    · exact .inl (.inl n)
    · exact .inr hp
    · exact .inl (.inr n), E.own⟩
theorem RA.unFp {K : PySem.W.Frag} {H0 H : Hp} {F : Addr → Prop} {q : Qn} {p : Addr} {vs : List V} (h : RA K b H0 H (Own q (Fp F p)) vs Ds) : RA K b H0 H (Own q F) vs Ds :=
  RpAll.mono (fun _ _ z => ⟨fun n => z.1 (n.imp .inl id), z.2⟩) (fun _ _ z => z) _ _ h
theorem Ev.shared (h : Ev C ρ e b D) : Ev C ρ e false D := .mk fun Pn F q σ H E => (h.run _ F q σ H E).mono fun v H' ⟨s, r⟩ => ⟨s, r.shared⟩
theorem Ev.weak (h : Ev C ρ e true D) : Ev C ρ e b D := .mk fun Pn F q σ H E => (h.run _ F q σ H E).mono fun v H' ⟨s, r⟩ => ⟨s, r.weak⟩
theorem Ev.flat (h : Ev C ρ e b D) (f : Rk.flat D = true) : Ev C ρ e b' D := .mk fun Pn F q σ H E => (h.run _ F q σ H E).mono fun v H' ⟨s, r⟩ => ⟨s, r.flat f⟩
theorem EvO.ev (h : EvO C ρ e b Ds) : Ev C ρ e b (.list Ds) := .mk fun Pn F q σ H E => (h.run _ F q σ H E).mono fun v H' ⟨s, p, vs, ev, hp, hp', r⟩ => by
  subst ev
  refine ⟨s, .lst ⟨fun n => ?_, hp', fun _ => E.base.free (E.same.free hp)⟩ r.unFp⟩
  obtain ⟨o, e, _⟩ := E.own p n
  rw [hp] at e; cases e
theorem Ev.bx (h : Ev C ρ e b (.list Ds)) : Bx C ρ e b Ds := .mk fun Pn F q σ H E => (h.run _ F q σ H E).mono fun v H' ⟨s, r⟩ => by
  cases r with
  | lst a r => exact ⟨s, _, _, rfl, a.2.1, r⟩
theorem EvO.bx (h : EvO C ρ e b Ds) : Bx C ρ e b Ds := h.ev.bx
theorem Bx.bw (h : Bx C ρ e b Ds) : Bw C ρ e b Ds := .mk fun Pn F q σ H E => (h.run _ F q σ H E).mono fun v H' ⟨s, a, vs, e, k, r⟩ => ⟨s, a, vs, e, .of k, r⟩
theorem Bw.flat (h : Bw C ρ e b Ds) (f : Rk.flat.flatAll Ds = true) : Bw C ρ e b' Ds := .mk fun Pn F q σ H E => (h.run _ F q σ H E).mono fun v H' ⟨s, a, vs, e, k, r⟩ => ⟨s, a, vs, e, k, RpAll.flat (fun _ _ z => z) _ _ r f⟩
theorem ev_var {k : Nat} (he : PE C.X e (tVar k)) (h : ρ[k]? = some (.d b D)) : Ev C ρ e b D := .mk fun Pn F q σ H E => by
  obtain ⟨v, hv, r⟩ := E.at_d h
  exact semE_of he ⟨v, hv, Same.refl _, r⟩
theorem bx_var {k : Nat} (he : PE C.X e (tVar k)) (h : ρ[k]? = some (.o b Ds)) : Bx C ρ e b Ds := .mk fun Pn F q σ H E => by
  obtain ⟨p, vs, hv, hp, r⟩ := E.at_o h
  exact semE_of he ⟨_, hv, Same.refl _, p, vs, rfl, hp, r⟩
theorem bw_scr {k : Nat} {ns : List Int} (he : PE C.X e (tVar k)) (h : ρ[k]? = some (.s ns)) : Bw C ρ e true (ns.map .int) := .mk fun Pn F q σ H E => by
  obtain ⟨p, hv, r⟩ := E.at_s h
  exact semE_of he ⟨_, hv, Same.refl _, p, _, rfl, r.sql, RpAll.of_ints ns⟩
theorem ev_int {k : Nat} : Ev C ρ (.Constant (.int i) k pos) true (.int i) := .mk fun Pn F q σ H E => semE_of pe_int ⟨Same.refl _, .int i⟩
theorem ev_bl {k : Nat} {x : Bool} : Ev C ρ (.Constant (.bool x) k pos) true (.bool x) := .mk fun Pn F q σ H E => semE_of pe_bl ⟨Same.refl _, .bl x⟩
theorem ev_non {k : Nat} : Ev C ρ (.Constant .none k pos) true .none := .mk fun Pn F q σ H E => semE_of pe_non ⟨Same.refl _, .non⟩
theorem ev_str {k : Nat} {x : Str} : Ev C ρ (.Constant (.str x) k pos) true (.str x) := .mk fun Pn F q σ H E => semE_of pe_str ⟨Same.refl _, .str x⟩
theorem ev_gint {x : Str} {t : Tok} (hm : C.X.mg x = some (.int i t)) (hd : (x == ("__debug__" : Str)) = false := by decide) (hg : Gl C.X x := by rfl) : Ev C ρ (.Name x p) true (.int i) :=
  .mk fun Pn F q σ H E => semE_of (pe_glob (v := .int i) hg hm ⟨t, rfl⟩ hd) ⟨Same.refl _, .int i⟩
theorem ev_two {b1 b2 : Bool} {D1 D2 : PyData} {F : Addr → Prop} {q : Qn} {σ : L2.St} {Pn H : Hp} {Q : V → V → Hp → Prop} (ha : Ev C ρ a b1 D1) (hc : Ev C ρ c b2 D2) (E : C.Env Pn H σ ρ F q)
    (h : ∀ x y H2, Same H H2 → C.R b1 H2 (Own q F) x D1 → C.R b2 H2 (Own q F) y D2 → Q x y H2) : semE C.X a σ H fun x H1 => semE C.X c σ H1 fun y H2 => Q x y H2 :=
  (ha.run _ F q σ H E).mono fun x H1 ⟨s1, r1⟩ => (hc.run _ F q σ H1 (E.grow s1)).mono fun y H2 ⟨s2, r2⟩ => h x y H2 (s1.trans s2) ((Ct.Env.shift (E.grow s1) s2).rv r1) r2
theorem ev_op {op : Operator} {r : R2} {b1 b2 : Bool} {D1 D2 : PyData} (ho : OpR C.X (binaryOp op) r) (ha : Ev C ρ a b1 D1) (hc : Ev C ρ c b2 D2)
    (h : ∀ (N : Addr → Prop) x y H Q, OwnOk H N → C.R b1 H N x D1 → C.R b2 H N y D2 → (∀ v H', Same H H' → C.R b H' N v D → Q v H') → r x y H Q) : Ev C ρ (.BinOp a op c pos) b D := .mk fun Pn F q σ H E =>
  semE_of (pe_op ho pe_sem pe_sem) (ev_two ha hc E fun x y H2 s r1 r2 => h (Own q F) x y H2 _ (E.grow s).own r1 r2 fun v H' s' rr => ⟨s.trans s', rr⟩)
theorem ev_int2 {op : Operator} {P : Int → Int → Prop} {f : Int → Int → Int} {b1 b2 : Bool} (ho : OpR C.X (binaryOp op) (rI P fun i j => .int (f i j))) (ha : Ev C ρ a b1 (.int i)) (hc : Ev C ρ c b2 (.int j)) (hp : P i j) :
    Ev C ρ (.BinOp a op c pos) true (.int (f i j)) := ev_op ho ha hc fun N x y H Q _ r1 r2 k => by
  cases r1; cases r2
  exact ⟨i, j, rfl, rfl, hp, k _ H (Same.refl _) (.int _)⟩
theorem ev_int20 {op : Operator} {f : Int → Int → Int} {b1 b2 : Bool} (ho : OpR C.X (binaryOp op) (rI0 fun i j => .int (f i j))) (ha : Ev C ρ a b1 (.int i)) (hc : Ev C ρ c b2 (.int j)) :
    Ev C ρ (.BinOp a op c pos) true (.int (f i j)) := ev_op ho ha hc fun N x y H Q _ r1 r2 k => by
  cases r1; cases r2
  exact ⟨i, j, rfl, rfl, k _ H (Same.refl _) (.int _)⟩
theorem ev_add {b1 b2 : Bool} (ha : Ev C ρ a b1 (.int i)) (hc : Ev C ρ c b2 (.int j)) : Ev C ρ (.BinOp a .Add c pos) true (.int (i + j)) := ev_int20 op_add ha hc
theorem ev_sub {b1 b2 : Bool} (ha : Ev C ρ a b1 (.int i)) (hc : Ev C ρ c b2 (.int j)) : Ev C ρ (.BinOp a .Sub c pos) true (.int (i - j)) := ev_int20 op_sub ha hc
theorem ev_mul {b1 b2 : Bool} (ha : Ev C ρ a b1 (.int i)) (hc : Ev C ρ c b2 (.int j)) (h : IntMulOk i j) : Ev C ρ (.BinOp a .Mult c pos) true (.int (i * j)) :=
  ev_int2 (P := IntMulOk) (f := fun i j => i * j) (opI fun _ _ _ _ _ _ _ hc q => mul_int q hc) ha hc h
theorem ev_mod {b1 b2 : Bool} (ha : Ev C ρ a b1 (.int i)) (hc : Ev C ρ c b2 (.int j)) (h : 0 < j) : Ev C ρ (.BinOp a .Mod c pos) true (.int (i % j)) := ev_int2 op_mod ha hc h
theorem ev_fdiv {b1 b2 : Bool} (ha : Ev C ρ a b1 (.int i)) (hc : Ev C ρ c b2 (.int j)) (h0 : 0 < j) (h : Builtin.divisionGoesByPylong i j = false) : Ev C ρ (.BinOp a .FloorDiv c pos) true (.int (i / j)) :=
  ev_int2 (P := fun i j => 0 < j ∧ Builtin.divisionGoesByPylong i j = false) (f := fun i j => i / j) (opI fun i j _ _ _ _ _ hc q => floordiv_int (by have := hc.1; omega) (by rw [Int.fdiv_eq_ediv_of_nonneg i (by have := hc.1; omega)]; exact q) (.inl hc.2)) ha hc ⟨h0, h⟩
theorem ev_fdivN {b1 b2 : Bool} (ha : Ev C ρ a b1 (.int i)) (hc : Ev C ρ c b2 (.int j)) (h0 : j ≠ 0) (h : Builtin.divisionGoesByPylong i j = false) : Ev C ρ (.BinOp a .FloorDiv c pos) true (.int (i.fdiv j)) :=
  ev_int2 (P := fun i j => j ≠ 0 ∧ Builtin.divisionGoesByPylong i j = false) (f := fun i j => i.fdiv j) (opI fun i j _ _ _ _ _ hc q => floordiv_int hc.1 q (.inl hc.2)) ha hc ⟨h0, h⟩
theorem ev_pow {b1 b2 : Bool} (ha : Ev C ρ a b1 (.int i)) (hc : Ev C ρ c b2 (.int j)) (h : CPow i j) : Ev C ρ (.BinOp a .Pow c pos) true (.int (i ^ j.toNat)) := ev_int2 op_pow ha hc h
theorem pc_R {X : Cx} {op : CmpOp} {r : R2} {a c : Expr} {ta tb : TE} (ho : OpR X (compareOp op) r) (ha : PE X a ta) (hb : PE X c tb) : PC X op a c (tOp r ta tb) :=
  ⟨fun pins s σ H Q I h => binT ha hb I h fun v u s2 x y H2 I2 rx ry q => ho pins s2 σ H2 x y v u Q I2 rx ry q⟩
def semC (X : Cx) (op : CmpOp) (a c : Expr) (σ : L2.St) (H : Hp) (Q : VK) : Prop := ∀ pins s, Inv X pins σ H s →
    wpAny (model X.prog X.w) X.A (eval a X.env) (fun v s₁ => wpAny (model X.prog X.w) X.A (eval c X.env) (fun u s₂ => wpAny (model X.prog X.w) X.A (compareOp op v u) (EP X pins σ Q) X.xe s₂) X.xe s₁) X.xe s
theorem semC_of {X : Cx} {op : CmpOp} {a c : Expr} {σ : L2.St} {H : Hp} {t : TE} {Q : VK} (h : PC X op a c t) (q : t σ H Q) : semC X op a c σ H Q := fun pins s I => h.run pins s σ H Q I q
theorem pc_sem {X : Cx} {op : CmpOp} {a c : Expr} : PC X op a c (semC X op a c) := ⟨fun pins s _ _ _ I h => h pins s I⟩
structure Ec (C : Ct) (ρ : List SV) (a : Expr) (op : CmpOp) (c : Expr) (x : Bool) : Prop where
  run : ∀ Pn F q σ H, C.Env Pn H σ ρ F q → semC C.X op a c σ H fun v H' => Same H H' ∧ v = .bl x
theorem Ec.ev {op : CmpOp} {x : Bool} (h : Ec C ρ a op c x) (h1 : behindInMarks op c = false := by first | exact nobehind _ (by decide) (by decide) | rfl) : Ev C ρ (.Compare a [op] [c] pos) true (.bool x) := .mk fun Pn F q σ H E =>
  semE_of (pe_cmp (pc_sem (op := op) (a := a) (c := c)) h1) (fun pins s I => by
    have := h.run _ F q σ H E pins s I
    refine thn this fun v s1 k => thn k fun u s2 k2 => thn k2 fun d s3 ⟨y, H3, I3, r3, sm, ev⟩ => ⟨y, H3, I3, r3, sm, by rw [ev]; exact .bl x⟩)
theorem Ec.t {op : CmpOp} {x : Bool} (h : Ec C ρ a op c x) (h1 : behindInMarks op c = false := by first | exact nobehind _ (by decide) (by decide) | rfl) : EvT C ρ (.Compare a [op] [c] pos) x := .mk fun Pn F q σ H E =>
  semT_of (pt_cmp (pc_sem (op := op) (a := a) (c := c)) h1) (fun pins s I => by
    have := h.run _ F q σ H E pins s I
    refine thn this fun v s1 k => thn k fun u s2 k2 => thn k2 fun d s3 ⟨y, H3, I3, r3, sm, ev⟩ => ⟨y, H3, I3, r3, x, ev, sm, rfl⟩)
theorem ec_op {op : CmpOp} {r : R2} {x : Bool} {b1 b2 : Bool} {D1 D2 : PyData} (ho : OpR C.X (compareOp op) r) (ha : Ev C ρ a b1 D1) (hc : Ev C ρ c b2 D2)
    (h : ∀ (N : Addr → Prop) y z H Q, C.R b1 H N y D1 → C.R b2 H N z D2 → Q (.bl x) H → r y z H Q) : Ec C ρ a op c x := .mk fun Pn F q σ H E =>
  semC_of (pc_R ho pe_sem pe_sem) (ev_two ha hc E fun x y H2 s r1 r2 => h (Own q F) x y H2 _ r1 r2 ⟨s, rfl⟩)
theorem ec_int {op : CmpOp} {f : Int → Int → Bool} {b1 b2 : Bool} (ho : OpR C.X (compareOp op) (rI0 fun i j => .bl (f i j))) (ha : Ev C ρ a b1 (.int i)) (hc : Ev C ρ c b2 (.int j)) :
    Ec C ρ a op c (f i j) := ec_op ho ha hc fun N x y H Q r1 r2 k => by
  cases r1; cases r2
  exact ⟨i, j, rfl, rfl, k⟩
theorem ec_lt {b1 b2 : Bool} (ha : Ev C ρ a b1 (.int i)) (hc : Ev C ρ c b2 (.int j)) : Ec C ρ a .Lt c (decide (i < j)) := ec_int op_lt ha hc
theorem ec_gt {b1 b2 : Bool} (ha : Ev C ρ a b1 (.int i)) (hc : Ev C ρ c b2 (.int j)) : Ec C ρ a .Gt c (decide (j < i)) := ec_int op_gt ha hc
theorem ec_ge {b1 b2 : Bool} (ha : Ev C ρ a b1 (.int i)) (hc : Ev C ρ c b2 (.int j)) : Ec C ρ a .GtE c (decide (j ≤ i)) := ec_int op_ge ha hc
theorem op_eqI {X : Cx} : OpR X (compareOp .Eq) (rI0 fun i j => .bl (decide (i = j))) := opB0 fun _ _ _ _ _ _ _ q => eq_int (by rw [Bool.beq_eq_decide_eq]; exact q)
theorem op_neI {X : Cx} : OpR X (compareOp .NotEq) (rI0 fun i j => .bl (!decide (i = j))) := opB0 fun _ _ _ _ _ _ _ q => ne_int (by rw [bne, Bool.beq_eq_decide_eq]; exact q)
theorem ec_eqI {b1 b2 : Bool} (ha : Ev C ρ a b1 (.int i)) (hc : Ev C ρ c b2 (.int j)) : Ec C ρ a .Eq c (decide (i = j)) := ec_int op_eqI ha hc
theorem ec_neI {b1 b2 : Bool} (ha : Ev C ρ a b1 (.int i)) (hc : Ev C ρ c b2 (.int j)) : Ec C ρ a .NotEq c (!decide (i = j)) := ec_int op_neI ha hc
theorem ec_eqS {b1 b2 : Bool} {x y : Str} (ha : Ev C ρ a b1 (.str x)) (hc : Ev C ρ c b2 (.str y)) : Ec C ρ a .Eq c (decide (x = y)) := ec_op op_eq ha hc fun N v u H Q r1 r2 k => by
  cases r1; cases r2
  refine ⟨rfl, ?_⟩
  have e : decide (V.str x = V.str y) = decide (x = y) := by simp
  rw [e]; exact k
theorem ec_neD {b1 b2 : Bool} {D1 D2 : PyData} (hu : C.X.A.units + 64 < cLine) (ha : Ev C ρ a b1 D1) (hc : Ev C ρ c b2 D2) (s1 : SeqAt.shaped D1 = true) (s2 : SeqAt.shaped D2 = true) : Ec C ρ a .NotEq c (!PyData.eqv D1 D2) :=
  ec_op (op_neD hu) ha hc fun N x y H Q r1 r2 k => ⟨D1, D2, RV.dp _ _ r1, RV.dp _ _ r2, s1, s2, k⟩
theorem bx_two {b1 b2 : Bool} {Ds1 : List PyData} {D2 : PyData} {F : Addr → Prop} {q : Qn} {σ : L2.St} {Pn H : Hp} {Q : V → V → Hp → Prop} (ha : Bx C ρ a b1 Ds1) (hc : Ev C ρ c b2 D2) (E : C.Env Pn H σ ρ F q)
    (h : ∀ a' vs y H2, Same H H2 → H2 a' = some (.lst vs) → C.Rs b1 H2 (Own q F) vs Ds1 → C.R b2 H2 (Own q F) y D2 → Q (.ref a') y H2) : semE C.X a σ H fun x H1 => semE C.X c σ H1 fun y H2 => Q x y H2 :=
  (ha.run _ F q σ H E).mono fun x H1 ⟨s1, a', vs, ex, e1, r1⟩ => (hc.run _ F q σ H1 (E.grow s1)).mono fun y H2 ⟨s2, r2⟩ => by
    subst ex
    exact h a' vs y H2 (s1.trans s2) (s2 _ _ e1) ((Ct.Env.shift (E.grow s1) s2).ra r1) r2
theorem xx_two {b1 b2 : Bool} {Ds1 Ds2 : List PyData} {F : Addr → Prop} {q : Qn} {σ : L2.St} {Pn H : Hp} {Q : V → V → Hp → Prop} (ha : Bx C ρ a b1 Ds1) (hc : Bx C ρ c b2 Ds2) (E : C.Env Pn H σ ρ F q)
    (h : ∀ a' vs c' us H2, Same H H2 → H2 a' = some (.lst vs) → C.Rs b1 H2 (Own q F) vs Ds1 → H2 c' = some (.lst us) → C.Rs b2 H2 (Own q F) us Ds2 → Q (.ref a') (.ref c') H2) : semE C.X a σ H fun x H1 => semE C.X c σ H1 fun y H2 => Q x y H2 :=
  (ha.run _ F q σ H E).mono fun x H1 ⟨s1, a', vs, ex, e1, r1⟩ => (hc.run _ F q σ H1 (E.grow s1)).mono fun y H2 ⟨s2, c', us, ey, e2, r2⟩ => by
    subst ex ey
    exact h a' vs c' us H2 (s1.trans s2) (s2 _ _ e1) ((Ct.Env.shift (E.grow s1) s2).ra r1) e2 r2
theorem ec_eqX {b1 b2 : Bool} {Ds1 Ds2 : List PyData} (hu : C.X.A.units + 64 < cLine) (ha : Bx C ρ a b1 Ds1) (hc : Bx C ρ c b2 Ds2) (s1 : SeqAt.shaped (.list Ds1) = true) (s2 : SeqAt.shaped (.list Ds2) = true) : Ec C ρ a .Eq c (PyData.eqv (.list Ds1) (.list Ds2)) :=
  .mk fun Pn F q σ H E => semC_of (pc_R (op_eqD hu) pe_sem pe_sem) (xx_two ha hc E fun a' vs c' us H2 s e r1 e2 r2 => ⟨_, _, .lst (.of e) (RA.dp _ _ r1), .lst (.of e2) (RA.dp _ _ r2), s1, s2, s, rfl⟩)
theorem ec_neX {b1 b2 : Bool} {Ds1 Ds2 : List PyData} (hu : C.X.A.units + 64 < cLine) (ha : Bx C ρ a b1 Ds1) (hc : Bx C ρ c b2 Ds2) (s1 : SeqAt.shaped (.list Ds1) = true) (s2 : SeqAt.shaped (.list Ds2) = true) : Ec C ρ a .NotEq c (!PyData.eqv (.list Ds1) (.list Ds2)) :=
  .mk fun Pn F q σ H E => semC_of (pc_R (op_neD hu) pe_sem pe_sem) (xx_two ha hc E fun a' vs c' us H2 s e r1 e2 r2 => ⟨_, _, .lst (.of e) (RA.dp _ _ r1), .lst (.of e2) (RA.dp _ _ r2), s1, s2, s, rfl⟩)
def isNo : PyData → Bool
  | .none => true
  | _ => false
theorem RV.isNo {K : PySem.W.Frag} {H0 H : Hp} {N : Addr → Prop} {v : V} (r : RV K b H0 H N v D) : decide (v = .non) = Rk.isNo D := by
  cases r <;> first | rfl | simp [Rk.isNo]
theorem ec_isN {k : Nat} {p' : Pos} (ha : Ev C ρ a b D) : Ec C ρ a .Is (.Constant .none k p') (isNo D) := .mk fun Pn F q σ H E =>
  semC_of (pc_isN pe_sem) ((ha.run _ F q σ H E).mono fun v H' ⟨s, r⟩ => ⟨s, by rw [r.isNo]⟩)
theorem ec_notN {k : Nat} {p' : Pos} (ha : Ev C ρ a b D) : Ec C ρ a .IsNot (.Constant .none k p') (!isNo D) := .mk fun Pn F q σ H E =>
  semC_of (pc_notN pe_sem) ((ha.run _ F q σ H E).mono fun v H' ⟨s, r⟩ => ⟨s, by rw [r.isNo]⟩)
theorem evt_chain {op op' : CmpOp} {f g : Int → Int → Bool} {m : Expr} {b1 b2 b3 : Bool} {k : Int} (ho : OpR C.X (compareOp op) (rI0 fun i j => .bl (f i j))) (ho' : OpR C.X (compareOp op') (rI0 fun i j => .bl (g i j)))
    (ha : Ev C ρ a b1 (.int i)) (hm : Ev C ρ m b2 (.int j)) (hc : Ev C ρ c b3 (.int k)) (hl : lastMarks [op, op'] [m, c] = false := by with_unfolding_all rfl) :
    EvT C ρ (.Compare a [op, op'] [m, c] pos) (f i j && g j k) := .mk fun Pn F q σ H E => by
  refine semT_of (pt_chain ho ho' pe_sem pe_sem pe_sem hl) ?_
  show semE C.X a σ H fun x H1 => semE C.X m σ H1 fun y H2 => _
  refine (ev_two ha hm E fun x y H2 s r1 r2 => ?_)
  cases r1; cases r2
  refine ⟨i, j, rfl, rfl, f i j, rfl, ?_⟩
  by_cases hf : f i j = true
  · rw [if_pos hf, hf, Bool.true_and]
    refine (hc.run _ F q σ H2 (E.grow s)).mono fun z H3 ⟨s3, r3⟩ => ?_
    cases r3
    exact ⟨j, k, rfl, rfl, _, rfl, s.trans s3, rfl⟩
  · rw [if_neg hf]
    simp only [Bool.not_eq_true] at hf
    rw [hf, Bool.false_and]
    exact ⟨_, rfl, s, rfl⟩
theorem ev_and {rest : List Expr} {x y : Bool} {b1 b2 : Bool} (ha : Ev C ρ a b1 (.bool x)) (hr : x = true → Ev C ρ (.BoolOp .And (c :: rest) pos) b2 (.bool y)) : Ev C ρ (.BoolOp .And (a :: c :: rest) pos) true (.bool (x && y)) := .mk fun Pn F q σ H E => by
  refine semE_of (pe_and pe_sem pe_sem) ((ha.run _ F q σ H E).mono fun v H' ⟨s, r⟩ => ?_)
  cases r
  refine ⟨x, rfl, ?_⟩
  cases x with
  | true =>
    rw [if_pos rfl]
    exact ((hr rfl).run _ F q σ H' (E.grow s)).mono fun v H2 ⟨s2, r2⟩ => ⟨s.trans s2, by cases r2; exact .bl _⟩
  | false =>
    rw [if_neg Bool.false_ne_true]
    exact ⟨s, .bl _⟩
theorem ev_one {op : BoolOp} (ha : Ev C ρ a b D) : Ev C ρ (.BoolOp op [a] pos) b D := .mk fun Pn F q σ H E => semE_of (pe_one pe_sem) (ha.run _ F q σ H E)
theorem ev_neg (ha : Ev C ρ a b (.int i)) : Ev C ρ (.UnaryOp .USub a pos) true (.int (-i)) := .mk fun Pn F q σ H E => by
  refine semE_of (pe_un un_neg pe_sem) ((ha.run _ F q σ H E).mono fun v H' ⟨s, r⟩ => ?_)
  cases r
  exact ⟨i, rfl, s, .int _⟩
theorem evt_val {x : Bool} (h : Ev C ρ e b (.bool x)) (he : ∀ whole, isTrue e C.X.env whole = (do let v ← whole; standAt e.pos; holding [v] (truthy v)) := by intro _; rfl) : EvT C ρ e x := .mk fun Pn F q σ H E => by
  refine semT_of (pt_val pe_sem he) ((h.run _ F q σ H E).mono fun v H' ⟨s, r⟩ => ?_)
  cases r
  exact ⟨x, rfl, s, rfl⟩
theorem evt_not {x : Bool} (h : EvT C ρ a x) : EvT C ρ (.UnaryOp .Not a pos) (!x) := .mk fun Pn F q σ H E =>
  semT_of (pt_not pt_sem) ((h.run _ F q σ H E).mono fun v H' ⟨s, r⟩ => ⟨s, by rw [r]⟩)
structure EvW (C : Ct) (ρ : List SV) (e : Expr) (c : Bool) : Prop where
  run : ∀ Pn F q σ H, C.Env Pn H σ ρ F q → ∀ (whole : Sem Value) pins s, Inv C.X pins σ H s → wpAny (model C.X.prog C.X.w) C.X.A (isTrue e C.X.env whole) (TP C.X pins σ fun b H' => Same H H' ∧ b = c) C.X.xe s
theorem EvW.t {x : Bool} (h : EvW C ρ e x) : EvT C ρ e x := .mk fun Pn F q σ H E pins s I => h.run _ F q σ H E _ pins s I
theorem evw_and1 {x : Bool} (h : EvT C ρ a x) : EvW C ρ (.BoolOp .And [a] pos) x := .mk fun Pn F q σ H E wh pins s I => (pw_and1 pt_sem).run wh pins s σ H _ I (h.run _ F q σ H E)
theorem evw_or1 {x : Bool} (h : EvT C ρ a x) : EvW C ρ (.BoolOp .Or [a] pos) x := .mk fun Pn F q σ H E wh pins s I => (pw_or1 pt_sem).run wh pins s σ H _ I (h.run _ F q σ H E)
def semW (X : Cx) (e : Expr) (σ : L2.St) (H : Hp) (Q : Bool → Hp → Prop) : Prop := ∀ (whole : Sem Value) pins s, Inv X pins σ H s → wpAny (model X.prog X.w) X.A (isTrue e X.env whole) (TP X pins σ Q) X.xe s
theorem pw_sem {X : Cx} {e : Expr} : PW X e (semW X e) := ⟨fun wh pins s _ _ _ I h => h wh pins s I⟩
theorem evw_and {rest : List Expr} {x y : Bool} (ha : EvT C ρ a x) (hr : x = true → EvW C ρ (.BoolOp .And (c :: rest) pos) y) : EvW C ρ (.BoolOp .And (a :: c :: rest) pos) (x && y) := .mk fun Pn F q σ H E wh pins s I => by
  refine (pw_and pt_sem pw_sem).run wh pins s σ H _ I ((ha.run _ F q σ H E).mono fun v H' ⟨s, r⟩ => ?_)
  subst r
  cases v with
  | true =>
    rw [if_pos rfl]
    intro wh2 pins2 s2 I2
    refine thn ((hr rfl).run _ F q σ H' (E.grow s) wh2 pins2 s2 I2) fun b s3 ⟨H3, I3, sm, e3⟩ => ⟨H3, I3, s.trans sm, by simp [e3]⟩
  | false => rw [if_neg Bool.false_ne_true]; exact ⟨s, by simp⟩
theorem evw_or {rest : List Expr} {x y : Bool} (ha : EvT C ρ a x) (hr : x = false → EvW C ρ (.BoolOp .Or (c :: rest) pos) y) : EvW C ρ (.BoolOp .Or (a :: c :: rest) pos) (x || y) := .mk fun Pn F q σ H E wh pins s I => by
  refine (pw_or pt_sem pw_sem).run wh pins s σ H _ I ((ha.run _ F q σ H E).mono fun v H' ⟨s, r⟩ => ?_)
  subst r
  cases v with
  | false =>
    rw [if_neg Bool.false_ne_true]
    intro wh2 pins2 s2 I2
    refine thn ((hr rfl).run _ F q σ H' (E.grow s) wh2 pins2 s2 I2) fun b s3 ⟨H3, I3, sm, e3⟩ => ⟨H3, I3, s.trans sm, by simp [e3]⟩
  | true => rw [if_pos rfl]; exact ⟨s, by simp⟩
end
end Rk
namespace Rk
open PySem PySem.Spec PyProof.Rows L2
section
variable {C : Ct} {ρ : List SV} {b b' b1 b2 : Bool} {e a c : Expr} {es : List Expr} {D : PyData} {Ds Es : List PyData} {pos p : Pos} {i j : Int}
theorem evs_nil : Evs C ρ [] true [] := .mk fun Pn F q σ H E => semA_of pa_nil ⟨Same.refl _, .nil⟩
theorem evs_cons (h : Ev C ρ e b1 D) (hs : Evs C ρ es b2 Ds) (hst : starEach (e :: es) C.X.env = (false, eval e C.X.env) :: starEach es C.X.env := by rfl) : Evs C ρ (e :: es) (b1 && b2) (D :: Ds) := .mk fun Pn F q σ H E =>
  semA_of (pa_cons pe_sem pa_sem hst) ((h.run _ F q σ H E).mono fun v H1 ⟨s1, r1⟩ => (hs.run _ F q σ H1 (E.grow s1)).mono fun vs H2 ⟨s2, r2⟩ => ⟨s1.trans s2, .cons ((Ct.Env.shift (E.grow s1) s2).rv r1).and r2.and'⟩)
theorem ev_tup {x1} (h : Evs C ρ es b Ds) (hl : Ds.length ≤ sizeLine) : Ev C ρ (.Tuple es x1 pos) b (.tuple Ds) := .mk fun Pn F q σ H E =>
  semE_of (pe_tup pa_sem) ((h.run _ F q σ H E).mono fun vs H1 ⟨s1, r1⟩ => ⟨by rw [RpAll.length r1]; exact hl, fun t ht => by
    have s2 : Same H1 (upd H1 t (.tup vs)) := fun a o z => by rw [upd_ne (ne_of_none z ht)]; exact z
    exact ⟨s1.trans s2, .tup (.of upd_same) ((Ct.Env.shift (E.grow s1) s2).ra r1)⟩⟩)
theorem evo_lst (h : Evs C ρ es b Ds) (hl : Ds.length ≤ sizeLine) : EvO C ρ (.List es pos) b Ds := .mk fun Pn F q σ H E =>
  semE_of (pe_lst pa_sem) ((h.run _ F q σ H E).mono fun vs H1 ⟨s1, r1⟩ => ⟨by rw [RpAll.length r1]; exact hl, fun t ht => by
    have s2 : Same H1 (upd H1 t (.lst vs)) := fun a o z => by rw [upd_ne (ne_of_none z ht)]; exact z
    exact ⟨s1.trans s2, t, vs, rfl, s1.free ht, upd_same, (Ct.Env.fp (E.grow s1) s2 ht).ra r1⟩⟩)
theorem atI_map {L T : Addr → List V → Prop} {vs : List V} {k : Int} {d : PyData} (r : RpAll L T vs Ds) (h : atI Ds k = some d) : ∃ v, atI vs k = some v ∧ Rp L T v d := by
  unfold atI at h ⊢
  rw [RpAll.length r]
  cases e : ixN Ds.length k with
  | none => rw [e] at h; cases h
  | some n =>
    rw [e] at h
    exact RpAll.get (i := n) r h
theorem ev_ixT (ha : Ev C ρ a b (.tuple Ds)) (hc : Ev C ρ c b1 (.int i)) (h : atI Ds i = some D) (hs : PlainIx c := by exact fun _ _ => rfl) : Ev C ρ (.Subscript a c pos) b D := .mk fun Pn F q σ H E =>
  semE_of (pe_ix ix_tup pe_sem pe_sem hs) (ev_two ha hc E fun x y H2 s r1 r2 => by
    cases r2
    cases r1 with
    | tup t r =>
      obtain ⟨v, e, rv⟩ := atI_map r h
      exact ⟨_, _, _, v, rfl, rfl, t, e, s, rv⟩)
theorem ev_ixL (ha : Bw C ρ a b Ds) (hc : Ev C ρ c b1 (.int i)) (h : atI Ds i = some D) (hs : PlainIx c := by exact fun _ _ => rfl) : Ev C ρ (.Subscript a c pos) b D := .mk fun Pn F q σ H E =>
  semE_of (pe_ix ix_list pe_sem pe_sem hs) ((ha.run _ F q σ H E).mono fun x H1 ⟨s1, a', vs, ex, e1, r1⟩ => (hc.run _ F q σ H1 (E.grow s1)).mono fun y H2 ⟨s2, r2⟩ => by
    subst ex
    cases r2
    obtain ⟨v, e, rv⟩ := atI_map r1 h
    exact ⟨_, _, _, v, rfl, rfl, s2.seq e1, e, s1.trans s2, (Ct.Env.shift (E.grow s1) s2).rv rv⟩)
def Eo (C : Ct) (ρ : List SV) (e : Option Expr) (o : Option Int) : Prop := match e with
  | none => o = none
  | some x => ∃ b i, o = some i ∧ Ev C ρ x b (.int i)
theorem eo_none : Eo C ρ none none := rfl
theorem eo_some (h : Ev C ρ e b (.int i)) : Eo C ρ (some e) (some i) := ⟨b, i, rfl, h⟩
def semO (X : Cx) (e : Option Expr) (σ : L2.St) (H : Hp) (Q : Option Int → Hp → Prop) : Prop := match e with
  | none => Q none H
  | some x => semE X x σ H fun v H1 => ∃ i, v = .int i ∧ Q (some i) H1
theorem po_sem {X : Cx} : ∀ {e : Option Expr}, PO X e (semO X e)
  | none => po_none
  | some x => po_some pe_sem
theorem Eo.run {e : Option Expr} {o : Option Int} {F : Addr → Prop} {q : Qn} {σ : L2.St} {Pn H : Hp} {Q : Option Int → Hp → Prop} (h : Eo C ρ e o) (E : C.Env Pn H σ ρ F q) (k : ∀ H', Same H H' → Q o H') : semO C.X e σ H Q := by
  cases e with
  | none => cases h; exact k H (Same.refl _)
  | some x =>
    obtain ⟨b, i, rfl, h⟩ := h
    exact (h.run _ F q σ H E).mono fun v H1 ⟨s, r⟩ => by cases r; exact ⟨i, rfl, k H1 s⟩
def cutD (ds : List PyData) (lo hi : Option Int) : List PyData := (ds.drop (HT.sIx ds.length 0 lo)).take (HT.sIx ds.length ds.length hi - HT.sIx ds.length 0 lo)
theorem RpAll.cut {L T : Addr → List V → Prop} {vs : List V} (r : RpAll L T vs Ds) (lo hi : Option Int) : RpAll L T (cutV vs lo hi) (cutD Ds lo hi) := by
  unfold cutV cutD
  rw [RpAll.length r]
  exact RpAll.take _ (RpAll.drop _ r)
theorem evo_slL {lo hi : Option Expr} {l h : Option Int} {p2 : Pos} (ha : Bw C ρ a b Ds) (hl : Eo C ρ lo l) (hh : Eo C ρ hi h) : EvO C ρ (.Subscript a (.Slice lo hi none p2) pos) b (cutD Ds l h) := .mk fun Pn F q σ H E =>
  semE_of (pe_slice sl_list pe_sem po_sem po_sem) ((ha.run _ F q σ H E).mono fun x H1 ⟨s1, a', vs, ex, e1, r1⟩ => hl.run (E.grow s1) fun H2 s2 => hh.run (E.grow (s1.trans s2)) fun H3 s3 => by
    subst ex
    have s13 := s2.trans s3
    refine ⟨_, vs, rfl, s13.seq e1, fun t ht => ?_⟩
    have s4 : Same H3 (upd H3 t (.lst (cutV vs l h))) := fun a o z => by rw [upd_ne (ne_of_none z ht)]; exact z
    have s14 := s1.trans s13
    exact ⟨s14.trans s4, t, _, rfl, s14.free ht, upd_same, (Ct.Env.fp (E.grow s14) s4 ht).ra ((Ct.Env.shift (E.grow s1) s13).ra (r1.cut l h))⟩)
theorem ev_callB {id : String} {x : Str} {r : List V → Hp → VK → Prop} (hr : CallR C.X (.builtin id) r) (hg : Gl C.X x) (hm : C.X.mg x = none) (hv : bootBuiltins x = some (.builtin id)) (h : Evs C ρ (e :: es) b Ds)
    (k : ∀ (N : Addr → Prop) vs H Q, C.Rs b H N vs Ds → (∀ v H', Same H H' → C.R b' H' N v D → Q v H') → r vs H Q)
    (hn : x ≠ "__name__" := by decide) (hdb : (x == ("__debug__" : Str)) = false := by decide)
    (he : starEach (e :: es) C.X.env = (false, eval e C.X.env) :: starEach es C.X.env := by rfl) (hpl : (backTo pos (starEach es C.X.env)).any (·.1) = false := by rfl) : Ev C ρ (.Call (.Name x p) (e :: es) [] pos) b' D := .mk fun Pn F q σ H E =>
  semE_of (pe_callB hr hg hm hv pa_sem hn hdb he hpl) ((h.run _ F q σ H E).mono fun vs H1 ⟨s1, r1⟩ => k (Own q F) vs H1 _ r1 fun v H' s2 rr => ⟨s1.trans s2, rr⟩)
theorem ev_callTy {T : String} {x : Str} {r : List V → Hp → VK → Prop} (hr : CallR C.X (.type T) r) (hg : Gl C.X x) (hm : C.X.mg x = none) (hv : bootBuiltins x = some (.type T)) (h : Evs C ρ (e :: es) b Ds)
    (k : ∀ (N : Addr → Prop) vs H Q, C.Rs b H N vs Ds → (∀ v H', Same H H' → C.R b' H' N v D → Q v H') → r vs H Q)
    (hn : x ≠ "__name__" := by decide) (hdb : (x == ("__debug__" : Str)) = false := by decide)
    (he : starEach (e :: es) C.X.env = (false, eval e C.X.env) :: starEach es C.X.env := by rfl) (hpl : (backTo pos (starEach es C.X.env)).any (·.1) = false := by rfl) : Ev C ρ (.Call (.Name x p) (e :: es) [] pos) b' D := .mk fun Pn F q σ H E =>
  semE_of (pe_callTy hr hg hm hv pa_sem hn hdb he hpl) ((h.run _ F q σ H E).mono fun vs H1 ⟨s1, r1⟩ => k (Own q F) vs H1 _ r1 fun v H' s2 rr => ⟨s1.trans s2, rr⟩)
theorem semA1_of {X : Cx} {σ : L2.St} {H : Hp} {Q : List V → Hp → Prop} (h : semE X e σ H fun v H' => Q [v] H') (he : starEach (e :: []) X.env = (false, eval e X.env) :: starEach [] X.env := by rfl) : semA X [e] σ H Q :=
  semA_of (pa_cons pe_sem pa_nil he) (h.mono fun v H' q => q)
theorem ev_callBw {id : String} {x : Str} {r : List V → Hp → VK → Prop} (hr : CallR C.X (.builtin id) r) (hg : Gl C.X x) (hm : C.X.mg x = none) (hv : bootBuiltins x = some (.builtin id)) (h : Bw C ρ e b Ds)
    (k : ∀ (N : Addr → Prop) a vs H Q, SqL C.X.K H a vs → C.Rs b H N vs Ds → (∀ v H', Same H H' → C.R b' H' N v D → Q v H') → r [.ref a] H Q)
    (hn : x ≠ "__name__" := by decide) (hdb : (x == ("__debug__" : Str)) = false := by decide)
    (he : starEach (e :: []) C.X.env = (false, eval e C.X.env) :: starEach [] C.X.env := by rfl) (hpl : (backTo pos (starEach [] C.X.env)).any (·.1) = false := by rfl) : Ev C ρ (.Call (.Name x p) [e] [] pos) b' D := .mk fun Pn F q σ H E =>
  semE_of (pe_callB hr hg hm hv pa_sem hn hdb he hpl) (semA1_of ((h.run _ F q σ H E).mono fun v H1 ⟨s1, a, vs, ex, e1, r1⟩ => by
    subst ex
    exact k (Own q F) a vs H1 _ e1 r1 fun v H' s2 rr => ⟨s1.trans s2, rr⟩) he)
theorem ev_callTyBw {T : String} {x : Str} {r : List V → Hp → VK → Prop} (hr : CallR C.X (.type T) r) (hg : Gl C.X x) (hm : C.X.mg x = none) (hv : bootBuiltins x = some (.type T)) (h : Bw C ρ e b Ds)
    (k : ∀ (N : Addr → Prop) a vs H Q, SqL C.X.K H a vs → C.Rs b H N vs Ds → OwnOk H N → (∀ v H', Same H H' → C.R b' H' N v D → Q v H') → r [.ref a] H Q)
    (hn : x ≠ "__name__" := by decide) (hdb : (x == ("__debug__" : Str)) = false := by decide)
    (he : starEach (e :: []) C.X.env = (false, eval e C.X.env) :: starEach [] C.X.env := by rfl) (hpl : (backTo pos (starEach [] C.X.env)).any (·.1) = false := by rfl) : Ev C ρ (.Call (.Name x p) [e] [] pos) b' D := .mk fun Pn F q σ H E =>
  semE_of (pe_callTy hr hg hm hv pa_sem hn hdb he hpl) (semA1_of ((h.run _ F q σ H E).mono fun v H1 ⟨s1, a, vs, ex, e1, r1⟩ => by
    subst ex
    exact k (Own q F) a vs H1 _ e1 r1 (E.grow s1).own fun v H' s2 rr => ⟨s1.trans s2, rr⟩) he)
theorem ev_lenL (hm : C.X.mg "len" = none) (h : Bw C ρ e b Ds) (he : starEach (e :: []) C.X.env = (false, eval e C.X.env) :: starEach [] C.X.env := by rfl) (hg : Gl C.X "len" := by rfl) : Ev C ρ (.Call (.Name "len" p) [e] [] pos) true (.int (Ds.length : Int)) :=
  ev_callBw call_len_seq hg hm PySem.boot_len h (fun N a vs H Q sq r k => ⟨a, vs, rfl, .inl sq, k _ H (Same.refl _) (by rw [RpAll.length r]; exact .int _)⟩) (he := he)
theorem ev_lenT (hm : C.X.mg "len" = none) (h : Ev C ρ e b (.tuple Ds)) (he : starEach (e :: []) C.X.env = (false, eval e C.X.env) :: starEach [] C.X.env := by rfl) (hg : Gl C.X "len" := by rfl) : Ev C ρ (.Call (.Name "len" p) [e] [] pos) true (.int (Ds.length : Int)) :=
  ev_callB call_len_seq hg hm PySem.boot_len (evs_cons h evs_nil he) (fun N vs H Q r k => by
    cases r with
    | cons r1 r2 =>
      cases r2
      cases r1 with
      | tup t r => exact ⟨_, _, rfl, .inr t, k _ H (Same.refl _) (by rw [RpAll.length r]; exact .int _)⟩) (he := he)
theorem ev_abs (hm : C.X.mg "abs" = none) (h : Ev C ρ e b (.int i)) (he : starEach (e :: []) C.X.env = (false, eval e C.X.env) :: starEach [] C.X.env := by rfl) (hg : Gl C.X "abs" := by rfl) : Ev C ρ (.Call (.Name "abs" p) [e] [] pos) true (.int (i.natAbs : Int)) :=
  ev_callB call_abs hg hm (by decide +kernel) (evs_cons h evs_nil he) (fun N vs H Q r k => by
    cases r with
    | cons r1 r2 =>
      cases r2; cases r1
      have e : (if i < 0 then -i else i) = (i.natAbs : Int) := by split <;> omega
      exact ⟨i, rfl, by rw [e]; exact k _ H (Same.refl _) (.int _)⟩) (he := he)
theorem ev_min2 {e2 : Expr} (hc : C.X.calm = true) (hm : C.X.mg "min" = none) (h : Ev C ρ e b (.int i)) (h2 : Ev C ρ e2 b1 (.int j)) (he : starEach (e :: [e2]) C.X.env = (false, eval e C.X.env) :: starEach [e2] C.X.env := by rfl) (he2 : starEach (e2 :: []) C.X.env = (false, eval e2 C.X.env) :: starEach [] C.X.env := by rfl) (hpl : (backTo pos (starEach [e2] C.X.env)).any (·.1) = false := by rfl) (hg : Gl C.X "min" := by rfl) : Ev C ρ (.Call (.Name "min" p) [e, e2] [] pos) true (.int (min i j)) :=
  ev_callB (call_min2 hc) hg hm boot_min (evs_cons h (evs_cons h2 evs_nil he2) he) (fun N vs H Q r k => by
    cases r with
    | cons r1 r2 =>
      cases r2 with
      | cons r2 r3 =>
        cases r3; cases r1; cases r2
        have e : (if j < i then j else i) = min i j := by split <;> omega
        exact ⟨i, j, rfl, by rw [e]; exact k _ H (Same.refl _) (.int _)⟩) (he := he) (hpl := hpl)
def b2z (x : Bool) : Int := if x = true then 1 else 0
theorem ev_intB {x : Bool} (hm : C.X.mg "int" = none) (h : Ev C ρ e b (.bool x)) (he : starEach (e :: []) C.X.env = (false, eval e C.X.env) :: starEach [] C.X.env := by rfl) (hg : Gl C.X "int" := by rfl) : Ev C ρ (.Call (.Name "int" p) [e] [] pos) true (.int (b2z x)) :=
  ev_callTy call_int1 hg hm boot_int (evs_cons h evs_nil he) (fun N vs H Q r k => by
    cases r with
    | cons r1 r2 =>
      cases r2; cases r1
      exact .inr ⟨x, rfl, k _ H (Same.refl _) (.int _)⟩) (he := he)
theorem ev_sumL {ns : List Int} (hc : C.X.calm = true) (hm : C.X.mg "sum" = none) (h : Bw C ρ e b (ns.map .int)) (he : starEach (e :: []) C.X.env = (false, eval e C.X.env) :: starEach [] C.X.env := by rfl) (hg : Gl C.X "sum" := by rfl) : Ev C ρ (.Call (.Name "sum" p) [e] [] pos) true (.int ns.sum) :=
  ev_callBw (cr_sum hc) hg hm (by decide +kernel) h (fun N a vs H Q sq r k => by
    rw [RpAll.ints r] at sq
    exact ⟨a, ns, rfl, sq, k _ H (Same.refl _) (.int _)⟩) (he := he)
def gMax : List Int → Int
  | [] => 0
  | n :: ns => ns.foldl max n
def gMin : List Int → Int
  | [] => 0
  | n :: ns => ns.foldl min n
theorem foldl_max : ∀ (ns : List Int) (n : Int), (ns.foldl max n ∈ n :: ns) ∧ ∀ y ∈ n :: ns, y ≤ ns.foldl max n
  | [], n => by simp
  | m :: ns, n => by
    obtain ⟨h1, h2⟩ := foldl_max ns (max n m)
    simp only [List.foldl_cons]
    refine ⟨?_, fun y hy => ?_⟩
    · rcases List.mem_cons.mp h1 with h | h
      · rw [h]
        rcases Int.le_total n m with q | q
        · rw [Int.max_eq_right q]; simp
        · rw [Int.max_eq_left q]; simp
      · simp [h]
    · have q := h2 (max n m) (by simp)
      rcases List.mem_cons.mp hy with rfl | hy
      · omega
      · rcases List.mem_cons.mp hy with rfl | hy
        · omega
        · exact h2 y (by simp [hy])
theorem foldl_min : ∀ (ns : List Int) (n : Int), (ns.foldl min n ∈ n :: ns) ∧ ∀ y ∈ n :: ns, ns.foldl min n ≤ y
  | [], n => by simp
  | m :: ns, n => by
    obtain ⟨h1, h2⟩ := foldl_min ns (min n m)
    simp only [List.foldl_cons]
    refine ⟨?_, fun y hy => ?_⟩
    · rcases List.mem_cons.mp h1 with h | h
      · rw [h]
        rcases Int.le_total n m with q | q
        · rw [Int.min_eq_left q]; simp
        · rw [Int.min_eq_right q]; simp
      · simp [h]
    · have q := h2 (min n m) (by simp)
      rcases List.mem_cons.mp hy with rfl | hy
      · omega
      · rcases List.mem_cons.mp hy with rfl | hy
        · omega
        · exact h2 y (by simp [hy])
theorem gMax_eq {ns : List Int} {m : Int} (h : m ∈ ns) (h2 : ∀ y, y ∈ ns → y ≤ m) : m = gMax ns := by
  cases ns with
  | nil => simp at h
  | cons n ns =>
    obtain ⟨q1, q2⟩ := foldl_max ns n
    have := q2 m h
    have := h2 _ q1
    show m = ns.foldl max n
    omega
theorem gMin_eq {ns : List Int} {m : Int} (h : m ∈ ns) (h2 : ∀ y, y ∈ ns → m ≤ y) : m = gMin ns := by
  cases ns with
  | nil => simp at h
  | cons n ns =>
    obtain ⟨q1, q2⟩ := foldl_min ns n
    have := q2 m h
    have := h2 _ q1
    show m = ns.foldl min n
    omega
theorem gMax_mem {ns : List Int} (h : ns ≠ []) : gMax ns ∈ ns := by
  cases ns with
  | nil => exact absurd rfl h
  | cons n ns => exact (foldl_max ns n).1
theorem gMax_le {ns : List Int} {y : Int} (h : y ∈ ns) : y ≤ gMax ns := by
  cases ns with
  | nil => simp at h
  | cons n ns => exact (foldl_max ns n).2 y h
theorem ev_maxL {ns : List Int} (hc : C.X.calm = true) (hm : C.X.mg "max" = none) (h : Bw C ρ e b (ns.map .int)) (hn : ns ≠ []) (he : starEach (e :: []) C.X.env = (false, eval e C.X.env) :: starEach [] C.X.env := by rfl) (hg : Gl C.X "max" := by rfl) : Ev C ρ (.Call (.Name "max" p) [e] [] pos) true (.int (gMax ns)) :=
  ev_callBw (cr_max hc) hg hm boot_max h (fun N a vs H Q sq r k => by
    rw [RpAll.ints r] at sq
    exact ⟨a, ns, rfl, sq, List.length_pos_iff.mpr hn, fun m h1 h2 => by rw [gMax_eq h1 h2]; exact k _ H (Same.refl _) (.int _)⟩) (he := he)
theorem ev_minL {ns : List Int} (hc : C.X.calm = true) (hm : C.X.mg "min" = none) (h : Bw C ρ e b (ns.map .int)) (hn : ns ≠ []) (he : starEach (e :: []) C.X.env = (false, eval e C.X.env) :: starEach [] C.X.env := by rfl) (hg : Gl C.X "min" := by rfl) : Ev C ρ (.Call (.Name "min" p) [e] [] pos) true (.int (gMin ns)) :=
  ev_callBw (cr_min hc) hg hm boot_min h (fun N a vs H Q sq r k => by
    rw [RpAll.ints r] at sq
    exact ⟨a, ns, rfl, sq, List.length_pos_iff.mpr hn, fun m h1 h2 => by rw [gMin_eq h1 h2]; exact k _ H (Same.refl _) (.int _)⟩) (he := he)
theorem evo_listL (hm : C.X.mg "list" = none) (h : Bw C ρ e b Ds) (he : starEach (e :: []) C.X.env = (false, eval e C.X.env) :: starEach [] C.X.env := by rfl) (hpl : (backTo pos (starEach [] C.X.env)).any (·.1) = false := by rfl) (hg : Gl C.X "list" := by rfl) : EvO C ρ (.Call (.Name "list" p) [e] [] pos) b Ds := .mk fun Pn F q σ H E =>
  semE_of (pe_callTy call_list_of hg hm (by decide +kernel) pa_sem (he := he) (hpl := hpl)) (semA1_of ((h.run _ F q σ H E).mono fun v H1 ⟨s1, a, vs, ex, e1, r1⟩ => by
    subst ex
    refine ⟨a, vs, rfl, .inl e1, fun t ht => ?_⟩
    have s2 : Same H1 (upd H1 t (.lst vs)) := fun a o z => by rw [upd_ne (ne_of_none z ht)]; exact z
    exact ⟨s1.trans s2, t, vs, rfl, s1.free ht, upd_same, (Ct.Env.fp (E.grow s1) s2 ht).ra r1⟩) he)
theorem evo_listT (hm : C.X.mg "list" = none) (h : Ev C ρ e b (.tuple Ds)) (he : starEach (e :: []) C.X.env = (false, eval e C.X.env) :: starEach [] C.X.env := by rfl) (hpl : (backTo pos (starEach [] C.X.env)).any (·.1) = false := by rfl) (hg : Gl C.X "list" := by rfl) : EvO C ρ (.Call (.Name "list" p) [e] [] pos) b Ds := .mk fun Pn F q σ H E =>
  semE_of (pe_callTy call_list_of hg hm (by decide +kernel) pa_sem (he := he) (hpl := hpl)) (semA1_of ((h.run _ F q σ H E).mono fun v H1 ⟨s1, r⟩ => by
    cases r with
    | @tup a vs _ t r1 =>
      refine ⟨a, vs, rfl, .inr t, fun t ht => ?_⟩
      have s2 : Same H1 (upd H1 t (.lst vs)) := fun a o z => by rw [upd_ne (ne_of_none z ht)]; exact z
      exact ⟨s1.trans s2, t, vs, rfl, s1.free ht, upd_same, (Ct.Env.fp (E.grow s1) s2 ht).ra r1⟩) he)
theorem ev_tupL (hm : C.X.mg "tuple" = none) (h : Bw C ρ e b Ds) (he : starEach (e :: []) C.X.env = (false, eval e C.X.env) :: starEach [] C.X.env := by rfl) (hg : Gl C.X "tuple" := by rfl) : Ev C ρ (.Call (.Name "tuple" p) [e] [] pos) b (.tuple Ds) :=
  ev_callTyBw call_tuple_of hg hm (by decide +kernel) h (fun N a vs H Q sq r o k => ⟨a, vs, rfl, .inl ⟨sq, fun t ht => by
    have s2 : Same H (upd H t (.tup vs)) := fun a o z => by rw [upd_ne (ne_of_none z ht)]; exact z
    exact k _ _ s2 (.tup (.of upd_same) ((Shift.same o s2).ra r))⟩⟩) (he := he)
theorem evo_cat {b1 b2 : Bool} {Ds1 Ds2 : List PyData} (ha : Bx C ρ a b1 Ds1) (hc : Bx C ρ c b2 Ds2) (hl : Ds1.length + Ds2.length ≤ sizeLine) : EvO C ρ (.BinOp a .Add c pos) (b1 && b2) (Ds1 ++ Ds2) := .mk fun Pn F q σ H E =>
  semE_of (pe_op op_cat pe_sem pe_sem) (xx_two ha hc E fun a' vs c' us H2 s e r1 e2 r2 => ⟨_, _, vs, us, rfl, rfl, e, e2, by rw [RpAll.length r1, RpAll.length r2]; exact hl, fun t ht => by
    have s2 : Same H2 (upd H2 t (.lst (vs ++ us))) := fun a o z => by rw [upd_ne (ne_of_none z ht)]; exact z
    exact ⟨s.trans s2, t, _, rfl, s.free ht, upd_same, (Ct.Env.fp (E.grow s) s2 ht).ra (RpAll.append r1.and r2.and')⟩⟩)
theorem ev_catT {b1 b2 : Bool} {Ds1 Ds2 : List PyData} (ha : Ev C ρ a b1 (.tuple Ds1)) (hc : Ev C ρ c b2 (.tuple Ds2)) (h0 : Ds1 ≠ []) (hl : Ds1.length + Ds2.length ≤ sizeLine) : Ev C ρ (.BinOp a .Add c pos) (b1 && b2) (.tuple (Ds1 ++ Ds2)) :=
  ev_op op_catT ha hc fun N x y H Q o r1 r2 k => by
    cases r1 with
    | @tup a vs _ t1 r1 =>
      cases r2 with
      | @tup c us _ t2 r2 =>
        refine ⟨a, c, vs, us, rfl, rfl, t1, t2, ?_, by rw [RpAll.length r1, RpAll.length r2]; exact hl, fun z => ?_, fun z t ht => ?_⟩
        · intro z
          have := RpAll.length r1
          rw [z] at this
          exact h0 (List.length_eq_zero_iff.mp this.symm)
        · subst z
          cases r2
          rw [List.append_nil] at k
          exact k _ _ (Same.refl _) (.tup t1 (RA.and r1))
        · have s2 : Same H (upd H t (.tup (vs ++ us))) := fun a o z => by rw [upd_ne (ne_of_none z ht)]; exact z
          exact k _ _ s2 (.tup (.of upd_same) ((Shift.same o s2).ra (RpAll.append (RA.and r1) (RA.and' r2))))
theorem flat_rep {L T : Addr → List V → Prop} {vs : List V} (r : RpAll L T vs Ds) : ∀ n : Nat, RpAll L T (List.replicate n vs).flatten (List.replicate n Ds).flatten
  | 0 => .nil
  | n + 1 => by simp only [List.replicate_succ, List.flatten_cons]; exact RpAll.append r (flat_rep r n)
theorem evo_rep {b1 b2 : Bool} {Ds1 : List PyData} (ha : Bx C ρ a b1 Ds1) (hc : Ev C ρ c b2 (.int i)) (h1 : -(2 ^ 63) ≤ i) (h2 : i < 2 ^ 63) (hl : Ds1.length * i.toNat ≤ sizeLine) : EvO C ρ (.BinOp a .Mult c pos) b1 (List.replicate i.toNat Ds1).flatten := .mk fun Pn F q σ H E =>
  semE_of (pe_op op_rep pe_sem pe_sem) (bx_two ha hc E fun a' vs y H2 s e r1 r2 => by
    cases r2
    refine ⟨_, i, vs, rfl, rfl, e, h1, h2, by rw [RpAll.length r1]; exact hl, fun t ht => ?_⟩
    have s2 : Same H2 (upd H2 t (.lst (List.replicate i.toNat vs).flatten)) := fun a o z => by rw [upd_ne (ne_of_none z ht)]; exact z
    exact ⟨s.trans s2, t, _, rfl, s.free ht, upd_same, (Ct.Env.fp (E.grow s) s2 ht).ra (flat_rep r1 _)⟩)
end
end Rk
namespace PySem
open PyProof.Rows L2
section
variable {prog : Program} {w : World} {A : Around} {E : Value → Shared → Prop} {s : Shared} {l : Addr} {xs : Array (Int × Tok)}
theorem rk_iter_tup {Q : Value → Shared → Prop} (hl : s.heap.IsTuple l (intItems xs))
    (h : ∀ s₂ : Shared, s₂ = { s with heap := s.heap.push { cls := .type "tuple_iterator", data := .fields #[.ref l, .int 0 0] } } →
      (s₂.heap.IsTupleIter s.heap.objs.size l 0 ∧ s₂.heap.IsTuple l (intItems xs)) → (∀ b ∈ [s.heap.objs.size, l], b < s₂.heap.objs.size) → l ≠ s.heap.objs.size → Q (.ref s.heap.objs.size) s₂) :
    wpAny (model prog w) A (pyIter (.ref l)) Q E s := by
  have hlt : l < s.heap.objs.size := by obtain ⟨_, e, _⟩ := hl; exact Heap.lt_size e
  refine wpAny_pyIter_tuple hl (h _ rfl ⟨⟨_, Heap.get?_push_size _ rfl, rfl, rfl⟩, hl.push _⟩ (fun b hb => ?_) (Nat.ne_of_lt hlt))
  show b < (s.heap.push _).objs.size
  rw [Heap.size_push]
  rcases List.mem_cons.mp hb with rfl | hb
  · exact Nat.lt_succ_self _
  · rcases List.mem_cons.mp hb with rfl | hb
    · exact Nat.lt_succ_of_lt hlt
    · cases hb
theorem rk_old {h' : Heap} (hk : ∀ b o, b ∉ [s.heap.objs.size] → (s.heap.push { cls := .type "tuple_iterator", data := .fields #[.ref l, .int 0 0] }).get? b = some o → h'.get? b = some o) :
    ∀ b o, s.heap.get? b = some o → h'.get? b = some o := fun b o e => by
  refine hk b o (fun hm => ?_) (Heap.get?_push_of_some _ e)
  rcases List.mem_cons.mp hm with e1 | hm
  · exact absurd (e1 ▸ Heap.lt_size e) (Nat.lt_irrefl _)
  · cases hm
theorem rk_max_tup {Q : Value → Shared → Prop} (hh : A.handled = none) (hl : s.heap.IsTuple l (intItems xs)) (hne : 0 < xs.size)
    (h : ∀ v h' tk, (intItems xs)[argBest (fun i j => decide (numAt xs i > numAt xs j)) (xs.size - 1)]? = some v → (∀ b o, s.heap.get? b = some o → h'.get? b = some o) → Q v { s with heap := h', toks := tk }) :
    wpAny (model prog w) A (call (.builtin "max") [.ref l]) Q E s := by
  refine call_max_walk (rk_iter_tup hl fun s₂ e st hfp hlI => ?_)
  subst e
  refine ⟨_, _, _, _, _, _, _, rfl, Walks.tuple (A := A.in1) hh _ l hlI (intItems xs), st, hfp, by simpa [intItems] using hne, CmpOf.ints_gt (numAt xs) (fun _ _ => intItems_at), fun v h' tk hP hk => ?_⟩
  exact h v h' tk (by simpa [intItems] using hP) (rk_old hk)
theorem rk_sum_tup {Q : Value → Shared → Prop} (hh : A.handled = none) (hl : s.heap.IsTuple l (intItems xs))
    (h : ∀ h' tk t', (∀ b o, s.heap.get? b = some o → h'.get? b = some o) → Q (.int (preSum (numAt xs) xs.size) t') { s with heap := h', toks := tk }) :
    wpAny (model prog w) A (call (.builtin "sum") [.ref l]) Q E s := by
  refine call_sum_walkG (rk_iter_tup hl fun s₂ e st hfp hlI => ?_)
  subst e
  refine ⟨_, _, _, _, _, _, numAt xs, rfl, Walks.tuple (A := A.in1) hh _ l hlI (intItems xs), st, hfp, (fun _ _ => intItems_at), fun h' tk t' hk => ?_⟩
  have := h h' tk t' (rk_old hk)
  simpa [intItems] using this
end
end PySem
namespace Rk
open PySem PySem.Spec PyProof.Rows L2
section
variable {prog : Program} {w : World} {A : Around} {E : Value → Shared → Prop} {s : Shared} {l : Addr} {its : List Value} {ns : List Int} {Q : Value → Shared → Prop}
theorem sum_rawT (hh : A.handled = none) (hl : s.heap.IsTuple l its.toArray) (hi : IntsAre its ns)
    (h : ∀ h' tk t', (∀ b o, s.heap.get? b = some o → h'.get? b = some o) → Q (.int ns.sum t') { s with heap := h', toks := tk }) : wpAny (model prog w) A (call (.builtin "sum") [.ref l]) Q E s := by
  obtain ⟨xs, e⟩ := hi.allInts.items
  have hn : numsOf (intItems xs).toList = ns := by rw [← e]; exact hi.numsOf
  rw [nums_intItems] at hn
  rw [e] at hl
  refine PySem.rk_sum_tup hh hl fun h' tk t' hk => ?_
  have := h h' tk t' hk
  rw [preSum_eq, List.take_of_length_le (by simp), hn]; exact this
theorem max_rawT (hh : A.handled = none) (hl : s.heap.IsTuple l its.toArray) (hi : IntsAre its ns) (hne : 0 < ns.length)
    (h : ∀ h' tk M t', (∀ b o, s.heap.get? b = some o → h'.get? b = some o) → M ∈ ns → (∀ a, a ∈ ns → a ≤ M) → Q (.int M t') { s with heap := h', toks := tk }) : wpAny (model prog w) A (call (.builtin "max") [.ref l]) Q E s := by
  obtain ⟨xs, e⟩ := hi.allInts.items
  have hn : numsOf (intItems xs).toList = ns := by rw [← e]; exact hi.numsOf
  rw [nums_intItems] at hn
  subst hn
  rw [e] at hl
  have hsz : 0 < xs.size := by simpa using hne
  refine PySem.rk_max_tup hh hl hsz fun v h' tk hv hk => ?_
  obtain ⟨t, rfl⟩ := intItems_at hv
  obtain ⟨h1, h2⟩ := argBest_gt (numAt xs) (xs.size - 1)
  refine h h' tk _ t hk ?_ fun a ha => ?_
  · rw [numAt_eq]; exact PySem.getD_mem (by rw [List.length_map, Array.length_toList]; omega)
  · obtain ⟨j, hj, rfl⟩ := mem_getD ha
    rw [List.length_map, Array.length_toList] at hj
    rw [← numAt_eq]; exact h2 j (by omega)
end
section
variable {X : Cx}
theorem istup_tuple {h : Heap} {a : Addr} {its : Array Value} (t : IsTup h a its) : h.IsTuple a its := t
theorem cr_sumT (hc : X.calm = true) : CallR X (.builtin "sum") (fun vs H Q => ∃ (a : Addr) (ns : List Int), vs = [V.ref a] ∧ SqT X.K H a (ns.map V.int) ∧ Q (.int ns.sum) H) := by
  intro pins s σ H vs us Q I r h
  obtain ⟨a, ns, rfl, hs, q⟩ := h
  obtain ⟨its, rv, hl, _⟩ := I.tuple hs
  rw [Vals.ref1 r]
  exact sum_rawT (I.ok.hd hc) (istup_tuple hl) rv.ints fun h' tk t' hk => ⟨.int _, H, I.kept hk, ⟨_, rfl⟩, q⟩
theorem cr_maxT (hc : X.calm = true) : CallR X (.builtin "max") (fun vs H Q => ∃ (a : Addr) (ns : List Int), vs = [V.ref a] ∧ SqT X.K H a (ns.map V.int) ∧ 0 < ns.length ∧ ∀ m, m ∈ ns → (∀ y, y ∈ ns → y ≤ m) → Q (.int m) H) := by
  intro pins s σ H vs us Q I r h
  obtain ⟨a, ns, rfl, hs, hne, q⟩ := h
  obtain ⟨its, rv, hl, _⟩ := I.tuple hs
  rw [Vals.ref1 r]
  exact max_rawT (I.ok.hd hc) (istup_tuple hl) rv.ints hne fun h' tk m t' hk h1 h2 => ⟨.int _, H, I.kept hk, ⟨_, rfl⟩, q m h1 h2⟩
end
section
variable {C : Ct} {ρ : List SV} {b b' b1 b2 : Bool} {e a c : Expr} {es : List Expr} {D : PyData} {Ds Es : List PyData} {pos p : Pos} {i j : Int}
theorem ev_sumT {ns : List Int} (hc : C.X.calm = true) (hm : C.X.mg "sum" = none) (h : Ev C ρ e b (.tuple (ns.map .int))) (he : starEach (e :: []) C.X.env = (false, eval e C.X.env) :: starEach [] C.X.env := by rfl) (hg : Gl C.X "sum" := by rfl) : Ev C ρ (.Call (.Name "sum" p) [e] [] pos) true (.int ns.sum) :=
  ev_callB (cr_sumT hc) hg hm (by decide +kernel) (evs_cons h evs_nil he) (fun N vs H Q r k => by
    cases r with
    | cons r1 r2 =>
      cases r2
      cases r1 with
      | tup t r =>
        rw [RpAll.ints r] at t
        exact ⟨_, ns, rfl, t, k _ H (Same.refl _) (.int _)⟩) (he := he)
theorem ev_maxT {ns : List Int} (hc : C.X.calm = true) (hm : C.X.mg "max" = none) (h : Ev C ρ e b (.tuple (ns.map .int))) (hn : ns ≠ []) (he : starEach (e :: []) C.X.env = (false, eval e C.X.env) :: starEach [] C.X.env := by rfl) (hg : Gl C.X "max" := by rfl) : Ev C ρ (.Call (.Name "max" p) [e] [] pos) true (.int (gMax ns)) :=
  ev_callB (cr_maxT hc) hg hm boot_max (evs_cons h evs_nil he) (fun N vs H Q r k => by
    cases r with
    | cons r1 r2 =>
      cases r2
      cases r1 with
      | tup t r =>
        rw [RpAll.ints r] at t
        exact ⟨_, ns, rfl, t, List.length_pos_iff.mpr hn, fun m h1 h2 => by rw [gMax_eq h1 h2]; exact k _ H (Same.refl _) (.int _)⟩) (he := he)
end
end Rk
namespace Rk
open PySem PySem.Spec PyProof.Rows L2
inductive ArgOk (K : PySem.W.Frag) (H : Hp) : V → SV → Prop
  | d {v D} : RV K false H H (fun _ => False) v D → ArgOk K H v (.d false D)
  | s {a ns} : Scr K H a (ns.map V.int) → ArgOk K H (.ref a) (.s ns)
  | rb {a C fv} : RbOk K H (fun _ => False) a C fv → ArgOk K H (.ref a) (.rb a C fv)
abbrev ArgsOk (K : PySem.W.Frag) (H : Hp) : List V → List SV → Prop := Paired (ArgOk K H)
theorem RV.base {K : PySem.W.Frag} {H0 H1 H : Hp} {N N' : Addr → Prop} {v : V} {D : PyData} {b : Bool} (r : RV K b H0 H N v D) (h : ∀ a, N' a → N a) : RV K false H1 H N' v D :=
  Rp.mono (fun _ _ z => ⟨fun n => z.1 (h _ n), z.2.1, fun e => nomatch e⟩) (fun _ _ z => z) _ _ r
theorem RA.base {K : PySem.W.Frag} {H0 H1 H : Hp} {N N' : Addr → Prop} {v : List V} {D : List PyData} {b : Bool} (r : RA K b H0 H N v D) (h : ∀ a, N' a → N a) : RA K false H1 H N' v D :=
  RpAll.mono (fun _ _ z => ⟨fun n => z.1 (h _ n), z.2.1, fun e => nomatch e⟩) (fun _ _ z => z) _ _ r
theorem noOwn {H : Hp} : OwnOk H (fun _ => False) := fun _ h => h.elim
theorem ArgOk.same {K : PySem.W.Frag} {H H' : Hp} {v : V} {A : SV} (h : ArgOk K H v A) (s : Same H H') : ArgOk K H' v A := by
  cases h with
  | d r => exact .d (RV.base ((Shift.same noOwn s).rv r) fun _ z => z)
  | s r => exact .s (r.shift (Shift.same noOwn s))
  | rb r => exact .rb (r.shift (Shift.same noOwn s))
theorem ArgsOk.same {K : PySem.W.Frag} {H H' : Hp} (s : Same H H') : ∀ {vs : List V} {As : List SV}, ArgsOk K H vs As → ArgsOk K H' vs As
  | _, _, .nil => .nil
  | _, _, .cons h t => .cons (h.same s) (ArgsOk.same s t)
theorem okN {P : Program} {w : World} {K : PySem.W.Frag} {mg : Str → Option Value} {base : Heap} {x qual : Str} {st : Stmt} {f : Addr} {fd : FuncData} {N ps : List Str} {k : Nat} {sp : Sp} (F : Fun K x qual st f fd) (S : FnScope N ps (defScope st)) (len : ∀ vs H Q E, sp vs H Q E → vs.length = ps.length)
    (hbody : ∀ (cdv : Value) (A : Around) (outer : List Env) (s : Shared) (H : Hp) (vs : List V) (Q : VK) (E : XK), Room k (A.deeper (envOfC qual (defScope st) s.heap.objs.size f cdv)) → sp vs H Q E →
      ∃ t, PSs (cxOf (L2N.CX P w) P w K mg base N qual (defScope st) f cdv A outer s H E) (defBody st) t ∧ t { nx := fun _ H' => Q .non H', rt := Q } (L2.start N vs) H) : FnOk P w K mg base (L2N.CX P w) (k + 1) f fd ps sp := by
  obtain ⟨oc, od, kV, doc, pm, an, cdv, ct, osl, rfl, lk, hcd⟩ := F.ex
  exact fn_of lk hcd S len fun A outer s H vs Q E hr hsp => hbody cdv A outer s H vs Q E hr hsp
abbrev Spec := List SV → (PyData → Prop) → (Addr → Prop) → Prop
def spD (K : PySem.W.Frag) (S : Spec) : Sp := fun vs H Q E => ∃ As R Xs, S As R Xs ∧ ArgsOk K H vs As ∧
  (∀ v H' D, R D → Same H H' → RV K true H H' (fun _ => False) v D → Q v H') ∧ ∀ A H', Xs A → Same H H' → E (.ref A) none H'
structure Prom (P : Program) (w : World) (K : PySem.W.Frag) (mg : Str → Option Value) (base : Heap) (k : Nat) (x : Str) (S : Spec) : Prop where
  ex : ∃ f fd ps, mg x = some (.ref f) ∧ PySem.W.keepIn K (.ref f) = true ∧ Binds K fd ps [] ∧ FnOk P w K mg base (L2N.CX P w) k f fd ps (spD K S)
abbrev Ct.Prom (C : Ct) (k : Nat) (x : Str) (S : Spec) : Prop := Rk.Prom C.X.prog C.X.w C.X.K C.X.mg C.X.base k x S
structure Args (C : Ct) (ρ : List SV) (es : List Expr) (As : List SV) : Prop where
  run : ∀ Pn F q σ H, C.Env Pn H σ ρ F q → semA C.X es σ H fun vs H' => Same H H' ∧ ArgsOk C.X.K H' vs As
def Rz (C : Ct) (Xs : Addr → Prop) : Prop := L2N.Takes C.X (fun cls d _ H => ∃ A, cls = .ref A ∧ d = none ∧ Xs A ∧ Same C.H0 H)
structure EvR (C : Ct) (ρ : List SV) (e : Expr) (R : PyData → Prop) : Prop where
  run : ∀ Pn F q σ H, C.Env Pn H σ ρ F q → semE C.X e σ H fun v H' => Same H H' ∧ ∃ D, R D ∧ C.R true H' (Own q F) v D
section
variable {C : Ct} {ρ : List SV} {b b' b1 b2 : Bool} {e a c : Expr} {es : List Expr} {D : PyData} {Ds Es : List PyData} {As : List SV} {pos p : Pos} {i j : Int} {x : Str} {S : Spec} {k : Nat} {R : PyData → Prop} {Xs : Addr → Prop}
theorem args_nil : Args C ρ [] [] := .mk fun Pn F q σ H E => semA_of pa_nil ⟨Same.refl _, .nil⟩
theorem args_d (h : Ev C ρ e b D) (hs : Args C ρ es As) (hst : starEach (e :: es) C.X.env = (false, eval e C.X.env) :: starEach es C.X.env := by rfl) : Args C ρ (e :: es) (.d false D :: As) := .mk fun Pn F q σ H E =>
  semA_of (pa_cons pe_sem pa_sem hst) ((h.run _ F q σ H E).mono fun v H1 ⟨s1, r1⟩ => (hs.run _ F q σ H1 (E.grow s1)).mono fun vs H2 ⟨s2, r2⟩ => ⟨s1.trans s2, .cons (.d (RV.base ((Ct.Env.shift (E.grow s1) s2).rv r1) fun _ z => z.elim)) r2⟩)
theorem args_x (h : Bx C ρ e b Ds) (hs : Args C ρ es As) (hst : starEach (e :: es) C.X.env = (false, eval e C.X.env) :: starEach es C.X.env := by rfl) : Args C ρ (e :: es) (.d false (.list Ds) :: As) := .mk fun Pn F q σ H E =>
  semA_of (pa_cons pe_sem pa_sem hst) ((h.run _ F q σ H E).mono fun v H1 ⟨s1, a, us, ev, ea, r1⟩ => (hs.run _ F q σ H1 (E.grow s1)).mono fun vs H2 ⟨s2, r2⟩ => ⟨s1.trans s2, .cons (by
    subst ev
    exact .d (.lst ⟨fun z => z, s2 _ _ ea, fun z => nomatch z⟩ (RA.base ((Ct.Env.shift (E.grow s1) s2).ra r1) fun _ z => z.elim))) r2⟩)
theorem args_s {n : Nat} {ns : List Int} (he : PE C.X e (tVar n)) (h : ρ[n]? = some (.s ns)) (hs : Args C ρ es As) (hst : starEach (e :: es) C.X.env = (false, eval e C.X.env) :: starEach es C.X.env := by rfl) : Args C ρ (e :: es) (.s ns :: As) := .mk fun Pn F q σ H E => by
  obtain ⟨p, hv, r⟩ := E.at_s h
  refine semA_of (pa_cons he pa_sem hst) ⟨_, hv, (hs.run _ F q σ H E).mono fun vs H2 ⟨s2, r2⟩ => ⟨s2, .cons (.s (r.shift (Ct.Env.shift E s2))) r2⟩⟩
theorem CX.never {P : Program} {w : World} {outer : List Env} {H : Hp} {s s' : Shared} {E : XK} {u : Value} (h : L2N.CX P w outer H s E u s') (hE : ∀ c d H, ¬ E c d H) : False := by
  obtain ⟨a, B, H', cls, d, _, _, _, _, _, _, _, e⟩ := h
  exact hE _ _ _ e
theorem evr_core (P : C.Prom k x S) (hr : Room k C.X.A) (hg : Gl C.X x) (ha : Args C ρ (e :: es) As) (hS : S As R Xs) (hp : ∀ Pn F q σ H, C.Env Pn H σ ρ F q → ∀ H1, Same H H1 → Passes (L2N.CX C.X.prog C.X.w) C.X (fun cls d H' => ∃ A, cls = .ref A ∧ d = none ∧ Xs A ∧ Same H1 H'))
    (hdb : (x == ("__debug__" : Str)) = false := by decide) (he : starEach (e :: es) C.X.env = (false, eval e C.X.env) :: starEach es C.X.env := by rfl) (hpl : (backTo pos (starEach es C.X.env)).any (·.1) = false := by rfl) : EvR C ρ (.Call (.Name x p) (e :: es) [] pos) R := .mk fun Pn F q σ H E => by
  obtain ⟨f, fd, ps, hm, hk, hb, Fn⟩ := P.ex
  intro pins s I
  refine wpAny_Call_Name_kw (ld_glob I hg hm ?_ hdb)
  refine PySem.W.callWith_K (h₀ := C.X.base) I.ok.mod.kin hk (thn (ha.run _ F q σ H E pos pins s I) fun us s1 ⟨vs, H1, I1, r, s0, q1⟩ => ⟨I1.kIn, ?_⟩) he hpl
  refine run_fn (dvs := []) (E := fun cls d H' => ∃ A, cls = .ref A ∧ d = none ∧ Xs A ∧ Same H1 H') Fn hr hb .nil (hp _ F q σ H E H1 s0) I1 r ?_
  rw [List.append_nil]
  refine ⟨As, R, Xs, hS, q1, fun v H2 D hD s2 rv => ⟨s0.trans s2, D, hD, ?_⟩, fun A H2 hA s2 => ⟨A, rfl, rfl, hA, s2⟩⟩
  refine Rp.mono (fun a xs z => ⟨fun n => ?_, z.2.1, fun _ => (E.base.trans (E.same.trans s0)).free (z.2.2 rfl)⟩) (fun _ _ z => z) _ _ rv
  obtain ⟨o, e, _⟩ := (E.grow s0).own a n
  rw [z.2.2 rfl] at e; cases e
theorem evr_call (P : C.Prom k x S) (hr : Room k C.X.A) (ha : Args C ρ (e :: es) As) (hS : S As R (fun _ => False))
    (hdb : (x == ("__debug__" : Str)) = false := by decide) (he : starEach (e :: es) C.X.env = (false, eval e C.X.env) :: starEach es C.X.env := by rfl) (hpl : (backTo pos (starEach es C.X.env)).any (·.1) = false := by rfl) (hg : Gl C.X x := by rfl) : EvR C ρ (.Call (.Name x p) (e :: es) [] pos) R :=
  evr_core P hr hg ha hS (fun _ _ _ _ _ _ _ _ _ _ _ _ _ _ _ h => (CX.never h fun _ _ _ ⟨_, _, _, z, _⟩ => z).elim) hdb he hpl
theorem EvR.imp {R' : PyData → Prop} (h : EvR C ρ e R) (k : ∀ D, R D → R' D) : EvR C ρ e R' := .mk fun Pn F q σ H E => (h.run _ F q σ H E).mono fun v H' ⟨s, D, d, r⟩ => ⟨s, D, k D d, r⟩
theorem EvR.ev (h : EvR C ρ e R) (k : ∀ D', R D' → D' = D) : Ev C ρ e b D := .mk fun Pn F q σ H E => (h.run _ F q σ H E).mono fun v H' ⟨s, D', d, r⟩ => ⟨s, by rw [← k D' d]; exact RV.weak r⟩
theorem Ev.r (h : Ev C ρ e true D) : EvR C ρ e (· = D) := .mk fun Pn F q σ H E => (h.run _ F q σ H E).mono fun v H' ⟨s, r⟩ => ⟨s, D, rfl, r⟩
theorem ev_call (P : C.Prom k x S) (hr : Room k C.X.A) (ha : Args C ρ (e :: es) As) (hS : S As (· = D) (fun _ => False))
    (hdb : (x == ("__debug__" : Str)) = false := by decide) (he : starEach (e :: es) C.X.env = (false, eval e C.X.env) :: starEach es C.X.env := by rfl) (hpl : (backTo pos (starEach es C.X.env)).any (·.1) = false := by rfl) (hg : Gl C.X x := by rfl) : Ev C ρ (.Call (.Name x p) (e :: es) [] pos) true D :=
  (evr_call P hr ha hS hdb he hpl hg).ev fun _ h => h
end
def semG (X : Cx) (tg : Expr) (v : V) (σ : L2.St) (H : Hp) (Q : L2.St → Hp → Prop) : Prop := ∀ pins s u, Inv X pins σ H s → RelV v u →
    wpAny (model X.prog X.w) X.A (assign tg X.env u) (fun _ s' => ∃ σ' H', Inv X pins σ' H' s' ∧ Q σ' H') X.xe s
theorem pg_sem {X : Cx} {tg : Expr} : PG X tg (fun v σ H Q => semG X tg v σ H Q) := ⟨fun pins s _ _ _ u _ I r h => h pins s u I r⟩
theorem semG_of {X : Cx} {tg : Expr} {t : TG} {v : V} {σ : L2.St} {H : Hp} {Q : L2.St → Hp → Prop} (h : PG X tg t) (q : t v σ H Q) : semG X tg v σ H Q := fun pins s u I r => h.run pins s σ H v u Q I r q
def QSub (q q' : Qn) (is : List Nat) : Prop := (∀ i a, a ∈ q' i → a ∈ q i) ∧ ∀ i a, a ∈ q i → a ∈ q' i ∨ i ∈ is
theorem QSub.own {q q' : Qn} {is : List Nat} {F : Addr → Prop} (h : QSub q q' is) : ∀ a, Own q' F a → Own q F a := fun a n => n.imp id fun ⟨j, z⟩ => ⟨j, h.1 j a z⟩
theorem qsub_clr {q : Qn} {i : Nat} : QSub q (clr q i []) [i] := ⟨fun j a n => by
  by_cases e : j = i
  · subst e; rw [clr_same] at n; cases n
  · rw [clr_ne e] at n; exact n, fun j a n => by
  by_cases e : j = i
  · exact .inr (by simp [e])
  · exact .inl (by rw [clr_ne e]; exact n)⟩
theorem QSub.trans {q q1 q2 : Qn} {is js : List Nat} (h1 : QSub q q1 is) (h2 : QSub q1 q2 js) : QSub q q2 (is ++ js) := ⟨fun i a n => h1.1 i a (h2.1 i a n), fun i a n => by
  rcases h1.2 i a n with z | z
  · rcases h2.2 i a z with z | z
    · exact .inl z
    · exact .inr (by simp [z])
  · exact .inr (by simp [z])⟩
structure Tgt (C : Ct) (ρ : List SV) (tg : Expr) (is : List Nat) (b : Bool) (D : PyData) (ρ' : List SV) : Prop where
  run : ∀ Pn F q σ H v, C.Env Pn H σ ρ F q → C.R b H (Own q F) v D → semG C.X tg v σ H fun σ' H' => H' = H ∧ (∃ q', C.Env Pn H σ' ρ' F q' ∧ QSub q q' is) ∧ ∀ vs : List Nat, (∀ i ∈ is, i ∈ vs) → wipe σ' vs = wipe σ vs
theorem wipe_set {σ : L2.St} {i : Nat} {x : Option V} : ∀ {vs : List Nat}, i ∈ vs → wipe (σ.set i x) vs = wipe σ vs
  | [], h => by simp at h
  | v :: vs, h => by
    unfold wipe
    by_cases hv : i ∈ vs
    · rw [wipe_set hv]
    · have e : i = v := by
        rcases List.mem_cons.mp h with h | h
        · exact h
        · exact absurd h hv
      subst e
      have : ∀ (ws : List Nat) (τ : L2.St), i ∉ ws → wipe (τ.set i x) ws = (wipe τ ws).set i x := by
        intro ws
        induction ws with
        | nil => intro τ _; rfl
        | cons w ws ih =>
          intro τ hn
          simp only [List.mem_cons, not_or] at hn
          unfold wipe
          rw [ih τ hn.2, List.set_comm _ _ hn.1]
      rw [this vs σ hv, List.set_set]
section
variable {C : Ct} {ρ ρ1 ρ2 : List SV} {b : Bool} {D : PyData} {Ds : List PyData} {pos : Pos}
theorem tgt_name {n : Nat} {x : Str} (hN : C.X.N.Nodup) (hi : C.X.N[n]? = some x) (hx : Loc C.X.env.scope x) (hl : n < ρ.length) (hf : C.X.fn x = true ∨ C.X.env.scope.names.lookup x = some .local) : Tgt C ρ (.Name x pos) [n] b D (ρ.set n (.d b D)) := .mk fun Pn F q σ H v E r =>
  semG_of (pg_name hN hi hx hf) ⟨rfl, ⟨_, E.put_d hl r, qsub_clr⟩, fun vs h => wipe_set (h n (by simp))⟩
inductive Tgts (C : Ct) (b : Bool) : List SV → List Expr → List Nat → List PyData → List SV → Prop
  | nil {r0 : List SV} : Tgts C b r0 [] [] [] r0
  | cons {r0 r1 r2 : List SV} {t : Expr} {ts : List Expr} {is js : List Nat} {A : PyData} {As : List PyData} : Tgt C r0 t is b A r1 → Tgts C b r1 ts js As r2 → (assignEach (t :: ts) C.X.env).map (·.2) = assign t C.X.env :: (assignEach ts C.X.env).map (·.2) → Tgts C b r0 (t :: ts) (is ++ js) (A :: As) r2
def semGs (X : Cx) (ts : List Expr) (vs : List V) (σ : L2.St) (H : Hp) (Q : L2.St → Hp → Prop) : Prop := ∀ pins s us, Inv X pins σ H s → Vals vs us →
    wpAny (model X.prog X.w) X.A (assignInOrder ((assignEach ts X.env).map (·.2)) us) (fun _ s' => ∃ σ' H', Inv X pins σ' H' s' ∧ Q σ' H') X.xe s
theorem pgs_sem {X : Cx} {ts : List Expr} : PGs X ts (fun vs σ H Q => semGs X ts vs σ H Q) := ⟨fun pins s _ _ _ us _ I r h => h pins s us I r⟩
theorem semGs_of {X : Cx} {ts : List Expr} {t : TGs} {vs : List V} {σ : L2.St} {H : Hp} {Q : L2.St → Hp → Prop} (h : PGs X ts t) (q : t vs σ H Q) : semGs X ts vs σ H Q := fun pins s us I r => h.run pins s σ H vs us Q I r q
theorem semG.mono {X : Cx} {tg : Expr} {v : V} {σ : L2.St} {H : Hp} {Q Q' : L2.St → Hp → Prop} (h : semG X tg v σ H Q) (k : ∀ σ' H', Q σ' H' → Q' σ' H') : semG X tg v σ H Q' := fun pins s u I r => thn (h pins s u I r) fun _ s' ⟨σ', H', I', q⟩ => ⟨σ', H', I', k _ _ q⟩
theorem semGs.mono {X : Cx} {tg : List Expr} {v : List V} {σ : L2.St} {H : Hp} {Q Q' : L2.St → Hp → Prop} (h : semGs X tg v σ H Q) (k : ∀ σ' H', Q σ' H' → Q' σ' H') : semGs X tg v σ H Q' := fun pins s u I r => thn (h pins s u I r) fun _ s' ⟨σ', H', I', q⟩ => ⟨σ', H', I', k _ _ q⟩
theorem Tgts.run {ts : List Expr} {is : List Nat} (h : Tgts C b ρ ts is Ds ρ1) : ∀ Pn F q σ H vs, C.Env Pn H σ ρ F q → C.Rs b H (Own q F) vs Ds → semGs C.X ts vs σ H fun σ' H' => H' = H ∧ (∃ q', C.Env Pn H σ' ρ1 F q' ∧ QSub q q' is) ∧ ∀ ws : List Nat, (∀ i ∈ is, i ∈ ws) → wipe σ' ws = wipe σ ws := by
  induction h with
  | nil =>
    intro Pn F q σ H vs E r
    cases r
    exact semGs_of pgs_nil ⟨rfl, rfl, ⟨q, E, ⟨fun _ _ z => z, fun _ _ z => .inl z⟩⟩, fun _ _ => rfl⟩
  | @cons r0 r1 r2 t ts is js D Ds h1 h2 hs ih =>
    intro Pn F q σ H vs E r
    cases r with
    | cons ra rb =>
      refine semGs_of (pgs_cons pg_sem pgs_sem hs) ⟨_, _, rfl, (h1.run Pn F q σ H _ E ra).mono fun σ1 H1 ⟨eH, ⟨q1, E1, o1⟩, w1⟩ => ?_⟩
      subst eH
      have t1 : Shift H1 (Own q F) H1 (Own q1 F) := ⟨fun _ _ _ e => e, fun a n => .inl (o1.own a n), E.own⟩
      exact (ih Pn F q1 σ1 H1 _ E1 (t1.ra rb)).mono fun σ2 H2 ⟨eH, ⟨q2, E2, o2⟩, w2⟩ => ⟨eH, ⟨q2, E2, o1.trans o2⟩, fun ws hw => (w2 ws fun i hi => hw i (by simp [hi])).trans (w1 ws fun i hi => hw i (by simp [hi]))⟩
theorem tgt_tup {es : List Expr} {kk : Nat} {is : List Nat} (hc : C.X.calm = true) (h : Tgts C b ρ es is Ds ρ1) (hn : (assignEach es C.X.env).length = Ds.length := by rfl) (hst : (assignEach es C.X.env).findIdx? (·.1) = none := by rfl) : Tgt C ρ (.Tuple es kk pos) is b (.tuple Ds) ρ1 := .mk fun Pn F q σ H v E r => by
  cases r with
  | tup t r => exact semG_of (pg_tup hc pgs_sem hn hst) ⟨_, _, rfl, t, RpAll.length r, h.run Pn F q σ H _ E r⟩
end
end Rk
namespace Rk
open PySem PySem.Spec PyProof.Rows L2
abbrev MrT := Addr × Addr × List (Addr × HO) × (PyData → List (Str × FV) → Prop)
inductive MR where
  | mk (m : MrT)
  /-- what is handed back is told as it is -/
  | raw (q : VK)
instance : Coe MrT MR := ⟨MR.mk⟩
structure Tn where
  nx : List SV → Prop
  rt : PyData → Prop
  bk : List SV → Prop := fun _ => False
  ct : List SV → Prop := fun _ => False
  /-- of a method: the object, its class, what stays by it; what is handed back with which attributes -/
  mr : Option MR := none
  /-- what is handed back is new -/
  nw : Bool := true
def N0 : Addr → Prop := fun _ => False
def retOf (C : Ct) (T : Tn) : VK := match T.mr with
    | none => fun v H => ∃ D, T.rt D ∧ Same C.H0 H ∧ RV C.X.K T.nw C.H0 H N0 v D
    | some (.raw q) => q
    | some (.mk m) => fun v H => ∃ D fv l, m.2.2.2 D fv ∧ Same C.H0 H ∧ SlotOk C.X.K C.H0 H (· ∈ l) (some (some (.ref m.1))) (.ob m.1 m.2.1 fv m.2.2.1) l ∧ (∀ a ∈ l, C.H0 a = none) ∧ OwnOk H (· ∈ l) ∧ RV C.X.K true C.H0 H (· ∈ l) v D
def ends (C : Ct) (Pn : Hp) (T : Tn) : Ends where
  nx := fun σ H => ∃ ρ q, T.nx ρ ∧ C.Env Pn H σ ρ N0 q
  rt := retOf C T
  bk := fun σ H => ∃ ρ q, T.bk ρ ∧ C.Env Pn H σ ρ N0 q
  ct := fun σ H => ∃ ρ q, T.ct ρ ∧ C.Env Pn H σ ρ N0 q
theorem ends_rtN {C : Ct} {T : Tn} (h : T.mr = none) {v : V} {H : Hp} (k : ∃ D, T.rt D ∧ Same C.H0 H ∧ RV C.X.K T.nw C.H0 H N0 v D) : retOf C T v H := by
  unfold retOf
  rw [h]
  exact k
theorem ends_rt {C : Ct} {T : Tn} (h : T.mr = none) {v : V} {H : Hp} (k : ∃ D, T.rt D ∧ Same C.H0 H ∧ RV C.X.K true C.H0 H N0 v D) : retOf C T v H := by
  obtain ⟨D, d, s, r⟩ := k
  exact ends_rtN h ⟨D, d, s, RV.weak r⟩
theorem RV.nw {K : PySem.W.Frag} {H0 H : Hp} {N : Addr → Prop} {v : V} {D : PyData} {b w : Bool} (r : RV K b H0 H N v D) (h : w = true → b = true) : RV K w H0 H N v D := by
  cases w with
  | true => rw [h rfl] at r; exact r
  | false => exact r.shared
structure Blk (C : Ct) (ρ : List SV) (sts : List Stmt) (T : Tn) : Prop where
  run : ∀ Pn q σ H, C.Env Pn H σ ρ N0 q → semS C.X sts (ends C Pn T) σ H
structure Cz (C : Ct) (k : Nat) : Prop where
  calm : C.X.calm = true
  own : PassesOwn (model C.X.prog C.X.w) C.X.A C.X.env C.X.xe
  nd : C.X.N.Nodup
  hr : Room k C.X.A
section
variable {C : Ct} {ρ : List SV} {b b' b1 b2 : Bool} {e a c : Expr} {st : Stmt} {sts rest : List Stmt} {D : PyData} {Ds Es : List PyData} {pos p : Pos} {i j : Int} {x : Str} {T : Tn} {k : Nat} {R : PyData → Prop}
theorem Cz.u64 (Z : Cz C k) : C.X.A.units + 64 < cLine := Z.hr.units
theorem blk_nil (h : T.nx ρ) : Blk C ρ [] T := .mk fun Pn q σ H E => semS_of pss_nil ⟨ρ, q, h, E⟩
theorem blk_cons {t : TS} (hs : PS C.X st t) (h : ∀ Pn q σ H, C.Env Pn H σ ρ N0 q → t { ends C Pn T with nx := semS C.X rest (ends C Pn T) } σ H) : Blk C ρ (st :: rest) T := .mk fun Pn q σ H E =>
  semS_of (pss_cons hs pss_sem) (h Pn q σ H E)
theorem blk_set {n : Nat} {p' : Pos} (Z : Cz C k) (hi : C.X.N[n]? = some x) (hx : Loc C.X.env.scope x) (hf : C.X.fn x = true ∨ C.X.env.scope.names.lookup x = some .local) (hl : n < ρ.length) (he : Ev C ρ e b D) (h : Blk C (ρ.set n (.d b D)) rest T)
    (hs : swapsWith e (some (.Name x p')) pos.line C.X.env = pure false := by rfl) : Blk C ρ (.Assign [.Name x p'] e pos :: rest) T :=
  blk_cons (ps_set Z.nd hi hx pe_sem hs hf) fun Pn q σ H E => (he.run _ _ q σ H E).mono fun v H' ⟨s, r⟩ => h.run Pn _ _ H' ((E.grow s).put_d hl r)
theorem blk_setO {n : Nat} {p' : Pos} (Z : Cz C k) (hi : C.X.N[n]? = some x) (hx : Loc C.X.env.scope x) (hf : C.X.fn x = true ∨ C.X.env.scope.names.lookup x = some .local) (hl : n < ρ.length) (he : EvO C ρ e b Ds) (h : Blk C (ρ.set n (.o b Ds)) rest T)
    (hs : swapsWith e (some (.Name x p')) pos.line C.X.env = pure false := by rfl) : Blk C ρ (.Assign [.Name x p'] e pos :: rest) T :=
  blk_cons (ps_set Z.nd hi hx pe_sem hs hf) fun Pn q σ H E => (he.run _ _ q σ H E).mono fun v H' ⟨s, p, vs, ev, hp, hp', r⟩ => by
    subst ev
    exact h.run Pn _ _ H' ((E.addF s hp hp').put_o hl (fun z => z) hp' r)
theorem blk_setR {n : Nat} {p' : Pos} (Z : Cz C k) (hi : C.X.N[n]? = some x) (hx : Loc C.X.env.scope x) (hf : C.X.fn x = true ∨ C.X.env.scope.names.lookup x = some .local) (hl : n < ρ.length) (he : EvR C ρ e R) (h : ∀ D, R D → Blk C (ρ.set n (.d true D)) rest T)
    (hs : swapsWith e (some (.Name x p')) pos.line C.X.env = pure false := by rfl) : Blk C ρ (.Assign [.Name x p'] e pos :: rest) T :=
  blk_cons (ps_set Z.nd hi hx pe_sem hs hf) fun Pn q σ H E => (he.run _ _ q σ H E).mono fun v H' ⟨s, D, d, r⟩ => (h D d).run Pn _ _ H' ((E.grow s).put_d hl r)
theorem blk_expr (he : Ev C ρ e b D) (h : Blk C ρ rest T) (hs : swapsWith e none pos.line C.X.env = pure false := by rfl) : Blk C ρ (.Expr e pos :: rest) T :=
  blk_cons (ps_expr pe_sem hs) fun Pn q σ H E => (he.run _ _ q σ H E).mono fun v H' ⟨s, r⟩ => h.run Pn _ _ H' (E.grow s)
theorem blk_ret (he : Ev C ρ e b D) (h : T.rt D) (hb : T.nw = true → b = true := by first | exact fun _ => rfl | exact fun h => Bool.noConfusion h) (hm : T.mr = none := by rfl) : Blk C ρ (.Return (some e) pos :: rest) T :=
  blk_cons (ps_ret pe_sem) fun Pn q σ H E => (he.run _ _ q σ H E).mono fun v H' ⟨s, r⟩ => ends_rtN hm ⟨D, h, E.base.trans (E.same.trans s), RV.nw (Rp.mono (fun _ _ z => ⟨fun n => z.1 (.inl n), z.2⟩) (fun _ _ z => z) _ _ r : RV C.X.K b C.H0 H' N0 v D) hb⟩
theorem blk_retR (he : EvR C ρ e R) (h : ∀ D, R D → T.rt D) (hm : T.mr = none := by rfl) : Blk C ρ (.Return (some e) pos :: rest) T :=
  blk_cons (ps_ret pe_sem) fun Pn q σ H E => (he.run _ _ q σ H E).mono fun v H' ⟨s, D, d, r⟩ => ends_rt hm ⟨D, h D d, E.base.trans (E.same.trans s), Rp.mono (fun _ _ z => ⟨fun n => n, z.2⟩) (fun _ _ z => z) _ _ r⟩
theorem blk_retO {n : Nat} {p' : Pos} (he : PE C.X (.Name x p') (tVar n)) (hn : ρ[n]? = some (.o true Ds)) (h : T.rt (.list Ds)) (hm : T.mr = none := by rfl) : Blk C ρ (.Return (some (.Name x p')) pos :: rest) T :=
  blk_cons (ps_ret he) fun Pn q σ H E => by
    obtain ⟨v, hv, r⟩ := (E.freeze hn).at_d (i := n) (by rw [List.getElem?_set_self (List.getElem?_eq_some_iff.mp hn).1])
    exact ⟨v, hv, ends_rt hm ⟨_, h, E.base.trans E.same, Rp.mono (fun _ _ z => ⟨fun n => n, z.2⟩) (fun _ _ z => z) _ _ r⟩⟩
theorem blk_freeze (n : Nat) (hn : ρ[n]? = some (.o b Ds)) (h : Blk C (ρ.set n (.d b (.list Ds))) sts T) : Blk C ρ sts T := .mk fun Pn q σ H E => h.run Pn _ σ H (E.freeze hn)
theorem blk_forget (n : Nat) (h : Blk C (ρ.set n .u) sts T) : Blk C ρ sts T := .mk fun Pn q σ H E => h.run Pn _ σ H E.forget
theorem blk_if {y : Bool} {A B : List Stmt} (hc : EvT C ρ c y) (h1 : y = true → Blk C ρ A { T with nx := fun r => Blk C r rest T }) (h2 : y = false → Blk C ρ B { T with nx := fun r => Blk C r rest T }) : Blk C ρ (.If c A B pos :: rest) T :=
  blk_cons (ps_if pt_sem pss_sem pss_sem) fun Pn q σ H E => (hc.run _ _ q σ H E).mono fun v H' ⟨s, ev⟩ => by
    subst ev
    have fin : ∀ {sts : List Stmt}, Blk C ρ sts { T with nx := fun r => Blk C r rest T } → semS C.X sts { ends C Pn T with nx := semS C.X rest (ends C Pn T) } σ H' := fun h =>
      (h.run Pn q σ H' (E.grow s)).mono (fun σ1 H1 ⟨r, q1, k, E1⟩ => k.run Pn q1 σ1 H1 E1) (fun _ _ z => z) (fun _ _ z => z) (fun _ _ z => z)
    cases v with
    | true => rw [if_pos rfl]; exact fin (h1 rfl)
    | false => rw [if_neg Bool.false_ne_true]; exact fin (h2 rfl)
theorem blk_ifR {y : Bool} {A : List Stmt} (hc : EvT C ρ c y) (h1 : y = true → Blk C ρ A { T with nx := fun _ => False }) (h2 : y = false → Blk C ρ rest T) : Blk C ρ (.If c A [] pos :: rest) T :=
  blk_if hc (fun e => .mk fun Pn q σ H E => ((h1 e).run Pn q σ H E).mono (fun _ _ ⟨_, _, z, _⟩ => z.elim) (fun _ _ z => z) (fun _ _ z => z) (fun _ _ z => z)) fun e => blk_nil (h2 e)
theorem blk_unpack {tg : Expr} {is : List Nat} {ρ' : List SV} (he : Ev C ρ e b D) (ht : Tgt C ρ tg is b D ρ') (h : Blk C ρ' rest T) (hs : swapsWithSole [tg] e pos.line C.X.env = pure false := by rfl) (hw : swappedStores [tg] e C.X.env = pure none := by rfl)
    (h1 : (assignEach [tg] C.X.env).map (·.2) = [assign tg C.X.env] := by rfl) : Blk C ρ (.Assign [tg] e pos :: rest) T :=
  blk_cons (ps_asg pe_sem pg_sem hs hw h1) fun Pn q σ H E => (he.run _ _ q σ H E).mono fun v H' ⟨s, r⟩ => (ht.run Pn _ q σ H' v (E.grow s) r).mono fun σ1 H1 ⟨eH, ⟨q1, E1, _⟩, _⟩ => by
    subst eH; exact h.run Pn q1 σ1 H1 E1
theorem blk_par {n m : Nat} {x y : Str} {e2 : Expr} {D2 : PyData} {px py pt : Pos} {kt k2 pt2} (Z : Cz C k) (hi : C.X.N[n]? = some x) (hj : C.X.N[m]? = some y) (hij : n ≠ m) (hn : n < ρ.length) (hm : m < ρ.length)
    (hx : C.X.env.scope.names.lookup x = some .local) (hy : C.X.env.scope.names.lookup y = some .local) (he : Ev C ρ e b1 D) (he2 : Ev C ρ e2 b2 D2) (h : Blk C ((ρ.set n (.d b1 D)).set m (.d b2 D2)) rest T)
    (hp : PS C.X (.Assign [.Tuple [.Name x px, .Name y py] kt pt] (.Tuple [e, e2] k2 pt2) pos) (tPar n m (tCons (semE C.X e) (tCons (semE C.X e2) tNil)))) : Blk C ρ (.Assign [.Tuple [.Name x px, .Name y py] kt pt] (.Tuple [e, e2] k2 pt2) pos :: rest) T :=
  blk_cons hp fun Pn q σ H E => by
    show semE C.X e σ H fun v H1 => semE C.X e2 σ H1 fun w' H2 => _
    refine ev_two he he2 E fun v w' H2 s r1 r2 => ⟨v, w', rfl, ?_⟩
    have E1 := (E.grow s).put_d hn r1
    have t : Shift H2 (Own q N0) H2 (Own (clr q n []) N0) := ⟨fun _ _ _ z => z, fun a z => .inl (qsub_clr.own a z), (E.grow s).own⟩
    exact h.run Pn _ _ H2 (E1.put_d (by simpa using hm) (t.rv r2))
def Src (C : Ct) (ρ : List SV) (tg iter : Expr) (fr b : Bool) (Ds : List PyData) : Prop :=
  ∃ wi, PI C.X tg iter wi ∧ ∀ Pn F q σ H, C.Env Pn H σ ρ F q → ∀ R : It → Hp → Prop,
    (∀ J G Y H', Same H H' → Walk J Ds.length G Y → (∀ H2, (∀ a o, (fr = true → ¬ Own q F a) → H' a = some o → H2 a = some o) → G H2) →
      (∀ i H1 v H2, i < Ds.length → Y i H1 v H2 → Same H1 H2 ∧ ∃ D, Ds[i]? = some D ∧ ∀ N1, Shift H' (Own q F) H2 N1 → C.R b H2 N1 v D) → R J H') → wi σ H R
theorem src_list {tg : Expr} {fr : Bool} (h : Ev C ρ e b (.list Ds)) : Src C ρ tg e fr b Ds := ⟨_, pi_list pe_sem, fun Pn F q σ H E R k => (h.run _ F q σ H E).mono fun v H' ⟨s, r⟩ => by
  cases r with
  | @lst a vs _ l r =>
    refine ⟨a, rfl, ⟨vs, .of l.2.1⟩, k _ (fun H2 => SqL C.X.K H2 a vs) (YAt vs) H' s (by rw [← RpAll.length r]; exact walk_list) (fun H2 z => .of (z a _ (fun _ => l.1) l.2.1)) fun n H1 v H2 hn y => ?_⟩
    obtain ⟨e1, e2⟩ := y
    subst e1
    obtain ⟨D, hD, rD⟩ := RpAll.get' r e2
    exact ⟨Same.refl _, D, hD, fun N1 t => t.rv rD⟩⟩
theorem src_bw {tg : Expr} (h : Bw C ρ e b Ds) : Src C ρ tg e false b Ds := ⟨_, pi_list pe_sem, fun Pn F q σ H E R k => (h.run _ F q σ H E).mono fun v H' ⟨s, a, vs, ev, l, r⟩ => by
  subst ev
  refine ⟨a, rfl, ⟨vs, l⟩, k _ (fun H2 => SqL C.X.K H2 a vs) (YAt vs) H' s (by rw [← RpAll.length r]; exact walk_list) (fun H2 z => Same.seq (fun b o e => z b o (fun w => nomatch w) e) l) fun n H1 v H2 hn y => ?_⟩
  obtain ⟨e1, e2⟩ := y
  subst e1
  obtain ⟨D, hD, rD⟩ := RpAll.get' r e2
  exact ⟨Same.refl _, D, hD, fun N1 t => t.rv rD⟩⟩
theorem src_tup {tg : Expr} {fr : Bool} (h : Ev C ρ e b (.tuple Ds)) : Src C ρ tg e fr b Ds := ⟨_, pi_tup pe_sem, fun Pn F q σ H E R k => (h.run _ F q σ H E).mono fun v H' ⟨s, r⟩ => by
  cases r with
  | @tup a vs _ l r =>
    refine ⟨a, rfl, ⟨vs, l⟩, k _ (fun H2 => SqT C.X.K H2 a vs) (YAt vs) H' s (by rw [← RpAll.length r]; exact walk_tup) (fun H2 z => ?_) fun n H1 v H2 hn y => ?_⟩
    · exact Shift.tup (N1 := fun _ => False) ⟨fun a o n e => z a o (fun _ => n) e, fun a n => n.elim, (E.grow s).own⟩ l
    · obtain ⟨e1, e2⟩ := y
      subst e1
      obtain ⟨D, hD, rD⟩ := RpAll.get' r e2
      exact ⟨Same.refl _, D, hD, fun N1 t => t.rv rD⟩⟩
def rangeD (lo : Int) (n : Nat) : List PyData := (List.range n).map fun i => .int (lo + (i : Nat))
theorem src_range1 {tg : Expr} {fr : Bool} (hm : C.X.mg "range" = none) (h : Ev C ρ e b1 (.int j)) (h1 : -(2 ^ 62) ≤ j) (h2 : j < 2 ^ 62) (hs : starEach [e] C.X.env = [(false, eval e C.X.env)] := by rfl) (hg : Gl C.X "range" := by rfl) : Src C ρ tg (.Call (.Name "range" p) [e] [] pos) fr b (rangeD 0 j.toNat) := ⟨_, pi_range1 hg hm pa_sem hs, fun Pn F q σ H E R k =>
  semA1_of ((h.run _ F q σ H E).mono fun v H' ⟨s, r⟩ => by
    cases r
    refine ⟨j, rfl, h1, h2, k _ (fun _ => True) _ H' s (by unfold rangeD; rw [List.length_map, List.length_range]; exact walk_range) (fun _ _ => trivial) fun n H1 v H2 hn y => ?_⟩
    obtain ⟨e1, e2⟩ := y
    subst e1 e2
    unfold rangeD at hn ⊢
    rw [List.length_map, List.length_range] at hn
    exact ⟨Same.refl _, _, by rw [List.getElem?_map, List.getElem?_range hn]; rfl, fun _ _ => .int _⟩) hs⟩
end
end Rk
namespace Rk
open PySem PySem.Spec PyProof.Rows L2
section
variable {C : Ct} {ρ : List SV} {b b' b1 b2 : Bool} {e e2 a c : Expr} {st : Stmt} {sts rest : List Stmt} {D : PyData} {Ds Es : List PyData} {pos p : Pos} {i j : Int} {x : Str} {T : Tn} {k : Nat} {R : PyData → Prop}
theorem same_upd {H : Hp} {t : Addr} {o : HO} (ht : H t = none) : Same H (upd H t o) := fun a u z => by rw [upd_ne (ne_of_none z ht)]; exact z
def zipD : List PyData → List PyData → List PyData := List.zipWith fun x y => .tuple [x, y]
theorem zipD_len : (zipD Ds Es).length = min Ds.length Es.length := List.length_zipWith
theorem zipD_get {n : Nat} {d f : PyData} (h1 : Ds[n]? = some d) (h2 : Es[n]? = some f) : (zipD Ds Es)[n]? = some (.tuple [d, f]) := by
  unfold zipD
  rw [List.getElem?_zipWith, h1, h2]
theorem src_zipL {fr : Bool} {elts : List Expr} {kk : Nat} {tpos : Pos} (hm : C.X.mg "zip" = none) (h : Ev C ρ e b1 (.list Ds)) (h' : Ev C ρ e2 b2 (.list Es))
    (hs : starEach [e, e2] C.X.env = (false, eval e C.X.env) :: starEach [e2] C.X.env := by rfl) (hs2 : starEach [e2] C.X.env = (false, eval e2 C.X.env) :: starEach [] C.X.env := by rfl) (hpl : (backTo pos (starEach [e2] C.X.env)).any (·.1) = false := by rfl) (hg : Gl C.X "zip" := by rfl) :
    Src C ρ (.Tuple elts kk tpos) (.Call (.Name "zip" p) [e, e2] [] pos) fr (b1 && b2) (zipD Ds Es) := ⟨_, pi_zip hg hm pa_sem hs hpl, fun Pn F q σ H E R k =>
  semA_of (pa_cons pe_sem (pa_cons pe_sem pa_nil hs2) hs) (ev_two (Q := fun x y H2 => _) h h' E fun v v' H' s r r' => by
    cases r with
    | @lst a xs _ ta ra =>
      cases r' with
      | @lst a2 ys _ tb rb =>
        have la := RpAll.length ra
        have lb := RpAll.length rb
        refine ⟨a, a2, xs, ys, rfl, .of ta.2.1, .of tb.2.1, k _ (fun H2 => SqL C.X.K H2 a xs ∧ SqL C.X.K H2 a2 ys) (YPair (fun i => xs[i]?) (fun i => ys[i]?)) H' s (by
          rw [zipD_len, ← la, ← lb]
          exact walk_zip rfl) (fun H2 z => ⟨.of (z _ _ (fun _ => ta.1) ta.2.1), .of (z _ _ (fun _ => tb.1) tb.2.1)⟩) fun n H1 v H2 hn y => ?_⟩
        obtain ⟨t, x, y, e1, e2, e3, e4, e5⟩ := y
        subst e1 e3
        obtain ⟨d, hd, rd⟩ := RpAll.get' ra e4
        obtain ⟨f, hf, rf⟩ := RpAll.get' rb e5
        exact ⟨same_upd e2, _, zipD_get hd hf, fun N1 sh => .tup (.of upd_same) (.cons (RV.and (sh.rv rd)) (.cons (RV.and' (sh.rv rf)) .nil))⟩)⟩
def enumD (Ds : List PyData) : List PyData := Ds.zipIdx.map fun x => .tuple [.int (x.2 : Nat), x.1]
theorem src_enum {fr : Bool} {elts : List Expr} {kk : Nat} {tpos : Pos} (hm : C.X.mg "enumerate" = none) (h : Ev C ρ e b (.list Ds)) (hs : starEach [e] C.X.env = [(false, eval e C.X.env)] := by rfl) (hg : Gl C.X "enumerate" := by rfl) :
    Src C ρ (.Tuple elts kk tpos) (.Call (.Name "enumerate" p) [e] [] pos) fr b (enumD Ds) := ⟨_, pi_enum hg hm pa_sem hs, fun Pn F q σ H E R k =>
  semA1_of ((h.run _ F q σ H E).mono fun v H' ⟨s, r⟩ => by
    cases r with
    | @lst a xs _ ta ra =>
      have la := RpAll.length ra
      refine ⟨a, xs, rfl, .of ta.2.1, k _ (fun H2 => SqL C.X.K H2 a xs) (YPair (fun i => some (.int (i : Nat))) (fun i => xs[i]?)) H' s (by
          unfold enumD
          rw [List.length_map, List.length_zipIdx, ← la]
          exact walk_enum) (fun H2 z => .of (z _ _ (fun _ => ta.1) ta.2.1)) fun n H1 v H2 hn y => ?_⟩
      obtain ⟨t, x, y, e1, e2, e3, e4, e5⟩ := y
      subst e1 e3
      cases e4
      obtain ⟨f, hf, rf⟩ := RpAll.get' ra e5
      exact ⟨same_upd e2, .tuple [.int (n : Nat), f], by unfold enumD; rw [List.getElem?_map, List.getElem?_zipIdx, hf]; simp, fun N1 sh => .tup (.of upd_same) (.cons (.int _) (.cons (sh.rv rf) .nil))⟩) hs⟩
open Classical in
noncomputable def kept (H : Hp) (N : Addr → Prop) : Hp := fun a => if N a then none else H a
theorem kept_in {H : Hp} {N : Addr → Prop} {a : Addr} (h : ¬ N a) : kept H N a = H a := if_neg h
theorem kept_out {H : Hp} {N : Addr → Prop} {a : Addr} (h : N a) : kept H N a = none := if_pos h
theorem kept_some {H : Hp} {N : Addr → Prop} {a : Addr} {o : HO} (h : kept H N a = some o) : ¬ N a ∧ H a = some o := by
  by_cases n : N a
  · rw [kept_out n] at h; cases h
  · rw [kept_in n] at h; exact ⟨n, h⟩
theorem Ct.Env.enter {Pn H : Hp} {σ : L2.St} {q : Qn} (E : C.Env Pn H σ ρ N0 q) : C.Env (kept H (Own q N0)) H σ ρ N0 q :=
  ⟨E.len, E.slot, E.inj, E.out, fun a o h => (kept_some h).2, fun a o h => by
    have h1 := E.base a o h
    rw [kept_in (fun n => by rw [E.new a n] at h1; cases h1)]
    exact E.same a o h1, fun a n => kept_out n, E.dis, E.own⟩
theorem Ct.Env.leave {Pn Pn' H : Hp} {σ : L2.St} {q : Qn} {F : Addr → Prop} (E : C.Env Pn' H σ ρ F q) (s : Same Pn Pn') (s0 : Same C.H0 Pn) : C.Env Pn H σ ρ F q :=
  ⟨E.len, E.slot, E.inj, E.out, s.trans E.same, s0, fun a n => s.free (E.new a n), E.dis, E.own⟩
theorem Ct.Env.toKept {Pn H : Hp} {σ : L2.St} {q : Qn} {F : Addr → Prop} (E : C.Env Pn H σ ρ F q) : Same Pn (kept H (Own q F)) := fun a o h => by
  rw [kept_in (fun n => by rw [E.new a n] at h; cases h)]
  exact E.same a o h
theorem blk_for {tg iter : Expr} {is : List Nat} {body : List Stmt} (Z : Cz C k) (hs : Src C ρ tg iter true b Ds) (I : Nat → List SV → Prop) (h0 : I 0 ρ)
    (hb : ∀ n D r, Ds[n]? = some D → I n r → ∃ r', Tgt C r tg is b D r' ∧ Blk C r' body { T with nx := I (n + 1), ct := I (n + 1), bk := fun r => Blk C r rest T })
    (he : ∀ r, I Ds.length r → Blk C r rest T) (hfo : ∀ x, foldedSetIterable iter C.X.env x = pure x := by intro _; rfl) : Blk C ρ (.For tg iter body [] pos :: rest) T := by
  obtain ⟨wi, hpi, hw⟩ := hs
  refine blk_cons (ps_for Z.own Z.calm hpi pg_sem pss_sem hfo) fun Pn q σ H E => ?_
  refine hw Pn N0 q σ H E _ fun J G Y H' s w hG hY => ?_
  have E' := E.grow s
  have sP : Same Pn (kept H' (Own q N0)) := Ct.Env.toKept E'
  refine for_it w (fun n σ1 H1 => ∃ r q1, I n r ∧ C.Env (kept H' (Own q N0)) H1 σ1 r N0 q1) ⟨ρ, q, h0, Ct.Env.enter E'⟩ (fun n σ1 H1 _ ⟨r, q1, _, E1⟩ => hG H1 fun a o n e => E1.same a o (by rw [kept_in (n rfl)]; exact e)) ?_ ?_
  · rintro n v σ1 H1 H2 hn ⟨r, q1, hI, E1⟩ y
    obtain ⟨s2, D, hD, rD⟩ := hY n H1 v H2 hn y
    have E2 := E1.grow s2
    have sh : Shift H' (Own q N0) H2 (Own q1 N0) := ⟨fun a o n e => E2.same a o (by rw [kept_in n]; exact e), fun a n => by
      have z := E2.new a n
      by_cases w : Own q N0 a
      · exact .inl w
      · rw [kept_in w] at z; exact .inr z, E'.own⟩
    obtain ⟨r', ht, hb⟩ := hb n D r hD hI
    refine (ht.run _ N0 q1 σ1 H2 v E2 (rD _ sh)).mono fun σ3 H3 ⟨eH, ⟨q3, E3, _⟩, _⟩ => ?_
    subst eH
    exact (hb.run _ q3 σ3 H3 E3).mono (fun _ _ z => z) (fun _ _ z => z) (fun σ4 H4 ⟨r4, q4, k4, E4⟩ => k4.run Pn q4 σ4 H4 (Ct.Env.leave E4 sP E.base)) (fun _ _ z => z)
  · rintro σ1 H1 ⟨r, q1, hI, E1⟩
    exact (he r hI).run Pn q1 σ1 H1 (Ct.Env.leave E1 sP E.base)
theorem blk_while {ι : Type} {body : List Stmt} (Z : Cz C k) (env : ι → List SV) (ok : ι → Prop) (μ : ι → Nat) (β : ι → Bool) (s0 : ι) (h0 : ρ = env s0) (k0 : ok s0) (ht : ∀ s, ok s → EvT C (env s) c (β s))
    (hb : ∀ s, ok s → β s = true → Blk C (env s) body { T with nx := fun r => ∃ s', r = env s' ∧ ok s' ∧ μ s' < μ s, ct := fun r => ∃ s', r = env s' ∧ ok s' ∧ μ s' < μ s, bk := fun r => Blk C r rest T })
    (he : ∀ s, ok s → β s = false → Blk C (env s) rest T) : Blk C ρ (.While c body [] pos :: rest) T := by
  refine blk_cons (ps_while Z.own pt_sem pss_sem) fun Pn q σ H E => ?_
  refine ⟨fun m σ1 H1 => ∃ s q1, ok s ∧ μ s = m ∧ C.Env Pn H1 σ1 (env s) N0 q1, ⟨_, s0, q, k0, rfl, by rw [← h0]; exact E⟩, ?_⟩
  rintro m σ1 H1 ⟨s, q1, ks, rfl, E1⟩
  refine ((ht s ks).run _ _ q1 σ1 H1 E1).mono fun v H2 ⟨s2, ev⟩ => ?_
  subst ev
  have E2 := E1.grow s2
  by_cases hβ : β s = true
  · rw [if_pos hβ]
    refine ⟨fun σ3 H3 => ∃ s', ok s' ∧ μ s' < μ s ∧ ∃ q3, C.Env Pn H3 σ3 (env s') N0 q3, fun σ3 H3 ⟨s', k', l, q3, E3⟩ => ⟨μ s', l, s', q3, k', rfl, E3⟩, ?_⟩
    exact ((hb s ks hβ).run Pn q1 σ1 H2 E2).mono (fun σ3 H3 ⟨r, q3, ⟨s', e, k', l⟩, E3⟩ => ⟨s', k', l, q3, by rw [← e]; exact E3⟩) (fun _ _ z => z) (fun σ4 H4 ⟨r4, q4, k4, E4⟩ => k4.run Pn q4 σ4 H4 E4) (fun σ3 H3 ⟨r, q3, ⟨s', e, k', l⟩, E3⟩ => ⟨s', k', l, q3, by rw [← e]; exact E3⟩)
  · rw [if_neg hβ]
    exact (he s ks (by simpa using hβ)).run Pn q1 σ1 H2 E2
theorem blk_append {n : Nat} {x : Str} {p1 p2 p3 : Pos} (he : PE C.X (.Name x p1) (tVar n)) (hn : ρ[n]? = some (.o b Ds)) (ha : Ev C ρ e b2 D) (hl : Ds.length < sizeLine) (h : Blk C (ρ.set n (.o (b && b2) (Ds ++ [D]))) rest T)
    (hp : PS C.X (.Expr (.Call (.Attribute (.Name x p1) "append" p2) [e] [] p3) pos) (tDrop (tBM C.X.K "list" rAppend (tVar n) (tCons (semE C.X e) tNil)))) : Blk C ρ (.Expr (.Call (.Attribute (.Name x p1) "append" p2) [e] [] p3) pos :: rest) T :=
  blk_cons hp fun Pn q σ H E => by
    obtain ⟨p, vs, hv, hp, r⟩ := E.at_o hn
    refine ⟨_, hv, .inl ⟨rfl, _, .of hp⟩, (ha.run _ _ q σ H E).mono fun v H' ⟨s, rv⟩ => ?_⟩
    refine ⟨p, vs, v, rfl, rfl, s _ _ hp, by rw [RpAll.length r]; exact hl, ?_⟩
    exact h.run Pn q σ _ ((E.grow s).write hn hv (RpAll.append ((Ct.Env.shift E s).ra r).and (.cons (RV.and' rv) .nil)))
end
end Rk
namespace Rk
open PySem PySem.Spec PyProof.Rows L2
section
variable {K : PySem.W.Frag} {b : Bool} {H0 Pn H H1 : Hp} {F : Addr → Prop} {σ : L2.St} {ρ : List SV} {q : Qn}
theorem EnvQ.toss (E : EnvQ K H0 Pn H σ ρ F q) (i : Nat) (x : Option V) : EnvQ K H0 Pn H (σ.set i x) (ρ.set i .u) (fun a => F a ∨ a ∈ q i) (clr q i []) := by
  by_cases hi : i < ρ.length
  · have eo : ∀ a, Own (clr q i []) (fun a => F a ∨ a ∈ q i) a → Own q F a := fun a n => by
      rcases n with (n | n) | ⟨j, n⟩
      · exact .inl n
      · exact .inr ⟨i, n⟩
      · exact .inr ⟨j, qsub_clr.1 j a n⟩
    have t : Shift H (Own q F) H (Own (clr q i []) fun a => F a ∨ a ∈ q i) := ⟨fun _ _ _ e => e, fun a n => .inl (eo a n), E.own⟩
    refine ⟨by simp [E.len], fun j u h => ?_, fun j k a h1 h2 => E.inj j k a (qsub_clr.1 j a h1) (qsub_clr.1 k a h2), fun j h => ?_, E.same, E.base, fun a n => E.new a (eo a n), fun a j n z => ?_, fun a n => E.own a (eo a n)⟩
    · by_cases e : j = i
      · subst e
        rw [List.getElem?_set_self hi] at h
        cases h
        rw [clr_same]
        exact .u
      · rw [List.getElem?_set_ne (Ne.symm e)] at h
        rw [clr_ne e, List.getElem?_set_ne (Ne.symm e)]
        exact (E.slot j u h).shift t (fun _ _ => rfl)
    · by_cases e : j = i
      · subst e; exact clr_same
      · rw [clr_ne e]; exact E.out j (by simpa using h)
    · by_cases e : j = i
      · subst e; rw [clr_same] at z; cases z
      · rw [clr_ne e] at z
        rcases n with n | n
        · exact E.dis a j n z
        · exact e (E.inj j i a z n)
  · have e1 : ρ.set i SV.u = ρ := List.set_eq_of_length_le (by omega)
    have e2 : σ.set i x = σ := List.set_eq_of_length_le (by rw [E.len]; omega)
    have e3 : clr q i [] = q := by
      funext j
      by_cases e : j = i
      · subst e; rw [clr_same, E.out j (by omega)]
      · exact clr_ne e
    rw [e1, e2, e3]
    exact E.dropF (by rw [E.out i (by omega)]; simp)
def wipeR (ρ : List SV) : List Nat → List SV
  | [] => ρ
  | v :: vs => (wipeR ρ vs).set v .u
theorem EnvQ.wiped (E : EnvQ K H0 Pn H σ ρ F q) : ∀ vs : List Nat, ∃ F' q', EnvQ K H0 Pn H (wipe σ vs) (wipeR ρ vs) F' q' ∧ (∀ a, Own q' F' a ↔ Own q F a) ∧ (∀ i ∈ vs, q' i = []) ∧ ∀ a, F a → F' a
  | [] => ⟨F, q, E, fun _ => Iff.rfl, by simp, fun _ z => z⟩
  | v :: vs => by
    obtain ⟨F1, q1, E1, h1, h2, h3⟩ := E.wiped vs
    refine ⟨_, _, E1.toss v none, fun a => ?_, fun i hi => ?_, fun a z => .inl (h3 a z)⟩
    · rw [← h1 a]
      constructor
      · rintro ((n | n) | ⟨j, n⟩)
        · exact .inl n
        · exact .inr ⟨v, n⟩
        · exact .inr ⟨j, qsub_clr.1 j a n⟩
      · rintro (n | ⟨j, n⟩)
        · exact .inl (.inl n)
        · rcases qsub_clr.2 j a n with z | z
          · exact .inr ⟨j, z⟩
          · simp at z; subst z; exact .inl (.inr n)
    · by_cases e : i = v
      · subst e; exact clr_same
      · rw [clr_ne e]
        rcases List.mem_cons.mp hi with z | z
        · exact absurd z e
        · exact h2 i z
end
theorem wipe_wipe {σ : L2.St} {vs : List Nat} : wipe (wipe σ vs) vs = wipe σ vs := by
  have : ∀ (ws : List Nat) (τ : L2.St), (∀ i ∈ ws, i ∈ vs) → wipe (wipe τ ws) vs = wipe τ vs := by
    intro ws
    induction ws with
    | nil => intro τ _; rfl
    | cons w ws ih =>
      intro τ h
      show wipe ((wipe τ ws).set w none) vs = _
      rw [wipe_set (h w (by simp))]
      exact ih τ fun i hi => h i (by simp [hi])
  exact this vs σ fun _ z => z
abbrev Ct.blk (C : Ct) (scope : Scope) (s : Shared) (H : Hp) (A : Addr) (cl : List (Str × Addr)) (fp : List Addr) : Ct := ⟨C.X.blk s H scope (compEnvC scope cl A C.X.env) fp, C.H0⟩
inductive EvTs (C : Ct) (ρ : List SV) : List Expr → Bool → Prop
  | nil : EvTs C ρ [] true
  | one {e : Expr} {c : Bool} : EvT C ρ e c → EvTs C ρ [e] c
def ttOf (C : Ct) (scope : Scope) : List Expr → TT
  | [] => tYes
  | [c] => fun σ H Q => ∀ s H1 A cl fp, semT (C.blk scope s H1 A cl fp).X c σ H Q
  | _ :: _ :: _ => fun _ _ _ => False
def teOf (C : Ct) (scope : Scope) (elt : Expr) : TE := fun σ H Q => ∀ s H1 A cl fp, semE (C.blk scope s H1 A cl fp).X elt σ H Q
def tgOf (C : Ct) (scope : Scope) (tg : Expr) : TG := fun v σ H Q => ∀ s H1 A cl fp, semG (C.blk scope s H1 A cl fp).X tg v σ H Q
theorem EvTs.run {C : Ct} {scope : Scope} {ρ : List SV} {ifs : List Expr} {c : Bool} {Pn H : Hp} {F : Addr → Prop} {q : Qn} {σ : L2.St} {Q : Bool → Hp → Prop} (h : ∀ s H A cl fp, EvTs (C.blk scope s H A cl fp) ρ ifs c)
    (E : C.Env Pn H σ ρ F q) (s0 : Shared) (k : ∀ H', Same H H' → Q c H') : ttOf C scope ifs σ H Q := by
  match ifs, h with
  | [], h =>
    have h1 := h s0 H 0 [] []
    cases h1
    exact k H (Same.refl _)
  | [e], h =>
    intro s H1 A cl fp
    have h1 := h s H1 A cl fp
    cases h1 with
    | one h1 => exact (h1.run Pn F q σ H E).mono fun c' H' ⟨s', e'⟩ => by subst e'; exact k H' s'
  | _ :: _ :: _, h =>
    have h1 := h s0 H 0 [] []
    cases h1
theorem pts_ttOf {C : Ct} {scope : Scope} {s : Shared} {H : Hp} {A : Addr} {cl : List (Str × Addr)} {fp : List Addr} : ∀ {ifs : List Expr}, PTs (C.blk scope s H A cl fp).X ifs (ttOf C scope ifs)
  | [] => pts_nil
  | [c] => pts_one ⟨fun pins s1 σ H Q I h => h s _ A cl fp pins s1 I⟩
  | _ :: _ :: _ => ⟨fun _ _ _ _ _ _ h => h.elim⟩
def Lc (C : Ct) (ρ : List SV) (elt tg iter : Expr) (ifs : List Expr) (scope : Scope) (b : Bool) (Ds : List PyData) : Prop :=
  ∃ (own : List (Str × Nat)) (wi : TI) (g : TG) (tt : TT) (te : TE), PI C.X tg iter wi ∧ BlkOk C.X.N C.X.env.scope scope own ∧
    (∀ (s : Shared) (H : Hp) (A : Addr) (cl : List (Str × Addr)) (fp : List Addr), PG (C.blk scope s H A cl fp).X tg g) ∧
    (∀ (s : Shared) (H : Hp) (A : Addr) (cl : List (Str × Addr)) (fp : List Addr), PTs (C.blk scope s H A cl fp).X ifs tt) ∧
    (∀ (s : Shared) (H : Hp) (A : Addr) (cl : List (Str × Addr)) (fp : List Addr), PE (C.blk scope s H A cl fp).X elt te) ∧
    ∀ Pn F q σ H, C.Env Pn H σ ρ F q → ∀ Q : VK, (∀ v H', Same H H' → (∃ p vs, v = .ref p ∧ H p = none ∧ H' p = some (.lst vs) ∧ C.Rs b H' (Own q (Fp F p)) vs Ds) → Q v H') → tLc wi g tt te (own.map (·.2)) σ H Q
section
variable {C : Ct} {ρ : List SV} {b bi : Bool} {e elt tg iter : Expr} {ifs : List Expr} {scope : Scope} {Ds : List PyData} {pos p : Pos} {k : Nat} {T : Tn} {rest : List Stmt}
theorem evo_lc (Z : Cz C k) (h : Lc C ρ elt tg iter ifs scope b Ds) (hs : ∀ x, foldedSetIterable iter C.X.env x = pure x := by intro _; rfl) : EvO C ρ (.ListComp elt [⟨tg, iter, ifs, 0⟩] scope pos) b Ds := .mk fun Pn F q σ H E => by
  obtain ⟨own, wi, g, tt, te, h1, h2, h3, h4, h5, h6⟩ := h
  exact semE_of (pe_lc Z.calm Z.nd h1 h2 h3 h4 h5 hs) (h6 Pn F q σ H E _ fun v H' s z => ⟨s, z⟩)
theorem blk_setLc {n : Nat} {y : Str} {py : Pos} (Z : Cz C k) (hy : C.X.N[n]? = some y) (hyl : C.X.env.scope.names.lookup y = some .local) (hl : n < ρ.length) (h : Lc C ρ elt tg iter ifs scope b Ds)
    (hsw : swapsWith (.ListComp elt [⟨tg, iter, ifs, 0⟩] scope pos) (some (.Name y py)) p.line C.X.env = pure true) (h0 : Blk C (ρ.set n (.o b Ds)) rest T) (hs : ∀ x, foldedSetIterable iter C.X.env x = pure x := by intro _; rfl) :
    Blk C ρ (.Assign [.Name y py] (.ListComp elt [⟨tg, iter, ifs, 0⟩] scope pos) p :: rest) T := by
  obtain ⟨own, wi, g, tt, te, h1, h2, h3, h4, h5, h6⟩ := h
  refine blk_cons (ps_setLc Z.calm Z.nd hy hyl hsw h1 h2 h3 h4 h5 hs) fun Pn q σ H E => ?_
  refine h6 Pn _ q σ H E _ fun v H' s ⟨p, vs, ev, hp, hp', r⟩ => ?_
  subst ev
  exact h0.run Pn _ _ H' ((E.addF s hp hp').put_o hl (fun z => z) hp' r)
theorem lc_mk {α : Type} (xs : List α) (f g : α → PyData) (t : α → Bool) (r' : α → List SV) (own : List (Str × Nat)) {is : List Nat} (hs : Src C ρ tg iter false bi (xs.map f)) (ok : BlkOk C.X.N C.X.env.scope scope own) (hl : xs.length ≤ sizeLine)
    (his : ∀ i ∈ is, i ∈ own.map (·.2))
    (ht : ∀ x ∈ xs, ∀ s H A cl fp, Tgt (C.blk scope s H A cl fp) (wipeR ρ (own.map (·.2))) tg is bi (f x) (r' x))
    (hc : ∀ x ∈ xs, ∀ s H A cl fp, EvTs (C.blk scope s H A cl fp) (r' x) ifs (t x))
    (hb : ∀ x ∈ xs, t x = true → ∀ s H A cl fp, Ev (C.blk scope s H A cl fp) (r' x) elt b (g x)) : Lc C ρ elt tg iter ifs scope b ((xs.filter t).map g) := by
  obtain ⟨wi, hpi, hw⟩ := hs
  refine ⟨own, wi, tgOf C scope tg, ttOf C scope ifs, teOf C scope elt, hpi, ok,
    fun s H A cl fp => ⟨fun pins s1 σ H v u Q I r h => h s _ A cl fp pins s1 u I r⟩, fun s H A cl fp => pts_ttOf, fun s H A cl fp => ⟨fun pins s1 σ H Q I h => h s _ A cl fp pins s1 I⟩, ?_⟩
  · intro Pn F q σ H E Q hQ
    refine hw Pn F q σ H E _ fun J G Y H' s w hG hY => ?_
    intro D hD
    have E' := E.grow s
    have w' := w
    rw [List.length_map] at w'
    -- what holds of the heap between two turns
    let Pv : Nat → Hp → Prop := fun n H1 => ∃ acc, H1 D = some (.lst acc) ∧ Same H' H1 ∧ C.Rs b H1 (Own q (Fp F D)) acc (((xs.take n).filter t).map g)
    refine lc_it (g := tgOf C scope tg) (tt := ttOf C scope ifs) (te := teOf C scope elt) (vs := own.map (·.2)) (σ := σ) (Qd := Q (.ref D)) w' Pv ⟨[], upd_same, same_upd hD, .nil⟩ (fun n H1 _ ⟨acc, _, s1, _⟩ => hG H1 fun a o _ z => s1 a o z) ?_ ?_
    · rintro n v H1 H2 hn ⟨acc, hacc, s1, racc⟩ y
      obtain ⟨s2, Dn, hDn, rD⟩ := hY n H1 v H2 (by rw [List.length_map]; exact hn) y
      have hx : xs[n]? = some xs[n] := List.getElem?_eq_getElem hn
      have hxm : xs[n] ∈ xs := List.getElem_mem hn
      rw [List.getElem?_map, hx] at hDn
      cases hDn
      have etake : xs.take (n + 1) = xs.take n ++ [xs[n]] := by simp
      have E2 : C.Env Pn H2 σ ρ (Fp F D) q := E'.addF (s1.trans s2) hD (s2 _ _ hacc)
      obtain ⟨F3, q3, E3, o3, z3, f3⟩ := E2.wiped (own.map (·.2))
      have shD : Shift H' (Own q F) H2 (Own q3 F3) := ⟨fun a o _ z => (s1.trans s2) a o z, fun a n => by
        rcases (o3 a).mp n with (n | rfl) | n
        · exact .inl (.inl n)
        · exact .inr hD
        · exact .inl (.inr n), E'.own⟩
      intro s H5 A cl fp
      refine ((ht _ hxm s H5 A cl fp).run Pn F3 q3 _ H2 v E3 (rD _ shD)).mono fun σ4 H4 ⟨eH, ⟨q4, E4, qs⟩, w4⟩ => ?_
      subst eH
      refine ⟨(w4 _ his).trans wipe_wipe, ?_⟩
      have o4 : ∀ a, Own q4 F3 a ↔ Own q (Fp F D) a := fun a => by
        rw [← o3 a]
        constructor
        · exact qs.own a
        · rintro (n | ⟨j, n⟩)
          · exact .inl n
          · rcases qs.2 j a n with z | z
            · exact .inr ⟨j, z⟩
            · rw [z3 j (his j z)] at n; cases n
      refine EvTs.run (hc _ hxm) E4 s fun H6 s6 => ?_
      have E6 := E4.grow s6
      have sh6 : Shift H1 (Own q (Fp F D)) H6 (Own q (Fp F D)) := Shift.same (E'.addF s1 hD hacc).own (s2.trans s6)
      by_cases ht' : t xs[n] = true
      · rw [if_pos ht']
        intro s' H5' A' cl' fp'
        refine ((hb _ hxm ht' s' H5' A' cl' fp').run Pn F3 q4 σ4 H6 E6).mono fun y H7 ⟨s7, r7⟩ => ?_
        have hlen : acc.length < sizeLine := by
          have l1 := RpAll.length racc
          rw [List.length_map] at l1
          have l2 := List.length_filter_le t (xs.take n)
          rw [List.length_take] at l2
          omega
        have s17 : Same H1 H7 := s2.trans (s6.trans s7)
        refine ⟨acc, s17 _ _ hacc, hlen, acc ++ [y], upd_same, fun a o z => ?_, ?_⟩
        · rw [upd_ne (ne_of_none z hD)]
          exact s17 _ _ (s1 a o z)
        · rw [etake, List.filter_append, List.map_append]
          have e1 : List.map g (List.filter t [xs[n]]) = [g xs[n]] := by simp [ht']
          rw [e1]
          have shU : ∀ {Hx : Hp} (N : Addr → Prop), N D → OwnOk Hx N → Shift Hx N (upd Hx D (.lst (acc ++ [y]))) N := fun N hN hO => ⟨fun a o n z => by rw [upd_ne (fun w => n (by rw [w]; exact hN))]; exact z, fun a n => .inl n, hO⟩
          have ownD : Own q (Fp F D) D := .inl (.inr rfl)
          have E7 : C.Env Pn H7 σ ρ (Fp F D) q := E'.addF (s1.trans s17) hD (s17 _ _ hacc)
          refine (shU _ ownD E7.own).ra (RpAll.append ((Shift.same (E'.addF s1 hD hacc).own s17).ra racc) (.cons ?_ .nil))
          exact Rp.mono (fun a vs z => ⟨fun n => z.1 ((o4 a).mpr n), z.2⟩) (fun _ _ z => z) _ _ r7
      · rw [if_neg ht']
        refine ⟨acc, s6 _ _ (s2 _ _ hacc), s1.trans (s2.trans s6), ?_⟩
        rw [etake, List.filter_append, List.map_append]
        have e1 : List.map g (List.filter t [xs[n]]) = [] := by simp [ht']
        rw [e1, List.append_nil]
        exact sh6.ra racc
    · rintro H1 ⟨acc, hacc, s1, racc⟩
      refine hQ _ H1 (s.trans s1) ⟨D, acc, rfl, s.free hD, hacc, ?_⟩
      rw [List.take_length] at racc
      exact racc
end
end Rk
namespace Rk
open PySem PySem.Spec PyProof.Rows L2
section
variable {C : Ct} {ρ : List SV} {b bi : Bool} {e elt tg iter : Expr} {ifs : List Expr} {scope : Scope} {Ds : List PyData} {pos p : Pos} {k : Nat} {T : Tn} {rest : List Stmt}
theorem lc_map {α : Type} (xs : List α) (f g : α → PyData) (r' : α → List SV) (own : List (Str × Nat)) {is : List Nat} (hs : Src C ρ tg iter false bi (xs.map f)) (ok : BlkOk C.X.N C.X.env.scope scope own) (hl : xs.length ≤ sizeLine)
    (his : ∀ i ∈ is, i ∈ own.map (·.2))
    (ht : ∀ x ∈ xs, ∀ s H A cl fp, Tgt (C.blk scope s H A cl fp) (wipeR ρ (own.map (·.2))) tg is bi (f x) (r' x))
    (hb : ∀ x ∈ xs, ∀ s H A cl fp, Ev (C.blk scope s H A cl fp) (r' x) elt b (g x)) : Lc C ρ elt tg iter [] scope b (xs.map g) := by
  have h := lc_mk xs f g (fun _ => true) r' own hs ok hl his ht (fun x hx s H A cl fp => .nil) (fun x hx _ => hb x hx)
  rw [List.filter_eq_self.mpr fun _ _ => rfl] at h
  exact h
end
def HasDef (K : PySem.W.Frag) (mg : Str → Option Value) (x : Str) (st : Stmt) : Prop := ∃ f fd, mg x = some (.ref f) ∧ Fun K x x st f fd
def BindsAll (x : Str) (st : Stmt) (ps : List Str) : Prop := ∀ (kV doc pm : Value) (an : Option Addr) (cdv ct : Value) (us : List Value), us.length = ps.length → bindArgs (PySem.W.fnOf x x (defArgs st) (defBody st) (defScope st) .none kV doc pm an cdv ct) ⟨us, []⟩ = pure (ps.zip us)
abbrev defCt (P : Program) (w : World) (K : PySem.W.Frag) (mg : Str → Option Value) (base : Heap) (N : List Str) (x : Str) (st : Stmt) (f : Addr) (cdv : Value) (A : Around) (outer : List Env) (s : Shared) (H : Hp) (E : XK) : Ct :=
  ⟨cxOf (L2N.CX P w) P w K mg base N x (defScope st) f cdv A outer s H E, H⟩
def us (n : Nat) : List SV := List.replicate n .u
theorem start_env {K : PySem.W.Frag} {H : Hp} {N : List Str} {vs : List V} {As : List SV} (ha : ArgsOk K H vs As) {n : Nat} (hn : n = N.length - As.length) : EnvQ K H H H (L2.start N vs) (As ++ us n) N0 (fun _ => []) := by
  have hlen : vs.length = As.length := Paired.length ha
  have hN : ∀ a, ¬ Own (fun _ => []) N0 a := fun a n => by
    rcases n with n | ⟨j, n⟩
    · exact n
    · cases n
  refine ⟨by unfold L2.start us; simp only [List.length_append, List.length_map, List.length_replicate, hlen, hn], fun i s h => ?_, fun i j a h => (by cases h), fun _ _ => rfl, Same.refl _, Same.refl _, fun a n => (hN a n).elim, fun a i n => (by cases n), fun a n => (hN a n).elim⟩
  have get : ∀ {vs : List V} {As : List SV}, ArgsOk K H vs As → ∀ {i : Nat} {s : SV}, As[i]? = some s → ∃ v, vs[i]? = some v ∧ ArgOk K H v s := by
    intro vs As h
    induction h with
    | nil => intro i s e; simp at e
    | cons a t ih =>
      intro i s e
      cases i with
      | zero => simp at e; subst e; exact ⟨_, rfl, a⟩
      | succ i => exact ih (by simpa using e)
  by_cases hi : i < As.length
  · rw [List.getElem?_append_left hi] at h
    obtain ⟨v, hv, a⟩ := get ha h
    have e : (L2.start N vs)[i]? = some (some v) := by
      unfold L2.start
      rw [List.getElem?_append_left (by simpa [hlen] using hi), List.getElem?_map, hv] <;> rfl
    rw [e]
    cases a with
    | d r => exact .d (RV.base r fun a n => (hN a n))
    | s r => exact .s r
    | rb r => exact .rb (r.shift ⟨fun _ _ _ e => e, fun a n => (hN a n).elim, noOwn⟩)
  · rw [List.getElem?_append_right (by omega)] at h
    unfold us at h
    rw [List.getElem?_replicate] at h
    split at h
    · cases h; exact .u
    · cases h
section
variable {P : Program} {w : World} {K : PySem.W.Frag} {mg : Str → Option Value} {base : Heap}
theorem prom_mk {x : Str} {st : Stmt} {N ps : List Str} {k : Nat} {S : Spec} (D : HasDef K mg x st) (SC : FnScope N ps (defScope st)) (bd : BindsAll x st ps) (len : ∀ As R Xs, S As R Xs → As.length = ps.length)
    (body : ∀ (f : Addr) (cdv : Value) (A : Around) (outer : List Env) (s : Shared) (H : Hp) (E : XK) (As : List SV) (R : PyData → Prop) (Xs : Addr → Prop), S As R Xs →
      Cz (defCt P w K mg base N x st f cdv A outer s H E) k → Rz (defCt P w K mg base N x st f cdv A outer s H E) Xs →
      Blk (defCt P w K mg base N x st f cdv A outer s H E) (As ++ us (N.length - ps.length)) (defBody st) { nx := fun _ => R .none, rt := R }) : Prom P w K mg base (k + 1) x S := by
  obtain ⟨f, fd, hm, F⟩ := D
  refine ⟨f, fd, ps, hm, F.kp, F.binds bd, okN F SC (fun vs H Q E h => ?_) fun cdv A outer s H vs Q E hr h => ?_⟩
  · obtain ⟨As, R, Xs, hS, ha, _⟩ := h
    rw [Paired.length ha, len As R Xs hS]
  · obtain ⟨As, R, Xs, hS, ha, hR, hX⟩ := h
    have rz : Rz (defCt P w K mg base N x st f cdv A outer s H E) Xs := (L2N.takes_of (E := E) rfl rfl rfl rfl : L2N.Takes _ (fun cls d _ H => E cls d H)).imp fun c d σ H' ⟨A', e1, e2, e3, e4⟩ => by
      subst e1 e2
      exact hX A' H' e3 e4
    have Z : Cz (defCt P w K mg base N x st f cdv A outer s H E) k := ⟨rfl, passes_of rfl, SC.nd, hr⟩
    have E0 := start_env (N := N) ha (n := N.length - ps.length) (by rw [len As R Xs hS])
    refine ⟨_, pss_sem, ((body f cdv A outer s H E As R Xs hS Z rz).run H _ _ H E0).mono (fun σ' H' ⟨r, q, h, E'⟩ => ?_) (fun v H' ⟨D, d, s1, r⟩ => hR v H' D d s1 r) (fun _ _ ⟨_, _, z, _⟩ => z.elim) (fun _ _ ⟨_, _, z, _⟩ => z.elim)⟩
    exact hR .non H' .none h (E'.base.trans E'.same) .non
def lawS : Spec := fun As R Xs => ∃ ns : List Int, As = [.s ns] ∧ ns.length ≤ 63 ∧ R = (· = .bool true)
def LawOk (P : Program) (w : World) (K : PySem.W.Frag) (mg : Str → Option Value) (k : Nat) : Prop := ∃ f fd, mg "law" = some (.ref f) ∧ (∀ (s : Shared) (u : Value), BindsTo s fd ⟨[u], []⟩ [("script", u)]) ∧
  ∀ base : Heap, FnOk P w K mg base (L2N.CX P w) k f fd ["script"] (spD K lawS)
theorem law_mk {st : Stmt} {N : List Str} {k : Nat} (D : HasDef K mg "law" st) (SC : FnScope N ["script"] (defScope st)) (bd : BindsAll "law" st ["script"])
    (body : ∀ (base : Heap) (f : Addr) (cdv : Value) (A : Around) (outer : List Env) (s : Shared) (H : Hp) (E : XK) (ns : List Int), ns.length ≤ 63 →
      Cz (defCt P w K mg base N "law" st f cdv A outer s H E) k → 
      Blk (defCt P w K mg base N "law" st f cdv A outer s H E) (.s ns :: us (N.length - 1)) (defBody st) { nx := fun _ => False, rt := (· = .bool true) }) : LawOk P w K mg (k + 1) := by
  obtain ⟨f, fd, hm, F⟩ := D
  refine ⟨f, fd, hm, fun s u => ?_, fun base => okN F SC (fun vs H Q E h => ?_) fun cdv A outer s H vs Q E hr h => ?_⟩
  · obtain ⟨oc, od, kV, doc, pm, an, cdv, ct, osl, rfl, lk, hcd⟩ := F.ex
    exact .of_eq (bd kV doc pm an cdv ct [u] rfl)
  · obtain ⟨As, R, Xs, hS, ha, _⟩ := h
    obtain ⟨ns, rfl, _⟩ := hS
    exact (Paired.length ha).trans rfl
  · obtain ⟨As, R, Xs, ⟨ns, rfl, hl, rfl⟩, ha, hR, hX⟩ := h
    have Z : Cz (defCt P w K mg base N "law" st f cdv A outer s H E) k := ⟨rfl, passes_of rfl, SC.nd, hr⟩
    have E0 := start_env (N := N) ha (n := N.length - 1) rfl
    exact ⟨_, pss_sem, ((body base f cdv A outer s H E ns hl Z).run H _ _ H E0).mono (fun _ _ ⟨_, _, z, _⟩ => z.elim) (fun v H' ⟨D, d, s1, r⟩ => hR v H' D d s1 r) (fun _ _ ⟨_, _, z, _⟩ => z.elim) (fun _ _ ⟨_, _, z, _⟩ => z.elim)⟩
theorem hasdef_mk {h : Heap} (X : K.In h) (G : h.Ns mainGlobals mg) {x : Str} {st : Stmt} {f : Addr} {oc : Value} {od an : Option Addr} {osl : Array (Option Value)} {kV doc pm cdv ct : Value} (a : PySem.W.nsIn K mainGlobals x = some (some (.ref f)))
    (l : K.lookup f = some ⟨oc, od, .func (PySem.W.fnOf x x (defArgs st) (defBody st) (defScope st) .none kV doc pm an cdv ct), osl⟩) (c : PySem.W.codeIn K cdv x = true) (k : PySem.W.keepIn K (.ref f) = true) : HasDef K mg x st :=
  ⟨f, _, PySem.W.mg_of X G a, fun_mk l c k⟩
theorem const_mk {h : Heap} (X : K.In h) (G : h.Ns mainGlobals mg) {x : Str} {i : Int} {t : Tok} (a : PySem.W.nsIn K mainGlobals x = some (some (.int i t))) : ∃ t, mg x = some (.int i t) := ⟨t, PySem.W.mg_of X G a⟩
theorem law_end {l : PySem.W.OpenLaw} {k : Nat} {q : Program} {loose : List Str} {XP : (Str → Option Value) → Heap → Prop} {YP : World → Heap → Prop} {d : DefRec} {K : Params → PySem.W.Frag} (hn : l.most = some 63) (hdf : d.params.defaults = []) (hr : Room k callerA)
    (hY : ∀ (w : World) (h : Heap), YP w h → (K w.params).In h) (ht : d.name = "law")
    (F : ∀ (w : World) (mg : Str → Option Value) (h : Heap), (K w.params).In h → h.Ns mainGlobals mg → LawOk l.prog w (K w.params) mg k) :
    PySem.W.WalkO q loose XP YP l.row.toRowW d [] (fun f vs => PySem.call f vs) :=
  L2.walk_of (n := 63) (k := k) (x := "script") (CX := fun w => L2N.CX l.prog w) (sp := fun w => spD (K w.params) lawS) hn (by decide) hdf hr hY
    (fun w mg fa h KX G hm => by
      obtain ⟨f, fd, e1, e2, e3⟩ := F w mg h KX G
      rw [ht] at hm
      rw [hm] at e1
      cases e1
      exact ⟨fd, e2, fun base _ _ => e3 base⟩)
    (fun w H a ns hl hO hS => by
      refine ⟨[.s ns], _, fun _ => False, ⟨ns, rfl, hl, rfl⟩, .cons (.s ?_) .nil, fun v H' D hD _ r => ?_, fun _ _ z _ => z⟩
      · rcases hS with (h | h) | h
        · rcases hO a with z | ⟨o, xs, z⟩
          · rw [h] at z; cases z
          · rw [h] at z; cases z
        · exact .inl h
        · exact .inr h
      · subst hD; cases r; rfl)
    fun w H s e s' h => CX.never h fun _ _ _ z => z
end
end Rk
namespace Rk
open PySem PySem.Spec PyProof.Rows L2
section
variable {C : Ct} {ρ : List SV} {b b' b1 b2 : Bool} {e e2 a c : Expr} {st : Stmt} {sts rest : List Stmt} {D : PyData} {Ds Es : List PyData} {pos p : Pos} {i j : Int} {T : Tn} {k : Nat}
theorem ps_append {X : Cx} {n : Nat} {x : Str} {e : Expr} {p1 p2 p3 pos : Pos} (he : PE X (.Name x p1) (tVar n)) (hst : starEach (e :: []) X.env = (false, eval e X.env) :: starEach [] X.env := by rfl) (hpl : (backTo p3 (starEach [] X.env)).any (·.1) = false := by rfl)
    (hbase : attributeBase (.Name x p1) "append" X.env (eval (.Name x p1) X.env) = eval (.Name x p1) X.env := by rfl) (hline : (p2.endLine == p3.line) = true := by rfl) (hfew : ((backTo p3 (starEach (e :: []) X.env)).all (fun x => !x.1) && (backToKw p3 (keywordEach [] X.env)).all (fun x => x.1.isSome)
      && decide ((e :: []).length + ([] : List Keyword).length + (if ([] : List Keyword).isEmpty then 0 else 1) < 30)) = true := by rfl)
    (hs : swapsWith (.Call (.Attribute (.Name x p1) "append" p2) [e] [] p3) none pos.line X.env = pure false := by rfl) : PS X (.Expr (.Call (.Attribute (.Name x p1) "append" p2) [e] [] p3) pos) (tDrop (tBM X.K "list" rAppend (tVar n) (tCons (semE X e) tNil))) :=
  ps_expr (pe_bm PySem.F.plainAttrs_list PySem.F.slot_list_append PySem.F.type_list_append mt_append he (pa_cons pe_sem pa_nil hst) (hbase := hbase) (hfew := hfew) (hline := hline) (hs := hst) (hplain := hpl)) hs
theorem blk_setIx {n m : Nat} {x : Str} {p1 p2 : Pos} (he : PE C.X (.Name x p1) (tVar n)) (hn : ρ[n]? = some (.o b Ds)) (hi : Ev C ρ e b1 (.int i)) (hv : Ev C ρ c b2 D) (hm : ixN Ds.length i = some m) (h : Blk C (ρ.set n (.o (b && b2) (Ds.set m D))) rest T)
    (ha : ∀ v, assign (.Subscript (.Name x p1) e p2) C.X.env v = (do
      let ov ← holding [v] (eval (.Name x p1) C.X.env)
      let iv ← holding [v, ov] (eval e C.X.env)
      standAt p2
      holding [v, ov, iv] (setItem ov iv v)
      release [v, ov, iv] []) := by intro _; rfl)
    (hs : swapsWithSole [.Subscript (.Name x p1) e p2] c pos.line C.X.env = pure false := by rfl) (hw : swappedStores [.Subscript (.Name x p1) e p2] c C.X.env = pure none := by rfl)
    (h1 : (assignEach [.Subscript (.Name x p1) e p2] C.X.env).map (·.2) = [assign (.Subscript (.Name x p1) e p2) C.X.env] := by rfl) : Blk C ρ (.Assign [.Subscript (.Name x p1) e p2] c pos :: rest) T :=
  blk_cons (ps_asg pe_sem (pg_sub he pe_sem set_list ha) hs hw h1) fun Pn q σ H E => by
    obtain ⟨p, vs, hv', hp, r⟩ := E.at_o hn
    refine (hv.run _ _ q σ H E).mono fun v H1 ⟨s1, rv⟩ => ?_
    refine ⟨_, hv', (hi.run _ _ q σ H1 (E.grow s1)).mono fun iv H2 ⟨s2, ri⟩ => ?_⟩
    cases ri
    have s12 := s1.trans s2
    refine ⟨p, vs, i, m, rfl, rfl, s12 _ _ hp, by rw [RpAll.length r]; exact hm, ?_⟩
    exact h.run Pn q σ _ ((E.grow s12).write hn hv' (RpAll.set (RV.and' ((Ct.Env.shift (E.grow s1) s2).rv rv)) m ((Ct.Env.shift E s12).ra r).and))
theorem ev_slT {lo hi : Option Expr} {l h : Option Int} {p2 : Pos} (ha : Ev C ρ a b (.tuple Ds)) (hl : Eo C ρ lo l) (hh : Eo C ρ hi h) (hw : ¬ (HT.sIx Ds.length 0 l = 0 ∧ HT.sIx Ds.length Ds.length h = Ds.length)) : Ev C ρ (.Subscript a (.Slice lo hi none p2) pos) b (.tuple (cutD Ds l h)) := .mk fun Pn F q σ H E =>
  semE_of (pe_slice sl_tup pe_sem po_sem po_sem) ((ha.run _ F q σ H E).mono fun x H1 ⟨s1, r1⟩ => hl.run (E.grow s1) fun H2 s2 => hh.run (E.grow (s1.trans s2)) fun H3 s3 => by
    cases r1 with
    | @tup a' vs _ t r1 =>
      have s13 := s2.trans s3
      have sh := Ct.Env.shift (E.grow s1) s13
      refine ⟨_, vs, rfl, sh.tup t, by rw [RpAll.length r1]; exact hw, fun u hu => ?_⟩
      have s4 : Same H3 (upd H3 u (.tup (cutV vs l h))) := same_upd hu
      have s14 := s1.trans s13
      exact ⟨s14.trans s4, .tup (.of upd_same) ((Ct.Env.shift (E.grow s14) s4).ra ((sh.ra r1).cut l h))⟩)
theorem Blk.imp {T' : Tn} (h : Blk C ρ sts T) (h1 : ∀ r, T.nx r → T'.nx r) (h2 : T'.rt = T.rt) (h3 : T'.bk = T.bk) (h4 : T'.ct = T.ct) (h5 : T'.mr = T.mr := by rfl) (h6 : T'.nw = T.nw := by rfl) : Blk C ρ sts T' := .mk fun Pn q σ H E => by
  obtain ⟨nx, rt, bk, ct, mr, nw⟩ := T
  obtain ⟨nx', rt', bk', ct', mr', nw'⟩ := T'
  simp only at h2 h3 h4 h1 h5 h6
  subst h2 h3 h4 h5 h6
  exact (h.run Pn q σ H E).mono (fun _ _ ⟨r, q1, z, E1⟩ => ⟨r, q1, h1 r z, E1⟩) (fun _ _ z => z) (fun _ _ z => z) (fun _ _ z => z)
theorem blk_ifJ {y : Bool} {A B : List Stmt} (N : List SV → Prop) (hc : EvT C ρ c y) (h1 : y = true → Blk C ρ A { T with nx := N }) (h2 : y = false → Blk C ρ B { T with nx := N }) (h3 : ∀ r, N r → Blk C r rest T) : Blk C ρ (.If c A B pos :: rest) T :=
  blk_if hc (fun e => (h1 e).imp h3 rfl rfl rfl) (fun e => (h2 e).imp h3 rfl rfl rfl)
end
theorem ev_powC {C : Ct} {ρ : List SV} {a c : Expr} {pos : Pos} {b1 b2 : Bool} {i j : Int} (v : Int) (ha : Ev C ρ a b1 (.int i)) (hc : Ev C ρ c b2 (.int j)) (h : CPow i j) (hv : i ^ j.toNat = v) : Ev C ρ (.BinOp a .Pow c pos) true (.int v) := by
  rw [← hv]; exact ev_pow ha hc h
theorem mulL {i j : Int} (h : -(2 ^ 64) < i ∧ i < 2 ^ 64) : IntMulOk i j := CMul.ok (.inl h)
theorem mulR {i j : Int} (h : -(2 ^ 64) < j ∧ j < 2 ^ 64) : IntMulOk i j := CMul.ok (.inr h)
theorem mulW {i j : Int} {a b : Nat} (ha : i.natAbs < 2 ^ a) (hb : j.natAbs < 2 ^ b) (h0 : 0 < a) (h1 : 0 < b) (h : a + b ≤ 1000000) : IntMulOk i j := CMulW.ok (wide_mul ha hb h0 h1 h)
theorem pyS {i j : Int} (h : j.natAbs < 1073741824) : Builtin.divisionGoesByPylong i j = false := PyProof.noPylong_small h
theorem pyW {i j : Int} {b : Nat} (hb : j.natAbs < 2 ^ b) (h0 : 0 < b) (h9 : b ≤ 9000) : Builtin.divisionGoesByPylong i j = false := PyProof.noPylong_of_log2 (Nat.lt_of_lt_of_le (PySem.Flt.log2_lt_of h0 hb) h9)
theorem atI_map' {α : Type} {f : α → PyData} {xs : List α} {k : Int} (d : α) (h0 : 0 ≤ k) (h : k < xs.length) : atI (xs.map f) k = some (f (xs.getD k.toNat d)) := by
  have hk : k.toNat < xs.length := by omega
  have e : k = ((k.toNat : Nat) : Int) := by omega
  have h1 : atI (xs.map f) ((k.toNat : Nat) : Int) = some (f (xs.getD k.toNat d)) := by
    refine atI_nat ?_
    rw [List.getElem?_map, List.getElem?_eq_getElem hk, List.getD, List.getElem?_eq_getElem hk] <;> rfl
  rw [← e] at h1
  exact h1
theorem ixN_in {n : Nat} {k : Int} (h0 : 0 ≤ k) (h : k < n) : ixN n k = some k.toNat := by
  unfold ixN
  rw [if_pos h0, if_pos h]
theorem small {n m : Nat} (h : n ≤ m) (hm : m ≤ 16777216 := by decide) : n ≤ sizeLine := by
  have : sizeLine = 16777216 := by decide
  omega
theorem small' {n m : Nat} (h : n < m) (hm : m ≤ 16777216 := by decide) : n < sizeLine := by
  have : sizeLine = 16777216 := by decide
  omega
abbrev tInts (ns : List Int) : PyData := .tuple (ns.map .int)
abbrev lInts (ns : List Int) : PyData := .list (ns.map .int)
abbrev House := List Int × List Int
abbrev dH (h : House) : PyData := .tuple [tInts h.1, tInts h.2]
abbrev dB (b : List House) : PyData := .list (b.map dH)
theorem flat_ints : ∀ ns : List Int, Rk.flat.flatAll (ns.map .int) = true
  | [] => rfl
  | n :: ns => by simp only [List.map_cons, Rk.flat.flatAll, Rk.flat, flat_ints ns, Bool.and_self]
theorem flat_dH (h : House) : Rk.flat (dH h) = true := by
  simp only [dH, tInts, Rk.flat, Rk.flat.flatAll, flat_ints, Bool.and_self]
theorem canLay_ints : ∀ ns : List Int, PyData.canLayAll0 (ns.map .int) = true
  | [] => by simp [PyData.canLayAll0]
  | n :: ns => by simp only [List.map_cons, PyData.canLayAll0, PyData.canLay0, canLay_ints ns, Bool.and_self]
theorem depth_ints : ∀ ns : List Int, PyData.depthAll (ns.map .int) ≤ 0
  | [] => by simp [PyData.depthAll]
  | n :: ns => by
    have h := depth_ints ns
    simp only [List.map_cons, PyData.depthAll, PyData.depth]
    omega
theorem ev_catI {C : Ct} {ρ : List SV} {a c : Expr} {pos : Pos} {b1 b2 : Bool} {ns ms : List Int} (ha : Ev C ρ a b1 (tInts ns)) (hc : Ev C ρ c b2 (tInts ms)) (h0 : ns ≠ []) (hl : ns.length + ms.length ≤ sizeLine) : Ev C ρ (.BinOp a .Add c pos) (b1 && b2) (tInts (ns ++ ms)) := by
  unfold tInts
  rw [List.map_append]
  exact ev_catT ha hc (by simpa using h0) (by simpa using hl)
theorem ne_of_len {α : Type} {ns : List α} (h : 1 ≤ ns.length) : ns ≠ [] := by
  intro e; rw [e] at h; simp at h
theorem canLay_dHs : ∀ b : List House, PyData.canLayAll0 (b.map dH) = true
  | [] => by simp [PyData.canLayAll0]
  | h :: b => by
    have h1 := canLay_ints h.1
    have h2 := canLay_ints h.2
    have h3 := canLay_dHs b
    simp only [List.map_cons, PyData.canLayAll0, PyData.canLay0, h1, h2, h3, Bool.and_self]
theorem depth_dHs : ∀ b : List House, PyData.depthAll (b.map dH) ≤ 2
  | [] => by simp [PyData.depthAll]
  | h :: b => by
    have h1 := depth_ints h.1
    have h2 := depth_ints h.2
    have h3 := depth_dHs b
    simp only [List.map_cons, PyData.depthAll, PyData.depth]
    omega
theorem shaped_of {d : PyData} (h1 : d.canLay0 = true) (h2 : d.depth ≤ 64) : SeqAt.shaped d = true := by
  unfold SeqAt.shaped
  rw [h1, decide_eq_true h2]; rfl
theorem shaped_dHs (b : List House) : SeqAt.shaped (dB b) = true := by
  refine shaped_of (by simp only [PyData.canLay0, canLay_dHs]) ?_
  have := depth_dHs b
  simp only [PyData.depth]
  omega
structure GoodH (far : Int) (h : House) : Prop where
  t1 : 1 ≤ h.1.length
  t4 : h.1.length ≤ 4
  g1 : 1 ≤ h.2.length
  g4 : h.2.length ≤ 4
  tk : ∀ x ∈ h.1, 1 ≤ x ∧ x ≤ far
  gv : ∀ x ∈ h.2, 0 ≤ x ∧ x ≤ far
  ps : ∃ x ∈ h.2, 0 < x
theorem mem_getD {xs : List Int} {k : Nat} (h : k < xs.length) (d : Int) : xs.getD k d ∈ xs := by
  rw [List.getD, List.getElem?_eq_getElem h]; exact List.getElem_mem h
theorem mem_set_or {xs : List Int} {k : Nat} {v x : Int} (h : x ∈ xs.set k v) : x = v ∨ x ∈ xs := by
  rcases List.mem_or_eq_of_mem_set h with h | h
  · exact .inr h
  · exact .inl h
theorem map_set_int {xs : List Int} {k : Nat} {v : Int} : (xs.map PyData.int).set k (.int v) = (xs.set k v).map .int := by rw [List.map_set]
end Rk
namespace Rk
open PySem PySem.Spec PyProof.Rows L2
end Rk
namespace Rk
open PySem PySem.Spec PyProof.Rows L2
end Rk
namespace Rk
open PySem PySem.Spec PyProof.Rows L2
end Rk
namespace Rk
open PySem PySem.Spec PyProof.Rows L2
mutual
def pur : PyData → Bool
  | .none => true
  | .int _ => true
  | .str _ => true
  | .list xs => purAll xs
  | .tuple xs => purAll xs
  | .bool _ => false
  | .dict _ => false
def purAll : List PyData → Bool
  | [] => true
  | x :: xs => pur x && purAll xs
end
mutual
theorem eqv_sound : ∀ x y : PyData, pur x = true → pur y = true → PyData.eqv x y = true → x = y
  | .none, y, _, h, e => by cases y <;> simp_all [pur, PyData.eqv]
  | .int i, y, _, h, e => by cases y <;> simp_all [pur, PyData.eqv]
  | .str i, y, _, h, e => by cases y <;> simp_all [pur, PyData.eqv]
  | .bool _, _, h, _, _ => nomatch h
  | .dict _, _, h, _, _ => nomatch h
  | .list xs, y, h1, h, e => by
    cases y with
    | list ys =>
      rw [PyData.eqv] at e
      rw [eqvAll_sound xs ys (by simpa [pur] using h1) (by simpa [pur] using h) e]
    | _ => simp_all [pur, PyData.eqv]
  | .tuple xs, y, h1, h, e => by
    cases y with
    | tuple ys =>
      rw [PyData.eqv] at e
      rw [eqvAll_sound xs ys (by simpa [pur] using h1) (by simpa [pur] using h) e]
    | _ => simp_all [pur, PyData.eqv]
theorem eqvAll_sound : ∀ xs ys : List PyData, purAll xs = true → purAll ys = true → PyData.eqvAll xs ys = true → xs = ys
  | [], ys, _, _, e => by cases ys <;> simp_all [PyData.eqvAll]
  | x :: xs, ys, h1, h2, e => by
    cases ys with
    | nil => simp_all [PyData.eqvAll]
    | cons y ys =>
      simp only [purAll, Bool.and_eq_true] at h1 h2
      simp only [PyData.eqvAll, Bool.and_eq_true] at e
      rw [eqv_sound x y h1.1 h2.1 e.1, eqvAll_sound xs ys h1.2 h2.2 e.2]
end
theorem eqv_iff {x y : PyData} (h1 : pur x = true) (h2 : pur y = true) (h3 : x.canLay0 = true) : PyData.eqv x y = true ↔ x = y :=
  ⟨eqv_sound x y h1 h2, fun e => by rw [e] at h3 ⊢; exact PySem.SeqAt.eqv_refl y h3⟩
theorem canLayAll_of {α : Type} {f : α → PyData} (h : ∀ x, (f x).canLay0 = true) : ∀ xs : List α, PyData.canLayAll0 (xs.map f) = true
  | [] => rfl
  | x :: xs => by simp only [List.map_cons, PyData.canLayAll0, h x, canLayAll_of h xs, Bool.and_self]
theorem pur_list {xs : List PyData} (h : purAll xs = true) : pur (.list xs) = true := by rw [pur]; exact h
theorem pur_tuple {xs : List PyData} (h : purAll xs = true) : pur (.tuple xs) = true := by rw [pur]; exact h
theorem canLay_list {xs : List PyData} (h : PyData.canLayAll0 xs = true) : (PyData.list xs).canLay0 = true := by rw [PyData.canLay0]; exact h
theorem canLay_tuple {xs : List PyData} (h : PyData.canLayAll0 xs = true) : (PyData.tuple xs).canLay0 = true := by rw [PyData.canLay0]; exact h
end Rk
namespace Rk
open PySem PySem.Spec PyProof.Rows L2
abbrev dF (q : Rat) : PyData := .tuple [.int q.num, .int (q.den : Int)]
theorem flat_dF (q : Rat) : Rk.flat (dF q) = true := rfl
theorem pur_dF (q : Rat) : pur (dF q) = true := rfl
theorem canLay_dF (q : Rat) : (dF q).canLay0 = true := rfl
theorem dF_inj {x y : Rat} : dF x = dF y ↔ x = y := by
  constructor
  · intro e
    injection e with e
    injection e with e1 e
    injection e with e2 e
    injection e1 with e1
    injection e2 with e2
    exact Rat.ext e1 (Int.ofNat.inj e2)
  · rintro rfl; rfl
theorem divInt_pos {a b : Int} (hb : 0 < b) : (Rat.divInt a b).num = a / (Int.gcd a b : Int) ∧ ((Rat.divInt a b).den : Int) = b / (Int.gcd a b : Int) := by
  rw [Rat.num_divInt, Rat.den_divInt, if_neg (by omega), Int.gcd_comm b a, Int.sign_eq_one_of_pos hb, Int.one_mul]
  refine ⟨rfl, ?_⟩
  rw [Int.natCast_ediv, Int.natAbs_of_nonneg (by omega)]
theorem divInt_neg' {a b : Int} (hb : b < 0) : (Rat.divInt a b).num = a.fdiv (0 - (Int.gcd a b : Int)) ∧ ((Rat.divInt a b).den : Int) = b.fdiv (0 - (Int.gcd a b : Int)) := by
  have g1 : ((Int.gcd a b : Nat) : Int) ∣ a := Int.gcd_dvd_left a b
  have g2 : ((Int.gcd a b : Nat) : Int) ∣ b := Int.gcd_dvd_right a b
  have g0 : 0 < (Int.gcd a b : Int) := by
    have : Int.gcd a b ≠ 0 := by
      intro e
      rw [Int.gcd_eq_zero_iff] at e
      omega
    omega
  have n1 : (0 - (Int.gcd a b : Int)) ∣ a := by rw [Int.zero_sub]; exact Int.neg_dvd.mpr g1
  have n2 : (0 - (Int.gcd a b : Int)) ∣ b := by rw [Int.zero_sub]; exact Int.neg_dvd.mpr g2
  rw [Rat.num_divInt, Rat.den_divInt, if_neg (by omega), Int.gcd_comm b a, Int.sign_eq_neg_one_of_neg hb, Int.fdiv_eq_ediv_of_dvd n1, Int.fdiv_eq_ediv_of_dvd n2, Int.zero_sub, Int.ediv_neg, Int.ediv_neg]
  refine ⟨?_, ?_⟩
  · rw [Int.neg_mul, Int.one_mul, Int.neg_ediv_of_dvd g1]
  · rw [Int.natCast_ediv, Int.ofNat_natAbs_of_nonpos (by omega), Int.neg_ediv_of_dvd g2]
theorem divInt_add (x y : Rat) : Rat.divInt (x.num * (y.den : Int) + y.num * (x.den : Int)) ((x.den : Int) * (y.den : Int)) = x + y := by
  rw [← Rat.divInt_add_divInt _ _ (by have := x.den_pos; omega) (by have := y.den_pos; omega), Rat.num_divInt_den, Rat.num_divInt_den]
theorem divInt_sub (x y : Rat) : Rat.divInt (x.num * (y.den : Int) - y.num * (x.den : Int)) ((x.den : Int) * (y.den : Int)) = x - y := by
  have e := Rat.divInt_add_divInt x.num (-y.num) (d₁ := (x.den : Int)) (d₂ := (y.den : Int)) (by have := x.den_pos; omega) (by have := y.den_pos; omega)
  rw [Int.neg_mul, ← Int.sub_eq_add_neg] at e
  rw [← e, Rat.sub_eq_add_neg, Rat.num_divInt_den, Rat.divInt_ofNat (-y.num), ← Rat.neg_mkRat, Rat.mkRat_self]
theorem natAbs_ofNat {d n : Nat} (h : d < 2 ^ n) : (d : Int).natAbs < 2 ^ n := by simpa using h
theorem divInt_mul (x y : Rat) : Rat.divInt (x.num * y.num) ((x.den : Int) * (y.den : Int)) = x * y := by
  rw [← Rat.divInt_mul_divInt, Rat.num_divInt_den, Rat.num_divInt_den]
def Wd (n : Nat) (q : Rat) : Prop := q.num.natAbs < 2 ^ n ∧ q.den < 2 ^ n
theorem Wd.le {n m : Nat} {q : Rat} (h : Wd n q) (l : n ≤ m) : Wd m q :=
  ⟨Nat.lt_of_lt_of_le h.1 (Nat.pow_le_pow_right (by decide) l), Nat.lt_of_lt_of_le h.2 (Nat.pow_le_pow_right (by decide) l)⟩
theorem wd_divInt {n : Nat} {a b : Int} (hb : b ≠ 0) (h1 : a.natAbs < 2 ^ n) (h2 : b.natAbs < 2 ^ n) : Wd n (Rat.divInt a b) := by
  have g0 : Int.gcd b a ≠ 0 := by
    intro e
    rw [Int.gcd_eq_zero_iff] at e
    omega
  refine ⟨?_, ?_⟩
  · rw [Rat.num_divInt]
    have : (b.sign * a / ((b.gcd a : Nat) : Int)).natAbs ≤ a.natAbs := by
      refine Nat.le_trans (Int.natAbs_ediv_le_natAbs _ _) ?_
      rw [Int.natAbs_mul]
      have : b.sign.natAbs ≤ 1 := by
        rcases Int.lt_trichotomy b 0 with z | z | z
        · rw [Int.sign_eq_neg_one_of_neg z]; decide
        · rw [z]; decide
        · rw [Int.sign_eq_one_of_pos z]; decide
      calc b.sign.natAbs * a.natAbs ≤ 1 * a.natAbs := Nat.mul_le_mul_right _ this
        _ = a.natAbs := Nat.one_mul _
    omega
  · rw [Rat.den_divInt, if_neg hb]
    exact Nat.lt_of_le_of_lt (Nat.div_le_self _ _) h2
theorem lt_mul_pow {a b n m : Nat} (h1 : a < 2 ^ n) (h2 : b < 2 ^ m) : a * b < 2 ^ (n + m) := by
  rw [Nat.pow_add]
  exact Nat.mul_lt_mul_of_lt_of_lt h1 h2
theorem add_num_lt {x y : Rat} {n m : Nat} (h1 : Wd n x) (h2 : Wd m y) : (x.num * (y.den : Int) + y.num * (x.den : Int)).natAbs < 2 ^ (n + m + 1) ∧ ((x.den : Int) * (y.den : Int)).natAbs < 2 ^ (n + m) := by
  have a1 : (x.num * (y.den : Int)).natAbs < 2 ^ (n + m) := by
    rw [Int.natAbs_mul]; exact lt_mul_pow h1.1 h2.2
  have a2 : (y.num * (x.den : Int)).natAbs < 2 ^ (n + m) := by
    rw [Int.natAbs_mul, Nat.add_comm n m]; exact lt_mul_pow h2.1 h1.2
  have a3 : ((x.den : Int) * (y.den : Int)).natAbs < 2 ^ (n + m) := by
    rw [Int.natAbs_mul]; exact lt_mul_pow h1.2 h2.2
  refine ⟨?_, a3⟩
  have := Int.natAbs_add_le (x.num * (y.den : Int)) (y.num * (x.den : Int))
  have e : 2 ^ (n + m + 1) = 2 ^ (n + m) * 2 := Nat.pow_succ ..
  omega
theorem Wd.add {x y : Rat} {n m : Nat} (h1 : Wd n x) (h2 : Wd m y) : Wd (n + m + 1) (x + y) := by
  rw [← divInt_add]
  obtain ⟨a, b⟩ := add_num_lt h1 h2
  refine wd_divInt ?_ a (Nat.lt_of_lt_of_le b (Nat.pow_le_pow_right (by decide) (by omega)))
  have := x.den_pos
  have := y.den_pos
  exact Int.mul_ne_zero (by omega) (by omega)
theorem mul_num_lt {x y : Rat} {n m : Nat} (h1 : Wd n x) (h2 : Wd m y) : (x.num * y.num).natAbs < 2 ^ (n + m) ∧ ((x.den : Int) * (y.den : Int)).natAbs < 2 ^ (n + m) := by
  rw [Int.natAbs_mul, Int.natAbs_mul]
  exact ⟨lt_mul_pow h1.1 h2.1, lt_mul_pow h1.2 h2.2⟩
theorem Wd.mul {x y : Rat} {n m : Nat} (h1 : Wd n x) (h2 : Wd m y) : Wd (n + m) (x * y) := by
  rw [← divInt_mul]
  obtain ⟨a, b⟩ := mul_num_lt h1 h2
  refine wd_divInt ?_ a b
  have := x.den_pos
  have := y.den_pos
  exact Int.mul_ne_zero (by omega) (by omega)
theorem wd_int {k : Int} {n : Nat} (h : k.natAbs < 2 ^ n) (hn : 0 < n) : Wd n (k : Rat) := by
  refine ⟨by rw [Rat.num_intCast]; exact h, by rw [Rat.den_intCast]; exact Nat.one_lt_two_pow (by omega)⟩
theorem dF_int (k : Int) : dF (k : Rat) = .tuple [.int k, .int 1] := by
  unfold dF
  rw [Rat.num_intCast, Rat.den_intCast]; rfl
theorem dF_zero : dF 0 = .tuple [.int 0, .int 1] := rfl
def Cd (D M : Nat) (x : Rat) : Prop := D ≠ 0 ∧ ∃ n : Int, n.natAbs ≤ M ∧ x = mkRat n D
theorem Cd.wd {D M n : Nat} {x : Rat} (h : Cd D M x) (h1 : D < 2 ^ n) (h2 : M < 2 ^ n) : Wd n x := by
  obtain ⟨h0, k, hk, rfl⟩ := h
  rw [← Rat.divInt_ofNat]
  exact wd_divInt (by omega) (by omega) (by omega)
theorem Cd.add {D M M' : Nat} {x y : Rat} (h : Cd D M x) (h' : Cd D M' y) : Cd D (M + M') (x + y) := by
  obtain ⟨h0, k, hk, rfl⟩ := h
  obtain ⟨_, k', hk', rfl⟩ := h'
  refine ⟨h0, k + k', by have := Int.natAbs_add_le k k'; omega, ?_⟩
  rw [Rat.mkRat_add_mkRat _ _ h0 h0, ← Int.add_mul, Int.mul_comm, Rat.mkRat_mul_left h0]
theorem Cd.zero {D : Nat} (h : D ≠ 0) : Cd D 0 0 := ⟨h, 0, by decide, (Rat.zero_mkRat D).symm⟩
theorem Cd.le {D M M' : Nat} {x : Rat} (h : Cd D M x) (l : M ≤ M') : Cd D M' x := ⟨h.1, h.2.choose, Nat.le_trans h.2.choose_spec.1 l, h.2.choose_spec.2⟩
theorem Cd.mul {D D' M M' : Nat} {x y : Rat} (h : Cd D M x) (h' : Cd D' M' y) : Cd (D * D') (M * M') (x * y) := by
  obtain ⟨h0, k, hk, rfl⟩ := h
  obtain ⟨h0', k', hk', rfl⟩ := h'
  refine ⟨Nat.mul_ne_zero h0 h0', k * k', by rw [Int.natAbs_mul]; exact Nat.mul_le_mul hk hk', ?_⟩
  rw [Rat.mkRat_mul_mkRat]
theorem Cd.wide {D M k : Nat} {x : Rat} (h : Cd D M x) (hk : k ≠ 0) : Cd (k * D) (k * M) x := by
  obtain ⟨h0, n, hn, rfl⟩ := h
  refine ⟨Nat.mul_ne_zero hk h0, k * n, by rw [Int.natAbs_mul]; exact Nat.mul_le_mul (Nat.le_refl _) hn, ?_⟩
  rw [Rat.mkRat_mul_left hk]
theorem Cd.int (k : Int) : Cd 1 k.natAbs (k : Rat) := ⟨by decide, k, Nat.le_refl _, by
  have := (Rat.mkRat_self (k : Rat)).symm
  rwa [Rat.num_intCast, Rat.den_intCast] at this⟩
theorem Cd.self (x : Rat) : Cd x.den x.num.natAbs x := ⟨by have := x.den_pos; omega, x.num, Nat.le_refl _, (Rat.mkRat_self x).symm⟩
end Rk
namespace Rk
open PySem PySem.Spec PyProof.Rows L2
def ItM (K : PySem.W.Frag) (a b : Addr) : It where
  go i H := ∃ (xs ys : List V) (x y : V), SqT K H a xs ∧ SqL K H b ys ∧ xs[i]? = some x ∧ ys[i]? = some y
  yld i H v H' := ∃ q x y, v = .ref q ∧ H q = none ∧ H' = upd H q (.tup [x, y]) ∧ (∀ xs, SqT K H a xs → xs[i]? = some x) ∧ ∀ ys, SqL K H b ys → ys[i]? = some y
  stop i H := ∃ xs ys : List V, SqT K H a xs ∧ SqL K H b ys ∧ i = min xs.length ys.length
def cellsM (z TI TO i1 i2 : Addr) : List Addr := [z, TI, TO, i1, i2]
theorem cellsM_mem {z TI TO i1 i2 c : Addr} : c ∈ cellsM z TI TO i1 i2 ↔ c = z ∨ c = TI ∨ c = TO ∨ c = i1 ∨ c = i2 := by
  unfold cellsM; simp
def StM (z TI TO i1 i2 a b : Addr) (i : Nat) (h : Heap) : Prop := IsZip h z TI TO .none ∧ IsTupOf2 h TI (.ref i1) (.ref i2) ∧ (∃ x y, IsTupOf2 h TO x y) ∧ h.IsTupleIter i1 a i ∧ h.IsListIter i2 b i
theorem StM.look {z TI TO i1 i2 a b : Addr} {i : Nat} {h : Heap} (st : StM z TI TO i1 i2 a b i h) : ∀ c ∈ cellsM z TI TO i1 i2, ∃ o, h.get? c = some o ∧ ∀ v, o.data ≠ .cell v := fun c hc => by
  obtain ⟨s1, s2, ⟨x, y, s3⟩, ⟨o4, s4, _, d4⟩, ⟨o5, s5, _, d5⟩⟩ := st
  rcases cellsM_mem.mp hc with e | e | e | e | e <;> rw [e]
  · exact ⟨_, s1, fun v q => nomatch q⟩
  · exact ⟨_, s2, fun v q => nomatch q⟩
  · exact ⟨_, s3, fun v q => nomatch q⟩
  · exact ⟨o4, s4, fun v q => by rw [d4] at q; exact nomatch q⟩
  · exact ⟨o5, s5, fun v q => by rw [d5] at q; exact nomatch q⟩
theorem turnM {P : Program} {w : World} {K : PySem.W.Frag} {es : List Expr} {kk : Nat} {tpos : Pos} {a b z TI TO i1 i2 : Addr} (S : ZipSep2 z TI TO i1 i2 [i1, a] [i2, b]) (ha : a ≠ i1) (hb : b ≠ i2) :
    Turn P w K (.Tuple es kk tpos) (ItM K a b) (cellsM z TI TO i1 i2) z (StM z TI TO i1 i2 a b) where
  mem := cellsM_mem.mpr (.inl rfl)
  obj i h st := st.look
  keep i h h' st k := by
    have up : ∀ c ∈ cellsM z TI TO i1 i2, ∀ o, h.get? c = some o → h'.get? c = some o := k
    obtain ⟨s1, s2, ⟨x, y, s3⟩, s4, s5⟩ := st
    have m := fun c => (cellsM_mem (z := z) (TI := TI) (TO := TO) (i1 := i1) (i2 := i2) (c := c)).mpr
    exact ⟨up z (m _ (.inl rfl)) _ s1, up TI (m _ (.inr (.inl rfl))) _ s2, ⟨x, y, up TO (m _ (.inr (.inr (.inl rfl)))) _ s3⟩, s4.at (up i1 (m _ (.inr (.inr (.inr (.inl rfl)))))), s5.at (up i2 (m _ (.inr (.inr (.inr (.inr rfl))))))⟩
  item := by
    intro X eP ew eK hc i pins s σ H E I hf st hg
    subst eP ew eK
    obtain ⟨xs, ys, x, y, qa, qb, gx, gy⟩ := hg
    have hl := st.look
    obtain ⟨s1, s2, ⟨x0, y0, s3⟩, s4, s5⟩ := st
    obtain ⟨us, va, pa, _⟩ := I.tuple qa
    obtain ⟨ws, vb, pb, _⟩ := I.list qb
    obtain ⟨u, gu, ru⟩ := va.get gx
    obtain ⟨t, gt, rt⟩ := vb.get gy
    have hh : X.A.in1.handled = none := I.ok.hd hc
    have lu : i < us.toArray.size := by simpa using (List.getElem?_eq_some_iff.mp gu).1
    have lt : i < ws.toArray.size := by simpa using (List.getElem?_eq_some_iff.mp gt).1
    refine wpAny_pyNext_zipD2_item S (Draws.tuple hh i1 a ha us.toArray) (Draws.list hh i2 b hb ws.toArray) s1 s2 s3 ⟨s4, pa⟩ ⟨s5, pb.isList⟩ lu lt fun v1 v2 h1 tk e1 e2 z1 t1 n1 n2 hT hsz hk => ?_
    have e1' : v1 = u := by simp only [List.getElem?_toArray, gu] at e1; exact (Option.some.inj e1).symm
    have e2' : v2 = t := by simp only [List.getElem?_toArray, gt] at e2; exact (Option.some.inj e2).symm
    subst e1' e2'
    refine ⟨_, rfl, wpAny_letOwnedTupleGo_zip (s := { s with heap := h1, toks := tk }) z1 fun h2 z2 sb => ?_⟩
    have zl : z < s.heap.objs.size := Heap.lt_size s1
    have fresh : H s.heap.objs.size = none := I.hok.fresh (Nat.le_refl _)
    have hk2 : ∀ c o, c ∉ cellsM z TI TO i1 i2 → s.heap.get? c = some o → h2.get? c = some o := fun c o nm q => by
      have nz := fun e : c = z => nm (cellsM_mem.mpr (.inl e))
      exact (sb.2 c nz).trans (hk c o nz (fun e => nm (cellsM_mem.mpr (.inr (.inr (.inl e))))) (fun e => nm (cellsM_mem.mpr (.inr (.inr (.inr (.inl e)))))) (fun e => nm (cellsM_mem.mpr (.inr (.inr (.inr (.inr e)))))) q)
    have I2 : Inv X pins σ (upd H s.heap.objs.size (.tup [x, y])) { s with heap := h2, toks := tk } :=
      Inv.turnedNew (t' := tk) I hk2 hf (Nat.le_refl _) ⟨show 2 ≤ sizeLine by decide, [v1, v2], .cons ru (.cons rt .nil), ⟨_, (sb.2 _ (Nat.ne_of_gt zl)).trans hT, rfl, _, rfl⟩⟩
    refine ⟨.ref s.heap.objs.size, _, I2, rfl, ⟨_, x, y, rfl, fresh, rfl, fun l hl => by rw [I.tuple_inj hl qa]; exact gx, fun l hl => by rw [I.list_inj hl qb]; exact gy⟩, ⟨z2, (sb.2 _ S.TIz).trans (hk _ _ S.TIz S.TITO S.TIi1 S.TIi2 s2), ⟨v1, v2, (sb.2 _ S.TOz).trans t1⟩, n1.1.at fun o q => (sb.2 _ (Ne.symm S.zi1)).trans q, n2.1.at fun o q => (sb.2 _ (Ne.symm S.zi2)).trans q⟩, fun c hcm => ?_⟩
    obtain ⟨o, ho, _⟩ := hl c hcm
    rw [upd_ne (Nat.ne_of_lt (Heap.lt_size ho))]
    exact (hf c hcm).1
  done := by
    intro X eP ew eK hc i pins s σ H E I hf st hg
    subst eP ew eK
    obtain ⟨s1, s2, ⟨x0, y0, s3⟩, s4, s5⟩ := st
    obtain ⟨xs, ys, qa, qb, he⟩ := hg
    obtain ⟨us, va, pa, _⟩ := I.tuple qa
    obtain ⟨ws, vb, pb, _⟩ := I.list qb
    have hh : X.A.in1.handled = none := I.ok.hd hc
    have la : xs.length = us.toArray.size := by rw [va.length]; simp
    have lb : ys.length = ws.toArray.size := by rw [vb.length]; simp
    exact wpAny_pyNext_zipD2_end S (Draws.tuple hh i1 a ha us.toArray) (Draws.list hh i2 b hb ws.toArray) s1 s2 s3 ⟨s4, pa⟩ ⟨s5, pb.isList⟩ (by omega) (by omega) (by omega) fun h1 tk hk => ⟨rfl, Inv.turnedL (t' := tk) (ch := cellsM z TI TO i1 i2) I (fun c o nm q =>
      hk c o (fun e => nm (cellsM_mem.mpr (.inl e))) (fun e => nm (cellsM_mem.mpr (.inr (.inr (.inl e))))) (fun e => nm (cellsM_mem.mpr (.inr (.inr (.inr (.inl e)))))) (fun e => nm (cellsM_mem.mpr (.inr (.inr (.inr (.inr e)))))) q) hf⟩
  self A i s Q E st h := wpAny_pyIter_zip st.1 h
def iM (K : PySem.W.Frag) (ta : TA) : TI := fun σ H R => ta σ H fun vs H1 => ∃ a b xs ys, vs = [.ref a, .ref b] ∧ SqT K H1 a xs ∧ SqL K H1 b ys ∧ R (ItM K a b) H1
theorem piM {X : Cx} {e e2 : Expr} {ta : TA} {p pos tpos : Pos} {es : List Expr} {kk : Nat} (hg : Gl X "zip") (hm : X.mg "zip" = none) (ha : PA X [e, e2] ta)
    (hs : starEach [e, e2] X.env = (false, eval e X.env) :: starEach [e2] X.env) (hpl : (backTo pos (starEach [e2] X.env)).any (·.1) = false) : PI X (.Tuple es kk tpos) (.Call (.Name "zip" p) [e, e2] [] pos) (iM X.K ta) := by
  refine ⟨fun pins s σ H R I h => Call_ (ld_blt I hg hm PyProof.Rows.boot_zip (PyProof.Rows.callWith_type1 (thn (ha.run pos pins s σ H _ I h) fun us s1 ⟨vs, H1, I1, r1, a, b, xs, ys, ev, qa, qb, k⟩ => ?_) hs hpl))⟩
  subst ev
  obtain ⟨u1, u2, rfl, r1, r2⟩ := vals2 r1
  cases r1; cases r2
  obtain ⟨cs, va, pa, _⟩ := I1.tuple qa
  obtain ⟨ds, vb, pb, _⟩ := I1.list qb
  obtain ⟨oa, ea, _⟩ := id pa
  have la : a < s1.heap.objs.size := Heap.lt_size ea
  have lb : b < s1.heap.objs.size := pb.lt
  refine zip_begins2 (begins_tuple a cs.toArray) (begins_list b ds.toArray) pa pb.isList fun h1 g1 g2 g3 g4 g5 gs hk => wpAny_pyIter_zip g1 ?_
  have I2 : Inv X pins σ H1 { s1 with heap := h1 } := Inv.kept (t' := s1.toks) I1 hk
  refine ⟨s1.heap.objs.size + 4, cellsM (s1.heap.objs.size + 4) (s1.heap.objs.size + 2) (s1.heap.objs.size + 3) s1.heap.objs.size (s1.heap.objs.size + 1), _, _, H1, rfl, I2, turnM (zip_sep2 (fun c hc => ?_) fun c hc => ?_) (Nat.ne_of_lt la) (show (b : Nat) ≠ s1.heap.objs.size + 1 from Nat.ne_of_lt (Nat.lt_succ_of_lt lb)), ⟨g1, g2, ⟨_, _, g3⟩, ⟨_, g4, rfl, rfl⟩, ⟨_, g5, rfl, rfl⟩⟩, fun c hc => ?_, k⟩
  · rw [List.mem_singleton] at hc; rw [hc]; exact la
  · rw [List.mem_singleton] at hc; rw [hc]; exact lb
  · have le : s1.heap.objs.size ≤ c := by
      rcases cellsM_mem.mp hc with e | e | e | e | e <;> rw [e] <;> first | exact Nat.le_refl _ | exact Nat.le_add_right _ _
    exact I1.fpOk le (I1.hok.fresh le)
section
variable {C : Ct} {ρ : List SV} {b1 b2 : Bool} {e e2 : Expr} {Ds Es : List PyData} {pos p : Pos}
theorem src_zipTL {fr : Bool} {elts : List Expr} {kk : Nat} {tpos : Pos} (hm : C.X.mg "zip" = none) (h : Ev C ρ e b1 (.tuple Ds)) (h' : Ev C ρ e2 b2 (.list Es))
    (hs : starEach [e, e2] C.X.env = (false, eval e C.X.env) :: starEach [e2] C.X.env := by rfl) (hs2 : starEach [e2] C.X.env = (false, eval e2 C.X.env) :: starEach [] C.X.env := by rfl) (hpl : (backTo pos (starEach [e2] C.X.env)).any (·.1) = false := by rfl) (hg : Gl C.X "zip" := by rfl) :
    Src C ρ (.Tuple elts kk tpos) (.Call (.Name "zip" p) [e, e2] [] pos) fr (b1 && b2) (zipD Ds Es) := ⟨_, piM hg hm pa_sem hs hpl, fun Pn F q σ H E R k =>
  semA_of (pa_cons pe_sem (pa_cons pe_sem pa_nil hs2) hs) (ev_two (Q := fun x y H2 => _) h h' E fun v v' H' s r r' => by
    cases r with
    | @tup a xs _ ta ra =>
      cases r' with
      | @lst a2 ys _ tb rb =>
        have la := RpAll.length ra
        have lb := RpAll.length rb
        refine ⟨a, a2, xs, ys, rfl, ta, .of tb.2.1, k _ (fun H2 => SqT C.X.K H2 a xs ∧ SqL C.X.K H2 a2 ys) (YPair (fun i => xs[i]?) (fun i => ys[i]?)) H' s (by
          rw [zipD_len, ← la, ← lb]
          exact ⟨fun i _ hi q => ⟨xs, ys, xs[i]'(by omega), ys[i]'(by omega), q.1, q.2, by simp, by simp⟩, fun _ q => ⟨xs, ys, q.1, q.2, rfl⟩, fun i H v H' _ q y => by
            obtain ⟨T, x, z, h1, h2, h3, h4, h5⟩ := y
            exact ⟨T, x, z, h1, h2, h3, h4 xs q.1, h5 ys q.2⟩⟩) (fun H2 z => ?_) fun n H1 v H2 hn y => ?_⟩
        · have t : Shift H' (Own q F) H2 (fun _ => False) := ⟨fun a o n e => z a o (fun _ => n) e, fun a n => n.elim, (E.grow s).own⟩
          exact ⟨t.tup ta, .of (z _ _ (fun _ => tb.1) tb.2.1)⟩
        · obtain ⟨t, x, y, e1, e2, e3, e4, e5⟩ := y
          subst e1 e3
          obtain ⟨d, hd, rd⟩ := RpAll.get' ra e4
          obtain ⟨f, hf, rf⟩ := RpAll.get' rb e5
          exact ⟨same_upd e2, _, zipD_get hd hf, fun N1 sh => .tup (.of upd_same) (.cons (RV.and (sh.rv rd)) (.cons (RV.and' (sh.rv rf)) .nil))⟩)⟩
end
end Rk
namespace Rk
open PySem PySem.Spec PyProof.Rows L2
def dotQ : List Int → List Rat → Rat
  | n :: ns, q :: qs => (n : Rat) * q + dotQ ns qs
  | _, _ => 0
theorem dotQ_snoc : ∀ {k : Nat} {ns : List Int} {qs : List Rat} {n : Int} {q : Rat}, ns[k]? = some n → qs[k]? = some q → dotQ (ns.take (k + 1)) (qs.take (k + 1)) = dotQ (ns.take k) (qs.take k) + (n : Rat) * q
  | 0, a :: ns, b :: qs, n, q, h1, h2 => by
    simp at h1 h2
    subst h1 h2
    simp [dotQ, Rat.add_comm]
  | k + 1, a :: ns, b :: qs, n, q, h1, h2 => by
    have := dotQ_snoc (k := k) (ns := ns) (qs := qs) (n := n) (q := q) (by simpa using h1) (by simpa using h2)
    show (a : Rat) * b + dotQ (ns.take (k + 1)) (qs.take (k + 1)) = (a : Rat) * b + dotQ (ns.take k) (qs.take k) + _
    rw [this, Rat.add_assoc]
  | 0, [], _, _, _, h1, _ => by simp at h1
  | 0, _ :: _, [], _, _, _, h2 => by simp at h2
  | _ + 1, [], _, _, _, h1, _ => by simp at h1
  | _ + 1, _ :: _, [], _, _, _, h2 => by simp at h2
theorem dotQ_full : ∀ {ns : List Int} {qs : List Rat} {k : Nat}, min ns.length qs.length ≤ k → dotQ (ns.take k) (qs.take k) = dotQ ns qs
  | [], _, k, _ => by simp [dotQ]
  | _ :: _, [], k, _ => by simp [dotQ]
  | a :: ns, b :: qs, 0, h => by simp at h
  | a :: ns, b :: qs, k + 1, h => by
    simp only [List.take_succ_cons, dotQ]
    rw [dotQ_full (by simp at h; omega)]
theorem dotQ_cd {D M N : Nat} (h0 : D ≠ 0) : ∀ {ns : List Int} {qs : List Rat}, (∀ n ∈ ns, n.natAbs ≤ N) → (∀ q ∈ qs, Cd D M q) → Cd D (min ns.length qs.length * (N * M)) (dotQ ns qs)
  | [], _, _, _ => (Cd.zero h0).le (Nat.zero_le _)
  | _ :: _, [], _, _ => (Cd.zero h0).le (Nat.zero_le _)
  | a :: ns, b :: qs, h1, h2 => by
    have i1 := dotQ_cd h0 (ns := ns) (qs := qs) (fun n hn => h1 n (List.mem_cons_of_mem _ hn)) (fun q hq => h2 q (List.mem_cons_of_mem _ hq))
    have i2 := (Cd.int a).mul (h2 b List.mem_cons_self)
    rw [Nat.one_mul] at i2
    have i3 := (i2.le (Nat.mul_le_mul_right M (h1 a List.mem_cons_self))).add i1
    refine i3.le ?_
    have e : min (a :: ns).length (b :: qs).length = min ns.length qs.length + 1 := by simp
    rw [e, Nat.add_mul, Nat.one_mul, Nat.add_comm]
    exact Nat.le_refl _
abbrev lQ (qs : List Rat) : PyData := .list (qs.map dF)
theorem zip_dF {ns : List Int} {qs : List Rat} {k : Nat} {D : PyData} (h : (zipD (ns.map PyData.int) (qs.map dF))[k]? = some D) : ∃ n q, ns[k]? = some n ∧ qs[k]? = some q ∧ D = .tuple [.int n, dF q] := by
  unfold zipD at h
  rw [List.getElem?_zipWith, List.getElem?_map, List.getElem?_map] at h
  cases e1 : ns[k]? with
  | none => rw [e1] at h; simp at h
  | some n =>
    cases e2 : qs[k]? with
    | none => rw [e1, e2] at h; simp at h
    | some q =>
      rw [e1, e2] at h
      exact ⟨n, q, rfl, rfl, (Option.some.inj h).symm⟩
theorem pow_le' {a b : Nat} (h : a ≤ b) : 2 ^ a ≤ 2 ^ b := Nat.pow_le_pow_right (by decide) h
theorem dotQ_wd {D M a : Nat} (h0 : D ≠ 0) {ns : List Int} {qs : List Rat} (h1 : ∀ n ∈ ns, n.natAbs < 2 ^ 32) (h2 : ∀ q ∈ qs, Cd D M q) (h3 : min ns.length qs.length ≤ 31) (hD : D < 2 ^ a) (hM : M < 2 ^ a) : Wd (a + 37) (dotQ ns qs) := by
  refine (dotQ_cd (N := 2 ^ 32) h0 (fun n hn => Nat.le_of_lt (h1 n hn)) h2).wd (Nat.lt_of_lt_of_le hD (pow_le' (by omega))) ?_
  have e : 2 ^ (a + 37) = 32 * (2 ^ 32 * 2 ^ a) := by rw [Nat.pow_add]; omega
  rw [e]
  have : min ns.length qs.length * (2 ^ 32 * M) ≤ 31 * (2 ^ 32 * M) := Nat.mul_le_mul_right _ h3
  omega
end Rk
namespace Rk
open PySem PySem.Spec PyProof.Rows L2
abbrev Prices := List Rat × List Rat × Rat
abbrev dPr (p : Prices) : PyData := .tuple [lQ p.1, lQ p.2.1, dF p.2.2]
def oF : Option Rat → PyData
  | none => .none
  | some q => dF q
structure HOk (h : House) : Prop where
  l1 : h.1.length ≤ 31
  l2 : h.2.length ≤ 31
  n1 : ∀ n ∈ h.1, n.natAbs < 2 ^ 32
  n2 : ∀ n ∈ h.2, n.natAbs < 2 ^ 32
theorem GoodH.hok {far : Int} {h : House} (g : GoodH far h) (hf : far ≤ 1000000000) : HOk h where
  l1 := by have := g.t4; omega
  l2 := by have := g.g4; omega
  n1 n hn := by have := g.tk n hn; omega
  n2 n hn := by have := g.gv n hn; omega
structure PrOk (D M a : Nat) (p : Prices) : Prop where
  d0 : D ≠ 0
  c1 : ∀ q ∈ p.1, Cd D M q
  c2 : ∀ q ∈ p.2.1, Cd D M q
  c3 : Cd D M p.2.2
  hD : D < 2 ^ a
  hM : M < 2 ^ a
  a0 : 0 < a
  a9 : a ≤ 1270
def paidQ (h : House) (p : Prices) : Rat := dotQ h.1 p.1
def earnQ (h : House) (p : Prices) : Rat := dotQ h.2 p.2.1 + p.2.2
theorem PrOk.w1 {D M a : Nat} {p : Prices} {h : House} (P : PrOk D M a p) (G : HOk h) : Wd (a + 37) (paidQ h p) := dotQ_wd P.d0 G.n1 P.c1 (by have := G.l1; omega) P.hD P.hM
theorem PrOk.w2 {D M a : Nat} {p : Prices} {h : House} (P : PrOk D M a p) (G : HOk h) : Wd (a + 37) (dotQ h.2 p.2.1) := dotQ_wd P.d0 G.n2 P.c2 (by have := G.l2; omega) P.hD P.hM
theorem PrOk.w3 {D M a : Nat} {p : Prices} (P : PrOk D M a p) : Wd a p.2.2 := P.c3.wd P.hD P.hM
theorem PrOk.w4 {D M a : Nat} {p : Prices} {h : House} (P : PrOk D M a p) (G : HOk h) : Wd (a + 37 + a + 1) (earnQ h p) := (P.w2 G).add P.w3
theorem num_zero {q : Rat} : q.num = 0 ↔ q = 0 := Rat.num_eq_zero
theorem divInt_div (x y : Rat) : Rat.divInt (x.num * (y.den : Int)) ((x.den : Int) * y.num) = x / y := by
  rw [Rat.div_def, Rat.inv_def, ← Rat.divInt_mul_divInt, Rat.num_divInt_den]
theorem div_num_lt {x y : Rat} {n m : Nat} (h1 : Wd n x) (h2 : Wd m y) : (x.num * (y.den : Int)).natAbs < 2 ^ (n + m) ∧ ((x.den : Int) * y.num).natAbs < 2 ^ (n + m) := by
  rw [Int.natAbs_mul, Int.natAbs_mul]
  exact ⟨lt_mul_pow h1.1 h2.2, lt_mul_pow h1.2 h2.1⟩
theorem Wd.div {x y : Rat} {n m : Nat} (h1 : Wd n x) (h2 : Wd m y) (h0 : y ≠ 0) : Wd (n + m) (x / y) := by
  rw [← divInt_div]
  obtain ⟨a, b⟩ := div_num_lt h1 h2
  exact wd_divInt (Int.mul_ne_zero (by have := x.den_pos; omega) fun z => h0 (num_zero.mp z)) a b
def judQ (h : House) (p : Prices) : Option Rat := if paidQ h p = 0 then none else some (earnQ h p / paidQ h p)
theorem PrOk.wj {D M a : Nat} {p : Prices} {h : House} (P : PrOk D M a p) (G : HOk h) {q : Rat} (e : judQ h p = some q) : Wd 3900 q := by
  unfold judQ at e
  split at e
  · cases e
  · rename_i h0
    cases e
    have := P.a9
    exact ((P.w4 G).div (P.w1 G) h0).le (by omega)
end Rk
namespace Rk
open PySem PySem.Spec PyProof.Rows L2
def seqD (t : Bool) (Ds : List PyData) : PyData := match t with
  | true => .tuple Ds
  | false => .list Ds
section
variable {C : Ct} {ρ : List SV} {b1 b2 : Bool} {e e2 : Expr} {Ds Es : List PyData} {pos p : Pos}
theorem src_zipS {t : Bool} {fr : Bool} {elts : List Expr} {kk : Nat} {tpos : Pos} (hm : C.X.mg "zip" = none) (h : Ev C ρ e b1 (seqD t Ds)) (h' : Ev C ρ e2 b2 (.list Es))
    (hs : starEach [e, e2] C.X.env = (false, eval e C.X.env) :: starEach [e2] C.X.env := by rfl) (hs2 : starEach [e2] C.X.env = (false, eval e2 C.X.env) :: starEach [] C.X.env := by rfl) (hpl : (backTo pos (starEach [e2] C.X.env)).any (·.1) = false := by rfl) (hg : Gl C.X "zip" := by rfl) :
    Src C ρ (.Tuple elts kk tpos) (.Call (.Name "zip" p) [e, e2] [] pos) fr (b1 && b2) (zipD Ds Es) := by
  cases t
  · exact src_zipL hm h h' hs hs2 hpl hg
  · exact src_zipTL hm h h' hs hs2 hpl hg
end
structure Sm (D M : Nat) (x : Rat) (t b : Int) : Prop where
  b0 : 0 < b
  dv : b.natAbs ∣ D
  eq : Rat.divInt t b = x
  tm : t.natAbs ≤ M
theorem cd_top {D M : Nat} {x : Rat} {t b : Int} (h : Cd D M x) (b0 : 0 < b) (dv : b.natAbs ∣ D) (eq : Rat.divInt t b = x) : t.natAbs ≤ M := by
  obtain ⟨h0, n, hn, rfl⟩ := h
  obtain ⟨c, hc⟩ := dv
  have c0 : c ≠ 0 := fun z => h0 (by rw [hc, z, Nat.mul_zero])
  have eb : b = (b.natAbs : Int) := by omega
  rw [eb, Rat.divInt_ofNat, Rat.mkRat_eq_iff (by omega) h0] at eq
  have hD : (D : Int) = (b.natAbs : Int) * (c : Int) := by rw [hc]; simp
  rw [hD, ← Int.mul_assoc, Int.mul_comm t, Int.mul_assoc, Int.mul_comm n] at eq
  have e := Int.eq_of_mul_eq_mul_left (by omega : (b.natAbs : Int) ≠ 0) eq
  rw [← e, Int.natAbs_mul] at hn
  have : 1 ≤ (c : Int).natAbs := by omega
  exact Nat.le_trans (Nat.le_mul_of_pos_right _ this) hn
theorem sum_step {t b n : Int} {q : Rat} {g : Nat} (b0 : 0 < b) (hg : g = Nat.gcd b.natAbs q.den) :
    Rat.divInt (t * ((q.den : Int) / (g : Int)) + n * q.num * (b / (g : Int))) (b / (g : Int) * (q.den : Int)) = Rat.divInt t b + (n : Rat) * q ∧ 0 < b / (g : Int) * (q.den : Int) ∧ (b / (g : Int) * (q.den : Int)).natAbs = Nat.lcm b.natAbs q.den := by
  have d0 := q.den_pos
  have g1 : g ∣ b.natAbs := hg ▸ Nat.gcd_dvd_left _ _
  have g2 : g ∣ q.den := hg ▸ Nat.gcd_dvd_right _ _
  have g0 : 0 < g := Nat.pos_of_dvd_of_pos g2 d0
  obtain ⟨u, hu⟩ := g1
  obtain ⟨v, hv⟩ := g2
  have eb : b = (g : Int) * (u : Int) := by have : b = (b.natAbs : Int) := by omega
                                            rw [this, hu]; simp
  have ev : (q.den : Int) = (g : Int) * (v : Int) := by rw [hv]; simp
  have u0 : 0 < (u : Int) := by
    have : u ≠ 0 := fun z => by rw [z, Nat.mul_zero] at hu; omega
    omega
  have v0 : 0 < (v : Int) := by
    have : v ≠ 0 := fun z => by rw [z, Nat.mul_zero] at hv; omega
    omega
  have gi : (g : Int) ≠ 0 := by omega
  have e1 : b / (g : Int) = u := by rw [eb]; exact Int.mul_ediv_cancel_left _ gi
  have e2 : (q.den : Int) / (g : Int) = v := by rw [ev]; exact Int.mul_ediv_cancel_left _ gi
  refine ⟨?_, ?_, ?_⟩
  · rw [e1, e2]
    have hn : (n : Rat) * q = Rat.divInt (n * q.num) (q.den : Int) := by
      have h1 := Rat.divInt_mul_divInt n q.num (d₁ := 1) (d₂ := (q.den : Int))
      rw [Rat.num_divInt_den, Int.one_mul] at h1
      rw [← h1]
      congr 1
      exact (Rat.num_divInt_den (n : Rat)).symm.trans (by rw [Rat.num_intCast, Rat.den_intCast]; rfl)
    rw [hn, Rat.divInt_add_divInt _ _ (by omega) (by omega), eb, ev]
    have z := Rat.divInt_mul_left (n := t * (v : Int) + n * q.num * (u : Int)) (d := (u : Int) * ((g : Int) * (v : Int))) (a := (g : Int)) gi
    rw [← z]
    congr 1 <;> grind
  · rw [e1]; exact Int.mul_pos u0 (by omega)
  · rw [e1, Int.natAbs_mul]
    show u * q.den = _
    unfold Nat.lcm
    rw [← hg, hu, Nat.mul_assoc, Nat.mul_div_cancel_left _ g0]
theorem Sm.step {D M M' : Nat} {x : Rat} {t b n : Int} {q : Rat} {g : Nat} (S : Sm D M x t b) (hq : q.den ∣ D) (hg : g = Nat.gcd b.natAbs q.den) (hx : Cd D M' (x + (n : Rat) * q)) :
    Sm D M' (x + (n : Rat) * q) (t * ((q.den : Int) / (g : Int)) + n * q.num * (b / (g : Int))) (b / (g : Int) * (q.den : Int)) := by
  obtain ⟨h1, h2, h3⟩ := sum_step (t := t) (n := n) S.b0 hg
  rw [S.eq] at h1
  have dv := Nat.lcm_dvd S.dv hq
  rw [← h3] at dv
  exact ⟨h2, dv, h1, cd_top hx h2 dv h1⟩
theorem dotQ_app : ∀ {ns : List Int} {qs : List Rat} {n : Int} {q : Rat}, ns.length = qs.length → dotQ (ns ++ [n]) (qs ++ [q]) = dotQ ns qs + (n : Rat) * q
  | [], [], n, q, _ => by simp [dotQ, Rat.add_comm]
  | a :: ns, b :: qs, n, q, h => by
    show (a : Rat) * b + dotQ (ns ++ [n]) (qs ++ [q]) = (a : Rat) * b + dotQ ns qs + _
    rw [dotQ_app (by simpa using h), Rat.add_assoc]
  | [], _ :: _, _, _, h => by simp at h
  | _ :: _, [], _, _, h => by simp at h
end Rk
namespace Rk
open PySem PySem.Spec PyProof.Rows L2
section
variable {C : Ct} {ρ : List SV} {b b1 b2 : Bool} {e : Expr} {pos p : Pos}
theorem src_rangeN {n : Nat} {tg : Expr} {fr : Bool} (hm : C.X.mg "range" = none) (h : Ev C ρ e b1 (.int (n : Nat))) (hn : n ≤ 1000000) (hs : starEach [e] C.X.env = [(false, eval e C.X.env)] := by rfl) (hg : Gl C.X "range" := by rfl) : Src C ρ tg (.Call (.Name "range" p) [e] [] pos) fr b ((List.range n).map fun i => .int ((i : Nat) : Int)) := by
  have h1 := src_range1 (b := b) (tg := tg) (fr := fr) (p := p) (pos := pos) hm h (by omega) (by omega) hs hg
  have e : rangeD 0 ((n : Nat) : Int).toNat = (List.range n).map fun i => .int ((i : Nat) : Int) := by
    unfold rangeD
    rw [Int.toNat_natCast]
    refine List.map_congr_left fun i _ => ?_
    rw [Int.zero_add]
  rwa [e] at h1
end
theorem atI_mapN {α : Type} {f : α → PyData} {xs : List α} {k : Nat} (d : α) (h : k < xs.length) : atI (xs.map f) ((k : Nat) : Int) = some (f (xs.getD k d)) := by
  refine atI_nat ?_
  rw [List.getElem?_map, List.getElem?_eq_getElem h, List.getD, List.getElem?_eq_getElem h] <;> rfl
end Rk
namespace Rk
open PySem PySem.Spec PyProof.Rows L2
theorem lookup_fv {f : Str} {x : FV} : ∀ {Fs : List Fd}, (fvOf Fs).lookup f = some x → ∃ v, (fsOf Fs).lookup f = some v ∧ ∃ t ∈ Fs, t.1 = f ∧ t.2.1 = v ∧ t.2.2 = x
  | [], h => nomatch h
  | (g, v, y) :: Fs, h => by
    simp only [fvOf, fsOf, List.map_cons, List.lookup] at h ⊢
    by_cases e : f = g
    · subst e
      simp only [beq_self_eq_true, Option.some.injEq] at h ⊢
      exact ⟨v, rfl, _, List.mem_cons_self, rfl, rfl, h⟩
    · have : (f == g) = false := beq_eq_false_iff_ne.mpr e
      simp only [this] at h ⊢
      obtain ⟨v', h1, t, ht, h2⟩ := lookup_fv h
      exact ⟨v', h1, t, List.mem_cons_of_mem _ ht, h2⟩
theorem lookup_fv_none {f : Str} : ∀ {Fs : List Fd}, (fvOf Fs).lookup f = none → (fsOf Fs).lookup f = none
  | [], _ => rfl
  | (g, v, y) :: Fs, h => by
    simp only [fvOf, fsOf, List.map_cons, List.lookup] at h ⊢
    by_cases e : f = g
    · subst e; simp at h
    · have : (f == g) = false := beq_eq_false_iff_ne.mpr e
      simp only [this] at h ⊢
      exact lookup_fv_none h
theorem EnvQ.at_ob {K : PySem.W.Frag} {H0 Pn H : Hp} {F : Addr → Prop} {σ : L2.St} {ρ : List SV} {q : Qn} {i : Nat} {a C : Addr} {fv : List (Str × FV)} {G : List (Addr × HO)} (E : EnvQ K H0 Pn H σ ρ F q) (h : ρ[i]? = some (.ob a C fv G)) :
    σ[i]? = some (some (.ref a)) ∧ ObOk K H0 H (Own q F) a C fv G (q i) := by
  have hs := E.slot i _ h
  generalize σ[i]? = x at hs
  generalize q i = l at hs
  cases hs with
  | ob h => exact ⟨rfl, h⟩
structure ClsA (K : PySem.W.Frag) (C : Addr) (names : List Str) : Prop where
  cl : Cls K C
  no : ∀ f ∈ names, NoAttr K C f
section
variable {C : Ct} {ρ : List SV} {b b' b1 b2 : Bool} {e e2 a c : Expr} {rest : List Stmt} {D : PyData} {Ds Es : List PyData} {pos p p1 p2 p3 : Pos} {i j : Int} {T : Tn} {k n : Nat} {A Cl : Addr} {fv : List (Str × FV)} {G : List (Addr × HO)} {f x : Str} {ns : List Str}
theorem fld_at {F : Addr → Prop} {q : Qn} {σ : L2.St} {Pn H : Hp} {y : FV} {Q : VK} (he : PE C.X e (tVar n)) (cl : ClsA C.X.K Cl ns) (hn : ρ[n]? = some (.ob A Cl fv G)) (hf : fv.lookup f = some y) (hin : f ∈ ns)
    (hb : attributeBase e f C.X.env (eval e C.X.env) = eval e C.X.env) (E : C.Env Pn H σ ρ F q) (k : ∀ v, FldOk C.X.K C.H0 H (Own q F) v y → (∀ p, v = .ref p → (∃ Ds, y = .o Ds) → p ∈ q n) → Q v H) : semE C.X (.Attribute e f pos) σ H Q := by
  obtain ⟨hσ, O⟩ := E.at_ob hn
  obtain ⟨dx, Fs, ef, el, e1, e2, hfl, nd, hg, hl⟩ := O.ex
  rw [ef] at hf
  obtain ⟨v, h1, t, ht, h2, h3, h4⟩ := lookup_fv hf
  have hk := hfl t ht
  rw [h3, h4] at hk
  refine semE_of (pe_fld he hb) ⟨_, hσ, A, Cl, dx, _, v, rfl, e1, cl.cl, cl.no f hin, h1, k v hk fun p hp hx => ?_⟩
  have := mem_ownFd ht (h3.trans hp) (by rw [h4]; exact hx)
  rw [el]
  simp only [List.mem_cons, List.mem_append]
  exact .inr (.inr (.inl this))
theorem ev_fld (he : PE C.X e (tVar n)) (cl : ClsA C.X.K Cl ns) (hn : ρ[n]? = some (.ob A Cl fv G)) (hf : fv.lookup f = some (.d D)) (hin : f ∈ ns := by decide +kernel)
    (hb : attributeBase e f C.X.env (eval e C.X.env) = eval e C.X.env := by rfl) : Ev C ρ (.Attribute e f pos) false D := .mk fun Pn F q σ H E =>
  fld_at he cl hn hf hin hb E fun v hv _ => by
    cases hv with
    | d r => exact ⟨Same.refl _, r⟩
theorem ev_fldI (he : PE C.X e (tVar n)) (cl : ClsA C.X.K Cl ns) (hn : ρ[n]? = some (.ob A Cl fv G)) (hf : fv.lookup f = some (.d (.int i))) (hin : f ∈ ns := by decide +kernel)
    (hb : attributeBase e f C.X.env (eval e C.X.env) = eval e C.X.env := by rfl) : Ev C ρ (.Attribute e f pos) true (.int i) := (ev_fld he cl hn hf hin hb).flat rfl
theorem bx_fld (he : PE C.X e (tVar n)) (cl : ClsA C.X.K Cl ns) (hn : ρ[n]? = some (.ob A Cl fv G)) (hf : fv.lookup f = some (.o Ds)) (hin : f ∈ ns := by decide +kernel)
    (hb : attributeBase e f C.X.env (eval e C.X.env) = eval e C.X.env := by rfl) : Bx C ρ (.Attribute e f pos) false Ds := .mk fun Pn F q σ H E =>
  fld_at he cl hn hf hin hb E fun v hv _ => by
    cases hv with
    | o e1 r => exact ⟨Same.refl _, _, _, rfl, e1, r⟩
end
def putT (f : Str) (y : V) (x : FV) : List Fd → List Fd
  | [] => [(f, y, x)]
  | (g, z, w) :: r => if g = f then (g, y, x) :: r else (g, z, w) :: putT f y x r
def putV (f : Str) (x : FV) : List (Str × FV) → List (Str × FV)
  | [] => [(f, x)]
  | (g, w) :: r => if g = f then (g, x) :: r else (g, w) :: putV f x r
theorem fs_putT {f : Str} {y : V} {x : FV} : ∀ Fs : List Fd, fsOf (putT f y x Fs) = putF f y (fsOf Fs)
  | [] => rfl
  | (g, z, w) :: r => by
    show fsOf (if g = f then _ else _) = (if g = f then _ else _)
    split
    · rfl
    · show _ :: fsOf (putT f y x r) = _ :: putF f y (fsOf r)
      rw [fs_putT r]
theorem fv_putT {f : Str} {y : V} {x : FV} : ∀ Fs : List Fd, fvOf (putT f y x Fs) = putV f x (fvOf Fs)
  | [] => rfl
  | (g, z, w) :: r => by
    show fvOf (if g = f then _ else _) = (if g = f then _ else _)
    split
    · rfl
    · show _ :: fvOf (putT f y x r) = _ :: putV f x (fvOf r)
      rw [fv_putT r]
theorem len_putT {f : Str} {y : V} {x : FV} : ∀ Fs : List Fd, (putT f y x Fs).length ≤ Fs.length + 1
  | [] => Nat.le_refl _
  | (g, z, w) :: r => by
    have := len_putT (f := f) (y := y) (x := x) r
    show (if g = f then _ else _ : List Fd).length ≤ _
    split
    · simp
    · simp only [List.length_cons]; omega
theorem mem_putT {f : Str} {y : V} {x : FV} : ∀ {Fs : List Fd} {t : Fd}, t ∈ putT f y x Fs → t ∈ Fs ∨ (t.2.1 = y ∧ t.2.2 = x)
  | [], t, h => by
    simp only [putT, List.mem_singleton] at h
    subst h; exact .inr ⟨rfl, rfl⟩
  | (g, z, w) :: r, t, h => by
    unfold putT at h
    split at h
    · rcases List.mem_cons.mp h with h | h
      · subst h; exact .inr ⟨rfl, rfl⟩
      · exact .inl (List.mem_cons_of_mem _ h)
    · rcases List.mem_cons.mp h with h | h
      · subst h; exact .inl List.mem_cons_self
      · exact (mem_putT h).imp (List.mem_cons_of_mem _) id
def newFd (y : V) (x : FV) : List Addr := ownFd ("", y, x)
theorem ownFd_name {g : Str} {y : V} {x : FV} : ownFd (g, y, x) = newFd y x := by
  unfold newFd
  cases y <;> cases x <;> rfl
theorem own_putT {f : Str} {y : V} {x : FV} : ∀ {Fs : List Fd}, (∀ p ∈ (putT f y x Fs).flatMap ownFd, p ∈ Fs.flatMap ownFd ∨ p ∈ newFd y x) ∧ ((Fs.flatMap ownFd).Nodup → (newFd y x).Nodup → (∀ p ∈ newFd y x, p ∉ Fs.flatMap ownFd) → ((putT f y x Fs).flatMap ownFd).Nodup)
  | [] => by
    show (∀ p ∈ [(f, y, x)].flatMap ownFd, _) ∧ _
    rw [List.flatMap_singleton, ownFd_name]
    refine ⟨fun p hp => .inr hp, fun _ h _ => ?_⟩
    show ([(f, y, x)].flatMap ownFd).Nodup
    rw [List.flatMap_singleton, ownFd_name]
    exact h
  | (g, z, w) :: r => by
    obtain ⟨i1, i2⟩ := own_putT (f := f) (y := y) (x := x) (Fs := r)
    unfold putT
    split
    · simp only [List.flatMap_cons]
      rw [ownFd_name]
      refine ⟨fun p hp => ?_, fun h1 h2 h3 => ?_⟩
      · rcases List.mem_append.mp hp with hp | hp
        · exact .inr hp
        · exact .inl (List.mem_append_right _ hp)
      · refine List.nodup_append.mpr ⟨h2, (List.nodup_append.mp h1).2.1, fun a ha c hc => ?_⟩
        rintro rfl
        exact h3 a ha (List.mem_append_right _ hc)
    · simp only [List.flatMap_cons]
      refine ⟨fun p hp => ?_, fun h1 h2 h3 => ?_⟩
      · rcases List.mem_append.mp hp with hp | hp
        · exact .inl (List.mem_append_left _ hp)
        · exact (i1 p hp).imp (List.mem_append_right _) id
      · obtain ⟨n1, n2, n3⟩ := List.nodup_append.mp h1
        refine List.nodup_append.mpr ⟨n1, i2 n2 h2 fun p hp hq => h3 p hp (List.mem_append_right _ hq), fun a ha c hc => ?_⟩
        rintro rfl
        rcases i1 a hc with q | q
        · exact n3 a ha a q rfl
        · exact h3 a q (List.mem_append_left _ ha)
theorem EnvQ.writeG {K : PySem.W.Frag} {H0 Pn H : Hp} {F F' : Addr → Prop} {σ : L2.St} {ρ : List SV} {q : Qn} {i : Nat} {s' : SV} {r : Addr} {o : HO} (E : EnvQ K H0 Pn H σ ρ F q) (hi : i < ρ.length) (hr : r ∈ q i) (l' : List Addr) (hl' : ∀ a ∈ l', a ∈ q i ∨ F a) (hF : ∀ a, F' a → F a ∧ a ∉ l')
    (ho : (∀ xs, o ≠ .tup xs) ∧ ∀ ob u, o ≠ .frz ob u) (hs : SlotOk K H0 (upd H r o) (Own q F) σ[i]? s' l') : EnvQ K H0 Pn (upd H r o) σ (ρ.set i s') F' (clr q i l') := by
  have or' : Own q F r := .inr ⟨i, hr⟩
  have sub : ∀ a, Own (clr q i l') F' a → Own q F a := fun a n => by
    rcases n with n | ⟨j, n⟩
    · exact .inl (hF a n).1
    · by_cases e : j = i
      · subst e; rw [clr_same] at n
        rcases hl' a n with z | z
        · exact .inr ⟨j, z⟩
        · exact .inl z
      · rw [clr_ne e] at n; exact .inr ⟨j, n⟩
  have own' : OwnOk (upd H r o) (Own q F) := fun a n => by
    by_cases e : a = r
    · subst e; exact ⟨_, upd_same, ho⟩
    · rw [upd_ne e]; exact E.own a n
  have t : Shift H (Own q F) (upd H r o) (Own (clr q i l') F') := ⟨fun a o n e => by rw [upd_ne (fun z => n (by rw [z]; exact or'))]; exact e, fun a n => .inl (sub a n), E.own⟩
  have t2 : Shift (upd H r o) (Own q F) (upd H r o) (Own (clr q i l') F') := ⟨fun a o n e => e, fun a n => .inl (sub a n), own'⟩
  refine ⟨by simp [E.len], fun j u h => ?_, fun j k a h1 h2 => ?_, fun j h => ?_, fun a o e => ?_, E.base, fun a n => E.new a (sub a n), fun a j n => ?_, fun a n => own' a (sub a n)⟩
  · by_cases e : j = i
    · subst e
      rw [List.getElem?_set_self hi] at h
      cases h
      rw [clr_same]
      exact hs.shift t2 (fun _ _ => rfl)
    · rw [List.getElem?_set_ne (Ne.symm e)] at h
      rw [clr_ne e]
      refine (E.slot j u h).shift t (fun a ha => upd_ne ?_)
      rintro rfl
      exact e (E.inj j i _ ha hr)
  · by_cases e1 : j = i
    · subst e1
      by_cases e2 : k = j
      · exact e2.symm
      · rw [clr_same] at h1; rw [clr_ne e2] at h2
        rcases hl' a h1 with z | z
        · exact absurd (E.inj k j a h2 z) e2
        · exact absurd h2 (E.dis a k z)
    · by_cases e2 : k = i
      · subst e2
        rw [clr_same] at h2; rw [clr_ne e1] at h1
        rcases hl' a h2 with z | z
        · exact absurd (E.inj j k a h1 z) e1
        · exact absurd h1 (E.dis a j z)
      · rw [clr_ne e1] at h1; rw [clr_ne e2] at h2
        exact E.inj j k a h1 h2
  · have : j ≠ i := by
      intro e; subst e
      simp at h; omega
    rw [clr_ne this]
    exact E.out j (by simpa using h)
  · rw [upd_ne (fun z => by rw [z, E.new r or'] at e; cases e)]
    exact E.same a o e
  · by_cases e : j = i
    · subst e; rw [clr_same]; exact (hF a n).2
    · rw [clr_ne e]; exact E.dis a j (hF a n).1
theorem clr_self {q : Qn} {i : Nat} : clr q i (q i) = q := by
  funext j
  by_cases e : j = i
  · subst e; exact clr_same
  · exact clr_ne e
section
variable {K : PySem.W.Frag} {H0 Pn H : Hp} {σ : L2.St} {ρ : List SV} {q : Qn} {n : Nat} {A Cl dx : Addr} {fv : List (Str × FV)} {G : List (Addr × HO)} {Fs : List Fd} {f : Str} {y : V} {x : FV} {F : Addr → Prop}
theorem EnvQ.setFd (E : EnvQ K H0 Pn H σ ρ F q) (hn : ρ[n]? = some (.ob A Cl (fvOf Fs) G)) (el : q n = A :: dx :: (Fs.flatMap ownFd ++ G.map (·.1))) (e1 : H A = some (.ins Cl dx (fsOf Fs))) (e2 : H dx = some (.own A))
    (hfl : ∀ t ∈ Fs, FldOk K H0 H (Own q F) t.2.1 t.2.2) (nd : (A :: dx :: Fs.flatMap ownFd).Nodup) (hg : ∀ g ∈ G, H g.1 = some g.2 ∧ g.1 ∉ A :: dx :: Fs.flatMap ownFd) (hl : Fs.length ≤ 20)
    (hy : FldOk K H0 H (Own q F) y x) (hnew : ∀ p ∈ newFd y x, F p) : EnvQ K H0 Pn (upd H A (.ins Cl dx (putF f y (fsOf Fs)))) σ (ρ.set n (.ob A Cl (putV f x (fvOf Fs)) G)) (fun a => F a ∧ a ∉ newFd y x) (clr q n (A :: dx :: ((putT f y x Fs).flatMap ownFd ++ G.map (·.1)))) := by
  have hi : n < ρ.length := (List.getElem?_eq_some_iff.mp hn).1
  have hσ := (E.at_ob hn).1
  have mA : A ∈ q n := by rw [el]; simp
  obtain ⟨i1, i2⟩ := own_putT (f := f) (y := y) (x := x) (Fs := Fs)
  have oA : Own q F A := .mem mA
  have t : Shift H (Own q F) (upd H A (.ins Cl dx (putF f y (fsOf Fs)))) (Own q F) := ⟨fun a o n e => by rw [upd_ne (fun z => n (by rw [z]; exact oA))]; exact e, fun a n => .inl n, E.own⟩
  have dis : ∀ p, F p → p ∉ q n := fun p hp => E.dis p n hp
  simp only [List.nodup_cons, List.mem_cons, not_or] at nd
  have memq : ∀ p, p ∈ Fs.flatMap ownFd → p ∈ q n := fun p hp => by rw [el]; simp only [List.mem_cons, List.mem_append]; exact .inr (.inr (.inl hp))
  have ok : FldOk K H0 H (Own q F) y x → FldOk K H0 (upd H A (.ins Cl dx (putF f y (fsOf Fs)))) (Own q F) y x := fun h => h.shift t fun p hp hx => upd_ne fun z => by
    have : p ∈ newFd y x := by
      obtain ⟨Ds, hx⟩ := hx
      rw [hp, hx]; simp [newFd, ownFd]
    exact dis p (hnew p this) (by rw [z]; exact mA)
  refine E.writeG hi mA _ (fun a ha => ?_) (fun a ha => ⟨ha.1, fun hm => ?_⟩) ⟨(fun _ z => nomatch z), (fun _ _ z => nomatch z)⟩ ?_
  · simp only [List.mem_cons, List.mem_append] at ha
    rcases ha with ha | ha | ha | ha
    · exact .inl (by rw [ha]; exact mA)
    · exact .inl (by rw [ha, el]; simp)
    · rcases i1 a ha with z | z
      · exact .inl (memq a z)
      · exact .inr (hnew a z)
    · exact .inl (by rw [el]; simp only [List.mem_cons, List.mem_append]; exact .inr (.inr (.inr ha)))
  · simp only [List.mem_cons, List.mem_append] at hm
    rcases hm with hm | hm | hm | hm
    · exact dis a ha.1 (by rw [hm]; exact mA)
    · exact dis a ha.1 (by rw [hm, el]; simp)
    · rcases i1 a hm with z | z
      · exact dis a ha.1 (memq a z)
      · exact ha.2 z
    · exact dis a ha.1 (by rw [el]; simp only [List.mem_cons, List.mem_append]; exact .inr (.inr (.inr hm)))
  · rw [hσ]
    have nAn : ∀ p ∈ newFd y x, p ∉ q n := fun p hp => dis p (hnew p hp)
    have dxA : dx ≠ A := fun z => nd.1.1 z.symm
    have noA : ∀ p, p ∈ (putT f y x Fs).flatMap ownFd → p ≠ A ∧ p ≠ dx := fun p hp => by
      rcases i1 p hp with z | z
      · exact ⟨fun w => nd.1.2 (by rw [← w]; exact z), fun w => nd.2.1 (by rw [← w]; exact z)⟩
      · exact ⟨fun w => nAn p z (by rw [w]; exact mA), fun w => nAn p z (by rw [w, el]; simp)⟩
    refine .ob ⟨dx, putT f y x Fs, (fv_putT Fs).symm, rfl, by rw [upd_same, fs_putT], by rw [upd_ne dxA]; exact e2, fun u hu => ?_, ?_, fun g hgm => ?_, by have := len_putT (f := f) (y := y) (x := x) Fs; omega⟩
    · rcases mem_putT hu with hu | ⟨h1, h2⟩
      · exact (hfl u hu).shift t fun p hp hx => upd_ne fun z => nd.1.2 (by rw [← z]; exact mem_ownFd hu hp hx)
      · rw [h1, h2]; exact ok hy
    · simp only [List.nodup_cons, List.mem_cons, not_or]
      refine ⟨⟨nd.1.1, fun z => (noA _ z).1 rfl⟩, fun z => (noA _ z).2 rfl, i2 nd.2.2 (by unfold newFd; cases y <;> cases x <;> simp [ownFd]) fun p hp hq => nAn p hp (memq p hq)⟩
    · obtain ⟨g1, g2⟩ := hg g hgm
      simp only [List.mem_cons, not_or] at g2 ⊢
      refine ⟨by rw [upd_ne g2.1]; exact g1, g2.1, g2.2.1, fun hq => ?_⟩
      rcases i1 _ hq with z | z
      · exact g2.2.2 z
      · refine nAn _ z ?_
        rw [el]
        simp only [List.mem_cons, List.mem_append]
        exact .inr (.inr (.inr (List.mem_map_of_mem hgm)))
end
end Rk
namespace Rk
open PySem PySem.Spec PyProof.Rows L2
theorem putT_own {f : Str} {p : Addr} {Ds Es : List PyData} : ∀ {Fs : List Fd}, (fvOf Fs).lookup f = some (.o Ds) → (fsOf Fs).lookup f = some (.ref p) →
    fsOf (putT f (.ref p) (.o Es) Fs) = fsOf Fs ∧ (putT f (.ref p) (.o Es) Fs).flatMap ownFd = Fs.flatMap ownFd ∧ p ∈ Fs.flatMap ownFd ∧
      ((Fs.flatMap ownFd).Nodup → ∀ t ∈ putT f (.ref p) (.o Es) Fs, (t.2.1 = .ref p ∧ t.2.2 = .o Es) ∨ (t ∈ Fs ∧ p ∉ ownFd t))
  | [], h, _ => nomatch h
  | (g, v, y) :: r, h1, h2 => by
    simp only [fvOf, fsOf, List.map_cons, List.lookup] at h1 h2
    by_cases e : f = g
    · subst e
      simp only [beq_self_eq_true, Option.some.injEq] at h1 h2
      subst h1 h2
      have ep : putT f (.ref p) (.o Es) ((f, V.ref p, FV.o Ds) :: r) = (f, .ref p, .o Es) :: r := if_pos rfl
      rw [ep]
      refine ⟨rfl, rfl, by simp [ownFd], fun nd t ht => ?_⟩
      rcases List.mem_cons.mp ht with ht | ht
      · subst ht; exact .inl ⟨rfl, rfl⟩
      · refine .inr ⟨List.mem_cons_of_mem _ ht, fun hp => ?_⟩
        simp only [List.flatMap_cons] at nd
        have := (List.nodup_append.mp nd).2.2 p (by simp [ownFd]) p (List.mem_flatMap.mpr ⟨t, ht, hp⟩)
        exact this rfl
    · have hb : (f == g) = false := beq_eq_false_iff_ne.mpr e
      simp only [hb] at h1 h2
      obtain ⟨i1, i2, i3, i4⟩ := putT_own (Fs := r) (Es := Es) h1 h2
      have ep : putT f (.ref p) (.o Es) ((g, v, y) :: r) = (g, v, y) :: putT f (.ref p) (.o Es) r := if_neg fun z => e z.symm
      rw [ep]
      refine ⟨?_, ?_, ?_, fun nd t ht => ?_⟩
      · show _ :: fsOf (putT _ _ _ r) = _ :: fsOf r
        rw [i1]
      · simp only [List.flatMap_cons]; rw [i2]
      · simp only [List.flatMap_cons]; exact List.mem_append_right _ i3
      · simp only [List.flatMap_cons] at nd
        obtain ⟨n1, n2, n3⟩ := List.nodup_append.mp nd
        rcases List.mem_cons.mp ht with ht | ht
        · subst ht
          exact .inr ⟨List.mem_cons_self, fun hp => n3 p hp p i3 rfl⟩
        · exact (i4 n2 t ht).imp id fun z => ⟨List.mem_cons_of_mem _ z.1, z.2⟩
section
variable {K : PySem.W.Frag} {H0 Pn H : Hp} {σ : L2.St} {ρ : List SV} {q : Qn} {n : Nat} {A Cl : Addr} {fv : List (Str × FV)} {G : List (Addr × HO)} {f : Str} {F : Addr → Prop} {Ds : List PyData}
theorem EnvQ.atFd (E : EnvQ K H0 Pn H σ ρ F q) (hn : ρ[n]? = some (.ob A Cl fv G)) (hf : fv.lookup f = some (.o Ds)) : ∃ (p dx : Addr) (fs : List (Str × V)) (vs : List V), H A = some (.ins Cl dx fs) ∧ fs.lookup f = some (.ref p) ∧ H p = some (.lst vs) ∧ RA K false H0 H (Own q F) vs Ds ∧ p ∈ q n ∧
    ∀ (ws : List V) (Es : List PyData), RA K false H0 H (Own q F) ws Es → EnvQ K H0 Pn (upd H p (.lst ws)) σ (ρ.set n (.ob A Cl (putV f (.o Es) fv) G)) F q := by
  obtain ⟨hσ, O⟩ := E.at_ob hn
  obtain ⟨dx, Fs, ef, el, e1, e2, hfl, nd, hg, hl⟩ := O.ex
  have hi : n < ρ.length := (List.getElem?_eq_some_iff.mp hn).1
  rw [ef] at hf
  obtain ⟨v, h1, t, ht, h2, h3, h4⟩ := lookup_fv hf
  have hk := hfl t ht
  rw [h3, h4] at hk
  cases hk with
  | @o p vs _ hp r =>
    simp only [List.nodup_cons, List.mem_cons, not_or] at nd
    obtain ⟨_, _, i3, _⟩ := putT_own (Es := Ds) hf h1
    have mp : p ∈ q n := by rw [el]; simp only [List.mem_cons, List.mem_append]; exact .inr (.inr (.inl i3))
    refine ⟨p, dx, fsOf Fs, vs, e1, h1, hp, r, mp, fun ws Es rr => ?_⟩
    obtain ⟨j1, j2, _, j4⟩ := putT_own (Es := Es) hf h1
    have op : Own q F p := .mem mp
    have t : Shift H (Own q F) (upd H p (.lst ws)) (Own q F) := ⟨fun a o n e => by rw [upd_ne (fun z => n (by rw [z]; exact op))]; exact e, fun a n => .inl n, E.own⟩
    have nA : A ≠ p := fun z => nd.1.2 (by rw [z]; exact i3)
    have nx : dx ≠ p := fun z => nd.2.1 (by rw [z]; exact i3)
    have key := E.writeG (F' := F) (s' := .ob A Cl (putV f (.o Es) fv) G) hi mp (q n) (fun a ha => .inl ha) (fun a ha => ⟨ha, E.dis a n ha⟩) (o := .lst ws) ⟨(fun _ z => nomatch z), (fun _ _ z => nomatch z)⟩ (by
      rw [hσ]
      refine .ob ⟨dx, putT f (.ref p) (.o Es) Fs, by rw [ef, fv_putT], by rw [j2]; exact el, by rw [upd_ne nA, j1]; exact e1, by rw [upd_ne nx]; exact e2, fun u hu => ?_, by rw [j2]; simp only [List.nodup_cons, List.mem_cons, not_or]; exact nd, fun g hgm => ?_, ?_⟩
      · rcases j4 nd.2.2 u hu with ⟨z1, z2⟩ | ⟨z1, z2⟩
        · rw [z1, z2]; exact .o upd_same (t.ra rr)
        · refine (hfl u z1).shift t fun p' hp' hx => upd_ne fun z => z2 ?_
          obtain ⟨nm, uv, ux⟩ := u
          obtain ⟨Ds', hx⟩ := hx
          simp only at hp' hx
          rw [hp', hx, z]; simp [ownFd]
      · obtain ⟨g1, g2⟩ := hg g hgm
        refine ⟨by rw [upd_ne fun z => g2 (by rw [z]; simp only [List.mem_cons]; exact .inr (.inr i3))]; exact g1, by rw [j2]; exact g2⟩
      · have : (fsOf (putT f (.ref p) (.o Es) Fs)).length = (fsOf Fs).length := by rw [j1]
        simp only [fsOf, List.length_map] at this
        omega)
    rwa [clr_self] at key
end
section
variable {C : Ct} {ρ : List SV} {b b' b1 b2 : Bool} {e e2 a c o : Expr} {rest : List Stmt} {D : PyData} {Ds Es : List PyData} {pos pos' p p1 p2 p3 : Pos} {i j : Int} {T : Tn} {k n m : Nat} {A Cl : Addr} {fv : List (Str × FV)} {G : List (Addr × HO)} {f x : Str} {ns : List Str}
theorem blk_setF (he : PE C.X o (tVar n)) (cl : ClsA C.X.K Cl ns) (hn : ρ[n]? = some (.ob A Cl fv G)) (hv : Ev C ρ e b D) (hl : fv.length ≤ 20) (h : Blk C (ρ.set n (.ob A Cl (putV f (.d D) fv) G)) rest T) (hin : f ∈ ns := by decide +kernel)
    (hs : swapsWith e (some (.Attribute o f pos')) pos.line C.X.env = pure false := by rfl) : Blk C ρ (.Assign [.Attribute o f pos'] e pos :: rest) T :=
  blk_cons (ps_fld he pe_sem hs) fun Pn q σ H E => (hv.run _ _ q σ H E).mono fun v H1 ⟨s1, r⟩ => by
    have E1 := E.grow s1
    obtain ⟨hσ, O⟩ := E1.at_ob hn
    obtain ⟨dx, Fs, ef, el, e1, e2, hfl, nd, hg, hl'⟩ := O.ex
    subst ef
    have hl : Fs.length ≤ 20 := by simpa using hl
    refine ⟨_, hσ, A, Cl, dx, _, rfl, e1, cl.cl, cl.no f hin, by simp; omega, ?_⟩
    refine h.run Pn _ σ _ ((E1.setFd hn el e1 e2 hfl nd hg hl (x := .d D) (.d r.shared) (fun p hp => ?_)).dropF fun a z => z.elim)
    unfold newFd ownFd at hp
    cases v <;> cases hp
theorem blk_setFO (he : PE C.X o (tVar n)) (cl : ClsA C.X.K Cl ns) (hn : ρ[n]? = some (.ob A Cl fv G)) (hv : EvO C ρ e b Ds) (hl : fv.length ≤ 20) (h : Blk C (ρ.set n (.ob A Cl (putV f (.o Ds) fv) G)) rest T) (hin : f ∈ ns := by decide +kernel)
    (hs : swapsWith e (some (.Attribute o f pos')) pos.line C.X.env = pure false := by rfl) : Blk C ρ (.Assign [.Attribute o f pos'] e pos :: rest) T :=
  blk_cons (ps_fld he pe_sem hs) fun Pn q σ H E => (hv.run _ _ q σ H E).mono fun v H1 ⟨s1, u, vs, ev, hu, hu1, r⟩ => by
    subst ev
    have E1 := E.addF s1 hu hu1
    obtain ⟨hσ, O⟩ := E1.at_ob hn
    obtain ⟨dx, Fs, ef, el, e1, e2, hfl, nd, hg, hl'⟩ := O.ex
    subst ef
    have hl : Fs.length ≤ 20 := by simpa using hl
    refine ⟨_, hσ, A, Cl, dx, _, rfl, e1, cl.cl, cl.no f hin, by simp; omega, ?_⟩
    refine h.run Pn _ σ _ ((E1.setFd hn el e1 e2 hfl nd hg hl (x := .o Ds) (.o hu1 (RA.shared r)) (fun p hp => ?_)).dropF fun a z => z.elim)
    simp only [newFd, ownFd, List.mem_singleton] at hp
    exact .inr hp
theorem blk_setFI (he : PE C.X o (tVar n)) (cl : ClsA C.X.K Cl ns) (hn : ρ[n]? = some (.ob A Cl fv G)) (hf : fv.lookup f = some (.o Ds)) (hi : Ev C ρ e b1 (.int i)) (hv : Ev C ρ c b2 D) (hm : ixN Ds.length i = some m)
    (h : Blk C (ρ.set n (.ob A Cl (putV f (.o (Ds.set m D)) fv) G)) rest T) (hin : f ∈ ns := by decide +kernel)
    (hb : attributeBase o f C.X.env (eval o C.X.env) = eval o C.X.env := by rfl)
    (ha : ∀ v, assign (.Subscript (.Attribute o f p1) e p2) C.X.env v = (do
      let ov ← holding [v] (eval (.Attribute o f p1) C.X.env)
      let iv ← holding [v, ov] (eval e C.X.env)
      standAt p2
      holding [v, ov, iv] (setItem ov iv v)
      release [v, ov, iv] []) := by intro _; rfl)
    (hs : swapsWithSole [.Subscript (.Attribute o f p1) e p2] c pos.line C.X.env = pure false := by rfl) (hw : swappedStores [.Subscript (.Attribute o f p1) e p2] c C.X.env = pure none := by rfl)
    (h1 : (assignEach [.Subscript (.Attribute o f p1) e p2] C.X.env).map (·.2) = [assign (.Subscript (.Attribute o f p1) e p2) C.X.env] := by rfl) : Blk C ρ (.Assign [.Subscript (.Attribute o f p1) e p2] c pos :: rest) T :=
  blk_cons (ps_asg pe_sem (pg_sub (pe_fld he hb) pe_sem set_list ha) hs hw h1) fun Pn q σ H E => by
    refine (hv.run _ _ q σ H E).mono fun v H1 ⟨s1, rv⟩ => ?_
    have E1 := E.grow s1
    have hσ := (E1.at_ob hn).1
    obtain ⟨p0, dx0, fs0, vs0, a1, a2, a3, a4, a5, _⟩ := E1.atFd hn hf
    refine ⟨_, hσ, A, Cl, dx0, fs0, _, rfl, a1, cl.cl, cl.no f hin, a2, (hi.run _ _ q σ H1 E1).mono fun iv H2 ⟨s2, ri⟩ => ?_⟩
    cases ri
    have E2 := E1.grow s2
    obtain ⟨p', dx, fs, vs, c1, c2, c3, c4, c5, wr⟩ := E2.atFd hn hf
    have h6 := s2 _ _ a1
    rw [c1] at h6
    cases h6
    rw [a2] at c2
    cases c2
    refine ⟨p0, vs, i, m, rfl, rfl, c3, by rw [RpAll.length c4]; exact hm, ?_⟩
    exact h.run Pn q σ _ (wr _ _ (RpAll.set ((Ct.Env.shift E1 s2).rv rv).shared m c4))
theorem blk_appF (he : PE C.X o (tVar n)) (cl : ClsA C.X.K Cl ns) (hn : ρ[n]? = some (.ob A Cl fv G)) (hf : fv.lookup f = some (.o Ds)) (hv : Ev C ρ e b2 D) (hl : Ds.length < sizeLine)
    (h : Blk C (ρ.set n (.ob A Cl (putV f (.o (Ds ++ [D])) fv) G)) rest T) (hin : f ∈ ns := by decide +kernel)
    (hb : attributeBase o f C.X.env (eval o C.X.env) = eval o C.X.env := by rfl)
    (hst : starEach (e :: []) C.X.env = (false, eval e C.X.env) :: starEach [] C.X.env := by rfl) (hpl : (backTo p3 (starEach [] C.X.env)).any (·.1) = false := by rfl)
    (hbase : attributeBase (.Attribute o f p1) "append" C.X.env (eval (.Attribute o f p1) C.X.env) = eval (.Attribute o f p1) C.X.env := by rfl) (hline : (p2.endLine == p3.line) = true := by rfl) (hfew : ((backTo p3 (starEach (e :: []) C.X.env)).all (fun x => !x.1) && (backToKw p3 (keywordEach [] C.X.env)).all (fun x => x.1.isSome)
      && decide ((e :: []).length + ([] : List Keyword).length + (if ([] : List Keyword).isEmpty then 0 else 1) < 30)) = true := by rfl)
    (hs : swapsWith (.Call (.Attribute (.Attribute o f p1) "append" p2) [e] [] p3) none pos.line C.X.env = pure false := by rfl) : Blk C ρ (.Expr (.Call (.Attribute (.Attribute o f p1) "append" p2) [e] [] p3) pos :: rest) T :=
  blk_cons (ps_expr (pe_bm PySem.F.plainAttrs_list PySem.F.slot_list_append PySem.F.type_list_append mt_append (pe_fld he hb) (pa_cons pe_sem pa_nil hst) (hbase := hbase) (hfew := hfew) (hline := hline) (hs := hst) (hplain := hpl)) hs) fun Pn q σ H E => by
    have hσ := (E.at_ob hn).1
    obtain ⟨p0, dx0, fs0, vs0, a1, a2, a3, a4, a5, _⟩ := E.atFd hn hf
    refine ⟨_, hσ, A, Cl, dx0, fs0, _, rfl, a1, cl.cl, cl.no f hin, a2, .inl ⟨rfl, _, .of a3⟩, (hv.run _ _ q σ H E).mono fun v H2 ⟨s2, rv⟩ => ?_⟩
    have E2 := E.grow s2
    obtain ⟨p', dx, fs, vs, c1, c2, c3, c4, c5, wr⟩ := E2.atFd hn hf
    have h6 := s2 _ _ a1
    rw [c1] at h6
    cases h6
    rw [a2] at c2
    cases c2
    refine ⟨p0, vs, v, rfl, rfl, c3, by rw [RpAll.length c4]; exact hl, ?_⟩
    exact h.run Pn q σ _ (wr _ _ (RpAll.append c4 (.cons rv.shared .nil)))
theorem blk_retM {R : PyData → List (Str × FV) → Prop} (he : Ev C ρ e b D) (hn : ρ[n]? = some (.ob A Cl fv G)) (hR : R D fv) (hm : T.mr = some (A, Cl, G, R) := by rfl) (hb : b = true := by rfl) : Blk C ρ (.Return (some e) pos :: rest) T :=
  blk_cons (ps_ret pe_sem) fun Pn q σ H E => ((hb ▸ he : Ev C ρ e true D).run _ _ q σ H E).mono fun v H' ⟨s, r⟩ => by
    show retOf C T v H'
    unfold retOf
    rw [hm]
    have E' := E.grow s
    obtain ⟨hσ, O⟩ := E'.at_ob hn
    have sub : ∀ a, a ∈ q n → Own q N0 a := fun a z => .mem z
    have t : Shift H' (Own q N0) H' (· ∈ q n) := ⟨fun _ _ _ e => e, fun a z => .inl (sub a z), E'.own⟩
    exact ⟨D, fv, q n, hR, E'.base.trans E'.same, (SlotOk.ob O).shift t (fun _ _ => rfl), fun a z => E'.base.free (E'.new a (sub a z)), fun a z => E'.own a (sub a z), t.rv r⟩
end
end Rk
namespace Rk
open PySem PySem.Spec PyProof.Rows L2
abbrev MSpec := List (Str × FV) → List SV → (PyData → List (Str × FV) → Prop) → (Addr → List (Str × FV) → Prop) → Prop
inductive ArgM (K : PySem.W.Frag) (H : Hp) (N : Addr → Prop) : V → SV → Prop
  | d {v D} : RV K false H H N v D → ArgM K H N v (.d false D)
structure MPost (K : PySem.W.Frag) (H0 H : Hp) (a Cl : Addr) (G : List (Addr × HO)) (fv : List (Str × FV)) (l : List Addr) : Prop where
  same : Same H0 H
  ob : ObOk K H0 H (· ∈ l) a Cl fv G l
  new : ∀ b ∈ l, H0 b = none
  own : OwnOk H (· ∈ l)
noncomputable def spM (K : PySem.W.Frag) (Cl : Addr) (S : MSpec) : Sp := fun vs H Q E => ∃ a fv G l us As R Xs, vs = .ref a :: us ∧ S fv As R Xs ∧ ObOk K (kept H (· ∈ l)) H (· ∈ l) a Cl fv G l ∧ OwnOk H (· ∈ l) ∧ Paired (ArgM K H (· ∈ l)) us As ∧
  (∀ v H' D fv' l', R D fv' → MPost K (kept H (· ∈ l)) H' a Cl G fv' l' → RV K true (kept H (· ∈ l)) H' (· ∈ l') v D → Q v H') ∧
  (∀ X H' fv' l', Xs X fv' → MPost K (kept H (· ∈ l)) H' a Cl G fv' l' → E (.ref X) none H')
structure PromM (P : Program) (w : World) (K : PySem.W.Frag) (mg : Str → Option Value) (base : Heap) (k : Nat) (Cl : Addr) (m : Str) (S : MSpec) : Prop where
  ex : ∃ f fd ps, Meth K Cl m f ∧ Binds K fd ps [] ∧ FnOk P w K mg base (L2N.CX P w) k f fd ps (spM K Cl S)
abbrev Ct.PromM (C : Ct) (k : Nat) (Cl : Addr) (m : Str) (S : MSpec) : Prop := Rk.PromM C.X.prog C.X.w C.X.K C.X.mg C.X.base k Cl m S
def HasMeth (K : PySem.W.Frag) (Cl : Addr) (m qual : Str) (st : Stmt) : Prop := ∃ f fd, Meth K Cl m f ∧ Fun K m qual st f fd
def BindsM (m qual : Str) (st : Stmt) (ps : List Str) : Prop := ∀ (kV doc pm : Value) (an : Option Addr) (cdv ct : Value) (us : List Value), us.length = ps.length → bindArgs (PySem.W.fnOf m qual (defArgs st) (defBody st) (defScope st) .none kV doc pm an cdv ct) ⟨us, []⟩ = pure (ps.zip us)
noncomputable abbrev methCt (P : Program) (w : World) (K : PySem.W.Frag) (mg : Str → Option Value) (base : Heap) (N : List Str) (qual : Str) (st : Stmt) (f : Addr) (cdv : Value) (A : Around) (outer : List Env) (s : Shared) (H : Hp) (E : XK) (l : List Addr) : Ct :=
  ⟨cxOf (L2N.CX P w) P w K mg base N qual (defScope st) f cdv A outer s H E, kept H (· ∈ l)⟩
def q0 (l : List Addr) : Qn := fun i => if i = 0 then l else []
theorem own_q0 {l : List Addr} {b : Addr} : Own (q0 l) N0 b ↔ b ∈ l := by
  constructor
  · rintro (h | ⟨j, h⟩)
    · exact h.elim
    · unfold q0 at h
      split at h
      · exact h
      · cases h
  · intro h; exact .inr ⟨0, h⟩
theorem ObOk.anyH0 {K : PySem.W.Frag} {H0 H0' H : Hp} {N : Addr → Prop} {a Cl : Addr} {fv : List (Str × FV)} {G : List (Addr × HO)} {l : List Addr} (O : ObOk K H0 H N a Cl fv G l) : ObOk K H0' H N a Cl fv G l := by
  obtain ⟨dx, Fs, h1, h2, h3, h4, h5, h6⟩ := O.ex
  refine ⟨dx, Fs, h1, h2, h3, h4, fun t ht => ?_, h6⟩
  have := h5 t ht
  generalize t.2.1 = v at this
  generalize t.2.2 = x at this
  cases this with
  | d r => exact .d (Rp.mono (fun _ _ z => ⟨z.1, z.2.1, fun e => nomatch e⟩) (fun _ _ z => z) _ _ r)
  | o e r => exact .o e (RpAll.mono (fun _ _ z => ⟨z.1, z.2.1, fun e => nomatch e⟩) (fun _ _ z => z) _ _ r)
theorem startM_env {K : PySem.W.Frag} {H : Hp} {N : List Str} {vs : List V} {As : List SV} {a Cl : Addr} {fv : List (Str × FV)} {G : List (Addr × HO)} {l : List Addr} (O : ObOk K (kept H (· ∈ l)) H (· ∈ l) a Cl fv G l) (ow : OwnOk H (· ∈ l)) (ha : Paired (ArgM K H (· ∈ l)) vs As) {n : Nat} (hn : n = N.length - (As.length + 1)) :
    EnvQ K (kept H (· ∈ l)) (kept H (· ∈ l)) H (L2.start N (.ref a :: vs)) (.ob a Cl fv G :: (As ++ us n)) N0 (q0 l) := by
  have hlen : vs.length = As.length := Paired.length ha
  have t : Shift H (· ∈ l) H (Own (q0 l) N0) := ⟨fun _ _ _ e => e, fun b hb => .inl (own_q0.mp hb), ow⟩
  have get : ∀ {vs : List V} {As : List SV}, Paired (ArgM K H (· ∈ l)) vs As → ∀ {i : Nat} {s : SV}, As[i]? = some s → ∃ v, vs[i]? = some v ∧ ArgM K H (· ∈ l) v s := by
    intro vs As h
    induction h with
    | nil => intro i s e; simp at e
    | cons a t ih =>
      intro i s e
      cases i with
      | zero => simp at e; subst e; exact ⟨_, rfl, a⟩
      | succ i => exact ih (by simpa using e)
  refine ⟨by unfold L2.start us; simp only [List.length_append, List.length_map, List.length_replicate, List.length_cons, hlen, hn]; omega, fun i s h => ?_, fun i j b h1 h2 => ?_, fun i hi => ?_, fun b o e => (kept_some e).2, Same.refl _, fun b hb => kept_out (own_q0.mp hb), fun b i hb => hb.elim, fun b hb => ow b (own_q0.mp hb)⟩
  · cases i with
    | zero =>
      cases h
      exact .ob (O.shift t fun _ _ => rfl)
    | succ i =>
      have h' : (As ++ us n)[i]? = some s := h
      show SlotOk K _ H _ (L2.start N (.ref a :: vs))[i + 1]? s []
      by_cases hi : i < As.length
      · rw [List.getElem?_append_left hi] at h'
        obtain ⟨v, hv, av⟩ := get ha h'
        have e : (L2.start N (.ref a :: vs))[i + 1]? = some (some v) := by
          unfold L2.start
          rw [List.map_cons, List.cons_append, List.getElem?_cons_succ, List.getElem?_append_left (by simpa [hlen] using hi), List.getElem?_map, hv] <;> rfl
        rw [e]
        cases av with
        | d r => exact .d (Rp.mono (fun _ _ z => ⟨fun w => z.1 (own_q0.mp w), z.2.1, fun e => nomatch e⟩) (fun _ _ z => z) _ _ r)
      · rw [List.getElem?_append_right (by omega)] at h'
        unfold us at h'
        rw [List.getElem?_replicate] at h'
        split at h'
        · cases h'; exact .u
        · cases h'
  · unfold q0 at h1 h2
    split at h1
    · split at h2
      · omega
      · cases h2
    · cases h1
  · unfold q0
    rw [if_neg]
    simp only [List.length_cons] at hi
    omega
section
variable {P : Program} {w : World} {K : PySem.W.Frag} {mg : Str → Option Value} {base : Heap}
theorem promM_mk {m qual : Str} {Cl : Addr} {st : Stmt} {N ps : List Str} {k : Nat} {S : MSpec} (D : HasMeth K Cl m qual st) (SC : FnScope N ps (defScope st)) (bd : BindsM m qual st ps) (len : ∀ fv As R Xs, S fv As R Xs → As.length + 1 = ps.length)
    (body : ∀ (f : Addr) (cdv : Value) (A : Around) (outer : List Env) (s : Shared) (H : Hp) (E : XK) (l : List Addr) (a : Addr) (fv : List (Str × FV)) (G : List (Addr × HO)) (As : List SV) (R : PyData → List (Str × FV) → Prop) (Xs : Addr → List (Str × FV) → Prop), S fv As R Xs →
      Cz (methCt P w K mg base N qual st f cdv A outer s H E l) k → L2N.Takes (methCt P w K mg base N qual st f cdv A outer s H E l).X (fun cls d _ H' => ∃ X fv' l', cls = .ref X ∧ d = none ∧ Xs X fv' ∧ MPost K (kept H (· ∈ l)) H' a Cl G fv' l') →
      Blk (methCt P w K mg base N qual st f cdv A outer s H E l) (.ob a Cl fv G :: (As ++ us (N.length - ps.length))) (defBody st) { nx := fun r => ∃ fv', r[0]? = some (.ob a Cl fv' G) ∧ R .none fv', rt := fun _ => False, mr := some (a, Cl, G, R) }) : PromM P w K mg base (k + 1) Cl m S := by
  obtain ⟨f, fd, hm, F⟩ := D
  obtain ⟨oc, od, kV, doc, pm, an, cdv0, ct, osl, rfl, lk, hcd⟩ := F.ex
  refine ⟨f, _, ps, hm, .all fun us hl => bd kV doc pm an cdv0 ct us hl, okN F SC (fun vs H Q E h => ?_) fun cdv A outer s H vs Q E hr h => ?_⟩
  · obtain ⟨a, fv, G, l, us, As, R, Xs, rfl, hS, _, _, ha, _⟩ := h
    have := len fv As R Xs hS
    have := Paired.length ha
    simp only [List.length_cons]; omega
  · obtain ⟨a, fv, G, l, vs', As, R, Xs, rfl, hS, O, ow, ha, hR, hX⟩ := h
    have hl := len fv As R Xs hS
    have rz : L2N.Takes (methCt P w K mg base N qual st f cdv A outer s H E l).X (fun cls d _ H' => ∃ X fv' l', cls = .ref X ∧ d = none ∧ Xs X fv' ∧ MPost K (kept H (· ∈ l)) H' a Cl G fv' l') := (L2N.takes_of (E := E) rfl rfl rfl rfl : L2N.Takes _ (fun cls d _ H => E cls d H)).imp fun c d σ H' ⟨X, fv', l', e1, e2, e3, e4⟩ => by
      subst e1 e2
      exact hX X H' fv' l' e3 e4
    have Z : Cz (methCt P w K mg base N qual st f cdv A outer s H E l) k := ⟨rfl, passes_of rfl, SC.nd, hr⟩
    have E0 := startM_env (N := N) O ow ha (n := N.length - ps.length) (by rw [← hl])
    refine ⟨_, pss_sem, ((body f cdv A outer s H E l a fv G As R Xs hS Z rz).run _ _ _ H E0).mono (fun σ' H' ⟨r, q, ⟨fv', h, hr⟩, E'⟩ => ?_) (fun v H' ⟨D, fv', l', d, s1, o1, n1, w1, r⟩ => ?_) (fun _ _ ⟨_, _, z, _⟩ => z.elim) (fun _ _ ⟨_, _, z, _⟩ => z.elim)⟩
    · obtain ⟨hσ, O'⟩ := E'.at_ob h
      have sub : ∀ b, b ∈ q 0 → Own q N0 b := fun b z => .mem z
      have t : Shift H' (Own q N0) H' (· ∈ q 0) := ⟨fun _ _ _ e => e, fun b z => .inl (sub b z), E'.own⟩
      exact hR .non H' .none fv' (q 0) hr ⟨E'.base.trans E'.same, O'.shift t fun _ _ => rfl, fun b z => E'.base.free (E'.new b (sub b z)), fun b z => E'.own b (sub b z)⟩ .non
    · cases o1 with
      | ob o1 => exact hR v H' D fv' l' d ⟨s1, o1, n1, w1⟩ r
theorem Ct.Env.after {C : Ct} {ρ : List SV} {Pn H1 H' : Hp} {σ : L2.St} {q : Qn} {n : Nat} {a Cl : Addr} {fv' : List (Str × FV)} {G O : List (Addr × HO)} {F : Addr → Prop} {l1 l1' : List Addr} (E : C.Env Pn H1 σ ρ F q) (hn : n < ρ.length) (hu : q n = [])
    (hO : ∀ j b, b ∈ q j → b ∈ O.map (·.1)) (hO2 : ∀ g ∈ O, H1 g.1 = some g.2) (hl1 : ∀ b, b ∈ l1 ↔ Own q F b) (hG : ∀ g ∈ G, F g.1)
    (M : MPost C.X.K (kept H1 (· ∈ l1)) H' a Cl (G ++ O) fv' l1') :
    ∃ q', C.Env Pn H' (σ.set n (some (.ref a))) (ρ.set n (.ob a Cl fv' G)) N0 q' ∧ (∀ b, Own q' N0 b → b ∈ l1') ∧ ∀ b, kept H1 (· ∈ l1) b = none → C.H0 b = none := by
  obtain ⟨dx, Fs, ef, el, e1, e2, hfl, nd, hg, hlen⟩ := M.ob.ex
  have nk : ∀ b, kept H1 (· ∈ l1) b = none → Pn b = none := fun b hb => by
    by_cases z : b ∈ l1
    · exact E.new b ((hl1 b).mp z)
    · rw [kept_in z] at hb; exact E.same.free hb
  have hO' : ∀ j b, b ∈ q j → b ∈ l1' ∧ H' b = H1 b ∧ b ∉ a :: dx :: Fs.flatMap ownFd := fun j b hb => by
    obtain ⟨g, hgm, rfl⟩ := List.mem_map.mp (hO j b hb)
    obtain ⟨g1, g2⟩ := hg g (List.mem_append_right _ hgm)
    refine ⟨?_, g1.trans (hO2 g hgm).symm, g2⟩
    rw [el]
    simp only [List.mem_cons, List.mem_append, List.map_append]
    exact .inr (.inr (.inr (.inr (List.mem_map_of_mem hgm))))
  have eG : ∀ b, b ∈ a :: dx :: (Fs.flatMap ownFd ++ G.map (·.1)) ↔ b ∈ a :: dx :: Fs.flatMap ownFd ∨ b ∈ G.map (·.1) := fun b => by
    simp only [List.mem_cons, List.mem_append]
    constructor
    · rintro (h | h | h | h)
      · exact .inl (.inl h)
      · exact .inl (.inr (.inl h))
      · exact .inl (.inr (.inr h))
      · exact .inr h
    · rintro ((h | h | h) | h)
      · exact .inl h
      · exact .inr (.inl h)
      · exact .inr (.inr (.inl h))
      · exact .inr (.inr (.inr h))
  generalize el' : a :: dx :: (Fs.flatMap ownFd ++ G.map (·.1)) = l' at eG
  have hl' : ∀ b ∈ l', b ∈ l1' := fun b hb => by
    rw [← el'] at hb
    rw [el]
    simp only [List.mem_cons, List.mem_append, List.map_append] at hb ⊢
    rcases hb with hb | hb | hb | hb
    · exact .inl hb
    · exact .inr (.inl hb)
    · exact .inr (.inr (.inl hb))
    · exact .inr (.inr (.inr (.inl hb)))
  have sub : ∀ b, Own (clr q n l') N0 b → b ∈ l1' := fun b hb => by
    rcases hb with hb | ⟨j, hb⟩
    · exact hb.elim
    · by_cases z : j = n
      · subst z; rw [clr_same] at hb; exact hl' b hb
      · rw [clr_ne z] at hb; exact (hO' j b hb).1
  have t : Shift H1 (Own q F) H' (Own (clr q n l') N0) := ⟨fun b o hb e => M.same b o (by rw [kept_in fun z => hb ((hl1 b).mp z)]; exact e), fun b hb => by
    have h1 := M.new b (sub b hb)
    by_cases z : b ∈ l1
    · exact .inl ((hl1 b).mp z)
    · rw [kept_in z] at h1; exact .inr h1, E.own⟩
  have t2 : Shift H' (· ∈ l1') H' (Own (clr q n l') N0) := ⟨fun _ _ _ e => e, fun b hb => .inl (sub b hb), M.own⟩
  refine ⟨clr q n l', ⟨by simp [E.len], fun j s h => ?_, fun i j b h1 h2 => ?_, fun j h => ?_, fun b o e => ?_, E.base, fun b hb => nk b (M.new b (sub b hb)), fun b i hb => hb.elim, fun b hb => M.own b (sub b hb)⟩, sub, fun b hb => E.base.free (nk b hb)⟩
  · by_cases z : j = n
    · subst z
      rw [List.getElem?_set_self hn] at h
      cases h
      rw [clr_same, List.getElem?_set_self (by rw [E.len]; exact hn)]
      refine .ob ⟨dx, Fs, ef, el'.symm, e1, e2, fun u hu => ?_, nd, fun g hgm => hg g (List.mem_append_left _ hgm), hlen⟩
      have := (hfl u hu).shift t2 fun _ _ _ => rfl
      generalize u.2.1 = v at this
      generalize u.2.2 = x at this
      cases this with
      | d r => exact .d (Rp.mono (fun _ _ z => ⟨z.1, z.2.1, fun e => nomatch e⟩) (fun _ _ z => z) _ _ r)
      | o e r => exact .o e (RpAll.mono (fun _ _ z => ⟨z.1, z.2.1, fun e => nomatch e⟩) (fun _ _ z => z) _ _ r)
    · rw [List.getElem?_set_ne (Ne.symm z)] at h
      rw [clr_ne z, List.getElem?_set_ne (Ne.symm z)]
      exact (E.slot j s h).shift t fun b hb => (hO' j b hb).2.1
  · have cross : ∀ i b, i ≠ n → b ∈ q i → b ∉ l' := fun i b hi hb hl => by
      rcases (eG b).mp hl with z | z
      · exact (hO' i b hb).2.2 z
      · obtain ⟨g, hgm, rfl⟩ := List.mem_map.mp z
        exact E.dis _ i (hG g hgm) hb
    by_cases y : i = n
    · subst y
      by_cases z : j = i
      · exact z.symm
      · rw [clr_same] at h1; rw [clr_ne z] at h2
        exact absurd h1 (cross j b z h2)
    · by_cases z : j = n
      · subst z
        rw [clr_same] at h2; rw [clr_ne y] at h1
        exact absurd h2 (cross i b y h1)
      · rw [clr_ne y] at h1; rw [clr_ne z] at h2
        exact E.inj i j b h1 h2
  · have : j ≠ n := by
      rintro rfl
      simp at h; omega
    rw [clr_ne this]
    exact E.out j (by simpa using h)
  · have h1 := E.same b o e
    refine M.same b o ?_
    rw [kept_in fun z => ?_]
    · exact h1
    · rw [E.new b ((hl1 b).mp z)] at e; cases e
end
end Rk
namespace Rk
open PySem PySem.Spec PyProof.Rows L2
theorem EnvQ.addN {K : PySem.W.Frag} {H0 Pn H H1 : Hp} {F : Addr → Prop} {σ : L2.St} {ρ : List SV} {q : Qn} {l : List Addr} (E : EnvQ K H0 Pn H σ ρ F q) (s : Same H H1) (hp : ∀ a ∈ l, H a = none ∧ ∃ o, H1 a = some o ∧ (∀ xs, o ≠ .tup xs) ∧ ∀ ob u, o ≠ .frz ob u) : EnvQ K H0 Pn H1 σ ρ (fun b => F b ∨ b ∈ l) q := by
  have hq : ∀ a ∈ l, ∀ i, a ∉ q i := fun a ha i z => by
    obtain ⟨o, e, _⟩ := E.own a (.mem z)
    rw [(hp a ha).1] at e; cases e
  have t : Shift H (Own q F) H1 (Own q (fun b => F b ∨ b ∈ l)) := ⟨fun a o _ e => s a o e, fun a n => by
    rcases n with (n | n) | n
    · exact .inl (.inl n)
    · exact .inr (hp a n).1
    · exact .inl (.inr n), E.own⟩
  refine ⟨E.len, fun i u h => (E.slot i u h).shift t (fun a ha => ?_), E.inj, E.out, E.same.trans s, E.base, fun a n => ?_, fun a i n => ?_, fun a n => ?_⟩
  · obtain ⟨o, e, _⟩ := E.own a (.mem ha)
    rw [e, s a o e]
  · rcases n with (n | n) | n
    · exact E.new a (.inl n)
    · exact E.same.free (hp a n).1
    · exact E.new a (.inr n)
  · rcases n with n | n
    · exact E.dis a i n
    · exact hq a n i
  · rcases n with (n | n) | n
    · obtain ⟨o, e, z⟩ := E.own a (.inl n)
      exact ⟨o, s a o e, z⟩
    · exact (hp a n).2
    · obtain ⟨o, e, z⟩ := E.own a (.inr n)
      exact ⟨o, s a o e, z⟩
theorem EnvQ.others {K : PySem.W.Frag} {H0 Pn H : Hp} {F : Addr → Prop} {σ : L2.St} {ρ : List SV} {q : Qn} (E : EnvQ K H0 Pn H σ ρ F q) : ∃ O : List (Addr × HO), (∀ j b, b ∈ q j → b ∈ O.map (·.1)) ∧ ∀ g ∈ O, (∃ j, g.1 ∈ q j) ∧ H g.1 = some g.2 := by
  refine ⟨(List.range ρ.length).flatMap fun j => (q j).map fun b => (b, (H b).getD (.lst [])), fun j b hb => ?_, fun g hg => ?_⟩
  · have hj : j < ρ.length := by
      refine Classical.byContradiction fun z => ?_
      rw [E.out j (by omega)] at hb; cases hb
    refine List.mem_map.mpr ⟨(b, (H b).getD (.lst [])), List.mem_flatMap.mpr ⟨j, List.mem_range.mpr hj, List.mem_map.mpr ⟨b, hb, rfl⟩⟩, rfl⟩
  · obtain ⟨j, _, hg⟩ := List.mem_flatMap.mp hg
    obtain ⟨b, hb, rfl⟩ := List.mem_map.mp hg
    refine ⟨⟨j, hb⟩, ?_⟩
    obtain ⟨o, e, _⟩ := E.own b (.mem hb)
    simp [e]
theorem Ct.Env.enterOb {C : Ct} {ρ : List SV} {Pn H : Hp} {σ : L2.St} {q : Qn} {n : Nat} {a Cl : Addr} {fv : List (Str × FV)} {G : List (Addr × HO)} (E : C.Env Pn H σ ρ N0 q) (hn : ρ[n]? = some (.ob a Cl fv G)) :
    ∃ (O : List (Addr × HO)) (l1 : List Addr), ObOk C.X.K (kept H (· ∈ l1)) H (· ∈ l1) a Cl fv (G ++ O) l1 ∧ OwnOk H (· ∈ l1) ∧ (∀ b, Own q N0 b ↔ b ∈ l1) ∧
      ∀ H' fv' l1', MPost C.X.K (kept H (· ∈ l1)) H' a Cl (G ++ O) fv' l1' → ∃ q', C.Env Pn H' σ (ρ.set n (.ob a Cl fv' G)) N0 q' ∧ (∀ b, Own q' N0 b → b ∈ l1') ∧ ∀ b, kept H (· ∈ l1) b = none → C.H0 b = none := by
  have hi : n < ρ.length := (List.getElem?_eq_some_iff.mp hn).1
  obtain ⟨hσ, O1⟩ := E.at_ob hn
  obtain ⟨dx, Fs, ef, el, e1, e2, hfl, nd, hg, hlen⟩ := O1.ex
  have E3 := E.toss n (some (.ref a))
  have eσ : σ.set n (some (.ref a)) = σ := by
    have h1 : n < σ.length := by rw [E.len]; exact hi
    rw [List.getElem?_eq_getElem h1] at hσ
    rw [← Option.some.inj hσ]; simp
  rw [eσ] at E3
  obtain ⟨O, hO, hO2⟩ := E3.others
  have mq : ∀ b, b ∈ q n ↔ b ∈ a :: dx :: Fs.flatMap ownFd ∨ b ∈ G.map (·.1) := fun b => by
    rw [el]
    simp only [List.mem_cons, List.mem_append]
    constructor
    · rintro (h | h | h | h)
      · exact .inl (.inl h)
      · exact .inl (.inr (.inl h))
      · exact .inl (.inr (.inr h))
      · exact .inr h
    · rintro ((h | h | h) | h)
      · exact .inl h
      · exact .inr (.inl h)
      · exact .inr (.inr (.inl h))
      · exact .inr (.inr (.inr h))
  have other : ∀ g ∈ O, g.1 ∉ q n := fun g hgm hm => by
    obtain ⟨⟨j, hj⟩, _⟩ := hO2 g hgm
    by_cases z : j = n
    · subst z; rw [clr_same] at hj; cases hj
    · rw [clr_ne z] at hj
      exact z (E.inj j n _ hj hm)
  have ml : ∀ b, b ∈ a :: dx :: (Fs.flatMap ownFd ++ (G ++ O).map (·.1)) ↔ b ∈ q n ∨ b ∈ O.map (·.1) := fun b => by
    rw [mq]
    simp only [List.mem_cons, List.mem_append, List.map_append]
    constructor
    · rintro (h | h | h | h | h)
      · exact .inl (.inl (.inl h))
      · exact .inl (.inl (.inr (.inl h)))
      · exact .inl (.inl (.inr (.inr h)))
      · exact .inl (.inr h)
      · exact .inr h
    · rintro (((h | h | h) | h) | h)
      · exact .inl h
      · exact .inr (.inl h)
      · exact .inr (.inr (.inl h))
      · exact .inr (.inr (.inr (.inl h)))
      · exact .inr (.inr (.inr (.inr h)))
  generalize el1 : a :: dx :: (Fs.flatMap ownFd ++ (G ++ O).map (·.1)) = l1 at ml
  have own1 : ∀ b, b ∈ l1 ↔ Own q N0 b := fun b => by
    rw [ml]
    constructor
    · rintro (h | h)
      · exact .mem h
      · obtain ⟨g, hgm, rfl⟩ := List.mem_map.mp h
        obtain ⟨⟨j, hj⟩, _⟩ := hO2 g hgm
        exact .inr ⟨j, qsub_clr.1 j _ hj⟩
    · rintro (h | ⟨j, h⟩)
      · exact h.elim
      · by_cases z : j = n
        · subst z; exact .inl h
        · exact .inr (hO j b (by rw [clr_ne z]; exact h))
  have t : Shift H (Own q N0) H (· ∈ l1) := ⟨fun _ _ _ e => e, fun b hb => .inl ((own1 b).mp hb), E.own⟩
  refine ⟨O, l1, ?_, fun b hb => E.own b ((own1 b).mp hb), fun b => (own1 b).symm, fun H' fv' l1' M => ?_⟩
  · refine ObOk.anyH0 (H0 := C.H0) ⟨dx, Fs, ef, el1.symm, e1, e2, fun u hu => (hfl u hu).shift t fun _ _ _ => rfl, nd, fun g hgm => ?_, hlen⟩
    rcases List.mem_append.mp hgm with z | z
    · exact hg g z
    · exact ⟨(hO2 g z).2, fun w => other g z ((mq _).mpr (.inl w))⟩
  · obtain ⟨q', E', s1, s2⟩ := Ct.Env.after (n := n) (O := O) E3 (by simpa using hi) clr_same hO (fun g hgm => (hO2 g hgm).2) (fun b => by
        rw [own1]
        constructor
        · rintro (h | ⟨j, h⟩)
          · exact h.elim
          · by_cases z : j = n
            · subst z; exact .inl (.inr h)
            · exact .inr ⟨j, by rw [clr_ne z]; exact h⟩
        · rintro ((h | h) | ⟨j, h⟩)
          · exact h.elim
          · exact .mem h
          · exact .inr ⟨j, qsub_clr.1 j b h⟩) (fun g hgm => .inr ((mq _).mpr (.inr (List.mem_map_of_mem hgm)))) M
    rw [eσ, List.set_set] at E'
    exact ⟨q', E', s1, s2⟩
structure ArgsM (C : Ct) (ρ : List SV) (es : List Expr) (As : List SV) : Prop where
  run : ∀ Pn F q σ H, C.Env Pn H σ ρ F q → semA C.X es σ H fun vs H' => Same H H' ∧ Paired (ArgM C.X.K H' (Own q F)) vs As
structure EvM (C : Ct) (ρ : List SV) (e : Expr) (n : Nat) (a Cl : Addr) (G : List (Addr × HO)) (R : PyData → List (Str × FV) → Prop) : Prop where
  run : ∀ Pn q σ H, C.Env Pn H σ ρ N0 q → semE C.X e σ H fun v H' => ∃ D fv q', R D fv ∧ C.Env Pn H' σ (ρ.set n (.ob a Cl fv G)) N0 q' ∧ C.R true H' (Own q' N0) v D
theorem ArgM.shift {K : PySem.W.Frag} {H H' : Hp} {N N' : Addr → Prop} {v : V} {A : SV} (h : ArgM K H N v A) (t : Shift H N H' N') : ArgM K H' N' v A := by
  cases h with
  | d r => exact .d (Rp.mono (fun _ _ z => ⟨z.1, z.2.1, fun e => nomatch e⟩) (fun _ _ z => z) _ _ (t.rv r))
theorem ArgsM.shiftP {K : PySem.W.Frag} {H H' : Hp} {N N' : Addr → Prop} (t : Shift H N H' N') : ∀ {vs : List V} {As : List SV}, Paired (ArgM K H N) vs As → Paired (ArgM K H' N') vs As
  | _, _, .nil => .nil
  | _, _, .cons a r => .cons (a.shift t) (ArgsM.shiftP t r)
section
variable {C : Ct} {ρ : List SV} {b b' b1 b2 : Bool} {e e2 a c o : Expr} {es : List Expr} {rest : List Stmt} {D : PyData} {Ds Es : List PyData} {pos pos' p p1 p2 p3 apos : Pos} {i j : Int} {T : Tn} {k n m : Nat} {A Cl : Addr} {fv : List (Str × FV)} {G : List (Addr × HO)} {f x : Str} {ns : List Str} {As : List SV} {S : MSpec} {R : PyData → List (Str × FV) → Prop}
theorem argm_nil : ArgsM C ρ [] [] := .mk fun Pn F q σ H E => semA_of pa_nil ⟨Same.refl _, .nil⟩
theorem argm_d (h : Ev C ρ e b D) (hs : ArgsM C ρ es As) (hst : starEach (e :: es) C.X.env = (false, eval e C.X.env) :: starEach es C.X.env := by rfl) : ArgsM C ρ (e :: es) (.d false D :: As) := .mk fun Pn F q σ H E =>
  semA_of (pa_cons pe_sem pa_sem hst) ((h.run _ F q σ H E).mono fun v H1 ⟨s1, r1⟩ => (hs.run _ F q σ H1 (E.grow s1)).mono fun vs H2 ⟨s2, r2⟩ => ⟨s1.trans s2, .cons (.d (Rp.mono (fun _ _ z => ⟨z.1, z.2.1, fun e => nomatch e⟩) (fun _ _ z => z) _ _ ((Ct.Env.shift (E.grow s1) s2).rv r1))) r2⟩)
theorem noXs {P : Program} {w : World} {X : Cx} : Passes (L2N.CX P w) X (fun _ _ _ => False) := fun _ _ _ _ _ _ _ h => (CX.never h fun _ _ _ z => z).elim
theorem meth_core {Pn H : Hp} {σ : L2.St} {q : Qn} {vs : List V} (E : C.Env Pn H σ ρ N0 q) (hn : ρ[n]? = some (.ob A Cl fv G)) (ha : Paired (ArgM C.X.K H (Own q N0)) vs As) (hS : S fv As R (fun _ _ => False)) :
    spM C.X.K Cl S (.ref A :: (vs ++ [])) H (fun v H' => ∃ D fv q', R D fv ∧ C.Env Pn H' σ (ρ.set n (.ob A Cl fv G)) N0 q' ∧ C.R true H' (Own q' N0) v D) (fun _ _ _ => False) := by
  obtain ⟨O, l1, h1, h2, h3, h4⟩ := Ct.Env.enterOb E hn
  have t : Shift H (Own q N0) H (· ∈ l1) := ⟨fun _ _ _ e => e, fun b hb => .inl ((h3 b).mpr hb), E.own⟩
  refine ⟨A, fv, G ++ O, l1, vs, As, R, _, by rw [List.append_nil], hS, h1, h2, ArgsM.shiftP t ha, fun v H' D fv' l' hR M rv => ?_, fun _ _ _ _ z _ => z⟩
  obtain ⟨q', E', s1, s2⟩ := h4 H' fv' l' M
  exact ⟨D, fv', q', hR, E', Rp.mono (fun _ _ z => ⟨fun w => z.1 (s1 _ w), z.2.1, fun w => s2 _ (z.2.2 w)⟩) (fun _ _ z => z) _ _ rv⟩
theorem evm_call {pl : Sem Bool} (P : C.PromM k Cl f S) (hr : Room k C.X.A) (cl : ClsA C.X.K Cl ns) (he : PE C.X o (tVar n)) (hn : ρ[n]? = some (.ob A Cl fv G)) (hm : fv.lookup f = none) (ha : ArgsM C ρ (e :: es) As) (hS : S fv As R (fun _ _ => False))
    (hst : starEach (e :: es) C.X.env = (false, eval e C.X.env) :: starEach es C.X.env := by rfl) (hpl : (backTo pos (starEach es C.X.env)).any (·.1) = false := by rfl)
    (ht : eval (.Call (.Attribute o f apos) (e :: es) [] pos) C.X.env = (do
      let ov ← eval o C.X.env
      standAt apos.atName
      let (f, first) ← holding [ov] (getMethod ov f pl)
      callWith pos f first (backTo pos (starEach (e :: es) C.X.env)) (backToKw pos (keywordEach [] C.X.env))) := by rfl) : EvM C ρ (.Call (.Attribute o f apos) (e :: es) [] pos) n A Cl G R := .mk fun Pn q σ H E => by
  obtain ⟨g, fd, ps, hM, hb, Fn⟩ := P.ex
  refine semE_of (pe_meth (pl := pl) (dvs := []) (E := fun _ _ _ => False) he cl.cl hM Fn hr hb .nil noXs pa_sem hst hpl ht) ?_
  obtain ⟨hσ, O⟩ := E.at_ob hn
  obtain ⟨dx, Fs, ef, el, e1, _⟩ := O.ex
  refine ⟨_, hσ, A, dx, _, rfl, e1, lookup_fv_none (by rw [← ef]; exact hm), (ha.run _ N0 q σ H E).mono fun vs H2 ⟨s2, r2⟩ => ?_⟩
  exact meth_core (E.grow s2) hn r2 hS
theorem evm_call0 {pl : Sem Bool} (P : C.PromM k Cl f S) (hr : Room k C.X.A) (cl : ClsA C.X.K Cl ns) (he : PE C.X o (tVar n)) (hn : ρ[n]? = some (.ob A Cl fv G)) (hm : fv.lookup f = none) (hS : S fv [] R (fun _ _ => False))
    (ht : eval (.Call (.Attribute o f apos) [] [] pos) C.X.env = (do
      let ov ← eval o C.X.env
      standAt apos.atName
      let (f, first) ← holding [ov] (getMethod ov f pl)
      callWith pos f first (backTo pos (starEach [] C.X.env)) (backToKw pos (keywordEach [] C.X.env))) := by rfl) : EvM C ρ (.Call (.Attribute o f apos) [] [] pos) n A Cl G R := .mk fun Pn q σ H E => by
  obtain ⟨g, fd, ps, hM, hb, Fn⟩ := P.ex
  refine semE_of (pe_meth0 (pl := pl) (dvs := []) (E := fun _ _ _ => False) he cl.cl hM Fn hr hb .nil noXs ht) ?_
  obtain ⟨hσ, O⟩ := E.at_ob hn
  obtain ⟨dx, Fs, ef, el, e1, _⟩ := O.ex
  exact ⟨_, hσ, A, dx, _, rfl, e1, lookup_fv_none (by rw [← ef]; exact hm), meth_core (vs := []) E hn .nil hS⟩
theorem blk_exprM (he : EvM C ρ e n A Cl G R) (h : ∀ D fv, R D fv → Blk C (ρ.set n (.ob A Cl fv G)) rest T) (hs : swapsWith e none pos.line C.X.env = pure false := by rfl) : Blk C ρ (.Expr e pos :: rest) T :=
  blk_cons (ps_expr pe_sem hs) fun Pn q σ H E => (he.run _ q σ H E).mono fun v H' ⟨D, fv, q', d, E', r⟩ => (h D fv d).run Pn _ _ H' E'
theorem blk_setM {p' : Pos} (Z : Cz C k) (hi : C.X.N[m]? = some x) (hx : Loc C.X.env.scope x) (hf : C.X.fn x = true ∨ C.X.env.scope.names.lookup x = some .local) (hl : m < ρ.length) (he : EvM C ρ e n A Cl G R) (h : ∀ D fv, R D fv → Blk C ((ρ.set n (.ob A Cl fv G)).set m (.d true D)) rest T)
    (hs : swapsWith e (some (.Name x p')) pos.line C.X.env = pure false := by rfl) : Blk C ρ (.Assign [.Name x p'] e pos :: rest) T :=
  blk_cons (ps_set Z.nd hi hx pe_sem hs hf) fun Pn q σ H E => (he.run _ q σ H E).mono fun v H' ⟨D, fv, q', d, E', r⟩ => (h D fv d).run Pn _ _ H' (E'.put_d (by simpa using hl) r)
theorem blk_retE (he : EvM C ρ e n A Cl G R) (h : ∀ D fv, R D fv → T.rt D) (hm : T.mr = none := by rfl) : Blk C ρ (.Return (some e) pos :: rest) T :=
  blk_cons (ps_ret pe_sem) fun Pn q σ H E => (he.run _ q σ H E).mono fun v H' ⟨D, fv, q', d, E', r⟩ => ends_rt hm ⟨D, h D fv d, E'.base.trans E'.same, Rp.mono (fun _ _ z => ⟨fun n => n, z.2⟩) (fun _ _ z => z) _ _ r⟩
theorem blk_ifNotM {B : List Stmt} (he : EvM C ρ e n A Cl G R) (hR : ∀ D fv, R D fv → ∃ y, D = .bool y ∧ (y = false → Blk C (ρ.set n (.ob A Cl fv G)) B { T with nx := fun _ => False }) ∧ (y = true → Blk C (ρ.set n (.ob A Cl fv G)) rest T))
    (hw : ∀ whole, isTrue e C.X.env whole = (do let v ← whole; standAt e.pos; holding [v] (truthy v)) := by intro _; rfl) : Blk C ρ (.If (.UnaryOp .Not e p) B [] pos :: rest) T :=
  blk_cons (ps_if (pt_not (pt_val pe_sem hw)) pss_sem pss_nil) fun Pn q σ H E => (he.run _ q σ H E).mono fun v H' ⟨D, fv, q', d, E', r⟩ => by
    obtain ⟨y, rfl, h1, h2⟩ := hR D fv d
    cases r
    refine ⟨y, rfl, ?_⟩
    cases y with
    | false =>
      rw [if_pos (show (!false) = true from rfl)]
      exact ((h1 rfl).run Pn q' _ H' E').mono (fun _ _ ⟨_, _, z, _⟩ => z.elim) (fun _ _ z => z) (fun _ _ z => z) (fun _ _ z => z)
    | true =>
      rw [if_neg (show ¬ (!true) = true from by decide)]
      exact (h2 rfl).run Pn q' _ H' E'
end
structure MkOk (K : PySem.W.Frag) (mg : Str → Option Value) (x : Str) (Cl : Addr) : Prop where
  ex : mg x = some (.ref Cl) ∧ PySem.W.makesIn K Cl = true ∧ PySem.W.keepIn K (.ref Cl) = true
section
variable {C : Ct} {ρ : List SV} {e : Expr} {es : List Expr} {rest : List Stmt} {pos p p' : Pos} {T : Tn} {k m : Nat} {Cl : Addr} {x y : Str} {As : List SV} {S : MSpec} {R : PyData → List (Str × FV) → Prop}
theorem blk_make (Z : Cz C k) (hi : C.X.N[m]? = some x) (hx : Loc C.X.env.scope x) (hf : C.X.fn x = true ∨ C.X.env.scope.names.lookup x = some .local) (hl : m < ρ.length) {j : Nat} (P : C.PromM j Cl "__init__" S) (hr : Room (j + 1) C.X.A) (M : MkOk C.X.K C.X.mg y Cl) (ha : ArgsM C ρ (e :: es) As)
    (hS : S [] As R (fun _ _ => False)) (hR : ∀ D fv, R D fv → D = .none) (h : ∀ a fv, R .none fv → Blk C (ρ.set m (.ob a Cl fv [])) rest T)
    (hdb : (y == ("__debug__" : Str)) = false := by decide) (he : starEach (e :: es) C.X.env = (false, eval e C.X.env) :: starEach es C.X.env := by rfl) (hpl : (backTo p (starEach es C.X.env)).any (·.1) = false := by rfl) (hg : Gl C.X y := by rfl)
    (hs : swapsWith (.Call (.Name y p') (e :: es) [] p) (some (.Name x pos)) pos'.line C.X.env = pure false := by rfl) : Blk C ρ (.Assign [.Name x pos] (.Call (.Name y p') (e :: es) [] p) pos' :: rest) T := by
  obtain ⟨g, fd, ps, hM, hb, Fn⟩ := P.ex
  obtain ⟨m1, m2, m3⟩ := M.ex
  have MK : Mk C.X.K Cl g := ⟨m2, hM.at_, hM.fn, m3⟩
  refine blk_cons (ps_set Z.nd hi hx (pe_make (dvs := []) (E := fun _ _ _ => False) MK Fn hr hg m1 hb .nil noXs pa_sem hdb he hpl) hs hf) fun Pn q σ H E => ?_
  refine (ha.run _ N0 q σ H E).mono fun vs H1 ⟨s1, r1⟩ => fun a dx na ndx nad => ?_
  have E1 := E.grow s1
  have s2 : Same H1 (upd (upd H1 dx (.own a)) a (.ins Cl dx [])) := fun b o e => by
    rw [upd_ne (ne_of_none e na), upd_ne (ne_of_none e ndx)]; exact e
  have ea : upd (upd H1 dx (.own a)) a (.ins Cl dx []) a = some (.ins Cl dx []) := upd_same
  have edx : upd (upd H1 dx (.own a)) a (.ins Cl dx []) dx = some (.own a) := by rw [upd_ne nad, upd_same]
  generalize hH2 : upd (upd H1 dx (.own a)) a (.ins Cl dx []) = H2 at s2 ea edx
  have E2 := (E1.addN (l := [a, dx]) s2 fun b hb => by
    simp only [List.mem_cons, List.not_mem_nil, or_false] at hb
    rcases hb with rfl | rfl
    · exact ⟨na, _, ea, (fun _ z => nomatch z), (fun _ _ z => nomatch z)⟩
    · exact ⟨ndx, _, edx, (fun _ z => nomatch z), (fun _ _ z => nomatch z)⟩)
  have E3 := E2.forget (i := m)
  obtain ⟨O, hO, hO2⟩ := E3.others
  have ml : ∀ b, b ∈ a :: dx :: (([] : List Fd).flatMap ownFd ++ (([] : List (Addr × HO)) ++ O).map (·.1)) ↔ Own (clr q m []) (fun b => N0 b ∨ b ∈ [a, dx]) b := fun b => by
    simp only [List.flatMap_nil, List.nil_append, List.mem_cons]
    constructor
    · rintro (h | h | h)
      · exact .inl (.inr (by simp [h]))
      · exact .inl (.inr (by simp [h]))
      · obtain ⟨g, hgm, rfl⟩ := List.mem_map.mp h
        obtain ⟨⟨j, hj⟩, _⟩ := hO2 g hgm
        exact .inr ⟨j, hj⟩
    · rintro ((h | h) | ⟨j, h⟩)
      · exact h.elim
      · simp only [List.mem_cons, List.not_mem_nil, or_false] at h
        rcases h with h | h
        · exact .inl h
        · exact .inr (.inl h)
      · exact .inr (.inr (hO j b h))
  generalize el1 : a :: dx :: (([] : List Fd).flatMap ownFd ++ (([] : List (Addr × HO)) ++ O).map (·.1)) = l1 at ml
  have t : Shift H1 (Own q N0) H2 (· ∈ l1) := ⟨fun b o _ z => s2 b o z, fun b hb => by
    rcases (ml b).mp hb with (h | h) | ⟨j, h⟩
    · exact h.elim
    · simp only [List.mem_cons, List.not_mem_nil, or_false] at h
      rcases h with rfl | rfl
      · exact .inr na
      · exact .inr ndx
    · exact .inl (.inr ⟨j, qsub_clr.1 j b h⟩), E1.own⟩
  refine ⟨a, [], [] ++ O, l1, vs, As, R, _, by rw [List.append_nil], hS, ?_, fun b hb => E3.own b ((ml b).mp hb), ArgsM.shiftP t r1, fun v H' D fv' l' hRD M' rv => ?_, fun _ _ _ _ z _ => z⟩
  · refine ⟨dx, [], rfl, el1.symm, ea, edx, (fun t ht => nomatch ht), ?_, fun g hgm => ?_, by decide⟩
    · simp only [List.flatMap_nil, List.nodup_cons, List.mem_cons, List.not_mem_nil, or_false, not_false_eq_true, List.nodup_nil, and_true]
      exact fun z => nad z.symm
    · obtain ⟨⟨j, hj⟩, e1⟩ := hO2 g (by simpa using hgm)
      refine ⟨e1, fun w => E3.dis g.1 j ?_ hj⟩
      simp only [List.flatMap_nil, List.mem_cons, List.not_mem_nil, or_false] at w
      rcases w with w | w
      · exact .inr (by simp [w])
      · exact .inr (by simp [w])
  · have eD := hR D fv' hRD
    subst eD
    cases rv
    refine ⟨rfl, ?_⟩
    obtain ⟨q', E', _, _⟩ := Ct.Env.after (n := m) (G := []) (O := O) E3 (by simpa using hl) clr_same hO (fun g hgm => (hO2 g hgm).2) ml (fun g hgm => nomatch hgm) M'
    rw [List.set_set] at E'
    exact (h a fv' hRD).run Pn q' _ H' E'
end
end Rk
namespace Sx
def sm (n : Nat) (f : Nat → Int) : Int := match n with
  | 0 => 0
  | n + 1 => sm n f + f n
theorem sm_congr {f g : Nat → Int} : ∀ {n : Nat}, (∀ k, k < n → f k = g k) → sm n f = sm n g
  | 0, _ => rfl
  | n + 1, h => by
    show sm n f + f n = sm n g + g n
    rw [sm_congr fun k hk => h k (by omega), h n (by omega)]
theorem sm_zero {f : Nat → Int} {n : Nat} (h : ∀ k, k < n → f k = 0) : sm n f = 0 := by
  induction n with
  | zero => rfl
  | succ n ih => show sm n f + f n = 0; rw [ih fun k hk => h k (by omega), h n (by omega)]; rfl
theorem sm_add (f g : Nat → Int) : ∀ n : Nat, sm n (fun k => f k + g k) = sm n f + sm n g
  | 0 => rfl
  | n + 1 => by
    show sm n _ + (f n + g n) = (sm n f + f n) + (sm n g + g n)
    rw [sm_add f g n]; omega
theorem sm_sub (f g : Nat → Int) : ∀ n : Nat, sm n (fun k => f k - g k) = sm n f - sm n g
  | 0 => rfl
  | n + 1 => by
    show sm n _ + (f n - g n) = (sm n f + f n) - (sm n g + g n)
    rw [sm_sub f g n]; omega
theorem sm_mul (c : Int) (f : Nat → Int) : ∀ n : Nat, sm n (fun k => c * f k) = c * sm n f
  | 0 => by simp [sm]
  | n + 1 => by
    show sm n _ + c * f n = c * (sm n f + f n)
    rw [sm_mul c f n, Int.mul_add]
theorem sm_mulr (c : Int) (f : Nat → Int) (n : Nat) : sm n (fun k => f k * c) = sm n f * c := by
  rw [Int.mul_comm, ← sm_mul]
  exact sm_congr fun k _ => Int.mul_comm _ _
theorem sm_one {f : Nat → Int} {i : Nat} : ∀ {n : Nat}, i < n → (∀ k, k < n → k ≠ i → f k = 0) → sm n f = f i
  | 0, h, _ => absurd h (by omega)
  | n + 1, h, hz => by
    show sm n f + f n = f i
    by_cases e : i = n
    · subst e
      rw [sm_zero fun k hk => hz k (by omega) (by omega), Int.zero_add]
    · rw [sm_one (n := n) (by omega) fun k hk hn => hz k (by omega) hn, hz n (by omega) (Ne.symm e), Int.add_zero]
theorem sm_two {f : Nat → Int} {i j : Nat} : ∀ {n : Nat}, i < n → j < n → i ≠ j → (∀ k, k < n → k ≠ i → k ≠ j → f k = 0) → sm n f = f i + f j
  | 0, h, _, _, _ => absurd h (by omega)
  | n + 1, h, h2, hn, hz => by
    show sm n f + f n = f i + f j
    by_cases e : i = n
    · subst e
      rw [sm_one (i := j) (by omega) fun k hk hk2 => hz k (by omega) (by omega) hk2, Int.add_comm]
    · by_cases e2 : j = n
      · subst e2
        rw [sm_one (i := i) (by omega) fun k hk hk2 => hz k (by omega) hk2 (by omega)]
      · rw [sm_two (n := n) (by omega) (by omega) hn fun k hk h1 h2 => hz k (by omega) h1 h2, hz n (by omega) (Ne.symm e) (Ne.symm e2), Int.add_zero]
theorem sm_comm (f : Nat → Nat → Int) (m : Nat) : ∀ n : Nat, sm n (fun i => sm m fun j => f i j) = sm m fun j => sm n fun i => f i j
  | 0 => (sm_zero fun _ _ => rfl).symm
  | n + 1 => by
    show sm n (fun i => sm m fun j => f i j) + sm m (fun j => f n j) = _
    rw [sm_comm f m n, ← sm_add]; rfl
theorem sm_out (f : Nat → Int) {i : Nat} : ∀ {n : Nat}, i < n → sm n f = sm n (fun k => if k = i then 0 else f k) + f i
  | 0, h => absurd h (by omega)
  | n + 1, h => by
    show sm n f + f n = sm n (fun k => if k = i then 0 else f k) + (if n = i then 0 else f n) + f i
    by_cases e : n = i
    · subst e
      rw [if_pos rfl, Int.add_zero]
      congr 1
      exact sm_congr fun k hk => by rw [if_neg (by omega)]
    · rw [if_neg e, sm_out f (n := n) (i := i) (by omega)]; omega
theorem sm_nonneg {f : Nat → Int} {n : Nat} (h : ∀ k, k < n → 0 ≤ f k) : 0 ≤ sm n f := by
  induction n with
  | zero => exact Int.le_refl _
  | succ n ih =>
    show 0 ≤ sm n f + f n
    have := ih fun k hk => h k (by omega)
    have := h n (by omega)
    omega
theorem sm_neg {f : Nat → Int} {n : Nat} (h : sm n f < 0) : ∃ k, k < n ∧ f k < 0 := by
  refine Classical.byContradiction fun c => ?_
  have : 0 ≤ sm n f := sm_nonneg fun k hk => Int.not_lt.mp fun z => c ⟨k, hk, z⟩
  omega
theorem sm_abs {f : Nat → Int} {B : Nat} : ∀ {n : Nat}, (∀ k, k < n → (f k).natAbs ≤ B) → (sm n f).natAbs ≤ n * B
  | 0, _ => by simp [sm]
  | n + 1, h => by
    show (sm n f + f n).natAbs ≤ _
    have h1 := sm_abs (n := n) fun k hk => h k (by omega)
    have h2 := h n (by omega)
    have := Int.natAbs_add_le (sm n f) (f n)
    rw [Nat.succ_mul]
    omega
abbrev Fam := Nat → Nat → Int
def skip (k : Nat) (v : Fam) : Fam := fun i => if i < k then v i else v (i + 1)
def sgn (n : Nat) : Int := if n % 2 = 0 then 1 else -1
theorem sgn_succ (n : Nat) : sgn (n + 1) = - sgn n := by
  rcases Nat.mod_two_eq_zero_or_one n with h | h
  · show (if (n + 1) % 2 = 0 then (1 : Int) else -1) = -(if n % 2 = 0 then 1 else -1)
    rw [if_pos h, if_neg (by omega)]
  · show (if (n + 1) % 2 = 0 then (1 : Int) else -1) = -(if n % 2 = 0 then 1 else -1)
    rw [if_neg (by omega : ¬ n % 2 = 0), if_pos (by omega)]; rfl
theorem sgn_sq (n : Nat) : sgn n * sgn n = 1 := by unfold sgn; split <;> rfl
theorem sgn_add (n m : Nat) : sgn (n + m) = sgn n * sgn m := by
  induction m with
  | zero => simp [sgn]
  | succ m ih => rw [← Nat.add_assoc, sgn_succ, sgn_succ, ih, Int.mul_neg]
theorem sgn_two (n : Nat) : sgn (n + n) = 1 := by rw [sgn_add, sgn_sq]
def det : Nat → Fam → Int
  | 0, _ => 1
  | M + 1, v => sm (M + 1) fun k => sgn (M + k) * v k M * det M (skip k v)
theorem det_congr : ∀ {M : Nat} {v w : Fam}, (∀ k, k < M → ∀ r, r < M → v k r = w k r) → det M v = det M w
  | 0, _, _, _ => rfl
  | M + 1, v, w, h => sm_congr fun k hk => by
    rw [h k hk M (by omega), det_congr (M := M) (v := skip k v) (w := skip k w) fun i hi r hr => ?_]
    unfold skip
    split
    · exact h i (by omega) r (by omega)
    · exact h (i + 1) (by omega) r (by omega)
def put (v : Fam) (i : Nat) (x : Nat → Int) : Fam := fun k => if k = i then x else v k
theorem put_same {v : Fam} {i : Nat} {x : Nat → Int} : put v i x i = x := if_pos rfl
theorem put_ne {v : Fam} {i k : Nat} {x : Nat → Int} (h : k ≠ i) : put v i x k = v k := if_neg h
theorem skip_put_same {v : Fam} {i : Nat} {x : Nat → Int} : skip i (put v i x) = skip i v := by
  funext k
  unfold skip put
  split
  · rw [if_neg (by omega)]
  · rw [if_neg (by omega)]
theorem skip_put {v : Fam} {i k : Nat} {x : Nat → Int} (h : k ≠ i) : skip k (put v i x) = put (skip k v) (if i < k then i else i - 1) x := by
  funext l
  by_cases h2 : i < k
  · rw [if_pos h2]
    show (if l < k then (if l = i then x else v l) else (if l + 1 = i then x else v (l + 1))) = if l = i then x else (if l < k then v l else v (l + 1))
    by_cases h1 : l < k
    · rw [if_pos h1, if_pos h1]
    · rw [if_neg h1, if_neg h1, if_neg (by omega), if_neg (by omega)]
  · rw [if_neg h2]
    show (if l < k then (if l = i then x else v l) else (if l + 1 = i then x else v (l + 1))) = if l = i - 1 then x else (if l < k then v l else v (l + 1))
    by_cases h1 : l < k
    · rw [if_pos h1, if_pos h1, if_neg (by omega), if_neg (by omega)]
    · rw [if_neg h1, if_neg h1]
      by_cases h3 : l + 1 = i
      · rw [if_pos h3, if_pos (by omega)]
      · rw [if_neg h3, if_neg (by omega)]
theorem det_lin : ∀ {M : Nat} {v : Fam} {i : Nat} (x y : Nat → Int) (a b : Int), i < M → det M (put v i fun r => a * x r + b * y r) = a * det M (put v i x) + b * det M (put v i y)
  | 0, _, _, _, _, _, _, h => absurd h (by omega)
  | M + 1, v, i, x, y, a, b, h => by
    show sm (M + 1) _ = a * sm (M + 1) _ + b * sm (M + 1) _
    rw [← sm_mul, ← sm_mul, ← sm_add]
    refine sm_congr fun k hk => ?_
    by_cases e : k = i
    · subst e
      rw [put_same, put_same, put_same, skip_put_same, skip_put_same, skip_put_same]
      grind
    · rw [put_ne e, put_ne e, put_ne e, skip_put e, skip_put e, skip_put e, det_lin x y a b (by split <;> omega)]
      grind
theorem det_smul {M : Nat} {v : Fam} {i : Nat} (x : Nat → Int) (a : Int) (h : i < M) : det M (put v i fun r => a * x r) = a * det M (put v i x) := by
  have := det_lin (v := v) x (fun _ => 0) a 0 h
  simpa using this
theorem det_sum {M : Nat} {v : Fam} {i : Nat} (x : Nat → Nat → Int) (t : Nat → Int) (h : i < M) : ∀ n : Nat, det M (put v i fun r => sm n fun k => t k * x k r) = sm n fun k => t k * det M (put v i (x k))
  | 0 => by
    have := det_smul (v := v) (i := i) (fun _ => 0) 0 h
    simpa [sm] using this
  | n + 1 => by
    have := det_lin (v := v) (i := i) (fun r => sm n fun k => t k * x k r) (x n) 1 (t n) h
    simp only [Int.one_mul] at this
    show det M (put v i fun r => (sm n fun k => t k * x k r) + t n * x n r) = _
    rw [this, det_sum x t h n]; rfl
theorem det_adj : ∀ {M : Nat} {v : Fam} {i : Nat}, i + 1 < M → (∀ r, r < M → v i r = v (i + 1) r) → det M v = 0
  | 0, _, _, h, _ => absurd h (by omega)
  | M + 1, v, i, h, e => by
    show sm (M + 1) _ = 0
    rw [sm_two (i := i) (j := i + 1) (by omega) h (by omega)]
    · have e1 : det M (skip i v) = det M (skip (i + 1) v) := det_congr fun k hk r hr => by
        unfold skip
        by_cases h1 : k < i
        · rw [if_pos h1, if_pos (by omega)]
        · rw [if_neg h1]
          by_cases h2 : k < i + 1
          · rw [if_pos h2]
            have : k = i := by omega
            subst this
            exact (e r (by omega)).symm
          · rw [if_neg h2]
      rw [e M (by omega), e1, ← Nat.add_assoc, sgn_succ]
      grind
    · intro k hk h1 h2
      have : det M (skip k v) = 0 := by
        by_cases l : i < k
        · refine det_adj (i := i) (by omega) fun r hr => ?_
          unfold skip
          rw [if_pos l, if_pos (by omega)]
          exact e r (by omega)
        · refine det_adj (i := i - 1) (by omega) fun r hr => ?_
          unfold skip
          rw [if_neg (by omega), if_neg (by omega)]
          have := e r (by omega)
          rwa [show i - 1 + 1 = i by omega]
      rw [this, Int.mul_zero]
theorem det_swap {M : Nat} {v : Fam} {i : Nat} (h : i + 1 < M) : det M (put (put v i (v (i + 1))) (i + 1) (v i)) = - det M v := by
  have z : det M (put (put v i fun r => 1 * v i r + 1 * v (i + 1) r) (i + 1) fun r => 1 * v i r + 1 * v (i + 1) r) = 0 := by
    refine det_adj h fun r _ => ?_
    rw [put_same, put_ne (by omega), put_same]
  rw [det_lin _ _ 1 1 h] at z
  have comm : ∀ x y, put (put v i x) (i + 1) y = put (put v (i + 1) y) i x := by
    intro x y
    funext k
    unfold put
    by_cases h1 : k = i
    · rw [if_neg (by omega), if_pos h1, if_pos h1]
    · by_cases h2 : k = i + 1
      · rw [if_pos h2, if_neg h1, if_pos h2]
      · rw [if_neg h2, if_neg h1, if_neg h1, if_neg h2]
  rw [comm, comm, det_lin _ _ 1 1 (by omega), det_lin _ _ 1 1 (by omega), ← comm, ← comm, ← comm, ← comm] at z
  have z1 : det M (put (put v i (v i)) (i + 1) (v i)) = 0 := det_adj h fun r _ => by rw [put_same, put_ne (by omega), put_same]
  have z2 : det M (put (put v i (v (i + 1))) (i + 1) (v (i + 1))) = 0 := det_adj h fun r _ => by rw [put_same, put_ne (by omega), put_same]
  have z3 : put (put v i (v i)) (i + 1) (v (i + 1)) = v := by
    funext k
    unfold put
    by_cases h2 : k = i + 1
    · rw [if_pos h2, h2]
    · rw [if_neg h2]
      by_cases h1 : k = i
      · rw [if_pos h1, h1]
      · rw [if_neg h1]
  rw [z1, z2, z3] at z
  omega
theorem det_alt {M : Nat} : ∀ (n : Nat) {v : Fam} {i : Nat}, i + 1 + n < M → (∀ r, r < M → v i r = v (i + 1 + n) r) → det M v = 0
  | 0, v, i, h, e => det_adj h e
  | n + 1, v, i, h, e => by
    have s := det_swap (v := v) (i := i + 1 + n) h
    rw [det_alt n (v := put (put v (i + 1 + n) (v (i + 1 + n + 1))) (i + 1 + n + 1) (v (i + 1 + n))) (i := i) (by omega) fun r hr => ?_] at s
    · omega
    · rw [put_ne (by omega), put_ne (by omega), put_ne (by omega), put_same]
      exact e r hr
theorem det_eq {M : Nat} {v : Fam} {i j : Nat} (hi : i < M) (hj : j < M) (hn : i ≠ j) (e : ∀ r, r < M → v i r = v j r) : det M v = 0 := by
  rcases Nat.lt_or_gt_of_ne hn with h | h
  · refine det_alt (j - i - 1) (i := i) (by omega) fun r hr => ?_
    rw [e r hr]; congr 1; omega
  · refine det_alt (i - j - 1) (i := j) (by omega) fun r hr => ?_
    rw [← e r hr]; congr 1; omega
theorem put_self {v : Fam} {i : Nat} : put v i (v i) = v := by
  funext k
  unfold put
  by_cases h1 : k = i
  · rw [if_pos h1, h1]
  · rw [if_neg h1]
theorem cramer {M : Nat} {v : Fam} {x t : Nat → Int} {d : Int} {i : Nat} (hi : i < M) (h : ∀ r, r < M → d * x r = sm M fun k => t k * v k r) : d * det M (put v i x) = t i * det M v := by
  rw [← det_smul x d hi, det_congr (w := put v i fun r => sm M fun k => t k * v k r), det_sum v t hi M, sm_one hi, put_self]
  · intro k hk hn
    rw [det_eq (v := put v i (v k)) (i := i) (j := k) hi hk (Ne.symm hn) fun r hr => by rw [put_same, put_ne hn], Int.mul_zero]
  · intro k hk r hr
    by_cases e : k = i
    · subst e; rw [put_same, put_same]; exact h r hr
    · rw [put_ne e, put_ne e]
def unit : Fam := fun k r => if k = r then 1 else 0
theorem det_unit : ∀ M : Nat, det M unit = 1
  | 0 => rfl
  | M + 1 => by
    show sm (M + 1) _ = 1
    rw [sm_one (i := M) (by omega) fun k hk hn => ?_]
    · rw [sgn_two, det_congr (w := unit) fun k hk r hr => ?_, det_unit M]
      · simp [unit]
      · unfold skip; rw [if_pos hk]
    · unfold unit
      rw [if_neg hn]; simp
def fac : Nat → Nat
  | 0 => 1
  | n + 1 => (n + 1) * fac n
theorem det_abs {B : Nat} : ∀ {M : Nat} {v : Fam}, (∀ k, k < M → ∀ r, r < M → (v k r).natAbs ≤ B) → (det M v).natAbs ≤ fac M * B ^ M
  | 0, _, _ => by simp [det, fac]
  | M + 1, v, h => by
    refine Nat.le_trans (sm_abs (B := B * (fac M * B ^ M)) fun k hk => ?_) ?_
    · rw [Int.natAbs_mul, Int.natAbs_mul]
      have e : (sgn (M + k)).natAbs = 1 := by unfold sgn; split <;> rfl
      rw [e, Nat.one_mul]
      refine Nat.mul_le_mul (h k hk M (by omega)) (det_abs fun i hi r hr => ?_)
      unfold skip
      split
      · exact h i (by omega) r (by omega)
      · exact h (i + 1) (by omega) r (by omega)
    · show _ ≤ (M + 1) * fac M * B ^ (M + 1)
      rw [Nat.pow_succ, Nat.mul_assoc]
      refine Nat.mul_le_mul_left _ (Nat.le_of_eq ?_)
      rw [Nat.mul_left_comm, Nat.mul_comm B (B ^ M), ]
end Sx
namespace Sx
structure Prob where
  m : Nat
  w : Nat
  T0 : Nat → Nat → Int
  σ : Nat → Int
  hσ : ∀ i, i < m → σ i * σ i = 1
  sl : ∀ i, i < m → ∀ k, k ≤ m → T0 k (w + i) = if k = i then σ i else 0
abbrev Prob.N (p : Prob) : Nat := p.w + p.m
abbrev Tb := Nat → Nat → Int
structure Inv0 (p : Prob) (T : Tb) (d : Int) (v : Fam) : Prop where
  d0 : 0 < d
  rl : ∀ j, j ≤ p.N → ∀ r, r ≤ p.m → d * p.T0 r j = sm (p.m + 1) fun k => T k j * v k r
  dt : ∃ s : Int, s * s = 1 ∧ det (p.m + 1) v = s * d
  co : ∀ k, k ≤ p.m → ∀ j, j ≤ p.N → T k j = (sm p.m fun i => T k (p.w + i) * p.σ i * p.T0 i j) + (if k = p.m then d * p.T0 p.m j else 0)
  vm : ∀ r, r ≤ p.m → v p.m r = if r = p.m then 1 else 0
def turnT (T : Tb) (d : Int) (a c : Nat) : Tb := fun l j => if l = a then T a j else (T l j * T a c - T l c * T a j) / d
section
variable {p : Prob} {T : Tb} {d : Int} {v : Fam} {a c : Nat}
theorem Inv0.entry (I : Inv0 p T d v) {k j : Nat} (hk : k ≤ p.m) (hj : j ≤ p.N) {s : Int} (hs : s * s = 1) (e : det (p.m + 1) v = s * d) : T k j = s * det (p.m + 1) (put v k fun r => p.T0 r j) := by
  have h := cramer (v := v) (x := fun r => p.T0 r j) (t := fun k => T k j) (d := d) (i := k) (by omega) fun r hr => I.rl j hj r (by omega)
  rw [e] at h
  have d0 := I.d0
  have h2 : d * (s * det (p.m + 1) (put v k fun r => p.T0 r j)) = d * T k j := by grind
  exact (Int.eq_of_mul_eq_mul_left (by omega) h2).symm
theorem Inv0.turn (I : Inv0 p T d v) (ha : a < p.m) (hc : c ≤ p.N) (h0 : 0 < T a c) :
    (∀ l, l ≤ p.m → l ≠ a → ∀ j, j ≤ p.N → turnT T d a c l j * d = T l j * T a c - T l c * T a j) ∧
    Inv0 p (turnT T d a c) (T a c) (put v a fun r => p.T0 r c) := by
  have d0 := I.d0
  obtain ⟨s, hs, e⟩ := I.dt
  have e' : det (p.m + 1) (put v a fun r => p.T0 r c) = s * T a c := by
    have h := cramer (v := v) (x := fun r => p.T0 r c) (t := fun k => T k c) (d := d) (i := a) (by omega) fun r hr => I.rl c hc r (by omega)
    rw [e] at h
    refine Int.eq_of_mul_eq_mul_left (a := d) (by omega) ?_
    rw [h]; grind
  -- the new sums, times d
  let X : Nat → Nat → Int := fun k j => if k = a then d * T a j else T k j * T a c - T k c * T a j
  have hX : ∀ j, j ≤ p.N → ∀ r, r ≤ p.m → d * T a c * p.T0 r j = sm (p.m + 1) fun k => X k j * put v a (fun r => p.T0 r c) k r := by
    intro j hj r hr
    have r1 := I.rl j hj r hr
    have r2 := I.rl c hc r hr
    rw [sm_out _ (show a < p.m + 1 by omega)] at r1 r2
    rw [sm_out _ (show a < p.m + 1 by omega)]
    have e1 : (sm (p.m + 1) fun k => if k = a then 0 else X k j * put v a (fun r => p.T0 r c) k r) = T a c * (sm (p.m + 1) fun k => if k = a then 0 else T k j * v k r) - T a j * (sm (p.m + 1) fun k => if k = a then 0 else T k c * v k r) := by
      rw [← sm_mul, ← sm_mul, ← sm_sub]
      refine sm_congr fun k _ => ?_
      by_cases z : k = a
      · rw [if_pos z, if_pos z, if_pos z]; simp
      · rw [if_neg z, if_neg z, if_neg z, put_ne z]
        show (if k = a then _ else _) * _ = _
        rw [if_neg z]; grind
    rw [e1, put_same]
    show _ = _ + (if a = a then d * T a j else _) * _
    rw [if_pos rfl]
    grind
  have hdv : ∀ l, l ≤ p.m → l ≠ a → ∀ j, j ≤ p.N → d ∣ T l j * T a c - T l c * T a j := by
    intro l hl hn j hj
    have h := cramer (v := put v a fun r => p.T0 r c) (x := fun r => p.T0 r j) (t := fun k => X k j) (d := d * T a c) (i := l) (by omega) fun r hr => hX j hj r (by omega)
    rw [e'] at h
    have hXl : X l j = T l j * T a c - T l c * T a j := if_neg hn
    rw [hXl] at h
    refine ⟨s * det (p.m + 1) (put (put v a fun r => p.T0 r c) l fun r => p.T0 r j), ?_⟩
    refine Int.eq_of_mul_eq_mul_left (a := T a c) (by omega) ?_
    grind
  have hT : ∀ l, l ≤ p.m → l ≠ a → ∀ j, j ≤ p.N → turnT T d a c l j * d = T l j * T a c - T l c * T a j := by
    intro l hl hn j hj
    show (if l = a then _ else _) * d = _
    rw [if_neg hn]
    exact Int.ediv_mul_cancel (hdv l hl hn j hj)
  have hTa : ∀ j, turnT T d a c a j = T a j := fun j => if_pos rfl
  refine ⟨hT, h0, fun j hj r hr => ?_, ⟨s, hs, e'⟩, fun k hk j hj => ?_, fun r hr => ?_⟩
  · refine Int.eq_of_mul_eq_mul_left (a := d) (by omega) ?_
    rw [← sm_mul, ← Int.mul_assoc, hX j hj r hr]
    refine sm_congr fun k hk => ?_
    by_cases z : k = a
    · subst z
      rw [hTa, ← Int.mul_assoc]
      show (if k = k then _ else _) * _ = _
      rw [if_pos rfl]
    · have := hT k (by omega) z j hj
      show (if k = a then _ else _) * _ = _
      rw [if_neg z, ← this]
      grind
  · by_cases z : k = a
    · subst z
      rw [hTa, if_neg (by omega)]
      have := I.co k hk j hj
      rw [if_neg (by omega)] at this
      rw [this]
      congr 1
      exact sm_congr fun i _ => by rw [hTa]
    · refine Int.eq_of_mul_eq_mul_left (a := d) (by omega) ?_
      have h1 := hT k hk z j hj
      have h2 := I.co k hk j hj
      have h3 := I.co a (by omega) j hj
      rw [if_neg (by omega), Int.add_zero] at h3
      have h4 : d * (sm p.m fun i => turnT T d a c k (p.w + i) * p.σ i * p.T0 i j) = T a c * (sm p.m fun i => T k (p.w + i) * p.σ i * p.T0 i j) - T k c * (sm p.m fun i => T a (p.w + i) * p.σ i * p.T0 i j) := by
        rw [← sm_mul, ← sm_mul, ← sm_mul, ← sm_sub]
        refine sm_congr fun i hi => ?_
        have := hT k hk z (p.w + i) (by show p.w + i ≤ p.w + p.m; omega)
        have e9 : d * (turnT T d a c k (p.w + i) * p.σ i * p.T0 i j) = (turnT T d a c k (p.w + i) * d) * (p.σ i * p.T0 i j) := by grind
        rw [e9, this]; grind
      rw [Int.mul_add, h4, Int.mul_comm d, h1, ← h3]
      by_cases zm : k = p.m
      · rw [if_pos zm] at h2 ⊢; rw [h2]; grind
      · rw [if_neg zm] at h2 ⊢; rw [h2]; grind
  · rw [put_ne (by omega)]; exact I.vm r hr
def Bas (p : Prob) (T : Tb) (d : Int) (v : Fam) (k b : Nat) : Prop := b < p.N ∧ (∀ r, r ≤ p.m → v k r = p.T0 r b) ∧ ∀ l, l ≤ p.m → T l b = if l = k then d else 0
theorem Bas.turn {k b : Nat} (B : Bas p T d v k b) (hd : d ≠ 0) (hk : k < p.m) (ha : a < p.m) (hn : k ≠ a) : Bas p (turnT T d a c) (T a c) (put v a fun r => p.T0 r c) k b := by
  obtain ⟨h1, h2, h3⟩ := B
  refine ⟨h1, fun r hr => by rw [put_ne hn]; exact h2 r hr, fun l hl => ?_⟩
  have za := h3 a (by omega)
  rw [if_neg (Ne.symm hn)] at za
  show (if l = a then _ else _) = _
  by_cases z : l = a
  · rw [if_pos z, za, if_neg (by omega)]
  · rw [if_neg z, za, h3 l hl]
    by_cases y : l = k
    · rw [if_pos y, if_pos y, Int.mul_zero, Int.sub_zero, Int.mul_ediv_cancel_left _ hd]
    · rw [if_neg y, if_neg y]; simp
theorem bas_new (hc : c < p.N) : Bas p (turnT T d a c) (T a c) (put v a fun r => p.T0 r c) a c := by
  refine ⟨hc, fun r hr => by rw [put_same], fun l hl => ?_⟩
  show (if l = a then _ else _) = _
  by_cases z : l = a
  · rw [if_pos z, if_pos z]
  · rw [if_neg z, if_neg z]
    have : T l c * T a c - T l c * T a c = 0 := by omega
    rw [this]; simp
end
def vOf (p : Prob) (β : Nat → Nat) : Fam := fun k r => if k < p.m then p.T0 r (β k) else if r = p.m then 1 else 0
structure Inv (p : Prob) (T : Tb) (d : Int) (β : Nat → Nat) : Prop where
  i0 : Inv0 p T d (vOf p β)
  bs : ∀ k, k < p.m → Bas p T d (vOf p β) k (β k)
  fe : ∀ k, k < p.m → 0 ≤ T k p.N
theorem Inv0.congr {p : Prob} {T : Tb} {d : Int} {v u : Fam} (I : Inv0 p T d v) (h : ∀ k, k ≤ p.m → ∀ r, r ≤ p.m → v k r = u k r) : Inv0 p T d u :=
  ⟨I.d0, fun j hj r hr => by rw [I.rl j hj r hr]; exact sm_congr fun k hk => by rw [h k (by omega) r hr],
    by
      obtain ⟨s, h1, h2⟩ := I.dt
      exact ⟨s, h1, by rw [← h2]; exact det_congr fun k hk r hr => (h k (by omega) r (by omega)).symm⟩, I.co,
    fun r hr => by rw [← h p.m (by omega) r hr]; exact I.vm r hr⟩
theorem Bas.congr {p : Prob} {T : Tb} {d : Int} {v u : Fam} {k b : Nat} (B : Bas p T d v k b) (hk : k ≤ p.m) (h : ∀ k, k ≤ p.m → ∀ r, r ≤ p.m → v k r = u k r) : Bas p T d u k b :=
  ⟨B.1, fun r hr => by rw [← h k hk r hr]; exact B.2.1 r hr, B.2.2⟩
def putN (β : Nat → Nat) (a c : Nat) : Nat → Nat := fun k => if k = a then c else β k
theorem vOf_put {p : Prob} {β : Nat → Nat} {a c : Nat} (ha : a < p.m) : ∀ k, k ≤ p.m → ∀ r, r ≤ p.m → put (vOf p β) a (fun r => p.T0 r c) k r = vOf p (putN β a c) k r := by
  intro k hk r hr
  unfold put vOf putN
  by_cases z : k = a
  · rw [if_pos z, if_pos (by omega), if_pos z]
  · rw [if_neg z, if_neg z]
section
variable {p : Prob} {T : Tb} {d : Int} {β : Nat → Nat} {a c : Nat}
theorem Inv.turnEq (I : Inv p T d β) (ha : a < p.m) (hc : c < p.N) (h0 : 0 < T a c) {l j : Nat} (hl : l ≤ p.m) (hn : l ≠ a) (hj : j ≤ p.N) : turnT T d a c l j * d = T l j * T a c - T l c * T a j :=
  (I.i0.turn ha (by omega) h0).1 l hl hn j hj
theorem Inv.turn (I : Inv p T d β) (ha : a < p.m) (hc : c < p.N) (h0 : 0 < T a c) (hr : ∀ k, k < p.m → 0 < T k c → T a p.N * T k c ≤ T k p.N * T a c) : Inv p (turnT T d a c) (T a c) (putN β a c) := by
  have d0 := I.i0.d0
  refine ⟨(I.i0.turn ha (by omega) h0).2.congr (vOf_put ha), fun k hk => ?_, fun k hk => ?_⟩
  · by_cases z : k = a
    · subst z
      rw [show putN β k c k = c from if_pos rfl]
      exact (bas_new hc).congr (by omega) (vOf_put ha)
    · rw [show putN β a c k = β k from if_neg z]
      exact ((I.bs k hk).turn (by omega) hk ha z).congr (by omega) (vOf_put ha)
  · by_cases z : k = a
    · subst z
      rw [show turnT T d k c k p.N = T k p.N from if_pos rfl]; exact I.fe k hk
    · have e := I.turnEq ha hc h0 (l := k) (j := p.N) (by omega) z (by omega)
      have : 0 ≤ turnT T d a c k p.N * d := by
        rw [e]
        by_cases q : 0 < T k c
        · have := hr k hk q
          have e2 : T k c * T a p.N = T a p.N * T k c := Int.mul_comm _ _
          omega
        · have h1 : 0 ≤ T k p.N * T a c := Int.mul_nonneg (I.fe k hk) (by omega)
          have h2 : 0 ≤ (-T k c) * T a p.N := Int.mul_nonneg (by omega) (I.fe a ha)
          rw [Int.neg_mul] at h2
          omega
      exact Int.nonneg_of_mul_nonneg_left this d0
theorem Inv.told {T' : Tb} {d' : Int} {β' : Nat → Nat} (I : Inv p T d β) (I' : Inv p T' d' β') (h : ∀ k, k < p.m → β k = β' k) : d = d' ∧ ∀ k, k ≤ p.m → ∀ j, j ≤ p.N → T k j = T' k j := by
  obtain ⟨s, hs, e⟩ := I.i0.dt
  obtain ⟨s', hs', e'⟩ := I'.i0.dt
  have hv : ∀ k, k ≤ p.m → ∀ r, r ≤ p.m → vOf p β k r = vOf p β' k r := fun k hk r hr => by
    unfold vOf
    by_cases z : k < p.m
    · rw [if_pos z, if_pos z, h k z]
    · rw [if_neg z, if_neg z]
  have ed : det (p.m + 1) (vOf p β) = det (p.m + 1) (vOf p β') := det_congr fun k hk r hr => hv k (by omega) r (by omega)
  have d0 := I.i0.d0
  have d0' := I'.i0.d0
  have hss : s = s' ∧ d = d' := by
    have one : ∀ {x : Int}, x * x = 1 → x = 1 ∨ x = -1 := fun {x} hx => by
      have : (x - 1) * (x + 1) = 0 := by grind
      rcases Int.mul_eq_zero.mp this with z | z <;> omega
    rw [e, e'] at ed
    rcases one hs with rfl | rfl <;> rcases one hs' with rfl | rfl <;> omega
  obtain ⟨rfl, rfl⟩ := hss
  refine ⟨rfl, fun k hk j hj => ?_⟩
  rw [I.i0.entry hk hj hs e, I'.i0.entry hk hj hs' e']
  congr 1
  refine det_congr fun i hi r hr => ?_
  unfold put
  by_cases z : i = k
  · rw [if_pos z, if_pos z]
  · rw [if_neg z, if_neg z]; exact hv i (by omega) r (by omega)
end
end Sx
namespace Sx
theorem pigeon : ∀ (K : Nat) (g : Nat → Nat), (∀ n, n ≤ K → g n < K) → ∃ a b, a < b ∧ g a = g b
  | 0, g, h => absurd (h 0 (Nat.le_refl _)) (by omega)
  | K + 1, g, h => by
    by_cases e : ∃ n, n ≤ K ∧ g n = g (K + 1)
    · obtain ⟨n, h1, h2⟩ := e
      exact ⟨n, K + 1, by omega, h2⟩
    · have ne : ∀ n, n ≤ K → g n ≠ g (K + 1) := fun n hn z => e ⟨n, hn, z⟩
      obtain ⟨a, b, hab, hb⟩ := pigeon K (fun n => if n ≤ K then (if g n = K then g (K + 1) else g n) else n) (fun n hn => by
        rw [if_pos hn]
        have h1 := h n (by omega)
        have h2 := h (K + 1) (by omega)
        have h3 := ne n hn
        split <;> omega)
      by_cases hb' : b ≤ K
      · rw [if_pos hb', if_pos (by omega)] at hb
        have ha' := ne a (by omega)
        have hb'' := ne b (by omega)
        refine ⟨a, b, hab, ?_⟩
        split at hb <;> split at hb <;> omega
      · rw [if_neg hb'] at hb
        by_cases ha' : a ≤ K
        · rw [if_pos ha'] at hb
          have h1 := h a (by omega)
          have h2 := h (K + 1) (by omega)
          split at hb <;> omega
        · rw [if_neg ha'] at hb
          omega
def code (N : Nat) (β : Nat → Nat) : Nat → Nat
  | 0 => 0
  | m + 1 => code N β m * N + β m
theorem code_lt {N : Nat} {β : Nat → Nat} : ∀ {m : Nat}, (∀ k, k < m → β k < N) → code N β m < N ^ m
  | 0, _ => by simp [code]
  | m + 1, h => by
    have h1 := code_lt (m := m) fun k hk => h k (by omega)
    have h2 := h m (by omega)
    show code N β m * N + β m < N ^ (m + 1)
    rw [Nat.pow_succ]
    calc code N β m * N + β m < code N β m * N + N := by omega
      _ = (code N β m + 1) * N := by rw [Nat.add_mul, Nat.one_mul]
      _ ≤ N ^ m * N := Nat.mul_le_mul_right _ h1
theorem code_inj {N : Nat} {β β' : Nat → Nat} : ∀ {m : Nat}, (∀ k, k < m → β k < N) → (∀ k, k < m → β' k < N) → code N β m = code N β' m → ∀ k, k < m → β k = β' k
  | 0, _, _, _, k, hk => absurd hk (by omega)
  | m + 1, h, h', e, k, hk => by
    have h1 := h m (by omega)
    have h2 := h' m (by omega)
    have e' : code N β m * N + β m = code N β' m * N + β' m := e
    have n0 : 0 < N := by omega
    have em : β m = β' m := by
      have := congrArg (· % N) e'
      simp only [Nat.mul_add_mod_self_right, Nat.mod_eq_of_lt h1, Nat.mod_eq_of_lt h2] at this
      exact this
    by_cases z : k = m
    · rw [z]; exact em
    · refine code_inj (m := m) (fun k hk => h k (by omega)) (fun k hk => h' k (by omega)) ?_ k (by omega)
      rw [em] at e'
      exact Nat.eq_of_mul_eq_mul_right n0 (by omega)
structure Stt where
  T : Tb
  d : Int
  β : Nat → Nat
structure Step (p : Prob) (s s' : Stt) (a c : Nat) : Prop where
  hc : c < p.N
  c0 : s.T p.m c < 0
  cl : ∀ j, j < c → 0 ≤ s.T p.m j
  ha : a < p.m
  a0 : 0 < s.T a c
  ar : ∀ k, k < p.m → 0 < s.T k c → s.T a p.N * s.T k c < s.T k p.N * s.T a c ∨ (s.T a p.N * s.T k c = s.T k p.N * s.T a c ∧ s.β a ≤ s.β k)
  eT : ∀ l, l ≤ p.m → ∀ j, j ≤ p.N → s'.T l j = turnT s.T s.d a c l j
  ed : s'.d = s.T a c
  eβ : ∀ k, k < p.m → s'.β k = putN s.β a c k
section
variable {p : Prob}
theorem Inv.copy {T T' : Tb} {d d' : Int} {β β' : Nat → Nat} (I : Inv p T d β) (eT : ∀ l, l ≤ p.m → ∀ j, j ≤ p.N → T' l j = T l j) (ed : d' = d) (eβ : ∀ k, k < p.m → β' k = β k) : Inv p T' d' β' := by
  subst ed
  have hv : ∀ k, k ≤ p.m → ∀ r, r ≤ p.m → vOf p β k r = vOf p β' k r := fun k hk r hr => by
    unfold vOf
    by_cases z : k < p.m
    · rw [if_pos z, if_pos z, eβ k z]
    · rw [if_neg z, if_neg z]
  have J := I.i0.congr hv
  refine ⟨⟨J.d0, fun j hj r hr => ?_, J.dt, fun k hk j hj => ?_, J.vm⟩, fun k hk => ?_, fun k hk => ?_⟩
  · rw [J.rl j hj r hr]
    exact sm_congr fun k hk => by rw [eT k (by omega) j hj]
  · rw [eT k hk j hj, J.co k hk j hj]
    congr 1
    exact sm_congr fun i hi => by rw [eT k hk (p.w + i) (by show p.w + i ≤ p.w + p.m; omega)]
  · have B := (I.bs k hk).congr (by omega) hv
    rw [eβ k hk]
    refine ⟨B.1, B.2.1, fun l hl => ?_⟩
    rw [eT l hl _ (Nat.le_of_lt B.1)]
    exact B.2.2 l hl
  · rw [eT k (by omega) p.N (Nat.le_refl _)]; exact I.fe k hk
theorem Step.inv {s s' : Stt} {a c : Nat} (S : Step p s s' a c) (I : Inv p s.T s.d s.β) : Inv p s'.T s'.d s'.β :=
  (I.turn S.ha S.hc S.a0 fun k hk h => by
    rcases S.ar k hk h with z | z
    · omega
    · omega).copy S.eT S.ed S.eβ
def val (p : Prob) (s : Stt) : Rat := (s.T p.m p.N : Rat) / (s.d : Rat)
theorem Step.val {s s' : Stt} {a c : Nat} (S : Step p s s' a c) (I : Inv p s.T s.d s.β) : val p s ≤ val p s' ∧ (val p s = val p s' → s.T a p.N = 0) := by
  have d0 := I.i0.d0
  have am := S.ha
  have e := I.turnEq S.ha S.hc S.a0 (l := p.m) (j := p.N) (Nat.le_refl _) (by omega) (Nat.le_refl _)
  rw [← S.eT p.m (Nat.le_refl _) p.N (Nat.le_refl _)] at e
  have h0 := S.a0
  have q0 : 0 ≤ (-(s.T p.m c)) * s.T a p.N := Int.mul_nonneg (by have := S.c0; omega) (I.fe a S.ha)
  unfold Sx.val
  rw [S.ed]
  have dR : (0 : Rat) < (s.d : Rat) := by exact_mod_cast d0
  have hR : (0 : Rat) < (s.T a c : Rat) := by exact_mod_cast h0
  have eR : (s'.T p.m p.N : Rat) * (s.d : Rat) = (s.T p.m p.N : Rat) * (s.T a c : Rat) - (s.T p.m c : Rat) * (s.T a p.N : Rat) := by exact_mod_cast e
  have key : (s'.T p.m p.N : Rat) / (s.T a c : Rat) = (s.T p.m p.N : Rat) / (s.d : Rat) + (((-(s.T p.m c)) * s.T a p.N : Int) : Rat) / ((s.d : Rat) * (s.T a c : Rat)) := by
    rw [Rat.intCast_mul, Rat.intCast_neg]
    grind
  have iR : (0 : Rat) < ((s.d : Rat) * (s.T a c : Rat)) := Rat.mul_pos dR hR
  rw [key]
  constructor
  · have : (0 : Rat) ≤ (((-(s.T p.m c)) * s.T a p.N : Int) : Rat) / ((s.d : Rat) * (s.T a c : Rat)) := by
      rw [Rat.div_def]
      exact Rat.mul_nonneg (by exact_mod_cast q0) (Rat.le_of_lt (Rat.inv_pos.mpr iR))
    grind
  · intro z
    have z1 : (((-(s.T p.m c)) * s.T a p.N : Int) : Rat) / ((s.d : Rat) * (s.T a c : Rat)) = 0 := by grind
    have z2 : (((-(s.T p.m c)) * s.T a p.N : Int) : Rat) = 0 := by grind
    have z3 : (-(s.T p.m c)) * s.T a p.N = 0 := by exact_mod_cast z2
    have := S.c0
    rcases Int.mul_eq_zero.mp z3 with y | y
    · omega
    · exact y
def dirY (p : Prob) (s : Stt) (c j : Nat) : Int := (if j = c then s.d else 0) - sm p.m fun k => if s.β k = j then s.T k c else 0
theorem sm_pick {n : Nat} {f : Nat → Int} {b : Nat} {t : Int} (hb : b < n) : sm n (fun j => f j * (if b = j then t else 0)) = f b * t := by
  rw [sm_one hb]
  · rw [if_pos rfl]
  · intro k _ hk
    rw [if_neg (Ne.symm hk), Int.mul_zero]
theorem dirY_col {s : Stt} {c : Nat} (I : Inv p s.T s.d s.β) (hc : c < p.N) {r : Nat} (hr : r ≤ p.m) : sm p.N (fun j => p.T0 r j * dirY p s c j) = if r = p.m then s.T p.m c else 0 := by
  have e1 : sm p.N (fun j => p.T0 r j * dirY p s c j) = p.T0 r c * s.d - sm p.m fun k => p.T0 r (s.β k) * s.T k c := by
    have e2 : sm p.N (fun j => p.T0 r j * dirY p s c j) = sm p.N (fun j => p.T0 r j * (if c = j then s.d else 0)) - sm p.N fun j => sm p.m fun k => p.T0 r j * (if s.β k = j then s.T k c else 0) := by
      rw [← sm_sub]
      refine sm_congr fun j _ => ?_
      rw [sm_mul]
      unfold dirY
      rw [Int.mul_sub]
      congr 2
      by_cases z : j = c
      · rw [if_pos z, if_pos z.symm]
      · rw [if_neg z, if_neg (Ne.symm z)]
    rw [e2, sm_pick hc, sm_comm]
    congr 1
    exact sm_congr fun k hk => sm_pick (I.bs k hk).1
  have R := I.i0.rl c (Nat.le_of_lt hc) r hr
  have e3 : sm (p.m + 1) (fun k => s.T k c * vOf p s.β k r) = sm p.m (fun k => p.T0 r (s.β k) * s.T k c) + s.T p.m c * vOf p s.β p.m r := by
    show sm p.m _ + _ = _
    congr 1
    refine sm_congr fun k hk => ?_
    have : vOf p s.β k r = p.T0 r (s.β k) := if_pos hk
    rw [this, Int.mul_comm]
  rw [e3, I.i0.vm r hr] at R
  rw [e1]
  by_cases z : r = p.m
  · rw [if_pos z, Int.mul_one] at R; rw [if_pos z, Int.mul_comm]; omega
  · rw [if_neg z, Int.mul_zero] at R; rw [if_neg z, Int.mul_comm]; omega
theorem row_dot {s : Stt} (I : Inv p s.T s.d s.β) {y : Nat → Int} {μ : Int} (h : ∀ r, r ≤ p.m → sm p.N (fun j => p.T0 r j * y j) = if r = p.m then μ else 0) : sm p.N (fun j => s.T p.m j * y j) = s.d * μ := by
  have e : sm p.N (fun j => s.T p.m j * y j) = sm p.N (fun j => sm p.m fun i => (s.T p.m (p.w + i) * p.σ i) * (p.T0 i j * y j)) + sm p.N (fun j => s.d * (p.T0 p.m j * y j)) := by
    rw [← sm_add]
    refine sm_congr fun j hj => ?_
    rw [I.i0.co p.m (Nat.le_refl _) j (Nat.le_of_lt hj), if_pos rfl, Int.add_mul, ← sm_mulr]
    congr 1
    · exact sm_congr fun i _ => by grind
    · grind
  rw [e, sm_comm, sm_mul, h p.m (Nat.le_refl _), if_pos rfl, sm_zero fun i hi => ?_, Int.zero_add]
  rw [sm_mul, h i (by omega), if_neg (by omega), Int.mul_zero]
def basic (p : Prob) (s : Stt) (j : Nat) : Prop := ∃ k, k < p.m ∧ s.β k = j
theorem Inv.binj {s : Stt} (I : Inv p s.T s.d s.β) {k l : Nat} (hk : k < p.m) (hl : l < p.m) (e : s.β k = s.β l) : k = l := by
  have h1 := (I.bs k hk).2.2 k (by omega)
  have h2 := (I.bs l hl).2.2 k (by omega)
  rw [if_pos rfl] at h1
  rw [← e, h1] at h2
  have := I.i0.d0
  by_cases z : k = l
  · exact z
  · rw [if_neg z] at h2; omega
theorem Step.stay {s s' : Stt} {a c : Nat} (S : Step p s s' a c) {j : Nat} (h : basic p s j) : basic p s' j ∨ j = s.β a := by
  obtain ⟨k, hk, e⟩ := h
  by_cases z : k = a
  · exact .inr (by rw [← e, z])
  · exact .inl ⟨k, hk, by rw [S.eβ k hk]; exact (if_neg z).trans e⟩
theorem Step.back {s s' : Stt} {a c : Nat} (S : Step p s s' a c) {j : Nat} (h : basic p s' j) : basic p s j ∨ j = c := by
  obtain ⟨k, hk, e⟩ := h
  rw [S.eβ k hk] at e
  by_cases z : k = a
  · exact .inr (e.symm.trans (if_pos z))
  · exact .inl ⟨k, hk, (if_neg z).symm.trans e⟩
def Zr (p : Prob) (s : Stt) (j : Nat) : Prop := ∀ k, k < p.m → s.β k = j → s.T k p.N = 0
theorem Step.zr {s s' : Stt} {a c : Nat} (S : Step p s s' a c) (I : Inv p s.T s.d s.β) (h : s.T a p.N = 0) (j : Nat) : Zr p s j ↔ Zr p s' j := by
  have d0 := I.i0.d0
  have h0 := S.a0
  have hT : ∀ k, k < p.m → k ≠ a → s'.T k p.N * s.d = s.T k p.N * s.T a c := fun k hk hn => by
    have e := I.turnEq S.ha S.hc S.a0 (l := k) (j := p.N) (by omega) hn (Nat.le_refl _)
    rw [S.eT k (by omega) p.N (Nat.le_refl _), e, h]; omega
  have am := S.ha
  have hA : s'.T a p.N = 0 := by rw [S.eT a (by omega) p.N (Nat.le_refl _)]; exact (if_pos rfl).trans h
  constructor
  · intro z k hk e
    by_cases y : k = a
    · rw [y]; exact hA
    · rw [S.eβ k hk, show putN s.β a c k = s.β k from if_neg y] at e
      have := hT k hk y
      rw [z k hk e, Int.zero_mul] at this
      rcases Int.mul_eq_zero.mp this with w | w
      · exact w
      · omega
  · intro z k hk e
    by_cases y : k = a
    · rw [y]; exact h
    · have e2 := z k hk (by rw [S.eβ k hk]; exact (if_neg y).trans e)
      have := hT k hk y
      rw [e2, Int.zero_mul] at this
      rcases Int.mul_eq_zero.mp this.symm with w | w
      · exact w
      · omega
theorem max_of {P : Nat → Prop} {f : Nat → Nat} {a b : Nat} (hab : a < b) : ∃ i, a ≤ i ∧ i < b ∧ ∀ j, a ≤ j → j < b → f j ≤ f i := by
  induction b with
  | zero => omega
  | succ b ih =>
    by_cases z : a = b
    · exact ⟨a, Nat.le_refl _, by omega, fun j h1 h2 => by rw [show j = a by omega]; exact Nat.le_refl _⟩
    · obtain ⟨i, h1, h2, h3⟩ := ih (by omega)
      by_cases y : f b ≤ f i
      · exact ⟨i, h1, by omega, fun j q1 q2 => by
          by_cases w : j = b
          · rw [w]; exact y
          · exact h3 j q1 (by omega)⟩
      · exact ⟨b, by omega, by omega, fun j q1 q2 => by
          by_cases w : j = b
          · rw [w]; exact Nat.le_refl _
          · have := h3 j q1 (by omega); omega⟩
theorem bland {s : Nat → Stt} {a c : Nat → Nat} (I0 : Inv p (s 0).T (s 0).d (s 0).β) (S : ∀ n, Step p (s n) (s (n + 1)) (a n) (c n)) : False := by
  have I : ∀ n, Inv p (s n).T (s n).d (s n).β := fun n => by
    induction n with
    | zero => exact I0
    | succ n ih => exact (S n).inv ih
  obtain ⟨x, y, hxy, e⟩ := pigeon (p.N ^ p.m) (fun n => code p.N (s n).β p.m) fun n _ => code_lt fun k hk => ((I n).bs k hk).1
  have eβ := code_inj (fun k hk => ((I x).bs k hk).1) (fun k hk => ((I y).bs k hk).1) e
  obtain ⟨ed, eT⟩ := (I x).told (I y) eβ
  -- all turns between are idle
  have vmono : ∀ n m, n ≤ m → val p (s n) ≤ val p (s m) := fun n m h => by
    induction m with
    | zero => rw [show n = 0 by omega]; exact Rat.le_refl
    | succ m ih =>
      by_cases z : n = m + 1
      · rw [z]; exact Rat.le_refl
      · exact Rat.le_trans (ih (by omega)) ((S m).val (I m)).1
  have ev : val p (s x) = val p (s y) := by
    unfold Sx.val
    rw [ed, eT p.m (Nat.le_refl _) p.N (Nat.le_refl _)]
  have idle : ∀ n, x ≤ n → n < y → (s n).T (a n) p.N = 0 := fun n h1 h2 => by
    refine ((S n).val (I n)).2 ?_
    have q1 := vmono x n h1
    have q2 := vmono (n + 1) y h2
    have q3 := vmono n (n + 1) (by omega)
    rw [← ev] at q2
    exact Rat.le_antisymm q3 (Rat.le_trans q2 q1)
  have hbxy : ∀ j, basic p (s x) j ↔ basic p (s y) j := fun j => ⟨fun ⟨k, hk, e⟩ => ⟨k, hk, by rw [← eβ k hk]; exact e⟩, fun ⟨k, hk, e⟩ => ⟨k, hk, by rw [eβ k hk]; exact e⟩⟩
  -- the greatest that enters
  obtain ⟨P, hP1, hP2, hmax⟩ := max_of (P := fun _ => True) (f := c) hxy
  have notb : ∀ n, ¬ basic p (s n) (c n) := fun n ⟨k, hk, e⟩ => by
    have h1 := ((I n).bs k hk).2.2 p.m (Nat.le_refl _)
    rw [e, if_neg (by omega)] at h1
    have := (S n).c0
    omega
  -- it leaves, too
  have hl : ∃ q, x ≤ q ∧ q < y ∧ (s q).β (a q) = c P := by
    refine Classical.byContradiction fun no => ?_
    have st : ∀ n m, n ≤ m → x ≤ n → m ≤ y → basic p (s n) (c P) → basic p (s m) (c P) := fun n m h => by
      induction m with
      | zero => intro _ _ h3; rw [show n = 0 by omega] at h3; exact h3
      | succ m ih =>
        intro h1 h2 h3
        by_cases z : n = m + 1
        · rw [← z]; exact h3
        · rcases (S m).stay (ih (by omega) h1 (by omega) h3) with w | w
          · exact w
          · exact absurd ⟨m, by omega, by omega, w.symm⟩ no
    have b1 : basic p (s (P + 1)) (c P) := ⟨a P, (S P).ha, by rw [(S P).eβ _ (S P).ha]; exact if_pos rfl⟩
    have b2 := st (P + 1) y (by omega) (by omega) (by omega) b1
    exact notb P (st x P hP1 (by omega) (by omega) ((hbxy _).mpr b2))
  obtain ⟨q, hq1, hq2, hq⟩ := hl
  have hcq := hmax q hq1 hq2
  have hcne : c q ≠ c P := fun z => notb q ⟨a q, (S q).ha, by rw [hq, z]⟩
  -- the way of q against the row of P
  have hrow := row_dot (I P) (y := dirY p (s q) (c q)) (μ := (s q).T p.m (c q)) fun r hr => dirY_col (I q) (S q).hc hr
  have hneg : sm p.N (fun j => (s P).T p.m j * dirY p (s q) (c q) j) < 0 := by
    rw [hrow]
    have h1 := (I P).i0.d0
    have h2 := (S q).c0
    have h3 := Int.mul_pos h1 (show 0 < -(s q).T p.m (c q) by omega)
    rw [Int.mul_neg] at h3
    omega
  obtain ⟨j, hj, hjn⟩ := sm_neg hneg
  -- what the way is at j
  have hcqb : ∀ k, k < p.m → (s q).β k ≠ c q := fun k hk e => notb q ⟨k, hk, e⟩
  have yb : ∀ k, k < p.m → dirY p (s q) (c q) ((s q).β k) = - (s q).T k (c q) := fun k hk => by
    unfold dirY
    rw [if_neg (hcqb k hk), sm_one hk, if_pos rfl]
    · omega
    · intro l hl hn
      rw [if_neg fun e => hn ((I q).binj hl hk e)]
  have yc : dirY p (s q) (c q) (c q) = (s q).d := by
    unfold dirY
    rw [if_pos rfl, sm_zero fun k hk => if_neg (hcqb k hk)]
    omega
  have dq := (I q).i0.d0
  by_cases z : j = c q
  · rw [z, yc] at hjn
    have := (S P).cl (c q) (by omega)
    have := Int.mul_nonneg this (Int.le_of_lt dq)
    omega
  · by_cases hb : basic p (s q) j
    · obtain ⟨k, hk, ek⟩ := hb
      have hy := yb k hk
      rw [ek] at hy
      rw [hy] at hjn
      by_cases zt : j = c P
      · have ka : k = a q := (I q).binj hk (S q).ha (by rw [ek, hq, zt])
        have h1 := (S q).a0
        have h2 := (S P).c0
        rw [zt, ka] at hjn
        have := Int.mul_pos (show 0 < -(s P).T p.m (c P) by omega) h1
        rw [Int.neg_mul] at this
        rw [Int.mul_neg] at hjn
        omega
      · -- j does not stand at P
        have nP : ¬ basic p (s P) j := fun ⟨l, hl, el⟩ => by
          have h1 := ((I P).bs l hl).2.2 p.m (Nat.le_refl _)
          rw [el, if_neg (by omega)] at h1
          rw [h1, Int.zero_mul] at hjn
          omega
        -- so it enters
        have hen : ∃ n, x ≤ n ∧ n < y ∧ c n = j := by
          refine Classical.byContradiction fun no => ?_
          have st : ∀ n m, n ≤ m → x ≤ n → m ≤ y → ¬ basic p (s n) j → ¬ basic p (s m) j := fun n m h => by
            induction m with
            | zero => intro _ _ h3; rw [show n = 0 by omega] at h3; exact h3
            | succ m ih =>
              intro h1 h2 h3
              by_cases z : n = m + 1
              · rw [← z]; exact h3
              · intro w
                rcases (S m).back w with w | w
                · exact ih (by omega) h1 (by omega) h3 w
                · exact no ⟨m, by omega, by omega, w.symm⟩
          have n1 := st P y (by omega) hP1 (Nat.le_refl _) nP
          have n2 : ¬ basic p (s x) j := fun w => n1 ((hbxy j).mp w)
          exact st x q hq1 (Nat.le_refl _) (by omega) n2 ⟨k, hk, ek⟩
        obtain ⟨n, hn1, hn2, hn⟩ := hen
        have hjt : j < c P := by
          have := hmax n hn1 hn2
          omega
        have h1 := (S P).cl j hjt
        have hpos : 0 < (s q).T k (c q) := by
          refine Classical.byContradiction fun w => ?_
          have := Int.mul_nonneg h1 (show 0 ≤ -(s q).T k (c q) by omega)
          omega
        -- its amount is 0
        have zall : ∀ n m, n ≤ m → x ≤ n → m ≤ y → (Zr p (s n) j ↔ Zr p (s m) j) := fun n m h => by
          induction m with
          | zero => intro _ _; rw [show n = 0 by omega]
          | succ m ih =>
            intro h1 h2
            by_cases z : n = m + 1
            · rw [z]
            · exact (ih (by omega) h1 (by omega)).trans ((S m).zr (I m) (idle m (by omega) (by omega)) j)
        have zP : Zr p (s P) j := fun l hl el => absurd ⟨l, hl, el⟩ nP
        have zx := (zall x P hP1 (Nat.le_refl _) (by omega)).mpr zP
        have zq := (zall x q hq1 (Nat.le_refl _) (by omega)).mp zx
        have z0 := zq k hk ek
        have za := idle q hq1 hq2
        rcases (S q).ar k hk hpos with w | w
        · rw [za, z0] at w; simp at w
        · have := w.2
          rw [hq, ek] at this
          omega
    · have y0 : dirY p (s q) (c q) j = 0 := by
        unfold dirY
        rw [if_neg z, sm_zero fun k hk => if_neg fun e => hb ⟨k, hk, e⟩]
        rfl
      rw [y0, Int.mul_zero] at hjn
      omega
end
end Sx
namespace Sx
structure Tab where
  wide : Nat
  bottom : Int
  basis : List Int
  lines : List (List Int)
abbrev Tab.T (t : Tab) : Tb := fun k j => (t.lines.getD k []).getD j 0
abbrev Tab.β (t : Tab) : Nat → Nat := fun k => (t.basis.getD k 0).toNat
structure Shape (t : Tab) (m w : Nat) : Prop where
  hw : t.wide = w
  hb : t.basis.length = m
  hl : t.lines.length = m + 1
  hr : ∀ l ∈ t.lines, l.length = w + m + 1
  hn : ∀ x ∈ t.basis, 0 ≤ x ∧ x < w + m
def turnRow (row line : List Int) (head bottom : Int) (c : Nat) : List Int := (List.range line.length).map fun j => (line.getD j 0 * head - line.getD c 0 * row.getD j 0) / bottom
def turnLs (ls : List (List Int)) (bottom : Int) (a c n : Nat) : List (List Int) := (List.range ls.length).map fun k => if k = a ∨ n ≤ k then ls.getD k [] else turnRow (ls.getD a []) (ls.getD k []) ((ls.getD a []).getD c 0) bottom c
def turnM (t : Tab) (a c : Nat) : Tab := ⟨t.wide, t.T a c, t.basis.set a c, turnLs t.lines t.bottom a c t.lines.length⟩
theorem getD_map_range {α : Type} {f : Nat → α} {n k : Nat} {d : α} (h : k < n) : ((List.range n).map f).getD k d = f k := by
  rw [List.getD, List.getElem?_map, List.getElem?_range h]; rfl
theorem turnRow_get {row line : List Int} {h b : Int} {c j : Nat} (hj : j < line.length) : (turnRow row line h b c).getD j 0 = (line.getD j 0 * h - line.getD c 0 * row.getD j 0) / b := getD_map_range hj
theorem turnRow_len {row line : List Int} {h b : Int} {c : Nat} : (turnRow row line h b c).length = line.length := by unfold turnRow; rw [List.length_map, List.length_range]
section
variable {t : Tab} {m w a c : Nat}
theorem Shape.line (S : Shape t m w) {k : Nat} (hk : k ≤ m) : (t.lines.getD k []).length = w + m + 1 := by
  have := S.hl
  rw [List.getD, List.getElem?_eq_getElem (by omega)]
  exact S.hr _ (List.getElem_mem _)
theorem turnLs_get {ls : List (List Int)} {b : Int} {n k : Nat} (hk : k < ls.length) : (turnLs ls b a c n).getD k [] = if k = a ∨ n ≤ k then ls.getD k [] else turnRow (ls.getD a []) (ls.getD k []) ((ls.getD a []).getD c 0) b c := getD_map_range hk
theorem turnM_T (S : Shape t m w) {k j : Nat} (hk : k ≤ m) (hj : j ≤ w + m) : (turnM t a c).T k j = turnT t.T t.bottom a c k j := by
  have := S.hl
  show ((turnLs t.lines t.bottom a c t.lines.length).getD k []).getD j 0 = _
  rw [turnLs_get (by omega)]
  unfold turnT
  by_cases z : k = a
  · rw [if_pos (.inl z), if_pos z, z]
  · rw [if_neg (by omega), if_neg z, turnRow_get (by rw [S.line hk]; omega)]
theorem turnM_β (S : Shape t m w) {k : Nat} (hk : k < m) : (turnM t a c).β k = putN t.β a c k := by
  have := S.hb
  show ((t.basis.set a c).getD k 0).toNat = _
  unfold putN
  rw [List.getD, List.getElem?_set]
  by_cases z : k = a
  · subst z
    rw [if_pos rfl, if_pos (by omega), if_pos rfl]; simp
  · rw [if_neg (Ne.symm z), if_neg z]
    rfl
theorem turnM_shape (S : Shape t m w) (hc : c < w + m) : Shape (turnM t a c) m w := by
  refine ⟨S.hw, ?_, ?_, fun l hl => ?_, fun x hx => ?_⟩
  · show (t.basis.set a c).length = m
    rw [List.length_set]; exact S.hb
  · show (turnLs _ _ _ _ _).length = _
    unfold turnLs
    rw [List.length_map, List.length_range]; exact S.hl
  · obtain ⟨k, hk, rfl⟩ := List.mem_map.mp hl
    have hk' : k < t.lines.length := by simpa using hk
    have := S.line (k := k) (by have := S.hl; omega)
    split
    · exact this
    · rw [turnRow_len]; exact this
  · rcases List.mem_or_eq_of_mem_set (show x ∈ t.basis.set a c from hx) with h | h
    · exact S.hn x h
    · subst h; omega
end
def enterL (t : Tab) (N m : Nat) : List Nat := (List.range N).filter fun j => decide (t.T m j < 0)
def leaveC (t : Tab) (N c : Nat) (f : Option Nat) (k : Nat) : Bool := decide (0 < t.T k c) && match f with
  | none => true
  | some f => decide (t.T k N * t.T f c < t.T f N * t.T k c) || (decide (t.T k N * t.T f c = t.T f N * t.T k c) && decide (t.basis.getD k 0 < t.basis.getD f 0))
def leaveM (t : Tab) (N c : Nat) : Nat → Option Nat
  | 0 => none
  | n + 1 => if leaveC t N c (leaveM t N c n) n = true then some n else leaveM t N c n
theorem ratio_trans {x y z p q r : Int} (hp : 0 < p) (hq : 0 < q) (hr : 0 < r) (h1 : x * q ≤ y * p) (h2 : y * r ≤ z * q) : x * r ≤ z * p ∧ (x * r = z * p → x * q = y * p ∧ y * r = z * q) := by
  have a1 : x * q * r ≤ y * p * r := Int.mul_le_mul_of_nonneg_right h1 (by omega)
  have a2 : y * r * p ≤ z * q * p := Int.mul_le_mul_of_nonneg_right h2 (by omega)
  have e1 : y * p * r = y * r * p := by grind
  have e2 : q * (x * r) = x * q * r := by grind
  have e3 : q * (z * p) = z * q * p := by grind
  refine ⟨Int.le_of_mul_le_mul_left (a := q) (by omega) hq, fun e => ?_⟩
  rw [e] at e2
  constructor
  · refine Int.eq_of_mul_eq_mul_right (a := r) (by omega) (by omega)
  · refine Int.eq_of_mul_eq_mul_right (a := p) (by omega) (by omega)
theorem leave_spec (t : Tab) (N c : Nat) : ∀ n : Nat, match leaveM t N c n with
    | none => ∀ k, k < n → t.T k c ≤ 0
    | some a => a < n ∧ 0 < t.T a c ∧ ∀ k, k < n → 0 < t.T k c → t.T a N * t.T k c < t.T k N * t.T a c ∨ (t.T a N * t.T k c = t.T k N * t.T a c ∧ t.basis.getD a 0 ≤ t.basis.getD k 0)
  | 0 => fun k hk => absurd hk (by omega)
  | n + 1 => by
    have ih := leave_spec t N c n
    show match (if leaveC t N c (leaveM t N c n) n = true then some n else leaveM t N c n) with | none => _ | some a => _
    generalize leaveM t N c n = f at ih
    by_cases h : leaveC t N c f n = true
    · rw [if_pos h]
      unfold leaveC at h
      rw [Bool.and_eq_true, decide_eq_true_eq] at h
      obtain ⟨h0, h⟩ := h
      refine ⟨by omega, h0, fun k hk hk0 => ?_⟩
      cases f with
      | none =>
        by_cases z : k = n
        · subst z; exact .inr ⟨rfl, Int.le_refl _⟩
        · have := ih k (by omega); omega
      | some f =>
        obtain ⟨i1, i2, i3⟩ := ih
        by_cases z : k = n
        · subst z; exact .inr ⟨rfl, Int.le_refl _⟩
        · have i4 := i3 k (by omega) hk0
          simp only [Bool.or_eq_true, Bool.and_eq_true, decide_eq_true_eq] at h
          have a1 : t.T n N * t.T f c ≤ t.T f N * t.T n c := by rcases h with h | h <;> omega
          have a2 : t.T f N * t.T k c ≤ t.T k N * t.T f c := by rcases i4 with h | h <;> omega
          obtain ⟨b1, b2⟩ := ratio_trans h0 i2 hk0 a1 a2
          by_cases e : t.T n N * t.T k c = t.T k N * t.T n c
          · obtain ⟨c1, c2⟩ := b2 e
            refine .inr ⟨e, ?_⟩
            have d1 : t.basis.getD n 0 < t.basis.getD f 0 := by
              rcases h with h | h
              · omega
              · exact h.2
            have d2 : t.basis.getD f 0 ≤ t.basis.getD k 0 := by
              rcases i4 with h | h
              · omega
              · exact h.2
            omega
          · exact .inl (by omega)
    · rw [if_neg h]
      have h' : leaveC t N c f n = false := Bool.eq_false_iff.mpr h
      unfold leaveC at h'
      cases f with
      | none =>
        intro k hk
        by_cases z : k = n
        · subst z
          simp only [Bool.and_true, decide_eq_false_iff_not] at h'
          omega
        · exact ih k (by omega)
      | some f =>
        obtain ⟨i1, i2, i3⟩ := ih
        refine ⟨by omega, i2, fun k hk hk0 => ?_⟩
        by_cases z : k = n
        · subst z
          rw [decide_eq_true hk0] at h'
          simp only [Bool.true_and, Bool.or_eq_false_iff, Bool.and_eq_false_iff, decide_eq_false_iff_not] at h'
          obtain ⟨g1, g2⟩ := h'
          rcases Int.lt_or_le (t.T f N * t.T k c) (t.T k N * t.T f c) with l | l
          · exact .inl l
          · rcases g2 with g2 | g2
            · omega
            · exact .inr ⟨by omega, by omega⟩
        · exact i3 k (by omega) hk0
def beginC (t : Tab) (N : Nat) (f : Option Nat) (k : Nat) : Bool := decide (t.T k N < 0) && match f with
  | none => true
  | some f => decide (t.T f N * t.T k 0 < t.T k N * t.T f 0)
def beginM (t : Tab) (N : Nat) : Nat → Option Nat
  | 0 => none
  | n + 1 => if beginC t N (beginM t N n) n = true then some n else beginM t N n
theorem begin_spec (t : Tab) (N : Nat) : ∀ n : Nat, (∀ k, k < n → t.T k N < 0 → t.T k 0 < 0) → match beginM t N n with
    | none => ∀ k, k < n → 0 ≤ t.T k N
    | some f => f < n ∧ t.T f N < 0 ∧ ∀ k, k < n → t.T k N < 0 → t.T k N * t.T f 0 ≤ t.T f N * t.T k 0
  | 0, _ => fun k hk => absurd hk (by omega)
  | n + 1, hp => by
    have ih := begin_spec t N n fun k hk => hp k (by omega)
    show match (if beginC t N (beginM t N n) n = true then some n else beginM t N n) with | none => _ | some a => _
    generalize beginM t N n = f at ih
    by_cases h : beginC t N f n = true
    · rw [if_pos h]
      unfold beginC at h
      rw [Bool.and_eq_true, decide_eq_true_eq] at h
      obtain ⟨h0, h⟩ := h
      refine ⟨by omega, h0, fun k hk hk0 => ?_⟩
      by_cases z : k = n
      · subst z; exact Int.le_refl _
      · cases f with
        | none => have := ih k (by omega); omega
        | some f =>
          obtain ⟨i1, i2, i3⟩ := ih
          have i4 := i3 k (by omega) hk0
          simp only [decide_eq_true_eq] at h
          have n0 := hp n (by omega) h0
          have f0 := hp f (by omega) i2
          have k0 := hp k (by omega) hk0
          -- all below 0
          obtain ⟨b1, _⟩ := ratio_trans (x := -t.T k N) (y := -t.T f N) (z := -t.T n N) (p := -t.T k 0) (q := -t.T f 0) (r := -t.T n 0) (by omega) (by omega) (by omega) (by rw [Int.neg_mul_neg, Int.neg_mul_neg]; exact i4) (by
            have : t.T f N * t.T n 0 ≤ t.T n N * t.T f 0 := by omega
            rw [Int.neg_mul_neg, Int.neg_mul_neg]; exact this)
          rw [Int.neg_mul_neg, Int.neg_mul_neg] at b1
          exact b1
    · rw [if_neg h]
      have h' : beginC t N f n = false := Bool.eq_false_iff.mpr h
      unfold beginC at h'
      cases f with
      | none =>
        intro k hk
        by_cases z : k = n
        · subst z
          simp only [Bool.and_true, decide_eq_false_iff_not] at h'
          omega
        · exact ih k (by omega)
      | some f =>
        obtain ⟨i1, i2, i3⟩ := ih
        refine ⟨by omega, i2, fun k hk hk0 => ?_⟩
        by_cases z : k = n
        · subst z
          rw [decide_eq_true hk0] at h'
          simp only [Bool.true_and, decide_eq_false_iff_not] at h'
          omega
        · exact i3 k (by omega) hk0
structure Good (p : Prob) (t : Tab) : Prop where
  sh : Shape t p.m p.w
  iv : Inv p t.T t.bottom t.β
def Tab.st (t : Tab) : Stt := ⟨t.T, t.bottom, t.β⟩
def nextM (p : Prob) (t : Tab) : Option Tab := match enterL t p.N p.m with
  | [] => none
  | c :: _ => match leaveM t p.N c p.m with
    | none => none
    | some a => some (turnM t a c)
theorem enter_cons {t : Tab} {N m c : Nat} {r : List Nat} (h : enterL t N m = c :: r) : c < N ∧ t.T m c < 0 ∧ ∀ j, j < c → 0 ≤ t.T m j := by
  have hm : c ∈ enterL t N m := by rw [h]; exact List.mem_cons_self
  simp only [enterL, List.mem_filter, List.mem_range, decide_eq_true_eq] at hm
  refine ⟨hm.1, hm.2, fun j hj => Int.not_lt.mp fun z => ?_⟩
  have hmj : j ∈ enterL t N m := by simp only [enterL, List.mem_filter, List.mem_range, decide_eq_true_eq]; omega
  rw [h] at hmj
  have srt : (enterL t N m).Pairwise (· < ·) := List.Pairwise.filter _ List.pairwise_lt_range
  rw [h] at srt
  rcases List.mem_cons.mp hmj with e | e
  · omega
  · have := (List.pairwise_cons.mp srt).1 j e
    omega
theorem enter_nil {t : Tab} {N m : Nat} (h : enterL t N m = []) : ∀ j, j < N → 0 ≤ t.T m j := fun j hj => Int.not_lt.mp fun z => by
  have hmj : j ∈ enterL t N m := by simp only [enterL, List.mem_filter, List.mem_range, decide_eq_true_eq]; exact ⟨hj, z⟩
  rw [h] at hmj; cases hmj
theorem Good.step {p : Prob} {t t' : Tab} (G : Good p t) (h : nextM p t = some t') : Good p t' ∧ ∃ a c, Step p t.st t'.st a c := by
  unfold nextM at h
  cases e1 : enterL t p.N p.m with
  | nil => rw [e1] at h; cases h
  | cons c r =>
    rw [e1] at h
    simp only at h
    cases e2 : leaveM t p.N c p.m with
    | none => rw [e2] at h; cases h
    | some a =>
      rw [e2] at h
      cases h
      obtain ⟨c1, c2, c3⟩ := enter_cons e1
      have ls := leave_spec t p.N c p.m
      rw [e2] at ls
      obtain ⟨l1, l2, l3⟩ := ls
      have hst : Step p t.st (turnM t a c).st a c := by
        refine ⟨c1, c2, c3, l1, l2, fun k hk h0 => (l3 k hk h0).imp id fun z => ⟨z.1, ?_⟩, fun l hl j hj => turnM_T G.sh hl hj, rfl, fun k hk => turnM_β G.sh hk⟩
        show (t.basis.getD a 0).toNat ≤ (t.basis.getD k 0).toNat
        have := z.2
        omega
      exact ⟨⟨turnM_shape G.sh c1, hst.inv G.iv⟩, a, c, hst⟩
theorem ends_some {p : Prob} {t : Tab} (G : Good p t) : ∃ n : Nat, ∃ f : Nat → Tab, f 0 = t ∧ (∀ i, i < n → nextM p (f i) = some (f (i + 1))) ∧ nextM p (f n) = none := by
  refine Classical.byContradiction fun no => ?_
  -- the turns, one after the other
  let g : Nat → Tab := fun n => Nat.rec t (fun _ x => (nextM p x).getD x) n
  have g0 : g 0 = t := rfl
  have gs : ∀ n, g (n + 1) = (nextM p (g n)).getD (g n) := fun _ => rfl
  have hs : ∀ n, nextM p (g n) = some (g (n + 1)) := by
    have all : ∀ n, ∀ i, i < n → nextM p (g i) = some (g (i + 1)) := fun n => by
      induction n with
      | zero => intro i hi; omega
      | succ n ih =>
        intro i hi
        by_cases z : i = n
        · subst z
          cases e : nextM p (g i) with
          | none => exact absurd ⟨i, g, g0, ih, e⟩ no
          | some t' => rw [gs i, e]; rfl
        · exact ih i (by omega)
    exact fun n => all (n + 1) n (by omega)
  have hG : ∀ n, Good p (g n) := fun n => by
    induction n with
    | zero => exact G
    | succ n ih => exact (ih.step (hs n)).1
  have hst : ∀ n, ∃ a c, Step p (g n).st (g (n + 1)).st a c := fun n => ((hG n).step (hs n)).2
  exact bland (s := fun n => (g n).st) (a := fun n => (hst n).choose) (c := fun n => (hst n).choose_spec.choose) (hG 0).iv fun n => (hst n).choose_spec.choose_spec
def Left (p : Prob) (t : Tab) (n : Nat) : Prop := ∃ f : Nat → Tab, f 0 = t ∧ (∀ i, i < n → nextM p (f i) = some (f (i + 1))) ∧ nextM p (f n) = none
theorem left_unique {p : Prob} {t : Tab} {n m : Nat} (h : Left p t n) (k : Left p t m) : n = m := by
  obtain ⟨f, f0, f1, f2⟩ := h
  obtain ⟨g, g0, g1, g2⟩ := k
  have e : ∀ i, i ≤ n → i ≤ m → f i = g i := fun i => by
    induction i with
    | zero => intro _ _; rw [f0, g0]
    | succ i ih =>
      intro h1 h2
      have a := f1 i (by omega)
      rw [ih (by omega) (by omega), g1 i (by omega)] at a
      exact (Option.some.inj a).symm
  rcases Nat.lt_trichotomy n m with h | h | h
  · have := g1 n h
    rw [← e n (Nat.le_refl _) (by omega), f2] at this; cases this
  · exact h
  · have := f1 m h
    rw [e m (by omega) (Nat.le_refl _), g2] at this; cases this
open Classical in
noncomputable def leftOf (p : Prob) (t : Tab) : Nat := if h : ∃ n, Left p t n then h.choose else 0
theorem leftOf_next {p : Prob} {t t' : Tab} (G : Good p t) (h : nextM p t = some t') : leftOf p t' < leftOf p t := by
  have e1 : ∃ n, Left p t n := ends_some G
  have e2 : ∃ n, Left p t' n := ends_some (G.step h).1
  unfold leftOf
  rw [dif_pos e1, dif_pos e2]
  have h1 := e1.choose_spec
  have h2 := e2.choose_spec
  obtain ⟨f, f0, f1, f2⟩ := h1
  have n0 : 0 < e1.choose := by
    refine Nat.pos_of_ne_zero fun z => ?_
    rw [z, f0, h] at f2; cases f2
  have : Left p t' (e1.choose - 1) := by
    refine ⟨fun i => f (i + 1), ?_, fun i hi => f1 (i + 1) (by omega), ?_⟩
    · have := f1 0 n0
      rw [f0, h] at this
      exact (Option.some.inj this).symm
    · show nextM p (f (e1.choose - 1 + 1)) = none
      rw [Nat.sub_add_cancel n0]; exact f2
  have := left_unique h2 this
  omega
end Sx
namespace Sx
theorem sm_split (f : Nat → Int) (w : Nat) : ∀ m : Nat, sm (w + m) f = sm w f + sm m fun i => f (w + i)
  | 0 => by simp [sm]
  | m + 1 => by
    show sm (w + m) f + f (w + m) = sm w f + (sm m (fun i => f (w + i)) + f (w + m))
    rw [sm_split f w m]; omega
structure Lp where
  rows : List (List Int)
  limits : List Int
  gains : List Int
structure Lp.Ok (L : Lp) : Prop where
  lm : L.limits.length = L.rows.length
  rw : ∀ r ∈ L.rows, r.length = L.gains.length
  neg : ∀ k, k < L.rows.length → L.limits.getD k 0 < 0 → (L.rows.getD k []).getD 0 0 < 0
  allneg : (∃ k, k < L.rows.length ∧ L.limits.getD k 0 < 0) → 0 < L.gains.length ∧ ∀ k, k < L.rows.length → (L.rows.getD k []).getD 0 0 ≤ 0
def ib (x : Bool) : Int := if x = true then 1 else 0
def initRow (L : Lp) (k : Nat) : List Int := L.rows.getD k [] ++ (List.range L.rows.length).map (fun j => ib (decide (j = k))) ++ [L.limits.getD k 0]
def lastRow (L : Lp) : List Int := L.gains.map (fun g => 0 - g) ++ List.replicate (L.rows.length + 1) 0
def initM (L : Lp) : Tab := ⟨L.gains.length, 1, (List.range L.rows.length).map fun k => ((L.gains.length + k : Nat) : Int), (List.range L.rows.length).map (initRow L) ++ [lastRow L]⟩
section
variable {L : Lp} (O : L.Ok)
include O
theorem rows_len {k : Nat} (hk : k < L.rows.length) : (L.rows.getD k []).length = L.gains.length := by
  rw [List.getD, List.getElem?_eq_getElem hk]
  exact O.rw _ (List.getElem_mem _)
theorem initRow_len {k : Nat} (hk : k < L.rows.length) : (initRow L k).length = L.gains.length + L.rows.length + 1 := by
  simp only [initRow, List.length_append, List.length_map, List.length_range, List.length_singleton, rows_len O hk]
theorem init_shape : Shape (initM L) L.rows.length L.gains.length := by
  refine ⟨rfl, ?_, ?_, fun l hl => ?_, fun x hx => ?_⟩
  · show ((List.range _).map _).length = _
    rw [List.length_map, List.length_range]
  · show ((List.range _).map _ ++ [_]).length = _
    rw [List.length_append, List.length_map, List.length_range]; rfl
  · rcases List.mem_append.mp (show l ∈ (List.range L.rows.length).map (initRow L) ++ [lastRow L] from hl) with h | h
    · obtain ⟨k, hk, rfl⟩ := List.mem_map.mp h
      exact initRow_len O (List.mem_range.mp hk)
    · rw [List.mem_singleton.mp h]
      simp only [lastRow, List.length_append, List.length_map, List.length_replicate]; omega
  · obtain ⟨k, hk, rfl⟩ := List.mem_map.mp (show x ∈ (List.range L.rows.length).map fun k => ((L.gains.length + k : Nat) : Int) from hx)
    have := List.mem_range.mp hk
    omega
theorem init_line {k : Nat} (hk : k < L.rows.length) : (initM L).lines.getD k [] = initRow L k := by
  show ((List.range L.rows.length).map (initRow L) ++ [lastRow L]).getD k [] = _
  rw [List.getD, List.getElem?_append_left (by simpa using hk), List.getElem?_map, List.getElem?_range hk]; rfl
theorem init_last : (initM L).lines.getD L.rows.length [] = lastRow L := by
  show ((List.range L.rows.length).map (initRow L) ++ [lastRow L]).getD L.rows.length [] = _
  rw [List.getD, List.getElem?_append_right (by simp)]; simp
theorem init_A {k j : Nat} (hk : k < L.rows.length) (hj : j < L.gains.length) : (initM L).T k j = (L.rows.getD k []).getD j 0 := by
  show ((initM L).lines.getD k []).getD j 0 = _
  rw [init_line O hk]
  unfold initRow
  rw [List.append_assoc, List.getD, List.getElem?_append_left (by rw [rows_len O hk]; exact hj)]; rfl
theorem init_S {k i : Nat} (hk : k < L.rows.length) (hi : i < L.rows.length) : (initM L).T k (L.gains.length + i) = if k = i then 1 else 0 := by
  show ((initM L).lines.getD k []).getD _ 0 = _
  rw [init_line O hk]
  unfold initRow
  rw [List.append_assoc, List.getD, List.getElem?_append_right (by rw [rows_len O hk]; omega), rows_len O hk, Nat.add_sub_cancel_left, List.getElem?_append_left (by simpa using hi), List.getElem?_map, List.getElem?_range hi]
  show ib (decide (i = k)) = _
  unfold ib
  by_cases z : k = i
  · rw [if_pos z, if_pos (decide_eq_true z.symm)]
  · rw [if_neg z, if_neg (by simpa using Ne.symm z)]
theorem init_b {k : Nat} (hk : k < L.rows.length) : (initM L).T k (L.gains.length + L.rows.length) = L.limits.getD k 0 := by
  show ((initM L).lines.getD k []).getD _ 0 = _
  rw [init_line O hk]
  unfold initRow
  rw [List.getD, List.getElem?_append_right (by simp only [List.length_append, List.length_map, List.length_range, rows_len O hk]; omega)]
  simp only [List.length_append, List.length_map, List.length_range, rows_len O hk, Nat.sub_self]
  rfl
theorem init_c {j : Nat} (hj : j < L.gains.length) : (initM L).T L.rows.length j = - L.gains.getD j 0 := by
  show ((initM L).lines.getD _ []).getD _ 0 = _
  rw [init_last O]
  unfold lastRow
  rw [List.getD, List.getElem?_append_left (by simpa using hj), List.getElem?_map, List.getD, List.getElem?_eq_getElem hj]
  show 0 - _ = - _
  simp
theorem init_0 {j : Nat} (hj : L.gains.length ≤ j) : (initM L).T L.rows.length j = 0 := by
  show ((initM L).lines.getD _ []).getD _ 0 = _
  rw [init_last O]
  unfold lastRow
  rw [List.getD, List.getElem?_append_right (by simpa using hj), List.getElem?_replicate]
  split <;> rfl
end
def flipT (L : Lp) (fl : Option Nat) : Tb := fun k j => if fl = some k then - (initM L).T k j else (initM L).T k j
def probOf (L : Lp) (O : L.Ok) (fl : Option Nat) (hf : ∀ f, fl = some f → f < L.rows.length) : Prob where
  m := L.rows.length
  w := L.gains.length
  T0 := flipT L fl
  σ := fun k => if fl = some k then -1 else 1
  hσ := fun i _ => by
    show (if _ then _ else _) * (if _ then _ else _) = (1 : Int)
    split <;> rfl
  sl := fun i hi k hk => by
    show (if _ then _ else _) = (if k = i then (if _ then _ else _) else _)
    by_cases zk : k = L.rows.length
    · subst zk
      have h0 := init_0 O (j := L.gains.length + i) (by omega)
      rw [h0, if_neg (show ¬ L.rows.length = i by omega)]
      split <;> rfl
    · rw [init_S O (by omega) hi]
      by_cases z : k = i
      · subst z; rw [if_pos rfl, if_pos rfl]
      · rw [if_neg z, if_neg z]; split <;> rfl
theorem inv0_unit (p : Prob) : Inv0 p p.T0 1 unit := by
  refine ⟨by decide, fun j hj r hr => ?_, ⟨1, rfl, by rw [det_unit]; rfl⟩, fun k hk j hj => ?_, fun r hr => ?_⟩
  · rw [sm_one (i := r) (by omega) fun k hk hn => by unfold unit; rw [if_neg hn]; omega]
    unfold unit; rw [if_pos rfl]; omega
  · by_cases z : k = p.m
    · subst z
      rw [if_pos rfl, sm_zero fun i hi => by rw [p.sl i hi _ (Nat.le_refl _), if_neg (by omega)]; omega]; omega
    · rw [if_neg z, sm_one (i := k) (by omega) fun i hi hn => by rw [p.sl i hi k hk, if_neg (Ne.symm hn)]; omega]
      rw [p.sl k (by omega) k hk, if_pos rfl, p.hσ k (by omega)]; omega
  · unfold unit
    by_cases z : r = p.m
    · rw [if_pos z, if_pos z.symm]
    · rw [if_neg z, if_neg (Ne.symm z)]
theorem bas_unit (p : Prob) {k : Nat} (hk : k < p.m) (h1 : p.σ k = 1) : Bas p p.T0 1 unit k (p.w + k) := by
  refine ⟨by show p.w + k < p.w + p.m; omega, fun r hr => ?_, fun l hl => ?_⟩
  · rw [p.sl k hk r hr, h1]
    unfold unit
    by_cases z : k = r
    · rw [if_pos z, if_pos z.symm]
    · rw [if_neg z, if_neg (Ne.symm z)]
  · rw [p.sl k hk l hl, h1]
def negM (t : Tab) (f : Nat) : Tab := ⟨t.wide, t.bottom, t.basis, t.lines.set f ((t.lines.getD f []).map fun x => 0 - x)⟩
def begunM (t : Tab) : Tab := match beginM t (t.wide + t.basis.length) t.basis.length with
  | none => t
  | some f => turnM (negM t f) f 0
theorem negM_shape {t : Tab} {m w f : Nat} (S : Shape t m w) (hf : f ≤ m) : Shape (negM t f) m w := by
  refine ⟨S.hw, S.hb, ?_, fun l hl => ?_, S.hn⟩
  · show (t.lines.set _ _).length = _
    rw [List.length_set]; exact S.hl
  · rcases List.mem_or_eq_of_mem_set (show l ∈ t.lines.set f _ from hl) with h | h
    · exact S.hr l h
    · rw [h, List.length_map]; exact S.line hf
theorem negM_T {t : Tab} {m w f k j : Nat} (S : Shape t m w) (hf : f ≤ m) (hj : j ≤ w + m) : (negM t f).T k j = if some f = some k then - t.T k j else t.T k j := by
  have hl := S.hl
  show ((t.lines.set f _).getD k []).getD j 0 = _
  by_cases z : f = k
  · subst z
    have e : (t.lines.set f ((t.lines.getD f []).map fun x => 0 - x)).getD f [] = (t.lines.getD f []).map fun x => 0 - x := by
      rw [List.getD, List.getElem?_set_self (by omega)]; rfl
    rw [if_pos rfl, e]
    have : j < (t.lines.getD f []).length := by rw [S.line hf]; omega
    rw [List.getD, List.getElem?_map, List.getElem?_eq_getElem this]
    show 0 - _ = - (t.lines.getD f []).getD j 0
    generalize t.lines.getD f [] = l at this
    rw [List.getD, List.getElem?_eq_getElem this]; simp
  · have e : (t.lines.set f ((t.lines.getD f []).map fun x => 0 - x)).getD k [] = t.lines.getD k [] := by
      rw [List.getD, List.getElem?_set_ne z]; rfl
    rw [if_neg (by simpa using z), e]
section
variable {L : Lp}
theorem β_init {k : Nat} (hk : k < L.rows.length) : (initM L).β k = L.gains.length + k := by
  show (((List.range L.rows.length).map fun k => ((L.gains.length + k : Nat) : Int)).getD k 0).toNat = _
  rw [getD_map_range hk]; omega
theorem good_begun (O : L.Ok) : ∃ fl hf, Good (probOf L O fl hf) (begunM (initM L)) := by
  have S := init_shape O
  have eN : (initM L).wide + (initM L).basis.length = L.gains.length + L.rows.length := by rw [S.hw, S.hb]
  have hneg : ∀ k, k < L.rows.length → (initM L).T k (L.gains.length + L.rows.length) < 0 → (initM L).T k 0 < 0 := fun k hk h => by
    rw [init_b O hk] at h
    have g0 := (O.allneg ⟨k, hk, h⟩).1
    rw [init_A O hk g0]
    exact O.neg k hk h
  have bs := begin_spec (initM L) (L.gains.length + L.rows.length) L.rows.length hneg
  unfold begunM
  rw [eN, S.hb]
  cases e : beginM (initM L) (L.gains.length + L.rows.length) L.rows.length with
  | none =>
    rw [e] at bs
    refine ⟨none, (fun f z => nomatch z), ?_⟩
    let p := probOf L O none (fun f z => nomatch z)
    have hT : ∀ k j, p.T0 k j = (initM L).T k j := fun k j => by
      show (if (none : Option Nat) = some k then - (initM L).T k j else (initM L).T k j) = _
      rw [if_neg (by simp)]
    have hσ : ∀ k, p.σ k = 1 := fun k => by
      show (if (none : Option Nat) = some k then (-1 : Int) else 1) = 1
      rw [if_neg (by simp)]
    have hv : ∀ k, k ≤ p.m → ∀ r, r ≤ p.m → unit k r = vOf p (initM L).β k r := fun k hk r hr => by
      unfold vOf
      by_cases z : k < p.m
      · rw [if_pos z, β_init z]
        exact (bas_unit p z (hσ k)).2.1 r hr
      · rw [if_neg z]
        have : k = p.m := by omega
        rw [this]
        unfold unit
        by_cases y : p.m = r
        · rw [if_pos y, if_pos y.symm]
        · rw [if_neg y, if_neg (Ne.symm y)]
    have I : Inv p p.T0 1 (initM L).β := ⟨(inv0_unit p).congr hv, fun k hk => by
      rw [β_init hk]
      exact (bas_unit p hk (hσ k)).congr (by omega) hv, fun k hk => by
      rw [hT]
      exact bs k hk⟩
    exact ⟨S, I.copy (fun l _ j _ => (hT l j).symm) rfl fun _ _ => rfl⟩
  | some f =>
    rw [e] at bs
    obtain ⟨f1, f2, f3⟩ := bs
    refine ⟨some f, fun g z => by cases z; exact f1, ?_⟩
    let p := probOf L O (some f) (fun g z => by cases z; exact f1)
    show Good p _
    have hσ : ∀ k, k ≠ f → p.σ k = 1 := fun k hk => by
      show (if (some f : Option Nat) = some k then (-1 : Int) else 1) = 1
      rw [if_neg (by simpa using Ne.symm hk)]
    have f20 := hneg f f1 f2
    obtain ⟨g0, all⟩ := O.allneg ⟨f, f1, by rw [← init_b O f1]; exact f2⟩
    have hN : 0 < p.N := by show 0 < L.gains.length + L.rows.length; omega
    have hh : p.T0 f 0 = - (initM L).T f 0 := if_pos rfl
    have h0 : 0 < p.T0 f 0 := by rw [hh]; omega
    have tu := (inv0_unit p).turn (a := f) (c := 0) f1 (by omega) h0
    have S1 := negM_shape S (show f ≤ L.rows.length by omega)
    have hT : ∀ k j, j ≤ p.N → (negM (initM L) f).T k j = p.T0 k j := fun k j hj => negM_T S (by omega) hj
    have hv : ∀ k, k ≤ p.m → ∀ r, r ≤ p.m → put unit f (fun r => p.T0 r 0) k r = vOf p (putN (initM L).β f 0) k r := fun k hk r hr => by
      unfold vOf put putN
      by_cases y : k = f
      · rw [if_pos y, if_pos (by rw [y]; exact f1), if_pos y]
      · rw [if_neg y, if_neg y]
        by_cases z : k < p.m
        · rw [if_pos z, β_init z]
          exact (bas_unit p z (hσ k y)).2.1 r hr
        · rw [if_neg z]
          have : k = p.m := by omega
          rw [this]
          unfold unit
          by_cases x : p.m = r
          · rw [if_pos x, if_pos x.symm]
          · rw [if_neg x, if_neg (Ne.symm x)]
    have I : Inv p (turnT p.T0 1 f 0) (p.T0 f 0) (putN (initM L).β f 0) := by
      refine ⟨tu.2.congr hv, fun k hk => ?_, fun k hk => ?_⟩
      · by_cases y : k = f
        · subst y
          rw [show putN (initM L).β k 0 k = 0 from if_pos rfl]
          exact (bas_new hN).congr (by omega) hv
        · rw [show putN (initM L).β f 0 k = (initM L).β k from if_neg y, β_init hk]
          exact ((bas_unit p hk (hσ k y)).turn (by decide) hk f1 y).congr (by omega) hv
      · by_cases y : k = f
        · subst y
          rw [show turnT p.T0 1 k 0 k p.N = p.T0 k p.N from if_pos rfl, show p.T0 k p.N = - (initM L).T k p.N from if_pos rfl]
          show 0 ≤ - (initM L).T k (L.gains.length + L.rows.length)
          omega
        · have e1 := tu.1 k (by omega) y p.N (Nat.le_refl _)
          rw [Int.mul_one, hh, show p.T0 f p.N = - (initM L).T f p.N from if_pos rfl, show p.T0 k p.N = (initM L).T k p.N from if_neg (by simpa using Ne.symm y), show p.T0 k 0 = (initM L).T k 0 from if_neg (by simpa using Ne.symm y)] at e1
          rw [e1]
          show 0 ≤ (initM L).T k (L.gains.length + L.rows.length) * _ - _ * - (initM L).T f (L.gains.length + L.rows.length)
          rw [Int.mul_neg, Int.mul_neg]
          have hk' : k < L.rows.length := hk
          by_cases z : (initM L).T k (L.gains.length + L.rows.length) < 0
          · have := f3 k hk' z
            have e2 := Int.mul_comm ((initM L).T k 0) ((initM L).T f (L.gains.length + L.rows.length))
            omega
          · have a1 : 0 ≤ (initM L).T k (L.gains.length + L.rows.length) * (- (initM L).T f 0) := Int.mul_nonneg (by omega) (by omega)
            have ak : (initM L).T k 0 ≤ 0 := by rw [init_A O hk' g0]; exact all k hk'
            have a2 : 0 ≤ (- (initM L).T k 0) * (- (initM L).T f (L.gains.length + L.rows.length)) := Int.mul_nonneg (by omega) (by omega)
            rw [Int.mul_neg] at a1
            rw [Int.neg_mul_neg] at a2
            omega
    refine ⟨turnM_shape S1 hN, I.copy (fun l hl j hj => ?_) (hT f 0 (by omega)) fun k hk => turnM_β S1 hk⟩
    rw [turnM_T S1 hl hj]
    unfold turnT
    rw [hT f j hj, hT l j hj, hT f 0 (by omega), hT l 0 (by omega)]
    rfl
end
def xOf (p : Prob) (t : Tab) (j : Nat) : Int := sm p.m fun k => if t.β k = j then t.T k p.N else 0
section
variable {p : Prob} {t : Tab}
theorem x_nonneg (G : Good p t) (j : Nat) : 0 ≤ xOf p t j := sm_nonneg fun k hk => by
  split
  · exact G.iv.fe k hk
  · exact Int.le_refl _
theorem x_col (G : Good p t) {r : Nat} (hr : r ≤ p.m) : sm p.N (fun j => p.T0 r j * xOf p t j) = t.bottom * p.T0 r p.N - (if r = p.m then t.T p.m p.N else 0) := by
  have R := G.iv.i0.rl p.N (Nat.le_refl _) r hr
  have e3 : sm (p.m + 1) (fun k => t.T k p.N * vOf p t.β k r) = sm p.m (fun k => p.T0 r (t.β k) * t.T k p.N) + t.T p.m p.N * vOf p t.β p.m r := by
    show sm p.m _ + _ = _
    congr 1
    refine sm_congr fun k hk => ?_
    have : vOf p t.β k r = p.T0 r (t.β k) := if_pos hk
    rw [this, Int.mul_comm]
  rw [e3, G.iv.i0.vm r hr] at R
  have e1 : sm p.N (fun j => p.T0 r j * xOf p t j) = sm p.m fun k => p.T0 r (t.β k) * t.T k p.N := by
    have : sm p.N (fun j => p.T0 r j * xOf p t j) = sm p.N fun j => sm p.m fun k => p.T0 r j * (if t.β k = j then t.T k p.N else 0) := sm_congr fun j _ => by
      rw [sm_mul]; rfl
    rw [this, sm_comm]
    exact sm_congr fun k hk => sm_pick (G.iv.bs k hk).1
  rw [e1]
  by_cases z : r = p.m
  · rw [if_pos z] at R ⊢; omega
  · rw [if_neg z] at R ⊢; omega
theorem sl_sum (p : Prob) {r : Nat} (hr : r ≤ p.m) (y : Nat → Int) : sm p.N (fun j => p.T0 r j * y j) = sm p.w (fun j => p.T0 r j * y j) + (if r = p.m then 0 else p.σ r * y (p.w + r)) := by
  show sm (p.w + p.m) _ = _
  rw [sm_split]
  congr 1
  by_cases z : r = p.m
  · rw [if_pos z]
    exact sm_zero fun i hi => by rw [p.sl i hi r hr, if_neg (by omega)]; omega
  · rw [if_neg z, sm_one (i := r) (by omega) fun i hi hn => by rw [p.sl i hi r hr, if_neg (Ne.symm hn)]; omega, p.sl r (by omega) r hr, if_pos rfl]
theorem feas (G : Good p t) {r : Nat} (hr : r < p.m) : sm p.w (fun j => p.σ r * p.T0 r j * xOf p t j) ≤ t.bottom * (p.σ r * p.T0 r p.N) := by
  have h := x_col G (r := r) (by omega)
  rw [sl_sum p (by omega), if_neg (by omega), if_neg (by omega)] at h
  have e : sm p.w (fun j => p.σ r * p.T0 r j * xOf p t j) = p.σ r * sm p.w (fun j => p.T0 r j * xOf p t j) := by
    rw [← sm_mul]; exact sm_congr fun j _ => by grind
  have hs := p.hσ r hr
  have := x_nonneg G (p.w + r)
  have e2 : p.σ r * (p.σ r * xOf p t (p.w + r)) = xOf p t (p.w + r) := by rw [← Int.mul_assoc, hs]; omega
  have e4 : p.σ r * (sm p.w (fun j => p.T0 r j * xOf p t j) + p.σ r * xOf p t (p.w + r)) = p.σ r * (t.bottom * p.T0 r p.N - 0) := by rw [h]
  rw [Int.mul_add, e2, Int.sub_zero] at e4
  rw [e]
  have e5 : t.bottom * (p.σ r * p.T0 r p.N) = p.σ r * (t.bottom * p.T0 r p.N) := by grind
  omega
theorem gain (G : Good p t) (h0 : p.T0 p.m p.N = 0) : sm p.w (fun j => - p.T0 p.m j * xOf p t j) = t.T p.m p.N := by
  have h := x_col G (r := p.m) (Nat.le_refl _)
  rw [sl_sum p (Nat.le_refl _), if_pos rfl, if_pos rfl, h0] at h
  have e : sm p.w (fun j => - p.T0 p.m j * xOf p t j) = - sm p.w (fun j => p.T0 p.m j * xOf p t j) := by
    have := sm_mul (-1) (fun j => p.T0 p.m j * xOf p t j) p.w
    rw [show (-1 : Int) * sm p.w (fun j => p.T0 p.m j * xOf p t j) = - sm p.w (fun j => p.T0 p.m j * xOf p t j) by omega] at this
    rw [← this]; exact sm_congr fun j _ => by grind
  rw [e]; omega
theorem dual (G : Good p t) {j : Nat} (hj : j ≤ p.N) : t.T p.m j = sm p.m (fun i => t.T p.m (p.w + i) * (p.σ i * p.T0 i j)) + t.bottom * p.T0 p.m j := by
  have h := G.iv.i0.co p.m (Nat.le_refl _) j hj
  rw [if_pos rfl] at h
  rw [h]
  congr 1
  exact sm_congr fun i _ => by grind
theorem unb (G : Good p t) {c : Nat} (hc : c < p.N) (h0 : t.T p.m c < 0) (hl : ∀ k, k < p.m → t.T k c ≤ 0) :
    (∀ j, 0 ≤ dirY p t.st c j) ∧ (∀ r, r < p.m → sm p.w (fun j => p.σ r * p.T0 r j * dirY p t.st c j) ≤ 0) ∧ 0 < sm p.w (fun j => - p.T0 p.m j * dirY p t.st c j) := by
  have y0 : ∀ j, 0 ≤ dirY p t.st c j := fun j => by
    unfold dirY
    have h1 : 0 ≤ if j = c then t.st.d else 0 := by
      split
      · exact Int.le_of_lt G.iv.i0.d0
      · exact Int.le_refl _
    have h2 : 0 ≤ sm p.m fun k => - (if t.st.β k = j then t.st.T k c else 0) := sm_nonneg fun k hk => by
      split
      · have := hl k hk
        show 0 ≤ - t.T k c
        omega
      · exact Int.le_refl _
    have h3 : (sm p.m fun k => - (if t.st.β k = j then t.st.T k c else 0)) = - sm p.m fun k => (if t.st.β k = j then t.st.T k c else 0) := by
      have := sm_mul (-1) (fun k => (if t.st.β k = j then t.st.T k c else 0)) p.m
      rw [show (-1 : Int) * (sm p.m fun k => (if t.st.β k = j then t.st.T k c else 0)) = - (sm p.m fun k => (if t.st.β k = j then t.st.T k c else 0)) by omega] at this
      rw [← this]; exact sm_congr fun k _ => by omega
    omega
  refine ⟨y0, fun r hr => ?_, ?_⟩
  · have h := dirY_col (s := t.st) G.iv hc (r := r) (by omega)
    rw [sl_sum p (by omega), if_neg (by omega), if_neg (by omega)] at h
    have e : sm p.w (fun j => p.σ r * p.T0 r j * dirY p t.st c j) = p.σ r * sm p.w (fun j => p.T0 r j * dirY p t.st c j) := by
      rw [← sm_mul]; exact sm_congr fun j _ => by grind
    have hs := p.hσ r hr
    have := y0 (p.w + r)
    have e2 : p.σ r * (p.σ r * dirY p t.st c (p.w + r)) = dirY p t.st c (p.w + r) := by rw [← Int.mul_assoc, hs]; omega
    have e4 : p.σ r * (sm p.w (fun j => p.T0 r j * dirY p t.st c j) + p.σ r * dirY p t.st c (p.w + r)) = p.σ r * 0 := by rw [h]
    rw [Int.mul_add, e2, Int.mul_zero] at e4
    rw [e]; omega
  · have h := dirY_col (s := t.st) G.iv hc (r := p.m) (Nat.le_refl _)
    rw [sl_sum p (Nat.le_refl _), if_pos rfl, if_pos rfl] at h
    have e : sm p.w (fun j => - p.T0 p.m j * dirY p t.st c j) = - sm p.w (fun j => p.T0 p.m j * dirY p t.st c j) := by
      have := sm_mul (-1) (fun j => p.T0 p.m j * dirY p t.st c j) p.w
      rw [show (-1 : Int) * sm p.w (fun j => p.T0 p.m j * dirY p t.st c j) = - sm p.w (fun j => p.T0 p.m j * dirY p t.st c j) by omega] at this
      rw [← this]; exact sm_congr fun j _ => by grind
    rw [e]
    have h0' : t.st.T p.m c < 0 := h0
    omega
theorem entry_abs (G : Good p t) {B : Nat} (hB : 1 ≤ B) (h : ∀ k, k ≤ p.m → ∀ j, j ≤ p.N → (p.T0 k j).natAbs ≤ B) : (∀ k, k ≤ p.m → ∀ j, j ≤ p.N → (t.T k j).natAbs ≤ fac (p.m + 1) * B ^ (p.m + 1)) ∧ t.bottom.natAbs ≤ fac (p.m + 1) * B ^ (p.m + 1) := by
  obtain ⟨s, hs, e⟩ := G.iv.i0.dt
  have hv : ∀ k, k ≤ p.m → ∀ r, r ≤ p.m → (vOf p t.β k r).natAbs ≤ B := fun k hk r hr => by
    unfold vOf
    by_cases z : k < p.m
    · rw [if_pos z]; exact h r hr _ (Nat.le_of_lt (G.iv.bs k z).1)
    · rw [if_neg z]
      split
      · exact hB
      · simp
  have s1 : s.natAbs = 1 := by
    have : (s * s).natAbs = 1 := by rw [hs]; rfl
    rw [Int.natAbs_mul] at this
    exact Nat.eq_one_of_mul_eq_one_right this
  refine ⟨fun k hk j hj => ?_, ?_⟩
  · rw [G.iv.i0.entry hk hj hs e, Int.natAbs_mul, s1, Nat.one_mul]
    refine det_abs fun i hi r hr => ?_
    unfold put
    by_cases z : i = k
    · rw [if_pos z]; exact h r (by omega) j hj
    · rw [if_neg z]; exact hv i (by omega) r (by omega)
  · have : (det (p.m + 1) (vOf p t.β)).natAbs = t.bottom.natAbs := by rw [e, Int.natAbs_mul, s1, Nat.one_mul]
    rw [← this]
    exact det_abs fun i hi r hr => hv i (by omega) r (by omega)
end
end Sx
namespace Rk
open PySem PySem.Spec PyProof.Rows L2
def clA (mg : Str → Option Value) (x : Str) : Addr := match mg x with
  | some (.ref a) => a
  | _ => 0
theorem clA_eq {mg : Str → Option Value} {x : Str} {a : Addr} (h : mg x = some (.ref a)) : clA mg x = a := by unfold clA; rw [h]
def NoL (K : PySem.W.Frag) (C : Addr) : List Str → Prop
  | [] => True
  | f :: r => NoAttr K C f ∧ NoL K C r
theorem NoL.all {K : PySem.W.Frag} {C : Addr} : ∀ {ns : List Str}, NoL K C ns → ∀ f ∈ ns, NoAttr K C f
  | [], _, f, h => nomatch h
  | g :: r, ⟨h1, h2⟩, f, h => by
    rcases List.mem_cons.mp h with rfl | h
    · exact h1
    · exact h2.all f h
section
variable {K : PySem.W.Frag} {mg : Str → Option Value} {h : Heap} {x m qual : Str} {C f : Addr} {ns : List Str} {st : Stmt}
theorem mkok_mk (X : K.In h) (G : h.Ns mainGlobals mg) (aC : PySem.W.nsIn K mainGlobals x = some (some (.ref C))) (mk : PySem.W.makesIn K C = true) (kc : PySem.W.keepIn K (.ref C) = true) : MkOk K mg x (clA mg x) := by
  have e := PySem.W.mg_of X G aC
  rw [clA_eq e]
  exact ⟨e, mk, kc⟩
theorem clsa_mk (X : K.In h) (G : h.Ns mainGlobals mg) (aC : PySem.W.nsIn K mainGlobals x = some (some (.ref C))) (pg : PySem.W.plainGet K C Str.empty = true) (hd : PySem.W.hasDictIn K C = true) (po : PySem.W.plainOver K C = true)
    (sa : PySem.W.findIn K (.ref C) "__setattr__" = some (some (.builtin "object.__setattr__"))) (no : NoL K C ns) : ClsA K (clA mg x) ns := by
  rw [clA_eq (PySem.W.mg_of X G aC)]
  exact ⟨⟨pg, hd, po, sa⟩, no.all⟩
theorem hasmeth_mk (X : K.In h) (G : h.Ns mainGlobals mg) (aC : PySem.W.nsIn K mainGlobals x = some (some (.ref C))) {oc : Value} {od an : Option Addr} {osl : Array (Option Value)} {kV doc pm cdv ct : Value}
    (a1 : PySem.W.findIn K (.ref C) m = some (some (.ref f))) (i1 : PySem.W.isFn K (.ref f) = true) (l1 : K.lookup f = some ⟨oc, od, .func (PySem.W.fnOf m qual (defArgs st) (defBody st) (defScope st) .none kV doc pm an cdv ct), osl⟩)
    (c1 : PySem.W.codeIn K cdv qual = true) (k1 : PySem.W.keepIn K (.ref f) = true) : HasMeth K (clA mg x) m qual st := by
  rw [clA_eq (PySem.W.mg_of X G aC)]
  exact ⟨f, _, ⟨a1, i1, k1⟩, fun_mk l1 c1 k1⟩
end
abbrev fvT (t : Sx.Tab) : List (Str × FV) := [("wide", .d (.int (t.wide : Int))), ("bottom", .d (.int t.bottom)), ("basis", .o (t.basis.map .int)), ("lines", .o (t.lines.map lInts))]
def SmallT (a : Nat) (t : Sx.Tab) : Prop := (∀ l ∈ t.lines, ∀ x ∈ l, x.natAbs < 2 ^ a) ∧ t.bottom.natAbs < 2 ^ a
end Rk
namespace Rk
open PySem PySem.Spec PyProof.Rows L2
theorem atI_last {α : Type} {f : α → PyData} {xs : List α} {n : Nat} (d : α) (h : xs.length = n + 1) : atI (xs.map f) (-1) = some (f (xs.getD n d)) := by
  unfold atI
  have e : ixN (xs.map f).length (-1) = some n := by
    unfold ixN
    rw [List.length_map, h]
    rw [if_neg (by omega)]
    rw [if_pos (by omega)]
    congr 1
    omega
  rw [e]
  show (xs.map f)[n]? = _
  rw [List.getElem?_map, List.getElem?_eq_getElem (by omega), List.getD, List.getElem?_eq_getElem (by omega)]; rfl
theorem ixN_nat {n k : Nat} (h : k < n) : ixN n ((k : Nat) : Int) = some k := by
  rw [ixN_in (by omega) (by omega)]; simp
def oN : Option Nat → PyData
  | none => .none
  | some n => .int (n : Int)
theorem range_at {n N i : Nat} (h : (List.range N)[n]? = some i) : i = n ∧ n < N := by
  have h1 := (List.getElem?_eq_some_iff.mp h).1
  rw [List.length_range] at h1
  rw [List.getElem?_range h1] at h
  exact ⟨(Option.some.inj h).symm, h1⟩
theorem SmallT.line {a : Nat} {t : Sx.Tab} {m w : Nat} (ST : SmallT a t) (S : Sx.Shape t m w) {k : Nat} (hk : k ≤ m) (j : Nat) : ((t.lines.getD k []).getD j 0).natAbs < 2 ^ a := by
  have hl := S.hl
  by_cases hj : j < (t.lines.getD k []).length
  · refine ST.1 (t.lines.getD k []) ?_ _ (mem_getD hj 0)
    rw [List.getD, List.getElem?_eq_getElem (by omega)]
    exact List.getElem_mem _
  · generalize t.lines.getD k [] = l at hj
    rw [List.getD, List.getElem?_eq_none (by omega)]
    exact Nat.two_pow_pos a
end Rk
namespace Rk
open PySem PySem.Spec PyProof.Rows L2
section
variable {C : Ct} {ρ : List SV} {b b1 b2 : Bool} {e : Expr} {pos p : Pos}
theorem src_rangeJ {n : Nat} {j : Int} {tg : Expr} {fr : Bool} (hm : C.X.mg "range" = none) (h : Ev C ρ e b1 (.int j)) (hj : j = ((n : Nat) : Int)) (hn : n ≤ 1000000) (hs : starEach [e] C.X.env = [(false, eval e C.X.env)] := by rfl) (hg : Gl C.X "range" := by rfl) : Src C ρ tg (.Call (.Name "range" p) [e] [] pos) fr b ((List.range n).map fun i => .int ((i : Nat) : Int)) := by
  subst hj
  exact src_rangeN hm h hn hs hg
end
theorem smallT_of {a : Nat} {t : Sx.Tab} {m w : Nat} (S : Sx.Shape t m w) (h : ∀ k, k ≤ m → ∀ j, j ≤ w + m → (t.T k j).natAbs < 2 ^ a) (hb : t.bottom.natAbs < 2 ^ a) : SmallT a t := by
  have hl := S.hl
  refine ⟨fun l hl' x hx => ?_, hb⟩
  obtain ⟨k, hk, rfl⟩ := List.getElem_of_mem hl'
  obtain ⟨j, hj, rfl⟩ := List.getElem_of_mem hx
  have hr := S.hr _ (List.getElem_mem hk)
  have := h k (by omega) j (by omega)
  have e1 : t.lines.getD k [] = t.lines[k] := by rw [List.getD, List.getElem?_eq_getElem hk]; rfl
  show (t.lines[k][j]).natAbs < _
  have e2 : t.T k j = t.lines[k][j] := by
    show (t.lines.getD k []).getD j 0 = _
    rw [e1, List.getD, List.getElem?_eq_getElem hj]; rfl
  rwa [e2] at this
structure LpS (L : Sx.Lp) (B a : Nat) : Prop where
  b1 : 1 ≤ B
  hB : ∀ k, k ≤ L.rows.length → ∀ j, j ≤ L.gains.length + L.rows.length → ((Sx.initM L).T k j).natAbs ≤ B
  ha : Sx.fac (L.rows.length + 1) * B ^ (L.rows.length + 1) < 2 ^ a
  a4 : a ≤ 4000
  m4 : L.rows.length ≤ 40
  w4 : L.gains.length ≤ 40
theorem fac_pos : ∀ n, 1 ≤ Sx.fac n
  | 0 => Nat.le_refl _
  | n + 1 => Nat.mul_le_mul (show 1 ≤ n + 1 by omega) (fac_pos n)
theorem LpS.lt {L : Sx.Lp} {B a : Nat} (S : LpS L B a) : B < 2 ^ a := by
  refine Nat.lt_of_le_of_lt ?_ S.ha
  have h1 := fac_pos (L.rows.length + 1)
  have h2 : B ≤ B ^ (L.rows.length + 1) := by
    rw [Nat.pow_succ]
    have : 1 ≤ B ^ L.rows.length := Nat.pow_pos (n := L.rows.length) S.b1
    calc B = 1 * B := (Nat.one_mul B).symm
      _ ≤ B ^ L.rows.length * B := Nat.mul_le_mul_right _ this
  calc B = 1 * B := (Nat.one_mul B).symm
    _ ≤ _ := Nat.mul_le_mul h1 h2
theorem LpS.a0 {L : Sx.Lp} {B a : Nat} (S : LpS L B a) : 0 < a := by
  refine Nat.pos_of_ne_zero fun z => ?_
  have h1 := S.lt
  have h2 := S.b1
  rw [z] at h1
  simp at h1; omega
theorem LpS.init {L : Sx.Lp} {B a : Nat} (S : LpS L B a) (O : L.Ok) : SmallT a (Sx.initM L) :=
  smallT_of (Sx.init_shape O) (fun k hk j hj => Nat.lt_of_le_of_lt (S.hB k hk j hj) S.lt) (by show (1 : Int).natAbs < _; exact Nat.lt_of_le_of_lt S.b1 S.lt)
theorem LpS.good {L : Sx.Lp} {B a : Nat} {O : L.Ok} {fl : Option Nat} {hf : ∀ f, fl = some f → f < L.rows.length} {t : Sx.Tab} (S : LpS L B a) (G : Sx.Good (Sx.probOf L O fl hf) t) : SmallT a t := by
  have h := Sx.entry_abs G S.b1 fun k hk j hj => by
    show (if fl = some k then - (Sx.initM L).T k j else (Sx.initM L).T k j).natAbs ≤ B
    have := S.hB k hk j hj
    split
    · rw [Int.natAbs_neg]; exact this
    · exact this
  exact smallT_of G.sh (fun k hk j hj => Nat.lt_of_le_of_lt (h.1 k hk j hj) S.ha) (Nat.lt_of_le_of_lt h.2 S.ha)
end Rk
namespace Rk
open PySem PySem.Spec PyProof.Rows L2
theorem cutD_mid {α : Type} {f : α → PyData} {xs : List α} {w m : Nat} (h : xs.length = w + m + 1) : cutD (xs.map f) (some ((w : Nat) : Int)) (some (-1)) = ((xs.drop w).take m).map f := by
  unfold cutD
  have e1 : HT.sIx (xs.map f).length 0 (some ((w : Nat) : Int)) = w := by
    rw [HT.sIx_nat, List.length_map]; omega
  have e2 : HT.sIx (xs.map f).length (xs.map f).length (some (-1)) = w + m := by
    show (if (-1 : Int) < 0 then ((-1 : Int) + (((xs.map f).length : Nat) : Int)).toNat else min (-1 : Int).toNat (xs.map f).length) = _
    rw [if_pos (by decide), List.length_map]; omega
  rw [e1, e2, ← List.map_drop, ← List.map_take]
  congr 2
  omega
theorem mid_eq (ls : List Int) {w m : Nat} (h : ls.length = w + m + 1) : (ls.drop w).take m = (List.range m).map fun i => ls.getD (w + i) 0 := by
  refine List.ext_getElem? fun i => ?_
  rw [List.getElem?_map]
  by_cases hi : i < m
  · rw [List.getElem?_take_of_lt hi, List.getElem?_drop, List.getElem?_range hi]
    show _ = some (ls.getD (w + i) 0)
    rw [List.getD, List.getElem?_eq_getElem (by omega)]; rfl
  · rw [List.getElem?_eq_none (by rw [List.length_take, List.length_drop]; omega), List.getElem?_eq_none (by rw [List.length_range]; omega)]; rfl
theorem getD_mapD {α β : Type} {f : α → β} {xs : List α} {i : Nat} {d : α} {d' : β} (h : i < xs.length) : (xs.map f).getD i d' = f (xs.getD i d) := by
  rw [List.getD, List.getElem?_map, List.getElem?_eq_getElem h, List.getD, List.getElem?_eq_getElem h]; rfl
def bestQ (t : Sx.Tab) (m w : Nat) : Rat := Rat.divInt (t.T m (w + m)) t.bottom
def amtQ (p : Sx.Prob) (t : Sx.Tab) : List Rat := (List.range p.w).map fun j => Rat.divInt (Sx.xOf p t j) t.bottom
def worQ (t : Sx.Tab) (m w : Nat) : List Rat := (List.range m).map fun i => Rat.divInt (t.T m (w + i)) t.bottom
theorem dotQ_sm (d : Int) (X : Nat → Int) : ∀ (n : Nat) (ns : List Int), ns.length = n → dotQ ns ((List.range n).map fun j => Rat.divInt (X j) d) = Rat.divInt (Sx.sm n fun j => ns.getD j 0 * X j) d
  | 0, [], _ => by simp [dotQ, Sx.sm, Rat.divInt_eq_div, Rat.div_def]
  | 0, _ :: _, h => by simp at h
  | n + 1, ns, h => by
    have e1 : ns = ns.take n ++ [ns.getD n 0] := by
      have h1 : n < ns.length := by omega
      rw [List.getD, List.getElem?_eq_getElem h1]
      have h2 : ns.take (n + 1) = ns.take n ++ [ns[n]] := by simp
      rw [List.take_of_length_le (by omega)] at h2
      exact h2
    have hl : (ns.take n).length = n := by rw [List.length_take]; omega
    rw [List.range_succ, List.map_append]
    rw [show dotQ ns (List.map (fun j => Rat.divInt (X j) d) (List.range n) ++ List.map (fun j => Rat.divInt (X j) d) [n]) = dotQ (ns.take n ++ [ns.getD n 0]) (List.map (fun j => Rat.divInt (X j) d) (List.range n) ++ List.map (fun j => Rat.divInt (X j) d) [n]) by rw [← e1]]
    rw [List.map_singleton, dotQ_app (by rw [hl]; simp), dotQ_sm d X n (ns.take n) hl]
    have e2 : (Sx.sm n fun j => (ns.take n).getD j 0 * X j) = Sx.sm n fun j => ns.getD j 0 * X j := Sx.sm_congr fun k hk => by
      have : (ns.take n).getD k 0 = ns.getD k 0 := by
        rw [List.getD, List.getElem?_take_of_lt hk]; rfl
      rw [this]
    rw [e2]
    show _ = Rat.divInt (Sx.sm n (fun j => ns.getD j 0 * X j) + ns.getD n 0 * X n) d
    rw [Rat.divInt_eq_div, Rat.divInt_eq_div, Rat.divInt_eq_div, Rat.intCast_add, Rat.intCast_mul]
    grind
structure LpOpt (L : Sx.Lp) (best : Rat) (x y : List Rat) : Prop where
  lx : x.length = L.gains.length
  ly : y.length = L.rows.length
  x0 : ∀ q ∈ x, 0 ≤ q
  y0 : ∀ q ∈ y, 0 ≤ q
  pri : ∀ k, k < L.rows.length → dotQ (L.rows.getD k []) x ≤ ((L.limits.getD k 0 : Int) : Rat)
  dua : ∀ j, j < L.gains.length → ((L.gains.getD j 0 : Int) : Rat) ≤ dotQ (L.rows.map fun r => r.getD j 0) y
  gx : dotQ L.gains x = best
  gy : dotQ L.limits y = best
structure LpUnb (L : Sx.Lp) : Prop where
  ex : ∃ z : List Rat, z.length = L.gains.length ∧ (∀ q ∈ z, 0 ≤ q) ∧ (∀ k, k < L.rows.length → dotQ (L.rows.getD k []) z ≤ 0) ∧ 0 < dotQ L.gains z
theorem divInt_nonneg {n d : Int} (hd : 0 < d) (hn : 0 ≤ n) : (0 : Rat) ≤ Rat.divInt n d := by
  rw [Rat.divInt_eq_div, Rat.div_def]
  have h1 : (0 : Rat) < (d : Rat) := by exact_mod_cast hd
  exact Rat.mul_nonneg (by exact_mod_cast hn) (Rat.le_of_lt (Rat.inv_pos.mpr h1))
theorem divInt_le {n k d : Int} (hd : 0 < d) (h : n ≤ d * k) : Rat.divInt n d ≤ ((k : Int) : Rat) := by
  rw [Rat.divInt_eq_div]
  have h1 : (0 : Rat) < (d : Rat) := by exact_mod_cast hd
  have h2 : ((n : Int) : Rat) ≤ ((d * k : Int) : Rat) := by exact_mod_cast h
  rw [Rat.intCast_mul] at h2
  have h3 : (n : Rat) / (d : Rat) * (d : Rat) = (n : Rat) := by grind
  refine Rat.not_lt.mp fun z => ?_
  have h4 := Rat.mul_lt_mul_of_pos_right z h1
  rw [h3, Rat.mul_comm] at h4
  exact Rat.not_lt.mpr h2 h4
theorem le_divInt {n k d : Int} (hd : 0 < d) (h : d * k ≤ n) : ((k : Int) : Rat) ≤ Rat.divInt n d := by
  rw [Rat.divInt_eq_div]
  have h1 : (0 : Rat) < (d : Rat) := by exact_mod_cast hd
  have h2 : ((d * k : Int) : Rat) ≤ ((n : Int) : Rat) := by exact_mod_cast h
  rw [Rat.intCast_mul] at h2
  have h3 : (n : Rat) / (d : Rat) * (d : Rat) = (n : Rat) := by grind
  refine Rat.not_lt.mp fun z => ?_
  have h4 := Rat.mul_lt_mul_of_pos_right z h1
  rw [h3, Rat.mul_comm] at h4
  exact Rat.not_lt.mpr h2 h4
section
variable {L : Sx.Lp} {O : L.Ok} {fl : Option Nat} {hf : ∀ f, fl = some f → f < L.rows.length} {t : Sx.Tab}
theorem σT (k j : Nat) : (Sx.probOf L O fl hf).σ k * (Sx.probOf L O fl hf).T0 k j = (Sx.initM L).T k j := by
  show (if fl = some k then (-1 : Int) else 1) * (if fl = some k then - (Sx.initM L).T k j else (Sx.initM L).T k j) = _
  split
  · rw [Int.neg_mul_neg, Int.one_mul]
  · rw [Int.one_mul]
theorem T0m (j : Nat) : (Sx.probOf L O fl hf).T0 L.rows.length j = (Sx.initM L).T L.rows.length j := by
  show (if fl = some L.rows.length then _ else _) = _
  rw [if_neg fun z => by have := hf _ z; omega]
theorem good_amt (G : Sx.Good (Sx.probOf L O fl hf) t) : (amtQ (Sx.probOf L O fl hf) t).length = L.gains.length ∧ (∀ q ∈ amtQ (Sx.probOf L O fl hf) t, 0 ≤ q) ∧ (∀ k, k < L.rows.length → dotQ (L.rows.getD k []) (amtQ (Sx.probOf L O fl hf) t) ≤ ((L.limits.getD k 0 : Int) : Rat)) ∧ dotQ L.gains (amtQ (Sx.probOf L O fl hf) t) = bestQ t L.rows.length L.gains.length := by
  have d0 := G.iv.i0.d0
  refine ⟨by unfold amtQ; rw [List.length_map, List.length_range]; rfl, fun q hq => ?_, fun k hk => ?_, ?_⟩
  · obtain ⟨j, _, rfl⟩ := List.mem_map.mp hq
    exact divInt_nonneg d0 (Sx.x_nonneg G j)
  · unfold amtQ
    show dotQ (L.rows.getD k []) ((List.range L.gains.length).map _) ≤ _
    rw [dotQ_sm _ _ _ _ (Sx.rows_len O hk)]
    refine divInt_le d0 ?_
    have h := Sx.feas G (r := k) hk
    rw [σT] at h
    have e1 : (Sx.sm L.gains.length fun j => (L.rows.getD k []).getD j 0 * Sx.xOf (Sx.probOf L O fl hf) t j) = Sx.sm (Sx.probOf L O fl hf).w fun j => (Sx.probOf L O fl hf).σ k * (Sx.probOf L O fl hf).T0 k j * Sx.xOf (Sx.probOf L O fl hf) t j := Sx.sm_congr fun j hj => by
      rw [σT, Sx.init_A O hk hj]
    rw [e1]
    have e2 : (Sx.initM L).T k (Sx.probOf L O fl hf).N = L.limits.getD k 0 := Sx.init_b O hk
    rw [e2] at h
    exact h
  · unfold amtQ bestQ
    show dotQ L.gains ((List.range L.gains.length).map _) = _
    rw [dotQ_sm _ _ _ _ rfl]
    congr 1
    have h := Sx.gain G (by show (Sx.probOf L O fl hf).T0 L.rows.length _ = 0; rw [T0m]; exact Sx.init_0 O (by show L.gains.length ≤ L.gains.length + L.rows.length; omega))
    have e1 : (Sx.sm L.gains.length fun j => L.gains.getD j 0 * Sx.xOf (Sx.probOf L O fl hf) t j) = Sx.sm (Sx.probOf L O fl hf).w fun j => - (Sx.probOf L O fl hf).T0 (Sx.probOf L O fl hf).m j * Sx.xOf (Sx.probOf L O fl hf) t j := Sx.sm_congr fun j hj => by
      have : (Sx.probOf L O fl hf).T0 (Sx.probOf L O fl hf).m j = - L.gains.getD j 0 := by
        show (Sx.probOf L O fl hf).T0 L.rows.length j = _
        rw [T0m]; exact Sx.init_c O hj
      rw [this, Int.neg_neg]
    rw [e1, h]; rfl
theorem good_opt (G : Sx.Good (Sx.probOf L O fl hf) t) (h : ∀ j, j < L.gains.length + L.rows.length → 0 ≤ t.T L.rows.length j) : LpOpt L (bestQ t L.rows.length L.gains.length) (amtQ (Sx.probOf L O fl hf) t) (worQ t L.rows.length L.gains.length) := by
  have d0 := G.iv.i0.d0
  obtain ⟨a1, a2, a3, a4⟩ := good_amt G
  have lw : (worQ t L.rows.length L.gains.length).length = L.rows.length := by unfold worQ; rw [List.length_map, List.length_range]
  refine ⟨a1, lw, a2, fun q hq => ?_, a3, fun j hj => ?_, a4, ?_⟩
  · obtain ⟨i, hi, rfl⟩ := List.mem_map.mp hq
    exact divInt_nonneg d0 (h _ (by have := List.mem_range.mp hi; omega))
  · unfold worQ
    rw [dotQ_sm _ _ _ _ (List.length_map _)]
    refine le_divInt d0 ?_
    have hd := Sx.dual G (j := j) (by show j ≤ L.gains.length + L.rows.length; omega)
    have e0 : (Sx.probOf L O fl hf).T0 (Sx.probOf L O fl hf).m j = - L.gains.getD j 0 := by
      show (Sx.probOf L O fl hf).T0 L.rows.length j = _
      rw [T0m]; exact Sx.init_c O hj
    rw [e0, Int.mul_neg] at hd
    have h0 : 0 ≤ t.T (Sx.probOf L O fl hf).m j := h j (by omega)
    have e1 : (Sx.sm L.rows.length fun i => (L.rows.map fun r => r.getD j 0).getD i 0 * t.T L.rows.length (L.gains.length + i)) = Sx.sm (Sx.probOf L O fl hf).m fun i => t.T (Sx.probOf L O fl hf).m ((Sx.probOf L O fl hf).w + i) * ((Sx.probOf L O fl hf).σ i * (Sx.probOf L O fl hf).T0 i j) := Sx.sm_congr fun i hi => by
      rw [σT, Sx.init_A O hi hj, Int.mul_comm]
      congr 1
      exact getD_mapD hi
    rw [e1]
    omega
  · unfold worQ bestQ
    rw [dotQ_sm _ _ _ _ O.lm]
    congr 1
    have hd := Sx.dual G (j := (Sx.probOf L O fl hf).N) (Nat.le_refl _)
    have e0 : (Sx.probOf L O fl hf).T0 (Sx.probOf L O fl hf).m (Sx.probOf L O fl hf).N = 0 := by
      show (Sx.probOf L O fl hf).T0 L.rows.length _ = _
      rw [T0m]; exact Sx.init_0 O (by show L.gains.length ≤ L.gains.length + L.rows.length; omega)
    rw [e0, Int.mul_zero, Int.add_zero] at hd
    refine Eq.trans (Sx.sm_congr fun i hi => ?_) hd.symm
    rw [σT]
    have e2 : (Sx.initM L).T i (Sx.probOf L O fl hf).N = L.limits.getD i 0 := Sx.init_b O hi
    rw [e2, Int.mul_comm]; rfl
theorem good_unb (G : Sx.Good (Sx.probOf L O fl hf) t) {c : Nat} (hc : c < L.gains.length + L.rows.length) (h0 : t.T L.rows.length c < 0) (hl : ∀ k, k < L.rows.length → t.T k c ≤ 0) : LpUnb L := by
  obtain ⟨u1, u2, u3⟩ := Sx.unb G hc h0 hl
  refine ⟨(List.range L.gains.length).map fun j => Rat.divInt (Sx.dirY (Sx.probOf L O fl hf) t.st c j) 1, by rw [List.length_map, List.length_range], fun q hq => ?_, fun k hk => ?_, ?_⟩
  · obtain ⟨j, _, rfl⟩ := List.mem_map.mp hq
    exact divInt_nonneg (by decide) (u1 j)
  · rw [dotQ_sm _ _ _ _ (Sx.rows_len O hk)]
    have e1 : (Sx.sm L.gains.length fun j => (L.rows.getD k []).getD j 0 * Sx.dirY (Sx.probOf L O fl hf) t.st c j) = Sx.sm (Sx.probOf L O fl hf).w fun j => (Sx.probOf L O fl hf).σ k * (Sx.probOf L O fl hf).T0 k j * Sx.dirY (Sx.probOf L O fl hf) t.st c j := Sx.sm_congr fun j hj => by
      rw [σT, Sx.init_A O hk hj]
    rw [e1]
    have := divInt_le (k := 0) (d := 1) (by decide) (show (Sx.sm (Sx.probOf L O fl hf).w fun j => (Sx.probOf L O fl hf).σ k * (Sx.probOf L O fl hf).T0 k j * Sx.dirY (Sx.probOf L O fl hf) t.st c j) ≤ 1 * 0 by have := u2 k hk; omega)
    simpa using this
  · rw [dotQ_sm _ _ _ _ rfl]
    have e1 : (Sx.sm L.gains.length fun j => L.gains.getD j 0 * Sx.dirY (Sx.probOf L O fl hf) t.st c j) = Sx.sm (Sx.probOf L O fl hf).w fun j => - (Sx.probOf L O fl hf).T0 (Sx.probOf L O fl hf).m j * Sx.dirY (Sx.probOf L O fl hf) t.st c j := Sx.sm_congr fun j hj => by
      have : (Sx.probOf L O fl hf).T0 (Sx.probOf L O fl hf).m j = - L.gains.getD j 0 := by
        show (Sx.probOf L O fl hf).T0 L.rows.length j = _
        rw [T0m]; exact Sx.init_c O hj
      rw [this, Int.neg_neg]
    rw [e1]
    have h1 := le_divInt (k := 1) (d := 1) (by decide) (show (1 : Int) * 1 ≤ Sx.sm (Sx.probOf L O fl hf).w fun j => - (Sx.probOf L O fl hf).T0 (Sx.probOf L O fl hf).m j * Sx.dirY (Sx.probOf L O fl hf) t.st c j by omega)
    refine Std.lt_of_lt_of_le ?_ h1
    decide
end
structure LpCd (d M : Nat) (best : Rat) (x y : List Rat) : Prop where
  cb : Cd d M best
  cx : ∀ q ∈ x, Cd d M q
  cy : ∀ q ∈ y, Cd d M q
end Rk
namespace Rk
open PySem PySem.Spec PyProof.Rows L2
theorem inV_strs (z : Str) : ∀ xs : List Str, inV (.str z) (xs.map V.str) = decide (z ∈ xs)
  | [] => rfl
  | x :: xs => by
    show (eqV (.str x) (.str z) || inV (.str z) (xs.map V.str)) = _
    rw [inV_strs z xs]
    show ((x == z) || _) = _
    by_cases e : z = x
    · subst e; simp
    · have h1 : (x == z) = false := beq_eq_false_iff_ne.mpr (Ne.symm e)
      rw [h1, Bool.false_or]
      exact decide_eq_decide.mpr (by simp [e])
theorem inV_ints (z : Int) : ∀ xs : List Int, inV (.int z) (xs.map V.int) = decide (z ∈ xs)
  | [] => rfl
  | x :: xs => by
    show (eqV (.int x) (.int z) || inV (.int z) (xs.map V.int)) = _
    rw [inV_ints z xs]
    show ((x == z) || _) = _
    by_cases e : z = x
    · subst e; simp
    · have h1 : (x == z) = false := beq_eq_false_iff_ne.mpr (Ne.symm e)
      rw [h1, Bool.false_or]
      exact decide_eq_decide.mpr (by simp [e])
theorem all_flat {α : Type} {f : α → V} (h : ∀ x, flatV (f x) = true) : ∀ xs : List α, (xs.map f).all flatV = true
  | [] => rfl
  | x :: xs => by simp only [List.map_cons, List.all_cons, h x, all_flat h xs, Bool.and_self]
theorem RpAll.strs {L T : Addr → List V → Prop} : ∀ {ns : List Str} {vs : List V}, RpAll L T vs (ns.map .str) → vs = ns.map V.str
  | [], _, h => by cases h; rfl
  | n :: ns, _, h => by
    cases h with
    | cons a b => cases a; rw [RpAll.strs b]; rfl
def TupC (K : PySem.W.Frag) (mg : Str → Option Value) (x : Str) (xs : List Str) : Prop := ∃ (a : Addr) (o : Obj) (its : Array Value) (n : Nat), mg x = some (.ref a) ∧ K.lookup a = some o ∧ o.cls = .type "tuple" ∧ o.data = .seq its n ∧ its.size ≤ sizeLine ∧ Vals (xs.map V.str) its.toList
theorem tupc_mk2 {K : PySem.W.Frag} {mg : Str → Option Value} {h : Heap} {x z1 z2 : Str} {a : Addr} {dd : Option Addr} {t1 t2 : Tok} {n : Nat} {sl : Array (Option Value)} (X : K.In h) (G : h.Ns mainGlobals mg) (aC : PySem.W.nsIn K mainGlobals x = some (some (.ref a)))
    (l : K.lookup a = some ⟨.type "tuple", dd, .seq #[.str z1 t1, .str z2 t2] n, sl⟩) : TupC K mg x [z1, z2] :=
  ⟨a, _, _, n, PySem.W.mg_of X G aC, l, rfl, rfl, (show 2 ≤ sizeLine by decide), .cons ⟨t1, rfl⟩ (.cons ⟨t2, rfl⟩ .nil)⟩
section
variable {C : Ct} {ρ : List SV} {b b1 b2 : Bool} {a c e : Expr} {pos p p1 p2 p3 : Pos} {x : Str} {z : Str} {xs : List Str} {i : Int} {ns : List Int} {Ds Es : List PyData} {T : Tn} {rest : List Stmt}
theorem ev_gtup (h : TupC C.X.K C.X.mg x xs) (hd : (x == ("__debug__" : Str)) = false := by decide) (hg : Gl C.X x := by rfl) : Ev C ρ (.Name x p) true (.tuple (xs.map .str)) := .mk fun Pn F q σ H E => by
  obtain ⟨a, o, its, n, h1, h2, h3, h4, h5, h6⟩ := h
  refine semE_of (pe_glob (v := .ref a) hg h1 rfl hd) ⟨Same.refl _, .tup (.inr ⟨o, its, n, h2, h3, h4, h5, h6⟩) ?_⟩
  have : ∀ xs : List Str, RpAll (LC true C.H0 H (Own q F)) (SqT C.X.K H) (xs.map V.str) (xs.map .str) := fun xs => by
    induction xs with
    | nil => exact .nil
    | cons x xs ih => exact .cons (.str x) ih
  exact this xs
theorem ec_inT (ha : Ev C ρ a b1 (.str z)) (hc : Ev C ρ c b2 (.tuple (xs.map .str))) : Ec C ρ a .In c (decide (z ∈ xs)) := ec_op op_in_seq ha hc fun N v u H Q r1 r2 k => by
  cases r1
  cases r2 with
  | tup t r =>
    rw [RpAll.strs r] at t
    exact ⟨_, _, rfl, .inr t, rfl, all_flat (fun _ => rfl) xs, by rw [← inV_strs z xs] at k; exact k⟩
theorem ec_notInL (ha : Ev C ρ a b1 (.int i)) (hc : Bx C ρ c b2 (ns.map .int)) : Ec C ρ a .NotIn c (!decide (i ∈ ns)) :=
  .mk fun Pn F q σ H E => semC_of (pc_R op_notIn_seq pe_sem pe_sem) ((ha.run _ F q σ H E).mono fun v H1 ⟨s1, r1⟩ => (hc.run _ F q σ H1 (E.grow s1)).mono fun u H2 ⟨s2, l, vs, ev, e1, r2⟩ => by
    subst ev
    cases r1
    rw [RpAll.ints r2] at e1
    exact ⟨_, _, rfl, .inl (.of e1), rfl, all_flat (fun _ => rfl) ns, s1.trans s2, by rw [← inV_ints i ns]; rfl⟩)
theorem ps_extend {X : Cx} {n : Nat} {x : Str} {e : Expr} {p1 p2 p3 pos : Pos} (he : PE X (.Name x p1) (tVar n)) (hst : starEach (e :: []) X.env = (false, eval e X.env) :: starEach [] X.env := by rfl) (hpl : (backTo p3 (starEach [] X.env)).any (·.1) = false := by rfl)
    (hbase : attributeBase (.Name x p1) "extend" X.env (eval (.Name x p1) X.env) = eval (.Name x p1) X.env := by rfl) (hline : (p2.endLine == p3.line) = true := by rfl) (hfew : ((backTo p3 (starEach (e :: []) X.env)).all (fun x => !x.1) && (backToKw p3 (keywordEach [] X.env)).all (fun x => x.1.isSome)
      && decide ((e :: []).length + ([] : List Keyword).length + (if ([] : List Keyword).isEmpty then 0 else 1) < 30)) = true := by rfl)
    (hs : swapsWith (.Call (.Attribute (.Name x p1) "extend" p2) [e] [] p3) none pos.line X.env = pure false := by rfl) : PS X (.Expr (.Call (.Attribute (.Name x p1) "extend" p2) [e] [] p3) pos) (tDrop (tBM X.K "list" rExtend (tVar n) (tCons (semE X e) tNil))) :=
  ps_expr (pe_bm PySem.F.plainAttrs_list PySem.F.slot_list_extend PySem.F.type_list_extend mt_extend he (pa_cons pe_sem pa_nil hst) (hbase := hbase) (hfew := hfew) (hline := hline) (hs := hst) (hplain := hpl)) hs
theorem blk_extend {n : Nat} (he : PE C.X (.Name x p1) (tVar n)) (hn : ρ[n]? = some (.o b Ds)) (ha : Bx C ρ e b2 Es) (hl : Ds.length + Es.length ≤ sizeLine) (h : Blk C (ρ.set n (.o (b && b2) (Ds ++ Es))) rest T)
    (hp : PS C.X (.Expr (.Call (.Attribute (.Name x p1) "extend" p2) [e] [] p3) pos) (tDrop (tBM C.X.K "list" rExtend (tVar n) (tCons (semE C.X e) tNil)))) : Blk C ρ (.Expr (.Call (.Attribute (.Name x p1) "extend" p2) [e] [] p3) pos :: rest) T :=
  blk_cons hp fun Pn q σ H E => by
    obtain ⟨p, vs, hv, hp, r⟩ := E.at_o hn
    refine ⟨_, hv, .inl ⟨rfl, _, .of hp⟩, (ha.run _ _ q σ H E).mono fun v H' ⟨s, u, ws, ev, hu, rv⟩ => ?_⟩
    subst ev
    refine ⟨p, u, vs, ws, rfl, rfl, s _ _ hp, hu, by rw [RpAll.length r, RpAll.length rv]; exact hl, ?_⟩
    exact h.run Pn q σ _ ((E.grow s).write hn hv (RpAll.append ((Ct.Env.shift E s).ra r).and (RA.and' rv)))
end
end Rk
namespace Rk
open PySem PySem.Spec PyProof.Rows L2
theorem dotQ_append : ∀ {as : List Int} {xs : List Rat} {bs : List Int} {ys : List Rat}, as.length = xs.length → dotQ (as ++ bs) (xs ++ ys) = dotQ as xs + dotQ bs ys
  | [], [], bs, ys, _ => by simp [dotQ, Rat.zero_add]
  | a :: as, x :: xs, bs, ys, h => by
    show (a : Rat) * x + dotQ (as ++ bs) (xs ++ ys) = (a : Rat) * x + dotQ as xs + _
    rw [dotQ_append (by simpa using h), Rat.add_assoc]
  | [], _ :: _, _, _, h => by simp at h
  | _ :: _, [], _, _, h => by simp at h
theorem dotQ_nil (xs : List Rat) : dotQ [] xs = 0 := by cases xs <;> rfl
theorem dotQ_nil' (ns : List Int) : dotQ ns [] = 0 := by cases ns <;> rfl
theorem dotQ_cons (n : Int) (ns : List Int) (q : Rat) (qs : List Rat) : dotQ (n :: ns) (q :: qs) = (n : Rat) * q + dotQ ns qs := rfl
theorem dotQ_mulL (c : Int) : ∀ (ns : List Int) (qs : List Rat), dotQ (ns.map (· * c)) qs = (c : Rat) * dotQ ns qs
  | [], qs => by simp [dotQ_nil]
  | _ :: _, [] => by simp [dotQ_nil']
  | n :: ns, q :: qs => by
    show ((n * c : Int) : Rat) * q + dotQ (ns.map (· * c)) qs = _
    rw [dotQ_mulL c ns qs, dotQ_cons, Rat.intCast_mul]
    grind
theorem dotQ_mulR (c : Rat) : ∀ (ns : List Int) (qs : List Rat), dotQ ns (qs.map (· * c)) = c * dotQ ns qs
  | [], qs => by simp [dotQ_nil]
  | _ :: _, [] => by simp [dotQ_nil']
  | n :: ns, q :: qs => by
    show (n : Rat) * (q * c) + dotQ ns (qs.map (· * c)) = _
    rw [dotQ_mulR c ns qs, dotQ_cons]
    grind
theorem dotQ_zero : ∀ (n : Nat) (qs : List Rat), dotQ (List.replicate n 0) qs = 0
  | 0, qs => dotQ_nil qs
  | n + 1, [] => rfl
  | n + 1, q :: qs => by
    rw [List.replicate_succ, dotQ_cons, dotQ_zero n qs]
    grind
theorem dotQ_lin {α : Type} (a b : Int) (f g : α → Int) : ∀ (os : List α) (qs : List Rat), dotQ (os.map fun o => f o * a - g o * b) qs = (a : Rat) * dotQ (os.map f) qs - (b : Rat) * dotQ (os.map g) qs
  | [], qs => by rw [List.map_nil, List.map_nil, List.map_nil, dotQ_nil]; grind
  | _ :: _, [] => by rw [dotQ_nil', dotQ_nil', dotQ_nil']; grind
  | o :: os, q :: qs => by
    show ((f o * a - g o * b : Int) : Rat) * q + dotQ (os.map fun o => f o * a - g o * b) qs = _
    rw [dotQ_lin a b f g os qs, List.map_cons, List.map_cons, dotQ_cons, dotQ_cons, Rat.intCast_sub, Rat.intCast_mul, Rat.intCast_mul]
    grind
theorem dotQ_linR {α : Type} (a b : Int) (f g : α → Int) : ∀ (os : List α) (qs : List Rat), dotQ (os.map fun o => a * f o - g o * b) qs = (a : Rat) * dotQ (os.map f) qs - (b : Rat) * dotQ (os.map g) qs := fun os qs => by
  rw [← dotQ_lin a b f g os qs]
  congr 1
  exact List.map_congr_left fun o _ => by rw [Int.mul_comm]
def sumQ : List Rat → Rat
  | [] => 0
  | q :: qs => q + sumQ qs
theorem dotQ_const (c : Int) {α : Type} : ∀ (os : List α) (qs : List Rat), os.length = qs.length → dotQ (os.map fun _ => c) qs = (c : Rat) * sumQ qs
  | [], [], _ => by simp [dotQ, sumQ]
  | o :: os, q :: qs, h => by
    rw [List.map_cons, dotQ_cons, dotQ_const c os qs (by simpa using h)]
    show _ = (c : Rat) * (q + sumQ qs)
    grind
  | [], _ :: _, h => by simp at h
  | _ :: _, [], h => by simp at h
theorem sumQ_mul (c : Rat) : ∀ qs : List Rat, sumQ (qs.map (· * c)) = c * sumQ qs
  | [] => by simp [sumQ]
  | q :: qs => by
    show q * c + sumQ (qs.map (· * c)) = c * (q + sumQ qs)
    rw [sumQ_mul c qs]; grind
theorem dotQ_nonneg : ∀ {ns : List Int} {qs : List Rat}, (∀ n ∈ ns, 0 ≤ n) → (∀ q ∈ qs, 0 ≤ q) → 0 ≤ dotQ ns qs
  | [], qs, _, _ => by rw [dotQ_nil]; exact Rat.le_refl
  | _ :: _, [], _, _ => Rat.le_refl
  | n :: ns, q :: qs, h1, h2 => by
    rw [dotQ_cons]
    have a1 := dotQ_nonneg (ns := ns) (qs := qs) (fun n h => h1 n (List.mem_cons_of_mem _ h)) (fun q h => h2 q (List.mem_cons_of_mem _ h))
    have a2 : (0 : Rat) ≤ (n : Rat) := by exact_mod_cast h1 n List.mem_cons_self
    have a3 := Rat.mul_nonneg a2 (h2 q List.mem_cons_self)
    exact Rat.add_nonneg a3 a1
inductive Sz
  | any | one | less | more
def szS : Sz → Str
  | .any => "any"
  | .one => "one"
  | .less => "less"
  | .more => "more"
def upB : Sz → Bool
  | .one => true
  | .more => true
  | _ => false
def downB : Sz → Bool
  | .one => true
  | .less => true
  | _ => false
def parts (z : Sz) (x : Int) : List Int := (if upB z = true then [x] else []) ++ (if downB z = true then [0 - x] else [])
def nparts : Sz → Nat
  | .any => 0
  | .one => 2
  | _ => 1
theorem parts_len (z : Sz) (x : Int) : (parts z x).length = nparts z := by cases z <;> rfl
def sizeOk : Sz → Rat → Prop
  | .any, _ => True
  | .one, s => s = 1
  | .less, s => s ≤ 1
  | .more, s => 1 ≤ s
def signOk : Sz → Rat → Prop
  | .any, s => s = 0
  | .one, _ => True
  | .less, s => s ≤ 0
  | .more, s => 0 ≤ s
structure MixDoes (os : List House) (h : House) (z : Sz) (M : List Rat) (tb gb : Rat) : Prop where
  len : M.length = os.length
  nn : ∀ q ∈ M, 0 ≤ q
  sz : sizeOk z (sumQ M)
  tk : ∀ k, k < h.1.length → dotQ (os.map fun o => o.1.getD k 0) M ≤ ((h.1.getD k 0 : Int) : Rat) * tb
  gv : ∀ k, k < h.2.length → ((h.2.getD k 0 : Int) : Rat) * gb ≤ dotQ (os.map fun o => o.2.getD k 0) M
structure PricesOk (os : List House) (m n : Nat) (z : Sz) (p : Prices) : Prop where
  l1 : p.1.length = m
  l2 : p.2.1.length = n
  n1 : ∀ q ∈ p.1, 0 ≤ q
  n2 : ∀ q ∈ p.2.1, 0 ≤ q
  sg : signOk z p.2.2
  le : ∀ o ∈ os, earnQ o p ≤ paidQ o p
def sizeOf : Sz → List Rat → Rat
  | .any, _ => 0
  | .one, s => s.getD 0 0 - s.getD 1 0
  | .more, s => s.getD 0 0
  | .less, s => 0 - s.getD 0 0
theorem dotQ_parts (z : Sz) (c : Int) (s : List Rat) (h : s.length = nparts z) : dotQ (parts z c) s = (c : Rat) * sizeOf z s := by
  cases z with
  | any => 
    show dotQ [] s = _
    rw [dotQ_nil]; simp [sizeOf]
  | one =>
    obtain ⟨a, b, rfl⟩ : ∃ a b, s = [a, b] := by
      match s, h with
      | [a, b], _ => exact ⟨a, b, rfl⟩
    show (c : Rat) * a + ((((0 - c : Int) : Int) : Rat) * b + 0) = (c : Rat) * (a - b)
    rw [Rat.intCast_sub]; grind
  | less =>
    obtain ⟨a, rfl⟩ : ∃ a, s = [a] := by
      match s, h with
      | [a], _ => exact ⟨a, rfl⟩
    show ((((0 - c : Int) : Int) : Rat) * a + 0) = (c : Rat) * (0 - a)
    rw [Rat.intCast_sub]; grind
  | more =>
    obtain ⟨a, rfl⟩ : ∃ a, s = [a] := by
      match s, h with
      | [a], _ => exact ⟨a, rfl⟩
    show (c : Rat) * a + 0 = (c : Rat) * a
    grind
theorem sign_sizeOf (z : Sz) (s : List Rat) (h : s.length = nparts z) (h0 : ∀ q ∈ s, 0 ≤ q) : signOk z (sizeOf z s) := by
  cases z with
  | any => rfl
  | one => trivial
  | less =>
    obtain ⟨a, rfl⟩ : ∃ a, s = [a] := by
      match s, h with
      | [a], _ => exact ⟨a, rfl⟩
    have := h0 a (by simp)
    show 0 - a ≤ 0
    grind
  | more =>
    obtain ⟨a, rfl⟩ : ∃ a, s = [a] := by
      match s, h with
      | [a], _ => exact ⟨a, rfl⟩
    exact h0 a (by simp)
def wsum (g : House → Rat) : List House → List Rat → Rat
  | o :: os, q :: qs => q * g o + wsum g os qs
  | _, _ => 0
def ksum : List Rat → (Nat → Rat) → Rat
  | [], _ => 0
  | p :: ps, c => p * c 0 + ksum ps fun k => c (k + 1)
theorem ksum_zero : ∀ ps : List Rat, ksum ps (fun _ => 0) = 0
  | [] => rfl
  | p :: ps => by
    show p * 0 + ksum ps (fun _ => 0) = 0
    rw [ksum_zero ps]; grind
theorem ksum_add : ∀ (ps : List Rat) (c c' : Nat → Rat), ksum ps (fun k => c k + c' k) = ksum ps c + ksum ps c'
  | [], _, _ => by show (0 : Rat) = 0 + 0; grind
  | p :: ps, c, c' => by
    show p * (c 0 + c' 0) + ksum ps (fun k => c (k + 1) + c' (k + 1)) = (p * c 0 + ksum ps fun k => c (k + 1)) + (p * c' 0 + ksum ps fun k => c' (k + 1))
    rw [ksum_add ps]; grind
theorem ksum_congr : ∀ {ps : List Rat} {c c' : Nat → Rat}, (∀ k, k < ps.length → c k = c' k) → ksum ps c = ksum ps c'
  | [], _, _, _ => rfl
  | p :: ps, c, c', h => by
    show p * c 0 + ksum ps _ = p * c' 0 + ksum ps _
    rw [h 0 (by simp), ksum_congr (ps := ps) fun k hk => h (k + 1) (by simpa using hk)]
theorem ksum_dot (t : Rat) : ∀ (ns : List Int) (ps : List Rat), ns.length = ps.length → ksum ps (fun k => ((ns.getD k 0 : Int) : Rat) * t) = t * dotQ ns ps
  | [], [], _ => by simp [ksum, dotQ]
  | n :: ns, p :: ps, h => by
    show p * ((n : Rat) * t) + ksum ps (fun k => ((ns.getD k 0 : Int) : Rat) * t) = t * ((n : Rat) * p + dotQ ns ps)
    rw [ksum_dot t ns ps (by simpa using h)]; grind
  | [], _ :: _, h => by simp at h
  | _ :: _, [], h => by simp at h
theorem ksum_le : ∀ {ps : List Rat} {c c' : Nat → Rat}, (∀ q ∈ ps, 0 ≤ q) → (∀ k, k < ps.length → c k ≤ c' k) → ksum ps c ≤ ksum ps c'
  | [], _, _, _, _ => Rat.le_refl
  | p :: ps, c, c', h0, h => by
    show p * c 0 + ksum ps _ ≤ p * c' 0 + ksum ps _
    have h1 := Rat.mul_le_mul_of_nonneg_left (h 0 (by simp)) (h0 p List.mem_cons_self)
    have h2 := ksum_le (ps := ps) (c := fun k => c (k + 1)) (c' := fun k => c' (k + 1)) (fun q hq => h0 q (List.mem_cons_of_mem _ hq)) fun k hk => h (k + 1) (by simpa using hk)
    grind
theorem wsum_swap (f : House → List Int) (ps : List Rat) : ∀ (os : List House) (M : List Rat), (∀ o ∈ os, (f o).length = ps.length) → wsum (fun o => dotQ (f o) ps) os M = ksum ps fun k => dotQ (os.map fun o => (f o).getD k 0) M
  | [], M, _ => by
    have : (fun k => dotQ (([] : List House).map fun o => (f o).getD k 0) M) = fun _ : Nat => (0 : Rat) := by funext k; exact dotQ_nil _
    rw [this, ksum_zero]
    cases M <;> rfl
  | o :: os, [], _ => by
    have : (fun k => dotQ (List.map (fun o => (f o).getD k 0) (o :: os)) ([] : List Rat)) = fun _ : Nat => (0 : Rat) := by funext k; exact dotQ_nil' _
    rw [this, ksum_zero]
    rfl
  | o :: os, q :: qs, h => by
    show q * dotQ (f o) ps + wsum _ os qs = ksum ps fun k => (((f o).getD k 0 : Int) : Rat) * q + dotQ (os.map fun o => (f o).getD k 0) qs
    rw [wsum_swap f ps os qs fun x hx => h x (List.mem_cons_of_mem _ hx), ksum_add, ksum_dot q (f o) ps (h o List.mem_cons_self)]
theorem wsum_le {g g' : House → Rat} : ∀ {os : List House} {M : List Rat}, (∀ q ∈ M, 0 ≤ q) → (∀ o ∈ os, g o ≤ g' o) → wsum g os M ≤ wsum g' os M
  | [], M, _, _ => by cases M <;> exact Rat.le_refl
  | _ :: _, [], _, _ => Rat.le_refl
  | o :: os, q :: qs, h0, h => by
    show q * g o + wsum g os qs ≤ q * g' o + wsum g' os qs
    have h1 := Rat.mul_le_mul_of_nonneg_left (h o List.mem_cons_self) (h0 q List.mem_cons_self)
    have h2 := wsum_le (os := os) (M := qs) (fun q hq => h0 q (List.mem_cons_of_mem _ hq)) fun o ho => h o (List.mem_cons_of_mem _ ho)
    grind
theorem wsum_add (g : House → Rat) (c : Rat) : ∀ {os : List House} {M : List Rat}, M.length = os.length → wsum (fun o => g o + c) os M = wsum g os M + c * sumQ M
  | [], [], _ => by show (0 : Rat) = 0 + c * 0; grind
  | o :: os, q :: qs, h => by
    show q * (g o + c) + wsum (fun o => g o + c) os qs = (q * g o + wsum g os qs) + c * (q + sumQ qs)
    rw [wsum_add g c (by simpa using h)]; grind
  | [], _ :: _, h => by simp at h
  | _ :: _, [], h => by simp at h
theorem size_le {z : Sz} {s σ : Rat} (h1 : sizeOk z s) (h2 : signOk z σ) : σ ≤ σ * s := by
  cases z with
  | any =>
    have e : σ = 0 := h2
    rw [e]; grind
  | one =>
    have e : s = 1 := h1
    rw [e]; grind
  | less =>
    have a : s ≤ 1 := h1
    have b : σ ≤ 0 := h2
    have := Rat.mul_nonneg (show (0 : Rat) ≤ 1 - s by grind) (show (0 : Rat) ≤ -σ by grind)
    grind
  | more =>
    have a : 1 ≤ s := h1
    have b : 0 ≤ σ := h2
    have := Rat.mul_nonneg (show (0 : Rat) ≤ s - 1 by grind) b
    grind
theorem weak {os : List House} {h : House} {z : Sz} {M : List Rat} {tb gb : Rat} {p : Prices} (D : MixDoes os h z M tb gb) (Q : PricesOk os h.1.length h.2.length z p) (hh : ∀ o ∈ os, o.1.length = h.1.length ∧ o.2.length = h.2.length) :
    gb * dotQ h.2 p.2.1 + p.2.2 ≤ tb * paidQ h p := by
  have a1 : wsum (fun o => earnQ o p) os M ≤ wsum (fun o => paidQ o p) os M := wsum_le D.nn Q.le
  have a2 : wsum (fun o => earnQ o p) os M = wsum (fun o => dotQ o.2 p.2.1) os M + p.2.2 * sumQ M := wsum_add _ _ D.len
  have a3 : wsum (fun o => dotQ o.2 p.2.1) os M = ksum p.2.1 fun k => dotQ (os.map fun o => o.2.getD k 0) M := wsum_swap (fun o => o.2) p.2.1 os M fun o ho => (hh o ho).2.trans Q.l2.symm
  have a4 : wsum (fun o => paidQ o p) os M = ksum p.1 fun k => dotQ (os.map fun o => o.1.getD k 0) M := wsum_swap (fun o => o.1) p.1 os M fun o ho => (hh o ho).1.trans Q.l1.symm
  have a5 : gb * dotQ h.2 p.2.1 ≤ ksum p.2.1 fun k => dotQ (os.map fun o => o.2.getD k 0) M := by
    rw [← ksum_dot gb h.2 p.2.1 Q.l2.symm]
    exact ksum_le Q.n2 fun k hk => D.gv k (by rw [← Q.l2]; exact hk)
  have a6 : (ksum p.1 fun k => dotQ (os.map fun o => o.1.getD k 0) M) ≤ tb * paidQ h p := by
    unfold paidQ
    rw [← ksum_dot tb h.1 p.1 Q.l1.symm]
    exact ksum_le Q.n1 fun k hk => D.tk k (by rw [← Q.l1]; exact hk)
  have a7 := size_le D.sz Q.sg
  grind
end Rk
namespace Rk
open PySem PySem.Spec PyProof.Rows L2
def hd (h : House) : Int := h.1.getD 0 0
def shrRow (h : House) (z : Sz) (o : House) : List Int := o.2.map (· * hd h) ++ (List.range (h.1.length - 1)).map (fun k => o.1.getD 0 0 * h.1.getD (k + 1) 0 - o.1.getD (k + 1) 0 * hd h) ++ parts z (hd h)
def shrLast (h : House) (z : Sz) : List Int := List.replicate h.2.length 0 ++ h.1.tail ++ parts z 0
def lpShr (h : House) (z : Sz) (os : List House) : Sx.Lp := ⟨os.map (shrRow h z) ++ [shrLast h z], os.map (fun o => o.1.getD 0 0) ++ [1], h.2 ++ List.replicate (h.1.length - 1) 0 ++ parts z 1⟩
structure Like (h : House) (os : List House) : Prop where
  m1 : 1 ≤ h.1.length
  n1 : 1 ≤ h.2.length
  len : ∀ o ∈ os, o.1.length = h.1.length ∧ o.2.length = h.2.length
  tk : ∀ x ∈ h.1, 1 ≤ x
  gv : ∀ x ∈ h.2, 0 ≤ x
  otk : ∀ o ∈ os, ∀ x ∈ o.1, 1 ≤ x
  ogv : ∀ o ∈ os, ∀ x ∈ o.2, 0 ≤ x
theorem tail_getD (xs : List Int) (k : Nat) : xs.tail.getD k 0 = xs.getD (k + 1) 0 := by cases xs <;> rfl
theorem hd_pos {h : House} {os : List House} (L : Like h os) : 1 ≤ hd h := L.tk _ (mem_getD (by have := L.m1; omega) 0)
section
variable {h : House} {z : Sz} {os : List House}
theorem shrRow_len (L : Like h os) {o : House} (ho : o ∈ os) : (shrRow h z o).length = (lpShr h z os).gains.length := by
  have := (L.len o ho).2
  simp only [shrRow, lpShr, List.length_append, List.length_map, List.length_range, List.length_replicate, parts_len, this]
theorem shrLast_len (L : Like h os) : (shrLast h z).length = (lpShr h z os).gains.length := by
  simp only [shrLast, lpShr, List.length_append, List.length_replicate, List.length_tail, parts_len]
theorem shr_rows : (lpShr h z os).rows.length = os.length + 1 := by simp [lpShr]
theorem shr_row {k : Nat} (hk : k < os.length) : (lpShr h z os).rows.getD k [] = shrRow h z os[k] := by
  show (os.map (shrRow h z) ++ [shrLast h z]).getD k [] = _
  rw [List.getD, List.getElem?_append_left (by simpa using hk), List.getElem?_map, List.getElem?_eq_getElem hk]; rfl
theorem shr_last : (lpShr h z os).rows.getD os.length [] = shrLast h z := by
  show (os.map (shrRow h z) ++ [shrLast h z]).getD os.length [] = _
  rw [List.getD, List.getElem?_append_right (by simp)]; simp
theorem shr_lim {k : Nat} (hk : k < os.length) : (lpShr h z os).limits.getD k 0 = os[k].1.getD 0 0 := by
  show (os.map (fun o : House => o.1.getD 0 0) ++ [1]).getD k 0 = _
  rw [List.getD, List.getElem?_append_left (by simpa using hk), List.getElem?_map, List.getElem?_eq_getElem hk]; rfl
theorem shr_limL : (lpShr h z os).limits.getD os.length 0 = 1 := by
  show (os.map (fun o : House => o.1.getD 0 0) ++ [1]).getD os.length 0 = _
  rw [List.getD, List.getElem?_append_right (by simp)]; simp
theorem lim_pos (L : Like h os) : ∀ k, k < (lpShr h z os).rows.length → 0 < (lpShr h z os).limits.getD k 0 := fun k hk => by
  rw [shr_rows] at hk
  by_cases z' : k = os.length
  · rw [z', shr_limL]; decide
  · have hk' : k < os.length := by omega
    rw [shr_lim hk']
    have hm := List.getElem_mem hk'
    have := L.otk _ hm (os[k].1.getD 0 0) (mem_getD (by have := (L.len _ hm).1; have := L.m1; omega) 0)
    omega
theorem shr_ok (L : Like h os) : (lpShr h z os).Ok where
  lm := by simp [lpShr]
  rw := fun r hr => by
    rcases List.mem_append.mp (show r ∈ os.map (shrRow h z) ++ [shrLast h z] from hr) with hr | hr
    · obtain ⟨o, ho, rfl⟩ := List.mem_map.mp hr
      exact shrRow_len L ho
    · rw [List.mem_singleton.mp hr]; exact shrLast_len L
  neg := fun k hk hn => by have := lim_pos (z := z) L k hk; omega
  allneg := fun ⟨k, hk, hn⟩ => by have := lim_pos (z := z) L k hk; omega
theorem dotQ_row (L : Like h os) {o : House} (ho : o ∈ os) {u v s : List Rat} (hu : u.length = h.2.length) (hv : v.length = h.1.length - 1) (hs : s.length = nparts z) :
    dotQ (shrRow h z o) (u ++ v ++ s) = (hd h : Rat) * dotQ o.2 u + (((o.1.getD 0 0 : Int) : Rat) * dotQ h.1.tail v - (hd h : Rat) * dotQ o.1.tail v) + (hd h : Rat) * sizeOf z s := by
  unfold shrRow
  rw [dotQ_append (by simp only [List.length_append, List.length_map, List.length_range]; rw [hu, hv, (L.len o ho).2]), dotQ_append (by rw [List.length_map, hu, (L.len o ho).2]), dotQ_mulL, dotQ_parts z _ _ hs]
  congr 2
  have hl : o.1.length = h.1.length := (L.len o ho).1
  have e1 : (List.range (h.1.length - 1)).map (fun k => o.1.getD 0 0 * h.1.getD (k + 1) 0 - o.1.getD (k + 1) 0 * hd h) = (List.range (h.1.length - 1)).map (fun k => o.1.getD 0 0 * h.1.tail.getD k 0 - o.1.tail.getD k 0 * hd h) := List.map_congr_left fun k _ => by rw [tail_getD, tail_getD]
  rw [e1, dotQ_linR]
  have e2 : ∀ xs : List Int, xs.length = h.1.length → (List.range (h.1.length - 1)).map (fun k => xs.tail.getD k 0) = xs.tail := fun xs hx => by
    refine List.ext_getElem? fun k => ?_
    rw [List.getElem?_map]
    by_cases hk : k < h.1.length - 1
    · rw [List.getElem?_range hk, List.getElem?_eq_getElem (by rw [List.length_tail]; omega)]
      show some (xs.tail.getD k 0) = _
      rw [List.getD, List.getElem?_eq_getElem (by rw [List.length_tail]; omega)]; rfl
    · rw [List.getElem?_eq_none (by rw [List.length_range]; omega), List.getElem?_eq_none (by rw [List.length_tail]; omega)]; rfl
  rw [e2 h.1 rfl, e2 o.1 hl]
theorem dotQ_lastR {u v s : List Rat} (hu : u.length = h.2.length) (hv : v.length = h.1.length - 1) (hs : s.length = nparts z) : dotQ (shrLast h z) (u ++ v ++ s) = dotQ h.1.tail v := by
  unfold shrLast
  rw [dotQ_append (by simp only [List.length_append, List.length_replicate, List.length_tail]; rw [hu, hv]), dotQ_append (by rw [List.length_replicate, hu]), dotQ_zero, dotQ_parts z _ _ hs]
  simp
  grind
theorem dotQ_gain {u v s : List Rat} (hu : u.length = h.2.length) (hv : v.length = h.1.length - 1) (hs : s.length = nparts z) : dotQ (lpShr h z os).gains (u ++ v ++ s) = dotQ h.2 u + sizeOf z s := by
  show dotQ (h.2 ++ List.replicate (h.1.length - 1) 0 ++ parts z 1) _ = _
  rw [dotQ_append (by simp only [List.length_append, List.length_replicate]; rw [hu, hv]), dotQ_append hu.symm, dotQ_zero, dotQ_parts z _ _ hs]
  simp
  grind
def prc0 (h : House) (v : List Rat) : Rat := (1 - dotQ h.1.tail v) * (((1 : Int) : Rat) / ((hd h : Int) : Rat))
def shrPr (h : House) (z : Sz) (u v s : List Rat) : Prices := (prc0 h v :: v, u, sizeOf z s)
theorem paid_cons (o : House) (h1 : 1 ≤ o.1.length) (q : Rat) (v : List Rat) : dotQ o.1 (q :: v) = ((o.1.getD 0 0 : Int) : Rat) * q + dotQ o.1.tail v := by
  obtain ⟨t, g⟩ := o
  cases t with
  | nil => simp at h1
  | cons a t => rfl
theorem hd0 (L : Like h os) : (0 : Rat) < ((hd h : Int) : Rat) := by have := hd_pos L; exact_mod_cast (show 0 < hd h by omega)
theorem prc0_hd (L : Like h os) (v : List Rat) : ((hd h : Int) : Rat) * prc0 h v = 1 - dotQ h.1.tail v := by
  have := hd0 L
  unfold prc0
  have e : ((1 : Int) : Rat) = 1 := rfl
  rw [e]; grind
theorem shr_prices (L : Like h os) {u v s : List Rat} (hu : u.length = h.2.length) (hv : v.length = h.1.length - 1) (hs : s.length = nparts z) (u0 : ∀ q ∈ u, 0 ≤ q) (v0 : ∀ q ∈ v, 0 ≤ q) (s0 : ∀ q ∈ s, 0 ≤ q)
    (hr : ∀ o ∈ os, dotQ (shrRow h z o) (u ++ v ++ s) ≤ ((o.1.getD 0 0 : Int) : Rat)) (hl : dotQ (shrLast h z) (u ++ v ++ s) ≤ 1) :
    PricesOk os h.1.length h.2.length z (shrPr h z u v s) ∧ paidQ h (shrPr h z u v s) = 1 ∧ earnQ h (shrPr h z u v s) = dotQ h.2 u + sizeOf z s := by
  have h0 := hd0 L
  have e0 := prc0_hd L v
  have m1 := L.m1
  rw [dotQ_lastR hu hv hs] at hl
  have p0 : 0 ≤ prc0 h v := by
    unfold prc0
    have e : ((1 : Int) : Rat) / ((hd h : Int) : Rat) = (((hd h : Int) : Rat))⁻¹ := by rw [Rat.div_def]; exact Rat.one_mul _
    rw [e]
    exact Rat.mul_nonneg (by grind) (Rat.le_of_lt (Rat.inv_pos.mpr h0))
  refine ⟨⟨by simp only [shrPr, List.length_cons, hv]; omega, hu, fun q hq => ?_, u0, sign_sizeOf z s hs s0, fun o ho => ?_⟩, ?_, rfl⟩
  · rcases List.mem_cons.mp hq with rfl | hq
    · exact p0
    · exact v0 q hq
  · have h1 := hr o ho
    rw [dotQ_row L ho hu hv hs] at h1
    have h2 : paidQ o (shrPr h z u v s) = ((o.1.getD 0 0 : Int) : Rat) * prc0 h v + dotQ o.1.tail v := paid_cons o (by rw [(L.len o ho).1]; exact m1) _ _
    have h3 : earnQ o (shrPr h z u v s) = dotQ o.2 u + sizeOf z s := rfl
    rw [h2, h3]
    -- times the head
    refine Rat.not_lt.mp fun c => ?_
    have h4 := Rat.mul_lt_mul_of_pos_left c h0
    have h5 : ((hd h : Int) : Rat) * (((o.1.getD 0 0 : Int) : Rat) * prc0 h v + dotQ o.1.tail v) = ((o.1.getD 0 0 : Int) : Rat) * (1 - dotQ h.1.tail v) + ((hd h : Int) : Rat) * dotQ o.1.tail v := by rw [← e0]; grind
    rw [h5] at h4
    grind
  · have h2 : paidQ h (shrPr h z u v s) = ((hd h : Int) : Rat) * prc0 h v + dotQ h.1.tail v := paid_cons h m1 _ _
    rw [h2, e0]; grind
theorem col_eq (j : Nat) : (lpShr h z os).rows.map (fun r => r.getD j 0) = os.map (fun o => (shrRow h z o).getD j 0) ++ [(shrLast h z).getD j 0] := by
  show (os.map (shrRow h z) ++ [shrLast h z]).map _ = _
  rw [List.map_append, List.map_map]; rfl
theorem row_give (L : Like h os) {o : House} (ho : o ∈ os) {j : Nat} (hj : j < h.2.length) : (shrRow h z o).getD j 0 = o.2.getD j 0 * hd h := by
  have hl := (L.len o ho).2
  unfold shrRow
  rw [List.append_assoc, List.getD, List.getElem?_append_left (by rw [List.length_map, hl]; exact hj), List.getElem?_map, List.getElem?_eq_getElem (by omega), List.getD, List.getElem?_eq_getElem (by omega)]; rfl
theorem row_rest (L : Like h os) {o : House} (ho : o ∈ os) {k : Nat} (hk : k < h.1.length - 1) : (shrRow h z o).getD (h.2.length + k) 0 = o.1.getD 0 0 * h.1.getD (k + 1) 0 - o.1.getD (k + 1) 0 * hd h := by
  have hl := (L.len o ho).2
  unfold shrRow
  rw [List.append_assoc, List.getD, List.getElem?_append_right (by rw [List.length_map, hl]; omega), List.length_map, hl, Nat.add_sub_cancel_left, List.getElem?_append_left (by simpa using hk), List.getElem?_map, List.getElem?_range hk]; rfl
theorem row_size (L : Like h os) {o : House} (ho : o ∈ os) {i : Nat} : (shrRow h z o).getD (h.2.length + (h.1.length - 1) + i) 0 = (parts z (hd h)).getD i 0 := by
  have hl := (L.len o ho).2
  unfold shrRow
  rw [List.getD, List.getElem?_append_right (by simp only [List.length_append, List.length_map, List.length_range, hl]; omega)]
  simp only [List.length_append, List.length_map, List.length_range, hl, Nat.add_sub_cancel_left]; rfl
theorem last_give {j : Nat} (hj : j < h.2.length) : (shrLast h z).getD j 0 = 0 := by
  unfold shrLast
  rw [List.append_assoc, List.getD, List.getElem?_append_left (by simpa using hj), List.getElem?_replicate, if_pos hj]; rfl
theorem last_rest {k : Nat} (hk : k < h.1.length - 1) : (shrLast h z).getD (h.2.length + k) 0 = h.1.getD (k + 1) 0 := by
  unfold shrLast
  rw [List.append_assoc, List.getD, List.getElem?_append_right (by simp), List.length_replicate, Nat.add_sub_cancel_left, List.getElem?_append_left (by rw [List.length_tail]; exact hk)]
  exact tail_getD h.1 k
theorem last_size {i : Nat} : (shrLast h z).getD (h.2.length + (h.1.length - 1) + i) 0 = (parts z 0).getD i 0 := by
  unfold shrLast
  rw [List.getD, List.getElem?_append_right (by simp only [List.length_append, List.length_replicate, List.length_tail]; omega)]
  simp only [List.length_append, List.length_replicate, List.length_tail, Nat.add_sub_cancel_left]; rfl
theorem gain_at {j : Nat} : (lpShr h z os).gains.getD j 0 = if j < h.2.length then h.2.getD j 0 else if j < h.2.length + (h.1.length - 1) then 0 else (parts z 1).getD (j - (h.2.length + (h.1.length - 1))) 0 := by
  show (h.2 ++ List.replicate (h.1.length - 1) 0 ++ parts z 1).getD j 0 = _
  by_cases h1 : j < h.2.length
  · rw [if_pos h1, List.append_assoc, List.getD, List.getElem?_append_left h1]; rfl
  · rw [if_neg h1]
    by_cases h2 : j < h.2.length + (h.1.length - 1)
    · rw [if_pos h2, List.append_assoc, List.getD, List.getElem?_append_right (by omega), List.getElem?_append_left (by rw [List.length_replicate]; omega), List.getElem?_replicate, if_pos (by omega)]; rfl
    · rw [if_neg h2, List.getD, List.getElem?_append_right (by simp only [List.length_append, List.length_replicate]; omega)]
      simp only [List.length_append, List.length_replicate]; rfl
theorem shr_mix (L : Like h os) {s : Rat} {x ys : List Rat} {zl : Rat} (O : LpOpt (lpShr h z os) s x (ys ++ [zl])) : MixDoes os h z (ys.map (· * ((hd h : Int) : Rat))) s 1 := by
  have h0 := hd0 L
  have ly : ys.length = os.length := by have := O.ly; rw [shr_rows] at this; simpa using this
  have y0 : ∀ q ∈ ys, 0 ≤ q := fun q hq => O.y0 q (List.mem_append_left _ hq)
  have z0 : 0 ≤ zl := O.y0 zl (by simp)
  have m1 := L.m1
  have glen : (lpShr h z os).gains.length = h.2.length + (h.1.length - 1) + nparts z := by simp [lpShr, parts_len]; omega
  have hgy := O.gy
  have el : dotQ (lpShr h z os).limits (ys ++ [zl]) = dotQ (os.map fun o => o.1.getD 0 0) ys + zl := by
    show dotQ (os.map (fun o : House => o.1.getD 0 0) ++ [1]) _ = _
    rw [dotQ_append (by rw [List.length_map, ly])]
    show _ + (((1 : Int) : Rat) * zl + 0) = _
    have e : ((1 : Int) : Rat) = 1 := rfl
    rw [e]; grind
  rw [el] at hgy
  have col : ∀ j, j < (lpShr h z os).gains.length → (((lpShr h z os).gains.getD j 0 : Int) : Rat) ≤ dotQ (os.map fun o => (shrRow h z o).getD j 0) ys + (((shrLast h z).getD j 0 : Int) : Rat) * zl := fun j hj => by
    have := O.dua j hj
    rw [col_eq, dotQ_append (by rw [List.length_map, ly])] at this
    have e : dotQ [(shrLast h z).getD j 0] [zl] = (((shrLast h z).getD j 0 : Int) : Rat) * zl + 0 := rfl
    rw [e] at this
    grind
  have cong : ∀ {f g : House → Int}, (∀ o ∈ os, f o = g o) → os.map f = os.map g := fun hf => List.map_congr_left hf
  refine ⟨by rw [List.length_map, ly], fun q hq => ?_, ?_, fun k hk => ?_, fun k hk => ?_⟩
  · obtain ⟨y, hy, rfl⟩ := List.mem_map.mp hq
    exact Rat.mul_nonneg (y0 y hy) (Rat.le_of_lt h0)
  · rw [sumQ_mul]
    have up : upB z = true → 1 ≤ ((hd h : Int) : Rat) * sumQ ys := fun hz => by
      have h1 := col (h.2.length + (h.1.length - 1) + 0) (by rw [glen]; cases z <;> simp [upB] at hz <;> simp [nparts])
      rw [gain_at, if_neg (by omega), if_neg (by omega), last_size, cong (g := fun _ => (parts z (hd h)).getD 0 0) fun o ho => row_size L ho, dotQ_const _ _ _ ly.symm] at h1
      have e1 : (parts z 1).getD (h.2.length + (h.1.length - 1) + 0 - (h.2.length + (h.1.length - 1))) 0 = 1 := by
        rw [Nat.add_zero, Nat.sub_self]; cases z <;> simp [upB] at hz <;> rfl
      have e2 : (parts z (hd h)).getD 0 0 = hd h := by cases z <;> simp [upB] at hz <;> rfl
      have e3 : (parts z 0).getD 0 0 = 0 := by cases z <;> simp [upB] at hz <;> rfl
      rw [e1, e2, e3] at h1
      have e4 : ((1 : Int) : Rat) = 1 := rfl
      have e5 : ((0 : Int) : Rat) = 0 := rfl
      rw [e4, e5] at h1
      grind
    have down : downB z = true → ((hd h : Int) : Rat) * sumQ ys ≤ 1 := fun hz => by
      let i := nparts z - 1
      have h1 := col (h.2.length + (h.1.length - 1) + i) (by rw [glen]; cases z <;> simp [downB] at hz <;> simp [nparts, i])
      rw [gain_at, if_neg (by omega), if_neg (by omega), last_size, cong (g := fun _ => (parts z (hd h)).getD i 0) fun o ho => row_size L ho, dotQ_const _ _ _ ly.symm] at h1
      have e1 : (parts z 1).getD (h.2.length + (h.1.length - 1) + i - (h.2.length + (h.1.length - 1))) 0 = -1 := by
        rw [Nat.add_sub_cancel_left]; cases z <;> simp [downB] at hz <;> rfl
      have e2 : (parts z (hd h)).getD i 0 = 0 - hd h := by cases z <;> simp [downB] at hz <;> rfl
      have e3 : (parts z 0).getD i 0 = 0 := by cases z <;> simp [downB] at hz <;> rfl
      rw [e1, e2, e3] at h1
      have e4 : ((-1 : Int) : Rat) = -1 := rfl
      have e5 : ((0 : Int) : Rat) = 0 := rfl
      rw [e4, e5, Rat.intCast_sub, e5] at h1
      grind
    cases z with
    | any => trivial
    | one => exact Rat.le_antisymm (down rfl) (up rfl)
    | less => exact down rfl
    | more => exact up rfl
  · rw [dotQ_mulR]
    cases k with
    | zero =>
      show ((hd h : Int) : Rat) * _ ≤ ((hd h : Int) : Rat) * s
      exact Rat.mul_le_mul_of_nonneg_left (by grind) (Rat.le_of_lt h0)
    | succ k =>
      have hk' : k < h.1.length - 1 := by omega
      have h1 := col (h.2.length + k) (by rw [glen]; omega)
      rw [gain_at, if_neg (by omega), if_pos (by omega), last_rest hk', cong (g := fun o => o.1.getD 0 0 * h.1.getD (k + 1) 0 - o.1.getD (k + 1) 0 * hd h) fun o ho => row_rest L ho hk', dotQ_lin] at h1
      have e5 : ((0 : Int) : Rat) = 0 := rfl
      rw [e5] at h1
      have e6 : ((h.1.getD (k + 1) 0 : Int) : Rat) * s = ((h.1.getD (k + 1) 0 : Int) : Rat) * dotQ (os.map fun o => o.1.getD 0 0) ys + ((h.1.getD (k + 1) 0 : Int) : Rat) * zl := by rw [← hgy]; grind
      rw [e6]
      grind
  · rw [dotQ_mulR]
    have h1 := col k (by rw [glen]; omega)
    rw [gain_at, if_pos hk, last_give hk, cong (g := fun o => o.2.getD k 0 * hd h) fun o ho => row_give L ho hk] at h1
    have e1 : (os.map fun o : House => o.2.getD k 0 * hd h) = (os.map fun o : House => o.2.getD k 0).map (· * hd h) := by rw [List.map_map]; rfl
    have e5 : ((0 : Int) : Rat) = 0 := rfl
    rw [e1, dotQ_mulL, e5] at h1
    grind
end
end Rk
namespace Rk
open PySem PySem.Spec PyProof.Rows L2
theorem getD_bound {B : Nat} {xs : List Int} (h : ∀ x ∈ xs, x.natAbs ≤ B) (k : Nat) : (xs.getD k 0).natAbs ≤ B := by
  by_cases hk : k < xs.length
  · exact h _ (mem_getD hk 0)
  · rw [List.getD, List.getElem?_eq_none (by omega)]; exact Nat.zero_le _
theorem init_bound {L : Sx.Lp} (O : L.Ok) {B : Nat} (b1 : 1 ≤ B) (hr : ∀ r ∈ L.rows, ∀ x ∈ r, x.natAbs ≤ B) (hl : ∀ x ∈ L.limits, x.natAbs ≤ B) (hg : ∀ x ∈ L.gains, x.natAbs ≤ B) :
    ∀ k, k ≤ L.rows.length → ∀ j, j ≤ L.gains.length + L.rows.length → ((Sx.initM L).T k j).natAbs ≤ B := fun k hk j hj => by
  by_cases zk : k = L.rows.length
  · subst zk
    by_cases hj1 : j < L.gains.length
    · rw [Sx.init_c O hj1, Int.natAbs_neg]; exact getD_bound hg j
    · rw [Sx.init_0 O (by omega)]; exact Nat.zero_le _
  · have hk' : k < L.rows.length := by omega
    by_cases hj1 : j < L.gains.length
    · rw [Sx.init_A O hk' hj1]
      refine getD_bound (hr _ ?_) j
      rw [List.getD, List.getElem?_eq_getElem hk']; exact List.getElem_mem _
    · by_cases hj2 : j < L.gains.length + L.rows.length
      · have := Sx.init_S O hk' (i := j - L.gains.length) (by omega)
        rw [show L.gains.length + (j - L.gains.length) = j by omega] at this
        rw [this]
        split
        · exact b1
        · exact Nat.zero_le _
      · have : j = L.gains.length + L.rows.length := by omega
        rw [this, Sx.init_b O hk']; exact getD_bound hl k
theorem fac_mono {n m : Nat} (h : n ≤ m) : Sx.fac n ≤ Sx.fac m := by
  induction m with
  | zero => rw [show n = 0 by omega]; exact Nat.le_refl _
  | succ m ih =>
    by_cases z : n = m + 1
    · rw [z]; exact Nat.le_refl _
    · refine Nat.le_trans (ih (by omega)) ?_
      show Sx.fac m ≤ (m + 1) * Sx.fac m
      exact Nat.le_mul_of_pos_left _ (by omega)
theorem big_lt : Sx.fac 18 * (10 ^ 18) ^ 18 < 2 ^ 1130 := by decide +kernel
theorem lps_mk {L : Sx.Lp} (O : L.Ok) (hm : L.rows.length ≤ 17) (hw : L.gains.length ≤ 40) (hr : ∀ r ∈ L.rows, ∀ x ∈ r, x.natAbs ≤ 10 ^ 18) (hl : ∀ x ∈ L.limits, x.natAbs ≤ 10 ^ 18) (hg : ∀ x ∈ L.gains, x.natAbs ≤ 10 ^ 18) : LpS L (10 ^ 18) 1130 where
  b1 := by decide
  hB := init_bound O (by decide) hr hl hg
  ha := by
    refine Nat.lt_of_le_of_lt ?_ big_lt
    exact Nat.mul_le_mul (fac_mono (by omega)) (Nat.pow_le_pow_right (by decide) (by omega))
  a4 := by decide
  m4 := by omega
  w4 := hw
structure Amt (h : House) : Prop where
  m4 : h.1.length ≤ 4
  n4 : h.2.length ≤ 4
  tk : ∀ x ∈ h.1, x.natAbs ≤ 10 ^ 9
  gv : ∀ x ∈ h.2, x.natAbs ≤ 10 ^ 9
theorem mul_abs {x y : Int} (hx : x.natAbs ≤ 10 ^ 9) (hy : y.natAbs ≤ 10 ^ 9) : (x * y).natAbs ≤ 10 ^ 18 := by
  rw [Int.natAbs_mul]
  calc x.natAbs * y.natAbs ≤ 10 ^ 9 * 10 ^ 9 := Nat.mul_le_mul hx hy
    _ = 10 ^ 18 := by decide
theorem abs_le_pos {x y : Int} (h0 : 0 ≤ x) (h0' : 0 ≤ y) {B : Nat} (hx : x.natAbs ≤ B) (hy : y.natAbs ≤ B) : (x - y).natAbs ≤ B := by omega
theorem parts_abs {z : Sz} {x : Int} {B : Nat} (hx : x.natAbs ≤ B) : ∀ y ∈ parts z x, y.natAbs ≤ B := fun y hy => by
  unfold parts at hy
  rcases List.mem_append.mp hy with hy | hy
  · split at hy
    · rw [List.mem_singleton.mp hy]; exact hx
    · cases hy
  · split at hy
    · rw [List.mem_singleton.mp hy]; omega
    · cases hy
section
variable {h : House} {z : Sz} {os : List House}
theorem shr_lps (L : Like h os) (A : Amt h) (Ao : ∀ o ∈ os, Amt o) (hn : os.length ≤ 16) : LpS (lpShr h z os) (10 ^ 18) 1130 := by
  have m1 := L.m1
  have m4 := A.m4
  have n4 := A.n4
  have np : nparts z ≤ 2 := by cases z <;> decide
  have hh : (hd h).natAbs ≤ 10 ^ 9 := A.tk _ (mem_getD (by omega) 0)
  have h1 := hd_pos L
  refine lps_mk (shr_ok L) (by rw [shr_rows]; omega) ?_ (fun r hr x hx => ?_) (fun x hx => ?_) fun x hx => ?_
  · simp only [lpShr, List.length_append, List.length_replicate, parts_len]; omega
  · rcases List.mem_append.mp (show r ∈ os.map (shrRow h z) ++ [shrLast h z] from hr) with hr | hr
    · obtain ⟨o, ho, rfl⟩ := List.mem_map.mp hr
      have Ao' := Ao o ho
      have ol := L.len o ho
      unfold shrRow at hx
      rcases List.mem_append.mp hx with hx | hx
      · rcases List.mem_append.mp hx with hx | hx
        · obtain ⟨g, hg, rfl⟩ := List.mem_map.mp hx
          exact mul_abs (Ao'.gv g hg) hh
        · obtain ⟨k, hk, rfl⟩ := List.mem_map.mp hx
          have hk' := List.mem_range.mp hk
          have a1 := mem_getD (xs := o.1) (k := 0) (by omega) 0
          have a2 := mem_getD (xs := h.1) (k := k + 1) (by omega) 0
          have a3 := mem_getD (xs := o.1) (k := k + 1) (by omega) 0
          have b1 := L.otk o ho _ a1
          have b2 := L.tk _ a2
          have b3 := L.otk o ho _ a3
          exact abs_le_pos (Int.mul_nonneg (by omega) (by omega)) (Int.mul_nonneg (by omega) (by omega)) (mul_abs (Ao'.tk _ a1) (A.tk _ a2)) (mul_abs (Ao'.tk _ a3) hh)
      · exact parts_abs (Nat.le_trans hh (by decide)) x hx
    · rw [List.mem_singleton.mp hr] at hx
      unfold shrLast at hx
      rcases List.mem_append.mp hx with hx | hx
      · rcases List.mem_append.mp hx with hx | hx
        · rw [(List.mem_replicate.mp hx).2]; decide
        · exact Nat.le_trans (A.tk x (List.mem_of_mem_tail hx)) (by decide)
      · exact parts_abs (B := 10 ^ 18) (by decide) x hx
  · rcases List.mem_append.mp (show x ∈ os.map (fun o : House => o.1.getD 0 0) ++ [1] from hx) with hx | hx
    · obtain ⟨o, ho, rfl⟩ := List.mem_map.mp hx
      exact Nat.le_trans ((Ao o ho).tk _ (mem_getD (by have := (L.len o ho).1; omega) 0)) (by decide)
    · rw [List.mem_singleton.mp hx]; decide
  · rcases List.mem_append.mp (show x ∈ h.2 ++ List.replicate (h.1.length - 1) 0 ++ parts z 1 from hx) with hx | hx
    · rcases List.mem_append.mp hx with hx | hx
      · exact Nat.le_trans (A.gv x hx) (by decide)
      · rw [(List.mem_replicate.mp hx).2]; decide
    · exact parts_abs (B := 10 ^ 18) (by decide) x hx
def NoShr (os : List House) (h : House) (z : Sz) : Prop := ∃ p : Prices, PricesOk os h.1.length h.2.length z p ∧ paidQ h p = 0 ∧ 0 < earnQ h p
def ShrIs (os : List House) (h : House) (z : Sz) (s : Rat) : Prop := (∃ M, MixDoes os h z M s 1) ∧ ∃ p, PricesOk os h.1.length h.2.length z p ∧ paidQ h p = 1 ∧ earnQ h p = s
theorem dot_zero_of {ns : List Int} : ∀ {qs : List Rat}, (∀ n ∈ ns, 1 ≤ n) → (∀ q ∈ qs, 0 ≤ q) → ns.length = qs.length → dotQ ns qs ≤ 0 → ∀ q ∈ qs, q = 0 := by
  induction ns with
  | nil => intro qs _ _ hl _ q hq; cases qs with
    | nil => cases hq
    | cons => simp at hl
  | cons n ns ih =>
    intro qs h1 h0 hl hd
    cases qs with
    | nil => simp at hl
    | cons q qs =>
      rw [dotQ_cons] at hd
      have a0 := dotQ_nonneg (ns := ns) (qs := qs) (fun n hn => by have := h1 n (List.mem_cons_of_mem _ hn); omega) (fun q hq => h0 q (List.mem_cons_of_mem _ hq))
      have q0 := h0 q List.mem_cons_self
      have n1 : (1 : Rat) ≤ (n : Rat) := by exact_mod_cast h1 n List.mem_cons_self
      have a1 : q ≤ (n : Rat) * q := by
        have := Rat.mul_le_mul_of_nonneg_right n1 q0
        grind
      have qz : q = 0 := by grind
      have dz : dotQ ns qs ≤ 0 := by
        have := Rat.mul_nonneg (show (0 : Rat) ≤ (n : Rat) by grind) q0
        grind
      intro r hr
      rcases List.mem_cons.mp hr with rfl | hr
      · exact qz
      · exact ih (fun n hn => h1 n (List.mem_cons_of_mem _ hn)) (fun q hq => h0 q (List.mem_cons_of_mem _ hq)) (by simpa using hl) dz r hr
theorem dotQ_allz : ∀ {ns : List Int} {qs : List Rat}, (∀ q ∈ qs, q = 0) → dotQ ns qs = 0
  | [], qs, _ => dotQ_nil qs
  | _ :: _, [], _ => rfl
  | n :: ns, q :: qs, h => by
    rw [dotQ_cons, h q List.mem_cons_self, dotQ_allz fun r hr => h r (List.mem_cons_of_mem _ hr)]; grind
theorem split3 {α : Type} (x : List α) (a b c : Nat) (h : x.length = a + b + c) : x = x.take a ++ (x.drop a).take b ++ x.drop (a + b) ∧ (x.take a).length = a ∧ ((x.drop a).take b).length = b ∧ (x.drop (a + b)).length = c := by
  refine ⟨?_, by rw [List.length_take]; omega, by rw [List.length_take, List.length_drop]; omega, by rw [List.length_drop]; omega⟩
  have h1 : x.drop a = (x.drop a).take b ++ (x.drop a).drop b := (List.take_append_drop b _).symm
  rw [List.drop_drop] at h1
  rw [List.append_assoc, ← h1, List.take_append_drop]
theorem glen : (lpShr h z os).gains.length = h.2.length + (h.1.length - 1) + nparts z := by simp [lpShr, parts_len]; omega
theorem unb_noshr (L : Like h os) (U : LpUnb (lpShr h z os)) : NoShr os h z := by
  obtain ⟨x, hx, x0, hr, hg⟩ := U.ex
  rw [glen] at hx
  obtain ⟨e, hu, hv, hs⟩ := split3 x _ _ _ hx
  have h0 := hd0 L
  have m1 := L.m1
  generalize x.take h.2.length = u at e hu
  generalize (x.drop h.2.length).take (h.1.length - 1) = v at e hv
  generalize x.drop (h.2.length + (h.1.length - 1)) = s at e hs
  subst e
  have u0 : ∀ q ∈ u, 0 ≤ q := fun q hq => x0 q (by simp [hq])
  have v0 : ∀ q ∈ v, 0 ≤ q := fun q hq => x0 q (by simp [hq])
  have s0 : ∀ q ∈ s, 0 ≤ q := fun q hq => x0 q (by simp [hq])
  have hl := hr os.length (by rw [shr_rows]; omega)
  rw [shr_last, dotQ_lastR hu hv hs] at hl
  have vz : ∀ q ∈ v, q = 0 := dot_zero_of (fun n hn => L.tk n (List.mem_of_mem_tail hn)) v0 (by rw [List.length_tail, hv]) hl
  rw [dotQ_gain hu hv hs] at hg
  have pz : ∀ o : House, paidQ o (List.replicate h.1.length 0, u, sizeOf z s) = 0 := fun o => dotQ_allz fun q hq => (List.mem_replicate.mp hq).2
  refine ⟨(List.replicate h.1.length 0, u, sizeOf z s), ⟨by simp, hu, fun q hq => ?_, u0, sign_sizeOf z s hs s0, fun o ho => ?_⟩, pz h, hg⟩
  · rw [(List.mem_replicate.mp hq).2]; exact Rat.le_refl
  · rw [pz o]
    obtain ⟨k, hk, rfl⟩ := List.getElem_of_mem ho
    have h1 := hr k (by rw [shr_rows]; omega)
    rw [shr_row hk, dotQ_row L ho hu hv hs, dotQ_allz (ns := h.1.tail) vz, dotQ_allz (ns := os[k].1.tail) vz] at h1
    show dotQ os[k].2 u + sizeOf z s ≤ 0
    refine Rat.not_lt.mp fun c => ?_
    have := Rat.mul_lt_mul_of_pos_left c h0
    grind
theorem noshr_mix {M : List Rat} {tb : Rat} (N : NoShr os h z) (hh : ∀ o ∈ os, o.1.length = h.1.length ∧ o.2.length = h.2.length) (D : MixDoes os h z M tb 1) : False := by
  obtain ⟨p, P, p0, pe⟩ := N
  have := weak D P hh
  rw [p0] at this
  have e : earnQ h p = dotQ h.2 p.2.1 + p.2.2 := rfl
  grind
theorem shr_unique {s s' : Rat} (hh : ∀ o ∈ os, o.1.length = h.1.length ∧ o.2.length = h.2.length) (a : ShrIs os h z s) (b : ShrIs os h z s') : s = s' := by
  obtain ⟨⟨M, m⟩, p, P, p1, pe⟩ := a
  obtain ⟨⟨M', m'⟩, p', P', p1', pe'⟩ := b
  have h1 := weak m P' hh
  have h2 := weak m' P hh
  rw [p1'] at h1
  rw [p1] at h2
  have e : earnQ h p = dotQ h.2 p.2.1 + p.2.2 := rfl
  have e' : earnQ h p' = dotQ h.2 p'.2.1 + p'.2.2 := rfl
  refine Rat.le_antisymm ?_ ?_ <;> grind
end
end Rk
namespace Rk
open PySem PySem.Spec PyProof.Rows L2
section
variable {C : Ct} {ρ : List SV} {b b1 : Bool} {a c : Expr} {pos : Pos} {i : Int} {R R' : PyData → Prop}
theorem evr_ixT (ha : EvR C ρ a R) (hc : Ev C ρ c b1 (.int i)) (h : ∀ D, R D → ∃ Ds D', D = .tuple Ds ∧ atI Ds i = some D' ∧ R' D') (hs : PlainIx c := by exact fun _ _ => rfl) : EvR C ρ (.Subscript a c pos) R' := .mk fun Pn F q σ H E =>
  semE_of (pe_ix ix_tup pe_sem pe_sem hs) ((ha.run _ F q σ H E).mono fun x H1 ⟨s1, D, d, r1⟩ => (hc.run _ F q σ H1 (E.grow s1)).mono fun y H2 ⟨s2, r2⟩ => by
    obtain ⟨Ds, D', rfl, hat, r'⟩ := h D d
    cases r2
    cases r1 with
    | tup t r =>
      obtain ⟨v, e, rv⟩ := atI_map r hat
      have sh := Ct.Env.shift (E.grow s1) s2
      exact ⟨_, _, _, v, rfl, rfl, sh.tup t, e, s1.trans s2, D', r', sh.rv rv⟩)
end
theorem Bx.flat' {C : Ct} {ρ : List SV} {b b' : Bool} {e : Expr} {Ds : List PyData} (h : Bx C ρ e b Ds) (f : Rk.flat.flatAll Ds = true) : Bx C ρ e b' Ds := .mk fun Pn F q σ H E => (h.run _ F q σ H E).mono fun v H' ⟨s, a, vs, e, k, r⟩ => ⟨s, a, vs, e, k, RpAll.flat (fun _ _ z => z) _ _ r f⟩
theorem cutD_nat {α : Type} {f : α → PyData} {xs : List α} {lo hi : Nat} (h1 : lo ≤ hi) (h2 : hi ≤ xs.length) : cutD (xs.map f) (some ((lo : Nat) : Int)) (some ((hi : Nat) : Int)) = ((xs.drop lo).take (hi - lo)).map f := by
  unfold cutD
  rw [HT.sIx_nat, HT.sIx_nat, List.length_map, Nat.min_eq_left h2, Nat.min_eq_left (show lo ≤ xs.length by omega), ← List.map_drop, ← List.map_take]
theorem cutD_to {α : Type} {f : α → PyData} {xs : List α} {hi : Nat} (h2 : hi ≤ xs.length) : cutD (xs.map f) none (some ((hi : Nat) : Int)) = (xs.take hi).map f := by
  unfold cutD
  rw [HT.sIx_none, HT.sIx_nat, List.length_map, Nat.min_eq_left h2, List.drop_zero, ← List.map_take]; rfl
theorem cutD_from {α : Type} {f : α → PyData} {xs : List α} {lo : Nat} (h2 : lo ≤ xs.length) : cutD (xs.map f) (some ((lo : Nat) : Int)) none = (xs.drop lo).map f := by
  unfold cutD
  rw [HT.sIx_none, HT.sIx_nat, List.length_map, Nat.min_eq_left h2, ← List.map_drop, List.take_of_length_le (by rw [List.length_map, List.length_drop]; omega)]
theorem cutD_init {α : Type} {f : α → PyData} {xs : List α} {x : α} : cutD ((xs ++ [x]).map f) none (some (-1)) = xs.map f := by
  unfold cutD
  have e2 : HT.sIx ((xs ++ [x]).map f).length ((xs ++ [x]).map f).length (some (-1)) = xs.length := by
    show (if (-1 : Int) < 0 then ((-1 : Int) + ((((xs ++ [x]).map f).length : Nat) : Int)).toNat else min (-1 : Int).toNat ((xs ++ [x]).map f).length) = _
    rw [if_pos (by decide), List.length_map, List.length_append]
    show ((-1 : Int) + ((xs.length + 1 : Nat) : Int)).toNat = _
    omega
  rw [e2, HT.sIx_none, List.drop_zero, List.map_append, List.take_append_of_le_length (by simp), List.take_of_length_le (by simp)]
theorem cutD_initI {α : Type} {f : α → PyData} {xs : List α} {m : Nat} (h : xs.length = m + 1) : cutD (xs.map f) none (some (-1)) = (xs.take m).map f := by
  have e : xs = xs.take m ++ [xs[m]] := by
    have := List.take_append_drop m xs
    rw [List.drop_eq_getElem_cons (by omega), List.drop_of_length_le (by omega)] at this
    exact this.symm
  have := cutD_init (f := f) (xs := xs.take m) (x := xs[m])
  rwa [← e] at this
theorem Cd.neg {D M : Nat} {x : Rat} (h : Cd D M x) : Cd D M (-x) := by
  obtain ⟨h0, k, hk, rfl⟩ := h
  exact ⟨h0, -k, by omega, by rw [Rat.neg_mkRat]⟩
theorem Cd.sub {D M M' : Nat} {x y : Rat} (h : Cd D M x) (h' : Cd D M' y) : Cd D (M + M') (x - y) := by
  rw [Rat.sub_eq_add_neg]; exact h.add h'.neg
theorem Cd.one {D : Nat} (h : D ≠ 0) : Cd D D 1 := ⟨h, (D : Int), by simp, by
  have h1 : (D : Rat) ≠ 0 := by exact_mod_cast h
  rw [← Rat.divInt_ofNat, Rat.divInt_eq_div]
  have e : (((D : Nat) : Int) : Rat) = (D : Rat) := rfl
  rw [e]; grind⟩
theorem Cd.inv {k : Int} (hk : 0 < k) : Cd k.natAbs 1 (((1 : Int) : Rat) / ((k : Int) : Rat)) := ⟨by omega, 1, by decide, by
  rw [← Rat.divInt_ofNat, Rat.divInt_eq_div]
  have : ((k.natAbs : Nat) : Int) = k := by omega
  rw [this]⟩
end Rk
namespace Rk
open PySem PySem.Spec PyProof.Rows L2
structure ShrOut (os : List House) (h : House) (z : Sz) (s : Rat) (M : List Rat) (p : Prices) : Prop where
  mix : MixDoes os h z M s 1
  prc : PricesOk os h.1.length h.2.length z p
  pd : paidQ h p = 1
  er : earnQ h p = s
  bp : ∃ D X, PrOk D X 1171 p
  bm : ∃ D X, D ≠ 0 ∧ D < 2 ^ 1171 ∧ X < 2 ^ 1171 ∧ Cd D X s ∧ ∀ q ∈ M, Cd D X q
def ShrR (os : List House) (h : House) (z : Sz) (D : PyData) : Prop := (D = .none ∧ NoShr os h z) ∨ ∃ s M p, D = .tuple [dF s, lQ M, dPr p] ∧ ShrOut os h z s M p
theorem sizeOf_cd {z : Sz} {d X : Nat} {s : List Rat} (h0 : d ≠ 0) (h : ∀ q ∈ s, Cd d X q) (hl : s.length = nparts z) : Cd d (2 * X) (sizeOf z s) := by
  cases z with
  | any => exact (Cd.zero h0).le (Nat.zero_le _)
  | one =>
    obtain ⟨a, b, rfl⟩ : ∃ a b, s = [a, b] := by
      match s, hl with
      | [a, b], _ => exact ⟨a, b, rfl⟩
    exact ((h a (by simp)).sub (h b (by simp))).le (by omega)
  | less =>
    obtain ⟨a, rfl⟩ : ∃ a, s = [a] := by
      match s, hl with
      | [a], _ => exact ⟨a, rfl⟩
    exact ((Cd.zero h0).sub (h a (by simp))).le (by omega)
  | more =>
    obtain ⟨a, rfl⟩ : ∃ a, s = [a] := by
      match s, hl with
      | [a], _ => exact ⟨a, rfl⟩
    exact (h a (by simp)).le (by omega)
theorem p30 {d X n : Nat} (hn : n ≤ 10 ^ 9) (hd : d < 2 ^ X) : n * d < 2 ^ (X + 30) := by
  rw [Nat.pow_add, Nat.mul_comm]
  calc d * n ≤ d * 2 ^ 30 := Nat.mul_le_mul_left _ (Nat.le_trans hn (by decide))
    _ < 2 ^ X * 2 ^ 30 := Nat.mul_lt_mul_of_pos_right hd (by decide)
theorem shr_prok {h : House} {z : Sz} {os : List House} (L : Like h os) (A : Amt h) {d X : Nat} {u v s : List Rat} (hu : u.length = h.2.length) (hv : v.length = h.1.length - 1) (hs : s.length = nparts z) (d0 : d ≠ 0) (hd' : d < 2 ^ 1130) (hX : X < 2 ^ 1130)
    (cu : ∀ q ∈ u, Cd d X q) (cv : ∀ q ∈ v, Cd d X q) (cs : ∀ q ∈ s, Cd d X q) : ∃ D M, PrOk D M 1171 (shrPr h z u v s) := by
  have m1 := L.m1
  have m4 := A.m4
  have h1 := hd_pos L
  have hn : (hd h).natAbs ≤ 10 ^ 9 := A.tk _ (mem_getD (by omega) 0)
  have hn0 : (hd h).natAbs ≠ 0 := by omega
  generalize en : (hd h).natAbs = n at hn hn0
  have e1 : (2 : Nat) ^ 1170 = 2 ^ 32 * 2 ^ 1138 := by rw [← Nat.pow_add]
  have e2 : (2 : Nat) ^ 1171 = 2 * 2 ^ 1170 := by rw [Nat.pow_succ]; omega
  have e3 : (2 : Nat) ^ 1138 = 2 ^ 8 * 2 ^ 1130 := by rw [← Nat.pow_add]
  have e4 : (2 : Nat) ^ 1160 = 2 ^ 30 * 2 ^ 1130 := by rw [← Nat.pow_add]
  have e5 : (2 : Nat) ^ 1170 = 2 ^ 10 * 2 ^ 1160 := by rw [← Nat.pow_add]
  have q1 := p30 hn hd'
  have q2 := p30 hn hX
  have up : ∀ q, Cd d X q → Cd (n * d) (2 ^ 1170) q := fun q c => (c.wide hn0).le (by
    show n * X ≤ 2 ^ 1170
    have : n * X < 2 ^ 1160 := q2
    omega)
  refine ⟨n * d, 2 ^ 1170, ⟨Nat.mul_ne_zero hn0 d0, fun q hq => ?_, fun q hq => up q (cu q hq), ?_, ?_, ?_, by decide, by decide⟩⟩
  · rcases List.mem_cons.mp hq with rfl | hq
    · have c1 := dotQ_cd (N := 10 ^ 9) d0 (ns := h.1.tail) (qs := v) (fun n hn => A.tk n (List.mem_of_mem_tail hn)) cv
      have c2 := ((Cd.one d0).sub c1).mul (Cd.inv (k := hd h) (by omega))
      rw [en, Nat.mul_one] at c2
      rw [Nat.mul_comm n d]
      refine c2.le ?_
      have l1 : min h.1.tail.length v.length ≤ 4 := by rw [List.length_tail]; omega
      have l2 : min h.1.tail.length v.length * (10 ^ 9 * X) ≤ 4 * (10 ^ 9 * X) := Nat.mul_le_mul_right _ l1
      have l3 : 10 ^ 9 * X ≤ 2 ^ 30 * 2 ^ 1130 := Nat.mul_le_mul (by decide) (by omega)
      omega
    · exact up q (cv q hq)
  · have c := (sizeOf_cd (z := z) d0 cs hs).wide hn0
    refine c.le ?_
    have : n * (2 * X) = 2 * (n * X) := by rw [Nat.mul_left_comm]
    have q2' : n * X < 2 ^ 1160 := q2
    omega
  · have : n * d < 2 ^ 1160 := q1
    omega
  · omega
end Rk
namespace Rk
open PySem PySem.Spec PyProof.Rows L2
def cellsM2 (z TI TO i1 i2 : Addr) : List Addr := [z, TI, TO, i1, i2]
theorem cellsM_mem2 {z TI TO i1 i2 c : Addr} : c ∈ cellsM2 z TI TO i1 i2 ↔ c = z ∨ c = TI ∨ c = TO ∨ c = i1 ∨ c = i2 := by
  unfold cellsM2; simp
def StM2 (z TI TO i1 i2 a b : Addr) (i : Nat) (h : Heap) : Prop := IsZip h z TI TO .none ∧ IsTupOf2 h TI (.ref i1) (.ref i2) ∧ (∃ x y, IsTupOf2 h TO x y) ∧ h.IsListIter i1 a i ∧ h.IsTupleIter i2 b i
theorem StM2.look {z TI TO i1 i2 a b : Addr} {i : Nat} {h : Heap} (st : StM2 z TI TO i1 i2 a b i h) : ∀ c ∈ cellsM2 z TI TO i1 i2, ∃ o, h.get? c = some o ∧ ∀ v, o.data ≠ .cell v := fun c hc => by
  obtain ⟨s1, s2, ⟨x, y, s3⟩, ⟨o4, s4, _, d4⟩, ⟨o5, s5, _, d5⟩⟩ := st
  rcases cellsM_mem2.mp hc with e | e | e | e | e <;> rw [e]
  · exact ⟨_, s1, fun v q => nomatch q⟩
  · exact ⟨_, s2, fun v q => nomatch q⟩
  · exact ⟨_, s3, fun v q => nomatch q⟩
  · exact ⟨o4, s4, fun v q => by rw [d4] at q; exact nomatch q⟩
  · exact ⟨o5, s5, fun v q => by rw [d5] at q; exact nomatch q⟩
end Rk
namespace Rk
open PySem PySem.Spec PyProof.Rows L2
theorem eqv_nil (xs : List PyData) : PyData.eqv (.list xs) (.list []) = xs.isEmpty := by
  cases xs <;> simp [PyData.eqv, PyData.eqvAll]
theorem shaped_dFs (qs : List Rat) : SeqAt.shaped (.list (qs.map dF)) = true := by
  refine shaped_of (canLay_list (canLayAll_of (fun q => canLay_dF q) qs)) ?_
  have : ∀ qs : List Rat, PyData.depthAll (qs.map dF) ≤ 1 := fun qs => by
    induction qs with
    | nil => simp [PyData.depthAll]
    | cons q qs ih =>
      simp only [List.map_cons, PyData.depthAll, PyData.depth]
      omega
  have := this qs
  simp only [PyData.depth]
  omega
theorem shaped_dF (q : Rat) : SeqAt.shaped (dF q) = true := shaped_of (canLay_dF q) (by simp [PyData.depth, PyData.depthAll])
theorem eqv_dF (x y : Rat) : PyData.eqv (dF x) (dF y) = decide (x = y) := by
  have := eqv_iff (pur_dF x) (pur_dF y) (canLay_dF x)
  rw [dF_inj] at this
  by_cases z : x = y
  · rw [decide_eq_true z]; exact this.mpr z
  · rw [decide_eq_false z]; exact Bool.eq_false_iff.mpr fun q => z (this.mp q)
def takesQ (b : List House) (M : List Rat) (k : Nat) : Rat := dotQ (b.map fun o => o.1.getD k 0) M
def givesQ (b : List House) (M : List Rat) (k : Nat) : Rat := dotQ (b.map fun o => o.2.getD k 0) M
structure GBk (b : List House) : Prop where
  ne : b ≠ []
  le : b.length ≤ 16
  hs : ∃ m n : Nat, 1 ≤ m ∧ m ≤ 4 ∧ 1 ≤ n ∧ n ≤ 4 ∧ ∀ h ∈ b, GoodH 1000000000 h ∧ h.1.length = m ∧ h.2.length = n
theorem GoodH.mono {f f' : Int} {h : House} (g : GoodH f h) (l : f ≤ f') : GoodH f' h :=
  ⟨g.t1, g.t4, g.g1, g.g4, fun x hx => by have := g.tk x hx; omega, fun x hx => by have := g.gv x hx; omega, g.ps⟩
theorem GoodH.amt {h : House} (g : GoodH 1000000000 h) : Amt h :=
  ⟨g.t4, g.g4, fun x hx => by have := g.tk x hx; omega, fun x hx => by have := g.gv x hx; omega⟩
theorem GBk.amt {b : List House} (G : GBk b) : ∀ h ∈ b, Amt h := fun h hh => by
  obtain ⟨m, n, _, _, _, _, z⟩ := G.hs
  exact (z h hh).1.amt
theorem GBk.like {b : List House} (G : GBk b) {h : House} (hh : h ∈ b) : Like h b := by
  obtain ⟨m, n, m1, _, n1, _, z⟩ := G.hs
  obtain ⟨g, h1, h2⟩ := z h hh
  exact ⟨by omega, by omega, fun o ho => by have := z o ho; omega, fun x hx => (g.tk x hx).1, fun x hx => (g.gv x hx).1, fun o ho x hx => ((z o ho).1.tk x hx).1, fun o ho x hx => ((z o ho).1.gv x hx).1⟩
theorem houseAt {b : List House} {k : Nat} (h : k < b.length) : b.getD k ([], []) ∈ b := by
  rw [List.getD, List.getElem?_eq_getElem h]; exact List.getElem_mem h
theorem not_noshr {b : List House} {h : House} {z : Sz} (hh : h ∈ b) (N : NoShr b h z) : False := by
  obtain ⟨p, P, p0, pe⟩ := N
  have := P.le h hh
  rw [p0] at this
  exact Rat.not_lt.mpr this pe
end Rk
namespace Rk
open PySem PySem.Spec PyProof.Rows L2
section
variable {C : Ct} {ρ : List SV} {b b' b1 b2 : Bool} {e e2 a c : Expr} {es : List Expr} {st : Stmt} {sts rest : List Stmt} {D : PyData} {Ds Es : List PyData} {As : List SV} {pos p : Pos} {i j : Int} {x : Str} {T : Tn} {S : Spec} {k : Nat} {R : PyData → Prop}
theorem Ct.Env.low {Pn H : Hp} {σ : L2.St} {q : Qn} {F : Addr → Prop} (E : C.Env Pn H σ ρ F q) : C.Env C.H0 H σ ρ F q :=
  ⟨E.len, E.slot, E.inj, E.out, E.base.trans E.same, Same.refl _, fun a n => E.base.free (E.new a n), E.dis, E.own⟩
def Ct.at (C : Ct) (H : Hp) : Ct := ⟨C.X, H⟩
theorem Cz.at (Z : Cz C k) (H : Hp) : Cz (C.at H) k := ⟨Z.calm, Z.own, Z.nd, Z.hr⟩
theorem RV.to0 {K : PySem.W.Frag} {b : Bool} {H0 H1 H : Hp} {N : Addr → Prop} {v : V} (h : RV K b H0 H N v D) : RV K false H1 H N v D := Rp.mono (fun _ _ q => ⟨q.1, q.2.1, fun z => nomatch z⟩) (fun _ _ q => q) _ _ h
theorem RA.to0 {K : PySem.W.Frag} {b : Bool} {H0 H1 H : Hp} {N : Addr → Prop} {v : List V} (h : RA K b H0 H N v Ds) : RA K false H1 H N v Ds := RpAll.mono (fun _ _ q => ⟨q.1, q.2.1, fun z => nomatch z⟩) (fun _ _ q => q) _ _ h
theorem RV.back {K : PySem.W.Frag} {b : Bool} {H0 H1 H : Hp} {N : Addr → Prop} {v : V} (s : Same H0 H1) (h : RV K b H1 H N v D) : RV K b H0 H N v D := Rp.mono (fun _ _ q => ⟨q.1, q.2.1, fun z => s.free (q.2.2 z)⟩) (fun _ _ q => q) _ _ h
theorem RA.back {K : PySem.W.Frag} {b : Bool} {H0 H1 H : Hp} {N : Addr → Prop} {v : List V} (s : Same H0 H1) (h : RA K b H1 H N v Ds) : RA K b H0 H N v Ds := RpAll.mono (fun _ _ q => ⟨q.1, q.2.1, fun z => s.free (q.2.2 z)⟩) (fun _ _ q => q) _ _ h
theorem FldOk.re {K : PySem.W.Frag} {H0 H1 H : Hp} {N : Addr → Prop} {v : V} {f : FV} (h : FldOk K H0 H N v f) : FldOk K H1 H N v f := by
  cases h with
  | d r => exact .d r.to0
  | o e r => exact .o e r.to0
theorem ObOk.re {K : PySem.W.Frag} {H0 H1 H : Hp} {N : Addr → Prop} {A Cl : Addr} {fv : List (Str × FV)} {G : List (Addr × HO)} {l : List Addr} (h : ObOk K H0 H N A Cl fv G l) : ObOk K H1 H N A Cl fv G l := by
  obtain ⟨dx, Fs, ef, el, e1, e2, hf, nd, hg, hl⟩ := h.ex
  exact ⟨dx, Fs, ef, el, e1, e2, fun t ht => (hf t ht).re, nd, hg, hl⟩
theorem qs_map {K : PySem.W.Frag} {b b' : Bool} {H0 H1 H : Hp} {N : Addr → Prop} (f : ∀ {vs Ds}, RA K b H0 H N vs Ds → RA K b' H1 H N vs Ds) {qs : List Addr} {Dss : List (List PyData)} (h : Qs K b H0 H N qs Dss) : Qs K b' H1 H N qs Dss := by
  induction h with
  | nil => exact .nil
  | cons a _ ih =>
    obtain ⟨vs, e, r⟩ := a
    exact .cons ⟨vs, e, f r⟩ ih
theorem kv_map {K : PySem.W.Frag} {b b' : Bool} {H0 H1 H : Hp} {N : Addr → Prop} (f : ∀ {v D}, RV K b H0 H N v D → RV K b' H1 H N v D) {kvs : List (Key × V)} {Ks : List (Key × PyData)} (h : KvOk K b H0 H N kvs Ks) : KvOk K b' H1 H N kvs Ks := by
  induction h with
  | nil => exact .nil
  | cons a _ ih => exact .cons ⟨a.1, f a.2⟩ ih
theorem SlotOk.back {K : PySem.W.Frag} {H0 H1 H : Hp} {N : Addr → Prop} {y : Option (Option V)} {s : SV} {l : List Addr} (t : Same H0 H1) (h : SlotOk K H1 H N y s l) : SlotOk K H0 H N y s l := by
  cases h with
  | u => exact .u
  | d r => exact .d (r.back t)
  | o e r => exact .o e (r.back t)
  | s e => exact .s e
  | oo e r n => exact .oo e (qs_map (fun r => r.back t) r) n
  | ob h => exact .ob h.re
  | dc e r => exact .dc e (kv_map (fun r => r.back t) r)
  | rb h => exact .rb h
  | al => exact .al
  | rl e => exact .rl e
  | oa e r => exact .oa e (r.back t)
  | ot e => exact .ot e
end
end Rk
namespace Rk
open PySem PySem.Spec PyProof.Rows L2
def kq (t i : Nat) : Nat := if i < t then i else i + 1
def wo (n t : Nat) (xs : List Int) : List Int := (List.range (n - 1)).map fun i => xs.getD (kq t i) 0
def ins (t : Nat) (p : Rat) (v : List Rat) : List Rat := v.take t ++ [p] ++ v.drop t
theorem wo_len {n t : Nat} {xs : List Int} : (wo n t xs).length = n - 1 := by unfold wo; rw [List.length_map, List.length_range]
theorem ins_len {t : Nat} {p : Rat} {v : List Rat} : (ins t p v).length = v.length + 1 := by
  unfold ins
  rw [List.length_append, List.length_append, List.length_take, List.length_drop, List.length_singleton]
  omega
theorem mem_ins {t : Nat} {p q : Rat} {v : List Rat} (h : q ∈ ins t p v) : q = p ∨ q ∈ v := by
  unfold ins at h
  rcases List.mem_append.mp h with h | h
  · rcases List.mem_append.mp h with h | h
    · exact .inr (List.mem_of_mem_take h)
    · exact .inl (List.mem_singleton.mp h)
  · exact .inr (List.mem_of_mem_drop h)
theorem range_map_getD : ∀ (xs : List Int), (List.range xs.length).map (fun i => xs.getD i 0) = xs := fun xs => by
  refine List.ext_getElem? fun k => ?_
  rw [List.getElem?_map]
  by_cases hk : k < xs.length
  · rw [List.getElem?_range hk, List.getElem?_eq_getElem hk]
    show some (xs.getD k 0) = _
    rw [List.getD, List.getElem?_eq_getElem hk]; rfl
  · rw [List.getElem?_eq_none (by rw [List.length_range]; omega), List.getElem?_eq_none (by omega)]; rfl
theorem dotQ_ins : ∀ (t : Nat) (xs : List Int) (v : List Rat) (p : Rat), t < xs.length → v.length = xs.length - 1 → dotQ xs (ins t p v) = ((xs.getD t 0 : Int) : Rat) * p + dotQ (wo xs.length t xs) v
  | 0, x :: xs, v, p, _, hv => by
    have e : wo (x :: xs).length 0 (x :: xs) = xs := by
      unfold wo
      exact range_map_getD xs
    rw [e]; rfl
  | t + 1, x :: xs, [], p, ht, hv => by
    simp only [List.length_cons, List.length_nil] at ht hv; omega
  | t + 1, x :: xs, q :: v, p, ht, hv => by
    simp only [List.length_cons] at ht hv
    have ih := dotQ_ins t xs v p (by omega) (by omega)
    have e1 : ins (t + 1) p (q :: v) = q :: ins t p v := rfl
    have e2 : wo (x :: xs).length (t + 1) (x :: xs) = x :: wo xs.length t xs := by
      unfold wo
      obtain ⟨n, en⟩ : ∃ n, xs.length = n + 1 := ⟨xs.length - 1, by omega⟩
      rw [List.length_cons, en, Nat.add_sub_cancel, Nat.add_sub_cancel, List.range_succ_eq_map, List.map_cons, List.map_map]
      congr 1
      refine List.map_congr_left fun i _ => ?_
      show (x :: xs).getD (kq (t + 1) (i + 1)) 0 = xs.getD (kq t i) 0
      have : kq (t + 1) (i + 1) = kq t i + 1 := by
        unfold kq
        split <;> split <;> omega
      rw [this]; rfl
    rw [e1, e2, dotQ_cons, ih, dotQ_cons]
    have e3 : (x :: xs).getD (t + 1) 0 = xs.getD t 0 := rfl
    rw [e3]; grind
  | _, [], _, _, h, _ => by simp at h
end Rk
namespace Rk
open PySem PySem.Spec PyProof.Rows L2
abbrev gh (h : House) (t : Nat) : Int := h.2.getD t 0
def groRow (h : House) (t : Nat) (z : Sz) (o : House) : List Int := o.1.map (fun x => 0 - gh h t * x) ++ (List.range (h.2.length - 1)).map (fun i => o.2.getD (kq t i) 0 * gh h t - o.2.getD t 0 * h.2.getD (kq t i) 0) ++ parts z (gh h t)
def groLast (h : House) (t : Nat) (z : Sz) : List Int := List.replicate h.1.length 0 ++ wo h.2.length t h.2 ++ parts z 0
def lpGro (h : House) (t : Nat) (z : Sz) (os : List House) : Sx.Lp := ⟨os.map (groRow h t z) ++ [groLast h t z], os.map (fun o => 0 - o.2.getD t 0) ++ [1], h.1.map (fun x => 0 - x) ++ List.replicate (h.2.length - 1) 0 ++ parts z 1⟩
section
variable {h : House} {z : Sz} {os : List House} {t : Nat}
theorem dotQ_neg (c : Int) : ∀ (ns : List Int) (qs : List Rat), dotQ (ns.map fun x => 0 - c * x) qs = -((c : Rat) * dotQ ns qs)
  | [], qs => by rw [List.map_nil, dotQ_nil]; grind
  | _ :: _, [] => by rw [dotQ_nil', dotQ_nil']; grind
  | n :: ns, q :: qs => by
    rw [List.map_cons, dotQ_cons, dotQ_neg c ns qs, dotQ_cons, Rat.intCast_sub, Rat.intCast_mul]
    have e : ((0 : Int) : Rat) = 0 := rfl
    rw [e]; grind
theorem gro_glen : (lpGro h t z os).gains.length = h.1.length + (h.2.length - 1) + nparts z := by simp [lpGro, parts_len]; omega
theorem groRow_len (L : Like h os) {o : House} (ho : o ∈ os) : (groRow h t z o).length = (lpGro h t z os).gains.length := by
  have := (L.len o ho).1
  simp only [groRow, lpGro, List.length_append, List.length_map, List.length_range, List.length_replicate, parts_len, this]
theorem groLast_len : (groLast h t z).length = (lpGro h t z os).gains.length := by
  simp only [groLast, lpGro, List.length_append, List.length_replicate, List.length_map, wo_len, parts_len]
theorem gro_rows : (lpGro h t z os).rows.length = os.length + 1 := by simp [lpGro]
theorem gro_row {k : Nat} (hk : k < os.length) : (lpGro h t z os).rows.getD k [] = groRow h t z os[k] := by
  show (os.map (groRow h t z) ++ [groLast h t z]).getD k [] = _
  rw [List.getD, List.getElem?_append_left (by simpa using hk), List.getElem?_map, List.getElem?_eq_getElem hk]; rfl
theorem gro_last : (lpGro h t z os).rows.getD os.length [] = groLast h t z := by
  show (os.map (groRow h t z) ++ [groLast h t z]).getD os.length [] = _
  rw [List.getD, List.getElem?_append_right (by simp)]; simp
theorem gro_lim {k : Nat} (hk : k < os.length) : (lpGro h t z os).limits.getD k 0 = 0 - os[k].2.getD t 0 := by
  show (os.map (fun o : House => 0 - o.2.getD t 0) ++ [1]).getD k 0 = _
  rw [List.getD, List.getElem?_append_left (by simpa using hk), List.getElem?_map, List.getElem?_eq_getElem hk]; rfl
theorem gro_limL : (lpGro h t z os).limits.getD os.length 0 = 1 := by
  show (os.map (fun o : House => 0 - o.2.getD t 0) ++ [1]).getD os.length 0 = _
  rw [List.getD, List.getElem?_append_right (by simp)]; simp
theorem gro_col0 (L : Like h os) {o : House} (ho : o ∈ os) : (groRow h t z o).getD 0 0 = 0 - gh h t * o.1.getD 0 0 := by
  have m1 := L.m1
  have ol := (L.len o ho).1
  unfold groRow
  rw [List.append_assoc, List.getD, List.getElem?_append_left (by rw [List.length_map]; omega), List.getElem?_map, List.getD, List.getElem?_eq_getElem (by omega)]; rfl
theorem groLast_col0 (m1 : 1 ≤ h.1.length) : (groLast h t z).getD 0 0 = 0 := by
  unfold groLast
  rw [List.append_assoc, List.getD, List.getElem?_append_left (by rw [List.length_replicate]; omega), List.getElem?_replicate, if_pos (by omega)]; rfl
theorem gro_ok (L : Like h os) (hg : 0 < gh h t) : (lpGro h t z os).Ok where
  lm := by simp [lpGro]
  rw := fun r hr => by
    rcases List.mem_append.mp (show r ∈ os.map (groRow h t z) ++ [groLast h t z] from hr) with hr | hr
    · obtain ⟨o, ho, rfl⟩ := List.mem_map.mp hr
      exact groRow_len L ho
    · rw [List.mem_singleton.mp hr]; exact groLast_len
  neg := fun k hk hn => by
    rw [gro_rows] at hk
    by_cases z' : k = os.length
    · rw [z', gro_limL] at hn; omega
    · have hk' : k < os.length := by omega
      have hm := List.getElem_mem hk'
      rw [gro_row hk', gro_col0 L hm]
      have := L.otk _ hm (os[k].1.getD 0 0) (mem_getD (by have := (L.len _ hm).1; have := L.m1; omega) 0)
      have := Int.mul_pos hg (show 0 < os[k].1.getD 0 0 by omega)
      omega
  allneg := fun _ => by
    refine ⟨by rw [gro_glen]; have := L.m1; omega, fun k hk => ?_⟩
    rw [gro_rows] at hk
    by_cases z' : k = os.length
    · rw [z', gro_last, groLast_col0 L.m1]; exact Int.le_refl _
    · have hk' : k < os.length := by omega
      have hm := List.getElem_mem hk'
      rw [gro_row hk', gro_col0 L hm]
      have := L.otk _ hm (os[k].1.getD 0 0) (mem_getD (by have := (L.len _ hm).1; have := L.m1; omega) 0)
      have := Int.mul_pos hg (show 0 < os[k].1.getD 0 0 by omega)
      omega
theorem gro_dotRow (L : Like h os) {o : House} (ho : o ∈ os) {u v s : List Rat} (hu : u.length = h.1.length) (hv : v.length = h.2.length - 1) (hs : s.length = nparts z) :
    dotQ (groRow h t z o) (u ++ v ++ s) = -((gh h t : Rat) * dotQ o.1 u) + ((gh h t : Rat) * dotQ (wo o.2.length t o.2) v - ((o.2.getD t 0 : Int) : Rat) * dotQ (wo h.2.length t h.2) v) + (gh h t : Rat) * sizeOf z s := by
  have hl := (L.len o ho).2
  unfold groRow
  rw [dotQ_append (by simp only [List.length_append, List.length_map, List.length_range]; rw [hu, hv, (L.len o ho).1]), dotQ_append (by rw [List.length_map, hu, (L.len o ho).1]), dotQ_neg, dotQ_parts z _ _ hs]
  congr 2
  have e1 : (List.range (h.2.length - 1)).map (fun i => o.2.getD (kq t i) 0 * gh h t - o.2.getD t 0 * h.2.getD (kq t i) 0) = (List.range (h.2.length - 1)).map (fun i => o.2.getD (kq t i) 0 * gh h t - h.2.getD (kq t i) 0 * o.2.getD t 0) := List.map_congr_left fun k _ => by rw [Int.mul_comm (o.2.getD t 0)]
  rw [e1, dotQ_lin]
  unfold wo
  rw [hl]
theorem gro_dotLast {u v s : List Rat} (hu : u.length = h.1.length) (hv : v.length = h.2.length - 1) (hs : s.length = nparts z) : dotQ (groLast h t z) (u ++ v ++ s) = dotQ (wo h.2.length t h.2) v := by
  unfold groLast
  rw [dotQ_append (by simp only [List.length_append, List.length_replicate, wo_len]; rw [hu, hv]), dotQ_append (by rw [List.length_replicate, hu]), dotQ_zero, dotQ_parts z _ _ hs]
  simp
  grind
theorem gro_dotGain {u v s : List Rat} (hu : u.length = h.1.length) (hv : v.length = h.2.length - 1) (hs : s.length = nparts z) : dotQ (lpGro h t z os).gains (u ++ v ++ s) = -dotQ h.1 u + sizeOf z s := by
  show dotQ (h.1.map (fun x => 0 - x) ++ List.replicate (h.2.length - 1) 0 ++ parts z 1) _ = _
  have e : h.1.map (fun x => 0 - x) = h.1.map (fun x => 0 - 1 * x) := List.map_congr_left fun x _ => by omega
  rw [dotQ_append (by simp only [List.length_append, List.length_replicate, List.length_map]; rw [hu, hv]), dotQ_append (by rw [List.length_map]; exact hu.symm), dotQ_zero, dotQ_parts z _ _ hs, e, dotQ_neg]
  simp
  grind
def prcG (h : House) (t : Nat) (v : List Rat) : Rat := (1 - dotQ (wo h.2.length t h.2) v) * (((1 : Int) : Rat) / ((gh h t : Int) : Rat))
def groPr (h : House) (t : Nat) (z : Sz) (u v s : List Rat) : Prices := (u, ins t (prcG h t v) v, sizeOf z s)
theorem prcG_hd (hg : 0 < gh h t) (v : List Rat) : ((gh h t : Int) : Rat) * prcG h t v = 1 - dotQ (wo h.2.length t h.2) v := by
  have : (0 : Rat) < ((gh h t : Int) : Rat) := by exact_mod_cast hg
  unfold prcG
  have e : ((1 : Int) : Rat) = 1 := rfl
  rw [e]; grind
theorem gro_prices (L : Like h os) (ht : t < h.2.length) (hg : 0 < gh h t) {u v s : List Rat} (hu : u.length = h.1.length) (hv : v.length = h.2.length - 1) (hs : s.length = nparts z) (u0 : ∀ q ∈ u, 0 ≤ q) (v0 : ∀ q ∈ v, 0 ≤ q) (s0 : ∀ q ∈ s, 0 ≤ q)
    (hr : ∀ o ∈ os, dotQ (groRow h t z o) (u ++ v ++ s) ≤ (((0 - o.2.getD t 0 : Int) : Int) : Rat)) (hl : dotQ (groLast h t z) (u ++ v ++ s) ≤ 1) :
    PricesOk os h.1.length h.2.length z (groPr h t z u v s) ∧ dotQ h.2 (groPr h t z u v s).2.1 = 1 ∧ paidQ h (groPr h t z u v s) - (groPr h t z u v s).2.2 = dotQ h.1 u - sizeOf z s := by
  have h0 : (0 : Rat) < ((gh h t : Int) : Rat) := by exact_mod_cast hg
  have e0 := prcG_hd hg v
  rw [gro_dotLast hu hv hs] at hl
  have p0 : 0 ≤ prcG h t v := by
    unfold prcG
    have e : ((1 : Int) : Rat) / ((gh h t : Int) : Rat) = (((gh h t : Int) : Rat))⁻¹ := by rw [Rat.div_def]; exact Rat.one_mul _
    rw [e]
    exact Rat.mul_nonneg (by grind) (Rat.le_of_lt (Rat.inv_pos.mpr h0))
  refine ⟨⟨hu, by show (ins t (prcG h t v) v).length = _; rw [ins_len, hv]; have := L.n1; omega, u0, fun q hq => ?_, sign_sizeOf z s hs s0, fun o ho => ?_⟩, ?_, rfl⟩
  · rcases mem_ins hq with rfl | hq
    · exact p0
    · exact v0 q hq
  · have h1 := hr o ho
    rw [gro_dotRow L ho hu hv hs] at h1
    have hol := (L.len o ho).2
    have h2 : paidQ o (groPr h t z u v s) = dotQ o.1 u := rfl
    have h3 : earnQ o (groPr h t z u v s) = ((o.2.getD t 0 : Int) : Rat) * prcG h t v + dotQ (wo o.2.length t o.2) v + sizeOf z s := by
      show dotQ o.2 (ins t (prcG h t v) v) + sizeOf z s = _
      rw [dotQ_ins t o.2 v _ (by omega) (by omega)]
    rw [h2, h3]
    refine Rat.not_lt.mp fun c => ?_
    have h4 := Rat.mul_lt_mul_of_pos_left c h0
    have h5 : ((gh h t : Int) : Rat) * (((o.2.getD t 0 : Int) : Rat) * prcG h t v + dotQ (wo o.2.length t o.2) v + sizeOf z s) = ((o.2.getD t 0 : Int) : Rat) * (1 - dotQ (wo h.2.length t h.2) v) + ((gh h t : Int) : Rat) * dotQ (wo o.2.length t o.2) v + ((gh h t : Int) : Rat) * sizeOf z s := by rw [← e0]; grind
    rw [h5] at h4
    have e : ((0 : Int) : Rat) = 0 := rfl
    rw [Rat.intCast_sub, e] at h1
    grind
  · show dotQ h.2 (ins t (prcG h t v) v) = 1
    rw [dotQ_ins t h.2 v _ ht hv, e0]; grind
theorem gro_colEq (j : Nat) : (lpGro h t z os).rows.map (fun r => r.getD j 0) = os.map (fun o => (groRow h t z o).getD j 0) ++ [(groLast h t z).getD j 0] := by
  show (os.map (groRow h t z) ++ [groLast h t z]).map _ = _
  rw [List.map_append, List.map_map]; rfl
theorem groRow_take (L : Like h os) {o : House} (ho : o ∈ os) {j : Nat} (hj : j < h.1.length) : (groRow h t z o).getD j 0 = 0 - gh h t * o.1.getD j 0 := by
  have hl := (L.len o ho).1
  unfold groRow
  rw [List.append_assoc, List.getD, List.getElem?_append_left (by rw [List.length_map, hl]; exact hj), List.getElem?_map, List.getElem?_eq_getElem (by omega), List.getD, List.getElem?_eq_getElem (by omega)]; rfl
theorem groRow_rest (L : Like h os) {o : House} (ho : o ∈ os) {k : Nat} (hk : k < h.2.length - 1) : (groRow h t z o).getD (h.1.length + k) 0 = o.2.getD (kq t k) 0 * gh h t - o.2.getD t 0 * h.2.getD (kq t k) 0 := by
  have hl := (L.len o ho).1
  unfold groRow
  rw [List.append_assoc, List.getD, List.getElem?_append_right (by rw [List.length_map, hl]; omega), List.length_map, hl, Nat.add_sub_cancel_left, List.getElem?_append_left (by simpa using hk), List.getElem?_map, List.getElem?_range hk]; rfl
theorem groRow_size (L : Like h os) {o : House} (ho : o ∈ os) {i : Nat} : (groRow h t z o).getD (h.1.length + (h.2.length - 1) + i) 0 = (parts z (gh h t)).getD i 0 := by
  have hl := (L.len o ho).1
  unfold groRow
  rw [List.getD, List.getElem?_append_right (by simp only [List.length_append, List.length_map, List.length_range, hl]; omega)]
  simp only [List.length_append, List.length_map, List.length_range, hl, Nat.add_sub_cancel_left]; rfl
theorem groLast_take {j : Nat} (hj : j < h.1.length) : (groLast h t z).getD j 0 = 0 := by
  unfold groLast
  rw [List.append_assoc, List.getD, List.getElem?_append_left (by simpa using hj), List.getElem?_replicate, if_pos hj]; rfl
theorem groLast_rest {k : Nat} (hk : k < h.2.length - 1) : (groLast h t z).getD (h.1.length + k) 0 = h.2.getD (kq t k) 0 := by
  unfold groLast
  rw [List.append_assoc, List.getD, List.getElem?_append_right (by simp), List.length_replicate, Nat.add_sub_cancel_left, List.getElem?_append_left (by rw [wo_len]; exact hk)]
  unfold wo
  rw [List.getElem?_map, List.getElem?_range hk]; rfl
theorem groLast_size {i : Nat} : (groLast h t z).getD (h.1.length + (h.2.length - 1) + i) 0 = (parts z 0).getD i 0 := by
  unfold groLast
  rw [List.getD, List.getElem?_append_right (by simp only [List.length_append, List.length_replicate, wo_len]; omega)]
  simp only [List.length_append, List.length_replicate, wo_len, Nat.add_sub_cancel_left]; rfl
theorem gro_gainAt {j : Nat} : (lpGro h t z os).gains.getD j 0 = if j < h.1.length then 0 - h.1.getD j 0 else if j < h.1.length + (h.2.length - 1) then 0 else (parts z 1).getD (j - (h.1.length + (h.2.length - 1))) 0 := by
  show (h.1.map (fun x => 0 - x) ++ List.replicate (h.2.length - 1) 0 ++ parts z 1).getD j 0 = _
  by_cases h1 : j < h.1.length
  · rw [if_pos h1, List.append_assoc, List.getD, List.getElem?_append_left (by rw [List.length_map]; exact h1), List.getElem?_map, List.getD, List.getElem?_eq_getElem h1]; rfl
  · rw [if_neg h1]
    by_cases h2 : j < h.1.length + (h.2.length - 1)
    · rw [if_pos h2, List.append_assoc, List.getD, List.getElem?_append_right (by rw [List.length_map]; omega), List.length_map, List.getElem?_append_left (by rw [List.length_replicate]; omega), List.getElem?_replicate, if_pos (by omega)]; rfl
    · rw [if_neg h2, List.getD, List.getElem?_append_right (by simp only [List.length_append, List.length_replicate, List.length_map]; omega)]
      simp only [List.length_append, List.length_replicate, List.length_map]; rfl
theorem gro_mix (L : Like h os) (ht : t < h.2.length) (hg : 0 < gh h t) {s : Rat} {x ys : List Rat} {zl : Rat} (O : LpOpt (lpGro h t z os) s x (ys ++ [zl])) : MixDoes os h z (ys.map (· * ((gh h t : Int) : Rat))) 1 (-s) := by
  have h0 : (0 : Rat) < ((gh h t : Int) : Rat) := by exact_mod_cast hg
  have ly : ys.length = os.length := by have := O.ly; rw [gro_rows] at this; simpa using this
  have y0 : ∀ q ∈ ys, 0 ≤ q := fun q hq => O.y0 q (List.mem_append_left _ hq)
  have z0 : 0 ≤ zl := O.y0 zl (by simp)
  have m1 := L.m1
  have glen := gro_glen (h := h) (t := t) (z := z) (os := os)
  have hgy := O.gy
  have el : dotQ (lpGro h t z os).limits (ys ++ [zl]) = -dotQ (os.map fun o => o.2.getD t 0) ys + zl := by
    show dotQ (os.map (fun o : House => 0 - o.2.getD t 0) ++ [1]) _ = _
    have e : (os.map fun o : House => 0 - o.2.getD t 0) = (os.map fun o : House => o.2.getD t 0).map (fun x => 0 - 1 * x) := by
      rw [List.map_map]
      exact List.map_congr_left fun o _ => by show 0 - o.2.getD t 0 = 0 - 1 * o.2.getD t 0; rw [Int.one_mul]
    rw [dotQ_append (by rw [List.length_map, ly]), e, dotQ_neg]
    show _ + (((1 : Int) : Rat) * zl + 0) = _
    have e : ((1 : Int) : Rat) = 1 := rfl
    rw [e]; grind
  rw [el] at hgy
  have col : ∀ j, j < (lpGro h t z os).gains.length → (((lpGro h t z os).gains.getD j 0 : Int) : Rat) ≤ dotQ (os.map fun o => (groRow h t z o).getD j 0) ys + (((groLast h t z).getD j 0 : Int) : Rat) * zl := fun j hj => by
    have := O.dua j hj
    rw [gro_colEq, dotQ_append (by rw [List.length_map, ly])] at this
    have e : dotQ [(groLast h t z).getD j 0] [zl] = (((groLast h t z).getD j 0 : Int) : Rat) * zl + 0 := rfl
    rw [e] at this
    grind
  have cong : ∀ {f g : House → Int}, (∀ o ∈ os, f o = g o) → os.map f = os.map g := fun hf => List.map_congr_left hf
  refine ⟨by rw [List.length_map, ly], fun q hq => ?_, ?_, fun k hk => ?_, fun k hk => ?_⟩
  · obtain ⟨y, hy, rfl⟩ := List.mem_map.mp hq
    exact Rat.mul_nonneg (y0 y hy) (Rat.le_of_lt h0)
  · rw [sumQ_mul]
    have up : upB z = true → 1 ≤ ((gh h t : Int) : Rat) * sumQ ys := fun hz => by
      have h1 := col (h.1.length + (h.2.length - 1) + 0) (by rw [glen]; cases z <;> simp [upB] at hz <;> simp [nparts])
      rw [gro_gainAt, if_neg (by omega), if_neg (by omega), groLast_size, cong (g := fun _ => (parts z (gh h t)).getD 0 0) fun o ho => groRow_size L ho, dotQ_const _ _ _ ly.symm] at h1
      have e1 : (parts z 1).getD (h.1.length + (h.2.length - 1) + 0 - (h.1.length + (h.2.length - 1))) 0 = 1 := by
        rw [Nat.add_zero, Nat.sub_self]; cases z <;> simp [upB] at hz <;> rfl
      have e2 : (parts z (gh h t)).getD 0 0 = gh h t := by cases z <;> simp [upB] at hz <;> rfl
      have e3 : (parts z 0).getD 0 0 = 0 := by cases z <;> simp [upB] at hz <;> rfl
      rw [e1, e2, e3] at h1
      have e4 : ((1 : Int) : Rat) = 1 := rfl
      have e5 : ((0 : Int) : Rat) = 0 := rfl
      rw [e4, e5] at h1
      grind
    have down : downB z = true → ((gh h t : Int) : Rat) * sumQ ys ≤ 1 := fun hz => by
      let i := nparts z - 1
      have h1 := col (h.1.length + (h.2.length - 1) + i) (by rw [glen]; cases z <;> simp [downB] at hz <;> simp [nparts, i])
      rw [gro_gainAt, if_neg (by omega), if_neg (by omega), groLast_size, cong (g := fun _ => (parts z (gh h t)).getD i 0) fun o ho => groRow_size L ho, dotQ_const _ _ _ ly.symm] at h1
      have e1 : (parts z 1).getD (h.1.length + (h.2.length - 1) + i - (h.1.length + (h.2.length - 1))) 0 = -1 := by
        rw [Nat.add_sub_cancel_left]; cases z <;> simp [downB] at hz <;> rfl
      have e2 : (parts z (gh h t)).getD i 0 = 0 - gh h t := by cases z <;> simp [downB] at hz <;> rfl
      have e3 : (parts z 0).getD i 0 = 0 := by cases z <;> simp [downB] at hz <;> rfl
      rw [e1, e2, e3] at h1
      have e4 : ((-1 : Int) : Rat) = -1 := rfl
      have e5 : ((0 : Int) : Rat) = 0 := rfl
      rw [e4, e5, Rat.intCast_sub, e5] at h1
      grind
    cases z with
    | any => trivial
    | one => exact Rat.le_antisymm (down rfl) (up rfl)
    | less => exact down rfl
    | more => exact up rfl
  · rw [dotQ_mulR]
    have h1 := col k (by rw [glen]; omega)
    rw [gro_gainAt, if_pos hk, groLast_take hk, cong (g := fun o => 0 - gh h t * o.1.getD k 0) fun o ho => groRow_take L ho hk] at h1
    have e1 : (os.map fun o : House => 0 - gh h t * o.1.getD k 0) = (os.map fun o : House => o.1.getD k 0).map (fun x => 0 - gh h t * x) := by rw [List.map_map]; rfl
    have e5 : ((0 : Int) : Rat) = 0 := rfl
    rw [e1, dotQ_neg, e5, Rat.intCast_sub, e5] at h1
    grind
  · rw [dotQ_mulR]
    by_cases ek : k = t
    · subst ek
      have : ((gh h k : Int) : Rat) * (-s) ≤ ((gh h k : Int) : Rat) * dotQ (os.map fun o => o.2.getD k 0) ys := Rat.mul_le_mul_of_nonneg_left (by grind) (Rat.le_of_lt h0)
      exact this
    · obtain ⟨i, hi, ei⟩ : ∃ i, i < h.2.length - 1 ∧ kq t i = k := by
        by_cases c : k < t
        · exact ⟨k, by omega, by unfold kq; rw [if_pos c]⟩
        · exact ⟨k - 1, by omega, by unfold kq; rw [if_neg (by omega)]; omega⟩
      have h1 := col (h.1.length + i) (by rw [glen]; omega)
      rw [gro_gainAt, if_neg (by omega), if_pos (by omega), groLast_rest hi, cong (g := fun o => o.2.getD k 0 * gh h t - o.2.getD t 0 * h.2.getD k 0) fun o ho => by rw [groRow_rest L ho hi, ei], ei, dotQ_lin] at h1
      have e5 : ((0 : Int) : Rat) = 0 := rfl
      rw [e5] at h1
      have e6 : ((h.2.getD k 0 : Int) : Rat) * (-s) = ((h.2.getD k 0 : Int) : Rat) * dotQ (os.map fun o => o.2.getD t 0) ys - ((h.2.getD k 0 : Int) : Rat) * zl := by rw [← hgy]; grind
      rw [e6]
      grind
theorem gro_bounded (L : Like h os) (hg : 0 < gh h t) (hh : h ∈ os) (U : LpUnb (lpGro h t z os)) : False := by
  obtain ⟨x, hx, x0, hr, hgx⟩ := U.ex
  rw [gro_glen] at hx
  obtain ⟨e, hu, hv, hs⟩ := split3 x _ _ _ hx
  have h0 : (0 : Rat) < ((gh h t : Int) : Rat) := by exact_mod_cast hg
  generalize x.take h.1.length = u at e hu
  generalize (x.drop h.1.length).take (h.2.length - 1) = v at e hv
  generalize x.drop (h.1.length + (h.2.length - 1)) = s at e hs
  subst e
  obtain ⟨k, hk, ek⟩ := List.getElem_of_mem hh
  have h1 := hr k (by rw [gro_rows]; omega)
  rw [gro_row hk, ek, gro_dotRow L hh hu hv hs] at h1
  rw [gro_dotGain hu hv hs] at hgx
  have h2 := Rat.mul_pos h0 hgx
  grind
structure GroOut (os : List House) (h : House) (z : Sz) (s : Rat) (M : List Rat) (p : Prices) : Prop where
  mix : MixDoes os h z M 1 s
  prc : PricesOk os h.1.length h.2.length z p
  dg : dotQ h.2 p.2.1 = 1
  pd : paidQ h p - p.2.2 = s
  bp : ∃ D X, PrOk D X 1171 p
  bm : ∃ D X, D ≠ 0 ∧ D < 2 ^ 1171 ∧ X < 2 ^ 1171 ∧ Cd D X s ∧ ∀ q ∈ M, Cd D X q
def GroIs (os : List House) (h : House) (z : Sz) (s : Rat) : Prop := (∃ M, MixDoes os h z M 1 s) ∧ ∃ p, PricesOk os h.1.length h.2.length z p ∧ dotQ h.2 p.2.1 = 1 ∧ paidQ h p - p.2.2 = s
theorem GroOut.is {s : Rat} {M : List Rat} {p : Prices} (O : GroOut os h z s M p) : GroIs os h z s := ⟨⟨M, O.mix⟩, p, O.prc, O.dg, O.pd⟩
theorem gro_unique {s s' : Rat} (hh : ∀ o ∈ os, o.1.length = h.1.length ∧ o.2.length = h.2.length) (a : GroIs os h z s) (b : GroIs os h z s') : s = s' := by
  obtain ⟨⟨M, m⟩, p, P, d, pe⟩ := a
  obtain ⟨⟨M', m'⟩, p', P', d', pe'⟩ := b
  have h1 := weak m P' hh
  have h2 := weak m' P hh
  rw [d'] at h1
  rw [d] at h2
  refine Rat.le_antisymm ?_ ?_ <;> grind
theorem gro_ge1 {s : Rat} (hm : h ∈ os) (a : GroIs os h z s) : 1 ≤ s := by
  obtain ⟨_, p, P, d, pe⟩ := a
  have := P.le h hm
  have e : earnQ h p = dotQ h.2 p.2.1 + p.2.2 := rfl
  rw [e, d] at this
  grind
end
end Rk
namespace Rk
open PySem PySem.Spec PyProof.Rows L2
def rimRow (z : Sz) (o : House) : List Int := o.1.map (fun x => 0 - x) ++ o.2 ++ parts z 1
def rimLim (o : House) : Int := o.1.sum - o.2.sum
def lpRim (h : House) (z : Sz) (os : List House) : Sx.Lp := ⟨os.map (rimRow z), os.map rimLim, rimRow z h⟩
section
variable {h : House} {z : Sz} {os : List House}
theorem rimRow_len {o : House} : (rimRow z o).length = o.1.length + o.2.length + nparts z := by
  simp only [rimRow, List.length_append, List.length_map, parts_len]
theorem rim_row {k : Nat} (hk : k < os.length) : (lpRim h z os).rows.getD k [] = rimRow z os[k] := by
  show (os.map (rimRow z)).getD k [] = _
  rw [List.getD, List.getElem?_map, List.getElem?_eq_getElem hk]; rfl
theorem rim_lim {k : Nat} (hk : k < os.length) : (lpRim h z os).limits.getD k 0 = rimLim os[k] := by
  show (os.map rimLim).getD k 0 = _
  rw [List.getD, List.getElem?_map, List.getElem?_eq_getElem hk]; rfl
theorem rim_rows : (lpRim h z os).rows.length = os.length := by simp [lpRim]
theorem rim_col0 (L : Like h os) {o : House} (ho : o ∈ os) : (rimRow z o).getD 0 0 = 0 - o.1.getD 0 0 := by
  have m1 := L.m1
  have ol := (L.len o ho).1
  unfold rimRow
  rw [List.append_assoc, List.getD, List.getElem?_append_left (by rw [List.length_map]; omega), List.getElem?_map, List.getD, List.getElem?_eq_getElem (by omega)]; rfl
theorem rim_ok (L : Like h os) : (lpRim h z os).Ok where
  lm := by simp [lpRim]
  rw := fun r hr => by
    obtain ⟨o, ho, rfl⟩ := List.mem_map.mp (show r ∈ os.map (rimRow z) from hr)
    show _ = (rimRow z h).length
    rw [rimRow_len, rimRow_len, (L.len o ho).1, (L.len o ho).2]
  neg := fun k hk hn => by
    rw [rim_rows] at hk
    have hm := List.getElem_mem hk
    rw [rim_row hk, rim_col0 L hm]
    have := L.otk _ hm (os[k].1.getD 0 0) (mem_getD (by have := (L.len _ hm).1; have := L.m1; omega) 0)
    omega
  allneg := fun _ => by
    refine ⟨by show 0 < (rimRow z h).length; rw [rimRow_len]; have := L.m1; omega, fun k hk => ?_⟩
    rw [rim_rows] at hk
    have hm := List.getElem_mem hk
    rw [rim_row hk, rim_col0 L hm]
    have := L.otk _ hm (os[k].1.getD 0 0) (mem_getD (by have := (L.len _ hm).1; have := L.m1; omega) 0)
    omega
theorem dotQ_rim {o : House} {u v s : List Rat} (hu : u.length = o.1.length) (hv : v.length = o.2.length) (hs : s.length = nparts z) : dotQ (rimRow z o) (u ++ v ++ s) = -dotQ o.1 u + dotQ o.2 v + sizeOf z s := by
  unfold rimRow
  have e : o.1.map (fun x => 0 - x) = o.1.map (fun x => 0 - 1 * x) := List.map_congr_left fun x _ => by omega
  rw [dotQ_append (by simp only [List.length_append, List.length_map]; rw [hu, hv]), dotQ_append (by rw [List.length_map]; exact hu.symm), dotQ_parts z _ _ hs, e, dotQ_neg]
  simp
def rimPr (z : Sz) (u v s : List Rat) : Prices := (u.map (1 + ·), v.map (1 + ·), sizeOf z s)
theorem dotQ_1p : ∀ {ns : List Int} {u : List Rat}, u.length = ns.length → dotQ ns (u.map (1 + ·)) = ((ns.sum : Int) : Rat) + dotQ ns u
  | [], [], _ => by show (0 : Rat) = 0 + 0; grind
  | n :: ns, q :: u, hl => by
    rw [List.map_cons, dotQ_cons, dotQ_1p (ns := ns) (u := u) (by simpa using hl), dotQ_cons, List.sum_cons, Rat.intCast_add]
    grind
  | [], _ :: _, hl => by simp at hl
  | _ :: _, [], hl => by simp at hl
theorem rim_prices (L : Like h os) {u v s : List Rat} (hu : u.length = h.1.length) (hv : v.length = h.2.length) (hs : s.length = nparts z) (u0 : ∀ q ∈ u, 0 ≤ q) (v0 : ∀ q ∈ v, 0 ≤ q) (s0 : ∀ q ∈ s, 0 ≤ q)
    (hr : ∀ o ∈ os, dotQ (rimRow z o) (u ++ v ++ s) ≤ ((rimLim o : Int) : Rat)) :
    PricesOk os h.1.length h.2.length z (rimPr z u v s) ∧ (∀ q ∈ (rimPr z u v s).1 ++ (rimPr z u v s).2.1, 0 < q) := by
  have pos : ∀ {xs : List Rat}, (∀ q ∈ xs, 0 ≤ q) → ∀ q ∈ xs.map (1 + ·), 0 < q := fun hx q hq => by
    obtain ⟨y, hy, rfl⟩ := List.mem_map.mp hq
    have := hx y hy
    grind
  refine ⟨⟨by show (u.map _).length = _; rw [List.length_map, hu], by show (v.map _).length = _; rw [List.length_map, hv], fun q hq => Rat.le_of_lt (pos u0 q hq), fun q hq => Rat.le_of_lt (pos v0 q hq), sign_sizeOf z s hs s0, fun o ho => ?_⟩, fun q hq => ?_⟩
  · have h1 := hr o ho
    rw [dotQ_rim (by rw [hu, (L.len o ho).1]) (by rw [hv, (L.len o ho).2]) hs] at h1
    show dotQ o.2 (v.map (1 + ·)) + sizeOf z s ≤ dotQ o.1 (u.map (1 + ·))
    rw [dotQ_1p (by rw [hv, (L.len o ho).2]), dotQ_1p (by rw [hu, (L.len o ho).1])]
    unfold rimLim at h1
    rw [Rat.intCast_sub] at h1
    grind
  · rcases List.mem_append.mp hq with hq | hq
    · exact pos u0 q hq
    · exact pos v0 q hq
theorem rim_tight {u v s : List Rat} (hu : u.length = h.1.length) (hv : v.length = h.2.length) (hs : s.length = nparts z) (e : dotQ (rimRow z h) (u ++ v ++ s) = ((rimLim h : Int) : Rat)) : earnQ h (rimPr z u v s) = paidQ h (rimPr z u v s) := by
  rw [dotQ_rim hu hv hs] at e
  show dotQ h.2 (v.map (1 + ·)) + sizeOf z s = dotQ h.1 (u.map (1 + ·))
  rw [dotQ_1p hv, dotQ_1p hu]
  unfold rimLim at e
  rw [Rat.intCast_sub] at e
  grind
theorem rim_bounded (L : Like h os) (hh : h ∈ os) (U : LpUnb (lpRim h z os)) : False := by
  obtain ⟨x, _, _, hr, hgx⟩ := U.ex
  obtain ⟨k, hk, ek⟩ := List.getElem_of_mem hh
  have h1 := hr k (by rw [rim_rows]; exact hk)
  rw [rim_row hk, ek] at h1
  exact Rat.not_lt.mpr h1 hgx
theorem rim_colEq (j : Nat) : (lpRim h z os).rows.map (fun r => r.getD j 0) = os.map (fun o => (rimRow z o).getD j 0) := by
  show (os.map (rimRow z)).map _ = _
  rw [List.map_map]; rfl
theorem rimRow_take {o : House} {j : Nat} (hj : j < o.1.length) : (rimRow z o).getD j 0 = 0 - o.1.getD j 0 := by
  unfold rimRow
  rw [List.append_assoc, List.getD, List.getElem?_append_left (by rw [List.length_map]; exact hj), List.getElem?_map, List.getElem?_eq_getElem hj, List.getD, List.getElem?_eq_getElem hj]; rfl
theorem rimRow_give {o : House} {j : Nat} (hj : j < o.2.length) : (rimRow z o).getD (o.1.length + j) 0 = o.2.getD j 0 := by
  unfold rimRow
  rw [List.append_assoc, List.getD, List.getElem?_append_right (by rw [List.length_map]; omega), List.length_map, Nat.add_sub_cancel_left, List.getElem?_append_left hj]; rfl
theorem rimRow_size {o : House} {i : Nat} : (rimRow z o).getD (o.1.length + o.2.length + i) 0 = (parts z 1).getD i 0 := by
  unfold rimRow
  rw [List.getD, List.getElem?_append_right (by simp only [List.length_append, List.length_map]; omega)]
  simp only [List.length_append, List.length_map, Nat.add_sub_cancel_left]; rfl
theorem rim_mix (L : Like h os) {s : Rat} {x ys : List Rat} (O : LpOpt (lpRim h z os) s x ys) : MixDoes os h z ys 1 1 := by
  have ly : ys.length = os.length := O.ly.trans rim_rows
  have glen : (lpRim h z os).gains.length = h.1.length + h.2.length + nparts z := rimRow_len
  have col : ∀ j, j < (lpRim h z os).gains.length → (((rimRow z h).getD j 0 : Int) : Rat) ≤ dotQ (os.map fun o => (rimRow z o).getD j 0) ys := fun j hj => by
    have := O.dua j hj
    rw [rim_colEq] at this
    exact this
  have cong : ∀ {f g : House → Int}, (∀ o ∈ os, f o = g o) → os.map f = os.map g := fun hf => List.map_congr_left hf
  refine ⟨ly, O.y0, ?_, fun k hk => ?_, fun k hk => ?_⟩
  · have sz : ∀ i, i < nparts z → (((parts z 1).getD i 0 : Int) : Rat) ≤ (((parts z 1).getD i 0 : Int) : Rat) * sumQ ys := fun i hi => by
      have h1 := col (h.1.length + h.2.length + i) (by rw [glen]; omega)
      rw [rimRow_size, cong (g := fun _ => (parts z 1).getD i 0) fun o ho => by rw [← (L.len o ho).1, ← (L.len o ho).2]; exact rimRow_size, dotQ_const _ _ _ ly.symm] at h1
      exact h1
    have e1 : ((1 : Int) : Rat) = 1 := rfl
    have e2 : ((-1 : Int) : Rat) = -1 := rfl
    cases z with
    | any => trivial
    | one =>
      have a := sz 0 (by decide)
      have b := sz 1 (by decide)
      have a' : ((1 : Int) : Rat) ≤ ((1 : Int) : Rat) * sumQ ys := a
      have b' : ((-1 : Int) : Rat) ≤ ((-1 : Int) : Rat) * sumQ ys := b
      rw [e1] at a'
      rw [e2] at b'
      show sumQ ys = 1
      refine Rat.le_antisymm ?_ ?_ <;> grind
    | less =>
      have b' : ((-1 : Int) : Rat) ≤ ((-1 : Int) : Rat) * sumQ ys := sz 0 (by decide)
      rw [e2] at b'
      show sumQ ys ≤ 1
      grind
    | more =>
      have a' : ((1 : Int) : Rat) ≤ ((1 : Int) : Rat) * sumQ ys := sz 0 (by decide)
      rw [e1] at a'
      show 1 ≤ sumQ ys
      grind
  · have h1 := col k (by rw [glen]; omega)
    rw [rimRow_take hk, cong (g := fun o => 0 - 1 * o.1.getD k 0) fun o ho => by rw [rimRow_take (by rw [(L.len o ho).1]; exact hk)]; omega] at h1
    have e1 : (os.map fun o : House => 0 - 1 * o.1.getD k 0) = (os.map fun o : House => o.1.getD k 0).map (fun x => 0 - 1 * x) := by rw [List.map_map]; rfl
    have e5 : ((0 : Int) : Rat) = 0 := rfl
    have e6 : ((1 : Int) : Rat) = 1 := rfl
    rw [e1, dotQ_neg, Rat.intCast_sub, e5, e6] at h1
    grind
  · have h1 := col (h.1.length + k) (by rw [glen]; omega)
    rw [rimRow_give hk, cong (g := fun o => o.2.getD k 0) fun o ho => by rw [← (L.len o ho).1]; exact rimRow_give (by rw [(L.len o ho).2]; exact hk)] at h1
    grind
def Own1 (os : List House) (h : House) (M : List Rat) : Prop := (∀ k, k < h.1.length → takesQ os M k = ((h.1.getD k 0 : Int) : Rat)) ∧ ∀ k, k < h.2.length → givesQ os M k = ((h.2.getD k 0 : Int) : Rat)
theorem dotQ_ones : ∀ ns : List Int, dotQ ns (List.replicate ns.length 1) = ((ns.sum : Int) : Rat)
  | [] => rfl
  | n :: ns => by
    rw [List.length_cons, List.replicate_succ, dotQ_cons, dotQ_ones ns, List.sum_cons, Rat.intCast_add]; grind
theorem dotQ_wsum (f : House → Int) : ∀ (os : List House) (M : List Rat), dotQ (os.map f) M = wsum (fun o => ((f o : Int) : Rat)) os M
  | [], M => by rw [List.map_nil, dotQ_nil]; cases M <;> rfl
  | o :: os, [] => rfl
  | o :: os, q :: M => by
    rw [List.map_cons, dotQ_cons, dotQ_wsum f os M]
    show _ = q * ((f o : Int) : Rat) + _
    grind
theorem wsum_congr {f g : House → Rat} : ∀ {os : List House} {M : List Rat}, (∀ o ∈ os, f o = g o) → wsum f os M = wsum g os M
  | [], M, _ => by cases M <;> rfl
  | o :: os, [], _ => rfl
  | o :: os, q :: M, h => by
    show q * f o + wsum f os M = q * g o + wsum g os M
    rw [h o List.mem_cons_self, wsum_congr fun o ho => h o (List.mem_cons_of_mem _ ho)]
theorem own_sum (f : House → List Int) (h : House) {M : List Rat} (hl : ∀ o ∈ os, (f o).length = (f h).length) (e : ∀ k, k < (f h).length → dotQ (os.map fun o => (f o).getD k 0) M = (((f h).getD k 0 : Int) : Rat)) : dotQ (os.map fun o => (f o).sum) M = (((f h).sum : Int) : Rat) := by
  rw [dotQ_wsum, wsum_congr (g := fun o => dotQ (f o) (List.replicate (f h).length 1)) fun o ho => by rw [← hl o ho, dotQ_ones], wsum_swap f _ os M fun o ho => by rw [List.length_replicate]; exact hl o ho,
    ksum_congr (c' := fun k => (((f h).getD k 0 : Int) : Rat) * 1) fun k hk => by rw [e k (by simpa using hk)]; grind, ksum_dot 1 (f h) _ (by rw [List.length_replicate]), dotQ_ones]
  grind
theorem own_lim (L : Like h os) {M : List Rat} (e : Own1 os h M) : dotQ (os.map rimLim) M = ((rimLim h : Int) : Rat) := by
  have h1 := own_sum (fun o => o.1) h (fun o ho => (L.len o ho).1) e.1
  have h2 := own_sum (fun o => o.2) h (fun o ho => (L.len o ho).2) e.2
  have e1 : os.map rimLim = os.map fun o => o.1.sum * 1 - o.2.sum * 1 := List.map_congr_left fun o _ => by unfold rimLim; omega
  rw [e1, dotQ_lin, h1, h2]
  unfold rimLim
  rw [Rat.intCast_sub]
  have e6 : ((1 : Int) : Rat) = 1 := rfl
  rw [e6]; grind
theorem ksum_lt : ∀ {ps : List Rat} {c c' : Nat → Rat} {k : Nat}, (∀ q ∈ ps, 0 < q) → (∀ k, k < ps.length → c k ≤ c' k) → k < ps.length → c k < c' k → ksum ps c < ksum ps c'
  | p :: ps, c, c', 0, h0, hle, _, hlt => by
    show p * c 0 + ksum ps _ < p * c' 0 + ksum ps _
    have h1 := Rat.mul_lt_mul_of_pos_left hlt (h0 p List.mem_cons_self)
    have h2 := ksum_le (ps := ps) (c := fun k => c (k + 1)) (c' := fun k => c' (k + 1)) (fun q hq => Rat.le_of_lt (h0 q (List.mem_cons_of_mem _ hq))) fun k hk => hle (k + 1) (by simpa using hk)
    grind
  | p :: ps, c, c', k + 1, h0, hle, hk, hlt => by
    show p * c 0 + ksum ps _ < p * c' 0 + ksum ps _
    have h1 := Rat.mul_le_mul_of_nonneg_left (hle 0 (by simp)) (Rat.le_of_lt (h0 p List.mem_cons_self))
    have h2 := ksum_lt (ps := ps) (c := fun k => c (k + 1)) (c' := fun k => c' (k + 1)) (k := k) (fun q hq => h0 q (List.mem_cons_of_mem _ hq)) (fun k hk => hle (k + 1) (by simpa using hk)) (by simpa using hk) hlt
    grind
  | [], _, _, _, _, _, hk, _ => by simp at hk
def RimP (os : List House) (h : House) (z : Sz) : Prop := ∃ p : Prices, PricesOk os h.1.length h.2.length z p ∧ (∀ q ∈ p.1 ++ p.2.1, 0 < q) ∧ earnQ h p = paidQ h p
def BeatP (os : List House) (h : House) (z : Sz) : Prop := ∃ M, MixDoes os h z M 1 1 ∧ ¬ Own1 os h M
theorem rim_beat (hh : ∀ o ∈ os, o.1.length = h.1.length ∧ o.2.length = h.2.length) (a : RimP os h z) (b : BeatP os h z) : False := by
  obtain ⟨p, Q, pos, pe⟩ := a
  obtain ⟨M, D, no⟩ := b
  have p1 : ∀ q ∈ p.1, 0 < q := fun q hq => pos q (List.mem_append_left _ hq)
  have p2 : ∀ q ∈ p.2.1, 0 < q := fun q hq => pos q (List.mem_append_right _ hq)
  have a1 : wsum (fun o => earnQ o p) os M ≤ wsum (fun o => paidQ o p) os M := wsum_le D.nn Q.le
  have a2 : wsum (fun o => earnQ o p) os M = wsum (fun o => dotQ o.2 p.2.1) os M + p.2.2 * sumQ M := wsum_add _ _ D.len
  have a3 : wsum (fun o => dotQ o.2 p.2.1) os M = ksum p.2.1 fun k => dotQ (os.map fun o => o.2.getD k 0) M := wsum_swap (fun o => o.2) p.2.1 os M fun o ho => (hh o ho).2.trans Q.l2.symm
  have a4 : wsum (fun o => paidQ o p) os M = ksum p.1 fun k => dotQ (os.map fun o => o.1.getD k 0) M := wsum_swap (fun o => o.1) p.1 os M fun o ho => (hh o ho).1.trans Q.l1.symm
  have c5 : ∀ k, k < p.2.1.length → ((h.2.getD k 0 : Int) : Rat) * 1 ≤ dotQ (os.map fun o => o.2.getD k 0) M := fun k hk => D.gv k (by rw [← Q.l2]; exact hk)
  have c6 : ∀ k, k < p.1.length → dotQ (os.map fun o => o.1.getD k 0) M ≤ ((h.1.getD k 0 : Int) : Rat) * 1 := fun k hk => D.tk k (by rw [← Q.l1]; exact hk)
  have a5 : 1 * dotQ h.2 p.2.1 ≤ ksum p.2.1 fun k => dotQ (os.map fun o => o.2.getD k 0) M := by
    rw [← ksum_dot 1 h.2 p.2.1 Q.l2.symm]; exact ksum_le Q.n2 c5
  have a6 : (ksum p.1 fun k => dotQ (os.map fun o => o.1.getD k 0) M) ≤ 1 * paidQ h p := by
    unfold paidQ
    rw [← ksum_dot 1 h.1 p.1 Q.l1.symm]; exact ksum_le Q.n1 c6
  have a7 := size_le D.sz Q.sg
  have ee : earnQ h p = dotQ h.2 p.2.1 + p.2.2 := rfl
  refine no ⟨fun k hk => ?_, fun k hk => ?_⟩
  · refine Rat.le_antisymm (by have := D.tk k hk; unfold takesQ; grind) (Rat.not_lt.mp fun c => ?_)
    have : (ksum p.1 fun k => dotQ (os.map fun o => o.1.getD k 0) M) < 1 * paidQ h p := by
      unfold paidQ
      rw [← ksum_dot 1 h.1 p.1 Q.l1.symm]
      exact ksum_lt (k := k) p1 c6 (by rw [Q.l1]; exact hk) (by unfold takesQ at c; grind)
    grind
  · refine Rat.le_antisymm (Rat.not_lt.mp fun c => ?_) (by have := D.gv k hk; unfold givesQ; grind)
    have : 1 * dotQ h.2 p.2.1 < ksum p.2.1 fun k => dotQ (os.map fun o => o.2.getD k 0) M := by
      rw [← ksum_dot 1 h.2 p.2.1 Q.l2.symm]
      exact ksum_lt (k := k) p2 c5 (by rw [Q.l2]; exact hk) (by unfold givesQ at c; grind)
    grind
theorem sum_abs {B : Nat} : ∀ {xs : List Int}, (∀ x ∈ xs, x.natAbs ≤ B) → xs.sum.natAbs ≤ xs.length * B
  | [], _ => Nat.zero_le _
  | x :: xs, hx => by
    have h1 := hx x List.mem_cons_self
    have h2 := sum_abs (xs := xs) fun y hy => hx y (List.mem_cons_of_mem _ hy)
    rw [List.sum_cons, List.length_cons, Nat.succ_mul]
    omega
theorem rim_lps (L : Like h os) (hh : h ∈ os) (Ao : ∀ o ∈ os, Amt o) (hn : os.length ≤ 16) : LpS (lpRim h z os) (10 ^ 18) 1130 := by
  have np : nparts z ≤ 2 := by cases z <;> decide
  have rb : ∀ o ∈ os, ∀ x ∈ rimRow z o, x.natAbs ≤ 10 ^ 18 := fun o ho x hx => by
    have A := Ao o ho
    unfold rimRow at hx
    rcases List.mem_append.mp hx with hx | hx
    · rcases List.mem_append.mp hx with hx | hx
      · obtain ⟨y, hy, rfl⟩ := List.mem_map.mp hx
        have := A.tk y hy
        omega
      · have := A.gv x hx; omega
    · exact parts_abs (B := 10 ^ 18) (by decide) x hx
  have A := Ao h hh
  have m4 := A.m4
  have n4 := A.n4
  refine lps_mk (rim_ok L) (by rw [rim_rows]; omega) (by show (rimRow z h).length ≤ 40; rw [rimRow_len]; omega) (fun r hr => ?_) (fun x hx => ?_) (rb h hh)
  · obtain ⟨o, ho, rfl⟩ := List.mem_map.mp (show r ∈ os.map (rimRow z) from hr)
    exact rb o ho
  · obtain ⟨o, ho, rfl⟩ := List.mem_map.mp (show x ∈ os.map rimLim from hx)
    have A := Ao o ho
    have s1 := sum_abs A.tk
    have s2 := sum_abs A.gv
    have m4 := A.m4
    have n4 := A.n4
    have l1 : o.1.length * 10 ^ 9 ≤ 4 * 10 ^ 9 := Nat.mul_le_mul_right _ m4
    have l2 : o.2.length * 10 ^ 9 ≤ 4 * 10 ^ 9 := Nat.mul_le_mul_right _ n4
    unfold rimLim
    omega
structure RimOut (os : List House) (h : House) (z : Sz) (p : Prices) : Prop where
  prc : PricesOk os h.1.length h.2.length z p
  pos : ∀ q ∈ p.1 ++ p.2.1, 0 < q
  eq : earnQ h p = paidQ h p
  bp : ∃ D X, PrOk D X 1171 p
structure BeatOut (os : List House) (h : House) (z : Sz) (M : List Rat) : Prop where
  mix : MixDoes os h z M 1 1
  no : ¬ Own1 os h M
  bm : ∃ D X, D ≠ 0 ∧ D < 2 ^ 1171 ∧ X < 2 ^ 1171 ∧ ∀ q ∈ M, Cd D X q
theorem RimOut.is {p : Prices} (O : RimOut os h z p) : RimP os h z := ⟨p, O.prc, O.pos, O.eq⟩
theorem BeatOut.is {M : List Rat} (O : BeatOut os h z M) : BeatP os h z := ⟨M, O.mix, O.no⟩
theorem rim_prok {d X : Nat} {u v s : List Rat} (hs : s.length = nparts z) (d0 : d ≠ 0) (hd' : d < 2 ^ 1130) (hX : X < 2 ^ 1130) (cu : ∀ q ∈ u, Cd d X q) (cv : ∀ q ∈ v, Cd d X q) (cs : ∀ q ∈ s, Cd d X q) : ∃ D M, PrOk D M 1171 (rimPr z u v s) := by
  have e2 : (2 : Nat) ^ 1171 = 2 ^ 41 * 2 ^ 1130 := by rw [← Nat.pow_add]
  have up : ∀ {xs : List Rat}, (∀ q ∈ xs, Cd d X q) → ∀ q ∈ xs.map (1 + ·), Cd d (d + 2 * X) q := fun hx q hq => by
    obtain ⟨y, hy, rfl⟩ := List.mem_map.mp hq
    exact ((Cd.one d0).add (hx y hy)).le (by omega)
  exact ⟨d, d + 2 * X, ⟨d0, up cu, up cv, (sizeOf_cd (z := z) d0 cs hs).le (by omega), by omega, by omega, by decide, by decide⟩⟩
end
end Rk
namespace Rk
open PySem PySem.Spec PyProof.Rows L2
def wm (M : List Rat) (k : Nat) : List Rat := M.take k ++ M.drop (k + 1)
def mixA (c : Rat) (xs ys : List Rat) : List Rat := List.zipWith (fun x y => x + c * y) xs ys
theorem dot_mixA (c : Rat) : ∀ (ns : List Int) (xs ys : List Rat), xs.length = ys.length → dotQ ns (mixA c xs ys) = dotQ ns xs + c * dotQ ns ys
  | [], xs, ys, _ => by rw [dotQ_nil, dotQ_nil, dotQ_nil]; grind
  | n :: ns, [], [], _ => by show (0 : Rat) = 0 + c * 0; grind
  | n :: ns, x :: xs, y :: ys, hl => by
    have ih := dot_mixA c ns xs ys (by simpa using hl)
    show (n : Rat) * (x + c * y) + dotQ ns (mixA c xs ys) = ((n : Rat) * x + dotQ ns xs) + c * ((n : Rat) * y + dotQ ns ys)
    rw [ih]; grind
  | _ :: _, [], _ :: _, hl => by simp at hl
  | _ :: _, _ :: _, [], hl => by simp at hl
theorem sum_mixA (c : Rat) : ∀ (xs ys : List Rat), xs.length = ys.length → sumQ (mixA c xs ys) = sumQ xs + c * sumQ ys
  | [], [], _ => by show (0 : Rat) = 0 + c * 0; grind
  | x :: xs, y :: ys, hl => by
    have ih := sum_mixA c xs ys (by simpa using hl)
    show (x + c * y) + sumQ (mixA c xs ys) = (x + sumQ xs) + c * (y + sumQ ys)
    rw [ih]; grind
  | [], _ :: _, hl => by simp at hl
  | _ :: _, [], hl => by simp at hl
theorem mixA_nn {c : Rat} (c0 : 0 ≤ c) : ∀ {xs ys : List Rat}, (∀ q ∈ xs, 0 ≤ q) → (∀ q ∈ ys, 0 ≤ q) → ∀ q ∈ mixA c xs ys, 0 ≤ q
  | [], _, _, _, q, hq => by simp [mixA] at hq
  | _ :: _, [], _, _, q, hq => by simp [mixA] at hq
  | x :: xs, y :: ys, hx, hy, q, hq => by
    rcases List.mem_cons.mp (show q ∈ (x + c * y) :: mixA c xs ys from hq) with rfl | hq
    · have h1 := hx x List.mem_cons_self
      have h2 := Rat.mul_nonneg c0 (hy y List.mem_cons_self)
      exact Rat.add_nonneg h1 h2
    · exact mixA_nn c0 (fun q h => hx q (List.mem_cons_of_mem _ h)) (fun q h => hy q (List.mem_cons_of_mem _ h)) q hq
theorem PricesOk.sub {os os' : List House} {m n : Nat} {z : Sz} {p : Prices} (P : PricesOk os m n z p) (s : ∀ o ∈ os', o ∈ os) : PricesOk os' m n z p := ⟨P.l1, P.l2, P.n1, P.n2, P.sg, fun o ho => P.le o (s o ho)⟩
end Rk
namespace Rk
open PySem PySem.Spec PyProof.Rows L2
theorem max_ex {α : Type} (f : α → Rat) : ∀ {xs : List α}, xs ≠ [] → ∃ x ∈ xs, ∀ y ∈ xs, f y ≤ f x
  | [], h => absurd rfl h
  | [x], _ => ⟨x, List.mem_cons_self, fun y hy => by rw [List.mem_singleton.mp hy]; exact Rat.le_refl⟩
  | x :: x' :: xs, _ => by
    obtain ⟨m, hm, hx⟩ := max_ex f (xs := x' :: xs) (by simp)
    by_cases c : f m ≤ f x
    · refine ⟨x, List.mem_cons_self, fun y hy => ?_⟩
      rcases List.mem_cons.mp hy with rfl | hy
      · exact Rat.le_refl
      · exact Rat.le_trans (hx y hy) c
    · refine ⟨m, List.mem_cons_of_mem _ hm, fun y hy => ?_⟩
      rcases List.mem_cons.mp hy with rfl | hy
      · exact Rat.le_of_lt (Rat.not_le.mp c)
      · exact hx y hy
theorem dotQ_rep (c : Rat) : ∀ ns : List Int, dotQ ns (List.replicate ns.length c) = c * ((ns.sum : Int) : Rat)
  | [] => by show (0 : Rat) = c * ((0 : Int) : Rat); have e : ((0 : Int) : Rat) = 0 := rfl; rw [e]; grind
  | n :: ns => by
    rw [List.length_cons, List.replicate_succ, dotQ_cons, dotQ_rep c ns, List.sum_cons, Rat.intCast_add]; grind
theorem sum_ge {c : Int} (c0 : 0 ≤ c) : ∀ {xs : List Int}, (∀ x ∈ xs, 0 ≤ x) → (∃ x ∈ xs, c ≤ x) → c ≤ xs.sum
  | [], _, ⟨x, hx, _⟩ => nomatch hx
  | y :: ys, h0, ⟨x, hx, hc⟩ => by
    rw [List.sum_cons]
    have hy := h0 y List.mem_cons_self
    have hs : ∀ {zs : List Int}, (∀ z ∈ zs, 0 ≤ z) → 0 ≤ zs.sum := fun {zs} hz => by
      induction zs with
      | nil => exact Int.le_refl _
      | cons a as ih =>
        rw [List.sum_cons]
        have := hz a List.mem_cons_self
        have := ih fun z h => hz z (List.mem_cons_of_mem _ h)
        omega
    have h1 := hs fun z h => h0 z (List.mem_cons_of_mem _ h)
    rcases List.mem_cons.mp hx with rfl | hx
    · omega
    · have := sum_ge c0 (fun z h => h0 z (List.mem_cons_of_mem _ h)) ⟨x, hx, hc⟩
      omega
theorem rim_ne {b : List House} (G : GBk b) (z : Sz) : ∃ k, k < b.length ∧ RimP b (b.getD k ([], [])) z := by
  obtain ⟨m, n, m1, _, n1, _, hmn⟩ := G.hs
  obtain ⟨h, hh, mx⟩ := max_ex (fun o : House => ((o.2.sum : Int) : Rat) / ((o.1.sum : Int) : Rat)) G.ne
  obtain ⟨k, hk, ek⟩ := List.getElem_of_mem hh
  have eg : b.getD k ([], []) = h := by rw [List.getD, List.getElem?_eq_getElem hk, ← ek]; rfl
  refine ⟨k, hk, ?_⟩
  rw [eg]
  have tp : ∀ o ∈ b, (0 : Rat) < ((o.1.sum : Int) : Rat) := fun o ho => by
    obtain ⟨g, e1, _⟩ := hmn o ho
    have : 1 ≤ o.1.sum := sum_ge (by decide) (fun x hx => by have := (g.tk x hx).1; omega) ⟨_, mem_getD (xs := o.1) (k := 0) (by omega) 0, (g.tk _ (mem_getD (by omega) 0)).1⟩
    have : ((1 : Int) : Rat) ≤ ((o.1.sum : Int) : Rat) := Rat.intCast_le_intCast.mpr this
    have e : ((1 : Int) : Rat) = 1 := rfl
    rw [e] at this; grind
  have gp : (0 : Rat) < ((h.2.sum : Int) : Rat) := by
    obtain ⟨g, _, _⟩ := hmn h hh
    obtain ⟨x, hx, x0⟩ := g.ps
    have : 1 ≤ h.2.sum := sum_ge (by decide) (fun x hx => (g.gv x hx).1) ⟨x, hx, by omega⟩
    have : ((1 : Int) : Rat) ≤ ((h.2.sum : Int) : Rat) := Rat.intCast_le_intCast.mpr this
    have e : ((1 : Int) : Rat) = 1 := rfl
    rw [e] at this; grind
  have lp : (0 : Rat) < ((h.2.sum : Int) : Rat) / ((h.1.sum : Int) : Rat) := by
    rw [Rat.div_def]; exact Rat.mul_pos gp (Rat.inv_pos.mpr (tp h hh))
  have lm : ((h.2.sum : Int) : Rat) / ((h.1.sum : Int) : Rat) * ((h.1.sum : Int) : Rat) = ((h.2.sum : Int) : Rat) := by
    have := tp h hh
    grind
  generalize ((h.2.sum : Int) : Rat) / ((h.1.sum : Int) : Rat) = lam at mx lp lm
  have le : ∀ o ∈ b, ((o.2.sum : Int) : Rat) ≤ lam * ((o.1.sum : Int) : Rat) := fun o ho => by
    have h1 := Rat.mul_le_mul_of_nonneg_left (mx o ho) (Rat.le_of_lt (tp o ho))
    have t := tp o ho
    have e : ((o.1.sum : Int) : Rat) * (((o.2.sum : Int) : Rat) / ((o.1.sum : Int) : Rat)) = ((o.2.sum : Int) : Rat) := by grind
    rw [e] at h1
    grind
  have ea : ∀ o ∈ b, earnQ o (List.replicate m lam, List.replicate n 1, 0) = ((o.2.sum : Int) : Rat) := fun o ho => by
    show dotQ o.2 (List.replicate n 1) + 0 = _
    rw [← (hmn o ho).2.2, dotQ_rep]; grind
  have pa : ∀ o ∈ b, paidQ o (List.replicate m lam, List.replicate n 1, 0) = lam * ((o.1.sum : Int) : Rat) := fun o ho => by
    show dotQ o.1 (List.replicate m lam) = _
    rw [← (hmn o ho).2.1, dotQ_rep]
  have pos : ∀ q ∈ List.replicate m lam ++ List.replicate n (1 : Rat), 0 < q := fun q hq => by
    rcases List.mem_append.mp hq with hq | hq
    · rw [(List.mem_replicate.mp hq).2]; exact lp
    · rw [(List.mem_replicate.mp hq).2]; decide
  refine ⟨(List.replicate m lam, List.replicate n 1, 0), ⟨by rw [(hmn h hh).2.1]; exact List.length_replicate, by rw [(hmn h hh).2.2]; exact List.length_replicate, fun q hq => Rat.le_of_lt (pos q (List.mem_append_left _ hq)), fun q hq => Rat.le_of_lt (pos q (List.mem_append_right _ hq)), ?_, fun o ho => ?_⟩, pos, ?_⟩
  · cases z with
    | any => rfl
    | one => trivial
    | less => exact Rat.le_refl
    | more => exact Rat.le_refl
  · rw [ea o ho, pa o ho]; exact le o ho
  · rw [ea h hh, pa h hh]; exact lm.symm
end Rk
namespace Rk
open PySem PySem.Spec PyProof.Rows L2
theorem lp_ends {L : Sx.Lp} (O : L.Ok) : (∃ s x y, LpOpt L s x y) ∨ LpUnb L := by
  obtain ⟨fl, hf, G0⟩ := Sx.good_begun O
  have main : ∀ (n : Nat) (t : Sx.Tab), Sx.Good (Sx.probOf L O fl hf) t → Sx.leftOf (Sx.probOf L O fl hf) t = n → (∃ s x y, LpOpt L s x y) ∨ LpUnb L := by
    intro n
    induction n using Nat.strongRecOn with
    | _ n ih =>
      intro t G e
      cases ee : Sx.enterL t (L.gains.length + L.rows.length) L.rows.length with
      | nil => exact .inl ⟨_, _, _, good_opt G (Sx.enter_nil ee)⟩
      | cons c r =>
        obtain ⟨c1, c2, c3⟩ := Sx.enter_cons ee
        have ls := Sx.leave_spec t (L.gains.length + L.rows.length) c L.rows.length
        cases el : Sx.leaveM t (L.gains.length + L.rows.length) c L.rows.length with
        | none => rw [el] at ls; exact .inr (good_unb G c1 c2 ls)
        | some g =>
          have en : Sx.nextM (Sx.probOf L O fl hf) t = some (Sx.turnM t g c) := by
            unfold Sx.nextM
            have e1 : Sx.enterL t (Sx.probOf L O fl hf).N (Sx.probOf L O fl hf).m = c :: r := ee
            have e2 : Sx.leaveM t (Sx.probOf L O fl hf).N c (Sx.probOf L O fl hf).m = some g := el
            rw [e1]
            simp only
            rw [e2]
          have lt := Sx.leftOf_next G en
          exact ih _ (by omega) _ (G.step en).1 rfl
  exact main _ _ G0 rfl
section
variable {h : House} {z : Sz} {os : List House}
theorem shr_ends (L : Like h os) (z : Sz) : (∃ s, ShrIs os h z s) ∨ NoShr os h z := by
  rcases lp_ends (shr_ok (z := z) L) with ⟨best, x, y, O⟩ | U
  · refine .inl ⟨best, ?_⟩
    obtain ⟨ex, hu, hv, hs⟩ := split3 x _ _ _ (O.lx.trans glen)
    have ly : y.length = os.length + 1 := O.ly.trans shr_rows
    have ey : y = y.take os.length ++ [y[os.length]] := by
      have := List.take_append_drop os.length y
      rw [List.drop_eq_getElem_cons (by omega), List.drop_of_length_le (by omega)] at this
      exact this.symm
    have hM := O
    rw [ey] at hM
    generalize x.take h.2.length = u at ex hu
    generalize (x.drop h.2.length).take (h.1.length - 1) = v at ex hv
    generalize x.drop (h.2.length + (h.1.length - 1)) = s at ex hs
    have hp := O.pri
    rw [ex] at hp
    have hpl := hp os.length (by rw [shr_rows]; omega)
    rw [shr_last, shr_limL] at hpl
    obtain ⟨P1, P2, P3⟩ := shr_prices (z := z) L hu hv hs (fun q hq => O.x0 q (by rw [ex]; simp [hq])) (fun q hq => O.x0 q (by rw [ex]; simp [hq])) (fun q hq => O.x0 q (by rw [ex]; simp [hq])) (fun o ho => by
      obtain ⟨k, hk, rfl⟩ := List.getElem_of_mem ho
      have := hp k (by rw [shr_rows]; omega)
      rw [shr_row hk, shr_lim hk] at this
      exact this) hpl
    have hg := O.gx
    rw [ex, dotQ_gain hu hv hs] at hg
    exact ⟨⟨_, shr_mix L hM⟩, _, P1, P2, P3.trans hg⟩
  · exact .inr (unb_noshr L U)
theorem gro_ends (L : Like h os) (hh : h ∈ os) (hp : ∃ x ∈ h.2, 0 < x) (z : Sz) : ∃ s, GroIs os h z s := by
  obtain ⟨x0, hx0, p0⟩ := hp
  obtain ⟨t, ht, rfl⟩ := List.getElem_of_mem hx0
  have hg : 0 < gh h t := by show 0 < h.2.getD t 0; rw [List.getD, List.getElem?_eq_getElem ht]; exact p0
  rcases lp_ends (gro_ok (z := z) L hg) with ⟨best, x, y, O⟩ | U
  · refine ⟨-best, ?_⟩
    obtain ⟨ex, hu, hv, hs⟩ := split3 x _ _ _ (O.lx.trans gro_glen)
    have ly : y.length = os.length + 1 := O.ly.trans gro_rows
    have ey : y = y.take os.length ++ [y[os.length]] := by
      have := List.take_append_drop os.length y
      rw [List.drop_eq_getElem_cons (by omega), List.drop_of_length_le (by omega)] at this
      exact this.symm
    have hM := O
    rw [ey] at hM
    generalize x.take h.1.length = u at ex hu
    generalize (x.drop h.1.length).take (h.2.length - 1) = v at ex hv
    generalize x.drop (h.1.length + (h.2.length - 1)) = s at ex hs
    have hp := O.pri
    rw [ex] at hp
    have hpl := hp os.length (by rw [gro_rows]; omega)
    rw [gro_last, gro_limL] at hpl
    obtain ⟨P1, P2, P3⟩ := gro_prices (z := z) L ht hg hu hv hs (fun q hq => O.x0 q (by rw [ex]; simp [hq])) (fun q hq => O.x0 q (by rw [ex]; simp [hq])) (fun q hq => O.x0 q (by rw [ex]; simp [hq])) (fun o ho => by
      obtain ⟨k, hk, rfl⟩ := List.getElem_of_mem ho
      have := hp k (by rw [gro_rows]; omega)
      rw [gro_row hk, gro_lim hk] at this
      exact this) hpl
    have hgx := O.gx
    rw [ex, gro_dotGain hu hv hs] at hgx
    exact ⟨⟨_, gro_mix L ht hg hM⟩, _, P1, P2, by rw [P3, ← hgx]; grind⟩
  · exact (gro_bounded L hg hh U).elim
theorem rim_ends (L : Like h os) (hh : h ∈ os) (z : Sz) : RimP os h z ∨ BeatP os h z := by
  rcases lp_ends (rim_ok (z := z) L) with ⟨best, x, y, O⟩ | U
  · by_cases e : best = ((rimLim h : Int) : Rat)
    · have lx : x.length = h.1.length + h.2.length + nparts z := O.lx.trans rimRow_len
      obtain ⟨ex, hu, hv, hs⟩ := split3 x _ _ _ lx
      generalize x.take h.1.length = u at ex hu
      generalize (x.drop h.1.length).take h.2.length = v at ex hv
      generalize x.drop (h.1.length + h.2.length) = s at ex hs
      have u0 : ∀ q ∈ u, 0 ≤ q := fun q hq => O.x0 q (by rw [ex]; simp [hq])
      have v0 : ∀ q ∈ v, 0 ≤ q := fun q hq => O.x0 q (by rw [ex]; simp [hq])
      have s0 : ∀ q ∈ s, 0 ≤ q := fun q hq => O.x0 q (by rw [ex]; simp [hq])
      have hp := O.pri
      rw [ex] at hp
      obtain ⟨P1, P2⟩ := rim_prices (z := z) L hu hv hs u0 v0 s0 (fun o ho => by
        obtain ⟨k, hk, rfl⟩ := List.getElem_of_mem ho
        have := hp k (by rw [rim_rows]; exact hk)
        rw [rim_row hk, rim_lim hk] at this
        exact this)
      have hgx := O.gx
      rw [ex, e] at hgx
      exact .inl ⟨_, P1, P2, rim_tight hu hv hs hgx⟩
    · exact .inr ⟨y, rim_mix L O, fun ow => e (O.gy.symm.trans (own_lim L ow))⟩
  · exact (rim_bounded L hh U).elim
def Can (os : List House) (h : House) (z : Sz) (t : Rat) : Prop := ∃ M, MixDoes os h z M t 1
def GCan (os : List House) (h : House) (z : Sz) (t : Rat) : Prop := ∃ M, MixDoes os h z M 1 t
open Classical in
noncomputable def othV (os : List House) (h : House) (z : Sz) : Option Rat := if e : ∃ s, ShrIs os h z s then some e.choose else none
open Classical in
noncomputable def groV (os : List House) (h : House) (z : Sz) : Rat := if e : ∃ s, GroIs os h z s then e.choose else 0
theorem othV_is {s : Rat} (e : othV os h z = some s) : ShrIs os h z s := by
  unfold othV at e
  split at e
  · rename_i c
    cases e; exact c.choose_spec
  · cases e
theorem othV_eq {s : Rat} (L : Like h os) (S : ShrIs os h z s) : othV os h z = some s := by
  have c : ∃ s, ShrIs os h z s := ⟨s, S⟩
  have e : othV os h z = some c.choose := dif_pos c
  rw [e, shr_unique L.len c.choose_spec S]
theorem othV_no (L : Like h os) (N : NoShr os h z) : othV os h z = none := by
  refine dif_neg fun ⟨s, ⟨M, D⟩, _⟩ => noshr_mix N L.len D
theorem othV_nos (L : Like h os) (e : othV os h z = none) : NoShr os h z := by
  rcases shr_ends L z with ⟨s, S⟩ | N
  · rw [othV_eq L S] at e; cases e
  · exact N
theorem othV_min {s : Rat} (L : Like h os) (e : othV os h z = some s) : Can os h z s ∧ ∀ t, Can os h z t → s ≤ t := by
  obtain ⟨a, p, P, p1, pe⟩ := othV_is e
  refine ⟨a, fun t ⟨M, D⟩ => ?_⟩
  have := weak D P L.len
  rw [p1] at this
  have e' : earnQ h p = dotQ h.2 p.2.1 + p.2.2 := rfl
  grind
theorem othV_can {t : Rat} (L : Like h os) (c : Can os h z t) : ∃ s, othV os h z = some s ∧ s ≤ t := by
  cases e : othV os h z with
  | none => exact (noshr_mix (othV_nos L e) L.len c.choose_spec).elim
  | some s => exact ⟨s, rfl, (othV_min L e).2 t c⟩
theorem groV_eq {s : Rat} (L : Like h os) (S : GroIs os h z s) : groV os h z = s := by
  have c : ∃ s, GroIs os h z s := ⟨s, S⟩
  have e : groV os h z = c.choose := dif_pos c
  rw [e, gro_unique L.len c.choose_spec S]
theorem groV_is (L : Like h os) (hh : h ∈ os) (hp : ∃ x ∈ h.2, 0 < x) : GroIs os h z (groV os h z) := by
  obtain ⟨s, S⟩ := gro_ends L hh hp z
  rw [groV_eq L S]; exact S
theorem groV_max (L : Like h os) (hh : h ∈ os) (hp : ∃ x ∈ h.2, 0 < x) : GCan os h z (groV os h z) ∧ ∀ t, GCan os h z t → t ≤ groV os h z := by
  obtain ⟨a, p, P, p1, pe⟩ := groV_is (z := z) L hh hp
  refine ⟨a, fun t ⟨M, D⟩ => ?_⟩
  have := weak D P L.len
  rw [p1] at this
  grind
def leO : Option Rat → Option Rat → Prop
  | _, none => True
  | none, some _ => False
  | some x, some y => x ≤ y
theorem leO_antisymm {a b : Option Rat} (h1 : leO a b) (h2 : leO b a) : a = b := by
  cases a <;> cases b <;> simp_all [leO]
  exact Rat.le_antisymm h1 h2
theorem othV_le {os' : List House} {h' : House} {z' : Sz} (L : Like h os) (L' : Like h' os') (H : ∀ t, Can os' h' z' t → Can os h z t) : leO (othV os h z) (othV os' h' z') := by
  cases e : othV os' h' z' with
  | none => cases othV os h z <;> trivial
  | some s =>
    obtain ⟨s', e', le⟩ := othV_can L (H s (othV_min L' e).1)
    rw [e']; exact le
theorem othV_congr {os' : List House} {h' : House} {z' : Sz} (L : Like h os) (L' : Like h' os') (H : ∀ t, Can os h z t ↔ Can os' h' z' t) : othV os h z = othV os' h' z' :=
  leO_antisymm (othV_le L L' fun t => (H t).mpr) (othV_le L' L fun t => (H t).mp)
end
def sizeRel : Sz → Rat → Rat → Prop
  | .any, _, _ => True
  | .one, a, b => a = b
  | .less, a, b => a ≤ b
  | .more, a, b => b ≤ a
theorem sizeRel_rfl {z : Sz} {a : Rat} : sizeRel z a a := by cases z <;> simp [sizeRel]
theorem sizeRel_trans {z : Sz} {a b c : Rat} (h1 : sizeRel z a b) (h2 : sizeRel z b c) : sizeRel z a c := by
  cases z <;> simp only [sizeRel] at * <;> grind
theorem sizeRel_lin {z : Sz} {a b a' b' c : Rat} (c0 : 0 ≤ c) (h1 : sizeRel z a b) (h2 : sizeRel z a' b') : sizeRel z (a + c * a') (b + c * b') := by
  cases z with
  | any => trivial
  | one => simp only [sizeRel] at *; rw [h1, h2]
  | less =>
    simp only [sizeRel] at *
    have := Rat.mul_le_mul_of_nonneg_left h2 c0
    grind
  | more =>
    simp only [sizeRel] at *
    have := Rat.mul_le_mul_of_nonneg_left h2 c0
    grind
theorem sizeRel_one {z : Sz} {a : Rat} : sizeRel z a 1 ↔ sizeOk z a := by cases z <;> rfl
def InH (os : List House) (z : Sz) (m n : Nat) (σ : Rat) (T G : Nat → Rat) : Prop :=
  ∃ M : List Rat, M.length = os.length ∧ (∀ q ∈ M, 0 ≤ q) ∧ sizeRel z (sumQ M) σ ∧ (∀ k, k < m → takesQ os M k ≤ T k) ∧ ∀ k, k < n → G k ≤ givesQ os M k
abbrev tkF (o : House) (k : Nat) : Rat := ((o.1.getD k 0 : Int) : Rat)
abbrev gvF (o : House) (k : Nat) : Rat := ((o.2.getD k 0 : Int) : Rat)
section
variable {os os' : List House} {z : Sz} {m n : Nat} {σ σ' : Rat} {T G T' G' : Nat → Rat} {h : House}
theorem mix_inH {tb gb : Rat} : (∃ M, MixDoes os h z M tb gb) ↔ InH os z h.1.length h.2.length 1 (fun k => tkF h k * tb) (fun k => gvF h k * gb) := by
  constructor
  · rintro ⟨M, D⟩
    exact ⟨M, D.len, D.nn, sizeRel_one.mpr D.sz, D.tk, D.gv⟩
  · rintro ⟨M, h1, h2, h3, h4, h5⟩
    exact ⟨M, h1, h2, sizeRel_one.mp h3, h4, h5⟩
theorem InH.weak (a : InH os z m n σ T G) (hs : sizeRel z σ σ') (ht : ∀ k, k < m → T k ≤ T' k) (hg : ∀ k, k < n → G' k ≤ G k) : InH os z m n σ' T' G' := by
  obtain ⟨M, h1, h2, h3, h4, h5⟩ := a
  exact ⟨M, h1, h2, sizeRel_trans h3 hs, fun k hk => Rat.le_trans (h4 k hk) (ht k hk), fun k hk => Rat.le_trans (hg k hk) (h5 k hk)⟩
theorem InH.lin {c : Rat} (c0 : 0 ≤ c) (a : InH os z m n σ T G) (b : InH os z m n σ' T' G') : InH os z m n (σ + c * σ') (fun k => T k + c * T' k) (fun k => G k + c * G' k) := by
  obtain ⟨M, h1, h2, h3, h4, h5⟩ := a
  obtain ⟨K, k1, k2, k3, k4, k5⟩ := b
  have l : M.length = K.length := h1.trans k1.symm
  refine ⟨mixA c M K, by unfold mixA; rw [List.length_zipWith, l, Nat.min_self]; exact k1, mixA_nn c0 h2 k2, ?_, fun k hk => ?_, fun k hk => ?_⟩
  · rw [sum_mixA _ _ _ l]; exact sizeRel_lin c0 h3 k3
  · unfold takesQ
    rw [dot_mixA _ _ _ _ l]
    have e1 := h4 k hk
    have e2 := Rat.mul_le_mul_of_nonneg_left (k4 k hk) c0
    unfold takesQ at e1 e2
    grind
  · unfold givesQ
    rw [dot_mixA _ _ _ _ l]
    have e1 := h5 k hk
    have e2 := Rat.mul_le_mul_of_nonneg_left (k5 k hk) c0
    unfold givesQ at e1 e2
    grind
theorem sumQ_zero : ∀ n : Nat, sumQ (List.replicate n 0) = 0
  | 0 => rfl
  | n + 1 => by rw [List.replicate_succ]; show 0 + sumQ _ = 0; rw [sumQ_zero n]; grind
theorem dotQ_zeros (ns : List Int) (n : Nat) : dotQ ns (List.replicate n 0) = 0 := dotQ_allz fun q hq => (List.mem_replicate.mp hq).2
theorem inH_zero : InH os z m n 0 (fun _ => 0) (fun _ => 0) :=
  ⟨List.replicate os.length 0, List.length_replicate, fun q hq => by rw [(List.mem_replicate.mp hq).2]; exact Rat.le_refl, by rw [sumQ_zero]; exact sizeRel_rfl, fun k _ => by unfold takesQ; rw [dotQ_zeros]; exact Rat.le_refl, fun k _ => by unfold givesQ; rw [dotQ_zeros]; exact Rat.le_refl⟩
theorem InH.mul {c : Rat} (c0 : 0 ≤ c) (a : InH os z m n σ T G) : InH os z m n (c * σ) (fun k => c * T k) (fun k => c * G k) := by
  have := InH.lin c0 inH_zero a
  have e : 0 + c * σ = c * σ := by grind
  rw [e] at this
  exact this.weak sizeRel_rfl (fun k _ => by grind) (fun k _ => by grind)
theorem InH.add (a : InH os z m n σ T G) (b : InH os z m n σ' T' G') : InH os z m n (σ + σ') (fun k => T k + T' k) (fun k => G k + G' k) := by
  have := InH.lin (c := 1) (by decide) a b
  have e : σ + 1 * σ' = σ + σ' := by grind
  rw [e] at this
  exact this.weak sizeRel_rfl (fun k _ => by grind) (fun k _ => by grind)
theorem inH_cons {o : House} (a : InH os z m n σ T G) : InH (o :: os) z m n σ T G := by
  obtain ⟨M, h1, h2, h3, h4, h5⟩ := a
  refine ⟨0 :: M, by rw [List.length_cons, List.length_cons, h1], fun q hq => ?_, ?_, fun k hk => ?_, fun k hk => ?_⟩
  · rcases List.mem_cons.mp hq with rfl | hq
    · exact Rat.le_refl
    · exact h2 q hq
  · have : sumQ (0 :: M) = sumQ M := by show 0 + sumQ M = sumQ M; grind
    rw [this]; exact h3
  · have e := h4 k hk
    unfold takesQ at *
    rw [List.map_cons, dotQ_cons]; grind
  · have e := h5 k hk
    unfold givesQ at *
    rw [List.map_cons, dotQ_cons]; grind
theorem inH_self {o : House} : ∀ {os : List House}, o ∈ os → InH os z m n 1 (tkF o) (gvF o)
  | x :: os, h => by
    rcases List.mem_cons.mp h with rfl | h
    · refine ⟨1 :: List.replicate os.length 0, by rw [List.length_cons, List.length_cons, List.length_replicate], fun q hq => ?_, ?_, fun k hk => ?_, fun k hk => ?_⟩
      · rcases List.mem_cons.mp hq with rfl | hq
        · decide
        · rw [(List.mem_replicate.mp hq).2]; exact Rat.le_refl
      · have : sumQ (1 :: List.replicate os.length 0) = 1 := by show 1 + sumQ _ = 1; rw [sumQ_zero]; grind
        rw [this]; exact sizeRel_rfl
      · unfold takesQ
        rw [List.map_cons, dotQ_cons, dotQ_zeros]; grind
      · unfold givesQ
        rw [List.map_cons, dotQ_cons, dotQ_zeros]; grind
    · exact inH_cons (inH_self h)
theorem inH_comb : ∀ {os : List House} {M : List Rat}, M.length = os.length → (∀ q ∈ M, 0 ≤ q) → (∀ o ∈ os, InH os' z m n 1 (tkF o) (gvF o)) → InH os' z m n (sumQ M) (takesQ os M) (givesQ os M)
  | [], [], _, _, _ => inH_zero.weak sizeRel_rfl (fun k _ => Rat.le_refl) (fun k _ => Rat.le_refl)
  | o :: os, q :: M, hl, h0, H => by
    have ih := inH_comb (os := os) (M := M) (by simpa using hl) (fun q hq => h0 q (List.mem_cons_of_mem _ hq)) (fun o ho => H o (List.mem_cons_of_mem _ ho))
    have := InH.lin (h0 q List.mem_cons_self) ih (H o List.mem_cons_self)
    have e : sumQ (q :: M) = sumQ M + q * 1 := by show q + sumQ M = _; grind
    rw [e]
    refine this.weak sizeRel_rfl (fun k _ => ?_) (fun k _ => ?_)
    · have : takesQ (o :: os) (q :: M) k = tkF o k * q + takesQ os M k := rfl
      rw [this]; grind
    · have : givesQ (o :: os) (q :: M) k = gvF o k * q + givesQ os M k := rfl
      rw [this]; grind
  | [], _ :: _, h, _, _ => by simp at h
  | _ :: _, [], h, _, _ => by simp at h
theorem InH.gen (H : ∀ o ∈ os, InH os' z m n 1 (tkF o) (gvF o)) (a : InH os z m n σ T G) : InH os' z m n σ T G := by
  obtain ⟨M, h1, h2, h3, h4, h5⟩ := a
  exact (inH_comb h1 h2 H).weak h3 h4 h5
theorem InH.sub (H : ∀ o ∈ os, o ∈ os') (a : InH os z m n σ T G) : InH os' z m n σ T G := a.gen fun o ho => inH_self (H o ho)
theorem can_iff {t : Rat} : Can os h z t ↔ InH os z h.1.length h.2.length 1 (fun k => tkF h k * t) (gvF h) := by
  unfold Can
  rw [mix_inH]
  constructor <;> intro a <;> exact a.weak sizeRel_rfl (fun k _ => Rat.le_refl) (fun k _ => by grind)
theorem gcan_iff {t : Rat} : GCan os h z t ↔ InH os z h.1.length h.2.length 1 (tkF h) (fun k => gvF h k * t) := by
  unfold GCan
  rw [mix_inH]
  constructor <;> intro a <;> exact a.weak sizeRel_rfl (fun k _ => by grind) (fun k _ => Rat.le_refl)
theorem beat_iff : BeatP os h z ↔ ∃ T G, InH os z h.1.length h.2.length 1 T G ∧ (∀ k, k < h.1.length → T k ≤ tkF h k) ∧ (∀ k, k < h.2.length → gvF h k ≤ G k) ∧ ((∃ k, k < h.1.length ∧ T k < tkF h k) ∨ ∃ k, k < h.2.length ∧ gvF h k < G k) := by
  constructor
  · rintro ⟨M, D, no⟩
    refine ⟨takesQ os M, givesQ os M, ⟨M, D.len, D.nn, sizeRel_one.mpr D.sz, fun k _ => Rat.le_refl, fun k _ => Rat.le_refl⟩, fun k hk => by have := D.tk k hk; show dotQ _ M ≤ _; grind, fun k hk => by have := D.gv k hk; show _ ≤ dotQ _ M; grind, ?_⟩
    refine Classical.byContradiction fun c => no ⟨fun k hk => ?_, fun k hk => ?_⟩
    · refine Rat.le_antisymm (by have := D.tk k hk; show dotQ _ M ≤ _; grind) (Rat.not_lt.mp fun l => c (.inl ⟨k, hk, l⟩))
    · refine Rat.le_antisymm (Rat.not_lt.mp fun l => c (.inr ⟨k, hk, l⟩)) (by have := D.gv k hk; show _ ≤ dotQ _ M; grind)
  · rintro ⟨T, G, ⟨M, h1, h2, h3, h4, h5⟩, ht, hg, l⟩
    refine ⟨M, ⟨h1, h2, sizeRel_one.mp h3, fun k hk => ?_, fun k hk => ?_⟩, fun ow => ?_⟩
    · have a1 := h4 k hk
      have a2 := ht k hk
      show takesQ os M k ≤ _
      grind
    · have a1 := h5 k hk
      have a2 := hg k hk
      show _ ≤ givesQ os M k
      grind
    · rcases l with ⟨k, hk, l⟩ | ⟨k, hk, l⟩
      · have a1 := h4 k hk
        have a2 := ow.1 k hk
        grind
      · have a1 := h5 k hk
        have a2 := ow.2 k hk
        grind
end
end Rk
namespace Rk
open PySem PySem.Spec PyProof.Rows L2
structure Hm (m n : Nat) (o : House) : Prop where
  l1 : o.1.length = m
  l2 : o.2.length = n
  t : ∀ x ∈ o.1, 1 ≤ x
  g : ∀ x ∈ o.2, 0 ≤ x
section
variable {os os' S : List House} {z : Sz} {m n : Nat} {h r : House}
theorem Like.hm (L : Like h os) {o : House} (ho : o ∈ os) : Hm h.1.length h.2.length o := ⟨(L.len o ho).1, (L.len o ho).2, L.otk o ho, L.ogv o ho⟩
theorem Like.hm0 (L : Like h os) : Hm h.1.length h.2.length h := ⟨rfl, rfl, L.tk, L.gv⟩
theorem beat_gen (H : ∀ o ∈ os, InH os' z h.1.length h.2.length 1 (tkF o) (gvF o)) (B : BeatP os h z) : BeatP os' h z := by
  obtain ⟨T, G, a, b⟩ := beat_iff.mp B
  exact beat_iff.mpr ⟨T, G, a.gen H, b⟩
def Gen (os os' : List House) (z : Sz) (m n : Nat) : Prop := ∀ o ∈ os, InH os' z m n 1 (tkF o) (gvF o)
theorem Gen.sub (H : ∀ o ∈ os, o ∈ os') : Gen os os' z m n := fun o ho => inH_self (H o ho)
theorem Gen.trans {os'' : List House} (a : Gen os os' z m n) (b : Gen os' os'' z m n) : Gen os os'' z m n := fun o ho => (a o ho).gen b
theorem can_gen {t : Rat} (H : Gen os os' z h.1.length h.2.length) (c : Can os h z t) : Can os' h z t := can_iff.mpr ((can_iff.mp c).gen H)
theorem oth_gen (L : Like h os) (L' : Like h os') (H : Gen os os' z h.1.length h.2.length) (H' : Gen os' os z h.1.length h.2.length) : othV os h z = othV os' h z :=
  othV_congr L L' fun t => ⟨can_gen H, can_gen H'⟩
theorem rim_not (L : Like h os) (hh : h ∈ os) : RimP os h z ↔ ¬ BeatP os h z :=
  ⟨fun a b => rim_beat L.len a b, fun c => (rim_ends L hh z).resolve_right c⟩
theorem rim_gen (L : Like h os) (hh : h ∈ os) (L' : Like h os') (hh' : h ∈ os') (H : Gen os os' z h.1.length h.2.length) (H' : Gen os' os z h.1.length h.2.length) : RimP os h z ↔ RimP os' h z := by
  rw [rim_not L hh, rim_not L' hh']
  exact ⟨fun c b => c (beat_gen H' b), fun c b => c (beat_gen H b)⟩
end
abbrev hat (b : List House) (k : Nat) : House := b.getD k ([], [])
noncomputable def shrV (b : List House) (k : Nat) (z : Sz) : Rat := (othV b (hat b k) z).getD 0
theorem GBk.posg {b : List House} (G : GBk b) {h : House} (hh : h ∈ b) : ∃ x ∈ h.2, 0 < x := by
  obtain ⟨m, n, _, _, _, _, hmn⟩ := G.hs
  exact (hmn h hh).1.ps
section
variable {b : List House} {k : Nat} {z : Sz}
theorem shrV_some (G : GBk b) (hk : k < b.length) : othV b (hat b k) z = some (shrV b k z) := by
  have hm := houseAt hk
  have L := G.like hm
  unfold shrV
  cases e : othV b (hat b k) z with
  | none => exact (not_noshr hm (othV_nos L e)).elim
  | some s => rfl
theorem shrV_eq {s : Rat} (G : GBk b) (hk : k < b.length) (S : ShrIs b (hat b k) z s) : shrV b k z = s := by
  have := othV_eq (G.like (houseAt hk)) S
  rw [shrV_some G hk] at this
  exact Option.some.inj this
theorem othV_hin (G : GBk b) {h : House} (hh : h ∈ b) : ∃ s, othV b h z = some s ∧ s ≤ 1 := othV_can (G.like hh) (can_iff.mpr ((inH_self hh).weak sizeRel_rfl (fun k _ => by grind) (fun k _ => Rat.le_refl)))
end
theorem Like.sub {h : House} {os os' : List House} (L : Like h os) (s : ∀ o ∈ os', o ∈ os) : Like h os' :=
  ⟨L.m1, L.n1, fun o ho => L.len o (s o ho), L.tk, L.gv, fun o ho => L.otk o (s o ho), fun o ho => L.ogv o (s o ho)⟩
open Classical in
noncomputable def rimB (b : List House) (z : Sz) (k : Nat) : Bool := decide (RimP b (b.getD k ([], [])) z)
theorem rimB_iff {b : List House} {z : Sz} {k : Nat} : rimB b z k = true ↔ RimP b (b.getD k ([], [])) z := by
  unfold rimB
  exact @decide_eq_true_iff _ (Classical.propDecidable _)
noncomputable def rimS (b : List House) (z : Sz) (k : Nat) : Str := if rimB b z k = true then "rim" else "beaten"
theorem GBk.same {b : List House} (G : GBk b) {k : Nat} (hk : k < b.length) : ∀ o ∈ b, o.1.length = (b.getD k ([], [])).1.length ∧ o.2.length = (b.getD k ([], [])).2.length := fun o ho => by
  obtain ⟨m, n, _, _, _, _, hmn⟩ := G.hs
  have h1 := hmn _ (houseAt hk)
  have h2 := hmn o ho
  omega
theorem rimS_iff {b : List House} {z : Sz} {k : Nat} : decide (rimS b z k = "rim") = rimB b z k := by
  unfold rimS
  cases rimB b z k with
  | true => rfl
  | false => rfl
noncomputable def rimIx (b : List House) (z : Sz) : List Nat := (List.range b.length).filter (rimB b z)
end Rk
namespace Rk
open PySem PySem.Spec PyProof.Rows L2
structure Ni (n : Nat) (d : PyData) : Prop where
  p : pur d = true
  c : d.canLay0 = true
  h : d.depth ≤ n
theorem Ni.mono {n m : Nat} {d : PyData} (a : Ni n d) (h : n ≤ m) : Ni m d := ⟨a.p, a.c, Nat.le_trans a.h h⟩
theorem Ni.shaped {n : Nat} {d : PyData} (a : Ni n d) (h : n ≤ 64 := by decide) : SeqAt.shaped d = true := shaped_of a.c (Nat.le_trans a.h h)
theorem Ni.eqv {n m : Nat} {x y : PyData} (a : Ni n x) (b : Ni m y) : PyData.eqv x y = true ↔ x = y := eqv_iff a.p b.p a.c
theorem Ni.self {n : Nat} {x : PyData} (a : Ni n x) : PyData.eqv x x = true := (a.eqv a).mpr rfl
theorem Ni.ne {n m : Nat} {x y : PyData} (a : Ni n x) (b : Ni m y) (h : x ≠ y) : PyData.eqv x y = false := by
  cases e : PyData.eqv x y with
  | false => rfl
  | true => exact (h ((a.eqv b).mp e)).elim
theorem ni_int {i : Int} : Ni 0 (.int i) := ⟨rfl, rfl, by simp [PyData.depth]⟩
theorem ni_none : Ni 0 .none := ⟨rfl, rfl, by simp [PyData.depth]⟩
theorem ni_all {n : Nat} : ∀ {xs : List PyData}, (∀ x ∈ xs, Ni n x) → purAll xs = true ∧ PyData.canLayAll0 xs = true ∧ PyData.depthAll xs ≤ n
  | [], _ => ⟨rfl, rfl, by simp [PyData.depthAll]⟩
  | x :: xs, h => by
    have h1 := h x List.mem_cons_self
    obtain ⟨a, b, c⟩ := ni_all fun y hy => h y (List.mem_cons_of_mem _ hy)
    refine ⟨by rw [purAll, h1.p, a]; rfl, by rw [PyData.canLayAll0, h1.c, b]; rfl, ?_⟩
    have := h1.h
    simp only [PyData.depthAll]
    omega
theorem ni_list {n : Nat} {xs : List PyData} (h : ∀ x ∈ xs, Ni n x) : Ni (n + 1) (.list xs) := by
  obtain ⟨a, b, c⟩ := ni_all h
  refine ⟨pur_list a, canLay_list b, ?_⟩
  simp only [PyData.depth]
  omega
theorem ni_tup {n : Nat} {xs : List PyData} (h : ∀ x ∈ xs, Ni n x) : Ni (n + 1) (.tuple xs) := by
  obtain ⟨a, b, c⟩ := ni_all h
  refine ⟨pur_tuple a, canLay_tuple b, ?_⟩
  simp only [PyData.depth]
  omega
theorem ni_map {α : Type} {n : Nat} {f : α → PyData} {xs : List α} (h : ∀ x ∈ xs, Ni n (f x)) : Ni (n + 1) (.list (xs.map f)) := ni_list fun d hd => by
  obtain ⟨x, hx, rfl⟩ := List.mem_map.mp hd
  exact h x hx
theorem ni_tup2 {n : Nat} {x y : PyData} (h1 : Ni n x) (h2 : Ni n y) : Ni (n + 1) (.tuple [x, y]) := ni_tup fun d hd => by
  simp only [List.mem_cons, List.not_mem_nil, or_false] at hd
  rcases hd with rfl | rfl <;> assumption
theorem ni_dF {q : Rat} : Ni 1 (dF q) := ni_tup2 ni_int ni_int
theorem ni_lQ {qs : List Rat} : Ni 2 (lQ qs) := ni_map fun _ _ => ni_dF
abbrev natsD (xs : List Nat) : List PyData := xs.map fun i => .int ((i : Nat) : Int)
theorem ni_nats {xs : List Nat} : Ni 1 (.list (natsD xs)) := ni_map fun _ _ => ni_int
theorem natsD_ints (xs : List Nat) : natsD xs = (xs.map fun i => ((i : Nat) : Int)).map .int := by rw [List.map_map]; rfl
section
variable {C : Ct} {ρ : List SV} {b b1 b2 : Bool} {a c : Expr} {k : Nat} {xs : List Nat}
theorem ec_notInN (ha : Ev C ρ a b1 (.int ((k : Nat) : Int))) (hc : Bx C ρ c b2 (natsD xs)) : Ec C ρ a .NotIn c (!decide (k ∈ xs)) := by
  rw [natsD_ints] at hc
  have := ec_notInL ha hc
  have e : decide (((k : Nat) : Int) ∈ xs.map fun i => ((i : Nat) : Int)) = decide (k ∈ xs) := decide_eq_decide.mpr (by
    rw [List.mem_map]
    exact ⟨fun ⟨i, hi, e⟩ => by rw [show k = i by omega]; exact hi, fun h => ⟨k, h, rfl⟩⟩)
  rwa [e] at this
end
end Rk
namespace Rk
open PySem PySem.Spec PyProof.Rows L2
theorem getD_in {α : Type} {xs : List α} {k : Nat} {d : α} (h : k < xs.length) : xs.getD k d ∈ xs := by
  rw [List.getD, List.getElem?_eq_getElem h]; exact List.getElem_mem h
theorem GBk.part {b S : List House} (G : GBk b) (hS : ∀ o ∈ S, o ∈ b) (h0 : S ≠ []) (hl : S.length ≤ 16) : GBk S := by
  obtain ⟨m, n, m1, m4, n1, n4, hmn⟩ := G.hs
  exact ⟨h0, hl, m, n, m1, m4, n1, n4, fun o ho => hmn o (hS o ho)⟩
theorem GBk.hm {b : List House} (G : GBk b) {h : House} (hh : h ∈ b) : ∀ o ∈ b, Hm h.1.length h.2.length o := fun o ho => (G.like hh).hm ho
section
variable {b b' S : List House} {z : Sz} {h : House} {k k' : Nat}
theorem mem_rimIx : k ∈ rimIx b z ↔ k < b.length ∧ RimP b (hat b k) z := by
  unfold rimIx
  rw [List.mem_filter, List.mem_range, rimB_iff]
theorem rim_len : (rimIx b z).length ≤ b.length := by
  have := List.length_filter_le (rimB b z) (List.range b.length)
  rw [List.length_range] at this
  exact this
theorem hat_map {L : List Nat} {i : Nat} (hi : i < L.length) : hat (L.map (hat b)) i = hat b (L.getD i 0) := by
  exact getD_mapD (d := 0) hi
theorem mem_map_hat {L : List Nat} (hL : ∀ k ∈ L, k < b.length) : ∀ o ∈ L.map (hat b), o ∈ b := fun o ho => by
  obtain ⟨k, hk, rfl⟩ := List.mem_map.mp ho
  exact houseAt (hL k hk)
end
end Rk
namespace Rk
open PySem PySem.Spec PyProof.Rows L2
section
variable {C : Ct} {ρ : List SV} {b b1 b2 : Bool} {a c e : Expr} {pos p p1 p2 p3 : Pos} {x : Str} {D : PyData} {Ds Es : List PyData} {n : Nat} {k : Nat}
theorem Cz.u65 (Z : Cz C k) : C.X.A.units + 65 < cLine := by have := Z.hr.un; omega
theorem ec_notInD (hu : C.X.A.units + 65 < cLine) (ha : Ev C ρ a b1 D) (hc : Bx C ρ c b2 Ds) (s1 : SeqAt.shaped D = true) (s2 : SeqAt.shaped (.list Ds) = true) : Ec C ρ a .NotIn c (!Ds.any fun z => PyData.eqv z D) :=
  .mk fun Pn F q σ H E => semC_of (pc_R (op_notInD hu) pe_sem pe_sem) ((ha.run _ F q σ H E).mono fun v H1 ⟨t1, r1⟩ => (hc.run _ F q σ H1 (E.grow t1)).mono fun u H2 ⟨t2, l, vs, ev, e1, r2⟩ => by
    subst ev
    exact ⟨D, Ds, RV.dp _ _ ((Ct.Env.shift (E.grow t1) t2).rv r1), .lst (.of e1) (RA.dp _ _ r2), s1, s2, t1.trans t2, rfl⟩)
end
end Rk
namespace Rk
open PySem PySem.Spec PyProof.Rows L2
theorem cd_divInt' {n : Int} {d : Int} {M : Nat} (hd : 0 < d) (h : n.natAbs ≤ M) : Cd d.natAbs M (Rat.divInt n d) := by
  refine ⟨by omega, n, h, ?_⟩
  have e : d = ((d.natAbs : Nat) : Int) := by omega
  rw [e, Rat.divInt_ofNat]
  simp
theorem lp_best {L : Sx.Lp} {B a : Nat} (O : L.Ok) (LS : LpS L B a) : (∃ s x y, LpOpt L s x y ∧ Wd a s) ∨ LpUnb L := by
  obtain ⟨fl, hf, G0⟩ := Sx.good_begun O
  have main : ∀ (n : Nat) (t : Sx.Tab), Sx.Good (Sx.probOf L O fl hf) t → Sx.leftOf (Sx.probOf L O fl hf) t = n → (∃ s x y, LpOpt L s x y ∧ Wd a s) ∨ LpUnb L := by
    intro n
    induction n using Nat.strongRecOn with
    | _ n ih =>
      intro t G e
      cases ee : Sx.enterL t (L.gains.length + L.rows.length) L.rows.length with
      | nil =>
        have ST := LS.good G
        have d0 : 0 < t.bottom := G.iv.i0.d0
        have dl := ST.2
        have ha0 := LS.a0
        have hTm : (t.T L.rows.length (L.gains.length + L.rows.length)).natAbs ≤ 2 ^ a - 1 := by
          have : (t.T L.rows.length (L.gains.length + L.rows.length)).natAbs < 2 ^ a := ST.line G.sh (show L.rows.length ≤ L.rows.length from Nat.le_refl _) _
          omega
        refine .inl ⟨_, _, _, good_opt G (Sx.enter_nil ee), ?_⟩
        exact (cd_divInt' d0 hTm).wd dl (by have := Nat.two_pow_pos a; omega)
      | cons c r =>
        obtain ⟨c1, c2, c3⟩ := Sx.enter_cons ee
        have ls := Sx.leave_spec t (L.gains.length + L.rows.length) c L.rows.length
        cases el : Sx.leaveM t (L.gains.length + L.rows.length) c L.rows.length with
        | none => rw [el] at ls; exact .inr (good_unb G c1 c2 ls)
        | some g =>
          have en : Sx.nextM (Sx.probOf L O fl hf) t = some (Sx.turnM t g c) := by
            unfold Sx.nextM
            have e1 : Sx.enterL t (Sx.probOf L O fl hf).N (Sx.probOf L O fl hf).m = c :: r := ee
            have e2 : Sx.leaveM t (Sx.probOf L O fl hf).N c (Sx.probOf L O fl hf).m = some g := el
            rw [e1]
            simp only
            rw [e2]
          have lt := Sx.leftOf_next G en
          exact ih _ (by omega) _ (G.step en).1 rfl
  exact main _ _ G0 rfl
section
variable {h : House} {z : Sz} {os : List House}
theorem shrIs_of (L : Like h os) {best : Rat} {x y : List Rat} (O : LpOpt (lpShr h z os) best x y) : ShrIs os h z best := by
  obtain ⟨ex, hu, hv, hs⟩ := split3 x _ _ _ (O.lx.trans glen)
  have ly : y.length = os.length + 1 := O.ly.trans shr_rows
  have ey : y = y.take os.length ++ [y[os.length]] := by
    have := List.take_append_drop os.length y
    rw [List.drop_eq_getElem_cons (by omega), List.drop_of_length_le (by omega)] at this
    exact this.symm
  have hM := O
  rw [ey] at hM
  generalize x.take h.2.length = u at ex hu
  generalize (x.drop h.2.length).take (h.1.length - 1) = v at ex hv
  generalize x.drop (h.2.length + (h.1.length - 1)) = s at ex hs
  have hp := O.pri
  rw [ex] at hp
  have hpl := hp os.length (by rw [shr_rows]; omega)
  rw [shr_last, shr_limL] at hpl
  obtain ⟨P1, P2, P3⟩ := shr_prices (z := z) L hu hv hs (fun q hq => O.x0 q (by rw [ex]; simp [hq])) (fun q hq => O.x0 q (by rw [ex]; simp [hq])) (fun q hq => O.x0 q (by rw [ex]; simp [hq])) (fun o ho => by
    obtain ⟨k, hk, rfl⟩ := List.getElem_of_mem ho
    have := hp k (by rw [shr_rows]; omega)
    rw [shr_row hk, shr_lim hk] at this
    exact this) hpl
  have hg := O.gx
  rw [ex, dotQ_gain hu hv hs] at hg
  exact ⟨⟨_, shr_mix L hM⟩, _, P1, P2, P3.trans hg⟩
theorem othV_wd {s : Rat} (L : Like h os) (A : Amt h) (Ao : ∀ o ∈ os, Amt o) (hn : os.length ≤ 16) (e : othV os h z = some s) : Wd 1130 s := by
  rcases lp_best (shr_ok L) (shr_lps (z := z) L A Ao hn) with ⟨best, x, y, O, w⟩ | U
  · have := othV_eq L (shrIs_of L O)
    rw [e] at this
    rw [Option.some.inj this]; exact w
  · rw [othV_no L (unb_noshr L U)] at e; cases e
end
section
variable {b : List House} {k : Nat} {z : Sz}
theorem shrV_wd (G : GBk b) (hk : k < b.length) : Wd 1130 (shrV b k z) := othV_wd (G.like (houseAt hk)) (G.amt _ (houseAt hk)) G.amt G.le (shrV_some G hk)
end
end Rk
namespace Rk
open PySem PySem.Spec PyProof.Rows L2
end Rk
namespace Rk
open PySem PySem.Spec PyProof.Rows L2
def noOwnS : SV → Bool
  | .u => true
  | .d _ _ => true
  | .s _ => true
  | .rb _ _ _ => true
  | _ => false
theorem EnvQ.noOwn {K : PySem.W.Frag} {H0 Pn H : Hp} {σ : L2.St} {ρ : List SV} {q : Qn} (E : EnvQ K H0 Pn H σ ρ N0 q) (h : ρ.all noOwnS = true) : ∀ a, ¬ Own q N0 a := fun a n => by
  rcases n with n | ⟨j, hj⟩
  · exact n
  · by_cases hl : j < ρ.length
    · have hs := E.slot j _ (List.getElem?_eq_getElem hl)
      have hm := List.all_eq_true.mp h _ (List.getElem_mem hl)
      generalize ρ[j] = s at hs hm
      generalize hq : q j = l at hs hj
      generalize σ[j]? = x at hs
      cases hs with
      | u => cases hj
      | d _ => cases hj
      | s _ => cases hj
      | o _ _ => cases hm
      | oo _ _ _ => cases hm
      | ob _ => cases hm
      | dc _ _ => cases hm
      | rb _ => cases hj
      | al => cases hj
      | rl _ => cases hm
      | oa _ _ => cases hm
      | ot _ => cases hm
    · rw [E.out j (by omega)] at hj; cases hj
section
variable {b : List House} {z : Sz} {left : List Nat}
noncomputable def lvO (b : List House) (z : Sz) (left : List Nat) : List Nat := (rimIx (left.map (hat b)) z).map fun k => left.getD k 0
noncomputable def lvR (b : List House) (z : Sz) (left : List Nat) : List Nat := left.filter fun i => !decide (i ∈ lvO b z left)
noncomputable def lvF (b : List House) (z : Sz) : Nat → List Nat → List (List Nat)
  | 0, _ => []
  | n + 1, left => if left = [] then [] else lvO b z left :: lvF b z n (lvR b z left)
noncomputable def lvV (b : List House) (z : Sz) : List (List Nat) := lvF b z b.length (List.range b.length)
theorem lv_sub (hi : ∀ k ∈ left, k < b.length) : ∀ i ∈ lvO b z left, i ∈ left := fun i h => by
  obtain ⟨k, hk, rfl⟩ := List.mem_map.mp h
  have := (mem_rimIx.mp hk).1
  rw [List.length_map] at this
  exact getD_in this
theorem left_book (G : GBk b) (hi : ∀ k ∈ left, k < b.length) (h0 : left ≠ []) (hl : left.length ≤ 16) : GBk (left.map (hat b)) :=
  G.part (mem_map_hat hi) (by simpa using h0) (by rw [List.length_map]; exact hl)
theorem lv_ne (G : GBk b) (hi : ∀ k ∈ left, k < b.length) (h0 : left ≠ []) (hl : left.length ≤ 16) : lvO b z left ≠ [] := fun e => by
  obtain ⟨k, hk, R⟩ := rim_ne (left_book G hi h0 hl) z
  have : left.getD k 0 ∈ lvO b z left := List.mem_map_of_mem (mem_rimIx.mpr ⟨hk, R⟩)
  rw [e] at this
  cases this
theorem lv_less (G : GBk b) (hi : ∀ k ∈ left, k < b.length) (h0 : left ≠ []) (hl : left.length ≤ 16) : (lvR b z left).length < left.length := by
  have n0 := lv_ne (z := z) G hi h0 hl
  cases e : lvO b z left with
  | nil => exact absurd e n0
  | cons i r =>
    have him : i ∈ lvO b z left := by rw [e]; simp
    have hil := lv_sub hi i him
    refine Nat.lt_of_le_of_ne (List.length_filter_le _ _) fun hE => ?_
    have := List.length_filter_eq_length_iff.mp hE i hil
    simp [him] at this
theorem lvR_mem : ∀ {i : Nat}, i ∈ lvR b z left ↔ i ∈ left ∧ i ∉ lvO b z left := fun {i} => by
  unfold lvR
  rw [List.mem_filter]
  simp
theorem lvF_cons {n : Nat} (h0 : left ≠ []) : lvF b z (n + 1) left = lvO b z left :: lvF b z n (lvR b z left) := if_neg h0
theorem lvF_nil {n : Nat} : lvF b z n [] = [] := by cases n <;> simp [lvF]
structure LvAt (b : List House) (z : Sz) (s : List (List Nat) × List Nat × Nat) : Prop where
  e : s.1 ++ lvF b z s.2.2 s.2.1 = lvV b z
  n : s.2.1.length ≤ s.2.2
  i : ∀ k ∈ s.2.1, k < b.length
  d : s.2.1.Nodup
  l : s.1.length + s.2.1.length ≤ 16
theorem LvAt.step {told : List (List Nat)} {n : Nat} (G : GBk b) (A : LvAt b z (told, left, n)) (h0 : left ≠ []) : ∃ m, n = m + 1 ∧ LvAt b z (told ++ [lvO b z left], lvR b z left, m) ∧ (lvR b z left).length < left.length := by
  obtain ⟨h1, h2, h3, h4, h5⟩ := A
  simp only at h1 h2 h3 h4 h5
  have lp := List.length_pos_iff.mpr h0
  have lt := lv_less (z := z) G h3 h0 (by omega)
  obtain ⟨m, rfl⟩ : ∃ m, n = m + 1 := ⟨n - 1, by omega⟩
  refine ⟨m, rfl, ⟨?_, by show (lvR b z left).length ≤ m; omega, fun k hk => h3 k (lvR_mem.mp hk).1, h4.filter _, by show (told ++ [lvO b z left]).length + (lvR b z left).length ≤ 16; rw [List.length_append, List.length_singleton]; omega⟩, lt⟩
  show told ++ [lvO b z left] ++ lvF b z m (lvR b z left) = _
  rw [← h1, lvF_cons h0, List.append_assoc]; rfl
theorem LvAt.ends {told : List (List Nat)} {n : Nat} (A : LvAt b z (told, [], n)) : told = lvV b z := by
  have := A.e
  rw [← this]
  show told = told ++ lvF b z n []
  rw [lvF_nil, List.append_nil]
end
end Rk
namespace Rk
open PySem PySem.Spec PyProof.Rows L2
def srt (xs : List Nat) : List Nat := xs.mergeSort (fun a b => decide (a ≤ b))
section
variable {os : List House} {h : House} {z : Sz}
theorem one_tk (L : Like h os) {k : Nat} (hk : k < h.1.length) : (1 : Rat) ≤ tkF h k := by
  have h1 : (1 : Int) ≤ h.1.getD k 0 := L.tk _ (getD_in hk)
  have : ((1 : Int) : Rat) ≤ ((h.1.getD k 0 : Int) : Rat) := Rat.intCast_le_intCast.mpr h1
  exact this
theorem gro_any (L : Like h os) (hh : h ∈ os) (hp : ∃ x ∈ h.2, 0 < x) {s : Rat} (e : othV os h .any = some s) (s0 : 0 < s) : groV os h .any = s⁻¹ := by
  obtain ⟨cs, ms⟩ := othV_min L e
  obtain ⟨cg, mg⟩ := groV_max (z := .any) L hh hp
  have g1 := gro_ge1 hh (groV_is (z := .any) L hh hp)
  have si : s * s⁻¹ = 1 := Rat.mul_inv_cancel _ (by grind)
  have i0 : (0 : Rat) < s⁻¹ := Rat.inv_pos.mpr s0
  generalize groV os h .any = g at cg mg g1
  have gi : g * g⁻¹ = 1 := Rat.mul_inv_cancel _ (by grind)
  have gi0 : (0 : Rat) < g⁻¹ := Rat.inv_pos.mpr (by grind)
  generalize s⁻¹ = i at si i0
  generalize g⁻¹ = j at gi gi0
  refine Rat.le_antisymm ?_ ?_
  · -- g j-times: a share j
    have c : Can os h .any j := can_iff.mpr (((gcan_iff.mp cg).mul (Rat.le_of_lt gi0)).weak trivial (fun k _ => by grind) (fun k _ => by
      have e : j * (gvF h k * g) = gvF h k * (g * j) := by grind
      rw [e, gi]; grind))
    have h1 := ms j c
    have h2 := Rat.mul_le_mul_of_nonneg_left h1 (show (0 : Rat) ≤ g * i by have := Rat.mul_nonneg (show (0 : Rat) ≤ g by grind) (Rat.le_of_lt i0); exact this)
    have e1 : g * i * s = g * (s * i) := by grind
    have e2 : g * i * j = i * (g * j) := by grind
    rw [e1, e2, si, gi] at h2
    grind
  · refine mg i (gcan_iff.mpr (((can_iff.mp cs).mul (Rat.le_of_lt i0)).weak trivial (fun k _ => ?_) (fun k _ => by grind)))
    have e : i * (tkF h k * s) = tkF h k * (s * i) := by grind
    rw [e, si]; grind
end
section
variable {b : List House} {z : Sz} {left : List Nat}
structure LvJ (b : List House) (z : Sz) (L : List (List Nat)) (j : Nat) (left : List Nat) : Prop where
  at_ : L[j]? = some (lvO b z left)
  pm : (L.drop j).flatten.Perm left
  ne : left ≠ []
  l16 : left.length ≤ 16
  i : ∀ k ∈ left, k < b.length
  nd : left.Nodup
  up : left.Pairwise (· < ·)
theorem LvJ.rim {j : Nat} (G : GBk b) (J : LvJ b z (lvV b z) j left) {k : Nat} (hk : k ∈ lvO b z left) : RimP (left.map (hat b)) (hat b k) z := by
  obtain ⟨i, hi, rfl⟩ := List.mem_map.mp hk
  obtain ⟨h1, h2⟩ := mem_rimIx.mp hi
  rw [List.length_map] at h1
  rw [hat_map h1] at h2
  exact h2
end
section
variable {os : List House} {h : House} {z : Sz}
theorem can_pos {s : Rat} (L : Like h os) (hp : ∃ x ∈ h.2, 0 < x) (c : Can os h z s) : 0 < s := by
  obtain ⟨M, D⟩ := c
  refine Rat.not_le.mp fun hs => ?_
  have m1 := L.m1
  have h1 := D.tk 0 (by omega)
  have c1 := one_tk L (k := 0) (by omega)
  have h2 : tkF h 0 * s ≤ 0 := by
    have := Rat.mul_nonneg (show (0 : Rat) ≤ tkF h 0 by grind) (show (0 : Rat) ≤ -s by grind)
    grind
  have hz := dot_zero_of (ns := os.map fun o => o.1.getD 0 0) (qs := M) (fun x hx => by
    obtain ⟨o, ho, rfl⟩ := List.mem_map.mp hx
    exact L.otk o ho _ (getD_in (by have := (L.len o ho).1; omega))) D.nn (by rw [List.length_map]; exact D.len.symm) (Rat.le_trans h1 h2)
  obtain ⟨x, hx, x0⟩ := hp
  obtain ⟨k, hk, rfl⟩ := List.getElem_of_mem hx
  have h3 := D.gv k hk
  rw [dotQ_allz hz, Rat.mul_one] at h3
  have e : h.2.getD k 0 = h.2[k] := by rw [List.getD, List.getElem?_eq_getElem hk]; rfl
  rw [e] at h3
  have : ((h.2[k] : Int) : Rat) ≤ ((0 : Int) : Rat) := h3
  have := Rat.intCast_le_intCast.mp this
  omega
end
end Rk
namespace Rk
open PySem PySem.Spec PyProof.Rows L2
end Rk
namespace Rk
open PySem PySem.Spec PyProof.Rows L2
section
variable {C : Ct} {ρ : List SV} {e : Expr} {R : PyData → Prop} {rest : List Stmt} {T : Tn} {pos : Pos}
theorem blk_unpackR' {tg : Expr} {is : List Nat} (he : EvR C ρ e R) (h : ∀ D, R D → ∃ ρ', Tgt C ρ tg is true D ρ' ∧ Blk C ρ' rest T) (hs : swapsWithSole [tg] e pos.line C.X.env = pure false := by rfl) (hw : swappedStores [tg] e C.X.env = pure none := by rfl)
    (h1 : (assignEach [tg] C.X.env).map (·.2) = [assign tg C.X.env] := by rfl) : Blk C ρ (.Assign [tg] e pos :: rest) T :=
  blk_cons (ps_asg pe_sem pg_sem hs hw h1) fun Pn q σ H E => (he.run _ _ q σ H E).mono fun v H' ⟨s, D, d, r⟩ => by
    obtain ⟨ρ', ht, hb⟩ := h D d
    refine (ht.run Pn _ q σ H' v (E.grow s) r).mono fun σ1 H1 ⟨eH, ⟨q1, E1, _⟩, _⟩ => ?_
    subst eH; exact hb.run Pn q1 σ1 H1 E1
end
theorem GBk.hok {b : List House} (G : GBk b) : ∀ h ∈ b, HOk h := fun h hh => by
  have A := G.amt h hh
  have a1 := A.m4
  have a2 := A.n4
  exact ⟨by omega, by omega, fun n hn => by have := A.tk n hn; omega, fun n hn => by have := A.gv n hn; omega⟩
theorem ni_oF {a : Option Rat} : Ni 1 (oF a) := by
  cases a with
  | none => exact ni_none.mono (by decide)
  | some q => exact ni_dF
end Rk
namespace Rk
open PySem PySem.Spec PyProof.Rows L2
def sdH (h : House) (i : Nat) : List Int := if i = 0 then h.1 else h.2
theorem atI_sd {h : House} {i : Nat} (hi : i < 2) : atI [tInts h.1, tInts h.2] ((i : Nat) : Int) = some (tInts (sdH h i)) := by
  match i, hi with
  | 0, _ => rfl
  | 1, _ => rfl
theorem GBk.sdl {b : List House} (G : GBk b) {h : House} (hh : h ∈ b) (i : Nat) : (sdH h i).length = (sdH (b.getD 0 ([], [])) i).length := by
  have s := G.same (k := 0) (List.length_pos_iff.mpr G.ne) h hh
  unfold sdH
  split
  · exact s.1
  · exact s.2
theorem GBk.sd4 {b : List House} (G : GBk b) {h : House} (hh : h ∈ b) (i : Nat) : (sdH h i).length ≤ 4 := by
  obtain ⟨m, n, _, m4, _, n4, z⟩ := G.hs
  obtain ⟨_, e1, e2⟩ := z h hh
  unfold sdH
  split <;> omega
theorem sumQ_dot (M : List Rat) : dotQ (M.map fun _ => (1 : Int)) M = sumQ M := by
  rw [dotQ_const 1 M M rfl]
  show ((1 : Int) : Rat) * _ = _
  rw [Rat.intCast_one, Rat.one_mul]
theorem sumQ_wd {M : List Rat} {D X a : Nat} (h0 : D ≠ 0) (hq : ∀ q ∈ M, Cd D X q) (hl : M.length ≤ 31) (hD : D < 2 ^ a) (hX : X < 2 ^ a) (k : Nat) : Wd (a + 37) (sumQ (M.take k)) := by
  rw [← sumQ_dot]
  refine dotQ_wd h0 (fun n hn => ?_) (fun q h => hq q (List.mem_of_mem_take h)) (by rw [List.length_map, List.length_take]; omega) hD hX
  obtain ⟨_, _, rfl⟩ := List.mem_map.mp hn; decide
end Rk
namespace Rk
open PySem PySem.Spec PyProof.Rows L2
def cellsM3 (z TI TO i1 i2 : Addr) : List Addr := [z, TI, TO, i1, i2]
theorem cellsM_mem3 {z TI TO i1 i2 c : Addr} : c ∈ cellsM3 z TI TO i1 i2 ↔ c = z ∨ c = TI ∨ c = TO ∨ c = i1 ∨ c = i2 := by
  unfold cellsM3; simp
def StM3 (z TI TO i1 i2 a b : Addr) (i : Nat) (h : Heap) : Prop := IsZip h z TI TO .none ∧ IsTupOf2 h TI (.ref i1) (.ref i2) ∧ (∃ x y, IsTupOf2 h TO x y) ∧ h.IsTupleIter i1 a i ∧ h.IsTupleIter i2 b i
theorem StM3.look {z TI TO i1 i2 a b : Addr} {i : Nat} {h : Heap} (st : StM3 z TI TO i1 i2 a b i h) : ∀ c ∈ cellsM3 z TI TO i1 i2, ∃ o, h.get? c = some o ∧ ∀ v, o.data ≠ .cell v := fun c hc => by
  obtain ⟨s1, s2, ⟨x, y, s3⟩, ⟨o4, s4, _, d4⟩, ⟨o5, s5, _, d5⟩⟩ := st
  rcases cellsM_mem3.mp hc with e | e | e | e | e <;> rw [e]
  · exact ⟨_, s1, fun v q => nomatch q⟩
  · exact ⟨_, s2, fun v q => nomatch q⟩
  · exact ⟨_, s3, fun v q => nomatch q⟩
  · exact ⟨o4, s4, fun v q => by rw [d4] at q; exact nomatch q⟩
  · exact ⟨o5, s5, fun v q => by rw [d5] at q; exact nomatch q⟩
end Rk
namespace Rk
open PySem PySem.Spec PyProof.Rows L2
theorem enum_hat {b : List House} {n : Nat} {D : PyData} (h : (enumD (b.map dH))[n]? = some D) : n < b.length ∧ D = .tuple [.int ((n : Nat) : Int), dH (hat b n)] := by
  unfold enumD at h
  rw [List.getElem?_map, List.getElem?_zipIdx, Option.map_map, Option.map_eq_some_iff] at h
  obtain ⟨d, hd, rfl⟩ := h
  rw [List.getElem?_map, Option.map_eq_some_iff] at hd
  obtain ⟨o, ho, rfl⟩ := hd
  refine ⟨(List.getElem?_eq_some_iff.mp ho).1, ?_⟩
  have : hat b n = o := by rw [hat, List.getD, ho]; rfl
  rw [this]
  simp
end Rk
namespace Rk
open PySem PySem.Spec PyProof.Rows L2
def MixC (a : Nat) (M : List Rat) : Prop := ∃ D X : Nat, D ≠ 0 ∧ (∀ q ∈ M, Cd D X q) ∧ D < 2 ^ a ∧ X < 2 ^ a
theorem MixC.nil : MixC 1 [] := ⟨1, 0, by decide, fun q hq => absurd hq List.not_mem_nil, by decide, by decide⟩
theorem MixC.sub {a : Nat} {M M' : List Rat} (h : MixC a M) (hs : ∀ q ∈ M', q ∈ M) : MixC a M' := by
  obtain ⟨D, X, h0, hq, hD, hX⟩ := h
  exact ⟨D, X, h0, fun q hm => hq q (hs q hm), hD, hX⟩
theorem MixC.le {a a' : Nat} {M : List Rat} (h : MixC a M) (l : a ≤ a') : MixC a' M := by
  obtain ⟨D, X, h0, hq, hD, hX⟩ := h
  exact ⟨D, X, h0, hq, Nat.lt_of_lt_of_le hD (Nat.pow_le_pow_right (by decide) l), Nat.lt_of_lt_of_le hX (Nat.pow_le_pow_right (by decide) l)⟩
theorem MixC.wd {a : Nat} {M : List Rat} (h : MixC a M) : ∀ q ∈ M, Wd a q := fun q hm => by
  obtain ⟨D, X, h0, hq, hD, hX⟩ := h
  exact (hq q hm).wd hD hX
theorem MixC.app {a m : Nat} {M : List Rat} {q : Rat} (h : MixC a M) (w : Wd m q) : MixC (a + m) (M ++ [q]) := by
  obtain ⟨D, X, h0, hq, hD, hX⟩ := h
  have qd := q.den_pos
  have e2 : 2 ^ (a + m) = 2 ^ a * 2 ^ m := Nat.pow_add ..
  refine ⟨q.den * D, max (q.den * X) (D * q.num.natAbs), Nat.mul_ne_zero (by omega) h0, fun x hx => ?_, ?_, ?_⟩
  · rcases List.mem_append.mp hx with z | z
    · exact ((hq x z).wide (by omega)).le (Nat.le_max_left _ _)
    · rw [List.mem_singleton] at z
      subst z
      have := (Cd.self x).wide h0
      rw [Nat.mul_comm D x.den] at this
      exact this.le (Nat.le_max_right _ _)
  · rw [e2, Nat.mul_comm]
    exact Nat.mul_lt_mul_of_lt_of_lt hD w.2
  · rw [Nat.max_lt, e2]
    exact ⟨by rw [Nat.mul_comm]; exact Nat.mul_lt_mul_of_lt_of_lt hX w.2, Nat.mul_lt_mul_of_lt_of_lt hD w.1⟩
theorem MixC.set {a m : Nat} {M : List Rat} {q : Rat} {i : Nat} (h : MixC a M) (w : Wd m q) : MixC (a + m) (M.set i q) :=
  (h.app w).sub fun x hx => by
    rcases List.mem_or_eq_of_mem_set hx with z | z
    · exact List.mem_append_left _ z
    · exact List.mem_append_right _ (by rw [z]; exact List.mem_singleton.mpr rfl)
theorem MixC.sum {a : Nat} {M : List Rat} (h : MixC a M) (hl : M.length ≤ 31) : Wd (a + 37) (sumQ M) := by
  obtain ⟨D, X, h0, hq, hD, hX⟩ := h
  have := sumQ_wd h0 hq hl hD hX M.length
  rwa [List.take_length] at this
end Rk
namespace Rk
open PySem PySem.Spec PyProof.Rows L2
def LikeB (b c : List House) : Prop := ∀ k, k < b.length → ∀ o ∈ c, o.1.length = (hat b k).1.length ∧ o.2.length = (hat b k).2.length
theorem LikeB.symm {b c : List House} (G : GBk b) (Gc : GBk c) (L : LikeB b c) : LikeB c b := fun k hk o ho => by
  have h0 := List.length_pos_iff.mpr G.ne
  have e1 := L 0 h0 _ (houseAt hk)
  have e2 := G.same h0 o ho
  rw [show hat c k = c.getD k ([], []) from rfl, e1.1, e1.2]
  exact e2
theorem LikeB.refl {b : List House} (G : GBk b) : LikeB b b := fun k hk o ho => G.same hk o ho
theorem LikeB.trans {b c d : List House} (Gc : GBk c) (L : LikeB b c) (M : LikeB c d) : LikeB b d := fun k hk o ho => by
  have h0 := List.length_pos_iff.mpr Gc.ne
  have e1 := M 0 h0 o ho
  have e2 := L k hk _ (houseAt h0)
  rw [e1.1, e1.2]
  exact e2
end Rk
namespace Rk
open PySem PySem.Spec PyProof.Rows L2
open Sem (wp)
end Rk
namespace Rk
open PySem PySem.Spec PyProof.Rows L2
def Pre (h h' : House) : Prop := ∃ t g, h' = (h.1 ++ t, h.2 ++ g)
theorem Pre.tk {h h' : House} (p : Pre h h') {k : Nat} (hk : k < h.1.length) : h'.1.getD k 0 = h.1.getD k 0 := by
  obtain ⟨t, g, rfl⟩ := p
  simp [List.getD, List.getElem?_append_left hk]
theorem Pre.gv {h h' : House} (p : Pre h h') {k : Nat} (hk : k < h.2.length) : h'.2.getD k 0 = h.2.getD k 0 := by
  obtain ⟨t, g, rfl⟩ := p
  simp [List.getD, List.getElem?_append_left hk]
section
variable {os os' : List House} {h h' : House} {z : Sz} {t : Rat} {b c : List House} {k : Nat}
theorem can_more (H : ∀ o ∈ os, o ∈ os') (c : Can os h z t) : Can os' h z t := can_iff.mpr ((can_iff.mp c).sub H)
theorem hat_app {o : House} (hk : k < b.length) : hat (b ++ [o]) k = hat b k := by simp [hat, List.getD, List.getElem?_append_left hk]
end
end Rk
namespace Rk
open PySem PySem.Spec PyProof.Rows L2
structure PrW (D M a : Nat) (p : Prices) : Prop where
  d0 : D ≠ 0
  c1 : ∀ q ∈ p.1, Cd D M q
  c2 : ∀ q ∈ p.2.1, Cd D M q
  c3 : Cd D M p.2.2
  hD : D < 2 ^ a
  hM : M < 2 ^ a
  a0 : 0 < a
  a9 : a ≤ 2000
theorem PrW.w1 {D M a : Nat} {p : Prices} {h : House} (P : PrW D M a p) (G : HOk h) : Wd (a + 37) (paidQ h p) := dotQ_wd P.d0 G.n1 P.c1 (by have := G.l1; omega) P.hD P.hM
theorem PrW.w2 {D M a : Nat} {p : Prices} {h : House} (P : PrW D M a p) (G : HOk h) : Wd (a + 37) (dotQ h.2 p.2.1) := dotQ_wd P.d0 G.n2 P.c2 (by have := G.l2; omega) P.hD P.hM
theorem PrW.w3 {D M a : Nat} {p : Prices} (P : PrW D M a p) : Wd a p.2.2 := P.c3.wd P.hD P.hM
theorem PrW.w4 {D M a : Nat} {p : Prices} {h : House} (P : PrW D M a p) (G : HOk h) : Wd (a + 37 + a + 1) (earnQ h p) := (P.w2 G).add P.w3
theorem MixC.zero {a : Nat} {M M' : List Rat} (h : MixC a M) (hs : ∀ x ∈ M', x = 0 ∨ x ∈ M) : MixC a M' := by
  obtain ⟨D, X, h0, hc, hD, hX⟩ := h
  refine ⟨D, X, h0, fun x hx => ?_, hD, hX⟩
  rcases hs x hx with rfl | z
  · exact (Cd.zero h0).le (Nat.zero_le _)
  · exact hc x z
abbrev ownD (h : House) : PyData := .list [lQ (h.1.map fun x : Int => (x : Rat)), lQ (h.2.map fun x : Int => (x : Rat))]
section
variable {C : Ct} {ρ : List SV} {b b1 b2 : Bool} {e c : Expr} {rest : List Stmt} {D : PyData} {Ds : List PyData} {pos : Pos} {i : Int} {T : Tn} {R : PyData → Prop}
theorem EvO.flat {b' : Bool} (h : EvO C ρ e b Ds) (hf : Rk.flat.flatAll Ds = true) : EvO C ρ e b' Ds := .mk fun Pn F q σ H E => (h.run _ F q σ H E).mono fun v H' ⟨s, p, vs, ev, hp, hp', r⟩ => ⟨s, p, vs, ev, hp, hp', RpAll.flat (fun _ _ z => z) _ _ r hf⟩
end
end Rk
namespace Rk
open PySem PySem.Spec PyProof.Rows L2
def OnRimR (b : List House) (k : Nat) (z : Sz) (D : PyData) : Prop := (∃ p, D = .tuple [.str "rim", dPr p] ∧ RimOut b (b.getD k ([], [])) z p) ∨ ∃ M, D = .tuple [.str "beaten", lQ M] ∧ BeatOut b (b.getD k ([], [])) z M
theorem onrim_s {b : List House} {z : Sz} {k : Nat} {D : PyData} (G : GBk b) (hk : k < b.length) (h : OnRimR b k z D) : ∃ Ds D', D = .tuple Ds ∧ atI Ds 0 = some D' ∧ D' = .str (rimS b z k) := by
  rcases h with ⟨p, rfl, O⟩ | ⟨M, rfl, O⟩
  · refine ⟨_, _, rfl, rfl, ?_⟩
    have : rimB b z k = true := rimB_iff.mpr O.is
    unfold rimS
    rw [if_pos this]
  · refine ⟨_, _, rfl, rfl, ?_⟩
    have : ¬ rimB b z k = true := fun c => rim_beat (G.same hk) (rimB_iff.mp c) O.is
    unfold rimS
    rw [if_neg this]
end Rk
namespace Rk
open PySem PySem.Spec PyProof.Rows L2
end Rk
namespace Rk
open PySem PySem.Spec PyProof.Rows L2
end Rk
namespace Rk
open PySem PySem.Spec PyProof.Rows L2
end Rk
namespace Rk
open PySem PySem.Spec PyProof.Rows L2
end Rk
namespace Rk
open PySem PySem.Spec PyProof.Rows L2
section
variable {prog : Program} {w : World} {A : Around} {E : Value → Shared → Prop} {s : Shared}
def kb : Value → Int
  | .bool p => b2i p
  | _ => 0
end
end Rk
namespace Rk
open PySem PySem.Spec PyProof.Rows L2
def valP (Ks : List (Key × PyData)) (k : Key) : Option PyData := (Ks.find? fun kv => decide (kv.1 = k)).map (·.2)
def putP (Ks : List (Key × PyData)) (k : Key) (v : PyData) : List (Key × PyData) :=
  if (Ks.any fun kv => decide (kv.1 = k)) = true then Ks.map (fun kv => if kv.1 = k then (kv.1, v) else kv) else Ks ++ [(k, v)]
section
variable {K : PySem.W.Frag} {b b' : Bool} {H0 Pn H : Hp} {N : Addr → Prop} {kvs : List (Key × V)} {Ks : List (Key × PyData)}
theorem KvOk.any (h : KvOk K b H0 H N kvs Ks) (k : Key) : (kvs.any fun kv => decide (kv.1 = k)) = Ks.any fun kv => decide (kv.1 = k) := by
  induction h with
  | nil => rfl
  | cons a _ ih => simp only [List.any_cons, a.1, ih]
theorem KvOk.val (h : KvOk K b H0 H N kvs Ks) {k : Key} {D : PyData} (e : valP Ks k = some D) : ∃ v, valV kvs k = some v ∧ RV K b H0 H N v D := by
  induction h with
  | nil => cases e
  | @cons p q ps qs a _ ih =>
    unfold valP at e
    rw [List.find?_cons] at e
    by_cases z : q.1 = k
    · rw [decide_eq_true z] at e
      simp only [Option.map_some, Option.some.injEq] at e
      subst e
      exact ⟨_, valV_pos (a.1.trans z), a.2⟩
    · rw [decide_eq_false z] at e
      obtain ⟨v, h1, h2⟩ := ih e
      exact ⟨v, by rw [valV_neg (by rw [a.1]; exact z)]; exact h1, h2⟩
theorem KvOk.len (h : KvOk K b H0 H N kvs Ks) : kvs.length = Ks.length := Paired.length h
theorem KvOk.snoc (h : KvOk K b H0 H N kvs Ks) {k : Key} {v : V} {D : PyData} (r : RV K b H0 H N v D) : KvOk K b H0 H N (kvs ++ [(k, v)]) (Ks ++ [(k, D)]) := by
  induction h with
  | nil => exact .cons ⟨rfl, r⟩ .nil
  | cons a _ ih => exact .cons a ih
theorem KvOk.repl (h : KvOk K b H0 H N kvs Ks) {k : Key} {v : V} {D : PyData} (r : RV K b H0 H N v D) : KvOk K b H0 H N (kvs.map fun kv => if kv.1 = k then (kv.1, v) else kv) (Ks.map fun kv => if kv.1 = k then (kv.1, D) else kv) := by
  induction h with
  | nil => exact .nil
  | @cons p q ps qs a _ ih =>
    refine .cons ?_ ih
    by_cases z : q.1 = k
    · have z2 : p.1 = k := a.1.trans z
      simp only [if_pos z, if_pos z2]; exact ⟨a.1, r⟩
    · have z2 : ¬ p.1 = k := by rw [a.1]; exact z
      simp only [if_neg z, if_neg z2]; exact a
theorem KvOk.put (h : KvOk K b H0 H N kvs Ks) {k : Key} {v : V} {D : PyData} (r : RV K b H0 H N v D) : KvOk K b H0 H N (putK kvs k v) (putP Ks k D) := by
  unfold putK putP
  rw [h.any k]
  by_cases z : (Ks.any fun kv => decide (kv.1 = k)) = true
  · rw [if_pos z, if_pos z]; exact h.repl r
  · rw [if_neg z, if_neg z]; exact h.snoc r
end
end Rk
namespace Rk
open PySem PySem.Spec PyProof.Rows L2
end Rk
namespace Rk
open PySem PySem.Spec PyProof.Rows L2
def Wx (C : Ct) (Pn : Hp) (ρ : List SV) (Xs : Addr → Prop) : WX := fun cls d σ H => ∃ A q, cls = .ref A ∧ d = none ∧ Xs A ∧ C.Env Pn H σ ρ N0 q
def RzP (C : Ct) (Pn : Hp) (ρ : List SV) (Xs : Addr → Prop) : Prop := L2N.Takes C.X (Wx C Pn ρ Xs)
section
variable {C : Ct} {Pn : Hp} {ρ : List SV} {b : Bool} {e c : Expr} {es : List Expr} {sts rest : List Stmt} {pos pos' p p' : Pos} {k j n m : Nat} {T : Tn} {Xs Xs' : Addr → Prop} {x f : Str} {S : Spec} {R : PyData → Prop} {As : List SV}
theorem RzP.imp (h : RzP C Pn ρ Xs) (k : ∀ A, Xs' A → Xs A) : RzP C Pn ρ Xs' := L2N.Takes.imp h fun _ _ _ _ ⟨A, q, e1, e2, e3, e4⟩ => ⟨A, q, e1, e2, k A e3, e4⟩
end
structure Nb (n : Nat) (d : PyData) : Prop where
  c : d.canLay0 = true
  h : d.depth ≤ n
section
variable {n m : Nat} {d x y u : PyData} {xs : List PyData}
theorem Nb.mono (a : Nb n d) (h : n ≤ m) : Nb m d := ⟨a.c, Nat.le_trans a.h h⟩
theorem Nb.shaped (a : Nb n d) (h : n ≤ 64 := by decide) : SeqAt.shaped d = true := shaped_of a.c (Nat.le_trans a.h h)
theorem Nb.self (a : Nb n d) : PyData.eqv d d = true := PySem.SeqAt.eqv_refl d a.c
end
end Rk
namespace Rk
open PySem PySem.Spec PyProof.Rows L2
def inRg (b : List House) (i : Int) : Prop := 0 ≤ i ∧ i < ((b.length : Nat) : Int)
instance (b : List House) (i : Int) : Decidable (inRg b i) := by unfold inRg; infer_instance
end Rk
namespace Rk
open PySem PySem.Spec PyProof.Rows L2
section
variable {b : List House} {h h' o : House} {z : Sz} {m n : Nat}
theorem GBk.good (G : GBk b) (hm : o ∈ b) : GoodH 1000000000 o := by
  obtain ⟨_, _, _, _, _, _, hmn⟩ := G.hs
  exact (hmn o hm).1
end
end Rk
namespace Rk
open PySem PySem.Spec PyProof.Rows L2
end Rk
namespace Rk
open PySem PySem.Spec PyProof.Rows L2
section
variable {C : Ct} {ρ : List SV} {b b1 b2 : Bool} {e e2 : Expr} {pos p : Pos} {R R2 : PyData → Prop} {Ds : List PyData} {xs : List Nat}
theorem ev_sumK {α : Type} (zs : List α) (g : α → Int) (hc : C.X.calm = true) (hm : C.X.mg "sum" = none) (h : Bw C ρ e b (zs.map fun k => PyData.int (g k))) (he : starEach (e :: []) C.X.env = (false, eval e C.X.env) :: starEach [] C.X.env := by rfl) (hg : Gl C.X "sum" := by rfl) : Ev C ρ (.Call (.Name "sum" p) [e] [] pos) true (.int (zs.map g).sum) :=
  ev_sumL hc hm (by rw [List.map_map]; exact h) he hg
theorem ev_to {D D' : PyData} (h : Ev C ρ e b D) (hD : D = D') : Ev C ρ e b D' := hD ▸ h
theorem ev_minN (hc : C.X.calm = true) (hm : C.X.mg "min" = none) (h : Bw C ρ e b (natsD xs)) (hn : xs ≠ []) (he : starEach (e :: []) C.X.env = (false, eval e C.X.env) :: starEach [] C.X.env := by rfl) (hg : Gl C.X "min" := by rfl) : Ev C ρ (.Call (.Name "min" p) [e] [] pos) true (.int (gMin (xs.map fun i => ((i : Nat) : Int)))) :=
  ev_minL hc hm (by rw [← natsD_ints]; exact h) (fun z => hn (List.map_eq_nil_iff.mp z)) he hg
end
theorem GBk.sd1 {b : List House} (G : GBk b) {h : House} (hh : h ∈ b) (i : Nat) : 1 ≤ (sdH h i).length := by
  unfold sdH
  by_cases e : i = 0
  · rw [if_pos e]; exact (G.good hh).t1
  · rw [if_neg e]; exact (G.good hh).g1
section
variable {b : List House} {ks ls : List Nat} {s k m : Nat}
def adK (b : List House) (ks : List Nat) (s k : Nat) : Int := (ks.map fun i => (sdH (hat b i) s).getD k 0).sum
def adV (b : List House) (ks : List Nat) (s : Nat) : List Int := (List.range (sdH (hat b 0) s).length).map fun k => adK b ks s k
def mgH (b : List House) (ks : List Nat) : House := (adV b ks 0, adV b ks 1)
abbrev ksI (ks : List Nat) : List Int := ks.map fun i => ((i : Nat) : Int)
def mgF (b : List House) (ks : List Nat) (k : Nat) : List House := if ((k : Nat) : Int) = gMin (ksI ks) then [mgH b ks] else if k ∈ ks then [] else [hat b k]
def mgT (b : List House) (ks : List Nat) (n : Nat) : List House := (List.range n).flatMap (mgF b ks)
def mgB (b : List House) (ks : List Nat) : List House := mgT b ks b.length
theorem adV_len : (adV b ks s).length = (sdH (hat b 0) s).length := by unfold adV; rw [List.length_map, List.length_range]
theorem mgT_step : mgT b ks (k + 1) = mgT b ks k ++ mgF b ks k := by
  unfold mgT
  rw [List.range_succ, List.flatMap_append, List.flatMap_cons, List.flatMap_nil, List.append_nil]
theorem mgF_len : (mgF b ks k).length ≤ 1 := by
  unfold mgF
  by_cases h : ((k : Nat) : Int) = gMin (ksI ks)
  · rw [if_pos h]; exact Nat.le_refl _
  · rw [if_neg h]
    by_cases h2 : k ∈ ks
    · rw [if_pos h2]; exact Nat.zero_le _
    · rw [if_neg h2]; exact Nat.le_refl _
theorem mgT_len (n : Nat) : (mgT b ks n).length ≤ n := by
  induction n with
  | zero => exact Nat.le_refl _
  | succ n ih => rw [mgT_step, List.length_append]; have := mgF_len (b := b) (ks := ks) (k := n); omega
def adBig (b : List House) (ks : List Nat) : Prop := 1000000000 < gMax (adV b ks 0) ∨ 1000000000 < gMax (adV b ks 1)
instance : Decidable (adBig b ks) := by unfold adBig; infer_instance
abbrev toN (is : List Int) : List Nat := is.map Int.toNat
end
end Rk
namespace Rk
open PySem PySem.Spec PyProof.Rows L2
section
variable {K : PySem.W.Frag} {H0 Pn H : Hp} {N F : Addr → Prop} {a Cl : Addr} {fv : List (Str × FV)} {G : List (Addr × HO)} {l : List Addr} {σ : L2.St} {ρ : List SV} {q : Qn} {i : Nat}
theorem FldOk.rv {v : V} {f : FV} (h : FldOk K H0 H N v f) : RV K false H H (fun _ => False) v (fvD f) := by
  cases h with
  | d r => exact RV.base r fun _ z => z.elim
  | o e r => exact .lst ⟨fun z => z, e, fun z => nomatch z⟩ (RA.base r fun _ z => z.elim)
theorem ObOk.rb (O : ObOk K H0 H N a Cl fv G l) : RbOk K H (fun _ => False) a Cl fv := by
  obtain ⟨dx, Fs, ef, el, e1, e2, hf, _⟩ := O.ex
  exact ⟨dx, Fs, ef, e1, fun z => z, fun t ht => (hf t ht).rv⟩
end
end Rk
namespace Rk
open PySem PySem.Spec PyProof.Rows L2
open Sem (wp)
end Rk
namespace Rk
open PySem PySem.Spec PyProof.Rows L2
open Sem (wp)
end Rk
namespace Rk
open PySem PySem.Spec PyProof.Rows L2
structure EvQP (C : Ct) (Pn : Hp) (ρ : List SV) (e : Expr) (Q : PyData → List SV → Prop) : Prop where
  run : ∀ q σ H, C.Env Pn H σ ρ N0 q → semE C.X e σ H fun v H' => ∃ D ρ' q', Q D ρ' ∧ C.Env Pn H' σ ρ' N0 q' ∧ C.R true H' (Own q' N0) v D
section
variable {C : Ct} {Pn : Hp} {ρ : List SV} {b b2 : Bool} {e e2 c o : Expr} {es : List Expr} {rest A : List Stmt} {pos pos' p p' apos : Pos} {k n m : Nat} {T : Tn} {x f : Str} {Q : PyData → List SV → Prop} {R : PyData → Prop} {Xs : Addr → Prop} {D : PyData} {a Cl : Addr} {fv : List (Str × FV)} {G : List (Addr × HO)} {ns : List Str} {As : List SV} {S : MSpec} {R2 : PyData → List (Str × FV) → Prop}
theorem EvQP.imp {Q' : PyData → List SV → Prop} (h : EvQP C Pn ρ e Q) (k : ∀ D r, Q D r → Q' D r) : EvQP C Pn ρ e Q' := .mk fun q σ H E => (h.run q σ H E).mono fun v H' ⟨D, r, q', hD, E', rv⟩ => ⟨D, r, q', k D r hD, E', rv⟩
end
end Rk
namespace Rk
open PySem PySem.Spec PyProof.Rows L2
structure HGd (t g : Nat) (h : House) : Prop where
  gd : GoodH 1000000000 h
  tl : h.1.length = t
  gl : h.2.length = g
structure BkOk (t g : Nat) (b : List House) : Prop where
  le : b.length ≤ 16
  hs : ∀ h ∈ b, HGd t g h
section
variable {t g : Nat} {b c : List House} {h : House} {z : Sz} {M M' : List Rat}
theorem BkOk.nil : BkOk t g [] := ⟨Nat.zero_le _, fun _ h => nomatch h⟩
theorem BkOk.snoc (H : BkOk t g b) (hh : HGd t g h) (l : b.length < 16) : BkOk t g (b ++ [h]) := ⟨by rw [List.length_append, List.length_singleton]; omega, fun o ho => by
  rcases List.mem_append.mp ho with z | z
  · exact H.hs o z
  · rw [List.mem_singleton.mp z]; exact hh⟩
theorem BkOk.sub (H : BkOk t g b) (hl : c.length ≤ 16) (hm : ∀ o ∈ c, o ∈ b) : BkOk t g c := ⟨hl, fun o ho => H.hs o (hm o ho)⟩
end
end Rk
namespace Rk
open PySem PySem.Spec PyProof.Rows L2
end Rk
namespace Rk
open PySem PySem.Spec PyProof.Rows L2
end Rk
namespace Rk
open PySem PySem.Spec PyProof.Rows L2
abbrev OSpec := SV → List (Str × FV) → List SV → List SV → (PyData → List (Str × FV) → Prop) → (Addr → Prop) → Prop
end Rk
namespace Rk
open PySem PySem.Spec PyProof.Rows L2
end Rk
namespace Rk
open PySem PySem.Spec PyProof.Rows L2
open PySem.AutoSeq1 (wpAny_loadPart')
end Rk
namespace Rk
open PySem PySem.Spec PyProof.Rows L2
inductive Deed
  | come (h : House)
  | go (i : Int)
  | back
  | alter (i : Int) (h : House)
def afterP (P : List (List House)) (b : List House) : Deed → List (List House)
  | .back => P.dropLast
  | _ => P ++ [b]
def afterB (P : List (List House)) (b : List House) : Deed → List House
  | .come h => b ++ [h]
  | .go i => b.take i.toNat ++ b.drop (i.toNat + 1)
  | .back => P.getLastD []
  | .alter i h => b.take i.toNat ++ [h] ++ b.drop (i.toNat + 1)
end Rk
namespace Rk
open PySem PySem.Spec PyProof.Rows L2
end Rk
namespace Rk
open PySem PySem.Spec PyProof.Rows L2
theorem hlast (P : List (List House)) (b : List House) : atI ((P ++ [b]).map dB) (-1) = some (dB b) := by
  have := atI_last (f := dB) (xs := P ++ [b]) (n := P.length) [] (by rw [List.length_append]; rfl)
  rwa [show (P ++ [b]).getD P.length [] = b by rw [List.getD, List.getElem?_append_right (Nat.le_refl _), Nat.sub_self]; rfl] at this
end Rk
namespace Rk
open PySem PySem.Spec PyProof.Rows L2
end Rk
namespace Rk
open PySem PySem.Spec PyProof.Rows L2
section
variable {K : PySem.W.Frag} {H0 Pn H : Hp} {F F' : Addr → Prop} {σ : L2.St} {ρ ρ' : List SV} {q q' : Qn}
theorem EnvQ.re (E : EnvQ K H0 Pn H σ ρ F q) (hl : ρ'.length = ρ.length) (hs : ∀ (i : Nat) s, ρ'[i]? = some s → SlotOk K H0 H (Own q F) σ[i]? s (q' i)) (inj : ∀ i j a, a ∈ q' i → a ∈ q' j → i = j) (out : ∀ i, ρ'.length ≤ i → q' i = [])
    (sub : ∀ a, Own q' F' a → Own q F a) (dis : ∀ a i, F' a → a ∉ q' i) : EnvQ K H0 Pn H σ ρ' F' q' :=
  have t : Shift H (Own q F) H (Own q' F') := ⟨fun _ _ _ e => e, fun a n => .inl (sub a n), E.own⟩
  ⟨E.len.trans hl.symm, fun i s h => (hs i s h).shift t fun _ _ => rfl, inj, out, E.same, E.base, fun a n => E.new a (sub a n), dis, fun a n => E.own a (sub a n)⟩
theorem EnvQ.at_oa {i : Nat} {b : Bool} {p : Addr} {Ds : List PyData} (E : EnvQ K H0 Pn H σ ρ F q) (h : ρ[i]? = some (.oa p b Ds)) : ∃ vs, H p = some (.lst vs) ∧ RA K b H0 H (Own q F) vs Ds ∧ q i = [p] := by
  have hs := E.slot i _ h
  generalize σ[i]? = x at hs
  generalize q i = l at hs
  cases hs with
  | oa e r => exact ⟨_, e, r, rfl⟩
end
structure EvX (C : Ct) (ρ : List SV) (e : Expr) (v : V) : Prop where
  run : ∀ Pn F q σ H, C.Env Pn H σ ρ F q → semE C.X e σ H fun u H' => Same H H' ∧ u = v
section
variable {C : Ct} {Pn : Hp} {ρ : List SV} {b b2 : Bool} {a c e o : Expr} {es : List Expr} {rest : List Stmt} {pos p1 p2 p3 : Pos} {i : Int} {v : V} {vs : List V} {p ad Cl : Addr} {fv : List (Str × FV)} {G : List (Addr × HO)} {n g k : Nat} {D : PyData} {Ds : List PyData} {As : List SV} {T : Tn} {f : Str} {ns : List Str} {x : Str}
theorem EvX.int (h : EvX C ρ e (.int i)) : Ev C ρ e true (.int i) := .mk fun Pn F q σ H E => (h.run _ F q σ H E).mono fun u H' ⟨s, r⟩ => ⟨s, by subst r; exact .int i⟩
theorem EvX.str {y : Str} (h : EvX C ρ e (.str y)) : Ev C ρ e true (.str y) := .mk fun Pn F q σ H E => (h.run _ F q σ H E).mono fun u H' ⟨s, r⟩ => ⟨s, by subst r; exact .str y⟩
theorem EvX.bx (h : EvX C ρ e (.ref p)) (hn : ρ[g]? = some (.oa p b Ds)) : Bx C ρ e b Ds := .mk fun Pn F q σ H E => (h.run _ F q σ H E).mono fun u H' ⟨s, r⟩ => by
  obtain ⟨vs, e, ra, _⟩ := (E.grow s).at_oa hn
  exact ⟨s, p, vs, r, e, ra⟩
end
end Rk
namespace Rk
open PySem PySem.Spec PyProof.Rows L2
abbrev GSpec := List SV → List SV → (PyData → List SV → Prop) → Prop
inductive ArgG (K : PySem.W.Frag) (H : Hp) (N : Addr → Prop) : V → SV → Prop
  | d {v D} : RV K false H H N v D → ArgG K H N v (.d false D)
  | al {v} : ArgG K H N v (.al v)
theorem EnvQ.tail {K : PySem.W.Frag} {H0 Pn H : Hp} {σ : L2.St} {ρ rs : List SV} {q : Qn} {m : Nat} (E : EnvQ K H0 Pn H σ ρ N0 q) (h : ρ.drop m = rs) : EnvQ K H0 Pn H (σ.drop m) rs N0 (fun i => q (i + m)) := by
  subst h
  have sub : ∀ a, Own (fun i => q (i + m)) N0 a → Own q N0 a := fun a n => by
    rcases n with n | ⟨i, n⟩
    · exact .inl n
    · exact .inr ⟨i + m, n⟩
  have t : Shift H (Own q N0) H (Own (fun i => q (i + m)) N0) := ⟨fun _ _ _ e => e, fun a n => .inl (sub a n), E.own⟩
  refine ⟨by rw [List.length_drop, List.length_drop, E.len], fun i s h => ?_, fun i j a x y => ?_, fun i hi => ?_, E.same, E.base, fun a n => E.new a (sub a n), fun a i n => n.elim, fun a n => E.own a (sub a n)⟩
  · rw [List.getElem?_drop] at h ⊢
    rw [Nat.add_comm m i] at h ⊢
    exact (E.slot _ _ h).shift t fun _ _ => rfl
  · have := E.inj _ _ a x y
    omega
  · rw [List.length_drop] at hi
    exact E.out _ (by omega)
end Rk
namespace Rk
open PySem PySem.Spec PyProof.Rows L2
section
variable {C : Ct} {Pn : Hp} {ρ : List SV} {b : Bool} {e : Expr} {es : List Expr} {rest : List Stmt} {pos p : Pos} {k : Nat} {T : Tn} {x : Str} {D : PyData} {Ds : List PyData} {v : V} {As gs : List SV} {js : List Nat} {S : GSpec} {R : PyData → List SV → Prop} {q : Qn} {N N' : Addr → Prop} {H H' : Hp}
theorem ArgG.to {v : V} {s : SV} (h : ArgG C.X.K H N v s) (t : Shift H N H' N') : ArgG C.X.K H' N' v s := by
  cases h with
  | d r => exact .d (Rp.mono (fun _ _ z => ⟨z.1, z.2.1, fun e => nomatch e⟩) (fun _ _ z => z) _ _ (t.rv r))
  | al => exact .al
end
end Rk
namespace Rk
open PySem PySem.Spec PyProof.Rows L2
end Rk
namespace Rk
open PySem PySem.Spec PyProof.Rows L2
end Rk
namespace Rk
open PySem PySem.Spec PyProof.Rows L2
end Rk
namespace Rk
open PySem PySem.Spec PyProof.Rows L2
end Rk
namespace Rk
open PySem PySem.Spec PyProof.Rows L2
abbrev DK := Int × Int × House × Nat
def kDeed (P : List (List House)) (b : List House) (d : DK) : Deed :=
  if d.1 = 1 ∧ 0 < b.length then .go (d.2.1 % ((b.length : Nat) : Int))
  else if d.1 = 2 ∧ 0 < b.length then .alter (d.2.1 % ((b.length : Nat) : Int)) d.2.2.1
  else if d.1 = 3 ∧ 0 < P.length then .back
  else if b.length = 16 then .go (d.2.1 % ((b.length : Nat) : Int)) else .come d.2.2.1
def stepK (s : List (List House) × List House) (d : DK) : List (List House) × List House := (afterP s.1 s.2 (kDeed s.1 s.2 d), afterB s.1 s.2 (kDeed s.1 s.2 d))
def runK (ds : List DK) : List (List House) × List House := ds.foldl stepK ([], [])
def leftK (ds : List DK) : Nat := (runK ds).1.length
def GoodK (t g : Nat) (ds : List DK) : Prop := ∀ i d, ds[i]? = some d → HGd t g d.2.2.1 ∧ d.2.2.2 = leftK (ds.take i)
theorem GoodK.nil {t g : Nat} : GoodK t g [] := fun i d h => by simp at h
theorem GoodK.snoc {t g : Nat} {ds : List DK} {d : DK} (H : GoodK t g ds) (h : HGd t g d.2.2.1) (hl : d.2.2.2 = leftK ds) : GoodK t g (ds ++ [d]) := fun i e he => by
  by_cases c : i < ds.length
  · rw [List.getElem?_append_left c] at he
    rw [List.take_append_of_le_length (by omega)]
    exact H i e he
  · have : i = ds.length := by
      have := (List.getElem?_eq_some_iff.mp he).1
      rw [List.length_append, List.length_singleton] at this; omega
    subst this
    rw [List.getElem?_append_right (Nat.le_refl _), Nat.sub_self] at he
    cases he
    rw [List.take_append_of_le_length (Nat.le_refl _), List.take_length]
    exact ⟨h, hl⟩
end Rk
namespace Rk
open PySem PySem.Spec PyProof.Rows L2
end Rk
namespace Rk
open PySem PySem.Spec PyProof.Rows L2
abbrev sgn (c : Nat) : PyData := .str ⟨#[c]⟩
end Rk
namespace Rk
open PySem PySem.Spec PyProof.Rows L2
abbrev numI (i : Int) : Str := Str.ofString (toString i)
theorem len_tl' (x : Str) : x.cps.toList.length = x.length := by simp [Str.length]
abbrev cComma : Str := ","
abbrev cGt : Str := ">"
def sideT (xs : List Int) : Str := Txt.join cComma (xs.map numI)
def houseT (h : House) : Str := Txt.join cGt [sideT h.1, sideT h.2]
def Wr (h : House) : Prop := h.1 ≠ [] ∧ h.2 ≠ [] ∧ ∀ i ∈ h.1 ++ h.2, 0 ≤ i ∧ i < 10 ^ 10
end Rk
namespace Rk
open PySem PySem.Spec PyProof.Rows L2
section
variable {C : Ct} {ρ : List SV} {b : Bool} {e : Expr} {Ds Es : List PyData}
theorem evo_eq (h : EvO C ρ e b Ds) (q : Ds = Es) : EvO C ρ e b Es := q ▸ h
theorem bw_eq (h : Bw C ρ e b Ds) (q : Ds = Es) : Bw C ρ e b Es := q ▸ h
end
theorem sum_len_le {B : Nat} : ∀ {xs : List Str}, (∀ x ∈ xs, x.length ≤ B) → (xs.map (·.length)).sum ≤ xs.length * B := fun h => StrLaws.sumLen_le _ h
theorem lenJoin_le (y : Str) : ∀ xs : List Str, (Txt.join y xs).length ≤ (xs.map (·.length)).sum + xs.length * y.length := fun xs => by
  rw [← len_tl', TL.join_eq, show (Str.join y xs).cps.toList = _ from TL.tl_join y xs]
  induction xs with
  | nil => simp [TL.joinL]
  | cons x r ih =>
    cases r with
    | nil =>
      show (TL.tl x).length ≤ _
      rw [← TL.len_tl]
      simp
    | cons z r =>
      show (TL.tl x ++ (TL.tl y ++ TL.joinL (TL.tl y) ((z :: r).map TL.tl))).length ≤ _
      rw [List.length_append, List.length_append, ← TL.len_tl, ← TL.len_tl]
      simp only [List.map_cons, List.sum_cons, List.length_cons, Nat.add_mul, Nat.one_mul] at ih ⊢
      omega
theorem join_len {y : Str} {xs : List Str} {B : Nat} (h : ∀ x ∈ xs, x.length ≤ B) : (Txt.join y xs).length ≤ xs.length * (B + y.length) := by
  have a := lenJoin_le y xs
  have c := sum_len_le h
  rw [Nat.mul_add]; omega
structure Sh (h : House) : Prop where
  t : h.1.length ≤ 5
  g : h.2.length ≤ 5
  a : ∀ i ∈ h.1 ++ h.2, 0 ≤ i ∧ i < 10 ^ 11
theorem numI_len' {i : Int} (h0 : 0 ≤ i) (h1 : i < 10 ^ 11) : (numI i).length ≤ 11 := toString_length_le h0 (by decide) h1
theorem sideT_len {xs : List Int} (hl : xs.length ≤ 5) (h : ∀ i ∈ xs, 0 ≤ i ∧ i < 10 ^ 11) : (sideT xs).length ≤ 60 := by
  have := join_len (y := cComma) (xs := xs.map numI) (B := 11) fun x hx => by
    obtain ⟨i, hi, rfl⟩ := List.mem_map.mp hx
    exact numI_len' (h i hi).1 (h i hi).2
  rw [List.length_map, show cComma.length = 1 by decide +kernel] at this
  show (Txt.join cComma (xs.map numI)).length ≤ 60
  omega
theorem Sh.len {h : House} (s : Sh h) : (houseT h).length ≤ 122 := by
  have := join_len (y := cGt) (xs := [sideT h.1, sideT h.2]) (B := 60) fun x hx => by
    rcases List.mem_cons.mp hx with q | q
    · subst q; exact sideT_len s.t fun i hi => s.a i (List.mem_append_left _ hi)
    · rw [List.mem_singleton.mp q]; exact sideT_len s.g fun i hi => s.a i (List.mem_append_right _ hi)
  rw [show cGt.length = 1 by decide +kernel] at this
  show (Txt.join cGt [sideT h.1, sideT h.2]).length ≤ 122
  simp only [List.length_cons, List.length_nil] at this
  omega
theorem GoodH.sh {h : House} {far : Int} (g : GoodH far h) (hf : far ≤ 1000000000) : Sh h := ⟨by have := g.t4; omega, by have := g.g4; omega, fun i hi => by
  rcases List.mem_append.mp hi with q | q
  · have := g.tk i q; omega
  · have := g.gv i q; omega⟩
theorem GoodH.wr {h : House} {far : Int} (g : GoodH far h) (hf : far ≤ 1000000000) : Wr h := ⟨fun e => by have := g.t1; rw [e] at this; simp at this, fun e => by have := g.g1; rw [e] at this; simp at this, fun i hi => by
  rcases List.mem_append.mp hi with q | q
  · have := g.tk i q; omega
  · have := g.gv i q; omega⟩
end Rk
namespace Rk
open PySem PySem.Spec PyProof.Rows L2
def sOk (x : Str) : Prop := ∀ c ∈ x.cps.toList, c < 1114112
theorem mem_joinL' {S : List Nat} {s : Nat} : ∀ {parts : List (List Nat)}, s ∈ TL.joinL S parts → s ∈ S ∨ ∃ p ∈ parts, s ∈ p
  | [], h => by simp [TL.joinL] at h
  | [p], h => .inr ⟨p, by simp, h⟩
  | p :: q :: r, h => by
    have h : s ∈ p ++ (S ++ TL.joinL S (q :: r)) := h
    rcases List.mem_append.mp h with a | a
    · exact .inr ⟨p, by simp, a⟩
    · rcases List.mem_append.mp a with a | a
      · exact .inl a
      · rcases mem_joinL' a with a | ⟨z, hz, a⟩
        · exact .inl a
        · exact .inr ⟨z, List.mem_cons_of_mem _ hz, a⟩
theorem sOk.join {y : Str} {xs : List Str} (h : sOk y) (k : ∀ x ∈ xs, sOk x) : sOk (Txt.join y xs) := fun c hc => by
  rw [TL.join_eq, show (Str.join y xs).cps.toList = _ from TL.tl_join y xs] at hc
  rcases mem_joinL' hc with q | ⟨p, hp, q⟩
  · exact h c q
  · obtain ⟨x, hx, rfl⟩ := List.mem_map.mp hp
    exact k x hx c q
end Rk
namespace Rk
open PySem PySem.Spec PyProof.Rows L2
structure Dk where
  z : Sz
  P : List (List House × Sz)
  b : List House
def likeB (b : List House) (h : House) : Prop := h.1.length = (b.getD 0 ([], [])).1.length ∧ h.2.length = (b.getD 0 ([], [])).2.length
section
variable {b : List House} {h : House} {n : Nat} {s : Dk} {A : Str → Addr}
theorem GBk.snocL (G : GBk b) (g : GoodH 1000000000 h) (l : likeB b h) (hn : b.length < 16) : GBk (b ++ [h]) := by
  obtain ⟨m, k, a1, a2, a3, a4, hs⟩ := G.hs
  have h0 : 0 < b.length := List.length_pos_iff.mpr G.ne
  have hm : b.getD 0 ([], []) ∈ b := by rw [List.getD, List.getElem?_eq_getElem h0]; exact List.getElem_mem h0
  have z := hs _ hm
  refine ⟨by simp, by rw [List.length_append, List.length_singleton]; omega, m, k, a1, a2, a3, a4, fun o ho => ?_⟩
  rcases List.mem_append.mp ho with q | q
  · exact hs o q
  · rw [List.mem_singleton.mp q]; exact ⟨g, l.1.trans z.2.1, l.2.trans z.2.2⟩
end
end Rk
namespace Rk
open PySem PySem.Spec PyProof.Rows L2
end Rk
namespace Rk
open PySem PySem.Spec PyProof.Rows L2
end Rk
namespace Rk
open PySem PySem.Spec PyProof.Rows L2
def O1 (o : House) : Prop := ∃ t g : Nat, o = ([(t : Int)], [(g : Int)]) ∧ 1 ≤ t ∧ t ≤ 30 ∧ 1 ≤ g ∧ g ≤ 30
theorem O1.good {o : House} (h : O1 o) : GoodH 1000000000 o := by
  obtain ⟨t, g, rfl, a, b, c, d⟩ := h
  refine ⟨by simp, by simp, by simp, by simp, fun x hx => ?_, fun x hx => ?_, ⟨(g : Int), by simp, by omega⟩⟩
  · rw [List.mem_singleton.mp hx]; omega
  · rw [List.mem_singleton.mp hx]; omega
structure Bk1 (b : List House) : Prop where
  ne : b ≠ []
  le : b.length ≤ 16
  o : ∀ h ∈ b, O1 h
theorem Bk1.like {b : List House} (H : Bk1 b) {h : House} (g : O1 h) : likeB b h := by
  have h0 : 0 < b.length := List.length_pos_iff.mpr H.ne
  have hm : b.getD 0 ([], []) ∈ b := by rw [List.getD, List.getElem?_eq_getElem h0]; exact List.getElem_mem h0
  obtain ⟨t, k, e, _⟩ := H.o _ hm
  obtain ⟨t', k', rfl, _⟩ := g
  unfold likeB
  rw [e]
  exact ⟨rfl, rfl⟩
end Rk
namespace Rk
open PySem PySem.Spec PyProof.Rows L2
end Rk
namespace Rk
open PySem PySem.Spec PyProof.Rows L2
end Rk
namespace Rk
open PySem PySem.Spec PyProof.Rows L2
section
open HT
variable {prog : Program} {w : World} {A : Around} {E : Value → Shared → Prop} {s : Shared}
end
theorem RpAll.reverse {L T : Addr → List V → Prop} : ∀ {ds : List PyData} {vs : List V}, RpAll L T vs ds → RpAll L T vs.reverse ds.reverse
  | [], _, h => by cases h; exact .nil
  | d :: ds, _, h => by
    cases h with
    | cons a b =>
      rw [List.reverse_cons, List.reverse_cons]
      exact RpAll.append (RpAll.reverse b) (.cons a .nil)
end Rk
namespace Rk
open PySem PySem.Spec PyProof.Rows L2
open Classical in
noncomputable def itemH (b : List House) (z : Sz) (h : House) : PyData := .tuple [.list [dF ((othV b h z).getD 0), dF (groV b h z)], .str (if RimP b h z then "rim" else "beaten")]
theorem item_eq {b b' : List House} {z z' : Sz} {h h' : House} (e1 : othV b h z = othV b' h' z') (e2 : groV b h z = groV b' h' z') (e3 : RimP b h z ↔ RimP b' h' z') : itemH b z h = itemH b' z' h' := by
  classical
  unfold itemH
  rw [e1, e2]
  by_cases q : RimP b h z
  · rw [if_pos q, if_pos (e3.mp q)]
  · rw [if_neg q, if_neg (fun w => q (e3.mpr w))]
def mulH (c : Int) (h : House) : House := (h.1.map (· * c), h.2.map (· * c))
section
variable {b b' os : List House} {h : House} {c : Int} {t : Rat} {m n : Nat} {s s' : Rat} {T G' : Nat → Rat}
theorem inH_any {r : Rat} (r0 : 0 ≤ r) (a : InH os .any m n s T G') : InH os .any m n s' (fun k => r * T k) (fun k => r * G' k) :=
  (a.mul r0).weak trivial (fun _ _ => Rat.le_refl) (fun _ _ => Rat.le_refl)
theorem tk_mul {k : Nat} (hk : k < h.1.length) : tkF (mulH c h) k = (c : Rat) * tkF h k := by
  have e : (mulH c h).1.getD k 0 = h.1.getD k 0 * c := getD_mapD (d := 0) hk
  show (((mulH c h).1.getD k 0 : Int) : Rat) = _
  rw [e, Rat.intCast_mul, Rat.mul_comm]
theorem gv_mul {k : Nat} (hk : k < h.2.length) : gvF (mulH c h) k = (c : Rat) * gvF h k := by
  have e : (mulH c h).2.getD k 0 = h.2.getD k 0 * c := getD_mapD (d := 0) hk
  show (((mulH c h).2.getD k 0 : Int) : Rat) = _
  rw [e, Rat.intCast_mul, Rat.mul_comm]
theorem mulH_l1 : (mulH c h).1.length = h.1.length := List.length_map _
theorem mulH_l2 : (mulH c h).2.length = h.2.length := List.length_map _
theorem can_mul (hc : 0 < c) : Can os (mulH c h) .any t ↔ Can os h .any t := by
  have c0 : (0 : Rat) < (c : Rat) := by exact_mod_cast hc
  have i0 : (0 : Rat) < (c : Rat)⁻¹ := Rat.inv_pos.mpr c0
  have ci : (c : Rat)⁻¹ * (c : Rat) = 1 := Rat.inv_mul_cancel _ (by grind)
  rw [can_iff, can_iff, mulH_l1, mulH_l2]
  constructor
  · intro a
    refine (inH_any (s' := 1) (Rat.le_of_lt i0) a).weak sizeRel_rfl (fun k hk => ?_) (fun k hk => ?_)
    · rw [tk_mul hk]
      have : (c : Rat)⁻¹ * ((c : Rat) * tkF h k * t) = (c : Rat)⁻¹ * (c : Rat) * (tkF h k * t) := by grind
      rw [this, ci, Rat.one_mul]; exact Rat.le_refl
    · rw [gv_mul hk, ← Rat.mul_assoc, ci, Rat.one_mul]; exact Rat.le_refl
  · intro a
    refine (inH_any (s' := 1) (Rat.le_of_lt c0) a).weak sizeRel_rfl (fun k hk => ?_) (fun k hk => ?_)
    · rw [tk_mul hk, Rat.mul_assoc]; exact Rat.le_refl
    · rw [gv_mul hk]; exact Rat.le_refl
theorem beat_mul (hc : 0 < c) : BeatP os (mulH c h) .any ↔ BeatP os h .any := by
  have c0 : (0 : Rat) < (c : Rat) := by exact_mod_cast hc
  have i0 : (0 : Rat) < (c : Rat)⁻¹ := Rat.inv_pos.mpr c0
  have ci : (c : Rat)⁻¹ * (c : Rat) = 1 := Rat.inv_mul_cancel _ (by grind)
  have back : ∀ x y : Rat, x = (c : Rat)⁻¹ * ((c : Rat) * x) := fun x _ => by rw [← Rat.mul_assoc, ci, Rat.one_mul]
  rw [beat_iff, beat_iff, mulH_l1, mulH_l2]
  constructor
  · rintro ⟨T, G, a, h1, h2, h3⟩
    refine ⟨_, _, inH_any (s' := 1) (Rat.le_of_lt i0) a, fun k hk => ?_, fun k hk => ?_, ?_⟩
    · have := Rat.mul_le_mul_of_nonneg_left (h1 k hk) (Rat.le_of_lt i0)
      rw [tk_mul hk, ← back _ 0] at this
      exact this
    · have := Rat.mul_le_mul_of_nonneg_left (h2 k hk) (Rat.le_of_lt i0)
      rw [gv_mul hk, ← back _ 0] at this
      exact this
    · rcases h3 with ⟨k, hk, lt⟩ | ⟨k, hk, lt⟩
      · have := Rat.mul_lt_mul_of_pos_left lt i0
        rw [tk_mul hk, ← back _ 0] at this
        exact .inl ⟨k, hk, this⟩
      · have := Rat.mul_lt_mul_of_pos_left lt i0
        rw [gv_mul hk, ← back _ 0] at this
        exact .inr ⟨k, hk, this⟩
  · rintro ⟨T, G, a, h1, h2, h3⟩
    refine ⟨_, _, inH_any (s' := 1) (Rat.le_of_lt c0) a, fun k hk => ?_, fun k hk => ?_, ?_⟩
    · rw [tk_mul hk]; exact Rat.mul_le_mul_of_nonneg_left (h1 k hk) (Rat.le_of_lt c0)
    · rw [gv_mul hk]; exact Rat.mul_le_mul_of_nonneg_left (h2 k hk) (Rat.le_of_lt c0)
    · rcases h3 with ⟨k, hk, lt⟩ | ⟨k, hk, lt⟩
      · exact .inl ⟨k, hk, by rw [tk_mul hk]; exact Rat.mul_lt_mul_of_pos_left lt c0⟩
      · exact .inr ⟨k, hk, by rw [gv_mul hk]; exact Rat.mul_lt_mul_of_pos_left lt c0⟩
theorem like_mul (L : Like h os) (hc : 1 ≤ c) : Like (mulH c h) os := by
  refine ⟨by rw [mulH_l1]; exact L.m1, by rw [mulH_l2]; exact L.n1, fun o ho => by rw [mulH_l1, mulH_l2]; exact L.len o ho, fun x hx => ?_, fun x hx => ?_, L.otk, L.ogv⟩
  · obtain ⟨y, hy, rfl⟩ := List.mem_map.mp hx
    have := L.tk y hy
    have : 1 * 1 ≤ y * c := Int.mul_le_mul this hc (by decide) (by omega)
    show 1 ≤ y * c
    omega
  · obtain ⟨y, hy, rfl⟩ := List.mem_map.mp hx
    exact Int.mul_nonneg (L.gv y hy) (by omega)
def Grown (b b' : List House) : Prop := (∀ o ∈ b, ∃ c : Int, 1 ≤ c ∧ mulH c o ∈ b') ∧ ∀ o' ∈ b', ∃ c : Int, ∃ o ∈ b, 1 ≤ c ∧ o' = mulH c o
theorem item_grown (G : GBk b) (Gb : GBk b') (W : Grown b b') (hh : h ∈ b) (hc : 1 ≤ c) (hm : mulH c h ∈ b') : itemH b' .any (mulH c h) = itemH b .any h := by
  have L := G.like hh
  have L1 := like_mul L hc
  have L' := Gb.like hm
  have len := L.len
  have g1 : Gen b b' .any (mulH c h).1.length (mulH c h).2.length := fun o ho => by
    obtain ⟨e, he, hm'⟩ := W.1 o ho
    have c0 : (0 : Rat) < (e : Rat) := by exact_mod_cast (show (0 : Int) < e by omega)
    have i0 : (0 : Rat) < (e : Rat)⁻¹ := Rat.inv_pos.mpr c0
    have ci : (e : Rat)⁻¹ * (e : Rat) = 1 := Rat.inv_mul_cancel _ (by grind)
    rw [mulH_l1, mulH_l2]
    refine (inH_any (s' := 1) (Rat.le_of_lt i0) (inH_self hm')).weak sizeRel_rfl (fun k hk => ?_) (fun k hk => ?_)
    · rw [tk_mul (by rw [(len o ho).1]; exact hk), ← Rat.mul_assoc, ci, Rat.one_mul]; exact Rat.le_refl
    · rw [gv_mul (by rw [(len o ho).2]; exact hk), ← Rat.mul_assoc, ci, Rat.one_mul]; exact Rat.le_refl
  have g2 : Gen b' b .any (mulH c h).1.length (mulH c h).2.length := fun o' ho' => by
    obtain ⟨e, o, ho, he, rfl⟩ := W.2 o' ho'
    have c0 : (0 : Rat) < (e : Rat) := by exact_mod_cast (show (0 : Int) < e by omega)
    rw [mulH_l1, mulH_l2]
    refine (inH_any (s' := 1) (Rat.le_of_lt c0) (inH_self ho)).weak sizeRel_rfl (fun k hk => ?_) (fun k hk => ?_)
    · rw [tk_mul (by rw [(len o ho).1]; exact hk)]; exact Rat.le_refl
    · rw [gv_mul (by rw [(len o ho).2]; exact hk)]; exact Rat.le_refl
  have eo : othV b' (mulH c h) .any = othV b h .any := (oth_gen L' L1 g2 g1).trans (othV_congr L1 L fun t => can_mul (by omega))
  obtain ⟨s, e, _⟩ := othV_hin (z := .any) G hh
  have s0 := can_pos L (G.posg hh) (othV_min L e).1
  refine item_eq eo ?_ ?_
  · rw [gro_any L hh (G.posg hh) e s0, gro_any L' hm (Gb.posg hm) (eo.trans e) s0]
  · rw [rim_not L' hm, rim_not L hh]
    refine not_congr ⟨fun B => (beat_mul (by omega)).mp (beat_gen g2 B), fun B => beat_gen g1 ((beat_mul (by omega)).mpr B)⟩
end
end Rk
namespace Rk
open PySem PySem.Spec PyProof.Rows L2
end Rk
namespace Rk
open PySem PySem.Spec PyProof.Rows L2
end Rk
namespace Rk
open PySem PySem.Spec PyProof.Rows L2
end Rk
namespace Rk
open PySem PySem.Spec PyProof.Rows L2
theorem mem_joinL_of {S : List Nat} {s : Nat} : ∀ {parts : List (List Nat)} {p : List Nat}, p ∈ parts → s ∈ p → s ∈ TL.joinL S parts
  | [q], p, h, hs => by rw [List.mem_singleton.mp h] at hs; exact hs
  | q :: r :: t, p, h, hs => by
    show s ∈ q ++ (S ++ TL.joinL S (r :: t))
    rcases List.mem_cons.mp h with e | h
    · rw [e] at hs; exact List.mem_append_left _ hs
    · exact List.mem_append_right _ (List.mem_append_right _ (mem_joinL_of h hs))
theorem sOk.part {x y s : Str} (h : sOk x) (hp : y ∈ Txt.split x s) : sOk y := fun c hc => by
  refine h c ?_
  have e : Txt.join s (Txt.split x s) = x := by rw [TL.join_eq]; exact StrLaws.join_split x s
  rw [← e, TL.join_eq, show (Str.join s (Txt.split x s)).cps.toList = _ from TL.tl_join s _]
  exact mem_joinL_of (List.mem_map_of_mem hp) hc
theorem sOk.cut {x : Str} (h : sOk x) (l k : Option Int) : sOk (cutS x l k) := fun c hc => by
  have : c ∈ ((x.cps.toList.drop (HT.sIx x.length 0 l)).take (HT.sIx x.length x.length k - HT.sIx x.length 0 l)) := by
    unfold cutS at hc
    simpa only [List.toList_toArray] using hc
  exact h c (List.mem_of_mem_drop (List.mem_of_mem_take this))
theorem cutD_part {α : Type} {f : α → PyData} {xs : List α} {i k : Nat} : cutD (xs.map f) (some ((i : Nat) : Int)) (some ((i + k : Nat) : Int)) = ((xs.drop i).take k).map f := by
  unfold cutD
  rw [HT.sIx_nat, HT.sIx_nat, ← List.map_drop, ← List.map_take, List.length_map]
  congr 1
  refine List.ext_getElem? fun j => ?_
  simp only [List.getElem?_take, List.getElem?_drop]
  by_cases h1 : i ≤ xs.length
  · rw [Nat.min_eq_left h1]
    by_cases h2 : i + k ≤ xs.length
    · rw [Nat.min_eq_left h2, show i + k - i = k by omega]
    · rw [Nat.min_eq_right (by omega)]
      by_cases h3 : j < xs.length - i
      · rw [if_pos h3, if_pos (by omega)]
      · rw [if_neg h3, List.getElem?_eq_none (by omega)]
        split <;> rfl
  · rw [Nat.min_eq_right (show xs.length ≤ i by omega), Nat.min_eq_right (show xs.length ≤ i + k by omega), if_neg (by omega), List.getElem?_eq_none (show xs.length ≤ i + j by omega)]
    split <;> rfl
end Rk
namespace Rk
open PySem PySem.Spec PyProof.Rows L2
abbrev StD := List PyData × Str
def StK (K : PySem.W.Frag) (H0 H : Hp) (N : Addr → Prop) (a : Addr) (d : StD) (l : List Addr) : Prop := ∃ q vs, l = [a, q] ∧ a ≠ q ∧ H a = some (.lst [.ref q, .str d.2]) ∧ H q = some (.lst vs) ∧ RA K true H0 H N vs d.1
theorem StK.shift {K : PySem.W.Frag} {H0 H H' : Hp} {N N' : Addr → Prop} {a : Addr} {d : StD} {l : List Addr} (h : StK K H0 H N a d l) (t : Shift H N H' N') (k : ∀ c ∈ l, H' c = H c) : StK K H0 H' N' a d l := by
  obtain ⟨q, vs, rfl, ne, h1, h2, r⟩ := h
  exact ⟨q, vs, rfl, ne, by rw [k a (by simp)]; exact h1, by rw [k q (by simp)]; exact h2, t.ra r⟩
end Rk
namespace Rk
open PySem PySem.Spec PyProof.Rows L2
def fwL (l : List Nat) : List Nat := l.takeWhile fun c => c != 32
theorem fwL_app {p r : List Nat} (h : 32 ∉ p) : fwL (p ++ r) = p ++ fwL r := by
  unfold fwL
  rw [List.takeWhile_append_of_pos]
  intro c hc
  have : c ≠ 32 := fun e => h (e ▸ hc)
  simpa using this
theorem fwL_sp {r : List Nat} : fwL (32 :: r) = [] := by simp [fwL]
theorem fwL_in {p r : List Nat} (h : 32 ∈ p) : fwL (p ++ r) = fwL p := by
  induction p with
  | nil => cases h
  | cons c p ih =>
    by_cases e : c = 32
    · subst e; rw [List.cons_append, fwL_sp, fwL_sp]
    · have h' : 32 ∈ p := (List.mem_cons.mp h).resolve_left (fun z => e z.symm)
      have := ih h'
      unfold fwL at this ⊢
      rw [List.cons_append, List.takeWhile_cons, List.takeWhile_cons, this]
structure Frb (FW F2 G2 : List (List Nat)) : Prop where
  h : ∀ w ∈ FW, w.take 2 ∈ F2 ∧ w.reverse.take 2 ∈ G2 ∧ 4 ≤ w.length
structure RowL (F2 G2 : List (List Nat)) (l : List Nat) : Prop where
  ex : ∃ c0 c1 m, l = c0 :: c1 :: m ∧ [c0, c1] ∉ F2 ∧ c0 ≠ 32 ∧ c1 ≠ 32 ∧ ∀ p, (p ++ fwL m).reverse.take 2 ∉ G2
section
variable {FW F2 G2 : List (List Nat)} {l m r : List Nat} {a a' c0 c1 : Nat}
theorem frb_two (B : Frb FW F2 G2) (h : [c0, c1] ∉ F2) (n0 : c0 ≠ 32) (n1 : c1 ≠ 32) : fwL (c0 :: c1 :: r) ∉ FW := fun z => by
  have e : fwL (c0 :: c1 :: r) = c0 :: c1 :: fwL r := fwL_app (p := [c0, c1]) (by simp; exact ⟨fun e => n0 e.symm, fun e => n1 e.symm⟩)
  have := (B.h _ z).1
  rw [e] at this
  exact h this
theorem frb_end (B : Frb FW F2 G2) (h : (fwL r).reverse.take 2 ∉ G2) : fwL r ∉ FW := fun z => h (B.h _ z).2.1
theorem frb_short (B : Frb FW F2 G2) (h : (fwL r).length < 4) : fwL r ∉ FW := fun z => by have := (B.h _ z).2.2; omega
theorem RowL.self (B : Frb FW F2 G2) (R : RowL F2 G2 l) : fwL l ∉ FW := by
  obtain ⟨c0, c1, m, rfl, h, n0, n1, _⟩ := R.ex
  exact frb_two B h n0 n1
theorem RowL.more (B : Frb FW F2 G2) (R : RowL F2 G2 l) : fwL (l ++ r) ∉ FW := by
  obtain ⟨c0, c1, m, rfl, h, n0, n1, _⟩ := R.ex
  exact frb_two B h n0 n1
theorem RowL.cut (B : Frb FW F2 G2) (R : RowL F2 G2 l) (ha : a' = a ∨ a' = a + 1) (hm : 32 ∈ m → fwL m = [] ∨ ∀ p, (p ++ fwL m).reverse.take 2 ∉ G2) : fwL (l.take a ++ m ++ l.drop a') ∉ FW := by
  obtain ⟨c0, c1, t, rfl, h, n0, n1, hp⟩ := R.ex
  rcases a with _ | _ | a
  · -- nothing is kept ahead
    rw [List.take_zero, List.nil_append]
    have hd : ∃ u, (c0 :: c1 :: t).drop a' = u ++ t ∧ 32 ∉ u := by
      rcases ha with e | e <;> subst e
      · exact ⟨[c0, c1], rfl, by simp; exact ⟨fun e => n0 e.symm, fun e => n1 e.symm⟩⟩
      · exact ⟨[c1], rfl, by simp; exact fun e => n1 e.symm⟩
    obtain ⟨u, eu, nu⟩ := hd
    rw [eu]
    by_cases h32 : 32 ∈ m
    · refine (fun q => q) ?_
      rw [fwL_in h32]
      rcases hm h32 with e | e
      · exact frb_short B (by rw [e]; decide)
      · exact frb_end B (by have := e []; rwa [List.nil_append] at this)
    · have e : fwL (m ++ (u ++ t)) = m ++ u ++ fwL t := by rw [fwL_app h32, fwL_app nu, List.append_assoc]
      exact frb_end B (by rw [e]; exact hp _)
  · have hd : ∃ u, (c0 :: c1 :: t).drop a' = u ++ t ∧ 32 ∉ u := by
      rcases ha with e | e <;> subst e
      · exact ⟨[c1], rfl, by simp; exact fun e => n1 e.symm⟩
      · exact ⟨[], rfl, by simp⟩
    obtain ⟨u, eu, nu⟩ := hd
    rw [eu]
    have n0' : (32 : Nat) ∉ [c0] := by simp; exact fun e => n0 e.symm
    have et : (c0 :: c1 :: t).take (0 + 1) = [c0] := rfl
    rw [et, List.append_assoc]
    by_cases h32 : 32 ∈ m
    · have e0 : fwL ([c0] ++ (m ++ (u ++ t))) = [c0] ++ fwL m := by rw [fwL_app n0', fwL_in h32]
      rcases hm h32 with e | e
      · exact frb_short B (by rw [e0, e]; simp)
      · exact frb_end B (by rw [e0]; exact e _)
    · have e : fwL ([c0] ++ (m ++ (u ++ t))) = [c0] ++ m ++ u ++ fwL t := by rw [fwL_app n0', fwL_app h32, fwL_app nu]; simp
      exact frb_end B (by rw [e]; exact hp _)
  · have et : (c0 :: c1 :: t).take (a + 1 + 1) = c0 :: c1 :: t.take a := rfl
    rw [et, List.append_assoc]
    exact frb_two B h n0 n1
end
abbrev cl (x : Str) : List Nat := x.cps.toList
end Rk
namespace Rk
open PySem PySem.Spec PyProof.Rows L2
end Rk
namespace Rk
open PySem PySem.Spec PyProof.Rows L2
abbrev KI := List (Str × Int)
section
variable {C : Ct} {Pn : Hp} {ρ : List SV} {b b1 b2 b3 : Bool} {k v e c : Expr} {ks : List (Option Expr)} {vs : List Expr} {A B : KI} {t : Str} {i d : Int} {pos p p2 p3 : Pos} {n m kz : Nat} {x : Str} {rest : List Stmt} {T : Tn} {Ks : List (Key × PyData)}
theorem KvOk.no {K : PySem.W.Frag} {H0 H : Hp} {N : Addr → Prop} {kvs : List (Key × V)} (h : KvOk K b H0 H N kvs Ks) {k : Key} (e : valP Ks k = none) : valV kvs k = none := by
  induction h with
  | nil => rfl
  | @cons p q ps qs a _ ih =>
    unfold valP at e
    rw [List.find?_cons] at e
    by_cases z : q.1 = k
    · rw [decide_eq_true z] at e
      cases e
    · rw [decide_eq_false z] at e
      rw [valV_neg (by rw [a.1]; exact z)]
      exact ih e
end
end Rk
namespace Rk
open PySem PySem.Spec PyProof.Rows L2
end Rk
namespace Rk
open PySem PySem.Spec PyProof.Rows L2
abbrev newSet (w : World) : Obj := { cls := .type "set", dict := none, data := .set #[] 0 (.fresh 0 0 (!w.params.followText "set-order")) }
section
variable {P : Program} {w : World} {A : Around} {E : Value → Shared → Prop} {s : Shared}
theorem call_setLst {l : Addr} {items : Array Value} (ns : List Int) {Q : Value → Shared → Prop} (hh : A.handled = none) (hl : s.heap.IsList l items) (hit : IntsAre items.toList ns) (hb : ns.length + 1 < scanBound)
    (h : ∀ (h' : Heap) (tk c : Nat), SetR w h' s.heap.objs.size (fun j => decide (j ∈ ns)) c → c ≤ ns.length → (∀ b o, s.heap.get? b = some o → h'.get? b = some o) → Q (.ref s.heap.objs.size) { s with heap := h', toks := tk }) :
    wpAny (model P w) A (call (.type "set") [.ref l]) Q E s := by
  have size : items.size = ns.length := (Array.length_toList (xs := items)).symm.trans (IntsAre.length hit)
  obtain ⟨c, tl, hmro⟩ := F.called_set.mro
  have hmade := F.called_set.made
  have hsub := F.called_set.sub
  refine wpAny_call (codeAny_of_tree ?_)
  show wpAny _ _ (callAny (.type "set") _) _ _ _
  refine wpAny_pure ⟨Code.quiet_builtin _ (by decide +kernel), codeAny_builtin F.entry_type_call ?_⟩
  rw [Around.under_plain (weight_type_call_type "set" [.ref l] []) rfl]
  have h1 := F.called_set.notType
  have h2 := F.called_set.canCreate
  have hct := F.typeCall_set_1 (.ref l)
  repeat (any_goals (first | assumption | wp_step))
  refine codeAny_mono (code_set_led1 (.ref l) (E := E) (Q₁ := fun obj s₁ => obj = .ref s.heap.objs.size ∧ s₁ = { s with heap := s.heap.push (newSet w) }) ⟨rfl, rfl⟩) fun r s₁ hr => ?_
  cases r with
  | error e => exact hr
  | ok fl =>
    cases fl with
    | ret obj =>
      obtain ⟨rfl, rfl⟩ := hr
      have hS : (s.heap.push (newSet w)).get? s.heap.objs.size = some (newSet w) := Heap.get?_push_size _ rfl
      have hT : Shared.TypeIs { s with heap := s.heap.push (newSet w) } (.ref s.heap.objs.size) "set" := ⟨_, hS, rfl⟩
      have hli := F.called_set.init.lookup
      have hbi := F.called_set.init.bind (.ref s.heap.objs.size)
      repeat (any_goals (first | assumption | wp_step))
      refine codeAny_mono (codeAny_call_builtin (R := wants (fun r s₂ => r = .none ∧ ∃ h' tk c, s₂ = { s with heap := h', toks := tk } ∧ SetR w h' s.heap.objs.size (fun j => decide (j ∈ ns)) c ∧ c ≤ ns.length ∧
          (∀ b o, s.heap.get? b = some o → h'.get? b = some o)) E) F.called_set.init.plain F.entry_set_init (check_set_init_1 hT ?_)) fun r₂ s₂ hr₂ => ?_
      · obtain ⟨⟨ocls, odict, odata, oslots⟩, hol, hcl, nl, hdl⟩ := hl
        simp only at hcl hdl
        subst hcl hdl
        have hol2 := Heap.get?_push_of_some (newSet w) hol
        have hs1 := F.sub_list_set
        have hs2 := F.sub_list_frozenset
        have hne : (Value.type "list" == Value.type "dict") = false := by decide
        have hl1 : (s.heap.push (newSet w)).IsList l items := ⟨_, hol2, rfl, nl, rfl⟩
        unfold Builtin.«set.__init__» noKeywords Builtin.Frozenset.updateFrom
        generalize hPI : pyIter = PI
        wp_walk
        subst hPI
        refine wpAny_pyIter_list hl1 ?_
        refine wpAny_bind (wpAny_runValue ?_)
        have hlS : l < s.heap.objs.size := Heap.lt_size hol
        have hh3 : A.in1.in1.in1.handled = none := by simp [hh]
        have hz : (s.heap.push (newSet w)).objs.size = s.heap.objs.size + 1 := Heap.size_push ..
        have hneI : l ≠ (s.heap.push (newSet w)).objs.size := by rw [hz]; exact Nat.ne_of_lt (Nat.lt_succ_of_lt hlS)
        have hSf : s.heap.objs.size ∉ [(s.heap.push (newSet w)).objs.size, l] := by
          rw [hz]; simp only [List.mem_cons, List.not_mem_nil, or_false, not_or]
          exact ⟨Nat.ne_of_lt (Nat.lt_succ_self _), Nat.ne_of_gt hlS⟩
        have hval : ∀ (i : Nat) (v : Value), items[i]? = some v → ∃ k t, ns[i]? = some k ∧ v = .int k t := fun i v hv => by
          have hi : i < ns.length := by rw [← size]; exact (Array.getElem?_eq_some_iff.mp hv).1
          obtain ⟨t, e⟩ := PyProof.Rows.IntsAre.int_at hit i v (by rw [Array.getElem?_toList]; exact hv)
          refine ⟨ns[i], t, List.getElem?_eq_getElem hi, ?_⟩
          rw [e, List.getD_eq_getElem?_getD, List.getElem?_eq_getElem hi] <;> rfl
        refine set_update_ints ((Walks.list hh3 _ l hneI items).toS) s.heap.objs.size hSf ns size hb hval (items.size - 0) 0 _ (by omega) (Nat.zero_le _) ⟨⟨_, Heap.get?_push_size _ rfl, rfl, rfl⟩, (hl1.push _)⟩ ⟨0, Nat.le_refl 0, setR_new_at (Heap.get?_push_of_some _ hS)⟩ fun s' c' hm hc' hS' => ?_
        obtain ⟨h', g2, d', tk', os'⟩ := s'
        obtain rfl : g2 = s.gens := hm.gens
        obtain rfl : d' = s.drawn := hm.drawn
        obtain rfl : os' = s.os := hm.os
        show wpAny _ _ _ _ _ _
        refine wpAny_pure ?_
        show wpAny _ _ (ret Value.none) _ _ _
        rw [size] at hc'
        refine wpAny_pure ⟨rfl, h', tk', c', rfl, hS', hc', fun b o e => ?_⟩
        have hb0 : b < s.heap.objs.size := Heap.lt_size e
        exact hm.heap b o (by
          rw [hz]
          simp only [List.mem_cons, List.not_mem_nil, or_false, not_or]
          exact ⟨Nat.ne_of_lt hb0, Nat.ne_of_lt (Nat.lt_succ_of_lt hb0)⟩) (Heap.get?_push_of_some _ (Heap.get?_push_of_some _ e))
      · cases r₂ with
        | error e => exact hr₂
        | ok fl₂ =>
          cases fl₂ with
          | ret r =>
            obtain ⟨rfl, h', tk, c', rfl, hS', hc', hk'⟩ := hr₂
            repeat (any_goals (first | assumption | wp_step))
            exact h _ _ _ hS' hc' hk'
          | _ => exact hr₂.elim
    | _ => exact hr.elim
end
section
variable {X : Cx}
def rSetL (K : PySem.W.Frag) (w : World) : List V → Hp → VK → Prop := fun vs H Q => ∃ (a : Addr) (ns : List Int), vs = [V.ref a] ∧ SqL K H a (ns.map V.int) ∧ ns.length ≤ 1000 ∧
  ∀ (p : Addr) (c : Nat), c ≤ ns.length → H p = none → Q (.ref p) (upd H p (SetO w p (fun j => decide (j ∈ ns)) c))
theorem cr_setL (hc : X.calm = true) : CallR X (.type "set") (rSetL X.K X.w) := by
  intro pins s σ H vs us Q I r h
  obtain ⟨a, ns, rfl, hs, hl, q⟩ := h
  rw [Vals.ref1 r]
  obtain ⟨its, rv, pl, hz⟩ := I.list hs
  refine call_setLst ns (I.ok.hd hc) pl.isList (by simpa using ints_of_vals rv) (by unfold scanBound; omega) fun h' tk c R1 hcn k => ?_
  exact ⟨.ref _, upd H s.heap.objs.size (SetO X.w s.heap.objs.size (fun j => decide (j ∈ ns)) c), I.laid (t' := tk) k (Nat.le_refl _) (setO_new R1), rfl, q _ c hcn (I.hok.fresh (Nat.le_refl _))⟩
end
def insD (x : Int) : List Int → List Int
  | [] => [x]
  | y :: ys => if x < y then x :: y :: ys else if x = y then y :: ys else y :: insD x ys
def dsI (xs : List Int) : List Int := xs.foldr insD []
theorem insD_mem {x z : Int} : ∀ {ys : List Int}, z ∈ insD x ys ↔ z = x ∨ z ∈ ys
  | [] => by simp [insD]
  | y :: ys => by
    unfold insD
    split
    · simp
    · split
      · rename_i e; subst e; simp
      · rw [List.mem_cons, insD_mem, List.mem_cons]
        constructor
        · rintro (h | h | h)
          · exact .inr (.inl h)
          · exact .inl h
          · exact .inr (.inr h)
        · rintro (h | h | h)
          · exact .inr (.inl h)
          · exact .inl h
          · exact .inr (.inr h)
theorem insD_asc {x : Int} : ∀ {ys : List Int}, ys.Pairwise (· < ·) → (insD x ys).Pairwise (· < ·)
  | [], _ => List.pairwise_singleton _ _
  | y :: ys, h => by
    obtain ⟨h1, h2⟩ := List.pairwise_cons.mp h
    unfold insD
    split
    · rename_i lt
      exact List.pairwise_cons.mpr ⟨fun z hz => by
        rcases List.mem_cons.mp hz with e | e
        · rw [e]; exact lt
        · exact Int.lt_trans lt (h1 z e), h⟩
    · split
      · exact h
      · rename_i n1 n2
        exact List.pairwise_cons.mpr ⟨fun z hz => by
          rcases insD_mem.mp hz with e | e
          · rw [e]; omega
          · exact h1 z e, insD_asc h2⟩
theorem dsI_mem {z : Int} : ∀ {xs : List Int}, z ∈ dsI xs ↔ z ∈ xs
  | [] => by simp [dsI]
  | x :: xs => by
    show z ∈ insD x (dsI xs) ↔ _
    rw [insD_mem, dsI_mem, List.mem_cons]
theorem dsI_asc : ∀ xs : List Int, (dsI xs).Pairwise (· < ·)
  | [] => List.Pairwise.nil
  | x :: xs => insD_asc (dsI_asc xs)
theorem insD_len {x : Int} : ∀ {ys : List Int}, (insD x ys).length ≤ ys.length + 1
  | [] => by simp [insD]
  | y :: ys => by
    unfold insD
    split
    · simp
    · split
      · simp
      · have := insD_len (x := x) (ys := ys)
        simp only [List.length_cons]; omega
theorem dsI_len : ∀ xs : List Int, (dsI xs).length ≤ xs.length
  | [] => by simp [dsI]
  | x :: xs => by
    have h1 := insD_len (x := x) (ys := dsI xs)
    have h2 := dsI_len xs
    show (insD x (dsI xs)).length ≤ _
    simp only [List.length_cons]; omega
theorem asc_eq : ∀ {xs ys : List Int}, xs.Pairwise (· < ·) → ys.Pairwise (· < ·) → (∀ z, z ∈ xs ↔ z ∈ ys) → xs = ys
  | [], [], _, _, _ => rfl
  | [], y :: ys, _, _, h => absurd ((h y).mpr List.mem_cons_self) List.not_mem_nil
  | x :: xs, [], _, _, h => absurd ((h x).mp List.mem_cons_self) List.not_mem_nil
  | x :: xs, y :: ys, hx, hy, h => by
    obtain ⟨x1, x2⟩ := List.pairwise_cons.mp hx
    obtain ⟨y1, y2⟩ := List.pairwise_cons.mp hy
    have e : x = y := by
      rcases List.mem_cons.mp ((h x).mp List.mem_cons_self) with a | a
      · exact a
      · rcases List.mem_cons.mp ((h y).mpr List.mem_cons_self) with b | b
        · exact b.symm
        · have := x1 y b
          have := y1 x a
          omega
    subst e
    rw [asc_eq x2 y2 fun z => ?_]
    constructor
    · intro hz
      rcases List.mem_cons.mp ((h z).mp (List.mem_cons_of_mem _ hz)) with a | a
      · have := x1 z hz; omega
      · exact a
    · intro hz
      rcases List.mem_cons.mp ((h z).mpr (List.mem_cons_of_mem _ hz)) with a | a
      · have := y1 z hz; omega
      · exact a
section
variable {C : Ct} {ρ : List SV} {b : Bool} {e : Expr} {p p2 pos pos2 : Pos} {xs : List Int}
theorem evo_sortSet (hc : C.X.calm = true) (hm : C.X.mg "sorted" = none) (hm2 : C.X.mg "set" = none) (h : Bw C ρ e b (xs.map PyData.int)) (hl : xs.length < 64)
    (he : starEach (e :: []) C.X.env = (false, eval e C.X.env) :: starEach [] C.X.env := by rfl) (hpl : (backTo pos (starEach [] C.X.env)).any (·.1) = false := by rfl) (hpl2 : (backTo pos2 (starEach [] C.X.env)).any (·.1) = false := by rfl)
    (he2 : starEach (.Call (.Name "set" p2) [e] [] pos2 :: []) C.X.env = (false, eval (.Call (.Name "set" p2) [e] [] pos2) C.X.env) :: starEach [] C.X.env := by rfl)
    (hg : Gl C.X "sorted" := by rfl) (hg2 : Gl C.X "set" := by rfl) : EvO C ρ (.Call (.Name "sorted" p) [.Call (.Name "set" p2) [e] [] pos2] [] pos) true ((dsI xs).map PyData.int) := .mk fun Pn F q σ H E =>
  semE_of (pe_callB (cr_sortedSet (X := C.X) hc) hg hm (by decide +kernel) (pa_cons (pe_callTy (cr_setL (X := C.X) hc) hg2 hm2 PyProof.Rows.boot_set (pa_cons pe_sem pa_nil he) (by decide) (by decide) he hpl2) pa_nil he2) (by decide) (by decide) he2 hpl) ((h.run _ F q σ H E).mono fun v H1 ⟨s1, a, vs, ev, sq, r⟩ => by
    subst ev
    obtain rfl := RpAll.ints r
    refine ⟨a, xs, rfl, sq, by omega, fun t c hcl ht => ?_⟩
    have s2 : Same H1 (upd H1 t (SetO C.X.w t (fun j => decide (j ∈ xs)) c)) := same_upd ht
    refine ⟨t, _, c, rfl, upd_same, by omega, fun ns u h1 h2 h3 hu => ?_⟩
    obtain rfl : ns = dsI xs := asc_eq h1 (dsI_asc xs) fun z => by rw [h2, decide_eq_true_eq, dsI_mem]
    have s3 : Same (upd H1 t (SetO C.X.w t (fun j => decide (j ∈ xs)) c)) (upd (upd H1 t (SetO C.X.w t (fun j => decide (j ∈ xs)) c)) u (.lst ((dsI xs).map V.int))) := same_upd hu
    exact ⟨(s1.trans s2).trans s3, u, _, rfl, (s1.trans s2).free hu, upd_same, RpAll.of_ints _⟩)
end
end Rk
namespace Rk
open PySem PySem.Spec PyProof.Rows L2
section
variable {b os : List House} {ks : List Nat} {i k m n s : Nat} {t : Rat} {h : House} {p : Prices}
theorem adK_cons : adK b (i :: ks) s k = (sdH (hat b i) s).getD k 0 + adK b ks s k := by
  unfold adK
  rw [List.map_cons, List.sum_cons]
theorem adK_cast : ∀ ks : List Nat, ((adK b ks s k : Int) : Rat) = sumQ (ks.map fun i => (((sdH (hat b i) s).getD k 0 : Int) : Rat))
  | [] => by
    show ((0 : Int) : Rat) = 0
    rfl
  | i :: ks => by
    rw [adK_cons, Rat.intCast_add, adK_cast ks]; rfl
theorem adV_at (hk : k < (sdH (hat b 0) s).length) : (adV b ks s).getD k 0 = adK b ks s k := by
  unfold adV
  rw [getD_mapD (d := 0) (by rw [List.length_range]; exact hk), List.getD, List.getElem?_range hk]; rfl
theorem tk_mg (hk : k < (hat b 0).1.length) : tkF (mgH b ks) k = sumQ (ks.map fun i => tkF (hat b i) k) := by
  have e : (mgH b ks).1.getD k 0 = adK b ks 0 k := adV_at (s := 0) hk
  show (((mgH b ks).1.getD k 0 : Int) : Rat) = _
  rw [e, adK_cast]; rfl
theorem gv_mg (hk : k < (hat b 0).2.length) : gvF (mgH b ks) k = sumQ (ks.map fun i => gvF (hat b i) k) := by
  have e : (mgH b ks).2.getD k 0 = adK b ks 1 k := adV_at (s := 1) hk
  show (((mgH b ks).2.getD k 0 : Int) : Rat) = _
  rw [e, adK_cast]; rfl
theorem mg_l1 : (mgH b ks).1.length = (hat b 0).1.length := adV_len (s := 0)
theorem mg_l2 : (mgH b ks).2.length = (hat b 0).2.length := adV_len (s := 1)
theorem inH_sums {T G : Nat → Nat → Rat} : ∀ ks : List Nat, (∀ i ∈ ks, InH os .any m n 1 (T i) (G i)) → ∀ s : Rat, InH os .any m n s (fun k => sumQ (ks.map fun i => T i k)) (fun k => sumQ (ks.map fun i => G i k))
  | [], _, s => inH_zero.weak trivial (fun k _ => Rat.le_refl) (fun k _ => Rat.le_refl)
  | i :: ks, H, s => by
    have ih := inH_sums ks (fun j hj => H j (List.mem_cons_of_mem _ hj)) 1
    exact ((H i List.mem_cons_self).add ih).weak trivial (fun k _ => Rat.le_refl) (fun k _ => Rat.le_refl)
theorem sumQ_le {f g : Nat → Rat} : ∀ ks : List Nat, (∀ i ∈ ks, f i ≤ g i) → sumQ (ks.map f) ≤ sumQ (ks.map g)
  | [], _ => Rat.le_refl
  | i :: ks, H => by
    have a := H i List.mem_cons_self
    have b := sumQ_le ks fun j hj => H j (List.mem_cons_of_mem _ hj)
    show f i + sumQ (ks.map f) ≤ g i + sumQ (ks.map g)
    grind
theorem sumQ_lt {f g : Nat → Rat} : ∀ ks : List Nat, ks ≠ [] → (∀ i ∈ ks, f i < g i) → sumQ (ks.map f) < sumQ (ks.map g)
  | [], n, _ => absurd rfl n
  | i :: ks, _, H => by
    have a := H i List.mem_cons_self
    have b := sumQ_le (f := f) (g := g) ks fun j hj => Rat.le_of_lt (H j (List.mem_cons_of_mem _ hj))
    show f i + sumQ (ks.map f) < g i + sumQ (ks.map g)
    grind
theorem sumQ_mulR {f : Nat → Rat} : ∀ ks : List Nat, sumQ (ks.map fun i => f i * t) = sumQ (ks.map f) * t
  | [] => by show (0 : Rat) = 0 * t; grind
  | i :: ks => by
    show f i * t + sumQ (ks.map fun i => f i * t) = (f i + sumQ (ks.map f)) * t
    rw [sumQ_mulR ks]; grind
theorem adK_bd {lo hi : Int} : ∀ ks : List Nat, (∀ i ∈ ks, lo ≤ (sdH (hat b i) s).getD k 0 ∧ (sdH (hat b i) s).getD k 0 ≤ hi) → lo * ((ks.length : Nat) : Int) ≤ adK b ks s k ∧ adK b ks s k ≤ hi * ((ks.length : Nat) : Int)
  | [], _ => by
    have e : adK b [] s k = 0 := rfl
    rw [e]; simp
  | i :: ks, H => by
    obtain ⟨a1, a2⟩ := H i List.mem_cons_self
    obtain ⟨b1, b2⟩ := adK_bd ks fun j hj => H j (List.mem_cons_of_mem _ hj)
    rw [adK_cons, List.length_cons]
    have e1 : lo * ((ks.length + 1 : Nat) : Int) = lo * ((ks.length : Nat) : Int) + lo := by rw [Int.natCast_add, Int.mul_add]; simp
    have e2 : hi * ((ks.length + 1 : Nat) : Int) = hi * ((ks.length : Nat) : Int) + hi := by rw [Int.natCast_add, Int.mul_add]; simp
    omega
structure MgOk (b : List House) (ks : List Nat) : Prop where
  G : GBk b
  F : ∀ o ∈ b, GoodH 10000000 o
  ne : ks ≠ []
  lt : ∀ i ∈ ks, i < b.length
  le : ks.length ≤ 64
theorem MgOk.bd0 (M : MgOk b ks) (hk : k < (hat b 0).1.length) : 1 ≤ adK b ks 0 k ∧ adK b ks 0 k ≤ 1000000000 := by
  have hl := M.le
  have h0 : 0 < ks.length := List.length_pos_iff.mpr M.ne
  obtain ⟨a, c⟩ := adK_bd (b := b) (s := 0) (k := k) (lo := 1) (hi := 10000000) ks fun i hi => by
    have hm := houseAt (M.lt i hi)
    have l := M.G.sdl hm 0
    exact (M.F _ hm).tk _ (mem_getD (by
      have l : (hat b i).1.length = (hat b 0).1.length := l
      show k < (hat b i).1.length
      omega) 0)
  omega
theorem MgOk.bd1 (M : MgOk b ks) (hk : k < (hat b 0).2.length) : 0 ≤ adK b ks 1 k ∧ adK b ks 1 k ≤ 1000000000 := by
  have hl := M.le
  obtain ⟨a, c⟩ := adK_bd (b := b) (s := 1) (k := k) (lo := 0) (hi := 10000000) ks fun i hi => by
    have hm := houseAt (M.lt i hi)
    have l := M.G.sdl hm 1
    exact (M.F _ hm).gv _ (mem_getD (by
      have l : (hat b i).2.length = (hat b 0).2.length := l
      show k < (hat b i).2.length
      omega) 0)
  omega
theorem MgOk.mem0 (M : MgOk b ks) {x : Int} (hx : x ∈ adV b ks 0) : 1 ≤ x ∧ x ≤ 1000000000 := by
  obtain ⟨k, hk, rfl⟩ := List.mem_map.mp hx
  exact M.bd0 (List.mem_range.mp hk)
theorem MgOk.mem1 (M : MgOk b ks) {x : Int} (hx : x ∈ adV b ks 1) : 0 ≤ x ∧ x ≤ 1000000000 := by
  obtain ⟨k, hk, rfl⟩ := List.mem_map.mp hx
  exact M.bd1 (List.mem_range.mp hk)
theorem MgOk.zero (M : MgOk b ks) : hat b 0 ∈ b := houseAt (List.length_pos_iff.mpr M.G.ne)
theorem MgOk.big (M : MgOk b ks) : ¬ adBig b ks := by
  have g := M.G.good M.zero
  rintro (z | z)
  · have h0 : adV b ks 0 ≠ [] := fun e => by
      have l : (adV b ks 0).length = (hat b 0).1.length := adV_len (s := 0)
      rw [e] at l
      have := g.t1
      rw [List.length_nil] at l
      rw [← l] at this
      exact absurd this (by decide)
    exact absurd (M.mem0 (gMax_mem h0)).2 (Int.not_le.mpr z)
  · have h0 : adV b ks 1 ≠ [] := fun e => by
      have l : (adV b ks 1).length = (hat b 0).2.length := adV_len (s := 1)
      rw [e] at l
      have := g.g1
      rw [List.length_nil] at l
      rw [← l] at this
      exact absurd this (by decide)
    exact absurd (M.mem1 (gMax_mem h0)).2 (Int.not_le.mpr z)
theorem MgOk.good (M : MgOk b ks) : GoodH 1000000000 (mgH b ks) := by
  have g := M.G.good M.zero
  have l1 := mg_l1 (b := b) (ks := ks)
  have l2 := mg_l2 (b := b) (ks := ks)
  refine ⟨by rw [l1]; exact g.t1, by rw [l1]; exact g.t4, by rw [l2]; exact g.g1, by rw [l2]; exact g.g4, fun x hx => M.mem0 hx, fun x hx => M.mem1 hx, ?_⟩
  obtain ⟨i, ks', e⟩ : ∃ i ks', ks = i :: ks' := by
    cases ks with
    | nil => exact absurd rfl M.ne
    | cons i ks' => exact ⟨i, ks', rfl⟩
  have hi : i < b.length := M.lt i (by rw [e]; exact List.mem_cons_self)
  have hm := houseAt hi
  obtain ⟨x, hx, x0⟩ := (M.F _ hm).ps
  obtain ⟨k, hk, ex⟩ := List.getElem_of_mem hx
  have l : (hat b i).2.length = (hat b 0).2.length := M.G.sdl hm 1
  have hk' : k < (hat b 0).2.length := by rw [← l]; exact hk
  refine ⟨adK b ks 1 k, List.mem_map.mpr ⟨k, List.mem_range.mpr hk', rfl⟩, ?_⟩
  have e0 : (sdH (hat b i) 1).getD k 0 = x := by
    show (hat b i).2.getD k 0 = x
    rw [List.getD, List.getElem?_eq_getElem hk]; exact ex
  have M' : 0 ≤ adK b ks' 1 k := by
    obtain ⟨a, _⟩ := adK_bd (b := b) (s := 1) (k := k) (lo := 0) (hi := 10000000) ks' fun j hj => by
      have hj' := M.lt j (by rw [e]; exact List.mem_cons_of_mem _ hj)
      have hm := houseAt hj'
      have l : (hat b j).2.length = (hat b 0).2.length := M.G.sdl hm 1
      exact (M.F _ hm).gv _ (mem_getD (by show k < (hat b j).2.length; omega) 0)
    omega
  rw [e, adK_cons, e0]
  omega
theorem MgOk.behind (M : MgOk b ks) (hb : b.length < 16) : GBk (b ++ [mgH b ks]) := M.G.snocL M.good ⟨mg_l1, mg_l2⟩ hb
theorem GBk.snoc2 {h : House} (G : GBk (b ++ [h])) (hb : b.length + 1 < 16) : GBk (b ++ [h] ++ [h]) := by
  obtain ⟨_, _, m, n, a1, a2, a3, a4, hs⟩ := G
  refine ⟨by simp, by simp; omega, m, n, a1, a2, a3, a4, fun o ho => hs o ?_⟩
  rcases List.mem_append.mp ho with q | q
  · exact q
  · exact List.mem_append_right _ q
theorem hat_last {o : House} : hat (b ++ [o]) b.length = o := by
  show (b ++ [o]).getD b.length _ = o
  rw [List.getD, List.getElem?_append_right (Nat.le_refl _), Nat.sub_self]; rfl
theorem MgOk.gen (M : MgOk b ks) : Gen (b ++ [mgH b ks]) b .any (hat b 0).1.length (hat b 0).2.length := fun o ho => by
  rcases List.mem_append.mp ho with q | q
  · exact inH_self q
  · rw [List.mem_singleton.mp q]
    refine (inH_sums (T := fun i => tkF (hat b i)) (G := fun i => gvF (hat b i)) ks (fun i hi => inH_self (houseAt (M.lt i hi))) 1).weak sizeRel_rfl (fun k hk => ?_) (fun k hk => ?_)
    · rw [tk_mg hk]; exact Rat.le_refl
    · rw [gv_mg hk]; exact Rat.le_refl
theorem MgOk.shr (M : MgOk b ks) (hb : b.length < 16) (hk : k < b.length) : shrV (b ++ [mgH b ks]) k .any = shrV b k .any := by
  have G' := M.behind hb
  have hm := houseAt hk
  have e := hat_app (o := mgH b ks) hk
  have l1 := (M.G.same (k := 0) (List.length_pos_iff.mpr M.G.ne) _ hm)
  unfold shrV
  rw [e]
  congr 1
  refine oth_gen (G'.like (List.mem_append_left _ hm)) (M.G.like hm) ?_ (Gen.sub fun o ho => List.mem_append_left _ ho)
  rw [l1.1, l1.2]
  exact M.gen
theorem shr_twice {o : House} (G : GBk (b ++ [o])) (hb : b.length + 1 < 16) : shrV (b ++ [o] ++ [o]) b.length .any = shrV (b ++ [o]) b.length .any := by
  have G' := G.snoc2 hb
  have e1 : hat (b ++ [o] ++ [o]) b.length = o := by rw [hat_app (by simp), hat_last]
  unfold shrV
  rw [e1, hat_last]
  congr 1
  have h1 : o ∈ b ++ [o] := List.mem_append_right _ (List.mem_singleton.mpr rfl)
  have h2 : o ∈ b ++ [o] ++ [o] := List.mem_append_left _ h1
  refine oth_gen (G'.like h2) (G.like h1) (Gen.sub fun x hx => ?_) (Gen.sub fun x hx => List.mem_append_left _ hx)
  rcases List.mem_append.mp hx with q | q
  · exact q
  · exact List.mem_append_right _ q
theorem arg_max {f : Nat → Rat} : ∀ ks : List Nat, ks ≠ [] → ∃ k ∈ ks, ∀ i ∈ ks, f i ≤ f k
  | [], n => absurd rfl n
  | [i], _ => ⟨i, List.mem_singleton.mpr rfl, fun j hj => by rw [List.mem_singleton.mp hj]; exact Rat.le_refl⟩
  | i :: j :: ks, _ => by
    obtain ⟨k, hk, H⟩ := arg_max (f := f) (j :: ks) (by simp)
    by_cases c : f k ≤ f i
    · refine ⟨i, List.mem_cons_self, fun x hx => ?_⟩
      rcases List.mem_cons.mp hx with e | e
      · rw [e]; exact Rat.le_refl
      · exact Rat.le_trans (H x e) c
    · refine ⟨k, List.mem_cons_of_mem _ hk, fun x hx => ?_⟩
      rcases List.mem_cons.mp hx with e | e
      · rw [e]; exact Rat.le_of_lt (Rat.not_le.mp c)
      · exact H x e
theorem MgOk.best (M : MgOk b ks) (hb : b.length < 16) : ∃ k ∈ ks, shrV (b ++ [mgH b ks]) b.length .any ≤ shrV b k .any := by
  have G' := M.behind hb
  obtain ⟨k, hk, H⟩ := arg_max (f := fun i => shrV b i .any) ks M.ne
  refine ⟨k, hk, ?_⟩
  have hl : b.length < (b ++ [mgH b ks]).length := by simp
  have e := shrV_some (z := .any) G' hl
  rw [hat_last] at e
  refine (othV_min (G'.like (List.mem_append_right _ (List.mem_singleton.mpr rfl))) e).2 _ ?_
  refine can_more (fun o ho => List.mem_append_left _ ho) (can_iff.mpr ?_)
  rw [mg_l1, mg_l2]
  refine (inH_sums (T := fun i k' => tkF (hat b i) k' * shrV b k .any) (G := fun i => gvF (hat b i)) ks (fun i hi => ?_) 1).weak sizeRel_rfl (fun j hj => ?_) (fun j hj => ?_)
  · have hm := houseAt (M.lt i hi)
    have c := (othV_min (M.G.like hm) (shrV_some (z := .any) M.G (M.lt i hi))).1
    have c := can_iff.mp c
    have l1 := (M.G.same (k := 0) (List.length_pos_iff.mpr M.G.ne) _ hm)
    rw [l1.1, l1.2] at c
    refine c.weak sizeRel_rfl (fun j hj => ?_) (fun j hj => Rat.le_refl)
    refine Rat.mul_le_mul_of_nonneg_left (H i hi) ?_
    have x0 : (0 : Int) ≤ (hat b i).1.getD j 0 := by
      have := ((M.F _ hm).tk _ (mem_getD (xs := (hat b i).1) (k := j) (by
        have l : (hat b i).1.length = (hat b 0).1.length := l1.1
        have hj : j < (hat b 0).1.length := hj
        omega) 0)).1
      omega
    show (0 : Rat) ≤ (((hat b i).1.getD j 0 : Int) : Rat)
    exact_mod_cast x0
  · rw [sumQ_mulR, tk_mg hj]; exact Rat.le_refl
  · rw [gv_mg hj]; exact Rat.le_refl
theorem MgOk.rim (M : MgOk b ks) (hb : b.length < 16) : (rimIx (b ++ [mgH b ks]) .any).filter (fun k => decide (((k : Nat) : Int) < ((b.length : Nat) : Int))) = rimIx b .any := by
  have G' := M.behind hb
  unfold rimIx
  rw [List.length_append, List.length_singleton, List.range_succ, List.filter_append, List.filter_append, List.filter_filter]
  have e2 : (List.filter (fun k => decide (((k : Nat) : Int) < ((b.length : Nat) : Int))) (List.filter (rimB (b ++ [mgH b ks]) .any) [b.length])) = [] := by
    rw [List.filter_filter]
    exact List.filter_eq_nil_iff.mpr fun a ha => by
      rw [List.mem_singleton.mp ha]; simp
  rw [e2, List.append_nil]
  refine List.filter_congr fun k hk => ?_
  have hk := List.mem_range.mp hk
  have e1 : decide (((k : Nat) : Int) < ((b.length : Nat) : Int)) = true := decide_eq_true (by omega)
  rw [e1, Bool.true_and, Bool.eq_iff_iff, rimB_iff, rimB_iff]
  have hm := houseAt hk
  have e := hat_app (o := mgH b ks) hk
  have l1 := (M.G.same (k := 0) (List.length_pos_iff.mpr M.G.ne) _ hm)
  show RimP _ (hat (b ++ [mgH b ks]) k) .any ↔ RimP b (hat b k) .any
  rw [e]
  refine rim_gen (G'.like (List.mem_append_left _ hm)) (List.mem_append_left _ hm) (M.G.like hm) hm ?_ (Gen.sub fun o ho => List.mem_append_left _ ho)
  rw [l1.1, l1.2]
  exact M.gen
theorem dotQ_adV (G : GBk b) (qs : List Rat) : ∀ ks : List Nat, (∀ i ∈ ks, i < b.length) → dotQ (adV b ks s) qs = sumQ (ks.map fun i => dotQ (sdH (hat b i) s) qs)
  | [], _ => by
    have e : adV b [] s = List.replicate (sdH (hat b 0) s).length 0 := by
      unfold adV
      refine List.ext_getElem (by simp) fun j h1 h2 => ?_
      rw [List.getElem_map, List.getElem_replicate]; rfl
    rw [e, dotQ_zero]; rfl
  | i :: ks, H => by
    have ih := dotQ_adV G qs ks fun j hj => H j (List.mem_cons_of_mem _ hj)
    have hm := houseAt (H i List.mem_cons_self)
    have l := G.sdl hm s
    have e : adV b (i :: ks) s = (List.range (sdH (hat b 0) s).length).map fun k => (sdH (hat b i) s).getD k 0 * 1 - adK b ks s k * (-1) := by
      unfold adV
      refine List.map_congr_left fun k _ => ?_
      rw [adK_cons]; omega
    have e2 : (List.range (sdH (hat b 0) s).length).map (fun k => (sdH (hat b i) s).getD k 0) = sdH (hat b i) s := by
      refine List.ext_getElem (by rw [List.length_map, List.length_range]; exact l.symm) fun j h1 h2 => ?_
      rw [List.getElem_map, List.getElem_range, List.getD, List.getElem?_eq_getElem h2]; rfl
    rw [e, dotQ_lin, e2]
    have ih : dotQ ((List.range (sdH (hat b 0) s).length).map fun k => adK b ks s k) qs = _ := ih
    rw [ih]
    show _ = dotQ (sdH (hat b i) s) qs + sumQ (ks.map fun i => dotQ (sdH (hat b i) s) qs)
    have c1 : (((1 : Int)) : Rat) = 1 := rfl
    have c2 : (((-1 : Int)) : Rat) = -1 := rfl
    rw [c1, c2]
    grind
theorem MgOk.paid (M : MgOk b ks) : paidQ (mgH b ks) p = sumQ (ks.map fun i => paidQ (hat b i) p) := dotQ_adV (s := 0) M.G p.1 ks M.lt
theorem MgOk.earn (M : MgOk b ks) (h0 : p.2.2 = 0) : earnQ (mgH b ks) p = sumQ (ks.map fun i => earnQ (hat b i) p) := by
  have e : dotQ (mgH b ks).2 p.2.1 = sumQ (ks.map fun i => dotQ (hat b i).2 p.2.1) := dotQ_adV (s := 1) M.G p.2.1 ks M.lt
  unfold earnQ
  rw [h0, e, Rat.add_zero]
  congr 1
  exact List.map_congr_left fun i _ => (Rat.add_zero _).symm
theorem MgOk.between (M : MgOk b ks) (h0 : p.2.2 = 0) (hn : ∀ q ∈ p.1, 0 ≤ q) {f : Nat → Rat} {g : Rat} (hf : ∀ i ∈ ks, judQ (hat b i) p = some (f i)) (hg : judQ (mgH b ks) p = some g) : (∃ i ∈ ks, f i ≤ g) ∧ ∃ i ∈ ks, g ≤ f i := by
  have pp : ∀ i ∈ ks, 0 < paidQ (hat b i) p ∧ earnQ (hat b i) p = f i * paidQ (hat b i) p := fun i hi => by
    have e := hf i hi
    unfold judQ at e
    split at e
    · cases e
    · rename_i ne
      have e := Option.some.inj e
      have nn : 0 ≤ paidQ (hat b i) p := dotQ_nonneg (fun x hx => by have := ((M.F _ (houseAt (M.lt i hi))).tk x hx).1; omega) hn
      refine ⟨by grind, ?_⟩
      rw [← e, Rat.div_mul_cancel ne]
  have gp : paidQ (mgH b ks) p ≠ 0 ∧ earnQ (mgH b ks) p = g * paidQ (mgH b ks) p := by
    unfold judQ at hg
    split at hg
    · cases hg
    · rename_i ne
      have e := Option.some.inj hg
      exact ⟨ne, by rw [← e, Rat.div_mul_cancel ne]⟩
  have ge := gp.2
  rw [M.earn h0, M.paid] at ge
  have ge : sumQ (ks.map fun i => earnQ (hat b i) p) = sumQ (ks.map fun i => paidQ (hat b i) p * g) := by rw [ge, sumQ_mulR]; grind
  constructor
  · refine Classical.byContradiction fun c => ?_
    have lt := sumQ_lt (f := fun i => paidQ (hat b i) p * g) (g := fun i => earnQ (hat b i) p) ks M.ne fun i hi => by
      obtain ⟨p0, pe⟩ := pp i hi
      have : g < f i := Rat.not_le.mp fun z => c ⟨i, hi, z⟩
      show paidQ (hat b i) p * g < earnQ (hat b i) p
      rw [pe, Rat.mul_comm (f i)]
      exact Rat.mul_lt_mul_of_pos_left this p0
    rw [ge] at lt
    exact Rat.lt_irrefl lt
  · refine Classical.byContradiction fun c => ?_
    have lt := sumQ_lt (f := fun i => earnQ (hat b i) p) (g := fun i => paidQ (hat b i) p * g) ks M.ne fun i hi => by
      obtain ⟨p0, pe⟩ := pp i hi
      have : f i < g := Rat.not_le.mp fun z => c ⟨i, hi, z⟩
      show earnQ (hat b i) p < paidQ (hat b i) p * g
      rw [pe, Rat.mul_comm (f i)]
      exact Rat.mul_lt_mul_of_pos_left this p0
    rw [ge] at lt
    exact Rat.lt_irrefl lt
theorem mgT_pre {n : Nat} (hj : k ≤ n) : ∃ X, mgT b ks n = mgT b ks k ++ X := by
  induction n with
  | zero => exact ⟨[], by rw [show k = 0 by omega, List.append_nil]⟩
  | succ n ih =>
    by_cases e : k = n + 1
    · exact ⟨[], by rw [e, List.append_nil]⟩
    · obtain ⟨X, hX⟩ := ih (by omega)
      exact ⟨X ++ mgF b ks n, by rw [mgT_step, hX, List.append_assoc]⟩
theorem mgB_at (hk : k < b.length) (hm : gMin (ksI ks) = ((k : Nat) : Int)) (hlt : ∀ i ∈ ks, k ≤ i) : (mgB b ks)[k]? = some (mgH b ks) := by
  have pre : ∀ j, j ≤ k → (mgT b ks j).length = j := by
    intro j
    induction j with
    | zero => intro _; rfl
    | succ j ih =>
      intro hj
      rw [mgT_step, List.length_append, ih (by omega)]
      have : mgF b ks j = [hat b j] := by
        unfold mgF
        rw [if_neg (by rw [hm]; omega), if_neg fun c => by have := hlt j c; omega]
      rw [this]; rfl
  obtain ⟨X, hX⟩ := mgT_pre (b := b) (ks := ks) (k := k + 1) (n := b.length) (by omega)
  unfold mgB
  have l := pre k (Nat.le_refl _)
  rw [hX, mgT_step, List.append_assoc, List.getElem?_append_right (by omega), l, Nat.sub_self]
  have : mgF b ks k = [mgH b ks] := by
    unfold mgF
    rw [if_pos hm.symm]
  rw [this]; rfl
theorem mg_alike (h : House) : mgH [h, h, h] [0, 2] = mulH 2 h := by
  have e : ∀ s, adV [h, h, h] [0, 2] s = (sdH h s).map (· * 2) := fun s => by
    unfold adV
    refine List.ext_getElem (by rw [List.length_map, List.length_map, List.length_range]; rfl) fun j h1 h2 => ?_
    rw [List.length_map] at h2
    rw [List.getElem_map, List.getElem_map, List.getElem_range]
    show (sdH h s).getD j 0 + ((sdH h s).getD j 0 + 0) = _
    rw [List.getD, List.getElem?_eq_getElem h2]
    show (sdH h s)[j] + ((sdH h s)[j] + 0) = _
    omega
  show (adV [h, h, h] [0, 2] 0, adV [h, h, h] [0, 2] 1) = _
  rw [e, e]; rfl
theorem mulH_1 (h : House) : mulH 1 h = h := by
  unfold mulH
  simp
theorem shr_alike (G : GBk b) (Gc : GBk (b ++ [mulH 2 (hat b 0)])) : shrV (b ++ [mulH 2 (hat b 0)]) b.length .any = shrV b 0 .any := by
  have h0 := List.length_pos_iff.mpr G.ne
  have hm := houseAt h0
  have W : Grown b (b ++ [mulH 2 (hat b 0)]) := ⟨fun o ho => ⟨1, by decide, by rw [mulH_1]; exact List.mem_append_left _ ho⟩, fun o ho => by
    rcases List.mem_append.mp ho with q | q
    · exact ⟨1, o, q, by decide, (mulH_1 o).symm⟩
    · exact ⟨2, hat b 0, hm, by decide, List.mem_singleton.mp q⟩⟩
  have e := item_grown G Gc W hm (by decide) (List.mem_append_right _ (List.mem_singleton.mpr rfl))
  unfold itemH at e
  injection e with e
  injection e with e1 _
  injection e1 with e1
  injection e1 with e1 _
  have e1 := dF_inj.mp e1
  unfold shrV
  rw [hat_last]
  exact e1
end
end Rk
namespace Rk
open PySem PySem.Spec PyProof.Rows L2
def topS (i : Nat) : Stmt := PySem.Challenge.pw_rimhouse_k27_whole_merged_behind.main.body.getD i (.Pass ⟨0, 0, 0, 0⟩)
structure Txt (K : PySem.W.Frag) (mg : Str → Option Value) : Prop where
  abs : mg "abs" = none
  zip : mg "zip" = none
  len : mg "len" = none
  list : mg "list" = none
  range : mg "range" = none
  tuple : mg "tuple" = none
  max : mg "max" = none
  sum : mg "sum" = none
  enumerate : mg "enumerate" = none
  min : mg "min" = none
  int : mg "int" = none
  isinstance : mg "isinstance" = none
  bool : mg "bool" = none
  sorted : mg "sorted" = none
  set : mg "set" = none
  c_MOST_AMOUNT : ∃ t, mg "MOST_AMOUNT" = some (.int 1000000000 t)
  u_UP : TupC K mg "UP" ["one", "more"]
  u_DOWN : TupC K mg "DOWN" ["one", "less"]
  d_divisor : HasDef K mg "divisor" (topS 5)
  d_fraction : HasDef K mg "fraction" (topS 6)
  d_plus : HasDef K mg "plus" (topS 7)
  d_minus : HasDef K mg "minus" (topS 8)
  d_product : HasDef K mg "product" (topS 9)
  d_whole : HasDef K mg "whole" (topS 10)
  d_together : HasDef K mg "together" (topS 11)
  d_need_house : HasDef K mg "need_house" (topS 14)
  d_solved : HasDef K mg "solved" (topS 17)
  d_size_parts : HasDef K mg "size_parts" (topS 21)
  d_size_price : HasDef K mg "size_price" (topS 22)
  d_rest_price : HasDef K mg "rest_price" (topS 23)
  d_shrunk : HasDef K mg "shrunk" (topS 24)
  d_share_shown : HasDef K mg "share_shown" (topS 25)
  d_share : HasDef K mg "share" (topS 26)
  d_earned : HasDef K mg "earned" (topS 28)
  d_paid : HasDef K mg "paid" (topS 29)
  d_judged_one : HasDef K mg "judged_one" (topS 31)
  d_judged : HasDef K mg "judged" (topS 32)
  d_added : HasDef K mg "added" (topS 34)
  d_merged : HasDef K mg "merged" (topS 35)
  d_on_rim : HasDef K mg "on_rim" (topS 37)
  d_rim_of : HasDef K mg "rim_of" (topS 38)
  d__law_cell_at : HasDef K mg "_law_cell_at" (topS 40)
  d__law_draws : HasDef K mg "_law_draws" (topS 41)
  d__law_near : HasDef K mg "_law_near" (topS 43)
  d__law_a_book : HasDef K mg "_law_a_book" (topS 44)
  d__law_less : HasDef K mg "_law_less" (topS 49)
  d__law_a_between : HasDef K mg "_law_a_between" (topS 50)
  d_law : HasDef K mg "law" (topS 51)
  k_Table : MkOk K mg "Table" (clA mg "Table")
  n_Table : ClsA K (clA mg "Table") ["wide", "bottom", "basis", "lines"]
  m_Table___init__ : HasMeth K (clA mg "Table") "__init__" "Table.__init__" (inClass (topS 16) 0)
  m_Table_turn : HasMeth K (clA mg "Table") "turn" "Table.turn" (inClass (topS 16) 1)
  m_Table_begin : HasMeth K (clA mg "Table") "begin" "Table.begin" (inClass (topS 16) 2)
  m_Table_leaving : HasMeth K (clA mg "Table") "leaving" "Table.leaving" (inClass (topS 16) 3)
  m_Table_best : HasMeth K (clA mg "Table") "best" "Table.best" (inClass (topS 16) 4)
  m_Table_told : HasMeth K (clA mg "Table") "told" "Table.told" (inClass (topS 16) 5)
end Rk
namespace Rk
open PySem PySem.Spec PyProof.Rows L2
section
variable {P : Program} {w : World} {K : PySem.W.Frag} {mg : Str → Option Value} {base : Heap}
def S_need_house : Spec := fun As R Xs => ∃ (b : List House) (k : Nat), As = [.d false (dB b), .d false (.int ((k : Nat) : Int))] ∧ k < b.length ∧ R = (· = .none)
theorem sc_need_house : FnScope ["book", "number"] ["book", "number"] (defScope (topS 14)) := ⟨rfl, rfl, rfl, by decide +kernel, rfl, by decide +kernel, by decide +kernel⟩
theorem ok_need_house (T : Txt K mg) : Prom P w K mg base 1 "need_house" S_need_house := by
  refine prom_mk T.d_need_house sc_need_house (fun _ _ _ _ _ _ us hl => match us, hl with | [_, _], _ => rfl) (fun As R Xs h => ?_) fun f cdv A outer s H E As R Xs h Z rz => ?_
  · obtain ⟨_, _, rfl, _⟩ := h; rfl
  · obtain ⟨b, k, rfl, hk, rfl⟩ := h
    show Blk _ [.d false (dB b), .d false (.int (k : Int))] _ _
    refine blk_ifR (evt_not (evt_chain op_le op_lt ev_int (ev_var (pv 1) rfl) (ev_lenL T.len (ev_var (pv 0) rfl).bx.bw))) (fun hc => ?_) (fun hc => ?_)
    · exfalso
      have h1 : decide ((0 : Int) ≤ (k : Int)) = true := decide_eq_true (by omega)
      have h2 : decide (((k : Nat) : Int) < (((b.map dH).length : Nat) : Int)) = true := decide_eq_true (by rw [List.length_map]; omega)
      rw [h1, h2] at hc
      cases hc
    · exact blk_nil rfl
end
end Rk
namespace Rk
open PySem PySem.Spec PyProof.Rows L2
section
variable {P : Program} {w : World} {K : PySem.W.Frag} {mg : Str → Option Value} {base : Heap}
def S_divisor : Spec := fun As R Xs => ∃ a b : Int, As = [.d false (.int a), .d false (.int b)] ∧ R = (· = .int (Int.gcd a b : Int))
theorem sc_divisor : FnScope ["one", "other"] ["one", "other"] (defScope (topS 5)) := ⟨rfl, rfl, rfl, by decide +kernel, rfl, by decide +kernel, by decide +kernel⟩
theorem ok_divisor (T : Txt K mg) : Prom P w K mg base 1 "divisor" S_divisor := by
  refine prom_mk T.d_divisor sc_divisor (fun _ _ _ _ _ _ us hl => match us, hl with | [_, _], _ => rfl) (fun As R Xs h => ?_) fun f cdv A outer s H E As R Xs h Z rz => ?_
  · obtain ⟨_, _, rfl, _⟩ := h; rfl
  · obtain ⟨a, b, rfl, rfl⟩ := h
    show Blk _ [.d false (.int a), .d false (.int b)] _ _
    refine blk_set Z (n := 0) (by rfl) (Or.inl (by rfl)) (Or.inl rfl) (show 0 < 2 by decide) (ev_abs T.abs (ev_var (pv 0) rfl)) ?_
    refine blk_set Z (n := 1) (by rfl) (Or.inl (by rfl)) (Or.inl rfl) (show 1 < 2 by decide) (ev_abs T.abs (ev_var (pv 1) rfl)) ?_
    refine blk_while Z (fun st : Nat × Nat => [.d true (.int (st.1 : Int)), .d true (.int (st.2 : Int))]) (fun st => Nat.gcd st.1 st.2 = Int.gcd a b) (fun st => st.2) (fun st => decide ((st.2 : Int) > 0)) (a.natAbs, b.natAbs) rfl rfl (fun st ok => (ec_gt (ev_var (pv 1) rfl) ev_int).t) (fun st ok hb => ?_) (fun st ok hb => ?_)
    · obtain ⟨x, y⟩ := st
      simp only [decide_eq_true_eq] at hb
      refine blk_par Z (n := 0) (m := 1) (by rfl) (by rfl) (by decide) (show 0 < 2 by decide) (show 1 < 2 by decide) (by rfl) (by rfl) (ev_var (pv 1) rfl) (ev_mod (ev_var (pv 0) rfl) (ev_var (pv 1) rfl) hb) ?_ (ps_par Z.calm Z.nd (by rfl) (by rfl) (by decide) (by rfl) (by rfl) (pa_cons pe_sem (pa_cons pe_sem pa_nil (by rfl)) (by rfl)) (by rfl))
      refine blk_nil ⟨(y, x % y), rfl, ?_, Nat.mod_lt _ (by omega)⟩
      have ok' : Nat.gcd x y = Int.gcd a b := ok
      show Nat.gcd y (x % y) = _
      rw [← ok', Nat.gcd_comm x y, Nat.gcd_rec y x, Nat.gcd_comm]
    · obtain ⟨x, y⟩ := st
      simp only [decide_eq_false_iff_not] at hb
      have e : y = 0 := by omega
      subst e
      refine blk_ret (ev_var (pv 0) rfl) ?_
      have ok' : Nat.gcd x 0 = Int.gcd a b := ok
      rw [Nat.gcd_zero_right] at ok'
      show PyData.int _ = PyData.int _
      rw [← ok']
end
end Rk
namespace Rk
open PySem PySem.Spec PyProof.Rows L2
section
variable {P : Program} {w : World} {K : PySem.W.Frag} {mg : Str → Option Value} {base : Heap}
def S_fraction : Spec := fun As R Xs => ∃ a b : Int, As = [.d false (.int a), .d false (.int b)] ∧ b ≠ 0 ∧ b.natAbs < 2 ^ 9000 ∧ R = (· = dF (Rat.divInt a b))
theorem sc_fraction : FnScope ["top", "bottom", "many"] ["top", "bottom"] (defScope (topS 6)) := ⟨rfl, rfl, rfl, by decide +kernel, rfl, by decide +kernel, by decide +kernel⟩
theorem ok_fraction (T : Txt K mg) : Prom P w K mg base 2 "fraction" S_fraction := by
  refine prom_mk T.d_fraction sc_fraction (fun _ _ _ _ _ _ us hl => match us, hl with | [_, _], _ => rfl) (fun As R Xs h => ?_) fun f cdv A outer s H E As R Xs h Z rz => ?_
  · obtain ⟨_, _, rfl, _⟩ := h; rfl
  · obtain ⟨a, b, rfl, hb, hb2, rfl⟩ := h
    have g0 : 0 < (Int.gcd a b : Int) := by
      have : Int.gcd a b ≠ 0 := by
        intro e
        rw [Int.gcd_eq_zero_iff] at e
        omega
      omega
    have gl : (Int.gcd a b : Int).natAbs < 2 ^ 9000 := by
      have := Nat.le_of_dvd (by omega) (Int.gcd_dvd_natAbs_right a b)
      omega
    have gl' : (0 - (Int.gcd a b : Int)).natAbs < 2 ^ 9000 := by
      rw [Int.zero_sub, Int.natAbs_neg]; exact gl
    show Blk _ [.d false (.int a), .d false (.int b), .u] _ _
    refine blk_set Z (n := 2) (by rfl) (Or.inl (by rfl)) (Or.inl rfl) (show 2 < 3 by decide) (ev_call (ok_divisor T) (Z.hr.mono (by decide)) (args_d (ev_var (pv 0) rfl) (args_d (ev_var (pv 1) rfl) args_nil)) ⟨a, b, rfl, rfl⟩) ?_
    refine blk_if (ec_lt (ev_var (pv 1) rfl) ev_int).t (fun hc => ?_) (fun hc => ?_)
    · rw [decide_eq_true_eq] at hc
      refine blk_set Z (n := 2) (by rfl) (Or.inl (by rfl)) (Or.inl rfl) (show 2 < 3 by decide) (ev_sub ev_int (ev_var (pv 2) rfl)) (blk_nil ?_)
      refine blk_ret (ev_tup (evs_cons (ev_fdivN (ev_var (pv 0) rfl) (ev_var (pv 2) rfl) (by omega) (pyW gl' (by decide) (by decide))) (evs_cons (ev_fdivN (ev_var (pv 1) rfl) (ev_var (pv 2) rfl) (by omega) (pyW gl' (by decide) (by decide))) evs_nil)) (show 2 ≤ sizeLine by decide)) ?_
      obtain ⟨e1, e2⟩ := divInt_neg' (a := a) hc
      show PyData.tuple _ = PyData.tuple _
      rw [e1, e2]
    · rw [decide_eq_false_iff_not] at hc
      refine blk_nil ?_
      refine blk_ret (ev_tup (evs_cons (ev_fdiv (ev_var (pv 0) rfl) (ev_var (pv 2) rfl) g0 (pyW gl (by decide) (by decide))) (evs_cons (ev_fdiv (ev_var (pv 1) rfl) (ev_var (pv 2) rfl) g0 (pyW gl (by decide) (by decide))) evs_nil)) (show 2 ≤ sizeLine by decide)) ?_
      obtain ⟨e1, e2⟩ := divInt_pos (a := a) (b := b) (by omega)
      show PyData.tuple _ = PyData.tuple _
      rw [e1, e2]
end
end Rk
namespace Rk
open PySem PySem.Spec PyProof.Rows L2
section
variable {P : Program} {w : World} {K : PySem.W.Frag} {mg : Str → Option Value} {base : Heap}
def S_product : Spec := fun As R Xs => ∃ (x y : Rat) (n m : Nat), As = [.d false (dF x), .d false (dF y)] ∧ Wd n x ∧ Wd m y ∧ 0 < n ∧ 0 < m ∧ n + m ≤ 8000 ∧ R = (· = dF (x * y))
theorem sc_product : FnScope ["one", "other"] ["one", "other"] (defScope (topS 9)) := ⟨rfl, rfl, rfl, by decide +kernel, rfl, by decide +kernel, by decide +kernel⟩
theorem ok_product (T : Txt K mg) : Prom P w K mg base 3 "product" S_product := by
  refine prom_mk T.d_product sc_product (fun _ _ _ _ _ _ us hl => match us, hl with | [_, _], _ => rfl) (fun As R Xs h => ?_) fun f cdv A outer s H E As R Xs h Z rz => ?_
  · obtain ⟨_, _, _, _, rfl, _⟩ := h; rfl
  · obtain ⟨x, y, n, m, rfl, h1, h2, hn, hm, hnm, rfl⟩ := h
    have px := x.den_pos
    have py := y.den_pos
    show Blk _ [.d false (dF x), .d false (dF y)] _ _
    refine blk_ret (ev_call (ok_fraction T) (Z.hr.mono (by decide)) (args_d (ev_mul (ev_ixT (ev_var (pv 0) rfl) ev_int rfl) (ev_ixT (ev_var (pv 1) rfl) ev_int rfl) (mulW h1.1 h2.1 (by omega) (by omega) (by omega))) (args_d (ev_mul (ev_ixT (ev_var (pv 0) rfl) ev_int rfl) (ev_ixT (ev_var (pv 1) rfl) ev_int rfl) (mulW (natAbs_ofNat h1.2) (natAbs_ofNat h2.2) (by omega) (by omega) (by omega))) args_nil)) ⟨_, _, rfl, Int.mul_ne_zero (by omega) (by omega), Nat.lt_of_lt_of_le (mul_num_lt h1 h2).2 (Nat.pow_le_pow_right (by decide) (by omega)), rfl⟩) ?_
    show dF _ = dF _
    rw [divInt_mul]
end
end Rk
namespace Rk
open PySem PySem.Spec PyProof.Rows L2
section
variable {P : Program} {w : World} {K : PySem.W.Frag} {mg : Str → Option Value} {base : Heap}
def S_whole : Spec := fun As R Xs => ∃ k : Int, As = [.d false (.int k)] ∧ R = (· = dF (k : Rat))
theorem sc_whole : FnScope ["number"] ["number"] (defScope (topS 10)) := ⟨rfl, rfl, rfl, by decide +kernel, rfl, by decide +kernel, by decide +kernel⟩
theorem ok_whole (T : Txt K mg) : Prom P w K mg base 1 "whole" S_whole := by
  refine prom_mk T.d_whole sc_whole (fun _ _ _ _ _ _ us hl => match us, hl with | [_], _ => rfl) (fun As R Xs h => ?_) fun f cdv A outer s H E As R Xs h Z rz => ?_
  · obtain ⟨_, rfl, _⟩ := h; rfl
  · obtain ⟨k, rfl, rfl⟩ := h
    show Blk _ [.d false (.int k)] _ _
    refine blk_ret (Ev.flat (b' := true) (ev_tup (evs_cons (ev_var (pv 0) rfl) (evs_cons ev_int evs_nil)) (show 2 ≤ sizeLine by decide)) (by rfl)) ?_
    exact (dF_int k).symm
end
end Rk
namespace Rk
open PySem PySem.Spec PyProof.Rows L2
section
variable {P : Program} {w : World} {K : PySem.W.Frag} {mg : Str → Option Value} {base : Heap}
def S_Table_init : MSpec := fun fv As R Xs => ∃ (L : Sx.Lp), fv = [] ∧ As = [.d false (.list (L.rows.map lInts)), .d false (lInts L.limits), .d false (lInts L.gains)] ∧ L.limits.length = L.rows.length ∧ (∀ r ∈ L.rows, r.length = L.gains.length) ∧ L.rows.length ≤ 40 ∧ L.gains.length ≤ 40 ∧
  R = (fun D fv' => D = .none ∧ fv' = fvT (Sx.initM L)) ∧ Xs = fun _ _ => False
theorem sc_Table___init__ : FnScope ["self", "rows", "limits", "gains", "many", "k", "j", "gain"] ["self", "rows", "limits", "gains"] (defScope (inClass (topS 16) 0)) := ⟨rfl, rfl, rfl, by decide +kernel, rfl, by decide +kernel, by decide +kernel⟩
theorem ok_Table___init__ (T : Txt K mg) : PromM P w K mg base 1 (clA mg "Table") "__init__" S_Table_init := by
  refine promM_mk T.m_Table___init__ sc_Table___init__ (fun _ _ _ _ _ _ us hl => match us, hl with | [_, _, _, _], _ => rfl) (fun fv As R Xs h => ?_) fun f cdv A outer s H E l a fv G As R Xs h Z rz => ?_
  · obtain ⟨_, rfl, rfl, _⟩ := h; rfl
  · obtain ⟨L, rfl, rfl, h1, h2, h3, h4, rfl, rfl⟩ := h
    show Blk _ [.ob a (clA mg "Table") [] G, .d false (.list (L.rows.map lInts)), .d false (lInts L.limits), .d false (lInts L.gains), .u, .u, .u, .u] _ _
    have e1 : (L.rows.map lInts).length = L.rows.length := List.length_map _
    have e2 : (L.gains.map PyData.int).length = L.gains.length := List.length_map _
    refine blk_set Z (n := 4) (by rfl) (Or.inl (by rfl)) (Or.inl rfl) (show 4 < 8 by decide) (ev_lenL T.len (ev_var (pv 1) rfl).bx.bw) ?_
    refine blk_setF (pv 0) T.n_Table rfl (ev_lenL T.len (ev_var (pv 3) rfl).bx.bw) (Nat.le_of_ble_eq_true rfl) ?_
    refine blk_setF (pv 0) T.n_Table rfl ev_int (Nat.le_of_ble_eq_true rfl) ?_
    rw [e1, e2]
    show Blk _ [.ob a (clA mg "Table") [("wide", .d (.int (L.gains.length : Int))), ("bottom", .d (.int 1))] G, .d false (.list (L.rows.map lInts)), .d false (lInts L.limits), .d false (lInts L.gains), .d true (.int (L.rows.length : Int)), .u, .u, .u] _ _
    refine blk_setFO (pv 0) T.n_Table rfl (evo_lc Z (lc_map (List.range L.rows.length) (fun i => .int ((i : Nat) : Int)) (fun i => .int ((L.gains.length : Int) + (i : Int))) (fun i => [.ob a (clA mg "Table") [("wide", .d (.int (L.gains.length : Int))), ("bottom", .d (.int 1))] G, .d false (.list (L.rows.map lInts)), .d false (lInts L.limits), .d false (lInts L.gains), .d true (.int (L.rows.length : Int)), .d true (.int ((i : Nat) : Int)), .u, .u]) [("k", 5)] (is := [5]) (src_rangeN T.range (ev_var (pv 4) rfl) (by omega)) (blkOk_by (N := ["self", "rows", "limits", "gains", "many", "k", "j", "gain"]) (sc := defScope (inClass (topS 16) 0)) (by decide +kernel)) (by rw [List.length_range]; exact small (m := 40) h3) (by decide) (fun x hx s H A cl fp => (tgt_name sc_Table___init__.nd (by rfl) (Or.inl (by rfl)) (show 5 < 8 by decide) (Or.inr (by rfl)))) (fun x hx s H A cl fp => (ev_add (ev_fldI (pv 0) T.n_Table rfl rfl) (ev_var (pv 5) rfl))))) (Nat.le_of_ble_eq_true rfl) ?_
    refine blk_setFO (pv 0) T.n_Table rfl (evo_lst evs_nil (show 0 ≤ sizeLine by decide)) (Nat.le_of_ble_eq_true rfl) ?_
    have eb : ((List.range L.rows.length).map fun i => PyData.int ((L.gains.length : Int) + ((i : Nat) : Int))) = (Sx.initM L).basis.map .int := by
      show _ = ((List.range L.rows.length).map fun k => ((L.gains.length + k : Nat) : Int)).map PyData.int
      rw [List.map_map]
      refine List.map_congr_left fun i _ => ?_
      show PyData.int _ = PyData.int _
      congr 1
    rw [eb]
    show Blk _ [.ob a (clA mg "Table") (fvT ⟨L.gains.length, 1, (Sx.initM L).basis, (List.range 0).map (Sx.initRow L)⟩) G, .d false (.list (L.rows.map lInts)), .d false (lInts L.limits), .d false (lInts L.gains), .d true (.int (L.rows.length : Int)), .u, .u, .u] _ _
    refine blk_for Z (is := [5]) (b := true) (src_rangeN T.range (ev_var (pv 4) rfl) (by omega)) (fun n r => ∃ x : SV, r = [.ob a (clA mg "Table") (fvT ⟨L.gains.length, 1, (Sx.initM L).basis, (List.range n).map (Sx.initRow L)⟩) G, .d false (.list (L.rows.map lInts)), .d false (lInts L.limits), .d false (lInts L.gains), .d true (.int (L.rows.length : Int)), x, .u, .u]) ⟨_, rfl⟩ (fun n D r hD hI => ?_) (fun r hI => ?_)
    · obtain ⟨x, rfl⟩ := hI
      rw [List.getElem?_map, Option.map_eq_some_iff] at hD
      obtain ⟨i, hi, rfl⟩ := hD
      obtain ⟨hn, rfl⟩ : n < L.rows.length ∧ i = n := by
        have hl := (List.getElem?_eq_some_iff.mp hi).1
        rw [List.length_range] at hl
        rw [List.getElem?_range hl] at hi
        exact ⟨hl, (Option.some.inj hi).symm⟩
      refine ⟨_, (tgt_name Z.nd (by rfl) (Or.inr (by rfl)) (show 5 < 8 by decide) (Or.inl rfl)), ?_⟩
      have lr : (L.rows.getD i []).length = L.gains.length := by
        rw [List.getD, List.getElem?_eq_getElem hn]; exact h2 _ (List.getElem_mem _)
      refine blk_appF (pv 0) T.n_Table rfl rfl (evo_cat (evo_cat (ev_ixL (ev_var (pv 1) rfl).bx.bw (ev_var (pv 5) rfl) (atI_mapN (f := lInts) (xs := L.rows) [] hn)).bx (evo_lc Z (lc_map (List.range L.rows.length) (fun j => .int ((j : Nat) : Int)) (fun j => .int (b2z (decide (((j : Nat) : Int) = ((i : Nat) : Int))))) (fun j => [.ob a (clA mg "Table") (fvT ⟨L.gains.length, 1, (Sx.initM L).basis, (List.range i).map (Sx.initRow L)⟩) G, .d false (.list (L.rows.map lInts)), .d false (lInts L.limits), .d false (lInts L.gains), .d true (.int (L.rows.length : Int)), .d true (.int ((i : Nat) : Int)), .d true (.int ((j : Nat) : Int)), .u]) [("j", 6)] (is := [6]) (src_rangeN T.range (ev_var (pv 4) rfl) (by omega)) (blkOk_by (N := ["self", "rows", "limits", "gains", "many", "k", "j", "gain"]) (sc := defScope (inClass (topS 16) 0)) (by decide +kernel)) (by rw [List.length_range]; exact small (m := 40) h3) (by decide) (fun x hx s H A cl fp => (tgt_name sc_Table___init__.nd (by rfl) (Or.inl (by rfl)) (show 6 < 8 by decide) (Or.inr (by rfl)))) (fun x hx s H A cl fp => (ev_intB T.int (ec_eqI (ev_var (pv 6) rfl) (ev_var (pv 5) rfl)).ev)))).bx ?ln10).bx (evo_lst (evs_cons (ev_ixL (ev_var (pv 2) rfl).bx.bw (ev_var (pv 5) rfl) (atI_mapN (f := PyData.int) (xs := L.limits) 0 (by omega))) evs_nil) (show 1 ≤ sizeLine by decide)).bx ?ln12).ev ?ln13 ?_
      case ln10 => rw [List.length_map, List.length_map, List.length_range, lr]; exact small (m := 80) (by omega)
      case ln12 => rw [List.length_append, List.length_map, List.length_map, List.length_range, lr]; exact small (m := 81) (by simp only [List.length_cons, List.length_nil]; omega)
      case ln13 => rw [List.length_map, List.length_map, List.length_range]; exact small' (m := 41) (by omega)
      refine blk_nil ⟨.d true (.int ((i : Nat) : Int)), ?_⟩
      have er : (L.rows.getD i []).map PyData.int ++ (List.range L.rows.length).map (fun j => PyData.int (b2z (decide (((j : Nat) : Int) = ((i : Nat) : Int))))) ++ [PyData.int (L.limits.getD i 0)] = (Sx.initRow L i).map .int := by
        unfold Sx.initRow
        rw [List.map_append, List.map_append, List.map_map]
        congr 2
        refine List.map_congr_left fun j _ => ?_
        show PyData.int (Sx.ib _) = PyData.int (Sx.ib _)
        have : decide (((j : Nat) : Int) = ((i : Nat) : Int)) = decide (j = i) := decide_eq_decide.mpr (by omega)
        rw [this]
      rw [er]
      have el : ((List.range i).map (Sx.initRow L)).map lInts ++ [lInts (Sx.initRow L i)] = ((List.range (i + 1)).map (Sx.initRow L)).map lInts := by
        rw [List.range_succ, List.map_append, List.map_append]; rfl
      show _ = [SV.ob a (clA mg "Table") [("wide", FV.d (.int (L.gains.length : Int))), ("bottom", .d (.int 1)), ("basis", .o ((Sx.initM L).basis.map .int)), ("lines", .o (((List.range (i + 1)).map (Sx.initRow L)).map lInts))] G, .d false (.list (L.rows.map lInts)), .d false (lInts L.limits), .d false (lInts L.gains), .d true (.int (L.rows.length : Int)), .d true (.int ((i : Nat) : Int)), .u, .u]
      rw [← el]
      rfl
    · obtain ⟨x, rfl⟩ := hI
      rw [List.length_map, List.length_range]
      have et : ((L.rows.length : Int) + 1).toNat = L.rows.length + 1 := by omega
      refine blk_appF (pv 0) T.n_Table rfl rfl (evo_cat (evo_lc Z (lc_map L.gains PyData.int (fun g => .int (0 - g)) (fun g => [.ob a (clA mg "Table") (fvT ⟨L.gains.length, 1, (Sx.initM L).basis, (List.range L.rows.length).map (Sx.initRow L)⟩) G, .d false (.list (L.rows.map lInts)), .d false (lInts L.limits), .d false (lInts L.gains), .d true (.int (L.rows.length : Int)), x, .u, .d false (.int g)]) [("gain", 7)] (is := [7]) (src_list (ev_var (pv 3) rfl)) (blkOk_by (N := ["self", "rows", "limits", "gains", "many", "k", "j", "gain"]) (sc := defScope (inClass (topS 16) 0)) (by decide +kernel)) (small h4) (by decide) (fun x hx s H A cl fp => (tgt_name sc_Table___init__.nd (by rfl) (Or.inl (by rfl)) (show 7 < 8 by decide) (Or.inr (by rfl)))) (fun x hx s H A cl fp => (ev_sub ev_int (ev_var (pv 7) rfl))))).bx (evo_rep (evo_lst (evs_cons ev_int evs_nil) (show 1 ≤ sizeLine by decide)).bx (ev_add (ev_var (pv 4) rfl) ev_int) (by omega) (by omega) ?ln17).bx ?ln18).ev ?ln19 ?_
      case ln17 => exact small (m := 41) (by simp only [List.length_cons, List.length_nil]; omega)
      case ln18 => simp only [List.length_map, List.length_flatten, List.map_replicate, List.sum_replicate_nat, List.length_cons, List.length_nil]; exact small (m := 81) (by omega)
      case ln19 => rw [List.length_map, List.length_map, List.length_range]; exact small' (m := 41) (by omega)
      refine blk_nil ⟨fvT (Sx.initM L), ?_, rfl, rfl⟩
      have ez : (List.replicate ((L.rows.length : Int) + 1).toNat [PyData.int 0]).flatten = (List.replicate (L.rows.length + 1) (0 : Int)).map .int := by
        rw [et, List.map_replicate]
        generalize L.rows.length + 1 = n
        induction n with
        | zero => rfl
        | succ n ih => rw [List.replicate_succ, List.flatten_cons, ih, List.replicate_succ]; rfl
      have el : (L.gains.map fun g => PyData.int (0 - g)) ++ (List.replicate ((L.rows.length : Int) + 1).toNat [PyData.int 0]).flatten = (Sx.lastRow L).map .int := by
        rw [ez]
        unfold Sx.lastRow
        rw [List.map_append, List.map_map]; rfl
      rw [el]
      have e3 : ((List.range L.rows.length).map (Sx.initRow L)).map lInts ++ [lInts (Sx.lastRow L)] = (Sx.initM L).lines.map lInts := by
        show _ = ((List.range L.rows.length).map (Sx.initRow L) ++ [Sx.lastRow L]).map lInts
        rw [List.map_append]; rfl
      show _ = some (SV.ob a (clA mg "Table") [("wide", FV.d (.int (L.gains.length : Int))), ("bottom", .d (.int 1)), ("basis", .o ((Sx.initM L).basis.map .int)), ("lines", .o ((Sx.initM L).lines.map lInts))] G)
      rw [← e3]
      rfl
end
end Rk
namespace Rk
open PySem PySem.Spec PyProof.Rows L2
section
variable {P : Program} {w : World} {K : PySem.W.Frag} {mg : Str → Option Value} {base : Heap}
theorem turnLs_zero (ls : List (List Int)) (b : Int) (at_ c : Nat) : Sx.turnLs ls b at_ c 0 = ls := by
  unfold Sx.turnLs
  refine List.ext_getElem? fun i => ?_
  rw [List.getElem?_map]
  by_cases h : i < ls.length
  · rw [List.getElem?_range h, List.getElem?_eq_getElem h]
    show some (if i = at_ ∨ 0 ≤ i then ls.getD i [] else _) = _
    rw [if_pos (Or.inr (Nat.zero_le _)), List.getD, List.getElem?_eq_getElem h]; rfl
  · rw [List.getElem?_eq_none (by rw [List.length_range]; omega), List.getElem?_eq_none (by omega)]; rfl
theorem turnLs_len {ls : List (List Int)} {b : Int} {at_ c n : Nat} : (Sx.turnLs ls b at_ c n).length = ls.length := by
  unfold Sx.turnLs; rw [List.length_map, List.length_range]
theorem turnLs_step {ls : List (List Int)} {b : Int} {at_ c n : Nat} (hn : n < ls.length) : Sx.turnLs ls b at_ c (n + 1) = if n = at_ then Sx.turnLs ls b at_ c n else (Sx.turnLs ls b at_ c n).set n (Sx.turnRow (ls.getD at_ []) (ls.getD n []) ((ls.getD at_ []).getD c 0) b c) := by
  have key : ∀ i, i < ls.length → ∀ m, (Sx.turnLs ls b at_ c m)[i]? = some (if i = at_ ∨ m ≤ i then ls.getD i [] else Sx.turnRow (ls.getD at_ []) (ls.getD i []) ((ls.getD at_ []).getD c 0) b c) := fun i hi m => by
    unfold Sx.turnLs
    rw [List.getElem?_map, List.getElem?_range hi]; rfl
  refine List.ext_getElem? fun i => ?_
  by_cases hi : i < ls.length
  · rw [key i hi]
    by_cases z : n = at_
    · rw [if_pos z, key i hi]
      congr 1
      by_cases y : i = at_
      · rw [if_pos (.inl y), if_pos (.inl y)]
      · by_cases x : n + 1 ≤ i
        · rw [if_pos (.inr x), if_pos (.inr (by omega))]
        · rw [if_neg (by omega), if_neg (by omega)]
    · rw [if_neg z]
      by_cases y : n = i
      · subst y
        rw [List.getElem?_set_self (by rw [turnLs_len]; exact hn), if_neg (by omega)]
      · rw [List.getElem?_set_ne y, key i hi]
        congr 1
        by_cases x : i = at_ ∨ n ≤ i
        · rw [if_pos (by omega), if_pos x]
        · rw [if_neg (by omega), if_neg x]
  · rw [List.getElem?_eq_none (by rw [turnLs_len]; omega)]
    by_cases z : n = at_
    · rw [if_pos z, List.getElem?_eq_none (by rw [turnLs_len]; omega)]
    · rw [if_neg z, List.getElem?_eq_none (by rw [List.length_set, turnLs_len]; omega)]
def S_Table_turn : MSpec := fun fv As R Xs => ∃ (t : Sx.Tab) (m w a at_ c : Nat), fv = fvT t ∧ As = [.d false (.int (at_ : Int)), .d false (.int (c : Int))] ∧ Sx.Shape t m w ∧ at_ < m ∧ c ≤ w + m ∧ w + m ≤ 100 ∧ SmallT a t ∧ 0 < a ∧ a ≤ 4000 ∧ 0 < t.bottom ∧
  R = (fun D fv' => D = .none ∧ fv' = fvT (Sx.turnM t at_ c)) ∧ Xs = fun _ _ => False
theorem sc_Table_turn : FnScope ["self", "at", "column", "row", "head", "k", "line", "share", "j"] ["self", "at", "column"] (defScope (inClass (topS 16) 1)) := ⟨rfl, rfl, rfl, by decide +kernel, rfl, by decide +kernel, by decide +kernel⟩
theorem ok_Table_turn (T : Txt K mg) : PromM P w K mg base 1 (clA mg "Table") "turn" S_Table_turn := by
  refine promM_mk T.m_Table_turn sc_Table_turn (fun _ _ _ _ _ _ us hl => match us, hl with | [_, _, _], _ => rfl) (fun fv As R Xs h => ?_) fun f cdv A outer s H E l ad fv G As R Xs h Z rz => ?_
  · obtain ⟨_, _, _, _, _, _, rfl, rfl, _⟩ := h; rfl
  · obtain ⟨t, m, w, a, at_, c, rfl, rfl, S, hat, hc, hwm, ST, ha0, ha, hb, rfl, rfl⟩ := h
    show Blk _ [.ob ad (clA mg "Table") (fvT t) G, .d false (.int (at_ : Int)), .d false (.int (c : Int)), .u, .u, .u, .u, .u, .u] _ _
    have hl := S.hl
    have hbs := S.hb
    have line : ∀ k, k ≤ m → (t.lines.getD k []).length = w + m + 1 := fun k hk => S.line hk
    have small1 : ∀ k, k ≤ m → ∀ j, ((t.lines.getD k []).getD j 0).natAbs < 2 ^ a := fun k hk j => by
      by_cases hj : j < (t.lines.getD k []).length
      · refine ST.1 (t.lines.getD k []) ?_ _ (mem_getD hj 0)
        rw [List.getD, List.getElem?_eq_getElem (by omega)]
        exact List.getElem_mem _
      · generalize t.lines.getD k [] = l at hj
        rw [List.getD, List.getElem?_eq_none (by omega)]
        exact Nat.two_pow_pos a
    generalize eR : t.lines.getD at_ [] = row
    have hrow : row.length = w + m + 1 := by rw [← eR]; exact line at_ (by omega)
    have srow : ∀ j, (row.getD j 0).natAbs < 2 ^ a := by rw [← eR]; exact small1 at_ (by omega)
    refine blk_set Z (n := 3) (by rfl) (Or.inr (by rfl)) (Or.inl rfl) (show 3 < 9 by decide) (ev_ixL (bx_fld (pv 0) T.n_Table rfl rfl).bw (ev_var (pv 1) rfl) (atI_mapN (f := lInts) (xs := t.lines) [] (by omega))) ?_
    rw [eR]
    refine blk_set Z (n := 4) (by rfl) (Or.inr (by rfl)) (Or.inl rfl) (show 4 < 9 by decide) (ev_ixL (ev_var (pv 3) rfl).bx.bw (ev_var (pv 2) rfl) (atI_mapN (f := PyData.int) (xs := row) 0 (by omega))) ?_
    show Blk _ [.ob ad (clA mg "Table") (fvT t) G, .d false (.int (at_ : Int)), .d false (.int (c : Int)), .d false (lInts row), .d false (.int (row.getD c 0)), .u, .u, .u, .u] _ _
    have e0 : t = ⟨t.wide, t.bottom, t.basis, Sx.turnLs t.lines t.bottom at_ c 0⟩ := by rw [turnLs_zero]
    have len1 : (t.lines.map lInts).length = m + 1 := by rw [List.length_map]; exact hl
    refine blk_for Z (is := [5]) (b := true) (src_rangeN T.range (ev_lenL T.len (bx_fld (pv 0) T.n_Table rfl rfl).bw) (by omega)) (fun n r => ∃ x y z u : SV, r = [.ob ad (clA mg "Table") (fvT ⟨t.wide, t.bottom, t.basis, Sx.turnLs t.lines t.bottom at_ c n⟩) G, .d false (.int (at_ : Int)), .d false (.int (c : Int)), .d false (lInts row), .d false (.int (row.getD c 0)), x, y, z, u]) ⟨.u, .u, .u, .u, by rw [← e0]⟩ (fun n D r hD hI => ?_) (fun r hI => ?_)
    · obtain ⟨x, y, z, u, rfl⟩ := hI
      rw [List.getElem?_map, Option.map_eq_some_iff] at hD
      obtain ⟨i, hi, rfl⟩ := hD
      obtain ⟨hn, rfl⟩ : n < m + 1 ∧ i = n := by
        have h1 := (List.getElem?_eq_some_iff.mp hi).1
        rw [List.length_range, len1] at h1
        rw [List.getElem?_range (by rw [len1]; exact h1)] at hi
        exact ⟨h1, (Option.some.inj hi).symm⟩
      refine ⟨_, (tgt_name Z.nd (by rfl) (Or.inl (by rfl)) (show 5 < 9 by decide) (Or.inl rfl)), ?_⟩
      have li : (t.lines.getD i []).length = w + m + 1 := line i (by omega)
      have si : ∀ j, ((t.lines.getD i []).getD j 0).natAbs < 2 ^ a := small1 i (by omega)
      have eline : (Sx.turnLs t.lines t.bottom at_ c i).getD i [] = t.lines.getD i [] := by
        rw [Sx.turnLs_get (by omega), if_pos (Or.inr (Nat.le_refl _))]
      have estep := turnLs_step (ls := t.lines) (b := t.bottom) (at_ := at_) (c := c) (n := i) (by omega)
      rw [eR] at estep
      have lenI : (Sx.turnLs t.lines t.bottom at_ c i).length = m + 1 := turnLs_len.trans hl
      generalize t.lines.getD i [] = ln at li si eline estep
      generalize Sx.turnLs t.lines t.bottom at_ c i = ls at eline estep lenI
      have hix : ixN (ls.map lInts).length ((i : Nat) : Int) = some i := by
        rw [ixN_in (by omega) (by rw [List.length_map]; omega)]; simp
      refine blk_set Z (n := 6) (by rfl) (Or.inr (by rfl)) (Or.inl rfl) (show 6 < 9 by decide) (ev_ixL (bx_fld (pv 0) T.n_Table rfl rfl).bw (ev_var (pv 5) rfl) (atI_mapN (f := lInts) (xs := ls) [] (by omega))) ?_
      rw [eline]
      show Blk _ [.ob ad (clA mg "Table") (fvT ⟨t.wide, t.bottom, t.basis, ls⟩) G, .d false (.int (at_ : Int)), .d false (.int (c : Int)), .d false (lInts row), .d false (.int (row.getD c 0)), .d true (.int (i : Int)), .d false (lInts ln), z, u] _ _
      refine blk_if (ec_neI (ev_var (pv 5) rfl) (ev_var (pv 1) rfl)).t (fun hc' => ?_) (fun hc' => ?_)
      · have hne : i ≠ at_ := fun e => by rw [e] at hc'; simp at hc'
        rw [if_neg hne] at estep
        refine blk_set Z (n := 7) (by rfl) (Or.inr (by rfl)) (Or.inl rfl) (show 7 < 9 by decide) (ev_ixL (ev_var (pv 6) rfl).bx.bw (ev_var (pv 2) rfl) (atI_mapN (f := PyData.int) (xs := ln) 0 (by omega))) ?_
        have hx' : ∀ x ∈ List.range (ln.map PyData.int).length, x < w + m + 1 := fun x hx => by
          rw [List.length_map] at hx
          have := List.mem_range.mp hx
          omega
        refine blk_setFI (pv 0) T.n_Table rfl rfl (ev_var (pv 5) rfl) (evo_lc Z (lc_map (List.range (ln.map PyData.int).length) (fun j => .int ((j : Nat) : Int)) (fun j => .int ((ln.getD j 0 * row.getD c 0 - ln.getD c 0 * row.getD j 0) / t.bottom)) (fun j => [.ob ad (clA mg "Table") (fvT ⟨t.wide, t.bottom, t.basis, ls⟩) G, .d false (.int (at_ : Int)), .d false (.int (c : Int)), .d false (lInts row), .d false (.int (row.getD c 0)), .d true (.int (i : Int)), .d false (lInts ln), .d false (.int (ln.getD c 0)), .d true (.int ((j : Nat) : Int))]) [("j", 8)] (is := [8]) (src_rangeN T.range (ev_lenL T.len (ev_var (pv 6) rfl).bx.bw) (by rw [List.length_map]; omega)) (blkOk_by (N := ["self", "at", "column", "row", "head", "k", "line", "share", "j"]) (sc := defScope (inClass (topS 16) 1)) (by decide +kernel)) (by rw [List.length_range, List.length_map]; exact small (m := 101) (by omega)) (by decide) (fun x hx s H A cl fp => (tgt_name sc_Table_turn.nd (by rfl) (Or.inl (by rfl)) (show 8 < 9 by decide) (Or.inr (by rfl)))) (fun x hx s H A cl fp => (ev_fdiv (ev_sub (ev_mul (ev_ixL (ev_var (pv 6) rfl).bx.bw (ev_var (pv 8) rfl) (atI_mapN (f := PyData.int) (xs := ln) 0 (by have := hx' x hx; omega))) (ev_var (pv 4) rfl) (mulW (si x) (srow c) ha0 ha0 (by omega))) (ev_mul (ev_var (pv 7) rfl) (ev_ixL (ev_var (pv 3) rfl).bx.bw (ev_var (pv 8) rfl) (atI_mapN (f := PyData.int) (xs := row) 0 (by have := hx' x hx; omega))) (mulW (si c) (srow x) ha0 ha0 (by omega)))) (ev_fldI (pv 0) T.n_Table rfl rfl) hb (pyW ST.2 ha0 (by omega)))))).ev hix ?_
        refine blk_nil (blk_nil ⟨.d true (.int (i : Int)), .d false (lInts ln), .d false (.int (ln.getD c 0)), u, ?_⟩)
        rw [estep]
        have e5 : ((ls.map lInts).set i (.list ((List.range (ln.map PyData.int).length).map fun j => .int ((ln.getD j 0 * row.getD c 0 - ln.getD c 0 * row.getD j 0) / t.bottom)))) = (ls.set i (Sx.turnRow row ln (row.getD c 0) t.bottom c)).map lInts := by
          rw [List.map_set, List.length_map]
          congr 1
          show PyData.list _ = PyData.list _
          unfold Sx.turnRow
          rw [List.map_map]; rfl
        refine Eq.trans ?_ (congrArg (fun Ls => [SV.ob ad (clA mg "Table") [("wide", FV.d (.int (t.wide : Int))), ("bottom", .d (.int t.bottom)), ("basis", .o (t.basis.map .int)), ("lines", .o Ls)] G, .d false (.int (at_ : Int)), .d false (.int (c : Int)), .d false (lInts row), .d false (.int (row.getD c 0)), .d true (.int (i : Int)), .d false (lInts ln), .d false (.int (ln.getD c 0)), u]) e5)
        rfl
      · have he : i = at_ := by
          refine Classical.byContradiction fun z => ?_
          have : ((i : Nat) : Int) ≠ (at_ : Int) := by omega
          simp [this] at hc'
        rw [if_pos he] at estep
        exact blk_nil (blk_nil ⟨_, _, _, _, by rw [estep]⟩)
    · obtain ⟨x, y, z, u, rfl⟩ := hI
      rw [List.length_map, List.length_range, len1]
      have hix : ixN (t.basis.map PyData.int).length ((at_ : Nat) : Int) = some at_ := by
        rw [ixN_in (by omega) (by rw [List.length_map]; omega)]; simp
      refine blk_setFI (pv 0) T.n_Table rfl rfl (ev_var (pv 1) rfl) (ev_var (pv 2) rfl) hix ?_
      refine blk_setF (pv 0) T.n_Table rfl (ev_var (pv 4) rfl) (Nat.le_of_ble_eq_true rfl) ?_
      refine blk_nil ⟨fvT (Sx.turnM t at_ c), ?_, rfl, rfl⟩
      have e6 : (t.basis.map PyData.int).set at_ (.int (c : Int)) = (t.basis.set at_ c).map .int := by
        rw [List.map_set]
      show _ = some (SV.ob ad (clA mg "Table") [("wide", .d (.int t.wide)), ("bottom", .d (.int (t.T at_ c))), ("basis", .o ((t.basis.set at_ c).map .int)), ("lines", .o ((Sx.turnLs t.lines t.bottom at_ c t.lines.length).map lInts))] G)
      have e7 : t.T at_ c = row.getD c 0 := by rw [← eR]
      rw [← e6, e7, hl]
      rfl
end
end Rk
namespace Rk
open PySem PySem.Spec PyProof.Rows L2
section
variable {P : Program} {w : World} {K : PySem.W.Frag} {mg : Str → Option Value} {base : Heap}
def S_Table_begin : MSpec := fun fv As R Xs => ∃ (t : Sx.Tab) (m w a : Nat), fv = fvT t ∧ As = [] ∧ Sx.Shape t m w ∧ w + m ≤ 100 ∧ SmallT a t ∧ 0 < a ∧ a ≤ 4000 ∧ 0 < t.bottom ∧ (∀ k, k < m → t.T k (w + m) < 0 → t.T k 0 < 0) ∧
  R = (fun D fv' => D = .none ∧ fv' = fvT (Sx.begunM t)) ∧ Xs = fun _ _ => False
theorem sc_Table_begin : FnScope ["self", "found", "k", "line", "one"] ["self"] (defScope (inClass (topS 16) 2)) := ⟨rfl, rfl, rfl, by decide +kernel, rfl, by decide +kernel, by decide +kernel⟩
theorem ok_Table_begin (T : Txt K mg) : PromM P w K mg base 2 (clA mg "Table") "begin" S_Table_begin := by
  refine promM_mk T.m_Table_begin sc_Table_begin (fun _ _ _ _ _ _ us hl => match us, hl with | [_], _ => rfl) (fun fv As R Xs h => ?_) fun f cdv A outer s H E l ad fv G As R Xs h Z rz => ?_
  · obtain ⟨_, _, _, _, rfl, rfl, _⟩ := h; rfl
  · obtain ⟨t, m, w, a, rfl, rfl, S, hwm, ST, ha0, ha, hb, hng, rfl, rfl⟩ := h
    show Blk _ [.ob ad (clA mg "Table") (fvT t) G, .u, .u, .u, .u] _ _
    have hl := S.hl
    have hbs := S.hb
    have lenB : (t.basis.map PyData.int).length = m := by rw [List.length_map]; exact hbs
    refine blk_set Z (n := 1) (by rfl) (Or.inl (by rfl)) (Or.inl rfl) (show 1 < 5 by decide) ev_non ?_
    refine blk_for Z (is := [2]) (b := true) (src_rangeN T.range (ev_lenL T.len (bx_fld (pv 0) T.n_Table rfl rfl).bw) (by omega)) (fun n r => ∃ x y z : SV, r = [.ob ad (clA mg "Table") (fvT t) G, .d true (oN (Sx.beginM t (w + m) n)), x, y, z]) ⟨_, _, _, rfl⟩ (fun n D r hD hI => ?_) (fun r hI => ?_)
    · obtain ⟨x, y, z, rfl⟩ := hI
      rw [List.getElem?_map, Option.map_eq_some_iff] at hD
      obtain ⟨i, hi, rfl⟩ := hD
      obtain ⟨rfl, hn⟩ := range_at hi
      rw [lenB] at hn
      refine ⟨_, (tgt_name Z.nd (by rfl) (Or.inl (by rfl)) (show 2 < 5 by decide) (Or.inl rfl)), ?_⟩
      have li : (t.lines.getD i []).length = w + m + 1 := S.line (by omega)
      have si : ∀ j, ((t.lines.getD i []).getD j 0).natAbs < 2 ^ a := ST.line S (by omega)
      have spec := Sx.begin_spec t (w + m) i fun k hk => hng k (by omega)
      have enext : Sx.beginM t (w + m) (i + 1) = if Sx.beginC t (w + m) (Sx.beginM t (w + m) i) i = true then some i else Sx.beginM t (w + m) i := rfl
      generalize Sx.beginM t (w + m) i = fo at spec enext
      refine blk_set Z (n := 3) (by rfl) (Or.inl (by rfl)) (Or.inl rfl) (show 3 < 5 by decide) (ev_ixL (bx_fld (pv 0) T.n_Table rfl rfl).bw (ev_var (pv 2) rfl) (atI_mapN (f := lInts) (xs := t.lines) [] (by omega))) ?_
      generalize eL : t.lines.getD i [] = ln at li si
      have eT : ∀ j, t.T i j = ln.getD j 0 := fun j => by rw [← eL]
      show Blk _ [.ob ad (clA mg "Table") (fvT t) G, .d true (oN fo), .d true (.int (i : Int)), .d false (lInts ln), z] _ _
      cases fo with
      | none =>
        refine blk_if (evw_and (ec_lt (ev_ixL (ev_var (pv 3) rfl).bx.bw (ev_neg ev_int) (atI_last (f := PyData.int) (xs := ln) (n := w + m) 0 li)) ev_int).t (fun h4 => (evw_and1 (EvW.t (evw_or (y := true) (ec_isN (ev_var (pv 1) rfl)).t (fun h4 => absurd h4 (by decide))))))).t (fun hc => ?_) (fun hc => ?_)
        · refine blk_set Z (n := 1) (by rfl) (Or.inl (by rfl)) (Or.inl rfl) (show 1 < 5 by decide) (ev_var (pv 2) rfl) ?_
          have h0 : ln.getD (w + m) 0 < 0 := by
            rw [Bool.and_eq_true] at hc
            exact of_decide_eq_true hc.1
          exact blk_nil (blk_nil ⟨_, _, _, by rw [enext, if_pos (by unfold Sx.beginC; rw [eT, decide_eq_true h0]; rfl)]; rfl⟩)
        · have h0 : ¬ ln.getD (w + m) 0 < 0 := by
            simpa [isNo, oN] using hc
          exact blk_nil (blk_nil ⟨_, _, _, by rw [enext, if_neg (by unfold Sx.beginC; rw [eT, decide_eq_false h0]; simp)]⟩)
      | some g =>
        obtain ⟨hg, _, _⟩ := spec
        have lg : (t.lines.getD g []).length = w + m + 1 := S.line (by omega)
        have sg : ∀ j, ((t.lines.getD g []).getD j 0).natAbs < 2 ^ a := ST.line S (by omega)
        show Blk _ [.ob ad (clA mg "Table") (fvT t) G, .d true (.int (g : Int)), .d true (.int (i : Int)), .d false (lInts ln), z] _ _
        refine blk_if (evw_and (ec_lt (ev_ixL (ev_var (pv 3) rfl).bx.bw (ev_neg ev_int) (atI_last (f := PyData.int) (xs := ln) (n := w + m) 0 li)) ev_int).t (fun h4 => (evw_and1 (EvW.t (evw_or (ec_isN (ev_var (pv 1) rfl)).t (fun h4 => (evw_or1 (ec_gt (ev_mul (ev_ixL (ev_var (pv 3) rfl).bx.bw (ev_neg ev_int) (atI_last (f := PyData.int) (xs := ln) (n := w + m) 0 li)) (ev_ixL (Ev.bx (Ds := (t.lines.getD g []).map PyData.int) (ev_ixL (bx_fld (pv 0) T.n_Table rfl rfl).bw (ev_var (pv 1) rfl) (atI_mapN (f := lInts) (xs := t.lines) [] (by omega)))).bw ev_int (atI_mapN (f := PyData.int) (xs := t.lines.getD g []) (k := 0) 0 (by omega))) (mulW (si _) (sg _) ha0 ha0 (by omega))) (ev_mul (ev_ixL (Ev.bx (Ds := (t.lines.getD g []).map PyData.int) (ev_ixL (bx_fld (pv 0) T.n_Table rfl rfl).bw (ev_var (pv 1) rfl) (atI_mapN (f := lInts) (xs := t.lines) [] (by omega)))).bw (ev_neg ev_int) (atI_last (f := PyData.int) (xs := t.lines.getD g []) (n := w + m) 0 lg)) (ev_ixL (ev_var (pv 3) rfl).bx.bw ev_int (atI_mapN (f := PyData.int) (xs := ln) (k := 0) 0 (by omega))) (mulW (sg _) (si _) ha0 ha0 (by omega)))).t))))))).t (fun hc => ?_) (fun hc => ?_)
        · refine blk_set Z (n := 1) (by rfl) (Or.inl (by rfl)) (Or.inl rfl) (show 1 < 5 by decide) (ev_var (pv 2) rfl) ?_
          exact blk_nil (blk_nil ⟨_, _, _, by rw [enext, if_pos (by unfold Sx.beginC; rw [eT, eT]; exact hc)]; rfl⟩)
        · exact blk_nil (blk_nil ⟨_, _, _, by rw [enext, if_neg (by unfold Sx.beginC; rw [eT, eT]; exact fun q => nomatch (q.symm.trans hc : true = false))]; rfl⟩)
    · obtain ⟨x, y, z, rfl⟩ := hI
      rw [List.length_map, List.length_range, lenB]
      have spec := Sx.begin_spec t (w + m) m hng
      have eB : Sx.begunM t = match Sx.beginM t (w + m) m with | none => t | some f => Sx.turnM (Sx.negM t f) f 0 := by unfold Sx.begunM; rw [S.hw, S.hb] <;> rfl
      generalize Sx.beginM t (w + m) m = fo at spec eB
      cases fo with
      | none =>
        refine blk_if (ec_notN (ev_var (pv 1) rfl)).t (fun hc => absurd hc (by decide)) (fun hc => ?_)
        exact blk_nil (blk_nil ⟨fvT (Sx.begunM t), by rw [eB]; rfl, rfl, rfl⟩)
      | some g =>
        obtain ⟨hg, _, _⟩ := spec
        have lg : (t.lines.getD g []).length = w + m + 1 := S.line (by omega)
        have sg : ∀ j, ((t.lines.getD g []).getD j 0).natAbs < 2 ^ a := ST.line S (by omega)
        show Blk _ [.ob ad (clA mg "Table") (fvT t) G, .d true (.int (g : Int)), x, y, z] _ _
        refine blk_if (ec_notN (ev_var (pv 1) rfl)).t (fun hc => ?_) (fun hc => absurd hc (by simp [isNo]))
        have hix : ixN (t.lines.map lInts).length ((g : Nat) : Int) = some g := ixN_nat (by rw [List.length_map]; omega)
        refine blk_setFI (pv 0) T.n_Table rfl rfl (ev_var (pv 1) rfl) (evo_lc Z (lc_map (t.lines.getD g []) PyData.int (fun x => .int (0 - x)) (fun v => [.ob ad (clA mg "Table") (fvT t) G, .d true (.int (g : Int)), x, y, .d false (.int v)]) [("one", 4)] (is := [4]) (src_list (ev_ixL (bx_fld (pv 0) T.n_Table rfl rfl).bw (ev_var (pv 1) rfl) (atI_mapN (f := lInts) (xs := t.lines) [] (by omega)))) (blkOk_by (N := ["self", "found", "k", "line", "one"]) (sc := defScope (inClass (topS 16) 2)) (by decide +kernel)) (small (m := 101) (by omega)) (by decide) (fun x hx s H A cl fp => (tgt_name sc_Table_begin.nd (by rfl) (Or.inl (by rfl)) (show 4 < 5 by decide) (Or.inr (by rfl)))) (fun x hx s H A cl fp => (ev_sub ev_int (ev_var (pv 4) rfl))))).ev hix ?_
        have e1 : (t.lines.map lInts).set g (.list ((t.lines.getD g []).map fun x => .int (0 - x))) = (Sx.negM t g).lines.map lInts := by
          show _ = (t.lines.set g ((t.lines.getD g []).map fun x => 0 - x)).map lInts
          rw [List.map_set]
          congr 1
          show PyData.list _ = PyData.list _
          rw [List.map_map]; rfl
        have S1 := Sx.negM_shape S (show g ≤ m by omega)
        have ST1 : SmallT a (Sx.negM t g) := ⟨fun l hl x hx => by
          rcases List.mem_or_eq_of_mem_set (show l ∈ t.lines.set g _ from hl) with h | h
          · exact ST.1 l h x hx
          · subst h
            obtain ⟨v, hv, rfl⟩ := List.mem_map.mp hx
            obtain ⟨j, hj, rfl⟩ := List.getElem_of_mem hv
            have := sg j
            rw [List.getD, List.getElem?_eq_getElem hj] at this
            simpa using this, ST.2⟩
        refine blk_exprM (A := ad) (Cl := clA mg "Table") (G := G) (n := 0) (R := fun D fv' => D = .none ∧ fv' = fvT (Sx.turnM (Sx.negM t g) g 0)) (evm_call (As := [.d false (.int (g : Int)), .d false (.int ((0 : Nat) : Int))]) (fv := fvT (Sx.negM t g)) (ok_Table_turn T) (Z.hr.mono (by decide)) T.n_Table (pv 0) (show _ = some (SV.ob ad (clA mg "Table") [("wide", .d (.int t.wide)), ("bottom", .d (.int t.bottom)), ("basis", .o (t.basis.map .int)), ("lines", .o ((Sx.negM t g).lines.map lInts))] G) by rw [← e1]; rfl) rfl (argm_d (ev_var (pv 1) rfl) (argm_d ev_int argm_nil)) ⟨Sx.negM t g, m, w, a, g, 0, rfl, rfl, S1, hg, by omega, hwm, ST1, ha0, ha, hb, rfl, rfl⟩) (fun D fv' hR => ?_)
        obtain ⟨rfl, rfl⟩ := hR
        exact blk_nil (blk_nil ⟨fvT (Sx.begunM t), by rw [eB]; rfl, rfl, rfl⟩)
end
end Rk
namespace Rk
open PySem PySem.Spec PyProof.Rows L2
section
variable {P : Program} {w : World} {K : PySem.W.Frag} {mg : Str → Option Value} {base : Heap}
def S_Table_leaving : MSpec := fun fv As R Xs => ∃ (t : Sx.Tab) (m w a c : Nat), fv = fvT t ∧ As = [.d false (.int (c : Int))] ∧ Sx.Shape t m w ∧ c ≤ w + m ∧ w + m ≤ 100 ∧ SmallT a t ∧ 0 < a ∧ a ≤ 4000 ∧
  R = (fun D fv' => D = oN (Sx.leaveM t (w + m) c m) ∧ fv' = fvT t) ∧ Xs = fun _ _ => False
theorem sc_Table_leaving : FnScope ["self", "column", "found", "k", "line", "one", "other"] ["self", "column"] (defScope (inClass (topS 16) 3)) := ⟨rfl, rfl, rfl, by decide +kernel, rfl, by decide +kernel, by decide +kernel⟩
theorem ok_Table_leaving (T : Txt K mg) : PromM P w K mg base 1 (clA mg "Table") "leaving" S_Table_leaving := by
  refine promM_mk T.m_Table_leaving sc_Table_leaving (fun _ _ _ _ _ _ us hl => match us, hl with | [_, _], _ => rfl) (fun fv As R Xs h => ?_) fun f cdv A outer s H E l ad fv G As R Xs h Z rz => ?_
  · obtain ⟨_, _, _, _, _, rfl, rfl, _⟩ := h; rfl
  · obtain ⟨t, m, w, a, c, rfl, rfl, S, hc, hwm, ST, ha0, ha, rfl, rfl⟩ := h
    show Blk _ [.ob ad (clA mg "Table") (fvT t) G, .d false (.int (c : Int)), .u, .u, .u, .u, .u] _ _
    have hl := S.hl
    have hbs := S.hb
    have lenB : (t.basis.map PyData.int).length = m := by rw [List.length_map]; exact hbs
    refine blk_set Z (n := 2) (by rfl) (Or.inl (by rfl)) (Or.inl rfl) (show 2 < 7 by decide) ev_non ?_
    refine blk_for Z (is := [3]) (b := true) (src_rangeN T.range (ev_lenL T.len (bx_fld (pv 0) T.n_Table rfl rfl).bw) (by omega)) (fun n r => ∃ x y z u : SV, r = [.ob ad (clA mg "Table") (fvT t) G, .d false (.int (c : Int)), .d true (oN (Sx.leaveM t (w + m) c n)), x, y, z, u]) ⟨_, _, _, _, rfl⟩ (fun n D r hD hI => ?_) (fun r hI => ?_)
    · obtain ⟨x, y, z, u, rfl⟩ := hI
      rw [List.getElem?_map, Option.map_eq_some_iff] at hD
      obtain ⟨i, hi, rfl⟩ := hD
      obtain ⟨rfl, hn⟩ := range_at hi
      rw [lenB] at hn
      refine ⟨_, (tgt_name Z.nd (by rfl) (Or.inl (by rfl)) (show 3 < 7 by decide) (Or.inl rfl)), ?_⟩
      have li : (t.lines.getD i []).length = w + m + 1 := S.line (by omega)
      have si : ∀ j, ((t.lines.getD i []).getD j 0).natAbs < 2 ^ a := ST.line S (by omega)
      have spec := Sx.leave_spec t (w + m) c i
      have enext : Sx.leaveM t (w + m) c (i + 1) = if Sx.leaveC t (w + m) c (Sx.leaveM t (w + m) c i) i = true then some i else Sx.leaveM t (w + m) c i := rfl
      generalize Sx.leaveM t (w + m) c i = fo at spec enext
      refine blk_set Z (n := 4) (by rfl) (Or.inl (by rfl)) (Or.inl rfl) (show 4 < 7 by decide) (ev_ixL (bx_fld (pv 0) T.n_Table rfl rfl).bw (ev_var (pv 3) rfl) (atI_mapN (f := lInts) (xs := t.lines) [] (by omega))) ?_
      generalize eL : t.lines.getD i [] = ln at li si
      have eT : ∀ j, t.T i j = ln.getD j 0 := fun j => by rw [← eL]
      show Blk _ [.ob ad (clA mg "Table") (fvT t) G, .d false (.int (c : Int)), .d true (oN fo), .d true (.int (i : Int)), .d false (lInts ln), z, u] _ _
      refine blk_if (ec_gt (ev_ixL (ev_var (pv 4) rfl).bx.bw (ev_var (pv 1) rfl) (atI_mapN (f := PyData.int) (xs := ln) 0 (by omega))) ev_int).t (fun hc1 => ?_) (fun hc1 => ?_)
      · have hpos : 0 < ln.getD c 0 := of_decide_eq_true hc1
        cases fo with
        | none =>
          refine blk_if (ec_isN (ev_var (pv 2) rfl)).t (fun _ => ?_) (fun h => absurd h (by decide))
          refine blk_set Z (n := 2) (by rfl) (Or.inl (by rfl)) (Or.inl rfl) (show 2 < 7 by decide) (ev_var (pv 3) rfl) ?_
          exact blk_nil (blk_nil (blk_nil ⟨_, _, _, _, by rw [enext, if_pos (by unfold Sx.leaveC; rw [eT, decide_eq_true hpos]; rfl)]; rfl⟩))
        | some g =>
          obtain ⟨hg, _, _⟩ := spec
          have lg : (t.lines.getD g []).length = w + m + 1 := S.line (by omega)
          have sg : ∀ j, ((t.lines.getD g []).getD j 0).natAbs < 2 ^ a := ST.line S (by omega)
          refine blk_if (ec_isN (ev_var (pv 2) rfl)).t (fun h => absurd h (by simp [isNo, oN])) (fun _ => ?_)
          show Blk _ [.ob ad (clA mg "Table") (fvT t) G, .d false (.int (c : Int)), .d true (.int (g : Int)), .d true (.int (i : Int)), .d false (lInts ln), z, u] _ _
          refine blk_set Z (n := 5) (by rfl) (Or.inl (by rfl)) (Or.inl rfl) (show 5 < 7 by decide) (ev_mul (ev_ixL (ev_var (pv 4) rfl).bx.bw (ev_neg ev_int) (atI_last (f := PyData.int) (xs := ln) (n := w + m) 0 li)) (ev_ixL (Ev.bx (Ds := (t.lines.getD g []).map PyData.int) (ev_ixL (bx_fld (pv 0) T.n_Table rfl rfl).bw (ev_var (pv 2) rfl) (atI_mapN (f := lInts) (xs := t.lines) [] (by omega)))).bw (ev_var (pv 1) rfl) (atI_mapN (f := PyData.int) (xs := t.lines.getD g []) 0 (by omega))) (mulW (si _) (sg _) ha0 ha0 (by omega))) ?_
          refine blk_set Z (n := 6) (by rfl) (Or.inl (by rfl)) (Or.inl rfl) (show 6 < 7 by decide) (ev_mul (ev_ixL (Ev.bx (Ds := (t.lines.getD g []).map PyData.int) (ev_ixL (bx_fld (pv 0) T.n_Table rfl rfl).bw (ev_var (pv 2) rfl) (atI_mapN (f := lInts) (xs := t.lines) [] (by omega)))).bw (ev_neg ev_int) (atI_last (f := PyData.int) (xs := t.lines.getD g []) (n := w + m) 0 lg)) (ev_ixL (ev_var (pv 4) rfl).bx.bw (ev_var (pv 1) rfl) (atI_mapN (f := PyData.int) (xs := ln) 0 (by omega))) (mulW (sg _) (si _) ha0 ha0 (by omega))) ?_
          have eC : Sx.leaveC t (w + m) c (some g) i = (decide (ln.getD (w + m) 0 * (t.lines.getD g []).getD c 0 < (t.lines.getD g []).getD (w + m) 0 * ln.getD c 0) || (decide (ln.getD (w + m) 0 * (t.lines.getD g []).getD c 0 = (t.lines.getD g []).getD (w + m) 0 * ln.getD c 0) && decide (t.basis.getD i 0 < t.basis.getD g 0))) := by
            unfold Sx.leaveC
            rw [eT, eT, decide_eq_true hpos, Bool.true_and]
          rw [eC] at enext
          refine blk_if (evw_or (ec_lt (ev_var (pv 5) rfl) (ev_var (pv 6) rfl)).t (fun h12 => (evw_or1 (EvW.t (evw_and (ec_eqI (ev_var (pv 5) rfl) (ev_var (pv 6) rfl)).t (fun h12 => (evw_and1 (ec_lt (ev_ixL (bx_fld (pv 0) T.n_Table rfl rfl).bw (ev_var (pv 3) rfl) (atI_mapN (f := PyData.int) (xs := t.basis) 0 (by omega))) (ev_ixL (bx_fld (pv 0) T.n_Table rfl rfl).bw (ev_var (pv 2) rfl) (atI_mapN (f := PyData.int) (xs := t.basis) 0 (by omega)))).t))))))).t (fun hc2 => ?_) (fun hc2 => ?_)
          · refine blk_set Z (n := 2) (by rfl) (Or.inl (by rfl)) (Or.inl rfl) (show 2 < 7 by decide) (ev_var (pv 3) rfl) ?_
            exact blk_nil (blk_nil (blk_nil (blk_nil ⟨_, _, _, _, by rw [enext, if_pos hc2]; rfl⟩)))
          · exact blk_nil (blk_nil (blk_nil (blk_nil ⟨_, _, _, _, by rw [enext, if_neg (by rw [hc2]; decide)]; rfl⟩)))
      · have hpos : ¬ 0 < ln.getD c 0 := of_decide_eq_false hc1
        exact blk_nil (blk_nil ⟨_, _, _, _, by rw [enext, if_neg (by unfold Sx.leaveC; rw [eT, decide_eq_false hpos]; simp)]⟩)
    · obtain ⟨x, y, z, u, rfl⟩ := hI
      rw [List.length_map, List.length_range, lenB]
      refine blk_retM (n := 0) (ev_var (pv 2) rfl) rfl ?_
      exact ⟨rfl, rfl⟩
end
end Rk
namespace Rk
open PySem PySem.Spec PyProof.Rows L2
section
variable {P : Program} {w : World} {K : PySem.W.Frag} {mg : Str → Option Value} {base : Heap}
def BestR (L : Sx.Lp) (O : L.Ok) (D : PyData) (fv : List (Str × FV)) : Prop := ∃ fl hf t, Sx.Good (Sx.probOf L O fl hf) t ∧ fv = fvT t ∧ ((D = .bool true ∧ ∀ j, j < L.gains.length + L.rows.length → 0 ≤ t.T L.rows.length j) ∨ (D = .bool false ∧ ∃ c, c < L.gains.length + L.rows.length ∧ t.T L.rows.length c < 0 ∧ ∀ k, k < L.rows.length → t.T k c ≤ 0))
def S_Table_best : MSpec := fun fv As R Xs => ∃ (L : Sx.Lp) (O : L.Ok) (B a : Nat), fv = fvT (Sx.initM L) ∧ As = [] ∧ LpS L B a ∧ R = BestR L O ∧ Xs = fun _ _ => False
theorem sc_Table_best : FnScope ["self", "entering", "j", "at"] ["self"] (defScope (inClass (topS 16) 4)) := ⟨rfl, rfl, rfl, by decide +kernel, rfl, by decide +kernel, by decide +kernel⟩
def whileBody : Stmt → List Stmt
  | .While _ b _ _ => b
  | _ => []
def idxs (xs : List Nat) : List PyData := xs.map fun i => .int ((i : Nat) : Int)
theorem shaped_idxs (xs : List Nat) : SeqAt.shaped (.list (idxs xs)) = true := by
  have e : idxs xs = (xs.map fun i => ((i : Nat) : Int)).map .int := by unfold idxs; rw [List.map_map]; rfl
  rw [e]
  refine shaped_of (canLay_list (canLay_ints _)) ?_
  have := depth_ints (xs.map fun i => ((i : Nat) : Int))
  simp only [PyData.depth]
  omega
theorem eqv_idxs_nil (xs : List Nat) : PyData.eqv (.list (idxs xs)) (.list []) = xs.isEmpty := by
  cases xs <;> simp [idxs, PyData.eqv, PyData.eqvAll]
theorem ok_Table_best (T : Txt K mg) : PromM P w K mg base 3 (clA mg "Table") "best" S_Table_best := by
  refine promM_mk T.m_Table_best sc_Table_best (fun _ _ _ _ _ _ us hl => match us, hl with | [_], _ => rfl) (fun fv As R Xs h => ?_) fun f cdv A outer s H E l ad fv G As R Xs h Z rz => ?_
  · obtain ⟨_, _, _, _, rfl, rfl, _⟩ := h; rfl
  · obtain ⟨L, O, B, a, rfl, rfl, LS, rfl, rfl⟩ := h
    have S0 := Sx.init_shape O
    have ha0 := LS.a0
    have ha4 := LS.a4
    have hm4 := LS.m4
    have hw4 := LS.w4
    generalize eN : L.gains.length + L.rows.length = N
    generalize em : L.rows.length = m
    show Blk _ [.ob ad (clA mg "Table") (fvT (Sx.initM L)) G, .u, .u, .u] _ _
    refine blk_exprM (A := ad) (Cl := clA mg "Table") (G := G) (n := 0) (R := fun D fv' => D = .none ∧ fv' = fvT (Sx.begunM (Sx.initM L))) (evm_call0 (ok_Table_begin T) (Z.hr.mono (by decide)) T.n_Table (pv 0) rfl rfl ⟨Sx.initM L, _, _, a, rfl, rfl, S0, by omega, LS.init O, ha0, ha4, (show (0 : Int) < 1 by decide), fun k hk h => by
      rw [Sx.init_b O hk] at h
      have g0 := (O.allneg ⟨k, hk, h⟩).1
      rw [Sx.init_A O hk g0]
      exact O.neg k hk h, rfl, rfl⟩) (fun D fv' hR => ?_)
    obtain ⟨rfl, rfl⟩ := hR
    obtain ⟨fl, hf, G0⟩ := Sx.good_begun O
    generalize Sx.begunM (Sx.initM L) = t0 at G0
    -- what enters, told of any good table
    have enter : ∀ (t : Sx.Tab) (x1 x2 x3 : SV) (rest : List Stmt) (Tn' : Tn), Sx.Good (Sx.probOf L O fl hf) t →
        Blk (methCt P w K mg base ["self", "entering", "j", "at"] "Table.best" (inClass (topS 16) 4) f cdv A outer s H E l) [.ob ad (clA mg "Table") (fvT t) G, .o true (idxs (Sx.enterL t N m)), x2, x3] rest Tn' → ∀ {es : Stmt}, (es = (defBody (inClass (topS 16) 4)).getD 1 (.Pass ⟨0, 0, 0, 0⟩) ∨ es = (whileBody ((defBody (inClass (topS 16) 4)).getD 2 (.Pass ⟨0, 0, 0, 0⟩))).getD 3 (.Pass ⟨0, 0, 0, 0⟩)) →
        Blk (methCt P w K mg base ["self", "entering", "j", "at"] "Table.best" (inClass (topS 16) 4) f cdv A outer s H E l) [.ob ad (clA mg "Table") (fvT t) G, x1, x2, x3] (es :: rest) Tn' := by
      intro t x1 x2 x3 rest Tn' Gt hB es hes
      have hl := Gt.sh.hl
      have hll : (t.lines.getD L.rows.length []).length = N + 1 := (Gt.sh.line (Nat.le_refl _)).trans (by show _ + 1 = _; rw [← eN]; rfl)
      have lm : t.lines.length = L.rows.length + 1 := hl
      generalize eL : t.lines.getD L.rows.length [] = ln at hll
      have ee : (List.range N).filter (fun j => decide (ln.getD j 0 < 0)) = Sx.enterL t N m := by
        unfold Sx.enterL
        rw [← eL, ← em]
      rcases hes with rfl | rfl
      · refine blk_setLc Z (n := 1) (by rfl) (by rfl) (show 1 < 4 by decide) (lc_mk (List.range N) (fun j => .int ((j : Nat) : Int)) (fun j => .int ((j : Nat) : Int)) (fun j => decide (ln.getD j 0 < 0)) (fun j => [.ob ad (clA mg "Table") (fvT t) G, x1, .d true (.int ((j : Nat) : Int)), x3]) [("j", 2)] (is := [2]) (src_rangeJ T.range (ev_sub (ev_lenL T.len (Ev.bx (Ds := ln.map PyData.int) (by
            have h1 := atI_last (f := lInts) (xs := t.lines) [] lm
            rw [eL] at h1
            exact ev_ixL (bx_fld (pv 0) T.n_Table rfl rfl).bw (ev_neg ev_int) h1)).bw) ev_int) (by rw [List.length_map, hll]; omega) (by omega)) (blkOk_by (N := ["self", "entering", "j", "at"]) (sc := defScope (inClass (topS 16) 4)) (by decide +kernel)) (by rw [List.length_range]; exact small (m := 80) (by omega)) (by decide) (fun x hx s H A cl fp => (tgt_name sc_Table_best.nd (by rfl) (Or.inl (by rfl)) (show 2 < 4 by decide) (Or.inr (by rfl)))) (fun x hx s H A cl fp => .one (ec_lt (ev_ixL (Ev.bx (Ds := ln.map PyData.int) (by
            have h1 := atI_last (f := lInts) (xs := t.lines) [] lm
            rw [eL] at h1
            exact ev_ixL (bx_fld (pv 0) T.n_Table rfl rfl).bw (ev_neg ev_int) h1)).bw (ev_var (pv 2) rfl) (atI_mapN (f := PyData.int) (xs := ln) 0 (by have := List.mem_range.mp hx; omega))) ev_int).t) (fun x hx hc s H A cl fp => (ev_var (pv 2) rfl))) (sw_true rfl rfl rfl (by decide +kernel)) ?_
        rw [ee]
        exact hB
      · refine blk_setLc Z (n := 1) (by rfl) (by rfl) (show 1 < 4 by decide) (lc_mk (List.range N) (fun j => .int ((j : Nat) : Int)) (fun j => .int ((j : Nat) : Int)) (fun j => decide (ln.getD j 0 < 0)) (fun j => [.ob ad (clA mg "Table") (fvT t) G, x1, .d true (.int ((j : Nat) : Int)), x3]) [("j", 2)] (is := [2]) (src_rangeJ T.range (ev_sub (ev_lenL T.len (Ev.bx (Ds := ln.map PyData.int) (by
            have h1 := atI_last (f := lInts) (xs := t.lines) [] lm
            rw [eL] at h1
            exact ev_ixL (bx_fld (pv 0) T.n_Table rfl rfl).bw (ev_neg ev_int) h1)).bw) ev_int) (by rw [List.length_map, hll]; omega) (by omega)) (blkOk_by (N := ["self", "entering", "j", "at"]) (sc := defScope (inClass (topS 16) 4)) (by decide +kernel)) (by rw [List.length_range]; exact small (m := 80) (by omega)) (by decide) (fun x hx s H A cl fp => (tgt_name sc_Table_best.nd (by rfl) (Or.inl (by rfl)) (show 2 < 4 by decide) (Or.inr (by rfl)))) (fun x hx s H A cl fp => .one (ec_lt (ev_ixL (Ev.bx (Ds := ln.map PyData.int) (by
            have h1 := atI_last (f := lInts) (xs := t.lines) [] lm
            rw [eL] at h1
            exact ev_ixL (bx_fld (pv 0) T.n_Table rfl rfl).bw (ev_neg ev_int) h1)).bw (ev_var (pv 2) rfl) (atI_mapN (f := PyData.int) (xs := ln) 0 (by have := List.mem_range.mp hx; omega))) ev_int).t) (fun x hx hc s H A cl fp => (ev_var (pv 2) rfl))) (sw_true rfl rfl rfl (by decide +kernel)) ?_
        rw [ee]
        exact hB
    refine enter t0 _ _ _ _ _ G0 ?_ (.inl rfl)
    refine blk_while Z (fun t => [.ob ad (clA mg "Table") (fvT t) G, .o true (idxs (Sx.enterL t N m)), .u, .u]) (fun t => Sx.Good (Sx.probOf L O fl hf) t) (fun t => Sx.leftOf (Sx.probOf L O fl hf) t) (fun t => !PyData.eqv (.list (idxs (Sx.enterL t N m))) (.list [])) t0 rfl G0 (fun t ok => (ec_neX Z.u64 (bx_var (pv 1) rfl) (evo_lst evs_nil (show 0 ≤ sizeLine by decide)).bx (shaped_idxs _) (by decide)).t) (fun t ok hb => ?_) (fun t ok hb => ?_)
    · rw [eqv_idxs_nil] at hb
      have ST := LS.good ok
      cases ee : Sx.enterL t N m with
      | nil => rw [ee] at hb; simp at hb
      | cons c r =>
        obtain ⟨c1, c2, c3⟩ := Sx.enter_cons ee
        refine blk_setM (n := 0) (m := 3) (A := ad) (Cl := clA mg "Table") (G := G) (R := fun D fv' => D = oN (Sx.leaveM t N c m) ∧ fv' = fvT t) Z (by rfl) (Or.inl (by rfl)) (Or.inl rfl) (show 3 < 4 by decide) (evm_call (As := [.d false (.int (c : Int))]) (ok_Table_leaving T) (Z.hr.mono (by decide)) T.n_Table (pv 0) rfl rfl (argm_d (ev_ixL (bx_var (pv 1) rfl).bw ev_int (atI_mapN (f := fun i : Nat => PyData.int ((i : Nat) : Int)) (xs := c :: r) (k := 0) 0 (by simp))) argm_nil) ⟨t, _, _, a, c, rfl, rfl, ok.sh, by show c ≤ L.gains.length + L.rows.length; omega, by show L.gains.length + L.rows.length ≤ 100; omega, ST, ha0, ha4, by show _ = fun D fv' => D = oN (Sx.leaveM t (L.gains.length + L.rows.length) c L.rows.length) ∧ fv' = fvT t; rw [eN, em], rfl⟩) (fun D fv' hR => ?_)
        obtain ⟨rfl, rfl⟩ := hR
        have ls := Sx.leave_spec t N c m
        cases el : Sx.leaveM t N c m with
        | none =>
          rw [el] at ls
          refine blk_ifR (ec_isN (ev_var (pv 3) rfl)).t (fun hc => ?_) (fun hc => absurd hc (by decide))
          refine blk_retM (n := 0) ev_bl rfl ?_
          refine ⟨fl, hf, t, ok, rfl, .inr ⟨rfl, c, by omega, by rw [em]; exact c2, by rw [em]; exact ls⟩⟩
        | some g =>
          rw [el] at ls
          obtain ⟨l1, l2, l3⟩ := ls
          refine blk_ifR (ec_isN (ev_var (pv 3) rfl)).t (fun hc => absurd hc (by simp [isNo, oN])) (fun hc => ?_)
          have en : Sx.nextM (Sx.probOf L O fl hf) t = some (Sx.turnM t g c) := by
            unfold Sx.nextM
            have e1 : Sx.enterL t (Sx.probOf L O fl hf).N (Sx.probOf L O fl hf).m = c :: r := by
              show Sx.enterL t (L.gains.length + L.rows.length) L.rows.length = _
              rw [eN, em]; exact ee
            have e2 : Sx.leaveM t (Sx.probOf L O fl hf).N c (Sx.probOf L O fl hf).m = some g := by
              show Sx.leaveM t (L.gains.length + L.rows.length) c L.rows.length = _
              rw [eN, em]; exact el
            rw [e1]
            simp only
            rw [e2]
          obtain ⟨ok', _⟩ := ok.step en
          have lt := Sx.leftOf_next ok en
          have b0 := ok.iv.i0.d0
          refine blk_exprM (A := ad) (Cl := clA mg "Table") (G := G) (n := 0) (R := fun D fv' => D = .none ∧ fv' = fvT (Sx.turnM t g c)) (evm_call (As := [.d false (.int (g : Int)), .d false (.int (c : Int))]) (ok_Table_turn T) (Z.hr.mono (by decide)) T.n_Table (pv 0) rfl rfl (argm_d (ev_var (pv 3) rfl) (argm_d (ev_ixL (bx_var (pv 1) rfl).bw ev_int (atI_mapN (f := fun i : Nat => PyData.int ((i : Nat) : Int)) (xs := c :: r) (k := 0) 0 (by simp))) argm_nil)) ⟨t, _, _, a, g, c, rfl, rfl, ok.sh, by show g < L.rows.length; omega, by show c ≤ L.gains.length + L.rows.length; omega, by show L.gains.length + L.rows.length ≤ 100; omega, ST, ha0, ha4, b0, rfl, rfl⟩) (fun D fv' hR => ?_)
          obtain ⟨rfl, rfl⟩ := hR
          refine enter (Sx.turnM t g c) _ _ _ _ _ ok' ?_ (.inr rfl)
          refine blk_forget 3 ?_
          exact blk_nil ⟨Sx.turnM t g c, rfl, ok', lt⟩
    · rw [eqv_idxs_nil] at hb
      have ee : Sx.enterL t N m = [] := by
        cases h : Sx.enterL t N m with
        | nil => rfl
        | cons c r => rw [h] at hb; simp at hb
      refine blk_retM (n := 0) ev_bl rfl ?_
      exact ⟨fl, hf, t, ok, rfl, .inl ⟨rfl, by rw [eN, em]; exact Sx.enter_nil ee⟩⟩
end
end Rk
namespace Rk
open PySem PySem.Spec PyProof.Rows L2
section
variable {P : Program} {w : World} {K : PySem.W.Frag} {mg : Str → Option Value} {base : Heap}
theorem rep_const (c : PyData) : ∀ W : Nat, (List.replicate W [c]).flatten = (List.range W).map fun _ => c
  | 0 => rfl
  | n + 1 => by
    rw [List.replicate_succ', List.flatten_append, rep_const c n, List.range_succ, List.map_append]; rfl
def xPart (t : Sx.Tab) (N n j : Nat) : Int := Sx.sm n fun k => if t.β k = j then t.T k N else 0
def S_Table_told : MSpec := fun fv As R Xs => ∃ (L : Sx.Lp) (O : L.Ok) (fl : Option Nat) (hf : ∀ f, fl = some f → f < L.rows.length) (t : Sx.Tab) (B a : Nat), LpS L B a ∧ Sx.Good (Sx.probOf L O fl hf) t ∧ fv = fvT t ∧ As = [] ∧
  R = (fun D fv' => D = .tuple [dF (bestQ t L.rows.length L.gains.length), lQ (amtQ (Sx.probOf L O fl hf) t), lQ (worQ t L.rows.length L.gains.length)] ∧ fv' = fvT t) ∧ Xs = fun _ _ => False
theorem sc_Table_told : FnScope ["self", "amounts", "k", "worths", "one"] ["self"] (defScope (inClass (topS 16) 5)) := ⟨rfl, rfl, rfl, by decide +kernel, rfl, by decide +kernel, by decide +kernel⟩
theorem ok_Table_told (T : Txt K mg) : PromM P w K mg base 3 (clA mg "Table") "told" S_Table_told := by
  refine promM_mk T.m_Table_told sc_Table_told (fun _ _ _ _ _ _ us hl => match us, hl with | [_], _ => rfl) (fun fv As R Xs h => ?_) fun f cdv A outer s H E l ad fv G As R Xs h Z rz => ?_
  · obtain ⟨_, _, _, _, _, _, _, _, _, rfl, rfl, _⟩ := h; rfl
  · obtain ⟨L, O, fl, hf, t, B, a, LS, Gt, rfl, rfl, rfl, rfl⟩ := h
    have ST := LS.good Gt
    have ha0 := LS.a0
    have ha4 := LS.a4
    have hm4 := LS.m4
    have hw4 := LS.w4
    have S : Sx.Shape t L.rows.length L.gains.length := Gt.sh
    have d0 : 0 < t.bottom := Gt.iv.i0.d0
    have d9 : t.bottom.natAbs < 2 ^ 9000 := Nat.lt_of_lt_of_le ST.2 (Nat.pow_le_pow_right (by decide) (by omega))
    have hl := S.hl
    have hbs := S.hb
    have hwd := S.hw
    have inj : ∀ k k', k < L.rows.length → k' < L.rows.length → t.β k = t.β k' → k = k' := fun k k' h1 h2 e => Sx.Inv.binj (s := t.st) Gt.iv h1 h2 e
    have eamt : amtQ (Sx.probOf L O fl hf) t = (List.range L.gains.length).map fun j => Rat.divInt (xPart t (L.gains.length + L.rows.length) L.rows.length j) t.bottom := rfl
    have ebest : bestQ t L.rows.length L.gains.length = Rat.divInt ((t.lines.getD L.rows.length []).getD (L.gains.length + L.rows.length) 0) t.bottom := rfl
    have ewor : worQ t L.rows.length L.gains.length = (List.range L.rows.length).map fun i => Rat.divInt ((t.lines.getD L.rows.length []).getD (L.gains.length + i) 0) t.bottom := rfl
    have hlast : (t.lines.getD L.rows.length []).length = L.gains.length + L.rows.length + 1 := S.line (Nat.le_refl _)
    rw [eamt, ebest, ewor]
    clear eamt ebest ewor Gt LS
    generalize L.gains.length = W at S hw4 hwd hlast ⊢
    generalize L.rows.length = M at S hm4 hl hbs inj hlast ⊢
    show Blk _ [.ob ad (clA mg "Table") (fvT t) G, .u, .u, .u, .u] _ _
    have lenB : (t.basis.map PyData.int).length = M := by rw [List.length_map]; exact hbs
    have lenA : ∀ n, ((List.range W).map fun j => dF (Rat.divInt (xPart t (W + M) n j) t.bottom)).length = W := fun n => by rw [List.length_map, List.length_range]
    refine blk_setO Z (n := 1) (by rfl) (Or.inl (by rfl)) (Or.inl rfl) (show 1 < 5 by decide) (evo_rep (evo_lst (evs_cons (ev_tup (evs_cons ev_int (evs_cons ev_int evs_nil)) (show 2 ≤ sizeLine by decide)) evs_nil) (show 1 ≤ sizeLine by decide)).bx (ev_fldI (pv 0) T.n_Table rfl rfl) (by omega) (by omega) (by rw [Int.toNat_natCast, hwd]; exact small (m := 80) (by simp only [List.length_cons, List.length_nil]; omega))) ?_
    have e0 : (List.replicate ((t.wide : Int)).toNat [PyData.tuple [.int 0, .int 1]]).flatten = (List.range W).map fun j => dF (Rat.divInt (xPart t (W + M) 0 j) t.bottom) := by
      rw [Int.toNat_natCast, hwd]
      have : (fun j => dF (Rat.divInt (xPart t (W + M) 0 j) t.bottom)) = fun _ => PyData.tuple [.int 0, .int 1] := by
        funext j
        show dF (Rat.divInt 0 t.bottom) = _
        rw [Rat.divInt_eq_div, show ((0 : Int) : Rat) / (t.bottom : Rat) = 0 by simp [Rat.div_def]]
        exact dF_zero
      rw [this]
      exact rep_const _ W
    rw [e0]
    refine blk_for Z (is := [2]) (b := true) (src_rangeN T.range (ev_lenL T.len (bx_fld (pv 0) T.n_Table rfl rfl).bw) (by omega)) (fun n r => ∃ x : SV, r = [.ob ad (clA mg "Table") (fvT t) G, .o true ((List.range W).map fun j => dF (Rat.divInt (xPart t (W + M) n j) t.bottom)), x, .u, .u]) ⟨_, rfl⟩ (fun n D r hD hI => ?_) (fun r hI => ?_)
    · obtain ⟨x, rfl⟩ := hI
      rw [List.getElem?_map, Option.map_eq_some_iff] at hD
      obtain ⟨i, hi, rfl⟩ := hD
      obtain ⟨rfl, hn⟩ := range_at hi
      rw [lenB] at hn
      refine ⟨_, (tgt_name Z.nd (by rfl) (Or.inl (by rfl)) (show 2 < 5 by decide) (Or.inl rfl)), ?_⟩
      have li : (t.lines.getD i []).length = W + M + 1 := S.line (by omega)
      have hbv := S.hn (t.basis.getD i 0) (mem_getD (by omega) 0)
      have eβ : t.β i = (t.basis.getD i 0).toNat := rfl
      refine blk_if (ec_lt (ev_ixL (bx_fld (pv 0) T.n_Table rfl rfl).bw (ev_var (pv 2) rfl) (atI_mapN (f := PyData.int) (xs := t.basis) 0 (by omega))) (ev_fldI (pv 0) T.n_Table rfl rfl)).t (fun hc => ?_) (fun hc => ?_)
      · have hc' : t.basis.getD i 0 < (W : Int) := by
          have := of_decide_eq_true hc
          rwa [hwd] at this
        have hb' : ((t.β i : Nat) : Int) = t.basis.getD i 0 := by rw [eβ]; omega
        refine blk_setIx (n := 1) (m := t.β i) (pv 1) rfl (ev_ixL (bx_fld (pv 0) T.n_Table rfl rfl).bw (ev_var (pv 2) rfl) (atI_mapN (f := PyData.int) (xs := t.basis) 0 (by omega))) (ev_call (ok_fraction T) (Z.hr.mono (by decide)) (args_d (ev_ixL (Ev.bx (Ds := (t.lines.getD i []).map PyData.int) (ev_ixL (bx_fld (pv 0) T.n_Table rfl rfl).bw (ev_var (pv 2) rfl) (atI_mapN (f := lInts) (xs := t.lines) [] (by omega)))).bw (ev_neg ev_int) (atI_last (f := PyData.int) (xs := t.lines.getD i []) (n := W + M) 0 li)) (args_d (ev_fldI (pv 0) T.n_Table rfl rfl) args_nil)) ⟨_, _, rfl, by omega, d9, rfl⟩) (by rw [lenA, ← hb']; exact ixN_nat (by omega)) ?_
        have e1 : (((List.range W).map fun j => dF (Rat.divInt (xPart t (W + M) i j) t.bottom)).set (t.β i) (dF (Rat.divInt ((t.lines.getD i []).getD (W + M) 0) t.bottom))) = (List.range W).map fun j => dF (Rat.divInt (xPart t (W + M) (i + 1) j) t.bottom) := by
          refine List.ext_getElem? fun j => ?_
          by_cases hj : j < W
          · rw [List.getElem?_map, List.getElem?_range hj, List.getElem?_set]
            by_cases z : t.β i = j
            · rw [if_pos z, if_pos (by rw [lenA]; omega)]
              have e : xPart t (W + M) (i + 1) j = (t.lines.getD i []).getD (W + M) 0 := by
                show Sx.sm i _ + (if t.β i = j then t.T i (W + M) else 0) = _
                rw [if_pos z, Sx.sm_zero fun k hk => if_neg fun e => ?_, Int.zero_add]
                have := inj k i (by omega) hn (e.trans z.symm)
                omega
              show some _ = some (dF (Rat.divInt (xPart t (W + M) (i + 1) j) t.bottom))
              rw [e]
            · rw [if_neg z, List.getElem?_map, List.getElem?_range hj]
              have e : xPart t (W + M) (i + 1) j = xPart t (W + M) i j := by
                show Sx.sm i _ + (if t.β i = j then t.T i (W + M) else 0) = _
                rw [if_neg z, Int.add_zero]; rfl
              show some _ = some (dF (Rat.divInt (xPart t (W + M) (i + 1) j) t.bottom))
              rw [e]
          · rw [List.getElem?_eq_none (by rw [List.length_set, lenA]; omega), List.getElem?_eq_none (by rw [lenA]; omega)]
        refine blk_nil (blk_nil ⟨.d true (.int ((i : Nat) : Int)), ?_⟩)
        rw [← e1]
        rfl
      · have hc' : ¬ t.basis.getD i 0 < (W : Int) := by
          have := of_decide_eq_false hc
          rwa [hwd] at this
        have e1 : ((List.range W).map fun j => dF (Rat.divInt (xPart t (W + M) i j) t.bottom)) = (List.range W).map fun j => dF (Rat.divInt (xPart t (W + M) (i + 1) j) t.bottom) := by
          refine List.map_congr_left fun j hj => ?_
          have hj' := List.mem_range.mp hj
          have : xPart t (W + M) (i + 1) j = xPart t (W + M) i j := by
            show Sx.sm i _ + (if t.β i = j then t.T i (W + M) else 0) = _
            rw [if_neg (by rw [eβ]; omega), Int.add_zero]; rfl
          rw [this]
        refine blk_nil (blk_nil ⟨.d true (.int ((i : Nat) : Int)), ?_⟩)
        rw [← e1]
        rfl
    · obtain ⟨x, rfl⟩ := hI
      rw [List.length_map, List.length_range, lenB]
      have lm : t.lines.length = M + 1 := hl
      generalize hLn : t.lines.getD M [] = last at hlast
      have hat := atI_last (f := lInts) (xs := t.lines) [] lm
      rw [hLn] at hat
      refine blk_setLc Z (n := 3) (by rfl) (by rfl) (show 3 < 5 by decide) (lc_map ((last.drop W).take M) PyData.int (fun v => dF (Rat.divInt v t.bottom)) (fun v => [.ob ad (clA mg "Table") (fvT t) G, .o true ((List.range W).map fun j => dF (Rat.divInt (xPart t (W + M) M j) t.bottom)), x, .u, .d false (.int v)]) [("one", 4)] (is := [4]) (by
        have h1 := cutD_mid (f := PyData.int) (xs := last) (w := W) (m := M) hlast
        rw [← h1, ← hwd]
        exact src_list (evo_slL (Ev.bx (Ds := last.map PyData.int) (ev_ixL (bx_fld (pv 0) T.n_Table rfl rfl).bw (ev_neg ev_int) hat)).bw (eo_some (ev_fldI (pv 0) T.n_Table rfl rfl)) (eo_some (ev_neg ev_int))).ev) (blkOk_by (N := ["self", "amounts", "k", "worths", "one"]) (sc := defScope (inClass (topS 16) 5)) (by decide +kernel)) (by rw [List.length_take]; exact small (m := 80) (by omega)) (by decide) (fun x hx s H A cl fp => (tgt_name sc_Table_told.nd (by rfl) (Or.inl (by rfl)) (show 4 < 5 by decide) (Or.inr (by rfl)))) (fun x hx s H A cl fp => (ev_call (ok_fraction T) (Z.hr.mono (by decide)) (args_d (ev_var (pv 4) rfl) (args_d (ev_fldI (pv 0) T.n_Table rfl rfl) args_nil)) ⟨_, _, rfl, by omega, d9, rfl⟩))) (sw_true rfl rfl rfl (by decide +kernel)) ?_
      refine blk_freeze 1 rfl ?_
      refine blk_freeze 3 rfl ?_
      refine blk_retM (n := 0) (ev_tup (evs_cons (ev_call (ok_fraction T) (Z.hr.mono (by decide)) (args_d (ev_ixL (Ev.bx (Ds := last.map PyData.int) (ev_ixL (bx_fld (pv 0) T.n_Table rfl rfl).bw (ev_neg ev_int) hat)).bw (ev_neg ev_int) (atI_last (f := PyData.int) (xs := last) (n := W + M) 0 hlast)) (args_d (ev_fldI (pv 0) T.n_Table rfl rfl) args_nil)) ⟨_, _, rfl, by omega, d9, rfl⟩) (evs_cons (ev_var (pv 1) rfl) (evs_cons (ev_var (pv 3) rfl) evs_nil))) (show 3 ≤ sizeLine by decide)) rfl ?_
      refine ⟨?_, rfl⟩
      rw [mid_eq last hlast, List.map_map]
      unfold lQ
      rw [List.map_map, List.map_map]
      rfl
end
end Rk
namespace Rk
open PySem PySem.Spec PyProof.Rows L2
section
variable {P : Program} {w : World} {K : PySem.W.Frag} {mg : Str → Option Value} {base : Heap}
def SolRa (a : Nat) (L : Sx.Lp) (D : PyData) : Prop := (D = .none ∧ LpUnb L ∧ ∃ z : List Rat, z.length = L.gains.length ∧ (∀ q ∈ z, 0 ≤ q) ∧ ∀ k, k < L.rows.length → dotQ (L.rows.getD k []) z ≤ ((L.limits.getD k 0 : Int) : Rat)) ∨
  ∃ best x y d M, D = .tuple [dF best, lQ x, lQ y] ∧ LpOpt L best x y ∧ d ≠ 0 ∧ d < 2 ^ a ∧ M < 2 ^ a ∧ LpCd d M best x y
def S_solved : Spec := fun As R Xs => ∃ (L : Sx.Lp) (O : L.Ok) (B a : Nat), As = [.d false (.list (L.rows.map lInts)), .d false (lInts L.limits), .d false (lInts L.gains)] ∧ LpS L B a ∧ R = SolRa a L
theorem sc_solved : FnScope ["rows", "limits", "gains", "table"] ["rows", "limits", "gains"] (defScope (topS 17)) := ⟨rfl, rfl, rfl, by decide +kernel, rfl, by decide +kernel, by decide +kernel⟩
theorem cd_divInt {n : Int} {d : Int} {M : Nat} (hd : 0 < d) (h : n.natAbs ≤ M) : Cd d.natAbs M (Rat.divInt n d) := by
  refine ⟨by omega, n, h, ?_⟩
  have e : d = ((d.natAbs : Nat) : Int) := by omega
  rw [e, Rat.divInt_ofNat]
  simp
theorem xOf_lt {L : Sx.Lp} {O : L.Ok} {fl : Option Nat} {hf : ∀ f, fl = some f → f < L.rows.length} {t : Sx.Tab} {a : Nat} (G : Sx.Good (Sx.probOf L O fl hf) t) (ST : SmallT a t) (j : Nat) : (Sx.xOf (Sx.probOf L O fl hf) t j).natAbs ≤ 2 ^ a - 1 := by
  have hk0 : ∀ k, k < L.rows.length → (t.T k (L.gains.length + L.rows.length)).natAbs < 2 ^ a := fun k hk => ST.line G.sh (show k ≤ L.rows.length by omega) _
  by_cases h : ∃ k, k < L.rows.length ∧ t.β k = j
  · obtain ⟨k, hk, e⟩ := h
    have : Sx.xOf (Sx.probOf L O fl hf) t j = t.T k (L.gains.length + L.rows.length) := by
      show Sx.sm L.rows.length _ = _
      rw [Sx.sm_one hk fun i hi hn => if_neg fun z => hn (Sx.Inv.binj (s := t.st) G.iv hi hk (z.trans e.symm)), if_pos e]; rfl
    rw [this]
    have := hk0 k hk
    omega
  · have : Sx.xOf (Sx.probOf L O fl hf) t j = 0 := Sx.sm_zero fun k hk => if_neg fun z => h ⟨k, hk, z⟩
    rw [this]; simp
theorem ok_solved (T : Txt K mg) : Prom P w K mg base 4 "solved" S_solved := by
  refine prom_mk T.d_solved sc_solved (fun _ _ _ _ _ _ us hl => match us, hl with | [_, _, _], _ => rfl) (fun As R Xs h => ?_) fun f cdv A outer s H E As R Xs h Z rz => ?_
  · obtain ⟨_, _, _, _, rfl, _⟩ := h; rfl
  · obtain ⟨L, O, B, a, rfl, LS, rfl⟩ := h
    have hm4 := LS.m4
    have hw4 := LS.w4
    show Blk _ [.d false (.list (L.rows.map lInts)), .d false (lInts L.limits), .d false (lInts L.gains), .u] _ _
    refine blk_make (m := 3) (R := fun D fv' => D = .none ∧ fv' = fvT (Sx.initM L)) Z (by rfl) (Or.inl (by rfl)) (Or.inl rfl) (show 3 < 4 by decide) (ok_Table___init__ T) (Z.hr.mono (by decide)) T.k_Table (argm_d (ev_var (pv 0) rfl) (argm_d (ev_var (pv 1) rfl) (argm_d (ev_var (pv 2) rfl) argm_nil))) ⟨L, rfl, rfl, O.lm, O.rw, hm4, hw4, rfl, rfl⟩ (fun D fv h => h.1) (fun ad fv hR => ?_)
    obtain ⟨_, rfl⟩ := hR
    refine blk_ifNotM (n := 3) (A := ad) (Cl := clA mg "Table") (G := []) (R := BestR L O) (evm_call0 (ok_Table_best T) (Z.hr.mono (by decide)) T.n_Table (pv 3) rfl rfl ⟨L, O, B, a, rfl, rfl, LS, rfl, rfl⟩) fun D fv' hR => ?_
    obtain ⟨fl, hf, t, G, rfl, hD⟩ := hR
    have ST := LS.good G
    have d0 : 0 < t.bottom := G.iv.i0.d0
    obtain ⟨a1, a2, a3, a4⟩ := good_amt G
    rcases hD with ⟨rfl, h1⟩ | ⟨rfl, c, c1, c2, c3⟩
    · refine ⟨true, rfl, (fun z => nomatch z), fun _ => ?_⟩
      refine blk_retE (n := 3) (A := ad) (Cl := clA mg "Table") (G := []) (R := fun D fv' => D = .tuple [dF (bestQ t L.rows.length L.gains.length), lQ (amtQ (Sx.probOf L O fl hf) t), lQ (worQ t L.rows.length L.gains.length)] ∧ fv' = fvT t) (evm_call0 (ok_Table_told T) (Z.hr.mono (by decide)) T.n_Table (pv 3) rfl rfl ⟨L, O, fl, hf, t, B, a, LS, G, rfl, rfl, rfl, rfl⟩) fun D fv hR => ?_
      obtain ⟨rfl, _⟩ := hR
      have dl := ST.2
      have hTm : ∀ j, (t.T L.rows.length j).natAbs ≤ 2 ^ a - 1 := fun j => by
        have : (t.T L.rows.length j).natAbs < 2 ^ a := ST.line G.sh (show L.rows.length ≤ L.rows.length from Nat.le_refl _) j
        omega
      refine .inr ⟨_, _, _, t.bottom.natAbs, 2 ^ a - 1, rfl, good_opt G h1, by omega, dl, by have := Nat.two_pow_pos a; omega, cd_divInt d0 (hTm _), fun q hq => ?_, fun q hq => ?_⟩
      · obtain ⟨j, _, rfl⟩ := List.mem_map.mp hq
        exact cd_divInt d0 (xOf_lt G ST j)
      · obtain ⟨j, _, rfl⟩ := List.mem_map.mp hq
        exact cd_divInt d0 (hTm _)
    · refine ⟨false, rfl, fun _ => ?_, (fun z => nomatch z)⟩
      refine blk_ret ev_non ?_
      exact .inl ⟨rfl, good_unb G c1 c2 c3, _, a1, a2, a3⟩
end
end Rk
namespace Rk
open PySem PySem.Spec PyProof.Rows L2
section
variable {P : Program} {w : World} {K : PySem.W.Frag} {mg : Str → Option Value} {base : Heap}
def S_size_parts : Spec := fun As R Xs => ∃ (z : Sz) (x : Int), As = [.d false (.str (szS z)), .d false (.int x)] ∧ R = (· = lInts (parts z x))
theorem sc_size_parts : FnScope ["sizes", "amount", "told"] ["sizes", "amount"] (defScope (topS 21)) := ⟨rfl, rfl, rfl, by decide +kernel, rfl, by decide +kernel, by decide +kernel⟩
theorem ok_size_parts (T : Txt K mg) : Prom P w K mg base 1 "size_parts" S_size_parts := by
  refine prom_mk T.d_size_parts sc_size_parts (fun _ _ _ _ _ _ us hl => match us, hl with | [_, _], _ => rfl) (fun As R Xs h => ?_) fun f cdv A outer s H E As R Xs h Z rz => ?_
  · obtain ⟨_, _, rfl, _⟩ := h; rfl
  · obtain ⟨z, x, rfl, rfl⟩ := h
    show Blk _ [.d false (.str (szS z)), .d false (.int x), .u] _ _
    refine blk_setO Z (n := 2) (by rfl) (Or.inl (by rfl)) (Or.inl rfl) (show 2 < 3 by decide) (evo_lst evs_nil (show 0 ≤ sizeLine by decide)) ?_
    have eU : decide (szS z ∈ (["one", "more"] : List Str)) = upB z := by cases z <;> decide
    have eD : decide (szS z ∈ (["one", "less"] : List Str)) = downB z := by cases z <;> decide
    refine blk_ifJ (fun r => r = [.d false (.str (szS z)), .d false (.int x), .o true ((if upB z = true then [x] else []).map .int)]) (ec_inT (ev_var (pv 0) rfl) (ev_gtup T.u_UP)).t (fun hc => ?_) (fun hc => ?_) ?_
    · rw [eU] at hc
      refine blk_append (n := 2) (pv 2) rfl ((ev_var (pv 1) rfl).flat (b' := true) rfl) (show 0 < sizeLine by decide) ?_ (ps_append (pv 2))
      exact blk_nil (by rw [if_pos hc]; rfl)
    · rw [eU] at hc
      exact blk_nil (by rw [if_neg (by rw [hc]; decide)]; rfl)
    rintro r rfl
    refine blk_ifJ (fun r => r = [.d false (.str (szS z)), .d false (.int x), .o true ((parts z x).map .int)]) (ec_inT (ev_var (pv 0) rfl) (ev_gtup T.u_DOWN)).t (fun hc => ?_) (fun hc => ?_) ?_
    · rw [eD] at hc
      refine blk_append (n := 2) (pv 2) rfl (ev_sub ev_int (ev_var (pv 1) rfl)) (by rw [List.length_map]; exact small' (m := 2) (by split <;> simp)) ?_ (ps_append (pv 2))
      exact blk_nil (by unfold parts; rw [if_pos hc, List.map_append]; rfl)
    · rw [eD] at hc
      exact blk_nil (by unfold parts; rw [if_neg (show ¬ downB z = true by rw [hc]; decide), List.append_nil])
    rintro r rfl
    exact blk_retO (pv 2) rfl rfl
end
end Rk
namespace Rk
open PySem PySem.Spec PyProof.Rows L2
section
variable {P : Program} {w : World} {K : PySem.W.Frag} {mg : Str → Option Value} {base : Heap}
def S_minus : Spec := fun As R Xs => ∃ (x y : Rat) (n m : Nat), As = [.d false (dF x), .d false (dF y)] ∧ Wd n x ∧ Wd m y ∧ 0 < n ∧ 0 < m ∧ n + m ≤ 8000 ∧ R = (· = dF (x - y))
theorem sc_minus : FnScope ["one", "other"] ["one", "other"] (defScope (topS 8)) := ⟨rfl, rfl, rfl, by decide +kernel, rfl, by decide +kernel, by decide +kernel⟩
theorem ok_minus (T : Txt K mg) : Prom P w K mg base 3 "minus" S_minus := by
  refine prom_mk T.d_minus sc_minus (fun _ _ _ _ _ _ us hl => match us, hl with | [_, _], _ => rfl) (fun As R Xs h => ?_) fun f cdv A outer s H E As R Xs h Z rz => ?_
  · obtain ⟨_, _, _, _, rfl, _⟩ := h; rfl
  · obtain ⟨x, y, n, m, rfl, h1, h2, hn, hm, hnm, rfl⟩ := h
    have px := x.den_pos
    have py := y.den_pos
    show Blk _ [.d false (dF x), .d false (dF y)] _ _
    refine blk_ret (ev_call (ok_fraction T) (Z.hr.mono (by decide)) (args_d (ev_sub (ev_mul (ev_ixT (ev_var (pv 0) rfl) ev_int rfl) (ev_ixT (ev_var (pv 1) rfl) ev_int rfl) (mulW h1.1 (natAbs_ofNat h2.2) (by omega) (by omega) (by omega))) (ev_mul (ev_ixT (ev_var (pv 1) rfl) ev_int rfl) (ev_ixT (ev_var (pv 0) rfl) ev_int rfl) (mulW h2.1 (natAbs_ofNat h1.2) (by omega) (by omega) (by omega)))) (args_d (ev_mul (ev_ixT (ev_var (pv 0) rfl) ev_int rfl) (ev_ixT (ev_var (pv 1) rfl) ev_int rfl) (mulW (natAbs_ofNat h1.2) (natAbs_ofNat h2.2) (by omega) (by omega) (by omega))) args_nil)) ⟨_, _, rfl, Int.mul_ne_zero (by omega) (by omega), Nat.lt_of_lt_of_le (add_num_lt h1 h2).2 (Nat.pow_le_pow_right (by decide) (by omega)), rfl⟩) ?_
    show dF _ = dF _
    rw [divInt_sub]
end
end Rk
namespace Rk
open PySem PySem.Spec PyProof.Rows L2
section
variable {P : Program} {w : World} {K : PySem.W.Frag} {mg : Str → Option Value} {base : Heap}
def S_size_price : Spec := fun As R Xs => ∃ (z : Sz) (qs : List Rat) (n k : Nat), As = [.d false (.str (szS z)), .d false (lQ qs)] ∧ qs.length = k + nparts z ∧ (∀ q ∈ qs, Wd n q) ∧ 0 < n ∧ n ≤ 3000 ∧ R = (· = dF (sizeOf z (qs.drop k)))
theorem sc_size_price : FnScope ["sizes", "amounts"] ["sizes", "amounts"] (defScope (topS 22)) := ⟨rfl, rfl, rfl, by decide +kernel, rfl, by decide +kernel, by decide +kernel⟩
theorem atI_last2 {qs : List Rat} {k : Nat} (h : qs.length = k + 2) : atI (qs.map dF) (-2) = some (dF (qs.getD k 0)) := by
  unfold atI
  have e : ixN (qs.map dF).length (-2) = some k := by
    unfold ixN
    rw [List.length_map, h, if_neg (by omega), if_pos (by omega)]
    congr 1
    omega
  rw [e]
  show (qs.map dF)[k]? = _
  rw [List.getElem?_map, List.getElem?_eq_getElem (by omega), List.getD, List.getElem?_eq_getElem (by omega)]; rfl
theorem drop_getD {qs : List Rat} {k i : Nat} : (qs.drop k).getD i 0 = qs.getD (k + i) 0 := by
  rw [List.getD, List.getElem?_drop]; rfl
theorem memQ_getD {qs : List Rat} {k : Nat} (h : k < qs.length) : qs.getD k 0 ∈ qs := by
  rw [List.getD, List.getElem?_eq_getElem h]; exact List.getElem_mem h
theorem ok_size_price (T : Txt K mg) : Prom P w K mg base 4 "size_price" S_size_price := by
  refine prom_mk T.d_size_price sc_size_price (fun _ _ _ _ _ _ us hl => match us, hl with | [_, _], _ => rfl) (fun As R Xs h => ?_) fun f cdv A outer s H E As R Xs h Z rz => ?_
  · obtain ⟨_, _, _, _, rfl, _⟩ := h; rfl
  · obtain ⟨z, qs, n, k, rfl, hl, hw, n0, n3, rfl⟩ := h
    show Blk _ [.d false (.str (szS z)), .d false (lQ qs)] _ _
    cases z with
    | any =>
      refine blk_ifR (ec_eqS (ev_var (pv 0) rfl) ev_str).t (fun hc => ?_) (fun hc => absurd hc (by decide))
      exact blk_ret (ev_tup (evs_cons ev_int (evs_cons ev_int evs_nil)) (show 2 ≤ sizeLine by decide)) rfl
    | one =>
      have hl2 : qs.length = (k + 1) + 1 := hl
      refine blk_ifR (ec_eqS (ev_var (pv 0) rfl) ev_str).t (fun hc => absurd hc (by decide)) (fun hc => ?_)
      refine blk_ifR (ec_eqS (ev_var (pv 0) rfl) ev_str).t (fun hc => ?_) (fun hc => absurd hc (by decide))
      refine blk_ret (ev_call (ok_minus T) (Z.hr.mono (by decide)) (args_d (ev_ixL (ev_var (pv 1) rfl).bx.bw (ev_neg ev_int) (atI_last2 hl)) (args_d (ev_ixL (ev_var (pv 1) rfl).bx.bw (ev_neg ev_int) (atI_last (f := dF) (xs := qs) 0 hl2)) args_nil)) ⟨_, _, n, n, rfl, hw _ (memQ_getD (by omega)), hw _ (memQ_getD (by omega)), n0, n0, by omega, rfl⟩) ?_
      show dF _ = dF ((qs.drop k).getD 0 0 - (qs.drop k).getD 1 0)
      rw [drop_getD, drop_getD]
      rfl
    | less =>
      have hl1 : qs.length = k + 1 := hl
      refine blk_ifR (ec_eqS (ev_var (pv 0) rfl) ev_str).t (fun hc => absurd hc (by decide)) (fun hc => ?_)
      refine blk_ifR (ec_eqS (ev_var (pv 0) rfl) ev_str).t (fun hc => absurd hc (by decide)) (fun hc => ?_)
      refine blk_ifR (ec_eqS (ev_var (pv 0) rfl) ev_str).t (fun hc => absurd hc (by decide)) (fun hc => ?_)
      refine blk_ret (ev_call (ok_minus T) (Z.hr.mono (by decide)) (args_d (ev_tup (evs_cons ev_int (evs_cons ev_int evs_nil)) (show 2 ≤ sizeLine by decide)) (args_d (ev_ixL (ev_var (pv 1) rfl).bx.bw (ev_neg ev_int) (atI_last (f := dF) (xs := qs) 0 hl1)) args_nil)) ⟨0, _, 1, n, rfl, ⟨by decide, by decide⟩, hw _ (memQ_getD (by omega)), by decide, n0, by omega, rfl⟩) ?_
      show dF _ = dF (0 - (qs.drop k).getD 0 0)
      rw [drop_getD]
      rfl
    | more =>
      have hl1 : qs.length = k + 1 := hl
      refine blk_ifR (ec_eqS (ev_var (pv 0) rfl) ev_str).t (fun hc => absurd hc (by decide)) (fun hc => ?_)
      refine blk_ifR (ec_eqS (ev_var (pv 0) rfl) ev_str).t (fun hc => absurd hc (by decide)) (fun hc => ?_)
      refine blk_ifR (ec_eqS (ev_var (pv 0) rfl) ev_str).t (fun hc => ?_) (fun hc => absurd hc (by decide))
      refine blk_ret ((ev_ixL (ev_var (pv 1) rfl).bx.bw (ev_neg ev_int) (atI_last (f := dF) (xs := qs) 0 hl1)).flat (b' := true) (flat_dF _)) ?_
      show dF _ = dF ((qs.drop k).getD 0 0)
      rw [drop_getD]
      rfl
end
end Rk
namespace Rk
open PySem PySem.Spec PyProof.Rows L2
section
variable {P : Program} {w : World} {K : PySem.W.Frag} {mg : Str → Option Value} {base : Heap}
def S_plus : Spec := fun As R Xs => ∃ (x y : Rat) (n m : Nat), As = [.d false (dF x), .d false (dF y)] ∧ Wd n x ∧ Wd m y ∧ 0 < n ∧ 0 < m ∧ n + m ≤ 8000 ∧ R = (· = dF (x + y))
theorem sc_plus : FnScope ["one", "other"] ["one", "other"] (defScope (topS 7)) := ⟨rfl, rfl, rfl, by decide +kernel, rfl, by decide +kernel, by decide +kernel⟩
theorem ok_plus (T : Txt K mg) : Prom P w K mg base 3 "plus" S_plus := by
  refine prom_mk T.d_plus sc_plus (fun _ _ _ _ _ _ us hl => match us, hl with | [_, _], _ => rfl) (fun As R Xs h => ?_) fun f cdv A outer s H E As R Xs h Z rz => ?_
  · obtain ⟨_, _, _, _, rfl, _⟩ := h; rfl
  · obtain ⟨x, y, n, m, rfl, h1, h2, hn, hm, hnm, rfl⟩ := h
    have px := x.den_pos
    have py := y.den_pos
    show Blk _ [.d false (dF x), .d false (dF y)] _ _
    refine blk_ret (ev_call (ok_fraction T) (Z.hr.mono (by decide)) (args_d (ev_add (ev_mul (ev_ixT (ev_var (pv 0) rfl) ev_int rfl) (ev_ixT (ev_var (pv 1) rfl) ev_int rfl) (mulW h1.1 (natAbs_ofNat h2.2) (by omega) (by omega) (by omega))) (ev_mul (ev_ixT (ev_var (pv 1) rfl) ev_int rfl) (ev_ixT (ev_var (pv 0) rfl) ev_int rfl) (mulW h2.1 (natAbs_ofNat h1.2) (by omega) (by omega) (by omega)))) (args_d (ev_mul (ev_ixT (ev_var (pv 0) rfl) ev_int rfl) (ev_ixT (ev_var (pv 1) rfl) ev_int rfl) (mulW (natAbs_ofNat h1.2) (natAbs_ofNat h2.2) (by omega) (by omega) (by omega))) args_nil)) ⟨_, _, rfl, Int.mul_ne_zero (by omega) (by omega), Nat.lt_of_lt_of_le (add_num_lt h1 h2).2 (Nat.pow_le_pow_right (by decide) (by omega)), rfl⟩) ?_
    show dF _ = dF _
    rw [divInt_add]
end
end Rk
namespace Rk
open PySem PySem.Spec PyProof.Rows L2
section
variable {P : Program} {w : World} {K : PySem.W.Frag} {mg : Str → Option Value} {base : Heap}
def S_together : Spec := fun As R Xs => ∃ (t : Bool) (ns : List Int) (qs : List Rat) (D M a : Nat), As = [.d false (seqD t (ns.map .int)), .d false (lQ qs)] ∧ D ≠ 0 ∧ (∀ n ∈ ns, n.natAbs < 2 ^ 32) ∧ (∀ q ∈ qs, Cd D M q) ∧ min ns.length qs.length ≤ 31 ∧ D < 2 ^ a ∧ M < 2 ^ a ∧ 0 < a ∧ a ≤ 3900 ∧ R = (· = dF (dotQ ns qs))
theorem sc_together : FnScope ["numbers", "prices", "total", "number", "price"] ["numbers", "prices"] (defScope (topS 11)) := ⟨rfl, rfl, rfl, by decide +kernel, rfl, by decide +kernel, by decide +kernel⟩
theorem ok_together (T : Txt K mg) : Prom P w K mg base 4 "together" S_together := by
  refine prom_mk T.d_together sc_together (fun _ _ _ _ _ _ us hl => match us, hl with | [_, _], _ => rfl) (fun As R Xs h => ?_) fun f cdv A outer s H E As R Xs h Z rz => ?_
  · obtain ⟨_, _, _, _, _, _, rfl, _⟩ := h; rfl
  · obtain ⟨t, ns, qs, D, M, a, rfl, h0, hn, hq, hl, hDa, hM, ha0, ha, rfl⟩ := h
    show Blk _ [.d false (seqD t (ns.map .int)), .d false (lQ qs), .u, .u, .u] _ _
    refine blk_set Z (n := 2) (by rfl) (Or.inl (by rfl)) (Or.inl rfl) (show 2 < 5 by decide) (Ev.flat (b' := true) (ev_tup (evs_cons ev_int (evs_cons ev_int evs_nil)) (show 2 ≤ sizeLine by decide)) (by rfl)) ?_
    refine blk_for Z (is := [3, 4]) (src_zipS (t := t) T.zip (ev_var (pv 0) rfl) (ev_var (pv 1) rfl)) (fun k r => ∃ x y : SV, r = [.d false (seqD t (ns.map .int)), .d false (lQ qs), .d true (dF (dotQ (ns.take k) (qs.take k))), x, y]) ⟨_, _, by simp only [List.take_zero]; rfl⟩ (fun k D r hD hI => ?_) (fun r hI => ?_)
    · obtain ⟨x, y, rfl⟩ := hI
      obtain ⟨n, q, en, eq, rfl⟩ := zip_dF hD
      have mn : n ∈ ns := List.mem_of_getElem? en
      have mq : q ∈ qs := List.mem_of_getElem? eq
      refine ⟨_, (tgt_tup Z.calm (.cons (tgt_name Z.nd (by rfl) (Or.inl (by rfl)) (show 3 < 5 by decide) (Or.inl rfl)) (.cons (tgt_name Z.nd (by rfl) (Or.inl (by rfl)) (show 4 < 5 by decide) (Or.inl rfl)) .nil (by rfl)) (by rfl)) (by rfl) (by rfl)), ?_⟩
      have w1 : Wd 32 (n : Rat) := wd_int (hn n mn) (by decide)
      have w2 : Wd a q := (hq q mq).wd hDa hM
      have w3 : Wd (a + 37) (dotQ (ns.take k) (qs.take k)) := dotQ_wd h0 (fun n h => hn n (List.mem_of_mem_take h)) (fun q h => hq q (List.mem_of_mem_take h)) (by rw [List.length_take, List.length_take]; omega) hDa hM
      refine blk_set Z (n := 2) (by rfl) (Or.inl (by rfl)) (Or.inl rfl) (show 2 < 5 by decide) (ev_call (ok_plus T) (Z.hr.mono (by decide)) (args_d (ev_var (pv 2) rfl) (args_d (ev_call (ok_product T) (Z.hr.mono (by decide)) (args_d (ev_call (ok_whole T) (Z.hr.mono (by decide)) (args_d (ev_var (pv 3) rfl) args_nil) ⟨n, rfl, rfl⟩) (args_d (ev_var (pv 4) rfl) args_nil)) ⟨_, _, 32, a, rfl, w1, w2, by decide, ha0, by omega, rfl⟩) args_nil)) ⟨_, _, a + 37, 32 + a, rfl, w3, w1.mul w2, by omega, by omega, by omega, rfl⟩) ?_
      exact blk_nil ⟨_, _, by rw [dotQ_snoc en eq]; rfl⟩
    · obtain ⟨x, y, rfl⟩ := hI
      refine blk_ret (ev_var (pv 2) rfl) ?_
      show dF _ = dF _
      rw [dotQ_full (by rw [zipD_len, List.length_map, List.length_map]; exact Nat.le_refl _)]
end
end Rk
namespace Rk
open PySem PySem.Spec PyProof.Rows L2
section
variable {P : Program} {w : World} {K : PySem.W.Frag} {mg : Str → Option Value} {base : Heap}
def S_rest_price : Spec := fun As R Xs => ∃ (t : Bool) (ns : List Int) (qs : List Rat) (hd_ : Int) (D M a : Nat), As = [.d false (seqD t (ns.map .int)), .d false (lQ qs), .d false (.int hd_)] ∧ D ≠ 0 ∧ (∀ n ∈ ns, n.natAbs < 2 ^ 32) ∧ (∀ q ∈ qs, Cd D M q) ∧ min ns.length qs.length ≤ 31 ∧ D < 2 ^ a ∧ M < 2 ^ a ∧ 0 < a ∧ a ≤ 3000 ∧ 0 < hd_ ∧ hd_.natAbs < 2 ^ 32 ∧
  R = (· = dF ((1 - dotQ ns qs) * (((1 : Int) : Rat) / ((hd_ : Int) : Rat))))
theorem sc_rest_price : FnScope ["amounts", "prices", "head", "left"] ["amounts", "prices", "head"] (defScope (topS 23)) := ⟨rfl, rfl, rfl, by decide +kernel, rfl, by decide +kernel, by decide +kernel⟩
theorem ok_rest_price (T : Txt K mg) : Prom P w K mg base 5 "rest_price" S_rest_price := by
  refine prom_mk T.d_rest_price sc_rest_price (fun _ _ _ _ _ _ us hl => match us, hl with | [_, _, _], _ => rfl) (fun As R Xs h => ?_) fun f cdv A outer s H E As R Xs h Z rz => ?_
  · obtain ⟨_, _, _, _, _, _, _, rfl, _⟩ := h; rfl
  · obtain ⟨t, ns, qs, hd_, D, M, a, rfl, D0, hns, hqs, hl, hD, hM, a0, a3, h0, h32, rfl⟩ := h
    show Blk _ [.d false (seqD t (ns.map .int)), .d false (lQ qs), .d false (.int hd_), .u] _ _
    have w1 := dotQ_wd D0 hns hqs hl hD hM
    have one : Wd 1 (1 : Rat) := ⟨by decide, by decide⟩
    have w2 : Wd (1 + (a + 37) + 1) (1 - dotQ ns qs) := by
      rw [Rat.sub_eq_add_neg]
      refine one.add ⟨?_, ?_⟩
      · rw [Rat.neg_num, Int.natAbs_neg]; exact w1.1
      · rw [Rat.neg_den]; exact w1.2
    have e1 : Rat.divInt 1 hd_ = ((1 : Int) : Rat) / ((hd_ : Int) : Rat) := Rat.divInt_eq_div 1 hd_
    have w3 : Wd 32 (Rat.divInt 1 hd_) := wd_divInt (by omega) (by decide) h32
    refine blk_set Z (n := 3) (by rfl) (Or.inl (by rfl)) (Or.inl rfl) (show 3 < 4 by decide) (ev_call (ok_minus T) (Z.hr.mono (by decide)) (args_d (ev_tup (evs_cons ev_int (evs_cons ev_int evs_nil)) (show 2 ≤ sizeLine by decide)) (args_d (ev_call (ok_together T) (Z.hr.mono (by decide)) (args_d (ev_var (pv 0) rfl) (args_d (ev_var (pv 1) rfl) args_nil)) ⟨t, ns, qs, D, M, a, rfl, D0, hns, hqs, hl, hD, hM, a0, by omega, rfl⟩) args_nil)) ⟨1, dotQ ns qs, 1, a + 37, rfl, one, w1, by decide, by omega, by omega, rfl⟩) ?_
    refine blk_ret (ev_call (ok_product T) (Z.hr.mono (by decide)) (args_d (ev_var (pv 3) rfl) (args_d (ev_call (ok_fraction T) (Z.hr.mono (by decide)) (args_d ev_int (args_d (ev_var (pv 2) rfl) args_nil)) ⟨1, hd_, rfl, by omega, Nat.lt_of_lt_of_le h32 (pow_le' (by decide)), rfl⟩) args_nil)) ⟨_, _, 1 + (a + 37) + 1, 32, rfl, w2, w3, by omega, by decide, by omega, rfl⟩) ?_
    show dF _ = dF _
    rw [e1]
end
end Rk
namespace Rk
open PySem PySem.Spec PyProof.Rows L2
section
variable {P : Program} {w : World} {K : PySem.W.Frag} {mg : Str → Option Value} {base : Heap}
def S_shrunk : Spec := fun As R Xs => ∃ (h : House) (z : Sz) (os : List House), As = [.d false (dH h), .d false (.str (szS z)), .d false (dB os)] ∧ Like h os ∧ Amt h ∧ (∀ o ∈ os, Amt o) ∧ os.length ≤ 16 ∧ R = ShrR os h z
abbrev N_shrunk : List Str := ["house", "sizes", "others", "head", "rest", "rows", "takes", "gives", "row", "give", "k", "limits", "found", "share", "amounts", "worths", "many", "for_rest", "for_takes", "mix", "worth"]
theorem sc_shrunk : FnScope N_shrunk ["house", "sizes", "others"] (defScope (topS 24)) := ⟨rfl, rfl, rfl, by decide +kernel, rfl, by decide +kernel, by decide +kernel⟩
theorem tail_map (xs : List Int) : xs.drop 1 = xs.tail := by cases xs <;> rfl
theorem rep_zero (n : Nat) : (List.replicate n [PyData.int 0]).flatten = (List.replicate n (0 : Int)).map .int := by
  induction n with
  | zero => rfl
  | succ n ih => rw [List.replicate_succ, List.flatten_cons, ih, List.replicate_succ]; rfl
theorem ok_shrunk (T : Txt K mg) : Prom P w K mg base 6 "shrunk" S_shrunk := by
  refine prom_mk T.d_shrunk sc_shrunk (fun _ _ _ _ _ _ us hl => match us, hl with | [_, _, _], _ => rfl) (fun As R Xs h => ?_) fun f cdv A outer s H E As R Xs hS Z rz => ?_
  · obtain ⟨_, _, _, rfl, _⟩ := h; rfl
  · obtain ⟨h, z, os, rfl, L, Am, Ao, hn, rfl⟩ := hS
    have m1 := L.m1
    have m4 := Am.m4
    have n4 := Am.n4
    have np : nparts z ≤ 2 := by cases z <;> decide
    have hh9 : (hd h).natAbs ≤ 10 ^ 9 := Am.tk _ (mem_getD (by omega) 0)
    have hh1 := hd_pos L
    have LS := shr_lps (z := z) L Am Ao hn
    show Blk _ [.d false (dH h), .d false (.str (szS z)), .d false (dB os), .u, .u, .u, .u, .u, .u, .u, .u, .u, .u, .u, .u, .u, .u, .u, .u, .u, .u] _ _
    refine blk_set Z (n := 3) (by rfl) (Or.inr (by rfl)) (Or.inl rfl) (show 3 < 21 by decide) ((ev_ixT (ev_ixT (ev_var (pv 0) rfl) ev_int rfl) ev_int (atI_mapN (f := PyData.int) (xs := h.1) (k := 0) 0 (by omega))).flat (b' := true) rfl) ?_
    refine blk_set Z (n := 4) (by rfl) (Or.inr (by rfl)) (Or.inl rfl) (show 4 < 21 by decide) (ev_slT (ev_ixT (ev_var (pv 0) rfl) ev_int rfl) (eo_some ev_int) eo_none (by
      rintro ⟨h1, _⟩
      have : HT.sIx (h.1.map PyData.int).length 0 (some ((1 : Nat) : Int)) = 0 := h1
      rw [HT.sIx_nat, List.length_map] at this
      omega)) ?_
    have er : cutD (h.1.map PyData.int) (some ((1 : Nat) : Int)) none = h.1.tail.map .int := by rw [cutD_from m1, tail_map]
    have er' : cutD (h.1.map PyData.int) (some 1) none = h.1.tail.map .int := er
    rw [er']
    refine blk_setO Z (n := 5) (by rfl) (Or.inl (by rfl)) (Or.inl rfl) (show 5 < 21 by decide) (evo_lst evs_nil (show 0 ≤ sizeLine by decide)) ?_
    show Blk _ [.d false (dH h), .d false (.str (szS z)), .d false (dB os), .d true (.int (hd h)), .d false (tInts h.1.tail), .o true ((os.take 0).map fun o => lInts (shrRow h z o)), .u, .u, .u, .u, .u, .u, .u, .u, .u, .u, .u, .u, .u, .u, .u] _ _
    refine blk_for Z (is := [6, 7]) (src_list (ev_var (pv 2) rfl)) (fun n r => ∃ x6 x7 x8 : SV, r = [.d false (dH h), .d false (.str (szS z)), .d false (dB os), .d true (.int (hd h)), .d false (tInts h.1.tail), .o true ((os.take n).map fun o => lInts (shrRow h z o)), x6, x7, x8, .u, .u, .u, .u, .u, .u, .u, .u, .u, .u, .u, .u]) ⟨_, _, _, rfl⟩ (fun n D r hD hI => ?_) (fun r hI => ?_)
    · obtain ⟨x6, x7, x8, rfl⟩ := hI
      rw [List.getElem?_map, Option.map_eq_some_iff] at hD
      obtain ⟨o, ho, rfl⟩ := hD
      have hom := List.mem_of_getElem? ho
      have ol := L.len o hom
      have Ao' := Ao o hom
      refine ⟨_, (tgt_tup Z.calm (.cons (tgt_name Z.nd (by rfl) (Or.inr (by rfl)) (show 6 < 21 by decide) (Or.inl rfl)) (.cons (tgt_name Z.nd (by rfl) (Or.inl (by rfl)) (show 7 < 21 by decide) (Or.inl rfl)) .nil (by rfl)) (by rfl)) (by rfl) (by rfl)), ?_⟩
      show Blk _ [.d false (dH h), .d false (.str (szS z)), .d false (dB os), .d true (.int (hd h)), .d false (tInts h.1.tail), .o true ((os.take n).map fun o => lInts (shrRow h z o)), .d false (tInts o.1), .d false (tInts o.2), x8, .u, .u, .u, .u, .u, .u, .u, .u, .u, .u, .u, .u] _ _
      have hb9 : -(2 ^ 64) < hd h ∧ hd h < 2 ^ 64 := by omega
      refine blk_setLc Z (n := 8) (by rfl) (by rfl) (show 8 < 21 by decide) (lc_map o.2 PyData.int (fun g => .int (g * hd h)) (fun g => [.d false (dH h), .d false (.str (szS z)), .d false (dB os), .d true (.int (hd h)), .d false (tInts h.1.tail), .o true ((os.take n).map fun o => lInts (shrRow h z o)), .d false (tInts o.1), .d false (tInts o.2), x8, .d false (.int g), .u, .u, .u, .u, .u, .u, .u, .u, .u, .u, .u]) [("give", 9)] (is := [9]) (src_tup (ev_var (pv 7) rfl)) (blkOk_by (N := N_shrunk) (sc := defScope (topS 24)) (by decide +kernel)) (small (m := 4) (by omega)) (by decide) (fun x hx s H A cl fp => (tgt_name sc_shrunk.nd (by rfl) (Or.inl (by rfl)) (show 9 < 21 by decide) (Or.inr (by rfl)))) (fun x hx s H A cl fp => (ev_mul (ev_var (pv 9) rfl) (ev_var (pv 3) rfl) (mulR hb9)))) (sw_true rfl rfl rfl (by decide +kernel)) ?_
      have lt : (h.1.tail.map PyData.int).length = h.1.length - 1 := by rw [List.length_map, List.length_tail]
      refine blk_extend (n := 8) (pv 8) rfl (EvO.bx (evo_lc Z (lc_map (List.range (h.1.tail.map PyData.int).length) (fun k => .int ((k : Nat) : Int)) (fun k => .int (o.1.getD 0 0 * h.1.tail.getD k 0 - o.1.getD (k + 1) 0 * hd h)) (fun k => [.d false (dH h), .d false (.str (szS z)), .d false (dB os), .d true (.int (hd h)), .d false (tInts h.1.tail), .o true ((os.take n).map fun o => lInts (shrRow h z o)), .d false (tInts o.1), .d false (tInts o.2), .o true (o.2.map fun g => .int (g * hd h)), .u, .d true (.int ((k : Nat) : Int)), .u, .u, .u, .u, .u, .u, .u, .u, .u, .u]) [("k", 10)] (is := [10]) (src_rangeN T.range (ev_lenT T.len (ev_var (pv 4) rfl)) (by rw [lt]; omega)) (blkOk_by (N := N_shrunk) (sc := defScope (topS 24)) (by decide +kernel)) (by rw [List.length_range, lt]; exact small (m := 4) (by omega)) (by decide) (fun x hx s H A cl fp => (tgt_name sc_shrunk.nd (by rfl) (Or.inl (by rfl)) (show 10 < 21 by decide) (Or.inr (by rfl)))) (fun x hx s H A cl fp => by
        have hx' := List.mem_range.mp hx
        rw [lt] at hx'
        have a1 := Ao'.tk _ (mem_getD (xs := o.1) (k := 0) (by omega) 0)
        exact ev_sub (ev_mul (ev_ixT (ev_var (pv 6) rfl) ev_int (atI_mapN (f := PyData.int) (xs := o.1) (k := 0) 0 (by omega))) (ev_ixT (ev_var (pv 4) rfl) (ev_var (pv 10) rfl) (atI_mapN (f := PyData.int) (xs := h.1.tail) 0 (by rw [List.length_tail]; omega))) (mulL (by omega))) (ev_mul (ev_ixT (ev_var (pv 6) rfl) (ev_add (ev_var (pv 10) rfl) ev_int) (atI_mapN (f := PyData.int) (xs := o.1) (k := x + 1) 0 (by omega))) (ev_var (pv 3) rfl) (mulR hb9)))))) (by simp only [List.length_map, List.length_range, List.length_tail]; exact small (m := 8) (by omega)) ?_ (ps_extend (pv 8))
      have erow : (o.2.map fun g => PyData.int (g * hd h)) ++ ((List.range (h.1.tail.map PyData.int).length).map fun k => PyData.int (o.1.getD 0 0 * h.1.tail.getD k 0 - o.1.getD (k + 1) 0 * hd h)) ++ (parts z (hd h)).map PyData.int = (shrRow h z o).map .int := by
        unfold shrRow
        rw [List.map_append, List.map_append, List.map_map, List.map_map, lt]
        congr 2
        exact List.map_congr_left fun k _ => by rw [tail_getD]; rfl
      refine blk_append (n := 5) (pv 5) rfl (evo_cat (bx_var (pv 8) rfl) (Ev.bx (ev_call (ok_size_parts T) (Z.hr.mono (by decide)) (args_d (ev_var (pv 1) rfl) (args_d (ev_var (pv 3) rfl) args_nil)) ⟨z, hd h, rfl, rfl⟩)) (by simp only [List.length_append, List.length_map, List.length_range, List.length_tail, parts_len]; exact small (m := 10) (by omega))).ev (by rw [List.length_map, List.length_take]; exact small' (m := 17) (by omega)) ?_ (ps_append (pv 5))
      rw [erow]
      have e5 : ((os.take n).map fun o => lInts (shrRow h z o)) ++ [.list ((shrRow h z o).map .int)] = (os.take (n + 1)).map fun o => lInts (shrRow h z o) := by
        rw [List.take_add_one, ho, List.map_append]; rfl
      rw [e5]
      exact blk_nil ⟨_, _, _, rfl⟩
    · obtain ⟨x6, x7, x8, rfl⟩ := hI
      have ll : (os.map dH).length = os.length := List.length_map _
      rw [ll, List.take_length]
      have lt : (h.1.tail.map PyData.int).length = h.1.length - 1 := by rw [List.length_map, List.length_tail]
      have lg : (h.2.map PyData.int).length = h.2.length := List.length_map _
      refine blk_append (n := 5) (pv 5) rfl (evo_cat (evo_cat (evo_rep (evo_lst (evs_cons ev_int evs_nil) (show 1 ≤ sizeLine by decide)).bx (ev_lenT T.len (ev_ixT (ev_var (pv 0) rfl) ev_int rfl)) (by omega) (by omega) (by rw [Int.toNat_natCast, lg]; exact small (m := 4) (by simp only [List.length_cons, List.length_nil]; omega))).bx (Bx.flat' (b' := true) (evo_listT T.list (ev_var (pv 4) rfl)).bx (flat_ints _)) (by rw [rep_zero, Int.toNat_natCast, lg, List.length_map, List.length_replicate, lt]; exact small (m := 8) (by omega))).bx (Ev.bx (ev_call (ok_size_parts T) (Z.hr.mono (by decide)) (args_d (ev_var (pv 1) rfl) (args_d ev_int args_nil)) ⟨z, 0, rfl, rfl⟩)) (by rw [rep_zero, Int.toNat_natCast, lg, List.length_append, List.length_map, List.length_replicate, lt, List.length_map, parts_len]; exact small (m := 10) (by omega))).ev (by rw [List.length_map]; exact small' (m := 17) (by omega)) ?_ (ps_append (pv 5))
      have elast : (List.replicate (((h.2.map PyData.int).length : Nat) : Int).toNat [PyData.int 0]).flatten ++ h.1.tail.map PyData.int ++ (parts z 0).map PyData.int = (shrLast h z).map .int := by
        unfold shrLast
        rw [List.map_append, List.map_append, rep_zero, Int.toNat_natCast, lg]
      rw [elast]
      have erows : (os.map fun o => lInts (shrRow h z o)) ++ [.list ((shrLast h z).map .int)] = (lpShr h z os).rows.map lInts := by
        show _ = (os.map (shrRow h z) ++ [shrLast h z]).map lInts
        rw [List.map_append, List.map_map]; rfl
      rw [erows]
      show Blk _ [.d false (dH h), .d false (.str (szS z)), .d false (dB os), .d true (.int (hd h)), .d false (tInts h.1.tail), .o true ((lpShr h z os).rows.map lInts), x6, x7, x8, .u, .u, .u, .u, .u, .u, .u, .u, .u, .u, .u, .u] _ _
      refine blk_setO Z (n := 11) (by rfl) (Or.inl (by rfl)) (Or.inl rfl) (show 11 < 21 by decide) (evo_cat (evo_lc Z (lc_map os dH (fun o => .int (o.1.getD 0 0)) (fun o => [.d false (dH h), .d false (.str (szS z)), .d false (dB os), .d true (.int (hd h)), .d false (tInts h.1.tail), .o true ((lpShr h z os).rows.map lInts), .d false (tInts o.1), .d false (tInts o.2), x8, .u, .u, .u, .u, .u, .u, .u, .u, .u, .u, .u, .u]) [("takes", 6), ("gives", 7)] (is := [6, 7]) (src_list (ev_var (pv 2) rfl)) (blkOk_by (N := N_shrunk) (sc := defScope (topS 24)) (by decide +kernel)) (small hn) (by decide) (fun x hx s H A cl fp => (tgt_tup Z.calm (.cons (tgt_name sc_shrunk.nd (by rfl) (Or.inl (by rfl)) (show 6 < 21 by decide) (Or.inr (by rfl))) (.cons (tgt_name sc_shrunk.nd (by rfl) (Or.inl (by rfl)) (show 7 < 21 by decide) (Or.inr (by rfl))) .nil (by rfl)) (by rfl)) (by rfl) (by rfl))) (fun x hx s H A cl fp => ((ev_ixT (ev_var (pv 6) rfl) ev_int (atI_mapN (f := PyData.int) (xs := x.1) (k := 0) 0 (by have := (L.len x hx).1; omega))).flat (b' := true) rfl)))).bx (evo_lst (evs_cons ev_int evs_nil) (show 1 ≤ sizeLine by decide)).bx (by rw [List.length_map]; exact small (m := 17) (by simp only [List.length_cons, List.length_nil]; omega))) ?_
      have elim : (os.map fun o : House => PyData.int (o.1.getD 0 0)) ++ [PyData.int 1] = (lpShr h z os).limits.map PyData.int := by
        show _ = (os.map (fun o : House => o.1.getD 0 0) ++ [1]).map PyData.int
        rw [List.map_append, List.map_map]; rfl
      rw [elim]
      refine blk_setR Z (n := 12) (by rfl) (Or.inl (by rfl)) (Or.inl rfl) (show 12 < 21 by decide) (evr_call (ok_solved T) (Z.hr.mono (by decide)) (args_x (bx_var (pv 5) rfl) (args_x (bx_var (pv 11) rfl) (args_d (evo_cat (evo_cat (evo_listT T.list (ev_ixT (ev_var (pv 0) rfl) ev_int rfl)).bx (evo_rep (evo_lst (evs_cons ev_int evs_nil) (show 1 ≤ sizeLine by decide)).bx (ev_lenT T.len (ev_var (pv 4) rfl)) (by omega) (by omega) (by rw [Int.toNat_natCast, lt]; exact small (m := 4) (by simp only [List.length_cons, List.length_nil]; omega))).bx (by rw [rep_zero, Int.toNat_natCast, lt, List.length_map, List.length_map, List.length_replicate]; exact small (m := 8) (by omega))).bx (Ev.bx (ev_call (ok_size_parts T) (Z.hr.mono (by decide)) (args_d (ev_var (pv 1) rfl) (args_d ev_int args_nil)) ⟨z, 1, rfl, rfl⟩)) (by rw [rep_zero, Int.toNat_natCast, lt, List.length_append, List.length_map, List.length_map, List.length_replicate, List.length_map, parts_len]; exact small (m := 10) (by omega))).ev args_nil))) ⟨lpShr h z os, shr_ok L, 10 ^ 18, 1130, by
        have eg : h.2.map PyData.int ++ (List.replicate (((h.1.tail.map PyData.int).length : Nat) : Int).toNat [PyData.int 0]).flatten ++ (parts z 1).map PyData.int = (lpShr h z os).gains.map PyData.int := by
          show _ = (h.2 ++ List.replicate (h.1.length - 1) 0 ++ parts z 1).map PyData.int
          rw [List.map_append, List.map_append, rep_zero, Int.toNat_natCast, lt]
        rw [eg], LS, rfl⟩) ?_
      rintro D (⟨rfl, U, _⟩ | ⟨best, x, y, d, X, rfl, O, d0, hd', hX, CD⟩)
      · refine blk_ifR (ec_isN (ev_var (pv 12) rfl)).t (fun hc => ?_) (fun hc => absurd hc (by decide))
        exact blk_ret ev_non (.inl ⟨rfl, unb_noshr L U⟩)
      · refine blk_ifR (ec_isN (ev_var (pv 12) rfl)).t (fun hc => absurd hc (by simp [isNo])) (fun hc => ?_)
        refine blk_unpack (ev_var (pv 12) rfl) (tgt_tup Z.calm (.cons (tgt_name Z.nd (by rfl) (Or.inl (by rfl)) (show 13 < 21 by decide) (Or.inl rfl)) (.cons (tgt_name Z.nd (by rfl) (Or.inl (by rfl)) (show 14 < 21 by decide) (Or.inl rfl)) (.cons (tgt_name Z.nd (by rfl) (Or.inl (by rfl)) (show 15 < 21 by decide) (Or.inl rfl)) .nil (by rfl)) (by rfl)) (by rfl)) (by rfl) (by rfl)) ?_
        have lx : x.length = h.2.length + (h.1.length - 1) + nparts z := O.lx.trans glen
        obtain ⟨ex, hu, hv, hs⟩ := split3 x _ _ _ lx
        have ly : y.length = os.length + 1 := O.ly.trans shr_rows
        have ey : y = y.take os.length ++ [y[os.length]] := by
          have := List.take_append_drop os.length y
          rw [List.drop_eq_getElem_cons (by omega), List.drop_of_length_le (by omega)] at this
          exact this.symm
        generalize y[os.length]'(by omega) = zl at ey
        have wx : ∀ q ∈ x, Wd 1130 q := fun q hq => (CD.cx q hq).wd hd' hX
        have cu : ∀ q ∈ x.take h.2.length, Cd d X q := fun q hq => CD.cx q (List.mem_of_mem_take hq)
        have cv : ∀ q ∈ (x.drop h.2.length).take (h.1.length - 1), Cd d X q := fun q hq => CD.cx q (List.mem_of_mem_drop (List.mem_of_mem_take hq))
        have cs : ∀ q ∈ x.drop (h.2.length + (h.1.length - 1)), Cd d X q := fun q hq => CD.cx q (List.mem_of_mem_drop hq)
        have cy : ∀ q ∈ y.take os.length, Cd d X q := fun q hq => CD.cy q (List.mem_of_mem_take hq)
        refine blk_set Z (n := 16) (by rfl) (Or.inl (by rfl)) (Or.inl rfl) (show 16 < 21 by decide) (ev_lenT T.len (ev_ixT (ev_var (pv 0) rfl) ev_int rfl)) ?_
        refine blk_setO Z (n := 17) (by rfl) (Or.inl (by rfl)) (Or.inl rfl) (show 17 < 21 by decide) (evo_slL (ev_var (pv 14) rfl).bx.bw (eo_some (ev_var (pv 16) rfl)) (eo_some (ev_add (ev_var (pv 16) rfl) (ev_lenT T.len (ev_var (pv 4) rfl))))) ?_
        have e17 : cutD (x.map dF) (some (((h.2.map PyData.int).length : Nat) : Int)) (some ((((h.2.map PyData.int).length : Nat) : Int) + (((h.1.tail.map PyData.int).length : Nat) : Int))) = ((x.drop h.2.length).take (h.1.length - 1)).map dF := by
          rw [lt, lg]
          have := cutD_nat (f := dF) (xs := x) (lo := h.2.length) (hi := h.2.length + (h.1.length - 1)) (by omega) (by omega)
          rw [Nat.add_sub_cancel_left] at this
          exact this
        rw [e17]
        have eu : cutD (x.map dF) none (some (((h.2.map PyData.int).length : Nat) : Int)) = (x.take h.2.length).map dF := by rw [lg]; exact cutD_to (by omega)
        have ew : cutD (y.map dF) none (some (-1)) = (y.take os.length).map dF := cutD_initI ly
        have lA : ((x.drop h.2.length).take (h.1.length - 1)).length ≤ 3 := by omega
        refine blk_setO Z (n := 18) (by rfl) (Or.inl (by rfl)) (Or.inl rfl) (show 18 < 21 by decide) (evo_cat (evo_lst (evs_cons (ev_call (ok_rest_price T) (Z.hr.mono (by decide)) (args_d (ev_var (pv 4) rfl) (args_x (bx_var (pv 17) rfl) (args_d (ev_var (pv 3) rfl) args_nil))) ⟨true, h.1.tail, _, hd h, d, X, 1130, rfl, d0, fun n hn => by have := Am.tk n (List.mem_of_mem_tail hn); omega, cv, by rw [List.length_tail]; omega, hd', hX, by decide, by decide, by omega, by omega, rfl⟩) evs_nil) (show 1 ≤ sizeLine by decide)).bx (bx_var (pv 17) rfl) (by rw [List.length_map]; exact small (m := 8) (by simp only [List.length_cons, List.length_nil]; omega))) ?_
        have wm : ∀ q ∈ y.take os.length, Wd 1130 q := fun q hq => (cy q hq).wd hd' hX
        have wh : Wd 32 ((hd h : Int) : Rat) := wd_int (by omega) (by decide)
        refine blk_setLc Z (n := 19) (by rfl) (by rfl) (show 19 < 21 by decide) (lc_map (y.take os.length) dF (fun q => dF (q * ((hd h : Int) : Rat))) (fun q => [.d false (dH h), .d false (.str (szS z)), .d false (dB os), .d true (.int (hd h)), .d false (tInts h.1.tail), .o true ((lpShr h z os).rows.map lInts), x6, x7, x8, .u, .u, .o true ((lpShr h z os).limits.map .int), .d true (.tuple [dF best, lQ x, lQ y]), .d true (dF best), .d true (lQ x), .d true (lQ y), .d true (.int (((h.2.map PyData.int).length : Nat) : Int)), .o true (((x.drop h.2.length).take (h.1.length - 1)).map dF), .o true ([dF (prc0 h ((x.drop h.2.length).take (h.1.length - 1)))] ++ ((x.drop h.2.length).take (h.1.length - 1)).map dF), .u, .d true (dF q)]) [("worth", 20)] (is := [20]) (by rw [← ew]; exact src_list (evo_slL (ev_var (pv 15) rfl).bx.bw eo_none (eo_some (ev_neg ev_int))).ev) (blkOk_by (N := N_shrunk) (sc := defScope (topS 24)) (by decide +kernel)) (by rw [List.length_take]; exact small (m := 16) (by omega)) (by decide) (fun x hx s H A cl fp => (tgt_name sc_shrunk.nd (by rfl) (Or.inl (by rfl)) (show 20 < 21 by decide) (Or.inr (by rfl)))) (fun q hq s H A cl fp => (ev_call (ok_product T) (Z.hr.mono (by decide)) (args_d (ev_var (pv 20) rfl) (args_d (ev_call (ok_whole T) (Z.hr.mono (by decide)) (args_d (ev_var (pv 3) rfl) args_nil) ⟨hd h, rfl, rfl⟩) args_nil)) ⟨q, _, 1130, 32, rfl, wm q hq, wh, by decide, by decide, by decide, rfl⟩))) (sw_true rfl rfl rfl (by decide +kernel)) ?_
        refine blk_freeze 19 rfl ?_
        refine blk_freeze 18 rfl ?_
        refine blk_ret (ev_tup (evs_cons (ev_var (pv 13) rfl) (evs_cons (ev_var (pv 19) rfl) (evs_cons (ev_tup (evs_cons (ev_var (pv 18) rfl) (evs_cons (evo_slL (ev_var (pv 14) rfl).bx.bw eo_none (eo_some (ev_var (pv 16) rfl))).ev (evs_cons (ev_call (ok_size_price T) (Z.hr.mono (by decide)) (args_d (ev_var (pv 1) rfl) (args_d (ev_var (pv 14) rfl) args_nil)) ⟨z, x, 1130, h.2.length + (h.1.length - 1), rfl, lx, wx, by decide, by decide, rfl⟩) evs_nil))) (show 3 ≤ sizeLine by decide)) evs_nil))) (show 3 ≤ sizeLine by decide)) ?_
        rw [eu]
        generalize hU : x.take h.2.length = u at ex hu cu
        generalize hV : (x.drop h.2.length).take (h.1.length - 1) = v at ex hv cv
        generalize hSz : x.drop (h.2.length + (h.1.length - 1)) = s at ex hs cs
        generalize hYs : y.take os.length = ys at ey cy
        have u0 : ∀ q ∈ u, 0 ≤ q := fun q hq => O.x0 q (by rw [ex]; simp [hq])
        have v0 : ∀ q ∈ v, 0 ≤ q := fun q hq => O.x0 q (by rw [ex]; simp [hq])
        have s0 : ∀ q ∈ s, 0 ≤ q := fun q hq => O.x0 q (by rw [ex]; simp [hq])
        have hp := O.pri
        rw [ex] at hp
        have hpl := hp os.length (by rw [shr_rows]; omega)
        rw [shr_last, shr_limL] at hpl
        obtain ⟨P1, P2, P3⟩ := shr_prices (z := z) L hu hv hs u0 v0 s0 (fun o ho => by
          obtain ⟨k, hk, rfl⟩ := List.getElem_of_mem ho
          have := hp k (by rw [shr_rows]; omega)
          rw [shr_row hk, shr_lim hk] at this
          exact this) hpl
        have hg := O.gx
        rw [ex, dotQ_gain hu hv hs] at hg
        have O' := O
        rw [ey] at O'
        refine .inr ⟨best, ys.map (· * ((hd h : Int) : Rat)), shrPr h z u v s, ?_, shr_mix L O', P1, P2, P3.trans hg, shr_prok L Am hu hv hs d0 hd' hX cu cv cs, d, X * (hd h).natAbs, d0, Nat.lt_of_lt_of_le hd' (pow_le' (by decide)), ?_, CD.cb.le (Nat.le_mul_of_pos_right _ (by omega)), fun q hq => ?_⟩
        · show PyData.tuple _ = PyData.tuple _
          unfold shrPr dPr lQ
          rw [List.map_map]
          rfl
        · rw [Nat.mul_comm]
          exact Nat.lt_of_lt_of_le (p30 hh9 hX) (pow_le' (by decide))
        · obtain ⟨y', hy', rfl⟩ := List.mem_map.mp hq
          have := (cy y' hy').mul (Cd.int (hd h))
          rwa [Nat.mul_one] at this
end
end Rk
namespace Rk
open PySem PySem.Spec PyProof.Rows L2
section
variable {P : Program} {w : World} {K : PySem.W.Frag} {mg : Str → Option Value} {base : Heap}
def ShShown (b : List House) (k : Nat) (z : Sz) (D : PyData) : Prop := ∃ s M p, D = .tuple [dF s, lQ M, dPr p] ∧ ShrOut b (b.getD k ([], [])) z s M p
def S_share_shown : Spec := fun As R Xs => ∃ (b : List House) (k : Nat) (z : Sz), As = [.d false (dB b), .d false (.int ((k : Nat) : Int)), .d false (.str (szS z))] ∧ GBk b ∧ k < b.length ∧ R = ShShown b k z
theorem sc_share_shown : FnScope ["book", "number", "sizes"] ["book", "number", "sizes"] (defScope (topS 25)) := ⟨rfl, rfl, rfl, by decide +kernel, rfl, by decide +kernel, by decide +kernel⟩
theorem ok_share_shown (T : Txt K mg) : Prom P w K mg base 7 "share_shown" S_share_shown := by
  refine prom_mk T.d_share_shown sc_share_shown (fun _ _ _ _ _ _ us hl => match us, hl with | [_, _, _], _ => rfl) (fun As R Xs h => ?_) fun f cdv A outer s H E As R Xs h Z rz => ?_
  · obtain ⟨_, _, _, rfl, _⟩ := h; rfl
  · obtain ⟨b, k, z, rfl, G, hk, rfl⟩ := h
    have hm := houseAt hk
    show Blk _ [.d false (dB b), .d false (.int ((k : Nat) : Int)), .d false (.str (szS z))] _ _
    refine blk_expr (ev_call (ok_need_house T) (Z.hr.mono (by decide)) (args_d (ev_var (pv 0) rfl) (args_d (ev_var (pv 1) rfl) args_nil)) ⟨b, k, rfl, hk, rfl⟩) ?_
    refine blk_retR (R := ShrR b (b.getD k ([], [])) z) (evr_call (ok_shrunk T) (Z.hr.mono (by decide)) (args_d (ev_ixL (ev_var (pv 0) rfl).bx.bw (ev_var (pv 1) rfl) (atI_mapN (f := dH) (xs := b) ([], []) hk)) (args_d (ev_var (pv 2) rfl) (args_d (ev_var (pv 0) rfl) args_nil))) ⟨b.getD k ([], []), z, b, rfl, G.like hm, G.amt _ hm, G.amt, G.le, rfl⟩) ?_
    rintro D (⟨_, N⟩ | h)
    · exact (not_noshr hm N).elim
    · exact h
end
end Rk
namespace Rk
open PySem PySem.Spec PyProof.Rows L2
section
variable {P : Program} {w : World} {K : PySem.W.Frag} {mg : Str → Option Value} {base : Heap}
def S_share : Spec := fun As R Xs => ∃ (b : List House) (k : Nat) (z : Sz), As = [.d false (dB b), .d false (.int ((k : Nat) : Int)), .d false (.str (szS z))] ∧ GBk b ∧ k < b.length ∧ R = (· = dF (shrV b k z))
theorem sc_share : FnScope ["book", "number", "sizes"] ["book", "number", "sizes"] (defScope (topS 26)) := ⟨rfl, rfl, rfl, by decide +kernel, rfl, by decide +kernel, by decide +kernel⟩
theorem ok_share (T : Txt K mg) : Prom P w K mg base 8 "share" S_share := by
  refine prom_mk T.d_share sc_share (fun _ _ _ _ _ _ us hl => match us, hl with | [_, _, _], _ => rfl) (fun As R Xs h => ?_) fun f cdv A outer s H E As R Xs h Z rz => ?_
  · obtain ⟨_, _, _, rfl, _⟩ := h; rfl
  · obtain ⟨b, k, z, rfl, G, hk, rfl⟩ := h
    show Blk _ [.d false (dB b), .d false (.int ((k : Nat) : Int)), .d false (.str (szS z))] _ _
    refine blk_retR (R := (· = dF (shrV b k z))) (evr_ixT (R := ShShown b k z) (evr_call (ok_share_shown T) (Z.hr.mono (by decide)) (args_d (ev_var (pv 0) rfl) (args_d (ev_var (pv 1) rfl) (args_d (ev_var (pv 2) rfl) args_nil))) ⟨b, k, z, rfl, G, hk, rfl⟩) ev_int ?_) fun D h => h
    rintro D ⟨s, M, p, rfl, O⟩
    exact ⟨_, _, rfl, rfl, by rw [shrV_eq G hk ⟨⟨M, O.mix⟩, p, O.prc, O.pd, O.er⟩]⟩
end
end Rk
namespace Rk
open PySem PySem.Spec PyProof.Rows L2
section
variable {P : Program} {w : World} {K : PySem.W.Frag} {mg : Str → Option Value} {base : Heap}
def S_earned : Spec := fun As R Xs => ∃ (h : House) (p : Prices) (D M a : Nat), As = [.d false (dH h), .d false (dPr p)] ∧ HOk h ∧ PrOk D M a p ∧ R = (· = dF (earnQ h p))
theorem sc_earned : FnScope ["house", "prices"] ["house", "prices"] (defScope (topS 28)) := ⟨rfl, rfl, rfl, by decide +kernel, rfl, by decide +kernel, by decide +kernel⟩
theorem ok_earned (T : Txt K mg) : Prom P w K mg base 5 "earned" S_earned := by
  refine prom_mk T.d_earned sc_earned (fun _ _ _ _ _ _ us hl => match us, hl with | [_, _], _ => rfl) (fun As R Xs h => ?_) fun f cdv A outer s H E As R Xs h Z rz => ?_
  · obtain ⟨_, _, _, _, _, rfl, _⟩ := h; rfl
  · obtain ⟨h, p, D, M, a, rfl, G, P, rfl⟩ := h
    have a9 := P.a9
    have a0 := P.a0
    show Blk _ [.d false (dH h), .d false (dPr p)] _ _
    exact blk_ret (ev_call (ok_plus T) (Z.hr.mono (by decide)) (args_d (ev_call (ok_together T) (Z.hr.mono (by decide)) (args_d (ev_ixT (ev_var (pv 0) rfl) ev_int rfl) (args_d (ev_ixT (ev_var (pv 1) rfl) ev_int rfl) args_nil)) ⟨true, h.2, p.2.1, D, M, a, rfl, P.d0, G.n2, P.c2, by have := G.l2; omega, P.hD, P.hM, P.a0, by omega, rfl⟩) (args_d (ev_ixT (ev_var (pv 1) rfl) ev_int rfl) args_nil)) ⟨_, _, a + 37, a, rfl, P.w2 G, P.w3, by omega, a0, by omega, rfl⟩) rfl
end
end Rk
namespace Rk
open PySem PySem.Spec PyProof.Rows L2
section
variable {P : Program} {w : World} {K : PySem.W.Frag} {mg : Str → Option Value} {base : Heap}
def S_paid : Spec := fun As R Xs => ∃ (h : House) (p : Prices) (D M a : Nat), As = [.d false (dH h), .d false (dPr p)] ∧ HOk h ∧ PrOk D M a p ∧ R = (· = dF (paidQ h p))
theorem sc_paid : FnScope ["house", "prices"] ["house", "prices"] (defScope (topS 29)) := ⟨rfl, rfl, rfl, by decide +kernel, rfl, by decide +kernel, by decide +kernel⟩
theorem ok_paid (T : Txt K mg) : Prom P w K mg base 5 "paid" S_paid := by
  refine prom_mk T.d_paid sc_paid (fun _ _ _ _ _ _ us hl => match us, hl with | [_, _], _ => rfl) (fun As R Xs h => ?_) fun f cdv A outer s H E As R Xs h Z rz => ?_
  · obtain ⟨_, _, _, _, _, rfl, _⟩ := h; rfl
  · obtain ⟨h, p, D, M, a, rfl, G, P, rfl⟩ := h
    show Blk _ [.d false (dH h), .d false (dPr p)] _ _
    exact blk_ret (ev_call (ok_together T) (Z.hr.mono (by decide)) (args_d (ev_ixT (ev_var (pv 0) rfl) ev_int rfl) (args_d (ev_ixT (ev_var (pv 1) rfl) ev_int rfl) args_nil)) ⟨true, h.1, p.1, D, M, a, rfl, P.d0, G.n1, P.c1, by have := G.l1; omega, P.hD, P.hM, P.a0, by have := P.a9; omega, rfl⟩) rfl
end
end Rk
namespace Rk
open PySem PySem.Spec PyProof.Rows L2
section
variable {P : Program} {w : World} {K : PySem.W.Frag} {mg : Str → Option Value} {base : Heap}
def S_judged_one : Spec := fun As R Xs => ∃ (h : House) (p : Prices) (D M a : Nat), As = [.d false (dH h), .d false (dPr p)] ∧ HOk h ∧ PrOk D M a p ∧ R = (· = oF (judQ h p))
theorem sc_judged_one : FnScope ["house", "prices", "pays", "earns"] ["house", "prices"] (defScope (topS 31)) := ⟨rfl, rfl, rfl, by decide +kernel, rfl, by decide +kernel, by decide +kernel⟩
theorem ok_judged_one (T : Txt K mg) : Prom P w K mg base 6 "judged_one" S_judged_one := by
  refine prom_mk T.d_judged_one sc_judged_one (fun _ _ _ _ _ _ us hl => match us, hl with | [_, _], _ => rfl) (fun As R Xs h => ?_) fun f cdv A outer s H E As R Xs h Z rz => ?_
  · obtain ⟨_, _, _, _, _, rfl, _⟩ := h; rfl
  · obtain ⟨h, p, D, M, a, rfl, G, P, rfl⟩ := h
    have a9 := P.a9
    have a0 := P.a0
    have w1 := P.w1 G
    have w4 := P.w4 G
    show Blk _ [.d false (dH h), .d false (dPr p), .u, .u] _ _
    refine blk_set Z (n := 2) (by rfl) (Or.inl (by rfl)) (Or.inl rfl) (show 2 < 4 by decide) (ev_call (ok_paid T) (Z.hr.mono (by decide)) (args_d (ev_var (pv 0) rfl) (args_d (ev_var (pv 1) rfl) args_nil)) ⟨h, p, D, M, a, rfl, G, P, rfl⟩) ?_
    refine blk_ifR (ec_eqI (ev_ixT (ev_var (pv 2) rfl) ev_int rfl) ev_int).t (fun hc => ?_) (fun hc => ?_)
    · rw [decide_eq_true_eq] at hc
      refine blk_ret ev_non ?_
      show PyData.none = oF (judQ h p)
      unfold judQ
      rw [if_pos (num_zero.mp hc)]; rfl
    rw [decide_eq_false_iff_not] at hc
    have hp : paidQ h p ≠ 0 := fun z => hc (num_zero.mpr z)
    have pe := (earnQ h p).den_pos
    refine blk_set Z (n := 3) (by rfl) (Or.inl (by rfl)) (Or.inl rfl) (show 3 < 4 by decide) (ev_call (ok_earned T) (Z.hr.mono (by decide)) (args_d (ev_var (pv 0) rfl) (args_d (ev_var (pv 1) rfl) args_nil)) ⟨h, p, D, M, a, rfl, G, P, rfl⟩) ?_
    refine blk_ret (ev_call (ok_fraction T) (Z.hr.mono (by decide)) (args_d (ev_mul (ev_ixT (ev_var (pv 3) rfl) ev_int rfl) (ev_ixT (ev_var (pv 2) rfl) ev_int rfl) (mulW w4.1 (natAbs_ofNat w1.2) (by omega) (by omega) (by omega))) (args_d (ev_mul (ev_ixT (ev_var (pv 3) rfl) ev_int rfl) (ev_ixT (ev_var (pv 2) rfl) ev_int rfl) (mulW (natAbs_ofNat w4.2) w1.1 (by omega) (by omega) (by omega))) args_nil)) ⟨_, _, rfl, Int.mul_ne_zero (by omega) hc, Nat.lt_of_lt_of_le (div_num_lt w4 w1).2 (pow_le' (by omega)), rfl⟩) ?_
    show dF _ = oF (judQ h p)
    unfold judQ
    rw [if_neg hp, divInt_div]; rfl
end
end Rk
namespace Rk
open PySem PySem.Spec PyProof.Rows L2
section
variable {P : Program} {w : World} {K : PySem.W.Frag} {mg : Str → Option Value} {base : Heap}
def S_judged : Spec := fun As R Xs => ∃ (b : List House) (p : Prices) (D M a : Nat), As = [.d false (dB b), .d false (dPr p)] ∧ b.length ≤ 1000 ∧ (∀ h ∈ b, HOk h) ∧ PrOk D M a p ∧ R = (· = .list (b.map fun h => oF (judQ h p)))
theorem sc_judged : FnScope ["book", "prices", "house"] ["book", "prices"] (defScope (topS 32)) := ⟨rfl, rfl, rfl, by decide +kernel, rfl, by decide +kernel, by decide +kernel⟩
theorem ok_judged (T : Txt K mg) : Prom P w K mg base 7 "judged" S_judged := by
  refine prom_mk T.d_judged sc_judged (fun _ _ _ _ _ _ us hl => match us, hl with | [_, _], _ => rfl) (fun As R Xs h => ?_) fun f cdv A outer s H E As R Xs h Z rz => ?_
  · obtain ⟨_, _, _, _, _, rfl, _⟩ := h; rfl
  · obtain ⟨b, p, D, M, a, rfl, hb, G, P, rfl⟩ := h
    show Blk _ [.d false (dB b), .d false (dPr p), .u] _ _
    exact blk_ret (evo_lc Z (lc_map b dH (fun h => oF (judQ h p)) (fun x => [.d false (dB b), .d false (dPr p), .d false (dH x)]) [("house", 2)] (is := [2]) (src_list (ev_var (pv 0) rfl)) (blkOk_by (N := ["book", "prices", "house"]) (sc := defScope (topS 32)) (by decide +kernel)) (small hb) (by decide) (fun x hx s H A cl fp => (tgt_name sc_judged.nd (by rfl) (Or.inl (by rfl)) (show 2 < 3 by decide) (Or.inr (by rfl)))) (fun x hx s H A cl fp => (ev_call (ok_judged_one T) (Z.hr.mono (by decide)) (args_d (ev_var (pv 2) rfl) (args_d (ev_var (pv 1) rfl) args_nil)) ⟨x, p, D, M, a, rfl, G x hx, P, rfl⟩)))).ev rfl
end
end Rk
namespace Rk
open PySem PySem.Spec PyProof.Rows L2
section
variable {P : Program} {w : World} {K : PySem.W.Frag} {mg : Str → Option Value} {base : Heap}
def S_added : Spec := fun As R Xs => ∃ (b : List House) (ks : List Nat) (s : Nat), As = [.d false (dB b), .d false (.list (natsD ks)), .d false (.int ((s : Nat) : Int))] ∧ GBk b ∧ (∀ k ∈ ks, k < b.length) ∧ ks.length ≤ 64 ∧ s < 2 ∧ ¬ 1000000000 < gMax (adV b ks s) ∧ R = (· = tInts (adV b ks s))
theorem sc_added : FnScope ["book", "numbers", "side", "told", "kind", "number"] ["book", "numbers", "side"] (defScope (topS 34)) := ⟨rfl, rfl, rfl, by decide +kernel, rfl, by decide +kernel, by decide +kernel⟩
theorem ok_added (T : Txt K mg) : Prom P w K mg base 1 "added" S_added := by
  refine prom_mk T.d_added sc_added (fun _ _ _ _ _ _ us hl => match us, hl with | [_, _, _], _ => rfl) (fun As R Xs h => ?_) fun f cdv A outer s H E As R Xs h Z rz => ?_
  · obtain ⟨_, _, _, rfl, _⟩ := h; rfl
  · obtain ⟨b, ks, s, rfl, G, hks, hk64, hs, hbig, rfl⟩ := h
    show Blk _ [.d false (dB b), .d false (.list (natsD ks)), .d false (.int ((s : Nat) : Int)), .u, .u, .u] _ _
    have hb0 : 0 < b.length := List.length_pos_iff.mpr G.ne
    have hm0 := houseAt hb0
    have hl0 := G.sd4 hm0 s
    obtain ⟨t2, c2⟩ := T.c_MOST_AMOUNT
    refine blk_setO Z (n := 3) (by rfl) (Or.inl (by rfl)) (Or.inl rfl) (show 3 < 6 by decide) (evo_lst evs_nil (show 0 ≤ sizeLine by decide)) ?_
    refine blk_for Z (is := [4]) (b := true) (src_rangeN T.range (ev_lenT T.len (ev_ixT (ev_ixL (ev_var (pv 0) rfl).bx.bw ev_int (atI_mapN (f := dH) (xs := b) (k := 0) ([], []) hb0)) (ev_var (pv 2) rfl) (atI_sd hs))) (by rw [List.length_map]; omega)) (fun i r => ∃ x4 x5 : SV, r = [.d false (dB b), .d false (.list (natsD ks)), .d false (.int ((s : Nat) : Int)), .o true (((List.range i).map fun k => adK b ks s k).map .int), x4, x5]) ⟨_, _, rfl⟩ (fun j0 D0 r hD0 hI => ?_) (fun r hI => ?_)
    · obtain ⟨x4, x5, rfl⟩ := hI
      rw [List.getElem?_map, Option.map_eq_some_iff] at hD0
      obtain ⟨i, hi', rfl⟩ := hD0
      obtain ⟨rfl, hlt⟩ := range_at hi'
      rw [List.length_map] at hlt
      refine ⟨_, (tgt_name Z.nd (by rfl) (Or.inr (by rfl)) (show 4 < 6 by decide) (Or.inl rfl)), ?_⟩
      have hin : ∀ k ∈ ks, atI ((sdH (hat b k) s).map PyData.int) ((i : Nat) : Int) = some (.int ((sdH (hat b k) s).getD i 0)) := fun k hk => atI_mapN (f := PyData.int) (xs := sdH (hat b k) s) (k := i) 0 (by rw [G.sdl (houseAt (hks k hk)) s]; exact hlt)
      refine blk_append (n := 3) (pv 3) rfl (ev_sumK ks (fun k => (sdH (hat b k) s).getD i 0) Z.calm T.sum (Bx.bw (EvO.bx (evo_lc Z (lc_map ks (fun k => .int ((k : Nat) : Int)) (fun k => .int ((sdH (hat b k) s).getD i 0)) (fun k => [.d false (dB b), .d false (.list (natsD ks)), .d false (.int ((s : Nat) : Int)), .o true (((List.range i).map fun k => adK b ks s k).map .int), .d true (.int ((i : Nat) : Int)), .d false (.int ((k : Nat) : Int))]) [("number", 5)] (is := [5]) (src_list (ev_var (pv 1) rfl)) (blkOk_by (N := ["book", "numbers", "side", "told", "kind", "number"]) (sc := defScope (topS 34)) (by decide +kernel)) (small (m := 64) hk64) (by decide) (fun x hx s H A cl fp => (tgt_name sc_added.nd (by rfl) (Or.inl (by rfl)) (show 5 < 6 by decide) (Or.inr (by rfl)))) (fun x hx s H A cl fp => (ev_ixT (ev_ixT (ev_ixL (ev_var (pv 0) rfl).bx.bw (ev_var (pv 5) rfl) (atI_mapN (f := dH) (xs := b) ([], []) (hks x hx))) (ev_var (pv 2) rfl) (atI_sd hs)) (ev_var (pv 4) rfl) (hin x hx)))))))) (by rw [List.length_map, List.length_map, List.length_range]; exact small' (m := 5) (by omega)) ?_ (ps_append (pv 3))
      exact blk_nil ⟨_, _, by rw [List.range_succ, List.map_append, List.map_append]; rfl⟩
    obtain ⟨x4, x5, rfl⟩ := hI
    have eA : ((List.range (List.range ((sdH (hat b 0) s).map PyData.int).length).length).map fun k => adK b ks s k) = adV b ks s := by rw [List.length_range, List.length_map]; rfl
    have eA' : ((List.range ((List.range ((sdH (b.getD 0 ([], [])) s).map PyData.int).length).map fun k => PyData.int ((k : Nat) : Int)).length).map fun k => adK b ks s k) = adV b ks s := by rw [List.length_map, List.length_range, List.length_map]; rfl
    have hne : adV b ks s ≠ [] := fun e => by
      have := congrArg List.length e
      rw [adV_len, List.length_nil] at this
      have : 1 ≤ (sdH (hat b 0) s).length := G.sd1 hm0 s
      omega
    rw [eA']
    refine blk_ifR (ec_gt (ev_maxL Z.calm T.max (bx_var (pv 3) rfl).bw hne) (ev_gint c2)).t (fun hc => ?_) (fun hc => ?_)
    · exact absurd (of_decide_eq_true hc) hbig
    exact blk_ret (ev_tupL T.tuple (bx_var (pv 3) rfl).bw) rfl
end
end Rk
namespace Rk
open PySem PySem.Spec PyProof.Rows L2
section
variable {P : Program} {w : World} {K : PySem.W.Frag} {mg : Str → Option Value} {base : Heap}
def S_merged : Spec := fun As R Xs => ∃ (b : List House) (ks : List Nat), As = [.d false (dB b), .d false (.list (natsD ks))] ∧ GBk b ∧ ks ≠ [] ∧ (∀ k ∈ ks, k < b.length) ∧ ks.length ≤ 64 ∧ ¬ adBig b ks ∧ R = (· = .list ((mgB b ks).map dH))
theorem sc_merged : FnScope ["book", "numbers", "number", "house", "told", "k", "other"] ["book", "numbers"] (defScope (topS 35)) := ⟨rfl, rfl, rfl, by decide +kernel, rfl, by decide +kernel, by decide +kernel⟩
theorem ok_merged (T : Txt K mg) : Prom P w K mg base 2 "merged" S_merged := by
  refine prom_mk T.d_merged sc_merged (fun _ _ _ _ _ _ us hl => match us, hl with | [_, _], _ => rfl) (fun As R Xs h => ?_) fun f cdv A outer s H E As R Xs h Z rz => ?_
  · obtain ⟨_, _, rfl, _⟩ := h; rfl
  · obtain ⟨b, ks, rfl, G, hne, hks, hk64, hbig, rfl⟩ := h
    show Blk _ [.d false (dB b), .d false (.list (natsD ks)), .u, .u, .u, .u, .u] _ _
    refine blk_for Z (is := [2]) (src_list (ev_var (pv 1) rfl)) (fun n r => ∃ x2 : SV, r = [.d false (dB b), .d false (.list (natsD ks)), x2, .u, .u, .u, .u]) ⟨_, rfl⟩ (fun n D r hD hI => ?_) (fun r hI => ?_)
    · obtain ⟨x2, rfl⟩ := hI
      rw [List.getElem?_map, Option.map_eq_some_iff] at hD
      obtain ⟨k, hk', rfl⟩ := hD
      refine ⟨_, (tgt_name Z.nd (by rfl) (Or.inl (by rfl)) (show 2 < 7 by decide) (Or.inl rfl)), ?_⟩
      refine blk_expr (ev_call (ok_need_house T) (Z.hr.mono (by decide)) (args_d (ev_var (pv 0) rfl) (args_d (ev_var (pv 2) rfl) args_nil)) ⟨b, k, rfl, hks k (List.mem_of_getElem? hk'), rfl⟩) ?_
      exact blk_nil ⟨_, rfl⟩
    obtain ⟨x2, rfl⟩ := hI
    have hb := G.le
    have hbig0 : ¬ 1000000000 < gMax (adV b ks 0) := fun h => hbig (.inl h)
    have hbig1 : ¬ 1000000000 < gMax (adV b ks 1) := fun h => hbig (.inr h)
    refine blk_set Z (n := 3) (by rfl) (Or.inl (by rfl)) (Or.inl rfl) (show 3 < 7 by decide) (ev_tup (evs_cons (ev_call (ok_added T) (Z.hr.mono (by decide)) (args_d (ev_var (pv 0) rfl) (args_d (ev_var (pv 1) rfl) (args_d ev_int args_nil))) ⟨b, ks, 0, rfl, G, hks, hk64, by decide, hbig0, rfl⟩) (evs_cons (ev_call (ok_added T) (Z.hr.mono (by decide)) (args_d (ev_var (pv 0) rfl) (args_d (ev_var (pv 1) rfl) (args_d ev_int args_nil))) ⟨b, ks, 1, rfl, G, hks, hk64, by decide, hbig1, rfl⟩) evs_nil)) (show 2 ≤ sizeLine by decide)) ?_
    refine blk_setO Z (n := 4) (by rfl) (Or.inl (by rfl)) (Or.inl rfl) (show 4 < 7 by decide) (evo_lst evs_nil (show 0 ≤ sizeLine by decide)) ?_
    refine blk_for Z (is := [5, 6]) (b := false) (src_enum T.enumerate (ev_var (pv 0) rfl)) (fun i r => ∃ x5 x6 : SV, r = [.d false (dB b), .d false (.list (natsD ks)), x2, .d true (dH (mgH b ks)), .o true ((mgT b ks i).map dH), x5, x6]) ⟨_, _, rfl⟩ (fun i D r hD hI => ?_) (fun r hI => ?_)
    · obtain ⟨x5, x6, rfl⟩ := hI
      obtain ⟨hi, rfl⟩ := enum_hat hD
      refine ⟨_, (tgt_tup Z.calm (.cons (tgt_name Z.nd (by rfl) (Or.inl (by rfl)) (show 5 < 7 by decide) (Or.inl rfl)) (.cons (tgt_name Z.nd (by rfl) (Or.inl (by rfl)) (show 6 < 7 by decide) (Or.inl rfl)) .nil (by rfl)) (by rfl)) (by rfl) (by rfl)), ?_⟩
      have hl := mgT_len (b := b) (ks := ks) i
      have el : ((mgT b ks i).map dH).length < sizeLine := by rw [List.length_map]; exact small' (m := 17) (by omega)
      refine blk_if (ec_eqI (ev_var (pv 5) rfl) (ev_minN Z.calm T.min (ev_var (pv 1) rfl).bx.bw hne)).t (fun hc => ?_) (fun hc => ?_)
      · refine blk_append (n := 4) (pv 4) rfl (ev_var (pv 3) rfl) el ?_ (ps_append (pv 4))
        exact blk_nil (blk_nil ⟨_, _, by rw [mgT_step, mgF, if_pos (of_decide_eq_true hc), List.map_append]; rfl⟩)
      have c1 := of_decide_eq_false hc
      refine blk_if (ec_notInN (ev_var (pv 5) rfl) (ev_var (pv 1) rfl).bx).t (fun hc => ?_) (fun hc => ?_)
      · rw [Bool.not_eq_true', decide_eq_false_iff_not] at hc
        refine blk_append (n := 4) (pv 4) rfl (Ev.flat (b' := true) (ev_var (pv 6) rfl) (flat_dH _)) el ?_ (ps_append (pv 4))
        exact blk_nil (blk_nil (blk_nil ⟨_, _, by rw [mgT_step, mgF, if_neg c1, if_neg hc, List.map_append]; rfl⟩))
      · rw [Bool.not_eq_false', decide_eq_true_iff] at hc
        exact blk_nil (blk_nil (blk_nil ⟨_, _, by rw [mgT_step, mgF, if_neg c1, if_pos hc, List.append_nil]; rfl⟩))
    obtain ⟨x5, x6, rfl⟩ := hI
    have eE : (enumD (b.map dH)).length = b.length := by unfold enumD; rw [List.length_map, List.length_zipIdx, List.length_map]
    rw [eE]
    exact blk_retO (pv 4) rfl rfl
end
end Rk
namespace Rk
open PySem PySem.Spec PyProof.Rows L2
section
variable {P : Program} {w : World} {K : PySem.W.Frag} {mg : Str → Option Value} {base : Heap}
def S_on_rim : Spec := fun As R Xs => ∃ (b : List House) (k : Nat) (z : Sz), As = [.d false (dB b), .d false (.int ((k : Nat) : Int)), .d false (.str (szS z))] ∧ GBk b ∧ k < b.length ∧ R = OnRimR b k z
abbrev N_rim : List Str := ["book", "number", "sizes", "rows", "takes", "gives", "take", "limits", "best", "amounts", "worths", "many", "both", "above", "one"]
theorem sc_on_rim : FnScope N_rim ["book", "number", "sizes"] (defScope (topS 37)) := ⟨rfl, rfl, rfl, by decide +kernel, rfl, by decide +kernel, by decide +kernel⟩
theorem ok_on_rim (T : Txt K mg) : Prom P w K mg base 5 "on_rim" S_on_rim := by
  refine prom_mk T.d_on_rim sc_on_rim (fun _ _ _ _ _ _ us hl => match us, hl with | [_, _, _], _ => rfl) (fun As R Xs h => ?_) fun f cdv A outer s H E As R Xs h Z rz => ?_
  · obtain ⟨_, _, _, rfl, _⟩ := h; rfl
  · obtain ⟨b, nr, z, rfl, G, hk, rfl⟩ := h
    have hb0 : 0 < b.length := by omega
    have hm0 := houseAt hb0
    have hhm := houseAt hk
    have hi0 : atI (b.map dH) ((0 : Nat) : Int) = some (dH (b.getD 0 ([], []))) := atI_mapN (f := dH) (xs := b) (k := 0) ([], []) hb0
    have hrow : atI (b.map fun o => lInts (rimRow z o)) ((nr : Nat) : Int) = some (lInts (rimRow z (b.getD nr ([], [])))) := atI_mapN (f := fun o => lInts (rimRow z o)) (xs := b) (k := nr) ([], []) hk
    have hlim : atI (b.map fun o => PyData.int (rimLim o)) ((nr : Nat) : Int) = some (.int (rimLim (b.getD nr ([], [])))) := atI_mapN (f := fun o => PyData.int (rimLim o)) (xs := b) (k := nr) ([], []) hk
    have er : ∀ D, OnRimR b nr z D ↔ (∃ p, D = .tuple [.str "rim", dPr p] ∧ RimOut b (b.getD nr ([], [])) z p) ∨ ∃ M, D = .tuple [.str "beaten", lQ M] ∧ BeatOut b (b.getD nr ([], [])) z M := fun _ => Iff.rfl
    show Blk _ [.d false (dB b), .d false (.int ((nr : Nat) : Int)), .d false (.str (szS z)), .u, .u, .u, .u, .u, .u, .u, .u, .u, .u, .u, .u] _ _
    refine blk_expr (ev_call (ok_need_house T) (Z.hr.mono (by decide)) (args_d (ev_var (pv 0) rfl) (args_d (ev_var (pv 1) rfl) args_nil)) ⟨b, nr, rfl, hk, rfl⟩) ?_
    obtain ⟨k0, hk0, ek0⟩ : ∃ k0, ∃ h : k0 < b.length, b[k0] = b.getD nr ([], []) := ⟨nr, hk, by rw [List.getD, List.getElem?_eq_getElem hk]; rfl⟩
    generalize b.getD nr ([], []) = h at hhm hrow hlim er ek0
    have L := G.like hhm
    have Am := G.amt h hhm
    have Ao := G.amt
    have hn := G.le
    have m1 := L.m1
    have m4 := Am.m4
    have n4 := Am.n4
    have np : nparts z ≤ 2 := by cases z <;> decide
    have e0 := L.len _ hm0
    generalize b.getD 0 ([], []) = h0 at hm0 hi0 e0
    refine blk_setO Z (n := 3) (by rfl) (Or.inl (by rfl)) (Or.inl rfl) (show 3 < 15 by decide) (evo_lst evs_nil (show 0 ≤ sizeLine by decide)) ?_
    refine blk_for Z (is := [4, 5]) (src_list (ev_var (pv 0) rfl)) (fun n r => ∃ x4 x5 : SV, r = [.d false (dB b), .d false (.int ((nr : Nat) : Int)), .d false (.str (szS z)), .o true ((b.take n).map fun o => lInts (rimRow z o)), x4, x5, .u, .u, .u, .u, .u, .u, .u, .u, .u]) ⟨_, _, rfl⟩ (fun n D r hD hI => ?_) (fun r hI => ?_)
    · obtain ⟨x4, x5, rfl⟩ := hI
      rw [List.getElem?_map, Option.map_eq_some_iff] at hD
      obtain ⟨o, ho, rfl⟩ := hD
      have hom := List.mem_of_getElem? ho
      have ol := L.len o hom
      refine ⟨_, (tgt_tup Z.calm (.cons (tgt_name Z.nd (by rfl) (Or.inl (by rfl)) (show 4 < 15 by decide) (Or.inl rfl)) (.cons (tgt_name Z.nd (by rfl) (Or.inl (by rfl)) (show 5 < 15 by decide) (Or.inl rfl)) .nil (by rfl)) (by rfl)) (by rfl) (by rfl)), ?_⟩
      refine blk_append (n := 3) (pv 3) rfl (evo_cat (evo_cat (evo_lc Z (lc_map o.1 PyData.int (fun x => .int (0 - x)) (fun x => [.d false (dB b), .d false (.int ((nr : Nat) : Int)), .d false (.str (szS z)), .o true ((b.take n).map fun o => lInts (rimRow z o)), .d false (tInts o.1), .d false (tInts o.2), .d false (.int x), .u, .u, .u, .u, .u, .u, .u, .u]) [("take", 6)] (is := [6]) (src_tup (ev_var (pv 4) rfl)) (blkOk_by (N := N_rim) (sc := defScope (topS 37)) (by decide +kernel)) (small (m := 4) (by omega)) (by decide) (fun x hx s H A cl fp => (tgt_name sc_on_rim.nd (by rfl) (Or.inl (by rfl)) (show 6 < 15 by decide) (Or.inr (by rfl)))) (fun x hx s H A cl fp => (ev_sub ev_int (ev_var (pv 6) rfl))))).bx (Bx.flat' (b' := true) (evo_listT T.list (ev_var (pv 5) rfl)).bx (flat_ints _)) (by rw [List.length_map, List.length_map]; exact small (m := 8) (by omega))).bx (Ev.bx (ev_call (ok_size_parts T) (Z.hr.mono (by decide)) (args_d (ev_var (pv 2) rfl) (args_d ev_int args_nil)) ⟨z, 1, rfl, rfl⟩)) (by rw [List.length_append, List.length_map, List.length_map, List.length_map, parts_len]; exact small (m := 10) (by omega))).ev (by rw [List.length_map, List.length_take]; exact small' (m := 17) (by omega)) ?_ (ps_append (pv 3))
      have erow : (o.1.map fun x => PyData.int (0 - x)) ++ o.2.map PyData.int ++ (parts z 1).map PyData.int = (rimRow z o).map .int := by
        unfold rimRow
        rw [List.map_append, List.map_append, List.map_map]; rfl
      rw [erow]
      have e3 : ((b.take n).map fun o => lInts (rimRow z o)) ++ [.list ((rimRow z o).map .int)] = (b.take (n + 1)).map fun o => lInts (rimRow z o) := by
        rw [List.take_add_one, ho, List.map_append]; rfl
      rw [e3]
      exact blk_nil ⟨_, _, rfl⟩
    · obtain ⟨x4, x5, rfl⟩ := hI
      have ll : (b.map dH).length = b.length := List.length_map _
      rw [ll, List.take_length]
      refine blk_setLc Z (n := 7) (by rfl) (by rfl) (show 7 < 15 by decide) (lc_map b dH (fun o => .int (rimLim o)) (fun o => [.d false (dB b), .d false (.int ((nr : Nat) : Int)), .d false (.str (szS z)), .o true (b.map fun o => lInts (rimRow z o)), .d false (tInts o.1), .d false (tInts o.2), .u, .u, .u, .u, .u, .u, .u, .u, .u]) [("takes", 4), ("gives", 5)] (is := [4, 5]) (src_list (ev_var (pv 0) rfl)) (blkOk_by (N := N_rim) (sc := defScope (topS 37)) (by decide +kernel)) (small hn) (by decide) (fun x hx s H A cl fp => (tgt_tup Z.calm (.cons (tgt_name sc_on_rim.nd (by rfl) (Or.inl (by rfl)) (show 4 < 15 by decide) (Or.inr (by rfl))) (.cons (tgt_name sc_on_rim.nd (by rfl) (Or.inl (by rfl)) (show 5 < 15 by decide) (Or.inr (by rfl))) .nil (by rfl)) (by rfl)) (by rfl) (by rfl))) (fun x hx s H A cl fp => (ev_sub (ev_sumT Z.calm T.sum (ev_var (pv 4) rfl)) (ev_sumT Z.calm T.sum (ev_var (pv 5) rfl))))) (sw_true rfl rfl rfl (by decide +kernel)) ?_
      have erows : (b.map fun o => lInts (rimRow z o)) = (lpRim h z b).rows.map lInts := by
        show _ = (b.map (rimRow z)).map lInts
        rw [List.map_map]; rfl
      have elim : (b.map fun o : House => PyData.int (rimLim o)) = (lpRim h z b).limits.map PyData.int := by
        show _ = (b.map rimLim).map PyData.int
        rw [List.map_map]; rfl
      refine blk_unpackR' (is := [8, 9, 10]) (evr_call (R := SolRa 1130 (lpRim h z b)) (ok_solved T) (Z.hr.mono (by decide)) (args_x (bx_var (pv 3) rfl) (args_x (bx_var (pv 7) rfl) (args_x (evo_listL T.list (ev_ixL (bx_var (pv 3) rfl).bw (ev_var (pv 1) rfl) hrow).bx.bw).bx args_nil))) ⟨lpRim h z b, rim_ok L, 10 ^ 18, 1130, by rw [erows, elim]; rfl, rim_lps L hhm Ao hn, rfl⟩) ?_
      rintro D (⟨_, U, _⟩ | ⟨best, x, y, d, X, rfl, O, d0, hd', hX, CD⟩)
      · exact (rim_bounded L hhm U).elim
      refine ⟨_, (tgt_tup Z.calm (.cons (tgt_name Z.nd (by rfl) (Or.inl (by rfl)) (show 8 < 15 by decide) (Or.inl rfl)) (.cons (tgt_name Z.nd (by rfl) (Or.inl (by rfl)) (show 9 < 15 by decide) (Or.inl rfl)) (.cons (tgt_name Z.nd (by rfl) (Or.inl (by rfl)) (show 10 < 15 by decide) (Or.inl rfl)) .nil (by rfl)) (by rfl)) (by rfl)) (by rfl) (by rfl)), ?_⟩
      have hm := rim_mix L O
      refine blk_ifR (ec_neD Z.u64 (ev_var (pv 8) rfl) (ev_call (ok_whole T) (Z.hr.mono (by decide)) (args_d (ev_ixL (bx_var (pv 7) rfl).bw (ev_var (pv 1) rfl) hlim) args_nil) ⟨rimLim h, rfl, rfl⟩) (shaped_dF _) (shaped_dF _)).t (fun hc => ?_) (fun hc => ?_)
      · refine blk_ret (ev_tup (evs_cons ev_str (evs_cons (ev_var (pv 10) rfl) evs_nil)) (show 2 ≤ sizeLine by decide)) ?_
        rw [eqv_dF] at hc
        have hne : best ≠ ((rimLim h : Int) : Rat) := by simpa using hc
        refine (er _).mpr (.inr ⟨y, rfl, hm, fun ow => hne ?_, d, X, d0, Nat.lt_of_lt_of_le hd' (pow_le' (by decide)), Nat.lt_of_lt_of_le hX (pow_le' (by decide)), fun q hq => CD.cy q hq⟩)
        have h1 := own_lim L ow
        exact O.gy.symm.trans h1
      rw [eqv_dF] at hc
      have heq : best = ((rimLim h : Int) : Rat) := by simpa using hc
      clear hc
      have lx : x.length = h.1.length + h.2.length + nparts z := O.lx.trans rimRow_len
      obtain ⟨u, v, s, ex, hu, hv, hs⟩ : ∃ u v s, x = u ++ v ++ s ∧ u.length = h.1.length ∧ v.length = h.2.length ∧ s.length = nparts z := by
        obtain ⟨ex, hu, hv, hs⟩ := split3 x _ _ _ lx
        exact ⟨_, _, _, ex, hu, hv, hs⟩
      have wx : ∀ q ∈ x, Wd 1130 q := fun q hq => (CD.cx q hq).wd hd' hX
      have cx := CD.cx
      refine blk_set Z (n := 11) (by rfl) (Or.inl (by rfl)) (Or.inl rfl) (show 11 < 15 by decide) (ev_lenT T.len (ev_ixT (ev_ixL (ev_var (pv 0) rfl).bx.bw ev_int hi0) ev_int rfl)) ?_
      refine blk_set Z (n := 12) (by rfl) (Or.inl (by rfl)) (Or.inl rfl) (show 12 < 15 by decide) (ev_add (ev_var (pv 11) rfl) (ev_lenT T.len (ev_ixT (ev_ixL (ev_var (pv 0) rfl).bx.bw ev_int hi0) ev_int rfl))) ?_
      have e1 : (h0.1.map PyData.int).length = h.1.length := by rw [List.length_map, e0.1]
      have e2 : (h0.2.map PyData.int).length = h.2.length := by rw [List.length_map, e0.2]
      rw [e1, e2]
      have c1 : cutD (x.map dF) none (some (((h.1.length : Nat) : Int) + ((h.2.length : Nat) : Int))) = (u ++ v).map dF := by
        have := cutD_to (f := dF) (xs := x) (hi := h.1.length + h.2.length) (by omega)
        rw [ex, List.take_left' (by rw [List.length_append, hu, hv])] at this
        rw [ex]; exact this
      refine blk_setLc Z (n := 13) (by rfl) (by rfl) (show 13 < 15 by decide) (lc_map (u ++ v) dF (fun q => dF (1 + q)) (fun q => [.d false (dB b), .d false (.int ((nr : Nat) : Int)), .d false (.str (szS z)), .o true (b.map fun o => lInts (rimRow z o)), x4, x5, .u, .o true (b.map fun o => .int (rimLim o)), .d true (dF best), .d true (lQ x), .d true (lQ y), .d true (.int ((h.1.length : Nat) : Int)), .d true (.int (((h.1.length : Nat) : Int) + ((h.2.length : Nat) : Int))), .u, .d true (dF q)]) [("one", 14)] (is := [14]) (by rw [← c1]; exact src_list (evo_slL (ev_var (pv 9) rfl).bx.bw eo_none (eo_some (ev_var (pv 12) rfl))).ev) (blkOk_by (N := N_rim) (sc := defScope (topS 37)) (by decide +kernel)) (by rw [List.length_append]; exact small (m := 8) (by omega)) (by decide) (fun x hx s H A cl fp => (tgt_name sc_on_rim.nd (by rfl) (Or.inl (by rfl)) (show 14 < 15 by decide) (Or.inr (by rfl)))) (fun q hq s' H A cl fp => (ev_call (ok_plus T) (Z.hr.mono (by decide)) (args_d (ev_tup (evs_cons ev_int (evs_cons ev_int evs_nil)) (show 2 ≤ sizeLine by decide)) (args_d (ev_var (pv 14) rfl) args_nil)) ⟨1, q, 1, 1130, rfl, ⟨by decide, by decide⟩, wx q (by rw [ex]; exact List.mem_append_left _ hq), by decide, by decide, by decide, rfl⟩))) (sw_true rfl rfl rfl (by decide +kernel)) ?_
      have eab : ((u ++ v).map fun q => dF (1 + q)) = (u.map (1 + ·) ++ v.map (1 + ·)).map dF := by
        rw [← List.map_append, List.map_map]; rfl
      rw [eab]
      have c2 : cutD ((u.map (1 + ·) ++ v.map (1 + ·)).map dF) none (some ((h.1.length : Nat) : Int)) = (u.map (1 + ·)).map dF := by
        rw [cutD_to (by rw [List.length_append, List.length_map]; omega), List.take_left' (by rw [List.length_map, hu])]
      have c3 : cutD ((u.map (1 + ·) ++ v.map (1 + ·)).map dF) (some ((h.1.length : Nat) : Int)) none = (v.map (1 + ·)).map dF := by
        rw [cutD_from (by rw [List.length_append, List.length_map]; omega), List.drop_left' (by rw [List.length_map, hu])]
      have eds : x.drop (h.1.length + h.2.length) = s := by rw [ex, List.drop_left' (by rw [List.length_append, hu, hv])]
      refine blk_ret (ev_tup (evs_cons ev_str (evs_cons (ev_tup (evs_cons (evo_slL (bx_var (pv 13) rfl).bw eo_none (eo_some (ev_var (pv 11) rfl))).ev (evs_cons (evo_slL (bx_var (pv 13) rfl).bw (eo_some (ev_var (pv 11) rfl)) eo_none).ev (evs_cons (ev_call (ok_size_price T) (Z.hr.mono (by decide)) (args_d (ev_var (pv 2) rfl) (args_d (ev_var (pv 9) rfl) args_nil)) ⟨z, x, 1130, h.1.length + h.2.length, rfl, lx, wx, by decide, by decide, rfl⟩) evs_nil))) (show 3 ≤ sizeLine by decide)) evs_nil)) (show 2 ≤ sizeLine by decide)) ?_
      rw [c2, c3, eds]
      have u0 : ∀ q ∈ u, 0 ≤ q := fun q hq => O.x0 q (by rw [ex]; simp [hq])
      have v0 : ∀ q ∈ v, 0 ≤ q := fun q hq => O.x0 q (by rw [ex]; simp [hq])
      have s0 : ∀ q ∈ s, 0 ≤ q := fun q hq => O.x0 q (by rw [ex]; simp [hq])
      have hp := O.pri
      rw [ex] at hp
      obtain ⟨P1, P2⟩ := rim_prices (z := z) L hu hv hs u0 v0 s0 (fun o ho => by
        obtain ⟨k, hk, rfl⟩ := List.getElem_of_mem ho
        have := hp k (by rw [rim_rows]; exact hk)
        rw [rim_row hk, rim_lim hk] at this
        exact this)
      have hgx := O.gx
      rw [ex, heq] at hgx
      refine (er _).mpr (.inl ⟨rimPr z u v s, rfl, P1, P2, rim_tight hu hv hs hgx, rim_prok hs d0 hd' hX (fun q hq => cx q (by rw [ex]; simp [hq])) (fun q hq => cx q (by rw [ex]; simp [hq])) (fun q hq => cx q (by rw [ex]; simp [hq]))⟩)
end
end Rk
namespace Rk
open PySem PySem.Spec PyProof.Rows L2
section
variable {P : Program} {w : World} {K : PySem.W.Frag} {mg : Str → Option Value} {base : Heap}
def S_rim_of : Spec := fun As R Xs => ∃ (b : List House) (z : Sz), As = [.d false (dB b), .d false (.str (szS z))] ∧ GBk b ∧ R = (· = .list ((rimIx b z).map fun i => .int ((i : Nat) : Int)))
theorem sc_rim_of : FnScope ["book", "sizes", "k"] ["book", "sizes"] (defScope (topS 38)) := ⟨rfl, rfl, rfl, by decide +kernel, rfl, by decide +kernel, by decide +kernel⟩
theorem ok_rim_of (T : Txt K mg) : Prom P w K mg base 6 "rim_of" S_rim_of := by
  refine prom_mk T.d_rim_of sc_rim_of (fun _ _ _ _ _ _ us hl => match us, hl with | [_, _], _ => rfl) (fun As R Xs h => ?_) fun f cdv A outer s H E As R Xs h Z rz => ?_
  · obtain ⟨_, _, rfl, _⟩ := h; rfl
  · obtain ⟨b, z, rfl, G, rfl⟩ := h
    have hn := G.le
    have ll : (b.map dH).length = b.length := List.length_map _
    show Blk _ [.d false (dB b), .d false (.str (szS z)), .u] _ _
    refine blk_ret (evo_lc Z (lc_mk (List.range (b.map dH).length) (fun i => .int ((i : Nat) : Int)) (fun i => .int ((i : Nat) : Int)) (fun i => decide (rimS b z i = "rim")) (fun i => [.d false (dB b), .d false (.str (szS z)), .d true (.int ((i : Nat) : Int))]) [("k", 2)] (is := [2]) (src_rangeN T.range (ev_lenL T.len (ev_var (pv 0) rfl).bx.bw) (by omega)) (blkOk_by (N := ["book", "sizes", "k"]) (sc := defScope (topS 38)) (by decide +kernel)) (by rw [List.length_range, ll]; exact small hn) (by decide) (fun x hx s H A cl fp => (tgt_name sc_rim_of.nd (by rfl) (Or.inl (by rfl)) (show 2 < 3 by decide) (Or.inr (by rfl)))) (fun x hx s H A cl fp => .one (Ec.t (ec_eqS (b1 := true) (x := rimS b z x) (by exact EvR.ev (evr_ixT (R := OnRimR b x z) (R' := (· = .str (rimS b z x))) (by exact evr_call (ok_on_rim T) (Z.hr.mono (by decide)) (args_d (ev_var (pv 0) rfl) (args_d (ev_var (pv 2) rfl) (args_d (ev_var (pv 1) rfl) args_nil))) ⟨b, x, z, rfl, G, by have := List.mem_range.mp hx; omega, rfl⟩) (by exact ev_int) (fun D h => onrim_s G (by have := List.mem_range.mp hx; omega) h)) (fun _ h => h)) (by exact ev_str)))) (fun x hx hc s H A cl fp => (ev_var (pv 2) rfl)))).ev ?_
    show PyData.list _ = PyData.list _
    rw [ll]
    unfold rimIx
    rw [List.filter_congr fun i _ => rimS_iff]
end
end Rk
namespace Rk
open PySem PySem.Spec PyProof.Rows L2
section
variable {P : Program} {w : World} {K : PySem.W.Frag} {mg : Str → Option Value} {base : Heap}
def cellAt (ns : List Int) (k : Int) : Int := if k < ns.length then ns.getD k.toNat 0 else 0
def S__law_cell_at : Spec := fun As R Xs => ∃ (ns : List Int) (k : Int), As = [.s ns, .d false (.int k)] ∧ 0 ≤ k ∧ R = (· = .int (cellAt ns k))
theorem sc__law_cell_at : FnScope ["script", "k"] ["script", "k"] (defScope (topS 40)) := ⟨rfl, rfl, rfl, by decide +kernel, rfl, by decide +kernel, by decide +kernel⟩
theorem ok__law_cell_at (T : Txt K mg) : Prom P w K mg base 1 "_law_cell_at" S__law_cell_at := by
  refine prom_mk T.d__law_cell_at sc__law_cell_at (fun _ _ _ _ _ _ us hl => match us, hl with | [_, _], _ => rfl) (fun As R Xs h => ?_) fun f cdv A outer s H E As R Xs h Z rz => ?_
  · obtain ⟨ns, k, rfl, _⟩ := h; rfl
  · obtain ⟨ns, k, rfl, h0, rfl⟩ := h
    show Blk _ [.s ns, .d false (.int k)] _ _
    refine blk_ifR (ec_lt (ev_var (pv 1) rfl) (ev_lenL T.len (bw_scr (pv 0) rfl))).t (fun hc => ?_) (fun hc => ?_)
    · rw [decide_eq_true_eq, List.length_map] at hc
      refine blk_ret (D := .int (ns.getD k.toNat 0)) (ev_ixL (bw_scr (pv 0) rfl) (ev_var (pv 1) rfl) ?ix1) ?_
      · exact atI_map' 0 h0 hc
      · show PyData.int _ = PyData.int _
        unfold cellAt; rw [if_pos hc]
    · rw [decide_eq_false_iff_not, List.length_map] at hc
      refine blk_ret ev_int ?_
      show PyData.int _ = PyData.int _
      unfold cellAt; rw [if_neg hc]
end
end Rk
namespace Rk
open PySem PySem.Spec PyProof.Rows L2
section
variable {P : Program} {w : World} {K : PySem.W.Frag} {mg : Str → Option Value} {base : Heap}
abbrev drM : Int := 2305843009213693951
structure Dr where
  found : List Int
  rest : Int
  st : Int
def drStep (base : Int) (s : Dr) (k : Nat) : Dr :=
  let t := (s.st * s.st + 48271 * s.st + (k : Int) + 1) % drM
  if 2 < (k : Int) ∧ 0 < s.rest then ⟨s.found ++ [s.rest % base], s.rest / base, t⟩
  else if 2 < (k : Int) then ⟨s.found ++ [t / 4096 % base], s.rest, t⟩ else ⟨s.found, s.rest, t⟩
def dr0 (cell : Int) : Dr := ⟨[], cell * b2z (decide (1000000000000000000 ≤ cell)), cell % drM⟩
def drN (cell base : Int) (n : Nat) : Dr := (List.range n).foldl (drStep base) (dr0 cell)
def draws (cell : Int) (many : Nat) (base : Int) : List Int := (drN cell base (many + 3)).found
theorem drN_succ (cell base : Int) (n : Nat) : drN cell base (n + 1) = drStep base (drN cell base n) n := by
  unfold drN; rw [List.range_succ, List.foldl_append]; rfl
theorem drN_inv (cell base : Int) (hb : 0 < base) : ∀ n : Nat, (drN cell base n).found.length = n - 3 ∧ (∀ x ∈ (drN cell base n).found, 0 ≤ x ∧ x < base) ∧ 0 ≤ (drN cell base n).st ∧ (drN cell base n).st < drM
  | 0 => ⟨rfl, fun x h => (by cases h), Int.emod_nonneg cell (show drM ≠ 0 by decide), Int.emod_lt_of_pos cell (show 0 < drM by decide)⟩
  | n + 1 => by
    obtain ⟨h1, h2, h3, h4⟩ := drN_inv cell base hb n
    rw [drN_succ]
    generalize drN cell base n = s at h1 h2 h3 h4
    unfold drStep
    have t1 := Int.emod_nonneg (s.st * s.st + 48271 * s.st + (n : Int) + 1) (show drM ≠ 0 by decide)
    have t2 := Int.emod_lt_of_pos (s.st * s.st + 48271 * s.st + (n : Int) + 1) (show 0 < drM by decide)
    dsimp only
    split
    · refine ⟨by simp; omega, fun x hx => ?_, t1, t2⟩
      rcases List.mem_append.mp hx with hx | hx
      · exact h2 x hx
      · rw [List.mem_singleton.mp hx]
        exact ⟨Int.emod_nonneg _ (by omega), Int.emod_lt_of_pos _ hb⟩
    · split
      · refine ⟨by simp; omega, fun x hx => ?_, t1, t2⟩
        rcases List.mem_append.mp hx with hx | hx
        · exact h2 x hx
        · rw [List.mem_singleton.mp hx]
          exact ⟨Int.emod_nonneg _ (by omega), Int.emod_lt_of_pos _ hb⟩
      · refine ⟨?_, h2, t1, t2⟩
        show s.found.length = _
        omega
theorem draws_len (cell base : Int) (hb : 0 < base) (many : Nat) : (draws cell many base).length = many := by
  have := (drN_inv cell base hb (many + 3)).1
  unfold draws; omega
theorem draws_mem (cell base : Int) (hb : 0 < base) (many : Nat) : ∀ x ∈ draws cell many base, 0 ≤ x ∧ x < base := (drN_inv cell base hb (many + 3)).2.1
theorem getD_mem {xs : List Int} {k : Nat} (h : k < xs.length) : xs.getD k 0 ∈ xs := by
  rw [List.getD, List.getElem?_eq_getElem h]; exact List.getElem_mem h
def S__law_draws : Spec := fun As R Xs => ∃ (cell : Int) (many : Nat) (base : Int), As = [.d false (.int cell), .d false (.int (many : Int)), .d false (.int base)] ∧ many ≤ 1000 ∧ 0 < base ∧ base < 1073741824 ∧ R = (· = lInts (draws cell many base))
theorem sc__law_draws : FnScope ["cell", "many", "base", "found", "rest", "stirred", "k"] ["cell", "many", "base"] (defScope (topS 41)) := ⟨rfl, rfl, rfl, by decide +kernel, rfl, by decide +kernel, by decide +kernel⟩
theorem ok__law_draws (T : Txt K mg) : Prom P w K mg base 1 "_law_draws" S__law_draws := by
  refine prom_mk T.d__law_draws sc__law_draws (fun _ _ _ _ _ _ us hl => match us, hl with | [_, _, _], _ => rfl) (fun As R Xs h => ?_) fun f cdv A outer s H E As R Xs h Z rz => ?_
  · obtain ⟨_, _, _, rfl, _⟩ := h; rfl
  · obtain ⟨cell, many, base, rfl, hm, hb0, hb, rfl⟩ := h
    show Blk _ [.d false (.int cell), .d false (.int (many : Int)), .d false (.int base), .u, .u, .u, .u] _ _
    refine blk_setO Z (n := 3) (by rfl) (Or.inl (by rfl)) (Or.inl rfl) (show 3 < 7 by decide) (evo_lst evs_nil (by decide)) ?_
    refine blk_set Z (n := 4) (by rfl) (Or.inl (by rfl)) (Or.inl rfl) (show 4 < 7 by decide) (ev_mul (ev_var (pv 0) rfl) (ev_intB T.int (ec_ge (ev_var (pv 0) rfl) (ev_powC 1000000000000000000 ev_int ev_int ⟨by decide, by decide, by decide⟩ (by decide))).ev) (mulR ?mu1)) ?_
    · unfold b2z; split <;> decide
    refine blk_set Z (n := 5) (by rfl) (Or.inl (by rfl)) (Or.inl rfl) (show 5 < 7 by decide) (ev_mod (ev_var (pv 0) rfl) ev_int (by decide)) ?_
    show Blk _ [.d false (.int cell), .d false (.int (many : Int)), .d false (.int base), .o true ((drN cell base 0).found.map .int), .d true (.int (drN cell base 0).rest), .d true (.int (drN cell base 0).st), .u] _ _
    refine blk_for Z (is := [6]) (b := true) (src_range1 T.range (ev_add (ev_var (pv 1) rfl) ev_int) ?rb2 ?rb3) (fun n r => ∃ x, r = [.d false (.int cell), .d false (.int (many : Int)), .d false (.int base), .o true ((drN cell base n).found.map .int), .d true (.int (drN cell base n).rest), .d true (.int (drN cell base n).st), x]) ⟨_, rfl⟩ (fun n D r hD hI => ?_) (fun r hI => ?_)
    · omega
    · omega
    · obtain ⟨x, rfl⟩ := hI
      have hn : n < ((many : Int) + 3).toNat := by
        have := (List.getElem?_eq_some_iff.mp hD).1
        simpa [rangeD] using this
      obtain rfl : D = .int (0 + (n : Int)) := by
        unfold rangeD at hD
        rw [List.getElem?_map, List.getElem?_range hn] at hD
        exact (Option.some.inj hD).symm
      rw [Int.zero_add]
      obtain ⟨i1, i2, i3, i4⟩ := drN_inv cell base hb0 n
      have hstep := drN_succ cell base n
      generalize hs : drN cell base n = q at i1 i2 i3 i4 hstep ⊢
      have e : ∀ x y z : Int, (⟨x, y, z⟩ : Int × Int × Int) = (x, y, z) := fun _ _ _ => rfl
      refine ⟨_, (tgt_name Z.nd (by rfl) (Or.inl (by rfl)) (show 6 < 7 by decide) (Or.inl rfl)), ?_⟩
      refine blk_set Z (n := 5) (by rfl) (Or.inl (by rfl)) (Or.inl rfl) (show 5 < 7 by decide) (ev_mod (ev_add (ev_add (ev_add (ev_mul (ev_var (pv 5) rfl) (ev_var (pv 5) rfl) (mulL ?mu4)) (ev_mul ev_int (ev_var (pv 5) rfl) (mulL (by decide)))) (ev_var (pv 6) rfl)) ev_int) ev_int (by decide)) ?_
      · unfold drM at i4; omega
      refine blk_if (evw_and (ec_gt (ev_var (pv 6) rfl) ev_int).t (fun h5 => (evw_and1 (ec_gt (ev_var (pv 4) rfl) ev_int).t))).t (fun hc => ?_) (fun hc => ?_)
      · rw [Bool.and_eq_true, decide_eq_true_eq, decide_eq_true_eq] at hc
        refine blk_append (n := 3) (pv 3) rfl (ev_mod (ev_var (pv 4) rfl) (ev_var (pv 2) rfl) hb0) (small' (m := 1003) (by rw [List.length_map]; omega)) ?_ (ps_append (pv 3))
        refine blk_set Z (n := 4) (by rfl) (Or.inl (by rfl)) (Or.inl rfl) (show 4 < 7 by decide) (ev_fdiv (ev_var (pv 4) rfl) (ev_var (pv 2) rfl) hb0 (pyS (by omega))) ?_
        refine blk_nil (blk_nil ⟨.d true (.int (n : Int)), ?_⟩)
        rw [hstep]
        unfold drStep
        dsimp only
        rw [if_pos hc, List.map_append]
        rfl
      · refine blk_if (ec_gt (ev_var (pv 6) rfl) ev_int).t (fun hc2 => ?_) (fun hc2 => ?_)
        · rw [decide_eq_true_eq] at hc2
          have hc' : ¬ (2 < (n : Int) ∧ 0 < q.rest) := by
            intro z
            rw [decide_eq_true z.1, decide_eq_true z.2] at hc
            cases hc
          refine blk_append (n := 3) (pv 3) rfl (ev_mod (ev_fdiv (ev_var (pv 5) rfl) ev_int (by decide) (pyS (by decide))) (ev_var (pv 2) rfl) hb0) (small' (m := 1003) (by rw [List.length_map]; omega)) ?_ (ps_append (pv 3))
          refine blk_nil (blk_nil (blk_nil ⟨.d true (.int (n : Int)), ?_⟩))
          rw [hstep]
          unfold drStep
          dsimp only
          rw [if_neg hc', if_pos hc2, List.map_append]
          rfl
        · rw [decide_eq_false_iff_not] at hc2
          refine blk_nil (blk_nil (blk_nil ⟨.d true (.int (n : Int)), ?_⟩))
          rw [hstep]
          unfold drStep
          dsimp only
          rw [if_neg (fun z => hc2 z.1), if_neg hc2]
          rfl
    · obtain ⟨x, rfl⟩ := hI
      refine blk_retO (pv 3) rfl ?_
      show PyData.list _ = PyData.list _
      have e : ((many : Int) + 3).toNat = many + 3 := by omega
      simp only [rangeD, List.length_map, List.length_range, e]
      rfl
end
end Rk
namespace Rk
open PySem PySem.Spec PyProof.Rows L2
section
variable {P : Program} {w : World} {K : PySem.W.Frag} {mg : Str → Option Value} {base : Heap}
def S__law_near : Spec := fun As R Xs => ∃ (h : House) (ps : List Int) (far : Int), As = [.d false (dH h), .d false (lInts ps), .d false (.int far)] ∧ GoodH far h ∧ 10 ≤ ps.length ∧ (∀ x ∈ ps, 0 ≤ x) ∧ far ≤ 1000000000 ∧
  R = fun D => ∃ h' : House, D = dH h' ∧ GoodH far h' ∧ h'.1.length = h.1.length ∧ h'.2.length = h.2.length
theorem sc__law_near : FnScope ["house", "picks", "far", "takes", "gives", "by", "take", "give", "at"] ["house", "picks", "far"] (defScope (topS 43)) := ⟨rfl, rfl, rfl, by decide +kernel, rfl, by decide +kernel, by decide +kernel⟩
theorem near_mul {xs : List Int} {y far : Int} (h : ∀ x ∈ xs, 1 ≤ x ∧ x * y ≤ far) (hy : 1 ≤ y) : ∀ x ∈ xs.map (· * y), 1 ≤ x ∧ x ≤ far := fun x hx => by
  obtain ⟨z, hz, rfl⟩ := List.mem_map.mp hx
  obtain ⟨h1, h2⟩ := h z hz
  have : 1 * 1 ≤ z * y := Int.mul_le_mul h1 hy (by omega) (by omega)
  exact ⟨by omega, h2⟩
theorem near_mul0 {xs : List Int} {y far : Int} (h : ∀ x ∈ xs, 0 ≤ x ∧ x * y ≤ far) (hy : 1 ≤ y) : ∀ x ∈ xs.map (· * y), 0 ≤ x ∧ x ≤ far := fun x hx => by
  obtain ⟨z, hz, rfl⟩ := List.mem_map.mp hx
  obtain ⟨h1, h2⟩ := h z hz
  exact ⟨Int.mul_nonneg h1 (by omega), h2⟩
theorem ok__law_near (T : Txt K mg) : Prom P w K mg base 1 "_law_near" S__law_near := by
  refine prom_mk T.d__law_near sc__law_near (fun _ _ _ _ _ _ us hl => match us, hl with | [_, _, _], _ => rfl) (fun As R Xs h => ?_) fun f cdv A outer s H E As R Xs h Z rz => ?_
  · obtain ⟨_, _, _, rfl, _⟩ := h; rfl
  · obtain ⟨⟨tk, gv⟩, ps, far, rfl, G, hp, hp0, hf, rfl⟩ := h
    have gt1 : 1 ≤ tk.length := G.t1
    have gt4 : tk.length ≤ 4 := G.t4
    have gg1 : 1 ≤ gv.length := G.g1
    have gg4 : gv.length ≤ 4 := G.g4
    have gtk : ∀ x ∈ tk, 1 ≤ x ∧ x ≤ far := G.tk
    have ggv : ∀ x ∈ gv, 0 ≤ x ∧ x ≤ far := G.gv
    obtain ⟨pz, pzm, pz0⟩ : ∃ x ∈ gv, 0 < x := G.ps
    have far1 : 1 ≤ far := by have := gtk _ (mem_getD (k := 0) (by omega) 0); omega
    have p9 : atI (ps.map PyData.int) 9 = some (.int (ps.getD 9 0)) := atI_map' 0 (by omega) (by omega)
    have p8 : atI (ps.map PyData.int) 8 = some (.int (ps.getD 8 0)) := atI_map' 0 (by omega) (by omega)
    have q9 := hp0 _ (mem_getD (xs := ps) (k := 9) (by omega) 0)
    have q8 := hp0 _ (mem_getD (xs := ps) (k := 8) (by omega) 0)
    generalize ps.getD 9 0 = u9 at p9 q9
    generalize ps.getD 8 0 = u8 at p8 q8
    show Blk _ [.d false (dH (tk, gv)), .d false (lInts ps), .d false (.int far), .u, .u, .u, .u, .u, .u] _ _
    refine blk_unpack (ev_var (pv 0) rfl) (tgt_tup Z.calm (.cons (tgt_name Z.nd (by rfl) (Or.inl (by rfl)) (show 3 < 9 by decide) (Or.inl rfl)) (.cons (tgt_name Z.nd (by rfl) (Or.inl (by rfl)) (show 4 < 9 by decide) (Or.inl rfl)) .nil (by rfl)) (by rfl)) (by rfl) (by rfl)) ?_
    have e4 : 0 ≤ u9 % 4 ∧ u9 % 4 < 4 := by omega
    refine blk_set Z (n := 5) (by rfl) (Or.inr (by rfl)) (Or.inl rfl) (show 5 < 9 by decide) (ev_ixL (evo_lst (evs_cons ev_int (evs_cons ev_int (evs_cons ev_int (evs_cons ev_int evs_nil)))) (by decide)).bx.bw (ev_mod (ev_ixL (ev_var (pv 1) rfl).bx.bw ev_int p9) ev_int (by decide)) (atI_map' (f := .int) (xs := [1, 1, 2, 3]) 0 e4.1 e4.2)) ?_
    have by0 : 1 ≤ ([1, 1, 2, 3] : List Int).getD (u9 % 4).toNat 0 ∧ ([1, 1, 2, 3] : List Int).getD (u9 % 4).toNat 0 ≤ 3 := by
      have := mem_getD (xs := ([1, 1, 2, 3] : List Int)) (k := (u9 % 4).toNat) (by simp; omega) 0
      simp only [List.mem_cons, List.not_mem_nil, or_false] at this
      omega
    generalize ([1, 1, 2, 3] : List Int).getD (u9 % 4).toNat 0 = y0 at by0
    have hm1 : gMax (tk ++ gv) ≤ far := by
      have := gMax_mem (ns := tk ++ gv) (by intro e; simp at e; rw [e.1] at gt1; simp at gt1)
      rcases List.mem_append.mp this with h | h
      · exact (gtk _ h).2
      · exact (ggv _ h).2
    have hm0 : 0 ≤ gMax (tk ++ gv) := by
      have := gMax_le (ns := tk ++ gv) (List.mem_append.mpr (.inl (mem_getD (xs := tk) (k := 0) (by omega) 0)))
      have := gtk _ (mem_getD (xs := tk) (k := 0) (by omega) 0)
      omega
    refine blk_ifJ (fun r => ∃ y : Int, r = [.d false (dH (tk, gv)), .d false (lInts ps), .d false (.int far), .d false (tInts tk), .d false (tInts gv), .d true (.int y), .u, .u, .u] ∧ 1 ≤ y ∧ y ≤ 3 ∧ ∀ x ∈ tk ++ gv, x * y ≤ far)
      (ec_gt (ev_mul (ev_maxT (ns := tk ++ gv) Z.calm T.max (ev_catI (ev_var (pv 3) rfl) (ev_var (pv 4) rfl) (ne_of_len gt1) (small (m := 8) (by omega))) (ne_of_len (by rw [List.length_append]; omega))) (ev_var (pv 5) rfl) (mulR ?mu4)) (ev_var (pv 2) rfl)).t (fun hc => ?_) (fun hc => ?_) ?_
    · omega
    · refine blk_set Z (n := 5) (by rfl) (Or.inr (by rfl)) (Or.inl rfl) (show 5 < 9 by decide) ev_int ?_
      refine blk_nil ⟨1, rfl, by omega, by omega, fun x hx => ?_⟩
      rcases List.mem_append.mp hx with h | h
      · have := (gtk _ h).2; omega
      · have := (ggv _ h).2; omega
    · refine blk_nil ⟨y0, rfl, by0.1, by0.2, fun x hx => ?_⟩
      rw [decide_eq_false_iff_not] at hc
      have h1 : x ≤ gMax (tk ++ gv) := gMax_le hx
      have h2 : x * y0 ≤ gMax (tk ++ gv) * y0 := Int.mul_le_mul_of_nonneg_right h1 (by omega)
      omega
    rintro r ⟨y, rfl, y1, y3, hy⟩
    refine blk_setLc Z (n := 3) (by rfl) (by rfl) (show 3 < 9 by decide) (lc_map tk PyData.int (fun x => .int (x * y)) (fun x => [.d false (dH (tk, gv)), .d false (lInts ps), .d false (.int far), .d false (tInts tk), .d false (tInts gv), .d true (.int y), .d false (.int x), .u, .u]) [("take", 6)] (is := [6]) (src_tup (ev_var (pv 3) rfl)) (blkOk_by (N := ["house", "picks", "far", "takes", "gives", "by", "take", "give", "at"]) (sc := defScope (topS 43)) (by decide +kernel)) (small gt4) (by decide) (fun x hx s H A cl fp => (tgt_name sc__law_near.nd (by rfl) (Or.inl (by rfl)) (show 6 < 9 by decide) (Or.inr (by rfl)))) (fun x hx s H A cl fp => (ev_mul (ev_var (pv 6) rfl) (ev_var (pv 5) rfl) (mulR (by omega))))) (sw_true rfl rfl rfl (by decide +kernel)) ?_
    refine blk_setLc Z (n := 4) (by rfl) (by rfl) (show 4 < 9 by decide) (lc_map gv PyData.int (fun x => .int (x * y)) (fun x => [.d false (dH (tk, gv)), .d false (lInts ps), .d false (.int far), .o true (tk.map fun x => .int (x * y)), .d false (tInts gv), .d true (.int y), .u, .d false (.int x), .u]) [("give", 7)] (is := [7]) (src_tup (ev_var (pv 4) rfl)) (blkOk_by (N := ["house", "picks", "far", "takes", "gives", "by", "take", "give", "at"]) (sc := defScope (topS 43)) (by decide +kernel)) (small gg4) (by decide) (fun x hx s H A cl fp => (tgt_name sc__law_near.nd (by rfl) (Or.inl (by rfl)) (show 7 < 9 by decide) (Or.inr (by rfl)))) (fun x hx s H A cl fp => (ev_mul (ev_var (pv 7) rfl) (ev_var (pv 5) rfl) (mulR (by omega))))) (sw_true rfl rfl rfl (by decide +kernel)) ?_
    have eT : tk.map (fun x => PyData.int (x * y)) = (tk.map (· * y)).map .int := by rw [List.map_map]; rfl
    have eG : gv.map (fun x => PyData.int (x * y)) = (gv.map (· * y)).map .int := by rw [List.map_map]; rfl
    show Blk _ [.d false (dH (tk, gv)), .d false (lInts ps), .d false (.int far), .o true (tk.map fun x => .int (x * y)), .o true (gv.map fun x => .int (x * y)), .d true (.int y), .u, .u, .u] _ _
    rw [eT, eG]
    have gT := near_mul (xs := tk) (y := y) (far := far) (fun x hx => ⟨(gtk x hx).1, hy x (List.mem_append.mpr (.inl hx))⟩) y1
    have gG := near_mul0 (xs := gv) (y := y) (far := far) (fun x hx => ⟨(ggv x hx).1, hy x (List.mem_append.mpr (.inr hx))⟩) y1
    have gP : ∃ x ∈ gv.map (· * y), 0 < x := ⟨pz * y, List.mem_map.mpr ⟨pz, pzm, rfl⟩, Int.mul_pos pz0 (by omega)⟩
    have lT : (tk.map (· * y)).length = tk.length := by simp
    have lG : (gv.map (· * y)).length = gv.length := by simp
    generalize tk.map (· * y) = tk1 at gT lT
    generalize gv.map (· * y) = gv1 at gG gP lG
    have i1 : 0 ≤ u8 % (tk1.length : Int) ∧ u8 % (tk1.length : Int) < tk1.length := ⟨Int.emod_nonneg _ (by omega), Int.emod_lt_of_pos _ (by omega)⟩
    have i2 : 0 ≤ u8 % (gv1.length : Int) ∧ u8 % (gv1.length : Int) < gv1.length := ⟨Int.emod_nonneg _ (by omega), Int.emod_lt_of_pos _ (by omega)⟩
    refine blk_ifJ (fun r => ∃ (tk2 : List Int) (x : SV), r = [.d false (dH (tk, gv)), .d false (lInts ps), .d false (.int far), .o true (tk2.map .int), .o true (gv1.map .int), .d true (.int y), .u, .u, x] ∧ tk2.length = tk.length ∧ ∀ x ∈ tk2, 1 ≤ x ∧ x ≤ far)
      (ec_eqI (ev_mod (ev_fdiv (ev_ixL (ev_var (pv 1) rfl).bx.bw ev_int p9) ev_int (by decide) (pyS (by decide))) ev_int (by decide)) ev_int).t (fun hc => ?_) (fun hc => ?_) ?_
    · refine blk_set Z (n := 8) (by rfl) (Or.inl (by rfl)) (Or.inl rfl) (show 8 < 9 by decide) (ev_mod (ev_ixL (ev_var (pv 1) rfl).bx.bw ev_int p8) (ev_lenL T.len (bx_var (pv 3) rfl).bw) (by rw [List.length_map]; omega)) ?_
      rw [List.length_map]
      refine blk_setIx (n := 3) (pv 3) rfl (ev_var (pv 8) rfl) (ev_min2 Z.calm T.min (ev_var (pv 2) rfl) (ev_add (ev_add (ev_ixL (bx_var (pv 3) rfl).bw (ev_var (pv 8) rfl) (atI_map' 0 i1.1 i1.2)) (ev_mod (ev_fdiv (ev_ixL (ev_var (pv 1) rfl).bx.bw ev_int p9) ev_int (by decide) (pyS (by decide))) ev_int (by decide))) ev_int)) (ixN_in i1.1 (by rw [List.length_map]; exact i1.2)) ?_
      refine blk_nil ⟨tk1.set (u8 % (tk1.length : Int)).toNat (min far (tk1.getD (u8 % (tk1.length : Int)).toNat 0 + u9 / 12 % 2 + 1)), _, by rw [← map_set_int]; rfl, by simp [lT], fun x hx => ?_⟩
      rcases mem_set_or hx with rfl | hx
      · have := (gT _ (mem_getD (xs := tk1) (k := (u8 % (tk1.length : Int)).toNat) (by omega) 0)).1
        have : 0 ≤ u9 / 12 % 2 := Int.emod_nonneg _ (by decide)
        omega
      · exact gT x hx
    · exact blk_nil ⟨tk1, _, rfl, lT, gT⟩
    rintro r ⟨tk2, xx, rfl, l2, gT2⟩
    refine blk_ifJ (fun r => ∃ (gv2 : List Int) (x : SV), r = [.d false (dH (tk, gv)), .d false (lInts ps), .d false (.int far), .o true (tk2.map .int), .o true (gv2.map .int), .d true (.int y), .u, .u, x] ∧ gv2.length = gv.length ∧ (∀ x ∈ gv2, 0 ≤ x ∧ x ≤ far) ∧ ∃ x ∈ gv2, 0 < x)
      (ec_eqI (ev_mod (ev_fdiv (ev_ixL (ev_var (pv 1) rfl).bx.bw ev_int p9) ev_int (by decide) (pyS (by decide))) ev_int (by decide)) ev_int).t (fun hc => ?_) (fun hc => ?_) ?_
    · refine blk_set Z (n := 8) (by rfl) (Or.inl (by rfl)) (Or.inl rfl) (show 8 < 9 by decide) (ev_mod (ev_ixL (ev_var (pv 1) rfl).bx.bw ev_int p8) (ev_lenL T.len (bx_var (pv 4) rfl).bw) (by rw [List.length_map]; omega)) ?_
      rw [List.length_map]
      refine blk_setIx (n := 4) (pv 4) rfl (ev_var (pv 8) rfl) (ev_min2 Z.calm T.min (ev_var (pv 2) rfl) (ev_add (ev_ixL (bx_var (pv 4) rfl).bw (ev_var (pv 8) rfl) (atI_map' 0 i2.1 i2.2)) ev_int)) (ixN_in i2.1 (by rw [List.length_map]; exact i2.2)) ?_
      have hv : 0 < min far (gv1.getD (u8 % (gv1.length : Int)).toNat 0 + 1) ∧ min far (gv1.getD (u8 % (gv1.length : Int)).toNat 0 + 1) ≤ far := by
        have := (gG _ (mem_getD (xs := gv1) (k := (u8 % (gv1.length : Int)).toNat) (by omega) 0)).1
        omega
      refine blk_nil ⟨gv1.set (u8 % (gv1.length : Int)).toNat (min far (gv1.getD (u8 % (gv1.length : Int)).toNat 0 + 1)), _, by rw [← map_set_int]; rfl, by simp [lG], fun x hx => ?_, _, List.mem_set (by omega) _, hv.1⟩
      rcases mem_set_or hx with rfl | hx
      · omega
      · exact gG x hx
    · exact blk_nil ⟨gv1, _, rfl, lG, gG, gP⟩
    rintro r ⟨gv2, xy, rfl, l3, gG2, gP2⟩
    refine blk_ret (ev_tup (evs_cons (ev_tupL T.tuple (bx_var (pv 3) rfl).bw) (evs_cons (ev_tupL T.tuple (bx_var (pv 4) rfl).bw) evs_nil)) (show 2 ≤ sizeLine by decide)) ?_
    exact ⟨(tk2, gv2), rfl, ⟨by show 1 ≤ tk2.length; omega, by show tk2.length ≤ 4; omega, by show 1 ≤ gv2.length; omega, by show gv2.length ≤ 4; omega, gT2, gG2, gP2⟩, l2, l3⟩
end
end Rk
namespace Rk
open PySem PySem.Spec PyProof.Rows L2
section
variable {P : Program} {w : World} {K : PySem.W.Frag} {mg : Str → Option Value} {base : Heap}
structure GoodB (far : Int) (most : Nat) (b : List House) : Prop where
  ne : b ≠ []
  le : b.length ≤ most
  hs : ∃ m n : Nat, 1 ≤ m ∧ m ≤ 4 ∧ 1 ≤ n ∧ n ≤ 4 ∧ ∀ h ∈ b, GoodH far h ∧ h.1.length = m ∧ h.2.length = n
def S__law_a_book : Spec := fun As R Xs => ∃ (ns : List Int) (at_ : Int) (most : Nat) (far : Int), As = [.s ns, .d false (.int at_), .d false (.int (most : Int)), .d false (.int far)] ∧ 0 ≤ at_ ∧ 1 ≤ most ∧ most ≤ 16 ∧ 1 ≤ far ∧ far ≤ 1000000000 ∧
  R = fun D => ∃ b, D = dB b ∧ GoodB far most b
theorem sc__law_a_book : FnScope ["script", "at", "most", "far", "heads", "kinds", "many", "size", "book", "k", "picks", "takes", "some", "gives", "house", "pick"] ["script", "at", "most", "far"] (defScope (topS 44)) := ⟨rfl, rfl, rfl, by decide +kernel, rfl, by decide +kernel, by decide +kernel⟩
theorem cut0 {xs : List Int} {n : Nat} (h : n ≤ xs.length) : cutD (xs.map PyData.int) none (some (n : Int)) = (xs.take n).map .int := by
  unfold cutD
  rw [HT.sIx_none, HT.sIx_nat, List.length_map, List.drop_zero, List.map_take]
  congr 1; omega
theorem cutI {xs : List Int} {n m : Nat} (h : m ≤ xs.length) (hn : n ≤ m) : cutD (xs.map PyData.int) (some (n : Int)) (some (m : Int)) = ((xs.drop n).take (m - n)).map .int := by
  unfold cutD
  rw [HT.sIx_nat, HT.sIx_nat, List.length_map, List.map_take, List.map_drop]
  have e1 : min n xs.length = n := by omega
  have e2 : min m xs.length = m := by omega
  rw [e1, e2]
theorem map_int {xs : List Int} {f : Int → Int} : xs.map (fun x => PyData.int (f x)) = (xs.map f).map .int := by rw [List.map_map]; rfl
theorem one_mod {x y : Int} (h : 0 < y) : 1 ≤ 1 + x % y ∧ 1 + x % y ≤ y := by
  have h1 := Int.emod_nonneg x (show y ≠ 0 by omega)
  have h2 := Int.emod_lt_of_pos x h
  omega
theorem ok__law_a_book (T : Txt K mg) : Prom P w K mg base 2 "_law_a_book" S__law_a_book := by
  refine prom_mk T.d__law_a_book sc__law_a_book (fun _ _ _ _ _ _ us hl => match us, hl with | [_, _, _, _], _ => rfl) (fun As R Xs h => ?_) fun f cdv A outer s H E As R Xs h Z rz => ?_
  · obtain ⟨_, _, _, _, rfl, _⟩ := h; rfl
  · obtain ⟨ns, at_, most, far, rfl, h0, hm1, hm16, hf1, hf9, rfl⟩ := h
    show Blk _ [.s ns, .d false (.int at_), .d false (.int (most : Int)), .d false (.int far), .u, .u, .u, .u, .u, .u, .u, .u, .u, .u, .u, .u] _ _
    refine blk_set Z (n := 4) (by rfl) (Or.inl (by rfl)) (Or.inl rfl) (show 4 < 16 by decide) (ev_call (ok__law_draws T) (Z.hr.mono (by decide)) (args_d (ev_call (ok__law_cell_at T) (Z.hr.mono (by decide)) (args_s (pv 0) rfl (args_d (ev_var (pv 1) rfl) args_nil)) ⟨ns, at_, rfl, h0, rfl⟩) (args_d ev_int (args_d ev_int args_nil))) ⟨cellAt ns at_, 8, 1000, rfl, by decide, by decide, by decide, rfl⟩) ?_
    have hl := draws_len (cellAt ns at_) 1000 (by decide) 8
    have hd := draws_mem (cellAt ns at_) 1000 (by decide) 8
    generalize draws (cellAt ns at_) 8 1000 = hs at hl hd
    have hx : ∀ k : Nat, k < 8 → atI (hs.map PyData.int) (k : Int) = some (.int (hs.getD k 0)) := fun k hk => atI_map' 0 (by omega) (by omega)
    have hb : ∀ k : Nat, k < 8 → 0 ≤ hs.getD k 0 ∧ hs.getD k 0 < 1000 := fun k hk => hd _ (mem_getD (by omega) 0)
    have b0 := hb 0 (by decide); have b1 := hb 1 (by decide); have b2 := hb 2 (by decide); have b3 := hb 3 (by decide); have b4 := hb 4 (by decide); have b5 := hb 5 (by decide); have b7 := hb 7 (by decide)
    have x0 := hx 0 (by decide); have x1 := hx 1 (by decide); have x2 := hx 2 (by decide); have x3 := hx 3 (by decide); have x4 := hx 4 (by decide); have x5 := hx 5 (by decide); have x7 := hx 7 (by decide)
    generalize hs.getD 0 0 = v0 at b0 x0; generalize hs.getD 1 0 = v1 at b1 x1; generalize hs.getD 2 0 = v2 at b2 x2; generalize hs.getD 3 0 = v3 at b3 x3; generalize hs.getD 4 0 = v4 at b4 x4; generalize hs.getD 5 0 = v5 at b5 x5; generalize hs.getD 7 0 = v7 at b7 x7
    have e2 : 0 ≤ v2 % 2 ∧ v2 % 2 < 2 := by omega
    have c2 : 1 ≤ ([4, 2] : List Int).getD (v2 % 2).toNat 0 ∧ ([4, 2] : List Int).getD (v2 % 2).toNat 0 ≤ 4 := by
      have := mem_getD (xs := ([4, 2] : List Int)) (k := (v2 % 2).toNat) (by simp; omega) 0
      simp only [List.mem_cons, List.not_mem_nil, or_false] at this
      omega
    have i2 : atI ([4, 2].map PyData.int) (v2 % 2) = some (.int (([4, 2] : List Int).getD (v2 % 2).toNat 0)) := atI_map' 0 e2.1 e2.2
    generalize ([4, 2] : List Int).getD (v2 % 2).toNat 0 = w2 at c2 i2
    refine blk_setO Z (n := 5) (by rfl) (Or.inl (by rfl)) (Or.inl rfl) (show 5 < 16 by decide) (evo_lst (evs_cons (ev_add ev_int (ev_mod (ev_ixL (ev_var (pv 4) rfl).bx.bw ev_int x0) (ev_ixL (evo_lst (evs_cons ev_int (evs_cons ev_int evs_nil)) (show 2 ≤ sizeLine by decide)).bx.bw (ev_mod (ev_ixL (ev_var (pv 4) rfl).bx.bw ev_int x2) ev_int (by decide)) i2) (by omega))) (evs_cons (ev_add ev_int (ev_mod (ev_ixL (ev_var (pv 4) rfl).bx.bw ev_int x1) (ev_ixL (evo_lst (evs_cons ev_int (evs_cons ev_int evs_nil)) (show 2 ≤ sizeLine by decide)).bx.bw (ev_mod (ev_ixL (ev_var (pv 4) rfl).bx.bw ev_int x2) ev_int (by decide)) i2) (by omega))) evs_nil)) (show 2 ≤ sizeLine by decide)) ?_
    have k0 := one_mod (x := v0) (y := w2) (by omega)
    have k1 := one_mod (x := v1) (y := w2) (by omega)
    obtain ⟨m, em⟩ : ∃ m : Nat, 1 + v0 % w2 = (m : Int) := ⟨(1 + v0 % w2).toNat, by omega⟩
    obtain ⟨n, en⟩ : ∃ n : Nat, 1 + v1 % w2 = (n : Int) := ⟨(1 + v1 % w2).toNat, by omega⟩
    rw [em, en]
    rw [em] at k0; rw [en] at k1
    have hm4 : 1 ≤ m ∧ m ≤ 4 := by omega
    have hn4 : 1 ≤ n ∧ n ≤ 4 := by omega
    have e4 : 0 ≤ v4 % 3 / 2 ∧ v4 % 3 / 2 < 2 := by omega
    have c4 : 1 ≤ ([(most : Int), min most 4] : List Int).getD (v4 % 3 / 2).toNat 0 ∧ ([(most : Int), min most 4] : List Int).getD (v4 % 3 / 2).toNat 0 ≤ most := by
      have := mem_getD (xs := ([(most : Int), min most 4] : List Int)) (k := (v4 % 3 / 2).toNat) (by simp; omega) 0
      simp only [List.mem_cons, List.not_mem_nil, or_false] at this
      omega
    have i4 : atI ([(most : Int), min most 4].map PyData.int) (v4 % 3 / 2) = some (.int (([(most : Int), min most 4] : List Int).getD (v4 % 3 / 2).toNat 0)) := atI_map' 0 e4.1 e4.2
    generalize ([(most : Int), min most 4] : List Int).getD (v4 % 3 / 2).toNat 0 = w4 at c4 i4
    refine blk_set Z (n := 6) (by rfl) (Or.inl (by rfl)) (Or.inl rfl) (show 6 < 16 by decide) (ev_add ev_int (ev_mod (ev_ixL (ev_var (pv 4) rfl).bx.bw ev_int x3) (ev_ixL (evo_lst (evs_cons (ev_var (pv 2) rfl) (evs_cons (ev_min2 Z.calm T.min (ev_var (pv 2) rfl) ev_int) evs_nil)) (show 2 ≤ sizeLine by decide)).bx.bw (ev_fdiv (ev_mod (ev_ixL (ev_var (pv 4) rfl).bx.bw ev_int x4) ev_int (by decide)) ev_int (by decide) (pyS (by decide))) i4) (by omega))) ?_
    have km := one_mod (x := v3) (y := w4) (by omega)
    obtain ⟨many, emy⟩ : ∃ many : Nat, 1 + v3 % w4 = (many : Int) := ⟨(1 + v3 % w4).toNat, by omega⟩
    rw [emy]
    rw [emy] at km
    have hmy : 1 ≤ many ∧ many ≤ most := by omega
    have e5 : 0 ≤ v5 % 5 ∧ v5 % 5 < 5 := by omega
    have c5 : 1 ≤ ([4, 9, 50, 1000, 1000000000] : List Int).getD (v5 % 5).toNat 0 := by
      have := mem_getD (xs := ([4, 9, 50, 1000, 1000000000] : List Int)) (k := (v5 % 5).toNat) (by simp; omega) 0
      simp only [List.mem_cons, List.not_mem_nil, or_false] at this
      omega
    have i5 : atI ([4, 9, 50, 1000, 1000000000].map PyData.int) (v5 % 5) = some (.int (([4, 9, 50, 1000, 1000000000] : List Int).getD (v5 % 5).toNat 0)) := atI_map' 0 e5.1 e5.2
    generalize ([4, 9, 50, 1000, 1000000000] : List Int).getD (v5 % 5).toNat 0 = w5 at c5 i5
    refine blk_set Z (n := 7) (by rfl) (Or.inr (by rfl)) (Or.inl rfl) (show 7 < 16 by decide) (ev_min2 Z.calm T.min (ev_var (pv 3) rfl) (ev_ixL (evo_lst (evs_cons ev_int (evs_cons ev_int (evs_cons ev_int (evs_cons ev_int (evs_cons (ev_powC 1000000000 ev_int ev_int ⟨by decide, by decide, by decide⟩ (by decide)) evs_nil))))) (show 5 ≤ sizeLine by decide)).bx.bw (ev_mod (ev_ixL (ev_var (pv 4) rfl).bx.bw ev_int x5) ev_int (by decide)) i5)) ?_
    obtain ⟨size, esz, hs1, hsf⟩ : ∃ size : Int, min far w5 = size ∧ 1 ≤ size ∧ size ≤ far := ⟨_, rfl, by omega, by omega⟩
    rw [esz]
    refine blk_setO Z (n := 8) (by rfl) (Or.inl (by rfl)) (Or.inl rfl) (show 8 < 16 by decide) (evo_lst evs_nil (show 0 ≤ sizeLine by decide)) ?_
    refine blk_for Z (is := [9]) (b := true) (src_range1 T.range (ev_var (pv 6) rfl) (by omega) (by omega)) (fun j r => ∃ (b : List House) (y0 y1 y2 y3 y4 y5 : SV), r = [.s ns, .d false (.int at_), .d false (.int (most : Int)), .d false (.int far), .d true (lInts hs), .o true [.int (m : Int), .int (n : Int)], .d true (.int (many : Int)), .d true (.int size), .o true (b.map dH), y0, y1, y2, y3, y4, y5, .u] ∧ b.length = j ∧ ∀ h ∈ b, GoodH far h ∧ h.1.length = m ∧ h.2.length = n) ⟨[], _, _, _, _, _, _, rfl, rfl, fun h z => (by cases z)⟩ (fun j D r hD hI => ?_) (fun r hI => ?_)
    · obtain ⟨b, y0, y1, y2, y3, y4, y5, rfl, lb, hb⟩ := hI
      have hj : j < many := by
        have := (List.getElem?_eq_some_iff.mp hD).1
        simpa [rangeD] using this
      obtain rfl : D = .int (0 + (j : Int)) := by
        unfold rangeD at hD
        rw [List.getElem?_map, List.getElem?_range (by omega)] at hD
        exact (Option.some.inj hD).symm
      rw [Int.zero_add]
      refine ⟨_, (tgt_name Z.nd (by rfl) (Or.inl (by rfl)) (show 9 < 16 by decide) (Or.inl rfl)), ?_⟩
      refine blk_set Z (n := 10) (by rfl) (Or.inl (by rfl)) (Or.inl rfl) (show 10 < 16 by decide) (ev_call (ok__law_draws T) (Z.hr.mono (by decide)) (args_d (ev_add (ev_call (ok__law_cell_at T) (Z.hr.mono (by decide)) (args_s (pv 0) rfl (args_d (ev_add (ev_var (pv 1) rfl) ev_int) args_nil)) ⟨ns, at_ + 1, rfl, by omega, rfl⟩) (ev_mul (ev_var (pv 9) rfl) (ev_add (ev_ixL (ev_var (pv 4) rfl).bx.bw ev_int x7) ev_int) (mulL (by omega)))) (args_d ev_int (args_d (ev_powC 1000000000 ev_int ev_int ⟨by decide, by decide, by decide⟩ (by decide)) args_nil))) ⟨_, 12, 1000000000, rfl, by decide, by decide, by decide, rfl⟩) ?_
      have pl := draws_len (cellAt ns (at_ + 1) + (j : Int) * (v7 + 1)) (1000000000) (by decide) 12
      have pd := draws_mem (cellAt ns (at_ + 1) + (j : Int) * (v7 + 1)) (1000000000) (by decide) 12
      generalize draws (cellAt ns (at_ + 1) + (j : Int) * (v7 + 1)) 12 (1000000000) = ps at pl pd
      have p8 : atI (ps.map PyData.int) 8 = some (.int (ps.getD 8 0)) := atI_map' 0 (by omega) (by omega)
      have p9 : atI (ps.map PyData.int) 9 = some (.int (ps.getD 9 0)) := atI_map' 0 (by omega) (by omega)
      have p10 : atI (ps.map PyData.int) 10 = some (.int (ps.getD 10 0)) := atI_map' 0 (by omega) (by omega)
      have p11 : atI (ps.map PyData.int) 11 = some (.int (ps.getD 11 0)) := atI_map' 0 (by omega) (by omega)
      refine blk_set Z (n := 11) (by rfl) (Or.inl (by rfl)) (Or.inl rfl) (show 11 < 16 by decide) (ev_tupL T.tuple (evo_lc Z (lc_map (ps.take m) PyData.int (fun x => .int (1 + x % size)) (fun x => [.s ns, .d false (.int at_), .d false (.int (most : Int)), .d false (.int far), .d true (lInts hs), .o true [.int (m : Int), .int (n : Int)], .d true (.int (many : Int)), .d true (.int size), .o true (b.map dH), .d true (.int (j : Int)), .d true (lInts ps), y2, y3, y4, y5, .d true (.int x)]) [("pick", 15)] (is := [15]) (bi := true) (by rw [← cut0 (by omega)]; exact src_list (evo_slL (ev_var (pv 10) rfl).bx.bw eo_none (eo_some (ev_ixL (bx_var (pv 5) rfl).bw ev_int rfl))).ev) (blkOk_by (N := ["script", "at", "most", "far", "heads", "kinds", "many", "size", "book", "k", "picks", "takes", "some", "gives", "house", "pick"]) (sc := defScope (topS 44)) (by decide +kernel)) (small (m := 4) (by rw [List.length_take]; omega)) (by decide) (fun x hx s H A cl fp => (tgt_name sc__law_a_book.nd (by rfl) (Or.inl (by rfl)) (show 15 < 16 by decide) (Or.inr (by rfl)))) (fun x hx s H A cl fp => (ev_add ev_int (ev_mod (ev_var (pv 15) rfl) (ev_var (pv 7) rfl) (by omega)))))).bx.bw) ?_
      rw [map_int (f := fun x => 1 + x % size)]
      have gT : ((ps.take m).map fun x => 1 + x % size).length = m ∧ ∀ x ∈ (ps.take m).map (fun x => 1 + x % size), 1 ≤ x ∧ x ≤ far := ⟨by simp; omega, fun x hx => by
        obtain ⟨z, _, rfl⟩ := List.mem_map.mp hx
        have := one_mod (x := z) (y := size) (by omega)
        omega⟩
      generalize (ps.take m).map (fun x => 1 + x % size) = tk at gT
      refine blk_setO Z (n := 12) (by rfl) (Or.inl (by rfl)) (Or.inl rfl) (show 12 < 16 by decide) (evo_slL (ev_var (pv 10) rfl).bx.bw (eo_some ev_int) (eo_some (ev_add ev_int (ev_ixL (bx_var (pv 5) rfl).bw ev_int rfl)))) ?_
      have ecut : cutD (ps.map PyData.int) (some 4) (some (4 + (n : Int))) = ((ps.drop 4).take n).map .int := by
        have := cutI (xs := ps) (n := 4) (m := 4 + n) (by omega) (by omega)
        rw [show ((4 + n : Nat) : Int) = 4 + (n : Int) by omega, show 4 + n - 4 = n by omega] at this
        exact this
      rw [ecut]
      have gS : ((ps.drop 4).take n).length = n := by simp; omega
      generalize (ps.drop 4).take n = sm at gS
      refine blk_setLc Z (n := 13) (by rfl) (by rfl) (show 13 < 16 by decide) (lc_map sm PyData.int (fun x => .int (x % (size + 1) * b2z (decide (0 < x % 7)))) (fun x => [.s ns, .d false (.int at_), .d false (.int (most : Int)), .d false (.int far), .d true (lInts hs), .o true [.int (m : Int), .int (n : Int)], .d true (.int (many : Int)), .d true (.int size), .o true (b.map dH), .d true (.int (j : Int)), .d true (lInts ps), .d true (tInts tk), .o true (sm.map .int), y4, y5, .d true (.int x)]) [("pick", 15)] (is := [15]) (src_bw (bx_var (pv 12) rfl).bw) (blkOk_by (N := ["script", "at", "most", "far", "heads", "kinds", "many", "size", "book", "k", "picks", "takes", "some", "gives", "house", "pick"]) (sc := defScope (topS 44)) (by decide +kernel)) (small (m := 4) (by omega)) (by decide) (fun x hx s H A cl fp => (tgt_name sc__law_a_book.nd (by rfl) (Or.inl (by rfl)) (show 15 < 16 by decide) (Or.inr (by rfl)))) (fun x hx s H A cl fp => (ev_mul (ev_mod (ev_var (pv 15) rfl) (ev_add (ev_var (pv 7) rfl) ev_int) (by omega)) (ev_intB T.int (ec_gt (ev_mod (ev_var (pv 15) rfl) ev_int (by decide)) ev_int).ev) (mulR (by unfold b2z; split <;> decide))))) (sw_true rfl rfl rfl (by decide +kernel)) ?_
      rw [map_int (f := fun x => x % (size + 1) * b2z (decide (0 < x % 7)))]
      have gG : (sm.map fun x => x % (size + 1) * b2z (decide (0 < x % 7))).length = n ∧ ∀ x ∈ sm.map (fun x => x % (size + 1) * b2z (decide (0 < x % 7))), 0 ≤ x ∧ x ≤ far := ⟨by simp [gS], fun x hx => by
        obtain ⟨z, _, rfl⟩ := List.mem_map.mp hx
        have h1 := Int.emod_nonneg z (show size + 1 ≠ 0 by omega)
        have h2 := Int.emod_lt_of_pos z (show 0 < size + 1 by omega)
        unfold b2z
        split
        · omega
        · omega⟩
      generalize sm.map (fun x => x % (size + 1) * b2z (decide (0 < x % 7))) = gv at gG
      refine blk_ifJ (fun r => ∃ gv2 : List Int, r = [.s ns, .d false (.int at_), .d false (.int (most : Int)), .d false (.int far), .d true (lInts hs), .o true [.int (m : Int), .int (n : Int)], .d true (.int (many : Int)), .d true (.int size), .o true (b.map dH), .d true (.int (j : Int)), .d true (lInts ps), .d true (tInts tk), .o true (sm.map .int), .o true (gv2.map .int), y5, .u] ∧ gv2.length = n ∧ (∀ x ∈ gv2, 0 ≤ x ∧ x ≤ far) ∧ ∃ x ∈ gv2, 0 < x)
        (ec_eqI (ev_maxL (ns := gv) Z.calm T.max (bx_var (pv 13) rfl).bw (ne_of_len (by omega))) ev_int).t (fun hc => ?_) (fun hc => ?_) ?_
      · have im : 0 ≤ ps.getD 8 0 % (n : Int) ∧ ps.getD 8 0 % (n : Int) < n := ⟨Int.emod_nonneg _ (by omega), Int.emod_lt_of_pos _ (by omega)⟩
        refine blk_setIx (n := 13) (pv 13) rfl (ev_mod (ev_ixL (ev_var (pv 10) rfl).bx.bw ev_int p8) (ev_ixL (bx_var (pv 5) rfl).bw ev_int rfl) (by omega)) (ev_add ev_int (ev_mod (ev_ixL (ev_var (pv 10) rfl).bx.bw ev_int p9) (ev_var (pv 7) rfl) (by omega))) (ixN_in im.1 (by rw [List.length_map]; omega)) ?_
        have hv := one_mod (x := ps.getD 9 0) (y := size) (by omega)
        refine blk_nil ⟨gv.set (ps.getD 8 0 % (n : Int)).toNat (1 + ps.getD 9 0 % size), by rw [← map_set_int]; rfl, by simp [gG.1], fun x hx => ?_, _, List.mem_set (by omega) _, by omega⟩
        rcases mem_set_or hx with rfl | hx
        · omega
        · exact gG.2 x hx
      · rw [decide_eq_false_iff_not] at hc
        refine blk_nil ⟨gv, rfl, gG.1, gG.2, _, gMax_mem (ne_of_len (by omega)), ?_⟩
        have := gG.2 _ (gMax_mem (ns := gv) (ne_of_len (by omega)))
        omega
      rintro r ⟨gv2, rfl, l2, g2, p2⟩
      refine blk_set Z (n := 14) (by rfl) (Or.inl (by rfl)) (Or.inl rfl) (show 14 < 16 by decide) (ev_tup (evs_cons (ev_var (pv 11) rfl) (evs_cons (ev_tupL T.tuple (bx_var (pv 13) rfl).bw) evs_nil)) (show 2 ≤ sizeLine by decide)) ?_
      have hG0 : GoodH far (tk, gv2) := ⟨by show 1 ≤ tk.length; omega, by show tk.length ≤ 4; omega, by show 1 ≤ gv2.length; omega, by show gv2.length ≤ 4; omega, gT.2, g2, p2⟩
      refine blk_ifJ (fun r => ∃ (h : House) (bb : Bool), r = [.s ns, .d false (.int at_), .d false (.int (most : Int)), .d false (.int far), .d true (lInts hs), .o true [.int (m : Int), .int (n : Int)], .d true (.int (many : Int)), .d true (.int size), .o true (b.map dH), .d true (.int (j : Int)), .d true (lInts ps), .d true (tInts tk), .o true (sm.map .int), .o true (gv2.map .int), .d true (dH h), .u] ∧ GoodH far h ∧ h.1.length = m ∧ h.2.length = n)
        (evw_and (ec_neX Z.u64 (bx_var (pv 8) rfl) (evo_lst evs_nil (show 0 ≤ sizeLine by decide)).bx (shaped_dHs b) (by decide)).t (fun h38 => (evw_and1 (ec_eqI (ev_mod (ev_ixL (ev_var (pv 10) rfl).bx.bw ev_int p10) ev_int (by decide)) ev_int).t))).t (fun hc => ?_) (fun hc => ?_) ?_
      · have hb0 : 0 < b.length := by
          cases b with
          | nil => simp [PyData.eqv, PyData.eqvAll] at hc
          | cons h t => simp
        have im : 0 ≤ ps.getD 11 0 % (b.length : Int) ∧ ps.getD 11 0 % (b.length : Int) < b.length := ⟨Int.emod_nonneg _ (by omega), Int.emod_lt_of_pos _ (by omega)⟩
        have hmem : b.getD (ps.getD 11 0 % (b.length : Int)).toNat ([], []) ∈ b := by
          rw [List.getD, List.getElem?_eq_getElem (by omega)]; exact List.getElem_mem _
        obtain ⟨gg, gl1, gl2⟩ := hb _ hmem
        refine blk_setR Z (n := 14) (by rfl) (Or.inl (by rfl)) (Or.inl rfl) (show 14 < 16 by decide) (evr_call (ok__law_near T) (Z.hr.mono (by decide)) (args_d (ev_ixL (bx_var (pv 8) rfl).bw (ev_mod (ev_ixL (ev_var (pv 10) rfl).bx.bw ev_int p11) (ev_lenL T.len (bx_var (pv 8) rfl).bw) (by rw [List.length_map]; omega)) (by rw [List.length_map]; exact atI_map' ([], []) im.1 im.2)) (args_d (ev_var (pv 10) rfl) (args_d (ev_var (pv 3) rfl) args_nil))) ⟨_, ps, far, rfl, gg, by omega, fun x hx => (pd x hx).1, hf9, rfl⟩) ?_
        rintro D ⟨h', rfl, g', l1', l2'⟩
        exact blk_nil ⟨h', true, rfl, g', l1'.trans gl1, l2'.trans gl2⟩
      · exact blk_nil ⟨(tk, gv2), true, rfl, hG0, gT.1, l2⟩
      rintro r ⟨h, bb, rfl, gh, lh1, lh2⟩
      refine blk_append (n := 8) (pv 8) rfl (ev_var (pv 14) rfl) (small' (m := 17) (by rw [List.length_map]; omega)) ?_ (ps_append (pv 8))
      refine blk_nil ⟨b ++ [h], _, _, _, _, _, _, by rw [List.map_append]; rfl, by simp [lb], fun h2 hm2 => ?_⟩
      rcases List.mem_append.mp hm2 with z | z
      · exact hb h2 z
      · rw [List.mem_singleton.mp z]; exact ⟨gh, lh1, lh2⟩
    · obtain ⟨b, y0, y1, y2, y3, y4, y5, rfl, lb, hb⟩ := hI
      have lb' : b.length = many := by rw [lb]; simp [rangeD]
      refine blk_retO (pv 8) rfl ?_
      exact ⟨b, rfl, by intro e; rw [e] at lb'; simp at lb'; omega, by omega, m, n, hm4.1, hm4.2, hn4.1, hn4.2, hb⟩
end
end Rk
namespace Rk
open PySem PySem.Spec PyProof.Rows L2
section
variable {P : Program} {w : World} {K : PySem.W.Frag} {mg : Str → Option Value} {base : Heap}
def S__law_less : Spec := fun As R Xs => ∃ (x y : Rat) (n m : Nat), As = [.d false (dF x), .d false (dF y)] ∧ Wd n x ∧ Wd m y ∧ 0 < n ∧ 0 < m ∧ n + m ≤ 8000 ∧ R = (· = .bool (decide (x < y)))
theorem sc__law_less : FnScope ["one", "other"] ["one", "other"] (defScope (topS 49)) := ⟨rfl, rfl, rfl, by decide +kernel, rfl, by decide +kernel, by decide +kernel⟩
theorem ok__law_less (T : Txt K mg) : Prom P w K mg base 1 "_law_less" S__law_less := by
  refine prom_mk T.d__law_less sc__law_less (fun _ _ _ _ _ _ us hl => match us, hl with | [_, _], _ => rfl) (fun As R Xs h => ?_) fun f cdv A outer s H E As R Xs h Z rz => ?_
  · obtain ⟨_, _, _, _, rfl, _⟩ := h; rfl
  · obtain ⟨x, y, n, m, rfl, h1, h2, hn, hm, hnm, rfl⟩ := h
    have px := x.den_pos
    have py := y.den_pos
    show Blk _ [.d false (dF x), .d false (dF y)] _ _
    refine blk_ret (ec_lt (ev_mul (ev_ixT (ev_var (pv 0) rfl) ev_int rfl) (ev_ixT (ev_var (pv 1) rfl) ev_int rfl) (mulW h1.1 (natAbs_ofNat h2.2) (by omega) (by omega) (by omega))) (ev_mul (ev_ixT (ev_var (pv 1) rfl) ev_int rfl) (ev_ixT (ev_var (pv 0) rfl) ev_int rfl) (mulW h2.1 (natAbs_ofNat h1.2) (by omega) (by omega) (by omega)))).ev ?_
    show PyData.bool _ = PyData.bool _
    rw [decide_eq_decide.mpr (Rat.lt_iff x y)]
end
end Rk
namespace Rk
open PySem PySem.Spec PyProof.Rows L2
section
variable {P : Program} {w : World} {K : PySem.W.Frag} {mg : Str → Option Value} {base : Heap}
def S__law_a_between : Spec := fun As R Xs => ∃ (qs : List Rat) (ks : List Nat) (g : Rat), As = [.d false (lQ qs), .d false (.list (natsD ks)), .d false (dF g)] ∧ (∀ k ∈ ks, k < qs.length) ∧ ks.length ≤ 64 ∧ (∀ q ∈ qs, Wd 3900 q) ∧ Wd 3900 g ∧ (∃ k ∈ ks, qs.getD k 0 ≤ g) ∧ (∃ k ∈ ks, g ≤ qs.getD k 0) ∧ R = (· = .bool true)
theorem sc__law_a_between : FnScope ["found", "numbers", "last", "some", "low", "high", "k", "one"] ["found", "numbers", "last"] (defScope (topS 50)) := ⟨rfl, rfl, rfl, by decide +kernel, rfl, by decide +kernel, by decide +kernel⟩
theorem ok__law_a_between (T : Txt K mg) : Prom P w K mg base 2 "_law_a_between" S__law_a_between := by
  refine prom_mk T.d__law_a_between sc__law_a_between (fun _ _ _ _ _ _ us hl => match us, hl with | [_, _, _], _ => rfl) (fun As R Xs h => ?_) fun f cdv A outer s H E As R Xs h Z rz => ?_
  · obtain ⟨_, _, _, rfl, _⟩ := h; rfl
  · obtain ⟨qs, ks, g, rfl, hk, hl, wq, wg, lo, hi, rfl⟩ := h
    show Blk _ [.d false (lQ qs), .d false (.list (natsD ks)), .d false (dF g), .u, .u, .u, .u, .u] _ _
    refine blk_setLc Z (n := 3) (by rfl) (by rfl) (show 3 < 8 by decide) (lc_map ks (fun k => .int ((k : Nat) : Int)) (fun k => dF (qs.getD k 0)) (fun k => [.d false (lQ qs), .d false (.list (natsD ks)), .d false (dF g), .u, .u, .u, .d false (.int ((k : Nat) : Int)), .u]) [("k", 6)] (is := [6]) (src_list (ev_var (pv 1) rfl)) (blkOk_by (N := ["found", "numbers", "last", "some", "low", "high", "k", "one"]) (sc := defScope (topS 50)) (by decide +kernel)) (small (m := 64) hl) (by decide) (fun k hk' s H A cl fp => (tgt_name sc__law_a_between.nd (by rfl) (Or.inl (by rfl)) (show 6 < 8 by decide) (Or.inr (by rfl)))) (fun k hk' s H A cl fp => Ev.flat (b' := true) (ev_ixL (ev_var (pv 0) rfl).bx.bw (ev_var (pv 6) rfl) (atI_mapN (f := dF) (xs := qs) (k := k) 0 (hk k hk'))) rfl) (b := true)) (by rfl) ?_
    obtain ⟨js, ejs⟩ : ∃ js, js = ks.map fun k => qs.getD k 0 := ⟨_, rfl⟩
    have jl : js.length = ks.length := by rw [ejs, List.length_map]
    have wj : ∀ x ∈ js, Wd 3900 x := fun x hx => by
      rw [ejs] at hx
      obtain ⟨k, hk', rfl⟩ := List.mem_map.mp hx
      exact wq _ (getD_in (hk k hk'))
    have lo' : ∃ x ∈ js, x ≤ g := by
      obtain ⟨k, hk', h⟩ := lo
      exact ⟨_, by rw [ejs]; exact List.mem_map.mpr ⟨k, hk', rfl⟩, h⟩
    have hi' : ∃ x ∈ js, g ≤ x := by
      obtain ⟨k, hk', h⟩ := hi
      exact ⟨_, by rw [ejs]; exact List.mem_map.mpr ⟨k, hk', rfl⟩, h⟩
    rw [show ks.map (fun k => dF (qs.getD k 0)) = js.map dF by rw [ejs, List.map_map]; rfl]
    clear ejs lo hi
    show Blk _ [.d false (lQ qs), .d false (.list (natsD ks)), .d false (dF g), .o true (js.map dF), .u, .u, .u, .u] _ _
    refine blk_setLc Z (n := 4) (by rfl) (by rfl) (show 4 < 8 by decide) (lc_mk js dF dF (fun x => !decide (g < x)) (fun x => [.d false (lQ qs), .d false (.list (natsD ks)), .d false (dF g), .o true (js.map dF), .u, .u, .u, .d true (dF x)]) [("one", 7)] (is := [7]) (src_bw (bx_var (pv 3) rfl).bw) (blkOk_by (N := ["found", "numbers", "last", "some", "low", "high", "k", "one"]) (sc := defScope (topS 50)) (by decide +kernel)) (small (m := 64) (by omega)) (by decide) (fun x hx s H A cl fp => (tgt_name sc__law_a_between.nd (by rfl) (Or.inl (by rfl)) (show 7 < 8 by decide) (Or.inr (by rfl)))) (fun x hx s H A cl fp => .one (evt_not (evt_val (ev_call (ok__law_less T) (Z.hr.mono (by decide)) (args_d (ev_var (pv 2) rfl) (args_d (ev_var (pv 7) rfl) args_nil)) ⟨g, x, 3900, 3900, rfl, wg, wj x hx, by decide, by decide, by decide, rfl⟩)))) (fun x hx hc s H A cl fp => ev_var (pv 7) rfl) (b := true)) (by rfl) ?_
    refine blk_setLc Z (n := 5) (by rfl) (by rfl) (show 5 < 8 by decide) (lc_mk js dF dF (fun x => !decide (x < g)) (fun x => [.d false (lQ qs), .d false (.list (natsD ks)), .d false (dF g), .o true (js.map dF), .o true ((js.filter fun x => !decide (g < x)).map dF), .u, .u, .d true (dF x)]) [("one", 7)] (is := [7]) (src_bw (bx_var (pv 3) rfl).bw) (blkOk_by (N := ["found", "numbers", "last", "some", "low", "high", "k", "one"]) (sc := defScope (topS 50)) (by decide +kernel)) (small (m := 64) (by omega)) (by decide) (fun x hx s H A cl fp => (tgt_name sc__law_a_between.nd (by rfl) (Or.inl (by rfl)) (show 7 < 8 by decide) (Or.inr (by rfl)))) (fun x hx s H A cl fp => .one (evt_not (evt_val (ev_call (ok__law_less T) (Z.hr.mono (by decide)) (args_d (ev_var (pv 7) rfl) (args_d (ev_var (pv 2) rfl) args_nil)) ⟨x, g, 3900, 3900, rfl, wj x hx, wg, by decide, by decide, by decide, rfl⟩)))) (fun x hx hc s H A cl fp => ev_var (pv 7) rfl) (b := true)) (by rfl) ?_
    have full : ∀ (f : Rat → Bool), (∃ x ∈ js, f x = true) → PyData.eqv (.list ((js.filter f).map dF)) (.list []) = false := fun f ⟨x, hx, e⟩ => by
      rw [eqv_nil, List.isEmpty_map]
      cases h : js.filter f with
      | nil => exact absurd e (by
          have := List.filter_eq_nil_iff.mp h x hx
          exact this)
      | cons y ys => rfl
    refine blk_ret (ev_and (ec_neX Z.u64 (bx_var (pv 4) rfl) (evo_lst evs_nil (show 0 ≤ sizeLine by decide)).bx (shaped_dFs _) (by decide)).ev (fun _ => ev_one (ec_neX Z.u64 (bx_var (pv 5) rfl) (evo_lst evs_nil (show 0 ≤ sizeLine by decide)).bx (shaped_dFs _) (by decide)).ev)) ?_
    show PyData.bool _ = PyData.bool true
    rw [full _ (by
      obtain ⟨x, hx, h⟩ := lo'
      exact ⟨x, hx, by rw [decide_eq_false (Rat.not_lt.mpr h)]; rfl⟩), full _ (by
      obtain ⟨x, hx, h⟩ := hi'
      exact ⟨x, hx, by rw [decide_eq_false (Rat.not_lt.mpr h)]; rfl⟩)]
    rfl
end
end Rk
namespace Rk
open PySem PySem.Spec PyProof.Rows L2
section
variable {P : Program} {w : World} {K : PySem.W.Frag} {mg : Str → Option Value} {base : Heap}
theorem sc_law : FnScope ["script", "book", "due", "cell", "picks", "numbers", "house", "more", "found", "prices", "told", "alike", "k", "pick"] ["script"] (defScope (topS 51)) := ⟨rfl, rfl, rfl, by decide +kernel, rfl, by decide +kernel, by decide +kernel⟩
theorem GoodB.any {far : Int} {most : Nat} {b : List House} (G0 : GoodB far most b) (hm : most ≤ 16) (hf : far ≤ 1000000000) : GBk b ∧ (∀ o ∈ b, GoodH far o) ∧ b.length ≤ 16 := by
  obtain ⟨m, k, a1, a2, a3, a4, h⟩ := G0.hs
  exact ⟨⟨G0.ne, Nat.le_trans G0.le hm, m, k, a1, a2, a3, a4, fun o ho => ⟨(h o ho).1.mono hf, (h o ho).2⟩⟩, fun o ho => (h o ho).1, Nat.le_trans G0.le hm⟩
theorem ok_law (T : Txt K mg) : LawOk P w K mg 9 := by
  refine law_mk T.d_law sc_law (fun _ _ _ _ _ _ us hl => match us, hl with | [_], _ => rfl) fun base f cdv A outer s H E ns hns Z => ?_
  show Blk _ [.s ns, .u, .u, .u, .u, .u, .u, .u, .u, .u, .u, .u, .u, .u] _ _
  refine blk_setR Z (n := 1) (by rfl) (Or.inr (by rfl)) (Or.inl rfl) (show 1 < 14 by decide) (evr_call (R := fun D => ∃ b, D = dB b ∧ GoodB 10000000 8 b) (ok__law_a_book T) (Z.hr.mono (by decide)) (args_s (pv 0) rfl (args_d ev_int (args_d ev_int (args_d (ev_powC 10000000 ev_int ev_int ⟨by decide, by decide, by decide⟩ (by decide)) args_nil)))) ⟨ns, 0, 8, 10000000, rfl, by decide, by decide, by decide, by decide, by decide, rfl⟩) ?_
  rintro D ⟨b, rfl, Gb⟩
  have hb8 : b.length ≤ 8 := Gb.le
  obtain ⟨G, F, _⟩ := Gb.any (by decide) (by decide)
  clear Gb
  have h0 : 0 < b.length := List.length_pos_iff.mpr G.ne
  have lb : (b.map dH).length = b.length := List.length_map _
  show Blk _ [.s ns, .d true (dB b), .u, .u, .u, .u, .u, .u, .u, .u, .u, .u, .u, .u] _ _
  refine blk_setO Z (n := 2) (by rfl) (Or.inr (by rfl)) (Or.inl rfl) (show 2 < 14 by decide) (evo_lc Z (lc_map (List.range b.length) (fun k => .int ((k : Nat) : Int)) (fun k => dF (shrV b k .any)) (fun k => [.s ns, .d true (dB b), .u, .u, .u, .u, .u, .u, .u, .u, .u, .u, .d true (.int ((k : Nat) : Int)), .u]) [("k", 12)] (is := [12]) (src_rangeN (n := b.length) T.range (ev_to (D' := .int ((b.length : Nat) : Int)) (ev_lenL T.len (ev_var (pv 1) rfl).bx.bw) (by rw [lb])) (by omega)) (blkOk_by (N := ["script", "book", "due", "cell", "picks", "numbers", "house", "more", "found", "prices", "told", "alike", "k", "pick"]) (sc := defScope (topS 51)) (by decide +kernel)) (by rw [List.length_range]; exact small (m := 8) hb8) (by decide) (fun k hk s H A cl fp => (tgt_name sc_law.nd (by rfl) (Or.inl (by rfl)) (show 12 < 14 by decide) (Or.inr (by rfl)))) (fun k hk s H A cl fp => Ev.flat (b' := true) (ev_call (D := dF (shrV (b) (k) .any)) (ok_share T) (Z.hr.mono (by decide)) (args_d (ev_var (pv 1) rfl) (args_d (ev_var (pv 12) rfl) (args_d ev_str args_nil))) ⟨b, k, .any, rfl, G, List.mem_range.mp hk, rfl⟩) rfl) (b := true))) ?_
  refine blk_freeze 2 rfl ?_
  obtain ⟨du, edu⟩ : ∃ du, du = ((List.range b.length).map fun k => shrV b k .any) := ⟨_, rfl⟩
  have ldu : du.length = b.length := by rw [edu, List.length_map, List.length_range]
  have adu : ∀ k, k < b.length → du.getD k 0 = shrV b k .any := fun k hk => by
    rw [edu, getD_mapD (d := 0) (by rw [List.length_range]; exact hk), List.getD, List.getElem?_range hk]; rfl
  have e0 : PyData.list ((List.range b.length).map fun k => dF (shrV b k .any)) = lQ du := by rw [edu]; show _ = PyData.list (List.map dF (List.map _ _)); rw [List.map_map]; rfl
  have e0' : (List.range b.length).map (fun k => dF (shrV b k .any)) = du.map dF := PyData.list.inj e0
  rw [e0']
  show Blk _ [.s ns, .d true (dB b), .d true (lQ du), .u, .u, .u, .u, .u, .u, .u, .u, .u, .u, .u] _ _
  have ecut : ∃ xs : List Int, cutD (ns.map PyData.int) (some 3) (some 6) = xs.map .int ∧ xs.length ≤ 63 := by
    unfold cutD
    rw [← List.map_drop, ← List.map_take]
    exact ⟨_, rfl, by rw [List.length_take, List.length_drop]; omega⟩
  obtain ⟨xs, ecut, hxs⟩ := ecut
  refine blk_for Z (is := [3]) (b := true) (src_list (evo_cat (evo_lst (evs_cons (ev_call (ok__law_cell_at T) (Z.hr.mono (by decide)) (args_s (pv 0) rfl (args_d ev_int args_nil)) ⟨ns, 2, rfl, by decide, rfl⟩) evs_nil) (show 1 ≤ sizeLine by decide)).bx (evo_slL (bw_scr (pv 0) rfl) (eo_some ev_int) (eo_some ev_int)).bx (by rw [ecut, List.length_map]; exact small (m := 64) (by simp only [List.length_cons, List.length_nil]; omega))).ev) (fun i r => ∃ (x3 x4 x5 x6 x7 x8 x9 x10 x11 x12 x13 : SV), r = [.s ns, .d true (dB b), .d true (lQ du), x3, x4, x5, x6, x7, x8, x9, x10, x11, x12, x13]) ⟨_, _, _, _, _, _, _, _, _, _, _, rfl⟩ (fun i D r hD hI => ?_) (fun r hI => blk_ret ev_bl rfl)
  · obtain ⟨x3, x4, x5, x6, x7, x8, x9, x10, x11, x12, x13, rfl⟩ := hI
    have hD2 : ∃ c : Int, D = .int c := by
      rw [ecut] at hD
      rcases List.mem_append.mp (List.mem_of_getElem? hD) with z | z
      · rw [List.mem_singleton] at z; exact ⟨_, z⟩
      · obtain ⟨c, _, z⟩ := List.mem_map.mp z; exact ⟨c, z.symm⟩
    obtain ⟨c, rfl⟩ := hD2
    refine ⟨_, (tgt_name Z.nd (by rfl) (Or.inl (by rfl)) (show 3 < 14 by decide) (Or.inl rfl)), ?_⟩
    refine blk_set Z (n := 4) (by rfl) (Or.inl (by rfl)) (Or.inl rfl) (show 4 < 14 by decide) (ev_call (ok__law_draws T) (Z.hr.mono (by decide)) (args_d (ev_var (pv 3) rfl) (args_d ev_int (args_d ev_int args_nil))) ⟨_, 10, 1000, rfl, by decide, by decide, by decide, rfl⟩) ?_
    have pl := draws_len c 1000 (by decide) 10
    have pn : ∀ x ∈ draws c 10 1000, 0 ≤ x := fun x hx => (draws_mem c 1000 (by decide) 10 x hx).1
    generalize draws c 10 1000 = ps at pl pn ⊢
    have p0 : 0 ≤ ps.getD 0 0 := pn _ (by rw [List.getD, List.getElem?_eq_getElem (show 0 < ps.length by omega)]; exact List.getElem_mem _)
    obtain ⟨e, ee, e1, e6⟩ : ∃ e : Nat, 2 + ps.getD 0 0 % 6 = ((1 + e : Nat) : Int) ∧ 1 ≤ e ∧ e ≤ 6 := ⟨(1 + ps.getD 0 0 % 6).toNat, by omega, by omega, by omega⟩
    have ecp : cutD (ps.map PyData.int) (some 1) (some ((1 + e : Nat) : Int)) = ((ps.drop 1).take e).map PyData.int := cutD_part (i := 1) (k := e)
    obtain ⟨qs, eqs⟩ : ∃ qs : List Int, qs = ((ps.drop 1).take e).map fun p => p % ((b.length : Nat) : Int) := ⟨_, rfl⟩
    have lqs : qs.length = e := by rw [eqs, List.length_map, List.length_take, List.length_drop]; omega
    have bqs : ∀ x ∈ qs, 0 ≤ x ∧ x < ((b.length : Nat) : Int) := fun x hx => by
      rw [eqs] at hx
      obtain ⟨p, _, rfl⟩ := List.mem_map.mp hx
      exact ⟨Int.emod_nonneg _ (by omega), Int.emod_lt_of_pos _ (by omega)⟩
    refine blk_setO Z (n := 5) (by rfl) (Or.inl (by rfl)) (Or.inl rfl) (show 5 < 14 by decide) (evo_sortSet (xs := qs) Z.calm T.sorted T.set (bw_eq (Bx.bw (EvO.bx (evo_lc Z (lc_map ((ps.drop 1).take e) .int (fun p => .int (p % ((b.length : Nat) : Int))) (fun p => [.s ns, .d true (dB b), .d true (lQ du), .d true (.int c), .d true (lInts ps), x5, x6, x7, x8, x9, x10, x11, x12, .d true (.int p)]) [("pick", 13)] (is := [13]) (src_list (EvO.ev (evo_eq (evo_slL (ev_var (pv 4) rfl).bx.bw (eo_some ev_int) (eo_some (ev_to (D' := .int ((1 + e : Nat) : Int)) (ev_add ev_int (ev_mod (ev_ixL (ev_var (pv 4) rfl).bx.bw ev_int (atI_mapN (f := PyData.int) (xs := ps) (k := 0) 0 (by omega))) ev_int (by decide))) (by rw [ee])))) ecp))) (blkOk_by (N := ["script", "book", "due", "cell", "picks", "numbers", "house", "more", "found", "prices", "told", "alike", "k", "pick"]) (sc := defScope (topS 51)) (by decide +kernel)) (by rw [List.length_take, List.length_drop]; exact small (m := 10) (by omega)) (by decide) (fun p hp s H A cl fp => (tgt_name sc_law.nd (by rfl) (Or.inl (by rfl)) (show 13 < 14 by decide) (Or.inr (by rfl)))) (fun p hp s H A cl fp => ev_mod (ev_var (pv 13) rfl) (ev_to (D' := .int ((b.length : Nat) : Int)) (ev_lenL T.len (ev_var (pv 1) rfl).bx.bw) (by rw [lb])) (by omega))) (b := true)))) (by rw [eqs, List.map_map]; rfl)) (by omega)) ?_
    obtain ⟨ks, eks⟩ : ∃ ks, ks = toN (dsI qs) := ⟨_, rfl⟩
    have dsn : ∀ x ∈ dsI qs, 0 ≤ x ∧ x < ((b.length : Nat) : Int) := fun x hx => bqs x (dsI_mem.mp hx)
    have ek : (dsI qs).map PyData.int = natsD ks := by
      rw [eks]
      show _ = List.map _ (List.map Int.toNat _)
      rw [List.map_map]
      exact List.map_congr_left fun x hx => by
        show PyData.int x = PyData.int ((x.toNat : Nat) : Int)
        rw [Int.toNat_of_nonneg (dsn x hx).1]
    have asc := dsI_asc qs
    have lks : ks.length ≤ 6 := by rw [eks, List.length_map]; have := dsI_len qs; omega
    have klt : ∀ k ∈ ks, k < b.length := fun k hk => by
      rw [eks] at hk
      obtain ⟨x, hx, rfl⟩ := List.mem_map.mp hk
      have := dsn x hx
      omega
    have kne : ks ≠ [] := fun z => by
      rw [eks] at z
      have z := List.map_eq_nil_iff.mp z
      have hm : qs.getD 0 0 ∈ dsI qs := dsI_mem.mpr (getD_in (by omega))
      rw [z] at hm
      cases hm
    obtain ⟨k0, kr, ekk⟩ : ∃ k0 kr, ks = k0 :: kr := by
      cases ks with
      | nil => exact absurd rfl kne
      | cons k0 kr => exact ⟨k0, kr, rfl⟩
    have kmin : ∀ k ∈ ks, k0 ≤ k := fun k hk => by
      rw [ekk] at eks
      cases hd : dsI qs with
      | nil => rw [hd] at eks; cases eks
      | cons y ys =>
        rw [hd] at eks asc
        have eks : k0 :: kr = y.toNat :: ys.map Int.toNat := eks
        injection eks with a1 a2
        rw [ekk] at hk
        rcases List.mem_cons.mp hk with q | q
        · omega
        · rw [a2] at q
          obtain ⟨x, hx, rfl⟩ := List.mem_map.mp q
          have := (List.pairwise_cons.mp asc).1 x hx
          omega
    rw [ek]
    clear ek eks dsn asc bqs eqs lqs ecp
    have M : MgOk b ks := ⟨G, F, kne, klt, by omega⟩
    have Gc := M.behind (by omega)
    have G2 := Gc.snoc2 (by omega)
    have gmn : gMin (ksI ks) = ((k0 : Nat) : Int) := (gMin_eq (List.mem_map.mpr ⟨k0, by rw [ekk]; exact List.mem_cons_self, rfl⟩) fun y hy => by
      obtain ⟨k, hk, rfl⟩ := List.mem_map.mp hy
      have := kmin k hk
      omega).symm
    have hk0 : k0 < b.length := klt k0 (by rw [ekk]; exact List.mem_cons_self)
    have amg := mgB_at hk0 gmn kmin
    have ak0 : atI (natsD ks) 0 = some (.int ((k0 : Nat) : Int)) := by rw [ekk]; exact atI_nat (j := 0) rfl
    clear gmn kmin ekk
    refine blk_freeze 5 rfl ?_
    refine blk_set Z (n := 6) (by rfl) (Or.inl (by rfl)) (Or.inl rfl) (show 6 < 14 by decide) (Ev.flat (b' := true) (ev_ixL (D := dH (mgH b ks)) (Bx.bw (Ev.bx (ev_call (ok_merged T) (Z.hr.mono (by decide)) (args_d (ev_var (pv 1) rfl) (args_d (ev_var (pv 5) rfl) args_nil)) ⟨b, ks, rfl, G, kne, klt, by omega, M.big, rfl⟩))) (ev_ixL (ev_var (pv 5) rfl).bx.bw ev_int ak0) (atI_nat (by rw [List.getElem?_map, amg]; rfl))) (flat_dH _)) ?_
    have em : ∀ c : List House, ∀ h : House, c.map dH ++ [dH h] = (c ++ [h]).map dH := fun c h => by rw [List.map_append]; rfl
    refine blk_setO Z (n := 7) (by rfl) (Or.inr (by rfl)) (Or.inl rfl) (show 7 < 14 by decide) (evo_eq (evo_cat (ev_var (pv 1) rfl).bx (EvO.bx (evo_lst (evs_cons (ev_var (pv 6) rfl) evs_nil) (show 1 ≤ sizeLine by decide))) (by rw [lb]; exact small (m := 9) (by simp only [List.length_cons, List.length_nil]; omega))) (em b _)) ?_
    refine blk_freeze 7 rfl ?_
    obtain ⟨mo, emo⟩ : ∃ mo, mo = b ++ [mgH b ks] := ⟨_, rfl⟩
    have lmo : mo.length = b.length + 1 := by rw [emo, List.length_append]; rfl
    have lmd : (mo.map dH).length = b.length + 1 := by rw [List.length_map, lmo]
    have Gm : GBk mo := by rw [emo]; exact Gc
    rw [← emo]
    show Blk _ [.s ns, .d true (dB b), .d true (lQ du), .d true (.int c), .d true (lInts ps), .d true (.list (natsD ks)), .d true (dH (mgH b ks)), .d true (dB mo), x8, x9, x10, x11, x12, x13] _ _
    refine blk_setO Z (n := 8) (by rfl) (Or.inr (by rfl)) (Or.inl rfl) (show 8 < 14 by decide) (evo_lc Z (lc_map (List.range (b.length + 1)) (fun k => .int ((k : Nat) : Int)) (fun k => dF (shrV mo k .any)) (fun k => [.s ns, .d true (dB b), .d true (lQ du), .d true (.int c), .d true (lInts ps), .d true (.list (natsD ks)), .d true (dH (mgH b ks)), .d true (dB mo), x8, x9, x10, x11, .d true (.int ((k : Nat) : Int)), x13]) [("k", 12)] (is := [12]) (src_rangeN (n := b.length + 1) T.range (ev_to (D' := .int ((b.length + 1 : Nat) : Int)) (ev_lenL T.len (ev_var (pv 7) rfl).bx.bw) (by rw [lmd])) (by omega)) (blkOk_by (N := ["script", "book", "due", "cell", "picks", "numbers", "house", "more", "found", "prices", "told", "alike", "k", "pick"]) (sc := defScope (topS 51)) (by decide +kernel)) (by rw [List.length_range]; exact small (m := 9) (by omega)) (by decide) (fun k hk s H A cl fp => (tgt_name sc_law.nd (by rfl) (Or.inl (by rfl)) (show 12 < 14 by decide) (Or.inr (by rfl)))) (fun k hk s H A cl fp => Ev.flat (b' := true) (ev_call (D := dF (shrV (mo) (k) .any)) (ok_share T) (Z.hr.mono (by decide)) (args_d (ev_var (pv 7) rfl) (args_d (ev_var (pv 12) rfl) (args_d ev_str args_nil))) ⟨mo, k, .any, rfl, Gm, by rw [lmo]; exact List.mem_range.mp hk, rfl⟩) rfl) (b := true))) ?_
    refine blk_freeze 8 rfl ?_
    obtain ⟨fo, efo⟩ : ∃ fo, fo = du ++ [shrV mo b.length .any] := ⟨_, rfl⟩
    have lfo : fo.length = b.length + 1 := by rw [efo, List.length_append, ldu]; rfl
    have efd : (List.range (b.length + 1)).map (fun k => dF (shrV mo k .any)) = fo.map dF := by
      rw [List.range_succ, List.map_append, efo, List.map_append, ← e0']
      congr 1
      exact List.map_congr_left fun k hk => by rw [emo, M.shr (by omega) (List.mem_range.mp hk)]
    rw [efd]
    clear efd
    show Blk _ [.s ns, .d true (dB b), .d true (lQ du), .d true (.int c), .d true (lInts ps), .d true (.list (natsD ks)), .d true (dH (mgH b ks)), .d true (dB mo), .d true (lQ fo), x9, x10, x11, x12, x13] _ _
    have cfo : cutD (fo.map dF) none (some (-1)) = du.map dF := by
      unfold cutD
      have l1 : (fo.map dF).length = b.length + 1 := by rw [List.length_map, lfo]
      have e1 : HT.sIx (fo.map dF).length (fo.map dF).length (some (-1)) = b.length := by
        rw [l1]
        unfold HT.sIx
        simp
        omega
      rw [HT.sIx_none, e1, List.drop_zero, Nat.sub_zero, efo, List.map_append, List.take_append_of_le_length (by rw [List.length_map, ldu]; exact Nat.le_refl _), List.take_of_length_le (by rw [List.length_map, ldu]; exact Nat.le_refl _)]
    have afo : atI (fo.map dF) (-1) = some (dF (shrV mo b.length .any)) := by
      have h := atI_last (f := dF) (xs := fo) (n := b.length) 0 lfo
      rw [h, efo, List.getD, List.getElem?_append_right (by omega), ldu, Nat.sub_self]; rfl
    have tw : shrV (mo ++ [mgH b ks]) b.length .any = shrV mo b.length .any := by rw [emo]; exact shr_twice Gc (by omega)
    have self0 : ∀ ds : List Rat, PyData.eqv (.list (ds.map dF)) (.list (ds.map dF)) = true := fun ds => (ni_lQ (qs := ds)).self
    refine blk_ifR (evw_or (ec_neX Z.u64 (EvO.bx (evo_eq (evo_slL (ev_var (pv 8) rfl).bx.bw eo_none (eo_some (ev_neg ev_int))) cfo)) (ev_var (pv 2) rfl).bx (shaped_dFs _) (shaped_dFs _)).t (fun _ => evw_or1 (ec_neD Z.u64 (ev_call (D := dF (shrV (mo ++ [mgH b ks]) (b.length) .any)) (ok_share T) (Z.hr.mono (by decide)) (args_x (EvO.bx (evo_eq (evo_cat (ev_var (pv 7) rfl).bx (EvO.bx (evo_lst (evs_cons (ev_var (pv 6) rfl) evs_nil) (show 1 ≤ sizeLine by decide))) (by rw [lmd]; exact small (m := 10) (by simp only [List.length_cons, List.length_nil]; omega))) (em mo _))) (args_d (ev_to (D' := .int ((b.length : Nat) : Int)) (ev_lenL T.len (ev_var (pv 1) rfl).bx.bw) (by rw [lb])) (args_d ev_str args_nil))) ⟨mo ++ [mgH b ks], b.length, .any, rfl, by rw [emo]; exact G2, by rw [List.length_append, lmo]; simp; omega, rfl⟩) (ev_ixL (ev_var (pv 8) rfl).bx.bw (ev_neg ev_int) afo) (shaped_dF _) (shaped_dF _)).t)).t (fun hd => ?_) (fun _ => ?_)
    · rw [self0, tw, (ni_dF).self] at hd
      cases hd
    obtain ⟨kb, hkb, best⟩ := M.best (by omega)
    rw [← emo] at best
    have wdu : ∀ k, k < b.length → Wd 1130 (shrV b k .any) := fun k hk => shrV_wd G hk
    have wmo : Wd 1130 (shrV mo b.length .any) := shrV_wd Gm (by omega)
    refine blk_ifR (ec_eqX Z.u64 (EvO.bx (evo_lc Z (lc_mk ks (fun k => .int ((k : Nat) : Int)) (fun k => .int ((k : Nat) : Int)) (fun k => !decide (shrV b k .any < shrV mo b.length .any)) (fun k => [.s ns, .d true (dB b), .d true (lQ du), .d true (.int c), .d true (lInts ps), .d true (.list (natsD ks)), .d true (dH (mgH b ks)), .d true (dB mo), .d true (lQ fo), x9, x10, x11, .d true (.int ((k : Nat) : Int)), x13]) [("k", 12)] (is := [12]) (src_list (ev_var (pv 5) rfl)) (blkOk_by (N := ["script", "book", "due", "cell", "picks", "numbers", "house", "more", "found", "prices", "told", "alike", "k", "pick"]) (sc := defScope (topS 51)) (by decide +kernel)) (small (m := 6) lks) (by decide) (fun k hk s H A cl fp => (tgt_name sc_law.nd (by rfl) (Or.inl (by rfl)) (show 12 < 14 by decide) (Or.inr (by rfl)))) (fun k hk s H A cl fp => .one (evt_not (evt_val (ev_call (ok__law_less T) (Z.hr.mono (by decide)) (args_d (ev_to (D' := dF (shrV b k .any)) (ev_ixL (ev_var (pv 2) rfl).bx.bw (ev_var (pv 12) rfl) (atI_mapN (f := dF) (xs := du) (k := k) 0 (by rw [ldu]; exact klt k hk))) (by rw [adu k (klt k hk)])) (args_d (ev_ixL (ev_var (pv 8) rfl).bx.bw (ev_neg ev_int) afo) args_nil)) ⟨shrV b k .any, shrV mo b.length .any, 1130, 1130, rfl, wdu k (klt k hk), wmo, by decide, by decide, by decide, rfl⟩)))) (fun k hk hc s H A cl fp => (ev_var (pv 12) rfl)) (b := true)))) (evo_lst evs_nil (show 0 ≤ sizeLine by decide)).bx ni_nats.shaped (by decide)).t (fun hd => ?_) (fun _ => ?_)
    · rw [eqv_nil, List.isEmpty_map] at hd
      have z := List.isEmpty_iff.mp hd
      have := List.filter_eq_nil_iff.mp z kb hkb
      rw [decide_eq_false (Rat.not_lt.mpr best)] at this
      exact absurd rfl this
    have rim := M.rim (by omega)
    rw [← emo] at rim
    refine blk_ifR (ec_neX Z.u64 (EvO.bx (evo_lc Z (lc_mk (rimIx mo .any) (fun k => .int ((k : Nat) : Int)) (fun k => .int ((k : Nat) : Int)) (fun k => decide (((k : Nat) : Int) < ((b.length : Nat) : Int))) (fun k => [.s ns, .d true (dB b), .d true (lQ du), .d true (.int c), .d true (lInts ps), .d true (.list (natsD ks)), .d true (dH (mgH b ks)), .d true (dB mo), .d true (lQ fo), x9, x10, x11, .d true (.int ((k : Nat) : Int)), x13]) [("k", 12)] (is := [12]) (src_list (ev_call (ok_rim_of T) (Z.hr.mono (by decide)) (args_d (ev_var (pv 7) rfl) (args_d ev_str args_nil)) ⟨mo, .any, rfl, Gm, rfl⟩)) (blkOk_by (N := ["script", "book", "due", "cell", "picks", "numbers", "house", "more", "found", "prices", "told", "alike", "k", "pick"]) (sc := defScope (topS 51)) (by decide +kernel)) (by exact small (m := 16) (Nat.le_trans rim_len (by omega))) (by decide) (fun k hk s H A cl fp => (tgt_name sc_law.nd (by rfl) (Or.inl (by rfl)) (show 12 < 14 by decide) (Or.inr (by rfl)))) (fun k hk s H A cl fp => .one (ec_lt (ev_var (pv 12) rfl) (ev_to (D' := .int ((b.length : Nat) : Int)) (ev_lenL T.len (ev_var (pv 1) rfl).bx.bw) (by rw [lb]))).t) (fun k hk hc s H A cl fp => Ev.flat (b' := true) (ev_var (pv 12) rfl) rfl) (b := true)))) (Ev.bx (ev_call (ok_rim_of T) (Z.hr.mono (by decide)) (args_d (ev_var (pv 1) rfl) (args_d ev_str args_nil)) ⟨b, .any, rfl, G, rfl⟩)) ni_nats.shaped ni_nats.shaped).t (fun hd => ?_) (fun _ => ?_)
    · rw [rim] at hd
      have s1 : PyData.eqv (.list (natsD (rimIx b .any))) (.list (natsD (rimIx b .any))) = true := ni_nats.self
      rw [s1] at hd
      cases hd
    refine blk_setR Z (n := 9) (by rfl) (Or.inl (by rfl)) (Or.inl rfl) (show 9 < 14 by decide) (evr_ixT (R := ShShown mo k0 .any) (R' := fun D => ∃ s N p, D = dPr p ∧ ShrOut mo (mo.getD k0 ([], [])) .any s N p) (evr_call (ok_share_shown T) (Z.hr.mono (by decide)) (args_d (ev_var (pv 7) rfl) (args_d (ev_ixL (ev_var (pv 5) rfl).bx.bw ev_int ak0) (args_d ev_str args_nil))) ⟨mo, k0, .any, rfl, Gm, by omega, rfl⟩) ev_int (fun D ⟨s, N, p, e, O⟩ => ⟨_, _, e, rfl, s, N, p, rfl, O⟩)) ?_
    rintro D ⟨sh, mx, p, rfl, O⟩
    obtain ⟨PD, PX, PO⟩ := O.bp
    have pz : p.2.2 = 0 := O.prc.sg
    have pq := O.prc.n1
    refine blk_set Z (n := 10) (by rfl) (Or.inl (by rfl)) (Or.inl rfl) (show 10 < 14 by decide) (ev_call (D := .list (mo.map fun h => oF (judQ h p))) (ok_judged T) (Z.hr.mono (by decide)) (args_d (ev_var (pv 7) rfl) (args_d (ev_var (pv 9) rfl) args_nil)) ⟨mo, p, PD, PX, 1171, rfl, by omega, Gm.hok, PO, rfl⟩) ?_
    have anyN : (mo.map fun h => oF (judQ h p)).any (fun z => PyData.eqv z .none) = false → ∃ js : List Rat, js.length = mo.length ∧ (mo.map fun h => oF (judQ h p)) = js.map dF ∧ ∀ k, k < mo.length → judQ (hat mo k) p = some (js.getD k 0) := fun hn => by
      have hs : ∀ h ∈ mo, ∃ q, judQ h p = some q := fun h hh => by
        cases e : judQ h p with
        | some q => exact ⟨q, rfl⟩
        | none =>
          have := List.any_eq_false.mp hn (oF (judQ h p)) (List.mem_map.mpr ⟨h, hh, rfl⟩)
          rw [e] at this
          exact absurd (show PyData.eqv .none .none = true by decide +kernel) this
      refine ⟨mo.map fun h => (judQ h p).getD 0, List.length_map _, ?_, fun k hk => ?_⟩
      · rw [List.map_map]
        exact List.map_congr_left fun h hh => by
          obtain ⟨q, e⟩ := hs h hh
          show oF (judQ h p) = dF ((judQ h p).getD 0)
          rw [e]; rfl
      · rw [getD_mapD (d := ([], [])) hk]
        obtain ⟨q, e⟩ := hs _ (houseAt hk)
        show judQ (hat mo k) p = some ((judQ (hat mo k) p).getD 0)
        rw [e]; rfl
    refine blk_ifR (evw_and (y := false) (ec_notInD Z.u65 ev_non (ev_var (pv 10) rfl).bx (by decide) (ni_map fun _ _ => ni_oF).shaped).t (fun hn => by
      obtain ⟨js, ljs, ejs, ajs⟩ := anyN ((Bool.not_eq_true' _).mp hn)
      have wjs : ∀ k, k < mo.length → Wd 3900 (js.getD k 0) := fun k hk => PO.wj (Gm.hok _ (houseAt hk)) (ajs k hk)
      have wall : ∀ q ∈ js, Wd 3900 q := fun q hq => by
        obtain ⟨k, hk, rfl⟩ := List.getElem_of_mem hq
        have := wjs k (by omega)
        rw [List.getD, List.getElem?_eq_getElem hk] at this
        exact this
      have lst := ajs b.length (by omega)
      rw [show hat mo b.length = mgH b ks by rw [emo]; exact hat_last] at lst
      obtain ⟨bt1, bt2⟩ := M.between pz pq (f := fun i => js.getD i 0) (fun i hi => by
        have := ajs i (by have := klt i hi; omega)
        rw [show hat mo i = hat b i by rw [emo]; exact hat_app (klt i hi)] at this
        exact this) lst
      have ajl : atI (js.map dF) (-1) = some (dF (js.getD b.length 0)) := atI_last (f := dF) (xs := js) (n := b.length) 0 (by omega)
      exact evw_and1 (evt_not (evt_val (x := true) (ev_call (ok__law_a_between T) (Z.hr.mono (by decide)) (args_d (ev_to (ev_var (pv 10) rfl) (by rw [ejs])) (args_d (ev_var (pv 5) rfl) (args_d (ev_ixL (Bx.bw (Ev.bx (ev_to (ev_var (pv 10) rfl) (by rw [ejs])))) (ev_neg ev_int) ajl) args_nil))) ⟨js, ks, js.getD b.length 0, rfl, fun k hk => by have := klt k hk; omega, by omega, wall, wjs _ (by omega), bt1, bt2, rfl⟩))))).t (fun hd => ?_) (fun _ => ?_)
    · rw [Bool.and_false] at hd
      cases hd
    clear anyN
    obtain ⟨h, eh⟩ : ∃ h, h = hat b 0 := ⟨_, rfl⟩
    have hm : h ∈ b := by rw [eh]; exact houseAt h0
    have gh := F h hm
    have G3 : GBk [h, h, h] := ⟨by simp, by simp, h.1.length, h.2.length, gh.t1, gh.t4, gh.g1, gh.g4, fun o ho => by
      have : o = h := by simpa using ho
      rw [this]; exact ⟨gh.mono (by decide), rfl, rfl⟩⟩
    have M3 : MgOk [h, h, h] [0, 2] := ⟨G3, fun o ho => by
      have : o = h := by simpa using ho
      rw [this]; exact gh, by simp, fun i hi => by
      simp only [List.mem_cons, List.not_mem_nil, or_false] at hi
      rcases hi with rfl | rfl <;> simp, by simp⟩
    have am3 : (mgB [h, h, h] [0, 2])[0]? = some (mulH 2 h) := by
      rw [mgB_at (by simp) (by rfl) (fun i _ => Nat.zero_le _), mg_alike]
    have gd := M3.good
    rw [mg_alike] at gd
    have Ga : GBk (b ++ [mulH 2 h]) := G.snocL gd (by rw [eh]; exact ⟨mulH_l1, mulH_l2⟩) (by omega)
    have sal : shrV (b ++ [mulH 2 h]) b.length .any = shrV b 0 .any := by
      rw [eh] at Ga ⊢
      exact shr_alike G Ga
    have ab0 : atI (b.map dH) 0 = some (dH h) := by rw [eh]; exact atI_mapN (f := dH) (xs := b) (k := 0) ([], []) h0
    refine blk_set Z (n := 11) (by rfl) (Or.inl (by rfl)) (Or.inl rfl) (show 11 < 14 by decide) (Ev.flat (b' := true) (ev_ixL (D := dH (mulH 2 h)) (Bx.bw (Ev.bx (ev_call (ok_merged T) (Z.hr.mono (by decide)) (args_x (EvO.bx (evo_eq (evo_rep (EvO.bx (evo_lst (evs_cons (ev_ixL (ev_var (pv 1) rfl).bx.bw ev_int ab0) evs_nil) (show 1 ≤ sizeLine by decide))) ev_int (by decide) (by decide) (by exact small (m := 3) (by simp))) (rfl : _ = [h, h, h].map dH))) (args_x (EvO.bx (evo_eq (evo_lst (evs_cons ev_int (evs_cons ev_int evs_nil)) (show 2 ≤ sizeLine by decide)) (rfl : _ = natsD [0, 2]))) args_nil)) ⟨[h, h, h], [0, 2], rfl, G3, by simp, M3.lt, by simp, M3.big, rfl⟩))) ev_int (atI_nat (j := 0) (by rw [List.getElem?_map, am3]; rfl))) (flat_dH _)) ?_
    have ad0 : atI (du.map dF) 0 = some (dF (shrV b 0 .any)) := by
      rw [← adu 0 h0]
      exact atI_mapN (f := dF) (xs := du) (k := 0) 0 (by omega)
    refine blk_ifR (ec_neD Z.u64 (ev_call (D := dF (shrV (b ++ [mulH 2 h]) (b.length) .any)) (ok_share T) (Z.hr.mono (by decide)) (args_x (EvO.bx (evo_eq (evo_cat (ev_var (pv 1) rfl).bx (EvO.bx (evo_lst (evs_cons (ev_var (pv 11) rfl) evs_nil) (show 1 ≤ sizeLine by decide))) (by rw [lb]; exact small (m := 9) (by simp only [List.length_cons, List.length_nil]; omega))) (em b _))) (args_d (ev_to (D' := .int ((b.length : Nat) : Int)) (ev_lenL T.len (ev_var (pv 1) rfl).bx.bw) (by rw [lb])) (args_d ev_str args_nil))) ⟨b ++ [mulH 2 h], b.length, .any, rfl, Ga, by simp, rfl⟩) (ev_ixL (ev_var (pv 2) rfl).bx.bw ev_int ad0) (shaped_dF _) (shaped_dF _)).t (fun hd => ?_) (fun _ => ?_)
    · rw [sal, (ni_dF).self] at hd
      cases hd
    exact blk_nil ⟨_, _, _, _, _, _, _, _, _, _, _, rfl⟩
end
end Rk
open PySem PySem.W PyProof.Rows
set_option maxRecDepth 100000 in
set_option maxHeartbeats 0 in
theorem PySem.Challenge.cw_rimhouse_k27_whole_merged_behind_holds : PySem.Challenge.rw_rimhouse_k27_whole_merged_behind.Holds := by
  w_on; o_law; k_head; (case hw => w_witness2)
  k_fill
  refine Rk.law_end (l := PySem.Challenge.rw_rimhouse_k27_whole_merged_behind) (k := 9) rfl rfl ⟨rfl, by decide, by decide⟩ (fun w h Y => PySem.W.kIn_of Y) rfl ?F
  case F =>
    intro w mg h KX G
    refine Rk.ok_law (w := w) (mg := mg) ?T
    refine' { abs := PySem.W.mg_none_of KX G ?z_abs, zip := PySem.W.mg_none_of KX G ?z_zip, len := PySem.W.mg_none_of KX G ?z_len, list := PySem.W.mg_none_of KX G ?z_list, range := PySem.W.mg_none_of KX G ?z_range, tuple := PySem.W.mg_none_of KX G ?z_tuple, max := PySem.W.mg_none_of KX G ?z_max, sum := PySem.W.mg_none_of KX G ?z_sum, enumerate := PySem.W.mg_none_of KX G ?z_enumerate, min := PySem.W.mg_none_of KX G ?z_min, int := PySem.W.mg_none_of KX G ?z_int, isinstance := PySem.W.mg_none_of KX G ?z_isinstance, bool := PySem.W.mg_none_of KX G ?z_bool, sorted := PySem.W.mg_none_of KX G ?z_sorted, set := PySem.W.mg_none_of KX G ?z_set, c_MOST_AMOUNT := Rk.const_mk KX G ?q_MOST_AMOUNT, u_UP := Rk.tupc_mk2 KX G ?q_UP ?r_UP, u_DOWN := Rk.tupc_mk2 KX G ?q_DOWN ?r_DOWN, d_divisor := Rk.hasdef_mk KX G ?a_divisor ?l_divisor ?c_divisor ?k_divisor, d_fraction := Rk.hasdef_mk KX G ?a_fraction ?l_fraction ?c_fraction ?k_fraction, d_plus := Rk.hasdef_mk KX G ?a_plus ?l_plus ?c_plus ?k_plus, d_minus := Rk.hasdef_mk KX G ?a_minus ?l_minus ?c_minus ?k_minus, d_product := Rk.hasdef_mk KX G ?a_product ?l_product ?c_product ?k_product, d_whole := Rk.hasdef_mk KX G ?a_whole ?l_whole ?c_whole ?k_whole, d_together := Rk.hasdef_mk KX G ?a_together ?l_together ?c_together ?k_together, d_need_house := Rk.hasdef_mk KX G ?a_need_house ?l_need_house ?c_need_house ?k_need_house, d_solved := Rk.hasdef_mk KX G ?a_solved ?l_solved ?c_solved ?k_solved, d_size_parts := Rk.hasdef_mk KX G ?a_size_parts ?l_size_parts ?c_size_parts ?k_size_parts, d_size_price := Rk.hasdef_mk KX G ?a_size_price ?l_size_price ?c_size_price ?k_size_price, d_rest_price := Rk.hasdef_mk KX G ?a_rest_price ?l_rest_price ?c_rest_price ?k_rest_price, d_shrunk := Rk.hasdef_mk KX G ?a_shrunk ?l_shrunk ?c_shrunk ?k_shrunk, d_share_shown := Rk.hasdef_mk KX G ?a_share_shown ?l_share_shown ?c_share_shown ?k_share_shown, d_share := Rk.hasdef_mk KX G ?a_share ?l_share ?c_share ?k_share, d_earned := Rk.hasdef_mk KX G ?a_earned ?l_earned ?c_earned ?k_earned, d_paid := Rk.hasdef_mk KX G ?a_paid ?l_paid ?c_paid ?k_paid, d_judged_one := Rk.hasdef_mk KX G ?a_judged_one ?l_judged_one ?c_judged_one ?k_judged_one, d_judged := Rk.hasdef_mk KX G ?a_judged ?l_judged ?c_judged ?k_judged, d_added := Rk.hasdef_mk KX G ?a_added ?l_added ?c_added ?k_added, d_merged := Rk.hasdef_mk KX G ?a_merged ?l_merged ?c_merged ?k_merged, d_on_rim := Rk.hasdef_mk KX G ?a_on_rim ?l_on_rim ?c_on_rim ?k_on_rim, d_rim_of := Rk.hasdef_mk KX G ?a_rim_of ?l_rim_of ?c_rim_of ?k_rim_of, d__law_cell_at := Rk.hasdef_mk KX G ?a__law_cell_at ?l__law_cell_at ?c__law_cell_at ?k__law_cell_at, d__law_draws := Rk.hasdef_mk KX G ?a__law_draws ?l__law_draws ?c__law_draws ?k__law_draws, d__law_near := Rk.hasdef_mk KX G ?a__law_near ?l__law_near ?c__law_near ?k__law_near, d__law_a_book := Rk.hasdef_mk KX G ?a__law_a_book ?l__law_a_book ?c__law_a_book ?k__law_a_book, d__law_less := Rk.hasdef_mk KX G ?a__law_less ?l__law_less ?c__law_less ?k__law_less, d__law_a_between := Rk.hasdef_mk KX G ?a__law_a_between ?l__law_a_between ?c__law_a_between ?k__law_a_between, d_law := Rk.hasdef_mk KX G ?a_law ?l_law ?c_law ?k_law, k_Table := Rk.mkok_mk KX G ?u_Table ?v_Table ?w_Table, n_Table := Rk.clsa_mk KX G ?u2_Table ?p_Table ?h_Table ?o_Table ?s_Table ⟨?n_Table_wide, ?n_Table_bottom, ?n_Table_basis, ?n_Table_lines, trivial⟩, m_Table___init__ := Rk.hasmeth_mk KX G ?u3_Table___init__ ?a1_Table___init__ ?i1_Table___init__ ?l1_Table___init__ ?c1_Table___init__ ?k1_Table___init__, m_Table_turn := Rk.hasmeth_mk KX G ?u3_Table_turn ?a1_Table_turn ?i1_Table_turn ?l1_Table_turn ?c1_Table_turn ?k1_Table_turn, m_Table_begin := Rk.hasmeth_mk KX G ?u3_Table_begin ?a1_Table_begin ?i1_Table_begin ?l1_Table_begin ?c1_Table_begin ?k1_Table_begin, m_Table_leaving := Rk.hasmeth_mk KX G ?u3_Table_leaving ?a1_Table_leaving ?i1_Table_leaving ?l1_Table_leaving ?c1_Table_leaving ?k1_Table_leaving, m_Table_best := Rk.hasmeth_mk KX G ?u3_Table_best ?a1_Table_best ?i1_Table_best ?l1_Table_best ?c1_Table_best ?k1_Table_best, m_Table_told := Rk.hasmeth_mk KX G ?u3_Table_told ?a1_Table_told ?i1_Table_told ?l1_Table_told ?c1_Table_told ?k1_Table_told }
    (case z_abs => k_is)
    (case z_zip => k_is)
    (case z_len => k_is)
    (case z_list => k_is)
    (case z_range => k_is)
    (case z_tuple => k_is)
    (case z_max => k_is)
    (case z_sum => k_is)
    (case z_enumerate => k_is)
    (case z_min => k_is)
    (case z_int => k_is)
    (case z_isinstance => k_is)
    (case z_bool => k_is)
    (case z_sorted => k_is)
    (case z_set => k_is)
    (case q_MOST_AMOUNT => k_is)
    (case q_UP => k_is)
    (case r_UP => k_is)
    (case q_DOWN => k_is)
    (case r_DOWN => k_is)
    (case a_divisor => k_is)
    (case l_divisor => k_is)
    (case c_divisor => k_is)
    (case k_divisor => k_is)
    (case a_fraction => k_is)
    (case l_fraction => k_is)
    (case c_fraction => k_is)
    (case k_fraction => k_is)
    (case a_plus => k_is)
    (case l_plus => k_is)
    (case c_plus => k_is)
    (case k_plus => k_is)
    (case a_minus => k_is)
    (case l_minus => k_is)
    (case c_minus => k_is)
    (case k_minus => k_is)
    (case a_product => k_is)
    (case l_product => k_is)
    (case c_product => k_is)
    (case k_product => k_is)
    (case a_whole => k_is)
    (case l_whole => k_is)
    (case c_whole => k_is)
    (case k_whole => k_is)
    (case a_together => k_is)
    (case l_together => k_is)
    (case c_together => k_is)
    (case k_together => k_is)
    (case a_need_house => k_is)
    (case l_need_house => k_is)
    (case c_need_house => k_is)
    (case k_need_house => k_is)
    (case a_solved => k_is)
    (case l_solved => k_is)
    (case c_solved => k_is)
    (case k_solved => k_is)
    (case a_size_parts => k_is)
    (case l_size_parts => k_is)
    (case c_size_parts => k_is)
    (case k_size_parts => k_is)
    (case a_size_price => k_is)
    (case l_size_price => k_is)
    (case c_size_price => k_is)
    (case k_size_price => k_is)
    (case a_rest_price => k_is)
    (case l_rest_price => k_is)
    (case c_rest_price => k_is)
    (case k_rest_price => k_is)
    (case a_shrunk => k_is)
    (case l_shrunk => k_is)
    (case c_shrunk => k_is)
    (case k_shrunk => k_is)
    (case a_share_shown => k_is)
    (case l_share_shown => k_is)
    (case c_share_shown => k_is)
    (case k_share_shown => k_is)
    (case a_share => k_is)
    (case l_share => k_is)
    (case c_share => k_is)
    (case k_share => k_is)
    (case a_earned => k_is)
    (case l_earned => k_is)
    (case c_earned => k_is)
    (case k_earned => k_is)
    (case a_paid => k_is)
    (case l_paid => k_is)
    (case c_paid => k_is)
    (case k_paid => k_is)
    (case a_judged_one => k_is)
    (case l_judged_one => k_is)
    (case c_judged_one => k_is)
    (case k_judged_one => k_is)
    (case a_judged => k_is)
    (case l_judged => k_is)
    (case c_judged => k_is)
    (case k_judged => k_is)
    (case a_added => k_is)
    (case l_added => k_is)
    (case c_added => k_is)
    (case k_added => k_is)
    (case a_merged => k_is)
    (case l_merged => k_is)
    (case c_merged => k_is)
    (case k_merged => k_is)
    (case a_on_rim => k_is)
    (case l_on_rim => k_is)
    (case c_on_rim => k_is)
    (case k_on_rim => k_is)
    (case a_rim_of => k_is)
    (case l_rim_of => k_is)
    (case c_rim_of => k_is)
    (case k_rim_of => k_is)
    (case a__law_cell_at => k_is)
    (case l__law_cell_at => k_is)
    (case c__law_cell_at => k_is)
    (case k__law_cell_at => k_is)
    (case a__law_draws => k_is)
    (case l__law_draws => k_is)
    (case c__law_draws => k_is)
    (case k__law_draws => k_is)
    (case a__law_near => k_is)
    (case l__law_near => k_is)
    (case c__law_near => k_is)
    (case k__law_near => k_is)
    (case a__law_a_book => k_is)
    (case l__law_a_book => k_is)
    (case c__law_a_book => k_is)
    (case k__law_a_book => k_is)
    (case a__law_less => k_is)
    (case l__law_less => k_is)
    (case c__law_less => k_is)
    (case k__law_less => k_is)
    (case a__law_a_between => k_is)
    (case l__law_a_between => k_is)
    (case c__law_a_between => k_is)
    (case k__law_a_between => k_is)
    (case a_law => k_is)
    (case l_law => k_is)
    (case c_law => k_is)
    (case k_law => k_is)
    (case u_Table => k_is)
    (case v_Table => k_is)
    (case w_Table => k_is)
    (case u2_Table => k_is)
    (case p_Table => k_is)
    (case h_Table => k_is)
    (case o_Table => k_is)
    (case s_Table => k_is)
    (case n_Table_wide => show PySem.W.findIn _ _ _ = some none; k_is)
    (case n_Table_bottom => show PySem.W.findIn _ _ _ = some none; k_is)
    (case n_Table_basis => show PySem.W.findIn _ _ _ = some none; k_is)
    (case n_Table_lines => show PySem.W.findIn _ _ _ = some none; k_is)
    (case u3_Table___init__ => k_is)
    (case a1_Table___init__ => k_is)
    (case i1_Table___init__ => k_is)
    (case l1_Table___init__ => k_is)
    (case c1_Table___init__ => k_is)
    (case k1_Table___init__ => k_is)
    (case u3_Table_turn => k_is)
    (case a1_Table_turn => k_is)
    (case i1_Table_turn => k_is)
    (case l1_Table_turn => k_is)
    (case c1_Table_turn => k_is)
    (case k1_Table_turn => k_is)
    (case u3_Table_begin => k_is)
    (case a1_Table_begin => k_is)
    (case i1_Table_begin => k_is)
    (case l1_Table_begin => k_is)
    (case c1_Table_begin => k_is)
    (case k1_Table_begin => k_is)
    (case u3_Table_leaving => k_is)
    (case a1_Table_leaving => k_is)
    (case i1_Table_leaving => k_is)
    (case l1_Table_leaving => k_is)
    (case c1_Table_leaving => k_is)
    (case k1_Table_leaving => k_is)
    (case u3_Table_best => k_is)
    (case a1_Table_best => k_is)
    (case i1_Table_best => k_is)
    (case l1_Table_best => k_is)
    (case c1_Table_best => k_is)
    (case k1_Table_best => k_is)
    (case u3_Table_told => k_is)
    (case a1_Table_told => k_is)
    (case i1_Table_told => k_is)
    (case l1_Table_told => k_is)
    (case c1_Table_told => k_is)
    (case k1_Table_told => k_is)
