import PyProof.Rows.All
import Wide.All
import OpenK.AllK
import Wide.FinOn
import HandS.Base
import HandS.Call
import HandS.List
import HandS.Comp
import HandS.Iter
import HandS.Exc
import HandS.ExcOwn
import HandS.TryOnly
import HandS.Words
import HandS.Walk
import HandS.Zip
import HandS.Wide
import HandS.TupAny
import HandS.TupMul
import KE.DataMinMax
import HandS.More
import HandS.WordsExc
import HandS.Ends
import HandS.IsInst
import PyProof.P3Eq
import KE.GoesEnum
import KE.GoesMore
import KE.GoesZip
import PySem.Challenge.RW_rimhouse_k20_houses_at_prices
set_option Elab.async false
set_option linter.all false
set_option maxRecDepth 100000
set_option maxHeartbeats 4000000
namespace Rk
open PySem PySem.Spec PyProof.Rows L2

/-! ### data at values -/
mutual
inductive Rp (L T : Addr → List V → Prop) : V → PyData → Prop
  | non : Rp L T .non .none
  | bl (b : Bool) : Rp L T (.bl b) (.bool b)
  | int (i : Int) : Rp L T (.int i) (.int i)
  | str (x : Str) : Rp L T (.str x) (.str x)
  | lst {a : Addr} {xs : List V} {ds : List PyData} : L a xs → RpAll L T xs ds → Rp L T (.ref a) (.list ds)
  | tup {a : Addr} {xs : List V} {ds : List PyData} : T a xs → RpAll L T xs ds → Rp L T (.ref a) (.tuple ds)
inductive RpAll (L T : Addr → List V → Prop) : List V → List PyData → Prop
  | nil : RpAll L T [] []
  | cons {v : V} {vs : List V} {d : PyData} {ds : List PyData} : Rp L T v d → RpAll L T vs ds → RpAll L T (v :: vs) (d :: ds)
end

section
variable {L T L' T' : Addr → List V → Prop}
mutual
theorem Rp.mono (hL : ∀ a xs, L a xs → L' a xs) (hT : ∀ a xs, T a xs → T' a xs) : ∀ (d : PyData) (v : V), Rp L T v d → Rp L' T' v d
  | .none, _, h => by cases h; exact .non
  | .bool b, _, h => by cases h; exact .bl b
  | .int i, _, h => by cases h; exact .int i
  | .str x, _, h => by cases h; exact .str x
  | .list ds, _, h => by
    cases h with
    | lst a b => exact .lst (hL _ _ a) (RpAll.mono hL hT ds _ b)
  | .tuple ds, _, h => by
    cases h with
    | tup a b => exact .tup (hT _ _ a) (RpAll.mono hL hT ds _ b)
  | .dict _, _, h => by cases h
theorem RpAll.mono (hL : ∀ a xs, L a xs → L' a xs) (hT : ∀ a xs, T a xs → T' a xs) : ∀ (ds : List PyData) (vs : List V), RpAll L T vs ds → RpAll L' T' vs ds
  | [], _, h => by cases h; exact .nil
  | d :: ds, _, h => by
    cases h with
    | cons a b => exact .cons (Rp.mono hL hT d _ a) (RpAll.mono hL hT ds _ b)
end
/-- without lists within -/
def flat : PyData → Bool
  | .list _ => false
  | .tuple ds => flatAll ds
  | .dict _ => false
  | _ => true
where flatAll : List PyData → Bool
  | [] => true
  | d :: ds => flat d && flatAll ds
mutual
theorem Rp.flat (hT : ∀ a xs, T a xs → T' a xs) : ∀ (d : PyData) (v : V), Rp L T v d → Rk.flat d = true → Rp L' T' v d
  | .none, _, h, _ => by cases h; exact .non
  | .bool b, _, h, _ => by cases h; exact .bl b
  | .int i, _, h, _ => by cases h; exact .int i
  | .str x, _, h, _ => by cases h; exact .str x
  | .list ds, _, h, f => by simp [Rk.flat] at f
  | .tuple ds, _, h, f => by
    cases h with
    | tup a b => exact .tup (hT _ _ a) (RpAll.flat hT ds _ b (by simpa [Rk.flat] using f))
  | .dict _, _, h, _ => by cases h
theorem RpAll.flat (hT : ∀ a xs, T a xs → T' a xs) : ∀ (ds : List PyData) (vs : List V), RpAll L T vs ds → Rk.flat.flatAll ds = true → RpAll L' T' vs ds
  | [], _, h, _ => by cases h; exact .nil
  | d :: ds, _, h, f => by
    cases h with
    | cons a b =>
      simp only [Rk.flat.flatAll, Bool.and_eq_true] at f
      exact .cons (Rp.flat hT d _ a f.1) (RpAll.flat hT ds _ b f.2)
end
theorem RpAll.length : ∀ {ds : List PyData} {vs : List V}, RpAll L T vs ds → vs.length = ds.length
  | [], _, h => by cases h; rfl
  | d :: ds, _, h => by
    cases h with
    | cons a b => simp only [List.length_cons, RpAll.length b]
theorem RpAll.get : ∀ {ds : List PyData} {vs : List V} {i : Nat} {d : PyData}, RpAll L T vs ds → ds[i]? = some d → ∃ v, vs[i]? = some v ∧ Rp L T v d
  | [], _, _, _, _, e => by simp at e
  | d :: ds, _, 0, _, h, e => by
    cases h with
    | cons a b => simp at e; subst e; exact ⟨_, rfl, a⟩
  | d :: ds, _, i + 1, _, h, e => by
    cases h with
    | cons a b =>
      obtain ⟨v, e1, e2⟩ := RpAll.get (i := i) b (by simpa using e)
      exact ⟨v, by simpa using e1, e2⟩
theorem RpAll.get' : ∀ {ds : List PyData} {vs : List V} {i : Nat} {v : V}, RpAll L T vs ds → vs[i]? = some v → ∃ d, ds[i]? = some d ∧ Rp L T v d
  | [], _, _, _, h, e => by cases h; simp at e
  | d :: ds, _, 0, _, h, e => by
    cases h with
    | cons a b => simp at e; subst e; exact ⟨_, rfl, a⟩
  | d :: ds, _, i + 1, _, h, e => by
    cases h with
    | cons a b =>
      obtain ⟨v, e1, e2⟩ := RpAll.get' (i := i) b (by simpa using e)
      exact ⟨v, by simpa using e1, e2⟩
theorem RpAll.append : ∀ {ds es : List PyData} {vs ws : List V}, RpAll L T vs ds → RpAll L T ws es → RpAll L T (vs ++ ws) (ds ++ es)
  | [], _, _, _, h, k => by cases h; exact k
  | d :: ds, _, _, _, h, k => by
    cases h with
    | cons a b => exact .cons a (RpAll.append b k)
theorem RpAll.take : ∀ {ds : List PyData} {vs : List V} (n : Nat), RpAll L T vs ds → RpAll L T (vs.take n) (ds.take n)
  | _, _, 0, _ => by simpa using .nil
  | [], _, n + 1, h => by cases h; exact .nil
  | d :: ds, _, n + 1, h => by
    cases h with
    | cons a b => exact .cons a (RpAll.take n b)
theorem RpAll.drop : ∀ {ds : List PyData} {vs : List V} (n : Nat), RpAll L T vs ds → RpAll L T (vs.drop n) (ds.drop n)
  | _, _, 0, h => by simpa using h
  | [], _, n + 1, h => by cases h; exact .nil
  | d :: ds, _, n + 1, h => by
    cases h with
    | cons a b => exact RpAll.drop n b
theorem RpAll.set {v : V} {d : PyData} (r : Rp L T v d) : ∀ {ds : List PyData} {vs : List V} (i : Nat), RpAll L T vs ds → RpAll L T (vs.set i v) (ds.set i d)
  | [], _, _, h => by cases h; exact .nil
  | e :: ds, _, 0, h => by
    cases h with
    | cons a b => exact .cons r b
  | e :: ds, _, i + 1, h => by
    cases h with
    | cons a b => exact .cons a (RpAll.set r i b)
theorem RpAll.ints : ∀ {ns : List Int} {vs : List V}, RpAll L T vs (ns.map .int) → vs = ns.map V.int
  | [], _, h => by cases h; rfl
  | n :: ns, _, h => by
    cases h with
    | cons a b => cases a; rw [RpAll.ints b]; rfl
theorem RpAll.bls : ∀ {ns : List Bool} {vs : List V}, RpAll L T vs (ns.map .bool) → vs = ns.map V.bl
  | [], _, h => by cases h; rfl
  | n :: ns, _, h => by
    cases h with
    | cons a b => cases a; rw [RpAll.bls b]; rfl
theorem RpAll.of_ints : ∀ (ns : List Int), RpAll L T (ns.map V.int) (ns.map .int)
  | [] => .nil
  | n :: ns => .cons (.int n) (RpAll.of_ints ns)
end

/-! ### what stands where -/
/-- a list's cell: owned by none of N; b: new since H0 -/
def LC (b : Bool) (H0 H : Hp) (N : Addr → Prop) (a : Addr) (xs : List V) : Prop :=
  ¬ N a ∧ H a = some (.lst xs) ∧ (b = true → H0 a = none)
abbrev RV (K : PySem.W.Frag) (b : Bool) (H0 H : Hp) (N : Addr → Prop) : V → PyData → Prop := Rp (LC b H0 H N) (SqT K H)
abbrev RA (K : PySem.W.Frag) (b : Bool) (H0 H : Hp) (N : Addr → Prop) : List V → List PyData → Prop := RpAll (LC b H0 H N) (SqT K H)

/-- N is owned: no tuples, tracked -/
def OwnOk (H : Hp) (N : Addr → Prop) : Prop := ∀ a, N a → ∃ o, H a = some o ∧ (∀ xs, o ≠ .tup xs) ∧ ∀ ob u, o ≠ .frz ob u
structure Shift (H : Hp) (N : Addr → Prop) (H1 : Hp) (N1 : Addr → Prop) : Prop where
  keep : ∀ a o, ¬ N a → H a = some o → H1 a = some o
  own : ∀ a, N1 a → N a ∨ H a = none
  old : OwnOk H N
section
variable {K : PySem.W.Frag} {b : Bool} {H0 H H1 : Hp} {N N1 : Addr → Prop}
theorem Shift.rd (s : Shift H N H1 N1) {a : Addr} {ob : Obj} {u : HO} (h : H a = some (.frz ob u)) : H1 a = some (.frz ob u) :=
  s.keep _ _ (fun n => by obtain ⟨o', e, _, t⟩ := s.old a n; rw [h] at e; cases e; exact t _ _ rfl) h
theorem Shift.tup (s : Shift H N H1 N1) {a : Addr} {xs : List V} (h : SqT K H a xs) : SqT K H1 a xs := by
  rcases h with (h | ⟨o, h⟩) | h
  · exact .inl (.inl (s.keep _ _ (fun n => by obtain ⟨o, e, t, _⟩ := s.old a n; rw [h] at e; cases e; exact t xs rfl) h))
  · exact .inl (.inr ⟨o, s.rd h⟩)
  · exact .inr h
theorem Shift.lst (s : Shift H N H1 N1) {a : Addr} {xs : List V} (h : LC b H0 H N a xs) : LC b H0 H1 N1 a xs := by
  obtain ⟨n, h, hb⟩ := h
  have nn : ¬ N1 a := fun z => by
    rcases s.own a z with z1 | z1
    · exact n z1
    · rw [h] at z1; cases z1
  exact ⟨nn, s.keep _ _ n h, hb⟩
theorem Shift.rv (s : Shift H N H1 N1) {v : V} {d : PyData} (h : RV K b H0 H N v d) : RV K b H0 H1 N1 v d := Rp.mono (fun _ _ => s.lst) (fun _ _ => s.tup) _ _ h
theorem Shift.ra (s : Shift H N H1 N1) {v : List V} {d : List PyData} (h : RA K b H0 H N v d) : RA K b H0 H1 N1 v d := RpAll.mono (fun _ _ => s.lst) (fun _ _ => s.tup) _ _ h
theorem Shift.refl (o : OwnOk H N) : Shift H N H N := ⟨fun _ _ _ e => e, fun a n => .inl n, o⟩
theorem Shift.same (o : OwnOk H N) (s : Same H H1) : Shift H N H1 N := ⟨fun a o _ e => s a o e, fun a n => .inl n, o⟩
theorem RV.weak {v : V} {d : PyData} (h : RV K true H0 H N v d) : RV K b H0 H N v d := Rp.mono (fun _ _ q => ⟨q.1, q.2.1, fun _ => q.2.2 rfl⟩) (fun _ _ q => q) _ _ h
theorem RA.weak {v : List V} {d : List PyData} (h : RA K true H0 H N v d) : RA K b H0 H N v d := RpAll.mono (fun _ _ q => ⟨q.1, q.2.1, fun _ => q.2.2 rfl⟩) (fun _ _ q => q) _ _ h
theorem RV.shared {v : V} {d : PyData} (h : RV K b H0 H N v d) : RV K false H0 H N v d := Rp.mono (fun _ _ q => ⟨q.1, q.2.1, fun e => nomatch e⟩) (fun _ _ q => q) _ _ h
theorem RA.shared {v : List V} {d : List PyData} (h : RA K b H0 H N v d) : RA K false H0 H N v d := RpAll.mono (fun _ _ q => ⟨q.1, q.2.1, fun e => nomatch e⟩) (fun _ _ q => q) _ _ h
theorem RV.and {c : Bool} {v : V} {d : PyData} (h : RV K b H0 H N v d) : RV K (b && c) H0 H N v d := Rp.mono (fun _ _ q => ⟨q.1, q.2.1, fun e => q.2.2 (by simp at e; exact e.1)⟩) (fun _ _ q => q) _ _ h
theorem RV.and' {c : Bool} {v : V} {d : PyData} (h : RV K b H0 H N v d) : RV K (c && b) H0 H N v d := Rp.mono (fun _ _ q => ⟨q.1, q.2.1, fun e => q.2.2 (by simp at e; exact e.2)⟩) (fun _ _ q => q) _ _ h
theorem RA.and {c : Bool} {v : List V} {d : List PyData} (h : RA K b H0 H N v d) : RA K (b && c) H0 H N v d := RpAll.mono (fun _ _ q => ⟨q.1, q.2.1, fun e => q.2.2 (by simp at e; exact e.1)⟩) (fun _ _ q => q) _ _ h
theorem RA.and' {c : Bool} {v : List V} {d : List PyData} (h : RA K b H0 H N v d) : RA K (c && b) H0 H N v d := RpAll.mono (fun _ _ q => ⟨q.1, q.2.1, fun e => q.2.2 (by simp at e; exact e.2)⟩) (fun _ _ q => q) _ _ h
theorem RV.flat {c : Bool} {v : V} {d : PyData} (h : RV K b H0 H N v d) (f : Rk.flat d = true) : RV K c H0 H N v d := Rp.flat (fun _ _ q => q) _ _ h f
/-! for the operators over data of any depth -/
mutual
theorem RV.dp : ∀ (d : PyData) (v : V), RV K b H0 H N v d → Dp K H v d
  | .none, _, h => by cases h; exact .non
  | .bool b, _, h => by cases h; exact .bl b
  | .int i, _, h => by cases h; exact .int i
  | .str x, _, h => by cases h; exact .str x
  | .list ds, _, h => by
    cases h with
    | lst a b => exact .lst (SqL.of a.2.1) (RA.dp ds _ b)
  | .tuple ds, _, h => by
    cases h with
    | tup a b => exact .tup a (RA.dp ds _ b)
  | .dict _, _, h => by cases h
theorem RA.dp : ∀ (ds : List PyData) (vs : List V), RA K b H0 H N vs ds → DpAll K H vs ds
  | [], _, h => by cases h; exact .nil
  | d :: ds, _, h => by
    cases h with
    | cons a b => exact .cons (RV.dp d _ a) (RA.dp ds _ b)
end
end

/-! ### the slots -/
inductive SV where
  | u
  | d (b : Bool) (D : PyData)
  | o (b : Bool) (Ds : List PyData)
  | s (ns : List Int)
  | oo (b : Bool) (Dss : List (List PyData))
/-- lists at qs -/
abbrev Qs (K : PySem.W.Frag) (b : Bool) (H0 H : Hp) (N : Addr → Prop) : List Addr → List (List PyData) → Prop := Paired fun q Ds => ∃ vs, H q = some (.lst vs) ∧ RA K b H0 H N vs Ds
/-- the script: known to the object, or of the module -/
def Scr (K : PySem.W.Frag) (H : Hp) (a : Addr) (xs : List V) : Prop :=
  (∃ o, H a = some (.frz o (.lst xs))) ∨
    ∃ (o : Obj) (its : Array Value) (n : Nat), K.lookup a = some o ∧ o.cls = .type "list" ∧ o.dict = none ∧ o.data = .seq its n ∧ its.size ≤ sizeLine ∧ Vals xs its.toList
theorem Scr.sql {K : PySem.W.Frag} {H : Hp} {a : Addr} {xs : List V} (h : Scr K H a xs) : SqL K H a xs := by
  rcases h with h | h
  · exact .inl (.inr h)
  · exact .inr h
theorem Scr.shift {K : PySem.W.Frag} {H H1 : Hp} {N N1 : Addr → Prop} {a : Addr} {xs : List V} (h : Scr K H a xs) (t : Shift H N H1 N1) : Scr K H1 a xs := by
  rcases h with ⟨o, h⟩ | h
  · exact .inl ⟨o, t.rd h⟩
  · exact .inr h
inductive SlotOk (K : PySem.W.Frag) (H0 H : Hp) (N : Addr → Prop) : Option (Option V) → SV → List Addr → Prop
  | u {x} : SlotOk K H0 H N x .u []
  | d {v b D} : RV K b H0 H N v D → SlotOk K H0 H N (some (some v)) (.d b D) []
  | o {p vs b Ds} : H p = some (.lst vs) → RA K b H0 H N vs Ds → SlotOk K H0 H N (some (some (.ref p))) (.o b Ds) [p]
  | s {a ns} : Scr K H a (ns.map V.int) → SlotOk K H0 H N (some (some (.ref a))) (.s ns) []
  | oo {p qs b Dss} : H p = some (.lst (qs.map V.ref)) → Qs K b H0 H N qs Dss → (p :: qs).Nodup → SlotOk K H0 H N (some (some (.ref p))) (.oo b Dss) (p :: qs)
abbrev Qn := Nat → List Addr
def Own (q : Qn) (F : Addr → Prop) (a : Addr) : Prop := F a ∨ ∃ j, a ∈ q j
structure EnvQ (K : PySem.W.Frag) (H0 Pn H : Hp) (σ : L2.St) (ρ : List SV) (F : Addr → Prop) (q : Qn) : Prop where
  len : σ.length = ρ.length
  slot : ∀ (i : Nat) s, ρ[i]? = some s → SlotOk K H0 H (Own q F) σ[i]? s (q i)
  inj : ∀ i j a, a ∈ q i → a ∈ q j → i = j
  out : ∀ i, ρ.length ≤ i → q i = []
  same : Same Pn H
  base : Same H0 Pn
  new : ∀ a, Own q F a → Pn a = none
  dis : ∀ a i, F a → a ∉ q i
  own : OwnOk H (Own q F)
section
variable {K : PySem.W.Frag} {b : Bool} {H0 Pn H H1 : Hp} {N N1 F : Addr → Prop} {σ : L2.St} {ρ : List SV} {q : Qn} {p : Addr} {vs : List V}
theorem SlotOk.shift {x : Option (Option V)} {s : SV} {l : List Addr} (k : SlotOk K H0 H N x s l) (t : Shift H N H1 N1) (hk : ∀ a ∈ l, H1 a = H a) : SlotOk K H0 H1 N1 x s l := by
  cases k with
  | u => exact .u
  | d r => exact .d (t.rv r)
  | o e r => exact .o ((hk _ (by simp)).trans e) (t.ra r)
  | s e => exact .s (e.shift t)
  | @oo p qs b Dss e r n =>
    refine .oo ((hk _ (by simp)).trans e) ?_ n
    have : ∀ {qs : List Addr} {Dss : List (List PyData)}, Qs K b H0 H N qs Dss → (∀ a ∈ qs, H1 a = H a) → Qs K b H0 H1 N1 qs Dss := by
      intro qs Dss h
      induction h with
      | nil => intro _; exact .nil
      | cons a b ih =>
        intro hq
        obtain ⟨vs, e1, r1⟩ := a
        exact .cons ⟨vs, (hq _ (by simp)).trans e1, t.ra r1⟩ (ih fun c hc => hq c (by simp [hc]))
    exact this r fun a ha => hk a (by simp [ha])
theorem Own.mem {q : Qn} {F : Addr → Prop} {a : Addr} {i : Nat} (h : a ∈ q i) : Own q F a := .inr ⟨i, h⟩
/-- the heap has grown -/
theorem EnvQ.grow (E : EnvQ K H0 Pn H σ ρ F q) (s : Same H H1) : EnvQ K H0 Pn H1 σ ρ F q :=
  ⟨E.len, fun i t h => (E.slot i t h).shift (Shift.same E.own s) (fun a ha => by
    obtain ⟨o, e, _⟩ := E.own a (.mem ha)
    rw [e, s a o e]), E.inj, E.out, E.same.trans s, E.base, E.new, E.dis, fun a n => by
      obtain ⟨o, e, z⟩ := E.own a n
      exact ⟨o, s a o e, z⟩⟩
/-- a new list at p, kept by the side -/
def Fp (F : Addr → Prop) (p : Addr) : Addr → Prop := fun a => F a ∨ a = p
theorem EnvQ.addF (E : EnvQ K H0 Pn H σ ρ F q) (s : Same H H1) (hp : H p = none) (h1 : H1 p = some (.lst vs)) : EnvQ K H0 Pn H1 σ ρ (Fp F p) q := by
  have hq : ∀ i, p ∉ q i := fun i z => by
    obtain ⟨o, e, _⟩ := E.own p (.mem z)
    rw [hp] at e; cases e
  have hP : Pn p = none := E.same.free hp
  have t : Shift H (Own q F) H1 (Own q (Fp F p)) := ⟨fun a o _ e => s a o e, fun a n => by
    rcases n with (n | rfl) | n
    · exact .inl (.inl n)
    · exact .inr hp
    · exact .inl (.inr n), E.own⟩
  refine ⟨E.len, fun i u h => (E.slot i u h).shift t (fun a ha => ?_), E.inj, E.out, E.same.trans s, E.base, fun a n => ?_, fun a i n => ?_, fun a n => ?_⟩
  · obtain ⟨o, e, _⟩ := E.own a (.mem ha)
    rw [e, s a o e]
  · rcases n with (n | rfl) | n
    · exact E.new a (.inl n)
    · exact hP
    · exact E.new a (.inr n)
  · rcases n with n | rfl
    · exact E.dis a i n
    · exact hq i
  · rcases n with (n | rfl) | n
    · obtain ⟨o, e, z⟩ := E.own a (.inl n)
      exact ⟨o, s a o e, z⟩
    · exact ⟨_, h1, fun _ z => (by cases z), fun _ _ z => (by cases z)⟩
    · obtain ⟨o, e, z⟩ := E.own a (.inr n)
      exact ⟨o, s a o e, z⟩
/-- the ghosts by the side are let go -/
theorem EnvQ.dropF {F' : Addr → Prop} (E : EnvQ K H0 Pn H σ ρ F q) (h : ∀ a, F' a → F a) : EnvQ K H0 Pn H σ ρ F' q := by
  have t : Shift H (Own q F) H (Own q F') := ⟨fun _ _ _ e => e, fun a n => .inl (n.imp (h a) id), E.own⟩
  exact ⟨E.len, fun i u z => (E.slot i u z).shift t (fun _ _ => rfl), E.inj, E.out, E.same, E.base, fun a n => E.new a (n.imp (h a) id), fun a i n => E.dis a i (h a n), fun a n => E.own a (n.imp (h a) id)⟩
def clr (q : Qn) (i : Nat) (l : List Addr) : Qn := fun j => if j = i then l else q j
theorem clr_same {i : Nat} {l : List Addr} : clr q i l i = l := if_pos rfl
theorem clr_ne {i j : Nat} {l : List Addr} (h : j ≠ i) : clr q i l j = q j := if_neg h
/-- a slot is set: what is owned by the new value was by the side, or nothing -/
theorem EnvQ.put {F' : Addr → Prop} {i : Nat} {x : Option V} {s : SV} {l : List Addr} (E : EnvQ K H0 Pn H σ ρ F q) (hi : i < ρ.length) (hF : ∀ a, F' a → F a ∧ a ∉ l) (hl : ∀ a ∈ l, F a)
    (hs : SlotOk K H0 H (Own q F) (some x) s l) : EnvQ K H0 Pn H (σ.set i x) (ρ.set i s) F' (clr q i l) := by
  have sub : ∀ a, Own (clr q i l) F' a → Own q F a := fun a n => by
    rcases n with n | ⟨j, n⟩
    · exact .inl (hF a n).1
    · by_cases e : j = i
      · subst e; rw [clr_same] at n; exact .inl (hl a n)
      · rw [clr_ne e] at n; exact .inr ⟨j, n⟩
  have t : Shift H (Own q F) H (Own (clr q i l) F') := ⟨fun _ _ _ e => e, fun a n => .inl (sub a n), E.own⟩
  refine ⟨by simp [E.len], fun j u h => ?_, fun j k a h1 h2 => ?_, fun j h => ?_, E.same, E.base, fun a n => E.new a (sub a n), fun a j n => ?_, fun a n => E.own a (sub a n)⟩
  · by_cases e : j = i
    · subst e
      rw [List.getElem?_set_self hi] at h
      cases h
      rw [clr_same, List.getElem?_set_self (by rw [E.len]; exact hi)]
      exact hs.shift t (fun _ _ => rfl)
    · rw [List.getElem?_set_ne (Ne.symm e)] at h
      rw [clr_ne e, List.getElem?_set_ne (Ne.symm e)]
      exact (E.slot j u h).shift t (fun _ _ => rfl)
  · by_cases e1 : j = i
    · subst e1
      by_cases e2 : k = j
      · exact e2.symm
      · rw [clr_same] at h1; rw [clr_ne e2] at h2
        exact absurd h2 (E.dis a k (hl a h1))
    · by_cases e2 : k = i
      · subst e2
        rw [clr_same] at h2; rw [clr_ne e1] at h1
        exact absurd h1 (E.dis a j (hl a h2))
      · rw [clr_ne e1] at h1; rw [clr_ne e2] at h2
        exact E.inj j k a h1 h2
  · have : j ≠ i := by
      intro e; subst e
      simp at h; omega
    rw [clr_ne this]
    exact E.out j (by simpa using h)
  · by_cases e : j = i
    · subst e; rw [clr_same]; exact (hF a n).2
    · rw [clr_ne e]; exact E.dis a j (hF a n).1
theorem EnvQ.put_d {i : Nat} {v : V} {D : PyData} (E : EnvQ K H0 Pn H σ ρ F q) (hi : i < ρ.length) (r : RV K b H0 H (Own q F) v D) : EnvQ K H0 Pn H (σ.set i (some v)) (ρ.set i (.d b D)) F (clr q i []) :=
  E.put hi (fun a n => ⟨n, by simp⟩) (fun a n => nomatch n) (.d r)
theorem EnvQ.put_u {i : Nat} {x : Option V} (E : EnvQ K H0 Pn H σ ρ F q) (hi : i < ρ.length) : EnvQ K H0 Pn H (σ.set i x) (ρ.set i .u) F (clr q i []) :=
  E.put hi (fun a n => ⟨n, by simp⟩) (fun a n => nomatch n) .u
theorem EnvQ.put_o {i : Nat} {Ds : List PyData} (E : EnvQ K H0 Pn H σ ρ (Fp F p) q) (hi : i < ρ.length) (hp : ¬ F p) (e : H p = some (.lst vs)) (r : RA K b H0 H (Own q (Fp F p)) vs Ds) :
    EnvQ K H0 Pn H (σ.set i (some (.ref p))) (ρ.set i (.o b Ds)) F (clr q i [p]) :=
  E.put hi (fun a n => ⟨.inl n, by simp; rintro rfl; exact hp n⟩) (fun a n => by simp at n; exact .inr n) (.o e r)
/-- a slot is forgotten in the account (the value may stay) -/
theorem EnvQ.forget {i : Nat} (E : EnvQ K H0 Pn H σ ρ F q) : EnvQ K H0 Pn H σ (ρ.set i .u) F (clr q i []) := by
  by_cases hi : i < ρ.length
  · have h1 : i < σ.length := by rw [E.len]; exact hi
    have e : σ.set i σ[i] = σ := by simp
    have := E.put (F' := F) (i := i) (x := σ[i]) (s := .u) (l := []) hi (fun a n => ⟨n, by simp⟩) (fun a n => nomatch n) .u
    rwa [e] at this
  · have e1 : ρ.set i SV.u = ρ := List.set_eq_of_length_le (by omega)
    have e2 : clr q i [] = q := by
      funext j
      by_cases e : j = i
      · subst e; rw [clr_same, E.out j (by omega)]
      · exact clr_ne e
    rw [e1, e2]; exact E
/-- an owned list becomes plain data -/
theorem EnvQ.freeze {i : Nat} {Ds : List PyData} (E : EnvQ K H0 Pn H σ ρ F q) (h : ρ[i]? = some (.o b Ds)) : EnvQ K H0 Pn H σ (ρ.set i (.d b (.list Ds))) F (clr q i []) := by
  have hi : i < ρ.length := (List.getElem?_eq_some_iff.mp h).1
  have hs := E.slot i _ h
  have h1 : i < σ.length := by rw [E.len]; exact hi
  rw [List.getElem?_eq_getElem h1] at hs
  generalize hx : σ[i] = x at hs
  generalize hl : q i = l at hs
  have e : σ.set i x = σ := by rw [← hx]; simp
  cases hs with
  | @o p vs _ _ hp r =>
    have sub : ∀ a, Own (clr q i []) F a → Own q F a ∧ a ≠ p := fun a n => by
      rcases n with n | ⟨j, n⟩
      · refine ⟨.inl n, ?_⟩
        rintro rfl
        exact E.dis a i n (by rw [hl]; simp)
      · by_cases ej : j = i
        · subst ej; rw [clr_same] at n; cases n
        · rw [clr_ne ej] at n
          refine ⟨.inr ⟨j, n⟩, fun z => ?_⟩
          subst z
          exact ej (E.inj j i _ n (by rw [hl]; simp))
    have t : Shift H (Own q F) H (Own (clr q i []) F) := ⟨fun _ _ _ e => e, fun a n => .inl (sub a n).1, E.own⟩
    refine ⟨by simp [E.len], fun j u h => ?_, fun j k a h1 h2 => ?_, fun j h => ?_, E.same, E.base, fun a n => E.new a (sub a n).1, fun a j n => ?_, fun a n => E.own a (sub a n).1⟩
    · by_cases e : j = i
      · subst e
        rw [List.getElem?_set_self hi] at h
        cases h
        rw [clr_same, List.getElem?_eq_getElem h1, hx]
        refine .d (.lst ⟨fun n => (sub p n).2 rfl, hp, fun _ => ?_⟩ (t.ra r))
        exact E.base.free (E.new p (.inr ⟨j, by rw [hl]; simp⟩))
      · rw [List.getElem?_set_ne (Ne.symm e)] at h
        rw [clr_ne e]
        exact (E.slot j u h).shift t (fun _ _ => rfl)
    · by_cases e1 : j = i
      · subst e1; rw [clr_same] at h1; cases h1
      · by_cases e2 : k = i
        · subst e2; rw [clr_same] at h2; cases h2
        · rw [clr_ne e1] at h1; rw [clr_ne e2] at h2
          exact E.inj j k a h1 h2
    · have : j ≠ i := by
        intro e; subst e
        simp at h; omega
      rw [clr_ne this]
      exact E.out j (by simpa using h)
    · by_cases e : j = i
      · subst e; rw [clr_same]; simp
      · rw [clr_ne e]; exact E.dis a j n
/-- an owned list is written -/
theorem EnvQ.write {i : Nat} {Ds Es : List PyData} {b' : Bool} {ws : List V} (E : EnvQ K H0 Pn H σ ρ F q) (h : ρ[i]? = some (.o b Ds)) (hv : σ[i]? = some (some (.ref p))) (r : RA K b' H0 H (Own q F) ws Es) :
    EnvQ K H0 Pn (upd H p (.lst ws)) σ (ρ.set i (.o b' Es)) F q := by
  have hi : i < ρ.length := (List.getElem?_eq_some_iff.mp h).1
  have hs := E.slot i _ h
  rw [hv] at hs
  generalize hl : q i = l at hs
  cases hs with
  | @o _ vs _ _ hp r0 =>
    have op : Own q F p := .inr ⟨i, by rw [hl]; simp⟩
    have t : Shift H (Own q F) (upd H p (.lst ws)) (Own q F) := ⟨fun a o n e => by rw [upd_ne (fun z => n (by rw [z]; exact op))]; exact e, fun a n => .inl n, E.own⟩
    refine ⟨by simp [E.len], fun j u h => ?_, E.inj, fun j h => E.out j (by simpa using h), fun a o e => ?_, E.base, E.new, E.dis, fun a n => ?_⟩
    · by_cases e : j = i
      · subst e
        rw [List.getElem?_set_self hi] at h
        cases h
        rw [hv, hl]
        exact .o upd_same (t.ra r)
      · rw [List.getElem?_set_ne (Ne.symm e)] at h
        refine (E.slot j u h).shift t (fun a ha => upd_ne ?_)
        rintro rfl
        exact e (E.inj j i a ha (by rw [hl]; simp))
    · rw [upd_ne (fun z => by rw [z, E.new p op] at e; cases e)]
      exact E.same a o e
    · by_cases e : a = p
      · subst e; exact ⟨_, upd_same, fun _ z => (by cases z), fun _ _ z => (by cases z)⟩
      · rw [upd_ne e]; exact E.own a n
theorem EnvQ.at_d {i : Nat} {D : PyData} (E : EnvQ K H0 Pn H σ ρ F q) (h : ρ[i]? = some (.d b D)) : ∃ v, σ[i]? = some (some v) ∧ RV K b H0 H (Own q F) v D := by
  have hs := E.slot i _ h
  generalize σ[i]? = x at hs
  generalize q i = l at hs
  cases hs with
  | d r => exact ⟨_, rfl, r⟩
theorem EnvQ.at_o {i : Nat} {Ds : List PyData} (E : EnvQ K H0 Pn H σ ρ F q) (h : ρ[i]? = some (.o b Ds)) : ∃ p vs, σ[i]? = some (some (.ref p)) ∧ H p = some (.lst vs) ∧ RA K b H0 H (Own q F) vs Ds := by
  have hs := E.slot i _ h
  generalize σ[i]? = x at hs
  generalize q i = l at hs
  cases hs with
  | o e r => exact ⟨_, _, rfl, e, r⟩
theorem EnvQ.at_s {i : Nat} {ns : List Int} (E : EnvQ K H0 Pn H σ ρ F q) (h : ρ[i]? = some (.s ns)) : ∃ p, σ[i]? = some (some (.ref p)) ∧ Scr K H p (ns.map V.int) := by
  have hs := E.slot i _ h
  generalize σ[i]? = x at hs
  generalize q i = l at hs
  cases hs with
  | s e => exact ⟨_, rfl, e⟩
theorem EnvQ.at_oo {i : Nat} {Dss : List (List PyData)} (E : EnvQ K H0 Pn H σ ρ F q) (h : ρ[i]? = some (.oo b Dss)) : ∃ p qs, σ[i]? = some (some (.ref p)) ∧ q i = p :: qs ∧ H p = some (.lst (qs.map V.ref)) ∧ Qs K b H0 H (Own q F) qs Dss ∧ (p :: qs).Nodup := by
  have hs := E.slot i _ h
  generalize σ[i]? = x at hs
  generalize q i = l at hs
  cases hs with
  | oo e r n => exact ⟨_, _, rfl, rfl, e, r, n⟩
/-- a list of lists of the frame's own: written at one of its cells (the outer one or an inner one) -/
theorem EnvQ.writeOO {i : Nat} {Dss Ess : List (List PyData)} {b' : Bool} {qs : List Addr} {r : Addr} {ws : List V} (E : EnvQ K H0 Pn H σ ρ F q) (h : ρ[i]? = some (.oo b Dss)) (hv : σ[i]? = some (some (.ref p))) (hq : q i = p :: qs)
    (hr : r ∈ p :: qs) (l' : List Addr) (hl' : ∀ a ∈ l', a ∈ p :: qs ∨ F a) {F' : Addr → Prop} (hF : ∀ a, F' a → F a ∧ a ∉ l')
    (hs : SlotOk K H0 (upd H r (.lst ws)) (Own q F) (some (some (.ref p))) (.oo b' Ess) l') : EnvQ K H0 Pn (upd H r (.lst ws)) σ (ρ.set i (.oo b' Ess)) F' (clr q i l') := by
  have hi : i < ρ.length := (List.getElem?_eq_some_iff.mp h).1
  have or' : Own q F r := .inr ⟨i, by rw [hq]; exact hr⟩
  have sub : ∀ a, Own (clr q i l') F' a → Own q F a := fun a n => by
    rcases n with n | ⟨j, n⟩
    · exact .inl (hF a n).1
    · by_cases e : j = i
      · subst e; rw [clr_same] at n
        rcases hl' a n with z | z
        · exact .inr ⟨j, by rw [hq]; exact z⟩
        · exact .inl z
      · rw [clr_ne e] at n; exact .inr ⟨j, n⟩
  have own' : OwnOk (upd H r (.lst ws)) (Own q F) := fun a n => by
    by_cases e : a = r
    · subst e; exact ⟨_, upd_same, fun _ z => (by cases z), fun _ _ z => (by cases z)⟩
    · rw [upd_ne e]; exact E.own a n
  have t : Shift H (Own q F) (upd H r (.lst ws)) (Own (clr q i l') F') := ⟨fun a o n e => by rw [upd_ne (fun z => n (by rw [z]; exact or'))]; exact e, fun a n => .inl (sub a n), E.own⟩
  have t2 : Shift (upd H r (.lst ws)) (Own q F) (upd H r (.lst ws)) (Own (clr q i l') F') := ⟨fun a o n e => e, fun a n => .inl (sub a n), own'⟩
  refine ⟨by simp [E.len], fun j u h => ?_, fun j k a h1 h2 => ?_, fun j h => ?_, fun a o e => ?_, E.base, fun a n => E.new a (sub a n), fun a j n => ?_, fun a n => own' a (sub a n)⟩
  · by_cases e : j = i
    · subst e
      rw [List.getElem?_set_self hi] at h
      cases h
      rw [clr_same, hv]
      exact hs.shift t2 (fun _ _ => rfl)
    · rw [List.getElem?_set_ne (Ne.symm e)] at h
      rw [clr_ne e]
      refine (E.slot j u h).shift t (fun a ha => upd_ne ?_)
      rintro rfl
      exact e (E.inj j i _ ha (by rw [hq]; exact hr))
  · by_cases e1 : j = i
    · subst e1
      by_cases e2 : k = j
      · exact e2.symm
      · rw [clr_same] at h1; rw [clr_ne e2] at h2
        rcases hl' a h1 with z | z
        · exact absurd (E.inj k j a h2 (by rw [hq]; exact z)) e2
        · exact absurd h2 (E.dis a k z)
    · by_cases e2 : k = i
      · subst e2
        rw [clr_same] at h2; rw [clr_ne e1] at h1
        rcases hl' a h2 with z | z
        · exact absurd (E.inj j k a h1 (by rw [hq]; exact z)) e1
        · exact absurd h1 (E.dis a j z)
      · rw [clr_ne e1] at h1; rw [clr_ne e2] at h2
        exact E.inj j k a h1 h2
  · have : j ≠ i := by
      intro e; subst e
      simp at h; omega
    rw [clr_ne this]
    exact E.out j (by simpa using h)
  · rw [upd_ne (fun z => by rw [z, E.new r or'] at e; cases e)]
    exact E.same a o e
  · by_cases e : j = i
    · subst e; rw [clr_same]; exact (hF a n).2
    · rw [clr_ne e]; exact E.dis a j (hF a n).1
end
end Rk

namespace Rk
open PySem PySem.Spec PyProof.Rows L2

/-! ### runs -/
section
variable {X : Cx} {σ : L2.St} {H : Hp}
def semE (X : Cx) (e : Expr) (σ : L2.St) (H : Hp) (Q : VK) : Prop := ∀ pins s, Inv X pins σ H s → wpAny (model X.prog X.w) X.A (eval e X.env) (EP X pins σ Q) X.xe s
def semT (X : Cx) (e : Expr) (σ : L2.St) (H : Hp) (Q : Bool → Hp → Prop) : Prop := ∀ pins s, Inv X pins σ H s → wpAny (model X.prog X.w) X.A (isTrue e X.env (eval e X.env)) (TP X pins σ Q) X.xe s
def semA (X : Cx) (es : List Expr) (σ : L2.St) (H : Hp) (Q : List V → Hp → Prop) : Prop := ∀ (pos : Pos) pins s, Inv X pins σ H s → wpAny (model X.prog X.w) X.A (spliced (backTo pos (starEach es X.env))) (AP X pins σ Q) X.xe s
def semS (X : Cx) (sts : List Stmt) (D : Ends) (σ : L2.St) (H : Hp) : Prop := ∀ pins s, Inv X pins σ H s → wpAny (model X.prog X.w) X.A (execs sts X.env) (SP X pins D) X.xe s
theorem pe_sem {e : Expr} : PE X e (semE X e) := ⟨fun pins s _ _ _ I h => h pins s I⟩
theorem pt_sem {e : Expr} : PT X e (semT X e) := ⟨fun pins s _ _ _ I h => h pins s I⟩
theorem pa_sem {es : List Expr} : PA X es (semA X es) := ⟨fun pos pins s _ _ _ I h => h pos pins s I⟩
theorem pss_sem {sts : List Stmt} : PSs X sts (semS X sts) := ⟨fun pins s _ _ _ I h => h pins s I⟩
theorem semE_of {e : Expr} {t : TE} {Q : VK} (h : PE X e t) (q : t σ H Q) : semE X e σ H Q := fun pins s I => h.run pins s σ H Q I q
theorem semT_of {e : Expr} {t : TT} {Q : Bool → Hp → Prop} (h : PT X e t) (q : t σ H Q) : semT X e σ H Q := fun pins s I => h.run pins s σ H Q I q
theorem semA_of {es : List Expr} {t : TA} {Q : List V → Hp → Prop} (h : PA X es t) (q : t σ H Q) : semA X es σ H Q := fun pos pins s I => h.run pos pins s σ H Q I q
theorem semS_of {sts : List Stmt} {t : TS} {D : Ends} (h : PSs X sts t) (q : t D σ H) : semS X sts D σ H := fun pins s I => h.run pins s σ H D I q
theorem semE.mono {e : Expr} {Q Q' : VK} (h : semE X e σ H Q) (hq : ∀ v H', Q v H' → Q' v H') : semE X e σ H Q' := fun pins s I =>
  thn (h pins s I) fun v s1 ⟨x, H1, I1, r1, q1⟩ => ⟨x, H1, I1, r1, hq x H1 q1⟩
theorem semT.mono {e : Expr} {Q Q' : Bool → Hp → Prop} (h : semT X e σ H Q) (hq : ∀ v H', Q v H' → Q' v H') : semT X e σ H Q' := fun pins s I =>
  thn (h pins s I) fun v s1 ⟨H1, I1, q1⟩ => ⟨H1, I1, hq v H1 q1⟩
theorem semA.mono {es : List Expr} {Q Q' : List V → Hp → Prop} (h : semA X es σ H Q) (hq : ∀ v H', Q v H' → Q' v H') : semA X es σ H Q' := fun pos pins s I =>
  thn (h pos pins s I) fun v s1 ⟨x, H1, I1, r1, q1⟩ => ⟨x, H1, I1, r1, hq x H1 q1⟩
theorem SP.mono {pins : List (Addr × Obj)} {D D' : Ends} {f : Flow} {s' : Shared} (h : SP X pins D f s') (h1 : ∀ σ H, D.nx σ H → D'.nx σ H) (h2 : ∀ v H, D.rt v H → D'.rt v H) (h3 : ∀ σ H, D.bk σ H → D'.bk σ H) (h4 : ∀ σ H, D.ct σ H → D'.ct σ H) : SP X pins D' f s' := by
  cases f with
  | next => obtain ⟨σ', H', I, q⟩ := h; exact ⟨σ', H', I, h1 _ _ q⟩
  | brk => obtain ⟨σ', H', I, q⟩ := h; exact ⟨σ', H', I, h3 _ _ q⟩
  | cont => obtain ⟨σ', H', I, q⟩ := h; exact ⟨σ', H', I, h4 _ _ q⟩
  | ret u => obtain ⟨v, σ', H', I, r, q⟩ := h; exact ⟨v, σ', H', I, r, h2 _ _ q⟩
theorem semS.mono {sts : List Stmt} {D D' : Ends} (h : semS X sts D σ H) (h1 : ∀ σ H, D.nx σ H → D'.nx σ H) (h2 : ∀ v H, D.rt v H → D'.rt v H) (h3 : ∀ σ H, D.bk σ H → D'.bk σ H) (h4 : ∀ σ H, D.ct σ H → D'.ct σ H) : semS X sts D' σ H :=
  fun pins s I => thn (h pins s I) fun _ _ q => SP.mono q h1 h2 h3 h4
end

/-! ### the judgements -/
/-- where one stands: the context, the heap at the def's entry -/
structure Ct where
  X : Cx
  H0 : Hp
abbrev Ct.Env (C : Ct) (Pn H : Hp) (σ : L2.St) (ρ : List SV) (F : Addr → Prop) (q : Qn) : Prop := EnvQ C.X.K C.H0 Pn H σ ρ F q
abbrev Ct.R (C : Ct) (b : Bool) (H : Hp) (N : Addr → Prop) : V → PyData → Prop := RV C.X.K b C.H0 H N
abbrev Ct.Rs (C : Ct) (b : Bool) (H : Hp) (N : Addr → Prop) : List V → List PyData → Prop := RA C.X.K b C.H0 H N
/-- the expression is worth D -/
structure Ev (C : Ct) (ρ : List SV) (e : Expr) (b : Bool) (D : PyData) : Prop where
  run : ∀ Pn F q σ H, C.Env Pn H σ ρ F q → semE C.X e σ H fun v H' => Same H H' ∧ C.R b H' (Own q F) v D
/-- a new list, nobody else's -/
structure EvO (C : Ct) (ρ : List SV) (e : Expr) (b : Bool) (Ds : List PyData) : Prop where
  run : ∀ Pn F q σ H, C.Env Pn H σ ρ F q → semE C.X e σ H fun v H' => Same H H' ∧ ∃ p vs, v = .ref p ∧ H p = none ∧ H' p = some (.lst vs) ∧ C.Rs b H' (Own q (Fp F p)) vs Ds
/-- a list to be read -/
structure Bw (C : Ct) (ρ : List SV) (e : Expr) (b : Bool) (Ds : List PyData) : Prop where
  run : ∀ Pn F q σ H, C.Env Pn H σ ρ F q → semE C.X e σ H fun v H' => Same H H' ∧ ∃ a vs, v = .ref a ∧ SqL C.X.K H' a vs ∧ C.Rs b H' (Own q F) vs Ds
/-- a list (of this frame or another, no script) to be read: its object is an exact list -/
structure Bx (C : Ct) (ρ : List SV) (e : Expr) (b : Bool) (Ds : List PyData) : Prop where
  run : ∀ Pn F q σ H, C.Env Pn H σ ρ F q → semE C.X e σ H fun v H' => Same H H' ∧ ∃ a vs, v = .ref a ∧ H' a = some (.lst vs) ∧ C.Rs b H' (Own q F) vs Ds
/-- several -/
structure Evs (C : Ct) (ρ : List SV) (es : List Expr) (b : Bool) (Ds : List PyData) : Prop where
  run : ∀ Pn F q σ H, C.Env Pn H σ ρ F q → semA C.X es σ H fun vs H' => Same H H' ∧ C.Rs b H' (Own q F) vs Ds
structure EvT (C : Ct) (ρ : List SV) (e : Expr) (c : Bool) : Prop where
  run : ∀ Pn F q σ H, C.Env Pn H σ ρ F q → semT C.X e σ H fun b H' => Same H H' ∧ b = c

section
variable {C : Ct} {ρ : List SV} {b b' : Bool} {e a c : Expr} {es : List Expr} {D : PyData} {Ds Es : List PyData} {pos p : Pos} {i j : Int}
theorem Ct.Env.shift {C : Ct} {Pn H H' : Hp} {σ : L2.St} {F : Addr → Prop} {q : Qn} (E : C.Env Pn H σ ρ F q) (s : Same H H') : Shift H (Own q F) H' (Own q F) := Shift.same E.own s
theorem Ct.Env.fp {C : Ct} {Pn H H' : Hp} {σ : L2.St} {F : Addr → Prop} {q : Qn} {p : Addr} (E : C.Env Pn H σ ρ F q) (s : Same H H') (hp : H p = none) : Shift H (Own q F) H' (Own q (Fp F p)) :=
  ⟨fun a o _ e => s a o e, fun a n => by
    rcases n with (n | rfl) | n
    · exact .inl (.inl n)
    · exact .inr hp
    · exact .inl (.inr n), E.own⟩
theorem RA.unFp {K : PySem.W.Frag} {H0 H : Hp} {F : Addr → Prop} {q : Qn} {p : Addr} {vs : List V} (h : RA K b H0 H (Own q (Fp F p)) vs Ds) : RA K b H0 H (Own q F) vs Ds :=
  RpAll.mono (fun _ _ z => ⟨fun n => z.1 (n.imp .inl id), z.2⟩) (fun _ _ z => z) _ _ h
theorem Ev.shared (h : Ev C ρ e b D) : Ev C ρ e false D := .mk fun Pn F q σ H E => (h.run _ F q σ H E).mono fun v H' ⟨s, r⟩ => ⟨s, r.shared⟩
theorem Ev.weak (h : Ev C ρ e true D) : Ev C ρ e b D := .mk fun Pn F q σ H E => (h.run _ F q σ H E).mono fun v H' ⟨s, r⟩ => ⟨s, r.weak⟩
theorem Ev.flat (h : Ev C ρ e b D) (f : Rk.flat D = true) : Ev C ρ e b' D := .mk fun Pn F q σ H E => (h.run _ F q σ H E).mono fun v H' ⟨s, r⟩ => ⟨s, r.flat f⟩
theorem EvO.ev (h : EvO C ρ e b Ds) : Ev C ρ e b (.list Ds) := .mk fun Pn F q σ H E => (h.run _ F q σ H E).mono fun v H' ⟨s, p, vs, ev, hp, hp', r⟩ => by
  subst ev
  refine ⟨s, .lst ⟨fun n => ?_, hp', fun _ => E.base.free (E.same.free hp)⟩ r.unFp⟩
  obtain ⟨o, e, _⟩ := E.own p n
  rw [hp] at e; cases e
theorem Ev.bx (h : Ev C ρ e b (.list Ds)) : Bx C ρ e b Ds := .mk fun Pn F q σ H E => (h.run _ F q σ H E).mono fun v H' ⟨s, r⟩ => by
  cases r with
  | lst a r => exact ⟨s, _, _, rfl, a.2.1, r⟩
theorem EvO.bx (h : EvO C ρ e b Ds) : Bx C ρ e b Ds := h.ev.bx
theorem Bx.bw (h : Bx C ρ e b Ds) : Bw C ρ e b Ds := .mk fun Pn F q σ H E => (h.run _ F q σ H E).mono fun v H' ⟨s, a, vs, e, k, r⟩ => ⟨s, a, vs, e, .of k, r⟩
theorem Bw.flat (h : Bw C ρ e b Ds) (f : Rk.flat.flatAll Ds = true) : Bw C ρ e b' Ds := .mk fun Pn F q σ H E => (h.run _ F q σ H E).mono fun v H' ⟨s, a, vs, e, k, r⟩ => ⟨s, a, vs, e, k, RpAll.flat (fun _ _ z => z) _ _ r f⟩

/-! names, constants -/
theorem ev_var {k : Nat} (he : PE C.X e (tVar k)) (h : ρ[k]? = some (.d b D)) : Ev C ρ e b D := .mk fun Pn F q σ H E => by
  obtain ⟨v, hv, r⟩ := E.at_d h
  exact semE_of he ⟨v, hv, Same.refl _, r⟩
theorem bx_var {k : Nat} (he : PE C.X e (tVar k)) (h : ρ[k]? = some (.o b Ds)) : Bx C ρ e b Ds := .mk fun Pn F q σ H E => by
  obtain ⟨p, vs, hv, hp, r⟩ := E.at_o h
  exact semE_of he ⟨_, hv, Same.refl _, p, vs, rfl, hp, r⟩
theorem bw_scr {k : Nat} {ns : List Int} (he : PE C.X e (tVar k)) (h : ρ[k]? = some (.s ns)) : Bw C ρ e true (ns.map .int) := .mk fun Pn F q σ H E => by
  obtain ⟨p, hv, r⟩ := E.at_s h
  exact semE_of he ⟨_, hv, Same.refl _, p, _, rfl, r.sql, RpAll.of_ints ns⟩
theorem ev_int {k : Nat} : Ev C ρ (.Constant (.int i) k pos) true (.int i) := .mk fun Pn F q σ H E => semE_of pe_int ⟨Same.refl _, .int i⟩
theorem ev_bl {k : Nat} {x : Bool} : Ev C ρ (.Constant (.bool x) k pos) true (.bool x) := .mk fun Pn F q σ H E => semE_of pe_bl ⟨Same.refl _, .bl x⟩
theorem ev_non {k : Nat} : Ev C ρ (.Constant .none k pos) true .none := .mk fun Pn F q σ H E => semE_of pe_non ⟨Same.refl _, .non⟩
theorem ev_str {k : Nat} {x : Str} : Ev C ρ (.Constant (.str x) k pos) true (.str x) := .mk fun Pn F q σ H E => semE_of pe_str ⟨Same.refl _, .str x⟩
/-- a module's int -/
theorem ev_gint {x : Str} {t : Tok} (hm : C.X.mg x = some (.int i t)) (hd : (x == ("__debug__" : Str)) = false := by decide) (hg : Gl C.X x := by rfl) : Ev C ρ (.Name x p) true (.int i) :=
  .mk fun Pn F q σ H E => semE_of (pe_glob (v := .int i) hg hm ⟨t, rfl⟩ hd) ⟨Same.refl _, .int i⟩

/-! operators by values -/
/-- two in a row -/
theorem ev_two {b1 b2 : Bool} {D1 D2 : PyData} {F : Addr → Prop} {q : Qn} {σ : L2.St} {Pn H : Hp} {Q : V → V → Hp → Prop} (ha : Ev C ρ a b1 D1) (hc : Ev C ρ c b2 D2) (E : C.Env Pn H σ ρ F q)
    (h : ∀ x y H2, Same H H2 → C.R b1 H2 (Own q F) x D1 → C.R b2 H2 (Own q F) y D2 → Q x y H2) : semE C.X a σ H fun x H1 => semE C.X c σ H1 fun y H2 => Q x y H2 :=
  (ha.run _ F q σ H E).mono fun x H1 ⟨s1, r1⟩ => (hc.run _ F q σ H1 (E.grow s1)).mono fun y H2 ⟨s2, r2⟩ => h x y H2 (s1.trans s2) ((Ct.Env.shift (E.grow s1) s2).rv r1) r2
theorem ev_op {op : Operator} {r : R2} {b1 b2 : Bool} {D1 D2 : PyData} (ho : OpR C.X (binaryOp op) r) (ha : Ev C ρ a b1 D1) (hc : Ev C ρ c b2 D2)
    (h : ∀ (N : Addr → Prop) x y H Q, OwnOk H N → C.R b1 H N x D1 → C.R b2 H N y D2 → (∀ v H', Same H H' → C.R b H' N v D → Q v H') → r x y H Q) : Ev C ρ (.BinOp a op c pos) b D := .mk fun Pn F q σ H E =>
  semE_of (pe_op ho pe_sem pe_sem) (ev_two ha hc E fun x y H2 s r1 r2 => h (Own q F) x y H2 _ (E.grow s).own r1 r2 fun v H' s' rr => ⟨s.trans s', rr⟩)
theorem ev_int2 {op : Operator} {P : Int → Int → Prop} {f : Int → Int → Int} {b1 b2 : Bool} (ho : OpR C.X (binaryOp op) (rI P fun i j => .int (f i j))) (ha : Ev C ρ a b1 (.int i)) (hc : Ev C ρ c b2 (.int j)) (hp : P i j) :
    Ev C ρ (.BinOp a op c pos) true (.int (f i j)) := ev_op ho ha hc fun N x y H Q _ r1 r2 k => by
  cases r1; cases r2
  exact ⟨i, j, rfl, rfl, hp, k _ H (Same.refl _) (.int _)⟩
theorem ev_int20 {op : Operator} {f : Int → Int → Int} {b1 b2 : Bool} (ho : OpR C.X (binaryOp op) (rI0 fun i j => .int (f i j))) (ha : Ev C ρ a b1 (.int i)) (hc : Ev C ρ c b2 (.int j)) :
    Ev C ρ (.BinOp a op c pos) true (.int (f i j)) := ev_op ho ha hc fun N x y H Q _ r1 r2 k => by
  cases r1; cases r2
  exact ⟨i, j, rfl, rfl, k _ H (Same.refl _) (.int _)⟩
theorem ev_add {b1 b2 : Bool} (ha : Ev C ρ a b1 (.int i)) (hc : Ev C ρ c b2 (.int j)) : Ev C ρ (.BinOp a .Add c pos) true (.int (i + j)) := ev_int20 op_add ha hc
theorem ev_sub {b1 b2 : Bool} (ha : Ev C ρ a b1 (.int i)) (hc : Ev C ρ c b2 (.int j)) : Ev C ρ (.BinOp a .Sub c pos) true (.int (i - j)) := ev_int20 op_sub ha hc
theorem ev_mul {b1 b2 : Bool} (ha : Ev C ρ a b1 (.int i)) (hc : Ev C ρ c b2 (.int j)) (h : IntMulOk i j) : Ev C ρ (.BinOp a .Mult c pos) true (.int (i * j)) :=
  ev_int2 (P := IntMulOk) (f := fun i j => i * j) (opI fun _ _ _ _ _ _ _ hc q => mul_int q hc) ha hc h
theorem ev_mod {b1 b2 : Bool} (ha : Ev C ρ a b1 (.int i)) (hc : Ev C ρ c b2 (.int j)) (h : 0 < j) : Ev C ρ (.BinOp a .Mod c pos) true (.int (i % j)) := ev_int2 op_mod ha hc h
theorem ev_fdiv {b1 b2 : Bool} (ha : Ev C ρ a b1 (.int i)) (hc : Ev C ρ c b2 (.int j)) (h0 : 0 < j) (h : Builtin.divisionGoesByPylong i j = false) : Ev C ρ (.BinOp a .FloorDiv c pos) true (.int (i / j)) :=
  ev_int2 (P := fun i j => 0 < j ∧ Builtin.divisionGoesByPylong i j = false) (f := fun i j => i / j) (opI fun i j _ _ _ _ _ hc q => floordiv_int (by have := hc.1; omega) (by rw [Int.fdiv_eq_ediv_of_nonneg i (by have := hc.1; omega)]; exact q) (.inl hc.2)) ha hc ⟨h0, h⟩
theorem ev_fdivN {b1 b2 : Bool} (ha : Ev C ρ a b1 (.int i)) (hc : Ev C ρ c b2 (.int j)) (h0 : j ≠ 0) (h : Builtin.divisionGoesByPylong i j = false) : Ev C ρ (.BinOp a .FloorDiv c pos) true (.int (i.fdiv j)) :=
  ev_int2 (P := fun i j => j ≠ 0 ∧ Builtin.divisionGoesByPylong i j = false) (f := fun i j => i.fdiv j) (opI fun i j _ _ _ _ _ hc q => floordiv_int hc.1 q (.inl hc.2)) ha hc ⟨h0, h⟩
theorem ev_pow {b1 b2 : Bool} (ha : Ev C ρ a b1 (.int i)) (hc : Ev C ρ c b2 (.int j)) (h : CPow i j) : Ev C ρ (.BinOp a .Pow c pos) true (.int (i ^ j.toNat)) := ev_int2 op_pow ha hc h
/-! comparisons: as values, as tests -/
theorem pc_R {X : Cx} {op : CmpOp} {r : R2} {a c : Expr} {ta tb : TE} (ho : OpR X (compareOp op) r) (ha : PE X a ta) (hb : PE X c tb) : PC X op a c (tOp r ta tb) :=
  ⟨fun pins s σ H Q I h => binT ha hb I h fun v u s2 x y H2 I2 rx ry q => ho pins s2 σ H2 x y v u Q I2 rx ry q⟩
def semC (X : Cx) (op : CmpOp) (a c : Expr) (σ : L2.St) (H : Hp) (Q : VK) : Prop := ∀ pins s, Inv X pins σ H s →
    wpAny (model X.prog X.w) X.A (eval a X.env) (fun v s₁ => wpAny (model X.prog X.w) X.A (eval c X.env) (fun u s₂ => wpAny (model X.prog X.w) X.A (compareOp op v u) (EP X pins σ Q) X.xe s₂) X.xe s₁) X.xe s
theorem semC_of {X : Cx} {op : CmpOp} {a c : Expr} {σ : L2.St} {H : Hp} {t : TE} {Q : VK} (h : PC X op a c t) (q : t σ H Q) : semC X op a c σ H Q := fun pins s I => h.run pins s σ H Q I q
theorem pc_sem {X : Cx} {op : CmpOp} {a c : Expr} : PC X op a c (semC X op a c) := ⟨fun pins s _ _ _ I h => h pins s I⟩
/-- a comparison is worth x -/
structure Ec (C : Ct) (ρ : List SV) (a : Expr) (op : CmpOp) (c : Expr) (x : Bool) : Prop where
  run : ∀ Pn F q σ H, C.Env Pn H σ ρ F q → semC C.X op a c σ H fun v H' => Same H H' ∧ v = .bl x
theorem Ec.ev {op : CmpOp} {x : Bool} (h : Ec C ρ a op c x) (h1 : behindInMarks op c = false := by first | exact nobehind _ (by decide) (by decide) | rfl) : Ev C ρ (.Compare a [op] [c] pos) true (.bool x) := .mk fun Pn F q σ H E =>
  semE_of (pe_cmp (pc_sem (op := op) (a := a) (c := c)) h1) (fun pins s I => by
    have := h.run _ F q σ H E pins s I
    refine thn this fun v s1 k => thn k fun u s2 k2 => thn k2 fun d s3 ⟨y, H3, I3, r3, sm, ev⟩ => ⟨y, H3, I3, r3, sm, by rw [ev]; exact .bl x⟩)
theorem Ec.t {op : CmpOp} {x : Bool} (h : Ec C ρ a op c x) (h1 : behindInMarks op c = false := by first | exact nobehind _ (by decide) (by decide) | rfl) : EvT C ρ (.Compare a [op] [c] pos) x := .mk fun Pn F q σ H E =>
  semT_of (pt_cmp (pc_sem (op := op) (a := a) (c := c)) h1) (fun pins s I => by
    have := h.run _ F q σ H E pins s I
    refine thn this fun v s1 k => thn k fun u s2 k2 => thn k2 fun d s3 ⟨y, H3, I3, r3, sm, ev⟩ => ⟨y, H3, I3, r3, x, ev, sm, rfl⟩)
theorem ec_op {op : CmpOp} {r : R2} {x : Bool} {b1 b2 : Bool} {D1 D2 : PyData} (ho : OpR C.X (compareOp op) r) (ha : Ev C ρ a b1 D1) (hc : Ev C ρ c b2 D2)
    (h : ∀ (N : Addr → Prop) y z H Q, C.R b1 H N y D1 → C.R b2 H N z D2 → Q (.bl x) H → r y z H Q) : Ec C ρ a op c x := .mk fun Pn F q σ H E =>
  semC_of (pc_R ho pe_sem pe_sem) (ev_two ha hc E fun x y H2 s r1 r2 => h (Own q F) x y H2 _ r1 r2 ⟨s, rfl⟩)
theorem ec_int {op : CmpOp} {f : Int → Int → Bool} {b1 b2 : Bool} (ho : OpR C.X (compareOp op) (rI0 fun i j => .bl (f i j))) (ha : Ev C ρ a b1 (.int i)) (hc : Ev C ρ c b2 (.int j)) :
    Ec C ρ a op c (f i j) := ec_op ho ha hc fun N x y H Q r1 r2 k => by
  cases r1; cases r2
  exact ⟨i, j, rfl, rfl, k⟩
theorem ec_lt {b1 b2 : Bool} (ha : Ev C ρ a b1 (.int i)) (hc : Ev C ρ c b2 (.int j)) : Ec C ρ a .Lt c (decide (i < j)) := ec_int op_lt ha hc
theorem ec_le {b1 b2 : Bool} (ha : Ev C ρ a b1 (.int i)) (hc : Ev C ρ c b2 (.int j)) : Ec C ρ a .LtE c (decide (i ≤ j)) := ec_int op_le ha hc
theorem ec_gt {b1 b2 : Bool} (ha : Ev C ρ a b1 (.int i)) (hc : Ev C ρ c b2 (.int j)) : Ec C ρ a .Gt c (decide (j < i)) := ec_int op_gt ha hc
theorem ec_ge {b1 b2 : Bool} (ha : Ev C ρ a b1 (.int i)) (hc : Ev C ρ c b2 (.int j)) : Ec C ρ a .GtE c (decide (j ≤ i)) := ec_int op_ge ha hc
theorem op_eqI {X : Cx} : OpR X (compareOp .Eq) (rI0 fun i j => .bl (decide (i = j))) := opB0 fun _ _ _ _ _ _ _ q => eq_int (by rw [Bool.beq_eq_decide_eq]; exact q)
theorem op_neI {X : Cx} : OpR X (compareOp .NotEq) (rI0 fun i j => .bl (!decide (i = j))) := opB0 fun _ _ _ _ _ _ _ q => ne_int (by rw [bne, Bool.beq_eq_decide_eq]; exact q)
theorem ec_eqI {b1 b2 : Bool} (ha : Ev C ρ a b1 (.int i)) (hc : Ev C ρ c b2 (.int j)) : Ec C ρ a .Eq c (decide (i = j)) := ec_int op_eqI ha hc
theorem ec_neI {b1 b2 : Bool} (ha : Ev C ρ a b1 (.int i)) (hc : Ev C ρ c b2 (.int j)) : Ec C ρ a .NotEq c (!decide (i = j)) := ec_int op_neI ha hc
theorem ec_eqS {b1 b2 : Bool} {x y : Str} (ha : Ev C ρ a b1 (.str x)) (hc : Ev C ρ c b2 (.str y)) : Ec C ρ a .Eq c (decide (x = y)) := ec_op op_eq ha hc fun N v u H Q r1 r2 k => by
  cases r1; cases r2
  refine ⟨rfl, ?_⟩
  have e : decide (V.str x = V.str y) = decide (x = y) := by simp
  rw [e]; exact k
theorem ec_neS {b1 b2 : Bool} {x y : Str} (ha : Ev C ρ a b1 (.str x)) (hc : Ev C ρ c b2 (.str y)) : Ec C ρ a .NotEq c (!decide (x = y)) := ec_op op_ne ha hc fun N v u H Q r1 r2 k => by
  cases r1; cases r2
  refine ⟨rfl, ?_⟩
  have e : decide (V.str x = V.str y) = decide (x = y) := by simp
  rw [e]; exact k
theorem ec_eqB {b1 b2 : Bool} {x y : Bool} (ha : Ev C ρ a b1 (.bool x)) (hc : Ev C ρ c b2 (.bool y)) : Ec C ρ a .Eq c (decide (x = y)) := ec_op op_eq ha hc fun N v u H Q r1 r2 k => by
  cases r1; cases r2
  refine ⟨rfl, ?_⟩
  have e : decide (V.bl x = V.bl y) = decide (x = y) := by simp
  rw [e]; exact k
theorem ec_neB {b1 b2 : Bool} {x y : Bool} (ha : Ev C ρ a b1 (.bool x)) (hc : Ev C ρ c b2 (.bool y)) : Ec C ρ a .NotEq c (!decide (x = y)) := ec_op op_ne ha hc fun N v u H Q r1 r2 k => by
  cases r1; cases r2
  refine ⟨rfl, ?_⟩
  have e : decide (V.bl x = V.bl y) = decide (x = y) := by simp
  rw [e]; exact k
/-- == of any data -/
theorem ec_eqD {b1 b2 : Bool} {D1 D2 : PyData} (hu : C.X.A.units + 64 < cLine) (ha : Ev C ρ a b1 D1) (hc : Ev C ρ c b2 D2) (s1 : SeqAt.shaped D1 = true) (s2 : SeqAt.shaped D2 = true) : Ec C ρ a .Eq c (PyData.eqv D1 D2) :=
  ec_op (op_eqD hu) ha hc fun N x y H Q r1 r2 k => ⟨D1, D2, RV.dp _ _ r1, RV.dp _ _ r2, s1, s2, k⟩
theorem ec_neD {b1 b2 : Bool} {D1 D2 : PyData} (hu : C.X.A.units + 64 < cLine) (ha : Ev C ρ a b1 D1) (hc : Ev C ρ c b2 D2) (s1 : SeqAt.shaped D1 = true) (s2 : SeqAt.shaped D2 = true) : Ec C ρ a .NotEq c (!PyData.eqv D1 D2) :=
  ec_op (op_neD hu) ha hc fun N x y H Q r1 r2 k => ⟨D1, D2, RV.dp _ _ r1, RV.dp _ _ r2, s1, s2, k⟩
/-! the same where a side is an owned list -/
theorem bx_two {b1 b2 : Bool} {Ds1 : List PyData} {D2 : PyData} {F : Addr → Prop} {q : Qn} {σ : L2.St} {Pn H : Hp} {Q : V → V → Hp → Prop} (ha : Bx C ρ a b1 Ds1) (hc : Ev C ρ c b2 D2) (E : C.Env Pn H σ ρ F q)
    (h : ∀ a' vs y H2, Same H H2 → H2 a' = some (.lst vs) → C.Rs b1 H2 (Own q F) vs Ds1 → C.R b2 H2 (Own q F) y D2 → Q (.ref a') y H2) : semE C.X a σ H fun x H1 => semE C.X c σ H1 fun y H2 => Q x y H2 :=
  (ha.run _ F q σ H E).mono fun x H1 ⟨s1, a', vs, ex, e1, r1⟩ => (hc.run _ F q σ H1 (E.grow s1)).mono fun y H2 ⟨s2, r2⟩ => by
    subst ex
    exact h a' vs y H2 (s1.trans s2) (s2 _ _ e1) ((Ct.Env.shift (E.grow s1) s2).ra r1) r2
theorem xx_two {b1 b2 : Bool} {Ds1 Ds2 : List PyData} {F : Addr → Prop} {q : Qn} {σ : L2.St} {Pn H : Hp} {Q : V → V → Hp → Prop} (ha : Bx C ρ a b1 Ds1) (hc : Bx C ρ c b2 Ds2) (E : C.Env Pn H σ ρ F q)
    (h : ∀ a' vs c' us H2, Same H H2 → H2 a' = some (.lst vs) → C.Rs b1 H2 (Own q F) vs Ds1 → H2 c' = some (.lst us) → C.Rs b2 H2 (Own q F) us Ds2 → Q (.ref a') (.ref c') H2) : semE C.X a σ H fun x H1 => semE C.X c σ H1 fun y H2 => Q x y H2 :=
  (ha.run _ F q σ H E).mono fun x H1 ⟨s1, a', vs, ex, e1, r1⟩ => (hc.run _ F q σ H1 (E.grow s1)).mono fun y H2 ⟨s2, c', us, ey, e2, r2⟩ => by
    subst ex ey
    exact h a' vs c' us H2 (s1.trans s2) (s2 _ _ e1) ((Ct.Env.shift (E.grow s1) s2).ra r1) e2 r2
theorem ec_eqX {b1 b2 : Bool} {Ds1 Ds2 : List PyData} (hu : C.X.A.units + 64 < cLine) (ha : Bx C ρ a b1 Ds1) (hc : Bx C ρ c b2 Ds2) (s1 : SeqAt.shaped (.list Ds1) = true) (s2 : SeqAt.shaped (.list Ds2) = true) : Ec C ρ a .Eq c (PyData.eqv (.list Ds1) (.list Ds2)) :=
  .mk fun Pn F q σ H E => semC_of (pc_R (op_eqD hu) pe_sem pe_sem) (xx_two ha hc E fun a' vs c' us H2 s e r1 e2 r2 => ⟨_, _, .lst (.of e) (RA.dp _ _ r1), .lst (.of e2) (RA.dp _ _ r2), s1, s2, s, rfl⟩)
theorem ec_neX {b1 b2 : Bool} {Ds1 Ds2 : List PyData} (hu : C.X.A.units + 64 < cLine) (ha : Bx C ρ a b1 Ds1) (hc : Bx C ρ c b2 Ds2) (s1 : SeqAt.shaped (.list Ds1) = true) (s2 : SeqAt.shaped (.list Ds2) = true) : Ec C ρ a .NotEq c (!PyData.eqv (.list Ds1) (.list Ds2)) :=
  .mk fun Pn F q σ H E => semC_of (pc_R (op_neD hu) pe_sem pe_sem) (xx_two ha hc E fun a' vs c' us H2 s e r1 e2 r2 => ⟨_, _, .lst (.of e) (RA.dp _ _ r1), .lst (.of e2) (RA.dp _ _ r2), s1, s2, s, rfl⟩)
/-- is None -/
def isNo : PyData → Bool
  | .none => true
  | _ => false
theorem RV.isNo {K : PySem.W.Frag} {H0 H : Hp} {N : Addr → Prop} {v : V} (r : RV K b H0 H N v D) : decide (v = .non) = Rk.isNo D := by
  cases r <;> first | rfl | simp [Rk.isNo]
theorem ec_isN {k : Nat} {p' : Pos} (ha : Ev C ρ a b D) : Ec C ρ a .Is (.Constant .none k p') (isNo D) := .mk fun Pn F q σ H E =>
  semC_of (pc_isN pe_sem) ((ha.run _ F q σ H E).mono fun v H' ⟨s, r⟩ => ⟨s, by rw [r.isNo]⟩)
theorem ec_notN {k : Nat} {p' : Pos} (ha : Ev C ρ a b D) : Ec C ρ a .IsNot (.Constant .none k p') (!isNo D) := .mk fun Pn F q σ H E =>
  semC_of (pc_notN pe_sem) ((ha.run _ F q σ H E).mono fun v H' ⟨s, r⟩ => ⟨s, by rw [r.isNo]⟩)
/-! chains -/
theorem ev_chain {op op' : CmpOp} {f g : Int → Int → Bool} {m : Expr} {b1 b2 b3 : Bool} {k : Int} (ho : OpR C.X (compareOp op) (rI0 fun i j => .bl (f i j))) (ho' : OpR C.X (compareOp op') (rI0 fun i j => .bl (g i j)))
    (ha : Ev C ρ a b1 (.int i)) (hm : Ev C ρ m b2 (.int j)) (hc : Ev C ρ c b3 (.int k)) (hl : lastMarks [op, op'] [m, c] = false := by with_unfolding_all rfl) :
    Ev C ρ (.Compare a [op, op'] [m, c] pos) true (.bool (f i j && g j k)) := .mk fun Pn F q σ H E => by
  refine semE_of (pe_chain ho ho' pe_sem pe_sem pe_sem hl) (ev_two ha hm E fun x y H2 s r1 r2 => ?_)
  cases r1; cases r2
  refine ⟨i, j, rfl, rfl, f i j, rfl, ?_⟩
  by_cases hf : f i j = true
  · rw [if_pos hf, hf, Bool.true_and]
    refine (hc.run _ F q σ H2 (E.grow s)).mono fun z H3 ⟨s3, r3⟩ => ?_
    cases r3
    exact ⟨j, k, rfl, rfl, s.trans s3, .bl _⟩
  · rw [if_neg hf]
    simp only [Bool.not_eq_true] at hf
    rw [hf, Bool.false_and]
    exact ⟨s, .bl _⟩
theorem evt_chain {op op' : CmpOp} {f g : Int → Int → Bool} {m : Expr} {b1 b2 b3 : Bool} {k : Int} (ho : OpR C.X (compareOp op) (rI0 fun i j => .bl (f i j))) (ho' : OpR C.X (compareOp op') (rI0 fun i j => .bl (g i j)))
    (ha : Ev C ρ a b1 (.int i)) (hm : Ev C ρ m b2 (.int j)) (hc : Ev C ρ c b3 (.int k)) (hl : lastMarks [op, op'] [m, c] = false := by with_unfolding_all rfl) :
    EvT C ρ (.Compare a [op, op'] [m, c] pos) (f i j && g j k) := .mk fun Pn F q σ H E => by
  refine semT_of (pt_chain ho ho' pe_sem pe_sem pe_sem hl) ?_
  show semE C.X a σ H fun x H1 => semE C.X m σ H1 fun y H2 => _
  refine (ev_two ha hm E fun x y H2 s r1 r2 => ?_)
  cases r1; cases r2
  refine ⟨i, j, rfl, rfl, f i j, rfl, ?_⟩
  by_cases hf : f i j = true
  · rw [if_pos hf, hf, Bool.true_and]
    refine (hc.run _ F q σ H2 (E.grow s)).mono fun z H3 ⟨s3, r3⟩ => ?_
    cases r3
    exact ⟨j, k, rfl, rfl, _, rfl, s.trans s3, rfl⟩
  · rw [if_neg hf]
    simp only [Bool.not_eq_true] at hf
    rw [hf, Bool.false_and]
    exact ⟨_, rfl, s, rfl⟩
/-! and, or, not, if as values -/
theorem ev_and {rest : List Expr} {x y : Bool} {b1 b2 : Bool} (ha : Ev C ρ a b1 (.bool x)) (hr : x = true → Ev C ρ (.BoolOp .And (c :: rest) pos) b2 (.bool y)) : Ev C ρ (.BoolOp .And (a :: c :: rest) pos) true (.bool (x && y)) := .mk fun Pn F q σ H E => by
  refine semE_of (pe_and pe_sem pe_sem) ((ha.run _ F q σ H E).mono fun v H' ⟨s, r⟩ => ?_)
  cases r
  refine ⟨x, rfl, ?_⟩
  cases x with
  | true =>
    rw [if_pos rfl]
    exact ((hr rfl).run _ F q σ H' (E.grow s)).mono fun v H2 ⟨s2, r2⟩ => ⟨s.trans s2, by cases r2; exact .bl _⟩
  | false =>
    rw [if_neg Bool.false_ne_true]
    exact ⟨s, .bl _⟩
theorem ev_or {rest : List Expr} {x y : Bool} {b1 b2 : Bool} (ha : Ev C ρ a b1 (.bool x)) (hr : x = false → Ev C ρ (.BoolOp .Or (c :: rest) pos) b2 (.bool y)) : Ev C ρ (.BoolOp .Or (a :: c :: rest) pos) true (.bool (x || y)) := .mk fun Pn F q σ H E => by
  refine semE_of (pe_or pe_sem pe_sem) ((ha.run _ F q σ H E).mono fun v H' ⟨s, r⟩ => ?_)
  cases r
  refine ⟨x, rfl, ?_⟩
  cases x with
  | false =>
    rw [if_neg Bool.false_ne_true]
    exact ((hr rfl).run _ F q σ H' (E.grow s)).mono fun v H2 ⟨s2, r2⟩ => ⟨s.trans s2, by cases r2; exact .bl _⟩
  | true =>
    rw [if_pos rfl]
    exact ⟨s, .bl _⟩
theorem ev_one {op : BoolOp} (ha : Ev C ρ a b D) : Ev C ρ (.BoolOp op [a] pos) b D := .mk fun Pn F q σ H E => semE_of (pe_one pe_sem) (ha.run _ F q σ H E)
theorem ev_not {x : Bool} (ha : Ev C ρ a b (.bool x)) : Ev C ρ (.UnaryOp .Not a pos) true (.bool (!x)) := .mk fun Pn F q σ H E => by
  refine semE_of (pe_not pe_sem) ((ha.run _ F q σ H E).mono fun v H' ⟨s, r⟩ => ?_)
  cases r
  exact ⟨x, rfl, s, .bl _⟩
theorem ev_neg (ha : Ev C ρ a b (.int i)) : Ev C ρ (.UnaryOp .USub a pos) true (.int (-i)) := .mk fun Pn F q σ H E => by
  refine semE_of (pe_un un_neg pe_sem) ((ha.run _ F q σ H E).mono fun v H' ⟨s, r⟩ => ?_)
  cases r
  exact ⟨i, rfl, s, .int _⟩

/-! tests -/
theorem evt_val {x : Bool} (h : Ev C ρ e b (.bool x)) (he : ∀ whole, isTrue e C.X.env whole = (do let v ← whole; standAt e.pos; holding [v] (truthy v)) := by intro _; rfl) : EvT C ρ e x := .mk fun Pn F q σ H E => by
  refine semT_of (pt_val pe_sem he) ((h.run _ F q σ H E).mono fun v H' ⟨s, r⟩ => ?_)
  cases r
  exact ⟨x, rfl, s, rfl⟩
theorem evt_not {x : Bool} (h : EvT C ρ a x) : EvT C ρ (.UnaryOp .Not a pos) (!x) := .mk fun Pn F q σ H E =>
  semT_of (pt_not pt_sem) ((h.run _ F q σ H E).mono fun v H' ⟨s, r⟩ => ⟨s, by rw [r]⟩)
/-- and, or whatever the whole -/
structure EvW (C : Ct) (ρ : List SV) (e : Expr) (c : Bool) : Prop where
  run : ∀ Pn F q σ H, C.Env Pn H σ ρ F q → ∀ (whole : Sem Value) pins s, Inv C.X pins σ H s → wpAny (model C.X.prog C.X.w) C.X.A (isTrue e C.X.env whole) (TP C.X pins σ fun b H' => Same H H' ∧ b = c) C.X.xe s
theorem EvW.t {x : Bool} (h : EvW C ρ e x) : EvT C ρ e x := .mk fun Pn F q σ H E pins s I => h.run _ F q σ H E _ pins s I
theorem evw_and1 {x : Bool} (h : EvT C ρ a x) : EvW C ρ (.BoolOp .And [a] pos) x := .mk fun Pn F q σ H E wh pins s I => (pw_and1 pt_sem).run wh pins s σ H _ I (h.run _ F q σ H E)
theorem evw_or1 {x : Bool} (h : EvT C ρ a x) : EvW C ρ (.BoolOp .Or [a] pos) x := .mk fun Pn F q σ H E wh pins s I => (pw_or1 pt_sem).run wh pins s σ H _ I (h.run _ F q σ H E)
def semW (X : Cx) (e : Expr) (σ : L2.St) (H : Hp) (Q : Bool → Hp → Prop) : Prop := ∀ (whole : Sem Value) pins s, Inv X pins σ H s → wpAny (model X.prog X.w) X.A (isTrue e X.env whole) (TP X pins σ Q) X.xe s
theorem pw_sem {X : Cx} {e : Expr} : PW X e (semW X e) := ⟨fun wh pins s _ _ _ I h => h wh pins s I⟩
theorem evw_and {rest : List Expr} {x y : Bool} (ha : EvT C ρ a x) (hr : x = true → EvW C ρ (.BoolOp .And (c :: rest) pos) y) : EvW C ρ (.BoolOp .And (a :: c :: rest) pos) (x && y) := .mk fun Pn F q σ H E wh pins s I => by
  refine (pw_and pt_sem pw_sem).run wh pins s σ H _ I ((ha.run _ F q σ H E).mono fun v H' ⟨s, r⟩ => ?_)
  subst r
  cases v with
  | true =>
    rw [if_pos rfl]
    intro wh2 pins2 s2 I2
    refine thn ((hr rfl).run _ F q σ H' (E.grow s) wh2 pins2 s2 I2) fun b s3 ⟨H3, I3, sm, e3⟩ => ⟨H3, I3, s.trans sm, by simp [e3]⟩
  | false => rw [if_neg Bool.false_ne_true]; exact ⟨s, by simp⟩
theorem evw_or {rest : List Expr} {x y : Bool} (ha : EvT C ρ a x) (hr : x = false → EvW C ρ (.BoolOp .Or (c :: rest) pos) y) : EvW C ρ (.BoolOp .Or (a :: c :: rest) pos) (x || y) := .mk fun Pn F q σ H E wh pins s I => by
  refine (pw_or pt_sem pw_sem).run wh pins s σ H _ I ((ha.run _ F q σ H E).mono fun v H' ⟨s, r⟩ => ?_)
  subst r
  cases v with
  | false =>
    rw [if_neg Bool.false_ne_true]
    intro wh2 pins2 s2 I2
    refine thn ((hr rfl).run _ F q σ H' (E.grow s) wh2 pins2 s2 I2) fun b s3 ⟨H3, I3, sm, e3⟩ => ⟨H3, I3, s.trans sm, by simp [e3]⟩
  | true => rw [if_pos rfl]; exact ⟨s, by simp⟩
theorem ev_ifExp {x : Bool} {D1 D2 : PyData} {t : Expr} (ht : EvT C ρ t x) (ha : x = true → Ev C ρ a b D) (hc : x = false → Ev C ρ c b D) : Ev C ρ (.IfExp t a c pos) b D := .mk fun Pn F q σ H E => by
  refine semE_of (pe_ifExp pt_sem pe_sem pe_sem) ((ht.run _ F q σ H E).mono fun v H' ⟨s, r⟩ => ?_)
  subst r
  cases v with
  | true => rw [if_pos rfl]; exact ((ha rfl).run _ F q σ H' (E.grow s)).mono fun _ _ ⟨s2, r2⟩ => ⟨s.trans s2, r2⟩
  | false => rw [if_neg Bool.false_ne_true]; exact ((hc rfl).run _ F q σ H' (E.grow s)).mono fun _ _ ⟨s2, r2⟩ => ⟨s.trans s2, r2⟩
end
end Rk

namespace Rk
open PySem PySem.Spec PyProof.Rows L2

section
variable {C : Ct} {ρ : List SV} {b b' b1 b2 : Bool} {e a c : Expr} {es : List Expr} {D : PyData} {Ds Es : List PyData} {pos p : Pos} {i j : Int}
/-! ### several -/
theorem evs_nil : Evs C ρ [] true [] := .mk fun Pn F q σ H E => semA_of pa_nil ⟨Same.refl _, .nil⟩
theorem evs_cons (h : Ev C ρ e b1 D) (hs : Evs C ρ es b2 Ds) (hst : starEach (e :: es) C.X.env = (false, eval e C.X.env) :: starEach es C.X.env := by rfl) : Evs C ρ (e :: es) (b1 && b2) (D :: Ds) := .mk fun Pn F q σ H E =>
  semA_of (pa_cons pe_sem pa_sem hst) ((h.run _ F q σ H E).mono fun v H1 ⟨s1, r1⟩ => (hs.run _ F q σ H1 (E.grow s1)).mono fun vs H2 ⟨s2, r2⟩ => ⟨s1.trans s2, .cons ((Ct.Env.shift (E.grow s1) s2).rv r1).and r2.and'⟩)
theorem ev_tup {x1} (h : Evs C ρ es b Ds) (hl : Ds.length ≤ sizeLine) : Ev C ρ (.Tuple es x1 pos) b (.tuple Ds) := .mk fun Pn F q σ H E =>
  semE_of (pe_tup pa_sem) ((h.run _ F q σ H E).mono fun vs H1 ⟨s1, r1⟩ => ⟨by rw [RpAll.length r1]; exact hl, fun t ht => by
    have s2 : Same H1 (upd H1 t (.tup vs)) := fun a o z => by rw [upd_ne (ne_of_none z ht)]; exact z
    exact ⟨s1.trans s2, .tup (.of upd_same) ((Ct.Env.shift (E.grow s1) s2).ra r1)⟩⟩)
theorem evo_lst (h : Evs C ρ es b Ds) (hl : Ds.length ≤ sizeLine) : EvO C ρ (.List es pos) b Ds := .mk fun Pn F q σ H E =>
  semE_of (pe_lst pa_sem) ((h.run _ F q σ H E).mono fun vs H1 ⟨s1, r1⟩ => ⟨by rw [RpAll.length r1]; exact hl, fun t ht => by
    have s2 : Same H1 (upd H1 t (.lst vs)) := fun a o z => by rw [upd_ne (ne_of_none z ht)]; exact z
    exact ⟨s1.trans s2, t, vs, rfl, s1.free ht, upd_same, (Ct.Env.fp (E.grow s1) s2 ht).ra r1⟩⟩)

/-! ### items -/
theorem atI_map {L T : Addr → List V → Prop} {vs : List V} {k : Int} {d : PyData} (r : RpAll L T vs Ds) (h : atI Ds k = some d) : ∃ v, atI vs k = some v ∧ Rp L T v d := by
  unfold atI at h ⊢
  rw [RpAll.length r]
  cases e : ixN Ds.length k with
  | none => rw [e] at h; cases h
  | some n =>
    rw [e] at h
    exact RpAll.get (i := n) r h
theorem ev_ixT (ha : Ev C ρ a b (.tuple Ds)) (hc : Ev C ρ c b1 (.int i)) (h : atI Ds i = some D) (hs : PlainIx c := by exact fun _ _ => rfl) : Ev C ρ (.Subscript a c pos) b D := .mk fun Pn F q σ H E =>
  semE_of (pe_ix ix_tup pe_sem pe_sem hs) (ev_two ha hc E fun x y H2 s r1 r2 => by
    cases r2
    cases r1 with
    | tup t r =>
      obtain ⟨v, e, rv⟩ := atI_map r h
      exact ⟨_, _, _, v, rfl, rfl, t, e, s, rv⟩)
theorem ev_ixL (ha : Bw C ρ a b Ds) (hc : Ev C ρ c b1 (.int i)) (h : atI Ds i = some D) (hs : PlainIx c := by exact fun _ _ => rfl) : Ev C ρ (.Subscript a c pos) b D := .mk fun Pn F q σ H E =>
  semE_of (pe_ix ix_list pe_sem pe_sem hs) ((ha.run _ F q σ H E).mono fun x H1 ⟨s1, a', vs, ex, e1, r1⟩ => (hc.run _ F q σ H1 (E.grow s1)).mono fun y H2 ⟨s2, r2⟩ => by
    subst ex
    cases r2
    obtain ⟨v, e, rv⟩ := atI_map r1 h
    exact ⟨_, _, _, v, rfl, rfl, s2.seq e1, e, s1.trans s2, (Ct.Env.shift (E.grow s1) s2).rv rv⟩)
/-! ### parts -/
def Eo (C : Ct) (ρ : List SV) (e : Option Expr) (o : Option Int) : Prop := match e with
  | none => o = none
  | some x => ∃ b i, o = some i ∧ Ev C ρ x b (.int i)
theorem eo_none : Eo C ρ none none := rfl
theorem eo_some (h : Ev C ρ e b (.int i)) : Eo C ρ (some e) (some i) := ⟨b, i, rfl, h⟩
def semO (X : Cx) (e : Option Expr) (σ : L2.St) (H : Hp) (Q : Option Int → Hp → Prop) : Prop := match e with
  | none => Q none H
  | some x => semE X x σ H fun v H1 => ∃ i, v = .int i ∧ Q (some i) H1
theorem po_sem {X : Cx} : ∀ {e : Option Expr}, PO X e (semO X e)
  | none => po_none
  | some x => po_some pe_sem
theorem Eo.run {e : Option Expr} {o : Option Int} {F : Addr → Prop} {q : Qn} {σ : L2.St} {Pn H : Hp} {Q : Option Int → Hp → Prop} (h : Eo C ρ e o) (E : C.Env Pn H σ ρ F q) (k : ∀ H', Same H H' → Q o H') : semO C.X e σ H Q := by
  cases e with
  | none => cases h; exact k H (Same.refl _)
  | some x =>
    obtain ⟨b, i, rfl, h⟩ := h
    exact (h.run _ F q σ H E).mono fun v H1 ⟨s, r⟩ => by cases r; exact ⟨i, rfl, k H1 s⟩
/-- xs[lo:hi] on data -/
def cutD (ds : List PyData) (lo hi : Option Int) : List PyData := (ds.drop (HT.sIx ds.length 0 lo)).take (HT.sIx ds.length ds.length hi - HT.sIx ds.length 0 lo)
theorem RpAll.cut {L T : Addr → List V → Prop} {vs : List V} (r : RpAll L T vs Ds) (lo hi : Option Int) : RpAll L T (cutV vs lo hi) (cutD Ds lo hi) := by
  unfold cutV cutD
  rw [RpAll.length r]
  exact RpAll.take _ (RpAll.drop _ r)
theorem evo_slL {lo hi : Option Expr} {l h : Option Int} {p2 : Pos} (ha : Bw C ρ a b Ds) (hl : Eo C ρ lo l) (hh : Eo C ρ hi h) : EvO C ρ (.Subscript a (.Slice lo hi none p2) pos) b (cutD Ds l h) := .mk fun Pn F q σ H E =>
  semE_of (pe_slice sl_list pe_sem po_sem po_sem) ((ha.run _ F q σ H E).mono fun x H1 ⟨s1, a', vs, ex, e1, r1⟩ => hl.run (E.grow s1) fun H2 s2 => hh.run (E.grow (s1.trans s2)) fun H3 s3 => by
    subst ex
    have s13 := s2.trans s3
    refine ⟨_, vs, rfl, s13.seq e1, fun t ht => ?_⟩
    have s4 : Same H3 (upd H3 t (.lst (cutV vs l h))) := fun a o z => by rw [upd_ne (ne_of_none z ht)]; exact z
    have s14 := s1.trans s13
    exact ⟨s14.trans s4, t, _, rfl, s14.free ht, upd_same, (Ct.Env.fp (E.grow s14) s4 ht).ra ((Ct.Env.shift (E.grow s1) s13).ra (r1.cut l h))⟩)

/-! ### calls of built-in functions -/
theorem ev_callB {id : String} {x : Str} {r : List V → Hp → VK → Prop} (hr : CallR C.X (.builtin id) r) (hg : Gl C.X x) (hm : C.X.mg x = none) (hv : bootBuiltins x = some (.builtin id)) (h : Evs C ρ (e :: es) b Ds)
    (k : ∀ (N : Addr → Prop) vs H Q, C.Rs b H N vs Ds → (∀ v H', Same H H' → C.R b' H' N v D → Q v H') → r vs H Q)
    (hn : x ≠ "__name__" := by decide) (hdb : (x == ("__debug__" : Str)) = false := by decide)
    (he : starEach (e :: es) C.X.env = (false, eval e C.X.env) :: starEach es C.X.env := by rfl) (hpl : (backTo pos (starEach es C.X.env)).any (·.1) = false := by rfl) : Ev C ρ (.Call (.Name x p) (e :: es) [] pos) b' D := .mk fun Pn F q σ H E =>
  semE_of (pe_callB hr hg hm hv pa_sem hn hdb he hpl) ((h.run _ F q σ H E).mono fun vs H1 ⟨s1, r1⟩ => k (Own q F) vs H1 _ r1 fun v H' s2 rr => ⟨s1.trans s2, rr⟩)
theorem ev_callTy {T : String} {x : Str} {r : List V → Hp → VK → Prop} (hr : CallR C.X (.type T) r) (hg : Gl C.X x) (hm : C.X.mg x = none) (hv : bootBuiltins x = some (.type T)) (h : Evs C ρ (e :: es) b Ds)
    (k : ∀ (N : Addr → Prop) vs H Q, C.Rs b H N vs Ds → (∀ v H', Same H H' → C.R b' H' N v D → Q v H') → r vs H Q)
    (hn : x ≠ "__name__" := by decide) (hdb : (x == ("__debug__" : Str)) = false := by decide)
    (he : starEach (e :: es) C.X.env = (false, eval e C.X.env) :: starEach es C.X.env := by rfl) (hpl : (backTo pos (starEach es C.X.env)).any (·.1) = false := by rfl) : Ev C ρ (.Call (.Name x p) (e :: es) [] pos) b' D := .mk fun Pn F q σ H E =>
  semE_of (pe_callTy hr hg hm hv pa_sem hn hdb he hpl) ((h.run _ F q σ H E).mono fun vs H1 ⟨s1, r1⟩ => k (Own q F) vs H1 _ r1 fun v H' s2 rr => ⟨s1.trans s2, rr⟩)
/-- one argument that is a list to be read -/
theorem semA1_of {X : Cx} {σ : L2.St} {H : Hp} {Q : List V → Hp → Prop} (h : semE X e σ H fun v H' => Q [v] H') (he : starEach (e :: []) X.env = (false, eval e X.env) :: starEach [] X.env := by rfl) : semA X [e] σ H Q :=
  semA_of (pa_cons pe_sem pa_nil he) (h.mono fun v H' q => q)
theorem ev_callBw {id : String} {x : Str} {r : List V → Hp → VK → Prop} (hr : CallR C.X (.builtin id) r) (hg : Gl C.X x) (hm : C.X.mg x = none) (hv : bootBuiltins x = some (.builtin id)) (h : Bw C ρ e b Ds)
    (k : ∀ (N : Addr → Prop) a vs H Q, SqL C.X.K H a vs → C.Rs b H N vs Ds → (∀ v H', Same H H' → C.R b' H' N v D → Q v H') → r [.ref a] H Q)
    (hn : x ≠ "__name__" := by decide) (hdb : (x == ("__debug__" : Str)) = false := by decide)
    (he : starEach (e :: []) C.X.env = (false, eval e C.X.env) :: starEach [] C.X.env := by rfl) (hpl : (backTo pos (starEach [] C.X.env)).any (·.1) = false := by rfl) : Ev C ρ (.Call (.Name x p) [e] [] pos) b' D := .mk fun Pn F q σ H E =>
  semE_of (pe_callB hr hg hm hv pa_sem hn hdb he hpl) (semA1_of ((h.run _ F q σ H E).mono fun v H1 ⟨s1, a, vs, ex, e1, r1⟩ => by
    subst ex
    exact k (Own q F) a vs H1 _ e1 r1 fun v H' s2 rr => ⟨s1.trans s2, rr⟩) he)
theorem ev_callTyBw {T : String} {x : Str} {r : List V → Hp → VK → Prop} (hr : CallR C.X (.type T) r) (hg : Gl C.X x) (hm : C.X.mg x = none) (hv : bootBuiltins x = some (.type T)) (h : Bw C ρ e b Ds)
    (k : ∀ (N : Addr → Prop) a vs H Q, SqL C.X.K H a vs → C.Rs b H N vs Ds → OwnOk H N → (∀ v H', Same H H' → C.R b' H' N v D → Q v H') → r [.ref a] H Q)
    (hn : x ≠ "__name__" := by decide) (hdb : (x == ("__debug__" : Str)) = false := by decide)
    (he : starEach (e :: []) C.X.env = (false, eval e C.X.env) :: starEach [] C.X.env := by rfl) (hpl : (backTo pos (starEach [] C.X.env)).any (·.1) = false := by rfl) : Ev C ρ (.Call (.Name x p) [e] [] pos) b' D := .mk fun Pn F q σ H E =>
  semE_of (pe_callTy hr hg hm hv pa_sem hn hdb he hpl) (semA1_of ((h.run _ F q σ H E).mono fun v H1 ⟨s1, a, vs, ex, e1, r1⟩ => by
    subst ex
    exact k (Own q F) a vs H1 _ e1 r1 (E.grow s1).own fun v H' s2 rr => ⟨s1.trans s2, rr⟩) he)
/-- len -/
theorem ev_lenL (hm : C.X.mg "len" = none) (h : Bw C ρ e b Ds) (he : starEach (e :: []) C.X.env = (false, eval e C.X.env) :: starEach [] C.X.env := by rfl) (hg : Gl C.X "len" := by rfl) : Ev C ρ (.Call (.Name "len" p) [e] [] pos) true (.int (Ds.length : Int)) :=
  ev_callBw call_len_seq hg hm PySem.boot_len h (fun N a vs H Q sq r k => ⟨a, vs, rfl, .inl sq, k _ H (Same.refl _) (by rw [RpAll.length r]; exact .int _)⟩) (he := he)
theorem ev_lenT (hm : C.X.mg "len" = none) (h : Ev C ρ e b (.tuple Ds)) (he : starEach (e :: []) C.X.env = (false, eval e C.X.env) :: starEach [] C.X.env := by rfl) (hg : Gl C.X "len" := by rfl) : Ev C ρ (.Call (.Name "len" p) [e] [] pos) true (.int (Ds.length : Int)) :=
  ev_callB call_len_seq hg hm PySem.boot_len (evs_cons h evs_nil he) (fun N vs H Q r k => by
    cases r with
    | cons r1 r2 =>
      cases r2
      cases r1 with
      | tup t r => exact ⟨_, _, rfl, .inr t, k _ H (Same.refl _) (by rw [RpAll.length r]; exact .int _)⟩) (he := he)
theorem ev_abs (hm : C.X.mg "abs" = none) (h : Ev C ρ e b (.int i)) (he : starEach (e :: []) C.X.env = (false, eval e C.X.env) :: starEach [] C.X.env := by rfl) (hg : Gl C.X "abs" := by rfl) : Ev C ρ (.Call (.Name "abs" p) [e] [] pos) true (.int (i.natAbs : Int)) :=
  ev_callB call_abs hg hm (by decide +kernel) (evs_cons h evs_nil he) (fun N vs H Q r k => by
    cases r with
    | cons r1 r2 =>
      cases r2; cases r1
      have e : (if i < 0 then -i else i) = (i.natAbs : Int) := by split <;> omega
      exact ⟨i, rfl, by rw [e]; exact k _ H (Same.refl _) (.int _)⟩) (he := he)
theorem ev_max2 {e2 : Expr} (hc : C.X.calm = true) (hm : C.X.mg "max" = none) (h : Ev C ρ e b (.int i)) (h2 : Ev C ρ e2 b1 (.int j)) (he : starEach (e :: [e2]) C.X.env = (false, eval e C.X.env) :: starEach [e2] C.X.env := by rfl) (he2 : starEach (e2 :: []) C.X.env = (false, eval e2 C.X.env) :: starEach [] C.X.env := by rfl) (hpl : (backTo pos (starEach [e2] C.X.env)).any (·.1) = false := by rfl) (hg : Gl C.X "max" := by rfl) : Ev C ρ (.Call (.Name "max" p) [e, e2] [] pos) true (.int (max i j)) :=
  ev_callB (call_max2 hc) hg hm boot_max (evs_cons h (evs_cons h2 evs_nil he2) he) (fun N vs H Q r k => by
    cases r with
    | cons r1 r2 =>
      cases r2 with
      | cons r2 r3 =>
        cases r3; cases r1; cases r2
        have e : (if j > i then j else i) = max i j := by split <;> omega
        exact ⟨i, j, rfl, by rw [e]; exact k _ H (Same.refl _) (.int _)⟩) (he := he) (hpl := hpl)
theorem ev_min2 {e2 : Expr} (hc : C.X.calm = true) (hm : C.X.mg "min" = none) (h : Ev C ρ e b (.int i)) (h2 : Ev C ρ e2 b1 (.int j)) (he : starEach (e :: [e2]) C.X.env = (false, eval e C.X.env) :: starEach [e2] C.X.env := by rfl) (he2 : starEach (e2 :: []) C.X.env = (false, eval e2 C.X.env) :: starEach [] C.X.env := by rfl) (hpl : (backTo pos (starEach [e2] C.X.env)).any (·.1) = false := by rfl) (hg : Gl C.X "min" := by rfl) : Ev C ρ (.Call (.Name "min" p) [e, e2] [] pos) true (.int (min i j)) :=
  ev_callB (call_min2 hc) hg hm boot_min (evs_cons h (evs_cons h2 evs_nil he2) he) (fun N vs H Q r k => by
    cases r with
    | cons r1 r2 =>
      cases r2 with
      | cons r2 r3 =>
        cases r3; cases r1; cases r2
        have e : (if j < i then j else i) = min i j := by split <;> omega
        exact ⟨i, j, rfl, by rw [e]; exact k _ H (Same.refl _) (.int _)⟩) (he := he) (hpl := hpl)
/-- int(test) -/
def b2z (x : Bool) : Int := if x = true then 1 else 0
theorem ev_intB {x : Bool} (hm : C.X.mg "int" = none) (h : Ev C ρ e b (.bool x)) (he : starEach (e :: []) C.X.env = (false, eval e C.X.env) :: starEach [] C.X.env := by rfl) (hg : Gl C.X "int" := by rfl) : Ev C ρ (.Call (.Name "int" p) [e] [] pos) true (.int (b2z x)) :=
  ev_callTy call_int1 hg hm boot_int (evs_cons h evs_nil he) (fun N vs H Q r k => by
    cases r with
    | cons r1 r2 =>
      cases r2; cases r1
      exact .inr ⟨x, rfl, k _ H (Same.refl _) (.int _)⟩) (he := he)
/-- all, any of tests -/
theorem ev_all {bs : List Bool} (hc : C.X.calm = true) (hm : C.X.mg "all" = none) (h : Bw C ρ e b (bs.map .bool)) (he : starEach (e :: []) C.X.env = (false, eval e C.X.env) :: starEach [] C.X.env := by rfl) (hg : Gl C.X "all" := by rfl) : Ev C ρ (.Call (.Name "all" p) [e] [] pos) true (.bool (bs.all id)) :=
  ev_callBw (cr_all hc) hg hm (by decide +kernel) h (fun N a vs H Q sq r k => by
    rw [RpAll.bls r] at sq
    exact ⟨a, bs, rfl, sq, k _ H (Same.refl _) (.bl _)⟩) (he := he)
theorem ev_sumL {ns : List Int} (hc : C.X.calm = true) (hm : C.X.mg "sum" = none) (h : Bw C ρ e b (ns.map .int)) (he : starEach (e :: []) C.X.env = (false, eval e C.X.env) :: starEach [] C.X.env := by rfl) (hg : Gl C.X "sum" := by rfl) : Ev C ρ (.Call (.Name "sum" p) [e] [] pos) true (.int ns.sum) :=
  ev_callBw (cr_sum hc) hg hm (by decide +kernel) h (fun N a vs H Q sq r k => by
    rw [RpAll.ints r] at sq
    exact ⟨a, ns, rfl, sq, k _ H (Same.refl _) (.int _)⟩) (he := he)
/-- the greatest, the least of ints -/
def gMax : List Int → Int
  | [] => 0
  | n :: ns => ns.foldl max n
def gMin : List Int → Int
  | [] => 0
  | n :: ns => ns.foldl min n
theorem foldl_max : ∀ (ns : List Int) (n : Int), (ns.foldl max n ∈ n :: ns) ∧ ∀ y ∈ n :: ns, y ≤ ns.foldl max n
  | [], n => by simp
  | m :: ns, n => by
    obtain ⟨h1, h2⟩ := foldl_max ns (max n m)
    simp only [List.foldl_cons]
    refine ⟨?_, fun y hy => ?_⟩
    · rcases List.mem_cons.mp h1 with h | h
      · rw [h]
        rcases Int.le_total n m with q | q
        · rw [Int.max_eq_right q]; simp
        · rw [Int.max_eq_left q]; simp
      · simp [h]
    · have q := h2 (max n m) (by simp)
      rcases List.mem_cons.mp hy with rfl | hy
      · omega
      · rcases List.mem_cons.mp hy with rfl | hy
        · omega
        · exact h2 y (by simp [hy])
theorem foldl_min : ∀ (ns : List Int) (n : Int), (ns.foldl min n ∈ n :: ns) ∧ ∀ y ∈ n :: ns, ns.foldl min n ≤ y
  | [], n => by simp
  | m :: ns, n => by
    obtain ⟨h1, h2⟩ := foldl_min ns (min n m)
    simp only [List.foldl_cons]
    refine ⟨?_, fun y hy => ?_⟩
    · rcases List.mem_cons.mp h1 with h | h
      · rw [h]
        rcases Int.le_total n m with q | q
        · rw [Int.min_eq_left q]; simp
        · rw [Int.min_eq_right q]; simp
      · simp [h]
    · have q := h2 (min n m) (by simp)
      rcases List.mem_cons.mp hy with rfl | hy
      · omega
      · rcases List.mem_cons.mp hy with rfl | hy
        · omega
        · exact h2 y (by simp [hy])
theorem gMax_eq {ns : List Int} {m : Int} (h : m ∈ ns) (h2 : ∀ y, y ∈ ns → y ≤ m) : m = gMax ns := by
  cases ns with
  | nil => simp at h
  | cons n ns =>
    obtain ⟨q1, q2⟩ := foldl_max ns n
    have := q2 m h
    have := h2 _ q1
    show m = ns.foldl max n
    omega
theorem gMin_eq {ns : List Int} {m : Int} (h : m ∈ ns) (h2 : ∀ y, y ∈ ns → m ≤ y) : m = gMin ns := by
  cases ns with
  | nil => simp at h
  | cons n ns =>
    obtain ⟨q1, q2⟩ := foldl_min ns n
    have := q2 m h
    have := h2 _ q1
    show m = ns.foldl min n
    omega
theorem gMax_mem {ns : List Int} (h : ns ≠ []) : gMax ns ∈ ns := by
  cases ns with
  | nil => exact absurd rfl h
  | cons n ns => exact (foldl_max ns n).1
theorem gMax_le {ns : List Int} {y : Int} (h : y ∈ ns) : y ≤ gMax ns := by
  cases ns with
  | nil => simp at h
  | cons n ns => exact (foldl_max ns n).2 y h
theorem gMin_mem {ns : List Int} (h : ns ≠ []) : gMin ns ∈ ns := by
  cases ns with
  | nil => exact absurd rfl h
  | cons n ns => exact (foldl_min ns n).1
theorem gMin_le {ns : List Int} {y : Int} (h : y ∈ ns) : gMin ns ≤ y := by
  cases ns with
  | nil => simp at h
  | cons n ns => exact (foldl_min ns n).2 y h
theorem ev_maxL {ns : List Int} (hc : C.X.calm = true) (hm : C.X.mg "max" = none) (h : Bw C ρ e b (ns.map .int)) (hn : ns ≠ []) (he : starEach (e :: []) C.X.env = (false, eval e C.X.env) :: starEach [] C.X.env := by rfl) (hg : Gl C.X "max" := by rfl) : Ev C ρ (.Call (.Name "max" p) [e] [] pos) true (.int (gMax ns)) :=
  ev_callBw (cr_max hc) hg hm boot_max h (fun N a vs H Q sq r k => by
    rw [RpAll.ints r] at sq
    exact ⟨a, ns, rfl, sq, List.length_pos_iff.mpr hn, fun m h1 h2 => by rw [gMax_eq h1 h2]; exact k _ H (Same.refl _) (.int _)⟩) (he := he)
theorem ev_minL {ns : List Int} (hc : C.X.calm = true) (hm : C.X.mg "min" = none) (h : Bw C ρ e b (ns.map .int)) (hn : ns ≠ []) (he : starEach (e :: []) C.X.env = (false, eval e C.X.env) :: starEach [] C.X.env := by rfl) (hg : Gl C.X "min" := by rfl) : Ev C ρ (.Call (.Name "min" p) [e] [] pos) true (.int (gMin ns)) :=
  ev_callBw (cr_min hc) hg hm boot_min h (fun N a vs H Q sq r k => by
    rw [RpAll.ints r] at sq
    exact ⟨a, ns, rfl, sq, List.length_pos_iff.mpr hn, fun m h1 h2 => by rw [gMin_eq h1 h2]; exact k _ H (Same.refl _) (.int _)⟩) (he := he)
/-- list(xs), tuple(xs) -/
theorem evo_listL (hm : C.X.mg "list" = none) (h : Bw C ρ e b Ds) (he : starEach (e :: []) C.X.env = (false, eval e C.X.env) :: starEach [] C.X.env := by rfl) (hpl : (backTo pos (starEach [] C.X.env)).any (·.1) = false := by rfl) (hg : Gl C.X "list" := by rfl) : EvO C ρ (.Call (.Name "list" p) [e] [] pos) b Ds := .mk fun Pn F q σ H E =>
  semE_of (pe_callTy call_list_of hg hm (by decide +kernel) pa_sem (he := he) (hpl := hpl)) (semA1_of ((h.run _ F q σ H E).mono fun v H1 ⟨s1, a, vs, ex, e1, r1⟩ => by
    subst ex
    refine ⟨a, vs, rfl, .inl e1, fun t ht => ?_⟩
    have s2 : Same H1 (upd H1 t (.lst vs)) := fun a o z => by rw [upd_ne (ne_of_none z ht)]; exact z
    exact ⟨s1.trans s2, t, vs, rfl, s1.free ht, upd_same, (Ct.Env.fp (E.grow s1) s2 ht).ra r1⟩) he)
theorem evo_listT (hm : C.X.mg "list" = none) (h : Ev C ρ e b (.tuple Ds)) (he : starEach (e :: []) C.X.env = (false, eval e C.X.env) :: starEach [] C.X.env := by rfl) (hpl : (backTo pos (starEach [] C.X.env)).any (·.1) = false := by rfl) (hg : Gl C.X "list" := by rfl) : EvO C ρ (.Call (.Name "list" p) [e] [] pos) b Ds := .mk fun Pn F q σ H E =>
  semE_of (pe_callTy call_list_of hg hm (by decide +kernel) pa_sem (he := he) (hpl := hpl)) (semA1_of ((h.run _ F q σ H E).mono fun v H1 ⟨s1, r⟩ => by
    cases r with
    | @tup a vs _ t r1 =>
      refine ⟨a, vs, rfl, .inr t, fun t ht => ?_⟩
      have s2 : Same H1 (upd H1 t (.lst vs)) := fun a o z => by rw [upd_ne (ne_of_none z ht)]; exact z
      exact ⟨s1.trans s2, t, vs, rfl, s1.free ht, upd_same, (Ct.Env.fp (E.grow s1) s2 ht).ra r1⟩) he)
theorem ev_tupL (hm : C.X.mg "tuple" = none) (h : Bw C ρ e b Ds) (he : starEach (e :: []) C.X.env = (false, eval e C.X.env) :: starEach [] C.X.env := by rfl) (hg : Gl C.X "tuple" := by rfl) : Ev C ρ (.Call (.Name "tuple" p) [e] [] pos) b (.tuple Ds) :=
  ev_callTyBw call_tuple_of hg hm (by decide +kernel) h (fun N a vs H Q sq r o k => ⟨a, vs, rfl, .inl ⟨sq, fun t ht => by
    have s2 : Same H (upd H t (.tup vs)) := fun a o z => by rw [upd_ne (ne_of_none z ht)]; exact z
    exact k _ _ s2 (.tup (.of upd_same) ((Shift.same o s2).ra r))⟩⟩) (he := he)
/-! ### lists glued -/
theorem evo_cat {b1 b2 : Bool} {Ds1 Ds2 : List PyData} (ha : Bx C ρ a b1 Ds1) (hc : Bx C ρ c b2 Ds2) (hl : Ds1.length + Ds2.length ≤ sizeLine) : EvO C ρ (.BinOp a .Add c pos) (b1 && b2) (Ds1 ++ Ds2) := .mk fun Pn F q σ H E =>
  semE_of (pe_op op_cat pe_sem pe_sem) (xx_two ha hc E fun a' vs c' us H2 s e r1 e2 r2 => ⟨_, _, vs, us, rfl, rfl, e, e2, by rw [RpAll.length r1, RpAll.length r2]; exact hl, fun t ht => by
    have s2 : Same H2 (upd H2 t (.lst (vs ++ us))) := fun a o z => by rw [upd_ne (ne_of_none z ht)]; exact z
    exact ⟨s.trans s2, t, _, rfl, s.free ht, upd_same, (Ct.Env.fp (E.grow s) s2 ht).ra (RpAll.append r1.and r2.and')⟩⟩)
/-- tuples glued -/
theorem ev_catT {b1 b2 : Bool} {Ds1 Ds2 : List PyData} (ha : Ev C ρ a b1 (.tuple Ds1)) (hc : Ev C ρ c b2 (.tuple Ds2)) (h0 : Ds1 ≠ []) (hl : Ds1.length + Ds2.length ≤ sizeLine) : Ev C ρ (.BinOp a .Add c pos) (b1 && b2) (.tuple (Ds1 ++ Ds2)) :=
  ev_op op_catT ha hc fun N x y H Q o r1 r2 k => by
    cases r1 with
    | @tup a vs _ t1 r1 =>
      cases r2 with
      | @tup c us _ t2 r2 =>
        refine ⟨a, c, vs, us, rfl, rfl, t1, t2, ?_, by rw [RpAll.length r1, RpAll.length r2]; exact hl, fun z => ?_, fun z t ht => ?_⟩
        · intro z
          have := RpAll.length r1
          rw [z] at this
          exact h0 (List.length_eq_zero_iff.mp this.symm)
        · subst z
          cases r2
          rw [List.append_nil] at k
          exact k _ _ (Same.refl _) (.tup t1 (RA.and r1))
        · have s2 : Same H (upd H t (.tup (vs ++ us))) := fun a o z => by rw [upd_ne (ne_of_none z ht)]; exact z
          exact k _ _ s2 (.tup (.of upd_same) ((Shift.same o s2).ra (RpAll.append (RA.and r1) (RA.and' r2))))
/-- [x] * n -/
theorem flat_rep {L T : Addr → List V → Prop} {vs : List V} (r : RpAll L T vs Ds) : ∀ n : Nat, RpAll L T (List.replicate n vs).flatten (List.replicate n Ds).flatten
  | 0 => .nil
  | n + 1 => by simp only [List.replicate_succ, List.flatten_cons]; exact RpAll.append r (flat_rep r n)
theorem evo_rep {b1 b2 : Bool} {Ds1 : List PyData} (ha : Bx C ρ a b1 Ds1) (hc : Ev C ρ c b2 (.int i)) (h1 : -(2 ^ 63) ≤ i) (h2 : i < 2 ^ 63) (hl : Ds1.length * i.toNat ≤ sizeLine) : EvO C ρ (.BinOp a .Mult c pos) b1 (List.replicate i.toNat Ds1).flatten := .mk fun Pn F q σ H E =>
  semE_of (pe_op op_rep pe_sem pe_sem) (bx_two ha hc E fun a' vs y H2 s e r1 r2 => by
    cases r2
    refine ⟨_, i, vs, rfl, rfl, e, h1, h2, by rw [RpAll.length r1]; exact hl, fun t ht => ?_⟩
    have s2 : Same H2 (upd H2 t (.lst (List.replicate i.toNat vs).flatten)) := fun a o z => by rw [upd_ne (ne_of_none z ht)]; exact z
    exact ⟨s.trans s2, t, _, rfl, s.free ht, upd_same, (Ct.Env.fp (E.grow s) s2 ht).ra (flat_rep r1 _)⟩)
end
end Rk
namespace PySem
open PyProof.Rows L2
section
variable {prog : Program} {w : World} {A : Around} {E : Value → Shared → Prop} {s : Shared} {l : Addr} {xs : Array (Int × Tok)}
theorem rk_iter_tup {Q : Value → Shared → Prop} (hl : s.heap.IsTuple l (intItems xs))
    (h : ∀ s₂ : Shared, s₂ = { s with heap := s.heap.push { cls := .type "tuple_iterator", data := .fields #[.ref l, .int 0 0] } } →
      (s₂.heap.IsTupleIter s.heap.objs.size l 0 ∧ s₂.heap.IsTuple l (intItems xs)) → (∀ b ∈ [s.heap.objs.size, l], b < s₂.heap.objs.size) → l ≠ s.heap.objs.size → Q (.ref s.heap.objs.size) s₂) :
    wpAny (model prog w) A (pyIter (.ref l)) Q E s := by
  have hlt : l < s.heap.objs.size := by obtain ⟨_, e, _⟩ := hl; exact Heap.lt_size e
  refine wpAny_pyIter_tuple hl (h _ rfl ⟨⟨_, Heap.get?_push_size _ rfl, rfl, rfl⟩, hl.push _⟩ (fun b hb => ?_) (Nat.ne_of_lt hlt))
  show b < (s.heap.push _).objs.size
  rw [Heap.size_push]
  rcases List.mem_cons.mp hb with rfl | hb
  · exact Nat.lt_succ_self _
  · rcases List.mem_cons.mp hb with rfl | hb
    · exact Nat.lt_succ_of_lt hlt
    · cases hb
theorem rk_old {h' : Heap} (hk : ∀ b o, b ∉ [s.heap.objs.size] → (s.heap.push { cls := .type "tuple_iterator", data := .fields #[.ref l, .int 0 0] }).get? b = some o → h'.get? b = some o) :
    ∀ b o, s.heap.get? b = some o → h'.get? b = some o := fun b o e => by
  refine hk b o (fun hm => ?_) (Heap.get?_push_of_some _ e)
  rcases List.mem_cons.mp hm with e1 | hm
  · exact absurd (e1 ▸ Heap.lt_size e) (Nat.lt_irrefl _)
  · cases hm
theorem rk_max_tup {Q : Value → Shared → Prop} (hh : A.handled = none) (hl : s.heap.IsTuple l (intItems xs)) (hne : 0 < xs.size)
    (h : ∀ v h' tk, (intItems xs)[argBest (fun i j => decide (numAt xs i > numAt xs j)) (xs.size - 1)]? = some v → (∀ b o, s.heap.get? b = some o → h'.get? b = some o) → Q v { s with heap := h', toks := tk }) :
    wpAny (model prog w) A (call (.builtin "max") [.ref l]) Q E s := by
  refine call_max_walk (rk_iter_tup hl fun s₂ e st hfp hlI => ?_)
  subst e
  refine ⟨_, _, _, _, _, _, _, rfl, Walks.tuple (A := A.in1) hh _ l hlI (intItems xs), st, hfp, by simpa [intItems] using hne, CmpOf.ints_gt (numAt xs) (fun _ _ => intItems_at), fun v h' tk hP hk => ?_⟩
  exact h v h' tk (by simpa [intItems] using hP) (rk_old hk)
theorem rk_min_tup {Q : Value → Shared → Prop} (hh : A.handled = none) (hl : s.heap.IsTuple l (intItems xs)) (hne : 0 < xs.size)
    (h : ∀ v h' tk, (intItems xs)[argBest (fun i j => decide (numAt xs i < numAt xs j)) (xs.size - 1)]? = some v → (∀ b o, s.heap.get? b = some o → h'.get? b = some o) → Q v { s with heap := h', toks := tk }) :
    wpAny (model prog w) A (call (.builtin "min") [.ref l]) Q E s := by
  refine call_min_walk (rk_iter_tup hl fun s₂ e st hfp hlI => ?_)
  subst e
  refine ⟨_, _, _, _, _, _, _, rfl, Walks.tuple (A := A.in1) hh _ l hlI (intItems xs), st, hfp, by simpa [intItems] using hne, CmpOf.ints_lt (numAt xs) (fun _ _ => intItems_at), fun v h' tk hP hk => ?_⟩
  exact h v h' tk (by simpa [intItems] using hP) (rk_old hk)
theorem rk_sum_tup {Q : Value → Shared → Prop} (hh : A.handled = none) (hl : s.heap.IsTuple l (intItems xs))
    (h : ∀ h' tk t', (∀ b o, s.heap.get? b = some o → h'.get? b = some o) → Q (.int (preSum (numAt xs) xs.size) t') { s with heap := h', toks := tk }) :
    wpAny (model prog w) A (call (.builtin "sum") [.ref l]) Q E s := by
  refine call_sum_walkG (rk_iter_tup hl fun s₂ e st hfp hlI => ?_)
  subst e
  refine ⟨_, _, _, _, _, _, numAt xs, rfl, Walks.tuple (A := A.in1) hh _ l hlI (intItems xs), st, hfp, (fun _ _ => intItems_at), fun h' tk t' hk => ?_⟩
  have := h h' tk t' (rk_old hk)
  simpa [intItems] using this
end
end PySem
namespace Rk
open PySem PySem.Spec PyProof.Rows L2
section
variable {prog : Program} {w : World} {A : Around} {E : Value → Shared → Prop} {s : Shared} {l : Addr} {its : List Value} {ns : List Int} {Q : Value → Shared → Prop}
theorem sum_rawT (hh : A.handled = none) (hl : s.heap.IsTuple l its.toArray) (hi : IntsAre its ns)
    (h : ∀ h' tk t', (∀ b o, s.heap.get? b = some o → h'.get? b = some o) → Q (.int ns.sum t') { s with heap := h', toks := tk }) : wpAny (model prog w) A (call (.builtin "sum") [.ref l]) Q E s := by
  obtain ⟨xs, e⟩ := hi.allInts.items
  have hn : numsOf (intItems xs).toList = ns := by rw [← e]; exact hi.numsOf
  rw [nums_intItems] at hn
  rw [e] at hl
  refine PySem.rk_sum_tup hh hl fun h' tk t' hk => ?_
  have := h h' tk t' hk
  rw [preSum_eq, List.take_of_length_le (by simp), hn]; exact this
theorem max_rawT (hh : A.handled = none) (hl : s.heap.IsTuple l its.toArray) (hi : IntsAre its ns) (hne : 0 < ns.length)
    (h : ∀ h' tk M t', (∀ b o, s.heap.get? b = some o → h'.get? b = some o) → M ∈ ns → (∀ a, a ∈ ns → a ≤ M) → Q (.int M t') { s with heap := h', toks := tk }) : wpAny (model prog w) A (call (.builtin "max") [.ref l]) Q E s := by
  obtain ⟨xs, e⟩ := hi.allInts.items
  have hn : numsOf (intItems xs).toList = ns := by rw [← e]; exact hi.numsOf
  rw [nums_intItems] at hn
  subst hn
  rw [e] at hl
  have hsz : 0 < xs.size := by simpa using hne
  refine PySem.rk_max_tup hh hl hsz fun v h' tk hv hk => ?_
  obtain ⟨t, rfl⟩ := intItems_at hv
  obtain ⟨h1, h2⟩ := argBest_gt (numAt xs) (xs.size - 1)
  refine h h' tk _ t hk ?_ fun a ha => ?_
  · rw [numAt_eq]; exact PySem.getD_mem (by rw [List.length_map, Array.length_toList]; omega)
  · obtain ⟨j, hj, rfl⟩ := mem_getD ha
    rw [List.length_map, Array.length_toList] at hj
    rw [← numAt_eq]; exact h2 j (by omega)
theorem min_rawT (hh : A.handled = none) (hl : s.heap.IsTuple l its.toArray) (hi : IntsAre its ns) (hne : 0 < ns.length)
    (h : ∀ h' tk M t', (∀ b o, s.heap.get? b = some o → h'.get? b = some o) → M ∈ ns → (∀ a, a ∈ ns → M ≤ a) → Q (.int M t') { s with heap := h', toks := tk }) : wpAny (model prog w) A (call (.builtin "min") [.ref l]) Q E s := by
  obtain ⟨xs, e⟩ := hi.allInts.items
  have hn : numsOf (intItems xs).toList = ns := by rw [← e]; exact hi.numsOf
  rw [nums_intItems] at hn
  subst hn
  rw [e] at hl
  have hsz : 0 < xs.size := by simpa using hne
  refine PySem.rk_min_tup hh hl hsz fun v h' tk hv hk => ?_
  obtain ⟨t, rfl⟩ := intItems_at hv
  obtain ⟨h1, h2⟩ := argBest_lt (numAt xs) (xs.size - 1)
  refine h h' tk _ t hk ?_ fun a ha => ?_
  · rw [numAt_eq]; exact PySem.getD_mem (by rw [List.length_map, Array.length_toList]; omega)
  · obtain ⟨j, hj, rfl⟩ := mem_getD ha
    rw [List.length_map, Array.length_toList] at hj
    rw [← numAt_eq]; exact h2 j (by omega)
end
section
variable {X : Cx}
theorem istup_tuple {h : Heap} {a : Addr} {its : Array Value} (t : IsTup h a its) : h.IsTuple a its := t
theorem cr_sumT (hc : X.calm = true) : CallR X (.builtin "sum") (fun vs H Q => ∃ (a : Addr) (ns : List Int), vs = [V.ref a] ∧ SqT X.K H a (ns.map V.int) ∧ Q (.int ns.sum) H) := by
  intro pins s σ H vs us Q I r h
  obtain ⟨a, ns, rfl, hs, q⟩ := h
  obtain ⟨its, rv, hl, _⟩ := I.tuple hs
  rw [Vals.ref1 r]
  exact sum_rawT (I.ok.hd hc) (istup_tuple hl) rv.ints fun h' tk t' hk => ⟨.int _, H, I.kept hk, ⟨_, rfl⟩, q⟩
theorem cr_maxT (hc : X.calm = true) : CallR X (.builtin "max") (fun vs H Q => ∃ (a : Addr) (ns : List Int), vs = [V.ref a] ∧ SqT X.K H a (ns.map V.int) ∧ 0 < ns.length ∧ ∀ m, m ∈ ns → (∀ y, y ∈ ns → y ≤ m) → Q (.int m) H) := by
  intro pins s σ H vs us Q I r h
  obtain ⟨a, ns, rfl, hs, hne, q⟩ := h
  obtain ⟨its, rv, hl, _⟩ := I.tuple hs
  rw [Vals.ref1 r]
  exact max_rawT (I.ok.hd hc) (istup_tuple hl) rv.ints hne fun h' tk m t' hk h1 h2 => ⟨.int _, H, I.kept hk, ⟨_, rfl⟩, q m h1 h2⟩
theorem cr_minT (hc : X.calm = true) : CallR X (.builtin "min") (fun vs H Q => ∃ (a : Addr) (ns : List Int), vs = [V.ref a] ∧ SqT X.K H a (ns.map V.int) ∧ 0 < ns.length ∧ ∀ m, m ∈ ns → (∀ y, y ∈ ns → m ≤ y) → Q (.int m) H) := by
  intro pins s σ H vs us Q I r h
  obtain ⟨a, ns, rfl, hs, hne, q⟩ := h
  obtain ⟨its, rv, hl, _⟩ := I.tuple hs
  rw [Vals.ref1 r]
  exact min_rawT (I.ok.hd hc) (istup_tuple hl) rv.ints hne fun h' tk m t' hk h1 h2 => ⟨.int _, H, I.kept hk, ⟨_, rfl⟩, q m h1 h2⟩
end
section
variable {C : Ct} {ρ : List SV} {b b' b1 b2 : Bool} {e a c : Expr} {es : List Expr} {D : PyData} {Ds Es : List PyData} {pos p : Pos} {i j : Int}
theorem ev_sumT {ns : List Int} (hc : C.X.calm = true) (hm : C.X.mg "sum" = none) (h : Ev C ρ e b (.tuple (ns.map .int))) (he : starEach (e :: []) C.X.env = (false, eval e C.X.env) :: starEach [] C.X.env := by rfl) (hg : Gl C.X "sum" := by rfl) : Ev C ρ (.Call (.Name "sum" p) [e] [] pos) true (.int ns.sum) :=
  ev_callB (cr_sumT hc) hg hm (by decide +kernel) (evs_cons h evs_nil he) (fun N vs H Q r k => by
    cases r with
    | cons r1 r2 =>
      cases r2
      cases r1 with
      | tup t r =>
        rw [RpAll.ints r] at t
        exact ⟨_, ns, rfl, t, k _ H (Same.refl _) (.int _)⟩) (he := he)
theorem ev_maxT {ns : List Int} (hc : C.X.calm = true) (hm : C.X.mg "max" = none) (h : Ev C ρ e b (.tuple (ns.map .int))) (hn : ns ≠ []) (he : starEach (e :: []) C.X.env = (false, eval e C.X.env) :: starEach [] C.X.env := by rfl) (hg : Gl C.X "max" := by rfl) : Ev C ρ (.Call (.Name "max" p) [e] [] pos) true (.int (gMax ns)) :=
  ev_callB (cr_maxT hc) hg hm boot_max (evs_cons h evs_nil he) (fun N vs H Q r k => by
    cases r with
    | cons r1 r2 =>
      cases r2
      cases r1 with
      | tup t r =>
        rw [RpAll.ints r] at t
        exact ⟨_, ns, rfl, t, List.length_pos_iff.mpr hn, fun m h1 h2 => by rw [gMax_eq h1 h2]; exact k _ H (Same.refl _) (.int _)⟩) (he := he)
theorem ev_minT {ns : List Int} (hc : C.X.calm = true) (hm : C.X.mg "min" = none) (h : Ev C ρ e b (.tuple (ns.map .int))) (hn : ns ≠ []) (he : starEach (e :: []) C.X.env = (false, eval e C.X.env) :: starEach [] C.X.env := by rfl) (hg : Gl C.X "min" := by rfl) : Ev C ρ (.Call (.Name "min" p) [e] [] pos) true (.int (gMin ns)) :=
  ev_callB (cr_minT hc) hg hm boot_min (evs_cons h evs_nil he) (fun N vs H Q r k => by
    cases r with
    | cons r1 r2 =>
      cases r2
      cases r1 with
      | tup t r =>
        rw [RpAll.ints r] at t
        exact ⟨_, ns, rfl, t, List.length_pos_iff.mpr hn, fun m h1 h2 => by rw [gMin_eq h1 h2]; exact k _ H (Same.refl _) (.int _)⟩) (he := he)
end
end Rk

namespace Rk
open PySem PySem.Spec PyProof.Rows L2

/-! ### calls of defs of the text -/
/-- what an argument is, for the callee -/
inductive ArgOk (K : PySem.W.Frag) (H : Hp) : V → SV → Prop
  | d {v D} : RV K false H H (fun _ => False) v D → ArgOk K H v (.d false D)
  | s {a ns} : Scr K H a (ns.map V.int) → ArgOk K H (.ref a) (.s ns)
abbrev ArgsOk (K : PySem.W.Frag) (H : Hp) : List V → List SV → Prop := Paired (ArgOk K H)
theorem RV.base {K : PySem.W.Frag} {H0 H1 H : Hp} {N N' : Addr → Prop} {v : V} {D : PyData} {b : Bool} (r : RV K b H0 H N v D) (h : ∀ a, N' a → N a) : RV K false H1 H N' v D :=
  Rp.mono (fun _ _ z => ⟨fun n => z.1 (h _ n), z.2.1, fun e => nomatch e⟩) (fun _ _ z => z) _ _ r
theorem RA.base {K : PySem.W.Frag} {H0 H1 H : Hp} {N N' : Addr → Prop} {v : List V} {D : List PyData} {b : Bool} (r : RA K b H0 H N v D) (h : ∀ a, N' a → N a) : RA K false H1 H N' v D :=
  RpAll.mono (fun _ _ z => ⟨fun n => z.1 (h _ n), z.2.1, fun e => nomatch e⟩) (fun _ _ z => z) _ _ r
theorem noOwn {H : Hp} : OwnOk H (fun _ => False) := fun _ h => h.elim
theorem ArgOk.same {K : PySem.W.Frag} {H H' : Hp} {v : V} {A : SV} (h : ArgOk K H v A) (s : Same H H') : ArgOk K H' v A := by
  cases h with
  | d r => exact .d (RV.base ((Shift.same noOwn s).rv r) fun _ z => z)
  | s r => exact .s (r.shift (Shift.same noOwn s))
theorem ArgsOk.same {K : PySem.W.Frag} {H H' : Hp} (s : Same H H') : ∀ {vs : List V} {As : List SV}, ArgsOk K H vs As → ArgsOk K H' vs As
  | _, _, .nil => .nil
  | _, _, .cons h t => .cons (h.same s) (ArgsOk.same s t)
/-- what is promised: on such arguments a value of which R, or an error of a class of Xs -/
abbrev Spec := List SV → (PyData → Prop) → (Addr → Prop) → Prop
def spD (K : PySem.W.Frag) (S : Spec) : Sp := fun vs H Q E => ∃ As R Xs, S As R Xs ∧ ArgsOk K H vs As ∧
  (∀ v H' D, R D → Same H H' → RV K true H H' (fun _ => False) v D → Q v H') ∧ ∀ A H', Xs A → Same H H' → E (.ref A) none H'
structure Prom (P : Program) (w : World) (K : PySem.W.Frag) (mg : Str → Option Value) (base : Heap) (k : Nat) (x : Str) (S : Spec) : Prop where
  ex : ∃ f fd ps, mg x = some (.ref f) ∧ PySem.W.keepIn K (.ref f) = true ∧ Binds K fd ps [] ∧ FnOk P w K mg base (L2.CX P w) k f fd ps (spD K S)
abbrev Ct.Prom (C : Ct) (k : Nat) (x : Str) (S : Spec) : Prop := Rk.Prom C.X.prog C.X.w C.X.K C.X.mg C.X.base k x S
/-- the arguments are so -/
structure Args (C : Ct) (ρ : List SV) (es : List Expr) (As : List SV) : Prop where
  run : ∀ Pn F q σ H, C.Env Pn H σ ρ F q → semA C.X es σ H fun vs H' => Same H H' ∧ ArgsOk C.X.K H' vs As
/-- errors of the classes Xs may leave -/
def Rz (C : Ct) (Xs : Addr → Prop) : Prop := Takes C.X (fun cls d _ H => ∃ A, cls = .ref A ∧ d = none ∧ Xs A ∧ Same C.H0 H)
structure EvR (C : Ct) (ρ : List SV) (e : Expr) (R : PyData → Prop) : Prop where
  run : ∀ Pn F q σ H, C.Env Pn H σ ρ F q → semE C.X e σ H fun v H' => Same H H' ∧ ∃ D, R D ∧ C.R true H' (Own q F) v D
section
variable {C : Ct} {ρ : List SV} {b b' b1 b2 : Bool} {e a c : Expr} {es : List Expr} {D : PyData} {Ds Es : List PyData} {As : List SV} {pos p : Pos} {i j : Int} {x : Str} {S : Spec} {k : Nat} {R : PyData → Prop} {Xs : Addr → Prop}
theorem args_nil : Args C ρ [] [] := .mk fun Pn F q σ H E => semA_of pa_nil ⟨Same.refl _, .nil⟩
theorem args_d (h : Ev C ρ e b D) (hs : Args C ρ es As) (hst : starEach (e :: es) C.X.env = (false, eval e C.X.env) :: starEach es C.X.env := by rfl) : Args C ρ (e :: es) (.d false D :: As) := .mk fun Pn F q σ H E =>
  semA_of (pa_cons pe_sem pa_sem hst) ((h.run _ F q σ H E).mono fun v H1 ⟨s1, r1⟩ => (hs.run _ F q σ H1 (E.grow s1)).mono fun vs H2 ⟨s2, r2⟩ => ⟨s1.trans s2, .cons (.d (RV.base ((Ct.Env.shift (E.grow s1) s2).rv r1) fun _ z => z.elim)) r2⟩)
theorem args_x (h : Bx C ρ e b Ds) (hs : Args C ρ es As) (hst : starEach (e :: es) C.X.env = (false, eval e C.X.env) :: starEach es C.X.env := by rfl) : Args C ρ (e :: es) (.d false (.list Ds) :: As) := .mk fun Pn F q σ H E =>
  semA_of (pa_cons pe_sem pa_sem hst) ((h.run _ F q σ H E).mono fun v H1 ⟨s1, a, us, ev, ea, r1⟩ => (hs.run _ F q σ H1 (E.grow s1)).mono fun vs H2 ⟨s2, r2⟩ => ⟨s1.trans s2, .cons (by
    subst ev
    exact .d (.lst ⟨fun z => z, s2 _ _ ea, fun z => nomatch z⟩ (RA.base ((Ct.Env.shift (E.grow s1) s2).ra r1) fun _ z => z.elim))) r2⟩)
theorem args_s {n : Nat} {ns : List Int} (he : PE C.X e (tVar n)) (h : ρ[n]? = some (.s ns)) (hs : Args C ρ es As) (hst : starEach (e :: es) C.X.env = (false, eval e C.X.env) :: starEach es C.X.env := by rfl) : Args C ρ (e :: es) (.s ns :: As) := .mk fun Pn F q σ H E => by
  obtain ⟨p, hv, r⟩ := E.at_s h
  refine semA_of (pa_cons he pa_sem hst) ⟨_, hv, (hs.run _ F q σ H E).mono fun vs H2 ⟨s2, r2⟩ => ⟨s2, .cons (.s (r.shift (Ct.Env.shift E s2))) r2⟩⟩
theorem CX.never {P : Program} {w : World} {outer : List Env} {H : Hp} {s s' : Shared} {E : XK} {u : Value} (h : L2.CX P w outer H s E u s') (hE : ∀ c d H, ¬ E c d H) : False := by
  obtain ⟨a, B, H', cls, d, _, _, _, _, _, _, _, e⟩ := h
  exact hE _ _ _ e
theorem evr_core (P : C.Prom k x S) (hr : Room k C.X.A) (hg : Gl C.X x) (ha : Args C ρ (e :: es) As) (hS : S As R Xs) (hp : ∀ Pn F q σ H, C.Env Pn H σ ρ F q → ∀ H1, Same H H1 → Passes (L2.CX C.X.prog C.X.w) C.X (fun cls d H' => ∃ A, cls = .ref A ∧ d = none ∧ Xs A ∧ Same H1 H'))
    (hdb : (x == ("__debug__" : Str)) = false := by decide) (he : starEach (e :: es) C.X.env = (false, eval e C.X.env) :: starEach es C.X.env := by rfl) (hpl : (backTo pos (starEach es C.X.env)).any (·.1) = false := by rfl) : EvR C ρ (.Call (.Name x p) (e :: es) [] pos) R := .mk fun Pn F q σ H E => by
  obtain ⟨f, fd, ps, hm, hk, hb, Fn⟩ := P.ex
  intro pins s I
  refine wpAny_Call_Name_kw (ld_glob I hg hm ?_ hdb)
  refine PySem.W.callWith_K (h₀ := C.X.base) I.ok.mod.kin hk (thn (ha.run _ F q σ H E pos pins s I) fun us s1 ⟨vs, H1, I1, r, s0, q1⟩ => ⟨I1.kIn, ?_⟩) he hpl
  refine run_fn (dvs := []) (E := fun cls d H' => ∃ A, cls = .ref A ∧ d = none ∧ Xs A ∧ Same H1 H') Fn hr hb .nil (hp _ F q σ H E H1 s0) I1 r ?_
  rw [List.append_nil]
  refine ⟨As, R, Xs, hS, q1, fun v H2 D hD s2 rv => ⟨s0.trans s2, D, hD, ?_⟩, fun A H2 hA s2 => ⟨A, rfl, rfl, hA, s2⟩⟩
  refine Rp.mono (fun a xs z => ⟨fun n => ?_, z.2.1, fun _ => (E.base.trans (E.same.trans s0)).free (z.2.2 rfl)⟩) (fun _ _ z => z) _ _ rv
  obtain ⟨o, e, _⟩ := (E.grow s0).own a n
  rw [z.2.2 rfl] at e; cases e
/-- f(..) where nothing is raised -/
theorem evr_call (P : C.Prom k x S) (hr : Room k C.X.A) (ha : Args C ρ (e :: es) As) (hS : S As R (fun _ => False))
    (hdb : (x == ("__debug__" : Str)) = false := by decide) (he : starEach (e :: es) C.X.env = (false, eval e C.X.env) :: starEach es C.X.env := by rfl) (hpl : (backTo pos (starEach es C.X.env)).any (·.1) = false := by rfl) (hg : Gl C.X x := by rfl) : EvR C ρ (.Call (.Name x p) (e :: es) [] pos) R :=
  evr_core P hr hg ha hS (fun _ _ _ _ _ _ _ _ _ _ _ _ _ _ _ h => (CX.never h fun _ _ _ ⟨_, _, _, z, _⟩ => z).elim) hdb he hpl
/-- .. where an error may leave -/
theorem evr_callX (P : C.Prom k x S) (hr : Room k C.X.A) (rz : Rz C Xs) (ha : Args C ρ (e :: es) As) (hS : S As R Xs)
    (hdb : (x == ("__debug__" : Str)) = false := by decide) (he : starEach (e :: es) C.X.env = (false, eval e C.X.env) :: starEach es C.X.env := by rfl) (hpl : (backTo pos (starEach es C.X.env)).any (·.1) = false := by rfl) (hg : Gl C.X x := by rfl) : EvR C ρ (.Call (.Name x p) (e :: es) [] pos) R :=
  evr_core P hr hg ha hS (fun Pn F q σ H E H1 s1 => passes_call rz fun cls d _ H' ⟨A, e1, e2, e3, s2⟩ => ⟨A, e1, e2, e3, (E.base.trans (E.same.trans s1)).trans s2⟩) hdb he hpl
theorem EvR.imp {R' : PyData → Prop} (h : EvR C ρ e R) (k : ∀ D, R D → R' D) : EvR C ρ e R' := .mk fun Pn F q σ H E => (h.run _ F q σ H E).mono fun v H' ⟨s, D, d, r⟩ => ⟨s, D, k D d, r⟩
theorem EvR.ev (h : EvR C ρ e R) (k : ∀ D', R D' → D' = D) : Ev C ρ e b D := .mk fun Pn F q σ H E => (h.run _ F q σ H E).mono fun v H' ⟨s, D', d, r⟩ => ⟨s, by rw [← k D' d]; exact RV.weak r⟩
theorem Ev.r (h : Ev C ρ e true D) : EvR C ρ e (· = D) := .mk fun Pn F q σ H E => (h.run _ F q σ H E).mono fun v H' ⟨s, r⟩ => ⟨s, D, rfl, r⟩
/-- a call whose value is one -/
theorem ev_call (P : C.Prom k x S) (hr : Room k C.X.A) (ha : Args C ρ (e :: es) As) (hS : S As (· = D) (fun _ => False))
    (hdb : (x == ("__debug__" : Str)) = false := by decide) (he : starEach (e :: es) C.X.env = (false, eval e C.X.env) :: starEach es C.X.env := by rfl) (hpl : (backTo pos (starEach es C.X.env)).any (·.1) = false := by rfl) (hg : Gl C.X x := by rfl) : Ev C ρ (.Call (.Name x p) (e :: es) [] pos) true D :=
  (evr_call P hr ha hS hdb he hpl hg).ev fun _ h => h
/-- a call that hands back a new list of plain things: it is ours -/
theorem evo_call (P : C.Prom k x S) (hr : Room k C.X.A) (ha : Args C ρ (e :: es) As) (hS : S As (· = .list Ds) (fun _ => False)) (hf : Rk.flat.flatAll Ds = true)
    (hdb : (x == ("__debug__" : Str)) = false := by decide) (he : starEach (e :: es) C.X.env = (false, eval e C.X.env) :: starEach es C.X.env := by rfl) (hpl : (backTo pos (starEach es C.X.env)).any (·.1) = false := by rfl) (hg : Gl C.X x := by rfl) : EvO C ρ (.Call (.Name x p) (e :: es) [] pos) true Ds := .mk fun Pn F q σ H E => by
  obtain ⟨f, fd, ps, hm, hk, hb, Fn⟩ := P.ex
  intro pins s I
  refine wpAny_Call_Name_kw (ld_glob I hg hm ?_ hdb)
  refine PySem.W.callWith_K (h₀ := C.X.base) I.ok.mod.kin hk (thn (ha.run _ F q σ H E pos pins s I) fun us s1 ⟨vs, H1, I1, r, s0, q1⟩ => ⟨I1.kIn, ?_⟩) he hpl
  refine run_fn (dvs := []) (E := fun cls d H' => False) Fn hr hb .nil (fun _ _ _ _ _ _ _ h => (CX.never h fun _ _ _ z => z).elim) I1 r ?_
  rw [List.append_nil]
  refine ⟨As, _, _, hS, q1, fun v H2 D hD s2 rv => ⟨s0.trans s2, ?_⟩, fun A H2 hA s2 => hA⟩
  subst hD
  cases rv with
  | @lst a xs _ l r =>
    exact ⟨a, xs, rfl, s0.free (l.2.2 rfl), l.2.1, RpAll.flat (fun _ _ z => z) _ _ r hf⟩
end

/-! ### targets -/
def semG (X : Cx) (tg : Expr) (v : V) (σ : L2.St) (H : Hp) (Q : L2.St → Hp → Prop) : Prop := ∀ pins s u, Inv X pins σ H s → RelV v u →
    wpAny (model X.prog X.w) X.A (assign tg X.env u) (fun _ s' => ∃ σ' H', Inv X pins σ' H' s' ∧ Q σ' H') X.xe s
theorem pg_sem {X : Cx} {tg : Expr} : PG X tg (fun v σ H Q => semG X tg v σ H Q) := ⟨fun pins s _ _ _ u _ I r h => h pins s u I r⟩
theorem semG_of {X : Cx} {tg : Expr} {t : TG} {v : V} {σ : L2.St} {H : Hp} {Q : L2.St → Hp → Prop} (h : PG X tg t) (q : t v σ H Q) : semG X tg v σ H Q := fun pins s u I r => h.run pins s σ H v u Q I r q
/-- q' is q but for the slots is, that are cleared -/
def QSub (q q' : Qn) (is : List Nat) : Prop := (∀ i a, a ∈ q' i → a ∈ q i) ∧ ∀ i a, a ∈ q i → a ∈ q' i ∨ i ∈ is
theorem QSub.own {q q' : Qn} {is : List Nat} {F : Addr → Prop} (h : QSub q q' is) : ∀ a, Own q' F a → Own q F a := fun a n => n.imp id fun ⟨j, z⟩ => ⟨j, h.1 j a z⟩
theorem qsub_clr {q : Qn} {i : Nat} : QSub q (clr q i []) [i] := ⟨fun j a n => by
  by_cases e : j = i
  · subst e; rw [clr_same] at n; cases n
  · rw [clr_ne e] at n; exact n, fun j a n => by
  by_cases e : j = i
  · exact .inr (by simp [e])
  · exact .inl (by rw [clr_ne e]; exact n)⟩
theorem QSub.trans {q q1 q2 : Qn} {is js : List Nat} (h1 : QSub q q1 is) (h2 : QSub q1 q2 js) : QSub q q2 (is ++ js) := ⟨fun i a n => h1.1 i a (h2.1 i a n), fun i a n => by
  rcases h1.2 i a n with z | z
  · rcases h2.2 i a z with z | z
    · exact .inl z
    · exact .inr (by simp [z])
  · exact .inr (by simp [z])⟩
/-- a value D into the target: the slots is are set, the account is ρ' -/
structure Tgt (C : Ct) (ρ : List SV) (tg : Expr) (is : List Nat) (b : Bool) (D : PyData) (ρ' : List SV) : Prop where
  run : ∀ Pn F q σ H v, C.Env Pn H σ ρ F q → C.R b H (Own q F) v D → semG C.X tg v σ H fun σ' H' => H' = H ∧ (∃ q', C.Env Pn H σ' ρ' F q' ∧ QSub q q' is) ∧ ∀ vs : List Nat, (∀ i ∈ is, i ∈ vs) → wipe σ' vs = wipe σ vs
theorem wipe_set {σ : L2.St} {i : Nat} {x : Option V} : ∀ {vs : List Nat}, i ∈ vs → wipe (σ.set i x) vs = wipe σ vs
  | [], h => by simp at h
  | v :: vs, h => by
    unfold wipe
    by_cases hv : i ∈ vs
    · rw [wipe_set hv]
    · have e : i = v := by
        rcases List.mem_cons.mp h with h | h
        · exact h
        · exact absurd h hv
      subst e
      have : ∀ (ws : List Nat) (τ : L2.St), i ∉ ws → wipe (τ.set i x) ws = (wipe τ ws).set i x := by
        intro ws
        induction ws with
        | nil => intro τ _; rfl
        | cons w ws ih =>
          intro τ hn
          simp only [List.mem_cons, not_or] at hn
          unfold wipe
          rw [ih τ hn.2, List.set_comm _ _ hn.1]
      rw [this vs σ hv, List.set_set]
section
variable {C : Ct} {ρ ρ1 ρ2 : List SV} {b : Bool} {D : PyData} {Ds : List PyData} {pos : Pos}
theorem tgt_name {n : Nat} {x : Str} (hN : C.X.N.Nodup) (hi : C.X.N[n]? = some x) (hx : Loc C.X.env.scope x) (hl : n < ρ.length) (hf : C.X.fn x = true ∨ C.X.env.scope.names.lookup x = some .local) : Tgt C ρ (.Name x pos) [n] b D (ρ.set n (.d b D)) := .mk fun Pn F q σ H v E r =>
  semG_of (pg_name hN hi hx hf) ⟨rfl, ⟨_, E.put_d hl r, qsub_clr⟩, fun vs h => wipe_set (h n (by simp))⟩
/-- a tuple's targets -/
inductive Tgts (C : Ct) (b : Bool) : List SV → List Expr → List Nat → List PyData → List SV → Prop
  | nil {r0 : List SV} : Tgts C b r0 [] [] [] r0
  | cons {r0 r1 r2 : List SV} {t : Expr} {ts : List Expr} {is js : List Nat} {A : PyData} {As : List PyData} : Tgt C r0 t is b A r1 → Tgts C b r1 ts js As r2 → (assignEach (t :: ts) C.X.env).map (·.2) = assign t C.X.env :: (assignEach ts C.X.env).map (·.2) → Tgts C b r0 (t :: ts) (is ++ js) (A :: As) r2
def semGs (X : Cx) (ts : List Expr) (vs : List V) (σ : L2.St) (H : Hp) (Q : L2.St → Hp → Prop) : Prop := ∀ pins s us, Inv X pins σ H s → Vals vs us →
    wpAny (model X.prog X.w) X.A (assignInOrder ((assignEach ts X.env).map (·.2)) us) (fun _ s' => ∃ σ' H', Inv X pins σ' H' s' ∧ Q σ' H') X.xe s
theorem pgs_sem {X : Cx} {ts : List Expr} : PGs X ts (fun vs σ H Q => semGs X ts vs σ H Q) := ⟨fun pins s _ _ _ us _ I r h => h pins s us I r⟩
theorem semGs_of {X : Cx} {ts : List Expr} {t : TGs} {vs : List V} {σ : L2.St} {H : Hp} {Q : L2.St → Hp → Prop} (h : PGs X ts t) (q : t vs σ H Q) : semGs X ts vs σ H Q := fun pins s us I r => h.run pins s σ H vs us Q I r q
theorem semG.mono {X : Cx} {tg : Expr} {v : V} {σ : L2.St} {H : Hp} {Q Q' : L2.St → Hp → Prop} (h : semG X tg v σ H Q) (k : ∀ σ' H', Q σ' H' → Q' σ' H') : semG X tg v σ H Q' := fun pins s u I r => thn (h pins s u I r) fun _ s' ⟨σ', H', I', q⟩ => ⟨σ', H', I', k _ _ q⟩
theorem semGs.mono {X : Cx} {tg : List Expr} {v : List V} {σ : L2.St} {H : Hp} {Q Q' : L2.St → Hp → Prop} (h : semGs X tg v σ H Q) (k : ∀ σ' H', Q σ' H' → Q' σ' H') : semGs X tg v σ H Q' := fun pins s u I r => thn (h pins s u I r) fun _ s' ⟨σ', H', I', q⟩ => ⟨σ', H', I', k _ _ q⟩
theorem Tgts.run {ts : List Expr} {is : List Nat} (h : Tgts C b ρ ts is Ds ρ1) : ∀ Pn F q σ H vs, C.Env Pn H σ ρ F q → C.Rs b H (Own q F) vs Ds → semGs C.X ts vs σ H fun σ' H' => H' = H ∧ (∃ q', C.Env Pn H σ' ρ1 F q' ∧ QSub q q' is) ∧ ∀ ws : List Nat, (∀ i ∈ is, i ∈ ws) → wipe σ' ws = wipe σ ws := by
  induction h with
  | nil =>
    intro Pn F q σ H vs E r
    cases r
    exact semGs_of pgs_nil ⟨rfl, rfl, ⟨q, E, ⟨fun _ _ z => z, fun _ _ z => .inl z⟩⟩, fun _ _ => rfl⟩
  | @cons r0 r1 r2 t ts is js D Ds h1 h2 hs ih =>
    intro Pn F q σ H vs E r
    cases r with
    | cons ra rb =>
      refine semGs_of (pgs_cons pg_sem pgs_sem hs) ⟨_, _, rfl, (h1.run Pn F q σ H _ E ra).mono fun σ1 H1 ⟨eH, ⟨q1, E1, o1⟩, w1⟩ => ?_⟩
      subst eH
      have t1 : Shift H1 (Own q F) H1 (Own q1 F) := ⟨fun _ _ _ e => e, fun a n => .inl (o1.own a n), E.own⟩
      exact (ih Pn F q1 σ1 H1 _ E1 (t1.ra rb)).mono fun σ2 H2 ⟨eH, ⟨q2, E2, o2⟩, w2⟩ => ⟨eH, ⟨q2, E2, o1.trans o2⟩, fun ws hw => (w2 ws fun i hi => hw i (by simp [hi])).trans (w1 ws fun i hi => hw i (by simp [hi]))⟩
theorem tgt_tup {es : List Expr} {kk : Nat} {is : List Nat} (hc : C.X.calm = true) (h : Tgts C b ρ es is Ds ρ1) (hn : (assignEach es C.X.env).length = Ds.length := by rfl) (hst : (assignEach es C.X.env).findIdx? (·.1) = none := by rfl) : Tgt C ρ (.Tuple es kk pos) is b (.tuple Ds) ρ1 := .mk fun Pn F q σ H v E r => by
  cases r with
  | tup t r => exact semG_of (pg_tup hc pgs_sem hn hst) ⟨_, _, rfl, t, RpAll.length r, h.run Pn F q σ H _ E r⟩
end
end Rk

namespace Rk
open PySem PySem.Spec PyProof.Rows L2

/-! ### blocks -/
structure Tn where
  nx : List SV → Prop
  rt : PyData → Prop
  bk : List SV → Prop := fun _ => False
  ct : List SV → Prop := fun _ => False
def N0 : Addr → Prop := fun _ => False
def ends (C : Ct) (Pn : Hp) (T : Tn) : Ends where
  nx := fun σ H => ∃ ρ q, T.nx ρ ∧ C.Env Pn H σ ρ N0 q
  rt := fun v H => ∃ D, T.rt D ∧ Same C.H0 H ∧ RV C.X.K true C.H0 H N0 v D
  bk := fun σ H => ∃ ρ q, T.bk ρ ∧ C.Env Pn H σ ρ N0 q
  ct := fun σ H => ∃ ρ q, T.ct ρ ∧ C.Env Pn H σ ρ N0 q
structure Blk (C : Ct) (ρ : List SV) (sts : List Stmt) (T : Tn) : Prop where
  run : ∀ Pn q σ H, C.Env Pn H σ ρ N0 q → semS C.X sts (ends C Pn T) σ H
/-- what the rules ask of the context -/
structure Cz (C : Ct) (k : Nat) : Prop where
  calm : C.X.calm = true
  own : PassesOwn (model C.X.prog C.X.w) C.X.A C.X.env C.X.xe
  nd : C.X.N.Nodup
  hr : Room k C.X.A
section
variable {C : Ct} {ρ : List SV} {b b' b1 b2 : Bool} {e a c : Expr} {st : Stmt} {sts rest : List Stmt} {D : PyData} {Ds Es : List PyData} {pos p : Pos} {i j : Int} {x : Str} {T : Tn} {k : Nat} {R : PyData → Prop}
theorem Cz.u64 (Z : Cz C k) : C.X.A.units + 64 < cLine := Z.hr.units
theorem blk_nil (h : T.nx ρ) : Blk C ρ [] T := .mk fun Pn q σ H E => semS_of pss_nil ⟨ρ, q, h, E⟩
/-- the general step: the statement leaves some account -/
theorem blk_cons {t : TS} (hs : PS C.X st t) (h : ∀ Pn q σ H, C.Env Pn H σ ρ N0 q → t { ends C Pn T with nx := semS C.X rest (ends C Pn T) } σ H) : Blk C ρ (st :: rest) T := .mk fun Pn q σ H E =>
  semS_of (pss_cons hs pss_sem) (h Pn q σ H E)
theorem blk_pass : Blk C ρ rest T → Blk C ρ (.Pass pos :: rest) T := fun k => .mk fun Pn q σ H E => semS_of (pss_cons (t := tNext) ⟨fun pins s σ H D I h => by
    show wpAny _ _ (exec (.Pass pos) C.X.env) _ _ _
    exact wpAny_Pass ⟨σ, H, I, h⟩⟩ pss_sem) (k.run Pn q σ H E)
theorem blk_set {n : Nat} {p' : Pos} (Z : Cz C k) (hi : C.X.N[n]? = some x) (hx : Loc C.X.env.scope x) (hf : C.X.fn x = true ∨ C.X.env.scope.names.lookup x = some .local) (hl : n < ρ.length) (he : Ev C ρ e b D) (h : Blk C (ρ.set n (.d b D)) rest T)
    (hs : swapsWith e (some (.Name x p')) pos.line C.X.env = pure false := by rfl) : Blk C ρ (.Assign [.Name x p'] e pos :: rest) T :=
  blk_cons (ps_set Z.nd hi hx pe_sem hs hf) fun Pn q σ H E => (he.run _ _ q σ H E).mono fun v H' ⟨s, r⟩ => h.run Pn _ _ H' ((E.grow s).put_d hl r)
theorem blk_setO {n : Nat} {p' : Pos} (Z : Cz C k) (hi : C.X.N[n]? = some x) (hx : Loc C.X.env.scope x) (hf : C.X.fn x = true ∨ C.X.env.scope.names.lookup x = some .local) (hl : n < ρ.length) (he : EvO C ρ e b Ds) (h : Blk C (ρ.set n (.o b Ds)) rest T)
    (hs : swapsWith e (some (.Name x p')) pos.line C.X.env = pure false := by rfl) : Blk C ρ (.Assign [.Name x p'] e pos :: rest) T :=
  blk_cons (ps_set Z.nd hi hx pe_sem hs hf) fun Pn q σ H E => (he.run _ _ q σ H E).mono fun v H' ⟨s, p, vs, ev, hp, hp', r⟩ => by
    subst ev
    exact h.run Pn _ _ H' ((E.addF s hp hp').put_o hl (fun z => z) hp' r)
theorem blk_setR {n : Nat} {p' : Pos} (Z : Cz C k) (hi : C.X.N[n]? = some x) (hx : Loc C.X.env.scope x) (hf : C.X.fn x = true ∨ C.X.env.scope.names.lookup x = some .local) (hl : n < ρ.length) (he : EvR C ρ e R) (h : ∀ D, R D → Blk C (ρ.set n (.d true D)) rest T)
    (hs : swapsWith e (some (.Name x p')) pos.line C.X.env = pure false := by rfl) : Blk C ρ (.Assign [.Name x p'] e pos :: rest) T :=
  blk_cons (ps_set Z.nd hi hx pe_sem hs hf) fun Pn q σ H E => (he.run _ _ q σ H E).mono fun v H' ⟨s, D, d, r⟩ => (h D d).run Pn _ _ H' ((E.grow s).put_d hl r)
theorem blk_expr (he : Ev C ρ e b D) (h : Blk C ρ rest T) (hs : swapsWith e none pos.line C.X.env = pure false := by rfl) : Blk C ρ (.Expr e pos :: rest) T :=
  blk_cons (ps_expr pe_sem hs) fun Pn q σ H E => (he.run _ _ q σ H E).mono fun v H' ⟨s, r⟩ => h.run Pn _ _ H' (E.grow s)
theorem blk_exprR (he : EvR C ρ e R) (h : ∀ D, R D → Blk C ρ rest T) (hs : swapsWith e none pos.line C.X.env = pure false := by rfl) : Blk C ρ (.Expr e pos :: rest) T :=
  blk_cons (ps_expr pe_sem hs) fun Pn q σ H E => (he.run _ _ q σ H E).mono fun v H' ⟨s, D, d, r⟩ => (h D d).run Pn _ _ H' (E.grow s)
theorem blk_ret (he : Ev C ρ e b D) (h : T.rt D) (hb : b = true := by rfl) : Blk C ρ (.Return (some e) pos :: rest) T := by
  subst hb
  exact blk_cons (ps_ret pe_sem) fun Pn q σ H E => (he.run _ _ q σ H E).mono fun v H' ⟨s, r⟩ => ⟨D, h, E.base.trans (E.same.trans s), Rp.mono (fun _ _ z => ⟨fun n => n, z.2⟩) (fun _ _ z => z) _ _ r⟩
theorem blk_retR (he : EvR C ρ e R) (h : ∀ D, R D → T.rt D) : Blk C ρ (.Return (some e) pos :: rest) T :=
  blk_cons (ps_ret pe_sem) fun Pn q σ H E => (he.run _ _ q σ H E).mono fun v H' ⟨s, D, d, r⟩ => ⟨D, h D d, E.base.trans (E.same.trans s), Rp.mono (fun _ _ z => ⟨fun n => n, z.2⟩) (fun _ _ z => z) _ _ r⟩
/-- an owned list is handed back -/
theorem blk_retO {n : Nat} {p' : Pos} (he : PE C.X (.Name x p') (tVar n)) (hn : ρ[n]? = some (.o true Ds)) (h : T.rt (.list Ds)) : Blk C ρ (.Return (some (.Name x p')) pos :: rest) T :=
  blk_cons (ps_ret he) fun Pn q σ H E => by
    obtain ⟨v, hv, r⟩ := (E.freeze hn).at_d (i := n) (by rw [List.getElem?_set_self (List.getElem?_eq_some_iff.mp hn).1])
    exact ⟨v, hv, _, h, E.base.trans E.same, Rp.mono (fun _ _ z => ⟨fun n => n, z.2⟩) (fun _ _ z => z) _ _ r⟩
theorem blk_ret0 (h : T.rt .none) : Blk C ρ (.Return none pos :: rest) T := blk_cons ps_retN fun Pn q σ H E => ⟨.none, h, E.base.trans E.same, .non⟩
/-- the account changed by hand -/
theorem blk_freeze (n : Nat) (hn : ρ[n]? = some (.o b Ds)) (h : Blk C (ρ.set n (.d b (.list Ds))) sts T) : Blk C ρ sts T := .mk fun Pn q σ H E => h.run Pn _ σ H (E.freeze hn)
theorem blk_forget (n : Nat) (h : Blk C (ρ.set n .u) sts T) : Blk C ρ sts T := .mk fun Pn q σ H E => h.run Pn _ σ H E.forget
theorem blk_if {y : Bool} {A B : List Stmt} (hc : EvT C ρ c y) (h1 : y = true → Blk C ρ A { T with nx := fun r => Blk C r rest T }) (h2 : y = false → Blk C ρ B { T with nx := fun r => Blk C r rest T }) : Blk C ρ (.If c A B pos :: rest) T :=
  blk_cons (ps_if pt_sem pss_sem pss_sem) fun Pn q σ H E => (hc.run _ _ q σ H E).mono fun v H' ⟨s, ev⟩ => by
    subst ev
    have fin : ∀ {sts : List Stmt}, Blk C ρ sts { T with nx := fun r => Blk C r rest T } → semS C.X sts { ends C Pn T with nx := semS C.X rest (ends C Pn T) } σ H' := fun h =>
      (h.run Pn q σ H' (E.grow s)).mono (fun σ1 H1 ⟨r, q1, k, E1⟩ => k.run Pn q1 σ1 H1 E1) (fun _ _ z => z) (fun _ _ z => z) (fun _ _ z => z)
    cases v with
    | true => rw [if_pos rfl]; exact fin (h1 rfl)
    | false => rw [if_neg Bool.false_ne_true]; exact fin (h2 rfl)
/-- an if that does not come back when its test holds -/
theorem blk_ifR {y : Bool} {A : List Stmt} (hc : EvT C ρ c y) (h1 : y = true → Blk C ρ A { T with nx := fun _ => False }) (h2 : y = false → Blk C ρ rest T) : Blk C ρ (.If c A [] pos :: rest) T :=
  blk_if hc (fun e => .mk fun Pn q σ H E => ((h1 e).run Pn q σ H E).mono (fun _ _ ⟨_, _, z, _⟩ => z.elim) (fun _ _ z => z) (fun _ _ z => z) (fun _ _ z => z)) fun e => blk_nil (h2 e)
/-- several targets -/
theorem blk_unpack {tg : Expr} {is : List Nat} {ρ' : List SV} (he : Ev C ρ e b D) (ht : Tgt C ρ tg is b D ρ') (h : Blk C ρ' rest T) (hs : swapsWithSole [tg] e pos.line C.X.env = pure false := by rfl) (hw : swappedStores [tg] e C.X.env = pure none := by rfl)
    (h1 : (assignEach [tg] C.X.env).map (·.2) = [assign tg C.X.env] := by rfl) : Blk C ρ (.Assign [tg] e pos :: rest) T :=
  blk_cons (ps_asg pe_sem pg_sem hs hw h1) fun Pn q σ H E => (he.run _ _ q σ H E).mono fun v H' ⟨s, r⟩ => (ht.run Pn _ q σ H' v (E.grow s) r).mono fun σ1 H1 ⟨eH, ⟨q1, E1, _⟩, _⟩ => by
    subst eH; exact h.run Pn q1 σ1 H1 E1
/-- a, b = x, y -/
theorem blk_par {n m : Nat} {x y : Str} {e2 : Expr} {D2 : PyData} {px py pt : Pos} {kt k2 pt2} (Z : Cz C k) (hi : C.X.N[n]? = some x) (hj : C.X.N[m]? = some y) (hij : n ≠ m) (hn : n < ρ.length) (hm : m < ρ.length)
    (hx : C.X.env.scope.names.lookup x = some .local) (hy : C.X.env.scope.names.lookup y = some .local) (he : Ev C ρ e b1 D) (he2 : Ev C ρ e2 b2 D2) (h : Blk C ((ρ.set n (.d b1 D)).set m (.d b2 D2)) rest T)
    (hp : PS C.X (.Assign [.Tuple [.Name x px, .Name y py] kt pt] (.Tuple [e, e2] k2 pt2) pos) (tPar n m (tCons (semE C.X e) (tCons (semE C.X e2) tNil)))) : Blk C ρ (.Assign [.Tuple [.Name x px, .Name y py] kt pt] (.Tuple [e, e2] k2 pt2) pos :: rest) T :=
  blk_cons hp fun Pn q σ H E => by
    show semE C.X e σ H fun v H1 => semE C.X e2 σ H1 fun w' H2 => _
    refine ev_two he he2 E fun v w' H2 s r1 r2 => ⟨v, w', rfl, ?_⟩
    have E1 := (E.grow s).put_d hn r1
    have t : Shift H2 (Own q N0) H2 (Own (clr q n []) N0) := ⟨fun _ _ _ z => z, fun a z => .inl (qsub_clr.own a z), (E.grow s).own⟩
    exact h.run Pn _ _ H2 (E1.put_d (by simpa using hm) (t.rv r2))

/-! ### what is walked -/
/-- fr: a loop whose body may write; the items Es in a row -/
def Src (C : Ct) (ρ : List SV) (tg iter : Expr) (fr b : Bool) (Ds : List PyData) : Prop :=
  ∃ wi, PI C.X tg iter wi ∧ ∀ Pn F q σ H, C.Env Pn H σ ρ F q → ∀ R : It → Hp → Prop,
    (∀ J G Y H', Same H H' → Walk J Ds.length G Y → (∀ H2, (∀ a o, (fr = true → ¬ Own q F a) → H' a = some o → H2 a = some o) → G H2) →
      (∀ i H1 v H2, i < Ds.length → Y i H1 v H2 → Same H1 H2 ∧ ∃ D, Ds[i]? = some D ∧ ∀ N1, Shift H' (Own q F) H2 N1 → C.R b H2 N1 v D) → R J H') → wi σ H R
theorem ya {vs : List V} {L T : Addr → List V → Prop} {n : Nat} {v : V} (r : RpAll L T vs Ds) (h : vs[n]? = some v) : ∃ D, Ds[n]? = some D ∧ Rp L T v D := RpAll.get' r h
theorem src_list {tg : Expr} {fr : Bool} (h : Ev C ρ e b (.list Ds)) : Src C ρ tg e fr b Ds := ⟨_, pi_list pe_sem, fun Pn F q σ H E R k => (h.run _ F q σ H E).mono fun v H' ⟨s, r⟩ => by
  cases r with
  | @lst a vs _ l r =>
    refine ⟨a, rfl, ⟨vs, .of l.2.1⟩, k _ (fun H2 => SqL C.X.K H2 a vs) (YAt vs) H' s (by rw [← RpAll.length r]; exact walk_list) (fun H2 z => .of (z a _ (fun _ => l.1) l.2.1)) fun n H1 v H2 hn y => ?_⟩
    obtain ⟨e1, e2⟩ := y
    subst e1
    obtain ⟨D, hD, rD⟩ := RpAll.get' r e2
    exact ⟨Same.refl _, D, hD, fun N1 t => t.rv rD⟩⟩
theorem src_bw {tg : Expr} (h : Bw C ρ e b Ds) : Src C ρ tg e false b Ds := ⟨_, pi_list pe_sem, fun Pn F q σ H E R k => (h.run _ F q σ H E).mono fun v H' ⟨s, a, vs, ev, l, r⟩ => by
  subst ev
  refine ⟨a, rfl, ⟨vs, l⟩, k _ (fun H2 => SqL C.X.K H2 a vs) (YAt vs) H' s (by rw [← RpAll.length r]; exact walk_list) (fun H2 z => Same.seq (fun b o e => z b o (fun w => nomatch w) e) l) fun n H1 v H2 hn y => ?_⟩
  obtain ⟨e1, e2⟩ := y
  subst e1
  obtain ⟨D, hD, rD⟩ := RpAll.get' r e2
  exact ⟨Same.refl _, D, hD, fun N1 t => t.rv rD⟩⟩
theorem src_scr {tg : Expr} {fr : Bool} {n : Nat} {ns : List Int} (he : PE C.X e (tVar n)) (h : ρ[n]? = some (.s ns)) : Src C ρ tg e fr true (ns.map .int) := ⟨_, pi_list he, fun Pn F q σ H E R k => by
  obtain ⟨p, hv, r⟩ := E.at_s h
  refine ⟨_, hv, p, rfl, ⟨_, r.sql⟩, k _ (fun H2 => SqL C.X.K H2 p (ns.map V.int)) (YAt (ns.map V.int)) H (Same.refl _) (by rw [List.length_map, ← List.length_map (f := V.int)]; exact walk_list) (fun H2 z => ?_) fun n H1 v H2 hn y => ?_⟩
  · rcases r with ⟨o, r⟩ | r
    · refine .inl (.inr ⟨o, z p _ (fun _ n => ?_) r⟩)
      obtain ⟨o', e1, _, e2⟩ := E.own p n
      rw [r] at e1; cases e1
      exact e2 _ _ rfl
    · exact .inr r
  · obtain ⟨e1, e2⟩ := y
    subst e1
    obtain ⟨D, hD, rD⟩ := RpAll.get' (L := fun _ _ => False) (T := fun _ _ => False) (RpAll.of_ints ns) e2
    exact ⟨Same.refl _, D, hD, fun N1 t => Rp.flat (fun _ _ w => w.elim) _ _ rD (by
      rw [List.getElem?_map] at hD
      cases e : ns[n]? with
      | none => rw [e] at hD; cases hD
      | some z => rw [e] at hD; cases hD; rfl)⟩⟩
theorem src_tup {tg : Expr} {fr : Bool} (h : Ev C ρ e b (.tuple Ds)) : Src C ρ tg e fr b Ds := ⟨_, pi_tup pe_sem, fun Pn F q σ H E R k => (h.run _ F q σ H E).mono fun v H' ⟨s, r⟩ => by
  cases r with
  | @tup a vs _ l r =>
    refine ⟨a, rfl, ⟨vs, l⟩, k _ (fun H2 => SqT C.X.K H2 a vs) (YAt vs) H' s (by rw [← RpAll.length r]; exact walk_tup) (fun H2 z => ?_) fun n H1 v H2 hn y => ?_⟩
    · exact Shift.tup (N1 := fun _ => False) ⟨fun a o n e => z a o (fun _ => n) e, fun a n => n.elim, (E.grow s).own⟩ l
    · obtain ⟨e1, e2⟩ := y
      subst e1
      obtain ⟨D, hD, rD⟩ := RpAll.get' r e2
      exact ⟨Same.refl _, D, hD, fun N1 t => t.rv rD⟩⟩
def rangeD (lo : Int) (n : Nat) : List PyData := (List.range n).map fun i => .int (lo + (i : Nat))
theorem src_range1 {tg : Expr} {fr : Bool} (hm : C.X.mg "range" = none) (h : Ev C ρ e b1 (.int j)) (h1 : -(2 ^ 62) ≤ j) (h2 : j < 2 ^ 62) (hs : starEach [e] C.X.env = [(false, eval e C.X.env)] := by rfl) (hg : Gl C.X "range" := by rfl) : Src C ρ tg (.Call (.Name "range" p) [e] [] pos) fr b (rangeD 0 j.toNat) := ⟨_, pi_range1 hg hm pa_sem hs, fun Pn F q σ H E R k =>
  semA1_of ((h.run _ F q σ H E).mono fun v H' ⟨s, r⟩ => by
    cases r
    refine ⟨j, rfl, h1, h2, k _ (fun _ => True) _ H' s (by unfold rangeD; rw [List.length_map, List.length_range]; exact walk_range) (fun _ _ => trivial) fun n H1 v H2 hn y => ?_⟩
    obtain ⟨e1, e2⟩ := y
    subst e1 e2
    unfold rangeD at hn ⊢
    rw [List.length_map, List.length_range] at hn
    exact ⟨Same.refl _, _, by rw [List.getElem?_map, List.getElem?_range hn]; rfl, fun _ _ => .int _⟩) hs⟩
theorem src_range2 {tg e2 : Expr} {fr : Bool} (hm : C.X.mg "range" = none) (h : Ev C ρ e b1 (.int i)) (h' : Ev C ρ e2 b2 (.int j)) (h0 : -(2 ^ 62) ≤ i ∧ i < 2 ^ 62 ∧ -(2 ^ 62) ≤ j ∧ j < 2 ^ 62) (hs : starEach [e, e2] C.X.env = [(false, eval e C.X.env), (false, eval e2 C.X.env)] := by rfl) (hs2 : starEach [e2] C.X.env = [(false, eval e2 C.X.env)] := by rfl) (hg : Gl C.X "range" := by rfl) : Src C ρ tg (.Call (.Name "range" p) [e, e2] [] pos) fr b (rangeD i (j - i).toNat) := ⟨_, pi_range2 hg hm pa_sem hs hs2, fun Pn F q σ H E R k =>
  semA_of (pa_cons pe_sem (pa_cons pe_sem pa_nil hs2) (hs.trans (congrArg (List.cons _) hs2.symm))) (ev_two (Q := fun x y H2 => _) h h' E fun v v' H' s r r' => by
    cases r; cases r'
    refine ⟨i, j, rfl, h0, k _ (fun _ => True) _ H' s (by unfold rangeD; rw [List.length_map, List.length_range]; exact walk_range) (fun _ _ => trivial) fun n H1 v H2 hn y => ?_⟩
    obtain ⟨e1, e2⟩ := y
    subst e1 e2
    unfold rangeD at hn ⊢
    rw [List.length_map, List.length_range] at hn
    exact ⟨Same.refl _, _, by rw [List.getElem?_map, List.getElem?_range hn]; rfl, fun _ _ => .int _⟩)⟩
end
end Rk

namespace Rk
open PySem PySem.Spec PyProof.Rows L2

section
variable {C : Ct} {ρ : List SV} {b b' b1 b2 : Bool} {e e2 a c : Expr} {st : Stmt} {sts rest : List Stmt} {D : PyData} {Ds Es : List PyData} {pos p : Pos} {i j : Int} {x : Str} {T : Tn} {k : Nat} {R : PyData → Prop}
/-! ### pairs walked -/
theorem same_upd {H : Hp} {t : Addr} {o : HO} (ht : H t = none) : Same H (upd H t o) := fun a u z => by rw [upd_ne (ne_of_none z ht)]; exact z
def zipD : List PyData → List PyData → List PyData := List.zipWith fun x y => .tuple [x, y]
theorem zipD_len : (zipD Ds Es).length = min Ds.length Es.length := List.length_zipWith
theorem zipD_get {n : Nat} {d f : PyData} (h1 : Ds[n]? = some d) (h2 : Es[n]? = some f) : (zipD Ds Es)[n]? = some (.tuple [d, f]) := by
  unfold zipD
  rw [List.getElem?_zipWith, h1, h2]
theorem src_zipT {fr : Bool} {elts : List Expr} {kk : Nat} {tpos : Pos} (hm : C.X.mg "zip" = none) (h : Ev C ρ e b1 (.tuple Ds)) (h' : Ev C ρ e2 b2 (.tuple Es))
    (hs : starEach [e, e2] C.X.env = (false, eval e C.X.env) :: starEach [e2] C.X.env := by rfl) (hs2 : starEach [e2] C.X.env = (false, eval e2 C.X.env) :: starEach [] C.X.env := by rfl) (hpl : (backTo pos (starEach [e2] C.X.env)).any (·.1) = false := by rfl) (hg : Gl C.X "zip" := by rfl) :
    Src C ρ (.Tuple elts kk tpos) (.Call (.Name "zip" p) [e, e2] [] pos) fr (b1 && b2) (zipD Ds Es) := ⟨_, RZ.pi_zipA hg hm pa_sem hs hpl, fun Pn F q σ H E R k =>
  semA_of (pa_cons pe_sem (pa_cons pe_sem pa_nil hs2) hs) (ev_two (Q := fun x y H2 => _) h h' E fun v v' H' s r r' => by
    cases r with
    | @tup a xs _ ta ra =>
      cases r' with
      | @tup a2 ys _ tb rb =>
        have la := RpAll.length ra
        have lb := RpAll.length rb
        refine ⟨a, a2, xs, ys, rfl, .inr ⟨ta, tb, k _ (fun H2 => SqT C.X.K H2 a xs ∧ SqT C.X.K H2 a2 ys) (YPair (fun i => xs[i]?) (fun i => ys[i]?)) H' s (by
          rw [zipD_len, ← la, ← lb]
          exact ⟨fun i _ hi q => ⟨xs, ys, xs[i]'(by omega), ys[i]'(by omega), q.1, q.2, by simp, by simp⟩, fun _ q => ⟨xs, ys, q.1, q.2, by omega⟩, fun i H v H' _ q y => by
            obtain ⟨T, x, z, h1, h2, h3, h4, h5⟩ := y
            exact ⟨T, x, z, h1, h2, h3, h4 xs q.1, h5 ys q.2⟩⟩) (fun H2 z => ?_) fun n H1 v H2 hn y => ?_⟩⟩
        · have t : Shift H' (Own q F) H2 (fun _ => False) := ⟨fun a o n e => z a o (fun _ => n) e, fun a n => n.elim, (E.grow s).own⟩
          exact ⟨t.tup ta, t.tup tb⟩
        · obtain ⟨t, x, y, e1, e2, e3, e4, e5⟩ := y
          subst e1 e3
          obtain ⟨d, hd, rd⟩ := RpAll.get' ra e4
          obtain ⟨f, hf, rf⟩ := RpAll.get' rb e5
          exact ⟨same_upd e2, _, zipD_get hd hf, fun N1 sh => .tup (.of upd_same) (.cons (RV.and (sh.rv rd)) (.cons (RV.and' (sh.rv rf)) .nil))⟩)⟩
theorem src_zipL {fr : Bool} {elts : List Expr} {kk : Nat} {tpos : Pos} (hm : C.X.mg "zip" = none) (h : Ev C ρ e b1 (.list Ds)) (h' : Ev C ρ e2 b2 (.list Es))
    (hs : starEach [e, e2] C.X.env = (false, eval e C.X.env) :: starEach [e2] C.X.env := by rfl) (hs2 : starEach [e2] C.X.env = (false, eval e2 C.X.env) :: starEach [] C.X.env := by rfl) (hpl : (backTo pos (starEach [e2] C.X.env)).any (·.1) = false := by rfl) (hg : Gl C.X "zip" := by rfl) :
    Src C ρ (.Tuple elts kk tpos) (.Call (.Name "zip" p) [e, e2] [] pos) fr (b1 && b2) (zipD Ds Es) := ⟨_, pi_zip hg hm pa_sem hs hpl, fun Pn F q σ H E R k =>
  semA_of (pa_cons pe_sem (pa_cons pe_sem pa_nil hs2) hs) (ev_two (Q := fun x y H2 => _) h h' E fun v v' H' s r r' => by
    cases r with
    | @lst a xs _ ta ra =>
      cases r' with
      | @lst a2 ys _ tb rb =>
        have la := RpAll.length ra
        have lb := RpAll.length rb
        refine ⟨a, a2, xs, ys, rfl, .of ta.2.1, .of tb.2.1, k _ (fun H2 => SqL C.X.K H2 a xs ∧ SqL C.X.K H2 a2 ys) (YPair (fun i => xs[i]?) (fun i => ys[i]?)) H' s (by
          rw [zipD_len, ← la, ← lb]
          exact walk_zip rfl) (fun H2 z => ⟨.of (z _ _ (fun _ => ta.1) ta.2.1), .of (z _ _ (fun _ => tb.1) tb.2.1)⟩) fun n H1 v H2 hn y => ?_⟩
        obtain ⟨t, x, y, e1, e2, e3, e4, e5⟩ := y
        subst e1 e3
        obtain ⟨d, hd, rd⟩ := RpAll.get' ra e4
        obtain ⟨f, hf, rf⟩ := RpAll.get' rb e5
        exact ⟨same_upd e2, _, zipD_get hd hf, fun N1 sh => .tup (.of upd_same) (.cons (RV.and (sh.rv rd)) (.cons (RV.and' (sh.rv rf)) .nil))⟩)⟩
def enumD (Ds : List PyData) : List PyData := Ds.zipIdx.map fun x => .tuple [.int (x.2 : Nat), x.1]
theorem src_enum {fr : Bool} {elts : List Expr} {kk : Nat} {tpos : Pos} (hm : C.X.mg "enumerate" = none) (h : Ev C ρ e b (.list Ds)) (hs : starEach [e] C.X.env = [(false, eval e C.X.env)] := by rfl) (hg : Gl C.X "enumerate" := by rfl) :
    Src C ρ (.Tuple elts kk tpos) (.Call (.Name "enumerate" p) [e] [] pos) fr b (enumD Ds) := ⟨_, pi_enum hg hm pa_sem hs, fun Pn F q σ H E R k =>
  semA1_of ((h.run _ F q σ H E).mono fun v H' ⟨s, r⟩ => by
    cases r with
    | @lst a xs _ ta ra =>
      have la := RpAll.length ra
      refine ⟨a, xs, rfl, .of ta.2.1, k _ (fun H2 => SqL C.X.K H2 a xs) (YPair (fun i => some (.int (i : Nat))) (fun i => xs[i]?)) H' s (by
          unfold enumD
          rw [List.length_map, List.length_zipIdx, ← la]
          exact walk_enum) (fun H2 z => .of (z _ _ (fun _ => ta.1) ta.2.1)) fun n H1 v H2 hn y => ?_⟩
      obtain ⟨t, x, y, e1, e2, e3, e4, e5⟩ := y
      subst e1 e3
      cases e4
      obtain ⟨f, hf, rf⟩ := RpAll.get' ra e5
      exact ⟨same_upd e2, .tuple [.int (n : Nat), f], by unfold enumD; rw [List.getElem?_map, List.getElem?_zipIdx, hf]; simp, fun N1 sh => .tup (.of upd_same) (.cons (.int _) (.cons (sh.rv rf) .nil))⟩) hs⟩

/-! ### loops -/
open Classical in
/-- the part of a heap that a loop's body cannot write -/
noncomputable def kept (H : Hp) (N : Addr → Prop) : Hp := fun a => if N a then none else H a
theorem kept_in {H : Hp} {N : Addr → Prop} {a : Addr} (h : ¬ N a) : kept H N a = H a := if_neg h
theorem kept_out {H : Hp} {N : Addr → Prop} {a : Addr} (h : N a) : kept H N a = none := if_pos h
theorem kept_some {H : Hp} {N : Addr → Prop} {a : Addr} {o : HO} (h : kept H N a = some o) : ¬ N a ∧ H a = some o := by
  by_cases n : N a
  · rw [kept_out n] at h; cases h
  · rw [kept_in n] at h; exact ⟨n, h⟩
theorem Ct.Env.enter {Pn H : Hp} {σ : L2.St} {q : Qn} (E : C.Env Pn H σ ρ N0 q) : C.Env (kept H (Own q N0)) H σ ρ N0 q :=
  ⟨E.len, E.slot, E.inj, E.out, fun a o h => (kept_some h).2, fun a o h => by
    have h1 := E.base a o h
    rw [kept_in (fun n => by rw [E.new a n] at h1; cases h1)]
    exact E.same a o h1, fun a n => kept_out n, E.dis, E.own⟩
theorem Ct.Env.leave {Pn Pn' H : Hp} {σ : L2.St} {q : Qn} {F : Addr → Prop} (E : C.Env Pn' H σ ρ F q) (s : Same Pn Pn') (s0 : Same C.H0 Pn) : C.Env Pn H σ ρ F q :=
  ⟨E.len, E.slot, E.inj, E.out, s.trans E.same, s0, fun a n => s.free (E.new a n), E.dis, E.own⟩
theorem Ct.Env.toKept {Pn H : Hp} {σ : L2.St} {q : Qn} {F : Addr → Prop} (E : C.Env Pn H σ ρ F q) : Same Pn (kept H (Own q F)) := fun a o h => by
  rw [kept_in (fun n => by rw [E.new a n] at h; cases h)]
  exact E.same a o h
theorem blk_for {tg iter : Expr} {is : List Nat} {body : List Stmt} (Z : Cz C k) (hs : Src C ρ tg iter true b Ds) (I : Nat → List SV → Prop) (h0 : I 0 ρ)
    (hb : ∀ n D r, Ds[n]? = some D → I n r → ∃ r', Tgt C r tg is b D r' ∧ Blk C r' body { T with nx := I (n + 1), ct := I (n + 1), bk := fun r => Blk C r rest T })
    (he : ∀ r, I Ds.length r → Blk C r rest T) (hfo : ∀ x, foldedSetIterable iter C.X.env x = pure x := by intro _; rfl) : Blk C ρ (.For tg iter body [] pos :: rest) T := by
  obtain ⟨wi, hpi, hw⟩ := hs
  refine blk_cons (ps_for Z.own Z.calm hpi pg_sem pss_sem hfo) fun Pn q σ H E => ?_
  refine hw Pn N0 q σ H E _ fun J G Y H' s w hG hY => ?_
  have E' := E.grow s
  have sP : Same Pn (kept H' (Own q N0)) := Ct.Env.toKept E'
  refine for_it w (fun n σ1 H1 => ∃ r q1, I n r ∧ C.Env (kept H' (Own q N0)) H1 σ1 r N0 q1) ⟨ρ, q, h0, Ct.Env.enter E'⟩ (fun n σ1 H1 _ ⟨r, q1, _, E1⟩ => hG H1 fun a o n e => E1.same a o (by rw [kept_in (n rfl)]; exact e)) ?_ ?_
  · rintro n v σ1 H1 H2 hn ⟨r, q1, hI, E1⟩ y
    obtain ⟨s2, D, hD, rD⟩ := hY n H1 v H2 hn y
    have E2 := E1.grow s2
    have sh : Shift H' (Own q N0) H2 (Own q1 N0) := ⟨fun a o n e => E2.same a o (by rw [kept_in n]; exact e), fun a n => by
      have z := E2.new a n
      by_cases w : Own q N0 a
      · exact .inl w
      · rw [kept_in w] at z; exact .inr z, E'.own⟩
    obtain ⟨r', ht, hb⟩ := hb n D r hD hI
    refine (ht.run _ N0 q1 σ1 H2 v E2 (rD _ sh)).mono fun σ3 H3 ⟨eH, ⟨q3, E3, _⟩, _⟩ => ?_
    subst eH
    exact (hb.run _ q3 σ3 H3 E3).mono (fun _ _ z => z) (fun _ _ z => z) (fun σ4 H4 ⟨r4, q4, k4, E4⟩ => k4.run Pn q4 σ4 H4 (Ct.Env.leave E4 sP E.base)) (fun _ _ z => z)
  · rintro σ1 H1 ⟨r, q1, hI, E1⟩
    exact (he r hI).run Pn q1 σ1 H1 (Ct.Env.leave E1 sP E.base)
theorem blk_while {ι : Type} {body : List Stmt} (Z : Cz C k) (env : ι → List SV) (ok : ι → Prop) (μ : ι → Nat) (β : ι → Bool) (s0 : ι) (h0 : ρ = env s0) (k0 : ok s0) (ht : ∀ s, ok s → EvT C (env s) c (β s))
    (hb : ∀ s, ok s → β s = true → Blk C (env s) body { T with nx := fun r => ∃ s', r = env s' ∧ ok s' ∧ μ s' < μ s, ct := fun r => ∃ s', r = env s' ∧ ok s' ∧ μ s' < μ s, bk := fun r => Blk C r rest T })
    (he : ∀ s, ok s → β s = false → Blk C (env s) rest T) : Blk C ρ (.While c body [] pos :: rest) T := by
  refine blk_cons (ps_while Z.own pt_sem pss_sem) fun Pn q σ H E => ?_
  refine ⟨fun m σ1 H1 => ∃ s q1, ok s ∧ μ s = m ∧ C.Env Pn H1 σ1 (env s) N0 q1, ⟨_, s0, q, k0, rfl, by rw [← h0]; exact E⟩, ?_⟩
  rintro m σ1 H1 ⟨s, q1, ks, rfl, E1⟩
  refine ((ht s ks).run _ _ q1 σ1 H1 E1).mono fun v H2 ⟨s2, ev⟩ => ?_
  subst ev
  have E2 := E1.grow s2
  by_cases hβ : β s = true
  · rw [if_pos hβ]
    refine ⟨fun σ3 H3 => ∃ s', ok s' ∧ μ s' < μ s ∧ ∃ q3, C.Env Pn H3 σ3 (env s') N0 q3, fun σ3 H3 ⟨s', k', l, q3, E3⟩ => ⟨μ s', l, s', q3, k', rfl, E3⟩, ?_⟩
    exact ((hb s ks hβ).run Pn q1 σ1 H2 E2).mono (fun σ3 H3 ⟨r, q3, ⟨s', e, k', l⟩, E3⟩ => ⟨s', k', l, q3, by rw [← e]; exact E3⟩) (fun _ _ z => z) (fun σ4 H4 ⟨r4, q4, k4, E4⟩ => k4.run Pn q4 σ4 H4 E4) (fun σ3 H3 ⟨r, q3, ⟨s', e, k', l⟩, E3⟩ => ⟨s', k', l, q3, by rw [← e]; exact E3⟩)
  · rw [if_neg hβ]
    exact (he s ks (by simpa using hβ)).run Pn q1 σ1 H2 E2

/-! ### lists of the frame's own that change -/
theorem semA1 {X : Cx} {σ : L2.St} {H : Hp} {Q : List V → Hp → Prop} (h : semE X e σ H fun v H' => Q [v] H') (he : starEach (e :: []) X.env = (false, eval e X.env) :: starEach [] X.env) : tCons (semE X e) tNil σ H Q := h
theorem blk_append {n : Nat} {x : Str} {p1 p2 p3 : Pos} (he : PE C.X (.Name x p1) (tVar n)) (hn : ρ[n]? = some (.o b Ds)) (ha : Ev C ρ e b2 D) (hl : Ds.length < sizeLine) (h : Blk C (ρ.set n (.o (b && b2) (Ds ++ [D]))) rest T)
    (hp : PS C.X (.Expr (.Call (.Attribute (.Name x p1) "append" p2) [e] [] p3) pos) (tDrop (tBM C.X.K "list" rAppend (tVar n) (tCons (semE C.X e) tNil)))) : Blk C ρ (.Expr (.Call (.Attribute (.Name x p1) "append" p2) [e] [] p3) pos :: rest) T :=
  blk_cons hp fun Pn q σ H E => by
    obtain ⟨p, vs, hv, hp, r⟩ := E.at_o hn
    refine ⟨_, hv, .inl ⟨rfl, _, .of hp⟩, (ha.run _ _ q σ H E).mono fun v H' ⟨s, rv⟩ => ?_⟩
    refine ⟨p, vs, v, rfl, rfl, s _ _ hp, by rw [RpAll.length r]; exact hl, ?_⟩
    exact h.run Pn q σ _ ((E.grow s).write hn hv (RpAll.append ((Ct.Env.shift E s).ra r).and (.cons (RV.and' rv) .nil)))
end
end Rk

namespace Rk
open PySem PySem.Spec PyProof.Rows L2

/-! ### comprehensions -/
section
variable {K : PySem.W.Frag} {b : Bool} {H0 Pn H H1 : Hp} {F : Addr → Prop} {σ : L2.St} {ρ : List SV} {q : Qn}
/-- a slot's value is let go, what it owned stays by the side -/
theorem EnvQ.toss (E : EnvQ K H0 Pn H σ ρ F q) (i : Nat) (x : Option V) : EnvQ K H0 Pn H (σ.set i x) (ρ.set i .u) (fun a => F a ∨ a ∈ q i) (clr q i []) := by
  by_cases hi : i < ρ.length
  · have eo : ∀ a, Own (clr q i []) (fun a => F a ∨ a ∈ q i) a → Own q F a := fun a n => by
      rcases n with (n | n) | ⟨j, n⟩
      · exact .inl n
      · exact .inr ⟨i, n⟩
      · exact .inr ⟨j, qsub_clr.1 j a n⟩
    have t : Shift H (Own q F) H (Own (clr q i []) fun a => F a ∨ a ∈ q i) := ⟨fun _ _ _ e => e, fun a n => .inl (eo a n), E.own⟩
    refine ⟨by simp [E.len], fun j u h => ?_, fun j k a h1 h2 => E.inj j k a (qsub_clr.1 j a h1) (qsub_clr.1 k a h2), fun j h => ?_, E.same, E.base, fun a n => E.new a (eo a n), fun a j n z => ?_, fun a n => E.own a (eo a n)⟩
    · by_cases e : j = i
      · subst e
        rw [List.getElem?_set_self hi] at h
        cases h
        rw [clr_same]
        exact .u
      · rw [List.getElem?_set_ne (Ne.symm e)] at h
        rw [clr_ne e, List.getElem?_set_ne (Ne.symm e)]
        exact (E.slot j u h).shift t (fun _ _ => rfl)
    · by_cases e : j = i
      · subst e; exact clr_same
      · rw [clr_ne e]; exact E.out j (by simpa using h)
    · by_cases e : j = i
      · subst e; rw [clr_same] at z; cases z
      · rw [clr_ne e] at z
        rcases n with n | n
        · exact E.dis a j n z
        · exact e (E.inj j i a z n)
  · have e1 : ρ.set i SV.u = ρ := List.set_eq_of_length_le (by omega)
    have e2 : σ.set i x = σ := List.set_eq_of_length_le (by rw [E.len]; omega)
    have e3 : clr q i [] = q := by
      funext j
      by_cases e : j = i
      · subst e; rw [clr_same, E.out j (by omega)]
      · exact clr_ne e
    rw [e1, e2, e3]
    exact E.dropF (by rw [E.out i (by omega)]; simp)
def wipeR (ρ : List SV) : List Nat → List SV
  | [] => ρ
  | v :: vs => (wipeR ρ vs).set v .u
theorem EnvQ.wiped (E : EnvQ K H0 Pn H σ ρ F q) : ∀ vs : List Nat, ∃ F' q', EnvQ K H0 Pn H (wipe σ vs) (wipeR ρ vs) F' q' ∧ (∀ a, Own q' F' a ↔ Own q F a) ∧ (∀ i ∈ vs, q' i = []) ∧ ∀ a, F a → F' a
  | [] => ⟨F, q, E, fun _ => Iff.rfl, by simp, fun _ z => z⟩
  | v :: vs => by
    obtain ⟨F1, q1, E1, h1, h2, h3⟩ := E.wiped vs
    refine ⟨_, _, E1.toss v none, fun a => ?_, fun i hi => ?_, fun a z => .inl (h3 a z)⟩
    · rw [← h1 a]
      constructor
      · rintro ((n | n) | ⟨j, n⟩)
        · exact .inl n
        · exact .inr ⟨v, n⟩
        · exact .inr ⟨j, qsub_clr.1 j a n⟩
      · rintro (n | ⟨j, n⟩)
        · exact .inl (.inl n)
        · rcases qsub_clr.2 j a n with z | z
          · exact .inr ⟨j, z⟩
          · simp at z; subst z; exact .inl (.inr n)
    · by_cases e : i = v
      · subst e; exact clr_same
      · rw [clr_ne e]
        rcases List.mem_cons.mp hi with z | z
        · exact absurd z e
        · exact h2 i z
end

theorem wipe_wipe {σ : L2.St} {vs : List Nat} : wipe (wipe σ vs) vs = wipe σ vs := by
  have : ∀ (ws : List Nat) (τ : L2.St), (∀ i ∈ ws, i ∈ vs) → wipe (wipe τ ws) vs = wipe τ vs := by
    intro ws
    induction ws with
    | nil => intro τ _; rfl
    | cons w ws ih =>
      intro τ h
      show wipe ((wipe τ ws).set w none) vs = _
      rw [wipe_set (h w (by simp))]
      exact ih τ fun i hi => h i (by simp [hi])
  exact this vs σ fun _ z => z

/-- the context of a comprehension's block -/
abbrev Ct.blk (C : Ct) (scope : Scope) (s : Shared) (H : Hp) (A : Addr) (cl : List (Str × Addr)) (fp : List Addr) : Ct := ⟨C.X.blk s H scope (compEnvC scope cl A C.X.env) fp, C.H0⟩
/-- the tests of a comprehension: none, or one -/
inductive EvTs (C : Ct) (ρ : List SV) : List Expr → Bool → Prop
  | nil : EvTs C ρ [] true
  | one {e : Expr} {c : Bool} : EvT C ρ e c → EvTs C ρ [e] c
def ttOf (C : Ct) (scope : Scope) : List Expr → TT
  | [] => tYes
  | [c] => fun σ H Q => ∀ s H1 A cl fp, semT (C.blk scope s H1 A cl fp).X c σ H Q
  | _ :: _ :: _ => fun _ _ _ => False
def teOf (C : Ct) (scope : Scope) (elt : Expr) : TE := fun σ H Q => ∀ s H1 A cl fp, semE (C.blk scope s H1 A cl fp).X elt σ H Q
def tgOf (C : Ct) (scope : Scope) (tg : Expr) : TG := fun v σ H Q => ∀ s H1 A cl fp, semG (C.blk scope s H1 A cl fp).X tg v σ H Q
theorem EvTs.run {C : Ct} {scope : Scope} {ρ : List SV} {ifs : List Expr} {c : Bool} {Pn H : Hp} {F : Addr → Prop} {q : Qn} {σ : L2.St} {Q : Bool → Hp → Prop} (h : ∀ s H A cl fp, EvTs (C.blk scope s H A cl fp) ρ ifs c)
    (E : C.Env Pn H σ ρ F q) (s0 : Shared) (k : ∀ H', Same H H' → Q c H') : ttOf C scope ifs σ H Q := by
  match ifs, h with
  | [], h =>
    have h1 := h s0 H 0 [] []
    cases h1
    exact k H (Same.refl _)
  | [e], h =>
    intro s H1 A cl fp
    have h1 := h s H1 A cl fp
    cases h1 with
    | one h1 => exact (h1.run Pn F q σ H E).mono fun c' H' ⟨s', e'⟩ => by subst e'; exact k H' s'
  | _ :: _ :: _, h =>
    have h1 := h s0 H 0 [] []
    cases h1
theorem pts_ttOf {C : Ct} {scope : Scope} {s : Shared} {H : Hp} {A : Addr} {cl : List (Str × Addr)} {fp : List Addr} : ∀ {ifs : List Expr}, PTs (C.blk scope s H A cl fp).X ifs (ttOf C scope ifs)
  | [] => pts_nil
  | [c] => pts_one ⟨fun pins s1 σ H Q I h => h s _ A cl fp pins s1 I⟩
  | _ :: _ :: _ => ⟨fun _ _ _ _ _ _ h => h.elim⟩
/-- [elt for tg in iter if ..] is worth the new list Ds -/
def Lc (C : Ct) (ρ : List SV) (elt tg iter : Expr) (ifs : List Expr) (scope : Scope) (b : Bool) (Ds : List PyData) : Prop :=
  ∃ (own : List (Str × Nat)) (wi : TI) (g : TG) (tt : TT) (te : TE), PI C.X tg iter wi ∧ BlkOk C.X.N C.X.env.scope scope own ∧
    (∀ (s : Shared) (H : Hp) (A : Addr) (cl : List (Str × Addr)) (fp : List Addr), PG (C.blk scope s H A cl fp).X tg g) ∧
    (∀ (s : Shared) (H : Hp) (A : Addr) (cl : List (Str × Addr)) (fp : List Addr), PTs (C.blk scope s H A cl fp).X ifs tt) ∧
    (∀ (s : Shared) (H : Hp) (A : Addr) (cl : List (Str × Addr)) (fp : List Addr), PE (C.blk scope s H A cl fp).X elt te) ∧
    ∀ Pn F q σ H, C.Env Pn H σ ρ F q → ∀ Q : VK, (∀ v H', Same H H' → (∃ p vs, v = .ref p ∧ H p = none ∧ H' p = some (.lst vs) ∧ C.Rs b H' (Own q (Fp F p)) vs Ds) → Q v H') → tLc wi g tt te (own.map (·.2)) σ H Q
section
variable {C : Ct} {ρ : List SV} {b bi : Bool} {e elt tg iter : Expr} {ifs : List Expr} {scope : Scope} {Ds : List PyData} {pos p : Pos} {k : Nat} {T : Tn} {rest : List Stmt}
theorem evo_lc (Z : Cz C k) (h : Lc C ρ elt tg iter ifs scope b Ds) (hs : ∀ x, foldedSetIterable iter C.X.env x = pure x := by intro _; rfl) : EvO C ρ (.ListComp elt [⟨tg, iter, ifs, 0⟩] scope pos) b Ds := .mk fun Pn F q σ H E => by
  obtain ⟨own, wi, g, tt, te, h1, h2, h3, h4, h5, h6⟩ := h
  exact semE_of (pe_lc Z.calm Z.nd h1 h2 h3 h4 h5 hs) (h6 Pn F q σ H E _ fun v H' s z => ⟨s, z⟩)
theorem blk_setLc {n : Nat} {y : Str} {py : Pos} (Z : Cz C k) (hy : C.X.N[n]? = some y) (hyl : C.X.env.scope.names.lookup y = some .local) (hl : n < ρ.length) (h : Lc C ρ elt tg iter ifs scope b Ds)
    (hsw : swapsWith (.ListComp elt [⟨tg, iter, ifs, 0⟩] scope pos) (some (.Name y py)) p.line C.X.env = pure true) (h0 : Blk C (ρ.set n (.o b Ds)) rest T) (hs : ∀ x, foldedSetIterable iter C.X.env x = pure x := by intro _; rfl) :
    Blk C ρ (.Assign [.Name y py] (.ListComp elt [⟨tg, iter, ifs, 0⟩] scope pos) p :: rest) T := by
  obtain ⟨own, wi, g, tt, te, h1, h2, h3, h4, h5, h6⟩ := h
  refine blk_cons (ps_setLc Z.calm Z.nd hy hyl hsw h1 h2 h3 h4 h5 hs) fun Pn q σ H E => ?_
  refine h6 Pn _ q σ H E _ fun v H' s ⟨p, vs, ev, hp, hp', r⟩ => ?_
  subst ev
  exact h0.run Pn _ _ H' ((E.addF s hp hp').put_o hl (fun z => z) hp' r)
theorem lc_mk {α : Type} (xs : List α) (f g : α → PyData) (t : α → Bool) (r' : α → List SV) (own : List (Str × Nat)) {is : List Nat} (hs : Src C ρ tg iter false bi (xs.map f)) (ok : BlkOk C.X.N C.X.env.scope scope own) (hl : xs.length ≤ sizeLine)
    (his : ∀ i ∈ is, i ∈ own.map (·.2))
    (ht : ∀ x ∈ xs, ∀ s H A cl fp, Tgt (C.blk scope s H A cl fp) (wipeR ρ (own.map (·.2))) tg is bi (f x) (r' x))
    (hc : ∀ x ∈ xs, ∀ s H A cl fp, EvTs (C.blk scope s H A cl fp) (r' x) ifs (t x))
    (hb : ∀ x ∈ xs, t x = true → ∀ s H A cl fp, Ev (C.blk scope s H A cl fp) (r' x) elt b (g x)) : Lc C ρ elt tg iter ifs scope b ((xs.filter t).map g) := by
  obtain ⟨wi, hpi, hw⟩ := hs
  refine ⟨own, wi, tgOf C scope tg, ttOf C scope ifs, teOf C scope elt, hpi, ok,
    fun s H A cl fp => ⟨fun pins s1 σ H v u Q I r h => h s _ A cl fp pins s1 u I r⟩, fun s H A cl fp => pts_ttOf, fun s H A cl fp => ⟨fun pins s1 σ H Q I h => h s _ A cl fp pins s1 I⟩, ?_⟩
  · intro Pn F q σ H E Q hQ
    refine hw Pn F q σ H E _ fun J G Y H' s w hG hY => ?_
    intro D hD
    have E' := E.grow s
    have w' := w
    rw [List.length_map] at w'
    -- what holds of the heap between two turns
    let Pv : Nat → Hp → Prop := fun n H1 => ∃ acc, H1 D = some (.lst acc) ∧ Same H' H1 ∧ C.Rs b H1 (Own q (Fp F D)) acc (((xs.take n).filter t).map g)
    refine lc_it (g := tgOf C scope tg) (tt := ttOf C scope ifs) (te := teOf C scope elt) (vs := own.map (·.2)) (σ := σ) (Qd := Q (.ref D)) w' Pv ⟨[], upd_same, same_upd hD, .nil⟩ (fun n H1 _ ⟨acc, _, s1, _⟩ => hG H1 fun a o _ z => s1 a o z) ?_ ?_
    · rintro n v H1 H2 hn ⟨acc, hacc, s1, racc⟩ y
      obtain ⟨s2, Dn, hDn, rD⟩ := hY n H1 v H2 (by rw [List.length_map]; exact hn) y
      have hx : xs[n]? = some xs[n] := List.getElem?_eq_getElem hn
      have hxm : xs[n] ∈ xs := List.getElem_mem hn
      rw [List.getElem?_map, hx] at hDn
      cases hDn
      have etake : xs.take (n + 1) = xs.take n ++ [xs[n]] := by simp
      have E2 : C.Env Pn H2 σ ρ (Fp F D) q := E'.addF (s1.trans s2) hD (s2 _ _ hacc)
      obtain ⟨F3, q3, E3, o3, z3, f3⟩ := E2.wiped (own.map (·.2))
      have shD : Shift H' (Own q F) H2 (Own q3 F3) := ⟨fun a o _ z => (s1.trans s2) a o z, fun a n => by
        rcases (o3 a).mp n with (n | rfl) | n
        · exact .inl (.inl n)
        · exact .inr hD
        · exact .inl (.inr n), E'.own⟩
      intro s H5 A cl fp
      refine ((ht _ hxm s H5 A cl fp).run Pn F3 q3 _ H2 v E3 (rD _ shD)).mono fun σ4 H4 ⟨eH, ⟨q4, E4, qs⟩, w4⟩ => ?_
      subst eH
      refine ⟨(w4 _ his).trans wipe_wipe, ?_⟩
      have o4 : ∀ a, Own q4 F3 a ↔ Own q (Fp F D) a := fun a => by
        rw [← o3 a]
        constructor
        · exact qs.own a
        · rintro (n | ⟨j, n⟩)
          · exact .inl n
          · rcases qs.2 j a n with z | z
            · exact .inr ⟨j, z⟩
            · rw [z3 j (his j z)] at n; cases n
      refine EvTs.run (hc _ hxm) E4 s fun H6 s6 => ?_
      have E6 := E4.grow s6
      have sh6 : Shift H1 (Own q (Fp F D)) H6 (Own q (Fp F D)) := Shift.same (E'.addF s1 hD hacc).own (s2.trans s6)
      by_cases ht' : t xs[n] = true
      · rw [if_pos ht']
        intro s' H5' A' cl' fp'
        refine ((hb _ hxm ht' s' H5' A' cl' fp').run Pn F3 q4 σ4 H6 E6).mono fun y H7 ⟨s7, r7⟩ => ?_
        have hlen : acc.length < sizeLine := by
          have l1 := RpAll.length racc
          rw [List.length_map] at l1
          have l2 := List.length_filter_le t (xs.take n)
          rw [List.length_take] at l2
          omega
        have s17 : Same H1 H7 := s2.trans (s6.trans s7)
        refine ⟨acc, s17 _ _ hacc, hlen, acc ++ [y], upd_same, fun a o z => ?_, ?_⟩
        · rw [upd_ne (ne_of_none z hD)]
          exact s17 _ _ (s1 a o z)
        · rw [etake, List.filter_append, List.map_append]
          have e1 : List.map g (List.filter t [xs[n]]) = [g xs[n]] := by simp [ht']
          rw [e1]
          have shU : ∀ {Hx : Hp} (N : Addr → Prop), N D → OwnOk Hx N → Shift Hx N (upd Hx D (.lst (acc ++ [y]))) N := fun N hN hO => ⟨fun a o n z => by rw [upd_ne (fun w => n (by rw [w]; exact hN))]; exact z, fun a n => .inl n, hO⟩
          have ownD : Own q (Fp F D) D := .inl (.inr rfl)
          have E7 : C.Env Pn H7 σ ρ (Fp F D) q := E'.addF (s1.trans s17) hD (s17 _ _ hacc)
          refine (shU _ ownD E7.own).ra (RpAll.append ((Shift.same (E'.addF s1 hD hacc).own s17).ra racc) (.cons ?_ .nil))
          exact Rp.mono (fun a vs z => ⟨fun n => z.1 ((o4 a).mpr n), z.2⟩) (fun _ _ z => z) _ _ r7
      · rw [if_neg ht']
        refine ⟨acc, s6 _ _ (s2 _ _ hacc), s1.trans (s2.trans s6), ?_⟩
        rw [etake, List.filter_append, List.map_append]
        have e1 : List.map g (List.filter t [xs[n]]) = [] := by simp [ht']
        rw [e1, List.append_nil]
        exact sh6.ra racc
    · rintro H1 ⟨acc, hacc, s1, racc⟩
      refine hQ _ H1 (s.trans s1) ⟨D, acc, rfl, s.free hD, hacc, ?_⟩
      rw [List.take_length] at racc
      exact racc
end
end Rk

namespace Rk
open PySem PySem.Spec PyProof.Rows L2

section
variable {C : Ct} {ρ : List SV} {b : Bool} {e : Expr} {rest : List Stmt} {pos : Pos} {k : Nat} {T : Tn} {Xs : Addr → Prop}
theorem blk_raise {A : Addr} (Z : Cz C k) (rz : Rz C Xs) (hA : Xs A) (he : PMk C.X e (fun _ H Q => Q (.ref A) none H)) : Blk C ρ (.Raise (some e) none pos :: rest) T :=
  blk_cons (ps_raise Z.calm rz he) fun Pn q σ H E => ⟨A, rfl, rfl, hA, E.base.trans E.same⟩
end
section
variable {C : Ct} {ρ : List SV} {b bi : Bool} {e elt tg iter : Expr} {ifs : List Expr} {scope : Scope} {Ds : List PyData} {pos p : Pos} {k : Nat} {T : Tn} {rest : List Stmt}
/-- a comprehension without an if -/
theorem lc_map {α : Type} (xs : List α) (f g : α → PyData) (r' : α → List SV) (own : List (Str × Nat)) {is : List Nat} (hs : Src C ρ tg iter false bi (xs.map f)) (ok : BlkOk C.X.N C.X.env.scope scope own) (hl : xs.length ≤ sizeLine)
    (his : ∀ i ∈ is, i ∈ own.map (·.2))
    (ht : ∀ x ∈ xs, ∀ s H A cl fp, Tgt (C.blk scope s H A cl fp) (wipeR ρ (own.map (·.2))) tg is bi (f x) (r' x))
    (hb : ∀ x ∈ xs, ∀ s H A cl fp, Ev (C.blk scope s H A cl fp) (r' x) elt b (g x)) : Lc C ρ elt tg iter [] scope b (xs.map g) := by
  have h := lc_mk xs f g (fun _ => true) r' own hs ok hl his ht (fun x hx s H A cl fp => .nil) (fun x hx _ => hb x hx)
  rw [List.filter_eq_self.mpr fun _ _ => rfl] at h
  exact h
theorem ev_allF {α : Type} {xs : List α} {β : α → Bool} (hc : C.X.calm = true) (hm : C.X.mg "all" = none) (h : Bw C ρ e b (xs.map fun x => .bool (β x))) (he : starEach (e :: []) C.X.env = (false, eval e C.X.env) :: starEach [] C.X.env := by rfl) (hg : Gl C.X "all" := by rfl) : Ev C ρ (.Call (.Name "all" p) [e] [] pos) true (.bool (xs.all β)) := by
  have e1 : xs.map (fun x => PyData.bool (β x)) = (xs.map β).map .bool := by rw [List.map_map]; rfl
  rw [e1] at h
  have h2 := ev_all (p := p) (pos := pos) hc hm h he hg
  have e2 : (xs.map β).all id = xs.all β := by rw [List.all_map]; rfl
  rwa [e2] at h2
end
/-- a def of the text stands under its name -/
def HasDef (K : PySem.W.Frag) (mg : Str → Option Value) (x : Str) (st : Stmt) : Prop := ∃ f fd, mg x = some (.ref f) ∧ Fun K x x st f fd
/-- how arguments come to the parameters -/
def BindsAll (x : Str) (st : Stmt) (ps : List Str) : Prop := ∀ (kV doc pm : Value) (an : Option Addr) (cdv ct : Value) (us : List Value), us.length = ps.length → bindArgs (PySem.W.fnOf x x (defArgs st) (defBody st) (defScope st) .none kV doc pm an cdv ct) ⟨us, []⟩ = pure (ps.zip us)
abbrev defCt (P : Program) (w : World) (K : PySem.W.Frag) (mg : Str → Option Value) (base : Heap) (N : List Str) (x : Str) (st : Stmt) (f : Addr) (cdv : Value) (A : Around) (outer : List Env) (s : Shared) (H : Hp) (E : XK) : Ct :=
  ⟨cxOf (L2.CX P w) P w K mg base N x (defScope st) f cdv A outer s H E, H⟩
def us (n : Nat) : List SV := List.replicate n .u
theorem start_env {K : PySem.W.Frag} {H : Hp} {N : List Str} {vs : List V} {As : List SV} (ha : ArgsOk K H vs As) {n : Nat} (hn : n = N.length - As.length) : EnvQ K H H H (L2.start N vs) (As ++ us n) N0 (fun _ => []) := by
  have hlen : vs.length = As.length := Paired.length ha
  have hN : ∀ a, ¬ Own (fun _ => []) N0 a := fun a n => by
    rcases n with n | ⟨j, n⟩
    · exact n
    · cases n
  refine ⟨by unfold L2.start us; simp only [List.length_append, List.length_map, List.length_replicate, hlen, hn], fun i s h => ?_, fun i j a h => (by cases h), fun _ _ => rfl, Same.refl _, Same.refl _, fun a n => (hN a n).elim, fun a i n => (by cases n), fun a n => (hN a n).elim⟩
  have get : ∀ {vs : List V} {As : List SV}, ArgsOk K H vs As → ∀ {i : Nat} {s : SV}, As[i]? = some s → ∃ v, vs[i]? = some v ∧ ArgOk K H v s := by
    intro vs As h
    induction h with
    | nil => intro i s e; simp at e
    | cons a t ih =>
      intro i s e
      cases i with
      | zero => simp at e; subst e; exact ⟨_, rfl, a⟩
      | succ i => exact ih (by simpa using e)
  by_cases hi : i < As.length
  · rw [List.getElem?_append_left hi] at h
    obtain ⟨v, hv, a⟩ := get ha h
    have e : (L2.start N vs)[i]? = some (some v) := by
      unfold L2.start
      rw [List.getElem?_append_left (by simpa [hlen] using hi), List.getElem?_map, hv] <;> rfl
    rw [e]
    cases a with
    | d r => exact .d (RV.base r fun a n => (hN a n))
    | s r => exact .s r
  · rw [List.getElem?_append_right (by omega)] at h
    unfold us at h
    rw [List.getElem?_replicate] at h
    split at h
    · cases h; exact .u
    · cases h
section
variable {P : Program} {w : World} {K : PySem.W.Frag} {mg : Str → Option Value} {base : Heap}
/-- THE RULE for a def -/
theorem prom_mk {x : Str} {st : Stmt} {N ps : List Str} {k : Nat} {S : Spec} (D : HasDef K mg x st) (SC : FnScope N ps (defScope st)) (bd : BindsAll x st ps) (len : ∀ As R Xs, S As R Xs → As.length = ps.length)
    (body : ∀ (f : Addr) (cdv : Value) (A : Around) (outer : List Env) (s : Shared) (H : Hp) (E : XK) (As : List SV) (R : PyData → Prop) (Xs : Addr → Prop), S As R Xs →
      Cz (defCt P w K mg base N x st f cdv A outer s H E) k → Rz (defCt P w K mg base N x st f cdv A outer s H E) Xs →
      Blk (defCt P w K mg base N x st f cdv A outer s H E) (As ++ us (N.length - ps.length)) (defBody st) { nx := fun _ => R .none, rt := R }) : Prom P w K mg base (k + 1) x S := by
  obtain ⟨f, fd, hm, F⟩ := D
  refine ⟨f, fd, ps, hm, F.kp, F.binds bd, F.okX SC (fun vs H Q E h => ?_) fun cdv A outer s H vs Q E hr h => ?_⟩
  · obtain ⟨As, R, Xs, hS, ha, _⟩ := h
    rw [Paired.length ha, len As R Xs hS]
  · obtain ⟨As, R, Xs, hS, ha, hR, hX⟩ := h
    have rz : Rz (defCt P w K mg base N x st f cdv A outer s H E) Xs := (takes_of (E := E) rfl rfl rfl rfl : Takes _ (fun cls d _ H => E cls d H)).imp fun c d σ H' ⟨A', e1, e2, e3, e4⟩ => by
      subst e1 e2
      exact hX A' H' e3 e4
    have Z : Cz (defCt P w K mg base N x st f cdv A outer s H E) k := ⟨rfl, passes_of rfl, SC.nd, hr⟩
    have E0 := start_env (N := N) ha (n := N.length - ps.length) (by rw [len As R Xs hS])
    refine ⟨_, pss_sem, ((body f cdv A outer s H E As R Xs hS Z rz).run H _ _ H E0).mono (fun σ' H' ⟨r, q, h, E'⟩ => ?_) (fun v H' ⟨D, d, s1, r⟩ => hR v H' D d s1 r) (fun _ _ ⟨_, _, z, _⟩ => z.elim) (fun _ _ ⟨_, _, z, _⟩ => z.elim)⟩
    exact hR .non H' .none h (E'.base.trans E'.same) .non
/-- the law's promise -/
def lawS : Spec := fun As R Xs => ∃ ns : List Int, As = [.s ns] ∧ ns.length ≤ 63 ∧ R = (· = .bool true)
/-- THE RULE for the law's def -/
def LawOk (P : Program) (w : World) (K : PySem.W.Frag) (mg : Str → Option Value) (k : Nat) : Prop := ∃ f fd, mg "law" = some (.ref f) ∧ (∀ (s : Shared) (u : Value), BindsTo s fd ⟨[u], []⟩ [("script", u)]) ∧
  ∀ base : Heap, FnOk P w K mg base (L2.CX P w) k f fd ["script"] (spD K lawS)
theorem law_mk {st : Stmt} {N : List Str} {k : Nat} (D : HasDef K mg "law" st) (SC : FnScope N ["script"] (defScope st)) (bd : BindsAll "law" st ["script"])
    (body : ∀ (base : Heap) (f : Addr) (cdv : Value) (A : Around) (outer : List Env) (s : Shared) (H : Hp) (E : XK) (ns : List Int), ns.length ≤ 63 →
      Cz (defCt P w K mg base N "law" st f cdv A outer s H E) k → 
      Blk (defCt P w K mg base N "law" st f cdv A outer s H E) (.s ns :: us (N.length - 1)) (defBody st) { nx := fun _ => False, rt := (· = .bool true) }) : LawOk P w K mg (k + 1) := by
  obtain ⟨f, fd, hm, F⟩ := D
  refine ⟨f, fd, hm, fun s u => ?_, fun base => F.okX SC (fun vs H Q E h => ?_) fun cdv A outer s H vs Q E hr h => ?_⟩
  · obtain ⟨oc, od, kV, doc, pm, an, cdv, ct, osl, rfl, lk, hcd⟩ := F.ex
    exact .of_eq (bd kV doc pm an cdv ct [u] rfl)
  · obtain ⟨As, R, Xs, hS, ha, _⟩ := h
    obtain ⟨ns, rfl, _⟩ := hS
    exact (Paired.length ha).trans rfl
  · obtain ⟨As, R, Xs, ⟨ns, rfl, hl, rfl⟩, ha, hR, hX⟩ := h
    have Z : Cz (defCt P w K mg base N "law" st f cdv A outer s H E) k := ⟨rfl, passes_of rfl, SC.nd, hr⟩
    have E0 := start_env (N := N) ha (n := N.length - 1) rfl
    exact ⟨_, pss_sem, ((body base f cdv A outer s H E ns hl Z).run H _ _ H E0).mono (fun _ _ ⟨_, _, z, _⟩ => z.elim) (fun v H' ⟨D, d, s1, r⟩ => hR v H' D d s1 r) (fun _ _ ⟨_, _, z, _⟩ => z.elim) (fun _ _ ⟨_, _, z, _⟩ => z.elim)⟩
theorem hasdef_mk {h : Heap} (X : K.In h) (G : h.Ns mainGlobals mg) {x : Str} {st : Stmt} {f : Addr} {oc : Value} {od an : Option Addr} {osl : Array (Option Value)} {kV doc pm cdv ct : Value} (a : PySem.W.nsIn K mainGlobals x = some (some (.ref f)))
    (l : K.lookup f = some ⟨oc, od, .func (PySem.W.fnOf x x (defArgs st) (defBody st) (defScope st) .none kV doc pm an cdv ct), osl⟩) (c : PySem.W.codeIn K cdv x = true) (k : PySem.W.keepIn K (.ref f) = true) : HasDef K mg x st :=
  ⟨f, _, PySem.W.mg_of X G a, fun_mk l c k⟩
theorem const_mk {h : Heap} (X : K.In h) (G : h.Ns mainGlobals mg) {x : Str} {i : Int} {t : Tok} (a : PySem.W.nsIn K mainGlobals x = some (some (.int i t))) : ∃ t, mg x = some (.int i t) := ⟨t, PySem.W.mg_of X G a⟩
theorem law_end {l : PySem.W.OpenLaw} {k : Nat} {q : Program} {loose : List Str} {XP : (Str → Option Value) → Heap → Prop} {YP : World → Heap → Prop} {d : DefRec} {K : Params → PySem.W.Frag} (hn : l.most = some 63) (hdf : d.params.defaults = []) (hr : Room k callerA)
    (hY : ∀ (w : World) (h : Heap), YP w h → (K w.params).In h) (ht : d.name = "law")
    (F : ∀ (w : World) (mg : Str → Option Value) (h : Heap), (K w.params).In h → h.Ns mainGlobals mg → LawOk l.prog w (K w.params) mg k) :
    PySem.W.WalkO q loose XP YP l.row.toRowW d [] (fun f vs => PySem.call f vs) :=
  L2.walk_of (n := 63) (k := k) (x := "script") (CX := fun w => L2.CX l.prog w) (sp := fun w => spD (K w.params) lawS) hn (by decide) hdf hr hY
    (fun w mg fa h KX G hm => by
      obtain ⟨f, fd, e1, e2, e3⟩ := F w mg h KX G
      rw [ht] at hm
      rw [hm] at e1
      cases e1
      exact ⟨fd, e2, fun base _ _ => e3 base⟩)
    (fun w H a ns hl hO hS => by
      refine ⟨[.s ns], _, fun _ => False, ⟨ns, rfl, hl, rfl⟩, .cons (.s ?_) .nil, fun v H' D hD _ r => ?_, fun _ _ z _ => z⟩
      · rcases hS with (h | h) | h
        · rcases hO a with z | ⟨o, xs, z⟩
          · rw [h] at z; cases z
          · rw [h] at z; cases z
        · exact .inl h
        · exact .inr h
      · subst hD; cases r; rfl)
    fun w H s e s' h => CX.never h fun _ _ _ z => z
end
end Rk

namespace Rk
open PySem PySem.Spec PyProof.Rows L2
section
variable {C : Ct} {ρ : List SV} {b b' b1 b2 : Bool} {e e2 a c : Expr} {st : Stmt} {sts rest : List Stmt} {D : PyData} {Ds Es : List PyData} {pos p : Pos} {i j : Int} {T : Tn} {k : Nat}
theorem ps_append {X : Cx} {n : Nat} {x : Str} {e : Expr} {p1 p2 p3 pos : Pos} (he : PE X (.Name x p1) (tVar n)) (hst : starEach (e :: []) X.env = (false, eval e X.env) :: starEach [] X.env := by rfl) (hpl : (backTo p3 (starEach [] X.env)).any (·.1) = false := by rfl)
    (hbase : attributeBase (.Name x p1) "append" X.env (eval (.Name x p1) X.env) = eval (.Name x p1) X.env := by rfl) (hline : (p2.endLine == p3.line) = true := by rfl) (hfew : ((backTo p3 (starEach (e :: []) X.env)).all (fun x => !x.1) && (backToKw p3 (keywordEach [] X.env)).all (fun x => x.1.isSome)
      && decide ((e :: []).length + ([] : List Keyword).length + (if ([] : List Keyword).isEmpty then 0 else 1) < 30)) = true := by rfl)
    (hs : swapsWith (.Call (.Attribute (.Name x p1) "append" p2) [e] [] p3) none pos.line X.env = pure false := by rfl) : PS X (.Expr (.Call (.Attribute (.Name x p1) "append" p2) [e] [] p3) pos) (tDrop (tBM X.K "list" rAppend (tVar n) (tCons (semE X e) tNil))) :=
  ps_expr (pe_bm PySem.F.plainAttrs_list PySem.F.slot_list_append PySem.F.type_list_append mt_append he (pa_cons pe_sem pa_nil hst) (hbase := hbase) (hfew := hfew) (hline := hline) (hs := hst) (hplain := hpl)) hs
/-- xs[i] = v, xs the frame's own -/
theorem blk_setIx {n m : Nat} {x : Str} {p1 p2 : Pos} (he : PE C.X (.Name x p1) (tVar n)) (hn : ρ[n]? = some (.o b Ds)) (hi : Ev C ρ e b1 (.int i)) (hv : Ev C ρ c b2 D) (hm : ixN Ds.length i = some m) (h : Blk C (ρ.set n (.o (b && b2) (Ds.set m D))) rest T)
    (ha : ∀ v, assign (.Subscript (.Name x p1) e p2) C.X.env v = (do
      let ov ← holding [v] (eval (.Name x p1) C.X.env)
      let iv ← holding [v, ov] (eval e C.X.env)
      standAt p2
      holding [v, ov, iv] (setItem ov iv v)
      release [v, ov, iv] []) := by intro _; rfl)
    (hs : swapsWithSole [.Subscript (.Name x p1) e p2] c pos.line C.X.env = pure false := by rfl) (hw : swappedStores [.Subscript (.Name x p1) e p2] c C.X.env = pure none := by rfl)
    (h1 : (assignEach [.Subscript (.Name x p1) e p2] C.X.env).map (·.2) = [assign (.Subscript (.Name x p1) e p2) C.X.env] := by rfl) : Blk C ρ (.Assign [.Subscript (.Name x p1) e p2] c pos :: rest) T :=
  blk_cons (ps_asg pe_sem (pg_sub he pe_sem set_list ha) hs hw h1) fun Pn q σ H E => by
    obtain ⟨p, vs, hv', hp, r⟩ := E.at_o hn
    refine (hv.run _ _ q σ H E).mono fun v H1 ⟨s1, rv⟩ => ?_
    refine ⟨_, hv', (hi.run _ _ q σ H1 (E.grow s1)).mono fun iv H2 ⟨s2, ri⟩ => ?_⟩
    cases ri
    have s12 := s1.trans s2
    refine ⟨p, vs, i, m, rfl, rfl, s12 _ _ hp, by rw [RpAll.length r]; exact hm, ?_⟩
    exact h.run Pn q σ _ ((E.grow s12).write hn hv' (RpAll.set (RV.and' ((Ct.Env.shift (E.grow s1) s2).rv rv)) m ((Ct.Env.shift E s12).ra r).and))
theorem ev_slT {lo hi : Option Expr} {l h : Option Int} {p2 : Pos} (ha : Ev C ρ a b (.tuple Ds)) (hl : Eo C ρ lo l) (hh : Eo C ρ hi h) (hw : ¬ (HT.sIx Ds.length 0 l = 0 ∧ HT.sIx Ds.length Ds.length h = Ds.length)) : Ev C ρ (.Subscript a (.Slice lo hi none p2) pos) b (.tuple (cutD Ds l h)) := .mk fun Pn F q σ H E =>
  semE_of (pe_slice sl_tup pe_sem po_sem po_sem) ((ha.run _ F q σ H E).mono fun x H1 ⟨s1, r1⟩ => hl.run (E.grow s1) fun H2 s2 => hh.run (E.grow (s1.trans s2)) fun H3 s3 => by
    cases r1 with
    | @tup a' vs _ t r1 =>
      have s13 := s2.trans s3
      have sh := Ct.Env.shift (E.grow s1) s13
      refine ⟨_, vs, rfl, sh.tup t, by rw [RpAll.length r1]; exact hw, fun u hu => ?_⟩
      have s4 : Same H3 (upd H3 u (.tup (cutV vs l h))) := same_upd hu
      have s14 := s1.trans s13
      exact ⟨s14.trans s4, .tup (.of upd_same) ((Ct.Env.shift (E.grow s14) s4).ra ((sh.ra r1).cut l h))⟩)
theorem Blk.imp {T' : Tn} (h : Blk C ρ sts T) (h1 : ∀ r, T.nx r → T'.nx r) (h2 : T'.rt = T.rt) (h3 : T'.bk = T.bk) (h4 : T'.ct = T.ct) : Blk C ρ sts T' := .mk fun Pn q σ H E => by
  obtain ⟨nx, rt, bk, ct⟩ := T
  obtain ⟨nx', rt', bk', ct'⟩ := T'
  simp only at h2 h3 h4 h1
  subst h2 h3 h4
  exact (h.run Pn q σ H E).mono (fun _ _ ⟨r, q1, z, E1⟩ => ⟨r, q1, h1 r z, E1⟩) (fun _ _ z => z) (fun _ _ z => z) (fun _ _ z => z)
/-- an if whose ways join at N -/
theorem blk_ifJ {y : Bool} {A B : List Stmt} (N : List SV → Prop) (hc : EvT C ρ c y) (h1 : y = true → Blk C ρ A { T with nx := N }) (h2 : y = false → Blk C ρ B { T with nx := N }) (h3 : ∀ r, N r → Blk C r rest T) : Blk C ρ (.If c A B pos :: rest) T :=
  blk_if hc (fun e => (h1 e).imp h3 rfl rfl rfl) (fun e => (h2 e).imp h3 rfl rfl rfl)
end
theorem ev_powC {C : Ct} {ρ : List SV} {a c : Expr} {pos : Pos} {b1 b2 : Bool} {i j : Int} (v : Int) (ha : Ev C ρ a b1 (.int i)) (hc : Ev C ρ c b2 (.int j)) (h : CPow i j) (hv : i ^ j.toNat = v) : Ev C ρ (.BinOp a .Pow c pos) true (.int v) := by
  rw [← hv]; exact ev_pow ha hc h
theorem mulL {i j : Int} (h : -(2 ^ 64) < i ∧ i < 2 ^ 64) : IntMulOk i j := CMul.ok (.inl h)
theorem mulR {i j : Int} (h : -(2 ^ 64) < j ∧ j < 2 ^ 64) : IntMulOk i j := CMul.ok (.inr h)
theorem mulW {i j : Int} {a b : Nat} (ha : i.natAbs < 2 ^ a) (hb : j.natAbs < 2 ^ b) (h0 : 0 < a) (h1 : 0 < b) (h : a + b ≤ 1000000) : IntMulOk i j := CMulW.ok (wide_mul ha hb h0 h1 h)
theorem pyS {i j : Int} (h : j.natAbs < 1073741824) : Builtin.divisionGoesByPylong i j = false := PyProof.noPylong_small h
theorem pyW {i j : Int} {b : Nat} (hb : j.natAbs < 2 ^ b) (h0 : 0 < b) (h9 : b ≤ 9000) : Builtin.divisionGoesByPylong i j = false := PyProof.noPylong_of_log2 (Nat.lt_of_lt_of_le (PySem.Flt.log2_lt_of h0 hb) h9)
/-- an item of a made list -/
theorem atI_map' {α : Type} {f : α → PyData} {xs : List α} {k : Int} (d : α) (h0 : 0 ≤ k) (h : k < xs.length) : atI (xs.map f) k = some (f (xs.getD k.toNat d)) := by
  have hk : k.toNat < xs.length := by omega
  have e : k = ((k.toNat : Nat) : Int) := by omega
  have h1 : atI (xs.map f) ((k.toNat : Nat) : Int) = some (f (xs.getD k.toNat d)) := by
    refine atI_nat ?_
    rw [List.getElem?_map, List.getElem?_eq_getElem hk, List.getD, List.getElem?_eq_getElem hk] <;> rfl
  rw [← e] at h1
  exact h1
theorem ixN_in {n : Nat} {k : Int} (h0 : 0 ≤ k) (h : k < n) : ixN n k = some k.toNat := by
  unfold ixN
  rw [if_pos h0, if_pos h]
theorem small {n m : Nat} (h : n ≤ m) (hm : m ≤ 16777216 := by decide) : n ≤ sizeLine := by
  have : sizeLine = 16777216 := by decide
  omega
theorem small' {n m : Nat} (h : n < m) (hm : m ≤ 16777216 := by decide) : n < sizeLine := by
  have : sizeLine = 16777216 := by decide
  omega
/-! data in short -/
abbrev tInts (ns : List Int) : PyData := .tuple (ns.map .int)
abbrev lInts (ns : List Int) : PyData := .list (ns.map .int)
abbrev House := List Int × List Int
abbrev dH (h : House) : PyData := .tuple [tInts h.1, tInts h.2]
abbrev dB (b : List House) : PyData := .list (b.map dH)
theorem flat_ints : ∀ ns : List Int, Rk.flat.flatAll (ns.map .int) = true
  | [] => rfl
  | n :: ns => by simp only [List.map_cons, Rk.flat.flatAll, Rk.flat, flat_ints ns, Bool.and_self]
theorem flat_dH (h : House) : Rk.flat (dH h) = true := by
  simp only [dH, tInts, Rk.flat, Rk.flat.flatAll, flat_ints, Bool.and_self]
theorem flat_dHs : ∀ b : List House, Rk.flat.flatAll (b.map dH) = true
  | [] => rfl
  | h :: b => by
    have h1 := flat_dH h
    have h2 := flat_dHs b
    simp only [List.map_cons, Rk.flat.flatAll, Bool.and_eq_true]
    exact ⟨h1, h2⟩
theorem canLay_ints : ∀ ns : List Int, PyData.canLayAll0 (ns.map .int) = true
  | [] => by simp [PyData.canLayAll0]
  | n :: ns => by simp only [List.map_cons, PyData.canLayAll0, PyData.canLay0, canLay_ints ns, Bool.and_self]
theorem depth_ints : ∀ ns : List Int, PyData.depthAll (ns.map .int) ≤ 0
  | [] => by simp [PyData.depthAll]
  | n :: ns => by
    have h := depth_ints ns
    simp only [List.map_cons, PyData.depthAll, PyData.depth]
    omega
theorem ev_catI {C : Ct} {ρ : List SV} {a c : Expr} {pos : Pos} {b1 b2 : Bool} {ns ms : List Int} (ha : Ev C ρ a b1 (tInts ns)) (hc : Ev C ρ c b2 (tInts ms)) (h0 : ns ≠ []) (hl : ns.length + ms.length ≤ sizeLine) : Ev C ρ (.BinOp a .Add c pos) (b1 && b2) (tInts (ns ++ ms)) := by
  unfold tInts
  rw [List.map_append]
  exact ev_catT ha hc (by simpa using h0) (by simpa using hl)
theorem ne_of_len {α : Type} {ns : List α} (h : 1 ≤ ns.length) : ns ≠ [] := by
  intro e; rw [e] at h; simp at h
theorem canLay_dHs : ∀ b : List House, PyData.canLayAll0 (b.map dH) = true
  | [] => by simp [PyData.canLayAll0]
  | h :: b => by
    have h1 := canLay_ints h.1
    have h2 := canLay_ints h.2
    have h3 := canLay_dHs b
    simp only [List.map_cons, PyData.canLayAll0, PyData.canLay0, h1, h2, h3, Bool.and_self]
theorem depth_dHs : ∀ b : List House, PyData.depthAll (b.map dH) ≤ 2
  | [] => by simp [PyData.depthAll]
  | h :: b => by
    have h1 := depth_ints h.1
    have h2 := depth_ints h.2
    have h3 := depth_dHs b
    simp only [List.map_cons, PyData.depthAll, PyData.depth]
    omega
theorem shaped_of {d : PyData} (h1 : d.canLay0 = true) (h2 : d.depth ≤ 64) : SeqAt.shaped d = true := by
  unfold SeqAt.shaped
  rw [h1, decide_eq_true h2]; rfl
theorem shaped_dHs (b : List House) : SeqAt.shaped (dB b) = true := by
  refine shaped_of (by simp only [PyData.canLay0, canLay_dHs]) ?_
  have := depth_dHs b
  simp only [PyData.depth]
  omega
structure GoodH (far : Int) (h : House) : Prop where
  t1 : 1 ≤ h.1.length
  t4 : h.1.length ≤ 4
  g1 : 1 ≤ h.2.length
  g4 : h.2.length ≤ 4
  tk : ∀ x ∈ h.1, 1 ≤ x ∧ x ≤ far
  gv : ∀ x ∈ h.2, 0 ≤ x ∧ x ≤ far
  ps : ∃ x ∈ h.2, 0 < x
theorem mem_getD {xs : List Int} {k : Nat} (h : k < xs.length) (d : Int) : xs.getD k d ∈ xs := by
  rw [List.getD, List.getElem?_eq_getElem h]; exact List.getElem_mem h
theorem mem_set_or {xs : List Int} {k : Nat} {v x : Int} (h : x ∈ xs.set k v) : x = v ∨ x ∈ xs := by
  rcases List.mem_or_eq_of_mem_set h with h | h
  · exact .inr h
  · exact .inl h
theorem map_set_int {xs : List Int} {k : Nat} {v : Int} : (xs.map PyData.int).set k (.int v) = (xs.set k v).map .int := by rw [List.map_set]
theorem blkC_ok {N : List Str} {sc scope : Scope} {own : List (Str × Nat)} (h : blkC N sc scope own = true) : BlkOk N sc scope own := blkOk_by h
end Rk

namespace Rk
open PySem PySem.Spec PyProof.Rows L2
/-! ### lists of lists of the frame's own -/
theorem Paired.get1 {α β : Type} {G : α → β → Prop} : ∀ {l₁ : List α} {l₂ : List β} {n : Nat} {y : β}, Paired G l₁ l₂ → l₂[n]? = some y → ∃ x, l₁[n]? = some x ∧ G x y
  | _, _, _, _, .nil, h => by simp at h
  | _, _, 0, _, .cons a _, h => by simp at h; subst h; exact ⟨_, rfl, a⟩
  | _, _, n + 1, _, .cons _ t, h => by
    obtain ⟨x, e, g⟩ := Paired.get1 (n := n) t (by simpa using h)
    exact ⟨x, by simpa using e, g⟩
theorem Paired.lenG {α β : Type} {G : α → β → Prop} : ∀ {l₁ : List α} {l₂ : List β}, Paired G l₁ l₂ → l₁.length = l₂.length
  | _, _, .nil => rfl
  | _, _, .cons _ t => by simp [Paired.lenG t]
theorem Paired.setG {α β : Type} {G G' : α → β → Prop} {x : α} {y : β} : ∀ {l₁ : List α} {l₂ : List β} {n : Nat}, Paired G l₁ l₂ → (∀ (j : Nat) a b, j ≠ n → l₁[j]? = some a → l₂[j]? = some b → G a b → G' a b) → G' x y → Paired G' (l₁.set n x) (l₂.set n y)
  | _, _, _, .nil, _, _ => .nil
  | _, _, 0, .cons a t, h, g => by
    refine .cons g ?_
    have : ∀ {l₁ : List α} {l₂ : List β}, Paired G l₁ l₂ → (∀ (j : Nat) a b, l₁[j]? = some a → l₂[j]? = some b → G a b → G' a b) → Paired G' l₁ l₂ := by
      intro l₁ l₂ p
      induction p with
      | nil => intro _; exact .nil
      | cons a t ih => intro h; exact .cons (h 0 _ _ rfl rfl a) (ih fun j a b h1 h2 => h (j + 1) a b (by simpa using h1) (by simpa using h2))
    exact this t fun j a b h1 h2 => h (j + 1) a b (by omega) (by simpa using h1) (by simpa using h2)
  | _, _, n + 1, .cons a t, h, g => .cons (h 0 _ _ (by omega) rfl rfl a) (Paired.setG t (fun j a b hj h1 h2 => h (j + 1) a b (by omega) (by simpa using h1) (by simpa using h2)) g)
section
variable {C : Ct} {ρ : List SV} {b b' b1 b2 : Bool} {e e2 a c c2 : Expr} {rest : List Stmt} {D : PyData} {Ds Es : List PyData} {Dss : List (List PyData)} {pos p : Pos} {i j : Int} {T : Tn} {k n m : Nat} {x : Str} {p1 p2 p3 : Pos}
theorem ix_oo (he : PE C.X (.Name x p1) (tVar n)) (hn : ρ[n]? = some (.oo b Dss)) (hc : Ev C ρ c b1 (.int i)) (hm : ixN Dss.length i = some m) (hd : Dss[m]? = some Ds) (hs : PlainIx c) {Pn H : Hp} {F : Addr → Prop} {q : Qn} {σ : L2.St} (E : C.Env Pn H σ ρ F q) {Q : VK}
    (h : ∀ H2 r p qs vs, Same H H2 → σ[n]? = some (some (.ref p)) → q n = p :: qs → H2 p = some (.lst (qs.map V.ref)) → qs[m]? = some r → (p :: qs).Nodup → Qs C.X.K b C.H0 H2 (Own q F) qs Dss → H2 r = some (.lst vs) → C.Rs b H2 (Own q F) vs Ds → Q (.ref r) H2) :
    semE C.X (.Subscript (.Name x p1) c p2) σ H Q := by
  obtain ⟨p, qs, hv, hq, hp, hQ, nd⟩ := E.at_oo hn
  refine semE_of (pe_ix ix_list he pe_sem hs) ⟨_, hv, (hc.run _ F q σ H E).mono fun y H2 ⟨s, r⟩ => ?_⟩
  cases r
  have E2 := E.grow s
  obtain ⟨p', qs', hv', hq', hp', hQ', nd'⟩ := E2.at_oo hn
  rw [hv] at hv'; cases hv'
  rw [hq] at hq'; cases hq'
  obtain ⟨r, hr, vs, e1, r1⟩ := Paired.get1 hQ' hd
  have hl := Paired.lenG hQ'
  refine ⟨p, qs.map V.ref, i, .ref r, rfl, rfl, .of hp', ?_, h H2 r p qs vs s hv hq hp' hr nd' hQ' e1 r1⟩
  unfold atI
  rw [List.length_map, hl, hm]
  show (qs.map V.ref)[m]? = _
  rw [List.getElem?_map, hr] <;> rfl
theorem bx_oo (he : PE C.X (.Name x p1) (tVar n)) (hn : ρ[n]? = some (.oo b Dss)) (hc : Ev C ρ c b1 (.int i)) (hm : ixN Dss.length i = some m) (hd : Dss[m]? = some Ds) (hs : PlainIx c := by exact fun _ _ => rfl) : Bx C ρ (.Subscript (.Name x p1) c pos) b Ds :=
  .mk fun Pn F q σ H E => ix_oo he hn hc hm hd hs E fun H2 r p qs vs s _ _ _ _ _ _ e1 r1 => ⟨s, r, vs, rfl, e1, r1⟩
theorem nodup_ixA {l : List Addr} (h : l.Nodup) {i j : Nat} {a : Addr} (h1 : l[i]? = some a) (h2 : l[j]? = some a) : i = j := by
  obtain ⟨l1, e1⟩ := List.getElem?_eq_some_iff.mp h1
  obtain ⟨l2, e2⟩ := List.getElem?_eq_some_iff.mp h2
  exact (List.getElem_inj h).mp (e1.trans e2.symm)
/-- an inner list is written -/
theorem EnvQ.innerOO {K : PySem.W.Frag} {H0 Pn H : Hp} {F : Addr → Prop} {σ : L2.St} {ρ : List SV} {q : Qn} {p r : Addr} {qs : List Addr} {ws : List V} (E : EnvQ K H0 Pn H σ ρ F q) (h : ρ[n]? = some (.oo b Dss)) (hv : σ[n]? = some (some (.ref p))) (hq : q n = p :: qs) (hp : H p = some (.lst (qs.map V.ref)))
    (hr : qs[m]? = some r) (nd : (p :: qs).Nodup) (hQ : Qs K b H0 H (Own q F) qs Dss) (rw' : RA K b' H0 H (Own q F) ws Es) : EnvQ K H0 Pn (upd H r (.lst ws)) σ (ρ.set n (.oo (b && b') (Dss.set m Es))) F (clr q n (p :: qs)) := by
  have hrm : r ∈ qs := List.mem_of_getElem? hr
  have hrp : r ≠ p := fun z => by
    rw [z] at hrm
    exact (List.nodup_cons.mp nd).1 hrm
  have or' : Own q F r := .inr ⟨n, by rw [hq]; simp [hrm]⟩
  have t : Shift H (Own q F) (upd H r (.lst ws)) (Own q F) := ⟨fun a o n e => by rw [upd_ne (fun z => n (by rw [z]; exact or'))]; exact e, fun a n => .inl n, E.own⟩
  refine E.writeOO h hv hq (by simp [hrm]) (p :: qs) (fun a z => .inl z) (fun a z => ⟨z, fun w => E.dis a n z (by rw [hq]; exact w)⟩) (.oo (by rw [upd_ne (Ne.symm hrp)]; exact hp) ?_ nd)
  have e : qs.set m r = qs := by
    obtain ⟨l1, e1⟩ := List.getElem?_eq_some_iff.mp hr
    rw [← e1]; simp
  have := Paired.setG (G' := fun q' Ds => ∃ vs, upd H r (.lst ws) q' = some (.lst vs) ∧ RA K (b && b') H0 (upd H r (.lst ws)) (Own q F) vs Ds) (x := r) (y := Es) (n := m) hQ (fun j a d hj h1 h2 ⟨vs, e1, r1⟩ => ⟨vs, by
    rw [upd_ne (fun z => hj (nodup_ixA (List.nodup_cons.mp nd).2 (by rw [← z]; exact h1) hr))]
    exact e1, (t.ra r1).and⟩) ⟨ws, upd_same, (t.ra rw').and'⟩
  rw [e] at this
  exact this
/-- xs[c][c2] = v -/
theorem blk_setOO {w : Nat} (he : PE C.X (.Name x p1) (tVar n)) (hn : ρ[n]? = some (.oo b Dss)) (hc : Ev C ρ c b1 (.int i)) (hm : ixN Dss.length i = some m) (hd : Dss[m]? = some Ds) (hc2 : Ev C ρ c2 b2 (.int j)) (hw : ixN Ds.length j = some w) (hv : Ev C ρ e b' D)
    (h : Blk C (ρ.set n (.oo (b && (b && b')) (Dss.set m (Ds.set w D)))) rest T) (hs1 : PlainIx c := by exact fun _ _ => rfl)
    (ha : ∀ v, assign (.Subscript (.Subscript (.Name x p1) c p2) c2 p3) C.X.env v = (do
      let ov ← holding [v] (eval (.Subscript (.Name x p1) c p2) C.X.env)
      let iv ← holding [v, ov] (eval c2 C.X.env)
      standAt p3
      holding [v, ov, iv] (setItem ov iv v)
      release [v, ov, iv] []) := by intro _; rfl)
    (hs : swapsWithSole [.Subscript (.Subscript (.Name x p1) c p2) c2 p3] e pos.line C.X.env = pure false := by rfl) (hsw : swappedStores [.Subscript (.Subscript (.Name x p1) c p2) c2 p3] e C.X.env = pure none := by rfl)
    (h1 : (assignEach [.Subscript (.Subscript (.Name x p1) c p2) c2 p3] C.X.env).map (·.2) = [assign (.Subscript (.Subscript (.Name x p1) c p2) c2 p3) C.X.env] := by rfl) : Blk C ρ (.Assign [.Subscript (.Subscript (.Name x p1) c p2) c2 p3] e pos :: rest) T :=
  blk_cons (ps_asg pe_sem (pg_sub pe_sem pe_sem set_list ha) hs hsw h1) fun Pn q σ H E => by
    refine (hv.run _ _ q σ H E).mono fun v H1 ⟨s1, rv⟩ => ?_
    have E1 := E.grow s1
    refine ix_oo he hn hc hm hd hs1 E1 fun H2 r p qs vs s2 hσ hq hp hr nd hQ er rr => ?_
    refine (hc2.run _ _ q σ H2 (E1.grow s2)).mono fun iv H3 ⟨s3, ri⟩ => ?_
    cases ri
    have E3 := (E1.grow s2).grow s3
    obtain ⟨p', qs', hσ', hq', hp', hQ', nd'⟩ := E3.at_oo hn
    rw [hσ] at hσ'; cases hσ'
    rw [hq] at hq'; cases hq'
    refine ⟨r, vs, j, w, rfl, rfl, s3 _ _ er, by rw [RpAll.length rr]; exact hw, ?_⟩
    refine h.run Pn _ σ _ (E3.innerOO hn hσ hq hp' hr nd hQ' ?_)
    exact RpAll.set (RV.and' ((Ct.Env.shift E1 (s2.trans s3)).rv rv)) w ((Ct.Env.shift (E1.grow s2) s3).ra rr).and
/-- xs[c].append(e) -/
theorem blk_appOO (he : PE C.X (.Name x p1) (tVar n)) (hn : ρ[n]? = some (.oo b Dss)) (hc : Ev C ρ c b1 (.int i)) (hm : ixN Dss.length i = some m) (hd : Dss[m]? = some Ds) (hv : Ev C ρ e b' D) (hl : Ds.length < sizeLine)
    (h : Blk C (ρ.set n (.oo (b && (b && b')) (Dss.set m (Ds ++ [D])))) rest T) (hs1 : PlainIx c := by exact fun _ _ => rfl)
    (hp : PS C.X (.Expr (.Call (.Attribute (.Subscript (.Name x p1) c p2) "append" p3) [e] [] p) pos) (tDrop (tBM C.X.K "list" rAppend (semE C.X (.Subscript (.Name x p1) c p2)) (tCons (semE C.X e) tNil)))) : Blk C ρ (.Expr (.Call (.Attribute (.Subscript (.Name x p1) c p2) "append" p3) [e] [] p) pos :: rest) T :=
  blk_cons hp fun Pn q σ H E => by
    refine ix_oo he hn hc hm hd hs1 E fun H2 r p qs vs s2 hσ hq hp hr nd hQ er rr => ?_
    refine ⟨.inl ⟨rfl, _, .of er⟩, (hv.run _ _ q σ H2 (E.grow s2)).mono fun v H3 ⟨s3, rv⟩ => ?_⟩
    have E3 := (E.grow s2).grow s3
    obtain ⟨p', qs', hσ', hq', hp', hQ', nd'⟩ := E3.at_oo hn
    rw [hσ] at hσ'; cases hσ'
    rw [hq] at hq'; cases hq'
    refine ⟨r, vs, v, rfl, rfl, s3 _ _ er, by rw [RpAll.length rr]; exact hl, ?_⟩
    refine h.run Pn _ σ _ (E3.innerOO hn hσ hq hp' hr nd hQ' ?_)
    exact RpAll.append ((Ct.Env.shift (E.grow s2) s3).ra rr).and (.cons (RV.and' rv) .nil)
/-- xs[c].pop(e) -/
theorem blk_popOO {w : Nat} (he : PE C.X (.Name x p1) (tVar n)) (hn : ρ[n]? = some (.oo b Dss)) (hc : Ev C ρ c b1 (.int i)) (hm : ixN Dss.length i = some m) (hd : Dss[m]? = some Ds) (hv : Ev C ρ e b' (.int (w : Int))) (hl : w < Ds.length) (hl2 : Ds.length ≤ 1000)
    (h : Blk C (ρ.set n (.oo (b && b) (Dss.set m (Ds.eraseIdx w)))) rest T) (hs1 : PlainIx c := by exact fun _ _ => rfl)
    (hp : PS C.X (.Expr (.Call (.Attribute (.Subscript (.Name x p1) c p2) "pop" p3) [e] [] p) pos) (tDrop (tBM C.X.K "list" rPopAt (semE C.X (.Subscript (.Name x p1) c p2)) (tCons (semE C.X e) tNil)))) : Blk C ρ (.Expr (.Call (.Attribute (.Subscript (.Name x p1) c p2) "pop" p3) [e] [] p) pos :: rest) T :=
  blk_cons hp fun Pn q σ H E => by
    refine ix_oo he hn hc hm hd hs1 E fun H2 r p qs vs s2 hσ hq hp hr nd hQ er rr => ?_
    refine ⟨.inl ⟨rfl, _, .of er⟩, (hv.run _ _ q σ H2 (E.grow s2)).mono fun v H3 ⟨s3, rv⟩ => ?_⟩
    cases rv
    have E3 := (E.grow s2).grow s3
    obtain ⟨p', qs', hσ', hq', hp', hQ', nd'⟩ := E3.at_oo hn
    rw [hσ] at hσ'; cases hσ'
    rw [hq] at hq'; cases hq'
    have ll := RpAll.length rr
    have hix : ixN vs.length (w : Int) = some w := by rw [ixN_in (by omega) (by omega)]; simp
    refine ⟨r, vs, w, w, vs[w]'(by omega), rfl, rfl, s3 _ _ er, by omega, by omega, (ixN_seq hix).1, by simp, ?_⟩
    refine h.run Pn _ σ _ (E3.innerOO hn hσ hq hp' hr nd hQ' ?_)
    have er2 : ∀ {ds : List PyData} {us : List V} {L T : Addr → List V → Prop} (k : Nat), RpAll L T us ds → RpAll L T (us.eraseIdx k) (ds.eraseIdx k) := by
      intro ds
      induction ds with
      | nil => intro us L T k h; cases h; exact .nil
      | cons d ds ih =>
        intro us L T k h
        cases h with
        | cons a b =>
          cases k with
          | zero => exact b
          | succ k => exact .cons a (ih k b)
    exact er2 w ((Ct.Env.shift (E.grow s2) s3).ra rr)
/-- xs[c] = a new list -/
theorem blk_putOO (he : PE C.X (.Name x p1) (tVar n)) (hn : ρ[n]? = some (.oo b Dss)) (hc : Ev C ρ c b1 (.int i)) (hm : ixN Dss.length i = some m) (hv : EvO C ρ e b' Es)
    (h : Blk C (ρ.set n (.oo (b && b') (Dss.set m Es))) rest T)
    (ha : ∀ v, assign (.Subscript (.Name x p1) c p2) C.X.env v = (do
      let ov ← holding [v] (eval (.Name x p1) C.X.env)
      let iv ← holding [v, ov] (eval c C.X.env)
      standAt p2
      holding [v, ov, iv] (setItem ov iv v)
      release [v, ov, iv] []) := by intro _; rfl)
    (hs : swapsWithSole [.Subscript (.Name x p1) c p2] e pos.line C.X.env = pure false := by rfl) (hsw : swappedStores [.Subscript (.Name x p1) c p2] e C.X.env = pure none := by rfl)
    (h1 : (assignEach [.Subscript (.Name x p1) c p2] C.X.env).map (·.2) = [assign (.Subscript (.Name x p1) c p2) C.X.env] := by rfl) : Blk C ρ (.Assign [.Subscript (.Name x p1) c p2] e pos :: rest) T :=
  blk_cons (ps_asg pe_sem (pg_sub he pe_sem set_list ha) hs hsw h1) fun Pn q σ H E => by
    refine (hv.run _ _ q σ H E).mono fun v H1 ⟨s1, u, ws, ev, hu, hu1, rv⟩ => ?_
    subst ev
    have E1 := E.addF s1 hu hu1
    obtain ⟨p, qs, hσ, hq, hp, hQ, nd⟩ := E1.at_oo hn
    refine ⟨_, hσ, (hc.run _ _ q σ H1 E1).mono fun iv H2 ⟨s2, ri⟩ => ?_⟩
    cases ri
    have E2 := E1.grow s2
    obtain ⟨p', qs', hσ', hq', hp', hQ', nd'⟩ := E2.at_oo hn
    rw [hσ] at hσ'; cases hσ'
    rw [hq] at hq'; cases hq'
    have hl := Paired.lenG hQ'
    refine ⟨p, qs.map V.ref, i, m, rfl, rfl, hp', by rw [List.length_map, hl]; exact hm, ?_⟩
    have nup : u ∉ p :: qs := fun z => E1.dis u n (.inr rfl) (by rw [hq]; exact z)
    have hup : u ≠ p := fun z => nup (by rw [z]; simp)
    have op : Own q (Fp N0 u) p := .inr ⟨n, by rw [hq]; simp⟩
    have t : Shift H2 (Own q (Fp N0 u)) (upd H2 p (.lst ((qs.map V.ref).set m (.ref u)))) (Own q (Fp N0 u)) := ⟨fun a o n e => by rw [upd_ne (fun z => n (by rw [z]; exact op))]; exact e, fun a n => .inl n, E2.own⟩
    refine h.run Pn (clr q n (p :: qs.set m u)) σ _ (E2.writeOO hn hσ hq (by simp) (p :: qs.set m u) (fun a z => ?_) (F' := N0) (fun a z => z.elim) (.oo (by rw [upd_same, List.map_set]) ?_ ?_))
    · rcases List.mem_cons.mp z with z | z
      · exact .inl (by simp [z])
      · rcases List.mem_or_eq_of_mem_set z with z | z
        · exact .inl (by simp [z])
        · exact .inr (.inr z)
    · refine Paired.setG (G' := fun q' Ds => ∃ vs, upd H2 p (.lst ((qs.map V.ref).set m (.ref u))) q' = some (.lst vs) ∧ RA C.X.K (b && b') C.H0 (upd H2 p (.lst ((qs.map V.ref).set m (.ref u)))) (Own q (Fp N0 u)) vs Ds) hQ' (fun j a d hj h1 h2 ⟨vs, e1, r1⟩ => ⟨vs, ?_, (t.ra r1).and⟩) ⟨ws, ?_, (t.ra ((Ct.Env.shift E1 s2).ra rv)).and'⟩
      · rw [upd_ne (fun z => (List.nodup_cons.mp nd).1 (by rw [← z]; exact List.mem_of_getElem? h1))]; exact e1
      · rw [upd_ne hup]; exact s2 _ _ hu1
    · refine List.nodup_cons.mpr ⟨fun z => ?_, ?_⟩
      · rcases List.mem_or_eq_of_mem_set z with z | z
        · exact (List.nodup_cons.mp nd).1 z
        · exact hup z.symm
      · have nd2 := (List.nodup_cons.mp nd).2
        have nu : u ∉ qs := fun z => nup (by simp [z])
        have gen : ∀ {l : List Addr} (k : Nat), l.Nodup → u ∉ l → (l.set k u).Nodup := by
          intro l
          induction l with
          | nil => intro k _ _; simp
          | cons a l ih =>
            intro k h hn'
            simp only [List.mem_cons, not_or] at hn'
            cases k with
            | zero => exact List.nodup_cons.mpr ⟨hn'.2, (List.nodup_cons.mp h).2⟩
            | succ k => exact List.nodup_cons.mpr ⟨fun z => by
                rcases List.mem_or_eq_of_mem_set z with z | z
                · exact (List.nodup_cons.mp h).1 z
                · exact hn'.1 z.symm, ih k (List.nodup_cons.mp h).2 hn'.2⟩
        exact gen m nd2 nu
end
end Rk

namespace Rk
open PySem PySem.Spec PyProof.Rows L2
def FpL (F : Addr → Prop) (l : List Addr) : Addr → Prop := fun a => F a ∨ a ∈ l
theorem EnvQ.addL {K : PySem.W.Frag} {H0 Pn H H1 : Hp} {F : Addr → Prop} {σ : L2.St} {ρ : List SV} {q : Qn} {l : List Addr} (E : EnvQ K H0 Pn H σ ρ F q) (s : Same H H1) (hp : ∀ a ∈ l, H a = none ∧ ∃ vs, H1 a = some (.lst vs)) : EnvQ K H0 Pn H1 σ ρ (FpL F l) q := by
  have hq : ∀ a ∈ l, ∀ i, a ∉ q i := fun a ha i z => by
    obtain ⟨o, e, _⟩ := E.own a (.mem z)
    rw [(hp a ha).1] at e; cases e
  have t : Shift H (Own q F) H1 (Own q (FpL F l)) := ⟨fun a o _ e => s a o e, fun a n => by
    rcases n with (n | n) | n
    · exact .inl (.inl n)
    · exact .inr (hp a n).1
    · exact .inl (.inr n), E.own⟩
  refine ⟨E.len, fun i u h => (E.slot i u h).shift t (fun a ha => ?_), E.inj, E.out, E.same.trans s, E.base, fun a n => ?_, fun a i n => ?_, fun a n => ?_⟩
  · obtain ⟨o, e, _⟩ := E.own a (.mem ha)
    rw [e, s a o e]
  · rcases n with (n | n) | n
    · exact E.new a (.inl n)
    · exact E.same.free (hp a n).1
    · exact E.new a (.inr n)
  · rcases n with n | n
    · exact E.dis a i n
    · exact hq a n i
  · rcases n with (n | n) | n
    · obtain ⟨o, e, z⟩ := E.own a (.inl n)
      exact ⟨o, s a o e, z⟩
    · obtain ⟨vs, e⟩ := (hp a n).2
      exact ⟨_, e, fun _ z => (by cases z), fun _ _ z => (by cases z)⟩
    · obtain ⟨o, e, z⟩ := E.own a (.inr n)
      exact ⟨o, s a o e, z⟩
theorem Paired.appG {α β : Type} {G : α → β → Prop} : ∀ {l₁ m₁ : List α} {l₂ m₂ : List β}, Paired G l₁ l₂ → Paired G m₁ m₂ → Paired G (l₁ ++ m₁) (l₂ ++ m₂)
  | _, _, _, _, .nil, k => k
  | _, _, _, _, .cons a t, k => .cons a (Paired.appG t k)
section
variable {C : Ct} {ρ : List SV} {b bi : Bool} {e elt tg iter : Expr} {scope : Scope} {pos p : Pos} {k : Nat} {T : Tn} {rest : List Stmt}
theorem blk_setLcOO {n : Nat} {y : Str} {py : Pos} {α : Type} (Z : Cz C k) (hy : C.X.N[n]? = some y) (hyl : C.X.env.scope.names.lookup y = some .local) (hln : n < ρ.length) (xs : List α) (f : α → PyData) (g : α → List PyData) (r' : α → List SV) (own : List (Str × Nat)) {is : List Nat} (hs : Src C ρ tg iter false bi (xs.map f)) (ok : BlkOk C.X.N C.X.env.scope scope own) (hl : xs.length ≤ sizeLine)
    (his : ∀ i ∈ is, i ∈ own.map (·.2))
    (ht : ∀ x ∈ xs, ∀ s H A cl fp, Tgt (C.blk scope s H A cl fp) (wipeR ρ (own.map (·.2))) tg is bi (f x) (r' x))
    (hb : ∀ x ∈ xs, ∀ s H A cl fp, EvO (C.blk scope s H A cl fp) (r' x) elt b (g x))
    (hsw : swapsWith (.ListComp elt [⟨tg, iter, [], 0⟩] scope pos) (some (.Name y py)) p.line C.X.env = pure true) (h0 : Blk C (ρ.set n (.oo b (xs.map g))) rest T) (hfs : ∀ x, foldedSetIterable iter C.X.env x = pure x := by intro _; rfl) :
    Blk C ρ (.Assign [.Name y py] (.ListComp elt [⟨tg, iter, [], 0⟩] scope pos) p :: rest) T := by
  obtain ⟨wi, hpi, hw⟩ := hs
  refine blk_cons (ps_setLc Z.calm Z.nd hy hyl hsw hpi ok (g := tgOf C scope tg) (tt := ttOf C scope []) (te := teOf C scope elt) (fun s H A cl fp => ⟨fun pins s1 σ H v u Q I r h => h s _ A cl fp pins s1 u I r⟩) (fun s H A cl fp => pts_ttOf) (fun s H A cl fp => ⟨fun pins s1 σ H Q I h => h s _ A cl fp pins s1 I⟩) hfs) fun Pn q σ H E => ?_
  refine hw Pn N0 q σ H E _ fun J G Y H' s w hG hY => ?_
  intro D hD
  have E' := E.grow s
  have w' := w
  rw [List.length_map] at w'
  let Pv : Nat → Hp → Prop := fun n H1 => ∃ qs : List Addr, H1 D = some (.lst (qs.map V.ref)) ∧ Same H' H1 ∧ (D :: qs).Nodup ∧ (∀ a ∈ qs, H' a = none) ∧ Qs C.X.K b C.H0 H1 (Own q (FpL N0 (D :: qs))) qs ((xs.take n).map g)
  have env : ∀ {H1 : Hp} {qs : List Addr} {ls : List (List PyData)} {N : Addr → Prop}, H1 D = some (.lst (qs.map V.ref)) → Same H' H1 → (∀ a ∈ qs, H' a = none) → Qs C.X.K b C.H0 H1 N qs ls → C.Env Pn H1 σ ρ (FpL N0 (D :: qs)) q := by
    intro H1 qs ls N h1 h2 h3 h4
    refine E'.addL h2 fun a ha => ?_
    rcases List.mem_cons.mp ha with rfl | ha
    · exact ⟨hD, _, h1⟩
    · refine ⟨h3 a ha, ?_⟩
      clear h1 h3 h2
      have : ∀ {qs : List Addr} {ls : List (List PyData)}, Qs C.X.K b C.H0 H1 N qs ls → a ∈ qs → ∃ vs, H1 a = some (.lst vs) := by
        intro qs ls h
        induction h with
        | nil => intro z; cases z
        | cons x t ih =>
          intro z
          rcases List.mem_cons.mp z with rfl | z
          · exact ⟨_, x.choose_spec.1⟩
          · exact ih z
      exact this h4 ha
  refine lc_it (g := tgOf C scope tg) (tt := ttOf C scope []) (te := teOf C scope elt) (vs := own.map (·.2)) (σ := σ) (Qd := fun H1 => gName n (V.ref D) σ H1 _) w' Pv ⟨[], upd_same, same_upd hD, by simp, fun a z => (by cases z), .nil⟩ (fun n H1 _ ⟨qs, _, s1, _⟩ => hG H1 fun a o _ z => s1 a o z) ?_ ?_
  · rintro m v H1 H2 hn ⟨qs, hacc, s1, nd, hnew, hQ⟩ y
    obtain ⟨s2, Dn, hDn, rD⟩ := hY m H1 v H2 (by rw [List.length_map]; exact hn) y
    have hx : xs[m]? = some xs[m] := List.getElem?_eq_getElem hn
    have hxm : xs[m] ∈ xs := List.getElem_mem hn
    rw [List.getElem?_map, hx] at hDn
    cases hDn
    have etake : xs.take (m + 1) = xs.take m ++ [xs[m]] := by simp
    have E1 := env hacc s1 hnew hQ
    have E2 := E1.grow s2
    obtain ⟨F3, q3, E3, o3, z3, f3⟩ := E2.wiped (own.map (·.2))
    have shD : Shift H' (Own q N0) H2 (Own q3 F3) := ⟨fun a o _ z => (s1.trans s2) a o z, fun a n => by
      rcases (o3 a).mp n with (n | n) | n
      · exact .inl (.inl n)
      · rcases List.mem_cons.mp n with rfl | n
        · exact .inr hD
        · exact .inr (hnew a n)
      · exact .inl (.inr n), E'.own⟩
    intro s H5 A cl fp
    refine ((ht _ hxm s H5 A cl fp).run Pn F3 q3 _ H2 v E3 (rD _ shD)).mono fun σ4 H4 ⟨eH, ⟨q4, E4, qs4⟩, w4⟩ => ?_
    subst eH
    refine ⟨(w4 _ his).trans wipe_wipe, ?_⟩
    have o4 : ∀ a, Own q4 F3 a ↔ Own q (FpL N0 (D :: qs)) a := fun a => by
      rw [← o3 a]
      constructor
      · exact qs4.own a
      · rintro (n | ⟨j, n⟩)
        · exact .inl n
        · rcases qs4.2 j a n with z | z
          · exact .inr ⟨j, z⟩
          · rw [z3 j (his j z)] at n; cases n
    refine iteT (B := Pv (m + 1) H4) ?_
    intro s' H5' A' cl' fp'
    refine ((hb _ hxm s' H5' A' cl' fp').run Pn F3 q4 σ4 H4 E4).mono fun y H7 ⟨s7, u, vs, ev, hu, hu1, r7⟩ => ?_
    subst ev
    have hlen : (qs.map V.ref).length < sizeLine := by
      have := Paired.lenG hQ
      rw [List.length_map, List.length_take] at this
      rw [List.length_map]
      omega
    have s17 : Same H1 H7 := s2.trans s7
    have hu' : H' u = none := (s1.trans s2).free hu
    have huD : u ≠ D := fun z => by
      rw [z, s2 _ _ hacc] at hu; cases hu
    have huq : u ∉ qs := fun z => by
      obtain ⟨o, e, _⟩ := E2.own u (.inl (.inr (by simp [z])))
      rw [hu] at e; cases e
    refine ⟨qs.map V.ref, s17 _ _ hacc, hlen, qs ++ [u], by rw [upd_same, List.map_append] <;> rfl, fun a o z => ?_, ?_, fun a ha => ?_, ?_⟩
    · rw [upd_ne (ne_of_none z hD)]
      exact s17 _ _ (s1 a o z)
    · have nd' := List.nodup_cons.mp nd
      refine List.nodup_cons.mpr ⟨fun z => ?_, ?_⟩
      · rcases List.mem_append.mp z with z | z
        · exact nd'.1 z
        · exact huD (List.mem_singleton.mp z).symm
      · refine List.nodup_append.mpr ⟨nd'.2, by simp, fun a ha b hb => ?_⟩
        rw [List.mem_singleton.mp hb]
        rintro rfl
        exact huq ha
    · rcases List.mem_append.mp ha with z | z
      · exact hnew a z
      · rw [List.mem_singleton.mp z]; exact hu'
    · rw [etake, List.map_append]
      have big : ∀ a, Own q (FpL N0 (D :: (qs ++ [u]))) a → Own q (FpL N0 (D :: qs)) a ∨ a = u := fun a n => by
        rcases n with (n | n) | n
        · exact n.elim
        · simp only [List.mem_cons, List.mem_append, List.not_mem_nil, or_false] at n
          rcases n with n | n | n
          · exact .inl (.inl (.inr (by simp [n])))
          · exact .inl (.inl (.inr (by simp [n])))
          · exact .inr n
        · exact .inl (.inr n)
      -- the heap with the new list, then with D written
      have sh : Shift H1 (Own q (FpL N0 (D :: qs))) (upd H7 D (.lst (qs.map V.ref ++ [V.ref u]))) (Own q (FpL N0 (D :: (qs ++ [u])))) := ⟨fun a o n e => by
        rw [upd_ne (fun z => n (by rw [z]; exact .inl (.inr (by simp))))]; exact s17 a o e, fun a n => by
        rcases big a n with z | z
        · exact .inl z
        · rw [z]; exact .inr (s2.free hu), E1.own⟩
      refine Paired.appG (l₁ := qs) (m₁ := [u]) ?_ (.cons ⟨vs, by rw [upd_ne huD]; exact hu1, ?_⟩ .nil)
      · have gen : ∀ {ps : List Addr} {ls : List (List PyData)}, (∀ a ∈ ps, a ∈ qs) → Qs C.X.K b C.H0 H1 (Own q (FpL N0 (D :: qs))) ps ls → Qs C.X.K b C.H0 (upd H7 D (.lst (qs.map V.ref ++ [V.ref u]))) (Own q (FpL N0 (D :: (qs ++ [u])))) ps ls := by
          intro ps ls hps h
          induction h with
          | nil => exact .nil
          | cons x t ih =>
            obtain ⟨ws, e1, r1⟩ := x
            refine .cons ⟨ws, ?_, sh.ra r1⟩ (ih fun a ha => hps a (by simp [ha]))
            rw [upd_ne (fun z => (List.nodup_cons.mp nd).1 (by rw [← z]; exact hps _ (by simp)))]
            exact s17 _ _ e1
        exact gen (fun _ z => z) hQ
      · have sh7 : Shift H7 (Own q4 (Fp F3 u)) (upd H7 D (.lst (qs.map V.ref ++ [V.ref u]))) (Own q (FpL N0 (D :: (qs ++ [u])))) := ⟨fun a o n e => by
          rw [upd_ne (fun z => n (by
            rw [z]
            rcases (o4 D).mpr (.inl (.inr (by simp))) with y | y
            · exact .inl (.inl y)
            · exact .inr y))]; exact e, fun a n => by
          rcases big a n with z | z
          · rcases (o4 a).mpr z with y | y
            · exact .inl (.inl (.inl y))
            · exact .inl (.inr y)
          · exact .inl (.inl (.inr z)), (E4.addF s7 hu hu1).own⟩
        exact sh7.ra r7
  · rintro H1 ⟨qs, hacc, s1, nd, hnew, hQ⟩
    rw [List.take_length] at hQ
    have E1 := env hacc s1 hnew hQ
    exact h0.run Pn _ _ H1 (E1.put (F' := N0) (l := D :: qs) hln (fun a z => z.elim) (fun a z => .inr z) (.oo hacc hQ nd))
end
end Rk

namespace Rk
open PySem PySem.Spec PyProof.Rows L2

/-! ### isinstance -/
def tyD : PyData → String
  | .none => "NoneType"
  | .bool _ => "bool"
  | .int _ => "int"
  | .str _ => "str"
  | .list _ => "list"
  | .tuple _ => "tuple"
  | .dict _ => "dict"
theorem ty_rv {K : PySem.W.Frag} {b : Bool} {H0 H : Hp} {N : Addr → Prop} : ∀ {D : PyData} {v : V}, RV K b H0 H N v D → TyX K H v (.type (tyD D))
  | .none, _, h => by cases h; exact .base .non
  | .bool b, _, h => by cases h; exact .base (.bl b)
  | .int i, _, h => by cases h; exact .base (.int i)
  | .str x, _, h => by cases h; exact .base (.str x)
  | .list ds, _, h => by
    cases h with
    | lst a r => 
      exact .base (.lst a.2.1)
  | .tuple ds, _, h => by
    cases h with
    | tup a r =>
      rcases a with (a | ⟨o, a⟩) | ⟨o, its, n, a, c, _⟩
      · exact .base (.tup a)
      · exact .fTuple a
      · exact .kTuple a c
  | .dict _, _, h => by cases h
def IsT (K : PySem.W.Frag) (t c : String) (r : Bool) : Prop := PySem.W.kitOne K (.type t) (.type c) = some r
section
variable {K : PySem.W.Frag}
theorem is_same (t : String) : IsT K t t true := by
  have e : ((Value.type t) == (Value.type t)) = true := by
    simp
  show (if _ then _ else _) = _
  rw [if_pos e]
theorem is_bool_int : IsT K "bool" "int" true := by rfl
theorem is_int_bool : IsT K "int" "bool" false := by rfl
theorem is_list_str : IsT K "list" "str" false := by rfl
theorem is_tuple_str : IsT K "tuple" "str" false := by rfl
theorem is_none_str : IsT K "NoneType" "str" false := by rfl
end
section
variable {C : Ct} {ρ : List SV} {b : Bool} {e : Expr} {pos p p2 : Pos} {x : Str} {D : PyData} {T : String} {r : Bool}
theorem ev_isi (hm : C.X.mg "isinstance" = none) (hm2 : C.X.mg x = none) (h : Ev C ρ e b D) (hv : bootBuiltins x = some (.type T)) (hk : IsT C.X.K (tyD D) T r) (hn : x ≠ "__name__" := by decide) (hdb : (x == ("__debug__" : Str)) = false := by decide)
    (he : starEach (e :: [.Name x p2]) C.X.env = (false, eval e C.X.env) :: starEach [.Name x p2] C.X.env := by rfl)
    (he2 : starEach (.Name x p2 :: []) C.X.env = (false, eval (.Name x p2) C.X.env) :: starEach [] C.X.env := by rfl) (hpl : (backTo pos (starEach [.Name x p2] C.X.env)).any (·.1) = false := by rfl)
    (hg : Gl C.X "isinstance" := by rfl) (hg2 : Gl C.X x := by rfl) : Ev C ρ (.Call (.Name "isinstance" p) [e, .Name x p2] [] pos) true (.bool r) := .mk fun Pn F q σ H E => by
  refine semE_of (pe_callB call_isi hg hm boot_isinstance (pa_cons pe_sem (pa_cons (pe_bltn (v := .ty T) hg2 hm2 hv rfl hn hdb) pa_nil he2) he) (by decide) (by decide) he hpl) ?_
  refine (h.run _ F q σ H E).mono fun v H1 ⟨s1, r1⟩ => ?_
  exact ⟨v, .ty T, .type (tyD D), .type T, r, rfl, .ty T, ty_rv r1, hk, s1, .bl r⟩
/-- of a list -/
theorem ev_isiL {Ds : List PyData} (hm : C.X.mg "isinstance" = none) (hm2 : C.X.mg x = none) (h : Bx C ρ e b Ds) (hv : bootBuiltins x = some (.type T)) (hk : IsT C.X.K "list" T r) (hn : x ≠ "__name__" := by decide) (hdb : (x == ("__debug__" : Str)) = false := by decide)
    (he : starEach (e :: [.Name x p2]) C.X.env = (false, eval e C.X.env) :: starEach [.Name x p2] C.X.env := by rfl)
    (he2 : starEach (.Name x p2 :: []) C.X.env = (false, eval (.Name x p2) C.X.env) :: starEach [] C.X.env := by rfl) (hpl : (backTo pos (starEach [.Name x p2] C.X.env)).any (·.1) = false := by rfl)
    (hg : Gl C.X "isinstance" := by rfl) (hg2 : Gl C.X x := by rfl) : Ev C ρ (.Call (.Name "isinstance" p) [e, .Name x p2] [] pos) true (.bool r) := .mk fun Pn F q σ H E => by
  refine semE_of (pe_callB call_isi hg hm boot_isinstance (pa_cons pe_sem (pa_cons (pe_bltn (v := .ty T) hg2 hm2 hv rfl hn hdb) pa_nil he2) he) (by decide) (by decide) he hpl) ?_
  refine (h.run _ F q σ H E).mono fun v H1 ⟨s1, a, vs, ev, e1, r1⟩ => ?_
  subst ev
  exact ⟨_, .ty T, .type "list", .type T, r, rfl, .ty T, .base (.lst e1), hk, s1, .bl r⟩
end
end Rk

namespace Rk
open PySem PySem.Spec PyProof.Rows L2

/-! ### == on data -/
mutual
def pur : PyData → Bool
  | .none => true
  | .int _ => true
  | .str _ => true
  | .list xs => purAll xs
  | .tuple xs => purAll xs
  | .bool _ => false
  | .dict _ => false
def purAll : List PyData → Bool
  | [] => true
  | x :: xs => pur x && purAll xs
end
mutual
theorem eqv_sound : ∀ x y : PyData, pur x = true → pur y = true → PyData.eqv x y = true → x = y
  | .none, y, _, h, e => by cases y <;> simp_all [pur, PyData.eqv]
  | .int i, y, _, h, e => by cases y <;> simp_all [pur, PyData.eqv]
  | .str i, y, _, h, e => by cases y <;> simp_all [pur, PyData.eqv]
  | .bool _, _, h, _, _ => nomatch h
  | .dict _, _, h, _, _ => nomatch h
  | .list xs, y, h1, h, e => by
    cases y with
    | list ys =>
      rw [PyData.eqv] at e
      rw [eqvAll_sound xs ys (by simpa [pur] using h1) (by simpa [pur] using h) e]
    | _ => simp_all [pur, PyData.eqv]
  | .tuple xs, y, h1, h, e => by
    cases y with
    | tuple ys =>
      rw [PyData.eqv] at e
      rw [eqvAll_sound xs ys (by simpa [pur] using h1) (by simpa [pur] using h) e]
    | _ => simp_all [pur, PyData.eqv]
theorem eqvAll_sound : ∀ xs ys : List PyData, purAll xs = true → purAll ys = true → PyData.eqvAll xs ys = true → xs = ys
  | [], ys, _, _, e => by cases ys <;> simp_all [PyData.eqvAll]
  | x :: xs, ys, h1, h2, e => by
    cases ys with
    | nil => simp_all [PyData.eqvAll]
    | cons y ys =>
      simp only [purAll, Bool.and_eq_true] at h1 h2
      simp only [PyData.eqvAll, Bool.and_eq_true] at e
      rw [eqv_sound x y h1.1 h2.1 e.1, eqvAll_sound xs ys h1.2 h2.2 e.2]
end
theorem eqv_iff {x y : PyData} (h1 : pur x = true) (h2 : pur y = true) (h3 : x.canLay0 = true) : PyData.eqv x y = true ↔ x = y :=
  ⟨eqv_sound x y h1 h2, fun e => by rw [e] at h3 ⊢; exact PySem.SeqAt.eqv_refl y h3⟩
theorem pur_ints : ∀ ns : List Int, purAll (ns.map .int) = true
  | [] => rfl
  | n :: ns => by simp only [List.map_cons, purAll, pur, pur_ints ns, Bool.and_self]
theorem purAll_of {α : Type} {f : α → PyData} (h : ∀ x, pur (f x) = true) : ∀ xs : List α, purAll (xs.map f) = true
  | [] => rfl
  | x :: xs => by simp only [List.map_cons, purAll, h x, purAll_of h xs, Bool.and_self]
theorem canLayAll_of {α : Type} {f : α → PyData} (h : ∀ x, (f x).canLay0 = true) : ∀ xs : List α, PyData.canLayAll0 (xs.map f) = true
  | [] => rfl
  | x :: xs => by simp only [List.map_cons, PyData.canLayAll0, h x, canLayAll_of h xs, Bool.and_self]
theorem pur_list {xs : List PyData} (h : purAll xs = true) : pur (.list xs) = true := by rw [pur]; exact h
theorem pur_tuple {xs : List PyData} (h : purAll xs = true) : pur (.tuple xs) = true := by rw [pur]; exact h
theorem canLay_list {xs : List PyData} (h : PyData.canLayAll0 xs = true) : (PyData.list xs).canLay0 = true := by rw [PyData.canLay0]; exact h
theorem canLay_tuple {xs : List PyData} (h : PyData.canLayAll0 xs = true) : (PyData.tuple xs).canLay0 = true := by rw [PyData.canLay0]; exact h
theorem canLay_dB (b : List House) : (dB b).canLay0 = true := by
  show PyData.canLayAll0 (b.map dH) = true
  exact canLay_dHs b
theorem eqv_dB (b : List House) : PyData.eqv (dB b) (dB b) = true := PySem.SeqAt.eqv_refl _ (canLay_dB b)
end Rk

namespace Rk
open PySem PySem.Spec PyProof.Rows L2

/-! ### fractions -/
abbrev dF (q : Rat) : PyData := .tuple [.int q.num, .int (q.den : Int)]
theorem flat_dF (q : Rat) : Rk.flat (dF q) = true := rfl
theorem pur_dF (q : Rat) : pur (dF q) = true := rfl
theorem canLay_dF (q : Rat) : (dF q).canLay0 = true := rfl
theorem dF_inj {x y : Rat} : dF x = dF y ↔ x = y := by
  constructor
  · intro e
    injection e with e
    injection e with e1 e
    injection e with e2 e
    injection e1 with e1
    injection e2 with e2
    exact Rat.ext e1 (Int.ofNat.inj e2)
  · rintro rfl; rfl
/-- top // many, bottom // many -/
theorem divInt_pos {a b : Int} (hb : 0 < b) : (Rat.divInt a b).num = a / (Int.gcd a b : Int) ∧ ((Rat.divInt a b).den : Int) = b / (Int.gcd a b : Int) := by
  rw [Rat.num_divInt, Rat.den_divInt, if_neg (by omega), Int.gcd_comm b a, Int.sign_eq_one_of_pos hb, Int.one_mul]
  refine ⟨rfl, ?_⟩
  rw [Int.natCast_ediv, Int.natAbs_of_nonneg (by omega)]
theorem divInt_neg' {a b : Int} (hb : b < 0) : (Rat.divInt a b).num = a.fdiv (0 - (Int.gcd a b : Int)) ∧ ((Rat.divInt a b).den : Int) = b.fdiv (0 - (Int.gcd a b : Int)) := by
  have g1 : ((Int.gcd a b : Nat) : Int) ∣ a := Int.gcd_dvd_left a b
  have g2 : ((Int.gcd a b : Nat) : Int) ∣ b := Int.gcd_dvd_right a b
  have g0 : 0 < (Int.gcd a b : Int) := by
    have : Int.gcd a b ≠ 0 := by
      intro e
      rw [Int.gcd_eq_zero_iff] at e
      omega
    omega
  have n1 : (0 - (Int.gcd a b : Int)) ∣ a := by rw [Int.zero_sub]; exact Int.neg_dvd.mpr g1
  have n2 : (0 - (Int.gcd a b : Int)) ∣ b := by rw [Int.zero_sub]; exact Int.neg_dvd.mpr g2
  rw [Rat.num_divInt, Rat.den_divInt, if_neg (by omega), Int.gcd_comm b a, Int.sign_eq_neg_one_of_neg hb, Int.fdiv_eq_ediv_of_dvd n1, Int.fdiv_eq_ediv_of_dvd n2, Int.zero_sub, Int.ediv_neg, Int.ediv_neg]
  refine ⟨?_, ?_⟩
  · rw [Int.neg_mul, Int.one_mul, Int.neg_ediv_of_dvd g1]
  · rw [Int.natCast_ediv, Int.ofNat_natAbs_of_nonpos (by omega), Int.neg_ediv_of_dvd g2]
theorem num_sign {x : Rat} : 0 < x.den := x.den_pos
theorem divInt_add (x y : Rat) : Rat.divInt (x.num * (y.den : Int) + y.num * (x.den : Int)) ((x.den : Int) * (y.den : Int)) = x + y := by
  rw [← Rat.divInt_add_divInt _ _ (by have := x.den_pos; omega) (by have := y.den_pos; omega), Rat.num_divInt_den, Rat.num_divInt_den]
theorem divInt_sub (x y : Rat) : Rat.divInt (x.num * (y.den : Int) - y.num * (x.den : Int)) ((x.den : Int) * (y.den : Int)) = x - y := by
  have e := Rat.divInt_add_divInt x.num (-y.num) (d₁ := (x.den : Int)) (d₂ := (y.den : Int)) (by have := x.den_pos; omega) (by have := y.den_pos; omega)
  rw [Int.neg_mul, ← Int.sub_eq_add_neg] at e
  rw [← e, Rat.sub_eq_add_neg, Rat.num_divInt_den, Rat.divInt_ofNat (-y.num), ← Rat.neg_mkRat, Rat.mkRat_self]
theorem natAbs_ofNat {d n : Nat} (h : d < 2 ^ n) : (d : Int).natAbs < 2 ^ n := by simpa using h
theorem divInt_mul (x y : Rat) : Rat.divInt (x.num * y.num) ((x.den : Int) * (y.den : Int)) = x * y := by
  rw [← Rat.divInt_mul_divInt, Rat.num_divInt_den, Rat.num_divInt_den]
/-- the fractions' bounds -/
def Wd (n : Nat) (q : Rat) : Prop := q.num.natAbs < 2 ^ n ∧ q.den < 2 ^ n
theorem Wd.le {n m : Nat} {q : Rat} (h : Wd n q) (l : n ≤ m) : Wd m q :=
  ⟨Nat.lt_of_lt_of_le h.1 (Nat.pow_le_pow_right (by decide) l), Nat.lt_of_lt_of_le h.2 (Nat.pow_le_pow_right (by decide) l)⟩
theorem wd_divInt {n : Nat} {a b : Int} (hb : b ≠ 0) (h1 : a.natAbs < 2 ^ n) (h2 : b.natAbs < 2 ^ n) : Wd n (Rat.divInt a b) := by
  have g0 : Int.gcd b a ≠ 0 := by
    intro e
    rw [Int.gcd_eq_zero_iff] at e
    omega
  refine ⟨?_, ?_⟩
  · rw [Rat.num_divInt]
    have : (b.sign * a / ((b.gcd a : Nat) : Int)).natAbs ≤ a.natAbs := by
      refine Nat.le_trans (Int.natAbs_ediv_le_natAbs _ _) ?_
      rw [Int.natAbs_mul]
      have : b.sign.natAbs ≤ 1 := by
        rcases Int.lt_trichotomy b 0 with z | z | z
        · rw [Int.sign_eq_neg_one_of_neg z]; decide
        · rw [z]; decide
        · rw [Int.sign_eq_one_of_pos z]; decide
      calc b.sign.natAbs * a.natAbs ≤ 1 * a.natAbs := Nat.mul_le_mul_right _ this
        _ = a.natAbs := Nat.one_mul _
    omega
  · rw [Rat.den_divInt, if_neg hb]
    exact Nat.lt_of_le_of_lt (Nat.div_le_self _ _) h2
theorem lt_mul_pow {a b n m : Nat} (h1 : a < 2 ^ n) (h2 : b < 2 ^ m) : a * b < 2 ^ (n + m) := by
  rw [Nat.pow_add]
  exact Nat.mul_lt_mul_of_lt_of_lt h1 h2
theorem add_num_lt {x y : Rat} {n m : Nat} (h1 : Wd n x) (h2 : Wd m y) : (x.num * (y.den : Int) + y.num * (x.den : Int)).natAbs < 2 ^ (n + m + 1) ∧ ((x.den : Int) * (y.den : Int)).natAbs < 2 ^ (n + m) := by
  have a1 : (x.num * (y.den : Int)).natAbs < 2 ^ (n + m) := by
    rw [Int.natAbs_mul]; exact lt_mul_pow h1.1 h2.2
  have a2 : (y.num * (x.den : Int)).natAbs < 2 ^ (n + m) := by
    rw [Int.natAbs_mul, Nat.add_comm n m]; exact lt_mul_pow h2.1 h1.2
  have a3 : ((x.den : Int) * (y.den : Int)).natAbs < 2 ^ (n + m) := by
    rw [Int.natAbs_mul]; exact lt_mul_pow h1.2 h2.2
  refine ⟨?_, a3⟩
  have := Int.natAbs_add_le (x.num * (y.den : Int)) (y.num * (x.den : Int))
  have e : 2 ^ (n + m + 1) = 2 ^ (n + m) * 2 := Nat.pow_succ ..
  omega
theorem Wd.add {x y : Rat} {n m : Nat} (h1 : Wd n x) (h2 : Wd m y) : Wd (n + m + 1) (x + y) := by
  rw [← divInt_add]
  obtain ⟨a, b⟩ := add_num_lt h1 h2
  refine wd_divInt ?_ a (Nat.lt_of_lt_of_le b (Nat.pow_le_pow_right (by decide) (by omega)))
  have := x.den_pos
  have := y.den_pos
  exact Int.mul_ne_zero (by omega) (by omega)
theorem mul_num_lt {x y : Rat} {n m : Nat} (h1 : Wd n x) (h2 : Wd m y) : (x.num * y.num).natAbs < 2 ^ (n + m) ∧ ((x.den : Int) * (y.den : Int)).natAbs < 2 ^ (n + m) := by
  rw [Int.natAbs_mul, Int.natAbs_mul]
  exact ⟨lt_mul_pow h1.1 h2.1, lt_mul_pow h1.2 h2.2⟩
theorem Wd.mul {x y : Rat} {n m : Nat} (h1 : Wd n x) (h2 : Wd m y) : Wd (n + m) (x * y) := by
  rw [← divInt_mul]
  obtain ⟨a, b⟩ := mul_num_lt h1 h2
  refine wd_divInt ?_ a b
  have := x.den_pos
  have := y.den_pos
  exact Int.mul_ne_zero (by omega) (by omega)
theorem wd_int {k : Int} {n : Nat} (h : k.natAbs < 2 ^ n) (hn : 0 < n) : Wd n (k : Rat) := by
  refine ⟨by rw [Rat.num_intCast]; exact h, by rw [Rat.den_intCast]; exact Nat.one_lt_two_pow (by omega)⟩
theorem dF_int (k : Int) : dF (k : Rat) = .tuple [.int k, .int 1] := by
  unfold dF
  rw [Rat.num_intCast, Rat.den_intCast]; rfl
theorem dF_zero : dF 0 = .tuple [.int 0, .int 1] := rfl
/-- x with a part of a whole D, the whole's top M at most -/
def Cd (D M : Nat) (x : Rat) : Prop := D ≠ 0 ∧ ∃ n : Int, n.natAbs ≤ M ∧ x = mkRat n D
theorem Cd.wd {D M n : Nat} {x : Rat} (h : Cd D M x) (h1 : D < 2 ^ n) (h2 : M < 2 ^ n) : Wd n x := by
  obtain ⟨h0, k, hk, rfl⟩ := h
  rw [← Rat.divInt_ofNat]
  exact wd_divInt (by omega) (by omega) (by omega)
theorem Cd.add {D M M' : Nat} {x y : Rat} (h : Cd D M x) (h' : Cd D M' y) : Cd D (M + M') (x + y) := by
  obtain ⟨h0, k, hk, rfl⟩ := h
  obtain ⟨_, k', hk', rfl⟩ := h'
  refine ⟨h0, k + k', by have := Int.natAbs_add_le k k'; omega, ?_⟩
  rw [Rat.mkRat_add_mkRat _ _ h0 h0, ← Int.add_mul, Int.mul_comm, Rat.mkRat_mul_left h0]
theorem Cd.zero {D : Nat} (h : D ≠ 0) : Cd D 0 0 := ⟨h, 0, by decide, (Rat.zero_mkRat D).symm⟩
theorem Cd.le {D M M' : Nat} {x : Rat} (h : Cd D M x) (l : M ≤ M') : Cd D M' x := ⟨h.1, h.2.choose, Nat.le_trans h.2.choose_spec.1 l, h.2.choose_spec.2⟩
theorem Cd.mul {D D' M M' : Nat} {x y : Rat} (h : Cd D M x) (h' : Cd D' M' y) : Cd (D * D') (M * M') (x * y) := by
  obtain ⟨h0, k, hk, rfl⟩ := h
  obtain ⟨h0', k', hk', rfl⟩ := h'
  refine ⟨Nat.mul_ne_zero h0 h0', k * k', by rw [Int.natAbs_mul]; exact Nat.mul_le_mul hk hk', ?_⟩
  rw [Rat.mkRat_mul_mkRat]
theorem Cd.wide {D M k : Nat} {x : Rat} (h : Cd D M x) (hk : k ≠ 0) : Cd (k * D) (k * M) x := by
  obtain ⟨h0, n, hn, rfl⟩ := h
  refine ⟨Nat.mul_ne_zero hk h0, k * n, by rw [Int.natAbs_mul]; exact Nat.mul_le_mul (Nat.le_refl _) hn, ?_⟩
  rw [Rat.mkRat_mul_left hk]
theorem Cd.int (k : Int) : Cd 1 k.natAbs (k : Rat) := ⟨by decide, k, Nat.le_refl _, by
  have := (Rat.mkRat_self (k : Rat)).symm
  rwa [Rat.num_intCast, Rat.den_intCast] at this⟩
theorem Cd.self (x : Rat) : Cd x.den x.num.natAbs x := ⟨by have := x.den_pos; omega, x.num, Nat.le_refl _, (Rat.mkRat_self x).symm⟩
end Rk

namespace Rk
open PySem PySem.Spec PyProof.Rows L2

/-! ### a tuple and a list walked side by side -/
def ItM (K : PySem.W.Frag) (a b : Addr) : It where
  go i H := ∃ (xs ys : List V) (x y : V), SqT K H a xs ∧ SqL K H b ys ∧ xs[i]? = some x ∧ ys[i]? = some y
  yld i H v H' := ∃ q x y, v = .ref q ∧ H q = none ∧ H' = upd H q (.tup [x, y]) ∧ (∀ xs, SqT K H a xs → xs[i]? = some x) ∧ ∀ ys, SqL K H b ys → ys[i]? = some y
  stop i H := ∃ xs ys : List V, SqT K H a xs ∧ SqL K H b ys ∧ i = min xs.length ys.length
def cellsM (z TI TO i1 i2 : Addr) : List Addr := [z, TI, TO, i1, i2]
theorem cellsM_mem {z TI TO i1 i2 c : Addr} : c ∈ cellsM z TI TO i1 i2 ↔ c = z ∨ c = TI ∨ c = TO ∨ c = i1 ∨ c = i2 := by
  unfold cellsM; simp
def StM (z TI TO i1 i2 a b : Addr) (i : Nat) (h : Heap) : Prop := IsZip h z TI TO .none ∧ IsTupOf2 h TI (.ref i1) (.ref i2) ∧ (∃ x y, IsTupOf2 h TO x y) ∧ h.IsTupleIter i1 a i ∧ h.IsListIter i2 b i
theorem StM.look {z TI TO i1 i2 a b : Addr} {i : Nat} {h : Heap} (st : StM z TI TO i1 i2 a b i h) : ∀ c ∈ cellsM z TI TO i1 i2, ∃ o, h.get? c = some o ∧ ∀ v, o.data ≠ .cell v := fun c hc => by
  obtain ⟨s1, s2, ⟨x, y, s3⟩, ⟨o4, s4, _, d4⟩, ⟨o5, s5, _, d5⟩⟩ := st
  rcases cellsM_mem.mp hc with e | e | e | e | e <;> rw [e]
  · exact ⟨_, s1, fun v q => nomatch q⟩
  · exact ⟨_, s2, fun v q => nomatch q⟩
  · exact ⟨_, s3, fun v q => nomatch q⟩
  · exact ⟨o4, s4, fun v q => by rw [d4] at q; exact nomatch q⟩
  · exact ⟨o5, s5, fun v q => by rw [d5] at q; exact nomatch q⟩
theorem turnM {P : Program} {w : World} {K : PySem.W.Frag} {es : List Expr} {kk : Nat} {tpos : Pos} {a b z TI TO i1 i2 : Addr} (S : ZipSep2 z TI TO i1 i2 [i1, a] [i2, b]) (ha : a ≠ i1) (hb : b ≠ i2) :
    Turn P w K (.Tuple es kk tpos) (ItM K a b) (cellsM z TI TO i1 i2) z (StM z TI TO i1 i2 a b) where
  mem := cellsM_mem.mpr (.inl rfl)
  obj i h st := st.look
  keep i h h' st k := by
    have up : ∀ c ∈ cellsM z TI TO i1 i2, ∀ o, h.get? c = some o → h'.get? c = some o := k
    obtain ⟨s1, s2, ⟨x, y, s3⟩, s4, s5⟩ := st
    have m := fun c => (cellsM_mem (z := z) (TI := TI) (TO := TO) (i1 := i1) (i2 := i2) (c := c)).mpr
    exact ⟨up z (m _ (.inl rfl)) _ s1, up TI (m _ (.inr (.inl rfl))) _ s2, ⟨x, y, up TO (m _ (.inr (.inr (.inl rfl)))) _ s3⟩, s4.at (up i1 (m _ (.inr (.inr (.inr (.inl rfl)))))), s5.at (up i2 (m _ (.inr (.inr (.inr (.inr rfl))))))⟩
  item := by
    intro X eP ew eK hc i pins s σ H E I hf st hg
    subst eP ew eK
    obtain ⟨xs, ys, x, y, qa, qb, gx, gy⟩ := hg
    have hl := st.look
    obtain ⟨s1, s2, ⟨x0, y0, s3⟩, s4, s5⟩ := st
    obtain ⟨us, va, pa, _⟩ := I.tuple qa
    obtain ⟨ws, vb, pb, _⟩ := I.list qb
    obtain ⟨u, gu, ru⟩ := va.get gx
    obtain ⟨t, gt, rt⟩ := vb.get gy
    have hh : X.A.in1.handled = none := I.ok.hd hc
    have lu : i < us.toArray.size := by simpa using (List.getElem?_eq_some_iff.mp gu).1
    have lt : i < ws.toArray.size := by simpa using (List.getElem?_eq_some_iff.mp gt).1
    refine wpAny_pyNext_zipD2_item S (Draws.tuple hh i1 a ha us.toArray) (Draws.list hh i2 b hb ws.toArray) s1 s2 s3 ⟨s4, pa⟩ ⟨s5, pb.isList⟩ lu lt fun v1 v2 h1 tk e1 e2 z1 t1 n1 n2 hT hsz hk => ?_
    have e1' : v1 = u := by simp only [List.getElem?_toArray, gu] at e1; exact (Option.some.inj e1).symm
    have e2' : v2 = t := by simp only [List.getElem?_toArray, gt] at e2; exact (Option.some.inj e2).symm
    subst e1' e2'
    refine ⟨_, rfl, wpAny_letOwnedTupleGo_zip (s := { s with heap := h1, toks := tk }) z1 fun h2 z2 sb => ?_⟩
    have zl : z < s.heap.objs.size := Heap.lt_size s1
    have fresh : H s.heap.objs.size = none := I.hok.fresh (Nat.le_refl _)
    have hk2 : ∀ c o, c ∉ cellsM z TI TO i1 i2 → s.heap.get? c = some o → h2.get? c = some o := fun c o nm q => by
      have nz := fun e : c = z => nm (cellsM_mem.mpr (.inl e))
      exact (sb.2 c nz).trans (hk c o nz (fun e => nm (cellsM_mem.mpr (.inr (.inr (.inl e))))) (fun e => nm (cellsM_mem.mpr (.inr (.inr (.inr (.inl e)))))) (fun e => nm (cellsM_mem.mpr (.inr (.inr (.inr (.inr e)))))) q)
    have I2 : Inv X pins σ (upd H s.heap.objs.size (.tup [x, y])) { s with heap := h2, toks := tk } :=
      Inv.turnedNew (t' := tk) I hk2 hf (Nat.le_refl _) ⟨show 2 ≤ sizeLine by decide, [v1, v2], .cons ru (.cons rt .nil), ⟨_, (sb.2 _ (Nat.ne_of_gt zl)).trans hT, rfl, _, rfl⟩⟩
    refine ⟨.ref s.heap.objs.size, _, I2, rfl, ⟨_, x, y, rfl, fresh, rfl, fun l hl => by rw [I.tuple_inj hl qa]; exact gx, fun l hl => by rw [I.list_inj hl qb]; exact gy⟩, ⟨z2, (sb.2 _ S.TIz).trans (hk _ _ S.TIz S.TITO S.TIi1 S.TIi2 s2), ⟨v1, v2, (sb.2 _ S.TOz).trans t1⟩, n1.1.at fun o q => (sb.2 _ (Ne.symm S.zi1)).trans q, n2.1.at fun o q => (sb.2 _ (Ne.symm S.zi2)).trans q⟩, fun c hcm => ?_⟩
    obtain ⟨o, ho, _⟩ := hl c hcm
    rw [upd_ne (Nat.ne_of_lt (Heap.lt_size ho))]
    exact (hf c hcm).1
  done := by
    intro X eP ew eK hc i pins s σ H E I hf st hg
    subst eP ew eK
    obtain ⟨s1, s2, ⟨x0, y0, s3⟩, s4, s5⟩ := st
    obtain ⟨xs, ys, qa, qb, he⟩ := hg
    obtain ⟨us, va, pa, _⟩ := I.tuple qa
    obtain ⟨ws, vb, pb, _⟩ := I.list qb
    have hh : X.A.in1.handled = none := I.ok.hd hc
    have la : xs.length = us.toArray.size := by rw [va.length]; simp
    have lb : ys.length = ws.toArray.size := by rw [vb.length]; simp
    exact wpAny_pyNext_zipD2_end S (Draws.tuple hh i1 a ha us.toArray) (Draws.list hh i2 b hb ws.toArray) s1 s2 s3 ⟨s4, pa⟩ ⟨s5, pb.isList⟩ (by omega) (by omega) (by omega) fun h1 tk hk => ⟨rfl, Inv.turnedL (t' := tk) (ch := cellsM z TI TO i1 i2) I (fun c o nm q =>
      hk c o (fun e => nm (cellsM_mem.mpr (.inl e))) (fun e => nm (cellsM_mem.mpr (.inr (.inr (.inl e))))) (fun e => nm (cellsM_mem.mpr (.inr (.inr (.inr (.inl e)))))) (fun e => nm (cellsM_mem.mpr (.inr (.inr (.inr (.inr e)))))) q) hf⟩
  self A i s Q E st h := wpAny_pyIter_zip st.1 h
def iM (K : PySem.W.Frag) (ta : TA) : TI := fun σ H R => ta σ H fun vs H1 => ∃ a b xs ys, vs = [.ref a, .ref b] ∧ SqT K H1 a xs ∧ SqL K H1 b ys ∧ R (ItM K a b) H1
theorem piM {X : Cx} {e e2 : Expr} {ta : TA} {p pos tpos : Pos} {es : List Expr} {kk : Nat} (hg : Gl X "zip") (hm : X.mg "zip" = none) (ha : PA X [e, e2] ta)
    (hs : starEach [e, e2] X.env = (false, eval e X.env) :: starEach [e2] X.env) (hpl : (backTo pos (starEach [e2] X.env)).any (·.1) = false) : PI X (.Tuple es kk tpos) (.Call (.Name "zip" p) [e, e2] [] pos) (iM X.K ta) := by
  refine ⟨fun pins s σ H R I h => Call_ (ld_blt I hg hm PyProof.Rows.boot_zip (PyProof.Rows.callWith_type1 (thn (ha.run pos pins s σ H _ I h) fun us s1 ⟨vs, H1, I1, r1, a, b, xs, ys, ev, qa, qb, k⟩ => ?_) hs hpl))⟩
  subst ev
  obtain ⟨u1, u2, rfl, r1, r2⟩ := vals2 r1
  cases r1; cases r2
  obtain ⟨cs, va, pa, _⟩ := I1.tuple qa
  obtain ⟨ds, vb, pb, _⟩ := I1.list qb
  obtain ⟨oa, ea, _⟩ := id pa
  have la : a < s1.heap.objs.size := Heap.lt_size ea
  have lb : b < s1.heap.objs.size := pb.lt
  refine zip_begins2 (begins_tuple a cs.toArray) (begins_list b ds.toArray) pa pb.isList fun h1 g1 g2 g3 g4 g5 gs hk => wpAny_pyIter_zip g1 ?_
  have I2 : Inv X pins σ H1 { s1 with heap := h1 } := Inv.kept (t' := s1.toks) I1 hk
  refine ⟨s1.heap.objs.size + 4, cellsM (s1.heap.objs.size + 4) (s1.heap.objs.size + 2) (s1.heap.objs.size + 3) s1.heap.objs.size (s1.heap.objs.size + 1), _, _, H1, rfl, I2, turnM (zip_sep2 (fun c hc => ?_) fun c hc => ?_) (Nat.ne_of_lt la) (show (b : Nat) ≠ s1.heap.objs.size + 1 from Nat.ne_of_lt (Nat.lt_succ_of_lt lb)), ⟨g1, g2, ⟨_, _, g3⟩, ⟨_, g4, rfl, rfl⟩, ⟨_, g5, rfl, rfl⟩⟩, fun c hc => ?_, k⟩
  · rw [List.mem_singleton] at hc; rw [hc]; exact la
  · rw [List.mem_singleton] at hc; rw [hc]; exact lb
  · have le : s1.heap.objs.size ≤ c := by
      rcases cellsM_mem.mp hc with e | e | e | e | e <;> rw [e] <;> first | exact Nat.le_refl _ | exact Nat.le_add_right _ _
    exact I1.fpOk le (I1.hok.fresh le)
section
variable {C : Ct} {ρ : List SV} {b1 b2 : Bool} {e e2 : Expr} {Ds Es : List PyData} {pos p : Pos}
theorem src_zipTL {fr : Bool} {elts : List Expr} {kk : Nat} {tpos : Pos} (hm : C.X.mg "zip" = none) (h : Ev C ρ e b1 (.tuple Ds)) (h' : Ev C ρ e2 b2 (.list Es))
    (hs : starEach [e, e2] C.X.env = (false, eval e C.X.env) :: starEach [e2] C.X.env := by rfl) (hs2 : starEach [e2] C.X.env = (false, eval e2 C.X.env) :: starEach [] C.X.env := by rfl) (hpl : (backTo pos (starEach [e2] C.X.env)).any (·.1) = false := by rfl) (hg : Gl C.X "zip" := by rfl) :
    Src C ρ (.Tuple elts kk tpos) (.Call (.Name "zip" p) [e, e2] [] pos) fr (b1 && b2) (zipD Ds Es) := ⟨_, piM hg hm pa_sem hs hpl, fun Pn F q σ H E R k =>
  semA_of (pa_cons pe_sem (pa_cons pe_sem pa_nil hs2) hs) (ev_two (Q := fun x y H2 => _) h h' E fun v v' H' s r r' => by
    cases r with
    | @tup a xs _ ta ra =>
      cases r' with
      | @lst a2 ys _ tb rb =>
        have la := RpAll.length ra
        have lb := RpAll.length rb
        refine ⟨a, a2, xs, ys, rfl, ta, .of tb.2.1, k _ (fun H2 => SqT C.X.K H2 a xs ∧ SqL C.X.K H2 a2 ys) (YPair (fun i => xs[i]?) (fun i => ys[i]?)) H' s (by
          rw [zipD_len, ← la, ← lb]
          exact ⟨fun i _ hi q => ⟨xs, ys, xs[i]'(by omega), ys[i]'(by omega), q.1, q.2, by simp, by simp⟩, fun _ q => ⟨xs, ys, q.1, q.2, rfl⟩, fun i H v H' _ q y => by
            obtain ⟨T, x, z, h1, h2, h3, h4, h5⟩ := y
            exact ⟨T, x, z, h1, h2, h3, h4 xs q.1, h5 ys q.2⟩⟩) (fun H2 z => ?_) fun n H1 v H2 hn y => ?_⟩
        · have t : Shift H' (Own q F) H2 (fun _ => False) := ⟨fun a o n e => z a o (fun _ => n) e, fun a n => n.elim, (E.grow s).own⟩
          exact ⟨t.tup ta, .of (z _ _ (fun _ => tb.1) tb.2.1)⟩
        · obtain ⟨t, x, y, e1, e2, e3, e4, e5⟩ := y
          subst e1 e3
          obtain ⟨d, hd, rd⟩ := RpAll.get' ra e4
          obtain ⟨f, hf, rf⟩ := RpAll.get' rb e5
          exact ⟨same_upd e2, _, zipD_get hd hf, fun N1 sh => .tup (.of upd_same) (.cons (RV.and (sh.rv rd)) (.cons (RV.and' (sh.rv rf)) .nil))⟩)⟩
end
end Rk

namespace Rk
open PySem PySem.Spec PyProof.Rows L2

/-! ### sums of fractions -/
def dotQ : List Int → List Rat → Rat
  | n :: ns, q :: qs => (n : Rat) * q + dotQ ns qs
  | _, _ => 0
theorem dotQ_snoc : ∀ {k : Nat} {ns : List Int} {qs : List Rat} {n : Int} {q : Rat}, ns[k]? = some n → qs[k]? = some q → dotQ (ns.take (k + 1)) (qs.take (k + 1)) = dotQ (ns.take k) (qs.take k) + (n : Rat) * q
  | 0, a :: ns, b :: qs, n, q, h1, h2 => by
    simp at h1 h2
    subst h1 h2
    simp [dotQ, Rat.add_comm]
  | k + 1, a :: ns, b :: qs, n, q, h1, h2 => by
    have := dotQ_snoc (k := k) (ns := ns) (qs := qs) (n := n) (q := q) (by simpa using h1) (by simpa using h2)
    show (a : Rat) * b + dotQ (ns.take (k + 1)) (qs.take (k + 1)) = (a : Rat) * b + dotQ (ns.take k) (qs.take k) + _
    rw [this, Rat.add_assoc]
  | 0, [], _, _, _, h1, _ => by simp at h1
  | 0, _ :: _, [], _, _, _, h2 => by simp at h2
  | _ + 1, [], _, _, _, h1, _ => by simp at h1
  | _ + 1, _ :: _, [], _, _, _, h2 => by simp at h2
theorem dotQ_full : ∀ {ns : List Int} {qs : List Rat} {k : Nat}, min ns.length qs.length ≤ k → dotQ (ns.take k) (qs.take k) = dotQ ns qs
  | [], _, k, _ => by simp [dotQ]
  | _ :: _, [], k, _ => by simp [dotQ]
  | a :: ns, b :: qs, 0, h => by simp at h
  | a :: ns, b :: qs, k + 1, h => by
    simp only [List.take_succ_cons, dotQ]
    rw [dotQ_full (by simp at h; omega)]
theorem dotQ_cd {D M N : Nat} (h0 : D ≠ 0) : ∀ {ns : List Int} {qs : List Rat}, (∀ n ∈ ns, n.natAbs ≤ N) → (∀ q ∈ qs, Cd D M q) → Cd D (min ns.length qs.length * (N * M)) (dotQ ns qs)
  | [], _, _, _ => (Cd.zero h0).le (Nat.zero_le _)
  | _ :: _, [], _, _ => (Cd.zero h0).le (Nat.zero_le _)
  | a :: ns, b :: qs, h1, h2 => by
    have i1 := dotQ_cd h0 (ns := ns) (qs := qs) (fun n hn => h1 n (List.mem_cons_of_mem _ hn)) (fun q hq => h2 q (List.mem_cons_of_mem _ hq))
    have i2 := (Cd.int a).mul (h2 b List.mem_cons_self)
    rw [Nat.one_mul] at i2
    have i3 := (i2.le (Nat.mul_le_mul_right M (h1 a List.mem_cons_self))).add i1
    refine i3.le ?_
    have e : min (a :: ns).length (b :: qs).length = min ns.length qs.length + 1 := by simp
    rw [e, Nat.add_mul, Nat.one_mul, Nat.add_comm]
    exact Nat.le_refl _
abbrev lQ (qs : List Rat) : PyData := .list (qs.map dF)
theorem flat_dFs (qs : List Rat) : Rk.flat.flatAll (qs.map dF) = true := by
  induction qs with
  | nil => rfl
  | cons q qs ih => simp only [List.map_cons, Rk.flat.flatAll, flat_dF, ih, Bool.and_self]
theorem zip_dF {ns : List Int} {qs : List Rat} {k : Nat} {D : PyData} (h : (zipD (ns.map PyData.int) (qs.map dF))[k]? = some D) : ∃ n q, ns[k]? = some n ∧ qs[k]? = some q ∧ D = .tuple [.int n, dF q] := by
  unfold zipD at h
  rw [List.getElem?_zipWith, List.getElem?_map, List.getElem?_map] at h
  cases e1 : ns[k]? with
  | none => rw [e1] at h; simp at h
  | some n =>
    cases e2 : qs[k]? with
    | none => rw [e1, e2] at h; simp at h
    | some q =>
      rw [e1, e2] at h
      exact ⟨n, q, rfl, rfl, (Option.some.inj h).symm⟩
theorem pow_le' {a b : Nat} (h : a ≤ b) : 2 ^ a ≤ 2 ^ b := Nat.pow_le_pow_right (by decide) h
theorem dotQ_wd {D M a : Nat} (h0 : D ≠ 0) {ns : List Int} {qs : List Rat} (h1 : ∀ n ∈ ns, n.natAbs < 2 ^ 32) (h2 : ∀ q ∈ qs, Cd D M q) (h3 : min ns.length qs.length ≤ 31) (hD : D < 2 ^ a) (hM : M < 2 ^ a) : Wd (a + 37) (dotQ ns qs) := by
  refine (dotQ_cd (N := 2 ^ 32) h0 (fun n hn => Nat.le_of_lt (h1 n hn)) h2).wd (Nat.lt_of_lt_of_le hD (pow_le' (by omega))) ?_
  have e : 2 ^ (a + 37) = 32 * (2 ^ 32 * 2 ^ a) := by rw [Nat.pow_add]; omega
  rw [e]
  have : min ns.length qs.length * (2 ^ 32 * M) ≤ 31 * (2 ^ 32 * M) := Nat.mul_le_mul_right _ h3
  omega
end Rk

namespace Rk
open PySem PySem.Spec PyProof.Rows L2

/-! ### prices -/
abbrev Prices := List Rat × List Rat × Rat
abbrev dPr (p : Prices) : PyData := .tuple [lQ p.1, lQ p.2.1, dF p.2.2]
def oF : Option Rat → PyData
  | none => .none
  | some q => dF q
/-- a house's numbers are small -/
structure HOk (h : House) : Prop where
  l1 : h.1.length ≤ 31
  l2 : h.2.length ≤ 31
  n1 : ∀ n ∈ h.1, n.natAbs < 2 ^ 32
  n2 : ∀ n ∈ h.2, n.natAbs < 2 ^ 32
theorem GoodH.hok {far : Int} {h : House} (g : GoodH far h) (hf : far ≤ 1000000000) : HOk h where
  l1 := by have := g.t4; omega
  l2 := by have := g.g4; omega
  n1 n hn := by have := g.tk n hn; omega
  n2 n hn := by have := g.gv n hn; omega
structure PrOk (D M a : Nat) (p : Prices) : Prop where
  d0 : D ≠ 0
  c1 : ∀ q ∈ p.1, Cd D M q
  c2 : ∀ q ∈ p.2.1, Cd D M q
  c3 : Cd D M p.2.2
  hD : D < 2 ^ a
  hM : M < 2 ^ a
  a0 : 0 < a
  a9 : a ≤ 1270
def paidQ (h : House) (p : Prices) : Rat := dotQ h.1 p.1
def earnQ (h : House) (p : Prices) : Rat := dotQ h.2 p.2.1 + p.2.2
theorem PrOk.w1 {D M a : Nat} {p : Prices} {h : House} (P : PrOk D M a p) (G : HOk h) : Wd (a + 37) (paidQ h p) := dotQ_wd P.d0 G.n1 P.c1 (by have := G.l1; omega) P.hD P.hM
theorem PrOk.w2 {D M a : Nat} {p : Prices} {h : House} (P : PrOk D M a p) (G : HOk h) : Wd (a + 37) (dotQ h.2 p.2.1) := dotQ_wd P.d0 G.n2 P.c2 (by have := G.l2; omega) P.hD P.hM
theorem PrOk.w3 {D M a : Nat} {p : Prices} (P : PrOk D M a p) : Wd a p.2.2 := P.c3.wd P.hD P.hM
theorem PrOk.w4 {D M a : Nat} {p : Prices} {h : House} (P : PrOk D M a p) (G : HOk h) : Wd (a + 37 + a + 1) (earnQ h p) := (P.w2 G).add P.w3
theorem num_zero {q : Rat} : q.num = 0 ↔ q = 0 := Rat.num_eq_zero
theorem divInt_div (x y : Rat) : Rat.divInt (x.num * (y.den : Int)) ((x.den : Int) * y.num) = x / y := by
  rw [Rat.div_def, Rat.inv_def, ← Rat.divInt_mul_divInt, Rat.num_divInt_den]
theorem div_num_lt {x y : Rat} {n m : Nat} (h1 : Wd n x) (h2 : Wd m y) : (x.num * (y.den : Int)).natAbs < 2 ^ (n + m) ∧ ((x.den : Int) * y.num).natAbs < 2 ^ (n + m) := by
  rw [Int.natAbs_mul, Int.natAbs_mul]
  exact ⟨lt_mul_pow h1.1 h2.2, lt_mul_pow h1.2 h2.1⟩
theorem Wd.div {x y : Rat} {n m : Nat} (h1 : Wd n x) (h2 : Wd m y) (h0 : y ≠ 0) : Wd (n + m) (x / y) := by
  rw [← divInt_div]
  obtain ⟨a, b⟩ := div_num_lt h1 h2
  exact wd_divInt (Int.mul_ne_zero (by have := x.den_pos; omega) fun z => h0 (num_zero.mp z)) a b
/-- what a house is judged -/
def judQ (h : House) (p : Prices) : Option Rat := if paidQ h p = 0 then none else some (earnQ h p / paidQ h p)
theorem flat_oF (o : Option Rat) : Rk.flat (oF o) = true := by cases o <;> rfl
theorem pur_oF (o : Option Rat) : pur (oF o) = true := by cases o <;> rfl
theorem canLay_oF (o : Option Rat) : (oF o).canLay0 = true := by cases o <;> rfl
theorem oF_inj {x y : Option Rat} : oF x = oF y ↔ x = y := by
  cases x <;> cases y
  · simp [oF]
  · simp [oF]
  · simp [oF]
  · simp only [oF, Option.some.injEq]; exact dF_inj
/-- the highest so far -/
def topStep (b o : Option Rat) : Option Rat := match o, b with
  | none, b => b
  | some q, none => some q
  | some q, some m => if m < q then some q else some m
def topQ (js : List (Option Rat)) : Option Rat := js.foldl topStep none
theorem topQ_snoc {js : List (Option Rat)} {k : Nat} {o : Option Rat} (h : js[k]? = some o) : topQ (js.take (k + 1)) = topStep (topQ (js.take k)) o := by
  rw [List.take_add_one, h]
  unfold topQ
  rw [List.foldl_append]; rfl
theorem topQ_fold : ∀ (js : List (Option Rat)) (b : Option Rat), match js.foldl topStep b with
    | none => b = none ∧ ∀ o ∈ js, o = none
    | some m => (b = some m ∨ some m ∈ js) ∧ (∀ r, b = some r → r ≤ m) ∧ ∀ r, some r ∈ js → r ≤ m
  | [], b => by
    cases b with
    | none => simp
    | some m => simp [Rat.le_refl]
  | o :: js, b => by
    have ih := topQ_fold js (topStep b o)
    show match js.foldl topStep (topStep b o) with | none => _ | some m => _
    cases e : js.foldl topStep (topStep b o) with
    | none =>
      rw [e] at ih
      obtain ⟨h1, h2⟩ := ih
      cases o with
      | none => exact ⟨h1, fun x hx => by rcases List.mem_cons.mp hx with rfl | hx; rfl; exact h2 x hx⟩
      | some q => cases b with
        | none => simp [topStep] at h1
        | some m => simp only [topStep] at h1; split at h1 <;> cases h1
    | some m =>
      rw [e] at ih
      obtain ⟨h1, h2, h3⟩ := ih
      cases o with
      | none => exact ⟨by rcases h1 with h1 | h1; exact .inl h1; exact .inr (List.mem_cons_of_mem _ h1), h2, fun r hr => by
          rcases List.mem_cons.mp hr with hr | hr
          · cases hr
          · exact h3 r hr⟩
      | some q =>
        cases b with
        | none =>
          simp only [topStep] at h1 h2
          refine ⟨.inr ?_, (fun r z => by cases z), fun r hr => ?_⟩
          · rcases h1 with h1 | h1
            · rw [h1]; exact List.mem_cons_self
            · exact List.mem_cons_of_mem _ h1
          · rcases List.mem_cons.mp hr with hr | hr
            · exact h2 r hr.symm
            · exact h3 r hr
        | some c =>
          simp only [topStep] at h1 h2
          by_cases l : c < q
          · rw [if_pos l] at h1 h2
            have hq := h2 q rfl
            refine ⟨.inr ?_, fun r z => ?_, fun r hr => ?_⟩
            · rcases h1 with h1 | h1
              · rw [h1]; exact List.mem_cons_self
              · exact List.mem_cons_of_mem _ h1
            · cases z; exact Rat.le_trans (Rat.le_of_lt l) hq
            · rcases List.mem_cons.mp hr with hr | hr
              · cases hr; exact hq
              · exact h3 r hr
          · rw [if_neg l] at h1 h2
            have hc := h2 c rfl
            refine ⟨?_, fun r z => by cases z; exact hc, fun r hr => ?_⟩
            · rcases h1 with h1 | h1
              · exact .inl h1
              · exact .inr (List.mem_cons_of_mem _ h1)
            · rcases List.mem_cons.mp hr with hr | hr
              · cases hr; exact Rat.le_trans (Rat.not_lt.mp l) hc
              · exact h3 r hr
theorem topQ_none {js : List (Option Rat)} (h : topQ js = none) : ∀ o ∈ js, o = none := by
  have := topQ_fold js none
  rw [show js.foldl topStep none = none from h] at this
  exact this.2
theorem topQ_some {js : List (Option Rat)} {m : Rat} (h : topQ js = some m) : some m ∈ js ∧ ∀ r, some r ∈ js → r ≤ m := by
  have := topQ_fold js none
  rw [show js.foldl topStep none = some m from h] at this
  obtain ⟨h1, _, h3⟩ := this
  exact ⟨by rcases h1 with h1 | h1; cases h1; exact h1, h3⟩
theorem topQ_P {P : Rat → Prop} {js : List (Option Rat)} (h : ∀ q, some q ∈ js → P q) : ∀ q, topQ js = some q → P q := fun q e => h q (topQ_some e).1
def topIx (js : List (Option Rat)) : List Int := (js.zipIdx.filter fun x => x.1.isSome && decide (x.1 = topQ js)).map fun x => (x.2 : Int)
def judL (b : List House) (p : Prices) : List (Option Rat) := b.map fun h => judQ h p
theorem PrOk.wj {D M a : Nat} {p : Prices} {h : House} (P : PrOk D M a p) (G : HOk h) {q : Rat} (e : judQ h p = some q) : Wd 3900 q := by
  unfold judQ at e
  split at e
  · cases e
  · rename_i h0
    cases e
    have := P.a9
    exact ((P.w4 G).div (P.w1 G) h0).le (by omega)
end Rk

namespace Rk
open PySem PySem.Spec PyProof.Rows L2

/-- a tuple or a list -/
def seqD (t : Bool) (Ds : List PyData) : PyData := match t with
  | true => .tuple Ds
  | false => .list Ds
section
variable {C : Ct} {ρ : List SV} {b1 b2 : Bool} {e e2 : Expr} {Ds Es : List PyData} {pos p : Pos}
theorem src_zipS {t : Bool} {fr : Bool} {elts : List Expr} {kk : Nat} {tpos : Pos} (hm : C.X.mg "zip" = none) (h : Ev C ρ e b1 (seqD t Ds)) (h' : Ev C ρ e2 b2 (.list Es))
    (hs : starEach [e, e2] C.X.env = (false, eval e C.X.env) :: starEach [e2] C.X.env := by rfl) (hs2 : starEach [e2] C.X.env = (false, eval e2 C.X.env) :: starEach [] C.X.env := by rfl) (hpl : (backTo pos (starEach [e2] C.X.env)).any (·.1) = false := by rfl) (hg : Gl C.X "zip" := by rfl) :
    Src C ρ (.Tuple elts kk tpos) (.Call (.Name "zip" p) [e, e2] [] pos) fr (b1 && b2) (zipD Ds Es) := by
  cases t
  · exact src_zipL hm h h' hs hs2 hpl hg
  · exact src_zipTL hm h h' hs hs2 hpl hg
end
/-- a sum kept as a top over a bottom -/
structure Sm (D M : Nat) (x : Rat) (t b : Int) : Prop where
  b0 : 0 < b
  dv : b.natAbs ∣ D
  eq : Rat.divInt t b = x
  tm : t.natAbs ≤ M
theorem cd_den {D M : Nat} {q : Rat} (h : Cd D M q) : q.den ∣ D ∧ q.num.natAbs ≤ M := by
  obtain ⟨h0, n, hn, rfl⟩ := h
  rw [← Rat.divInt_ofNat]
  refine ⟨?_, ?_⟩
  · rw [Rat.den_divInt, if_neg (by omega)]
    have : Int.gcd (D : Int) n ∣ D := by
      have := Int.gcd_dvd_natAbs_left (D : Int) n
      simpa using this
    simpa using Nat.div_dvd_of_dvd this
  · rw [Rat.num_divInt]
    refine Nat.le_trans (Int.natAbs_ediv_le_natAbs _ _) ?_
    rw [Int.sign_eq_one_of_pos (by omega), Int.one_mul]
    exact hn
/-- the top over any bottom that divides -/
theorem cd_top {D M : Nat} {x : Rat} {t b : Int} (h : Cd D M x) (b0 : 0 < b) (dv : b.natAbs ∣ D) (eq : Rat.divInt t b = x) : t.natAbs ≤ M := by
  obtain ⟨h0, n, hn, rfl⟩ := h
  obtain ⟨c, hc⟩ := dv
  have c0 : c ≠ 0 := fun z => h0 (by rw [hc, z, Nat.mul_zero])
  have eb : b = (b.natAbs : Int) := by omega
  rw [eb, Rat.divInt_ofNat, Rat.mkRat_eq_iff (by omega) h0] at eq
  have hD : (D : Int) = (b.natAbs : Int) * (c : Int) := by rw [hc]; simp
  rw [hD, ← Int.mul_assoc, Int.mul_comm t, Int.mul_assoc, Int.mul_comm n] at eq
  have e := Int.eq_of_mul_eq_mul_left (by omega : (b.natAbs : Int) ≠ 0) eq
  rw [← e, Int.natAbs_mul] at hn
  have : 1 ≤ (c : Int).natAbs := by omega
  exact Nat.le_trans (Nat.le_mul_of_pos_right _ this) hn
theorem sum_step {t b n : Int} {q : Rat} {g : Nat} (b0 : 0 < b) (hg : g = Nat.gcd b.natAbs q.den) :
    Rat.divInt (t * ((q.den : Int) / (g : Int)) + n * q.num * (b / (g : Int))) (b / (g : Int) * (q.den : Int)) = Rat.divInt t b + (n : Rat) * q ∧ 0 < b / (g : Int) * (q.den : Int) ∧ (b / (g : Int) * (q.den : Int)).natAbs = Nat.lcm b.natAbs q.den := by
  have d0 := q.den_pos
  have g1 : g ∣ b.natAbs := hg ▸ Nat.gcd_dvd_left _ _
  have g2 : g ∣ q.den := hg ▸ Nat.gcd_dvd_right _ _
  have g0 : 0 < g := Nat.pos_of_dvd_of_pos g2 d0
  obtain ⟨u, hu⟩ := g1
  obtain ⟨v, hv⟩ := g2
  have eb : b = (g : Int) * (u : Int) := by have : b = (b.natAbs : Int) := by omega
                                            rw [this, hu]; simp
  have ev : (q.den : Int) = (g : Int) * (v : Int) := by rw [hv]; simp
  have u0 : 0 < (u : Int) := by
    have : u ≠ 0 := fun z => by rw [z, Nat.mul_zero] at hu; omega
    omega
  have v0 : 0 < (v : Int) := by
    have : v ≠ 0 := fun z => by rw [z, Nat.mul_zero] at hv; omega
    omega
  have gi : (g : Int) ≠ 0 := by omega
  have e1 : b / (g : Int) = u := by rw [eb]; exact Int.mul_ediv_cancel_left _ gi
  have e2 : (q.den : Int) / (g : Int) = v := by rw [ev]; exact Int.mul_ediv_cancel_left _ gi
  refine ⟨?_, ?_, ?_⟩
  · rw [e1, e2]
    have hn : (n : Rat) * q = Rat.divInt (n * q.num) (q.den : Int) := by
      have h1 := Rat.divInt_mul_divInt n q.num (d₁ := 1) (d₂ := (q.den : Int))
      rw [Rat.num_divInt_den, Int.one_mul] at h1
      rw [← h1]
      congr 1
      exact (Rat.num_divInt_den (n : Rat)).symm.trans (by rw [Rat.num_intCast, Rat.den_intCast]; rfl)
    rw [hn, Rat.divInt_add_divInt _ _ (by omega) (by omega), eb, ev]
    have z := Rat.divInt_mul_left (n := t * (v : Int) + n * q.num * (u : Int)) (d := (u : Int) * ((g : Int) * (v : Int))) (a := (g : Int)) gi
    rw [← z]
    congr 1 <;> grind
  · rw [e1]; exact Int.mul_pos u0 (by omega)
  · rw [e1, Int.natAbs_mul]
    show u * q.den = _
    unfold Nat.lcm
    rw [← hg, hu, Nat.mul_assoc, Nat.mul_div_cancel_left _ g0]
theorem Sm.step {D M M' : Nat} {x : Rat} {t b n : Int} {q : Rat} {g : Nat} (S : Sm D M x t b) (hq : q.den ∣ D) (hg : g = Nat.gcd b.natAbs q.den) (hx : Cd D M' (x + (n : Rat) * q)) :
    Sm D M' (x + (n : Rat) * q) (t * ((q.den : Int) / (g : Int)) + n * q.num * (b / (g : Int))) (b / (g : Int) * (q.den : Int)) := by
  obtain ⟨h1, h2, h3⟩ := sum_step (t := t) (n := n) S.b0 hg
  rw [S.eq] at h1
  have dv := Nat.lcm_dvd S.dv hq
  rw [← h3] at dv
  exact ⟨h2, dv, h1, cd_top hx h2 dv h1⟩
theorem dotQ_app : ∀ {ns : List Int} {qs : List Rat} {n : Int} {q : Rat}, ns.length = qs.length → dotQ (ns ++ [n]) (qs ++ [q]) = dotQ ns qs + (n : Rat) * q
  | [], [], n, q, _ => by simp [dotQ, Rat.add_comm]
  | a :: ns, b :: qs, n, q, h => by
    show (a : Rat) * b + dotQ (ns ++ [n]) (qs ++ [q]) = (a : Rat) * b + dotQ ns qs + _
    rw [dotQ_app (by simpa using h), Rat.add_assoc]
  | [], _ :: _, _, _, h => by simp at h
  | _ :: _, [], _, _, h => by simp at h
theorem cd_common {n m : Nat} : ∀ qs : List Rat, (∀ q ∈ qs, q.num.natAbs < 2 ^ n ∧ q.den < 2 ^ m) → ∃ D, D ≠ 0 ∧ D ≤ 2 ^ (m * qs.length) ∧ ∀ q ∈ qs, Cd D (2 ^ n * D) q
  | [], _ => ⟨1, by decide, by simp, by simp⟩
  | q :: qs, h => by
    obtain ⟨D, h0, h1, h2⟩ := cd_common qs fun x hx => h x (List.mem_cons_of_mem _ hx)
    obtain ⟨a1, a2⟩ := h q List.mem_cons_self
    have d0 := q.den_pos
    refine ⟨q.den * D, Nat.mul_ne_zero (by omega) h0, ?_, fun x hx => ?_⟩
    · rw [List.length_cons, Nat.mul_add, Nat.mul_one, Nat.pow_add, Nat.mul_comm q.den]
      exact Nat.mul_le_mul h1 (Nat.le_of_lt a2)
    · rcases List.mem_cons.mp hx with rfl | hx
      · have := (Cd.self x).wide (k := D) h0
        rw [Nat.mul_comm D x.den] at this
        refine this.le ?_
        rw [Nat.mul_comm x.den D, Nat.mul_left_comm]
        refine Nat.mul_le_mul_left D ?_
        exact Nat.le_trans (Nat.le_of_lt a1) (Nat.le_mul_of_pos_right _ d0)
      · refine ((h2 x hx).wide (k := q.den) (by omega)).le ?_
        rw [Nat.mul_left_comm]
        exact Nat.le_refl _
end Rk

namespace Rk
open PySem PySem.Spec PyProof.Rows L2

section
variable {C : Ct} {ρ : List SV} {b b1 b2 : Bool} {e : Expr} {pos p : Pos}
theorem src_rangeN {n : Nat} {tg : Expr} {fr : Bool} (hm : C.X.mg "range" = none) (h : Ev C ρ e b1 (.int (n : Nat))) (hn : n ≤ 1000000) (hs : starEach [e] C.X.env = [(false, eval e C.X.env)] := by rfl) (hg : Gl C.X "range" := by rfl) : Src C ρ tg (.Call (.Name "range" p) [e] [] pos) fr b ((List.range n).map fun i => .int ((i : Nat) : Int)) := by
  have h1 := src_range1 (b := b) (tg := tg) (fr := fr) (p := p) (pos := pos) hm h (by omega) (by omega) hs hg
  have e : rangeD 0 ((n : Nat) : Int).toNat = (List.range n).map fun i => .int ((i : Nat) : Int) := by
    unfold rangeD
    rw [Int.toNat_natCast]
    refine List.map_congr_left fun i _ => ?_
    rw [Int.zero_add]
  rwa [e] at h1
end
theorem atI_mapN {α : Type} {f : α → PyData} {xs : List α} {k : Nat} (d : α) (h : k < xs.length) : atI (xs.map f) ((k : Nat) : Int) = some (f (xs.getD k d)) := by
  refine atI_nat ?_
  rw [List.getElem?_map, List.getElem?_eq_getElem h, List.getD, List.getElem?_eq_getElem h] <;> rfl
theorem eqv_oF (x y : Option Rat) : PyData.eqv (oF x) (oF y) = decide (x = y) := by
  have := eqv_iff (pur_oF x) (pur_oF y) (canLay_oF x)
  rw [oF_inj] at this
  by_cases z : x = y
  · rw [decide_eq_true z]; exact this.mpr z
  · rw [decide_eq_false z]; exact Bool.eq_false_iff.mpr fun q => z (this.mp q)
theorem eqv_self_ints (ns : List Int) : PyData.eqv (lInts ns) (lInts ns) = true := PySem.SeqAt.eqv_refl _ (canLay_list (canLay_ints ns))
end Rk

namespace Rk
open PySem PySem.Spec PyProof.Rows L2
def topS (i : Nat) : Stmt := PySem.Challenge.pw_rimhouse_k20_houses_at_prices.main.body.getD i (.Pass ⟨0, 0, 0, 0⟩)
/-- what the top has left -/
structure Txt (K : PySem.W.Frag) (mg : Str → Option Value) : Prop where
  abs : mg "abs" = none
  zip : mg "zip" = none
  enumerate : mg "enumerate" = none
  len : mg "len" = none
  range : mg "range" = none
  int : mg "int" = none
  isinstance : mg "isinstance" = none
  bool : mg "bool" = none
  min : mg "min" = none
  tuple : mg "tuple" = none
  max : mg "max" = none
  list : mg "list" = none
  d_divisor : HasDef K mg "divisor" (topS 1)
  d_fraction : HasDef K mg "fraction" (topS 2)
  d_plus : HasDef K mg "plus" (topS 3)
  d_product : HasDef K mg "product" (topS 4)
  d_whole : HasDef K mg "whole" (topS 5)
  d_is_less : HasDef K mg "is_less" (topS 6)
  d_together : HasDef K mg "together" (topS 7)
  d_earned : HasDef K mg "earned" (topS 9)
  d_paid : HasDef K mg "paid" (topS 10)
  d_judged_one : HasDef K mg "judged_one" (topS 12)
  d_judged : HasDef K mg "judged" (topS 13)
  d_best_at : HasDef K mg "best_at" (topS 14)
  d__law_cell_at : HasDef K mg "_law_cell_at" (topS 16)
  d__law_draws : HasDef K mg "_law_draws" (topS 17)
  d__law_a_whole : HasDef K mg "_law_a_whole" (topS 18)
  d__law_near : HasDef K mg "_law_near" (topS 19)
  d__law_a_book : HasDef K mg "_law_a_book" (topS 20)
  d__law_common : HasDef K mg "_law_common" (topS 21)
  d__law_low : HasDef K mg "_law_low" (topS 22)
  d__law_is_fraction : HasDef K mg "_law_is_fraction" (topS 23)
  d__law_sum : HasDef K mg "_law_sum" (topS 24)
  d__law_less : HasDef K mg "_law_less" (topS 25)
  d__law_a_prices : HasDef K mg "_law_a_prices" (topS 26)
  d__law_judged : HasDef K mg "_law_judged" (topS 27)
  d_law : HasDef K mg "law" (topS 28)
end Rk

namespace Rk
open PySem PySem.Spec PyProof.Rows L2
section
variable {P : Program} {w : World} {K : PySem.W.Frag} {mg : Str → Option Value} {base : Heap}
def S_divisor : Spec := fun As R Xs => ∃ a b : Int, As = [.d false (.int a), .d false (.int b)] ∧ R = (· = .int (Int.gcd a b : Int))
theorem sc_divisor : FnScope ["one", "other"] ["one", "other"] (defScope (topS 1)) := ⟨rfl, rfl, rfl, by decide +kernel, rfl, by decide +kernel, by decide +kernel⟩
theorem ok_divisor (T : Txt K mg) : Prom P w K mg base 1 "divisor" S_divisor := by
  refine prom_mk T.d_divisor sc_divisor (fun _ _ _ _ _ _ us hl => match us, hl with | [_, _], _ => rfl) (fun As R Xs h => ?_) fun f cdv A outer s H E As R Xs h Z rz => ?_
  · obtain ⟨_, _, rfl, _⟩ := h; rfl
  · obtain ⟨a, b, rfl, rfl⟩ := h
    show Blk _ [.d false (.int a), .d false (.int b)] _ _
    refine blk_set Z (n := 0) (by rfl) (Or.inl (by rfl)) (Or.inl rfl) (show 0 < 2 by decide) (ev_abs T.abs (ev_var (pv 0) rfl)) ?_
    refine blk_set Z (n := 1) (by rfl) (Or.inl (by rfl)) (Or.inl rfl) (show 1 < 2 by decide) (ev_abs T.abs (ev_var (pv 1) rfl)) ?_
    refine blk_while Z (fun st : Nat × Nat => [.d true (.int (st.1 : Int)), .d true (.int (st.2 : Int))]) (fun st => Nat.gcd st.1 st.2 = Int.gcd a b) (fun st => st.2) (fun st => decide ((st.2 : Int) > 0)) (a.natAbs, b.natAbs) rfl rfl (fun st ok => (ec_gt (ev_var (pv 1) rfl) ev_int).t) (fun st ok hb => ?_) (fun st ok hb => ?_)
    · obtain ⟨x, y⟩ := st
      simp only [decide_eq_true_eq] at hb
      refine blk_par Z (n := 0) (m := 1) (by rfl) (by rfl) (by decide) (show 0 < 2 by decide) (show 1 < 2 by decide) (by rfl) (by rfl) (ev_var (pv 1) rfl) (ev_mod (ev_var (pv 0) rfl) (ev_var (pv 1) rfl) hb) ?_ (ps_par Z.calm Z.nd (by rfl) (by rfl) (by decide) (by rfl) (by rfl) (pa_cons pe_sem (pa_cons pe_sem pa_nil (by rfl)) (by rfl)) (by rfl))
      refine blk_nil ⟨(y, x % y), rfl, ?_, Nat.mod_lt _ (by omega)⟩
      have ok' : Nat.gcd x y = Int.gcd a b := ok
      show Nat.gcd y (x % y) = _
      rw [← ok', Nat.gcd_comm x y, Nat.gcd_rec y x, Nat.gcd_comm]
    · obtain ⟨x, y⟩ := st
      simp only [decide_eq_false_iff_not] at hb
      have e : y = 0 := by omega
      subst e
      refine blk_ret (ev_var (pv 0) rfl) ?_
      have ok' : Nat.gcd x 0 = Int.gcd a b := ok
      rw [Nat.gcd_zero_right] at ok'
      show PyData.int _ = PyData.int _
      rw [← ok']
end
end Rk

namespace Rk
open PySem PySem.Spec PyProof.Rows L2
section
variable {P : Program} {w : World} {K : PySem.W.Frag} {mg : Str → Option Value} {base : Heap}
def S_fraction : Spec := fun As R Xs => ∃ a b : Int, As = [.d false (.int a), .d false (.int b)] ∧ b ≠ 0 ∧ b.natAbs < 2 ^ 9000 ∧ R = (· = dF (Rat.divInt a b))
theorem sc_fraction : FnScope ["top", "bottom", "many"] ["top", "bottom"] (defScope (topS 2)) := ⟨rfl, rfl, rfl, by decide +kernel, rfl, by decide +kernel, by decide +kernel⟩
theorem ok_fraction (T : Txt K mg) : Prom P w K mg base 2 "fraction" S_fraction := by
  refine prom_mk T.d_fraction sc_fraction (fun _ _ _ _ _ _ us hl => match us, hl with | [_, _], _ => rfl) (fun As R Xs h => ?_) fun f cdv A outer s H E As R Xs h Z rz => ?_
  · obtain ⟨_, _, rfl, _⟩ := h; rfl
  · obtain ⟨a, b, rfl, hb, hb2, rfl⟩ := h
    have g0 : 0 < (Int.gcd a b : Int) := by
      have : Int.gcd a b ≠ 0 := by
        intro e
        rw [Int.gcd_eq_zero_iff] at e
        omega
      omega
    have gl : (Int.gcd a b : Int).natAbs < 2 ^ 9000 := by
      have := Nat.le_of_dvd (by omega) (Int.gcd_dvd_natAbs_right a b)
      omega
    have gl' : (0 - (Int.gcd a b : Int)).natAbs < 2 ^ 9000 := by
      rw [Int.zero_sub, Int.natAbs_neg]; exact gl
    show Blk _ [.d false (.int a), .d false (.int b), .u] _ _
    refine blk_set Z (n := 2) (by rfl) (Or.inl (by rfl)) (Or.inl rfl) (show 2 < 3 by decide) (ev_call (ok_divisor T) (Z.hr.mono (by decide)) (args_d (ev_var (pv 0) rfl) (args_d (ev_var (pv 1) rfl) args_nil)) ⟨a, b, rfl, rfl⟩) ?_
    refine blk_if (ec_lt (ev_var (pv 1) rfl) ev_int).t (fun hc => ?_) (fun hc => ?_)
    · rw [decide_eq_true_eq] at hc
      refine blk_set Z (n := 2) (by rfl) (Or.inl (by rfl)) (Or.inl rfl) (show 2 < 3 by decide) (ev_sub ev_int (ev_var (pv 2) rfl)) (blk_nil ?_)
      refine blk_ret (ev_tup (evs_cons (ev_fdivN (ev_var (pv 0) rfl) (ev_var (pv 2) rfl) (by omega) (pyW gl' (by decide) (by decide))) (evs_cons (ev_fdivN (ev_var (pv 1) rfl) (ev_var (pv 2) rfl) (by omega) (pyW gl' (by decide) (by decide))) evs_nil)) (show 2 ≤ sizeLine by decide)) ?_
      obtain ⟨e1, e2⟩ := divInt_neg' (a := a) hc
      show PyData.tuple _ = PyData.tuple _
      rw [e1, e2]
    · rw [decide_eq_false_iff_not] at hc
      refine blk_nil ?_
      refine blk_ret (ev_tup (evs_cons (ev_fdiv (ev_var (pv 0) rfl) (ev_var (pv 2) rfl) g0 (pyW gl (by decide) (by decide))) (evs_cons (ev_fdiv (ev_var (pv 1) rfl) (ev_var (pv 2) rfl) g0 (pyW gl (by decide) (by decide))) evs_nil)) (show 2 ≤ sizeLine by decide)) ?_
      obtain ⟨e1, e2⟩ := divInt_pos (a := a) (b := b) (by omega)
      show PyData.tuple _ = PyData.tuple _
      rw [e1, e2]
end
end Rk

namespace Rk
open PySem PySem.Spec PyProof.Rows L2
section
variable {P : Program} {w : World} {K : PySem.W.Frag} {mg : Str → Option Value} {base : Heap}
def S_plus : Spec := fun As R Xs => ∃ (x y : Rat) (n m : Nat), As = [.d false (dF x), .d false (dF y)] ∧ Wd n x ∧ Wd m y ∧ 0 < n ∧ 0 < m ∧ n + m ≤ 8000 ∧ R = (· = dF (x + y))
theorem sc_plus : FnScope ["one", "other"] ["one", "other"] (defScope (topS 3)) := ⟨rfl, rfl, rfl, by decide +kernel, rfl, by decide +kernel, by decide +kernel⟩
theorem ok_plus (T : Txt K mg) : Prom P w K mg base 3 "plus" S_plus := by
  refine prom_mk T.d_plus sc_plus (fun _ _ _ _ _ _ us hl => match us, hl with | [_, _], _ => rfl) (fun As R Xs h => ?_) fun f cdv A outer s H E As R Xs h Z rz => ?_
  · obtain ⟨_, _, _, _, rfl, _⟩ := h; rfl
  · obtain ⟨x, y, n, m, rfl, h1, h2, hn, hm, hnm, rfl⟩ := h
    have px := x.den_pos
    have py := y.den_pos
    show Blk _ [.d false (dF x), .d false (dF y)] _ _
    refine blk_ret (ev_call (ok_fraction T) (Z.hr.mono (by decide)) (args_d (ev_add (ev_mul (ev_ixT (ev_var (pv 0) rfl) ev_int rfl) (ev_ixT (ev_var (pv 1) rfl) ev_int rfl) (mulW h1.1 (natAbs_ofNat h2.2) (by omega) (by omega) (by omega))) (ev_mul (ev_ixT (ev_var (pv 1) rfl) ev_int rfl) (ev_ixT (ev_var (pv 0) rfl) ev_int rfl) (mulW h2.1 (natAbs_ofNat h1.2) (by omega) (by omega) (by omega)))) (args_d (ev_mul (ev_ixT (ev_var (pv 0) rfl) ev_int rfl) (ev_ixT (ev_var (pv 1) rfl) ev_int rfl) (mulW (natAbs_ofNat h1.2) (natAbs_ofNat h2.2) (by omega) (by omega) (by omega))) args_nil)) ⟨_, _, rfl, Int.mul_ne_zero (by omega) (by omega), Nat.lt_of_lt_of_le (add_num_lt h1 h2).2 (Nat.pow_le_pow_right (by decide) (by omega)), rfl⟩) ?_
    show dF _ = dF _
    rw [divInt_add]
end
end Rk

namespace Rk
open PySem PySem.Spec PyProof.Rows L2
section
variable {P : Program} {w : World} {K : PySem.W.Frag} {mg : Str → Option Value} {base : Heap}
def S_product : Spec := fun As R Xs => ∃ (x y : Rat) (n m : Nat), As = [.d false (dF x), .d false (dF y)] ∧ Wd n x ∧ Wd m y ∧ 0 < n ∧ 0 < m ∧ n + m ≤ 8000 ∧ R = (· = dF (x * y))
theorem sc_product : FnScope ["one", "other"] ["one", "other"] (defScope (topS 4)) := ⟨rfl, rfl, rfl, by decide +kernel, rfl, by decide +kernel, by decide +kernel⟩
theorem ok_product (T : Txt K mg) : Prom P w K mg base 3 "product" S_product := by
  refine prom_mk T.d_product sc_product (fun _ _ _ _ _ _ us hl => match us, hl with | [_, _], _ => rfl) (fun As R Xs h => ?_) fun f cdv A outer s H E As R Xs h Z rz => ?_
  · obtain ⟨_, _, _, _, rfl, _⟩ := h; rfl
  · obtain ⟨x, y, n, m, rfl, h1, h2, hn, hm, hnm, rfl⟩ := h
    have px := x.den_pos
    have py := y.den_pos
    show Blk _ [.d false (dF x), .d false (dF y)] _ _
    refine blk_ret (ev_call (ok_fraction T) (Z.hr.mono (by decide)) (args_d (ev_mul (ev_ixT (ev_var (pv 0) rfl) ev_int rfl) (ev_ixT (ev_var (pv 1) rfl) ev_int rfl) (mulW h1.1 h2.1 (by omega) (by omega) (by omega))) (args_d (ev_mul (ev_ixT (ev_var (pv 0) rfl) ev_int rfl) (ev_ixT (ev_var (pv 1) rfl) ev_int rfl) (mulW (natAbs_ofNat h1.2) (natAbs_ofNat h2.2) (by omega) (by omega) (by omega))) args_nil)) ⟨_, _, rfl, Int.mul_ne_zero (by omega) (by omega), Nat.lt_of_lt_of_le (mul_num_lt h1 h2).2 (Nat.pow_le_pow_right (by decide) (by omega)), rfl⟩) ?_
    show dF _ = dF _
    rw [divInt_mul]
end
end Rk

namespace Rk
open PySem PySem.Spec PyProof.Rows L2
section
variable {P : Program} {w : World} {K : PySem.W.Frag} {mg : Str → Option Value} {base : Heap}
def S_whole : Spec := fun As R Xs => ∃ k : Int, As = [.d false (.int k)] ∧ R = (· = dF (k : Rat))
theorem sc_whole : FnScope ["number"] ["number"] (defScope (topS 5)) := ⟨rfl, rfl, rfl, by decide +kernel, rfl, by decide +kernel, by decide +kernel⟩
theorem ok_whole (T : Txt K mg) : Prom P w K mg base 1 "whole" S_whole := by
  refine prom_mk T.d_whole sc_whole (fun _ _ _ _ _ _ us hl => match us, hl with | [_], _ => rfl) (fun As R Xs h => ?_) fun f cdv A outer s H E As R Xs h Z rz => ?_
  · obtain ⟨_, rfl, _⟩ := h; rfl
  · obtain ⟨k, rfl, rfl⟩ := h
    show Blk _ [.d false (.int k)] _ _
    refine blk_ret (Ev.flat (b' := true) (ev_tup (evs_cons (ev_var (pv 0) rfl) (evs_cons ev_int evs_nil)) (show 2 ≤ sizeLine by decide)) (by rfl)) ?_
    exact (dF_int k).symm
end
end Rk

namespace Rk
open PySem PySem.Spec PyProof.Rows L2
section
variable {P : Program} {w : World} {K : PySem.W.Frag} {mg : Str → Option Value} {base : Heap}
def S_together : Spec := fun As R Xs => ∃ (ns : List Int) (qs : List Rat) (D M a : Nat), As = [.d false (tInts ns), .d false (lQ qs)] ∧ D ≠ 0 ∧ (∀ n ∈ ns, n.natAbs < 2 ^ 32) ∧ (∀ q ∈ qs, Cd D M q) ∧ min ns.length qs.length ≤ 31 ∧ D < 2 ^ a ∧ M < 2 ^ a ∧ 0 < a ∧ a ≤ 3900 ∧ R = (· = dF (dotQ ns qs))
theorem sc_together : FnScope ["numbers", "prices", "total", "number", "price"] ["numbers", "prices"] (defScope (topS 7)) := ⟨rfl, rfl, rfl, by decide +kernel, rfl, by decide +kernel, by decide +kernel⟩
theorem ok_together (T : Txt K mg) : Prom P w K mg base 4 "together" S_together := by
  refine prom_mk T.d_together sc_together (fun _ _ _ _ _ _ us hl => match us, hl with | [_, _], _ => rfl) (fun As R Xs h => ?_) fun f cdv A outer s H E As R Xs h Z rz => ?_
  · obtain ⟨_, _, _, _, _, rfl, _⟩ := h; rfl
  · obtain ⟨ns, qs, D, M, a, rfl, h0, hn, hq, hl, hDa, hM, ha0, ha, rfl⟩ := h
    show Blk _ [.d false (tInts ns), .d false (lQ qs), .u, .u, .u] _ _
    refine blk_set Z (n := 2) (by rfl) (Or.inl (by rfl)) (Or.inl rfl) (show 2 < 5 by decide) (Ev.flat (b' := true) (ev_tup (evs_cons ev_int (evs_cons ev_int evs_nil)) (show 2 ≤ sizeLine by decide)) (by rfl)) ?_
    refine blk_for Z (is := [3, 4]) (src_zipTL T.zip (ev_var (pv 0) rfl) (ev_var (pv 1) rfl)) (fun k r => ∃ x y : SV, r = [.d false (tInts ns), .d false (lQ qs), .d true (dF (dotQ (ns.take k) (qs.take k))), x, y]) ⟨_, _, by simp only [List.take_zero]; rfl⟩ (fun k D r hD hI => ?_) (fun r hI => ?_)
    · obtain ⟨x, y, rfl⟩ := hI
      obtain ⟨n, q, en, eq, rfl⟩ := zip_dF hD
      have mn : n ∈ ns := List.mem_of_getElem? en
      have mq : q ∈ qs := List.mem_of_getElem? eq
      refine ⟨_, (tgt_tup Z.calm (.cons (tgt_name Z.nd (by rfl) (Or.inl (by rfl)) (show 3 < 5 by decide) (Or.inl rfl)) (.cons (tgt_name Z.nd (by rfl) (Or.inl (by rfl)) (show 4 < 5 by decide) (Or.inl rfl)) .nil (by rfl)) (by rfl)) (by rfl) (by rfl)), ?_⟩
      have w1 : Wd 32 (n : Rat) := wd_int (hn n mn) (by decide)
      have w2 : Wd a q := (hq q mq).wd hDa hM
      have w3 : Wd (a + 37) (dotQ (ns.take k) (qs.take k)) := dotQ_wd h0 (fun n h => hn n (List.mem_of_mem_take h)) (fun q h => hq q (List.mem_of_mem_take h)) (by rw [List.length_take, List.length_take]; omega) hDa hM
      refine blk_set Z (n := 2) (by rfl) (Or.inl (by rfl)) (Or.inl rfl) (show 2 < 5 by decide) (ev_call (ok_plus T) (Z.hr.mono (by decide)) (args_d (ev_var (pv 2) rfl) (args_d (ev_call (ok_product T) (Z.hr.mono (by decide)) (args_d (ev_call (ok_whole T) (Z.hr.mono (by decide)) (args_d (ev_var (pv 3) rfl) args_nil) ⟨n, rfl, rfl⟩) (args_d (ev_var (pv 4) rfl) args_nil)) ⟨_, _, 32, a, rfl, w1, w2, by decide, ha0, by omega, rfl⟩) args_nil)) ⟨_, _, a + 37, 32 + a, rfl, w3, w1.mul w2, by omega, by omega, by omega, rfl⟩) ?_
      exact blk_nil ⟨_, _, by rw [dotQ_snoc en eq]; rfl⟩
    · obtain ⟨x, y, rfl⟩ := hI
      refine blk_ret (ev_var (pv 2) rfl) ?_
      show dF _ = dF _
      rw [dotQ_full (by rw [zipD_len, List.length_map, List.length_map]; exact Nat.le_refl _)]
end
end Rk

namespace Rk
open PySem PySem.Spec PyProof.Rows L2
section
variable {P : Program} {w : World} {K : PySem.W.Frag} {mg : Str → Option Value} {base : Heap}
def S_earned : Spec := fun As R Xs => ∃ (h : House) (p : Prices) (D M a : Nat), As = [.d false (dH h), .d false (dPr p)] ∧ HOk h ∧ PrOk D M a p ∧ R = (· = dF (earnQ h p))
theorem sc_earned : FnScope ["house", "prices"] ["house", "prices"] (defScope (topS 9)) := ⟨rfl, rfl, rfl, by decide +kernel, rfl, by decide +kernel, by decide +kernel⟩
theorem ok_earned (T : Txt K mg) : Prom P w K mg base 5 "earned" S_earned := by
  refine prom_mk T.d_earned sc_earned (fun _ _ _ _ _ _ us hl => match us, hl with | [_, _], _ => rfl) (fun As R Xs h => ?_) fun f cdv A outer s H E As R Xs h Z rz => ?_
  · obtain ⟨_, _, _, _, _, rfl, _⟩ := h; rfl
  · obtain ⟨h, p, D, M, a, rfl, G, P, rfl⟩ := h
    have a9 := P.a9
    have a0 := P.a0
    show Blk _ [.d false (dH h), .d false (dPr p)] _ _
    exact blk_ret (ev_call (ok_plus T) (Z.hr.mono (by decide)) (args_d (ev_call (ok_together T) (Z.hr.mono (by decide)) (args_d (ev_ixT (ev_var (pv 0) rfl) ev_int rfl) (args_d (ev_ixT (ev_var (pv 1) rfl) ev_int rfl) args_nil)) ⟨h.2, p.2.1, D, M, a, rfl, P.d0, G.n2, P.c2, by have := G.l2; omega, P.hD, P.hM, P.a0, by omega, rfl⟩) (args_d (ev_ixT (ev_var (pv 1) rfl) ev_int rfl) args_nil)) ⟨_, _, a + 37, a, rfl, P.w2 G, P.w3, by omega, a0, by omega, rfl⟩) rfl
end
end Rk

namespace Rk
open PySem PySem.Spec PyProof.Rows L2
section
variable {P : Program} {w : World} {K : PySem.W.Frag} {mg : Str → Option Value} {base : Heap}
def S_paid : Spec := fun As R Xs => ∃ (h : House) (p : Prices) (D M a : Nat), As = [.d false (dH h), .d false (dPr p)] ∧ HOk h ∧ PrOk D M a p ∧ R = (· = dF (paidQ h p))
theorem sc_paid : FnScope ["house", "prices"] ["house", "prices"] (defScope (topS 10)) := ⟨rfl, rfl, rfl, by decide +kernel, rfl, by decide +kernel, by decide +kernel⟩
theorem ok_paid (T : Txt K mg) : Prom P w K mg base 5 "paid" S_paid := by
  refine prom_mk T.d_paid sc_paid (fun _ _ _ _ _ _ us hl => match us, hl with | [_, _], _ => rfl) (fun As R Xs h => ?_) fun f cdv A outer s H E As R Xs h Z rz => ?_
  · obtain ⟨_, _, _, _, _, rfl, _⟩ := h; rfl
  · obtain ⟨h, p, D, M, a, rfl, G, P, rfl⟩ := h
    show Blk _ [.d false (dH h), .d false (dPr p)] _ _
    exact blk_ret (ev_call (ok_together T) (Z.hr.mono (by decide)) (args_d (ev_ixT (ev_var (pv 0) rfl) ev_int rfl) (args_d (ev_ixT (ev_var (pv 1) rfl) ev_int rfl) args_nil)) ⟨h.1, p.1, D, M, a, rfl, P.d0, G.n1, P.c1, by have := G.l1; omega, P.hD, P.hM, P.a0, by have := P.a9; omega, rfl⟩) rfl
end
end Rk

namespace Rk
open PySem PySem.Spec PyProof.Rows L2
section
variable {P : Program} {w : World} {K : PySem.W.Frag} {mg : Str → Option Value} {base : Heap}
def S_judged_one : Spec := fun As R Xs => ∃ (h : House) (p : Prices) (D M a : Nat), As = [.d false (dH h), .d false (dPr p)] ∧ HOk h ∧ PrOk D M a p ∧ R = (· = oF (judQ h p))
theorem sc_judged_one : FnScope ["house", "prices", "pays", "earns"] ["house", "prices"] (defScope (topS 12)) := ⟨rfl, rfl, rfl, by decide +kernel, rfl, by decide +kernel, by decide +kernel⟩
theorem ok_judged_one (T : Txt K mg) : Prom P w K mg base 6 "judged_one" S_judged_one := by
  refine prom_mk T.d_judged_one sc_judged_one (fun _ _ _ _ _ _ us hl => match us, hl with | [_, _], _ => rfl) (fun As R Xs h => ?_) fun f cdv A outer s H E As R Xs h Z rz => ?_
  · obtain ⟨_, _, _, _, _, rfl, _⟩ := h; rfl
  · obtain ⟨h, p, D, M, a, rfl, G, P, rfl⟩ := h
    have a9 := P.a9
    have a0 := P.a0
    have w1 := P.w1 G
    have w4 := P.w4 G
    show Blk _ [.d false (dH h), .d false (dPr p), .u, .u] _ _
    refine blk_set Z (n := 2) (by rfl) (Or.inl (by rfl)) (Or.inl rfl) (show 2 < 4 by decide) (ev_call (ok_paid T) (Z.hr.mono (by decide)) (args_d (ev_var (pv 0) rfl) (args_d (ev_var (pv 1) rfl) args_nil)) ⟨h, p, D, M, a, rfl, G, P, rfl⟩) ?_
    refine blk_ifR (ec_eqI (ev_ixT (ev_var (pv 2) rfl) ev_int rfl) ev_int).t (fun hc => ?_) (fun hc => ?_)
    · rw [decide_eq_true_eq] at hc
      refine blk_ret ev_non ?_
      show PyData.none = oF (judQ h p)
      unfold judQ
      rw [if_pos (num_zero.mp hc)]; rfl
    rw [decide_eq_false_iff_not] at hc
    have hp : paidQ h p ≠ 0 := fun z => hc (num_zero.mpr z)
    have pe := (earnQ h p).den_pos
    refine blk_set Z (n := 3) (by rfl) (Or.inl (by rfl)) (Or.inl rfl) (show 3 < 4 by decide) (ev_call (ok_earned T) (Z.hr.mono (by decide)) (args_d (ev_var (pv 0) rfl) (args_d (ev_var (pv 1) rfl) args_nil)) ⟨h, p, D, M, a, rfl, G, P, rfl⟩) ?_
    refine blk_ret (ev_call (ok_fraction T) (Z.hr.mono (by decide)) (args_d (ev_mul (ev_ixT (ev_var (pv 3) rfl) ev_int rfl) (ev_ixT (ev_var (pv 2) rfl) ev_int rfl) (mulW w4.1 (natAbs_ofNat w1.2) (by omega) (by omega) (by omega))) (args_d (ev_mul (ev_ixT (ev_var (pv 3) rfl) ev_int rfl) (ev_ixT (ev_var (pv 2) rfl) ev_int rfl) (mulW (natAbs_ofNat w4.2) w1.1 (by omega) (by omega) (by omega))) args_nil)) ⟨_, _, rfl, Int.mul_ne_zero (by omega) hc, Nat.lt_of_lt_of_le (div_num_lt w4 w1).2 (pow_le' (by omega)), rfl⟩) ?_
    show dF _ = oF (judQ h p)
    unfold judQ
    rw [if_neg hp, divInt_div]; rfl
end
end Rk

namespace Rk
open PySem PySem.Spec PyProof.Rows L2
section
variable {P : Program} {w : World} {K : PySem.W.Frag} {mg : Str → Option Value} {base : Heap}
def S_judged : Spec := fun As R Xs => ∃ (b : List House) (p : Prices) (D M a : Nat), As = [.d false (dB b), .d false (dPr p)] ∧ b.length ≤ 1000 ∧ (∀ h ∈ b, HOk h) ∧ PrOk D M a p ∧ R = (· = .list (b.map fun h => oF (judQ h p)))
theorem sc_judged : FnScope ["book", "prices", "house"] ["book", "prices"] (defScope (topS 13)) := ⟨rfl, rfl, rfl, by decide +kernel, rfl, by decide +kernel, by decide +kernel⟩
theorem ok_judged (T : Txt K mg) : Prom P w K mg base 7 "judged" S_judged := by
  refine prom_mk T.d_judged sc_judged (fun _ _ _ _ _ _ us hl => match us, hl with | [_, _], _ => rfl) (fun As R Xs h => ?_) fun f cdv A outer s H E As R Xs h Z rz => ?_
  · obtain ⟨_, _, _, _, _, rfl, _⟩ := h; rfl
  · obtain ⟨b, p, D, M, a, rfl, hb, G, P, rfl⟩ := h
    show Blk _ [.d false (dB b), .d false (dPr p), .u] _ _
    exact blk_ret (evo_lc Z (lc_map b dH (fun h => oF (judQ h p)) (fun x => [.d false (dB b), .d false (dPr p), .d false (dH x)]) [("house", 2)] (is := [2]) (src_list (ev_var (pv 0) rfl)) (blkOk_by (N := ["book", "prices", "house"]) (sc := defScope (topS 13)) (by decide +kernel)) (small hb) (by decide) (fun x hx s H A cl fp => (tgt_name sc_judged.nd (by rfl) (Or.inl (by rfl)) (show 2 < 3 by decide) (Or.inr (by rfl)))) (fun x hx s H A cl fp => (ev_call (ok_judged_one T) (Z.hr.mono (by decide)) (args_d (ev_var (pv 2) rfl) (args_d (ev_var (pv 1) rfl) args_nil)) ⟨x, p, D, M, a, rfl, G x hx, P, rfl⟩)))).ev rfl
end
end Rk

namespace Rk
open PySem PySem.Spec PyProof.Rows L2
section
variable {P : Program} {w : World} {K : PySem.W.Frag} {mg : Str → Option Value} {base : Heap}
def S_is_less : Spec := fun As R Xs => ∃ (x y : Rat) (n m : Nat), As = [.d false (dF x), .d false (dF y)] ∧ Wd n x ∧ Wd m y ∧ 0 < n ∧ 0 < m ∧ n + m ≤ 8000 ∧ R = (· = .bool (decide (x < y)))
theorem sc_is_less : FnScope ["one", "other"] ["one", "other"] (defScope (topS 6)) := ⟨rfl, rfl, rfl, by decide +kernel, rfl, by decide +kernel, by decide +kernel⟩
theorem ok_is_less (T : Txt K mg) : Prom P w K mg base 1 "is_less" S_is_less := by
  refine prom_mk T.d_is_less sc_is_less (fun _ _ _ _ _ _ us hl => match us, hl with | [_, _], _ => rfl) (fun As R Xs h => ?_) fun f cdv A outer s H E As R Xs h Z rz => ?_
  · obtain ⟨_, _, _, _, rfl, _⟩ := h; rfl
  · obtain ⟨x, y, n, m, rfl, h1, h2, hn, hm, hnm, rfl⟩ := h
    have px := x.den_pos
    have py := y.den_pos
    show Blk _ [.d false (dF x), .d false (dF y)] _ _
    refine blk_ret (ec_lt (ev_mul (ev_ixT (ev_var (pv 0) rfl) ev_int rfl) (ev_ixT (ev_var (pv 1) rfl) ev_int rfl) (mulW h1.1 (natAbs_ofNat h2.2) (by omega) (by omega) (by omega))) (ev_mul (ev_ixT (ev_var (pv 1) rfl) ev_int rfl) (ev_ixT (ev_var (pv 0) rfl) ev_int rfl) (mulW h2.1 (natAbs_ofNat h1.2) (by omega) (by omega) (by omega)))).ev ?_
    show PyData.bool _ = PyData.bool _
    rw [decide_eq_decide.mpr (Rat.lt_iff x y)]
end
end Rk

namespace Rk
open PySem PySem.Spec PyProof.Rows L2
section
variable {P : Program} {w : World} {K : PySem.W.Frag} {mg : Str → Option Value} {base : Heap}
theorem enum_oF (js : List (Option Rat)) : enumD (js.map oF) = js.zipIdx.map fun x => .tuple [.int (x.2 : Nat), oF x.1] := by
  unfold enumD
  rw [List.zipIdx_map, List.map_map]
  rfl
theorem depth_oF (o : Option Rat) : SeqAt.shaped (oF o) = true := by
  cases o
  · rfl
  · exact shaped_of rfl (by simp [oF, PyData.depth, PyData.depthAll])
def S_best_at : Spec := fun As R Xs => ∃ (b : List House) (p : Prices) (D M a : Nat), As = [.d false (dB b), .d false (dPr p)] ∧ b.length ≤ 1000 ∧ (∀ h ∈ b, HOk h) ∧ PrOk D M a p ∧ R = (· = lInts (topIx (judL b p)))
theorem sc_best_at : FnScope ["book", "prices", "found", "best", "one", "k"] ["book", "prices"] (defScope (topS 14)) := ⟨rfl, rfl, rfl, by decide +kernel, rfl, by decide +kernel, by decide +kernel⟩
theorem ok_best_at (T : Txt K mg) : Prom P w K mg base 8 "best_at" S_best_at := by
  refine prom_mk T.d_best_at sc_best_at (fun _ _ _ _ _ _ us hl => match us, hl with | [_, _], _ => rfl) (fun As R Xs h => ?_) fun f cdv A outer s H E As R Xs h Z rz => ?_
  · obtain ⟨_, _, _, _, _, rfl, _⟩ := h; rfl
  · obtain ⟨b, p, D, M, a, rfl, hb, G, P, rfl⟩ := h
    show Blk _ [.d false (dB b), .d false (dPr p), .u, .u, .u, .u] _ _
    refine blk_set Z (n := 2) (by rfl) (Or.inl (by rfl)) (Or.inl rfl) (show 2 < 6 by decide) (ev_call (ok_judged T) (Z.hr.mono (by decide)) (args_d (ev_var (pv 0) rfl) (args_d (ev_var (pv 1) rfl) args_nil)) ⟨b, p, D, M, a, rfl, hb, G, P, rfl⟩) ?_
    have ej : (b.map fun h => oF (judQ h p)) = (judL b p).map oF := by unfold judL; rw [List.map_map]; rfl
    have hw : ∀ q, some q ∈ judL b p → Wd 3900 q := fun q hq => by
      obtain ⟨h, hh, e⟩ := List.mem_map.mp hq
      exact P.wj (G h hh) e
    have hlen : (judL b p).length ≤ 1000 := by unfold judL; rw [List.length_map]; exact hb
    rw [ej]
    generalize judL b p = js at hw hlen
    refine blk_set Z (n := 3) (by rfl) (Or.inr (by rfl)) (Or.inl rfl) (show 3 < 6 by decide) ev_non ?_
    refine blk_for Z (is := [4]) (src_list (ev_var (pv 2) rfl)) (fun n r => ∃ x : SV, r = [.d false (dB b), .d false (dPr p), .d true (.list (js.map oF)), .d true (oF (topQ (js.take n))), x, .u]) ⟨_, rfl⟩ (fun n D r hD hI => ?_) (fun r hI => ?_)
    · obtain ⟨x, rfl⟩ := hI
      rw [List.getElem?_map, Option.map_eq_some_iff] at hD
      obtain ⟨o, ho, rfl⟩ := hD
      refine ⟨_, (tgt_name Z.nd (by rfl) (Or.inl (by rfl)) (show 4 < 6 by decide) (Or.inl rfl)), ?_⟩
      have en := topQ_snoc ho
      have hm : ∀ q, topQ (js.take n) = some q → Wd 3900 q := topQ_P fun q hq => hw q (List.mem_of_mem_take hq)
      generalize topQ (js.take n) = t at en hm
      show Blk _ [.d false (dB b), .d false (dPr p), .d true (.list (js.map oF)), .d true (oF t), .d true (oF o), .u] _ _
      cases o with
      | none =>
        refine blk_if (evw_and (y := false) (ec_notN (ev_var (pv 4) rfl)).t (fun h1 => absurd h1 (by decide))).t (fun hc => absurd hc (by decide)) (fun hc => ?_)
        exact blk_nil (blk_nil ⟨_, by rw [en]; rfl⟩)
      | some q =>
        cases t with
        | none =>
          refine blk_if (evw_and (ec_notN (ev_var (pv 4) rfl)).t (fun h1 => (evw_and1 (evw_or (y := true) (ec_isN (ev_var (pv 3) rfl)).t (fun h1 => absurd h1 (by decide))).t))).t (fun hc => ?_) (fun hc => by simp [isNo, oF] at hc)
          refine blk_set Z (n := 3) (by rfl) (Or.inr (by rfl)) (Or.inl rfl) (show 3 < 6 by decide) (ev_var (pv 4) rfl) ?_
          exact blk_nil (blk_nil ⟨_, by rw [en]; rfl⟩)
        | some m =>
          refine blk_if (evw_and (ec_notN (ev_var (pv 4) rfl)).t (fun h1 => (evw_and1 (evw_or (ec_isN (ev_var (pv 3) rfl)).t (fun h1 => (evw_or1 (evt_val (ev_call (ok_is_less T) (Z.hr.mono (by decide)) (args_d (ev_var (pv 3) rfl) (args_d (ev_var (pv 4) rfl) args_nil)) ⟨m, q, 3900, 3900, rfl, hm m rfl, hw q (List.mem_of_getElem? ho), by decide, by decide, by decide, rfl⟩))))).t))).t (fun hc => ?_) (fun hc => ?_)
          · have hl : m < q := by simpa [isNo, oF] using hc
            refine blk_set Z (n := 3) (by rfl) (Or.inr (by rfl)) (Or.inl rfl) (show 3 < 6 by decide) (ev_var (pv 4) rfl) ?_
            exact blk_nil (blk_nil ⟨_, by rw [en]; simp only [topStep]; rw [if_pos hl]; rfl⟩)
          · have hl : ¬ m < q := by simpa [isNo, oF] using hc
            exact blk_nil (blk_nil ⟨_, by rw [en]; simp only [topStep]; rw [if_neg hl]⟩)
    · obtain ⟨x, rfl⟩ := hI
      rw [List.length_map, List.take_length]
      refine blk_ret (evo_lc Z (lc_mk js.zipIdx (fun x => .tuple [.int (x.2 : Nat), oF x.1]) (fun x => .int (x.2 : Nat)) (fun x => (!isNo (oF x.1)) && PyData.eqv (oF x.1) (oF (topQ js))) (fun y => [.d false (dB b), .d false (dPr p), .d true (.list (js.map oF)), .d true (oF (topQ js)), .d true (oF y.1), .d true (.int (y.2 : Nat))]) [("k", 5), ("one", 4)] (is := [5, 4]) (by rw [← enum_oF]; exact src_enum T.enumerate (ev_var (pv 2) rfl)) (blkOk_by (N := ["book", "prices", "found", "best", "one", "k"]) (sc := defScope (topS 14)) (by decide +kernel)) (small (m := 1000) (by rw [List.length_zipIdx]; exact hlen)) (by decide) (fun x hx s H A cl fp => (tgt_tup Z.calm (.cons (tgt_name sc_best_at.nd (by rfl) (Or.inl (by rfl)) (show 5 < 6 by decide) (Or.inr (by rfl))) (.cons (tgt_name sc_best_at.nd (by rfl) (Or.inl (by rfl)) (show 4 < 6 by decide) (Or.inr (by rfl))) .nil (by rfl)) (by rfl)) (by rfl) (by rfl))) (fun x hx s H A cl fp => .one (evw_and (ec_notN (ev_var (pv 4) rfl)).t (fun h3 => (evw_and1 (ec_eqD (by exact Z.u64) (ev_var (pv 4) rfl) (ev_var (pv 3) rfl) (depth_oF _) (depth_oF _)).t))).t) (fun x hx hc s H A cl fp => (ev_var (pv 5) rfl)))).ev ?_
      have ef : (fun x : Option Rat × Nat => (!isNo (oF x.1)) && PyData.eqv (oF x.1) (oF (topQ js))) = fun x => x.1.isSome && decide (x.1 = topQ js) := by
        funext x
        have e1 : (!isNo (oF x.1)) = x.1.isSome := by cases x.1 <;> rfl
        have e2 : PyData.eqv (oF x.1) (oF (topQ js)) = decide (x.1 = topQ js) := by
          have := eqv_iff (pur_oF x.1) (pur_oF (topQ js)) (canLay_oF x.1)
          rw [oF_inj] at this
          by_cases z : x.1 = topQ js
          · rw [decide_eq_true z]; exact this.mpr z
          · rw [decide_eq_false z]; exact Bool.eq_false_iff.mpr fun q => z (this.mp q)
        rw [e1, e2]
      show PyData.list _ = PyData.list _
      rw [ef]
      unfold topIx
      rw [List.map_map]
      rfl
end
end Rk

namespace Rk
open PySem PySem.Spec PyProof.Rows L2
section
variable {P : Program} {w : World} {K : PySem.W.Frag} {mg : Str → Option Value} {base : Heap}
def cellAt (ns : List Int) (k : Int) : Int := if k < ns.length then ns.getD k.toNat 0 else 0
def S__law_cell_at : Spec := fun As R Xs => ∃ (ns : List Int) (k : Int), As = [.s ns, .d false (.int k)] ∧ 0 ≤ k ∧ R = (· = .int (cellAt ns k))
theorem sc__law_cell_at : FnScope ["script", "k"] ["script", "k"] (defScope (topS 16)) := ⟨rfl, rfl, rfl, by decide +kernel, rfl, by decide +kernel, by decide +kernel⟩
theorem ok__law_cell_at (T : Txt K mg) : Prom P w K mg base 1 "_law_cell_at" S__law_cell_at := by
  refine prom_mk T.d__law_cell_at sc__law_cell_at (fun _ _ _ _ _ _ us hl => match us, hl with | [_, _], _ => rfl) (fun As R Xs h => ?_) fun f cdv A outer s H E As R Xs h Z rz => ?_
  · obtain ⟨ns, k, rfl, _⟩ := h; rfl
  · obtain ⟨ns, k, rfl, h0, rfl⟩ := h
    show Blk _ [.s ns, .d false (.int k)] _ _
    refine blk_ifR (ec_lt (ev_var (pv 1) rfl) (ev_lenL T.len (bw_scr (pv 0) rfl))).t (fun hc => ?_) (fun hc => ?_)
    · rw [decide_eq_true_eq, List.length_map] at hc
      refine blk_ret (D := .int (ns.getD k.toNat 0)) (ev_ixL (bw_scr (pv 0) rfl) (ev_var (pv 1) rfl) ?ix1) ?_
      · exact atI_map' 0 h0 hc
      · show PyData.int _ = PyData.int _
        unfold cellAt; rw [if_pos hc]
    · rw [decide_eq_false_iff_not, List.length_map] at hc
      refine blk_ret ev_int ?_
      show PyData.int _ = PyData.int _
      unfold cellAt; rw [if_neg hc]
end
end Rk

namespace Rk
open PySem PySem.Spec PyProof.Rows L2
section
variable {P : Program} {w : World} {K : PySem.W.Frag} {mg : Str → Option Value} {base : Heap}
def S__law_a_whole : Spec := fun As R Xs => ∃ k : Int, As = [.d false (.int k)] ∧ R = (· = .bool true)
theorem sc__law_a_whole : FnScope ["found"] ["found"] (defScope (topS 18)) := ⟨rfl, rfl, rfl, by decide +kernel, rfl, by decide +kernel, by decide +kernel⟩
theorem ok__law_a_whole (T : Txt K mg) : Prom P w K mg base 1 "_law_a_whole" S__law_a_whole := by
  refine prom_mk T.d__law_a_whole sc__law_a_whole (fun _ _ _ _ _ _ us hl => match us, hl with | [_], _ => rfl) (fun As R Xs h => ?_) fun f cdv A outer s H E As R Xs h Z rz => ?_
  · obtain ⟨_, rfl, _⟩ := h; rfl
  · obtain ⟨k, rfl, rfl⟩ := h
    show Blk _ [.d false (.int k)] _ _
    exact blk_ret (ev_and (ev_isi T.isinstance T.int (ev_var (pv 0) rfl) boot_int (is_same _)) (fun h0 => (ev_one (ev_not (ev_isi T.isinstance T.bool (ev_var (pv 0) rfl) boot_bool is_int_bool))))) rfl
end
end Rk

namespace Rk
open PySem PySem.Spec PyProof.Rows L2
section
variable {P : Program} {w : World} {K : PySem.W.Frag} {mg : Str → Option Value} {base : Heap}
abbrev drM : Int := 2305843009213693951
structure Dr where
  found : List Int
  rest : Int
  st : Int
def drStep (base : Int) (s : Dr) (k : Nat) : Dr :=
  let t := (s.st * s.st + 48271 * s.st + (k : Int) + 1) % drM
  if 2 < (k : Int) ∧ 0 < s.rest then ⟨s.found ++ [s.rest % base], s.rest / base, t⟩
  else if 2 < (k : Int) then ⟨s.found ++ [t / 4096 % base], s.rest, t⟩ else ⟨s.found, s.rest, t⟩
def dr0 (cell : Int) : Dr := ⟨[], cell * b2z (decide (1000000000000000000 ≤ cell)), cell % drM⟩
def drN (cell base : Int) (n : Nat) : Dr := (List.range n).foldl (drStep base) (dr0 cell)
def draws (cell : Int) (many : Nat) (base : Int) : List Int := (drN cell base (many + 3)).found
theorem drN_succ (cell base : Int) (n : Nat) : drN cell base (n + 1) = drStep base (drN cell base n) n := by
  unfold drN; rw [List.range_succ, List.foldl_append]; rfl
theorem drN_inv (cell base : Int) (hb : 0 < base) : ∀ n : Nat, (drN cell base n).found.length = n - 3 ∧ (∀ x ∈ (drN cell base n).found, 0 ≤ x ∧ x < base) ∧ 0 ≤ (drN cell base n).st ∧ (drN cell base n).st < drM
  | 0 => ⟨rfl, fun x h => (by cases h), Int.emod_nonneg cell (show drM ≠ 0 by decide), Int.emod_lt_of_pos cell (show 0 < drM by decide)⟩
  | n + 1 => by
    obtain ⟨h1, h2, h3, h4⟩ := drN_inv cell base hb n
    rw [drN_succ]
    generalize drN cell base n = s at h1 h2 h3 h4
    unfold drStep
    have t1 := Int.emod_nonneg (s.st * s.st + 48271 * s.st + (n : Int) + 1) (show drM ≠ 0 by decide)
    have t2 := Int.emod_lt_of_pos (s.st * s.st + 48271 * s.st + (n : Int) + 1) (show 0 < drM by decide)
    dsimp only
    split
    · refine ⟨by simp; omega, fun x hx => ?_, t1, t2⟩
      rcases List.mem_append.mp hx with hx | hx
      · exact h2 x hx
      · rw [List.mem_singleton.mp hx]
        exact ⟨Int.emod_nonneg _ (by omega), Int.emod_lt_of_pos _ hb⟩
    · split
      · refine ⟨by simp; omega, fun x hx => ?_, t1, t2⟩
        rcases List.mem_append.mp hx with hx | hx
        · exact h2 x hx
        · rw [List.mem_singleton.mp hx]
          exact ⟨Int.emod_nonneg _ (by omega), Int.emod_lt_of_pos _ hb⟩
      · refine ⟨?_, h2, t1, t2⟩
        show s.found.length = _
        omega
theorem draws_len (cell base : Int) (hb : 0 < base) (many : Nat) : (draws cell many base).length = many := by
  have := (drN_inv cell base hb (many + 3)).1
  unfold draws; omega
theorem draws_mem (cell base : Int) (hb : 0 < base) (many : Nat) : ∀ x ∈ draws cell many base, 0 ≤ x ∧ x < base := (drN_inv cell base hb (many + 3)).2.1
def dAt (cell : Int) (many : Nat) (base : Int) (k : Nat) : Int := (draws cell many base).getD k 0
theorem getD_mem {xs : List Int} {k : Nat} (h : k < xs.length) : xs.getD k 0 ∈ xs := by
  rw [List.getD, List.getElem?_eq_getElem h]; exact List.getElem_mem h
def S__law_draws : Spec := fun As R Xs => ∃ (cell : Int) (many : Nat) (base : Int), As = [.d false (.int cell), .d false (.int (many : Int)), .d false (.int base)] ∧ many ≤ 1000 ∧ 0 < base ∧ base < 1073741824 ∧ R = (· = lInts (draws cell many base))
theorem sc__law_draws : FnScope ["cell", "many", "base", "found", "rest", "stirred", "k"] ["cell", "many", "base"] (defScope (topS 17)) := ⟨rfl, rfl, rfl, by decide +kernel, rfl, by decide +kernel, by decide +kernel⟩
theorem ok__law_draws (T : Txt K mg) : Prom P w K mg base 1 "_law_draws" S__law_draws := by
  refine prom_mk T.d__law_draws sc__law_draws (fun _ _ _ _ _ _ us hl => match us, hl with | [_, _, _], _ => rfl) (fun As R Xs h => ?_) fun f cdv A outer s H E As R Xs h Z rz => ?_
  · obtain ⟨_, _, _, rfl, _⟩ := h; rfl
  · obtain ⟨cell, many, base, rfl, hm, hb0, hb, rfl⟩ := h
    show Blk _ [.d false (.int cell), .d false (.int (many : Int)), .d false (.int base), .u, .u, .u, .u] _ _
    refine blk_setO Z (n := 3) (by rfl) (Or.inl (by rfl)) (Or.inl rfl) (show 3 < 7 by decide) (evo_lst evs_nil (by decide)) ?_
    refine blk_set Z (n := 4) (by rfl) (Or.inl (by rfl)) (Or.inl rfl) (show 4 < 7 by decide) (ev_mul (ev_var (pv 0) rfl) (ev_intB T.int (ec_ge (ev_var (pv 0) rfl) (ev_powC 1000000000000000000 ev_int ev_int ⟨by decide, by decide, by decide⟩ (by decide))).ev) (mulR ?mu1)) ?_
    · unfold b2z; split <;> decide
    refine blk_set Z (n := 5) (by rfl) (Or.inl (by rfl)) (Or.inl rfl) (show 5 < 7 by decide) (ev_mod (ev_var (pv 0) rfl) ev_int (by decide)) ?_
    show Blk _ [.d false (.int cell), .d false (.int (many : Int)), .d false (.int base), .o true ((drN cell base 0).found.map .int), .d true (.int (drN cell base 0).rest), .d true (.int (drN cell base 0).st), .u] _ _
    refine blk_for Z (is := [6]) (b := true) (src_range1 T.range (ev_add (ev_var (pv 1) rfl) ev_int) ?rb2 ?rb3) (fun n r => ∃ x, r = [.d false (.int cell), .d false (.int (many : Int)), .d false (.int base), .o true ((drN cell base n).found.map .int), .d true (.int (drN cell base n).rest), .d true (.int (drN cell base n).st), x]) ⟨_, rfl⟩ (fun n D r hD hI => ?_) (fun r hI => ?_)
    · omega
    · omega
    · obtain ⟨x, rfl⟩ := hI
      have hn : n < ((many : Int) + 3).toNat := by
        have := (List.getElem?_eq_some_iff.mp hD).1
        simpa [rangeD] using this
      obtain rfl : D = .int (0 + (n : Int)) := by
        unfold rangeD at hD
        rw [List.getElem?_map, List.getElem?_range hn] at hD
        exact (Option.some.inj hD).symm
      rw [Int.zero_add]
      obtain ⟨i1, i2, i3, i4⟩ := drN_inv cell base hb0 n
      have hstep := drN_succ cell base n
      generalize hs : drN cell base n = q at i1 i2 i3 i4 hstep ⊢
      have e : ∀ x y z : Int, (⟨x, y, z⟩ : Int × Int × Int) = (x, y, z) := fun _ _ _ => rfl
      refine ⟨_, (tgt_name Z.nd (by rfl) (Or.inl (by rfl)) (show 6 < 7 by decide) (Or.inl rfl)), ?_⟩
      refine blk_set Z (n := 5) (by rfl) (Or.inl (by rfl)) (Or.inl rfl) (show 5 < 7 by decide) (ev_mod (ev_add (ev_add (ev_add (ev_mul (ev_var (pv 5) rfl) (ev_var (pv 5) rfl) (mulL ?mu4)) (ev_mul ev_int (ev_var (pv 5) rfl) (mulL (by decide)))) (ev_var (pv 6) rfl)) ev_int) ev_int (by decide)) ?_
      · unfold drM at i4; omega
      refine blk_if (evw_and (ec_gt (ev_var (pv 6) rfl) ev_int).t (fun h5 => (evw_and1 (ec_gt (ev_var (pv 4) rfl) ev_int).t))).t (fun hc => ?_) (fun hc => ?_)
      · rw [Bool.and_eq_true, decide_eq_true_eq, decide_eq_true_eq] at hc
        refine blk_append (n := 3) (pv 3) rfl (ev_mod (ev_var (pv 4) rfl) (ev_var (pv 2) rfl) hb0) (small' (m := 1003) (by rw [List.length_map]; omega)) ?_ (ps_append (pv 3))
        refine blk_set Z (n := 4) (by rfl) (Or.inl (by rfl)) (Or.inl rfl) (show 4 < 7 by decide) (ev_fdiv (ev_var (pv 4) rfl) (ev_var (pv 2) rfl) hb0 (pyS (by omega))) ?_
        refine blk_nil (blk_nil ⟨.d true (.int (n : Int)), ?_⟩)
        rw [hstep]
        unfold drStep
        dsimp only
        rw [if_pos hc, List.map_append]
        rfl
      · refine blk_if (ec_gt (ev_var (pv 6) rfl) ev_int).t (fun hc2 => ?_) (fun hc2 => ?_)
        · rw [decide_eq_true_eq] at hc2
          have hc' : ¬ (2 < (n : Int) ∧ 0 < q.rest) := by
            intro z
            rw [decide_eq_true z.1, decide_eq_true z.2] at hc
            cases hc
          refine blk_append (n := 3) (pv 3) rfl (ev_mod (ev_fdiv (ev_var (pv 5) rfl) ev_int (by decide) (pyS (by decide))) (ev_var (pv 2) rfl) hb0) (small' (m := 1003) (by rw [List.length_map]; omega)) ?_ (ps_append (pv 3))
          refine blk_nil (blk_nil (blk_nil ⟨.d true (.int (n : Int)), ?_⟩))
          rw [hstep]
          unfold drStep
          dsimp only
          rw [if_neg hc', if_pos hc2, List.map_append]
          rfl
        · rw [decide_eq_false_iff_not] at hc2
          refine blk_nil (blk_nil (blk_nil ⟨.d true (.int (n : Int)), ?_⟩))
          rw [hstep]
          unfold drStep
          dsimp only
          rw [if_neg (fun z => hc2 z.1), if_neg hc2]
          rfl
    · obtain ⟨x, rfl⟩ := hI
      refine blk_retO (pv 3) rfl ?_
      show PyData.list _ = PyData.list _
      have e : ((many : Int) + 3).toNat = many + 3 := by omega
      simp only [rangeD, List.length_map, List.length_range, e]
      rfl
end
end Rk

namespace Rk
open PySem PySem.Spec PyProof.Rows L2
section
variable {P : Program} {w : World} {K : PySem.W.Frag} {mg : Str → Option Value} {base : Heap}
theorem two30 : (1000000000 : Int) < 2 ^ 64 := by decide
def S__law_near : Spec := fun As R Xs => ∃ (h : House) (ps : List Int) (far : Int), As = [.d false (dH h), .d false (lInts ps), .d false (.int far)] ∧ GoodH far h ∧ 10 ≤ ps.length ∧ (∀ x ∈ ps, 0 ≤ x) ∧ far ≤ 1000000000 ∧
  R = fun D => ∃ h' : House, D = dH h' ∧ GoodH far h' ∧ h'.1.length = h.1.length ∧ h'.2.length = h.2.length
theorem sc__law_near : FnScope ["house", "picks", "far", "takes", "gives", "by", "take", "give", "at"] ["house", "picks", "far"] (defScope (topS 19)) := ⟨rfl, rfl, rfl, by decide +kernel, rfl, by decide +kernel, by decide +kernel⟩
theorem near_mul {xs : List Int} {y far : Int} (h : ∀ x ∈ xs, 1 ≤ x ∧ x * y ≤ far) (hy : 1 ≤ y) : ∀ x ∈ xs.map (· * y), 1 ≤ x ∧ x ≤ far := fun x hx => by
  obtain ⟨z, hz, rfl⟩ := List.mem_map.mp hx
  obtain ⟨h1, h2⟩ := h z hz
  have : 1 * 1 ≤ z * y := Int.mul_le_mul h1 hy (by omega) (by omega)
  exact ⟨by omega, h2⟩
theorem near_mul0 {xs : List Int} {y far : Int} (h : ∀ x ∈ xs, 0 ≤ x ∧ x * y ≤ far) (hy : 1 ≤ y) : ∀ x ∈ xs.map (· * y), 0 ≤ x ∧ x ≤ far := fun x hx => by
  obtain ⟨z, hz, rfl⟩ := List.mem_map.mp hx
  obtain ⟨h1, h2⟩ := h z hz
  exact ⟨Int.mul_nonneg h1 (by omega), h2⟩
theorem ok__law_near (T : Txt K mg) : Prom P w K mg base 1 "_law_near" S__law_near := by
  refine prom_mk T.d__law_near sc__law_near (fun _ _ _ _ _ _ us hl => match us, hl with | [_, _, _], _ => rfl) (fun As R Xs h => ?_) fun f cdv A outer s H E As R Xs h Z rz => ?_
  · obtain ⟨_, _, _, rfl, _⟩ := h; rfl
  · obtain ⟨⟨tk, gv⟩, ps, far, rfl, G, hp, hp0, hf, rfl⟩ := h
    have gt1 : 1 ≤ tk.length := G.t1
    have gt4 : tk.length ≤ 4 := G.t4
    have gg1 : 1 ≤ gv.length := G.g1
    have gg4 : gv.length ≤ 4 := G.g4
    have gtk : ∀ x ∈ tk, 1 ≤ x ∧ x ≤ far := G.tk
    have ggv : ∀ x ∈ gv, 0 ≤ x ∧ x ≤ far := G.gv
    obtain ⟨pz, pzm, pz0⟩ : ∃ x ∈ gv, 0 < x := G.ps
    have far1 : 1 ≤ far := by have := gtk _ (mem_getD (k := 0) (by omega) 0); omega
    have p9 : atI (ps.map PyData.int) 9 = some (.int (ps.getD 9 0)) := atI_map' 0 (by omega) (by omega)
    have p8 : atI (ps.map PyData.int) 8 = some (.int (ps.getD 8 0)) := atI_map' 0 (by omega) (by omega)
    have q9 := hp0 _ (mem_getD (xs := ps) (k := 9) (by omega) 0)
    have q8 := hp0 _ (mem_getD (xs := ps) (k := 8) (by omega) 0)
    generalize ps.getD 9 0 = u9 at p9 q9
    generalize ps.getD 8 0 = u8 at p8 q8
    show Blk _ [.d false (dH (tk, gv)), .d false (lInts ps), .d false (.int far), .u, .u, .u, .u, .u, .u] _ _
    refine blk_unpack (ev_var (pv 0) rfl) (tgt_tup Z.calm (.cons (tgt_name Z.nd (by rfl) (Or.inl (by rfl)) (show 3 < 9 by decide) (Or.inl rfl)) (.cons (tgt_name Z.nd (by rfl) (Or.inl (by rfl)) (show 4 < 9 by decide) (Or.inl rfl)) .nil (by rfl)) (by rfl)) (by rfl) (by rfl)) ?_
    have e4 : 0 ≤ u9 % 4 ∧ u9 % 4 < 4 := by omega
    refine blk_set Z (n := 5) (by rfl) (Or.inr (by rfl)) (Or.inl rfl) (show 5 < 9 by decide) (ev_ixL (evo_lst (evs_cons ev_int (evs_cons ev_int (evs_cons ev_int (evs_cons ev_int evs_nil)))) (by decide)).bx.bw (ev_mod (ev_ixL (ev_var (pv 1) rfl).bx.bw ev_int p9) ev_int (by decide)) (atI_map' (f := .int) (xs := [1, 1, 2, 3]) 0 e4.1 e4.2)) ?_
    have by0 : 1 ≤ ([1, 1, 2, 3] : List Int).getD (u9 % 4).toNat 0 ∧ ([1, 1, 2, 3] : List Int).getD (u9 % 4).toNat 0 ≤ 3 := by
      have := mem_getD (xs := ([1, 1, 2, 3] : List Int)) (k := (u9 % 4).toNat) (by simp; omega) 0
      simp only [List.mem_cons, List.not_mem_nil, or_false] at this
      omega
    generalize ([1, 1, 2, 3] : List Int).getD (u9 % 4).toNat 0 = y0 at by0
    have hm1 : gMax (tk ++ gv) ≤ far := by
      have := gMax_mem (ns := tk ++ gv) (by intro e; simp at e; rw [e.1] at gt1; simp at gt1)
      rcases List.mem_append.mp this with h | h
      · exact (gtk _ h).2
      · exact (ggv _ h).2
    have hm0 : 0 ≤ gMax (tk ++ gv) := by
      have := gMax_le (ns := tk ++ gv) (List.mem_append.mpr (.inl (mem_getD (xs := tk) (k := 0) (by omega) 0)))
      have := gtk _ (mem_getD (xs := tk) (k := 0) (by omega) 0)
      omega
    refine blk_ifJ (fun r => ∃ y : Int, r = [.d false (dH (tk, gv)), .d false (lInts ps), .d false (.int far), .d false (tInts tk), .d false (tInts gv), .d true (.int y), .u, .u, .u] ∧ 1 ≤ y ∧ y ≤ 3 ∧ ∀ x ∈ tk ++ gv, x * y ≤ far)
      (ec_gt (ev_mul (ev_maxT (ns := tk ++ gv) Z.calm T.max (ev_catI (ev_var (pv 3) rfl) (ev_var (pv 4) rfl) (ne_of_len gt1) (small (m := 8) (by omega))) (ne_of_len (by rw [List.length_append]; omega))) (ev_var (pv 5) rfl) (mulR ?mu4)) (ev_var (pv 2) rfl)).t (fun hc => ?_) (fun hc => ?_) ?_
    · omega
    · refine blk_set Z (n := 5) (by rfl) (Or.inr (by rfl)) (Or.inl rfl) (show 5 < 9 by decide) ev_int ?_
      refine blk_nil ⟨1, rfl, by omega, by omega, fun x hx => ?_⟩
      rcases List.mem_append.mp hx with h | h
      · have := (gtk _ h).2; omega
      · have := (ggv _ h).2; omega
    · refine blk_nil ⟨y0, rfl, by0.1, by0.2, fun x hx => ?_⟩
      rw [decide_eq_false_iff_not] at hc
      have h1 : x ≤ gMax (tk ++ gv) := gMax_le hx
      have h2 : x * y0 ≤ gMax (tk ++ gv) * y0 := Int.mul_le_mul_of_nonneg_right h1 (by omega)
      omega
    rintro r ⟨y, rfl, y1, y3, hy⟩
    refine blk_setLc Z (n := 3) (by rfl) (by rfl) (show 3 < 9 by decide) (lc_map tk PyData.int (fun x => .int (x * y)) (fun x => [.d false (dH (tk, gv)), .d false (lInts ps), .d false (.int far), .d false (tInts tk), .d false (tInts gv), .d true (.int y), .d false (.int x), .u, .u]) [("take", 6)] (is := [6]) (src_tup (ev_var (pv 3) rfl)) (blkOk_by (N := ["house", "picks", "far", "takes", "gives", "by", "take", "give", "at"]) (sc := defScope (topS 19)) (by decide +kernel)) (small gt4) (by decide) (fun x hx s H A cl fp => (tgt_name sc__law_near.nd (by rfl) (Or.inl (by rfl)) (show 6 < 9 by decide) (Or.inr (by rfl)))) (fun x hx s H A cl fp => (ev_mul (ev_var (pv 6) rfl) (ev_var (pv 5) rfl) (mulR (by omega))))) (sw_true rfl rfl rfl (by decide +kernel)) ?_
    refine blk_setLc Z (n := 4) (by rfl) (by rfl) (show 4 < 9 by decide) (lc_map gv PyData.int (fun x => .int (x * y)) (fun x => [.d false (dH (tk, gv)), .d false (lInts ps), .d false (.int far), .o true (tk.map fun x => .int (x * y)), .d false (tInts gv), .d true (.int y), .u, .d false (.int x), .u]) [("give", 7)] (is := [7]) (src_tup (ev_var (pv 4) rfl)) (blkOk_by (N := ["house", "picks", "far", "takes", "gives", "by", "take", "give", "at"]) (sc := defScope (topS 19)) (by decide +kernel)) (small gg4) (by decide) (fun x hx s H A cl fp => (tgt_name sc__law_near.nd (by rfl) (Or.inl (by rfl)) (show 7 < 9 by decide) (Or.inr (by rfl)))) (fun x hx s H A cl fp => (ev_mul (ev_var (pv 7) rfl) (ev_var (pv 5) rfl) (mulR (by omega))))) (sw_true rfl rfl rfl (by decide +kernel)) ?_
    have eT : tk.map (fun x => PyData.int (x * y)) = (tk.map (· * y)).map .int := by rw [List.map_map]; rfl
    have eG : gv.map (fun x => PyData.int (x * y)) = (gv.map (· * y)).map .int := by rw [List.map_map]; rfl
    show Blk _ [.d false (dH (tk, gv)), .d false (lInts ps), .d false (.int far), .o true (tk.map fun x => .int (x * y)), .o true (gv.map fun x => .int (x * y)), .d true (.int y), .u, .u, .u] _ _
    rw [eT, eG]
    have gT := near_mul (xs := tk) (y := y) (far := far) (fun x hx => ⟨(gtk x hx).1, hy x (List.mem_append.mpr (.inl hx))⟩) y1
    have gG := near_mul0 (xs := gv) (y := y) (far := far) (fun x hx => ⟨(ggv x hx).1, hy x (List.mem_append.mpr (.inr hx))⟩) y1
    have gP : ∃ x ∈ gv.map (· * y), 0 < x := ⟨pz * y, List.mem_map.mpr ⟨pz, pzm, rfl⟩, Int.mul_pos pz0 (by omega)⟩
    have lT : (tk.map (· * y)).length = tk.length := by simp
    have lG : (gv.map (· * y)).length = gv.length := by simp
    generalize tk.map (· * y) = tk1 at gT lT
    generalize gv.map (· * y) = gv1 at gG gP lG
    have i1 : 0 ≤ u8 % (tk1.length : Int) ∧ u8 % (tk1.length : Int) < tk1.length := ⟨Int.emod_nonneg _ (by omega), Int.emod_lt_of_pos _ (by omega)⟩
    have i2 : 0 ≤ u8 % (gv1.length : Int) ∧ u8 % (gv1.length : Int) < gv1.length := ⟨Int.emod_nonneg _ (by omega), Int.emod_lt_of_pos _ (by omega)⟩
    refine blk_ifJ (fun r => ∃ (tk2 : List Int) (x : SV), r = [.d false (dH (tk, gv)), .d false (lInts ps), .d false (.int far), .o true (tk2.map .int), .o true (gv1.map .int), .d true (.int y), .u, .u, x] ∧ tk2.length = tk.length ∧ ∀ x ∈ tk2, 1 ≤ x ∧ x ≤ far)
      (ec_eqI (ev_mod (ev_fdiv (ev_ixL (ev_var (pv 1) rfl).bx.bw ev_int p9) ev_int (by decide) (pyS (by decide))) ev_int (by decide)) ev_int).t (fun hc => ?_) (fun hc => ?_) ?_
    · refine blk_set Z (n := 8) (by rfl) (Or.inl (by rfl)) (Or.inl rfl) (show 8 < 9 by decide) (ev_mod (ev_ixL (ev_var (pv 1) rfl).bx.bw ev_int p8) (ev_lenL T.len (bx_var (pv 3) rfl).bw) (by rw [List.length_map]; omega)) ?_
      rw [List.length_map]
      refine blk_setIx (n := 3) (pv 3) rfl (ev_var (pv 8) rfl) (ev_min2 Z.calm T.min (ev_var (pv 2) rfl) (ev_add (ev_add (ev_ixL (bx_var (pv 3) rfl).bw (ev_var (pv 8) rfl) (atI_map' 0 i1.1 i1.2)) (ev_mod (ev_fdiv (ev_ixL (ev_var (pv 1) rfl).bx.bw ev_int p9) ev_int (by decide) (pyS (by decide))) ev_int (by decide))) ev_int)) (ixN_in i1.1 (by rw [List.length_map]; exact i1.2)) ?_
      refine blk_nil ⟨tk1.set (u8 % (tk1.length : Int)).toNat (min far (tk1.getD (u8 % (tk1.length : Int)).toNat 0 + u9 / 12 % 2 + 1)), _, by rw [← map_set_int]; rfl, by simp [lT], fun x hx => ?_⟩
      rcases mem_set_or hx with rfl | hx
      · have := (gT _ (mem_getD (xs := tk1) (k := (u8 % (tk1.length : Int)).toNat) (by omega) 0)).1
        have : 0 ≤ u9 / 12 % 2 := Int.emod_nonneg _ (by decide)
        omega
      · exact gT x hx
    · exact blk_nil ⟨tk1, _, rfl, lT, gT⟩
    rintro r ⟨tk2, xx, rfl, l2, gT2⟩
    refine blk_ifJ (fun r => ∃ (gv2 : List Int) (x : SV), r = [.d false (dH (tk, gv)), .d false (lInts ps), .d false (.int far), .o true (tk2.map .int), .o true (gv2.map .int), .d true (.int y), .u, .u, x] ∧ gv2.length = gv.length ∧ (∀ x ∈ gv2, 0 ≤ x ∧ x ≤ far) ∧ ∃ x ∈ gv2, 0 < x)
      (ec_eqI (ev_mod (ev_fdiv (ev_ixL (ev_var (pv 1) rfl).bx.bw ev_int p9) ev_int (by decide) (pyS (by decide))) ev_int (by decide)) ev_int).t (fun hc => ?_) (fun hc => ?_) ?_
    · refine blk_set Z (n := 8) (by rfl) (Or.inl (by rfl)) (Or.inl rfl) (show 8 < 9 by decide) (ev_mod (ev_ixL (ev_var (pv 1) rfl).bx.bw ev_int p8) (ev_lenL T.len (bx_var (pv 4) rfl).bw) (by rw [List.length_map]; omega)) ?_
      rw [List.length_map]
      refine blk_setIx (n := 4) (pv 4) rfl (ev_var (pv 8) rfl) (ev_min2 Z.calm T.min (ev_var (pv 2) rfl) (ev_add (ev_ixL (bx_var (pv 4) rfl).bw (ev_var (pv 8) rfl) (atI_map' 0 i2.1 i2.2)) ev_int)) (ixN_in i2.1 (by rw [List.length_map]; exact i2.2)) ?_
      have hv : 0 < min far (gv1.getD (u8 % (gv1.length : Int)).toNat 0 + 1) ∧ min far (gv1.getD (u8 % (gv1.length : Int)).toNat 0 + 1) ≤ far := by
        have := (gG _ (mem_getD (xs := gv1) (k := (u8 % (gv1.length : Int)).toNat) (by omega) 0)).1
        omega
      refine blk_nil ⟨gv1.set (u8 % (gv1.length : Int)).toNat (min far (gv1.getD (u8 % (gv1.length : Int)).toNat 0 + 1)), _, by rw [← map_set_int]; rfl, by simp [lG], fun x hx => ?_, _, List.mem_set (by omega) _, hv.1⟩
      rcases mem_set_or hx with rfl | hx
      · omega
      · exact gG x hx
    · exact blk_nil ⟨gv1, _, rfl, lG, gG, gP⟩
    rintro r ⟨gv2, xy, rfl, l3, gG2, gP2⟩
    refine blk_ret (ev_tup (evs_cons (ev_tupL T.tuple (bx_var (pv 3) rfl).bw) (evs_cons (ev_tupL T.tuple (bx_var (pv 4) rfl).bw) evs_nil)) (show 2 ≤ sizeLine by decide)) ?_
    exact ⟨(tk2, gv2), rfl, ⟨by show 1 ≤ tk2.length; omega, by show tk2.length ≤ 4; omega, by show 1 ≤ gv2.length; omega, by show gv2.length ≤ 4; omega, gT2, gG2, gP2⟩, l2, l3⟩
end
end Rk

namespace Rk
open PySem PySem.Spec PyProof.Rows L2
section
variable {P : Program} {w : World} {K : PySem.W.Frag} {mg : Str → Option Value} {base : Heap}
structure GoodB (far : Int) (most : Nat) (b : List House) : Prop where
  ne : b ≠ []
  le : b.length ≤ most
  hs : ∃ m n : Nat, 1 ≤ m ∧ m ≤ 4 ∧ 1 ≤ n ∧ n ≤ 4 ∧ ∀ h ∈ b, GoodH far h ∧ h.1.length = m ∧ h.2.length = n
def S__law_a_book : Spec := fun As R Xs => ∃ (ns : List Int) (at_ : Int) (most : Nat) (far : Int), As = [.s ns, .d false (.int at_), .d false (.int (most : Int)), .d false (.int far)] ∧ 0 ≤ at_ ∧ 1 ≤ most ∧ most ≤ 16 ∧ 1 ≤ far ∧ far ≤ 1000000000 ∧
  R = fun D => ∃ b, D = dB b ∧ GoodB far most b
theorem sc__law_a_book : FnScope ["script", "at", "most", "far", "heads", "kinds", "many", "size", "book", "k", "picks", "takes", "some", "gives", "house", "pick"] ["script", "at", "most", "far"] (defScope (topS 20)) := ⟨rfl, rfl, rfl, by decide +kernel, rfl, by decide +kernel, by decide +kernel⟩
theorem cut0 {xs : List Int} {n : Nat} (h : n ≤ xs.length) : cutD (xs.map PyData.int) none (some (n : Int)) = (xs.take n).map .int := by
  unfold cutD
  rw [HT.sIx_none, HT.sIx_nat, List.length_map, List.drop_zero, List.map_take]
  congr 1; omega
theorem cutI {xs : List Int} {n m : Nat} (h : m ≤ xs.length) (hn : n ≤ m) : cutD (xs.map PyData.int) (some (n : Int)) (some (m : Int)) = ((xs.drop n).take (m - n)).map .int := by
  unfold cutD
  rw [HT.sIx_nat, HT.sIx_nat, List.length_map, List.map_take, List.map_drop]
  have e1 : min n xs.length = n := by omega
  have e2 : min m xs.length = m := by omega
  rw [e1, e2]
theorem map_int {xs : List Int} {f : Int → Int} : xs.map (fun x => PyData.int (f x)) = (xs.map f).map .int := by rw [List.map_map]; rfl
theorem one_mod {x y : Int} (h : 0 < y) : 1 ≤ 1 + x % y ∧ 1 + x % y ≤ y := by
  have h1 := Int.emod_nonneg x (show y ≠ 0 by omega)
  have h2 := Int.emod_lt_of_pos x h
  omega
theorem ok__law_a_book (T : Txt K mg) : Prom P w K mg base 2 "_law_a_book" S__law_a_book := by
  refine prom_mk T.d__law_a_book sc__law_a_book (fun _ _ _ _ _ _ us hl => match us, hl with | [_, _, _, _], _ => rfl) (fun As R Xs h => ?_) fun f cdv A outer s H E As R Xs h Z rz => ?_
  · obtain ⟨_, _, _, _, rfl, _⟩ := h; rfl
  · obtain ⟨ns, at_, most, far, rfl, h0, hm1, hm16, hf1, hf9, rfl⟩ := h
    show Blk _ [.s ns, .d false (.int at_), .d false (.int (most : Int)), .d false (.int far), .u, .u, .u, .u, .u, .u, .u, .u, .u, .u, .u, .u] _ _
    refine blk_set Z (n := 4) (by rfl) (Or.inl (by rfl)) (Or.inl rfl) (show 4 < 16 by decide) (ev_call (ok__law_draws T) (Z.hr.mono (by decide)) (args_d (ev_call (ok__law_cell_at T) (Z.hr.mono (by decide)) (args_s (pv 0) rfl (args_d (ev_var (pv 1) rfl) args_nil)) ⟨ns, at_, rfl, h0, rfl⟩) (args_d ev_int (args_d ev_int args_nil))) ⟨cellAt ns at_, 8, 1000, rfl, by decide, by decide, by decide, rfl⟩) ?_
    have hl := draws_len (cellAt ns at_) 1000 (by decide) 8
    have hd := draws_mem (cellAt ns at_) 1000 (by decide) 8
    generalize draws (cellAt ns at_) 8 1000 = hs at hl hd
    have hx : ∀ k : Nat, k < 8 → atI (hs.map PyData.int) (k : Int) = some (.int (hs.getD k 0)) := fun k hk => atI_map' 0 (by omega) (by omega)
    have hb : ∀ k : Nat, k < 8 → 0 ≤ hs.getD k 0 ∧ hs.getD k 0 < 1000 := fun k hk => hd _ (mem_getD (by omega) 0)
    have b0 := hb 0 (by decide); have b1 := hb 1 (by decide); have b2 := hb 2 (by decide); have b3 := hb 3 (by decide); have b4 := hb 4 (by decide); have b5 := hb 5 (by decide); have b7 := hb 7 (by decide)
    have x0 := hx 0 (by decide); have x1 := hx 1 (by decide); have x2 := hx 2 (by decide); have x3 := hx 3 (by decide); have x4 := hx 4 (by decide); have x5 := hx 5 (by decide); have x7 := hx 7 (by decide)
    generalize hs.getD 0 0 = v0 at b0 x0; generalize hs.getD 1 0 = v1 at b1 x1; generalize hs.getD 2 0 = v2 at b2 x2; generalize hs.getD 3 0 = v3 at b3 x3; generalize hs.getD 4 0 = v4 at b4 x4; generalize hs.getD 5 0 = v5 at b5 x5; generalize hs.getD 7 0 = v7 at b7 x7
    have e2 : 0 ≤ v2 % 2 ∧ v2 % 2 < 2 := by omega
    have c2 : 1 ≤ ([4, 2] : List Int).getD (v2 % 2).toNat 0 ∧ ([4, 2] : List Int).getD (v2 % 2).toNat 0 ≤ 4 := by
      have := mem_getD (xs := ([4, 2] : List Int)) (k := (v2 % 2).toNat) (by simp; omega) 0
      simp only [List.mem_cons, List.not_mem_nil, or_false] at this
      omega
    have i2 : atI ([4, 2].map PyData.int) (v2 % 2) = some (.int (([4, 2] : List Int).getD (v2 % 2).toNat 0)) := atI_map' 0 e2.1 e2.2
    generalize ([4, 2] : List Int).getD (v2 % 2).toNat 0 = w2 at c2 i2
    refine blk_setO Z (n := 5) (by rfl) (Or.inl (by rfl)) (Or.inl rfl) (show 5 < 16 by decide) (evo_lst (evs_cons (ev_add ev_int (ev_mod (ev_ixL (ev_var (pv 4) rfl).bx.bw ev_int x0) (ev_ixL (evo_lst (evs_cons ev_int (evs_cons ev_int evs_nil)) (show 2 ≤ sizeLine by decide)).bx.bw (ev_mod (ev_ixL (ev_var (pv 4) rfl).bx.bw ev_int x2) ev_int (by decide)) i2) (by omega))) (evs_cons (ev_add ev_int (ev_mod (ev_ixL (ev_var (pv 4) rfl).bx.bw ev_int x1) (ev_ixL (evo_lst (evs_cons ev_int (evs_cons ev_int evs_nil)) (show 2 ≤ sizeLine by decide)).bx.bw (ev_mod (ev_ixL (ev_var (pv 4) rfl).bx.bw ev_int x2) ev_int (by decide)) i2) (by omega))) evs_nil)) (show 2 ≤ sizeLine by decide)) ?_
    have k0 := one_mod (x := v0) (y := w2) (by omega)
    have k1 := one_mod (x := v1) (y := w2) (by omega)
    obtain ⟨m, em⟩ : ∃ m : Nat, 1 + v0 % w2 = (m : Int) := ⟨(1 + v0 % w2).toNat, by omega⟩
    obtain ⟨n, en⟩ : ∃ n : Nat, 1 + v1 % w2 = (n : Int) := ⟨(1 + v1 % w2).toNat, by omega⟩
    rw [em, en]
    rw [em] at k0; rw [en] at k1
    have hm4 : 1 ≤ m ∧ m ≤ 4 := by omega
    have hn4 : 1 ≤ n ∧ n ≤ 4 := by omega
    have e4 : 0 ≤ v4 % 3 / 2 ∧ v4 % 3 / 2 < 2 := by omega
    have c4 : 1 ≤ ([(most : Int), min most 4] : List Int).getD (v4 % 3 / 2).toNat 0 ∧ ([(most : Int), min most 4] : List Int).getD (v4 % 3 / 2).toNat 0 ≤ most := by
      have := mem_getD (xs := ([(most : Int), min most 4] : List Int)) (k := (v4 % 3 / 2).toNat) (by simp; omega) 0
      simp only [List.mem_cons, List.not_mem_nil, or_false] at this
      omega
    have i4 : atI ([(most : Int), min most 4].map PyData.int) (v4 % 3 / 2) = some (.int (([(most : Int), min most 4] : List Int).getD (v4 % 3 / 2).toNat 0)) := atI_map' 0 e4.1 e4.2
    generalize ([(most : Int), min most 4] : List Int).getD (v4 % 3 / 2).toNat 0 = w4 at c4 i4
    refine blk_set Z (n := 6) (by rfl) (Or.inl (by rfl)) (Or.inl rfl) (show 6 < 16 by decide) (ev_add ev_int (ev_mod (ev_ixL (ev_var (pv 4) rfl).bx.bw ev_int x3) (ev_ixL (evo_lst (evs_cons (ev_var (pv 2) rfl) (evs_cons (ev_min2 Z.calm T.min (ev_var (pv 2) rfl) ev_int) evs_nil)) (show 2 ≤ sizeLine by decide)).bx.bw (ev_fdiv (ev_mod (ev_ixL (ev_var (pv 4) rfl).bx.bw ev_int x4) ev_int (by decide)) ev_int (by decide) (pyS (by decide))) i4) (by omega))) ?_
    have km := one_mod (x := v3) (y := w4) (by omega)
    obtain ⟨many, emy⟩ : ∃ many : Nat, 1 + v3 % w4 = (many : Int) := ⟨(1 + v3 % w4).toNat, by omega⟩
    rw [emy]
    rw [emy] at km
    have hmy : 1 ≤ many ∧ many ≤ most := by omega
    have e5 : 0 ≤ v5 % 5 ∧ v5 % 5 < 5 := by omega
    have c5 : 1 ≤ ([4, 9, 50, 1000, 1000000000] : List Int).getD (v5 % 5).toNat 0 := by
      have := mem_getD (xs := ([4, 9, 50, 1000, 1000000000] : List Int)) (k := (v5 % 5).toNat) (by simp; omega) 0
      simp only [List.mem_cons, List.not_mem_nil, or_false] at this
      omega
    have i5 : atI ([4, 9, 50, 1000, 1000000000].map PyData.int) (v5 % 5) = some (.int (([4, 9, 50, 1000, 1000000000] : List Int).getD (v5 % 5).toNat 0)) := atI_map' 0 e5.1 e5.2
    generalize ([4, 9, 50, 1000, 1000000000] : List Int).getD (v5 % 5).toNat 0 = w5 at c5 i5
    refine blk_set Z (n := 7) (by rfl) (Or.inr (by rfl)) (Or.inl rfl) (show 7 < 16 by decide) (ev_min2 Z.calm T.min (ev_var (pv 3) rfl) (ev_ixL (evo_lst (evs_cons ev_int (evs_cons ev_int (evs_cons ev_int (evs_cons ev_int (evs_cons (ev_powC 1000000000 ev_int ev_int ⟨by decide, by decide, by decide⟩ (by decide)) evs_nil))))) (show 5 ≤ sizeLine by decide)).bx.bw (ev_mod (ev_ixL (ev_var (pv 4) rfl).bx.bw ev_int x5) ev_int (by decide)) i5)) ?_
    obtain ⟨size, esz, hs1, hsf⟩ : ∃ size : Int, min far w5 = size ∧ 1 ≤ size ∧ size ≤ far := ⟨_, rfl, by omega, by omega⟩
    rw [esz]
    refine blk_setO Z (n := 8) (by rfl) (Or.inl (by rfl)) (Or.inl rfl) (show 8 < 16 by decide) (evo_lst evs_nil (show 0 ≤ sizeLine by decide)) ?_
    refine blk_for Z (is := [9]) (b := true) (src_range1 T.range (ev_var (pv 6) rfl) (by omega) (by omega)) (fun j r => ∃ (b : List House) (y0 y1 y2 y3 y4 y5 : SV), r = [.s ns, .d false (.int at_), .d false (.int (most : Int)), .d false (.int far), .d true (lInts hs), .o true [.int (m : Int), .int (n : Int)], .d true (.int (many : Int)), .d true (.int size), .o true (b.map dH), y0, y1, y2, y3, y4, y5, .u] ∧ b.length = j ∧ ∀ h ∈ b, GoodH far h ∧ h.1.length = m ∧ h.2.length = n) ⟨[], _, _, _, _, _, _, rfl, rfl, fun h z => (by cases z)⟩ (fun j D r hD hI => ?_) (fun r hI => ?_)
    · obtain ⟨b, y0, y1, y2, y3, y4, y5, rfl, lb, hb⟩ := hI
      have hj : j < many := by
        have := (List.getElem?_eq_some_iff.mp hD).1
        simpa [rangeD] using this
      obtain rfl : D = .int (0 + (j : Int)) := by
        unfold rangeD at hD
        rw [List.getElem?_map, List.getElem?_range (by omega)] at hD
        exact (Option.some.inj hD).symm
      rw [Int.zero_add]
      refine ⟨_, (tgt_name Z.nd (by rfl) (Or.inl (by rfl)) (show 9 < 16 by decide) (Or.inl rfl)), ?_⟩
      refine blk_set Z (n := 10) (by rfl) (Or.inl (by rfl)) (Or.inl rfl) (show 10 < 16 by decide) (ev_call (ok__law_draws T) (Z.hr.mono (by decide)) (args_d (ev_add (ev_call (ok__law_cell_at T) (Z.hr.mono (by decide)) (args_s (pv 0) rfl (args_d (ev_add (ev_var (pv 1) rfl) ev_int) args_nil)) ⟨ns, at_ + 1, rfl, by omega, rfl⟩) (ev_mul (ev_var (pv 9) rfl) (ev_add (ev_ixL (ev_var (pv 4) rfl).bx.bw ev_int x7) ev_int) (mulL (by omega)))) (args_d ev_int (args_d (ev_powC 1000000000 ev_int ev_int ⟨by decide, by decide, by decide⟩ (by decide)) args_nil))) ⟨_, 12, 1000000000, rfl, by decide, by decide, by decide, rfl⟩) ?_
      have pl := draws_len (cellAt ns (at_ + 1) + (j : Int) * (v7 + 1)) (1000000000) (by decide) 12
      have pd := draws_mem (cellAt ns (at_ + 1) + (j : Int) * (v7 + 1)) (1000000000) (by decide) 12
      generalize draws (cellAt ns (at_ + 1) + (j : Int) * (v7 + 1)) 12 (1000000000) = ps at pl pd
      have p8 : atI (ps.map PyData.int) 8 = some (.int (ps.getD 8 0)) := atI_map' 0 (by omega) (by omega)
      have p9 : atI (ps.map PyData.int) 9 = some (.int (ps.getD 9 0)) := atI_map' 0 (by omega) (by omega)
      have p10 : atI (ps.map PyData.int) 10 = some (.int (ps.getD 10 0)) := atI_map' 0 (by omega) (by omega)
      have p11 : atI (ps.map PyData.int) 11 = some (.int (ps.getD 11 0)) := atI_map' 0 (by omega) (by omega)
      refine blk_set Z (n := 11) (by rfl) (Or.inl (by rfl)) (Or.inl rfl) (show 11 < 16 by decide) (ev_tupL T.tuple (evo_lc Z (lc_map (ps.take m) PyData.int (fun x => .int (1 + x % size)) (fun x => [.s ns, .d false (.int at_), .d false (.int (most : Int)), .d false (.int far), .d true (lInts hs), .o true [.int (m : Int), .int (n : Int)], .d true (.int (many : Int)), .d true (.int size), .o true (b.map dH), .d true (.int (j : Int)), .d true (lInts ps), y2, y3, y4, y5, .d true (.int x)]) [("pick", 15)] (is := [15]) (bi := true) (by rw [← cut0 (by omega)]; exact src_list (evo_slL (ev_var (pv 10) rfl).bx.bw eo_none (eo_some (ev_ixL (bx_var (pv 5) rfl).bw ev_int rfl))).ev) (blkOk_by (N := ["script", "at", "most", "far", "heads", "kinds", "many", "size", "book", "k", "picks", "takes", "some", "gives", "house", "pick"]) (sc := defScope (topS 20)) (by decide +kernel)) (small (m := 4) (by rw [List.length_take]; omega)) (by decide) (fun x hx s H A cl fp => (tgt_name sc__law_a_book.nd (by rfl) (Or.inl (by rfl)) (show 15 < 16 by decide) (Or.inr (by rfl)))) (fun x hx s H A cl fp => (ev_add ev_int (ev_mod (ev_var (pv 15) rfl) (ev_var (pv 7) rfl) (by omega)))))).bx.bw) ?_
      rw [map_int (f := fun x => 1 + x % size)]
      have gT : ((ps.take m).map fun x => 1 + x % size).length = m ∧ ∀ x ∈ (ps.take m).map (fun x => 1 + x % size), 1 ≤ x ∧ x ≤ far := ⟨by simp; omega, fun x hx => by
        obtain ⟨z, _, rfl⟩ := List.mem_map.mp hx
        have := one_mod (x := z) (y := size) (by omega)
        omega⟩
      generalize (ps.take m).map (fun x => 1 + x % size) = tk at gT
      refine blk_setO Z (n := 12) (by rfl) (Or.inl (by rfl)) (Or.inl rfl) (show 12 < 16 by decide) (evo_slL (ev_var (pv 10) rfl).bx.bw (eo_some ev_int) (eo_some (ev_add ev_int (ev_ixL (bx_var (pv 5) rfl).bw ev_int rfl)))) ?_
      have ecut : cutD (ps.map PyData.int) (some 4) (some (4 + (n : Int))) = ((ps.drop 4).take n).map .int := by
        have := cutI (xs := ps) (n := 4) (m := 4 + n) (by omega) (by omega)
        rw [show ((4 + n : Nat) : Int) = 4 + (n : Int) by omega, show 4 + n - 4 = n by omega] at this
        exact this
      rw [ecut]
      have gS : ((ps.drop 4).take n).length = n := by simp; omega
      generalize (ps.drop 4).take n = sm at gS
      refine blk_setLc Z (n := 13) (by rfl) (by rfl) (show 13 < 16 by decide) (lc_map sm PyData.int (fun x => .int (x % (size + 1) * b2z (decide (0 < x % 7)))) (fun x => [.s ns, .d false (.int at_), .d false (.int (most : Int)), .d false (.int far), .d true (lInts hs), .o true [.int (m : Int), .int (n : Int)], .d true (.int (many : Int)), .d true (.int size), .o true (b.map dH), .d true (.int (j : Int)), .d true (lInts ps), .d true (tInts tk), .o true (sm.map .int), y4, y5, .d true (.int x)]) [("pick", 15)] (is := [15]) (src_bw (bx_var (pv 12) rfl).bw) (blkOk_by (N := ["script", "at", "most", "far", "heads", "kinds", "many", "size", "book", "k", "picks", "takes", "some", "gives", "house", "pick"]) (sc := defScope (topS 20)) (by decide +kernel)) (small (m := 4) (by omega)) (by decide) (fun x hx s H A cl fp => (tgt_name sc__law_a_book.nd (by rfl) (Or.inl (by rfl)) (show 15 < 16 by decide) (Or.inr (by rfl)))) (fun x hx s H A cl fp => (ev_mul (ev_mod (ev_var (pv 15) rfl) (ev_add (ev_var (pv 7) rfl) ev_int) (by omega)) (ev_intB T.int (ec_gt (ev_mod (ev_var (pv 15) rfl) ev_int (by decide)) ev_int).ev) (mulR (by unfold b2z; split <;> decide))))) (sw_true rfl rfl rfl (by decide +kernel)) ?_
      rw [map_int (f := fun x => x % (size + 1) * b2z (decide (0 < x % 7)))]
      have gG : (sm.map fun x => x % (size + 1) * b2z (decide (0 < x % 7))).length = n ∧ ∀ x ∈ sm.map (fun x => x % (size + 1) * b2z (decide (0 < x % 7))), 0 ≤ x ∧ x ≤ far := ⟨by simp [gS], fun x hx => by
        obtain ⟨z, _, rfl⟩ := List.mem_map.mp hx
        have h1 := Int.emod_nonneg z (show size + 1 ≠ 0 by omega)
        have h2 := Int.emod_lt_of_pos z (show 0 < size + 1 by omega)
        unfold b2z
        split
        · omega
        · omega⟩
      generalize sm.map (fun x => x % (size + 1) * b2z (decide (0 < x % 7))) = gv at gG
      refine blk_ifJ (fun r => ∃ gv2 : List Int, r = [.s ns, .d false (.int at_), .d false (.int (most : Int)), .d false (.int far), .d true (lInts hs), .o true [.int (m : Int), .int (n : Int)], .d true (.int (many : Int)), .d true (.int size), .o true (b.map dH), .d true (.int (j : Int)), .d true (lInts ps), .d true (tInts tk), .o true (sm.map .int), .o true (gv2.map .int), y5, .u] ∧ gv2.length = n ∧ (∀ x ∈ gv2, 0 ≤ x ∧ x ≤ far) ∧ ∃ x ∈ gv2, 0 < x)
        (ec_eqI (ev_maxL (ns := gv) Z.calm T.max (bx_var (pv 13) rfl).bw (ne_of_len (by omega))) ev_int).t (fun hc => ?_) (fun hc => ?_) ?_
      · have im : 0 ≤ ps.getD 8 0 % (n : Int) ∧ ps.getD 8 0 % (n : Int) < n := ⟨Int.emod_nonneg _ (by omega), Int.emod_lt_of_pos _ (by omega)⟩
        refine blk_setIx (n := 13) (pv 13) rfl (ev_mod (ev_ixL (ev_var (pv 10) rfl).bx.bw ev_int p8) (ev_ixL (bx_var (pv 5) rfl).bw ev_int rfl) (by omega)) (ev_add ev_int (ev_mod (ev_ixL (ev_var (pv 10) rfl).bx.bw ev_int p9) (ev_var (pv 7) rfl) (by omega))) (ixN_in im.1 (by rw [List.length_map]; omega)) ?_
        have hv := one_mod (x := ps.getD 9 0) (y := size) (by omega)
        refine blk_nil ⟨gv.set (ps.getD 8 0 % (n : Int)).toNat (1 + ps.getD 9 0 % size), by rw [← map_set_int]; rfl, by simp [gG.1], fun x hx => ?_, _, List.mem_set (by omega) _, by omega⟩
        rcases mem_set_or hx with rfl | hx
        · omega
        · exact gG.2 x hx
      · rw [decide_eq_false_iff_not] at hc
        refine blk_nil ⟨gv, rfl, gG.1, gG.2, _, gMax_mem (ne_of_len (by omega)), ?_⟩
        have := gG.2 _ (gMax_mem (ns := gv) (ne_of_len (by omega)))
        omega
      rintro r ⟨gv2, rfl, l2, g2, p2⟩
      refine blk_set Z (n := 14) (by rfl) (Or.inl (by rfl)) (Or.inl rfl) (show 14 < 16 by decide) (ev_tup (evs_cons (ev_var (pv 11) rfl) (evs_cons (ev_tupL T.tuple (bx_var (pv 13) rfl).bw) evs_nil)) (show 2 ≤ sizeLine by decide)) ?_
      have hG0 : GoodH far (tk, gv2) := ⟨by show 1 ≤ tk.length; omega, by show tk.length ≤ 4; omega, by show 1 ≤ gv2.length; omega, by show gv2.length ≤ 4; omega, gT.2, g2, p2⟩
      refine blk_ifJ (fun r => ∃ (h : House) (bb : Bool), r = [.s ns, .d false (.int at_), .d false (.int (most : Int)), .d false (.int far), .d true (lInts hs), .o true [.int (m : Int), .int (n : Int)], .d true (.int (many : Int)), .d true (.int size), .o true (b.map dH), .d true (.int (j : Int)), .d true (lInts ps), .d true (tInts tk), .o true (sm.map .int), .o true (gv2.map .int), .d true (dH h), .u] ∧ GoodH far h ∧ h.1.length = m ∧ h.2.length = n)
        (evw_and (ec_neX Z.u64 (bx_var (pv 8) rfl) (evo_lst evs_nil (show 0 ≤ sizeLine by decide)).bx (shaped_dHs b) (by decide)).t (fun h38 => (evw_and1 (ec_eqI (ev_mod (ev_ixL (ev_var (pv 10) rfl).bx.bw ev_int p10) ev_int (by decide)) ev_int).t))).t (fun hc => ?_) (fun hc => ?_) ?_
      · have hb0 : 0 < b.length := by
          cases b with
          | nil => simp [PyData.eqv, PyData.eqvAll] at hc
          | cons h t => simp
        have im : 0 ≤ ps.getD 11 0 % (b.length : Int) ∧ ps.getD 11 0 % (b.length : Int) < b.length := ⟨Int.emod_nonneg _ (by omega), Int.emod_lt_of_pos _ (by omega)⟩
        have hmem : b.getD (ps.getD 11 0 % (b.length : Int)).toNat ([], []) ∈ b := by
          rw [List.getD, List.getElem?_eq_getElem (by omega)]; exact List.getElem_mem _
        obtain ⟨gg, gl1, gl2⟩ := hb _ hmem
        refine blk_setR Z (n := 14) (by rfl) (Or.inl (by rfl)) (Or.inl rfl) (show 14 < 16 by decide) (evr_call (ok__law_near T) (Z.hr.mono (by decide)) (args_d (ev_ixL (bx_var (pv 8) rfl).bw (ev_mod (ev_ixL (ev_var (pv 10) rfl).bx.bw ev_int p11) (ev_lenL T.len (bx_var (pv 8) rfl).bw) (by rw [List.length_map]; omega)) (by rw [List.length_map]; exact atI_map' ([], []) im.1 im.2)) (args_d (ev_var (pv 10) rfl) (args_d (ev_var (pv 3) rfl) args_nil))) ⟨_, ps, far, rfl, gg, by omega, fun x hx => (pd x hx).1, hf9, rfl⟩) ?_
        rintro D ⟨h', rfl, g', l1', l2'⟩
        exact blk_nil ⟨h', true, rfl, g', l1'.trans gl1, l2'.trans gl2⟩
      · exact blk_nil ⟨(tk, gv2), true, rfl, hG0, gT.1, l2⟩
      rintro r ⟨h, bb, rfl, gh, lh1, lh2⟩
      refine blk_append (n := 8) (pv 8) rfl (ev_var (pv 14) rfl) (small' (m := 17) (by rw [List.length_map]; omega)) ?_ (ps_append (pv 8))
      refine blk_nil ⟨b ++ [h], _, _, _, _, _, _, by rw [List.map_append]; rfl, by simp [lb], fun h2 hm2 => ?_⟩
      rcases List.mem_append.mp hm2 with z | z
      · exact hb h2 z
      · rw [List.mem_singleton.mp z]; exact ⟨gh, lh1, lh2⟩
    · obtain ⟨b, y0, y1, y2, y3, y4, y5, rfl, lb, hb⟩ := hI
      have lb' : b.length = many := by rw [lb]; simp [rangeD]
      refine blk_retO (pv 8) rfl ?_
      exact ⟨b, rfl, by intro e; rw [e] at lb'; simp at lb'; omega, by omega, m, n, hm4.1, hm4.2, hn4.1, hn4.2, hb⟩
end
end Rk

namespace Rk
open PySem PySem.Spec PyProof.Rows L2
section
variable {P : Program} {w : World} {K : PySem.W.Frag} {mg : Str → Option Value} {base : Heap}
def S__law_common : Spec := fun As R Xs => ∃ a b : Nat, As = [.d false (.int (a : Int)), .d false (.int (b : Int))] ∧ R = (· = .int (Nat.gcd a b : Int))
theorem sc__law_common : FnScope ["one", "other"] ["one", "other"] (defScope (topS 21)) := ⟨rfl, rfl, rfl, by decide +kernel, rfl, by decide +kernel, by decide +kernel⟩
theorem ok__law_common (T : Txt K mg) : Prom P w K mg base 1 "_law_common" S__law_common := by
  refine prom_mk T.d__law_common sc__law_common (fun _ _ _ _ _ _ us hl => match us, hl with | [_, _], _ => rfl) (fun As R Xs h => ?_) fun f cdv A outer s H E As R Xs h Z rz => ?_
  · obtain ⟨_, _, rfl, _⟩ := h; rfl
  · obtain ⟨a, b, rfl, rfl⟩ := h
    show Blk _ [.d false (.int (a : Int)), .d false (.int (b : Int))] _ _
    refine blk_while Z (fun st : (Nat × Nat) × Bool => [.d st.2 (.int (st.1.1 : Int)), .d st.2 (.int (st.1.2 : Int))]) (fun st => Nat.gcd st.1.1 st.1.2 = Nat.gcd a b) (fun st => st.1.2) (fun st => decide ((st.1.2 : Int) > 0)) ((a, b), false) rfl rfl (fun st ok => (ec_gt (ev_var (pv 1) rfl) ev_int).t) (fun st ok hb => ?_) (fun st ok hb => ?_)
    · obtain ⟨⟨x, y⟩, z⟩ := st
      simp only [decide_eq_true_eq] at hb
      refine blk_par Z (n := 0) (m := 1) (by rfl) (by rfl) (by decide) (show 0 < 2 by decide) (show 1 < 2 by decide) (by rfl) (by rfl) (Ev.flat (b' := true) (ev_var (pv 1) rfl) rfl) (ev_mod (ev_var (pv 0) rfl) (ev_var (pv 1) rfl) hb) ?_ (ps_par Z.calm Z.nd (by rfl) (by rfl) (by decide) (by rfl) (by rfl) (pa_cons pe_sem (pa_cons pe_sem pa_nil (by rfl)) (by rfl)) (by rfl))
      refine blk_nil ⟨((y, x % y), true), rfl, ?_, Nat.mod_lt _ (by omega)⟩
      have ok' : Nat.gcd x y = Nat.gcd a b := ok
      show Nat.gcd y (x % y) = _
      rw [← ok', Nat.gcd_comm x y, Nat.gcd_rec y x, Nat.gcd_comm]
    · obtain ⟨⟨x, y⟩, z⟩ := st
      simp only [decide_eq_false_iff_not] at hb
      have e : y = 0 := by omega
      subst e
      refine blk_ret (Ev.flat (b' := true) (ev_var (pv 0) rfl) rfl) ?_
      have ok' : Nat.gcd x 0 = Nat.gcd a b := ok
      rw [Nat.gcd_zero_right] at ok'
      show PyData.int _ = PyData.int _
      rw [← ok']
end
end Rk

namespace Rk
open PySem PySem.Spec PyProof.Rows L2
section
variable {P : Program} {w : World} {K : PySem.W.Frag} {mg : Str → Option Value} {base : Heap}
def S__law_is_fraction : Spec := fun As R Xs => ∃ q : Rat, As = [.d false (dF q)] ∧ R = (· = .bool true)
theorem sc__law_is_fraction : FnScope ["one"] ["one"] (defScope (topS 23)) := ⟨rfl, rfl, rfl, by decide +kernel, rfl, by decide +kernel, by decide +kernel⟩
theorem ok__law_is_fraction (T : Txt K mg) : Prom P w K mg base 2 "_law_is_fraction" S__law_is_fraction := by
  refine prom_mk T.d__law_is_fraction sc__law_is_fraction (fun _ _ _ _ _ _ us hl => match us, hl with | [_], _ => rfl) (fun As R Xs h => ?_) fun f cdv A outer s H E As R Xs h Z rz => ?_
  · obtain ⟨_, rfl, _⟩ := h; rfl
  · obtain ⟨q, rfl, rfl⟩ := h
    have d0 := q.den_pos
    show Blk _ [.d false (dF q)] _ _
    refine blk_ifR (evw_or (evt_not (evt_val (ev_isi T.isinstance T.tuple (ev_var (pv 0) rfl) boot_tuple (is_same _)))) (fun h0 => (evw_or1 (ec_neI (ev_lenT T.len (ev_var (pv 0) rfl)) ev_int).t))).t (fun hc => absurd hc (by simp)) (fun hc => ?_)
    refine blk_ifR (evw_or (evt_not (evt_val (ev_call (ok__law_a_whole T) (Z.hr.mono (by decide)) (args_d (ev_ixT (ev_var (pv 0) rfl) ev_int rfl) args_nil) ⟨_, rfl, rfl⟩))) (fun h1 => (evw_or1 (evt_not (evt_val (ev_call (ok__law_a_whole T) (Z.hr.mono (by decide)) (args_d (ev_ixT (ev_var (pv 0) rfl) ev_int rfl) args_nil) ⟨_, rfl, rfl⟩)))))).t (fun hc => absurd hc (by simp)) (fun hc => ?_)
    have em : max q.num (0 - q.num) = (q.num.natAbs : Int) := by omega
    refine blk_ret (ev_and (ec_gt (ev_ixT (ev_var (pv 0) rfl) ev_int rfl) ev_int).ev (fun h2 => (ev_one (ec_eqI (ev_call (ok__law_common T) (Z.hr.mono (by decide)) (args_d (ev_max2 Z.calm T.max (ev_ixT (ev_var (pv 0) rfl) ev_int rfl) (ev_sub ev_int (ev_ixT (ev_var (pv 0) rfl) ev_int rfl))) (args_d (ev_ixT (ev_var (pv 0) rfl) ev_int rfl) args_nil)) ⟨q.num.natAbs, q.den, by rw [em], rfl⟩) ev_int).ev))) ?_
    show PyData.bool _ = PyData.bool _
    congr 1
    rw [show Nat.gcd q.num.natAbs q.den = 1 from q.reduced]
    simp
    omega
end
end Rk

namespace Rk
open PySem PySem.Spec PyProof.Rows L2
section
variable {P : Program} {w : World} {K : PySem.W.Frag} {mg : Str → Option Value} {base : Heap}
def S__law_less : Spec := fun As R Xs => ∃ (x y : Rat) (n m : Nat), As = [.d false (dF x), .d false (dF y)] ∧ Wd n x ∧ Wd m y ∧ 0 < n ∧ 0 < m ∧ n + m ≤ 8000 ∧ R = (· = .bool (decide (x < y)))
theorem sc__law_less : FnScope ["one", "other"] ["one", "other"] (defScope (topS 25)) := ⟨rfl, rfl, rfl, by decide +kernel, rfl, by decide +kernel, by decide +kernel⟩
theorem ok__law_less (T : Txt K mg) : Prom P w K mg base 1 "_law_less" S__law_less := by
  refine prom_mk T.d__law_less sc__law_less (fun _ _ _ _ _ _ us hl => match us, hl with | [_, _], _ => rfl) (fun As R Xs h => ?_) fun f cdv A outer s H E As R Xs h Z rz => ?_
  · obtain ⟨_, _, _, _, rfl, _⟩ := h; rfl
  · obtain ⟨x, y, n, m, rfl, h1, h2, hn, hm, hnm, rfl⟩ := h
    have px := x.den_pos
    have py := y.den_pos
    show Blk _ [.d false (dF x), .d false (dF y)] _ _
    refine blk_ret (ec_lt (ev_mul (ev_ixT (ev_var (pv 0) rfl) ev_int rfl) (ev_ixT (ev_var (pv 1) rfl) ev_int rfl) (mulW h1.1 (natAbs_ofNat h2.2) (by omega) (by omega) (by omega))) (ev_mul (ev_ixT (ev_var (pv 1) rfl) ev_int rfl) (ev_ixT (ev_var (pv 0) rfl) ev_int rfl) (mulW h2.1 (natAbs_ofNat h1.2) (by omega) (by omega) (by omega)))).ev ?_
    show PyData.bool _ = PyData.bool _
    rw [decide_eq_decide.mpr (Rat.lt_iff x y)]
end
end Rk

namespace Rk
open PySem PySem.Spec PyProof.Rows L2
section
variable {P : Program} {w : World} {K : PySem.W.Frag} {mg : Str → Option Value} {base : Heap}
def S__law_low : Spec := fun As R Xs => ∃ a b : Int, As = [.d false (.int a), .d false (.int b)] ∧ b ≠ 0 ∧ b.natAbs < 2 ^ 9000 ∧ R = (· = dF (Rat.divInt a b))
theorem sc__law_low : FnScope ["top", "bottom", "many"] ["top", "bottom"] (defScope (topS 22)) := ⟨rfl, rfl, rfl, by decide +kernel, rfl, by decide +kernel, by decide +kernel⟩
theorem ok__law_low (T : Txt K mg) : Prom P w K mg base 2 "_law_low" S__law_low := by
  refine prom_mk T.d__law_low sc__law_low (fun _ _ _ _ _ _ us hl => match us, hl with | [_, _], _ => rfl) (fun As R Xs h => ?_) fun f cdv A outer s H E As R Xs h Z rz => ?_
  · obtain ⟨_, _, rfl, _⟩ := h; rfl
  · obtain ⟨a, b, rfl, hb, hb2, rfl⟩ := h
    show Blk _ [.d false (.int a), .d false (.int b), .u] _ _
    refine blk_ifJ (fun r => ∃ (a' b' : Int) (z : Bool), r = [.d z (.int a'), .d z (.int b'), .u] ∧ 0 < b' ∧ b'.natAbs < 2 ^ 9000 ∧ Rat.divInt a' b' = Rat.divInt a b) (ec_lt (ev_var (pv 1) rfl) ev_int).t (fun hc => ?_) (fun hc => ?_) ?_
    · rw [decide_eq_true_eq] at hc
      refine blk_set Z (n := 0) (by rfl) (Or.inl (by rfl)) (Or.inl rfl) (show 0 < 3 by decide) (ev_sub ev_int (ev_var (pv 0) rfl)) ?_
      refine blk_set Z (n := 1) (by rfl) (Or.inl (by rfl)) (Or.inl rfl) (show 1 < 3 by decide) (ev_sub ev_int (ev_var (pv 1) rfl)) ?_
      refine blk_nil ⟨0 - a, 0 - b, true, rfl, by omega, by rw [Int.zero_sub, Int.natAbs_neg]; exact hb2, ?_⟩
      rw [Int.zero_sub, Int.zero_sub, Rat.neg_divInt_neg]
    · rw [decide_eq_false_iff_not] at hc
      exact blk_nil ⟨a, b, false, rfl, by omega, hb2, rfl⟩
    rintro r ⟨a', b', z, rfl, h0, h9, e⟩
    have em : max a' (0 - a') = (a'.natAbs : Int) := by omega
    have eb : b' = (b'.natAbs : Int) := by omega
    refine blk_set Z (n := 2) (by rfl) (Or.inl (by rfl)) (Or.inl rfl) (show 2 < 3 by decide) (ev_call (ok__law_common T) (Z.hr.mono (by decide)) (args_d (ev_max2 Z.calm T.max (ev_var (pv 0) rfl) (ev_sub ev_int (ev_var (pv 0) rfl))) (args_d (ev_var (pv 1) rfl) args_nil)) ⟨a'.natAbs, b'.natAbs, by rw [em, ← eb], rfl⟩) ?_
    have g0 : 0 < (Int.gcd a' b' : Int) := by
      have : Int.gcd a' b' ≠ 0 := by
        intro e
        rw [Int.gcd_eq_zero_iff] at e
        omega
      omega
    have gl : (Int.gcd a' b' : Int).natAbs < 2 ^ 9000 := by
      have := Nat.le_of_dvd (by omega) (Int.gcd_dvd_natAbs_right a' b')
      omega
    show Blk _ [.d z (.int a'), .d z (.int b'), .d true (.int (Int.gcd a' b' : Int))] _ _
    refine blk_ret (ev_tup (evs_cons (ev_fdiv (ev_var (pv 0) rfl) (ev_var (pv 2) rfl) g0 (pyW gl (by decide) (by decide))) (evs_cons (ev_fdiv (ev_var (pv 1) rfl) (ev_var (pv 2) rfl) g0 (pyW gl (by decide) (by decide))) evs_nil)) (show 2 ≤ sizeLine by decide)) ?_
    show PyData.tuple _ = dF _
    rw [← e]
    obtain ⟨e1, e2⟩ := divInt_pos (a := a') h0
    unfold dF
    rw [e1, e2]
end
end Rk

namespace Rk
open PySem PySem.Spec PyProof.Rows L2
section
variable {P : Program} {w : World} {K : PySem.W.Frag} {mg : Str → Option Value} {base : Heap}
def SmallF (q : Rat) : Prop := q.num.natAbs < 2 ^ 133 ∧ q.den < 2 ^ 120
theorem smallF_divInt {a b : Int} (hb : b ≠ 0) (h1 : a.natAbs < 2 ^ 133) (h2 : b.natAbs < 2 ^ 120) : SmallF (Rat.divInt a b) := by
  refine ⟨?_, ?_⟩
  · rw [Rat.num_divInt]
    refine Nat.lt_of_le_of_lt (Int.natAbs_ediv_le_natAbs _ _) ?_
    rw [Int.natAbs_mul]
    have : b.sign.natAbs ≤ 1 := by
      rcases Int.lt_trichotomy b 0 with z | z | z
      · rw [Int.sign_eq_neg_one_of_neg z]; decide
      · rw [z]; decide
      · rw [Int.sign_eq_one_of_pos z]; decide
    have : b.sign.natAbs * a.natAbs ≤ 1 * a.natAbs := Nat.mul_le_mul_right _ this
    omega
  · rw [Rat.den_divInt, if_neg hb]
    exact Nat.lt_of_le_of_lt (Nat.div_le_self _ _) h2
theorem cutF0 {qs : List Rat} {n : Nat} (h : n ≤ qs.length) : cutD (qs.map dF) none (some (n : Int)) = (qs.take n).map dF := by
  unfold cutD
  rw [HT.sIx_none, HT.sIx_nat, List.length_map, List.drop_zero, List.map_take]
  congr 1; omega
theorem cutF {qs : List Rat} {n m : Nat} (h : m ≤ qs.length) (hn : n ≤ m) : cutD (qs.map dF) (some (n : Int)) (some (m : Int)) = ((qs.drop n).take (m - n)).map dF := by
  unfold cutD
  rw [HT.sIx_nat, HT.sIx_nat, List.length_map, List.map_take, List.map_drop]
  have e1 : min n qs.length = n := by omega
  have e2 : min m qs.length = m := by omega
  rw [e1, e2]
def S__law_a_prices : Spec := fun As R Xs => ∃ (b : List House) (c : Int), As = [.d false (dB b), .d false (.int c)] ∧ 1 ≤ b.length ∧ (∀ h ∈ b, h.1.length ≤ 4 ∧ h.2.length ≤ 4) ∧
  R = fun D => ∃ p : Prices, D = dPr p ∧ (∃ Dn M a, PrOk Dn M a p) ∧ p.1.length = (b.getD 0 ([], [])).1.length ∧ p.2.1.length = (b.getD 0 ([], [])).2.length
theorem sc__law_a_prices : FnScope ["book", "cell", "picks", "far", "some", "k", "one", "bottom"] ["book", "cell"] (defScope (topS 26)) := ⟨rfl, rfl, rfl, by decide +kernel, rfl, by decide +kernel, by decide +kernel⟩
theorem ok__law_a_prices (T : Txt K mg) : Prom P w K mg base 3 "_law_a_prices" S__law_a_prices := by
  refine prom_mk T.d__law_a_prices sc__law_a_prices (fun _ _ _ _ _ _ us hl => match us, hl with | [_, _], _ => rfl) (fun As R Xs h => ?_) fun f cdv A outer s H E As R Xs h Z rz => ?_
  · obtain ⟨_, _, rfl, _⟩ := h; rfl
  · obtain ⟨b, c, rfl, hb1, hb4, rfl⟩ := h
    show Blk _ [.d false (dB b), .d false (.int c), .u, .u, .u, .u, .u, .u] _ _
    refine blk_set Z (n := 2) (by rfl) (Or.inl (by rfl)) (Or.inl rfl) (show 2 < 8 by decide) (ev_call (ok__law_draws T) (Z.hr.mono (by decide)) (args_d (ev_var (pv 1) rfl) (args_d ev_int (args_d (ev_powC 1000000 ev_int ev_int ⟨by decide, by decide, by decide⟩ (by decide)) args_nil))) ⟨c, 30, 1000000, rfl, by decide, by decide, by decide, rfl⟩) ?_
    have hl : (draws c 30 1000000).length = 30 := draws_len _ _ (by decide) _
    have hm := draws_mem c 1000000 (by decide) 30
    generalize draws c 30 1000000 = ps at hl hm
    have hg : ∀ k : Nat, k < 30 → 0 ≤ ps.getD k 0 ∧ ps.getD k 0 < 1000000 := fun k hk => hm _ (mem_getD (by omega) 0)
    have at_ : ∀ {k : Int}, 0 ≤ k → k < 30 → atI (ps.map PyData.int) k = some (.int (ps.getD k.toNat 0)) := fun h0 h1 => atI_map' 0 h0 (by omega)
    have f3 : 0 ≤ ps.getD 28 0 % 3 ∧ ps.getD 28 0 % 3 < 3 := by omega
    refine blk_set Z (n := 3) (by rfl) (Or.inl (by rfl)) (Or.inl rfl) (show 3 < 8 by decide) (ev_ixL (evo_lst (evs_cons ev_int (evs_cons ev_int (evs_cons (ev_powC 1000000 ev_int ev_int ⟨by decide, by decide, by decide⟩ (by decide)) evs_nil))) (show 3 ≤ sizeLine by decide)).bx.bw (ev_mod (ev_ixL (ev_var (pv 2) rfl).bx.bw ev_int (at_ (k := 28) (by decide) (by decide))) ev_int (by decide)) (atI_map' (f := .int) (xs := [9, 100, 1000000]) 0 f3.1 f3.2)) ?_
    have ff : 0 < ([9, 100, 1000000] : List Int).getD (ps.getD 28 0 % 3).toNat 0 ∧ ([9, 100, 1000000] : List Int).getD (ps.getD 28 0 % 3).toNat 0 ≤ 1000000 := by
      have := mem_getD (xs := ([9, 100, 1000000] : List Int)) (k := (ps.getD 28 0 % 3).toNat) (by simp; omega) 0
      simp only [List.mem_cons, List.not_mem_nil, or_false] at this
      omega
    show Blk _ [.d false (dB b), .d false (.int c), .d true (lInts ps), .d true (.int (([9, 100, 1000000] : List Int).getD (ps.getD 28 0 % 3).toNat 0)), .u, .u, .u, .u] _ _
    generalize ([9, 100, 1000000] : List Int).getD (ps.getD 28 0 % 3).toNat 0 = far at ff
    refine blk_setO Z (n := 4) (by rfl) (Or.inl (by rfl)) (Or.inl rfl) (show 4 < 8 by decide) (evo_lst evs_nil (show 0 ≤ sizeLine by decide)) ?_
    refine blk_for Z (is := [5]) (b := true) (src_range1 T.range ev_int (by decide) (by decide)) (fun k r => ∃ (qs : List Rat) (x y z : SV), r = [.d false (dB b), .d false (.int c), .d true (lInts ps), .d true (.int far), .o true (qs.map dF), x, y, z] ∧ qs.length = k ∧ ∀ q ∈ qs, SmallF q) ⟨[], _, _, _, rfl, rfl, by simp⟩ (fun k D r hD hI => ?_) (fun r hI => ?_)
    · obtain ⟨qs, x, y, z, rfl, hk, hq⟩ := hI
      have hk9 : k < 9 := by
        have := (List.getElem?_eq_some_iff.mp hD).1
        simpa [rangeD] using this
      obtain rfl : D = .int (0 + (k : Int)) := by
        unfold rangeD at hD
        rw [List.getElem?_map, List.getElem?_range (by simpa using hk9)] at hD
        exact (Option.some.inj hD).symm
      refine ⟨_, (tgt_name Z.nd (by rfl) (Or.inl (by rfl)) (show 5 < 8 by decide) (Or.inl rfl)), ?_⟩
      have g1 := hg (0 + (k : Int)).toNat (by omega)
      have g2 := hg (9 + (0 + (k : Int))).toNat (by omega)
      have g3 := hg (18 + (0 + (k : Int))).toNat (by omega)
      have m1 : 0 ≤ ps.getD (0 + (k : Int)).toNat 0 % far ∧ ps.getD (0 + (k : Int)).toNat 0 % far < far := ⟨Int.emod_nonneg _ (by omega), Int.emod_lt_of_pos _ (by omega)⟩
      have m2 : 0 ≤ ps.getD (9 + (0 + (k : Int))).toNat 0 % far ∧ ps.getD (9 + (0 + (k : Int))).toNat 0 % far < far := ⟨Int.emod_nonneg _ (by omega), Int.emod_lt_of_pos _ (by omega)⟩
      refine blk_set Z (n := 6) (by rfl) (Or.inl (by rfl)) (Or.inl rfl) (show 6 < 8 by decide) (ev_call (ok__law_low T) (Z.hr.mono (by decide)) (args_d (ev_mod (ev_ixL (ev_var (pv 2) rfl).bx.bw (ev_var (pv 5) rfl) (at_ (by omega) (by omega))) (ev_var (pv 3) rfl) ff.1) (args_d (ev_add ev_int (ev_mod (ev_ixL (ev_var (pv 2) rfl).bx.bw (ev_add ev_int (ev_var (pv 5) rfl)) (at_ (by omega) (by omega))) (ev_var (pv 3) rfl) ff.1)) args_nil)) ⟨_, _, rfl, by omega, Nat.lt_of_lt_of_le (show _ < 2 ^ 120 by omega) (pow_le' (by decide)), rfl⟩) ?_
      refine blk_ifJ (fun r => ∃ (q : Rat) (z : SV), r = [.d false (dB b), .d false (.int c), .d true (lInts ps), .d true (.int far), .o true (qs.map dF), .d true (.int (0 + (k : Int))), .d true (dF q), z] ∧ SmallF q) (ec_eqI (ev_mod (ev_ixL (ev_var (pv 2) rfl).bx.bw ev_int (at_ (k := 29) (by decide) (by decide))) ev_int (by decide)) ev_int).t (fun hc => ?_) (fun hc => ?_) ?_
      · refine blk_set Z (n := 7) (by rfl) (Or.inl (by rfl)) (Or.inl rfl) (show 7 < 8 by decide) (ev_add (ev_mul (ev_ixL (ev_var (pv 2) rfl).bx.bw (ev_add ev_int (ev_var (pv 5) rfl)) (at_ (by omega) (by omega))) (ev_powC 1000000000000000000000000000000 ev_int ev_int ⟨by decide, by decide, by decide⟩ (by decide)) (mulL (by omega))) ev_int) ?_
        refine blk_set Z (n := 6) (by rfl) (Or.inl (by rfl)) (Or.inl rfl) (show 6 < 8 by decide) (ev_call (ok__law_low T) (Z.hr.mono (by decide)) (args_d (ev_add (ev_mul (ev_ixL (ev_var (pv 2) rfl).bx.bw (ev_var (pv 5) rfl) (at_ (by omega) (by omega))) (ev_powC 10000000000000000000000000000000000 ev_int ev_int ⟨by decide, by decide, by decide⟩ (by decide)) (mulL (by omega))) (ev_ixL (ev_var (pv 2) rfl).bx.bw (ev_add ev_int (ev_var (pv 5) rfl)) (at_ (by omega) (by omega)))) (args_d (ev_var (pv 7) rfl) args_nil)) ⟨_, _, rfl, by omega, Nat.lt_of_lt_of_le (show _ < 2 ^ 120 by omega) (pow_le' (by decide)), rfl⟩) ?_
        exact blk_nil ⟨_, _, rfl, smallF_divInt (by omega) (by omega) (by omega)⟩
      · exact blk_nil ⟨_, _, rfl, smallF_divInt (by omega) (by omega) (by omega)⟩
      rintro r ⟨q, z, rfl, hqs⟩
      refine blk_ifJ (fun r => ∃ (q : Rat), r = [.d false (dB b), .d false (.int c), .d true (lInts ps), .d true (.int far), .o true (qs.map dF), .d true (.int (0 + (k : Int))), .d true (dF q), z] ∧ SmallF q) (evw_or (ec_eqI (ev_mod (ev_ixL (ev_var (pv 2) rfl).bx.bw (ev_add ev_int (ev_var (pv 5) rfl)) (at_ (by omega) (by omega))) ev_int (by decide)) ev_int).t (fun h18 => (evw_or1 (evw_and (ec_eqI (ev_mod (ev_ixL (ev_var (pv 2) rfl).bx.bw ev_int (at_ (k := 29) (by decide) (by decide))) ev_int (by decide)) ev_int).t (fun h19 => (evw_and1 (ec_lt (ev_var (pv 5) rfl) ev_int).t))).t))).t (fun hc => ?_) (fun hc => ?_) ?_
      · refine blk_set Z (n := 6) (by rfl) (Or.inl (by rfl)) (Or.inl rfl) (show 6 < 8 by decide) (Ev.flat (b' := true) (ev_tup (evs_cons ev_int (evs_cons ev_int evs_nil)) (show 2 ≤ sizeLine by decide)) rfl) ?_
        exact blk_nil ⟨0, rfl, by decide, by decide⟩
      · exact blk_nil ⟨q, rfl, hqs⟩
      rintro r ⟨q, rfl, hqs⟩
      refine blk_append (n := 4) (pv 4) rfl (ev_var (pv 6) rfl) (small' (m := 9) (by rw [List.length_map]; omega)) ?_ (ps_append (pv 4))
      refine blk_nil ⟨qs ++ [q], _, _, _, by rw [List.map_append]; rfl, by simp [hk], fun x hx => ?_⟩
      rcases List.mem_append.mp hx with hx | hx
      · exact hq x hx
      · rw [List.mem_singleton] at hx; subst hx; exact hqs
    · obtain ⟨qs, x, y, z, rfl, hk, hq⟩ := hI
      have hk : qs.length = 9 := by rw [hk]; simp [rangeD]
      have hq8 : SmallF (qs.getD 8 0) := hq _ (by rw [List.getD, List.getElem?_eq_getElem (by omega)]; exact List.getElem_mem _)
      refine blk_ifJ (fun r => ∃ (qs : List Rat), r = [.d false (dB b), .d false (.int c), .d true (lInts ps), .d true (.int far), .o true (qs.map dF), x, y, z] ∧ qs.length = 9 ∧ ∀ q ∈ qs, SmallF q) (ec_eqI (ev_mod (ev_ixL (ev_var (pv 2) rfl).bx.bw ev_int (at_ (k := 27) (by decide) (by decide))) ev_int (by decide)) ev_int).t (fun hc => ?_) (fun hc => ?_) ?_
      · have a8 : atI (qs.map dF) 8 = some (dF (qs.getD 8 0)) := atI_map' 0 (by decide) (by omega)
        refine blk_setIx (n := 4) (pv 4) rfl ev_int (Ev.flat (b' := true) (ev_tup (evs_cons (ev_sub ev_int (ev_ixT (ev_ixL (bx_var (pv 4) rfl).bw ev_int a8) ev_int rfl)) (evs_cons (ev_ixT (ev_ixL (bx_var (pv 4) rfl).bw ev_int a8) ev_int rfl) evs_nil)) (show 2 ≤ sizeLine by decide)) rfl) (ixN_in (k := 8) (by decide) (by rw [List.length_map, hk]; decide)) ?_
        refine blk_nil ⟨qs.set 8 (- qs.getD 8 0), by rw [List.map_set]; rw [Int.zero_sub]; rfl, by simp [hk], fun q hq' => ?_⟩
        rcases List.mem_or_eq_of_mem_set hq' with h | h
        · exact hq q h
        · rw [h]; exact ⟨by show (-(qs.getD 8 0).num).natAbs < _; rw [Int.natAbs_neg]; exact hq8.1, hq8.2⟩
      · exact blk_nil ⟨qs, rfl, hk, hq⟩
      rintro r ⟨qs, rfl, hk, hq⟩
      have hb0 := hb4 (b.getD 0 ([], [])) (by rw [List.getD, List.getElem?_eq_getElem (by omega)]; exact List.getElem_mem _)
      have a0 : atI (b.map dH) 0 = some (dH (b.getD 0 ([], []))) := atI_map' ([], []) (by decide) (by omega)
      generalize b.getD 0 ([], []) = g at hb0 a0
      have a8 : atI (qs.map dF) 8 = some (dF (qs.getD 8 0)) := atI_map' 0 (by decide) (by omega)
      refine blk_ret (ev_tup (evs_cons (evo_slL (bx_var (pv 4) rfl).bw eo_none (eo_some (ev_lenT T.len (ev_ixT (ev_ixL (ev_var (pv 0) rfl).bx.bw ev_int a0) ev_int rfl)))).ev (evs_cons (evo_slL (bx_var (pv 4) rfl).bw (eo_some ev_int) (eo_some (ev_add ev_int (ev_lenT T.len (ev_ixT (ev_ixL (ev_var (pv 0) rfl).bx.bw ev_int a0) ev_int rfl))))).ev (evs_cons (ev_ixL (bx_var (pv 4) rfl).bw ev_int a8) evs_nil))) (show 3 ≤ sizeLine by decide)) ?_
      obtain ⟨Dn, d0, d1, d2⟩ := cd_common (n := 133) (m := 120) qs hq
      rw [hk] at d1
      have hD : Dn < 2 ^ 1215 := Nat.lt_of_le_of_lt d1 (Nat.pow_lt_pow_right (by decide) (by decide))
      have hM : 2 ^ 133 * Dn < 2 ^ 1215 := Nat.lt_of_le_of_lt (Nat.mul_le_mul_left _ d1) (by rw [← Nat.pow_add]; exact Nat.pow_lt_pow_right (by decide) (by decide))
      refine ⟨(qs.take g.1.length, (qs.drop 4).take g.2.length, qs.getD 8 0), ?_, ⟨Dn, 2 ^ 133 * Dn, 1215, d0, fun q h => d2 q (List.mem_of_mem_take h), fun q h => d2 q (List.mem_of_mem_drop (List.mem_of_mem_take h)), d2 _ (by rw [List.getD, List.getElem?_eq_getElem (by omega)]; exact List.getElem_mem _), hD, hM, by decide, by decide⟩, ?_, ?_⟩
      · rw [List.length_map, List.length_map]
        have c1 := cutF0 (qs := qs) (n := g.1.length) (by omega)
        have c2 := cutF (qs := qs) (n := 4) (m := 4 + g.2.length) (by omega) (by omega)
        have e4 : (4 : Int) + (g.2.length : Int) = ((4 + g.2.length : Nat) : Int) := by omega
        rw [e4, c1]
        rw [show (4 : Int) = ((4 : Nat) : Int) from rfl, c2]
        rw [show 4 + g.2.length - 4 = g.2.length by omega]
      · show (qs.take g.1.length).length = _
        rw [List.length_take]; omega
      · show ((qs.drop 4).take g.2.length).length = _
        rw [List.length_take, List.length_drop]; omega
end
end Rk

namespace Rk
open PySem PySem.Spec PyProof.Rows L2
section
variable {P : Program} {w : World} {K : PySem.W.Frag} {mg : Str → Option Value} {base : Heap}
def S__law_sum : Spec := fun As R Xs => ∃ (t : Bool) (ns : List Int) (qs : List Rat) (D M a : Nat), As = [.d false (seqD t (ns.map .int)), .d false (lQ qs)] ∧ D ≠ 0 ∧ (∀ n ∈ ns, n.natAbs < 2 ^ 32) ∧ (∀ q ∈ qs, Cd D M q) ∧ min ns.length qs.length ≤ 31 ∧ D < 2 ^ a ∧ M < 2 ^ a ∧ 0 < a ∧ a ≤ 3900 ∧ R = (· = dF (dotQ ns qs))
theorem sc__law_sum : FnScope ["numbers", "parts", "top", "bottom", "number", "part", "many"] ["numbers", "parts"] (defScope (topS 24)) := ⟨rfl, rfl, rfl, by decide +kernel, rfl, by decide +kernel, by decide +kernel⟩
theorem ok__law_sum (T : Txt K mg) : Prom P w K mg base 3 "_law_sum" S__law_sum := by
  refine prom_mk T.d__law_sum sc__law_sum (fun _ _ _ _ _ _ us hl => match us, hl with | [_, _], _ => rfl) (fun As R Xs h => ?_) fun f cdv A outer s H E As R Xs h Z rz => ?_
  · obtain ⟨_, _, _, _, _, _, rfl, _⟩ := h; rfl
  · obtain ⟨t, ns, qs, D, M, a, rfl, h0, hn, hq, hl, hDa, hM, ha0, ha, rfl⟩ := h
    show Blk _ [.d false (seqD t (ns.map .int)), .d false (lQ qs), .u, .u, .u, .u, .u] _ _
    have hcd : ∀ k, Cd D (min ns.length qs.length * (2 ^ 32 * M)) (dotQ (ns.take k) (qs.take k)) := fun k => (dotQ_cd (N := 2 ^ 32) h0 (fun n h => Nat.le_of_lt (hn n (List.mem_of_mem_take h))) (fun q h => hq q (List.mem_of_mem_take h))).le (Nat.mul_le_mul_right _ (by rw [List.length_take, List.length_take]; omega))
    have hbig : min ns.length qs.length * (2 ^ 32 * M) < 2 ^ (a + 37) := by
      have e : 2 ^ (a + 37) = 32 * (2 ^ 32 * 2 ^ a) := by rw [Nat.pow_add]; omega
      rw [e]
      have : min ns.length qs.length * (2 ^ 32 * M) ≤ 31 * (2 ^ 32 * M) := Nat.mul_le_mul_right _ hl
      omega
    generalize min ns.length qs.length * (2 ^ 32 * M) = M' at hcd hbig
    refine blk_set Z (n := 2) (by rfl) (Or.inl (by rfl)) (Or.inl rfl) (show 2 < 7 by decide) ev_int ?_
    refine blk_set Z (n := 3) (by rfl) (Or.inl (by rfl)) (Or.inl rfl) (show 3 < 7 by decide) ev_int ?_
    refine blk_for Z (is := [4, 5]) (src_zipS (t := t) T.zip (ev_var (pv 0) rfl) (ev_var (pv 1) rfl)) (fun k r => ∃ (u b : Int) (x y z : SV), r = [.d false (seqD t (ns.map .int)), .d false (lQ qs), .d true (.int u), .d true (.int b), x, y, z] ∧ Sm D M' (dotQ (ns.take k) (qs.take k)) u b) ⟨0, 1, _, _, _, rfl, by decide, by simp, rfl, Nat.zero_le _⟩ (fun k D0 r hD hI => ?_) (fun r hI => ?_)
    · obtain ⟨u, b, x, y, z, rfl, S⟩ := hI
      obtain ⟨n, q, en, eq, rfl⟩ := zip_dF hD
      have mn : n ∈ ns := List.mem_of_getElem? en
      have mq : q ∈ qs := List.mem_of_getElem? eq
      have wq : Wd a q := (hq q mq).wd hDa hM
      have q0 := q.den_pos
      have b0 := S.b0
      have wb : b.natAbs < 2 ^ a := Nat.lt_of_le_of_lt (Nat.le_of_dvd (by omega) S.dv) hDa
      have wu : u.natAbs < 2 ^ (a + 37) := Nat.lt_of_le_of_lt S.tm hbig
      refine ⟨_, (tgt_tup Z.calm (.cons (tgt_name Z.nd (by rfl) (Or.inl (by rfl)) (show 4 < 7 by decide) (Or.inl rfl)) (.cons (tgt_name Z.nd (by rfl) (Or.inl (by rfl)) (show 5 < 7 by decide) (Or.inl rfl)) .nil (by rfl)) (by rfl)) (by rfl) (by rfl)), ?_⟩
      have eb : b = (b.natAbs : Int) := by omega
      refine blk_set Z (n := 6) (by rfl) (Or.inl (by rfl)) (Or.inl rfl) (show 6 < 7 by decide) (ev_call (ok__law_common T) (Z.hr.mono (by decide)) (args_d (ev_var (pv 3) rfl) (args_d (ev_ixT (ev_var (pv 5) rfl) ev_int rfl) args_nil)) ⟨b.natAbs, q.den, by rw [← eb], rfl⟩) ?_
      have g0 : 0 < Nat.gcd b.natAbs q.den := Nat.gcd_pos_of_pos_right _ q0
      have gl : (Nat.gcd b.natAbs q.den : Int).natAbs < 2 ^ 9000 := by
        have h1 := Nat.le_of_dvd (by omega) (Nat.gcd_dvd_left b.natAbs q.den)
        have h2 := pow_le' (show a ≤ 9000 by omega)
        rw [Int.natAbs_natCast]
        exact Nat.lt_of_le_of_lt h1 (Nat.lt_of_lt_of_le wb h2)
      have wbg : (b / (Nat.gcd b.natAbs q.den : Int)).natAbs < 2 ^ a := Nat.lt_of_le_of_lt (Int.natAbs_ediv_le_natAbs _ _) wb
      have wqg : ((q.den : Int) / (Nat.gcd b.natAbs q.den : Int)).natAbs < 2 ^ a := Nat.lt_of_le_of_lt (Int.natAbs_ediv_le_natAbs _ _) (natAbs_ofNat wq.2)
      have Sn := S.step (n := n) (q := q) (M' := M') (cd_den (hq q mq)).1 rfl (by rw [← dotQ_snoc en eq]; exact hcd (k + 1))
      generalize Nat.gcd b.natAbs q.den = g at g0 gl wbg wqg Sn
      have wnq : (n * q.num).natAbs < 2 ^ (32 + a) := by rw [Int.natAbs_mul]; exact lt_mul_pow (hn n mn) wq.1
      refine blk_set Z (n := 2) (by rfl) (Or.inl (by rfl)) (Or.inl rfl) (show 2 < 7 by decide) (ev_add (ev_mul (ev_var (pv 2) rfl) (ev_fdiv (ev_ixT (ev_var (pv 5) rfl) ev_int rfl) (ev_var (pv 6) rfl) (by omega) (pyW gl (by decide) (by decide))) (mulW wu wqg (by omega) (by omega) (by omega))) (ev_mul (ev_mul (ev_var (pv 4) rfl) (ev_ixT (ev_var (pv 5) rfl) ev_int rfl) (mulW (hn n mn) wq.1 (by omega) (by omega) (by omega))) (ev_fdiv (ev_var (pv 3) rfl) (ev_var (pv 6) rfl) (by omega) (pyW gl (by decide) (by decide))) (mulW wnq wbg (by omega) (by omega) (by omega)))) ?_
      refine blk_set Z (n := 3) (by rfl) (Or.inl (by rfl)) (Or.inl rfl) (show 3 < 7 by decide) (ev_mul (ev_fdiv (ev_var (pv 3) rfl) (ev_var (pv 6) rfl) (by omega) (pyW gl (by decide) (by decide))) (ev_ixT (ev_var (pv 5) rfl) ev_int rfl) (mulW wbg (natAbs_ofNat wq.2) (by omega) (by omega) (by omega))) ?_
      exact blk_nil ⟨_, _, _, _, _, rfl, by rw [dotQ_snoc en eq]; exact Sn⟩
    · obtain ⟨u, b, x, y, z, rfl, S⟩ := hI
      have b0 := S.b0
      have wb : b.natAbs < 2 ^ 9000 := Nat.lt_of_le_of_lt (Nat.le_of_dvd (by omega) S.dv) (Nat.lt_of_lt_of_le hDa (pow_le' (by omega)))
      refine blk_ret (ev_call (ok__law_low T) (Z.hr.mono (by decide)) (args_d (ev_var (pv 2) rfl) (args_d (ev_var (pv 3) rfl) args_nil)) ⟨u, b, rfl, by omega, wb, rfl⟩) ?_
      show dF _ = dF _
      rw [S.eq, dotQ_full (by rw [zipD_len, List.length_map, List.length_map]; exact Nat.le_refl _)]
end
end Rk

namespace Rk
open PySem PySem.Spec PyProof.Rows L2
section
variable {P : Program} {w : World} {K : PySem.W.Frag} {mg : Str → Option Value} {base : Heap}
def S__law_judged : Spec := fun As R Xs => ∃ (h : House) (p : Prices) (D M a : Nat), As = [.d false (dH h), .d false (dPr p)] ∧ HOk h ∧ h.2.length ≤ 30 ∧ h.2.length = p.2.1.length ∧ PrOk D M a p ∧ R = (· = oF (judQ h p))
theorem sc__law_judged : FnScope ["house", "prices", "pays", "earns"] ["house", "prices"] (defScope (topS 27)) := ⟨rfl, rfl, rfl, by decide +kernel, rfl, by decide +kernel, by decide +kernel⟩
theorem ok__law_judged (T : Txt K mg) : Prom P w K mg base 4 "_law_judged" S__law_judged := by
  refine prom_mk T.d__law_judged sc__law_judged (fun _ _ _ _ _ _ us hl => match us, hl with | [_, _], _ => rfl) (fun As R Xs h => ?_) fun f cdv A outer s H E As R Xs h Z rz => ?_
  · obtain ⟨_, _, _, _, _, rfl, _⟩ := h; rfl
  · obtain ⟨h, p, D, M, a, rfl, G, h30, hlen, P, rfl⟩ := h
    have a9 := P.a9
    have a0 := P.a0
    have w1 := P.w1 G
    have w4 := P.w4 G
    have eE : dotQ (h.2 ++ [1]) (p.2.1 ++ [p.2.2]) = earnQ h p := by
      rw [dotQ_app hlen]
      unfold earnQ
      congr 1
      rw [show ((1 : Int) : Rat) = 1 from rfl, Rat.one_mul]
    show Blk _ [.d false (dH h), .d false (dPr p), .u, .u] _ _
    refine blk_set Z (n := 2) (by rfl) (Or.inl (by rfl)) (Or.inl rfl) (show 2 < 4 by decide) (ev_call (ok__law_sum T) (Z.hr.mono (by decide)) (args_d (ev_ixT (ev_var (pv 0) rfl) ev_int rfl) (args_d (ev_ixT (ev_var (pv 1) rfl) ev_int rfl) args_nil)) ⟨true, h.1, p.1, D, M, a, rfl, P.d0, G.n1, P.c1, by have := G.l1; omega, P.hD, P.hM, a0, by omega, rfl⟩) ?_
    refine blk_set Z (n := 3) (by rfl) (Or.inl (by rfl)) (Or.inl rfl) (show 3 < 4 by decide) (ev_call (ok__law_sum T) (Z.hr.mono (by decide)) (args_x (evo_cat (evo_listT T.list (ev_ixT (ev_var (pv 0) rfl) ev_int rfl)).bx (evo_lst (evs_cons ev_int evs_nil) (show 1 ≤ sizeLine by decide)).bx (small (m := 40) (by simp only [List.length_map, List.length_cons, List.length_nil]; omega))).bx (args_x (evo_cat (ev_ixT (ev_var (pv 1) rfl) ev_int rfl).bx (evo_lst (evs_cons (ev_ixT (ev_var (pv 1) rfl) ev_int rfl) evs_nil) (show 1 ≤ sizeLine by decide)).bx (small (m := 40) (by simp only [List.length_map, List.length_cons, List.length_nil]; omega))).bx args_nil)) ⟨false, h.2 ++ [1], p.2.1 ++ [p.2.2], D, M, a, by rw [List.map_append]; rw [lQ, List.map_append]; rfl, P.d0, fun n hn => ?n2, fun q hq => ?c2, by simp only [List.length_append, List.length_cons, List.length_nil]; omega, P.hD, P.hM, a0, by omega, rfl⟩) ?_
    case n2 =>
      rcases List.mem_append.mp hn with z | z
      · exact G.n2 n z
      · rw [List.mem_singleton] at z; subst z; decide
    case c2 =>
      rcases List.mem_append.mp hq with z | z
      · exact P.c2 q z
      · rw [List.mem_singleton] at z; subst z; exact P.c3
    rw [eE]
    show Blk _ [.d false (dH h), .d false (dPr p), .d true (dF (paidQ h p)), .d true (dF (earnQ h p))] _ _
    refine blk_ifR (ec_eqD Z.u64 (ev_var (pv 2) rfl) (ev_tup (evs_cons ev_int (evs_cons ev_int evs_nil)) (show 2 ≤ sizeLine by decide)) (shaped_of rfl (by simp [PyData.depth, PyData.depthAll])) (shaped_of rfl (by simp [PyData.depth, PyData.depthAll]))).t (fun hc => ?_) (fun hc => ?_)
    · have e := dF_inj.mp ((eqv_iff (y := dF 0) rfl rfl rfl).mp hc)
      refine blk_ret ev_non ?_
      show PyData.none = oF (judQ h p)
      unfold judQ
      rw [if_pos e]; rfl
    have hp : paidQ h p ≠ 0 := fun z => by
      rw [z] at hc
      exact absurd (PySem.SeqAt.eqv_refl (dF 0) rfl) (Bool.eq_false_iff.mp hc)
    have hn : (paidQ h p).num ≠ 0 := fun z => hp (num_zero.mp z)
    have pe := (earnQ h p).den_pos
    refine blk_ret (ev_call (ok__law_low T) (Z.hr.mono (by decide)) (args_d (ev_mul (ev_ixT (ev_var (pv 3) rfl) ev_int rfl) (ev_ixT (ev_var (pv 2) rfl) ev_int rfl) (mulW w4.1 (natAbs_ofNat w1.2) (by omega) (by omega) (by omega))) (args_d (ev_mul (ev_ixT (ev_var (pv 3) rfl) ev_int rfl) (ev_ixT (ev_var (pv 2) rfl) ev_int rfl) (mulW (natAbs_ofNat w4.2) w1.1 (by omega) (by omega) (by omega))) args_nil)) ⟨_, _, rfl, Int.mul_ne_zero (by omega) hn, Nat.lt_of_lt_of_le (div_num_lt w4 w1).2 (pow_le' (by omega)), rfl⟩) ?_
    show dF _ = oF (judQ h p)
    unfold judQ
    rw [if_neg hp, divInt_div]; rfl
end
end Rk

namespace Rk
open PySem PySem.Spec PyProof.Rows L2
section
variable {P : Program} {w : World} {K : PySem.W.Frag} {mg : Str → Option Value} {base : Heap}
def isSm (js : List (Option Rat)) (i : Nat) : Bool := (js.getD i none).isSome
def smIx (js : List (Option Rat)) : List Nat := (List.range js.length).filter (isSm js)
def lessO : Option Rat → Option Rat → Bool
  | some x, some y => decide (x < y)
  | _, _ => false
def gdIx (js : List (Option Rat)) (k : Nat) : Bool := ((smIx js).filter fun j => lessO (js.getD k none) (js.getD j none)).isEmpty
theorem zipIdx_range (js : List (Option Rat)) : js.zipIdx = (List.range js.length).map fun i => (js.getD i none, i) := by
  refine List.ext_getElem? fun i => ?_
  rw [List.getElem?_zipIdx, List.getElem?_map]
  by_cases h : i < js.length
  · rw [List.getElem?_range h, List.getElem?_eq_getElem h]
    simp [List.getD, h]
  · rw [List.getElem?_eq_none (by omega), List.getElem?_eq_none (by rw [List.length_range]; omega)]
    rfl
theorem gd_top {js : List (Option Rat)} {k : Nat} (h : k ∈ smIx js) : gdIx js k = decide (js.getD k none = topQ js) := by
  have hk : k < js.length ∧ isSm js k = true := by simpa [smIx] using h
  obtain ⟨q, e⟩ := Option.isSome_iff_exists.mp hk.2
  have mq : some q ∈ js := by
    rw [← e, List.getD, List.getElem?_eq_getElem hk.1]; exact List.getElem_mem _
  cases et : topQ js with
  | none => exact absurd (topQ_none et _ mq) (by simp)
  | some m =>
    obtain ⟨m1, m2⟩ := topQ_some et
    obtain ⟨j, hj, ej⟩ := List.getElem_of_mem m1
    have ej' : js.getD j none = some m := by rw [List.getD, List.getElem?_eq_getElem hj, ej]; rfl
    rw [e]
    by_cases z : q = m
    · subst z
      rw [decide_eq_true rfl]
      unfold gdIx
      rw [List.isEmpty_iff, List.filter_eq_nil_iff]
      intro i hi hl
      have hi' : i < js.length ∧ isSm js i = true := by simpa [smIx] using hi
      obtain ⟨r, er⟩ := Option.isSome_iff_exists.mp hi'.2
      rw [e, er] at hl
      have mr : some r ∈ js := by rw [← er, List.getD, List.getElem?_eq_getElem hi'.1]; exact List.getElem_mem _
      exact absurd (of_decide_eq_true hl) (Rat.not_lt.mpr (m2 r mr))
    · rw [decide_eq_false (by simpa using z)]
      refine Bool.eq_false_iff.mpr fun c => ?_
      unfold gdIx at c
      rw [List.isEmpty_iff, List.filter_eq_nil_iff] at c
      refine c j (by unfold smIx isSm; simp only [List.mem_filter, List.mem_range]; exact ⟨hj, by rw [ej']; rfl⟩) ?_
      rw [e, ej']
      show decide (q < m) = true
      rw [decide_eq_true_eq]
      have := m2 q mq
      exact Rat.lt_of_le_of_ne this z
theorem topIx_eq (js : List (Option Rat)) : (((smIx js).filter (gdIx js)).map fun i : Nat => (i : Int)) = topIx js := by
  unfold topIx
  rw [zipIdx_range, List.filter_map, List.map_map]
  have e : (smIx js).filter (gdIx js) = (smIx js).filter fun k => decide (js.getD k none = topQ js) := List.filter_congr fun k hk => gd_top hk
  rw [e]
  unfold smIx
  rw [List.filter_filter]
  congr 1
  refine List.filter_congr fun k hk => ?_
  show _ = ((js.getD k none).isSome && _)
  rw [Bool.and_comm]
  rfl
theorem sc_law : FnScope ["script", "book", "cell", "prices", "handed", "due", "found", "best", "some", "good", "k", "house", "one", "j"] ["script"] (defScope (topS 28)) := ⟨rfl, rfl, rfl, by decide +kernel, rfl, by decide +kernel, by decide +kernel⟩
theorem depth_dFs : ∀ qs : List Rat, PyData.depthAll (qs.map dF) ≤ 1
  | [] => by simp [PyData.depthAll]
  | q :: qs => by
    have := depth_dFs qs
    simp only [List.map_cons, PyData.depthAll, PyData.depth]
    omega
theorem canLay_dFs (qs : List Rat) : PyData.canLayAll0 (qs.map dF) = true := canLayAll_of (fun q => canLay_dF q) qs
theorem canLay_dPr (p : Prices) : (dPr p).canLay0 = true := by
  simp only [dPr, lQ, PyData.canLay0, PyData.canLayAll0, canLay_dFs, Bool.and_self]
theorem depth_dPr (p : Prices) : (dPr p).depth ≤ 3 := by
  have h1 := depth_dFs p.1
  have h2 := depth_dFs p.2.1
  simp only [dPr, lQ, PyData.depth, PyData.depthAll]
  omega
theorem canLay_bp (b : List House) (p : Prices) : (PyData.tuple [dB b, dPr p]).canLay0 = true := by
  have h1 := canLay_dB b
  have h2 := canLay_dPr p
  rw [PyData.canLay0, PyData.canLayAll0, PyData.canLayAll0, h1, h2]
  rfl
theorem shaped_bp (b : List House) (p : Prices) : SeqAt.shaped (.tuple [dB b, dPr p]) = true := by
  refine shaped_of (canLay_bp b p) ?_
  have h1 := depth_dHs b
  have h2 := depth_dPr p
  have h3 : (dB b).depth ≤ 3 := by simp only [PyData.depth]; omega
  rw [PyData.depth, PyData.depthAll, PyData.depthAll]
  simp only [PyData.depthAll]
  omega
theorem canLay_oFs (js : List (Option Rat)) : PyData.canLayAll0 (js.map oF) = true := canLayAll_of (fun q => canLay_oF q) js
theorem shaped_oFs (js : List (Option Rat)) : SeqAt.shaped (.list (js.map oF)) = true := by
  have d : ∀ js : List (Option Rat), PyData.depthAll (js.map oF) ≤ 1 := fun js => by
    induction js with
    | nil => simp [PyData.depthAll]
    | cons o js ih =>
      have : (oF o).depth ≤ 1 := by cases o <;> simp [oF, PyData.depth, PyData.depthAll]
      simp only [List.map_cons, PyData.depthAll]
      omega
  refine shaped_of (canLay_list (canLay_oFs js)) ?_
  have := d js
  simp only [PyData.depth]
  omega
theorem shaped_ints (ns : List Int) : SeqAt.shaped (lInts ns) = true := by
  refine shaped_of (canLay_list (canLay_ints ns)) ?_
  have := depth_ints ns
  simp only [lInts, PyData.depth]
  omega
theorem shaped_idx (xs : List Nat) : SeqAt.shaped (.list (xs.map fun i => .int ((i : Nat) : Int))) = true := by
  have e : (xs.map fun i => PyData.int ((i : Nat) : Int)) = (xs.map fun i => ((i : Nat) : Int)).map .int := by rw [List.map_map]; rfl
  rw [e]; exact shaped_ints _
theorem eqv_idx_nil (xs : List Nat) : PyData.eqv (.list (xs.map fun i => .int ((i : Nat) : Int))) (.list []) = xs.isEmpty := by
  cases xs <;> simp [PyData.eqv, PyData.eqvAll]
theorem flat_oFs : ∀ js : List (Option Rat), Rk.flat.flatAll (js.map oF) = true
  | [] => rfl
  | o :: js => by simp only [List.map_cons, Rk.flat.flatAll, flat_oF, flat_oFs js, Bool.and_self]
theorem ok_law (T : Txt K mg) : LawOk P w K mg 9 := by
  refine law_mk T.d_law sc_law (fun _ _ _ _ _ _ us hl => match us, hl with | [_], _ => rfl) fun base f cdv A outer s H E ns hns Z => ?_
  show Blk _ [.s ns, .u, .u, .u, .u, .u, .u, .u, .u, .u, .u, .u, .u, .u] _ _
  refine blk_setR Z (n := 1) (by rfl) (Or.inl (by rfl)) (Or.inl rfl) (show 1 < 14 by decide) (evr_call (ok__law_a_book T) (Z.hr.mono (by decide)) (args_s (pv 0) rfl (args_d ev_int (args_d ev_int (args_d (ev_powC 1000000000 ev_int ev_int ⟨by decide, by decide, by decide⟩ (by decide)) args_nil)))) ⟨ns, 0, 12, 1000000000, rfl, by decide, by decide, by decide, by decide, by decide, rfl⟩) ?_
  rintro D ⟨b, rfl, G⟩
  have hb1 : 1 ≤ b.length := List.length_pos_iff.mpr G.ne
  have hb12 : b.length ≤ 12 := G.le
  obtain ⟨m, n, m1, m4, n1, n4, hG⟩ := G.hs
  have hOk : ∀ h ∈ b, HOk h := fun h hh => (hG h hh).1.hok (by decide)
  have hb4 : ∀ h ∈ b, h.1.length ≤ 4 ∧ h.2.length ≤ 4 := fun h hh => by have := hG h hh; omega
  have hn2 : (b.getD 0 ([], [])).2.length = n := (hG _ (by rw [List.getD, List.getElem?_eq_getElem (by omega)]; exact List.getElem_mem _)).2.2
  have ecut : ∃ xs : List Int, cutD (ns.map PyData.int) (some 3) (some 10) = xs.map .int ∧ xs.length ≤ 63 := by
    unfold cutD
    rw [← List.map_drop, ← List.map_take]
    exact ⟨_, rfl, by rw [List.length_take, List.length_drop]; omega⟩
  obtain ⟨xs, ecut, hxs⟩ := ecut
  refine blk_for Z (is := [2]) (src_list (evo_cat (evo_lst (evs_cons (ev_call (ok__law_cell_at T) (Z.hr.mono (by decide)) (args_s (pv 0) rfl (args_d ev_int args_nil)) ⟨ns, 2, rfl, by decide, rfl⟩) evs_nil) (show 1 ≤ sizeLine by decide)).bx (evo_slL (bw_scr (pv 0) rfl) (eo_some ev_int) (eo_some ev_int)).bx (by rw [ecut, List.length_map]; exact small (m := 64) (by simp only [List.length_cons, List.length_nil]; omega))).ev) (fun n r => ∃ x1 x2 x3 x4 x5 x6 x7 x8 x9 y1 y2 y3 : SV, r = [.s ns, .d true (dB b), x1, x2, x3, x4, x5, x6, x7, x8, x9, y1, y2, y3]) ⟨_, _, _, _, _, _, _, _, _, _, _, _, rfl⟩ (fun k D r hD hI => ?_) (fun r hI => ?_)
  · obtain ⟨x1, x2, x3, x4, x5, x6, x7, x8, x9, y1, y2, y3, rfl⟩ := hI
    have hD2 : ∃ c : Int, D = .int c := by
      rw [ecut] at hD
      rcases List.mem_append.mp (List.mem_of_getElem? hD) with z | z
      · rw [List.mem_singleton] at z; exact ⟨_, z⟩
      · obtain ⟨c, _, z⟩ := List.mem_map.mp z; exact ⟨c, z.symm⟩
    obtain ⟨c, rfl⟩ := hD2
    refine ⟨_, (tgt_name Z.nd (by rfl) (Or.inl (by rfl)) (show 2 < 14 by decide) (Or.inl rfl)), ?_⟩
    refine blk_setR Z (n := 3) (by rfl) (Or.inr (by rfl)) (Or.inl rfl) (show 3 < 14 by decide) (evr_call (ok__law_a_prices T) (Z.hr.mono (by decide)) (args_d (ev_var (pv 1) rfl) (args_d (ev_var (pv 2) rfl) args_nil)) ⟨b, c, rfl, hb1, hb4, rfl⟩) ?_
    rintro D ⟨p, rfl, ⟨Dn, M, a, PO⟩, hp1, hp2⟩
    have hp2' : ∀ h ∈ b, h.2.length = p.2.1.length := fun h hh => by rw [hp2, hn2]; exact (hG h hh).2.2
    refine blk_set Z (n := 4) (by rfl) (Or.inl (by rfl)) (Or.inl rfl) (show 4 < 14 by decide) (ev_tup (evs_cons (evo_listL T.list (ev_var (pv 1) rfl).bx.bw).ev (evs_cons (ev_tup (evs_cons (evo_listL T.list (ev_ixT (ev_var (pv 3) rfl) ev_int rfl).bx.bw).ev (evs_cons (evo_listL T.list (ev_ixT (ev_var (pv 3) rfl) ev_int rfl).bx.bw).ev (evs_cons (ev_ixT (ev_var (pv 3) rfl) ev_int rfl) evs_nil))) (show 3 ≤ sizeLine by decide)) evs_nil)) (show 2 ≤ sizeLine by decide)) ?_
    refine blk_setO Z (n := 5) (by rfl) (Or.inr (by rfl)) (Or.inl rfl) (show 5 < 14 by decide) (evo_lc Z (lc_map b dH (fun h => oF (judQ h p)) (fun x => [.s ns, .d true (dB b), .d true (.int c), .d true (dPr p), .d true (.tuple [dB b, dPr p]), x4, x5, x6, x7, x8, x9, .d true (dH x), y2, y3]) [("house", 11)] (is := [11]) (src_list (ev_var (pv 1) rfl)) (blkOk_by (N := ["script", "book", "cell", "prices", "handed", "due", "found", "best", "some", "good", "k", "house", "one", "j"]) (sc := defScope (topS 28)) (by decide +kernel)) (small (m := 12) hb12) (by decide) (fun x hx s H A cl fp => (tgt_name sc_law.nd (by rfl) (Or.inl (by rfl)) (show 11 < 14 by decide) (Or.inr (by rfl)))) (fun x hx s H A cl fp => (ev_call (ok__law_judged T) (Z.hr.mono (by decide)) (args_d (ev_var (pv 11) rfl) (args_d (ev_var (pv 3) rfl) args_nil)) ⟨x, p, Dn, M, a, rfl, hOk x hx, by have := hb4 x hx; omega, hp2' x hx, PO, rfl⟩)))) ?_
    have ej : (b.map fun h => oF (judQ h p)) = (judL b p).map oF := by unfold judL; rw [List.map_map]; rfl
    refine blk_setO Z (n := 6) (by rfl) (Or.inl (by rfl)) (Or.inl rfl) (show 6 < 14 by decide) (evo_call (ok_judged T) (Z.hr.mono (by decide)) (args_d (ev_ixT (ev_var (pv 4) rfl) ev_int rfl) (args_d (ev_ixT (ev_var (pv 4) rfl) ev_int rfl) args_nil)) ⟨b, p, Dn, M, a, rfl, by omega, hOk, PO, rfl⟩ (by rw [ej]; exact flat_oFs _)) ?_
    refine blk_setO Z (n := 7) (by rfl) (Or.inl (by rfl)) (Or.inl rfl) (show 7 < 14 by decide) (evo_call (ok_best_at T) (Z.hr.mono (by decide)) (args_d (ev_ixT (ev_var (pv 4) rfl) ev_int rfl) (args_d (ev_ixT (ev_var (pv 4) rfl) ev_int rfl) args_nil)) ⟨b, p, Dn, M, a, rfl, by omega, hOk, PO, rfl⟩ (flat_ints _)) ?_
    have hlen : (judL b p).length = b.length := by unfold judL; rw [List.length_map]
    have hw : ∀ q, some q ∈ judL b p → Wd 3900 q := fun q hq => by
      obtain ⟨h, hh, e⟩ := List.mem_map.mp hq
      exact PO.wj (hOk h hh) e
    have eqj : PyData.eqv (.list ((judL b p).map oF)) (.list ((judL b p).map oF)) = true := PySem.SeqAt.eqv_refl _ (canLay_list (canLay_oFs _))
    have eqb : PyData.eqv (.tuple [dB b, dPr p]) (.tuple [dB b, dPr p]) = true := PySem.SeqAt.eqv_refl _ (canLay_bp b p)
    rw [ej]
    show Blk _ [.s ns, .d true (dB b), .d true (.int c), .d true (dPr p), .d true (.tuple [dB b, dPr p]), .o true ((judL b p).map oF), .o true ((judL b p).map oF), .o true ((topIx (judL b p)).map .int), x7, x8, x9, y1, y2, y3] _ _
    have hjs : (judL b p).length ≤ 12 := by omega
    have hix : ∀ D, D = PyData.list ((judL b p).map oF) → D = .list ((judL b p).map oF) := fun _ e => e
    refine blk_ifR (evw_or (ec_neD Z.u64 (ev_var (pv 4) rfl) (ev_tup (evs_cons (ev_var (pv 1) rfl) (evs_cons (ev_var (pv 3) rfl) evs_nil)) (show 2 ≤ sizeLine by decide)) (shaped_bp b p) (shaped_bp b p)).t (fun h13 => (evw_or (evt_not (evt_val (ev_isiL T.isinstance T.list (bx_var (pv 6) rfl) boot_list (is_same _)))) (fun h13 => (evw_or1 (ec_neX Z.u64 (bx_var (pv 6) rfl) (bx_var (pv 5) rfl) (shaped_oFs _) (shaped_oFs _)).t))))).t (fun hc => ?_) (fun hc => ?_)
    · exfalso
      rw [eqb, eqj] at hc
      simp at hc
    clear hc
    have j1 : ∀ (h : House), oF (judQ h p) = oF (judQ h p) := fun _ => rfl
    generalize ejs : judL b p = js at hlen hw eqj hjs
    refine blk_ifR (ec_neX Z.u64 (evo_lc Z (lc_mk js oF oF (fun o => (!isNo (oF o)) && !true) (fun o => [.s ns, .d true (dB b), .d true (.int c), .d true (dPr p), .d true (.tuple [dB b, dPr p]), .o true (js.map oF), .o true (js.map oF), .o true ((topIx js).map .int), x7, x8, x9, y1, .d true (oF o), y3]) [("one", 12)] (is := [12]) (src_bw (bx_var (pv 6) rfl).bw) (blkOk_by (N := ["script", "book", "cell", "prices", "handed", "due", "found", "best", "some", "good", "k", "house", "one", "j"]) (sc := defScope (topS 28)) (by decide +kernel)) (small hjs) (by decide) (fun x hx s H A cl fp => (tgt_name sc_law.nd (by rfl) (Or.inl (by rfl)) (show 12 < 14 by decide) (Or.inr (by rfl)))) (fun x hx s H A cl fp => .one (EvW.t (evw_and (Ec.t (ec_notN (ev_var (pv 12) rfl))) (fun h16 => (evw_and1 (evt_not (evt_val (ev_call (ok__law_is_fraction T) (Z.hr.mono (by decide)) (args_d (ev_var (pv 12) rfl) args_nil) (by cases x with | none => exact absurd h16 (by decide) | some q => exact ⟨q, rfl, rfl⟩))))))))) (fun x hx hc s H A cl fp => (ev_var (pv 12) rfl)))).bx (evo_lst evs_nil (show 0 ≤ sizeLine by decide)).bx (shaped_oFs _) (by decide)).t (fun hc => ?_) (fun hc => ?_)
    · exfalso
      have e0 : js.filter (fun o => (!isNo (oF o)) && !true) = [] := by simp
      rw [e0] at hc
      revert hc
      decide
    clear hc
    have hIx : ∀ i ∈ smIx js, i < js.length ∧ isSm js i = true := fun i hi => by simpa [smIx] using hi
    have hgt : ∀ i, i < b.length → atI (js.map oF) ((i : Nat) : Int) = some (oF (js.getD i none)) := fun i hi => atI_mapN none (by omega)
    have hsm : ∀ i, (!isNo (oF (js.getD i none))) = isSm js i := fun i => by unfold isSm; cases js.getD i none <;> rfl
    refine blk_setLc Z (n := 8) (by rfl) (by rfl) (show 8 < 14 by decide) (lc_mk (List.range (b.map dH).length) (fun i => .int ((i : Nat) : Int)) (fun i => .int ((i : Nat) : Int)) (fun i => !isNo (oF (js.getD i none))) (fun i => [.s ns, .d true (dB b), .d true (.int c), .d true (dPr p), .d true (.tuple [dB b, dPr p]), .o true (js.map oF), .o true (js.map oF), .o true ((topIx js).map .int), x7, x8, .d true (.int ((i : Nat) : Int)), y1, y2, y3]) [("k", 10)] (is := [10]) (src_rangeN T.range (ev_lenL T.len (ev_var (pv 1) rfl).bx.bw) (by rw [List.length_map]; omega)) (blkOk_by (N := ["script", "book", "cell", "prices", "handed", "due", "found", "best", "some", "good", "k", "house", "one", "j"]) (sc := defScope (topS 28)) (by decide +kernel)) (small (m := 12) (by rw [List.length_range, List.length_map]; exact hb12)) (by decide) (fun x hx s H A cl fp => (tgt_name sc_law.nd (by rfl) (Or.inl (by rfl)) (show 10 < 14 by decide) (Or.inr (by rfl)))) (fun x hx s H A cl fp => .one (Ec.t (ec_notN (ev_ixL (bx_var (pv 5) rfl).bw (ev_var (pv 10) rfl) (hgt x (by simpa using hx)))))) (fun x hx hc s H A cl fp => (ev_var (pv 10) rfl))) (sw_true rfl rfl rfl (by decide +kernel)) ?_
    have esm : (List.range (b.map dH).length).filter (fun i => !isNo (oF (js.getD i none))) = smIx js := by
      unfold smIx
      rw [List.length_map, ← hlen]
      exact List.filter_congr fun i _ => hsm i
    rw [esm]
    refine blk_setO Z (n := 9) (by rfl) (Or.inl (by rfl)) (Or.inl rfl) (show 9 < 14 by decide) (evo_lst evs_nil (show 0 ≤ sizeLine by decide)) ?_
    have hl8 : (smIx js).length ≤ 12 := by
      unfold smIx
      have := List.length_filter_le (isSm js) (List.range js.length)
      rw [List.length_range] at this
      omega
    refine blk_freeze 8 rfl ?_
    refine blk_for Z (is := [10]) (src_list (ev_var (pv 8) rfl)) (fun n r => ∃ z1 z2 z3 z4 : SV, r = [.s ns, .d true (dB b), .d true (.int c), .d true (dPr p), .d true (.tuple [dB b, dPr p]), .o true (js.map oF), .o true (js.map oF), .o true ((topIx js).map .int), .d true (.list ((smIx js).map fun i => .int ((i : Nat) : Int))), .o true ((((smIx js).take n).filter (gdIx js)).map fun i => .int ((i : Nat) : Int)), z1, z2, z3, z4]) ⟨_, _, _, _, rfl⟩ (fun n D r hD hI => ?_) (fun r hI => ?_)
    · obtain ⟨z1, z2, z3, z4, rfl⟩ := hI
      rw [List.getElem?_map, Option.map_eq_some_iff] at hD
      obtain ⟨i, hi, rfl⟩ := hD
      have him := List.mem_of_getElem? hi
      obtain ⟨hi1, hi2⟩ := hIx i him
      refine ⟨_, (tgt_name Z.nd (by rfl) (Or.inr (by rfl)) (show 10 < 14 by decide) (Or.inl rfl)), ?_⟩
      obtain ⟨qi, ei⟩ := Option.isSome_iff_exists.mp hi2
      have mem : ∀ j q, j < js.length → js.getD j none = some q → some q ∈ js := fun j q hj e => by
        rw [← e, List.getD, List.getElem?_eq_getElem hj]; exact List.getElem_mem _
      have hg := gd_top him
      refine blk_if (ec_eqX Z.u64 (evo_lc Z (lc_mk (smIx js) (fun i => .int ((i : Nat) : Int)) (fun i => .int ((i : Nat) : Int)) (fun j => lessO (js.getD i none) (js.getD j none)) (fun j => [.s ns, .d true (dB b), .d true (.int c), .d true (dPr p), .d true (.tuple [dB b, dPr p]), .o true (js.map oF), .o true (js.map oF), .o true ((topIx js).map .int), .d true (.list ((smIx js).map fun i => .int ((i : Nat) : Int))), .o true ((((smIx js).take n).filter (gdIx js)).map fun i => .int ((i : Nat) : Int)), .d true (.int ((i : Nat) : Int)), z2, z3, .d true (.int ((j : Nat) : Int))]) [("j", 13)] (is := [13]) (src_list (ev_var (pv 8) rfl)) (blkOk_by (N := ["script", "book", "cell", "prices", "handed", "due", "found", "best", "some", "good", "k", "house", "one", "j"]) (sc := defScope (topS 28)) (by decide +kernel)) (small hl8) (by decide) (fun x hx s H A cl fp => (tgt_name sc_law.nd (by rfl) (Or.inl (by rfl)) (show 13 < 14 by decide) (Or.inr (by rfl)))) (fun x hx s H A cl fp => .one (evt_val (ev_call (ok__law_less T) (Z.hr.mono (by decide)) (args_d (ev_ixL (bx_var (pv 5) rfl).bw (ev_var (pv 10) rfl) (hgt i (by omega))) (args_d (ev_ixL (bx_var (pv 5) rfl).bw (ev_var (pv 13) rfl) (hgt x (by have := (hIx x hx).1; omega))) args_nil)) (by
        obtain ⟨hx1, hx2⟩ := hIx x hx
        obtain ⟨qx, ex⟩ := Option.isSome_iff_exists.mp hx2
        rw [ei, ex]
        exact ⟨qi, qx, 3900, 3900, rfl, hw _ (mem i qi hi1 ei), hw _ (mem x qx hx1 ex), by decide, by decide, by decide, rfl⟩)))) (fun x hx hc s H A cl fp => (ev_var (pv 13) rfl)))).bx (evo_lst evs_nil (show 0 ≤ sizeLine by decide)).bx (shaped_idx _) (by decide)).t (fun hc => ?_) (fun hc => ?_)
      · rw [eqv_idx_nil] at hc
        refine blk_append (n := 9) (pv 9) rfl (ev_var (pv 10) rfl) ?ln ?_ (ps_append (pv 9))
        case ln =>
          rw [List.length_map]
          have h1 := List.length_filter_le (gdIx js) ((smIx js).take n)
          rw [List.length_take] at h1
          exact small' (m := 13) (by omega)
        refine blk_nil (blk_nil ⟨.d true (.int ((i : Nat) : Int)), z2, z3, z4, ?_⟩)
        rw [List.take_add_one, hi, List.filter_append, List.map_append]
        have : gdIx js i = true := hc
        simp [this]
      · rw [eqv_idx_nil] at hc
        refine blk_nil (blk_nil ⟨.d true (.int ((i : Nat) : Int)), z2, z3, z4, ?_⟩)
        rw [List.take_add_one, hi, List.filter_append, List.map_append]
        have : gdIx js i = false := hc
        simp [this]
    · obtain ⟨z1, z2, z3, z4, rfl⟩ := hI
      rw [List.length_map, List.take_length]
      have egood : (((smIx js).filter (gdIx js)).map fun i => PyData.int ((i : Nat) : Int)) = (topIx js).map .int := by
        rw [← topIx_eq, List.map_map]; rfl
      rw [egood]
      have htop : (topIx js).length ≤ 12 := by
        rw [← topIx_eq, List.length_map]
        have := List.length_filter_le (gdIx js) (smIx js)
        omega
      refine blk_ifR (evw_or (evt_not (evt_val (ev_isiL T.isinstance T.list (bx_var (pv 7) rfl) boot_list (is_same _)))) (fun h30 => (evw_or1 (ec_neX Z.u64 (bx_var (pv 7) rfl) (bx_var (pv 9) rfl) (shaped_ints _) (shaped_ints _)).t))).t (fun hc => ?_) (fun hc => ?_)
      · exfalso
        rw [eqv_self_ints] at hc
        simp at hc
      clear hc
      refine blk_ifR (ec_neX Z.u64 (evo_lc Z (lc_mk (topIx js) PyData.int PyData.int (fun i => !true) (fun i => [.s ns, .d true (dB b), .d true (.int c), .d true (dPr p), .d true (.tuple [dB b, dPr p]), .o true (js.map oF), .o true (js.map oF), .o true ((topIx js).map .int), .d true (.list ((smIx js).map fun i => .int ((i : Nat) : Int))), .o true ((topIx js).map .int), .d true (.int i), z2, z3, z4]) [("k", 10)] (is := [10]) (src_bw (bx_var (pv 7) rfl).bw) (blkOk_by (N := ["script", "book", "cell", "prices", "handed", "due", "found", "best", "some", "good", "k", "house", "one", "j"]) (sc := defScope (topS 28)) (by decide +kernel)) (small htop) (by decide) (fun x hx s H A cl fp => (tgt_name sc_law.nd (by rfl) (Or.inl (by rfl)) (show 10 < 14 by decide) (Or.inr (by rfl)))) (fun x hx s H A cl fp => .one (evt_not (evt_val (ev_call (ok__law_a_whole T) (Z.hr.mono (by decide)) (args_d (ev_var (pv 10) rfl) args_nil) ?sp34)))) (fun x hx hc s H A cl fp => (ev_var (pv 10) rfl)))).bx (evo_lst evs_nil (show 0 ≤ sizeLine by decide)).bx (shaped_ints _) (by decide)).t (fun hc => ?_) (fun hc => ?_)
      case sp34 => exact ⟨x, rfl, rfl⟩
      · exfalso
        have e0 : (topIx js).filter (fun _ => !true) = [] := by simp
        rw [e0] at hc
        revert hc
        decide
      clear hc
      refine blk_append (n := 6) (pv 6) rfl ev_non (by rw [List.length_map]; exact small' (m := 13) (by omega)) ?_ (ps_append (pv 6))
      refine blk_append (n := 7) (pv 7) rfl ev_int (by rw [List.length_map]; exact small' (m := 13) (by omega)) ?_ (ps_append (pv 7))
      have e1 : (b.map fun h => oF (judQ h p)) = js.map oF := ej.trans (by rw [ejs])
      refine blk_ifR (evw_or (ec_neX Z.u64 (evo_call (ok_judged T) (Z.hr.mono (by decide)) (args_d (ev_var (pv 1) rfl) (args_d (ev_var (pv 3) rfl) args_nil)) ⟨b, p, Dn, M, a, rfl, by omega, hOk, PO, by rw [← e1]⟩ (flat_oFs _)).bx (bx_var (pv 5) rfl) (shaped_oFs _) (shaped_oFs _)).t (fun h41 => (evw_or1 (ec_neX Z.u64 (evo_call (ok_best_at T) (Z.hr.mono (by decide)) (args_d (ev_var (pv 1) rfl) (args_d (ev_var (pv 3) rfl) args_nil)) ⟨b, p, Dn, M, a, rfl, by omega, hOk, PO, show _ = (· = lInts (topIx (judL b p))) by rw [ejs]⟩ (flat_ints (topIx js))).bx (bx_var (pv 9) rfl) (shaped_ints _) (shaped_ints _)).t))).t (fun hc => ?_) (fun hc => ?_)
      · exfalso
        rw [eqv_self_ints, eqj] at hc
        simp at hc
      exact blk_nil ⟨_, _, _, _, _, _, _, _, _, _, _, _, rfl⟩
  · obtain ⟨x1, x2, x3, x4, x5, x6, x7, x8, x9, y1, y2, y3, rfl⟩ := hI
    exact blk_ret ev_bl rfl
end
end Rk

open PySem PySem.W PyProof.Rows
set_option maxRecDepth 100000 in
set_option maxHeartbeats 0 in
theorem PySem.Challenge.cw_rimhouse_k20_houses_at_prices_holds : PySem.Challenge.rw_rimhouse_k20_houses_at_prices.Holds := by
  w_on; o_law; k_head; (case hw => w_witness2)
  k_fill
  refine Rk.law_end (l := PySem.Challenge.rw_rimhouse_k20_houses_at_prices) (k := 9) rfl rfl ⟨rfl, by decide, by decide⟩ (fun w h Y => PySem.W.kIn_of Y) rfl ?F
  case F =>
    intro w mg h KX G
    refine Rk.ok_law (w := w) (mg := mg) ?T
    refine' { abs := PySem.W.mg_none_of KX G ?z_abs, zip := PySem.W.mg_none_of KX G ?z_zip, enumerate := PySem.W.mg_none_of KX G ?z_enumerate, len := PySem.W.mg_none_of KX G ?z_len, range := PySem.W.mg_none_of KX G ?z_range, int := PySem.W.mg_none_of KX G ?z_int, isinstance := PySem.W.mg_none_of KX G ?z_isinstance, bool := PySem.W.mg_none_of KX G ?z_bool, min := PySem.W.mg_none_of KX G ?z_min, tuple := PySem.W.mg_none_of KX G ?z_tuple, max := PySem.W.mg_none_of KX G ?z_max, list := PySem.W.mg_none_of KX G ?z_list, d_divisor := Rk.hasdef_mk KX G ?a_divisor ?l_divisor ?c_divisor ?k_divisor, d_fraction := Rk.hasdef_mk KX G ?a_fraction ?l_fraction ?c_fraction ?k_fraction, d_plus := Rk.hasdef_mk KX G ?a_plus ?l_plus ?c_plus ?k_plus, d_product := Rk.hasdef_mk KX G ?a_product ?l_product ?c_product ?k_product, d_whole := Rk.hasdef_mk KX G ?a_whole ?l_whole ?c_whole ?k_whole, d_is_less := Rk.hasdef_mk KX G ?a_is_less ?l_is_less ?c_is_less ?k_is_less, d_together := Rk.hasdef_mk KX G ?a_together ?l_together ?c_together ?k_together, d_earned := Rk.hasdef_mk KX G ?a_earned ?l_earned ?c_earned ?k_earned, d_paid := Rk.hasdef_mk KX G ?a_paid ?l_paid ?c_paid ?k_paid, d_judged_one := Rk.hasdef_mk KX G ?a_judged_one ?l_judged_one ?c_judged_one ?k_judged_one, d_judged := Rk.hasdef_mk KX G ?a_judged ?l_judged ?c_judged ?k_judged, d_best_at := Rk.hasdef_mk KX G ?a_best_at ?l_best_at ?c_best_at ?k_best_at, d__law_cell_at := Rk.hasdef_mk KX G ?a__law_cell_at ?l__law_cell_at ?c__law_cell_at ?k__law_cell_at, d__law_draws := Rk.hasdef_mk KX G ?a__law_draws ?l__law_draws ?c__law_draws ?k__law_draws, d__law_a_whole := Rk.hasdef_mk KX G ?a__law_a_whole ?l__law_a_whole ?c__law_a_whole ?k__law_a_whole, d__law_near := Rk.hasdef_mk KX G ?a__law_near ?l__law_near ?c__law_near ?k__law_near, d__law_a_book := Rk.hasdef_mk KX G ?a__law_a_book ?l__law_a_book ?c__law_a_book ?k__law_a_book, d__law_common := Rk.hasdef_mk KX G ?a__law_common ?l__law_common ?c__law_common ?k__law_common, d__law_low := Rk.hasdef_mk KX G ?a__law_low ?l__law_low ?c__law_low ?k__law_low, d__law_is_fraction := Rk.hasdef_mk KX G ?a__law_is_fraction ?l__law_is_fraction ?c__law_is_fraction ?k__law_is_fraction, d__law_sum := Rk.hasdef_mk KX G ?a__law_sum ?l__law_sum ?c__law_sum ?k__law_sum, d__law_less := Rk.hasdef_mk KX G ?a__law_less ?l__law_less ?c__law_less ?k__law_less, d__law_a_prices := Rk.hasdef_mk KX G ?a__law_a_prices ?l__law_a_prices ?c__law_a_prices ?k__law_a_prices, d__law_judged := Rk.hasdef_mk KX G ?a__law_judged ?l__law_judged ?c__law_judged ?k__law_judged, d_law := Rk.hasdef_mk KX G ?a_law ?l_law ?c_law ?k_law }
    (case z_abs => k_is)
    (case z_zip => k_is)
    (case z_enumerate => k_is)
    (case z_len => k_is)
    (case z_range => k_is)
    (case z_int => k_is)
    (case z_isinstance => k_is)
    (case z_bool => k_is)
    (case z_min => k_is)
    (case z_tuple => k_is)
    (case z_max => k_is)
    (case z_list => k_is)
    (case a_divisor => k_is)
    (case l_divisor => k_is)
    (case c_divisor => k_is)
    (case k_divisor => k_is)
    (case a_fraction => k_is)
    (case l_fraction => k_is)
    (case c_fraction => k_is)
    (case k_fraction => k_is)
    (case a_plus => k_is)
    (case l_plus => k_is)
    (case c_plus => k_is)
    (case k_plus => k_is)
    (case a_product => k_is)
    (case l_product => k_is)
    (case c_product => k_is)
    (case k_product => k_is)
    (case a_whole => k_is)
    (case l_whole => k_is)
    (case c_whole => k_is)
    (case k_whole => k_is)
    (case a_is_less => k_is)
    (case l_is_less => k_is)
    (case c_is_less => k_is)
    (case k_is_less => k_is)
    (case a_together => k_is)
    (case l_together => k_is)
    (case c_together => k_is)
    (case k_together => k_is)
    (case a_earned => k_is)
    (case l_earned => k_is)
    (case c_earned => k_is)
    (case k_earned => k_is)
    (case a_paid => k_is)
    (case l_paid => k_is)
    (case c_paid => k_is)
    (case k_paid => k_is)
    (case a_judged_one => k_is)
    (case l_judged_one => k_is)
    (case c_judged_one => k_is)
    (case k_judged_one => k_is)
    (case a_judged => k_is)
    (case l_judged => k_is)
    (case c_judged => k_is)
    (case k_judged => k_is)
    (case a_best_at => k_is)
    (case l_best_at => k_is)
    (case c_best_at => k_is)
    (case k_best_at => k_is)
    (case a__law_cell_at => k_is)
    (case l__law_cell_at => k_is)
    (case c__law_cell_at => k_is)
    (case k__law_cell_at => k_is)
    (case a__law_draws => k_is)
    (case l__law_draws => k_is)
    (case c__law_draws => k_is)
    (case k__law_draws => k_is)
    (case a__law_a_whole => k_is)
    (case l__law_a_whole => k_is)
    (case c__law_a_whole => k_is)
    (case k__law_a_whole => k_is)
    (case a__law_near => k_is)
    (case l__law_near => k_is)
    (case c__law_near => k_is)
    (case k__law_near => k_is)
    (case a__law_a_book => k_is)
    (case l__law_a_book => k_is)
    (case c__law_a_book => k_is)
    (case k__law_a_book => k_is)
    (case a__law_common => k_is)
    (case l__law_common => k_is)
    (case c__law_common => k_is)
    (case k__law_common => k_is)
    (case a__law_low => k_is)
    (case l__law_low => k_is)
    (case c__law_low => k_is)
    (case k__law_low => k_is)
    (case a__law_is_fraction => k_is)
    (case l__law_is_fraction => k_is)
    (case c__law_is_fraction => k_is)
    (case k__law_is_fraction => k_is)
    (case a__law_sum => k_is)
    (case l__law_sum => k_is)
    (case c__law_sum => k_is)
    (case k__law_sum => k_is)
    (case a__law_less => k_is)
    (case l__law_less => k_is)
    (case c__law_less => k_is)
    (case k__law_less => k_is)
    (case a__law_a_prices => k_is)
    (case l__law_a_prices => k_is)
    (case c__law_a_prices => k_is)
    (case k__law_a_prices => k_is)
    (case a__law_judged => k_is)
    (case l__law_judged => k_is)
    (case c__law_judged => k_is)
    (case k__law_judged => k_is)
    (case a_law => k_is)
    (case l_law => k_is)
    (case c_law => k_is)
    (case k_law => k_is)

