import PyProof.Rows.All
import Wide.All
import OpenK.AllK
import Wide.FinOn
import HandS.ForMost
import HandS.Exc
import HandS.Star
import HandS.HeadHook2
import HandS.IsInst
import HandS.Conv
import HandS.Text
import HandS.More
import HandS.Small
import HandS.SortInts
import HandS.Rev
import HandS.ListItems
import HandS.RaiseMore
import HandS.StrMore
import HandS.DictComp
import HandS.Style
import HandS.TryOnly
import HandS.Defaults
import HandS.HeadNt
import HandS.SlotsOwn
import HandS.FStr
import HandS.DictEq
import HandS.OwnEq
import HandS.Zip0
import HandS.MakeKw
import HandS.MakeKwOnly
import HandS.HeadHook3
import KE.KStateDown
import Lean
import HandS.Head0
import HandS.Head1
import HandS.Head2
import HandS.HeadEnd
import PySem.Challenge.RW_forkmeet_k58_what_tells_scripts_apart_ju
set_option Elab.async false
set_option linter.all false
set_option maxRecDepth 100000
set_option maxHeartbeats 0
namespace Pu
open PySem PySem.Spec PyProof.Rows L2

abbrev Sg := List (Option V)
inductive D where
  | non | bl (b : Bool) | int (i : Int) | str (x : Str)
  | lst (xs : List D) | tup (xs : List D) | dic (kvs : List (Key × D))
  /-- the script -/
  | scr (ns : List Int)
  | ins (c : Nat) (fs : List (Nat × D))
  | glo (x : Str)

/-- the tables: the written part, the names of fields and methods, the classes' names -/
structure Tb where
  K : PySem.W.Frag
  nm : List Str
  cl : List Str
abbrev Tb.ca (T : Tb) (c : Nat) : Addr := He.ga T.K (T.cl.getD c "")

section
variable (T : Tb) (B : Hp)
mutual
inductive Rep : V → D → Prop
  | non : Rep .non .non
  | bl {b} : Rep (.bl b) (.bl b)
  | int {i} : Rep (.int i) (.int i)
  | str {x} : Rep (.str x) (.str x)
  | lst {a vs ds} : B a = some (.lst vs) → RepL vs ds → Rep (.ref a) (.lst ds)
  | scr {a ns} : SqL T.K B a (ns.map V.int) → Rep (.ref a) (.scr ns)
  | tup {a vs ds} : SqT T.K B a vs → RepL vs ds → Rep (.ref a) (.tup ds)
  | dic {a kvs ds} : Rd B a (.dK kvs) → RepK kvs ds → Rep (.ref a) (.dic ds)
  | ins {a c dx gs fs} : B a = some (.ins (T.ca c) dx gs) → c < T.cl.length → RepF gs fs → Rep (.ref a) (.ins c fs)
  | glo {a x} : a = He.ga T.K x → Rep (.ref a) (.glo x)
inductive RepL : List V → List D → Prop
  | nil : RepL [] []
  | cons {v d vs ds} : Rep v d → RepL vs ds → RepL (v :: vs) (d :: ds)
inductive RepK : List (Key × V) → List (Key × D) → Prop
  | nil : RepK [] []
  | cons {k v d vs ds} : Rep v d → RepK vs ds → RepK ((k, v) :: vs) ((k, d) :: ds)
inductive RepF : List (Str × V) → List (Nat × D) → Prop
  | nil : RepF [] []
  | cons {k i v d vs ds} : T.nm[i]? = some k → Rep v d → RepF vs ds → RepF ((k, v) :: vs) ((i, d) :: ds)
end
end

section
variable {T : Tb} {B : Hp}
theorem RepL.length : ∀ {vs : List V} {ds : List D}, RepL T B vs ds → vs.length = ds.length
  | _, _, .nil => rfl
  | _, _, .cons _ r => congrArg Nat.succ r.length
theorem RepK.length : ∀ {vs : List (Key × V)} {ds : List (Key × D)}, RepK T B vs ds → vs.length = ds.length
  | _, _, .nil => rfl
  | _, _, .cons _ r => congrArg Nat.succ r.length
theorem RepF.length : ∀ {vs : List (Str × V)} {ds : List (Nat × D)}, RepF T B vs ds → vs.length = ds.length
  | _, _, .nil => rfl
  | _, _, .cons _ _ r => congrArg Nat.succ r.length
theorem RepL.get : ∀ {vs : List V} {ds : List D}, RepL T B vs ds → ∀ {i : Nat} {d : D}, ds[i]? = some d → ∃ v, vs[i]? = some v ∧ Rep T B v d
  | _, _, .nil, i, d, h => by simp at h
  | _, _, .cons r _, 0, d, h => by simp at h; subst h; exact ⟨_, rfl, r⟩
  | _, _, .cons _ t, i + 1, d, h => t.get (i := i) (by simpa using h)
theorem RepL.get' : ∀ {vs : List V} {ds : List D}, RepL T B vs ds → ∀ {i : Nat} {v : V}, vs[i]? = some v → ∃ d, ds[i]? = some d ∧ Rep T B v d
  | _, _, .nil, i, d, h => by simp at h
  | _, _, .cons r _, 0, d, h => by simp at h; subst h; exact ⟨_, rfl, r⟩
  | _, _, .cons _ t, i + 1, d, h => t.get' (i := i) (by simpa using h)
theorem RepL.append : ∀ {vs ws : List V} {ds es : List D}, RepL T B vs ds → RepL T B ws es → RepL T B (vs ++ ws) (ds ++ es)
  | _, _, _, _, .nil, s => s
  | _, _, _, _, .cons r t, s => .cons r (t.append s)
theorem RepL.take : ∀ {vs : List V} {ds : List D} (n : Nat), RepL T B vs ds → RepL T B (vs.take n) (ds.take n)
  | _, _, 0, _ => .nil
  | _, _, _ + 1, .nil => .nil
  | _, _, n + 1, .cons r t => .cons r (t.take n)
theorem RepL.drop : ∀ {vs : List V} {ds : List D} (n : Nat), RepL T B vs ds → RepL T B (vs.drop n) (ds.drop n)
  | _, _, 0, r => r
  | _, _, _ + 1, .nil => .nil
  | _, _, n + 1, .cons _ t => t.drop n
theorem RepL.split : ∀ {vs : List V} {ds es : List D}, RepL T B vs (ds ++ es) → ∃ us ws, vs = us ++ ws ∧ RepL T B us ds ∧ RepL T B ws es
  | vs, [], es, r => ⟨[], vs, rfl, .nil, r⟩
  | _, d :: ds, es, .cons a r => by
    obtain ⟨us, ws, e, r1, r2⟩ := r.split (ds := ds)
    exact ⟨_ :: us, ws, by rw [e]; rfl, .cons a r1, r2⟩

end
/-- the same, or a dict locked -/
def Lk (o o' : HO) : Prop := o' = o ∨ ∃ ob kvs, o = .dK kvs ∧ o' = .frz ob (.dK kvs)
theorem Lk.trans {a b c : HO} (h : Lk a b) (h' : Lk b c) : Lk a c := by
  rcases h with rfl | ⟨ob, kvs, rfl, rfl⟩
  · exact h'
  · rcases h' with rfl | ⟨ob', kvs', e, _⟩
    · exact .inr ⟨ob, kvs, rfl, rfl⟩
    · cases e
def Le (B B' : Hp) : Prop := ∀ a o, B a = some o → ∃ o', B' a = some o' ∧ Lk o o'
theorem Le.refl (B : Hp) : Le B B := fun _ o h => ⟨o, h, .inl rfl⟩
theorem Le.trans {B B' B'' : Hp} (h : Le B B') (h' : Le B' B'') : Le B B'' := fun a o e => by
  obtain ⟨o1, e1, v1⟩ := h a o e
  obtain ⟨o2, e2, v2⟩ := h' a o1 e1
  exact ⟨o2, e2, v1.trans v2⟩
theorem Le.of {B B' : Hp} (h : ∀ a o, B a = some o → B' a = some o) : Le B B' := fun a o e => ⟨o, h a o e, .inl rfl⟩
theorem Le.same {B B' : Hp} (l : Le B B') {a : Addr} {o : HO} (hn : ∀ kvs, o ≠ .dK kvs) (h : B a = some o) : B' a = some o := by
  obtain ⟨o', e, v⟩ := l a _ h
  rcases v with rfl | ⟨ob, kvs, e2, _⟩
  · exact e
  · exact absurd e2 (hn kvs)
theorem Le.lst {B B' : Hp} (l : Le B B') {a : Addr} {xs : List V} (h : Rd B a (.lst xs)) : Rd B' a (.lst xs) := by
  rcases h with h | ⟨ob, h⟩
  · exact .inl (l.same (fun _ z => nomatch z) h)
  · exact .inr ⟨ob, l.same (fun _ z => nomatch z) h⟩
theorem Le.tup {B B' : Hp} (l : Le B B') {a : Addr} {xs : List V} (h : Rd B a (.tup xs)) : Rd B' a (.tup xs) := by
  rcases h with h | ⟨ob, h⟩
  · exact .inl (l.same (fun _ z => nomatch z) h)
  · exact .inr ⟨ob, l.same (fun _ z => nomatch z) h⟩
theorem Le.dK {B B' : Hp} (l : Le B B') {a : Addr} {kvs : List (Key × V)} (h : Rd B a (.dK kvs)) : Rd B' a (.dK kvs) := by
  rcases h with h | ⟨ob, h⟩
  · obtain ⟨o', e, v⟩ := l a _ h
    rcases v with rfl | ⟨ob, kvs, e2, rfl⟩
    · exact .inl e
    · cases e2; exact .inr ⟨ob, e⟩
  · exact .inr ⟨ob, l.same (fun _ z => nomatch z) h⟩
theorem Le.lst' {B B' : Hp} (l : Le B B') {a : Addr} {xs : List V} (h : B a = some (.lst xs)) : B' a = some (.lst xs) := l.same (fun _ z => nomatch z) h
theorem Le.ins {B B' : Hp} (l : Le B B') {a C dx : Addr} {fs : List (Str × V)} (h : B a = some (.ins C dx fs)) : B' a = some (.ins C dx fs) := l.same (fun _ z => nomatch z) h
theorem Le.frz {B B' : Hp} (l : Le B B') {a : Addr} {ob : Obj} {u : HO} (h : B a = some (.frz ob u)) : B' a = some (.frz ob u) := l.same (fun _ z => nomatch z) h
theorem Le.sqL {K : PySem.W.Frag} {B B' : Hp} (l : Le B B') {a : Addr} {xs : List V} (h : SqL K B a xs) : SqL K B' a xs := h.imp (fun h => l.lst h) id
theorem Le.sqT {K : PySem.W.Frag} {B B' : Hp} (l : Le B B') {a : Addr} {xs : List V} (h : SqT K B a xs) : SqT K B' a xs := h.imp (fun h => l.tup h) id
section
variable {T : Tb} {B B' : Hp}
mutual
theorem Rep.le (l : Le B B') : ∀ {v : V} {d : D}, Rep T B v d → Rep T B' v d
  | _, _, .non => .non
  | _, _, .bl => .bl
  | _, _, .int => .int
  | _, _, .str => .str
  | _, _, .lst h r => .lst (l.lst' h) (RepL.le l r)
  | _, _, .scr h => .scr (l.sqL h)
  | _, _, .tup h r => .tup (l.sqT h) (RepL.le l r)
  | _, _, .dic h r => .dic (l.dK h) (RepK.le l r)
  | _, _, .ins h c r => .ins (l.ins h) c (RepF.le l r)
  | _, _, .glo e => .glo e
theorem RepL.le (l : Le B B') : ∀ {vs : List V} {ds : List D}, RepL T B vs ds → RepL T B' vs ds
  | _, _, .nil => .nil
  | _, _, .cons r t => .cons (Rep.le l r) (RepL.le l t)
theorem RepK.le (l : Le B B') : ∀ {vs : List (Key × V)} {ds : List (Key × D)}, RepK T B vs ds → RepK T B' vs ds
  | _, _, .nil => .nil
  | _, _, .cons r t => .cons (Rep.le l r) (RepK.le l t)
theorem RepF.le (l : Le B B') : ∀ {vs : List (Str × V)} {ds : List (Nat × D)}, RepF T B vs ds → RepF T B' vs ds
  | _, _, .nil => .nil
  | _, _, .cons e r t => .cons e (Rep.le l r) (RepF.le l t)
end
end

/-- a slot: empty; a value; an object of the frame's own, by its content; an object lent by the caller, by its content -/
inductive Sl where
  | no | im (d : D) | ow (d : D) | mu (d : D)
abbrev Rho := List Sl
/-- the frame's constants: the heap at its entry, what of it is values, the lent objects -/
structure Fc where
  H0 : Hp
  B0 : Hp
  M : List (Nat × Addr)
abbrev Fc.ms (Y : Fc) : List Addr := Y.M.map (·.2)
/-- at a: an object whose content is d -/
def OwnAt (T : Tb) (H B : Hp) (a : Addr) : D → Prop
  | .lst ds => ∃ vs, H a = some (.lst vs) ∧ RepL T B vs ds
  | .dic ds => ∃ kvs, H a = some (.dK kvs) ∧ RepK T B kvs ds
  | .ins c fs => ∃ dx gs, H a = some (.ins (T.ca c) dx gs) ∧ c < T.cl.length ∧ RepF T B gs fs
  | _ => False
def SlotOk (T : Tb) (Y : Fc) (σ : Sg) (H B : Hp) (i : Nat) : Sl → Prop
  | .no => True
  | .im d => ∃ v, σ[i]? = some (some v) ∧ Rep T B v d
  | .ow d => ∃ a, σ[i]? = some (some (.ref a)) ∧ B a = none ∧ OwnAt T H B a d ∧ Y.H0 a = none ∧ a ∉ Y.ms
  | .mu d => ∃ a, σ[i]? = some (some (.ref a)) ∧ B a = none ∧ OwnAt T H B a d ∧ (i, a) ∈ Y.M
def Sl.hot : Sl → Bool
  | .ow _ => true
  | .mu _ => true
  | _ => false
/-- a is the address of an object of a slot -/
def SA (σ : Sg) (ρ : Rho) (a : Addr) : Prop := ∃ (i : Nat) (s : Sl), ρ[i]? = some s ∧ s.hot = true ∧ σ[i]? = some (some (.ref a))
structure Sta (T : Tb) (Y : Fc) (σ : Sg) (H : Hp) (ρ : Rho) (B : Hp) : Prop where
  len : σ.length = ρ.length
  sub : ∀ a o, B a = some o → H a = some o
  keep : ∀ a o, Y.H0 a = some o → a ∉ Y.ms → Y.B0 a = none → H a = some o
  b0 : Le Y.B0 B
  bnew : ∀ a, B a ≠ none → Y.B0 a ≠ none ∨ Y.H0 a = none
  slot : ∀ (i : Nat) (s : Sl), ρ[i]? = some s → SlotOk T Y σ H B i s
  dist : ∀ (i j : Nat) (s t : Sl) (a : Addr), ρ[i]? = some s → ρ[j]? = some t → s.hot = true → t.hot = true → σ[i]? = some (some (.ref a)) → σ[j]? = some (some (.ref a)) → i = j
  mus : ∀ p ∈ Y.M, (∃ d, ρ[p.1]? = some (.mu d)) ∧ σ[p.1]? = some (some (.ref p.2))
/-- from a state to a later one of the same slots -/
structure Stp (T : Tb) (Y : Fc) (σ : Sg) (H : Hp) (ρ : Rho) (B : Hp) (H' : Hp) (ρ' : Rho) (B' : Hp) : Prop where
  st : Sta T Y σ H' ρ' B'
  le : Le B B'
  kp : ∀ a o, H a = some o → ¬ SA σ ρ a → B a = none → H' a = some o
  bn : ∀ a, B' a ≠ none → B a ≠ none ∨ H a = none ∨ SA σ ρ a
  sa : ∀ a, SA σ ρ' a → SA σ ρ a
  sl : ∀ (i : Nat) (s : Sl), ρ[i]? = some s → s ≠ .no → ∃ s' : Sl, ρ'[i]? = some s' ∧ s' ≠ .no
  fr : ∀ a, H' a = none → H a = none
theorem Stp.refl {T : Tb} {Y : Fc} {σ : Sg} {H : Hp} {ρ : Rho} {B : Hp} (h : Sta T Y σ H ρ B) : Stp T Y σ H ρ B H ρ B :=
  ⟨h, Le.refl B, fun _ _ e _ _ => e, fun _ e => .inl e, fun _ h => h, fun i s h n => ⟨s, h, n⟩, fun _ h => h⟩
theorem Stp.trans {T : Tb} {Y : Fc} {σ : Sg} {H H1 H2 : Hp} {ρ ρ1 ρ2 : Rho} {B B1 B2 : Hp} (h : Stp T Y σ H ρ B H1 ρ1 B1) (h' : Stp T Y σ H1 ρ1 B1 H2 ρ2 B2) : Stp T Y σ H ρ B H2 ρ2 B2 where
  st := h'.st
  le := h.le.trans h'.le
  kp := fun a o e n b => h'.kp a o (h.kp a o e n b) (fun z => n (h.sa a z)) (by
    cases q : B1 a with
    | none => rfl
    | some u =>
      rcases h.bn a (by rw [q]; exact fun z => nomatch z) with y | y | y
      · exact absurd b y
      · rw [e] at y; cases y
      · exact absurd y n)
  bn := fun a e => by
    rcases h'.bn a e with q | q | q
    · exact h.bn a q
    · by_cases hs : SA σ ρ a
      · exact .inr (.inr hs)
      · cases e2 : H a with
        | none => exact .inr (.inl rfl)
        | some o =>
          by_cases hb : B a = none
          · have := h.kp a o e2 hs hb
            rw [this] at q
            cases q
          · exact .inl hb
    · exact .inr (.inr (h.sa a q))
  sa := fun a z => h.sa a (h'.sa a z)
  sl := fun i s e n => by
    obtain ⟨s1, e1, n1⟩ := h.sl i s e n
    exact h'.sl i s1 e1 n1
  fr := fun a e => h.fr a (h'.fr a e)

/-- a result: a value; a new object that nothing else holds; what stands in a slot -/
inductive RV where
  | im (d : D) | ow (d : D) | bo (i : Nat)
def VR (T : Tb) (Y : Fc) (σ : Sg) (H : Hp) (ρ : Rho) (B : Hp) (v : V) : RV → Prop
  | .im d => Rep T B v d
  | .ow d => ∃ a, v = .ref a ∧ B a = none ∧ OwnAt T H B a d ∧ ¬ SA σ ρ a ∧ Y.H0 a = none ∧ a ∉ Y.ms
  | .bo i => σ[i]? = some (some v) ∧ ∃ s : Sl, ρ[i]? = some s ∧ s ≠ .no
theorem RepL.nodep {T : Tb} {B : Hp} : True := trivial
theorem OwnAt.le {T : Tb} {H H' B B' : Hp} {a : Addr} {d : D} (h : OwnAt T H B a d) (l : Le B B') (k : ∀ o, H a = some o → H' a = some o) : OwnAt T H' B' a d := by
  cases d with
  | lst ds => obtain ⟨vs, e, r⟩ := h; exact ⟨vs, k _ e, r.le l⟩
  | dic ds => obtain ⟨vs, e, r⟩ := h; exact ⟨vs, k _ e, r.le l⟩
  | ins c fs => obtain ⟨dx, gs, e, c', r⟩ := h; exact ⟨dx, gs, k _ e, c', r.le l⟩
  | _ => exact h.elim
theorem OwnAt.some {T : Tb} {H B : Hp} {a : Addr} {d : D} (h : OwnAt T H B a d) : ∃ o, H a = some o := by
  cases d with
  | lst ds => obtain ⟨vs, e, r⟩ := h; exact ⟨_, e⟩
  | dic ds => obtain ⟨vs, e, r⟩ := h; exact ⟨_, e⟩
  | ins c fs => obtain ⟨dx, gs, e, c', r⟩ := h; exact ⟨_, e⟩
  | _ => exact h.elim
/-- an own object taken as a value -/
theorem OwnAt.rep {T : Tb} {H B : Hp} {a : Addr} {d : D} (h : OwnAt T H B a d) (hn : B a = none) {o : HO} (e : H a = Option.some o) : Rep T (upd B a o) (.ref a) d := by
  have l : Le B (upd B a o) := Le.of fun b u q => by rw [upd_ne (ne_of_none q hn)]; exact q
  cases d with
  | lst ds => obtain ⟨vs, e', r⟩ := h; rw [e] at e'; cases e'; exact .lst upd_same (r.le l)
  | dic ds => obtain ⟨vs, e', r⟩ := h; rw [e] at e'; cases e'; exact .dic (.inl upd_same) (r.le l)
  | ins c fs => obtain ⟨dx, gs, e', c', r⟩ := h; rw [e] at e'; cases e'; exact .ins upd_same c' (r.le l)
  | _ => exact h.elim
section
variable {T : Tb} {Y : Fc} {σ : Sg} {H H' : Hp} {ρ ρ' : Rho} {B B' : Hp} {v : V} {r : RV}
theorem VR.stp (h : VR T Y σ H ρ B v r) (p : Stp T Y σ H ρ B H' ρ' B') : VR T Y σ H' ρ' B' v r := by
  cases r with
  | im d => exact Rep.le p.le h
  | ow d =>
    obtain ⟨a, e, hn, o, ns, h0, nm⟩ := h
    obtain ⟨ob, ho⟩ := o.some
    refine ⟨a, e, ?_, o.le p.le fun u q => p.kp a u q ns hn, fun z => ns (p.sa a z), h0, nm⟩
    cases q : B' a with
    | none => rfl
    | some u =>
      rcases p.bn a (by rw [q]; simp) with z | z | z
      · exact absurd hn z
      · rw [ho] at z; cases z
      · exact absurd z ns
  | bo i =>
    obtain ⟨e, s, hs, n⟩ := h
    exact ⟨e, p.sl i s hs n⟩
end
/-- the content that is read -/
def rdv (ρ : Rho) : RV → Option D
  | .im d => some d
  | .ow d => some d
  | .bo i => match ρ[i]? with
    | some (.im d) => some d
    | some (.ow d) => some d
    | some (.mu d) => some d
    | _ => none
/-- v may be read as d, its parts are values -/
def Tp (T : Tb) (H B : Hp) (v : V) (d : D) : Prop := Rep T B v d ∨ ∃ a, v = .ref a ∧ OwnAt T H B a d
theorem VR.top {T : Tb} {Y : Fc} {σ : Sg} {H : Hp} {ρ : Rho} {B : Hp} {v : V} {r : RV} {d : D} (h : VR T Y σ H ρ B v r) (s : Sta T Y σ H ρ B) (e : rdv ρ r = some d) : Tp T H B v d := by
  cases r with
  | im d' => cases e; exact .inl h
  | ow d' => cases e; obtain ⟨a, ea, _, o, _⟩ := h; exact .inr ⟨a, ea, o⟩
  | bo i =>
    obtain ⟨ev, s', hs, n⟩ := h
    have so := s.slot i s' hs
    cases s' with
    | no => exact absurd rfl n
    | im d' =>
      have : d' = d := by simpa [rdv, hs] using e
      subst this
      obtain ⟨w, ew, r⟩ := so
      rw [ev] at ew; cases ew
      exact .inl r
    | ow d' =>
      have : d' = d := by simpa [rdv, hs] using e
      subst this
      obtain ⟨a, ew, _, o, _⟩ := so
      rw [ev] at ew; cases ew
      exact .inr ⟨a, rfl, o⟩
    | mu d' =>
      have : d' = d := by simpa [rdv, hs] using e
      subst this
      obtain ⟨a, ew, _, o, _⟩ := so
      rw [ev] at ew; cases ew
      exact .inr ⟨a, rfl, o⟩
/-- the result taken as a value: an own object is the frame's own no more -/
def stl (ρ : Rho) : RV → Option (D × Rho)
  | .im d => some (d, ρ)
  | .ow d => some (d, ρ)
  | .bo i => match ρ[i]? with
    | some (.im d) => some (d, ρ)
    | some (.ow d) => some (d, ρ.set i (.im d))
    | _ => none
theorem SA.lt {σ : Sg} {ρ : Rho} {a : Addr} (h : SA σ ρ a) : ∃ (i : Nat) (s : Sl), ρ[i]? = some s ∧ s.hot = true ∧ σ[i]? = some (some (.ref a)) := h
/-- B grows by an object of H -/
theorem Sta.grow {T : Tb} {Y : Fc} {σ : Sg} {H : Hp} {ρ : Rho} {B : Hp} {a : Addr} {o : HO} (s : Sta T Y σ H ρ B) (hn : B a = none) (ho : H a = some o) (h0 : Y.H0 a = none) (ns : ¬ SA σ ρ a) : Sta T Y σ H ρ (upd B a o) ∧ Le B (upd B a o) := by
  have l : Le B (upd B a o) := Le.of fun b u q => by rw [upd_ne (ne_of_none q hn)]; exact q
  refine ⟨⟨s.len, fun b u q => ?_, s.keep, s.b0.trans l, fun b q => ?_, fun i t e => ?_, s.dist, s.mus⟩, l⟩
  · by_cases hb : b = a
    · subst hb; rw [upd_same] at q; cases q; exact ho
    · rw [upd_ne hb] at q; exact s.sub b u q
  · by_cases hb : b = a
    · subst hb; exact .inr h0
    · rw [upd_ne hb] at q; exact s.bnew b q
  · have so := s.slot i t e
    have key : ∀ {b}, SA σ ρ b → B b = none → upd B a o b = none := fun {b} h1 h2 => by
      rw [upd_ne (fun z => ns (by rw [← z]; exact h1))]; exact h2
    cases t with
    | no => trivial
    | im d => obtain ⟨v, ev, r⟩ := so; exact ⟨v, ev, r.le l⟩
    | ow d =>
      obtain ⟨b, ev, bn, ob, h0', nm⟩ := so
      exact ⟨b, ev, key ⟨i, _, e, rfl, ev⟩ bn, ob.le l fun _ q => q, h0', nm⟩
    | mu d =>
      obtain ⟨b, ev, bn, ob, hm⟩ := so
      exact ⟨b, ev, key ⟨i, _, e, rfl, ev⟩ bn, ob.le l fun _ q => q, hm⟩
/-- an own slot becomes a value's -/
theorem Sta.cool {T : Tb} {Y : Fc} {σ : Sg} {H : Hp} {ρ : Rho} {B : Hp} {i : Nat} {d : D} (s : Sta T Y σ H ρ B) (e : ρ[i]? = some (.ow d)) : ∃ a B', σ[i]? = some (some (.ref a)) ∧ Stp T Y σ H ρ B H (ρ.set i (.im d)) B' ∧ Rep T B' (.ref a) d := by
  obtain ⟨a, ev, bn, o, h0, nm⟩ := s.slot i _ e
  obtain ⟨ob, ho⟩ := o.some
  have hi : i < ρ.length := (List.getElem?_eq_some_iff.mp e).1
  have l : Le B (upd B a ob) := Le.of fun b u q => by rw [upd_ne (ne_of_none q bn)]; exact q
  have rr := o.rep bn ho
  have sa : ∀ b, SA σ (ρ.set i (.im d)) b → SA σ ρ b ∧ b ≠ a := fun b ⟨j, t, ej, ht, eb⟩ => by
    by_cases hij : i = j
    · subst hij
      rw [List.getElem?_set_self hi] at ej; cases ej; cases ht
    · rw [List.getElem?_set_ne hij] at ej
      refine ⟨⟨j, t, ej, ht, eb⟩, fun z => ?_⟩
      subst z
      exact hij (s.dist i j _ t b e ej rfl ht ev eb)
  refine ⟨a, upd B a ob, ev, ⟨⟨by rw [List.length_set]; exact s.len, fun b u q => ?_, s.keep, s.b0.trans l, fun b q => ?_, fun j t ej => ?_, fun j k t u b ej ek ht hu eb ec => ?_, fun p hp => ?_⟩, l, fun _ _ q _ _ => q, fun b q => ?_, fun b z => (sa b z).1, fun j t ej n => ?_, fun _ q => q⟩, rr⟩
  · by_cases hb : b = a
    · subst hb; rw [upd_same] at q; cases q; exact ho
    · rw [upd_ne hb] at q; exact s.sub b u q
  · by_cases hb : b = a
    · subst hb; exact .inr h0
    · rw [upd_ne hb] at q; exact s.bnew b q
  · by_cases hij : i = j
    · subst hij
      rw [List.getElem?_set_self hi] at ej; cases ej
      exact ⟨_, ev, rr⟩
    · have ej' : ρ[j]? = some t := by rw [List.getElem?_set_ne hij] at ej; exact ej
      have so := s.slot j t ej'
      cases t with
      | no => trivial
      | im d' => obtain ⟨v, ev, r⟩ := so; exact ⟨v, ev, r.le l⟩
      | ow d' =>
        obtain ⟨b, eb, bn', ob', h0', nm'⟩ := so
        have ne : b ≠ a := (sa b ⟨j, _, ej, rfl, eb⟩).2
        exact ⟨b, eb, by rw [upd_ne ne]; exact bn', ob'.le l fun _ q => q, h0', nm'⟩
      | mu d' =>
        obtain ⟨b, eb, bn', ob', hm⟩ := so
        have ne : b ≠ a := (sa b ⟨j, _, ej, rfl, eb⟩).2
        exact ⟨b, eb, by rw [upd_ne ne]; exact bn', ob'.le l fun _ q => q, hm⟩
  · have f : ∀ {m : Nat} {w : Sl}, (ρ.set i (.im d))[m]? = some w → w.hot = true → ρ[m]? = some w := fun {m w} em hw => by
      by_cases hm : i = m
      · subst hm; rw [List.getElem?_set_self hi] at em; cases em; cases hw
      · rw [List.getElem?_set_ne hm] at em; exact em
    exact s.dist j k t u b (f ej ht) (f ek hu) ht hu eb ec
  · obtain ⟨⟨d', e'⟩, e2⟩ := s.mus p hp
    have : i ≠ p.1 := fun z => by rw [← z, e] at e'; cases e'
    exact ⟨⟨d', by rw [List.getElem?_set_ne this]; exact e'⟩, e2⟩
  · by_cases hb : b = a
    · subst hb; exact .inr (.inr ⟨i, _, e, rfl, ev⟩)
    · rw [upd_ne hb] at q; exact .inl q
  · by_cases hij : i = j
    · subst hij; exact ⟨_, List.getElem?_set_self hi, fun z => nomatch z⟩
    · exact ⟨t, by rw [List.getElem?_set_ne hij]; exact ej, n⟩
/-- what an expression leaves: the states, its value's result, new if it is an own object -/
structure Pe (T : Tb) (Y : Fc) (σ : Sg) (H : Hp) (ρ : Rho) (B : Hp) (v : V) (r : RV) (H' : Hp) (ρ' : Rho) (B' : Hp) : Prop where
  stp : Stp T Y σ H ρ B H' ρ' B'
  val : VR T Y σ H' ρ' B' v r
  new : ∀ d a, r = .ow d → v = .ref a → H a = none
theorem Pe.stl {T : Tb} {Y : Fc} {σ : Sg} {H H1 : Hp} {ρ ρ1 ρ2 : Rho} {B B1 : Hp} {v : V} {r : RV} {d : D} (p : Pe T Y σ H ρ B v r H1 ρ1 B1) (e : stl ρ1 r = some (d, ρ2)) : ∃ B2, Stp T Y σ H ρ B H1 ρ2 B2 ∧ Rep T B2 v d := by
  obtain ⟨p, h, new⟩ := p
  cases r with
  | im d' => cases e; exact ⟨B1, p, h⟩
  | ow d' =>
    cases e
    obtain ⟨a, ea, bn, o, ns, h0, nm⟩ := h
    have hna := new d a rfl ea
    obtain ⟨ob, ho⟩ := o.some
    obtain ⟨s', l⟩ := p.st.grow bn ho h0 ns
    subst ea
    refine ⟨upd B1 a ob, ⟨s', p.le.trans l, p.kp, fun b q => ?_, p.sa, p.sl, p.fr⟩, o.rep bn ho⟩
    by_cases hb : b = a
    · subst hb; exact .inr (.inl hna)
    · rw [upd_ne hb] at q; exact p.bn b q
  | bo i =>
    obtain ⟨ev, t, et, n⟩ := h
    cases t with
    | no => exact absurd rfl n
    | im d' =>
      simp [Pu.stl, et] at e
      obtain ⟨rfl, rfl⟩ := e
      obtain ⟨w, ew, r⟩ := p.st.slot i _ et
      rw [ev] at ew; cases ew
      exact ⟨B1, p, r⟩
    | ow d' =>
      simp [Pu.stl, et] at e
      obtain ⟨rfl, rfl⟩ := e
      obtain ⟨a, B', ea, p', r⟩ := p.st.cool et
      rw [ev] at ea; cases ea
      exact ⟨B', p.trans p', r⟩
    | mu d' => simp [Pu.stl, et] at e
end Pu
namespace Pu
open PySem PySem.Spec PyProof.Rows L2

inductive Rs (α : Type) where
  | ok (a : α) (ρ : Rho) | exc (c : Nat) (fs : List (Nat × D)) (ρ : Rho) | bad
def Rs.bind {α β : Type} (x : Rs α) (f : α → Rho → Rs β) : Rs β := match x with
  | .ok a ρ => f a ρ
  | .exc c fs ρ => .exc c fs ρ
  | .bad => .bad
abbrev EF := Rho → Rs RV
abbrev TF := Rho → Rs Bool
abbrev LF := Rho → Rs (List RV)

/-- what is wished of an exception -/
def Px (T : Tb) (W : WX) (Y : Fc) (σ : Sg) (H : Hp) (ρ : Rho) (B : Hp) (c : Nat) (fs : List (Nat × D)) (ρ' : Rho) : Prop :=
  ∀ dx gs H' B', Stp T Y σ H ρ B H' ρ' B' → H' dx = some (.xd gs) → H dx = none → RepF T B' gs fs → W (.ref (T.ca c)) (some dx) σ H'
/-- behind a pure result -/
def Aft {α : Type} (T : Tb) (W : WX) (Y : Fc) (σ : Sg) (H : Hp) (ρ : Rho) (B : Hp) (x : Rs α) (P : α → Rho → Prop) : Prop := match x with
  | .ok a ρ' => P a ρ'
  | .exc c fs ρ' => Px T W Y σ H ρ B c fs ρ'
  | .bad => False
section
variable {α β : Type} {T : Tb} {W : WX} {Y : Fc} {σ : Sg} {H H1 : Hp} {ρ ρ1 : Rho} {B B1 : Hp}
theorem Aft.bind {x : Rs α} {f : α → Rho → Rs β} {P : β → Rho → Prop} (h : Aft T W Y σ H ρ B (x.bind f) P) : Aft T W Y σ H ρ B x fun a ρ1 => Aft T W Y σ H ρ B (f a ρ1) P := by
  cases x <;> exact h
theorem Aft.imp {x : Rs α} {P P' : α → Rho → Prop} (h : Aft T W Y σ H ρ B x P) (i : ∀ a ρ', P a ρ' → P' a ρ') : Aft T W Y σ H ρ B x P' := by
  cases x with
  | ok a ρ' => exact i a ρ' h
  | exc c fs ρ' => exact h
  | bad => exact h
theorem Px.after {c : Nat} {fs : List (Nat × D)} {ρ' : Rho} (p : Stp T Y σ H ρ B H1 ρ1 B1) (h : Px T W Y σ H ρ B c fs ρ') : Px T W Y σ H1 ρ1 B1 c fs ρ' :=
  fun dx gs H' B' q e n r => h dx gs H' B' (p.trans q) e (p.fr dx n) r
theorem Aft.after {x : Rs α} {P : α → Rho → Prop} (p : Stp T Y σ H ρ B H1 ρ1 B1) (h : Aft T W Y σ H ρ B x P) : Aft T W Y σ H1 ρ1 B1 x P := by
  cases x with
  | ok a ρ' => exact h
  | exc c fs ρ' => exact Px.after p h
  | bad => exact h
end
def tE (T : Tb) (W : WX) (f : EF) : TE := fun σ H Q => ∃ Y ρ B, Sta T Y σ H ρ B ∧ Aft T W Y σ H ρ B (f ρ) fun r ρ' => ∀ v H' B', Pe T Y σ H ρ B v r H' ρ' B' → Q v H'
def tT (T : Tb) (W : WX) (f : TF) : TT := fun σ H Q => ∃ Y ρ B, Sta T Y σ H ρ B ∧ Aft T W Y σ H ρ B (f ρ) fun b ρ' => ∀ H' B', Stp T Y σ H ρ B H' ρ' B' → Q b H'
/-- the arguments' results, side by side -/
structure PeL (T : Tb) (Y : Fc) (σ : Sg) (H : Hp) (ρ : Rho) (B : Hp) (vs : List V) (rs : List RV) (H' : Hp) (ρ' : Rho) (B' : Hp) : Prop where
  stp : Stp T Y σ H ρ B H' ρ' B'
  len : vs.length = rs.length
  val : ∀ (k : Nat) (v : V) (r : RV), vs[k]? = some v → rs[k]? = some r → VR T Y σ H' ρ' B' v r
  new : ∀ (k : Nat) (d : D) (a : Addr), rs[k]? = some (.ow d) → vs[k]? = some (.ref a) → H a = none
  dis : ∀ (j k : Nat) (d e : D) (a : Addr), rs[j]? = some (.ow d) → rs[k]? = some (.ow e) → vs[j]? = some (.ref a) → vs[k]? = some (.ref a) → j = k
def tA (T : Tb) (W : WX) (f : LF) : TA := fun σ H Q => ∃ Y ρ B, Sta T Y σ H ρ B ∧ Aft T W Y σ H ρ B (f ρ) fun rs ρ' => ∀ vs H' B', PeL T Y σ H ρ B vs rs H' ρ' B' → Q vs H'
def JE (T : Tb) (X : Cx) (e : Expr) (f : EF) : Prop := ∀ W, Takes X W → PE X e (tE T W f)
def JT (T : Tb) (X : Cx) (e : Expr) (f : TF) : Prop := ∀ W, Takes X W → PT X e (tT T W f)
def JW (T : Tb) (X : Cx) (e : Expr) (f : TF) : Prop := ∀ W, Takes X W → PW X e (tT T W f)
def JL (T : Tb) (X : Cx) (es : List Expr) (f : LF) : Prop := ∀ W, Takes X W → PA X es (tA T W f)
theorem PE.imp {X : Cx} {e : Expr} {t t' : TE} (h : PE X e t) (i : ∀ σ H Q, t' σ H Q → t σ H Q) : PE X e t' := ⟨fun pins s σ H Q I q => h.run pins s σ H Q I (i σ H Q q)⟩
theorem PT.imp {X : Cx} {e : Expr} {t t' : TT} (h : PT X e t) (i : ∀ σ H Q, t' σ H Q → t σ H Q) : PT X e t' := ⟨fun pins s σ H Q I q => h.run pins s σ H Q I (i σ H Q q)⟩
theorem PW.imp {X : Cx} {e : Expr} {t t' : TT} (h : PW X e t) (i : ∀ σ H Q, t' σ H Q → t σ H Q) : PW X e t' := ⟨fun wh pins s σ H Q I q => h.run wh pins s σ H Q I (i σ H Q q)⟩
theorem PA.imp {X : Cx} {e : List Expr} {t t' : TA} (h : PA X e t) (i : ∀ σ H Q, t' σ H Q → t σ H Q) : PA X e t' := ⟨fun pos pins s σ H Q I q => h.run pos pins s σ H Q I (i σ H Q q)⟩
theorem PS.imp {X : Cx} {e : Stmt} {t t' : TS} (h : PS X e t) (i : ∀ D σ H, t' D σ H → t D σ H) : PS X e t' := ⟨fun pins s σ H Q I q => h.run pins s σ H Q I (i Q σ H q)⟩
theorem PSs.imp {X : Cx} {e : List Stmt} {t t' : TS} (h : PSs X e t) (i : ∀ D σ H, t' D σ H → t D σ H) : PSs X e t' := ⟨fun pins s σ H Q I q => h.run pins s σ H Q I (i Q σ H q)⟩

section
variable {T : Tb} {X : Cx} {a b c e o : Expr} {es : List Expr} {pos : Pos} {fa fb : EF}
def eBad : EF := fun _ => .bad
theorem je_bad : JE T X e eBad := fun W tk => ⟨fun pins s σ H Q I ⟨_, _, _, _, h⟩ => h.elim⟩

def eVar (i : Nat) : EF := fun ρ => match ρ[i]? with
  | some (.im d) => .ok (.im d) ρ
  | some (.ow _) => .ok (.bo i) ρ
  | some (.mu _) => .ok (.bo i) ρ
  | _ => .bad
theorem je_var {i : Nat} {x : Str} (hN : X.N[i]? = some x) (hv : Vis X.env.scope x) (hd : (x == ("__debug__" : Str)) = false) (hcd : (x == ("__classdict__" : Str)) = false) : JE T X (.Name x pos) (eVar i) := fun W tk => by
  refine PE.imp (pe_var hN hv hd hcd) fun σ H Q ⟨Y, ρ, B, s, h⟩ => ?_
  unfold eVar at h
  split at h
  · rename_i d hi
    obtain ⟨v, e, r⟩ := s.slot i _ hi
    exact ⟨v, e, h v H B ⟨Stp.refl s, r, fun d a z => nomatch z⟩⟩
  · rename_i d hi
    obtain ⟨a, e, _⟩ := s.slot i _ hi
    exact ⟨_, e, h _ H B ⟨Stp.refl s, ⟨e, _, hi, fun z => nomatch z⟩, fun d a z => nomatch z⟩⟩
  · rename_i d hi
    obtain ⟨a, e, _⟩ := s.slot i _ hi
    exact ⟨_, e, h _ H B ⟨Stp.refl s, ⟨e, _, hi, fun z => nomatch z⟩, fun d a z => nomatch z⟩⟩
  · exact h.elim
def eCon (d : D) : EF := fun ρ => .ok (.im d) ρ
theorem je_con {v : V} {d : D} (h : PE X e (tC v)) (r : ∀ B, Rep T B v d) : JE T X e (eCon d) := fun W tk =>
  PE.imp h fun σ H Q ⟨Y, ρ, B, s, h⟩ => h v H B ⟨Stp.refl s, r B, fun d a z => nomatch z⟩
theorem je_int {i : Int} {j} : JE T X (.Constant (.int i) j pos) (eCon (.int i)) := je_con pe_int fun _ => .int
theorem je_bl {i : Bool} {j} : JE T X (.Constant (.bool i) j pos) (eCon (.bl i)) := je_con pe_bl fun _ => .bl
theorem je_non {j} : JE T X (.Constant .none j pos) (eCon .non) := je_con pe_non fun _ => .non
theorem je_str {x : Str} {j} : JE T X (.Constant (.str x) j pos) (eCon (.str x)) := je_con pe_str fun _ => .str


theorem Sta.fresh {Y : Fc} {σ : Sg} {H : Hp} {ρ : Rho} {B : Hp} {p : Addr} {o : HO} (s : Sta T Y σ H ρ B) (hn : H p = none) : B p = none ∧ ¬ SA σ ρ p ∧ Sta T Y σ (upd H p o) ρ B := by
  have bn : B p = none := by
    cases q : B p with
    | none => rfl
    | some u => have := s.sub p u q; rw [hn] at this; cases this
  have na : ∀ {q u}, H q = some u → upd H p o q = some u := fun {q u} e => by rw [upd_ne (ne_of_none e hn)]; exact e
  have ns : ¬ SA σ ρ p := fun ⟨i, t, e, ht, ev⟩ => by
    have so := s.slot i t e
    cases t with
    | no => cases ht
    | im d => cases ht
    | ow d => obtain ⟨b, eb, _, ob, _⟩ := so; rw [ev] at eb; cases eb; obtain ⟨u, hu⟩ := ob.some; rw [hn] at hu; cases hu
    | mu d => obtain ⟨b, eb, _, ob, _⟩ := so; rw [ev] at eb; cases eb; obtain ⟨u, hu⟩ := ob.some; rw [hn] at hu; cases hu
  refine ⟨bn, ns, s.len, fun a u e => na (s.sub a u e), fun a u e n b => na (s.keep a u e n b), s.b0, s.bnew, fun i t e => ?_, s.dist, s.mus⟩
  have so := s.slot i t e
  cases t with
  | no => trivial
  | im d => exact so
  | ow d => obtain ⟨b, eb, hb, ob, h0, nm⟩ := so; exact ⟨b, eb, hb, ob.le (Le.refl B) fun u q => na q, h0, nm⟩
  | mu d => obtain ⟨b, eb, hb, ob, hm⟩ := so; exact ⟨b, eb, hb, ob.le (Le.refl B) fun u q => na q, hm⟩
theorem Sta.h0 {Y : Fc} {σ : Sg} {H : Hp} {ρ : Rho} {B : Hp} {p : Addr} (s : Sta T Y σ H ρ B) (hn : H p = none) : (Y.H0 p = none ∧ p ∉ Y.ms) := by
  have hm : p ∉ Y.ms := fun z => by
    obtain ⟨⟨i, a⟩, hp, e0⟩ := List.mem_map.mp z
    obtain ⟨⟨d, e⟩, e2⟩ := s.mus _ hp
    obtain ⟨b, eb, _, ob, hm⟩ := s.slot i _ e
    have e2' : σ[i]? = some (some (.ref a)) := e2
    rw [e2'] at eb
    cases eb
    obtain ⟨u, hu⟩ := ob.some
    have e0' : a = p := e0
    rw [e0', hn] at hu
    cases hu
  refine ⟨?_, hm⟩
  cases q : Y.H0 p with
  | none => rfl
  | some u =>
    by_cases hb : Y.B0 p = none
    · have := s.keep p u q hm hb; rw [hn] at this; cases this
    · cases qb : Y.B0 p with
      | none => exact absurd qb hb
      | some o =>
        obtain ⟨o', e, _⟩ := s.b0 p o qb
        rw [s.sub p o' e] at hn; cases hn
/-- a new object -/
theorem Stp.laid {Y : Fc} {σ : Sg} {H : Hp} {ρ : Rho} {B : Hp} {p : Addr} {o : HO} (s : Sta T Y σ H ρ B) (hn : H p = none) : Stp T Y σ H ρ B (upd H p o) ρ B where
  st := (s.fresh hn).2.2
  le := Le.refl B
  kp := fun a u e _ _ => by rw [upd_ne (ne_of_none e hn)]; exact e
  bn := fun _ e => .inl e
  sa := fun _ h => h
  sl := fun i s h n => ⟨s, h, n⟩
  fr := fun a h => by
    by_cases z : a = p
    · subst z; exact hn
    · rw [upd_ne z] at h; exact h
theorem Pe.laid {Y : Fc} {σ : Sg} {H : Hp} {ρ : Rho} {B : Hp} {p : Addr} {o : HO} {d : D} (s : Sta T Y σ H ρ B) (hn : H p = none) (h : OwnAt T (upd H p o) B p d) : Pe T Y σ H ρ B (.ref p) (.ow d) (upd H p o) ρ B :=
  ⟨Stp.laid s hn, ⟨p, rfl, (s.fresh (o := o) hn).1, h, (s.fresh (o := o) hn).2.1, (s.h0 hn).1, (s.h0 hn).2⟩, fun _ a _ e => by cases e; exact hn⟩
theorem Pe.im {Y : Fc} {σ : Sg} {H : Hp} {ρ : Rho} {B : Hp} {v : V} {d : D} (s : Sta T Y σ H ρ B) (h : Rep T B v d) : Pe T Y σ H ρ B v (.im d) H ρ B :=
  ⟨Stp.refl s, h, fun _ _ z => nomatch z⟩
theorem Pe.after {Y : Fc} {σ : Sg} {H H1 H2 : Hp} {ρ ρ1 ρ2 : Rho} {B B1 B2 : Hp} {v : V} {r : RV} (p : Stp T Y σ H ρ B H1 ρ1 B1) (q : Pe T Y σ H1 ρ1 B1 v r H2 ρ2 B2) : Pe T Y σ H ρ B v r H2 ρ2 B2 :=
  ⟨p.trans q.stp, q.val, fun d a e1 e2 => p.fr a (q.new d a e1 e2)⟩
/-- a value laid as a tuple -/
theorem Pe.laidT {Y : Fc} {σ : Sg} {H : Hp} {ρ : Rho} {B : Hp} {p : Addr} {vs : List V} {ds : List D} (s : Sta T Y σ H ρ B) (hn : H p = none) (h : RepL T B vs ds) : Pe T Y σ H ρ B (.ref p) (.im (.tup ds)) (upd H p (.tup vs)) ρ (upd B p (.tup vs)) := by
  obtain ⟨bn, ns, s1⟩ := s.fresh (o := .tup vs) hn
  obtain ⟨s2, l⟩ := s1.grow (o := .tup vs) bn upd_same (s.h0 hn).1 ns
  have p1 := Stp.laid (o := .tup vs) s hn
  refine ⟨⟨s2, l, p1.kp, fun a e => ?_, p1.sa, p1.sl, p1.fr⟩, .tup (.inl (.inl upd_same)) (h.le l), fun _ _ z => nomatch z⟩
  by_cases z : a = p
  · subst z; exact .inr (.inl hn)
  · rw [upd_ne z] at e; exact .inl e

/-- what an operation gives -/
inductive Ov where
  | ok (r : RV) | exc (c : Nat) (fs : List (Nat × D)) | bad
def Ov.rs (ρ : Rho) : Ov → Rs RV
  | .ok r => .ok r ρ
  | .exc c fs => .exc c fs ρ
  | .bad => .bad
/-- an operation of two read values -/
def OpG (T : Tb) (X : Cx) (f : Value → Value → Sem Value) (g : D → D → Ov) : Prop :=
  ∀ (W : WX), Takes X W → ∀ (pins : List (Addr × Obj)) (s : Shared) (σ : Sg) (H : Hp) (x y : V) (v u : Value) (Q : VK) (Y : Fc) (ρ : Rho) (B : Hp) (a b : D), Inv X pins σ H s → RelV x v → RelV y u →
    Sta T Y σ H ρ B → Tp T H B x a → Tp T H B y b → Aft T W Y σ H ρ B ((g a b).rs ρ) (fun r ρ' => ∀ v H' B', Pe T Y σ H ρ B v r H' ρ' B' → Q v H') → wpAny (model X.prog X.w) X.A (f v u) (EP X pins σ Q) X.xe s
def eTwo (g : D → D → Ov) (fa fb : EF) : EF := fun ρ => (fa ρ).bind fun ra ρ1 => (fb ρ1).bind fun rb ρ2 => match rdv ρ2 ra, rdv ρ2 rb with
  | some a, some b => (g a b).rs ρ2
  | _, _ => .bad
/-- the two operands in a row -/
theorem two_run {f : Value → Value → Sem Value} {g : D → D → Ov} (ho : OpG T X f g) (ha : JE T X a fa) (hb : JE T X b fb) {W : WX} (tk : Takes X W) {pins : List (Addr × Obj)} {s : Shared} {σ : Sg} {H : Hp} {Q : VK} (I : Inv X pins σ H s) (h : tE T W (eTwo g fa fb) σ H Q) :
    wpAny (model X.prog X.w) X.A (eval a X.env) (fun v s₁ => wpAny (model X.prog X.w) X.A (eval b X.env) (fun u s₂ => wpAny (model X.prog X.w) X.A (f v u) (EP X pins σ Q) X.xe s₂) X.xe s₁) X.xe s := by
  obtain ⟨Y, ρ, B, st, h⟩ := h
  refine binT (R := fun x y H2 => ∃ (ρ2 : Rho) (B2 : Hp) (d e : D), Sta T Y σ H2 ρ2 B2 ∧ Tp T H2 B2 x d ∧ Tp T H2 B2 y e ∧ Aft T W Y σ H2 ρ2 B2 ((g d e).rs ρ2) fun r ρ' => ∀ v H' B', Pe T Y σ H2 ρ2 B2 v r H' ρ' B' → Q v H') (ha W tk) (hb W tk) I ?_ ?_
  · refine ⟨Y, ρ, B, st, h.bind.imp fun ra ρ1 h1 v H1 B1 p1 => ⟨Y, ρ1, B1, p1.stp.st, (Aft.after p1.stp h1).bind.imp fun rb ρ2 h2 u H2 B2 p2 => ?_⟩⟩
    have st2 := p2.stp.st
    have v1 := p1.val.stp p2.stp
    split at h2
    · rename_i d e e1 e2
      refine ⟨ρ2, B2, d, e, st2, v1.top st2 e1, p2.val.top st2 e2, (Aft.after p2.stp h2).imp fun r ρ' k v' H' B' q => ?_⟩
      exact k v' H' B' (Pe.after p1.stp (Pe.after p2.stp q))
    · exact h2.elim
  · intro v u s2 x y H2 I2 rx ry ⟨ρ2, B2, d, e, st2, t1, t2, q⟩
    exact ho W tk pins s2 σ H2 x y v u Q Y ρ2 B2 d e I2 rx ry st2 t1 t2 q
theorem je_bin {op : Operator} {g : D → D → Ov} (ho : OpG T X (binaryOp op) g) (ha : JE T X a fa) (hb : JE T X b fb) : JE T X (.BinOp a op b pos) (eTwo g fa fb) := fun W tk =>
  ⟨fun pins s σ H Q I h => wpAny_BinOp (two_run ho ha hb tk I h)⟩
/-- what a simple operation gives: a flat value, or a new object -/
def Gives (T : Tb) (H B : Hp) (r : RV) (Q : VK) : Prop := match r with
  | .im (.tup ds) => ∀ p vs, H p = none → RepL T B vs ds → Q (.ref p) (upd H p (.tup vs))
  | .im d => ∀ v, Rep T B v d → Q v H
  | .ow (.lst ds) => ∀ p vs, H p = none → RepL T B vs ds → Q (.ref p) (upd H p (.lst vs))
  | .ow (.dic ds) => ∀ p vs, H p = none → RepK T B vs ds → Q (.ref p) (upd H p (.dK vs))
  | _ => False
theorem gives_of {Y : Fc} {W : WX} {σ : Sg} {H : Hp} {ρ : Rho} {B : Hp} {r : RV} {Q : VK} (s : Sta T Y σ H ρ B) (hr : ∀ i, r ≠ .bo i) (h : Aft T W Y σ H ρ B ((Ov.ok r).rs ρ) fun r ρ' => ∀ v H' B', Pe T Y σ H ρ B v r H' ρ' B' → Q v H') (hf : ∀ d, r = .ow d → (∃ ds, d = .lst ds) ∨ ∃ ds, d = .dic ds) : Gives T H B r Q := by
  have h : ∀ v H' B', Pe T Y σ H ρ B v r H' ρ B' → Q v H' := h
  cases r with
  | bo i => exact absurd rfl (hr i)
  | im d =>
    cases d with
    | tup ds => intro p vs hn rl; exact h _ _ _ (Pe.laidT s hn rl)
    | _ => intro v rv; exact h _ _ _ (Pe.im s rv)
  | ow d =>
    rcases hf d rfl with ⟨ds, rfl⟩ | ⟨ds, rfl⟩
    · intro p vs hn rl
      exact h _ _ _ (Pe.laid s hn ⟨vs, upd_same, rl⟩)
    · intro p vs hn rl
      exact h _ _ _ (Pe.laid s hn ⟨vs, upd_same, rl⟩)
end
end Pu
namespace Pu
open PySem PySem.Spec PyProof.Rows L2

section
variable {T : Tb} {H B : Hp} {x : V} {d : D}
/-- what may be read as a list, a tuple -/
def asL : D → Option (List D)
  | .lst ds => some ds
  | .scr ns => some (ns.map .int)
  | _ => none
theorem Tp.non (h : Tp T H B x .non) : x = .non := by
  rcases h with h | ⟨a, _, o⟩
  · cases h; rfl
  · exact o.elim
theorem Tp.bl {b : Bool} (h : Tp T H B x (.bl b)) : x = .bl b := by
  rcases h with h | ⟨a, _, o⟩
  · cases h; rfl
  · exact o.elim
theorem Tp.int {i : Int} (h : Tp T H B x (.int i)) : x = .int i := by
  rcases h with h | ⟨a, _, o⟩
  · cases h; rfl
  · exact o.elim
theorem Tp.str {i : Str} (h : Tp T H B x (.str i)) : x = .str i := by
  rcases h with h | ⟨a, _, o⟩
  · cases h; rfl
  · exact o.elim
theorem Tp.glo {i : Str} (h : Tp T H B x (.glo i)) : x = .ref (He.ga T.K i) := by
  rcases h with h | ⟨a, _, o⟩
  · cases h with | glo e => rw [e]
  · exact o.elim
theorem sqL_sub {K : PySem.W.Frag} {a : Addr} {xs : List V} (sub : ∀ a o, B a = some o → H a = some o) (h : SqL K B a xs) : SqL K H a xs := (Le.of sub).sqL h
theorem RepL.ints : ∀ {ns : List Int}, RepL T B (ns.map V.int) (ns.map D.int)
  | [] => .nil
  | _ :: _ => .cons .int RepL.ints
theorem Tp.lst {ds : List D} (sub : ∀ a o, B a = some o → H a = some o) (h : Tp T H B x (.lst ds)) : ∃ a vs, x = .ref a ∧ H a = some (.lst vs) ∧ RepL T B vs ds := by
  rcases h with h | ⟨a, e, o⟩
  · cases h with | lst h r => exact ⟨_, _, rfl, sub _ _ h, r⟩
  · obtain ⟨vs, h1, r⟩ := o
    exact ⟨a, vs, e, h1, r⟩
theorem Tp.asL {ds : List D} (sub : ∀ a o, B a = some o → H a = some o) (h : Tp T H B x d) (e : asL d = some ds) : ∃ a vs, x = .ref a ∧ SqL T.K H a vs ∧ RepL T B vs ds := by
  cases d with
  | lst ds' =>
    cases e
    obtain ⟨a, vs, e1, h1, r⟩ := h.lst sub
    exact ⟨a, vs, e1, .of h1, r⟩
  | scr ns =>
    cases e
    rcases h with h | ⟨a, _, o⟩
    · cases h with | scr h => exact ⟨_, _, rfl, sqL_sub sub h, RepL.ints⟩
    · exact o.elim
  | _ => cases e
theorem Tp.tup {ds : List D} (sub : ∀ a o, B a = some o → H a = some o) (h : Tp T H B x (.tup ds)) : ∃ a vs, x = .ref a ∧ SqT T.K H a vs ∧ RepL T B vs ds := by
  rcases h with h | ⟨a, _, o⟩
  · cases h with | tup h r => exact ⟨_, _, rfl, (Le.of sub).sqT h, r⟩
  · exact o.elim
theorem Tp.dic {ds : List (Key × D)} (sub : ∀ a o, B a = some o → H a = some o) (h : Tp T H B x (.dic ds)) : ∃ a kvs, x = .ref a ∧ Rd H a (.dK kvs) ∧ RepK T B kvs ds := by
  rcases h with h | ⟨a, e, o⟩
  · cases h with | dic h r => exact ⟨_, _, rfl, (Le.of sub).dK h, r⟩
  · obtain ⟨vs, h1, r⟩ := o
    exact ⟨a, vs, e, .inl h1, r⟩
theorem Tp.ins {c : Nat} {fs : List (Nat × D)} (sub : ∀ a o, B a = some o → H a = some o) (h : Tp T H B x (.ins c fs)) : ∃ a dx gs, x = .ref a ∧ H a = some (.ins (T.ca c) dx gs) ∧ c < T.cl.length ∧ RepF T B gs fs := by
  rcases h with h | ⟨a, e, o⟩
  · cases h with | ins h c r => exact ⟨_, _, _, rfl, sub _ _ h, c, r⟩
  · obtain ⟨dx, gs, h1, c, r⟩ := o
    exact ⟨a, dx, gs, e, h1, c, r⟩
theorem Tp.mono {B' : Hp} (l : Le B B') (h : Tp T H B x d) : Tp T H B' x d := by
  rcases h with h | ⟨a, e, o⟩
  · exact .inl (h.le l)
  · exact .inr ⟨a, e, o.le l fun _ q => q⟩
/-- lists of flat values -/
theorem RepL.strs : ∀ {vs : List V} {xs : List Str}, RepL T B vs (xs.map D.str) → vs = xs.map V.str
  | _, [], .nil => rfl
  | _, _ :: _, .cons r t => by cases r; rw [t.strs]; rfl
theorem RepL.ints' : ∀ {vs : List V} {xs : List Int}, RepL T B vs (xs.map D.int) → vs = xs.map V.int
  | _, [], .nil => rfl
  | _, _ :: _, .cons r t => by cases r; rw [t.ints']; rfl
theorem RepL.bls : ∀ {vs : List V} {xs : List Bool}, RepL T B vs (xs.map D.bl) → vs = xs.map V.bl
  | _, [], .nil => rfl
  | _, _ :: _, .cons r t => by cases r; rw [t.bls]; rfl
theorem RepL.ofStrs : ∀ {xs : List Str}, RepL T B (xs.map V.str) (xs.map D.str)
  | [] => .nil
  | _ :: _ => .cons .str RepL.ofStrs
/-- keys -/
def kD : Key → D
  | .inl i => .int i
  | .inr x => .str x
theorem rep_kD (k : Key) : Rep T B (kV k) (kD k) := by cases k <;> constructor
def keyD : D → Option Key
  | .int i => some (.inl i)
  | .str x => some (.inr x)
  | _ => none
theorem Tp.key {k : Key} (h : Tp T H B x d) (e : keyD d = some k) : x = kV k := by
  cases d with
  | int i => cases e; exact h.int
  | str i => cases e; exact h.str
  | _ => cases e
def valD (ds : List (Key × D)) (k : Key) : Option D := (ds.find? fun kv => decide (kv.1 = k)).map (·.2)
def putD (ds : List (Key × D)) (k : Key) (v : D) : List (Key × D) :=
  if (ds.any fun kv => decide (kv.1 = k)) = true then ds.map (fun kv => if kv.1 = k then (kv.1, v) else kv) else ds ++ [(k, v)]
theorem RepK.val (k : Key) : ∀ {kvs : List (Key × V)} {ds : List (Key × D)}, RepK T B kvs ds → (∃ v d, valV kvs k = some v ∧ valD ds k = some d ∧ Rep T B v d) ∨ (valV kvs k = none ∧ valD ds k = none)
  | _, _, .nil => .inr ⟨rfl, rfl⟩
  | _, _, .cons (k := k') r t => by
    by_cases z : k' = k
    · exact .inl ⟨_, _, by simp [valV, List.find?_cons, z], by simp [valD, List.find?_cons, z], r⟩
    · rcases t.val k with ⟨v, d, e1, e2, r'⟩ | ⟨e1, e2⟩
      · exact .inl ⟨v, d, by rw [valV_neg z]; exact e1, by simp only [valD, List.find?_cons, z, decide_false]; exact e2, r'⟩
      · exact .inr ⟨by rw [valV_neg z]; exact e1, by simp only [valD, List.find?_cons, z, decide_false]; exact e2⟩
theorem RepK.any (k : Key) : ∀ {kvs : List (Key × V)} {ds : List (Key × D)}, RepK T B kvs ds → (kvs.any fun kv => decide (kv.1 = k)) = (ds.any fun kv => decide (kv.1 = k))
  | _, _, .nil => rfl
  | _, _, .cons r t => by rw [List.any_cons, List.any_cons, t.any k]
theorem RepK.append : ∀ {kvs kws : List (Key × V)} {ds es : List (Key × D)}, RepK T B kvs ds → RepK T B kws es → RepK T B (kvs ++ kws) (ds ++ es)
  | _, _, _, _, .nil, s => s
  | _, _, _, _, .cons r t, s => .cons r (t.append s)
theorem RepK.mapPut {k : Key} {v : V} {d : D} (r : Rep T B v d) : ∀ {kvs : List (Key × V)} {ds : List (Key × D)}, RepK T B kvs ds → RepK T B (kvs.map fun kv => if kv.1 = k then (kv.1, v) else kv) (ds.map fun kv => if kv.1 = k then (kv.1, d) else kv)
  | _, _, .nil => .nil
  | _, _, .cons (k := k') r' t => by
    by_cases z : k' = k
    · simp only [List.map_cons, z, if_true]; exact .cons r (t.mapPut r)
    · simp only [List.map_cons, z, if_false]; exact .cons r' (t.mapPut r)
theorem RepK.put {k : Key} {v : V} {d : D} {kvs : List (Key × V)} {ds : List (Key × D)} (h : RepK T B kvs ds) (r : Rep T B v d) : RepK T B (putK kvs k v) (putD ds k d) := by
  unfold putK putD
  rw [h.any k]
  split
  · exact h.mapPut r
  · exact h.append (.cons r .nil)
theorem RepK.keys : ∀ {kvs : List (Key × V)} {ds : List (Key × D)}, RepK T B kvs ds → RepL T B (kvs.map fun kv => kV kv.1) (ds.map fun kv => kD kv.1)
  | _, _, .nil => .nil
  | _, _, .cons _ t => .cons (rep_kD _) t.keys
theorem RepK.fst : ∀ {kvs : List (Key × V)} {ds : List (Key × D)}, RepK T B kvs ds → kvs.map (·.1) = ds.map (·.1)
  | _, _, .nil => rfl
  | _, _, .cons _ t => congrArg _ t.fst
end

mutual
def toP : D → Option PyData
  | .non => some .none
  | .bl b => some (.bool b)
  | .int i => some (.int i)
  | .str x => some (.str x)
  | .lst ds => (toPs ds).map .list
  | .tup ds => (toPs ds).map .tuple
  | .scr ns => some (.list (ns.map .int))
  | _ => none
def toPs : List D → Option (List PyData)
  | [] => some []
  | d :: ds => match toP d, toPs ds with
    | some p, some ps => some (p :: ps)
    | _, _ => none
end
section
variable {T : Tb} {H B : Hp}
theorem dp_ints : ∀ {ns : List Int}, DpAll T.K H (ns.map V.int) (ns.map PyData.int)
  | [] => .nil
  | _ :: _ => .cons (.int _) dp_ints
mutual
theorem Rep.dp (sub : ∀ a o, B a = some o → H a = some o) : ∀ {v : V} {d : D}, Rep T B v d → ∀ {p : PyData}, toP d = some p → Dp T.K H v p
  | _, _, .non, p, e => by cases e; exact .non
  | _, _, .bl, p, e => by cases e; exact .bl _
  | _, _, .int, p, e => by cases e; exact .int _
  | _, _, .str, p, e => by cases e; exact .str _
  | _, _, .lst h r, p, e => by
    obtain ⟨ps, e1, rfl⟩ := Option.map_eq_some_iff.mp e
    exact .lst (.of (sub _ _ h)) (RepL.dp sub r e1)
  | _, _, .tup h r, p, e => by
    obtain ⟨ps, e1, rfl⟩ := Option.map_eq_some_iff.mp e
    exact .tup ((Le.of sub).sqT h) (RepL.dp sub r e1)
  | _, _, .scr h, p, e => by cases e; exact .lst (sqL_sub sub h) dp_ints
  | _, _, .dic _ _, p, e => by cases e
  | _, _, .ins _ _ _, p, e => by cases e
  | _, _, .glo _, p, e => by cases e
theorem RepL.dp (sub : ∀ a o, B a = some o → H a = some o) : ∀ {vs : List V} {ds : List D}, RepL T B vs ds → ∀ {ps : List PyData}, toPs ds = some ps → DpAll T.K H vs ps
  | _, _, .nil, ps, e => by cases e; exact .nil
  | _, _, .cons (d := d) (ds := ds) r t, ps, e => by
    unfold toPs at e
    cases e1 : toP d with
    | none => rw [e1] at e; cases e
    | some p =>
      cases e2 : toPs ds with
      | none => rw [e1, e2] at e; cases e
      | some ps' => rw [e1, e2] at e; cases e; exact .cons (Rep.dp sub r e1) (RepL.dp sub t e2)
end
theorem Tp.dp {x : V} {d : D} (sub : ∀ a o, B a = some o → H a = some o) (h : Tp T H B x d) {p : PyData} (e : toP d = some p) : Dp T.K H x p := by
  rcases h with h | ⟨a, rfl, o⟩
  · exact h.dp sub e
  · cases d with
    | lst ds =>
      obtain ⟨vs, h1, r⟩ := o
      obtain ⟨ps, e1, rfl⟩ := Option.map_eq_some_iff.mp e
      exact .lst (.of h1) (r.dp sub e1)
    | dic => cases e
    | ins => cases e
    | _ => exact o.elim
end
end Pu
namespace Pu
open PySem PySem.Spec PyProof.Rows L2
section
variable {T : Tb} {X : Cx}
/-- from a rule of the kit -/
theorem OpG.of {f : Value → Value → Sem Value} {r : R2} {g : D → D → Ov} (ho : OpR X f r)
    (hi : ∀ (H B : Hp) (x y : V) (a b : D) (rv : RV) (Q : VK), (∀ a o, B a = some o → H a = some o) → Tp T H B x a → Tp T H B y b → g a b = .ok rv → Gives T H B rv Q → r x y H Q)
    (hb : ∀ a b rv, g a b = .ok rv → (∀ i, rv ≠ .bo i) ∧ ∀ d, rv = .ow d → (∃ ds, d = .lst ds) ∨ ∃ ds, d = .dic ds) (hx : ∀ a b c fs, g a b ≠ .exc c fs) : OpG T X f g := by
  intro W tk pins s σ H x y v u Q Y ρ B a b I rx ry st ta tb h
  cases e : g a b with
  | bad => rw [e] at h; exact h.elim
  | exc c fs => exact absurd e (hx a b c fs)
  | ok rv =>
    rw [e] at h
    exact ho pins s σ H x y v u Q I rx ry (hi H B x y a b rv Q st.sub ta tb e (gives_of st (hb a b rv e).1 h (hb a b rv e).2))
/-- the first of two -/
def Ov.or : Ov → Ov → Ov
  | .bad, y => y
  | x, _ => x
theorem OpG.or {f : Value → Value → Sem Value} {g g' : D → D → Ov} (h : OpG T X f g) (h' : OpG T X f g') : OpG T X f (fun a b => (g a b).or (g' a b)) := by
  intro W tk pins s σ H x y v u Q Y ρ B a b I rx ry st ta tb k
  have k : Aft T W Y σ H ρ B (((g a b).or (g' a b)).rs ρ) fun r ρ' => ∀ v H' B', Pe T Y σ H ρ B v r H' ρ' B' → Q v H' := k
  cases e : g a b with
  | bad => rw [e] at k; exact h' W tk pins s σ H x y v u Q Y ρ B a b I rx ry st ta tb k
  | ok r => rw [e] at k; exact h W tk pins s σ H x y v u Q Y ρ B a b I rx ry st ta tb (by rw [e]; exact k)
  | exc c fs => rw [e] at k; exact h W tk pins s σ H x y v u Q Y ρ B a b I rx ry st ta tb (by rw [e]; exact k)
def vD : V → D
  | .non => .non
  | .bl b => .bl b
  | .int i => .int i
  | .str x => .str x
  | _ => .non
theorem rep_vD {B : Hp} {v : V} (h : flatV v = true) : Rep T B v (vD v) := by
  cases v with
  | non => exact .non
  | bl => exact .bl
  | int => exact .int
  | str => exact .str
  | _ => cases h
theorem gives_flat {H B : Hp} {v : V} {Q : VK} (h : flatV v = true) (g : Gives T H B (.im (vD v)) Q) : Q v H := by
  cases v with
  | non => exact g _ .non
  | bl => exact g _ .bl
  | int => exact g _ .int
  | str => exact g _ .str
  | _ => cases h
/-- two ints, two strs: a flat value -/
def fI (p : Int → Int → Bool) (k : Int → Int → V) : D → D → Ov
  | .int i, .int j => if p i j = true then .ok (.im (vD (k i j))) else .bad
  | _, _ => .bad
def fS (p : Str → Str → Bool) (k : Str → Str → V) : D → D → Ov
  | .str i, .str j => if p i j = true then .ok (.im (vD (k i j))) else .bad
  | _, _ => .bad
theorem og_int {f : Value → Value → Sem Value} {p : Int → Int → Bool} {k : Int → Int → V} {r : R2} (ho : OpR X f r) (hr : ∀ i j H Q, p i j = true → Q (k i j) H → r (.int i) (.int j) H Q) (hf : ∀ i j, flatV (k i j) = true) : OpG T X f (fI p k) := by
  refine OpG.of ho (fun H B x y a b rv Q sub ta tb e q => ?_) (fun a b rv e => ?_) fun a b c fs e => ?_
  · unfold fI at e
    split at e
    · rename_i i j
      split at e
      · rename_i hp
        cases e
        rw [ta.int, tb.int]
        exact hr i j H Q hp (gives_flat (hf i j) q)
      · cases e
    · cases e
  · unfold fI at e
    split at e
    · split at e
      · cases e; exact ⟨fun i z => (nomatch z), fun d z => (nomatch z)⟩
      · cases e
    · cases e
  · unfold fI at e
    split at e
    · split at e <;> cases e
    · cases e
theorem og_str {f : Value → Value → Sem Value} {p : Str → Str → Bool} {k : Str → Str → V} {r : R2} (ho : OpR X f r) (hr : ∀ i j H Q, p i j = true → Q (k i j) H → r (.str i) (.str j) H Q) (hf : ∀ i j, flatV (k i j) = true) : OpG T X f (fS p k) := by
  refine OpG.of ho (fun H B x y a b rv Q sub ta tb e q => ?_) (fun a b rv e => ?_) fun a b c fs e => ?_
  · unfold fS at e
    split at e
    · rename_i i j
      split at e
      · rename_i hp
        cases e
        rw [ta.str, tb.str]
        exact hr i j H Q hp (gives_flat (hf i j) q)
      · cases e
    · cases e
  · unfold fS at e
    split at e
    · split at e
      · cases e; exact ⟨fun i z => (nomatch z), fun d z => (nomatch z)⟩
      · cases e
    · cases e
  · unfold fS at e
    split at e
    · split at e <;> cases e
    · cases e
def yes {α β : Type} : α → β → Bool := fun _ _ => true
def fCat : D → D → Ov
  | .lst xs, .lst ys => if xs.length + ys.length ≤ sizeLine then .ok (.ow (.lst (xs ++ ys))) else .bad
  | _, _ => .bad
theorem og_cat : OpG T X (binaryOp .Add) fCat := by
  refine OpG.of op_cat (fun H B x y a b rv Q sub ta tb e q => ?_) (fun a b rv e => ?_) fun a b c fs e => ?_
  · unfold fCat at e
    split at e
    · rename_i xs ys
      split at e
      · rename_i hp
        cases e
        obtain ⟨p, vs, rfl, h1, r1⟩ := ta.lst sub
        obtain ⟨p', ws, rfl, h2, r2⟩ := tb.lst sub
        exact ⟨p, p', vs, ws, rfl, rfl, h1, h2, by rw [r1.length, r2.length]; exact hp, fun n hn => q n _ hn (r1.append r2)⟩
      · cases e
    · cases e
  · unfold fCat at e
    split at e
    · split at e
      · cases e; exact ⟨fun i z => (nomatch z), fun d z => by cases z; exact .inl ⟨_, rfl⟩⟩
      · cases e
    · cases e
  · unfold fCat at e
    split at e
    · split at e <;> cases e
    · cases e
def bAdd (a b : D) : Ov := (fI yes (fun i j => .int (i + j)) a b).or ((fS (fun i j => decide (i.length + j.length ≤ sizeLine)) (fun i j => .str (i ++ j)) a b).or (fCat a b))
theorem og_add : OpG T X (binaryOp .Add) bAdd :=
  (og_int op_add (fun i j H Q _ q => ⟨i, j, rfl, rfl, q⟩) fun _ _ => rfl).or ((og_str op_add_str (fun i j H Q p q => ⟨i, j, rfl, rfl, of_decide_eq_true p, q⟩) fun _ _ => rfl).or og_cat)
def bSub : D → D → Ov := fI yes fun i j => .int (i - j)
theorem og_sub : OpG T X (binaryOp .Sub) bSub := og_int op_sub (fun i j H Q _ q => ⟨i, j, rfl, rfl, q⟩) fun _ _ => rfl
instance {i j : Int} : Decidable (CMul i j) := by unfold CMul; infer_instance
def fRep : D → D → Ov
  | .lst xs, .int k => if -(2 ^ 63) ≤ k ∧ k < 2 ^ 63 ∧ xs.length * k.toNat ≤ sizeLine then .ok (.ow (.lst (List.replicate k.toNat xs).flatten)) else .bad
  | _, _ => .bad
theorem RepL.rep {B : Hp} {vs : List V} {ds : List D} (h : RepL T B vs ds) : ∀ n : Nat, RepL T B (List.replicate n vs).flatten (List.replicate n ds).flatten
  | 0 => .nil
  | n + 1 => h.append (h.rep n)
theorem og_rep : OpG T X (binaryOp .Mult) fRep := by
  refine OpG.of op_rep (fun H B x y a b rv Q sub ta tb e q => ?_) (fun a b rv e => ?_) fun a b c fs e => ?_
  · unfold fRep at e
    split at e
    · rename_i xs k
      split at e
      · rename_i hp
        cases e
        obtain ⟨p, vs, rfl, h1, r1⟩ := ta.lst sub
        rw [tb.int]
        exact ⟨p, k, vs, rfl, rfl, h1, hp.1, hp.2.1, by rw [r1.length]; exact hp.2.2, fun n hn => q n _ hn (r1.rep _)⟩
      · cases e
    · cases e
  · unfold fRep at e
    split at e
    · split at e
      · cases e; exact ⟨fun i z => (nomatch z), fun d z => by cases z; exact .inl ⟨_, rfl⟩⟩
      · cases e
    · cases e
  · unfold fRep at e
    split at e
    · split at e <;> cases e
    · cases e
def bMul (a b : D) : Ov := (fI (fun i j => decide (CMul i j)) (fun i j => .int (i * j)) a b).or (fRep a b)
theorem og_mul : OpG T X (binaryOp .Mult) bMul := (og_int op_mul (fun i j H Q p q => ⟨i, j, rfl, rfl, of_decide_eq_true p, q⟩) fun _ _ => rfl).or og_rep
def bMod : D → D → Ov := fI (fun _ j => decide (0 < j)) fun i j => .int (i % j)
theorem og_mod : OpG T X (binaryOp .Mod) bMod := og_int op_mod (fun i j H Q p q => ⟨i, j, rfl, rfl, of_decide_eq_true p, q⟩) fun _ _ => rfl
instance {i j : Int} : Decidable (CDiv i j) := by unfold CDiv; infer_instance
instance {i j : Int} : Decidable (CPow i j) := by unfold CPow; infer_instance
def bFdv : D → D → Ov := fI (fun i j => decide (CDiv i j)) fun i j => .int (i / j)
theorem og_fdv : OpG T X (binaryOp .FloorDiv) bFdv := og_int op_fdiv (fun i j H Q p q => ⟨i, j, rfl, rfl, of_decide_eq_true p, q⟩) fun _ _ => rfl
def bPow : D → D → Ov := fI (fun i j => decide (CPow i j)) fun i j => .int (i ^ j.toNat)
theorem og_pow : OpG T X (binaryOp .Pow) bPow := og_int op_pow (fun i j H Q p q => ⟨i, j, rfl, rfl, of_decide_eq_true p, q⟩) fun _ _ => rfl
/-- the operators -/
def bBin : Operator → D → D → Ov
  | .Add => bAdd
  | .Sub => bSub
  | .Mult => bMul
  | .Mod => bMod
  | .FloorDiv => bFdv
  | .Pow => bPow
  | _ => fun _ _ => .bad
theorem og_bad {f : Value → Value → Sem Value} : OpG T X f (fun _ _ => .bad) := fun W tk pins s σ H x y v u Q Y ρ B a b I rx ry st ta tb h => h.elim
theorem og_bin (op : Operator) : OpG T X (binaryOp op) (bBin op) := by
  cases op with
  | Add => exact og_add
  | Sub => exact og_sub
  | Mult => exact og_mul
  | Mod => exact og_mod
  | FloorDiv => exact og_fdv
  | Pow => exact og_pow
  | _ => exact og_bad
def bIop : Operator → D → D → Ov
  | .Add => fun a b => (fI yes (fun i j => .int (i + j)) a b).or (fS (fun i j => decide (i.length + j.length ≤ sizeLine)) (fun i j => .str (i ++ j)) a b)
  | .Sub => fI yes fun i j => .int (i - j)
  | .Mult => fI (fun i j => decide (CMul i j)) fun i j => .int (i * j)
  | .FloorDiv => fI (fun i j => decide (CDiv i j)) fun i j => .int (i / j)
  | .Mod => fI (fun _ j => decide (0 < j)) fun i j => .int (i % j)
  | _ => fun _ _ => .bad
theorem og_iop (op : Operator) : OpG T X (inplaceOp op) (bIop op) := by
  cases op with
  | Add => exact (og_int iop_add (fun i j H Q _ q => ⟨i, j, rfl, rfl, q⟩) fun _ _ => rfl).or (og_str iop_add_str (fun i j H Q p q => ⟨i, j, rfl, rfl, of_decide_eq_true p, q⟩) fun _ _ => rfl)
  | Sub => exact og_int iop_sub (fun i j H Q _ q => ⟨i, j, rfl, rfl, q⟩) fun _ _ => rfl
  | Mult => exact og_int iop_mul (fun i j H Q p q => ⟨i, j, rfl, rfl, of_decide_eq_true p, q⟩) fun _ _ => rfl
  | FloorDiv => exact og_int iop_fdiv (fun i j H Q p q => ⟨i, j, rfl, rfl, of_decide_eq_true p, q⟩) fun _ _ => rfl
  | Mod => exact og_int iop_mod (fun i j H Q p q => ⟨i, j, rfl, rfl, of_decide_eq_true p, q⟩) fun _ _ => rfl
  | _ => exact og_bad
def sLt (i j : Str) : Bool := decide (i.cps.toList < j.cps.toList)
/-- == of plain data -/
def bEq (a b : D) : Option Bool := match toP a, toP b with
  | some p, some q => if SeqAt.shaped p && SeqAt.shaped q then some (PyData.eqv p q) else none
  | _, _ => none
def obl (neg : Bool) : Option Bool → Ov
  | some k => .ok (.im (.bl (if neg then !k else k)))
  | none => .bad
theorem og_eq (hu : X.A.units + 64 < cLine) (hK : X.K = T.K) : OpG T X (compareOp .Eq) (fun a b => obl false (bEq a b)) := by
  refine OpG.of (op_eqD hu) (fun H B x y a b rv Q sub ta tb e q => ?_) (fun a b rv e => ?_) fun a b c fs e => ?_
  · unfold bEq at e
    split at e
    · rename_i p q' e1 e2
      split at e
      · rename_i hp
        rw [Bool.and_eq_true] at hp
        cases e
        rw [hK]
        exact ⟨p, q', ta.dp sub e1, tb.dp sub e2, hp.1, hp.2, q _ .bl⟩
      · cases e
    · cases e
  · cases e1 : bEq a b with
    | none => rw [e1] at e; cases e
    | some k => rw [e1] at e; cases e; exact ⟨fun i z => (nomatch z), fun d z => (nomatch z)⟩
  · cases e1 : bEq a b with
    | none => rw [e1] at e; cases e
    | some k => rw [e1] at e; cases e
theorem og_ne (hu : X.A.units + 64 < cLine) (hK : X.K = T.K) : OpG T X (compareOp .NotEq) (fun a b => obl true (bEq a b)) := by
  refine OpG.of (op_neD hu) (fun H B x y a b rv Q sub ta tb e q => ?_) (fun a b rv e => ?_) fun a b c fs e => ?_
  · unfold bEq at e
    split at e
    · rename_i p q' e1 e2
      split at e
      · rename_i hp
        rw [Bool.and_eq_true] at hp
        cases e
        rw [hK]
        exact ⟨p, q', ta.dp sub e1, tb.dp sub e2, hp.1, hp.2, q _ .bl⟩
      · cases e
    · cases e
  · cases e1 : bEq a b with
    | none => rw [e1] at e; cases e
    | some k => rw [e1] at e; cases e; exact ⟨fun i z => (nomatch z), fun d z => (nomatch z)⟩
  · cases e1 : bEq a b with
    | none => rw [e1] at e; cases e
    | some k => rw [e1] at e; cases e
/-- is None -/
def isNonD : D → Bool
  | .non => true
  | _ => false
theorem rep_non {B : Hp} {v : V} {d : D} (h : Rep T B v d) : decide (v = .non) = isNonD d := by cases h <;> rfl
theorem tp_non {H B : Hp} {v : V} {d : D} (h : Tp T H B v d) : decide (v = .non) = isNonD d := by
  rcases h with h | ⟨a, rfl, o⟩
  · exact rep_non h
  · cases d with
    | lst => rfl
    | dic => rfl
    | ins => rfl
    | _ => exact o.elim
def bIs (neg : Bool) : D → D → Ov
  | a, .non => .ok (.im (.bl (if neg then !isNonD a else isNonD a)))
  | _, _ => .bad
theorem og_is : OpG T X (compareOp .Is) (bIs false) := by
  refine OpG.of op_isN (fun H B x y a b rv Q sub ta tb e q => ?_) (fun a b rv e => ?_) fun a b c fs e => ?_
  · unfold bIs at e
    split at e
    · cases e
      refine ⟨tb.non, ?_⟩
      rw [tp_non ta]
      exact q _ .bl
    · cases e
  · unfold bIs at e
    split at e
    · cases e; exact ⟨fun i z => (nomatch z), fun d z => (nomatch z)⟩
    · cases e
  · unfold bIs at e
    split at e <;> cases e
theorem og_isnot : OpG T X (compareOp .IsNot) (bIs true) := by
  refine OpG.of op_notN (fun H B x y a b rv Q sub ta tb e q => ?_) (fun a b rv e => ?_) fun a b c fs e => ?_
  · unfold bIs at e
    split at e
    · cases e
      refine ⟨tb.non, ?_⟩
      rw [tp_non ta]
      exact q _ .bl
    · cases e
  · unfold bIs at e
    split at e
    · cases e; exact ⟨fun i z => (nomatch z), fun d z => (nomatch z)⟩
    · cases e
  · unfold bIs at e
    split at e <;> cases e
def flD : D → Option V
  | .non => some .non
  | .bl b => some (.bl b)
  | .int i => some (.int i)
  | .str x => some (.str x)
  | _ => none
theorem rep_fl {B : Hp} {v w : V} {d : D} (h : Rep T B v d) (e : flD d = some w) : v = w ∧ flatV v = true := by
  cases h <;> cases e <;> exact ⟨rfl, rfl⟩
theorem tp_fl {H B : Hp} {v w : V} {d : D} (h : Tp T H B v d) (e : flD d = some w) : v = w ∧ flatV v = true := by
  rcases h with h | ⟨a, rfl, o⟩
  · exact rep_fl h e
  · cases d with
    | lst => cases e
    | dic => cases e
    | ins => cases e
    | _ => exact o.elim
def flDs : List D → Option (List V)
  | [] => some []
  | d :: ds => match flD d, flDs ds with
    | some v, some vs => some (v :: vs)
    | _, _ => none
theorem repL_fl {B : Hp} : ∀ {vs ws : List V} {ds : List D}, RepL T B vs ds → flDs ds = some ws → vs = ws ∧ vs.all flatV = true
  | _, _, _, .nil, e => by cases e; exact ⟨rfl, rfl⟩
  | _, _, _, .cons (d := d) (ds := ds) r t, e => by
    unfold flDs at e
    cases e1 : flD d with
    | none => rw [e1] at e; cases e
    | some v =>
      cases e2 : flDs ds with
      | none => rw [e1, e2] at e; cases e
      | some ws' =>
        rw [e1, e2] at e
        cases e
        obtain ⟨rfl, f⟩ := rep_fl r e1
        obtain ⟨rfl, g⟩ := repL_fl t e2
        exact ⟨rfl, by rw [List.all_cons, f, g]; rfl⟩
def asS : D → Option (List D)
  | .tup ds => some ds
  | d => asL d
def bInQ (a b : D) : Option Bool := match flD a, asS b with
  | some v, some ds => (flDs ds).map (inV v)
  | _, _ => none
theorem Tp.asS {H B : Hp} {x : V} {d : D} {ds : List D} (sub : ∀ a o, B a = some o → H a = some o) (h : Tp T H B x d) (e : asS d = some ds) : ∃ a vs, x = .ref a ∧ (SqL T.K H a vs ∨ SqT T.K H a vs) ∧ RepL T B vs ds := by
  cases d with
  | tup ds' =>
    cases e
    obtain ⟨a, vs, e1, h1, r⟩ := h.tup sub
    exact ⟨a, vs, e1, .inr h1, r⟩
  | lst ds' =>
    obtain ⟨a, vs, e1, h1, r⟩ := h.asL sub e
    exact ⟨a, vs, e1, .inl h1, r⟩
  | scr ds' =>
    obtain ⟨a, vs, e1, h1, r⟩ := h.asL sub e
    exact ⟨a, vs, e1, .inl h1, r⟩
  | _ => cases e
theorem obl_ok {neg : Bool} {o : Option Bool} {rv : RV} (e : obl neg o = .ok rv) : ∃ k, o = some k ∧ rv = .im (.bl (if neg then !k else k)) := by
  cases o with
  | none => cases e
  | some k => cases e; exact ⟨k, rfl, rfl⟩
theorem obl_ne {neg : Bool} {o : Option Bool} {c : Nat} {fs : List (Nat × D)} : obl neg o ≠ .exc c fs := by cases o <;> exact fun z => nomatch z
theorem obl_hb {neg : Bool} {o : Option Bool} {rv : RV} (e : obl neg o = .ok rv) : (∀ i, rv ≠ .bo i) ∧ ∀ d, rv = .ow d → (∃ ds, d = .lst ds) ∨ ∃ ds, d = .dic ds := by
  obtain ⟨k, _, rfl⟩ := obl_ok e
  exact ⟨fun i z => (nomatch z), fun d z => (nomatch z)⟩
theorem og_inq (neg : Bool) (op : CmpOp) (ho : OpR X (compareOp op) (rIn X.K neg)) (hK : X.K = T.K) : OpG T X (compareOp op) (fun a b => obl neg (bInQ a b)) := by
  refine OpG.of ho (fun H B x y a b rv Q sub ta tb e q => ?_) (fun a b rv e => obl_hb e) fun a b c fs e => obl_ne e
  obtain ⟨k, e1, rfl⟩ := obl_ok e
  unfold bInQ at e1
  split at e1
  · rename_i v ds ev es
    obtain ⟨ws, ew, rfl⟩ := Option.map_eq_some_iff.mp e1
    obtain ⟨p, vs, rfl, hq, r⟩ := tb.asS sub es
    obtain ⟨rfl, fv⟩ := tp_fl ta ev
    obtain ⟨rfl, fw⟩ := repL_fl r ew
    rw [hK]
    exact ⟨p, vs, rfl, hq, fv, fw, q _ .bl⟩
  · cases e1
/-- in a str -/
def sIn (i j : Str) : Bool := !(Builtin.Str.occurrences j i 0 j.length 1).isEmpty
def bInS : D → D → Option Bool
  | .str i, .str j => some (sIn i j)
  | _, _ => none
theorem og_ins : OpG T X (compareOp .In) (fun a b => obl false (bInS a b)) := by
  refine OpG.of op_in_str (fun H B x y a b rv Q sub ta tb e q => ?_) (fun a b rv e => obl_hb e) fun a b c fs e => obl_ne e
  obtain ⟨k, e1, rfl⟩ := obl_ok e
  unfold bInS at e1
  split at e1
  · cases e1
    exact ⟨_, _, ta.str, tb.str, q _ .bl⟩
  · cases e1
theorem og_nins : OpG T X (compareOp .NotIn) (fun a b => obl true (bInS a b)) := by
  refine OpG.of op_notIn_str (fun H B x y a b rv Q sub ta tb e q => ?_) (fun a b rv e => obl_hb e) fun a b c fs e => obl_ne e
  obtain ⟨k, e1, rfl⟩ := obl_ok e
  unfold bInS at e1
  split at e1
  · cases e1
    exact ⟨_, _, ta.str, tb.str, q _ .bl⟩
  · cases e1
/-- in a dict -/
def bInD : D → D → Option Bool
  | a, .dic ds => (keyD a).map fun k => (valD ds k).isSome
  | _, _ => none
theorem og_ind (hu : X.A.units + 1 < cLine) : OpG T X (compareOp .In) (fun a b => obl false (bInD a b)) := by
  refine OpG.of (r := fun x y H Q => ∃ a o, y = .ref a ∧ DGet H a x o ∧ Q (.bl o.isSome) H) (fun pins s σ H x y v u Q I rx ry ⟨a, o, ey, g, q⟩ => ?_) (fun H B x y a b rv Q sub ta tb e q => ?_) (fun a b rv e => obl_hb e) fun a b c fs e => obl_ne e
  · subst ey
    cases ry
    exact d_in hu I g rx fun s' I' => ⟨.bl _, H, I', rfl, q⟩
  · obtain ⟨k, e1, rfl⟩ := obl_ok e
    unfold bInD at e1
    split at e1
    · rename_i a ds
      obtain ⟨kk, ek, rfl⟩ := Option.map_eq_some_iff.mp e1
      obtain ⟨p, kvs, rfl, h1, r⟩ := tb.dic sub
      rw [ta.key ek]
      refine ⟨p, _, rfl, .inl ⟨kvs, kk, h1, rfl, rfl⟩, ?_⟩
      have : (valV kvs kk).isSome = (valD ds kk).isSome := by
        rcases r.val kk with ⟨v, d, e1, e2, _⟩ | ⟨e1, e2⟩ <;> rw [e1, e2] <;> rfl
      rw [this]
      exact q _ .bl
    · cases e1
theorem og_nind (hu : X.A.units + 1 < cLine) : OpG T X (compareOp .NotIn) (fun a b => obl true (bInD a b)) := by
  refine OpG.of (r := fun x y H Q => ∃ a o, y = .ref a ∧ DGet H a x o ∧ Q (.bl (!o.isSome)) H) (fun pins s σ H x y v u Q I rx ry ⟨a, o, ey, g, q⟩ => ?_) (fun H B x y a b rv Q sub ta tb e q => ?_) (fun a b rv e => obl_hb e) fun a b c fs e => obl_ne e
  · subst ey
    cases ry
    exact d_notIn hu I g rx fun s' I' => ⟨.bl _, H, I', rfl, q⟩
  · obtain ⟨k, e1, rfl⟩ := obl_ok e
    unfold bInD at e1
    split at e1
    · rename_i a ds
      obtain ⟨kk, ek, rfl⟩ := Option.map_eq_some_iff.mp e1
      obtain ⟨p, kvs, rfl, h1, r⟩ := tb.dic sub
      rw [ta.key ek]
      refine ⟨p, _, rfl, .inl ⟨kvs, kk, h1, rfl, rfl⟩, ?_⟩
      have : (valV kvs kk).isSome = (valD ds kk).isSome := by
        rcases r.val kk with ⟨v, d, e1, e2, _⟩ | ⟨e1, e2⟩ <;> rw [e1, e2] <;> rfl
      rw [this]
      exact q _ .bl
    · cases e1
/-- the comparisons of built-in kinds -/
def orb (a b : Option Bool) : Option Bool := match a with
  | some k => some k
  | none => b
theorem orb_obl {neg : Bool} {a b : Option Bool} : obl neg (orb a b) = (obl neg a).or (obl neg b) := by cases a <;> rfl
def bIn (a b : D) : Option Bool := orb (bInQ a b) (orb (bInS a b) (bInD a b))
theorem og_in (hu : X.A.units + 64 < cLine) (hK : X.K = T.K) : OpG T X (compareOp .In) (fun a b => obl false (bIn a b)) := by
  have h := (og_inq (T := T) false .In op_in_seq hK).or (og_ins.or (og_ind (by omega)))
  simpa only [bIn, orb_obl] using h
theorem og_notin (hu : X.A.units + 64 < cLine) (hK : X.K = T.K) : OpG T X (compareOp .NotIn) (fun a b => obl true (bIn a b)) := by
  have h := (og_inq (T := T) true .NotIn op_notIn_seq hK).or (og_nins.or (og_nind (by omega)))
  simpa only [bIn, orb_obl] using h
def bCmp : CmpOp → D → D → Ov
  | .Eq => fun a b => obl false (bEq a b)
  | .NotEq => fun a b => obl true (bEq a b)
  | .Lt => fun a b => (fI yes (fun i j => .bl (decide (i < j))) a b).or (fS yes (fun i j => .bl (sLt i j)) a b)
  | .LtE => fun a b => (fI yes (fun i j => .bl (decide (i ≤ j))) a b).or (fS yes (fun i j => .bl (!sLt j i)) a b)
  | .Gt => fun a b => (fI yes (fun i j => .bl (decide (j < i))) a b).or (fS yes (fun i j => .bl (sLt j i)) a b)
  | .GtE => fI yes fun i j => .bl (decide (j ≤ i))
  | .Is => bIs false
  | .IsNot => bIs true
  | .In => fun a b => obl false (bIn a b)
  | .NotIn => fun a b => obl true (bIn a b)
theorem og_cmp (hu : X.A.units + 64 < cLine) (hK : X.K = T.K) (op : CmpOp) : OpG T X (compareOp op) (bCmp op) := by
  cases op with
  | Eq => exact og_eq hu hK
  | NotEq => exact og_ne hu hK
  | Lt => exact (og_int op_lt (fun i j H Q _ q => ⟨i, j, rfl, rfl, q⟩) fun _ _ => rfl).or (og_str op_lt_str (fun i j H Q p q => ⟨i, j, rfl, rfl, q⟩) fun _ _ => rfl)
  | LtE => exact (og_int op_le (fun i j H Q _ q => ⟨i, j, rfl, rfl, q⟩) fun _ _ => rfl).or (og_str op_le_str (fun i j H Q p q => ⟨i, j, rfl, rfl, q⟩) fun _ _ => rfl)
  | Gt => exact (og_int op_gt (fun i j H Q _ q => ⟨i, j, rfl, rfl, q⟩) fun _ _ => rfl).or (og_str op_gt_str (fun i j H Q p q => ⟨i, j, rfl, rfl, q⟩) fun _ _ => rfl)
  | GtE => exact og_int op_ge (fun i j H Q _ q => ⟨i, j, rfl, rfl, q⟩) fun _ _ => rfl
  | Is => exact og_is
  | IsNot => exact og_isnot
  | In => exact og_in hu hK
  | NotIn => exact og_notin hu hK
end
end Pu
namespace Pu
open PySem PySem.Spec PyProof.Rows L2
section
variable {T : Tb} {X : Cx} {Y : Fc} {σ : Sg} {H H1 H2 : Hp} {ρ ρ1 ρ2 : Rho} {B B1 B2 : Hp}
theorem PeL.nil (s : Sta T Y σ H ρ B) : PeL T Y σ H ρ B [] [] H ρ B :=
  ⟨Stp.refl s, rfl, fun k v r e => by simp at e, fun k d a e => by simp at e, fun j k d e a h => by simp at h⟩
theorem OwnAt.there {H B : Hp} {a : Addr} {d : D} (h : OwnAt T H B a d) : H a ≠ none := by
  obtain ⟨o, e⟩ := h.some; rw [e]; exact fun z => nomatch z
theorem PeL.cons {v : V} {r : RV} {vs : List V} {rs : List RV} (p : Pe T Y σ H ρ B v r H1 ρ1 B1) (q : PeL T Y σ H1 ρ1 B1 vs rs H2 ρ2 B2) : PeL T Y σ H ρ B (v :: vs) (r :: rs) H2 ρ2 B2 where
  stp := p.stp.trans q.stp
  len := congrArg Nat.succ q.len
  val := fun k v' r' e1 e2 => by
    cases k with
    | zero => simp at e1 e2; subst e1; subst e2; exact p.val.stp q.stp
    | succ k => exact q.val k v' r' (by simpa using e1) (by simpa using e2)
  new := fun k d a e1 e2 => by
    cases k with
    | zero => simp at e1 e2; exact p.new d a e1 e2
    | succ k => exact p.stp.fr a (q.new k d a (by simpa using e1) (by simpa using e2))
  dis := fun j k d e a h1 h2 h3 h4 => by
    have key : ∀ {k : Nat} {d e : D}, r = .ow d → v = .ref a → rs[k]? = some (.ow e) → vs[k]? = some (.ref a) → False := fun {k d e} er ev e3 e4 => by
      have n := q.new k e a e3 e4
      have := p.val
      rw [er] at this
      obtain ⟨a', ea, _, o, _⟩ := this
      rw [ev] at ea; cases ea
      exact o.there n
    cases j with
    | zero =>
      cases k with
      | zero => rfl
      | succ k => simp at h1 h2 h3 h4; exact (key h1 h3 h2 h4).elim
    | succ j =>
      cases k with
      | zero => simp at h1 h2 h3 h4; exact (key h2 h4 h1 h3).elim
      | succ k => exact congrArg Nat.succ (q.dis j k d e a (by simpa using h1) (by simpa using h2) (by simpa using h3) (by simpa using h4))
theorem PeL.pre {vs : List V} {rs : List RV} (p : Stp T Y σ H ρ B H1 ρ1 B1) (q : PeL T Y σ H1 ρ1 B1 vs rs H2 ρ2 B2) : PeL T Y σ H ρ B vs rs H2 ρ2 B2 :=
  ⟨p.trans q.stp, q.len, q.val, fun k d a e1 e2 => p.fr a (q.new k d a e1 e2), q.dis⟩
theorem PeL.two {x y : V} {ra rb : RV} (p : Pe T Y σ H ρ B x ra H1 ρ1 B1) (q : Pe T Y σ H1 ρ1 B1 y rb H2 ρ2 B2) : PeL T Y σ H ρ B [x, y] [ra, rb] H2 ρ2 B2 :=
  PeL.cons p (PeL.cons q (PeL.nil q.stp.st))
theorem stl_step {v : V} {r : RV} {d : D} (p : Stp T Y σ H ρ B H1 ρ1 B1) (h : VR T Y σ H1 ρ1 B1 v r) (new : ∀ d a, r = .ow d → v = .ref a → H a = none) (e : stl ρ1 r = some (d, ρ2)) :
    ∃ B2, Stp T Y σ H ρ B H1 ρ2 B2 ∧ Rep T B2 v d ∧ Le B1 B2 ∧ (∀ b, B2 b ≠ none → B1 b ≠ none ∨ (v = .ref b ∧ ((∃ d, r = .ow d) ∨ SA σ ρ1 b))) ∧ (∀ b, SA σ ρ2 b → SA σ ρ1 b) ∧ (∀ (i : Nat) (s : Sl), ρ1[i]? = some s → s ≠ .no → ∃ s' : Sl, ρ2[i]? = some s' ∧ s' ≠ .no) := by
  cases r with
  | im d' => cases e; exact ⟨B1, p, h, Le.refl _, fun b q => .inl q, fun b q => q, fun i s q n => ⟨s, q, n⟩⟩
  | ow d' =>
    cases e
    obtain ⟨a, ea, bn, o, ns, h0, nm⟩ := h
    have hna := new d a rfl ea
    obtain ⟨ob, ho⟩ := o.some
    obtain ⟨s', l⟩ := p.st.grow bn ho h0 ns
    subst ea
    refine ⟨upd B1 a ob, ⟨s', p.le.trans l, p.kp, fun b q => ?_, p.sa, p.sl, p.fr⟩, o.rep bn ho, l, fun b q => ?_, fun b q => q, fun i s q n => ⟨s, q, n⟩⟩
    · by_cases hb : b = a
      · subst hb; exact .inr (.inl hna)
      · rw [upd_ne hb] at q; exact p.bn b q
    · by_cases hb : b = a
      · subst hb; exact .inr ⟨rfl, .inl ⟨_, rfl⟩⟩
      · rw [upd_ne hb] at q; exact .inl q
  | bo i =>
    obtain ⟨ev, t, et, n⟩ := h
    cases t with
    | no => exact absurd rfl n
    | im d' =>
      simp [Pu.stl, et] at e
      obtain ⟨rfl, rfl⟩ := e
      obtain ⟨w, ew, r⟩ := p.st.slot i _ et
      rw [ev] at ew; cases ew
      exact ⟨B1, p, r, Le.refl _, fun b q => .inl q, fun b q => q, fun i s q n => ⟨s, q, n⟩⟩
    | ow d' =>
      simp [Pu.stl, et] at e
      obtain ⟨rfl, rfl⟩ := e
      obtain ⟨a, bn, o, h0, nm⟩ : ∃ a, B1 a = none ∧ OwnAt T H1 B1 a d' ∧ Y.H0 a = none ∧ σ[i]? = some (some (.ref a)) := by
        obtain ⟨a, ea, b, c, d, _⟩ := p.st.slot i _ et
        exact ⟨a, b, c, d, ea⟩
      obtain ⟨a', B', ea, p', r⟩ := p.st.cool et
      rw [ev] at ea; cases ea
      refine ⟨B', p.trans p', r, p'.le, fun b q => ?_, fun b q => p'.sa b q, p'.sl⟩
      rcases p'.bn b q with z | z | z
      · exact .inl z
      · have := p'.st.sub b
        cases qb : B' b with
        | none => exact absurd qb q
        | some u => rw [p'.st.sub b u qb] at z; cases z
      · by_cases hb : b = a'
        · subst hb; exact .inr ⟨rfl, .inr z⟩
        · by_cases q1 : B1 b = none
          · -- b is another slot's object
            obtain ⟨j, t, ej, ht, eb⟩ := z
            by_cases hij : j = i
            · subst hij
              rw [ev] at eb; cases eb; exact absurd rfl hb
            · have ej' : (ρ1.set i (.im d'))[j]? = some t := by rw [List.getElem?_set_ne (Ne.symm hij)]; exact ej
              have so := p'.st.slot j t ej'
              cases t with
              | no => cases ht
              | im => cases ht
              | ow =>
                obtain ⟨b', eb', bn', _⟩ := so
                rw [eb] at eb'; cases eb'
                exact absurd bn' q
              | mu =>
                obtain ⟨b', eb', bn', _⟩ := so
                rw [eb] at eb'; cases eb'
                exact absurd bn' q
          · exact .inl q1
    | mu d' => simp [Pu.stl, et] at e
/-- the rest of the results behind it -/
theorem PeL.rest {v : V} {r : RV} {vs : List V} {rs : List RV} {d : D} (q : PeL T Y σ H ρ B (v :: vs) (r :: rs) H1 ρ1 B1) (e : stl ρ1 r = some (d, ρ2)) : ∃ B2, PeL T Y σ H ρ B vs rs H1 ρ2 B2 ∧ Rep T B2 v d ∧ Le B1 B2 := by
  obtain ⟨B2, p2, rp, l, bn, sa, sl⟩ := stl_step q.stp (q.val 0 v r rfl rfl) (fun d a e1 e2 => q.new 0 d a (by rw [← e1]; rfl) (by rw [← e2]; rfl)) e
  refine ⟨B2, ⟨p2, Nat.succ.inj q.len, fun k v' r' e1 e2 => ?_, fun k d a e1 e2 => q.new (k + 1) d a (by simpa using e1) (by simpa using e2), fun j k d e a h1 h2 h3 h4 => ?_⟩, rp, l⟩
  · have o := q.val (k + 1) v' r' (by simpa using e1) (by simpa using e2)
    cases r' with
    | im d' => exact Rep.le l o
    | ow d' =>
      obtain ⟨a, ea, hn, o, ns, h0, nm⟩ := o
      refine ⟨a, ea, ?_, o.le l fun _ q => q, fun z => ns (sa a z), h0, nm⟩
      cases z : B2 a with
      | none => rfl
      | some u =>
        rcases bn a (by rw [z]; exact fun z => nomatch z) with y | ⟨ev, ⟨d2, er⟩ | y⟩
        · exact absurd hn y
        · have := q.dis 0 (k + 1) d2 d' a (by rw [er]; rfl) (by simpa using e2) (by rw [ev]; rfl) (by rw [List.getElem?_cons_succ, e1, ea])
          exact absurd this (by simp)
        · exact absurd y ns
    | bo i =>
      obtain ⟨ev, s, hs, n⟩ := o
      exact ⟨ev, sl i s hs n⟩
  · have := q.dis (j + 1) (k + 1) d e a (by simpa using h1) (by simpa using h2) (by simpa using h3) (by simpa using h4)
    exact Nat.succ.inj this

inductive Out where
  | ok (r : RV) (ms : List D) | exc (c : Nat) (fs : List (Nat × D)) (ms : List D) | bad
/-- the arguments: values, or lent objects (at as) -/
inductive Ars (T : Tb) (H B : Hp) : List Bool → List V → List D → List Addr → Prop
  | nil : Ars T H B [] [] [] []
  | im {v d fl vs ds as} : Rep T B v d → Ars T H B fl vs ds as → Ars T H B (false :: fl) (v :: vs) (d :: ds) as
  | mu {a d fl vs ds as} : B a = none → OwnAt T H B a d → a ∉ as → Ars T H B fl vs ds as → Ars T H B (true :: fl) (.ref a :: vs) (d :: ds) (a :: as)
/-- the lent objects behind the call -/
inductive Mus (T : Tb) (H B : Hp) : List Addr → List D → Prop
  | nil : Mus T H B [] []
  | cons {a d as ds} : B a = none → OwnAt T H B a d → Mus T H B as ds → Mus T H B (a :: as) (d :: ds)
structure Ret (T : Tb) (H B : Hp) (as : List Addr) (H' B' : Hp) (ms : List D) : Prop where
  le : Le B B'
  sub : ∀ a o, B' a = some o → H' a = some o
  kp : ∀ a o, H a = some o → a ∉ as → B a = none → H' a = some o
  bn : ∀ a, B' a ≠ none → B a ≠ none ∨ H a = none
  ms : Mus T H' B' as ms
  fr : ∀ a, H' a = none → H a = none
def RetV (T : Tb) (H H' B' : Hp) (v : V) : RV → Prop
  | .im d => Rep T B' v d
  | .ow d => ∃ a, v = .ref a ∧ B' a = none ∧ OwnAt T H' B' a d ∧ H a = none
  | .bo _ => False
def spR (T : Tb) (fl : List Bool) (F : List D → Out) : Sp := fun vs H Q E => ∃ B ds as, (∀ a o, B a = some o → H a = some o) ∧ Ars T H B fl vs ds as ∧ match F ds with
  | .ok r ms => ∀ v H' B', Ret T H B as H' B' ms → RetV T H H' B' v r → Q v H'
  | .exc c fs ms => ∀ dx gs H' B', Ret T H B as H' B' ms → H' dx = some (.xd gs) → H dx = none → RepF T B' gs fs → E (.ref (T.ca c)) (some dx) H'
  | .bad => False
/-- the arguments made ready: values settled, lent slots -/
def prep : List Bool → List RV → Rho → Option (List D × List Nat × Rho)
  | [], [], ρ => some ([], [], ρ)
  | false :: fl, r :: rs, ρ => match stl ρ r with
    | some (d, ρ1) => (match prep fl rs ρ1 with
      | some (ds, is, ρ2) => some (d :: ds, is, ρ2)
      | none => none)
    | none => none
  | true :: fl, .bo i :: rs, ρ => match prep fl rs ρ with
    | some (ds, is, ρ2) => if is.contains i then none else (match ρ2[i]? with
      | some (.ow d) => some (d :: ds, i :: is, ρ2)
      | some (.mu d) => some (d :: ds, i :: is, ρ2)
      | _ => none)
    | none => none
  | _, _, _ => none
/-- the slots of the lent objects -/
inductive Lent (σ : Sg) (ρ : Rho) : List Nat → List Addr → Prop
  | nil : Lent σ ρ [] []
  | cons {i a is as} {s : Sl} : ρ[i]? = some s → s.hot = true → σ[i]? = some (some (.ref a)) → i ∉ is → Lent σ ρ is as → Lent σ ρ (i :: is) (a :: as)
theorem Lent.mem (h : Lent σ ρ is as) : ∀ a, a ∈ as → ∃ (i : Nat) (s : Sl), i ∈ is ∧ ρ[i]? = some s ∧ s.hot = true ∧ σ[i]? = some (some (.ref a)) := by
  induction h with
  | nil => intro a h; cases h
  | cons h1 h2 h3 h4 _ ih =>
    intro a h
    rcases List.mem_cons.mp h with rfl | h
    · exact ⟨_, _, List.mem_cons_self, h1, h2, h3⟩
    · obtain ⟨i, s, a1, a2⟩ := ih a h
      exact ⟨i, s, List.mem_cons_of_mem _ a1, a2⟩
theorem Lent.sa (h : Lent σ ρ is as) {a : Addr} (m : a ∈ as) : SA σ ρ a := by
  obtain ⟨i, s, _, h1, h2, h3⟩ := h.mem a m
  exact ⟨i, s, h1, h2, h3⟩
theorem prep_ok : ∀ {fl : List Bool} {rs : List RV} {vs : List V} {ρ1 ρ2 : Rho} {B1 : Hp} {ds : List D} {is : List Nat}, PeL T Y σ H ρ B vs rs H1 ρ1 B1 → prep fl rs ρ1 = some (ds, is, ρ2) →
    ∃ B2 as, Stp T Y σ H ρ B H1 ρ2 B2 ∧ Le B1 B2 ∧ Ars T H1 B2 fl vs ds as ∧ Lent σ ρ2 is as
  | [], [], vs, ρ1, ρ2, B1, ds, is, q, e => by
    cases e
    have : vs = [] := List.length_eq_zero_iff.mp q.len
    subst this
    exact ⟨B1, [], q.stp, Le.refl _, .nil, .nil⟩
  | false :: fl, r :: rs, vs, ρ1, ρ2, B1, ds, is, q, e => by
    cases vs with
    | nil => cases q.len
    | cons v vs =>
      unfold prep at e
      cases e1 : stl ρ1 r with
      | none => rw [e1] at e; cases e
      | some z =>
        obtain ⟨d, ρ3⟩ := z
        rw [e1] at e
        cases e2 : prep fl rs ρ3 with
        | none => simp only [e2] at e; cases e
        | some z =>
          obtain ⟨ds', is', ρ4⟩ := z
          simp only [e2] at e
          cases e
          obtain ⟨B2, q2, rp, l⟩ := q.rest e1
          obtain ⟨B3, as, p3, l3, ars, le⟩ := prep_ok q2 e2
          exact ⟨B3, as, p3, l.trans l3, .im (rp.le l3) ars, le⟩
  | true :: fl, r :: rs, vs, ρ1, ρ2, B1, ds, is, q, e => by
    cases vs with
    | nil => cases q.len
    | cons v vs =>
      cases r with
      | im => cases e
      | ow => cases e
      | bo i =>
        unfold prep at e
        cases e2 : prep fl rs ρ1 with
        | none => simp only [e2] at e; cases e
        | some z =>
          obtain ⟨ds', is', ρ4⟩ := z
          simp only [e2] at e
          have tail : PeL T Y σ H ρ B vs rs H1 ρ1 B1 := ⟨q.stp, Nat.succ.inj q.len, fun k v' r' a b => q.val (k + 1) v' r' (by simpa using a) (by simpa using b), fun k d a c b => q.new (k + 1) d a (by simpa using c) (by simpa using b), fun j k d e a h1 h2 h3 h4 => Nat.succ.inj (q.dis (j + 1) (k + 1) d e a (by simpa using h1) (by simpa using h2) (by simpa using h3) (by simpa using h4))⟩
          obtain ⟨B3, as, p3, l3, ars, le⟩ := prep_ok tail e2
          obtain ⟨ev, _⟩ := q.val 0 v (.bo i) rfl rfl
          split at e
          · cases e
          · rename_i hc
            have hni : i ∉ is' := fun z => hc (List.contains_iff_mem.mpr z)
            have key : ∀ {d : D} {s : Sl}, ρ4[i]? = some s → s.hot = true → (∃ a, σ[i]? = some (some (.ref a)) ∧ B3 a = none ∧ OwnAt T H1 B3 a d) → ∃ a, v = .ref a ∧ B3 a = none ∧ OwnAt T H1 B3 a d ∧ a ∉ as := fun {d s} e1 hs ⟨a, ea, bn, o⟩ => by
              rw [ev] at ea; cases ea
              refine ⟨a, rfl, bn, o, fun z => ?_⟩
              obtain ⟨j, t, mj, ej, ht, eb⟩ := le.mem a z
              have := p3.st.dist i j s t a e1 ej hs ht ev eb
              subst this
              exact hni mj
            split at e
            · rename_i d hi
              cases e
              obtain ⟨a, ea, bn, o, _⟩ := p3.st.slot i _ hi
              obtain ⟨a', rfl, bn, o, na⟩ := key hi rfl ⟨a, ea, bn, o⟩
              exact ⟨B3, a' :: as, p3, l3, .mu bn o na ars, .cons hi rfl ev hni le⟩
            · rename_i d hi
              cases e
              obtain ⟨a, ea, bn, o, _⟩ := p3.st.slot i _ hi
              obtain ⟨a', rfl, bn, o, na⟩ := key hi rfl ⟨a, ea, bn, o⟩
              exact ⟨B3, a' :: as, p3, l3, .mu bn o na ars, .cons hi rfl ev hni le⟩
            · cases e
  | [], _ :: _, _, _, _, _, _, _, _, e => by simp [prep] at e
  | b :: _, [], _, _, _, _, _, _, _, e => by cases b <;> simp [prep] at e
/-- the slots' new contents -/
def setS (ρ : Rho) (i : Nat) (d : D) : Rho := match ρ[i]? with
  | some (.ow _) => ρ.set i (.ow d)
  | some (.mu _) => ρ.set i (.mu d)
  | _ => ρ
def putS (ρ : Rho) : List Nat → List D → Rho
  | i :: is, d :: ds => putS (setS ρ i d) is ds
  | _, _ => ρ
def Out.rs (ρ : Rho) (is : List Nat) : Out → Rs RV
  | .ok r ms => .ok r (putS ρ is ms)
  | .exc c fs ms => .exc c fs (putS ρ is ms)
  | .bad => .bad

theorem setS_len {i : Nat} {d : D} : (setS ρ i d).length = ρ.length := by
  unfold setS; split <;> simp
theorem putS_len : ∀ {is : List Nat} {ds : List D} {ρ : Rho}, (putS ρ is ds).length = ρ.length
  | [], _, _ => by unfold putS; rfl
  | _ :: _, [], _ => by unfold putS; rfl
  | i :: is, d :: ds, ρ => by unfold putS; rw [putS_len, setS_len]
theorem setS_ne {i j : Nat} {d : D} (h : i ≠ j) : (setS ρ i d)[j]? = ρ[j]? := by
  unfold setS; split <;> first | exact List.getElem?_set_ne h | rfl
theorem setS_hot {i : Nat} {d : D} {s : Sl} (e : ρ[i]? = some s) (h : s.hot = true) : ((setS ρ i d)[i]? = some (.ow d) ∧ ∃ e, ρ[i]? = some (.ow e)) ∨ ((setS ρ i d)[i]? = some (.mu d) ∧ ∃ e, ρ[i]? = some (.mu e)) := by
  have hi : i < ρ.length := (List.getElem?_eq_some_iff.mp e).1
  cases s with
  | no => cases h
  | im => cases h
  | ow x => left; refine ⟨?_, x, e⟩; unfold setS; rw [e]; exact List.getElem?_set_self hi
  | mu x => right; refine ⟨?_, x, e⟩; unfold setS; rw [e]; exact List.getElem?_set_self hi
theorem Lent.setS {i : Nat} {d : D} {is : List Nat} {as : List Addr} (L : Lent σ ρ is as) (h : i ∉ is) : Lent σ (Pu.setS ρ i d) is as := by
  induction L with
  | nil => exact .nil
  | cons k1 k2 k3 k4 _ ih => exact .cons (by rw [setS_ne fun z => h (by rw [z]; exact List.mem_cons_self)]; exact k1) k2 k3 k4 (ih fun z => h (List.mem_cons_of_mem _ z))
theorem put_get {is : List Nat} {as : List Addr} {H' B' : Hp} : ∀ {ρ : Rho} {ms : List D}, Lent σ ρ is as → Mus T H' B' as ms → ∀ (j : Nat) (s : Sl), (putS ρ is ms)[j]? = some s →
    (ρ[j]? = some s ∧ j ∉ is) ∨ ∃ a d, a ∈ as ∧ σ[j]? = some (some (.ref a)) ∧ B' a = none ∧ OwnAt T H' B' a d ∧ ((s = .ow d ∧ ∃ e, ρ[j]? = some (.ow e)) ∨ (s = .mu d ∧ ∃ e, ρ[j]? = some (.mu e))) := by
  induction is generalizing as with
  | nil => intro ρ ms L M j s e; cases L; cases M; exact .inl ⟨by unfold putS at e; exact e, by simp⟩
  | cons i is ih =>
    intro ρ ms L M j s e
    cases L with
    | @cons _ a _ as' t h1 h2 h3 h4 L' =>
      cases M with
      | @cons _ d _ ms' bn o M' =>
        unfold putS at e
        have L2 : Lent σ (setS ρ i d) is as' := by
          exact Lent.setS L' h4
        rcases ih L2 M' j s e with ⟨e1, e2⟩ | ⟨a', d', m, ev, bn', o', c⟩
        · by_cases hij : i = j
          · subst hij
            right
            refine ⟨a, d, List.mem_cons_self, h3, bn, o, ?_⟩
            rcases setS_hot (d := d) h1 h2 with ⟨e3, x, e4⟩ | ⟨e3, x, e4⟩
            · rw [e1] at e3; cases e3; exact .inl ⟨rfl, x, e4⟩
            · rw [e1] at e3; cases e3; exact .inr ⟨rfl, x, e4⟩
          · rw [setS_ne hij] at e1
            exact .inl ⟨e1, fun z => by rcases List.mem_cons.mp z with rfl | z; exact hij rfl; exact e2 z⟩
        · right
          refine ⟨a', d', List.mem_cons_of_mem _ m, ev, bn', o', ?_⟩
          by_cases hij : i = j
          · subst hij
            rcases setS_hot (d := d) h1 h2 with ⟨e3, x, e4⟩ | ⟨e3, x, e4⟩
            · rcases c with ⟨c, y, cy⟩ | ⟨c, y, cy⟩
              · exact .inl ⟨c, x, e4⟩
              · rw [cy] at e3; cases e3
            · rcases c with ⟨c, y, cy⟩ | ⟨c, y, cy⟩
              · rw [cy] at e3; cases e3
              · exact .inr ⟨c, x, e4⟩
          · rw [setS_ne hij] at c
            exact c
/-- the state behind a call -/
theorem ret_step {is : List Nat} {as : List Addr} {ms : List D} {H' B' : Hp} (s : Sta T Y σ H ρ B) (L : Lent σ ρ is as) (r : Ret T H B as H' B' ms) : Stp T Y σ H ρ B H' (putS ρ is ms) B' := by
  have pg := put_get L r.ms
  have len := putS_len (ρ := ρ) (is := is) (ds := ms)
  have hot : ∀ {j : Nat} {t : Sl}, (putS ρ is ms)[j]? = some t → t.hot = true → ∃ u : Sl, ρ[j]? = some u ∧ u.hot = true := fun {j t} e h => by
    rcases pg j t e with ⟨e1, _⟩ | ⟨a, d, _, _, _, _, ⟨_, x, e1⟩ | ⟨_, x, e1⟩⟩
    · exact ⟨t, e1, h⟩
    · exact ⟨_, e1, rfl⟩
    · exact ⟨_, e1, rfl⟩
  have na : ∀ {a : Addr}, a ∈ as → ∀ {o}, Y.H0 a = some o → a ∈ Y.ms := fun {a} m {o} e => by
    obtain ⟨i, t, _, h1, h2, h3⟩ := L.mem a m
    have so := s.slot i t h1
    cases t with
    | no => cases h2
    | im => cases h2
    | ow => obtain ⟨b, eb, _, _, h0, _⟩ := so; rw [h3] at eb; cases eb; rw [h0] at e; cases e
    | mu => obtain ⟨b, eb, _, _, hm⟩ := so; rw [h3] at eb; cases eb; exact List.mem_map.mpr ⟨_, hm, rfl⟩
  have keepOwn : ∀ {j : Nat} {t : Sl} {b : Addr}, ρ[j]? = some t → t.hot = true → σ[j]? = some (some (.ref b)) → j ∉ is → b ∉ as := fun {j t b} e h ev ni m => by
    obtain ⟨i, u, mi, h1, h2, h3⟩ := L.mem b m
    have := s.dist i j u t b h1 e h2 h h3 ev
    subst this
    exact ni mi
  have keepB : ∀ {a : Addr} {o : HO}, Y.H0 a = some o → a ∉ Y.ms → Y.B0 a = none → B a = none := fun {a o} e n b => by
    cases q : B a with
    | none => rfl
    | some u =>
      rcases s.bnew a (by rw [q]; exact fun z => nomatch z) with y | y
      · exact absurd b y
      · rw [e] at y; cases y
  have bnn : ∀ {a : Addr}, B a = none → H a ≠ none → B' a = none := fun {a} h1 h2 => by
    cases q : B' a with
    | none => rfl
    | some u =>
      rcases r.bn a (by rw [q]; exact fun z => nomatch z) with z | z
      · exact absurd h1 z
      · exact absurd z h2
  refine ⟨⟨by rw [len]; exact s.len, r.sub, fun a o e n b => r.kp a o (s.keep a o e n b) (fun m => n (na m e)) (keepB e n b), s.b0.trans r.le, fun a q => ?_, fun j t e => ?_, fun i j t u a e1 e2 h1 h2 v1 v2 => ?_, fun p hp => ?_⟩, r.le, fun a o e n b => r.kp a o e (fun m => n (L.sa m)) b, fun a q => ?_, fun a ⟨j, t, e, h, ev⟩ => ?_, fun j t e n => ?_, r.fr⟩
  · rcases r.bn a q with z | z
    · exact s.bnew a z
    · exact .inr (s.h0 z).1
  · rcases pg j t e with ⟨e1, ni⟩ | ⟨a, d, m, ev, bn, o, c⟩
    · have so := s.slot j t e1
      cases t with
      | no => trivial
      | im d => obtain ⟨v, ev, rr⟩ := so; exact ⟨v, ev, rr.le r.le⟩
      | ow d =>
        obtain ⟨b, eb, hb, ob, h0, nm⟩ := so
        exact ⟨b, eb, bnn hb ob.there, ob.le r.le fun u q => r.kp b u q (keepOwn e1 rfl eb ni) hb, h0, nm⟩
      | mu d =>
        obtain ⟨b, eb, hb, ob, hm⟩ := so
        exact ⟨b, eb, bnn hb ob.there, ob.le r.le fun u q => r.kp b u q (keepOwn e1 rfl eb ni) hb, hm⟩
    · rcases c with ⟨rfl, x, e1⟩ | ⟨rfl, x, e1⟩
      · obtain ⟨b, eb, hb, ob, h0, nm⟩ := s.slot j _ e1
        rw [ev] at eb; cases eb
        exact ⟨a, ev, bn, o, h0, nm⟩
      · obtain ⟨b, eb, hb, ob, hm⟩ := s.slot j _ e1
        rw [ev] at eb; cases eb
        exact ⟨a, ev, bn, o, hm⟩
  · obtain ⟨t', e1', h1'⟩ := hot e1 h1
    obtain ⟨u', e2', h2'⟩ := hot e2 h2
    exact s.dist i j t' u' a e1' e2' h1' h2' v1 v2
  · obtain ⟨⟨d, e⟩, ev⟩ := s.mus p hp
    refine ⟨?_, ev⟩
    have hl : p.1 < (putS ρ is ms).length := by rw [len]; exact (List.getElem?_eq_some_iff.mp e).1
    rcases pg p.1 _ (List.getElem?_eq_getElem hl) with ⟨e1, _⟩ | ⟨a, d', _, _, _, _, ⟨_, x, e1⟩ | ⟨e2, x, e1⟩⟩
    · rw [e] at e1; exact ⟨d, by rw [List.getElem?_eq_getElem hl, ← e1]⟩
    · rw [e] at e1; cases e1
    · exact ⟨d', by rw [List.getElem?_eq_getElem hl, e2]⟩
  · rcases r.bn a q with z | z
    · exact .inl z
    · exact .inr (.inl z)
  · obtain ⟨t', e', h'⟩ := hot e h
    exact ⟨j, t', e', h', ev⟩
  · have hl : j < (putS ρ is ms).length := by rw [len]; exact (List.getElem?_eq_some_iff.mp e).1
    refine ⟨_, List.getElem?_eq_getElem hl, fun z => ?_⟩
    rcases pg j _ (List.getElem?_eq_getElem hl) with ⟨e1, _⟩ | ⟨a, d', _, _, _, _, ⟨e2, _⟩ | ⟨e2, _⟩⟩
    · rw [e] at e1; cases e1; exact n z
    · rw [z] at e2; cases e2
    · rw [z] at e2; cases e2
theorem ret_val {is : List Nat} {as : List Addr} {ms : List D} {H' B' : Hp} {v : V} {rv : RV} (s : Sta T Y σ H ρ B) (L : Lent σ ρ is as) (r : Ret T H B as H' B' ms) (h : RetV T H H' B' v rv) : VR T Y σ H' (putS ρ is ms) B' v rv ∧ ∀ d a, rv = .ow d → v = .ref a → H a = none := by
  cases rv with
  | im d => exact ⟨h, fun d a z => nomatch z⟩
  | ow d =>
    obtain ⟨a, ea, bn, o, hn⟩ := h
    refine ⟨⟨a, ea, bn, o, fun z => ?_, (s.h0 hn).1, (s.h0 hn).2⟩, fun d' a' _ e => by rw [ea] at e; cases e; exact hn⟩
    exact (s.fresh (o := .own 0) hn).2.1 ((ret_step s L r).sa a z)
  | bo i => exact h.elim
/-- a call of a promise, from the arguments on -/
theorem call_run {F : List D → Out} {fl : List Bool} {W : WX} {vs : List V} {rs : List RV} {ds : List D} {is : List Nat} {Q : VK} (q : PeL T Y σ H ρ B vs rs H1 ρ1 B1) (e : prep fl rs ρ1 = some (ds, is, ρ2)) (h : Aft T W Y σ H ρ B ((F ds).rs ρ2 is) fun r ρ' => ∀ v H' B', Pe T Y σ H ρ B v r H' ρ' B' → Q v H') :
    spR T fl F vs H1 Q (fun c d H' => W c d σ H') := by
  obtain ⟨B2, as, p, l, ars, L⟩ := prep_ok q e
  refine ⟨B2, ds, as, p.st.sub, ars, ?_⟩
  cases ef : F ds with
  | bad => rw [ef] at h; exact h
  | ok r ms =>
    rw [ef] at h
    intro v H' B' rt rv
    obtain ⟨vr, nw⟩ := ret_val p.st L rt rv
    have st := p.trans (ret_step p.st L rt)
    exact h v H' B' ⟨st, vr, fun d a e1 e2 => p.fr a (nw d a e1 e2)⟩
  | exc c fs ms =>
    rw [ef] at h
    intro dx gs H' B' rt hd hn rf
    have st := p.trans (ret_step p.st L rt)
    exact h dx gs H' B' st hd (p.fr dx hn) rf
/-- the callee runs -/
theorem run_fnS {k : Nat} {f : Addr} {sp : Sp} {W : WX} {pins : List (Addr × Obj)} {σ : Sg} {H : Hp} {s : Shared} {Q : VK} {us : List Value} {vs : List V} (F : FnR X.prog X.w X.K X.mg X.base (CX X.prog X.w) k f sp) (hr : Room k X.A) (tk : Takes X W) (I : Inv X pins σ H s) (r : Vals vs us) (h : sp vs H Q fun c d H' => W c d σ H') :
    wpAny (model X.prog X.w) X.A (call (.ref f) us) (EP X pins σ Q) X.xe s := by
  refine wpAny_call (codeAny_mono (F X.A X.stack s H us vs Q _ hr I.env0 r h) fun r' s' hq => ?_)
  cases r' with
  | error e => exact tk _ _ (XE.of_call I (fun _ _ _ h => h) hq)
  | ok fl =>
    cases fl with
    | ret u => exact I.after hq
    | _ => exact hq.elim
end
end Pu
namespace Pu
open PySem PySem.Spec PyProof.Rows L2
section
variable {T : Tb} {X : Cx} {a b c e o : Expr} {es : List Expr} {pos : Pos} {fa fb fc : EF} {fl fr : LF}

def isStar : Expr → Bool
  | .Starred _ _ => true
  | _ => false
theorem star_cons {env : PySem.Env} (h : isStar e = false) : starEach (e :: es) env = (false, eval e env) :: starEach es env := by
  cases e <;> first | rfl | cases h
theorem star_any {env : PySem.Env} : ∀ {es : List Expr}, es.all (fun e => !isStar e) = true → (backTo pos (starEach es env)).any (·.1) = false
  | [], _ => rfl
  | e :: es, h => by
    rw [List.all_cons, Bool.and_eq_true] at h
    rw [star_cons (by simpa using h.1)]
    show (false || (backTo pos (starEach es env)).any (·.1)) = false
    rw [star_any h.2]; rfl
def lNil : LF := fun ρ => .ok [] ρ
def lCons (fa : EF) (fr : LF) : LF := fun ρ => (fa ρ).bind fun r ρ1 => (fr ρ1).bind fun rs ρ2 => .ok (r :: rs) ρ2
theorem jl_nil : JL T X [] lNil := fun W tk => PA.imp pa_nil fun σ H Q ⟨Y, ρ, B, s, h⟩ => h [] H B (PeL.nil s)
theorem jl_cons (ha : JE T X e fa) (hr : JL T X es fr) (hs : isStar e = false) : JL T X (e :: es) (lCons fa fr) := fun W tk =>
  PA.imp (pa_cons (ha W tk) (hr W tk) (star_cons hs)) fun σ H Q ⟨Y, ρ, B, s, h⟩ =>
    ⟨Y, ρ, B, s, (Aft.bind h).imp fun r ρ1 h1 v H1 B1 p => ⟨Y, ρ1, B1, p.stp.st, (Aft.after p.stp h1).bind.imp fun rs ρ2 h2 vs H2 B2 q => h2 (v :: vs) H2 B2 (PeL.cons p q)⟩⟩
/-- all settled -/
def setl : List RV → Rho → Option (List D × Rho)
  | [], ρ => some ([], ρ)
  | r :: rs, ρ => match stl ρ r with
    | some (d, ρ1) => (match setl rs ρ1 with
      | some (ds, ρ2) => some (d :: ds, ρ2)
      | none => none)
    | none => none
theorem setl_ok {Y : Fc} {σ : Sg} {H H1 : Hp} {ρ : Rho} {B : Hp} : ∀ {rs : List RV} {vs : List V} {ρ1 ρ2 : Rho} {B1 : Hp} {ds : List D}, PeL T Y σ H ρ B vs rs H1 ρ1 B1 → setl rs ρ1 = some (ds, ρ2) → ∃ B2, Stp T Y σ H ρ B H1 ρ2 B2 ∧ RepL T B2 vs ds ∧ Le B1 B2
  | [], vs, ρ1, ρ2, B1, ds, q, e => by
    cases e
    have : vs = [] := List.length_eq_zero_iff.mp q.len
    subst this
    exact ⟨B1, q.stp, .nil, Le.refl _⟩
  | r :: rs, vs, ρ1, ρ2, B1, ds, q, e => by
    cases vs with
    | nil => cases q.len
    | cons v vs =>
      unfold setl at e
      cases e1 : stl ρ1 r with
      | none => rw [e1] at e; cases e
      | some z =>
        obtain ⟨d, ρ3⟩ := z
        rw [e1] at e
        cases e2 : setl rs ρ3 with
        | none => simp only [e2] at e; cases e
        | some z =>
          obtain ⟨ds', ρ4⟩ := z
          simp only [e2] at e
          cases e
          obtain ⟨B2, q2, rp, l⟩ := q.rest e1
          obtain ⟨B3, p3, rl, l3⟩ := setl_ok q2 e2
          exact ⟨B3, p3, .cons (rp.le l3) rl, l.trans l3⟩
def eLst (f : LF) : EF := fun ρ => (f ρ).bind fun rs ρ1 => match setl rs ρ1 with
  | some (ds, ρ2) => if ds.length ≤ sizeLine then .ok (.ow (.lst ds)) ρ2 else .bad
  | none => .bad
def eTup (f : LF) : EF := fun ρ => (f ρ).bind fun rs ρ1 => match setl rs ρ1 with
  | some (ds, ρ2) => if ds.length ≤ sizeLine then .ok (.im (.tup ds)) ρ2 else .bad
  | none => .bad
theorem je_lst (h : JL T X es fl) : JE T X (.List es pos) (eLst fl) := fun W tk => PE.imp (pe_lst (h W tk)) fun σ H Q ⟨Y, ρ, B, s, h⟩ => ⟨Y, ρ, B, s, (Aft.bind h).imp fun rs ρ1 h1 vs H1 B1 q => by
  split at h1
  · rename_i ds ρ2 e
    split at h1
    · rename_i hz
      obtain ⟨B2, p, rl, _⟩ := setl_ok q e
      refine ⟨by rw [rl.length]; exact hz, fun n hn => h1 _ _ _ (Pe.after p (Pe.laid p.st hn ⟨vs, upd_same, rl⟩))⟩
    · exact h1.elim
  · exact h1.elim⟩
theorem je_tup {k : Nat} (h : JL T X es fl) : JE T X (.Tuple es k pos) (eTup fl) := fun W tk => PE.imp (pe_tup (h W tk)) fun σ H Q ⟨Y, ρ, B, s, h⟩ => ⟨Y, ρ, B, s, (Aft.bind h).imp fun rs ρ1 h1 vs H1 B1 q => by
  split at h1
  · rename_i ds ρ2 e
    split at h1
    · rename_i hz
      obtain ⟨B2, p, rl, _⟩ := setl_ok q e
      refine ⟨by rw [rl.length]; exact hz, fun n hn => h1 _ _ _ (Pe.after p (Pe.laidT p.st hn rl))⟩
    · exact h1.elim
  · exact h1.elim⟩

inductive Oh where
  | ov (o : Ov) | call (F : List D → Out) (sw : Bool)
def Oh.fin (ρ : Rho) (ra rb : RV) : Oh → Rs RV
  | .ov o => o.rs ρ
  | .call F sw => match setl [ra, rb] ρ with
    | some ([a, b], ρ') => (F (if sw = true then [b, a] else [a, b])).rs ρ' []
    | _ => .bad
def eOp (g : D → D → Oh) (fa fb : EF) : EF := fun ρ => (fa ρ).bind fun ra ρ1 => (fb ρ1).bind fun rb ρ2 => match rdv ρ2 ra, rdv ρ2 rb with
  | some a, some b => (g a b).fin ρ2 ra rb
  | _, _ => .bad
/-- behind the two operands -/
structure Two (T : Tb) (W : WX) (Y : Fc) (σ : Sg) (H1 : Hp) (x y : V) (g : D → D → Oh) (Q : VK) : Prop where
  of : ∃ (H : Hp) (ρ : Rho) (B : Hp) (ra rb : RV) (ρ2 : Rho) (B2 : Hp) (a b : D), PeL T Y σ H ρ B [x, y] [ra, rb] H1 ρ2 B2 ∧ rdv ρ2 ra = some a ∧ rdv ρ2 rb = some b ∧
    Aft T W Y σ H ρ B ((g a b).fin ρ2 ra rb) fun r ρ' => ∀ v H' B', Pe T Y σ H ρ B v r H' ρ' B' → Q v H'
def OpH (T : Tb) (X : Cx) (f : Value → Value → Sem Value) (g : D → D → Oh) : Prop :=
  ∀ (W : WX), Takes X W → ∀ (pins : List (Addr × Obj)) (s : Shared) (σ : Sg) (H1 : Hp) (x y : V) (v u : Value) (Q : VK) (Y : Fc), Inv X pins σ H1 s → RelV x v → RelV y u →
    Two T W Y σ H1 x y g Q → wpAny (model X.prog X.w) X.A (f v u) (EP X pins σ Q) X.xe s
theorem OpG.oh {f : Value → Value → Sem Value} {g : D → D → Ov} (h : OpG T X f g) : OpH T X f (fun a b => .ov (g a b)) := by
  intro W tk pins s σ H1 x y v u Q Y I rx ry ⟨H, ρ, B, ra, rb, ρ2, B2, a, b, q, e1, e2, k⟩
  have st := q.stp.st
  have v1 := q.val 0 x ra rfl rfl
  have v2 := q.val 1 y rb rfl rfl
  refine h W tk pins s σ H1 x y v u Q Y ρ2 B2 a b I rx ry st (v1.top st e1) (v2.top st e2) ?_
  have k : Aft T W Y σ H ρ B ((g a b).rs ρ2) fun r ρ' => ∀ v H' B', Pe T Y σ H ρ B v r H' ρ' B' → Q v H' := k
  exact (Aft.after q.stp k).imp fun r ρ' k v' H' B' p => k v' H' B' (Pe.after q.stp p)
/-- the first where it says anything -/
def Oh.bad : Oh → Bool
  | .ov .bad => true
  | _ => false
def Oh.or (x y : Oh) : Oh := if x.bad = true then y else x
theorem OpH.or {f : Value → Value → Sem Value} {g g' : D → D → Oh} (h : OpH T X f g) (h' : OpH T X f g') : OpH T X f (fun a b => (g a b).or (g' a b)) := by
  intro W tk pins s σ H1 x y v u Q Y I rx ry ⟨H, ρ, B, ra, rb, ρ2, B2, a, b, q, e1, e2, k⟩
  have k : Aft T W Y σ H ρ B (((g a b).or (g' a b)).fin ρ2 ra rb) fun r ρ' => ∀ v H' B', Pe T Y σ H ρ B v r H' ρ' B' → Q v H' := k
  by_cases z : (g a b).bad = true
  · rw [Oh.or, if_pos z] at k
    exact h' W tk pins s σ H1 x y v u Q Y I rx ry ⟨H, ρ, B, ra, rb, ρ2, B2, a, b, q, e1, e2, k⟩
  · rw [Oh.or, if_neg z] at k
    exact h W tk pins s σ H1 x y v u Q Y I rx ry ⟨H, ρ, B, ra, rb, ρ2, B2, a, b, q, e1, e2, k⟩
theorem op_run {f : Value → Value → Sem Value} {g : D → D → Oh} (ho : OpH T X f g) (ha : JE T X a fa) (hb : JE T X b fb) {W : WX} (tk : Takes X W) {pins : List (Addr × Obj)} {s : Shared} {σ : Sg} {H : Hp} {Q : VK} {R : Value → Shared → Prop} (hR : ∀ c s, EP X pins σ Q c s → R c s) (I : Inv X pins σ H s) (h : tE T W (eOp g fa fb) σ H Q) :
    wpAny (model X.prog X.w) X.A (eval a X.env) (fun v s₁ => wpAny (model X.prog X.w) X.A (eval b X.env) (fun u s₂ => wpAny (model X.prog X.w) X.A (f v u) R X.xe s₂) X.xe s₁) X.xe s := by
  obtain ⟨Y, ρ, B, st, h⟩ := h
  refine binT (R := fun x y H2 => Two T W Y σ H2 x y g Q) (ha W tk) (hb W tk) I ?_ ?_
  · refine ⟨Y, ρ, B, st, h.bind.imp fun ra ρ1 h1 v H1 B1 p1 => ⟨Y, ρ1, B1, p1.stp.st, (Aft.after p1.stp h1.bind).imp fun rb ρ2 h2 u H2 B2 p2 => ?_⟩⟩
    split at h2
    · rename_i d e e1 e2
      exact ⟨H, ρ, B, ra, rb, ρ2, B2, d, e, PeL.two p1 p2, e1, e2, h2⟩
    · exact h2.elim
  · intro v u s2 x y H2 I2 rx ry q
    exact thn (ho W tk pins s2 σ H2 x y v u Q Y I2 rx ry q) hR

theorem je_bin2 {op : Operator} {g : D → D → Oh} (ho : OpH T X (binaryOp op) g) (ha : JE T X a fa) (hb : JE T X b fb) : JE T X (.BinOp a op b pos) (eOp g fa fb) := fun W tk =>
  ⟨fun pins s σ H Q I h => wpAny_BinOp (op_run ho ha hb tk (fun _ _ z => z) I h)⟩
/-- a rule of the kit on two operands: a value that stands already -/
def gV (g : D → D → Option D) : D → D → Oh := fun a b => match g a b with
  | some d => .ov (.ok (.im d))
  | none => .ov .bad
theorem je_rule {r : R2} {g : D → D → Option D} {e' : Expr} (rule : ∀ ta tb, PE X a ta → PE X b tb → PE X e' (tOp r ta tb))
    (hi : ∀ (H B : Hp) (x y : V) (d e f : D) (Q : VK), (∀ a o, B a = some o → H a = some o) → Tp T H B x d → Tp T H B y e → g d e = some f → (∀ v, Rep T B v f → Q v H) → r x y H Q) (ha : JE T X a fa) (hb : JE T X b fb) : JE T X e' (eOp (gV g) fa fb) := fun W tk =>
  PE.imp (rule _ _ (ha W tk) (hb W tk)) fun σ H Q ⟨Y, ρ, B, st, h⟩ => by
    refine ⟨Y, ρ, B, st, h.bind.imp fun ra ρ1 h1 v H1 B1 p1 => ⟨Y, ρ1, B1, p1.stp.st, (Aft.after p1.stp h1.bind).imp fun rb ρ2 h2 u H2 B2 p2 => ?_⟩⟩
    split at h2
    · rename_i d e e1 e2
      unfold gV at h2
      split at h2
      · rename_i f ef
        have st2 := p2.stp.st
        exact hi H2 B2 v u d e f Q st2.sub ((p1.val.stp p2.stp).top st2 e1) (p2.val.top st2 e2) ef fun w rw => h2 w H2 B2 (Pe.after p1.stp (Pe.after p2.stp (Pe.im st2 rw)))
      · exact h2.elim
    · exact h2.elim
/-- two ways to read the operation -/
theorem je_or2 {g g' : D → D → Oh} {e' : Expr} (h : JE T X e' (eOp g fa fb)) (h' : JE T X e' (eOp g' fa fb)) : JE T X e' (eOp (fun a b => (g a b).or (g' a b)) fa fb) := fun W tk => ⟨fun pins s σ H Q I ⟨Y, ρ, B, st, k⟩ => by
  have : eOp (fun a b => (g a b).or (g' a b)) fa fb ρ = eOp g fa fb ρ ∨ eOp (fun a b => (g a b).or (g' a b)) fa fb ρ = eOp g' fa fb ρ := by
    unfold eOp
    cases fa ρ with
    | bad => exact .inl rfl
    | exc => exact .inl rfl
    | ok ra ρ1 =>
      show ((fb ρ1).bind _) = ((fb ρ1).bind _) ∨ ((fb ρ1).bind _) = ((fb ρ1).bind _)
      cases fb ρ1 with
      | bad => exact .inl rfl
      | exc => exact .inl rfl
      | ok rb ρ2 =>
        simp only [Rs.bind]
        split
        · unfold Oh.or
          split
          · exact .inr rfl
          · exact .inl rfl
        · exact .inl rfl
  rcases this with e1 | e1
  · exact (h W tk).run pins s σ H Q I ⟨Y, ρ, B, st, by rw [← e1]; exact k⟩
  · exact (h' W tk).run pins s σ H Q I ⟨Y, ρ, B, st, by rw [← e1]; exact k⟩⟩

def bIx : D → D → Option D
  | .str z, .int i => if z.length ≤ sizeLine then (atI z.cps.toList i).map fun c => .str ⟨#[c]⟩ else none
  | a, .int i => match asS a with
    | some ds => atI ds i
    | none => none
  | _, _ => none
theorem RepL.atI {B : Hp} {vs : List V} {ds : List D} {i : Int} {d : D} (h : RepL T B vs ds) (e : L2.atI ds i = some d) : ∃ v, L2.atI vs i = some v ∧ Rep T B v d := by
  unfold L2.atI at e ⊢
  rw [h.length]
  cases e1 : ixN ds.length i with
  | none => rw [e1] at e; cases e
  | some j =>
    rw [e1] at e
    exact h.get (show ds[j]? = some d from e)
theorem je_ix (hK : X.K = T.K) (hs : PlainIx b) (ha : JE T X a fa) (hb : JE T X b fb) : JE T X (.Subscript a b pos) (eOp (gV bIx) fa fb) :=
  je_rule (r := rIx X.K) (fun ta tb pa pb => pe_ix ix_seq pa pb hs) (fun H B x y d e f Q sub tx ty eg q => by
    unfold bIx at eg
    split at eg
    · rename_i z i
      split at eg
      · rename_i hz
        obtain ⟨c, ec, rfl⟩ := Option.map_eq_some_iff.mp eg
        exact .inr (.inr ⟨z, i, c, tx.str, ty.int, hz, ec, q _ .str⟩)
      · cases eg
    · rename_i i _
      split at eg
      · rename_i ds es
        obtain ⟨p, vs, rfl, hq, r⟩ := tx.asS sub es
        obtain ⟨v, ev, rv⟩ := r.atI eg
        rw [hK]
        rcases hq with hq | hq
        · exact .inl ⟨p, vs, i, v, rfl, ty.int, hq, ev, q v rv⟩
        · exact .inr (.inl ⟨p, vs, i, v, rfl, ty.int, hq, ev, q v rv⟩)
      · cases eg
    · cases eg) ha hb
def bDg : D → D → Option D
  | .dic ds, k => match keyD k with
    | some k => valD ds k
    | none => none
  | _, _ => none
theorem je_dg (hu : X.A.units + 1 < cLine) (hs : NoSl b) (ha : JE T X a fa) (hb : JE T X b fb) : JE T X (.Subscript a b pos) (eOp (gV bDg) fa fb) :=
  je_rule (r := fun x y H Q => ∃ a v, x = .ref a ∧ DGet H a y (some v) ∧ Q v H) (fun ta tb pa pb => pe_dget hu pa pb hs) (fun H B x y d e f Q sub tx ty eg q => by
    unfold bDg at eg
    split at eg
    · rename_i ds
      split at eg
      · rename_i k ek
        obtain ⟨p, kvs, rfl, h1, r⟩ := tx.dic sub
        rcases r.val k with ⟨v, d, e1, e2, rv⟩ | ⟨e1, e2⟩
        · rw [eg] at e2; cases e2
          exact ⟨p, v, rfl, .inl ⟨kvs, k, h1, ty.key ek, e1.symm⟩, q v rv⟩
        · rw [eg] at e2; cases e2
      · cases eg
    · cases eg) ha hb
/-- the slice of a list, of a str -/
def isSl : Expr → Bool
  | .Slice _ _ _ _ => true
  | _ => false
theorem plainIx_of (h : isSl b = false) : PlainIx b := by
  intro o i
  cases b <;> first | rfl | cases h
theorem noSl_of (h : isSl b = false) : NoSl b := by
  intro o i
  cases b <;> first | rfl | cases h
end
end Pu
namespace Pu
open PySem PySem.Spec PyProof.Rows L2
section
variable {T : Tb} {X : Cx} {a b c e o : Expr} {es : List Expr} {pos : Pos} {fa fb fc : EF} {ga gb gc : TF} {fl fr : LF}
abbrev OF := Rho → Rs (Option Int)
def tO (T : Tb) (W : WX) (f : OF) : TO := fun σ H Q => ∃ Y ρ B, Sta T Y σ H ρ B ∧ Aft T W Y σ H ρ B (f ρ) fun i ρ' => ∀ H' B', Stp T Y σ H ρ B H' ρ' B' → Q i H'
def JO (T : Tb) (X : Cx) (e : Option Expr) (f : OF) : Prop := ∀ W, Takes X W → PO X e (tO T W f)
def oNo : OF := fun ρ => .ok none ρ
def oYes (f : EF) : OF := fun ρ => (f ρ).bind fun r ρ1 => match rdv ρ1 r with
  | some (.int i) => .ok (some i) ρ1
  | _ => .bad
theorem PO.imp {X : Cx} {e : Option Expr} {t t' : TO} (h : PO X e t) (i : ∀ σ H Q, t' σ H Q → t σ H Q) : PO X e t' := ⟨fun pins s σ H Q I q => h.run pins s σ H Q I (i σ H Q q)⟩
theorem jo_no : JO T X none oNo := fun W tk => PO.imp po_none fun σ H Q ⟨Y, ρ, B, s, h⟩ => h H B (Stp.refl s)
theorem jo_yes (ha : JE T X a fa) : JO T X (some a) (oYes fa) := fun W tk => PO.imp (po_some (ha W tk)) fun σ H Q ⟨Y, ρ, B, s, h⟩ => ⟨Y, ρ, B, s, h.bind.imp fun r ρ1 h1 v H1 B1 p => by
  split at h1
  · rename_i i e
    exact ⟨i, (p.val.top p.stp.st e).int, h1 H1 B1 p.stp⟩
  · exact h1.elim⟩
def cutD (xs : List D) (lo hi : Option Int) : List D := (xs.drop (HT.sIx xs.length 0 lo)).take (HT.sIx xs.length xs.length hi - HT.sIx xs.length 0 lo)
theorem RepL.cut {B : Hp} {vs : List V} {ds : List D} {lo hi : Option Int} (h : RepL T B vs ds) : RepL T B (cutV vs lo hi) (cutD ds lo hi) := by
  unfold cutV cutD
  rw [h.length]
  exact (h.drop _).take _
def bSl (d : D) (lo hi : Option Int) : Option RV := match d with
  | .str z => if z.length ≤ sizeLine then some (.im (.str (cutS z lo hi))) else none
  | d => match asL d with
    | some ds => some (.ow (.lst (cutD ds lo hi)))
    | none => none
def eSl (fe : EF) (fl fh : OF) : EF := fun ρ => (fe ρ).bind fun r ρ1 => (fl ρ1).bind fun lo ρ2 => (fh ρ2).bind fun hi ρ3 => match rdv ρ3 r with
  | some d => (match bSl d lo hi with
    | some r' => .ok r' ρ3
    | none => .bad)
  | none => .bad
theorem je_sl {lo hi : Option Expr} {gl gh : OF} {p2 : Pos} (hK : X.K = T.K) (ha : JE T X a fa) (hl : JO T X lo gl) (hh : JO T X hi gh) : JE T X (.Subscript a (.Slice lo hi none p2) pos) (eSl fa gl gh) := fun W tk =>
  PE.imp (pe_slice (sl_list.or sl_str) (ha W tk) (hl W tk) (hh W tk)) fun σ H Q ⟨Y, ρ, B, s, h⟩ => by
    refine ⟨Y, ρ, B, s, h.bind.imp fun r ρ1 h1 v H1 B1 p => ⟨Y, ρ1, B1, p.stp.st, (Aft.after p.stp h1.bind).imp fun l ρ2 h2 H2 B2 p2 => ⟨Y, ρ2, B2, p2.st, (Aft.after (p.stp.trans p2) h2.bind).imp fun u ρ3 h3 H3 B3 p3 => ?_⟩⟩⟩
    split at h3
    · rename_i d ed
      have st := p3.st
      have tp := ((p.val.stp p2).stp p3).top st ed
      have pp := p.stp.trans (p2.trans p3)
      unfold bSl at h3
      cases d with
      | str z =>
        simp only at h3
        split at h3
        · rename_i eq
          split at eq
          · rename_i hz
            cases eq
            exact .inr ⟨z, tp.str, hz, h3 _ _ _ (Pe.after pp (Pe.im st .str))⟩
          · cases eq
        · exact h3.elim
      | lst ds =>
        simp only [asL] at h3
        obtain ⟨q, vs, e1, hs, rl⟩ := tp.asL st.sub rfl
        exact .inl ⟨q, vs, e1, by rw [hK]; exact hs, fun n hn => h3 _ _ _ (Pe.after pp (Pe.laid st hn ⟨_, upd_same, rl.cut⟩))⟩
      | scr ds =>
        simp only [asL] at h3
        obtain ⟨q, vs, e1, hs, rl⟩ := tp.asL st.sub rfl
        exact .inl ⟨q, vs, e1, by rw [hK]; exact hs, fun n hn => h3 _ _ _ (Pe.after pp (Pe.laid st hn ⟨_, upd_same, rl.cut⟩))⟩
      | _ => exact h3.elim
    · exact h3.elim

theorem lookup_lt {l : List Str} {i : Nat} {x : Str} (h : l[i]? = some x) : i < l.length := (List.getElem?_eq_some_iff.mp h).1
theorem RepF.look {B : Hp} (nd : T.nm.Nodup) {k : Nat} {x : Str} (hx : T.nm[k]? = some x) : ∀ {gs : List (Str × V)} {fs : List (Nat × D)}, RepF T B gs fs → (∃ v d, gs.lookup x = some v ∧ fs.lookup k = some d ∧ Rep T B v d) ∨ (gs.lookup x = none ∧ fs.lookup k = none)
  | _, _, .nil => .inr ⟨rfl, rfl⟩
  | _, _, .cons (k := y) (i := i) e r t => by
    by_cases z : k = i
    · subst z
      rw [hx] at e; cases e
      exact .inl ⟨_, _, by simp [List.lookup], by simp [List.lookup], r⟩
    · have zx : (x == y) = false := by
        cases q : (x == y) with
        | false => rfl
        | true =>
          have : x = y := beq_iff_eq.mp q
          subst this
          exact absurd (nodup_ix nd hx e) z
      have zk : (k == i) = false := by simpa using z
      simp only [List.lookup, zx, zk]
      exact RepF.look nd hx t
def eFld (ok : Nat → Bool) (k : Nat) (fa : EF) : EF := fun ρ => (fa ρ).bind fun r ρ1 => match rdv ρ1 r with
  | some (.ins c fs) => if ok c = true then (match fs.lookup k with
    | some d => .ok (.im d) ρ1
    | none => .bad) else .bad
  | _ => .bad
theorem je_fld {ok : Nat → Bool} {k : Nat} {x : Str} (hx : T.nm[k]? = some x) (nd : T.nm.Nodup) (hok : ∀ c, c < T.cl.length → ok c = true → Cls X.K (T.ca c) ∧ NoAttr X.K (T.ca c) x) (hb : attributeBase a x X.env (eval a X.env) = eval a X.env) (ha : JE T X a fa) : JE T X (.Attribute a x pos) (eFld ok k fa) := fun W tk =>
  PE.imp (pe_fld (ha W tk) hb) fun σ H Q ⟨Y, ρ, B, s, h⟩ => ⟨Y, ρ, B, s, h.bind.imp fun r ρ1 h1 v H1 B1 p => by
    split at h1
    · rename_i c fs ed
      split at h1
      · rename_i hc
        split at h1
        · rename_i d el
          obtain ⟨q, dx, gs, rfl, eh, hl, rf⟩ := (p.val.top p.stp.st ed).ins p.stp.st.sub
          obtain ⟨c1, c2⟩ := hok c hl hc
          rcases rf.look nd hx with ⟨v, d', e1, e2, rv⟩ | ⟨_, e2⟩
          · rw [el] at e2; cases e2
            exact ⟨q, T.ca c, dx, gs, v, rfl, eh, c1, c2, e1, h1 _ _ _ (Pe.after p.stp (Pe.im p.stp.st rv))⟩
          · rw [el] at e2; cases e2
        · exact h1.elim
      · exact h1.elim
    · exact h1.elim⟩

def trD : D → Option Bool
  | .non => some false
  | .bl b => some b
  | .int i => some (i != 0)
  | .str y => if y.length ≤ sizeLine then some ((y.length : Int) != 0) else none
  | .lst ds => some (!ds.isEmpty)
  | .scr ns => some (!ns.isEmpty)
  | .tup ds => some (!ds.isEmpty)
  | _ => none
theorem RepL.isEmpty {B : Hp} {vs : List V} {ds : List D} (h : RepL T B vs ds) : vs.isEmpty = ds.isEmpty := by cases h <;> rfl
theorem trD_ok {H B : Hp} {x : V} {d : D} {k : Bool} (sub : ∀ a o, B a = some o → H a = some o) (h : Tp T H B x d) (e : trD d = some k) : TruV T.K x H k := by
  cases d with
  | non => cases e; rw [h.non]; rfl
  | bl b => cases e; rw [h.bl]; rfl
  | int i => cases e; rw [h.int]; rfl
  | str y =>
    simp only [trD] at e
    split at e
    · rename_i hz
      cases e; rw [h.str]; exact ⟨hz, rfl⟩
    · cases e
  | lst ds =>
    cases e
    obtain ⟨q, vs, e1, hs, rl⟩ := h.asL sub rfl
    subst e1
    exact .inl ⟨vs, hs, by rw [rl.isEmpty]⟩
  | scr ns =>
    cases e
    obtain ⟨q, vs, e1, hs, rl⟩ := h.asL sub rfl
    subst e1
    exact .inl ⟨vs, hs, by rw [rl.isEmpty]; cases ns <;> rfl⟩
  | tup ds =>
    cases e
    obtain ⟨q, vs, e1, hs, rl⟩ := h.tup sub
    subst e1
    exact .inr (.inl ⟨vs, hs, by rw [rl.isEmpty]⟩)
  | _ => cases e
/-- a value as a test -/
def tVal (f : EF) : TF := fun ρ => (f ρ).bind fun r ρ1 => match rdv ρ1 r with
  | some d => (match trD d with
    | some k => .ok k ρ1
    | none => .bad)
  | none => .bad
theorem val_after {Y : Fc} {σ : Sg} {H H1 : Hp} {ρ ρ1 : Rho} {B B1 : Hp} {v : V} {r : RV} {W : WX} {P : Bool → Hp → Prop} (hK : X.K = T.K) (p : Pe T Y σ H ρ B v r H1 ρ1 B1)
    (h : Aft T W Y σ H ρ B (match rdv ρ1 r with | some d => (match trD d with | some k => .ok k ρ1 | none => .bad) | none => .bad) fun k ρ' => ∀ H' B', Stp T Y σ H ρ B H' ρ' B' → P k H') : ∃ k, TruV X.K v H1 k ∧ P k H1 := by
  split at h
  · rename_i d ed
    split at h
    · rename_i k ek
      exact ⟨k, by rw [hK]; exact trD_ok p.stp.st.sub (p.val.top p.stp.st ed) ek, h H1 B1 p.stp⟩
    · exact h.elim
  · exact h.elim
theorem jt_val (hK : X.K = T.K) (ha : JE T X a fa) (he : ∀ whole, isTrue a X.env whole = (do let v ← whole; standAt a.pos; holding [v] (truthy v))) : JT T X a (tVal fa) := fun W tk =>
  PT.imp (pt_truth (ha W tk) he) fun σ H Q ⟨Y, ρ, B, s, h⟩ => ⟨Y, ρ, B, s, h.bind.imp fun r ρ1 h1 v H1 B1 p => val_after hK p h1⟩
def tNotF (g : TF) : TF := fun ρ => (g ρ).bind fun k ρ1 => .ok (!k) ρ1
def tAndF (g h : TF) : TF := fun ρ => (g ρ).bind fun k ρ1 => if k = true then h ρ1 else .ok false ρ1
def tOrF (g h : TF) : TF := fun ρ => (g ρ).bind fun k ρ1 => if k = true then .ok true ρ1 else h ρ1
theorem jt_not (ha : JT T X a ga) : JT T X (.UnaryOp .Not a pos) (tNotF ga) := fun W tk => PT.imp (pt_not (ha W tk)) fun σ H Q ⟨Y, ρ, B, s, h⟩ => ⟨Y, ρ, B, s, h.bind.imp fun k ρ1 h1 H1 B1 p => h1 H1 B1 p⟩
theorem jw_and1 (ha : JT T X a ga) : JW T X (.BoolOp .And [a] pos) ga := fun W tk => pw_and1 (ha W tk)
theorem jw_or1 (ha : JT T X a ga) : JW T X (.BoolOp .Or [a] pos) ga := fun W tk => pw_or1 (ha W tk)
theorem PW.imp' {X : Cx} {e : Expr} {t t' : TT} (h : PW X e t) (i : ∀ σ H Q, t' σ H Q → t σ H Q) : PW X e t' := ⟨fun wh pins s σ H Q I q => h.run wh pins s σ H Q I (i σ H Q q)⟩
theorem jw_and {rest : List Expr} (ha : JT T X a ga) (hb : JW T X (.BoolOp .And (b :: rest) pos) gb) : JW T X (.BoolOp .And (a :: b :: rest) pos) (tAndF ga gb) := fun W tk =>
  PW.imp' (pw_and (ha W tk) (hb W tk)) fun σ H Q ⟨Y, ρ, B, s, h⟩ => ⟨Y, ρ, B, s, h.bind.imp fun k ρ1 h1 H1 B1 p => by
    cases k with
    | true => exact ⟨Y, ρ1, B1, p.st, (Aft.after p h1).imp fun k' ρ2 h2 H2 B2 q => h2 H2 B2 (p.trans q)⟩
    | false => exact h1 H1 B1 p⟩
theorem jw_or {rest : List Expr} (ha : JT T X a ga) (hb : JW T X (.BoolOp .Or (b :: rest) pos) gb) : JW T X (.BoolOp .Or (a :: b :: rest) pos) (tOrF ga gb) := fun W tk =>
  PW.imp' (pw_or (ha W tk) (hb W tk)) fun σ H Q ⟨Y, ρ, B, s, h⟩ => ⟨Y, ρ, B, s, h.bind.imp fun k ρ1 h1 H1 B1 p => by
    cases k with
    | false => exact ⟨Y, ρ1, B1, p.st, (Aft.after p h1).imp fun k' ρ2 h2 H2 B2 q => h2 H2 B2 (p.trans q)⟩
    | true => exact h1 H1 B1 p⟩
/-- .. as values -/
def eAnd (f g : EF) : EF := fun ρ => (f ρ).bind fun r ρ1 => match rdv ρ1 r with
  | some (.bl true) => g ρ1
  | some (.bl false) => .ok (.im (.bl false)) ρ1
  | _ => .bad
def eOr (f g : EF) : EF := fun ρ => (f ρ).bind fun r ρ1 => match rdv ρ1 r with
  | some (.bl true) => .ok (.im (.bl true)) ρ1
  | some (.bl false) => g ρ1
  | _ => .bad
def eNot (g : TF) : EF := fun ρ => (g ρ).bind fun k ρ1 => .ok (.im (.bl (!k))) ρ1
theorem je_one {op} (h : JE T X a fa) : JE T X (.BoolOp op [a] pos) fa := fun W tk => pe_one (h W tk)
theorem je_and {rest : List Expr} (ha : JE T X a fa) (hb : JE T X (.BoolOp .And (b :: rest) pos) fb) : JE T X (.BoolOp .And (a :: b :: rest) pos) (eAnd fa fb) := fun W tk =>
  PE.imp (pe_and (ha W tk) (hb W tk)) fun σ H Q ⟨Y, ρ, B, s, h⟩ => ⟨Y, ρ, B, s, h.bind.imp fun r ρ1 h1 v H1 B1 p => by
    split at h1
    · rename_i ed
      exact ⟨true, (p.val.top p.stp.st ed).bl, Y, ρ1, B1, p.stp.st, (Aft.after p.stp h1).imp fun r' ρ2 h2 v2 H2 B2 q => h2 v2 H2 B2 (Pe.after p.stp q)⟩
    · rename_i ed
      exact ⟨false, (p.val.top p.stp.st ed).bl, h1 _ _ _ (Pe.after p.stp (Pe.im p.stp.st .bl))⟩
    · exact h1.elim⟩
theorem je_or {rest : List Expr} (ha : JE T X a fa) (hb : JE T X (.BoolOp .Or (b :: rest) pos) fb) : JE T X (.BoolOp .Or (a :: b :: rest) pos) (eOr fa fb) := fun W tk =>
  PE.imp (pe_or (ha W tk) (hb W tk)) fun σ H Q ⟨Y, ρ, B, s, h⟩ => ⟨Y, ρ, B, s, h.bind.imp fun r ρ1 h1 v H1 B1 p => by
    split at h1
    · rename_i ed
      exact ⟨true, (p.val.top p.stp.st ed).bl, h1 _ _ _ (Pe.after p.stp (Pe.im p.stp.st .bl))⟩
    · rename_i ed
      exact ⟨false, (p.val.top p.stp.st ed).bl, Y, ρ1, B1, p.stp.st, (Aft.after p.stp h1).imp fun r' ρ2 h2 v2 H2 B2 q => h2 v2 H2 B2 (Pe.after p.stp q)⟩
    · exact h1.elim⟩
theorem je_not (hK : X.K = T.K) (ha : JE T X a fa) : JE T X (.UnaryOp .Not a pos) (eNot (tVal fa)) := fun W tk => ⟨fun pins s σ H Q I ⟨Y, ρ, B, st, h⟩ => by
  refine UnaryOp_ (thn ((ha W tk).run pins s σ H (fun v H1 => ∃ k, TruV X.K v H1 k ∧ Q (.bl (!k)) H1) I ⟨Y, ρ, B, st, ?_⟩) fun v s1 ⟨x, H1, I1, r1, k, tr, q⟩ => ?_)
  · refine (Aft.bind (Aft.bind h)).imp fun r ρ1 h1 v H1 B1 p => ?_
    refine val_after (P := fun k H1 => Q (.bl (!k)) H1) hK p (h1.imp fun k ρ2 h2 H' B' q => ?_)
    exact h2 _ _ _ (Pe.after q (Pe.im q.st .bl))
  · exact not_of (thn (tru_ok pins s1 σ H1 x v (fun b H' => b = k ∧ H' = H1) I1 r1 ⟨k, tr, rfl, rfl⟩) fun b s2 ⟨H2, I2, e1, e2⟩ => by
      subst e1 e2
      exact ⟨.bl (!b), H2, I2, rfl, q⟩)⟩
def eIf (g : TF) (f f' : EF) : EF := fun ρ => (g ρ).bind fun k ρ1 => if k = true then f ρ1 else f' ρ1
theorem je_if (hc : JT T X c gc) (ha : JE T X a fa) (hb : JE T X b fb) : JE T X (.IfExp c a b pos) (eIf gc fa fb) := fun W tk =>
  PE.imp (pe_ifExp (hc W tk) (ha W tk) (hb W tk)) fun σ H Q ⟨Y, ρ, B, s, h⟩ => ⟨Y, ρ, B, s, h.bind.imp fun k ρ1 h1 H1 B1 p => by
    cases k with
    | true => exact ⟨Y, ρ1, B1, p.st, (Aft.after p h1).imp fun r' ρ2 h2 v2 H2 B2 q => h2 v2 H2 B2 (Pe.after p q)⟩
    | false => exact ⟨Y, ρ1, B1, p.st, (Aft.after p h1).imp fun r' ρ2 h2 v2 H2 B2 q => h2 v2 H2 B2 (Pe.after p q)⟩⟩
def eNeg (fa : EF) : EF := fun ρ => (fa ρ).bind fun r ρ1 => match rdv ρ1 r with
  | some (.int i) => .ok (.im (.int (-i))) ρ1
  | _ => .bad
theorem je_neg (ha : JE T X a fa) : JE T X (.UnaryOp .USub a pos) (eNeg fa) := fun W tk => PE.imp (pe_un un_neg (ha W tk)) fun σ H Q ⟨Y, ρ, B, s, h⟩ => ⟨Y, ρ, B, s, h.bind.imp fun r ρ1 h1 v H1 B1 p => by
  split at h1
  · rename_i i ed
    exact ⟨i, (p.val.top p.stp.st ed).int, h1 _ _ _ (Pe.after p.stp (Pe.im p.stp.st .int))⟩
  · exact h1.elim⟩
def isSet : Expr → Bool
  | .Set _ _ _ => true
  | _ => false
theorem nomark_of {op : CmpOp} (h : isSet b = false) : behindInMarks op b = false := by
  cases b <;> first | rfl | cases h
theorem je_cmp {op : CmpOp} {g : D → D → Oh} (ho : OpH T X (compareOp op) g) (hs : isSet b = false) (ha : JE T X a fa) (hb : JE T X b fb) : JE T X (.Compare a [op] [b] pos) (eOp g fa fb) := fun W tk =>
  ⟨fun pins s σ H Q I h => wpAny_Compare1 (op_run ho ha hb tk (fun _ _ z => z) I h) (nomark_of hs)⟩
/-- a bool as a test -/
def tBl (f : EF) : TF := fun ρ => (f ρ).bind fun r ρ1 => match rdv ρ1 r with
  | some (.bl k) => .ok k ρ1
  | _ => .bad
theorem tBl_of {W : WX} {f : EF} {σ : Sg} {H : Hp} {Q : Bool → Hp → Prop} (h : tT T W (tBl f) σ H Q) : tE T W f σ H fun x H1 => ∃ k, x = .bl k ∧ Q k H1 := by
  obtain ⟨Y, ρ, B, s, h⟩ := h
  exact ⟨Y, ρ, B, s, h.bind.imp fun r ρ1 h1 v H1 B1 p => by
    split at h1
    · rename_i k ed
      exact ⟨k, (p.val.top p.stp.st ed).bl, h1 H1 B1 p.stp⟩
    · exact h1.elim⟩

theorem jt_cmp {op : CmpOp} {g : D → D → Oh} (ho : OpH T X (compareOp op) g) (hs : isSet b = false) (ha : JE T X a fa) (hb : JE T X b fb) : JT T X (.Compare a [op] [b] pos) (tBl (eOp g fa fb)) := fun W tk =>
  ⟨fun pins s σ H Q I h => wpAny_isTrue_Compare1 (op_run ho ha hb tk (Q := fun x H1 => ∃ k, x = .bl k ∧ Q k H1) (fun c s3 z => by
    obtain ⟨z, H3, I3, r3, k, e, q3⟩ := z
    subst e
    cases r3
    exact wpAny_truthy_bool ⟨H3, I3, q3⟩) I (tBl_of h)) (nomark_of hs)⟩
def eChn (g g' : D → D → Ov) (fa fb fc : EF) : EF := fun ρ => (fa ρ).bind fun ra ρ1 => (fb ρ1).bind fun rb ρ2 => match rdv ρ2 ra, rdv ρ2 rb with
  | some a, some b => (match g a b with
    | .ok (.im (.bl true)) => (fc ρ2).bind fun rc ρ3 => (match rdv ρ3 rb, rdv ρ3 rc with
      | some b', some c => (g' b' c).rs ρ3
      | _, _ => .bad)
    | .ok (.im (.bl false)) => .ok (.im (.bl false)) ρ2
    | _ => .bad)
  | _, _ => .bad
theorem chn_run {op op' : CmpOp} {g g' : D → D → Ov} (ho : OpG T X (compareOp op) g) (ho' : OpG T X (compareOp op') g') (ha : JE T X a fa) (hb : JE T X b fb) (hc : JE T X c fc) {W : WX} (tk : Takes X W) {σ : Sg} {H : Hp} {Q : VK} (h : tE T W (eChn g g' fa fb fc) σ H Q) :
    tE T W fa σ H fun x H1 => tE T W fb σ H1 fun y H2 => ∀ (pins : List (Addr × Obj)) (s2 : Shared) (v u : Value), Inv X pins σ H2 s2 → RelV x v → RelV y u →
      wpAny (model X.prog X.w) X.A (compareOp op v u) (fun d s3 => ∃ k H3, d = .bool k ∧ Inv X pins σ H3 s3 ∧ (if k = true then tE T W fc σ H3 fun z H4 => ∀ (s4 : Shared) (w' : Value), Inv X pins σ H4 s4 → RelV z w' →
        wpAny (model X.prog X.w) X.A (compareOp op' u w') (EP X pins σ Q) X.xe s4 else Q (.bl false) H3)) X.xe s2 := by
  obtain ⟨Y, ρ, B, st, h⟩ := h
  refine ⟨Y, ρ, B, st, h.bind.imp fun ra ρ1 h1 x H1 B1 p1 => ⟨Y, ρ1, B1, p1.stp.st, (Aft.after p1.stp h1.bind).imp fun rb ρ2 h2 y H2 B2 p2 pins s2 v u I2 rx ry => ?_⟩⟩
  split at h2
  · rename_i d e e1 e2
    have st2 := p2.stp.st
    have key : ∀ k, g d e = .ok (.im (.bl k)) → (∀ H3 B3, Stp T Y σ H2 ρ2 B2 H3 ρ2 B3 → if k = true then tE T W fc σ H3 fun z H4 => ∀ (s4 : Shared) (w' : Value), Inv X pins σ H4 s4 → RelV z w' → wpAny (model X.prog X.w) X.A (compareOp op' u w') (EP X pins σ Q) X.xe s4 else Q (.bl false) H3) →
        wpAny (model X.prog X.w) X.A (compareOp op v u) (fun d s3 => ∃ k H3, d = .bool k ∧ Inv X pins σ H3 s3 ∧ (if k = true then tE T W fc σ H3 fun z H4 => ∀ (s4 : Shared) (w' : Value), Inv X pins σ H4 s4 → RelV z w' → wpAny (model X.prog X.w) X.A (compareOp op' u w') (EP X pins σ Q) X.xe s4 else Q (.bl false) H3)) X.xe s2 := fun k eg hk => by
      refine thn (ho W tk pins s2 σ H2 x y v u (fun z H3 => ∃ B3, Pe T Y σ H2 ρ2 B2 z (.im (.bl k)) H3 ρ2 B3) Y ρ2 B2 d e I2 rx ry st2 ((p1.val.stp p2.stp).top st2 e1) (p2.val.top st2 e2) ?_) fun c s3 ⟨z, H3, I3, r3, B3, p3⟩ => ?_
      · rw [eg]
        exact fun v H' B' p => ⟨B', p⟩
      · have ez : z = .bl k := Tp.bl (H := H3) (.inl p3.val)
        subst ez
        cases r3
        exact ⟨k, H3, rfl, I3, hk H3 B3 p3.stp⟩
    have pp := p1.stp.trans p2.stp
    split at h2
    · rename_i eg
      refine key true eg fun H3 B3 p3 => ?_
      rw [if_pos rfl]
      have pp3 := pp.trans p3
      refine ⟨Y, ρ2, B3, p3.st, (Aft.after pp3 h2.bind).imp fun rc ρ3 h3 z H4 B4 p4 s4 w' I4 rz => ?_⟩
      split at h3
      · rename_i b' c' e3 e4
        have st4 := p4.stp.st
        refine ho' W tk pins s4 σ H4 y z u w' Q Y ρ3 B4 b' c' I4 ry rz st4 (((p2.val.stp p3).stp p4.stp).top st4 e3) (p4.val.top st4 e4) ((Aft.after (pp3.trans p4.stp) h3).imp fun r ρ' k v H' B' q => ?_)
        exact k v H' B' (Pe.after pp3 (Pe.after p4.stp q))
      · exact h3.elim
    · rename_i eg
      refine key false eg fun H3 B3 p3 => ?_
      rw [if_neg (by simp)]
      exact h2 _ _ _ (Pe.after (pp.trans p3) (Pe.im p3.st .bl))
    · exact h2.elim
  · exact h2.elim
theorem je_chn {op op' : CmpOp} {g g' : D → D → Ov} (ho : OpG T X (compareOp op) g) (ho' : OpG T X (compareOp op') g') (hs : isSet c = false) (ha : JE T X a fa) (hb : JE T X b fb) (hc : JE T X c fc) : JE T X (.Compare a [op, op'] [b, c] pos) (eChn g g' fa fb fc) := fun W tk =>
  ⟨fun pins s σ H Q I h => by
    refine Compare_chain (thn ((ha W tk).run pins s σ H _ I (chn_run ho ho' ha hb hc tk h)) fun v s1 ⟨x, H1, I1, r1, q1⟩ => chain_link (thn ((hb W tk).run pins s1 σ H1 _ I1 q1) fun u s2 ⟨y, H2, I2, r2, q2⟩ =>
      thn (q2 pins s2 v u I2 r1 r2) fun d s3 ⟨k, H3, e, I3, q3⟩ => ?_)) (show behindInMarks op' c = false from nomark_of hs)
    subst e
    refine wpAny_truthy_bool ?_
    cases k with
    | false =>
      rw [if_neg (by simp)] at q3
      exact ite_ff ⟨.bl false, H3, I3, rfl, q3⟩
    | true =>
      rw [if_pos rfl] at q3
      exact ite_tt (chain_last (thn ((hc W tk).run pins s3 σ H3 _ I3 q3) fun w' s4 ⟨z', H4, I4, r4, q4⟩ => q4 s4 w' I4 r4))⟩
theorem jt_chn {op op' : CmpOp} {g g' : D → D → Ov} (ho : OpG T X (compareOp op) g) (ho' : OpG T X (compareOp op') g') (hs : isSet c = false) (ha : JE T X a fa) (hb : JE T X b fb) (hc : JE T X c fc) : JT T X (.Compare a [op, op'] [b, c] pos) (tBl (eChn g g' fa fb fc)) := fun W tk =>
  ⟨fun pins s σ H Q I h => by
    refine isTrue_chain (thn ((ha W tk).run pins s σ H _ I (chn_run ho ho' ha hb hc tk (tBl_of h))) fun v s1 ⟨x, H1, I1, r1, q1⟩ => test_link (thn ((hb W tk).run pins s1 σ H1 _ I1 q1) fun u s2 ⟨y, H2, I2, r2, q2⟩ =>
      thn (q2 pins s2 v u I2 r1 r2) fun d s3 ⟨k, H3, e, I3, q3⟩ => ?_)) (show behindInMarks op' c = false from nomark_of hs)
    subst e
    refine wpAny_truthy_bool ?_
    cases k with
    | false =>
      rw [if_neg (by simp)] at q3
      obtain ⟨k', e', q'⟩ := q3
      cases e'
      exact ite_ff ⟨H3, I3, q'⟩
    | true =>
      rw [if_pos rfl] at q3
      refine ite_tt (test_last (thn ((hc W tk).run pins s3 σ H3 _ I3 q3) fun w' s4 ⟨z', H4, I4, r4, q4⟩ => thn (q4 s4 w' I4 r4) fun d s5 ⟨z, H5, I5, r5, k, e, q5⟩ => ?_))
      subst e
      cases r5
      exact wpAny_truthy_bool ⟨H5, I5, q5⟩⟩
end
end Pu
namespace Pu
open PySem PySem.Spec PyProof.Rows L2
section
variable {T : Tb} {X : Cx} {a b c e o : Expr} {es : List Expr} {pos apos p : Pos} {fa fb fc fo : EF} {fl fr : LF}
/-- a promise -/
structure Fs where
  fl : List Bool
  F : List D → Out
abbrev Kp (T : Tb) (X : Cx) (k : Nat) (f : Addr) (S : Fs) : Prop := FnR X.prog X.w X.K X.mg X.base (CX X.prog X.w) k f (spR T S.fl S.F)
def eCall (S : Fs) (fl : LF) : EF := fun ρ => (fl ρ).bind fun rs ρ1 => match prep S.fl rs ρ1 with
  | some (ds, is, ρ2) => (S.F ds).rs ρ2 is
  | none => .bad
def noStar (es : List Expr) : Bool := es.all fun e => !isStar e
theorem call_of {S : Fs} {W : WX} {σ : Sg} {H : Hp} {Q : VK} (h : tE T W (eCall S fl) σ H Q) : tA T W fl σ H fun vs H1 => spR T S.fl S.F vs H1 Q fun c d H' => W c d σ H' := by
  obtain ⟨Y, ρ, B, st, h⟩ := h
  refine ⟨Y, ρ, B, st, h.bind.imp fun rs ρ1 h1 vs H1 B1 q => ?_⟩
  split at h1
  · rename_i ds is ρ2 e
    exact call_run q e h1
  · exact h1.elim
theorem je_call {S : Fs} {k : Nat} {f : Addr} {x : Str} (F : Kp T X k f S) (hr : Room k X.A) (hg : Gl X x) (hm : X.mg x = some (.ref f)) (hk : PySem.W.keepIn X.K (.ref f) = true) (hdb : (x == ("__debug__" : Str)) = false) (ha : JL T X (e :: es) fl) (hs : noStar (e :: es) = true) :
    JE T X (.Call (.Name x p) (e :: es) [] pos) (eCall S fl) := fun W tk => ⟨fun pins s σ H Q I h => by
  refine wpAny_Call_Name_kw (ld_glob I hg hm ?_ hdb)
  unfold noStar at hs
  rw [List.all_cons, Bool.and_eq_true] at hs
  exact PySem.W.callWith_K (h₀ := X.base) I.ok.mod.kin hk (thn ((ha W tk).run pos pins s σ H _ I (call_of h)) fun us s1 ⟨vs, H1, I1, r, q⟩ => ⟨I1.kIn, run_fnS F hr tk I1 r q⟩) (star_cons (by simpa using hs.1)) (star_any hs.2)⟩
theorem call_of0 {S : Fs} {W : WX} {σ : Sg} {H : Hp} {Q : VK} (h : tE T W (eCall S lNil) σ H Q) : spR T S.fl S.F [] H Q fun c d H' => W c d σ H' := by
  obtain ⟨Y, ρ, B, st, h⟩ := h
  have h : Aft T W Y σ H ρ B (match prep S.fl [] ρ with
    | some (ds, is, ρ2) => (S.F ds).rs ρ2 is
    | none => .bad) fun r ρ' => ∀ v H' B', Pe T Y σ H ρ B v r H' ρ' B' → Q v H' := h
  split at h
  · rename_i ds is ρ2 e
    exact call_run (PeL.nil st) e h
  · exact h.elim
theorem je_call0 {S : Fs} {k : Nat} {f : Addr} {x : Str} (F : Kp T X k f S) (hr : Room k X.A) (hg : Gl X x) (hm : X.mg x = some (.ref f)) (hk : PySem.W.keepIn X.K (.ref f) = true) (hdb : (x == ("__debug__" : Str)) = false) :
    JE T X (.Call (.Name x p) [] [] pos) (eCall S lNil) := fun W tk => ⟨fun pins s σ H Q I h => by
  refine wpAny_Call_Name_kw (ld_glob I hg hm ?_ hdb)
  exact PySem.W.callWith_K0 I.kIn hk (run_fnS (us := []) F hr tk I .nil (call_of0 h))⟩

def mkO (c : Nat) (F : List D → Out) (ds : List D) : Out := match F (.ins c [] :: ds) with
  | .ok (.im .non) (d :: ms) => .ok (.ow d) ms
  | .exc c' fs (_ :: ms) => .exc c' fs ms
  | _ => .bad
theorem Ars.mono {H H' B : Hp} (k : ∀ a o, H a = some o → H' a = some o) : ∀ {fl : List Bool} {vs : List V} {ds : List D} {as : List Addr}, Ars T H B fl vs ds as → Ars T H' B fl vs ds as
  | _, _, _, _, .nil => .nil
  | _, _, _, _, .im r t => .im r (t.mono k)
  | _, _, _, _, .mu b o n t => .mu b (o.le (Le.refl B) fun u q => k _ u q) n (t.mono k)
theorem Ars.there {H B : Hp} : ∀ {fl : List Bool} {vs : List V} {ds : List D} {as : List Addr}, Ars T H B fl vs ds as → ∀ a ∈ as, H a ≠ none
  | _, _, _, _, .nil => fun a h => by cases h
  | _, _, _, _, .im _ t => t.there
  | _, _, _, _, .mu _ o _ t => fun a h => by
    rcases List.mem_cons.mp h with rfl | h
    · exact o.there
    · exact t.there a h
/-- a promise of __init__ as a promise of the making -/
theorem make_sp {F : List D → Out} {fls : List Bool} {c : Nat} {vs : List V} {H1 : Hp} {Q : VK} {E : XK} (hc : c < T.cl.length) (h : spR T fls (mkO c F) vs H1 Q E) : ∀ x dx, H1 x = none → H1 dx = none → dx ≠ x →
    spR T (true :: fls) F (V.ref x :: vs) (upd (upd H1 dx (.own x)) x (.ins (T.ca c) dx [])) (fun v H2 => v = .non ∧ Q (.ref x) H2) E := by
  intro x dx hx hdx hne
  obtain ⟨B, ds, as, sub, ars, k⟩ := h
  have grow : ∀ a o, H1 a = some o → upd (upd H1 dx (.own x)) x (.ins (T.ca c) dx []) a = some o := fun a o e => by
    rw [upd_ne (ne_of_none e hx), upd_ne (ne_of_none e hdx)]; exact e
  have bx : B x = none := by
    cases q : B x with
    | none => rfl
    | some u => have := sub x u q; rw [hx] at this; cases this
  have xas : x ∉ as := fun m => ars.there x m hx
  refine ⟨B, .ins c [] :: ds, x :: as, fun a o e => grow a o (sub a o e), .mu bx ⟨dx, [], upd_same, hc, .nil⟩ xas (ars.mono grow), ?_⟩
  have back : ∀ {H' B' : Hp} {d : D} {ms : List D}, Ret T (upd (upd H1 dx (.own x)) x (.ins (T.ca c) dx [])) B (x :: as) H' B' (d :: ms) → Ret T H1 B as H' B' ms ∧ B' x = none ∧ OwnAt T H' B' x d := fun {H' B' d ms} r => by
    have rm := r.ms
    cases rm with
    | cons bn o m =>
      refine ⟨⟨r.le, r.sub, fun a u e n b => r.kp a u (grow a u e) (fun z => ?_) b, fun a z => ?_, m, fun a e => ?_⟩, bn, o⟩
      · rcases List.mem_cons.mp z with rfl | z
        · rw [hx] at e; cases e
        · exact n z
      · rcases r.bn a z with y | y
        · exact .inl y
        · refine .inr ?_
          cases q : H1 a with
          | none => rfl
          | some u => rw [grow a u q] at y; cases y
      · cases q : H1 a with
        | none => rfl
        | some u => have := r.fr a e; rw [grow a u q] at this; cases this
  unfold mkO at k
  revert k
  generalize F (.ins c [] :: ds) = z
  intro k
  cases z with
  | bad => exact k.elim
  | ok r ms =>
    cases r with
    | ow => exact k.elim
    | bo => exact k.elim
    | im d' =>
      cases d' with
      | non =>
        cases ms with
        | nil => exact k.elim
        | cons d ms =>
          intro v H' B' rt rv
          obtain ⟨r1, bn, o⟩ := back rt
          have ev : v = .non := by cases rv; rfl
          exact ⟨ev, k (.ref x) H' B' r1 ⟨x, rfl, bn, o, hx⟩⟩
      | _ => exact k.elim
  | exc c' fs ms =>
    cases ms with
    | nil => exact k.elim
    | cons d ms =>
      intro dx' gs H' B' rt hd hn rf
      obtain ⟨r1, bn, o⟩ := back rt
      refine k dx' gs H' B' r1 hd ?_ rf
      cases q : H1 dx' with
      | none => rfl
      | some u => rw [grow dx' u q] at hn; cases hn
theorem run_makeS {pins : List (Addr × Obj)} {σ : Sg} {H : Hp} {s : Shared} {Q : VK} {us : List Value} {vs : List V} {C f : Addr} {k : Nat} {sp : Sp} {W : WX} (M : Mk X.K C f) (F : FnR X.prog X.w X.K X.mg X.base (CX X.prog X.w) k f sp) (hr : Room (k + 1) X.A) (tk : Takes X W) (I : Inv X pins σ H s) (r : Vals vs us)
    (h : ∀ x dx, H x = none → H dx = none → dx ≠ x → sp (V.ref x :: vs) (upd (upd H dx (.own x)) x (.ins C dx [])) (fun v H2 => v = .non ∧ Q (.ref x) H2) fun c d H' => W c d σ H') :
    wpAny (model X.prog X.w) X.A (call (.ref C) us) (EP X pins σ Q) X.xe s := by
  have hq := h (s.heap.objs.size + 1) s.heap.objs.size (I.hok.fresh (Nat.le_succ _)) (I.hok.fresh (Nat.le_refl _)) (Nat.ne_of_lt (Nat.lt_succ_self _))
  have I2 := Inv.made (C := C) I
  have r2 : Vals (V.ref (s.heap.objs.size + 1) :: vs) (Value.ref (s.heap.objs.size + 1) :: us) := .cons rfl r
  refine wpAny_call (make_map (f := f) I.kIn M.makes M.init (beq_iff_eq.mp M.fn) (codeAny_mono (F _ X.stack _ _ (Value.ref (s.heap.objs.size + 1) :: us) _ _ _ (hr.make C us []) (I2.env0.make C us []) r2 hq) fun r s' hq' => ?_))
  cases r with
  | error e => exact tk _ _ (XE.of_call I2 (fun _ _ _ h => h) hq')
  | ok fl =>
    cases fl with
    | ret u =>
      obtain ⟨v, H', I3, rv, ev, q3⟩ := I2.after hq'
      subst ev
      exact ⟨rv, ⟨V.ref (s.heap.objs.size + 1), H', I3, rfl, q3⟩⟩
    | _ => exact hq'.elim
/-- C(..): F the promise of __init__, fls its parameters behind self -/
def eMake (c : Nat) (fls : List Bool) (F : List D → Out) (fl : LF) : EF := eCall ⟨fls, mkO c F⟩ fl
theorem je_make {k c : Nat} {f : Addr} {x : Str} {fls : List Bool} {F : List D → Out} (M : Mk X.K (T.ca c) f) (hc : c < T.cl.length) (K : Kp T X k f ⟨true :: fls, F⟩) (hr : Room (k + 1) X.A) (hg : Gl X x) (hm : X.mg x = some (.ref (T.ca c))) (hdb : (x == ("__debug__" : Str)) = false) (ha : JL T X (e :: es) fl) (hs : noStar (e :: es) = true) :
    JE T X (.Call (.Name x p) (e :: es) [] pos) (eMake c fls F fl) := fun W tk => ⟨fun pins s σ H Q I h => by
  refine wpAny_Call_Name_kw (ld_glob I hg hm ?_ hdb)
  unfold noStar at hs
  rw [List.all_cons, Bool.and_eq_true] at hs
  exact PySem.W.callWith_K (h₀ := X.base) I.ok.mod.kin M.kp (thn ((ha W tk).run pos pins s σ H _ I (call_of h)) fun us s1 ⟨vs, H1, I1, r, q⟩ => ⟨I1.kIn, run_makeS M K hr tk I1 r (make_sp hc q)⟩) (star_cons (by simpa using hs.1)) (star_any hs.2)⟩
theorem je_make0 {k c : Nat} {f : Addr} {x : Str} {fls : List Bool} {F : List D → Out} (M : Mk X.K (T.ca c) f) (hc : c < T.cl.length) (K : Kp T X k f ⟨true :: fls, F⟩) (hr : Room (k + 1) X.A) (hg : Gl X x) (hm : X.mg x = some (.ref (T.ca c))) (hdb : (x == ("__debug__" : Str)) = false) :
    JE T X (.Call (.Name x p) [] [] pos) (eMake c fls F lNil) := fun W tk => ⟨fun pins s σ H Q I h => by
  refine wpAny_Call_Name_kw (ld_glob I hg hm ?_ hdb)
  exact PySem.W.callWith_K0 I.kIn M.kp (run_makeS (us := []) M K hr tk I .nil (make_sp hc (call_of0 h)))⟩

/-- gm: the method's promise by the class; mi the name's index -/
def eMeth (gm : Nat → Option Fs) (mi : Nat) (fo : EF) (fl : LF) : EF := fun ρ => (fo ρ).bind fun r ρ1 => match rdv ρ1 r with
  | some (.ins c fs) => (match gm c, fs.lookup mi with
    | some S, none => (fl ρ1).bind fun rs ρ2 => (match prep S.fl (r :: rs) ρ2 with
      | some (ds, is, ρ3) => (S.F ds).rs ρ3 is
      | none => .bad)
    | _, _ => .bad)
  | _ => .bad
/-- what is known of the method -/
structure MthOk (T : Tb) (X : Cx) (k : Nat) (m : Str) (c : Nat) (S : Fs) (f : Addr) : Prop where
  cls : Cls X.K (T.ca c)
  mth : Meth X.K (T.ca c) m f
  kp : Kp T X k f S
theorem je_meth {gm : Nat → Option Fs} {k mi : Nat} {m : Str} {pl : Sem Bool} (hgm : ∀ c S, c < T.cl.length → gm c = some S → ∃ f, MthOk T X k m c S f) (nd : T.nm.Nodup) (hx : T.nm[mi]? = some m) (hr : Room k X.A) (ho : JE T X o fo) (ha : JL T X (e :: es) fl) (hs : noStar (e :: es) = true)
    (ht : eval (.Call (.Attribute o m apos) (e :: es) [] pos) X.env = (do
      let ov ← eval o X.env
      standAt apos.atName
      let (f, first) ← holding [ov] (getMethod ov m pl)
      callWith pos f first (backTo pos (starEach (e :: es) X.env)) (backToKw pos (keywordEach [] X.env)))) :
    JE T X (.Call (.Attribute o m apos) (e :: es) [] pos) (eMeth gm mi fo fl) := fun W tk => ⟨fun pins s σ H Q I ⟨Y, ρ, B, st, h⟩ => by
  unfold noStar at hs
  rw [List.all_cons, Bool.and_eq_true] at hs
  refine PySem.W.methodCall_KW (pl := pl) (thn ((ho W tk).run pins s σ H (fun x H1 => ∃ a c dx fs S, x = V.ref a ∧ c < T.cl.length ∧ H1 a = some (.ins (T.ca c) dx fs) ∧ fs.lookup m = none ∧ gm c = some S ∧ tA T W fl σ H1 fun vs H2 => spR T S.fl S.F (x :: vs) H2 Q fun c d H' => W c d σ H') I ⟨Y, ρ, B, st, h.bind.imp fun r ρ1 h1 v H1 B1 p1 => ?_⟩) fun u s1 ⟨x, H1, I1, rx, a, c, dx, fs, S, ex, hc, ea, l, eg, q⟩ => ?_) ht
  · split at h1
    · rename_i c fs ed
      split at h1
      · rename_i S eg el
        obtain ⟨q, dx, gs, rfl, eh, hl, rf⟩ := (p1.val.top p1.stp.st ed).ins p1.stp.st.sub
        have e2 : gs.lookup m = none := by
          rcases rf.look nd hx with ⟨v, d', e1, e2, rv⟩ | ⟨e1, _⟩
          · rw [el] at e2; cases e2
          · exact e1
        refine ⟨q, c, dx, gs, S, rfl, hl, eh, e2, eg, Y, ρ1, B1, p1.stp.st, (Aft.after p1.stp h1.bind).imp fun rs ρ2 h2 vs H2 B2 q2 => ?_⟩
        split at h2
        · rename_i ds is ρ3 ep
          exact call_run (PeL.cons p1 q2) ep h2
        · exact h2.elim
      · exact h1.elim
    · exact h1.elim
  · subst ex
    obtain rfl : u = Value.ref a := rx
    obtain ⟨f, c1, c2, c3⟩ := hgm c S hc eg
    refine getmeth_ok I1 ea c1 c2 l ?_
    refine PySem.W.callWith_K (first := [.ref a]) (h₀ := X.base) I.ok.mod.kin c2.kp (thn ((ha W tk).run pos pins s1 σ H1 _ I1 q) fun us s2 ⟨vs, H2, I2, r, q2⟩ => ⟨I2.kIn, ?_⟩) (star_cons (by simpa using hs.1)) (star_any hs.2)
    exact run_fnS (us := .ref a :: us) (vs := .ref a :: vs) c3 hr tk I2 (.cons rfl r) q2⟩
theorem je_meth0 {gm : Nat → Option Fs} {k mi : Nat} {m : Str} {pl : Sem Bool} (hgm : ∀ c S, c < T.cl.length → gm c = some S → ∃ f, MthOk T X k m c S f) (nd : T.nm.Nodup) (hx : T.nm[mi]? = some m) (hr : Room k X.A) (ho : JE T X o fo)
    (ht : eval (.Call (.Attribute o m apos) [] [] pos) X.env = (do
      let ov ← eval o X.env
      standAt apos.atName
      let (f, first) ← holding [ov] (getMethod ov m pl)
      callWith pos f first (backTo pos (starEach [] X.env)) (backToKw pos (keywordEach [] X.env)))) :
    JE T X (.Call (.Attribute o m apos) [] [] pos) (eMeth gm mi fo lNil) := fun W tk => ⟨fun pins s σ H Q I ⟨Y, ρ, B, st, h⟩ => by
  refine PySem.W.methodCall_KW (pl := pl) (thn ((ho W tk).run pins s σ H (fun x H1 => ∃ a c dx fs S, x = V.ref a ∧ c < T.cl.length ∧ H1 a = some (.ins (T.ca c) dx fs) ∧ fs.lookup m = none ∧ gm c = some S ∧ spR T S.fl S.F [x] H1 Q fun c d H' => W c d σ H') I ⟨Y, ρ, B, st, h.bind.imp fun r ρ1 h1 v H1 B1 p1 => ?_⟩) fun u s1 ⟨x, H1, I1, rx, a, c, dx, fs, S, ex, hc, ea, l, eg, q⟩ => ?_) ht
  · split at h1
    · rename_i c fs ed
      split at h1
      · rename_i S eg el
        obtain ⟨q, dx, gs, rfl, eh, hl, rf⟩ := (p1.val.top p1.stp.st ed).ins p1.stp.st.sub
        have e2 : gs.lookup m = none := by
          rcases rf.look nd hx with ⟨v, d', e1, e2, rv⟩ | ⟨e1, _⟩
          · rw [el] at e2; cases e2
          · exact e1
        refine ⟨q, c, dx, gs, S, rfl, hl, eh, e2, eg, ?_⟩
        have h2 : Aft T W Y σ H ρ B (match prep S.fl [r] ρ1 with
          | some (ds, is, ρ3) => (S.F ds).rs ρ3 is
          | none => .bad) fun r ρ' => ∀ v H' B', Pe T Y σ H ρ B v r H' ρ' B' → Q v H' := h1
        split at h2
        · rename_i ds is ρ3 ep
          exact call_run (PeL.cons p1 (PeL.nil p1.stp.st)) ep h2
        · exact h2.elim
      · exact h1.elim
    · exact h1.elim
  · subst ex
    obtain rfl : u = Value.ref a := rx
    obtain ⟨f, c1, c2, c3⟩ := hgm c S hc eg
    refine getmeth_ok I1 ea c1 c2 l ?_
    exact PySem.W.callWith_K0 (first := [.ref a]) I1.kIn c2.kp (run_fnS (us := [.ref a]) (vs := [.ref a]) c3 hr tk I1 (.cons rfl .nil) q)⟩
end
end Pu
namespace Pu
open PySem PySem.Spec PyProof.Rows L2
section
variable {T : Tb} {X : Cx} {a b c e o : Expr} {es : List Expr} {pos apos p : Pos} {fa fb fc fo : EF} {fl fr : LF}
/-- not super() -/
def noSup : Expr → Bool
  | .Call (.Name id _) _ _ _ => id != ("super" : Str)
  | _ => true
theorem abase_of {m : Str} {env : PySem.Env} {w : Sem Value} (h : noSup o = true) : attributeBase o m env w = w := by
  unfold attributeBase
  split
  · have h' : (_ != ("super" : Str)) = true := h
    rw [h']
    rfl
  · rfl
theorem meth_tree {m : Str} {env : PySem.Env} (h : noSup o = true) (hs : noStar es = true) (hl : decide (es.length < 30) = true) (h3 : (apos.endLine == pos.line) = true) :
    eval (.Call (.Attribute o m apos) es [] pos) env = (do
      let ov ← eval o env
      standAt apos.atName
      let (f, first) ← holding [ov] (getMethod ov m (do return (← importBound o env).getD true))
      callWith pos f first (backTo pos (starEach es env)) (backToKw pos (keywordEach [] env))) := by
  show (do
    let ov ← attributeBase o m env (eval o env)
    standAt apos.atName
    methodCall o m apos pos env ov (es.length + 0) (backTo pos (starEach es env)) (backToKw pos (keywordEach [] env))) = _
  rw [abase_of h]
  have few : methodCallForm (es.length + 0) (backTo pos (starEach es env)) (backToKw pos (keywordEach [] env)) = true := by
    unfold methodCallForm
    have h1 : (backTo pos (starEach es env)).all (fun x => !x.1) = true := by
      have := star_any (pos := pos) (env := env) hs
      rw [List.any_eq_false] at this
      rw [List.all_eq_true]
      intro x hx
      simpa using this x hx
    rw [h1]
    simpa [backToKw, keywordEach] using hl
  unfold methodCall
  rw [few]
  unfold calleeOf methodCallPos
  rw [h3]
  rfl

def rdvs (ρ : Rho) : List RV → Option (List D)
  | [] => some []
  | r :: rs => match rdv ρ r, rdvs ρ rs with
    | some d, some ds => some (d :: ds)
    | _, _ => none
inductive Tps (T : Tb) (H B : Hp) : List V → List D → Prop
  | nil : Tps T H B [] []
  | cons {v d vs ds} : Tp T H B v d → Tps T H B vs ds → Tps T H B (v :: vs) (d :: ds)
theorem tps_of {Y : Fc} {σ : Sg} {H : Hp} {ρ : Rho} {B : Hp} (st : Sta T Y σ H ρ B) : ∀ {vs : List V} {rs : List RV} {ds : List D}, vs.length = rs.length → (∀ (k : Nat) (v : V) (r : RV), vs[k]? = some v → rs[k]? = some r → VR T Y σ H ρ B v r) → rdvs ρ rs = some ds → Tps T H B vs ds
  | [], [], ds, _, _, e => by cases e; exact .nil
  | v :: vs, r :: rs, ds, hl, h, e => by
    unfold rdvs at e
    split at e
    · rename_i d ds' e1 e2
      cases e
      exact .cons ((h 0 v r rfl rfl).top st e1) (tps_of st (Nat.succ.inj hl) (fun k v' r' a b => h (k + 1) v' r' (by simpa using a) (by simpa using b)) e2)
    · cases e
  | [], _ :: _, _, hl, _, _ => by cases hl
  | _ :: _, [], _, hl, _, _ => by cases hl
/-- what a built-in gives -/
inductive Bv where
  | fl (v : V) (h : flatV v = true) | lst (ds : List D) | dic (ds : List (Key × D)) | tup (ds : List D)
def Bv.rv : Bv → RV
  | .fl v _ => .im (vD v)
  | .lst ds => .ow (.lst ds)
  | .dic ds => .ow (.dic ds)
  | .tup ds => .im (.tup ds)
abbrev Bv.int (i : Int) : Bv := .fl (.int i) rfl
abbrev Bv.str (i : Str) : Bv := .fl (.str i) rfl
abbrev Bv.bl (i : Bool) : Bv := .fl (.bl i) rfl
abbrev Bv.non : Bv := .fl .non rfl
def GivesB (T : Tb) (H B : Hp) (Q : VK) : Bv → Prop
  | .fl v _ => Q v H
  | .lst ds => ∀ p vs, H p = none → RepL T B vs ds → Q (.ref p) (upd H p (.lst vs))
  | .dic ds => ∀ p vs, H p = none → RepK T B vs ds → Q (.ref p) (upd H p (.dK vs))
  | .tup ds => ∀ p vs, H p = none → RepL T B vs ds → Q (.ref p) (upd H p (.tup vs))
theorem givesB {Y : Fc} {σ : Sg} {H : Hp} {ρ : Rho} {B : Hp} {bv : Bv} {Q : VK} (s : Sta T Y σ H ρ B) (h : ∀ v H' B', Pe T Y σ H ρ B v bv.rv H' ρ B' → Q v H') : GivesB T H B Q bv := by
  cases bv with
  | fl v hf => exact h v H B (Pe.im s (rep_vD hf))
  | lst ds => intro p vs hn rl; exact h _ _ _ (Pe.laid s hn ⟨vs, upd_same, rl⟩)
  | dic ds => intro p vs hn rl; exact h _ _ _ (Pe.laid s hn ⟨vs, upd_same, rl⟩)
  | tup ds => intro p vs hn rl; exact h _ _ _ (Pe.laidT s hn rl)
def eB (g : List D → Option Bv) (fl : LF) : EF := fun ρ => (fl ρ).bind fun rs ρ1 => match rdvs ρ1 rs with
  | some ds => (match g ds with
    | some bv => .ok bv.rv ρ1
    | none => .bad)
  | none => .bad
/-- a rule of the kit for a call of a built-in says what g says -/
def SaysB (T : Tb) (g : List D → Option Bv) (r : List V → Hp → VK → Prop) : Prop :=
  ∀ (H B : Hp) (vs : List V) (ds : List D) (bv : Bv) (Q : VK), (∀ a o, B a = some o → H a = some o) → Tps T H B vs ds → g ds = some bv → GivesB T H B Q bv → r vs H Q
theorem b_of {g : List D → Option Bv} {r : List V → Hp → VK → Prop} {W : WX} {σ : Sg} {H : Hp} {Q : VK} (hi : SaysB T g r) (h : tE T W (eB g fl) σ H Q) : tCB r (tA T W fl) σ H Q := by
  obtain ⟨Y, ρ, B, st, h⟩ := h
  refine ⟨Y, ρ, B, st, h.bind.imp fun rs ρ1 h1 vs H1 B1 q => ?_⟩
  split at h1
  · rename_i ds e
    split at h1
    · rename_i bv eg
      have st1 := q.stp.st
      exact hi H1 B1 vs ds bv Q st1.sub (tps_of st1 q.len q.val e) eg (givesB st1 fun v H' B' p => h1 v H' B' (Pe.after q.stp p))
    · exact h1.elim
  · exact h1.elim
theorem je_callB {g : List D → Option Bv} {r : List V → Hp → VK → Prop} {id : String} {x : Str} (hi : SaysB T g r) (hc : CallR X (.builtin id) r) (hg : Gl X x) (hm : X.mg x = none) (hv : bootBuiltins x = some (.builtin id)) (hn : x ≠ "__name__") (hdb : (x == ("__debug__" : Str)) = false) (ha : JL T X (e :: es) fl) (hs : noStar (e :: es) = true) :
    JE T X (.Call (.Name x p) (e :: es) [] pos) (eB g fl) := fun W tk => by
  unfold noStar at hs
  rw [List.all_cons, Bool.and_eq_true] at hs
  exact PE.imp (pe_callB hc hg hm hv (ha W tk) hn hdb (star_cons (by simpa using hs.1)) (star_any hs.2)) fun σ H Q h => b_of hi h
theorem je_callTy {g : List D → Option Bv} {r : List V → Hp → VK → Prop} {Ty : String} {x : Str} (hi : SaysB T g r) (hc : CallR X (.type Ty) r) (hg : Gl X x) (hm : X.mg x = none) (hv : bootBuiltins x = some (.type Ty)) (hn : x ≠ "__name__") (hdb : (x == ("__debug__" : Str)) = false) (ha : JL T X (e :: es) fl) (hs : noStar (e :: es) = true) :
    JE T X (.Call (.Name x p) (e :: es) [] pos) (eB g fl) := fun W tk => by
  unfold noStar at hs
  rw [List.all_cons, Bool.and_eq_true] at hs
  exact PE.imp (pe_callTy hc hg hm hv (ha W tk) hn hdb (star_cons (by simpa using hs.1)) (star_any hs.2)) fun σ H Q h => b_of hi h
theorem Tps.one {H B : Hp} {vs : List V} {d : D} (h : Tps T H B vs [d]) : ∃ v, vs = [v] ∧ Tp T H B v d := by
  cases h with | cons r t => cases t; exact ⟨_, rfl, r⟩
theorem Tps.two {H B : Hp} {vs : List V} {d e : D} (h : Tps T H B vs [d, e]) : ∃ v w, vs = [v, w] ∧ Tp T H B v d ∧ Tp T H B w e := by
  cases h with | cons r t => cases t with | cons r' t => cases t; exact ⟨_, _, rfl, r, r'⟩
def bLen : List D → Option Bv
  | [.str z] => if z.length ≤ sizeLine then some (.int z.length) else none
  | [.dic ds] => some (.int ds.length)
  | [d] => match asS d with
    | some ds => some (.int ds.length)
    | none => none
  | _ => none
def rLenA (K : PySem.W.Frag) : List V → Hp → VK → Prop := fun xs H Q => (∃ p ys, xs = [.ref p] ∧ (SqL K H p ys ∨ SqT K H p ys) ∧ Q (.int ys.length) H) ∨ (∃ z, xs = [.str z] ∧ z.length ≤ sizeLine ∧ Q (.int z.length) H) ∨ ∃ a kvs, xs = [.ref a] ∧ Rd H a (.dK kvs) ∧ Q (.int kvs.length) H
theorem cr_lenD : CallR X (.builtin "len") (fun xs H Q => ∃ a kvs, xs = [.ref a] ∧ Rd H a (.dK kvs) ∧ Q (.int kvs.length) H) := by
  intro pins s σ H xs us Q I r ⟨a, kvs, ex, e, q⟩
  subst ex
  obtain ⟨u, rfl, rx⟩ := vals1 r
  cases rx
  exact d_len I e fun t s' I' => ⟨.int kvs.length, H, I', ⟨_, rfl⟩, q⟩
theorem cr_lenA : CallR X (.builtin "len") (rLenA X.K) := call_len_seq.or (call_len_str.or cr_lenD)
theorem says_len (hK : X.K = T.K) : SaysB T bLen (rLenA X.K) := by
  intro H B vs ds bv Q sub t e q
  unfold bLen at e
  split at e
  · rename_i z
    split at e
    · rename_i hz
      cases e
      obtain ⟨v, rfl, t1⟩ := t.one
      rw [t1.str]
      exact .inr (.inl ⟨z, rfl, hz, q⟩)
    · cases e
  · rename_i ds'
    cases e
    obtain ⟨v, rfl, t1⟩ := t.one
    obtain ⟨p, kvs, rfl, h1, r⟩ := t1.dic sub
    refine .inr (.inr ⟨p, kvs, rfl, h1, ?_⟩)
    rw [r.length]; exact q
  · split at e
    · rename_i ds' es
      cases e
      obtain ⟨v, rfl, t1⟩ := t.one
      obtain ⟨p, vs, rfl, hq, r⟩ := t1.asS sub es
      refine .inl ⟨p, vs, rfl, by rw [hK]; exact hq, ?_⟩
      rw [r.length]; exact q
    · cases e
  · cases e
def bList : List D → Option Bv
  | [.dic ds] => some (.lst (ds.map fun kv => kD kv.1))
  | [d] => match asS d with
    | some ds => some (.lst ds)
    | none => none
  | _ => none
def rListA (K : PySem.W.Frag) : List V → Hp → VK → Prop := fun xs H Q => (∃ p ys, xs = [.ref p] ∧ (SqL K H p ys ∨ SqT K H p ys) ∧ ∀ l, H l = none → Q (.ref l) (upd H l (.lst ys))) ∨ ∃ (a : Addr) (kvs : List (Key × V)), xs = [.ref a] ∧ Rd H a (.dK kvs) ∧ ∀ p, H p = none → Q (.ref p) (upd H p (.lst (kvs.map fun kv => kV kv.1)))
theorem cr_listA (hc : X.calm = true) : CallR X (.type "list") (rListA X.K) := call_list_of.or (call_listD hc)
theorem says_list (hK : X.K = T.K) : SaysB T bList (rListA X.K) := by
  intro H B vs ds bv Q sub t e q
  unfold bList at e
  split at e
  · rename_i ds'
    cases e
    obtain ⟨v, rfl, t1⟩ := t.one
    obtain ⟨p, kvs, rfl, h1, r⟩ := t1.dic sub
    exact .inr ⟨p, kvs, rfl, h1, fun n hn => q n _ hn r.keys⟩
  · split at e
    · rename_i ds' es
      cases e
      obtain ⟨v, rfl, t1⟩ := t.one
      obtain ⟨p, vs, rfl, hq, r⟩ := t1.asS sub es
      exact .inl ⟨p, vs, rfl, by rw [hK]; exact hq, fun n hn => q n _ hn r⟩
    · cases e
  · cases e
def bDict : List D → Option Bv
  | [.dic ds] => some (.dic ds)
  | _ => none
theorem says_dict : SaysB T bDict (fun xs H Q => ∃ (a : Addr) (kvs : List (Key × V)), xs = [.ref a] ∧ Rd H a (.dK kvs) ∧ ∀ p, H p = none → Q (.ref p) (upd H p (.dK kvs))) := by
  intro H B vs ds bv Q sub t e q
  unfold bDict at e
  split at e
  · cases e
    obtain ⟨v, rfl, t1⟩ := t.one
    obtain ⟨p, kvs, rfl, h1, r⟩ := t1.dic sub
    exact ⟨p, kvs, rfl, h1, fun n hn => q n _ hn r⟩
  · cases e
def strsD : List D → Option (List Str)
  | [] => some []
  | .str x :: r => (strsD r).map (x :: ·)
  | _ => none
def intsD : List D → Option (List Int)
  | [] => some []
  | .int x :: r => (intsD r).map (x :: ·)
  | _ => none
def blsD : List D → Option (List Bool)
  | [] => some []
  | .bl x :: r => (blsD r).map (x :: ·)
  | _ => none
theorem strsD_ok : ∀ {ds : List D} {xs : List Str}, strsD ds = some xs → ds = xs.map D.str
  | [], xs, e => by cases e; rfl
  | d :: ds, xs, e => by
    cases d with
    | str x =>
      obtain ⟨ys, e1, rfl⟩ := Option.map_eq_some_iff.mp (show (strsD ds).map (x :: ·) = some xs from e)
      rw [strsD_ok e1]; rfl
    | _ => cases e
theorem intsD_ok : ∀ {ds : List D} {xs : List Int}, intsD ds = some xs → ds = xs.map D.int
  | [], xs, e => by cases e; rfl
  | d :: ds, xs, e => by
    cases d with
    | int x =>
      obtain ⟨ys, e1, rfl⟩ := Option.map_eq_some_iff.mp (show (intsD ds).map (x :: ·) = some xs from e)
      rw [intsD_ok e1]; rfl
    | _ => cases e
theorem blsD_ok : ∀ {ds : List D} {xs : List Bool}, blsD ds = some xs → ds = xs.map D.bl
  | [], xs, e => by cases e; rfl
  | d :: ds, xs, e => by
    cases d with
    | bl x =>
      obtain ⟨ys, e1, rfl⟩ := Option.map_eq_some_iff.mp (show (blsD ds).map (x :: ·) = some xs from e)
      rw [blsD_ok e1]; rfl
    | _ => cases e
def bFold (f : List Bool → Bool) : List D → Option Bv
  | [d] => match asL d with
    | some ds => (blsD ds).map fun bs => .bl (f bs)
    | none => none
  | _ => none
theorem says_all (hK : X.K = T.K) : SaysB T (bFold fun bs => bs.all id) (rAll X.K) := by
  intro H B vs ds bv Q sub t e q
  unfold bFold at e
  split at e
  · split at e
    · rename_i ds' es
      obtain ⟨bs, e1, rfl⟩ := Option.map_eq_some_iff.mp e
      obtain ⟨v, rfl, t1⟩ := t.one
      obtain ⟨p, vs, rfl, hq, r⟩ := t1.asL sub es
      rw [blsD_ok e1] at r
      rw [hK]
      exact ⟨p, bs, rfl, by rw [← r.bls]; exact hq, q⟩
    · cases e
  · cases e
theorem says_any (hK : X.K = T.K) : SaysB T (bFold fun bs => bs.any id) (rAny X.K) := by
  intro H B vs ds bv Q sub t e q
  unfold bFold at e
  split at e
  · split at e
    · rename_i ds' es
      obtain ⟨bs, e1, rfl⟩ := Option.map_eq_some_iff.mp e
      obtain ⟨v, rfl, t1⟩ := t.one
      obtain ⟨p, vs, rfl, hq, r⟩ := t1.asL sub es
      rw [blsD_ok e1] at r
      rw [hK]
      exact ⟨p, bs, rfl, by rw [← r.bls]; exact hq, q⟩
    · cases e
  · cases e
def bSum : List D → Option Bv
  | [d] => match asL d with
    | some ds => (intsD ds).map fun ns => .int ns.sum
    | none => none
  | _ => none
theorem says_sum (hK : X.K = T.K) : SaysB T bSum (rSum X.K) := by
  intro H B vs ds bv Q sub t e q
  unfold bSum at e
  split at e
  · split at e
    · rename_i ds' es
      obtain ⟨bs, e1, rfl⟩ := Option.map_eq_some_iff.mp e
      obtain ⟨v, rfl, t1⟩ := t.one
      obtain ⟨p, vs, rfl, hq, r⟩ := t1.asL sub es
      rw [intsD_ok e1] at r
      rw [hK]
      exact ⟨p, bs, rfl, by rw [← r.ints']; exact hq, q⟩
    · cases e
  · cases e
def bInt : List D → Option Bv
  | [.int i] => some (.int i)
  | [.bl k] => some (.int (if k then 1 else 0))
  | [.str a] => if a.length ≤ 640 then (PySem.intText? a).map fun n => .int n else none
  | _ => none
def rIntA : List V → Hp → VK → Prop := fun xs H Q => ((∃ i, xs = [.int i] ∧ Q (.int i) H) ∨ ∃ k, xs = [.bl k] ∧ Q (.int (if k then 1 else 0)) H) ∨ ∃ a n, xs = [.str a] ∧ PySem.intText? a = some n ∧ a.length ≤ 640 ∧ Q (.int n) H
theorem cr_int : CallR X (.type "int") rIntA := call_int1.or call_int_str
theorem says_int : SaysB T bInt rIntA := by
  intro H B vs ds bv Q sub t e q
  unfold bInt at e
  split at e
  · cases e
    obtain ⟨v, rfl, t1⟩ := t.one
    exact .inl (.inl ⟨_, by rw [t1.int], q⟩)
  · cases e
    obtain ⟨v, rfl, t1⟩ := t.one
    exact .inl (.inr ⟨_, by rw [t1.bl], q⟩)
  · split at e
    · rename_i hz
      obtain ⟨n, e1, rfl⟩ := Option.map_eq_some_iff.mp e
      obtain ⟨v, rfl, t1⟩ := t.one
      exact .inr ⟨_, n, by rw [t1.str], e1, hz, q⟩
    · cases e
  · cases e
def bAbs : List D → Option Bv
  | [.int i] => some (.int (if i < 0 then -i else i))
  | _ => none
theorem says_abs : SaysB T bAbs (fun xs H Q => ∃ i, xs = [.int i] ∧ Q (.int (if i < 0 then -i else i)) H) := by
  intro H B vs ds bv Q sub t e q
  unfold bAbs at e
  split at e
  · cases e
    obtain ⟨v, rfl, t1⟩ := t.one
    exact ⟨_, by rw [t1.int], q⟩
  · cases e
end
end Pu
namespace Pu
open PySem PySem.Spec PyProof.Rows L2
section
variable {α : Type} (lt : α → α → Bool)
def ins1 (x : α) : List α → List α
  | [] => [x]
  | y :: r => if lt y x = true then y :: ins1 x r else x :: y :: r
def isort : List α → List α
  | [] => []
  | x :: r => ins1 lt x (isort r)
theorem ins1_perm (x : α) : ∀ l : List α, (ins1 lt x l).Perm (x :: l)
  | [] => .refl _
  | y :: r => by
    unfold ins1
    split
    · exact ((ins1_perm x r).cons y).trans (.swap x y r)
    · exact .refl _
theorem isort_perm : ∀ l : List α, (isort lt l).Perm l
  | [] => .refl _
  | x :: r => (ins1_perm lt x _).trans ((isort_perm r).cons x)
end
/-- b not below a -/
def leS (a b : Str) : Prop := a.cps.toList ≤ b.cps.toList
theorem leS_iff {a b : Str} : leS a b ↔ sLt b a = false := by
  unfold leS sLt
  rw [← List.not_lt, decide_eq_false_iff_not]
theorem leS_antisymm {a b : Str} (h : leS a b) (h' : leS b a) : a = b := by
  have := List.le_antisymm h h'
  cases a with
  | mk x =>
    cases b with
    | mk y => exact congrArg Str.mk (Array.toList_inj.mp this)
theorem leS_total (a b : Str) : leS a b ∨ leS b a := List.le_total _ _
theorem leS_trans {a b c : Str} (h : leS a b) (h' : leS b c) : leS a c := List.le_trans h h'
def sortS : List Str → List Str := isort sLt
theorem ins1_sorted (x : Str) : ∀ {l : List Str}, l.Pairwise leS → (ins1 sLt x l).Pairwise leS
  | [], _ => by simp [ins1]
  | y :: r, h => by
    unfold ins1
    split
    · rename_i hlt
      refine List.pairwise_cons.mpr ⟨fun z hz => ?_, ins1_sorted x (List.pairwise_cons.mp h).2⟩
      rcases List.mem_cons.mp ((ins1_perm sLt x r).mem_iff.mp hz) with rfl | hz
      · rcases leS_total y z with q | q
        · exact q
        · rw [leS_iff, hlt] at q; cases q
      · exact (List.pairwise_cons.mp h).1 z hz
    · rename_i hlt
      have hxy : leS x y := leS_iff.mpr (by simpa using hlt)
      refine List.pairwise_cons.mpr ⟨fun z hz => ?_, h⟩
      rcases List.mem_cons.mp hz with rfl | hz
      · exact hxy
      · exact leS_trans hxy ((List.pairwise_cons.mp h).1 z hz)
theorem sortS_sorted : ∀ l : List Str, (sortS l).Pairwise leS
  | [] => .nil
  | x :: r => ins1_sorted x (sortS_sorted r)
theorem sortS_perm (l : List Str) : (sortS l).Perm l := isort_perm _ l
theorem rising_le : ∀ {r : List Str} {p : Str}, risingS p r = true → (p :: r).Pairwise leS
  | [], p, _ => by simp
  | x :: r, p, h => by
    unfold risingS at h
    rw [Bool.and_eq_true] at h
    have ih := rising_le h.2
    have hpx : leS p x := leS_iff.mpr (by
      have := h.1
      rw [ltCps_eq] at this
      unfold sLt
      simpa using this)
    refine List.pairwise_cons.mpr ⟨fun z hz => ?_, ih⟩
    rcases List.mem_cons.mp hz with rfl | hz
    · exact hpx
    · exact leS_trans hpx ((List.pairwise_cons.mp ih).1 z hz)
theorem sorted_uniq {xs ys : List Str} (p : ys.Perm xs) (h : sortedS ys = true) : ys = sortS xs := by
  have h1 : ys.Pairwise leS := by
    cases ys with
    | nil => exact .nil
    | cons y r => exact rising_le h
  exact List.Perm.eq_of_pairwise (fun a b _ _ => leS_antisymm) h1 (sortS_sorted xs) (p.trans (sortS_perm xs).symm)
section
variable {T : Tb} {X : Cx} {a b c e o : Expr} {es : List Expr} {pos apos p : Pos} {fa fb fc fo : EF} {fl fr : LF}
def bSorted : List D → Option Bv
  | [d] => match asL d with
    | some ds => (match strsD ds with
      | some xs => if xs.length < 64 then some (.lst ((sortS xs).map D.str)) else none
      | none => none)
    | none => none
  | _ => none
theorem says_sorted (hK : X.K = T.K) : SaysB T bSorted (rSortedS X.K) := by
  intro H B vs ds bv Q sub t e q
  unfold bSorted at e
  split at e
  · split at e
    · rename_i ds' es
      split at e
      · rename_i xs e1
        split at e
        · rename_i hz
          cases e
          obtain ⟨v, rfl, t1⟩ := t.one
          obtain ⟨p, vs, rfl, hq, r⟩ := t1.asL sub es
          rw [strsD_ok e1] at r
          rw [hK]
          refine ⟨p, xs, rfl, by rw [← r.strs]; exact hq, hz, fun ys n hp hs hn => ?_⟩
          rw [sorted_uniq hp hs]
          exact q n _ hn RepL.ofStrs
        · cases e
      · cases e
    · cases e
  · cases e

inductive Ct where
  | bt (n : Nat) | own (c : Nat)
/-- the built-in types, by number -/
def btN : List String := ["str", "int", "bool", "dict", "list", "tuple"]
def tagD : D → Option Nat
  | .non => some 6
  | .bl _ => some 2
  | .int _ => some 1
  | .str _ => some 0
  | .lst _ => some 4
  | .scr _ => some 4
  | .tup _ => some 5
  | .dic _ => some 3
  | .ins c _ => some (7 + c)
  | .glo _ => none
def tagV (T : Tb) (n : Nat) : Value := if n < 6 then .type (btN.getD n "") else if n = 6 then .type "NoneType" else .ref (T.ca (n - 7))
def ctV (T : Tb) : Ct → Value
  | .bt n => .type (btN.getD n "")
  | .own c => .ref (T.ca c)
def ctW (T : Tb) : Ct → V
  | .bt n => .ty (btN.getD n "")
  | .own c => .ref (T.ca c)
def isiT (tag : Nat) : Ct → Bool
  | .bt n => decide (tag = n) || (decide (tag = 2) && decide (n = 1))
  | .own c => decide (tag = 7 + c)
/-- what an instance's class must have -/
structure IsiC (K : PySem.W.Frag) (C : Addr) : Prop where
  cl : Cls K C
  ha : PySem.W.findIn K (.ref C) "__class__" = some (some (.builtin "object.__class__"))
  hn : PySem.W.specialIn K (.builtin "object.__class__") "__get__" = some (some (.builtin "getset_descriptor.__get__"))
  tk : PySem.W.takesIn K (.builtin "object.__class__") = some true
  hm : PySem.W.mroIn K C (.type "object") = some true
/-- the answers of the text for the tags, the classes -/
def IsiOk (T : Tb) (nT : Nat) (cs : List Ct) : Bool := cs.all fun c => (List.range nT).all fun t => decide (PySem.W.kitOne T.K (tagV T t) (ctV T c) = some (isiT t c))
theorem isiOk_at {nT : Nat} {cs : List Ct} (h : IsiOk T nT cs = true) {t : Nat} {c : Ct} (ht : t < nT) (hc : c ∈ cs) : PySem.W.kitOne T.K (tagV T t) (ctV T c) = some (isiT t c) := by
  have h1 := List.all_eq_true.mp h c hc
  have h2 := List.all_eq_true.mp h1 t (List.mem_range.mpr ht)
  exact of_decide_eq_true h2
theorem Rd.lst_ty {K : PySem.W.Frag} {H : Hp} {a : Addr} {xs : List V} (h : SqL K H a xs) : TyX K H (.ref a) (.type "list") := by
  rcases h with (h | ⟨o, h⟩) | ⟨o, its, n, h, hc, _⟩
  · exact .base (.lst h)
  · exact .base (.frz h)
  · exact .kList h hc
theorem Rd.tup_ty {K : PySem.W.Frag} {H : Hp} {a : Addr} {xs : List V} (h : SqT K H a xs) : TyX K H (.ref a) (.type "tuple") := by
  rcases h with (h | ⟨o, h⟩) | ⟨o, its, n, h, hc, _⟩
  · exact .base (.tup h)
  · exact .fTuple h
  · exact .kTuple h hc
theorem Rd.dic_ty {K : PySem.W.Frag} {H : Hp} {a : Addr} {xs : List (Key × V)} (h : Rd H a (.dK xs)) : TyX K H (.ref a) (.type "dict") := by
  rcases h with h | ⟨o, h⟩
  · exact .base (.dK h)
  · exact .fDict h
theorem tagD_ok (hI : ∀ c, c < T.cl.length → IsiC T.K (T.ca c)) {H B : Hp} {x : V} {d : D} {t : Nat} (sub : ∀ a o, B a = some o → H a = some o) (h : Tp T H B x d) (e : tagD d = some t) : TyX T.K H x (tagV T t) ∧ t < 7 + T.cl.length := by
  cases d with
  | non => cases e; rw [h.non]; exact ⟨.base .non, by omega⟩
  | bl => cases e; rw [h.bl]; exact ⟨.base (.bl _), by omega⟩
  | int => cases e; rw [h.int]; exact ⟨.base (.int _), by omega⟩
  | str => cases e; rw [h.str]; exact ⟨.base (.str _), by omega⟩
  | lst ds =>
    cases e
    obtain ⟨p, vs, rfl, hq, _⟩ := h.asL sub rfl
    exact ⟨Rd.lst_ty hq, by omega⟩
  | scr ds =>
    cases e
    obtain ⟨p, vs, rfl, hq, _⟩ := h.asL sub rfl
    exact ⟨Rd.lst_ty hq, by omega⟩
  | tup ds =>
    cases e
    obtain ⟨p, vs, rfl, hq, _⟩ := h.tup sub
    exact ⟨Rd.tup_ty hq, by omega⟩
  | dic ds =>
    cases e
    obtain ⟨p, vs, rfl, hq, _⟩ := h.dic sub
    exact ⟨Rd.dic_ty hq, by omega⟩
  | ins c fs =>
    cases e
    obtain ⟨p, dx, gs, rfl, hq, hc, _⟩ := h.ins sub
    have I := hI c hc
    refine ⟨?_, by omega⟩
    have : tagV T (7 + c) = .ref (T.ca c) := by
      unfold tagV
      rw [if_neg (by omega), if_neg (by omega), show 7 + c - 7 = c by omega]
    rw [this]
    exact .base (.ins hq I.cl I.ha I.hn I.tk I.hm)
  | glo => cases e
def eIsi (cs : List Ct) (fa : EF) : EF := fun ρ => (fa ρ).bind fun r ρ1 => match rdv ρ1 r with
  | some d => (match tagD d with
    | some t => .ok (.im (.bl (cs.any (isiT t)))) ρ1
    | none => .bad)
  | none => .bad
theorem clsV_ct (c : Ct) : ClsV (ctW T c) (ctV T c) := by cases c <;> constructor
theorem kitAny_ok {nT : Nat} {cs : List Ct} (h : IsiOk T nT cs = true) {t : Nat} (ht : t < nT) : ∀ ds : List Ct, (∀ d ∈ ds, d ∈ cs) → PySem.W.kitAny T.K (tagV T t) (ds.map (ctV T)) = some (ds.any (isiT t))
  | [], _ => rfl
  | d :: ds, hm => by
    have e1 := isiOk_at h ht (hm d List.mem_cons_self)
    have ih := kitAny_ok h ht ds fun x hx => hm x (List.mem_cons_of_mem _ hx)
    rw [List.map_cons, List.any_cons]
    unfold PySem.W.kitAny
    rw [e1]
    cases q : isiT t d with
    | true => rfl
    | false => simpa [q] using ih
/-- one class -/
theorem je_isi1 {ct : Ct} {nT : Nat} {cs : List Ct} {q : Pos} (hK : X.K = T.K) (hI : ∀ c, c < T.cl.length → IsiC T.K (T.ca c)) (hO : IsiOk T (7 + T.cl.length) cs = true) (hc : ct ∈ cs) (hg : Gl X "isinstance") (hm : X.mg "isinstance" = none) (pb : PE X b (tC (ctW T ct))) (ha : JE T X a fa) (hs : noStar [a, b] = true) :
    JE T X (.Call (.Name "isinstance" p) [a, b] [] pos) (eIsi [ct] fa) := fun W tk => by
  unfold noStar at hs
  have s1 : isStar a = false := by simp [noStar] at hs; exact hs.1
  have s2 : isStar b = false := by simp [noStar] at hs; exact hs.2
  refine PE.imp (pe_callB call_isi hg hm rfl (pa_cons (ha W tk) (pa_cons pb pa_nil (star_cons s2)) (star_cons s1)) (by decide) (by decide) (star_cons s1) (star_any (by simp [s2]))) fun σ H Q ⟨Y, ρ, B, st, h⟩ => ⟨Y, ρ, B, st, h.bind.imp fun r ρ1 h1 v H1 B1 p => ?_⟩
  split at h1
  · rename_i d ed
    split at h1
    · rename_i t et
      obtain ⟨ty, ht⟩ := tagD_ok hI p.stp.st.sub (p.val.top p.stp.st ed) et
      refine ⟨v, ctW T ct, tagV T t, ctV T ct, isiT t ct, rfl, clsV_ct ct, by rw [hK]; exact ty, by rw [hK]; exact isiOk_at hO ht hc, ?_⟩
      have e1 : [ct].any (isiT t) = isiT t ct := by simp
      rw [e1] at h1
      exact h1 _ _ _ (Pe.after p.stp (Pe.im p.stp.st .bl))
    · exact h1.elim
  · exact h1.elim
/-- several, as a tuple's display -/
def PAc (T : Tb) (X : Cx) (es : List Expr) (ds : List Ct) : Prop := PA X es (fun σ H Q => Q (ds.map (ctW T)) H)
theorem pac_nil : PAc T X [] [] := PA.imp pa_nil fun σ H Q h => h
theorem pac_cons {d : Ct} {ds : List Ct} (h : PE X e (tC (ctW T d))) (t : PAc T X es ds) (hs : isStar e = false) : PAc T X (e :: es) (d :: ds) := PA.imp (pa_cons h t (star_cons hs)) fun σ H Q h => h
theorem paired_ct : ∀ ds : List Ct, Paired ClsV (ds.map (ctW T)) (ds.map (ctV T))
  | [] => .nil
  | d :: ds => .cons (clsV_ct d) (paired_ct ds)
theorem je_isiN {ds : List Ct} {cs : List Ct} {es : List Expr} {k : Nat} {q : Pos} (hK : X.K = T.K) (hI : ∀ c, c < T.cl.length → IsiC T.K (T.ca c)) (hO : IsiOk T (7 + T.cl.length) cs = true) (hc : ∀ d ∈ ds, d ∈ cs) (hl : ds.length ≤ sizeLine) (hg : Gl X "isinstance") (hm : X.mg "isinstance" = none) (pb : PAc T X es ds) (ha : JE T X a fa) (hs : isStar a = false) :
    JE T X (.Call (.Name "isinstance" p) [a, .Tuple es k q] [] pos) (eIsi ds fa) := fun W tk => by
  refine PE.imp (pe_callB call_isiT hg hm rfl (pa_cons (ha W tk) (pa_cons (pe_tup pb) pa_nil (star_cons rfl)) (star_cons hs)) (by decide) (by decide) (star_cons hs) (star_any rfl)) fun σ H Q ⟨Y, ρ, B, st, h⟩ => ⟨Y, ρ, B, st, h.bind.imp fun r ρ1 h1 v H1 B1 p => ?_⟩
  split at h1
  · rename_i d ed
    split at h1
    · rename_i t et
      have st1 := p.stp.st
      obtain ⟨ty, ht⟩ := tagD_ok hI st1.sub (p.val.top st1 ed) et
      refine ⟨by simpa using hl, fun n hn => ?_⟩
      obtain ⟨bn, ns, s2⟩ := st1.fresh (o := .tup (ds.map (ctW T))) hn
      have l1 := Stp.laid (o := .tup (ds.map (ctW T))) st1 hn
      have p2 := p.val.stp l1
      obtain ⟨ty, ht⟩ := tagD_ok hI s2.sub (p2.top s2 ed) et
      refine ⟨v, n, ds.map (ctW T), tagV T t, ds.map (ctV T), ds.any (isiT t), rfl, upd_same, paired_ct ds, by rw [hK]; exact ty, by rw [hK]; exact kitAny_ok hO ht ds hc, ?_⟩
      exact h1 _ _ _ (Pe.after (p.stp.trans l1) (Pe.im s2 .bl))
    · exact h1.elim
  · exact h1.elim
end
end Pu
namespace Pu
open PySem PySem.Spec PyProof.Rows L2
section
variable {T : Tb} {X : Cx} {a b c e o : Expr} {es : List Expr} {pos apos p : Pos} {fa fb fc fo : EF} {fl fr : LF}
/-- of the built-in type Ty, without a dict of its own -/
def TyW (X : Cx) (σ : Sg) (H : Hp) (x : V) (Ty : String) : Prop := ∀ (pins : List (Addr × Obj)) (s : Shared) (v : Value), Inv X pins σ H s → RelV x v → s.TypeIs v Ty ∧ ∀ a, v = .ref a → ∃ ob, s.heap.get? a = some ob ∧ ob.dict = none
def tBW (X : Cx) (Ty : String) (r : V → List V → Hp → VK → Prop) (to : TE) (t : TA) : TE := fun σ H Q => to σ H fun x H1 => TyW X σ H1 x Ty ∧ t σ H1 fun xs H2 => r x xs H2 Q
theorem pe_bw {Ty id : String} {name : Str} {to : TE} {t : TA} {r : V → List V → Hp → VK → Prop} (pa : PlainAttrs Ty) (slot : Slot Ty name id) (hty : typeOf (.builtin id) = pure (.type "method_descriptor")) (hm : MtR X id r) (ho : PE X o to) (ha : PA X (e :: es) t)
    (hb : noSup o = true) (hs : noStar (e :: es) = true) (hlen : decide ((e :: es).length < 30) = true) (hline : (apos.endLine == pos.line) = true) : PE X (.Call (.Attribute o name apos) (e :: es) [] pos) (tBW X Ty r to t) := by
  have hs' := hs
  unfold noStar at hs
  rw [List.all_cons, Bool.and_eq_true] at hs
  have h1 := star_cons (es := es) (env := X.env) (show isStar e = false by simpa using hs.1)
  have hplain := star_any (pos := pos) (env := X.env) hs.2
  have hfew : ((backTo pos (starEach (e :: es) X.env)).all (fun x => !x.1) && (backToKw pos (keywordEach [] X.env)).all (fun x => x.1.isSome)
      && decide ((e :: es).length + ([] : List Keyword).length + (if ([] : List Keyword).isEmpty then 0 else 1) < 30)) = true := by
    have h2 : (backTo pos (starEach (e :: es) X.env)).all (fun x => !x.1) = true := by
      have := star_any (pos := pos) (env := X.env) hs'
      rw [List.any_eq_false] at this
      rw [List.all_eq_true]
      intro x hx
      simpa using this x hx
    rw [h2]
    simpa [backToKw, keywordEach] using hlen
  refine ⟨fun pins s σ H Q I h => ?_⟩
  refine wpAny_Call_method_late (abase_of hb) hfew hline rfl (thn (ho.run pins s σ H _ I h) fun v s1 ⟨x, H1, I1, r1, ty, q1⟩ => ?_)
  obtain ⟨h3, h4⟩ := ty pins s1 v I1 r1
  refine ⟨Ty, id, pa, slot, hty, h3, h4, ?_⟩
  have hA := ha.run pos pins s1 σ H1 _ I1 q1
  rw [h1] at hA ⊢
  refine Calls.callWith_builtin (by show (false || (backTo pos (starEach es X.env)).any (·.1)) = false; rw [hplain]; rfl) (Calls.evalArgs_plain ?_)
  exact thn hA fun us s2 ⟨vs, H2, I2, r2, q2⟩ => hm pins s2 σ H2 x vs v us Q I2 r1 r2 q2
theorem pe_bw0 {Ty id : String} {name : Str} {to : TE} {r : V → List V → Hp → VK → Prop} (pa : PlainAttrs Ty) (slot : Slot Ty name id) (hty : typeOf (.builtin id) = pure (.type "method_descriptor")) (hm : MtR X id r) (ho : PE X o to)
    (hb : noSup o = true) (hline : (apos.endLine == pos.line) = true) : PE X (.Call (.Attribute o name apos) [] [] pos) (tBW X Ty r to tNil) := by
  refine ⟨fun pins s σ H Q I h => ?_⟩
  refine wpAny_Call_method0_late (abase_of hb) hline (thn (ho.run pins s σ H _ I h) fun v s1 ⟨x, H1, I1, r1, ty, q1⟩ => ?_)
  obtain ⟨h1, h2⟩ := ty pins s1 v I1 r1
  exact ⟨Ty, id, pa, slot, hty, h1, h2, Calls.callWith_builtin rfl (PySem.evalArgs_none (hm pins s1 σ H1 x [] v [] Q I1 r1 .nil q1))⟩
/-- the built-in kinds that have methods here -/
def tyD : D → Option String
  | .str _ => some "str"
  | .lst _ => some "list"
  | .scr _ => some "list"
  | .dic _ => some "dict"
  | _ => none
theorem tyW_of (hK : X.K = T.K) {σ : Sg} {H B : Hp} {x : V} {d : D} {n : String} (sub : ∀ a o, B a = some o → H a = some o) (h : Tp T H B x d) (e : tyD d = some n) : TyW X σ H x n := by
  intro pins s v I r
  cases d with
  | str z =>
    cases e
    rw [h.str] at r
    obtain ⟨t, rfl⟩ := r
    exact ⟨typeIs_str s z t, fun _ e => nomatch e⟩
  | lst ds =>
    cases e
    obtain ⟨p, vs, rfl, hq, _⟩ := h.asL sub rfl
    cases r
    rw [← hK] at hq
    obtain ⟨its, _, pl, _⟩ := I.list hq
    refine ⟨pl.isList.typeIs, fun a e => ?_⟩
    cases e
    obtain ⟨o, n, e, c, hd, _⟩ := pl
    exact ⟨o, e, hd⟩
  | scr ds =>
    cases e
    obtain ⟨p, vs, rfl, hq, _⟩ := h.asL sub rfl
    cases r
    rw [← hK] at hq
    obtain ⟨its, _, pl, _⟩ := I.list hq
    refine ⟨pl.isList.typeIs, fun a e => ?_⟩
    cases e
    obtain ⟨o, n, e, c, hd, _⟩ := pl
    exact ⟨o, e, hd⟩
  | dic ds =>
    cases e
    obtain ⟨p, vs, rfl, hq, _⟩ := h.dic sub
    cases r
    obtain ⟨h1, h2, _⟩ := isD_at I (.inl ⟨vs, hq⟩)
    exact ⟨h1, h2⟩
  | _ => cases e
inductive Br where
  | val (d : D) | new (b : Bv)
def Br.rv : Br → RV
  | .val d => .im d
  | .new b => b.rv
def GivesR (T : Tb) (H B : Hp) (Q : VK) : Br → Prop
  | .val d => ∀ v, Rep T B v d → Q v H
  | .new b => GivesB T H B Q b
theorem givesR {Y : Fc} {σ : Sg} {H : Hp} {ρ : Rho} {B : Hp} {br : Br} {Q : VK} (s : Sta T Y σ H ρ B) (h : ∀ v H' B', Pe T Y σ H ρ B v br.rv H' ρ B' → Q v H') : GivesR T H B Q br := by
  cases br with
  | val d => exact fun v rv => h v H B (Pe.im s rv)
  | new b => exact givesB s h
def SaysM (T : Tb) (g : D → List D → Option Br) (r : V → List V → Hp → VK → Prop) : Prop :=
  ∀ (H B : Hp) (x : V) (vs : List V) (d : D) (ds : List D) (br : Br) (Q : VK), (∀ a o, B a = some o → H a = some o) → Tp T H B x d → RepL T B vs ds → g d ds = some br → GivesR T H B Q br → r x vs H Q
def eBm (n : String) (g : D → List D → Option Br) (fo : EF) (fl : LF) : EF := fun ρ => (fo ρ).bind fun r ρ1 => match rdv ρ1 r with
  | some d0 => if tyD d0 = some n then (fl ρ1).bind fun rs ρ2 => (match setl rs ρ2 with
    | some (ds, ρ3) => (match rdv ρ3 r with
      | some d => (match g d ds with
        | some br => .ok br.rv ρ3
        | none => .bad)
      | none => .bad)
    | none => .bad) else .bad
  | none => .bad
theorem bm_of {W : WX} {n : String} {g : D → List D → Option Br} {r : V → List V → Hp → VK → Prop} (hK : X.K = T.K) (hi : SaysM T g r) {σ : Sg} {H : Hp} {Q : VK} (h : tE T W (eBm n g fo fl) σ H Q) : tBW X n r (tE T W fo) (tA T W fl) σ H Q := by
  obtain ⟨Y, ρ, B, st, h⟩ := h
  refine ⟨Y, ρ, B, st, h.bind.imp fun ro ρ1 h1 x H1 B1 p1 => ?_⟩
  split at h1
  · rename_i d0 e0
    split at h1
    · rename_i et
      have st1 := p1.stp.st
      refine ⟨tyW_of hK st1.sub (p1.val.top st1 e0) et, Y, ρ1, B1, st1, (Aft.after p1.stp h1.bind).imp fun rs ρ2 h2 vs H2 B2 q => ?_⟩
      split at h2
      · rename_i ds ρ3 es
        obtain ⟨B3, p3, rl, l⟩ := setl_ok q es
        have st3 := p3.st
        split at h2
        · rename_i d ed
          split at h2
          · rename_i br eg
            exact hi H2 B3 x vs d ds br Q st3.sub ((p1.val.stp p3).top st3 ed) rl eg (givesR st3 fun v H' B' p => h2 v H' B' (Pe.after p1.stp (Pe.after p3 p)))
          · exact h2.elim
        · exact h2.elim
      · exact h2.elim
    · exact h1.elim
  · exact h1.elim
theorem je_bm {Ty id : String} {name : Str} {g : D → List D → Option Br} {r : V → List V → Hp → VK → Prop} (pa : PlainAttrs Ty) (slot : Slot Ty name id) (hty : typeOf (.builtin id) = pure (.type "method_descriptor")) (hm : MtR X id r) (hi : SaysM T g r) (hK : X.K = T.K) (ho : JE T X o fo) (ha : JL T X (e :: es) fl)
    (hb : noSup o = true) (hs : noStar (e :: es) = true) (hlen : decide ((e :: es).length < 30) = true) (hline : (apos.endLine == pos.line) = true) : JE T X (.Call (.Attribute o name apos) (e :: es) [] pos) (eBm Ty g fo fl) := fun W tk =>
  PE.imp (pe_bw pa slot hty hm (ho W tk) (ha W tk) hb hs hlen hline) fun σ H Q h => bm_of hK hi h
theorem tA_nil {W : WX} {σ : Sg} {H : Hp} {Q : List V → Hp → Prop} (h : tA T W lNil σ H Q) : tNil σ H Q := by
  obtain ⟨Y, ρ, B, st, h⟩ := h
  exact h [] H B (PeL.nil st)
theorem je_bm0 {Ty id : String} {name : Str} {g : D → List D → Option Br} {r : V → List V → Hp → VK → Prop} (pa : PlainAttrs Ty) (slot : Slot Ty name id) (hty : typeOf (.builtin id) = pure (.type "method_descriptor")) (hm : MtR X id r) (hi : SaysM T g r) (hK : X.K = T.K) (ho : JE T X o fo)
    (hb : noSup o = true) (hline : (apos.endLine == pos.line) = true) : JE T X (.Call (.Attribute o name apos) [] [] pos) (eBm Ty g fo lNil) := fun W tk =>
  ⟨fun pins s σ H Q I h => (pe_bw0 pa slot hty hm (ho W tk) hb hline).run pins s σ H Q I (by
    obtain ⟨Y, ρ, B, st, k⟩ := bm_of hK hi h
    exact ⟨Y, ρ, B, st, k.imp fun r ρ1 k1 v H1 B1 p => ⟨(k1 v H1 B1 p).1, tA_nil (k1 v H1 B1 p).2⟩⟩)⟩
def bGet : D → List D → Option Br
  | .dic ds, [k] => (keyD k).map fun k => .val ((valD ds k).getD .non)
  | .dic ds, [k, e] => (keyD k).map fun k => .val ((valD ds k).getD e)
  | _, _ => none
def rGetA : V → List V → Hp → VK → Prop := fun x xs H Q => (∃ a y o, x = .ref a ∧ xs = [y] ∧ DGet H a y o ∧ Q (o.getD .non) H) ∨ ∃ a y z o, x = .ref a ∧ xs = [y, z] ∧ DGet H a y o ∧ Q (o.getD z) H
theorem mt_get (hu : X.A.units + 1 < cLine) : MtR X "dict.get" rGetA := by
  intro pins s σ H x xs v us Q I rx rs h
  rcases h with ⟨a, y, o, rfl, rfl, g, q⟩ | ⟨a, y, z, o, rfl, rfl, g, q⟩
  · cases rx
    obtain ⟨u, rfl, ru⟩ := vals1 rs
    exact d_get1 hu I g ru fun w' s' I' rw' => ⟨_, H, I', rw', q⟩
  · cases rx
    obtain ⟨u, u2, rfl, ru, ru2⟩ := vals2 rs
    exact d_get2 hu I g ru ru2 fun w' s' I' rw' => ⟨_, H, I', rw', q⟩
theorem says_get : SaysM T bGet rGetA := by
  intro H B x vs d ds br Q sub t rl e q
  unfold bGet at e
  split at e
  · rename_i kvs k
    obtain ⟨kk, ek, rfl⟩ := Option.map_eq_some_iff.mp e
    cases rl with
    | cons r1 t1 =>
      cases t1
      obtain ⟨p, kv, rfl, h1, r⟩ := t.dic sub
      have ey := (show Tp T H B _ _ from .inl r1).key ek
      subst ey
      refine .inl ⟨p, _, valV kv kk, rfl, rfl, .inl ⟨kv, kk, h1, rfl, rfl⟩, ?_⟩
      rcases r.val kk with ⟨v, d, e1, e2, rv⟩ | ⟨e1, e2⟩
      · rw [e1]; exact q v (by rw [e2]; exact rv)
      · rw [e1]; exact q .non (by rw [e2]; exact .non)
  · rename_i kvs k e'
    obtain ⟨kk, ek, rfl⟩ := Option.map_eq_some_iff.mp e
    cases rl with
    | cons r1 t1 =>
      cases t1 with
      | cons r2 t2 =>
        cases t2
        obtain ⟨p, kv, rfl, h1, r⟩ := t.dic sub
        have ey := (show Tp T H B _ _ from .inl r1).key ek
        subst ey
        refine .inr ⟨p, _, _, valV kv kk, rfl, rfl, .inl ⟨kv, kk, h1, rfl, rfl⟩, ?_⟩
        rcases r.val kk with ⟨v, d, e1, e2, rv⟩ | ⟨e1, e2⟩
        · rw [e1]; exact q v (by rw [e2]; exact rv)
        · rw [e1]; exact q _ (by rw [e2]; exact r2)
  · cases e
def bSplit : D → List D → Option Br
  | .str a, [.str b] => if (b.length == 0) = false ∧ a.length + 2 ≤ sizeLine then some (.new (.lst ((Txt.split a b).map D.str))) else none
  | _, _ => none
def bPart : D → List D → Option Br
  | .str a, [.str b] => if (b.length == 0) = false ∧ a.length ≤ sizeLine then some (.new (.tup [.str (Txt.partition a b).1, .str (Txt.partition a b).2.1, .str (Txt.partition a b).2.2])) else none
  | _, _ => none
def bJoin : D → List D → Option Br
  | .str a, [d] => match asS d with
    | some ds => (match strsD ds with
      | some ys => if (ys.map (·.length)).sum + ys.length * a.length ≤ 16777216 then some (.new (.str (Txt.join a ys))) else none
      | none => none)
    | none => none
  | _, _ => none
theorem says_split : SaysM T bSplit (fun x xs H Q => ∃ a b, x = .str a ∧ xs = [.str b] ∧ (b.length == 0) = false ∧ a.length + 2 ≤ sizeLine ∧ rNewStrs (Txt.split a b) H Q) := by
  intro H B x vs d ds br Q sub t rl e q
  unfold bSplit at e
  split at e
  · split at e
    · rename_i hz
      cases e
      cases rl with
      | cons r1 t1 =>
        cases t1
        cases r1
        exact ⟨_, _, t.str, rfl, hz.1, hz.2, fun n hn => q n _ hn RepL.ofStrs⟩
    · cases e
  · cases e
theorem says_part : SaysM T bPart (fun x xs H Q => ∃ a b, x = .str a ∧ xs = [.str b] ∧ (b.length == 0) = false ∧ a.length ≤ sizeLine ∧ ∀ p, H p = none → Q (.ref p) (upd H p (.tup [.str (Txt.partition a b).1, .str (Txt.partition a b).2.1, .str (Txt.partition a b).2.2]))) := by
  intro H B x vs d ds br Q sub t rl e q
  unfold bPart at e
  split at e
  · split at e
    · rename_i hz
      cases e
      cases rl with
      | cons r1 t1 =>
        cases t1
        cases r1
        exact ⟨_, _, t.str, rfl, hz.1, hz.2, fun n hn => q n _ hn (.cons .str (.cons .str (.cons .str .nil)))⟩
    · cases e
  · cases e
theorem says_join (hK : X.K = T.K) : SaysM T bJoin (fun x xs H Q => ∃ a p, ∃ ys : List Str, x = .str a ∧ xs = [.ref p] ∧ (SqL X.K H p (ys.map V.str) ∨ SqT X.K H p (ys.map V.str)) ∧ (ys.map (·.length)).sum + ys.length * a.length ≤ 16777216 ∧ Q (.str (Txt.join a ys)) H) := by
  intro H B x vs d ds br Q sub t rl e q
  unfold bJoin at e
  split at e
  · split at e
    · rename_i ds' es
      split at e
      · rename_i ys e1
        split at e
        · rename_i hz
          cases e
          cases rl with
          | cons r1 t1 =>
            cases t1
            obtain ⟨p, ws, rfl, hq, r⟩ := (show Tp T H B _ _ from .inl r1).asS sub es
            rw [strsD_ok e1] at r
            rw [hK]
            exact ⟨_, p, ys, t.str, rfl, by rw [← r.strs]; exact hq, hz, q⟩
        · cases e
      · cases e
    · cases e
  · cases e
theorem mut_step {Y : Fc} {σ : Sg} {H : Hp} {ρ : Rho} {B : Hp} {i : Nat} {s : Sl} {a : Addr} {o : HO} {d : D} (st : Sta T Y σ H ρ B) (e : ρ[i]? = some s) (h : s.hot = true) (ev : σ[i]? = some (some (.ref a))) (ho : OwnAt T (upd H a o) B a d) : Stp T Y σ H ρ B (upd H a o) (setS ρ i d) B := by
  have bn : B a = none ∧ H a ≠ none := by
    have so := st.slot i s e
    cases s with
    | no => cases h
    | im => cases h
    | ow => obtain ⟨b, eb, bn, o, _⟩ := so; rw [ev] at eb; cases eb; exact ⟨bn, o.there⟩
    | mu => obtain ⟨b, eb, bn, o, _⟩ := so; rw [ev] at eb; cases eb; exact ⟨bn, o.there⟩
  exact ret_step (is := [i]) (as := [a]) (ms := [d]) st (.cons e h ev (by simp) .nil) ⟨Le.refl B, fun b u q => by rw [upd_ne (ne_of_none q bn.1)]; exact st.sub b u q, fun b u q n _ => by rw [upd_ne (by simpa using n)]; exact q, fun b q => .inl q, .cons bn.1 ho .nil, fun b q => by
    by_cases z : b = a
    · subst z; rw [upd_same] at q; cases q
    · rw [upd_ne z] at q; exact q⟩
/-- the content of a slot that may be changed -/
def hotD (ρ : Rho) (i : Nat) : Option D := match ρ[i]? with
  | some (.ow d) => some d
  | some (.mu d) => some d
  | _ => none
theorem hotD_at {Y : Fc} {σ : Sg} {H : Hp} {ρ : Rho} {B : Hp} {i : Nat} {d : D} (st : Sta T Y σ H ρ B) (e : hotD ρ i = some d) : ∃ (s : Sl) (a : Addr), ρ[i]? = some s ∧ s.hot = true ∧ σ[i]? = some (some (.ref a)) ∧ B a = none ∧ OwnAt T H B a d := by
  unfold hotD at e
  split at e
  · rename_i d' h
    cases e
    obtain ⟨a, ea, bn, o, _⟩ := st.slot i _ h
    exact ⟨_, a, h, rfl, ea, bn, o⟩
  · rename_i d' h
    cases e
    obtain ⟨a, ea, bn, o, _⟩ := st.slot i _ h
    exact ⟨_, a, h, rfl, ea, bn, o⟩
  · cases e
/-- g: the result, the new content -/
def eMt (n : String) (g : D → List D → Option (D × D)) (fo : EF) (fl : LF) : EF := fun ρ => (fo ρ).bind fun r ρ1 => match r with
  | .bo i => (match hotD ρ1 i with
    | some d0 => if tyD d0 = some n then (fl ρ1).bind fun rs ρ2 => (match setl rs ρ2 with
      | some (ds, ρ3) => (match hotD ρ3 i with
        | some d => (match g d ds with
          | some (v, d') => .ok (.im v) (setS ρ3 i d')
          | none => .bad)
        | none => .bad)
      | none => .bad) else .bad
    | none => .bad)
  | _ => .bad
def SaysC (T : Tb) (g : D → List D → Option (D × D)) (r : V → List V → Hp → VK → Prop) : Prop :=
  ∀ (H B : Hp) (a : Addr) (vs : List V) (d d' v : D) (ds : List D) (Q : VK), (∀ a o, B a = some o → H a = some o) → OwnAt T H B a d → RepL T B vs ds → g d ds = some (v, d') → (∀ w o, Rep T B w v → OwnAt T (upd H a o) B a d' → Q w (upd H a o)) → r (.ref a) vs H Q
theorem mt_of {W : WX} {n : String} {g : D → List D → Option (D × D)} {r : V → List V → Hp → VK → Prop} (hK : X.K = T.K) (hi : SaysC T g r) {σ : Sg} {H : Hp} {Q : VK} (h : tE T W (eMt n g fo fl) σ H Q) : tBW X n r (tE T W fo) (tA T W fl) σ H Q := by
  obtain ⟨Y, ρ, B, st, h⟩ := h
  refine ⟨Y, ρ, B, st, h.bind.imp fun ro ρ1 h1 x H1 B1 p1 => ?_⟩
  split at h1
  · rename_i i
    split at h1
    · rename_i d0 e0
      split at h1
      · rename_i et
        have st1 := p1.stp.st
        obtain ⟨s0, a0, ha, hb, hc, hd, ho⟩ := hotD_at st1 e0
        have ex : x = .ref a0 := by
          have := p1.val.1
          rw [hc] at this; cases this; rfl
        subst ex
        refine ⟨tyW_of hK st1.sub (.inr ⟨a0, rfl, ho⟩) et, Y, ρ1, B1, st1, (Aft.after p1.stp h1.bind).imp fun rs ρ2 h2 vs H2 B2 q => ?_⟩
        split at h2
        · rename_i ds ρ3 es
          obtain ⟨B3, p3, rl, l⟩ := setl_ok q es
          have st3 := p3.st
          split at h2
          · rename_i d ed
            split at h2
            · rename_i v d' eg
              obtain ⟨s3, a3, ha3, hb3, hc3, hd3, ho3⟩ := hotD_at st3 ed
              rw [hc] at hc3; cases hc3
              refine hi H2 B3 a0 vs d d' v ds Q st3.sub ho3 rl eg fun w o rw' ow' => ?_
              have ms := mut_step st3 ha3 hb3 hc ow'
              exact h2 w _ B3 (Pe.after p1.stp (Pe.after p3 (Pe.after ms (Pe.im ms.st rw'))))
            · exact h2.elim
          · exact h2.elim
        · exact h2.elim
      · exact h1.elim
    · exact h1.elim
  · exact h1.elim
theorem je_mt {Ty id : String} {name : Str} {g : D → List D → Option (D × D)} {r : V → List V → Hp → VK → Prop} (pa : PlainAttrs Ty) (slot : Slot Ty name id) (hty : typeOf (.builtin id) = pure (.type "method_descriptor")) (hm : MtR X id r) (hi : SaysC T g r) (hK : X.K = T.K) (ho : JE T X o fo) (ha : JL T X (e :: es) fl)
    (hb : noSup o = true) (hs : noStar (e :: es) = true) (hlen : decide ((e :: es).length < 30) = true) (hline : (apos.endLine == pos.line) = true) : JE T X (.Call (.Attribute o name apos) (e :: es) [] pos) (eMt Ty g fo fl) := fun W tk =>
  PE.imp (pe_bw pa slot hty hm (ho W tk) (ha W tk) hb hs hlen hline) fun σ H Q h => mt_of hK hi h
theorem je_mt0 {Ty id : String} {name : Str} {g : D → List D → Option (D × D)} {r : V → List V → Hp → VK → Prop} (pa : PlainAttrs Ty) (slot : Slot Ty name id) (hty : typeOf (.builtin id) = pure (.type "method_descriptor")) (hm : MtR X id r) (hi : SaysC T g r) (hK : X.K = T.K) (ho : JE T X o fo)
    (hb : noSup o = true) (hline : (apos.endLine == pos.line) = true) : JE T X (.Call (.Attribute o name apos) [] [] pos) (eMt Ty g fo lNil) := fun W tk =>
  ⟨fun pins s σ H Q I h => (pe_bw0 pa slot hty hm (ho W tk) hb hline).run pins s σ H Q I (by
    obtain ⟨Y, ρ, B, st, k⟩ := mt_of hK hi h
    exact ⟨Y, ρ, B, st, k.imp fun r ρ1 k1 v H1 B1 p => ⟨(k1 v H1 B1 p).1, tA_nil (k1 v H1 B1 p).2⟩⟩)⟩
def cAppend : D → List D → Option (D × D)
  | .lst ds, [d] => if ds.length < sizeLine then some (.non, .lst (ds ++ [d])) else none
  | _, _ => none
theorem says_append : SaysC T cAppend rAppend := by
  intro H B a vs d d' v ds Q sub o rl e q
  unfold cAppend at e
  split at e
  · split at e
    · rename_i hz
      cases e
      cases rl with
      | cons r1 t1 =>
        cases t1
        obtain ⟨ws, h1, r⟩ := o
        exact ⟨a, ws, _, rfl, rfl, h1, by rw [r.length]; exact hz, q .non _ .non ⟨_, upd_same, r.append (.cons r1 .nil)⟩⟩
    · cases e
  · cases e
def cPop : D → List D → Option (D × D)
  | .lst ds, [] => (ds[ds.length - 1]?).map fun d => (d, .lst ds.dropLast)
  | _, _ => none
theorem RepL.dropLast {B : Hp} {vs : List V} {ds : List D} (h : RepL T B vs ds) : RepL T B vs.dropLast ds.dropLast := by
  rw [List.dropLast_eq_take, List.dropLast_eq_take, h.length]
  exact h.take _
theorem says_pop : SaysC T cPop rPop := by
  intro H B a vs d d' v ds Q sub o rl e q
  unfold cPop at e
  split at e
  · rename_i ds'
    obtain ⟨d0, e1, e2⟩ := Option.map_eq_some_iff.mp e
    cases e2
    cases rl
    obtain ⟨ws, h1, r⟩ := o
    obtain ⟨v, ev, rv⟩ := r.get e1
    exact ⟨a, ws, v, rfl, rfl, h1, by rw [r.length]; exact ev, q v _ rv ⟨_, upd_same, r.dropLast⟩⟩
  · cases e
end
end Pu
namespace Pu
open PySem PySem.Spec PyProof.Rows L2
inductive Rt where
  | nx (ρ : Rho) | rt (r : RV) (ρ : Rho) | bk (ρ : Rho) | ct (ρ : Rho) | exc (c : Nat) (fs : List (Nat × D)) (ρ : Rho) | bad
abbrev SF := Rho → Rt
section
variable {T : Tb} {X : Cx} {W : WX} {Y : Fc} {B B1 B2 : Hp} {a b c e o : Expr} {es : List Expr} {stm : Stmt} {sts : List Stmt} {pos apos p pos' : Pos} {fa fb fc fo : EF} {fl fr : LF} {ga : TF} {f g : SF}
/-- behind a statement -/
def Af (T : Tb) (W : WX) (Y : Fc) (B : Hp) (D : Ends) : Rt → Prop
  | .nx ρ' => ∀ σ' H' B', Sta T Y σ' H' ρ' B' → Le B B' → D.nx σ' H'
  | .bk ρ' => ∀ σ' H' B', Sta T Y σ' H' ρ' B' → Le B B' → D.bk σ' H'
  | .ct ρ' => ∀ σ' H' B', Sta T Y σ' H' ρ' B' → Le B B' → D.ct σ' H'
  | .rt r ρ' => ∀ v σ' H' B', Sta T Y σ' H' ρ' B' → Le B B' → VR T Y σ' H' ρ' B' v r → D.rt v H'
  | .exc c fs ρ' => ∀ dx gs σ' H' B', Sta T Y σ' H' ρ' B' → Le B B' → H' dx = some (.xd gs) → Y.H0 dx = none → RepF T B' gs fs → W (.ref (T.ca c)) (some dx) σ' H'
  | .bad => False
theorem Af.le {D : Ends} {r : Rt} (l : Le B B1) (h : Af T W Y B D r) : Af T W Y B1 D r := by
  cases r with
  | nx => exact fun σ' H' B' s l' => h σ' H' B' s (l.trans l')
  | bk => exact fun σ' H' B' s l' => h σ' H' B' s (l.trans l')
  | ct => exact fun σ' H' B' s l' => h σ' H' B' s (l.trans l')
  | rt => exact fun v σ' H' B' s l' => h v σ' H' B' s (l.trans l')
  | exc => exact fun dx gs σ' H' B' s l' => h dx gs σ' H' B' s (l.trans l')
  | bad => exact h
def tS (T : Tb) (W : WX) (f : SF) : TS := fun D σ H => ∃ Y ρ B, Sta T Y σ H ρ B ∧ Af T W Y B D (f ρ)
def JS (T : Tb) (X : Cx) (st : Stmt) (f : SF) : Prop := ∀ W, Takes X W → PS X st (tS T W f)
def JSs (T : Tb) (X : Cx) (st : List Stmt) (f : SF) : Prop := ∀ W, Takes X W → PSs X st (tS T W f)
def sSkip : SF := fun ρ => .nx ρ
def sBrk : SF := fun ρ => .bk ρ
def sCnt : SF := fun ρ => .ct ρ
def sBad : SF := fun _ => .bad
def Rt.seq (r : Rt) (g : SF) : Rt := match r with
  | .nx ρ1 => g ρ1
  | r => r
def sSeq (f g : SF) : SF := fun ρ => (f ρ).seq g
theorem js_bad : JS T X stm sBad := fun W tk => ⟨fun pins s σ H D I ⟨_, _, _, _, h⟩ => h.elim⟩
theorem jss_nil : JSs T X [] sSkip := fun W tk => PSs.imp pss_nil fun D σ H ⟨Y, ρ, B, s, h⟩ => h σ H B s (Le.refl B)
theorem af_seq {D : Ends} {ρ : Rho} (h : Af T W Y B D ((f ρ).seq g)) : Af T W Y B { D with nx := tS T W g D } (f ρ) := by
  cases e : f ρ with
  | nx ρ1 =>
    rw [e] at h
    exact fun σ' H' B' s l => ⟨Y, ρ1, B', s, Af.le l h⟩
  | bk => rw [e] at h; exact h
  | ct => rw [e] at h; exact h
  | rt => rw [e] at h; exact h
  | exc => rw [e] at h; exact h
  | bad => rw [e] at h; exact h
theorem jss_cons (h1 : JS T X stm f) (h2 : JSs T X sts g) : JSs T X (stm :: sts) (sSeq f g) := fun W tk => PSs.imp (pss_cons (h1 W tk) (h2 W tk)) fun D σ H ⟨Y, ρ, B, s, h⟩ => ⟨Y, ρ, B, s, af_seq h⟩
theorem js_pass : JS T X (.Pass pos) sSkip := fun W tk => PS.imp ps_pass fun D σ H ⟨Y, ρ, B, s, h⟩ => h σ H B s (Le.refl B)
theorem js_break : JS T X (.Break pos) sBrk := fun W tk => PS.imp ps_break fun D σ H ⟨Y, ρ, B, s, h⟩ => h σ H B s (Le.refl B)
theorem js_continue : JS T X (.Continue pos) sCnt := fun W tk => PS.imp ps_continue fun D σ H ⟨Y, ρ, B, s, h⟩ => h σ H B s (Le.refl B)
theorem js_doc {x : Str} {j : Nat} : JS T X (.Expr (.Constant (.str x) j pos) pos') sSkip := fun W tk => PS.imp ps_doc fun D σ H ⟨Y, ρ, B, s, h⟩ => h σ H B s (Le.refl B)
/-- an expression's exception is the statement's -/
theorem px_af {σ : Sg} {H : Hp} {ρ ρ' : Rho} {c : Nat} {fs : List (Nat × D)} {D : Ends} (s : Sta T Y σ H ρ B) (h : Af T W Y B D (.exc c fs ρ')) : Px T W Y σ H ρ B c fs ρ' := fun dx gs H' B' p e n r => h dx gs σ H' B' p.st p.le e (s.h0 n).1 r
def Rs.st {α : Type} (x : Rs α) (k : α → Rho → Rt) : Rt := match x with
  | .ok a ρ => k a ρ
  | .exc c fs ρ => .exc c fs ρ
  | .bad => .bad
theorem aft_of {α : Type} {σ : Sg} {H : Hp} {ρ : Rho} {D : Ends} {x : Rs α} {k : α → Rho → Rt} (s : Sta T Y σ H ρ B) (h : Af T W Y B D (x.st k)) : Aft T W Y σ H ρ B x fun a ρ' => Af T W Y B D (k a ρ') := by
  cases x with
  | ok a ρ' => exact h
  | exc c fs ρ' => exact px_af s h
  | bad => exact h
def sExp (f : EF) : SF := fun ρ => (f ρ).st fun _ ρ1 => .nx ρ1
theorem js_exp (he : JE T X e fa) (hs : swapsWith e none pos.line X.env = pure false) : JS T X (.Expr e pos) (sExp fa) := fun W tk => PS.imp (ps_expr (he W tk) hs) fun D σ H ⟨Y, ρ, B, s, h⟩ => ⟨Y, ρ, B, s, (aft_of s h).imp fun r ρ1 h1 v H1 B1 p => h1 σ H1 B1 p.stp.st p.stp.le⟩
def sRet (f : EF) : SF := fun ρ => (f ρ).st fun r ρ1 => .rt r ρ1
theorem js_ret (he : JE T X e fa) : JS T X (.Return (some e) pos) (sRet fa) := fun W tk => PS.imp (ps_ret (he W tk)) fun D σ H ⟨Y, ρ, B, s, h⟩ => ⟨Y, ρ, B, s, (aft_of s h).imp fun r ρ1 h1 v H1 B1 p => h1 v σ H1 B1 p.stp.st p.stp.le p.val⟩
def sRetN : SF := fun ρ => .rt (.im .non) ρ
theorem js_retN : JS T X (.Return none pos) sRetN := fun W tk => PS.imp ps_retN fun D σ H ⟨Y, ρ, B, s, h⟩ => h .non σ H B s (Le.refl B) .non
def sIf (c : TF) (f g : SF) : SF := fun ρ => (c ρ).st fun k ρ1 => if k = true then f ρ1 else g ρ1
theorem js_if {as bs : List Stmt} (hc : JT T X c ga) (ha : JSs T X as f) (hb : JSs T X bs g) : JS T X (.If c as bs pos) (sIf ga f g) := fun W tk => PS.imp (ps_if (hc W tk) (ha W tk) (hb W tk)) fun D σ H ⟨Y, ρ, B, s, h⟩ => ⟨Y, ρ, B, s, (aft_of s h).imp fun k ρ1 h1 H1 B1 p => by
  cases k with
  | true => exact ⟨Y, ρ1, B1, p.st, Af.le p.le h1⟩
  | false => exact ⟨Y, ρ1, B1, p.st, Af.le p.le h1⟩⟩

abbrev GF := RV → Rho → Option Rho
/-- a pending value: not a slot's -/
def fixR : RV → Bool
  | .bo _ => false
  | _ => true
/-- behind a store: what else was pending is kept -/
structure Pst (T : Tb) (Y : Fc) (σ : Sg) (H : Hp) (ρ : Rho) (B : Hp) (v : V) (r : RV) (σ' : Sg) (H' : Hp) (ρ' : Rho) (B' : Hp) : Prop where
  st : Sta T Y σ' H' ρ' B'
  le : Le B B'
  kp : ∀ a o, H a = some o → ¬ SA σ ρ a → (∀ d, r = .ow d → v ≠ .ref a) → B a = none → H' a = some o ∧ ¬ SA σ' ρ' a ∧ B' a = none
def tG (T : Tb) (g : GF) : TG := fun v σ H Q => ∃ Y ρ B r ρ', Sta T Y σ H ρ B ∧ VR T Y σ H ρ B v r ∧ fixR r = true ∧ g r ρ = some ρ' ∧ ∀ σ' H' B', Pst T Y σ H ρ B v r σ' H' ρ' B' → Q σ' H'
def JG (T : Tb) (X : Cx) (tg : Expr) (g : GF) : Prop := ∀ W, Takes X W → PG X tg (tG T g)
theorem PG.imp {X : Cx} {e : Expr} {t t' : TG} (h : PG X e t) (i : ∀ v σ H Q, t' v σ H Q → t v σ H Q) : PG X e t' := ⟨fun pins s σ H v u Q I r q => h.run pins s σ H v u Q I r (i v σ H Q q)⟩
/-- into a slot -/
def slOf : RV → Option Sl
  | .im d => some (.im d)
  | .ow d => some (.ow d)
  | .bo _ => none
def gNam (i : Nat) : GF := fun r ρ => match ρ[i]?, slOf r with
  | some (.mu _), _ => none
  | some _, some s => some (ρ.set i s)
  | _, _ => none
theorem set_sta {σ : Sg} {H : Hp} {ρ : Rho} {i : Nat} {v : V} {r : RV} {s s0 : Sl} (st : Sta T Y σ H ρ B) (hi : ρ[i]? = some s0) (hn : ∀ d, s0 ≠ .mu d) (vr : VR T Y σ H ρ B v r) (es : slOf r = some s) : Pst T Y σ H ρ B v r (σ.set i (some v)) H (ρ.set i s) B := by
  have hl : i < ρ.length := (List.getElem?_eq_some_iff.mp hi).1
  have hl' : i < σ.length := by rw [st.len]; exact hl
  have get : ∀ {j : Nat} {t : Sl}, (ρ.set i s)[j]? = some t → (i = j ∧ t = s) ∨ (i ≠ j ∧ ρ[j]? = some t) := fun {j t} e => by
    by_cases z : i = j
    · subst z; rw [List.getElem?_set_self hl] at e; cases e; exact .inl ⟨rfl, rfl⟩
    · rw [List.getElem?_set_ne z] at e; exact .inr ⟨z, e⟩
  have own : s.hot = true → ∃ a d, v = .ref a ∧ s = .ow d ∧ B a = none ∧ OwnAt T H B a d ∧ ¬ SA σ ρ a ∧ Y.H0 a = none ∧ a ∉ Y.ms := fun h => by
    cases r with
    | im d => cases es; cases h
    | ow d => cases es; obtain ⟨a, e, b, o, n, h0, m⟩ := vr; exact ⟨a, d, e, rfl, b, o, n, h0, m⟩
    | bo j => cases es
  have sa : ∀ a, SA (σ.set i (some v)) (ρ.set i s) a → SA σ ρ a ∨ ((∃ d, r = .ow d) ∧ v = .ref a) := fun a ⟨j, t, e, h, ev⟩ => by
    rcases get e with ⟨rfl, rfl⟩ | ⟨z, e'⟩
    · rw [List.getElem?_set_self hl'] at ev
      cases ev
      refine .inr ⟨?_, rfl⟩
      cases r with
      | im => cases es; cases h
      | ow d => exact ⟨d, rfl⟩
      | bo => cases es
    · rw [List.getElem?_set_ne z] at ev
      exact .inl ⟨j, t, e', h, ev⟩
  refine ⟨⟨by rw [List.length_set, List.length_set]; exact st.len, st.sub, st.keep, st.b0, st.bnew, fun j t e => ?_, fun j k t u a e1 e2 h1 h2 v1 v2 => ?_, fun p hp => ?_⟩, Le.refl B, fun a o e n ne b => ⟨e, fun z => (sa a z).elim n fun ⟨⟨d, er⟩, ev⟩ => ne d er ev, b⟩⟩
  · rcases get e with ⟨rfl, rfl⟩ | ⟨z, e'⟩
    · have ev : (σ.set i (some v))[i]? = some (some v) := List.getElem?_set_self hl'
      cases r with
      | im d => cases es; exact ⟨v, ev, vr⟩
      | ow d =>
        cases es
        obtain ⟨a, e, b, o, n, h0, m⟩ := vr
        exact ⟨a, by rw [ev, e], b, o, h0, m⟩
      | bo j => cases es
    · have so := st.slot j t e'
      cases t with
      | no => trivial
      | im d => obtain ⟨w, ew, rw'⟩ := so; exact ⟨w, by rw [List.getElem?_set_ne z]; exact ew, rw'⟩
      | ow d => obtain ⟨w, ew, x⟩ := so; exact ⟨w, by rw [List.getElem?_set_ne z]; exact ew, x⟩
      | mu d => obtain ⟨w, ew, x⟩ := so; exact ⟨w, by rw [List.getElem?_set_ne z]; exact ew, x⟩
  · rcases get e1 with ⟨rfl, rfl⟩ | ⟨z, e1'⟩
    · rcases get e2 with ⟨rfl, rfl⟩ | ⟨z2, e2'⟩
      · rfl
      · obtain ⟨a', d, ev', _, _, _, n, _⟩ := own h1
        rw [List.getElem?_set_self hl'] at v1
        rw [List.getElem?_set_ne z2] at v2
        rw [ev'] at v1; cases v1
        exact absurd ⟨k, u, e2', h2, v2⟩ n
    · rcases get e2 with ⟨rfl, rfl⟩ | ⟨z2, e2'⟩
      · obtain ⟨a', d, ev', _, _, _, n, _⟩ := own h2
        rw [List.getElem?_set_self hl'] at v2
        rw [List.getElem?_set_ne z] at v1
        rw [ev'] at v2; cases v2
        exact absurd ⟨j, t, e1', h1, v1⟩ n
      · rw [List.getElem?_set_ne z] at v1
        rw [List.getElem?_set_ne z2] at v2
        exact st.dist j k t u a e1' e2' h1 h2 v1 v2
  · obtain ⟨⟨d, e⟩, ev⟩ := st.mus p hp
    have z : i ≠ p.1 := fun z => by rw [← z, hi] at e; cases e; exact hn d rfl
    exact ⟨⟨d, by rw [List.getElem?_set_ne z]; exact e⟩, by rw [List.getElem?_set_ne z]; exact ev⟩
theorem gNam_ok {i : Nat} {r : RV} {ρ ρ' : Rho} (e : gNam i r ρ = some ρ') : ∃ s0 s, ρ[i]? = some s0 ∧ (∀ d, s0 ≠ .mu d) ∧ slOf r = some s ∧ ρ' = ρ.set i s := by
  unfold gNam at e
  split at e
  · cases e
  · rename_i s0 s h1 h2 h3
    cases e
    exact ⟨s0, s, h2, fun d z => h1 d z, h3, rfl⟩
  · cases e
theorem jg_name {i : Nat} {x : Str} (hN : X.N.Nodup) (hi : X.N[i]? = some x) (hx : Loc X.env.scope x) (hf : X.fn x = true ∨ X.env.scope.names.lookup x = some .local) : JG T X (.Name x pos) (gNam i) := fun W tk =>
  PG.imp (pg_name hN hi hx hf) fun v σ H Q ⟨Y, ρ, B, r, ρ', st, vr, fr, eg, k⟩ => by
    obtain ⟨s0, s, h1, h2, h3, rfl⟩ := gNam_ok eg
    exact k _ _ _ (set_sta st h1 h2 vr h3)

def dR : RV → Option D
  | .im d => some d
  | .ow d => some d
  | .bo _ => none
def cSet : D → D → D → Option D
  | .dic kvs, k, d => match keyD k with
    | some k => if kvs.length < sizeLine then some (.dic (putD kvs k d)) else none
    | none => none
  | .lst ds, .int j, d => (ixN ds.length j).map fun n => .lst (ds.set n d)
  | _, _, _ => none
def gSubs (fo fi : EF) : GF := fun r ρ => match fo ρ with
  | .ok (.bo i) ρ1 => (match fi ρ1 with
    | .ok rk ρ2 => (match rdv ρ2 rk, dR r, hotD ρ2 i with
      | some k, some d, some c => (match cSet c k d with
        | some c' => some (setS ρ2 i c')
        | none => none)
      | _, _, _ => none)
    | _ => none)
  | _ => none
theorem RepL.set {ds : List D} {vs : List V} {d : D} {v : V} (h : RepL T B vs ds) (r : Rep T B v d) : ∀ n : Nat, RepL T B (vs.set n v) (ds.set n d) := by
  induction vs generalizing ds with
  | nil => cases h; intro n; exact .nil
  | cons w ws ih =>
    cases h with
    | cons r1 t =>
      intro n
      cases n with
      | zero => exact .cons r t
      | succ n => exact .cons r1 (ih t n)
/-- a pending value settled -/
theorem pend_stl {σ : Sg} {H : Hp} {ρ : Rho} {v : V} {r : RV} {d : D} (st : Sta T Y σ H ρ B) (vr : VR T Y σ H ρ B v r) (e : dR r = some d) : ∃ B', Sta T Y σ H ρ B' ∧ Le B B' ∧ Rep T B' v d ∧ ∀ b, (∀ d, r = .ow d → v ≠ .ref b) → B b = none → B' b = none := by
  cases r with
  | im d' => cases e; exact ⟨B, st, Le.refl B, vr, fun _ _ q => q⟩
  | ow d' =>
    cases e
    obtain ⟨a, ea, bn, o, ns, h0, nm⟩ := vr
    obtain ⟨ob, ho⟩ := o.some
    obtain ⟨s', l⟩ := st.grow bn ho h0 ns
    subst ea
    exact ⟨upd B a ob, s', l, o.rep bn ho, fun b n q => by rw [upd_ne fun z => n d rfl (by rw [z])]; exact q⟩
  | bo i => cases e
theorem jg_sub {i : Expr} {fi : EF} (hsl : isSl i = false) (hu : X.A.units + 1 < cLine) (ho : JE T X o fo) (hi : JE T X i fi) : JG T X (.Subscript o i pos) (gSubs fo fi) := fun W tk => by
  have noW : Takes X W := tk
  refine ⟨fun pins s σ H v u Q I r h => ?_⟩
  obtain ⟨Y, ρ, B, rv, ρ', st, vr, fr, eg, k⟩ := h
  unfold gSubs at eg
  split at eg
  · rename_i n ρ1 eo
    split at eg
    · rename_i rk ρ2 ei
      split at eg
      · rename_i kd d c ek ed ec
        split at eg
        · rename_i c' es
          cases eg
          have body : ∀ (rs : TSet), PSet X rs → (∀ (H2 B2 : Hp) (a : Addr) (y : V) (Q' : Hp → Prop), (∀ a o, B2 a = some o → H2 a = some o) → OwnAt T H2 B2 a c → Tp T H2 B2 y kd → Rep T B2 v d → (∀ o, OwnAt T (upd H2 a o) B2 a c' → Q' (upd H2 a o)) → rs (.ref a) y v H2 Q') →
              wpAny (model X.prog X.w) X.A (assign (.Subscript o i pos) X.env u) (fun _ s' => ∃ σ' H', Inv X pins σ' H' s' ∧ Q σ' H') X.xe s := fun rs hs hr => by
            refine (pg_sub (ho W tk) (hi W tk) hs (by intro v; cases i <;> first | rfl | cases hsl)).run pins s σ H v u Q I r ?_
            refine ⟨Y, ρ, B, st, ?_⟩
            rw [eo]
            intro x H1 B1 p1
            refine ⟨Y, ρ1, B1, p1.stp.st, ?_⟩
            rw [ei]
            intro y H2 B2 p2
            have vr2 := (vr.stp p1.stp).stp p2.stp
            obtain ⟨B3, st3, l3, rp, kb⟩ := pend_stl p2.stp.st vr2 ed
            obtain ⟨sl, a, h1, h2, h3, h4, h5⟩ := hotD_at st3 ec
            have ex : x = .ref a := by
              have := p1.val.1
              rw [h3] at this; cases this; rfl
            subst ex
            refine hr H2 B3 a y _ st3.sub h5 ((p2.val.top p2.stp.st ek).mono l3) rp fun ob hob => ?_
            have ms := mut_step st3 h1 h2 h3 hob
            have pp := p1.stp.trans p2.stp
            refine k σ _ B3 ⟨ms.st, (pp.le.trans l3).trans ms.le, fun b ob' e ns ne bb => ?_⟩
            have e2 := pp.kp b ob' e ns bb
            have ns2 : ¬ SA σ ρ2 b := fun z => ns (pp.sa b z)
            have nab : b ≠ a := fun z => ns2 (by rw [z]; exact ⟨n, sl, h1, h2, h3⟩)
            refine ⟨by rw [upd_ne nab]; exact e2, fun z => ns2 (ms.sa b z), ?_⟩
            refine kb b ne ?_
            cases z : B2 b with
            | none => rfl
            | some u =>
              rcases pp.bn b (by rw [z]; exact fun z => nomatch z) with y | y | y
              · exact absurd bb y
              · rw [e] at y; cases y
              · exact absurd y ns
          unfold cSet at es
          split at es
          · rename_i kvs _ _
            split at es
            · rename_i kk ek2
              split at es
              · rename_i hz
                cases es
                refine body rSetD (set_dict hu) fun H2 B2 a y Q' sub o ty rp q => ?_
                obtain ⟨kv, h1, r⟩ := o
                refine ⟨a, _, rfl, .inl ⟨kv, kk, h1, ty.key ek2, by rw [r.length]; exact hz, rfl⟩, q _ ⟨_, upd_same, r.put rp⟩⟩
              · cases es
            · cases es
          · rename_i ds j
            obtain ⟨m, em, rfl⟩ := Option.map_eq_some_iff.mp es
            refine body rSetL set_list fun H2 B2 a y Q' sub o ty rp q => ?_
            obtain ⟨vs, h1, r⟩ := o
            exact ⟨a, vs, j, m, rfl, ty.int, h1, by rw [r.length]; exact em, q _ ⟨_, upd_same, r.set rp m⟩⟩
          · cases es
        · cases eg
      · cases eg
    · cases eg
  · cases eg
def fix1 (r : RV) (ρ : Rho) : Option (RV × Rho) := match r with
  | .bo _ => (stl ρ r).map fun p => (.im p.1, p.2)
  | r => some (r, ρ)
theorem fix1_ok {σ : Sg} {H H1 : Hp} {ρ ρ1 ρ2 : Rho} {v : V} {r r' : RV} (p : Pe T Y σ H ρ B v r H1 ρ1 B1) (e : fix1 r ρ1 = some (r', ρ2)) : ∃ B2, Stp T Y σ H ρ B H1 ρ2 B2 ∧ VR T Y σ H1 ρ2 B2 v r' ∧ fixR r' = true := by
  cases r with
  | im d => cases e; exact ⟨B1, p.stp, p.val, rfl⟩
  | ow d => cases e; exact ⟨B1, p.stp, p.val, rfl⟩
  | bo i =>
    obtain ⟨⟨d, ρ3⟩, e1, e2⟩ := Option.map_eq_some_iff.mp (show (stl ρ1 (.bo i)).map (fun p => (RV.im p.1, p.2)) = some (r', ρ2) from e)
    cases e2
    obtain ⟨B2, q, rp⟩ := Pe.stl p e1
    exact ⟨B2, q, rp, rfl⟩
def sAsg (g : GF) (f : EF) : SF := fun ρ => (f ρ).st fun r ρ1 => match fix1 r ρ1 with
  | some (r', ρ2) => (match g r' ρ2 with
    | some ρ3 => .nx ρ3
    | none => .bad)
  | none => .bad
theorem asg_of {g : GF} {D : Ends} {σ : Sg} {H : Hp} (h : tS T W (sAsg g fa) D σ H) : tAsg (tE T W fa) (tG T g) D σ H := by
  obtain ⟨Y, ρ, B, s, h⟩ := h
  refine ⟨Y, ρ, B, s, (aft_of s h).imp fun r ρ1 h1 v H1 B1 p => ?_⟩
  split at h1
  · rename_i r' ρ2 ef
    split at h1
    · rename_i ρ3 eg
      obtain ⟨B2, p2, vr, fr⟩ := fix1_ok p ef
      exact ⟨Y, ρ2, B2, r', ρ3, p2.st, vr, fr, eg, fun σ' H' B' q => h1 σ' H' B' q.st (p2.le.trans q.le)⟩
    · exact h1.elim
  · exact h1.elim
theorem js_asg {tg : Expr} {g : GF} (he : JE T X e fa) (hg : JG T X tg g) (hs : swapsWithSole [tg] e pos.line X.env = pure false) (hw : swappedStores [tg] e X.env = pure none) (h1 : (assignEach [tg] X.env).map (·.2) = [assign tg X.env]) : JS T X (.Assign [tg] e pos) (sAsg g fa) := fun W tk =>
  PS.imp (ps_asg (he W tk) (hg W tk) hs hw h1) fun D σ H h => asg_of h
end
end Pu
namespace Pu
open PySem PySem.Spec PyProof.Rows L2
section
variable {T : Tb} {X : Cx} {W : WX} {Y : Fc} {B B1 B2 : Hp} {a b c e o : Expr} {es tgs : List Expr} {stm : Stmt} {sts : List Stmt} {pos apos p pos' : Pos} {fa fb fc fo : EF} {fl fr : LF} {ga : TF} {f g : SF}
/-- pending values -/
structure Pnd (T : Tb) (Y : Fc) (σ : Sg) (H : Hp) (ρ : Rho) (B : Hp) (vs : List V) (rs : List RV) : Prop where
  len : vs.length = rs.length
  val : ∀ (k : Nat) (v : V) (r : RV), vs[k]? = some v → rs[k]? = some r → VR T Y σ H ρ B v r ∧ fixR r = true
  dis : ∀ (j k : Nat) (d e : D) (a : Addr), rs[j]? = some (.ow d) → rs[k]? = some (.ow e) → vs[j]? = some (.ref a) → vs[k]? = some (.ref a) → j = k
theorem Pnd.tail {σ : Sg} {H : Hp} {ρ : Rho} {v : V} {r : RV} {vs : List V} {rs : List RV} (h : Pnd T Y σ H ρ B (v :: vs) (r :: rs)) : Pnd T Y σ H ρ B vs rs :=
  ⟨Nat.succ.inj h.len, fun k v' r' a b => h.val (k + 1) v' r' (by simpa using a) (by simpa using b), fun j k d e a h1 h2 h3 h4 => Nat.succ.inj (h.dis (j + 1) (k + 1) d e a (by simpa using h1) (by simpa using h2) (by simpa using h3) (by simpa using h4))⟩
theorem Pnd.stp {σ : Sg} {H H' : Hp} {ρ ρ' : Rho} {B' : Hp} {vs : List V} {rs : List RV} (h : Pnd T Y σ H ρ B vs rs) (p : Stp T Y σ H ρ B H' ρ' B') : Pnd T Y σ H' ρ' B' vs rs :=
  ⟨h.len, fun k v r a b => ⟨(h.val k v r a b).1.stp p, (h.val k v r a b).2⟩, h.dis⟩
theorem Pnd.rest {σ σ' : Sg} {H H' : Hp} {ρ ρ' : Rho} {B' : Hp} {v : V} {r : RV} {vs : List V} {rs : List RV} (h : Pnd T Y σ H ρ B (v :: vs) (r :: rs)) (p : Pst T Y σ H ρ B v r σ' H' ρ' B') : Pnd T Y σ' H' ρ' B' vs rs := by
  refine ⟨Nat.succ.inj h.len, fun k v' r' e1 e2 => ?_, h.tail.dis⟩
  obtain ⟨o, fx⟩ := h.tail.val k v' r' e1 e2
  refine ⟨?_, fx⟩
  cases r' with
  | im d => exact Rep.le p.le o
  | ow d =>
    obtain ⟨a, ea, bn, o, ns, h0, nm⟩ := o
    obtain ⟨ob, ho⟩ := o.some
    obtain ⟨k1, k2, k3⟩ := p.kp a ob ho ns (fun d' er ev => by
      have := h.dis 0 (k + 1) d' d a (by rw [er]; rfl) (by simpa using e2) (by rw [ev]; rfl) (by rw [List.getElem?_cons_succ, e1, ea])
      exact absurd this (by simp)) bn
    exact ⟨a, ea, k3, o.le p.le fun u q => by rw [ho] at q; cases q; exact k1, k2, h0, nm⟩
  | bo i => cases fx
def stores : List GF → List RV → Rho → Option Rho
  | [], [], ρ => some ρ
  | g :: gs, r :: rs, ρ => match g r ρ with
    | some ρ1 => stores gs rs ρ1
    | none => none
  | _, _, _ => none
def tGs (T : Tb) (gs : List GF) : TGs := fun vs σ H Q => ∃ Y ρ B rs ρ', Sta T Y σ H ρ B ∧ Pnd T Y σ H ρ B vs rs ∧ stores gs rs ρ = some ρ' ∧ ∀ σ' H' B', Sta T Y σ' H' ρ' B' → Le B B' → Q σ' H'
def JGs (T : Tb) (X : Cx) (tgs : List Expr) (gs : List GF) : Prop := ∀ W, Takes X W → PGs X tgs (tGs T gs)
theorem PGs.imp {X : Cx} {e : List Expr} {t t' : TGs} (h : PGs X e t) (i : ∀ v σ H Q, t' v σ H Q → t v σ H Q) : PGs X e t' := ⟨fun pins s σ H v u Q I r q => h.run pins s σ H v u Q I r (i v σ H Q q)⟩
theorem jgs_nil : JGs T X [] [] := fun W tk => PGs.imp pgs_nil fun vs σ H Q ⟨Y, ρ, B, rs, ρ', st, pn, es, k⟩ => by
  cases rs with
  | nil => cases es; exact ⟨List.length_eq_zero_iff.mp pn.len, k σ H B st (Le.refl B)⟩
  | cons => cases es
theorem aeach_cons {env : PySem.Env} (h : isStar e = false) : (assignEach (e :: es) env).map (·.2) = assign e env :: (assignEach es env).map (·.2) := by
  cases e <;> first | rfl | cases h
theorem jgs_cons {g : GF} {gs : List GF} (h1 : JG T X e g) (h2 : JGs T X tgs gs) (hs : isStar e = false) : JGs T X (e :: tgs) (g :: gs) := fun W tk => PGs.imp (pgs_cons (h1 W tk) (h2 W tk) (aeach_cons hs)) fun vs σ H Q ⟨Y, ρ, B, rs, ρ', st, pn, es, k⟩ => by
  cases rs with
  | nil => cases es
  | cons r rs =>
    cases vs with
    | nil => cases pn.len
    | cons v vs =>
      unfold stores at es
      split at es
      · rename_i ρ1 eg
        obtain ⟨vr, fx⟩ := pn.val 0 v r rfl rfl
        exact ⟨v, vs, rfl, Y, ρ, B, r, ρ1, st, vr, fx, eg, fun σ1 H1 B1 ps => ⟨Y, ρ1, B1, rs, ρ', ps.st, pn.rest ps, es, fun σ' H' B' s l => k σ' H' B' s (ps.le.trans l)⟩⟩
      · cases es
theorem aeach_len {env : PySem.Env} : ∀ {es : List Expr}, noStar es = true → (assignEach es env).length = es.length ∧ (assignEach es env).findIdx? (·.1) = none
  | [], _ => ⟨rfl, rfl⟩
  | e :: es, h => by
    unfold noStar at h
    rw [List.all_cons, Bool.and_eq_true] at h
    obtain ⟨h1, h2⟩ := aeach_len (es := es) (env := env) h.2
    have : assignEach (e :: es) env = (false, assign e env) :: assignEach es env := by
      have h' : isStar e = false := by simpa using h.1
      cases e <;> first | rfl | cases h'
    rw [this]
    exact ⟨by rw [List.length_cons, List.length_cons, h1], by rw [List.findIdx?_cons]; simp [h2]⟩
/-- the items of a tuple, of a list that stands as a value -/
def gTupD (gs : List GF) : GF := fun r ρ => match r with
  | .im (.tup ds) => if ds.length = gs.length then stores gs (ds.map RV.im) ρ else none
  | .im (.lst ds) => if ds.length = gs.length then stores gs (ds.map RV.im) ρ else none
  | .ow (.lst ds) => if ds.length = gs.length then stores gs (ds.map RV.im) ρ else none
  | _ => none
theorem stores_len : ∀ {gs : List GF} {rs : List RV} {ρ ρ' : Rho}, stores gs rs ρ = some ρ' → gs.length = rs.length
  | [], [], _, _, _ => rfl
  | g :: gs, r :: rs, ρ, ρ', e => by
    unfold stores at e
    split at e
    · exact congrArg Nat.succ (stores_len e)
    · cases e
  | [], _ :: _, _, _, e => by cases e
  | _ :: _, [], _, _, e => by cases e
theorem pnd_ims {σ : Sg} {H : Hp} {ρ : Rho} {vs : List V} {ds : List D} (r : RepL T B vs ds) : Pnd T Y σ H ρ B vs (ds.map RV.im) := by
  refine ⟨by rw [List.length_map]; exact r.length, fun k v r' e1 e2 => ?_, fun j k d e a h1 => ?_⟩
  · obtain ⟨d, ed, rv⟩ := r.get' e1
    rw [List.getElem?_map, ed] at e2
    cases e2
    exact ⟨rv, rfl⟩
  · rw [List.getElem?_map] at h1
    cases q : ds[j]? with
    | none => rw [q] at h1; cases h1
    | some d => rw [q] at h1; cases h1
/-- behind the stores of a value's items, what was pending beside it: nothing is known, so a store of items stands last or alone -/
def tGL (T : Tb) (g : GF) : TG := fun v σ H Q => ∃ Y ρ B r ρ', Sta T Y σ H ρ B ∧ VR T Y σ H ρ B v r ∧ fixR r = true ∧ g r ρ = some ρ' ∧ ∀ σ' H' B', Sta T Y σ' H' ρ' B' → Le B B' → Q σ' H'
def JGL (T : Tb) (X : Cx) (tg : Expr) (g : GF) : Prop := ∀ W, Takes X W → PG X tg (tGL T g)
theorem jgl_of {tg : Expr} {g : GF} (h : JG T X tg g) : JGL T X tg g := fun W tk => PG.imp (h W tk) fun v σ H Q ⟨Y, ρ, B, r, ρ', st, vr, fx, eg, k⟩ => ⟨Y, ρ, B, r, ρ', st, vr, fx, eg, fun σ' H' B' q => k σ' H' B' q.st q.le⟩
theorem jgl_tup {gs : List GF} {k : Nat} (hK : X.K = T.K) (hc : X.calm = true) (h : JGs T X es gs) (hl : es.length = gs.length) (hs : noStar es = true) : JGL T X (.Tuple es k pos) (gTupD gs) := fun W tk => ⟨fun pins s σ H v u Q I ru ⟨Y, ρ, B, r, ρ', st, vr, fx, eg, kk⟩ => by
  obtain ⟨l1, l2⟩ := aeach_len (env := X.env) hs
  have run : ∀ (t : TG), PG X (.Tuple es k pos) t → t v σ H Q → _ := fun t pt ht => pt.run pins s σ H v u Q I ru ht
  unfold gTupD at eg
  split at eg
  · split at eg
    · rename_i ds hz
      have vr' : Rep T B v (.tup ds) := vr
      obtain ⟨a, vs, e1, hq, rl⟩ := (show Tp T H B v (.tup ds) from .inl vr').tup st.sub
      exact run _ (pg_tup hc (h W tk) rfl l2) ⟨a, vs, e1, by rw [hK]; exact hq, by rw [rl.length, l1, hl]; exact hz, Y, ρ, B, _, ρ', st, pnd_ims rl, eg, kk⟩
    · cases eg
  · split at eg
    · rename_i ds hz
      have vr' : Rep T B v (.lst ds) := vr
      obtain ⟨a, vs, e1, hq, rl⟩ := (show Tp T H B v (.lst ds) from .inl vr').asL st.sub rfl
      exact run _ (pg_lst hc (h W tk) rfl l2) ⟨a, vs, e1, by rw [hK]; exact hq, by rw [rl.length, l1, hl]; exact hz, Y, ρ, B, _, ρ', st, pnd_ims rl, eg, kk⟩
    · cases eg
  · split at eg
    · rename_i ds hz
      obtain ⟨a, e1, _, o, _⟩ := vr
      obtain ⟨vs, hq, rl⟩ := o
      exact run _ (pg_lst hc (h W tk) rfl l2) ⟨a, vs, e1, .of hq, by rw [rl.length, l1, hl]; exact hz, Y, ρ, B, _, ρ', st, pnd_ims rl, eg, kk⟩
    · cases eg
  · cases eg⟩
theorem js_asgL {tg : Expr} {g : GF} (he : JE T X e fa) (hg : JGL T X tg g) (hs : swapsWithSole [tg] e pos.line X.env = pure false) (hw : swappedStores [tg] e X.env = pure none) (h1 : (assignEach [tg] X.env).map (·.2) = [assign tg X.env]) : JS T X (.Assign [tg] e pos) (sAsg g fa) := fun W tk =>
  PS.imp (ps_asg (he W tk) (hg W tk) hs hw h1) fun D σ H ⟨Y, ρ, B, s, h⟩ => ⟨Y, ρ, B, s, (aft_of s h).imp fun r ρ1 h1 v H1 B1 p => by
    split at h1
    · rename_i r' ρ2 ef
      split at h1
      · rename_i ρ3 eg
        obtain ⟨B2, p2, vr, fr⟩ := fix1_ok p ef
        exact ⟨Y, ρ2, B2, r', ρ3, p2.st, vr, fr, eg, fun σ' H' B' st l => h1 σ' H' B' st (p2.le.trans l)⟩
      · exact h1.elim
    · exact h1.elim⟩
def fixL : List RV → Rho → Option (List RV × Rho)
  | [], ρ => some ([], ρ)
  | r :: rs, ρ => match fix1 r ρ with
    | some (r', ρ1) => (match fixL rs ρ1 with
      | some (rs', ρ2) => some (r' :: rs', ρ2)
      | none => none)
    | none => none
theorem fix1_stp {σ : Sg} {H : Hp} {ρ ρ2 : Rho} {v : V} {r r' : RV} (st : Sta T Y σ H ρ B) (vr : VR T Y σ H ρ B v r) (e : fix1 r ρ = some (r', ρ2)) : ∃ B2, Stp T Y σ H ρ B H ρ2 B2 ∧ VR T Y σ H ρ2 B2 v r' ∧ fixR r' = true ∧ ∀ d, r' = .ow d → r = .ow d := by
  cases r with
  | im d => cases e; exact ⟨B, Stp.refl st, vr, rfl, fun d h => h⟩
  | ow d => cases e; exact ⟨B, Stp.refl st, vr, rfl, fun d h => h⟩
  | bo i =>
    obtain ⟨⟨d, ρ3⟩, e1, e2⟩ := Option.map_eq_some_iff.mp (show (stl ρ (.bo i)).map (fun p => (RV.im p.1, p.2)) = some (r', ρ2) from e)
    cases e2
    obtain ⟨B2, p, rp⟩ := Pe.stl ⟨Stp.refl st, vr, fun d a z => nomatch z⟩ e1
    exact ⟨B2, p, rp, rfl, fun d z => nomatch z⟩
theorem fixL_ok {σ : Sg} {H : Hp} : ∀ {rs rs' : List RV} {vs : List V} {ρ ρ2 : Rho} {B : Hp}, Sta T Y σ H ρ B → vs.length = rs.length → (∀ (k : Nat) (v : V) (r : RV), vs[k]? = some v → rs[k]? = some r → VR T Y σ H ρ B v r) → fixL rs ρ = some (rs', ρ2) →
    ∃ B2, Stp T Y σ H ρ B H ρ2 B2 ∧ vs.length = rs'.length ∧ (∀ (k : Nat) (v : V) (r : RV), vs[k]? = some v → rs'[k]? = some r → VR T Y σ H ρ2 B2 v r ∧ fixR r = true) ∧ ∀ (k : Nat) (d : D), rs'[k]? = some (.ow d) → rs[k]? = some (.ow d)
  | [], rs', vs, ρ, ρ2, B, st, hl, hv, e => by
    cases e
    have : vs = [] := List.length_eq_zero_iff.mp hl
    subst this
    exact ⟨B, Stp.refl st, rfl, fun k v r e => by simp at e, fun k d h => by simp at h⟩
  | r :: rs, rs', vs, ρ, ρ2, B, st, hl, hv, e => by
    cases vs with
    | nil => cases hl
    | cons v vs =>
      unfold fixL at e
      split at e
      · rename_i r1 ρ3 e1
        split at e
        · rename_i rs1 ρ4 e2
          cases e
          obtain ⟨B2, p2, v1, fx, bk⟩ := fix1_stp st (hv 0 v r rfl rfl) e1
          obtain ⟨B3, p3, l3, v3, bk3⟩ := fixL_ok p2.st (Nat.succ.inj hl) (fun k v' r' a b => (hv (k + 1) v' r' (by simpa using a) (by simpa using b)).stp p2) e2
          refine ⟨B3, p2.trans p3, congrArg Nat.succ l3, fun k v' r' a b => ?_, fun k d h => ?_⟩
          · cases k with
            | zero => simp at a b; subst a; subst b; exact ⟨v1.stp p3, fx⟩
            | succ k => exact v3 k v' r' (by simpa using a) (by simpa using b)
          · cases k with
            | zero => simp at h; rw [bk d h]; rfl
            | succ k => simpa using bk3 k d (by simpa using h)
        · cases e
      · cases e
theorem fix_pnd {σ : Sg} {H H1 : Hp} {ρ ρ1 ρ2 : Rho} {vs : List V} {rs rs' : List RV} (q : PeL T Y σ H ρ B vs rs H1 ρ1 B1) (e : fixL rs ρ1 = some (rs', ρ2)) : ∃ B2, Stp T Y σ H ρ B H1 ρ2 B2 ∧ Pnd T Y σ H1 ρ2 B2 vs rs' := by
  obtain ⟨B2, p, l, v, bk⟩ := fixL_ok q.stp.st q.len q.val e
  exact ⟨B2, q.stp.trans p, l, v, fun j k d e a h1 h2 h3 h4 => q.dis j k d e a (bk j d h1) (bk k e h2) h3 h4⟩
def sPar (gs : List GF) (fl : LF) : SF := fun ρ => (fl ρ).st fun rs ρ1 => match fixL rs ρ1 with
  | some (rs', ρ2) => (match stores gs rs' ρ2 with
    | some ρ3 => .nx ρ3
    | none => .bad)
  | none => .bad
/-- through a tuple -/
theorem js_par {gs : List GF} {k k2 : Nat} {pt p2 : Pos} (hK : X.K = T.K) (hc : X.calm = true) (h : JGs T X tgs gs) (hl : tgs.length = gs.length) (hs : noStar tgs = true) (ha : JL T X es fl) (hz : tgs.length ≤ 1000)
    (hsw : swapsWithSole [.Tuple tgs k pt] (.Tuple es k2 p2) pos.line X.env = pure false) (hw : swappedStores [.Tuple tgs k pt] (.Tuple es k2 p2) X.env = pure none) : JS T X (.Assign [.Tuple tgs k pt] (.Tuple es k2 p2) pos) (sPar gs fl) := fun W tk => by
  obtain ⟨l1, l2⟩ := aeach_len (env := X.env) hs
  refine PS.imp (ps_asg (pe_tup (ha W tk)) (pg_tup hc (h W tk) rfl l2) hsw hw rfl) fun D σ H ⟨Y, ρ, B, s, h⟩ => ⟨Y, ρ, B, s, (aft_of s h).imp fun rs ρ1 h1 vs H1 B1 q => ?_⟩
  split at h1
  · rename_i rs' ρ2 ef
    split at h1
    · rename_i ρ3 es'
      obtain ⟨B2, p2, pn⟩ := fix_pnd q ef
      have hlen : vs.length = gs.length := by rw [pn.len]; exact (stores_len es').symm
      refine ⟨?_, fun n hn => ?_⟩
      · rw [hlen, ← hl, sizeLine_eq]; omega
      · have ld := Stp.laid (o := .tup vs) p2.st hn
        refine ⟨n, vs, rfl, .of upd_same, by rw [hlen, l1, hl], Y, ρ2, B2, rs', ρ3, ld.st, pn.stp ld, es', fun σ' H' B' st l => h1 σ' H' B' st (p2.le.trans l)⟩
    · exact h1.elim
  · exact h1.elim

theorem nam_step {σ : Sg} {H : Hp} {ρ ρ' : Rho} {i : Nat} {v : V} {r : RV} {vs : List V} {rs : List RV} (st : Sta T Y σ H ρ B) (pn : Pnd T Y σ H ρ B (v :: vs) (r :: rs)) (eg : gNam i r ρ = some ρ') : Sta T Y (σ.set i (some v)) H ρ' B ∧ Pnd T Y (σ.set i (some v)) H ρ' B vs rs := by
  obtain ⟨s0, s, h1, h2, h3, rfl⟩ := gNam_ok eg
  have p := set_sta st h1 h2 (pn.val 0 v r rfl rfl).1 h3
  exact ⟨p.st, pn.rest p⟩
theorem js_swap2 {i j : Nat} {x y : Str} {px py pt p2 : Pos} {kt k2 : Nat} (hc : X.calm = true) (hN : X.N.Nodup) (hi : X.N[i]? = some x) (hj : X.N[j]? = some y) (hij : i ≠ j) (hx : X.env.scope.names.lookup x = some .local) (hy : X.env.scope.names.lookup y = some .local) (ha : JL T X [a, b] fl)
    (hw : swappedStores [.Tuple [.Name x px, .Name y py] kt pt] (.Tuple [a, b] k2 p2) X.env = pure (some [x, y])) : JS T X (.Assign [.Tuple [.Name x px, .Name y py] kt pt] (.Tuple [a, b] k2 p2) pos) (sPar [gNam i, gNam j] fl) := fun W tk =>
  PS.imp (ps_par hc hN hi hj hij hx hy (ha W tk) hw) fun D σ H ⟨Y, ρ, B, s, h⟩ => ⟨Y, ρ, B, s, (aft_of s h).imp fun rs ρ1 h1 vs H1 B1 q => by
    split at h1
    · rename_i rs' ρ2 ef
      split at h1
      · rename_i ρ3 es
        obtain ⟨B2, p2, pn⟩ := fix_pnd q ef
        have l1 := stores_len es
        match rs', l1 with
        | [r1, r2], _ =>
          match vs, pn.len with
          | [v1, v2], _ =>
            simp only [stores] at es
            split at es
            · rename_i ρ4 e1
              split at es
              · rename_i ρ5 e2
                cases es
                obtain ⟨s1, n1⟩ := nam_step p2.st pn e1
                obtain ⟨s2, n2⟩ := nam_step s1 n1 e2
                exact ⟨v1, v2, rfl, h1 _ _ _ s2 p2.le⟩
              · cases es
            · cases es
      · exact h1.elim
    · exact h1.elim⟩
theorem js_swap3 {i j l : Nat} {x y z : Str} {px py pz pt p2 : Pos} {kt k2 : Nat} (hc : X.calm = true) (hN : X.N.Nodup) (hi : X.N[i]? = some x) (hj : X.N[j]? = some y) (hl : X.N[l]? = some z) (hij : i ≠ j) (hil : i ≠ l) (hjl : j ≠ l) (hx : X.env.scope.names.lookup x = some .local) (hy : X.env.scope.names.lookup y = some .local) (hz : X.env.scope.names.lookup z = some .local) (ha : JL T X [a, b, c] fl)
    (hw : swappedStores [.Tuple [.Name x px, .Name y py, .Name z pz] kt pt] (.Tuple [a, b, c] k2 p2) X.env = pure (some [x, y, z])) : JS T X (.Assign [.Tuple [.Name x px, .Name y py, .Name z pz] kt pt] (.Tuple [a, b, c] k2 p2) pos) (sPar [gNam i, gNam j, gNam l] fl) := fun W tk =>
  PS.imp (ps_par3 hc hN hi hj hl hij hil hjl hx hy hz (ha W tk) hw) fun D σ H ⟨Y, ρ, B, s, h⟩ => ⟨Y, ρ, B, s, (aft_of s h).imp fun rs ρ1 h1 vs H1 B1 q => by
    split at h1
    · rename_i rs' ρ2 ef
      split at h1
      · rename_i ρ3 es
        obtain ⟨B2, p2, pn⟩ := fix_pnd q ef
        have l1 := stores_len es
        match rs', l1 with
        | [r1, r2, r3], _ =>
          match vs, pn.len with
          | [v1, v2, v3], _ =>
            simp only [stores] at es
            split at es
            · rename_i ρ4 e1
              split at es
              · rename_i ρ5 e2
                split at es
                · rename_i ρ6 e3
                  cases es
                  obtain ⟨s1, n1⟩ := nam_step p2.st pn e1
                  obtain ⟨s2, n2⟩ := nam_step s1 n1 e2
                  obtain ⟨s3, n3⟩ := nam_step s2 n2 e3
                  exact ⟨v1, v2, v3, rfl, h1 _ _ _ s3 p2.le⟩
                · cases es
              · cases es
            · cases es
      · exact h1.elim
    · exact h1.elim⟩
def putFD (k : Nat) (d : D) : List (Nat × D) → List (Nat × D)
  | [] => [(k, d)]
  | (j, e) :: r => if j = k then (j, d) :: r else (j, e) :: putFD k d r
theorem RepF.put (nd : T.nm.Nodup) {k : Nat} {x : Str} (hx : T.nm[k]? = some x) {v : V} {d : D} (r : Rep T B v d) : ∀ {gs : List (Str × V)} {fs : List (Nat × D)}, RepF T B gs fs → RepF T B (putF x v gs) (putFD k d fs)
  | _, _, .nil => .cons hx r .nil
  | _, _, .cons (k := y) (i := i) e r' t => by
    unfold putF putFD
    by_cases z : i = k
    · subst z
      rw [hx] at e; cases e
      rw [if_pos rfl, if_pos rfl]
      exact .cons hx r t
    · have zy : y ≠ x := fun q => z (nodup_ix nd (by rw [← q]; exact e) hx)
      rw [if_neg zy, if_neg z]
      exact .cons e r' (RepF.put nd hx r t)
def sFldD (ok : Nat → Bool) (k : Nat) (fv fo : EF) : SF := fun ρ => (fv ρ).st fun rv ρ1 => (fo ρ1).st fun ro ρ2 => match ro with
  | .bo i => (match stl ρ2 rv with
    | some (d, ρ3) => (match hotD ρ3 i with
      | some (.ins c fs) => if ok c = true ∧ fs.length < 1000 then .nx (setS ρ3 i (.ins c (putFD k d fs))) else .bad
      | _ => .bad)
    | none => .bad)
  | _ => .bad
theorem js_fld {ok : Nat → Bool} {k : Nat} {x : Str} (hK : X.K = T.K) (hx : T.nm[k]? = some x) (nd : T.nm.Nodup) (hok : ∀ c, c < T.cl.length → ok c = true → Cls X.K (T.ca c) ∧ NoAttr X.K (T.ca c) x) (hv : JE T X e fa) (ho : JE T X o fo) (hs : swapsWith e (some (.Attribute o x pos')) pos.line X.env = pure false) : JS T X (.Assign [.Attribute o x pos'] e pos) (sFldD ok k fa fo) := fun W tk =>
  PS.imp (ps_fld (ho W tk) (hv W tk) hs) fun D σ H ⟨Y, ρ, B, s, h⟩ => ⟨Y, ρ, B, s, (aft_of s h).imp fun rv ρ1 h1 v H1 B1 p1 => ⟨Y, ρ1, B1, p1.stp.st, (aft_of p1.stp.st (Af.le p1.stp.le h1)).imp fun ro ρ2 h2 w H2 B2 p2 => by
    split at h2
    · rename_i i
      split at h2
      · rename_i d ρ3 es
        split at h2
        · rename_i c fs eh
          split at h2
          · rename_i hc
            obtain ⟨B3, p3, rp, l, _⟩ := stl_step (p1.stp.trans p2.stp) (p1.val.stp p2.stp) p1.new es
            obtain ⟨sl, q, h3, h4, h5, h6, h7⟩ := hotD_at p3.st eh
            have ew : w = .ref q := by
              have := p2.val.1
              rw [h5] at this; cases this; rfl
            obtain ⟨dx, gs, e1, hl, rf⟩ := h7
            obtain ⟨c1, c2⟩ := hok c hl hc.1
            refine ⟨q, T.ca c, dx, gs, ew, e1, c1, c2, by rw [rf.length]; exact hc.2, ?_⟩
            have ms := mut_step (d := .ins c (putFD k d fs)) (o := .ins (T.ca c) dx (putF x v gs)) p3.st h3 h4 h5 ⟨dx, _, upd_same, hl, rf.put nd hx rp⟩
            exact h2 σ _ B3 ms.st (p2.stp.le.trans l)
          · exact h2.elim
        · exact h2.elim
      · exact h2.elim
    · exact h2.elim⟩⟩
def sAug (i : Nat) (g : D → D → Ov) (fa : EF) : SF := fun ρ => (eVar i ρ).st fun r0 ρ0 => (fa ρ0).st fun r ρ1 => match rdv ρ1 r0, rdv ρ1 r with
  | some x, some y => (match g x y with
    | .ok rv => (match gNam i rv ρ1 with
      | some ρ2 => .nx ρ2
      | none => .bad)
    | _ => .bad)
  | _, _ => .bad
end
end Pu
namespace Pu
open PySem PySem.Spec PyProof.Rows L2
section
variable {T : Tb} {X : Cx} {W : WX} {Y : Fc} {B B1 B2 : Hp} {a b c e o iter tg : Expr} {es tgs : List Expr} {stm : Stmt} {sts : List Stmt} {pos apos p pos' : Pos} {fa fb fc fo : EF} {fl fr : LF} {ga : TF} {f : SF} {g : GF}
theorem js_aug {i : Nat} {x : Str} {op : Operator} {h : D → D → Ov} (ho : OpG T X (inplaceOp op) h) (hN : X.N.Nodup) (hi : X.N[i]? = some x) (hx : Loc X.env.scope x) (hf : X.fn x = true ∨ X.env.scope.names.lookup x = some .local) (he : JE T X e fa) : JS T X (.AugAssign (.Name x pos') op e pos) (sAug i h fa) := fun W tk => ⟨fun pins s σ H D I ⟨Y, ρ, B, st, hh⟩ => by
  obtain ⟨m, hn, hl⟩ := I.loc
  have vis : Vis X.env.scope x := by rcases hx with k | k; exact .inl k; exact .inr (.inl k)
  -- the old value
  have old : ∃ v r0, σ[i]? = some (some v) ∧ VR T Y σ H ρ B v r0 ∧ eVar i ρ = .ok r0 ρ := by
    unfold sAug at hh
    have h0 : eVar i ρ ≠ .bad := fun z => by rw [z] at hh; exact hh
    unfold eVar at h0 ⊢
    split at h0
    · rename_i d e; obtain ⟨v, e1, r⟩ := st.slot i _ e; exact ⟨v, .im d, e1, r, rfl⟩
    · rename_i d e; obtain ⟨v, e1, r⟩ := st.slot i _ e; exact ⟨_, .bo i, e1, ⟨e1, _, e, fun z => nomatch z⟩, rfl⟩
    · rename_i d e; obtain ⟨v, e1, r⟩ := st.slot i _ e; exact ⟨_, .bo i, e1, ⟨e1, _, e, fun z => nomatch z⟩, rfl⟩
    · exact absurd rfl h0
  obtain ⟨v, r0, e1, vr, ev⟩ := old
  obtain ⟨u, ru, l⟩ := hl i x v hi e1 vis
  unfold sAug at hh
  rw [ev] at hh
  have hh : Af T W Y B D ((fa ρ).st fun r ρ1 => match rdv ρ1 r0, rdv ρ1 r with
    | some x, some y => (match h x y with
      | .ok rv => (match gNam i rv ρ1 with
        | some ρ2 => .nx ρ2
        | none => .bad)
      | _ => .bad)
    | _, _ => .bad) := hh
  refine wpAny_AugAssign_Name ?_
  have go : wpAny (model X.prog X.w) X.A (eval e X.env) (fun w s₂ => wpAny (model X.prog X.w) X.A (inplaceOp op u w) (fun r s₃ => wpAny (model X.prog X.w) X.A (storeName X.env x r) (fun _ => SP X pins D .next) X.xe s₃) X.xe s₂) X.xe s := by
    refine thn ((he W tk).run pins s σ H (fun y H1 => ∃ r ρ1 B1, Pe T Y σ H ρ B y r H1 ρ1 B1 ∧ Af T W Y B D (match rdv ρ1 r0, rdv ρ1 r with
      | some x, some y => (match h x y with
        | .ok rv => (match gNam i rv ρ1 with
          | some ρ2 => .nx ρ2
          | none => .bad)
        | _ => .bad)
      | _, _ => .bad)) I ⟨Y, ρ, B, st, (aft_of st hh).imp fun r ρ1 h1 y H1 B1 p => ⟨r, ρ1, B1, p, h1⟩⟩) fun w s1 ⟨y, H1, I1, r1, r, ρ1, B1, p, h1⟩ => ?_
    split at h1
    · rename_i dx dy ex ey
      split at h1
      · rename_i rv eo
        split at h1
        · rename_i ρ2 eg
          have st1 := p.stp.st
          refine thn (ho W tk pins s1 σ H1 v y u w (fun z H2 => ∃ ρ3 B3, Pe T Y σ H1 ρ1 B1 z rv H2 ρ3 B3 ∧ ρ3 = ρ1) Y ρ1 B1 dx dy I1 ru r1 st1 ((vr.stp p.stp).top st1 ex) (p.val.top st1 ey) (by rw [eo]; exact fun v' H' B' q => ⟨ρ1, B', q, rfl⟩)) fun z s2 ⟨zv, H2, I2, r2, ρ3, B3, q, e3⟩ => ?_
          subst e3
          obtain ⟨s0, sl, h3, h4, h5, rfl⟩ := gNam_ok eg
          have ps := set_sta q.stp.st h3 h4 q.val h5
          exact store_ok I2 hN hi hx r2 (fun s3 I3 => ⟨_, H2, I3, h1 _ _ _ ps.st ((p.stp.le.trans q.stp.le).trans ps.le)⟩) hf
        · exact h1.elim
      · exact h1.elim
    · exact h1.elim
  rcases l with ⟨hk, hm⟩ | ⟨hk, c, hc, hcell⟩
  · exact wpAny_loadName_local I.ok.kind hk hn hm go
  · rcases hk with hk | hk
    · exact wpAny_loadName_cell I.ok.kind hk hc hcell go
    · rcases hx with k | k
      · have : X.env.scope.names.lookup x = some .free := hk
        rw [k] at this; cases this
      · have : X.env.scope.names.lookup x = some .free := hk
        rw [k] at this; cases this⟩
def whl (c : TF) (body : SF) : Nat → Rho → Rt
  | 0, _ => .bad
  | n + 1, ρ => (c ρ).st fun k ρ1 => if k = true then (match body ρ1 with
    | .nx ρ2 => whl c body n ρ2
    | .ct ρ2 => whl c body n ρ2
    | .bk ρ2 => .nx ρ2
    | r => r) else .nx ρ1
abbrev PsO (X : Cx) : Prop := PassesOwn (model X.prog X.w) X.A X.env X.xe
theorem js_while {n : Nat} (hp : PsO X) (hc : JT T X c ga) (hb : JSs T X sts f) : JS T X (.While c sts [] pos) (whl ga f n) := fun W tk =>
  PS.imp (ps_while hp (hc W tk) (hb W tk)) fun D σ H ⟨Y, ρ, B, st, h⟩ => by
    refine ⟨fun m σ H => ∃ ρ Bc, Sta T Y σ H ρ Bc ∧ Af T W Y Bc D (whl ga f m ρ), ⟨n, ρ, B, st, h⟩, fun m σ H ⟨ρ, Bc, s, hw⟩ => ?_⟩
    cases m with
    | zero => exact hw.elim
    | succ m =>
      refine ⟨Y, ρ, Bc, s, (aft_of s hw).imp fun k ρ1 h1 H1 B1 p => ?_⟩
      cases k with
      | false => exact h1 σ H1 B1 p.st p.le
      | true =>
        rw [if_pos rfl] at h1 ⊢
        refine ⟨fun σ' H' => ∃ ρ' B', Sta T Y σ' H' ρ' B' ∧ Af T W Y B' D (whl ga f m ρ'), fun σ' H' q => ⟨m, Nat.lt_succ_self m, q⟩, Y, ρ1, B1, p.st, ?_⟩
        have h1 := Af.le p.le h1
        cases eb : f ρ1 with
        | nx ρ2 => rw [eb] at h1; exact fun σ' H' B' s l => ⟨ρ2, B', s, Af.le l h1⟩
        | ct ρ2 => rw [eb] at h1; exact fun σ' H' B' s l => ⟨ρ2, B', s, Af.le l h1⟩
        | bk ρ2 => rw [eb] at h1; exact h1
        | rt r ρ2 => rw [eb] at h1; exact h1
        | exc c fs ρ2 => rw [eb] at h1; exact h1
        | bad => rw [eb] at h1; exact h1
abbrev IF := Rho → Rs (List D)
/-- J yields ds, while what stands at B stays -/
structure ItOk (T : Tb) (B : Hp) (J : It) (ds : List D) : Prop where
  go : ∀ (i : Nat) (H Bc : Hp), Le B Bc → (∀ a o, Bc a = some o → H a = some o) → i < ds.length → J.go i H
  stop : ∀ (i : Nat) (H Bc : Hp), Le B Bc → (∀ a o, Bc a = some o → H a = some o) → ds.length ≤ i → J.stop i H
  yld : ∀ (i : Nat) (H H' Bc : Hp) (x : V) (Y : Fc) (σ : Sg) (ρ : Rho) (d : D), Le B Bc → Sta T Y σ H ρ Bc → ds[i]? = some d → J.yld i H x H' → ∃ B', Stp T Y σ H ρ Bc H' ρ B' ∧ Rep T B' x d
def tI (T : Tb) (W : WX) (f : IF) : TI := fun σ H R => ∃ Y ρ B, Sta T Y σ H ρ B ∧ Aft T W Y σ H ρ B (f ρ) fun ds ρ' => ∀ J H' B', Stp T Y σ H ρ B H' ρ' B' → ItOk T B' J ds → R J H'
def JI (T : Tb) (X : Cx) (tg iter : Expr) (f : IF) : Prop := ∀ W, Takes X W → PI X tg iter (tI T W f)
def forL (g : GF) (body : SF) : List D → Rho → Rt
  | [], ρ => .nx ρ
  | d :: ds, ρ => match g (.im d) ρ with
    | some ρ1 => (match body ρ1 with
      | .nx ρ2 => forL g body ds ρ2
      | .ct ρ2 => forL g body ds ρ2
      | .bk ρ2 => .nx ρ2
      | r => r)
    | none => .bad
def sFor (fi : IF) (g : GF) (body : SF) : SF := fun ρ => (fi ρ).st fun ds ρ1 => forL g body ds ρ1
theorem js_for {fi : IF} (hp : PsO X) (hc : X.calm = true) (hi : JI T X tg iter fi) (hg : JGL T X tg g) (hb : JSs T X sts f) (hs : isSet iter = false) : JS T X (.For tg iter sts [] pos) (sFor fi g f) := fun W tk =>
  PS.imp (ps_for hp hc (hi W tk) (hg W tk) (hb W tk) (by intro x; cases iter <;> first | rfl | cases hs)) fun D σ H ⟨Y, ρ, B, st, h⟩ => ⟨Y, ρ, B, st, (aft_of st h).imp fun ds ρ1 h1 J H1 B1 p ok => by
    refine ⟨fun i m σ H => ∃ ρ Bc, Sta T Y σ H ρ Bc ∧ Le B1 Bc ∧ i ≤ ds.length ∧ m = ds.length - i ∧ Af T W Y Bc D (forL g f (ds.drop i) ρ), ⟨_, ρ1, B1, p.st, Le.refl _, Nat.zero_le _, rfl, Af.le p.le h1⟩, fun i m σ H ⟨ρ, Bc, s, l, hi, em, hw⟩ => ?_⟩
    by_cases hlt : i < ds.length
    · right
      refine ⟨ok.go i H Bc l s.sub hlt, fun σ' H' => ∃ ρ' B', Sta T Y σ' H' ρ' B' ∧ Le B1 B' ∧ Af T W Y B' D (forL g f (ds.drop (i + 1)) ρ'), fun σ' H' ⟨ρ', B', s', l', h'⟩ => ⟨ds.length - (i + 1), by omega, ρ', B', s', l', hlt, rfl, h'⟩, fun x H' hy => ?_⟩
      have ed : ds.drop i = ds[i] :: ds.drop (i + 1) := List.drop_eq_getElem_cons hlt
      obtain ⟨B2, p2, rx⟩ := ok.yld i H H' Bc x Y σ ρ ds[i] l s (List.getElem?_eq_getElem hlt) hy
      rw [ed] at hw
      unfold forL at hw
      split at hw
      · rename_i ρ2 eg
        refine ⟨Y, ρ, B2, .im ds[i], ρ2, p2.st, rx, rfl, eg, fun σ3 H3 B3 s3 l3 => ⟨Y, ρ2, B3, s3, ?_⟩⟩
        have l4 := p2.le.trans l3
        have hw := Af.le l4 hw
        have l5 := l.trans l4
        cases eb : f ρ2 with
        | nx ρ3 => rw [eb] at hw; exact fun σ' H' B' s l => ⟨ρ3, B', s, l5.trans l, Af.le l hw⟩
        | ct ρ3 => rw [eb] at hw; exact fun σ' H' B' s l => ⟨ρ3, B', s, l5.trans l, Af.le l hw⟩
        | bk ρ3 => rw [eb] at hw; exact hw
        | rt r ρ3 => rw [eb] at hw; exact hw
        | exc c fs ρ3 => rw [eb] at hw; exact hw
        | bad => rw [eb] at hw; exact hw
      · exact hw.elim
    · left
      have hi2 : i = ds.length := by omega
      rw [hi2, List.drop_length] at hw
      exact ⟨ok.stop i H Bc l s.sub (by omega), hw σ H Bc s (Le.refl _)⟩⟩
theorem PI.pt {wi : TI} (h : ∀ (σ : Sg) (H : Hp) (R : It → Hp → Prop), wi σ H R → ∃ wi', PI X tg iter wi' ∧ wi' σ H R) : PI X tg iter wi := ⟨fun pins s σ H R I q => by
  obtain ⟨wi', p, q'⟩ := h σ H R q
  exact p.run pins s σ H R I q'⟩
/-- the items of a value that is walked -/
def itD : D → Option (List D)
  | .lst ds => some ds
  | .scr ns => some (ns.map .int)
  | .tup ds => some ds
  | .dic kvs => some (kvs.map fun kv => kD kv.1)
  | .str x => some (x.cps.toList.map fun c => .str ⟨#[c]⟩)
  | _ => none
def iVal (f : EF) : IF := fun ρ => (f ρ).bind fun r ρ1 => match stl ρ1 r with
  | some (d, ρ2) => (match itD d with
    | some ds => .ok ds ρ2
    | none => .bad)
  | none => .bad
theorem itl_ok {a : Addr} {ds : List D} (h : ∀ H' Bc, Le B Bc → (∀ a o, Bc a = some o → H' a = some o) → ∃ vs, SqL T.K H' a vs ∧ RepL T Bc vs ds) : ItOk T B (Itl T.K a) ds where
  go := fun i H' Bc l sub hi => by
    obtain ⟨vs, hs, r⟩ := h H' Bc l sub
    have hv : i < vs.length := by rw [r.length]; exact hi
    exact ⟨vs, vs[i], hs, List.getElem?_eq_getElem hv⟩
  stop := fun i H' Bc l sub hi => by
    obtain ⟨vs, hs, r⟩ := h H' Bc l sub
    exact ⟨vs, hs, by rw [r.length]; exact hi⟩
  yld := fun i H1 H' Bc x Y σ ρ d l st hd hy => by
    obtain ⟨e, hx⟩ := hy
    subst e
    obtain ⟨vs, hs, r⟩ := h H' Bc l st.sub
    obtain ⟨v, ev, rv⟩ := r.get hd
    have := hx vs hs
    rw [ev] at this; cases this
    exact ⟨Bc, Stp.refl st, rv⟩
theorem itt_ok {a : Addr} {ds : List D} (h : ∀ H' Bc, Le B Bc → (∀ a o, Bc a = some o → H' a = some o) → ∃ vs, SqT T.K H' a vs ∧ RepL T Bc vs ds) : ItOk T B (Itt T.K a) ds where
  go := fun i H' Bc l sub hi => by
    obtain ⟨vs, hs, r⟩ := h H' Bc l sub
    have hv : i < vs.length := by rw [r.length]; exact hi
    exact ⟨vs, vs[i], hs, List.getElem?_eq_getElem hv⟩
  stop := fun i H' Bc l sub hi => by
    obtain ⟨vs, hs, r⟩ := h H' Bc l sub
    exact ⟨vs, hs, by rw [r.length]; exact hi⟩
  yld := fun i H1 H' Bc x Y σ ρ d l st hd hy => by
    obtain ⟨e, hx⟩ := hy
    subst e
    obtain ⟨vs, hs, r⟩ := h H' Bc l st.sub
    obtain ⟨v, ev, rv⟩ := r.get hd
    have := hx vs hs
    rw [ev] at this; cases this
    exact ⟨Bc, Stp.refl st, rv⟩
theorem rep_asL {v : V} {d : D} {ds : List D} (h : Rep T B v d) (e : asL d = some ds) : ∃ a, v = .ref a ∧ ∀ H' Bc, Le B Bc → (∀ a o, Bc a = some o → H' a = some o) → ∃ vs, SqL T.K H' a vs ∧ RepL T Bc vs ds := by
  cases h with
  | lst h r => cases e; exact ⟨_, rfl, fun H' Bc l sub => ⟨_, .of (sub _ _ (l.lst' h)), r.le l⟩⟩
  | scr h => cases e; exact ⟨_, rfl, fun H' Bc l sub => ⟨_, sqL_sub sub (l.sqL h), RepL.ints⟩⟩
  | _ => cases e
theorem rep_tup {v : V} {ds : List D} (h : Rep T B v (.tup ds)) : ∃ a, v = .ref a ∧ ∀ H' Bc, Le B Bc → (∀ a o, Bc a = some o → H' a = some o) → ∃ vs, SqT T.K H' a vs ∧ RepL T Bc vs ds := by
  cases h with
  | tup h r => exact ⟨_, rfl, fun H' Bc l sub => ⟨_, (Le.of sub).sqT (l.sqT h), r.le l⟩⟩
end
end Pu
namespace Pu
open PySem PySem.Spec PyProof.Rows L2
section
variable {T : Tb} {X : Cx} {W : WX} {Y : Fc} {B B1 B2 : Hp} {a b c e o iter tg : Expr} {es tgs : List Expr} {pos apos p pos' : Pos} {fa fb fc fo : EF} {fl fr : LF} {ga : TF} {f : SF} {g : GF}
/-- a value's dict is locked, for good -/
def tLkV (td : TE) : TE := fun σ H Q => td σ H fun x H1 => ∃ d kvs, x = .ref d ∧ ((H1 d = some (.dK kvs) ∧ ∀ od, Q x (upd H1 d (.frz od (.dK kvs)))) ∨ ∃ od, H1 d = some (.frz od (.dK kvs)) ∧ Q x H1)
theorem pe_lockv {td : TE} (he : PE X e td) : PE X e (tLkV td) := ⟨fun pins s σ H Q I h => thn (he.run pins s σ H _ I h) fun u s1 ⟨x, H1, I1, rx, d, kvs, ex, q⟩ => by
  rcases q with ⟨hd, q⟩ | ⟨od, hd, q⟩
  · obtain ⟨od, I2⟩ := I1.lock hd True.intro
    exact ⟨x, _, I2, rx, q od⟩
  · exact ⟨x, H1, I1, rx, q⟩⟩
theorem lock_step {σ : Sg} {H : Hp} {ρ : Rho} {a : Addr} {kvs : List (Key × V)} {od : Obj} (st : Sta T Y σ H ρ B) (hb : B a = some (.dK kvs)) : Stp T Y σ H ρ B (upd H a (.frz od (.dK kvs))) ρ (upd B a (.frz od (.dK kvs))) := by
  have l : Le B (upd B a (.frz od (.dK kvs))) := fun b o e => by
    by_cases z : b = a
    · subst z; rw [hb] at e; cases e; exact ⟨_, upd_same, .inr ⟨od, kvs, rfl, rfl⟩⟩
    · exact ⟨o, by rw [upd_ne z]; exact e, .inl rfl⟩
  have nb : ∀ {b}, B b = none → upd B a (.frz od (.dK kvs)) b = none := fun {b} h => by
    rw [upd_ne fun z => by rw [z, hb] at h; cases h]; exact h
  have nh : ∀ {b o}, B b = none → H b = some o → upd H a (.frz od (.dK kvs)) b = some o := fun {b o} h e => by
    rw [upd_ne fun z => by rw [z, hb] at h; cases h]; exact e
  refine ⟨⟨st.len, fun b o e => ?_, fun b o e n h0 => ?_, st.b0.trans l, fun b h => ?_, fun i t e => ?_, st.dist, st.mus⟩, l, fun b o e n hb' => nh hb' e, fun b h => .inl ?_, fun b h => h, fun i s e n => ⟨s, e, n⟩, fun b h => ?_⟩
  · by_cases z : b = a
    · subst z; rw [upd_same] at e ⊢; exact e
    · rw [upd_ne z] at e ⊢; exact st.sub b o e
  · have := st.keep b o e n h0
    by_cases z : b = a
    · subst z
      -- a is in B, B0 a = none: a is not in the entry's heap
      rcases st.bnew b (by rw [hb]; exact fun z => nomatch z) with y | y
      · exact absurd h0 y
      · rw [y] at e; cases e
    · rw [upd_ne z]; exact this
  · by_cases z : b = a
    · subst z; exact st.bnew b (by rw [hb]; exact fun z => nomatch z)
    · rw [upd_ne z] at h; exact st.bnew b h
  · have so := st.slot i t e
    cases t with
    | no => trivial
    | im d => obtain ⟨v, ev, r⟩ := so; exact ⟨v, ev, r.le l⟩
    | ow d => obtain ⟨b, eb, hn, ob, x⟩ := so; exact ⟨b, eb, nb hn, ob.le l fun u q => nh hn q, x⟩
    | mu d => obtain ⟨b, eb, hn, ob, x⟩ := so; exact ⟨b, eb, nb hn, ob.le l fun u q => nh hn q, x⟩
  · by_cases z : b = a
    · subst z; rw [hb]; exact fun z => nomatch z
    · rw [upd_ne z] at h; exact h
  · by_cases z : b = a
    · subst z; rw [upd_same] at h; cases h
    · rw [upd_ne z] at h; exact h
theorem itk_ok {a : Addr} {od : Obj} {kvs : List (Key × V)} {ds : List (Key × D)} (hb : B a = some (.frz od (.dK kvs))) (r : RepK T B kvs ds) : ItOk T B (Itk a od kvs) (ds.map fun kv => kD kv.1) where
  go := fun i H' Bc l sub hi => ⟨sub _ _ (l.frz hb), by rw [r.length]; simpa using hi⟩
  stop := fun i H' Bc l sub hi => ⟨sub _ _ (l.frz hb), by rw [r.length]; simpa using hi⟩
  yld := fun i H1 H' Bc x Y σ ρ d l st hd hy => by
    obtain ⟨e, k, v, hk, ex⟩ := hy
    subst e ex
    have h1 : (kvs.map (·.1))[i]? = some k := by rw [List.getElem?_map, hk]; rfl
    rw [r.fst, List.getElem?_map] at h1
    rw [List.getElem?_map] at hd
    cases q : ds[i]? with
    | none => rw [q] at hd; cases hd
    | some kd =>
      rw [q] at hd h1
      cases hd
      cases h1
      exact ⟨Bc, Stp.refl st, rep_kD _⟩
theorem its_ok {x : Str} : ItOk T B (Its x) (x.cps.toList.map fun c => .str ⟨#[c]⟩) where
  go := fun i H' Bc l sub hi => by
    have hi : i < x.cps.size := by simpa using hi
    exact hi
  stop := fun i H' Bc l sub hi => by
    have hi : x.cps.size ≤ i := by simpa using hi
    exact hi
  yld := fun i H1 H' Bc v Y σ ρ d l st hd hy => by
    obtain ⟨e, c, hc, ev⟩ := hy
    subst e ev
    rw [List.getElem?_map, Array.getElem?_toList, hc] at hd
    cases hd
    exact ⟨Bc, Stp.refl st, .str⟩
theorem ji_val (hK : X.K = T.K) (ha : JE T X a fa) : JI T X tg a (iVal fa) := fun W tk => PI.pt fun σ H R ⟨Y, ρ, B, st, h⟩ => by
  unfold iVal at h
  -- the value's form decides the rule
  cases e1 : fa ρ with
  | bad => rw [e1] at h; exact h.elim
  | exc c fs ρ1 =>
    refine ⟨_, pi_list (ha W tk), Y, ρ, B, st, ?_⟩
    rw [e1] at h ⊢
    exact h
  | ok r ρ1 =>
    rw [e1] at h
    have h : Aft T W Y σ H ρ B (match stl ρ1 r with
      | some (d, ρ2) => (match itD d with
        | some ds => Rs.ok ds ρ2
        | none => .bad)
      | none => .bad) fun ds ρ' => ∀ J H' B', Stp T Y σ H ρ B H' ρ' B' → ItOk T B' J ds → R J H' := h
    split at h
    · rename_i d ρ2 e2
      split at h
      · rename_i ds e3
        have fin : ∀ {v H1 B1}, Pe T Y σ H ρ B v r H1 ρ1 B1 → ∃ B2, Stp T Y σ H ρ B H1 ρ2 B2 ∧ Rep T B2 v d := fun p => p.stl e2
        have lstc : asL d = some ds → ∃ wi', PI X tg a wi' ∧ wi' σ H R := fun ea => by
          refine ⟨_, pi_list (ha W tk), Y, ρ, B, st, ?_⟩
          rw [e1]
          intro v H1 B1 p
          obtain ⟨B2, q, rp⟩ := fin p
          obtain ⟨n, ev, hq⟩ := rep_asL rp ea
          obtain ⟨vs, hs, _⟩ := hq H1 B2 (Le.refl _) q.st.sub
          refine ⟨n, ev, ⟨vs, by rw [hK]; exact hs⟩, ?_⟩
          rw [hK]
          exact h _ _ _ q (itl_ok hq)
        cases d with
        | lst ds' => exact lstc (by cases e3; rfl)
        | scr ns => exact lstc (by cases e3; rfl)
        | tup ds' =>
          cases e3
          refine ⟨_, pi_tup (ha W tk), Y, ρ, B, st, ?_⟩
          rw [e1]
          intro v H1 B1 p
          obtain ⟨B2, q, rp⟩ := fin p
          obtain ⟨n, ev, hq⟩ := rep_tup rp
          obtain ⟨vs, hs, _⟩ := hq H1 B2 (Le.refl _) q.st.sub
          refine ⟨n, ev, ⟨vs, by rw [hK]; exact hs⟩, ?_⟩
          rw [hK]
          exact h _ _ _ q (itt_ok hq)
        | dic kvs =>
          cases e3
          refine ⟨_, pi_keys (pe_lockv (ha W tk)), Y, ρ, B, st, ?_⟩
          rw [e1]
          intro v H1 B1 p
          obtain ⟨B2, q, rp⟩ := fin p
          cases rp with
          | @dic n ks _ hr rk =>
            refine ⟨n, ks, rfl, ?_⟩
            rcases hr with hr | ⟨od, hr⟩
            · refine .inl ⟨q.st.sub _ _ hr, fun od => ?_⟩
              have ls := lock_step (od := od) q.st hr
              exact ⟨n, od, rfl, .inl ⟨ks, upd_same, h _ _ _ (q.trans ls) (itk_ok upd_same (rk.le ls.le))⟩⟩
            · exact .inr ⟨od, q.st.sub _ _ hr, n, od, rfl, .inl ⟨ks, q.st.sub _ _ hr, h _ _ _ q (itk_ok hr rk)⟩⟩
        | str z =>
          cases e3
          refine ⟨_, pi_str (ha W tk), Y, ρ, B, st, ?_⟩
          rw [e1]
          intro v H1 B1 p
          obtain ⟨B2, q, rp⟩ := fin p
          cases rp
          exact ⟨z, rfl, h _ _ _ q its_ok⟩
        | _ => cases e3
      · exact h.elim
    · exact h.elim
def rngD (lo : Int) (n : Nat) : List D := (List.range n).map fun i => .int (lo + (i : Nat))
theorem itr_ok {lo : Int} {n : Nat} : ItOk T B (Itr lo n) (rngD lo n) where
  go := fun i H' Bc l sub hi => by have : i < n := by simpa [rngD] using hi
                                   exact this
  stop := fun i H' Bc l sub hi => by have : n ≤ i := by simpa [rngD] using hi
                                     exact this
  yld := fun i H1 H' Bc v Y σ ρ d l st hd hy => by
    obtain ⟨e, ev⟩ := hy
    subst e ev
    unfold rngD at hd
    rw [List.getElem?_map] at hd
    cases q : (List.range n)[i]? with
    | none => rw [q] at hd; cases hd
    | some j =>
      rw [q] at hd
      cases hd
      obtain ⟨hl, e⟩ := List.getElem?_eq_some_iff.mp q
      rw [List.getElem_range] at e
      subst e
      exact ⟨Bc, Stp.refl st, .int⟩
def i62 (i : Int) : Bool := decide (-(2 ^ 62) ≤ i) && decide (i < 2 ^ 62)
theorem i62_ok {i : Int} (h : i62 i = true) : -(2 ^ 62) ≤ i ∧ i < 2 ^ 62 := by
  unfold i62 at h
  rw [Bool.and_eq_true] at h
  exact ⟨of_decide_eq_true h.1, of_decide_eq_true h.2⟩
def iRng1 (fl : LF) : IF := fun ρ => (fl ρ).bind fun rs ρ1 => match rdvs ρ1 rs with
  | some [.int j] => if i62 j = true then .ok (rngD 0 j.toNat) ρ1 else .bad
  | _ => .bad
def iRng2 (fl : LF) : IF := fun ρ => (fl ρ).bind fun rs ρ1 => match rdvs ρ1 rs with
  | some [.int i, .int j] => if i62 i = true ∧ i62 j = true then .ok (rngD i (j - i).toNat) ρ1 else .bad
  | _ => .bad
theorem ji_rng1 (hg : Gl X "range") (hm : X.mg "range" = none) (ha : JL T X [a] fl) (hs : isStar a = false) : JI T X tg (.Call (.Name "range" p) [a] [] pos) (iRng1 fl) := fun W tk => PI.pt fun σ H R ⟨Y, ρ, B, st, h⟩ =>
  ⟨_, pi_range1 hg hm (ha W tk) (star_cons hs), Y, ρ, B, st, h.bind.imp fun rs ρ1 h1 vs H1 B1 q => by
    split at h1
    · rename_i j e
      split at h1
      · rename_i hj
        have st1 := q.stp.st
        obtain ⟨v, ev, t⟩ := (tps_of st1 q.len q.val e).one
        rw [t.int] at ev
        exact ⟨j, ev, (i62_ok hj).1, (i62_ok hj).2, h1 _ _ _ q.stp itr_ok⟩
      · exact h1.elim
    · exact h1.elim⟩
theorem ji_rng2 (hg : Gl X "range") (hm : X.mg "range" = none) (ha : JL T X [a, b] fl) (hs : isStar a = false) (hs2 : isStar b = false) : JI T X tg (.Call (.Name "range" p) [a, b] [] pos) (iRng2 fl) := fun W tk => PI.pt fun σ H R ⟨Y, ρ, B, st, h⟩ =>
  ⟨_, pi_range2 hg hm (ha W tk) (by rw [star_cons hs, star_cons hs2]; rfl) (star_cons hs2), Y, ρ, B, st, h.bind.imp fun rs ρ1 h1 vs H1 B1 q => by
    split at h1
    · rename_i i j e
      split at h1
      · rename_i hj
        have st1 := q.stp.st
        obtain ⟨v, w, ev, t, t2⟩ := (tps_of st1 q.len q.val e).two
        rw [t.int, t2.int] at ev
        exact ⟨i, j, ev, ⟨(i62_ok hj.1).1, (i62_ok hj.1).2, (i62_ok hj.2).1, (i62_ok hj.2).2⟩, h1 _ _ _ q.stp itr_ok⟩
      · exact h1.elim
    · exact h1.elim⟩
theorem pair_step {σ : Sg} {H : Hp} {ρ : Rho} {p : Addr} {x y : V} {d e : D} (st : Sta T Y σ H ρ B) (hn : H p = none) (r1 : Rep T B x d) (r2 : Rep T B y e) : ∃ B', Stp T Y σ H ρ B (upd H p (.tup [x, y])) ρ B' ∧ Rep T B' (.ref p) (.tup [d, e]) := by
  have q := Pe.laidT (vs := [x, y]) (ds := [d, e]) st hn (.cons r1 (.cons r2 .nil))
  exact ⟨_, q.stp, q.val⟩
def enumD : Nat → List D → List D
  | _, [] => []
  | i, d :: ds => .tup [.int (i : Nat), d] :: enumD (i + 1) ds
theorem enumD_get : ∀ {ds : List D} {k i : Nat}, (enumD k ds)[i]? = (ds[i]?).map fun d => .tup [.int ((k + i : Nat) : Int), d]
  | [], k, i => by simp [enumD]
  | d :: ds, k, 0 => by simp [enumD]
  | d :: ds, k, i + 1 => by
    unfold enumD
    rw [List.getElem?_cons_succ, List.getElem?_cons_succ, enumD_get, show k + 1 + i = k + (i + 1) by omega]
theorem enumD_len : ∀ {ds : List D} {k : Nat}, (enumD k ds).length = ds.length
  | [], k => rfl
  | d :: ds, k => congrArg Nat.succ enumD_len
theorem ite_ok {a : Addr} {ds : List D} (h : ∀ H' Bc, Le B Bc → (∀ a o, Bc a = some o → H' a = some o) → ∃ vs, SqL T.K H' a vs ∧ RepL T Bc vs ds) : ItOk T B (Ite T.K a) (enumD 0 ds) where
  go := fun i H' Bc l sub hi => by
    obtain ⟨vs, hs, r⟩ := h H' Bc l sub
    rw [enumD_len] at hi
    have hv : i < vs.length := by rw [r.length]; exact hi
    exact ⟨vs, vs[i], hs, List.getElem?_eq_getElem hv⟩
  stop := fun i H' Bc l sub hi => by
    obtain ⟨vs, hs, r⟩ := h H' Bc l sub
    rw [enumD_len] at hi
    exact ⟨vs, hs, by rw [r.length]; exact hi⟩
  yld := fun i H1 H' Bc x Y σ ρ d l st hd hy => by
    obtain ⟨n, v, ex, hn, e, hx⟩ := hy
    subst ex e
    obtain ⟨vs, hs, r⟩ := h H1 Bc l st.sub
    rw [enumD_get, Option.map_eq_some_iff] at hd
    obtain ⟨d', hd, e2⟩ := hd
    subst e2
    obtain ⟨w, ew, rw'⟩ := r.get hd
    have := hx vs hs
    rw [ew] at this; cases this
    rw [Nat.zero_add]
    exact pair_step st hn .int rw'
def iEnu (f : EF) : IF := fun ρ => (f ρ).bind fun r ρ1 => match stl ρ1 r with
  | some (d, ρ2) => (match asL d with
    | some ds => .ok (enumD 0 ds) ρ2
    | none => .bad)
  | none => .bad
def lOne (f : EF) : LF := lCons f lNil
theorem tA_one {W : WX} {σ : Sg} {H : Hp} {Q : List V → Hp → Prop} (h : tE T W fa σ H fun v H1 => Q [v] H1) : tA T W (lOne fa) σ H Q := by
  obtain ⟨Y, ρ, B, st, h⟩ := h
  refine ⟨Y, ρ, B, st, ?_⟩
  unfold lOne lCons
  cases e : fa ρ with
  | bad => rw [e] at h; exact h
  | exc c fs ρ1 => rw [e] at h; exact h
  | ok r ρ1 =>
    rw [e] at h
    intro vs H' B' q
    match vs, q.len with
    | [v], _ => exact h v H' B' ⟨q.stp, q.val 0 v r rfl rfl, fun d a e1 e2 => q.new 0 d a (by rw [e1]; rfl) (by rw [e2]; rfl)⟩
theorem ji_enum {elts : List Expr} {kk : Nat} {tpos : Pos} (hK : X.K = T.K) (hg : Gl X "enumerate") (hm : X.mg "enumerate" = none) (ha : JE T X a fa) (hs : isStar a = false) : JI T X (.Tuple elts kk tpos) (.Call (.Name "enumerate" p) [a] [] pos) (iEnu fa) := fun W tk => PI.pt fun σ H R ⟨Y, ρ, B, st, h⟩ =>
  ⟨_, pi_enum hg hm (jl_cons ha jl_nil hs W tk) (star_cons hs), tA_one ⟨Y, ρ, B, st, h.bind.imp fun r ρ1 h1 v H1 B1 p => by
    split at h1
    · rename_i d ρ2 e2
      split at h1
      · rename_i ds ea
        obtain ⟨B2, q, rp⟩ := p.stl e2
        obtain ⟨n, ev, hq⟩ := rep_asL rp ea
        obtain ⟨vs, hs, _⟩ := hq H1 B2 (Le.refl _) q.st.sub
        rw [hK]
        exact ⟨n, vs, by rw [ev], hs, h1 _ _ _ q (ite_ok hq)⟩
      · exact h1.elim
    · exact h1.elim⟩⟩
def zipD : List D → List D → List D
  | a :: r, b :: s => .tup [a, b] :: zipD r s
  | _, _ => []
theorem zipD_get : ∀ {ds es : List D} {i : Nat} {x : D}, (zipD ds es)[i]? = some x → ∃ d e, ds[i]? = some d ∧ es[i]? = some e ∧ x = .tup [d, e]
  | [], es, i, x, h => by simp [zipD] at h
  | d :: ds, [], i, x, h => by simp [zipD] at h
  | d :: ds, e :: es, 0, x, h => by simp [zipD] at h; exact ⟨d, e, rfl, rfl, h.symm⟩
  | d :: ds, e :: es, i + 1, x, h => by simp [zipD] at h; simpa using zipD_get h
theorem zipD_len : ∀ {ds es : List D}, (zipD ds es).length = min ds.length es.length
  | [], es => by simp [zipD]
  | d :: ds, [] => by simp [zipD]
  | d :: ds, e :: es => by simp only [zipD, List.length_cons, zipD_len]; omega
theorem itz_ok {a b : Addr} {ds es : List D} (h : ∀ H' Bc, Le B Bc → (∀ a o, Bc a = some o → H' a = some o) → ∃ vs, SqL T.K H' a vs ∧ RepL T Bc vs ds) (h2 : ∀ H' Bc, Le B Bc → (∀ a o, Bc a = some o → H' a = some o) → ∃ vs, SqL T.K H' b vs ∧ RepL T Bc vs es) : ItOk T B (Itz T.K a b) (zipD ds es) where
  go := fun i H' Bc l sub hi => by
    obtain ⟨vs, hs, r⟩ := h H' Bc l sub
    obtain ⟨ws, hw, r2⟩ := h2 H' Bc l sub
    rw [zipD_len] at hi
    have hv : i < vs.length := by rw [r.length]; omega
    have hv2 : i < ws.length := by rw [r2.length]; omega
    exact ⟨vs, ws, vs[i], ws[i], hs, hw, List.getElem?_eq_getElem hv, List.getElem?_eq_getElem hv2⟩
  stop := fun i H' Bc l sub hi => by
    obtain ⟨vs, hs, r⟩ := h H' Bc l sub
    obtain ⟨ws, hw, r2⟩ := h2 H' Bc l sub
    rw [zipD_len] at hi
    refine ⟨vs, ws, hs, hw, ?_⟩
    rw [r.length, r2.length]; omega
  yld := fun i H1 H' Bc x Y σ ρ d l st hd hy => by
    obtain ⟨n, v, w, ex, hn, e, hx, hx2⟩ := hy
    subst ex e
    obtain ⟨vs, hs, r⟩ := h H1 Bc l st.sub
    obtain ⟨ws, hw, r2⟩ := h2 H1 Bc l st.sub
    obtain ⟨d1, d2, e1, e2, e3⟩ := zipD_get hd
    subst e3
    obtain ⟨v', ew, rv⟩ := r.get e1
    obtain ⟨w', ew2, rw'⟩ := r2.get e2
    have := hx vs hs
    rw [ew] at this; cases this
    have := hx2 ws hw
    rw [ew2] at this; cases this
    exact pair_step st hn rv rw'
def iZipD (fl : LF) : IF := fun ρ => (fl ρ).bind fun rs ρ1 => match setl rs ρ1 with
  | some ([d, e], ρ2) => (match asL d, asL e with
    | some ds, some es => .ok (zipD ds es) ρ2
    | _, _ => .bad)
  | _ => .bad
theorem ji_zip {elts : List Expr} {kk : Nat} {tpos : Pos} (hK : X.K = T.K) (hg : Gl X "zip") (hm : X.mg "zip" = none) (ha : JL T X [a, b] fl) (hs : isStar a = false) (hs2 : isStar b = false) : JI T X (.Tuple elts kk tpos) (.Call (.Name "zip" p) [a, b] [] pos) (iZipD fl) := fun W tk => PI.pt fun σ H R ⟨Y, ρ, B, st, h⟩ =>
  ⟨_, pi_zip hg hm (ha W tk) (star_cons hs) (star_any (by simp [hs2])), Y, ρ, B, st, h.bind.imp fun rs ρ1 h1 vs H1 B1 q => by
    split at h1
    · rename_i d e ρ2 es
      split at h1
      · rename_i ds es' e1 e2
        obtain ⟨B2, p, rl, l⟩ := setl_ok q es
        cases rl with
        | cons r1 t1 =>
          cases t1 with
          | cons r2 t2 =>
            cases t2
            obtain ⟨n, ev, hq⟩ := rep_asL r1 e1
            obtain ⟨n2, ev2, hq2⟩ := rep_asL r2 e2
            obtain ⟨xs, hx, _⟩ := hq H1 B2 (Le.refl _) p.st.sub
            obtain ⟨ys, hy, _⟩ := hq2 H1 B2 (Le.refl _) p.st.sub
            rw [hK]
            exact ⟨n, n2, xs, ys, by rw [ev, ev2], hx, hy, h1 _ _ _ p (itz_ok hq hq2)⟩
      · exact h1.elim
    · exact h1.elim⟩
theorem iti_ok {a : Addr} {od : Obj} {kvs : List (Key × V)} {ds : List (Key × D)} (hb : B a = some (.frz od (.dK kvs))) (r : RepK T B kvs ds) : ItOk T B (Iti a od kvs) (ds.map fun kv => .tup [kD kv.1, kv.2]) where
  go := fun i H' Bc l sub hi => ⟨sub _ _ (l.frz hb), by rw [r.length]; simpa using hi⟩
  stop := fun i H' Bc l sub hi => ⟨sub _ _ (l.frz hb), by rw [r.length]; simpa using hi⟩
  yld := fun i H1 H' Bc x Y σ ρ d l st hd hy => by
    obtain ⟨n, k, v, hk, ex, hn, e⟩ := hy
    subst ex e
    have get : ∀ {kvs : List (Key × V)} {ds : List (Key × D)}, RepK T Bc kvs ds → ∀ {i : Nat}, kvs[i]? = some (k, v) → ∃ d, ds[i]? = some (k, d) ∧ Rep T Bc v d := fun {kvs ds} r => by
      clear hd hk hn
      induction kvs generalizing ds with
      | nil => intro i h; simp at h
      | cons x xs ih =>
        intro i h
        cases r with
        | cons r1 t =>
          cases i with
          | zero => simp at h; obtain ⟨rfl, rfl⟩ := h; exact ⟨_, rfl, r1⟩
          | succ i => simpa using ih t (by simpa using h)
    obtain ⟨e, he, rv⟩ := get (r.le l) hk
    rw [List.getElem?_map, he] at hd
    cases hd
    exact pair_step st hn (rep_kD k) rv
def iIte (f : EF) : IF := fun ρ => (f ρ).bind fun r ρ1 => match stl ρ1 r with
  | some (.dic kvs, ρ2) => .ok (kvs.map fun kv => .tup [kD kv.1, kv.2]) ρ2
  | _ => .bad
theorem ji_items {elts : List Expr} {kk : Nat} {tpos : Pos} (ha : JE T X o fa) (hb : noSup o = true) (hline : (apos.endLine == pos.line) = true) : JI T X (.Tuple elts kk tpos) (.Call (.Attribute o "items" apos) [] [] pos) (iIte fa) := fun W tk => PI.pt fun σ H R ⟨Y, ρ, B, st, h⟩ =>
  ⟨_, pi_items (pe_lockv (ha W tk)) (abase_of hb) hline, Y, ρ, B, st, h.bind.imp fun r ρ1 h1 v H1 B1 p => by
    split at h1
    · rename_i kvs ρ2 e2
      obtain ⟨B2, q, rp⟩ := p.stl e2
      cases rp with
      | @dic n ks _ hr rk =>
        refine ⟨n, ks, rfl, ?_⟩
        rcases hr with hr | ⟨od, hr⟩
        · refine .inl ⟨q.st.sub _ _ hr, fun od => ?_⟩
          have ls := lock_step (od := od) q.st hr
          exact ⟨n, od, ks, rfl, upd_same, h1 _ _ _ (q.trans ls) (iti_ok upd_same (rk.le ls.le))⟩
        · exact .inr ⟨od, q.st.sub _ _ hr, n, od, ks, rfl, q.st.sub _ _ hr, h1 _ _ _ q (iti_ok hr rk)⟩
    · exact h1.elim⟩
end
end Pu
namespace Pu
open PySem PySem.Spec PyProof.Rows L2
section
variable {T : Tb} {X : Cx} {W : WX} {Y : Fc} {B B1 B2 : Hp} {a b c e o iter tg : Expr} {es tgs : List Expr} {pos apos p pos' : Pos} {fa fb fc fo : EF} {fl fr : LF} {ga : TF} {f : SF} {g : GF}
def wipeR (ρ : Rho) : List Nat → Rho
  | [] => ρ
  | v :: vs => (wipeR ρ vs).set v .no
theorem wipeR_len (ρ : Rho) : ∀ vs : List Nat, (wipeR ρ vs).length = ρ.length
  | [] => rfl
  | v :: vs => by unfold wipeR; rw [List.length_set, wipeR_len ρ vs]
theorem wipeR_out {ρ : Rho} {i : Nat} : ∀ {vs : List Nat}, i ∉ vs → (wipeR ρ vs)[i]? = ρ[i]?
  | [], _ => rfl
  | v :: vs, h => by
    have h1 : v ≠ i := fun z => h (by rw [z]; exact List.mem_cons_self)
    unfold wipeR
    rw [List.getElem?_set_ne h1, wipeR_out fun z => h (List.mem_cons_of_mem _ z)]
theorem wipeR_in {ρ : Rho} {i : Nat} {s : Sl} : ∀ {vs : List Nat}, i ∈ vs → (wipeR ρ vs)[i]? = some s → s = .no
  | v :: vs, h, e => by
    unfold wipeR at e
    by_cases z : v = i
    · subst z
      by_cases hl : v < (wipeR ρ vs).length
      · rw [List.getElem?_set_self hl] at e; cases e; rfl
      · rw [List.getElem?_eq_none (by simpa using hl)] at e; cases e
    · rw [List.getElem?_set_ne z] at e
      rcases List.mem_cons.mp h with rfl | h
      · exact absurd rfl z
      · exact wipeR_in h e
/-- no slot of vs holds an object -/
def coldAt (ρ : Rho) (vs : List Nat) : Bool := vs.all fun i => match ρ[i]? with
  | some s => !s.hot
  | none => true
theorem cold_at {ρ : Rho} {vs : List Nat} (h : coldAt ρ vs = true) {i : Nat} {s : Sl} (hi : i ∈ vs) (e : ρ[i]? = some s) : s.hot = false := by
  have := List.all_eq_true.mp h i hi
  rw [e] at this
  simpa using this
theorem sa_wipe {σ : Sg} {ρ : Rho} {vs : List Nat} {a : Addr} (h : SA (wipe σ vs) (wipeR ρ vs) a) : SA σ ρ a := by
  obtain ⟨i, s, e, hs, ev⟩ := h
  by_cases hi : i ∈ vs
  · rw [wipeR_in hi e] at hs; cases hs
  · rw [wipeR_out hi] at e
    rw [wipe_out hi] at ev
    exact ⟨i, s, e, hs, ev⟩
theorem sa_unwipe {σ : Sg} {ρ : Rho} {vs : List Nat} {a : Addr} (hc : coldAt ρ vs = true) (h : SA σ ρ a) : SA (wipe σ vs) (wipeR ρ vs) a := by
  obtain ⟨i, s, e, hs, ev⟩ := h
  have hi : i ∉ vs := fun z => by rw [cold_at hc z e] at hs; cases hs
  exact ⟨i, s, by rw [wipeR_out hi]; exact e, hs, by rw [wipe_out hi]; exact ev⟩
theorem Sta.wipe {σ : Sg} {H : Hp} {ρ : Rho} {vs : List Nat} (st : Sta T Y σ H ρ B) (hc : ∀ p ∈ Y.M, p.1 ∉ vs) : Sta T Y (L2.wipe σ vs) H (wipeR ρ vs) B := by
  refine ⟨by rw [wipe_length, wipeR_len]; exact st.len, st.sub, st.keep, st.b0, st.bnew, fun i t e => ?_, fun i j t u a e1 e2 h1 h2 v1 v2 => ?_, fun p hp => ?_⟩
  · by_cases hi : i ∈ vs
    · rw [wipeR_in hi e]; trivial
    · rw [wipeR_out hi] at e
      have so := st.slot i t e
      cases t with
      | no => trivial
      | im d => obtain ⟨v, ev, r⟩ := so; exact ⟨v, by rw [wipe_out hi]; exact ev, r⟩
      | ow d => obtain ⟨v, ev, r⟩ := so; exact ⟨v, by rw [wipe_out hi]; exact ev, r⟩
      | mu d => obtain ⟨v, ev, r⟩ := so; exact ⟨v, by rw [wipe_out hi]; exact ev, r⟩
  · have hi : i ∉ vs := fun z => by rw [wipeR_in z e1] at h1; cases h1
    have hj : j ∉ vs := fun z => by rw [wipeR_in z e2] at h2; cases h2
    rw [wipeR_out hi] at e1
    rw [wipeR_out hj] at e2
    rw [wipe_out hi] at v1
    rw [wipe_out hj] at v2
    exact st.dist i j t u a e1 e2 h1 h2 v1 v2
  · obtain ⟨⟨d, e⟩, ev⟩ := st.mus p hp
    exact ⟨⟨d, by rw [wipeR_out (hc p hp)]; exact e⟩, by rw [wipe_out (hc p hp)]; exact ev⟩
theorem mus_cold {σ : Sg} {H : Hp} {ρ : Rho} {vs : List Nat} (st : Sta T Y σ H ρ B) (hc : coldAt ρ vs = true) : ∀ p ∈ Y.M, p.1 ∉ vs := fun p hp z => by
  obtain ⟨⟨d, e⟩, ev⟩ := st.mus p hp
  have := cold_at hc z e
  cases this
def bindN : List Nat → List D → Rho → Option Rho
  | [], [], ρ => some ρ
  | i :: is, d :: ds, ρ => match gNam i (.im d) ρ with
    | some ρ1 => bindN is ds ρ1
    | none => none
  | _, _, _ => none
inductive Nt where
  | nm (i : Nat) | tp (is : List Nat)
def Nt.ix : Nt → List Nat
  | .nm i => [i]
  | .tp is => is
def bindD : Nt → D → Rho → Option Rho
  | .nm i, d, ρ => gNam i (.im d) ρ
  | .tp is, .tup ds, ρ => bindN is ds ρ
  | _, _, _ => none
def gNames : List Nat → TGs
  | [] => gNil
  | i :: is => gCons (gName i) (gNames is)
def tN (T : Tb) : Nt → TG
  | .nm i => gName i
  | .tp is => gTup T.K is.length (gNames is)
/-- behind the binding: the slots' objects are the same -/
structure Bnd (T : Tb) (Y : Fc) (σ : Sg) (H : Hp) (ρ : Rho) (B : Hp) (vs : List Nat) (σ' : Sg) (ρ' : Rho) : Prop where
  st : Sta T Y σ' H ρ' B
  wp : wipe σ' vs = wipe σ vs
  sa : ∀ a, SA σ' ρ' a → SA σ ρ a
  sl : ∀ i, i ∉ vs → ρ'[i]? = ρ[i]?
theorem wipe_set {σ : Sg} {i : Nat} {x : Option V} : ∀ {vs : List Nat}, i ∈ vs → wipe (σ.set i x) vs = wipe σ vs
  | v :: vs, h => by
    unfold wipe
    by_cases hi : i ∈ vs
    · rw [wipe_set hi]
    · rcases List.mem_cons.mp h with rfl | h
      · apply List.ext_getElem?
        intro j
        by_cases z : i = j
        · subst z
          simp [List.getElem?_set, wipe_length]
        · rw [List.getElem?_set_ne z, List.getElem?_set_ne z]
          by_cases hj : j ∈ vs
          · have key : ∀ (τ : Sg) {us : List Nat}, j ∈ us → (wipe τ us)[j]? = if j < τ.length then some none else none := fun τ {us} => by
              induction us with
              | nil => intro h; cases h
              | cons u us ih =>
                intro h
                unfold wipe
                by_cases q : u = j
                · subst q; simp [List.getElem?_set, wipe_length]
                · rw [List.getElem?_set_ne q]
                  rcases List.mem_cons.mp h with rfl | h
                  · exact absurd rfl q
                  · exact ih h
            rw [key _ hj, key _ hj, List.length_set]
          · rw [wipe_out hj, wipe_out hj, List.getElem?_set_ne z]
      · exact absurd h hi
theorem nam_bnd {σ : Sg} {H : Hp} {ρ ρ' : Rho} {i : Nat} {v : V} {d : D} {vs : List Nat} (st : Sta T Y σ H ρ B) (r : Rep T B v d) (e : gNam i (.im d) ρ = some ρ') (hi : i ∈ vs) : Bnd T Y σ H ρ B vs (σ.set i (some v)) ρ' := by
  obtain ⟨s0, s, h1, h2, h3, rfl⟩ := gNam_ok e
  cases h3
  have p := set_sta (r := .im d) st h1 h2 r rfl
  refine ⟨p.st, wipe_set hi, fun a ⟨j, t, e, ht, ev⟩ => ?_, fun j hj => List.getElem?_set_ne fun z => hj (by rw [← z]; exact hi)⟩
  by_cases z : i = j
  · subst z
    rw [List.getElem?_set_self (List.getElem?_eq_some_iff.mp h1).1] at e
    cases e; cases ht
  · rw [List.getElem?_set_ne z] at e ev
    exact ⟨j, t, e, ht, ev⟩
theorem Bnd.trans {σ σ1 σ2 : Sg} {H : Hp} {ρ ρ1 ρ2 : Rho} {vs : List Nat} (h : Bnd T Y σ H ρ B vs σ1 ρ1) (h' : Bnd T Y σ1 H ρ1 B vs σ2 ρ2) : Bnd T Y σ H ρ B vs σ2 ρ2 :=
  ⟨h'.st, h'.wp.trans h.wp, fun a z => h.sa a (h'.sa a z), fun i hi => (h'.sl i hi).trans (h.sl i hi)⟩
theorem names_bnd {H : Hp} {vs : List Nat} : ∀ {is : List Nat} {ds : List D} {ws : List V} {σ : Sg} {ρ ρ' : Rho} {Q : Sg → Hp → Prop}, Sta T Y σ H ρ B → RepL T B ws ds → bindN is ds ρ = some ρ' → (∀ i ∈ is, i ∈ vs) → (∀ σ', Bnd T Y σ H ρ B vs σ' ρ' → Q σ' H) → gNames is ws σ H Q
  | [], [], ws, σ, ρ, ρ', Q, st, r, e, hi, k => by
    cases e
    cases r
    exact ⟨rfl, k σ ⟨st, rfl, fun a z => z, fun i _ => rfl⟩⟩
  | i :: is, d :: ds, ws, σ, ρ, ρ', Q, st, r, e, hi, k => by
    unfold bindN at e
    split at e
    · rename_i ρ1 e1
      cases r with
      | cons r1 t =>
        have b1 := nam_bnd st r1 e1 (hi i List.mem_cons_self)
        exact ⟨_, _, rfl, names_bnd b1.st t e (fun j hj => hi j (List.mem_cons_of_mem _ hj)) fun σ' b => k σ' (b1.trans b)⟩
    · cases e
  | [], _ :: _, _, _, _, _, _, _, _, e, _, _ => by simp [bindN] at e
  | _ :: _, [], _, _, _, _, _, _, _, e, _, _ => by simp [bindN] at e
theorem bindN_len : ∀ {is : List Nat} {ds : List D} {ρ ρ' : Rho}, bindN is ds ρ = some ρ' → ds.length = is.length
  | [], [], _, _, _ => rfl
  | i :: is, d :: ds, ρ, ρ', e => by
    unfold bindN at e
    split at e
    · exact congrArg Nat.succ (bindN_len e)
    · cases e
  | [], _ :: _, _, _, e => by simp [bindN] at e
  | _ :: _, [], _, _, e => by simp [bindN] at e
theorem bind_ok {H : Hp} {vs : List Nat} {nt : Nt} {d : D} {v : V} {σ : Sg} {ρ ρ' : Rho} {Q : Sg → Hp → Prop} (st : Sta T Y σ H ρ B) (r : Rep T B v d) (e : bindD nt d ρ = some ρ') (hi : ∀ i ∈ nt.ix, i ∈ vs) (k : ∀ σ', Bnd T Y σ H ρ B vs σ' ρ' → Q σ' H) : tN T nt v σ H Q := by
  cases nt with
  | nm i => exact k _ (nam_bnd st r e (hi i (by simp [Nt.ix])))
  | tp is =>
    cases d with
    | tup ds =>
      obtain ⟨a, ev, hq⟩ := rep_tup r
      obtain ⟨ws, hs, rl⟩ := hq H B (Le.refl _) st.sub
      have e' : bindN is ds ρ = some ρ' := e
      exact ⟨a, ws, ev, hs, by rw [rl.length]; exact bindN_len e', names_bnd st rl e' hi k⟩
    | _ => cases e
/-- the new list is touched: it is younger than the start -/
theorem Stp.touch {σ : Sg} {H1 H : Hp} {ρ1 ρ : Rho} {D : Addr} {o : HO} (s1 : Sta T Y σ H1 ρ1 B1) (p : Stp T Y σ H1 ρ1 B1 H ρ B) (hn : H1 D = none) (bn : B D = none) : Stp T Y σ H1 ρ1 B1 (upd H D o) ρ B := by
  have ns : ¬ SA σ ρ D := fun z => (s1.fresh (o := .own 0) hn).2.1 (p.sa D z)
  have h0 := s1.h0 hn
  have st := p.st
  have na : ∀ {a u}, a ≠ D → H a = some u → upd H D o a = some u := fun {a u} n e => by rw [upd_ne n]; exact e
  refine ⟨⟨st.len, fun a u e => na (fun z => by rw [z, bn] at e; cases e) (st.sub a u e), fun a u e n b => na (fun z => by rw [z, h0.1] at e; cases e) (st.keep a u e n b), st.b0, st.bnew, fun i t e => ?_, st.dist, st.mus⟩, p.le, fun a u e n b => na (fun z => by rw [z, hn] at e; cases e) (p.kp a u e n b), p.bn, p.sa, p.sl, fun a e => ?_⟩
  · have so := st.slot i t e
    cases t with
    | no => trivial
    | im d => exact so
    | ow d => obtain ⟨b, eb, hb, ob, x⟩ := so; exact ⟨b, eb, hb, ob.le (Le.refl B) fun u q => na (fun z => ns ⟨i, _, e, rfl, by rw [← z]; exact eb⟩) q, x⟩
    | mu d => obtain ⟨b, eb, hb, ob, x⟩ := so; exact ⟨b, eb, hb, ob.le (Le.refl B) fun u q => na (fun z => ns ⟨i, _, e, rfl, by rw [← z]; exact eb⟩) q, x⟩
  · by_cases z : a = D
    · subst z; exact hn
    · rw [upd_ne z] at e; exact p.fr a e
/-- a turn of the block: bound, evaluated, wiped -/
theorem turn_stp {σ σ2 : Sg} {H1 H H4 : Hp} {ρ1 ρ ρ' ρ4 : Rho} {B4 : Hp} {vs : List Nat} (p : Stp T Y σ H1 ρ1 B1 H ρ B) (hw : wipe σ vs = σ) (bd : Bnd T Y σ H ρ B vs σ2 ρ') (q : Stp T Y σ2 H ρ' B H4 ρ4 B4) (hm : ∀ p ∈ Y.M, p.1 ∉ vs) (hv : ∀ (i : Nat) (s : Sl), i ∈ vs → ρ1[i]? = some s → s = .no) : Stp T Y σ H1 ρ1 B1 H4 (wipeR ρ4 vs) B4 := by
  have e2 : wipe σ2 vs = σ := bd.wp.trans hw
  have s4 := q.st.wipe hm
  rw [e2] at s4
  have sa4 : ∀ a, SA σ (wipeR ρ4 vs) a → SA σ2 ρ4 a := fun a z => sa_wipe (by rw [e2]; exact z)
  have sb : ∀ a, SA σ2 ρ' a → SA σ ρ a := bd.sa
  refine ⟨s4, p.le.trans q.le, fun a o e n b => ?_, fun a z => ?_, fun a z => p.sa a (sb a (q.sa a (sa4 a z))), fun i s e n => ?_, fun a e => p.fr a (q.fr a e)⟩
  · have e1 := p.kp a o e n b
    have nb : ¬ SA σ ρ a := fun z => n (p.sa a z)
    refine q.kp a o e1 (fun z => nb (sb a z)) ?_
    cases qb : B a with
    | none => rfl
    | some u =>
      rcases p.bn a (by rw [qb]; exact fun z => nomatch z) with y | y | y
      · exact absurd b y
      · rw [e] at y; cases y
      · exact absurd y n
  · rcases q.bn a z with y | y | y
    · exact p.bn a y
    · exact .inr (.inl (p.fr a y))
    · exact .inr (.inr (p.sa a (sb a y)))
  · have hi : i ∉ vs := fun z => n (hv i s z e)
    obtain ⟨s1, e1, n1⟩ := p.sl i s e n
    obtain ⟨s2, e2, n2⟩ := q.sl i s1 (by rw [bd.sl i hi]; exact e1) n1
    exact ⟨s2, by rw [wipeR_out hi]; exact e2, n2⟩
def restR (ρ0 ρ : Rho) : List Nat → Rho
  | [] => ρ
  | v :: vs => match ρ0[v]? with
    | some s => (restR ρ0 ρ vs).set v s
    | none => restR ρ0 ρ vs
theorem restR_len {ρ0 ρ : Rho} : ∀ vs : List Nat, (restR ρ0 ρ vs).length = ρ.length
  | [] => rfl
  | v :: vs => by unfold restR; split <;> simp [restR_len vs]
theorem restR_out {ρ0 ρ : Rho} {i : Nat} : ∀ {vs : List Nat}, i ∉ vs → (restR ρ0 ρ vs)[i]? = ρ[i]?
  | [], _ => rfl
  | v :: vs, h => by
    have h1 : v ≠ i := fun z => h (by rw [z]; exact List.mem_cons_self)
    have h2 : i ∉ vs := fun z => h (List.mem_cons_of_mem _ z)
    unfold restR
    split
    · rw [List.getElem?_set_ne h1, restR_out h2]
    · exact restR_out h2
theorem restR_in {ρ0 ρ : Rho} (hl : ρ.length = ρ0.length) {i : Nat} : ∀ {vs : List Nat}, i ∈ vs → (restR ρ0 ρ vs)[i]? = ρ0[i]?
  | v :: vs, h => by
    unfold restR
    by_cases z : v = i
    · subst z
      cases e : ρ0[v]? with
      | none =>
        have : (restR ρ0 ρ vs).length ≤ v := by rw [restR_len, hl]; exact List.getElem?_eq_none_iff.mp e
        exact List.getElem?_eq_none this
      | some s =>
        have : v < (restR ρ0 ρ vs).length := by rw [restR_len, hl]; exact (List.getElem?_eq_some_iff.mp e).1
        exact List.getElem?_set_self this
    · have h2 : i ∈ vs := by rcases List.mem_cons.mp h with rfl | h; exact absurd rfl z; exact h
      split
      · rw [List.getElem?_set_ne z, restR_in hl h2]
      · exact restR_in hl h2
theorem rest_stp {σ : Sg} {H1 H : Hp} {ρ1 ρ : Rho} {vs : List Nat} (s1 : Sta T Y σ H1 ρ1 B1) (hc : coldAt ρ1 vs = true) (p : Stp T Y (wipe σ vs) H1 (wipeR ρ1 vs) B1 H ρ B) : Stp T Y σ H1 ρ1 B1 H (restR ρ1 ρ vs) B := by
  have st := p.st
  have hl : ρ.length = ρ1.length := by rw [← st.len, wipe_length, s1.len]
  have get : ∀ {i : Nat} {t : Sl}, (restR ρ1 ρ vs)[i]? = some t → (i ∈ vs ∧ ρ1[i]? = some t ∧ t.hot = false) ∨ (i ∉ vs ∧ ρ[i]? = some t) := fun {i t} e => by
    by_cases hi : i ∈ vs
    · rw [restR_in hl hi] at e; exact .inl ⟨hi, e, cold_at hc hi e⟩
    · rw [restR_out hi] at e; exact .inr ⟨hi, e⟩
  have sa : ∀ a, SA σ (restR ρ1 ρ vs) a → SA (wipe σ vs) ρ a := fun a ⟨i, t, e, h, ev⟩ => by
    rcases get e with ⟨_, _, h'⟩ | ⟨hi, e'⟩
    · rw [h] at h'; cases h'
    · exact ⟨i, t, e', h, by rw [wipe_out hi]; exact ev⟩
  refine ⟨⟨by rw [restR_len, hl]; exact s1.len, st.sub, st.keep, st.b0, st.bnew, fun i t e => ?_, fun i j t u a e1 e2 h1 h2 v1 v2 => ?_, fun p hp => ?_⟩, p.le, fun a o e n b => p.kp a o e (fun z => n (sa_wipe z)) b, fun a z => ?_, fun a z => sa_wipe (p.sa a (sa a z)), fun i s e n => ?_, p.fr⟩
  · rcases get e with ⟨hi, e', hh⟩ | ⟨hi, e'⟩
    · have so := s1.slot i t e'
      cases t with
      | no => trivial
      | im d => obtain ⟨v, ev, r⟩ := so; exact ⟨v, ev, r.le p.le⟩
      | ow => cases hh
      | mu => cases hh
    · have so := st.slot i t e'
      cases t with
      | no => trivial
      | im d => obtain ⟨v, ev, r⟩ := so; exact ⟨v, by rw [wipe_out hi] at ev; exact ev, r⟩
      | ow d => obtain ⟨v, ev, r⟩ := so; exact ⟨v, by rw [wipe_out hi] at ev; exact ev, r⟩
      | mu d => obtain ⟨v, ev, r⟩ := so; exact ⟨v, by rw [wipe_out hi] at ev; exact ev, r⟩
  · rcases get e1 with ⟨_, _, h'⟩ | ⟨hi, e1'⟩
    · rw [h1] at h'; cases h'
    · rcases get e2 with ⟨_, _, h'⟩ | ⟨hj, e2'⟩
      · rw [h2] at h'; cases h'
      · exact st.dist i j t u a e1' e2' h1 h2 (by rw [wipe_out hi]; exact v1) (by rw [wipe_out hj]; exact v2)
  · obtain ⟨⟨d, e⟩, ev⟩ := st.mus p hp
    have hn := mus_cold s1 hc p hp
    exact ⟨⟨d, by rw [restR_out hn]; exact e⟩, by rw [wipe_out hn] at ev; exact ev⟩
  · rcases p.bn a z with y | y | y
    · exact .inl y
    · exact .inr (.inl y)
    · exact .inr (.inr (sa_wipe y))
  · by_cases hi : i ∈ vs
    · exact ⟨s, by rw [restR_in hl hi]; exact e, n⟩
    · obtain ⟨s', e', n'⟩ := p.sl i s (by rw [wipeR_out hi]; exact e) n
      exact ⟨s', by rw [restR_out hi]; exact e', n'⟩
end
end Pu
namespace Pu
open PySem PySem.Spec PyProof.Rows L2
section
variable {T : Tb} {X : Cx} {W : WX} {Y : Fc} {B B1 B2 : Hp} {a b c e o iter tg elt kx vx : Expr} {ifs : List Expr} {pos apos p pos' : Pos} {fe fk fv : EF} {tst : TF} {fi : IF} {nt : Nt} {vs : List Nat}
def Wd : WX := fun _ _ _ _ => False
theorem takes_blk {s : Shared} {H : Hp} {scope : Scope} {env : PySem.Env} {fp : List Addr} : Takes (X.blk s H scope env fp) Wd := fun u s' ⟨_, _, _, _, _, _, _, _, _, _, _, _, _, _, _, _, w⟩ => w
def tYesF : TF := fun ρ => .ok true ρ
def lcGo (nt : Nt) (tst : TF) (fe : EF) (vs : List Nat) : List D → List D → Rho → Option (List D × Rho)
  | [], acc, ρ => some (acc, ρ)
  | d :: ds, acc, ρ => match bindD nt d ρ with
    | some ρ1 => (match tst ρ1 with
      | .ok true ρ2 => (match fe ρ2 with
        | .ok r ρ3 => (match stl ρ3 r with
          | some (x, ρ4) => if acc.length < sizeLine then lcGo nt tst fe vs ds (acc ++ [x]) (wipeR ρ4 vs) else none
          | none => none)
        | _ => none)
      | .ok false ρ2 => lcGo nt tst fe vs ds acc (wipeR ρ2 vs)
      | _ => none)
    | none => none
def eLc (fi : IF) (nt : Nt) (tst : TF) (fe : EF) (vs : List Nat) : EF := fun ρ => (fi ρ).bind fun ds ρ1 => if coldAt ρ1 vs = true then (match lcGo nt tst fe vs ds [] (wipeR ρ1 vs) with
  | some (out, ρ2) => .ok (.ow (.lst out)) (restR ρ1 ρ2 vs)
  | none => .bad) else .bad
theorem wipe_idem {σ : Sg} : wipe (wipe σ vs) vs = wipe σ vs := by
  have key : ∀ (τ : Sg) {us : List Nat} {j : Nat}, j ∈ us → (wipe τ us)[j]? = if j < τ.length then some none else none := fun τ {us j} => by
    induction us with
    | nil => intro h; cases h
    | cons u us ih =>
      intro h
      unfold wipe
      by_cases q : u = j
      · subst q; simp [List.getElem?_set, wipe_length]
      · rw [List.getElem?_set_ne q]
        rcases List.mem_cons.mp h with rfl | h
        · exact absurd rfl q
        · exact ih h
  apply List.ext_getElem?
  intro j
  by_cases hj : j ∈ vs
  · rw [key _ hj, key _ hj, wipe_length]
  · rw [wipe_out hj]
/-- what the new object D keeps through a step -/
theorem keepD {σ : Sg} {H H' : Hp} {ρ ρ' : Rho} {B' : Hp} {D : Addr} {o : HO} (p : Stp T Y σ H ρ B H' ρ' B') (hD : H D = some o) (bn : B D = none) (ns : ¬ SA σ ρ D) : H' D = some o ∧ B' D = none := by
  refine ⟨p.kp D o hD ns bn, ?_⟩
  cases q : B' D with
  | none => rfl
  | some u =>
    rcases p.bn D (by rw [q]; exact fun z => nomatch z) with y | y | y
    · exact absurd bn y
    · rw [hD] at y; cases y
    · exact absurd y ns
theorem lc_run {W : WX} (hix : ∀ i ∈ nt.ix, i ∈ vs) {σ : Sg} {H : Hp} {Q : VK} (h : tE T W (eLc fi nt tst fe vs) σ H Q) : tLc (tI T W fi) (tN T nt) (tT T Wd tst) (tE T Wd fe) vs σ H Q := by
  obtain ⟨Y, ρ, B, st, h⟩ := h
  refine ⟨Y, ρ, B, st, h.bind.imp fun ds ρ1 h1 J H1 B1 p ok D hD => ?_⟩
  split at h1
  · rename_i hc
    split at h1
    · rename_i out ρf eg
      have s1 := p.st
      have hm := mus_cold s1 hc
      have sb := s1.wipe hm
      have nsb : ¬ SA (wipe σ vs) (wipeR ρ1 vs) D := (sb.fresh (o := .own 0) hD).2.1
      have bnb : B1 D = none := (sb.fresh (o := .own 0) hD).1
      have hv : ∀ (i : Nat) (s : Sl), i ∈ vs → (wipeR ρ1 vs)[i]? = some s → s = .no := fun i s hi e => wipeR_in hi e
      let Wi : Nat → Hp → Prop := fun i H => ∃ ρc Bc accV acc, Stp T Y (wipe σ vs) H1 (wipeR ρ1 vs) B1 H ρc Bc ∧ H D = some (.lst accV) ∧ RepL T Bc accV acc ∧ Bc D = none ∧ i ≤ ds.length ∧ lcGo nt tst fe vs (ds.drop i) acc ρc = some (out, ρf)
      refine ⟨fun i m H => m = ds.length - i ∧ Wi i H, ⟨_, rfl, wipeR ρ1 vs, B1, [], [], Stp.laid sb hD, upd_same, .nil, bnb, Nat.zero_le _, eg⟩, fun i m Hc ⟨em, ρc, Bc, accV, acc, pst, hDc, rl, bD, hi, go⟩ => ?_⟩
      have nsc : ¬ SA (wipe σ vs) ρc D := fun z => nsb (pst.sa D z)
      by_cases hlt : i < ds.length
      · right
        refine ⟨ok.go i Hc Bc pst.le pst.st.sub hlt, Wi (i + 1), fun H' w => ⟨ds.length - (i + 1), by omega, rfl, w⟩, fun x H' hy => ?_⟩
        have ed : ds.drop i = ds[i] :: ds.drop (i + 1) := List.drop_eq_getElem_cons hlt
        rw [ed] at go
        unfold lcGo at go
        obtain ⟨B', py, rx⟩ := ok.yld i Hc H' Bc x Y (wipe σ vs) ρc ds[i] pst.le pst.st (List.getElem?_eq_getElem hlt) hy
        have pst' := pst.trans py
        obtain ⟨hD', bD'⟩ := keepD py hDc bD nsc
        split at go
        · rename_i ρ2 eb
          refine bind_ok pst'.st rx eb hix fun σ2 bd => ⟨bd.wp.trans rfl |>.trans wipe_idem, ?_⟩
          have ns2 : ¬ SA σ2 ρ2 D := fun z => nsc (bd.sa D z)
          refine ⟨Y, ρ2, B', bd.st, ?_⟩
          split at go
          · rename_i ρ3 et
            rw [et]
            intro H3 B3 q3
            rw [if_pos rfl]
            refine ⟨Y, ρ3, B3, q3.st, ?_⟩
            split at go
            · rename_i r ρ4 ee
              rw [ee]
              intro v H4 B4 pe
              split at go
              · rename_i xd ρ5 es
                split at go
                · rename_i hz
                  have q4 := q3.trans pe.stp
                  obtain ⟨hD4, bD4⟩ := keepD q4 hD' bD' ns2
                  obtain ⟨hD3, bD3⟩ := keepD q3 hD' bD' ns2
                  have ns4 : ¬ SA σ2 ρ4 D := fun z => ns2 (q4.sa D z)
                  obtain ⟨B5, q5, rp, l5, b5, _⟩ := stl_step q4 pe.val (fun d a e1 e2 => q3.fr a (pe.new d a e1 e2)) es
                  have bD5 : B5 D = none := by
                    cases z : B5 D with
                    | none => rfl
                    | some u =>
                      rcases b5 D (by rw [z]; exact fun z => nomatch z) with y | ⟨ev, ⟨d, er⟩ | y⟩
                      · exact absurd bD4 y
                      · have := pe.new d D er ev
                        rw [hD3] at this; cases this
                      · exact absurd y ns4
                  refine ⟨accV, hD4, by rw [rl.length]; exact hz, wipeR ρ5 vs, B5, accV ++ [v], acc ++ [xd], ?_, upd_same, (rl.le (py.le.trans q5.le)).append (.cons rp .nil), bD5, hlt, go⟩
                  exact Stp.touch sb (turn_stp pst' wipe_idem bd q5 hm hv) hD bD5
                · cases go
              · cases go
            · cases go
          · rename_i ρ3 et
            rw [et]
            intro H3 B3 q3
            rw [if_neg (by simp)]
            obtain ⟨hD3, bD3⟩ := keepD q3 hD' bD' ns2
            exact ⟨wipeR ρ3 vs, B3, accV, acc, turn_stp pst' wipe_idem bd q3 hm hv, hD3, rl.le (py.le.trans q3.le), bD3, hlt, go⟩
          · cases go
        · cases go
      · left
        have hi2 : i = ds.length := by omega
        rw [hi2, List.drop_length] at go
        cases go
        refine ⟨ok.stop i Hc Bc pst.le pst.st.sub (by omega), ?_⟩
        have rs := rest_stp s1 hc pst
        refine h1 (.ref D) Hc Bc ⟨p.trans rs, ⟨D, rfl, bD, ⟨accV, hDc, rl⟩, fun z => ?_, (s1.h0 hD).1, (s1.h0 hD).2⟩, fun d a _ e2 => by cases e2; exact p.fr D hD⟩
        exact (s1.fresh (o := .own 0) hD).2.1 (rs.sa D z)
    · exact h1.elim
  · exact h1.elim
/-- what is known of the block -/
structure BlkJ (T : Tb) (X : Cx) (scope : Scope) (own : List (Str × Nat)) (tg : Expr) (ifs : List Expr) (nt : Nt) (tst : TF) : Prop where
  ok : BlkOk X.N X.env.scope scope own
  tg : ∀ (s : Shared) (H : Hp) (C : Addr) (cl : List (Str × Addr)) (fp : List Addr), PG (X.blk s H scope (compEnvC scope cl C X.env) fp) tg (tN T nt)
  ts : ∀ (s : Shared) (H : Hp) (C : Addr) (cl : List (Str × Addr)) (fp : List Addr), PTs (X.blk s H scope (compEnvC scope cl C X.env) fp) ifs (tT T Wd tst)
theorem je_lc {scope : Scope} {own : List (Str × Nat)} (hc : X.calm = true) (hN : X.N.Nodup) (hi : JI T X tg iter fi) (bj : BlkJ T X scope own tg ifs nt tst) (hix : ∀ i ∈ nt.ix, i ∈ own.map (·.2)) (he : ∀ (s : Shared) (H : Hp) (C : Addr) (cl : List (Str × Addr)) (fp : List Addr), JE T (X.blk s H scope (compEnvC scope cl C X.env) fp) elt fe) (hs : isSet iter = false) :
    JE T X (.ListComp elt [⟨tg, iter, ifs, 0⟩] scope pos) (eLc fi nt tst fe (own.map (·.2))) := fun W tk =>
  PE.imp (pe_lc hc hN (hi W tk) bj.ok bj.tg bj.ts (fun s H C cl fp => he s H C cl fp Wd takes_blk) (by intro x; cases iter <;> first | rfl | cases hs)) fun σ H Q h => lc_run hix h
/-- name = [..] on one line -/
theorem tAsg_mono {te : TE} {te' : TE} {g g' : TG} {D : Ends} {σ : Sg} {H : Hp} (h1 : ∀ σ H Q, te' σ H Q → te σ H Q) (h : tAsg te' g D σ H) : tAsg te g D σ H := h1 _ _ _ h
theorem gName_of {i : Nat} {v : V} {σ : Sg} {H : Hp} {Q : Sg → Hp → Prop} (h : tG T (gNam i) v σ H Q) : gName i v σ H Q := by
  obtain ⟨Y, ρ, B, r, ρ', st, vr, fr, eg, k⟩ := h
  obtain ⟨s0, s, h1, h2, h3, rfl⟩ := gNam_ok eg
  exact k _ _ _ (set_sta st h1 h2 vr h3)
theorem tE_mono {W : WX} {fa : EF} {σ : Sg} {H : Hp} {Q Q' : VK} (h : tE T W fa σ H Q) (k : ∀ v H', Q v H' → Q' v H') : tE T W fa σ H Q' := by
  obtain ⟨Y, ρ, B, st, h⟩ := h
  exact ⟨Y, ρ, B, st, h.imp fun r ρ1 h1 v H1 B1 p => k _ _ (h1 v H1 B1 p)⟩
theorem js_setLc {i : Nat} {y : Str} {py spos : Pos} {scope : Scope} {own : List (Str × Nat)} (hc : X.calm = true) (hN : X.N.Nodup) (hy : X.N[i]? = some y) (hyl : X.env.scope.names.lookup y = some .local) (hsw : swapsWith (.ListComp elt [⟨tg, iter, ifs, 0⟩] scope pos) (some (.Name y py)) spos.line X.env = pure true)
    (hi : JI T X tg iter fi) (bj : BlkJ T X scope own tg ifs nt tst) (hix : ∀ i ∈ nt.ix, i ∈ own.map (·.2)) (he : ∀ (s : Shared) (H : Hp) (C : Addr) (cl : List (Str × Addr)) (fp : List Addr), JE T (X.blk s H scope (compEnvC scope cl C X.env) fp) elt fe) (hs : isSet iter = false) :
    JS T X (.Assign [.Name y py] (.ListComp elt [⟨tg, iter, ifs, 0⟩] scope pos) spos) (sAsg (gNam i) (eLc fi nt tst fe (own.map (·.2)))) := fun W tk =>
  PS.imp (ps_setLc hc hN hy hyl hsw (hi W tk) bj.ok bj.tg bj.ts (fun s H C cl fp => he s H C cl fp Wd takes_blk) (by intro x; cases iter <;> first | rfl | cases hs)) fun D σ H h => lc_run hix (tE_mono (asg_of h) fun v H' q => gName_of q)
def dcGo (nt : Nt) (tst : TF) (fk fv : EF) (vs : List Nat) : List D → List (Key × D) → Rho → Option (List (Key × D) × Rho)
  | [], acc, ρ => some (acc, ρ)
  | d :: ds, acc, ρ => match bindD nt d ρ with
    | some ρ1 => (match tst ρ1 with
      | .ok true ρ2 => (match fk ρ2 with
        | .ok rk ρ3 => (match (rdv ρ3 rk).bind keyD with
          | some k => (match fv ρ3 with
            | .ok r ρ4 => (match stl ρ4 r with
              | some (x, ρ5) => if acc.length < sizeLine then dcGo nt tst fk fv vs ds (putD acc k x) (wipeR ρ5 vs) else none
              | none => none)
            | _ => none)
          | none => none)
        | _ => none)
      | .ok false ρ2 => dcGo nt tst fk fv vs ds acc (wipeR ρ2 vs)
      | _ => none)
    | none => none
def eDc (fi : IF) (nt : Nt) (tst : TF) (fk fv : EF) (vs : List Nat) : EF := fun ρ => (fi ρ).bind fun ds ρ1 => if coldAt ρ1 vs = true then (match dcGo nt tst fk fv vs ds [] (wipeR ρ1 vs) with
  | some (out, ρ2) => .ok (.ow (.dic out)) (restR ρ1 ρ2 vs)
  | none => .bad) else .bad
theorem dc_run {W : WX} (hix : ∀ i ∈ nt.ix, i ∈ vs) {σ : Sg} {H : Hp} {Q : VK} (h : tE T W (eDc fi nt tst fk fv vs) σ H Q) : tDc (tI T W fi) (tN T nt) (tT T Wd tst) (tE T Wd fk) (tE T Wd fv) vs σ H Q := by
  obtain ⟨Y, ρ, B, st, h⟩ := h
  refine ⟨Y, ρ, B, st, h.bind.imp fun ds ρ1 h1 J H1 B1 p ok D hD => ?_⟩
  split at h1
  · rename_i hc
    split at h1
    · rename_i out ρf eg
      have s1 := p.st
      have hm := mus_cold s1 hc
      have sb := s1.wipe hm
      have nsb : ¬ SA (wipe σ vs) (wipeR ρ1 vs) D := (sb.fresh (o := .own 0) hD).2.1
      have bnb : B1 D = none := (sb.fresh (o := .own 0) hD).1
      have hv : ∀ (i : Nat) (s : Sl), i ∈ vs → (wipeR ρ1 vs)[i]? = some s → s = .no := fun i s hi e => wipeR_in hi e
      let Wi : Nat → Hp → Prop := fun i H => ∃ ρc Bc accV acc, Stp T Y (wipe σ vs) H1 (wipeR ρ1 vs) B1 H ρc Bc ∧ H D = some (.dK accV) ∧ RepK T Bc accV acc ∧ Bc D = none ∧ i ≤ ds.length ∧ dcGo nt tst fk fv vs (ds.drop i) acc ρc = some (out, ρf)
      refine ⟨fun i m H => m = ds.length - i ∧ Wi i H, ⟨_, rfl, wipeR ρ1 vs, B1, [], [], Stp.laid sb hD, upd_same, .nil, bnb, Nat.zero_le _, eg⟩, fun i m Hc ⟨em, ρc, Bc, accV, acc, pst, hDc, rl, bD, hi, go⟩ => ?_⟩
      have nsc : ¬ SA (wipe σ vs) ρc D := fun z => nsb (pst.sa D z)
      by_cases hlt : i < ds.length
      · right
        refine ⟨ok.go i Hc Bc pst.le pst.st.sub hlt, Wi (i + 1), fun H' w => ⟨ds.length - (i + 1), by omega, rfl, w⟩, fun x H' hy => ?_⟩
        have ed : ds.drop i = ds[i] :: ds.drop (i + 1) := List.drop_eq_getElem_cons hlt
        rw [ed] at go
        unfold dcGo at go
        obtain ⟨B', py, rx⟩ := ok.yld i Hc H' Bc x Y (wipe σ vs) ρc ds[i] pst.le pst.st (List.getElem?_eq_getElem hlt) hy
        have pst' := pst.trans py
        obtain ⟨hD', bD'⟩ := keepD py hDc bD nsc
        split at go
        · rename_i ρ2 eb
          refine bind_ok pst'.st rx eb hix fun σ2 bd => ⟨bd.wp.trans rfl |>.trans wipe_idem, ?_⟩
          have ns2 : ¬ SA σ2 ρ2 D := fun z => nsc (bd.sa D z)
          refine ⟨Y, ρ2, B', bd.st, ?_⟩
          split at go
          · rename_i ρ3 et
            rw [et]
            intro H3 B3 q3
            rw [if_pos rfl]
            refine ⟨Y, ρ3, B3, q3.st, ?_⟩
            split at go
            · rename_i rk ρ4 ek
              rw [ek]
              intro kv H4 B4 pk
              split at go
              · rename_i k ekd
                obtain ⟨kd, ekd, ekk⟩ := Option.bind_eq_some_iff.mp ekd
                have ekv : kv = kV k := (pk.val.top pk.stp.st ekd).key ekk
                refine ⟨Y, ρ4, B4, pk.stp.st, ?_⟩
                split at go
                · rename_i r ρ5 ee
                  rw [ee]
                  intro v H5 B5 pe
                  split at go
                  · rename_i xd ρ6 es
                    split at go
                    · rename_i hz
                      have q4 := q3.trans pk.stp
                      have q5 := q4.trans pe.stp
                      obtain ⟨hD5, bD5⟩ := keepD q5 hD' bD' ns2
                      obtain ⟨hD4, bD4⟩ := keepD q4 hD' bD' ns2
                      have ns5 : ¬ SA σ2 ρ5 D := fun z => ns2 (q5.sa D z)
                      obtain ⟨B6, q6, rp, l6, b6, _⟩ := stl_step q5 pe.val (fun d a e1 e2 => q4.fr a (pe.new d a e1 e2)) es
                      have bD6 : B6 D = none := by
                        cases z : B6 D with
                        | none => rfl
                        | some u =>
                          rcases b6 D (by rw [z]; exact fun z => nomatch z) with y | ⟨ev, ⟨d, er⟩ | y⟩
                          · exact absurd bD5 y
                          · have := pe.new d D er ev
                            rw [hD4] at this; cases this
                          · exact absurd y ns5
                      refine ⟨accV, k, ekv, hD5, by rw [rl.length]; exact hz, wipeR ρ6 vs, B6, putK accV k v, putD acc k xd, ?_, upd_same, (rl.le (py.le.trans q6.le)).put rp, bD6, hlt, go⟩
                      exact Stp.touch sb (turn_stp pst' wipe_idem bd q6 hm hv) hD bD6
                    · cases go
                  · cases go
                · cases go
              · cases go
            · cases go
          · rename_i ρ3 et
            rw [et]
            intro H3 B3 q3
            rw [if_neg (by simp)]
            obtain ⟨hD3, bD3⟩ := keepD q3 hD' bD' ns2
            exact ⟨wipeR ρ3 vs, B3, accV, acc, turn_stp pst' wipe_idem bd q3 hm hv, hD3, rl.le (py.le.trans q3.le), bD3, hlt, go⟩
          · cases go
        · cases go
      · left
        have hi2 : i = ds.length := by omega
        rw [hi2, List.drop_length] at go
        cases go
        refine ⟨ok.stop i Hc Bc pst.le pst.st.sub (by omega), ?_⟩
        have rs := rest_stp s1 hc pst
        refine h1 (.ref D) Hc Bc ⟨p.trans rs, ⟨D, rfl, bD, ⟨accV, hDc, rl⟩, fun z => ?_, (s1.h0 hD).1, (s1.h0 hD).2⟩, fun d a _ e2 => by cases e2; exact p.fr D hD⟩
        exact (s1.fresh (o := .own 0) hD).2.1 (rs.sa D z)
    · exact h1.elim
  · exact h1.elim
theorem je_dc {scope : Scope} {own : List (Str × Nat)} (hc : X.calm = true) (hN : X.N.Nodup) (hi : JI T X tg iter fi) (bj : BlkJ T X scope own tg ifs nt tst) (hix : ∀ i ∈ nt.ix, i ∈ own.map (·.2)) (hk : ∀ (s : Shared) (H : Hp) (C : Addr) (cl : List (Str × Addr)) (fp : List Addr), JE T (X.blk s H scope (compEnvC scope cl C X.env) fp) kx fk) (hv : ∀ (s : Shared) (H : Hp) (C : Addr) (cl : List (Str × Addr)) (fp : List Addr), JE T (X.blk s H scope (compEnvC scope cl C X.env) fp) vx fv) (hs : isSet iter = false) :
    JE T X (.DictComp kx vx [⟨tg, iter, ifs, 0⟩] scope pos) (eDc fi nt tst fk fv (own.map (·.2))) := fun W tk =>
  PE.imp (pe_dc hc hN (hi W tk) bj.ok bj.tg bj.ts (fun s H C cl fp => hk s H C cl fp Wd takes_blk) (fun s H C cl fp => hv s H C cl fp Wd takes_blk) (by intro x; cases iter <;> first | rfl | cases hs)) fun σ H Q h => dc_run hix h
theorem ps_setDc {i : Nat} {y : Str} {py : Pos} {scope : Scope} {own : List (Str × Nat)} {spos : Pos} {wi : TI} {g : TG} {tt : TT} {tk tv : TE} (hc : X.calm = true) (hN : X.N.Nodup) (hy : X.N[i]? = some y) (hyl : X.env.scope.names.lookup y = some .local)
    (hsw : swapsWith (.DictComp kx vx [⟨tg, iter, ifs, 0⟩] scope pos) (some (.Name y py)) spos.line X.env = pure true) (hi : PI X tg iter wi) (ok : BlkOk X.N X.env.scope scope own)
    (hg : ∀ (s : Shared) (H : Hp) (C : Addr) (cl : List (Str × Addr)) (fp : List Addr), PG (X.blk s H scope (compEnvC scope cl C X.env) fp) tg g) (ht : ∀ (s : Shared) (H : Hp) (C : Addr) (cl : List (Str × Addr)) (fp : List Addr), PTs (X.blk s H scope (compEnvC scope cl C X.env) fp) ifs tt)
    (hk : ∀ (s : Shared) (H : Hp) (C : Addr) (cl : List (Str × Addr)) (fp : List Addr), PE (X.blk s H scope (compEnvC scope cl C X.env) fp) kx tk) (he : ∀ (s : Shared) (H : Hp) (C : Addr) (cl : List (Str × Addr)) (fp : List Addr), PE (X.blk s H scope (compEnvC scope cl C X.env) fp) vx tv) (hs : ∀ x, foldedSetIterable iter X.env x = pure x) :
    PS X (.Assign [.Name y py] (.DictComp kx vx [⟨tg, iter, ifs, 0⟩] scope pos) spos) (tAsg (tDc wi g tt tk tv (own.map (·.2))) (gName i)) := by
  refine ⟨fun pins s σ H D I h => ?_⟩
  rw [exec_Assign_Name_used _ _ _ _ hsw]
  refine wpAny_bind (wpAny_standAt (wpAny_bind ?_))
  show wpAny _ X.A (do let _ ← comprehension (.DictComp kx vx [⟨tg, iter, ifs, 0⟩] scope pos) scope X.env (firstIterPos [⟨tg, iter, ifs, 0⟩] pos) newDict false (eval iter X.env) (some (assign (.Name y py) X.env))) _ _ s
  have h : tDc wi g tt tk tv (own.map (·.2)) σ H (fun x H1 => gName i x σ H1 D.nx) := h
  refine wpAny_bind (thn (dc_core (Qf := fun _ s' => SP X pins D .next s') hc hN I hi ok hg ht hk he hs h fun L C s' m H' I' q hn f => ?_) fun _ s' hq => wpAny_pure (wpAny_pure hq))
  show wpAny _ _ (assign (.Name y py) X.env (.ref L)) _ _ _
  refine wpAny_assign_Name (store_ok2 (v := V.ref L) I' hN hy (.inl hyl) rfl (fun s2 I2 ⟨a, sb, ha⟩ => ?_) (.inr hyl))
  obtain ⟨f0, f1, f2, f3, f4, f5⟩ := f
  have haC : C ≠ a := by
    rcases ha with z | z
    · rw [z]; exact f1
    · exact fun e => f4 y a z e.symm
  refine ⟨m, hn.sameBut sb haC, fun h3 sb3 => ?_⟩
  exact ⟨_, H', I2.turned (t' := s2.toks) (fun b o hb e => (sb3.2 b hb).trans e) f0 f1 f3 f4 f5, q⟩
theorem js_setDc {i : Nat} {y : Str} {py spos : Pos} {scope : Scope} {own : List (Str × Nat)} (hc : X.calm = true) (hN : X.N.Nodup) (hy : X.N[i]? = some y) (hyl : X.env.scope.names.lookup y = some .local) (hsw : swapsWith (.DictComp kx vx [⟨tg, iter, ifs, 0⟩] scope pos) (some (.Name y py)) spos.line X.env = pure true)
    (hi : JI T X tg iter fi) (bj : BlkJ T X scope own tg ifs nt tst) (hix : ∀ i ∈ nt.ix, i ∈ own.map (·.2)) (hk : ∀ (s : Shared) (H : Hp) (C : Addr) (cl : List (Str × Addr)) (fp : List Addr), JE T (X.blk s H scope (compEnvC scope cl C X.env) fp) kx fk) (hv : ∀ (s : Shared) (H : Hp) (C : Addr) (cl : List (Str × Addr)) (fp : List Addr), JE T (X.blk s H scope (compEnvC scope cl C X.env) fp) vx fv) (hs : isSet iter = false) :
    JS T X (.Assign [.Name y py] (.DictComp kx vx [⟨tg, iter, ifs, 0⟩] scope pos) spos) (sAsg (gNam i) (eDc fi nt tst fk fv (own.map (·.2)))) := fun W tk =>
  PS.imp (ps_setDc hc hN hy hyl hsw (hi W tk) bj.ok bj.tg bj.ts (fun s H C cl fp => hk s H C cl fp Wd takes_blk) (fun s H C cl fp => hv s H C cl fp Wd takes_blk) (by intro x; cases iter <;> first | rfl | cases hs)) fun D σ H h => dc_run hix (tE_mono (asg_of h) fun v H' q => gName_of q)
end
end Pu
namespace Pu
open PySem PySem.Spec PyProof.Rows L2
def slD (b : Bool) (d : D) : Sl := if b = true then .mu d else .im d
def slotsOf : List Bool → List D → Rho
  | b :: fl, d :: ds => slD b d :: slotsOf fl ds
  | _, _ => []
def startR (n : Nat) (fl : List Bool) (ds : List D) : Rho := slotsOf fl ds ++ List.replicate (n - ds.length) .no
def muD : Option Sl → D
  | some (.mu d) => d
  | _ => .non
def musOf : Nat → List Bool → Rho → List D
  | _, [], _ => []
  | k, true :: fl, ρ => muD ρ[k]? :: musOf (k + 1) fl ρ
  | k, false :: fl, ρ => musOf (k + 1) fl ρ
def Rt.out (fl : List Bool) : Rt → Out
  | .nx ρ => .ok (.im .non) (musOf 0 fl ρ)
  | .rt (.im d) ρ => .ok (.im d) (musOf 0 fl ρ)
  | .rt (.ow d) ρ => .ok (.ow d) (musOf 0 fl ρ)
  | .rt (.bo i) ρ => (match ρ[i]? with
    | some (.im d) => .ok (.im d) (musOf 0 fl ρ)
    | some (.ow d) => .ok (.ow d) (musOf 0 fl ρ)
    | _ => .bad)
  | .exc c fs ρ => .exc c fs (musOf 0 fl ρ)
  | _ => .bad
/-- what a def with n names, flags fl, body f computes -/
def runF (n : Nat) (fl : List Bool) (f : SF) (ds : List D) : Out := if ds.length = fl.length then (f (startR n fl ds)).out fl else .bad
section
variable {T : Tb} {H B : Hp}
theorem Ars.len : ∀ {fl : List Bool} {vs : List V} {ds : List D} {as : List Addr}, Ars T H B fl vs ds as → vs.length = fl.length ∧ ds.length = fl.length
  | _, _, _, _, .nil => ⟨rfl, rfl⟩
  | _, _, _, _, .im _ t => ⟨congrArg Nat.succ t.len.1, congrArg Nat.succ t.len.2⟩
  | _, _, _, _, .mu _ _ _ t => ⟨congrArg Nat.succ t.len.1, congrArg Nat.succ t.len.2⟩
/-- the lent objects by their places -/
def pairsOf : Nat → List Bool → List V → List (Nat × Addr)
  | k, true :: fl, .ref a :: vs => (k, a) :: pairsOf (k + 1) fl vs
  | k, _ :: fl, _ :: vs => pairsOf (k + 1) fl vs
  | _, _, _ => []
theorem pairs_snd : ∀ {fl : List Bool} {vs : List V} {ds : List D} {as : List Addr} {k : Nat}, Ars T H B fl vs ds as → (pairsOf k fl vs).map (·.2) = as
  | _, _, _, _, _, .nil => rfl
  | _, _, _, _, k, .im (v := v) _ t => by
    have ih := pairs_snd (k := k + 1) t
    cases v <;> exact ih
  | _, _, _, _, k, .mu _ _ _ t => congrArg _ (pairs_snd (k := k + 1) t)
/-- at each place -/
theorem Ars.at : ∀ {fl : List Bool} {vs : List V} {ds : List D} {as : List Addr} {k : Nat}, Ars T H B fl vs ds as → ∀ (i : Nat) (s : Sl), (slotsOf fl ds)[i]? = some s → ∃ v, vs[i]? = some v ∧ ((∃ d, s = .im d ∧ Rep T B v d) ∨ ∃ a d, s = .mu d ∧ v = .ref a ∧ a ∈ as ∧ B a = none ∧ OwnAt T H B a d ∧ (k + i, a) ∈ pairsOf k fl vs)
  | _, _, _, _, _, .nil => fun i s e => by simp [slotsOf] at e
  | _, _, _, _, k, .im (v := v) (fl := fl) (vs := vs) r t => fun i s e => by
    have sub : ∀ p, p ∈ pairsOf (k + 1) fl vs → p ∈ pairsOf k (false :: fl) (v :: vs) := fun p h => by cases v <;> exact h
    cases i with
    | zero => simp [slotsOf, slD] at e; subst e; exact ⟨_, rfl, .inl ⟨_, rfl, r⟩⟩
    | succ i =>
      obtain ⟨w, e1, h⟩ := Ars.at (k := k + 1) t i s (by simpa [slotsOf] using e)
      refine ⟨w, by simpa using e1, h.imp id ?_⟩
      rintro ⟨a, d, h1, h2, h3, h4, h5, h6⟩
      exact ⟨a, d, h1, h2, h3, h4, h5, by rw [show k + (i + 1) = k + 1 + i by omega]; exact sub _ h6⟩
  | _, _, _, _, k, .mu (a := a) b o n t => fun i s e => by
    cases i with
    | zero => simp [slotsOf, slD] at e; subst e; exact ⟨_, rfl, .inr ⟨a, _, rfl, rfl, List.mem_cons_self, b, o, List.mem_cons_self⟩⟩
    | succ i =>
      obtain ⟨w, e1, h⟩ := Ars.at (k := k + 1) t i s (by simpa [slotsOf] using e)
      refine ⟨w, by simpa using e1, h.imp id ?_⟩
      rintro ⟨a', d, h1, h2, h3, h4, h5, h6⟩
      exact ⟨a', d, h1, h2, List.mem_cons_of_mem _ h3, h4, h5, by rw [show k + (i + 1) = k + 1 + i by omega]; exact List.mem_cons_of_mem _ h6⟩
theorem slots_len : ∀ {fl : List Bool} {ds : List D}, ds.length = fl.length → (slotsOf fl ds).length = ds.length
  | [], [], _ => rfl
  | b :: fl, d :: ds, h => by unfold slotsOf; rw [List.length_cons, List.length_cons, slots_len (Nat.succ.inj h)]
  | [], _ :: _, h => by cases h
  | _ :: _, [], h => by cases h
theorem Ars.hotIn {fl : List Bool} {vs : List V} {ds : List D} {as : List Addr} (u : Ars T H B fl vs ds as) {i : Nat} {s : Sl} {a : Addr} (e : (slotsOf fl ds)[i]? = some s) (h : s.hot = true) (ev : vs[i]? = some (.ref a)) : a ∈ as := by
  obtain ⟨w, e1, h'⟩ := Ars.at (k := 0) u i s e
  rcases h' with ⟨d, rfl, _⟩ | ⟨a', d, _, rfl, m, _⟩
  · cases h
  · rw [ev] at e1; cases e1; exact m
/-- two lent places of one object are one -/
theorem Ars.dist : ∀ {fl : List Bool} {vs : List V} {ds : List D} {as : List Addr}, Ars T H B fl vs ds as → ∀ (i j : Nat) (s t : Sl) (a : Addr), (slotsOf fl ds)[i]? = some s → (slotsOf fl ds)[j]? = some t → s.hot = true → t.hot = true → vs[i]? = some (.ref a) → vs[j]? = some (.ref a) → i = j
  | _, _, _, _, .nil => fun i j s t a e => by simp [slotsOf] at e
  | _, _, _, _, .im r u => fun i j s t a e1 e2 h1 h2 v1 v2 => by
    cases i with
    | zero => simp [slotsOf, slD] at e1; subst e1; cases h1
    | succ i =>
      cases j with
      | zero => simp [slotsOf, slD] at e2; subst e2; cases h2
      | succ j => exact congrArg Nat.succ (u.dist i j s t a (by simpa [slotsOf] using e1) (by simpa [slotsOf] using e2) h1 h2 (by simpa using v1) (by simpa using v2))
  | _, _, _, _, .mu (a := b) (as := as) bn o n u => fun i j s t a e1 e2 h1 h2 v1 v2 => by
    cases i with
    | zero =>
      cases j with
      | zero => rfl
      | succ j =>
        simp at v1
        rw [← v1] at v2
        exact absurd (u.hotIn (by simpa [slotsOf] using e2) h2 (by simpa using v2)) n
    | succ i =>
      cases j with
      | zero =>
        simp at v2
        rw [← v2] at v1
        exact absurd (u.hotIn (by simpa [slotsOf] using e1) h1 (by simpa using v1)) n
      | succ j => exact congrArg Nat.succ (u.dist i j s t a (by simpa [slotsOf] using e1) (by simpa [slotsOf] using e2) h1 h2 (by simpa using v1) (by simpa using v2))
/-- each lent place stands among the slots -/
theorem Ars.pair : ∀ {fl : List Bool} {vs : List V} {ds : List D} {as : List Addr} {k : Nat}, Ars T H B fl vs ds as → ∀ p ∈ pairsOf k fl vs, ∃ i d, p.1 = k + i ∧ (slotsOf fl ds)[i]? = some (.mu d) ∧ vs[i]? = some (.ref p.2)
  | _, _, _, _, _, .nil => fun p h => by cases h
  | _, _, _, _, k, .im (v := v) (fl := fl) (vs := vs) r u => fun p h => by
    have h' : p ∈ pairsOf (k + 1) fl vs := by cases v <;> exact h
    obtain ⟨i, d, e1, e2, e3⟩ := u.pair p h'
    exact ⟨i + 1, d, by omega, by simpa [slotsOf] using e2, by simpa using e3⟩
  | _, _, _, _, k, .mu (d := d) bn o n u => fun p h => by
    rcases List.mem_cons.mp h with rfl | h
    · exact ⟨0, d, rfl, by simp [slotsOf, slD], rfl⟩
    · obtain ⟨i, d, e1, e2, e3⟩ := u.pair p h
      exact ⟨i + 1, d, by omega, by simpa [slotsOf] using e2, by simpa using e3⟩
theorem start_get {n : Nat} {vs : List V} {N : List Str} {i : Nat} {v : V} (h : vs[i]? = some v) : (L2.start N vs)[i]? = some (some v) := by
  unfold L2.start
  have hl : i < vs.length := (List.getElem?_eq_some_iff.mp h).1
  rw [List.getElem?_append_left (by rw [List.length_map]; exact hl), List.getElem?_map, h]; rfl
theorem startR_get {n : Nat} {fl : List Bool} {ds : List D} (hl : ds.length = fl.length) {i : Nat} {s : Sl} (h : (startR n fl ds)[i]? = some s) : (slotsOf fl ds)[i]? = some s ∨ s = .no := by
  unfold startR at h
  by_cases hi : i < (slotsOf fl ds).length
  · rw [List.getElem?_append_left hi] at h; exact .inl h
  · rw [List.getElem?_append_right (by omega)] at h
    obtain ⟨_, e⟩ := List.getElem?_eq_some_iff.mp h
    rw [List.getElem_replicate] at e
    exact .inr e.symm
theorem startR_at {n : Nat} {fl : List Bool} {ds : List D} {i : Nat} {s : Sl} (h : (slotsOf fl ds)[i]? = some s) : (startR n fl ds)[i]? = some s := by
  unfold startR
  rw [List.getElem?_append_left (List.getElem?_eq_some_iff.mp h).1]; exact h
/-- the frame at its entry -/
abbrev Fc.at (H B : Hp) (fl : List Bool) (vs : List V) : Fc := ⟨H, B, pairsOf 0 fl vs⟩
theorem sta_start {N : List Str} {fl : List Bool} {vs : List V} {ds : List D} {as : List Addr} (sub : ∀ a o, B a = some o → H a = some o) (A : Ars T H B fl vs ds as) (hn : fl.length ≤ N.length) : Sta T (Fc.at H B fl vs) (L2.start N vs) H (startR N.length fl ds) B := by
  obtain ⟨l1, l2⟩ := A.len
  have ls := slots_len l2
  refine ⟨?_, sub, fun a o e _ _ => e, Le.refl B, fun a h => .inl h, fun i s e => ?_, fun i j s t a e1 e2 h1 h2 v1 v2 => ?_, fun p hp => ?_⟩
  · unfold L2.start startR
    simp only [List.length_append, List.length_map, List.length_replicate, ls]
    omega
  · rcases startR_get l2 e with e | rfl
    · obtain ⟨v, ev, h⟩ := Ars.at (k := 0) A i s e
      have sv := start_get (n := 0) (N := N) ev
      rcases h with ⟨d, rfl, r⟩ | ⟨a, d, rfl, rfl, m, bn, o, pm⟩
      · exact ⟨v, sv, r⟩
      · exact ⟨a, sv, bn, o, by simpa using pm⟩
    · trivial
  · rcases startR_get l2 e1 with e1 | rfl
    · rcases startR_get l2 e2 with e2 | rfl
      · obtain ⟨v, ev, _⟩ := Ars.at (k := 0) A i s e1
        obtain ⟨w, ew, _⟩ := Ars.at (k := 0) A j t e2
        rw [start_get (n := 0) ev] at v1
        rw [start_get (n := 0) ew] at v2
        cases v1; cases v2
        exact A.dist i j s t a e1 e2 h1 h2 ev ew
      · cases h2
    · cases h1
  · obtain ⟨i, d, e1, e2, e3⟩ := A.pair (k := 0) p hp
    have : p.1 = i := by omega
    rw [this]
    exact ⟨⟨d, startR_at e2⟩, start_get (n := 0) e3⟩
theorem mus_end {Y : Fc} {σ : Sg} {H' B' : Hp} {ρ : Rho} (st : Sta T Y σ H' ρ B') : ∀ {fl : List Bool} {vs : List V} {ds : List D} {as : List Addr} {k : Nat}, Ars T H B fl vs ds as → (∀ p ∈ pairsOf k fl vs, p ∈ Y.M) → Mus T H' B' as (musOf k fl ρ)
  | _, _, _, _, _, .nil, _ => .nil
  | _, _, _, _, k, .im (v := v) (fl := fl) (vs := vs) r u, h => by
    have h' : ∀ p ∈ pairsOf (k + 1) fl vs, p ∈ Y.M := fun p hp => h p (by cases v <;> exact hp)
    exact (show Mus T H' B' _ (musOf (k + 1) fl ρ) from mus_end st u h')
  | _, _, _, _, k, .mu (a := a) bn o n u, h => by
    obtain ⟨⟨d, e⟩, ev⟩ := st.mus (k, a) (h _ List.mem_cons_self)
    have e' : ρ[k]? = some (.mu d) := e
    have ev' : σ[k]? = some (some (.ref a)) := ev
    obtain ⟨b, eb, hb, ob, _⟩ := st.slot k _ e'
    rw [ev'] at eb; cases eb
    unfold musOf
    rw [e']
    exact .cons hb ob (mus_end st u fun p hp => h p (List.mem_cons_of_mem _ hp))
/-- the end of a body is the promise's end -/
theorem ret_end {N : List Str} {fl : List Bool} {vs : List V} {ds : List D} {as : List Addr} (sub : ∀ a o, B a = some o → H a = some o) (A : Ars T H B fl vs ds as) {σ : Sg} {H' B' : Hp} {ρ : Rho} (st : Sta T (Fc.at H B fl vs) σ H' ρ B') : Ret T H B as H' B' (musOf 0 fl ρ) := by
  have ms : (Fc.at H B fl vs).ms = as := pairs_snd A
  refine ⟨st.b0, st.sub, fun a o e n b => st.keep a o e (by rw [ms]; exact n) b, st.bnew, mus_end st A fun p h => h, fun a e => (st.h0 e).1⟩
theorem body_run {N : List Str} {fl : List Bool} {f : SF} {vs : List V} {H : Hp} {Q : VK} {E : XK} (hn : fl.length ≤ N.length) (h : spR T fl (runF N.length fl f) vs H Q E) : tS T (fun c d _ H => E c d H) f { nx := fun _ H' => Q .non H', rt := Q } (L2.start N vs) H := by
  obtain ⟨B, ds, as, sub, A, h⟩ := h
  have st := sta_start (N := N) sub A hn
  refine ⟨_, _, B, st, ?_⟩
  unfold runF at h
  rw [if_pos A.len.2] at h
  cases ef : f (startR N.length fl ds) with
  | bad => rw [ef] at h; exact h
  | bk => rw [ef] at h; exact h.elim
  | ct => rw [ef] at h; exact h.elim
  | nx ρ =>
    rw [ef] at h
    exact fun σ' H' B' s l => h .non H' B' (ret_end (N := N) sub A s) .non
  | exc c fs ρ =>
    rw [ef] at h
    exact fun dx gs σ' H' B' s l hd hx rf => h dx gs H' B' (ret_end (N := N) sub A s) hd hx rf
  | rt r ρ =>
    rw [ef] at h
    intro v σ' H' B' s l vr
    have rt := ret_end (N := N) sub A s
    cases r with
    | im d => exact h v H' B' rt vr
    | ow d =>
      obtain ⟨a, ea, bn, o, ns, h0, nm⟩ := vr
      exact h v H' B' rt ⟨a, ea, bn, o, h0⟩
    | bo i =>
      obtain ⟨ev, t, et, n⟩ := vr
      have so := s.slot i t et
      have h : (match (match ρ[i]? with
        | some (.im d) => Out.ok (.im d) (musOf 0 fl ρ)
        | some (.ow d) => .ok (.ow d) (musOf 0 fl ρ)
        | _ => .bad) with
        | .ok r ms => ∀ v H' B', Ret T H B as H' B' ms → RetV T H H' B' v r → Q v H'
        | .exc c fs ms => ∀ dx gs H' B', Ret T H B as H' B' ms → H' dx = some (.xd gs) → H dx = none → RepF T B' gs fs → E (.ref (T.ca c)) (some dx) H'
        | .bad => False) := h
      rw [et] at h
      cases t with
      | no => exact h.elim
      | mu => exact h.elim
      | im d =>
        obtain ⟨w, ew, r⟩ := so
        rw [ev] at ew; cases ew
        exact h v H' B' rt r
      | ow d =>
        obtain ⟨a, ew, bn, o, h0, _⟩ := so
        rw [ev] at ew; cases ew
        exact h _ H' B' rt ⟨a, rfl, bn, o, h0⟩
theorem spR_len {fl : List Bool} {F : List D → Out} {vs : List V} {H : Hp} {Q : VK} {E : XK} (h : spR T fl F vs H Q E) : vs.length = fl.length := by
  obtain ⟨B, ds, as, sub, A, h⟩ := h
  exact A.len.1
end
end Pu
namespace Pu
open PySem PySem.Spec PyProof.Rows L2
/-- the globals -/
structure Gb where
  P : Program
  w : World
  T : Tb
  mg : Str → Option Value
  base : Heap
/-- X: a body (or a block of it) with the names N, the scope sc, room k -/
structure Gc (G : Gb) (k : Nat) (N : List Str) (sc : Scope) (X : Cx) : Prop where
  eP : X.prog = G.P
  ew : X.w = G.w
  K : X.K = G.T.K
  mg : X.mg = G.mg
  eb : X.base = G.base
  eN : X.N = N
  nd : N.Nodup
  eS : X.env.scope = sc
  calm : X.calm = true
  room : Room k X.A
/-- X is the whole body -/
structure Bd (X : Cx) : Prop where
  fn : ∀ x, X.fn x = true
  ps : PsO X
/-- a call's contract -/
abbrev Kc (G : Gb) (k : Nat) (f : Addr) (S : Fs) : Prop := FnR G.P G.w G.T.K G.mg G.base (CX G.P G.w) k f (spR G.T S.fl S.F)
structure FnG (G : Gb) (k : Nat) (x : Str) (S : Fs) : Prop where
  hm : G.mg x = some (.ref (He.ga G.T.K x))
  hk : PySem.W.keepIn G.T.K (.ref (He.ga G.T.K x)) = true
  kp : Kc G k (He.ga G.T.K x) S
structure MtG (G : Gb) (k : Nat) (m : Str) (c : Nat) (S : Fs) : Prop where
  cls : Cls G.T.K (G.T.ca c)
  mth : Meth G.T.K (G.T.ca c) m (He.ma G.T.K (G.T.ca c) m)
  kp : Kc G k (He.ma G.T.K (G.T.ca c) m) S
structure MkG (G : Gb) (k : Nat) (x : Str) (c : Nat) (fls : List Bool) (F : List D → Out) : Prop where
  hc : c < G.T.cl.length
  hx : G.T.cl.getD c "" = x
  hm : G.mg x = some (.ref (He.ga G.T.K x))
  mkc : Mk G.T.K (He.ga G.T.K x) (He.ma G.T.K (He.ga G.T.K x) "__init__")
  kp : Kc G k (He.ma G.T.K (He.ga G.T.K x) "__init__") ⟨true :: fls, F⟩

def isVis : Option NameKind → Bool
  | some .local => true
  | some .cell => true
  | some .free => true
  | _ => false
def isLoc : Option NameKind → Bool
  | some .local => true
  | some .cell => true
  | _ => false
def okN (x : Str) : Bool := !(x == ("__debug__" : Str)) && !(x == ("__classdict__" : Str))
def visC (N : List Str) (sc : Scope) (i : Nat) (x : Str) : Bool := decide (N[i]? = some x) && (isVis (sc.names.lookup x) && okN x)
def gloC (sc : Scope) (x : Str) : Bool := decide (sc.names.lookup x = some .globalImplicit) && okN x
def locC (N : List Str) (sc : Scope) (i : Nat) (x : Str) : Bool := decide (N[i]? = some x) && isLoc (sc.names.lookup x)
section
variable {G : Gb} {k : Nat} {N : List Str} {sc : Scope} {X : Cx} {a b c e o iter tg : Expr} {es : List Expr} {pos apos p : Pos} {fa fb fc fo : EF} {fl fr : LF} {ga gb : TF}
theorem okN_d {x : Str} (h : okN x = true) : (x == ("__debug__" : Str)) = false ∧ (x == ("__classdict__" : Str)) = false := by
  unfold okN at h
  simpa using h
theorem vis_of {x : Str} (h : isVis (sc.names.lookup x) = true) : Vis sc x := by
  unfold isVis at h
  unfold Vis
  split at h <;> simp_all
theorem loc_of {x : Str} (h : isLoc (sc.names.lookup x) = true) : L2.Loc sc x := by
  unfold isLoc at h
  unfold L2.Loc
  split at h <;> simp_all
theorem Gc.hu (g : Gc G k N sc X) : X.A.units + 64 < cLine := g.room.units
theorem Gc.gl (g : Gc G k N sc X) {x : Str} (h : gloC sc x = true) : Gl X x ∧ (x == ("__debug__" : Str)) = false := by
  unfold gloC at h
  rw [Bool.and_eq_true] at h
  refine ⟨?_, (okN_d h.2).1⟩
  show X.env.scope.names.lookup x = _
  rw [g.eS]
  exact of_decide_eq_true h.1
theorem Gc.kp (g : Gc G k N sc X) {j : Nat} {f : Addr} {S : Fs} (F : Kc G j f S) (h : j ≤ k) : Kp G.T X k f S := by
  unfold Kp
  rw [g.eP, g.ew, g.K, g.mg, g.eb]
  exact F.mono h
theorem Gc.kp' (g : Gc G k N sc X) {j : Nat} {f : Addr} {S : Fs} (F : Kc G j f S) : Kp G.T X j f S := by
  unfold Kp
  rw [g.eP, g.ew, g.K, g.mg, g.eb]
  exact F
theorem w_var (g : Gc G k N sc X) {i : Nat} {x : Str} (h : visC N sc i x = true) : JE G.T X (.Name x pos) (eVar i) := by
  unfold visC at h
  rw [Bool.and_eq_true, Bool.and_eq_true] at h
  obtain ⟨h1, h2, h3⟩ := h
  exact je_var (by rw [g.eN]; exact of_decide_eq_true h1) (by rw [g.eS]; exact vis_of h2) (okN_d h3).1 (okN_d h3).2
theorem w_gint (g : Gc G k N sc X) {x : Str} {i : Int} (hm : ∃ t, G.mg x = some (.int i t)) (h : gloC sc x = true) : JE G.T X (.Name x pos) (eCon (.int i)) := by
  obtain ⟨t, hm⟩ := hm
  obtain ⟨h1, h2⟩ := g.gl h
  exact je_con (pe_glob (v := .int i) h1 (by rw [g.mg]; exact hm) ⟨t, rfl⟩ h2) fun _ => .int
theorem w_gstr (g : Gc G k N sc X) {x z : Str} (hm : ∃ t, G.mg x = some (.str z t)) (h : gloC sc x = true) : JE G.T X (.Name x pos) (eCon (.str z)) := by
  obtain ⟨t, hm⟩ := hm
  obtain ⟨h1, h2⟩ := g.gl h
  exact je_con (pe_glob (v := .str z) h1 (by rw [g.mg]; exact hm) ⟨t, rfl⟩ h2) fun _ => .str
theorem w_gref (g : Gc G k N sc X) {x : Str} (hm : G.mg x = some (.ref (He.ga G.T.K x))) (h : gloC sc x = true) : JE G.T X (.Name x pos) (eCon (.glo x)) := by
  obtain ⟨h1, h2⟩ := g.gl h
  exact je_con (pe_glob (v := .ref (He.ga G.T.K x)) h1 (by rw [g.mg]; exact hm) rfl h2) fun _ => .glo rfl
theorem w_bin (g : Gc G k N sc X) {op : Operator} (ha : JE G.T X a fa) (hb : JE G.T X b fb) : JE G.T X (.BinOp a op b pos) (eTwo (bBin op) fa fb) := je_bin (og_bin op) ha hb
theorem w_cmp (g : Gc G k N sc X) {op : CmpOp} (ha : JE G.T X a fa) (hb : JE G.T X b fb) (hs : isSet b = false) : JE G.T X (.Compare a [op] [b] pos) (eOp (fun a b => .ov (bCmp op a b)) fa fb) := je_cmp (OpG.oh (og_cmp g.hu g.K op)) hs ha hb
theorem wt_cmp (g : Gc G k N sc X) {op : CmpOp} (ha : JE G.T X a fa) (hb : JE G.T X b fb) (hs : isSet b = false) : JT G.T X (.Compare a [op] [b] pos) (tBl (eOp (fun a b => .ov (bCmp op a b)) fa fb)) := jt_cmp (OpG.oh (og_cmp g.hu g.K op)) hs ha hb
theorem w_chn (g : Gc G k N sc X) {op op' : CmpOp} (ha : JE G.T X a fa) (hb : JE G.T X b fb) (hc : JE G.T X c fc) (hs : isSet c = false) : JE G.T X (.Compare a [op, op'] [b, c] pos) (eChn (bCmp op) (bCmp op') fa fb fc) := je_chn (og_cmp g.hu g.K op) (og_cmp g.hu g.K op') hs ha hb hc
theorem wt_chn (g : Gc G k N sc X) {op op' : CmpOp} (ha : JE G.T X a fa) (hb : JE G.T X b fb) (hc : JE G.T X c fc) (hs : isSet c = false) : JT G.T X (.Compare a [op, op'] [b, c] pos) (tBl (eChn (bCmp op) (bCmp op') fa fb fc)) := jt_chn (og_cmp g.hu g.K op) (og_cmp g.hu g.K op') hs ha hb hc
/-- o[i]: a sequence's item, a dict's value -/
def hSub (a b : D) : Oh := (gV bIx a b).or (gV bDg a b)
theorem w_sub (g : Gc G k N sc X) (ha : JE G.T X a fa) (hb : JE G.T X b fb) (hs : isSl b = false) : JE G.T X (.Subscript a b pos) (eOp hSub fa fb) :=
  je_or2 (je_ix g.K (plainIx_of hs) ha hb) (je_dg (by have := g.hu; omega) (noSl_of hs) ha hb)
theorem w_sl (g : Gc G k N sc X) {lo hi : Option Expr} {gl gh : OF} {p2 : Pos} (ha : JE G.T X a fa) (hl : JO G.T X lo gl) (hh : JO G.T X hi gh) : JE G.T X (.Subscript a (.Slice lo hi none p2) pos) (eSl fa gl gh) := je_sl g.K ha hl hh
theorem w_not (g : Gc G k N sc X) (ha : JE G.T X a fa) : JE G.T X (.UnaryOp .Not a pos) (eNot (tVal fa)) := je_not g.K ha
/-- o.f, by classes -/
def FdOk (G : Gb) (x : Str) (cs : List Nat) : Prop := ∀ c ∈ cs, Cls G.T.K (G.T.ca c) ∧ NoAttr G.T.K (G.T.ca c) x
theorem w_fld (g : Gc G k N sc X) {cs : List Nat} {i : Nat} {x : Str} (nd : G.T.nm.Nodup) (hx : G.T.nm[i]? = some x) (ho : FdOk G x cs) (ha : JE G.T X a fa) (hs : noSup a = true) : JE G.T X (.Attribute a x pos) (eFld (fun c => cs.contains c) i fa) :=
  je_fld hx nd (fun c hc h => by rw [g.K]; exact ho c (by simpa using h)) (abase_of hs) ha
theorem w_call (g : Gc G k N sc X) {j : Nat} {x : Str} {S : Fs} (F : FnG G j x S) (hj : j ≤ k) (ha : JL G.T X (e :: es) fl) (hg : gloC sc x = true) (hs : noStar (e :: es) = true) : JE G.T X (.Call (.Name x p) (e :: es) [] pos) (eCall S fl) := by
  obtain ⟨h1, h2⟩ := g.gl hg
  exact je_call (g.kp F.kp hj) g.room h1 (by rw [g.mg]; exact F.hm) (by rw [g.K]; exact F.hk) h2 ha hs
theorem w_call0 (g : Gc G k N sc X) {j : Nat} {x : Str} {S : Fs} (F : FnG G j x S) (hj : j ≤ k) (hg : gloC sc x = true) : JE G.T X (.Call (.Name x p) [] [] pos) (eCall S lNil) := by
  obtain ⟨h1, h2⟩ := g.gl hg
  exact je_call0 (g.kp F.kp hj) g.room h1 (by rw [g.mg]; exact F.hm) (by rw [g.K]; exact F.hk) h2
theorem w_make (g : Gc G k N sc X) {j c : Nat} {x : Str} {fls : List Bool} {F : List D → Out} (M : MkG G j x c fls F) (hj : j + 1 ≤ k) (ha : JL G.T X (e :: es) fl) (hg : gloC sc x = true) (hs : noStar (e :: es) = true) : JE G.T X (.Call (.Name x p) (e :: es) [] pos) (eMake c fls F fl) := by
  obtain ⟨h1, h2⟩ := g.gl hg
  have hx := M.hx
  exact je_make (k := j) (by rw [g.K]; unfold Tb.ca; rw [hx]; exact M.mkc) M.hc (g.kp' M.kp) (g.room.mono hj) h1 (by rw [g.mg]; unfold Tb.ca; rw [hx]; exact M.hm) h2 ha hs
theorem w_make0 (g : Gc G k N sc X) {j c : Nat} {x : Str} {fls : List Bool} {F : List D → Out} (M : MkG G j x c fls F) (hj : j + 1 ≤ k) (hg : gloC sc x = true) : JE G.T X (.Call (.Name x p) [] [] pos) (eMake c fls F lNil) := by
  obtain ⟨h1, h2⟩ := g.gl hg
  have hx := M.hx
  exact je_make0 (k := j) (by rw [g.K]; unfold Tb.ca; rw [hx]; exact M.mkc) M.hc (g.kp' M.kp) (g.room.mono hj) h1 (by rw [g.mg]; unfold Tb.ca; rw [hx]; exact M.hm) h2
/-- the methods' table -/
inductive MtL (G : Gb) (k : Nat) (m : Str) : List (Nat × Fs) → Prop
  | nil : MtL G k m []
  | cons {c S l} : (j : Nat) → j ≤ k → MtG G j m c S → MtL G k m l → MtL G k m ((c, S) :: l)
theorem MtL.get (g : Gc G k N sc X) {m : Str} : ∀ {l : List (Nat × Fs)}, MtL G k m l → ∀ c S, c < G.T.cl.length → l.lookup c = some S → ∃ f, MthOk G.T X k m c S f
  | _, .nil => fun c S _ h => by cases h
  | _, .cons (c := c0) j hj M t => fun c S hc h => by
    rw [List.lookup_cons] at h
    split at h
    · rename_i e
      have e : c = c0 := by simpa using e
      cases h
      subst e
      exact ⟨_, by rw [g.K]; exact M.cls, by rw [g.K]; exact M.mth, g.kp M.kp hj⟩
    · exact t.get g c S hc h
theorem w_meth (g : Gc G k N sc X) {l : List (Nat × Fs)} {mi : Nat} {m : Str} (M : MtL G k m l) (nd : G.T.nm.Nodup) (hx : G.T.nm[mi]? = some m) (ho : JE G.T X o fo) (ha : JL G.T X (e :: es) fl)
    (hb : noSup o = true) (hs : noStar (e :: es) = true) (hlen : decide ((e :: es).length < 30) = true) (hline : (apos.endLine == pos.line) = true) : JE G.T X (.Call (.Attribute o m apos) (e :: es) [] pos) (eMeth (fun c => l.lookup c) mi fo fl) :=
  je_meth (M.get g) nd hx g.room ho ha hs (meth_tree hb hs hlen hline)
theorem w_meth0 (g : Gc G k N sc X) {l : List (Nat × Fs)} {mi : Nat} {m : Str} (M : MtL G k m l) (nd : G.T.nm.Nodup) (hx : G.T.nm[mi]? = some m) (ho : JE G.T X o fo)
    (hb : noSup o = true) (hline : (apos.endLine == pos.line) = true) : JE G.T X (.Call (.Attribute o m apos) [] [] pos) (eMeth (fun c => l.lookup c) mi fo lNil) :=
  je_meth0 (M.get g) nd hx g.room ho (meth_tree hb rfl rfl hline)
end
end Pu
namespace Pu
open PySem PySem.Spec PyProof.Rows L2
section
variable {G : Gb} {k : Nat} {N : List Str} {sc : Scope} {X : Cx} {a b c e o iter tg : Expr} {es tgs : List Expr} {pos apos p pos' : Pos} {fa fb fc fo : EF} {fl fr : LF} {ga gb : TF}
abbrev Fr (G : Gb) (x : Str) : Prop := G.mg x = none
theorem Gc.free (g : Gc G k N sc X) {x : Str} (h : Fr G x) : X.mg x = none := by rw [g.mg]; exact h
theorem w_len (g : Gc G k N sc X) (hf : Fr G "len") (ha : JL G.T X (e :: es) fl) (hg : gloC sc "len" = true) (hs : noStar (e :: es) = true) : JE G.T X (.Call (.Name "len" p) (e :: es) [] pos) (eB bLen fl) :=
  je_callB (says_len g.K) cr_lenA (g.gl hg).1 (g.free hf) rfl (by decide) (g.gl hg).2 ha hs
theorem w_all (g : Gc G k N sc X) (hf : Fr G "all") (ha : JL G.T X (e :: es) fl) (hg : gloC sc "all" = true) (hs : noStar (e :: es) = true) : JE G.T X (.Call (.Name "all" p) (e :: es) [] pos) (eB (bFold fun bs => bs.all id) fl) :=
  je_callB (says_all g.K) (cr_all g.calm) (g.gl hg).1 (g.free hf) rfl (by decide) (g.gl hg).2 ha hs
theorem w_any (g : Gc G k N sc X) (hf : Fr G "any") (ha : JL G.T X (e :: es) fl) (hg : gloC sc "any" = true) (hs : noStar (e :: es) = true) : JE G.T X (.Call (.Name "any" p) (e :: es) [] pos) (eB (bFold fun bs => bs.any id) fl) :=
  je_callB (says_any g.K) (cr_any g.calm) (g.gl hg).1 (g.free hf) rfl (by decide) (g.gl hg).2 ha hs
theorem w_sum (g : Gc G k N sc X) (hf : Fr G "sum") (ha : JL G.T X (e :: es) fl) (hg : gloC sc "sum" = true) (hs : noStar (e :: es) = true) : JE G.T X (.Call (.Name "sum" p) (e :: es) [] pos) (eB bSum fl) :=
  je_callB (says_sum g.K) (cr_sum g.calm) (g.gl hg).1 (g.free hf) rfl (by decide) (g.gl hg).2 ha hs
theorem w_abs (g : Gc G k N sc X) (hf : Fr G "abs") (ha : JL G.T X (e :: es) fl) (hg : gloC sc "abs" = true) (hs : noStar (e :: es) = true) : JE G.T X (.Call (.Name "abs" p) (e :: es) [] pos) (eB bAbs fl) :=
  je_callB says_abs call_abs (g.gl hg).1 (g.free hf) rfl (by decide) (g.gl hg).2 ha hs
theorem w_sorted (g : Gc G k N sc X) (hf : Fr G "sorted") (ha : JL G.T X (e :: es) fl) (hg : gloC sc "sorted" = true) (hs : noStar (e :: es) = true) : JE G.T X (.Call (.Name "sorted" p) (e :: es) [] pos) (eB bSorted fl) :=
  je_callB (says_sorted g.K) cr_sortedS (g.gl hg).1 (g.free hf) rfl (by decide) (g.gl hg).2 ha hs
theorem w_list (g : Gc G k N sc X) (hf : Fr G "list") (ha : JL G.T X (e :: es) fl) (hg : gloC sc "list" = true) (hs : noStar (e :: es) = true) : JE G.T X (.Call (.Name "list" p) (e :: es) [] pos) (eB bList fl) :=
  je_callTy (says_list g.K) (cr_listA g.calm) (g.gl hg).1 (g.free hf) rfl (by decide) (g.gl hg).2 ha hs
theorem w_dict (g : Gc G k N sc X) (hf : Fr G "dict") (ha : JL G.T X (e :: es) fl) (hg : gloC sc "dict" = true) (hs : noStar (e :: es) = true) : JE G.T X (.Call (.Name "dict" p) (e :: es) [] pos) (eB bDict fl) :=
  je_callTy says_dict call_dictD (g.gl hg).1 (g.free hf) rfl (by decide) (g.gl hg).2 ha hs
theorem w_int (g : Gc G k N sc X) (hf : Fr G "int") (ha : JL G.T X (e :: es) fl) (hg : gloC sc "int" = true) (hs : noStar (e :: es) = true) : JE G.T X (.Call (.Name "int" p) (e :: es) [] pos) (eB bInt fl) :=
  je_callTy says_int cr_int (g.gl hg).1 (g.free hf) rfl (by decide) (g.gl hg).2 ha hs
structure IsG (G : Gb) (cs : List Ct) : Prop where
  hI : ∀ c, c < G.T.cl.length → IsiC G.T.K (G.T.ca c)
  hO : IsiOk G.T (7 + G.T.cl.length) cs = true
theorem w_isi1 (g : Gc G k N sc X) {cs : List Ct} {ct : Ct} (I : IsG G cs) (hf : Fr G "isinstance") (pb : PE X b (tC (ctW G.T ct))) (ha : JE G.T X a fa) (hc : ct ∈ cs) (hg : gloC sc "isinstance" = true) (hs : noStar [a, b] = true) : JE G.T X (.Call (.Name "isinstance" p) [a, b] [] pos) (eIsi [ct] fa) :=
  je_isi1 (nT := 0) (q := p) g.K I.hI I.hO hc (g.gl hg).1 (g.free hf) pb ha hs
theorem w_isiN (g : Gc G k N sc X) {cs ds : List Ct} {kk : Nat} {q : Pos} (I : IsG G cs) (hf : Fr G "isinstance") (pb : PAc G.T X es ds) (ha : JE G.T X a fa) (hc : ∀ d ∈ ds, d ∈ cs) (hg : gloC sc "isinstance" = true) (hs : isStar a = false) (hl : ds.length ≤ sizeLine) : JE G.T X (.Call (.Name "isinstance" p) [a, .Tuple es kk q] [] pos) (eIsi ds fa) :=
  je_isiN (q := q) g.K I.hI I.hO hc hl (g.gl hg).1 (g.free hf) pb ha hs
/-- a class as isinstance's second -/
theorem c_bt (g : Gc G k N sc X) {x : Str} {n : Nat} (hf : Fr G x) (hg : gloC sc x = true) (hv : bootBuiltins x = some (.type (btN.getD n ""))) (hn : x ≠ "__name__") : PE X (.Name x p) (tC (ctW G.T (.bt n))) :=
  pe_bltn (g.gl hg).1 (g.free hf) hv rfl hn (g.gl hg).2
theorem c_own (g : Gc G k N sc X) {x : Str} {c : Nat} (hx : G.T.cl.getD c "" = x) (hm : G.mg x = some (.ref (He.ga G.T.K x))) (hg : gloC sc x = true) : PE X (.Name x p) (tC (ctW G.T (.own c))) := by
  refine pe_glob (g.gl hg).1 (by rw [g.mg]; exact hm) ?_ (g.gl hg).2
  show Value.ref (He.ga G.T.K x) = Value.ref (He.ga G.T.K (G.T.cl.getD c ""))
  rw [hx]
theorem c_nil : PAc G.T X [] [] := pa_nil
theorem c_cons {d : Ct} {ds : List Ct} (h : PE X e (tC (ctW G.T d))) (t : PAc G.T X es ds) (hs : isStar e = false) : PAc G.T X (e :: es) (d :: ds) :=
  PA.imp (pa_cons h t (star_cons hs)) fun σ H Q q => q
theorem m_get (g : Gc G k N sc X) (ho : JE G.T X o fo) (ha : JL G.T X (e :: es) fl) (hb : noSup o = true) (hs : noStar (e :: es) = true) (hlen : decide ((e :: es).length < 30) = true) (hline : (apos.endLine == pos.line) = true) : JE G.T X (.Call (.Attribute o "get" apos) (e :: es) [] pos) (eBm "dict" bGet fo fl) :=
  je_bm F.plainAttrs_dict F.slot_dict_get rfl (mt_get (by have := g.hu; omega)) says_get g.K ho ha hb hs hlen hline
theorem m_split (g : Gc G k N sc X) (ho : JE G.T X o fo) (ha : JL G.T X (e :: es) fl) (hb : noSup o = true) (hs : noStar (e :: es) = true) (hlen : decide ((e :: es).length < 30) = true) (hline : (apos.endLine == pos.line) = true) : JE G.T X (.Call (.Attribute o "split" apos) (e :: es) [] pos) (eBm "str" bSplit fo fl) :=
  je_bm F.plainAttrs_str F.slot_str_split rfl mt_split says_split g.K ho ha hb hs hlen hline
theorem m_part (g : Gc G k N sc X) (ho : JE G.T X o fo) (ha : JL G.T X (e :: es) fl) (hb : noSup o = true) (hs : noStar (e :: es) = true) (hlen : decide ((e :: es).length < 30) = true) (hline : (apos.endLine == pos.line) = true) : JE G.T X (.Call (.Attribute o "partition" apos) (e :: es) [] pos) (eBm "str" bPart fo fl) :=
  je_bm F.plainAttrs_str F.slot_str_partition rfl mt_partition says_part g.K ho ha hb hs hlen hline
theorem m_join (g : Gc G k N sc X) (ho : JE G.T X o fo) (ha : JL G.T X (e :: es) fl) (hb : noSup o = true) (hs : noStar (e :: es) = true) (hlen : decide ((e :: es).length < 30) = true) (hline : (apos.endLine == pos.line) = true) : JE G.T X (.Call (.Attribute o "join" apos) (e :: es) [] pos) (eBm "str" bJoin fo fl) :=
  je_bm F.plainAttrs_str F.slot_str_join rfl mt_join (says_join g.K) g.K ho ha hb hs hlen hline
theorem m_append (g : Gc G k N sc X) (ho : JE G.T X o fo) (ha : JL G.T X (e :: es) fl) (hb : noSup o = true) (hs : noStar (e :: es) = true) (hlen : decide ((e :: es).length < 30) = true) (hline : (apos.endLine == pos.line) = true) : JE G.T X (.Call (.Attribute o "append" apos) (e :: es) [] pos) (eMt "list" cAppend fo fl) :=
  je_mt F.plainAttrs_list F.slot_list_append rfl mt_append says_append g.K ho ha hb hs hlen hline
theorem m_pop (g : Gc G k N sc X) (ho : JE G.T X o fo) (hb : noSup o = true) (hline : (apos.endLine == pos.line) = true) : JE G.T X (.Call (.Attribute o "pop" apos) [] [] pos) (eMt "list" cPop fo lNil) :=
  je_mt0 F.plainAttrs_list F.slot_list_pop rfl mt_pop says_pop g.K ho hb hline
end
end Pu
namespace Pu
open PySem PySem.Spec PyProof.Rows L2
section
variable {G : Gb} {k : Nat} {N : List Str} {sc : Scope} {X : Cx} {a b c e o iter tg elt kx vx : Expr} {es tgs : List Expr} {pos apos p pos' : Pos} {fa fb fc fo fe fk fv : EF} {fl fr : LF} {ga gb : TF} {f f' : SF} {sts : List Stmt}
theorem g_nam (g : Gc G k N sc X) (b : Bd X) {i : Nat} {x : Str} (h : locC N sc i x = true) : JG G.T X (.Name x pos) (gNam i) := by
  unfold locC at h
  rw [Bool.and_eq_true] at h
  obtain ⟨h1, h2⟩ := h
  have hl := loc_of h2
  exact jg_name (by rw [g.eN]; exact g.nd) (by rw [g.eN]; exact of_decide_eq_true h1) (by rw [g.eS]; exact hl) (.inl (b.fn x))
theorem g_sub (g : Gc G k N sc X) (ho : JE G.T X o fo) (hi : JE G.T X e fe) (hsl : isSl e = false) : JG G.T X (.Subscript o e pos) (gSubs fo fe) := jg_sub hsl (by have := g.hu; omega) ho hi
theorem g_tup (g : Gc G k N sc X) {gs : List GF} {kk : Nat} (h : JGs G.T X es gs) (hl : es.length = gs.length) (hs : noStar es = true) : JGL G.T X (.Tuple es kk pos) (gTupD gs) := jgl_tup g.K g.calm h hl hs
def isComp : Expr → Bool
  | .ListComp _ _ _ _ => true
  | .SetComp _ _ _ _ => true
  | .DictComp _ _ _ _ _ => true
  | _ => false
theorem sw_not {t : Option Expr} {l : Nat} {env : PySem.Env} (h : isComp e = false) : swapsWith e t l env = pure false := by
  cases e <;> first | rfl | cases h
theorem s_exp (he : JE G.T X e fa) (h : isComp e = false) : JS G.T X (.Expr e pos) (sExp fa) := js_exp he (sw_not h)
/-- whether the value's block stores by itself -/
def swB (sc : Scope) (bs : Scope) (t : Str) (tp ep : Pos) : Bool := (if sc.kind.isAnnotationScope then ScopeKind.function else sc.kind) == .function && sc.names.lookup t == some .local && tp.line == ep.line && !(bs.names.any fun (n, k) => n == t && (k == .local || k == .cell))
def swE (sc : Scope) (tg e : Expr) : Bool := match e, tg with
  | .ListComp _ _ bs ep, .Name t tp => swB sc bs t tp ep
  | .SetComp _ _ bs ep, .Name t tp => swB sc bs t tp ep
  | .DictComp _ _ _ bs ep, .Name t tp => swB sc bs t tp ep
  | _, _ => false
theorem sw_nm (g : Gc G k N sc X) {l : Nat} {t : Str} {tp : Pos} : swapsWith e (some (.Name t tp)) l X.env = pure (swE sc (.Name t tp) e) := by
  have eb : X.env.blockKind = (if sc.kind.isAnnotationScope then ScopeKind.function else sc.kind) := by unfold Env.blockKind; rw [g.eS]
  have ek : X.env.kindOf t = sc.names.lookup t := by unfold Env.kindOf; rw [g.eS]
  cases e with
  | ListComp el gs bs ep => show (pure (X.env.blockKind == .function && X.env.kindOf t == some .local && _ && _) : Sem Bool) = _; rw [eb, ek]; rfl
  | SetComp el gs bs ep => show (pure (X.env.blockKind == .function && X.env.kindOf t == some .local && _ && _) : Sem Bool) = _; rw [eb, ek]; rfl
  | DictComp el e2 gs bs ep => show (pure (X.env.blockKind == .function && X.env.kindOf t == some .local && _ && _) : Sem Bool) = _; rw [eb, ek]; rfl
  | _ => rfl
def isNm : Expr → Bool
  | .Name _ _ => true
  | _ => false
theorem sw_nn {l : Nat} {env : PySem.Env} (h : isNm tg = false) : swapsWith e (some tg) l env = pure false := by
  cases e with
  | ListComp el gs bs ep => cases tg <;> first | rfl | cases h
  | SetComp el gs bs ep => cases tg <;> first | rfl | cases h
  | DictComp el e2 gs bs ep => cases tg <;> first | rfl | cases h
  | _ => rfl
theorem sw_of (g : Gc G k N sc X) {l : Nat} : swapsWith e (some tg) l X.env = pure (swE sc tg e) := by
  by_cases h : isNm tg = true
  · cases tg <;> first | exact sw_nm g | cases h
  · have h : isNm tg = false := by simpa using h
    rw [sw_nn h]
    have : swE sc tg e = false := by
      cases tg with
      | Name => cases h
      | _ => cases e <;> rfl
    rw [this]
/-- which names a line of several stores swaps -/
def stB' (bk : ScopeKind) (kf : Str → Option NameKind) (ts vs : List Expr) : Option (Option (List Str)) :=
  if !(ts.length == 2 || ts.length == 3) || vs.length != ts.length || bk != .function then some none
  else if vs.any (fun | .Starred .. => true | _ => false) then some none
  else
    let line := (ts.head?.map (·.pos.line)).getD 0
    let names := ts.filterMap fun
      | .Name id pos => if kf id == some .local && pos.line == line then some id else none
      | _ => none
    if names.length != ts.length || names.eraseDups.length != names.length then some none
    else if vs.all (foldedForSure 8) then some none
    else if vs.all (constantsAlone 8) then none
    else some (some names)
def stB (sc : Scope) (ts vs : List Expr) : Option (Option (List Str)) := stB' (if sc.kind.isAnnotationScope then ScopeKind.function else sc.kind) (fun x => sc.names.lookup x) ts vs
def finS : Option (Option (List Str)) → Sem (Option (List Str))
  | some r => pure r
  | none => unsupported "assign.tuple-of-constant-expressions:order-of-the-stores"
theorem ifm {c c' : Prop} [Decidable c] [Decidable c'] {A A' : Sem (Option (List Str))} {x y : Option (Option (List Str))} (hc : c ↔ c') (h1 : A = finS x) (h2 : A' = finS y) : (if c then A else A') = finS (if c' then x else y) := by
  by_cases h : c
  · rw [if_pos h, if_pos (hc.mp h)]; exact h1
  · rw [if_neg h, if_neg (fun z => h (hc.mpr z))]; exact h2
theorem st_of (g : Gc G k N sc X) {ts vs : List Expr} {k1 k2 : Nat} {p1 p2 : Pos} {r : Option (List Str)} (h : stB sc ts vs = some r) : swappedStores [.Tuple ts k1 p1] (.Tuple vs k2 p2) X.env = pure r := by
  have e : swappedStores [.Tuple ts k1 p1] (.Tuple vs k2 p2) X.env = finS (stB' X.env.blockKind X.env.kindOf ts vs) :=
    ifm Iff.rfl rfl (ifm Iff.rfl rfl (ifm Iff.rfl rfl (ifm Iff.rfl rfl (ifm Iff.rfl rfl rfl))))
  have eb : X.env.blockKind = (if sc.kind.isAnnotationScope then ScopeKind.function else sc.kind) := by unfold Env.blockKind; rw [g.eS]
  have ek : X.env.kindOf = fun x => sc.names.lookup x := by funext t; unfold Env.kindOf; rw [g.eS]
  unfold stB at h
  rw [e, eb, ek, h]; rfl
/-- one store -/
def notTT (tg e : Expr) : Bool := match tg, e with
  | .Tuple _ _ _, .Tuple _ _ _ => false
  | .List _ _, .Tuple _ _ _ => false
  | _, _ => true
theorem ss_not {env : PySem.Env} (h : notTT tg e = true) : swappedStores [tg] e env = pure none := by
  cases tg with
  | Tuple => cases e <;> first | rfl | cases h
  | List => cases e <;> first | rfl | cases h
  | _ => rfl
theorem ae_one {env : PySem.Env} (h : isStar tg = false) : (assignEach [tg] env).map (·.2) = [assign tg env] := by
  cases tg <;> first | rfl | cases h
theorem s_asg (g : Gc G k N sc X) {gf : GF} (hg : JG G.T X tg gf) (he : JE G.T X e fa) (h1 : swE sc tg e = false) (h2 : notTT tg e = true) (h3 : isStar tg = false) : JS G.T X (.Assign [tg] e pos) (sAsg gf fa) :=
  js_asg he hg (by show swapsWith e (some tg) pos.line X.env = _; rw [sw_of g, h1]) (ss_not h2) (ae_one h3)
theorem s_asgL (g : Gc G k N sc X) {gf : GF} (hg : JGL G.T X tg gf) (he : JE G.T X e fa) (h1 : swE sc tg e = false) (h2 : notTT tg e = true) (h3 : isStar tg = false) : JS G.T X (.Assign [tg] e pos) (sAsg gf fa) :=
  js_asgL he hg (by show swapsWith e (some tg) pos.line X.env = _; rw [sw_of g, h1]) (ss_not h2) (ae_one h3)
theorem s_par (g : Gc G k N sc X) {gs : List GF} {kk k2 : Nat} {pt p2 : Pos} (h : JGs G.T X tgs gs) (ha : JL G.T X es fl) (hst : stB sc tgs es = some none) (hl : tgs.length = gs.length) (hs : noStar tgs = true) (hz : decide (tgs.length ≤ 1000) = true) : JS G.T X (.Assign [.Tuple tgs kk pt] (.Tuple es k2 p2) pos) (sPar gs fl) :=
  js_par g.K g.calm h hl hs ha (of_decide_eq_true hz) (show swapsWith (.Tuple es k2 p2) (some (.Tuple tgs kk pt)) pos.line X.env = _ by rw [sw_of g]; rfl) (st_of g hst)
theorem s_swap2 (g : Gc G k N sc X) {i j : Nat} {x y : Str} {px py pt p2 : Pos} {kt k2 : Nat} (ha : JL G.T X [a, b] fl) (hst : stB sc [.Name x px, .Name y py] [a, b] = some (some [x, y])) (h1 : N[i]? = some x) (h2 : N[j]? = some y) (hij : decide (i ≠ j) = true) (h3 : decide (sc.names.lookup x = some .local ∧ sc.names.lookup y = some .local) = true) : JS G.T X (.Assign [.Tuple [.Name x px, .Name y py] kt pt] (.Tuple [a, b] k2 p2) pos) (sPar [gNam i, gNam j] fl) :=
  js_swap2 g.calm (by rw [g.eN]; exact g.nd) (by rw [g.eN]; exact h1) (by rw [g.eN]; exact h2) (of_decide_eq_true hij) (by rw [g.eS]; exact (of_decide_eq_true h3).1) (by rw [g.eS]; exact (of_decide_eq_true h3).2) ha (st_of g hst)
theorem s_swap3 (g : Gc G k N sc X) {i j l : Nat} {x y z : Str} {px py pz pt p2 : Pos} {kt k2 : Nat} (ha : JL G.T X [a, b, c] fl) (hst : stB sc [.Name x px, .Name y py, .Name z pz] [a, b, c] = some (some [x, y, z])) (h1 : N[i]? = some x) (h2 : N[j]? = some y) (h2' : N[l]? = some z) (hij : decide (i ≠ j ∧ i ≠ l ∧ j ≠ l) = true) (h3 : decide (sc.names.lookup x = some .local ∧ sc.names.lookup y = some .local ∧ sc.names.lookup z = some .local) = true) : JS G.T X (.Assign [.Tuple [.Name x px, .Name y py, .Name z pz] kt pt] (.Tuple [a, b, c] k2 p2) pos) (sPar [gNam i, gNam j, gNam l] fl) :=
  js_swap3 g.calm (by rw [g.eN]; exact g.nd) (by rw [g.eN]; exact h1) (by rw [g.eN]; exact h2) (by rw [g.eN]; exact h2') (of_decide_eq_true hij).1 (of_decide_eq_true hij).2.1 (of_decide_eq_true hij).2.2 (by rw [g.eS]; exact (of_decide_eq_true h3).1) (by rw [g.eS]; exact (of_decide_eq_true h3).2.1) (by rw [g.eS]; exact (of_decide_eq_true h3).2.2) ha (st_of g hst)
theorem s_fld (g : Gc G k N sc X) {cs : List Nat} {i : Nat} {x : Str} (nd : G.T.nm.Nodup) (hx : G.T.nm[i]? = some x) (hok : FdOk G x cs) (hv : JE G.T X e fa) (ho : JE G.T X o fo) : JS G.T X (.Assign [.Attribute o x pos'] e pos) (sFldD (fun c => cs.contains c) i fa fo) :=
  js_fld g.K hx nd (fun c hc h => by rw [g.K]; exact hok c (by simpa using h)) hv ho (by rw [sw_of g]; cases e <;> rfl)
theorem s_aug (g : Gc G k N sc X) (b : Bd X) {i : Nat} {x : Str} {op : Operator} (he : JE G.T X e fa) (h : locC N sc i x = true) : JS G.T X (.AugAssign (.Name x pos') op e pos) (sAug i (bIop op) fa) := by
  unfold locC at h
  rw [Bool.and_eq_true] at h
  obtain ⟨h1, h2⟩ := h
  have hl := loc_of h2
  exact js_aug (og_iop op) (by rw [g.eN]; exact g.nd) (by rw [g.eN]; exact of_decide_eq_true h1) (by rw [g.eS]; exact hl) (.inl (b.fn x)) he
theorem s_for (g : Gc G k N sc X) (b : Bd X) {fi : IF} {gf : GF} (hi : JI G.T X tg iter fi) (hg : JGL G.T X tg gf) (hb : JSs G.T X sts f) (hs : isSet iter = false) : JS G.T X (.For tg iter sts [] pos) (sFor fi gf f) := js_for b.ps g.calm hi hg hb hs
theorem i_val (g : Gc G k N sc X) (ha : JE G.T X a fa) : JI G.T X tg a (iVal fa) := ji_val g.K ha
theorem i_rng1 (g : Gc G k N sc X) (hf : Fr G "range") (ha : JL G.T X [a] fl) (hg : gloC sc "range" = true) (hs : isStar a = false) : JI G.T X tg (.Call (.Name "range" p) [a] [] pos) (iRng1 fl) := ji_rng1 (g.gl hg).1 (g.free hf) ha hs
theorem i_rng2 (g : Gc G k N sc X) (hf : Fr G "range") (ha : JL G.T X [a, b] fl) (hg : gloC sc "range" = true) (hs : isStar a = false) (hs2 : isStar b = false) : JI G.T X tg (.Call (.Name "range" p) [a, b] [] pos) (iRng2 fl) := ji_rng2 (g.gl hg).1 (g.free hf) ha hs hs2
theorem i_enum (g : Gc G k N sc X) {elts : List Expr} {kk : Nat} {tpos : Pos} (hf : Fr G "enumerate") (ha : JE G.T X a fa) (hg : gloC sc "enumerate" = true) (hs : isStar a = false) : JI G.T X (.Tuple elts kk tpos) (.Call (.Name "enumerate" p) [a] [] pos) (iEnu fa) := ji_enum g.K (g.gl hg).1 (g.free hf) ha hs
theorem i_zip (g : Gc G k N sc X) {elts : List Expr} {kk : Nat} {tpos : Pos} (hf : Fr G "zip") (ha : JL G.T X [a, b] fl) (hg : gloC sc "zip" = true) (hs : isStar a = false) (hs2 : isStar b = false) : JI G.T X (.Tuple elts kk tpos) (.Call (.Name "zip" p) [a, b] [] pos) (iZipD fl) := ji_zip g.K (g.gl hg).1 (g.free hf) ha hs hs2
theorem Gc.blk (g : Gc G k N sc X) {s : Shared} {H : Hp} {scope : Scope} {C : Addr} {cl : List (Str × Addr)} {fp : List Addr} (hk : sc.kind = .function) : Gc G k N (relS scope sc) (X.blk s H scope (compEnvC scope cl C X.env) fp) where
  eP := g.eP
  ew := g.ew
  K := g.K
  mg := g.mg
  eb := g.eb
  eN := g.eN
  nd := g.nd
  eS := by show relabel scope X.env = _; rw [← g.eS]; rfl
  calm := g.calm
  room := g.room
/-- a block -/
structure BkC (N : List Str) (sc scope : Scope) (own : List (Str × Nat)) : Prop where
  kind : scope.kind = .function
  uniq : scope.names.all (fun y => decide (scope.names.lookup y.1 = some y.2)) = true
  ix : own.all (fun p => decide (N[p.2]? = some p.1)) = true
  free : scope.names.all (fun y => match y.2 with
    | .free => (match sc.names.lookup y.1 with
      | some .cell => true
      | some .free => true
      | _ => false)
    | .local => (own.map (·.1)).contains y.1 || !N.contains y.1
    | .cell => (own.map (·.1)).contains y.1 || !N.contains y.1
    | _ => true) = true
theorem BkC.ok (g : Gc G k N sc X) {scope : Scope} {own : List (Str × Nat)} (h : BkC N sc scope own) : BlkOk X.N X.env.scope scope own where
  kind := h.kind
  uniq := fun y hy => of_decide_eq_true (List.all_eq_true.mp h.uniq y hy)
  ix := fun p hp => by rw [g.eN]; exact of_decide_eq_true (List.all_eq_true.mp h.ix p hp)
  free := fun y hy e => by
    have := List.all_eq_true.mp h.free y hy
    rw [e] at this
    dsimp only at this
    rw [g.eS]
    split at this
    · rename_i q; exact .inl q
    · rename_i q; exact .inr q
    · cases this
  own := fun y hy e => by
    have := List.all_eq_true.mp h.free y hy
    rw [g.eN]
    have key : ((own.map (·.1)).contains y.1 || !N.contains y.1) = true := by
      rcases e with e | e <;> (rw [e] at this; exact this)
    rw [Bool.or_eq_true] at key
    rcases key with q | q
    · exact .inl (by simpa using q)
    · exact .inr (by simpa using q)
/-- the block's target -/
inductive TgC (N : List Str) (scope : Scope) : List Expr → List Nat → Prop
  | nil : TgC N scope [] []
  | cons {x p i es is} : (decide (N[i]? = some x) && isLoc (scope.names.lookup x)) = true → TgC N scope es is → TgC N scope (.Name x p :: es) (i :: is)
theorem rel_loc {scope : Scope} {x : Str} (h : isLoc (scope.names.lookup x) = true) : L2.Loc (relS scope sc) x ∧ (((scope.names.lookup x == some .cell) = true) ∨ (relS scope sc).names.lookup x = some .local) := by
  rcases loc_of h with q | q
  · have : (relS scope sc).names.lookup x = some .local := by
      have e : ∀ (l : List (Str × NameKind)), l.lookup x = some .local → (l.map fun (n, k) => if (k == .free && sc.kind == .function && sc.names.lookup n == some .cell) then (n, .cell) else (n, k)).lookup x = some .local := by
        intro l
        induction l with
        | nil => intro h; cases h
        | cons y l ih =>
          obtain ⟨n, k⟩ := y
          intro h
          rw [List.lookup_cons] at h
          rw [List.map_cons]
          by_cases hx : (x == n) = true
          · rw [hx] at h
            cases h
            dsimp only
            rw [if_neg (fun z => by cases z), List.lookup_cons, hx]
          · have hx : (x == n) = false := by simpa using hx
            rw [hx] at h
            dsimp only
            split <;> (rw [List.lookup_cons, hx]; exact ih h)
      exact e _ q
    exact ⟨.inl this, .inr this⟩
  · have : (relS scope sc).names.lookup x = some .cell := by
      have e : ∀ (l : List (Str × NameKind)), l.lookup x = some .cell → (l.map fun (n, k) => if (k == .free && sc.kind == .function && sc.names.lookup n == some .cell) then (n, .cell) else (n, k)).lookup x = some .cell := by
        intro l
        induction l with
        | nil => intro h; cases h
        | cons y l ih =>
          obtain ⟨n, k⟩ := y
          intro h
          rw [List.lookup_cons] at h
          rw [List.map_cons]
          by_cases hx : (x == n) = true
          · rw [hx] at h
            cases h
            dsimp only
            rw [if_neg (fun z => by cases z), List.lookup_cons, hx]
          · have hx : (x == n) = false := by simpa using hx
            rw [hx] at h
            dsimp only
            split <;> (rw [List.lookup_cons, hx]; exact ih h)
      exact e _ q
    exact ⟨.inr this, .inl (by rw [q]; rfl)⟩
theorem b_names (g : Gc G k N sc X) {scope : Scope} {s : Shared} {H : Hp} {C : Addr} {cl : List (Str × Addr)} {fp : List Addr} : ∀ {es : List Expr} {is : List Nat}, TgC N scope es is → PGs (X.blk s H scope (compEnvC scope cl C X.env) fp) es (gNames is) ∧ (∀ env : PySem.Env, (assignEach es env).length = is.length) ∧ (∀ env : PySem.Env, (assignEach es env).findIdx? (·.1) = none)
  | _, _, .nil => ⟨pgs_nil, fun _ => rfl, fun _ => rfl⟩
  | _, _, .cons (x := x) (i := i) h t => by
    obtain ⟨h1, h2, h3⟩ := b_names g (s := s) (H := H) (C := C) (cl := cl) (fp := fp) t
    rw [Bool.and_eq_true] at h
    have es : relabel scope X.env = relS scope sc := by rw [← g.eS]; rfl
    have rl := rel_loc (sc := sc) h.2
    refine ⟨pgs_cons (pg_name (by show X.N.Nodup; rw [g.eN]; exact g.nd) (by show X.N[i]? = _; rw [g.eN]; exact of_decide_eq_true h.1) ?_ ?_) h1, fun env => congrArg Nat.succ (h2 env), fun env => ?_⟩
    · show L2.Loc (relabel scope X.env) x
      rw [es]; exact rl.1
    · show (scope.names.lookup x == some .cell) = true ∨ (relabel scope X.env).names.lookup x = some .local
      rw [es]; exact rl.2
    · show List.findIdx? _ ((false, _) :: assignEach _ env) = none
      rw [List.findIdx?_cons]
      simp [h3 env]
/-- a block's parts: target, test -/
theorem b_nm (g : Gc G k N sc X) {scope : Scope} {own : List (Str × Nat)} {ifs : List Expr} {tst : TF} {x : Str} {i : Nat} {xp : Pos} (bc : BkC N sc scope own) (h : (decide (N[i]? = some x) && isLoc (scope.names.lookup x)) = true)
    (ts : ∀ (s : Shared) (H : Hp) (C : Addr) (cl : List (Str × Addr)) (fp : List Addr), PTs (X.blk s H scope (compEnvC scope cl C X.env) fp) ifs (tT G.T Wd tst)) : BlkJ G.T X scope own (.Name x xp) ifs (.nm i) tst where
  ok := bc.ok g
  ts := ts
  tg := fun s H C cl fp => by
    rw [Bool.and_eq_true] at h
    have es : relabel scope X.env = relS scope sc := by rw [← g.eS]; rfl
    have rl := rel_loc (sc := sc) h.2
    exact pg_name (by show X.N.Nodup; rw [g.eN]; exact g.nd) (by show X.N[i]? = _; rw [g.eN]; exact of_decide_eq_true h.1) (by show L2.Loc (relabel scope X.env) x; rw [es]; exact rl.1) (by show (scope.names.lookup x == some .cell) = true ∨ (relabel scope X.env).names.lookup x = some .local; rw [es]; exact rl.2)
theorem b_tp (g : Gc G k N sc X) {scope : Scope} {own : List (Str × Nat)} {ifs : List Expr} {tst : TF} {is : List Nat} {kk : Nat} {xp : Pos} (bc : BkC N sc scope own) (h : TgC N scope es is)
    (ts : ∀ (s : Shared) (H : Hp) (C : Addr) (cl : List (Str × Addr)) (fp : List Addr), PTs (X.blk s H scope (compEnvC scope cl C X.env) fp) ifs (tT G.T Wd tst)) : BlkJ G.T X scope own (.Tuple es kk xp) ifs (.tp is) tst where
  ok := bc.ok g
  ts := ts
  tg := fun s H C cl fp => by
    obtain ⟨h1, h2, h3⟩ := b_names g (s := s) (H := H) (C := C) (cl := cl) (fp := fp) h
    show PG _ _ (gTup G.T.K is.length (gNames is))
    rw [← g.K]
    exact pg_tup g.calm h1 (h2 _) (h3 _)
theorem t_no {scope : Scope} : ∀ (s : Shared) (H : Hp) (C : Addr) (cl : List (Str × Addr)) (fp : List Addr), PTs (X.blk s H scope (compEnvC scope cl C X.env) fp) [] (tT G.T Wd tYesF) :=
  fun s H C cl fp => ⟨fun pins s' σ H' Q I ⟨Y, ρ, B, st, h⟩ => pts_nil.run pins s' σ H' Q I (h H' B (Stp.refl st))⟩
theorem t_if {scope : Scope} (h : ∀ (s : Shared) (H : Hp) (C : Addr) (cl : List (Str × Addr)) (fp : List Addr), JT G.T (X.blk s H scope (compEnvC scope cl C X.env) fp) c ga) : ∀ (s : Shared) (H : Hp) (C : Addr) (cl : List (Str × Addr)) (fp : List Addr), PTs (X.blk s H scope (compEnvC scope cl C X.env) fp) [c] (tT G.T Wd ga) :=
  fun s H C cl fp => pts_one (h s H C cl fp Wd takes_blk)
/-- what stands in a block -/
abbrev InB (X : Cx) (scope : Scope) (R : Cx → Prop) : Prop := ∀ (s : Shared) (H : Hp) (C : Addr) (cl : List (Str × Addr)) (fp : List Addr), R (X.blk s H scope (compEnvC scope cl C X.env) fp)
theorem in_blk (g : Gc G k N sc X) {scope : Scope} {R : Cx → Prop} (h : ∀ X', Gc G k N (relS scope sc) X' → R X') (hk : sc.kind = .function) : InB X scope R := fun s H C cl fp => h _ (g.blk hk)
theorem w_lc (g : Gc G k N sc X) {scope : Scope} {own : List (Str × Nat)} {fi : IF} {ifs : List Expr} {nt : Nt} {tst : TF} (hi : JI G.T X tg iter fi) (bj : BlkJ G.T X scope own tg ifs nt tst) (he : InB X scope fun X' => JE G.T X' elt fe) (hix : nt.ix.all (fun i => (own.map (·.2)).contains i) = true) (hs : isSet iter = false) :
    JE G.T X (.ListComp elt [⟨tg, iter, ifs, 0⟩] scope pos) (eLc fi nt tst fe (own.map (·.2))) :=
  je_lc g.calm (by rw [g.eN]; exact g.nd) hi bj (fun i h => by simpa using List.all_eq_true.mp hix i h) he hs
theorem w_dc (g : Gc G k N sc X) {scope : Scope} {own : List (Str × Nat)} {fi : IF} {ifs : List Expr} {nt : Nt} {tst : TF} (hi : JI G.T X tg iter fi) (bj : BlkJ G.T X scope own tg ifs nt tst) (hk : InB X scope fun X' => JE G.T X' kx fk) (hv : InB X scope fun X' => JE G.T X' vx fv) (hix : nt.ix.all (fun i => (own.map (·.2)).contains i) = true) (hs : isSet iter = false) :
    JE G.T X (.DictComp kx vx [⟨tg, iter, ifs, 0⟩] scope pos) (eDc fi nt tst fk fv (own.map (·.2))) :=
  je_dc g.calm (by rw [g.eN]; exact g.nd) hi bj (fun i h => by simpa using List.all_eq_true.mp hix i h) hk hv hs
theorem s_setLc (g : Gc G k N sc X) {i : Nat} {y : Str} {py spos : Pos} {scope : Scope} {own : List (Str × Nat)} {fi : IF} {ifs : List Expr} {nt : Nt} {tst : TF} (hi : JI G.T X tg iter fi) (bj : BlkJ G.T X scope own tg ifs nt tst) (he : InB X scope fun X' => JE G.T X' elt fe) (hix : nt.ix.all (fun i => (own.map (·.2)).contains i) = true) (hs : isSet iter = false)
    (hy : decide (N[i]? = some y ∧ sc.names.lookup y = some .local) = true) (hw : swE sc (.Name y py) (.ListComp elt [⟨tg, iter, ifs, 0⟩] scope pos) = true) : JS G.T X (.Assign [.Name y py] (.ListComp elt [⟨tg, iter, ifs, 0⟩] scope pos) spos) (sAsg (gNam i) (eLc fi nt tst fe (own.map (·.2)))) :=
  js_setLc g.calm (by rw [g.eN]; exact g.nd) (by rw [g.eN]; exact (of_decide_eq_true hy).1) (by rw [g.eS]; exact (of_decide_eq_true hy).2) (by rw [sw_of g, hw]) hi bj (fun i h => by simpa using List.all_eq_true.mp hix i h) he hs
theorem s_setDc (g : Gc G k N sc X) {i : Nat} {y : Str} {py spos : Pos} {scope : Scope} {own : List (Str × Nat)} {fi : IF} {ifs : List Expr} {nt : Nt} {tst : TF} (hi : JI G.T X tg iter fi) (bj : BlkJ G.T X scope own tg ifs nt tst) (hk : InB X scope fun X' => JE G.T X' kx fk) (hv : InB X scope fun X' => JE G.T X' vx fv) (hix : nt.ix.all (fun i => (own.map (·.2)).contains i) = true) (hs : isSet iter = false)
    (hy : decide (N[i]? = some y ∧ sc.names.lookup y = some .local) = true) (hw : swE sc (.Name y py) (.DictComp kx vx [⟨tg, iter, ifs, 0⟩] scope pos) = true) : JS G.T X (.Assign [.Name y py] (.DictComp kx vx [⟨tg, iter, ifs, 0⟩] scope pos) spos) (sAsg (gNam i) (eDc fi nt tst fk fv (own.map (·.2)))) :=
  js_setDc g.calm (by rw [g.eN]; exact g.nd) (by rw [g.eN]; exact (of_decide_eq_true hy).1) (by rw [g.eS]; exact (of_decide_eq_true hy).2) (by rw [sw_of g, hw]) hi bj (fun i h => by simpa using List.all_eq_true.mp hix i h) hk hv hs
end
end Pu
namespace Pu
open PySem PySem.Spec PyProof.Rows L2
section
variable {G : Gb} {k : Nat} {N ps : List Str} {scope : Scope} {x q : Str} {pa : Arguments} {body : List Stmt} {kws : List (Str × V)} {f : Addr} {fd : FuncData} {fl : List Bool} {den : SF} {dvs : List V}
theorem fok {sp : Sp} (F : FunD G.T.K x q pa body scope dvs kws f fd) (S : FnScope N ps scope) (hsp : sp = spR G.T fl (runF N.length fl den)) (hl : fl.length = ps.length) (hN : fl.length ≤ N.length)
    (hbody : ∀ X, Gc G k N scope X → Bd X → JSs G.T X body den) : FnOk G.P G.w G.T.K G.mg G.base (CX G.P G.w) (k + 1) f fd ps sp := by
  subst hsp
  refine F.ok S (fun vs H Q E h => by rw [spR_len h, hl]) fun cdv A outer s H vs Q E hr hsp => ?_
  have g : Gc G k N scope (cxOf (CX G.P G.w) G.P G.w G.T.K G.mg G.base N q scope f cdv A outer s H E) := ⟨rfl, rfl, rfl, rfl, rfl, rfl, S.nd, rfl, rfl, hr⟩
  have b : Bd (cxOf (CX G.P G.w) G.P G.w G.T.K G.mg G.base N q scope f cdv A outer s H E) := ⟨fun _ => rfl, passes_of rfl⟩
  exact ⟨_, hbody _ g b (fun c d _ H => E c d H) (takes_of rfl rfl rfl rfl), body_run hN hsp⟩
theorem kc_plain (F : FunD G.T.K x q pa body scope [] kws f fd) (S : FnScope N ps scope) (hl : fl.length = ps.length) (hN : fl.length ≤ N.length)
    (hb : ∀ (kV doc pm : Value) (an : Option Addr) (cdv ct : Value) (us : List Value), us.length = ps.length → bindArgs (PySem.W.fnOf x q pa body scope .none kV doc pm an cdv ct) ⟨us, []⟩ = pure (ps.zip us))
    (hbody : ∀ X, Gc G k N scope X → Bd X → JSs G.T X body den) : Kc G (k + 1) f ⟨fl, runF N.length fl den⟩ :=
  ((fok F S rfl hl hN hbody).raw (F.bindsN hb) .nil).imp fun vs H Q E h => by rw [List.append_nil]; exact h
theorem Ars.imL {T : Tb} {H B : Hp} : ∀ {ws : List V} {es : List D}, RepL T B ws es → Ars T H B (es.map fun _ => false) ws es []
  | _, _, .nil => .nil
  | _, _, .cons a b => .im a (Ars.imL b)
theorem Ars.append {T : Tb} {H B : Hp} : ∀ {fl : List Bool} {vs : List V} {ds : List D} {as : List Addr} {ws : List V} {es : List D} {fs : List Bool}, Ars T H B fl vs ds as → RepL T B ws es → fs = es.map (fun _ => false) → Ars T H B (fl ++ fs) (vs ++ ws) (ds ++ es) as
  | _, _, _, _, _, _, fs, .nil, r, e => by
    subst e
    exact Ars.imL r
  | _, _, _, _, _, _, _, .im r t, r2, e => .im r (t.append r2 e)
  | _, _, _, _, _, _, _, .mu a b c t, r2, e => .mu a b c (t.append r2 e)
theorem RepL.app_inv {T : Tb} {B : Hp} {vs ws : List V} {ds es : List D} (h : RepL T B vs ds) (h' : RepL T B ws es) : RepL T B (vs ++ ws) (ds ++ es) := h.append h'
/-- the last ones filled up by dd -/
def fillF (dd : List D) (F : List D → Out) : List D → Out := fun ds => F (ds ++ dd)
theorem spR_fill {T : Tb} {fl fs : List Bool} {F : List D → Out} {vs ws : List V} {dd : List D} {H : Hp} {Q : VK} {E : XK} (hw : ∀ B, RepL T B ws dd) (hf : fs = dd.map fun _ => false) (h : spR T fl (fillF dd F) vs H Q E) : spR T (fl ++ fs) F (vs ++ ws) H Q E := by
  obtain ⟨B, ds, as, sub, A, h⟩ := h
  exact ⟨B, ds ++ dd, as, sub, A.append (hw B) hf, h⟩
/-- a flat default -/
def dvD : He.Dv → D
  | .non => .non
  | .bl b => .bl b
  | .int i => .int i
  | .str x => .str x
  | _ => .non
def flatDv : He.Dv → Bool
  | .non => true
  | .bl _ => true
  | .int _ => true
  | .str _ => true
  | _ => false
theorem dv_rep {T : Tb} {K : PySem.W.Frag} {B : Hp} {d : He.Dv} (h : flatDv d = true) : Rep T B (d.v K) (dvD d) := by
  cases d <;> first | exact .non | exact .bl | exact .int | exact .str | cases h
theorem dvs_rep {T : Tb} {K : PySem.W.Frag} {B : Hp} : ∀ {l : List He.Dv}, l.all flatDv = true → RepL T B (l.map (He.Dv.v K)) (l.map dvD)
  | [], _ => .nil
  | d :: l, h => by
    rw [List.all_cons, Bool.and_eq_true] at h
    exact .cons (dv_rep h.1) (dvs_rep h.2)
/-- defaults, all of them lacking behind n -/
theorem kc_dfl {dl : List He.Dv} {fl0 : List Bool} (F : FunD G.T.K x q pa body scope (dl.map (He.Dv.v G.T.K)) kws f fd) (S : FnScope N ps scope) (j : Nat) (hfl : (dl.drop j).all flatDv = true) (hd : dl ≠ []) (hn : fl0.length + (dl.length - j) = ps.length) (hN : ps.length ≤ N.length)
    (hb : ∀ (TA : Addr) (kV doc pm : Value) (an : Option Addr) (cdv ct : Value) (us its : List Value), us.length = fl0.length → its.length = dl.length →
      ∃ k, bindArgs (PySem.W.fnOf x q pa body scope (.ref TA) kV doc pm an cdv ct) ⟨us, []⟩ = seqItems? (.ref TA) >>= k ∧ k (some its.toArray) = pure (ps.zip (us ++ its.drop j)))
    (hfl2 : fl = fl0 ++ (dl.drop j).map fun _ => false)
    (hbody : ∀ X, Gc G k N scope X → Bd X → JSs G.T X body den) : Kc G (k + 1) f ⟨fl0, fillF ((dl.drop j).map dvD) (runF N.length fl den)⟩ := by
  have hd' : dl.map (He.Dv.v G.T.K) ≠ [] := fun e => hd (List.map_eq_nil_iff.mp e)
  obtain ⟨ds, hv, hB⟩ := F.binds1 fl0.length j hd' (by rw [List.length_map]; exact hn) fun TA kV doc pm an cdv ct us its h1 h2 => hb TA kV doc pm an cdv ct us its h1 (by rw [h2, List.length_map])
  have hl : fl.length = ps.length := by rw [hfl2, List.length_append, List.length_map, List.length_drop]; exact hn
  refine ((fok F S rfl hl (by omega) hbody).raw hB hv).imp fun vs H Q E h => ?_
  rw [← List.map_drop]
  rw [hfl2]
  rw [hfl2] at h
  exact spR_fill (fun B => dvs_rep hfl) (by rw [List.map_map]; rfl) h
/-- keyword-only ones, all of them lacking -/
theorem kc_kwd {kl : List (Str × He.Dv)} {fl0 : List Bool} (F : FunD G.T.K x q pa body scope [] (kl.map fun p => (p.1, p.2.v G.T.K)) f fd) (S : FnScope N ps scope) (hfl : (kl.map (·.2)).all flatDv = true) (hk : kl ≠ []) (hn : fl0.length + kl.length = ps.length) (hN : ps.length ≤ N.length)
    (hb : ∀ (DA : Addr) (doc pm : Value) (an : Option Addr) (cdv ct : Value) (us ks : List Value), us.length = fl0.length → ks.length = kl.length →
      KwChain DA ((kl.map (·.1)).zip ks) (bindArgs (PySem.W.fnOf x q pa body scope .none (.ref DA) doc pm an cdv ct) ⟨us, []⟩) (ps.zip (us ++ ks)))
    (hfl2 : fl = fl0 ++ kl.map fun _ => false)
    (hbody : ∀ X, Gc G k N scope X → Bd X → JSs G.T X body den) : Kc G (k + 1) f ⟨fl0, fillF ((kl.map (·.2)).map dvD) (runF N.length fl den)⟩ := by
  have hk' : kl.map (fun p => (p.1, p.2.v G.T.K)) ≠ [] := fun e => hk (List.map_eq_nil_iff.mp e)
  have e1 : (kl.map (fun p => (p.1, p.2.v G.T.K))).map (·.1) = kl.map (·.1) := by rw [List.map_map]; rfl
  have e2 : (kl.map (fun p => (p.1, p.2.v G.T.K))).map (·.2) = (kl.map (·.2)).map (He.Dv.v G.T.K) := by rw [List.map_map, List.map_map]; rfl
  obtain ⟨ds, hv, hB⟩ := F.binds0 fl0.length hk' (by rw [List.length_map]; exact hn) fun DA doc pm an cdv ct us ks h1 h2 => by
    rw [e1]; exact hb DA doc pm an cdv ct us ks h1 (by rw [h2, List.length_map])
  have hl : fl.length = ps.length := by rw [hfl2, List.length_append, List.length_map]; exact hn
  refine ((fok F S rfl hl (by omega) hbody).raw hB hv).imp fun vs H Q E h => ?_
  rw [e2]
  rw [hfl2]
  rw [hfl2] at h
  exact spR_fill (fun B => dvs_rep hfl) (by rw [List.map_map, List.map_map]; rfl) h
def starF (n : Nat) (F : List D → Out) : List D → Out := fun ds => if ds.length - n ≤ sizeLine then F (ds.take n ++ [.tup (ds.drop n)]) else .bad
theorem Ars.split {T : Tb} {H B : Hp} : ∀ {fl : List Bool} {m : Nat} {vs : List V} {ds : List D} {as : List Addr}, Ars T H B (fl ++ List.replicate m false) vs ds as → ∃ ws rest, vs = ws ++ rest ∧ ws.length = fl.length ∧ Ars T H B fl ws (ds.take fl.length) as ∧ RepL T B rest (ds.drop fl.length) ∧ rest.length = ds.length - fl.length
  | [], 0, _, _, _, .nil => ⟨[], [], rfl, rfl, .nil, .nil, rfl⟩
  | [], m + 1, v :: vs, d :: ds, as, A => by
    have A : Ars T H B (false :: ([] ++ List.replicate m false)) (v :: vs) (d :: ds) as := A
    cases A with
    | im r t =>
      obtain ⟨ws, rest, e1, e2, e3, e4, e5⟩ := Ars.split (fl := []) t
      obtain rfl := List.length_eq_zero_iff.mp e2
      have : rest = vs := e1.symm
      subst this
      refine ⟨[], v :: rest, rfl, rfl, ?_, .cons r (by simpa using e4), ?_⟩
      · cases e3; exact .nil
      · simp at e5 ⊢; exact e5
  | b :: fl, m, v :: vs, d :: ds, as, A => by
    have A : Ars T H B (b :: (fl ++ List.replicate m false)) (v :: vs) (d :: ds) as := A
    cases A with
    | im r t =>
      obtain ⟨ws, rest, e1, e2, e3, e4, e5⟩ := Ars.split t
      exact ⟨v :: ws, rest, by rw [e1]; rfl, congrArg Nat.succ e2, .im r e3, e4, by simp at e5 ⊢; omega⟩
    | mu x y z t =>
      obtain ⟨ws, rest, e1, e2, e3, e4, e5⟩ := Ars.split t
      exact ⟨_ :: ws, rest, by rw [e1]; rfl, congrArg Nat.succ e2, .mu x y z e3, e4, by simp at e5 ⊢; omega⟩
  | [], m + 1, [], _, _, A => by cases A
  | [], m + 1, _ :: _, [], _, A => by cases A
  | _ :: _, _, [], _, _, A => by cases A
  | _ :: _, _, _ :: _, [], _, A => by cases A
theorem Mus.up {T : Tb} {H B : Hp} : True := trivial
theorem spR_star {T : Tb} {fl : List Bool} {m : Nat} {F : List D → Out} {vs : List V} {H : Hp} {Q : VK} {E : XK} (h : spR T (fl ++ List.replicate m false) (starF fl.length F) vs H Q E) :
    ∃ ws rest, vs = ws ++ rest ∧ ws.length = fl.length ∧ rest.length ≤ sizeLine ∧ ∀ p, H p = none → spR T (fl ++ [false]) F (ws ++ [V.ref p]) (upd H p (.tup rest)) Q E := by
  obtain ⟨B, ds, as, sub, A, h⟩ := h
  obtain ⟨ws, rest, e1, e2, e3, e4, e5⟩ := A.split
  have hz : ds.length - fl.length ≤ sizeLine := by
    by_cases z : ds.length - fl.length ≤ sizeLine
    · exact z
    · have e : starF fl.length F ds = .bad := by unfold starF; rw [if_neg z]
      rw [e] at h; exact h.elim
  have e : starF fl.length F ds = F (ds.take fl.length ++ [.tup (ds.drop fl.length)]) := by unfold starF; rw [if_pos hz]
  rw [e] at h
  clear e
  refine ⟨ws, rest, e1, e2, by omega, fun p hp => ?_⟩
  have bp : B p = none := by
    cases q : B p with
    | none => rfl
    | some o => have := sub p o q; rw [hp] at this; cases this
  have l : Le B (upd B p (.tup rest)) := Le.of fun b u q => by rw [upd_ne (ne_of_none q bp)]; exact q
  have lH : ∀ a o, H a = some o → upd H p (.tup rest) a = some o := fun a o e => by rw [upd_ne (ne_of_none e hp)]; exact e
  have np : ∀ a ∈ as, a ≠ p := fun a ha z => by
    subst z; exact e3.there a ha hp
  have A1 : Ars T (upd H p (.tup rest)) (upd B p (.tup rest)) fl ws (ds.take fl.length) as := by
    clear h
    have key : ∀ {fl : List Bool} {vs : List V} {ds : List D} {as : List Addr}, (∀ a ∈ as, a ≠ p) → Ars T H B fl vs ds as → Ars T (upd H p (.tup rest)) (upd B p (.tup rest)) fl vs ds as := by
      intro fl vs ds as hn A
      induction A with
      | nil => exact .nil
      | im r t ih => exact .im (r.le l) (ih hn)
      | mu b o n t ih => exact .mu (by rw [upd_ne (hn _ List.mem_cons_self)]; exact b) (o.le l fun u q => lH _ u q) n (ih fun a ha => hn a (List.mem_cons_of_mem _ ha))
    exact key np e3
  refine ⟨upd B p (.tup rest), ds.take fl.length ++ [.tup (ds.drop fl.length)], as, fun a o e => ?_, A1.append (.cons (.tup (.inl (.inl upd_same)) (e4.le l)) .nil) rfl, ?_⟩
  · by_cases z : a = p
    · subst z; rw [upd_same] at e ⊢; exact e
    · rw [upd_ne z] at e; exact lH a o (sub a o e)
  · have rt : ∀ {H' B' ms}, Ret T (upd H p (.tup rest)) (upd B p (.tup rest)) as H' B' ms → Ret T H B as H' B' ms := fun {H' B' ms} r => {
      le := l.trans r.le
      sub := r.sub
      kp := fun a o e n b => r.kp a o (lH a o e) n (by rw [upd_ne (ne_of_none e hp)]; exact b)
      bn := fun a e => by
        rcases r.bn a e with z | z
        · by_cases y : a = p
          · subst y; exact .inr hp
          · rw [upd_ne y] at z; exact .inl z
        · refine .inr ?_
          cases q : H a with
          | none => rfl
          | some o => rw [lH a o q] at z; cases z
      ms := r.ms
      fr := fun a e => by
        have := r.fr a e
        cases q : H a with
        | none => rfl
        | some o => rw [lH a o q] at this; cases this }
    have hn' : ∀ a, upd H p (.tup rest) a = none → H a = none := fun a e => by
      cases q : H a with
      | none => rfl
      | some o => rw [lH a o q] at e; cases e
    split at h
    · rename_i r ms e
      intro v H' B' r1 r2
      refine h v H' B' (rt r1) ?_
      cases r with
      | im d => exact r2
      | ow d => obtain ⟨a, q1, q2, q3, q4⟩ := r2; exact ⟨a, q1, q2, q3, hn' a q4⟩
      | bo i => exact r2
    · rename_i c fs ms e
      exact fun dx gs H' B' r1 q1 q2 q3 => h dx gs H' B' (rt r1) q1 (hn' dx q2) q3
    · exact h.elim
theorem kc_star {pv : Str} {oc : Value} {od : Option Addr} (m : Nat) (F : FunD G.T.K x q pa body scope [] kws f fd) (S : FnScope N (ps ++ [pv]) scope) (hl : fl.length = ps.length) (hN : fl.length + 1 ≤ N.length)
    (hb : ∀ (kV doc pm : Value) (an : Option Addr) (cdv ct : Value) (us rest : List Value), us.length = ps.length → bindArgs (PySem.W.fnOf x q pa body scope .none kV doc pm an cdv ct) ⟨us ++ rest, []⟩ = (newTuple rest >>= fun t => pure (ps.zip us ++ [(pv, t)])))
    (hbody : ∀ X, Gc G k N scope X → Bd X → JSs G.T X body den) : Kc G (k + 1) f ⟨fl ++ List.replicate m false, starF fl.length (runF N.length (fl ++ [false]) den)⟩ := by
  obtain ⟨oc, od, dV, kV, doc, pm, an, cdv, ct, osl, rfl, lk, hcd, hD, hK⟩ := F.ex
  rcases hD with ⟨_, rfl⟩ | ⟨e, _⟩
  rotate_left
  · exact absurd rfl e
  have h := StX.fn_star (P := G.P) (w := G.w) (mg := G.mg) (base := G.base) (k := k) (CX := CX G.P G.w) (sp := spR G.T (fl ++ [false]) (runF N.length (fl ++ [false]) den)) lk hcd S StX.cxUp (fun us rest h => hb kV doc pm an cdv ct us rest h) fun A outer s H vs Q E hr hsp => by
    have g : Gc G k N scope (cxOf (CX G.P G.w) G.P G.w G.T.K G.mg G.base N q scope f cdv A outer s H E) := ⟨rfl, rfl, rfl, rfl, rfl, rfl, S.nd, rfl, rfl, hr⟩
    have b : Bd (cxOf (CX G.P G.w) G.P G.w G.T.K G.mg G.base N q scope f cdv A outer s H E) := ⟨fun _ => rfl, passes_of rfl⟩
    exact ⟨_, hbody _ g b (fun c d _ H => E c d H) (takes_of rfl rfl rfl rfl), body_run (by rw [List.length_append]; exact hN) hsp⟩
  refine h.imp fun vs H Q E q => ?_
  obtain ⟨ws, rest, e1, e2, e3, e4⟩ := spR_star q
  exact ⟨ws, rest, e1, by rw [e2, hl], e3, e4⟩
end
end Pu
namespace Pu
open PySem PySem.Spec PyProof.Rows L2
/-- a class's suite -/
def clsB : Stmt → List Stmt
  | .ClassDef (body := b) .. => b
  | _ => []
structure Tabs where
  nm : List Str
  cl : List Str
  globs : List Str
  gints : List (Str × Int)
  gstrs : List (Str × Str)
  frees : List Str
  noats : List (Nat × Str)
  meths : List (Nat × Str)
  mkrs : List Nat
  cts : List Ct
  muls : List Nat
  stats : List (Nat × Str)
  kds : List (Str × Str × Int)
  defs : List He5.DefA
/-- a static method's def -/
def smA (K : PySem.W.Frag) (C : Addr) (m : Str) : Addr := match PySem.W.recIn K (He.ma K C m) "staticmethod" with
  | some (.ref f :: _) => f
  | _ => 0
structure Zf (t : Tabs) (G : Gb) : Prop where
  nm : G.T.nm = t.nm
  cl : G.T.cl = t.cl
  nd : G.T.nm.Nodup
  gl : ∀ x, t.globs.contains x = true → G.mg x = some (.ref (He.ga G.T.K x))
  gi : ∀ x i, t.gints.lookup x = some i → ∃ u, G.mg x = some (.int i u)
  gs : ∀ x i, t.gstrs.lookup x = some i → ∃ u, G.mg x = some (.str i u)
  fr : ∀ x, t.frees.contains x = true → Fr G x
  cls : ∀ c, c < t.cl.length → Cls G.T.K (G.T.ca c)
  noat : ∀ c x, t.noats.contains (c, x) = true → NoAttr G.T.K (G.T.ca c) x
  mth : ∀ c m, t.meths.contains (c, m) = true → Meth G.T.K (G.T.ca c) m (He.ma G.T.K (G.T.ca c) m)
  sf : ∀ c, c < t.cl.length → PySem.W.selfFirst G.T.K (G.T.ca c) = true
  ff : ∀ c m, t.meths.contains (c, m) = true → PySem.W.fnIn G.T.K (He.ma G.T.K (G.T.ca c) m) = true
  mkt : ∀ c, t.mkrs.contains c = true → G.mg (t.cl.getD c "") = some (.ref (G.T.ca c)) ∧ Mk G.T.K (G.T.ca c) (He.ma G.T.K (G.T.ca c) "__init__")
  isi : IsG G t.cts
  fn : ∀ (i : Nat) (d : He5.DefA), t.defs[i]? = some d → ∃ fd, FunD G.T.K d.name d.qual d.params d.body d.scope (d.dvs G.T.K) (d.kws G.T.K) (d.at_ G.T.K) fd
section
variable {t : Tabs} {G : Gb} {k : Nat} {N : List Str} {sc : Scope} {X : Cx} {a b c e o : Expr} {es : List Expr} {pos : Pos} {fa fb : EF} {ga : TF}
theorem Zf.nmAt (Z : Zf t G) (i : Nat) (x : Str) (h : t.nm[i]? = some x) : G.T.nm[i]? = some x := by rw [Z.nm]; exact h
theorem Zf.clAt (Z : Zf t G) (c : Nat) {x : Str} (h : t.cl.getD c "" = x) : G.T.cl.getD c "" = x := by rw [Z.cl]; exact h
theorem Zf.fd (Z : Zf t G) (x : Str) (cs : List Nat) (h : cs.all (fun c => decide (c < t.cl.length) && t.noats.contains (c, x)) = true) : FdOk G x cs := fun c hc => by
  have := List.all_eq_true.mp h c hc
  rw [Bool.and_eq_true] at this
  exact ⟨Z.cls c (of_decide_eq_true this.1), Z.noat c x this.2⟩
theorem jt_w {f : TF} (h : JW G.T X e f) : JT G.T X e f := fun W tk => (h W tk).pt
/-- contracts of the program's defs -/
theorem Zf.fnG (Z : Zf t G) {x : Str} {S : Fs} (hx : t.globs.contains x = true) (hk : PySem.W.keepIn G.T.K (.ref (He.ga G.T.K x)) = true) (h : Kc G k (He.ga G.T.K x) S) : FnG G k x S := ⟨Z.gl x hx, hk, h⟩
theorem Zf.mtG (Z : Zf t G) {c : Nat} {x m : Str} {S : Fs} (hx : t.cl.getD c "" = x) (hc : c < t.cl.length) (hm : t.meths.contains (c, m) = true) (h : Kc G k (He.ma G.T.K (He.ga G.T.K x) m) S) : MtG G k m c S := by
  refine ⟨Z.cls c hc, Z.mth c m hm, ?_⟩
  unfold Tb.ca
  rw [Z.clAt c hx]
  exact h
theorem Zf.mkG (Z : Zf t G) {c : Nat} {x : Str} {fls : List Bool} {F : List D → Out} (hx : t.cl.getD c "" = x) (hc : c < t.cl.length) (hm : t.mkrs.contains c = true) (h : Kc G k (He.ma G.T.K (He.ga G.T.K x) "__init__") ⟨true :: fls, F⟩) : MkG G k x c fls F := by
  obtain ⟨h1, h2⟩ := Z.mkt c hm
  have e : G.T.ca c = He.ga G.T.K x := by unfold Tb.ca; rw [Z.clAt c hx]
  rw [e] at h1 h2
  rw [hx] at h1
  exact ⟨by rw [Z.cl]; exact hc, Z.clAt c hx, h1, h2, h⟩
end
end Pu
namespace PuM
open PySem PySem.W PySem.Calls PyProof.Rows
section
variable {prog : Program} {w : World} {A : Around} {E : Value → Shared → Prop} {s : Shared} {K : Frag} {x C L f : Addr} {h₀ : Heap} {m : Str → Option Value} {ox : Obj} {od : Option Obj}
theorem int_mul_ref {i : Int} {t : Tok} {Q : Value → Shared → Prop} (hx : s.heap.get? x = some ox) (hd : ∀ j u, ox.data ≠ .prim (.int j u)) (h : Q .notImplemented s) : wpAny (model prog w) A (call (.builtin "int.__mul__") [.int i t, .ref x]) Q E s := by
  refine wpAny_call_entry PySem.F.slot_int_mul (typeIs_int _ _ _) PySem.F.entry_int_mul ?_ (PySem.F.args_int_mul_2 _ _)
  have key : wpAny (model prog w) A.in1 (asInt? (.ref x)) (fun r s' => r = none ∧ s' = s) E s := by
    show wpAny _ _ (load x >>= fun ob => _) _ _ _
    refine wpAny_bind (wpAny_load hx ?_)
    split
    · rename_i j u e; exact absurd e (hd j u)
    · exact wpAny_pure ⟨rfl, rfl⟩
  unfold Builtin.«int.__mul__» Builtin.Int.intBinary
  refine wpAny_bind (m := slotArgs "__mul__" 1 _) (wpAny_pure ?_)
  refine wpAny_bind (m := Builtin.Int.intOfSelf _) (wpAny_pure ?_)
  refine wpAny_bind (m := asInt? _) (wpAny_mono key (fun r s' hr => ?_) fun _ _ e => e)
  obtain ⟨rfl, rfl⟩ := hr
  exact wpAny_bind (wpAny_rule (wpAny_pure ⟨_, rfl, h⟩))
theorem int_tryMul {i : Int} {t : Tok} {Q : Option Value → Shared → Prop} (hx : s.heap.get? x = some ox) (hd : ∀ j u, ox.data ≠ .prim (.int j u)) (h : Q none s) : wpAny (model prog w) A (tryMethod (.int i t) (PySem.dunder "mul") (.ref x)) Q E s :=
  by
  unfold tryMethod
  refine wpAny_bind ?_
  have ht : s.TypeIs (.int i t) "int" := typeIs_int _ _ _
  have hsl : Slot "int" (PySem.dunder "mul") "int.__mul__" := PySem.F.slot_int_mul
  with_reducible refine wpAny_callSpecial?_slot ht hsl ?_
  refine wpAny_mono (int_mul_ref (Q := fun v s' => v = .notImplemented ∧ Q none s') hx hd ⟨rfl, h⟩) (fun v s' h' => ?_) fun _ _ h' => h'
  obtain ⟨rfl, hq⟩ := h'
  exact wpAny_pure hq
theorem own_mulR {i : Int} {t : Tok} {Q : Value → Shared → Prop} {fm : Addr} (X : K.In s.heap) (I : InstAt s.heap x ox C od) (hd : ∀ j u, ox.data ≠ .prim (.int j u)) (hc : selfFirst K C = true)
    (hm : findIn K (.ref C) (PySem.dunder "mul") = some (some (.ref fm))) (hs : findIn K (.ref C) (dunderR "mul") = some (some (.ref f))) (hf : isFn K (.ref f) = true) (hsub : subIn K (.ref C) (.type "int") = some false)
    (h : wpAny (model prog w) A (call (.ref f) [.ref x, .int i t]) (W.CmpBack Q) E s) : wpAny (model prog w) A (binaryOp .Mult (.int i t) (.ref x)) Q E s := by
  obtain ⟨cd, rest, hcd, hmr⟩ := ksp_first hc
  have one := ksp_try (name := dunderR "mul") X I hs hf h
  have hx := I.at_
  obtain ⟨hh, g, d, tt, os⟩ := s
  have L1 : Looks (model prog w) hh (typeOf (.int i t)) (.type "int") := Looks.of_pure rfl
  have L2 : Looks (model prog w) hh (typeOf (.ref x)) (.ref C) := I.type
  have L3 : Looks (model prog w) hh (fillsNumberSlot (.type "int") "mul") true := Looks.of_pure PySem.F.fills_int_mul
  have L4 : Looks (model prog w) hh (fillsNumberSlot (.ref C) "mul") true := fills_K X hcd hmr hm
  have L5 : Looks (model prog w) hh (isSubtype (.ref C) (.type "int")) false := looks_subIn X hsub
  have hne : (Value.type "int" == Value.ref C) = false := Bool.eq_false_iff.mpr fun q => by cases beq_iff_eq.mp q
  have hpy : numberSlotInPython (.type "int") "mul" = pure false := rfl
  show wpAny _ _ (binaryOp .Mult _ _) _ _ _
  unfold binaryOp
  refine wpAny_holding ?_
  show wpAny _ _ (binaryOp1 "mul" _ _ >>= _) _ _ _
  refine wpAny_bind ?_
  unfold binaryOp1
  refine wpAny_bind (L1.at (wpAny_bind (L2.at (wpAny_bind (L3.at ?_)))))
  simp only [hne, Bool.false_eq_true, if_false]
  refine wpAny_bind (L4.at ?_)
  simp only [Bool.and_self, if_true]
  refine wpAny_bind (L5.at ?_)
  simp only [Bool.false_eq_true, if_false, pure_bind, Bool.not_false, Bool.and_self, if_true, hpy]
  refine wpAny_bind (m := tryMethod (.int i t) (PySem.dunder "mul") (.ref x)) ?_
  with_reducible refine int_tryMul hx hd ?_
  refine wpAny_bind (m := tryMethod (.ref x) (dunderR "mul") (.int i t)) ?_
  refine wpAny_mono one (fun r s' hr' => ?_) fun _ _ e => e
  obtain ⟨v, rfl, hq⟩ := hr'
  exact wpAny_bind (wpAny_rule (wpAny_pure (wpAny_pure hq)))
end
end PuM
namespace Pu
open PySem PySem.Spec PyProof.Rows L2
section
variable {T : Tb} {X : Cx} {W : WX} {Y : Fc} {σ : Sg} {H H1 : Hp} {ρ ρ2 : Rho} {B B2 : Hp} {x y : V} {ra rb : RV} {Q : VK}
/-- the callee's wish of two operands -/
theorem two_call {F : List D → Out} {sw : Bool} (q : PeL T Y σ H ρ B [x, y] [ra, rb] H1 ρ2 B2) (h : Aft T W Y σ H ρ B ((Oh.call F sw).fin ρ2 ra rb) fun r ρ' => ∀ v H' B', Pe T Y σ H ρ B v r H' ρ' B' → Q v H') :
    spR T [false, false] F (if sw = true then [y, x] else [x, y]) H1 Q (fun c d H' => W c d σ H') := by
  unfold Oh.fin at h
  dsimp only at h
  split at h
  rotate_left
  · exact h.elim
  rename_i a b ρ' e
  obtain ⟨B3, p, rl, l⟩ := setl_ok q e
  have key : ∀ {vs : List V} {ds : List D}, RepL T B3 vs ds → ds.length = 2 → Aft T W Y σ H ρ B ((F ds).rs ρ' []) (fun r ρ' => ∀ v H' B', Pe T Y σ H ρ B v r H' ρ' B' → Q v H') → spR T [false, false] F vs H1 Q (fun c d H' => W c d σ H') := by
    intro vs ds rl hl h
    have ars : Ars T H1 B3 [false, false] vs ds [] := by
      cases rl with
      | nil => cases hl
      | cons r1 t =>
        cases t with
        | nil => cases hl
        | cons r2 t =>
          cases t with
          | nil => exact .im r1 (.im r2 .nil)
          | cons _ _ => simp at hl
    refine ⟨B3, ds, [], p.st.sub, ars, ?_⟩
    have L : Lent σ ρ' [] [] := .nil
    cases ef : F ds with
    | bad => rw [ef] at h; exact h
    | ok r ms =>
      rw [ef] at h
      intro v H' B' rt rv
      obtain ⟨vr, nw⟩ := ret_val p.st L rt rv
      have st := p.trans (ret_step p.st L rt)
      exact h v H' B' ⟨st, vr, fun d a e1 e2 => p.fr a (nw d a e1 e2)⟩
    | exc c fs ms =>
      rw [ef] at h
      intro dx gs H' B' rt hd hn rf
      have st := p.trans (ret_step p.st L rt)
      exact h dx gs H' B' st hd (p.fr dx hn) rf
  obtain ⟨rx, ry⟩ : Rep T B3 x a ∧ Rep T B3 y b := by
    cases rl with
    | cons r1 t => cases t with | cons r2 t => exact ⟨r1, r2⟩
  cases sw with
  | true => exact key (.cons ry (.cons rx .nil)) rfl h
  | false => exact key (.cons rx (.cons ry .nil)) rfl h
theorem run_own {k : Nat} {f : Addr} {sp : Sp} {A : Around} {pins : List (Addr × Obj)} {s : Shared} {us : List Value} {vs : List V} (F : FnR X.prog X.w X.K X.mg X.base (CX X.prog X.w) k f sp) (hr : Room k A) (hA : A.frames = X.A.frames) (tk : Takes X W) (I : Inv X pins σ H s) (r : Vals vs us) (h : sp vs H Q fun c d H' => W c d σ H') :
    wpAny (model X.prog X.w) A (call (.ref f) us) (EP X pins σ Q) X.xe s := by
  have e0 : Env0 X.prog X.w X.K X.mg X.base A X.stack s H := by
    have e := I.env0
    exact ⟨by rw [hA]; exact e.frames, e.mod, e.bs, e.bsz, e.funs, e.frf, e.hok, e.bare⟩
  refine wpAny_call (codeAny_mono (F A X.stack s H us vs Q _ hr e0 r h) fun r' s' hq => ?_)
  cases r' with
  | error e => exact tk _ _ (XE.of_call I (fun _ _ _ h => h) hq)
  | ok fl =>
    cases fl with
    | ret u => exact I.after hq
    | _ => exact hq.elim
/-- an own operator's def -/
structure OwM (T : Tb) (X : Cx) (k : Nat) (m : Str) (c : Nat) (S : Fs) (f : Addr) : Prop where
  mth : Meth X.K (T.ca c) m f
  sf : PySem.W.selfFirst X.K (T.ca c) = true
  ff : PySem.W.fnIn X.K f = true
  fl : S.fl = [false, false]
  kp : Kp T X k f S
abbrev OwT (T : Tb) (X : Cx) (k : Nat) (m : Str) (l : List (Nat × Fs)) : Prop := ∀ c S, c < T.cl.length → l.lookup c = some S → ∃ f, OwM T X k m c S f
theorem OwM.sp {k : Nat} {m : Str} {c : Nat} {S : Fs} {f : Addr} (o : OwM T X k m c S f) : FnR X.prog X.w X.K X.mg X.base (CX X.prog X.w) k f (spR T [false, false] S.F) := by
  have := o.kp
  unfold Kp at this
  rw [o.fl] at this
  exact this
def lkO (l : List (Nat × Fs)) (c : Nat) (sw : Bool) : Oh := match l.lookup c with
  | some S => .call S.F sw
  | none => .ov .bad
theorem lkO_of {l : List (Nat × Fs)} {c : Nat} {sw : Bool} {ρ' : Rho} (hb : Aft T W Y σ H ρ B ((lkO l c sw).fin ρ' ra rb) fun r ρ' => ∀ v H' B', Pe T Y σ H ρ B v r H' ρ' B' → Q v H') : ∃ S, l.lookup c = some S ∧ Aft T W Y σ H ρ B ((Oh.call S.F sw).fin ρ' ra rb) fun r ρ' => ∀ v H' B', Pe T Y σ H ρ B v r H' ρ' B' → Q v H' := by
  unfold lkO at hb
  split at hb
  · rename_i S e; exact ⟨S, e, hb⟩
  · exact hb.elim
def hSame (l : List (Nat × Fs)) : D → D → Oh
  | .ins c _, .ins c' _ => if c = c' then lkO l c false else .ov .bad
  | _, _ => .ov .bad
def hMulI (l : List (Nat × Fs)) : D → D → Oh
  | .ins c _, .int _ => lkO l c false
  | _, _ => .ov .bad
def hRMul (l : List (Nat × Fs)) : D → D → Oh
  | .int _, .ins c _ => lkO l c true
  | _, _ => .ov .bad
theorem top0 (q : PeL T Y σ H ρ B [x, y] [ra, rb] H1 ρ2 B2) {a : D} (e : rdv ρ2 ra = some a) : Tp T H1 B2 x a := (q.val 0 x ra rfl rfl).top q.stp.st e
theorem top1 (q : PeL T Y σ H ρ B [x, y] [ra, rb] H1 ρ2 B2) {b : D} (e : rdv ρ2 rb = some b) : Tp T H1 B2 y b := (q.val 1 y rb rfl rfl).top q.stp.st e
theorem ep_back {pins : List (Addr × Obj)} {u : Value} {s' : Shared} (h : EP X pins σ Q u s') : PySem.W.CmpBack (EP X pins σ Q) u s' := by
  obtain ⟨v, H', I', r, q⟩ := h
  exact SlX.cmpback r ⟨v, H', I', r, q⟩
theorem oh_same {op : Operator} {l : List (Nat × Fs)} {k : Nat} (ho : OwT T X k (PySem.dunder op.info.2) l) (hr : Room k X.A) : OpH T X (binaryOp op) (hSame l) := by
  intro W tk pins s σ H1 x y v u Q Y I rx ry ⟨H, ρ, B, ra, rb, ρ2, B2, a, b, q, e1, e2, h⟩
  unfold hSame at h
  split at h
  rotate_left
  · exact h.elim
  rename_i c fs c' gs
  split at h
  rotate_left
  · exact h.elim
  rename_i ec
  subst ec
  obtain ⟨S, el, h⟩ := lkO_of h
  obtain ⟨p, dx, gx, rfl, ex, hc, _⟩ := (top0 q e1).ins q.stp.st.sub
  obtain ⟨p', dx', gx', rfl, ex', _, _⟩ := (top1 q e2).ins q.stp.st.sub
  obtain ⟨f, o⟩ := ho c S hc el
  cases rx
  cases ry
  obtain ⟨mA, J, _⟩ := ins_get I.hok ex
  obtain ⟨mB, J', _⟩ := ins_get I.hok ex'
  obtain ⟨od, J, _⟩ := J.look
  obtain ⟨od', J', _⟩ := J'.look
  obtain ⟨m, hF⟩ := I.fr
  refine PySem.W.binop_K hF I.ok.mod.kin J J'.type o.sf o.mth.at_ o.mth.fn ?_
  exact wpAny_mono (run_own (vs := [.ref p, .ref p']) o.sp hr rfl tk I (.cons rfl (.cons rfl .nil)) (two_call (sw := false) q h)) (fun u s' z => ep_back z) fun _ _ z => z
/-- the class's own operator against a whole number: what of the text it asks -/
structure MuM (K : PySem.W.Frag) (C : Addr) : Prop where
  sub : PySem.W.subIn K (.ref C) (.type "int") = some false
  bus : PySem.W.subIn K (.type "int") (.ref C) = some false
  fm : ∃ g : Addr, PySem.W.findIn K (.ref C) (PySem.dunder "mul") = some (some (.ref g))
  fr : ∃ g : Addr, PySem.W.findIn K (.ref C) (PySem.dunderR "mul") = some (some (.ref g))
  im : ∃ r, PySem.W.findIn K (.type "int") (PySem.dunder "mul") = some r
  ir : ∃ r, PySem.W.findIn K (.type "int") (PySem.dunderR "mul") = some r
theorem oh_mulI {l : List (Nat × Fs)} {k : Nat} (ho : OwT T X k (PySem.dunder "mul") l) (hM : ∀ c S, c < T.cl.length → l.lookup c = some S → MuM X.K (T.ca c)) (hr : Room k X.A) : OpH T X (binaryOp .Mult) (hMulI l) := by
  intro W tk pins s σ H1 x y v u Q Y I rx ry ⟨H, ρ, B, ra, rb, ρ2, B2, a, b, q, e1, e2, h⟩
  unfold hMulI at h
  split at h
  rotate_left
  · exact h.elim
  rename_i c fs i
  obtain ⟨S, el, h⟩ := lkO_of h
  obtain ⟨p, dx, gx, rfl, ex, hc, _⟩ := (top0 q e1).ins q.stp.st.sub
  obtain rfl := (top1 q e2).int
  obtain ⟨f, o⟩ := ho c S hc el
  cases rx
  obtain ⟨t, rfl⟩ := ry
  obtain ⟨mA, J, _⟩ := ins_get I.hok ex
  obtain ⟨od, J, _⟩ := J.look
  obtain ⟨m, hF⟩ := I.fr
  obtain ⟨M1, M2, ⟨g1, M3⟩, ⟨g2, M4⟩, ⟨r1, M5⟩, ⟨r2, M6⟩⟩ := hM c S hc el
  refine PySem.W.ksp_binT (T := "int") (op := .Mult) hF I.ok.mod.kin J rfl o.sf o.mth.at_ o.mth.fn M4 (.inr ⟨g2, rfl⟩) M5 M6 M2 ?_
  exact wpAny_mono (run_own (vs := [.ref p, .int i]) o.sp hr rfl tk I (.cons rfl (.cons ⟨t, rfl⟩ .nil)) (two_call (sw := false) q h)) (fun u s' z => ep_back z) fun _ _ z => z
theorem oh_rmul {l : List (Nat × Fs)} {k : Nat} (ho : OwT T X k (PySem.dunderR "mul") l) (hM : ∀ c S, c < T.cl.length → l.lookup c = some S → MuM X.K (T.ca c)) (hr : Room k X.A) : OpH T X (binaryOp .Mult) (hRMul l) := by
  intro W tk pins s σ H1 x y v u Q Y I rx ry ⟨H, ρ, B, ra, rb, ρ2, B2, a, b, q, e1, e2, h⟩
  unfold hRMul at h
  split at h
  rotate_left
  · exact h.elim
  rename_i i c fs
  obtain ⟨S, el, h⟩ := lkO_of h
  obtain ⟨p, dx, gx, rfl, ex, hc, _⟩ := (top1 q e2).ins q.stp.st.sub
  obtain rfl := (top0 q e1).int
  obtain ⟨f, o⟩ := ho c S hc el
  cases ry
  obtain ⟨t, rfl⟩ := rx
  obtain ⟨mA, J, _⟩ := ins_get I.hok ex
  obtain ⟨od, J, _⟩ := J.look
  obtain ⟨M1, M2, ⟨g1, M3⟩, ⟨g2, M4⟩, ⟨r1, M5⟩, ⟨r2, M6⟩⟩ := hM c S hc el
  refine PuM.own_mulR I.kIn J (fun j u z => by cases z) o.sf M3 o.mth.at_ o.mth.fn M1 ?_
  exact wpAny_mono (run_own (vs := [.ref p, .int i]) o.sp hr rfl tk I (.cons rfl (.cons ⟨t, rfl⟩ .nil)) (two_call (sw := true) q h)) (fun u s' z => ep_back z) fun _ _ z => z
/-- the answer is a truth value -/
def blF (neg : Bool) (F : List D → Out) : List D → Out := fun ds => match F ds with
  | .ok (.im (.bl b)) ms => .ok (.im (.bl (if neg = true then !b else b))) ms
  | .exc c fs ms => .exc c fs ms
  | _ => .bad
def hIn (neg : Bool) (l : List (Nat × Fs)) : D → D → Oh := fun _ b => match b with
  | .ins c _ => (match l.lookup c with
    | some S => .call (blF neg S.F) true
    | none => .ov .bad)
  | _ => .ov .bad
/-- from a call whose answer is a truth value, turned -/
theorem spR_bl {fl : List Bool} {F : List D → Out} {neg : Bool} {vs : List V} {E : XK} (h : spR T fl (blF neg F) vs H Q E) : spR T fl F vs H (fun v H' => ∃ b, v = .bl b ∧ Q (.bl (if neg = true then !b else b)) H') E := by
  obtain ⟨B, ds, as, sub, A, h⟩ := h
  refine ⟨B, ds, as, sub, A, ?_⟩
  unfold blF at h
  cases ef : F ds with
  | bad => rw [ef] at h; exact h
  | exc c fs ms => rw [ef] at h; exact h
  | ok r ms =>
    rw [ef] at h
    cases r with
    | im d =>
      cases d with
      | bl b =>
        intro v H' B' rt rv
        cases rv
        exact ⟨b, rfl, h (.bl (if neg = true then !b else b)) H' B' rt .bl⟩
      | _ => exact h.elim
    | _ => exact h.elim
theorem tru_bl {A : Around} {P : Bool → Shared → Prop} {b : Bool} {s : Shared} (h : P b s) : wpAny (model X.prog X.w) A (truthy (.bool b)) P X.xe s := wpAny_pure h
theorem oh_in {neg : Bool} {op : CmpOp} {l : List (Nat × Fs)} {k : Nat} (hop : (neg = false ∧ op = .In) ∨ (neg = true ∧ op = .NotIn)) (ho : OwT T X k "__contains__" l) (hr : Room k X.A) : OpH T X (compareOp op) (hIn neg l) := by
  intro W tk pins s σ H1 x y v u Q Y I rx ry ⟨H, ρ, B, ra, rb, ρ2, B2, a, b, q, e1, e2, h⟩
  unfold hIn at h
  split at h
  rotate_left
  · exact h.elim
  rename_i c fs
  split at h
  rotate_left
  · exact h.elim
  rename_i S el
  obtain ⟨p, dx, gx, rfl, ex, hc, _⟩ := (top1 q e2).ins q.stp.st.sub
  obtain ⟨f, o⟩ := ho c S hc el
  cases ry
  obtain ⟨mA, J, _⟩ := ins_get I.hok ex
  obtain ⟨od, J, _⟩ := J.look
  obtain ⟨m, hF⟩ := I.fr
  have run := run_own (vs := [.ref p, x]) o.sp hr rfl tk I (.cons rfl (.cons rx .nil)) (spR_bl (two_call (sw := true) q h))
  rcases hop with ⟨rfl, rfl⟩ | ⟨rfl, rfl⟩
  · refine PySem.W.in_K hF I.ok.mod.kin J o.mth.at_ o.mth.fn (wpAny_mono run (fun w s' z => ?_) fun _ _ z => z)
    obtain ⟨z', H', I', rz, b, rfl, qz⟩ := z
    cases rz
    exact tru_bl ⟨.bl b, H', I', rfl, qz⟩
  · refine PySem.W.notIn_K hF I.ok.mod.kin J o.mth.at_ o.mth.fn (wpAny_mono run (fun w s' z => ?_) fun _ _ z => z)
    obtain ⟨z', H', I', rz, b, rfl, qz⟩ := z
    cases rz
    exact tru_bl ⟨.bl (!b), H', I', rfl, qz⟩
def hGet (l : List (Nat × Fs)) : D → D → Oh := fun a _ => match a with
  | .ins c _ => lkO l c false
  | _ => .ov .bad
theorem je_ixO {l : List (Nat × Fs)} {k : Nat} {a b : Expr} {fa fb : EF} {pos : Pos} (ho : OwT T X k "__getitem__" l) (hr : Room (k + 1) X.A) (ha : JE T X a fa) (hb : JE T X b fb) (hs : isSl b = false) : JE T X (.Subscript a b pos) (eOp (hGet l) fa fb) := fun W tk => ⟨fun pins s σ H Q I h => by
  refine Subscript_ (op_run (f := fun v u => subscriptTail a b v u) ?_ ha hb tk (fun _ _ z => z) I h)
  intro W tk pins s σ H1 x y v u Q Y I rx ry ⟨H, ρ, B, ra, rb, ρ2, B2, d, e, q, e1, e2, h⟩
  unfold hGet at h
  split at h
  rotate_left
  · exact h.elim
  rename_i c fs
  obtain ⟨S, el, h⟩ := lkO_of h
  obtain ⟨p, dx, gx, rfl, ex, hc, _⟩ := (top0 q e1).ins q.stp.st.sub
  obtain ⟨f, o⟩ := ho c S hc el
  cases rx
  obtain ⟨mA, J, _⟩ := ins_get I.hok ex
  obtain ⟨od, J, _⟩ := J.look
  obtain ⟨m, hF⟩ := I.fr
  refine PySem.W.sub_K hF I.ok.mod.kin J o.mth.at_ o.ff o.mth.fn (run_own (vs := [.ref p, y]) o.sp hr.in1 rfl tk I (.cons rfl (.cons ry .nil)) (two_call (sw := false) q h)) ?_
  cases b <;> first | rfl | cases hs⟩
end
end Pu
namespace Pu
open PySem PySem.Spec PyProof.Rows L2
section
variable {T : Tb} {X : Cx} {W : WX} {Y : Fc} {σ : Sg} {a b c e o : Expr} {es : List Expr} {pos apos p : Pos} {fa fb fc fo : EF} {fl : LF}
theorem je_dnew : JE T X (.Dict [] [] pos) (fun ρ => .ok (.ow (.dic [])) ρ) := fun W tk => PE.imp pe_dnewK fun σ H Q ⟨Y, ρ, B, st, h⟩ => fun p hp =>
  h _ _ _ (Pe.laid st hp ⟨[], upd_same, .nil⟩)
def dGo : List (EF × EF) → Rho → Rs (List (Key × D))
  | [], ρ => .ok [] ρ
  | (fk, fv) :: r, ρ => (fk ρ).bind fun rk ρ1 => match (rdv ρ1 rk).bind keyD with
    | some k => (fv ρ1).bind fun rv ρ2 => (match stl ρ2 rv with
      | some (d, ρ3) => (dGo r ρ3).bind fun kvs ρ4 => .ok ((k, d) :: kvs) ρ4
      | none => .bad)
    | none => .bad
def eDisp (ps : List (EF × EF)) : EF := fun ρ => (dGo ps ρ).bind fun kvs ρ1 => if kvs.length ≤ 15 then .ok (.ow (.dic (kvs.foldl (fun acc kv => putD acc kv.1 kv.2) []))) ρ1 else .bad
theorem pairs_run {D : Addr} {ob : HO} : ∀ (ps : List (EF × EF)) {H : Hp} {ρ : Rho} {B : Hp} {R : List (V × V) → Hp → Prop}, Sta T Y σ H ρ B → H D = some ob → B D = none → ¬ SA σ ρ D →
    Aft T W Y σ H ρ B (dGo ps ρ) (fun kvs ρ' => ∀ vs H' B', Stp T Y σ H ρ B H' ρ' B' → RepK T B' vs kvs → H' D = some ob → B' D = none → R (vs.map fun kv => (kV kv.1, kv.2)) H') →
    tPairs (ps.map fun q => (tE T W q.1, tE T W q.2)) σ H R
  | [], H, ρ, B, R, st, hD, bD, ns, h => h [] H B (Stp.refl st) .nil hD bD
  | (fk, fv) :: ps, H, ρ, B, R, st, hD, bD, ns, h => by
    unfold dGo at h
    refine ⟨Y, ρ, B, st, h.bind.imp fun rk ρ1 h1 x Ha Ba pk => ?_⟩
    split at h1
    rotate_left
    · exact h1.elim
    rename_i k ek
    obtain ⟨dk, e1, e2⟩ := Option.bind_eq_some_iff.mp ek
    have ex : x = kV k := (pk.val.top pk.stp.st e1).key e2
    refine ⟨Y, ρ1, Ba, pk.stp.st, (Aft.after pk.stp h1.bind).imp fun rv ρ2 h2 y Hb Bb pv => ?_⟩
    split at h2
    rotate_left
    · exact h2.elim
    rename_i d ρ3 es
    have q2 := pk.stp.trans pv.stp
    obtain ⟨hD2, bD2⟩ := keepD q2 hD bD ns
    have ns2 : ¬ SA σ ρ2 D := fun z => ns (q2.sa D z)
    obtain ⟨B5, q5, rp, l5, b5, _⟩ := stl_step q2 pv.val (fun d a e1 e2 => pk.stp.fr a (pv.new d a e1 e2)) es
    have bD5 : B5 D = none := by
      cases z : B5 D with
      | none => rfl
      | some u =>
        rcases b5 D (by rw [z]; exact fun z => nomatch z) with y' | ⟨ev, ⟨d', er⟩ | y'⟩
        · exact absurd bD2 y'
        · have := pv.new d' D er ev
          obtain ⟨hDa, _⟩ := keepD pk.stp hD bD ns
          rw [hDa] at this; cases this
        · exact absurd y' ns2
    refine pairs_run ps q5.st hD2 bD5 (fun z => ns (q5.sa D z)) ?_
    refine (Aft.after q5 h2.bind).imp fun kvs ρ4 h4 vs H' B' q6 rk6 hD6 bD6 => ?_
    have := h4 ((k, y) :: vs) H' B' (q5.trans q6) (.cons (rp.le q6.le) rk6) hD6 bD6
    rw [ex]
    exact this
theorem RepK.merge {B : Hp} : ∀ {more : List (Key × V)} {ds : List (Key × D)} {kvs : List (Key × V)} {es : List (Key × D)}, RepK T B more ds → RepK T B kvs es → RepK T B (mergeK kvs more) (ds.foldl (fun acc kv => putD acc kv.1 kv.2) es)
  | [], _, _, _, .nil, h => h
  | (k, v) :: more, _, kvs, es, .cons (d := d) (ds := ds) r t, h => by
    show RepK T B (mergeK (putK kvs k v) more) (List.foldl _ (putD es k d) ds)
    exact RepK.merge t (h.put r)
theorem je_disp {keys : List (Option Expr)} {values : List Expr} {ps : List (EF × EF)} (h : ∀ W, Takes X W → PPs X pos keys values (ps.map fun q => (tE T W q.1, tE T W q.2))) (hall : keys.all (·.isSome) = true) (hl : keys.length = values.length) (h0 : decide (0 < keys.length) = true) (h15 : decide (keys.length ≤ 15) = true) : JE T X (.Dict keys values pos) (eDisp ps) := fun W tk =>
  PE.imp (pe_disp (h W tk) hall hl (fun z => by rw [z] at h0; cases h0) (of_decide_eq_true h15)) fun σ H Q ⟨Y, ρ, B, st, h⟩ => fun D hD => by
    have h := h.bind
    have p0 : Stp T Y σ H ρ B (upd H D (.dK [])) ρ B := Stp.laid st hD
    have ns : ¬ SA σ ρ D := (st.fresh (o := .own 0) hD).2.1
    have bD : B D = none := (st.fresh (o := .own 0) hD).1
    refine pairs_run ps p0.st upd_same bD ns ((Aft.after p0 h).imp fun kvs ρ' h1 vs H' B' q rk hD' bD' => ?_)
    refine ⟨hD', vs, rfl, ?_⟩
    have h1 : Aft T W Y σ H ρ B (if kvs.length ≤ 15 then Rs.ok (RV.ow (.dic (kvs.foldl (fun acc kv => putD acc kv.1 kv.2) []))) ρ' else .bad) (fun r ρ' => ∀ v H' B', Pe T Y σ H ρ B v r H' ρ' B' → Q v H') := h1
    split at h1
    · rename_i hz
      refine ⟨by rw [rk.length]; exact hz, ?_⟩
      have tch := Stp.touch (o := .dK (mergeK [] vs)) st (p0.trans q) hD bD'
      exact h1 (.ref D) _ _ ⟨tch, ⟨D, rfl, bD', ⟨_, upd_same, rk.merge .nil⟩, fun z => ns ((p0.trans q).sa D z), (st.h0 hD).1, (st.h0 hD).2⟩, fun d a _ e2 => by cases e2; exact hD⟩
    · exact h1.elim
theorem pp_nil : ∀ W, Takes X W → PPs X pos [] [] (([] : List (EF × EF)).map fun q => (tE T W q.1, tE T W q.2)) := fun _ _ => pps_nil
theorem pp_cons {ks : List (Option Expr)} {vs : List Expr} {ps : List (EF × EF)} (hk : JE T X a fa) (hv : JE T X b fb) (h : ∀ W, Takes X W → PPs X pos ks vs (ps.map fun q => (tE T W q.1, tE T W q.2))) :
    ∀ W, Takes X W → PPs X pos (some a :: ks) (b :: vs) (((fa, fb) :: ps).map fun q => (tE T W q.1, tE T W q.2)) := fun W tk => pps_cons (hk W tk) (hv W tk) (h W tk)
def fmtD : D → Option Str
  | .str y => if y.length ≤ sizeLine then some y else none
  | .int i => if i.natAbs.log2 < 1920 then some (toString i : String) else none
  | _ => none
def eFmt (f : EF) : EF := fun ρ => (f ρ).bind fun r ρ1 => match (rdv ρ1 r).bind fmtD with
  | some x => .ok (.im (.str x)) ρ1
  | none => .bad
theorem je_fmt (ha : JE T X a fa) : JE T X (.FormattedValue a (-1) none pos) (eFmt fa) := fun W tk => PE.imp (pe_fmt (ha W tk)) fun σ H Q ⟨Y, ρ, B, st, h⟩ => ⟨Y, ρ, B, st, h.bind.imp fun r ρ1 h1 v H1 B1 q => by
  split at h1
  rotate_left
  · exact h1.elim
  rename_i x ex
  obtain ⟨d, e1, e2⟩ := Option.bind_eq_some_iff.mp ex
  have tp := q.val.top q.stp.st e1
  have fin : Q (.str x) H1 := h1 _ _ _ ⟨q.stp, (.str : Rep T B1 (.str x) (.str x)), fun d a z => nomatch z⟩
  cases d with
  | str y =>
    have e2 : (if y.length ≤ sizeLine then some y else none) = some x := e2
    by_cases hz : y.length ≤ sizeLine
    · rw [if_pos hz] at e2
      cases e2
      exact .inl ⟨x, tp.str, hz, fin⟩
    · rw [if_neg hz] at e2; cases e2
  | int i =>
    have e2 : (if i.natAbs.log2 < 1920 then some ((toString i : String) : Str) else none) = some x := e2
    by_cases hz : i.natAbs.log2 < 1920
    · rw [if_pos hz] at e2
      cases e2
      exact .inr ⟨i, tp.int, hz, fin⟩
    · rw [if_neg hz] at e2; cases e2
  | _ => cases e2⟩
inductive JJ (T : Tb) (X : Cx) : List Expr → List EF → Prop where
  | nil : JJ T X [] []
  | cons {e f es fs} : JE T X e f → JJ T X es fs → JJ T X (e :: es) (f :: fs)
theorem JJ.pj {W : WX} (tk : Takes X W) : ∀ {es : List Expr} {fs : List EF}, JJ T X es fs → PJ X es (fs.map (tE T W))
  | _, _, .nil => .nil
  | _, _, .cons h t => .cons (h W tk) (t.pj tk)
def jGo : List EF → Str → Rho → Rs Str
  | [], acc, ρ => .ok acc ρ
  | f :: fs, acc, ρ => (f ρ).bind fun r ρ1 => match rdv ρ1 r with
    | some (.str y) => if (acc ++ y).length ≤ sizeLine then jGo fs (acc ++ y) ρ1 else .bad
    | _ => .bad
def eJoin (fs : List EF) : EF := fun ρ => (jGo fs Str.empty ρ).bind fun x ρ1 => .ok (.im (.str x)) ρ1
theorem join_run : ∀ (fs : List EF) {acc : Str} {H : Hp} {ρ : Rho} {B : Hp} {R : Str → Hp → Prop}, Sta T Y σ H ρ B → Aft T W Y σ H ρ B (jGo fs acc ρ) (fun x ρ' => ∀ H' B', Stp T Y σ H ρ B H' ρ' B' → R x H') → tJs (fs.map (tE T W)) acc σ H R
  | [], acc, H, ρ, B, R, st, h => h H B (Stp.refl st)
  | f :: fs, acc, H, ρ, B, R, st, h => by
    unfold jGo at h
    refine ⟨Y, ρ, B, st, h.bind.imp fun r ρ1 h1 v H1 B1 q => ?_⟩
    split at h1
    rotate_left
    · exact h1.elim
    rename_i y ey
    split at h1
    rotate_left
    · exact h1.elim
    rename_i hz
    exact ⟨y, (q.val.top q.stp.st ey).str, hz, join_run fs q.stp.st ((Aft.after q.stp h1).imp fun x ρ' h2 H' B' q2 => h2 H' B' (q.stp.trans q2))⟩
theorem je_joined {v1 v2 : Expr} {rest : List Expr} {fs : List EF} (h : JJ T X (v1 :: v2 :: rest) fs) : JE T X (.JoinedStr (v1 :: v2 :: rest) pos) (eJoin fs) := fun W tk => PE.imp (pe_joined (h.pj tk)) fun σ H Q ⟨Y, ρ, B, st, h⟩ => by
  refine join_run fs st (h.bind.imp fun x ρ' h1 H' B' q => ?_)
  exact h1 (.str x) H' B' ⟨q, .str, fun d a z => nomatch z⟩
theorem je_joined1 (h : JE T X e fa) : JE T X (.JoinedStr [e] pos) fa := fun W tk => pe_joined1 (h W tk)
def eRev (f : EF) : EF := fun ρ => (f ρ).bind fun r ρ1 => match (rdv ρ1 r).bind asL with
  | some ds => .ok (.ow (.lst ds.reverse)) ρ1
  | none => .bad
theorem RepL.reverse {B : Hp} : ∀ {vs : List V} {ds : List D}, RepL T B vs ds → RepL T B vs.reverse ds.reverse
  | _, _, .nil => .nil
  | _, _, .cons r t => by rw [List.reverse_cons, List.reverse_cons]; exact t.reverse.append (.cons r .nil)
theorem je_rev {k : Nat} {p1 p2 p3 : Pos} (hK : X.K = T.K) (ha : JE T X a fa) : JE T X (.Subscript a (.Slice none none (some (.UnaryOp .USub (.Constant (.int 1) k p1) p2)) p3) pos) (eRev fa) := fun W tk => PE.imp (pe_revL (ha W tk)) fun σ H Q ⟨Y, ρ, B, st, h⟩ => ⟨Y, ρ, B, st, h.bind.imp fun r ρ1 h1 v H1 B1 q => by
  split at h1
  rotate_left
  · exact h1.elim
  rename_i ds ex
  obtain ⟨d, e1, e2⟩ := Option.bind_eq_some_iff.mp ex
  obtain ⟨a, xs, rfl, hq, rl⟩ := (q.val.top q.stp.st e1).asL q.stp.st.sub e2
  exact ⟨a, xs, rfl, by rw [hK]; exact hq, fun p hp => h1 _ _ _ (Pe.after q.stp (Pe.laid q.stp.st hp ⟨xs.reverse, upd_same, rl.reverse⟩))⟩⟩
end
end Pu
namespace PuM
open PySem PySem.W PySem.Calls PyProof.Rows
section
variable {prog : Program} {w : World} {KK : Type} [DecidableEq KK] {knd : KeyKind prog w KK} {A : Around} {E : Value → Shared → Prop} {s : Shared}
theorem samePairsF {nm : String} {a b : Addr} {ka kb : List (KK × Value)} {R : Bool → Shared → Prop} {oa ob : Obj} (St : Nat → Shared → Prop) (ha : (a == sysModules) = false) (hb : (b == sysModules) = false)
    (da : s.heap.DictOf knd a ka) (db : s.heap.DictOf knd b kb) (ga : s.heap.get? a = some oa) (gb : s.heap.get? b = some ob)
    (fix : ∀ i s', St i s' → s'.heap.get? a = some oa ∧ s'.heap.get? b = some ob) (len : ka.length = kb.length) (h0 : St 0 s)
    (turn : ∀ i s' k v, St i s' → ka[i]? = some (k, v) → (valueAt kb k = none ∧ R false s') ∨ ∃ y, valueAt kb k = some y ∧ wpAny (model prog w) A (eqBool v y) (fun r s2 => if r = true then St (i + 1) s2 else R false s2) E s')
    (fin : ∀ s', St ka.length s' → R true s') : wpAny (model prog w) A (Builtin.Dict.samePairs nm a b) R E s := by
  obtain ⟨oa', es, ep, hoa, _, hda, hka, hpa, _⟩ := da
  obtain ⟨ob', es', ep', hob, _, hdb, hkb, hpb, _⟩ := db
  rw [ga] at hoa
  cases hoa
  rw [gb] at hob
  cases hob
  have hla : ka.length = es.size := by rw [← hpa.length]; exact Array.length_toList
  have hlb : kb.length = es'.size := by rw [← hpb.length]; exact Array.length_toList
  have hfind : ∀ k, findBy knd.is es' k = valueAt kb k := fun k => by
    rw [← hpb.find k]
    clear hlb hpb hkb hdb gb fix
    obtain ⟨l⟩ := es'
    simp [findBy]
  unfold Builtin.Dict.samePairs Builtin.Dict.showsAll
  rw [if_neg (show ¬ (a == sysModules) = true by rw [ha]; exact Bool.false_ne_true), if_neg (show ¬ (b == sysModules) = true by rw [hb]; exact Bool.false_ne_true)]
  refine wpAny_bind (wpAny_pure (wpAny_bind (wpAny_pure ?_)))
  refine wpAny_bind (wpAny_dictEntries ga hda ?_)
  dsimp only
  refine wpAny_bind (wpAny_dictEntries gb hdb ?_)
  have hsz : es.size = es'.size := by rw [← hla, ← hlb]; exact len
  rw [if_neg (by rw [hsz]; simp)]
  refine wpAny_bind (wpAny_dictEpoch ga hda ?_)
  refine wpAny_bind ?_
  rw [Std.Legacy.Range.forIn_eq_forIn_range']
  simp only [Std.Legacy.Range.size, Nat.sub_zero, Nat.add_sub_cancel, Nat.div_one]
  refine wpAny_forIn_list _
    (fun rest q s' => q = (none, ()) ∧ ∃ i, rest = List.range' i (es.size - i) ∧ i ≤ es.size ∧ St i s')
    _ ?_ ?_ _ _ ⟨rfl, 0, by simp, Nat.zero_le _, h0⟩
  · rintro x rest q s' ⟨rfl, i, hr, hi, hst⟩
    have hlt : i < es.size := by
      rcases Nat.lt_or_ge i es.size with h | h
      · exact h
      · rw [Nat.sub_eq_zero_of_le h] at hr; simp at hr
    obtain ⟨rfl, hrest⟩ : x = i ∧ rest = List.range' (i + 1) (es.size - (i + 1)) := by
      have e : es.size - i = (es.size - (i + 1)) + 1 := by omega
      rw [e, List.range'_succ] at hr
      injection hr with h1 h2
      exact ⟨h1, h2⟩
    obtain ⟨ga', gb'⟩ := fix _ _ hst
    refine wpAny_bind (wpAny_dictEntries ga' hda ?_)
    rw [Array.getElem?_eq_getElem hlt]
    have hlt' : x < ka.length := by rw [hla]; exact hlt
    obtain ⟨k, v, hkv⟩ : ∃ k v, ka[x] = (k, v) := ⟨_, _, rfl⟩
    have hdrop : ka[x]? = some (k, v) := by rw [List.getElem?_eq_getElem hlt', hkv]
    obtain ⟨hkey, hval⟩ := hpa.get? (i := x) (e := es[x]) (k := k) (v := v) (by rw [Array.getElem?_toList]; exact Array.getElem?_eq_getElem hlt) hdrop
    obtain ⟨k', hk', hh⟩ := hka es[x] (Array.getElem_mem hlt)
    have ekk : k' = k := knd.inj _ _ _ hk' hkey
    rw [ekk] at hh
    have tn := turn x s' k v hst hdrop
    show wpAny _ _ (holding [es[x].key, es[x].val] _ >>= _) _ _ _
    rw [hh]
    refine wpAny_bind (wpAny_holding (wpAny_bind (wpAny_dictFind_of hkey gb' hdb hkb ?_)))
    cases hj : es'.findIdx? fun e => knd.is k e.key with
    | none =>
      have hn : valueAt kb k = none := by rw [← hfind k, findBy_of_findIdx?, hj]
      rcases tn with ⟨_, er⟩ | ⟨y, hy, _⟩
      · refine wpAny_pure ?_
        show wpAny _ _ (if (!false) = true then _ else _) _ _ _
        rw [if_pos (by decide)]
        exact wpAny_pure (wpAny_pure er)
      · rw [hn] at hy; exact nomatch hy
    | some j =>
      obtain ⟨hjlt, _, _⟩ := Array.findIdx?_eq_some_iff_getElem.mp hj
      have hv' : valueAt kb k = some es'[j].val := by
        rw [← hfind k, findBy_of_findIdx?, hj]
        simp [Array.getElem?_eq_getElem hjlt]
      refine wpAny_bind (wpAny_dictEntries gb' hdb ?_)
      rw [Array.getElem?_eq_getElem hjlt]
      rcases tn with ⟨hn, _⟩ | ⟨y, hy, he⟩
      · rw [hv'] at hn; exact nomatch hn
      · have ey : es'[j].val = y := Option.some.inj (hv'.symm.trans hy)
        rw [← ey, ← hval] at he
        refine wpAny_holding (wpAny_mono he (fun r s2 h2 => ?_) fun _ _ z => z)
        cases r with
        | false =>
          rw [if_neg (by decide)] at h2
          show wpAny _ _ (if (!false) = true then _ else _) _ _ _
          rw [if_pos (by decide)]
          exact wpAny_pure (wpAny_pure h2)
        | true =>
          rw [if_pos rfl] at h2
          show wpAny _ _ (if (!true) = true then _ else _) _ _ _
          rw [if_neg (by decide)]
          refine wpAny_bind (wpAny_dictEpoch (fix _ _ h2).1 hda ?_)
          rw [if_neg (by simp)]
          exact wpAny_pure ⟨rfl, x + 1, hrest, hlt, h2⟩
  · rintro q s' ⟨rfl, i, hr, hi, hst⟩
    have hin : i = es.size := by
      rcases Nat.lt_or_ge i es.size with h | h
      · have e : es.size - i = (es.size - (i + 1)) + 1 := by omega
        rw [e, List.range'_succ] at hr; exact nomatch hr
      · exact Nat.le_antisymm hi h
    refine wpAny_pure ?_
    rw [hin, ← hla] at hst
    exact fin s' hst
/-- the sizes differ -/
theorem samePairsN {nm : String} {a b : Addr} {ka kb : List (KK × Value)} {R : Bool → Shared → Prop} (ha : (a == sysModules) = false) (hb : (b == sysModules) = false)
    (da : s.heap.DictOf knd a ka) (db : s.heap.DictOf knd b kb) (len : ka.length ≠ kb.length) (h : R false s) : wpAny (model prog w) A (Builtin.Dict.samePairs nm a b) R E s :=
  samePairsP (r := false) ha hb da db (fun e => absurd e len) (by rw [Bool.and_false]; exact h)
theorem rc_dicts {neg : Bool} {op : CmpOp} (hop : (neg = false ∧ op = .Eq) ∨ (neg = true ∧ op = .NotEq)) {a b : Addr} {ka kb : List (KK × Value)} {Q : Value → Shared → Prop}
    (da : s.heap.DictOf knd a ka) (db : s.heap.DictOf knd b kb) (hu : A.units < cLine)
    (h : ∀ nm, wpAny (model prog w) A.in1 (Builtin.Dict.samePairs nm a b) (fun r s' => Q (.bool (if neg = true then !r else r)) s') E s) : wpAny (model prog w) A (richCompare op (.ref a) (.ref b)) Q E s := by
  rcases hop with ⟨rfl, rfl⟩ | ⟨rfl, rfl⟩
  · refine wpAny_richCompare_same_room (op := .Eq) da.typeIs db.typeIs PySem.F.slot_dict_eq (wpAny_call_entry PySem.F.slot_dict_eq da.typeIs PySem.F.entry_dict_eq ?_ (PySem.F.args_dict_eq_2 _ _)) hu
    show wpAny _ _ (Builtin.Dict.dictSlotArgs "__eq__" ⟨[.ref a, .ref b], []⟩ >>= _) _ _ s
    refine wpAny_bind ?_
    unfold Builtin.Dict.dictSlotArgs
    refine wpAny_bind (wpAny_notOrdered_dict da.typeIs ?_)
    show wpAny _ _ (pure (Value.ref a, Value.ref b)) _ _ s
    refine wpAny_pure ?_
    refine wpAny_bind (wpAny_isInstance (T := "dict") db.typeIs PySem.F.sub_dict_dict ?_)
    simp only [Bool.not_true, Bool.false_eq_true, if_false]
    refine wpAny_bind (wpAny_pure (wpAny_bind (wpAny_pure ?_)))
    refine wpAny_bind (wpAny_mono (h _) (fun r s' q => ?_) fun _ _ z => z)
    refine wpAny_pure ⟨_, rfl, ?_, ?_⟩
    · exact fun x => nomatch x
    · simpa using q
  · refine wpAny_richCompare_same_room (op := .NotEq) da.typeIs db.typeIs PySem.F.slot_dict_ne (wpAny_call_entry PySem.F.slot_dict_ne da.typeIs PySem.F.entry_dict_ne ?_ (PySem.F.args_dict_ne_2 _ _)) hu
    show wpAny _ _ (Builtin.Dict.dictSlotArgs "__ne__" ⟨[.ref a, .ref b], []⟩ >>= _) _ _ s
    refine wpAny_bind ?_
    unfold Builtin.Dict.dictSlotArgs
    refine wpAny_bind (wpAny_notOrdered_dict da.typeIs ?_)
    show wpAny _ _ (pure (Value.ref a, Value.ref b)) _ _ s
    refine wpAny_pure ?_
    refine wpAny_bind (wpAny_isInstance (T := "dict") db.typeIs PySem.F.sub_dict_dict ?_)
    simp only [Bool.not_true, Bool.false_eq_true, if_false]
    refine wpAny_bind (wpAny_pure (wpAny_bind (wpAny_pure ?_)))
    refine wpAny_bind (wpAny_mono (h _) (fun r s' q => ?_) fun _ _ z => z)
    refine wpAny_pure ⟨_, rfl, ?_, ?_⟩
    · exact fun x => nomatch x
    · simpa using q
end
section
variable {prog : Program} {w : World} {A : Around} {E : Value → Shared → Prop} {s : Shared} {K : Frag} {x C L f : Addr} {h₀ : Heap} {m : Str → Option Value} {ox : Obj} {od : Option Obj}
/-- None == an own object: its own method answers -/
theorem none_eq_own {Q : Value → Shared → Prop} (hu : A.units < cLine) (X : K.In s.heap) (I : InstAt s.heap x ox C od) (hsub : subIn K (.ref C) (.type "NoneType") = some false)
    (hs : findIn K (.ref C) (cmpInfo .Eq).2.2 = some (some (.ref f))) (hf : isFn K (.ref f) = true)
    (h : wpAny (model prog w) A (call (.ref f) [.ref x, .none]) (W.CmpBack Q) E s) : wpAny (model prog w) A (richCompare .Eq .none (.ref x)) Q E s := by
  have hx := I.at_
  have one : wpAny (model prog w) A (tryCompare (.ref x) (cmpInfo .Eq).2.2 .none) (fun r s' => ∃ v, r = some v ∧ Q v s') E s := by
    unfold tryCompare
    refine wpAny_bind (ifBound_K X I hs hf (wpAny_mono h (fun v s' hv => ?_) fun _ _ e => e))
    cases v <;> first | exact hv.elim | exact wpAny_pure ⟨_, rfl, hv⟩
  have dec : ∀ {P : Option Value → Shared → Prop}, P none s → wpAny (model prog w) A (tryCompare .none (cmpInfo .Eq).2.1 (.ref x)) P E s := by
    intro P hP
    unfold tryCompare
    have ht : s.TypeIs .none "NoneType" := typeIs_none _
    refine wpAny_bind ?_
    with_reducible refine wpAny_callSpecialIfBound?_slot ht PySem.F.slot_NoneType_eq ?_
    refine wpAny_call_entry PySem.F.slot_NoneType_eq ht PySem.F.entry_NoneType_eq ?_ (PySem.F.args_NoneType_eq_2 _ _)
    unfold Builtin.«NoneType.__eq__»
    refine wpAny_bind (m := slotArgs "__eq__" 1 _) (wpAny_pure ?_)
    exact wpAny_pure ⟨_, rfl, wpAny_pure hP⟩
  unfold richCompare
  rw [show oneThing? .Eq .none (.ref x) = none from rfl]
  refine wpAny_holding (wpAny_bind (wpAny_cRoomFor hu ?_))
  have e1 : typeOf .none = pure (.type "NoneType") := rfl
  refine wpAny_bind (wpAny_of_eq e1 (wpAny_bind (I.type.here ?_)))
  rw [show (Value.type "NoneType" != Value.ref C) = true from by simp]
  rw [if_pos rfl]
  refine wpAny_bind ((looks_subIn X hsub).here ?_)
  simp only [Bool.false_eq_true, if_false]
  refine wpAny_bind (dec ?_)
  simp only [Bool.not_false, if_true]
  refine wpAny_bind (wpAny_mono one (fun r s' hr => ?_) fun _ _ e => e)
  obtain ⟨v, rfl, hq⟩ := hr
  exact wpAny_pure hq
theorem ne_bind (self : Value) : bindSpecial (.builtin "object.__ne__") self = pure (.builtin "object.__ne__", [self]) :=
  (Slot.of (T := "object") (name := "__ne__") (owner := "object") (n := "__ne__") (by rw [typeLookup_type, builtinLookup_eq_fast]; kernel_rfl) (by decide +kernel) (by decide +kernel) (by decide +kernel)
    (.inl (by decide +kernel)) (by rw [isSubtype_type]; kernel_rfl)).bind self
theorem ne_plain : plainId "object.__ne__" = true := by decide +kernel
theorem own_ne {b : Value} {tb : Value} {Q : Value → Shared → Prop} (hu : A.units + 1 < cLine) (X : K.In s.heap) (I : InstAt s.heap x ox C od) (hb : Looks (model prog w) s.heap (typeOf b) tb) (hn : notFirst K C tb = true)
    (hne : findIn K (.ref C) (cmpInfo .NotEq).2.1 = some (some (.builtin "object.__ne__"))) (hs : findIn K (.ref C) "__eq__" = some (some (.ref f))) (hf : isFn K (.ref f) = true) (hob : mroIn K C (.type "object") = some true)
    (h : wpAny (model prog w) A.in1 (call (.ref f) [.ref x, b]) (fun v s' => ∃ r, v = .bool r ∧ Q (.bool (!r)) s') E s) : wpAny (model prog w) A (richCompare .NotEq (.ref x) b) Q E s := by
  have t2 : Looks (model prog w) s.heap (isInstance (.ref x) (.type "object")) true := I.type.andThen (looks_mroIn X hob)
  have entry : wpAny (model prog w) A.in1 (Builtin.«object.__ne__» ⟨[.ref x, b], []⟩) (fun fin s' => ∃ r, fin = .done (.ret (.bool (!r))) ∧ Q (.bool (!r)) s') E s := by
    unfold Builtin.«object.__ne__»
    refine wpAny_bind (m := slotArgs "__ne__" 1 _) (wpAny_pure ?_)
    refine wpAny_bind (wpAny_cRoomFor hu ?_)
    refine wpAny_bind (m := callSpecialIfBound? (.ref x) "__eq__" [b]) (ifBound_K X I hs hf (wpAny_mono h (fun v s' hv => ?_) fun _ _ e => e))
    obtain ⟨r, rfl, hq⟩ := hv
    refine wpAny_bind (m := truthy (.bool r)) (wpAny_pure ?_)
    exact wpAny_pure ⟨r, rfl, hq⟩
  have one : wpAny (model prog w) A (tryCompare (.ref x) (cmpInfo .NotEq).2.1 b) (fun r s' => ∃ v, r = some v ∧ Q v s') E s := by
    unfold tryCompare
    refine wpAny_bind ?_
    simp only [callSpecialIfBound?, bindSpecialIfBound?]
    refine wpAny_holding (wpAny_bind (wpAny_bind (wpAny_bind (I.type.here ((looks_findIn X hne).here ?_)))))
    have fin : wpAny (model prog w) A (call (.builtin "object.__ne__") ([.ref x] ++ [b]) >>= fun v => pure (some v)) (fun r s' => wpAny (model prog w) A (match r with
        | some .notImplemented => pure none
        | none => pure none
        | some v => pure (some v)) (fun r s' => ∃ v, r = some v ∧ Q v s') E s') E s := by
      refine wpAny_bind (wpAny_call (codeAny_call_builtin ne_plain PySem.F.cmpEntry_ne (check_slot PySem.F.cmpKind_ne PySem.F.cmpSplit_ne t2 (PySem.F.cmpArgs_ne _ _) (wpAny_mono entry (fun fin s' hfin => ?_) fun _ _ e => e))))
      obtain ⟨r, rfl, hq⟩ := hfin
      exact wpAny_pure (wpAny_pure ⟨_, rfl, hq⟩)
    refine wpAny_bind (wpAny_askSetting (wpAny_ite ?_))
    split
    · exact wpAny_bind (wpAny_of_eq (ne_bind _) (wpAny_pure (by exact fin)))
    · exact wpAny_tryCatch (wpAny_bind (wpAny_of_eq (ne_bind _) (wpAny_pure (by exact fin))))
  unfold richCompare
  simp only [oneThing_ref]
  refine wpAny_holding (wpAny_bind (wpAny_cRoomFor (Nat.lt_of_succ_lt hu) ?_))
  refine wpAny_bind (I.type.here (wpAny_bind (hb.here ?_)))
  split
  · rename_i q
    have e : subIn K tb (.ref C) = some false := by
      rcases Bool.or_eq_true_iff.mp hn with e | e
      · rw [beq_iff_eq.mp e] at q; simp at q
      · exact beq_iff_eq.mp e
    refine wpAny_bind ((looks_subIn X e).here ?_)
    simp only [Bool.false_eq_true, if_false]
    refine wpAny_bind (wpAny_mono one (fun r s' z => ?_) fun _ _ e => e)
    obtain ⟨v, rfl, hq⟩ := z
    exact wpAny_pure hq
  · refine wpAny_bind (wpAny_pure ?_)
    simp only [Bool.false_eq_true, if_false]
    refine wpAny_bind (wpAny_mono one (fun r s' z => ?_) fun _ _ e => e)
    obtain ⟨v, rfl, hq⟩ := z
    exact wpAny_pure hq
theorem eqBool_of {a b : Value} {Q : Bool → Shared → Prop} (hne : (a == b) = false) (hf : ∀ x t, a ≠ .float x t) (h : wpAny (model prog w) A (richCompare .Eq a b) (fun v s' => ∃ r, v = .bool r ∧ Q r s') E s) : wpAny (model prog w) A (eqBool a b) Q E s := by
  unfold eqBool
  refine wpAny_holding ?_
  refine wpAny_ite_split (fun hab => absurd (hne.symm.trans hab) (by decide)) (fun _ => ?_)
  have fin : wpAny (model prog w) A (richCompare .Eq a b >>= truthOfDropped) Q E s := by
    refine wpAny_bind (wpAny_mono h (fun v s' hv => ?_) fun _ _ x => x)
    obtain ⟨r, rfl, q⟩ := hv
    exact wpAny_truthy_bool q
  split
  · rename_i x t y u e
    injection e with e1 e2
    exact absurd e1 (hf _ _)
  · exact fin
end
end PuM
namespace Pu
open PySem PySem.Spec PyProof.Rows L2
mutual
def dif : D → D → Bool
  | .ins _ fs, e => (match e with
    | .ins _ gs => difF fs gs
    | .non => true
    | _ => false)
  | .dic ks, e => (match e with
    | .dic ls => difK ks ls
    | _ => false)
  | .lst xs, e => (match e with
    | .lst ys => difL xs ys
    | _ => false)
  | .int i, e => (match e with
    | .int j => decide (i ≠ j)
    | .non => true
    | _ => false)
  | .str i, e => (match e with
    | .str j => decide (i ≠ j)
    | _ => false)
  | .bl i, e => (match e with
    | .bl j => i != j
    | _ => false)
  | .non, e => (match e with
    | .non => false
    | .ins _ _ => true
    | .int _ => true
    | _ => false)
  | _, _ => false
termination_by structural x => x
def difF : List (Nat × D) → List (Nat × D) → Bool
  | (_, d) :: r, es => (match es with
    | q :: s => dif d q.2 || difF r s
    | [] => true)
  | [], es => !es.isEmpty
termination_by structural x => x
def difK : List (Key × D) → List (Key × D) → Bool
  | (k, d) :: r, es => (match es with
    | q :: s => decide (k ≠ q.1) || (dif d q.2 || difK r s)
    | [] => true)
  | [], es => !es.isEmpty
termination_by structural x => x
def difL : List D → List D → Bool
  | d :: r, es => (match es with
    | e :: s => dif d e || difL r s
    | [] => true)
  | [], es => !es.isEmpty
termination_by structural x => x
end
section
variable {T : Tb} {B : Hp}
theorem rd_inj {a : Addr} {kvs ls : List (Key × V)} (h : Rd B a (.dK kvs)) (h' : Rd B a (.dK ls)) : kvs = ls := by
  rcases h with h | ⟨o, h⟩ <;> rcases h' with h' | ⟨o', h'⟩ <;> (rw [h] at h'; cases h' <;> rfl)
mutual
theorem dif_no {v : V} {d e : D} (h : Rep T B v d) (h' : Rep T B v e) : dif d e = false := by
  cases h with
  | non => cases h'; rfl
  | bl => cases h'; simp [dif]
  | int => cases h'; simp [dif]
  | str => cases h'; simp [dif]
  | lst h r =>
    cases h' with
    | lst h2 r2 =>
      rw [h] at h2
      cases h2
      show difL _ _ = false
      exact difL_no r r2
    | _ => rfl
  | scr h => cases h' <;> rfl
  | tup h r => cases h' <;> rfl
  | dic h r =>
    cases h' with
    | dic h2 r2 =>
      have := rd_inj h h2
      subst this
      show difK _ _ = false
      exact difK_no r r2
    | _ => rfl
  | ins h c r =>
    cases h' with
    | ins h2 c2 r2 =>
      rw [h] at h2
      injection h2 with h2
      injection h2 with e1 e2 e3
      subst e3
      show difF _ _ = false
      exact difF_no r r2
    | _ => rfl
  | glo h => cases h' <;> rfl
theorem difF_no {gs : List (Str × V)} {fs es : List (Nat × D)} (h : RepF T B gs fs) (h' : RepF T B gs es) : difF fs es = false := by
  cases h with
  | nil => cases h'; rfl
  | cons _ r t =>
    cases h' with
    | cons _ r' t' =>
      show (dif _ _ || difF _ _) = false
      rw [dif_no r r', difF_no t t']; rfl
theorem difK_no {gs : List (Key × V)} {fs es : List (Key × D)} (h : RepK T B gs fs) (h' : RepK T B gs es) : difK fs es = false := by
  cases h with
  | nil => cases h'; rfl
  | cons r t =>
    cases h' with
    | cons r' t' =>
      show (decide _ || (dif _ _ || difK _ _)) = false
      rw [dif_no r r', difK_no t t']; simp
theorem difL_no {gs : List V} {fs es : List D} (h : RepL T B gs fs) (h' : RepL T B gs es) : difL fs es = false := by
  cases h with
  | nil => cases h'; rfl
  | cons r t =>
    cases h' with
    | cons r' t' =>
      show (dif _ _ || difL _ _) = false
      rw [dif_no r r', difL_no t t']; rfl
end
end
end Pu
namespace Pu
open PySem PySem.Spec PyProof.Rows L2
def outB : Out → Option Bool
  | .ok (.im (.bl k)) _ => some k
  | _ => none
def eqOut (l : List (Nat × Fs)) (c : Nat) (a b : D) : Option Bool := match l.lookup c with
  | some S => outB (S.F [a, b])
  | none => none
def eqVal (l : List (Nat × Fs)) : D → D → Option Bool
  | .ins c fs, .ins c' gs => if c = c' then (match eqOut l c (.ins c fs) (.ins c' gs) with
    | some true => some true
    | some false => if difF fs gs = true then some false else none
    | none => none) else none
  | .ins c fs, .non => eqOut l c (.ins c fs) .non
  | .non, .ins c fs => eqOut l c (.ins c fs) .non
  | a, b => match flD a, flD b with
    | some x, some y => some (eqV x y)
    | _, _ => none
def eqDic (l : List (Nat × Fs)) : List (Key × D) → List (Key × D) → Option Bool
  | [], _ => some true
  | (k, d) :: r, es => match valD es k with
    | none => some false
    | some e => (match eqVal l d e with
      | some true => eqDic l r es
      | some false => some false
      | none => none)
def dcF (neg : Bool) (l : List (Nat × Fs)) : List D → Out
  | [.dic ks, .dic ls] => (match (if ks.length = ls.length then eqDic l ks ls else some false) with
    | some r => .ok (.im (.bl (if neg = true then !r else r))) []
    | none => .bad)
  | _ => .bad
def hEq (neg : Bool) (l : List (Nat × Fs)) : D → D → Oh
  | .dic _, .dic _ => .call (dcF neg l) false
  | .ins c _, .ins c' _ => if c = c' then (match l.lookup c with
    | some S => .call (blF neg S.F) false
    | none => .ov .bad) else .ov .bad
  | .ins c _, .non => (match l.lookup c with
    | some S => .call (blF neg S.F) false
    | none => .ov .bad)
  | _, _ => .ov .bad
/-- what of the text == of a class asks -/
structure EqM (K : PySem.W.Frag) (C : Addr) : Prop where
  nc : PySem.W.subIn K (.type "NoneType") (.ref C) = some false
  cn : PySem.W.subIn K (.ref C) (.type "NoneType") = some false
  ne : PySem.W.findIn K (.ref C) "__ne__" = some (some (.builtin "object.__ne__"))
  ob : PySem.W.mroIn K C (.type "object") = some true
section
variable {T : Tb} {H H1 H2 B B1 B2 : Hp}
theorem Ret.rfl' (sub : ∀ a o, B a = some o → H a = some o) : Ret T H B [] H B [] := ⟨Le.refl B, sub, fun _ _ e _ _ => e, fun _ e => .inl e, .nil, fun _ e => e⟩
theorem Ret.trans {ms ms' : List D} (h : Ret T H B [] H1 B1 ms) (h' : Ret T H1 B1 [] H2 B2 ms') : Ret T H B [] H2 B2 [] where
  le := h.le.trans h'.le
  sub := h'.sub
  kp := fun a o e n b => h'.kp a o (h.kp a o e n b) n (by
    cases q : B1 a with
    | none => rfl
    | some u =>
      rcases h.bn a (by rw [q]; exact fun z => nomatch z) with y | y
      · exact absurd b y
      · rw [e] at y; cases y)
  bn := fun a e => by
    rcases h'.bn a e with q | q
    · exact h.bn a q
    · exact .inr (h.fr a q)
  ms := .nil
  fr := fun a e => h.fr a (h'.fr a e)
theorem Ret.lock {p : Addr} {kvs : List (Key × V)} {od : Obj} (sub : ∀ a o, B a = some o → H a = some o) (hb : B p = some (.dK kvs)) : Ret T H B [] (upd H p (.frz od (.dK kvs))) (upd B p (.frz od (.dK kvs))) [] where
  le := fun b o e => by
    by_cases z : b = p
    · subst z; rw [hb] at e; cases e; exact ⟨_, upd_same, .inr ⟨od, kvs, rfl, rfl⟩⟩
    · exact ⟨o, by rw [upd_ne z]; exact e, .inl rfl⟩
  sub := fun b o e => by
    by_cases z : b = p
    · subst z; rw [upd_same] at e ⊢; exact e
    · rw [upd_ne z] at e ⊢; exact sub b o e
  kp := fun a o e _ b => by rw [upd_ne fun z => by rw [z, hb] at b; cases b]; exact e
  bn := fun a e => by
    by_cases z : a = p
    · subst z; exact .inl (by rw [hb]; exact fun z => nomatch z)
    · rw [upd_ne z] at e; exact .inl e
  ms := .nil
  fr := fun a e => by
    by_cases z : a = p
    · subst z; rw [upd_same] at e; cases e
    · rw [upd_ne z] at e; exact e
end
section
variable {T : Tb} {X : Cx} {W : WX} {k : Nat} {l : List (Nat × Fs)}
/-- what a comparison leaves -/
def EqP' (T : Tb) (X : Cx) (pins : List (Addr × Obj)) (σ : Sg) (H B : Hp) (s' : Shared) : Prop := ∃ H' B', Inv X pins σ H' s' ∧ Ret T H B [] H' B' []
/-- an own object's answer -/
theorem own_run {A : Around} {pins : List (Addr × Obj)} {s : Shared} {σ : Sg} {H B : Hp} {p : Addr} {y : V} {v : Value} {c : Nat} {fs : List (Nat × D)} {b : D} {S : Fs} {f : Addr} {r : Bool} (hr : Room k A) (hA : A.frames = X.A.frames) (tk : Takes X W) (I : Inv X pins σ H s)
    (sub : ∀ a o, B a = some o → H a = some o) (rx : Rep T B (.ref p) (.ins c fs)) (ry : RelV y v) (rb : Rep T B y b) (o : OwM T X k "__eq__" c S f) (e : outB (S.F [.ins c fs, b]) = some r) :
    wpAny (model X.prog X.w) A (call (.ref f) [.ref p, v]) (fun u s' => u = .bool r ∧ EqP' T X pins σ H B s') X.xe s := by
  have hsp : spR T [false, false] S.F [.ref p, y] H (fun v H' => v = .bl r ∧ ∃ B', Ret T H B [] H' B' []) (fun c d H' => W c d σ H') := by
    refine ⟨B, [.ins c fs, b], [], sub, .im rx (.im rb .nil), ?_⟩
    unfold outB at e
    split at e
    · rename_i k ms ef
      cases e
      rw [ef]
      intro v' H' B' rt rv
      cases rv
      exact ⟨rfl, B', rt.le, rt.sub, rt.kp, rt.bn, .nil, rt.fr⟩
    · cases e
  refine wpAny_mono (run_own (vs := [.ref p, y]) o.sp hr hA tk I (.cons rfl (.cons ry .nil)) hsp) (fun u s' z => ?_) fun _ _ z => z
  obtain ⟨v', H', I', r', rfl, B', rt⟩ := z
  cases r'
  exact ⟨rfl, H', B', I', rt⟩
abbrev EqT (T : Tb) (X : Cx) (k : Nat) (l : List (Nat × Fs)) : Prop := (∀ c S, c < T.cl.length → l.lookup c = some S → ∃ f, OwM T X k "__eq__" c S f) ∧ ∀ c, c < T.cl.length → EqM X.K (T.ca c)
theorem eq_val {A : Around} {pins : List (Addr × Obj)} {s : Shared} {σ : Sg} {H B : Hp} {x y : V} {u v : Value} {a b : D} {r : Bool} (ho : EqT T X k l) (hr : Room k A) (hA : A.frames = X.A.frames) (tk : Takes X W) (I : Inv X pins σ H s)
    (sub : ∀ a o, B a = some o → H a = some o) (rx : RelV x u) (ry : RelV y v) (ra : Rep T B x a) (rb : Rep T B y b) (e : eqVal l a b = some r) :
    wpAny (model X.prog X.w) A (eqBool u v) (fun r' s' => r' = r ∧ EqP' T X pins σ H B s') X.xe s := by
  have fin : ∀ {s' : Shared} {u : Value}, (u = .bool r ∧ EqP' T X pins σ H B s') → PySem.W.CmpBack (fun w s' => w = .bool r ∧ EqP' T X pins σ H B s') u s' := fun {s' u} z => by
    obtain ⟨rfl, z⟩ := z; exact ⟨rfl, z⟩
  have bl : ∀ {w : Value} {s' : Shared}, (w = .bool r ∧ EqP' T X pins σ H B s') → ∃ r', w = .bool r' ∧ (r' = r ∧ EqP' T X pins σ H B s') := fun {w s'} z => ⟨r, z.1, rfl, z.2⟩
  have insAt : ∀ {p : Addr} {c : Nat} {fs : List (Nat × D)}, Rep T B (.ref p) (.ins c fs) → ∃ dx gs od, c < T.cl.length ∧ H p = some (.ins (T.ca c) dx gs) ∧ PySem.W.InstAt s.heap p (PySem.W.instObj (T.ca c) dx) (T.ca c) (some od) := fun {p c fs} h => by
    cases h with
    | ins h c' r =>
      obtain ⟨mA, J, _⟩ := ins_get I.hok (sub _ _ h)
      obtain ⟨od, J, _⟩ := J.look
      exact ⟨_, _, od, c', sub _ _ h, J⟩
  obtain ⟨m, hF⟩ := I.fr
  have cmpOwn : ∀ {p : Addr} {c : Nat} {fs : List (Nat × D)} {y : V} {v : Value} {b : D} {tb : Value}, Rep T B (.ref p) (.ins c fs) → RelV y v → Rep T B y b → PySem.W.Looks (model X.prog X.w) s.heap (typeOf v) tb → PySem.W.notFirst X.K (T.ca c) tb = true → eqOut l c (.ins c fs) b = some r →
      wpAny (model X.prog X.w) A (richCompare .Eq (.ref p) v) (fun w s' => w = .bool r ∧ EqP' T X pins σ H B s') X.xe s := by
    intro p c fs y v b tb h ry rb ht hn e
    obtain ⟨dx, gs, od, hc, hH, J⟩ := insAt h
    unfold eqOut at e
    split at e
    rotate_left
    · cases e
    rename_i S el
    obtain ⟨f, o⟩ := ho.1 c S hc el
    refine PySem.W.cmp_K (op := .Eq) hr.units0 hF I.ok.mod.kin J ht hn o.mth.at_ o.mth.fn ?_
    exact wpAny_mono (own_run hr hA tk I sub h ry rb o e) (fun u s' z => fin z) fun _ _ z => z
  have flat : ∀ {a b : D}, (∃ x y, flD a = some x ∧ flD b = some y ∧ eqV x y = r) → Rep T B x a → Rep T B y b → wpAny (model X.prog X.w) A (eqBool u v) (fun r' s' => r' = r ∧ EqP' T X pins σ H B s') X.xe s := by
    rintro a b ⟨x', y', e1, e2, e3⟩ ra rb
    have key : ∀ {x : V} {d : D} {x' : V}, flD d = some x' → Rep T B x d → x = x' ∧ flatV x' = true := by
      intro x d x' e h
      cases h <;> (unfold flD at e; first | (cases e; exact ⟨rfl, rfl⟩) | cases e)
    obtain ⟨rfl, f1⟩ := key e1 ra
    obtain ⟨rfl, f2⟩ := key e2 rb
    have := eqAt_V (A := A) (s := s) rx ry f1 f2
    rw [e3] at this
    exact this X.prog X.w X.xe _ ⟨rfl, H, B, I, Ret.rfl' sub⟩
  unfold eqVal at e
  split at e
  · rename_i c fs c' gs
    split at e
    rotate_left
    · cases e
    rename_i ec
    subst ec
    obtain ⟨p, rfl⟩ : ∃ p, x = .ref p := by cases ra; exact ⟨_, rfl⟩
    obtain ⟨q, rfl⟩ : ∃ q, y = .ref q := by cases rb; exact ⟨_, rfl⟩
    cases rx
    cases ry
    have e' : eqOut l c (.ins c fs) (.ins c gs) = some r ∧ (r = false → difF fs gs = true) := by
      split at e
      · rename_i e1; cases e; exact ⟨e1, fun z => nomatch z⟩
      · rename_i e1
        split at e
        · rename_i hd; cases e; exact ⟨e1, fun _ => hd⟩
        · cases e
      · cases e
    by_cases hpq : p = q
    · subst hpq
      have hr' : r = true := by
        cases r with
        | true => rfl
        | false =>
          have h1 : dif (.ins c fs) (.ins c gs) = false := dif_no ra rb
          have h2 := e'.2 rfl
          have h3 : dif (.ins c fs) (.ins c gs) = difF fs gs := rfl
          rw [h3, h2] at h1; cases h1
      subst hr'
      exact SeqAt.EqAt.same (A := A) (s := s) (.ref p) X.prog X.w X.xe _ ⟨rfl, H, B, I, Ret.rfl' sub⟩
    · obtain ⟨dx, gx, od, hc, hH, J⟩ := insAt rb
      refine GQ.eqBool_refG hpq (wpAny_mono (cmpOwn (y := .ref q) (v := .ref q) ra rfl rb J.type (by simp [PySem.W.notFirst]) e'.1) (fun w s' z => bl z) fun _ _ z => z)
  · rename_i c fs
    obtain ⟨p, rfl⟩ : ∃ p, x = .ref p := by cases ra; exact ⟨_, rfl⟩
    cases rb
    cases rx
    cases ry
    obtain ⟨dx, gx, od, hc, hH, J⟩ := insAt ra
    have hN : PySem.W.notFirst X.K (T.ca c) (.type "NoneType") = true := by unfold PySem.W.notFirst; rw [(ho.2 c hc).nc]; simp
    have := cmpOwn (y := .non) (v := .none) ra rfl .non (PySem.W.Looks.of_pure rfl) hN e
    exact PuM.eqBool_of (by simp) (fun x t z => by cases z) (wpAny_mono this (fun w s' z => bl z) fun _ _ z => z)
  · rename_i c fs
    obtain ⟨q, rfl⟩ : ∃ q, y = .ref q := by cases rb; exact ⟨_, rfl⟩
    cases ra
    cases rx
    cases ry
    obtain ⟨dx, gx, od, hc, hH, J⟩ := insAt rb
    unfold eqOut at e
    split at e
    rotate_left
    · cases e
    rename_i S el
    obtain ⟨f, o⟩ := ho.1 c S hc el
    have this := PuM.none_eq_own (A := A) (E := X.xe) hr.units0 I.kIn J (ho.2 c hc).cn (by show PySem.W.findIn X.K (.ref (T.ca c)) "__eq__" = _; exact o.mth.at_) o.mth.fn (wpAny_mono (own_run (y := .non) (v := .none) hr hA tk I sub rb rfl .non o e) (fun u s' z => fin z) fun _ _ z => z)
    exact PuM.eqBool_of (by simp) (fun x t z => by cases z) (wpAny_mono this (fun w s' z => bl z) fun _ _ z => z)
  · split at e
    · rename_i x' y' e1 e2
      cases e
      exact flat ⟨x', y', e1, e2, rfl⟩ ra rb
    · cases e
end
end Pu
namespace Pu
open PySem PySem.Spec PyProof.Rows L2
section
variable {T : Tb} {X : Cx} {W : WX} {k : Nat} {l : List (Nat × Fs)} {pins : List (Addr × Obj)} {s : Shared} {σ : Sg} {H B : Hp}
theorem RepK.get : ∀ {vs : List (Key × V)} {ds : List (Key × D)}, RepK T B vs ds → ∀ {i : Nat} {k : Key} {v : V}, vs[i]? = some (k, v) → ∃ d, ds[i]? = some (k, d) ∧ Rep T B v d
  | _, _, .nil, i, k, v, h => by simp at h
  | _, _, .cons r _, 0, k, v, h => by simp at h; obtain ⟨rfl, rfl⟩ := h; exact ⟨_, rfl, r⟩
  | _, _, .cons _ t, i + 1, k, v, h => t.get (i := i) (by simpa using h)
theorem lock_of {p : Addr} {ka : List (Key × D)} (I : Inv X pins σ H s) (sub : ∀ a o, B a = some o → H a = some o) (h : Rep T B (.ref p) (.dic ka)) :
    ∃ H1 B1 oa kvs, Inv X pins σ H1 s ∧ Ret T H B [] H1 B1 [] ∧ B1 p = some (.frz oa (.dK kvs)) ∧ RepK T B1 kvs ka := by
  cases h with
  | @dic _ kvs _ hr r =>
    rcases hr with hr | ⟨o, hr⟩
    · obtain ⟨od, I1⟩ := I.lock (sub _ _ hr) True.intro
      have rt := Ret.lock (T := T) (od := od) sub hr
      exact ⟨_, _, od, kvs, I1, rt, upd_same, r.le rt.le⟩
    · exact ⟨H, B, o, kvs, I, Ret.rfl' sub, hr, r⟩
theorem dics_run {A : Around} {neg : Bool} {op : CmpOp} (hop : (neg = false ∧ op = .Eq) ∨ (neg = true ∧ op = .NotEq)) {p q : Addr} {ka kb : List (Key × D)} {r : Bool} (ho : EqT T X k l) (hr : Room (k + 1) A) (hA : A.frames = X.A.frames) (tk : Takes X W) (I : Inv X pins σ H s)
    (sub : ∀ a o, B a = some o → H a = some o) (rp : Rep T B (.ref p) (.dic ka)) (rq : Rep T B (.ref q) (.dic kb)) (e : (if ka.length = kb.length then eqDic l ka kb else some false) = some r) :
    wpAny (model X.prog X.w) A (richCompare op (.ref p) (.ref q)) (fun v s' => v = .bool (if neg = true then !r else r) ∧ EqP' T X pins σ H B s') X.xe s := by
  obtain ⟨H1, B1, oa, kvA, I1, t1, hp1, rk1⟩ := lock_of I sub rp
  obtain ⟨H2, B2, ob, kvB, I2, t2, hq2, rkB⟩ := lock_of I1 t1.sub (rq.le t1.le)
  have hp2 : B2 p = some (.frz oa (.dK kvA)) := t2.le.frz hp1
  have rkA := rk1.le t2.le
  have t12 := t1.trans t2
  obtain ⟨hsa, gpa, _, esa, epa, vsA, _, _, kvvA, dA⟩ := I2.frzK (t2.sub _ _ hp2)
  obtain ⟨hsb, gpb, _, esb, epb, vsB, _, _, kvvB, dB⟩ := I2.frzK (t2.sub _ _ hq2)
  have da : s.heap.DictOf (mixKind X.prog X.w) p vsA := by obtain ⟨o, es, z⟩ := dA; exact ⟨o, es, epa, z⟩
  have db : s.heap.DictOf (mixKind X.prog X.w) q vsB := by obtain ⟨o, es, z⟩ := dB; exact ⟨o, es, epb, z⟩
  have la : vsA.length = ka.length := by rw [← kvvA.length, rkA.length]
  have lb : vsB.length = kb.length := by rw [← kvvB.length, rkB.length]
  refine PuM.rc_dicts hop da db hr.units0 fun nm => ?_
  by_cases hl : ka.length = kb.length
  rotate_left
  · rw [if_neg hl] at e
    cases e
    exact PuM.samePairsN hsa hsb da db (by rw [la, lb]; exact hl) ⟨rfl, H2, B2, I2, t12⟩
  rw [if_pos hl] at e
  have hr1 : Room k A.in1 := hr.in1
  have hA1 : A.in1.frames = X.A.frames := hA
  refine PuM.samePairsF (fun i s' => ∃ H' B', Inv X pins σ H' s' ∧ Ret T H2 B2 [] H' B' [] ∧ eqDic l (ka.drop i) kb = some r) hsa hsb da db gpa gpb (fun i s' ⟨H', B', I', rt, _⟩ => ?_) (by rw [la, lb]; exact hl) ⟨H2, B2, I2, Ret.rfl' t2.sub, e⟩ (fun i s' kk v ⟨H', B', I', rt, ed⟩ hi => ?_) (fun s' ⟨H', B', I', rt, ed⟩ => ?_)
  · exact ⟨(I'.frzK (rt.sub _ _ (rt.le.frz hp2))).2.1, (I'.frzK (rt.sub _ _ (rt.le.frz hq2))).2.1⟩
  · obtain ⟨x, hx, rxv⟩ := kvvA.at' hi
    obtain ⟨d, hd, rd⟩ := rkA.get hx
    have hlt : i < ka.length := (List.getElem?_eq_some_iff.mp hd).1
    have edr : ka.drop i = (kk, d) :: ka.drop (i + 1) := by
      rw [List.drop_eq_getElem_cons hlt]
      obtain ⟨_, z⟩ := List.getElem?_eq_some_iff.mp hd
      rw [z]
    rw [edr] at ed
    unfold eqDic at ed
    have rv := kvvB.val kk
    rcases rkB.val kk with ⟨yV, dB', e1, e2, r2⟩ | ⟨e1, e2⟩
    · rw [e2] at ed
      dsimp only at ed
      rw [e1] at rv
      cases q1 : valueAt vsB kk with
      | none => rw [q1] at rv; exact rv.elim
      | some y =>
        rw [q1] at rv
        have ryv : RelV yV y := rv
        refine .inr ⟨y, rfl, ?_⟩
        have key : ∀ b, eqVal l d dB' = some b → wpAny (model X.prog X.w) A.in1 (eqBool v y) (fun r' s2 => r' = b ∧ EqP' T X pins σ H' B' s2) X.xe s' := fun b eb => eq_val ho hr1 hA1 tk I' rt.sub rxv ryv (rd.le rt.le) (r2.le rt.le) eb
        cases eb : eqVal l d dB' with
        | none => rw [eb] at ed; cases ed
        | some b =>
          rw [eb] at ed
          refine wpAny_mono (key b eb) (fun r' s2 z => ?_) fun _ _ z => z
          obtain ⟨rfl, H3, B3, I3, rt3⟩ := z
          cases r' with
          | true =>
            rw [if_pos rfl]
            exact ⟨H3, B3, I3, rt.trans rt3, ed⟩
          | false =>
            rw [if_neg (by decide)]
            have : some false = some r := ed
            cases this
            exact ⟨rfl, H3, B3, I3, t12.trans (rt.trans rt3)⟩
    · rw [e2] at ed
      rw [e1] at rv
      have : some false = some r := ed
      cases this
      refine .inl ⟨?_, rfl, H', B', I', t12.trans rt⟩
      cases q1 : valueAt vsB kk with
      | none => rfl
      | some y => rw [q1] at rv; exact rv.elim
  · rw [la, List.drop_length] at ed
    have : some true = some r := ed
    cases this
    exact ⟨rfl, H', B', I', t12.trans rt⟩
theorem oh_eq {neg : Bool} {op : CmpOp} (hop : (neg = false ∧ op = .Eq) ∨ (neg = true ∧ op = .NotEq)) (ho : EqT T X k l) (hr : Room (k + 1) X.A) : OpH T X (compareOp op) (hEq neg l) := by
  intro W tk pins s σ H1 x y v u Q Y I rx ry ⟨H, ρ, B, ra, rb, ρ2, B2, a, b, q, e1, e2, h⟩
  have cmp : ∀ {P : Value → Shared → Prop}, wpAny (model X.prog X.w) X.A (richCompare op v u) P X.xe s → wpAny (model X.prog X.w) X.A (compareOp op v u) P X.xe s := by
    rcases hop with ⟨_, rfl⟩ | ⟨_, rfl⟩ <;> (intro P z; exact z)
  have own : ∀ {c : Nat} {fs : List (Nat × D)} {tb : Value}, a = .ins c fs → PySem.W.Looks (model X.prog X.w) s.heap (typeOf u) tb → (c < T.cl.length → PySem.W.notFirst X.K (T.ca c) tb = true) → (match l.lookup c with
      | some S => Oh.call (blF neg S.F) false
      | none => .ov .bad) = hEq neg l a b → wpAny (model X.prog X.w) X.A (compareOp op v u) (EP X pins σ Q) X.xe s := by
    intro c fs tb ea ht hn eh
    rw [← eh] at h
    split at h
    rotate_left
    · exact h.elim
    rename_i S el
    subst ea
    obtain ⟨p, dx, gx, rfl, ex, hc, _⟩ := (top0 q e1).ins q.stp.st.sub
    obtain ⟨f, o⟩ := ho.1 c S hc el
    cases rx
    obtain ⟨mA, J, _⟩ := ins_get I.hok ex
    obtain ⟨od, J, _⟩ := J.look
    obtain ⟨m, hF⟩ := I.fr
    have hsp := spR_bl (two_call (sw := false) q h)
    refine cmp ?_
    rcases hop with ⟨rfl, rfl⟩ | ⟨rfl, rfl⟩
    · refine PySem.W.cmp_K (op := .Eq) hr.units0 hF I.ok.mod.kin J ht (hn hc) o.mth.at_ o.mth.fn ?_
      refine wpAny_mono (run_own (vs := [.ref p, y]) o.sp (hr.mono (Nat.le_succ k)) rfl tk I (.cons rfl (.cons ry .nil)) hsp) (fun u s' z => ep_back ?_) fun _ _ z => z
      obtain ⟨z', H', I', rz, b', rfl, qz⟩ := z
      exact ⟨.bl b', H', I', rz, qz⟩
    · refine PuM.own_ne (by have := hr.units; omega) I.kIn J ht (hn hc) (by show PySem.W.findIn X.K (.ref (T.ca c)) "__ne__" = _; exact (ho.2 c hc).ne) o.mth.at_ o.mth.fn (ho.2 c hc).ob ?_
      refine wpAny_mono (run_own (vs := [.ref p, y]) o.sp hr.in1 rfl tk I (.cons rfl (.cons ry .nil)) hsp) (fun u s' z => ?_) fun _ _ z => z
      obtain ⟨z', H', I', rz, b', rfl, qz⟩ := z
      cases rz
      exact ⟨b', rfl, .bl (!b'), H', I', rfl, qz⟩
  unfold hEq at h
  split at h
  · rename_i ks ls
    obtain ⟨B', ds, as, sub, ars, hF⟩ := two_call (sw := false) q h
    have ars : Ars T H1 B' [false, false] [x, y] ds as := ars
    cases ars with
    | im r1 t =>
      cases t with
      | im r2 t =>
        cases t
        rename_i d1 d2
        cases hd : dcF neg l [d1, d2] with
        | bad => rw [hd] at hF; exact hF.elim
        | exc c fs ms =>
          unfold dcF at hd
          split at hd
          · split at hd <;> cases hd
          · cases hd
        | ok rv ms =>
          rw [hd] at hF
          unfold dcF at hd
          split at hd
          rotate_left
          · cases hd
          rename_i ks ls ek
          injection ek with ek1 ek2
          injection ek2 with ek2 _
          subst ek1 ek2
          split at hd
          rotate_left
          · cases hd
          rename_i r er
          cases hd
          obtain ⟨p, rfl⟩ : ∃ p, x = .ref p := by cases r1; exact ⟨_, rfl⟩
          obtain ⟨p', rfl⟩ : ∃ p, y = .ref p := by cases r2; exact ⟨_, rfl⟩
          cases rx
          cases ry
          refine cmp (wpAny_mono (dics_run hop ho hr rfl tk I sub r1 r2 er) (fun u s' z => ?_) fun _ _ z => z)
          obtain ⟨rfl, H', B'', I', rt⟩ := z
          exact ⟨.bl _, H', I', rfl, hF (.bl _) H' B'' rt .bl⟩
  · rename_i c fs c' gs
    split at h
    rotate_left
    · exact h.elim
    rename_i ec
    subst ec
    obtain ⟨p', dx', gx', rfl, ex', _, _⟩ := (top1 q e2).ins q.stp.st.sub
    cases ry
    obtain ⟨mB, J', _⟩ := ins_get I.hok ex'
    obtain ⟨od', J', _⟩ := J'.look
    exact own rfl J'.type (fun _ => by simp [PySem.W.notFirst]) (by unfold hEq; dsimp only; rw [if_pos rfl]; first | done | (cases l.lookup c <;> rfl))
  · rename_i c fs
    obtain rfl : y = .non := (top1 q e2).non
    cases ry
    exact own rfl (PySem.W.Looks.of_pure rfl) (fun hc => by unfold PySem.W.notFirst; rw [(ho.2 c hc).nc]; simp) rfl
  · exact h.elim
end
end Pu
namespace Pu
open PySem PySem.Spec PyProof.Rows L2
section
variable {T : Tb} {X : Cx} {W : WX} {Y : Fc} {σ : Sg} {a b c e o : Expr} {es : List Expr} {pos apos cpos p : Pos} {fa fb fc fo : EF} {fl : LF}
structure StatM (K : PySem.W.Frag) (C : Addr) (m : Str) (g : Addr) : Prop where
  rd : PySem.W.readsIn K C (.type "type") = true
  ga : PySem.W.specialIn K (.ref C) "__getattribute__" = some (some (.builtin "type.__getattribute__"))
  ty : PySem.W.typeIn K (.ref C) = some (.type "type")
  at_ : ∃ q rest, PySem.W.findCls K (.ref C) (.type "type") m = some (.get (.builtin "staticmethod.__get__") (.ref q) .none (.ref C)) ∧ PySem.W.recIn K q "staticmethod" = some (.ref g :: rest)
  kp : PySem.W.keepIn K (.ref g) = true
theorem stat_get {pins : List (Addr × Obj)} {s : Shared} {H : Hp} {C g : Addr} {m : Str} {pl : Sem Bool} {Q : Value × List Value → Shared → Prop} (I : Inv X pins σ H s) (M : StatM X.K C m g) (h : ∀ s', Inv X pins σ H s' → Q (.ref g, []) s') : wpAny (model X.prog X.w) X.A (getMethod (.ref C) m pl) Q X.xe s := by
  obtain ⟨mm, hF⟩ := I.fr
  obtain ⟨q, rest, e1, e2⟩ := M.at_
  exact PySem.W.method_of_cls hF I.ok.mod.kin M.ga (PySem.W.cls_sm hF I.ok.mod.kin M.ty M.rd e1 e2 rfl (h _ (I.tok _)))
theorem je_stat {S : Fs} {k : Nat} {C g : Addr} {x m : Str} {np : Pos} (M : StatM X.K C m g) (F : Kp T X k g S) (hr : Room k X.A) (hg : Gl X x) (hm : X.mg x = some (.ref C)) (hdb : (x == ("__debug__" : Str)) = false) (ha : JL T X (e :: es) fl) (hs : noStar (e :: es) = true) (hlen : decide ((e :: es).length < 30) = true) (hline : (apos.endLine == pos.line) = true) :
    JE T X (.Call (.Attribute (.Name x np) m apos) (e :: es) [] pos) (eCall S fl) := fun W tk => ⟨fun pins s σ H Q I h => by
  have hs' := hs
  unfold noStar at hs
  rw [List.all_cons, Bool.and_eq_true] at hs
  refine PySem.W.methodCall_KW (ld_glob I hg hm ?_ hdb) (meth_tree rfl hs' hlen hline)
  refine stat_get I M fun s' I' => ?_
  exact PySem.W.callWith_K (first := []) (h₀ := X.base) I.ok.mod.kin M.kp (thn ((ha W tk).run pos pins s' σ H _ I' (call_of h)) fun us s2 ⟨vs, H2, I2, r, q2⟩ => ⟨I2.kIn, run_fnS F hr tk I2 r q2⟩) (star_cons (by simpa using hs.1)) (star_any hs.2)⟩
def strF (F : List D → Out) : List D → Out := fun ds => match F ds with
  | .ok (.im (.str x)) ms => .ok (.im (.str x)) ms
  | _ => .bad
def rRepr (T : Tb) (l : List (Nat × Fs)) : List V → Hp → VK → Prop := fun xs H Q => ∃ (p : Addr) (c : Nat) (dx : Addr) (fs : List (Str × V)) (S : Fs), xs = [.ref p] ∧ c < T.cl.length ∧ H p = some (.ins (T.ca c) dx fs) ∧ l.lookup c = some S ∧ spR T [false] (strF S.F) [.ref p] H Q fun _ _ _ => False
structure RpM (T : Tb) (X : Cx) (k : Nat) (c : Nat) (S : Fs) (f : Addr) : Prop where
  mth : Meth X.K (T.ca c) "__repr__" f
  fl : S.fl = [false]
  kp : Kp T X k f S
theorem cr_repr {l : List (Nat × Fs)} {k : Nat} (tk : Takes X W) (ho : ∀ c S, c < T.cl.length → l.lookup c = some S → ∃ f, RpM T X k c S f) (hr : Room (k + 1) X.A) : CallR X (.builtin "repr") (rRepr T l) := by
  intro pins s σ H xs us Q I r ⟨p, c, dx, fs, S, ex, hc, hH, el, h⟩
  subst ex
  obtain ⟨u, rfl, ru⟩ := vals1 r
  cases ru
  obtain ⟨f, o⟩ := ho c S hc el
  have kp := o.kp
  unfold Kp at kp
  rw [o.fl] at kp
  obtain ⟨mA, J, _⟩ := ins_get I.hok hH
  obtain ⟨od, J, _⟩ := J.look
  obtain ⟨m, hF⟩ := I.fr
  refine PySem.W.repr_K hr.in1.units0 hF I.ok.mod.kin J o.mth.at_ o.mth.fn ?_
  have tk' : Takes X (fun _ _ _ _ => False) := tk.imp fun _ _ _ _ z => z.elim
  have h' : spR T [false] S.F [.ref p] H (fun v H' => ∃ x, v = .str x ∧ Q v H') (fun _ _ _ => False) := by
    obtain ⟨B, ds, as, sub, A, h⟩ := h
    refine ⟨B, ds, as, sub, A, ?_⟩
    unfold strF at h
    cases ef : S.F ds with
    | bad => rw [ef] at h; exact h
    | exc c fs ms => rw [ef] at h; exact h.elim
    | ok r ms =>
      rw [ef] at h
      cases r with
      | im d =>
        cases d with
        | str x =>
          intro v H' B' rt rv
          cases rv
          exact ⟨x, rfl, h _ H' B' rt .str⟩
        | _ => exact h.elim
      | _ => exact h.elim
  refine wpAny_mono (run_own (W := fun _ _ _ _ => False) (vs := [.ref p]) kp hr.in1 rfl tk' I (.cons rfl .nil) h') (fun u s' z => ?_) fun _ _ z => z
  obtain ⟨z', H', I', rz, x, rfl, qz⟩ := z
  obtain ⟨t, rfl⟩ := rz
  exact ⟨.str x, H', I', ⟨t, rfl⟩, qz⟩
def eRepr (l : List (Nat × Fs)) (fl : LF) : EF := fun ρ => (fl ρ).bind fun rs ρ1 => match rs with
  | [r] => (match rdv ρ1 r with
    | some (.ins c _) => (match l.lookup c with
      | some S => (match prep [false] rs ρ1 with
        | some (ds, is, ρ2) => (strF S.F ds).rs ρ2 is
        | none => .bad)
      | none => .bad)
    | _ => .bad)
  | _ => .bad
theorem je_repr {l : List (Nat × Fs)} {k : Nat} (ho : ∀ c S, c < T.cl.length → l.lookup c = some S → ∃ f, RpM T X k c S f) (hr : Room (k + 1) X.A) (hg : Gl X "repr") (hm : X.mg "repr" = none) (ha : JL T X (e :: es) fl) (hs : noStar (e :: es) = true) : JE T X (.Call (.Name "repr" p) (e :: es) [] pos) (eRepr l fl) := fun W tk => by
  have hs' := hs
  unfold noStar at hs'
  rw [List.all_cons, Bool.and_eq_true] at hs'
  refine PE.imp (pe_callB (cr_repr (l := l) tk ho hr) hg hm rfl (ha W tk) (by decide) (by decide) (star_cons (by simpa using hs'.1)) (star_any hs'.2)) fun σ H Q ⟨Y, ρ, B, st, h⟩ => ⟨Y, ρ, B, st, h.bind.imp fun rs ρ1 h1 vs H1 B1 q => ?_⟩
  split at h1
  rotate_left
  · exact h1.elim
  rename_i r
  split at h1
  rotate_left
  · exact h1.elim
  rename_i c fs ed
  split at h1
  rotate_left
  · exact h1.elim
  rename_i S el
  split at h1
  rotate_left
  · exact h1.elim
  rename_i ds is ρ2 ep
  obtain ⟨v, rfl⟩ : ∃ v, vs = [v] := by
    have := q.len
    cases vs with
    | nil => cases this
    | cons v t => cases t with
      | nil => exact ⟨v, rfl⟩
      | cons _ _ => cases this
  obtain ⟨a, dx, gs, rfl, eh, hc, _⟩ := ((q.val 0 v r rfl rfl).top q.stp.st ed).ins q.stp.st.sub
  refine ⟨a, c, dx, gs, S, rfl, hc, eh, el, ?_⟩
  have h2 := call_run (W := W) q ep h1
  obtain ⟨B', ds', as', sub', A', h3⟩ := h2
  refine ⟨B', ds', as', sub', A', ?_⟩
  cases ef : strF S.F ds' with
  | ok r ms => rw [ef] at h3; exact h3
  | exc c fs ms =>
    unfold strF at ef
    split at ef <;> cases ef
  | bad => rw [ef] at h3; exact h3
theorem paired_items {B : Hp} : True := trivial
def eDictItems (f : EF) : EF := fun ρ => (f ρ).bind fun r ρ1 => match rdv ρ1 r, stl ρ1 r with
  | some (.dic _), some (.dic kvs, ρ2) => .ok (.ow (.dic (kvs.foldl (fun acc kv => putD acc kv.1 kv.2) []))) ρ2
  | _, _ => .bad
def bKd (tab : List (Str × Str × Int)) (x z : Str) : Option Int := (tab.find? fun q => decide (q.1 = x) && decide (q.2.1 = z)).map (·.2.2)
structure KdG (K : PySem.W.Frag) (w : World) (tab : List (Str × Str × Int)) : Prop where
  at_ : ∀ q ∈ tab, ∃ es n, KDict K w (He.ga K q.1) es n ∧ ∃ t, PySem.W.nsIn K (He.ga K q.1) q.2.1 = some (some (.int q.2.2 t))
theorem bKd_ok {K : PySem.W.Frag} {w : World} {tab : List (Str × Str × Int)} (G : KdG K w tab) {x z : Str} {i : Int} (h : bKd tab x z = some i) : ∃ es n, KDict K w (He.ga K x) es n ∧ ∃ t, PySem.W.nsIn K (He.ga K x) z = some (some (.int i t)) := by
  unfold bKd at h
  obtain ⟨q, e1, e2⟩ := Option.map_eq_some_iff.mp h
  have hm := List.mem_of_find?_eq_some e1
  have hp := List.find?_some e1
  rw [Bool.and_eq_true] at hp
  have h1 : q.1 = x := of_decide_eq_true hp.1
  have h2 : q.2.1 = z := of_decide_eq_true hp.2
  have := G.at_ q hm
  rw [h1, h2, e2] at this
  exact this
def bInG (tab : List (Str × Str × Int)) : D → D → Option Bool
  | .str z, .glo x => (bKd tab x z).map fun _ => true
  | _, _ => none
def bItG (tab : List (Str × Str × Int)) : D → D → Option D
  | .glo x, .str z => (bKd tab x z).map fun i => .int i
  | _, _ => none
theorem oh_inG {tab : List (Str × Str × Int)} {neg : Bool} {op : CmpOp} (hop : (neg = false ∧ op = .In) ∨ (neg = true ∧ op = .NotIn)) (hK : X.K = T.K) (G : KdG X.K X.w tab) : OpH T X (compareOp op) (fun a b => .ov (obl neg (bInG tab a b))) := by
  intro W tk pins s σ H1 x y v u Q Y I rx ry ⟨H, ρ, B, ra, rb, ρ2, B2, a, b, q, e1, e2, h⟩
  cases eb : bInG tab a b with
  | none => rw [eb] at h; exact h.elim
  | some r =>
    rw [eb] at h
    unfold bInG at eb
    split at eb
    rotate_left
    · cases eb
    rename_i z nm
    obtain ⟨i, ei, rfl⟩ := Option.map_eq_some_iff.mp eb
    obtain ⟨es, n, D, t, hn⟩ := bKd_ok G ei
    obtain rfl := (top0 q e1).str
    have hy := (top1 q e2).glo
    rw [← hK] at hy
    subst hy
    have fin : Q (.bl (if neg = true then !true else true)) H1 := h _ _ _ ⟨q.stp, .bl, fun d a z => nomatch z⟩
    rcases hop with ⟨rfl, rfl⟩ | ⟨rfl, rfl⟩
    · exact op_in_kd D pins s σ H1 (.str z) _ v u Q I rx ry ⟨z, _, rfl, rfl, hn, fin⟩
    · exact op_notIn_kd D pins s σ H1 (.str z) _ v u Q I rx ry ⟨z, _, rfl, rfl, hn, fin⟩
theorem je_ixG {tab : List (Str × Str × Int)} (hK : X.K = T.K) (G : KdG X.K X.w tab) (hs : PlainIx b) (ha : JE T X a fa) (hb : JE T X b fb) : JE T X (.Subscript a b pos) (eOp (gV (bItG tab)) fa fb) :=
  je_rule (r := rIxD X.K X.w) (fun ta tb pa pb => pe_ix ix_kdict pa pb hs) (fun H B x y d e f Q sub tx ty eg q => by
    unfold bItG at eg
    split at eg
    rotate_left
    · cases eg
    rename_i nm z
    obtain ⟨i, ei, rfl⟩ := Option.map_eq_some_iff.mp eg
    obtain ⟨es, n, D, t, hn⟩ := bKd_ok G ei
    have hx := tx.glo
    rw [← hK] at hx
    subst hx
    obtain rfl := ty.str
    exact ⟨_, z, .int i, rfl, rfl, ⟨es, n, _, D.at_, D.lit, hn, ⟨t, rfl⟩⟩, q _ .int⟩) ha hb
end
end Pu
namespace PuM
open PySem PySem.W PySem.Calls PyProof.Rows
open Sem (wp)
open AutoSeq1 (wpAny_loadPart')
section
variable {prog : Program} {w : World} {A : Around} {E : Value → Shared → Prop} {s : Shared}
theorem enumT_next_item {e it l : Addr} {i : Nat} {items : Array Value} {x old : Value} {Q : Value → Shared → Prop}
    (he : IsEnum s.heap e it i old) (hit : s.heap.IsTupleIter it l i) (hl : s.heap.IsTuple l items) (hx : items[i]? = some x) (hne : e ≠ it)
    (hQ : ∀ h', IsEnumOut h' e it ((i : Int) + 1) x s.heap.objs.size → h'.IsTupleIter it l (i + 1) →
      h'.get? s.heap.objs.size = some { cls := .type "tuple", data := .seq #[.int i s.toks, x] } → h'.objs.size = s.heap.objs.size + 1 →
      (∀ b o, b ≠ e → b ≠ it → s.heap.get? b = some o → h'.get? b = some o) → Q (.ref s.heap.objs.size) { s with heap := h', toks := s.toks + 1 }) :
    wpAny (model prog w) A (Builtin.«enumerate.__next__» ⟨[.ref e], []⟩) (fun fin s' => ∃ v, fin = .done (.ret v) ∧ Q v s') E s := by
  obtain ⟨hp, g, d, tk, os⟩ := s
  show wpAny _ _ (field (.ref e) 2 >>= _) _ _ _
  refine wpAny_bind (wpAny_field he rfl (x := .ref it) rfl ?_)
  refine wpAny_bind (RZ.nextOf_tuple_item hit hl hx fun h₁ hit₁ hs₁ => ?_)
  replace hs₁ : Heap.SameBut it hp h₁ := hs₁
  have he₁ : IsEnum h₁ e it i old := (hs₁.2 e hne).trans he
  show wpAny _ _ (field (.ref e) 3 >>= _) _ _ ⟨h₁, g, d, tk, os⟩
  refine wpAny_bind (wpAny_field he₁ rfl (x := rawInt i) rfl ?_)
  show wpAny _ _ (field (.ref e) 4 >>= _) _ _ ⟨h₁, g, d, tk, os⟩
  refine wpAny_bind (wpAny_field he₁ rfl (x := .none) rfl ?_)
  show wpAny _ _ (mkInt i >>= _) _ _ ⟨h₁, g, d, tk, os⟩
  refine wpAny_bind (wpAny_mkInt ?_)
  show wpAny _ _ (setField (.ref e) 3 (rawInt ((i : Int) + 1)) >>= _) _ _ ⟨h₁, g, d, tk + 1, os⟩
  refine wpAny_bind (wpAny_setField_rec he₁ (by simp) fun h₂ he₂ hs₂ => ?_)
  replace hs₂ : Heap.SameBut e h₁ h₂ := hs₂
  replace he₂ : IsEnum h₂ e it ((i : Int) + 1) old := he₂
  show wpAny _ _ (setField (.ref e) 4 .none >>= _) _ _ ⟨h₂, g, d, tk + 1, os⟩
  refine wpAny_bind (wpAny_setField_rec he₂ (by simp) fun h₃ he₃ hs₃ => ?_)
  replace hs₃ : Heap.SameBut e h₂ h₃ := hs₃
  replace he₃ : IsEnum h₃ e it ((i : Int) + 1) old := he₃
  show wpAny _ _ (newTuple [.int i tk, x] >>= _) _ _ ⟨h₃, g, d, tk + 1, os⟩
  refine wpAny_bind (wpAny_newTuple ?_)
  have he₄ : IsEnum (h₃.push { cls := .type "tuple", data := .seq #[.int i tk, x] }) e it ((i : Int) + 1) old := Heap.get?_push_of_some _ he₃
  generalize hh₄ : h₃.push { cls := .type "tuple", data := .seq #[.int i tk, x] } = h₄ at he₄
  have hsz : h₃.objs.size = hp.objs.size := by rw [hs₃.1, hs₂.1, hs₁.1]
  have hel : e < hp.objs.size := Heap.lt_size he
  have ht₄ : h₄.get? hp.objs.size = some { cls := .type "tuple", data := .seq #[.int i tk, x] } := by rw [← hh₄, ← hsz]; exact Heap.get?_push_size _ rfl
  have hz₄ : h₄.objs.size = hp.objs.size + 1 := by rw [← hh₄, Heap.size_push, hsz]
  have hk₄ : ∀ b o, b ≠ e → b ≠ it → hp.get? b = some o → h₄.get? b = some o := fun b o hbe hbi hb => by
    rw [← hh₄]; exact Heap.get?_push_of_some _ (hs₃.extBut b o hbe (hs₂.extBut b o hbe (hs₁.extBut b o hbi hb)))
  have hit₄ : h₄.IsTupleIter it l (i + 1) := by
    rw [← hh₄]; obtain ⟨o, ho, r⟩ := (hit₁.extBut hs₂.extBut (Ne.symm hne)).extBut hs₃.extBut (Ne.symm hne); exact ⟨o, Heap.get?_push_of_some _ ho, r⟩
  show wpAny _ _ (Builtin.SmallTypes.ownedTupleIsFree (.ref e) >>= _) _ _ ⟨h₄, g, d, tk + 1, os⟩
  rw [hsz]
  clear hh₄ he₃ hs₃ he₂ hs₂ he₁ hs₁ hit₁ hsz h₃ h₂ h₁
  refine wpAny_bind ?_
  · unfold Builtin.SmallTypes.ownedTupleIsFree
    refine wpAny_bind (wpAny_field he₄ rfl (x := .none) rfl (wpAny_pure ?_))
    simp only [if_true]
    refine wpAny_bind (wpAny_rule ?_)
    refine wpAny_bind (wpAny_field he₄ rfl (x := old) rfl ?_)
    refine wpAny_bind (wpAny_setField_rec he₄ (by simp) fun h₅ he₅ hs₅ => ?_)
    replace hs₅ : Heap.SameBut e h₄ h₅ := hs₅
    replace he₅ : IsEnum h₅ e it ((i : Int) + 1) x := he₅
    show wpAny _ _ (Builtin.SmallTypes.ownedTupleHandOut (.ref e) (.ref hp.objs.size) >>= _) _ _ ⟨h₅, g, d, tk + 1, os⟩
    refine wpAny_bind ?_
    · unfold Builtin.SmallTypes.ownedTupleHandOut
      refine wpAny_bind (wpAny_setField_rec he₅ (by simp) fun h₆ he₆ hs₆ => ?_)
      replace hs₆ : Heap.SameBut e h₅ h₆ := hs₆
      replace he₆ : IsEnumOut h₆ e it ((i : Int) + 1) x hp.objs.size := he₆
      refine wpAny_setField_rec he₆ (by simp) fun h₇ he₇ hs₇ => ?_
      replace hs₇ : Heap.SameBut e h₆ h₇ := hs₇
      replace he₇ : IsEnumOut h₇ e it ((i : Int) + 1) x hp.objs.size := he₇
      refine wpAny_bind (wpAny_letGo (wpAny_pure ⟨_, rfl, hQ h₇ he₇ ?_ ?_ ?_ ?_⟩))
      · exact ((hit₄.extBut hs₅.extBut (Ne.symm hne)).extBut hs₆.extBut (Ne.symm hne)).extBut hs₇.extBut (Ne.symm hne)
      · exact hs₇.extBut _ _ (Nat.ne_of_gt hel) (hs₆.extBut _ _ (Nat.ne_of_gt hel) (hs₅.extBut _ _ (Nat.ne_of_gt hel) ht₄))
      · rw [hs₇.1, hs₆.1, hs₅.1, hz₄]
      · exact fun b o hbe hbi hb => hs₇.extBut b o hbe (hs₆.extBut b o hbe (hs₅.extBut b o hbe (hk₄ b o hbe hbi hb)))

theorem pyNext_enumT_item {e it l : Addr} {i : Nat} {items : Array Value} {x old : Value} {Q : Option Value → Shared → Prop}
    (he : IsEnum s.heap e it i old) (hit : s.heap.IsTupleIter it l i) (hl : s.heap.IsTuple l items) (hx : items[i]? = some x) (hne : e ≠ it)
    (hQ : ∀ h', IsEnumOut h' e it ((i : Int) + 1) x s.heap.objs.size → h'.IsTupleIter it l (i + 1) →
      h'.get? s.heap.objs.size = some { cls := .type "tuple", data := .seq #[.int i s.toks, x] } → h'.objs.size = s.heap.objs.size + 1 →
      (∀ b o, b ≠ e → b ≠ it → s.heap.get? b = some o → h'.get? b = some o) → Q (some (.ref s.heap.objs.size)) { s with heap := h', toks := s.toks + 1 }) :
    wpAny (model prog w) A (pyNext (.ref e)) Q E s := by
  have hT : s.TypeIs (.ref e) "enumerate" := ⟨_, he, rfl⟩
  unfold pyNext
  exact wpAny_bind (wpAny_attempt (wpAny_callSpecial?_slot (name := Str.ofString "__next__") hT F.slot_enumerate_next
    (wpAny_call_entry F.slot_enumerate_next hT F.entry_enumerate_next
      (enumT_next_item he hit hl hx hne fun h' a b c d k => wpAny_pure (hQ h' a b c d k)) (F.args_enumerate_next_1 _))))

theorem pyNext_enumT_end {e it l : Addr} {i : Nat} {items : Array Value} {old : Value} {Q : Option Value → Shared → Prop} (hh : A.handled = none)
    (he : IsEnum s.heap e it i old) (hit : s.heap.IsTupleIter it l i) (hl : s.heap.IsTuple l items) (hx : items[i]? = none)
    (hQ : ∀ h', Heap.ExtBut it s.heap h' → Q none { s with heap := h' }) : wpAny (model prog w) A (pyNext (.ref e)) Q E s := by
  have hT : s.TypeIs (.ref e) "enumerate" := ⟨_, he, rfl⟩
  unfold pyNext
  refine wpAny_bind (wpAny_attempt (wpAny_callSpecial?_slot (name := Str.ofString "__next__") hT F.slot_enumerate_next
    (wpAny_call_entry F.slot_enumerate_next hT F.entry_enumerate_next ?_ (F.args_enumerate_next_1 _))))
  show wpAny _ _ (field (.ref e) 2 >>= _) _ _ _
  refine wpAny_bind (wpAny_field he rfl (x := .ref it) rfl ?_)
  refine wpAny_bind (RZ.nextOf_tuple_end hh hit hl hx fun h' x he' hx' => ?_)
  obtain ⟨o, ho, hc⟩ := hx'
  refine wpAny_bind (wpAny_isInstance (T := "StopIteration") (b := true) ⟨o, ho, hc⟩ isSubtype_stop ?_)
  exact wpAny_pure (hQ _ he')
end
theorem meets_enum_newT (l : Addr) (items : Array Value) (n : Nat) (dct : Option Addr) (sl : Array (Option Value)) :
    Meets (Builtin.«enumerate.__new__» ⟨[.type "enumerate", .ref l], []⟩) (fun _ R s => s.heap.get? l = some { cls := .type "tuple", dict := dct, data := .seq items n, slots := sl } ∧
      R (.ok (.ret (.ref (s.heap.push { cls := .type "tuple_iterator", data := .fields #[.ref l, .int 0 0] }).objs.size)))
        { s with heap := (s.heap.push { cls := .type "tuple_iterator", data := .fields #[.ref l, .int 0 0] }).push { cls := .type "enumerate", data := .fields #[.none, .bool false, .ref s.heap.objs.size, rawInt 0, .none, .none] } }) :=
  .of_wp fun prog w A R s h => by
    obtain ⟨hp, g, d, tk, os⟩ := s; obtain ⟨hl, h⟩ := h
    have hsub := sub_enumerate
    have hL : Heap.IsTuple (Shared.heap ⟨hp, g, d, tk, os⟩) l items := ⟨_, hl, rfl, n, rfl⟩
    wp_walk using wpAny_loadPart' hl
    refine wpAny_stack_any fun st => wpAny_pure ?_
    split
    · rename_i c _ _ _ _ _
      cases (c == Value.type "enumerate")
      · wp_walk using wpAny_loadPart' hl, wpAny_pyIter_tuple hL
        exact ⟨_, rfl, h⟩
      · wp_walk using wpAny_loadPart' hl, wpAny_pyIter_tuple hL
        exact ⟨_, rfl, h⟩
    · wp_walk using wpAny_loadPart' hl, wpAny_pyIter_tuple hL
      exact ⟨_, rfl, h⟩

section
variable {prog : Program} {w : World} {A : Around} {E : Value → Shared → Prop} {s : Shared}
theorem call_enum_tuple {l : Addr} {items : Array Value} {Q : Value → Shared → Prop} (hL : s.heap.IsTuple l items)
    (h : ∀ h', IsEnum h' (s.heap.objs.size + 1) s.heap.objs.size 0 .none → h'.IsTupleIter s.heap.objs.size l 0 → h'.objs.size = s.heap.objs.size + 2 →
      (∀ b o, s.heap.get? b = some o → h'.get? b = some o) → Q (.ref (s.heap.objs.size + 1)) { s with heap := h' }) :
    wpAny (model prog w) A (call (.type "enumerate") [.ref l]) Q E s := by
  obtain ⟨⟨c, dct, dt, sl⟩, hl, hc, n, hd⟩ := hL
  replace hc : c = .type "tuple" := hc
  replace hd : dt = .seq items n := hd
  subst hc hd
  refine callType_new F.called_enumerate (by decide) (F.typeCall_enumerate_1 _) (F.newCall_enumerate_1 _) (fun obj => F.args_object_init_2 obj _) F.entry_enumerate_new
    (meets_enum_newT l items n dct sl) ⟨hl, ?_⟩
  have hz : (s.heap.push { cls := .type "tuple_iterator", data := .fields #[.ref l, .int 0 0] }).objs.size = s.heap.objs.size + 1 := Heap.size_push ..
  show _ ∧ _
  rw [hz]
  have he : IsEnum ((s.heap.push { cls := .type "tuple_iterator", data := .fields #[.ref l, .int 0 0] }).push
      { cls := .type "enumerate", data := .fields #[.none, .bool false, .ref s.heap.objs.size, rawInt 0, .none, .none] }) (s.heap.objs.size + 1) s.heap.objs.size 0 .none := by
    have := Heap.get?_push_size (s.heap.push { cls := .type "tuple_iterator", data := .fields #[.ref l, .int 0 0] })
      (o := { cls := .type "enumerate", data := .fields #[.none, .bool false, .ref s.heap.objs.size, rawInt 0, .none, .none] }) rfl
    rw [hz] at this; exact this
  refine ⟨⟨_, he, rfl⟩, h _ he ⟨_, Heap.get?_push_of_some _ (Heap.get?_push_size _ rfl), rfl, rfl⟩ (by rw [Heap.size_push, hz]) fun b o x => Heap.get?_push_of_some _ (Heap.get?_push_of_some _ x)⟩

end
end PuM
namespace Pu
open PySem PySem.Spec PyProof.Rows L2
def IteT (K : PySem.W.Frag) (a : Addr) : It :=
  ⟨fun i H => ∃ (xs : List V) (x : V), SqT K H a xs ∧ xs[i]? = some x, fun i H v H' => ∃ T x, v = .ref T ∧ H T = none ∧ H' = upd H T (.tup [.int (i : Nat), x]) ∧ ∀ xs, SqT K H a xs → xs[i]? = some x, fun i H => ∃ xs : List V, SqT K H a xs ∧ xs.length ≤ i⟩
theorem turn_enumT {P : Program} {w : World} {K : PySem.W.Frag} {elts : List Expr} {kk : Nat} {tpos : Pos} (a e it : Addr) :
    Turn P w K (.Tuple elts kk tpos) (IteT K a) [e, it] e (fun i h => (∃ old, IsEnum h e it ((i : Nat) : Int) old) ∧ h.IsTupleIter it a i ∧ e ≠ it) where
  mem := by simp
  obj := fun i h st b hb => by
    obtain ⟨⟨old, he⟩, ⟨o, ho, hc, hd⟩, _⟩ := st
    have e' : b = e ∨ b = it := by simpa using hb
    rcases e' with z | z
    · rw [z]; exact ⟨_, he, fun v q => nomatch q⟩
    · rw [z]; exact ⟨o, ho, fun v q => by rw [hd] at q; cases q⟩
  keep := fun i h h' st k => let ⟨⟨old, he⟩, hi, hne⟩ := st; ⟨⟨old, k e (by simp) _ he⟩, hi.at fun o q => k it (by simp) o q, hne⟩
  item := by
    intro X hP hw hK hc i pins s σ H E I hf st hg
    subst hP hw hK
    obtain ⟨⟨old, he⟩, hit, hne⟩ := st
    obtain ⟨xs, x, hq, hx⟩ := hg
    obtain ⟨its, rv, p, hz⟩ := I.tuple hq
    obtain ⟨u, hu, ru⟩ := rv.get hx
    have hel : e < s.heap.objs.size := Heap.lt_size he
    have hil : it < s.heap.objs.size := by obtain ⟨_, q, _⟩ := hit; exact Heap.lt_size q
    refine PuM.pyNext_enumT_item he hit (show Heap.IsTuple _ a its.toArray from p) (x := u) (by simpa using hu) hne fun h' ho hit' hT hsz hk => ?_
    refine ⟨_, rfl, wpAny_letOwnedTupleGo_enum (s := { s with heap := h', toks := s.toks + 1 }) ho fun h'' he' sb => ?_⟩
    have hT2 : h''.get? s.heap.objs.size = some { cls := .type "tuple", data := .seq #[.int i s.toks, u] } := (sb.2 _ (Nat.ne_of_gt hel)).trans hT
    have new : ObjOk X.prog X.w (upd H s.heap.objs.size (.tup [.int (i : Nat), x])) h'' s.heap.objs.size (.tup [.int (i : Nat), x]) :=
      ⟨by show 2 ≤ sizeLine; decide, [.int i s.toks, u], .cons ⟨_, rfl⟩ (.cons ru .nil), ⟨_, hT2, rfl, _, rfl⟩⟩
    have I1 : Inv X pins σ (upd H s.heap.objs.size (.tup [.int (i : Nat), x])) { s with heap := h'', toks := s.toks + 1 } :=
      I.turnedNew (ch := [e, it]) (fun b ob hb q => (sb.2 b (fun z => hb (by simp [z]))).trans (hk b ob (fun z => hb (by simp [z])) (fun z => hb (by simp [z])) q)) hf (Nat.le_refl _) new
    refine ⟨.ref s.heap.objs.size, _, I1, rfl, ⟨_, x, rfl, I.hok.fresh (Nat.le_refl _), rfl, fun ys hy => by rw [I.tuple_inj hy hq]; exact hx⟩, ⟨⟨u, ?_⟩, hit'.at fun o q => (sb.2 it (Ne.symm hne)).trans q, hne⟩, fun b hb => ?_⟩
    · have e1 : ((i + 1 : Nat) : Int) = (i : Int) + 1 := by omega
      rw [e1]; exact he'
    · have hb' : b < s.heap.objs.size := by
        have e' : b = e ∨ b = it := by simpa using hb
        rcases e' with z | z
        · rw [z]; exact hel
        · rw [z]; exact hil
      rw [upd_ne (Nat.ne_of_lt hb')]
      exact (hf b hb).1
  done := by
    intro X hP hw hK hc i pins s σ H E I hf st hg
    subst hP hw hK
    obtain ⟨⟨old, he⟩, hit, hne⟩ := st
    obtain ⟨xs, hq, hx⟩ := hg
    obtain ⟨its, rv, p, hz⟩ := I.tuple hq
    obtain ⟨f0, f1, f2, f3, f4, f5⟩ := hf it (by simp)
    have hl := rv.length
    exact PuM.pyNext_enumT_end (I.ok.hd hc) he hit (show Heap.IsTuple _ a its.toArray from p) (by simp; omega) fun h' eb => ⟨rfl, I.turned (t' := s.toks) (fun b o hb q => eb b o hb q) f0 f1 f3 f4 f5⟩
  self := fun A i s Q E st h => let ⟨⟨_, he⟩, _⟩ := st; wpAny_pyIter_enum he h
def iEnumT (K : PySem.W.Frag) (ta : TA) : TI := fun σ H R => ta σ H fun vs H1 => ∃ a xs, vs = [.ref a] ∧ SqT K H1 a xs ∧ R (IteT K a) H1
theorem pi_enumT {X : Cx} {e : Expr} {ta : TA} {p pos tpos : Pos} {elts : List Expr} {kk : Nat} (hg : Gl X "enumerate") (hm : X.mg "enumerate" = none) (ha : PA X [e] ta) (hs : starEach [e] X.env = [(false, eval e X.env)] := by rfl) :
    PI X (.Tuple elts kk tpos) (.Call (.Name "enumerate" p) [e] [] pos) (iEnumT X.K ta) := by
  refine ⟨fun pins s σ H R I h => ?_⟩
  refine Call_ (ld_blt I hg hm boot_enumerate (PyProof.Rows.callWith_type1 (thn (ha.run pos pins s σ H _ I h) fun us s1 ⟨vs, H1, I1, r1, q1⟩ => ?_) hs rfl))
  obtain ⟨a, xs, ex, hq, q⟩ := q1
  subst ex
  cases r1 with
  | cons r rr =>
    cases rr
    cases r
    obtain ⟨its, rv, p', hz⟩ := I1.tuple hq
    refine PuM.call_enum_tuple (show Heap.IsTuple _ a its.toArray from p') fun h' he hit hsz hk => wpAny_pyIter_enum he ?_
    have I2 : Inv X pins σ H1 { s1 with heap := h' } := I1.kept (t' := s1.toks) hk
    refine ⟨s1.heap.objs.size + 1, [s1.heap.objs.size + 1, s1.heap.objs.size], _, _, H1, rfl, I2, turn_enumT a (s1.heap.objs.size + 1) s1.heap.objs.size, ⟨⟨.none, he⟩, hit, Nat.succ_ne_self _⟩, fun b hb => ?_, q⟩
    have e' : b = s1.heap.objs.size + 1 ∨ b = s1.heap.objs.size := by simpa using hb
    have hle : s1.heap.objs.size ≤ b := by
      rcases e' with z | z
      · rw [z]; exact Nat.le_add_right _ _
      · rw [z]; exact Nat.le_refl _
    exact I1.fpOk hle (I1.hok.fresh hle)
end Pu
namespace Pu
open PySem PySem.Spec PyProof.Rows L2
section
variable {T : Tb} {X : Cx} {B : Hp} {σ : Sg} {a b c e o tg : Expr} {es : List Expr} {pos apos cpos p : Pos} {fa fb fc fo : EF} {fl : LF}
theorem iteT_ok {a : Addr} {ds : List D} (h : ∀ H' Bc, Le B Bc → (∀ a o, Bc a = some o → H' a = some o) → ∃ vs, SqT T.K H' a vs ∧ RepL T Bc vs ds) : ItOk T B (IteT T.K a) (enumD 0 ds) where
  go := fun i H' Bc l sub hi => by
    obtain ⟨vs, hs, r⟩ := h H' Bc l sub
    rw [enumD_len] at hi
    have hv : i < vs.length := by rw [r.length]; exact hi
    exact ⟨vs, vs[i], hs, List.getElem?_eq_getElem hv⟩
  stop := fun i H' Bc l sub hi => by
    obtain ⟨vs, hs, r⟩ := h H' Bc l sub
    rw [enumD_len] at hi
    exact ⟨vs, hs, by rw [r.length]; exact hi⟩
  yld := fun i H1 H' Bc x Y σ ρ d l st hd hy => by
    obtain ⟨n, v, ex, hn, e, hx⟩ := hy
    subst ex e
    obtain ⟨vs, hs, r⟩ := h H1 Bc l st.sub
    rw [enumD_get, Option.map_eq_some_iff] at hd
    obtain ⟨d', hd, e2⟩ := hd
    subst e2
    obtain ⟨w, ew, rw'⟩ := r.get hd
    have := hx vs hs
    rw [ew] at this; cases this
    rw [Nat.zero_add]
    exact pair_step st hn .int rw'
def iEnu2 (f : EF) : IF := fun ρ => (f ρ).bind fun r ρ1 => match stl ρ1 r with
  | some (d, ρ2) => (match asS d with
    | some ds => .ok (enumD 0 ds) ρ2
    | none => .bad)
  | none => .bad
theorem ji_enum2 {elts : List Expr} {kk : Nat} {tpos : Pos} (hK : X.K = T.K) (hg : Gl X "enumerate") (hm : X.mg "enumerate" = none) (ha : JE T X a fa) (hs : isStar a = false) : JI T X (.Tuple elts kk tpos) (.Call (.Name "enumerate" p) [a] [] pos) (iEnu2 fa) := fun W tk => PI.pt fun σ H R ⟨Y, ρ, B, st, h⟩ => by
  have hb := h.bind
  cases e1 : fa ρ with
  | bad => rw [e1] at hb; exact hb.elim
  | exc c fs ρ' =>
    rw [e1] at hb
    refine ⟨_, pi_enum hg hm (jl_cons ha jl_nil hs W tk) (star_cons hs), tA_one ⟨Y, ρ, B, st, ?_⟩⟩
    rw [e1]
    exact hb
  | ok r ρ1 =>
    rw [e1] at hb
    have h1 : Aft T W Y σ H ρ B (match stl ρ1 r with
      | some (d, ρ2) => (match asS d with
        | some ds => .ok (enumD 0 ds) ρ2
        | none => .bad)
      | none => .bad) _ := hb
    split at h1
    rotate_left
    · exact h1.elim
    rename_i d ρ2 e2
    split at h1
    rotate_left
    · exact h1.elim
    rename_i ds ea
    by_cases ht : ∃ es, d = .tup es
    · obtain ⟨es, rfl⟩ := ht
      have ee : es = ds := by injection ea
      subst ee
      refine ⟨_, pi_enumT hg hm (jl_cons ha jl_nil hs W tk) (star_cons hs), tA_one ⟨Y, ρ, B, st, ?_⟩⟩
      rw [e1]
      intro v H1 B1 p
      obtain ⟨B2, q, rp⟩ := p.stl e2
      cases rp with
      | @tup n vs _ hr rl =>
        rw [hK]
        refine ⟨n, vs, rfl, hr.imp (fun z => ?_) id, h1 _ _ _ q (iteT_ok fun H' Bc l sub => ⟨vs, ?_, rl.le l⟩)⟩
        · exact z.imp (fun z => q.st.sub _ _ z) fun ⟨o, z⟩ => ⟨o, q.st.sub _ _ z⟩
        · exact (l.sqT hr).imp (fun z => z.imp (fun z => sub _ _ z) fun ⟨o, z⟩ => ⟨o, sub _ _ z⟩) id
    · have ea' : asL d = some ds := by
        cases d <;> first | exact ea | exact absurd ⟨_, rfl⟩ ht
      refine ⟨_, pi_enum hg hm (jl_cons ha jl_nil hs W tk) (star_cons hs), tA_one ⟨Y, ρ, B, st, ?_⟩⟩
      rw [e1]
      intro v H1 B1 p
      obtain ⟨B2, q, rp⟩ := p.stl e2
      obtain ⟨n, ev, hq⟩ := rep_asL rp ea'
      obtain ⟨vs, hs', _⟩ := hq H1 B2 (Le.refl _) q.st.sub
      rw [hK]
      exact ⟨n, vs, by rw [ev], hs', h1 _ _ _ q (ite_ok hq)⟩
/-- more objects, nothing else -/
theorem Stp.ext {Y : Fc} {H H' : Hp} {ρ : Rho} (s : Sta T Y σ H ρ B) (k : ∀ b o, H b = some o → H' b = some o) : Stp T Y σ H ρ B H' ρ B where
  st := by
    refine ⟨s.len, fun a u e => k _ _ (s.sub a u e), fun a u e n b => k _ _ (s.keep a u e n b), s.b0, s.bnew, fun i t e => ?_, s.dist, s.mus⟩
    have so := s.slot i t e
    cases t with
    | no => trivial
    | im d => exact so
    | ow d => obtain ⟨b, eb, hb, ob, h0, nm⟩ := so; exact ⟨b, eb, hb, ob.le (Le.refl B) fun u q => k _ _ q, h0, nm⟩
    | mu d => obtain ⟨b, eb, hb, ob, hm⟩ := so; exact ⟨b, eb, hb, ob.le (Le.refl B) fun u q => k _ _ q, hm⟩
  le := Le.refl B
  kp := fun a u e _ _ => k _ _ e
  bn := fun _ e => .inl e
  sa := fun _ h => h
  sl := fun i s h n => ⟨s, h, n⟩
  fr := fun a h => by
    cases q : H a with
    | none => rfl
    | some o => rw [k _ _ q] at h; cases h
/-- list(d.items()), d locked or not -/
def rItL : V → Hp → VK → Prop := fun x H Q => ∃ (d : Addr) (kvs : List (Key × V)), x = .ref d ∧ Rd H d (.dK kvs) ∧
  ∀ (H' : Hp) (p : Addr) (ts : List Addr), (∀ b o, H b = some o → H' b = some o) → H' p = some (.lst (ts.map V.ref)) → Paired (fun (t : Addr) (q : Key × V) => H' t = some (.tup [kV q.1, q.2])) ts kvs → Q (.ref p) H'
theorem pe_itL {te : TE} (hc : X.calm = true) (he : PE X o te) (hg : Gl X "list") (hm : X.mg "list" = none) (hbase : attributeBase o "items" X.env (eval o X.env) = eval o X.env) (hline : (apos.endLine == cpos.line) = true) :
    PE X (.Call (.Name "list" p) [.Call (.Attribute o "items" apos) [] [] cpos] [] pos) (fun σ H Q => te σ H fun x H1 => rItL x H1 Q) := by
  refine ⟨fun pins s σ H Q I hq => ?_⟩
  refine wpAny_Call_Name_kw (ld_blt I hg hm rfl ?_)
  refine PyProof.Rows.callWith_type1 ?_ (star_cons rfl) rfl
  rw [star_cons (e := .Call (.Attribute o "items" apos) [] [] cpos) (es := []) rfl]
  refine Calls.spliced_cons ?_
  refine wpAny_Call_method (T := "dict") (id := "dict.items") hbase rfl hline F.plainAttrs_dict F.slot_dict_items F.type_dict_items (thn (he.run pins s σ H _ I hq) fun u s1 ⟨x, H1, I1, rx, d, kvs, ex, hd, q⟩ => ?_)
  subst ex
  obtain rfl : u = Value.ref d := rx
  obtain ⟨hz, hs0, vs, kv, hdo⟩ := dk_rd I1.hok hd
  obtain ⟨ep, hat⟩ := hdo.dictAt
  have lk : kvs.length = vs.length := Paired.length kv
  have I2 : Inv X pins σ H1 { s1 with heap := s1.heap.push { cls := .type "dict_items", data := .fields #[.ref d] } } := I1.kept (t' := s1.toks) fun b ob q => Heap.get?_push_of_some _ q
  refine ⟨hdo.typeIs, hdo.mapOf.noDict, ?_⟩
  show wpAny _ _ (callWith cpos (.builtin "dict.items") [.ref d] [] []) _ X.xe s1
  refine method_meetsIn F.slot_dict_items F.entry_dict_items rfl (PySem.evalArgs_none ⟨rfl, hdo.typeIs, F.args_dict_items_1 _, _, meets_dict_items (mixKind X.prog X.w) d hs0, ⟨vs, hdo⟩, ?_⟩)
  refine Calls.spliced_nil ?_
  refine PySem.W.kdx_call (knd := mixKind X.prog X.w) (kvs := vs) (ep := ep) (I1.ok.hd hc) ⟨_, Heap.get?_push_size _ rfl, rfl, rfl⟩ (hat.push _) (by omega) fun h' tk acc c as hk hS hl hG hacc => ?_
  obtain ⟨H', k1, k2, k3, k4, k5, k6, J⟩ := LiI.items_laid (tk := tk) I2 hz kv hk hS hl hG hacc
  exact ⟨.ref _, H', J, rfl, q H' _ as k1 k5 k6⟩
def eDicIt (f : EF) : EF := fun ρ => (f ρ).bind fun r ρ1 => match stl ρ1 r with
  | some (.dic kvs, ρ2) => .ok (.ow (.dic (kvs.foldl (fun acc kv => putD acc kv.1 kv.2) []))) ρ2
  | _ => .bad
theorem paired_imp {α β : Type} {R S : α → β → Prop} (h : ∀ a b, R a b → S a b) : ∀ {xs : List α} {ys : List β}, Paired R xs ys → Paired S xs ys
  | _, _, .nil => .nil
  | _, _, .cons a t => .cons (h _ _ a) (paired_imp h t)
theorem je_dicIt (hK : X.K = T.K) (hc : X.calm = true) (ho : JE T X o fo) (hg : Gl X "list") (hm : X.mg "list" = none) (hg2 : Gl X "dict") (hm2 : X.mg "dict" = none) {p2 pos2 : Pos} (hb : noSup o = true) (hline : (apos.endLine == cpos.line) = true) :
    JE T X (.Call (.Name "dict" p2) [.Call (.Name "list" p) [.Call (.Attribute o "items" apos) [] [] cpos] [] pos] [] pos2) (eDicIt fo) := fun W tk =>
  PE.imp (pe_callTy (call_dictP hc) hg2 hm2 rfl (pa_cons (pe_itL hc (ho W tk) hg hm (abase_of hb) hline) pa_nil (star_cons rfl)) (by decide) (by decide) (star_cons rfl) rfl) fun σ H Q ⟨Y, ρ, B, st, h⟩ => ⟨Y, ρ, B, st, h.bind.imp fun r ρ1 h1 v H1 B1 q => by
    split at h1
    rotate_left
    · exact h1.elim
    rename_i kvs ρ2 e2
    obtain ⟨B2, q2, rp⟩ := q.stl e2
    cases rp with
    | @dic n ks _ hr rk =>
      refine ⟨n, ks, rfl, hr.imp (fun z => q2.st.sub _ _ z) (fun ⟨od, z⟩ => ⟨od, q2.st.sub _ _ z⟩), fun H' pp ts k1 k5 k6 => ?_⟩
      refine ⟨pp, ts, ks, rfl, .inl (.inl k5), paired_imp (fun t kv z => .inl (.inl z)) k6, fun D hD => ?_⟩
      have s1 := Stp.ext q2.st k1
      exact h1 (.ref D) _ _ (Pe.after (q2.trans s1) (Pe.laid s1.st hD ⟨_, upd_same, rk.merge .nil⟩))⟩
end
end Pu
namespace Pu
open PySem PySem.Spec PyProof.Rows L2
section
variable {T : Tb} {X : Cx} {W : WX} {Y : Fc} {σ : Sg} {H H1 H2 : Hp} {ρ ρ1 ρ2 : Rho} {B B1 B2 : Hp} {a b c e o : Expr} {es : List Expr} {kws : List Keyword} {pos p kpos : Pos} {nm : Option Str} {fa fb : EF} {fl fk : LF}
def JK (T : Tb) (X : Cx) (kws : List Keyword) (f : LF) : Prop := ∀ W, Takes X W → PK X kws (tA T W f)
theorem PK.imp {X : Cx} {e : List Keyword} {t t' : TA} (h : PK X e t) (i : ∀ σ H Q, t' σ H Q → t σ H Q) : PK X e t' := ⟨fun pos pins s σ H Q I q => h.run pos pins s σ H Q I (i σ H Q q)⟩
theorem jk_nil : JK T X [] lNil := fun W tk => PK.imp pk_nil fun σ H Q ⟨Y, ρ, B, s, h⟩ => h [] H B (PeL.nil s)
theorem jk_cons (ha : JE T X e fa) (hr : JK T X kws fk) : JK T X (⟨nm, e, kpos⟩ :: kws) (lCons fa fk) := fun W tk =>
  PK.imp (pk_cons (ha W tk) (hr W tk)) fun σ H Q ⟨Y, ρ, B, s, h⟩ => ⟨Y, ρ, B, s, h.bind.imp fun r ρ1 h1 v H1 B1 p => ⟨Y, ρ1, B1, p.stp.st, (Aft.after p.stp h1.bind).imp fun rs ρ2 h2 vs H2 B2 q => h2 (v :: vs) H2 B2 (PeL.cons p q)⟩⟩
theorem PeL.append {vs zs : List V} {rs ks : List RV} (p : PeL T Y σ H ρ B vs rs H1 ρ1 B1) (q : PeL T Y σ H1 ρ1 B1 zs ks H2 ρ2 B2) : PeL T Y σ H ρ B (vs ++ zs) (rs ++ ks) H2 ρ2 B2 where
  stp := p.stp.trans q.stp
  len := by rw [List.length_append, List.length_append, p.len, q.len]
  val := fun k v r e1 e2 => by
    by_cases h : k < vs.length
    · rw [List.getElem?_append_left h] at e1
      rw [List.getElem?_append_left (by rw [← p.len]; exact h)] at e2
      exact (p.val k v r e1 e2).stp q.stp
    · rw [List.getElem?_append_right (by omega)] at e1
      rw [List.getElem?_append_right (by rw [← p.len]; omega)] at e2
      rw [← p.len] at e2
      exact q.val _ v r e1 e2
  new := fun k d a e1 e2 => by
    by_cases h : k < vs.length
    · rw [List.getElem?_append_left (by rw [← p.len]; exact h)] at e1
      rw [List.getElem?_append_left h] at e2
      exact p.new k d a e1 e2
    · rw [List.getElem?_append_right (by rw [← p.len]; omega)] at e1
      rw [List.getElem?_append_right (by omega)] at e2
      rw [← p.len] at e1
      exact p.stp.fr a (q.new _ d a e1 e2)
  dis := fun j k d e a h1 h2 h3 h4 => by
    have key : ∀ {j k : Nat} {d e : D}, j < vs.length → ¬ k < vs.length → (rs ++ ks)[j]? = some (.ow d) → (rs ++ ks)[k]? = some (.ow e) → (vs ++ zs)[j]? = some (.ref a) → (vs ++ zs)[k]? = some (.ref a) → False := by
      intro j k d e hj hk h1 h2 h3 h4
      rw [List.getElem?_append_left (by rw [← p.len]; exact hj)] at h1
      rw [List.getElem?_append_left hj] at h3
      rw [List.getElem?_append_right (by rw [← p.len]; omega)] at h2
      rw [List.getElem?_append_right (by omega)] at h4
      rw [← p.len] at h2
      have n := q.new _ e a h2 h4
      obtain ⟨a', ea, _, ob, _⟩ := p.val j _ _ h3 h1
      cases ea
      obtain ⟨u, hu⟩ := ob.some
      rw [n] at hu; cases hu
    by_cases hj : j < vs.length
    · by_cases hk : k < vs.length
      · rw [List.getElem?_append_left (by rw [← p.len]; exact hj)] at h1
        rw [List.getElem?_append_left hj] at h3
        rw [List.getElem?_append_left (by rw [← p.len]; exact hk)] at h2
        rw [List.getElem?_append_left hk] at h4
        exact p.dis j k d e a h1 h2 h3 h4
      · exact (key hj hk h1 h2 h3 h4).elim
    · by_cases hk : k < vs.length
      · exact (key hk hj h2 h1 h4 h3).elim
      · rw [List.getElem?_append_right (by rw [← p.len]; omega)] at h1
        rw [List.getElem?_append_right (by omega)] at h3
        rw [List.getElem?_append_right (by rw [← p.len]; omega)] at h2
        rw [List.getElem?_append_right (by omega)] at h4
        rw [← p.len] at h1 h2
        have := q.dis _ _ d e a h1 h2 h3 h4
        omega
/-- a constructor called with keywords: n positional values, m behind them; pD the parameters' order -/
structure MkK (T : Tb) (X : Cx) (k : Nat) (c : Nat) (n m : Nat) (ks : List Str) (pD : List D → List D → List D) (F : List D → Out) (f : Addr) : Prop where
  hc : c < T.cl.length
  mkc : Mk X.K (T.ca c) f
  hm : m = ks.length
  ex : ∃ (fd : FuncData) (ps : List Str) (fls : List Bool) (g : List Value → List Value → List Value) (gV pV : List V → List V → List V), FnOk X.prog X.w X.K X.mg X.base (CX X.prog X.w) k f fd ps (spR T (true :: fls) F) ∧ KBn X.K fd ps (n + 1) ks g gV ∧
    (∀ v vs zs, vs.length = n → zs.length = m → gV (v :: vs) zs = v :: pV vs zs) ∧ (∀ (B : Hp) (vs zs : List V) (ds es : List D), RepL T B vs ds → RepL T B zs es → ds.length = n → es.length = m → RepL T B (pV vs zs) (pD ds es) ∧ fls = (pD ds es).map fun _ => false)
def eMakeK (c n m : Nat) (pD : List D → List D → List D) (F : List D → Out) (fl fk : LF) : EF := fun ρ => (fl ρ).bind fun rs ρ1 => (fk ρ1).bind fun ks ρ2 => if rs.length = n ∧ ks.length = m then (match setl (rs ++ ks) ρ2 with
  | some (ds, ρ3) => (match F (.ins c [] :: pD (ds.take n) (ds.drop n)) with
    | .ok (.im .non) (d :: _) => .ok (.ow d) ρ3
    | _ => .bad)
  | none => .bad) else .bad
theorem setl_len : ∀ {rs : List RV} {ρ ρ' : Rho} {ds : List D}, setl rs ρ = some (ds, ρ') → ds.length = rs.length
  | [], ρ, ρ', ds, e => by cases e; rfl
  | r :: rs, ρ, ρ', ds, e => by
    unfold setl at e
    split at e
    · split at e
      · rename_i h2
        cases e
        exact congrArg Nat.succ (setl_len h2)
      · cases e
    · cases e
theorem makeK_of {c n m : Nat} {pD : List D → List D → List D} {F : List D → Out} {fls : List Bool} {gV pV : List V → List V → List V} {Q : VK} (hc : c < T.cl.length)
    (hg : ∀ v vs zs, vs.length = n → zs.length = m → gV (v :: vs) zs = v :: pV vs zs) (hp : ∀ (B : Hp) (vs zs : List V) (ds es : List D), RepL T B vs ds → RepL T B zs es → ds.length = n → es.length = m → RepL T B (pV vs zs) (pD ds es) ∧ fls = (pD ds es).map fun _ => false)
    (h : tE T W (eMakeK c n m pD F fl fk) σ H Q) : tMakeK (T.ca c) n m (spR T (true :: fls) F) gV (fun _ _ _ => False) (tA T W fl) (tA T W fk) σ H Q := by
  obtain ⟨Y, ρ, B, st, h⟩ := h
  refine ⟨Y, ρ, B, st, h.bind.imp fun rs ρ1 h1 vs H1 B1 q1 => ⟨Y, ρ1, B1, q1.stp.st, (Aft.after q1.stp h1.bind).imp fun kk ρ2 h2 zs H2 B2 q2 => ?_⟩⟩
  split at h2
  rotate_left
  · exact h2.elim
  rename_i hl
  split at h2
  rotate_left
  · exact h2.elim
  rename_i ds ρ3 es
  have ln := setl_len es
  rw [List.length_append, hl.1, hl.2] at ln
  have l1 : vs.length = n := by rw [q1.len]; exact hl.1
  have l2 : zs.length = m := by rw [q2.len]; exact hl.2
  refine ⟨l1, l2, fun x dx hx hdx hne => ?_⟩
  rw [hg _ _ _ l1 l2]
  obtain ⟨B3, stp, rl, l⟩ := setl_ok (q1.append q2) es
  have r1 : RepL T B3 vs (ds.take n) := by
    have := rl.take n
    rw [← l1, List.take_left] at this
    rw [← l1]; exact this
  have r2 : RepL T B3 zs (ds.drop n) := by
    have := rl.drop n
    rw [← l1, List.drop_left] at this
    rw [← l1]; exact this
  obtain ⟨rp, ef⟩ := hp B3 vs zs _ _ r1 r2 (by rw [List.length_take]; omega) (by rw [List.length_drop]; omega)
  refine make_sp hc ?_ x dx hx hdx hne
  refine ⟨B3, _, [], stp.st.sub, by rw [ef]; exact Ars.imL rp, ?_⟩
  unfold mkO
  split at h2
  rotate_left
  · exact h2.elim
  rename_i d ms eo
  rw [eo]
  intro v H' B' rt rv
  obtain ⟨vr, nw⟩ := ret_val stp.st (.nil : Lent σ ρ3 [] []) rt rv
  have st2 := stp.trans (ret_step stp.st .nil rt)
  exact h2 v H' B' ⟨st2, vr, fun d a e1 e2 => stp.fr a (nw d a e1 e2)⟩
theorem no_exc (tk : Takes X W) : Passes (CX X.prog X.w) X (fun _ _ _ => False) := passes_call (tk.imp (W' := fun _ _ _ _ => False) fun _ _ _ _ z => z.elim) fun _ _ _ _ z => z
theorem je_makeK {k c n m : Nat} {ks : List Str} {pD : List D → List D → List D} {F : List D → Out} {f : Addr} {x : Str} (M : MkK T X k c n m ks pD F f) (hr : Room (k + 1) X.A) (hg : Gl X x) (hm : X.mg x = some (.ref (T.ca c))) (hdb : (x == ("__debug__" : Str)) = false) (ha : JL T X (e :: es) fl) (hk : JK T X kws fk)
    (hs : noStar (e :: es) = true) (hall : ∀ env : PySem.Env, (backToKw pos (keywordEach kws env)).all (·.1.isSome) = true) (hks : ∀ env : PySem.Env, (backToKw pos (keywordEach kws env)).filterMap (·.1) = ks) (hno : ∀ env : PySem.Env, (backToKw pos (keywordEach kws env)).any (·.1.isNone) = false) :
    JE T X (.Call (.Name x p) (e :: es) kws pos) (eMakeK c n m pD F fl fk) := fun W tk => by
  obtain ⟨hc, mkc, hm', fd, ps, fls, g, gV, pV, Fk, Kb, h1, h2⟩ := M
  subst hm'
  have hs' := hs
  unfold noStar at hs'
  rw [List.all_cons, Bool.and_eq_true] at hs'
  exact PE.imp (pe_makeK mkc Fk hr hg hm Kb (no_exc tk) (ha W tk) (hk W tk) (hall _) (hks _) hdb (star_cons (by simpa using hs'.1)) (by rw [star_any hs, hno]; rfl)) fun σ H Q h => makeK_of hc h1 h2 h
theorem je_makeK0 {k c m : Nat} {ks : List Str} {pD : List D → List D → List D} {F : List D → Out} {f : Addr} {x : Str} (M : MkK T X k c 0 m ks pD F f) (hr : Room (k + 1) X.A) (hg : Gl X x) (hm : X.mg x = some (.ref (T.ca c))) (hdb : (x == ("__debug__" : Str)) = false) (hk : JK T X kws fk)
    (hall : ∀ env : PySem.Env, (backToKw pos (keywordEach kws env)).all (·.1.isSome) = true) (hks : ∀ env : PySem.Env, (backToKw pos (keywordEach kws env)).filterMap (·.1) = ks) (hno : ∀ env : PySem.Env, (backToKw pos (keywordEach kws env)).any (·.1.isNone) = false) :
    JE T X (.Call (.Name x p) [] kws pos) (eMakeK c 0 m pD F lNil fk) := fun W tk => by
  obtain ⟨hc, mkc, hm', fd, ps, fls, g, gV, pV, Fk, Kb, h1, h2⟩ := M
  subst hm'
  refine PE.imp (pe_makeK0 mkc Fk hr hg hm Kb (no_exc tk) (hk W tk) (hall _) (hks _) hdb (by rw [hno]; rfl)) fun σ H Q h => ?_
  obtain ⟨Y, ρ, B, st, h'⟩ := makeK_of hc h1 h2 h
  exact h' [] H B (PeL.nil st)
end
end Pu
namespace Pu
open PySem PySem.Spec PyProof.Rows L2
/-- further facts -/
structure Zx (t : Tabs) (G : Gb) : Prop extends Zf t G where
  eqm : ∀ c, c < t.cl.length → EqM G.T.K (G.T.ca c)
  mum : ∀ c, t.muls.contains c = true → MuM G.T.K (G.T.ca c)
  stat : ∀ c m, t.stats.contains (c, m) = true → StatM G.T.K (G.T.ca c) m (smA G.T.K (G.T.ca c) m)
  kd : KdG G.T.K G.w t.kds
/-- own operators -/
inductive OwL (t : Tabs) (G : Gb) (k : Nat) (m : Str) : List (Nat × Fs) → Prop
  | nil : OwL t G k m []
  | cons {c S l} (j : Nat) : j ≤ k → MtG G j m c S → S.fl = [false, false] → (decide (c < t.cl.length) && t.meths.contains (c, m)) = true → OwL t G k m l → OwL t G k m ((c, S) :: l)
inductive RpL (G : Gb) (k : Nat) : List (Nat × Fs) → Prop
  | nil : RpL G k []
  | cons {c S l} (j : Nat) : j ≤ k → MtG G j "__repr__" c S → S.fl = [false] → RpL G k l → RpL G k ((c, S) :: l)
section
variable {t : Tabs} {G : Gb} {k : Nat} {N : List Str} {sc : Scope} {X : Cx} {a b c e o iter tg : Expr} {es : List Expr} {kws : List Keyword} {pos apos cpos p : Pos} {fa fb fc fo : EF} {fl fk : LF} {l l1 l2 : List (Nat × Fs)}
theorem OwL.get (Z : Zf t G) (g : Gc G k N sc X) {k' : Nat} {m : Str} (hk : k' ≤ k) : ∀ {l : List (Nat × Fs)}, OwL t G k' m l → OwT G.T X k' m l
  | _, .nil => fun c S _ h => by cases h
  | _, .cons (c := c0) (S := S0) j hj M hf hc t => fun c S hc' h => by
    rw [List.lookup_cons] at h
    split at h
    · rename_i e
      have e : c = c0 := by simpa using e
      have h : S0 = S := by injection h
      subst e h
      rw [Bool.and_eq_true] at hc
      have kp : Kp G.T X k' (He.ma G.T.K (G.T.ca c) m) S0 := by
        unfold Kp
        rw [g.eP, g.ew, g.K, g.mg, g.eb]
        exact M.kp.mono hj
      exact ⟨_, by rw [g.K]; exact M.mth, by rw [g.K]; exact Z.sf _ (of_decide_eq_true hc.1), by rw [g.K]; exact Z.ff _ _ hc.2, hf, kp⟩
    · exact t.get Z g hk c S hc' h
theorem RpL.get (g : Gc G k N sc X) {k' : Nat} : ∀ {l : List (Nat × Fs)}, RpL G k' l → ∀ c S, c < G.T.cl.length → l.lookup c = some S → ∃ f, RpM G.T X k' c S f
  | _, .nil => fun c S _ h => by cases h
  | _, .cons (c := c0) (S := S0) j hj M hf t => fun c S hc' h => by
    rw [List.lookup_cons] at h
    split at h
    · rename_i e
      have e : c = c0 := by simpa using e
      have h : S0 = S := by injection h
      subst e h
      have kp : Kp G.T X k' (He.ma G.T.K (G.T.ca c) "__repr__") S0 := by
        unfold Kp
        rw [g.eP, g.ew, g.K, g.mg, g.eb]
        exact M.kp.mono hj
      exact ⟨_, by rw [g.K]; exact M.mth, hf, kp⟩
    · exact t.get g c S hc' h
def hAdd (l : List (Nat × Fs)) (a b : D) : Oh := (Oh.ov (bBin .Add a b)).or (hSame l a b)
def hSubt (l : List (Nat × Fs)) (a b : D) : Oh := (Oh.ov (bBin .Sub a b)).or (hSame l a b)
def hMul (l1 l2 : List (Nat × Fs)) (a b : D) : Oh := (Oh.ov (bBin .Mult a b)).or ((hMulI l1 a b).or (hRMul l2 a b))
theorem x_add (g : Gc G k N sc X) (Z : Zx t G) (h : OwL t G k "__add__" l) (ha : JE G.T X a fa) (hb : JE G.T X b fb) (hd : PySem.dunder "add" = ("__add__" : Str)) : JE G.T X (.BinOp a .Add b pos) (eOp (hAdd l) fa fb) :=
  je_bin2 (OpH.or (OpG.oh (og_bin .Add)) (oh_same (op := .Add) (by show OwT G.T X k (PySem.dunder "add") l; rw [hd]; exact h.get Z.toZf g (Nat.le_refl k)) g.room)) ha hb
theorem x_sub (g : Gc G k N sc X) (Z : Zx t G) (h : OwL t G k "__sub__" l) (ha : JE G.T X a fa) (hb : JE G.T X b fb) (hd : PySem.dunder "sub" = ("__sub__" : Str)) : JE G.T X (.BinOp a .Sub b pos) (eOp (hSubt l) fa fb) :=
  je_bin2 (OpH.or (OpG.oh (og_bin .Sub)) (oh_same (op := .Sub) (by show OwT G.T X k (PySem.dunder "sub") l; rw [hd]; exact h.get Z.toZf g (Nat.le_refl k)) g.room)) ha hb
theorem x_mul (g : Gc G k N sc X) (Z : Zx t G) (h1 : OwL t G k "__mul__" l1) (h2 : OwL t G k "__rmul__" l2) (ha : JE G.T X a fa) (hb : JE G.T X b fb) (hd : PySem.dunder "mul" = ("__mul__" : Str)) (hd2 : dunderR "mul" = ("__rmul__" : Str)) (hl1 : l1.all (fun q => t.muls.contains q.1) = true) (hl2 : l2.all (fun q => t.muls.contains q.1) = true) : JE G.T X (.BinOp a .Mult b pos) (eOp (hMul l1 l2) fa fb) := by
  have mm : ∀ {l : List (Nat × Fs)}, l.all (fun q => t.muls.contains q.1) = true → ∀ c S, c < G.T.cl.length → l.lookup c = some S → MuM X.K (G.T.ca c) := fun {l} hl c S _ e => by
    have hm : (c, S) ∈ l := by
      clear hl
      induction l with
      | nil => cases e
      | cons q r ih =>
        obtain ⟨c', S'⟩ := q
        rw [List.lookup_cons] at e
        split at e
        · rename_i z
          have z : c = c' := by simpa using z
          cases e
          subst z
          exact List.mem_cons_self
        · exact List.mem_cons_of_mem _ (ih e)
    have := List.all_eq_true.mp hl _ hm
    rw [g.K]
    exact Z.mum c this
  exact je_bin2 (OpH.or (OpG.oh (og_bin .Mult)) (OpH.or (oh_mulI (by rw [hd]; exact h1.get Z.toZf g (Nat.le_refl k)) (mm hl1) g.room) (oh_rmul (by rw [hd2]; exact h2.get Z.toZf g (Nat.le_refl k)) (mm hl2) g.room))) ha hb
def hInA (neg : Bool) (op : CmpOp) (l : List (Nat × Fs)) (tab : List (Str × Str × Int)) (a b : D) : Oh := (Oh.ov (bCmp op a b)).or ((hIn neg l a b).or (.ov (obl neg (bInG tab a b))))
theorem ohIn (g : Gc G k N sc X) (Z : Zx t G) {neg : Bool} {op : CmpOp} (hop : (neg = false ∧ op = .In) ∨ (neg = true ∧ op = .NotIn)) (h : OwL t G k "__contains__" l) : OpH G.T X (compareOp op) (hInA neg op l t.kds) :=
  OpH.or (OpG.oh (og_cmp g.hu g.K op)) (OpH.or (oh_in hop (h.get Z.toZf g (Nat.le_refl k)) g.room) (oh_inG hop g.K (by rw [g.K, g.ew]; exact Z.kd)))
theorem x_in (g : Gc G k N sc X) (Z : Zx t G) (h : OwL t G k "__contains__" l) (ha : JE G.T X a fa) (hb : JE G.T X b fb) (hs : isSet b = false) : JE G.T X (.Compare a [.In] [b] pos) (eOp (hInA false .In l t.kds) fa fb) := je_cmp (ohIn g Z (.inl ⟨rfl, rfl⟩) h) hs ha hb
theorem x_nin (g : Gc G k N sc X) (Z : Zx t G) (h : OwL t G k "__contains__" l) (ha : JE G.T X a fa) (hb : JE G.T X b fb) (hs : isSet b = false) : JE G.T X (.Compare a [.NotIn] [b] pos) (eOp (hInA true .NotIn l t.kds) fa fb) := je_cmp (ohIn g Z (.inr ⟨rfl, rfl⟩) h) hs ha hb
theorem xt_in (g : Gc G k N sc X) (Z : Zx t G) (h : OwL t G k "__contains__" l) (ha : JE G.T X a fa) (hb : JE G.T X b fb) (hs : isSet b = false) : JT G.T X (.Compare a [.In] [b] pos) (tBl (eOp (hInA false .In l t.kds) fa fb)) := jt_cmp (ohIn g Z (.inl ⟨rfl, rfl⟩) h) hs ha hb
theorem xt_nin (g : Gc G k N sc X) (Z : Zx t G) (h : OwL t G k "__contains__" l) (ha : JE G.T X a fa) (hb : JE G.T X b fb) (hs : isSet b = false) : JT G.T X (.Compare a [.NotIn] [b] pos) (tBl (eOp (hInA true .NotIn l t.kds) fa fb)) := jt_cmp (ohIn g Z (.inr ⟨rfl, rfl⟩) h) hs ha hb
def hEqA (neg : Bool) (op : CmpOp) (l : List (Nat × Fs)) (a b : D) : Oh := (Oh.ov (bCmp op a b)).or (hEq neg l a b)
theorem ohEq (g : Gc G k N sc X) (Z : Zx t G) {k' : Nat} {neg : Bool} {op : CmpOp} (hk : k' + 1 ≤ k) (hop : (neg = false ∧ op = .Eq) ∨ (neg = true ∧ op = .NotEq)) (h : OwL t G k' "__eq__" l) : OpH G.T X (compareOp op) (hEqA neg op l) :=
  OpH.or (OpG.oh (og_cmp g.hu g.K op)) (oh_eq (k := k') hop ⟨h.get Z.toZf g (by omega), fun c hc => by rw [g.K]; exact Z.eqm c (by rw [← Z.cl]; exact hc)⟩ (g.room.mono hk))
theorem x_eq (g : Gc G k N sc X) (Z : Zx t G) (k' : Nat) (hk : k' + 1 ≤ k) (h : OwL t G k' "__eq__" l) (ha : JE G.T X a fa) (hb : JE G.T X b fb) (hs : isSet b = false) : JE G.T X (.Compare a [.Eq] [b] pos) (eOp (hEqA false .Eq l) fa fb) := je_cmp (ohEq g Z hk (.inl ⟨rfl, rfl⟩) h) hs ha hb
theorem x_ne (g : Gc G k N sc X) (Z : Zx t G) (k' : Nat) (hk : k' + 1 ≤ k) (h : OwL t G k' "__eq__" l) (ha : JE G.T X a fa) (hb : JE G.T X b fb) (hs : isSet b = false) : JE G.T X (.Compare a [.NotEq] [b] pos) (eOp (hEqA true .NotEq l) fa fb) := je_cmp (ohEq g Z hk (.inr ⟨rfl, rfl⟩) h) hs ha hb
theorem xt_eq (g : Gc G k N sc X) (Z : Zx t G) (k' : Nat) (hk : k' + 1 ≤ k) (h : OwL t G k' "__eq__" l) (ha : JE G.T X a fa) (hb : JE G.T X b fb) (hs : isSet b = false) : JT G.T X (.Compare a [.Eq] [b] pos) (tBl (eOp (hEqA false .Eq l) fa fb)) := jt_cmp (ohEq g Z hk (.inl ⟨rfl, rfl⟩) h) hs ha hb
theorem xt_ne (g : Gc G k N sc X) (Z : Zx t G) (k' : Nat) (hk : k' + 1 ≤ k) (h : OwL t G k' "__eq__" l) (ha : JE G.T X a fa) (hb : JE G.T X b fb) (hs : isSet b = false) : JT G.T X (.Compare a [.NotEq] [b] pos) (tBl (eOp (hEqA true .NotEq l) fa fb)) := jt_cmp (ohEq g Z hk (.inr ⟨rfl, rfl⟩) h) hs ha hb
def hSubA (l : List (Nat × Fs)) (tab : List (Str × Str × Int)) (a b : D) : Oh := (hSub a b).or ((hGet l a b).or (gV (bItG tab) a b))
theorem x_sub' (g : Gc G k N sc X) (Z : Zx t G) (k' : Nat) (hk : k' + 1 ≤ k) (h : OwL t G k' "__getitem__" l) (ha : JE G.T X a fa) (hb : JE G.T X b fb) (hs : isSl b = false) : JE G.T X (.Subscript a b pos) (eOp (hSubA l t.kds) fa fb) :=
  je_or2 (w_sub g ha hb hs) (je_or2 (je_ixO (k := k') (h.get Z.toZf g (by omega)) (g.room.mono hk) ha hb hs) (je_ixG g.K (by rw [g.K, g.ew]; exact Z.kd) (plainIx_of hs) ha hb))
theorem x_repr (g : Gc G k N sc X) (k' : Nat) (hk : k' + 1 ≤ k) (h : RpL G k' l) (hf : Fr G "repr") (ha : JL G.T X (e :: es) fl) (hg : gloC sc "repr" = true) (hs : noStar (e :: es) = true) : JE G.T X (.Call (.Name "repr" p) (e :: es) [] pos) (eRepr l fl) :=
  je_repr (k := k') (h.get g) (g.room.mono hk) (g.gl hg).1 (g.free hf) ha hs
structure StG (G : Gb) (k : Nat) (x m : Str) (S : Fs) : Prop where
  hm : G.mg x = some (.ref (He.ga G.T.K x))
  st : StatM G.T.K (He.ga G.T.K x) m (smA G.T.K (He.ga G.T.K x) m)
  kp : Kc G k (smA G.T.K (He.ga G.T.K x) m) S
theorem x_stat (g : Gc G k N sc X) {j : Nat} {x m : Str} {S : Fs} {np : Pos} (F : StG G j x m S) (hj : j ≤ k) (ha : JL G.T X (e :: es) fl) (hg : gloC sc x = true) (hs : noStar (e :: es) = true) (hlen : decide ((e :: es).length < 30) = true) (hline : (apos.endLine == pos.line) = true) :
    JE G.T X (.Call (.Attribute (.Name x np) m apos) (e :: es) [] pos) (eCall S fl) :=
  je_stat (by rw [g.K]; exact F.st) (g.kp F.kp hj) g.room (g.gl hg).1 (by rw [g.mg]; exact F.hm) (g.gl hg).2 ha hs hlen hline
theorem x_enum (g : Gc G k N sc X) {elts : List Expr} {kk : Nat} {tpos : Pos} (hf : Fr G "enumerate") (ha : JE G.T X a fa) (hg : gloC sc "enumerate" = true) (hs : isStar a = false) : JI G.T X (.Tuple elts kk tpos) (.Call (.Name "enumerate" p) [a] [] pos) (iEnu2 fa) := ji_enum2 g.K (g.gl hg).1 (g.free hf) ha hs
theorem x_dicIt (g : Gc G k N sc X) {p2 pos2 : Pos} (hf : Fr G "list") (hf2 : Fr G "dict") (ho : JE G.T X o fo) (hg : gloC sc "list" = true) (hg2 : gloC sc "dict" = true) (hb : noSup o = true) (hline : (apos.endLine == cpos.line) = true) :
    JE G.T X (.Call (.Name "dict" p2) [.Call (.Name "list" p) [.Call (.Attribute o "items" apos) [] [] cpos] [] pos] [] pos2) (eDicIt fo) :=
  je_dicIt g.K g.calm ho (g.gl hg).1 (g.free hf) (g.gl hg2).1 (g.free hf2) hb hline
/-- a constructor's contract by keywords -/
structure KwG (G : Gb) (k : Nat) (x : Str) (c n m : Nat) (ks : List Str) (pD : List D → List D → List D) (F : List D → Out) : Prop where
  hc : c < G.T.cl.length
  hx : G.T.cl.getD c "" = x
  hm : G.mg x = some (.ref (He.ga G.T.K x))
  mkc : Mk G.T.K (He.ga G.T.K x) (He.ma G.T.K (He.ga G.T.K x) "__init__")
  hmm : m = ks.length
  ex : ∃ (fd : FuncData) (ps : List Str) (fls : List Bool) (g : List Value → List Value → List Value) (gV pV : List V → List V → List V), FnOk G.P G.w G.T.K G.mg G.base (CX G.P G.w) k (He.ma G.T.K (He.ga G.T.K x) "__init__") fd ps (spR G.T (true :: fls) F) ∧ KBn G.T.K fd ps (n + 1) ks g gV ∧
    (∀ v vs zs, vs.length = n → zs.length = m → gV (v :: vs) zs = v :: pV vs zs) ∧ (∀ (B : Hp) (vs zs : List V) (ds es : List D), RepL G.T B vs ds → RepL G.T B zs es → ds.length = n → es.length = m → RepL G.T B (pV vs zs) (pD ds es) ∧ fls = (pD ds es).map fun _ => false)
theorem KwG.mk' (g : Gc G k N sc X) {j : Nat} {x : Str} {c n m : Nat} {ks : List Str} {pD : List D → List D → List D} {F : List D → Out} (M : KwG G j x c n m ks pD F) : MkK G.T X j c n m ks pD F (He.ma G.T.K (He.ga G.T.K x) "__init__") := by
  refine ⟨M.hc, by rw [g.K]; unfold Tb.ca; rw [M.hx]; exact M.mkc, M.hmm, ?_⟩
  rw [g.eP, g.ew, g.K, g.mg, g.eb]
  exact M.ex
theorem x_mkK (g : Gc G k N sc X) {j : Nat} {x : Str} {c n m : Nat} {ks : List Str} {pD : List D → List D → List D} {F : List D → Out} (M : KwG G j x c n m ks pD F) (hj : j + 1 ≤ k) (ha : JL G.T X (e :: es) fl) (hk : JK G.T X kws fk) (hg : gloC sc x = true)
    (hs : noStar (e :: es) = true) (hall : ∀ env : PySem.Env, (backToKw pos (keywordEach kws env)).all (·.1.isSome) = true) (hks : ∀ env : PySem.Env, (backToKw pos (keywordEach kws env)).filterMap (·.1) = ks) (hno : ∀ env : PySem.Env, (backToKw pos (keywordEach kws env)).any (·.1.isNone) = false) :
    JE G.T X (.Call (.Name x p) (e :: es) kws pos) (eMakeK c n m pD F fl fk) := by
  have hx := M.hx
  exact je_makeK (M.mk' g) (g.room.mono hj) (g.gl hg).1 (by rw [g.mg]; unfold Tb.ca; rw [hx]; exact M.hm) (g.gl hg).2 ha hk hs hall hks hno
theorem x_mkK0 (g : Gc G k N sc X) {j : Nat} {x : Str} {c m : Nat} {ks : List Str} {pD : List D → List D → List D} {F : List D → Out} (M : KwG G j x c 0 m ks pD F) (hj : j + 1 ≤ k) (hk : JK G.T X kws fk) (hg : gloC sc x = true)
    (hall : ∀ env : PySem.Env, (backToKw pos (keywordEach kws env)).all (·.1.isSome) = true) (hks : ∀ env : PySem.Env, (backToKw pos (keywordEach kws env)).filterMap (·.1) = ks) (hno : ∀ env : PySem.Env, (backToKw pos (keywordEach kws env)).any (·.1.isNone) = false) :
    JE G.T X (.Call (.Name x p) [] kws pos) (eMakeK c 0 m pD F lNil fk) := by
  have hx := M.hx
  exact je_makeK0 (M.mk' g) (g.room.mono hj) (g.gl hg).1 (by rw [g.mg]; unfold Tb.ca; rw [hx]; exact M.hm) (g.gl hg).2 hk hall hks hno
end
end Pu
namespace Pu
open PySem PySem.Spec PyProof.Rows L2
section
variable {t : Tabs} {G : Gb} {k : Nat} {N ps : List Str} {scope : Scope} {x q : Str} {pa : Arguments} {body : List Stmt} {f : Addr} {fd : FuncData} {fl : List Bool} {den : SF}
theorem kc_bad {fl : List Bool} : Kc G k f ⟨fl, fun _ => .bad⟩ := fun A outer s H us vs Q E hr e0 r h => by
  obtain ⟨B, ds, as, sub, ars, h⟩ := h
  exact h.elim
theorem vals_rev : ∀ {vs : List V} {us : List Value}, Vals vs us → Vals vs.reverse us.reverse
  | _, _, .nil => .nil
  | _, _, .cons a t => by rw [List.reverse_cons, List.reverse_cons]; exact (vals_rev t).append (.cons a .nil)
theorem kbn_plain (F : FunD G.T.K x q pa body scope [] [] f fd) (n : Nat) (ks : List Str)
    (h : ∀ (kV doc pm : Value) (an : Option Addr) (cdv ct : Value) (us ws : List Value), us.length = n → ws.length = ks.length → bindArgs (PySem.W.fnOf x q pa body scope .none kV doc pm an cdv ct) ⟨us, ks.zip ws⟩ = pure (ps.zip (us ++ ws.reverse))) : KBn G.T.K fd ps n ks (fun us ws => us ++ ws.reverse) (fun vs zs => vs ++ zs.reverse) := by
  obtain ⟨oc, od, dV, kV, doc, pm, an, cdv, ct, osl, rfl, lk, hcd, hD, hK⟩ := F.ex
  rcases hD with ⟨_, rfl⟩ | ⟨e, _⟩
  · exact ⟨fun s us ws _ h1 h2 => .of_eq (h kV doc pm an cdv ct us ws h1 h2), fun r1 r2 => r1.append (vals_rev r2)⟩
  · exact absurd rfl e
theorem imL_map {ds : List D} {n : Nat} (h : ds.length = n) : List.replicate n false = ds.map fun _ => false := by
  subst h
  induction ds with
  | nil => rfl
  | cons d r ih => rw [List.length_cons, List.replicate_succ, ih]; rfl
/-- all parameters by keywords, in the turned order -/
theorem kw_rev (Z : Zx t G) {c : Nat} {ks : List Str} (F : FunD G.T.K x q pa body scope [] [] (He.ma G.T.K (He.ga G.T.K (t.cl.getD c "")) "__init__") fd) (S : FnScope N ps scope) (hc : c < t.cl.length) (hm : t.mkrs.contains c = true) (hN : ps.length ≤ N.length) (hl : ps.length = ks.length + 1)
    (hb : ∀ (kV doc pm : Value) (an : Option Addr) (cdv ct : Value) (us ws : List Value), us.length = 1 → ws.length = ks.length → bindArgs (PySem.W.fnOf x q pa body scope .none kV doc pm an cdv ct) ⟨us, ks.zip ws⟩ = pure (ps.zip (us ++ ws.reverse)))
    (hfl : fl = true :: List.replicate ks.length false) (hbody : ∀ X, Gc G k N scope X → Bd X → JSs G.T X body den) :
    KwG G (k + 1) (t.cl.getD c "") c 0 ks.length ks (fun ds es => ds ++ es.reverse) (runF N.length fl den) := by
  obtain ⟨h1, h2⟩ := Z.mkt c hm
  have e : G.T.ca c = He.ga G.T.K (t.cl.getD c "") := by unfold Tb.ca; rw [Z.cl]
  rw [e] at h1 h2
  have hl2 : fl.length = ps.length := by rw [hfl, List.length_cons, List.length_replicate, hl]
  refine ⟨by rw [Z.cl]; exact hc, by rw [Z.cl], h1, h2, rfl, fd, ps, List.replicate ks.length false, _, _, fun vs zs => vs ++ zs.reverse, ?_, kbn_plain F 1 ks hb, fun v vs zs _ _ => rfl, fun B vs zs ds es r1 r2 l1 l2 => ⟨r1.append r2.reverse, imL_map (by rw [List.length_append, List.length_reverse, l1, l2]; omega)⟩⟩
  rw [← hfl]
  exact fok F S rfl hl2 (by omega) hbody
/-- n positional values, then the keyword-only ones -/
theorem kw_only (Z : Zx t G) {c n : Nat} {kl : List (Str × He.Dv)} (F : FunD G.T.K x q pa body scope [] (kl.map fun p => (p.1, p.2.v G.T.K)) (He.ma G.T.K (He.ga G.T.K (t.cl.getD c "")) "__init__") fd) (S : FnScope N ps scope) (hc : c < t.cl.length) (hm : t.mkrs.contains c = true) (hk : kl ≠ []) (hN : ps.length ≤ N.length) (hl : ps.length = n + 1 + kl.length)
    (hb : ∀ (DA : Addr) (doc pm : Value) (an : Option Addr) (cdv ct : Value) (us ws : List Value), us.length = n + 1 → ws.length = kl.length → bindArgs (PySem.W.fnOf x q pa body scope .none (.ref DA) doc pm an cdv ct) ⟨us, (kl.map (·.1)).zip ws⟩ = pure (ps.zip (us ++ ws)))
    (hfl : fl = true :: List.replicate (n + kl.length) false) (hbody : ∀ X, Gc G k N scope X → Bd X → JSs G.T X body den) :
    KwG G (k + 1) (t.cl.getD c "") c n kl.length (kl.map (·.1)) (fun ds es => ds ++ es) (runF N.length fl den) := by
  obtain ⟨h1, h2⟩ := Z.mkt c hm
  have e : G.T.ca c = He.ga G.T.K (t.cl.getD c "") := by unfold Tb.ca; rw [Z.cl]
  rw [e] at h1 h2
  have hl2 : fl.length = ps.length := by rw [hfl, List.length_cons, List.length_replicate, hl]; omega
  have hk' : kl.map (fun p => (p.1, p.2.v G.T.K)) ≠ [] := fun e => hk (List.map_eq_nil_iff.mp e)
  obtain ⟨mv, Kb⟩ := F.kbinds0 (n + 1) (kl.map (·.1)) [] (fun us mv ws => us ++ ws) hk' (fun q hq => by cases hq) (fun r1 _ r3 => r1.append r3) fun DA doc pm an cdv ct us mv ws h1 _ h3 => hb DA doc pm an cdv ct us ws h1 (by rw [h3, List.length_map])
  refine ⟨by rw [Z.cl]; exact hc, by rw [Z.cl], h1, h2, by rw [List.length_map], fd, ps, List.replicate (n + kl.length) false, _, _, fun vs zs => vs ++ zs, ?_, Kb, fun v vs zs _ _ => rfl, fun B vs zs ds es r1 r2 l1 l2 => ⟨r1.append r2, imL_map (by rw [List.length_append, l1, l2])⟩⟩
  rw [← hfl]
  exact fok F S rfl hl2 (by omega) hbody
theorem Zx.stG (Z : Zx t G) {c : Nat} {x m : Str} {S : Fs} (hx : t.cl.getD c "" = x) (hg : t.globs.contains x = true) (hm : t.stats.contains (c, m) = true) (h : Kc G k (smA G.T.K (He.ga G.T.K x) m) S) : StG G k x m S := by
  have e : G.T.ca c = He.ga G.T.K x := by unfold Tb.ca; rw [Z.clAt c hx]
  have := Z.stat c m hm
  rw [e] at this
  exact ⟨Z.gl x hg, this, h⟩
end
end Pu
namespace Pu
open PySem PySem.Spec PyProof.Rows L2
open He (eqO eqO_ok ba ga ma)
section
variable (t : Tabs) (K : PySem.W.Frag)
def cN (c : Nat) : Str := t.cl.getD c ""
def cA (c : Nat) : Addr := ga K (cN t c)
def cIx : List Nat := List.range t.cl.length
def chkG : Bool := t.globs.all fun x => (He.Fa.glo x).ok K
def chkI : Bool := t.gints.all fun q => (He.Fa.int q.1 q.2).ok K
def chkS : Bool := t.gstrs.all fun q => (He.Fa.str q.1 q.2).ok K
def chkF : Bool := t.frees.all fun x => (He.Fa.free x).ok K
def chkC : Bool := (cIx t).all fun c => (He.Fa.cls (cN t c)).ok K
def chkN : Bool := t.noats.all fun q => (He.Fa.noat (cN t q.1) q.2).ok K
def chkM : Bool := t.meths.all fun q => (He.Fa.meth (cN t q.1) q.2).ok K && PySem.W.fnIn K (ma K (cA t K q.1) q.2)
def chkK : Bool := t.mkrs.all fun c => (He.Fa.glo (cN t c)).ok K && (He.Fa.mkr (cN t c)).ok K
def oc : Value := .builtin "object.__class__"
def chkA : Bool := (cIx t).all fun c => eqO (PySem.W.findIn K (.ref (cA t K c)) "__class__") (some (some oc)) && (decide (PySem.W.mroIn K (cA t K c) (.type "object") = some true) && (PySem.W.selfFirst K (cA t K c) && (decide (PySem.W.subIn K (.type "NoneType") (.ref (cA t K c)) = some false) && (decide (PySem.W.subIn K (.ref (cA t K c)) (.type "NoneType") = some false) && eqO (PySem.W.findIn K (.ref (cA t K c)) "__ne__") (some (some (.builtin "object.__ne__")))))))
def chkO : Bool := eqO (PySem.W.specialIn K oc "__get__") (some (some (.builtin "getset_descriptor.__get__"))) && (decide (PySem.W.takesIn K oc = some true) && IsiOk ⟨K, t.nm, t.cl⟩ (7 + t.cl.length) t.cts)
def isFnd (r : Option (Option Value)) : Bool := match r with
  | some (some (.ref _)) => true
  | _ => false
def chkU : Bool := t.muls.all fun c => decide (PySem.W.subIn K (.ref (cA t K c)) (.type "int") = some false) && (decide (PySem.W.subIn K (.type "int") (.ref (cA t K c)) = some false) && (isFnd (PySem.W.findIn K (.ref (cA t K c)) (PySem.dunder "mul")) && (isFnd (PySem.W.findIn K (.ref (cA t K c)) (dunderR "mul")) && ((PySem.W.findIn K (.type "int") (PySem.dunder "mul")).isSome && (PySem.W.findIn K (.type "int") (dunderR "mul")).isSome))))
def chkT : Bool := t.stats.all fun q => PySem.W.readsIn K (cA t K q.1) (.type "type") && (eqO (PySem.W.specialIn K (.ref (cA t K q.1)) "__getattribute__") (some (some (.builtin "type.__getattribute__"))) && (decide (PySem.W.typeIn K (.ref (cA t K q.1)) = some (.type "type")) && (He5.wrapB K (cA t K q.1) "staticmethod" "staticmethod.__get__" q.2 && PySem.W.keepIn K (.ref (smA K (cA t K q.1) q.2)))))
def chkD : Bool := t.kds.all fun q => match PySem.W.nsIn K (ga K q.1) q.2.1 with
  | some (some (.int j _)) => decide (j = q.2.2)
  | _ => false
def chk : Bool := chkG t K && (chkI t K && (chkS t K && (chkF t K && (chkC t K && (chkN t K && (chkM t K && (chkK t K && (chkA t K && (chkO t K && (chkU t K && (chkT t K && (chkD t K && t.defs.all fun d => d.ok K))))))))))))
end
abbrev AlP : Type := Bool × List He.FnW × List (Option (List (Option (Str × Int))))
def obsP (t : Tabs) (ts : List (Str × List Str)) (K : PySem.W.Frag) : AlP := (chk t K, t.defs.map fun d => He5.fnA K (d.at_ K), ts.map fun q => He.dicW K (ga K q.1))
def valP (t : Tabs) (ts : List (Str × List Str)) (w : World) : AlP := (true, t.defs.map He5.DefA.val, ts.map fun q => some (He.keysIn w.params q.2))
def SaysP (t : Tabs) (ts : List (Str × List Str)) (w : World) (K : PySem.W.Frag) : Prop := obsP t ts K = valP t ts w
/-- what the names reach: the defs, the classes, their suites, their defs -/
def refsN (o : Obj) : List Addr := match o.data with
  | .dict es _ => es.toList.flatMap fun e => He.refV e.val
  | .func fd => He.refV fd.code ++ (He.refV fd.defaults ++ He.refV fd.kwdefaults)
  | .cls cd => [cd.ns]
  | .fields vs => vs.toList.flatMap He.refV
  | .seq its _ => its.toList.flatMap He.refV
  | _ => []
def stepN (g : Addr → Option Obj) (as : List Addr) : List Addr := as.flatMap fun a => match g a with
  | some o => refsN o
  | none => []
def asN (g : Addr → Option Obj) : Nat → List Addr → List Addr
  | 0, as => as
  | n + 1, as => as ++ asN g n (stepN g as)
def obsPG (n : Nat) (t : Tabs) (ts : List (Str × List Str)) (g : Addr → Option Obj) : AlP := obsP t ts (He.frG g (cStatics :: asN g n [mainGlobals]))
def hookP (n : Nat) (t : Tabs) (ts : List (Str × List Str)) : PySem.W.Hook where
  α := AlP
  obs := fun s => obsPG n t ts s.heap.get?
  val := fun w => valP t ts w
  says := fun w h => ∃ K : PySem.W.Frag, K.In h ∧ SaysP t ts w K
  of := fun _ _ e => ⟨_, He.frG_in, e⟩
  keeps := fun _ _ _ ⟨K, hK, c⟩ k => ⟨K, PySem.W.Frag.In.keeps hK k, c⟩
theorem obsPG_eq {n : Nat} {t : Tabs} {ts : List (Str × List Str)} {g : Addr → Option Obj} {s : Shared} (h : ∀ a, g a = s.heap.get? a) : obsPG n t ts g = (hookP n t ts).obs s := by
  have e : g = s.heap.get? := funext h
  rw [e]; rfl
theorem zx_of {t : Tabs} {ts : List (Str × List Str)} {P : Program} {w : World} {K : PySem.W.Frag} {h : Heap} {mg : Str → Option Value} {base : Heap} (KX : K.In h) (G : h.Ns mainGlobals mg) (c : SaysP t ts w K) (hnd : t.nm.Nodup) (hts : t.kds.all (fun q => (ts.map (·.1)).contains q.1) = true) : Zx t ⟨P, w, ⟨K, t.nm, t.cl⟩, mg, base⟩ := by
  have cB : chk t K = true := congrArg (fun z : AlP => z.1) c
  have cD : t.defs.map (fun d => He5.fnA K (d.at_ K)) = t.defs.map He5.DefA.val := congrArg (fun z : AlP => z.2.1) c
  have cT : ts.map (fun q => He.dicW K (ga K q.1)) = ts.map fun q => some (He.keysIn w.params q.2) := congrArg (fun z : AlP => z.2.2) c
  unfold chk at cB
  obtain ⟨b1, cB⟩ := ba cB
  obtain ⟨b2, cB⟩ := ba cB
  obtain ⟨b3, cB⟩ := ba cB
  obtain ⟨b4, cB⟩ := ba cB
  obtain ⟨b5, cB⟩ := ba cB
  obtain ⟨b6, cB⟩ := ba cB
  obtain ⟨b7, cB⟩ := ba cB
  obtain ⟨b8, cB⟩ := ba cB
  obtain ⟨b9, cB⟩ := ba cB
  obtain ⟨b10, cB⟩ := ba cB
  obtain ⟨b11, cB⟩ := ba cB
  obtain ⟨b12, cB⟩ := ba cB
  obtain ⟨b13, b14⟩ := ba cB
  have memC : ∀ {c : Nat}, c < t.cl.length → c ∈ cIx t := fun {c} hc => List.mem_range.mpr hc
  have cls : ∀ c, c < t.cl.length → Cls K (cA t K c) := fun c hc => He.cls_ok (List.all_eq_true.mp b5 c (memC hc))
  have a9 : ∀ c, c < t.cl.length → _ := fun c hc => List.all_eq_true.mp b9 c (memC hc)
  have memS : ∀ {α : Type} [BEq α] [LawfulBEq α] {l : List α} {x : α}, l.contains x = true → x ∈ l := fun {α} _ _ {l x} h => by simpa using h
  obtain ⟨o1, o2⟩ := ba b10
  obtain ⟨o2, o3⟩ := ba o2
  refine ⟨⟨rfl, rfl, hnd, fun x hx => He.glo_ok KX G (List.all_eq_true.mp b1 x (memS hx)), fun x i hx => ?_, fun x i hx => ?_, fun x hx => He.free_ok KX G (List.all_eq_true.mp b4 x (memS hx)), cls, fun c x hx => He.noat_ok (List.all_eq_true.mp b6 (c, x) (memS hx)), fun c m hx => He.meth_ok (ba (List.all_eq_true.mp b7 (c, m) (memS hx))).1,
    fun c hc => (ba (ba (ba (a9 c hc)).2).2).1, fun c m hx => (ba (List.all_eq_true.mp b7 (c, m) (memS hx))).2, fun c hx => ?_, ⟨fun c hc => ⟨cls c hc, eqO_ok (ba (a9 c hc)).1, eqO_ok o1, of_decide_eq_true o2, of_decide_eq_true (ba (ba (a9 c hc)).2).1⟩, o3⟩, fun i d hd => ?_⟩, fun c hc => ?_, fun c hx => ?_, fun c m hx => ?_, ⟨fun q hq => ?_⟩⟩
  · have hm : (x, i) ∈ t.gints := by
      clear c cB b1 b2 b3 b4 b5 b6 b7 b8 b9 b10 b11 b12 b13 b14
      generalize t.gints = l at hx
      induction l with
      | nil => cases hx
      | cons q r ih =>
        obtain ⟨y, j⟩ := q
        rw [List.lookup_cons] at hx
        split at hx
        · rename_i z
          have z : x = y := by simpa using z
          cases hx
          subst z
          exact List.mem_cons_self
        · exact List.mem_cons_of_mem _ (ih hx)
    exact He.int_ok KX G (List.all_eq_true.mp b2 (x, i) hm)
  · have hm : (x, i) ∈ t.gstrs := by
      clear c cB b1 b2 b3 b4 b5 b6 b7 b8 b9 b10 b11 b12 b13 b14
      generalize t.gstrs = l at hx
      induction l with
      | nil => cases hx
      | cons q r ih =>
        obtain ⟨y, j⟩ := q
        rw [List.lookup_cons] at hx
        split at hx
        · rename_i z
          have z : x = y := by simpa using z
          cases hx
          subst z
          exact List.mem_cons_self
        · exact List.mem_cons_of_mem _ (ih hx)
    exact He.str_ok KX G (List.all_eq_true.mp b3 (x, i) hm)
  · obtain ⟨k1, k2⟩ := ba (List.all_eq_true.mp b8 c (memS hx))
    exact ⟨He.glo_ok KX G k1, He.mkr_ok k2⟩
  · have e2 : (t.defs.map fun d => He5.fnA K (d.at_ K))[i]? = (t.defs.map He5.DefA.val)[i]? := by rw [cD]
    rw [List.getElem?_map, List.getElem?_map, hd] at e2
    exact He5.DefA.funD (Option.some.inj e2) (List.all_eq_true.mp b14 d (List.mem_of_getElem? hd))
  · obtain ⟨k1, k⟩ := ba (a9 c hc)
    obtain ⟨k2, k⟩ := ba k
    obtain ⟨k3, k⟩ := ba k
    obtain ⟨k4, k⟩ := ba k
    obtain ⟨k5, k6⟩ := ba k
    exact ⟨of_decide_eq_true k4, of_decide_eq_true k5, eqO_ok k6, of_decide_eq_true k2⟩
  · have fnd : ∀ {r : Option (Option Value)}, isFnd r = true → ∃ g : Addr, r = some (some (.ref g)) := fun {r} h => by
      unfold isFnd at h
      split at h
      · exact ⟨_, rfl⟩
      · cases h
    obtain ⟨k1, k⟩ := ba (List.all_eq_true.mp b11 c (memS hx))
    obtain ⟨k2, k⟩ := ba k
    obtain ⟨k3, k⟩ := ba k
    obtain ⟨k4, k⟩ := ba k
    obtain ⟨k5, k6⟩ := ba k
    exact ⟨of_decide_eq_true k1, of_decide_eq_true k2, fnd k3, fnd k4, Option.isSome_iff_exists.mp k5, Option.isSome_iff_exists.mp k6⟩
  · obtain ⟨k1, k⟩ := ba (List.all_eq_true.mp b12 (c, m) (memS hx))
    obtain ⟨k2, k⟩ := ba k
    obtain ⟨k3, k⟩ := ba k
    obtain ⟨k4, k5⟩ := ba k
    obtain ⟨j1, rest, j2⟩ := He5.wrapB_ok k4
    have es : He5.wf K (cA t K c) "staticmethod" m = smA K (cA t K c) m := rfl
    rw [es] at j2
    exact ⟨k1, eqO_ok k2, of_decide_eq_true k3, ⟨_, rest, j1, j2⟩, k5⟩
  · have hv := List.all_eq_true.mp b13 q hq
    have ht := List.all_eq_true.mp hts q hq
    have ht : q.1 ∈ ts.map (·.1) := by simpa using ht
    obtain ⟨p, hp, ep⟩ := List.mem_map.mp ht
    obtain ⟨i, hi⟩ := List.mem_iff_getElem?.mp hp
    have e2 : (ts.map fun q => He.dicW K (ga K q.1))[i]? = (ts.map fun q => some (He.keysIn w.params q.2))[i]? := by rw [cT]
    rw [List.getElem?_map, List.getElem?_map, hi] at e2
    have e3 : He.dicW K (ga K p.1) = some (He.keysIn w.params p.2) := Option.some.inj e2
    obtain ⟨es, n, kd⟩ := He.dicW_ok (w := w) e3
    rw [ep] at kd
    refine ⟨es, n, kd, ?_⟩
    split at hv
    · rename_i j tk e
      have : j = q.2.2 := of_decide_eq_true hv
      subst this
      exact ⟨tk, e⟩
    · cases hv
end Pu
namespace Pu
open PySem PySem.Spec PyProof.Rows L2
def top (i : Nat) : Stmt := PySem.Challenge.pw_forkmeet_k58_what_tells_scripts_apart_ju.main.body.getD i (.Pass ⟨0, 0, 0, 0⟩)
def tabs : Tabs where
  nm := ["_counts", "names", "_contents", "kinds", "_table", "modulus", "book", "pairs", "worth_of", "content", "fault", "unknown", "is_honest", "other", "_deeds", "_rooms", "worths", "room", "starts", "one", "run", "rooms", "table", "holds"]
  cl := ["Heap", "Book", "WorthList", "Script", "Differ", "Translation"]
  globs := ["Book", "Differ", "Heap", "SIZES", "Script", "Translation", "WorthList", "_law_bag", "_law_book", "_law_draw", "_law_honest", "_law_list_so", "_law_made", "_law_of", "_law_parted_so", "_law_plus", "_law_same", "_law_whole", "_law_words", "_law_worth", "done", "done_alone", "is_deed", "is_heap_of", "is_honest_list", "is_integer", "is_name", "is_number", "law", "lowest"]
  gints := [("MOST_LETTERS", 6), ("MOST_DIGITS", 60), ("MOST_KINDS", 8), ("MOST_ROOMS", 4), ("MOST_DEEDS", 12), ("MOST_TIMES", 1000000)]
  gstrs := [("LETTERS", "abcdefghijklmnopqrstuvwxyz"), ("DIGITS", "0123456789")]
  frees := ["len", "all", "any", "sum", "abs", "sorted", "list", "dict", "int", "isinstance", "range", "enumerate", "zip", "str", "bool", "tuple", "repr", "max", "min"]
  noats := [(0, "_counts"), (1, "_contents"), (2, "_table"), (2, "book"), (2, "modulus"), (3, "_deeds"), (3, "_rooms"), (3, "book"), (4, "one"), (4, "other"), (4, "room"), (4, "starts"), (4, "worths"), (5, "_table"), (5, "book"), (5, "other")]
  meths := [(0, "__add__"), (0, "__contains__"), (0, "__eq__"), (0, "__getitem__"), (0, "__mul__"), (0, "__rmul__"), (0, "names"), (0, "pairs"), (1, "__contains__"), (1, "__eq__"), (1, "content"), (1, "kinds"), (1, "unknown"), (2, "fault"), (2, "is_honest"), (2, "table"), (2, "worth_of"), (3, "rooms"), (3, "run"), (4, "__repr__"), (4, "holds")]
  mkrs := [0, 1, 2, 3, 4]
  cts := [.bt 0, .bt 1, .bt 2, .bt 3, .bt 4, .bt 5, .own 0, .own 1, .own 2, .own 3, .own 4, .own 5]
  muls := [0]
  stats := [(0, "of")]
  kds := [("SIZES", "put", 3), ("SIZES", "times", 3)]
  defs := [
    ⟨(fun K => He.fAd K ("is_name", none)), "is_name", "is_name", defArgs (top 24), defBody (top 24), defScope (top 24), [], []⟩,
    ⟨(fun K => He.fAd K ("is_integer", none)), "is_integer", "is_integer", defArgs (top 25), defBody (top 25), defScope (top 25), [], []⟩,
    ⟨(fun K => He.fAd K ("is_number", none)), "is_number", "is_number", defArgs (top 26), defBody (top 26), defScope (top 26), [], []⟩,
    ⟨(fun K => He.fAd K ("Heap", some "__init__")), "__init__", "Heap.__init__", defArgs ((clsB (top 28)).getD 0 (.Pass ⟨0, 0, 0, 0⟩)), defBody ((clsB (top 28)).getD 0 (.Pass ⟨0, 0, 0, 0⟩)), defScope ((clsB (top 28)).getD 0 (.Pass ⟨0, 0, 0, 0⟩)), [.non], []⟩,
    ⟨(fun K => smA K (He.ga K "Heap") "of"), "of", "Heap.of", defArgs ((clsB (top 28)).getD 1 (.Pass ⟨0, 0, 0, 0⟩)), defBody ((clsB (top 28)).getD 1 (.Pass ⟨0, 0, 0, 0⟩)), defScope ((clsB (top 28)).getD 1 (.Pass ⟨0, 0, 0, 0⟩)), [], []⟩,
    ⟨(fun K => He.fAd K ("Heap", some "names")), "names", "Heap.names", defArgs ((clsB (top 28)).getD 3 (.Pass ⟨0, 0, 0, 0⟩)), defBody ((clsB (top 28)).getD 3 (.Pass ⟨0, 0, 0, 0⟩)), defScope ((clsB (top 28)).getD 3 (.Pass ⟨0, 0, 0, 0⟩)), [], []⟩,
    ⟨(fun K => He.fAd K ("Heap", some "pairs")), "pairs", "Heap.pairs", defArgs ((clsB (top 28)).getD 4 (.Pass ⟨0, 0, 0, 0⟩)), defBody ((clsB (top 28)).getD 4 (.Pass ⟨0, 0, 0, 0⟩)), defScope ((clsB (top 28)).getD 4 (.Pass ⟨0, 0, 0, 0⟩)), [], []⟩,
    ⟨(fun K => He.fAd K ("Heap", some "__getitem__")), "__getitem__", "Heap.__getitem__", defArgs ((clsB (top 28)).getD 5 (.Pass ⟨0, 0, 0, 0⟩)), defBody ((clsB (top 28)).getD 5 (.Pass ⟨0, 0, 0, 0⟩)), defScope ((clsB (top 28)).getD 5 (.Pass ⟨0, 0, 0, 0⟩)), [], []⟩,
    ⟨(fun K => He.fAd K ("Heap", some "__contains__")), "__contains__", "Heap.__contains__", defArgs ((clsB (top 28)).getD 7 (.Pass ⟨0, 0, 0, 0⟩)), defBody ((clsB (top 28)).getD 7 (.Pass ⟨0, 0, 0, 0⟩)), defScope ((clsB (top 28)).getD 7 (.Pass ⟨0, 0, 0, 0⟩)), [], []⟩,
    ⟨(fun K => He.fAd K ("Heap", some "__add__")), "__add__", "Heap.__add__", defArgs ((clsB (top 28)).getD 11 (.Pass ⟨0, 0, 0, 0⟩)), defBody ((clsB (top 28)).getD 11 (.Pass ⟨0, 0, 0, 0⟩)), defScope ((clsB (top 28)).getD 11 (.Pass ⟨0, 0, 0, 0⟩)), [], []⟩,
    ⟨(fun K => He.fAd K ("Heap", some "__mul__")), "__mul__", "Heap.__mul__", defArgs ((clsB (top 28)).getD 13 (.Pass ⟨0, 0, 0, 0⟩)), defBody ((clsB (top 28)).getD 13 (.Pass ⟨0, 0, 0, 0⟩)), defScope ((clsB (top 28)).getD 13 (.Pass ⟨0, 0, 0, 0⟩)), [], []⟩,
    ⟨(fun K => He.fAd K ("Heap", some "__rmul__")), "__rmul__", "Heap.__rmul__", defArgs ((clsB (top 28)).getD 14 (.Pass ⟨0, 0, 0, 0⟩)), defBody ((clsB (top 28)).getD 14 (.Pass ⟨0, 0, 0, 0⟩)), defScope ((clsB (top 28)).getD 14 (.Pass ⟨0, 0, 0, 0⟩)), [], []⟩,
    ⟨(fun K => He.fAd K ("Heap", some "__eq__")), "__eq__", "Heap.__eq__", defArgs ((clsB (top 28)).getD 15 (.Pass ⟨0, 0, 0, 0⟩)), defBody ((clsB (top 28)).getD 15 (.Pass ⟨0, 0, 0, 0⟩)), defScope ((clsB (top 28)).getD 15 (.Pass ⟨0, 0, 0, 0⟩)), [], []⟩,
    ⟨(fun K => He.fAd K ("Book", some "__init__")), "__init__", "Book.__init__", defArgs ((clsB (top 31)).getD 1 (.Pass ⟨0, 0, 0, 0⟩)), defBody ((clsB (top 31)).getD 1 (.Pass ⟨0, 0, 0, 0⟩)), defScope ((clsB (top 31)).getD 1 (.Pass ⟨0, 0, 0, 0⟩)), [], []⟩,
    ⟨(fun K => He.fAd K ("Book", some "kinds")), "kinds", "Book.kinds", defArgs ((clsB (top 31)).getD 3 (.Pass ⟨0, 0, 0, 0⟩)), defBody ((clsB (top 31)).getD 3 (.Pass ⟨0, 0, 0, 0⟩)), defScope ((clsB (top 31)).getD 3 (.Pass ⟨0, 0, 0, 0⟩)), [], []⟩,
    ⟨(fun K => He.fAd K ("Book", some "__contains__")), "__contains__", "Book.__contains__", defArgs ((clsB (top 31)).getD 11 (.Pass ⟨0, 0, 0, 0⟩)), defBody ((clsB (top 31)).getD 11 (.Pass ⟨0, 0, 0, 0⟩)), defScope ((clsB (top 31)).getD 11 (.Pass ⟨0, 0, 0, 0⟩)), [], []⟩,
    ⟨(fun K => He.fAd K ("Book", some "content")), "content", "Book.content", defArgs ((clsB (top 31)).getD 5 (.Pass ⟨0, 0, 0, 0⟩)), defBody ((clsB (top 31)).getD 5 (.Pass ⟨0, 0, 0, 0⟩)), defScope ((clsB (top 31)).getD 5 (.Pass ⟨0, 0, 0, 0⟩)), [], []⟩,
    ⟨(fun K => He.fAd K ("Book", some "unknown")), "unknown", "Book.unknown", defArgs ((clsB (top 31)).getD 6 (.Pass ⟨0, 0, 0, 0⟩)), defBody ((clsB (top 31)).getD 6 (.Pass ⟨0, 0, 0, 0⟩)), defScope ((clsB (top 31)).getD 6 (.Pass ⟨0, 0, 0, 0⟩)), [], []⟩,
    ⟨(fun K => He.fAd K ("Book", some "__eq__")), "__eq__", "Book.__eq__", defArgs ((clsB (top 31)).getD 12 (.Pass ⟨0, 0, 0, 0⟩)), defBody ((clsB (top 31)).getD 12 (.Pass ⟨0, 0, 0, 0⟩)), defScope ((clsB (top 31)).getD 12 (.Pass ⟨0, 0, 0, 0⟩)), [], []⟩,
    ⟨(fun K => He.fAd K ("lowest", none)), "lowest", "lowest", defArgs (top 60), defBody (top 60), defScope (top 60), [], []⟩,
    ⟨(fun K => He.fAd K ("WorthList", some "__init__")), "__init__", "WorthList.__init__", defArgs ((clsB (top 59)).getD 0 (.Pass ⟨0, 0, 0, 0⟩)), defBody ((clsB (top 59)).getD 0 (.Pass ⟨0, 0, 0, 0⟩)), defScope ((clsB (top 59)).getD 0 (.Pass ⟨0, 0, 0, 0⟩)), [], [("modulus", .int 0)]⟩,
    ⟨(fun K => He.fAd K ("WorthList", some "table")), "table", "WorthList.table", defArgs ((clsB (top 59)).getD 1 (.Pass ⟨0, 0, 0, 0⟩)), defBody ((clsB (top 59)).getD 1 (.Pass ⟨0, 0, 0, 0⟩)), defScope ((clsB (top 59)).getD 1 (.Pass ⟨0, 0, 0, 0⟩)), [], []⟩,
    ⟨(fun K => He.fAd K ("WorthList", some "worth_of")), "worth_of", "WorthList.worth_of", defArgs ((clsB (top 59)).getD 3 (.Pass ⟨0, 0, 0, 0⟩)), defBody ((clsB (top 59)).getD 3 (.Pass ⟨0, 0, 0, 0⟩)), defScope ((clsB (top 59)).getD 3 (.Pass ⟨0, 0, 0, 0⟩)), [], []⟩,
    ⟨(fun K => He.fAd K ("WorthList", some "fault")), "fault", "WorthList.fault", defArgs ((clsB (top 59)).getD 4 (.Pass ⟨0, 0, 0, 0⟩)), defBody ((clsB (top 59)).getD 4 (.Pass ⟨0, 0, 0, 0⟩)), defScope ((clsB (top 59)).getD 4 (.Pass ⟨0, 0, 0, 0⟩)), [], []⟩,
    ⟨(fun K => He.fAd K ("WorthList", some "is_honest")), "is_honest", "WorthList.is_honest", defArgs ((clsB (top 59)).getD 5 (.Pass ⟨0, 0, 0, 0⟩)), defBody ((clsB (top 59)).getD 5 (.Pass ⟨0, 0, 0, 0⟩)), defScope ((clsB (top 59)).getD 5 (.Pass ⟨0, 0, 0, 0⟩)), [], []⟩,
    ⟨(fun K => He.fAd K ("is_heap_of", none)), "is_heap_of", "is_heap_of", defArgs (top 62), defBody (top 62), defScope (top 62), [], []⟩,
    ⟨(fun K => He.fAd K ("is_honest_list", none)), "is_honest_list", "is_honest_list", defArgs (top 63), defBody (top 63), defScope (top 63), [], []⟩,
    ⟨(fun K => He.fAd K ("is_deed", none)), "is_deed", "is_deed", defArgs (top 77), defBody (top 77), defScope (top 77), [], []⟩,
    ⟨(fun K => He.fAd K ("done_alone", none)), "done_alone", "done_alone", defArgs (top 78), defBody (top 78), defScope (top 78), [], []⟩,
    ⟨(fun K => He.fAd K ("done", none)), "done", "done", defArgs (top 79), defBody (top 79), defScope (top 79), [], []⟩,
    ⟨(fun K => He.fAd K ("Script", some "__init__")), "__init__", "Script.__init__", defArgs ((clsB (top 80)).getD 1 (.Pass ⟨0, 0, 0, 0⟩)), defBody ((clsB (top 80)).getD 1 (.Pass ⟨0, 0, 0, 0⟩)), defScope ((clsB (top 80)).getD 1 (.Pass ⟨0, 0, 0, 0⟩)), [], []⟩,
    ⟨(fun K => He.fAd K ("Script", some "rooms")), "rooms", "Script.rooms", defArgs ((clsB (top 80)).getD 2 (.Pass ⟨0, 0, 0, 0⟩)), defBody ((clsB (top 80)).getD 2 (.Pass ⟨0, 0, 0, 0⟩)), defScope ((clsB (top 80)).getD 2 (.Pass ⟨0, 0, 0, 0⟩)), [], []⟩,
    ⟨(fun K => He.fAd K ("Script", some "run")), "run", "Script.run", defArgs ((clsB (top 80)).getD 4 (.Pass ⟨0, 0, 0, 0⟩)), defBody ((clsB (top 80)).getD 4 (.Pass ⟨0, 0, 0, 0⟩)), defScope ((clsB (top 80)).getD 4 (.Pass ⟨0, 0, 0, 0⟩)), [], []⟩,
    ⟨(fun K => He.fAd K ("Differ", some "__init__")), "__init__", "Differ.__init__", defArgs ((clsB (top 81)).getD 0 (.Pass ⟨0, 0, 0, 0⟩)), defBody ((clsB (top 81)).getD 0 (.Pass ⟨0, 0, 0, 0⟩)), defScope ((clsB (top 81)).getD 0 (.Pass ⟨0, 0, 0, 0⟩)), [], []⟩,
    ⟨(fun K => He.fAd K ("Differ", some "holds")), "holds", "Differ.holds", defArgs ((clsB (top 81)).getD 1 (.Pass ⟨0, 0, 0, 0⟩)), defBody ((clsB (top 81)).getD 1 (.Pass ⟨0, 0, 0, 0⟩)), defScope ((clsB (top 81)).getD 1 (.Pass ⟨0, 0, 0, 0⟩)), [], []⟩,
    ⟨(fun K => He.fAd K ("Differ", some "__repr__")), "__repr__", "Differ.__repr__", defArgs ((clsB (top 81)).getD 2 (.Pass ⟨0, 0, 0, 0⟩)), defBody ((clsB (top 81)).getD 2 (.Pass ⟨0, 0, 0, 0⟩)), defScope ((clsB (top 81)).getD 2 (.Pass ⟨0, 0, 0, 0⟩)), [], []⟩,
    ⟨(fun K => He.fAd K ("_law_bag", none)), "_law_bag", "_law_bag", defArgs (top 83), defBody (top 83), defScope (top 83), [], []⟩,
    ⟨(fun K => He.fAd K ("_law_draw", none)), "_law_draw", "_law_draw", defArgs (top 84), defBody (top 84), defScope (top 84), [], []⟩,
    ⟨(fun K => He.fAd K ("_law_of", none)), "_law_of", "_law_of", defArgs (top 85), defBody (top 85), defScope (top 85), [], []⟩,
    ⟨(fun K => He.fAd K ("_law_same", none)), "_law_same", "_law_same", defArgs (top 86), defBody (top 86), defScope (top 86), [], []⟩,
    ⟨(fun K => He.fAd K ("_law_words", none)), "_law_words", "_law_words", defArgs (top 87), defBody (top 87), defScope (top 87), [], []⟩,
    ⟨(fun K => He.fAd K ("_law_made", none)), "_law_made", "_law_made", defArgs (top 88), defBody (top 88), defScope (top 88), [], []⟩,
    ⟨(fun K => He.fAd K ("_law_book", none)), "_law_book", "_law_book", defArgs (top 89), defBody (top 89), defScope (top 89), [], []⟩,
    ⟨(fun K => He.fAd K ("_law_plus", none)), "_law_plus", "_law_plus", defArgs (top 90), defBody (top 90), defScope (top 90), [], []⟩,
    ⟨(fun K => He.fAd K ("_law_worth", none)), "_law_worth", "_law_worth", defArgs (top 91), defBody (top 91), defScope (top 91), [], []⟩,
    ⟨(fun K => He.fAd K ("_law_honest", none)), "_law_honest", "_law_honest", defArgs (top 92), defBody (top 92), defScope (top 92), [], []⟩,
    ⟨(fun K => He.fAd K ("_law_whole", none)), "_law_whole", "_law_whole", defArgs (top 93), defBody (top 93), defScope (top 93), [], []⟩,
    ⟨(fun K => He.fAd K ("_law_list_so", none)), "_law_list_so", "_law_list_so", defArgs (top 94), defBody (top 94), defScope (top 94), [], []⟩,
    ⟨(fun K => He.fAd K ("_law_parted_so", none)), "_law_parted_so", "_law_parted_so", defArgs (top 95), defBody (top 95), defScope (top 95), [], []⟩,
    ⟨(fun K => He.fAd K ("law", none)), "law", "law", defArgs (top 96), defBody (top 96), defScope (top 96), [], []⟩]
end Pu
namespace HeadK
open PySem PySem.W PySem.Calls PyProof.Rows
abbrev R : OpenRow := OpenLaw.row PySem.Challenge.rw_forkmeet_k58_what_tells_scripts_apart_ju
abbrev qv : Program := view R.prog [96]
def names0 : List PySem.Str := ["_wall", "ForkError", "Missing", "InvalidName", "InvalidCount", "TooMany", "InvalidContent", "InvalidText", "InUse", "Lacking", "InvalidRow", "InvalidModulus", "InvalidWorth", "InvalidTable", "InvalidDeed", "DuplicateName", "UnknownKind", "UnknownRoom", "LETTERS", "DIGITS", "MOST_LETTERS", "MOST_DIGITS", "is_name", "is_integer", "is_number"]
def names1 : List PySem.Str := ["is_figure", "Heap", "MOST_KINDS", "Book", "content_text", "read_content", "read_rows", "is_row", "need_rows", "need_row", "less", "pivot_of", "cleared", "steps_of", "factors", "need_heap", "leads", "reach", "is_active", "passings", "reached", "region", "settle", "column_of", "region_actives"]
def names2 : List PySem.Str := ["span_rows", "settled_row", "WorthList", "lowest", "is_heap_of", "is_honest_list", "gap", "meets", "Translation", "expanded_heap", "MOST_ROOMS", "MOST_DEEDS", "MOST_TIMES", "SIZES", "is_kind_with_content", "is_deed", "done_alone", "done", "Script", "Differ", "_law_bag", "_law_draw", "_law_of", "_law_same", "_law_words"]
def names3 : List PySem.Str := ["_law_made", "_law_book", "_law_plus", "_law_worth", "_law_honest", "_law_whole", "_law_list_so", "_law_parted_so"]
def names : List PySem.Str := names0 ++ names1 ++ names2 ++ names3
def tsK : List (PySem.Str × List PySem.Str) := [("SIZES", ["put", "pour", "copy", "swap", "times", "lead", "open", "settle"])]
abbrev hk : Hook := Pu.hookP 5 Pu.tabs tsK
def ob (s : SharedT) : Pu.AlP := Pu.obsPG 5 Pu.tabs tsK (HandSHeadRun.getT s)
theorem ob_eq (s : SharedT) : ob s = hk.obs s.abs := Pu.obsPG_eq (HandSHeadRun.getT_eq s)
theorem runT (w : World) : HandSHeadRun.RunEq R qv hk ob 14000 names (w.withFollow "special-get-raises" true) := by
  intro os
  kernel_rfl
theorem runF (w : World) : HandSHeadRun.RunEq R qv hk ob 14000 names (w.withFollow "special-get-raises" false) := by
  intro os
  kernel_rfl
end HeadK
namespace Pu
open PySem PySem.Spec PyProof.Rows L2
def N_is_name : List Str := ["value", "sign"]
def d_is_name : SF :=
 (sSeq (sIf (tOrF (tNotF (tVal (eIsi [(.bt 0)] (eVar 0)))) (tNotF (tBl (eChn (bCmp .LtE) (bCmp .LtE) (eCon (.int 1)) (eB (bLen) (lCons (eVar 0) lNil)) (eCon (.int 6)))))) (sSeq (sRet (eCon (.bl false)))
 sSkip) sSkip)
 (sSeq (sRet (eB (bFold fun bs => bs.all id) (lCons (eLc (iVal (eVar 0)) (.nm 1) tYesF (eOp (fun a b => .ov (bCmp .In a b)) (eVar 1) (eCon (.str "abcdefghijklmnopqrstuvwxyz"))) [1]) lNil)))
 sSkip))
theorem j_is_name {G : Gb} (Z : Zx tabs G) {X : Cx} (g : Gc G 0 N_is_name (defScope (top 24)) X) (b : Bd X) : JSs G.T X (defBody (top 24)) d_is_name :=
 (jss_cons (js_if (jt_w (jw_or (jt_not (jt_val g.K (w_isi1 g (ct := (.bt 0)) Z.isi (Z.fr "isinstance" (by kernel_rfl)) (c_bt g (Z.fr "str" (by kernel_rfl)) (by kernel_rfl) rfl (by decide)) (w_var g (by kernel_rfl)) (by simp [tabs]) (by kernel_rfl) rfl) (fun _ => rfl))) (jw_or1 (jt_not (wt_chn g je_int (w_len g (Z.fr "len" (by kernel_rfl)) (jl_cons (w_var g (by kernel_rfl)) jl_nil rfl) (by kernel_rfl) rfl) (w_gint g (Z.gi "MOST_LETTERS" _ (by kernel_rfl)) (by kernel_rfl)) rfl))))) (jss_cons (js_ret je_bl)
 jss_nil) jss_nil)
 (jss_cons (js_ret (w_all g (Z.fr "all" (by kernel_rfl)) (jl_cons (w_lc g (own := [("sign", 1)]) (i_val g (w_var g (by kernel_rfl))) (b_nm g ⟨rfl, (by kernel_rfl), (by kernel_rfl), (by kernel_rfl)⟩ (by kernel_rfl) t_no) (in_blk g (fun _ g1 => (w_cmp g1 (w_var g1 (by kernel_rfl)) (w_gstr g1 (Z.gs "LETTERS" _ (by kernel_rfl)) (by kernel_rfl)) rfl)) rfl) (by kernel_rfl) rfl) jl_nil rfl) (by kernel_rfl) rfl))
 jss_nil))
theorem fs_is_name : FnScope N_is_name ["value"] (defScope (top 24)) := ⟨(by kernel_rfl), (by kernel_rfl), (by kernel_rfl), by decide +kernel, (by kernel_rfl), by decide +kernel, by decide +kernel⟩
def S_is_name : Fs := ⟨[false], runF 2 [false] d_is_name⟩
theorem kc_S_is_name {G : Gb} (Z : Zx tabs G) : Kc G 1 (He.fAd G.T.K ("is_name", none)) S_is_name := by
  obtain ⟨fd, F⟩ := Z.fn 0 _ (by rfl)
  exact kc_plain (N := N_is_name) (den := d_is_name) (fl := [false]) F fs_is_name rfl (by decide) (fun _ _ _ _ _ _ us hl => match us, hl with | [_], _ => rfl) (fun X g b => j_is_name Z g b)
theorem k_S_is_name {G : Gb} (Z : Zx tabs G) : FnG G 1 "is_name" S_is_name := by
  obtain ⟨fd, F⟩ := Z.fn 0 _ (by rfl)
  exact Z.fnG (by kernel_rfl) F.kp (kc_S_is_name Z)
def N_is_integer : List Str := ["value"]
def d_is_integer : SF :=
 (sSeq (sRet (eAnd (eIsi [(.bt 1)] (eVar 0)) (eNot (tVal (eIsi [(.bt 2)] (eVar 0))))))
 sSkip)
theorem j_is_integer {G : Gb} (Z : Zx tabs G) {X : Cx} (g : Gc G 0 N_is_integer (defScope (top 25)) X) (b : Bd X) : JSs G.T X (defBody (top 25)) d_is_integer :=
 (jss_cons (js_ret (je_and (w_isi1 g (ct := (.bt 1)) Z.isi (Z.fr "isinstance" (by kernel_rfl)) (c_bt g (Z.fr "int" (by kernel_rfl)) (by kernel_rfl) rfl (by decide)) (w_var g (by kernel_rfl)) (by simp [tabs]) (by kernel_rfl) rfl) (je_one (w_not g (w_isi1 g (ct := (.bt 2)) Z.isi (Z.fr "isinstance" (by kernel_rfl)) (c_bt g (Z.fr "bool" (by kernel_rfl)) (by kernel_rfl) rfl (by decide)) (w_var g (by kernel_rfl)) (by simp [tabs]) (by kernel_rfl) rfl)))))
 jss_nil)
theorem fs_is_integer : FnScope N_is_integer ["value"] (defScope (top 25)) := ⟨(by kernel_rfl), (by kernel_rfl), (by kernel_rfl), by decide +kernel, (by kernel_rfl), by decide +kernel, by decide +kernel⟩
def S_is_integer : Fs := ⟨[false], runF 1 [false] d_is_integer⟩
theorem kc_S_is_integer {G : Gb} (Z : Zx tabs G) : Kc G 1 (He.fAd G.T.K ("is_integer", none)) S_is_integer := by
  obtain ⟨fd, F⟩ := Z.fn 1 _ (by rfl)
  exact kc_plain (N := N_is_integer) (den := d_is_integer) (fl := [false]) F fs_is_integer rfl (by decide) (fun _ _ _ _ _ _ us hl => match us, hl with | [_], _ => rfl) (fun X g b => j_is_integer Z g b)
theorem k_S_is_integer {G : Gb} (Z : Zx tabs G) : FnG G 1 "is_integer" S_is_integer := by
  obtain ⟨fd, F⟩ := Z.fn 1 _ (by rfl)
  exact Z.fnG (by kernel_rfl) F.kp (kc_S_is_integer Z)
def N_is_number : List Str := ["value", "least"]
def d_is_number : SF :=
 (sSeq (sRet (eAnd (eCall S_is_integer (lCons (eVar 0) lNil)) (eOp (fun a b => .ov (bCmp .GtE a b)) (eVar 0) (eVar 1))))
 sSkip)
theorem j_is_number {G : Gb} (Z : Zx tabs G) {X : Cx} (g : Gc G 1 N_is_number (defScope (top 26)) X) (b : Bd X) : JSs G.T X (defBody (top 26)) d_is_number :=
 (jss_cons (js_ret (je_and (w_call g (k_S_is_integer Z) (by omega) (jl_cons (w_var g (by kernel_rfl)) jl_nil rfl) (by kernel_rfl) rfl) (je_one (w_cmp g (w_var g (by kernel_rfl)) (w_var g (by kernel_rfl)) rfl))))
 jss_nil)
theorem fs_is_number : FnScope N_is_number ["value", "least"] (defScope (top 26)) := ⟨(by kernel_rfl), (by kernel_rfl), (by kernel_rfl), by decide +kernel, (by kernel_rfl), by decide +kernel, by decide +kernel⟩
def S_is_number : Fs := ⟨[false, false], runF 2 [false, false] d_is_number⟩
theorem kc_S_is_number {G : Gb} (Z : Zx tabs G) : Kc G 2 (He.fAd G.T.K ("is_number", none)) S_is_number := by
  obtain ⟨fd, F⟩ := Z.fn 2 _ (by rfl)
  exact kc_plain (N := N_is_number) (den := d_is_number) (fl := [false, false]) F fs_is_number rfl (by decide) (fun _ _ _ _ _ _ us hl => match us, hl with | [_, _], _ => rfl) (fun X g b => j_is_number Z g b)
theorem k_S_is_number {G : Gb} (Z : Zx tabs G) : FnG G 2 "is_number" S_is_number := by
  obtain ⟨fd, F⟩ := Z.fn 2 _ (by rfl)
  exact Z.fnG (by kernel_rfl) F.kp (kc_S_is_number Z)
def N_Heap___init__ : List Str := ["self", "counts", "table", "name"]
def d_Heap___init__ : SF :=
 (sSeq (sAsg (gNam 2) (eIf (tBl (eOp (fun a b => .ov (bCmp .Is a b)) (eVar 1) (eCon .non))) (fun ρ => .ok (.ow (.dic [])) ρ) (eVar 1)))
 (sSeq (sFor (iVal (eVar 2)) (gNam 3) (sSeq (sIf (tNotF (tVal (eCall S_is_name (lCons (eVar 3) lNil)))) (sSeq sBad
 sSkip) sSkip)
 sSkip))
 (sSeq (sFor (iVal (eVar 2)) (gNam 3) (sSeq (sIf (tNotF (tVal (eCall S_is_number (lCons (eOp hSub (eVar 2) (eVar 3)) (lCons (eCon (.int 0)) lNil))))) (sSeq sBad
 sSkip) sSkip)
 sSkip))
 (sSeq (sFldD (fun c => [0].contains c) 0 (eDc (iVal (eB (bSorted) (lCons (eB (bList) (lCons (eVar 2) lNil)) lNil))) (.nm 3) (tBl (eOp (fun a b => .ov (bCmp .Gt a b)) (eOp hSub (eVar 2) (eVar 3)) (eCon (.int 0)))) (eVar 3) (eOp hSub (eVar 2) (eVar 3)) [3]) (eVar 0))
 sSkip))))
theorem j_Heap___init__ {G : Gb} (Z : Zx tabs G) {X : Cx} (g : Gc G 2 N_Heap___init__ (defScope ((clsB (top 28)).getD 0 (.Pass ⟨0, 0, 0, 0⟩))) X) (b : Bd X) : JSs G.T X (defBody ((clsB (top 28)).getD 0 (.Pass ⟨0, 0, 0, 0⟩))) d_Heap___init__ :=
 (jss_cons (s_asg g (g_nam g b (by kernel_rfl)) (je_if (wt_cmp g (w_var g (by kernel_rfl)) je_non rfl) je_dnew (w_var g (by kernel_rfl))) (by kernel_rfl) rfl rfl)
 (jss_cons (s_for g b (i_val g (w_var g (by kernel_rfl))) (jgl_of (g_nam g b (by kernel_rfl))) (jss_cons (js_if (jt_not (jt_val g.K (w_call g (k_S_is_name Z) (by omega) (jl_cons (w_var g (by kernel_rfl)) jl_nil rfl) (by kernel_rfl) rfl) (fun _ => rfl))) (jss_cons js_bad
 jss_nil) jss_nil)
 jss_nil) rfl)
 (jss_cons (s_for g b (i_val g (w_var g (by kernel_rfl))) (jgl_of (g_nam g b (by kernel_rfl))) (jss_cons (js_if (jt_not (jt_val g.K (w_call g (k_S_is_number Z) (by omega) (jl_cons (w_sub g (w_var g (by kernel_rfl)) (w_var g (by kernel_rfl)) rfl) (jl_cons je_int jl_nil rfl) rfl) (by kernel_rfl) rfl) (fun _ => rfl))) (jss_cons js_bad
 jss_nil) jss_nil)
 jss_nil) rfl)
 (jss_cons (s_fld g (cs := [0]) Z.nd (Z.nmAt 0 _ (by kernel_rfl)) (Z.fd "_counts" [0] (by kernel_rfl)) (w_dc g (own := [("name", 3)]) (i_val g (w_sorted g (Z.fr "sorted" (by kernel_rfl)) (jl_cons (w_list g (Z.fr "list" (by kernel_rfl)) (jl_cons (w_var g (by kernel_rfl)) jl_nil rfl) (by kernel_rfl) rfl) jl_nil rfl) (by kernel_rfl) rfl)) (b_nm g ⟨rfl, (by kernel_rfl), (by kernel_rfl), (by kernel_rfl)⟩ (by kernel_rfl) (t_if (in_blk g (fun _ g1 => (wt_cmp g1 (w_sub g1 (w_var g1 (by kernel_rfl)) (w_var g1 (by kernel_rfl)) rfl) je_int rfl)) rfl))) (in_blk g (fun _ g1 => (w_var g1 (by kernel_rfl))) rfl) (in_blk g (fun _ g1 => (w_sub g1 (w_var g1 (by kernel_rfl)) (w_var g1 (by kernel_rfl)) rfl)) rfl) (by kernel_rfl) rfl) (w_var g (by kernel_rfl)))
 jss_nil))))
theorem fs_Heap___init__ : FnScope N_Heap___init__ ["self", "counts"] (defScope ((clsB (top 28)).getD 0 (.Pass ⟨0, 0, 0, 0⟩))) := ⟨(by kernel_rfl), (by kernel_rfl), (by kernel_rfl), by decide +kernel, (by kernel_rfl), by decide +kernel, by decide +kernel⟩
def S_Heap___init___1 : Fs := ⟨[true], fillF ((List.drop 0 ([.non] : List He.Dv)).map dvD) (runF 4 [true, false] d_Heap___init__)⟩
theorem kc_S_Heap___init___1 {G : Gb} (Z : Zx tabs G) : Kc G 3 (He.fAd G.T.K ("Heap", some "__init__")) S_Heap___init___1 := by
  obtain ⟨fd, F⟩ := Z.fn 3 _ (by rfl)
  exact kc_dfl (N := N_Heap___init__) (den := d_Heap___init__) (dl := [.non]) (fl0 := [true]) (fl := [true, false]) F fs_Heap___init__ 0 rfl (by simp) rfl (by decide) (fun TA kV doc pm an cdv ct us its h1 h2 => match us, its, h1, h2 with | [_], [_], _, _ => ⟨_, rfl, rfl⟩) rfl (fun X g b => j_Heap___init__ Z g b)
theorem k_S_Heap___init___1 {G : Gb} (Z : Zx tabs G) : MkG G 3 "Heap" 0 (List.tail S_Heap___init___1.fl) S_Heap___init___1.F := Z.mkG (by kernel_rfl) (by decide) (by kernel_rfl) (kc_S_Heap___init___1 Z)
def S_Heap___init___2 : Fs := ⟨[true, false], fillF ((List.drop 1 ([.non] : List He.Dv)).map dvD) (runF 4 [true, false] d_Heap___init__)⟩
theorem kc_S_Heap___init___2 {G : Gb} (Z : Zx tabs G) : Kc G 3 (He.fAd G.T.K ("Heap", some "__init__")) S_Heap___init___2 := by
  obtain ⟨fd, F⟩ := Z.fn 3 _ (by rfl)
  exact kc_dfl (N := N_Heap___init__) (den := d_Heap___init__) (dl := [.non]) (fl0 := [true, false]) (fl := [true, false]) F fs_Heap___init__ 1 rfl (by simp) rfl (by decide) (fun TA kV doc pm an cdv ct us its h1 h2 => match us, its, h1, h2 with | [_, _], [_], _, _ => ⟨_, rfl, rfl⟩) rfl (fun X g b => j_Heap___init__ Z g b)
theorem k_S_Heap___init___2 {G : Gb} (Z : Zx tabs G) : MkG G 3 "Heap" 0 (List.tail S_Heap___init___2.fl) S_Heap___init___2.F := Z.mkG (by kernel_rfl) (by decide) (by kernel_rfl) (kc_S_Heap___init___2 Z)
def N_Heap_of : List Str := ["names", "counts", "name"]
def d_Heap_of : SF :=
 (sSeq (sAsg (gNam 1) (fun ρ => .ok (.ow (.dic [])) ρ))
 (sSeq (sFor (iVal (eVar 0)) (gNam 2) (sSeq (sIf (tNotF (tVal (eCall S_is_name (lCons (eVar 2) lNil)))) (sSeq sBad
 sSkip) sSkip)
 (sSeq (sAsg (gSubs (eVar 1) (eVar 2)) (eTwo (bBin .Add) (eBm "dict" bGet (eVar 1) (lCons (eVar 2) (lCons (eCon (.int 0)) lNil))) (eCon (.int 1))))
 sSkip)))
 (sSeq (sRet (eMake 0 (List.tail S_Heap___init___2.fl) S_Heap___init___2.F (lCons (eVar 1) lNil)))
 sSkip)))
theorem j_Heap_of {G : Gb} (Z : Zx tabs G) {X : Cx} (g : Gc G 4 N_Heap_of (defScope ((clsB (top 28)).getD 1 (.Pass ⟨0, 0, 0, 0⟩))) X) (b : Bd X) : JSs G.T X (defBody ((clsB (top 28)).getD 1 (.Pass ⟨0, 0, 0, 0⟩))) d_Heap_of :=
 (jss_cons (s_asg g (g_nam g b (by kernel_rfl)) je_dnew (by kernel_rfl) rfl rfl)
 (jss_cons (s_for g b (i_val g (w_var g (by kernel_rfl))) (jgl_of (g_nam g b (by kernel_rfl))) (jss_cons (js_if (jt_not (jt_val g.K (w_call g (k_S_is_name Z) (by omega) (jl_cons (w_var g (by kernel_rfl)) jl_nil rfl) (by kernel_rfl) rfl) (fun _ => rfl))) (jss_cons js_bad
 jss_nil) jss_nil)
 (jss_cons (s_asg g (g_sub g (w_var g (by kernel_rfl)) (w_var g (by kernel_rfl)) rfl) (w_bin g (m_get g (w_var g (by kernel_rfl)) (jl_cons (w_var g (by kernel_rfl)) (jl_cons je_int jl_nil rfl) rfl) rfl rfl rfl (by kernel_rfl)) je_int) (by kernel_rfl) rfl rfl)
 jss_nil)) rfl)
 (jss_cons (js_ret (w_make g (k_S_Heap___init___2 Z) (by omega) (jl_cons (w_var g (by kernel_rfl)) jl_nil rfl) (by kernel_rfl) rfl))
 jss_nil)))
theorem fs_Heap_of : FnScope N_Heap_of ["names"] (defScope ((clsB (top 28)).getD 1 (.Pass ⟨0, 0, 0, 0⟩))) := ⟨(by kernel_rfl), (by kernel_rfl), (by kernel_rfl), by decide +kernel, (by kernel_rfl), by decide +kernel, by decide +kernel⟩
def S_Heap_of_s1 : Fs := ⟨[] ++ List.replicate 1 false, starF 0 (runF 3 ([] ++ [false]) d_Heap_of)⟩
theorem kc_S_Heap_of_s1 {G : Gb} (Z : Zx tabs G) : Kc G 5 (smA G.T.K (He.ga G.T.K "Heap") "of") S_Heap_of_s1 := by
  obtain ⟨fd, F⟩ := Z.fn 4 _ (by rfl)
  exact kc_star (fl := []) (ps := []) (N := N_Heap_of) (den := d_Heap_of) (oc := .none) (od := none) 1 F fs_Heap_of rfl (by decide) (fun _ _ _ _ _ _ us rest hl => match us, rest, hl with | [], [], _ => rfl | [], _ :: _, _ => rfl) (fun X g b => j_Heap_of Z g b)
theorem k_S_Heap_of_s1 {G : Gb} (Z : Zx tabs G) : StG G 5 "Heap" "of" S_Heap_of_s1 := Z.stG (c := 0) (by kernel_rfl) (by kernel_rfl) (by kernel_rfl) (kc_S_Heap_of_s1 Z)
def N_Heap_names : List Str := ["self"]
def d_Heap_names : SF :=
 (sSeq (sRet (eB (bList) (lCons (eFld (fun c => [0].contains c) 0 (eVar 0)) lNil)))
 sSkip)
theorem j_Heap_names {G : Gb} (Z : Zx tabs G) {X : Cx} (g : Gc G 0 N_Heap_names (defScope ((clsB (top 28)).getD 3 (.Pass ⟨0, 0, 0, 0⟩))) X) (b : Bd X) : JSs G.T X (defBody ((clsB (top 28)).getD 3 (.Pass ⟨0, 0, 0, 0⟩))) d_Heap_names :=
 (jss_cons (js_ret (w_list g (Z.fr "list" (by kernel_rfl)) (jl_cons (w_fld g (cs := [0]) Z.nd (Z.nmAt 0 _ (by kernel_rfl)) (Z.fd "_counts" [0] (by kernel_rfl)) (w_var g (by kernel_rfl)) rfl) jl_nil rfl) (by kernel_rfl) rfl))
 jss_nil)
theorem fs_Heap_names : FnScope N_Heap_names ["self"] (defScope ((clsB (top 28)).getD 3 (.Pass ⟨0, 0, 0, 0⟩))) := ⟨(by kernel_rfl), (by kernel_rfl), (by kernel_rfl), by decide +kernel, (by kernel_rfl), by decide +kernel, by decide +kernel⟩
def S_Heap_names : Fs := ⟨[false], runF 1 [false] d_Heap_names⟩
theorem kc_S_Heap_names {G : Gb} (Z : Zx tabs G) : Kc G 1 (He.fAd G.T.K ("Heap", some "names")) S_Heap_names := by
  obtain ⟨fd, F⟩ := Z.fn 5 _ (by rfl)
  exact kc_plain (N := N_Heap_names) (den := d_Heap_names) (fl := [false]) F fs_Heap_names rfl (by decide) (fun _ _ _ _ _ _ us hl => match us, hl with | [_], _ => rfl) (fun X g b => j_Heap_names Z g b)
theorem k_S_Heap_names {G : Gb} (Z : Zx tabs G) : MtG G 1 "names" 0 S_Heap_names := Z.mtG (by kernel_rfl) (by decide) (by kernel_rfl) (kc_S_Heap_names Z)
def N_Heap_pairs : List Str := ["self", "name"]
def d_Heap_pairs : SF :=
 (sSeq (sRet (eLc (iVal (eFld (fun c => [0].contains c) 0 (eVar 0))) (.nm 1) tYesF (eTup (lCons (eVar 1) (lCons (eOp hSub (eFld (fun c => [0].contains c) 0 (eVar 0)) (eVar 1)) lNil))) [1]))
 sSkip)
theorem j_Heap_pairs {G : Gb} (Z : Zx tabs G) {X : Cx} (g : Gc G 0 N_Heap_pairs (defScope ((clsB (top 28)).getD 4 (.Pass ⟨0, 0, 0, 0⟩))) X) (b : Bd X) : JSs G.T X (defBody ((clsB (top 28)).getD 4 (.Pass ⟨0, 0, 0, 0⟩))) d_Heap_pairs :=
 (jss_cons (js_ret (w_lc g (own := [("name", 1)]) (i_val g (w_fld g (cs := [0]) Z.nd (Z.nmAt 0 _ (by kernel_rfl)) (Z.fd "_counts" [0] (by kernel_rfl)) (w_var g (by kernel_rfl)) rfl)) (b_nm g ⟨rfl, (by kernel_rfl), (by kernel_rfl), (by kernel_rfl)⟩ (by kernel_rfl) t_no) (in_blk g (fun _ g1 => (je_tup (jl_cons (w_var g1 (by kernel_rfl)) (jl_cons (w_sub g1 (w_fld g1 (cs := [0]) Z.nd (Z.nmAt 0 _ (by kernel_rfl)) (Z.fd "_counts" [0] (by kernel_rfl)) (w_var g1 (by kernel_rfl)) rfl) (w_var g1 (by kernel_rfl)) rfl) jl_nil rfl) rfl))) rfl) (by kernel_rfl) rfl))
 jss_nil)
theorem fs_Heap_pairs : FnScope N_Heap_pairs ["self"] (defScope ((clsB (top 28)).getD 4 (.Pass ⟨0, 0, 0, 0⟩))) := ⟨(by kernel_rfl), (by kernel_rfl), (by kernel_rfl), by decide +kernel, (by kernel_rfl), by decide +kernel, by decide +kernel⟩
def S_Heap_pairs : Fs := ⟨[false], runF 2 [false] d_Heap_pairs⟩
theorem kc_S_Heap_pairs {G : Gb} (Z : Zx tabs G) : Kc G 1 (He.fAd G.T.K ("Heap", some "pairs")) S_Heap_pairs := by
  obtain ⟨fd, F⟩ := Z.fn 6 _ (by rfl)
  exact kc_plain (N := N_Heap_pairs) (den := d_Heap_pairs) (fl := [false]) F fs_Heap_pairs rfl (by decide) (fun _ _ _ _ _ _ us hl => match us, hl with | [_], _ => rfl) (fun X g b => j_Heap_pairs Z g b)
theorem k_S_Heap_pairs {G : Gb} (Z : Zx tabs G) : MtG G 1 "pairs" 0 S_Heap_pairs := Z.mtG (by kernel_rfl) (by decide) (by kernel_rfl) (kc_S_Heap_pairs Z)
def N_Heap___getitem__ : List Str := ["self", "name"]
def d_Heap___getitem__ : SF :=
 (sSeq (sIf (tNotF (tVal (eCall S_is_name (lCons (eVar 1) lNil)))) (sSeq sBad
 sSkip) sSkip)
 (sSeq (sRet (eBm "dict" bGet (eFld (fun c => [0].contains c) 0 (eVar 0)) (lCons (eVar 1) (lCons (eCon (.int 0)) lNil))))
 sSkip))
theorem j_Heap___getitem__ {G : Gb} (Z : Zx tabs G) {X : Cx} (g : Gc G 1 N_Heap___getitem__ (defScope ((clsB (top 28)).getD 5 (.Pass ⟨0, 0, 0, 0⟩))) X) (b : Bd X) : JSs G.T X (defBody ((clsB (top 28)).getD 5 (.Pass ⟨0, 0, 0, 0⟩))) d_Heap___getitem__ :=
 (jss_cons (js_if (jt_not (jt_val g.K (w_call g (k_S_is_name Z) (by omega) (jl_cons (w_var g (by kernel_rfl)) jl_nil rfl) (by kernel_rfl) rfl) (fun _ => rfl))) (jss_cons js_bad
 jss_nil) jss_nil)
 (jss_cons (js_ret (m_get g (w_fld g (cs := [0]) Z.nd (Z.nmAt 0 _ (by kernel_rfl)) (Z.fd "_counts" [0] (by kernel_rfl)) (w_var g (by kernel_rfl)) rfl) (jl_cons (w_var g (by kernel_rfl)) (jl_cons je_int jl_nil rfl) rfl) rfl rfl rfl (by kernel_rfl)))
 jss_nil))
theorem fs_Heap___getitem__ : FnScope N_Heap___getitem__ ["self", "name"] (defScope ((clsB (top 28)).getD 5 (.Pass ⟨0, 0, 0, 0⟩))) := ⟨(by kernel_rfl), (by kernel_rfl), (by kernel_rfl), by decide +kernel, (by kernel_rfl), by decide +kernel, by decide +kernel⟩
def S_Heap___getitem__ : Fs := ⟨[false, false], runF 2 [false, false] d_Heap___getitem__⟩
theorem kc_S_Heap___getitem__ {G : Gb} (Z : Zx tabs G) : Kc G 2 (He.fAd G.T.K ("Heap", some "__getitem__")) S_Heap___getitem__ := by
  obtain ⟨fd, F⟩ := Z.fn 7 _ (by rfl)
  exact kc_plain (N := N_Heap___getitem__) (den := d_Heap___getitem__) (fl := [false, false]) F fs_Heap___getitem__ rfl (by decide) (fun _ _ _ _ _ _ us hl => match us, hl with | [_, _], _ => rfl) (fun X g b => j_Heap___getitem__ Z g b)
theorem k_S_Heap___getitem__ {G : Gb} (Z : Zx tabs G) : MtG G 2 "__getitem__" 0 S_Heap___getitem__ := Z.mtG (by kernel_rfl) (by decide) (by kernel_rfl) (kc_S_Heap___getitem__ Z)
def N_Heap___contains__ : List Str := ["self", "value"]
def d_Heap___contains__ : SF :=
 (sSeq (sRet (eAnd (eIsi [(.bt 0)] (eVar 1)) (eOp (fun a b => .ov (bCmp .In a b)) (eVar 1) (eFld (fun c => [0].contains c) 0 (eVar 0)))))
 sSkip)
theorem j_Heap___contains__ {G : Gb} (Z : Zx tabs G) {X : Cx} (g : Gc G 0 N_Heap___contains__ (defScope ((clsB (top 28)).getD 7 (.Pass ⟨0, 0, 0, 0⟩))) X) (b : Bd X) : JSs G.T X (defBody ((clsB (top 28)).getD 7 (.Pass ⟨0, 0, 0, 0⟩))) d_Heap___contains__ :=
 (jss_cons (js_ret (je_and (w_isi1 g (ct := (.bt 0)) Z.isi (Z.fr "isinstance" (by kernel_rfl)) (c_bt g (Z.fr "str" (by kernel_rfl)) (by kernel_rfl) rfl (by decide)) (w_var g (by kernel_rfl)) (by simp [tabs]) (by kernel_rfl) rfl) (je_one (w_cmp g (w_var g (by kernel_rfl)) (w_fld g (cs := [0]) Z.nd (Z.nmAt 0 _ (by kernel_rfl)) (Z.fd "_counts" [0] (by kernel_rfl)) (w_var g (by kernel_rfl)) rfl) rfl))))
 jss_nil)
theorem fs_Heap___contains__ : FnScope N_Heap___contains__ ["self", "value"] (defScope ((clsB (top 28)).getD 7 (.Pass ⟨0, 0, 0, 0⟩))) := ⟨(by kernel_rfl), (by kernel_rfl), (by kernel_rfl), by decide +kernel, (by kernel_rfl), by decide +kernel, by decide +kernel⟩
def S_Heap___contains__ : Fs := ⟨[false, false], runF 2 [false, false] d_Heap___contains__⟩
theorem kc_S_Heap___contains__ {G : Gb} (Z : Zx tabs G) : Kc G 1 (He.fAd G.T.K ("Heap", some "__contains__")) S_Heap___contains__ := by
  obtain ⟨fd, F⟩ := Z.fn 8 _ (by rfl)
  exact kc_plain (N := N_Heap___contains__) (den := d_Heap___contains__) (fl := [false, false]) F fs_Heap___contains__ rfl (by decide) (fun _ _ _ _ _ _ us hl => match us, hl with | [_, _], _ => rfl) (fun X g b => j_Heap___contains__ Z g b)
theorem k_S_Heap___contains__ {G : Gb} (Z : Zx tabs G) : MtG G 1 "__contains__" 0 S_Heap___contains__ := Z.mtG (by kernel_rfl) (by decide) (by kernel_rfl) (kc_S_Heap___contains__ Z)
def N_Heap___add__ : List Str := ["self", "other", "name"]
def d_Heap___add__ : SF :=
 (sSeq (sRet (eMake 0 (List.tail S_Heap___init___2.fl) S_Heap___init___2.F (lCons (eDc (iVal (eTwo (bBin .Add) (eMeth (fun c => List.lookup c [(0, S_Heap_names)]) 1 (eVar 0) lNil) (eMeth (fun c => List.lookup c [(0, S_Heap_names)]) 1 (eVar 1) lNil))) (.nm 2) tYesF (eVar 2) (eTwo (bBin .Add) (eOp (hSubA [(0, S_Heap___getitem__)] tabs.kds) (eVar 0) (eVar 2)) (eOp (hSubA [(0, S_Heap___getitem__)] tabs.kds) (eVar 1) (eVar 2))) [2]) lNil)))
 sSkip)
theorem j_Heap___add__ {G : Gb} (Z : Zx tabs G) {X : Cx} (g : Gc G 4 N_Heap___add__ (defScope ((clsB (top 28)).getD 11 (.Pass ⟨0, 0, 0, 0⟩))) X) (b : Bd X) : JSs G.T X (defBody ((clsB (top 28)).getD 11 (.Pass ⟨0, 0, 0, 0⟩))) d_Heap___add__ :=
 (jss_cons (js_ret (w_make g (k_S_Heap___init___2 Z) (by omega) (jl_cons (w_dc g (own := [("name", 2)]) (i_val g (w_bin g (w_meth0 g (l := [(0, S_Heap_names)]) (.cons 1 (by omega) (k_S_Heap_names Z) .nil) Z.nd (Z.nmAt 1 _ (by kernel_rfl)) (w_var g (by kernel_rfl)) rfl (by kernel_rfl)) (w_meth0 g (l := [(0, S_Heap_names)]) (.cons 1 (by omega) (k_S_Heap_names Z) .nil) Z.nd (Z.nmAt 1 _ (by kernel_rfl)) (w_var g (by kernel_rfl)) rfl (by kernel_rfl)))) (b_nm g ⟨rfl, (by kernel_rfl), (by kernel_rfl), (by kernel_rfl)⟩ (by kernel_rfl) t_no) (in_blk g (fun _ g1 => (w_var g1 (by kernel_rfl))) rfl) (in_blk g (fun _ g1 => (w_bin g1 (x_sub' g1 Z 2 (by omega) (.cons 2 (by omega) (k_S_Heap___getitem__ Z) rfl (by kernel_rfl) .nil) (w_var g1 (by kernel_rfl)) (w_var g1 (by kernel_rfl)) rfl) (x_sub' g1 Z 2 (by omega) (.cons 2 (by omega) (k_S_Heap___getitem__ Z) rfl (by kernel_rfl) .nil) (w_var g1 (by kernel_rfl)) (w_var g1 (by kernel_rfl)) rfl))) rfl) (by kernel_rfl) rfl) jl_nil rfl) (by kernel_rfl) rfl))
 jss_nil)
theorem fs_Heap___add__ : FnScope N_Heap___add__ ["self", "other"] (defScope ((clsB (top 28)).getD 11 (.Pass ⟨0, 0, 0, 0⟩))) := ⟨(by kernel_rfl), (by kernel_rfl), (by kernel_rfl), by decide +kernel, (by kernel_rfl), by decide +kernel, by decide +kernel⟩
def S_Heap___add__ : Fs := ⟨[false, false], runF 3 [false, false] d_Heap___add__⟩
theorem kc_S_Heap___add__ {G : Gb} (Z : Zx tabs G) : Kc G 5 (He.fAd G.T.K ("Heap", some "__add__")) S_Heap___add__ := by
  obtain ⟨fd, F⟩ := Z.fn 9 _ (by rfl)
  exact kc_plain (N := N_Heap___add__) (den := d_Heap___add__) (fl := [false, false]) F fs_Heap___add__ rfl (by decide) (fun _ _ _ _ _ _ us hl => match us, hl with | [_, _], _ => rfl) (fun X g b => j_Heap___add__ Z g b)
theorem k_S_Heap___add__ {G : Gb} (Z : Zx tabs G) : MtG G 5 "__add__" 0 S_Heap___add__ := Z.mtG (by kernel_rfl) (by decide) (by kernel_rfl) (kc_S_Heap___add__ Z)
def N_Heap___mul__ : List Str := ["self", "number", "name"]
def d_Heap___mul__ : SF :=
 (sSeq (sIf (tNotF (tVal (eCall S_is_number (lCons (eVar 1) (lCons (eCon (.int 0)) lNil))))) (sSeq sBad
 sSkip) sSkip)
 (sSeq (sRet (eMake 0 (List.tail S_Heap___init___2.fl) S_Heap___init___2.F (lCons (eDc (iVal (eMeth (fun c => List.lookup c [(0, S_Heap_names)]) 1 (eVar 0) lNil)) (.nm 2) tYesF (eVar 2) (eTwo (bBin .Mult) (eVar 1) (eOp (hSubA [(0, S_Heap___getitem__)] tabs.kds) (eVar 0) (eVar 2))) [2]) lNil)))
 sSkip))
theorem j_Heap___mul__ {G : Gb} (Z : Zx tabs G) {X : Cx} (g : Gc G 4 N_Heap___mul__ (defScope ((clsB (top 28)).getD 13 (.Pass ⟨0, 0, 0, 0⟩))) X) (b : Bd X) : JSs G.T X (defBody ((clsB (top 28)).getD 13 (.Pass ⟨0, 0, 0, 0⟩))) d_Heap___mul__ :=
 (jss_cons (js_if (jt_not (jt_val g.K (w_call g (k_S_is_number Z) (by omega) (jl_cons (w_var g (by kernel_rfl)) (jl_cons je_int jl_nil rfl) rfl) (by kernel_rfl) rfl) (fun _ => rfl))) (jss_cons js_bad
 jss_nil) jss_nil)
 (jss_cons (js_ret (w_make g (k_S_Heap___init___2 Z) (by omega) (jl_cons (w_dc g (own := [("name", 2)]) (i_val g (w_meth0 g (l := [(0, S_Heap_names)]) (.cons 1 (by omega) (k_S_Heap_names Z) .nil) Z.nd (Z.nmAt 1 _ (by kernel_rfl)) (w_var g (by kernel_rfl)) rfl (by kernel_rfl))) (b_nm g ⟨rfl, (by kernel_rfl), (by kernel_rfl), (by kernel_rfl)⟩ (by kernel_rfl) t_no) (in_blk g (fun _ g1 => (w_var g1 (by kernel_rfl))) rfl) (in_blk g (fun _ g1 => (w_bin g1 (w_var g1 (by kernel_rfl)) (x_sub' g1 Z 2 (by omega) (.cons 2 (by omega) (k_S_Heap___getitem__ Z) rfl (by kernel_rfl) .nil) (w_var g1 (by kernel_rfl)) (w_var g1 (by kernel_rfl)) rfl))) rfl) (by kernel_rfl) rfl) jl_nil rfl) (by kernel_rfl) rfl))
 jss_nil))
theorem fs_Heap___mul__ : FnScope N_Heap___mul__ ["self", "number"] (defScope ((clsB (top 28)).getD 13 (.Pass ⟨0, 0, 0, 0⟩))) := ⟨(by kernel_rfl), (by kernel_rfl), (by kernel_rfl), by decide +kernel, (by kernel_rfl), by decide +kernel, by decide +kernel⟩
def S_Heap___mul__ : Fs := ⟨[false, false], runF 3 [false, false] d_Heap___mul__⟩
theorem kc_S_Heap___mul__ {G : Gb} (Z : Zx tabs G) : Kc G 5 (He.fAd G.T.K ("Heap", some "__mul__")) S_Heap___mul__ := by
  obtain ⟨fd, F⟩ := Z.fn 10 _ (by rfl)
  exact kc_plain (N := N_Heap___mul__) (den := d_Heap___mul__) (fl := [false, false]) F fs_Heap___mul__ rfl (by decide) (fun _ _ _ _ _ _ us hl => match us, hl with | [_, _], _ => rfl) (fun X g b => j_Heap___mul__ Z g b)
theorem k_S_Heap___mul__ {G : Gb} (Z : Zx tabs G) : MtG G 5 "__mul__" 0 S_Heap___mul__ := Z.mtG (by kernel_rfl) (by decide) (by kernel_rfl) (kc_S_Heap___mul__ Z)
def N_Heap___rmul__ : List Str := ["self", "number"]
def d_Heap___rmul__ : SF :=
 (sSeq (sRet (eOp (hMul [(0, S_Heap___mul__)] []) (eVar 0) (eVar 1)))
 sSkip)
theorem j_Heap___rmul__ {G : Gb} (Z : Zx tabs G) {X : Cx} (g : Gc G 5 N_Heap___rmul__ (defScope ((clsB (top 28)).getD 14 (.Pass ⟨0, 0, 0, 0⟩))) X) (b : Bd X) : JSs G.T X (defBody ((clsB (top 28)).getD 14 (.Pass ⟨0, 0, 0, 0⟩))) d_Heap___rmul__ :=
 (jss_cons (js_ret (x_mul g Z (.cons 5 (by omega) (k_S_Heap___mul__ Z) rfl (by kernel_rfl) .nil) .nil (w_var g (by kernel_rfl)) (w_var g (by kernel_rfl)) (by kernel_rfl) (by kernel_rfl) (by kernel_rfl) (by kernel_rfl)))
 jss_nil)
theorem fs_Heap___rmul__ : FnScope N_Heap___rmul__ ["self", "number"] (defScope ((clsB (top 28)).getD 14 (.Pass ⟨0, 0, 0, 0⟩))) := ⟨(by kernel_rfl), (by kernel_rfl), (by kernel_rfl), by decide +kernel, (by kernel_rfl), by decide +kernel, by decide +kernel⟩
def S_Heap___rmul__ : Fs := ⟨[false, false], runF 2 [false, false] d_Heap___rmul__⟩
theorem kc_S_Heap___rmul__ {G : Gb} (Z : Zx tabs G) : Kc G 6 (He.fAd G.T.K ("Heap", some "__rmul__")) S_Heap___rmul__ := by
  obtain ⟨fd, F⟩ := Z.fn 11 _ (by rfl)
  exact kc_plain (N := N_Heap___rmul__) (den := d_Heap___rmul__) (fl := [false, false]) F fs_Heap___rmul__ rfl (by decide) (fun _ _ _ _ _ _ us hl => match us, hl with | [_, _], _ => rfl) (fun X g b => j_Heap___rmul__ Z g b)
theorem k_S_Heap___rmul__ {G : Gb} (Z : Zx tabs G) : MtG G 6 "__rmul__" 0 S_Heap___rmul__ := Z.mtG (by kernel_rfl) (by decide) (by kernel_rfl) (kc_S_Heap___rmul__ Z)
end Pu
namespace Pu
open PySem PySem.Spec PyProof.Rows L2
def N_Heap___eq__ : List Str := ["self", "other"]
def d_Heap___eq__ : SF :=
 (sSeq (sRet (eAnd (eIsi [(.own 0)] (eVar 1)) (eOp (hEqA false .Eq []) (eFld (fun c => [0].contains c) 0 (eVar 0)) (eFld (fun c => [0].contains c) 0 (eVar 1)))))
 sSkip)
theorem j_Heap___eq__ {G : Gb} (Z : Zx tabs G) {X : Cx} (g : Gc G 1 N_Heap___eq__ (defScope ((clsB (top 28)).getD 15 (.Pass ⟨0, 0, 0, 0⟩))) X) (b : Bd X) : JSs G.T X (defBody ((clsB (top 28)).getD 15 (.Pass ⟨0, 0, 0, 0⟩))) d_Heap___eq__ :=
 (jss_cons (js_ret (je_and (w_isi1 g (ct := (.own 0)) Z.isi (Z.fr "isinstance" (by kernel_rfl)) (c_own g (Z.clAt 0 (by kernel_rfl)) (Z.gl "Heap" (by kernel_rfl)) (by kernel_rfl)) (w_var g (by kernel_rfl)) (by simp [tabs]) (by kernel_rfl) rfl) (je_one (x_eq g Z 0 (by omega) .nil (w_fld g (cs := [0]) Z.nd (Z.nmAt 0 _ (by kernel_rfl)) (Z.fd "_counts" [0] (by kernel_rfl)) (w_var g (by kernel_rfl)) rfl) (w_fld g (cs := [0]) Z.nd (Z.nmAt 0 _ (by kernel_rfl)) (Z.fd "_counts" [0] (by kernel_rfl)) (w_var g (by kernel_rfl)) rfl) rfl))))
 jss_nil)
theorem fs_Heap___eq__ : FnScope N_Heap___eq__ ["self", "other"] (defScope ((clsB (top 28)).getD 15 (.Pass ⟨0, 0, 0, 0⟩))) := ⟨(by kernel_rfl), (by kernel_rfl), (by kernel_rfl), by decide +kernel, (by kernel_rfl), by decide +kernel, by decide +kernel⟩
def S_Heap___eq__ : Fs := ⟨[false, false], runF 2 [false, false] d_Heap___eq__⟩
theorem kc_S_Heap___eq__ {G : Gb} (Z : Zx tabs G) : Kc G 2 (He.fAd G.T.K ("Heap", some "__eq__")) S_Heap___eq__ := by
  obtain ⟨fd, F⟩ := Z.fn 12 _ (by rfl)
  exact kc_plain (N := N_Heap___eq__) (den := d_Heap___eq__) (fl := [false, false]) F fs_Heap___eq__ rfl (by decide) (fun _ _ _ _ _ _ us hl => match us, hl with | [_, _], _ => rfl) (fun X g b => j_Heap___eq__ Z g b)
theorem k_S_Heap___eq__ {G : Gb} (Z : Zx tabs G) : MtG G 2 "__eq__" 0 S_Heap___eq__ := Z.mtG (by kernel_rfl) (by decide) (by kernel_rfl) (kc_S_Heap___eq__ Z)
def N_Book___init__ : List Str := ["self", "contents", "kind", "kinds", "lost", "name"]
def d_Book___init__ : SF :=
 (sSeq (sFor (iVal (eVar 1)) (gNam 2) (sSeq (sIf (tNotF (tVal (eCall S_is_name (lCons (eVar 2) lNil)))) (sSeq sBad
 sSkip) sSkip)
 sSkip))
 (sSeq (sIf (tBl (eOp (fun a b => .ov (bCmp .Gt a b)) (eB (bLen) (lCons (eVar 1) lNil)) (eCon (.int 8)))) (sSeq sBad
 sSkip) sSkip)
 (sSeq (sAsg (gNam 3) (eB (bSorted) (lCons (eB (bList) (lCons (eVar 1) lNil)) lNil)))
 (sSeq (sFor (iVal (eVar 3)) (gNam 2) (sSeq (sIf (tAndF (tBl (eOp (fun a b => .ov (bCmp .IsNot a b)) (eOp hSub (eVar 1) (eVar 2)) (eCon .non))) (tNotF (tVal (eIsi [(.own 0)] (eOp hSub (eVar 1) (eVar 2)))))) (sSeq sBad
 sSkip) sSkip)
 sSkip))
 (sSeq (sAsg (gNam 4) (eLst lNil))
 (sSeq (sFor (iVal (eVar 3)) (gNam 2) (sSeq (sIf (tBl (eOp (fun a b => .ov (bCmp .IsNot a b)) (eOp hSub (eVar 1) (eVar 2)) (eCon .non))) (sSeq (sAsg (gNam 4) (eTwo (bBin .Add) (eVar 4) (eLc (iVal (eMeth (fun c => List.lookup c [(0, S_Heap_names)]) 1 (eOp hSub (eVar 1) (eVar 2)) lNil)) (.nm 5) (tBl (eOp (fun a b => .ov (bCmp .NotIn a b)) (eVar 5) (eVar 1))) (eVar 5) [5])))
 sSkip) sSkip)
 sSkip))
 (sSeq (sIf (tBl (eOp (fun a b => .ov (bCmp .NotEq a b)) (eVar 4) (eLst lNil))) (sSeq sBad
 sSkip) sSkip)
 (sSeq (sFldD (fun c => [1].contains c) 2 (eDc (iVal (eVar 3)) (.nm 2) tYesF (eVar 2) (eOp hSub (eVar 1) (eVar 2)) [2]) (eVar 0))
 sSkip))))))))
theorem j_Book___init__ {G : Gb} (Z : Zx tabs G) {X : Cx} (g : Gc G 1 N_Book___init__ (defScope ((clsB (top 31)).getD 1 (.Pass ⟨0, 0, 0, 0⟩))) X) (b : Bd X) : JSs G.T X (defBody ((clsB (top 31)).getD 1 (.Pass ⟨0, 0, 0, 0⟩))) d_Book___init__ :=
 (jss_cons (s_for g b (i_val g (w_var g (by kernel_rfl))) (jgl_of (g_nam g b (by kernel_rfl))) (jss_cons (js_if (jt_not (jt_val g.K (w_call g (k_S_is_name Z) (by omega) (jl_cons (w_var g (by kernel_rfl)) jl_nil rfl) (by kernel_rfl) rfl) (fun _ => rfl))) (jss_cons js_bad
 jss_nil) jss_nil)
 jss_nil) rfl)
 (jss_cons (js_if (wt_cmp g (w_len g (Z.fr "len" (by kernel_rfl)) (jl_cons (w_var g (by kernel_rfl)) jl_nil rfl) (by kernel_rfl) rfl) (w_gint g (Z.gi "MOST_KINDS" _ (by kernel_rfl)) (by kernel_rfl)) rfl) (jss_cons js_bad
 jss_nil) jss_nil)
 (jss_cons (s_asg g (g_nam g b (by kernel_rfl)) (w_sorted g (Z.fr "sorted" (by kernel_rfl)) (jl_cons (w_list g (Z.fr "list" (by kernel_rfl)) (jl_cons (w_var g (by kernel_rfl)) jl_nil rfl) (by kernel_rfl) rfl) jl_nil rfl) (by kernel_rfl) rfl) (by kernel_rfl) rfl rfl)
 (jss_cons (s_for g b (i_val g (w_var g (by kernel_rfl))) (jgl_of (g_nam g b (by kernel_rfl))) (jss_cons (js_if (jt_w (jw_and (wt_cmp g (w_sub g (w_var g (by kernel_rfl)) (w_var g (by kernel_rfl)) rfl) je_non rfl) (jw_and1 (jt_not (jt_val g.K (w_isi1 g (ct := (.own 0)) Z.isi (Z.fr "isinstance" (by kernel_rfl)) (c_own g (Z.clAt 0 (by kernel_rfl)) (Z.gl "Heap" (by kernel_rfl)) (by kernel_rfl)) (w_sub g (w_var g (by kernel_rfl)) (w_var g (by kernel_rfl)) rfl) (by simp [tabs]) (by kernel_rfl) rfl) (fun _ => rfl)))))) (jss_cons js_bad
 jss_nil) jss_nil)
 jss_nil) rfl)
 (jss_cons (s_asg g (g_nam g b (by kernel_rfl)) (je_lst jl_nil) (by kernel_rfl) rfl rfl)
 (jss_cons (s_for g b (i_val g (w_var g (by kernel_rfl))) (jgl_of (g_nam g b (by kernel_rfl))) (jss_cons (js_if (wt_cmp g (w_sub g (w_var g (by kernel_rfl)) (w_var g (by kernel_rfl)) rfl) je_non rfl) (jss_cons (s_asg g (g_nam g b (by kernel_rfl)) (w_bin g (w_var g (by kernel_rfl)) (w_lc g (own := [("name", 5)]) (i_val g (w_meth0 g (l := [(0, S_Heap_names)]) (.cons 1 (by omega) (k_S_Heap_names Z) .nil) Z.nd (Z.nmAt 1 _ (by kernel_rfl)) (w_sub g (w_var g (by kernel_rfl)) (w_var g (by kernel_rfl)) rfl) rfl (by kernel_rfl))) (b_nm g ⟨rfl, (by kernel_rfl), (by kernel_rfl), (by kernel_rfl)⟩ (by kernel_rfl) (t_if (in_blk g (fun _ g1 => (wt_cmp g1 (w_var g1 (by kernel_rfl)) (w_var g1 (by kernel_rfl)) rfl)) rfl))) (in_blk g (fun _ g1 => (w_var g1 (by kernel_rfl))) rfl) (by kernel_rfl) rfl)) (by kernel_rfl) rfl rfl)
 jss_nil) jss_nil)
 jss_nil) rfl)
 (jss_cons (js_if (wt_cmp g (w_var g (by kernel_rfl)) (je_lst jl_nil) rfl) (jss_cons js_bad
 jss_nil) jss_nil)
 (jss_cons (s_fld g (cs := [1]) Z.nd (Z.nmAt 2 _ (by kernel_rfl)) (Z.fd "_contents" [1] (by kernel_rfl)) (w_dc g (own := [("kind", 2)]) (i_val g (w_var g (by kernel_rfl))) (b_nm g ⟨rfl, (by kernel_rfl), (by kernel_rfl), (by kernel_rfl)⟩ (by kernel_rfl) t_no) (in_blk g (fun _ g1 => (w_var g1 (by kernel_rfl))) rfl) (in_blk g (fun _ g1 => (w_sub g1 (w_var g1 (by kernel_rfl)) (w_var g1 (by kernel_rfl)) rfl)) rfl) (by kernel_rfl) rfl) (w_var g (by kernel_rfl)))
 jss_nil))))))))
theorem fs_Book___init__ : FnScope N_Book___init__ ["self", "contents"] (defScope ((clsB (top 31)).getD 1 (.Pass ⟨0, 0, 0, 0⟩))) := ⟨(by kernel_rfl), (by kernel_rfl), (by kernel_rfl), by decide +kernel, (by kernel_rfl), by decide +kernel, by decide +kernel⟩
def S_Book___init__ : Fs := ⟨[true, false], runF 6 [true, false] d_Book___init__⟩
theorem kc_S_Book___init__ {G : Gb} (Z : Zx tabs G) : Kc G 2 (He.fAd G.T.K ("Book", some "__init__")) S_Book___init__ := by
  obtain ⟨fd, F⟩ := Z.fn 13 _ (by rfl)
  exact kc_plain (N := N_Book___init__) (den := d_Book___init__) (fl := [true, false]) F fs_Book___init__ rfl (by decide) (fun _ _ _ _ _ _ us hl => match us, hl with | [_, _], _ => rfl) (fun X g b => j_Book___init__ Z g b)
theorem k_S_Book___init__ {G : Gb} (Z : Zx tabs G) : MkG G 2 "Book" 1 (List.tail S_Book___init__.fl) S_Book___init__.F := Z.mkG (by kernel_rfl) (by decide) (by kernel_rfl) (kc_S_Book___init__ Z)
def N_Book_kinds : List Str := ["self"]
def d_Book_kinds : SF :=
 (sSeq (sRet (eB (bList) (lCons (eFld (fun c => [1].contains c) 2 (eVar 0)) lNil)))
 sSkip)
theorem j_Book_kinds {G : Gb} (Z : Zx tabs G) {X : Cx} (g : Gc G 0 N_Book_kinds (defScope ((clsB (top 31)).getD 3 (.Pass ⟨0, 0, 0, 0⟩))) X) (b : Bd X) : JSs G.T X (defBody ((clsB (top 31)).getD 3 (.Pass ⟨0, 0, 0, 0⟩))) d_Book_kinds :=
 (jss_cons (js_ret (w_list g (Z.fr "list" (by kernel_rfl)) (jl_cons (w_fld g (cs := [1]) Z.nd (Z.nmAt 2 _ (by kernel_rfl)) (Z.fd "_contents" [1] (by kernel_rfl)) (w_var g (by kernel_rfl)) rfl) jl_nil rfl) (by kernel_rfl) rfl))
 jss_nil)
theorem fs_Book_kinds : FnScope N_Book_kinds ["self"] (defScope ((clsB (top 31)).getD 3 (.Pass ⟨0, 0, 0, 0⟩))) := ⟨(by kernel_rfl), (by kernel_rfl), (by kernel_rfl), by decide +kernel, (by kernel_rfl), by decide +kernel, by decide +kernel⟩
def S_Book_kinds : Fs := ⟨[false], runF 1 [false] d_Book_kinds⟩
theorem kc_S_Book_kinds {G : Gb} (Z : Zx tabs G) : Kc G 1 (He.fAd G.T.K ("Book", some "kinds")) S_Book_kinds := by
  obtain ⟨fd, F⟩ := Z.fn 14 _ (by rfl)
  exact kc_plain (N := N_Book_kinds) (den := d_Book_kinds) (fl := [false]) F fs_Book_kinds rfl (by decide) (fun _ _ _ _ _ _ us hl => match us, hl with | [_], _ => rfl) (fun X g b => j_Book_kinds Z g b)
theorem k_S_Book_kinds {G : Gb} (Z : Zx tabs G) : MtG G 1 "kinds" 1 S_Book_kinds := Z.mtG (by kernel_rfl) (by decide) (by kernel_rfl) (kc_S_Book_kinds Z)
def N_Book___contains__ : List Str := ["self", "value"]
def d_Book___contains__ : SF :=
 (sSeq (sRet (eAnd (eIsi [(.bt 0)] (eVar 1)) (eOp (fun a b => .ov (bCmp .In a b)) (eVar 1) (eFld (fun c => [1].contains c) 2 (eVar 0)))))
 sSkip)
theorem j_Book___contains__ {G : Gb} (Z : Zx tabs G) {X : Cx} (g : Gc G 0 N_Book___contains__ (defScope ((clsB (top 31)).getD 11 (.Pass ⟨0, 0, 0, 0⟩))) X) (b : Bd X) : JSs G.T X (defBody ((clsB (top 31)).getD 11 (.Pass ⟨0, 0, 0, 0⟩))) d_Book___contains__ :=
 (jss_cons (js_ret (je_and (w_isi1 g (ct := (.bt 0)) Z.isi (Z.fr "isinstance" (by kernel_rfl)) (c_bt g (Z.fr "str" (by kernel_rfl)) (by kernel_rfl) rfl (by decide)) (w_var g (by kernel_rfl)) (by simp [tabs]) (by kernel_rfl) rfl) (je_one (w_cmp g (w_var g (by kernel_rfl)) (w_fld g (cs := [1]) Z.nd (Z.nmAt 2 _ (by kernel_rfl)) (Z.fd "_contents" [1] (by kernel_rfl)) (w_var g (by kernel_rfl)) rfl) rfl))))
 jss_nil)
theorem fs_Book___contains__ : FnScope N_Book___contains__ ["self", "value"] (defScope ((clsB (top 31)).getD 11 (.Pass ⟨0, 0, 0, 0⟩))) := ⟨(by kernel_rfl), (by kernel_rfl), (by kernel_rfl), by decide +kernel, (by kernel_rfl), by decide +kernel, by decide +kernel⟩
def S_Book___contains__ : Fs := ⟨[false, false], runF 2 [false, false] d_Book___contains__⟩
theorem kc_S_Book___contains__ {G : Gb} (Z : Zx tabs G) : Kc G 1 (He.fAd G.T.K ("Book", some "__contains__")) S_Book___contains__ := by
  obtain ⟨fd, F⟩ := Z.fn 15 _ (by rfl)
  exact kc_plain (N := N_Book___contains__) (den := d_Book___contains__) (fl := [false, false]) F fs_Book___contains__ rfl (by decide) (fun _ _ _ _ _ _ us hl => match us, hl with | [_, _], _ => rfl) (fun X g b => j_Book___contains__ Z g b)
theorem k_S_Book___contains__ {G : Gb} (Z : Zx tabs G) : MtG G 1 "__contains__" 1 S_Book___contains__ := Z.mtG (by kernel_rfl) (by decide) (by kernel_rfl) (kc_S_Book___contains__ Z)
def N_Book_content : List Str := ["self", "kind"]
def d_Book_content : SF :=
 (sSeq (sIf (tBl (eOp (hInA true .NotIn [(0, S_Heap___contains__), (1, S_Book___contains__)] tabs.kds) (eVar 1) (eVar 0))) (sSeq sBad
 sSkip) sSkip)
 (sSeq (sRet (eOp hSub (eFld (fun c => [1].contains c) 2 (eVar 0)) (eVar 1)))
 sSkip))
theorem j_Book_content {G : Gb} (Z : Zx tabs G) {X : Cx} (g : Gc G 1 N_Book_content (defScope ((clsB (top 31)).getD 5 (.Pass ⟨0, 0, 0, 0⟩))) X) (b : Bd X) : JSs G.T X (defBody ((clsB (top 31)).getD 5 (.Pass ⟨0, 0, 0, 0⟩))) d_Book_content :=
 (jss_cons (js_if (xt_nin g Z (.cons 1 (by omega) (k_S_Heap___contains__ Z) rfl (by kernel_rfl) (.cons 1 (by omega) (k_S_Book___contains__ Z) rfl (by kernel_rfl) .nil)) (w_var g (by kernel_rfl)) (w_var g (by kernel_rfl)) rfl) (jss_cons js_bad
 jss_nil) jss_nil)
 (jss_cons (js_ret (w_sub g (w_fld g (cs := [1]) Z.nd (Z.nmAt 2 _ (by kernel_rfl)) (Z.fd "_contents" [1] (by kernel_rfl)) (w_var g (by kernel_rfl)) rfl) (w_var g (by kernel_rfl)) rfl))
 jss_nil))
theorem fs_Book_content : FnScope N_Book_content ["self", "kind"] (defScope ((clsB (top 31)).getD 5 (.Pass ⟨0, 0, 0, 0⟩))) := ⟨(by kernel_rfl), (by kernel_rfl), (by kernel_rfl), by decide +kernel, (by kernel_rfl), by decide +kernel, by decide +kernel⟩
def S_Book_content : Fs := ⟨[false, false], runF 2 [false, false] d_Book_content⟩
theorem kc_S_Book_content {G : Gb} (Z : Zx tabs G) : Kc G 2 (He.fAd G.T.K ("Book", some "content")) S_Book_content := by
  obtain ⟨fd, F⟩ := Z.fn 16 _ (by rfl)
  exact kc_plain (N := N_Book_content) (den := d_Book_content) (fl := [false, false]) F fs_Book_content rfl (by decide) (fun _ _ _ _ _ _ us hl => match us, hl with | [_, _], _ => rfl) (fun X g b => j_Book_content Z g b)
theorem k_S_Book_content {G : Gb} (Z : Zx tabs G) : MtG G 2 "content" 1 S_Book_content := Z.mtG (by kernel_rfl) (by decide) (by kernel_rfl) (kc_S_Book_content Z)
def N_Book_unknown : List Str := ["self", "heap", "lost", "name"]
def d_Book_unknown : SF :=
 (sSeq (sAsg (gNam 2) (eLc (iVal (eMeth (fun c => List.lookup c [(0, S_Heap_names)]) 1 (eVar 1) lNil)) (.nm 3) (tBl (eOp (fun a b => .ov (bCmp .NotIn a b)) (eVar 3) (eFld (fun c => [1].contains c) 2 (eVar 0)))) (eVar 3) [3]))
 (sSeq (sRet (eIf (tBl (eOp (fun a b => .ov (bCmp .NotEq a b)) (eVar 2) (eLst lNil))) (eOp hSub (eVar 2) (eCon (.int 0))) (eCon .non)))
 sSkip))
theorem j_Book_unknown {G : Gb} (Z : Zx tabs G) {X : Cx} (g : Gc G 1 N_Book_unknown (defScope ((clsB (top 31)).getD 6 (.Pass ⟨0, 0, 0, 0⟩))) X) (b : Bd X) : JSs G.T X (defBody ((clsB (top 31)).getD 6 (.Pass ⟨0, 0, 0, 0⟩))) d_Book_unknown :=
 (jss_cons (s_setLc g (own := [("name", 3)]) (i_val g (w_meth0 g (l := [(0, S_Heap_names)]) (.cons 1 (by omega) (k_S_Heap_names Z) .nil) Z.nd (Z.nmAt 1 _ (by kernel_rfl)) (w_var g (by kernel_rfl)) rfl (by kernel_rfl))) (b_nm g ⟨rfl, (by kernel_rfl), (by kernel_rfl), (by kernel_rfl)⟩ (by kernel_rfl) (t_if (in_blk g (fun _ g1 => (wt_cmp g1 (w_var g1 (by kernel_rfl)) (w_fld g1 (cs := [1]) Z.nd (Z.nmAt 2 _ (by kernel_rfl)) (Z.fd "_contents" [1] (by kernel_rfl)) (w_var g1 (by kernel_rfl)) rfl) rfl)) rfl))) (in_blk g (fun _ g1 => (w_var g1 (by kernel_rfl))) rfl) (by kernel_rfl) rfl (by kernel_rfl) (by kernel_rfl))
 (jss_cons (js_ret (je_if (wt_cmp g (w_var g (by kernel_rfl)) (je_lst jl_nil) rfl) (w_sub g (w_var g (by kernel_rfl)) je_int rfl) je_non))
 jss_nil))
theorem fs_Book_unknown : FnScope N_Book_unknown ["self", "heap"] (defScope ((clsB (top 31)).getD 6 (.Pass ⟨0, 0, 0, 0⟩))) := ⟨(by kernel_rfl), (by kernel_rfl), (by kernel_rfl), by decide +kernel, (by kernel_rfl), by decide +kernel, by decide +kernel⟩
def S_Book_unknown : Fs := ⟨[false, false], runF 4 [false, false] d_Book_unknown⟩
theorem kc_S_Book_unknown {G : Gb} (Z : Zx tabs G) : Kc G 2 (He.fAd G.T.K ("Book", some "unknown")) S_Book_unknown := by
  obtain ⟨fd, F⟩ := Z.fn 17 _ (by rfl)
  exact kc_plain (N := N_Book_unknown) (den := d_Book_unknown) (fl := [false, false]) F fs_Book_unknown rfl (by decide) (fun _ _ _ _ _ _ us hl => match us, hl with | [_, _], _ => rfl) (fun X g b => j_Book_unknown Z g b)
theorem k_S_Book_unknown {G : Gb} (Z : Zx tabs G) : MtG G 2 "unknown" 1 S_Book_unknown := Z.mtG (by kernel_rfl) (by decide) (by kernel_rfl) (kc_S_Book_unknown Z)
def N_Book___eq__ : List Str := ["self", "other"]
def d_Book___eq__ : SF :=
 (sSeq (sRet (eAnd (eIsi [(.own 1)] (eVar 1)) (eOp (hEqA false .Eq [(0, S_Heap___eq__)]) (eFld (fun c => [1].contains c) 2 (eVar 0)) (eFld (fun c => [1].contains c) 2 (eVar 1)))))
 sSkip)
theorem j_Book___eq__ {G : Gb} (Z : Zx tabs G) {X : Cx} (g : Gc G 3 N_Book___eq__ (defScope ((clsB (top 31)).getD 12 (.Pass ⟨0, 0, 0, 0⟩))) X) (b : Bd X) : JSs G.T X (defBody ((clsB (top 31)).getD 12 (.Pass ⟨0, 0, 0, 0⟩))) d_Book___eq__ :=
 (jss_cons (js_ret (je_and (w_isi1 g (ct := (.own 1)) Z.isi (Z.fr "isinstance" (by kernel_rfl)) (c_own g (Z.clAt 1 (by kernel_rfl)) (Z.gl "Book" (by kernel_rfl)) (by kernel_rfl)) (w_var g (by kernel_rfl)) (by simp [tabs]) (by kernel_rfl) rfl) (je_one (x_eq g Z 2 (by omega) (.cons 2 (by omega) (k_S_Heap___eq__ Z) rfl (by kernel_rfl) .nil) (w_fld g (cs := [1]) Z.nd (Z.nmAt 2 _ (by kernel_rfl)) (Z.fd "_contents" [1] (by kernel_rfl)) (w_var g (by kernel_rfl)) rfl) (w_fld g (cs := [1]) Z.nd (Z.nmAt 2 _ (by kernel_rfl)) (Z.fd "_contents" [1] (by kernel_rfl)) (w_var g (by kernel_rfl)) rfl) rfl))))
 jss_nil)
theorem fs_Book___eq__ : FnScope N_Book___eq__ ["self", "other"] (defScope ((clsB (top 31)).getD 12 (.Pass ⟨0, 0, 0, 0⟩))) := ⟨(by kernel_rfl), (by kernel_rfl), (by kernel_rfl), by decide +kernel, (by kernel_rfl), by decide +kernel, by decide +kernel⟩
def S_Book___eq__ : Fs := ⟨[false, false], runF 2 [false, false] d_Book___eq__⟩
theorem kc_S_Book___eq__ {G : Gb} (Z : Zx tabs G) : Kc G 4 (He.fAd G.T.K ("Book", some "__eq__")) S_Book___eq__ := by
  obtain ⟨fd, F⟩ := Z.fn 18 _ (by rfl)
  exact kc_plain (N := N_Book___eq__) (den := d_Book___eq__) (fl := [false, false]) F fs_Book___eq__ rfl (by decide) (fun _ _ _ _ _ _ us hl => match us, hl with | [_, _], _ => rfl) (fun X g b => j_Book___eq__ Z g b)
theorem k_S_Book___eq__ {G : Gb} (Z : Zx tabs G) : MtG G 4 "__eq__" 1 S_Book___eq__ := Z.mtG (by kernel_rfl) (by decide) (by kernel_rfl) (kc_S_Book___eq__ Z)
def N_lowest : List Str := ["worth", "modulus"]
def d_lowest : SF :=
 (sSeq (sIf (tOrF (tBl (eOp (fun a b => .ov (bCmp .Is a b)) (eVar 0) (eCon .non))) (tBl (eOp (fun a b => .ov (bCmp .Eq a b)) (eVar 1) (eCon (.int 0))))) (sSeq (sRet (eVar 0))
 sSkip) sSkip)
 (sSeq (sRet (eTwo (bBin .Mod) (eB (bInt) (lCons (eVar 0) lNil)) (eVar 1)))
 sSkip))
theorem j_lowest {G : Gb} (Z : Zx tabs G) {X : Cx} (g : Gc G 0 N_lowest (defScope (top 60)) X) (b : Bd X) : JSs G.T X (defBody (top 60)) d_lowest :=
 (jss_cons (js_if (jt_w (jw_or (wt_cmp g (w_var g (by kernel_rfl)) je_non rfl) (jw_or1 (wt_cmp g (w_var g (by kernel_rfl)) je_int rfl)))) (jss_cons (js_ret (w_var g (by kernel_rfl)))
 jss_nil) jss_nil)
 (jss_cons (js_ret (w_bin g (w_int g (Z.fr "int" (by kernel_rfl)) (jl_cons (w_var g (by kernel_rfl)) jl_nil rfl) (by kernel_rfl) rfl) (w_var g (by kernel_rfl))))
 jss_nil))
theorem fs_lowest : FnScope N_lowest ["worth", "modulus"] (defScope (top 60)) := ⟨(by kernel_rfl), (by kernel_rfl), (by kernel_rfl), by decide +kernel, (by kernel_rfl), by decide +kernel, by decide +kernel⟩
def S_lowest : Fs := ⟨[false, false], runF 2 [false, false] d_lowest⟩
theorem kc_S_lowest {G : Gb} (Z : Zx tabs G) : Kc G 1 (He.fAd G.T.K ("lowest", none)) S_lowest := by
  obtain ⟨fd, F⟩ := Z.fn 19 _ (by rfl)
  exact kc_plain (N := N_lowest) (den := d_lowest) (fl := [false, false]) F fs_lowest rfl (by decide) (fun _ _ _ _ _ _ us hl => match us, hl with | [_, _], _ => rfl) (fun X g b => j_lowest Z g b)
theorem k_S_lowest {G : Gb} (Z : Zx tabs G) : FnG G 1 "lowest" S_lowest := by
  obtain ⟨fd, F⟩ := Z.fn 19 _ (by rfl)
  exact Z.fnG (by kernel_rfl) F.kp (kc_S_lowest Z)
def N_WorthList___init__ : List Str := ["self", "book", "table", "modulus", "kind"]
def d_WorthList___init__ : SF :=
 (sSeq (sIf (tNotF (tVal (eCall S_is_number (lCons (eVar 3) (lCons (eCon (.int 0)) lNil))))) (sSeq sBad
 sSkip) sSkip)
 (sSeq (sFor (iVal (eVar 2)) (gNam 4) (sSeq (sIf (tBl (eOp (hInA true .NotIn [(0, S_Heap___contains__), (1, S_Book___contains__)] tabs.kds) (eVar 4) (eVar 1))) (sSeq sBad
 sSkip) sSkip)
 sSkip))
 (sSeq (sFor (iVal (eMeth (fun c => List.lookup c [(1, S_Book_kinds)]) 3 (eVar 1) lNil)) (gNam 4) (sSeq (sIf (tOrF (tBl (eOp (hInA true .NotIn [(0, S_Heap___contains__), (1, S_Book___contains__)] tabs.kds) (eVar 4) (eVar 2))) (tNotF (tOrF (tBl (eOp (fun a b => .ov (bCmp .Is a b)) (eOp hSub (eVar 2) (eVar 4)) (eCon .non))) (tVal (eCall S_is_integer (lCons (eOp hSub (eVar 2) (eVar 4)) lNil)))))) (sSeq sBad
 sSkip) sSkip)
 sSkip))
 (sSeq (sFldD (fun c => [2, 3, 5].contains c) 6 (eVar 1) (eVar 0))
 (sSeq (sFldD (fun c => [2].contains c) 5 (eVar 3) (eVar 0))
 (sSeq (sFldD (fun c => [2, 5].contains c) 4 (eDc (iVal (eMeth (fun c => List.lookup c [(1, S_Book_kinds)]) 3 (eVar 1) lNil)) (.nm 4) tYesF (eVar 4) (eCall S_lowest (lCons (eOp hSub (eVar 2) (eVar 4)) (lCons (eVar 3) lNil))) [4]) (eVar 0))
 sSkip))))))
theorem j_WorthList___init__ {G : Gb} (Z : Zx tabs G) {X : Cx} (g : Gc G 2 N_WorthList___init__ (defScope ((clsB (top 59)).getD 0 (.Pass ⟨0, 0, 0, 0⟩))) X) (b : Bd X) : JSs G.T X (defBody ((clsB (top 59)).getD 0 (.Pass ⟨0, 0, 0, 0⟩))) d_WorthList___init__ :=
 (jss_cons (js_if (jt_not (jt_val g.K (w_call g (k_S_is_number Z) (by omega) (jl_cons (w_var g (by kernel_rfl)) (jl_cons je_int jl_nil rfl) rfl) (by kernel_rfl) rfl) (fun _ => rfl))) (jss_cons js_bad
 jss_nil) jss_nil)
 (jss_cons (s_for g b (i_val g (w_var g (by kernel_rfl))) (jgl_of (g_nam g b (by kernel_rfl))) (jss_cons (js_if (xt_nin g Z (.cons 1 (by omega) (k_S_Heap___contains__ Z) rfl (by kernel_rfl) (.cons 1 (by omega) (k_S_Book___contains__ Z) rfl (by kernel_rfl) .nil)) (w_var g (by kernel_rfl)) (w_var g (by kernel_rfl)) rfl) (jss_cons js_bad
 jss_nil) jss_nil)
 jss_nil) rfl)
 (jss_cons (s_for g b (i_val g (w_meth0 g (l := [(1, S_Book_kinds)]) (.cons 1 (by omega) (k_S_Book_kinds Z) .nil) Z.nd (Z.nmAt 3 _ (by kernel_rfl)) (w_var g (by kernel_rfl)) rfl (by kernel_rfl))) (jgl_of (g_nam g b (by kernel_rfl))) (jss_cons (js_if (jt_w (jw_or (xt_nin g Z (.cons 1 (by omega) (k_S_Heap___contains__ Z) rfl (by kernel_rfl) (.cons 1 (by omega) (k_S_Book___contains__ Z) rfl (by kernel_rfl) .nil)) (w_var g (by kernel_rfl)) (w_var g (by kernel_rfl)) rfl) (jw_or1 (jt_not (jt_w (jw_or (wt_cmp g (w_sub g (w_var g (by kernel_rfl)) (w_var g (by kernel_rfl)) rfl) je_non rfl) (jw_or1 (jt_val g.K (w_call g (k_S_is_integer Z) (by omega) (jl_cons (w_sub g (w_var g (by kernel_rfl)) (w_var g (by kernel_rfl)) rfl) jl_nil rfl) (by kernel_rfl) rfl) (fun _ => rfl))))))))) (jss_cons js_bad
 jss_nil) jss_nil)
 jss_nil) rfl)
 (jss_cons (s_fld g (cs := [2, 3, 5]) Z.nd (Z.nmAt 6 _ (by kernel_rfl)) (Z.fd "book" [2, 3, 5] (by kernel_rfl)) (w_var g (by kernel_rfl)) (w_var g (by kernel_rfl)))
 (jss_cons (s_fld g (cs := [2]) Z.nd (Z.nmAt 5 _ (by kernel_rfl)) (Z.fd "modulus" [2] (by kernel_rfl)) (w_var g (by kernel_rfl)) (w_var g (by kernel_rfl)))
 (jss_cons (s_fld g (cs := [2, 5]) Z.nd (Z.nmAt 4 _ (by kernel_rfl)) (Z.fd "_table" [2, 5] (by kernel_rfl)) (w_dc g (own := [("kind", 4)]) (i_val g (w_meth0 g (l := [(1, S_Book_kinds)]) (.cons 1 (by omega) (k_S_Book_kinds Z) .nil) Z.nd (Z.nmAt 3 _ (by kernel_rfl)) (w_var g (by kernel_rfl)) rfl (by kernel_rfl))) (b_nm g ⟨rfl, (by kernel_rfl), (by kernel_rfl), (by kernel_rfl)⟩ (by kernel_rfl) t_no) (in_blk g (fun _ g1 => (w_var g1 (by kernel_rfl))) rfl) (in_blk g (fun _ g1 => (w_call g1 (k_S_lowest Z) (by omega) (jl_cons (w_sub g1 (w_var g1 (by kernel_rfl)) (w_var g1 (by kernel_rfl)) rfl) (jl_cons (w_var g1 (by kernel_rfl)) jl_nil rfl) rfl) (by kernel_rfl) rfl)) rfl) (by kernel_rfl) rfl) (w_var g (by kernel_rfl)))
 jss_nil))))))
theorem fs_WorthList___init__ : FnScope N_WorthList___init__ ["self", "book", "table", "modulus"] (defScope ((clsB (top 59)).getD 0 (.Pass ⟨0, 0, 0, 0⟩))) := ⟨(by kernel_rfl), (by kernel_rfl), (by kernel_rfl), by decide +kernel, (by kernel_rfl), by decide +kernel, by decide +kernel⟩
def S_WorthList___init__ : Fs := ⟨[true, false, false], fillF ((List.map (·.2) ([("modulus", .int 0)] : List (Str × He.Dv))).map dvD) (runF 5 [true, false, false, false] d_WorthList___init__)⟩
theorem kc_S_WorthList___init__ {G : Gb} (Z : Zx tabs G) : Kc G 3 (He.fAd G.T.K ("WorthList", some "__init__")) S_WorthList___init__ := by
  obtain ⟨fd, F⟩ := Z.fn 20 _ (by rfl)
  exact kc_kwd (N := N_WorthList___init__) (den := d_WorthList___init__) (kl := [("modulus", .int 0)]) (fl0 := [true, false, false]) (fl := [true, false, false, false]) F fs_WorthList___init__ rfl (by simp) rfl (by decide) (fun DA doc pm an cdv ct us ks h1 h2 => match us, ks, h1, h2 with | [_, _, _], [_], _, _ => ⟨_, _, _, _, _, _, rfl, rfl, rfl⟩) rfl (fun X g b => j_WorthList___init__ Z g b)
theorem k_S_WorthList___init__ {G : Gb} (Z : Zx tabs G) : MkG G 3 "WorthList" 2 (List.tail S_WorthList___init__.fl) S_WorthList___init__.F := Z.mkG (by kernel_rfl) (by decide) (by kernel_rfl) (kc_S_WorthList___init__ Z)
theorem kw_WorthList___init__ {G : Gb} (Z : Zx tabs G) : KwG G 3 "WorthList" 2 2 1 ["modulus"] (fun ds es => ds ++ es) (runF 5 [true, false, false, false] d_WorthList___init__) := by
  obtain ⟨fd, F⟩ := Z.fn 20 _ (by rfl)
  exact kw_only (N := N_WorthList___init__) (c := 2) (n := 2) (den := d_WorthList___init__) (kl := [("modulus", .int 0)]) (fl := [true, false, false, false]) Z F fs_WorthList___init__ (by decide) (by kernel_rfl) (by simp) (by decide) (by decide) (fun DA doc pm an cdv ct us ws h1 h2 => match us, ws, h1, h2 with | [_, _, _], [_], _, _ => rfl) rfl (fun X g b => j_WorthList___init__ Z g b)
def N_WorthList_table : List Str := ["self", "kind"]
def d_WorthList_table : SF :=
 (sSeq (sRet (eDc (iVal (eFld (fun c => [2, 5].contains c) 4 (eVar 0))) (.nm 1) tYesF (eVar 1) (eOp hSub (eFld (fun c => [2, 5].contains c) 4 (eVar 0)) (eVar 1)) [1]))
 sSkip)
theorem j_WorthList_table {G : Gb} (Z : Zx tabs G) {X : Cx} (g : Gc G 0 N_WorthList_table (defScope ((clsB (top 59)).getD 1 (.Pass ⟨0, 0, 0, 0⟩))) X) (b : Bd X) : JSs G.T X (defBody ((clsB (top 59)).getD 1 (.Pass ⟨0, 0, 0, 0⟩))) d_WorthList_table :=
 (jss_cons (js_ret (w_dc g (own := [("kind", 1)]) (i_val g (w_fld g (cs := [2, 5]) Z.nd (Z.nmAt 4 _ (by kernel_rfl)) (Z.fd "_table" [2, 5] (by kernel_rfl)) (w_var g (by kernel_rfl)) rfl)) (b_nm g ⟨rfl, (by kernel_rfl), (by kernel_rfl), (by kernel_rfl)⟩ (by kernel_rfl) t_no) (in_blk g (fun _ g1 => (w_var g1 (by kernel_rfl))) rfl) (in_blk g (fun _ g1 => (w_sub g1 (w_fld g1 (cs := [2, 5]) Z.nd (Z.nmAt 4 _ (by kernel_rfl)) (Z.fd "_table" [2, 5] (by kernel_rfl)) (w_var g1 (by kernel_rfl)) rfl) (w_var g1 (by kernel_rfl)) rfl)) rfl) (by kernel_rfl) rfl))
 jss_nil)
theorem fs_WorthList_table : FnScope N_WorthList_table ["self"] (defScope ((clsB (top 59)).getD 1 (.Pass ⟨0, 0, 0, 0⟩))) := ⟨(by kernel_rfl), (by kernel_rfl), (by kernel_rfl), by decide +kernel, (by kernel_rfl), by decide +kernel, by decide +kernel⟩
def S_WorthList_table : Fs := ⟨[false], runF 2 [false] d_WorthList_table⟩
theorem kc_S_WorthList_table {G : Gb} (Z : Zx tabs G) : Kc G 1 (He.fAd G.T.K ("WorthList", some "table")) S_WorthList_table := by
  obtain ⟨fd, F⟩ := Z.fn 21 _ (by rfl)
  exact kc_plain (N := N_WorthList_table) (den := d_WorthList_table) (fl := [false]) F fs_WorthList_table rfl (by decide) (fun _ _ _ _ _ _ us hl => match us, hl with | [_], _ => rfl) (fun X g b => j_WorthList_table Z g b)
theorem k_S_WorthList_table {G : Gb} (Z : Zx tabs G) : MtG G 1 "table" 2 S_WorthList_table := Z.mtG (by kernel_rfl) (by decide) (by kernel_rfl) (kc_S_WorthList_table Z)
def N_WorthList_worth_of : List Str := ["self", "heap", "total", "kind", "many"]
def d_WorthList_worth_of : SF :=
 (sSeq (sAsg (gNam 2) (eCon (.int 0)))
 (sSeq (sFor (iVal (eMeth (fun c => List.lookup c [(0, S_Heap_pairs)]) 7 (eVar 1) lNil)) (gTupD [(gNam 3), (gNam 4)]) (sSeq (sIf (tBl (eOp (fun a b => .ov (bCmp .Is a b)) (eOp hSub (eFld (fun c => [2, 5].contains c) 4 (eVar 0)) (eVar 3)) (eCon .non))) (sSeq (sRet (eCon .non))
 sSkip) sSkip)
 (sSeq (sAug 2 (bIop .Add) (eTwo (bBin .Mult) (eVar 4) (eOp hSub (eFld (fun c => [2, 5].contains c) 4 (eVar 0)) (eVar 3))))
 sSkip)))
 (sSeq (sRet (eCall S_lowest (lCons (eVar 2) (lCons (eFld (fun c => [2].contains c) 5 (eVar 0)) lNil))))
 sSkip)))
theorem j_WorthList_worth_of {G : Gb} (Z : Zx tabs G) {X : Cx} (g : Gc G 1 N_WorthList_worth_of (defScope ((clsB (top 59)).getD 3 (.Pass ⟨0, 0, 0, 0⟩))) X) (b : Bd X) : JSs G.T X (defBody ((clsB (top 59)).getD 3 (.Pass ⟨0, 0, 0, 0⟩))) d_WorthList_worth_of :=
 (jss_cons (s_asg g (g_nam g b (by kernel_rfl)) je_int (by kernel_rfl) rfl rfl)
 (jss_cons (s_for g b (i_val g (w_meth0 g (l := [(0, S_Heap_pairs)]) (.cons 1 (by omega) (k_S_Heap_pairs Z) .nil) Z.nd (Z.nmAt 7 _ (by kernel_rfl)) (w_var g (by kernel_rfl)) rfl (by kernel_rfl))) (g_tup g (jgs_cons (g_nam g b (by kernel_rfl)) (jgs_cons (g_nam g b (by kernel_rfl)) jgs_nil rfl) rfl) rfl rfl) (jss_cons (js_if (wt_cmp g (w_sub g (w_fld g (cs := [2, 5]) Z.nd (Z.nmAt 4 _ (by kernel_rfl)) (Z.fd "_table" [2, 5] (by kernel_rfl)) (w_var g (by kernel_rfl)) rfl) (w_var g (by kernel_rfl)) rfl) je_non rfl) (jss_cons (js_ret je_non)
 jss_nil) jss_nil)
 (jss_cons (s_aug g b (w_bin g (w_var g (by kernel_rfl)) (w_sub g (w_fld g (cs := [2, 5]) Z.nd (Z.nmAt 4 _ (by kernel_rfl)) (Z.fd "_table" [2, 5] (by kernel_rfl)) (w_var g (by kernel_rfl)) rfl) (w_var g (by kernel_rfl)) rfl)) (by kernel_rfl))
 jss_nil)) rfl)
 (jss_cons (js_ret (w_call g (k_S_lowest Z) (by omega) (jl_cons (w_var g (by kernel_rfl)) (jl_cons (w_fld g (cs := [2]) Z.nd (Z.nmAt 5 _ (by kernel_rfl)) (Z.fd "modulus" [2] (by kernel_rfl)) (w_var g (by kernel_rfl)) rfl) jl_nil rfl) rfl) (by kernel_rfl) rfl))
 jss_nil)))
theorem fs_WorthList_worth_of : FnScope N_WorthList_worth_of ["self", "heap"] (defScope ((clsB (top 59)).getD 3 (.Pass ⟨0, 0, 0, 0⟩))) := ⟨(by kernel_rfl), (by kernel_rfl), (by kernel_rfl), by decide +kernel, (by kernel_rfl), by decide +kernel, by decide +kernel⟩
def S_WorthList_worth_of : Fs := ⟨[false, false], runF 5 [false, false] d_WorthList_worth_of⟩
theorem kc_S_WorthList_worth_of {G : Gb} (Z : Zx tabs G) : Kc G 2 (He.fAd G.T.K ("WorthList", some "worth_of")) S_WorthList_worth_of := by
  obtain ⟨fd, F⟩ := Z.fn 22 _ (by rfl)
  exact kc_plain (N := N_WorthList_worth_of) (den := d_WorthList_worth_of) (fl := [false, false]) F fs_WorthList_worth_of rfl (by decide) (fun _ _ _ _ _ _ us hl => match us, hl with | [_, _], _ => rfl) (fun X g b => j_WorthList_worth_of Z g b)
theorem k_S_WorthList_worth_of {G : Gb} (Z : Zx tabs G) : MtG G 2 "worth_of" 2 S_WorthList_worth_of := Z.mtG (by kernel_rfl) (by decide) (by kernel_rfl) (kc_S_WorthList_worth_of Z)
def N_WorthList_fault : List Str := ["self", "kind", "content"]
def d_WorthList_fault : SF :=
 (sSeq (sFor (iVal (eMeth (fun c => List.lookup c [(1, S_Book_kinds)]) 3 (eFld (fun c => [2, 3, 5].contains c) 6 (eVar 0)) lNil)) (gNam 1) (sSeq (sAsg (gNam 2) (eMeth (fun c => List.lookup c [(1, S_Book_content)]) 9 (eFld (fun c => [2, 3, 5].contains c) 6 (eVar 0)) (lCons (eVar 1) lNil)))
 (sSeq (sIf (tAndF (tBl (eOp (fun a b => .ov (bCmp .IsNot a b)) (eVar 2) (eCon .non))) (tBl (eOp (fun a b => .ov (bCmp .NotEq a b)) (eMeth (fun c => List.lookup c [(2, S_WorthList_worth_of)]) 8 (eVar 0) (lCons (eVar 2) lNil)) (eOp hSub (eFld (fun c => [2, 5].contains c) 4 (eVar 0)) (eVar 1))))) (sSeq (sRet (eVar 1))
 sSkip) sSkip)
 sSkip)))
 (sSeq (sRet (eCon .non))
 sSkip))
theorem j_WorthList_fault {G : Gb} (Z : Zx tabs G) {X : Cx} (g : Gc G 2 N_WorthList_fault (defScope ((clsB (top 59)).getD 4 (.Pass ⟨0, 0, 0, 0⟩))) X) (b : Bd X) : JSs G.T X (defBody ((clsB (top 59)).getD 4 (.Pass ⟨0, 0, 0, 0⟩))) d_WorthList_fault :=
 (jss_cons (s_for g b (i_val g (w_meth0 g (l := [(1, S_Book_kinds)]) (.cons 1 (by omega) (k_S_Book_kinds Z) .nil) Z.nd (Z.nmAt 3 _ (by kernel_rfl)) (w_fld g (cs := [2, 3, 5]) Z.nd (Z.nmAt 6 _ (by kernel_rfl)) (Z.fd "book" [2, 3, 5] (by kernel_rfl)) (w_var g (by kernel_rfl)) rfl) rfl (by kernel_rfl))) (jgl_of (g_nam g b (by kernel_rfl))) (jss_cons (s_asg g (g_nam g b (by kernel_rfl)) (w_meth g (l := [(1, S_Book_content)]) (.cons 2 (by omega) (k_S_Book_content Z) .nil) Z.nd (Z.nmAt 9 _ (by kernel_rfl)) (w_fld g (cs := [2, 3, 5]) Z.nd (Z.nmAt 6 _ (by kernel_rfl)) (Z.fd "book" [2, 3, 5] (by kernel_rfl)) (w_var g (by kernel_rfl)) rfl) (jl_cons (w_var g (by kernel_rfl)) jl_nil rfl) rfl rfl rfl (by kernel_rfl)) (by kernel_rfl) rfl rfl)
 (jss_cons (js_if (jt_w (jw_and (wt_cmp g (w_var g (by kernel_rfl)) je_non rfl) (jw_and1 (wt_cmp g (w_meth g (l := [(2, S_WorthList_worth_of)]) (.cons 2 (by omega) (k_S_WorthList_worth_of Z) .nil) Z.nd (Z.nmAt 8 _ (by kernel_rfl)) (w_var g (by kernel_rfl)) (jl_cons (w_var g (by kernel_rfl)) jl_nil rfl) rfl rfl rfl (by kernel_rfl)) (w_sub g (w_fld g (cs := [2, 5]) Z.nd (Z.nmAt 4 _ (by kernel_rfl)) (Z.fd "_table" [2, 5] (by kernel_rfl)) (w_var g (by kernel_rfl)) rfl) (w_var g (by kernel_rfl)) rfl) rfl)))) (jss_cons (js_ret (w_var g (by kernel_rfl)))
 jss_nil) jss_nil)
 jss_nil)) rfl)
 (jss_cons (js_ret je_non)
 jss_nil))
theorem fs_WorthList_fault : FnScope N_WorthList_fault ["self"] (defScope ((clsB (top 59)).getD 4 (.Pass ⟨0, 0, 0, 0⟩))) := ⟨(by kernel_rfl), (by kernel_rfl), (by kernel_rfl), by decide +kernel, (by kernel_rfl), by decide +kernel, by decide +kernel⟩
def S_WorthList_fault : Fs := ⟨[false], runF 3 [false] d_WorthList_fault⟩
theorem kc_S_WorthList_fault {G : Gb} (Z : Zx tabs G) : Kc G 3 (He.fAd G.T.K ("WorthList", some "fault")) S_WorthList_fault := by
  obtain ⟨fd, F⟩ := Z.fn 23 _ (by rfl)
  exact kc_plain (N := N_WorthList_fault) (den := d_WorthList_fault) (fl := [false]) F fs_WorthList_fault rfl (by decide) (fun _ _ _ _ _ _ us hl => match us, hl with | [_], _ => rfl) (fun X g b => j_WorthList_fault Z g b)
theorem k_S_WorthList_fault {G : Gb} (Z : Zx tabs G) : MtG G 3 "fault" 2 S_WorthList_fault := Z.mtG (by kernel_rfl) (by decide) (by kernel_rfl) (kc_S_WorthList_fault Z)
end Pu
namespace Pu
open PySem PySem.Spec PyProof.Rows L2
def N_WorthList_is_honest : List Str := ["self"]
def d_WorthList_is_honest : SF :=
 (sSeq (sRet (eOp (fun a b => .ov (bCmp .Is a b)) (eMeth (fun c => List.lookup c [(2, S_WorthList_fault)]) 10 (eVar 0) lNil) (eCon .non)))
 sSkip)
theorem j_WorthList_is_honest {G : Gb} (Z : Zx tabs G) {X : Cx} (g : Gc G 3 N_WorthList_is_honest (defScope ((clsB (top 59)).getD 5 (.Pass ⟨0, 0, 0, 0⟩))) X) (b : Bd X) : JSs G.T X (defBody ((clsB (top 59)).getD 5 (.Pass ⟨0, 0, 0, 0⟩))) d_WorthList_is_honest :=
 (jss_cons (js_ret (w_cmp g (w_meth0 g (l := [(2, S_WorthList_fault)]) (.cons 3 (by omega) (k_S_WorthList_fault Z) .nil) Z.nd (Z.nmAt 10 _ (by kernel_rfl)) (w_var g (by kernel_rfl)) rfl (by kernel_rfl)) je_non rfl))
 jss_nil)
theorem fs_WorthList_is_honest : FnScope N_WorthList_is_honest ["self"] (defScope ((clsB (top 59)).getD 5 (.Pass ⟨0, 0, 0, 0⟩))) := ⟨(by kernel_rfl), (by kernel_rfl), (by kernel_rfl), by decide +kernel, (by kernel_rfl), by decide +kernel, by decide +kernel⟩
def S_WorthList_is_honest : Fs := ⟨[false], runF 1 [false] d_WorthList_is_honest⟩
theorem kc_S_WorthList_is_honest {G : Gb} (Z : Zx tabs G) : Kc G 4 (He.fAd G.T.K ("WorthList", some "is_honest")) S_WorthList_is_honest := by
  obtain ⟨fd, F⟩ := Z.fn 24 _ (by rfl)
  exact kc_plain (N := N_WorthList_is_honest) (den := d_WorthList_is_honest) (fl := [false]) F fs_WorthList_is_honest rfl (by decide) (fun _ _ _ _ _ _ us hl => match us, hl with | [_], _ => rfl) (fun X g b => j_WorthList_is_honest Z g b)
theorem k_S_WorthList_is_honest {G : Gb} (Z : Zx tabs G) : MtG G 4 "is_honest" 2 S_WorthList_is_honest := Z.mtG (by kernel_rfl) (by decide) (by kernel_rfl) (kc_S_WorthList_is_honest Z)
def N_is_heap_of : List Str := ["book", "value"]
def d_is_heap_of : SF :=
 (sSeq (sRet (eAnd (eIsi [(.own 0)] (eVar 1)) (eOp (fun a b => .ov (bCmp .Is a b)) (eMeth (fun c => List.lookup c [(1, S_Book_unknown)]) 11 (eVar 0) (lCons (eVar 1) lNil)) (eCon .non))))
 sSkip)
theorem j_is_heap_of {G : Gb} (Z : Zx tabs G) {X : Cx} (g : Gc G 2 N_is_heap_of (defScope (top 62)) X) (b : Bd X) : JSs G.T X (defBody (top 62)) d_is_heap_of :=
 (jss_cons (js_ret (je_and (w_isi1 g (ct := (.own 0)) Z.isi (Z.fr "isinstance" (by kernel_rfl)) (c_own g (Z.clAt 0 (by kernel_rfl)) (Z.gl "Heap" (by kernel_rfl)) (by kernel_rfl)) (w_var g (by kernel_rfl)) (by simp [tabs]) (by kernel_rfl) rfl) (je_one (w_cmp g (w_meth g (l := [(1, S_Book_unknown)]) (.cons 2 (by omega) (k_S_Book_unknown Z) .nil) Z.nd (Z.nmAt 11 _ (by kernel_rfl)) (w_var g (by kernel_rfl)) (jl_cons (w_var g (by kernel_rfl)) jl_nil rfl) rfl rfl rfl (by kernel_rfl)) je_non rfl))))
 jss_nil)
theorem fs_is_heap_of : FnScope N_is_heap_of ["book", "value"] (defScope (top 62)) := ⟨(by kernel_rfl), (by kernel_rfl), (by kernel_rfl), by decide +kernel, (by kernel_rfl), by decide +kernel, by decide +kernel⟩
def S_is_heap_of : Fs := ⟨[false, false], runF 2 [false, false] d_is_heap_of⟩
theorem kc_S_is_heap_of {G : Gb} (Z : Zx tabs G) : Kc G 3 (He.fAd G.T.K ("is_heap_of", none)) S_is_heap_of := by
  obtain ⟨fd, F⟩ := Z.fn 25 _ (by rfl)
  exact kc_plain (N := N_is_heap_of) (den := d_is_heap_of) (fl := [false, false]) F fs_is_heap_of rfl (by decide) (fun _ _ _ _ _ _ us hl => match us, hl with | [_, _], _ => rfl) (fun X g b => j_is_heap_of Z g b)
theorem k_S_is_heap_of {G : Gb} (Z : Zx tabs G) : FnG G 3 "is_heap_of" S_is_heap_of := by
  obtain ⟨fd, F⟩ := Z.fn 25 _ (by rfl)
  exact Z.fnG (by kernel_rfl) F.kp (kc_S_is_heap_of Z)
def N_is_honest_list : List Str := ["book", "value"]
def d_is_honest_list : SF :=
 (sSeq (sRet (eAnd (eIsi [(.own 2)] (eVar 1)) (eAnd (eOp (hEqA false .Eq [(0, S_Heap___eq__), (1, S_Book___eq__)]) (eFld (fun c => [2, 3, 5].contains c) 6 (eVar 1)) (eVar 0)) (eMeth (fun c => List.lookup c [(2, S_WorthList_is_honest)]) 12 (eVar 1) lNil))))
 sSkip)
theorem j_is_honest_list {G : Gb} (Z : Zx tabs G) {X : Cx} (g : Gc G 5 N_is_honest_list (defScope (top 63)) X) (b : Bd X) : JSs G.T X (defBody (top 63)) d_is_honest_list :=
 (jss_cons (js_ret (je_and (w_isi1 g (ct := (.own 2)) Z.isi (Z.fr "isinstance" (by kernel_rfl)) (c_own g (Z.clAt 2 (by kernel_rfl)) (Z.gl "WorthList" (by kernel_rfl)) (by kernel_rfl)) (w_var g (by kernel_rfl)) (by simp [tabs]) (by kernel_rfl) rfl) (je_and (x_eq g Z 4 (by omega) (.cons 2 (by omega) (k_S_Heap___eq__ Z) rfl (by kernel_rfl) (.cons 4 (by omega) (k_S_Book___eq__ Z) rfl (by kernel_rfl) .nil)) (w_fld g (cs := [2, 3, 5]) Z.nd (Z.nmAt 6 _ (by kernel_rfl)) (Z.fd "book" [2, 3, 5] (by kernel_rfl)) (w_var g (by kernel_rfl)) rfl) (w_var g (by kernel_rfl)) rfl) (je_one (w_meth0 g (l := [(2, S_WorthList_is_honest)]) (.cons 4 (by omega) (k_S_WorthList_is_honest Z) .nil) Z.nd (Z.nmAt 12 _ (by kernel_rfl)) (w_var g (by kernel_rfl)) rfl (by kernel_rfl))))))
 jss_nil)
theorem fs_is_honest_list : FnScope N_is_honest_list ["book", "value"] (defScope (top 63)) := ⟨(by kernel_rfl), (by kernel_rfl), (by kernel_rfl), by decide +kernel, (by kernel_rfl), by decide +kernel, by decide +kernel⟩
def S_is_honest_list : Fs := ⟨[false, false], runF 2 [false, false] d_is_honest_list⟩
theorem kc_S_is_honest_list {G : Gb} (Z : Zx tabs G) : Kc G 6 (He.fAd G.T.K ("is_honest_list", none)) S_is_honest_list := by
  obtain ⟨fd, F⟩ := Z.fn 26 _ (by rfl)
  exact kc_plain (N := N_is_honest_list) (den := d_is_honest_list) (fl := [false, false]) F fs_is_honest_list rfl (by decide) (fun _ _ _ _ _ _ us hl => match us, hl with | [_, _], _ => rfl) (fun X g b => j_is_honest_list Z g b)
theorem k_S_is_honest_list {G : Gb} (Z : Zx tabs G) : FnG G 6 "is_honest_list" S_is_honest_list := by
  obtain ⟨fd, F⟩ := Z.fn 26 _ (by rfl)
  exact Z.fnG (by kernel_rfl) F.kp (kc_S_is_honest_list Z)
def N_is_deed : List Str := ["book", "rooms", "deed", "word", "last"]
def d_is_deed : SF :=
 (sSeq (sIf (tOrF (tNotF (tVal (eIsi [(.bt 5)] (eVar 2)))) (tOrF (tBl (eOp (fun a b => .ov (bCmp .Lt a b)) (eB (bLen) (lCons (eVar 2) lNil)) (eCon (.int 2)))) (tOrF (tNotF (tVal (eIsi [(.bt 0)] (eOp (hSubA [(0, S_Heap___getitem__)] tabs.kds) (eVar 2) (eCon (.int 0)))))) (tBl (eOp (hInA true .NotIn [(0, S_Heap___contains__), (1, S_Book___contains__)] tabs.kds) (eOp (hSubA [(0, S_Heap___getitem__)] tabs.kds) (eVar 2) (eCon (.int 0))) (eCon (.glo "SIZES"))))))) (sSeq (sRet (eCon (.bl false)))
 sSkip) sSkip)
 (sSeq (sIf (tOrF (tBl (eOp (fun a b => .ov (bCmp .NotEq a b)) (eB (bLen) (lCons (eVar 2) lNil)) (eOp (hSubA [(0, S_Heap___getitem__)] tabs.kds) (eCon (.glo "SIZES")) (eOp (hSubA [(0, S_Heap___getitem__)] tabs.kds) (eVar 2) (eCon (.int 0)))))) (tOrF (tNotF (tVal (eIsi [(.bt 0)] (eOp (hSubA [(0, S_Heap___getitem__)] tabs.kds) (eVar 2) (eCon (.int 1)))))) (tBl (eOp (hInA true .NotIn [(0, S_Heap___contains__), (1, S_Book___contains__)] tabs.kds) (eOp (hSubA [(0, S_Heap___getitem__)] tabs.kds) (eVar 2) (eCon (.int 1))) (eVar 1))))) (sSeq (sRet (eCon (.bl false)))
 sSkip) sSkip)
 (sSeq (sIf (tBl (eOp (fun a b => .ov (bCmp .Eq a b)) (eOp (hSubA [(0, S_Heap___getitem__)] tabs.kds) (eVar 2) (eCon (.int 0))) (eCon (.str "settle")))) (sSeq (sRet (eCon (.bl true)))
 sSkip) sSkip)
 (sSeq (sPar [(gNam 3), (gNam 4)] (lCons (eOp (hSubA [(0, S_Heap___getitem__)] tabs.kds) (eVar 2) (eCon (.int 0))) (lCons (eOp (hSubA [(0, S_Heap___getitem__)] tabs.kds) (eVar 2) (eCon (.int 2))) lNil)))
 (sSeq (sIf (tBl (eOp (hInA false .In [(0, S_Heap___contains__), (1, S_Book___contains__)] tabs.kds) (eVar 3) (eTup (lCons (eCon (.str "pour")) (lCons (eCon (.str "copy")) (lCons (eCon (.str "swap")) lNil)))))) (sSeq (sRet (eAnd (eIsi [(.bt 0)] (eVar 4)) (eAnd (eOp (hInA false .In [(0, S_Heap___contains__), (1, S_Book___contains__)] tabs.kds) (eVar 4) (eVar 1)) (eOr (eOp (fun a b => .ov (bCmp .Eq a b)) (eVar 3) (eCon (.str "swap"))) (eOp (fun a b => .ov (bCmp .NotEq a b)) (eVar 4) (eOp (hSubA [(0, S_Heap___getitem__)] tabs.kds) (eVar 2) (eCon (.int 1))))))))
 sSkip) sSkip)
 (sSeq (sIf (tBl (eOp (fun a b => .ov (bCmp .Eq a b)) (eVar 3) (eCon (.str "times")))) (sSeq (sRet (eAnd (eCall S_is_number (lCons (eVar 4) (lCons (eCon (.int 0)) lNil))) (eOp (fun a b => .ov (bCmp .LtE a b)) (eVar 4) (eCon (.int 1000000)))))
 sSkip) sSkip)
 (sSeq (sIf (tBl (eOp (fun a b => .ov (bCmp .Eq a b)) (eVar 3) (eCon (.str "put")))) (sSeq (sRet (eCall S_is_heap_of (lCons (eVar 0) (lCons (eVar 4) lNil))))
 sSkip) sSkip)
 (sSeq (sIf (tBl (eOp (fun a b => .ov (bCmp .Eq a b)) (eVar 3) (eCon (.str "open")))) (sSeq (sRet eBad)
 sSkip) sSkip)
 (sSeq (sRet (eAnd (eIsi [(.own 5)] (eVar 4)) (eAnd (eOp (fun a b => .ov (bCmp .Eq a b)) (eFld (fun c => [2, 3, 5].contains c) 6 (eVar 4)) (eVar 0)) (eOp (fun a b => .ov (bCmp .Eq a b)) (eFld (fun c => [4, 5].contains c) 13 (eVar 4)) (eVar 0)))))
 sSkip)))))))))
theorem j_is_deed {G : Gb} (Z : Zx tabs G) {X : Cx} (g : Gc G 3 N_is_deed (defScope (top 77)) X) (b : Bd X) : JSs G.T X (defBody (top 77)) d_is_deed :=
 (jss_cons (js_if (jt_w (jw_or (jt_not (jt_val g.K (w_isi1 g (ct := (.bt 5)) Z.isi (Z.fr "isinstance" (by kernel_rfl)) (c_bt g (Z.fr "tuple" (by kernel_rfl)) (by kernel_rfl) rfl (by decide)) (w_var g (by kernel_rfl)) (by simp [tabs]) (by kernel_rfl) rfl) (fun _ => rfl))) (jw_or (wt_cmp g (w_len g (Z.fr "len" (by kernel_rfl)) (jl_cons (w_var g (by kernel_rfl)) jl_nil rfl) (by kernel_rfl) rfl) je_int rfl) (jw_or (jt_not (jt_val g.K (w_isi1 g (ct := (.bt 0)) Z.isi (Z.fr "isinstance" (by kernel_rfl)) (c_bt g (Z.fr "str" (by kernel_rfl)) (by kernel_rfl) rfl (by decide)) (x_sub' g Z 2 (by omega) (.cons 2 (by omega) (k_S_Heap___getitem__ Z) rfl (by kernel_rfl) .nil) (w_var g (by kernel_rfl)) je_int rfl) (by simp [tabs]) (by kernel_rfl) rfl) (fun _ => rfl))) (jw_or1 (xt_nin g Z (.cons 1 (by omega) (k_S_Heap___contains__ Z) rfl (by kernel_rfl) (.cons 1 (by omega) (k_S_Book___contains__ Z) rfl (by kernel_rfl) .nil)) (x_sub' g Z 2 (by omega) (.cons 2 (by omega) (k_S_Heap___getitem__ Z) rfl (by kernel_rfl) .nil) (w_var g (by kernel_rfl)) je_int rfl) (w_gref g (Z.gl "SIZES" (by kernel_rfl)) (by kernel_rfl)) rfl)))))) (jss_cons (js_ret je_bl)
 jss_nil) jss_nil)
 (jss_cons (js_if (jt_w (jw_or (wt_cmp g (w_len g (Z.fr "len" (by kernel_rfl)) (jl_cons (w_var g (by kernel_rfl)) jl_nil rfl) (by kernel_rfl) rfl) (x_sub' g Z 2 (by omega) (.cons 2 (by omega) (k_S_Heap___getitem__ Z) rfl (by kernel_rfl) .nil) (w_gref g (Z.gl "SIZES" (by kernel_rfl)) (by kernel_rfl)) (x_sub' g Z 2 (by omega) (.cons 2 (by omega) (k_S_Heap___getitem__ Z) rfl (by kernel_rfl) .nil) (w_var g (by kernel_rfl)) je_int rfl) rfl) rfl) (jw_or (jt_not (jt_val g.K (w_isi1 g (ct := (.bt 0)) Z.isi (Z.fr "isinstance" (by kernel_rfl)) (c_bt g (Z.fr "str" (by kernel_rfl)) (by kernel_rfl) rfl (by decide)) (x_sub' g Z 2 (by omega) (.cons 2 (by omega) (k_S_Heap___getitem__ Z) rfl (by kernel_rfl) .nil) (w_var g (by kernel_rfl)) je_int rfl) (by simp [tabs]) (by kernel_rfl) rfl) (fun _ => rfl))) (jw_or1 (xt_nin g Z (.cons 1 (by omega) (k_S_Heap___contains__ Z) rfl (by kernel_rfl) (.cons 1 (by omega) (k_S_Book___contains__ Z) rfl (by kernel_rfl) .nil)) (x_sub' g Z 2 (by omega) (.cons 2 (by omega) (k_S_Heap___getitem__ Z) rfl (by kernel_rfl) .nil) (w_var g (by kernel_rfl)) je_int rfl) (w_var g (by kernel_rfl)) rfl))))) (jss_cons (js_ret je_bl)
 jss_nil) jss_nil)
 (jss_cons (js_if (wt_cmp g (x_sub' g Z 2 (by omega) (.cons 2 (by omega) (k_S_Heap___getitem__ Z) rfl (by kernel_rfl) .nil) (w_var g (by kernel_rfl)) je_int rfl) je_str rfl) (jss_cons (js_ret je_bl)
 jss_nil) jss_nil)
 (jss_cons (s_swap2 g (jl_cons (x_sub' g Z 2 (by omega) (.cons 2 (by omega) (k_S_Heap___getitem__ Z) rfl (by kernel_rfl) .nil) (w_var g (by kernel_rfl)) je_int rfl) (jl_cons (x_sub' g Z 2 (by omega) (.cons 2 (by omega) (k_S_Heap___getitem__ Z) rfl (by kernel_rfl) .nil) (w_var g (by kernel_rfl)) je_int rfl) jl_nil rfl) rfl) (by kernel_rfl) (by kernel_rfl) (by kernel_rfl) (by kernel_rfl) (by kernel_rfl))
 (jss_cons (js_if (xt_in g Z (.cons 1 (by omega) (k_S_Heap___contains__ Z) rfl (by kernel_rfl) (.cons 1 (by omega) (k_S_Book___contains__ Z) rfl (by kernel_rfl) .nil)) (w_var g (by kernel_rfl)) (je_tup (jl_cons je_str (jl_cons je_str (jl_cons je_str jl_nil rfl) rfl) rfl)) rfl) (jss_cons (js_ret (je_and (w_isi1 g (ct := (.bt 0)) Z.isi (Z.fr "isinstance" (by kernel_rfl)) (c_bt g (Z.fr "str" (by kernel_rfl)) (by kernel_rfl) rfl (by decide)) (w_var g (by kernel_rfl)) (by simp [tabs]) (by kernel_rfl) rfl) (je_and (x_in g Z (.cons 1 (by omega) (k_S_Heap___contains__ Z) rfl (by kernel_rfl) (.cons 1 (by omega) (k_S_Book___contains__ Z) rfl (by kernel_rfl) .nil)) (w_var g (by kernel_rfl)) (w_var g (by kernel_rfl)) rfl) (je_one (je_or (w_cmp g (w_var g (by kernel_rfl)) je_str rfl) (je_one (w_cmp g (w_var g (by kernel_rfl)) (x_sub' g Z 2 (by omega) (.cons 2 (by omega) (k_S_Heap___getitem__ Z) rfl (by kernel_rfl) .nil) (w_var g (by kernel_rfl)) je_int rfl) rfl)))))))
 jss_nil) jss_nil)
 (jss_cons (js_if (wt_cmp g (w_var g (by kernel_rfl)) je_str rfl) (jss_cons (js_ret (je_and (w_call g (k_S_is_number Z) (by omega) (jl_cons (w_var g (by kernel_rfl)) (jl_cons je_int jl_nil rfl) rfl) (by kernel_rfl) rfl) (je_one (w_cmp g (w_var g (by kernel_rfl)) (w_gint g (Z.gi "MOST_TIMES" _ (by kernel_rfl)) (by kernel_rfl)) rfl))))
 jss_nil) jss_nil)
 (jss_cons (js_if (wt_cmp g (w_var g (by kernel_rfl)) je_str rfl) (jss_cons (js_ret (w_call g (k_S_is_heap_of Z) (by omega) (jl_cons (w_var g (by kernel_rfl)) (jl_cons (w_var g (by kernel_rfl)) jl_nil rfl) rfl) (by kernel_rfl) rfl))
 jss_nil) jss_nil)
 (jss_cons (js_if (wt_cmp g (w_var g (by kernel_rfl)) je_str rfl) (jss_cons (js_ret je_bad)
 jss_nil) jss_nil)
 (jss_cons (js_ret (je_and (w_isi1 g (ct := (.own 5)) Z.isi (Z.fr "isinstance" (by kernel_rfl)) (c_own g (Z.clAt 5 (by kernel_rfl)) (Z.gl "Translation" (by kernel_rfl)) (by kernel_rfl)) (w_var g (by kernel_rfl)) (by simp [tabs]) (by kernel_rfl) rfl) (je_and (w_cmp g (w_fld g (cs := [2, 3, 5]) Z.nd (Z.nmAt 6 _ (by kernel_rfl)) (Z.fd "book" [2, 3, 5] (by kernel_rfl)) (w_var g (by kernel_rfl)) rfl) (w_var g (by kernel_rfl)) rfl) (je_one (w_cmp g (w_fld g (cs := [4, 5]) Z.nd (Z.nmAt 13 _ (by kernel_rfl)) (Z.fd "other" [4, 5] (by kernel_rfl)) (w_var g (by kernel_rfl)) rfl) (w_var g (by kernel_rfl)) rfl)))))
 jss_nil)))))))))
theorem fs_is_deed : FnScope N_is_deed ["book", "rooms", "deed"] (defScope (top 77)) := ⟨(by kernel_rfl), (by kernel_rfl), (by kernel_rfl), by decide +kernel, (by kernel_rfl), by decide +kernel, by decide +kernel⟩
def S_is_deed : Fs := ⟨[false, false, false], runF 5 [false, false, false] d_is_deed⟩
theorem kc_S_is_deed {G : Gb} (Z : Zx tabs G) : Kc G 4 (He.fAd G.T.K ("is_deed", none)) S_is_deed := by
  obtain ⟨fd, F⟩ := Z.fn 27 _ (by rfl)
  exact kc_plain (N := N_is_deed) (den := d_is_deed) (fl := [false, false, false]) F fs_is_deed rfl (by decide) (fun _ _ _ _ _ _ us hl => match us, hl with | [_, _, _], _ => rfl) (fun X g b => j_is_deed Z g b)
theorem k_S_is_deed {G : Gb} (Z : Zx tabs G) : FnG G 4 "is_deed" S_is_deed := by
  obtain ⟨fd, F⟩ := Z.fn 27 _ (by rfl)
  exact Z.fnG (by kernel_rfl) F.kp (kc_S_is_deed Z)
def N_done_alone : List Str := ["book", "heap", "deed"]
def d_done_alone : SF :=
 (sSeq (sIf (tBl (eOp (fun a b => .ov (bCmp .Eq a b)) (eOp hSub (eVar 2) (eCon (.int 0))) (eCon (.str "put")))) (sSeq (sRet (eOp (hAdd [(0, S_Heap___add__)]) (eVar 1) (eOp hSub (eVar 2) (eCon (.int 2)))))
 sSkip) sSkip)
 (sSeq (sIf (tBl (eOp (fun a b => .ov (bCmp .Eq a b)) (eOp hSub (eVar 2) (eCon (.int 0))) (eCon (.str "times")))) (sSeq (sRet (eOp (hMul [(0, S_Heap___mul__)] [(0, S_Heap___rmul__)]) (eOp hSub (eVar 2) (eCon (.int 2))) (eVar 1)))
 sSkip) sSkip)
 (sSeq (sIf (tBl (eOp (fun a b => .ov (bCmp .Eq a b)) (eOp hSub (eVar 2) (eCon (.int 0))) (eCon (.str "lead")))) (sSeq (sRet eBad)
 sSkip) sSkip)
 (sSeq (sRet (eIf (tBl (eOp (fun a b => .ov (bCmp .Eq a b)) (eOp hSub (eVar 2) (eCon (.int 0))) (eCon (.str "open")))) eBad (eOp hSub eBad (eCon (.int 0)))))
 sSkip))))
theorem j_done_alone {G : Gb} (Z : Zx tabs G) {X : Cx} (g : Gc G 6 N_done_alone (defScope (top 78)) X) (b : Bd X) : JSs G.T X (defBody (top 78)) d_done_alone :=
 (jss_cons (js_if (wt_cmp g (w_sub g (w_var g (by kernel_rfl)) je_int rfl) je_str rfl) (jss_cons (js_ret (x_add g Z (.cons 5 (by omega) (k_S_Heap___add__ Z) rfl (by kernel_rfl) .nil) (w_var g (by kernel_rfl)) (w_sub g (w_var g (by kernel_rfl)) je_int rfl) (by kernel_rfl)))
 jss_nil) jss_nil)
 (jss_cons (js_if (wt_cmp g (w_sub g (w_var g (by kernel_rfl)) je_int rfl) je_str rfl) (jss_cons (js_ret (x_mul g Z (.cons 5 (by omega) (k_S_Heap___mul__ Z) rfl (by kernel_rfl) .nil) (.cons 6 (by omega) (k_S_Heap___rmul__ Z) rfl (by kernel_rfl) .nil) (w_sub g (w_var g (by kernel_rfl)) je_int rfl) (w_var g (by kernel_rfl)) (by kernel_rfl) (by kernel_rfl) (by kernel_rfl) (by kernel_rfl)))
 jss_nil) jss_nil)
 (jss_cons (js_if (wt_cmp g (w_sub g (w_var g (by kernel_rfl)) je_int rfl) je_str rfl) (jss_cons (js_ret je_bad)
 jss_nil) jss_nil)
 (jss_cons (js_ret (je_if (wt_cmp g (w_sub g (w_var g (by kernel_rfl)) je_int rfl) je_str rfl) je_bad (w_sub g je_bad je_int rfl)))
 jss_nil))))
theorem fs_done_alone : FnScope N_done_alone ["book", "heap", "deed"] (defScope (top 78)) := ⟨(by kernel_rfl), (by kernel_rfl), (by kernel_rfl), by decide +kernel, (by kernel_rfl), by decide +kernel, by decide +kernel⟩
def S_done_alone : Fs := ⟨[false, false, false], runF 3 [false, false, false] d_done_alone⟩
theorem kc_S_done_alone {G : Gb} (Z : Zx tabs G) : Kc G 7 (He.fAd G.T.K ("done_alone", none)) S_done_alone := by
  obtain ⟨fd, F⟩ := Z.fn 28 _ (by rfl)
  exact kc_plain (N := N_done_alone) (den := d_done_alone) (fl := [false, false, false]) F fs_done_alone rfl (by decide) (fun _ _ _ _ _ _ us hl => match us, hl with | [_, _, _], _ => rfl) (fun X g b => j_done_alone Z g b)
theorem k_S_done_alone {G : Gb} (Z : Zx tabs G) : FnG G 7 "done_alone" S_done_alone := by
  obtain ⟨fd, F⟩ := Z.fn 28 _ (by rfl)
  exact Z.fnG (by kernel_rfl) F.kp (kc_S_done_alone Z)
def N_done : List Str := ["book", "heaps", "deed", "late", "one", "other"]
def d_done : SF :=
 (sSeq (sAsg (gNam 3) (eB (bDict) (lCons (eVar 1) lNil)))
 (sSeq (sIf (tBl (eOp (fun a b => .ov (bCmp .NotIn a b)) (eOp hSub (eVar 2) (eCon (.int 0))) (eTup (lCons (eCon (.str "pour")) (lCons (eCon (.str "copy")) (lCons (eCon (.str "swap")) lNil)))))) (sSeq (sAsg (gSubs (eVar 3) (eOp hSub (eVar 2) (eCon (.int 1)))) (eCall S_done_alone (lCons (eVar 0) (lCons (eOp hSub (eVar 1) (eOp hSub (eVar 2) (eCon (.int 1)))) (lCons (eVar 2) lNil)))))
 (sSeq (sRet (eVar 3))
 sSkip)) sSkip)
 (sSeq (sPar [(gNam 4), (gNam 5)] (lCons (eOp hSub (eVar 1) (eOp hSub (eVar 2) (eCon (.int 1)))) (lCons (eOp hSub (eVar 1) (eOp hSub (eVar 2) (eCon (.int 2)))) lNil)))
 (sSeq (sIf (tBl (eOp (fun a b => .ov (bCmp .Eq a b)) (eOp hSub (eVar 2) (eCon (.int 0))) (eCon (.str "swap")))) (sSeq (sPar [(gSubs (eVar 3) (eOp hSub (eVar 2) (eCon (.int 1)))), (gSubs (eVar 3) (eOp hSub (eVar 2) (eCon (.int 2))))] (lCons (eVar 5) (lCons (eVar 4) lNil)))
 (sSeq (sRet (eVar 3))
 sSkip)) sSkip)
 (sSeq (sAsg (gSubs (eVar 3) (eOp hSub (eVar 2) (eCon (.int 2)))) (eTwo (bBin .Add) (eVar 5) (eVar 4)))
 (sSeq (sIf (tBl (eOp (fun a b => .ov (bCmp .Eq a b)) (eOp hSub (eVar 2) (eCon (.int 0))) (eCon (.str "pour")))) (sSeq (sAsg (gSubs (eVar 3) (eOp hSub (eVar 2) (eCon (.int 1)))) (eMake 0 (List.tail S_Heap___init___1.fl) S_Heap___init___1.F lNil))
 sSkip) sSkip)
 (sSeq (sRet (eVar 3))
 sSkip)))))))
theorem j_done {G : Gb} (Z : Zx tabs G) {X : Cx} (g : Gc G 7 N_done (defScope (top 79)) X) (b : Bd X) : JSs G.T X (defBody (top 79)) d_done :=
 (jss_cons (s_asg g (g_nam g b (by kernel_rfl)) (w_dict g (Z.fr "dict" (by kernel_rfl)) (jl_cons (w_var g (by kernel_rfl)) jl_nil rfl) (by kernel_rfl) rfl) (by kernel_rfl) rfl rfl)
 (jss_cons (js_if (wt_cmp g (w_sub g (w_var g (by kernel_rfl)) je_int rfl) (je_tup (jl_cons je_str (jl_cons je_str (jl_cons je_str jl_nil rfl) rfl) rfl)) rfl) (jss_cons (s_asg g (g_sub g (w_var g (by kernel_rfl)) (w_sub g (w_var g (by kernel_rfl)) je_int rfl) rfl) (w_call g (k_S_done_alone Z) (by omega) (jl_cons (w_var g (by kernel_rfl)) (jl_cons (w_sub g (w_var g (by kernel_rfl)) (w_sub g (w_var g (by kernel_rfl)) je_int rfl) rfl) (jl_cons (w_var g (by kernel_rfl)) jl_nil rfl) rfl) rfl) (by kernel_rfl) rfl) (by kernel_rfl) rfl rfl)
 (jss_cons (js_ret (w_var g (by kernel_rfl)))
 jss_nil)) jss_nil)
 (jss_cons (s_swap2 g (jl_cons (w_sub g (w_var g (by kernel_rfl)) (w_sub g (w_var g (by kernel_rfl)) je_int rfl) rfl) (jl_cons (w_sub g (w_var g (by kernel_rfl)) (w_sub g (w_var g (by kernel_rfl)) je_int rfl) rfl) jl_nil rfl) rfl) (by kernel_rfl) (by kernel_rfl) (by kernel_rfl) (by kernel_rfl) (by kernel_rfl))
 (jss_cons (js_if (wt_cmp g (w_sub g (w_var g (by kernel_rfl)) je_int rfl) je_str rfl) (jss_cons (s_par g (jgs_cons (g_sub g (w_var g (by kernel_rfl)) (w_sub g (w_var g (by kernel_rfl)) je_int rfl) rfl) (jgs_cons (g_sub g (w_var g (by kernel_rfl)) (w_sub g (w_var g (by kernel_rfl)) je_int rfl) rfl) jgs_nil rfl) rfl) (jl_cons (w_var g (by kernel_rfl)) (jl_cons (w_var g (by kernel_rfl)) jl_nil rfl) rfl) (by kernel_rfl) rfl rfl rfl)
 (jss_cons (js_ret (w_var g (by kernel_rfl)))
 jss_nil)) jss_nil)
 (jss_cons (s_asg g (g_sub g (w_var g (by kernel_rfl)) (w_sub g (w_var g (by kernel_rfl)) je_int rfl) rfl) (w_bin g (w_var g (by kernel_rfl)) (w_var g (by kernel_rfl))) (by kernel_rfl) rfl rfl)
 (jss_cons (js_if (wt_cmp g (w_sub g (w_var g (by kernel_rfl)) je_int rfl) je_str rfl) (jss_cons (s_asg g (g_sub g (w_var g (by kernel_rfl)) (w_sub g (w_var g (by kernel_rfl)) je_int rfl) rfl) (w_make0 g (k_S_Heap___init___1 Z) (by omega) (by kernel_rfl)) (by kernel_rfl) rfl rfl)
 jss_nil) jss_nil)
 (jss_cons (js_ret (w_var g (by kernel_rfl)))
 jss_nil)))))))
theorem fs_done : FnScope N_done ["book", "heaps", "deed"] (defScope (top 79)) := ⟨(by kernel_rfl), (by kernel_rfl), (by kernel_rfl), by decide +kernel, (by kernel_rfl), by decide +kernel, by decide +kernel⟩
def S_done : Fs := ⟨[false, false, false], runF 6 [false, false, false] d_done⟩
theorem kc_S_done {G : Gb} (Z : Zx tabs G) : Kc G 8 (He.fAd G.T.K ("done", none)) S_done := by
  obtain ⟨fd, F⟩ := Z.fn 29 _ (by rfl)
  exact kc_plain (N := N_done) (den := d_done) (fl := [false, false, false]) F fs_done rfl (by decide) (fun _ _ _ _ _ _ us hl => match us, hl with | [_, _, _], _ => rfl) (fun X g b => j_done Z g b)
theorem k_S_done {G : Gb} (Z : Zx tabs G) : FnG G 8 "done" S_done := by
  obtain ⟨fd, F⟩ := Z.fn 29 _ (by rfl)
  exact Z.fnG (by kernel_rfl) F.kp (kc_S_done Z)
def N_Script___init__ : List Str := ["self", "book", "rooms", "deeds", "room", "at", "deed"]
def d_Script___init__ : SF :=
 (sSeq (sFor (iVal (eVar 2)) (gNam 4) (sSeq (sIf (tNotF (tVal (eCall S_is_name (lCons (eVar 4) lNil)))) (sSeq sBad
 sSkip) sSkip)
 sSkip))
 (sSeq (sFor (iEnu2 (eVar 2)) (gTupD [(gNam 5), (gNam 4)]) (sSeq (sIf (tBl (eOp (fun a b => .ov (bCmp .In a b)) (eVar 4) (eSl (eB (bList) (lCons (eVar 2) lNil)) oNo (oYes (eVar 5))))) (sSeq sBad
 sSkip) sSkip)
 sSkip))
 (sSeq (sIf (tNotF (tBl (eChn (bCmp .LtE) (bCmp .LtE) (eCon (.int 1)) (eB (bLen) (lCons (eVar 2) lNil)) (eCon (.int 4))))) (sSeq sBad
 sSkip) sSkip)
 (sSeq (sIf (tBl (eOp (fun a b => .ov (bCmp .Gt a b)) (eB (bLen) (lCons (eVar 3) lNil)) (eCon (.int 12)))) (sSeq sBad
 sSkip) sSkip)
 (sSeq (sFor (iEnu2 (eVar 3)) (gTupD [(gNam 5), (gNam 6)]) (sSeq (sIf (tNotF (tVal (eCall S_is_deed (lCons (eVar 1) (lCons (eVar 2) (lCons (eVar 6) lNil)))))) (sSeq sBad
 sSkip) sSkip)
 sSkip))
 (sSeq (sFldD (fun c => [2, 3, 5].contains c) 6 (eVar 1) (eVar 0))
 (sSeq (sFldD (fun c => [3].contains c) 15 (eB (bList) (lCons (eVar 2) lNil)) (eVar 0))
 (sSeq (sFldD (fun c => [3].contains c) 14 (eB (bList) (lCons (eVar 3) lNil)) (eVar 0))
 sSkip))))))))
theorem j_Script___init__ {G : Gb} (Z : Zx tabs G) {X : Cx} (g : Gc G 4 N_Script___init__ (defScope ((clsB (top 80)).getD 1 (.Pass ⟨0, 0, 0, 0⟩))) X) (b : Bd X) : JSs G.T X (defBody ((clsB (top 80)).getD 1 (.Pass ⟨0, 0, 0, 0⟩))) d_Script___init__ :=
 (jss_cons (s_for g b (i_val g (w_var g (by kernel_rfl))) (jgl_of (g_nam g b (by kernel_rfl))) (jss_cons (js_if (jt_not (jt_val g.K (w_call g (k_S_is_name Z) (by omega) (jl_cons (w_var g (by kernel_rfl)) jl_nil rfl) (by kernel_rfl) rfl) (fun _ => rfl))) (jss_cons js_bad
 jss_nil) jss_nil)
 jss_nil) rfl)
 (jss_cons (s_for g b (x_enum g (Z.fr "enumerate" (by kernel_rfl)) (w_var g (by kernel_rfl)) (by kernel_rfl) rfl) (g_tup g (jgs_cons (g_nam g b (by kernel_rfl)) (jgs_cons (g_nam g b (by kernel_rfl)) jgs_nil rfl) rfl) rfl rfl) (jss_cons (js_if (wt_cmp g (w_var g (by kernel_rfl)) (w_sl g (w_list g (Z.fr "list" (by kernel_rfl)) (jl_cons (w_var g (by kernel_rfl)) jl_nil rfl) (by kernel_rfl) rfl) jo_no (jo_yes (w_var g (by kernel_rfl)))) rfl) (jss_cons js_bad
 jss_nil) jss_nil)
 jss_nil) rfl)
 (jss_cons (js_if (jt_not (wt_chn g je_int (w_len g (Z.fr "len" (by kernel_rfl)) (jl_cons (w_var g (by kernel_rfl)) jl_nil rfl) (by kernel_rfl) rfl) (w_gint g (Z.gi "MOST_ROOMS" _ (by kernel_rfl)) (by kernel_rfl)) rfl)) (jss_cons js_bad
 jss_nil) jss_nil)
 (jss_cons (js_if (wt_cmp g (w_len g (Z.fr "len" (by kernel_rfl)) (jl_cons (w_var g (by kernel_rfl)) jl_nil rfl) (by kernel_rfl) rfl) (w_gint g (Z.gi "MOST_DEEDS" _ (by kernel_rfl)) (by kernel_rfl)) rfl) (jss_cons js_bad
 jss_nil) jss_nil)
 (jss_cons (s_for g b (x_enum g (Z.fr "enumerate" (by kernel_rfl)) (w_var g (by kernel_rfl)) (by kernel_rfl) rfl) (g_tup g (jgs_cons (g_nam g b (by kernel_rfl)) (jgs_cons (g_nam g b (by kernel_rfl)) jgs_nil rfl) rfl) rfl rfl) (jss_cons (js_if (jt_not (jt_val g.K (w_call g (k_S_is_deed Z) (by omega) (jl_cons (w_var g (by kernel_rfl)) (jl_cons (w_var g (by kernel_rfl)) (jl_cons (w_var g (by kernel_rfl)) jl_nil rfl) rfl) rfl) (by kernel_rfl) rfl) (fun _ => rfl))) (jss_cons js_bad
 jss_nil) jss_nil)
 jss_nil) rfl)
 (jss_cons (s_fld g (cs := [2, 3, 5]) Z.nd (Z.nmAt 6 _ (by kernel_rfl)) (Z.fd "book" [2, 3, 5] (by kernel_rfl)) (w_var g (by kernel_rfl)) (w_var g (by kernel_rfl)))
 (jss_cons (s_fld g (cs := [3]) Z.nd (Z.nmAt 15 _ (by kernel_rfl)) (Z.fd "_rooms" [3] (by kernel_rfl)) (w_list g (Z.fr "list" (by kernel_rfl)) (jl_cons (w_var g (by kernel_rfl)) jl_nil rfl) (by kernel_rfl) rfl) (w_var g (by kernel_rfl)))
 (jss_cons (s_fld g (cs := [3]) Z.nd (Z.nmAt 14 _ (by kernel_rfl)) (Z.fd "_deeds" [3] (by kernel_rfl)) (w_list g (Z.fr "list" (by kernel_rfl)) (jl_cons (w_var g (by kernel_rfl)) jl_nil rfl) (by kernel_rfl) rfl) (w_var g (by kernel_rfl)))
 jss_nil))))))))
theorem fs_Script___init__ : FnScope N_Script___init__ ["self", "book", "rooms", "deeds"] (defScope ((clsB (top 80)).getD 1 (.Pass ⟨0, 0, 0, 0⟩))) := ⟨(by kernel_rfl), (by kernel_rfl), (by kernel_rfl), by decide +kernel, (by kernel_rfl), by decide +kernel, by decide +kernel⟩
def S_Script___init___s0 : Fs := ⟨[true, false, false] ++ List.replicate 0 false, starF 3 (runF 7 ([true, false, false] ++ [false]) d_Script___init__)⟩
theorem kc_S_Script___init___s0 {G : Gb} (Z : Zx tabs G) : Kc G 5 (He.fAd G.T.K ("Script", some "__init__")) S_Script___init___s0 := by
  obtain ⟨fd, F⟩ := Z.fn 30 _ (by rfl)
  exact kc_star (fl := [true, false, false]) (ps := ["self", "book", "rooms"]) (N := N_Script___init__) (den := d_Script___init__) (oc := .none) (od := none) 0 F fs_Script___init__ rfl (by decide) (fun _ _ _ _ _ _ us rest hl => match us, rest, hl with | [_, _, _], [], _ => rfl | [_, _, _], _ :: _, _ => rfl) (fun X g b => j_Script___init__ Z g b)
theorem k_S_Script___init___s0 {G : Gb} (Z : Zx tabs G) : MkG G 5 "Script" 3 (List.tail S_Script___init___s0.fl) S_Script___init___s0.F := Z.mkG (by kernel_rfl) (by decide) (by kernel_rfl) (kc_S_Script___init___s0 Z)
def S_Script___init___s1 : Fs := ⟨[true, false, false] ++ List.replicate 1 false, starF 3 (runF 7 ([true, false, false] ++ [false]) d_Script___init__)⟩
theorem kc_S_Script___init___s1 {G : Gb} (Z : Zx tabs G) : Kc G 5 (He.fAd G.T.K ("Script", some "__init__")) S_Script___init___s1 := by
  obtain ⟨fd, F⟩ := Z.fn 30 _ (by rfl)
  exact kc_star (fl := [true, false, false]) (ps := ["self", "book", "rooms"]) (N := N_Script___init__) (den := d_Script___init__) (oc := .none) (od := none) 1 F fs_Script___init__ rfl (by decide) (fun _ _ _ _ _ _ us rest hl => match us, rest, hl with | [_, _, _], [], _ => rfl | [_, _, _], _ :: _, _ => rfl) (fun X g b => j_Script___init__ Z g b)
theorem k_S_Script___init___s1 {G : Gb} (Z : Zx tabs G) : MkG G 5 "Script" 3 (List.tail S_Script___init___s1.fl) S_Script___init___s1.F := Z.mkG (by kernel_rfl) (by decide) (by kernel_rfl) (kc_S_Script___init___s1 Z)
def N_Script_rooms : List Str := ["self"]
def d_Script_rooms : SF :=
 (sSeq (sRet (eB (bList) (lCons (eFld (fun c => [3].contains c) 15 (eVar 0)) lNil)))
 sSkip)
theorem j_Script_rooms {G : Gb} (Z : Zx tabs G) {X : Cx} (g : Gc G 0 N_Script_rooms (defScope ((clsB (top 80)).getD 2 (.Pass ⟨0, 0, 0, 0⟩))) X) (b : Bd X) : JSs G.T X (defBody ((clsB (top 80)).getD 2 (.Pass ⟨0, 0, 0, 0⟩))) d_Script_rooms :=
 (jss_cons (js_ret (w_list g (Z.fr "list" (by kernel_rfl)) (jl_cons (w_fld g (cs := [3]) Z.nd (Z.nmAt 15 _ (by kernel_rfl)) (Z.fd "_rooms" [3] (by kernel_rfl)) (w_var g (by kernel_rfl)) rfl) jl_nil rfl) (by kernel_rfl) rfl))
 jss_nil)
theorem fs_Script_rooms : FnScope N_Script_rooms ["self"] (defScope ((clsB (top 80)).getD 2 (.Pass ⟨0, 0, 0, 0⟩))) := ⟨(by kernel_rfl), (by kernel_rfl), (by kernel_rfl), by decide +kernel, (by kernel_rfl), by decide +kernel, by decide +kernel⟩
def S_Script_rooms : Fs := ⟨[false], runF 1 [false] d_Script_rooms⟩
theorem kc_S_Script_rooms {G : Gb} (Z : Zx tabs G) : Kc G 1 (He.fAd G.T.K ("Script", some "rooms")) S_Script_rooms := by
  obtain ⟨fd, F⟩ := Z.fn 31 _ (by rfl)
  exact kc_plain (N := N_Script_rooms) (den := d_Script_rooms) (fl := [false]) F fs_Script_rooms rfl (by decide) (fun _ _ _ _ _ _ us hl => match us, hl with | [_], _ => rfl) (fun X g b => j_Script_rooms Z g b)
theorem k_S_Script_rooms {G : Gb} (Z : Zx tabs G) : MtG G 1 "rooms" 3 S_Script_rooms := Z.mtG (by kernel_rfl) (by decide) (by kernel_rfl) (kc_S_Script_rooms Z)
def N_Script_run : List Str := ["self", "starts", "room", "lost", "names", "heaps", "deed", "name"]
def d_Script_run : SF :=
 (sSeq (sFor (iVal (eVar 1)) (gNam 2) (sSeq (sIf (tBl (eOp (fun a b => .ov (bCmp .NotIn a b)) (eVar 2) (eFld (fun c => [3].contains c) 15 (eVar 0)))) (sSeq sBad
 sSkip) sSkip)
 sSkip))
 (sSeq (sAsg (gNam 3) (eLc (iVal (eVar 1)) (.nm 2) tYesF (eMeth (fun c => List.lookup c [(1, S_Book_unknown)]) 11 (eFld (fun c => [2, 3, 5].contains c) 6 (eVar 0)) (lCons (eOp hSub (eVar 1) (eVar 2)) lNil)) [2]))
 (sSeq (sAsg (gNam 4) (eLc (iVal (eVar 3)) (.nm 7) (tBl (eOp (fun a b => .ov (bCmp .IsNot a b)) (eVar 7) (eCon .non))) (eVar 7) [7]))
 (sSeq (sIf (tBl (eOp (fun a b => .ov (bCmp .NotEq a b)) (eVar 4) (eLst lNil))) (sSeq sBad
 sSkip) sSkip)
 (sSeq (sAsg (gNam 5) (eDc (iVal (eFld (fun c => [3].contains c) 15 (eVar 0))) (.nm 2) tYesF (eVar 2) (eBm "dict" bGet (eVar 1) (lCons (eVar 2) (lCons (eMake 0 (List.tail S_Heap___init___1.fl) S_Heap___init___1.F lNil) lNil))) [2]))
 (sSeq (sFor (iVal (eFld (fun c => [3].contains c) 14 (eVar 0))) (gNam 6) (sSeq (sAsg (gNam 5) (eCall S_done (lCons (eFld (fun c => [2, 3, 5].contains c) 6 (eVar 0)) (lCons (eVar 5) (lCons (eVar 6) lNil)))))
 sSkip))
 (sSeq (sRet (eVar 5))
 sSkip)))))))
theorem j_Script_run {G : Gb} (Z : Zx tabs G) {X : Cx} (g : Gc G 8 N_Script_run (defScope ((clsB (top 80)).getD 4 (.Pass ⟨0, 0, 0, 0⟩))) X) (b : Bd X) : JSs G.T X (defBody ((clsB (top 80)).getD 4 (.Pass ⟨0, 0, 0, 0⟩))) d_Script_run :=
 (jss_cons (s_for g b (i_val g (w_var g (by kernel_rfl))) (jgl_of (g_nam g b (by kernel_rfl))) (jss_cons (js_if (wt_cmp g (w_var g (by kernel_rfl)) (w_fld g (cs := [3]) Z.nd (Z.nmAt 15 _ (by kernel_rfl)) (Z.fd "_rooms" [3] (by kernel_rfl)) (w_var g (by kernel_rfl)) rfl) rfl) (jss_cons js_bad
 jss_nil) jss_nil)
 jss_nil) rfl)
 (jss_cons (s_setLc g (own := [("room", 2)]) (i_val g (w_var g (by kernel_rfl))) (b_nm g ⟨rfl, (by kernel_rfl), (by kernel_rfl), (by kernel_rfl)⟩ (by kernel_rfl) t_no) (in_blk g (fun _ g1 => (w_meth g1 (l := [(1, S_Book_unknown)]) (.cons 2 (by omega) (k_S_Book_unknown Z) .nil) Z.nd (Z.nmAt 11 _ (by kernel_rfl)) (w_fld g1 (cs := [2, 3, 5]) Z.nd (Z.nmAt 6 _ (by kernel_rfl)) (Z.fd "book" [2, 3, 5] (by kernel_rfl)) (w_var g1 (by kernel_rfl)) rfl) (jl_cons (w_sub g1 (w_var g1 (by kernel_rfl)) (w_var g1 (by kernel_rfl)) rfl) jl_nil rfl) rfl rfl rfl (by kernel_rfl))) rfl) (by kernel_rfl) rfl (by kernel_rfl) (by kernel_rfl))
 (jss_cons (s_setLc g (own := [("name", 7)]) (i_val g (w_var g (by kernel_rfl))) (b_nm g ⟨rfl, (by kernel_rfl), (by kernel_rfl), (by kernel_rfl)⟩ (by kernel_rfl) (t_if (in_blk g (fun _ g1 => (wt_cmp g1 (w_var g1 (by kernel_rfl)) je_non rfl)) rfl))) (in_blk g (fun _ g1 => (w_var g1 (by kernel_rfl))) rfl) (by kernel_rfl) rfl (by kernel_rfl) (by kernel_rfl))
 (jss_cons (js_if (wt_cmp g (w_var g (by kernel_rfl)) (je_lst jl_nil) rfl) (jss_cons js_bad
 jss_nil) jss_nil)
 (jss_cons (s_setDc g (own := [("room", 2)]) (i_val g (w_fld g (cs := [3]) Z.nd (Z.nmAt 15 _ (by kernel_rfl)) (Z.fd "_rooms" [3] (by kernel_rfl)) (w_var g (by kernel_rfl)) rfl)) (b_nm g ⟨rfl, (by kernel_rfl), (by kernel_rfl), (by kernel_rfl)⟩ (by kernel_rfl) t_no) (in_blk g (fun _ g1 => (w_var g1 (by kernel_rfl))) rfl) (in_blk g (fun _ g1 => (m_get g1 (w_var g1 (by kernel_rfl)) (jl_cons (w_var g1 (by kernel_rfl)) (jl_cons (w_make0 g1 (k_S_Heap___init___1 Z) (by omega) (by kernel_rfl)) jl_nil rfl) rfl) rfl rfl rfl (by kernel_rfl))) rfl) (by kernel_rfl) rfl (by kernel_rfl) (by kernel_rfl))
 (jss_cons (s_for g b (i_val g (w_fld g (cs := [3]) Z.nd (Z.nmAt 14 _ (by kernel_rfl)) (Z.fd "_deeds" [3] (by kernel_rfl)) (w_var g (by kernel_rfl)) rfl)) (jgl_of (g_nam g b (by kernel_rfl))) (jss_cons (s_asg g (g_nam g b (by kernel_rfl)) (w_call g (k_S_done Z) (by omega) (jl_cons (w_fld g (cs := [2, 3, 5]) Z.nd (Z.nmAt 6 _ (by kernel_rfl)) (Z.fd "book" [2, 3, 5] (by kernel_rfl)) (w_var g (by kernel_rfl)) rfl) (jl_cons (w_var g (by kernel_rfl)) (jl_cons (w_var g (by kernel_rfl)) jl_nil rfl) rfl) rfl) (by kernel_rfl) rfl) (by kernel_rfl) rfl rfl)
 jss_nil) rfl)
 (jss_cons (js_ret (w_var g (by kernel_rfl)))
 jss_nil)))))))
theorem fs_Script_run : FnScope N_Script_run ["self", "starts"] (defScope ((clsB (top 80)).getD 4 (.Pass ⟨0, 0, 0, 0⟩))) := ⟨(by kernel_rfl), (by kernel_rfl), (by kernel_rfl), by decide +kernel, (by kernel_rfl), by decide +kernel, by decide +kernel⟩
def S_Script_run : Fs := ⟨[false, false], runF 8 [false, false] d_Script_run⟩
theorem kc_S_Script_run {G : Gb} (Z : Zx tabs G) : Kc G 9 (He.fAd G.T.K ("Script", some "run")) S_Script_run := by
  obtain ⟨fd, F⟩ := Z.fn 32 _ (by rfl)
  exact kc_plain (N := N_Script_run) (den := d_Script_run) (fl := [false, false]) F fs_Script_run rfl (by decide) (fun _ _ _ _ _ _ us hl => match us, hl with | [_, _], _ => rfl) (fun X g b => j_Script_run Z g b)
theorem k_S_Script_run {G : Gb} (Z : Zx tabs G) : MtG G 9 "run" 3 S_Script_run := Z.mtG (by kernel_rfl) (by decide) (by kernel_rfl) (kc_S_Script_run Z)
def N_Differ___init__ : List Str := ["self", "one", "other", "starts", "room", "worths"]
def d_Differ___init__ : SF :=
 (sSeq (sFldD (fun c => [4].contains c) 19 (eVar 1) (eVar 0))
 (sSeq (sFldD (fun c => [4, 5].contains c) 13 (eVar 2) (eVar 0))
 (sSeq (sFldD (fun c => [4].contains c) 18 (eVar 3) (eVar 0))
 (sSeq (sFldD (fun c => [4].contains c) 17 (eVar 4) (eVar 0))
 (sSeq (sFldD (fun c => [4].contains c) 16 (eVar 5) (eVar 0))
 sSkip)))))
theorem j_Differ___init__ {G : Gb} (Z : Zx tabs G) {X : Cx} (g : Gc G 0 N_Differ___init__ (defScope ((clsB (top 81)).getD 0 (.Pass ⟨0, 0, 0, 0⟩))) X) (b : Bd X) : JSs G.T X (defBody ((clsB (top 81)).getD 0 (.Pass ⟨0, 0, 0, 0⟩))) d_Differ___init__ :=
 (jss_cons (s_fld g (cs := [4]) Z.nd (Z.nmAt 19 _ (by kernel_rfl)) (Z.fd "one" [4] (by kernel_rfl)) (w_var g (by kernel_rfl)) (w_var g (by kernel_rfl)))
 (jss_cons (s_fld g (cs := [4, 5]) Z.nd (Z.nmAt 13 _ (by kernel_rfl)) (Z.fd "other" [4, 5] (by kernel_rfl)) (w_var g (by kernel_rfl)) (w_var g (by kernel_rfl)))
 (jss_cons (s_fld g (cs := [4]) Z.nd (Z.nmAt 18 _ (by kernel_rfl)) (Z.fd "starts" [4] (by kernel_rfl)) (w_var g (by kernel_rfl)) (w_var g (by kernel_rfl)))
 (jss_cons (s_fld g (cs := [4]) Z.nd (Z.nmAt 17 _ (by kernel_rfl)) (Z.fd "room" [4] (by kernel_rfl)) (w_var g (by kernel_rfl)) (w_var g (by kernel_rfl)))
 (jss_cons (s_fld g (cs := [4]) Z.nd (Z.nmAt 16 _ (by kernel_rfl)) (Z.fd "worths" [4] (by kernel_rfl)) (w_var g (by kernel_rfl)) (w_var g (by kernel_rfl)))
 jss_nil)))))
theorem fs_Differ___init__ : FnScope N_Differ___init__ ["self", "one", "other", "starts", "room", "worths"] (defScope ((clsB (top 81)).getD 0 (.Pass ⟨0, 0, 0, 0⟩))) := ⟨(by kernel_rfl), (by kernel_rfl), (by kernel_rfl), by decide +kernel, (by kernel_rfl), by decide +kernel, by decide +kernel⟩
def S_Differ___init__ : Fs := ⟨[true, false, false, false, false, false], runF 6 [true, false, false, false, false, false] d_Differ___init__⟩
theorem kc_S_Differ___init__ {G : Gb} (Z : Zx tabs G) : Kc G 1 (He.fAd G.T.K ("Differ", some "__init__")) S_Differ___init__ := by
  obtain ⟨fd, F⟩ := Z.fn 33 _ (by rfl)
  exact kc_plain (N := N_Differ___init__) (den := d_Differ___init__) (fl := [true, false, false, false, false, false]) F fs_Differ___init__ rfl (by decide) (fun _ _ _ _ _ _ us hl => match us, hl with | [_, _, _, _, _, _], _ => rfl) (fun X g b => j_Differ___init__ Z g b)
theorem k_S_Differ___init__ {G : Gb} (Z : Zx tabs G) : MkG G 1 "Differ" 4 (List.tail S_Differ___init__.fl) S_Differ___init__.F := Z.mkG (by kernel_rfl) (by decide) (by kernel_rfl) (kc_S_Differ___init__ Z)
theorem kw_Differ___init__ {G : Gb} (Z : Zx tabs G) : KwG G 1 "Differ" 4 0 5 ["worths", "room", "starts", "other", "one"] (fun ds es => ds ++ es.reverse) (runF 6 [true, false, false, false, false, false] d_Differ___init__) := by
  obtain ⟨fd, F⟩ := Z.fn 33 _ (by rfl)
  exact kw_rev (N := N_Differ___init__) (c := 4) (ks := ["worths", "room", "starts", "other", "one"]) (den := d_Differ___init__) (fl := [true, false, false, false, false, false]) Z F fs_Differ___init__ (by decide) (by kernel_rfl) (by decide) (by decide) (fun _ _ _ _ _ _ us ws h1 h2 => match us, ws, h1, h2 with | [_], [_, _, _, _, _], _, _ => rfl) rfl (fun X g b => j_Differ___init__ Z g b)
def N_Differ_holds : List Str := ["self", "book", "rooms", "room", "first", "second"]
def d_Differ_holds : SF :=
 (sSeq (sPar [(gNam 1), (gNam 2)] (lCons (eFld (fun c => [2, 3, 5].contains c) 6 (eFld (fun c => [4].contains c) 19 (eVar 0))) (lCons (eMeth (fun c => List.lookup c [(3, S_Script_rooms)]) 21 (eFld (fun c => [4].contains c) 19 (eVar 0)) lNil) lNil)))
 (sSeq (sIf (tOrF (tBl (eOp (hEqA true .NotEq [(0, S_Heap___eq__), (1, S_Book___eq__)]) (eFld (fun c => [2, 3, 5].contains c) 6 (eFld (fun c => [4, 5].contains c) 13 (eVar 0))) (eVar 1))) (tOrF (tBl (eOp (hEqA true .NotEq [(0, S_Heap___eq__), (1, S_Book___eq__)]) (eMeth (fun c => List.lookup c [(3, S_Script_rooms)]) 21 (eFld (fun c => [4, 5].contains c) 13 (eVar 0)) lNil) (eVar 2))) (tNotF (tVal (eIsi [(.bt 3)] (eFld (fun c => [4].contains c) 18 (eVar 0))))))) (sSeq (sRet (eCon (.bl false)))
 sSkip) sSkip)
 (sSeq (sFor (iVal (eFld (fun c => [4].contains c) 18 (eVar 0))) (gNam 3) (sSeq (sIf (tOrF (tNotF (tVal (eIsi [(.bt 0)] (eVar 3)))) (tOrF (tBl (eOp (fun a b => .ov (bCmp .NotIn a b)) (eVar 3) (eVar 2))) (tNotF (tVal (eCall S_is_heap_of (lCons (eVar 1) (lCons (eOp hSub (eFld (fun c => [4].contains c) 18 (eVar 0)) (eVar 3)) lNil))))))) (sSeq (sRet (eCon (.bl false)))
 sSkip) sSkip)
 sSkip))
 (sSeq (sIf (tOrF (tNotF (tVal (eIsi [(.bt 0)] (eFld (fun c => [4].contains c) 17 (eVar 0))))) (tOrF (tBl (eOp (fun a b => .ov (bCmp .NotIn a b)) (eFld (fun c => [4].contains c) 17 (eVar 0)) (eVar 2))) (tNotF (tVal (eCall S_is_honest_list (lCons (eVar 1) (lCons (eFld (fun c => [4].contains c) 16 (eVar 0)) lNil))))))) (sSeq (sRet (eCon (.bl false)))
 sSkip) sSkip)
 (sSeq (sPar [(gNam 4), (gNam 5)] (lCons (eMeth (fun c => List.lookup c [(3, S_Script_run)]) 20 (eFld (fun c => [4].contains c) 19 (eVar 0)) (lCons (eFld (fun c => [4].contains c) 18 (eVar 0)) lNil)) (lCons (eMeth (fun c => List.lookup c [(3, S_Script_run)]) 20 (eFld (fun c => [4, 5].contains c) 13 (eVar 0)) (lCons (eFld (fun c => [4].contains c) 18 (eVar 0)) lNil)) lNil)))
 (sSeq (sRet (eOp (hEqA true .NotEq [(0, S_Heap___eq__), (1, S_Book___eq__)]) (eMeth (fun c => List.lookup c [(2, S_WorthList_worth_of)]) 8 (eFld (fun c => [4].contains c) 16 (eVar 0)) (lCons (eOp hSub (eVar 4) (eFld (fun c => [4].contains c) 17 (eVar 0))) lNil)) (eMeth (fun c => List.lookup c [(2, S_WorthList_worth_of)]) 8 (eFld (fun c => [4].contains c) 16 (eVar 0)) (lCons (eOp hSub (eVar 5) (eFld (fun c => [4].contains c) 17 (eVar 0))) lNil))))
 sSkip))))))
theorem j_Differ_holds {G : Gb} (Z : Zx tabs G) {X : Cx} (g : Gc G 9 N_Differ_holds (defScope ((clsB (top 81)).getD 1 (.Pass ⟨0, 0, 0, 0⟩))) X) (b : Bd X) : JSs G.T X (defBody ((clsB (top 81)).getD 1 (.Pass ⟨0, 0, 0, 0⟩))) d_Differ_holds :=
 (jss_cons (s_swap2 g (jl_cons (w_fld g (cs := [2, 3, 5]) Z.nd (Z.nmAt 6 _ (by kernel_rfl)) (Z.fd "book" [2, 3, 5] (by kernel_rfl)) (w_fld g (cs := [4]) Z.nd (Z.nmAt 19 _ (by kernel_rfl)) (Z.fd "one" [4] (by kernel_rfl)) (w_var g (by kernel_rfl)) rfl) rfl) (jl_cons (w_meth0 g (l := [(3, S_Script_rooms)]) (.cons 1 (by omega) (k_S_Script_rooms Z) .nil) Z.nd (Z.nmAt 21 _ (by kernel_rfl)) (w_fld g (cs := [4]) Z.nd (Z.nmAt 19 _ (by kernel_rfl)) (Z.fd "one" [4] (by kernel_rfl)) (w_var g (by kernel_rfl)) rfl) rfl (by kernel_rfl)) jl_nil rfl) rfl) (by kernel_rfl) (by kernel_rfl) (by kernel_rfl) (by kernel_rfl) (by kernel_rfl))
 (jss_cons (js_if (jt_w (jw_or (xt_ne g Z 4 (by omega) (.cons 2 (by omega) (k_S_Heap___eq__ Z) rfl (by kernel_rfl) (.cons 4 (by omega) (k_S_Book___eq__ Z) rfl (by kernel_rfl) .nil)) (w_fld g (cs := [2, 3, 5]) Z.nd (Z.nmAt 6 _ (by kernel_rfl)) (Z.fd "book" [2, 3, 5] (by kernel_rfl)) (w_fld g (cs := [4, 5]) Z.nd (Z.nmAt 13 _ (by kernel_rfl)) (Z.fd "other" [4, 5] (by kernel_rfl)) (w_var g (by kernel_rfl)) rfl) rfl) (w_var g (by kernel_rfl)) rfl) (jw_or (xt_ne g Z 4 (by omega) (.cons 2 (by omega) (k_S_Heap___eq__ Z) rfl (by kernel_rfl) (.cons 4 (by omega) (k_S_Book___eq__ Z) rfl (by kernel_rfl) .nil)) (w_meth0 g (l := [(3, S_Script_rooms)]) (.cons 1 (by omega) (k_S_Script_rooms Z) .nil) Z.nd (Z.nmAt 21 _ (by kernel_rfl)) (w_fld g (cs := [4, 5]) Z.nd (Z.nmAt 13 _ (by kernel_rfl)) (Z.fd "other" [4, 5] (by kernel_rfl)) (w_var g (by kernel_rfl)) rfl) rfl (by kernel_rfl)) (w_var g (by kernel_rfl)) rfl) (jw_or1 (jt_not (jt_val g.K (w_isi1 g (ct := (.bt 3)) Z.isi (Z.fr "isinstance" (by kernel_rfl)) (c_bt g (Z.fr "dict" (by kernel_rfl)) (by kernel_rfl) rfl (by decide)) (w_fld g (cs := [4]) Z.nd (Z.nmAt 18 _ (by kernel_rfl)) (Z.fd "starts" [4] (by kernel_rfl)) (w_var g (by kernel_rfl)) rfl) (by simp [tabs]) (by kernel_rfl) rfl) (fun _ => rfl))))))) (jss_cons (js_ret je_bl)
 jss_nil) jss_nil)
 (jss_cons (s_for g b (i_val g (w_fld g (cs := [4]) Z.nd (Z.nmAt 18 _ (by kernel_rfl)) (Z.fd "starts" [4] (by kernel_rfl)) (w_var g (by kernel_rfl)) rfl)) (jgl_of (g_nam g b (by kernel_rfl))) (jss_cons (js_if (jt_w (jw_or (jt_not (jt_val g.K (w_isi1 g (ct := (.bt 0)) Z.isi (Z.fr "isinstance" (by kernel_rfl)) (c_bt g (Z.fr "str" (by kernel_rfl)) (by kernel_rfl) rfl (by decide)) (w_var g (by kernel_rfl)) (by simp [tabs]) (by kernel_rfl) rfl) (fun _ => rfl))) (jw_or (wt_cmp g (w_var g (by kernel_rfl)) (w_var g (by kernel_rfl)) rfl) (jw_or1 (jt_not (jt_val g.K (w_call g (k_S_is_heap_of Z) (by omega) (jl_cons (w_var g (by kernel_rfl)) (jl_cons (w_sub g (w_fld g (cs := [4]) Z.nd (Z.nmAt 18 _ (by kernel_rfl)) (Z.fd "starts" [4] (by kernel_rfl)) (w_var g (by kernel_rfl)) rfl) (w_var g (by kernel_rfl)) rfl) jl_nil rfl) rfl) (by kernel_rfl) rfl) (fun _ => rfl))))))) (jss_cons (js_ret je_bl)
 jss_nil) jss_nil)
 jss_nil) rfl)
 (jss_cons (js_if (jt_w (jw_or (jt_not (jt_val g.K (w_isi1 g (ct := (.bt 0)) Z.isi (Z.fr "isinstance" (by kernel_rfl)) (c_bt g (Z.fr "str" (by kernel_rfl)) (by kernel_rfl) rfl (by decide)) (w_fld g (cs := [4]) Z.nd (Z.nmAt 17 _ (by kernel_rfl)) (Z.fd "room" [4] (by kernel_rfl)) (w_var g (by kernel_rfl)) rfl) (by simp [tabs]) (by kernel_rfl) rfl) (fun _ => rfl))) (jw_or (wt_cmp g (w_fld g (cs := [4]) Z.nd (Z.nmAt 17 _ (by kernel_rfl)) (Z.fd "room" [4] (by kernel_rfl)) (w_var g (by kernel_rfl)) rfl) (w_var g (by kernel_rfl)) rfl) (jw_or1 (jt_not (jt_val g.K (w_call g (k_S_is_honest_list Z) (by omega) (jl_cons (w_var g (by kernel_rfl)) (jl_cons (w_fld g (cs := [4]) Z.nd (Z.nmAt 16 _ (by kernel_rfl)) (Z.fd "worths" [4] (by kernel_rfl)) (w_var g (by kernel_rfl)) rfl) jl_nil rfl) rfl) (by kernel_rfl) rfl) (fun _ => rfl))))))) (jss_cons (js_ret je_bl)
 jss_nil) jss_nil)
 (jss_cons (s_swap2 g (jl_cons (w_meth g (l := [(3, S_Script_run)]) (.cons 9 (by omega) (k_S_Script_run Z) .nil) Z.nd (Z.nmAt 20 _ (by kernel_rfl)) (w_fld g (cs := [4]) Z.nd (Z.nmAt 19 _ (by kernel_rfl)) (Z.fd "one" [4] (by kernel_rfl)) (w_var g (by kernel_rfl)) rfl) (jl_cons (w_fld g (cs := [4]) Z.nd (Z.nmAt 18 _ (by kernel_rfl)) (Z.fd "starts" [4] (by kernel_rfl)) (w_var g (by kernel_rfl)) rfl) jl_nil rfl) rfl rfl rfl (by kernel_rfl)) (jl_cons (w_meth g (l := [(3, S_Script_run)]) (.cons 9 (by omega) (k_S_Script_run Z) .nil) Z.nd (Z.nmAt 20 _ (by kernel_rfl)) (w_fld g (cs := [4, 5]) Z.nd (Z.nmAt 13 _ (by kernel_rfl)) (Z.fd "other" [4, 5] (by kernel_rfl)) (w_var g (by kernel_rfl)) rfl) (jl_cons (w_fld g (cs := [4]) Z.nd (Z.nmAt 18 _ (by kernel_rfl)) (Z.fd "starts" [4] (by kernel_rfl)) (w_var g (by kernel_rfl)) rfl) jl_nil rfl) rfl rfl rfl (by kernel_rfl)) jl_nil rfl) rfl) (by kernel_rfl) (by kernel_rfl) (by kernel_rfl) (by kernel_rfl) (by kernel_rfl))
 (jss_cons (js_ret (x_ne g Z 4 (by omega) (.cons 2 (by omega) (k_S_Heap___eq__ Z) rfl (by kernel_rfl) (.cons 4 (by omega) (k_S_Book___eq__ Z) rfl (by kernel_rfl) .nil)) (w_meth g (l := [(2, S_WorthList_worth_of)]) (.cons 2 (by omega) (k_S_WorthList_worth_of Z) .nil) Z.nd (Z.nmAt 8 _ (by kernel_rfl)) (w_fld g (cs := [4]) Z.nd (Z.nmAt 16 _ (by kernel_rfl)) (Z.fd "worths" [4] (by kernel_rfl)) (w_var g (by kernel_rfl)) rfl) (jl_cons (w_sub g (w_var g (by kernel_rfl)) (w_fld g (cs := [4]) Z.nd (Z.nmAt 17 _ (by kernel_rfl)) (Z.fd "room" [4] (by kernel_rfl)) (w_var g (by kernel_rfl)) rfl) rfl) jl_nil rfl) rfl rfl rfl (by kernel_rfl)) (w_meth g (l := [(2, S_WorthList_worth_of)]) (.cons 2 (by omega) (k_S_WorthList_worth_of Z) .nil) Z.nd (Z.nmAt 8 _ (by kernel_rfl)) (w_fld g (cs := [4]) Z.nd (Z.nmAt 16 _ (by kernel_rfl)) (Z.fd "worths" [4] (by kernel_rfl)) (w_var g (by kernel_rfl)) rfl) (jl_cons (w_sub g (w_var g (by kernel_rfl)) (w_fld g (cs := [4]) Z.nd (Z.nmAt 17 _ (by kernel_rfl)) (Z.fd "room" [4] (by kernel_rfl)) (w_var g (by kernel_rfl)) rfl) rfl) jl_nil rfl) rfl rfl rfl (by kernel_rfl)) rfl))
 jss_nil))))))
theorem fs_Differ_holds : FnScope N_Differ_holds ["self"] (defScope ((clsB (top 81)).getD 1 (.Pass ⟨0, 0, 0, 0⟩))) := ⟨(by kernel_rfl), (by kernel_rfl), (by kernel_rfl), by decide +kernel, (by kernel_rfl), by decide +kernel, by decide +kernel⟩
def S_Differ_holds : Fs := ⟨[false], runF 6 [false] d_Differ_holds⟩
theorem kc_S_Differ_holds {G : Gb} (Z : Zx tabs G) : Kc G 10 (He.fAd G.T.K ("Differ", some "holds")) S_Differ_holds := by
  obtain ⟨fd, F⟩ := Z.fn 34 _ (by rfl)
  exact kc_plain (N := N_Differ_holds) (den := d_Differ_holds) (fl := [false]) F fs_Differ_holds rfl (by decide) (fun _ _ _ _ _ _ us hl => match us, hl with | [_], _ => rfl) (fun X g b => j_Differ_holds Z g b)
theorem k_S_Differ_holds {G : Gb} (Z : Zx tabs G) : MtG G 10 "holds" 4 S_Differ_holds := Z.mtG (by kernel_rfl) (by decide) (by kernel_rfl) (kc_S_Differ_holds Z)
def N_Differ___repr__ : List Str := ["self"]
def d_Differ___repr__ : SF :=
 (sSeq (sRet (eJoin [(eCon (.str "Differ(")), (eFmt (eIf (tVal (eIsi [(.bt 0)] (eFld (fun c => [4].contains c) 17 (eVar 0)))) (eFld (fun c => [4].contains c) 17 (eVar 0)) (eCon (.str "")))), (eCon (.str ")"))]))
 sSkip)
theorem j_Differ___repr__ {G : Gb} (Z : Zx tabs G) {X : Cx} (g : Gc G 0 N_Differ___repr__ (defScope ((clsB (top 81)).getD 2 (.Pass ⟨0, 0, 0, 0⟩))) X) (b : Bd X) : JSs G.T X (defBody ((clsB (top 81)).getD 2 (.Pass ⟨0, 0, 0, 0⟩))) d_Differ___repr__ :=
 (jss_cons (js_ret (je_joined (.cons je_str (.cons (je_fmt (je_if (jt_val g.K (w_isi1 g (ct := (.bt 0)) Z.isi (Z.fr "isinstance" (by kernel_rfl)) (c_bt g (Z.fr "str" (by kernel_rfl)) (by kernel_rfl) rfl (by decide)) (w_fld g (cs := [4]) Z.nd (Z.nmAt 17 _ (by kernel_rfl)) (Z.fd "room" [4] (by kernel_rfl)) (w_var g (by kernel_rfl)) rfl) (by simp [tabs]) (by kernel_rfl) rfl) (fun _ => rfl)) (w_fld g (cs := [4]) Z.nd (Z.nmAt 17 _ (by kernel_rfl)) (Z.fd "room" [4] (by kernel_rfl)) (w_var g (by kernel_rfl)) rfl) je_str)) (.cons je_str .nil)))))
 jss_nil)
theorem fs_Differ___repr__ : FnScope N_Differ___repr__ ["self"] (defScope ((clsB (top 81)).getD 2 (.Pass ⟨0, 0, 0, 0⟩))) := ⟨(by kernel_rfl), (by kernel_rfl), (by kernel_rfl), by decide +kernel, (by kernel_rfl), by decide +kernel, by decide +kernel⟩
def S_Differ___repr__ : Fs := ⟨[false], runF 1 [false] d_Differ___repr__⟩
theorem kc_S_Differ___repr__ {G : Gb} (Z : Zx tabs G) : Kc G 1 (He.fAd G.T.K ("Differ", some "__repr__")) S_Differ___repr__ := by
  obtain ⟨fd, F⟩ := Z.fn 35 _ (by rfl)
  exact kc_plain (N := N_Differ___repr__) (den := d_Differ___repr__) (fl := [false]) F fs_Differ___repr__ rfl (by decide) (fun _ _ _ _ _ _ us hl => match us, hl with | [_], _ => rfl) (fun X g b => j_Differ___repr__ Z g b)
theorem k_S_Differ___repr__ {G : Gb} (Z : Zx tabs G) : MtG G 1 "__repr__" 4 S_Differ___repr__ := Z.mtG (by kernel_rfl) (by decide) (by kernel_rfl) (kc_S_Differ___repr__ Z)
end Pu
namespace Pu
open PySem PySem.Spec PyProof.Rows L2
def N__law_bag : List Str := ["_law_script", "_law_mixed", "_law_cell"]
def d__law_bag : SF :=
 (sSeq (sAsg (gNam 1) (eCon (.int 12011)))
 (sSeq (sFor (iVal (eSl (eVar 0) oNo (oYes (eCon (.int 63))))) (gNam 2) (sSeq (sAsg (gNam 1) (eTwo (bBin .Mod) (eB (bInt) (lCons (eTwo (bBin .Add) (eTwo (bBin .Add) (eTwo (bBin .Mult) (eVar 1) (eCon (.int 47917))) (eTwo (bBin .Mult) (eTwo (bBin .Mod) (eB (bInt) (lCons (eVar 2) lNil)) (eCon (.int 1000003))) (eCon (.int 613)))) (eCon (.int 31))) lNil)) (eCon (.int 2147483563))))
 sSkip))
 (sSeq (sRet (eLst (lCons (eB (bList) (lCons (eSl (eVar 0) oNo (oYes (eCon (.int 63)))) lNil)) (lCons (eCon (.int 0)) (lCons (eCon (.int 0)) (lCons (eVar 1) (lCons (eCon (.int 0)) lNil)))))))
 sSkip)))
theorem j__law_bag {G : Gb} (Z : Zx tabs G) {X : Cx} (g : Gc G 0 N__law_bag (defScope (top 83)) X) (b : Bd X) : JSs G.T X (defBody (top 83)) d__law_bag :=
 (jss_cons (s_asg g (g_nam g b (by kernel_rfl)) je_int (by kernel_rfl) rfl rfl)
 (jss_cons (s_for g b (i_val g (w_sl g (w_var g (by kernel_rfl)) jo_no (jo_yes je_int))) (jgl_of (g_nam g b (by kernel_rfl))) (jss_cons (s_asg g (g_nam g b (by kernel_rfl)) (w_bin g (w_int g (Z.fr "int" (by kernel_rfl)) (jl_cons (w_bin g (w_bin g (w_bin g (w_var g (by kernel_rfl)) je_int) (w_bin g (w_bin g (w_int g (Z.fr "int" (by kernel_rfl)) (jl_cons (w_var g (by kernel_rfl)) jl_nil rfl) (by kernel_rfl) rfl) je_int) je_int)) je_int) jl_nil rfl) (by kernel_rfl) rfl) je_int) (by kernel_rfl) rfl rfl)
 jss_nil) rfl)
 (jss_cons (js_ret (je_lst (jl_cons (w_list g (Z.fr "list" (by kernel_rfl)) (jl_cons (w_sl g (w_var g (by kernel_rfl)) jo_no (jo_yes je_int)) jl_nil rfl) (by kernel_rfl) rfl) (jl_cons je_int (jl_cons je_int (jl_cons (w_var g (by kernel_rfl)) (jl_cons je_int jl_nil rfl) rfl) rfl) rfl) rfl)))
 jss_nil)))
theorem fs__law_bag : FnScope N__law_bag ["_law_script"] (defScope (top 83)) := ⟨(by kernel_rfl), (by kernel_rfl), (by kernel_rfl), by decide +kernel, (by kernel_rfl), by decide +kernel, by decide +kernel⟩
def S__law_bag : Fs := ⟨[false], runF 3 [false] d__law_bag⟩
theorem kc_S__law_bag {G : Gb} (Z : Zx tabs G) : Kc G 1 (He.fAd G.T.K ("_law_bag", none)) S__law_bag := by
  obtain ⟨fd, F⟩ := Z.fn 36 _ (by rfl)
  exact kc_plain (N := N__law_bag) (den := d__law_bag) (fl := [false]) F fs__law_bag rfl (by decide) (fun _ _ _ _ _ _ us hl => match us, hl with | [_], _ => rfl) (fun X g b => j__law_bag Z g b)
theorem k_S__law_bag {G : Gb} (Z : Zx tabs G) : FnG G 1 "_law_bag" S__law_bag := by
  obtain ⟨fd, F⟩ := Z.fn 36 _ (by rfl)
  exact Z.fnG (by kernel_rfl) F.kp (kc_S__law_bag Z)
def N__law_draw : List Str := ["_law_bag_here", "_law_many", "_law_cell", "_law_digit", "_law_late"]
def d__law_draw : SF :=
 (sSeq (sAsg (gSubs (eVar 0) (eCon (.int 4))) (eTwo (bBin .Add) (eOp hSub (eVar 0) (eCon (.int 4))) (eCon (.int 1))))
 (sSeq (sIf (tAndF (tBl (eOp (fun a b => .ov (bCmp .Eq a b)) (eOp hSub (eVar 0) (eCon (.int 2))) (eCon (.int 0)))) (tBl (eOp (fun a b => .ov (bCmp .Lt a b)) (eOp hSub (eVar 0) (eCon (.int 1))) (eB (bLen) (lCons (eOp hSub (eVar 0) (eCon (.int 0))) lNil))))) (sSeq (sAsg (gNam 2) (eOp hSub (eOp hSub (eVar 0) (eCon (.int 0))) (eOp hSub (eVar 0) (eCon (.int 1)))))
 (sSeq (sAsg (gSubs (eVar 0) (eCon (.int 1))) (eTwo (bBin .Add) (eOp hSub (eVar 0) (eCon (.int 1))) (eCon (.int 1))))
 (sSeq (sIf (tBl (eOp (fun a b => .ov (bCmp .GtE a b)) (eVar 2) (eTwo (bBin .Pow) (eCon (.int 10)) (eCon (.int 18))))) (sSeq (sAsg (gSubs (eVar 0) (eCon (.int 2))) (eVar 2))
 sSkip) (sSeq (sAsg (gSubs (eVar 0) (eCon (.int 3))) (eTwo (bBin .Mod) (eB (bInt) (lCons (eTwo (bBin .Add) (eTwo (bBin .Add) (eTwo (bBin .Mult) (eOp hSub (eVar 0) (eCon (.int 3))) (eCon (.int 40127))) (eTwo (bBin .Mult) (eTwo (bBin .Mod) (eB (bInt) (lCons (eVar 2) lNil)) (eCon (.int 1000003))) (eCon (.int 709)))) (eCon (.int 43))) lNil)) (eCon (.int 2147483587))))
 sSkip))
 sSkip))) sSkip)
 (sSeq (sIf (tBl (eOp (fun a b => .ov (bCmp .Gt a b)) (eOp hSub (eVar 0) (eCon (.int 2))) (eCon (.int 0)))) (sSeq (sAsg (gNam 3) (eTwo (bBin .Mod) (eB (bInt) (lCons (eOp hSub (eVar 0) (eCon (.int 2))) lNil)) (eVar 1)))
 (sSeq (sAsg (gSubs (eVar 0) (eCon (.int 2))) (eTwo (bBin .FloorDiv) (eOp hSub (eVar 0) (eCon (.int 2))) (eVar 1)))
 (sSeq (sRet (eVar 3))
 sSkip))) sSkip)
 (sSeq (sAsg (gNam 4) (eTwo (bBin .Mod) (eB (bInt) (lCons (eTwo (bBin .Add) (eTwo (bBin .Mult) (eOp hSub (eVar 0) (eCon (.int 3))) (eOp hSub (eVar 0) (eCon (.int 3)))) (eTwo (bBin .Mult) (eOp hSub (eVar 0) (eCon (.int 4))) (eCon (.int 9173)))) lNil)) (eCon (.int 2147483629))))
 (sSeq (sAsg (gSubs (eVar 0) (eCon (.int 3))) (eTwo (bBin .Mod) (eB (bInt) (lCons (eTwo (bBin .Add) (eTwo (bBin .Add) (eTwo (bBin .Mult) (eVar 4) (eCon (.int 18553))) (eTwo (bBin .Mult) (eOp hSub (eVar 0) (eCon (.int 3))) (eCon (.int 42773)))) (eCon (.int 90007))) lNil)) (eCon (.int 2147483587))))
 (sSeq (sRet (eTwo (bBin .Mod) (eB (bInt) (lCons (eTwo (bBin .FloorDiv) (eOp hSub (eVar 0) (eCon (.int 3))) (eCon (.int 128))) lNil)) (eVar 1)))
 sSkip))))))
theorem j__law_draw {G : Gb} (Z : Zx tabs G) {X : Cx} (g : Gc G 0 N__law_draw (defScope (top 84)) X) (b : Bd X) : JSs G.T X (defBody (top 84)) d__law_draw :=
 (jss_cons (s_asg g (g_sub g (w_var g (by kernel_rfl)) je_int rfl) (w_bin g (w_sub g (w_var g (by kernel_rfl)) je_int rfl) je_int) (by kernel_rfl) rfl rfl)
 (jss_cons (js_if (jt_w (jw_and (wt_cmp g (w_sub g (w_var g (by kernel_rfl)) je_int rfl) je_int rfl) (jw_and1 (wt_cmp g (w_sub g (w_var g (by kernel_rfl)) je_int rfl) (w_len g (Z.fr "len" (by kernel_rfl)) (jl_cons (w_sub g (w_var g (by kernel_rfl)) je_int rfl) jl_nil rfl) (by kernel_rfl) rfl) rfl)))) (jss_cons (s_asg g (g_nam g b (by kernel_rfl)) (w_sub g (w_sub g (w_var g (by kernel_rfl)) je_int rfl) (w_sub g (w_var g (by kernel_rfl)) je_int rfl) rfl) (by kernel_rfl) rfl rfl)
 (jss_cons (s_asg g (g_sub g (w_var g (by kernel_rfl)) je_int rfl) (w_bin g (w_sub g (w_var g (by kernel_rfl)) je_int rfl) je_int) (by kernel_rfl) rfl rfl)
 (jss_cons (js_if (wt_cmp g (w_var g (by kernel_rfl)) (w_bin g je_int je_int) rfl) (jss_cons (s_asg g (g_sub g (w_var g (by kernel_rfl)) je_int rfl) (w_var g (by kernel_rfl)) (by kernel_rfl) rfl rfl)
 jss_nil) (jss_cons (s_asg g (g_sub g (w_var g (by kernel_rfl)) je_int rfl) (w_bin g (w_int g (Z.fr "int" (by kernel_rfl)) (jl_cons (w_bin g (w_bin g (w_bin g (w_sub g (w_var g (by kernel_rfl)) je_int rfl) je_int) (w_bin g (w_bin g (w_int g (Z.fr "int" (by kernel_rfl)) (jl_cons (w_var g (by kernel_rfl)) jl_nil rfl) (by kernel_rfl) rfl) je_int) je_int)) je_int) jl_nil rfl) (by kernel_rfl) rfl) je_int) (by kernel_rfl) rfl rfl)
 jss_nil))
 jss_nil))) jss_nil)
 (jss_cons (js_if (wt_cmp g (w_sub g (w_var g (by kernel_rfl)) je_int rfl) je_int rfl) (jss_cons (s_asg g (g_nam g b (by kernel_rfl)) (w_bin g (w_int g (Z.fr "int" (by kernel_rfl)) (jl_cons (w_sub g (w_var g (by kernel_rfl)) je_int rfl) jl_nil rfl) (by kernel_rfl) rfl) (w_var g (by kernel_rfl))) (by kernel_rfl) rfl rfl)
 (jss_cons (s_asg g (g_sub g (w_var g (by kernel_rfl)) je_int rfl) (w_bin g (w_sub g (w_var g (by kernel_rfl)) je_int rfl) (w_var g (by kernel_rfl))) (by kernel_rfl) rfl rfl)
 (jss_cons (js_ret (w_var g (by kernel_rfl)))
 jss_nil))) jss_nil)
 (jss_cons (s_asg g (g_nam g b (by kernel_rfl)) (w_bin g (w_int g (Z.fr "int" (by kernel_rfl)) (jl_cons (w_bin g (w_bin g (w_sub g (w_var g (by kernel_rfl)) je_int rfl) (w_sub g (w_var g (by kernel_rfl)) je_int rfl)) (w_bin g (w_sub g (w_var g (by kernel_rfl)) je_int rfl) je_int)) jl_nil rfl) (by kernel_rfl) rfl) je_int) (by kernel_rfl) rfl rfl)
 (jss_cons (s_asg g (g_sub g (w_var g (by kernel_rfl)) je_int rfl) (w_bin g (w_int g (Z.fr "int" (by kernel_rfl)) (jl_cons (w_bin g (w_bin g (w_bin g (w_var g (by kernel_rfl)) je_int) (w_bin g (w_sub g (w_var g (by kernel_rfl)) je_int rfl) je_int)) je_int) jl_nil rfl) (by kernel_rfl) rfl) je_int) (by kernel_rfl) rfl rfl)
 (jss_cons (js_ret (w_bin g (w_int g (Z.fr "int" (by kernel_rfl)) (jl_cons (w_bin g (w_sub g (w_var g (by kernel_rfl)) je_int rfl) je_int) jl_nil rfl) (by kernel_rfl) rfl) (w_var g (by kernel_rfl))))
 jss_nil))))))
theorem fs__law_draw : FnScope N__law_draw ["_law_bag_here", "_law_many"] (defScope (top 84)) := ⟨(by kernel_rfl), (by kernel_rfl), (by kernel_rfl), by decide +kernel, (by kernel_rfl), by decide +kernel, by decide +kernel⟩
def S__law_draw : Fs := ⟨[true, false], runF 5 [true, false] d__law_draw⟩
theorem kc_S__law_draw {G : Gb} (Z : Zx tabs G) : Kc G 1 (He.fAd G.T.K ("_law_draw", none)) S__law_draw := by
  obtain ⟨fd, F⟩ := Z.fn 37 _ (by rfl)
  exact kc_plain (N := N__law_draw) (den := d__law_draw) (fl := [true, false]) F fs__law_draw rfl (by decide) (fun _ _ _ _ _ _ us hl => match us, hl with | [_, _], _ => rfl) (fun X g b => j__law_draw Z g b)
theorem k_S__law_draw {G : Gb} (Z : Zx tabs G) : FnG G 1 "_law_draw" S__law_draw := by
  obtain ⟨fd, F⟩ := Z.fn 37 _ (by rfl)
  exact Z.fnG (by kernel_rfl) F.kp (kc_S__law_draw Z)
def N__law_of : List Str := ["_law_bag_here", "_law_some"]
def d__law_of : SF :=
 (sSeq (sRet (eOp hSub (eVar 1) (eCall S__law_draw (lCons (eVar 0) (lCons (eB (bLen) (lCons (eVar 1) lNil)) lNil)))))
 sSkip)
theorem j__law_of {G : Gb} (Z : Zx tabs G) {X : Cx} (g : Gc G 1 N__law_of (defScope (top 85)) X) (b : Bd X) : JSs G.T X (defBody (top 85)) d__law_of :=
 (jss_cons (js_ret (w_sub g (w_var g (by kernel_rfl)) (w_call g (k_S__law_draw Z) (by omega) (jl_cons (w_var g (by kernel_rfl)) (jl_cons (w_len g (Z.fr "len" (by kernel_rfl)) (jl_cons (w_var g (by kernel_rfl)) jl_nil rfl) (by kernel_rfl) rfl) jl_nil rfl) rfl) (by kernel_rfl) rfl) rfl))
 jss_nil)
theorem fs__law_of : FnScope N__law_of ["_law_bag_here", "_law_some"] (defScope (top 85)) := ⟨(by kernel_rfl), (by kernel_rfl), (by kernel_rfl), by decide +kernel, (by kernel_rfl), by decide +kernel, by decide +kernel⟩
def S__law_of : Fs := ⟨[true, false], runF 2 [true, false] d__law_of⟩
theorem kc_S__law_of {G : Gb} (Z : Zx tabs G) : Kc G 2 (He.fAd G.T.K ("_law_of", none)) S__law_of := by
  obtain ⟨fd, F⟩ := Z.fn 38 _ (by rfl)
  exact kc_plain (N := N__law_of) (den := d__law_of) (fl := [true, false]) F fs__law_of rfl (by decide) (fun _ _ _ _ _ _ us hl => match us, hl with | [_, _], _ => rfl) (fun X g b => j__law_of Z g b)
theorem k_S__law_of {G : Gb} (Z : Zx tabs G) : FnG G 2 "_law_of" S__law_of := by
  obtain ⟨fd, F⟩ := Z.fn 38 _ (by rfl)
  exact Z.fnG (by kernel_rfl) F.kp (kc_S__law_of Z)
def N__law_same : List Str := ["_law_found", "_law_due", "_law_one", "_law_two"]
def d__law_same (S : Fs) : SF :=
 (sSeq (sIf (tVal (eIsi [(.bt 4), (.bt 5)] (eVar 1))) (sSeq (sIf (tOrF (tBl (eOp (fun a b => .ov (bCmp .NotEq a b)) (eIsi [(.bt 4)] (eVar 0)) (eIsi [(.bt 4)] (eVar 1)))) (tBl (eOp (fun a b => .ov (bCmp .NotEq a b)) (eIsi [(.bt 5)] (eVar 0)) (eIsi [(.bt 5)] (eVar 1))))) (sSeq (sRet (eCon (.bl false)))
 sSkip) sSkip)
 (sSeq (sRet (eAnd (eOp (fun a b => .ov (bCmp .Eq a b)) (eB (bLen) (lCons (eVar 0) lNil)) (eB (bLen) (lCons (eVar 1) lNil))) (eB (bFold fun bs => bs.all id) (lCons (eLc (iZipD (lCons (eVar 0) (lCons (eVar 1) lNil))) (.tp [2, 3]) tYesF (eCall S (lCons (eVar 2) (lCons (eVar 3) lNil))) [2, 3]) lNil))))
 sSkip)) sSkip)
 (sSeq (sIf (tOrF (tBl (eOp (fun a b => .ov (bCmp .Is a b)) (eVar 1) (eCon .non))) (tBl (eOp (fun a b => .ov (bCmp .Is a b)) (eVar 0) (eCon .non)))) (sSeq (sRet (eAnd (eOp (fun a b => .ov (bCmp .Is a b)) (eVar 1) (eCon .non)) (eOp (fun a b => .ov (bCmp .Is a b)) (eVar 0) (eCon .non))))
 sSkip) sSkip)
 (sSeq (sIf (tOrF (tBl (eOp (fun a b => .ov (bCmp .NotEq a b)) (eIsi [(.bt 2)] (eVar 0)) (eIsi [(.bt 2)] (eVar 1)))) (tBl (eOp (fun a b => .ov (bCmp .NotEq a b)) (eIsi [(.bt 1)] (eVar 0)) (eIsi [(.bt 1)] (eVar 1))))) (sSeq (sRet (eCon (.bl false)))
 sSkip) sSkip)
 (sSeq (sRet (eAnd (eOp (fun a b => .ov (bCmp .Eq a b)) (eIsi [(.bt 0)] (eVar 0)) (eIsi [(.bt 0)] (eVar 1))) (eOp (fun a b => .ov (bCmp .Eq a b)) (eVar 0) (eVar 1))))
 sSkip))))
theorem j__law_same {G : Gb} (Z : Zx tabs G) {k : Nat} (hk : 0 ≤ k) {S : Fs} (hS : FnG G k "_law_same" S) {X : Cx} (g : Gc G k N__law_same (defScope (top 86)) X) (b : Bd X) : JSs G.T X (defBody (top 86)) (d__law_same S) :=
 (jss_cons (js_if (jt_val g.K (w_isiN g Z.isi (Z.fr "isinstance" (by kernel_rfl)) (c_cons (c_bt g (Z.fr "list" (by kernel_rfl)) (by kernel_rfl) rfl (by decide)) (c_cons (c_bt g (Z.fr "tuple" (by kernel_rfl)) (by kernel_rfl) rfl (by decide)) c_nil rfl) rfl) (w_var g (by kernel_rfl)) (by simp [tabs]) (by kernel_rfl) rfl (by decide)) (fun _ => rfl)) (jss_cons (js_if (jt_w (jw_or (wt_cmp g (w_isi1 g (ct := (.bt 4)) Z.isi (Z.fr "isinstance" (by kernel_rfl)) (c_bt g (Z.fr "list" (by kernel_rfl)) (by kernel_rfl) rfl (by decide)) (w_var g (by kernel_rfl)) (by simp [tabs]) (by kernel_rfl) rfl) (w_isi1 g (ct := (.bt 4)) Z.isi (Z.fr "isinstance" (by kernel_rfl)) (c_bt g (Z.fr "list" (by kernel_rfl)) (by kernel_rfl) rfl (by decide)) (w_var g (by kernel_rfl)) (by simp [tabs]) (by kernel_rfl) rfl) rfl) (jw_or1 (wt_cmp g (w_isi1 g (ct := (.bt 5)) Z.isi (Z.fr "isinstance" (by kernel_rfl)) (c_bt g (Z.fr "tuple" (by kernel_rfl)) (by kernel_rfl) rfl (by decide)) (w_var g (by kernel_rfl)) (by simp [tabs]) (by kernel_rfl) rfl) (w_isi1 g (ct := (.bt 5)) Z.isi (Z.fr "isinstance" (by kernel_rfl)) (c_bt g (Z.fr "tuple" (by kernel_rfl)) (by kernel_rfl) rfl (by decide)) (w_var g (by kernel_rfl)) (by simp [tabs]) (by kernel_rfl) rfl) rfl)))) (jss_cons (js_ret je_bl)
 jss_nil) jss_nil)
 (jss_cons (js_ret (je_and (w_cmp g (w_len g (Z.fr "len" (by kernel_rfl)) (jl_cons (w_var g (by kernel_rfl)) jl_nil rfl) (by kernel_rfl) rfl) (w_len g (Z.fr "len" (by kernel_rfl)) (jl_cons (w_var g (by kernel_rfl)) jl_nil rfl) (by kernel_rfl) rfl) rfl) (je_one (w_all g (Z.fr "all" (by kernel_rfl)) (jl_cons (w_lc g (own := [("_law_one", 2), ("_law_two", 3)]) (i_zip g (Z.fr "zip" (by kernel_rfl)) (jl_cons (w_var g (by kernel_rfl)) (jl_cons (w_var g (by kernel_rfl)) jl_nil rfl) rfl) (by kernel_rfl) rfl rfl) (b_tp g ⟨rfl, (by kernel_rfl), (by kernel_rfl), (by kernel_rfl)⟩ (.cons (by kernel_rfl) (.cons (by kernel_rfl) .nil)) t_no) (in_blk g (fun _ g1 => (w_call g1 hS (by omega) (jl_cons (w_var g1 (by kernel_rfl)) (jl_cons (w_var g1 (by kernel_rfl)) jl_nil rfl) rfl) (by kernel_rfl) rfl)) rfl) (by kernel_rfl) rfl) jl_nil rfl) (by kernel_rfl) rfl))))
 jss_nil)) jss_nil)
 (jss_cons (js_if (jt_w (jw_or (wt_cmp g (w_var g (by kernel_rfl)) je_non rfl) (jw_or1 (wt_cmp g (w_var g (by kernel_rfl)) je_non rfl)))) (jss_cons (js_ret (je_and (w_cmp g (w_var g (by kernel_rfl)) je_non rfl) (je_one (w_cmp g (w_var g (by kernel_rfl)) je_non rfl))))
 jss_nil) jss_nil)
 (jss_cons (js_if (jt_w (jw_or (wt_cmp g (w_isi1 g (ct := (.bt 2)) Z.isi (Z.fr "isinstance" (by kernel_rfl)) (c_bt g (Z.fr "bool" (by kernel_rfl)) (by kernel_rfl) rfl (by decide)) (w_var g (by kernel_rfl)) (by simp [tabs]) (by kernel_rfl) rfl) (w_isi1 g (ct := (.bt 2)) Z.isi (Z.fr "isinstance" (by kernel_rfl)) (c_bt g (Z.fr "bool" (by kernel_rfl)) (by kernel_rfl) rfl (by decide)) (w_var g (by kernel_rfl)) (by simp [tabs]) (by kernel_rfl) rfl) rfl) (jw_or1 (wt_cmp g (w_isi1 g (ct := (.bt 1)) Z.isi (Z.fr "isinstance" (by kernel_rfl)) (c_bt g (Z.fr "int" (by kernel_rfl)) (by kernel_rfl) rfl (by decide)) (w_var g (by kernel_rfl)) (by simp [tabs]) (by kernel_rfl) rfl) (w_isi1 g (ct := (.bt 1)) Z.isi (Z.fr "isinstance" (by kernel_rfl)) (c_bt g (Z.fr "int" (by kernel_rfl)) (by kernel_rfl) rfl (by decide)) (w_var g (by kernel_rfl)) (by simp [tabs]) (by kernel_rfl) rfl) rfl)))) (jss_cons (js_ret je_bl)
 jss_nil) jss_nil)
 (jss_cons (js_ret (je_and (w_cmp g (w_isi1 g (ct := (.bt 0)) Z.isi (Z.fr "isinstance" (by kernel_rfl)) (c_bt g (Z.fr "str" (by kernel_rfl)) (by kernel_rfl) rfl (by decide)) (w_var g (by kernel_rfl)) (by simp [tabs]) (by kernel_rfl) rfl) (w_isi1 g (ct := (.bt 0)) Z.isi (Z.fr "isinstance" (by kernel_rfl)) (c_bt g (Z.fr "str" (by kernel_rfl)) (by kernel_rfl) rfl (by decide)) (w_var g (by kernel_rfl)) (by simp [tabs]) (by kernel_rfl) rfl) rfl) (je_one (w_cmp g (w_var g (by kernel_rfl)) (w_var g (by kernel_rfl)) rfl))))
 jss_nil))))
theorem fs__law_same : FnScope N__law_same ["_law_found", "_law_due"] (defScope (top 86)) := ⟨(by kernel_rfl), (by kernel_rfl), (by kernel_rfl), by decide +kernel, (by kernel_rfl), by decide +kernel, by decide +kernel⟩
def S__law_same : Nat → Fs
  | 0 => ⟨[false, false], fun _ => .bad⟩
  | n + 1 => ⟨[false, false], runF 4 [false, false] (d__law_same (S__law_same n))⟩
theorem k_S__law_same {G : Gb} (Z : Zx tabs G) : ∀ n, FnG G (0 + n) "_law_same" (S__law_same n)
  | 0 => by
    obtain ⟨fd, F⟩ := Z.fn 39 _ (by rfl)
    exact Z.fnG (by kernel_rfl) F.kp kc_bad
  | n + 1 => by
    obtain ⟨fd, F⟩ := Z.fn 39 _ (by rfl)
    exact Z.fnG (by kernel_rfl) F.kp (kc_plain (N := N__law_same) (den := d__law_same (S__law_same n)) (fl := [false, false]) F fs__law_same rfl (by decide) (fun _ _ _ _ _ _ us hl => match us, hl with | [_, _], _ => rfl) (fun X g b => j__law_same Z (by omega) (k_S__law_same Z n) g b))
def N__law_words : List Str := ["_law_bag_here", "_law_many", "_law_letters", "_law_stem", "_law_k", "_law_at", "_law_first", "_law_tail", "_law_found", "_law_side", "_law_word"]
def d__law_words : SF :=
 (sSeq (sPar [(gNam 2), (gNam 3)] (lCons (eCon (.str "abcdefghijklmnopqrstuvwxyz")) (lCons (eCon (.str "")) lNil)))
 (sSeq (sFor (iRng1 (lCons (eCall S__law_draw (lCons (eVar 0) (lCons (eCon (.int 3)) lNil))) lNil)) (gNam 4) (sSeq (sAsg (gNam 3) (eTwo (bBin .Add) (eVar 3) (eCall S__law_of (lCons (eVar 0) (lCons (eVar 2) lNil)))))
 sSkip))
 (sSeq (sPar [(gNam 5), (gNam 6), (gNam 7)] (lCons (eCall S__law_draw (lCons (eVar 0) (lCons (eTwo (bBin .Add) (eB (bLen) (lCons (eVar 3) lNil)) (eCon (.int 1))) lNil))) (lCons (eCall S__law_draw (lCons (eVar 0) (lCons (eCon (.int 26)) lNil))) (lCons (eCall S__law_of (lCons (eVar 0) (lCons (eLst (lCons (eCon (.str "")) (lCons (eCon (.str "a")) (lCons (eCon (.str "zz")) lNil)))) lNil))) lNil))))
 (sSeq (sPar [(gNam 8), (gNam 9)] (lCons (eLst lNil) (lCons (eCall S__law_draw (lCons (eVar 0) (lCons (eCon (.int 2)) lNil))) lNil)))
 (sSeq (sFor (iRng1 (lCons (eVar 1) lNil)) (gNam 4) (sSeq (sAsg (gNam 10) (eTwo (bBin .Add) (eTwo (bBin .Add) (eSl (eVar 3) oNo (oYes (eVar 5))) (eOp hSub (eVar 2) (eTwo (bBin .Mod) (eB (bInt) (lCons (eTwo (bBin .Add) (eVar 6) (eTwo (bBin .Mult) (eCon (.int 7)) (eVar 4))) lNil)) (eCon (.int 26))))) (eSl (eVar 3) (oYes (eVar 5)) oNo)))
 (sSeq (sExp (eMt "list" cAppend (eVar 8) (lCons (eIf (tBl (eOp (fun a b => .ov (bCmp .Eq a b)) (eTwo (bBin .Mod) (eB (bInt) (lCons (eVar 4) lNil)) (eCon (.int 2))) (eVar 9))) (eTwo (bBin .Add) (eVar 10) (eVar 7)) (eVar 10)) lNil)))
 sSkip)))
 (sSeq (sRet (eVar 8))
 sSkip))))))
theorem j__law_words {G : Gb} (Z : Zx tabs G) {X : Cx} (g : Gc G 2 N__law_words (defScope (top 87)) X) (b : Bd X) : JSs G.T X (defBody (top 87)) d__law_words :=
 (jss_cons (s_par g (jgs_cons (g_nam g b (by kernel_rfl)) (jgs_cons (g_nam g b (by kernel_rfl)) jgs_nil rfl) rfl) (jl_cons je_str (jl_cons je_str jl_nil rfl) rfl) (by kernel_rfl) rfl rfl rfl)
 (jss_cons (s_for g b (i_rng1 g (Z.fr "range" (by kernel_rfl)) (jl_cons (w_call g (k_S__law_draw Z) (by omega) (jl_cons (w_var g (by kernel_rfl)) (jl_cons je_int jl_nil rfl) rfl) (by kernel_rfl) rfl) jl_nil rfl) (by kernel_rfl) rfl) (jgl_of (g_nam g b (by kernel_rfl))) (jss_cons (s_asg g (g_nam g b (by kernel_rfl)) (w_bin g (w_var g (by kernel_rfl)) (w_call g (k_S__law_of Z) (by omega) (jl_cons (w_var g (by kernel_rfl)) (jl_cons (w_var g (by kernel_rfl)) jl_nil rfl) rfl) (by kernel_rfl) rfl)) (by kernel_rfl) rfl rfl)
 jss_nil) rfl)
 (jss_cons (s_swap3 g (jl_cons (w_call g (k_S__law_draw Z) (by omega) (jl_cons (w_var g (by kernel_rfl)) (jl_cons (w_bin g (w_len g (Z.fr "len" (by kernel_rfl)) (jl_cons (w_var g (by kernel_rfl)) jl_nil rfl) (by kernel_rfl) rfl) je_int) jl_nil rfl) rfl) (by kernel_rfl) rfl) (jl_cons (w_call g (k_S__law_draw Z) (by omega) (jl_cons (w_var g (by kernel_rfl)) (jl_cons je_int jl_nil rfl) rfl) (by kernel_rfl) rfl) (jl_cons (w_call g (k_S__law_of Z) (by omega) (jl_cons (w_var g (by kernel_rfl)) (jl_cons (je_lst (jl_cons je_str (jl_cons je_str (jl_cons je_str jl_nil rfl) rfl) rfl)) jl_nil rfl) rfl) (by kernel_rfl) rfl) jl_nil rfl) rfl) rfl) (by kernel_rfl) (by kernel_rfl) (by kernel_rfl) (by kernel_rfl) (by kernel_rfl) (by kernel_rfl))
 (jss_cons (s_swap2 g (jl_cons (je_lst jl_nil) (jl_cons (w_call g (k_S__law_draw Z) (by omega) (jl_cons (w_var g (by kernel_rfl)) (jl_cons je_int jl_nil rfl) rfl) (by kernel_rfl) rfl) jl_nil rfl) rfl) (by kernel_rfl) (by kernel_rfl) (by kernel_rfl) (by kernel_rfl) (by kernel_rfl))
 (jss_cons (s_for g b (i_rng1 g (Z.fr "range" (by kernel_rfl)) (jl_cons (w_var g (by kernel_rfl)) jl_nil rfl) (by kernel_rfl) rfl) (jgl_of (g_nam g b (by kernel_rfl))) (jss_cons (s_asg g (g_nam g b (by kernel_rfl)) (w_bin g (w_bin g (w_sl g (w_var g (by kernel_rfl)) jo_no (jo_yes (w_var g (by kernel_rfl)))) (w_sub g (w_var g (by kernel_rfl)) (w_bin g (w_int g (Z.fr "int" (by kernel_rfl)) (jl_cons (w_bin g (w_var g (by kernel_rfl)) (w_bin g je_int (w_var g (by kernel_rfl)))) jl_nil rfl) (by kernel_rfl) rfl) je_int) rfl)) (w_sl g (w_var g (by kernel_rfl)) (jo_yes (w_var g (by kernel_rfl))) jo_no)) (by kernel_rfl) rfl rfl)
 (jss_cons (s_exp (m_append g (w_var g (by kernel_rfl)) (jl_cons (je_if (wt_cmp g (w_bin g (w_int g (Z.fr "int" (by kernel_rfl)) (jl_cons (w_var g (by kernel_rfl)) jl_nil rfl) (by kernel_rfl) rfl) je_int) (w_var g (by kernel_rfl)) rfl) (w_bin g (w_var g (by kernel_rfl)) (w_var g (by kernel_rfl))) (w_var g (by kernel_rfl))) jl_nil rfl) rfl rfl rfl (by kernel_rfl)) rfl)
 jss_nil)) rfl)
 (jss_cons (js_ret (w_var g (by kernel_rfl)))
 jss_nil))))))
theorem fs__law_words : FnScope N__law_words ["_law_bag_here", "_law_many"] (defScope (top 87)) := ⟨(by kernel_rfl), (by kernel_rfl), (by kernel_rfl), by decide +kernel, (by kernel_rfl), by decide +kernel, by decide +kernel⟩
def S__law_words : Fs := ⟨[true, false], runF 11 [true, false] d__law_words⟩
theorem kc_S__law_words {G : Gb} (Z : Zx tabs G) : Kc G 3 (He.fAd G.T.K ("_law_words", none)) S__law_words := by
  obtain ⟨fd, F⟩ := Z.fn 40 _ (by rfl)
  exact kc_plain (N := N__law_words) (den := d__law_words) (fl := [true, false]) F fs__law_words rfl (by decide) (fun _ _ _ _ _ _ us hl => match us, hl with | [_, _], _ => rfl) (fun X g b => j__law_words Z g b)
theorem k_S__law_words {G : Gb} (Z : Zx tabs G) : FnG G 3 "_law_words" S__law_words := by
  obtain ⟨fd, F⟩ := Z.fn 40 _ (by rfl)
  exact Z.fnG (by kernel_rfl) F.kp (kc_S__law_words Z)
def N__law_made : List Str := ["_law_counts", "_law_late", "_law_name"]
def d__law_made : SF :=
 (sSeq (sAsg (gNam 1) (fun ρ => .ok (.ow (.dic [])) ρ))
 (sSeq (sFor (iVal (eVar 0)) (gNam 2) (sSeq (sAsg (gSubs (eVar 1) (eVar 2)) (eOp hSub (eVar 0) (eVar 2)))
 sSkip))
 (sSeq (sRet (eMake 0 (List.tail S_Heap___init___2.fl) S_Heap___init___2.F (lCons (eVar 1) lNil)))
 sSkip)))
theorem j__law_made {G : Gb} (Z : Zx tabs G) {X : Cx} (g : Gc G 4 N__law_made (defScope (top 88)) X) (b : Bd X) : JSs G.T X (defBody (top 88)) d__law_made :=
 (jss_cons (s_asg g (g_nam g b (by kernel_rfl)) je_dnew (by kernel_rfl) rfl rfl)
 (jss_cons (s_for g b (i_val g (w_var g (by kernel_rfl))) (jgl_of (g_nam g b (by kernel_rfl))) (jss_cons (s_asg g (g_sub g (w_var g (by kernel_rfl)) (w_var g (by kernel_rfl)) rfl) (w_sub g (w_var g (by kernel_rfl)) (w_var g (by kernel_rfl)) rfl) (by kernel_rfl) rfl rfl)
 jss_nil) rfl)
 (jss_cons (js_ret (w_make g (k_S_Heap___init___2 Z) (by omega) (jl_cons (w_var g (by kernel_rfl)) jl_nil rfl) (by kernel_rfl) rfl))
 jss_nil)))
theorem fs__law_made : FnScope N__law_made ["_law_counts"] (defScope (top 88)) := ⟨(by kernel_rfl), (by kernel_rfl), (by kernel_rfl), by decide +kernel, (by kernel_rfl), by decide +kernel, by decide +kernel⟩
def S__law_made : Fs := ⟨[false], runF 3 [false] d__law_made⟩
theorem kc_S__law_made {G : Gb} (Z : Zx tabs G) : Kc G 5 (He.fAd G.T.K ("_law_made", none)) S__law_made := by
  obtain ⟨fd, F⟩ := Z.fn 41 _ (by rfl)
  exact kc_plain (N := N__law_made) (den := d__law_made) (fl := [false]) F fs__law_made rfl (by decide) (fun _ _ _ _ _ _ us hl => match us, hl with | [_], _ => rfl) (fun X g b => j__law_made Z g b)
theorem k_S__law_made {G : Gb} (Z : Zx tabs G) : FnG G 5 "_law_made" S__law_made := by
  obtain ⟨fd, F⟩ := Z.fn 41 _ (by rfl)
  exact Z.fnG (by kernel_rfl) F.kp (kc_S__law_made Z)
def N__law_book : List Str := ["_law_spec", "_law_late", "_law_name"]
def d__law_book : SF :=
 (sSeq (sAsg (gNam 1) (fun ρ => .ok (.ow (.dic [])) ρ))
 (sSeq (sFor (iVal (eVar 0)) (gNam 2) (sSeq (sAsg (gSubs (eVar 1) (eVar 2)) (eIf (tBl (eOp (fun a b => .ov (bCmp .Is a b)) (eOp hSub (eVar 0) (eVar 2)) (eCon .non))) (eCon .non) (eCall S__law_made (lCons (eOp hSub (eVar 0) (eVar 2)) lNil))))
 sSkip))
 (sSeq (sRet (eMake 1 (List.tail S_Book___init__.fl) S_Book___init__.F (lCons (eVar 1) lNil)))
 sSkip)))
theorem j__law_book {G : Gb} (Z : Zx tabs G) {X : Cx} (g : Gc G 5 N__law_book (defScope (top 89)) X) (b : Bd X) : JSs G.T X (defBody (top 89)) d__law_book :=
 (jss_cons (s_asg g (g_nam g b (by kernel_rfl)) je_dnew (by kernel_rfl) rfl rfl)
 (jss_cons (s_for g b (i_val g (w_var g (by kernel_rfl))) (jgl_of (g_nam g b (by kernel_rfl))) (jss_cons (s_asg g (g_sub g (w_var g (by kernel_rfl)) (w_var g (by kernel_rfl)) rfl) (je_if (wt_cmp g (w_sub g (w_var g (by kernel_rfl)) (w_var g (by kernel_rfl)) rfl) je_non rfl) je_non (w_call g (k_S__law_made Z) (by omega) (jl_cons (w_sub g (w_var g (by kernel_rfl)) (w_var g (by kernel_rfl)) rfl) jl_nil rfl) (by kernel_rfl) rfl)) (by kernel_rfl) rfl rfl)
 jss_nil) rfl)
 (jss_cons (js_ret (w_make g (k_S_Book___init__ Z) (by omega) (jl_cons (w_var g (by kernel_rfl)) jl_nil rfl) (by kernel_rfl) rfl))
 jss_nil)))
theorem fs__law_book : FnScope N__law_book ["_law_spec"] (defScope (top 89)) := ⟨(by kernel_rfl), (by kernel_rfl), (by kernel_rfl), by decide +kernel, (by kernel_rfl), by decide +kernel, by decide +kernel⟩
def S__law_book : Fs := ⟨[false], runF 3 [false] d__law_book⟩
theorem kc_S__law_book {G : Gb} (Z : Zx tabs G) : Kc G 6 (He.fAd G.T.K ("_law_book", none)) S__law_book := by
  obtain ⟨fd, F⟩ := Z.fn 42 _ (by rfl)
  exact kc_plain (N := N__law_book) (den := d__law_book) (fl := [false]) F fs__law_book rfl (by decide) (fun _ _ _ _ _ _ us hl => match us, hl with | [_], _ => rfl) (fun X g b => j__law_book Z g b)
theorem k_S__law_book {G : Gb} (Z : Zx tabs G) : FnG G 6 "_law_book" S__law_book := by
  obtain ⟨fd, F⟩ := Z.fn 42 _ (by rfl)
  exact Z.fnG (by kernel_rfl) F.kp (kc_S__law_book Z)
def N__law_plus : List Str := ["_law_one", "_law_other", "_law_times", "_law_found", "_law_name"]
def d__law_plus : SF :=
 (sSeq (sAsg (gNam 3) (fun ρ => .ok (.ow (.dic [])) ρ))
 (sSeq (sFor (iVal (eTwo (bBin .Add) (eB (bList) (lCons (eVar 0) lNil)) (eB (bList) (lCons (eVar 1) lNil)))) (gNam 4) (sSeq (sAsg (gSubs (eVar 3) (eVar 4)) (eTwo (bBin .Add) (eBm "dict" bGet (eVar 0) (lCons (eVar 4) (lCons (eCon (.int 0)) lNil))) (eTwo (bBin .Mult) (eVar 2) (eBm "dict" bGet (eVar 1) (lCons (eVar 4) (lCons (eCon (.int 0)) lNil))))))
 sSkip))
 (sSeq (sRet (eVar 3))
 sSkip)))
theorem j__law_plus {G : Gb} (Z : Zx tabs G) {X : Cx} (g : Gc G 0 N__law_plus (defScope (top 90)) X) (b : Bd X) : JSs G.T X (defBody (top 90)) d__law_plus :=
 (jss_cons (s_asg g (g_nam g b (by kernel_rfl)) je_dnew (by kernel_rfl) rfl rfl)
 (jss_cons (s_for g b (i_val g (w_bin g (w_list g (Z.fr "list" (by kernel_rfl)) (jl_cons (w_var g (by kernel_rfl)) jl_nil rfl) (by kernel_rfl) rfl) (w_list g (Z.fr "list" (by kernel_rfl)) (jl_cons (w_var g (by kernel_rfl)) jl_nil rfl) (by kernel_rfl) rfl))) (jgl_of (g_nam g b (by kernel_rfl))) (jss_cons (s_asg g (g_sub g (w_var g (by kernel_rfl)) (w_var g (by kernel_rfl)) rfl) (w_bin g (m_get g (w_var g (by kernel_rfl)) (jl_cons (w_var g (by kernel_rfl)) (jl_cons je_int jl_nil rfl) rfl) rfl rfl rfl (by kernel_rfl)) (w_bin g (w_var g (by kernel_rfl)) (m_get g (w_var g (by kernel_rfl)) (jl_cons (w_var g (by kernel_rfl)) (jl_cons je_int jl_nil rfl) rfl) rfl rfl rfl (by kernel_rfl)))) (by kernel_rfl) rfl rfl)
 jss_nil) rfl)
 (jss_cons (js_ret (w_var g (by kernel_rfl)))
 jss_nil)))
theorem fs__law_plus : FnScope N__law_plus ["_law_one", "_law_other", "_law_times"] (defScope (top 90)) := ⟨(by kernel_rfl), (by kernel_rfl), (by kernel_rfl), by decide +kernel, (by kernel_rfl), by decide +kernel, by decide +kernel⟩
def S__law_plus : Fs := ⟨[false, false, false], runF 5 [false, false, false] d__law_plus⟩
theorem kc_S__law_plus {G : Gb} (Z : Zx tabs G) : Kc G 1 (He.fAd G.T.K ("_law_plus", none)) S__law_plus := by
  obtain ⟨fd, F⟩ := Z.fn 43 _ (by rfl)
  exact kc_plain (N := N__law_plus) (den := d__law_plus) (fl := [false, false, false]) F fs__law_plus rfl (by decide) (fun _ _ _ _ _ _ us hl => match us, hl with | [_, _, _], _ => rfl) (fun X g b => j__law_plus Z g b)
theorem k_S__law_plus {G : Gb} (Z : Zx tabs G) : FnG G 1 "_law_plus" S__law_plus := by
  obtain ⟨fd, F⟩ := Z.fn 43 _ (by rfl)
  exact Z.fnG (by kernel_rfl) F.kp (kc_S__law_plus Z)
def N__law_worth : List Str := ["_law_table", "_law_modulus", "_law_counts", "_law_total", "_law_name"]
def d__law_worth : SF :=
 (sSeq (sAsg (gNam 3) (eCon (.int 0)))
 (sSeq (sFor (iVal (eVar 2)) (gNam 4) (sSeq (sIf (tAndF (tBl (eOp (fun a b => .ov (bCmp .Gt a b)) (eOp hSub (eVar 2) (eVar 4)) (eCon (.int 0)))) (tBl (eOp (fun a b => .ov (bCmp .Is a b)) (eOp hSub (eVar 0) (eVar 4)) (eCon .non)))) (sSeq (sRet (eCon .non))
 sSkip) sSkip)
 (sSeq (sAsg (gNam 3) (eTwo (bBin .Add) (eVar 3) (eIf (tBl (eOp (fun a b => .ov (bCmp .Gt a b)) (eOp hSub (eVar 2) (eVar 4)) (eCon (.int 0)))) (eTwo (bBin .Mult) (eOp hSub (eVar 2) (eVar 4)) (eOp hSub (eVar 0) (eVar 4))) (eCon (.int 0)))))
 sSkip)))
 (sSeq (sRet (eIf (tBl (eOp (fun a b => .ov (bCmp .Gt a b)) (eVar 1) (eCon (.int 0)))) (eTwo (bBin .Mod) (eB (bInt) (lCons (eVar 3) lNil)) (eVar 1)) (eVar 3)))
 sSkip)))
theorem j__law_worth {G : Gb} (Z : Zx tabs G) {X : Cx} (g : Gc G 0 N__law_worth (defScope (top 91)) X) (b : Bd X) : JSs G.T X (defBody (top 91)) d__law_worth :=
 (jss_cons (s_asg g (g_nam g b (by kernel_rfl)) je_int (by kernel_rfl) rfl rfl)
 (jss_cons (s_for g b (i_val g (w_var g (by kernel_rfl))) (jgl_of (g_nam g b (by kernel_rfl))) (jss_cons (js_if (jt_w (jw_and (wt_cmp g (w_sub g (w_var g (by kernel_rfl)) (w_var g (by kernel_rfl)) rfl) je_int rfl) (jw_and1 (wt_cmp g (w_sub g (w_var g (by kernel_rfl)) (w_var g (by kernel_rfl)) rfl) je_non rfl)))) (jss_cons (js_ret je_non)
 jss_nil) jss_nil)
 (jss_cons (s_asg g (g_nam g b (by kernel_rfl)) (w_bin g (w_var g (by kernel_rfl)) (je_if (wt_cmp g (w_sub g (w_var g (by kernel_rfl)) (w_var g (by kernel_rfl)) rfl) je_int rfl) (w_bin g (w_sub g (w_var g (by kernel_rfl)) (w_var g (by kernel_rfl)) rfl) (w_sub g (w_var g (by kernel_rfl)) (w_var g (by kernel_rfl)) rfl)) je_int)) (by kernel_rfl) rfl rfl)
 jss_nil)) rfl)
 (jss_cons (js_ret (je_if (wt_cmp g (w_var g (by kernel_rfl)) je_int rfl) (w_bin g (w_int g (Z.fr "int" (by kernel_rfl)) (jl_cons (w_var g (by kernel_rfl)) jl_nil rfl) (by kernel_rfl) rfl) (w_var g (by kernel_rfl))) (w_var g (by kernel_rfl))))
 jss_nil)))
theorem fs__law_worth : FnScope N__law_worth ["_law_table", "_law_modulus", "_law_counts"] (defScope (top 91)) := ⟨(by kernel_rfl), (by kernel_rfl), (by kernel_rfl), by decide +kernel, (by kernel_rfl), by decide +kernel, by decide +kernel⟩
def S__law_worth : Fs := ⟨[false, false, false], runF 5 [false, false, false] d__law_worth⟩
theorem kc_S__law_worth {G : Gb} (Z : Zx tabs G) : Kc G 1 (He.fAd G.T.K ("_law_worth", none)) S__law_worth := by
  obtain ⟨fd, F⟩ := Z.fn 44 _ (by rfl)
  exact kc_plain (N := N__law_worth) (den := d__law_worth) (fl := [false, false, false]) F fs__law_worth rfl (by decide) (fun _ _ _ _ _ _ us hl => match us, hl with | [_, _, _], _ => rfl) (fun X g b => j__law_worth Z g b)
theorem k_S__law_worth {G : Gb} (Z : Zx tabs G) : FnG G 1 "_law_worth" S__law_worth := by
  obtain ⟨fd, F⟩ := Z.fn 44 _ (by rfl)
  exact Z.fnG (by kernel_rfl) F.kp (kc_S__law_worth Z)
def N__law_honest : List Str := ["_law_spec", "_law_table", "_law_modulus", "_law_name", "_law_low"]
def d__law_honest : SF :=
 (sSeq (sFor (iVal (eVar 0)) (gNam 3) (sSeq (sAsg (gNam 4) (eIf (tOrF (tBl (eOp (fun a b => .ov (bCmp .Is a b)) (eOp hSub (eVar 1) (eVar 3)) (eCon .non))) (tBl (eOp (fun a b => .ov (bCmp .Eq a b)) (eVar 2) (eCon (.int 0))))) (eOp hSub (eVar 1) (eVar 3)) (eTwo (bBin .Mod) (eB (bInt) (lCons (eOp hSub (eVar 1) (eVar 3)) lNil)) (eVar 2))))
 (sSeq (sIf (tAndF (tBl (eOp (fun a b => .ov (bCmp .IsNot a b)) (eOp hSub (eVar 0) (eVar 3)) (eCon .non))) (tBl (eOp (fun a b => .ov (bCmp .NotEq a b)) (eCall S__law_worth (lCons (eVar 1) (lCons (eVar 2) (lCons (eOp hSub (eVar 0) (eVar 3)) lNil)))) (eVar 4)))) (sSeq (sRet (eCon (.bl false)))
 sSkip) sSkip)
 sSkip)))
 (sSeq (sRet (eCon (.bl true)))
 sSkip))
theorem j__law_honest {G : Gb} (Z : Zx tabs G) {X : Cx} (g : Gc G 1 N__law_honest (defScope (top 92)) X) (b : Bd X) : JSs G.T X (defBody (top 92)) d__law_honest :=
 (jss_cons (s_for g b (i_val g (w_var g (by kernel_rfl))) (jgl_of (g_nam g b (by kernel_rfl))) (jss_cons (s_asg g (g_nam g b (by kernel_rfl)) (je_if (jt_w (jw_or (wt_cmp g (w_sub g (w_var g (by kernel_rfl)) (w_var g (by kernel_rfl)) rfl) je_non rfl) (jw_or1 (wt_cmp g (w_var g (by kernel_rfl)) je_int rfl)))) (w_sub g (w_var g (by kernel_rfl)) (w_var g (by kernel_rfl)) rfl) (w_bin g (w_int g (Z.fr "int" (by kernel_rfl)) (jl_cons (w_sub g (w_var g (by kernel_rfl)) (w_var g (by kernel_rfl)) rfl) jl_nil rfl) (by kernel_rfl) rfl) (w_var g (by kernel_rfl)))) (by kernel_rfl) rfl rfl)
 (jss_cons (js_if (jt_w (jw_and (wt_cmp g (w_sub g (w_var g (by kernel_rfl)) (w_var g (by kernel_rfl)) rfl) je_non rfl) (jw_and1 (wt_cmp g (w_call g (k_S__law_worth Z) (by omega) (jl_cons (w_var g (by kernel_rfl)) (jl_cons (w_var g (by kernel_rfl)) (jl_cons (w_sub g (w_var g (by kernel_rfl)) (w_var g (by kernel_rfl)) rfl) jl_nil rfl) rfl) rfl) (by kernel_rfl) rfl) (w_var g (by kernel_rfl)) rfl)))) (jss_cons (js_ret je_bl)
 jss_nil) jss_nil)
 jss_nil)) rfl)
 (jss_cons (js_ret je_bl)
 jss_nil))
theorem fs__law_honest : FnScope N__law_honest ["_law_spec", "_law_table", "_law_modulus"] (defScope (top 92)) := ⟨(by kernel_rfl), (by kernel_rfl), (by kernel_rfl), by decide +kernel, (by kernel_rfl), by decide +kernel, by decide +kernel⟩
def S__law_honest : Fs := ⟨[false, false, false], runF 5 [false, false, false] d__law_honest⟩
theorem kc_S__law_honest {G : Gb} (Z : Zx tabs G) : Kc G 2 (He.fAd G.T.K ("_law_honest", none)) S__law_honest := by
  obtain ⟨fd, F⟩ := Z.fn 45 _ (by rfl)
  exact kc_plain (N := N__law_honest) (den := d__law_honest) (fl := [false, false, false]) F fs__law_honest rfl (by decide) (fun _ _ _ _ _ _ us hl => match us, hl with | [_, _, _], _ => rfl) (fun X g b => j__law_honest Z g b)
theorem k_S__law_honest {G : Gb} (Z : Zx tabs G) : FnG G 2 "_law_honest" S__law_honest := by
  obtain ⟨fd, F⟩ := Z.fn 45 _ (by rfl)
  exact Z.fnG (by kernel_rfl) F.kp (kc_S__law_honest Z)
def N__law_whole : List Str := ["_law_value"]
def d__law_whole : SF :=
 (sSeq (sRet (eAnd (eIsi [(.bt 1)] (eVar 0)) (eNot (tVal (eIsi [(.bt 2)] (eVar 0))))))
 sSkip)
theorem j__law_whole {G : Gb} (Z : Zx tabs G) {X : Cx} (g : Gc G 0 N__law_whole (defScope (top 93)) X) (b : Bd X) : JSs G.T X (defBody (top 93)) d__law_whole :=
 (jss_cons (js_ret (je_and (w_isi1 g (ct := (.bt 1)) Z.isi (Z.fr "isinstance" (by kernel_rfl)) (c_bt g (Z.fr "int" (by kernel_rfl)) (by kernel_rfl) rfl (by decide)) (w_var g (by kernel_rfl)) (by simp [tabs]) (by kernel_rfl) rfl) (je_one (w_not g (w_isi1 g (ct := (.bt 2)) Z.isi (Z.fr "isinstance" (by kernel_rfl)) (c_bt g (Z.fr "bool" (by kernel_rfl)) (by kernel_rfl) rfl (by decide)) (w_var g (by kernel_rfl)) (by simp [tabs]) (by kernel_rfl) rfl)))))
 jss_nil)
theorem fs__law_whole : FnScope N__law_whole ["_law_value"] (defScope (top 93)) := ⟨(by kernel_rfl), (by kernel_rfl), (by kernel_rfl), by decide +kernel, (by kernel_rfl), by decide +kernel, by decide +kernel⟩
def S__law_whole : Fs := ⟨[false], runF 1 [false] d__law_whole⟩
theorem kc_S__law_whole {G : Gb} (Z : Zx tabs G) : Kc G 1 (He.fAd G.T.K ("_law_whole", none)) S__law_whole := by
  obtain ⟨fd, F⟩ := Z.fn 46 _ (by rfl)
  exact kc_plain (N := N__law_whole) (den := d__law_whole) (fl := [false]) F fs__law_whole rfl (by decide) (fun _ _ _ _ _ _ us hl => match us, hl with | [_], _ => rfl) (fun X g b => j__law_whole Z g b)
theorem k_S__law_whole {G : Gb} (Z : Zx tabs G) : FnG G 1 "_law_whole" S__law_whole := by
  obtain ⟨fd, F⟩ := Z.fn 46 _ (by rfl)
  exact Z.fnG (by kernel_rfl) F.kp (kc_S__law_whole Z)
def N__law_list_so : List Str := ["_law_spec", "_law_worths", "_law_table", "_law_modulus", "_law_name"]
def d__law_list_so : SF :=
 (sSeq (sIf (tNotF (tVal (eIsi [(.own 2)] (eVar 1)))) (sSeq (sRet (eCon (.bl false)))
 sSkip) sSkip)
 (sSeq (sPar [(gNam 2), (gNam 3)] (lCons (eMeth (fun c => List.lookup c [(2, S_WorthList_table)]) 22 (eVar 1) lNil) (lCons (eFld (fun c => [2].contains c) 5 (eVar 1)) lNil)))
 (sSeq (sIf (tOrF (tNotF (tVal (eCall S__law_whole (lCons (eVar 3) lNil)))) (tOrF (tBl (eOp (fun a b => .ov (bCmp .Lt a b)) (eVar 3) (eCon (.int 0)))) (tBl (eOp (fun a b => .ov (bCmp .NotEq a b)) (eB (bList) (lCons (eVar 2) lNil)) (eB (bSorted) (lCons (eB (bList) (lCons (eVar 0) lNil)) lNil)))))) (sSeq (sRet (eCon (.bl false)))
 sSkip) sSkip)
 (sSeq (sIf (tNotF (tVal (eB (bFold fun bs => bs.all id) (lCons (eLc (iVal (eVar 2)) (.nm 4) tYesF (eOr (eOp (fun a b => .ov (bCmp .Is a b)) (eOp hSub (eVar 2) (eVar 4)) (eCon .non)) (eCall S__law_whole (lCons (eOp hSub (eVar 2) (eVar 4)) lNil))) [4]) lNil)))) (sSeq (sRet (eCon (.bl false)))
 sSkip) sSkip)
 (sSeq (sRet (eCall S__law_honest (lCons (eVar 0) (lCons (eVar 2) (lCons (eVar 3) lNil)))))
 sSkip)))))
theorem j__law_list_so {G : Gb} (Z : Zx tabs G) {X : Cx} (g : Gc G 2 N__law_list_so (defScope (top 94)) X) (b : Bd X) : JSs G.T X (defBody (top 94)) d__law_list_so :=
 (jss_cons (js_if (jt_not (jt_val g.K (w_isi1 g (ct := (.own 2)) Z.isi (Z.fr "isinstance" (by kernel_rfl)) (c_own g (Z.clAt 2 (by kernel_rfl)) (Z.gl "WorthList" (by kernel_rfl)) (by kernel_rfl)) (w_var g (by kernel_rfl)) (by simp [tabs]) (by kernel_rfl) rfl) (fun _ => rfl))) (jss_cons (js_ret je_bl)
 jss_nil) jss_nil)
 (jss_cons (s_par g (jgs_cons (g_nam g b (by kernel_rfl)) (jgs_cons (g_nam g b (by kernel_rfl)) jgs_nil rfl) rfl) (jl_cons (w_meth0 g (l := [(2, S_WorthList_table)]) (.cons 1 (by omega) (k_S_WorthList_table Z) .nil) Z.nd (Z.nmAt 22 _ (by kernel_rfl)) (w_var g (by kernel_rfl)) rfl (by kernel_rfl)) (jl_cons (w_fld g (cs := [2]) Z.nd (Z.nmAt 5 _ (by kernel_rfl)) (Z.fd "modulus" [2] (by kernel_rfl)) (w_var g (by kernel_rfl)) rfl) jl_nil rfl) rfl) (by kernel_rfl) rfl rfl rfl)
 (jss_cons (js_if (jt_w (jw_or (jt_not (jt_val g.K (w_call g (k_S__law_whole Z) (by omega) (jl_cons (w_var g (by kernel_rfl)) jl_nil rfl) (by kernel_rfl) rfl) (fun _ => rfl))) (jw_or (wt_cmp g (w_var g (by kernel_rfl)) je_int rfl) (jw_or1 (wt_cmp g (w_list g (Z.fr "list" (by kernel_rfl)) (jl_cons (w_var g (by kernel_rfl)) jl_nil rfl) (by kernel_rfl) rfl) (w_sorted g (Z.fr "sorted" (by kernel_rfl)) (jl_cons (w_list g (Z.fr "list" (by kernel_rfl)) (jl_cons (w_var g (by kernel_rfl)) jl_nil rfl) (by kernel_rfl) rfl) jl_nil rfl) (by kernel_rfl) rfl) rfl))))) (jss_cons (js_ret je_bl)
 jss_nil) jss_nil)
 (jss_cons (js_if (jt_not (jt_val g.K (w_all g (Z.fr "all" (by kernel_rfl)) (jl_cons (w_lc g (own := [("_law_name", 4)]) (i_val g (w_var g (by kernel_rfl))) (b_nm g ⟨rfl, (by kernel_rfl), (by kernel_rfl), (by kernel_rfl)⟩ (by kernel_rfl) t_no) (in_blk g (fun _ g1 => (je_or (w_cmp g1 (w_sub g1 (w_var g1 (by kernel_rfl)) (w_var g1 (by kernel_rfl)) rfl) je_non rfl) (je_one (w_call g1 (k_S__law_whole Z) (by omega) (jl_cons (w_sub g1 (w_var g1 (by kernel_rfl)) (w_var g1 (by kernel_rfl)) rfl) jl_nil rfl) (by kernel_rfl) rfl)))) rfl) (by kernel_rfl) rfl) jl_nil rfl) (by kernel_rfl) rfl) (fun _ => rfl))) (jss_cons (js_ret je_bl)
 jss_nil) jss_nil)
 (jss_cons (js_ret (w_call g (k_S__law_honest Z) (by omega) (jl_cons (w_var g (by kernel_rfl)) (jl_cons (w_var g (by kernel_rfl)) (jl_cons (w_var g (by kernel_rfl)) jl_nil rfl) rfl) rfl) (by kernel_rfl) rfl))
 jss_nil)))))
theorem fs__law_list_so : FnScope N__law_list_so ["_law_spec", "_law_worths"] (defScope (top 94)) := ⟨(by kernel_rfl), (by kernel_rfl), (by kernel_rfl), by decide +kernel, (by kernel_rfl), by decide +kernel, by decide +kernel⟩
def S__law_list_so : Fs := ⟨[false, false], runF 5 [false, false] d__law_list_so⟩
theorem kc_S__law_list_so {G : Gb} (Z : Zx tabs G) : Kc G 3 (He.fAd G.T.K ("_law_list_so", none)) S__law_list_so := by
  obtain ⟨fd, F⟩ := Z.fn 47 _ (by rfl)
  exact kc_plain (N := N__law_list_so) (den := d__law_list_so) (fl := [false, false]) F fs__law_list_so rfl (by decide) (fun _ _ _ _ _ _ us hl => match us, hl with | [_, _], _ => rfl) (fun X g b => j__law_list_so Z g b)
theorem k_S__law_list_so {G : Gb} (Z : Zx tabs G) : FnG G 3 "_law_list_so" S__law_list_so := by
  obtain ⟨fd, F⟩ := Z.fn 47 _ (by rfl)
  exact Z.fnG (by kernel_rfl) F.kp (kc_S__law_list_so Z)
end Pu
namespace Pu
open PySem PySem.Spec PyProof.Rows L2
def N__law_parted_so : List Str := ["_law_spec", "_law_one", "_law_other", "_law_worths", "_law_table"]
def d__law_parted_so : SF :=
 (sSeq (sIf (tNotF (tVal (eCall S__law_list_so (lCons (eVar 0) (lCons (eVar 3) lNil))))) (sSeq (sRet (eCon (.bl false)))
 sSkip) sSkip)
 (sSeq (sAsg (gNam 4) (eMeth (fun c => List.lookup c [(2, S_WorthList_table)]) 22 (eVar 3) lNil))
 (sSeq (sRet (eOp (fun a b => .ov (bCmp .NotEq a b)) (eCall S__law_worth (lCons (eVar 4) (lCons (eFld (fun c => [2].contains c) 5 (eVar 3)) (lCons (eVar 1) lNil)))) (eCall S__law_worth (lCons (eVar 4) (lCons (eFld (fun c => [2].contains c) 5 (eVar 3)) (lCons (eVar 2) lNil))))))
 sSkip)))
theorem j__law_parted_so {G : Gb} (Z : Zx tabs G) {X : Cx} (g : Gc G 3 N__law_parted_so (defScope (top 95)) X) (b : Bd X) : JSs G.T X (defBody (top 95)) d__law_parted_so :=
 (jss_cons (js_if (jt_not (jt_val g.K (w_call g (k_S__law_list_so Z) (by omega) (jl_cons (w_var g (by kernel_rfl)) (jl_cons (w_var g (by kernel_rfl)) jl_nil rfl) rfl) (by kernel_rfl) rfl) (fun _ => rfl))) (jss_cons (js_ret je_bl)
 jss_nil) jss_nil)
 (jss_cons (s_asg g (g_nam g b (by kernel_rfl)) (w_meth0 g (l := [(2, S_WorthList_table)]) (.cons 1 (by omega) (k_S_WorthList_table Z) .nil) Z.nd (Z.nmAt 22 _ (by kernel_rfl)) (w_var g (by kernel_rfl)) rfl (by kernel_rfl)) (by kernel_rfl) rfl rfl)
 (jss_cons (js_ret (w_cmp g (w_call g (k_S__law_worth Z) (by omega) (jl_cons (w_var g (by kernel_rfl)) (jl_cons (w_fld g (cs := [2]) Z.nd (Z.nmAt 5 _ (by kernel_rfl)) (Z.fd "modulus" [2] (by kernel_rfl)) (w_var g (by kernel_rfl)) rfl) (jl_cons (w_var g (by kernel_rfl)) jl_nil rfl) rfl) rfl) (by kernel_rfl) rfl) (w_call g (k_S__law_worth Z) (by omega) (jl_cons (w_var g (by kernel_rfl)) (jl_cons (w_fld g (cs := [2]) Z.nd (Z.nmAt 5 _ (by kernel_rfl)) (Z.fd "modulus" [2] (by kernel_rfl)) (w_var g (by kernel_rfl)) rfl) (jl_cons (w_var g (by kernel_rfl)) jl_nil rfl) rfl) rfl) (by kernel_rfl) rfl) rfl))
 jss_nil)))
theorem fs__law_parted_so : FnScope N__law_parted_so ["_law_spec", "_law_one", "_law_other", "_law_worths"] (defScope (top 95)) := ⟨(by kernel_rfl), (by kernel_rfl), (by kernel_rfl), by decide +kernel, (by kernel_rfl), by decide +kernel, by decide +kernel⟩
def S__law_parted_so : Fs := ⟨[false, false, false, false], runF 5 [false, false, false, false] d__law_parted_so⟩
theorem kc_S__law_parted_so {G : Gb} (Z : Zx tabs G) : Kc G 4 (He.fAd G.T.K ("_law_parted_so", none)) S__law_parted_so := by
  obtain ⟨fd, F⟩ := Z.fn 48 _ (by rfl)
  exact kc_plain (N := N__law_parted_so) (den := d__law_parted_so) (fl := [false, false, false, false]) F fs__law_parted_so rfl (by decide) (fun _ _ _ _ _ _ us hl => match us, hl with | [_, _, _, _], _ => rfl) (fun X g b => j__law_parted_so Z g b)
theorem k_S__law_parted_so {G : Gb} (Z : Zx tabs G) : FnG G 4 "_law_parted_so" S__law_parted_so := by
  obtain ⟨fd, F⟩ := Z.fn 48 _ (by rfl)
  exact Z.fnG (by kernel_rfl) F.kp (kc_S__law_parted_so Z)
def N_law : List Str := ["_law_script", "_law_bag_here", "_law_turn", "_law_rooms", "_law_kinds", "_law_many", "_law_a", "_law_b", "_law_spec", "_law_book_here", "_law_times", "_law_one", "_law_other", "_law_table", "_law_worths", "_law_counts", "_law_starts", "_law_low", "_law_due", "_law_paper", "_law_odd", "_law_lost", "_law_wild", "_law_bad", "_law_wrong", "_law_far", "_law_near", "_law_part", "_law_papers", "_law_late"]
def d_law : SF :=
 (sSeq (sAsg (gNam 1) (eCall S__law_bag (lCons (eVar 0) lNil)))
 (sSeq (sFor (iRng1 (lCons (eCon (.int 3)) lNil)) (gNam 2) (sSeq (sPar [(gNam 3), (gNam 4), (gNam 5)] (lCons (eCall S__law_words (lCons (eVar 1) (lCons (eCon (.int 2)) lNil))) (lCons (eB (bSorted) (lCons (eCall S__law_words (lCons (eVar 1) (lCons (eCon (.int 2)) lNil))) lNil)) (lCons (eTwo (bBin .Add) (eCon (.int 2)) (eCall S__law_draw (lCons (eVar 1) (lCons (eCon (.int 8)) lNil)))) lNil))))
 (sSeq (sAsg (gTupD [(gNam 6), (gNam 7)]) (eVar 4))
 (sSeq (sAsg (gNam 8) (fun ρ => .ok (.ow (.dic [])) ρ))
 (sSeq (sPar [(gSubs (eVar 8) (eVar 6)), (gSubs (eVar 8) (eVar 7))] (lCons (eDisp [((eVar 6), (eCon (.int 1))), ((eVar 7), (eVar 5))]) (lCons (eCon .non) lNil)))
 (sSeq (sPar [(gNam 9), (gNam 10)] (lCons (eCall S__law_book (lCons (eVar 8) lNil)) (lCons (eCall S__law_draw (lCons (eVar 1) (lCons (eCon (.int 12)) lNil))) lNil)))
 (sSeq (sPar [(gNam 11), (gNam 12)] (lCons (eMake 3 (List.tail S_Script___init___s1.fl) S_Script___init___s1.F (lCons (eVar 9) (lCons (eVar 3) (lCons (eTup (lCons (eCon (.str "times")) (lCons (eOp hSub (eVar 3) (eCon (.int 0))) (lCons (eVar 10) lNil)))) lNil)))) (lCons (eMake 3 (List.tail S_Script___init___s1.fl) S_Script___init___s1.F (lCons (eVar 9) (lCons (eVar 3) (lCons (eTup (lCons (eCon (.str "put")) (lCons (eOp hSub (eVar 3) (eCon (.int 1))) (lCons (eMake 0 (List.tail S_Heap___init___1.fl) S_Heap___init___1.F lNil) lNil)))) lNil)))) lNil)))
 (sSeq (sAsg (gNam 13) (fun ρ => .ok (.ow (.dic [])) ρ))
 (sSeq (sPar [(gSubs (eVar 13) (eVar 6)), (gSubs (eVar 13) (eVar 7))] (lCons (eCall S__law_draw (lCons (eVar 1) (lCons (eVar 5) lNil))) (lCons (eCon (.int 1)) lNil)))
 (sSeq (sAsg (gNam 14) (eMakeK 2 2 1 (fun ds es => ds ++ es) (runF 5 [true, false, false, false] d_WorthList___init__) (lCons (eCall S__law_of (lCons (eVar 1) (lCons (eLst (lCons (eVar 9) (lCons (eCall S__law_book (lCons (eVar 8) lNil)) lNil))) lNil))) (lCons (eVar 13) lNil)) (lCons (eCall S__law_of (lCons (eVar 1) (lCons (eLst (lCons (eVar 5) (lCons (eVar 5) (lCons (eCon (.int 0)) (lCons (eCon (.int 2)) lNil))))) lNil))) lNil)))
 (sSeq (sAsg (gNam 15) (fun ρ => .ok (.ow (.dic [])) ρ))
 (sSeq (sPar [(gSubs (eVar 15) (eVar 6)), (gSubs (eVar 15) (eVar 7))] (lCons (eCall S__law_draw (lCons (eVar 1) (lCons (eCon (.int 4)) lNil))) (lCons (eCall S__law_draw (lCons (eVar 1) (lCons (eCon (.int 60)) lNil))) lNil)))
 (sSeq (sAsg (gNam 16) (fun ρ => .ok (.ow (.dic [])) ρ))
 (sSeq (sAsg (gSubs (eVar 16) (eOp hSub (eVar 3) (eCon (.int 0)))) (eCall S__law_made (lCons (eVar 15) lNil)))
 (sSeq (sAsg (gNam 17) (eMeth (fun c => List.lookup c [(2, S_WorthList_table)]) 22 (eVar 14) lNil))
 (sSeq (sAsg (gNam 18) (eCall S__law_parted_so (lCons (eVar 8) (lCons (eCall S__law_plus (lCons (fun ρ => .ok (.ow (.dic [])) ρ) (lCons (eVar 15) (lCons (eVar 10) lNil)))) (lCons (eVar 15) (lCons (eVar 14) lNil))))))
 (sSeq (sAsg (gNam 19) (eMake 4 (List.tail S_Differ___init__.fl) S_Differ___init__.F (lCons (eVar 11) (lCons (eVar 12) (lCons (eVar 16) (lCons (eOp hSub (eVar 3) (eCon (.int 0))) (lCons (eVar 14) lNil)))))))
 (sSeq (sIf (tNotF (tVal (eCall (S__law_same 2) (lCons (eLst (lCons (eMeth (fun c => List.lookup c [(4, S_Differ_holds)]) 23 (eVar 19) lNil) (lCons (eRepr [(4, S_Differ___repr__)] (lCons (eVar 19) lNil)) (lCons (eMeth (fun c => List.lookup c [(4, S_Differ_holds)]) 23 (eVar 19) lNil) (lCons (eFld (fun c => [4].contains c) 17 (eVar 19)) lNil))))) (lCons (eLst (lCons (eVar 18) (lCons (eTwo (bBin .Add) (eTwo (bBin .Add) (eCon (.str "Differ(")) (eOp hSub (eVar 3) (eCon (.int 0)))) (eCon (.str ")"))) (lCons (eVar 18) (lCons (eOp hSub (eVar 3) (eCon (.int 0))) lNil))))) lNil))))) (sSeq (sRet (eCon (.bl false)))
 sSkip) sSkip)
 (sSeq (sIf (tOrF (tVal (eMeth (fun c => List.lookup c [(4, S_Differ_holds)]) 23 (eMake 4 (List.tail S_Differ___init__.fl) S_Differ___init__.F (lCons (eVar 11) (lCons (eVar 12) (lCons (eVar 16) (lCons (eOp hSub (eVar 3) (eCon (.int 1))) (lCons (eVar 14) lNil)))))) lNil)) (tOrF (tVal (eMeth (fun c => List.lookup c [(4, S_Differ_holds)]) 23 (eMake 4 (List.tail S_Differ___init__.fl) S_Differ___init__.F (lCons (eVar 11) (lCons (eVar 11) (lCons (eVar 16) (lCons (eOp hSub (eVar 3) (eCon (.int 0))) (lCons (eVar 14) lNil)))))) lNil)) (tBl (eOp (hEqA true .NotEq [(0, S_Heap___eq__), (1, S_Book___eq__)]) (eMeth (fun c => List.lookup c [(2, S_WorthList_table)]) 22 (eFld (fun c => [4].contains c) 16 (eVar 19)) lNil) (eVar 17))))) (sSeq (sRet (eCon (.bl false)))
 sSkip) sSkip)
 (sSeq (sAsg (gNam 20) (eCall S__law_of (lCons (eVar 1) (lCons (eLst (lCons (eCon .non) (lCons (eCon (.int 3)) (lCons (eCon (.str "xxxxxx")) (lCons (eLst (lCons (eCon (.str "a")) lNil)) (lCons (eTup lNil) (lCons (eCon (.bl true)) lNil))))))) lNil))))
 (sSeq (sPar [(gNam 21), (gNam 22), (gNam 23)] (lCons (eDicIt (eVar 16)) (lCons (fun ρ => .ok (.ow (.dic [])) ρ) (lCons (fun ρ => .ok (.ow (.dic [])) ρ) lNil))))
 (sSeq (sPar [(gSubs (eVar 21) (eCon (.str "xxxxxx"))), (gSubs (eVar 22) (eOp hSub (eVar 3) (eCon (.int 0)))), (gSubs (eVar 23) (eOp hSub (eVar 3) (eCon (.int 0))))] (lCons (eMake 0 (List.tail S_Heap___init___1.fl) S_Heap___init___1.F lNil) (lCons (eCall S_Heap_of_s1 (lCons (eCon (.str "xxxxxx")) lNil)) (lCons (eVar 15) lNil))))
 (sSeq (sAsg (gNam 24) (eLst (lCons (eMake 4 (List.tail S_Differ___init__.fl) S_Differ___init__.F (lCons (eVar 11) (lCons (eVar 12) (lCons (eVar 20) (lCons (eOp hSub (eVar 3) (eCon (.int 0))) (lCons (eVar 14) lNil)))))) (lCons (eMake 4 (List.tail S_Differ___init__.fl) S_Differ___init__.F (lCons (eVar 11) (lCons (eVar 12) (lCons (eVar 16) (lCons (eVar 20) (lCons (eVar 14) lNil)))))) (lCons (eMake 4 (List.tail S_Differ___init__.fl) S_Differ___init__.F (lCons (eVar 11) (lCons (eVar 12) (lCons (eVar 16) (lCons (eOp hSub (eVar 3) (eCon (.int 0))) (lCons (eVar 20) lNil)))))) lNil)))))
 (sSeq (sAsg (gNam 24) (eTwo (bBin .Add) (eVar 24) (eLst (lCons (eMake 4 (List.tail S_Differ___init__.fl) S_Differ___init__.F (lCons (eVar 11) (lCons (eVar 12) (lCons (eVar 21) (lCons (eOp hSub (eVar 3) (eCon (.int 0))) (lCons (eVar 14) lNil)))))) (lCons (eMake 4 (List.tail S_Differ___init__.fl) S_Differ___init__.F (lCons (eVar 11) (lCons (eVar 12) (lCons (eVar 22) (lCons (eOp hSub (eVar 3) (eCon (.int 0))) (lCons (eVar 14) lNil)))))) (lCons (eMake 4 (List.tail S_Differ___init__.fl) S_Differ___init__.F (lCons (eVar 11) (lCons (eVar 12) (lCons (eVar 23) (lCons (eOp hSub (eVar 3) (eCon (.int 0))) (lCons (eVar 14) lNil)))))) lNil))))))
 (sSeq (sExp (eMt "list" cAppend (eVar 24) (lCons (eMakeK 4 0 5 (fun ds es => ds ++ es.reverse) (runF 6 [true, false, false, false, false, false] d_Differ___init__) lNil (lCons (eVar 14) (lCons (eOp hSub (eVar 3) (eCon (.int 0))) (lCons (eVar 16) (lCons (eMake 3 (List.tail S_Script___init___s0.fl) S_Script___init___s0.F (lCons (eVar 9) (lCons (eRev (eVar 3)) lNil))) (lCons (eVar 11) lNil)))))) lNil)))
 (sSeq (sExp (eMt "list" cAppend (eVar 24) (lCons (eMake 4 (List.tail S_Differ___init__.fl) S_Differ___init__.F (lCons (eVar 11) (lCons (eMake 3 (List.tail S_Script___init___s0.fl) S_Script___init___s0.F (lCons (eMake 1 (List.tail S_Book___init__.fl) S_Book___init__.F (lCons (eDisp [((eCon (.str "xxxxxx")), (eCon .non))]) lNil)) (lCons (eVar 3) lNil))) (lCons (eVar 16) (lCons (eOp hSub (eVar 3) (eCon (.int 0))) (lCons (eVar 14) lNil)))))) lNil)))
 (sSeq (sExp (eMt "list" cAppend (eVar 24) (lCons (eMake 4 (List.tail S_Differ___init__.fl) S_Differ___init__.F (lCons (eVar 11) (lCons (eVar 12) (lCons (eVar 16) (lCons (eOp hSub (eVar 3) (eCon (.int 0))) (lCons (eMake 2 (List.tail S_WorthList___init__.fl) S_WorthList___init__.F (lCons (eMake 1 (List.tail S_Book___init__.fl) S_Book___init__.F (lCons (eDisp [((eCon (.str "xxxxxx")), (eCon .non))]) lNil)) (lCons (eDisp [((eCon (.str "xxxxxx")), (eCon (.int 1)))]) lNil))) lNil)))))) lNil)))
 (sSeq (sIf (tOrF (tBl (eOp (hEqA true .NotEq [(0, S_Heap___eq__), (1, S_Book___eq__)]) (eLc (iVal (eVar 24)) (.nm 29) tYesF (eMeth (fun c => List.lookup c [(4, S_Differ_holds)]) 23 (eVar 29) lNil) [29]) (eTwo (bBin .Mult) (eLst (lCons (eCon (.bl false)) lNil)) (eCon (.int 9))))) (tBl (eOp (hEqA true .NotEq [(0, S_Heap___eq__), (1, S_Book___eq__)]) (eRepr [(4, S_Differ___repr__)] (lCons (eOp hSub (eVar 24) (eCon (.int 1))) lNil)) (eIf (tBl (eOp (hEqA false .Eq [(0, S_Heap___eq__), (1, S_Book___eq__)]) (eVar 20) (eCon (.str "xxxxxx")))) (eCon (.str "Differ(xxxxxx)")) (eCon (.str "Differ()")))))) (sSeq (sRet (eCon (.bl false)))
 sSkip) sSkip)
 sSkip))))))))))))))))))))))))))))
 (sSeq (sPar [(gNam 25), (gNam 26)] (lCons (eCall S__law_book (lCons (eDisp [((eCon (.str "a")), (eDisp [((eCon (.str "a")), (eTwo (bBin .Add) (eCon (.int 2)) (eCall S__law_draw (lCons (eVar 1) (lCons (eCon (.int 9)) lNil)))))])), ((eCon (.str "b")), (eCon .non))]) lNil)) (lCons (eCall S__law_book (lCons (eDisp [((eCon (.str "a")), (eCon .non)), ((eCon (.str "b")), (eCon .non))]) lNil)) lNil)))
 (sSeq (sPar [(gNam 11), (gNam 27)] (lCons (eMake 3 (List.tail S_Script___init___s1.fl) S_Script___init___s1.F (lCons (eVar 25) (lCons (eLst (lCons (eCon (.str "r")) lNil)) (lCons (eTup (lCons (eCon (.str "put")) (lCons (eCon (.str "r")) (lCons (eCall S_Heap_of_s1 (lCons (eCon (.str "b")) lNil)) lNil)))) lNil)))) (lCons (eMake 2 (List.tail S_WorthList___init__.fl) S_WorthList___init__.F (lCons (eVar 25) (lCons (eDisp [((eCon (.str "a")), (eCon (.int 0))), ((eCon (.str "b")), (eCon (.int 1)))]) lNil))) lNil)))
 (sSeq (sAsg (gNam 28) (eLst (lCons (eMake 4 (List.tail S_Differ___init__.fl) S_Differ___init__.F (lCons (eVar 11) (lCons (eMake 3 (List.tail S_Script___init___s0.fl) S_Script___init___s0.F (lCons (eVar 25) (lCons (eLst (lCons (eCon (.str "r")) lNil)) lNil))) (lCons (fun ρ => .ok (.ow (.dic [])) ρ) (lCons (eCon (.str "r")) (lCons (eVar 27) lNil)))))) (lCons (eMake 4 (List.tail S_Differ___init__.fl) S_Differ___init__.F (lCons (eVar 11) (lCons (eMake 3 (List.tail S_Script___init___s0.fl) S_Script___init___s0.F (lCons (eVar 26) (lCons (eLst (lCons (eCon (.str "r")) lNil)) lNil))) (lCons (fun ρ => .ok (.ow (.dic [])) ρ) (lCons (eCon (.str "r")) (lCons (eVar 27) lNil)))))) lNil))))
 (sSeq (sRet (eOp (hEqA false .Eq [(0, S_Heap___eq__), (1, S_Book___eq__)]) (eLc (iVal (eVar 28)) (.nm 19) tYesF (eMeth (fun c => List.lookup c [(4, S_Differ_holds)]) 23 (eVar 19) lNil) [19]) (eLst (lCons (eCon (.bl true)) (lCons (eCon (.bl false)) lNil)))))
 sSkip))))))
theorem j_law {G : Gb} (Z : Zx tabs G) {X : Cx} (g : Gc G 10 N_law (defScope (top 96)) X) (b : Bd X) : JSs G.T X (defBody (top 96)) d_law :=
 (jss_cons (s_asg g (g_nam g b (by kernel_rfl)) (w_call g (k_S__law_bag Z) (by omega) (jl_cons (w_var g (by kernel_rfl)) jl_nil rfl) (by kernel_rfl) rfl) (by kernel_rfl) rfl rfl)
 (jss_cons (s_for g b (i_rng1 g (Z.fr "range" (by kernel_rfl)) (jl_cons je_int jl_nil rfl) (by kernel_rfl) rfl) (jgl_of (g_nam g b (by kernel_rfl))) (jss_cons (s_swap3 g (jl_cons (w_call g (k_S__law_words Z) (by omega) (jl_cons (w_var g (by kernel_rfl)) (jl_cons je_int jl_nil rfl) rfl) (by kernel_rfl) rfl) (jl_cons (w_sorted g (Z.fr "sorted" (by kernel_rfl)) (jl_cons (w_call g (k_S__law_words Z) (by omega) (jl_cons (w_var g (by kernel_rfl)) (jl_cons je_int jl_nil rfl) rfl) (by kernel_rfl) rfl) jl_nil rfl) (by kernel_rfl) rfl) (jl_cons (w_bin g je_int (w_call g (k_S__law_draw Z) (by omega) (jl_cons (w_var g (by kernel_rfl)) (jl_cons je_int jl_nil rfl) rfl) (by kernel_rfl) rfl)) jl_nil rfl) rfl) rfl) (by kernel_rfl) (by kernel_rfl) (by kernel_rfl) (by kernel_rfl) (by kernel_rfl) (by kernel_rfl))
 (jss_cons (s_asgL g (g_tup g (jgs_cons (g_nam g b (by kernel_rfl)) (jgs_cons (g_nam g b (by kernel_rfl)) jgs_nil rfl) rfl) rfl rfl) (w_var g (by kernel_rfl)) rfl rfl rfl)
 (jss_cons (s_asg g (g_nam g b (by kernel_rfl)) je_dnew (by kernel_rfl) rfl rfl)
 (jss_cons (s_par g (jgs_cons (g_sub g (w_var g (by kernel_rfl)) (w_var g (by kernel_rfl)) rfl) (jgs_cons (g_sub g (w_var g (by kernel_rfl)) (w_var g (by kernel_rfl)) rfl) jgs_nil rfl) rfl) (jl_cons (je_disp (pp_cons (w_var g (by kernel_rfl)) je_int (pp_cons (w_var g (by kernel_rfl)) (w_var g (by kernel_rfl)) pp_nil)) rfl rfl rfl rfl) (jl_cons je_non jl_nil rfl) rfl) (by kernel_rfl) rfl rfl rfl)
 (jss_cons (s_swap2 g (jl_cons (w_call g (k_S__law_book Z) (by omega) (jl_cons (w_var g (by kernel_rfl)) jl_nil rfl) (by kernel_rfl) rfl) (jl_cons (w_call g (k_S__law_draw Z) (by omega) (jl_cons (w_var g (by kernel_rfl)) (jl_cons je_int jl_nil rfl) rfl) (by kernel_rfl) rfl) jl_nil rfl) rfl) (by kernel_rfl) (by kernel_rfl) (by kernel_rfl) (by kernel_rfl) (by kernel_rfl))
 (jss_cons (s_swap2 g (jl_cons (w_make g (k_S_Script___init___s1 Z) (by omega) (jl_cons (w_var g (by kernel_rfl)) (jl_cons (w_var g (by kernel_rfl)) (jl_cons (je_tup (jl_cons je_str (jl_cons (w_sub g (w_var g (by kernel_rfl)) je_int rfl) (jl_cons (w_var g (by kernel_rfl)) jl_nil rfl) rfl) rfl)) jl_nil rfl) rfl) rfl) (by kernel_rfl) rfl) (jl_cons (w_make g (k_S_Script___init___s1 Z) (by omega) (jl_cons (w_var g (by kernel_rfl)) (jl_cons (w_var g (by kernel_rfl)) (jl_cons (je_tup (jl_cons je_str (jl_cons (w_sub g (w_var g (by kernel_rfl)) je_int rfl) (jl_cons (w_make0 g (k_S_Heap___init___1 Z) (by omega) (by kernel_rfl)) jl_nil rfl) rfl) rfl)) jl_nil rfl) rfl) rfl) (by kernel_rfl) rfl) jl_nil rfl) rfl) (by kernel_rfl) (by kernel_rfl) (by kernel_rfl) (by kernel_rfl) (by kernel_rfl))
 (jss_cons (s_asg g (g_nam g b (by kernel_rfl)) je_dnew (by kernel_rfl) rfl rfl)
 (jss_cons (s_par g (jgs_cons (g_sub g (w_var g (by kernel_rfl)) (w_var g (by kernel_rfl)) rfl) (jgs_cons (g_sub g (w_var g (by kernel_rfl)) (w_var g (by kernel_rfl)) rfl) jgs_nil rfl) rfl) (jl_cons (w_call g (k_S__law_draw Z) (by omega) (jl_cons (w_var g (by kernel_rfl)) (jl_cons (w_var g (by kernel_rfl)) jl_nil rfl) rfl) (by kernel_rfl) rfl) (jl_cons je_int jl_nil rfl) rfl) (by kernel_rfl) rfl rfl rfl)
 (jss_cons (s_asg g (g_nam g b (by kernel_rfl)) (x_mkK g (kw_WorthList___init__ Z) (by omega) (jl_cons (w_call g (k_S__law_of Z) (by omega) (jl_cons (w_var g (by kernel_rfl)) (jl_cons (je_lst (jl_cons (w_var g (by kernel_rfl)) (jl_cons (w_call g (k_S__law_book Z) (by omega) (jl_cons (w_var g (by kernel_rfl)) jl_nil rfl) (by kernel_rfl) rfl) jl_nil rfl) rfl)) jl_nil rfl) rfl) (by kernel_rfl) rfl) (jl_cons (w_var g (by kernel_rfl)) jl_nil rfl) rfl) (jk_cons (w_call g (k_S__law_of Z) (by omega) (jl_cons (w_var g (by kernel_rfl)) (jl_cons (je_lst (jl_cons (w_var g (by kernel_rfl)) (jl_cons (w_var g (by kernel_rfl)) (jl_cons je_int (jl_cons je_int jl_nil rfl) rfl) rfl) rfl)) jl_nil rfl) rfl) (by kernel_rfl) rfl) jk_nil) (by kernel_rfl) rfl (fun _ => rfl) (fun _ => rfl) (fun _ => rfl)) (by kernel_rfl) rfl rfl)
 (jss_cons (s_asg g (g_nam g b (by kernel_rfl)) je_dnew (by kernel_rfl) rfl rfl)
 (jss_cons (s_par g (jgs_cons (g_sub g (w_var g (by kernel_rfl)) (w_var g (by kernel_rfl)) rfl) (jgs_cons (g_sub g (w_var g (by kernel_rfl)) (w_var g (by kernel_rfl)) rfl) jgs_nil rfl) rfl) (jl_cons (w_call g (k_S__law_draw Z) (by omega) (jl_cons (w_var g (by kernel_rfl)) (jl_cons je_int jl_nil rfl) rfl) (by kernel_rfl) rfl) (jl_cons (w_call g (k_S__law_draw Z) (by omega) (jl_cons (w_var g (by kernel_rfl)) (jl_cons je_int jl_nil rfl) rfl) (by kernel_rfl) rfl) jl_nil rfl) rfl) (by kernel_rfl) rfl rfl rfl)
 (jss_cons (s_asg g (g_nam g b (by kernel_rfl)) je_dnew (by kernel_rfl) rfl rfl)
 (jss_cons (s_asg g (g_sub g (w_var g (by kernel_rfl)) (w_sub g (w_var g (by kernel_rfl)) je_int rfl) rfl) (w_call g (k_S__law_made Z) (by omega) (jl_cons (w_var g (by kernel_rfl)) jl_nil rfl) (by kernel_rfl) rfl) (by kernel_rfl) rfl rfl)
 (jss_cons (s_asg g (g_nam g b (by kernel_rfl)) (w_meth0 g (l := [(2, S_WorthList_table)]) (.cons 1 (by omega) (k_S_WorthList_table Z) .nil) Z.nd (Z.nmAt 22 _ (by kernel_rfl)) (w_var g (by kernel_rfl)) rfl (by kernel_rfl)) (by kernel_rfl) rfl rfl)
 (jss_cons (s_asg g (g_nam g b (by kernel_rfl)) (w_call g (k_S__law_parted_so Z) (by omega) (jl_cons (w_var g (by kernel_rfl)) (jl_cons (w_call g (k_S__law_plus Z) (by omega) (jl_cons je_dnew (jl_cons (w_var g (by kernel_rfl)) (jl_cons (w_var g (by kernel_rfl)) jl_nil rfl) rfl) rfl) (by kernel_rfl) rfl) (jl_cons (w_var g (by kernel_rfl)) (jl_cons (w_var g (by kernel_rfl)) jl_nil rfl) rfl) rfl) rfl) (by kernel_rfl) rfl) (by kernel_rfl) rfl rfl)
 (jss_cons (s_asg g (g_nam g b (by kernel_rfl)) (w_make g (k_S_Differ___init__ Z) (by omega) (jl_cons (w_var g (by kernel_rfl)) (jl_cons (w_var g (by kernel_rfl)) (jl_cons (w_var g (by kernel_rfl)) (jl_cons (w_sub g (w_var g (by kernel_rfl)) je_int rfl) (jl_cons (w_var g (by kernel_rfl)) jl_nil rfl) rfl) rfl) rfl) rfl) (by kernel_rfl) rfl) (by kernel_rfl) rfl rfl)
 (jss_cons (js_if (jt_not (jt_val g.K (w_call g (k_S__law_same Z 2) (by omega) (jl_cons (je_lst (jl_cons (w_meth0 g (l := [(4, S_Differ_holds)]) (.cons 10 (by omega) (k_S_Differ_holds Z) .nil) Z.nd (Z.nmAt 23 _ (by kernel_rfl)) (w_var g (by kernel_rfl)) rfl (by kernel_rfl)) (jl_cons (x_repr g 1 (by omega) (.cons 1 (by omega) (k_S_Differ___repr__ Z) rfl .nil) (Z.fr "repr" (by kernel_rfl)) (jl_cons (w_var g (by kernel_rfl)) jl_nil rfl) (by kernel_rfl) rfl) (jl_cons (w_meth0 g (l := [(4, S_Differ_holds)]) (.cons 10 (by omega) (k_S_Differ_holds Z) .nil) Z.nd (Z.nmAt 23 _ (by kernel_rfl)) (w_var g (by kernel_rfl)) rfl (by kernel_rfl)) (jl_cons (w_fld g (cs := [4]) Z.nd (Z.nmAt 17 _ (by kernel_rfl)) (Z.fd "room" [4] (by kernel_rfl)) (w_var g (by kernel_rfl)) rfl) jl_nil rfl) rfl) rfl) rfl)) (jl_cons (je_lst (jl_cons (w_var g (by kernel_rfl)) (jl_cons (w_bin g (w_bin g je_str (w_sub g (w_var g (by kernel_rfl)) je_int rfl)) je_str) (jl_cons (w_var g (by kernel_rfl)) (jl_cons (w_sub g (w_var g (by kernel_rfl)) je_int rfl) jl_nil rfl) rfl) rfl) rfl)) jl_nil rfl) rfl) (by kernel_rfl) rfl) (fun _ => rfl))) (jss_cons (js_ret je_bl)
 jss_nil) jss_nil)
 (jss_cons (js_if (jt_w (jw_or (jt_val g.K (w_meth0 g (l := [(4, S_Differ_holds)]) (.cons 10 (by omega) (k_S_Differ_holds Z) .nil) Z.nd (Z.nmAt 23 _ (by kernel_rfl)) (w_make g (k_S_Differ___init__ Z) (by omega) (jl_cons (w_var g (by kernel_rfl)) (jl_cons (w_var g (by kernel_rfl)) (jl_cons (w_var g (by kernel_rfl)) (jl_cons (w_sub g (w_var g (by kernel_rfl)) je_int rfl) (jl_cons (w_var g (by kernel_rfl)) jl_nil rfl) rfl) rfl) rfl) rfl) (by kernel_rfl) rfl) rfl (by kernel_rfl)) (fun _ => rfl)) (jw_or (jt_val g.K (w_meth0 g (l := [(4, S_Differ_holds)]) (.cons 10 (by omega) (k_S_Differ_holds Z) .nil) Z.nd (Z.nmAt 23 _ (by kernel_rfl)) (w_make g (k_S_Differ___init__ Z) (by omega) (jl_cons (w_var g (by kernel_rfl)) (jl_cons (w_var g (by kernel_rfl)) (jl_cons (w_var g (by kernel_rfl)) (jl_cons (w_sub g (w_var g (by kernel_rfl)) je_int rfl) (jl_cons (w_var g (by kernel_rfl)) jl_nil rfl) rfl) rfl) rfl) rfl) (by kernel_rfl) rfl) rfl (by kernel_rfl)) (fun _ => rfl)) (jw_or1 (xt_ne g Z 4 (by omega) (.cons 2 (by omega) (k_S_Heap___eq__ Z) rfl (by kernel_rfl) (.cons 4 (by omega) (k_S_Book___eq__ Z) rfl (by kernel_rfl) .nil)) (w_meth0 g (l := [(2, S_WorthList_table)]) (.cons 1 (by omega) (k_S_WorthList_table Z) .nil) Z.nd (Z.nmAt 22 _ (by kernel_rfl)) (w_fld g (cs := [4]) Z.nd (Z.nmAt 16 _ (by kernel_rfl)) (Z.fd "worths" [4] (by kernel_rfl)) (w_var g (by kernel_rfl)) rfl) rfl (by kernel_rfl)) (w_var g (by kernel_rfl)) rfl))))) (jss_cons (js_ret je_bl)
 jss_nil) jss_nil)
 (jss_cons (s_asg g (g_nam g b (by kernel_rfl)) (w_call g (k_S__law_of Z) (by omega) (jl_cons (w_var g (by kernel_rfl)) (jl_cons (je_lst (jl_cons je_non (jl_cons je_int (jl_cons je_str (jl_cons (je_lst (jl_cons je_str jl_nil rfl)) (jl_cons (je_tup jl_nil) (jl_cons je_bl jl_nil rfl) rfl) rfl) rfl) rfl) rfl)) jl_nil rfl) rfl) (by kernel_rfl) rfl) (by kernel_rfl) rfl rfl)
 (jss_cons (s_swap3 g (jl_cons (x_dicIt g (Z.fr "list" (by kernel_rfl)) (Z.fr "dict" (by kernel_rfl)) (w_var g (by kernel_rfl)) (by kernel_rfl) (by kernel_rfl) rfl (by kernel_rfl)) (jl_cons je_dnew (jl_cons je_dnew jl_nil rfl) rfl) rfl) (by kernel_rfl) (by kernel_rfl) (by kernel_rfl) (by kernel_rfl) (by kernel_rfl) (by kernel_rfl))
 (jss_cons (s_par g (jgs_cons (g_sub g (w_var g (by kernel_rfl)) je_str rfl) (jgs_cons (g_sub g (w_var g (by kernel_rfl)) (w_sub g (w_var g (by kernel_rfl)) je_int rfl) rfl) (jgs_cons (g_sub g (w_var g (by kernel_rfl)) (w_sub g (w_var g (by kernel_rfl)) je_int rfl) rfl) jgs_nil rfl) rfl) rfl) (jl_cons (w_make0 g (k_S_Heap___init___1 Z) (by omega) (by kernel_rfl)) (jl_cons (x_stat g (k_S_Heap_of_s1 Z) (by omega) (jl_cons je_str jl_nil rfl) (by kernel_rfl) rfl rfl (by kernel_rfl)) (jl_cons (w_var g (by kernel_rfl)) jl_nil rfl) rfl) rfl) (by kernel_rfl) rfl rfl rfl)
 (jss_cons (s_asg g (g_nam g b (by kernel_rfl)) (je_lst (jl_cons (w_make g (k_S_Differ___init__ Z) (by omega) (jl_cons (w_var g (by kernel_rfl)) (jl_cons (w_var g (by kernel_rfl)) (jl_cons (w_var g (by kernel_rfl)) (jl_cons (w_sub g (w_var g (by kernel_rfl)) je_int rfl) (jl_cons (w_var g (by kernel_rfl)) jl_nil rfl) rfl) rfl) rfl) rfl) (by kernel_rfl) rfl) (jl_cons (w_make g (k_S_Differ___init__ Z) (by omega) (jl_cons (w_var g (by kernel_rfl)) (jl_cons (w_var g (by kernel_rfl)) (jl_cons (w_var g (by kernel_rfl)) (jl_cons (w_var g (by kernel_rfl)) (jl_cons (w_var g (by kernel_rfl)) jl_nil rfl) rfl) rfl) rfl) rfl) (by kernel_rfl) rfl) (jl_cons (w_make g (k_S_Differ___init__ Z) (by omega) (jl_cons (w_var g (by kernel_rfl)) (jl_cons (w_var g (by kernel_rfl)) (jl_cons (w_var g (by kernel_rfl)) (jl_cons (w_sub g (w_var g (by kernel_rfl)) je_int rfl) (jl_cons (w_var g (by kernel_rfl)) jl_nil rfl) rfl) rfl) rfl) rfl) (by kernel_rfl) rfl) jl_nil rfl) rfl) rfl)) (by kernel_rfl) rfl rfl)
 (jss_cons (s_asg g (g_nam g b (by kernel_rfl)) (w_bin g (w_var g (by kernel_rfl)) (je_lst (jl_cons (w_make g (k_S_Differ___init__ Z) (by omega) (jl_cons (w_var g (by kernel_rfl)) (jl_cons (w_var g (by kernel_rfl)) (jl_cons (w_var g (by kernel_rfl)) (jl_cons (w_sub g (w_var g (by kernel_rfl)) je_int rfl) (jl_cons (w_var g (by kernel_rfl)) jl_nil rfl) rfl) rfl) rfl) rfl) (by kernel_rfl) rfl) (jl_cons (w_make g (k_S_Differ___init__ Z) (by omega) (jl_cons (w_var g (by kernel_rfl)) (jl_cons (w_var g (by kernel_rfl)) (jl_cons (w_var g (by kernel_rfl)) (jl_cons (w_sub g (w_var g (by kernel_rfl)) je_int rfl) (jl_cons (w_var g (by kernel_rfl)) jl_nil rfl) rfl) rfl) rfl) rfl) (by kernel_rfl) rfl) (jl_cons (w_make g (k_S_Differ___init__ Z) (by omega) (jl_cons (w_var g (by kernel_rfl)) (jl_cons (w_var g (by kernel_rfl)) (jl_cons (w_var g (by kernel_rfl)) (jl_cons (w_sub g (w_var g (by kernel_rfl)) je_int rfl) (jl_cons (w_var g (by kernel_rfl)) jl_nil rfl) rfl) rfl) rfl) rfl) (by kernel_rfl) rfl) jl_nil rfl) rfl) rfl))) (by kernel_rfl) rfl rfl)
 (jss_cons (s_exp (m_append g (w_var g (by kernel_rfl)) (jl_cons (x_mkK0 g (kw_Differ___init__ Z) (by omega) (jk_cons (w_var g (by kernel_rfl)) (jk_cons (w_sub g (w_var g (by kernel_rfl)) je_int rfl) (jk_cons (w_var g (by kernel_rfl)) (jk_cons (w_make g (k_S_Script___init___s0 Z) (by omega) (jl_cons (w_var g (by kernel_rfl)) (jl_cons (je_rev g.K (w_var g (by kernel_rfl))) jl_nil rfl) rfl) (by kernel_rfl) rfl) (jk_cons (w_var g (by kernel_rfl)) jk_nil))))) (by kernel_rfl) (fun _ => rfl) (fun _ => rfl) (fun _ => rfl)) jl_nil rfl) rfl rfl rfl (by kernel_rfl)) rfl)
 (jss_cons (s_exp (m_append g (w_var g (by kernel_rfl)) (jl_cons (w_make g (k_S_Differ___init__ Z) (by omega) (jl_cons (w_var g (by kernel_rfl)) (jl_cons (w_make g (k_S_Script___init___s0 Z) (by omega) (jl_cons (w_make g (k_S_Book___init__ Z) (by omega) (jl_cons (je_disp (pp_cons je_str je_non pp_nil) rfl rfl rfl rfl) jl_nil rfl) (by kernel_rfl) rfl) (jl_cons (w_var g (by kernel_rfl)) jl_nil rfl) rfl) (by kernel_rfl) rfl) (jl_cons (w_var g (by kernel_rfl)) (jl_cons (w_sub g (w_var g (by kernel_rfl)) je_int rfl) (jl_cons (w_var g (by kernel_rfl)) jl_nil rfl) rfl) rfl) rfl) rfl) (by kernel_rfl) rfl) jl_nil rfl) rfl rfl rfl (by kernel_rfl)) rfl)
 (jss_cons (s_exp (m_append g (w_var g (by kernel_rfl)) (jl_cons (w_make g (k_S_Differ___init__ Z) (by omega) (jl_cons (w_var g (by kernel_rfl)) (jl_cons (w_var g (by kernel_rfl)) (jl_cons (w_var g (by kernel_rfl)) (jl_cons (w_sub g (w_var g (by kernel_rfl)) je_int rfl) (jl_cons (w_make g (k_S_WorthList___init__ Z) (by omega) (jl_cons (w_make g (k_S_Book___init__ Z) (by omega) (jl_cons (je_disp (pp_cons je_str je_non pp_nil) rfl rfl rfl rfl) jl_nil rfl) (by kernel_rfl) rfl) (jl_cons (je_disp (pp_cons je_str je_int pp_nil) rfl rfl rfl rfl) jl_nil rfl) rfl) (by kernel_rfl) rfl) jl_nil rfl) rfl) rfl) rfl) rfl) (by kernel_rfl) rfl) jl_nil rfl) rfl rfl rfl (by kernel_rfl)) rfl)
 (jss_cons (js_if (jt_w (jw_or (xt_ne g Z 4 (by omega) (.cons 2 (by omega) (k_S_Heap___eq__ Z) rfl (by kernel_rfl) (.cons 4 (by omega) (k_S_Book___eq__ Z) rfl (by kernel_rfl) .nil)) (w_lc g (own := [("_law_late", 29)]) (i_val g (w_var g (by kernel_rfl))) (b_nm g ⟨rfl, (by kernel_rfl), (by kernel_rfl), (by kernel_rfl)⟩ (by kernel_rfl) t_no) (in_blk g (fun _ g1 => (w_meth0 g1 (l := [(4, S_Differ_holds)]) (.cons 10 (by omega) (k_S_Differ_holds Z) .nil) Z.nd (Z.nmAt 23 _ (by kernel_rfl)) (w_var g1 (by kernel_rfl)) rfl (by kernel_rfl))) rfl) (by kernel_rfl) rfl) (w_bin g (je_lst (jl_cons je_bl jl_nil rfl)) je_int) rfl) (jw_or1 (xt_ne g Z 4 (by omega) (.cons 2 (by omega) (k_S_Heap___eq__ Z) rfl (by kernel_rfl) (.cons 4 (by omega) (k_S_Book___eq__ Z) rfl (by kernel_rfl) .nil)) (x_repr g 1 (by omega) (.cons 1 (by omega) (k_S_Differ___repr__ Z) rfl .nil) (Z.fr "repr" (by kernel_rfl)) (jl_cons (w_sub g (w_var g (by kernel_rfl)) je_int rfl) jl_nil rfl) (by kernel_rfl) rfl) (je_if (xt_eq g Z 4 (by omega) (.cons 2 (by omega) (k_S_Heap___eq__ Z) rfl (by kernel_rfl) (.cons 4 (by omega) (k_S_Book___eq__ Z) rfl (by kernel_rfl) .nil)) (w_var g (by kernel_rfl)) je_str rfl) je_str je_str) rfl)))) (jss_cons (js_ret je_bl)
 jss_nil) jss_nil)
 jss_nil))))))))))))))))))))))))))) rfl)
 (jss_cons (s_swap2 g (jl_cons (w_call g (k_S__law_book Z) (by omega) (jl_cons (je_disp (pp_cons je_str (je_disp (pp_cons je_str (w_bin g je_int (w_call g (k_S__law_draw Z) (by omega) (jl_cons (w_var g (by kernel_rfl)) (jl_cons je_int jl_nil rfl) rfl) (by kernel_rfl) rfl)) pp_nil) rfl rfl rfl rfl) (pp_cons je_str je_non pp_nil)) rfl rfl rfl rfl) jl_nil rfl) (by kernel_rfl) rfl) (jl_cons (w_call g (k_S__law_book Z) (by omega) (jl_cons (je_disp (pp_cons je_str je_non (pp_cons je_str je_non pp_nil)) rfl rfl rfl rfl) jl_nil rfl) (by kernel_rfl) rfl) jl_nil rfl) rfl) (by kernel_rfl) (by kernel_rfl) (by kernel_rfl) (by kernel_rfl) (by kernel_rfl))
 (jss_cons (s_swap2 g (jl_cons (w_make g (k_S_Script___init___s1 Z) (by omega) (jl_cons (w_var g (by kernel_rfl)) (jl_cons (je_lst (jl_cons je_str jl_nil rfl)) (jl_cons (je_tup (jl_cons je_str (jl_cons je_str (jl_cons (x_stat g (k_S_Heap_of_s1 Z) (by omega) (jl_cons je_str jl_nil rfl) (by kernel_rfl) rfl rfl (by kernel_rfl)) jl_nil rfl) rfl) rfl)) jl_nil rfl) rfl) rfl) (by kernel_rfl) rfl) (jl_cons (w_make g (k_S_WorthList___init__ Z) (by omega) (jl_cons (w_var g (by kernel_rfl)) (jl_cons (je_disp (pp_cons je_str je_int (pp_cons je_str je_int pp_nil)) rfl rfl rfl rfl) jl_nil rfl) rfl) (by kernel_rfl) rfl) jl_nil rfl) rfl) (by kernel_rfl) (by kernel_rfl) (by kernel_rfl) (by kernel_rfl) (by kernel_rfl))
 (jss_cons (s_asg g (g_nam g b (by kernel_rfl)) (je_lst (jl_cons (w_make g (k_S_Differ___init__ Z) (by omega) (jl_cons (w_var g (by kernel_rfl)) (jl_cons (w_make g (k_S_Script___init___s0 Z) (by omega) (jl_cons (w_var g (by kernel_rfl)) (jl_cons (je_lst (jl_cons je_str jl_nil rfl)) jl_nil rfl) rfl) (by kernel_rfl) rfl) (jl_cons je_dnew (jl_cons je_str (jl_cons (w_var g (by kernel_rfl)) jl_nil rfl) rfl) rfl) rfl) rfl) (by kernel_rfl) rfl) (jl_cons (w_make g (k_S_Differ___init__ Z) (by omega) (jl_cons (w_var g (by kernel_rfl)) (jl_cons (w_make g (k_S_Script___init___s0 Z) (by omega) (jl_cons (w_var g (by kernel_rfl)) (jl_cons (je_lst (jl_cons je_str jl_nil rfl)) jl_nil rfl) rfl) (by kernel_rfl) rfl) (jl_cons je_dnew (jl_cons je_str (jl_cons (w_var g (by kernel_rfl)) jl_nil rfl) rfl) rfl) rfl) rfl) (by kernel_rfl) rfl) jl_nil rfl) rfl)) (by kernel_rfl) rfl rfl)
 (jss_cons (js_ret (x_eq g Z 4 (by omega) (.cons 2 (by omega) (k_S_Heap___eq__ Z) rfl (by kernel_rfl) (.cons 4 (by omega) (k_S_Book___eq__ Z) rfl (by kernel_rfl) .nil)) (w_lc g (own := [("_law_paper", 19)]) (i_val g (w_var g (by kernel_rfl))) (b_nm g ⟨rfl, (by kernel_rfl), (by kernel_rfl), (by kernel_rfl)⟩ (by kernel_rfl) t_no) (in_blk g (fun _ g1 => (w_meth0 g1 (l := [(4, S_Differ_holds)]) (.cons 10 (by omega) (k_S_Differ_holds Z) .nil) Z.nd (Z.nmAt 23 _ (by kernel_rfl)) (w_var g1 (by kernel_rfl)) rfl (by kernel_rfl))) rfl) (by kernel_rfl) rfl) (je_lst (jl_cons je_bl (jl_cons je_bl jl_nil rfl) rfl)) rfl))
 jss_nil))))))
theorem fs_law : FnScope N_law ["_law_script"] (defScope (top 96)) := ⟨(by kernel_rfl), (by kernel_rfl), (by kernel_rfl), by decide +kernel, (by kernel_rfl), by decide +kernel, by decide +kernel⟩
def S_law : Fs := ⟨[false], runF 30 [false] d_law⟩
theorem kc_S_law {G : Gb} (Z : Zx tabs G) : Kc G 11 (He.fAd G.T.K ("law", none)) S_law := by
  obtain ⟨fd, F⟩ := Z.fn 49 _ (by rfl)
  exact kc_plain (N := N_law) (den := d_law) (fl := [false]) F fs_law rfl (by decide) (fun _ _ _ _ _ _ us hl => match us, hl with | [_], _ => rfl) (fun X g b => j_law Z g b)
theorem k_S_law {G : Gb} (Z : Zx tabs G) : FnG G 11 "law" S_law := by
  obtain ⟨fd, F⟩ := Z.fn 49 _ (by rfl)
  exact Z.fnG (by kernel_rfl) F.kp (kc_S_law Z)
end Pu
namespace Pu
open PySem PySem.Spec PyProof.Rows L2
def lcStep (nt : Nt) (tst : TF) (fe : EF) (vs : List Nat) (d : D) (ρ : Rho) : Option (Option D × Rho) := match bindD nt d ρ with
  | some ρ1 => (match tst ρ1 with
    | .ok true ρ2 => (match fe ρ2 with
      | .ok r ρ3 => (match stl ρ3 r with
        | some (x, ρ4) => some (some x, wipeR ρ4 vs)
        | none => none)
      | _ => none)
    | .ok false ρ2 => some (none, wipeR ρ2 vs)
    | _ => none)
  | none => none
theorem lcGo_of {nt : Nt} {tst : TF} {fe : EF} {vs : List Nat} {ρ : Rho} (g : D → Option D) : ∀ (ds acc : List D), (∀ d ∈ ds, lcStep nt tst fe vs d ρ = some (g d, ρ)) → acc.length + ds.length ≤ sizeLine → lcGo nt tst fe vs ds acc ρ = some (acc ++ ds.filterMap g, ρ)
  | [], acc, _, _ => by simp [lcGo]
  | d :: ds, acc, h, hz => by
    have h1 := h d List.mem_cons_self
    have ih := fun acc hz => lcGo_of g ds acc (fun d hd => h d (List.mem_cons_of_mem _ hd)) hz
    rw [List.length_cons] at hz
    unfold lcStep at h1
    unfold lcGo
    split at h1
    · rename_i ρ1 e1
      split at h1
      · rename_i ρ2 e2
        split at h1
        · rename_i r ρ3 e3
          split at h1
          · rename_i x ρ4 e4
            simp only [Option.some.injEq, Prod.mk.injEq] at h1
            obtain ⟨h1, h2⟩ := h1
            try simp only [e1, e2, e3, e4]
            rw [if_pos (by omega), h2, ih _ (by rw [List.length_append, List.length_singleton]; omega), List.filterMap_cons, ← h1]
            simp
          · cases h1
        · cases h1
      · rename_i ρ2 e2
        simp only [Option.some.injEq, Prod.mk.injEq] at h1
        obtain ⟨h1, h2⟩ := h1
        try simp only [e1, e2]
        rw [h2, ih _ (by omega), List.filterMap_cons, ← h1]
      · cases h1
    · cases h1
def dcStep (nt : Nt) (tst : TF) (fk fv : EF) (vs : List Nat) (d : D) (ρ : Rho) : Option (Option (Key × D) × Rho) := match bindD nt d ρ with
  | some ρ1 => (match tst ρ1 with
    | .ok true ρ2 => (match fk ρ2 with
      | .ok rk ρ3 => (match (rdv ρ3 rk).bind keyD with
        | some k => (match fv ρ3 with
          | .ok r ρ4 => (match stl ρ4 r with
            | some (x, ρ5) => some (some (k, x), wipeR ρ5 vs)
            | none => none)
          | _ => none)
        | none => none)
      | _ => none)
    | .ok false ρ2 => some (none, wipeR ρ2 vs)
    | _ => none)
  | none => none
def putO (acc : List (Key × D)) (o : Option (Key × D)) : List (Key × D) := match o with
  | some kv => putD acc kv.1 kv.2
  | none => acc
theorem putD_len {acc : List (Key × D)} {k : Key} {d : D} : (putD acc k d).length ≤ acc.length + 1 := by
  unfold putD
  split
  · rw [List.length_map]; omega
  · rw [List.length_append, List.length_singleton]; omega
theorem dcGo_of {nt : Nt} {tst : TF} {fk fv : EF} {vs : List Nat} {ρ : Rho} (g : D → Option (Key × D)) : ∀ (ds : List D) (acc : List (Key × D)), (∀ d ∈ ds, dcStep nt tst fk fv vs d ρ = some (g d, ρ)) → acc.length + ds.length ≤ sizeLine → dcGo nt tst fk fv vs ds acc ρ = some (ds.foldl (fun acc d => putO acc (g d)) acc, ρ)
  | [], acc, _, _ => by simp [dcGo]
  | d :: ds, acc, h, hz => by
    have h1 := h d List.mem_cons_self
    have ih := fun acc hz => dcGo_of g ds acc (fun d hd => h d (List.mem_cons_of_mem _ hd)) hz
    rw [List.length_cons] at hz
    unfold dcStep at h1
    unfold dcGo
    split at h1
    · rename_i ρ1 e1
      split at h1
      · rename_i ρ2 e2
        split at h1
        · rename_i rk ρ3 e3
          split at h1
          · rename_i k e5
            split at h1
            · rename_i r ρ4 e6
              split at h1
              · rename_i x ρ5 e4
                simp only [Option.some.injEq, Prod.mk.injEq] at h1
                obtain ⟨h1, h2⟩ := h1
                try simp only [e1, e2, e3, e4, e5, e6]
                rw [if_pos (by omega), h2, ih _ (by have := putD_len (acc := acc) (k := k) (d := x); omega), List.foldl_cons, ← h1]
                rfl
              · cases h1
            · cases h1
          · cases h1
        · cases h1
      · rename_i ρ2 e2
        simp only [Option.some.injEq, Prod.mk.injEq] at h1
        obtain ⟨h1, h2⟩ := h1
        try simp only [e1, e2]
        rw [h2, ih _ (by omega), List.foldl_cons, ← h1]
        rfl
      · cases h1
    · cases h1
/-- a loop that leaves the slots as they were but for its own -/
theorem forL_of {g : GF} {body : SF} {P : Nat → Rho → Prop} : ∀ (ds : List D) {ρ : Rho} (i : Nat), P i ρ → (∀ j d ρ, ds[j]? = some d → P (i + j) ρ → ∃ ρ1 ρ2, g (.im d) ρ = some ρ1 ∧ (body ρ1 = .nx ρ2 ∨ body ρ1 = .ct ρ2) ∧ P (i + j + 1) ρ2) → ∃ ρ', forL g body ds ρ = .nx ρ' ∧ P (i + ds.length) ρ'
  | [], ρ, i, h, _ => ⟨ρ, rfl, h⟩
  | d :: ds, ρ, i, h, st => by
    obtain ⟨ρ1, ρ2, e1, e2, h2⟩ := st 0 d ρ rfl h
    obtain ⟨ρ', e, h'⟩ := forL_of ds (i + 1) h2 fun j d ρ hd hp => by
      obtain ⟨ρ1, ρ2, a, b, c⟩ := st (j + 1) d ρ (by simpa using hd) (by rw [show i + (j + 1) = i + 1 + j by omega]; exact hp)
      exact ⟨ρ1, ρ2, a, b, by rw [show i + 1 + j + 1 = i + (j + 1) + 1 by omega]; exact c⟩
    refine ⟨ρ', ?_, by rw [List.length_cons, show i + (ds.length + 1) = i + 1 + ds.length by omega]; exact h'⟩
    unfold forL
    rw [e1]
    rcases e2 with e2 | e2 <;> (simp only []; rw [e2]; exact e)
@[simp] theorem ev_seq {f g : SF} {ρ : Rho} : sSeq f g ρ = (f ρ).seq g := rfl
@[simp] theorem ev_skip {ρ : Rho} : sSkip ρ = .nx ρ := rfl
@[simp] theorem ev_brk {ρ : Rho} : sBrk ρ = .bk ρ := rfl
@[simp] theorem ev_cnt {ρ : Rho} : sCnt ρ = .ct ρ := rfl
@[simp] theorem ev_bad {ρ : Rho} : sBad ρ = .bad := rfl
@[simp] theorem ev_ebad {ρ : Rho} : eBad ρ = .bad := rfl
@[simp] theorem ev_seq_nx {g : SF} {ρ : Rho} : (Rt.nx ρ).seq g = g ρ := rfl
@[simp] theorem ev_seq_rt {g : SF} {r : RV} {ρ : Rho} : (Rt.rt r ρ).seq g = .rt r ρ := rfl
@[simp] theorem ev_seq_bk {g : SF} {ρ : Rho} : (Rt.bk ρ).seq g = .bk ρ := rfl
@[simp] theorem ev_seq_ct {g : SF} {ρ : Rho} : (Rt.ct ρ).seq g = .ct ρ := rfl
@[simp] theorem ev_seq_bad {g : SF} : Rt.bad.seq g = .bad := rfl
@[simp] theorem ev_bind_ok {α β : Type} {a : α} {ρ : Rho} {f : α → Rho → Rs β} : (Rs.ok a ρ).bind f = f a ρ := rfl
@[simp] theorem ev_bind_bad {α β : Type} {f : α → Rho → Rs β} : (Rs.bad : Rs α).bind f = .bad := rfl
@[simp] theorem ev_st_ok {α : Type} {a : α} {ρ : Rho} {f : α → Rho → Rt} : (Rs.ok a ρ).st f = f a ρ := rfl
@[simp] theorem ev_st_bad {α : Type} {f : α → Rho → Rt} : (Rs.bad : Rs α).st f = .bad := rfl
@[simp] theorem ev_exp {f : EF} {ρ : Rho} : sExp f ρ = (f ρ).st fun _ ρ1 => .nx ρ1 := rfl
@[simp] theorem ev_ret {f : EF} {ρ : Rho} : sRet f ρ = (f ρ).st fun r ρ1 => .rt r ρ1 := rfl
@[simp] theorem ev_retn {ρ : Rho} : sRetN ρ = .rt (.im .non) ρ := rfl
@[simp] theorem ev_if {c : TF} {f g : SF} {ρ : Rho} : sIf c f g ρ = (c ρ).st fun k ρ1 => if k = true then f ρ1 else g ρ1 := rfl
@[simp] theorem ev_con {d : D} {ρ : Rho} : eCon d ρ = .ok (.im d) ρ := rfl
@[simp] theorem ev_bind_rdv {d : D} {ρ : Rho} : rdv ρ (.im d) = some d := rfl
@[simp] theorem ev_rdv_ow {d : D} {ρ : Rho} : rdv ρ (.ow d) = some d := rfl
@[simp] theorem ev_stl_im {d : D} {ρ : Rho} : stl ρ (.im d) = some (d, ρ) := rfl
@[simp] theorem ev_stl_ow {d : D} {ρ : Rho} : stl ρ (.ow d) = some (d, ρ) := rfl
@[simp] theorem ev_fix_im {d : D} {ρ : Rho} : fix1 (.im d) ρ = some (.im d, ρ) := rfl
@[simp] theorem ev_fix_ow {d : D} {ρ : Rho} : fix1 (.ow d) ρ = some (.ow d, ρ) := rfl
@[simp] theorem ev_asg {g : GF} {f : EF} {ρ : Rho} : sAsg g f ρ = (f ρ).st fun r ρ1 => match fix1 r ρ1 with
  | some (r', ρ2) => (match g r' ρ2 with
    | some ρ3 => .nx ρ3
    | none => .bad)
  | none => .bad := rfl
@[simp] theorem ev_par {gs : List GF} {fl : LF} {ρ : Rho} : sPar gs fl ρ = (fl ρ).st fun rs ρ1 => match fixL rs ρ1 with
  | some (rs', ρ2) => (match stores gs rs' ρ2 with
    | some ρ3 => .nx ρ3
    | none => .bad)
  | none => .bad := rfl
@[simp] theorem ev_fixL0 {ρ : Rho} : fixL [] ρ = some ([], ρ) := rfl
@[simp] theorem ev_fixL {r : RV} {rs : List RV} {ρ : Rho} : fixL (r :: rs) ρ = (match fix1 r ρ with
  | some (r', ρ1) => (match fixL rs ρ1 with
    | some (rs', ρ2) => some (r' :: rs', ρ2)
    | none => none)
  | none => none) := rfl
@[simp] theorem ev_stores0 {ρ : Rho} : stores [] [] ρ = some ρ := rfl
@[simp] theorem ev_stores {g : GF} {gs : List GF} {r : RV} {rs : List RV} {ρ : Rho} : stores (g :: gs) (r :: rs) ρ = (match g r ρ with
  | some ρ1 => stores gs rs ρ1
  | none => none) := rfl
@[simp] theorem ev_for {fi : IF} {g : GF} {b : SF} {ρ : Rho} : sFor fi g b ρ = (fi ρ).st fun ds ρ1 => forL g b ds ρ1 := rfl
@[simp] theorem ev_forL0 {g : GF} {b : SF} {ρ : Rho} : forL g b [] ρ = .nx ρ := rfl
@[simp] theorem ev_slim {d : D} : slOf (.im d) = some (.im d) := rfl
@[simp] theorem ev_slow {d : D} : slOf (.ow d) = some (.ow d) := rfl
@[simp] theorem ev_dR_im {d : D} : dR (.im d) = some d := rfl
@[simp] theorem ev_dR_ow {d : D} : dR (.ow d) = some d := rfl
@[simp] theorem ev_two {g : D → D → Ov} {fa fb : EF} {ρ : Rho} : eTwo g fa fb ρ = (fa ρ).bind fun ra ρ1 => (fb ρ1).bind fun rb ρ2 => match rdv ρ2 ra, rdv ρ2 rb with
  | some a, some b => (g a b).rs ρ2
  | _, _ => .bad := rfl
@[simp] theorem ev_op {g : D → D → Oh} {fa fb : EF} {ρ : Rho} : eOp g fa fb ρ = (fa ρ).bind fun ra ρ1 => (fb ρ1).bind fun rb ρ2 => match rdv ρ2 ra, rdv ρ2 rb with
  | some a, some b => (g a b).fin ρ2 ra rb
  | _, _ => .bad := rfl
@[simp] theorem ev_fin {o : Ov} {ρ : Rho} {ra rb : RV} : (Oh.ov o).fin ρ ra rb = o.rs ρ := rfl
@[simp] theorem ev_finc {F : List D → Out} {sw : Bool} {ρ : Rho} {ra rb : RV} : (Oh.call F sw).fin ρ ra rb = (match setl [ra, rb] ρ with
  | some ([a, b], ρ') => (F (if sw = true then [b, a] else [a, b])).rs ρ' []
  | _ => .bad) := rfl
@[simp] theorem ev_rs_ok {r : RV} {ρ : Rho} : (Ov.ok r).rs ρ = .ok r ρ := rfl
@[simp] theorem ev_rs_bad {ρ : Rho} : Ov.bad.rs ρ = .bad := rfl
@[simp] theorem ev_and {f g : EF} {ρ : Rho} : eAnd f g ρ = (f ρ).bind fun r ρ1 => match rdv ρ1 r with
  | some (.bl true) => g ρ1
  | some (.bl false) => .ok (.im (.bl false)) ρ1
  | _ => .bad := rfl
@[simp] theorem ev_or {f g : EF} {ρ : Rho} : eOr f g ρ = (f ρ).bind fun r ρ1 => match rdv ρ1 r with
  | some (.bl true) => .ok (.im (.bl true)) ρ1
  | some (.bl false) => g ρ1
  | _ => .bad := rfl
@[simp] theorem ev_not {g : TF} {ρ : Rho} : eNot g ρ = (g ρ).bind fun k ρ1 => .ok (.im (.bl (!k))) ρ1 := rfl
@[simp] theorem ev_eif {g : TF} {f f' : EF} {ρ : Rho} : eIf g f f' ρ = (g ρ).bind fun k ρ1 => if k = true then f ρ1 else f' ρ1 := rfl
@[simp] theorem ev_neg {f : EF} {ρ : Rho} : eNeg f ρ = (f ρ).bind fun r ρ1 => match rdv ρ1 r with
  | some (.int i) => .ok (.im (.int (-i))) ρ1
  | _ => .bad := rfl
@[simp] theorem ev_tval {f : EF} {ρ : Rho} : tVal f ρ = (f ρ).bind fun r ρ1 => match rdv ρ1 r with
  | some d => (match trD d with
    | some k => .ok k ρ1
    | none => .bad)
  | none => .bad := rfl
@[simp] theorem ev_tnot {g : TF} {ρ : Rho} : tNotF g ρ = (g ρ).bind fun k ρ1 => .ok (!k) ρ1 := rfl
@[simp] theorem ev_tand {g h : TF} {ρ : Rho} : tAndF g h ρ = (g ρ).bind fun k ρ1 => if k = true then h ρ1 else .ok false ρ1 := rfl
@[simp] theorem ev_tor {g h : TF} {ρ : Rho} : tOrF g h ρ = (g ρ).bind fun k ρ1 => if k = true then .ok true ρ1 else h ρ1 := rfl
@[simp] theorem ev_tbl {f : EF} {ρ : Rho} : tBl f ρ = (f ρ).bind fun r ρ1 => match rdv ρ1 r with
  | some (.bl k) => .ok k ρ1
  | _ => .bad := rfl
@[simp] theorem ev_tyes {ρ : Rho} : tYesF ρ = .ok true ρ := rfl
@[simp] theorem ev_chn {g g' : D → D → Ov} {fa fb fc : EF} {ρ : Rho} : eChn g g' fa fb fc ρ = (fa ρ).bind fun ra ρ1 => (fb ρ1).bind fun rb ρ2 => match rdv ρ2 ra, rdv ρ2 rb with
  | some a, some b => (match g a b with
    | .ok (.im (.bl true)) => (fc ρ2).bind fun rc ρ3 => (match rdv ρ3 rb, rdv ρ3 rc with
      | some b', some c => (g' b' c).rs ρ3
      | _, _ => .bad)
    | .ok (.im (.bl false)) => .ok (.im (.bl false)) ρ2
    | _ => .bad)
  | _, _ => .bad := rfl
@[simp] theorem ev_lnil {ρ : Rho} : lNil ρ = .ok [] ρ := rfl
@[simp] theorem ev_lcons {fa : EF} {fr : LF} {ρ : Rho} : lCons fa fr ρ = (fa ρ).bind fun r ρ1 => (fr ρ1).bind fun rs ρ2 => .ok (r :: rs) ρ2 := rfl
@[simp] theorem ev_setl0 {ρ : Rho} : setl [] ρ = some ([], ρ) := rfl
@[simp] theorem ev_setl {r : RV} {rs : List RV} {ρ : Rho} : setl (r :: rs) ρ = (match stl ρ r with
  | some (d, ρ1) => (match setl rs ρ1 with
    | some (ds, ρ2) => some (d :: ds, ρ2)
    | none => none)
  | none => none) := rfl
@[simp] theorem ev_lst {f : LF} {ρ : Rho} : eLst f ρ = (f ρ).bind fun rs ρ1 => match setl rs ρ1 with
  | some (ds, ρ2) => if ds.length ≤ sizeLine then .ok (.ow (.lst ds)) ρ2 else .bad
  | none => .bad := rfl
@[simp] theorem ev_tup {f : LF} {ρ : Rho} : eTup f ρ = (f ρ).bind fun rs ρ1 => match setl rs ρ1 with
  | some (ds, ρ2) => if ds.length ≤ sizeLine then .ok (.im (.tup ds)) ρ2 else .bad
  | none => .bad := rfl
@[simp] theorem ev_rdvs0 {ρ : Rho} : rdvs ρ [] = some [] := rfl
@[simp] theorem ev_rdvs {r : RV} {rs : List RV} {ρ : Rho} : rdvs ρ (r :: rs) = (match rdv ρ r, rdvs ρ rs with
  | some d, some ds => some (d :: ds)
  | _, _ => none) := rfl
@[simp] theorem ev_eB {g : List D → Option Bv} {fl : LF} {ρ : Rho} : eB g fl ρ = (fl ρ).bind fun rs ρ1 => match rdvs ρ1 rs with
  | some ds => (match g ds with
    | some bv => .ok bv.rv ρ1
    | none => .bad)
  | none => .bad := rfl
@[simp] theorem ev_isi {cs : List Ct} {f : EF} {ρ : Rho} : eIsi cs f ρ = (f ρ).bind fun r ρ1 => match rdv ρ1 r with
  | some d => (match tagD d with
    | some t => .ok (.im (.bl (cs.any (isiT t)))) ρ1
    | none => .bad)
  | none => .bad := rfl
@[simp] theorem ev_call {S : Fs} {fl : LF} {ρ : Rho} : eCall S fl ρ = (fl ρ).bind fun rs ρ1 => match prep S.fl rs ρ1 with
  | some (ds, is, ρ2) => (S.F ds).rs ρ2 is
  | none => .bad := rfl
@[simp] theorem ev_make {c : Nat} {fls : List Bool} {F : List D → Out} {fl : LF} {ρ : Rho} : eMake c fls F fl ρ = (fl ρ).bind fun rs ρ1 => match prep fls rs ρ1 with
  | some (ds, is, ρ2) => (mkO c F ds).rs ρ2 is
  | none => .bad := rfl
@[simp] theorem ev_meth {gm : Nat → Option Fs} {mi : Nat} {fo : EF} {fl : LF} {ρ : Rho} : eMeth gm mi fo fl ρ = (fo ρ).bind fun r ρ1 => match rdv ρ1 r with
  | some (.ins c fs) => (match gm c, fs.lookup mi with
    | some S, none => (fl ρ1).bind fun rs ρ2 => (match prep S.fl (r :: rs) ρ2 with
      | some (ds, is, ρ3) => (S.F ds).rs ρ3 is
      | none => .bad)
    | _, _ => .bad)
  | _ => .bad := rfl
@[simp] theorem ev_prep0 {ρ : Rho} : prep [] [] ρ = some ([], [], ρ) := rfl
@[simp] theorem ev_prepf {fl : List Bool} {r : RV} {rs : List RV} {ρ : Rho} : prep (false :: fl) (r :: rs) ρ = (match stl ρ r with
  | some (d, ρ1) => (match prep fl rs ρ1 with
    | some (ds, is, ρ2) => some (d :: ds, is, ρ2)
    | none => none)
  | none => none) := rfl
@[simp] theorem ev_prept {fl : List Bool} {i : Nat} {rs : List RV} {ρ : Rho} : prep (true :: fl) (.bo i :: rs) ρ = (match prep fl rs ρ with
  | some (ds, is, ρ2) => if is.contains i then none else (match ρ2[i]? with
    | some (.ow d) => some (d :: ds, i :: is, ρ2)
    | some (.mu d) => some (d :: ds, i :: is, ρ2)
    | _ => none)
  | none => none) := rfl
@[simp] theorem ev_ors_ok {r : RV} {ms : List D} {ρ : Rho} {is : List Nat} : (Out.ok r ms).rs ρ is = .ok r (putS ρ is ms) := rfl
@[simp] theorem ev_ors_bad {ρ : Rho} {is : List Nat} : Out.bad.rs ρ is = .bad := rfl
@[simp] theorem ev_put0 {ρ : Rho} {ds : List D} : putS ρ [] ds = ρ := by cases ds <;> rfl
@[simp] theorem ev_put {ρ : Rho} {i : Nat} {is : List Nat} {d : D} {ds : List D} : putS ρ (i :: is) (d :: ds) = putS (setS ρ i d) is ds := rfl
@[simp] theorem ev_fld {ok : Nat → Bool} {k : Nat} {f : EF} {ρ : Rho} : eFld ok k f ρ = (f ρ).bind fun r ρ1 => match rdv ρ1 r with
  | some (.ins c fs) => if ok c = true then (match fs.lookup k with
    | some d => .ok (.im d) ρ1
    | none => .bad) else .bad
  | _ => .bad := rfl
@[simp] theorem ev_ival {f : EF} {ρ : Rho} : iVal f ρ = (f ρ).bind fun r ρ1 => match stl ρ1 r with
  | some (d, ρ2) => (match itD d with
    | some ds => .ok ds ρ2
    | none => .bad)
  | none => .bad := rfl
@[simp] theorem ev_lc {fi : IF} {nt : Nt} {tst : TF} {fe : EF} {vs : List Nat} {ρ : Rho} : eLc fi nt tst fe vs ρ = (fi ρ).bind fun ds ρ1 => if coldAt ρ1 vs = true then (match lcGo nt tst fe vs ds [] (wipeR ρ1 vs) with
  | some (out, ρ2) => .ok (.ow (.lst out)) (restR ρ1 ρ2 vs)
  | none => .bad) else .bad := rfl
@[simp] theorem ev_dc {fi : IF} {nt : Nt} {tst : TF} {fk fv : EF} {vs : List Nat} {ρ : Rho} : eDc fi nt tst fk fv vs ρ = (fi ρ).bind fun ds ρ1 => if coldAt ρ1 vs = true then (match dcGo nt tst fk fv vs ds [] (wipeR ρ1 vs) with
  | some (out, ρ2) => .ok (.ow (.dic out)) (restR ρ1 ρ2 vs)
  | none => .bad) else .bad := rfl
@[simp] theorem ev_bm {n : String} {g : D → List D → Option Br} {fo : EF} {fl : LF} {ρ : Rho} : eBm n g fo fl ρ = (fo ρ).bind fun r ρ1 => match rdv ρ1 r with
  | some d0 => if tyD d0 = some n then (fl ρ1).bind fun rs ρ2 => (match setl rs ρ2 with
    | some (ds, ρ3) => (match rdv ρ3 r with
      | some d => (match g d ds with
        | some br => .ok br.rv ρ3
        | none => .bad)
      | none => .bad)
    | none => .bad) else .bad
  | none => .bad := rfl
@[simp] theorem ev_mt {n : String} {g : D → List D → Option (D × D)} {fo : EF} {fl : LF} {ρ : Rho} : eMt n g fo fl ρ = (fo ρ).bind fun r ρ1 => match r with
  | .bo i => (match hotD ρ1 i with
    | some d0 => if tyD d0 = some n then (fl ρ1).bind fun rs ρ2 => (match setl rs ρ2 with
      | some (ds, ρ3) => (match hotD ρ3 i with
        | some d => (match g d ds with
          | some (v, d') => .ok (.im v) (setS ρ3 i d')
          | none => .bad)
        | none => .bad)
      | none => .bad) else .bad
    | none => .bad)
  | _ => .bad := rfl
@[simp] theorem ev_sfld {ok : Nat → Bool} {k : Nat} {fv fo : EF} {ρ : Rho} : sFldD ok k fv fo ρ = (fv ρ).st fun rv ρ1 => (fo ρ1).st fun ro ρ2 => match ro with
  | .bo i => (match stl ρ2 rv with
    | some (d, ρ3) => (match hotD ρ3 i with
      | some (.ins c fs) => if ok c = true ∧ fs.length < 1000 then .nx (setS ρ3 i (.ins c (putFD k d fs))) else .bad
      | _ => .bad)
    | none => .bad)
  | _ => .bad := rfl
@[simp] theorem ev_sl {fe : EF} {fl fh : OF} {ρ : Rho} : eSl fe fl fh ρ = (fe ρ).bind fun r ρ1 => (fl ρ1).bind fun lo ρ2 => (fh ρ2).bind fun hi ρ3 => match rdv ρ3 r with
  | some d => (match bSl d lo hi with
    | some r' => .ok r' ρ3
    | none => .bad)
  | none => .bad := rfl
@[simp] theorem ev_ono {ρ : Rho} : oNo ρ = .ok none ρ := rfl
@[simp] theorem ev_oyes {f : EF} {ρ : Rho} : oYes f ρ = (f ρ).bind fun r ρ1 => match rdv ρ1 r with
  | some (.int i) => .ok (some i) ρ1
  | _ => .bad := rfl
@[simp] theorem ev_rng1 {fl : LF} {ρ : Rho} : iRng1 fl ρ = (fl ρ).bind fun rs ρ1 => match rdvs ρ1 rs with
  | some [.int j] => if i62 j = true then .ok (rngD 0 j.toNat) ρ1 else .bad
  | _ => .bad := rfl
@[simp] theorem ev_aug {i : Nat} {g : D → D → Ov} {f : EF} {ρ : Rho} : sAug i g f ρ = (eVar i ρ).st fun r0 ρ0 => (f ρ0).st fun r ρ1 => match rdv ρ1 r0, rdv ρ1 r with
  | some x, some y => (match g x y with
    | .ok rv => (match gNam i rv ρ1 with
      | some ρ2 => .nx ρ2
      | none => .bad)
    | _ => .bad)
  | _, _ => .bad := rfl
@[simp] theorem ev_enu2 {f : EF} {ρ : Rho} : iEnu2 f ρ = (f ρ).bind fun r ρ1 => match stl ρ1 r with
  | some (d, ρ2) => (match asS d with
    | some ds => .ok (enumD 0 ds) ρ2
    | none => .bad)
  | none => .bad := rfl
@[simp] theorem ev_wipe0 {ρ : Rho} : wipeR ρ [] = ρ := rfl
@[simp] theorem ev_wipe {ρ : Rho} {v : Nat} {vs : List Nat} : wipeR ρ (v :: vs) = (wipeR ρ vs).set v .no := rfl
@[simp] theorem ev_cold0 {ρ : Rho} : coldAt ρ [] = true := rfl
@[simp] theorem ev_cold {ρ : Rho} {v : Nat} {vs : List Nat} : coldAt ρ (v :: vs) = ((match ρ[v]? with
  | some s => !s.hot
  | none => true) && coldAt ρ vs) := rfl
@[simp] theorem ev_rest0 {ρ ρ0 : Rho} : restR ρ0 ρ [] = ρ := rfl
@[simp] theorem ev_rest {ρ ρ0 : Rho} {v : Nat} {vs : List Nat} : restR ρ0 ρ (v :: vs) = (match ρ0[v]? with
  | some s => (restR ρ0 ρ vs).set v s
  | none => restR ρ0 ρ vs) := rfl
@[simp] theorem sizeLine_num : sizeLine = 16777216 := by decide
@[simp] theorem ev_hot_no : Sl.hot .no = false := rfl
@[simp] theorem ev_hot_im {d : D} : Sl.hot (.im d) = false := rfl
@[simp] theorem ev_hot_ow {d : D} : Sl.hot (.ow d) = true := rfl
@[simp] theorem ev_hot_mu {d : D} : Sl.hot (.mu d) = true := rfl
end Pu
namespace Pu
open PySem PySem.Spec PyProof.Rows L2
@[simp] theorem fl_is_name : S_is_name.fl = [false] := rfl
theorem F_is_name : S_is_name.F = runF 2 [false] d_is_name := rfl
@[simp] theorem fl_is_integer : S_is_integer.fl = [false] := rfl
theorem F_is_integer : S_is_integer.F = runF 1 [false] d_is_integer := rfl
@[simp] theorem fl_is_number : S_is_number.fl = [false, false] := rfl
theorem F_is_number : S_is_number.F = runF 2 [false, false] d_is_number := rfl
@[simp] theorem fl_Heap___init___1 : S_Heap___init___1.fl = [true] := rfl
theorem F_Heap___init___1 : S_Heap___init___1.F = fillF ((List.drop 0 ([.non] : List He.Dv)).map dvD) (runF 4 [true, false] d_Heap___init__) := rfl
@[simp] theorem fl_Heap___init___2 : S_Heap___init___2.fl = [true, false] := rfl
theorem F_Heap___init___2 : S_Heap___init___2.F = fillF ((List.drop 1 ([.non] : List He.Dv)).map dvD) (runF 4 [true, false] d_Heap___init__) := rfl
@[simp] theorem fl_Heap_of_s1 : S_Heap_of_s1.fl = [] ++ List.replicate 1 false := rfl
theorem F_Heap_of_s1 : S_Heap_of_s1.F = starF 0 (runF 3 ([] ++ [false]) d_Heap_of) := rfl
@[simp] theorem fl_Heap_names : S_Heap_names.fl = [false] := rfl
theorem F_Heap_names : S_Heap_names.F = runF 1 [false] d_Heap_names := rfl
@[simp] theorem fl_Heap_pairs : S_Heap_pairs.fl = [false] := rfl
theorem F_Heap_pairs : S_Heap_pairs.F = runF 2 [false] d_Heap_pairs := rfl
@[simp] theorem fl_Heap___getitem__ : S_Heap___getitem__.fl = [false, false] := rfl
theorem F_Heap___getitem__ : S_Heap___getitem__.F = runF 2 [false, false] d_Heap___getitem__ := rfl
@[simp] theorem fl_Heap___contains__ : S_Heap___contains__.fl = [false, false] := rfl
theorem F_Heap___contains__ : S_Heap___contains__.F = runF 2 [false, false] d_Heap___contains__ := rfl
@[simp] theorem fl_Heap___add__ : S_Heap___add__.fl = [false, false] := rfl
theorem F_Heap___add__ : S_Heap___add__.F = runF 3 [false, false] d_Heap___add__ := rfl
@[simp] theorem fl_Heap___mul__ : S_Heap___mul__.fl = [false, false] := rfl
theorem F_Heap___mul__ : S_Heap___mul__.F = runF 3 [false, false] d_Heap___mul__ := rfl
@[simp] theorem fl_Heap___rmul__ : S_Heap___rmul__.fl = [false, false] := rfl
theorem F_Heap___rmul__ : S_Heap___rmul__.F = runF 2 [false, false] d_Heap___rmul__ := rfl
@[simp] theorem fl_Heap___eq__ : S_Heap___eq__.fl = [false, false] := rfl
theorem F_Heap___eq__ : S_Heap___eq__.F = runF 2 [false, false] d_Heap___eq__ := rfl
@[simp] theorem fl_Book___init__ : S_Book___init__.fl = [true, false] := rfl
theorem F_Book___init__ : S_Book___init__.F = runF 6 [true, false] d_Book___init__ := rfl
@[simp] theorem fl_Book_kinds : S_Book_kinds.fl = [false] := rfl
theorem F_Book_kinds : S_Book_kinds.F = runF 1 [false] d_Book_kinds := rfl
@[simp] theorem fl_Book___contains__ : S_Book___contains__.fl = [false, false] := rfl
theorem F_Book___contains__ : S_Book___contains__.F = runF 2 [false, false] d_Book___contains__ := rfl
@[simp] theorem fl_Book_content : S_Book_content.fl = [false, false] := rfl
theorem F_Book_content : S_Book_content.F = runF 2 [false, false] d_Book_content := rfl
@[simp] theorem fl_Book_unknown : S_Book_unknown.fl = [false, false] := rfl
theorem F_Book_unknown : S_Book_unknown.F = runF 4 [false, false] d_Book_unknown := rfl
@[simp] theorem fl_Book___eq__ : S_Book___eq__.fl = [false, false] := rfl
theorem F_Book___eq__ : S_Book___eq__.F = runF 2 [false, false] d_Book___eq__ := rfl
@[simp] theorem fl_lowest : S_lowest.fl = [false, false] := rfl
theorem F_lowest : S_lowest.F = runF 2 [false, false] d_lowest := rfl
@[simp] theorem fl_WorthList___init__ : S_WorthList___init__.fl = [true, false, false] := rfl
theorem F_WorthList___init__ : S_WorthList___init__.F = fillF ((List.map (·.2) ([("modulus", .int 0)] : List (Str × He.Dv))).map dvD) (runF 5 [true, false, false, false] d_WorthList___init__) := rfl
@[simp] theorem fl_WorthList_table : S_WorthList_table.fl = [false] := rfl
theorem F_WorthList_table : S_WorthList_table.F = runF 2 [false] d_WorthList_table := rfl
@[simp] theorem fl_WorthList_worth_of : S_WorthList_worth_of.fl = [false, false] := rfl
theorem F_WorthList_worth_of : S_WorthList_worth_of.F = runF 5 [false, false] d_WorthList_worth_of := rfl
@[simp] theorem fl_WorthList_fault : S_WorthList_fault.fl = [false] := rfl
theorem F_WorthList_fault : S_WorthList_fault.F = runF 3 [false] d_WorthList_fault := rfl
@[simp] theorem fl_WorthList_is_honest : S_WorthList_is_honest.fl = [false] := rfl
theorem F_WorthList_is_honest : S_WorthList_is_honest.F = runF 1 [false] d_WorthList_is_honest := rfl
@[simp] theorem fl_is_heap_of : S_is_heap_of.fl = [false, false] := rfl
theorem F_is_heap_of : S_is_heap_of.F = runF 2 [false, false] d_is_heap_of := rfl
@[simp] theorem fl_is_honest_list : S_is_honest_list.fl = [false, false] := rfl
theorem F_is_honest_list : S_is_honest_list.F = runF 2 [false, false] d_is_honest_list := rfl
@[simp] theorem fl_is_deed : S_is_deed.fl = [false, false, false] := rfl
theorem F_is_deed : S_is_deed.F = runF 5 [false, false, false] d_is_deed := rfl
@[simp] theorem fl_done_alone : S_done_alone.fl = [false, false, false] := rfl
theorem F_done_alone : S_done_alone.F = runF 3 [false, false, false] d_done_alone := rfl
@[simp] theorem fl_done : S_done.fl = [false, false, false] := rfl
theorem F_done : S_done.F = runF 6 [false, false, false] d_done := rfl
@[simp] theorem fl_Script___init___s0 : S_Script___init___s0.fl = [true, false, false] ++ List.replicate 0 false := rfl
theorem F_Script___init___s0 : S_Script___init___s0.F = starF 3 (runF 7 ([true, false, false] ++ [false]) d_Script___init__) := rfl
@[simp] theorem fl_Script___init___s1 : S_Script___init___s1.fl = [true, false, false] ++ List.replicate 1 false := rfl
theorem F_Script___init___s1 : S_Script___init___s1.F = starF 3 (runF 7 ([true, false, false] ++ [false]) d_Script___init__) := rfl
@[simp] theorem fl_Script_rooms : S_Script_rooms.fl = [false] := rfl
theorem F_Script_rooms : S_Script_rooms.F = runF 1 [false] d_Script_rooms := rfl
@[simp] theorem fl_Script_run : S_Script_run.fl = [false, false] := rfl
theorem F_Script_run : S_Script_run.F = runF 8 [false, false] d_Script_run := rfl
@[simp] theorem fl_Differ___init__ : S_Differ___init__.fl = [true, false, false, false, false, false] := rfl
theorem F_Differ___init__ : S_Differ___init__.F = runF 6 [true, false, false, false, false, false] d_Differ___init__ := rfl
@[simp] theorem fl_Differ_holds : S_Differ_holds.fl = [false] := rfl
theorem F_Differ_holds : S_Differ_holds.F = runF 6 [false] d_Differ_holds := rfl
@[simp] theorem fl_Differ___repr__ : S_Differ___repr__.fl = [false] := rfl
theorem F_Differ___repr__ : S_Differ___repr__.F = runF 1 [false] d_Differ___repr__ := rfl
@[simp] theorem fl__law_bag : S__law_bag.fl = [false] := rfl
theorem F__law_bag : S__law_bag.F = runF 3 [false] d__law_bag := rfl
@[simp] theorem fl__law_draw : S__law_draw.fl = [true, false] := rfl
theorem F__law_draw : S__law_draw.F = runF 5 [true, false] d__law_draw := rfl
@[simp] theorem fl__law_of : S__law_of.fl = [true, false] := rfl
theorem F__law_of : S__law_of.F = runF 2 [true, false] d__law_of := rfl
@[simp] theorem fl__law_words : S__law_words.fl = [true, false] := rfl
theorem F__law_words : S__law_words.F = runF 11 [true, false] d__law_words := rfl
@[simp] theorem fl__law_made : S__law_made.fl = [false] := rfl
theorem F__law_made : S__law_made.F = runF 3 [false] d__law_made := rfl
@[simp] theorem fl__law_book : S__law_book.fl = [false] := rfl
theorem F__law_book : S__law_book.F = runF 3 [false] d__law_book := rfl
@[simp] theorem fl__law_plus : S__law_plus.fl = [false, false, false] := rfl
theorem F__law_plus : S__law_plus.F = runF 5 [false, false, false] d__law_plus := rfl
@[simp] theorem fl__law_worth : S__law_worth.fl = [false, false, false] := rfl
theorem F__law_worth : S__law_worth.F = runF 5 [false, false, false] d__law_worth := rfl
@[simp] theorem fl__law_honest : S__law_honest.fl = [false, false, false] := rfl
theorem F__law_honest : S__law_honest.F = runF 5 [false, false, false] d__law_honest := rfl
@[simp] theorem fl__law_whole : S__law_whole.fl = [false] := rfl
theorem F__law_whole : S__law_whole.F = runF 1 [false] d__law_whole := rfl
@[simp] theorem fl__law_list_so : S__law_list_so.fl = [false, false] := rfl
theorem F__law_list_so : S__law_list_so.F = runF 5 [false, false] d__law_list_so := rfl
@[simp] theorem fl__law_parted_so : S__law_parted_so.fl = [false, false, false, false] := rfl
theorem F__law_parted_so : S__law_parted_so.F = runF 5 [false, false, false, false] d__law_parted_so := rfl
@[simp] theorem fl_law : S_law.fl = [false] := rfl
theorem F_law : S_law.F = runF 30 [false] d_law := rfl
end Pu
namespace Pu
open PySem PySem.Spec PyProof.Rows L2
@[simp] theorem pv_lt {i j : Int} : bCmp .Lt (.int i) (.int j) = .ok (.im (.bl (decide (i < j)))) := rfl
@[simp] theorem pv_le {i j : Int} : bCmp .LtE (.int i) (.int j) = .ok (.im (.bl (decide (i ≤ j)))) := rfl
@[simp] theorem pv_gt {i j : Int} : bCmp .Gt (.int i) (.int j) = .ok (.im (.bl (decide (j < i)))) := rfl
@[simp] theorem pv_ge {i j : Int} : bCmp .GtE (.int i) (.int j) = .ok (.im (.bl (decide (j ≤ i)))) := rfl
@[simp] theorem pv_slt {i j : Str} : bCmp .Lt (.str i) (.str j) = .ok (.im (.bl (sLt i j))) := rfl
@[simp] theorem pv_sle {i j : Str} : bCmp .LtE (.str i) (.str j) = .ok (.im (.bl (!sLt j i))) := rfl
@[simp] theorem pv_sgt {i j : Str} : bCmp .Gt (.str i) (.str j) = .ok (.im (.bl (sLt j i))) := rfl
@[simp] theorem pv_is {d : D} : bCmp .Is d .non = .ok (.im (.bl (isNonD d))) := by cases d <;> rfl
@[simp] theorem pv_isn {d : D} : bCmp .IsNot d .non = .ok (.im (.bl (!isNonD d))) := by cases d <;> rfl
@[simp] theorem non_non : isNonD .non = true := rfl
@[simp] theorem non_int {i : Int} : isNonD (.int i) = false := rfl
@[simp] theorem non_str {i : Str} : isNonD (.str i) = false := rfl
@[simp] theorem non_bl {i : Bool} : isNonD (.bl i) = false := rfl
@[simp] theorem non_lst {i : List D} : isNonD (.lst i) = false := rfl
@[simp] theorem non_tup {i : List D} : isNonD (.tup i) = false := rfl
@[simp] theorem non_dic {i : List (Key × D)} : isNonD (.dic i) = false := rfl
@[simp] theorem non_ins {c : Nat} {i : List (Nat × D)} : isNonD (.ins c i) = false := rfl
theorem shp_int {i : Int} : SeqAt.shaped (.int i) = true := by simp [SeqAt.shaped, PyData.canLay0.eq_3, PyData.depth.eq_6]
theorem shp_bl {i : Bool} : SeqAt.shaped (.bool i) = true := by simp [SeqAt.shaped, PyData.canLay0.eq_2, PyData.depth.eq_5]
theorem shp_str {i : Str} : SeqAt.shaped (.str i) = PyData.strOk i := by simp [SeqAt.shaped, PyData.canLay0.eq_4, PyData.depth.eq_7]
theorem eq_int {i j : Int} : bEq (.int i) (.int j) = some (decide (i = j)) := by
  simp [bEq, toP, shp_int, PyData.eqv.eq_5]; rfl
theorem eq_str {i j : Str} (hi : PyData.strOk i = true) (hj : PyData.strOk j = true) : bEq (.str i) (.str j) = some (decide (i = j)) := by
  simp [bEq, toP, shp_str, hi, hj, PyData.eqv.eq_6]; rfl
theorem toPs_strs : ∀ l : List Str, toPs (l.map D.str) = some (l.map PyData.str)
  | [] => rfl
  | x :: l => by simp [toPs, toP, toPs_strs l]
theorem toPs_bls : ∀ l : List Bool, toPs (l.map D.bl) = some (l.map PyData.bool)
  | [] => rfl
  | x :: l => by simp [toPs, toP, toPs_bls l]
theorem lay_strs : ∀ l : List Str, (∀ x ∈ l, PyData.strOk x = true) → PyData.canLayAll0 (l.map PyData.str) = true ∧ PyData.depthAll (l.map PyData.str) = 0
  | [], _ => ⟨by simp [PyData.canLayAll0], by simp [PyData.depthAll]⟩
  | x :: l, h => by
    obtain ⟨a, b⟩ := lay_strs l fun y hy => h y (List.mem_cons_of_mem _ hy)
    have := h x List.mem_cons_self
    simp [PyData.canLayAll0, PyData.depthAll, PyData.canLay0.eq_4, PyData.depth.eq_7, a, b, this]
theorem lay_bls : ∀ l : List Bool, PyData.canLayAll0 (l.map PyData.bool) = true ∧ PyData.depthAll (l.map PyData.bool) = 0
  | [] => ⟨by simp [PyData.canLayAll0], by simp [PyData.depthAll]⟩
  | x :: l => by
    obtain ⟨a, b⟩ := lay_bls l
    simp [PyData.canLayAll0, PyData.depthAll, PyData.canLay0.eq_2, PyData.depth.eq_5, a, b]
theorem eqv_strs : ∀ l r : List Str, PyData.eqvAll (l.map PyData.str) (r.map PyData.str) = decide (l = r)
  | [], [] => by simp [PyData.eqvAll]
  | [], y :: r => by simp [PyData.eqvAll]
  | x :: l, [] => by simp [PyData.eqvAll]
  | x :: l, y :: r => by
    simp only [List.map_cons, PyData.eqvAll, PyData.eqv.eq_6, eqv_strs l r]
    by_cases h : x = y <;> by_cases h2 : l = r <;> simp [h, h2]
theorem eqv_bls : ∀ l r : List Bool, PyData.eqvAll (l.map PyData.bool) (r.map PyData.bool) = decide (l = r)
  | [], [] => by simp [PyData.eqvAll]
  | [], y :: r => by simp [PyData.eqvAll]
  | x :: l, [] => by simp [PyData.eqvAll]
  | x :: l, y :: r => by
    simp only [List.map_cons, PyData.eqvAll, PyData.eqv.eq_2, eqv_bls l r]
    by_cases h : x = y <;> by_cases h2 : l = r <;> simp [h, h2]
theorem eq_strs {l r : List Str} (hl : ∀ x ∈ l, PyData.strOk x = true) (hr : ∀ x ∈ r, PyData.strOk x = true) : bEq (.lst (l.map D.str)) (.lst (r.map D.str)) = some (decide (l = r)) := by
  obtain ⟨a, b⟩ := lay_strs l hl
  obtain ⟨c, d⟩ := lay_strs r hr
  simp [bEq, toP, toPs_strs, SeqAt.shaped, PyData.canLay0.eq_5, PyData.depth.eq_1, a, b, c, d, PyData.eqv.eq_7, eqv_strs]
theorem eq_bls {l r : List Bool} : bEq (.lst (l.map D.bl)) (.lst (r.map D.bl)) = some (decide (l = r)) := by
  obtain ⟨a, b⟩ := lay_bls l
  obtain ⟨c, d⟩ := lay_bls r
  simp [bEq, toP, toPs_bls, SeqAt.shaped, PyData.canLay0.eq_5, PyData.depth.eq_1, a, b, c, d, PyData.eqv.eq_7, eqv_bls]
@[simp] theorem pv_eq {a b : D} : bCmp .Eq a b = obl false (bEq a b) := rfl
@[simp] theorem pv_ne {a b : D} : bCmp .NotEq a b = obl true (bEq a b) := rfl
@[simp] theorem pv_oblf {k : Bool} : obl false (some k) = .ok (.im (.bl k)) := rfl
@[simp] theorem pv_oblt {k : Bool} : obl true (some k) = .ok (.im (.bl (!k))) := rfl
@[simp] theorem ev_var {i : Nat} {ρ : Rho} : eVar i ρ = (match ρ[i]? with
  | some (.im d) => .ok (.im d) ρ
  | some (.ow _) => .ok (.bo i) ρ
  | some (.mu _) => .ok (.bo i) ρ
  | _ => .bad) := rfl
@[simp] theorem ev_nam {i : Nat} {r : RV} {ρ : Rho} : gNam i r ρ = (match ρ[i]?, slOf r with
  | some (.mu _), _ => none
  | some _, some s => some (ρ.set i s)
  | _, _ => none) := rfl
@[simp] theorem ev_rdv_bo {i : Nat} {ρ : Rho} : rdv ρ (.bo i) = (match ρ[i]? with
  | some (.im d) => some d
  | some (.ow d) => some d
  | some (.mu d) => some d
  | _ => none) := rfl
@[simp] theorem ev_stl_bo {i : Nat} {ρ : Rho} : stl ρ (.bo i) = (match ρ[i]? with
  | some (.im d) => some (d, ρ)
  | some (.ow d) => some (d, ρ.set i (.im d))
  | _ => none) := rfl
@[simp] theorem ev_fix_bo {i : Nat} {ρ : Rho} : fix1 (.bo i) ρ = (stl ρ (.bo i)).map fun p => (.im p.1, p.2) := rfl
@[simp] theorem ev_setS {i : Nat} {ρ : Rho} {d : D} : setS ρ i d = (match ρ[i]? with
  | some (.ow _) => ρ.set i (.ow d)
  | some (.mu _) => ρ.set i (.mu d)
  | _ => ρ) := rfl
@[simp] theorem ev_hotD {i : Nat} {ρ : Rho} : hotD ρ i = (match ρ[i]? with
  | some (.ow d) => some d
  | some (.mu d) => some d
  | _ => none) := rfl
@[simp] theorem ev_gsubs {fo fi : EF} {r : RV} {ρ : Rho} : gSubs fo fi r ρ = (match fo ρ with
  | .ok (.bo i) ρ1 => (match fi ρ1 with
    | .ok rk ρ2 => (match rdv ρ2 rk, dR r, hotD ρ2 i with
      | some k, some d, some c => (match cSet c k d with
        | some c' => some (setS ρ2 i c')
        | none => none)
      | _, _, _ => none)
    | _ => none)
  | _ => none) := rfl
@[simp] theorem cs_dic {kvs : List (Key × D)} {k : Str} {d : D} : cSet (.dic kvs) (.str k) d = if kvs.length < sizeLine then some (.dic (putD kvs (.inr k) d)) else none := rfl
theorem ixN_of (n i : Nat) (h : i < n) : ixN n (i : Int) = some i := by
  unfold ixN
  rw [if_pos (by omega)]
  simp [h]
@[simp] theorem ev_gtup {gs : List GF} {r : RV} {ρ : Rho} : gTupD gs r ρ = (match r with
  | .im (.tup ds) => if ds.length = gs.length then stores gs (ds.map RV.im) ρ else none
  | .im (.lst ds) => if ds.length = gs.length then stores gs (ds.map RV.im) ρ else none
  | .ow (.lst ds) => if ds.length = gs.length then stores gs (ds.map RV.im) ρ else none
  | _ => none) := by
  cases r with
  | im d => cases d <;> rfl
  | ow d => cases d <;> rfl
  | bo i => rfl
@[simp] theorem cs_lst {l : List D} {j : Int} {d : D} : cSet (.lst l) (.int j) d = (ixN l.length j).map fun n => .lst (l.set n d) := rfl
@[simp] theorem ev_start {n : Nat} {fl : List Bool} {ds : List D} : startR n fl ds = slotsOf fl ds ++ List.replicate (n - ds.length) .no := rfl
@[simp] theorem ev_sl0 {ds : List D} : slotsOf [] ds = [] := by cases ds <;> rfl
@[simp] theorem ev_slf {fl : List Bool} {d : D} {ds : List D} : slotsOf (false :: fl) (d :: ds) = .im d :: slotsOf fl ds := rfl
@[simp] theorem ev_slt {fl : List Bool} {d : D} {ds : List D} : slotsOf (true :: fl) (d :: ds) = .mu d :: slotsOf fl ds := rfl
@[simp] theorem ev_mus0 {k : Nat} {ρ : Rho} : musOf k [] ρ = [] := rfl
@[simp] theorem ev_musf {k : Nat} {fl : List Bool} {ρ : Rho} : musOf k (false :: fl) ρ = musOf (k + 1) fl ρ := rfl
@[simp] theorem ev_must {k : Nat} {fl : List Bool} {ρ : Rho} : musOf k (true :: fl) ρ = muD ρ[k]? :: musOf (k + 1) fl ρ := rfl
@[simp] theorem ev_muD {d : D} : muD (some (.mu d)) = d := rfl
@[simp] theorem ev_onx {fl : List Bool} {ρ : Rho} : (Rt.nx ρ).out fl = .ok (.im .non) (musOf 0 fl ρ) := rfl
@[simp] theorem ev_oim {fl : List Bool} {ρ : Rho} {d : D} : (Rt.rt (.im d) ρ).out fl = .ok (.im d) (musOf 0 fl ρ) := rfl
@[simp] theorem ev_oow {fl : List Bool} {ρ : Rho} {d : D} : (Rt.rt (.ow d) ρ).out fl = .ok (.ow d) (musOf 0 fl ρ) := rfl
@[simp] theorem ev_obo {fl : List Bool} {ρ : Rho} {i : Nat} : (Rt.rt (.bo i) ρ).out fl = (match ρ[i]? with
    | some (.im d) => .ok (.im d) (musOf 0 fl ρ)
    | some (.ow d) => .ok (.ow d) (musOf 0 fl ρ)
    | _ => .bad) := rfl
@[simp] theorem tg_non : tagD .non = some 6 := rfl
@[simp] theorem tg_bl {k : Bool} : tagD (.bl k) = some 2 := rfl
@[simp] theorem tg_int {k : Int} : tagD (.int k) = some 1 := rfl
@[simp] theorem tg_str {k : Str} : tagD (.str k) = some 0 := rfl
@[simp] theorem tg_lst {k : List D} : tagD (.lst k) = some 4 := rfl
@[simp] theorem tg_scr {k : List Int} : tagD (.scr k) = some 4 := rfl
@[simp] theorem tg_tup {k : List D} : tagD (.tup k) = some 5 := rfl
@[simp] theorem tg_dic {k : List (Key × D)} : tagD (.dic k) = some 3 := rfl
@[simp] theorem tg_ins {c : Nat} {k : List (Nat × D)} : tagD (.ins c k) = some (7 + c) := rfl
@[simp] theorem is_bt {t n : Nat} : isiT t (.bt n) = (decide (t = n) || (decide (t = 2) && decide (n = 1))) := rfl
@[simp] theorem is_own {t c : Nat} : isiT t (.own c) = decide (t = 7 + c) := rfl
@[simp] theorem lk_cons {α : Type} {a k : Nat} {b : α} {l : List (Nat × α)} : List.lookup a ((k, b) :: l) = if a = k then some b else List.lookup a l := by
  by_cases h : a = k
  · subst h; simp
  · rw [List.lookup_cons, if_neg h]
    have : (a == k) = false := beq_eq_false_iff_ne.mpr h
    rw [this]
@[simp] theorem lk_nil {α : Type} {a : Nat} : List.lookup a ([] : List (Nat × α)) = none := rfl
def LET : Str := "abcdefghijklmnopqrstuvwxyz"
def chB (c : Nat) : Bool := decide (97 ≤ c) && decide (c ≤ 122)
theorem sIn_let (c : Nat) : sIn ⟨#[c]⟩ LET = chB c := by
  have h : sIn ⟨#[c]⟩ LET = decide (c ∈ LET.cps.toList) := StrLaws.found_one LET c
  rw [h]
  have e : LET.cps.toList = [97, 98, 99, 100, 101, 102, 103, 104, 105, 106, 107, 108, 109, 110, 111, 112, 113, 114, 115, 116, 117, 118, 119, 120, 121, 122] := by decide +kernel
  rw [e]
  unfold chB
  rw [← Bool.decide_and]
  apply decide_eq_decide.mpr
  simp only [List.mem_cons, List.not_mem_nil, or_false]
  omega
def nameB (x : Str) : Bool := (decide (1 ≤ (x.length : Int)) && decide ((x.length : Int) ≤ 6)) && x.cps.toList.all chB
theorem nameB_ok {x : Str} (h : nameB x = true) : PyData.strOk x = true := by
  unfold nameB at h
  rw [Bool.and_eq_true] at h
  have h2 := List.all_eq_true.mp h.2
  unfold PyData.strOk
  rw [← Array.all_toList, List.all_eq_true]
  intro c hc
  have := h2 c hc
  unfold chB at this
  simp at this ⊢
  omega
theorem nameB_len {x : Str} (h : nameB x = true) : 1 ≤ x.length ∧ x.length ≤ 6 := by
  unfold nameB at h
  simp at h
  omega
theorem blsD_map {α : Type} (f : α → Bool) : ∀ l : List α, blsD (l.map fun a => D.bl (f a)) = some (l.map f)
  | [] => rfl
  | a :: l => by simp [blsD, blsD_map f l]
@[simp] theorem pv_in_str {i j : Str} : bCmp .In (.str i) (.str j) = .ok (.im (.bl (sIn i j))) := rfl
@[simp] theorem pv_len_str {x : Str} : bLen [.str x] = if x.length ≤ sizeLine then some (.int x.length) else none := rfl
@[simp] theorem pv_len_dic {x : List (Key × D)} : bLen [.dic x] = some (.int x.length) := rfl
@[simp] theorem pv_len_lst {x : List D} : bLen [.lst x] = some (.int x.length) := rfl
@[simp] theorem pv_len_tup {x : List D} : bLen [.tup x] = some (.int x.length) := rfl
@[simp] theorem bv_fl {v : V} {h} : Bv.rv (.fl v h) = .im (vD v) := rfl
@[simp] theorem bv_int {i : Int} : (Bv.int i).rv = .im (.int i) := rfl
@[simp] theorem bv_str {i : Str} : (Bv.str i).rv = .im (.str i) := rfl
@[simp] theorem bv_bl {i : Bool} : (Bv.bl i).rv = .im (.bl i) := rfl
@[simp] theorem bv_non : (Bv.non).rv = .im .non := rfl
@[simp] theorem bv_tup {i : List D} : (Bv.tup i).rv = .im (.tup i) := rfl
@[simp] theorem vD_int {i : Int} : vD (.int i) = .int i := rfl
@[simp] theorem vD_str {i : Str} : vD (.str i) = .str i := rfl
@[simp] theorem vD_bl {i : Bool} : vD (.bl i) = .bl i := rfl
@[simp] theorem vD_non : vD .non = .non := rfl
@[simp] theorem bv_lst {l : List D} : Bv.rv (.lst l) = .ow (.lst l) := rfl
@[simp] theorem bv_dic {l : List (Key × D)} : Bv.rv (.dic l) = .ow (.dic l) := rfl
@[simp] theorem tr_bl {k : Bool} : trD (.bl k) = some k := rfl
@[simp] theorem pv_fold {f : List Bool → Bool} {l : List D} : bFold f [.lst l] = (blsD l).map fun bs => .bl (f bs) := rfl
@[simp] theorem it_str {x : Str} : itD (.str x) = some (x.cps.toList.map fun c => .str ⟨#[c]⟩) := rfl
@[simp] theorem it_lst {x : List D} : itD (.lst x) = some x := rfl
@[simp] theorem it_tup {x : List D} : itD (.tup x) = some x := rfl
@[simp] theorem it_dic {x : List (Key × D)} : itD (.dic x) = some (x.map fun kv => kD kv.1) := rfl
theorem st_run {n : Nat} {fl : List Bool} {f : SF} {ds : List D} : runF n fl f ds = if ds.length = fl.length then (f (startR n fl ds)).out fl else .bad := rfl
theorem is_name_ev (x : Str) (hx : x.length ≤ 16777216) : S_is_name.F [.str x] = .ok (.im (.bl (nameB x))) [] := by
  have body : ∀ c, lcStep (.nm 1) tYesF (eOp (fun a b => .ov (bCmp .In a b)) (eVar 1) (eCon (.str "abcdefghijklmnopqrstuvwxyz"))) [1] (.str ⟨#[c]⟩) [.im (.str x), .no] = some (some (.bl (chB c)), [.im (.str x), .no]) := fun c => by
    have e : sIn ⟨#[c]⟩ "abcdefghijklmnopqrstuvwxyz" = chB c := sIn_let c
    simp [lcStep, bindD, e]
  by_cases h1 : 1 ≤ (x.length : Int)
  · by_cases h2 : (x.length : Int) ≤ 6
    · have hl : lcGo (.nm 1) tYesF (eOp (fun a b => .ov (bCmp .In a b)) (eVar 1) (eCon (.str "abcdefghijklmnopqrstuvwxyz"))) [1] (x.cps.toList.map fun c => .str ⟨#[c]⟩) [] [.im (.str x), .no] = some (x.cps.toList.map fun c => .bl (chB c), [.im (.str x), .no]) := by
        rw [lcGo_of (fun d => match d with
          | .str z => some (.bl (sIn z LET))
          | _ => none) _ _ (fun d hd => by
            obtain ⟨c, _, rfl⟩ := List.mem_map.mp hd
            rw [body c]; simp [sIn_let]) (by
            have : x.cps.toList.length = x.length := by simp [Str.length]
            simp only [List.length_nil, List.length_map]
            rw [this, sizeLine_num]; omega)]
        rw [List.filterMap_map]
        simp [Function.comp_def, sIn_let, List.filterMap_eq_map']
      simp [F_is_name, st_run, d_is_name, hx, h1, h2, nameB, hl, blsD_map]
    · simp [F_is_name, st_run, d_is_name, hx, h1, h2, nameB]
  · simp [F_is_name, st_run, d_is_name, hx, h1, nameB]
end Pu
namespace Pu
open PySem PySem.Spec PyProof.Rows L2
def lastS (v : Nat) (ds : List D) (ρ : Rho) : Sl := match ds.getLast? with
  | some d => .im d
  | none => (ρ[v]?).getD .no
theorem forL_chk {v : Nat} {body : SF} : ∀ {ds : List D} {ρ : Rho}, (∀ s, ρ[v]? = some s → s.hot = false) → v < ρ.length → (∀ d ∈ ds, body (ρ.set v (.im d)) = .nx (ρ.set v (.im d))) → forL (gNam v) body ds ρ = .nx (ρ.set v (lastS v ds ρ))
  | [], ρ, _, hv, _ => by
    have : (ρ[v]?).getD .no = ρ[v] := by rw [List.getElem?_eq_getElem hv]; rfl
    simp [forL, lastS, this, hv]
  | d :: ds, ρ, hc, hv, h => by
    unfold forL
    have e : gNam v (.im d) ρ = some (ρ.set v (.im d)) := by
      unfold gNam
      cases hs : ρ[v]? with
      | none => rw [List.getElem?_eq_getElem hv] at hs; cases hs
      | some s =>
        have := hc s hs
        cases s with
        | mu => cases this
        | _ => rfl
    rw [e]
    simp only []
    rw [h d List.mem_cons_self]
    simp only []
    rw [forL_chk (ds := ds) (by intro s hs; rw [List.getElem?_set_self hv] at hs; cases hs; rfl) (by simpa using hv) (fun d' hd' => by
      rw [List.set_set]
      exact h d' (List.mem_cons_of_mem _ hd'))]
    rw [List.set_set]
    congr 2
    unfold lastS
    cases ds with
    | nil => simp [List.getElem?_set_self hv]
    | cons d2 ds =>
      rw [List.getLast?_cons_cons]
      cases e : (d2 :: ds).getLast? with
      | none => simp at e
      | some => rfl
theorem lastS_hot {v : Nat} {ds : List D} {ρ : Rho} (h : ∀ s, ρ[v]? = some s → s.hot = false) : (lastS v ds ρ).hot = false := by
  unfold lastS
  split
  · rfl
  · cases e : ρ[v]? with
    | none => rfl
    | some s => exact h s e
def ksN (l : List (Str × Int)) : List Str := l.map (·.1)
def dN (l : List (Str × Int)) : List (Key × D) := l.map fun q => (.inr q.1, .int q.2)
def gtO (l : List (Str × Int)) (k : Str) : Option Int := (l.find? fun q => decide (q.1 = k)).map (·.2)
def gtD (l : List (Str × Int)) (k : Str) : Int := (gtO l k).getD 0
theorem valD_nil {k : Key} : valD [] k = none := rfl
theorem valD_cons {k k' : Key} {d : D} {l : List (Key × D)} : valD ((k, d) :: l) k' = if k = k' then some d else valD l k' := by
  by_cases h : k = k' <;> simp [valD, List.find?_cons, h]
theorem gtO_cons {k k' : Str} {d : Int} {l : List (Str × Int)} : gtO ((k, d) :: l) k' = if k = k' then some d else gtO l k' := by
  by_cases h : k = k' <;> simp [gtO, List.find?_cons, h]
theorem valD_dN {k : Str} : ∀ l : List (Str × Int), valD (dN l) (.inr k) = (gtO l k).map D.int
  | [] => rfl
  | (x, i) :: l => by
    show valD ((.inr x, .int i) :: dN l) (.inr k) = _
    rw [valD_cons, gtO_cons, valD_dN l]
    by_cases h : x = k
    · simp [h]
    · have : (Sum.inr x : Key) ≠ Sum.inr k := fun z => h (Sum.inr.inj z)
      simp [h, this]
theorem gtO_mem {k : Str} : ∀ {l : List (Str × Int)}, k ∈ ksN l → ∃ i, gtO l k = some i ∧ (k, i) ∈ l
  | (x, i) :: l, h => by
    rw [gtO_cons]
    by_cases hx : x = k
    · subst hx; exact ⟨i, by simp, List.mem_cons_self⟩
    · simp only [ksN, List.map_cons, List.mem_cons] at h
      rcases h with h | h
      · exact absurd h.symm hx
      · obtain ⟨j, e, m⟩ := gtO_mem h
        exact ⟨j, by simp [hx, e], List.mem_cons_of_mem _ m⟩
theorem gtO_none {k : Str} : ∀ {l : List (Str × Int)}, k ∉ ksN l → gtO l k = none
  | [], _ => rfl
  | (x, i) :: l, h => by
    simp only [ksN, List.map_cons, List.mem_cons, not_or] at h
    rw [gtO_cons, if_neg (fun z => h.1 z.symm), gtO_none h.2]
/-- a list of texts -/
def strL (l : List Str) : List D := l.map D.str
theorem strL_mem {l : List Str} {d : D} (h : d ∈ strL l) : ∃ k ∈ l, d = .str k := by
  obtain ⟨k, hk, rfl⟩ := List.mem_map.mp h
  exact ⟨k, hk, rfl⟩
@[simp] theorem strL_len {l : List Str} : (strL l).length = l.length := List.length_map _
theorem strL_cons {x : Str} {l : List Str} : .str x :: strL l = strL (x :: l) := rfl
@[simp] theorem ksN_len {l : List (Str × Int)} : (ksN l).length = l.length := List.length_map _
@[simp] theorem dN_keys (l : List (Str × Int)) : (dN l).map (fun kv => kD kv.1) = strL (ksN l) := by
  simp [dN, Function.comp_def, kD, strL, ksN]
theorem strsD_map : ∀ l : List Str, strsD (l.map D.str) = some l
  | [] => rfl
  | x :: l => by simp [strsD, strsD_map l]
@[simp] theorem pv_list_dic {l : List (Key × D)} : bList [.dic l] = some (.lst (l.map fun kv => kD kv.1)) := rfl
@[simp] theorem pv_list_lst {l : List D} : bList [.lst l] = some (.lst l) := rfl
@[simp] theorem pv_list_tup {l : List D} : bList [.tup l] = some (.lst l) := rfl
theorem pv_sorted {l : List Str} (h : l.length < 64) : bSorted [.lst (strL l)] = some (.lst (strL (sortS l))) := by
  simp [bSorted, asL, strsD_map, h, strL]
@[simp] theorem pv_sub_dic {l : List (Key × D)} {k : Str} : hSub (.dic l) (.str k) = (match valD l (.inr k) with
  | some d => .ov (.ok (.im d))
  | none => .ov .bad) := by
  simp only [hSub, gV, bIx, bDg, keyD, Oh.or, Oh.bad]
  cases valD l (.inr k) <;> rfl
@[simp] theorem br_val {d : D} : (Br.val d).rv = .im d := rfl
@[simp] theorem br_new {b : Bv} : (Br.new b).rv = b.rv := rfl
@[simp] theorem pv_in_dic {k : Str} {l : List (Key × D)} : bCmp .In (.str k) (.dic l) = .ok (.im (.bl (valD l (.inr k)).isSome)) := rfl
@[simp] theorem pv_nin_dic {k : Str} {l : List (Key × D)} : bCmp .NotIn (.str k) (.dic l) = .ok (.im (.bl (!(valD l (.inr k)).isSome))) := rfl
theorem flDs_strL : ∀ l : List Str, flDs (strL l) = some (l.map V.str)
  | [] => rfl
  | x :: l => by
    show flDs (.str x :: strL l) = _
    simp [flDs, flD, flDs_strL l]
theorem inV_strs {k : Str} : ∀ l : List Str, inV (.str k) (l.map V.str) = decide (k ∈ l)
  | [] => by simp [inV]
  | x :: l => by
    have := inV_strs (k := k) l
    simp only [inV, List.map_cons, List.any_cons] at this ⊢
    rw [this]
    by_cases h : x = k
    · subst h; simp [eqV]
    · have e : (x == k) = false := beq_eq_false_iff_ne.mpr h
      simp [eqV, e]
      exact fun z => absurd z.symm h
theorem pv_in_strL {k : Str} {l : List Str} : bCmp .In (.str k) (.lst (strL l)) = .ok (.im (.bl (decide (k ∈ l)))) := by
  show obl false (bIn (.str k) (.lst (strL l))) = _
  simp [bIn, bInQ, flD, asS, asL, flDs_strL, orb, inV_strs]
theorem pv_nin_strL {k : Str} {l : List Str} : bCmp .NotIn (.str k) (.lst (strL l)) = .ok (.im (.bl (!decide (k ∈ l)))) := by
  show obl true (bIn (.str k) (.lst (strL l))) = _
  simp [bIn, bInQ, flD, asS, asL, flDs_strL, orb, inV_strs]
theorem gtO_some {k : Str} {l : List (Str × Int)} : (gtO l k).isSome = decide (k ∈ ksN l) := by
  by_cases h : k ∈ ksN l
  · obtain ⟨i, e, _⟩ := gtO_mem h
    rw [e]; simp [h]
  · rw [gtO_none h]; simp [h]
/-- what a heap keeps of a table -/
def mkH (l : List (Str × Int)) : List (Str × Int) := (sortS (ksN l)).filterMap fun k => if 0 < gtD l k then some (k, gtD l k) else none
abbrev hp (l : List (Str × Int)) : D := .ins 0 [(0, .dic (dN l))]
theorem putD_new {acc : List (Key × D)} {k : Key} {d : D} (h : k ∉ acc.map (·.1)) : putD acc k d = acc ++ [(k, d)] := by
  unfold putD
  rw [if_neg]
  intro z
  rw [List.any_eq_true] at z
  obtain ⟨kv, hm, e⟩ := z
  exact h (List.mem_map.mpr ⟨kv, hm, of_decide_eq_true e⟩)
theorem fold_put (h : Str → Option Int) (g : D → Option (Key × D)) (hg : ∀ k, g (.str k) = (h k).map fun i => (.inr k, .int i)) : ∀ (ks : List Str) (acc : List (Str × Int)), ks.Nodup → (∀ k ∈ ks, k ∉ acc.map (·.1)) →
    (strL ks).foldl (fun acc d => putO acc (g d)) (dN acc) = dN (acc ++ ks.filterMap fun k => (h k).map fun i => (k, i))
  | [], acc, _, _ => by simp [strL]
  | k :: ks, acc, hn, ha => by
    obtain ⟨n1, n2⟩ := List.nodup_cons.mp hn
    rw [← strL_cons, List.foldl_cons, hg k]
    cases hk : h k with
    | none =>
      show (strL ks).foldl _ (dN acc) = _
      rw [fold_put h g hg ks acc n2 fun x hx => ha x (List.mem_cons_of_mem _ hx)]
      simp [hk]
    | some i =>
      have e : putO (dN acc) (Option.map (fun i => ((Sum.inr k : Key), D.int i)) (some i)) = dN (acc ++ [(k, i)]) := by
        show putD (dN acc) (.inr k) (.int i) = _
        rw [putD_new]
        · simp [dN]
        · intro z
          simp only [dN, List.map_map] at z
          obtain ⟨q, hq, e⟩ := List.mem_map.mp z
          have e : q.1 = k := Sum.inr.inj e
          exact ha k List.mem_cons_self (List.mem_map.mpr ⟨q, hq, e⟩)
      rw [e, fold_put h g hg ks _ n2 fun x hx z => ?_]
      · simp [hk]
      · rw [List.map_append, List.mem_append] at z
        rcases z with z | z
        · exact ha x (List.mem_cons_of_mem _ hx) z
        · simp only [List.map_cons, List.map_nil, List.mem_singleton] at z
          exact n1 (z ▸ hx)
@[simp] theorem is_integer_ev {i : Int} : S_is_integer.F [.int i] = .ok (.im (.bl true)) [] := by
  simp [F_is_integer, st_run, d_is_integer]
@[simp] theorem is_number_ev {i j : Int} : S_is_number.F [.int i, .int j] = .ok (.im (.bl (decide (j ≤ i)))) [] := by
  simp [F_is_number, st_run, d_is_number]
end Pu
namespace Pu
open PySem PySem.Spec PyProof.Rows L2
@[simp] theorem ev_fill {dd : List D} {F : List D → Out} {ds : List D} : fillF dd F ds = F (ds ++ dd) := rfl
/-- a table that Heap takes -/
structure TabOk (l : List (Str × Int)) : Prop where
  nd : (ksN l).Nodup
  nm : ∀ q ∈ l, nameB q.1 = true
  ge : ∀ q ∈ l, 0 ≤ q.2
  sz : l.length < 64
theorem sortS_nodup {l : List Str} (h : l.Nodup) : (sortS l).Nodup := ((isort_perm sLt l).nodup_iff).mpr h
theorem sortS_mem {l : List Str} {x : Str} : x ∈ sortS l ↔ x ∈ l := (isort_perm sLt l).mem_iff
theorem sortS_len {l : List Str} : (sortS l).length = l.length := (isort_perm sLt l).length_eq
theorem is_name_t {x : Str} (h : nameB x = true) : S_is_name.F [.str x] = .ok (.im (.bl true)) [] := by
  have := nameB_len h
  rw [is_name_ev x (by omega), h]
theorem heap_init_dc {l : List (Str × Int)} (h : TabOk l) {s0 s1 s2 : Sl} {ρ0 : Rho} (hρ : ρ0 = [s0, s1, s2, .no]) (hs : s2 = .im (.dic (dN l)) ∨ s2 = .ow (.dic (dN l))) :
    dcGo (.nm 3) (tBl (eOp (fun a b => .ov (bCmp .Gt a b)) (eOp hSub (eVar 2) (eVar 3)) (eCon (.int 0)))) (eVar 3) (eOp hSub (eVar 2) (eVar 3)) [3] (strL (sortS (ksN l))) [] ρ0 = some (dN (mkH l), ρ0) := by
  subst hρ
  rw [dcGo_of (fun d => match d with
    | .str k => if 0 < gtD l k then some (.inr k, .int (gtD l k)) else none
    | _ => none)]
  · have := fold_put (fun k => if 0 < gtD l k then some (gtD l k) else none) (fun d => match d with
      | .str k => if 0 < gtD l k then some (.inr k, .int (gtD l k)) else none
      | _ => none) (fun k => by by_cases h : 0 < gtD l k <;> simp [h]) (sortS (ksN l)) [] (sortS_nodup h.nd) (fun _ _ z => nomatch z)
    rw [show dN [] = [] from rfl] at this
    rw [this, List.nil_append]
    unfold mkH
    congr 3
    congr 1
    funext k
    by_cases h : 0 < gtD l k <;> simp [h]
  · intro d hd
    obtain ⟨k, hk, rfl⟩ := strL_mem hd
    obtain ⟨i, e, m⟩ := gtO_mem (sortS_mem.mp hk)
    have e2 : gtD l k = i := by rw [gtD, e]; rfl
    rcases hs with rfl | rfl <;> by_cases hp : 0 < i <;> simp [dcStep, bindD, valD_dN, e, e2, hp, keyD]
  · have := h.sz
    simp only [List.length_nil, strL_len, sortS_len, ksN_len, sizeLine_num]
    omega
theorem heap_init {l : List (Str × Int)} (h : TabOk l) : S_Heap___init___2.F [.ins 0 [], .dic (dN l)] = .ok (.im .non) [hp (mkH l)] := by
  have hn : ∀ d ∈ strL (ksN l), ∃ k i, d = .str k ∧ (k, i) ∈ l ∧ nameB k = true ∧ 0 ≤ i ∧ gtO l k = some i := by
    intro d hd
    obtain ⟨k, hk, rfl⟩ := strL_mem hd
    obtain ⟨i, e, m⟩ := gtO_mem hk
    exact ⟨k, i, rfl, m, h.nm _ m, h.ge _ m, e⟩
  simp only [F_Heap___init___2, d_Heap___init__, st_run, ev_fill, ev_seq]
  simp
  rw [forL_chk (by intro s hs; cases hs; rfl) (by simp) (fun d hd => by
    obtain ⟨k, i, rfl, m, n, g, e⟩ := hn d hd
    simp [is_name_t n])]
  simp
  generalize hs : lastS _ _ _ = s
  have hc : s.hot = false := by subst hs; exact lastS_hot (by intro s hs; cases hs; rfl)
  rw [forL_chk (by intro s hs; simp at hs; subst hs; exact hc) (by simp) (fun d hd => by
    obtain ⟨k, i, rfl, m, n, g, e⟩ := hn d hd
    simp [valD_dN, e, g])]
  simp
  generalize hs : lastS _ _ _ = s
  have hc : s.hot = false := by subst hs; exact lastS_hot (by intro s hs; cases hs; exact hc)
  have hz : (ksN l).length < 64 := by simpa using h.sz
  simp [pv_sorted hz, hc]
  simp [heap_init_dc h rfl (.inl rfl), putFD, hp]
theorem heap_init0 : S_Heap___init___1.F [.ins 0 []] = .ok (.im .non) [hp []] := by
  simp [F_Heap___init___1, d_Heap___init__, st_run, He.Dv, dvD, bSorted, asL, strsD, sortS, isort, putFD, hp, dN, lcGo, dcGo]
theorem heap_new {l : List (Str × Int)} (h : TabOk l) : mkO 0 S_Heap___init___2.F [.dic (dN l)] = .ok (.ow (hp (mkH l))) [] := by
  unfold mkO
  rw [heap_init h]
theorem heap_new0 : mkO 0 S_Heap___init___1.F [] = .ok (.ow (hp [])) [] := by
  unfold mkO
  rw [heap_init0]
@[simp] theorem lk_hp {l : List (Str × Int)} : List.lookup 0 [((0 : Nat), D.dic (dN l))] = some (.dic (dN l)) := rfl
theorem heap_names {l : List (Str × Int)} : S_Heap_names.F [hp l] = .ok (.ow (.lst (strL (ksN l)))) [] := by
  simp [F_Heap_names, d_Heap_names, st_run, hp]
theorem heap_get {l : List (Str × Int)} {k : Str} (h : nameB k = true) : S_Heap___getitem__.F [hp l, .str k] = .ok (.im (.int (gtD l k))) [] := by
  simp [F_Heap___getitem__, d_Heap___getitem__, st_run, hp, is_name_t h, bGet, keyD, valD_dN, tyD, gtD]
theorem heap_has {l : List (Str × Int)} {k : Str} : S_Heap___contains__.F [hp l, .str k] = .ok (.im (.bl (decide (k ∈ ksN l)))) [] := by
  simp [F_Heap___contains__, d_Heap___contains__, st_run, hp, valD_dN, gtO_some]
theorem gtO_of : ∀ {l : List (Str × Int)} {q : Str × Int}, (ksN l).Nodup → q ∈ l → gtO l q.1 = some q.2
  | (x, i) :: l, q, hn, h => by
    obtain ⟨n1, n2⟩ := List.nodup_cons.mp (show (x :: ksN l).Nodup from hn)
    rw [gtO_cons]
    rcases List.mem_cons.mp h with rfl | h
    · simp
    · rw [if_neg fun z => n1 (by rw [z]; exact List.mem_map.mpr ⟨q, h, rfl⟩), gtO_of n2 h]
theorem gtD_of {l : List (Str × Int)} {q : Str × Int} (hn : (ksN l).Nodup) (h : q ∈ l) : gtD l q.1 = q.2 := by
  rw [gtD, gtO_of hn h]; rfl
def prD (q : Str × Int) : D := .tup [.str q.1, .int q.2]
theorem heap_pairs {l : List (Str × Int)} (hn : (ksN l).Nodup) (hz : l.length < 64) : S_Heap_pairs.F [hp l] = .ok (.ow (.lst (l.map prD))) [] := by
  simp [F_Heap_pairs, d_Heap_pairs, st_run, hp]
  rw [lcGo_of (fun d => match d with
    | .str k => some (prD (k, gtD l k))
    | _ => none)]
  · have e : (strL (ksN l)).filterMap (fun d => match d with
      | .str k => some (prD (k, gtD l k))
      | _ => none) = l.map prD := by
      unfold strL ksN
      rw [List.filterMap_map, List.filterMap_map]
      simp only [Function.comp_def]
      rw [List.filterMap_eq_map']
      refine List.map_congr_left fun q hq => ?_
      rw [gtD_of hn hq]
    rw [e]
    simp
  · intro d hd
    obtain ⟨k, hk, rfl⟩ := strL_mem hd
    obtain ⟨i, e, m⟩ := gtO_mem hk
    simp [lcStep, bindD, valD_dN, e, prD, gtD]
  · simp; omega
end Pu
namespace Pu
open PySem PySem.Spec PyProof.Rows L2
/-- a heap's table -/
structure HpOk (l : List (Str × Int)) : Prop where
  srt : (ksN l).Pairwise leS
  nd : (ksN l).Nodup
  nm : ∀ q ∈ l, nameB q.1 = true
  pos : ∀ q ∈ l, 0 < q.2
theorem HpOk.tab {l : List (Str × Int)} (h : HpOk l) (hz : l.length < 64) : TabOk l := ⟨h.nd, h.nm, fun q hq => Int.le_of_lt (h.pos q hq), hz⟩
theorem sortS_pair (l : List Str) : (sortS l).Pairwise leS := by
  induction l with
  | nil => exact .nil
  | cons x l ih => exact ins1_sorted x ih
theorem mkH_keys {l : List (Str × Int)} : ksN (mkH l) = (sortS (ksN l)).filter fun k => decide (0 < gtD l k) := by
  unfold mkH ksN
  rw [List.map_filterMap]
  rw [← List.filterMap_eq_filter]
  congr 1
  funext k
  by_cases h : 0 < gtD l k <;> simp [h, Option.guard]
theorem mkH_mem {l : List (Str × Int)} {q : Str × Int} : q ∈ mkH l ↔ q.1 ∈ ksN l ∧ q.2 = gtD l q.1 ∧ 0 < q.2 := by
  unfold mkH
  rw [List.mem_filterMap]
  constructor
  · rintro ⟨k, hk, e⟩
    split at e
    · cases e; exact ⟨sortS_mem.mp hk, rfl, by assumption⟩
    · cases e
  · rintro ⟨h1, h2, h3⟩
    refine ⟨q.1, sortS_mem.mpr h1, ?_⟩
    rw [if_pos (by rw [← h2]; exact h3), ← h2]
theorem mkH_ok {l : List (Str × Int)} (h : TabOk l) : HpOk (mkH l) := by
  refine ⟨?_, ?_, fun q hq => ?_, fun q hq => (mkH_mem.mp hq).2.2⟩
  · rw [mkH_keys]; exact (sortS_pair _).filter _
  · rw [mkH_keys]; exact (sortS_nodup h.nd).filter _
  · obtain ⟨h1, _, _⟩ := mkH_mem.mp hq
    obtain ⟨i, e, m⟩ := gtO_mem h1
    exact h.nm (q.1, i) m
theorem mkH_len {l : List (Str × Int)} : (mkH l).length ≤ l.length := by
  have : (ksN (mkH l)).length ≤ l.length := by
    rw [mkH_keys]
    refine Nat.le_trans (List.length_filter_le _ _) ?_
    rw [sortS_len, ksN_len]
    exact Nat.le_refl _
  rwa [ksN_len] at this
theorem sorted_eq : ∀ {l r : List Str}, l.Pairwise leS → r.Pairwise leS → l.Nodup → r.Nodup → (∀ x, x ∈ l ↔ x ∈ r) → l = r
  | [], [], _, _, _, _, _ => rfl
  | [], y :: r, _, _, _, _, h => absurd ((h y).mpr List.mem_cons_self) (by simp)
  | x :: l, [], _, _, _, _, h => absurd ((h x).mp List.mem_cons_self) (by simp)
  | x :: l, y :: r, hl, hr, nl, nr, h => by
    obtain ⟨l1, l2⟩ := List.pairwise_cons.mp hl
    obtain ⟨r1, r2⟩ := List.pairwise_cons.mp hr
    obtain ⟨m1, m2⟩ := List.nodup_cons.mp nl
    obtain ⟨k1, k2⟩ := List.nodup_cons.mp nr
    have e : x = y := by
      rcases List.mem_cons.mp ((h x).mp List.mem_cons_self) with e | e
      · exact e
      · rcases List.mem_cons.mp ((h y).mpr List.mem_cons_self) with e' | e'
        · exact e'.symm
        · exact leS_antisymm (l1 y e') (r1 x e)
    subst e
    rw [sorted_eq l2 r2 m2 k2 fun z => ?_]
    constructor
    · intro hz
      rcases List.mem_cons.mp ((h z).mp (List.mem_cons_of_mem _ hz)) with e | e
      · subst e; exact absurd hz m1
      · exact e
    · intro hz
      rcases List.mem_cons.mp ((h z).mpr (List.mem_cons_of_mem _ hz)) with e | e
      · subst e; exact absurd hz k1
      · exact e
theorem keys_eq : ∀ {l r : List (Str × Int)}, ksN l = ksN r → (ksN l).Nodup → (∀ k ∈ ksN l, gtD l k = gtD r k) → l = r
  | [], [], _, _, _ => rfl
  | [], _ :: _, h, _, _ => nomatch h
  | _ :: _, [], h, _, _ => nomatch h
  | (x, i) :: l, (y, j) :: r, h, hn, hg => by
    have h' : x :: ksN l = y :: ksN r := h
    obtain ⟨e1, e2⟩ := List.cons.inj h'
    subst e1
    obtain ⟨n1, n2⟩ := List.nodup_cons.mp (show (x :: ksN l).Nodup from hn)
    have hg' : ∀ k ∈ x :: ksN l, gtD ((x, i) :: l) k = gtD ((x, j) :: r) k := hg
    have hx := hg' x List.mem_cons_self
    rw [gtD, gtD, gtO_cons, gtO_cons] at hx
    simp at hx
    subst hx
    rw [keys_eq e2 n2 fun k hk => ?_]
    have := hg' k (List.mem_cons_of_mem _ hk)
    have hne : x ≠ k := fun z => n1 (z ▸ hk)
    simpa [gtD, gtO_cons, hne] using this
theorem hp_ext {l r : List (Str × Int)} (hl : HpOk l) (hr : HpOk r) (h : ∀ k, gtD l k = gtD r k) : l = r := by
  have mem : ∀ {l : List (Str × Int)}, HpOk l → ∀ x, x ∈ ksN l ↔ 0 < gtD l x := fun {l} hl x => by
    constructor
    · intro hx
      obtain ⟨i, e, m⟩ := gtO_mem hx
      rw [gtD, e]
      exact hl.pos _ m
    · intro hx
      refine Classical.byContradiction fun z => ?_
      rw [gtD, gtO_none z] at hx
      exact absurd hx (by simp)
  refine keys_eq (sorted_eq hl.srt hr.srt hl.nd hr.nd fun x => ?_) hl.nd fun k _ => h k
  rw [mem hl, mem hr, h]
theorem mkH_gtD {l : List (Str × Int)} (h : TabOk l) (k : Str) : gtD (mkH l) k = gtD l k := by
  have ok := mkH_ok h
  by_cases hk : k ∈ ksN l
  · obtain ⟨i, e, m⟩ := gtO_mem hk
    have ei : gtD l k = i := by rw [gtD, e]; rfl
    rcases Int.lt_or_le 0 i with hi | hi
    · have : (k, i) ∈ mkH l := mkH_mem.mpr ⟨hk, ei.symm, hi⟩
      rw [gtD_of ok.nd this, ei]
    · have h0 : i = 0 := Int.le_antisymm hi (h.ge _ m)
      have : k ∉ ksN (mkH l) := fun z => by
        rw [mkH_keys, List.mem_filter] at z
        have := of_decide_eq_true z.2
        omega
      rw [gtD, gtO_none this, ei, h0]; rfl
  · have : k ∉ ksN (mkH l) := fun z => by
      rw [mkH_keys, List.mem_filter] at z
      exact hk (sortS_mem.mp z.1)
    rw [gtD, gtO_none this, gtD, gtO_none hk]
theorem mkH_self {l : List (Str × Int)} (h : HpOk l) (hz : l.length < 64) : mkH l = l := hp_ext (mkH_ok (h.tab hz)) h fun k => mkH_gtD (h.tab hz) k
/-- a table over names -/
def tabF (ks : List Str) (f : Str → Int) : List (Str × Int) := ks.map fun k => (k, f k)
@[simp] theorem tabF_keys {ks : List Str} {f : Str → Int} : ksN (tabF ks f) = ks := by
  simp [ksN, tabF, Function.comp_def]
theorem tabF_gtD {f : Str → Int} {k : Str} : ∀ {ks : List Str}, gtD (tabF ks f) k = if k ∈ ks then f k else 0
  | [] => rfl
  | x :: ks => by
    have := tabF_gtD (f := f) (k := k) (ks := ks)
    rw [gtD] at this ⊢
    show (gtO ((x, f x) :: tabF ks f) k).getD 0 = _
    rw [gtO_cons]
    by_cases h : x = k
    · subst h; simp
    · rw [if_neg h, this]
      have : (k ∈ x :: ks) ↔ k ∈ ks := by
        rw [List.mem_cons]
        exact ⟨fun z => z.resolve_left fun e => h e.symm, .inr⟩
      by_cases h2 : k ∈ ks
      · rw [if_pos h2, if_pos (this.mpr h2)]
      · rw [if_neg h2, if_neg fun z => h2 (this.mp z)]
/-- names without doubles, in the order of their first places -/
def ddS (acc : List Str) : List Str → List Str
  | [] => acc
  | k :: ks => ddS (if k ∈ acc then acc else acc ++ [k]) ks
theorem ddS_mem {x : Str} : ∀ {ks acc : List Str}, x ∈ ddS acc ks ↔ x ∈ acc ∨ x ∈ ks
  | [], acc => by simp [ddS]
  | k :: ks, acc => by
    unfold ddS
    rw [ddS_mem]
    split
    · rename_i h
      constructor
      · rintro (z | z)
        · exact .inl z
        · exact .inr (List.mem_cons_of_mem _ z)
      · rintro (z | z)
        · exact .inl z
        · rcases List.mem_cons.mp z with rfl | z
          · exact .inl h
          · exact .inr z
    · simp [or_assoc]
theorem ddS_nodup : ∀ {ks acc : List Str}, acc.Nodup → (ddS acc ks).Nodup
  | [], acc, h => h
  | k :: ks, acc, h => by
    unfold ddS
    refine ddS_nodup ?_
    split
    · exact h
    · rename_i hk
      exact List.nodup_append.mpr ⟨h, by simp, fun a ha b hb z => hk (by rw [List.mem_singleton] at hb; subst hb; subst z; exact ha)⟩
theorem ddS_len : ∀ {ks acc : List Str}, (ddS acc ks).length ≤ acc.length + ks.length
  | [], acc => by simp [ddS]
  | k :: ks, acc => by
    unfold ddS
    refine Nat.le_trans ddS_len ?_
    split <;> simp <;> omega
theorem putD_same {f : Str → Int} {k : Str} {acc : List Str} (h : k ∈ acc) : putD (dN (tabF acc f)) (.inr k) (.int (f k)) = dN (tabF acc f) := by
  unfold putD
  rw [if_pos]
  · have e : ∀ kv ∈ dN (tabF acc f), (if kv.1 = (.inr k : Key) then (kv.1, D.int (f k)) else kv) = kv := fun kv hkv => by
      unfold dN tabF at hkv
      rw [List.map_map] at hkv
      obtain ⟨x, _, rfl⟩ := List.mem_map.mp hkv
      by_cases hx : x = k
      · subst hx; simp
      · have : (Sum.inr x : Key) ≠ Sum.inr k := fun z => hx (Sum.inr.inj z)
        simp [this]
    rw [List.map_congr_left e, List.map_id']
  · rw [List.any_eq_true]
    exact ⟨(.inr k, .int (f k)), by
      unfold dN tabF
      rw [List.map_map]
      exact List.mem_map.mpr ⟨k, h, rfl⟩, by simp⟩
theorem fold_putf (f : Str → Int) (g : D → Option (Key × D)) : ∀ (ks acc : List Str), (∀ k ∈ ks, g (.str k) = some (.inr k, .int (f k))) →
    (strL ks).foldl (fun acc d => putO acc (g d)) (dN (tabF acc f)) = dN (tabF (ddS acc ks) f)
  | [], acc, _ => rfl
  | k :: ks, acc, hg => by
    rw [← strL_cons, List.foldl_cons, hg k List.mem_cons_self]
    have e : putO (dN (tabF acc f)) (some ((Sum.inr k : Key), D.int (f k))) = dN (tabF (if k ∈ acc then acc else acc ++ [k]) f) := by
      show putD _ _ _ = _
      split
      · rename_i h; exact putD_same h
      · rename_i h
        rw [putD_new]
        · simp [dN, tabF]
        · intro z
          unfold dN tabF at z
          rw [List.map_map, List.map_map] at z
          obtain ⟨x, hx, e⟩ := List.mem_map.mp z
          have e : x = k := Sum.inr.inj e
          exact h (e ▸ hx)
    rw [e, fold_putf f g ks _ fun x hx => hg x (List.mem_cons_of_mem _ hx)]
    rfl
@[simp] theorem strL_app {l r : List Str} : strL l ++ strL r = strL (l ++ r) := (List.map_append).symm
theorem pv_cat {l r : List D} (h : l.length + r.length ≤ 16777216) : bBin .Add (.lst l) (.lst r) = .ok (.ow (.lst (l ++ r))) := by
  show fCat (.lst l) (.lst r) = _
  simp only [fCat, sizeLine_num, h, if_true]
@[simp] theorem pv_add {i j : Int} : bBin .Add (.int i) (.int j) = .ok (.im (.int (i + j))) := rfl
@[simp] theorem pv_sub {i j : Int} : bBin .Sub (.int i) (.int j) = .ok (.im (.int (i - j))) := rfl
theorem pv_mul {i j : Int} (h : CMul i j) : bBin .Mult (.int i) (.int j) = .ok (.im (.int (i * j))) := by
  show ((fI _ _ _ _).or _) = _
  simp [fI, h, Ov.or]
/-- what two heaps have together -/
def addH (l r : List (Str × Int)) : List (Str × Int) := mkH (tabF (ddS [] (ksN l ++ ksN r)) fun k => gtD l k + gtD r k)
theorem gtD_ge {l : List (Str × Int)} (h : ∀ q ∈ l, 0 ≤ q.2) (k : Str) : 0 ≤ gtD l k := by
  by_cases hk : k ∈ ksN l
  · obtain ⟨i, e, m⟩ := gtO_mem hk
    rw [gtD, e]
    exact h _ m
  · rw [gtD, gtO_none hk]; exact Int.le_refl _
theorem nameB_ks {l : List (Str × Int)} (h : ∀ q ∈ l, nameB q.1 = true) {k : Str} (hk : k ∈ ksN l) : nameB k = true := by
  obtain ⟨i, e, m⟩ := gtO_mem hk
  exact h _ m
theorem add_tab {l r : List (Str × Int)} (hl : HpOk l) (hr : HpOk r) (hz : l.length + r.length < 64) : TabOk (tabF (ddS [] (ksN l ++ ksN r)) fun k => gtD l k + gtD r k) := by
  refine ⟨by rw [tabF_keys]; exact ddS_nodup .nil, fun q hq => ?_, fun q hq => ?_, ?_⟩
  · obtain ⟨k, hk, rfl⟩ := List.mem_map.mp hq
    rcases List.mem_append.mp ((ddS_mem.mp hk).resolve_left (by simp)) with h | h
    · exact nameB_ks hl.nm h
    · exact nameB_ks hr.nm h
  · obtain ⟨k, hk, rfl⟩ := List.mem_map.mp hq
    have := gtD_ge (fun q hq => Int.le_of_lt (hl.pos q hq)) k
    have := gtD_ge (fun q hq => Int.le_of_lt (hr.pos q hq)) k
    show 0 ≤ gtD l k + gtD r k
    omega
  · have := ddS_len (acc := []) (ks := ksN l ++ ksN r)
    rw [List.length_append, ksN_len, ksN_len] at this
    simp [tabF] at this ⊢
    omega
@[simp] theorem hsubA_ins {l : List (Nat × Fs)} {S : Fs} {tab : List (Str × Str × Int)} {c : Nat} {fs : List (Nat × D)} {k : Str} : hSubA ((c, S) :: l) tab (.ins c fs) (.str k) = .call S.F false := by
  simp [hSubA, hSub, gV, bIx, bDg, Oh.or, Oh.bad, hGet, asS, asL, lkO]
theorem hp_ins (l : List (Str × Int)) : D.ins 0 [(0, .dic (dN l))] = hp l := rfl
@[simp] theorem hsubA_hp {l : List (Nat × Fs)} {S : Fs} {tab : List (Str × Str × Int)} {t : List (Str × Int)} {k : Str} : hSubA ((0, S) :: l) tab (hp t) (.str k) = .call S.F false := hsubA_ins
theorem heap_add {l r : List (Str × Int)} (hl : HpOk l) (hr : HpOk r) (hz : l.length + r.length < 64) : S_Heap___add__.F [hp l, hp r] = .ok (.ow (hp (addH l r))) [] := by
  have hk : ∀ k ∈ ksN l ++ ksN r, nameB k = true := fun k hk => by
    rcases List.mem_append.mp hk with h | h
    · exact nameB_ks hl.nm h
    · exact nameB_ks hr.nm h
  have hs : (strL (ksN l)).length + (strL (ksN r)).length ≤ 16777216 := by simp; omega
  have t : hp l = .ins 0 [(0, .dic (dN l))] := rfl
  have t' : hp r = .ins 0 [(0, .dic (dN r))] := rfl
  simp only [F_Heap___add__, d_Heap___add__, st_run]
  simp [heap_names, pv_cat hs]
  rw [dcGo_of (fun d => match d with
    | .str k => some (.inr k, .int (gtD l k + gtD r k))
    | _ => none)]
  · have := fold_putf (fun k => gtD l k + gtD r k) (fun d => match d with
      | .str k => some (.inr k, .int (gtD l k + gtD r k))
      | _ => none) (ksN l ++ ksN r) [] (fun k _ => rfl)
    rw [show dN (tabF [] fun k => gtD l k + gtD r k) = [] from rfl] at this
    rw [this]
    simp [heap_new (add_tab hl hr hz), addH]
  · intro d hd
    obtain ⟨k, hk', rfl⟩ := strL_mem hd
    simp [dcStep, bindD, keyD, heap_get (hk k hk')]
  · simp; omega
theorem addH_ok {l r : List (Str × Int)} (hl : HpOk l) (hr : HpOk r) (hz : l.length + r.length < 64) : HpOk (addH l r) := mkH_ok (add_tab hl hr hz)
theorem addH_gtD {l r : List (Str × Int)} (hl : HpOk l) (hr : HpOk r) (hz : l.length + r.length < 64) (k : Str) : gtD (addH l r) k = gtD l k + gtD r k := by
  rw [addH, mkH_gtD (add_tab hl hr hz), tabF_gtD]
  split
  · rfl
  · rename_i h
    rw [ddS_mem, List.mem_append] at h
    simp only [List.not_mem_nil, false_or, not_or] at h
    rw [gtD, gtO_none h.1, gtD, gtO_none h.2]; rfl
theorem hp_nil : HpOk [] := ⟨.nil, .nil, (fun _ h => nomatch h), (fun _ h => nomatch h)⟩
theorem addH_nil {l : List (Str × Int)} (hl : HpOk l) (hz : l.length < 64) : addH l [] = l := hp_ext (addH_ok hl hp_nil (by simpa using hz)) hl fun k => by
  rw [addH_gtD hl hp_nil (by simpa using hz)]
  show gtD l k + 0 = _
  omega
/-- a heap so many times -/
def mulH (n : Int) (l : List (Str × Int)) : List (Str × Int) := mkH (tabF (ksN l) fun k => n * gtD l k)
theorem mul_tab {n : Int} {l : List (Str × Int)} (hn : 0 ≤ n) (hl : HpOk l) (hz : l.length < 64) : TabOk (tabF (ksN l) fun k => n * gtD l k) := by
  refine ⟨by rw [tabF_keys]; exact hl.nd, fun q hq => ?_, fun q hq => ?_, by simpa [tabF] using hz⟩
  · obtain ⟨k, hk, rfl⟩ := List.mem_map.mp hq
    exact nameB_ks hl.nm hk
  · obtain ⟨k, hk, rfl⟩ := List.mem_map.mp hq
    exact Int.mul_nonneg hn (gtD_ge (fun q hq => Int.le_of_lt (hl.pos q hq)) k)
theorem ddS_self : ∀ {ks acc : List Str}, ks.Nodup → (∀ k ∈ ks, k ∉ acc) → ddS acc ks = acc ++ ks
  | [], acc, _, _ => by simp [ddS]
  | k :: ks, acc, h, ha => by
    obtain ⟨n1, n2⟩ := List.nodup_cons.mp h
    unfold ddS
    rw [if_neg (ha k List.mem_cons_self), ddS_self n2 fun x hx z => ?_]
    · simp
    · rcases List.mem_append.mp z with z | z
      · exact ha x (List.mem_cons_of_mem _ hx) z
      · rw [List.mem_singleton] at z; exact n1 (z ▸ hx)
theorem heap_mul {n : Int} {l : List (Str × Int)} (hn : 0 ≤ n) (hl : HpOk l) (hz : l.length < 64) (hc : ∀ k, CMul n (gtD l k)) : S_Heap___mul__.F [hp l, .int n] = .ok (.ow (hp (mulH n l))) [] := by
  simp only [F_Heap___mul__, d_Heap___mul__, st_run]
  simp [heap_names, hn]
  rw [dcGo_of (fun d => match d with
    | .str k => some (.inr k, .int (n * gtD l k))
    | _ => none)]
  · have := fold_putf (fun k => n * gtD l k) (fun d => match d with
      | .str k => some (.inr k, .int (n * gtD l k))
      | _ => none) (ksN l) [] (fun k _ => rfl)
    rw [show dN (tabF [] fun k => n * gtD l k) = [] from rfl] at this
    rw [this, ddS_self hl.nd (by simp), List.nil_append]
    simp [heap_new (mul_tab hn hl hz), mulH]
  · intro d hd
    obtain ⟨k, hk', rfl⟩ := strL_mem hd
    simp [dcStep, bindD, keyD, heap_get (nameB_ks hl.nm hk'), pv_mul (hc k)]
  · simp; omega
theorem mulH_ok {n : Int} {l : List (Str × Int)} (hn : 0 ≤ n) (hl : HpOk l) (hz : l.length < 64) : HpOk (mulH n l) := mkH_ok (mul_tab hn hl hz)
theorem mulH_gtD {n : Int} {l : List (Str × Int)} (hn : 0 ≤ n) (hl : HpOk l) (hz : l.length < 64) (k : Str) : gtD (mulH n l) k = n * gtD l k := by
  rw [mulH, mkH_gtD (mul_tab hn hl hz), tabF_gtD]
  split
  · rfl
  · rename_i h
    rw [gtD, gtO_none h]; simp
theorem hMul_ins {l1 l2 : List (Nat × Fs)} {S : Fs} {c : Nat} {fs : List (Nat × D)} {n : Int} : hMul ((c, S) :: l1) l2 (.ins c fs) (.int n) = .call S.F false := by
  have : lkO ((c, S) :: l1) c false = .call S.F false := by simp [lkO]
  show Oh.or (.ov .bad) (Oh.or (lkO ((c, S) :: l1) c false) _) = _
  rw [this]; rfl
theorem hMul_int {l1 l2 : List (Nat × Fs)} {S : Fs} {c : Nat} {fs : List (Nat × D)} {n : Int} : hMul l1 ((c, S) :: l2) (.int n) (.ins c fs) = .call S.F true := by
  have : lkO ((c, S) :: l2) c true = .call S.F true := by simp [lkO]
  show Oh.or (.ov .bad) (Oh.or (.ov .bad) (lkO ((c, S) :: l2) c true)) = _
  rw [this]; rfl
theorem hAdd_ins {l : List (Nat × Fs)} {S : Fs} {c : Nat} {fs gs : List (Nat × D)} : hAdd ((c, S) :: l) (.ins c fs) (.ins c gs) = .call S.F false := by
  have : lkO ((c, S) :: l) c false = .call S.F false := by simp [lkO]
  have e : hSame ((c, S) :: l) (.ins c fs) (.ins c gs) = .call S.F false := by
    show (if c = c then lkO ((c, S) :: l) c false else _) = _
    rw [if_pos rfl, this]
  show Oh.or (.ov .bad) _ = _
  rw [e]; rfl
theorem heap_rmul {n : Int} {l : List (Str × Int)} (hn : 0 ≤ n) (hl : HpOk l) (hz : l.length < 64) (hc : ∀ k, CMul n (gtD l k)) : S_Heap___rmul__.F [hp l, .int n] = .ok (.ow (hp (mulH n l))) [] := by
  simp [F_Heap___rmul__, d_Heap___rmul__, st_run, hMul_ins, heap_mul hn hl hz hc]
end Pu
namespace Pu
open PySem PySem.Spec PyProof.Rows L2
theorem eqDic_dN {ls : List (Nat × Fs)} {r : List (Str × Int)} : ∀ l : List (Str × Int), eqDic ls (dN l) (dN r) = some (decide (∀ q ∈ l, gtO r q.1 = some q.2))
  | [] => by simp [dN, eqDic]
  | (k, i) :: l => by
    show eqDic ls ((.inr k, .int i) :: dN l) (dN r) = _
    unfold eqDic
    rw [valD_dN, eqDic_dN l]
    cases e : gtO r k with
    | none => simp [e]
    | some j =>
      simp only [Option.map_some]
      have : eqVal ls (.int i) (.int j) = some (decide (i = j)) := by
        simp [eqVal, flD, eqV]; rfl
      rw [this]
      by_cases h : i = j
      · subst h; simp [e]
      · have : ¬ j = i := fun z => h z.symm
        simp [h, e, this]
theorem dcF_dN {ls : List (Nat × Fs)} {l r : List (Str × Int)} : dcF false ls [.dic (dN l), .dic (dN r)] = .ok (.im (.bl (decide (l.length = r.length ∧ ∀ q ∈ l, gtO r q.1 = some q.2)))) [] := by
  have hl : (dN l).length = l.length := List.length_map _
  have hr : (dN r).length = r.length := List.length_map _
  simp only [dcF, hl, hr, eqDic_dN]
  by_cases h : l.length = r.length <;> simp [h]
theorem hEqA_dic {neg : Bool} {op : CmpOp} {ls : List (Nat × Fs)} {a b : List (Key × D)} (h : op = .Eq ∨ op = .NotEq) : hEqA neg op ls (.dic a) (.dic b) = .call (dcF neg ls) false := by
  rcases h with rfl | rfl <;> rfl
@[simp] theorem hEqA_dicE {neg : Bool} {ls : List (Nat × Fs)} {a b : List (Key × D)} : hEqA neg .Eq ls (.dic a) (.dic b) = .call (dcF neg ls) false := hEqA_dic (.inl rfl)
@[simp] theorem hEqA_dicN {neg : Bool} {ls : List (Nat × Fs)} {a b : List (Key × D)} : hEqA neg .NotEq ls (.dic a) (.dic b) = .call (dcF neg ls) false := hEqA_dic (.inr rfl)
theorem nodup_len : ∀ {l r : List Str}, l.Nodup → (∀ x ∈ l, x ∈ r) → l.length ≤ r.length
  | [], _, _, _ => Nat.zero_le _
  | x :: l, r, h, s => by
    obtain ⟨n1, n2⟩ := List.nodup_cons.mp h
    have hx := s x List.mem_cons_self
    have := nodup_len (r := r.erase x) n2 fun y hy => (List.mem_erase_of_ne fun (z : y = x) => n1 (z ▸ hy)).mpr (s y (List.mem_cons_of_mem _ hy))
    rw [List.length_erase_of_mem hx] at this
    have := List.length_pos_of_mem hx
    rw [List.length_cons]
    omega
theorem hp_eq_iff {l r : List (Str × Int)} (hl : HpOk l) (hr : HpOk r) : (l.length = r.length ∧ ∀ q ∈ l, gtO r q.1 = some q.2) ↔ l = r := by
  constructor
  · rintro ⟨hz, h⟩
    have sub : ∀ k ∈ ksN l, k ∈ ksN r := fun k hk => by
      obtain ⟨i, e, m⟩ := gtO_mem hk
      have := h _ m
      refine Classical.byContradiction fun z => ?_
      rw [gtO_none z] at this
      cases this
    have sup : ∀ k ∈ ksN r, k ∈ ksN l := fun k hk => Classical.byContradiction fun z => by
      have h1 : (k :: ksN l).Nodup := List.nodup_cons.mpr ⟨z, hl.nd⟩
      have h2 : ∀ x ∈ k :: ksN l, x ∈ ksN r := fun x hx => by
        rcases List.mem_cons.mp hx with rfl | hx
        · exact hk
        · exact sub x hx
      have := nodup_len h1 h2
      simp at this
      omega
    refine hp_ext hl hr fun k => ?_
    by_cases hk : k ∈ ksN l
    · obtain ⟨i, e, m⟩ := gtO_mem hk
      rw [gtD, gtD, e, h _ m]
    · rw [gtD, gtD, gtO_none hk, gtO_none fun z => hk (sup k z)]
  · rintro rfl
    exact ⟨rfl, fun q hq => gtO_of hl.nd hq⟩
theorem heap_eq {l r : List (Str × Int)} (hl : HpOk l) (hr : HpOk r) : S_Heap___eq__.F [hp l, hp r] = .ok (.im (.bl (decide (l = r)))) [] := by
  have := hp_eq_iff hl hr
  have e : decide (l.length = r.length ∧ ∀ q ∈ l, gtO r q.1 = some q.2) = decide (l = r) := decide_eq_decide.mpr this
  have e2 : dcF false [] [.dic (dN l), .dic (dN r)] = .ok (.im (.bl (decide (l = r)))) [] := by rw [dcF_dN, e]
  simp [F_Heap___eq__, d_Heap___eq__, st_run, e2]
theorem heap_eq_non {l : List (Str × Int)} : S_Heap___eq__.F [hp l, .non] = .ok (.im (.bl false)) [] := by
  simp [F_Heap___eq__, d_Heap___eq__, st_run]
theorem heap_of1 {k : Str} (h : nameB k = true) : S_Heap_of_s1.F [.str k] = .ok (.ow (hp [(k, 1)])) [] := by
  have t : TabOk [(k, 1)] := ⟨by simp [ksN], fun q hq => by simp at hq; subst hq; exact h, fun q hq => by simp at hq; subst hq; exact (by decide : (0 : Int) ≤ 1), by simp⟩
  have e : mkH [(k, 1)] = [(k, 1)] := by
    simp [mkH, sortS, isort, ins1, ksN, gtD, gtO]
  have e2 := heap_new t
  rw [e] at e2
  have e3 : dN [(k, 1)] = [(.inr k, .int 1)] := rfl
  rw [e3] at e2
  simp [F_Heap_of_s1, d_Heap_of, st_run, starF, forL, is_name_t h, tyD, bGet, keyD, valD_nil, cSet, putD, e2, e3]
end Pu
namespace Pu
open PySem PySem.Spec PyProof.Rows L2
section
variable {α : Type} (f : α → D)
def dG (l : List (Str × α)) : List (Key × D) := l.map fun q => (.inr q.1, f q.2)
def gO (l : List (Str × α)) (k : Str) : Option α := (l.find? fun q => decide (q.1 = k)).map (·.2)
def ksG (l : List (Str × α)) : List Str := l.map (·.1)
@[simp] theorem ksG_len {l : List (Str × α)} : (ksG l).length = l.length := List.length_map _
@[simp] theorem dG_len {l : List (Str × α)} : (dG f l).length = l.length := List.length_map _
theorem gO_cons {k k' : Str} {d : α} {l : List (Str × α)} : gO ((k, d) :: l) k' = if k = k' then some d else gO l k' := by
  by_cases h : k = k' <;> simp [gO, List.find?_cons, h]
theorem valD_dG {k : Str} : ∀ l : List (Str × α), valD (dG f l) (.inr k) = (gO l k).map f
  | [] => rfl
  | (x, i) :: l => by
    show valD ((.inr x, f i) :: dG f l) (.inr k) = _
    rw [valD_cons, gO_cons, valD_dG l]
    by_cases h : x = k
    · simp [h]
    · have : (Sum.inr x : Key) ≠ Sum.inr k := fun z => h (Sum.inr.inj z)
      simp [h, this]
theorem gO_mem {k : Str} : ∀ {l : List (Str × α)}, k ∈ ksG l → ∃ i, gO l k = some i ∧ (k, i) ∈ l
  | (x, i) :: l, h => by
    rw [gO_cons]
    by_cases hx : x = k
    · subst hx; exact ⟨i, by simp, List.mem_cons_self⟩
    · simp only [ksG, List.map_cons, List.mem_cons] at h
      rcases h with h | h
      · exact absurd h.symm hx
      · obtain ⟨j, e, m⟩ := gO_mem h
        exact ⟨j, by simp [hx, e], List.mem_cons_of_mem _ m⟩
theorem gO_none {k : Str} : ∀ {l : List (Str × α)}, k ∉ ksG l → gO l k = none
  | [], _ => rfl
  | (x, i) :: l, h => by
    simp only [ksG, List.map_cons, List.mem_cons, not_or] at h
    rw [gO_cons, if_neg (fun z => h.1 z.symm), gO_none h.2]
theorem gO_of : ∀ {l : List (Str × α)} {q : Str × α}, (ksG l).Nodup → q ∈ l → gO l q.1 = some q.2
  | (x, i) :: l, q, hn, h => by
    obtain ⟨n1, n2⟩ := List.nodup_cons.mp (show (x :: ksG l).Nodup from hn)
    rw [gO_cons]
    rcases List.mem_cons.mp h with rfl | h
    · simp
    · rw [if_neg fun z => n1 (by rw [z]; exact List.mem_map.mpr ⟨q, h, rfl⟩), gO_of n2 h]
theorem gO_some {k : Str} {l : List (Str × α)} : (gO l k).isSome = decide (k ∈ ksG l) := by
  by_cases h : k ∈ ksG l
  · obtain ⟨i, e, _⟩ := gO_mem h
    rw [e]; simp [h]
  · rw [gO_none h]; simp [h]
@[simp] theorem dG_keys (l : List (Str × α)) : (dG f l).map (fun kv => kD kv.1) = strL (ksG l) := by
  simp [dG, Function.comp_def, kD, strL, ksG]
theorem fold_putG (h : Str → Option α) (g : D → Option (Key × D)) : ∀ (ks : List Str) (acc : List (Str × α)), (∀ k ∈ ks, g (.str k) = (h k).map fun i => (.inr k, f i)) → ks.Nodup → (∀ k ∈ ks, k ∉ ksG acc) →
    (strL ks).foldl (fun acc d => putO acc (g d)) (dG f acc) = dG f (acc ++ ks.filterMap fun k => (h k).map fun i => (k, i))
  | [], acc, _, _, _ => by simp [strL]
  | k :: ks, acc, hg, hn, ha => by
    obtain ⟨n1, n2⟩ := List.nodup_cons.mp hn
    rw [← strL_cons, List.foldl_cons, hg k List.mem_cons_self]
    have hg' : ∀ k ∈ ks, g (.str k) = (h k).map fun i => (.inr k, f i) := fun x hx => hg x (List.mem_cons_of_mem _ hx)
    cases hk : h k with
    | none =>
      show (strL ks).foldl _ (dG f acc) = _
      rw [fold_putG h g ks acc hg' n2 fun x hx => ha x (List.mem_cons_of_mem _ hx)]
      simp [hk]
    | some i =>
      have e : putO (dG f acc) (Option.map (fun i => ((Sum.inr k : Key), f i)) (some i)) = dG f (acc ++ [(k, i)]) := by
        show putD (dG f acc) (.inr k) (f i) = _
        rw [putD_new]
        · simp [dG]
        · intro z
          simp only [dG, List.map_map] at z
          obtain ⟨q, hq, e⟩ := List.mem_map.mp z
          have e : q.1 = k := Sum.inr.inj e
          exact ha k List.mem_cons_self (List.mem_map.mpr ⟨q, hq, e⟩)
      rw [e, fold_putG h g ks _ hg' n2 fun x hx z => ?_]
      · simp [hk]
      · rw [ksG, List.map_append, List.mem_append] at z
        rcases z with z | z
        · exact ha x (List.mem_cons_of_mem _ hx) z
        · simp only [List.map_cons, List.map_nil, List.mem_singleton] at z
          exact n1 (z ▸ hx)
/-- a table of the same names, in the order of ks -/
def reG (ks : List Str) (l : List (Str × α)) : List (Str × α) := ks.filterMap fun k => (gO l k).map fun i => (k, i)
theorem reG_self {l : List (Str × α)} (h : (ksG l).Nodup) : reG (ksG l) l = l := by
  unfold reG
  have : ∀ r : List (Str × α), (∀ q ∈ r, q ∈ l) → (ksG r).filterMap (fun k => (gO l k).map fun i => (k, i)) = r := by
    intro r
    induction r with
    | nil => intro _; rfl
    | cons q r ih =>
      intro hr
      have e := gO_of h (hr q List.mem_cons_self)
      show (q.1 :: ksG r).filterMap _ = _
      rw [List.filterMap_cons, e]
      simp only [Option.map_some]
      rw [ih fun x hx => hr x (List.mem_cons_of_mem _ hx)]
  exact this l fun q hq => hq
end
theorem sortS_self {l : List Str} (h : l.Pairwise leS) (n : l.Nodup) : sortS l = l := sorted_eq (sortS_pair l) h (sortS_nodup n) n fun x => sortS_mem
abbrev HL := List (Str × Int)
def cD : Option HL → D
  | none => .non
  | some l => hp l
abbrev bk (cs : List (Str × Option HL)) : D := .ins 1 [(2, .dic (dG cD cs))]
@[simp] theorem cD_none : cD none = .non := rfl
@[simp] theorem cD_some {l : HL} : cD (some l) = hp l := rfl
structure BkIn (cs : List (Str × Option HL)) : Prop where
  nd : (ksG cs).Nodup
  nm : ∀ k ∈ ksG cs, nameB k = true
  sz : cs.length ≤ 8
  ok : ∀ k l, (k, some l) ∈ cs → HpOk l ∧ l.length < 64 ∧ ∀ x ∈ ksN l, x ∈ ksG cs
theorem neq_nil : bEq (.lst []) (.lst []) = some true := by
  have := eq_strs (l := []) (r := []) (by simp) (by simp)
  simpa using this
theorem book_init {cs : List (Str × Option HL)} (h : BkIn cs) : S_Book___init__.F [.ins 1 [], .dic (dG cD cs)] = .ok (.im .non) [bk (reG (sortS (ksG cs)) cs)] := by
  have hz := h.sz
  have hz' : (cs.length : Int) ≤ 8 := by omega
  have hzz : ¬ (8 < (cs.length : Int)) := by omega
  have h64 : (ksG cs).length < 64 := by simp; omega
  have hm : ∀ d ∈ strL (sortS (ksG cs)), ∃ k c, d = .str k ∧ (k, c) ∈ cs ∧ gO cs k = some c := fun d hd => by
    obtain ⟨k, hk, rfl⟩ := strL_mem hd
    obtain ⟨i, e, m⟩ := gO_mem (sortS_mem.mp hk)
    exact ⟨k, i, rfl, m, e⟩
  simp only [F_Book___init__, d_Book___init__, st_run, ev_seq]
  simp
  rw [forL_chk (by intro s hs; cases hs; rfl) (by simp) (fun d hd => by
    obtain ⟨k, hk, rfl⟩ := strL_mem hd
    simp [is_name_t (h.nm k hk)])]
  simp [hzz, pv_sorted h64]
  generalize hs : lastS _ _ _ = s
  have hc : s.hot = false := by subst hs; exact lastS_hot (by intro s hs; cases hs; rfl)
  rw [forL_chk (by intro s hs; simp at hs; subst hs; exact hc) (by simp) (fun d hd => by
    obtain ⟨k, c, rfl, m, e⟩ := hm d hd
    cases c <;> simp [valD_dG, e])]
  simp
  generalize hs : lastS _ _ _ = s
  have hc : s.hot = false := by subst hs; exact lastS_hot (by intro s hs; cases hs; exact hc)
  rw [forL_chk (by intro s hs; simp at hs; subst hs; exact hc) (by simp) (fun d hd => by
    obtain ⟨k, c, rfl, m, e⟩ := hm d hd
    cases c with
    | none => simp [valD_dG, e]
    | some l =>
      obtain ⟨h1, h2, h3⟩ := h.ok k l m
      simp [valD_dG, e, heap_names]
      rw [lcGo_of (fun _ => none)]
      · have hz0 : ((strL (ksN l)).filterMap fun _ => (none : Option D)) = [] := by
          induction strL (ksN l) with
          | nil => rfl
          | cons x r ih => exact ih
        rw [hz0]
        simp [pv_cat (l := []) (r := []) (by simp)]
      · intro d hd
        obtain ⟨x, hx, rfl⟩ := strL_mem hd
        obtain ⟨c, ec, _⟩ := gO_mem (h3 x hx)
        simp [lcStep, bindD, valD_dG, ec]
      · simp; omega)]
  simp
  generalize hs : lastS _ _ _ = s
  have hc : s.hot = false := by subst hs; exact lastS_hot (by intro s hs; simp at hs; subst hs; exact hc)
  simp [neq_nil, hc]
  rw [dcGo_of (fun d => match d with
    | .str k => (gO cs k).map fun i => (.inr k, cD i)
    | _ => none)]
  · have := fold_putG cD (fun k => gO cs k) (fun d => match d with
      | .str k => (gO cs k).map fun i => (.inr k, cD i)
      | _ => none) (sortS (ksG cs)) [] (fun k _ => rfl) (sortS_nodup h.nd) (fun _ _ z => nomatch z)
    rw [show dG cD [] = [] from rfl] at this
    rw [this]
    simp [putFD, reG]
  · intro d hd
    obtain ⟨k, c, rfl, m, e⟩ := hm d hd
    simp [dcStep, bindD, keyD, valD_dG, e]
  · simp [sortS_len]; omega
theorem book_new {cs : List (Str × Option HL)} (h : BkIn cs) : mkO 1 S_Book___init__.F [.dic (dG cD cs)] = .ok (.ow (bk (reG (sortS (ksG cs)) cs))) [] := by
  unfold mkO
  rw [book_init h]
theorem book_kinds {cs : List (Str × Option HL)} : S_Book_kinds.F [bk cs] = .ok (.ow (.lst (strL (ksG cs)))) [] := by
  simp [F_Book_kinds, d_Book_kinds, st_run]
theorem book_has {cs : List (Str × Option HL)} {k : Str} : S_Book___contains__.F [bk cs, .str k] = .ok (.im (.bl (decide (k ∈ ksG cs)))) [] := by
  simp [F_Book___contains__, d_Book___contains__, st_run, valD_dG, gO_some]
@[simp] theorem hInA_ins {op : CmpOp} {neg : Bool} {S0 S1 : Fs} {tab : List (Str × Str × Int)} {fs : List (Nat × D)} {k : Str} (h : op = .In ∨ op = .NotIn) : hInA neg op [(0, S0), (1, S1)] tab (.str k) (.ins 1 fs) = .call (blF neg S1.F) true := by
  rcases h with rfl | rfl <;> rfl
@[simp] theorem hInA_bkI {neg : Bool} {S0 S1 : Fs} {tab : List (Str × Str × Int)} {fs : List (Nat × D)} {k : Str} : hInA neg .In [(0, S0), (1, S1)] tab (.str k) (.ins 1 fs) = .call (blF neg S1.F) true := rfl
@[simp] theorem hInA_bkN {neg : Bool} {S0 S1 : Fs} {tab : List (Str × Str × Int)} {fs : List (Nat × D)} {k : Str} : hInA neg .NotIn [(0, S0), (1, S1)] tab (.str k) (.ins 1 fs) = .call (blF neg S1.F) true := rfl
@[simp] theorem hInA_dicI {neg : Bool} {l : List (Nat × Fs)} {tab : List (Str × Str × Int)} {ds : List (Key × D)} {k : Str} : hInA neg .In l tab (.str k) (.dic ds) = .ov (.ok (.im (.bl (valD ds (.inr k)).isSome))) := by
  show Oh.or (.ov (bCmp .In (.str k) (.dic ds))) _ = _
  rw [pv_in_dic]; rfl
@[simp] theorem hInA_dicN {neg : Bool} {l : List (Nat × Fs)} {tab : List (Str × Str × Int)} {ds : List (Key × D)} {k : Str} : hInA neg .NotIn l tab (.str k) (.dic ds) = .ov (.ok (.im (.bl (!(valD ds (.inr k)).isSome)))) := by
  show Oh.or (.ov (bCmp .NotIn (.str k) (.dic ds))) _ = _
  rw [pv_nin_dic]; rfl
theorem blF_ok {neg b : Bool} {F : List D → Out} {ds ms : List D} (h : F ds = .ok (.im (.bl b)) ms) : blF neg F ds = .ok (.im (.bl (if neg = true then !b else b))) ms := by
  unfold blF
  rw [h]
theorem book_content {cs : List (Str × Option HL)} {k : Str} {c : Option HL} (h : gO cs k = some c) : S_Book_content.F [bk cs, .str k] = .ok (.im (cD c)) [] := by
  have hk : k ∈ ksG cs := by
    have := gO_some (l := cs) (k := k)
    rw [h] at this
    simpa using this
  simp [F_Book_content, d_Book_content, st_run, blF_ok book_has, hk, valD_dG, h]
@[simp] theorem pv_ix0 {d : D} {l : List D} : hSub (.lst (d :: l)) (.int 0) = .ov (.ok (.im d)) := by
  simp [hSub, gV, bIx, asS, asL, L2.atI, ixN, Oh.or, Oh.bad]
theorem eq_strL {l r : List Str} (hl : ∀ x ∈ l, PyData.strOk x = true) (hr : ∀ x ∈ r, PyData.strOk x = true) : bEq (.lst (strL l)) (.lst (strL r)) = some (decide (l = r)) := eq_strs hl hr
def firstD : List Str → D
  | [] => .non
  | k :: _ => .str k
theorem book_unknown {cs : List (Str × Option HL)} {l : HL} (hl : HpOk l) (hz : l.length < 64) : S_Book_unknown.F [bk cs, hp l] = .ok (.im (firstD ((ksN l).filter fun k => !decide (k ∈ ksG cs)))) [] := by
  simp [F_Book_unknown, d_Book_unknown, st_run, heap_names]
  rw [lcGo_of (fun d => match d with
    | .str k => if k ∈ ksG cs then none else some (.str k)
    | _ => none)]
  · have e : (strL (ksN l)).filterMap (fun d => match d with
      | .str k => if k ∈ ksG cs then none else some (.str k)
      | _ => none) = strL ((ksN l).filter fun k => !decide (k ∈ ksG cs)) := by
      unfold strL
      induction ksN l with
      | nil => rfl
      | cons x r ih =>
        rw [List.map_cons, List.filterMap_cons, ih]
        by_cases h : x ∈ ksG cs <;> simp [h, List.filter_cons]
    have ok : ∀ x ∈ (ksN l).filter (fun k => !decide (k ∈ ksG cs)), PyData.strOk x = true := fun x hx => nameB_ok (nameB_ks hl.nm (List.mem_filter.mp hx).1)
    rw [e]
    generalize (ksN l).filter (fun k => !decide (k ∈ ksG cs)) = xs at ok
    have e2 := eq_strL (l := xs) (r := []) ok (by simp)
    have e3 : strL [] = [] := rfl
    rw [e3] at e2
    cases xs with
    | nil => simp [strL, neq_nil, firstD]
    | cons x r =>
      rw [← strL_cons] at e2 ⊢
      simp at e2
      simp [e2, firstD]
  · intro d hd
    obtain ⟨k, hk, rfl⟩ := strL_mem hd
    by_cases h : k ∈ ksG cs
    · obtain ⟨c, ec, _⟩ := gO_mem h
      simp [lcStep, bindD, valD_dG, ec, h]
    · simp [lcStep, bindD, valD_dG, gO_none h, h]
  · simp; omega
def cEq : Option HL → Option HL → Bool
  | none, none => true
  | some l, some r => decide (l = r)
  | _, _ => false
end Pu
namespace Pu
open PySem PySem.Spec PyProof.Rows L2
theorem forL_find {g : GF} {body : SF} {P : Rho → Prop} {good : D → Bool} {R : Rt → Prop} (hR : ∀ x, R x → ∃ r ρ, x = .rt r ρ) : ∀ (ds : List D) (ρ : Rho), P ρ → (∀ d ∈ ds, ∀ ρ, P ρ → ∃ ρ1, g (.im d) ρ = some ρ1 ∧ (if good d = true then ∃ ρ2, body ρ1 = .nx ρ2 ∧ P ρ2 else R (body ρ1))) →
    if ds.all good = true then ∃ ρ', forL g body ds ρ = .nx ρ' ∧ P ρ' else R (forL g body ds ρ)
  | [], ρ, hp, _ => ⟨ρ, rfl, hp⟩
  | d :: ds, ρ, hp, h => by
    obtain ⟨ρ1, e1, h1⟩ := h d List.mem_cons_self ρ hp
    rw [List.all_cons]
    unfold forL
    rw [e1]
    simp only []
    by_cases hg : good d = true
    · rw [if_pos hg] at h1
      obtain ⟨ρ2, e2, h2⟩ := h1
      rw [e2, hg, Bool.true_and]
      exact forL_find hR ds ρ2 h2 fun x hx => h x (List.mem_cons_of_mem _ hx)
    · rw [if_neg hg] at h1
      obtain ⟨r, ρ2, e2⟩ := hR _ h1
      have hg : good d = false := by simpa using hg
      rw [hg, Bool.false_and, if_neg (by simp)]
      rw [e2] at h1 ⊢
      exact h1
/-- a sum over a list -/
theorem forL_acc {g : GF} {body : SF} {α : Type} {P : α → Rho → Prop} (st : α → D → α) : ∀ (ds : List D) (a : α) (ρ : Rho), P a ρ → (∀ d ∈ ds, ∀ a ρ, P a ρ → ∃ ρ1 ρ2, g (.im d) ρ = some ρ1 ∧ body ρ1 = .nx ρ2 ∧ P (st a d) ρ2) → ∃ ρ', forL g body ds ρ = .nx ρ' ∧ P (ds.foldl st a) ρ'
  | [], a, ρ, hp, _ => ⟨ρ, rfl, hp⟩
  | d :: ds, a, ρ, hp, h => by
    obtain ⟨ρ1, ρ2, e1, e2, h2⟩ := h d List.mem_cons_self a ρ hp
    obtain ⟨ρ', e, h'⟩ := forL_acc st ds (st a d) ρ2 h2 fun x hx => h x (List.mem_cons_of_mem _ hx)
    refine ⟨ρ', ?_, h'⟩
    unfold forL
    rw [e1]
    simp only []
    rw [e2]
    exact e
def lowI (w m : Int) : Int := if m = 0 then w else w % m
theorem pv_mod {i j : Int} (h : 0 < j) : bBin .Mod (.int i) (.int j) = .ok (.im (.int (i % j))) := by
  have e : bBin .Mod (.int i) (.int j) = if decide (0 < j) = true then .ok (.im (.int (i % j))) else .bad := rfl
  rw [e]
  simp [h]
@[simp] theorem pv_int {i : Int} : bInt [.int i] = some (.int i) := rfl
@[simp] theorem pv_eqi {i j : Int} : bEq (.int i) (.int j) = some (decide (i = j)) := eq_int
theorem lowest_ev {w m : Int} (h : 0 ≤ m) : S_lowest.F [.int w, .int m] = .ok (.im (.int (lowI w m))) [] := by
  by_cases h0 : m = 0
  · simp [F_lowest, d_lowest, st_run, h0, lowI]
  · have : 0 < m := by omega
    simp [F_lowest, d_lowest, st_run, h0, lowI, pv_mod this]
abbrev wl (cs : List (Str × Option HL)) (m : Int) (t : HL) : D := .ins 2 [(6, bk cs), (5, .int m), (4, .dic (dN t))]
theorem wl_init {cs : List (Str × Option HL)} {t : HL} {m : Int} (hm : 0 ≤ m) (hn : (ksG cs).Nodup) (hz : cs.length < 64) (h1 : ∀ k ∈ ksN t, k ∈ ksG cs) (h2 : ∀ k ∈ ksG cs, k ∈ ksN t) :
    runF 5 [true, false, false, false] d_WorthList___init__ [.ins 2 [], bk cs, .dic (dN t), .int m] = .ok (.im .non) [wl cs m (tabF (ksG cs) fun k => lowI (gtD t k) m)] := by
  simp only [d_WorthList___init__, st_run, ev_seq]
  simp [hm]
  rw [forL_chk (by intro s hs; cases hs; rfl) (by simp) (fun d hd => by
    obtain ⟨k, hk, rfl⟩ := strL_mem hd
    simp [blF_ok book_has, h1 k hk])]
  simp [book_kinds]
  generalize hs : lastS _ _ _ = s
  have hc : s.hot = false := by subst hs; exact lastS_hot (by intro s hs; cases hs; rfl)
  rw [forL_chk (by intro s hs; simp at hs; subst hs; exact hc) (by simp) (fun d hd => by
    obtain ⟨k, hk, rfl⟩ := strL_mem hd
    obtain ⟨i, e, m⟩ := gtO_mem (h2 k hk)
    simp [valD_dN, e])]
  simp [putFD]
  generalize hs : lastS _ _ _ = s
  have hc : s.hot = false := by subst hs; exact lastS_hot (by intro s hs; simp at hs; subst hs; exact hc)
  simp [book_kinds, hc]
  rw [dcGo_of (fun d => match d with
    | .str k => some (.inr k, .int (lowI (gtD t k) m))
    | _ => none)]
  · have := fold_putf (fun k => lowI (gtD t k) m) (fun d => match d with
      | .str k => some (.inr k, .int (lowI (gtD t k) m))
      | _ => none) (ksG cs) [] (fun k _ => rfl)
    rw [show dN (tabF [] fun k => lowI (gtD t k) m) = [] from rfl] at this
    rw [this, ddS_self hn (by simp), List.nil_append]
    simp [putFD]
  · intro d hd
    obtain ⟨k, hk, rfl⟩ := strL_mem hd
    obtain ⟨i, e, mm⟩ := gtO_mem (h2 k hk)
    simp [dcStep, bindD, keyD, valD_dN, e, lowest_ev hm, gtD]
  · simp; omega
theorem wl_table {cs : List (Str × Option HL)} {t : HL} {m : Int} (hn : (ksN t).Nodup) (hz : t.length < 64) : S_WorthList_table.F [wl cs m t] = .ok (.ow (.dic (dN t))) [] := by
  simp [F_WorthList_table, d_WorthList_table, st_run]
  rw [dcGo_of (fun d => match d with
    | .str k => some (.inr k, .int (gtD t k))
    | _ => none)]
  · have := fold_putf (fun k => gtD t k) (fun d => match d with
      | .str k => some (.inr k, .int (gtD t k))
      | _ => none) (ksN t) [] (fun k _ => rfl)
    rw [show dN (tabF [] fun k => gtD t k) = [] from rfl] at this
    rw [this, ddS_self hn (by simp), List.nil_append]
    have e : tabF (ksN t) (fun k => gtD t k) = t := keys_eq (by rw [tabF_keys]) (by rw [tabF_keys]; exact hn) (fun k hk => by
      rw [tabF_keys] at hk
      rw [tabF_gtD, if_pos hk])
    rw [e]
    simp
  · intro d hd
    obtain ⟨k, hk, rfl⟩ := strL_mem hd
    obtain ⟨i, e, mm⟩ := gtO_mem hk
    simp [dcStep, bindD, keyD, valD_dN, e, gtD]
  · simp; omega
def wsum (t l : HL) : Int := l.foldl (fun a q => a + q.2 * gtD t q.1) 0
theorem wl_worth {cs : List (Str × Option HL)} {t l : HL} {m : Int} (hm : 0 ≤ m) (hl : (ksN l).Nodup) (hz : l.length < 64) (hk : ∀ k ∈ ksN l, k ∈ ksN t) (hc : ∀ q ∈ l, CMul q.2 (gtD t q.1)) : S_WorthList_worth_of.F [wl cs m t, hp l] = .ok (.im (.int (lowI (wsum t l) m))) [] := by
  simp only [F_WorthList_worth_of, d_WorthList_worth_of, st_run, ev_seq]
  simp [heap_pairs hl hz]
  generalize hb : sSeq (sIf _ _ _) _ = body
  obtain ⟨ρ', e, s3, s4, rfl, c3, c4⟩ := forL_acc (g := gTupD [gNam 3, gNam 4]) (body := body) (P := fun (a : Int) ρ => ∃ s3 s4, ρ = [.im (wl cs m t), .im (hp l), .im (.int a), s3, s4] ∧ s3.hot = false ∧ s4.hot = false)
    (fun a d => match d with
      | .tup [.str k, .int i] => a + i * gtD t k
      | _ => a) (l.map prD) 0 [.im (wl cs m t), .im (hp l), .im (.int 0), .no, .no] ⟨_, _, rfl, rfl, rfl⟩ (by
    rintro d hd a ρ ⟨s3, s4, rfl, c3, c4⟩
    obtain ⟨q, hq, rfl⟩ := List.mem_map.mp hd
    obtain ⟨i, e, mm⟩ := gtO_mem (hk q.1 (List.mem_map.mpr ⟨q, hq, rfl⟩))
    have hcm := hc q hq
    have ei : gtD t q.1 = i := by rw [gtD, e]; rfl
    rw [ei] at hcm
    subst hb
    have n3 : ∀ d, s3 ≠ .mu d := fun d z => by rw [z] at c3; cases c3
    have n4 : ∀ d, s4 ≠ .mu d := fun d z => by rw [z] at c4; cases c4
    refine ⟨[.im (wl cs m t), .im (hp l), .im (.int a), .im (.str q.1), .im (.int q.2)], [.im (wl cs m t), .im (hp l), .im (.int (a + q.2 * gtD t q.1)), .im (.str q.1), .im (.int q.2)], ?_, ?_, _, _, rfl, rfl, rfl⟩
    · cases s3 <;> first | (cases c3; done) | (cases s4 <;> first | (cases c4; done) | simp [prD])
    · simp [prD, valD_dN, e, pv_mul hcm, ei, bIop, fI, yes, Ov.or])
  rw [e]
  simp
  have e2 : (l.map prD).foldl (fun a d => match d with
      | .tup [.str k, .int i] => a + i * gtD t k
      | _ => a) 0 = wsum t l := by
    unfold wsum
    rw [List.foldl_map]
    rfl
  rw [e2, lowest_ev hm]
  simp
end Pu
namespace Pu
open PySem PySem.Spec PyProof.Rows L2
theorem cold_n {s : Sl} (h : s.hot = false) (d : D) : s ≠ .mu d := fun z => by rw [z] at h; cases h
def hon1 (cs : List (Str × Option HL)) (m : Int) (t : HL) (k : Str) : Bool := match gO cs k with
  | some (some l) => decide (lowI (wsum t l) m = gtD t k)
  | _ => true
def honB (cs : List (Str × Option HL)) (m : Int) (t : HL) : Bool := (ksG cs).all (hon1 cs m t)
/-- the heaps of a book, by a table -/
structure WlOk (cs : List (Str × Option HL)) (m : Int) (t : HL) : Prop where
  m0 : 0 ≤ m
  ky : ∀ k ∈ ksG cs, k ∈ ksN t
  ct : ∀ k l, (k, some l) ∈ cs → (ksN l).Nodup ∧ l.length < 64 ∧ (∀ k ∈ ksN l, k ∈ ksN t) ∧ ∀ q ∈ l, CMul q.2 (gtD t q.1)
theorem wl_fault {cs : List (Str × Option HL)} {t : HL} {m : Int} (h : WlOk cs m t) : ∃ d, S_WorthList_fault.F [wl cs m t] = .ok (.im d) [] ∧ isNonD d = honB cs m t := by
  simp only [F_WorthList_fault, d_WorthList_fault, st_run, ev_seq]
  simp [book_kinds]
  generalize hb : sSeq (sAsg (gNam 2) _) _ = body
  have key := forL_find (g := gNam 1) (body := body) (P := fun ρ => ∃ s1 s2, ρ = [.im (wl cs m t), s1, s2] ∧ s1.hot = false ∧ s2.hot = false)
    (good := fun d => match d with
      | .str k => hon1 cs m t k
      | _ => false) (R := fun x => ∃ k ρ, x = .rt (.im (.str k)) ρ) (by rintro x ⟨k, ρ, rfl⟩; exact ⟨_, _, rfl⟩) (strL (ksG cs)) [.im (wl cs m t), .no, .no] ⟨_, _, rfl, rfl, rfl⟩ (by
    rintro d hd ρ ⟨s1, s2, rfl, c1, c2⟩
    obtain ⟨k, hk, rfl⟩ := strL_mem hd
    obtain ⟨c, ec, mc⟩ := gO_mem hk
    obtain ⟨i, ei, mi⟩ := gtO_mem (h.ky k hk)
    have e2 : gtD t k = i := by rw [gtD, ei]; rfl
    subst hb
    refine ⟨[.im (wl cs m t), .im (.str k), s2], ?_, ?_⟩
    · cases s1 <;> first | (cases c1; done) | simp
    · cases c with
      | none =>
        simp only [hon1, ec]
        refine ⟨[.im (wl cs m t), .im (.str k), .im .non], ?_, _, _, rfl, rfl, rfl⟩
        cases s2 <;> first | (cases c2; done) | simp [book_content ec]
      | some l =>
        obtain ⟨n1, n2, n3, n4⟩ := h.ct k l mc
        simp only [hon1, ec, e2]
        have hw := wl_worth (cs := cs) h.m0 n1 n2 n3 n4
        by_cases hq : lowI (wsum t l) m = i
        · rw [if_pos (by simp [hq])]
          refine ⟨[.im (wl cs m t), .im (.str k), .im (hp l)], ?_, _, _, rfl, rfl, rfl⟩
          cases s2 <;> first | (cases c2; done) | simp [book_content ec, hw, valD_dN, ei, hq]
        · rw [if_neg (by simp [hq])]
          refine ⟨k, [.im (wl cs m t), .im (.str k), .im (hp l)], ?_⟩
          cases s2 <;> first | (cases c2; done) | simp [book_content ec, hw, valD_dN, ei, hq])
  have ea : (strL (ksG cs)).all (fun d => match d with
      | .str k => hon1 cs m t k
      | _ => false) = honB cs m t := by
    unfold strL honB
    rw [List.all_map]
    rfl
  rw [ea] at key
  by_cases hh : honB cs m t = true
  · rw [if_pos hh] at key
    obtain ⟨ρ', e, s1, s2, rfl, c1, c2⟩ := key
    exact ⟨.non, by rw [e]; simp, by rw [hh]; rfl⟩
  · rw [if_neg hh] at key
    obtain ⟨k, ρ, e⟩ := key
    have hh : honB cs m t = false := by simpa using hh
    exact ⟨.str k, by rw [e]; simp, by rw [hh]; rfl⟩
theorem wl_honest {cs : List (Str × Option HL)} {t : HL} {m : Int} (h : WlOk cs m t) : S_WorthList_is_honest.F [wl cs m t] = .ok (.im (.bl (honB cs m t))) [] := by
  obtain ⟨d, e, n⟩ := wl_fault h
  simp [F_WorthList_is_honest, d_WorthList_is_honest, st_run, e, n]
theorem is_heap_of_hp {cs : List (Str × Option HL)} {l : HL} (hl : HpOk l) (hz : l.length < 64) : S_is_heap_of.F [bk cs, hp l] = .ok (.im (.bl (decide (∀ k ∈ ksN l, k ∈ ksG cs)))) [] := by
  have hu := book_unknown (cs := cs) hl hz
  have e : isNonD (firstD ((ksN l).filter fun k => !decide (k ∈ ksG cs))) = decide (∀ k ∈ ksN l, k ∈ ksG cs) := by
    induction ksN l with
    | nil => simp [firstD]
    | cons x r ih =>
      by_cases h : x ∈ ksG cs
      · simp only [List.filter_cons, h, decide_true, Bool.not_true]
        rw [if_neg (by simp), ih]
        simp [h]
      · simp [List.filter_cons, h, firstD]
  simp [F_is_heap_of, d_is_heap_of, st_run, hu, e]
theorem is_heap_of_no {b d : D} {t : Nat} (h : tagD d = some t) (ht : t ≠ 7) : S_is_heap_of.F [b, d] = .ok (.im (.bl false)) [] := by
  simp [F_is_heap_of, d_is_heap_of, st_run, h, ht]
structure BkOk (cs : List (Str × Option HL)) : Prop where
  nd : (ksG cs).Nodup
  hp : ∀ k l, (k, some l) ∈ cs → HpOk l
theorem eqOut_self {l : HL} (hl : HpOk l) : eqOut [(0, S_Heap___eq__)] 0 (hp l) (hp l) = some true := by
  simp [eqOut, outB, heap_eq hl hl]
theorem eqVal_self {c : Option HL} (h : ∀ l, c = some l → HpOk l) : eqVal [(0, S_Heap___eq__)] (cD c) (cD c) = some true := by
  cases c with
  | none => rfl
  | some l =>
    have := eqOut_self (h l rfl)
    show eqVal _ (hp l) (hp l) = _
    simp [eqVal, this]
theorem eqDic_self {cs : List (Str × Option HL)} (h : BkOk cs) : ∀ r : List (Str × Option HL), (∀ q ∈ r, q ∈ cs) → eqDic [(0, S_Heap___eq__)] (dG cD r) (dG cD cs) = some true
  | [], _ => rfl
  | (k, c) :: r, hr => by
    have hm := hr _ List.mem_cons_self
    show eqDic _ ((.inr k, cD c) :: dG cD r) (dG cD cs) = _
    unfold eqDic
    rw [valD_dG, gO_of h.nd hm]
    simp only [Option.map_some]
    rw [eqVal_self fun l hl => h.hp k l (by rw [← hl]; exact hm)]
    exact eqDic_self h r fun q hq => hr q (List.mem_cons_of_mem _ hq)
theorem book_eq_self {cs : List (Str × Option HL)} (h : BkOk cs) : S_Book___eq__.F [bk cs, bk cs] = .ok (.im (.bl true)) [] := by
  have e := eqDic_self h cs fun _ h => h
  have e2 : dcF false [(0, S_Heap___eq__)] [.dic (dG cD cs), .dic (dG cD cs)] = .ok (.im (.bl true)) [] := by simp [dcF, e]
  simp [F_Book___eq__, d_Book___eq__, st_run, e2]
theorem book_eq_len {cs ds : List (Str × Option HL)} (h : cs.length ≠ ds.length) : S_Book___eq__.F [bk cs, bk ds] = .ok (.im (.bl false)) [] := by
  have e2 : dcF false [(0, S_Heap___eq__)] [.dic (dG cD cs), .dic (dG cD ds)] = .ok (.im (.bl false)) [] := by simp [dcF, h]
  simp [F_Book___eq__, d_Book___eq__, st_run, e2]
theorem hEqA_ins {neg : Bool} {op : CmpOp} (hop : op = .Eq ∨ op = .NotEq) {S0 S1 : Fs} {fs gs : List (Nat × D)} : hEqA neg op [(0, S0), (1, S1)] (.ins 1 fs) (.ins 1 gs) = .call (blF neg S1.F) false := by
  rcases hop with rfl | rfl <;> rfl
@[simp] theorem hEqA_insE {neg : Bool} {S0 S1 : Fs} {fs gs : List (Nat × D)} : hEqA neg .Eq [(0, S0), (1, S1)] (.ins 1 fs) (.ins 1 gs) = .call (blF neg S1.F) false := rfl
@[simp] theorem hEqA_insN {neg : Bool} {S0 S1 : Fs} {fs gs : List (Nat × D)} : hEqA neg .NotEq [(0, S0), (1, S1)] (.ins 1 fs) (.ins 1 gs) = .call (blF neg S1.F) false := rfl
theorem honest_list {cs cs' : List (Str × Option HL)} {t : HL} {m : Int} (h : WlOk cs m t) {b : Bool} (he : S_Book___eq__.F [bk cs, bk cs'] = .ok (.im (.bl b)) []) : S_is_honest_list.F [bk cs', wl cs m t] = .ok (.im (.bl (b && honB cs m t))) [] := by
  cases b <;> simp [F_is_honest_list, d_is_honest_list, st_run, blF_ok he, wl_honest h]
theorem honest_list_no {b d : D} {t : Nat} (h : tagD d = some t) (ht : t ≠ 9) : S_is_honest_list.F [b, d] = .ok (.im (.bl false)) [] := by
  simp [F_is_honest_list, d_is_honest_list, st_run, h, ht]
end Pu
namespace Pu
open PySem PySem.Spec PyProof.Rows L2
theorem char_lt (c : Char) : c.toNat < 1114112 := by
  have h := c.valid
  unfold UInt32.isValidChar Nat.isValidChar at h
  show c.val.toNat < _
  omega
theorem strOk_lit (s : String) : PyData.strOk (Str.ofString s) = true := by
  rw [Str.ofString_eq_toList]
  unfold PyData.strOk
  rw [← Array.all_toList, List.all_eq_true]
  intro c hc
  obtain ⟨x, _, rfl⟩ := List.mem_map.mp (show c ∈ List.map Char.toNat s.toList from hc)
  exact decide_eq_true (char_lt x)
theorem toNat_map_inj : ∀ {a b : List Char}, a.map Char.toNat = b.map Char.toNat → a = b
  | [], [], _ => rfl
  | [], _ :: _, h => nomatch h
  | _ :: _, [], h => nomatch h
  | x :: a, y :: b, h => by
    obtain ⟨h1, h2⟩ := List.cons.inj (show x.toNat :: a.map Char.toNat = y.toNat :: b.map Char.toNat from h)
    rw [toNat_map_inj h2]
    have : x = y := Char.ext (UInt32.toNat_inj.mp h1)
    rw [this]
theorem lit_inj {s t : String} : (Str.ofString s = Str.ofString t) ↔ s = t := by
  constructor
  · intro h
    rw [Str.ofString_eq_toList, Str.ofString_eq_toList] at h
    have h1 := congrArg (fun x : Str => x.cps.toList) h
    exact String.toList_inj.mp (toNat_map_inj h1)
  · rintro rfl; rfl
@[simp] theorem lit_eq {s t : String} : bEq (.str (Str.ofString s)) (.str (Str.ofString t)) = some (decide (s = t)) := by
  rw [eq_str (strOk_lit s) (strOk_lit t)]
  congr 1
  exact decide_eq_decide.mpr lit_inj
section
variable {l : List (Nat × Fs)} {tab : List (Str × Str × Int)} {a b c : D} {r : List D}
@[simp] theorem tix0 : hSubA l tab (.tup (a :: r)) (.int 0) = .ov (.ok (.im a)) := by
  simp [hSubA, hSub, gV, bIx, asS, L2.atI, ixN, Oh.or, Oh.bad]
@[simp] theorem tix1 : hSubA l tab (.tup (a :: b :: r)) (.int 1) = .ov (.ok (.im b)) := by
  have : (1 : Int) < (r.length : Int) + 1 + 1 := by omega
  simp [hSubA, hSub, gV, bIx, asS, L2.atI, ixN, Oh.or, Oh.bad, this]
@[simp] theorem tix2 : hSubA l tab (.tup (a :: b :: c :: r)) (.int 2) = .ov (.ok (.im c)) := by
  have : (2 : Int) < (r.length : Int) + 1 + 1 + 1 := by omega
  simp [hSubA, hSub, gV, bIx, asS, L2.atI, ixN, Oh.or, Oh.bad, this]
@[simp] theorem six0 : hSub (.tup (a :: r)) (.int 0) = .ov (.ok (.im a)) := by
  simp [hSub, gV, bIx, asS, L2.atI, ixN, Oh.or, Oh.bad]
@[simp] theorem six1 : hSub (.tup (a :: b :: r)) (.int 1) = .ov (.ok (.im b)) := by
  have : (1 : Int) < (r.length : Int) + 1 + 1 := by omega
  simp [hSub, gV, bIx, asS, L2.atI, ixN, Oh.or, Oh.bad, this]
@[simp] theorem six2 : hSub (.tup (a :: b :: c :: r)) (.int 2) = .ov (.ok (.im c)) := by
  have : (2 : Int) < (r.length : Int) + 1 + 1 + 1 := by omega
  simp [hSub, gV, bIx, asS, L2.atI, ixN, Oh.or, Oh.bad, this]
@[simp] theorem lix1 : hSub (.lst (a :: b :: r)) (.int 1) = .ov (.ok (.im b)) := by
  have : (1 : Int) < (r.length : Int) + 1 + 1 := by omega
  simp [hSub, gV, bIx, asS, asL, L2.atI, ixN, Oh.or, Oh.bad, this]
@[simp] theorem hInA_lstN {neg : Bool} {k : Str} {xs : List Str} : hInA neg .NotIn l tab (.str k) (.lst (strL xs)) = .ov (.ok (.im (.bl (!decide (k ∈ xs))))) := by
  show Oh.or (.ov (bCmp .NotIn (.str k) (.lst (strL xs)))) _ = _
  rw [pv_nin_strL]; rfl
end
@[simp] theorem sz_times {l : List (Nat × Fs)} : hInA true .NotIn l tabs.kds (.str "times") (.glo "SIZES") = .ov (.ok (.im (.bl false))) := rfl
@[simp] theorem sz_put {l : List (Nat × Fs)} : hInA true .NotIn l tabs.kds (.str "put") (.glo "SIZES") = .ov (.ok (.im (.bl false))) := rfl
@[simp] theorem sv_times {l : List (Nat × Fs)} : hSubA l tabs.kds (.glo "SIZES") (.str "times") = .ov (.ok (.im (.int 3))) := rfl
@[simp] theorem sv_put {l : List (Nat × Fs)} : hSubA l tabs.kds (.glo "SIZES") (.str "put") = .ov (.ok (.im (.int 3))) := rfl
@[simp] theorem mv_times {l : List (Nat × Fs)} : hInA false .In l tabs.kds (.str "times") (.tup [.str "pour", .str "copy", .str "swap"]) = .ov (.ok (.im (.bl false))) := rfl
@[simp] theorem mv_put {l : List (Nat × Fs)} : hInA false .In l tabs.kds (.str "put") (.tup [.str "pour", .str "copy", .str "swap"]) = .ov (.ok (.im (.bl false))) := rfl
@[simp] theorem mn_times : bCmp .NotIn (.str "times") (.tup [.str "pour", .str "copy", .str "swap"]) = .ok (.im (.bl true)) := rfl
@[simp] theorem mn_put : bCmp .NotIn (.str "put") (.tup [.str "pour", .str "copy", .str "swap"]) = .ok (.im (.bl true)) := rfl
/-- a deed -/
inductive Dd where
  | times (r : Str) (n : Int) | put (r : Str) (l : HL)
def Dd.d : Dd → D
  | .times r n => .tup [.str "times", .str r, .int n]
  | .put r l => .tup [.str "put", .str r, hp l]
def DdOk (cs : List (Str × Option HL)) (rooms : List Str) : Dd → Prop
  | .times r n => r ∈ rooms ∧ 0 ≤ n ∧ n ≤ 1000000
  | .put r l => r ∈ rooms ∧ HpOk l ∧ l.length < 32 ∧ ∀ k ∈ ksN l, k ∈ ksG cs
theorem is_deed_ok {cs : List (Str × Option HL)} {rooms : List Str} {x : Dd} (h : DdOk cs rooms x) : S_is_deed.F [bk cs, .lst (strL rooms), x.d] = .ok (.im (.bl true)) [] := by
  cases x with
  | times r n =>
    obtain ⟨h1, h2, h3⟩ := h
    simp [F_is_deed, d_is_deed, st_run, Dd.d, h1, h2, h3]
  | put r l =>
    obtain ⟨h1, h2, h3, h4⟩ := h
    have e := is_heap_of_hp (cs := cs) h2 (by omega)
    have e4 : decide (∀ k ∈ ksN l, k ∈ ksG cs) = true := decide_eq_true h4
    rw [e4] at e
    simp [F_is_deed, d_is_deed, st_run, Dd.d, h1, e]
def gH (hs : List (Str × HL)) (r : Str) : HL := (gO hs r).getD []
def putG {α : Type} (l : List (Str × α)) (k : Str) (v : α) : List (Str × α) := if k ∈ ksG l then l.map (fun q => if q.1 = k then (q.1, v) else q) else l ++ [(k, v)]
theorem putD_dG {α : Type} (f : α → D) (l : List (Str × α)) (k : Str) (v : α) : putD (dG f l) (.inr k) (f v) = dG f (putG l k v) := by
  unfold putG
  by_cases h : k ∈ ksG l
  · rw [if_pos h]
    unfold putD
    rw [if_pos]
    · unfold dG
      rw [List.map_map, List.map_map]
      refine List.map_congr_left fun q _ => ?_
      by_cases hq : q.1 = k
      · simp [hq]
      · have : (Sum.inr q.1 : Key) ≠ Sum.inr k := fun z => hq (Sum.inr.inj z)
        simp [hq, this]
    · obtain ⟨i, _, m⟩ := gO_mem h
      rw [List.any_eq_true]
      exact ⟨(.inr k, f i), List.mem_map.mpr ⟨(k, i), m, rfl⟩, by simp⟩
  · rw [if_neg h, putD_new]
    · simp [dG]
    · intro z
      simp only [dG, List.map_map] at z
      obtain ⟨q, hq, e⟩ := List.mem_map.mp z
      have e : q.1 = k := Sum.inr.inj e
      exact h (List.mem_map.mpr ⟨q, hq, e⟩)
theorem putG_keys {α : Type} {l : List (Str × α)} {k : Str} {v : α} (h : k ∈ ksG l) : ksG (putG l k v) = ksG l := by
  unfold putG
  rw [if_pos h]
  unfold ksG
  rw [List.map_map]
  refine List.map_congr_left fun q _ => ?_
  by_cases hq : q.1 = k <;> simp [hq]
theorem updG_gO {α : Type} {k k' : Str} {v : α} : ∀ l : List (Str × α), gO (l.map fun q => if q.1 = k then (q.1, v) else q) k' = if k = k' then (gO l k').map (fun _ => v) else gO l k'
  | [] => by simp [gO]
  | (x, i) :: l => by
    rw [List.map_cons]
    by_cases hx : x = k
    · subst hx
      simp only [if_true]
      rw [gO_cons, gO_cons, updG_gO l]
      by_cases h : x = k' <;> simp [h]
    · simp only [hx, if_false]
      rw [gO_cons, gO_cons, updG_gO l]
      by_cases h : k = k'
      · subst h; simp [hx]
      · simp [h]
theorem putG_gO {α : Type} {k k' : Str} {v : α} {l : List (Str × α)} (h : k ∈ ksG l) : gO (putG l k v) k' = if k = k' then some v else gO l k' := by
  unfold putG
  rw [if_pos h, updG_gO]
  by_cases e : k = k'
  · subst e
    obtain ⟨i, e, _⟩ := gO_mem h
    simp [e]
  · simp [e]
def stepD (hs : List (Str × HL)) : Dd → List (Str × HL)
  | .times r n => putG hs r (mulH n (gH hs r))
  | .put r l => putG hs r (addH (gH hs r) l)
structure HsOk (cs : List (Str × Option HL)) (rooms : List Str) (hs : List (Str × HL)) : Prop where
  ky : ksG hs = rooms
  ok : ∀ r l, gO hs r = some l → HpOk l ∧ ∀ k ∈ ksN l, k ∈ ksG cs
theorem HsOk.get {cs : List (Str × Option HL)} {rooms : List Str} {hs : List (Str × HL)} (h : HsOk cs rooms hs) (hz : cs.length ≤ 8) {r : Str} (hr : r ∈ rooms) : ∃ l, gO hs r = some l ∧ gH hs r = l ∧ HpOk l ∧ (∀ k ∈ ksN l, k ∈ ksG cs) ∧ l.length ≤ 8 := by
  obtain ⟨l, e, _⟩ := gO_mem (show r ∈ ksG hs by rw [h.ky]; exact hr)
  obtain ⟨h1, h2⟩ := h.ok r l e
  refine ⟨l, e, by rw [gH, e]; rfl, h1, h2, ?_⟩
  have := nodup_len h1.nd h2
  rw [ksN_len, ksG_len] at this
  omega
theorem addH_keys {l r : HL} {k : Str} (h : k ∈ ksN (addH l r)) : k ∈ ksN l ∨ k ∈ ksN r := by
  unfold addH at h
  rw [mkH_keys, tabF_keys] at h
  have := sortS_mem.mp (List.mem_filter.mp h).1
  rcases ddS_mem.mp this with z | z
  · cases z
  · exact List.mem_append.mp z
theorem mulH_keys {n : Int} {l : HL} {k : Str} (h : k ∈ ksN (mulH n l)) : k ∈ ksN l := by
  unfold mulH at h
  rw [mkH_keys, tabF_keys] at h
  exact sortS_mem.mp (List.mem_filter.mp h).1
theorem cmul_of {n i : Int} (h0 : 0 ≤ n) (h : n ≤ 1000000) : CMul n i := Or.inl ⟨by omega, by omega⟩
theorem done_ok {cs : List (Str × Option HL)} {rooms : List Str} {hs : List (Str × HL)} {x : Dd} (hz : cs.length ≤ 8) (hr : rooms.length ≤ 4) (h : HsOk cs rooms hs) (hx : DdOk cs rooms x) : S_done.F [bk cs, .dic (dG hp hs), x.d] = .ok (.ow (.dic (dG hp (stepD hs x)))) [] ∧ HsOk cs rooms (stepD hs x) := by
  have hlen : hs.length ≤ 4 := by
    have := congrArg List.length h.ky
    rw [ksG_len] at this
    omega
  have hlt : hs.length < 16777216 := by omega
  cases x with
  | times r n =>
    obtain ⟨h1, h2, h3⟩ := hx
    obtain ⟨l, e, e2, ok, ks, z⟩ := h.get hz h1
    have hm := heap_rmul (n := n) h2 ok (by omega) (fun k => cmul_of h2 h3)
    have ha : S_done_alone.F [bk cs, hp l, .tup [.str "times", .str r, .int n]] = .ok (.ow (hp (mulH n l))) [] := by
      simp [F_done_alone, d_done_alone, st_run, hMul_int, hm]
    constructor
    · have hp1 := putD_dG hp hs r (mulH n l)
      simp [F_done, d_done, st_run, Dd.d, bDict, valD_dG, e, ha, hp1, hlt, stepD, e2]
    · have hk : r ∈ ksG hs := by rw [h.ky]; exact h1
      refine ⟨by rw [stepD, putG_keys hk, h.ky], fun r' l' hl' => ?_⟩
      rw [stepD, putG_gO hk] at hl'
      split at hl'
      · cases hl'
        rw [e2]
        exact ⟨mulH_ok h2 ok (by omega), fun k hk => ks k (mulH_keys hk)⟩
      · exact h.ok r' l' hl'
  | put r l2 =>
    obtain ⟨h1, h2, h3, h4⟩ := hx
    obtain ⟨l, e, e2, ok, ks, z⟩ := h.get hz h1
    have hm := heap_add ok h2 (by omega)
    have ha : S_done_alone.F [bk cs, hp l, .tup [.str "put", .str r, hp l2]] = .ok (.ow (hp (addH l l2))) [] := by
      simp [F_done_alone, d_done_alone, st_run, hAdd_ins, hm]
    constructor
    · have hp1 := putD_dG hp hs r (addH l l2)
      simp [F_done, d_done, st_run, Dd.d, bDict, valD_dG, e, ha, hp1, hlt, stepD, e2]
    · have hk : r ∈ ksG hs := by rw [h.ky]; exact h1
      refine ⟨by rw [stepD, putG_keys hk, h.ky], fun r' l' hl' => ?_⟩
      rw [stepD, putG_gO hk] at hl'
      split at hl'
      · cases hl'
        rw [e2]
        exact ⟨addH_ok ok h2 (by omega), fun k hk => (addH_keys hk).elim (ks k) (h4 k)⟩
      · exact h.ok r' l' hl'
end Pu
namespace Pu
open PySem PySem.Spec PyProof.Rows L2
theorem forL_keep {g : GF} {body : SF} {P : Rho → Prop} (ds : List D) (ρ : Rho) (hp : P ρ) (h : ∀ d ∈ ds, ∀ ρ, P ρ → ∃ ρ1 ρ2, g (.im d) ρ = some ρ1 ∧ body ρ1 = .nx ρ2 ∧ P ρ2) : ∃ ρ', forL g body ds ρ = .nx ρ' ∧ P ρ' :=
  forL_acc (P := fun (_ : Unit) ρ => P ρ) (fun a _ => a) ds () ρ hp fun d hd _ ρ hp => h d hd ρ hp
theorem enumD_mem {ds : List D} {d : D} (h : d ∈ enumD 0 ds) : ∃ (i : Nat) (x : D), ds[i]? = some x ∧ d = .tup [.int (i : Int), x] := by
  obtain ⟨i, hi⟩ := List.mem_iff_getElem?.mp h
  rw [enumD_get] at hi
  obtain ⟨x, e, rfl⟩ := Option.map_eq_some_iff.mp hi
  exact ⟨i, x, e, by simp⟩
@[simp] theorem as_lst {l : List D} : asS (.lst l) = some l := rfl
@[simp] theorem as_tup {l : List D} : asS (.tup l) = some l := rfl
@[simp] theorem sl_lst {l : List D} {lo hi : Option Int} : bSl (.lst l) lo hi = some (.ow (.lst (cutD l lo hi))) := rfl
theorem cut_take {l : List D} {i : Nat} (h : i ≤ l.length) : cutD l none (some (i : Int)) = l.take i := by
  unfold cutD
  simp only [HT.sIx]
  rw [if_neg (by omega)]
  simp only [List.drop_zero, Nat.sub_zero, Int.toNat_natCast]
  rw [Nat.min_eq_left h]
theorem strL_take {l : List Str} {i : Nat} : (strL l).take i = strL (l.take i) := (List.map_take).symm
theorem strL_get {l : List Str} {i : Nat} {d : D} (h : (strL l)[i]? = some d) : ∃ x, l[i]? = some x ∧ d = .str x := by
  unfold strL at h
  rw [List.getElem?_map] at h
  obtain ⟨x, e, rfl⟩ := Option.map_eq_some_iff.mp h
  exact ⟨x, e, rfl⟩
theorem nodup_take {l : List Str} (h : l.Nodup) {i : Nat} {x : Str} (e : l[i]? = some x) : x ∉ l.take i := by
  intro hx
  obtain ⟨j, hj⟩ := List.mem_iff_getElem?.mp hx
  rw [List.getElem?_take] at hj
  split at hj
  · rename_i hlt
    obtain ⟨hi, e1⟩ := List.getElem?_eq_some_iff.mp e
    obtain ⟨hj', e2⟩ := List.getElem?_eq_some_iff.mp hj
    exact List.pairwise_iff_getElem.mp h j i hj' hi hlt (by rw [e1, e2])
  · cases hj
abbrev scD (cs : List (Str × Option HL)) (rooms : List Str) (ds : List Dd) : D := .ins 3 [(6, bk cs), (15, .lst (strL rooms)), (14, .lst (ds.map Dd.d))]
structure ScIn (cs : List (Str × Option HL)) (rooms : List Str) (ds : List Dd) : Prop where
  nd : rooms.Nodup
  nm : ∀ r ∈ rooms, nameB r = true
  l1 : 1 ≤ rooms.length
  l4 : rooms.length ≤ 4
  d12 : ds.length ≤ 12
  ok : ∀ x ∈ ds, DdOk cs rooms x
theorem script_init {cs : List (Str × Option HL)} {rooms : List Str} {ds : List Dd} (h : ScIn cs rooms ds) : runF 7 [true, false, false, false] d_Script___init__ [.ins 3 [], bk cs, .lst (strL rooms), .tup (ds.map Dd.d)] = .ok (.im .non) [scD cs rooms ds] := by
  have r1 : (1 : Int) ≤ rooms.length := by have := h.l1; omega
  have r4 : (rooms.length : Int) ≤ 4 := by have := h.l4; omega
  have d12 : ¬ (12 < (ds.length : Int)) := by have := h.d12; omega
  simp only [d_Script___init__, st_run, ev_seq]
  simp
  rw [forL_chk (by intro s hs; cases hs; rfl) (by simp) (fun d hd => by
    obtain ⟨k, hk, rfl⟩ := strL_mem hd
    simp [is_name_t (h.nm k hk)])]
  simp
  generalize hs : lastS _ _ _ = s
  have hc : s.hot = false := by subst hs; exact lastS_hot (by intro s hs; cases hs; rfl)
  clear hs
  generalize hb : sSeq (sIf (tBl (eOp (fun a b => Oh.ov (bCmp .In a b)) _ _)) _ _) _ = body
  obtain ⟨ρ', e, s4, s5, rfl, c4, c5⟩ := forL_keep (g := gTupD [gNam 5, gNam 4]) (body := body) (P := fun ρ => ∃ s4 s5, ρ = [.mu (.ins 3 []), .im (bk cs), .im (.lst (strL rooms)), .im (.tup (ds.map Dd.d)), s4, s5, .no] ∧ s4.hot = false ∧ s5.hot = false)
    (enumD 0 (strL rooms)) [.mu (.ins 3 []), .im (bk cs), .im (.lst (strL rooms)), .im (.tup (ds.map Dd.d)), s, .no, .no] ⟨_, _, rfl, hc, rfl⟩ (by
    rintro d hd ρ ⟨s4, s5, rfl, c4, c5⟩
    obtain ⟨i, x, hx, rfl⟩ := enumD_mem hd
    obtain ⟨x, hx2, rfl⟩ := strL_get hx
    have hi : i ≤ (strL rooms).length := by
      have := (List.getElem?_eq_some_iff.mp hx2).1
      simp; omega
    subst hb
    refine ⟨[.mu (.ins 3 []), .im (bk cs), .im (.lst (strL rooms)), .im (.tup (ds.map Dd.d)), .im (.str x), .im (.int i), .no], [.mu (.ins 3 []), .im (bk cs), .im (.lst (strL rooms)), .im (.tup (ds.map Dd.d)), .im (.str x), .im (.int i), .no], ?_, ?_, _, _, rfl, rfl, rfl⟩
    · cases s4 <;> first | (cases c4; done) | (cases s5 <;> first | (cases c5; done) | simp)
    · have hn := nodup_take h.nd hx2
      simp [cut_take hi, strL_take, pv_in_strL, hn])
  rw [e]
  simp [r1, r4, d12]
  clear hb e
  generalize hb : sSeq (sIf (tNotF (tVal (eCall S_is_deed _))) _ _) _ = body
  obtain ⟨ρ', e, s5', s6, rfl, c5', c6⟩ := forL_keep (g := gTupD [gNam 5, gNam 6]) (body := body) (P := fun ρ => ∃ s5 s6, ρ = [.mu (.ins 3 []), .im (bk cs), .im (.lst (strL rooms)), .im (.tup (ds.map Dd.d)), s4, s5, s6] ∧ s5.hot = false ∧ s6.hot = false)
    (enumD 0 (ds.map Dd.d)) [.mu (.ins 3 []), .im (bk cs), .im (.lst (strL rooms)), .im (.tup (ds.map Dd.d)), s4, s5, .no] ⟨_, _, rfl, c5, rfl⟩ (by
    rintro d hd ρ ⟨s5, s6, rfl, c5, c6⟩
    obtain ⟨i, x, hx, rfl⟩ := enumD_mem hd
    rw [List.getElem?_map] at hx
    obtain ⟨x, hx2, rfl⟩ := Option.map_eq_some_iff.mp hx
    have ok := h.ok x (List.mem_of_getElem? hx2)
    subst hb
    refine ⟨[.mu (.ins 3 []), .im (bk cs), .im (.lst (strL rooms)), .im (.tup (ds.map Dd.d)), s4, .im (.int i), .im x.d], [.mu (.ins 3 []), .im (bk cs), .im (.lst (strL rooms)), .im (.tup (ds.map Dd.d)), s4, .im (.int i), .im x.d], ?_, ?_, _, _, rfl, rfl, rfl⟩
    · cases s5 <;> first | (cases c5; done) | (cases s6 <;> first | (cases c6; done) | simp)
    · simp [is_deed_ok ok])
  rw [e]
  simp [putFD]
theorem script_rooms {cs : List (Str × Option HL)} {rooms : List Str} {ds : List Dd} : S_Script_rooms.F [scD cs rooms ds] = .ok (.ow (.lst (strL rooms))) [] := by
  simp [F_Script_rooms, d_Script_rooms, st_run]
end Pu
namespace Pu
open PySem PySem.Spec PyProof.Rows L2
theorem forL_accM {g : GF} {body : SF} {α β : Type} {P : α → Rho → Prop} (f : β → D) (st : α → β → α) : ∀ (xs : List β) (a : α) (ρ : Rho), P a ρ → (∀ x ∈ xs, ∀ a ρ, P a ρ → ∃ ρ1 ρ2, g (.im (f x)) ρ = some ρ1 ∧ body ρ1 = .nx ρ2 ∧ P (st a x) ρ2) → ∃ ρ', forL g body (xs.map f) ρ = .nx ρ' ∧ P (xs.foldl st a) ρ'
  | [], a, ρ, hp, _ => ⟨ρ, rfl, hp⟩
  | d :: ds, a, ρ, hp, h => by
    obtain ⟨ρ1, ρ2, e1, e2, h2⟩ := h d List.mem_cons_self a ρ hp
    obtain ⟨ρ', e, h'⟩ := forL_accM f st ds (st a d) ρ2 h2 fun x hx => h x (List.mem_cons_of_mem _ hx)
    refine ⟨ρ', ?_, h'⟩
    rw [List.map_cons]
    unfold forL
    rw [e1]
    simp only []
    rw [e2]
    exact e
structure StOk (cs : List (Str × Option HL)) (rooms : List Str) (st : List (Str × HL)) : Prop where
  ky : ∀ r ∈ ksG st, r ∈ rooms
  sz : st.length ≤ 8
  ok : ∀ r l, gO st r = some l → HpOk l ∧ ∀ k ∈ ksN l, k ∈ ksG cs
def heaps0 (rooms : List Str) (st : List (Str × HL)) : List (Str × HL) := rooms.map fun r => (r, gH st r)
theorem heaps0_gO {st : List (Str × HL)} {r : Str} : ∀ {rooms : List Str}, gO (heaps0 rooms st) r = if r ∈ rooms then some (gH st r) else none
  | [] => rfl
  | x :: rooms => by
    show gO ((x, gH st x) :: heaps0 rooms st) r = _
    rw [gO_cons, heaps0_gO]
    by_cases h : x = r
    · subst h; simp
    · have : ¬ r = x := fun z => h z.symm
      simp [h, this]
theorem heaps0_ok {cs : List (Str × Option HL)} {rooms : List Str} {st : List (Str × HL)} (h : StOk cs rooms st) : HsOk cs rooms (heaps0 rooms st) := by
  refine ⟨by simp [heaps0, ksG, Function.comp_def], fun r l hl => ?_⟩
  rw [heaps0_gO] at hl
  split at hl
  · cases hl
    unfold gH
    cases e : gO st r with
    | none => exact ⟨hp_nil, fun k hk => nomatch hk⟩
    | some l => exact h.ok r l e
  · cases hl
theorem run_ok {cs : List (Str × Option HL)} {rooms : List Str} {ds : List Dd} {st : List (Str × HL)} (hz : cs.length ≤ 8) (hi : ScIn cs rooms ds) (h : StOk cs rooms st) : S_Script_run.F [scD cs rooms ds, .dic (dG hp st)] = .ok (.ow (.dic (dG hp (ds.foldl stepD (heaps0 rooms st))))) [] ∧ HsOk cs rooms (ds.foldl stepD (heaps0 rooms st)) := by
  have hs := h.sz
  have hr := hi.l4
  simp only [F_Script_run, d_Script_run, st_run, ev_seq]
  simp
  rw [forL_chk (by intro s hs; cases hs; rfl) (by simp) (fun d hd => by
    obtain ⟨k, hk, rfl⟩ := strL_mem hd
    simp [pv_nin_strL, h.ky k hk])]
  simp
  generalize hs2 : lastS _ _ _ = s
  have hc : s.hot = false := by subst hs2; exact lastS_hot (by intro s hs; cases hs; rfl)
  clear hs2
  simp [hc]
  rw [lcGo_of (fun d => some .non)]
  rotate_left
  · intro d hd
    obtain ⟨k, hk, rfl⟩ := strL_mem hd
    obtain ⟨l, e, m⟩ := gO_mem hk
    obtain ⟨ok, ks⟩ := h.ok k l e
    have z : l.length < 64 := by
      have := nodup_len ok.nd ks
      rw [ksN_len, ksG_len] at this
      omega
    have hu := book_unknown (cs := cs) ok z
    have e2 : (ksN l).filter (fun k => !decide (k ∈ ksG cs)) = [] := by
      rw [List.filter_eq_nil_iff]
      intro k hk
      simp [ks k hk]
    rw [e2] at hu
    simp [firstD] at hu
    simp [lcStep, bindD, valD_dG, e, hu]
  · simp; omega
  have hz1 : (strL (ksG st)).filterMap (fun _ => some D.non) = List.replicate st.length .non := by
    rw [List.filterMap_eq_map']
    rw [List.map_const', strL_len, ksG_len]
  rw [hz1]
  simp
  rw [lcGo_of (fun d => none)]
  rotate_left
  · intro d hd
    rw [List.eq_of_mem_replicate hd]
    simp [lcStep, bindD]
  · simp; omega
  have hz2 : ∀ l : List D, l.filterMap (fun _ => (none : Option D)) = [] := fun l => by
    induction l with
    | nil => rfl
    | cons x r ih => exact ih
  rw [hz2]
  simp [neq_nil, hc]
  rw [dcGo_of (fun d => match d with
    | .str k => some (.inr k, hp (gH st k))
    | _ => none)]
  rotate_left
  · intro d hd
    obtain ⟨k, hk, rfl⟩ := strL_mem hd
    have e : ((Option.map (fun l => hp l) (gO st k)).getD (hp [])) = hp (gH st k) := by
      unfold gH
      cases gO st k <;> rfl
    simp [dcStep, bindD, keyD, heap_new0, tyD, bGet, valD_dG, e]
  · simp; omega
  have := fold_putG hp (fun k => some (gH st k)) (fun d => match d with
      | .str k => some (.inr k, hp (gH st k))
      | _ => none) rooms [] (fun k _ => rfl) hi.nd (fun _ _ z => nomatch z)
  rw [show dG hp [] = [] from rfl] at this
  rw [this]
  have e0 : ([] ++ rooms.filterMap fun k => (some (gH st k)).map fun i => (k, i)) = heaps0 rooms st := by
    rw [List.nil_append]
    simp only [Option.map_some]
    rw [List.filterMap_eq_map']
    rfl
  rw [e0]
  simp
  generalize hb : sSeq (sAsg (gNam 5) _) _ = body
  obtain ⟨ρ', e, s2, s3, s4, s6, s7, rfl, c6, ok⟩ := forL_accM (g := gNam 6) (body := body) (P := fun hs ρ => ∃ s2 s3 s4 s6 s7, ρ = [.im (scD cs rooms ds), .im (.dic (dG hp st)), s2, s3, s4, .ow (.dic (dG hp hs)), s6, s7] ∧ s6.hot = false ∧ HsOk cs rooms hs)
    Dd.d stepD ds (heaps0 rooms st) [.im (scD cs rooms ds), .im (.dic (dG hp st)), s, .im (.lst (List.replicate st.length .non)), .ow (.lst []), .ow (.dic (dG hp (heaps0 rooms st))), .no, .no] ⟨_, _, _, _, _, rfl, rfl, heaps0_ok h⟩ (by
    rintro x hx hs ρ ⟨s2, s3, s4, s6, s7, rfl, c6, ok⟩
    obtain ⟨d1, d2⟩ := done_ok hz hr ok (hi.ok x hx)
    subst hb
    refine ⟨[.im (scD cs rooms ds), .im (.dic (dG hp st)), s2, s3, s4, .ow (.dic (dG hp hs)), .im x.d, s7], [.im (scD cs rooms ds), .im (.dic (dG hp st)), s2, s3, s4, .ow (.dic (dG hp (stepD hs x))), .im x.d, s7], ?_, ?_, _, _, _, _, _, rfl, rfl, d2⟩
    · cases s6 <;> first | (cases c6; done) | simp
    · simp [d1])
  rw [e]
  simp
  exact ok
end Pu
namespace Pu
open PySem PySem.Spec PyProof.Rows L2
theorem hEqA_N {l : List (Nat × Fs)} {a b : D} {k : Bool} (h : bEq a b = some k) : hEqA true .NotEq l a b = .ov (.ok (.im (.bl (!k)))) := by
  show Oh.or (.ov (obl true (bEq a b))) _ = _
  rw [h]; rfl
theorem hEqA_E {neg : Bool} {l : List (Nat × Fs)} {a b : D} {k : Bool} (h : bEq a b = some k) : hEqA neg .Eq l a b = .ov (.ok (.im (.bl k))) := by
  show Oh.or (.ov (obl false (bEq a b))) _ = _
  rw [h]; rfl
abbrev dfD (one other st r w : D) : D := .ins 4 [(19, one), (13, other), (18, st), (17, r), (16, w)]
theorem differ_init {o o' st r w : D} : runF 6 [true, false, false, false, false, false] d_Differ___init__ [.ins 4 [], o, o', st, r, w] = .ok (.im .non) [dfD o o' st r w] := by
  simp [d_Differ___init__, st_run, putFD]
theorem differ_new {o o' st r w : D} : mkO 4 S_Differ___init__.F [o, o', st, r, w] = .ok (.ow (dfD o o' st r w)) [] := by
  unfold mkO
  rw [F_Differ___init__, differ_init]
section
variable {cs cs' : List (Str × Option HL)} {rooms rooms' : List Str} {ds ds' : List Dd} {st r w : D}
theorem holds_book (h : S_Book___eq__.F [bk cs', bk cs] = .ok (.im (.bl false)) []) : S_Differ_holds.F [dfD (scD cs rooms ds) (scD cs' rooms' ds') st r w] = .ok (.im (.bl false)) [] := by
  simp [F_Differ_holds, d_Differ_holds, st_run, script_rooms, blF_ok h]
theorem holds_rooms (h : S_Book___eq__.F [bk cs', bk cs] = .ok (.im (.bl true)) []) (h2 : bEq (.lst (strL rooms')) (.lst (strL rooms)) = some false) : S_Differ_holds.F [dfD (scD cs rooms ds) (scD cs' rooms' ds') st r w] = .ok (.im (.bl false)) [] := by
  simp [F_Differ_holds, d_Differ_holds, st_run, script_rooms, blF_ok h, hEqA_N h2]
theorem holds_start {t : Nat} (h : S_Book___eq__.F [bk cs', bk cs] = .ok (.im (.bl true)) []) (h2 : bEq (.lst (strL rooms)) (.lst (strL rooms)) = some true) (h3 : tagD st = some t) (h4 : t ≠ 3) : S_Differ_holds.F [dfD (scD cs rooms ds) (scD cs' rooms ds') st r w] = .ok (.im (.bl false)) [] := by
  simp [F_Differ_holds, d_Differ_holds, st_run, script_rooms, blF_ok h, hEqA_N h2, h3, h4]
/-- the loop over the starts -/
theorem holds_loop {st : List (Str × D)} {g : Str → Bool} (h : S_Book___eq__.F [bk cs', bk cs] = .ok (.im (.bl true)) []) (h2 : bEq (.lst (strL rooms)) (.lst (strL rooms)) = some true)
    (hg : ∀ k v, gO st k = some v → S_is_heap_of.F [bk cs, v] = .ok (.im (.bl (g k))) []) (hb : (ksG st).all (fun k => decide (k ∈ rooms) && g k) = false) : S_Differ_holds.F [dfD (scD cs rooms ds) (scD cs' rooms ds') (.dic (dG id st)) r w] = .ok (.im (.bl false)) [] := by
  simp [F_Differ_holds, d_Differ_holds, st_run, script_rooms, blF_ok h, hEqA_N h2]
  generalize hbd : sSeq (sIf (tOrF (tNotF (tVal (eIsi _ (eVar 3)))) _) _ _) _ = body
  have key := forL_find (g := gNam 3) (body := body) (P := fun ρ => ∃ s3, ρ = [.im (dfD (scD cs rooms ds) (scD cs' rooms ds') (.dic (dG id st)) r w), .im (bk cs), .ow (.lst (strL rooms)), s3, .no, .no] ∧ s3.hot = false)
    (good := fun d => match d with
      | .str k => decide (k ∈ rooms) && g k
      | _ => false) (R := fun x => ∃ ρ, x = .rt (.im (.bl false)) ρ) (by rintro x ⟨ρ, rfl⟩; exact ⟨_, _, rfl⟩) (strL (ksG st)) [.im (dfD (scD cs rooms ds) (scD cs' rooms ds') (.dic (dG id st)) r w), .im (bk cs), .ow (.lst (strL rooms)), .no, .no, .no] ⟨_, rfl, rfl⟩ (by
    rintro d hd ρ ⟨s3, rfl, c3⟩
    obtain ⟨k, hk, rfl⟩ := strL_mem hd
    obtain ⟨v, e, m⟩ := gO_mem hk
    subst hbd
    refine ⟨[.im (dfD (scD cs rooms ds) (scD cs' rooms ds') (.dic (dG id st)) r w), .im (bk cs), .ow (.lst (strL rooms)), .im (.str k), .no, .no], ?_, ?_⟩
    · cases s3 <;> first | (cases c3; done) | simp
    · have hv := hg k v e
      by_cases hr : k ∈ rooms
      · cases hgk : g k with
        | true =>
          rw [if_pos (by simp [hr, hgk])]
          rw [hgk] at hv
          exact ⟨_, by simp [pv_nin_strL, hr, valD_dG, e, hv]; rfl, _, rfl, rfl⟩
        | false =>
          rw [if_neg (by simp [hr, hgk])]
          rw [hgk] at hv
          exact ⟨_, by simp [pv_nin_strL, hr, valD_dG, e, hv]; rfl⟩
      · rw [if_neg (by simp [hr])]
        exact ⟨_, by simp [pv_nin_strL, hr]; rfl⟩)
  have ea : (strL (ksG st)).all (fun d => match d with
      | .str k => decide (k ∈ rooms) && g k
      | _ => false) = (ksG st).all (fun k => decide (k ∈ rooms) && g k) := by
    unfold strL
    rw [List.all_map]
    rfl
  rw [ea, hb] at key
  obtain ⟨ρ, e⟩ := key
  rw [e]
  simp
theorem holds_room {r w : D} {st : List (Str × HL)} {t : Nat} (hz : cs.length ≤ 8) (h : S_Book___eq__.F [bk cs', bk cs] = .ok (.im (.bl true)) []) (h2 : bEq (.lst (strL rooms)) (.lst (strL rooms)) = some true) (hs : StOk cs rooms st) (h3 : tagD r = some t) (h4 : t ≠ 0) : S_Differ_holds.F [dfD (scD cs rooms ds) (scD cs' rooms ds') (.dic (dG hp st)) r w] = .ok (.im (.bl false)) [] := by
  have hrun := hs
  simp only [F_Differ_holds, d_Differ_holds, st_run, ev_seq]
  simp [script_rooms, blF_ok h, hEqA_N h2]
  rw [forL_chk (by intro s hs; cases hs; rfl) (by simp) (fun d hd => by
    obtain ⟨k, hk, rfl⟩ := strL_mem hd
    obtain ⟨l, e, m⟩ := gO_mem hk
    obtain ⟨ok, ks⟩ := hs.ok k l e
    have z : l.length < 64 := by
      have := nodup_len ok.nd ks
      rw [ksN_len, ksG_len] at this
      omega
    have hh := is_heap_of_hp (cs := cs) ok z
    have e4 : decide (∀ k ∈ ksN l, k ∈ ksG cs) = true := decide_eq_true ks
    rw [e4] at hh
    simp [pv_nin_strL, hs.ky k hk, valD_dG, e, hh])]
  simp [h3, h4]
theorem holds_room2 {x : Str} {w : D} {st : List (Str × HL)} (hz : cs.length ≤ 8) (h : S_Book___eq__.F [bk cs', bk cs] = .ok (.im (.bl true)) []) (h2 : bEq (.lst (strL rooms)) (.lst (strL rooms)) = some true) (hs : StOk cs rooms st) (h3 : x ∉ rooms) : S_Differ_holds.F [dfD (scD cs rooms ds) (scD cs' rooms ds') (.dic (dG hp st)) (.str x) w] = .ok (.im (.bl false)) [] := by
  have hrun := hs
  simp only [F_Differ_holds, d_Differ_holds, st_run, ev_seq]
  simp [script_rooms, blF_ok h, hEqA_N h2]
  rw [forL_chk (by intro s hs; cases hs; rfl) (by simp) (fun d hd => by
    obtain ⟨k, hk, rfl⟩ := strL_mem hd
    obtain ⟨l, e, m⟩ := gO_mem hk
    obtain ⟨ok, ks⟩ := hs.ok k l e
    have z : l.length < 64 := by
      have := nodup_len ok.nd ks
      rw [ksN_len, ksG_len] at this
      omega
    have hh := is_heap_of_hp (cs := cs) ok z
    have e4 : decide (∀ k ∈ ksN l, k ∈ ksG cs) = true := decide_eq_true ks
    rw [e4] at hh
    simp [pv_nin_strL, hs.ky k hk, valD_dG, e, hh])]
  simp [pv_nin_strL, h3]
theorem holds_worths {x : Str} {w : D} {st : List (Str × HL)} (hz : cs.length ≤ 8) (h : S_Book___eq__.F [bk cs', bk cs] = .ok (.im (.bl true)) []) (h2 : bEq (.lst (strL rooms)) (.lst (strL rooms)) = some true) (hs : StOk cs rooms st) (h3 : x ∈ rooms) (h4 : S_is_honest_list.F [bk cs, w] = .ok (.im (.bl false)) []) : S_Differ_holds.F [dfD (scD cs rooms ds) (scD cs' rooms ds') (.dic (dG hp st)) (.str x) w] = .ok (.im (.bl false)) [] := by
  have hrun := hs
  simp only [F_Differ_holds, d_Differ_holds, st_run, ev_seq]
  simp [script_rooms, blF_ok h, hEqA_N h2]
  rw [forL_chk (by intro s hs; cases hs; rfl) (by simp) (fun d hd => by
    obtain ⟨k, hk, rfl⟩ := strL_mem hd
    obtain ⟨l, e, m⟩ := gO_mem hk
    obtain ⟨ok, ks⟩ := hs.ok k l e
    have z : l.length < 64 := by
      have := nodup_len ok.nd ks
      rw [ksN_len, ksG_len] at this
      omega
    have hh := is_heap_of_hp (cs := cs) ok z
    have e4 : decide (∀ k ∈ ksN l, k ∈ ksG cs) = true := decide_eq_true ks
    rw [e4] at hh
    simp [pv_nin_strL, hs.ky k hk, valD_dG, e, hh])]
  simp [pv_nin_strL, h3, h4]
theorem holds_full {x : Str} {cw : List (Str × Option HL)} {m : Int} {t : HL} {st : List (Str × HL)} (hz : cs.length ≤ 8) (h : S_Book___eq__.F [bk cs', bk cs] = .ok (.im (.bl true)) []) (h2 : bEq (.lst (strL rooms)) (.lst (strL rooms)) = some true) (hs : StOk cs rooms st) (h3 : x ∈ rooms) (h4 : S_is_honest_list.F [bk cs, wl cw m t] = .ok (.im (.bl true)) [])
    {f1 f2 : List (Str × HL)} {l1 l2 : HL} {v1 v2 : Int} (r1 : S_Script_run.F [scD cs rooms ds, .dic (dG hp st)] = .ok (.ow (.dic (dG hp f1))) []) (r2 : S_Script_run.F [scD cs' rooms ds', .dic (dG hp st)] = .ok (.ow (.dic (dG hp f2))) [])
    (g1 : gO f1 x = some l1) (g2 : gO f2 x = some l2) (w1 : S_WorthList_worth_of.F [wl cw m t, hp l1] = .ok (.im (.int v1)) []) (w2 : S_WorthList_worth_of.F [wl cw m t, hp l2] = .ok (.im (.int v2)) []) :
    S_Differ_holds.F [dfD (scD cs rooms ds) (scD cs' rooms ds') (.dic (dG hp st)) (.str x) (wl cw m t)] = .ok (.im (.bl (!decide (v1 = v2)))) [] := by
  have hrun := hs
  simp only [F_Differ_holds, d_Differ_holds, st_run, ev_seq]
  simp [script_rooms, blF_ok h, hEqA_N h2]
  rw [forL_chk (by intro s hs; cases hs; rfl) (by simp) (fun d hd => by
    obtain ⟨k, hk, rfl⟩ := strL_mem hd
    obtain ⟨l, e, m⟩ := gO_mem hk
    obtain ⟨ok, ks⟩ := hs.ok k l e
    have z : l.length < 64 := by
      have := nodup_len ok.nd ks
      rw [ksN_len, ksG_len] at this
      omega
    have hh := is_heap_of_hp (cs := cs) ok z
    have e4 : decide (∀ k ∈ ksN l, k ∈ ksG cs) = true := decide_eq_true ks
    rw [e4] at hh
    simp [pv_nin_strL, hs.ky k hk, valD_dG, e, hh])]
  simp [pv_nin_strL, h3, h4, r1, r2, valD_dG, g1, g2, w1, w2, hEqA_N eq_int]
theorem empty_app (a : Str) : Str.empty ++ a = a := by
  cases a with
  | mk x =>
    show Str.append _ _ = _
    simp [Str.append, Str.empty]
theorem app_empty (a : Str) : a ++ Str.ofString "" = a := by
  cases a with
  | mk x =>
    show Str.append _ _ = _
    have : Str.ofString "" = ⟨#[]⟩ := rfl
    rw [this]
    simp [Str.append]
theorem differ_repr {o o' st w : D} {x : Str} (hx : x.length ≤ 100) : S_Differ___repr__.F [dfD o o' st (.str x) w] = .ok (.im (.str ("Differ(" ++ x ++ ")"))) [] := by
  have h7 : (Str.ofString "Differ(").length = 7 := rfl
  have h1 : (Str.ofString ")").length = 1 := rfl
  have ha : x.length ≤ 16777216 := by omega
  have hb : 7 + x.length ≤ 16777216 := by omega
  have hc : 7 + x.length ≤ 16777215 := by omega
  simp [F_Differ___repr__, d_Differ___repr__, st_run, eJoin, jGo, eFmt, fmtD, empty_app, Str.length_append, h7, h1, ha, hb, hc]
theorem differ_repr_no {o o' st r w : D} {t : Nat} (h : tagD r = some t) (ht : t ≠ 0) : S_Differ___repr__.F [dfD o o' st r w] = .ok (.im (.str "Differ()")) [] := by
  have h7 : (Str.ofString "Differ(").length = 7 := rfl
  have h0 : (Str.ofString "").length = 0 := rfl
  have h1 : (Str.ofString ")").length = 1 := rfl
  have e : Str.ofString "Differ(" ++ Str.ofString ")" = Str.ofString "Differ()" := by decide +kernel
  simp [F_Differ___repr__, d_Differ___repr__, st_run, eJoin, jGo, eFmt, fmtD, h, ht, empty_app, app_empty, Str.length_append, h7, h0, h1, e]
end
end Pu
namespace Pu
open PySem PySem.Spec PyProof.Rows L2
theorem hSub_lst {l : List D} {j : Int} : hSub (.lst l) (.int j) = (match L2.atI l j with
  | some d => .ov (.ok (.im d))
  | none => .ov .bad) := by
  cases e : L2.atI l j with
  | none => simp [hSub, gV, bIx, asS, asL, bDg, Oh.or, Oh.bad, e]
  | some d => simp [hSub, gV, bIx, asS, asL, bDg, Oh.or, Oh.bad, e]
theorem atI_of {l : List D} {i : Nat} {d : D} (h : l[i]? = some d) : L2.atI l (i : Int) = some d := by
  have := (List.getElem?_eq_some_iff.mp h).1
  unfold L2.atI
  rw [ixN_of _ _ this]
  exact h
theorem pv_fdv {i j : Int} (h : CDiv i j) : bBin .FloorDiv (.int i) (.int j) = .ok (.im (.int (i / j))) := by
  have e : bBin .FloorDiv (.int i) (.int j) = if decide (CDiv i j) = true then .ok (.im (.int (i / j))) else .bad := rfl
  rw [e]
  simp [h]
theorem pv_pow : bBin .Pow (.int 10) (.int 18) = .ok (.im (.int 1000000000000000000)) := rfl
theorem cmul_r {i j : Int} (h0 : 0 ≤ j) (h : j < 5000000000) : CMul i j := Or.inr ⟨by omega, by omega⟩
abbrev bagD (ns : List Int) (at_ big mix n : Int) : D := .lst [.lst (ns.map D.int), .int at_, .int big, .int mix, .int n]
structure BagOk (b : D) : Prop where
  ex : ∃ (ns : List Int) (k : Nat) (big mix n : Int), b = bagD ns k big mix n ∧ ns.length ≤ 63 ∧ 0 ≤ big ∧ 0 ≤ mix ∧ mix < 4294967296
theorem draw_ev {b : D} {m : Int} (hb : BagOk b) (h1 : 1 ≤ m) (h2 : m < 1000) : ∃ i b', S__law_draw.F [b, .int m] = .ok (.im (.int i)) [b'] ∧ 0 ≤ i ∧ i < m ∧ BagOk b' := by
  obtain ⟨ns, k, big, mix, n, rfl, hz, hbig, hm0, hm1⟩ := hb.ex
  have m0 : 0 < m := by omega
  have cd : ∀ i, CDiv i m := fun i => ⟨by omega, by omega⟩
  have cd2 : ∀ i, CDiv i 128 := fun i => ⟨by omega, by omega⟩
  have c1 : ∀ i, CMul i 9173 := fun i => cmul_r (by omega) (by omega)
  have c2 : ∀ i, CMul i 18553 := fun i => cmul_r (by omega) (by omega)
  have c3 : ∀ i, CMul i 42773 := fun i => cmul_r (by omega) (by omega)
  have c4 : ∀ i, CMul i 709 := fun i => cmul_r (by omega) (by omega)
  have c5 : ∀ i, CMul i 40127 := fun i => cmul_r (by omega) (by omega)
  have q1 : (0 : Int) < 2147483629 := by omega
  have q2 : (0 : Int) < 2147483587 := by omega
  have q3 : (0 : Int) < 1000003 := by omega
  have fin : ∀ x : Int, 0 ≤ x % m ∧ x % m < m := fun x => ⟨Int.emod_nonneg _ (by omega), Int.emod_lt_of_pos _ m0⟩
  have fin' : ∀ x y : Int, 0 < y → 0 ≤ x % y ∧ x % y < y := fun x y hy => ⟨Int.emod_nonneg _ (by omega), Int.emod_lt_of_pos _ hy⟩
  have cm : CMul mix mix := cmul_r hm0 (by omega)
  by_cases hc : big = 0 ∧ (k : Int) < ns.length
  · obtain ⟨rfl, hk⟩ := hc
    have hk' : k < ns.length := by omega
    have ea : L2.atI (ns.map D.int) (k : Int) = some (.int ns[k]) := atI_of (by simp [hk'])
    by_cases hg : 1000000000000000000 ≤ ns[k]
    · have hpos : 0 < ns[k] := by omega
      refine ⟨ns[k] % m, bagD ns (k + 1 : Nat) (ns[k] / m) mix (n + 1), ?_, (fin _).1, (fin _).2, ⟨ns, k + 1, _, _, _, rfl, hz, Int.ediv_nonneg (by omega) (by omega), hm0, hm1⟩⟩
      simp [F__law_draw, d__law_draw, st_run, hSub_lst, L2.atI, ixN, pv_pow, hk, hk', hg, hpos, pv_mod m0, pv_fdv (cd _)]
    · have hm' := fin' ((mix * 40127 + ns[k] % 1000003 * 709 + 43)) 2147483587 q2
      generalize hx : (mix * 40127 + ns[k] % 1000003 * 709 + 43) % 2147483587 = mx at hm'
      have cm' : CMul mx mx := cmul_r hm'.1 (by omega)
      obtain ⟨y1, y2⟩ := fin' ((mx * mx + (n + 1) * 9173) % 2147483629 * 18553 + mx * 42773 + 90007) 2147483587 q2
      refine ⟨_, bagD ns (k + 1 : Nat) 0 (((mx * mx + (n + 1) * 9173) % 2147483629 * 18553 + mx * 42773 + 90007) % 2147483587) (n + 1), ?_, (fin (((mx * mx + (n + 1) * 9173) % 2147483629 * 18553 + mx * 42773 + 90007) % 2147483587 / 128)).1, (fin _).2, ⟨ns, k + 1, _, _, _, rfl, hz, by omega, y1, by omega⟩⟩
      simp [F__law_draw, d__law_draw, st_run, hSub_lst, L2.atI, ixN, pv_pow, hk, hk', hg, pv_mod m0, pv_fdv (cd _), pv_fdv (cd2 _), pv_mod q1, pv_mod q2, pv_mod q3, pv_mul (c1 _), pv_mul (c2 _), pv_mul (c3 _), pv_mul (c4 _), pv_mul (c5 _), hx, pv_mul cm']
  · by_cases hp : 0 < big
    · have hb0 : ¬ big = 0 := by omega
      refine ⟨big % m, bagD ns k (big / m) mix (n + 1), ?_, (fin _).1, (fin _).2, ⟨ns, k, _, _, _, rfl, hz, Int.ediv_nonneg (by omega) (by omega), hm0, hm1⟩⟩
      simp [F__law_draw, d__law_draw, st_run, hSub_lst, L2.atI, ixN, pv_pow, hb0, hp, pv_mod m0, pv_fdv (cd _)]
    · have hb0 : big = 0 := by omega
      subst hb0
      have hk : ¬ (k : Int) < ns.length := fun z => hc ⟨rfl, z⟩
      have hk' : ¬ k < ns.length := by omega
      obtain ⟨y1, y2⟩ := fin' ((mix * mix + (n + 1) * 9173) % 2147483629 * 18553 + mix * 42773 + 90007) 2147483587 q2
      refine ⟨_, bagD ns k 0 (((mix * mix + (n + 1) * 9173) % 2147483629 * 18553 + mix * 42773 + 90007) % 2147483587) (n + 1), ?_, (fin (((mix * mix + (n + 1) * 9173) % 2147483629 * 18553 + mix * 42773 + 90007) % 2147483587 / 128)).1, (fin _).2, ⟨ns, k, _, _, _, rfl, hz, by omega, y1, by omega⟩⟩
      simp [F__law_draw, d__law_draw, st_run, hSub_lst, L2.atI, ixN, hk, hk', pv_mod m0, pv_fdv (cd _), pv_fdv (cd2 _), pv_mod q1, pv_mod q2, pv_mod q3, pv_mul (c1 _), pv_mul (c2 _), pv_mul (c3 _), pv_mul cm]
theorem of_ev {b : D} {d0 : D} {ds : List D} (hb : BagOk b) (h2 : (d0 :: ds).length < 1000) : ∃ i b', S__law_of.F [b, .lst (d0 :: ds)] = .ok (.im ((d0 :: ds).getD i .non)) [b'] ∧ i < (d0 :: ds).length ∧ BagOk b' := by
  obtain ⟨i, b', e, h0, h3, ok⟩ := draw_ev hb (m := ((d0 :: ds).length : Int)) (by simp; omega) (by omega)
  obtain ⟨j, rfl⟩ := Int.eq_ofNat_of_zero_le h0
  have hi : j < (d0 :: ds).length := by omega
  have ea : L2.atI (d0 :: ds) (j : Int) = some ((d0 :: ds).getD j .non) := atI_of (by rw [List.getD_eq_getElem?_getD, List.getElem?_eq_getElem hi, Option.getD_some])
  refine ⟨j, b', ?_, hi, ok⟩
  simp at e
  simp [F__law_of, d__law_of, st_run, e, hSub_lst, ea]
end Pu
namespace Pu
open PySem PySem.Spec PyProof.Rows L2
def chS (c : Nat) : Str := ⟨#[c]⟩
theorem let_at : ∀ k : Nat, k < 26 → L2.atI (Str.ofString "abcdefghijklmnopqrstuvwxyz").cps.toList (k : Int) = some (97 + k) := by
  have e : (Str.ofString "abcdefghijklmnopqrstuvwxyz").cps.toList = [97, 98, 99, 100, 101, 102, 103, 104, 105, 106, 107, 108, 109, 110, 111, 112, 113, 114, 115, 116, 117, 118, 119, 120, 121, 122] := by decide +kernel
  rw [e]
  intro k hk
  have : ∀ k : Fin 26, L2.atI [97, 98, 99, 100, 101, 102, 103, 104, 105, 106, 107, 108, 109, 110, 111, 112, 113, 114, 115, 116, 117, 118, 119, 120, 121, 122] (k.val : Int) = some (97 + k.val) := by decide +kernel
  exact this ⟨k, hk⟩
theorem let_len : (Str.ofString "abcdefghijklmnopqrstuvwxyz").length = 26 := by decide +kernel
theorem let_sub {j : Int} (h0 : 0 ≤ j) (h1 : j < 26) : hSub (.str "abcdefghijklmnopqrstuvwxyz") (.int j) = .ov (.ok (.im (.str (chS (97 + j.toNat))))) := by
  obtain ⟨k, rfl⟩ := Int.eq_ofNat_of_zero_le h0
  have e := let_at k (by omega)
  simp [hSub, gV, bIx, let_len, e, Oh.or, Oh.bad, chS]
theorem of_let {b : D} (hb : BagOk b) : ∃ c b', S__law_of.F [b, .str "abcdefghijklmnopqrstuvwxyz"] = .ok (.im (.str (chS c))) [b'] ∧ chB c = true ∧ BagOk b' := by
  obtain ⟨i, b', e, h0, h3, ok⟩ := draw_ev hb (m := 26) (by omega) (by omega)
  refine ⟨97 + i.toNat, b', ?_, by simp [chB]; omega, ok⟩
  have es := let_sub h0 h3
  simp [F__law_of, d__law_of, st_run, let_len, e, es]
theorem pv_adds {i j : Str} (h : i.length + j.length ≤ 16777216) : bBin .Add (.str i) (.str j) = .ok (.im (.str (i ++ j))) := by
  have e : bBin .Add (.str i) (.str j) = (if decide (i.length + j.length ≤ sizeLine) = true then Ov.ok (.im (.str (i ++ j))) else .bad).or .bad := rfl
  rw [e]
  simp [h, Ov.or]
/-- a word: a letter within a stem, a tail -/
def wrd (p s : List Nat) (c : Nat) (t : List Nat) : Str := ⟨(p ++ c :: (s ++ t)).toArray⟩
theorem wrd_name {p s t : List Nat} {c : Nat} (hp : p.all chB = true) (hs : s.all chB = true) (hc : chB c = true) (ht : t.all chB = true) (hl : p.length + s.length + t.length ≤ 4) : nameB (wrd p s c t) = true := by
  have e : (wrd p s c t).cps.toList = p ++ c :: (s ++ t) := rfl
  have el : (wrd p s c t).length = p.length + (s.length + t.length + 1) := by
    show (wrd p s c t).cps.size = _
    rw [← Array.length_toList, e]
    simp
  unfold nameB
  rw [e, el]
  simp only [List.all_append, List.all_cons, hp, hs, hc, ht]
  simp
  omega
theorem wrd_ne {p s t t' : List Nat} {c c' : Nat} (h : c ≠ c') : wrd p s c t ≠ wrd p s c' t' := by
  intro e
  have e2 : p ++ c :: (s ++ t) = p ++ c' :: (s ++ t') := congrArg (fun x : Str => x.cps.toList) e
  have e3 := List.append_cancel_left e2
  exact h (List.cons.inj e3).1
theorem wrd_le {p s t : List Nat} {c : Nat} (hl : p.length + s.length + t.length ≤ 4) : (wrd p s c t).length ≤ 5 := by
  have e : (wrd p s c t).cps.toList = p ++ c :: (s ++ t) := rfl
  show (wrd p s c t).cps.size ≤ 5
  rw [← Array.length_toList, e]
  simp
  omega
theorem cut_lo {z : Str} {k : Nat} (h : k ≤ z.length) : L2.cutS z none (some (k : Int)) = ⟨(z.cps.toList.take k).toArray⟩ := by
  have : ¬ ((k : Int) < 0) := by omega
  have e : (z.cps.toList.drop 0) = z.cps.toList := rfl
  simp only [L2.cutS, HT.sIx, this, if_false, Int.toNat_natCast, Nat.sub_zero, e]
  rw [Nat.min_eq_left h]
theorem cut_hi {z : Str} {k : Nat} (h : k ≤ z.length) : L2.cutS z (some (k : Int)) none = ⟨(z.cps.toList.drop k).toArray⟩ := by
  have : ¬ ((k : Int) < 0) := by omega
  simp only [L2.cutS, HT.sIx, this, if_false, Int.toNat_natCast]
  rw [Nat.min_eq_left h]
  rw [List.take_of_length_le]
  rw [List.length_drop]
  show z.cps.toList.length - k ≤ z.length - k
  simp [Str.length]
theorem wrd_of {z : Str} {k c : Nat} : (⟨(z.cps.toList.take k).toArray⟩ : Str) ++ chS c ++ ⟨(z.cps.toList.drop k).toArray⟩ = wrd (z.cps.toList.take k) (z.cps.toList.drop k) c [] := by
  show Str.append (Str.append _ _) _ = _
  simp [Str.append, wrd, chS]
theorem wrd_app {p s : List Nat} {c : Nat} {t : Str} : wrd p s c [] ++ t = wrd p s c t.cps.toList := by
  show Str.append _ _ = _
  simp [Str.append, wrd]
@[simp] theorem sl_str {z : Str} {lo hi : Option Int} : bSl (.str z) lo hi = if z.length ≤ sizeLine then some (.im (.str (L2.cutS z lo hi))) else none := rfl
structure TwoW (x y : Str) : Prop where
  nx : nameB x = true
  ny : nameB y = true
  ne : x ≠ y
  lx : x.length ≤ 5
  ly : y.length ≤ 5
@[simp] theorem ap_lst {l : List D} {d : D} : cAppend (.lst l) [d] = if l.length < sizeLine then some (.non, .lst (l ++ [d])) else none := rfl
@[simp] theorem ty_lst {l : List D} : tyD (.lst l) = some "list" := rfl
@[simp] theorem ty_dic {l : List (Key × D)} : tyD (.dic l) = some "dict" := rfl
theorem rng2 : rngD 0 2 = [.int 0, .int 1] := rfl
theorem chS_len {c : Nat} : (chS c).length = 1 := rfl
theorem words_ev {b : D} (hb : BagOk b) : ∃ x y b', S__law_words.F [b, .int 2] = .ok (.ow (.lst [.str x, .str y])) [b'] ∧ TwoW x y ∧ BagOk b' := by
  obtain ⟨n0, b0, e0, h00, h01, ok0⟩ := draw_ev hb (m := 3) (by omega) (by omega)
  simp only [F__law_words, d__law_words, st_run, ev_seq]
  have i0 : i62 n0 = true := by simp [i62]; omega
  simp [e0, i0]
  generalize hbd : sSeq (sAsg (gNam 3) _) _ = body
  obtain ⟨ρ', e, stem, b1, s4, hρ, c4, hl, hch, ok1⟩ := forL_of (g := gNam 4) (body := body) (P := fun i ρ => ∃ stem b1 s4, ρ = [.mu b1, .im (.int 2), .im (.str "abcdefghijklmnopqrstuvwxyz"), .im (.str stem), s4, .no, .no, .no, .no, .no, .no] ∧ s4.hot = false ∧ stem.length = i ∧ stem.cps.toList.all chB = true ∧ BagOk b1)
    (rngD 0 n0.toNat) (ρ := [.mu b0, .im (.int 2), .im (.str "abcdefghijklmnopqrstuvwxyz"), .im (.str ""), .no, .no, .no, .no, .no, .no, .no]) 0 ⟨"", b0, .no, rfl, rfl, rfl, rfl, ok0⟩ (by
    rintro j d ρ hd ⟨stem, b1, s4, rfl, c4, hl, hch, ok⟩
    obtain ⟨c, b2, ec, hc, ok2⟩ := of_let ok
    have hj : j < n0.toNat := by
      have := (List.getElem?_eq_some_iff.mp hd).1
      simpa [rngD] using this
    subst hbd
    refine ⟨[.mu b1, .im (.int 2), .im (.str "abcdefghijklmnopqrstuvwxyz"), .im (.str stem), .im d, .no, .no, .no, .no, .no, .no], [.mu b2, .im (.int 2), .im (.str "abcdefghijklmnopqrstuvwxyz"), .im (.str (stem ++ chS c)), .im d, .no, .no, .no, .no, .no, .no], ?_, .inl ?_, _, b2, _, rfl, rfl, ?_, ?_, ok2⟩
    · cases s4 <;> first | (cases c4; done) | simp
    · have hz : stem.length + (chS c).length ≤ 16777216 := by rw [chS_len]; omega
      simp [ec, pv_adds hz]
    · rw [Str.length_append, chS_len, hl]
    · show (Str.append stem (chS c)).cps.toList.all chB = true
      simp [Str.append, chS, hc] at hch ⊢
      exact hch)
  subst hρ
  rw [e]
  have hl2 : stem.length ≤ 2 := by
    have : (rngD 0 n0.toNat).length = n0.toNat := by simp [rngD]
    omega
  have hz1 : stem.length ≤ 16777216 := by omega
  obtain ⟨at_, b2, e2, a0, a1, ok2⟩ := draw_ev ok1 (m := (stem.length : Int) + 1) (by omega) (by omega)
  obtain ⟨fi, b3, e3, f0, f1, ok3⟩ := draw_ev ok2 (m := 26) (by omega) (by omega)
  obtain ⟨ti, b4, e4, ht, ok4⟩ := of_ev (d0 := .str "") (ds := [.str "a", .str "zz"]) ok3 (by simp)
  obtain ⟨si, b5, e5, s0, s1, ok5⟩ := draw_ev ok4 (m := 2) (by omega) (by omega)
  obtain ⟨t, et, tch, tl⟩ : ∃ t : Str, ([D.str "", D.str "a", D.str "zz"]).getD ti .non = .str t ∧ t.cps.toList.all chB = true ∧ t.cps.toList.length ≤ 2 := by
    match ti, ht with
    | 0, _ => exact ⟨"", rfl, rfl, by decide⟩
    | 1, _ => exact ⟨"a", rfl, by decide +kernel, by decide +kernel⟩
    | 2, _ => exact ⟨"zz", rfl, by decide +kernel, by decide +kernel⟩
  rw [et] at e4
  obtain ⟨k, rfl⟩ := Int.eq_ofNat_of_zero_le a0
  have hk : k ≤ stem.length := by omega
  have q26 : (0 : Int) < 26 := by omega
  have q2 : (0 : Int) < 2 := by omega
  have c7 : ∀ i, CMul 7 i := fun i => Or.inl ⟨by omega, by omega⟩
  have g0 := let_sub (j := fi % 26) (Int.emod_nonneg _ (by omega)) (Int.emod_lt_of_pos _ q26)
  have g1 := let_sub (j := (fi + 7) % 26) (Int.emod_nonneg _ (by omega)) (Int.emod_lt_of_pos _ q26)
  generalize hc0 : 97 + (fi % 26).toNat = c0 at g0
  generalize hc1 : 97 + ((fi + 7) % 26).toNat = c1 at g1
  have hcne : c0 ≠ c1 := by omega
  have hb0 : chB c0 = true := by simp [chB]; omega
  have hb1 : chB c1 = true := by simp [chB]; omega
  have lp : (stem.cps.toList.take k).length + (stem.cps.toList.drop k).length ≤ 2 := by
    have : stem.cps.toList.length = stem.length := by simp [Str.length]
    rw [List.length_take, List.length_drop]
    omega
  have all1 : (stem.cps.toList.take k).all chB = true := by
    rw [List.all_eq_true] at hch ⊢
    exact fun x hx => hch x (List.mem_of_mem_take hx)
  have all2 : (stem.cps.toList.drop k).all chB = true := by
    rw [List.all_eq_true] at hch ⊢
    exact fun x hx => hch x (List.mem_of_mem_drop hx)
  have wl0 : ∀ c, (wrd (stem.cps.toList.take k) (stem.cps.toList.drop k) c []).length ≤ 5 := fun c => wrd_le (by simp only [List.length_nil]; omega)
  have lx1 : ∀ c, (⟨(stem.cps.toList.take k).toArray⟩ : Str).length + (chS c).length ≤ 16777216 := fun c => by
    rw [chS_len]
    have : (⟨(stem.cps.toList.take k).toArray⟩ : Str).length = (stem.cps.toList.take k).length := by simp [Str.length]
    omega
  have lx2 : ∀ c, ((⟨(stem.cps.toList.take k).toArray⟩ : Str) ++ chS c).length + (⟨(stem.cps.toList.drop k).toArray⟩ : Str).length ≤ 16777216 := fun c => by
    rw [Str.length_append, chS_len]
    have : (⟨(stem.cps.toList.take k).toArray⟩ : Str).length = (stem.cps.toList.take k).length := by simp [Str.length]
    have : (⟨(stem.cps.toList.drop k).toArray⟩ : Str).length = (stem.cps.toList.drop k).length := by simp [Str.length]
    omega
  have lx3 : ∀ c, (wrd (stem.cps.toList.take k) (stem.cps.toList.drop k) c []).length + t.length ≤ 16777216 := fun c => by
    have := wl0 c
    have : t.cps.toList.length = t.length := by simp [Str.length]
    omega
  have hsi : si = 0 ∨ si = 1 := by omega
  rcases hsi with rfl | rfl
  · refine ⟨wrd (stem.cps.toList.take k) (stem.cps.toList.drop k) c0 t.cps.toList, wrd (stem.cps.toList.take k) (stem.cps.toList.drop k) c1 [], b5, ?_, ⟨wrd_name all1 all2 hb0 tch (by omega), wrd_name all1 all2 hb1 rfl (by simp only [List.length_nil]; omega), wrd_ne hcne, wrd_le (by omega), wrd_le (by simp only [List.length_nil]; omega)⟩, ok5⟩
    have i2 : i62 2 = true := by decide
    cases s4 <;> first | (cases c4; done) | simp [hz1, e2, e3, e4, e5, rng2, i2, forL, pv_mul (c7 _), pv_mod q26, pv_mod q2, g0, g1, cut_lo hk, cut_hi hk, pv_adds (lx1 _), pv_adds (lx2 _), pv_adds (lx3 _), wrd_of, wrd_app]
  · refine ⟨wrd (stem.cps.toList.take k) (stem.cps.toList.drop k) c0 [], wrd (stem.cps.toList.take k) (stem.cps.toList.drop k) c1 t.cps.toList, b5, ?_, ⟨wrd_name all1 all2 hb0 rfl (by simp only [List.length_nil]; omega), wrd_name all1 all2 hb1 tch (by omega), wrd_ne hcne, wrd_le (by simp only [List.length_nil]; omega), wrd_le (by omega)⟩, ok5⟩
    have i2 : i62 2 = true := by decide
    cases s4 <;> first | (cases c4; done) | simp [hz1, e2, e3, e4, e5, rng2, i2, forL, pv_mul (c7 _), pv_mod q26, pv_mod q2, g0, g1, cut_lo hk, cut_hi hk, pv_adds (lx1 _), pv_adds (lx2 _), pv_adds (lx3 _), wrd_of, wrd_app]
end Pu
namespace Pu
open PySem PySem.Spec PyProof.Rows L2
theorem putD_app {α : Type} (f : α → D) {acc : List (Str × α)} {k : Str} {v : α} (h : k ∉ ksG acc) : putD (dG f acc) (.inr k) (f v) = dG f (acc ++ [(k, v)]) := by
  rw [putD_dG]
  unfold putG
  rw [if_neg h]
/-- a loop that fills a table -/
theorem forL_tabA {α : Type} {g : GF} {body : SF} {f : α → D} {v : Str → α} (R : List (Key × D) → Sl → Rho) : ∀ (ks : List Str) (acc : List (Str × α)) (s : Sl), s.hot = false → ks.Nodup → (∀ k ∈ ks, k ∉ ksG acc) → acc.length + ks.length ≤ 1000 →
    (∀ k ∈ ks, ∀ kvs s, s.hot = false → kvs.length < 16777216 → ∃ ρ1, g (.im (.str k)) (R kvs s) = some ρ1 ∧ body ρ1 = .nx (R (putD kvs (.inr k) (f (v k))) (.im (.str k)))) →
    ∃ s', s'.hot = false ∧ forL g body (strL ks) (R (dG f acc) s) = .nx (R (dG f (acc ++ ks.map fun k => (k, v k))) s')
  | [], acc, s, hs, _, _, _, _ => ⟨s, hs, by simp [strL, forL]⟩
  | k :: ks, acc, s, hs, hn, hd, hz, st => by
    obtain ⟨n1, n2⟩ := List.nodup_cons.mp hn
    rw [List.length_cons] at hz
    obtain ⟨ρ1, e1, e2⟩ := st k List.mem_cons_self (dG f acc) s hs (by rw [dG_len]; omega)
    rw [putD_app f (hd k List.mem_cons_self)] at e2
    obtain ⟨s', hs', e⟩ := forL_tabA (g := g) (body := body) R ks (acc ++ [(k, v k)]) (.im (.str k)) rfl n2 (fun x hx z => by
      rw [ksG, List.map_append, List.mem_append] at z
      rcases z with z | z
      · exact hd x (List.mem_cons_of_mem _ hx) z
      · simp only [List.map_cons, List.map_nil, List.mem_singleton] at z
        exact n1 (z ▸ hx)) (by rw [List.length_append, List.length_singleton]; omega) fun x hx => st x (List.mem_cons_of_mem _ hx)
    refine ⟨s', hs', ?_⟩
    rw [← strL_cons]
    unfold forL
    rw [e1]
    simp only []
    rw [e2]
    simp only []
    rw [e]
    simp
theorem forL_tab {α : Type} {g : GF} {body : SF} {f : α → D} {v : Str → α} (R : List (Key × D) → Sl → Rho) {ks : List Str} (hn : ks.Nodup) (hz : ks.length ≤ 1000)
    (st : ∀ k ∈ ks, ∀ kvs s, s.hot = false → kvs.length < 16777216 → ∃ ρ1, g (.im (.str k)) (R kvs s) = some ρ1 ∧ body ρ1 = .nx (R (putD kvs (.inr k) (f (v k))) (.im (.str k)))) :
    ∃ s', s'.hot = false ∧ forL g body (strL ks) (R [] .no) = .nx (R (dG f (ks.map fun k => (k, v k))) s') := by
  have := forL_tabA (g := g) (body := body) (f := f) (v := v) R ks [] .no rfl hn (fun _ _ z => nomatch z) (by simpa using hz) st
  simp only [List.nil_append] at this
  exact this
theorem tab_self {l : HL} (hn : (ksN l).Nodup) : ((ksN l).map fun k => (k, gtD l k)) = l := by
  have e : tabF (ksN l) (fun k => gtD l k) = l := keys_eq (by rw [tabF_keys]) (by rw [tabF_keys]; exact hn) (fun k hk => by
    rw [tabF_keys] at hk
    rw [tabF_gtD, if_pos hk])
  exact e
theorem made_ev {l : HL} (h : TabOk l) : S__law_made.F [.dic (dN l)] = .ok (.ow (hp (mkH l))) [] := by
  have hz := h.sz
  simp only [F__law_made, d__law_made, st_run, ev_seq]
  simp
  generalize hb : sSeq (sAsg (gSubs _ _) _) _ = body
  obtain ⟨s, hs, e⟩ := forL_tab (g := gNam 2) (body := body) (f := D.int) (v := fun k => gtD l k) (fun kvs s => [.im (.dic (dN l)), .ow (.dic kvs), s]) (ks := ksN l) h.nd (by simp; omega) (by
    intro k hk kvs s hs hz
    obtain ⟨i, e, m⟩ := gtO_mem hk
    have ei : gtD l k = i := by rw [gtD, e]; rfl
    subst hb
    refine ⟨[.im (.dic (dN l)), .ow (.dic kvs), .im (.str k)], ?_, ?_⟩
    · cases s <;> first | (cases hs; done) | simp
    · simp [valD_dN, e, ei, hz])
  rw [e, tab_self h.nd]
  have e3 : dG D.int l = dN l := rfl
  rw [e3]
  simp [heap_new h]
def sD : Option HL → D
  | none => .non
  | some l => .dic (dN l)
@[simp] theorem sD_none : sD none = .non := rfl
@[simp] theorem sD_some {l : HL} : sD (some l) = .dic (dN l) := rfl
def mkC (cs : List (Str × Option HL)) (k : Str) : Option HL := (gO cs k).bind fun c => c.map mkH
def mkB (cs : List (Str × Option HL)) : List (Str × Option HL) := (ksG cs).map fun k => (k, mkC cs k)
theorem mkB_keys {cs : List (Str × Option HL)} : ksG (mkB cs) = ksG cs := by
  simp [mkB, ksG, Function.comp_def]
theorem book_ev {cs : List (Str × Option HL)} (hn : (ksG cs).Nodup) (hz : cs.length ≤ 8) (ht : ∀ k l, (k, some l) ∈ cs → TabOk l) (hb : BkIn (mkB cs)) : S__law_book.F [.dic (dG sD cs)] = .ok (.ow (bk (reG (sortS (ksG cs)) (mkB cs)))) [] := by
  simp only [F__law_book, d__law_book, st_run, ev_seq]
  simp
  generalize hbd : sSeq (sAsg (gSubs _ _) _) _ = body
  obtain ⟨s, hs, e⟩ := forL_tab (g := gNam 2) (body := body) (f := cD) (v := mkC cs) (fun kvs s => [.im (.dic (dG sD cs)), .ow (.dic kvs), s]) (ks := ksG cs) hn (by simp; omega) (by
    intro k hk kvs s hs hz
    obtain ⟨c, e, m⟩ := gO_mem hk
    subst hbd
    refine ⟨[.im (.dic (dG sD cs)), .ow (.dic kvs), .im (.str k)], ?_, ?_⟩
    · cases s <;> first | (cases hs; done) | simp
    · cases c with
      | none => simp [valD_dG, e, hz, mkC]
      | some l => simp [valD_dG, e, hz, mkC, made_ev (ht k l m)])
  rw [e]
  have e4 : ((ksG cs).map fun k => (k, mkC cs k)) = mkB cs := rfl
  have e5 := book_new hb
  rw [mkB_keys] at e5
  rw [e4]
  simp [e5]
theorem plus_ev {l : HL} {n : Int} (hn : (ksN l).Nodup) (hz : l.length < 64) (hc : ∀ i, CMul n i) : S__law_plus.F [.dic [], .dic (dN l), .int n] = .ok (.ow (.dic (dN (tabF (ksN l) fun k => n * gtD l k)))) [] := by
  have ec : (strL [] : List D).length + (strL (ksN l)).length ≤ 16777216 := by simp [strL]; omega
  simp only [F__law_plus, d__law_plus, st_run, ev_seq]
  simp [pv_cat (l := []) (r := strL (ksN l)) ec]
  generalize hbd : sSeq (sAsg (gSubs _ _) _) _ = body
  obtain ⟨s, hs, e⟩ := forL_tab (g := gNam 4) (body := body) (f := D.int) (v := fun k => n * gtD l k) (fun kvs s => [.im (.dic []), .im (.dic (dN l)), .im (.int n), .ow (.dic kvs), s]) (ks := ksN l) hn (by simp; omega) (by
    intro k hk kvs s hs hz
    obtain ⟨i, e, m⟩ := gtO_mem hk
    have ei : gtD l k = i := by rw [gtD, e]; rfl
    subst hbd
    refine ⟨[.im (.dic []), .im (.dic (dN l)), .im (.int n), .ow (.dic kvs), .im (.str k)], ?_, ?_⟩
    · cases s <;> first | (cases hs; done) | simp
    · simp [bGet, keyD, valD_nil, valD_dN, e, ei, hz, pv_mul (hc _)])
  rw [e]
  simp
  rfl
theorem wsum_app {t l r : HL} : wsum t (l ++ r) = r.foldl (fun a q => a + q.2 * gtD t q.1) (wsum t l) := List.foldl_append
theorem lworth_ev {t l : HL} {m : Int} (hm : 0 ≤ m) (hn : (ksN l).Nodup) (hz : l.length < 64) (h0 : ∀ q ∈ l, 0 ≤ q.2) (hk : ∀ k ∈ ksN l, k ∈ ksN t) (hc : ∀ q ∈ l, CMul q.2 (gtD t q.1)) : S__law_worth.F [.dic (dN t), .int m, .dic (dN l)] = .ok (.im (.int (lowI (wsum t l) m))) [] := by
  simp only [F__law_worth, d__law_worth, st_run, ev_seq]
  simp
  generalize hbd : sSeq (sIf (tAndF _ _) _ _) _ = body
  obtain ⟨ρ', e, s4, rfl, c4⟩ := forL_accM (g := gNam 4) (body := body) (P := fun (a : Int) ρ => ∃ s4, ρ = [.im (.dic (dN t)), .im (.int m), .im (.dic (dN l)), .im (.int a), s4] ∧ s4.hot = false)
    (fun q : Str × Int => .str q.1) (fun a q => a + q.2 * gtD t q.1) l 0 [.im (.dic (dN t)), .im (.int m), .im (.dic (dN l)), .im (.int 0), .no] ⟨_, rfl, rfl⟩ (by
    rintro q hq a ρ ⟨s4, rfl, c4⟩
    have e1 := gtO_of hn hq
    obtain ⟨i, e2, mm⟩ := gtO_mem (hk q.1 (List.mem_map.mpr ⟨q, hq, rfl⟩))
    have ei : gtD t q.1 = i := by rw [gtD, e2]; rfl
    have hcm := hc q hq
    rw [ei] at hcm
    have hq0 := h0 q hq
    subst hbd
    refine ⟨[.im (.dic (dN t)), .im (.int m), .im (.dic (dN l)), .im (.int a), .im (.str q.1)], [.im (.dic (dN t)), .im (.int m), .im (.dic (dN l)), .im (.int (a + q.2 * gtD t q.1)), .im (.str q.1)], ?_, ?_, _, rfl, rfl⟩
    · cases s4 <;> first | (cases c4; done) | simp
    · by_cases hp : 0 < q.2
      · simp [valD_dN, e1, e2, ei, hp, pv_mul hcm]
      · have : q.2 = 0 := by omega
        simp [valD_dN, e1, e2, ei, this])
  have el : strL (ksN l) = l.map fun q : Str × Int => .str q.1 := by simp [strL, ksN, Function.comp_def]
  rw [el, e]
  have ew : l.foldl (fun a q => a + q.2 * gtD t q.1) 0 = wsum t l := rfl
  rw [ew]
  by_cases h : m = 0
  · subst h; simp [lowI]
  · have : 0 < m := by omega
    simp [lowI, h, this, pv_mod this]
def lhonB (cs : List (Str × Option HL)) (m : Int) (t : HL) : Bool := (ksG cs).all fun k => match gO cs k with
  | some (some l) => decide (lowI (wsum t l) m = lowI (gtD t k) m)
  | _ => true
theorem lhonest_ev {cs : List (Str × Option HL)} {t : HL} {m : Int} (h : WlOk cs m t) (h0 : ∀ k l, (k, some l) ∈ cs → ∀ q ∈ l, 0 ≤ q.2) : S__law_honest.F [.dic (dG sD cs), .dic (dN t), .int m] = .ok (.im (.bl (lhonB cs m t))) [] := by
  simp only [F__law_honest, d__law_honest, st_run, ev_seq]
  simp
  generalize hbd : sSeq (sAsg (gNam 4) _) _ = body
  have key := forL_find (g := gNam 3) (body := body) (P := fun ρ => ∃ s3 s4, ρ = [.im (.dic (dG sD cs)), .im (.dic (dN t)), .im (.int m), s3, s4] ∧ s3.hot = false ∧ s4.hot = false)
    (good := fun d => match d with
      | .str k => (match gO cs k with
        | some (some l) => decide (lowI (wsum t l) m = lowI (gtD t k) m)
        | _ => true)
      | _ => false) (R := fun x => ∃ ρ, x = .rt (.im (.bl false)) ρ) (by rintro x ⟨ρ, rfl⟩; exact ⟨_, _, rfl⟩) (strL (ksG cs)) [.im (.dic (dG sD cs)), .im (.dic (dN t)), .im (.int m), .no, .no] ⟨_, _, rfl, rfl, rfl⟩ (by
    rintro d hd ρ ⟨s3, s4, rfl, c3, c4⟩
    obtain ⟨k, hk, rfl⟩ := strL_mem hd
    obtain ⟨c, ec, mc⟩ := gO_mem hk
    obtain ⟨i, ei, mi⟩ := gtO_mem (h.ky k hk)
    have e2 : gtD t k = i := by rw [gtD, ei]; rfl
    have m0 := h.m0
    subst hbd
    refine ⟨[.im (.dic (dG sD cs)), .im (.dic (dN t)), .im (.int m), .im (.str k), s4], ?_, ?_⟩
    · cases s3 <;> first | (cases c3; done) | simp
    · have elow : lowI i m = if m = 0 then i else i % m := rfl
      cases c with
      | none =>
        simp only [ec]
        refine ⟨[.im (.dic (dG sD cs)), .im (.dic (dN t)), .im (.int m), .im (.str k), .im (.int (lowI i m))], ?_, _, _, rfl, rfl, rfl⟩
        by_cases hm : m = 0
        · subst hm
          cases s4 <;> first | (cases c4; done) | simp [valD_dG, valD_dN, ec, ei, elow]
        · have : 0 < m := by omega
          cases s4 <;> first | (cases c4; done) | simp [valD_dG, valD_dN, ec, ei, elow, hm, pv_mod this]
      | some l =>
        obtain ⟨n1, n2, n3, n4⟩ := h.ct k l mc
        have hw := lworth_ev (t := t) m0 n1 n2 (h0 k l mc) n3 n4
        simp only [ec, e2]
        by_cases hq : lowI (wsum t l) m = lowI i m
        · rw [if_pos (by simp [hq])]
          refine ⟨[.im (.dic (dG sD cs)), .im (.dic (dN t)), .im (.int m), .im (.str k), .im (.int (lowI i m))], ?_, _, _, rfl, rfl, rfl⟩
          by_cases hm : m = 0
          · subst hm
            simp [lowI] at hq hw
            cases s4 <;> first | (cases c4; done) | simp [valD_dG, valD_dN, ec, ei, elow, hw, hq]
          · have : 0 < m := by omega
            simp [lowI, hm] at hq hw
            cases s4 <;> first | (cases c4; done) | simp [valD_dG, valD_dN, ec, ei, elow, hm, pv_mod this, hw, hq]
        · rw [if_neg (by simp [hq])]
          refine ⟨[.im (.dic (dG sD cs)), .im (.dic (dN t)), .im (.int m), .im (.str k), .im (.int (lowI i m))], ?_⟩
          by_cases hm : m = 0
          · subst hm
            simp [lowI] at hq hw
            cases s4 <;> first | (cases c4; done) | simp [valD_dG, valD_dN, ec, ei, elow, hw, hq]
          · have : 0 < m := by omega
            simp [lowI, hm] at hq hw
            cases s4 <;> first | (cases c4; done) | simp [valD_dG, valD_dN, ec, ei, elow, hm, pv_mod this, hw, hq])
  have ea : (strL (ksG cs)).all (fun d => match d with
      | .str k => (match gO cs k with
        | some (some l) => decide (lowI (wsum t l) m = lowI (gtD t k) m)
        | _ => true)
      | _ => false) = lhonB cs m t := by
    unfold strL lhonB
    rw [List.all_map]
    rfl
  rw [ea] at key
  by_cases hh : lhonB cs m t = true
  · rw [if_pos hh] at key
    obtain ⟨ρ', e, s1, s2, rfl, c1, c2⟩ := key
    rw [e, hh]; simp
  · rw [if_neg hh] at key
    obtain ⟨ρ, e⟩ := key
    have hh : lhonB cs m t = false := by simpa using hh
    rw [e, hh]; simp
end Pu
namespace Pu
open PySem PySem.Spec PyProof.Rows L2
@[simp] theorem whole_ev {i : Int} : S__law_whole.F [.int i] = .ok (.im (.bl true)) [] := by
  simp [F__law_whole, d__law_whole, st_run]
theorem list_so_ev {cs cw : List (Str × Option HL)} {t : HL} {m : Int} (h : WlOk cs m t) (h0 : ∀ k l, (k, some l) ∈ cs → ∀ q ∈ l, 0 ≤ q.2) (hn : (ksN t).Nodup) (hz : t.length < 64) (hk : ksN t = sortS (ksG cs)) (hz2 : cs.length < 64) (hs : ∀ x ∈ ksG cs, PyData.strOk x = true) : S__law_list_so.F [.dic (dG sD cs), wl cw m t] = .ok (.im (.bl (lhonB cs m t))) [] := by
  have m0 := h.m0
  have m1 : ¬ m < 0 := by omega
  have hq : (ksG cs).length < 64 := by simpa using hz2
  have he := eq_strL (l := sortS (ksG cs)) (r := sortS (ksG cs)) (fun x hx => hs x (sortS_mem.mp hx)) (fun x hx => hs x (sortS_mem.mp hx))
  simp only [decide_true] at he
  simp only [F__law_list_so, d__law_list_so, st_run, ev_seq]
  simp [wl_table hn hz, m1, pv_sorted hq, hk, he]
  rw [lcGo_of (fun d => some (.bl true))]
  · have e1 : (strL (sortS (ksG cs))).filterMap (fun _ => some (D.bl true)) = (sortS (ksG cs)).map fun _ => D.bl ((fun _ => true) ()) := by
      unfold strL
      rw [List.filterMap_map]
      simp only [Function.comp_def]
      rw [List.filterMap_eq_map']
    rw [e1]
    have e2 := blsD_map (fun _ : Str => true) (sortS (ksG cs))
    simp only [] at e2 ⊢
    simp [e2, lhonest_ev h h0]
  · intro d hd
    obtain ⟨k, hk', rfl⟩ := strL_mem hd
    obtain ⟨i, e, mm⟩ := gtO_mem (l := t) (k := k) (by rw [hk]; exact hk')
    simp [lcStep, bindD, valD_dN, e]
  · simp [sortS_len]; omega
theorem parted_ev {cs cw : List (Str × Option HL)} {t l r : HL} {m : Int} {b : Bool} (h1 : S__law_list_so.F [.dic (dG sD cs), wl cw m t] = .ok (.im (.bl b)) []) (hn : (ksN t).Nodup) (hz : t.length < 64) {v1 v2 : Int} (w1 : S__law_worth.F [.dic (dN t), .int m, .dic (dN l)] = .ok (.im (.int v1)) []) (w2 : S__law_worth.F [.dic (dN t), .int m, .dic (dN r)] = .ok (.im (.int v2)) []) :
    S__law_parted_so.F [.dic (dG sD cs), .dic (dN l), .dic (dN r), wl cw m t] = .ok (.im (.bl (b && !decide (v1 = v2)))) [] := by
  cases b <;> simp [F__law_parted_so, d__law_parted_so, st_run, h1, wl_table hn hz, w1, w2]
theorem eq_bl {i j : Bool} : bEq (.bl i) (.bl j) = some (decide (i = j)) := by
  cases i <;> cases j <;> simp [bEq, toP, shp_bl, PyData.eqv.eq_2]
@[simp] theorem fl_same {n : Nat} : (S__law_same n).fl = [false, false] := by cases n <;> rfl
theorem same_bl {n : Nat} {i : Bool} : (S__law_same (n + 1)).F [.bl i, .bl i] = .ok (.im (.bl true)) [] := by
  show runF 4 [false, false] (d__law_same (S__law_same n)) [.bl i, .bl i] = _
  simp [d__law_same, st_run, eq_bl]
theorem same_str {n : Nat} {i : Str} (h : PyData.strOk i = true) : (S__law_same (n + 1)).F [.str i, .str i] = .ok (.im (.bl true)) [] := by
  show runF 4 [false, false] (d__law_same (S__law_same n)) [.str i, .str i] = _
  simp [d__law_same, st_run, eq_bl, eq_str h h]
theorem same4 {i : Bool} {x y : Str} (hx : PyData.strOk x = true) (hy : PyData.strOk y = true) : (S__law_same 2).F [.lst [.bl i, .str x, .bl i, .str y], .lst [.bl i, .str x, .bl i, .str y]] = .ok (.im (.bl true)) [] := by
  have e0 : ∀ n, (S__law_same (n + 1)).F = runF 4 [false, false] (d__law_same (S__law_same n)) := fun _ => rfl
  have e4 := e0 1
  simp only [Nat.reduceAdd] at e4
  rw [e4]
  have e1 := same_bl (n := 0) (i := i)
  have e2 := same_str (n := 0) hx
  have e3 := same_str (n := 0) hy
  simp only [Nat.zero_add] at e1 e2 e3
  simp [d__law_same, st_run, eq_bl, iZipD, asL, zipD, lcGo, bindD, bindN, e1, e2, e3, blsD]
end Pu
namespace Pu
open PySem PySem.Spec PyProof.Rows L2
structure Tn (r0 r1 a b : Str) (many n ta md ca cb : Int) : Prop where
  rr : TwoW r0 r1
  na : nameB a = true
  nb : nameB b = true
  ab : a ≠ b
  le : leS a b
  m0 : 2 ≤ many
  m1 : many ≤ 9
  n0 : 0 ≤ n
  n1 : n ≤ 11
  t0 : 0 ≤ ta
  t1 : ta ≤ 9
  d0 : 0 ≤ md
  d1 : md ≤ 9
  c0 : 0 ≤ ca
  c1 : ca ≤ 3
  b0 : 0 ≤ cb
  b1 : cb ≤ 59
abbrev cs2 (a b : Str) (many : Int) : List (Str × Option HL) := [(a, some [(a, 1), (b, many)]), (b, none)]
abbrev tb2 (a b : Str) (x y : Int) : HL := [(a, x), (b, y)]
section
variable {r0 r1 a b : Str} {many n ta md ca cb : Int}
theorem tb_nd (h : Tn r0 r1 a b many n ta md ca cb) {x y : Int} : (ksN (tb2 a b x y)).Nodup := by
  have := h.ab
  simp [ksN, this]
theorem tb_ok (h : Tn r0 r1 a b many n ta md ca cb) {x y : Int} (hx : 0 ≤ x) (hy : 0 ≤ y) : TabOk (tb2 a b x y) :=
  ⟨tb_nd h, by simp [h.na, h.nb], by simp [hx, hy], by simp⟩
theorem tb_srt (h : Tn r0 r1 a b many n ta md ca cb) {x y : Int} : (ksN (tb2 a b x y)).Pairwise leS := by
  simp [ksN, h.le]
theorem tb_hp (h : Tn r0 r1 a b many n ta md ca cb) {x y : Int} (hx : 0 < x) (hy : 0 < y) : HpOk (tb2 a b x y) :=
  ⟨tb_srt h, tb_nd h, by simp [h.na, h.nb], by simp [hx, hy]⟩
theorem cs_nd (h : Tn r0 r1 a b many n ta md ca cb) : (ksG (cs2 a b many)).Nodup := by
  have := h.ab
  simp [ksG, this]
theorem cs_bk (h : Tn r0 r1 a b many n ta md ca cb) : BkOk (cs2 a b many) := by
  have := h.m0
  refine ⟨cs_nd h, fun k l hm => ?_⟩
  simp at hm
  obtain ⟨rfl, rfl⟩ := hm
  exact tb_hp h (by omega) (by omega)
theorem cs_tabs (h : Tn r0 r1 a b many n ta md ca cb) : ∀ k l, (k, some l) ∈ cs2 a b many → TabOk l := by
  have := h.m0
  intro k l hm
  simp at hm
  obtain ⟨rfl, rfl⟩ := hm
  exact tb_ok h (by omega) (by omega)
theorem cs_mk (h : Tn r0 r1 a b many n ta md ca cb) : mkB (cs2 a b many) = cs2 a b many := by
  have := h.m0
  have hab := h.ab
  have e := mkH_self (tb_hp h (x := 1) (y := many) (by omega) (by omega)) (by simp)
  simp [mkB, ksG, mkC, gO_cons, e, hab]
theorem cs_in (h : Tn r0 r1 a b many n ta md ca cb) : BkIn (cs2 a b many) := by
  have := h.m0
  refine ⟨cs_nd h, by simp [ksG, h.na, h.nb], by simp, fun k l hm => ?_⟩
  simp at hm
  obtain ⟨rfl, rfl⟩ := hm
  exact ⟨tb_hp h (by omega) (by omega), by simp, by simp [ksN, ksG]⟩
theorem cs_sort (h : Tn r0 r1 a b many n ta md ca cb) : sortS (ksG (cs2 a b many)) = ksG (cs2 a b many) := sortS_self (by simp [ksG, h.le]) (cs_nd h)
theorem cs_book (h : Tn r0 r1 a b many n ta md ca cb) : S__law_book.F [.dic (dG sD (cs2 a b many))] = .ok (.ow (bk (cs2 a b many))) [] := by
  have e := book_ev (cs := cs2 a b many) (cs_nd h) (by simp) (cs_tabs h) (by rw [cs_mk h]; exact cs_in h)
  rw [cs_mk h, cs_sort h, reG_self (cs_nd h)] at e
  exact e
theorem cs_eq (h : Tn r0 r1 a b many n ta md ca cb) : S_Book___eq__.F [bk (cs2 a b many), bk (cs2 a b many)] = .ok (.im (.bl true)) [] := book_eq_self (cs_bk h)
theorem rm_eq (h : Tn r0 r1 a b many n ta md ca cb) : bEq (.lst (strL [r0, r1])) (.lst (strL [r0, r1])) = some true := by
  have := eq_strL (l := [r0, r1]) (r := [r0, r1]) (by simp [nameB_ok h.rr.nx, nameB_ok h.rr.ny]) (by simp [nameB_ok h.rr.nx, nameB_ok h.rr.ny])
  simpa using this
theorem rm_rev (h : Tn r0 r1 a b many n ta md ca cb) : bEq (.lst (strL [r1, r0])) (.lst (strL [r0, r1])) = some false := by
  have := eq_strL (l := [r1, r0]) (r := [r0, r1]) (by simp [nameB_ok h.rr.nx, nameB_ok h.rr.ny]) (by simp [nameB_ok h.rr.nx, nameB_ok h.rr.ny])
  have hne := h.rr.ne
  have hne' : ¬ r1 = r0 := fun z => hne z.symm
  simpa [hne, hne'] using this
/-- the list's table -/
abbrev tt2 (a b : Str) (ta md : Int) : HL := tb2 a b (lowI ta md) (lowI 1 md)
theorem tt_of (h : Tn r0 r1 a b many n ta md ca cb) : tabF (ksG (cs2 a b many)) (fun k => lowI (gtD (tb2 a b ta 1) k) md) = tt2 a b ta md := by
  have hab := h.ab
  simp [tabF, ksG, gtD, gtO_cons, hab]
theorem low_lt (h : 0 ≤ md) (hm : md ≤ 9) {x : Int} (hx : 0 ≤ x) (hx2 : x ≤ 9) : 0 ≤ lowI x md ∧ lowI x md ≤ 9 := by
  unfold lowI
  split
  · omega
  · have := Int.emod_nonneg x (b := md) (by omega)
    have := Int.emod_lt_of_pos x (b := md) (by omega)
    omega
theorem low_low {x m : Int} : lowI (lowI x m) m = lowI x m := by
  unfold lowI
  split
  · rfl
  · exact Int.emod_emod_of_dvd _ (Int.dvd_refl _)
theorem tt_wl (h : Tn r0 r1 a b many n ta md ca cb) : WlOk (cs2 a b many) md (tt2 a b ta md) := by
  have h1 := low_lt h.d0 h.d1 h.t0 h.t1
  have h2 := low_lt h.d0 h.d1 (x := 1) (by omega) (by omega)
  refine ⟨h.d0, by simp [ksG, ksN], fun k l hm => ?_⟩
  simp at hm
  obtain ⟨rfl, rfl⟩ := hm
  refine ⟨tb_nd h, by simp, by simp [ksN], fun q hq => ?_⟩
  have := h.m0
  have := h.m1
  simp at hq
  rcases hq with rfl | rfl
  · exact Or.inl ⟨by simp, by simp⟩
  · exact Or.inl ⟨by simp only; omega, by simp only; omega⟩
theorem hon_same (h : Tn r0 r1 a b many n ta md ca cb) : lhonB (cs2 a b many) md (tt2 a b ta md) = honB (cs2 a b many) md (tt2 a b ta md) := by
  unfold lhonB honB
  have e : ∀ k ∈ ksG (cs2 a b many), lowI (gtD (tt2 a b ta md) k) md = gtD (tt2 a b ta md) k := fun k hk => by
    have hab := h.ab
    simp [ksG] at hk
    rcases hk with rfl | rfl
    · simp [gtD, gtO_cons, low_low]
    · simp [gtD, gtO_cons, low_low, hab]
  apply Bool.eq_iff_iff.mpr
  rw [List.all_eq_true, List.all_eq_true]
  constructor
  · intro hh k hk
    have := hh k hk
    rw [e k hk] at this
    exact this
  · intro hh k hk
    have := hh k hk
    rw [e k hk]
    exact this
end
end Pu
namespace Pu
open PySem PySem.Spec PyProof.Rows L2
section
variable {r0 r1 a b : Str} {many n ta md ca cb : Int}
theorem mk2 (h : Tn r0 r1 a b many n ta md ca cb) {x y : Int} : mkH (tb2 a b x y) = (if 0 < x then [(a, x)] else []) ++ (if 0 < y then [(b, y)] else []) := by
  have hab := h.ab
  have es : sortS (ksN (tb2 a b x y)) = [a, b] := sortS_self (tb_srt h) (tb_nd h)
  unfold mkH
  rw [es]
  have e1 : gtD (tb2 a b x y) a = x := by simp [gtD, gtO_cons]
  have e2 : gtD (tb2 a b x y) b = y := by simp [gtD, gtO_cons, hab]
  by_cases hx : 0 < x <;> by_cases hy : 0 < y <;> simp [e1, e2, hx, hy]
theorem wsum2 (h : Tn r0 r1 a b many n ta md ca cb) {u v x y : Int} : wsum (tb2 a b u v) (tb2 a b x y) = x * u + y * v := by
  have hab := h.ab
  simp [wsum, gtD, gtO_cons, hab]
theorem wsumH (h : Tn r0 r1 a b many n ta md ca cb) {u v x y : Int} (hx : 0 ≤ x) (hy : 0 ≤ y) : wsum (tb2 a b u v) (mkH (tb2 a b x y)) = x * u + y * v := by
  have hab := h.ab
  rw [mk2 h]
  by_cases hx' : 0 < x
  · by_cases hy' : 0 < y
    · simp [wsum, gtD, gtO_cons, hab, hx', hy']
    · have : y = 0 := by omega
      subst this
      simp [wsum, gtD, gtO_cons, hab, hx']
  · have : x = 0 := by omega
    subst this
    by_cases hy' : 0 < y
    · simp [wsum, gtD, gtO_cons, hab, hy']
    · have : y = 0 := by omega
      subst this
      simp [wsum]
abbrev h0 (a b : Str) (ca cb : Int) : HL := mkH (tb2 a b ca cb)
theorem h0_ok (h : Tn r0 r1 a b many n ta md ca cb) : HpOk (h0 a b ca cb) := mkH_ok (tb_ok h h.c0 h.b0)
theorem h0_len (h : Tn r0 r1 a b many n ta md ca cb) : (h0 a b ca cb).length ≤ 2 := by
  have := mkH_len (l := tb2 a b ca cb)
  simpa using this
theorem h0_keys (h : Tn r0 r1 a b many n ta md ca cb) : ∀ k ∈ ksN (h0 a b ca cb), k ∈ ksG (cs2 a b many) := fun k hk => by
  rw [mkH_keys] at hk
  have := sortS_mem.mp (List.mem_filter.mp hk).1
  simpa [ksN, ksG] using this
theorem mul2 (h : Tn r0 r1 a b many n ta md ca cb) : mulH n (h0 a b ca cb) = mkH (tb2 a b (n * ca) (n * cb)) := by
  have hab := h.ab
  have z := h0_len h
  have k0 := Int.mul_nonneg h.n0 h.c0
  have k1 := Int.mul_nonneg h.n0 h.b0
  refine hp_ext (mulH_ok h.n0 (h0_ok h) (by omega)) (mkH_ok (tb_ok h k0 k1)) fun k => ?_
  rw [mulH_gtD h.n0 (h0_ok h) (by omega), mkH_gtD (tb_ok h h.c0 h.b0), mkH_gtD (tb_ok h k0 k1)]
  by_cases ha : a = k
  · subst ha; simp [gtD, gtO_cons]
  · by_cases hb : b = k
    · subst hb; simp [gtD, gtO_cons, hab]
    · simp [gtD, gtO_cons, ha, hb, gtO]
abbrev rms (r0 r1 : Str) : List Str := [r0, r1]
theorem sc1_in (h : Tn r0 r1 a b many n ta md ca cb) : ScIn (cs2 a b many) [r0, r1] [.times r0 n] := by
  have hne := h.rr.ne
  have := h.n1
  refine ⟨by simp [hne], by simp [h.rr.nx, h.rr.ny], by simp, by simp, by simp, fun x hx => ?_⟩
  simp at hx
  subst hx
  exact ⟨by simp, h.n0, by omega⟩
theorem sc2_in (h : Tn r0 r1 a b many n ta md ca cb) : ScIn (cs2 a b many) [r0, r1] [.put r1 []] := by
  have hne := h.rr.ne
  refine ⟨by simp [hne], by simp [h.rr.nx, h.rr.ny], by simp, by simp, by simp, fun x hx => ?_⟩
  simp at hx
  subst hx
  exact ⟨by simp, hp_nil, by simp, fun k hk => nomatch hk⟩
theorem st_ok (h : Tn r0 r1 a b many n ta md ca cb) : StOk (cs2 a b many) [r0, r1] [(r0, h0 a b ca cb)] := by
  refine ⟨by simp [ksG], by simp, fun r l hl => ?_⟩
  rw [gO_cons] at hl
  split at hl
  · cases hl
    exact ⟨h0_ok h, h0_keys h⟩
  · cases hl
def dueB (a b : Str) (many n ta md ca cb : Int) : Bool := honB (cs2 a b many) md (tt2 a b ta md) && !decide (lowI (n * ca * lowI ta md + n * cb * lowI 1 md) md = lowI (ca * lowI ta md + cb * lowI 1 md) md)
theorem small_c {n x : Int} (h0 : 0 ≤ x) (h1 : x ≤ 9) : CMul n x := Or.inr ⟨by omega, by omega⟩
theorem worth2 (h : Tn r0 r1 a b many n ta md ca cb) {x y : Int} (hx : 0 ≤ x) (hy : 0 ≤ y) : S_WorthList_worth_of.F [wl (cs2 a b many) md (tt2 a b ta md), hp (mkH (tb2 a b x y))] = .ok (.im (.int (lowI (x * lowI ta md + y * lowI 1 md) md))) [] := by
  have ok := mkH_ok (tb_ok h hx hy)
  have hz := mkH_len (l := tb2 a b x y)
  have h1 := low_lt h.d0 h.d1 h.t0 h.t1
  have h2 := low_lt h.d0 h.d1 (x := 1) (by omega) (by omega)
  have hk : ∀ k ∈ ksN (mkH (tb2 a b x y)), k = a ∨ k = b := fun k hk => by
    rw [mkH_keys] at hk
    have := sortS_mem.mp (List.mem_filter.mp hk).1
    simpa [ksN] using this
  have e := wl_worth (cs := cs2 a b many) (t := tt2 a b ta md) (l := mkH (tb2 a b x y)) h.d0 ok.nd (by simp at hz; omega) (fun k hk' => by
    rcases hk k hk' with rfl | rfl <;> simp [ksN]) (fun q hq => by
    have hab := h.ab
    have := hk q.1 (List.mem_map.mpr ⟨q, hq, rfl⟩)
    rcases this with e | e
    · rw [e]; simp [gtD, gtO_cons]; exact small_c h1.1 h1.2
    · rw [e]; simp [gtD, gtO_cons, hab]; exact small_c h2.1 h2.2)
  rw [wsumH h hx hy] at e
  exact e
theorem worth0 (h : Tn r0 r1 a b many n ta md ca cb) : S_WorthList_worth_of.F [wl (cs2 a b many) md (tt2 a b ta md), hp []] = .ok (.im (.int (lowI 0 md))) [] := by
  have e := worth2 h (x := 0) (y := 0) (by omega) (by omega)
  rw [mk2 h] at e
  simpa using e
theorem hl_ev (h : Tn r0 r1 a b many n ta md ca cb) : S_is_honest_list.F [bk (cs2 a b many), wl (cs2 a b many) md (tt2 a b ta md)] = .ok (.im (.bl (honB (cs2 a b many) md (tt2 a b ta md)))) [] := by
  have := honest_list (cs := cs2 a b many) (cs' := cs2 a b many) (tt_wl h) (cs_eq h)
  simpa using this
theorem run1 (h : Tn r0 r1 a b many n ta md ca cb) : ∃ f, S_Script_run.F [scD (cs2 a b many) [r0, r1] [.times r0 n], .dic (dG hp [(r0, h0 a b ca cb)])] = .ok (.ow (.dic (dG hp f))) [] ∧ gO f r0 = some (mkH (tb2 a b (n * ca) (n * cb))) ∧ gO f r1 = some [] := by
  have e := (run_ok (by simp) (sc1_in h) (st_ok h)).1
  refine ⟨_, e, ?_, ?_⟩
  · simp only [List.foldl_cons, List.foldl_nil, stepD]
    rw [putG_gO (by simp [heaps0, ksG]), if_pos rfl, gH, heaps0_gO]
    simp [gH, gO_cons, mul2 h]
  · have hne := h.rr.ne
    simp only [List.foldl_cons, List.foldl_nil, stepD]
    rw [putG_gO (by simp [heaps0, ksG]), if_neg hne, heaps0_gO]
    simp [gH, gO_cons, hne, gO]
theorem run2 (h : Tn r0 r1 a b many n ta md ca cb) : ∃ f, S_Script_run.F [scD (cs2 a b many) [r0, r1] [.put r1 []], .dic (dG hp [(r0, h0 a b ca cb)])] = .ok (.ow (.dic (dG hp f))) [] ∧ gO f r0 = some (h0 a b ca cb) ∧ gO f r1 = some [] := by
  have e := (run_ok (by simp) (sc2_in h) (st_ok h)).1
  have hne := h.rr.ne
  have hne' : ¬ r1 = r0 := fun z => hne z.symm
  refine ⟨_, e, ?_, ?_⟩
  · simp only [List.foldl_cons, List.foldl_nil, stepD]
    rw [putG_gO (by simp [heaps0, ksG]), if_neg hne', heaps0_gO]
    simp [gH, gO_cons]
  · simp only [List.foldl_cons, List.foldl_nil, stepD]
    rw [putG_gO (by simp [heaps0, ksG]), if_pos rfl, gH, heaps0_gO]
    have : gH [(r0, h0 a b ca cb)] r1 = [] := by simp [gH, gO_cons, hne, gO]
    simp [this, addH_nil hp_nil]
theorem paper0 (h : Tn r0 r1 a b many n ta md ca cb) : S_Differ_holds.F [dfD (scD (cs2 a b many) [r0, r1] [.times r0 n]) (scD (cs2 a b many) [r0, r1] [.put r1 []]) (.dic (dG hp [(r0, h0 a b ca cb)])) (.str r0) (wl (cs2 a b many) md (tt2 a b ta md))] = .ok (.im (.bl (dueB a b many n ta md ca cb))) [] := by
  have hl := hl_ev h
  obtain ⟨f1, e1, g1, _⟩ := run1 h
  obtain ⟨f2, e2, g2, _⟩ := run2 h
  have k0 := Int.mul_nonneg h.n0 h.c0
  have k1 := Int.mul_nonneg h.n0 h.b0
  unfold dueB
  cases hh : honB (cs2 a b many) md (tt2 a b ta md) with
  | true =>
    rw [hh] at hl
    rw [holds_full (by simp) (cs_eq h) (rm_eq h) (st_ok h) (by simp) hl e1 e2 g1 g2 (worth2 h k0 k1) (worth2 h h.c0 h.b0), Bool.true_and]
  | false =>
    rw [hh] at hl
    exact holds_worths (by simp) (cs_eq h) (rm_eq h) (st_ok h) (by simp) hl
theorem paper1 (h : Tn r0 r1 a b many n ta md ca cb) : S_Differ_holds.F [dfD (scD (cs2 a b many) [r0, r1] [.times r0 n]) (scD (cs2 a b many) [r0, r1] [.put r1 []]) (.dic (dG hp [(r0, h0 a b ca cb)])) (.str r1) (wl (cs2 a b many) md (tt2 a b ta md))] = .ok (.im (.bl false)) [] := by
  have hl := hl_ev h
  obtain ⟨f1, e1, _, g1⟩ := run1 h
  obtain ⟨f2, e2, _, g2⟩ := run2 h
  cases hh : honB (cs2 a b many) md (tt2 a b ta md) with
  | true =>
    rw [hh] at hl
    rw [holds_full (by simp) (cs_eq h) (rm_eq h) (st_ok h) (by simp) hl e1 e2 g1 g2 (worth0 h) (worth0 h)]
    simp
  | false =>
    rw [hh] at hl
    exact holds_worths (by simp) (cs_eq h) (rm_eq h) (st_ok h) (by simp) hl
theorem paper2 (h : Tn r0 r1 a b many n ta md ca cb) : S_Differ_holds.F [dfD (scD (cs2 a b many) [r0, r1] [.times r0 n]) (scD (cs2 a b many) [r0, r1] [.times r0 n]) (.dic (dG hp [(r0, h0 a b ca cb)])) (.str r0) (wl (cs2 a b many) md (tt2 a b ta md))] = .ok (.im (.bl false)) [] := by
  have hl := hl_ev h
  obtain ⟨f1, e1, g1, _⟩ := run1 h
  have k0 := Int.mul_nonneg h.n0 h.c0
  have k1 := Int.mul_nonneg h.n0 h.b0
  cases hh : honB (cs2 a b many) md (tt2 a b ta md) with
  | true =>
    rw [hh] at hl
    rw [holds_full (by simp) (cs_eq h) (rm_eq h) (st_ok h) (by simp) hl e1 e1 g1 g1 (worth2 h k0 k1) (worth2 h k0 k1)]
    simp
  | false =>
    rw [hh] at hl
    exact holds_worths (by simp) (cs_eq h) (rm_eq h) (st_ok h) (by simp) hl
end
end Pu
namespace Pu
open PySem PySem.Spec PyProof.Rows L2
abbrev x6 : Str := "xxxxxx"
theorem x6_name : nameB x6 = true := by decide +kernel
theorem x6_len : x6.length = 6 := by decide +kernel
def oddL : List D := [.non, .int 3, .str x6, .lst [.str "a"], .tup [], .bl true]
section
variable {r0 r1 a b : Str} {many n ta md ca cb : Int}
theorem x6_r0 (h : Tn r0 r1 a b many n ta md ca cb) : ¬ x6 = r0 := fun z => by
  have := h.rr.lx
  rw [← z, x6_len] at this
  omega
theorem x6_r1 (h : Tn r0 r1 a b many n ta md ca cb) : ¬ x6 = r1 := fun z => by
  have := h.rr.ly
  rw [← z, x6_len] at this
  omega
def oneD (r0 r1 a b : Str) (many n : Int) : D := scD (cs2 a b many) [r0, r1] [.times r0 n]
def othD (r0 r1 a b : Str) (many : Int) : D := scD (cs2 a b many) [r0, r1] [.put r1 []]
def bkD (a b : Str) (many : Int) : D := bk (cs2 a b many)
def ttK (a b : Str) (ta md : Int) : List (Key × D) := dN (tt2 a b ta md)
abbrev wlD (a b : Str) (many ta md : Int) : D := .ins 2 [(6, bkD a b many), (5, .int md), (4, .dic (ttK a b ta md))]
def stK (r0 a b : Str) (ca cb : Int) : List (Key × D) := dG hp [(r0, h0 a b ca cb)]
theorem p_ok0 (h : Tn r0 r1 a b many n ta md ca cb) : S_Differ_holds.F [dfD (oneD r0 r1 a b many n) (othD r0 r1 a b many) (.dic (stK r0 a b ca cb)) (.str r0) (wlD a b many ta md)] = .ok (.im (.bl (dueB a b many n ta md ca cb))) [] := paper0 h
theorem p_ok1 (h : Tn r0 r1 a b many n ta md ca cb) : S_Differ_holds.F [dfD (oneD r0 r1 a b many n) (othD r0 r1 a b many) (.dic (stK r0 a b ca cb)) (.str r1) (wlD a b many ta md)] = .ok (.im (.bl false)) [] := paper1 h
theorem p_ok2 (h : Tn r0 r1 a b many n ta md ca cb) : S_Differ_holds.F [dfD (oneD r0 r1 a b many n) (oneD r0 r1 a b many n) (.dic (stK r0 a b ca cb)) (.str r0) (wlD a b many ta md)] = .ok (.im (.bl false)) [] := paper2 h
theorem odd_tag {i : Nat} (hi : i < 6) : ∃ t, tagD (oddL.getD i .non) = some t ∧ t ≠ 3 ∧ t ≠ 9 ∧ (t = 0 → i = 2) := by
  match i, hi with
  | 0, _ => exact ⟨6, rfl, by decide, by decide, by decide⟩
  | 1, _ => exact ⟨1, rfl, by decide, by decide, by decide⟩
  | 2, _ => exact ⟨0, rfl, by decide, by decide, by decide⟩
  | 3, _ => exact ⟨4, rfl, by decide, by decide, by decide⟩
  | 4, _ => exact ⟨5, rfl, by decide, by decide, by decide⟩
  | 5, _ => exact ⟨2, rfl, by decide, by decide, by decide⟩
theorem p_bad1 (h : Tn r0 r1 a b many n ta md ca cb) {i : Nat} (hi : i < 6) {w : D} : S_Differ_holds.F [dfD (oneD r0 r1 a b many n) (othD r0 r1 a b many) (oddL.getD i .non) (.str r0) w] = .ok (.im (.bl false)) [] := by
  obtain ⟨t, e, h3, _, _⟩ := odd_tag hi
  exact holds_start (cs_eq h) (rm_eq h) e h3
theorem p_bad2 (h : Tn r0 r1 a b many n ta md ca cb) {i : Nat} (hi : i < 6) {w : D} : S_Differ_holds.F [dfD (oneD r0 r1 a b many n) (othD r0 r1 a b many) (.dic (stK r0 a b ca cb)) (oddL.getD i .non) w] = .ok (.im (.bl false)) [] := by
  obtain ⟨t, e, _, _, h0⟩ := odd_tag hi
  by_cases ht : t = 0
  · have := h0 ht
    subst this
    exact holds_room2 (x := x6) (by simp) (cs_eq h) (rm_eq h) (st_ok h) (by simp [x6_r0 h, x6_r1 h])
  · exact holds_room (by simp) (cs_eq h) (rm_eq h) (st_ok h) e ht
theorem p_bad3 (h : Tn r0 r1 a b many n ta md ca cb) {i : Nat} (hi : i < 6) : S_Differ_holds.F [dfD (oneD r0 r1 a b many n) (othD r0 r1 a b many) (.dic (stK r0 a b ca cb)) (.str r0) (oddL.getD i .non)] = .ok (.im (.bl false)) [] := by
  obtain ⟨t, e, _, h9, _⟩ := odd_tag hi
  exact holds_worths (by simp) (cs_eq h) (rm_eq h) (st_ok h) (by simp) (honest_list_no e h9)
def lostK (r0 a b : Str) (ca cb : Int) : List (Key × D) := dG id [(r0, hp (h0 a b ca cb)), (x6, hp [])]
def wildK (r0 : Str) : List (Key × D) := dG id [(r0, hp [(x6, 1)])]
def badK (r0 a b : Str) (ca cb : Int) : List (Key × D) := dG id [(r0, .dic (dN (tb2 a b ca cb)))]
theorem p_bad4 (h : Tn r0 r1 a b many n ta md ca cb) {w : D} : S_Differ_holds.F [dfD (oneD r0 r1 a b many n) (othD r0 r1 a b many) (.dic (lostK r0 a b ca cb)) (.str r0) w] = .ok (.im (.bl false)) [] := by
  have z := h0_len h
  refine holds_loop (g := fun _ => true) (cs_eq h) (rm_eq h) (fun k v hv => ?_) ?_
  · rw [gO_cons] at hv
    split at hv
    · cases hv
      rw [is_heap_of_hp (h0_ok h) (by omega)]
      have : decide (∀ k ∈ ksN (h0 a b ca cb), k ∈ ksG (cs2 a b many)) = true := decide_eq_true (h0_keys h)
      rw [this]
    · rw [gO_cons] at hv
      split at hv
      · cases hv
        rw [is_heap_of_hp hp_nil (by simp)]
        simp [ksN]
      · cases hv
  · simp [ksG, x6_r0 h, x6_r1 h]
theorem x6_ab (h : Tn r0 r1 a b many n ta md ca cb) (ha : a.length ≤ 5) (hb : b.length ≤ 5) : ¬ x6 = a ∧ ¬ x6 = b := by
  constructor
  · intro z
    rw [← z, x6_len] at ha
    omega
  · intro z
    rw [← z, x6_len] at hb
    omega
theorem p_bad5 (h : Tn r0 r1 a b many n ta md ca cb) (ha : a.length ≤ 5) (hb : b.length ≤ 5) {w : D} : S_Differ_holds.F [dfD (oneD r0 r1 a b many n) (othD r0 r1 a b many) (.dic (wildK r0)) (.str r0) w] = .ok (.im (.bl false)) [] := by
  obtain ⟨q1, q2⟩ := x6_ab h ha hb
  have ok : HpOk [(x6, 1)] := ⟨by simp [ksN], by simp [ksN], by simp [x6_name], by simp⟩
  refine holds_loop (g := fun _ => false) (cs_eq h) (rm_eq h) (fun k v hv => ?_) (by simp [ksG])
  rw [gO_cons] at hv
  split at hv
  · cases hv
    rw [is_heap_of_hp ok (by simp)]
    simp [ksN, ksG, q1, q2]
  · cases hv
theorem p_bad6 (h : Tn r0 r1 a b many n ta md ca cb) {w : D} : S_Differ_holds.F [dfD (oneD r0 r1 a b many n) (othD r0 r1 a b many) (.dic (badK r0 a b ca cb)) (.str r0) w] = .ok (.im (.bl false)) [] := by
  refine holds_loop (g := fun _ => false) (cs_eq h) (rm_eq h) (fun k v hv => ?_) (by simp [ksG])
  rw [gO_cons] at hv
  split at hv
  · cases hv
    exact is_heap_of_no (t := 3) rfl (by decide)
  · cases hv
def revD (r0 r1 a b : Str) (many : Int) : D := scD (cs2 a b many) [r1, r0] []
theorem p_bad7 (h : Tn r0 r1 a b many n ta md ca cb) {st w : D} : S_Differ_holds.F [dfD (oneD r0 r1 a b many n) (revD r0 r1 a b many) st (.str r0) w] = .ok (.im (.bl false)) [] := holds_rooms (cs_eq h) (rm_rev h)
def xbD : D := bk [(x6, none)]
def xsD (r0 r1 : Str) : D := scD [(x6, none)] [r0, r1] []
theorem p_bad8 (h : Tn r0 r1 a b many n ta md ca cb) {st w : D} : S_Differ_holds.F [dfD (oneD r0 r1 a b many n) (xsD r0 r1) st (.str r0) w] = .ok (.im (.bl false)) [] := holds_book (book_eq_len (by simp))
def xwD : D := wl [(x6, none)] 0 [(x6, 1)]
theorem p_bad9 (h : Tn r0 r1 a b many n ta md ca cb) : S_Differ_holds.F [dfD (oneD r0 r1 a b many n) (othD r0 r1 a b many) (.dic (stK r0 a b ca cb)) (.str r0) xwD] = .ok (.im (.bl false)) [] := by
  have w : WlOk [(x6, none)] 0 [(x6, 1)] := ⟨by omega, by simp [ksG, ksN], fun k l hm => by simp at hm⟩
  have e := honest_list (cs := [(x6, none)]) (cs' := cs2 a b many) w (b := false) (book_eq_len (by simp))
  exact holds_worths (by simp) (cs_eq h) (rm_eq h) (st_ok h) (by simp) e
theorem mk_one (h : Tn r0 r1 a b many n ta md ca cb) : mkO 3 S_Script___init___s1.F [bkD a b many, .lst [.str r0, .str r1], .tup [.str "times", .str r0, .int n]] = .ok (.ow (oneD r0 r1 a b many n)) [] := by
  have e : S_Script___init___s1.F [.ins 3 [], bkD a b many, .lst [.str r0, .str r1], .tup [.str "times", .str r0, .int n]] = _ := script_init (sc1_in h)
  unfold mkO
  rw [e]
  rfl
theorem mk_oth (h : Tn r0 r1 a b many n ta md ca cb) : mkO 3 S_Script___init___s1.F [bkD a b many, .lst [.str r0, .str r1], .tup [.str "put", .str r1, hp []]] = .ok (.ow (othD r0 r1 a b many)) [] := by
  have e : S_Script___init___s1.F [.ins 3 [], bkD a b many, .lst [.str r0, .str r1], .tup [.str "put", .str r1, hp []]] = _ := script_init (sc2_in h)
  unfold mkO
  rw [e]
  rfl
theorem mk_rev (h : Tn r0 r1 a b many n ta md ca cb) : mkO 3 S_Script___init___s0.F [bkD a b many, .lst [.str r1, .str r0]] = .ok (.ow (revD r0 r1 a b many)) [] := by
  have hne := h.rr.ne
  have hne' : ¬ r1 = r0 := fun z => hne z.symm
  have i : ScIn (cs2 a b many) [r1, r0] [] := ⟨by simp [hne'], by simp [h.rr.nx, h.rr.ny], by simp, by simp, by simp, fun x hx => nomatch hx⟩
  have e : S_Script___init___s0.F [.ins 3 [], bkD a b many, .lst [.str r1, .str r0]] = _ := script_init i
  unfold mkO
  rw [e]
  rfl
theorem xb_in : BkIn [(x6, none)] := ⟨by simp [ksG], by simp [ksG, x6_name], by simp, fun k l hm => by simp at hm⟩
theorem mk_xb : mkO 1 S_Book___init__.F [.dic [(.inr x6, .non)]] = .ok (.ow xbD) [] := by
  have e := book_new xb_in
  rw [sortS_self (by simp [ksG]) (by simp [ksG]), reG_self (by simp [ksG])] at e
  exact e
theorem mk_xs (h : Tn r0 r1 a b many n ta md ca cb) : mkO 3 S_Script___init___s0.F [xbD, .lst [.str r0, .str r1]] = .ok (.ow (xsD r0 r1)) [] := by
  have hne := h.rr.ne
  have i : ScIn [(x6, none)] [r0, r1] [] := ⟨by simp [hne], by simp [h.rr.nx, h.rr.ny], by simp, by simp, by simp, fun x hx => nomatch hx⟩
  have e : S_Script___init___s0.F [.ins 3 [], xbD, .lst [.str r0, .str r1]] = _ := script_init i
  unfold mkO
  rw [e]
  rfl
theorem mk_xw : mkO 2 S_WorthList___init__.F [xbD, .dic [(.inr x6, .int 1)]] = .ok (.ow xwD) [] := by
  have e := wl_init (cs := [(x6, none)]) (t := [(x6, 1)]) (m := 0) (by omega) (by simp [ksG]) (by simp) (by simp [ksN, ksG]) (by simp [ksN, ksG])
  have e2 : S_WorthList___init__.F [.ins 2 [], xbD, .dic [(.inr x6, .int 1)]] = _ := e
  unfold mkO
  rw [e2]
  rfl
theorem mk_wl (h : Tn r0 r1 a b many n ta md ca cb) : runF 5 [true, false, false, false] d_WorthList___init__ [.ins 2 [], bkD a b many, .dic [(.inr a, .int ta), (.inr b, .int 1)], .int md] = .ok (.im .non) [wlD a b many ta md] := by
  have e := wl_init (cs := cs2 a b many) (t := tb2 a b ta 1) (m := md) h.d0 (cs_nd h) (by simp) (by simp [ksN, ksG]) (by simp [ksN, ksG])
  rw [tt_of h] at e
  exact e
theorem mk_book (h : Tn r0 r1 a b many n ta md ca cb) : S__law_book.F [.dic [(.inr a, .dic [(.inr a, .int 1), (.inr b, .int many)]), (.inr b, .non)]] = .ok (.ow (bkD a b many)) [] := cs_book h
theorem mk_start (h : Tn r0 r1 a b many n ta md ca cb) : S__law_made.F [.dic [(.inr a, .int ca), (.inr b, .int cb)]] = .ok (.ow (hp (h0 a b ca cb))) [] := made_ev (tb_ok h h.c0 h.b0)
theorem wt_ev (h : Tn r0 r1 a b many n ta md ca cb) : S_WorthList_table.F [wlD a b many ta md] = .ok (.ow (.dic (ttK a b ta md))) [] := wl_table (cs := cs2 a b many) (tb_nd h) (by simp)
theorem due_ev (h : Tn r0 r1 a b many n ta md ca cb) : S__law_parted_so.F [.dic [(.inr a, .dic [(.inr a, .int 1), (.inr b, .int many)]), (.inr b, .non)], .dic [(.inr a, .int (n * ca)), (.inr b, .int (n * cb))], .dic [(.inr a, .int ca), (.inr b, .int cb)], wlD a b many ta md] = .ok (.im (.bl (dueB a b many n ta md ca cb))) [] := by
  have h1 := low_lt h.d0 h.d1 h.t0 h.t1
  have h2 := low_lt h.d0 h.d1 (x := 1) (by omega) (by omega)
  have k0 := Int.mul_nonneg h.n0 h.c0
  have k1 := Int.mul_nonneg h.n0 h.b0
  have hab := h.ab
  have m0 := h.m0
  have l1 := list_so_ev (cw := cs2 a b many) (tt_wl h) (fun k l hm q hq => by
    simp at hm
    obtain ⟨rfl, rfl⟩ := hm
    simp at hq
    rcases hq with rfl | rfl
    · exact (by decide : (0 : Int) ≤ 1)
    · show 0 ≤ many
      omega) (tb_nd h) (by simp) (by rw [cs_sort h]; simp [ksN, ksG]) (by simp) (by simp [ksG, nameB_ok h.na, nameB_ok h.nb])
  rw [hon_same h] at l1
  have cm : ∀ x y : Int, ∀ q ∈ tb2 a b x y, CMul q.2 (gtD (tt2 a b ta md) q.1) := fun x y q hq => by
    simp at hq
    rcases hq with rfl | rfl
    · simp [gtD, gtO_cons]; exact small_c h1.1 h1.2
    · simp [gtD, gtO_cons, hab]; exact small_c h2.1 h2.2
  have w1 := lworth_ev (t := tt2 a b ta md) (l := tb2 a b (n * ca) (n * cb)) h.d0 (tb_nd h) (by simp) (by simp [k0, k1]) (by simp [ksN]) (cm _ _)
  have w2 := lworth_ev (t := tt2 a b ta md) (l := tb2 a b ca cb) h.d0 (tb_nd h) (by simp) (by simp [h.c0, h.b0]) (by simp [ksN]) (cm _ _)
  rw [wsum2 h] at w1 w2
  have e := parted_ev (l := tb2 a b (n * ca) (n * cb)) (r := tb2 a b ca cb) l1 (tb_nd h) (by simp) w1 w2
  unfold dueB
  exact e
theorem plus2 (h : Tn r0 r1 a b many n ta md ca cb) : S__law_plus.F [.dic [], .dic [(.inr a, .int ca), (.inr b, .int cb)], .int n] = .ok (.ow (.dic [(.inr a, .int (n * ca)), (.inr b, .int (n * cb))])) [] := by
  have hab := h.ab
  have h0 := h.n0
  have h1 := h.n1
  have e := plus_ev (l := tb2 a b ca cb) (n := n) (tb_nd h) (by simp) (fun i => Or.inl ⟨by omega, by omega⟩)
  have e2 : tabF (ksN (tb2 a b ca cb)) (fun k => n * gtD (tb2 a b ca cb) k) = tb2 a b (n * ca) (n * cb) := by
    simp [tabF, ksN, gtD, gtO_cons, hab]
  rw [e2] at e
  exact e
end
end Pu
namespace Pu
open PySem PySem.Spec PyProof.Rows L2
def lt_0 : SF :=
 (sAsg (gNam 1) (eCall S__law_bag (lCons (eVar 0) lNil)))
def lt_2 : SF :=
 (sPar [(gNam 25), (gNam 26)] (lCons (eCall S__law_book (lCons (eDisp [((eCon (.str "a")), (eDisp [((eCon (.str "a")), (eTwo (bBin .Add) (eCon (.int 2)) (eCall S__law_draw (lCons (eVar 1) (lCons (eCon (.int 9)) lNil)))))])), ((eCon (.str "b")), (eCon .non))]) lNil)) (lCons (eCall S__law_book (lCons (eDisp [((eCon (.str "a")), (eCon .non)), ((eCon (.str "b")), (eCon .non))]) lNil)) lNil)))
def lt_3 : SF :=
 (sPar [(gNam 11), (gNam 27)] (lCons (eMake 3 (List.tail S_Script___init___s1.fl) S_Script___init___s1.F (lCons (eVar 25) (lCons (eLst (lCons (eCon (.str "r")) lNil)) (lCons (eTup (lCons (eCon (.str "put")) (lCons (eCon (.str "r")) (lCons (eCall S_Heap_of_s1 (lCons (eCon (.str "b")) lNil)) lNil)))) lNil)))) (lCons (eMake 2 (List.tail S_WorthList___init__.fl) S_WorthList___init__.F (lCons (eVar 25) (lCons (eDisp [((eCon (.str "a")), (eCon (.int 0))), ((eCon (.str "b")), (eCon (.int 1)))]) lNil))) lNil)))
def lt_4 : SF :=
 (sAsg (gNam 28) (eLst (lCons (eMake 4 (List.tail S_Differ___init__.fl) S_Differ___init__.F (lCons (eVar 11) (lCons (eMake 3 (List.tail S_Script___init___s0.fl) S_Script___init___s0.F (lCons (eVar 25) (lCons (eLst (lCons (eCon (.str "r")) lNil)) lNil))) (lCons (fun ρ => .ok (.ow (.dic [])) ρ) (lCons (eCon (.str "r")) (lCons (eVar 27) lNil)))))) (lCons (eMake 4 (List.tail S_Differ___init__.fl) S_Differ___init__.F (lCons (eVar 11) (lCons (eMake 3 (List.tail S_Script___init___s0.fl) S_Script___init___s0.F (lCons (eVar 26) (lCons (eLst (lCons (eCon (.str "r")) lNil)) lNil))) (lCons (fun ρ => .ok (.ow (.dic [])) ρ) (lCons (eCon (.str "r")) (lCons (eVar 27) lNil)))))) lNil))))
def lt_5 : SF :=
 (sRet (eOp (hEqA false .Eq [(0, S_Heap___eq__), (1, S_Book___eq__)]) (eLc (iVal (eVar 28)) (.nm 19) tYesF (eMeth (fun c => List.lookup c [(4, S_Differ_holds)]) 23 (eVar 19) lNil) [19]) (eLst (lCons (eCon (.bl true)) (lCons (eCon (.bl false)) lNil)))))
def lw_0 : SF :=
 (sPar [(gNam 3), (gNam 4), (gNam 5)] (lCons (eCall S__law_words (lCons (eVar 1) (lCons (eCon (.int 2)) lNil))) (lCons (eB (bSorted) (lCons (eCall S__law_words (lCons (eVar 1) (lCons (eCon (.int 2)) lNil))) lNil)) (lCons (eTwo (bBin .Add) (eCon (.int 2)) (eCall S__law_draw (lCons (eVar 1) (lCons (eCon (.int 8)) lNil)))) lNil))))
def lw_1 : SF :=
 (sAsg (gTupD [(gNam 6), (gNam 7)]) (eVar 4))
def lw_2 : SF :=
 (sAsg (gNam 8) (fun ρ => .ok (.ow (.dic [])) ρ))
def lw_3 : SF :=
 (sPar [(gSubs (eVar 8) (eVar 6)), (gSubs (eVar 8) (eVar 7))] (lCons (eDisp [((eVar 6), (eCon (.int 1))), ((eVar 7), (eVar 5))]) (lCons (eCon .non) lNil)))
def lw_4 : SF :=
 (sPar [(gNam 9), (gNam 10)] (lCons (eCall S__law_book (lCons (eVar 8) lNil)) (lCons (eCall S__law_draw (lCons (eVar 1) (lCons (eCon (.int 12)) lNil))) lNil)))
def lw_5 : SF :=
 (sPar [(gNam 11), (gNam 12)] (lCons (eMake 3 (List.tail S_Script___init___s1.fl) S_Script___init___s1.F (lCons (eVar 9) (lCons (eVar 3) (lCons (eTup (lCons (eCon (.str "times")) (lCons (eOp hSub (eVar 3) (eCon (.int 0))) (lCons (eVar 10) lNil)))) lNil)))) (lCons (eMake 3 (List.tail S_Script___init___s1.fl) S_Script___init___s1.F (lCons (eVar 9) (lCons (eVar 3) (lCons (eTup (lCons (eCon (.str "put")) (lCons (eOp hSub (eVar 3) (eCon (.int 1))) (lCons (eMake 0 (List.tail S_Heap___init___1.fl) S_Heap___init___1.F lNil) lNil)))) lNil)))) lNil)))
def lw_6 : SF :=
 (sAsg (gNam 13) (fun ρ => .ok (.ow (.dic [])) ρ))
def lw_7 : SF :=
 (sPar [(gSubs (eVar 13) (eVar 6)), (gSubs (eVar 13) (eVar 7))] (lCons (eCall S__law_draw (lCons (eVar 1) (lCons (eVar 5) lNil))) (lCons (eCon (.int 1)) lNil)))
def lw_8 : SF :=
 (sAsg (gNam 14) (eMakeK 2 2 1 (fun ds es => ds ++ es) (runF 5 [true, false, false, false] d_WorthList___init__) (lCons (eCall S__law_of (lCons (eVar 1) (lCons (eLst (lCons (eVar 9) (lCons (eCall S__law_book (lCons (eVar 8) lNil)) lNil))) lNil))) (lCons (eVar 13) lNil)) (lCons (eCall S__law_of (lCons (eVar 1) (lCons (eLst (lCons (eVar 5) (lCons (eVar 5) (lCons (eCon (.int 0)) (lCons (eCon (.int 2)) lNil))))) lNil))) lNil)))
def lw_9 : SF :=
 (sAsg (gNam 15) (fun ρ => .ok (.ow (.dic [])) ρ))
def lw_10 : SF :=
 (sPar [(gSubs (eVar 15) (eVar 6)), (gSubs (eVar 15) (eVar 7))] (lCons (eCall S__law_draw (lCons (eVar 1) (lCons (eCon (.int 4)) lNil))) (lCons (eCall S__law_draw (lCons (eVar 1) (lCons (eCon (.int 60)) lNil))) lNil)))
def lw_11 : SF :=
 (sAsg (gNam 16) (fun ρ => .ok (.ow (.dic [])) ρ))
def lw_12 : SF :=
 (sAsg (gSubs (eVar 16) (eOp hSub (eVar 3) (eCon (.int 0)))) (eCall S__law_made (lCons (eVar 15) lNil)))
def lw_13 : SF :=
 (sAsg (gNam 17) (eMeth (fun c => List.lookup c [(2, S_WorthList_table)]) 22 (eVar 14) lNil))
def lw_14 : SF :=
 (sAsg (gNam 18) (eCall S__law_parted_so (lCons (eVar 8) (lCons (eCall S__law_plus (lCons (fun ρ => .ok (.ow (.dic [])) ρ) (lCons (eVar 15) (lCons (eVar 10) lNil)))) (lCons (eVar 15) (lCons (eVar 14) lNil))))))
def lw_15 : SF :=
 (sAsg (gNam 19) (eMake 4 (List.tail S_Differ___init__.fl) S_Differ___init__.F (lCons (eVar 11) (lCons (eVar 12) (lCons (eVar 16) (lCons (eOp hSub (eVar 3) (eCon (.int 0))) (lCons (eVar 14) lNil)))))))
def lw_16 : SF :=
 (sIf (tNotF (tVal (eCall (S__law_same 2) (lCons (eLst (lCons (eMeth (fun c => List.lookup c [(4, S_Differ_holds)]) 23 (eVar 19) lNil) (lCons (eRepr [(4, S_Differ___repr__)] (lCons (eVar 19) lNil)) (lCons (eMeth (fun c => List.lookup c [(4, S_Differ_holds)]) 23 (eVar 19) lNil) (lCons (eFld (fun c => [4].contains c) 17 (eVar 19)) lNil))))) (lCons (eLst (lCons (eVar 18) (lCons (eTwo (bBin .Add) (eTwo (bBin .Add) (eCon (.str "Differ(")) (eOp hSub (eVar 3) (eCon (.int 0)))) (eCon (.str ")"))) (lCons (eVar 18) (lCons (eOp hSub (eVar 3) (eCon (.int 0))) lNil))))) lNil))))) (sSeq (sRet (eCon (.bl false)))
 sSkip) sSkip)
def lw_17 : SF :=
 (sIf (tOrF (tVal (eMeth (fun c => List.lookup c [(4, S_Differ_holds)]) 23 (eMake 4 (List.tail S_Differ___init__.fl) S_Differ___init__.F (lCons (eVar 11) (lCons (eVar 12) (lCons (eVar 16) (lCons (eOp hSub (eVar 3) (eCon (.int 1))) (lCons (eVar 14) lNil)))))) lNil)) (tOrF (tVal (eMeth (fun c => List.lookup c [(4, S_Differ_holds)]) 23 (eMake 4 (List.tail S_Differ___init__.fl) S_Differ___init__.F (lCons (eVar 11) (lCons (eVar 11) (lCons (eVar 16) (lCons (eOp hSub (eVar 3) (eCon (.int 0))) (lCons (eVar 14) lNil)))))) lNil)) (tBl (eOp (hEqA true .NotEq [(0, S_Heap___eq__), (1, S_Book___eq__)]) (eMeth (fun c => List.lookup c [(2, S_WorthList_table)]) 22 (eFld (fun c => [4].contains c) 16 (eVar 19)) lNil) (eVar 17))))) (sSeq (sRet (eCon (.bl false)))
 sSkip) sSkip)
def lw_18 : SF :=
 (sAsg (gNam 20) (eCall S__law_of (lCons (eVar 1) (lCons (eLst (lCons (eCon .non) (lCons (eCon (.int 3)) (lCons (eCon (.str "xxxxxx")) (lCons (eLst (lCons (eCon (.str "a")) lNil)) (lCons (eTup lNil) (lCons (eCon (.bl true)) lNil))))))) lNil))))
def lw_19 : SF :=
 (sPar [(gNam 21), (gNam 22), (gNam 23)] (lCons (eDicIt (eVar 16)) (lCons (fun ρ => .ok (.ow (.dic [])) ρ) (lCons (fun ρ => .ok (.ow (.dic [])) ρ) lNil))))
def lw_20 : SF :=
 (sPar [(gSubs (eVar 21) (eCon (.str "xxxxxx"))), (gSubs (eVar 22) (eOp hSub (eVar 3) (eCon (.int 0)))), (gSubs (eVar 23) (eOp hSub (eVar 3) (eCon (.int 0))))] (lCons (eMake 0 (List.tail S_Heap___init___1.fl) S_Heap___init___1.F lNil) (lCons (eCall S_Heap_of_s1 (lCons (eCon (.str "xxxxxx")) lNil)) (lCons (eVar 15) lNil))))
def lw_21 : SF :=
 (sAsg (gNam 24) (eLst (lCons (eMake 4 (List.tail S_Differ___init__.fl) S_Differ___init__.F (lCons (eVar 11) (lCons (eVar 12) (lCons (eVar 20) (lCons (eOp hSub (eVar 3) (eCon (.int 0))) (lCons (eVar 14) lNil)))))) (lCons (eMake 4 (List.tail S_Differ___init__.fl) S_Differ___init__.F (lCons (eVar 11) (lCons (eVar 12) (lCons (eVar 16) (lCons (eVar 20) (lCons (eVar 14) lNil)))))) (lCons (eMake 4 (List.tail S_Differ___init__.fl) S_Differ___init__.F (lCons (eVar 11) (lCons (eVar 12) (lCons (eVar 16) (lCons (eOp hSub (eVar 3) (eCon (.int 0))) (lCons (eVar 20) lNil)))))) lNil)))))
def lw_22 : SF :=
 (sAsg (gNam 24) (eTwo (bBin .Add) (eVar 24) (eLst (lCons (eMake 4 (List.tail S_Differ___init__.fl) S_Differ___init__.F (lCons (eVar 11) (lCons (eVar 12) (lCons (eVar 21) (lCons (eOp hSub (eVar 3) (eCon (.int 0))) (lCons (eVar 14) lNil)))))) (lCons (eMake 4 (List.tail S_Differ___init__.fl) S_Differ___init__.F (lCons (eVar 11) (lCons (eVar 12) (lCons (eVar 22) (lCons (eOp hSub (eVar 3) (eCon (.int 0))) (lCons (eVar 14) lNil)))))) (lCons (eMake 4 (List.tail S_Differ___init__.fl) S_Differ___init__.F (lCons (eVar 11) (lCons (eVar 12) (lCons (eVar 23) (lCons (eOp hSub (eVar 3) (eCon (.int 0))) (lCons (eVar 14) lNil)))))) lNil))))))
def lw_23 : SF :=
 (sExp (eMt "list" cAppend (eVar 24) (lCons (eMakeK 4 0 5 (fun ds es => ds ++ es.reverse) (runF 6 [true, false, false, false, false, false] d_Differ___init__) lNil (lCons (eVar 14) (lCons (eOp hSub (eVar 3) (eCon (.int 0))) (lCons (eVar 16) (lCons (eMake 3 (List.tail S_Script___init___s0.fl) S_Script___init___s0.F (lCons (eVar 9) (lCons (eRev (eVar 3)) lNil))) (lCons (eVar 11) lNil)))))) lNil)))
def lw_24 : SF :=
 (sExp (eMt "list" cAppend (eVar 24) (lCons (eMake 4 (List.tail S_Differ___init__.fl) S_Differ___init__.F (lCons (eVar 11) (lCons (eMake 3 (List.tail S_Script___init___s0.fl) S_Script___init___s0.F (lCons (eMake 1 (List.tail S_Book___init__.fl) S_Book___init__.F (lCons (eDisp [((eCon (.str "xxxxxx")), (eCon .non))]) lNil)) (lCons (eVar 3) lNil))) (lCons (eVar 16) (lCons (eOp hSub (eVar 3) (eCon (.int 0))) (lCons (eVar 14) lNil)))))) lNil)))
def lw_25 : SF :=
 (sExp (eMt "list" cAppend (eVar 24) (lCons (eMake 4 (List.tail S_Differ___init__.fl) S_Differ___init__.F (lCons (eVar 11) (lCons (eVar 12) (lCons (eVar 16) (lCons (eOp hSub (eVar 3) (eCon (.int 0))) (lCons (eMake 2 (List.tail S_WorthList___init__.fl) S_WorthList___init__.F (lCons (eMake 1 (List.tail S_Book___init__.fl) S_Book___init__.F (lCons (eDisp [((eCon (.str "xxxxxx")), (eCon .non))]) lNil)) (lCons (eDisp [((eCon (.str "xxxxxx")), (eCon (.int 1)))]) lNil))) lNil)))))) lNil)))
def lw_26 : SF :=
 (sIf (tOrF (tBl (eOp (hEqA true .NotEq [(0, S_Heap___eq__), (1, S_Book___eq__)]) (eLc (iVal (eVar 24)) (.nm 29) tYesF (eMeth (fun c => List.lookup c [(4, S_Differ_holds)]) 23 (eVar 29) lNil) [29]) (eTwo (bBin .Mult) (eLst (lCons (eCon (.bl false)) lNil)) (eCon (.int 9))))) (tBl (eOp (hEqA true .NotEq [(0, S_Heap___eq__), (1, S_Book___eq__)]) (eRepr [(4, S_Differ___repr__)] (lCons (eOp hSub (eVar 24) (eCon (.int 1))) lNil)) (eIf (tBl (eOp (hEqA false .Eq [(0, S_Heap___eq__), (1, S_Book___eq__)]) (eVar 20) (eCon (.str "xxxxxx")))) (eCon (.str "Differ(xxxxxx)")) (eCon (.str "Differ()")))))) (sSeq (sRet (eCon (.bl false)))
 sSkip) sSkip)
def lw_all : SF := sSeq lw_0 (sSeq lw_1 (sSeq lw_2 (sSeq lw_3 (sSeq lw_4 (sSeq lw_5 (sSeq lw_6 (sSeq lw_7 (sSeq lw_8 (sSeq lw_9 (sSeq lw_10 (sSeq lw_11 (sSeq lw_12 (sSeq lw_13 (sSeq lw_14 (sSeq lw_15 (sSeq lw_16 (sSeq lw_17 (sSeq lw_18 (sSeq lw_19 (sSeq lw_20 (sSeq lw_21 (sSeq lw_22 (sSeq lw_23 (sSeq lw_24 (sSeq lw_25 (sSeq lw_26 (sSkip)))))))))))))))))))))))))))
theorem d_law_eq : d_law = sSeq lt_0 (sSeq (sFor (iRng1 (lCons (eCon (.int 3)) lNil)) (gNam 2) lw_all) (sSeq lt_2 (sSeq lt_3 (sSeq lt_4 (sSeq lt_5 (sSkip)))))) := rfl
end Pu
namespace Pu
open PySem PySem.Spec PyProof.Rows L2
def muB : Sl → Bool
  | .mu _ => true
  | _ => false
@[simp] theorem mu_no : muB .no = false := rfl
@[simp] theorem mu_im {d : D} : muB (.im d) = false := rfl
@[simp] theorem mu_ow {d : D} : muB (.ow d) = false := rfl
theorem ev_nam2 {i : Nat} {r : RV} {ρ : Rho} : gNam i r ρ = (match ρ[i]? with
  | some s => if muB s = true then none else (match slOf r with
    | some x => some (ρ.set i x)
    | none => none)
  | none => none) := by
  unfold gNam
  cases ρ[i]? with
  | none => rfl
  | some s => cases s <;> cases slOf r <;> rfl
theorem t_0 {a b r0 r1 x y : Str} {dd : Int} {b0 b1 b2 b3 : D} {s2 s3 s4 s5 s6 s7 s8 s9 s10 s11 s12 s13 s14 s15 s16 s17 s18 s19 s20 s21 s22 s23 s24 : Sl} {ns : List Int} (q3 : muB s3 = false) (q4 : muB s4 = false) (q5 : muB s5 = false) (e1 : S__law_words.F [b0, .int 2] = .ok (.ow (.lst [.str r0, .str r1])) [b1]) (e2 : S__law_words.F [b1, .int 2] = .ok (.ow (.lst [.str x, .str y])) [b2]) (e3 : bSorted [.lst [.str x, .str y]] = some (.lst [.str a, .str b])) (e4 : S__law_draw.F [b2, .int 8] = .ok (.im (.int dd)) [b3]) : lw_0 [.im (.scr ns), .ow b0, s2, s3, s4, s5, s6, s7, s8, s9, s10, s11, s12, s13, s14, s15, s16, s17, s18, s19, s20, s21, s22, s23, s24, .no, .no, .no, .no, .no] = .nx [.im (.scr ns), .ow b3, s2, .ow (.lst [.str r0, .str r1]), .ow (.lst [.str a, .str b]), .im (.int (2 + dd)), s6, s7, s8, s9, s10, s11, s12, s13, s14, s15, s16, s17, s18, s19, s20, s21, s22, s23, s24, .no, .no, .no, .no, .no] := by
  simp [lw_0, ev_nam2, -ev_nam, q3, q4, q5, e1, e2, e3, e4]
theorem t_1 {a b r0 r1 : Str} {many : Int} {b3 : D} {s2 s6 s7 s8 s9 s10 s11 s12 s13 s14 s15 s16 s17 s18 s19 s20 s21 s22 s23 s24 : Sl} {ns : List Int} (q6 : muB s6 = false) (q7 : muB s7 = false) : lw_1 [.im (.scr ns), .ow b3, s2, .ow (.lst [.str r0, .str r1]), .ow (.lst [.str a, .str b]), .im (.int many), s6, s7, s8, s9, s10, s11, s12, s13, s14, s15, s16, s17, s18, s19, s20, s21, s22, s23, s24, .no, .no, .no, .no, .no] = .nx [.im (.scr ns), .ow b3, s2, .ow (.lst [.str r0, .str r1]), .im (.lst [.str a, .str b]), .im (.int many), .im (.str a), .im (.str b), s8, s9, s10, s11, s12, s13, s14, s15, s16, s17, s18, s19, s20, s21, s22, s23, s24, .no, .no, .no, .no, .no] := by
  simp [lw_1, ev_nam2, -ev_nam, q6, q7]
theorem t_2 {a b r0 r1 : Str} {many : Int} {b3 : D} {s2 s8 s9 s10 s11 s12 s13 s14 s15 s16 s17 s18 s19 s20 s21 s22 s23 s24 : Sl} {ns : List Int} (q8 : muB s8 = false) : lw_2 [.im (.scr ns), .ow b3, s2, .ow (.lst [.str r0, .str r1]), .im (.lst [.str a, .str b]), .im (.int many), .im (.str a), .im (.str b), s8, s9, s10, s11, s12, s13, s14, s15, s16, s17, s18, s19, s20, s21, s22, s23, s24, .no, .no, .no, .no, .no] = .nx [.im (.scr ns), .ow b3, s2, .ow (.lst [.str r0, .str r1]), .im (.lst [.str a, .str b]), .im (.int many), .im (.str a), .im (.str b), .ow (.dic []), s9, s10, s11, s12, s13, s14, s15, s16, s17, s18, s19, s20, s21, s22, s23, s24, .no, .no, .no, .no, .no] := by
  simp [lw_2, ev_nam2, -ev_nam, q8]
theorem t_3 {a b r0 r1 : Str} {many : Int} {b3 : D} {s2 s9 s10 s11 s12 s13 s14 s15 s16 s17 s18 s19 s20 s21 s22 s23 s24 : Sl} {ns : List Int} (hab : ¬ a = b) : lw_3 [.im (.scr ns), .ow b3, s2, .ow (.lst [.str r0, .str r1]), .im (.lst [.str a, .str b]), .im (.int many), .im (.str a), .im (.str b), .ow (.dic []), s9, s10, s11, s12, s13, s14, s15, s16, s17, s18, s19, s20, s21, s22, s23, s24, .no, .no, .no, .no, .no] = .nx [.im (.scr ns), .ow b3, s2, .ow (.lst [.str r0, .str r1]), .im (.lst [.str a, .str b]), .im (.int many), .im (.str a), .im (.str b), .ow (.dic [(.inr a, .dic [(.inr a, .int 1), (.inr b, .int many)]), (.inr b, .non)]), s9, s10, s11, s12, s13, s14, s15, s16, s17, s18, s19, s20, s21, s22, s23, s24, .no, .no, .no, .no, .no] := by
  simp [lw_3, ev_nam2, -ev_nam, hab, eDisp, dGo, keyD, putD]
theorem t_4 {a b r0 r1 : Str} {many n : Int} {bk b3 b4 : D} {s2 s9 s10 s11 s12 s13 s14 s15 s16 s17 s18 s19 s20 s21 s22 s23 s24 : Sl} {ns : List Int} (q9 : muB s9 = false) (q10 : muB s10 = false) (e1 : S__law_book.F [.dic [(.inr a, .dic [(.inr a, .int 1), (.inr b, .int many)]), (.inr b, .non)]] = .ok (.ow bk) []) (e2 : S__law_draw.F [b3, .int 12] = .ok (.im (.int n)) [b4]) : lw_4 [.im (.scr ns), .ow b3, s2, .ow (.lst [.str r0, .str r1]), .im (.lst [.str a, .str b]), .im (.int many), .im (.str a), .im (.str b), .ow (.dic [(.inr a, .dic [(.inr a, .int 1), (.inr b, .int many)]), (.inr b, .non)]), s9, s10, s11, s12, s13, s14, s15, s16, s17, s18, s19, s20, s21, s22, s23, s24, .no, .no, .no, .no, .no] = .nx [.im (.scr ns), .ow b4, s2, .ow (.lst [.str r0, .str r1]), .im (.lst [.str a, .str b]), .im (.int many), .im (.str a), .im (.str b), .im (.dic [(.inr a, .dic [(.inr a, .int 1), (.inr b, .int many)]), (.inr b, .non)]), .ow bk, .im (.int n), s11, s12, s13, s14, s15, s16, s17, s18, s19, s20, s21, s22, s23, s24, .no, .no, .no, .no, .no] := by
  simp [lw_4, ev_nam2, -ev_nam, q9, q10, e1, e2]
theorem t_5 {a b r0 r1 : Str} {many n : Int} {bk one oth b4 : D} {s2 s11 s12 s13 s14 s15 s16 s17 s18 s19 s20 s21 s22 s23 s24 : Sl} {ns : List Int} (q11 : muB s11 = false) (q12 : muB s12 = false) (e1 : mkO 3 S_Script___init___s1.F [bk, .lst [.str r0, .str r1], .tup [.str "times", .str r0, .int n]] = .ok (.ow one) []) (e2 : mkO 3 S_Script___init___s1.F [bk, .lst [.str r0, .str r1], .tup [.str "put", .str r1, hp []]] = .ok (.ow oth) []) : lw_5 [.im (.scr ns), .ow b4, s2, .ow (.lst [.str r0, .str r1]), .im (.lst [.str a, .str b]), .im (.int many), .im (.str a), .im (.str b), .im (.dic [(.inr a, .dic [(.inr a, .int 1), (.inr b, .int many)]), (.inr b, .non)]), .ow bk, .im (.int n), s11, s12, s13, s14, s15, s16, s17, s18, s19, s20, s21, s22, s23, s24, .no, .no, .no, .no, .no] = .nx [.im (.scr ns), .ow b4, s2, .im (.lst [.str r0, .str r1]), .im (.lst [.str a, .str b]), .im (.int many), .im (.str a), .im (.str b), .im (.dic [(.inr a, .dic [(.inr a, .int 1), (.inr b, .int many)]), (.inr b, .non)]), .im bk, .im (.int n), .ow one, .ow oth, s13, s14, s15, s16, s17, s18, s19, s20, s21, s22, s23, s24, .no, .no, .no, .no, .no] := by
  simp [lw_5, ev_nam2, -ev_nam, q11, q12, e1, e2, heap_new0]
theorem t_6 {a b r0 r1 : Str} {many n : Int} {bk one oth b4 : D} {s2 s13 s14 s15 s16 s17 s18 s19 s20 s21 s22 s23 s24 : Sl} {ns : List Int} (q13 : muB s13 = false) : lw_6 [.im (.scr ns), .ow b4, s2, .im (.lst [.str r0, .str r1]), .im (.lst [.str a, .str b]), .im (.int many), .im (.str a), .im (.str b), .im (.dic [(.inr a, .dic [(.inr a, .int 1), (.inr b, .int many)]), (.inr b, .non)]), .im bk, .im (.int n), .ow one, .ow oth, s13, s14, s15, s16, s17, s18, s19, s20, s21, s22, s23, s24, .no, .no, .no, .no, .no] = .nx [.im (.scr ns), .ow b4, s2, .im (.lst [.str r0, .str r1]), .im (.lst [.str a, .str b]), .im (.int many), .im (.str a), .im (.str b), .im (.dic [(.inr a, .dic [(.inr a, .int 1), (.inr b, .int many)]), (.inr b, .non)]), .im bk, .im (.int n), .ow one, .ow oth, .ow (.dic []), s14, s15, s16, s17, s18, s19, s20, s21, s22, s23, s24, .no, .no, .no, .no, .no] := by
  simp [lw_6, ev_nam2, -ev_nam, q13]
theorem t_7 {a b r0 r1 : Str} {many n ta : Int} {bk one oth b4 b5 : D} {s2 s14 s15 s16 s17 s18 s19 s20 s21 s22 s23 s24 : Sl} {ns : List Int} (hab : ¬ a = b) (e1 : S__law_draw.F [b4, .int many] = .ok (.im (.int ta)) [b5]) : lw_7 [.im (.scr ns), .ow b4, s2, .im (.lst [.str r0, .str r1]), .im (.lst [.str a, .str b]), .im (.int many), .im (.str a), .im (.str b), .im (.dic [(.inr a, .dic [(.inr a, .int 1), (.inr b, .int many)]), (.inr b, .non)]), .im bk, .im (.int n), .ow one, .ow oth, .ow (.dic []), s14, s15, s16, s17, s18, s19, s20, s21, s22, s23, s24, .no, .no, .no, .no, .no] = .nx [.im (.scr ns), .ow b5, s2, .im (.lst [.str r0, .str r1]), .im (.lst [.str a, .str b]), .im (.int many), .im (.str a), .im (.str b), .im (.dic [(.inr a, .dic [(.inr a, .int 1), (.inr b, .int many)]), (.inr b, .non)]), .im bk, .im (.int n), .ow one, .ow oth, .ow (.dic [(.inr a, .int ta), (.inr b, .int 1)]), s14, s15, s16, s17, s18, s19, s20, s21, s22, s23, s24, .no, .no, .no, .no, .no] := by
  simp [lw_7, ev_nam2, -ev_nam, hab, e1, putD]
theorem t_8 {a b r0 r1 : Str} {many n ta md : Int} {bk one oth b5 b6 b7 : D} {tt : List (Key × D)} {s2 s14 s15 s16 s17 s18 s19 s20 s21 s22 s23 s24 : Sl} {ns : List Int} (q14 : muB s14 = false) (e1 : S__law_book.F [.dic [(.inr a, .dic [(.inr a, .int 1), (.inr b, .int many)]), (.inr b, .non)]] = .ok (.ow bk) []) (e2 : S__law_of.F [b5, .lst [bk, bk]] = .ok (.im bk) [b6]) (e3 : S__law_of.F [b6, .lst [.int many, .int many, .int 0, .int 2]] = .ok (.im (.int md)) [b7]) (e4 : runF 5 [true, false, false, false] d_WorthList___init__ [.ins 2 [], bk, .dic [(.inr a, .int ta), (.inr b, .int 1)], .int md] = .ok (.im .non) [(.ins 2 [(6, bk), (5, .int md), (4, .dic tt)])]) : lw_8 [.im (.scr ns), .ow b5, s2, .im (.lst [.str r0, .str r1]), .im (.lst [.str a, .str b]), .im (.int many), .im (.str a), .im (.str b), .im (.dic [(.inr a, .dic [(.inr a, .int 1), (.inr b, .int many)]), (.inr b, .non)]), .im bk, .im (.int n), .ow one, .ow oth, .ow (.dic [(.inr a, .int ta), (.inr b, .int 1)]), s14, s15, s16, s17, s18, s19, s20, s21, s22, s23, s24, .no, .no, .no, .no, .no] = .nx [.im (.scr ns), .ow b7, s2, .im (.lst [.str r0, .str r1]), .im (.lst [.str a, .str b]), .im (.int many), .im (.str a), .im (.str b), .im (.dic [(.inr a, .dic [(.inr a, .int 1), (.inr b, .int many)]), (.inr b, .non)]), .im bk, .im (.int n), .ow one, .ow oth, .im (.dic [(.inr a, .int ta), (.inr b, .int 1)]), .ow (.ins 2 [(6, bk), (5, .int md), (4, .dic tt)]), s15, s16, s17, s18, s19, s20, s21, s22, s23, s24, .no, .no, .no, .no, .no] := by
  simp [lw_8, ev_nam2, -ev_nam, q14, e1, e2, e3, e4, eMakeK]
theorem t_9 {a b r0 r1 : Str} {many n ta md : Int} {bk one oth b7 : D} {tt : List (Key × D)} {s2 s15 s16 s17 s18 s19 s20 s21 s22 s23 s24 : Sl} {ns : List Int} (q15 : muB s15 = false) : lw_9 [.im (.scr ns), .ow b7, s2, .im (.lst [.str r0, .str r1]), .im (.lst [.str a, .str b]), .im (.int many), .im (.str a), .im (.str b), .im (.dic [(.inr a, .dic [(.inr a, .int 1), (.inr b, .int many)]), (.inr b, .non)]), .im bk, .im (.int n), .ow one, .ow oth, .im (.dic [(.inr a, .int ta), (.inr b, .int 1)]), .ow (.ins 2 [(6, bk), (5, .int md), (4, .dic tt)]), s15, s16, s17, s18, s19, s20, s21, s22, s23, s24, .no, .no, .no, .no, .no] = .nx [.im (.scr ns), .ow b7, s2, .im (.lst [.str r0, .str r1]), .im (.lst [.str a, .str b]), .im (.int many), .im (.str a), .im (.str b), .im (.dic [(.inr a, .dic [(.inr a, .int 1), (.inr b, .int many)]), (.inr b, .non)]), .im bk, .im (.int n), .ow one, .ow oth, .im (.dic [(.inr a, .int ta), (.inr b, .int 1)]), .ow (.ins 2 [(6, bk), (5, .int md), (4, .dic tt)]), .ow (.dic []), s16, s17, s18, s19, s20, s21, s22, s23, s24, .no, .no, .no, .no, .no] := by
  simp [lw_9, ev_nam2, -ev_nam, q15]
theorem t_10 {a b r0 r1 : Str} {many n ta md ca cb : Int} {bk one oth b7 b8 b9 : D} {tt : List (Key × D)} {s2 s16 s17 s18 s19 s20 s21 s22 s23 s24 : Sl} {ns : List Int} (hab : ¬ a = b) (e1 : S__law_draw.F [b7, .int 4] = .ok (.im (.int ca)) [b8]) (e2 : S__law_draw.F [b8, .int 60] = .ok (.im (.int cb)) [b9]) : lw_10 [.im (.scr ns), .ow b7, s2, .im (.lst [.str r0, .str r1]), .im (.lst [.str a, .str b]), .im (.int many), .im (.str a), .im (.str b), .im (.dic [(.inr a, .dic [(.inr a, .int 1), (.inr b, .int many)]), (.inr b, .non)]), .im bk, .im (.int n), .ow one, .ow oth, .im (.dic [(.inr a, .int ta), (.inr b, .int 1)]), .ow (.ins 2 [(6, bk), (5, .int md), (4, .dic tt)]), .ow (.dic []), s16, s17, s18, s19, s20, s21, s22, s23, s24, .no, .no, .no, .no, .no] = .nx [.im (.scr ns), .ow b9, s2, .im (.lst [.str r0, .str r1]), .im (.lst [.str a, .str b]), .im (.int many), .im (.str a), .im (.str b), .im (.dic [(.inr a, .dic [(.inr a, .int 1), (.inr b, .int many)]), (.inr b, .non)]), .im bk, .im (.int n), .ow one, .ow oth, .im (.dic [(.inr a, .int ta), (.inr b, .int 1)]), .ow (.ins 2 [(6, bk), (5, .int md), (4, .dic tt)]), .ow (.dic [(.inr a, .int ca), (.inr b, .int cb)]), s16, s17, s18, s19, s20, s21, s22, s23, s24, .no, .no, .no, .no, .no] := by
  simp [lw_10, ev_nam2, -ev_nam, hab, e1, e2, putD]
theorem t_11 {a b r0 r1 : Str} {many n ta md ca cb : Int} {bk one oth b9 : D} {tt : List (Key × D)} {s2 s16 s17 s18 s19 s20 s21 s22 s23 s24 : Sl} {ns : List Int} (q16 : muB s16 = false) : lw_11 [.im (.scr ns), .ow b9, s2, .im (.lst [.str r0, .str r1]), .im (.lst [.str a, .str b]), .im (.int many), .im (.str a), .im (.str b), .im (.dic [(.inr a, .dic [(.inr a, .int 1), (.inr b, .int many)]), (.inr b, .non)]), .im bk, .im (.int n), .ow one, .ow oth, .im (.dic [(.inr a, .int ta), (.inr b, .int 1)]), .ow (.ins 2 [(6, bk), (5, .int md), (4, .dic tt)]), .ow (.dic [(.inr a, .int ca), (.inr b, .int cb)]), s16, s17, s18, s19, s20, s21, s22, s23, s24, .no, .no, .no, .no, .no] = .nx [.im (.scr ns), .ow b9, s2, .im (.lst [.str r0, .str r1]), .im (.lst [.str a, .str b]), .im (.int many), .im (.str a), .im (.str b), .im (.dic [(.inr a, .dic [(.inr a, .int 1), (.inr b, .int many)]), (.inr b, .non)]), .im bk, .im (.int n), .ow one, .ow oth, .im (.dic [(.inr a, .int ta), (.inr b, .int 1)]), .ow (.ins 2 [(6, bk), (5, .int md), (4, .dic tt)]), .ow (.dic [(.inr a, .int ca), (.inr b, .int cb)]), .ow (.dic []), s17, s18, s19, s20, s21, s22, s23, s24, .no, .no, .no, .no, .no] := by
  simp [lw_11, ev_nam2, -ev_nam, q16]
theorem t_12 {a b r0 r1 : Str} {many n ta md ca cb : Int} {bk one oth h0D b9 : D} {tt sk : List (Key × D)} {s2 s17 s18 s19 s20 s21 s22 s23 s24 : Sl} {ns : List Int} (e1 : S__law_made.F [.dic [(.inr a, .int ca), (.inr b, .int cb)]] = .ok (.ow h0D) []) (e2 : putD [] (.inr r0) h0D = sk) : lw_12 [.im (.scr ns), .ow b9, s2, .im (.lst [.str r0, .str r1]), .im (.lst [.str a, .str b]), .im (.int many), .im (.str a), .im (.str b), .im (.dic [(.inr a, .dic [(.inr a, .int 1), (.inr b, .int many)]), (.inr b, .non)]), .im bk, .im (.int n), .ow one, .ow oth, .im (.dic [(.inr a, .int ta), (.inr b, .int 1)]), .ow (.ins 2 [(6, bk), (5, .int md), (4, .dic tt)]), .ow (.dic [(.inr a, .int ca), (.inr b, .int cb)]), .ow (.dic []), s17, s18, s19, s20, s21, s22, s23, s24, .no, .no, .no, .no, .no] = .nx [.im (.scr ns), .ow b9, s2, .im (.lst [.str r0, .str r1]), .im (.lst [.str a, .str b]), .im (.int many), .im (.str a), .im (.str b), .im (.dic [(.inr a, .dic [(.inr a, .int 1), (.inr b, .int many)]), (.inr b, .non)]), .im bk, .im (.int n), .ow one, .ow oth, .im (.dic [(.inr a, .int ta), (.inr b, .int 1)]), .ow (.ins 2 [(6, bk), (5, .int md), (4, .dic tt)]), .im (.dic [(.inr a, .int ca), (.inr b, .int cb)]), .ow (.dic sk), s17, s18, s19, s20, s21, s22, s23, s24, .no, .no, .no, .no, .no] := by
  simp [lw_12, ev_nam2, -ev_nam, e1, e2]
theorem t_13 {a b r0 r1 : Str} {many n ta md ca cb : Int} {bk one oth b9 : D} {tt sk : List (Key × D)} {s2 s17 s18 s19 s20 s21 s22 s23 s24 : Sl} {ns : List Int} (q17 : muB s17 = false) (e1 : S_WorthList_table.F [(.ins 2 [(6, bk), (5, .int md), (4, .dic tt)])] = .ok (.ow (.dic tt)) []) : lw_13 [.im (.scr ns), .ow b9, s2, .im (.lst [.str r0, .str r1]), .im (.lst [.str a, .str b]), .im (.int many), .im (.str a), .im (.str b), .im (.dic [(.inr a, .dic [(.inr a, .int 1), (.inr b, .int many)]), (.inr b, .non)]), .im bk, .im (.int n), .ow one, .ow oth, .im (.dic [(.inr a, .int ta), (.inr b, .int 1)]), .ow (.ins 2 [(6, bk), (5, .int md), (4, .dic tt)]), .im (.dic [(.inr a, .int ca), (.inr b, .int cb)]), .ow (.dic sk), s17, s18, s19, s20, s21, s22, s23, s24, .no, .no, .no, .no, .no] = .nx [.im (.scr ns), .ow b9, s2, .im (.lst [.str r0, .str r1]), .im (.lst [.str a, .str b]), .im (.int many), .im (.str a), .im (.str b), .im (.dic [(.inr a, .dic [(.inr a, .int 1), (.inr b, .int many)]), (.inr b, .non)]), .im bk, .im (.int n), .ow one, .ow oth, .im (.dic [(.inr a, .int ta), (.inr b, .int 1)]), .im (.ins 2 [(6, bk), (5, .int md), (4, .dic tt)]), .im (.dic [(.inr a, .int ca), (.inr b, .int cb)]), .ow (.dic sk), .ow (.dic tt), s18, s19, s20, s21, s22, s23, s24, .no, .no, .no, .no, .no] := by
  simp [lw_13, ev_nam2, -ev_nam, q17, e1]
theorem t_14 {a b r0 r1 : Str} {many n ta md ca cb pa pb : Int} {bk one oth b9 : D} {tt sk : List (Key × D)} {due : Bool} {s2 s18 s19 s20 s21 s22 s23 s24 : Sl} {ns : List Int} (q18 : muB s18 = false) (e1 : S__law_plus.F [.dic [], .dic [(.inr a, .int ca), (.inr b, .int cb)], .int n] = .ok (.ow (.dic [(.inr a, .int pa), (.inr b, .int pb)])) []) (e2 : S__law_parted_so.F [.dic [(.inr a, .dic [(.inr a, .int 1), (.inr b, .int many)]), (.inr b, .non)], .dic [(.inr a, .int pa), (.inr b, .int pb)], .dic [(.inr a, .int ca), (.inr b, .int cb)], (.ins 2 [(6, bk), (5, .int md), (4, .dic tt)])] = .ok (.im (.bl due)) []) : lw_14 [.im (.scr ns), .ow b9, s2, .im (.lst [.str r0, .str r1]), .im (.lst [.str a, .str b]), .im (.int many), .im (.str a), .im (.str b), .im (.dic [(.inr a, .dic [(.inr a, .int 1), (.inr b, .int many)]), (.inr b, .non)]), .im bk, .im (.int n), .ow one, .ow oth, .im (.dic [(.inr a, .int ta), (.inr b, .int 1)]), .im (.ins 2 [(6, bk), (5, .int md), (4, .dic tt)]), .im (.dic [(.inr a, .int ca), (.inr b, .int cb)]), .ow (.dic sk), .ow (.dic tt), s18, s19, s20, s21, s22, s23, s24, .no, .no, .no, .no, .no] = .nx [.im (.scr ns), .ow b9, s2, .im (.lst [.str r0, .str r1]), .im (.lst [.str a, .str b]), .im (.int many), .im (.str a), .im (.str b), .im (.dic [(.inr a, .dic [(.inr a, .int 1), (.inr b, .int many)]), (.inr b, .non)]), .im bk, .im (.int n), .ow one, .ow oth, .im (.dic [(.inr a, .int ta), (.inr b, .int 1)]), .im (.ins 2 [(6, bk), (5, .int md), (4, .dic tt)]), .im (.dic [(.inr a, .int ca), (.inr b, .int cb)]), .ow (.dic sk), .ow (.dic tt), .im (.bl due), s19, s20, s21, s22, s23, s24, .no, .no, .no, .no, .no] := by
  simp [lw_14, ev_nam2, -ev_nam, q18, e1, e2]
theorem t_15 {a b r0 r1 : Str} {many n ta md ca cb : Int} {bk one oth b9 : D} {tt sk : List (Key × D)} {due : Bool} {s2 s19 s20 s21 s22 s23 s24 : Sl} {ns : List Int} (q19 : muB s19 = false) : lw_15 [.im (.scr ns), .ow b9, s2, .im (.lst [.str r0, .str r1]), .im (.lst [.str a, .str b]), .im (.int many), .im (.str a), .im (.str b), .im (.dic [(.inr a, .dic [(.inr a, .int 1), (.inr b, .int many)]), (.inr b, .non)]), .im bk, .im (.int n), .ow one, .ow oth, .im (.dic [(.inr a, .int ta), (.inr b, .int 1)]), .im (.ins 2 [(6, bk), (5, .int md), (4, .dic tt)]), .im (.dic [(.inr a, .int ca), (.inr b, .int cb)]), .ow (.dic sk), .ow (.dic tt), .im (.bl due), s19, s20, s21, s22, s23, s24, .no, .no, .no, .no, .no] = .nx [.im (.scr ns), .ow b9, s2, .im (.lst [.str r0, .str r1]), .im (.lst [.str a, .str b]), .im (.int many), .im (.str a), .im (.str b), .im (.dic [(.inr a, .dic [(.inr a, .int 1), (.inr b, .int many)]), (.inr b, .non)]), .im bk, .im (.int n), .im one, .im oth, .im (.dic [(.inr a, .int ta), (.inr b, .int 1)]), .im (.ins 2 [(6, bk), (5, .int md), (4, .dic tt)]), .im (.dic [(.inr a, .int ca), (.inr b, .int cb)]), .im (.dic sk), .ow (.dic tt), .im (.bl due), .ow (dfD one oth (.dic sk) (.str r0) (.ins 2 [(6, bk), (5, .int md), (4, .dic tt)])), s20, s21, s22, s23, s24, .no, .no, .no, .no, .no] := by
  simp [lw_15, ev_nam2, -ev_nam, q19, differ_new]
theorem t_16 {a b r0 r1 z z1 : Str} {many n ta md ca cb : Int} {bk one oth b9 : D} {tt sk : List (Key × D)} {due : Bool} {s2 s20 s21 s22 s23 s24 : Sl} {ns : List Int} (e1 : S_Differ_holds.F [(dfD one oth (.dic sk) (.str r0) (.ins 2 [(6, bk), (5, .int md), (4, .dic tt)]))] = .ok (.im (.bl due)) []) (e2 : S_Differ___repr__.F [(dfD one oth (.dic sk) (.str r0) (.ins 2 [(6, bk), (5, .int md), (4, .dic tt)]))] = .ok (.im (.str z)) []) (e3 : bBin .Add (.str "Differ(") (.str r0) = .ok (.im (.str z1))) (e4 : bBin .Add (.str z1) (.str ")") = .ok (.im (.str z))) (e5 : (S__law_same 2).F [.lst [.bl due, .str z, .bl due, .str r0], .lst [.bl due, .str z, .bl due, .str r0]] = .ok (.im (.bl true)) []) : lw_16 [.im (.scr ns), .ow b9, s2, .im (.lst [.str r0, .str r1]), .im (.lst [.str a, .str b]), .im (.int many), .im (.str a), .im (.str b), .im (.dic [(.inr a, .dic [(.inr a, .int 1), (.inr b, .int many)]), (.inr b, .non)]), .im bk, .im (.int n), .im one, .im oth, .im (.dic [(.inr a, .int ta), (.inr b, .int 1)]), .im (.ins 2 [(6, bk), (5, .int md), (4, .dic tt)]), .im (.dic [(.inr a, .int ca), (.inr b, .int cb)]), .im (.dic sk), .ow (.dic tt), .im (.bl due), .ow (dfD one oth (.dic sk) (.str r0) (.ins 2 [(6, bk), (5, .int md), (4, .dic tt)])), s20, s21, s22, s23, s24, .no, .no, .no, .no, .no] = .nx [.im (.scr ns), .ow b9, s2, .im (.lst [.str r0, .str r1]), .im (.lst [.str a, .str b]), .im (.int many), .im (.str a), .im (.str b), .im (.dic [(.inr a, .dic [(.inr a, .int 1), (.inr b, .int many)]), (.inr b, .non)]), .im bk, .im (.int n), .im one, .im oth, .im (.dic [(.inr a, .int ta), (.inr b, .int 1)]), .im (.ins 2 [(6, bk), (5, .int md), (4, .dic tt)]), .im (.dic [(.inr a, .int ca), (.inr b, .int cb)]), .im (.dic sk), .ow (.dic tt), .im (.bl due), .im (dfD one oth (.dic sk) (.str r0) (.ins 2 [(6, bk), (5, .int md), (4, .dic tt)])), s20, s21, s22, s23, s24, .no, .no, .no, .no, .no] := by
  simp [lw_16, ev_nam2, -ev_nam, e1, e2, e3, e4, e5, eRepr, strF]
theorem t_17 {a b r0 r1 : Str} {many n ta md ca cb : Int} {bk one oth b9 : D} {tt sk : List (Key × D)} {due : Bool} {s2 s20 s21 s22 s23 s24 : Sl} {ns : List Int} (e1 : S_Differ_holds.F [(dfD one oth (.dic sk) (.str r1) (.ins 2 [(6, bk), (5, .int md), (4, .dic tt)]))] = .ok (.im (.bl false)) []) (e2 : S_Differ_holds.F [(dfD one one (.dic sk) (.str r0) (.ins 2 [(6, bk), (5, .int md), (4, .dic tt)]))] = .ok (.im (.bl false)) []) (e3 : S_WorthList_table.F [(.ins 2 [(6, bk), (5, .int md), (4, .dic tt)])] = .ok (.ow (.dic tt)) []) (e4 : dcF true [(0, S_Heap___eq__), (1, S_Book___eq__)] [.dic tt, .dic tt] = .ok (.im (.bl false)) []) : lw_17 [.im (.scr ns), .ow b9, s2, .im (.lst [.str r0, .str r1]), .im (.lst [.str a, .str b]), .im (.int many), .im (.str a), .im (.str b), .im (.dic [(.inr a, .dic [(.inr a, .int 1), (.inr b, .int many)]), (.inr b, .non)]), .im bk, .im (.int n), .im one, .im oth, .im (.dic [(.inr a, .int ta), (.inr b, .int 1)]), .im (.ins 2 [(6, bk), (5, .int md), (4, .dic tt)]), .im (.dic [(.inr a, .int ca), (.inr b, .int cb)]), .im (.dic sk), .ow (.dic tt), .im (.bl due), .im (dfD one oth (.dic sk) (.str r0) (.ins 2 [(6, bk), (5, .int md), (4, .dic tt)])), s20, s21, s22, s23, s24, .no, .no, .no, .no, .no] = .nx [.im (.scr ns), .ow b9, s2, .im (.lst [.str r0, .str r1]), .im (.lst [.str a, .str b]), .im (.int many), .im (.str a), .im (.str b), .im (.dic [(.inr a, .dic [(.inr a, .int 1), (.inr b, .int many)]), (.inr b, .non)]), .im bk, .im (.int n), .im one, .im oth, .im (.dic [(.inr a, .int ta), (.inr b, .int 1)]), .im (.ins 2 [(6, bk), (5, .int md), (4, .dic tt)]), .im (.dic [(.inr a, .int ca), (.inr b, .int cb)]), .im (.dic sk), .im (.dic tt), .im (.bl due), .im (dfD one oth (.dic sk) (.str r0) (.ins 2 [(6, bk), (5, .int md), (4, .dic tt)])), s20, s21, s22, s23, s24, .no, .no, .no, .no, .no] := by
  simp [lw_17, ev_nam2, -ev_nam, e1, e2, e3, e4, differ_new]
theorem t_18 {a b r0 r1 : Str} {many n ta md ca cb : Int} {bk one oth od b9 b10 : D} {tt sk : List (Key × D)} {due : Bool} {s2 s20 s21 s22 s23 s24 : Sl} {ns : List Int} (q20 : muB s20 = false) (e1 : S__law_of.F [b9, .lst [.non, .int 3, .str "xxxxxx", .lst [.str "a"], .tup [], .bl true]] = .ok (.im od) [b10]) : lw_18 [.im (.scr ns), .ow b9, s2, .im (.lst [.str r0, .str r1]), .im (.lst [.str a, .str b]), .im (.int many), .im (.str a), .im (.str b), .im (.dic [(.inr a, .dic [(.inr a, .int 1), (.inr b, .int many)]), (.inr b, .non)]), .im bk, .im (.int n), .im one, .im oth, .im (.dic [(.inr a, .int ta), (.inr b, .int 1)]), .im (.ins 2 [(6, bk), (5, .int md), (4, .dic tt)]), .im (.dic [(.inr a, .int ca), (.inr b, .int cb)]), .im (.dic sk), .im (.dic tt), .im (.bl due), .im (dfD one oth (.dic sk) (.str r0) (.ins 2 [(6, bk), (5, .int md), (4, .dic tt)])), s20, s21, s22, s23, s24, .no, .no, .no, .no, .no] = .nx [.im (.scr ns), .ow b10, s2, .im (.lst [.str r0, .str r1]), .im (.lst [.str a, .str b]), .im (.int many), .im (.str a), .im (.str b), .im (.dic [(.inr a, .dic [(.inr a, .int 1), (.inr b, .int many)]), (.inr b, .non)]), .im bk, .im (.int n), .im one, .im oth, .im (.dic [(.inr a, .int ta), (.inr b, .int 1)]), .im (.ins 2 [(6, bk), (5, .int md), (4, .dic tt)]), .im (.dic [(.inr a, .int ca), (.inr b, .int cb)]), .im (.dic sk), .im (.dic tt), .im (.bl due), .im (dfD one oth (.dic sk) (.str r0) (.ins 2 [(6, bk), (5, .int md), (4, .dic tt)])), .im od, s21, s22, s23, s24, .no, .no, .no, .no, .no] := by
  simp [lw_18, ev_nam2, -ev_nam, q20, e1]
theorem t_19 {a b r0 r1 : Str} {many n ta md ca cb : Int} {bk one oth od b10 : D} {tt sk : List (Key × D)} {due : Bool} {s2 s21 s22 s23 s24 : Sl} {ns : List Int} (q21 : muB s21 = false) (q22 : muB s22 = false) (q23 : muB s23 = false) (e1 : sk.foldl (fun acc kv => putD acc kv.1 kv.2) [] = sk) : lw_19 [.im (.scr ns), .ow b10, s2, .im (.lst [.str r0, .str r1]), .im (.lst [.str a, .str b]), .im (.int many), .im (.str a), .im (.str b), .im (.dic [(.inr a, .dic [(.inr a, .int 1), (.inr b, .int many)]), (.inr b, .non)]), .im bk, .im (.int n), .im one, .im oth, .im (.dic [(.inr a, .int ta), (.inr b, .int 1)]), .im (.ins 2 [(6, bk), (5, .int md), (4, .dic tt)]), .im (.dic [(.inr a, .int ca), (.inr b, .int cb)]), .im (.dic sk), .im (.dic tt), .im (.bl due), .im (dfD one oth (.dic sk) (.str r0) (.ins 2 [(6, bk), (5, .int md), (4, .dic tt)])), .im od, s21, s22, s23, s24, .no, .no, .no, .no, .no] = .nx [.im (.scr ns), .ow b10, s2, .im (.lst [.str r0, .str r1]), .im (.lst [.str a, .str b]), .im (.int many), .im (.str a), .im (.str b), .im (.dic [(.inr a, .dic [(.inr a, .int 1), (.inr b, .int many)]), (.inr b, .non)]), .im bk, .im (.int n), .im one, .im oth, .im (.dic [(.inr a, .int ta), (.inr b, .int 1)]), .im (.ins 2 [(6, bk), (5, .int md), (4, .dic tt)]), .im (.dic [(.inr a, .int ca), (.inr b, .int cb)]), .im (.dic sk), .im (.dic tt), .im (.bl due), .im (dfD one oth (.dic sk) (.str r0) (.ins 2 [(6, bk), (5, .int md), (4, .dic tt)])), .im od, .ow (.dic sk), .ow (.dic []), .ow (.dic []), s24, .no, .no, .no, .no, .no] := by
  simp [lw_19, ev_nam2, -ev_nam, q21, q22, q23, e1, eDicIt]
theorem t_20 {a b r0 r1 : Str} {many n ta md ca cb : Int} {bk one oth od hx b10 : D} {tt sk ls ws bs : List (Key × D)} {due : Bool} {s2 s24 : Sl} {ns : List Int} (e1 : S_Heap_of_s1.F [.str "xxxxxx"] = .ok (.ow hx) []) (e2 : putD sk (.inr "xxxxxx") (hp []) = ls) (e3 : putD [] (.inr r0) hx = ws) (e4 : putD [] (.inr r0) (.dic [(.inr a, .int ca), (.inr b, .int cb)]) = bs) (e5 : sk.length < 16777216) : lw_20 [.im (.scr ns), .ow b10, s2, .im (.lst [.str r0, .str r1]), .im (.lst [.str a, .str b]), .im (.int many), .im (.str a), .im (.str b), .im (.dic [(.inr a, .dic [(.inr a, .int 1), (.inr b, .int many)]), (.inr b, .non)]), .im bk, .im (.int n), .im one, .im oth, .im (.dic [(.inr a, .int ta), (.inr b, .int 1)]), .im (.ins 2 [(6, bk), (5, .int md), (4, .dic tt)]), .im (.dic [(.inr a, .int ca), (.inr b, .int cb)]), .im (.dic sk), .im (.dic tt), .im (.bl due), .im (dfD one oth (.dic sk) (.str r0) (.ins 2 [(6, bk), (5, .int md), (4, .dic tt)])), .im od, .ow (.dic sk), .ow (.dic []), .ow (.dic []), s24, .no, .no, .no, .no, .no] = .nx [.im (.scr ns), .ow b10, s2, .im (.lst [.str r0, .str r1]), .im (.lst [.str a, .str b]), .im (.int many), .im (.str a), .im (.str b), .im (.dic [(.inr a, .dic [(.inr a, .int 1), (.inr b, .int many)]), (.inr b, .non)]), .im bk, .im (.int n), .im one, .im oth, .im (.dic [(.inr a, .int ta), (.inr b, .int 1)]), .im (.ins 2 [(6, bk), (5, .int md), (4, .dic tt)]), .im (.dic [(.inr a, .int ca), (.inr b, .int cb)]), .im (.dic sk), .im (.dic tt), .im (.bl due), .im (dfD one oth (.dic sk) (.str r0) (.ins 2 [(6, bk), (5, .int md), (4, .dic tt)])), .im od, .ow (.dic ls), .ow (.dic ws), .ow (.dic bs), s24, .no, .no, .no, .no, .no] := by
  simp [lw_20, ev_nam2, -ev_nam, e1, e2, e3, e4, e5, heap_new0]
theorem t_21 {a b r0 r1 : Str} {many n ta md ca cb : Int} {bk one oth od b10 : D} {tt sk ls ws bs : List (Key × D)} {due : Bool} {s2 s24 : Sl} {ns : List Int} (q24 : muB s24 = false) : lw_21 [.im (.scr ns), .ow b10, s2, .im (.lst [.str r0, .str r1]), .im (.lst [.str a, .str b]), .im (.int many), .im (.str a), .im (.str b), .im (.dic [(.inr a, .dic [(.inr a, .int 1), (.inr b, .int many)]), (.inr b, .non)]), .im bk, .im (.int n), .im one, .im oth, .im (.dic [(.inr a, .int ta), (.inr b, .int 1)]), .im (.ins 2 [(6, bk), (5, .int md), (4, .dic tt)]), .im (.dic [(.inr a, .int ca), (.inr b, .int cb)]), .im (.dic sk), .im (.dic tt), .im (.bl due), .im (dfD one oth (.dic sk) (.str r0) (.ins 2 [(6, bk), (5, .int md), (4, .dic tt)])), .im od, .ow (.dic ls), .ow (.dic ws), .ow (.dic bs), s24, .no, .no, .no, .no, .no] = .nx [.im (.scr ns), .ow b10, s2, .im (.lst [.str r0, .str r1]), .im (.lst [.str a, .str b]), .im (.int many), .im (.str a), .im (.str b), .im (.dic [(.inr a, .dic [(.inr a, .int 1), (.inr b, .int many)]), (.inr b, .non)]), .im bk, .im (.int n), .im one, .im oth, .im (.dic [(.inr a, .int ta), (.inr b, .int 1)]), .im (.ins 2 [(6, bk), (5, .int md), (4, .dic tt)]), .im (.dic [(.inr a, .int ca), (.inr b, .int cb)]), .im (.dic sk), .im (.dic tt), .im (.bl due), .im (dfD one oth (.dic sk) (.str r0) (.ins 2 [(6, bk), (5, .int md), (4, .dic tt)])), .im od, .ow (.dic ls), .ow (.dic ws), .ow (.dic bs), .ow (.lst [(dfD one oth od (.str r0) (.ins 2 [(6, bk), (5, .int md), (4, .dic tt)])), (dfD one oth (.dic sk) od (.ins 2 [(6, bk), (5, .int md), (4, .dic tt)])), (dfD one oth (.dic sk) (.str r0) od)]), .no, .no, .no, .no, .no] := by
  simp [lw_21, ev_nam2, -ev_nam, q24, differ_new]
theorem t_22 {a b r0 r1 : Str} {many n ta md ca cb : Int} {bk one oth od b10 : D} {tt sk ls ws bs : List (Key × D)} {due : Bool} {s2 : Sl} {ns : List Int} : lw_22 [.im (.scr ns), .ow b10, s2, .im (.lst [.str r0, .str r1]), .im (.lst [.str a, .str b]), .im (.int many), .im (.str a), .im (.str b), .im (.dic [(.inr a, .dic [(.inr a, .int 1), (.inr b, .int many)]), (.inr b, .non)]), .im bk, .im (.int n), .im one, .im oth, .im (.dic [(.inr a, .int ta), (.inr b, .int 1)]), .im (.ins 2 [(6, bk), (5, .int md), (4, .dic tt)]), .im (.dic [(.inr a, .int ca), (.inr b, .int cb)]), .im (.dic sk), .im (.dic tt), .im (.bl due), .im (dfD one oth (.dic sk) (.str r0) (.ins 2 [(6, bk), (5, .int md), (4, .dic tt)])), .im od, .ow (.dic ls), .ow (.dic ws), .ow (.dic bs), .ow (.lst [(dfD one oth od (.str r0) (.ins 2 [(6, bk), (5, .int md), (4, .dic tt)])), (dfD one oth (.dic sk) od (.ins 2 [(6, bk), (5, .int md), (4, .dic tt)])), (dfD one oth (.dic sk) (.str r0) od)]), .no, .no, .no, .no, .no] = .nx [.im (.scr ns), .ow b10, s2, .im (.lst [.str r0, .str r1]), .im (.lst [.str a, .str b]), .im (.int many), .im (.str a), .im (.str b), .im (.dic [(.inr a, .dic [(.inr a, .int 1), (.inr b, .int many)]), (.inr b, .non)]), .im bk, .im (.int n), .im one, .im oth, .im (.dic [(.inr a, .int ta), (.inr b, .int 1)]), .im (.ins 2 [(6, bk), (5, .int md), (4, .dic tt)]), .im (.dic [(.inr a, .int ca), (.inr b, .int cb)]), .im (.dic sk), .im (.dic tt), .im (.bl due), .im (dfD one oth (.dic sk) (.str r0) (.ins 2 [(6, bk), (5, .int md), (4, .dic tt)])), .im od, .im (.dic ls), .im (.dic ws), .im (.dic bs), .ow (.lst [(dfD one oth od (.str r0) (.ins 2 [(6, bk), (5, .int md), (4, .dic tt)])), (dfD one oth (.dic sk) od (.ins 2 [(6, bk), (5, .int md), (4, .dic tt)])), (dfD one oth (.dic sk) (.str r0) od), (dfD one oth (.dic ls) (.str r0) (.ins 2 [(6, bk), (5, .int md), (4, .dic tt)])), (dfD one oth (.dic ws) (.str r0) (.ins 2 [(6, bk), (5, .int md), (4, .dic tt)])), (dfD one oth (.dic bs) (.str r0) (.ins 2 [(6, bk), (5, .int md), (4, .dic tt)]))]), .no, .no, .no, .no, .no] := by
  have e1 := fun l r (h : l.length + r.length ≤ 16777216) => pv_cat (l := l) (r := r) h
  simp [lw_22, ev_nam2, -ev_nam, differ_new, e1]
theorem t_23 {a b r0 r1 : Str} {many n ta md ca cb : Int} {bk one oth od rv b10 : D} {tt sk ls ws bs : List (Key × D)} {due : Bool} {s2 : Sl} {ns : List Int} (e1 : mkO 3 S_Script___init___s0.F [bk, .lst [.str r1, .str r0]] = .ok (.ow rv) []) : lw_23 [.im (.scr ns), .ow b10, s2, .im (.lst [.str r0, .str r1]), .im (.lst [.str a, .str b]), .im (.int many), .im (.str a), .im (.str b), .im (.dic [(.inr a, .dic [(.inr a, .int 1), (.inr b, .int many)]), (.inr b, .non)]), .im bk, .im (.int n), .im one, .im oth, .im (.dic [(.inr a, .int ta), (.inr b, .int 1)]), .im (.ins 2 [(6, bk), (5, .int md), (4, .dic tt)]), .im (.dic [(.inr a, .int ca), (.inr b, .int cb)]), .im (.dic sk), .im (.dic tt), .im (.bl due), .im (dfD one oth (.dic sk) (.str r0) (.ins 2 [(6, bk), (5, .int md), (4, .dic tt)])), .im od, .im (.dic ls), .im (.dic ws), .im (.dic bs), .ow (.lst [(dfD one oth od (.str r0) (.ins 2 [(6, bk), (5, .int md), (4, .dic tt)])), (dfD one oth (.dic sk) od (.ins 2 [(6, bk), (5, .int md), (4, .dic tt)])), (dfD one oth (.dic sk) (.str r0) od), (dfD one oth (.dic ls) (.str r0) (.ins 2 [(6, bk), (5, .int md), (4, .dic tt)])), (dfD one oth (.dic ws) (.str r0) (.ins 2 [(6, bk), (5, .int md), (4, .dic tt)])), (dfD one oth (.dic bs) (.str r0) (.ins 2 [(6, bk), (5, .int md), (4, .dic tt)]))]), .no, .no, .no, .no, .no] = .nx [.im (.scr ns), .ow b10, s2, .im (.lst [.str r0, .str r1]), .im (.lst [.str a, .str b]), .im (.int many), .im (.str a), .im (.str b), .im (.dic [(.inr a, .dic [(.inr a, .int 1), (.inr b, .int many)]), (.inr b, .non)]), .im bk, .im (.int n), .im one, .im oth, .im (.dic [(.inr a, .int ta), (.inr b, .int 1)]), .im (.ins 2 [(6, bk), (5, .int md), (4, .dic tt)]), .im (.dic [(.inr a, .int ca), (.inr b, .int cb)]), .im (.dic sk), .im (.dic tt), .im (.bl due), .im (dfD one oth (.dic sk) (.str r0) (.ins 2 [(6, bk), (5, .int md), (4, .dic tt)])), .im od, .im (.dic ls), .im (.dic ws), .im (.dic bs), .ow (.lst [(dfD one oth od (.str r0) (.ins 2 [(6, bk), (5, .int md), (4, .dic tt)])), (dfD one oth (.dic sk) od (.ins 2 [(6, bk), (5, .int md), (4, .dic tt)])), (dfD one oth (.dic sk) (.str r0) od), (dfD one oth (.dic ls) (.str r0) (.ins 2 [(6, bk), (5, .int md), (4, .dic tt)])), (dfD one oth (.dic ws) (.str r0) (.ins 2 [(6, bk), (5, .int md), (4, .dic tt)])), (dfD one oth (.dic bs) (.str r0) (.ins 2 [(6, bk), (5, .int md), (4, .dic tt)])), (dfD one rv (.dic sk) (.str r0) (.ins 2 [(6, bk), (5, .int md), (4, .dic tt)]))]), .no, .no, .no, .no, .no] := by
  simp [lw_23, ev_nam2, -ev_nam, e1, eMakeK, differ_init, eRev, asL]
theorem t_24 {a b r0 r1 : Str} {many n ta md ca cb : Int} {bk one oth od rv xs xb b10 : D} {tt sk ls ws bs : List (Key × D)} {due : Bool} {s2 : Sl} {ns : List Int} (e1 : mkO 1 S_Book___init__.F [.dic [(.inr "xxxxxx", .non)]] = .ok (.ow xb) []) (e2 : mkO 3 S_Script___init___s0.F [xb, .lst [.str r0, .str r1]] = .ok (.ow xs) []) : lw_24 [.im (.scr ns), .ow b10, s2, .im (.lst [.str r0, .str r1]), .im (.lst [.str a, .str b]), .im (.int many), .im (.str a), .im (.str b), .im (.dic [(.inr a, .dic [(.inr a, .int 1), (.inr b, .int many)]), (.inr b, .non)]), .im bk, .im (.int n), .im one, .im oth, .im (.dic [(.inr a, .int ta), (.inr b, .int 1)]), .im (.ins 2 [(6, bk), (5, .int md), (4, .dic tt)]), .im (.dic [(.inr a, .int ca), (.inr b, .int cb)]), .im (.dic sk), .im (.dic tt), .im (.bl due), .im (dfD one oth (.dic sk) (.str r0) (.ins 2 [(6, bk), (5, .int md), (4, .dic tt)])), .im od, .im (.dic ls), .im (.dic ws), .im (.dic bs), .ow (.lst [(dfD one oth od (.str r0) (.ins 2 [(6, bk), (5, .int md), (4, .dic tt)])), (dfD one oth (.dic sk) od (.ins 2 [(6, bk), (5, .int md), (4, .dic tt)])), (dfD one oth (.dic sk) (.str r0) od), (dfD one oth (.dic ls) (.str r0) (.ins 2 [(6, bk), (5, .int md), (4, .dic tt)])), (dfD one oth (.dic ws) (.str r0) (.ins 2 [(6, bk), (5, .int md), (4, .dic tt)])), (dfD one oth (.dic bs) (.str r0) (.ins 2 [(6, bk), (5, .int md), (4, .dic tt)])), (dfD one rv (.dic sk) (.str r0) (.ins 2 [(6, bk), (5, .int md), (4, .dic tt)]))]), .no, .no, .no, .no, .no] = .nx [.im (.scr ns), .ow b10, s2, .im (.lst [.str r0, .str r1]), .im (.lst [.str a, .str b]), .im (.int many), .im (.str a), .im (.str b), .im (.dic [(.inr a, .dic [(.inr a, .int 1), (.inr b, .int many)]), (.inr b, .non)]), .im bk, .im (.int n), .im one, .im oth, .im (.dic [(.inr a, .int ta), (.inr b, .int 1)]), .im (.ins 2 [(6, bk), (5, .int md), (4, .dic tt)]), .im (.dic [(.inr a, .int ca), (.inr b, .int cb)]), .im (.dic sk), .im (.dic tt), .im (.bl due), .im (dfD one oth (.dic sk) (.str r0) (.ins 2 [(6, bk), (5, .int md), (4, .dic tt)])), .im od, .im (.dic ls), .im (.dic ws), .im (.dic bs), .ow (.lst [(dfD one oth od (.str r0) (.ins 2 [(6, bk), (5, .int md), (4, .dic tt)])), (dfD one oth (.dic sk) od (.ins 2 [(6, bk), (5, .int md), (4, .dic tt)])), (dfD one oth (.dic sk) (.str r0) od), (dfD one oth (.dic ls) (.str r0) (.ins 2 [(6, bk), (5, .int md), (4, .dic tt)])), (dfD one oth (.dic ws) (.str r0) (.ins 2 [(6, bk), (5, .int md), (4, .dic tt)])), (dfD one oth (.dic bs) (.str r0) (.ins 2 [(6, bk), (5, .int md), (4, .dic tt)])), (dfD one rv (.dic sk) (.str r0) (.ins 2 [(6, bk), (5, .int md), (4, .dic tt)])), (dfD one xs (.dic sk) (.str r0) (.ins 2 [(6, bk), (5, .int md), (4, .dic tt)]))]), .no, .no, .no, .no, .no] := by
  simp [lw_24, ev_nam2, -ev_nam, e1, e2, differ_new, eDisp, dGo, keyD, putD]
theorem t_25 {a b r0 r1 : Str} {many n ta md ca cb : Int} {bk one oth od rv xs xw xb b10 : D} {tt sk ls ws bs : List (Key × D)} {due : Bool} {s2 : Sl} {ns : List Int} (e1 : mkO 1 S_Book___init__.F [.dic [(.inr "xxxxxx", .non)]] = .ok (.ow xb) []) (e2 : mkO 2 S_WorthList___init__.F [xb, .dic [(.inr "xxxxxx", .int 1)]] = .ok (.ow xw) []) : lw_25 [.im (.scr ns), .ow b10, s2, .im (.lst [.str r0, .str r1]), .im (.lst [.str a, .str b]), .im (.int many), .im (.str a), .im (.str b), .im (.dic [(.inr a, .dic [(.inr a, .int 1), (.inr b, .int many)]), (.inr b, .non)]), .im bk, .im (.int n), .im one, .im oth, .im (.dic [(.inr a, .int ta), (.inr b, .int 1)]), .im (.ins 2 [(6, bk), (5, .int md), (4, .dic tt)]), .im (.dic [(.inr a, .int ca), (.inr b, .int cb)]), .im (.dic sk), .im (.dic tt), .im (.bl due), .im (dfD one oth (.dic sk) (.str r0) (.ins 2 [(6, bk), (5, .int md), (4, .dic tt)])), .im od, .im (.dic ls), .im (.dic ws), .im (.dic bs), .ow (.lst [(dfD one oth od (.str r0) (.ins 2 [(6, bk), (5, .int md), (4, .dic tt)])), (dfD one oth (.dic sk) od (.ins 2 [(6, bk), (5, .int md), (4, .dic tt)])), (dfD one oth (.dic sk) (.str r0) od), (dfD one oth (.dic ls) (.str r0) (.ins 2 [(6, bk), (5, .int md), (4, .dic tt)])), (dfD one oth (.dic ws) (.str r0) (.ins 2 [(6, bk), (5, .int md), (4, .dic tt)])), (dfD one oth (.dic bs) (.str r0) (.ins 2 [(6, bk), (5, .int md), (4, .dic tt)])), (dfD one rv (.dic sk) (.str r0) (.ins 2 [(6, bk), (5, .int md), (4, .dic tt)])), (dfD one xs (.dic sk) (.str r0) (.ins 2 [(6, bk), (5, .int md), (4, .dic tt)]))]), .no, .no, .no, .no, .no] = .nx [.im (.scr ns), .ow b10, s2, .im (.lst [.str r0, .str r1]), .im (.lst [.str a, .str b]), .im (.int many), .im (.str a), .im (.str b), .im (.dic [(.inr a, .dic [(.inr a, .int 1), (.inr b, .int many)]), (.inr b, .non)]), .im bk, .im (.int n), .im one, .im oth, .im (.dic [(.inr a, .int ta), (.inr b, .int 1)]), .im (.ins 2 [(6, bk), (5, .int md), (4, .dic tt)]), .im (.dic [(.inr a, .int ca), (.inr b, .int cb)]), .im (.dic sk), .im (.dic tt), .im (.bl due), .im (dfD one oth (.dic sk) (.str r0) (.ins 2 [(6, bk), (5, .int md), (4, .dic tt)])), .im od, .im (.dic ls), .im (.dic ws), .im (.dic bs), .ow (.lst [(dfD one oth od (.str r0) (.ins 2 [(6, bk), (5, .int md), (4, .dic tt)])), (dfD one oth (.dic sk) od (.ins 2 [(6, bk), (5, .int md), (4, .dic tt)])), (dfD one oth (.dic sk) (.str r0) od), (dfD one oth (.dic ls) (.str r0) (.ins 2 [(6, bk), (5, .int md), (4, .dic tt)])), (dfD one oth (.dic ws) (.str r0) (.ins 2 [(6, bk), (5, .int md), (4, .dic tt)])), (dfD one oth (.dic bs) (.str r0) (.ins 2 [(6, bk), (5, .int md), (4, .dic tt)])), (dfD one rv (.dic sk) (.str r0) (.ins 2 [(6, bk), (5, .int md), (4, .dic tt)])), (dfD one xs (.dic sk) (.str r0) (.ins 2 [(6, bk), (5, .int md), (4, .dic tt)])), (dfD one oth (.dic sk) (.str r0) xw)]), .no, .no, .no, .no, .no] := by
  simp [lw_25, ev_nam2, -ev_nam, e1, e2, differ_new, eDisp, dGo, keyD, putD]
theorem t_26 {a b r0 r1 z2 : Str} {many n ta md ca cb : Int} {bk one oth od rv xs xw b10 : D} {tt sk ls ws bs : List (Key × D)} {due kk : Bool} {s2 : Sl} {ns : List Int} (w0 : S_Differ_holds.F [(dfD one oth od (.str r0) (.ins 2 [(6, bk), (5, .int md), (4, .dic tt)]))] = .ok (.im (.bl false)) []) (w1 : S_Differ_holds.F [(dfD one oth (.dic sk) od (.ins 2 [(6, bk), (5, .int md), (4, .dic tt)]))] = .ok (.im (.bl false)) []) (w2 : S_Differ_holds.F [(dfD one oth (.dic sk) (.str r0) od)] = .ok (.im (.bl false)) []) (w3 : S_Differ_holds.F [(dfD one oth (.dic ls) (.str r0) (.ins 2 [(6, bk), (5, .int md), (4, .dic tt)]))] = .ok (.im (.bl false)) []) (w4 : S_Differ_holds.F [(dfD one oth (.dic ws) (.str r0) (.ins 2 [(6, bk), (5, .int md), (4, .dic tt)]))] = .ok (.im (.bl false)) []) (w5 : S_Differ_holds.F [(dfD one oth (.dic bs) (.str r0) (.ins 2 [(6, bk), (5, .int md), (4, .dic tt)]))] = .ok (.im (.bl false)) []) (w6 : S_Differ_holds.F [(dfD one rv (.dic sk) (.str r0) (.ins 2 [(6, bk), (5, .int md), (4, .dic tt)]))] = .ok (.im (.bl false)) []) (w7 : S_Differ_holds.F [(dfD one xs (.dic sk) (.str r0) (.ins 2 [(6, bk), (5, .int md), (4, .dic tt)]))] = .ok (.im (.bl false)) []) (w8 : S_Differ_holds.F [(dfD one oth (.dic sk) (.str r0) xw)] = .ok (.im (.bl false)) []) (f1 : S_Differ___repr__.F [(dfD one oth (.dic sk) od (.ins 2 [(6, bk), (5, .int md), (4, .dic tt)]))] = .ok (.im (.str z2)) []) (f2 : hEqA false .Eq [(0, S_Heap___eq__), (1, S_Book___eq__)] od (.str "xxxxxx") = .ov (.ok (.im (.bl kk)))) (f3 : z2 = if kk = true then "Differ(xxxxxx)" else "Differ()") : lw_26 [.im (.scr ns), .ow b10, s2, .im (.lst [.str r0, .str r1]), .im (.lst [.str a, .str b]), .im (.int many), .im (.str a), .im (.str b), .im (.dic [(.inr a, .dic [(.inr a, .int 1), (.inr b, .int many)]), (.inr b, .non)]), .im bk, .im (.int n), .im one, .im oth, .im (.dic [(.inr a, .int ta), (.inr b, .int 1)]), .im (.ins 2 [(6, bk), (5, .int md), (4, .dic tt)]), .im (.dic [(.inr a, .int ca), (.inr b, .int cb)]), .im (.dic sk), .im (.dic tt), .im (.bl due), .im (dfD one oth (.dic sk) (.str r0) (.ins 2 [(6, bk), (5, .int md), (4, .dic tt)])), .im od, .im (.dic ls), .im (.dic ws), .im (.dic bs), .ow (.lst [(dfD one oth od (.str r0) (.ins 2 [(6, bk), (5, .int md), (4, .dic tt)])), (dfD one oth (.dic sk) od (.ins 2 [(6, bk), (5, .int md), (4, .dic tt)])), (dfD one oth (.dic sk) (.str r0) od), (dfD one oth (.dic ls) (.str r0) (.ins 2 [(6, bk), (5, .int md), (4, .dic tt)])), (dfD one oth (.dic ws) (.str r0) (.ins 2 [(6, bk), (5, .int md), (4, .dic tt)])), (dfD one oth (.dic bs) (.str r0) (.ins 2 [(6, bk), (5, .int md), (4, .dic tt)])), (dfD one rv (.dic sk) (.str r0) (.ins 2 [(6, bk), (5, .int md), (4, .dic tt)])), (dfD one xs (.dic sk) (.str r0) (.ins 2 [(6, bk), (5, .int md), (4, .dic tt)])), (dfD one oth (.dic sk) (.str r0) xw)]), .no, .no, .no, .no, .no] = .nx [.im (.scr ns), .ow b10, s2, .im (.lst [.str r0, .str r1]), .im (.lst [.str a, .str b]), .im (.int many), .im (.str a), .im (.str b), .im (.dic [(.inr a, .dic [(.inr a, .int 1), (.inr b, .int many)]), (.inr b, .non)]), .im bk, .im (.int n), .im one, .im oth, .im (.dic [(.inr a, .int ta), (.inr b, .int 1)]), .im (.ins 2 [(6, bk), (5, .int md), (4, .dic tt)]), .im (.dic [(.inr a, .int ca), (.inr b, .int cb)]), .im (.dic sk), .im (.dic tt), .im (.bl due), .im (dfD one oth (.dic sk) (.str r0) (.ins 2 [(6, bk), (5, .int md), (4, .dic tt)])), .im od, .im (.dic ls), .im (.dic ws), .im (.dic bs), .im (.lst [(dfD one oth od (.str r0) (.ins 2 [(6, bk), (5, .int md), (4, .dic tt)])), (dfD one oth (.dic sk) od (.ins 2 [(6, bk), (5, .int md), (4, .dic tt)])), (dfD one oth (.dic sk) (.str r0) od), (dfD one oth (.dic ls) (.str r0) (.ins 2 [(6, bk), (5, .int md), (4, .dic tt)])), (dfD one oth (.dic ws) (.str r0) (.ins 2 [(6, bk), (5, .int md), (4, .dic tt)])), (dfD one oth (.dic bs) (.str r0) (.ins 2 [(6, bk), (5, .int md), (4, .dic tt)])), (dfD one rv (.dic sk) (.str r0) (.ins 2 [(6, bk), (5, .int md), (4, .dic tt)])), (dfD one xs (.dic sk) (.str r0) (.ins 2 [(6, bk), (5, .int md), (4, .dic tt)])), (dfD one oth (.dic sk) (.str r0) xw)]), .no, .no, .no, .no, .no] := by
  have q1 : bBin .Mult (.lst [.bl false]) (.int 9) = .ok (.ow (.lst [.bl false, .bl false, .bl false, .bl false, .bl false, .bl false, .bl false, .bl false, .bl false])) := rfl
  have q2 := hEqA_N (l := [(0, S_Heap___eq__), (1, S_Book___eq__)]) (eq_bls (l := [false, false, false, false, false, false, false, false, false]) (r := [false, false, false, false, false, false, false, false, false]))
  simp at q2
  cases kk with
  | true =>
    simp at f3
    subst f3
    have q3 := hEqA_N (l := [(0, S_Heap___eq__), (1, S_Book___eq__)]) (lit_eq (s := "Differ(xxxxxx)") (t := "Differ(xxxxxx)"))
    simp at q3
    simp [lw_26, ev_nam2, -ev_nam, w0, w1, w2, w3, w4, w5, w6, w7, w8, f1, f2, q1, q2, eRepr, strF, lcGo, bindD, q3]
  | false =>
    simp at f3
    subst f3
    have q3 := hEqA_N (l := [(0, S_Heap___eq__), (1, S_Book___eq__)]) (lit_eq (s := "Differ()") (t := "Differ()"))
    simp at q3
    simp [lw_26, ev_nam2, -ev_nam, w0, w1, w2, w3, w4, w5, w6, w7, w8, f1, f2, q1, q2, eRepr, strF, lcGo, bindD, q3]
end Pu
namespace Pu
open PySem PySem.Spec PyProof.Rows L2
theorem sort2 {x y : Str} (h : TwoW x y) : ∃ a b, bSorted [.lst [.str x, .str y]] = some (.lst [.str a, .str b]) ∧ nameB a = true ∧ nameB b = true ∧ a ≠ b ∧ leS a b ∧ a.length ≤ 5 ∧ b.length ≤ 5 := by
  have e := pv_sorted (l := [x, y]) (by simp)
  have p := sortS_pair [x, y]
  have nd := sortS_nodup (l := [x, y]) (by simp [h.ne])
  have m : ∀ z ∈ sortS [x, y], z = x ∨ z = y := fun z hz => by simpa using sortS_mem.mp hz
  have ln := sortS_len (l := [x, y])
  generalize sortS [x, y] = r at e p nd m ln
  match r, ln with
  | [a, b], _ =>
    have w : ∀ z, z = x ∨ z = y → nameB z = true ∧ z.length ≤ 5 := fun z hz => by
      rcases hz with rfl | rfl
      · exact ⟨h.nx, h.lx⟩
      · exact ⟨h.ny, h.ly⟩
    have wa := w a (m a (by simp))
    have wb := w b (m b (by simp))
    exact ⟨a, b, e, wa.1, wb.1, by simpa using nd, by simpa using p, wa.2, wb.2⟩
theorem md_of {many : Int} (h0 : 2 ≤ many) (h1 : many ≤ 9) {i : Nat} (hi : i < 4) : ∃ md, ([D.int many, .int many, .int 0, .int 2]).getD i .non = .int md ∧ 0 ≤ md ∧ md ≤ 9 := by
  match i, hi with
  | 0, _ => exact ⟨many, rfl, by omega, by omega⟩
  | 1, _ => exact ⟨many, rfl, by omega, by omega⟩
  | 2, _ => exact ⟨0, rfl, by omega, by omega⟩
  | 3, _ => exact ⟨2, rfl, by omega, by omega⟩
theorem str_ok3 {a b c : Str} (ha : PyData.strOk a = true) (hb : PyData.strOk b = true) (hc : PyData.strOk c = true) : PyData.strOk (a ++ b ++ c) = true := by
  show PyData.strOk (Str.append (Str.append a b) c) = true
  unfold PyData.strOk at ha hb hc ⊢
  rw [← Array.all_toList, List.all_eq_true] at ha hb hc ⊢
  intro z hz
  simp [Str.append] at hz
  rcases hz with hz | hz | hz
  · exact ha z (by simpa using hz)
  · exact hb z (by simpa using hz)
  · exact hc z (by simpa using hz)
theorem dcF_same {ls : List (Nat × Fs)} {l : List (Str × Int)} (h : (ksN l).Nodup) : dcF true ls [.dic (dN l), .dic (dN l)] = .ok (.im (.bl false)) [] := by
  have e : ∀ q ∈ l, gtO l q.1 = some q.2 := fun q hq => gtO_of h hq
  have e2 : (∀ q ∈ l, gtO l q.1 = some q.2) = True := eq_true e
  simp only [dcF, eqDic_dN, if_true, e2]
  rfl
theorem eq_xx : bEq (.str x6) (.str "xxxxxx") = some true := by simp
theorem odd_repr {i : Nat} (hi : i < 6) {o o' st w : D} : ∃ z kk, S_Differ___repr__.F [dfD o o' st (oddL.getD i .non) w] = .ok (.im (.str z)) [] ∧ hEqA false .Eq [(0, S_Heap___eq__), (1, S_Book___eq__)] (oddL.getD i .non) (.str "xxxxxx") = .ov (.ok (.im (.bl kk))) ∧ z = if kk = true then "Differ(xxxxxx)" else "Differ()" := by
  match i, hi with
  | 0, _ => exact ⟨_, false, differ_repr_no (t := 6) rfl (by decide), hEqA_E (by decide +kernel), rfl⟩
  | 1, _ => exact ⟨_, false, differ_repr_no (t := 1) rfl (by decide), hEqA_E (by decide +kernel), rfl⟩
  | 2, _ => exact ⟨_, true, differ_repr (by decide +kernel), hEqA_E eq_xx, by decide +kernel⟩
  | 3, _ => exact ⟨_, false, differ_repr_no (t := 4) rfl (by decide), hEqA_E (by decide +kernel), rfl⟩
  | 4, _ => exact ⟨_, false, differ_repr_no (t := 5) rfl (by decide), hEqA_E (by decide +kernel), rfl⟩
  | 5, _ => exact ⟨_, false, differ_repr_no (t := 2) rfl (by decide), hEqA_E (by decide +kernel), rfl⟩
theorem two_same {i : Nat} (hi : i < 2) {d : D} : ([d, d]).getD i .non = d := by
  match i, hi with
  | 0, _ => rfl
  | 1, _ => rfl
structure TS (ns : List Int) (ρ : Rho) : Prop where
  ex : ∃ b s2 s3 s4 s5 s6 s7 s8 s9 s10 s11 s12 s13 s14 s15 s16 s17 s18 s19 s20 s21 s22 s23 s24, ρ = [.im (.scr ns), .ow b, s2, s3, s4, s5, s6, s7, s8, s9, s10, s11, s12, s13, s14, s15, s16, s17, s18, s19, s20, s21, s22, s23, s24, .no, .no, .no, .no, .no] ∧ BagOk b ∧ muB s2 = false ∧ muB s3 = false ∧ muB s4 = false ∧ muB s5 = false ∧ muB s6 = false ∧ muB s7 = false ∧ muB s8 = false ∧ muB s9 = false ∧ muB s10 = false ∧ muB s11 = false ∧ muB s12 = false ∧ muB s13 = false ∧ muB s14 = false ∧ muB s15 = false ∧ muB s16 = false ∧ muB s17 = false ∧ muB s18 = false ∧ muB s19 = false ∧ muB s20 = false ∧ muB s21 = false ∧ muB s22 = false ∧ muB s23 = false ∧ muB s24 = false ∧ s19.hot = false
theorem turn_ev {ns : List Int} {ρ : Rho} (h : TS ns ρ) : ∃ ρ', lw_all ρ = .nx ρ' ∧ TS ns ρ' := by
  obtain ⟨b, s2, s3, s4, s5, s6, s7, s8, s9, s10, s11, s12, s13, s14, s15, s16, s17, s18, s19, s20, s21, s22, s23, s24, rfl, ok, q2, q3, q4, q5, q6, q7, q8, q9, q10, q11, q12, q13, q14, q15, q16, q17, q18, q19, q20, q21, q22, q23, q24, c19⟩ := h.ex
  obtain ⟨r0, r1, b1, e1, rr, ok1⟩ := words_ev ok
  obtain ⟨x, y, b2, e2, xy, ok2⟩ := words_ev ok1
  obtain ⟨a, bb, e3, na, nb, hab, le, la, lb⟩ := sort2 xy
  obtain ⟨dd, b3, e4, d0, d1, ok3⟩ := draw_ev ok2 (m := 8) (by omega) (by omega)
  obtain ⟨many, hm⟩ : ∃ many : Int, many = 2 + dd := ⟨_, rfl⟩
  obtain ⟨n, b4, e5, n0, n1, ok4⟩ := draw_ev ok3 (m := 12) (by omega) (by omega)
  obtain ⟨ta, b5, e6, t0, t1, ok5⟩ := draw_ev ok4 (m := many) (by omega) (by omega)
  obtain ⟨i6, b6, e7, l6, ok6⟩ := of_ev (d0 := bkD a bb many) (ds := [bkD a bb many]) ok5 (by simp)
  rw [two_same l6] at e7
  obtain ⟨i7, b7, e8, l7, ok7⟩ := of_ev (d0 := .int many) (ds := [.int many, .int 0, .int 2]) ok6 (by simp)
  obtain ⟨md, e9, m0, m1⟩ := md_of (many := many) (by omega) (by omega) l7
  rw [e9] at e8
  obtain ⟨ca, b8, ea, ca0, ca1, ok8⟩ := draw_ev ok7 (m := 4) (by omega) (by omega)
  obtain ⟨cb, b9, eb, cb0, cb1, ok9⟩ := draw_ev ok8 (m := 60) (by omega) (by omega)
  obtain ⟨io, b10, ec, lo, ok10⟩ := of_ev (d0 := .non) (ds := [.int 3, .str x6, .lst [.str "a"], .tup [], .bl true]) ok9 (by simp)
  have ec : S__law_of.F [b9, .lst oddL] = .ok (.im (oddL.getD io .non)) [b10] := ec
  have lo : io < 6 := lo
  have h : Tn r0 r1 a bb many n ta md ca cb := ⟨rr, na, nb, hab, le, by omega, by omega, n0, by omega, t0, by omega, m0, m1, ca0, by omega, cb0, by omega⟩
  obtain ⟨z2, kk, f1, f2, f3⟩ := odd_repr lo (o := oneD r0 r1 a bb many n) (o' := othD r0 r1 a bb many) (st := .dic (stK r0 a bb ca cb)) (w := wlD a bb many ta md)
  have lr := rr.lx
  have lz : ("Differ(" : Str).length + r0.length ≤ 16777216 := by
    have : ("Differ(" : Str).length = 7 := by decide +kernel
    omega
  have lz2 : (("Differ(" : Str) ++ r0).length + (")" : Str).length ≤ 16777216 := by
    have : ("Differ(" : Str).length = 7 := by decide +kernel
    have : (")" : Str).length = 1 := by decide +kernel
    rw [Str.length_append]
    omega
  have okr := nameB_ok rr.nx
  have okz : PyData.strOk ("Differ(" ++ r0 ++ ")") = true := str_ok3 (by decide +kernel) okr (by decide +kernel)
  obtain ⟨p5a, p5b⟩ := x6_ab h la lb
  have dq : dcF true [(0, S_Heap___eq__), (1, S_Book___eq__)] [.dic (ttK a bb ta md), .dic (ttK a bb ta md)] = .ok (.im (.bl false)) [] := dcF_same (tb_nd h)
  have k0 : (stK r0 a bb ca cb).foldl (fun acc kv => putD acc kv.1 kv.2) [] = stK r0 a bb ca cb := rfl
  have k1 : putD (stK r0 a bb ca cb) (.inr "xxxxxx") (hp []) = lostK r0 a bb ca cb := by
    have := x6_r0 h
    simp [putD, stK, dG, lostK]
    intro z
    exact absurd z.symm this
  have hx : S_Heap_of_s1.F [.str "xxxxxx"] = .ok (.ow (hp [(x6, 1)])) [] := heap_of1 x6_name
  rw [lw_all, ev_seq]
  rw [t_0 q3 q4 q5 e1 e2 e3 e4, ev_seq_nx, ← hm, ev_seq, t_1 q6 q7, ev_seq_nx, ev_seq, t_2 q8, ev_seq_nx, ev_seq, t_3 hab, ev_seq_nx, ev_seq,
    t_4 q9 q10 (mk_book h) e5, ev_seq_nx, ev_seq, t_5 q11 q12 (mk_one h) (mk_oth h), ev_seq_nx, ev_seq, t_6 q13, ev_seq_nx, ev_seq, t_7 hab e6, ev_seq_nx, ev_seq,
    t_8 q14 (mk_book h) e7 e8 (mk_wl h), ev_seq_nx, ev_seq, t_9 q15, ev_seq_nx, ev_seq, t_10 hab ea eb, ev_seq_nx, ev_seq, t_11 q16, ev_seq_nx, ev_seq,
    t_12 (mk_start h) (show putD [] (.inr r0) (hp (h0 a bb ca cb)) = stK r0 a bb ca cb from rfl), ev_seq_nx, ev_seq, t_13 q17 (wt_ev h), ev_seq_nx, ev_seq,
    t_14 q18 (plus2 h) (due_ev h), ev_seq_nx, ev_seq, t_15 q19, ev_seq_nx, ev_seq,
    t_16 (p_ok0 h) (differ_repr (by omega)) (pv_adds lz) (pv_adds lz2) (same4 okz okr), ev_seq_nx, ev_seq,
    t_17 (p_ok1 h) (p_ok2 h) (wt_ev h) dq, ev_seq_nx, ev_seq, t_18 q20 ec, ev_seq_nx, ev_seq, t_19 q21 q22 q23 k0, ev_seq_nx, ev_seq,
    t_20 hx k1 (show putD [] (.inr r0) (hp [(x6, 1)]) = wildK r0 from rfl) (show putD [] (.inr r0) (.dic [(.inr a, .int ca), (.inr bb, .int cb)]) = badK r0 a bb ca cb from rfl) (by simp [stK, dG]), ev_seq_nx, ev_seq,
    t_21 q24, ev_seq_nx, ev_seq, t_22, ev_seq_nx, ev_seq, t_23 (mk_rev h), ev_seq_nx, ev_seq, t_24 mk_xb (mk_xs h), ev_seq_nx, ev_seq, t_25 mk_xb mk_xw, ev_seq_nx, ev_seq,
    t_26 (p_bad1 h lo) (p_bad2 h lo) (p_bad3 h lo) (p_bad4 h) (p_bad5 h la lb) (p_bad6 h) (p_bad7 h) (p_bad8 h) (p_bad9 h) f1 f2 f3, ev_seq_nx]
  refine ⟨_, rfl, ⟨_, _, _, _, _, _, _, _, _, _, _, _, _, _, _, _, _, _, _, _, _, _, _, _, rfl, ok10, q2, rfl, rfl, rfl, rfl, rfl, rfl, rfl, rfl, rfl, rfl, rfl, rfl, rfl, rfl, rfl, rfl, rfl, rfl, rfl, rfl, rfl, rfl, rfl⟩⟩
end Pu
namespace Pu
open PySem PySem.Spec PyProof.Rows L2
theorem sl_scr {ns : List Int} (h : ns.length ≤ 63) : bSl (.scr ns) none (some 63) = some (.ow (.lst (ns.map D.int))) := by
  simp [bSl, cutD, HT.sIx, asL]
  exact List.take_of_length_le (by simp; omega)
theorem bag_ev {ns : List Int} (h : ns.length ≤ 63) : ∃ b, S__law_bag.F [.scr ns] = .ok (.ow b) [] ∧ BagOk b := by
  have e := sl_scr h
  have q1 : (0 : Int) < 2147483563 := by omega
  have q2 : (0 : Int) < 1000003 := by omega
  have c1 : ∀ i, CMul i 47917 := fun i => cmul_r (by omega) (by omega)
  have c2 : ∀ i, CMul i 613 := fun i => cmul_r (by omega) (by omega)
  simp only [F__law_bag, d__law_bag, st_run, ev_seq]
  simp [e]
  generalize hbd : sSeq (sAsg (gNam 1) _) sSkip = body
  obtain ⟨ρ', el, x, s2, hρ, c3, hx0, hx1⟩ := forL_keep (g := gNam 2) (body := body) (P := fun ρ => ∃ x s2, ρ = [.im (.scr ns), .im (.int x), s2] ∧ s2.hot = false ∧ 0 ≤ x ∧ x < 2147483563)
    (ns.map D.int) [.im (.scr ns), .im (.int 12011), .no] ⟨12011, .no, rfl, rfl, by omega, by omega⟩ (by
    rintro d hd ρ ⟨x, s2, rfl, c3, hx0, hx1⟩
    obtain ⟨i, _, rfl⟩ := List.mem_map.mp hd
    subst hbd
    refine ⟨[.im (.scr ns), .im (.int x), .im (.int i)], [.im (.scr ns), .im (.int ((x * 47917 + i % 1000003 * 613 + 31) % 2147483563)), .im (.int i)], ?_, ?_, _, _, rfl, rfl, Int.emod_nonneg _ (by omega), Int.emod_lt_of_pos _ q1⟩
    · cases s2 <;> first | (cases c3; done) | simp
    · simp [pv_mul (c1 _), pv_mul (c2 _), pv_mod q1, pv_mod q2])
  subst hρ
  rw [el]
  refine ⟨bagD ns (0 : Nat) 0 x 0, ?_, ⟨ns, 0, 0, x, 0, rfl, h, by omega, hx0, by omega⟩⟩
  simp [e]
abbrev csF (i : Int) : List (Str × Option HL) := [("a", some [("a", 2 + i)]), ("b", none)]
abbrev csN : List (Str × Option HL) := [("a", none), ("b", none)]
abbrev twB : HL := [("a", 0), ("b", 1)]
abbrev onF (i : Int) : D := scD (csF i) ["r"] [.put "r" [("b", 1)]]
structure Far (i : Int) : Prop where
  book : S__law_book.F [.dic [(.inr "a", .dic [(.inr "a", .int (2 + i))]), (.inr "b", .non)]] = .ok (.ow (bk (csF i))) []
  one : mkO 3 S_Script___init___s1.F [bk (csF i), .lst [.str "r"], .tup [.str "put", .str "r", hp [("b", 1)]]] = .ok (.ow (onF i)) []
  bare : mkO 3 S_Script___init___s0.F [bk (csF i), .lst [.str "r"]] = .ok (.ow (scD (csF i) ["r"] [])) []
  part : mkO 2 S_WorthList___init__.F [bk (csF i), .dic [(.inr "a", .int 0), (.inr "b", .int 1)]] = .ok (.ow (wl (csF i) 0 twB)) []
  yes : S_Differ_holds.F [dfD (onF i) (scD (csF i) ["r"] []) (.dic []) (.str "r") (wl (csF i) 0 twB)] = .ok (.im (.bl true)) []
  no : S_Differ_holds.F [dfD (onF i) (scD csN ["r"] []) (.dic []) (.str "r") (wl (csF i) 0 twB)] = .ok (.im (.bl false)) []
theorem far_of {i : Int} (h0 : 0 ≤ i) (h1 : i < 9) : Far i := by
  obtain rfl | rfl | rfl | rfl | rfl | rfl | rfl | rfl | rfl : i = 0 ∨ i = 1 ∨ i = 2 ∨ i = 3 ∨ i = 4 ∨ i = 5 ∨ i = 6 ∨ i = 7 ∨ i = 8 := by omega
  all_goals exact ⟨by kernel_rfl, by kernel_rfl, by kernel_rfl, by kernel_rfl, by kernel_rfl, by kernel_rfl⟩
theorem near_ev : S__law_book.F [.dic [(.inr "a", .non), (.inr "b", .non)]] = .ok (.ow (bk csN)) [] := by kernel_rfl
theorem near_bare : mkO 3 S_Script___init___s0.F [bk csN, .lst [.str "r"]] = .ok (.ow (scD csN ["r"] [])) [] := by kernel_rfl
theorem of_b : S_Heap_of_s1.F [.str "b"] = .ok (.ow (hp [("b", 1)])) [] := by kernel_rfl
theorem eq_tf : hEqA false .Eq [(0, S_Heap___eq__), (1, S_Book___eq__)] (.lst [.bl true, .bl false]) (.lst [.bl true, .bl false]) = .ov (.ok (.im (.bl true))) := hEqA_E (eq_bls (l := [true, false]) (r := [true, false]))
theorem tail_ev {ns : List Int} {ρ : Rho} (h : TS ns ρ) : ∃ ρ', (sSeq lt_2 (sSeq lt_3 (sSeq lt_4 (sSeq lt_5 sSkip)))) ρ = .rt (.im (.bl true)) ρ' := by
  obtain ⟨b, s2, s3, s4, s5, s6, s7, s8, s9, s10, s11, s12, s13, s14, s15, s16, s17, s18, s19, s20, s21, s22, s23, s24, rfl, ok, q2, q3, q4, q5, q6, q7, q8, q9, q10, q11, q12, q13, q14, q15, q16, q17, q18, q19, q20, q21, q22, q23, q24, c19⟩ := h.ex
  obtain ⟨i, b1, e1, h0, h1, ok1⟩ := draw_ev ok (m := 9) (by omega) (by omega)
  have f := far_of h0 h1
  simp [lt_2, lt_3, lt_4, lt_5, ev_nam2, -ev_nam, q11, e1, eDisp, dGo, keyD, putD, f.book, near_ev, f.one, f.bare, f.part, near_bare, of_b, differ_new, f.yes, f.no, eq_tf, c19, lcGo, bindD, lit_inj]
theorem plain58 (ns : List Int) (h : ns.length ≤ 63) : ∃ ms, S_law.F [.scr ns] = .ok (.im (.bl true)) ms := by
  obtain ⟨b, eb, ok⟩ := bag_ev h
  have i3 : i62 3 = true := by decide
  have st : TS ns [.im (.scr ns), .ow b, .no, .no, .no, .no, .no, .no, .no, .no, .no, .no, .no, .no, .no, .no, .no, .no, .no, .no, .no, .no, .no, .no, .no, .no, .no, .no, .no, .no] := ⟨b, .no, .no, .no, .no, .no, .no, .no, .no, .no, .no, .no, .no, .no, .no, .no, .no, .no, .no, .no, .no, .no, .no, .no, rfl, ok, rfl, rfl, rfl, rfl, rfl, rfl, rfl, rfl, rfl, rfl, rfl, rfl, rfl, rfl, rfl, rfl, rfl, rfl, rfl, rfl, rfl, rfl, rfl, rfl⟩
  obtain ⟨ρ1, el, st1⟩ := forL_keep (g := gNam 2) (body := lw_all) (P := TS ns) (rngD 0 3) _ st (by
    rintro d hd ρ hρ
    have hρ' := hρ.ex
    obtain ⟨b, s2, s3, s4, s5, s6, s7, s8, s9, s10, s11, s12, s13, s14, s15, s16, s17, s18, s19, s20, s21, s22, s23, s24, rfl, ok, q2, q3, q4, q5, q6, q7, q8, q9, q10, q11, q12, q13, q14, q15, q16, q17, q18, q19, q20, q21, q22, q23, q24, c19⟩ := hρ'
    obtain ⟨ρ2, e2, h2⟩ := turn_ev (ρ := [.im (.scr ns), .ow b, .im d, s3, s4, s5, s6, s7, s8, s9, s10, s11, s12, s13, s14, s15, s16, s17, s18, s19, s20, s21, s22, s23, s24, .no, .no, .no, .no, .no]) ⟨b, .im d, s3, s4, s5, s6, s7, s8, s9, s10, s11, s12, s13, s14, s15, s16, s17, s18, s19, s20, s21, s22, s23, s24, rfl, ok, rfl, q3, q4, q5, q6, q7, q8, q9, q10, q11, q12, q13, q14, q15, q16, q17, q18, q19, q20, q21, q22, q23, q24, c19⟩
    exact ⟨_, ρ2, by rw [ev_nam2]; simp only [List.getElem?_cons_succ, List.getElem?_cons_zero, q2]; rfl, e2, h2⟩)
  obtain ⟨ρ2, e2⟩ := tail_ev st1
  refine ⟨[], ?_⟩
  rw [F_law, st_run, d_law_eq, ev_seq]
  simp [lt_0, eb, i3]
  rw [el, ev_seq_nx, e2]
  rfl
end Pu
namespace HeadK
open PySem PySem.W PySem.Calls PyProof.Rows
theorem run (w : World) : HandSHeadRun.RunEq R qv hk ob 14000 names w :=
  byRow2 "special-get-raises" (P := fun w => HandSHeadRun.RunEq R qv hk ob 14000 names w) runF runT w
def CXP (P : Program) : L2.CXT := fun outer H s E e s' => ∃ w, L2.CX P w outer H s E e s'
open Pu L2 in
theorem ok_law {G : Gb} {fd : FuncData} (Z : Zx tabs G) (F : FunD G.T.K "law" "law" (defArgs (top 96)) (defBody (top 96)) (defScope (top 96)) [] [] (He.fAd G.T.K ("law", none)) fd) : FnOk G.P G.w G.T.K G.mg G.base (CXP G.P) 11 (He.fAd G.T.K ("law", none)) fd ["_law_script"] (spR G.T [false] (Pu.runF 30 [false] d_law)) := by
  have A : FnOk G.P G.w G.T.K G.mg G.base (CX G.P G.w) 11 (He.fAd G.T.K ("law", none)) fd ["_law_script"] (spR G.T [false] (Pu.runF 30 [false] d_law)) := fok (N := N_law) (den := d_law) (fl := [false]) F fs_law rfl rfl (by decide) (fun X g b => j_law Z g b)
  refine ⟨A.len, fun AA outer s H args us vs Q E hr e0 hb hv hq => codeAny_mono (A.run AA outer s H args us vs Q E hr e0 hb hv hq) fun r s' h => ?_⟩
  match r, h with
  | .ok (.ret u), h => exact h
  | .error e, h => exact ⟨_, h⟩
open Pu L2 in
theorem sp_law {T : Tb} (plain : ∀ ns : List Int, ns.length ≤ 63 → ∃ ms, S_law.F [.scr ns] = .ok (.im (.bl true)) ms) {H : Hp} {a : Addr} {ns : List Int} (hl : ns.length ≤ 63) (ho : L2.Only H) (hs : L2.SqL T.K H a (ns.map V.int)) : spR T [false] (Pu.runF 30 [false] d_law) [.ref a] H (fun v _ => v = .bl true) (fun _ _ _ => False) := by
  obtain ⟨ms, e⟩ := plain ns hl
  refine ⟨fun b => if b = a then H a else none, [.scr ns], [], ?_, .im (.scr ?_) .nil, ?_⟩
  · intro b o h
    by_cases hb : b = a
    · subst hb; simpa using h
    · simp [hb] at h
  · rcases hs with h | h
    · left
      rcases h with h | ⟨o, h⟩
      · exact Or.inl (by simpa using h)
      · exact Or.inr ⟨o, by simpa using h⟩
    · exact Or.inr h
  · have e' : Pu.runF 30 [false] d_law [.scr ns] = .ok (.im (.bl true)) ms := e
    rw [e']
    intro v H' B' _ hv
    exact (by cases hv; rfl)
end HeadK
open Pu PySem PySem.W PySem.Calls PyProof.Rows
theorem join58 (plain : ∀ ns : List Int, ns.length ≤ 63 → ∃ ms, S_law.F [.scr ns] = .ok (.im (.bl true)) ms) : PySem.Challenge.rw_forkmeet_k58_what_tells_scripts_apart_ju.Holds := by
  w_on; o_law
  refine HandSHeadRun.head_any (r := HeadK.R) (q := HeadK.qv) (H := HeadK.hk) (ob := HeadK.ob) (M := 14000) (loose := HeadK.names) (d := HandSHeadRun.topDef HeadK.R.prog 96) (kwd := []) HeadK.ob_eq
    (by kernel_rfl) (fun s => by kernel_rfl) HeadK.run (by kernel_rfl) (by kernel_rfl) (by kernel_rfl) (by rfl) (by first | assumption | decide +kernel) (by decide +kernel) ⟨rfl, rfl, rfl, rfl, rfl, by decide +kernel⟩ ?hw ?hc
  case hw => w_witness2
  case hc =>
    refine L2.walk_ofE (l := PySem.Challenge.rw_forkmeet_k58_what_tells_scripts_apart_ju) (n := 63) (k := 11) (x := "_law_script") (CX := HeadK.CXP (PySem.Challenge.rw_forkmeet_k58_what_tells_scripts_apart_ju).prog) rfl (by decide) (by kernel_rfl) ⟨rfl, by decide, by decide⟩ ?F (fun _ _ _ _ z => ?_)
    · intro w mg fa h Y G hmg0
      obtain ⟨K, KX, c⟩ := Y
      have hmg : mg ("law" : PySem.Str) = some (.ref fa) := by
        have e : (HandSHeadRun.topDef HeadK.R.prog 96).name = ("law" : PySem.Str) := by kernel_rfl
        rw [← e]
        exact hmg0
      have Z : ∀ base : Heap, K.In base → base.Ns mainGlobals mg → Zx tabs ⟨(PySem.Challenge.rw_forkmeet_k58_what_tells_scripts_apart_ju).prog, w, ⟨K, tabs.nm, tabs.cl⟩, mg, base⟩ := fun base KB GB => zx_of (base := base) (P := (PySem.Challenge.rw_forkmeet_k58_what_tells_scripts_apart_ju).prog) KX G c (by decide +kernel) (by decide +kernel)
      have hfa : fa = He.fAd K ("law", none) := Value.ref.inj (Option.some.inj (hmg.symm.trans ((k_S_law (Z h KX G)).hm)))
      subst hfa
      obtain ⟨fd, F⟩ := (Z h KX G).fn 49 _ (by rfl)
      have b := L2.FunD.bindsA (ps := ["_law_script"]) F fun _ _ _ _ _ _ us hl => match us, hl with | [_], _ => rfl
      exact ⟨K, fd, spR ⟨K, tabs.nm, tabs.cl⟩ [false] (Pu.runF 30 [false] d_law), KX, fun s u => b s [u] rfl, fun H a ns hl ho hS => HeadK.sp_law plain hl ho hS, fun base KB GB => HeadK.ok_law (Z base KB GB) F⟩
    · obtain ⟨w', z⟩ := z
      obtain ⟨a, B, H', cls, d, z⟩ := z
      exact z.2.2.2.2.2.2.2
theorem PySem.Challenge.cw_forkmeet_k58_what_tells_scripts_apart_ju_holds : PySem.Challenge.rw_forkmeet_k58_what_tells_scripts_apart_ju.Holds := by
  exact join58 Pu.plain58
