import PyProof.Rows.All
import Wide.All
import OpenK.AllK
import Wide.FinOn
import KE.KStateDown
import Lean
import HandS.ForMost
import HandS.Deep
import HandS.ForExc
import HandS.WordsExc
import HandS.HeadHook1
import HandS.Wide
import HandS.TupAny
import HandS.Style
import HandS.TupLe
import HandS.IsInst
import HandS.TupLen
import KE.SortData
import HandS.WideBits
import HandS.Defaults
import HandS.Head0
import HandS.Head1
import HandS.Head2
import HandS.HeadEnd
import HandS.HeadHook2
import HandS.EndBits
import HandS.Iter
import HandS.Text
import HandS.RaiseMore
import HandS.MapJoin
import HandS.Dict
import PyProof.SliceList
import KE.GoesEnum
import Wide.Tac
import KE.GoesZip
import KE.GoesMore
import KE.KDictZip
import KE.DataMinMax
import PyProof.StrBlock2
import HandS.SortKw
import HandS.ExcIs
import HandS.ExcBuiltin
import KE.SortLaws
import HandS.More
import HandS.DictTup
import HandS.ListItems
import HandS.Conv
import HandS.DictComp
import HandS.SetFor
import HandS.ExcInit
import HandS.ExcField
import HandS.TryOnly
import PyProof.StrLawsIn
import PySem.Challenge.RW_likebook_k02_a_pack_made
set_option Elab.async false
set_option linter.all false
set_option maxRecDepth 100000
set_option maxHeartbeats 1000000
set_option autoImplicit false
namespace P
open PySem PySem.Spec PyProof.Rows L2
/-- an exception of the class cls, its dict at d, at a -/
def ExH (cls : Value) (d : Option Addr) (a : Addr) : HO := .ext fun h => ∃ (oe : Obj) (vs : Array Value), h.get? a = some oe ∧ Zc cls d oe ∧ oe.data = .fields vs
/-- data without the heap -/
inductive D where
  | sc (v : V)
  | tup (ds : List D)
  | ktp (ds : List D)
  | lst (ds : List D)
  | dic (ks : List Key) (ds : List D)
  | dit (ks : List (List Key)) (ds : List D)
  | exc (cn : Str) (ns : List Str) (ds : List D)
  | cls (cn : Str)
  | ob (a : Addr)
  | ins (cn : Str) (ns : List Str) (ds : List D)
abbrev D.non : D := .sc .non
abbrev D.bl (b : Bool) : D := .sc (.bl b)
abbrev D.int (i : Int) : D := .sc (.int i)
abbrev D.str (x : Str) : D := .sc (.str x)
/-- the signs of a text are signs -/
def okV : V → Bool
  | .str x => PyData.strOk x
  | _ => true
/-- a key whose signs are signs -/
def okK : Key → Bool
  | .inl _ => true
  | .inr x => PyData.strOk x
mutual
inductive Rep (K : PySem.W.Frag) (Z : Hp) : V → D → Prop
  | sc {v : V} : okV v = true → Rep K Z v (.sc v)
  | tup {a : Addr} {vs : List V} {ds : List D} : Z a = some (.tup vs) → RepL K Z vs ds → Rep K Z (.ref a) (.tup ds)
  | ktp {a : Addr} {vs : List V} {ds : List D} : (∀ Z, SqT K Z a vs) → RepL K Z vs ds → Rep K Z (.ref a) (.ktp ds)
  | lst {a : Addr} {vs : List V} {ds : List D} : SqL K Z a vs → RepL K Z vs ds → Rep K Z (.ref a) (.lst ds)
  | dic {a : Addr} {kvs : List (Key × V)} {ks : List Key} {ds : List D} : Rd Z a (.dK kvs) → (kvs.map (·.1) = ks ∧ ks.all okK = true) → RepL K Z (kvs.map (·.2)) ds → Rep K Z (.ref a) (.dic ks ds)
  | dit {a : Addr} {kvs : List (List Key × V)} {ks : List (List Key)} {ds : List D} : Rd Z a (.dT kvs) → (kvs.map (·.1) = ks ∧ (ks.all fun k => k.all okK) = true) → RepL K Z (kvs.map (·.2)) ds → Rep K Z (.ref a) (.dit ks ds)
  | exc0 {a : Addr} {cn : Str} : Z a = some (ExH (.ref (He.ga K cn)) none a) → Rep K Z (.ref a) (.exc cn [] [])
  | exc {a d : Addr} {cn : Str} {fs : List (Str × V)} {ns : List Str} {ds : List D} : Z a = some (ExH (.ref (He.ga K cn)) (some d) a) → Z d = some (.xd fs) → ns ≠ [] → fs.map (·.1) = ns → RepL K Z (fs.map (·.2)) ds → Rep K Z (.ref a) (.exc cn ns ds)
  | cls {cn : Str} : Rep K Z (.ref (He.ga K cn)) (.cls cn)
  | ob {a : Addr} : Rep K Z (.ref a) (.ob a)
  | ins {a dx : Addr} {cn : Str} {fs : List (Str × V)} {ns : List Str} {ds : List D} : Z a = some (.ins (He.ga K cn) dx fs) → fs.map (·.1) = ns → RepL K Z (fs.map (·.2)) ds → Rep K Z (.ref a) (.ins cn ns ds)
inductive RepL (K : PySem.W.Frag) (Z : Hp) : List V → List D → Prop
  | nil : RepL K Z [] []
  | cons {v : V} {vs : List V} {d : D} {ds : List D} : Rep K Z v d → RepL K Z vs ds → RepL K Z (v :: vs) (d :: ds)
end
/-- no list, no dict within -/
def D.imm : D → Bool
  | .sc _ => true
  | .tup ds => immL ds
  | .ktp ds => immL ds
  | .cls _ => true
  | .ob _ => true
  | _ => false
where immL : List D → Bool
  | [] => true
  | d :: ds => d.imm && immL ds
variable {K : PySem.W.Frag} {Z Z' H H' : Hp}
theorem Same.sqL {a : Addr} {xs : List V} (s : Same Z Z') (h : SqL K Z a xs) : SqL K Z' a xs := s.seq h
theorem Same.sqT {a : Addr} {xs : List V} (e : Same Z Z') (h : SqT K Z a xs) : SqT K Z' a xs := by
  rcases h with (h | ⟨o, h⟩) | h
  · exact .inl (.inl (e _ _ h))
  · exact .inl (.inr ⟨o, e _ _ h⟩)
  · exact .inr h
theorem Same.rd {a : Addr} {u : HO} (e : Same Z Z') (h : Rd Z a u) : Rd Z' a u := by
  rcases h with h | ⟨o, h⟩
  · exact .inl (e _ _ h)
  · exact .inr ⟨o, e _ _ h⟩
mutual
theorem Rep.mono (s : Same Z Z') : ∀ {d : D} {v : V}, Rep K Z v d → Rep K Z' v d
  | .sc _, _, h => by cases h with | sc o => exact .sc o
  | .tup ds, _, h => by cases h with | tup a b => exact .tup (s _ _ a) (RepL.mono s b)
  | .ktp ds, _, h => by cases h with | ktp a b => exact .ktp a (RepL.mono s b)
  | .lst ds, _, h => by cases h with | lst a b => exact .lst (Same.sqL s a) (RepL.mono s b)
  | .dic ks ds, _, h => by cases h with | dic a e b => exact .dic (Same.rd s a) e (RepL.mono s b)
  | .dit ks ds, _, h => by cases h with | dit a e b => exact .dit (Same.rd s a) e (RepL.mono s b)
  | .exc cn ns ds, _, h => by
    cases h with
    | exc0 a => exact .exc0 (s _ _ a)
    | exc a b n e f => exact .exc (s _ _ a) (s _ _ b) n e (RepL.mono s f)
  | .cls cn, _, h => by cases h with | cls => exact .cls
  | .ob a, _, h => by cases h with | ob => exact .ob
  | .ins cn ns ds, _, h => by cases h with | ins a e f => exact .ins (s _ _ a) e (RepL.mono s f)
theorem RepL.mono (s : Same Z Z') : ∀ {ds : List D} {vs : List V}, RepL K Z vs ds → RepL K Z' vs ds
  | [], _, h => by cases h; exact .nil
  | _ :: _, _, h => by cases h with | cons a b => exact .cons (Rep.mono s a) (RepL.mono s b)
end
mutual
theorem Rep.imm (s : ∀ a xs, Z a = some (.tup xs) → Z' a = some (.tup xs)) : ∀ {d : D} {v : V}, d.imm = true → Rep K Z v d → Rep K Z' v d
  | .sc _, _, _, h => by cases h with | sc o => exact .sc o
  | .tup ds, _, i, h => by cases h with | tup a b => exact .tup (s _ _ a) (RepL.imm s (by simpa [D.imm] using i) b)
  | .ktp ds, _, i, h => by cases h with | ktp a b => exact .ktp a (RepL.imm s (by simpa [D.imm] using i) b)
  | .lst ds, _, i, _ => by simp [D.imm] at i
  | .dic ks ds, _, i, _ => by simp [D.imm] at i
  | .dit ks ds, _, i, _ => by simp [D.imm] at i
  | .exc cn ns ds, _, i, _ => by simp [D.imm] at i
  | .cls cn, _, _, h => by cases h with | cls => exact .cls
  | .ob a, _, _, h => by cases h with | ob => exact .ob
  | .ins cn ns ds, _, i, _ => by simp [D.imm] at i
theorem RepL.imm (s : ∀ a xs, Z a = some (.tup xs) → Z' a = some (.tup xs)) : ∀ {ds : List D} {vs : List V}, D.imm.immL ds = true → RepL K Z vs ds → RepL K Z' vs ds
  | [], _, _, h => by cases h; exact .nil
  | _ :: _, _, i, h => by
    simp only [D.imm.immL, Bool.and_eq_true] at i
    cases h with | cons a b => exact .cons (Rep.imm s i.1 a) (RepL.imm s i.2 b)
end
theorem RepL.length : ∀ {ds : List D} {vs : List V}, RepL K Z vs ds → vs.length = ds.length
  | [], _, h => by cases h; rfl
  | _ :: _, _, h => by cases h with | cons a b => simp [RepL.length b]
theorem RepL.get : ∀ {ds : List D} {vs : List V} {i : Nat} {d : D}, RepL K Z vs ds → ds[i]? = some d → ∃ v, vs[i]? = some v ∧ Rep K Z v d
  | _ :: _, _, 0, _, h, e => by
    cases h with | cons a b => simp at e; subst e; exact ⟨_, rfl, a⟩
  | _ :: _, _, i + 1, _, h, e => by
    cases h with | cons a b => simpa using RepL.get (i := i) b (by simpa using e)
theorem RepL.append : ∀ {ds es : List D} {vs ws : List V}, RepL K Z vs ds → RepL K Z ws es → RepL K Z (vs ++ ws) (ds ++ es)
  | [], _, _, _, h, g => by cases h; exact g
  | _ :: _, _, _, _, h, g => by cases h with | cons a b => exact .cons a (RepL.append b g)
theorem RepL.set {v : V} {d : D} (r : Rep K Z v d) : ∀ {ds : List D} {vs : List V} (i : Nat), RepL K Z vs ds → RepL K Z (vs.set i v) (ds.set i d)
  | [], _, i, h => by cases h; exact .nil
  | _ :: _, _, 0, h => by cases h with | cons a b => exact .cons r b
  | _ :: _, _, i + 1, h => by cases h with | cons a b => exact .cons a (RepL.set r i b)
theorem RepL.take : ∀ {ds : List D} {vs : List V} (n : Nat), RepL K Z vs ds → RepL K Z (vs.take n) (ds.take n)
  | [], _, n, h => by cases h; simp; exact .nil
  | _ :: _, _, 0, h => by simp; exact .nil
  | _ :: _, _, n + 1, h => by cases h with | cons a b => exact .cons a (RepL.take n b)
theorem RepL.drop : ∀ {ds : List D} {vs : List V} (n : Nat), RepL K Z vs ds → RepL K Z (vs.drop n) (ds.drop n)
  | [], _, n, h => by cases h; simp; exact .nil
  | _ :: _, _, 0, h => h
  | _ :: _, _, n + 1, h => by cases h with | cons a b => exact RepL.drop n b
theorem RepL.reverse : ∀ {ds : List D} {vs : List V}, RepL K Z vs ds → RepL K Z vs.reverse ds.reverse
  | [], _, h => by cases h; exact .nil
  | _ :: _, _, h => by
    cases h with | cons a b =>
    rw [List.reverse_cons, List.reverse_cons]
    exact RepL.append (RepL.reverse b) (.cons a .nil)
/-- the heap without some addresses -/
def cut (H : Hp) (A : List Addr) : Hp := fun b => if b ∈ A then none else H b
theorem cut_in {A : List Addr} {b : Addr} (h : b ∈ A) : cut H A b = none := if_pos h
theorem cut_out {A : List Addr} {b : Addr} (h : b ∉ A) : cut H A b = H b := if_neg h
theorem cut_some {A : List Addr} {b : Addr} {o : HO} (h : cut H A b = some o) : b ∉ A ∧ H b = some o := by
  by_cases m : b ∈ A
  · rw [cut_in m] at h; cases h
  · rw [cut_out m] at h; exact ⟨m, h⟩
theorem cut_upd {A : List Addr} {a : Addr} {o : HO} (h : a ∈ A) : cut (upd H a o) A = cut H A := by
  funext b
  by_cases m : b ∈ A
  · rw [cut_in m, cut_in m]
  · rw [cut_out m, cut_out m, upd_ne]
    rintro rfl
    exact m h
theorem cut_sub {A B : List Addr} (h : ∀ b ∈ B, b ∈ A) : Same (cut H A) (cut H B) := fun b o e => by
  obtain ⟨m, e⟩ := cut_some e
  rw [cut_out fun z => m (h b z)]
  exact e
/-- what no walk may own: tuples, locked things -/
def Loose (o : HO) : Prop := (∀ xs, o ≠ .tup xs) ∧ ∀ ob u, o ≠ .frz ob u
/-- a frame: what stood at its entry (H0), the shared records (R0, each bears Φ), what its callers own (A), what is pinned (G) -/
structure Fc where
  K : PySem.W.Frag
  Φ : HO → Prop
  hΦ : ∀ o, Φ o → Loose o
  H0 : Hp
  R0 : List Addr
  A : List Addr
  G : List (V × D)
  ex : Value → List (Str × D) → Prop
abbrev Fc.pin (c : Fc) (g : List (V × D)) : Fc := { c with G := g ++ c.G }
structure HW (c : Fc) (R O : List Addr) (H : Hp) : Prop where
  new : ∀ a ∈ O, c.H0 a = none
  oR : ∀ a ∈ O, a ∉ R
  keep : ∀ b o, c.H0 b = some o → b ∉ c.R0 → H b = some o
  rsub : ∀ a ∈ c.R0, a ∈ R
  rnew : ∀ a ∈ R, a ∈ c.R0 ∨ c.H0 a = none
  rok : ∀ a ∈ R, ∃ o, H a = some o ∧ c.Φ o
  aok : ∀ a ∈ O ++ (c.A ++ R), ∃ o, H a = some o ∧ Loose o
  pins : ∀ p ∈ c.G, Rep c.K (cut H (O ++ (c.A ++ R))) p.1 p.2
  ha : ∀ a ∈ c.A, c.H0 a ≠ none
/-- a step that changes nothing that stood, but shared records -/
structure Stp (Φ : HO → Prop) (R R' : List Addr) (H H' : Hp) : Prop where
  same : ∀ b o, H b = some o → b ∉ R → H' b = some o
  sub : ∀ a ∈ R, a ∈ R'
  new : ∀ a ∈ R', a ∈ R ∨ H a = none
  rok : ∀ a ∈ R', ∃ o, H' a = some o ∧ Φ o
variable {c : Fc} {R R' R1 R2 O O' : List Addr} {H1 H2 : Hp}
theorem HW.refl (w : HW c R O H) : Stp c.Φ R R H H := ⟨fun _ _ h _ => h, fun _ h => h, fun _ h => .inl h, w.rok⟩
theorem Stp.trans {Φ : HO → Prop} (a : Stp Φ R R1 H H1) (b : Stp Φ R1 R2 H1 H2) : Stp Φ R R2 H H2 where
  same := fun x o h n => b.same x o (a.same x o h n) fun z => by
    rcases a.new x z with z | z
    · exact n z
    · rw [z] at h; cases h
  sub := fun x h => b.sub x (a.sub x h)
  new := fun x h => by
    rcases b.new x h with h | h
    · exact a.new x h
    · by_cases m : x ∈ R
      · exact .inl m
      · right
        cases q : H x with
        | none => rfl
        | some o => rw [a.same x o q m] at h; cases h
  rok := b.rok
theorem Stp.alloc {Φ : HO → Prop} {p : Addr} {o : HO} (hr : ∀ a ∈ R, ∃ o, H a = some o ∧ Φ o) (n : H p = none) : Stp Φ R R H (upd H p o) where
  same := fun b u h _ => by rw [upd_ne (ne_of_none h n)]; exact h
  sub := fun _ h => h
  new := fun _ h => .inl h
  rok := fun a h => by
    obtain ⟨u, e, f⟩ := hr a h
    exact ⟨u, by rw [upd_ne (ne_of_none e n)]; exact e, f⟩
theorem HW.cutSame (w : HW c R O H) (s : Stp c.Φ R R' H H') : Same (cut H (O ++ (c.A ++ R))) (cut H' (O ++ (c.A ++ R'))) := fun b o e => by
  obtain ⟨m, e⟩ := cut_some e
  simp only [List.mem_append, not_or] at m
  rw [cut_out]
  · exact s.same b o e m.2.2
  · simp only [List.mem_append, not_or]
    refine ⟨m.1, m.2.1, fun z => ?_⟩
    rcases s.new b z with z | z
    · exact m.2.2 z
    · rw [z] at e; cases e
theorem HW.step (w : HW c R O H) (s : Stp c.Φ R R' H H') : HW c R' O H' where
  new := w.new
  oR := fun a h z => by
    obtain ⟨o, e, _⟩ := w.aok a (List.mem_append_left _ h)
    rcases s.new a z with z | z
    · exact w.oR a h z
    · rw [z] at e; cases e
  keep := fun b o h n => s.same b o (w.keep b o h n) fun z => by
    rcases w.rnew b z with z | z
    · exact n z
    · rw [z] at h; cases h
  rsub := fun a h => s.sub a (w.rsub a h)
  rnew := fun a h => by
    rcases s.new a h with h | h
    · exact w.rnew a h
    · by_cases m : a ∈ c.R0
      · exact .inl m
      · right
        cases q : c.H0 a with
        | none => rfl
        | some o => rw [w.keep a o q m] at h; cases h
  rok := s.rok
  aok := fun a h => by
    rcases List.mem_append.mp h with h | h
    · obtain ⟨o, e, l⟩ := w.aok a (List.mem_append_left _ h)
      exact ⟨o, s.same a o e (w.oR a h), l⟩
    · rcases List.mem_append.mp h with h | h
      · obtain ⟨o, e, l⟩ := w.aok a (List.mem_append_right _ (List.mem_append_left _ h))
        by_cases m : a ∈ R
        · obtain ⟨o', e', f⟩ := s.rok a (s.sub a m)
          exact ⟨o', e', c.hΦ _ f⟩
        · exact ⟨o, s.same a o e m, l⟩
      · obtain ⟨o, e, f⟩ := s.rok a h
        exact ⟨o, e, c.hΦ _ f⟩
  pins := fun p h => (w.pins p h).mono (w.cutSame s)
  ha := w.ha
theorem HW.fresh (w : HW c R O H) {p : Addr} (n : H p = none) : p ∉ O ++ (c.A ++ R) := fun h => by
  obtain ⟨o, e, _⟩ := w.aok p h
  rw [n] at e; cases e
theorem HW.h0 (w : HW c R O H) {p : Addr} (n : H p = none) : c.H0 p = none := by
  cases q : c.H0 p with
  | none => rfl
  | some o =>
    by_cases m : p ∈ c.R0
    · obtain ⟨o', e, _⟩ := w.rok p (w.rsub p m)
      rw [n] at e; cases e
    · rw [w.keep p o q m] at n; cases n
/-- p is owned from now on -/
theorem HW.own (w : HW c R O H) {p : Addr} {o : HO} (n : H p = none) (l : Loose o) : HW c R (p :: O) (upd H p o) := by
  have w1 := w.step (Stp.alloc (o := o) w.rok n)
  have fr := w.fresh n
  simp only [List.mem_append, not_or] at fr
  refine ⟨fun a h => ?_, fun a h => ?_, w1.keep, w1.rsub, w1.rnew, w1.rok, fun a h => ?_, fun q h => (w.pins q h).mono fun b u e => ?_, w.ha⟩
  · rcases List.mem_cons.mp h with rfl | h
    · exact w.h0 n
    · exact w.new a h
  · rcases List.mem_cons.mp h with rfl | h
    · exact fr.2.2
    · exact w.oR a h
  · rcases List.mem_cons.mp h with rfl | h
    · exact ⟨o, upd_same, l⟩
    · exact w1.aok a h
  · obtain ⟨m, e⟩ := cut_some e
    have ne := ne_of_none e n
    rw [cut_out, upd_ne ne]
    · exact e
    · intro z
      rcases List.mem_cons.mp z with z | z
      · exact ne z
      · exact m z
/-- how a value is had: for good, borrowed (a name owns it), new and one's own -/
inductive Md where
  | st | br | ow
/-- the object at a is d, all that is in it is stable -/
inductive Own (K : PySem.W.Frag) (H Z : Hp) (a : Addr) : D → Prop
  | lst {vs : List V} {ds : List D} : H a = some (.lst vs) → RepL K Z vs ds → Own K H Z a (.lst ds)
  | dic {kvs : List (Key × V)} {ks : List Key} {ds : List D} : H a = some (.dK kvs) → (kvs.map (·.1) = ks ∧ ks.all okK = true) → RepL K Z (kvs.map (·.2)) ds → Own K H Z a (.dic ks ds)
  | dit {kvs : List (List Key × V)} {ks : List (List Key)} {ds : List D} : H a = some (.dT kvs) → (kvs.map (·.1) = ks ∧ (ks.all fun k => k.all okK) = true) → RepL K Z (kvs.map (·.2)) ds → Own K H Z a (.dit ks ds)
  | ins {dx : Addr} {cn : Str} {fs : List (Str × V)} {ns : List Str} {ds : List D} : H a = some (.ins (He.ga K cn) dx fs) → fs.map (·.1) = ns → RepL K Z (fs.map (·.2)) ds → Own K H Z a (.ins cn ns ds)
theorem Own.mono {a : Addr} {d : D} (h : Own K H Z a d) (s : Same Z Z') (e : ∀ o, H a = some o → H' a = some o) : Own K H' Z' a d := by
  cases h with
  | lst x y => exact .lst (e _ x) (y.mono s)
  | dic x y z => exact .dic (e _ x) y (z.mono s)
  | dit x y z => exact .dit (e _ x) y (z.mono s)
  | ins x y z => exact .ins (e _ x) y (z.mono s)
theorem Own.rep {a : Addr} {d : D} (h : Own K H Z a d) (s : Same Z Z') (e : ∀ o, H a = some o → Z' a = some o) : Rep K Z' (.ref a) d := by
  cases h with
  | lst x y => exact .lst (.inl (.inl (e _ x))) (y.mono s)
  | dic x y z => exact .dic (.inl (e _ x)) y (z.mono s)
  | dit x y z => exact .dit (.inl (e _ x)) y (z.mono s)
  | ins x y z => exact .ins (e _ x) y (z.mono s)
theorem Own.there {a : Addr} {d : D} (h : Own K H Z a d) : ∃ o, H a = some o ∧ Loose o := by
  cases h with
  | lst x y => exact ⟨_, x, ⟨(fun _ z => by cases z), (fun _ _ z => by cases z)⟩⟩
  | dic x y z => exact ⟨_, x, ⟨(fun _ z => by cases z), (fun _ _ z => by cases z)⟩⟩
  | dit x y z => exact ⟨_, x, ⟨(fun _ z => by cases z), (fun _ _ z => by cases z)⟩⟩
  | ins x y z => exact ⟨_, x, ⟨(fun _ z => by cases z), (fun _ _ z => by cases z)⟩⟩
/-- the cells: what is known of the objects that may change and that several names may bear -/
abbrev Sto := Addr → Option D
/-- a slot: nothing known, a value for good, an owned list or dict; the cells -/
inductive Sl where
  | no | sh (d : D) | ow (d : D) | gh (S : Sto)
abbrev En := List Sl
def Cel (K : PySem.W.Frag) (H Z : Hp) (O : List Addr) (S : Sto) : Prop := ∀ (a : Addr) (d : D), S a = some d → a ∈ O ∧ Own K H Z a d
theorem Cel.mono {O O' : List Addr} {S : Sto} (h : Cel K H Z O S) (s : Same Z Z') (e : ∀ a o, a ∈ O → H a = some o → H' a = some o) (m : ∀ a d, S a = some d → a ∈ O → a ∈ O') : Cel K H' Z' O' S := fun a d q => let ⟨h1, h2⟩ := h a d q; ⟨m a d q h1, h2.mono s fun o z => e a o h1 z⟩
structure Rel (c : Fc) (R O : List Addr) (σ : L2.St) (H : Hp) (env : En) : Prop extends HW c R O H where
  len : σ.length = env.length
  sh : ∀ (i : Nat) (d : D), env[i]? = some (Sl.sh d) → ∃ v, σ[i]? = some (some v) ∧ Rep c.K (cut H (O ++ (c.A ++ R))) v d
  ow : ∀ (i : Nat) (d : D), env[i]? = some (Sl.ow d) → ∃ a : Addr, σ[i]? = some (some (V.ref a)) ∧ a ∈ O ∧ Own c.K H (cut H (O ++ (c.A ++ R))) a d
  inj : ∀ (i j : Nat) (d e : D) (a : Addr), env[i]? = some (Sl.ow d) → env[j]? = some (Sl.ow e) → σ[i]? = some (some (V.ref a)) → σ[j]? = some (some (V.ref a)) → i = j
  gh : ∀ (i : Nat) (S : Sto), env[i]? = some (Sl.gh S) → Cel c.K H (cut H (O ++ (c.A ++ R))) O S
  ghd : ∀ (i j : Nat) (S : Sto) (a : Addr) (d e : D), env[i]? = some (Sl.gh S) → S a = some d → env[j]? = some (Sl.ow e) → σ[j]? ≠ some (some (V.ref a))
  ghu : ∀ (i j : Nat) (S T : Sto), env[i]? = some (Sl.gh S) → env[j]? = some (Sl.gh T) → i = j
theorem Rel.step {σ : L2.St} {env : En} (r : Rel c R O σ H env) (s : Stp c.Φ R R' H H') : Rel c R' O σ H' env where
  toHW := r.toHW.step s
  len := r.len
  sh := fun i d h => let ⟨v, a, b⟩ := r.sh i d h; ⟨v, a, b.mono (r.toHW.cutSame s)⟩
  ow := fun i d h => let ⟨a, e, m, o⟩ := r.ow i d h; ⟨a, e, m, o.mono (r.toHW.cutSame s) fun u q => s.same a u q (r.oR a m)⟩
  inj := r.inj
  gh := fun i S h => (r.gh i S h).mono (r.toHW.cutSame s) (fun a o m z => s.same a o z (r.oR a m)) fun _ _ _ m => m
  ghd := r.ghd
  ghu := r.ghu
/-- the value v is d, had in that way; H: the heap ahead of its making -/
def RM (c : Fc) (H : Hp) (R O : List Addr) (H' : Hp) (v : V) (d : D) : Md → Prop
  | .st => Rep c.K (cut H' (O ++ (c.A ++ R))) v d
  | .br => ∃ a, v = .ref a ∧ a ∈ O ∧ Own c.K H' (cut H' (O ++ (c.A ++ R))) a d
  | .ow => ∃ a, v = .ref a ∧ H a = none ∧ a ∉ O ∧ a ∉ c.A ∧ a ∉ R ∧ Own c.K H' (cut H' (a :: (O ++ (c.A ++ R)))) a d
theorem RM.step {Ha : Hp} {v : V} {d : D} {md : Md} (w : HW c R O H) (s : Stp c.Φ R R' H H') (h : RM c Ha R O H v d md) : RM c Ha R' O H' v d md := by
  cases md with
  | st => exact Rep.mono (w.cutSame s) h
  | br =>
    obtain ⟨a, e, m, o⟩ := h
    exact ⟨a, e, m, o.mono (w.cutSame s) fun u q => s.same a u q (w.oR a m)⟩
  | ow =>
    obtain ⟨a, e, n, nO, nA, nR, o⟩ := h
    refine ⟨a, e, n, nO, nA, fun z => ?_, o.mono (fun b u q => ?_) fun u q => s.same a u q nR⟩
    · obtain ⟨u, q, _⟩ := o.there
      rcases s.new a z with z | z
      · exact nR z
      · rw [z] at q; cases q
    · obtain ⟨m, q⟩ := cut_some q
      simp only [List.mem_cons, List.mem_append, not_or] at m
      rw [cut_out]
      · exact s.same b u q m.2.2.2
      · simp only [List.mem_cons, List.mem_append, not_or]
        refine ⟨m.1, m.2.1, m.2.2.1, fun z => ?_⟩
        rcases s.new b z with z | z
        · exact m.2.2.2 z
        · rw [z] at q; cases q
/-- seen from further ahead -/
theorem RM.ahead {Ha Hb : Hp} {v : V} {d : D} {md : Md} (h : RM c Hb R O H v d md) (n : ∀ a, Hb a = none → Ha a = none) : RM c Ha R O H v d md := by
  cases md with
  | st => exact h
  | br => exact h
  | ow => obtain ⟨a, e, m, x⟩ := h; exact ⟨a, e, n a m, x⟩
theorem Stp.nn {Φ : HO → Prop} (w : ∀ a ∈ R, ∃ o, H a = some o ∧ Φ o) (s : Stp Φ R R' H H') {a : Addr} (h : H' a = none) : H a = none := by
  cases q : H a with
  | none => rfl
  | some o =>
    by_cases m : a ∈ R
    · obtain ⟨u, e, _⟩ := s.rok a (s.sub a m)
      rw [h] at e; cases e
    · rw [s.same a o q m] at h; cases h
/-- stable, where it is not borrowed -/
theorem RM.stab {Ha : Hp} {v : V} {d : D} {md : Md} (h : RM c Ha R O H v d md) (n : md ≠ .br) : Rep c.K (cut H (O ++ (c.A ++ R))) v d := by
  cases md with
  | st => exact h
  | br => exact absurd rfl n
  | ow =>
    obtain ⟨a, rfl, _, nO, nA, nR, o⟩ := h
    refine o.rep (cut_sub fun b m => List.mem_cons_of_mem _ m) fun u q => ?_
    rw [cut_out]
    · exact q
    · simp only [List.mem_append, not_or]
      exact ⟨nO, nA, nR⟩
end P
namespace P
open PySem PySem.Spec PyProof.Rows L2
abbrev Ex := En → (D → Md → Prop) → Prop
abbrev Tx := En → (Bool → Prop) → Prop
abbrev Ax := En → (List (D × Md) → Prop) → Prop
structure Os where
  nx : En → Prop
  rt : D → Md → Prop
  bk : En → Prop
  ct : En → Prop
  ro : En → D → Md → Prop
abbrev Sx := En → Os → Prop
abbrev Gx := D → En → (En → Prop) → Prop
abbrev Ix := En → (List D → Bool → Prop) → Prop
/-- values of an argument list -/
inductive RMs (c : Fc) (H : Hp) (R O : List Addr) (H' : Hp) : List V → List (D × Md) → Prop
  | nil : RMs c H R O H' [] []
  | cons {v : V} {vs : List V} {p : D × Md} {ps : List (D × Md)} : RM c H R O H' v p.1 p.2 → RMs c H R O H' vs ps → RMs c H R O H' (v :: vs) (p :: ps)
def lE (c : Fc) (te : Ex) : TE := fun σ H Q => ∃ R O env Q', Rel c R O σ H env ∧ te env Q' ∧ ∀ d md, Q' d md → ∀ v H' R', Stp c.Φ R R' H H' → RM c H R' O H' v d md → Q v H'
def lT (c : Fc) (tt : Tx) : TT := fun σ H Q => ∃ R O env Q', Rel c R O σ H env ∧ tt env Q' ∧ ∀ b, Q' b → ∀ H' R', Stp c.Φ R R' H H' → Q b H'
def lA (c : Fc) (ta : Ax) : TA := fun σ H Q => ∃ R O env Q', Rel c R O σ H env ∧ ta env Q' ∧ ∀ ps, Q' ps → ∀ vs H' R', Stp c.Φ R R' H H' → RMs c H R' O H' vs ps → Q vs H'
/-- what a def hands back -/
def Fin (c : Fc) (v : V) (d : D) (md : Md) (H' : Hp) : Prop := ∃ R O, HW c R O H' ∧ RM c c.H0 R [] H' v d md
/-- what a def hands back that was handed cells -/
def RMf (c : Fc) (R O : List Addr) (H : Hp) (env : En) (v : V) (d : D) : Md → Prop
  | .st => Rep c.K (cut H (O ++ (c.A ++ R))) v d
  | .br => False
  | .ow => ∃ a, v = .ref a ∧ a ∈ O ∧ Own c.K H (cut H (O ++ (c.A ++ R))) a d ∧ ∀ (i : Nat) (S : Sto), env[i]? = some (Sl.gh S) → S a = none
def FinO (c : Fc) (env : En) (v : V) (d : D) (md : Md) (H' : Hp) : Prop := ∃ R O, HW c R O H' ∧ (∀ (i : Nat) (S : Sto), env[i]? = some (Sl.gh S) → Cel c.K H' (cut H' (O ++ (c.A ++ R))) O S) ∧ RMf c R O H' env v d md
structure OsR (c : Fc) (E : Os) (En' : Ends) : Prop where
  nx : ∀ env, E.nx env → ∀ R O σ H, Rel c R O σ H env → En'.nx σ H
  rt : ∀ d md, E.rt d md → ∀ v H, Fin c v d md H → En'.rt v H
  bk : ∀ env, E.bk env → ∀ R O σ H, Rel c R O σ H env → En'.bk σ H
  ct : ∀ env, E.ct env → ∀ R O σ H, Rel c R O σ H env → En'.ct σ H
  ro : ∀ env d md, E.ro env d md → ∀ v H, FinO c env v d md H → En'.rt v H
def lS (c : Fc) (g : Sx) : TS := fun En' σ H => ∃ R O env E, Rel c R O σ H env ∧ g env E ∧ OsR c E En'
def lG (c : Fc) (tg : Gx) (vs : List Nat) : TG := fun v σ H Q => ∃ R O env d Q', Rel c R O σ H env ∧ Rep c.K (cut H (O ++ (c.A ++ R))) v d ∧ tg d env Q' ∧ ∀ env', Q' env' → ∀ σ', Rel c R O σ' H env' → wipe σ' vs = wipe σ vs → Q σ' H
def lGs (c : Fc) (tg : List D → En → (En → Prop) → Prop) (vs : List Nat) : TGs := fun us σ H Q => ∃ R O env ds Q', Rel c R O σ H env ∧ RepL c.K (cut H (O ++ (c.A ++ R))) us ds ∧ tg ds env Q' ∧ ∀ env', Q' env' → ∀ σ', Rel c R O σ' H env' → wipe σ' vs = wipe σ vs → Q σ' H
/-- it can be read, and what is in it is stable -/
inductive Rb (c : Fc) (R O : List Addr) (H : Hp) : V → D → Prop
  | st {v : V} {d : D} : Rep c.K (cut H (O ++ (c.A ++ R))) v d → Rb c R O H v d
  | ow {a : Addr} {d : D} : Own c.K H (cut H (O ++ (c.A ++ R))) a d → a ∉ R → Rb c R O H (.ref a) d
theorem RM.rb {c : Fc} {R O : List Addr} {H Ha : Hp} {v : V} {d : D} {md : Md} (w : HW c R O H) (h : RM c Ha R O H v d md) : Rb c R O H v d := by
  cases md with
  | st => exact .st h
  | br => obtain ⟨a, rfl, m, o⟩ := h; exact .ow o (w.oR a m)
  | ow => exact .st (RM.stab h (by intro z; cases z))
/-- the turns of a loop over ds; g: what the turns lean on -/
def Walks (c : Fc) (J : It) (g : List (V × D)) (ds : List D) : Prop := ∀ R O H, HW c R O H → (∀ p ∈ g, Rb c R O H p.1 p.2) →
  J.stop ds.length H ∧ ∀ (i : Nat) (d : D), ds[i]? = some d → J.go i H ∧ ∀ x H', J.yld i H x H' → Stp c.Φ R R H H' ∧ Rep c.K (cut H' (O ++ (c.A ++ R))) x d
/-- the flag: what is walked is stable -/
def lI (c : Fc) (ti : Ix) : TI := fun σ H Q => ∃ R O env Q', Rel c R O σ H env ∧ ti env Q' ∧ ∀ ds b, Q' ds b → ∀ J g H' R', Stp c.Φ R R' H H' → (∀ p ∈ g, Rb c R' O H' p.1 p.2) → (b = true → ∀ p ∈ g, Rep c.K (cut H' (O ++ (c.A ++ R'))) p.1 p.2) → Walks c J g ds → Q J H'
section
variable {X : Cx} {c : Fc}
theorem PEw {e : Expr} {t t' : TE} (h : PE X e t) (w : ∀ σ H Q, t' σ H Q → t σ H Q) : PE X e t' := ⟨fun pins s σ H Q I q => h.run pins s σ H Q I (w σ H Q q)⟩
theorem PTw {e : Expr} {t t' : TT} (h : PT X e t) (w : ∀ σ H Q, t' σ H Q → t σ H Q) : PT X e t' := ⟨fun pins s σ H Q I q => h.run pins s σ H Q I (w σ H Q q)⟩
theorem PWw {e : Expr} {t t' : TT} (h : PW X e t) (w : ∀ σ H Q, t' σ H Q → t σ H Q) : PW X e t' := ⟨fun wh pins s σ H Q I q => h.run wh pins s σ H Q I (w σ H Q q)⟩
theorem PAw {e : List Expr} {t t' : TA} (h : PA X e t) (w : ∀ σ H Q, t' σ H Q → t σ H Q) : PA X e t' := ⟨fun p pins s σ H Q I q => h.run p pins s σ H Q I (w σ H Q q)⟩
theorem PSw {e : Stmt} {t t' : TS} (h : PS X e t) (w : ∀ E σ H, t' E σ H → t E σ H) : PS X e t' := ⟨fun pins s σ H E I q => h.run pins s σ H E I (w E σ H q)⟩
theorem PSsw {e : List Stmt} {t t' : TS} (h : PSs X e t) (w : ∀ E σ H, t' E σ H → t E σ H) : PSs X e t' := ⟨fun pins s σ H E I q => h.run pins s σ H E I (w E σ H q)⟩
theorem PGw {e : Expr} {t t' : TG} (h : PG X e t) (w : ∀ v σ H Q, t' v σ H Q → t v σ H Q) : PG X e t' := ⟨fun pins s σ H v u Q I r q => h.run pins s σ H v u Q I r (w v σ H Q q)⟩
theorem PGsw {e : List Expr} {t t' : TGs} (h : PGs X e t) (w : ∀ v σ H Q, t' v σ H Q → t v σ H Q) : PGs X e t' := ⟨fun pins s σ H v u Q I r q => h.run pins s σ H v u Q I r (w v σ H Q q)⟩
theorem PIw {tg e : Expr} {t t' : TI} (h : PI X tg e t) (w : ∀ σ H Q, t' σ H Q → t σ H Q) : PI X tg e t' := ⟨fun pins s σ H Q I q => h.run pins s σ H Q I (w σ H Q q)⟩
def e_var (i : Nat) : Ex := fun env Q => match env[i]? with
  | some (.sh d) => Q d .st
  | some (.ow d) => Q d .br
  | _ => False
def e_c (v : V) : Ex := fun _ Q => Q (.sc v) .st
def e_k (d : D) : Ex := fun _ Q => Q d .st
theorem p_var (i : Nat) {x : Str} {pos : Pos} (hN : X.N[i]? = some x := by rfl) (hv : Vis X.env.scope x := by first | exact Or.inl rfl | exact Or.inr (Or.inl rfl) | exact Or.inr (Or.inr rfl)) (hd : (x == ("__debug__" : Str)) = false := by decide)
    (hcd : (x == ("__classdict__" : Str)) = false := by decide) : PE X (.Name x pos) (lE c (e_var i)) := by
  refine PEw (pe_var hN hv hd hcd) fun σ H Q ⟨R, O, env, Q', r, t, k⟩ => ?_
  unfold e_var at t
  cases e : env[i]? with
  | none => rw [e] at t; exact t.elim
  | some s =>
    rw [e] at t
    cases s with
    | no => exact t.elim
    | gh S => exact t.elim
    | sh d =>
      obtain ⟨v, a, b⟩ := r.sh i d e
      exact ⟨v, a, k d .st t v H R r.toHW.refl b⟩
    | ow d =>
      obtain ⟨a, q, m, o⟩ := r.ow i d e
      exact ⟨_, q, k d .br t _ H R r.toHW.refl ⟨a, rfl, m, o⟩⟩
theorem p_const {e : Expr} {v : V} (h : PE X e (tC v)) (o : okV v = true := by rfl) : PE X e (lE c (e_c v)) := PEw h fun σ H Q ⟨R, O, env, Q', r, t, k⟩ => k _ _ t v H R r.toHW.refl (.sc o)
theorem p_int {i j pos} : PE X (.Constant (.int i) j pos) (lE c (e_c (.int i))) := p_const pe_int
theorem p_bl {i j pos} : PE X (.Constant (.bool i) j pos) (lE c (e_c (.bl i))) := p_const pe_bl
theorem p_non {j pos} : PE X (.Constant .none j pos) (lE c (e_c .non)) := p_const pe_non
theorem p_str {i j pos} (o : PyData.strOk i = true := by decide +kernel) : PE X (.Constant (.str i) j pos) (lE c (e_c (.str i))) := p_const pe_str o
/-- a module's constant -/
theorem p_globK {e : Expr} {v : V} {d : D} (h : PE X e (tC v)) (r : ∀ Z, Rep c.K Z v d) : PE X e (lE c (e_k d)) := PEw h fun σ H Q ⟨R, O, env, Q', q, t, k⟩ => k _ _ t v H R q.toHW.refl (r _)
/-- an operator's reading, by data -/
def OpL (c : Fc) (r : R2) (oq : D → D → (D → Md → Prop) → Prop) : Prop := ∀ R O H x y dx dy Q' Q, HW c R O H → Rb c R O H x dx → Rb c R O H y dy → oq dx dy Q' →
  (∀ d md, Q' d md → ∀ v H' R', Stp c.Φ R R' H H' → RM c H R' O H' v d md → Q v H') → r x y H Q
def e_op (oq : D → D → (D → Md → Prop) → Prop) (ta tb : Ex) : Ex := fun env Q => ta env fun d _ => tb env fun e _ => oq d e Q
theorem Rb.step {R R' O : List Addr} {H H' : Hp} {v : V} {d : D} (w : HW c R O H) (s : Stp c.Φ R R' H H') (h : Rb c R O H v d) : Rb c R' O H' v d := by
  cases h with
  | st h => exact .st (h.mono (w.cutSame s))
  | ow o m =>
    rename_i a
    refine .ow (o.mono (w.cutSame s) fun u q => s.same a u q m) fun z => ?_
    obtain ⟨u, q, _⟩ := o.there
    rcases s.new a z with z | z
    · exact m z
    · rw [z] at q; cases q
/-- two parts, then an operation -/
theorem bin_l {ta tb : Ex} {σ : L2.St} {H : Hp} {R O : List Addr} {env : En} {oq : D → D → (D → Md → Prop) → Prop} {r : R2} {Q' : D → Md → Prop} {Q : VK} (h : OpL c r oq) (q : Rel c R O σ H env) (t : e_op oq ta tb env Q')
    (k : ∀ d md, Q' d md → ∀ v H' R', Stp c.Φ R R' H H' → RM c H R' O H' v d md → Q v H') : lE c ta σ H fun x H1 => lE c tb σ H1 fun y H2 => r x y H2 Q := by
  refine ⟨R, O, env, _, q, t, fun d md t1 v1 H1 R1 s1 m1 => ?_⟩
  have q1 := q.step s1
  refine ⟨R1, O, env, _, q1, t1, fun e me t2 v2 H2 R2 s2 m2 => ?_⟩
  have q2 := q1.step s2
  refine h R2 O H2 v1 v2 d e Q' Q q2.toHW ((m1.step q1.toHW s2).rb q2.toHW) (m2.rb q2.toHW) t2 fun d' md' t3 v3 H3 R3 s3 m3 => ?_
  exact k d' md' t3 v3 H3 R3 ((s1.trans s2).trans s3) (m3.ahead fun a n => Stp.nn q.rok s1 (Stp.nn q1.rok s2 n))
theorem p_op {a b : Expr} {op : Operator} {pos : Pos} {ta tb : Ex} {oq : D → D → (D → Md → Prop) → Prop} {r : R2} (ho : OpR X (binaryOp op) r) (h : OpL c r oq) (ha : PE X a (lE c ta)) (hb : PE X b (lE c tb)) : PE X (.BinOp a op b pos) (lE c (e_op oq ta tb)) :=
  PEw (pe_op ho ha hb) fun σ H Q ⟨R, O, env, Q', q, t, k⟩ => bin_l h q t k
theorem p_cmp {a b : Expr} {op : CmpOp} {pos : Pos} {ta tb : Ex} {oq : D → D → (D → Md → Prop) → Prop} {r : R2} (ho : OpR X (compareOp op) r) (h : OpL c r oq) (hm : behindInMarks op b = false) (ha : PE X a (lE c ta)) (hb : PE X b (lE c tb)) : PE X (.Compare a [op] [b] pos) (lE c (e_op oq ta tb)) :=
  PEw (pe_cmpR ho ha hb hm) fun σ H Q ⟨R, O, env, Q', q, t, k⟩ => bin_l h q t k
theorem OpL.or {r r' : R2} {oq : D → D → (D → Md → Prop) → Prop} (h : OpL c r oq) : OpL c (fun x y H Q => r x y H Q ∨ r' x y H Q) oq := fun R O H x y dx dy Q' Q w a b t k => .inl (h R O H x y dx dy Q' Q w a b t k)
theorem OpR.or {f : Value → Value → Sem Value} {r r' : R2} (h : OpR X f r) (h' : OpR X f r') : OpR X f (fun x y H Q => r x y H Q ∨ r' x y H Q) := fun pins s σ H x y v u Q I a b t => t.elim (h pins s σ H x y v u Q I a b) (h' pins s σ H x y v u Q I a b)
theorem Rb.sc {R O : List Addr} {H : Hp} {x v : V} (h : Rb c R O H x (.sc v)) : x = v := by
  cases h with
  | st h => cases h; rfl
  | ow o _ => cases o
theorem Rb.ok {R O : List Addr} {H : Hp} {x v : V} (h : Rb c R O H x (.sc v)) : okV v = true := by
  cases h with
  | st h => cases h; assumption
  | ow o _ => cases o
theorem Rb.lst {R O : List Addr} {H : Hp} {x : V} {ds : List D} (h : Rb c R O H x (.lst ds)) : ∃ a vs, x = .ref a ∧ SqL c.K H a vs ∧ RepL c.K (cut H (O ++ (c.A ++ R))) vs ds := by
  cases h with
  | st h => cases h with | lst a b => exact ⟨_, _, rfl, Same.seq (fun b o e => (cut_some e).2) a, b⟩
  | ow o _ => cases o with | lst e b => exact ⟨_, _, rfl, .inl (.inl e), b⟩
theorem Rb.rep_tup {R O : List Addr} {H : Hp} {x : V} {ds : List D} (h : Rb c R O H x (.tup ds)) : Rep c.K (cut H (O ++ (c.A ++ R))) x (.tup ds) := by
  cases h with
  | st h => exact h
  | ow o _ => cases o
theorem Rb.tup {R O : List Addr} {H : Hp} {x : V} {ds : List D} (h : Rb c R O H x (.tup ds)) : ∃ a vs, x = .ref a ∧ SqT c.K H a vs ∧ RepL c.K (cut H (O ++ (c.A ++ R))) vs ds := by
  cases h with
  | st h => cases h with | tup a b => exact ⟨_, _, rfl, .inl (.inl (cut_some a).2), b⟩
  | ow o _ => cases o
/-- ints in, a value out -/
def iq (C : Int → Int → Prop) (g : Int → Int → V) : D → D → (D → Md → Prop) → Prop
  | .sc (.int i), .sc (.int j), Q => C i j ∧ Q (.sc (g i j)) .st
  | _, _, _ => False
def addQ : D → D → (D → Md → Prop) → Prop
  | .sc (.int i), .sc (.int j), Q => Q (.sc (.int (i + j))) .st
  | .sc (.str a), .sc (.str b), Q => a.length + b.length ≤ sizeLine ∧ Q (.sc (.str (a ++ b))) .st
  | .lst xs, .lst ys, Q => xs.length + ys.length ≤ sizeLine ∧ Q (.lst (xs ++ ys)) .ow
  | .tup xs, .tup ys, Q => xs.length + ys.length ≤ sizeLine ∧ Q (.tup (xs ++ ys)) .st
  | _, _, _ => False
/-- + of any two lists -/
def rCatL (K : PySem.W.Frag) : R2 := fun x y H Q => ∃ l b xs zs, x = .ref l ∧ y = .ref b ∧ SqL K H l xs ∧ SqL K H b zs ∧ xs.length + zs.length ≤ sizeLine ∧ ∀ p, H p = none → Q (.ref p) (upd H p (.lst (xs ++ zs)))
theorem op_catL : OpR X (binaryOp .Add) (rCatL X.K) := by
  intro pins s σ H x y v u Q I rx ry h
  obtain ⟨l, b, xs, zs, rfl, rfl, hH, hB, hz, q⟩ := h
  cases rx
  cases ry
  obtain ⟨its, r, ⟨⟨cls, dd, data, sl⟩, n, e, hc, hd, hs⟩, z⟩ := I.list hH
  obtain ⟨its2, r2, ⟨⟨cls2, dd2, data2, sl2⟩, n2, e2, hc2, hd2, hs2⟩, z2⟩ := I.list hB
  simp only at hc hd hs hc2 hd2 hs2
  subst hc hd hs hc2 hd2 hs2
  have l1 := r.length
  have l2 := r2.length
  have ea : its.toArray ++ its2.toArray = (its ++ its2).toArray := by simp
  refine concat_meets ⟨_, e, rfl⟩ ⟨_, e2, rfl⟩ noFill_list_add seq_list_add PySem.F.slot_list_add PySem.F.entry_list_add (PySem.F.args_list_add_2 _ _)
      (list_addW l b its.toArray its2.toArray n n2 none none sl sl2 (by rw [List.size_toArray, List.size_toArray]; omega)) ⟨e, e2, ?_⟩
  rw [ea]
  exact ⟨.ref _, _, I.lnew (t' := s.toks) (r.append r2) (by rw [List.length_append]; omega), rfl, q _ I.fresh⟩
/-- what stood stands, and the new address is left out -/
theorem HW.consSame {R O : List Addr} {H : Hp} {p : Addr} {o : HO} (n : H p = none) (A : List Addr) : Same (cut H A) (cut (upd H p o) (p :: A)) := fun b u e => by
  obtain ⟨m, e⟩ := cut_some e
  have ne := ne_of_none e n
  rw [cut_out, upd_ne ne]
  · exact e
  · intro z
    rcases List.mem_cons.mp z with z | z
    · exact ne z
    · exact m z
theorem updSame {H : Hp} {p : Addr} {o : HO} (n : H p = none) (A : List Addr) : Same (cut H A) (cut (upd H p o) A) := fun b u e => by
  obtain ⟨m, e⟩ := cut_some e
  rw [cut_out m, upd_ne (ne_of_none e n)]
  exact e
/-- a new list -/
theorem RM.newL {R O : List Addr} {H Ha : Hp} {p : Addr} {vs : List V} {ds : List D} (w : HW c R O H) (n : H p = none) (na : Ha p = none) (r : RepL c.K (cut H (O ++ (c.A ++ R))) vs ds) : RM c Ha R O (upd H p (.lst vs)) (.ref p) (.lst ds) .ow := by
  have fr := w.fresh n
  simp only [List.mem_append, not_or] at fr
  exact ⟨p, rfl, na, fr.1, fr.2.1, fr.2.2, .lst upd_same (r.mono (HW.consSame (R := R) (O := O) n _))⟩
/-- a new tuple -/
theorem RM.newT {R O : List Addr} {H Ha : Hp} {p : Addr} {vs : List V} {ds : List D} (w : HW c R O H) (n : H p = none) (r : RepL c.K (cut H (O ++ (c.A ++ R))) vs ds) : RM c Ha R O (upd H p (.tup vs)) (.ref p) (.tup ds) .st := by
  have fr := w.fresh n
  exact .tup (by rw [cut_out fr, upd_same]) (r.mono (updSame n _))
theorem strOk_append {a b : Str} (ha : PyData.strOk a = true) (hb : PyData.strOk b = true) : PyData.strOk (a ++ b) = true := by
  unfold PyData.strOk at *
  show (a.cps ++ b.cps).all _ = true
  rw [Array.all_append, ha, hb]
  rfl
def rAddA (K : PySem.W.Frag) : R2 := fun x y H Q => rI0 (fun i j => .int (i + j)) x y H Q ∨ ((∃ i j, x = .str i ∧ y = .str j ∧ i.length + j.length ≤ sizeLine ∧ Q (.str (i ++ j)) H) ∨ (rCatL K x y H Q ∨ rCatA K x y H Q))
theorem op_addA : OpR X (binaryOp .Add) (rAddA X.K) :=
  OpR.or op_add (OpR.or op_add_str (OpR.or op_catL op_catA))
theorem OpL.add (hK : X.K = c.K) : OpL c (rAddA X.K) addQ := by
  intro R O H x y dx dy Q' Q w a b t k
  unfold addQ at t
  split at t
  · exact .inl ⟨_, _, a.sc, b.sc, k _ _ t _ H R w.refl (.sc rfl)⟩
  · exact .inr (.inl ⟨_, _, a.sc, b.sc, t.1, k _ _ t.2 _ H R w.refl (.sc (strOk_append a.ok b.ok))⟩)
  · obtain ⟨l, vs, rfl, h1, r1⟩ := a.lst
    obtain ⟨m, ws, rfl, h2, r2⟩ := b.lst
    refine .inr (.inr (.inl ⟨l, m, vs, ws, rfl, rfl, hK ▸ h1, hK ▸ h2, by rw [r1.length, r2.length]; exact t.1, fun p n => ?_⟩))
    exact k _ _ t.2 _ _ R (Stp.alloc w.rok n) (RM.newL w n n (r1.append r2))
  · obtain ⟨l, vs, rfl, h1, r1⟩ := a.tup
    obtain ⟨m, ws, rfl, h2, r2⟩ := b.tup
    refine .inr (.inr (.inr ⟨l, m, vs, ws, rfl, rfl, hK ▸ h1, hK ▸ h2, by rw [r1.length, r2.length]; exact t.1, fun z => ?_, fun _ z => ?_, fun _ _ p n => ?_⟩))
    · subst z
      cases r1
      exact k _ _ t.2 _ H R w.refl b.rep_tup
    · subst z
      cases r2
      have q := t.2
      rw [List.append_nil] at q
      exact k _ _ q _ H R w.refl a.rep_tup
    · exact k _ _ t.2 _ _ R (Stp.alloc w.rok n) (RM.newT w n (r1.append r2))
  · exact t.elim
end
end P
namespace P
open PySem PySem.Spec PyProof.Rows L2
section
variable {X : Cx} {c : Fc}
def s_nil : Sx := fun env E => E.nx env
def s_seq (g h : Sx) : Sx := fun env E => g env { E with nx := fun e => h e E }
theorem p_nil : PSs X [] (lS c s_nil) := PSsw pss_nil fun E σ H ⟨R, O, env, E', r, g, o⟩ => o.nx _ g _ _ _ _ r
theorem p_cons {st : Stmt} {rest : List Stmt} {g h : Sx} (h1 : PS X st (lS c g)) (h2 : PSs X rest (lS c h)) : PSs X (st :: rest) (lS c (s_seq g h)) :=
  PSsw (pss_cons h1 h2) fun E σ H ⟨R, O, env, E', r, g', o⟩ => ⟨R, O, env, _, r, g', ⟨fun e z R' O' σ' H' r' => ⟨R', O', e, E', r', z, o⟩, o.rt, o.bk, o.ct, o.ro⟩⟩
theorem p_one {st : Stmt} {g : Sx} (h1 : PS X st (lS c g)) : PSs X [st] (lS c g) := PSsw (pss_one h1) fun _ _ _ z => z
/-- a slot takes a value -/
def bindS (d : D) (md : Md) (k : Sl → Prop) : Prop := match md with
  | .st => k (.sh d)
  | .ow => k (.ow d)
  | .br => False
theorem getElem?_set_cases {α : Type} {l : List α} {i j : Nat} {x y : α} (h : (l.set i x)[j]? = some y) : (j = i ∧ y = x) ∨ (j ≠ i ∧ l[j]? = some y) := by
  by_cases e : j = i
  · subst e
    left
    refine ⟨rfl, ?_⟩
    by_cases hl : j < l.length
    · rw [List.getElem?_set_self hl] at h; exact (Option.some.inj h).symm
    · rw [List.getElem?_eq_none (by rw [List.length_set]; omega)] at h; cases h
  · right
    exact ⟨e, by rw [List.getElem?_set_ne (Ne.symm e)] at h; exact h⟩
/-- the cells, where a slot is changed -/
theorem Rel.ghSet {R O : List Addr} {σ : L2.St} {H : Hp} {env : En} {i : Nat} {s : Sl} (r : Rel c R O σ H env) (n : ∀ S, s ≠ .gh S) : ∀ (j : Nat) (S : Sto), (env.set i s)[j]? = some (.gh S) → env[j]? = some (.gh S) := fun j S q => by
  rcases getElem?_set_cases q with ⟨rfl, z⟩ | ⟨_, q⟩
  · exact absurd z.symm (n S)
  · exact q
/-- a slot takes a value had for good -/
theorem Rel.setSh {R O : List Addr} {σ : L2.St} {H : Hp} {env : En} {i : Nat} {v : V} {d : D} (r : Rel c R O σ H env) (hi : i < σ.length) (h : Rep c.K (cut H (O ++ (c.A ++ R))) v d) : Rel c R O (σ.set i (some v)) H (env.set i (.sh d)) where
  toHW := r.toHW
  len := by rw [List.length_set, List.length_set]; exact r.len
  sh := fun j e q => by
    rcases getElem?_set_cases q with ⟨rfl, z⟩ | ⟨n, q⟩
    · cases z; exact ⟨v, List.getElem?_set_self hi, h⟩
    · rw [List.getElem?_set_ne (Ne.symm n)]; exact r.sh j e q
  ow := fun j e q => by
    rcases getElem?_set_cases q with ⟨rfl, z⟩ | ⟨n, q⟩
    · cases z
    · rw [List.getElem?_set_ne (Ne.symm n)]; exact r.ow j e q
  inj := fun j k e e' a q q' z z' => by
    rcases getElem?_set_cases q with ⟨rfl, y⟩ | ⟨n, q⟩
    · cases y
    rcases getElem?_set_cases q' with ⟨rfl, y⟩ | ⟨n', q'⟩
    · cases y
    rw [List.getElem?_set_ne (Ne.symm n)] at z
    rw [List.getElem?_set_ne (Ne.symm n')] at z'
    exact r.inj j k e e' a q q' z z'
  gh := fun j S q => r.gh j S (r.ghSet (by intro _ z; cases z) j S q)
  ghd := fun j k S a e e' q qs q' z' => by
    rcases getElem?_set_cases q' with ⟨rfl, y⟩ | ⟨n', q'⟩
    · cases y
    rw [List.getElem?_set_ne (Ne.symm n')] at z'
    exact r.ghd j k S a e e' (r.ghSet (by intro _ z; cases z) j S q) qs q' z'
  ghu := fun j k S T q q' => r.ghu j k S T (r.ghSet (by intro _ z; cases z) j S q) (r.ghSet (by intro _ z; cases z) k T q')
/-- nothing is known of a slot any more -/
theorem Rel.setNo {R O : List Addr} {σ : L2.St} {H : Hp} {env : En} {i : Nat} {v : Option V} (r : Rel c R O σ H env) : Rel c R O (σ.set i v) H (env.set i .no) where
  toHW := r.toHW
  len := by rw [List.length_set, List.length_set]; exact r.len
  sh := fun j e q => by
    rcases getElem?_set_cases q with ⟨rfl, z⟩ | ⟨n, q⟩
    · cases z
    · rw [List.getElem?_set_ne (Ne.symm n)]; exact r.sh j e q
  ow := fun j e q => by
    rcases getElem?_set_cases q with ⟨rfl, z⟩ | ⟨n, q⟩
    · cases z
    · rw [List.getElem?_set_ne (Ne.symm n)]; exact r.ow j e q
  inj := fun j k e e' a q q' z z' => by
    rcases getElem?_set_cases q with ⟨rfl, y⟩ | ⟨n, q⟩
    · cases y
    rcases getElem?_set_cases q' with ⟨rfl, y⟩ | ⟨n', q'⟩
    · cases y
    rw [List.getElem?_set_ne (Ne.symm n)] at z
    rw [List.getElem?_set_ne (Ne.symm n')] at z'
    exact r.inj j k e e' a q q' z z'
  gh := fun j S q => r.gh j S (r.ghSet (by intro _ z; cases z) j S q)
  ghd := fun j k S a e e' q qs q' z' => by
    rcases getElem?_set_cases q' with ⟨rfl, y⟩ | ⟨n', q'⟩
    · cases y
    rw [List.getElem?_set_ne (Ne.symm n')] at z'
    exact r.ghd j k S a e e' (r.ghSet (by intro _ z; cases z) j S q) qs q' z'
  ghu := fun j k S T q q' => r.ghu j k S T (r.ghSet (by intro _ z; cases z) j S q) (r.ghSet (by intro _ z; cases z) k T q')
/-- an object that nobody owns becomes owned -/
theorem HW.take {R O : List Addr} {H Ha : Hp} {p : Addr} {d : D} (w : HW c R O H) (n0 : c.H0 p = none) (np : ∀ q ∈ c.G, Rep c.K (cut H (p :: (O ++ (c.A ++ R)))) q.1 q.2) (nR : p ∉ R) (o : Own c.K H (cut H (p :: (O ++ (c.A ++ R)))) p d) : HW c R (p :: O) H where
  new := fun a h => by
    rcases List.mem_cons.mp h with rfl | h
    · exact n0
    · exact w.new a h
  oR := fun a h => by
    rcases List.mem_cons.mp h with rfl | h
    · exact nR
    · exact w.oR a h
  keep := w.keep
  rsub := w.rsub
  rnew := w.rnew
  rok := w.rok
  aok := fun a h => by
    rcases List.mem_cons.mp h with rfl | h
    · exact o.there
    · exact w.aok a h
  pins := np
  ha := w.ha
/-- behind an expression whose value is new: a slot owns it -/
theorem Rel.setOw {R R' O : List Addr} {σ : L2.St} {H H' : Hp} {env : En} {i : Nat} {v : V} {d : D} (r : Rel c R O σ H env) (s : Stp c.Φ R R' H H') (hi : i < σ.length) (h : RM c H R' O H' v d .ow) :
    ∃ O', Rel c R' O' (σ.set i (some v)) H' (env.set i (.ow d)) := by
  obtain ⟨p, rfl, n, nO, nA, nR, o⟩ := h
  have w1 := r.toHW.step s
  have sm : Same (cut H (O ++ (c.A ++ R))) (cut H' (p :: (O ++ (c.A ++ R')))) := fun b u e => by
    have e' := r.toHW.cutSame s b u e
    obtain ⟨m, e'⟩ := cut_some e'
    obtain ⟨_, e⟩ := cut_some e
    rw [cut_out]
    · exact e'
    · intro z
      rcases List.mem_cons.mp z with z | z
      · rw [z, n] at e; cases e
      · exact m z
  refine ⟨p :: O, ⟨w1.take (Ha := H) (r.toHW.h0 n) (fun q m => (r.pins q m).mono sm) nR o, by rw [List.length_set, List.length_set]; exact r.len, fun j e q => ?_, fun j e q => ?_, fun j k e e' a q q' z z' => ?_, fun j S q => ?_, fun j k S a e e' q qs q' z' => ?_, fun j k S T q q' => r.ghu j k S T (r.ghSet (by intro _ z; cases z) j S q) (r.ghSet (by intro _ z; cases z) k T q')⟩⟩
  · rcases getElem?_set_cases q with ⟨rfl, z⟩ | ⟨nj, q⟩
    · cases z
    · rw [List.getElem?_set_ne (Ne.symm nj)]
      obtain ⟨u, a, b⟩ := r.sh j e q
      exact ⟨u, a, b.mono sm⟩
  · rcases getElem?_set_cases q with ⟨rfl, z⟩ | ⟨nj, q⟩
    · cases z
      exact ⟨p, List.getElem?_set_self hi, List.mem_cons_self, o⟩
    · rw [List.getElem?_set_ne (Ne.symm nj)]
      obtain ⟨a, b, m, x⟩ := r.ow j e q
      exact ⟨a, b, List.mem_cons_of_mem _ m, x.mono sm fun u z => s.same a u z (r.oR a m)⟩
  · have old : ∀ (j : Nat) (e : D), env[j]? = some (.ow e) → σ[j]? = some (some (V.ref p)) → False := fun j e q z => by
      obtain ⟨a, b, m, x⟩ := r.ow j e q
      rw [z] at b
      have ea : p = a := V.ref.inj (Option.some.inj (Option.some.inj b))
      obtain ⟨u, q', _⟩ := x.there
      rw [← ea, n] at q'; cases q'
    rcases getElem?_set_cases q with ⟨ej, y⟩ | ⟨nj, q1⟩
    · subst ej
      rcases getElem?_set_cases q' with ⟨ek, y'⟩ | ⟨nk, q2⟩
      · exact ek.symm
      · rw [List.getElem?_set_self hi] at z
        rw [List.getElem?_set_ne (Ne.symm nk)] at z'
        have ea : p = a := V.ref.inj (Option.some.inj (Option.some.inj z))
        subst ea
        exact (old k e' q2 z').elim
    · rw [List.getElem?_set_ne (Ne.symm nj)] at z
      rcases getElem?_set_cases q' with ⟨ek, y'⟩ | ⟨nk, q2⟩
      · subst ek
        rw [List.getElem?_set_self hi] at z'
        have ea : p = a := V.ref.inj (Option.some.inj (Option.some.inj z'))
        subst ea
        exact absurd (old j e q1 z) id
      · rw [List.getElem?_set_ne (Ne.symm nk)] at z'
        exact r.inj j k e e' a q1 q2 z z'
  · exact (r.gh j S (r.ghSet (by intro _ z; cases z) j S q)).mono sm (fun a u m z => s.same a u z (r.oR a m)) fun _ _ _ m => List.mem_cons_of_mem _ m
  · have q0 := r.ghSet (by intro _ z; cases z) j S q
    rcases getElem?_set_cases q' with ⟨ek, y'⟩ | ⟨nk, q2⟩
    · subst ek
      rw [List.getElem?_set_self hi] at z'
      have ea : p = a := V.ref.inj (Option.some.inj (Option.some.inj z'))
      subst ea
      obtain ⟨m, x⟩ := r.gh j S q0 p e qs
      obtain ⟨u, q', _⟩ := x.there
      rw [n] at q'; cases q'
    · rw [List.getElem?_set_ne (Ne.symm nk)] at z'
      exact r.ghd j k S a e e' q0 qs q2 z'
def s_set (i : Nat) (te : Ex) : Sx := fun env E => te env fun d md => bindS d md fun s => E.nx (env.set i s)
theorem bind_l {R R' O : List Addr} {σ : L2.St} {H H' : Hp} {env : En} {i : Nat} {v : V} {d : D} {md : Md} {k : Sl → Prop} (r : Rel c R O σ H env) (s : Stp c.Φ R R' H H') (hi : i < σ.length) (h : RM c H R' O H' v d md) (b : bindS d md k) :
    ∃ O' s', k s' ∧ Rel c R' O' (σ.set i (some v)) H' (env.set i s') := by
  cases md with
  | st => exact ⟨O, _, b, (r.step s).setSh hi h⟩
  | br => exact b.elim
  | ow =>
    obtain ⟨O', q⟩ := r.setOw s hi h
    exact ⟨O', _, b, q⟩
theorem p_set {i : Nat} {x : Str} {e : Expr} {te : Ex} {pos pos' : Pos} (hN : X.N.Nodup) (hi : X.N[i]? = some x) (hx : Loc X.env.scope x) (he : PE X e (lE c te)) (hs : swapsWith e (some (.Name x pos')) pos.line X.env = pure false := by rfl) (hf : X.fn x = true ∨ X.env.scope.names.lookup x = some .local := by first | exact .inl rfl | exact .inr rfl | assumption) :
    PS X (.Assign [.Name x pos'] e pos) (lS c (s_set i te)) := by
  refine ⟨fun pins s σ H E I h => (ps_set hN hi hx he hs hf).run pins s σ H E I ?_⟩
  obtain ⟨R, O, env, E', r, g, o⟩ := h
  have hl : i < σ.length := by rw [I.len]; exact (List.getElem?_eq_some_iff.mp hi).1
  refine ⟨R, O, env, _, r, g, fun d md b v H' R' s' m => ?_⟩
  obtain ⟨O', s2, k, q⟩ := bind_l r s' hl m b
  exact o.nx _ k _ _ _ _ q
def frz : Sl → Sl
  | .ow d => .sh d
  | .gh _ => .no
  | s => s
/-- all that is owned is given up: it can be kept for good -/
def En.frz (env : En) : En := env.map P.frz
theorem frz_rel {R O : List Addr} {σ : L2.St} {H : Hp} {env : En} (r : Rel c R O σ H env) : Rel c R [] σ H env.frz := by
  have sm : Same (cut H (O ++ (c.A ++ R))) (cut H ([] ++ (c.A ++ R))) := cut_sub fun b m => List.mem_append_right _ m
  have nogh : ∀ (i : Nat) (S : Sto), env.frz[i]? = some (.gh S) → False := fun i S h => by
    unfold En.frz at h
    rw [List.getElem?_map] at h
    cases q : env[i]? with
    | none => rw [q] at h; cases h
    | some s => rw [q] at h; cases s <;> cases h
  refine ⟨⟨(fun _ h => nomatch h), (fun _ h => nomatch h), r.keep, r.rsub, r.rnew, r.rok, fun a h => r.aok a (List.mem_append_right _ h), fun p h => (r.pins p h).mono sm, r.ha⟩, by rw [r.len]; simp [En.frz], fun i d h => ?_, fun i d h => ?_, fun i j d e a h => ?_, fun i S h => (nogh i S h).elim, fun i j S a d e h => (nogh i S h).elim, fun i j S T h => (nogh i S h).elim⟩
  · unfold En.frz at h
    rw [List.getElem?_map] at h
    cases q : env[i]? with
    | none => rw [q] at h; cases h
    | some s =>
      rw [q] at h
      cases s with
      | no => cases h
      | gh S => cases h
      | sh d' =>
        cases h
        obtain ⟨v, a, b⟩ := r.sh i _ q
        exact ⟨v, a, b.mono sm⟩
      | ow d' =>
        cases h
        obtain ⟨a, b, m, x⟩ := r.ow i _ q
        have na : a ∉ ([] : List Addr) ++ (c.A ++ R) := fun z => by
          rcases List.mem_append.mp z with z | z
          · cases z
          · rcases List.mem_append.mp z with z | z
            · exact r.ha a z (r.new a m)
            · exact r.oR a m z
        exact ⟨_, b, x.rep sm fun u q => by rw [cut_out na]; exact q⟩
  · unfold En.frz at h
    rw [List.getElem?_map] at h
    cases q : env[i]? with
    | none => rw [q] at h; cases h
    | some s => rw [q] at h; cases s <;> cases h
  · unfold En.frz at h
    rw [List.getElem?_map] at h
    cases q : env[i]? with
    | none => rw [q] at h; cases h
    | some s => rw [q] at h; cases s <;> cases h
end
end P
namespace P
open PySem PySem.Spec PyProof.Rows L2
section
variable {X : Cx} {c : Fc}
def s_ret (te : Ex) : Sx := fun env E => te env.frz fun d md => E.rt d md
theorem p_ret {e : Expr} {te : Ex} {pos : Pos} (he : PE X e (lE c te)) : PS X (.Return (some e) pos) (lS c (s_ret te)) :=
  PSw (ps_ret he) fun E σ H ⟨R, O, env, E', r, g, o⟩ => by
    have r' := frz_rel r
    refine ⟨R, [], env.frz, _, r', g, fun d md q v H' R' s m => o.rt d md q v H' ⟨R', [], r'.toHW.step s, m.ahead fun a n => r'.toHW.h0 n⟩⟩
/-- a name handed back: what it owns goes to the caller -/
def s_retv (i : Nat) : Sx := fun env E => match env[i]? with
  | some (.sh d) => E.rt d .st
  | some (.ow d) => E.rt d .ow
  | _ => False
theorem p_retv (i : Nat) {x : Str} {pos ps : Pos} (hN : X.N[i]? = some x := by rfl) (hv : Vis X.env.scope x := by first | exact Or.inl rfl | exact Or.inr (Or.inl rfl) | exact Or.inr (Or.inr rfl)) (hd : (x == ("__debug__" : Str)) = false := by decide)
    (hcd : (x == ("__classdict__" : Str)) = false := by decide) : PS X (.Return (some (.Name x pos)) ps) (lS c (s_retv i)) :=
  PSw (ps_ret (pe_var hN hv hd hcd)) fun E σ H ⟨R, O, env, E', r, g, o⟩ => by
    unfold s_retv at g
    have r' := frz_rel r
    cases e : env[i]? with
    | none => rw [e] at g; exact g.elim
    | some s =>
      rw [e] at g
      cases s with
      | no => exact g.elim
      | gh S => exact g.elim
      | sh d =>
        obtain ⟨v, a, b⟩ := r.sh i d e
        exact ⟨v, a, o.rt d .st g v H ⟨R, [], r'.toHW, b.mono (cut_sub fun b m => List.mem_append_right _ m)⟩⟩
      | ow d =>
        obtain ⟨a, q, m, x⟩ := r.ow i d e
        refine ⟨_, q, o.rt d .ow g _ H ⟨R, [], r'.toHW, a, rfl, r.new a m, (fun z => nomatch z), (fun z => r.ha a z (r.new a m)), r.oR a m, x.mono (cut_sub fun b z => ?_) fun _ z => z⟩⟩
        rcases List.mem_cons.mp z with rfl | z
        · exact List.mem_append_left _ m
        · exact List.mem_append_right _ z
def s_retN : Sx := fun env E => E.rt (.sc .non) .st
def s_expr (te : Ex) : Sx := fun env E => te env fun _ _ => E.nx env
theorem p_expr {e : Expr} {te : Ex} {pos : Pos} (he : PE X e (lE c te)) (hs : swapsWith e none pos.line X.env = pure false := by rfl) : PS X (.Expr e pos) (lS c (s_expr te)) :=
  PSw (ps_expr he hs) fun E σ H ⟨R, O, env, E', r, g, o⟩ => ⟨R, O, env, _, r, g, fun d md q v H' R' s m => o.nx env q _ _ _ _ (r.step s)⟩
def s_pass : Sx := fun env E => E.nx env
def s_break : Sx := fun env E => E.bk env
def s_cont : Sx := fun env E => E.ct env
def s_never : Sx := fun _ _ => False
theorem p_never {st : Stmt} : PS X st (lS c s_never) := PSw ps_never fun E σ H ⟨R, O, env, E', r, g, o⟩ => g
/-- a name's list or dict is kept for good from here on -/
def s_frz (i : Nat) (g : Sx) : Sx := fun env E => match env[i]? with
  | some (.ow d) => g (env.set i (.sh d)) E
  | _ => g env E
theorem frz1_rel {R O : List Addr} {σ : L2.St} {H : Hp} {env : En} {i : Nat} {d : D} (r : Rel c R O σ H env) (e : env[i]? = some (.ow d)) : ∃ O', Rel c R O' σ H (env.set i (.sh d)) := by
  obtain ⟨a, q, m, x⟩ := r.ow i d e
  have hi : i < env.length := (List.getElem?_eq_some_iff.mp e).1
  have sub : ∀ b, b ∈ O.filter (fun z => decide (z ≠ a)) ++ (c.A ++ R) → b ∈ O ++ (c.A ++ R) := fun b z => by
    rcases List.mem_append.mp z with z | z
    · exact List.mem_append_left _ (List.mem_filter.mp z).1
    · exact List.mem_append_right _ z
  have na : a ∉ O.filter (fun z => decide (z ≠ a)) ++ (c.A ++ R) := fun z => by
    rcases List.mem_append.mp z with z | z
    · have := (List.mem_filter.mp z).2
      simp at this
    · rcases List.mem_append.mp z with z | z
      · exact r.ha a z (r.new a m)
      · exact r.oR a m z
  have sm := cut_sub (H := H) sub
  refine ⟨O.filter (fun z => decide (z ≠ a)), ⟨⟨fun b z => r.new b (List.mem_filter.mp z).1, fun b z => r.oR b (List.mem_filter.mp z).1, r.keep, r.rsub, r.rnew, r.rok, fun b z => r.aok b (sub b z), fun p z => (r.pins p z).mono sm, r.ha⟩, by rw [List.length_set]; exact r.len, fun j e' z => ?_, fun j e' z => ?_, fun j k e1 e2 b z z' y y' => ?_, fun j S z => ?_, fun j k S b d e2 z zs z' y' => ?_, fun j k S T z z' => r.ghu j k S T (r.ghSet (by intro _ z; cases z) j S z) (r.ghSet (by intro _ z; cases z) k T z')⟩⟩
  · rcases getElem?_set_cases z with ⟨rfl, w⟩ | ⟨nj, z⟩
    · cases w
      exact ⟨_, q, x.rep sm fun u w => by rw [cut_out na]; exact w⟩
    · obtain ⟨v, h1, h2⟩ := r.sh j e' z
      exact ⟨v, h1, h2.mono sm⟩
  · rcases getElem?_set_cases z with ⟨rfl, w⟩ | ⟨nj, z⟩
    · cases w
    · obtain ⟨b, h1, h2, h3⟩ := r.ow j e' z
      refine ⟨b, h1, List.mem_filter.mpr ⟨h2, decide_eq_true fun y => ?_⟩, h3.mono sm fun _ w => w⟩
      subst y
      exact nj (r.inj j i e' d b z e h1 q)
  · rcases getElem?_set_cases z with ⟨rfl, w⟩ | ⟨nj, z⟩
    · cases w
    rcases getElem?_set_cases z' with ⟨rfl, w⟩ | ⟨nk, z'⟩
    · cases w
    exact r.inj j k e1 e2 b z z' y y'
  · have z0 := r.ghSet (by intro _ z; cases z) j S z
    refine (r.gh j S z0).mono sm (fun _ _ _ z => z) fun b d' qs m => List.mem_filter.mpr ⟨m, decide_eq_true fun y => ?_⟩
    subst y
    exact r.ghd j i S b d' d z0 qs e q
  · rcases getElem?_set_cases z' with ⟨rfl, w⟩ | ⟨nk, z'⟩
    · cases w
    exact r.ghd j k S b d e2 (r.ghSet (by intro _ z; cases z) j S z) zs z' y'
theorem frz_l {i : Nat} {g : Sx} {E : Ends} {σ : L2.St} {H : Hp} (h : lS c (s_frz i g) E σ H) : lS c g E σ H := by
  obtain ⟨R, O, env, E', r, q, o⟩ := h
  unfold s_frz at q
  split at q
  · rename_i d e
    obtain ⟨O', r'⟩ := frz1_rel r e
    exact ⟨R, O', _, E', r', q, o⟩
  · exact ⟨R, O, env, E', r, q, o⟩
theorem p_frz (i : Nat) {st : Stmt} {g : Sx} (h : PS X st (lS c g)) : PS X st (lS c (s_frz i g)) := PSw h fun _ _ _ z => frz_l z
def truth : D → (Bool → Prop) → Prop
  | .sc (.bl b), Q => Q b
  | .sc (.int i), Q => Q (i != 0)
  | .sc .non, Q => Q false
  | .sc (.str x), Q => x.length ≤ sizeLine ∧ Q ((x.length : Int) != 0)
  | .lst ds, Q => Q (!ds.isEmpty)
  | .tup ds, Q => Q (!ds.isEmpty)
  | _, _ => False
def t_of (te : Ex) : Tx := fun env Q => te env fun d _ => truth d Q
theorem isEmpty_eq {α β : Type} {xs : List α} {ys : List β} (h : xs.length = ys.length) : xs.isEmpty = ys.isEmpty := by
  cases xs <;> cases ys <;> first | rfl | cases h
theorem truth_l {R O : List Addr} {H : Hp} {v : V} {d : D} {Q : Bool → Prop} (b : Rb c R O H v d) (t : truth d Q) : ∃ k, TruV c.K v H k ∧ Q k := by
  unfold truth at t
  split at t
  · cases b.sc; exact ⟨_, rfl, t⟩
  · cases b.sc; exact ⟨_, rfl, t⟩
  · cases b.sc; exact ⟨_, rfl, t⟩
  · cases b.sc; exact ⟨_, ⟨t.1, rfl⟩, t.2⟩
  · obtain ⟨a, vs, rfl, h, r⟩ := b.lst
    exact ⟨_, .inl ⟨vs, h, rfl⟩, by rw [isEmpty_eq r.length]; exact t⟩
  · obtain ⟨a, vs, rfl, h, r⟩ := b.tup
    exact ⟨_, .inr (.inl ⟨vs, h, rfl⟩), by rw [isEmpty_eq r.length]; exact t⟩
  · exact t.elim
theorem p_tval {e : Expr} {te : Ex} (hK : X.K = c.K) (h : PE X e (lE c te)) (he : ∀ whole, isTrue e X.env whole = (do let v ← whole; standAt e.pos; holding [v] (truthy v)) := by intro _; rfl) : PT X e (lT c (t_of te)) :=
  PTw (pt_truth h he) fun σ H Q ⟨R, O, env, Q', r, t, k⟩ => ⟨R, O, env, _, r, t, fun d md q v H' R' s m => by
    obtain ⟨b, h1, h2⟩ := truth_l (m.rb (r.toHW.step s)) q
    exact ⟨b, hK ▸ h1, k b h2 H' R' s⟩⟩
/-- a comparison as a test -/
def t_op (oq : D → D → (D → Md → Prop) → Prop) (ta tb : Ex) : Tx := fun env Q => e_op oq ta tb env fun d _ => ∃ b, d = .sc (.bl b) ∧ Q b
theorem p_tcmp {a b : Expr} {op : CmpOp} {pos : Pos} {ta tb : Ex} {oq : D → D → (D → Md → Prop) → Prop} {r : R2} (ho : OpR X (compareOp op) r) (h : OpL c r oq) (hm : behindInMarks op b = false) (ha : PE X a (lE c ta)) (hb : PE X b (lE c tb)) : PT X (.Compare a [op] [b] pos) (lT c (t_op oq ta tb)) :=
  PTw (pt_cmpR ho ha hb hm) fun σ H Q ⟨R, O, env, Q', q, t, k⟩ => bin_l h q t fun d md ⟨b, e, q'⟩ v H' R' s m => by
    subst e
    exact ⟨b, (m.rb (q.toHW.step s)).sc, k b q' H' R' s⟩
def t_and (ta tb : Tx) : Tx := fun env Q => ta env fun b => if b = true then tb env Q else Q false
def t_or (ta tb : Tx) : Tx := fun env Q => ta env fun b => if b = true then Q true else tb env Q
def t_not (ta : Tx) : Tx := fun env Q => ta env fun b => Q (!b)
theorem p_tor1 {a : Expr} {pos : Pos} {ta : Tx} (h : PT X a (lT c ta)) : PW X (.BoolOp .Or [a] pos) (lT c ta) := pw_or1 h
theorem p_tor {a b : Expr} {rest : List Expr} {pos : Pos} {ta tb : Tx} (ha : PT X a (lT c ta)) (hb : PW X (.BoolOp .Or (b :: rest) pos) (lT c tb)) : PW X (.BoolOp .Or (a :: b :: rest) pos) (lT c (t_or ta tb)) :=
  PWw (pw_or ha hb) fun σ H Q ⟨R, O, env, Q', r, t, k⟩ => ⟨R, O, env, _, r, t, fun d q H1 R1 s1 => by
    cases d with
    | false => rw [if_neg Bool.false_ne_true] at q ⊢; exact ⟨R1, O, env, _, r.step s1, q, fun b q' H2 R2 s2 => k b q' H2 R2 (s1.trans s2)⟩
    | true => rw [if_pos rfl] at q ⊢; exact k true q H1 R1 s1⟩
theorem p_tnot {a : Expr} {pos : Pos} {ta : Tx} (h : PT X a (lT c ta)) : PT X (.UnaryOp .Not a pos) (lT c (t_not ta)) :=
  PTw (pt_not h) fun σ H Q ⟨R, O, env, Q', r, t, k⟩ => ⟨R, O, env, _, r, t, fun d q H1 R1 s1 => k _ q H1 R1 s1⟩
def blQ (d : D) (Q : Bool → Prop) : Prop := match d with
  | .sc (.bl b) => Q b
  | _ => False
theorem blQ_l {d : D} {Q : Bool → Prop} (h : blQ d Q) : ∃ b, d = .sc (.bl b) ∧ Q b := by
  unfold blQ at h
  split at h
  · exact ⟨_, rfl, h⟩
  · exact h.elim
def e_and (ta tb : Ex) : Ex := fun env Q => ta env fun d _ => blQ d fun b => if b = true then tb env Q else Q (.sc (.bl false)) .st
def e_or (ta tb : Ex) : Ex := fun env Q => ta env fun d _ => blQ d fun b => if b = true then Q (.sc (.bl true)) .st else tb env Q
def e_not (ta : Ex) : Ex := fun env Q => ta env fun d _ => blQ d fun b => Q (.sc (.bl (!b))) .st
theorem p_eone {op} {a : Expr} {pos : Pos} {ta : Ex} (h : PE X a (lE c ta)) : PE X (.BoolOp op [a] pos) (lE c ta) := pe_one h
theorem p_eand {a b : Expr} {rest : List Expr} {pos : Pos} {ta tb : Ex} (ha : PE X a (lE c ta)) (hb : PE X (.BoolOp .And (b :: rest) pos) (lE c tb)) : PE X (.BoolOp .And (a :: b :: rest) pos) (lE c (e_and ta tb)) :=
  PEw (pe_and ha hb) fun σ H Q ⟨R, O, env, Q', r, t, k⟩ => ⟨R, O, env, _, r, t, fun d md q v H1 R1 s1 m => by
    obtain ⟨b, rfl, q2⟩ := blQ_l q
    clear q
    have q := q2
    clear q2
    refine ⟨b, (m.rb (r.toHW.step s1)).sc, ?_⟩
    cases b with
    | true =>
      rw [if_pos rfl] at q ⊢
      exact ⟨R1, O, env, _, r.step s1, q, fun d' md' q' v' H2 R2 s2 m' => k d' md' q' v' H2 R2 (s1.trans s2) (m'.ahead fun a n => Stp.nn r.rok s1 n)⟩
    | false => rw [if_neg Bool.false_ne_true] at q ⊢; exact k _ _ q _ H1 R1 s1 (.sc rfl)⟩
theorem p_enot {a : Expr} {pos : Pos} {ta : Ex} (ha : PE X a (lE c ta)) : PE X (.UnaryOp .Not a pos) (lE c (e_not ta)) :=
  PEw (pe_not ha) fun σ H Q ⟨R, O, env, Q', r, t, k⟩ => ⟨R, O, env, _, r, t, fun d md q v H1 R1 s1 m => by
    obtain ⟨b, rfl, q2⟩ := blQ_l q
    clear q
    have q := q2
    clear q2
    exact ⟨b, (m.rb (r.toHW.step s1)).sc, k _ _ q _ H1 R1 s1 (.sc rfl)⟩⟩
def s_if (tt : Tx) (g h : Sx) : Sx := fun env E => tt env fun b => if b = true then g env E else h env E
theorem p_if {t : Expr} {a b : List Stmt} {pos : Pos} {tt : Tx} {g h : Sx} (hc : PT X t (lT c tt)) (ha : PSs X a (lS c g)) (hb : PSs X b (lS c h)) : PS X (.If t a b pos) (lS c (s_if tt g h)) :=
  PSw (ps_if hc ha hb) fun E σ H ⟨R, O, env, E', r, q, o⟩ => ⟨R, O, env, _, r, q, fun d q' H1 R1 s1 => by
    cases d with
    | true => rw [if_pos rfl] at q' ⊢; exact ⟨R1, O, env, E', r.step s1, q', o⟩
    | false => rw [if_neg Bool.false_ne_true] at q' ⊢; exact ⟨R1, O, env, E', r.step s1, q', o⟩⟩
def whileN (tt : Tx) (g : Sx) : Nat → En → Os → Prop
  | 0, _, _ => False
  | n + 1, env, E => tt env fun b => if b = true then g env { nx := fun e => whileN tt g n e E, ct := fun e => whileN tt g n e E, bk := E.nx, rt := E.rt, ro := E.ro } else E.nx env
def s_while (tt : Tx) (g : Sx) : Sx := fun env E => ∃ n, whileN tt g n env E
end
end P
namespace P
open PySem PySem.Spec PyProof.Rows L2
section
variable {X : Cx} {c : Fc}
def a_nil : Ax := fun _ Q => Q []
def a_cons (te : Ex) (ta : Ax) : Ax := fun env Q => te env fun d md => ta env fun ps => Q ((d, md) :: ps)
theorem RMs.ahead {R O : List Addr} {H Ha Hb : Hp} {vs : List V} {ps : List (D × Md)} (h : RMs c Hb R O H vs ps) (n : ∀ a, Hb a = none → Ha a = none) : RMs c Ha R O H vs ps := by
  induction h with
  | nil => exact .nil
  | cons a b ih => exact .cons (a.ahead n) ih
theorem p_anil : PA X [] (lA c a_nil) := PAw pa_nil fun σ H Q ⟨R, O, env, Q', r, t, k⟩ => k [] t [] H R r.toHW.refl .nil
theorem p_acons {e : Expr} {es : List Expr} {te : Ex} {ta : Ax} (he : PE X e (lE c te)) (hr : PA X es (lA c ta)) (hs : starEach (e :: es) X.env = (false, eval e X.env) :: starEach es X.env := by rfl) : PA X (e :: es) (lA c (a_cons te ta)) :=
  PAw (pa_cons he hr hs) fun σ H Q ⟨R, O, env, Q', r, t, k⟩ => ⟨R, O, env, _, r, t, fun d md t1 v1 H1 R1 s1 m1 => ⟨R1, O, env, _, r.step s1, t1, fun ps t2 vs H2 R2 s2 m2 =>
    k _ t2 _ H2 R2 (s1.trans s2) (.cons (m1.step (r.step s1).toHW s2) (m2.ahead fun a n => Stp.nn r.rok s1 n))⟩⟩
def isBr : Md → Bool
  | .br => true
  | _ => false
def brs (ps : List (D × Md)) : Bool := ps.any fun p => isBr p.2
theorem RMs.length {R O : List Addr} {H Ha : Hp} {vs : List V} {ps : List (D × Md)} (h : RMs c Ha R O H vs ps) : vs.length = ps.length := by
  induction h with
  | nil => rfl
  | cons a b ih => simp [ih]
theorem RMs.stab {R O : List Addr} {H Ha : Hp} {vs : List V} {ps : List (D × Md)} (h : RMs c Ha R O H vs ps) (n : brs ps = false) : RepL c.K (cut H (O ++ (c.A ++ R))) vs (ps.map (·.1)) := by
  induction h with
  | nil => exact .nil
  | @cons v vs p ps a b ih =>
    simp only [brs, List.any_cons, Bool.or_eq_false_iff] at n
    refine .cons (a.stab fun z => ?_) (ih n.2)
    rw [z] at n
    cases n.1
theorem RMs.rb {R O : List Addr} {H Ha : Hp} {vs : List V} {ps : List (D × Md)} (w : HW c R O H) (h : RMs c Ha R O H vs ps) : ∀ (i : Nat) (v : V), vs[i]? = some v → ∃ p : D × Md, ps[i]? = some p ∧ Rb c R O H v p.1 := by
  induction h with
  | nil => intro i v z; simp at z
  | @cons v vs p ps a b ih =>
    intro i u z
    cases i with
    | zero => simp at z; subst z; exact ⟨p, rfl, a.rb w⟩
    | succ i => simpa using ih i u (by simpa using z)
def e_tup (ta : Ax) : Ex := fun env Q => ta env fun ps => brs ps = false ∧ ps.length ≤ sizeLine ∧ Q (.tup (ps.map (·.1))) .st
def e_lst (ta : Ax) : Ex := fun env Q => ta env fun ps => brs ps = false ∧ ps.length ≤ sizeLine ∧ Q (.lst (ps.map (·.1))) .ow
theorem p_etup {es : List Expr} {ta : Ax} {x1} {pos : Pos} (h : PA X es (lA c ta)) : PE X (.Tuple es x1 pos) (lE c (e_tup ta)) :=
  PEw (pe_tup h) fun σ H Q ⟨R, O, env, Q', r, t, k⟩ => ⟨R, O, env, _, r, t, fun ps ⟨n, l, q⟩ vs H1 R1 s1 m => ⟨by rw [m.length]; exact l, fun p np =>
    k _ _ q _ _ R1 (s1.trans (Stp.alloc s1.rok np)) (RM.newT (r.step s1).toHW np (m.stab n))⟩⟩
theorem p_elst {es : List Expr} {ta : Ax} {pos : Pos} (h : PA X es (lA c ta)) : PE X (.List es pos) (lE c (e_lst ta)) :=
  PEw (pe_lst h) fun σ H Q ⟨R, O, env, Q', r, t, k⟩ => ⟨R, O, env, _, r, t, fun ps ⟨n, l, q⟩ vs H1 R1 s1 m => ⟨by rw [m.length]; exact l, fun p np =>
    k _ _ q _ _ R1 (s1.trans (Stp.alloc s1.rok np)) (RM.newL (r.step s1).toHW np (Stp.nn r.rok s1 np) (m.stab n))⟩⟩
def g_name (i : Nat) : Gx := fun d env Q => Q (env.set i (.sh d))
def g_nil : List D → En → (En → Prop) → Prop := fun ds env Q => ds = [] ∧ Q env
def g_cons (g : Gx) (gs : List D → En → (En → Prop) → Prop) : List D → En → (En → Prop) → Prop := fun ds env Q => match ds with
  | d :: r => g d env fun e => gs r e Q
  | [] => False
def g_tup (n : Nat) (gs : List D → En → (En → Prop) → Prop) : Gx := fun d env Q => match d with
  | .tup ds => ds.length = n ∧ gs ds env Q
  | _ => False
theorem wipe_get {σ : L2.St} {j : Nat} : ∀ {vs : List Nat}, (wipe σ vs)[j]? = if j ∈ vs ∧ j < σ.length then some none else σ[j]?
  | [] => by simp [wipe]
  | v :: vs => by
    unfold wipe
    by_cases e : j = v
    · subst e
      by_cases hl : j < σ.length
      · rw [List.getElem?_set_self (by rw [wipe_length]; exact hl), if_pos ⟨List.mem_cons_self, hl⟩]
      · rw [List.getElem?_eq_none (by rw [List.length_set, wipe_length]; omega), if_neg (fun z => hl z.2), List.getElem?_eq_none (by omega)]
    · rw [List.getElem?_set_ne (Ne.symm e), wipe_get]
      have : (j ∈ v :: vs ∧ j < σ.length) ↔ (j ∈ vs ∧ j < σ.length) := by simp [e]
      by_cases h : j ∈ vs ∧ j < σ.length
      · rw [if_pos h, if_pos (this.mpr h)]
      · rw [if_neg h, if_neg fun z => h (this.mp z)]
theorem wipe_set {σ : L2.St} {i : Nat} {v : Option V} {vs : List Nat} (h : i ∈ vs) : wipe (σ.set i v) vs = wipe σ vs := by
  apply List.ext_getElem?
  intro j
  rw [wipe_get, wipe_get, List.length_set]
  by_cases z : j ∈ vs ∧ j < σ.length
  · rw [if_pos z, if_pos z]
  · rw [if_neg z, if_neg z]
    by_cases e : j = i
    · subst e
      have hl : σ.length ≤ j := by
        have : ¬ j < σ.length := fun y => z ⟨h, y⟩
        omega
      rw [List.getElem?_eq_none (by rw [List.length_set]; exact hl), List.getElem?_eq_none hl]
    · rw [List.getElem?_set_ne (Ne.symm e)]
theorem p_gname {i : Nat} {x : Str} {pos : Pos} {vs : List Nat} (hN : X.N.Nodup) (hi : X.N[i]? = some x) (hx : Loc X.env.scope x) (hm : i ∈ vs := by decide) (hf : X.fn x = true ∨ X.env.scope.names.lookup x = some .local := by first | exact .inl rfl | exact .inr rfl | assumption) :
    PG X (.Name x pos) (lG c (g_name i) vs) := by
  refine ⟨fun pins s σ H v u Q I rv h => (pg_name hN hi hx hf).run pins s σ H v u Q I rv ?_⟩
  obtain ⟨R, O, env, d, Q', r, p, t, k⟩ := h
  exact k _ t _ (r.setSh (by rw [I.len]; exact (List.getElem?_eq_some_iff.mp hi).1) p) (wipe_set hm)
theorem p_gnil {vs : List Nat} : PGs X [] (lGs c g_nil vs) := PGsw pgs_nil fun us σ H Q ⟨R, O, env, ds, Q', r, p, ⟨e, t⟩, k⟩ => by
  subst e
  cases p
  exact ⟨rfl, k _ t _ r rfl⟩
theorem p_gcons {e : Expr} {es : List Expr} {g : Gx} {gs : List D → En → (En → Prop) → Prop} {vs : List Nat} (h1 : PG X e (lG c g vs)) (h2 : PGs X es (lGs c gs vs)) (hs : (assignEach (e :: es) X.env).map (·.2) = assign e X.env :: (assignEach es X.env).map (·.2) := by rfl) :
    PGs X (e :: es) (lGs c (g_cons g gs) vs) := PGsw (pgs_cons h1 h2 hs) fun us σ H Q ⟨R, O, env, ds, Q', r, p, t, k⟩ => by
  cases p with
  | nil => exact t.elim
  | cons a b => exact ⟨_, _, rfl, R, O, env, _, _, r, a, t, fun e' t' σ' r' w => ⟨R, O, e', _, _, r', b, t', fun e2 t2 σ2 r2 w2 => k _ t2 _ r2 (w2.trans w)⟩⟩
theorem p_gtup {es : List Expr} {kk : Nat} {pos : Pos} {gs : List D → En → (En → Prop) → Prop} {vs : List Nat} {n : Nat} (hK : X.K = c.K) (hc : X.calm = true) (h : PGs X es (lGs c gs vs)) (hn : (assignEach es X.env).length = n := by rfl) (hst : (assignEach es X.env).findIdx? (·.1) = none := by rfl) :
    PG X (.Tuple es kk pos) (lG c (g_tup n gs) vs) := PGw (pg_tup hc h hn hst) fun v σ H Q ⟨R, O, env, d, Q', r, p, t, k⟩ => by
  cases d with
  | tup ds =>
    have p' := p
    cases p' with
    | tup a b => exact ⟨_, _, rfl, hK ▸ .inl (.inl (cut_some a).2), b.length.trans t.1, R, O, env, _, _, r, b, t.2, k⟩
  | _ => exact t.elim
/-- target = e -/
def s_asg (te : Ex) (g : Gx) : Sx := fun env E => te env fun d md => isBr md = false ∧ g d env E.nx
def itemsQ (d : D) (Q : List D → Prop) : Prop := match d with
  | .lst ds => Q ds
  | .tup ds => Q ds
  | .sc (.str x) => Q (x.cps.toList.map fun n => .sc (.str ⟨#[n]⟩))
  | _ => False
def i_seq (te : Ex) : Ix := fun env Q => te env fun d md => itemsQ d fun ds => Q ds (!isBr md)
/-- a list, a tuple or a text, walked -/
theorem pi_seq {tg l : Expr} {tl : TE} (hl : PE X l tl) : PI X tg l (fun σ H R => tl σ H fun x H1 => (∃ a, x = .ref a ∧ (∃ xs, SqL X.K H1 a xs) ∧ R (Itl X.K a) H1) ∨ (∃ a, x = .ref a ∧ (∃ xs, SqT X.K H1 a xs) ∧ R (Itt X.K a) H1) ∨ (∃ z, x = .str z ∧ R (Its z) H1)) := by
  refine ⟨fun pins s σ H R I h => ?_⟩
  refine thn (hl.run pins s σ H _ I h) fun v s1 ⟨x, H1, I1, r1, q1⟩ => ?_
  rcases q1 with ⟨a, e, ⟨xs, hq⟩, q⟩ | ⟨a, e, ⟨xs, hq⟩, q⟩ | ⟨z, e, q⟩
  · subst e
    cases r1
    obtain ⟨its, rv, p, hz⟩ := I1.list hq
    refine wpAny_pyIter_list p.isList ?_
    refine ⟨s1.heap.objs.size, [s1.heap.objs.size], _, _, H1, rfl, I1.kept (t' := s1.toks) fun b o e => Heap.get?_push_of_some _ e, turn_list a _, ⟨_, Heap.get?_push_size _ rfl, rfl, rfl⟩, fun b hb => ?_, q⟩
    have e : b = s1.heap.objs.size := by simpa using hb
    subst e
    exact I1.fpOk (Nat.le_refl _) (I1.hok.fresh (Nat.le_refl _))
  · subst e
    cases r1
    obtain ⟨its, rv, p, hz⟩ := I1.tuple hq
    refine wpAny_pyIter_tuple (show s1.heap.IsTuple a its.toArray from p) ?_
    refine ⟨s1.heap.objs.size, [s1.heap.objs.size], _, _, H1, rfl, I1.kept (t' := s1.toks) fun b o e => Heap.get?_push_of_some _ e, turn_tuple a _, ⟨_, Heap.get?_push_size _ rfl, rfl, rfl⟩, fun b hb => ?_, q⟩
    have e : b = s1.heap.objs.size := by simpa using hb
    subst e
    exact I1.fpOk (Nat.le_refl _) (I1.hok.fresh (Nat.le_refl _))
  · subst e
    obtain ⟨t, rfl⟩ := r1
    cases ha : z.cps.all (· < 128)
    · exact wpAny_pyIter_wide ha (pi_one (tk := s1.toks) I1 _ (turn_str _ z t "str_iterator" (.inr rfl)) ⟨_, Heap.get?_push_size _ rfl, rfl, rfl⟩ q)
    · exact wpAny_pyIter_ascii ha (pi_one (tk := s1.toks) I1 _ (turn_str _ z t "str_ascii_iterator" (.inl rfl)) ⟨_, Heap.get?_push_size _ rfl, rfl, rfl⟩ q)
theorem walks_l {a : Addr} {ds : List D} : Walks c (Itl c.K a) [(.ref a, .lst ds)] ds := fun R O H w g => by
  have b := g _ List.mem_cons_self
  obtain ⟨a', vs, e, h, r⟩ : ∃ a' vs, V.ref a = V.ref a' ∧ SqL c.K H a' vs ∧ RepL c.K (cut H (O ++ (c.A ++ R))) vs ds := by
    cases b with
    | st h => cases h with | lst a b => exact ⟨_, _, rfl, Same.seq (fun b o e => (cut_some e).2) a, b⟩
    | ow o _ => cases o with | lst e b => exact ⟨_, _, rfl, .inl (.inl e), b⟩
  cases e
  refine ⟨⟨vs, h, Nat.le_of_eq r.length⟩, fun i d q => ?_⟩
  obtain ⟨x, hx, rx⟩ := r.get q
  refine ⟨⟨vs, x, h, hx⟩, fun y H' ⟨e, z⟩ => ?_⟩
  subst e
  have := z vs h
  rw [hx] at this
  cases this
  exact ⟨w.refl, rx⟩
theorem walks_t {a : Addr} {ds : List D} : Walks c (Itt c.K a) [(.ref a, .tup ds)] ds := fun R O H w g => by
  have b := g _ List.mem_cons_self
  obtain ⟨a', vs, e, h, r⟩ : ∃ a' vs, V.ref a = V.ref a' ∧ SqT c.K H a' vs ∧ RepL c.K (cut H (O ++ (c.A ++ R))) vs ds := by
    cases b with
    | st h => cases h with | tup a b => exact ⟨_, _, rfl, .inl (.inl (cut_some a).2), b⟩
    | ow o _ => cases o
  cases e
  refine ⟨⟨vs, h, Nat.le_of_eq r.length⟩, fun i d q => ?_⟩
  obtain ⟨x, hx, rx⟩ := r.get q
  refine ⟨⟨vs, x, h, hx⟩, fun y H' ⟨e, z⟩ => ?_⟩
  subst e
  have := z vs h
  rw [hx] at this
  cases this
  exact ⟨w.refl, rx⟩
theorem nb_of {md : Md} (h : (!isBr md) = true) : md ≠ .br := fun z => by rw [z] at h; cases h
theorem walks_s {x : Str} (ok : PyData.strOk x = true) : Walks c (Its x) [] (x.cps.toList.map fun n => .sc (.str ⟨#[n]⟩)) := fun R O H w _ => by
  refine ⟨by show x.cps.size ≤ _; rw [List.length_map, Array.length_toList]; exact Nat.le_refl _, fun i d q => ?_⟩
  rw [List.getElem?_map] at q
  cases e : x.cps[i]? with
  | none =>
    rw [Array.getElem?_toList, e] at q; cases q
  | some n =>
    rw [Array.getElem?_toList, e] at q; cases q
    obtain ⟨hi, en⟩ := Array.getElem?_eq_some_iff.mp e
    refine ⟨hi, fun y H' ⟨e1, m, e2, e3⟩ => ?_⟩
    rw [e] at e2
    cases e2
    subst e1 e3
    refine ⟨w.refl, .sc ?_⟩
    unfold PyData.strOk at ok
    rw [Array.all_eq_true] at ok
    have := ok i hi
    rw [en] at this
    show (#[n]).all _ = true
    simpa using this
theorem p_iseq {tg e : Expr} {te : Ex} (hK : X.K = c.K) (he : PE X e (lE c te)) : PI X tg e (lI c (i_seq te)) :=
  PIw (pi_seq he) fun σ H Q ⟨R, O, env, Q', r, t, k⟩ => ⟨R, O, env, _, r, t, fun d md q v H1 R1 s1 m => by
    have w1 := (r.step s1).toHW
    have b := m.rb w1
    rw [hK]
    unfold itemsQ at q
    split at q
    · obtain ⟨a, vs, rfl, h, _⟩ := b.lst
      exact .inl ⟨a, rfl, ⟨vs, h⟩, k _ _ q _ _ H1 R1 s1 (fun p z => by cases List.mem_singleton.mp z; exact b) (fun nb p z => by cases List.mem_singleton.mp z; exact m.stab (nb_of nb)) walks_l⟩
    · obtain ⟨a, vs, rfl, h, _⟩ := b.tup
      exact .inr (.inl ⟨a, rfl, ⟨vs, h⟩, k _ _ q _ _ H1 R1 s1 (fun p z => by cases List.mem_singleton.mp z; exact b) (fun nb p z => by cases List.mem_singleton.mp z; exact m.stab (nb_of nb)) walks_t⟩)
    · cases b.sc
      exact .inr (.inr ⟨_, rfl, k _ _ q _ [] H1 R1 s1 (fun p z => nomatch z) (fun nb p z => nomatch z) (walks_s b.ok)⟩)
    · exact q.elim⟩
def loopF (tg : Gx) (g : Sx) : List D → En → Os → Prop
  | [], env, E => E.nx env
  | d :: ds, env, E => tg d env fun e => g e { nx := fun e => loopF tg g ds e E, ct := fun e => loopF tg g ds e E, bk := E.nx, rt := E.rt, ro := E.ro }
def s_for (ti : Ix) (tg : Gx) (g : Sx) : Sx := fun env E => ti env fun ds b => b = true ∧ loopF tg g ds env E
theorem HW.unpin {g : List (V × D)} {R O : List Addr} {H : Hp} (w : HW (c.pin g) R O H) : HW c R O H := ⟨w.new, w.oR, w.keep, w.rsub, w.rnew, w.rok, w.aok, fun p h => w.pins p (List.mem_append_right _ h), w.ha⟩
theorem Rel.unpin {g : List (V × D)} {R O : List Addr} {σ : L2.St} {H : Hp} {env : En} (r : Rel (c.pin g) R O σ H env) : Rel c R O σ H env := ⟨r.toHW.unpin, r.len, r.sh, r.ow, r.inj, r.gh, r.ghd, r.ghu⟩
theorem FinO.unpin {g : List (V × D)} {env : En} {v : V} {d : D} {md : Md} {H : Hp} (h : FinO (c.pin g) env v d md H) : FinO c env v d md H := let ⟨R, O, w, g, m⟩ := h; ⟨R, O, w.unpin, g, m⟩
theorem Rel.pin {g : List (V × D)} {R O : List Addr} {σ : L2.St} {H : Hp} {env : En} (r : Rel c R O σ H env) (p : ∀ p ∈ g, Rep c.K (cut H (O ++ (c.A ++ R))) p.1 p.2) : Rel (c.pin g) R O σ H env :=
  ⟨⟨r.new, r.oR, r.keep, r.rsub, r.rnew, r.rok, r.aok, fun q h => (List.mem_append.mp h).elim (p q) (r.pins q), r.ha⟩, r.len, r.sh, r.ow, r.inj, r.gh, r.ghd, r.ghu⟩
theorem p_for {tg iter : Expr} {body : List Stmt} {pos : Pos} {ti : Ix} {tx : Gx} {g : Sx} {vs : List Nat} (hp : PassesOwn (model X.prog X.w) X.A X.env X.xe) (hc : X.calm = true) (hi : PI X tg iter (lI c ti)) (hg : ∀ c', PG X tg (lG (c.pin c') tx vs)) (hb : ∀ c', PSs X body (lS (c.pin c') g))
    (hs : ∀ x, foldedSetIterable iter X.env x = pure x := by intro _; rfl) : PS X (.For tg iter body [] pos) (lS c (s_for ti tx g)) := by
  refine ⟨fun pins s σ H E I h => ?_⟩
  -- the loop for each list of pins
  obtain ⟨R, O, env, E', r, t, o⟩ := h
  refine (ps_for (wi := lI c ti) (g := fun v σ H Q => ∃ g, lG (c.pin g) tx vs v σ H Q) (tb := fun E σ H => ∃ g', lS (c.pin g') g E σ H) hp hc hi ⟨fun pins s σ H v u Q I rv ⟨g', h⟩ => (hg g').run pins s σ H v u Q I rv h⟩ ⟨fun pins s σ H E I ⟨g', h⟩ => (hb g').run pins s σ H E I h⟩ hs).run pins s σ H E I ?_
  refine ⟨R, O, env, _, r, t, fun ds b ⟨eb, q⟩ J gp H1 R1 s1 rb st wk => ?_⟩
  refine ⟨fun i m σ H => ∃ R O env, Rel (c.pin gp) R O σ H env ∧ m = ds.length - i ∧ i ≤ ds.length ∧ loopF tx g (ds.drop i) env E', ⟨ds.length, R1, O, env, (r.step s1).pin (st eb), by simp, Nat.zero_le _, q⟩, ?_⟩
  rintro i m σ H ⟨R, O, env, r, rfl, hi, q⟩
  have w := r.toHW.unpin
  have gst : ∀ p ∈ gp, Rb c R O H p.1 p.2 := fun p z => .st (r.pins p (List.mem_append_left _ z))
  obtain ⟨stop, go⟩ := wk R O H w gst
  by_cases hlt : i < ds.length
  · obtain ⟨g1, g2⟩ := go i ds[i] (List.getElem?_eq_getElem hlt)
    refine .inr ⟨g1, fun σ' H' => ∃ R O env, Rel (c.pin gp) R O σ' H' env ∧ loopF tx g (ds.drop (i + 1)) env E', fun σ' H' ⟨R', O', e', r', z⟩ => ⟨ds.length - (i + 1), by omega, R', O', e', r', rfl, hlt, z⟩, fun x H' y => ?_⟩
    obtain ⟨s2, rx⟩ := g2 x H' y
    rw [List.drop_eq_getElem_cons hlt] at q
    exact ⟨gp, R, O, env, ds[i], _, r.step s2, rx, q, fun e' q' σ' r' _ => ⟨gp, R, O, e', _, r', q', ⟨fun e z R2 O2 σ2 H2 r2 => ⟨R2, O2, e, r2, z⟩, fun d md z v H2 ⟨R2, O2, w2, m2⟩ => o.rt d md z v H2 ⟨R2, O2, w2.unpin, m2⟩, fun e z R2 O2 σ2 H2 r2 => o.nx e z R2 O2 σ2 H2 r2.unpin, (fun e z R2 O2 σ2 H2 r2 => ⟨R2, O2, e, r2, z⟩), fun e d md z v H2 f => o.ro e d md z v H2 f.unpin⟩⟩⟩
  · have e : i = ds.length := by omega
    subst e
    rw [List.drop_length] at q
    exact .inl ⟨stop, o.nx env q R O σ H r.unpin⟩
end
end P
namespace P
open PySem PySem.Spec PyProof.Rows L2
def compF (tx : Gx) (tt : Tx) (te : Ex) (env : En) : List D → List D → (D → Md → Prop) → Prop
  | [], acc, Q => Q (.lst acc) .ow
  | d :: ds, acc, Q => tx d env fun e => tt e fun b => if b = true then te e fun y md => isBr md = false ∧ acc.length < sizeLine ∧ compF tx tt te env ds (acc ++ [y]) Q else compF tx tt te env ds acc Q
def wipeE (env : En) : List Nat → En
  | [] => env
  | v :: vs => (wipeE env vs).set v .no
def e_lc (ti : Ix) (tx : Gx) (tt : Tx) (te : Ex) (vs : List Nat) : Ex := fun env Q => ti env fun ds _ => compF tx tt te (wipeE env vs) ds [] Q
def t_yes : Tx := fun _ Q => Q true
section
variable {X : Cx} {c : Fc}
theorem wipe_wipe {σ : L2.St} {vs : List Nat} : wipe (L2.wipe σ vs) vs = wipe σ vs := by
  apply List.ext_getElem?
  intro j
  rw [wipe_get, wipe_get, wipe_length]
  by_cases z : j ∈ vs ∧ j < σ.length
  · rw [if_pos z, if_pos z]
  · rw [if_neg z, if_neg z]
theorem Rel.wipe {R O : List Addr} {σ : L2.St} {H : Hp} {env : En} (r : Rel c R O σ H env) : ∀ vs : List Nat, Rel c R O (L2.wipe σ vs) H (wipeE env vs)
  | [] => r
  | v :: vs => (Rel.wipe r vs).setNo
theorem p_tyes : PTs X [] (lT c t_yes) := ⟨fun pins s σ H Q I ⟨R, O, env, Q', r, t, k⟩ => pts_nil.run pins s σ H Q I (k true t H R r.toHW.refl)⟩
theorem p_tsone {e : Expr} {tt : Tx} (h : PT X e (lT c tt)) : PTs X [e] (lT c tt) := pts_one h
/-- an owned object that no name owns is changed -/
theorem HW.updO {R O : List Addr} {H : Hp} {p : Addr} {o : HO} (w : HW c R O H) (m : p ∈ O) (l : Loose o) : HW c R O (upd H p o) where
  new := w.new
  oR := w.oR
  keep := fun b u h n => by
    rw [upd_ne]
    · exact w.keep b u h n
    · rintro rfl
      rw [w.new b m] at h; cases h
  rsub := w.rsub
  rnew := w.rnew
  rok := fun a h => by
    obtain ⟨u, e, f⟩ := w.rok a h
    exact ⟨u, by rw [upd_ne (fun z => w.oR p m (by rw [← z]; exact h))]; exact e, f⟩
  aok := fun a h => by
    by_cases e : a = p
    · subst e; exact ⟨o, upd_same, l⟩
    · rw [upd_ne e]; exact w.aok a h
  pins := fun q h => by rw [cut_upd (List.mem_append_left _ m)]; exact w.pins q h
  ha := w.ha
theorem Rel.updO {R O : List Addr} {σ : L2.St} {H : Hp} {env : En} {p : Addr} {o : HO} (r : Rel c R O σ H env) (m : p ∈ O) (l : Loose o) (hp : ∀ (i : Nat) (d : D), env[i]? = some (.ow d) → σ[i]? ≠ some (some (V.ref p))) (hc : ∀ (i : Nat) (S : Sto), env[i]? = some (.gh S) → S p = none) : Rel c R O σ (upd H p o) env where
  toHW := r.toHW.updO m l
  len := r.len
  sh := fun i d h => by rw [cut_upd (List.mem_append_left _ m)]; exact r.sh i d h
  ow := fun i d h => by
    obtain ⟨a, e, ma, x⟩ := r.ow i d h
    refine ⟨a, e, ma, ?_⟩
    rw [cut_upd (List.mem_append_left _ m)]
    exact x.mono (fun _ _ z => z) fun u z => by
      rw [upd_ne]
      · exact z
      · rintro rfl
        exact hp i d h e
  inj := r.inj
  gh := fun i S h => by
    rw [cut_upd (List.mem_append_left _ m)]
    intro a d q
    obtain ⟨h1, h2⟩ := r.gh i S h a d q
    refine ⟨h1, h2.mono (fun _ _ z => z) fun u z => ?_⟩
    rw [upd_ne]
    · exact z
    · rintro rfl
      rw [hc i S h] at q; cases q
  ghd := r.ghd
  ghu := r.ghu
theorem loose_l (xs : List V) : Loose (.lst xs) := ⟨(fun _ z => by cases z), (fun _ _ z => by cases z)⟩
theorem Rel.own {R O : List Addr} {σ : L2.St} {H : Hp} {env : En} {p : Addr} {o : HO} (r : Rel c R O σ H env) (n : H p = none) (l : Loose o) : Rel c R (p :: O) σ (upd H p o) env := by
  have sm : Same (cut H (O ++ (c.A ++ R))) (cut (upd H p o) ((p :: O) ++ (c.A ++ R))) := HW.consSame (R := R) (O := O) n _
  refine ⟨r.toHW.own n l, r.len, fun i d h => ?_, fun i d h => ?_, r.inj, fun i S h => (r.gh i S h).mono sm (fun a u _ z => by rw [upd_ne (ne_of_none z n)]; exact z) fun _ _ _ m => List.mem_cons_of_mem _ m, r.ghd, r.ghu⟩
  · obtain ⟨v, a, b⟩ := r.sh i d h
    exact ⟨v, a, b.mono sm⟩
  · obtain ⟨a, e, m, x⟩ := r.ow i d h
    exact ⟨a, e, List.mem_cons_of_mem _ m, x.mono sm fun u z => by rw [upd_ne (ne_of_none z n)]; exact z⟩
/-- .. not at N -/
inductive RbX (c : Fc) (R O : List Addr) (H : Hp) (N : Addr) : V → D → Prop
  | st {v : V} {d : D} : Rep c.K (cut H (O ++ (c.A ++ R))) v d → RbX c R O H N v d
  | ow {a : Addr} {d : D} : Own c.K H (cut H (O ++ (c.A ++ R))) a d → a ∉ R → a ≠ N → RbX c R O H N (.ref a) d
theorem RbX.rb {R O : List Addr} {H : Hp} {N : Addr} {v : V} {d : D} (b : RbX c R O H N v d) : Rb c R O H v d := by
  cases b with
  | st h => exact .st h
  | ow x m _ => exact .ow x m
theorem Rb.x {R O : List Addr} {H : Hp} {p : Addr} {o : HO} {v : V} {d : D} (b : Rb c R O H v d) (n : H p = none) : RbX c R (p :: O) (upd H p o) p v d := by
  have sm : Same (cut H (O ++ (c.A ++ R))) (cut (upd H p o) ((p :: O) ++ (c.A ++ R))) := HW.consSame (R := R) (O := O) n _
  cases b with
  | st h => exact .st (h.mono sm)
  | ow x m =>
    obtain ⟨u, e, _⟩ := x.there
    exact .ow (x.mono sm fun u z => by rw [upd_ne (ne_of_none z n)]; exact z) m (ne_of_none e n)
theorem RbX.upd {R O : List Addr} {H : Hp} {p : Addr} {o : HO} {v : V} {d : D} (b : RbX c R O H p v d) (m : p ∈ O) : RbX c R O (upd H p o) p v d := by
  cases b with
  | st h => exact .st (by rw [cut_upd (List.mem_append_left _ m)]; exact h)
  | ow x mr ne =>
    refine .ow ?_ mr ne
    rw [cut_upd (List.mem_append_left _ m)]
    exact x.mono (fun _ _ z => z) fun u z => by rw [upd_ne ne]; exact z
theorem RbX.step {R R' O : List Addr} {H H' : Hp} {N : Addr} {v : V} {d : D} (w : HW c R O H) (s : Stp c.Φ R R' H H') (h : RbX c R O H N v d) : RbX c R' O H' N v d := by
  cases h with
  | st h => exact .st (h.mono (w.cutSame s))
  | ow o m ne =>
    rename_i a
    refine .ow (o.mono (w.cutSame s) fun u q => s.same a u q m) (fun z => ?_) ne
    obtain ⟨u, q, _⟩ := o.there
    rcases s.new a z with z | z
    · exact m z
    · rw [z] at q; cases q
structure LcInv (c : Fc) (σ : L2.St) (env : En) (O R1 : List Addr) (H1 : Hp) (Dd : Addr) (gp : List (V × D)) (acc : List D) (R : List Addr) (H : Hp) : Prop where
  rel : Rel c R (Dd :: O) σ H env
  rb : ∀ p ∈ gp, RbX c R (Dd :: O) H Dd p.1 p.2
  stp : Stp c.Φ R1 R H1 H
  own : Own c.K H (cut H (Dd :: (O ++ (c.A ++ R)))) Dd (.lst acc)
theorem LcInv.step {σ : L2.St} {env : En} {O R1 : List Addr} {H1 : Hp} {Dd : Addr} {gp : List (V × D)} {acc : List D} {R R' : List Addr} {H H' : Hp} (l : LcInv c σ env O R1 H1 Dd gp acc R H) (s : Stp c.Φ R R' H H') : LcInv c σ env O R1 H1 Dd gp acc R' H' :=
  ⟨l.rel.step s, fun p h => (l.rb p h).step l.rel.toHW s, l.stp.trans s, l.own.mono (l.rel.toHW.cutSame s) fun u z => s.same Dd u z (l.rel.oR Dd List.mem_cons_self)⟩
theorem LcInv.app {σ : L2.St} {env : En} {O R1 : List Addr} {H1 : Hp} {Dd : Addr} {gp : List (V × D)} {acc : List D} {R : List Addr} {H : Hp} {vs : List V} {y : V} {d : D} (l : LcInv c σ env O R1 H1 Dd gp acc R H)
    (hp : ∀ (i : Nat) (d : D), env[i]? = some (.ow d) → σ[i]? ≠ some (some (V.ref Dd))) (hc : ∀ (i : Nat) (S : Sto), env[i]? = some (.gh S) → S Dd = none) (n1 : H1 Dd = none) (e : H Dd = some (.lst vs)) (r : RepL c.K (cut H (Dd :: (O ++ (c.A ++ R)))) vs acc) (ry : Rep c.K (cut H (Dd :: (O ++ (c.A ++ R)))) y d) :
    LcInv c σ env O R1 H1 Dd gp (acc ++ [d]) R (upd H Dd (.lst (vs ++ [y]))) := by
  refine ⟨l.rel.updO List.mem_cons_self (loose_l _) hp hc, fun p h => (l.rb p h).upd List.mem_cons_self, ⟨fun b u h m => ?_, l.stp.sub, l.stp.new, (l.rel.toHW.updO List.mem_cons_self (loose_l _)).rok⟩, .lst upd_same ?_⟩
  · rw [upd_ne (ne_of_none h n1)]
    exact l.stp.same b u h m
  · rw [cut_upd List.mem_cons_self]
    exact r.append (.cons ry .nil)
theorem lc_l {ti : Ix} {tx : Gx} {tt : Tx} {te : Ex} {vs : List Nat} {σ : L2.St} {H : Hp} {Q : VK} (h : lE c (e_lc ti tx tt te vs) σ H Q) : tLc (lI c ti) (lG c tx vs) (lT c tt) (lE c te) vs σ H Q := by
  obtain ⟨R, O, env, Q', r, t, k⟩ := h
  refine ⟨R, O, env, _, r, t, fun ds b q J gp H1 R1 s1 rb st wk Dd nD => ?_⟩
  have r1 := r.step s1
  have fr := r1.toHW.fresh nD
  have fO : Dd ∉ O := fun z => fr (List.mem_append_left _ z)
  have rw0 := (r1.wipe vs).own (o := .lst []) nD (loose_l [])
  have hp : ∀ (i : Nat) (d : D), (wipeE env vs)[i]? = some (.ow d) → (L2.wipe σ vs)[i]? ≠ some (some (V.ref Dd)) := fun i d h z => by
    obtain ⟨a, e, m, x⟩ := (r1.wipe vs).ow i d h
    rw [z] at e
    have ea : Dd = a := V.ref.inj (Option.some.inj (Option.some.inj e))
    exact fO (ea ▸ m)
  have hc : ∀ (i : Nat) (S : Sto), (wipeE env vs)[i]? = some (.gh S) → S Dd = none := fun i S h => by
    cases z : S Dd with
    | none => rfl
    | some d => exact absurd ((r1.wipe vs).gh i S h Dd d z).1 fO
  refine ⟨fun i m H => ∃ R acc, m = ds.length - i ∧ i ≤ ds.length ∧ LcInv c (L2.wipe σ vs) (wipeE env vs) O R1 H1 Dd gp acc R H ∧ compF tx tt te (wipeE env vs) (ds.drop i) acc Q',
    ⟨ds.length, R1, [], by simp, Nat.zero_le _, ⟨rw0, fun p h => (rb p h).x nD, Stp.alloc s1.rok nD, .lst upd_same .nil⟩, q⟩, ?_⟩
  rintro i m H ⟨R2, acc, rfl, hi, L, q⟩
  obtain ⟨stop, go⟩ := wk R2 (Dd :: O) H L.rel.toHW fun p h => (L.rb p h).rb
  by_cases hlt : i < ds.length
  · obtain ⟨g1, g2⟩ := go i ds[i] (List.getElem?_eq_getElem hlt)
    rw [List.drop_eq_getElem_cons hlt] at q
    refine .inr ⟨g1, fun H' => ∃ R acc, LcInv c (L2.wipe σ vs) (wipeE env vs) O R1 H1 Dd gp acc R H' ∧ compF tx tt te (wipeE env vs) (ds.drop (i + 1)) acc Q', fun H' ⟨R', acc', L', q'⟩ => ⟨ds.length - (i + 1), by omega, R', acc', rfl, hlt, L', q'⟩, fun x H' y => ?_⟩
    obtain ⟨s2, rx⟩ := g2 x H' y
    have LL2 := L.step s2
    refine ⟨R2, Dd :: O, wipeE env vs, ds[i], _, LL2.rel, rx, q, fun e' q' σ' r' w => ⟨w.trans wipe_wipe, R2, Dd :: O, e', _, r', q', fun b q2 H3 R3 s3 => ?_⟩⟩
    have L3 := LL2.step s3
    cases b with
    | false =>
      rw [if_neg Bool.false_ne_true] at q2
      exact iteF ⟨R3, acc, L3, q2⟩
    | true =>
      rw [if_pos rfl] at q2
      refine iteT ?_
      refine ⟨R3, Dd :: O, e', _, r'.step s3, q2, fun d md ⟨nb, la, q3⟩ v H4 R4 s4 m4 => ?_⟩
      have L4 := L3.step s4
      have ry := m4.stab fun z => by rw [z] at nb; cases nb
      cases L4.own with
      | lst e ra => exact ⟨_, e, by rw [ra.length]; exact la, R4, _, L4.app hp hc nD e ra ry, q3⟩
  · have e : i = ds.length := by omega
    subst e
    rw [List.drop_length] at q
    have fr2 := fr
    simp only [List.mem_append, not_or] at fr2
    refine .inl ⟨stop, k _ _ q _ H R2 (s1.trans L.stp) ⟨Dd, rfl, Stp.nn r.rok s1 nD, fO, fr2.2.1, L.rel.oR Dd List.mem_cons_self, L.own⟩⟩
theorem p_lc {elt tg iter : Expr} {ifs : List Expr} {scope : Scope} {own : List (Str × Nat)} {pos : Pos} {ti : Ix} {tx : Gx} {tt : Tx} {te : Ex} (hc : X.calm = true) (hN : X.N.Nodup) (hi : PI X tg iter (lI c ti)) (ok : BlkOk X.N X.env.scope scope own)
    (hg : ∀ (s : Shared) (H : Hp) (C : Addr) (cl : List (Str × Addr)) (fp : List Addr), PG (X.blk s H scope (compEnvC scope cl C X.env) fp) tg (lG c tx (own.map (·.2)))) (ht : ∀ (s : Shared) (H : Hp) (C : Addr) (cl : List (Str × Addr)) (fp : List Addr), PTs (X.blk s H scope (compEnvC scope cl C X.env) fp) ifs (lT c tt))
    (he : ∀ (s : Shared) (H : Hp) (C : Addr) (cl : List (Str × Addr)) (fp : List Addr), PE (X.blk s H scope (compEnvC scope cl C X.env) fp) elt (lE c te)) (hs : ∀ x, foldedSetIterable iter X.env x = pure x := by intro _; rfl) :
    PE X (.ListComp elt [⟨tg, iter, ifs, 0⟩] scope pos) (lE c (e_lc ti tx tt te (own.map (·.2)))) :=
  PEw (pe_lc hc hN hi ok hg ht he hs) fun σ H Q h => lc_l h
end
end P
namespace P
open PySem PySem.Spec PyProof.Rows L2
/-- what a def is worth: its arguments, what is wanted of its value -/
abbrev Ct := List D → (D → Md → Prop) → Prop
def ctx (K : PySem.W.Frag) (Φ : HO → Prop) (hΦ : ∀ o, Φ o → Loose o) (H : Hp) (R A : List Addr) (ex : Value → List (Str × D) → Prop) : Fc := ⟨K, Φ, hΦ, H, R, A, [], ex⟩
def noX : Value → List (Str × D) → Prop := fun _ _ => False
/-- the promise -/
def spP (K : PySem.W.Frag) (Φ : HO → Prop) (hΦ : ∀ o, Φ o → Loose o) (n : Nat) (C : Ct) : Sp := fun vs H Q _ => vs.length = n ∧ ∃ (R A : List Addr) (ds : List D) (Q' : D → Md → Prop),
  (∀ a ∈ R, ∃ o, H a = some o ∧ Φ o) ∧ (∀ a ∈ A ++ R, ∃ o, H a = some o ∧ Loose o) ∧ RepL K (cut H (A ++ R)) vs ds ∧ C ds Q' ∧
  ∀ d md, Q' d md → ∀ v H' R', Stp Φ R R' H H' → RM (ctx K Φ hΦ H R A noX) H R' [] H' v d md → Q v H'
def startE (N : List Str) (ds : List D) : En := ds.map Sl.sh ++ List.replicate (N.length - ds.length) Sl.no
def osOf (Q : D → Md → Prop) : Os := ⟨fun _ => Q (.sc .non) .st, Q, fun _ => False, fun _ => False, fun _ _ _ => False⟩
theorem start_rel {K : PySem.W.Frag} {Φ : HO → Prop} {hΦ : ∀ o, Φ o → Loose o} {H : Hp} {R A : List Addr} {N : List Str} {vs : List V} {ds : List D} {ex : Value → List (Str × D) → Prop} (h1 : ∀ a ∈ R, ∃ o, H a = some o ∧ Φ o) (h2 : ∀ a ∈ A ++ R, ∃ o, H a = some o ∧ Loose o) (h3 : RepL K (cut H (A ++ R)) vs ds) :
    Rel (ctx K Φ hΦ H R A ex) R [] (L2.start N vs) H (startE N ds) := by
  have hl := h3.length
  have nogh : ∀ (i : Nat) (S : Sto), (startE N ds)[i]? = some (.gh S) → False := fun i S q => by
    unfold startE at q
    rcases List.mem_append.mp (List.mem_of_getElem? q) with z | z
    · obtain ⟨_, _, e⟩ := List.mem_map.mp z; cases e
    · cases List.eq_of_mem_replicate z
  refine ⟨⟨(fun _ z => nomatch z), (fun _ z => nomatch z), fun b o e _ => e, fun _ z => z, fun _ z => .inl z, h1, h2, (fun _ z => nomatch z), fun a z => ?_⟩, ?_, fun i d q => ?_, fun i d q => ?_, fun i j d e a q => ?_, fun i S q => (nogh i S q).elim, fun i j S a d e q => (nogh i S q).elim, fun i j S T q => (nogh i S q).elim⟩
  · obtain ⟨o, e, _⟩ := h2 a (List.mem_append_left _ z)
    show H a ≠ none
    rw [e]; intro z; cases z
  · simp [L2.start, startE, hl]
  · unfold startE at q
    by_cases hi : i < ds.length
    · rw [List.getElem?_append_left (by simpa using hi), List.getElem?_map] at q
      cases e : ds[i]? with
      | none => rw [e] at q; cases q
      | some d' =>
        rw [e] at q
        cases q
        obtain ⟨v, hv, r⟩ := h3.get e
        refine ⟨v, ?_, r⟩
        unfold L2.start
        rw [List.getElem?_append_left (by simpa [hl] using hi), List.getElem?_map, hv]
        rfl
    · rw [List.getElem?_append_right (by simpa using Nat.le_of_not_lt hi)] at q
      have := List.mem_of_getElem? q
      have := List.eq_of_mem_replicate this
      cases this
  · unfold startE at q
    rcases List.mem_append.mp (List.mem_of_getElem? q) with z | z
    · obtain ⟨_, _, e⟩ := List.mem_map.mp z; cases e
    · cases List.eq_of_mem_replicate z
  · unfold startE at q
    rcases List.mem_append.mp (List.mem_of_getElem? q) with z | z
    · obtain ⟨_, _, e⟩ := List.mem_map.mp z; cases e
    · cases List.eq_of_mem_replicate z
theorem HW.stp {c : Fc} {R O : List Addr} {H : Hp} (w : HW c R O H) : Stp c.Φ c.R0 R c.H0 H := ⟨w.keep, w.rsub, w.rnew, w.rok⟩
/-- the reading of a body, for its promise -/
theorem body_l {K : PySem.W.Frag} {Φ : HO → Prop} {hΦ : ∀ o, Φ o → Loose o} {H : Hp} {R A : List Addr} {N : List Str} {vs : List V} {ds : List D} {Q' : D → Md → Prop} {Q : VK} {g : Sx} {ex : Value → List (Str × D) → Prop} {E' : Ends} (h1 : ∀ a ∈ R, ∃ o, H a = some o ∧ Φ o) (h2 : ∀ a ∈ A ++ R, ∃ o, H a = some o ∧ Loose o) (h3 : RepL K (cut H (A ++ R)) vs ds)
    (k : ∀ d md, Q' d md → ∀ v H' R', Stp Φ R R' H H' → RM (ctx K Φ hΦ H R A ex) H R' [] H' v d md → Q v H') (q : g (startE N ds) (osOf Q')) (en : E' = { nx := fun _ H' => Q .non H', rt := Q }) : lS (ctx K Φ hΦ H R A ex) g E' (L2.start N vs) H := by
  subst en
  refine ⟨R, [], startE N ds, osOf Q', start_rel h1 h2 h3, q, ⟨fun env z R' O σ H' r => ?_, fun d md z v H' ⟨R', O, w, m⟩ => k d md z v H' R' w.stp m, fun _ z => z.elim, (fun _ z => z.elim), fun _ _ _ z => z.elim⟩⟩
  exact k _ _ z .non H' R' r.toHW.stp (.sc rfl)
section
variable {X : Cx} {c : Fc}
def D.immIn : D → Bool
  | .lst ds => D.imm.immL ds
  | .dic _ ds => D.imm.immL ds
  | .dit _ ds => D.imm.immL ds
  | .ins _ _ ds => D.imm.immL ds
  | _ => false
def flatR (d : D) (md : Md) : Bool := d.imm || (match md with | .ow => d.immIn | _ => false)
theorem HW.tupK {R O : List Addr} {H : Hp} (w : HW c R O H) {B : List Addr} : ∀ a xs, cut H B a = some (.tup xs) → cut H (O ++ (c.A ++ R)) a = some (.tup xs) := fun a xs h => by
  obtain ⟨_, e⟩ := cut_some h
  rw [cut_out]
  · exact e
  · intro z
    obtain ⟨o, e', l⟩ := w.aok a z
    rw [e] at e'; cases e'
    exact l.1 _ rfl
theorem RM.flat {H : Hp} {R' O : List Addr} {H' : Hp} {v : V} {d : D} {md : Md} {c0 : Fc} (hK : c0.K = c.K) (w : HW c R' O H') (h : RM c0 H R' [] H' v d md) (n : ∀ a, H a = none → a ∉ O ++ (c.A ++ R') ∨ a ∈ R') (f : flatR d md = true) : RM c H R' O H' v d md := by
  cases md with
  | st =>
    have h' : Rep c0.K (cut H' ([] ++ (c0.A ++ R'))) v d := h
    rw [hK] at h'
    exact Rep.imm (w.tupK) (by simpa [flatR] using f) h'
  | br => obtain ⟨a, _, m, _⟩ := h; cases m
  | ow =>
    obtain ⟨a, e, ha, nO, nA, nR, o⟩ := h
    rw [hK] at o
    have nn : a ∉ O ++ (c.A ++ R') := (n a ha).elim id fun z => absurd z nR
    have nn' := nn
    simp only [List.mem_append, not_or] at nn'
    have tk : ∀ b xs, cut H' (a :: ([] ++ (c0.A ++ R'))) b = some (.tup xs) → cut H' (a :: (O ++ (c.A ++ R'))) b = some (.tup xs) := fun b xs q => by
      obtain ⟨m, e⟩ := cut_some (w.tupK b xs q)
      obtain ⟨u, eu, lu⟩ := o.there
      rw [cut_out]
      · exact e
      · intro z
        rcases List.mem_cons.mp z with z | z
        · rw [z, eu] at e; cases e; exact lu.1 _ rfl
        · exact m z
    refine ⟨a, e, ha, nn'.1, nn'.2.1, nn'.2.2, ?_⟩
    cases o with
    | lst x y => exact .lst x (y.imm tk (by simpa [flatR, D.imm, D.immIn] using f))
    | dic x y z => exact .dic x y (z.imm tk (by simpa [flatR, D.imm, D.immIn] using f))
    | dit x y z => exact .dit x y (z.imm tk (by simpa [flatR, D.imm, D.immIn] using f))
    | ins x y z => exact .ins x y (z.imm tk (by simpa [flatR, D.imm, D.immIn] using f))
/-- a call by its contract -/
def e_call (n : Nat) (C : Ct) (ta : Ax) : Ex := fun env Q => ta env fun ps => ps.length = n ∧ C (ps.map (·.1)) fun d md => (brs ps = true → flatR d md = true) ∧ Q d md
theorem RMs.read {R O : List Addr} {H Ha : Hp} {vs : List V} {ps : List (D × Md)} (w : HW c R O H) (h : RMs c Ha R O H vs ps) : RepL c.K (cut H ([] ++ R)) vs (ps.map (·.1)) := by
  induction h with
  | nil => exact .nil
  | @cons v vs p ps a b ih =>
    refine .cons ?_ ih
    have sm : Same (cut H (O ++ (c.A ++ R))) (cut H ([] ++ R)) := cut_sub fun b m => List.mem_append_right _ (List.mem_append_right _ m)
    cases a.rb w with
    | st h => exact h.mono sm
    | ow o m => exact o.rep sm fun u z => by rw [cut_out (by simpa using m)]; exact z
theorem call_l {n : Nat} {C : Ct} {E : XK} {ta : Ax} {σ : L2.St} {H : Hp} {Q : VK} (h : lE c (e_call n C ta) σ H Q) : tCall (spP c.K c.Φ c.hΦ n C) [] E (lA c ta) σ H Q := by
  obtain ⟨R, O, env, Q', r, t, k⟩ := h
  refine ⟨R, O, env, _, r, t, fun ps ⟨hl, q⟩ vs H1 R1 s1 m => ?_⟩
  have w1 := (r.step s1).toHW
  show spP c.K c.Φ c.hΦ n C (vs ++ []) H1 Q E
  rw [List.append_nil]
  refine ⟨m.length.trans hl, R1, ?_⟩
  by_cases b : brs ps = true
  · refine ⟨[], ps.map (·.1), _, s1.rok, fun a z => ?_, m.read w1, q, fun d md ⟨f, z⟩ v H' R' s m' => ?_⟩
    · obtain ⟨o, e, f⟩ := s1.rok a (by simpa using z)
      exact ⟨o, e, c.hΦ _ f⟩
    · have m2 : RM c H1 R' O H' v d md := RM.flat (c0 := ctx c.K c.Φ c.hΦ H1 R1 [] noX) rfl (w1.step s) m' (fun a ha => by
        by_cases mm : a ∈ R'
        · exact .inr mm
        · refine .inl fun z => ?_
          rcases List.mem_append.mp z with z | z
          · obtain ⟨u, e, _⟩ := w1.aok a (List.mem_append_left _ z); rw [ha] at e; cases e
          · rcases List.mem_append.mp z with z | z
            · obtain ⟨u, e, _⟩ := w1.aok a (List.mem_append_right _ (List.mem_append_left _ z)); rw [ha] at e; cases e
            · exact mm z) (f b)
      exact k d md z v H' R' (s1.trans s) (m2.ahead fun a z => Stp.nn r.rok s1 z)
  · have b' : brs ps = false := by cases h : brs ps <;> first | rfl | exact absurd h b
    have e2 : ∀ R', (O ++ c.A) ++ R' = O ++ (c.A ++ R') := fun R' => List.append_assoc _ _ _
    refine ⟨O ++ c.A, ps.map (·.1), _, s1.rok, fun a z => w1.aok a (by rw [← e2]; exact z), by rw [e2]; exact m.stab b', q, fun d md ⟨f, z⟩ v H' R' s m' => ?_⟩
    have m2 : RM c H1 R' O H' v d md := by
      cases md with
      | st =>
        have h' : Rep c.K (cut H' ([] ++ ((O ++ c.A) ++ R'))) v d := m'
        rw [List.nil_append, e2] at h'
        exact h'
      | br => obtain ⟨a, _, mm, _⟩ := m'; cases mm
      | ow =>
        obtain ⟨a, e, ha, _, nA, nR, o⟩ := m'
        have nA' : a ∉ O ++ c.A := nA
        simp only [List.mem_append, not_or] at nA'
        have o' : Own c.K H' (cut H' (a :: ([] ++ ((O ++ c.A) ++ R')))) a d := o
        rw [List.nil_append, e2] at o'
        exact ⟨a, e, ha, nA'.1, nA'.2, nR, o'⟩
    exact k d md z v H' R' (s1.trans s) (m2.ahead fun a z => Stp.nn r.rok s1 z)
theorem p_call {n : Nat} {C : Ct} {k : Nat} {f : Addr} {fd : FuncData} {ps : List Str} {x : Str} {p pos : Pos} {e : Expr} {es : List Expr} {ta : Ax} (hK : X.K = c.K) (F : FnOk X.prog X.w X.K X.mg X.base CX0 k f fd ps (spP X.K c.Φ c.hΦ n C)) (hr : Room k X.A) (hg : Gl X x) (hm : X.mg x = some (.ref f)) (hk : PySem.W.keepIn X.K (.ref f) = true) (hb : Binds X.K fd ps [])
    (ha : PA X (e :: es) (lA c ta)) (hdb : (x == ("__debug__" : Str)) = false := by decide) (he : starEach (e :: es) X.env = (false, eval e X.env) :: starEach es X.env := by rfl) (hpl : (backTo pos (starEach es X.env)).any (·.1) = false := by rfl) : PE X (.Call (.Name x p) (e :: es) [] pos) (lE c (e_call n C ta)) :=
  PEw (pe_call F hr hg hm hk hb .nil pass0 ha hdb he hpl) fun σ H Q h => by rw [hK]; exact call_l h
end
section
variable {P' : Program} {w : World} {K : PySem.W.Frag} {mg : Str → Option Value} {base : Heap} {Φ : HO → Prop} {hΦ : ∀ o, Φ o → Loose o}
/-- THE RULE for a def without exceptions -/
theorem fn {x qual : Str} {st : Stmt} {f : Addr} {fd : FuncData} {N ps : List Str} {k : Nat} {C : Ct} (F : Fun K x qual st f fd) (S : FnScope N ps (defScope st))
    (hbody : ∀ (cdv : Value) (A : Around) (outer : List Env) (s : Shared) (H : Hp) (R Ao : List Addr) (E : XK), Room k (A.deeper (envOfC qual (defScope st) s.heap.objs.size f cdv)) →
      ∃ g, PSs (cxOf CX0 P' w K mg base N qual (defScope st) f cdv A outer s H E).nox (defBody st) (lS (ctx K Φ hΦ H R Ao noX) g) ∧ ∀ ds Q, C ds Q → g (startE N ds) (osOf Q)) : FnOk P' w K mg base CX0 (k + 1) f fd ps (spP K Φ hΦ ps.length C) := by
  refine F.ok S (fun vs H Q E h => h.1) fun cdv A outer s H vs Q E hr h => ?_
  obtain ⟨hl, R, Ao, ds, Q', h1, h2, h3, hc, k⟩ := h
  obtain ⟨g, hg, hq⟩ := hbody cdv A outer s H R Ao E hr
  exact ⟨_, hg, body_l h1 h2 h3 k (hq ds Q' hc) rfl⟩
end
end P
namespace P
open PySem PySem.Spec PyProof.Rows L2
def D.py : D → PyData
  | .sc (.bl b) => .bool b
  | .sc (.int i) => .int i
  | .sc (.str x) => .str x
  | .sc _ => .none
  | .tup ds => .tuple (pyL ds)
  | .lst ds => .list (pyL ds)
  | _ => .none
where pyL : List D → List PyData
  | [] => []
  | d :: ds => d.py :: pyL ds
def flatS : V → Bool
  | .non => true
  | .bl _ => true
  | .int _ => true
  | .str _ => true
  | _ => false
def D.plain : D → Bool
  | .sc v => flatS v
  | .tup ds => plainL ds
  | .lst ds => plainL ds
  | _ => false
where plainL : List D → Bool
  | [] => true
  | d :: ds => d.plain && plainL ds
def D.dep : D → Nat
  | .tup ds => depL ds + 1
  | .lst ds => depL ds + 1
  | _ => 0
where depL : List D → Nat
  | [] => 0
  | d :: ds => max d.dep (depL ds)
def eqD (d e : D) : Bool := PyData.eqv d.py e.py
section
variable {K : PySem.W.Frag} {Z : Hp}
mutual
theorem Rep.dp : ∀ {d : D} {v : V}, d.plain = true → Rep K Z v d → Dp K Z v d.py ∧ d.py.canLay0 = true
  | .sc v, _, p, h => by
    cases h with
    | sc o =>
      cases v with
      | non => exact ⟨.non, rfl⟩
      | bl b => exact ⟨.bl b, rfl⟩
      | int i => exact ⟨.int i, rfl⟩
      | str x => exact ⟨.str x, by simpa [D.py, PyData.canLay0] using (show PyData.strOk x = true from o)⟩
      | _ => cases p
  | .tup ds, _, p, h => by
    cases h with
    | tup a b =>
      obtain ⟨q, r⟩ := RepL.dp (by simpa [D.plain] using p) b
      exact ⟨.tup (.inl (.inl a)) q, by simpa [D.py, PyData.canLay0] using r⟩
  | .lst ds, _, p, h => by
    cases h with
    | lst a b =>
      obtain ⟨q, r⟩ := RepL.dp (by simpa [D.plain] using p) b
      exact ⟨.lst a q, by simpa [D.py, PyData.canLay0] using r⟩
  | .ktp _, _, p, _ => by cases p
  | .dic _ _, _, p, _ => by cases p
  | .dit _ _, _, p, _ => by cases p
  | .exc _ _ _, _, p, _ => by cases p
  | .cls _, _, p, _ => by cases p
  | .ob _, _, p, _ => by cases p
  | .ins _ _ _, _, p, _ => by cases p
theorem RepL.dp : ∀ {ds : List D} {vs : List V}, D.plain.plainL ds = true → RepL K Z vs ds → DpAll K Z vs (D.py.pyL ds) ∧ PyData.canLayAll0 (D.py.pyL ds) = true
  | [], _, _, h => by cases h; exact ⟨.nil, rfl⟩
  | d :: ds, _, p, h => by
    simp only [D.plain.plainL, Bool.and_eq_true] at p
    cases h with
    | cons a b =>
      obtain ⟨q1, r1⟩ := Rep.dp p.1 a
      obtain ⟨q2, r2⟩ := RepL.dp p.2 b
      exact ⟨.cons q1 q2, by simp [D.py.pyL, PyData.canLayAll0, r1, r2]⟩
end
mutual
theorem Dp.mono {Z' : Hp} (s : Same Z Z') : ∀ {d : PyData} {v : V}, Dp K Z v d → Dp K Z' v d
  | _, _, .non => .non
  | _, _, .bl b => .bl b
  | _, _, .int i => .int i
  | _, _, .str x => .str x
  | _, _, .lst a b => .lst (Same.sqL s a) (DpAll.mono s b)
  | _, _, .tup a b => .tup (Same.sqT s a) (DpAll.mono s b)
theorem DpAll.mono {Z' : Hp} (s : Same Z Z') : ∀ {ds : List PyData} {vs : List V}, DpAll K Z vs ds → DpAll K Z' vs ds
  | _, _, .nil => .nil
  | _, _, .cons a b => .cons (Dp.mono s a) (DpAll.mono s b)
end
mutual
theorem py_depth : ∀ d : D, d.plain = true → d.py.depth = d.dep
  | .sc v, p => by cases v <;> first | rfl | cases p
  | .tup ds, p => by simp only [D.py, D.dep, PyData.depth]; rw [py_depthL ds (by simpa [D.plain] using p)]
  | .lst ds, p => by simp only [D.py, D.dep, PyData.depth]; rw [py_depthL ds (by simpa [D.plain] using p)]
  | .ktp _, p => by cases p
  | .dic _ _, p => by cases p
  | .dit _ _, p => by cases p
  | .exc _ _ _, p => by cases p
  | .cls _, p => by cases p
  | .ob _, p => by cases p
  | .ins _ _ _, p => by cases p
theorem py_depthL : ∀ ds : List D, D.plain.plainL ds = true → PyData.depthAll (D.py.pyL ds) = D.dep.depL ds
  | [], _ => rfl
  | d :: ds, p => by
    simp only [D.plain.plainL, Bool.and_eq_true] at p
    simp only [D.py.pyL, D.dep.depL, PyData.depthAll]
    rw [py_depth d p.1, py_depthL ds p.2]
end
end
section
variable {X : Cx} {c : Fc}
theorem Rb.dp {R O : List Addr} {H : Hp} {v : V} {d : D} (b : Rb c R O H v d) (p : d.plain = true) : Dp c.K H v d.py ∧ d.py.canLay0 = true := by
  have sm : Same (cut H (O ++ (c.A ++ R))) H := fun b o e => (cut_some e).2
  cases b with
  | st h =>
    obtain ⟨q, r⟩ := h.dp p
    exact ⟨Dp.mono sm q, r⟩
  | ow o _ =>
    cases o with
    | lst e r =>
      obtain ⟨q, s⟩ := RepL.dp (by simpa [D.plain] using p) r
      exact ⟨.lst (.inl (.inl e)) (DpAll.mono sm q), by simpa [D.py, PyData.canLay0] using s⟩
    | dic _ _ _ => cases p
    | dit _ _ _ => cases p
    | ins _ _ _ => cases p
theorem shaped_of {d : D} (p : d.plain = true) (l : d.py.canLay0 = true) (h : d.dep ≤ 64) : SeqAt.shaped d.py = true := by
  unfold SeqAt.shaped
  rw [l, py_depth d p]
  simpa using h
def eqQ (d e : D) (Q : D → Md → Prop) : Prop := d.plain = true ∧ e.plain = true ∧ d.dep ≤ 64 ∧ e.dep ≤ 64 ∧ Q (.sc (.bl (eqD d e))) .st
def neQ (d e : D) (Q : D → Md → Prop) : Prop := d.plain = true ∧ e.plain = true ∧ d.dep ≤ 64 ∧ e.dep ≤ 64 ∧ Q (.sc (.bl (!eqD d e))) .st
theorem OpL.eq (hK : X.K = c.K) : OpL c (rEqD X.K) eqQ := by
  intro R O H x y dx dy Q' Q w a b ⟨p1, p2, h1, h2, t⟩ k
  rw [hK]
  exact ⟨_, _, (a.dp p1).1, (b.dp p2).1, shaped_of p1 (a.dp p1).2 h1, shaped_of p2 (b.dp p2).2 h2, k _ _ t _ H R w.refl (.sc rfl)⟩
theorem OpL.ne (hK : X.K = c.K) : OpL c (rNeD X.K) neQ := by
  intro R O H x y dx dy Q' Q w a b ⟨p1, p2, h1, h2, t⟩ k
  rw [hK]
  exact ⟨_, _, (a.dp p1).1, (b.dp p2).1, shaped_of p1 (a.dp p1).2 h1, shaped_of p2 (b.dp p2).2 h2, k _ _ t _ H R w.refl (.sc rfl)⟩
def cmpQ (f : Int → Int → Bool) (g : Str → Str → Bool) (d e : D) (Q : D → Md → Prop) : Prop := match d, e with
  | .sc (.int i), .sc (.int j) => Q (.sc (.bl (f i j))) .st
  | .sc (.str i), .sc (.str j) => Q (.sc (.bl (g i j))) .st
  | _, _ => False
def rCmp (f : Int → Int → Bool) (g : Str → Str → Bool) : R2 := fun x y H Q => rI0 (fun i j => .bl (f i j)) x y H Q ∨ ∃ i j, x = .str i ∧ y = .str j ∧ Q (.bl (g i j)) H
theorem OpL.cmp {f : Int → Int → Bool} {g : Str → Str → Bool} : OpL c (rCmp f g) (cmpQ f g) := by
  intro R O H x y dx dy Q' Q w a b t k
  unfold cmpQ at t
  split at t
  · exact .inl ⟨_, _, a.sc, b.sc, k _ _ t _ H R w.refl (.sc rfl)⟩
  · exact .inr ⟨_, _, a.sc, b.sc, k _ _ t _ H R w.refl (.sc rfl)⟩
  · exact t.elim
theorem op_ltA : OpR X (compareOp .Lt) (rCmp (fun i j => decide (i < j)) fun i j => decide (i.cps.toList < j.cps.toList)) := OpR.or op_lt op_lt_str
theorem op_leA : OpR X (compareOp .LtE) (rCmp (fun i j => decide (i ≤ j)) fun i j => !decide (j.cps.toList < i.cps.toList)) := OpR.or op_le op_le_str
theorem op_gtA : OpR X (compareOp .Gt) (rCmp (fun i j => decide (j < i)) fun i j => decide (j.cps.toList < i.cps.toList)) := OpR.or op_gt op_gt_str
def isNon : D → Bool
  | .sc .non => true
  | _ => false
def isQ (neg : Bool) (d e : D) (Q : D → Md → Prop) : Prop := match d, e with
  | d, .sc .non => Q (.sc (.bl (neg != isNon d))) .st
  | .sc (.bl a), .sc (.bl b) => Q (.sc (.bl (neg != (a == b)))) .st
  | _, _ => False
end
end P
namespace P
open PySem PySem.Spec PyProof.Rows L2
def gVal {κ α : Type} [DecidableEq κ] (kvs : List (κ × α)) (k : κ) : Option α := (kvs.find? fun kv => decide (kv.1 = k)).map (·.2)
def gPut {κ α : Type} [DecidableEq κ] (kvs : List (κ × α)) (k : κ) (v : α) : List (κ × α) :=
  if (kvs.any fun kv => decide (kv.1 = k)) = true then kvs.map (fun kv => if kv.1 = k then (kv.1, v) else kv) else kvs ++ [(k, v)]
def dicOf (kvs : List (Key × D)) : D := .dic (kvs.map (·.1)) (kvs.map (·.2))
def ditOf (kvs : List (List Key × D)) : D := .dit (kvs.map (·.1)) (kvs.map (·.2))
def D.key : D → Option Key
  | .sc (.int i) => some (.inl i)
  | .sc (.str x) => some (.inr x)
  | _ => none
def D.keys : List D → Option (List Key)
  | [] => some []
  | d :: ds => match d.key, D.keys ds with
    | some k, some ks => some (k :: ks)
    | _, _ => none
def D.tkey : D → Option (List Key)
  | .tup ds => D.keys ds
  | _ => none
section
variable {K : PySem.W.Frag} {Z : Hp}
/-- pairs of a key and a value, both ways -/
theorem repKV {κ : Type} [DecidableEq κ] : ∀ {kvs : List (κ × V)} {ds : List D}, RepL K Z (kvs.map (·.2)) ds → ∀ k : κ, (valV kvs k = none ∧ gVal ((kvs.map (·.1)).zip ds) k = none) ∨ ∃ v d, valV kvs k = some v ∧ gVal ((kvs.map (·.1)).zip ds) k = some d ∧ Rep K Z v d
  | [], ds, h, k => by cases h; exact .inl ⟨rfl, rfl⟩
  | (k', v) :: r, ds, h, k => by
    cases h with
    | @cons _ _ d ds a b =>
      by_cases e : k' = k
      · exact .inr ⟨v, d, by simp [valV, e], by simp [gVal, e], a⟩
      · rcases repKV b k with ⟨h1, h2⟩ | ⟨v', d', h1, h2, h3⟩
        · exact .inl ⟨by rw [valV_neg e]; exact h1, by simp only [List.map_cons, List.zip_cons_cons, gVal, List.find?_cons, e, decide_false]; exact h2⟩
        · exact .inr ⟨v', d', by rw [valV_neg e]; exact h1, by simp only [List.map_cons, List.zip_cons_cons, gVal, List.find?_cons, e, decide_false]; exact h2, h3⟩
theorem repPut {κ : Type} [DecidableEq κ] {v : V} {d : D} (r : Rep K Z v d) (k : κ) : ∀ {kvs : List (κ × V)} {ds : List D}, RepL K Z (kvs.map (·.2)) ds → ((putK kvs k v).map (·.1) = (gPut ((kvs.map (·.1)).zip ds) k d).map (·.1)) ∧ RepL K Z ((putK kvs k v).map (·.2)) ((gPut ((kvs.map (·.1)).zip ds) k d).map (·.2)) := by
  have anyE : ∀ {kvs : List (κ × V)} {ds : List D}, RepL K Z (kvs.map (·.2)) ds → (kvs.any fun kv => decide (kv.1 = k)) = ((kvs.map (·.1)).zip ds).any fun kv => decide (kv.1 = k) := by
    intro kvs
    induction kvs with
    | nil => intro ds h; cases h; rfl
    | cons p q ih =>
      intro ds h
      cases h with
      | cons a b => simp only [List.map_cons, List.zip_cons_cons, List.any_cons]; rw [ih b]
  have fstE : ∀ {kvs : List (κ × V)} {ds : List D}, RepL K Z (kvs.map (·.2)) ds → kvs.map (·.1) = ((kvs.map (·.1)).zip ds).map (·.1) := by
    intro kvs
    induction kvs with
    | nil => intro ds h; cases h; rfl
    | cons p q ih =>
      intro ds h
      cases h with
      | cons a b => simp only [List.map_cons, List.zip_cons_cons]; rw [← ih b]
  have sndE : ∀ {kvs : List (κ × V)} {ds : List D}, RepL K Z (kvs.map (·.2)) ds → ((kvs.map (·.1)).zip ds).map (·.2) = ds := by
    intro kvs
    induction kvs with
    | nil => intro ds h; cases h; rfl
    | cons p q ih =>
      intro ds h
      cases h with
      | cons a b => simp only [List.map_cons, List.zip_cons_cons]; rw [ih b]
  intro kvs ds h
  unfold putK gPut
  rw [anyE h]
  by_cases c : (((kvs.map (·.1)).zip ds).any fun kv => decide (kv.1 = k)) = true
  · rw [if_pos c, if_pos c]
    have e1 : ∀ {α : Type} (l : List (κ × α)) (z : α), (l.map fun kv => if kv.1 = k then (kv.1, z) else kv).map (·.1) = l.map (·.1) := by
      intro α l z
      rw [List.map_map]
      apply List.map_congr_left
      intro a _
      show (if a.1 = k then (a.1, z) else a).1 = a.1
      split <;> rfl
    refine ⟨by rw [e1, e1]; exact fstE h, ?_⟩
    clear c
    induction kvs generalizing ds with
    | nil => cases h; exact .nil
    | cons p q ih =>
      cases h with
      | cons a b =>
        simp only [List.map_cons, List.zip_cons_cons]
        refine .cons ?_ (ih b)
        by_cases e : p.1 = k
        · rw [if_pos e, if_pos e]; exact r
        · rw [if_neg e, if_neg e]; exact a
  · rw [if_neg c, if_neg c]
    refine ⟨by rw [List.map_append, List.map_append, ← fstE h]; rfl, ?_⟩
    rw [List.map_append, List.map_append, sndE h]
    exact h.append (.cons r .nil)
end
section
variable {X : Cx} {c : Fc}
theorem Rb.dic {R O : List Addr} {H : Hp} {x : V} {ks : List Key} {ds : List D} (h : Rb c R O H x (.dic ks ds)) : ∃ a kvs, x = .ref a ∧ Rd H a (.dK kvs) ∧ kvs.map (·.1) = ks ∧ RepL c.K (cut H (O ++ (c.A ++ R))) (kvs.map (·.2)) ds := by
  cases h with
  | st h => cases h with | dic a e b => exact ⟨_, _, rfl, Same.rd (fun b o e => (cut_some e).2) a, e.1, b⟩
  | ow o _ => cases o with | dic e f b => exact ⟨_, _, rfl, .inl e, f.1, b⟩
theorem Rb.dit {R O : List Addr} {H : Hp} {x : V} {ks : List (List Key)} {ds : List D} (h : Rb c R O H x (.dit ks ds)) : ∃ a kvs, x = .ref a ∧ Rd H a (.dT kvs) ∧ kvs.map (·.1) = ks ∧ RepL c.K (cut H (O ++ (c.A ++ R))) (kvs.map (·.2)) ds := by
  cases h with
  | st h => cases h with | dit a e b => exact ⟨_, _, rfl, Same.rd (fun b o e => (cut_some e).2) a, e.1, b⟩
  | ow o _ => cases o with | dit e f b => exact ⟨_, _, rfl, .inl e, f.1, b⟩
theorem Rb.key {R O : List Addr} {H : Hp} {x : V} {d : D} {k : Key} (b : Rb c R O H x d) (e : d.key = some k) : x = kV k := by
  unfold D.key at e
  split at e
  · cases e; exact b.sc
  · cases e; exact b.sc
  · cases e
theorem keys_rep {Z : Hp} : ∀ {ds : List D} {vs : List V} {ks : List Key}, RepL c.K Z vs ds → D.keys ds = some ks → vs = ks.map kV
  | [], _, _, h, e => by cases h; cases e; rfl
  | d :: ds, _, _, h, e => by
    cases h with
    | @cons v vs _ _ a b =>
      unfold D.keys at e
      split at e
      · rename_i k ks h1 h2
        cases e
        rw [List.map_cons, ← keys_rep b h2]
        congr 1
        unfold D.key at h1
        split at h1
        · cases h1; cases a; rfl
        · cases h1; cases a; rfl
        · cases h1
      · cases e
theorem Rb.tkey {R O : List Addr} {H : Hp} {x : V} {d : D} {k : List Key} (b : Rb c R O H x d) (e : d.tkey = some k) : ∃ q, x = .ref q ∧ H q = some (.tup (k.map kV)) := by
  unfold D.tkey at e
  split at e
  · cases b with
    | st h =>
      cases h with
      | tup a r =>
        refine ⟨_, rfl, ?_⟩
        rw [← keys_rep r e]
        exact (cut_some a).2
    | ow o _ => cases o
  · cases e
/-- what is found at a key -/
def getQ (d k : D) (Q : Option D → Prop) : Prop := match d with
  | .dic ks ds => ∃ j, k.key = some j ∧ Q (gVal (ks.zip ds) j)
  | .dit ks ds => ∃ j, k.tkey = some j ∧ Q (gVal (ks.zip ds) j)
  | _ => False
theorem get_l {R O : List Addr} {H : Hp} {x y : V} {d k : D} {Q : Option D → Prop} (a : Rb c R O H x d) (b : Rb c R O H y k) (q : getQ d k Q) : ∃ p, x = .ref p ∧ IsD H p ∧ ∃ o o', DGet H p y o ∧ Q o' ∧ ((o = none ∧ o' = none) ∨ ∃ v z, o = some v ∧ o' = some z ∧ Rep c.K (cut H (O ++ (c.A ++ R))) v z) := by
  unfold getQ at q
  split at q
  · obtain ⟨j, e, q⟩ := q
    obtain ⟨p, kvs, rfl, h, ek, r⟩ := a.dic
    cases b.key e
    subst ek
    exact ⟨p, rfl, .inl ⟨_, h⟩, _, _, .inl ⟨kvs, j, h, rfl, rfl⟩, q, repKV r j⟩
  · obtain ⟨j, e, q⟩ := q
    obtain ⟨p, kvs, rfl, h, ek, r⟩ := a.dit
    obtain ⟨t, rfl, ht⟩ := b.tkey e
    subst ek
    exact ⟨p, rfl, .inr ⟨_, h⟩, _, _, .inr ⟨kvs, j, t, h, rfl, ht, rfl⟩, q, repKV r j⟩
  · exact q.elim
def subS (a b : Str) : Bool := !(Builtin.Str.occurrences b a 0 b.length 1).isEmpty
def inQ (neg : Bool) (x y : D) (Q : D → Md → Prop) : Prop := match y with
  | .lst ds => x.plain = true ∧ D.plain.plainL ds = true ∧ x.dep ≤ 64 ∧ D.dep.depL ds ≤ 63 ∧ Q (.sc (.bl (neg != ds.any fun z => eqD z x))) .st
  | .tup ds => x.plain = true ∧ x.dep = 0 ∧ D.plain.plainL ds = true ∧ D.dep.depL ds = 0 ∧ Q (.sc (.bl (neg != ds.any fun z => eqD z x))) .st
  | .ktp ds => x.plain = true ∧ x.dep = 0 ∧ D.plain.plainL ds = true ∧ D.dep.depL ds = 0 ∧ Q (.sc (.bl (neg != ds.any fun z => eqD z x))) .st
  | .sc (.str b) => (match x with | .sc (.str a) => Q (.sc (.bl (neg != subS a b))) .st | _ => False)
  | d => getQ d x fun o => Q (.sc (.bl (neg != o.isSome))) .st
def rInA (K : PySem.W.Frag) (neg : Bool) : R2 := fun x y H Q =>
  (∃ d ds, Dp K H x d ∧ Dp K H y (.list ds) ∧ SeqAt.shaped d = true ∧ SeqAt.shaped (.list ds) = true ∧ Q (.bl (neg != ds.any fun z => PyData.eqv z d)) H) ∨
  (∃ p xs, y = .ref p ∧ (SqL K H p xs ∨ SqT K H p xs) ∧ flatV x = true ∧ xs.all flatV = true ∧ Q (.bl (neg != inV x xs)) H) ∨
  (∃ i j, x = .str i ∧ y = .str j ∧ Q (.bl (neg != subS i j)) H) ∨
  (∃ a o, y = .ref a ∧ DGet H a x o ∧ Q (.bl (neg != o.isSome)) H)
theorem op_inA (hu : X.A.units + 65 < cLine) : OpR X (compareOp .In) (rInA X.K false) := by
  intro pins s σ H x y v u Q I rx ry h
  rcases h with ⟨d, ds, h1, h2, h3, h4, q⟩ | ⟨p, xs, h1, h2, h3, h4, q⟩ | ⟨i, j, h1, h2, q⟩ | ⟨a, o, rfl, g, q⟩
  · exact op_inD hu pins s σ H x y v u Q I rx ry ⟨d, ds, h1, h2, h3, h4, by simpa using q⟩
  · exact op_in_seq pins s σ H x y v u Q I rx ry ⟨p, xs, h1, h2, h3, h4, by simpa using q⟩
  · exact op_in_str pins s σ H x y v u Q I rx ry ⟨i, j, h1, h2, by simpa [subS] using q⟩
  · cases ry
    exact d_in (by omega) I g rx fun s' I' => ⟨.bl o.isSome, H, I', rfl, by simpa using q⟩
theorem op_notinA (hu : X.A.units + 65 < cLine) : OpR X (compareOp .NotIn) (rInA X.K true) := by
  intro pins s σ H x y v u Q I rx ry h
  have tb : ∀ b : Bool, (true != b) = !b := fun b => by cases b <;> rfl
  rcases h with ⟨d, ds, h1, h2, h3, h4, q⟩ | ⟨p, xs, h1, h2, h3, h4, q⟩ | ⟨i, j, h1, h2, q⟩ | ⟨a, o, rfl, g, q⟩
  · exact op_notInD hu pins s σ H x y v u Q I rx ry ⟨d, ds, h1, h2, h3, h4, by rw [tb] at q; exact q⟩
  · exact op_notIn_seq pins s σ H x y v u Q I rx ry ⟨p, xs, h1, h2, h3, h4, by rw [tb] at q; exact q⟩
  · exact op_notin_str pins s σ H x y v u Q I rx ry ⟨i, j, h1, h2, by rw [tb] at q; exact q⟩
  · cases ry
    exact d_notIn (by omega) I g rx fun s' I' => ⟨.bl (!o.isSome), H, I', rfl, by rw [tb] at q; exact q⟩
theorem eqV_flat : ∀ v u : V, flatS v = true → flatS u = true → eqV v u = eqD (.sc v) (.sc u) := by
  intro v u p q
  cases v <;> first | (exfalso; revert p; simp [flatS]; done) | (cases u <;> first | (exfalso; revert q; simp [flatS]; done) | simp [eqV, eqD, D.py, PyData.eqv])
theorem flatV_S {v : V} (h : flatS v = true) : flatV v = true := by cases v <;> first | rfl | (exfalso; revert h; simp [flatS]; done)
theorem flat_rep {Z : Hp} : ∀ {ds : List D} {vs : List V}, RepL c.K Z vs ds → D.plain.plainL ds = true → D.dep.depL ds = 0 → vs.all flatV = true ∧ ∀ (x : D) (v : V), x.plain = true → x.dep = 0 → Rep c.K Z v x → inV v vs = ds.any fun z => eqD z x
  | [], _, h, _, _ => by cases h; exact ⟨rfl, fun _ _ _ _ _ => rfl⟩
  | d :: ds, _, h, p, q => by
    cases h with
    | @cons v vs _ _ a b =>
      simp only [D.plain.plainL, Bool.and_eq_true] at p
      simp only [D.dep.depL] at q
      obtain ⟨h1, h2⟩ := flat_rep b p.2 (by omega)
      cases d with
      | sc w =>
        cases a
        refine ⟨by rw [List.all_cons, h1, flatV_S (show flatS v = true from p.1)]; rfl, fun x u px qx rx => ?_⟩
        unfold inV
        rw [List.any_cons, List.any_cons]
        have e2 := h2 x u px qx rx
        unfold inV at e2
        rw [e2]
        congr 1
        cases x with
        | sc y =>
          cases rx
          exact eqV_flat _ _ p.1 px
        | tup _ => simp [D.dep] at qx
        | lst _ => simp [D.dep] at qx
        | _ => cases px
      | tup _ => simp [D.dep] at q
      | lst _ => simp [D.dep] at q
      | _ => cases p.1
theorem Rb.flat {R O : List Addr} {H : Hp} {v : V} {d : D} (b : Rb c R O H v d) (p : d.plain = true) (q : d.dep = 0) : flatV v = true ∧ ∀ Z, Rep c.K Z v d := by
  cases d with
  | sc w =>
    have ok := b.ok
    cases b.sc
    exact ⟨flatV_S p, fun Z => .sc ok⟩
  | tup _ => simp [D.dep] at q
  | lst _ => simp [D.dep] at q
  | _ => cases p
theorem Rb.ktp {R O : List Addr} {H : Hp} {x : V} {ds : List D} (h : Rb c R O H x (.ktp ds)) : ∃ a vs, x = .ref a ∧ SqT c.K H a vs ∧ RepL c.K (cut H (O ++ (c.A ++ R))) vs ds := by
  cases h with
  | st h => cases h with | ktp a b => exact ⟨_, _, rfl, a _, b⟩
  | ow o _ => cases o
theorem any_py (x : D) : ∀ ds : List D, ((D.py.pyL ds).any fun z => PyData.eqv z x.py) = ds.any fun z => eqD z x
  | [] => rfl
  | d :: ds => by simp only [D.py.pyL, List.any_cons]; rw [any_py x ds]; rfl
theorem OpL.inn {neg : Bool} (hK : X.K = c.K) : OpL c (rInA X.K neg) (inQ neg) := by
  intro R O H x y dx dy Q' Q w a b t k
  rw [hK]
  unfold inQ at t
  split at t
  · rename_i ds
    obtain ⟨h1, h2, h3, h4, t⟩ := t
    have e2 := b.dp (d := .lst ds) (by simpa [D.plain] using h2)
    refine .inl ⟨_, D.py.pyL ds, (a.dp h1).1, by simpa [D.py] using e2.1, shaped_of h1 (a.dp h1).2 h3, ?_, ?_⟩
    · have := shaped_of (d := .lst ds) (by simpa [D.plain] using h2) e2.2 (by simp only [D.dep]; omega)
      simpa [D.py] using this
    · have e : ((D.py.pyL ds).any fun z => PyData.eqv z dx.py) = ds.any fun z => eqD z dx := by
        exact any_py dx ds
      rw [e]
      exact k _ _ t _ H R w.refl (.sc rfl)
  · rename_i ds
    obtain ⟨h1, h2, h3, h4, t⟩ := t
    obtain ⟨p, vs, rfl, hq, r⟩ := b.tup
    obtain ⟨f1, f2⟩ := a.flat h1 h2
    obtain ⟨g1, g2⟩ := flat_rep r h3 h4
    exact .inr (.inl ⟨p, vs, rfl, .inr hq, f1, g1, by rw [g2 dx x h1 h2 (f2 _)]; exact k _ _ t _ H R w.refl (.sc rfl)⟩)
  · rename_i ds
    obtain ⟨h1, h2, h3, h4, t⟩ := t
    obtain ⟨p, vs, rfl, hq, r⟩ := b.ktp
    obtain ⟨f1, f2⟩ := a.flat h1 h2
    obtain ⟨g1, g2⟩ := flat_rep r h3 h4
    exact .inr (.inl ⟨p, vs, rfl, .inr hq, f1, g1, by rw [g2 dx x h1 h2 (f2 _)]; exact k _ _ t _ H R w.refl (.sc rfl)⟩)
  · split at t
    · exact .inr (.inr (.inl ⟨_, _, a.sc, b.sc, k _ _ t _ H R w.refl (.sc rfl)⟩))
    · exact t.elim
  · obtain ⟨p, rfl, _, o, o', g, t, e⟩ := get_l b a t
    have eo : o.isSome = o'.isSome := by rcases e with ⟨rfl, rfl⟩ | ⟨_, _, rfl, rfl, _⟩ <;> rfl
    exact .inr (.inr (.inr ⟨p, o, rfl, g, by rw [eo]; exact k _ _ t _ H R w.refl (.sc rfl)⟩))
def ixQ (x y : D) (Q : D → Md → Prop) : Prop := match x, y with
  | .lst ds, .sc (.int i) => ∃ d, atI ds i = some d ∧ Q d .st
  | .tup ds, .sc (.int i) => ∃ d, atI ds i = some d ∧ Q d .st
  | .ktp ds, .sc (.int i) => ∃ d, atI ds i = some d ∧ Q d .st
  | .sc (.str z), .sc (.int i) => z.length ≤ sizeLine ∧ ∃ n, atI z.cps.toList i = some n ∧ Q (.sc (.str ⟨#[n]⟩)) .st
  | d, k => getQ d k fun o => ∃ z, o = some z ∧ Q z .st
def rIxA (K : PySem.W.Frag) : R2 := fun x y H Q => rIx K x y H Q ∨ ∃ a v, x = .ref a ∧ DGet H a y (some v) ∧ Q v H
theorem ix_dict (hu : X.A.units + 1 < cLine) : IxR X (fun x y H Q => ∃ a v, x = .ref a ∧ DGet H a y (some v) ∧ Q v H) := by
  intro value slice pins s σ H x y v u Q I rx ry h hs
  obtain ⟨a, z, rfl, g, q⟩ := h
  cases rx
  exact tail_any (dict_typeIs I g) PySem.F.slot_dict_getitem.lookup (d_getItem hu I g ry fun w' s3 I3 rw' => ⟨z, H, I3, rw', q⟩) hs
theorem ix_A (hu : X.A.units + 1 < cLine) : IxR X (rIxA X.K) := ix_seq.or (ix_dict hu)
theorem atI_rep {Z : Hp} {ds : List D} {vs : List V} {i : Int} {d : D} (r : RepL c.K Z vs ds) (e : atI ds i = some d) : ∃ v, atI vs i = some v ∧ Rep c.K Z v d := by
  unfold atI at e ⊢
  rw [r.length]
  cases h : ixN ds.length i with
  | none => rw [h] at e; cases e
  | some j => rw [h] at e; exact r.get e
theorem strOk_at {z : Str} (ok : PyData.strOk z = true) {j n : Nat} (h : z.cps.toList[j]? = some n) : PyData.strOk ⟨#[n]⟩ = true := by
  rw [Array.getElem?_toList] at h
  obtain ⟨hi, en⟩ := Array.getElem?_eq_some_iff.mp h
  unfold PyData.strOk at ok
  rw [Array.all_eq_true] at ok
  have := ok j hi
  rw [en] at this
  show (#[n]).all _ = true
  simpa using this
theorem OpL.ix (hK : X.K = c.K) : OpL c (rIxA X.K) ixQ := by
  intro R O H x y dx dy Q' Q w a b t k
  rw [hK]
  unfold ixQ at t
  split at t
  · obtain ⟨d, e, t⟩ := t
    obtain ⟨p, vs, rfl, h, r⟩ := a.lst
    obtain ⟨v, ev, rv⟩ := atI_rep r e
    exact .inl (.inl ⟨p, vs, _, v, rfl, b.sc, h, ev, k _ _ t _ H R w.refl rv⟩)
  · obtain ⟨d, e, t⟩ := t
    obtain ⟨p, vs, rfl, h, r⟩ := a.tup
    obtain ⟨v, ev, rv⟩ := atI_rep r e
    exact .inl (.inr (.inl ⟨p, vs, _, v, rfl, b.sc, h, ev, k _ _ t _ H R w.refl rv⟩))
  · obtain ⟨d, e, t⟩ := t
    obtain ⟨p, vs, rfl, h, r⟩ := a.ktp
    obtain ⟨v, ev, rv⟩ := atI_rep r e
    exact .inl (.inr (.inl ⟨p, vs, _, v, rfl, b.sc, h, ev, k _ _ t _ H R w.refl rv⟩))
  · obtain ⟨h1, n, e, t⟩ := t
    refine .inl (.inr (.inr ⟨_, _, n, a.sc, b.sc, h1, e, k _ _ t _ H R w.refl (.sc ?_)⟩))
    obtain ⟨j, _, ej, _⟩ := atI_get e
    exact strOk_at a.ok ej
  · obtain ⟨p, rfl, _, o, o', g, ⟨z, e, t⟩, eo⟩ := get_l a b t
    rcases eo with ⟨rfl, rfl⟩ | ⟨v, z', rfl, rfl, rz⟩
    · cases e
    · cases e
      exact .inr ⟨p, v, rfl, g, k _ _ t _ H R w.refl rz⟩
theorem p_ix {a b : Expr} {ta tb : Ex} {pos : Pos} (hK : X.K = c.K) (hu : X.A.units + 1 < cLine) (ha : PE X a (lE c ta)) (hb : PE X b (lE c tb)) (hs : PlainIx b) : PE X (.Subscript a b pos) (lE c (e_op ixQ ta tb)) :=
  PEw (pe_ix (ix_A hu) ha hb hs) fun σ H Q ⟨R, O, env, Q', q, t, k⟩ => bin_l (OpL.ix hK) q t k
end
end P
namespace P
open PySem PySem.Spec PyProof.Rows L2
section
variable {X : Cx} {c : Fc}
inductive Rbs (c : Fc) (R O : List Addr) (H : Hp) : List V → List (D × Md) → Prop
  | nil : Rbs c R O H [] []
  | cons {v : V} {vs : List V} {p : D × Md} {ps : List (D × Md)} : Rb c R O H v p.1 → (p.2 ≠ .br → Rep c.K (cut H (O ++ (c.A ++ R))) v p.1) → Rbs c R O H vs ps → Rbs c R O H (v :: vs) (p :: ps)
theorem RMs.rbs {R O : List Addr} {H Ha : Hp} {vs : List V} {ps : List (D × Md)} (w : HW c R O H) (h : RMs c Ha R O H vs ps) : Rbs c R O H vs ps := by
  induction h with
  | nil => exact .nil
  | cons a b ih => exact .cons (a.rb w) a.stab ih
abbrev Cq := List (D × Md) → (D → Md → Prop) → Prop
def CalL (c : Fc) (r : List V → Hp → VK → Prop) (cq : Cq) : Prop := ∀ R O H xs ps Q' Q, HW c R O H → Rbs c R O H xs ps → cq ps Q' → (∀ d md, Q' d md → ∀ v H' R', Stp c.Φ R R' H H' → RM c H R' O H' v d md → Q v H') → r xs H Q
def e_cb (cq : Cq) (ta : Ax) : Ex := fun env Q => ta env fun ps => cq ps Q
theorem cb_l {r : List V → Hp → VK → Prop} {cq : Cq} {ta : Ax} {σ : L2.St} {H : Hp} {Q : VK} (hr : CalL c r cq) (h : lE c (e_cb cq ta) σ H Q) : tCB r (lA c ta) σ H Q := by
  obtain ⟨R, O, env, Q', q, t, k⟩ := h
  refine ⟨R, O, env, _, q, t, fun ps t2 vs H1 R1 s1 m => ?_⟩
  have w1 := (q.step s1).toHW
  exact hr R1 O H1 vs ps Q' Q w1 (m.rbs w1) t2 fun d md z v H2 R2 s2 m2 => k d md z v H2 R2 (s1.trans s2) (m2.ahead fun a n => Stp.nn q.rok s1 n)
theorem p_cb {id : String} {r : List V → Hp → VK → Prop} {cq : Cq} {ta : Ax} {x : Str} {p pos : Pos} {e : Expr} {es : List Expr} (hc : CallR X (.builtin id) r) (hr : CalL c r cq) (hg : Gl X x) (hm : X.mg x = none) (hv : bootBuiltins x = some (.builtin id)) (ha : PA X (e :: es) (lA c ta)) (hn : x ≠ "__name__" := by decide) (hdb : (x == ("__debug__" : Str)) = false := by decide)
    (he : starEach (e :: es) X.env = (false, eval e X.env) :: starEach es X.env := by rfl) (hpl : (backTo pos (starEach es X.env)).any (·.1) = false := by rfl) : PE X (.Call (.Name x p) (e :: es) [] pos) (lE c (e_cb cq ta)) :=
  PEw (pe_callB hc hg hm hv ha hn hdb he hpl) fun _ _ _ h => cb_l hr h
theorem p_ct {T : String} {r : List V → Hp → VK → Prop} {cq : Cq} {ta : Ax} {x : Str} {p pos : Pos} {e : Expr} {es : List Expr} (hc : CallR X (.type T) r) (hr : CalL c r cq) (hg : Gl X x) (hm : X.mg x = none) (hv : bootBuiltins x = some (.type T)) (ha : PA X (e :: es) (lA c ta)) (hn : x ≠ "__name__" := by decide) (hdb : (x == ("__debug__" : Str)) = false := by decide)
    (he : starEach (e :: es) X.env = (false, eval e X.env) :: starEach es X.env := by rfl) (hpl : (backTo pos (starEach es X.env)).any (·.1) = false := by rfl) : PE X (.Call (.Name x p) (e :: es) [] pos) (lE c (e_cb cq ta)) :=
  PEw (pe_callTy hc hg hm hv ha hn hdb he hpl) fun _ _ _ h => cb_l hr h
theorem CallR.orr {f : Value} {r r' : List V → Hp → VK → Prop} (h : CallR X f r) (h' : CallR X f r') : CallR X f (fun xs H Q => r xs H Q ∨ r' xs H Q) := fun pins s σ H xs us Q I a t => t.elim (h pins s σ H xs us Q I a) (h' pins s σ H xs us Q I a)
def lenQ : Cq := fun ps Q => match ps with
  | [(.sc (.str x), _)] => x.length ≤ sizeLine ∧ Q (.sc (.int x.length)) .st
  | [(.lst ds, _)] => Q (.sc (.int ds.length)) .st
  | [(.tup ds, _)] => Q (.sc (.int ds.length)) .st
  | [(.dic ks ds, _)] => Q (.sc (.int ks.length)) .st
  | _ => False
def rLenA (K : PySem.W.Frag) : List V → Hp → VK → Prop := fun xs H Q => (∃ x n, xs = [x] ∧ LenV K x H n ∧ Q (.int n) H) ∨ ∃ a kvs, xs = [.ref a] ∧ Rd H a (.dK kvs) ∧ Q (.int kvs.length) H
theorem call_lenRd : CallR X (.builtin "len") (fun xs H Q => ∃ a kvs, xs = [.ref a] ∧ Rd H a (.dK kvs) ∧ Q (.int kvs.length) H) := by
  intro pins s σ H xs us Q I r h
  obtain ⟨a, kvs, rfl, hd, q⟩ := h
  obtain ⟨u, rfl, rx⟩ := vals1 r
  cases rx
  exact d_len I hd fun t s' I' => ⟨.int kvs.length, H, I', ⟨t, rfl⟩, q⟩
theorem call_lenA : CallR X (.builtin "len") (rLenA X.K) := CallR.orr call_len call_lenRd
theorem Rbs.one {R O : List Addr} {H : Hp} {xs : List V} {p : D × Md} (h : Rbs c R O H xs [p]) : ∃ x, xs = [x] ∧ Rb c R O H x p.1 ∧ (p.2 ≠ .br → Rep c.K (cut H (O ++ (c.A ++ R))) x p.1) := by
  cases h with | cons a b t => cases t; exact ⟨_, rfl, a, b⟩
theorem Rbs.two {R O : List Addr} {H : Hp} {xs : List V} {p q : D × Md} (h : Rbs c R O H xs [p, q]) : ∃ x y, xs = [x, y] ∧ Rb c R O H x p.1 ∧ Rb c R O H y q.1 := by
  cases h with | cons a b t => cases t with | cons a' b' t' => cases t'; exact ⟨_, _, rfl, a, a'⟩
theorem CalL.len (hK : X.K = c.K) : CalL c (rLenA X.K) lenQ := by
  intro R O H xs ps Q' Q w b t k
  rw [hK]
  unfold lenQ at t
  split at t
  · obtain ⟨x, rfl, b, _⟩ := b.one
    cases b.sc
    exact .inl ⟨_, _, rfl, ⟨t.1, rfl⟩, k _ _ t.2 _ H R w.refl (.sc rfl)⟩
  · obtain ⟨x, rfl, b, _⟩ := b.one
    obtain ⟨a, vs, rfl, h, r⟩ := b.lst
    exact .inl ⟨_, vs.length, rfl, .inl ⟨vs, h, rfl⟩, by rw [r.length]; exact k _ _ t _ H R w.refl (.sc rfl)⟩
  · obtain ⟨x, rfl, b, _⟩ := b.one
    obtain ⟨a, vs, rfl, h, r⟩ := b.tup
    exact .inl ⟨_, vs.length, rfl, .inr ⟨vs, h, rfl⟩, by rw [r.length]; exact k _ _ t _ H R w.refl (.sc rfl)⟩
  · obtain ⟨x, rfl, b, _⟩ := b.one
    obtain ⟨a, kvs, rfl, h, e, r⟩ := b.dic
    exact .inr ⟨_, kvs, rfl, h, by rw [← List.length_map (f := (·.1)), e]; exact k _ _ t _ H R w.refl (.sc rfl)⟩
  · exact t.elim
def intQ : Cq := fun ps Q => match ps with
  | [(.sc (.int i), _)] => Q (.sc (.int i)) .st
  | [(.sc (.bl b), _)] => Q (.sc (.int (if b then 1 else 0))) .st
  | _ => False
def rIntA : List V → Hp → VK → Prop := fun xs H Q => (∃ i, xs = [.int i] ∧ Q (.int i) H) ∨ ∃ k, xs = [.bl k] ∧ Q (.int (if k then 1 else 0)) H
theorem CalL.int : CalL c rIntA intQ := by
  intro R O H xs ps Q' Q w b t k
  unfold intQ at t
  split at t
  · obtain ⟨x, rfl, b, _⟩ := b.one
    cases b.sc
    exact .inl ⟨_, rfl, k _ _ t _ H R w.refl (.sc rfl)⟩
  · obtain ⟨x, rfl, b, _⟩ := b.one
    cases b.sc
    exact .inr ⟨_, rfl, k _ _ t _ H R w.refl (.sc rfl)⟩
  · exact t.elim
def absQ : Cq := fun ps Q => match ps with
  | [(.sc (.int i), _)] => Q (.sc (.int i.natAbs)) .st
  | _ => False
def rAbsA : List V → Hp → VK → Prop := fun xs H Q => ∃ i, xs = [.int i] ∧ Q (.int (if i < 0 then -i else i)) H
theorem abs_eq (i : Int) : (if i < 0 then -i else i) = (i.natAbs : Int) := by split <;> omega
theorem CalL.abs : CalL c rAbsA absQ := by
  intro R O H xs ps Q' Q w b t k
  unfold absQ at t
  split at t
  · obtain ⟨x, rfl, b, _⟩ := b.one
    cases b.sc
    refine ⟨_, rfl, ?_⟩
    rw [abs_eq]
    exact k _ _ t _ H R w.refl (.sc rfl)
  · exact t.elim
def mmQ (f : Int → Int → Int) : Cq := fun ps Q => match ps with
  | [(.sc (.int i), _), (.sc (.int j), _)] => Q (.sc (.int (f i j))) .st
  | _ => False
def rMM (f : Int → Int → Int) : List V → Hp → VK → Prop := fun xs H Q => ∃ i j, xs = [.int i, .int j] ∧ Q (.int (f i j)) H
theorem call_max2A (hc : X.calm = true) : CallR X (.builtin "max") (rMM max) := fun pins s σ H xs us Q I r ⟨i, j, e, q⟩ => call_max2 hc pins s σ H xs us Q I r ⟨i, j, e, by
  have z : (if j > i then j else i) = max i j := by
    have := Int.max_def i j
    split <;> omega
  rw [z]; exact q⟩
theorem CalL.mm {f : Int → Int → Int} : CalL c (rMM f) (mmQ f) := by
  intro R O H xs ps Q' Q w b t k
  unfold mmQ at t
  split at t
  · obtain ⟨x, y, rfl, b1, b2⟩ := b.two
    cases b1.sc
    cases b2.sc
    exact ⟨_, _, rfl, k _ _ t _ H R w.refl (.sc rfl)⟩
  · exact t.elim
def listQ : Cq := fun ps Q => match ps with
  | [(.lst ds, _)] => Q (.lst ds) .ow
  | [(.tup ds, _)] => Q (.lst ds) .ow
  | [(.ktp ds, _)] => Q (.lst ds) .ow
  | _ => False
def rListA (K : PySem.W.Frag) : List V → Hp → VK → Prop := fun xs H Q => ∃ p ys, xs = [.ref p] ∧ (SqL K H p ys ∨ SqT K H p ys) ∧ ∀ l, H l = none → Q (.ref l) (upd H l (.lst ys))
theorem call_listA : CallR X (.type "list") (rListA X.K) := call_list_of
theorem CalL.list (hK : X.K = c.K) : CalL c (rListA X.K) listQ := by
  intro R O H xs ps Q' Q w b t k
  rw [hK]
  unfold listQ at t
  split at t
  · obtain ⟨x, rfl, b, _⟩ := b.one
    obtain ⟨a, vs, rfl, h, r⟩ := b.lst
    exact ⟨_, vs, rfl, .inl h, fun l n => k _ _ t _ _ R (Stp.alloc w.rok n) (RM.newL w n n r)⟩
  · obtain ⟨x, rfl, b, _⟩ := b.one
    obtain ⟨a, vs, rfl, h, r⟩ := b.tup
    exact ⟨_, vs, rfl, .inr h, fun l n => k _ _ t _ _ R (Stp.alloc w.rok n) (RM.newL w n n r)⟩
  · obtain ⟨x, rfl, b, _⟩ := b.one
    obtain ⟨a, vs, rfl, h, r⟩ := b.ktp
    exact ⟨_, vs, rfl, .inr h, fun l n => k _ _ t _ _ R (Stp.alloc w.rok n) (RM.newL w n n r)⟩
  · exact t.elim
def tupleQ : Cq := fun ps Q => match ps with
  | [(.lst ds, _)] => Q (.tup ds) .st
  | [(.tup ds, _)] => Q (.tup ds) .st
  | _ => False
def rTupleA (K : PySem.W.Frag) : List V → Hp → VK → Prop := fun xs H Q => ∃ p ys, xs = [.ref p] ∧ ((SqL K H p ys ∧ ∀ l, H l = none → Q (.ref l) (upd H l (.tup ys))) ∨ (SqT K H p ys ∧ Q (.ref p) H))
theorem call_tupleA : CallR X (.type "tuple") (rTupleA X.K) := call_tuple_of
theorem CalL.tuple (hK : X.K = c.K) : CalL c (rTupleA X.K) tupleQ := by
  intro R O H xs ps Q' Q w b t k
  rw [hK]
  unfold tupleQ at t
  split at t
  · obtain ⟨x, rfl, b, _⟩ := b.one
    obtain ⟨a, vs, rfl, h, r⟩ := b.lst
    exact ⟨_, vs, rfl, .inl ⟨h, fun l n => k _ _ t _ _ R (Stp.alloc w.rok n) (RM.newT w n r)⟩⟩
  · obtain ⟨x, rfl, b, _⟩ := b.one
    obtain ⟨a, vs, e, h, r⟩ := b.tup
    subst e
    exact ⟨_, vs, rfl, .inr ⟨h, k _ _ t _ H R w.refl b.rep_tup⟩⟩
  · exact t.elim
def D.ints : List D → Option (List Int)
  | [] => some []
  | .sc (.int i) :: ds => (D.ints ds).map (i :: ·)
  | _ => none
theorem ints_rep {Z : Hp} : ∀ {ds : List D} {vs : List V} {ns : List Int}, RepL c.K Z vs ds → D.ints ds = some ns → vs = ns.map V.int
  | [], _, _, h, e => by cases h; cases e; rfl
  | d :: ds, _, ns, h, e => by
    cases h with
    | cons a b =>
      unfold D.ints at e
      split at e
      · rename_i h1; cases h1
      · rename_i i es h1
        cases h1
        obtain ⟨m, e1, e2⟩ := Option.map_eq_some_iff.mp e
        subst e2
        cases a
        rw [List.map_cons, ints_rep b e1]
      · cases e
def seqQ (d : D) (Q : List D → Prop) : Prop := match d with
  | .lst ds => Q ds
  | _ => False
def sumQ : Cq := fun ps Q => match ps with
  | [(d, _)] => seqQ d fun ds => ∃ ns, D.ints ds = some ns ∧ Q (.sc (.int ns.sum)) .st
  | _ => False
theorem CalL.sum (hK : X.K = c.K) : CalL c (rSum X.K) sumQ := by
  intro R O H xs ps Q' Q w b t k
  rw [hK]
  unfold sumQ at t
  split at t
  · obtain ⟨x, rfl, b, _⟩ := b.one
    unfold seqQ at t
    split at t
    · obtain ⟨a, vs, rfl, h, r⟩ := b.lst
      obtain ⟨ns, e, t⟩ := t
      cases ints_rep r e
      exact ⟨a, ns, rfl, h, k _ _ t _ H R w.refl (.sc rfl)⟩
    · exact t.elim
  · exact t.elim
def D.bls : List D → Option (List Bool)
  | [] => some []
  | .sc (.bl i) :: ds => (D.bls ds).map (i :: ·)
  | _ => none
theorem bls_rep {Z : Hp} : ∀ {ds : List D} {vs : List V} {ns : List Bool}, RepL c.K Z vs ds → D.bls ds = some ns → vs = ns.map V.bl
  | [], _, _, h, e => by cases h; cases e; rfl
  | d :: ds, _, ns, h, e => by
    cases h with
    | cons a b =>
      unfold D.bls at e
      split at e
      · rename_i h1; cases h1
      · rename_i i es h1
        cases h1
        obtain ⟨m, e1, e2⟩ := Option.map_eq_some_iff.mp e
        subst e2
        cases a
        rw [List.map_cons, bls_rep b e1]
      · cases e
def allQ : Cq := fun ps Q => match ps with
  | [(d, _)] => seqQ d fun ds => ∃ bs, D.bls ds = some bs ∧ Q (.sc (.bl (bs.all id))) .st
  | _ => False
theorem CalL.all (hK : X.K = c.K) : CalL c (rAll X.K) allQ := by
  intro R O H xs ps Q' Q w b t k
  rw [hK]
  unfold allQ at t
  split at t
  · obtain ⟨x, rfl, b, _⟩ := b.one
    unfold seqQ at t
    split at t
    · obtain ⟨a, vs, rfl, h, r⟩ := b.lst
      obtain ⟨ns, e, t⟩ := t
      cases bls_rep r e
      exact ⟨a, ns, rfl, h, k _ _ t _ H R w.refl (.sc rfl)⟩
    · exact t.elim
  · exact t.elim
def D.ty : D → Option String
  | .sc .non => some "NoneType"
  | .sc (.bl _) => some "bool"
  | .sc (.int _) => some "int"
  | .sc (.str _) => some "str"
  | .lst _ => some "list"
  | .tup _ => some "tuple"
  | .dic _ _ => some "dict"
  | _ => none
def isTy (a b : String) : Bool := a == b || (a == "bool" && b == "int")
def tyOk (b : String) : Bool := b == "int" || b == "str" || b == "bool" || b == "list" || b == "tuple" || b == "dict"
def isiQ : Cq := fun ps Q => match ps with
  | [(d, _), (.sc (.ty b), _)] => tyOk b = true ∧ ∃ a, d.ty = some a ∧ Q (.sc (.bl (isTy a b))) .st
  | _ => False
theorem ty_rep {R O : List Addr} {H : Hp} {v : V} {d : D} {a : String} (w : HW c R O H) (b : Rb c R O H v d) (e : d.ty = some a) : ∃ t, t = Value.type a ∧ TyX c.K H v t := by
  refine ⟨_, rfl, ?_⟩
  unfold D.ty at e
  split at e
  · cases e; cases b.sc; exact .base .non
  · cases e; cases b.sc; exact .base (.bl _)
  · cases e; cases b.sc; exact .base (.int _)
  · cases e; cases b.sc; exact .base (.str _)
  · cases e
    obtain ⟨p, vs, rfl, h, r⟩ := b.lst
    rcases h with (h | ⟨o, h⟩) | ⟨o, its, n, h1, h2, _⟩
    · exact .base (.lst h)
    · exact .base (.frz h)
    · exact .kList h1 h2
  · cases e
    obtain ⟨p, vs, rfl, h, r⟩ := b.tup
    rcases h with (h | ⟨o, h⟩) | ⟨o, its, n, h1, h2, _⟩
    · exact .base (.tup h)
    · exact .fTuple h
    · exact .kTuple h1 h2
  · cases e
    obtain ⟨p, vs, rfl, h, _⟩ := b.dic
    rcases h with h | ⟨o, h⟩
    · exact .base (.dK h)
    · exact .fDict h
  · cases e
theorem kit_ty (K : PySem.W.Frag) {a b : String} (ha : a = "NoneType" ∨ a = "bool" ∨ a = "int" ∨ a = "str" ∨ a = "list" ∨ a = "tuple" ∨ a = "dict") (hb : tyOk b = true) : PySem.W.kitOne K (.type a) (.type b) = some (isTy a b) := by
  have hb' : b = "int" ∨ b = "str" ∨ b = "bool" ∨ b = "list" ∨ b = "tuple" ∨ b = "dict" := by
    simpa [tyOk, or_assoc] using hb
  rcases ha with rfl | rfl | rfl | rfl | rfl | rfl | rfl <;> rcases hb' with rfl | rfl | rfl | rfl | rfl | rfl <;> rfl
theorem ty_some {d : D} {a : String} (e : d.ty = some a) : a = "NoneType" ∨ a = "bool" ∨ a = "int" ∨ a = "str" ∨ a = "list" ∨ a = "tuple" ∨ a = "dict" := by
  unfold D.ty at e
  split at e <;> first | (cases e; simp; done) | cases e
theorem CalL.isi (hK : X.K = c.K) : CalL c (rIsi X.K) isiQ := by
  intro R O H xs ps Q' Q w b t k
  rw [hK]
  unfold isiQ at t
  split at t
  · obtain ⟨x, y, rfl, b1, b2⟩ := b.two
    cases b2.sc
    obtain ⟨hb, a, e, t⟩ := t
    obtain ⟨_, rfl, ty⟩ := ty_rep w b1 e
    exact ⟨_, _, _, _, _, rfl, .ty _, ty, kit_ty _ (ty_some e) hb, k _ _ t _ H R w.refl (.sc rfl)⟩
  · exact t.elim
end
end P
namespace P
open PySem PySem.Spec PyProof.Rows L2
section
variable {X : Cx} {c : Fc}
abbrev Px := En → (Option Int → Prop) → Prop
def lP (c : Fc) (tp : Px) : TO := fun σ H Q => ∃ R O env Q', Rel c R O σ H env ∧ tp env Q' ∧ ∀ o, Q' o → ∀ H' R', Stp c.Φ R R' H H' → Q o H'
theorem POw {e : Option Expr} {t t' : TO} (h : PO X e t) (w : ∀ σ H Q, t' σ H Q → t σ H Q) : PO X e t' := ⟨fun pins s σ H Q I q => h.run pins s σ H Q I (w σ H Q q)⟩
def o_none : Px := fun _ Q => Q none
def optQ (d : D) (Q : Option Int → Prop) : Prop := match d with
  | .sc (.int i) => Q (some i)
  | _ => False
def o_some (te : Ex) : Px := fun env Q => te env fun d _ => optQ d Q
theorem p_onone : PO X none (lP c o_none) := POw po_none fun σ H Q ⟨R, O, env, Q', r, t, k⟩ => k _ t H R r.toHW.refl
theorem p_osome {e : Expr} {te : Ex} (h : PE X e (lE c te)) : PO X (some e) (lP c (o_some te)) := POw (po_some h) fun σ H Q ⟨R, O, env, Q', r, t, k⟩ => ⟨R, O, env, _, r, t, fun d md q v H' R' s m => by
  unfold optQ at q
  split at q
  · exact ⟨_, (m.rb (r.step s).toHW).sc, k _ q H' R' s⟩
  · exact q.elim⟩
def cutD (ds : List D) (lo hi : Option Int) : List D := (ds.drop (HT.sIx ds.length 0 lo)).take (HT.sIx ds.length ds.length hi - HT.sIx ds.length 0 lo)
def slQ (d : D) (lo hi : Option Int) (Q : D → Md → Prop) : Prop := match d with
  | .lst ds => Q (.lst (cutD ds lo hi)) .ow
  | .tup ds => Q (.tup (cutD ds lo hi)) .st
  | .sc (.str z) => z.length ≤ sizeLine ∧ Q (.sc (.str (cutS z lo hi))) .st
  | _ => False
def e_sl (te : Ex) (tl th : Px) : Ex := fun env Q => te env fun d _ => tl env fun lo => th env fun hi => slQ d lo hi Q
theorem cut_rep {Z : Hp} {ds : List D} {vs : List V} (r : RepL c.K Z vs ds) (lo hi : Option Int) : RepL c.K Z (cutV vs lo hi) (cutD ds lo hi) := by
  unfold cutV cutD
  rw [r.length]
  exact (r.drop _).take _
theorem strOk_sub {a b : Str} (h : PyData.strOk a = true) (s : ∀ n ∈ b.cps.toList, n ∈ a.cps.toList) : PyData.strOk b = true := by
  unfold PyData.strOk at *
  rw [← Array.all_toList, List.all_eq_true] at h ⊢
  exact fun n m => h n (s n m)
theorem cutS_ok {z : Str} {lo hi : Option Int} (h : PyData.strOk z = true) : PyData.strOk (cutS z lo hi) = true := strOk_sub h fun n m => by
  unfold cutS at m
  exact List.mem_of_mem_drop (List.mem_of_mem_take (by simpa using m))
theorem p_sl {e : Expr} {lo hi : Option Expr} {te : Ex} {tl th : Px} {pos p2 : Pos} (hK : X.K = c.K) (he : PE X e (lE c te)) (hl : PO X lo (lP c tl)) (hh : PO X hi (lP c th)) : PE X (.Subscript e (.Slice lo hi none p2) pos) (lE c (e_sl te tl th)) :=
  PEw (pe_slice (SlR.or sl_list (SlR.or sl_tupA sl_str)) he hl hh) fun σ H Q ⟨R, O, env, Q', r, t, k⟩ => ⟨R, O, env, _, r, t, fun d md q1 v H1 R1 s1 m1 => ⟨R1, O, env, _, r.step s1, q1, fun lo q2 H2 R2 s2 => ⟨R2, O, env, _, (r.step s1).step s2, q2, fun hi q3 H3 R3 s3 => by
    have w1 := (r.step s1).toHW
    have w2 := w1.step s2
    have w3 := w2.step s3
    have b := (((m1.step w1 s2).step w2 s3)).rb w3
    have s : Stp c.Φ R R3 H H3 := (s1.trans s2).trans s3
    rw [hK]
    unfold slQ at q3
    split at q3
    · obtain ⟨a, vs, rfl, h, rr⟩ := b.lst
      exact .inl ⟨a, vs, rfl, h, fun p n => k _ _ q3 _ _ R3 (s.trans (Stp.alloc s.rok n)) (RM.newL w3 n (Stp.nn r.rok s n) (cut_rep rr lo hi))⟩
    · obtain ⟨a, vs, e, h, rr⟩ := b.tup
      subst e
      refine .inr (.inl ⟨a, vs, rfl, h, fun ⟨h1, h2⟩ => ?_, fun _ p n => k _ _ q3 _ _ R3 (s.trans (Stp.alloc s.rok n)) (RM.newT w3 n (cut_rep rr lo hi))⟩)
      rename_i ds _
      have e : cutD ds lo hi = ds := by
        unfold cutD
        rw [← rr.length, h1, h2, List.drop_zero, Nat.sub_zero, rr.length, List.take_length]
      rw [e] at q3
      exact k _ _ q3 _ H3 R3 s b.rep_tup
    · cases b.sc
      exact .inr (.inr ⟨_, rfl, q3.1, k _ _ q3.2 _ H3 R3 s (.sc (cutS_ok b.ok))⟩)
    · exact q3.elim⟩⟩⟩
/-- x[::-1] of a list -/
def revQ (d : D) (Q : D → Md → Prop) : Prop := match d with
  | .lst ds => Q (.lst ds.reverse) .ow
  | _ => False
def e_rev (te : Ex) : Ex := fun env Q => te env fun d _ => revQ d Q
abbrev Mq := List D → List (D × Md) → (List D → D → Prop) → Prop
def MutL (c : Fc) (r : V → List V → Hp → VK → Prop) (mq : Mq) : Prop := ∀ R O H a vs xs ds ps P Q, HW c R O H → H a = some (.lst vs) → RepL c.K (cut H (O ++ (c.A ++ R))) vs ds → Rbs c R O H xs ps → mq ds ps P →
  (∀ ds' rr, P ds' rr → ∀ v vs', RepL c.K (cut H (O ++ (c.A ++ R))) vs' ds' → Rep c.K (cut H (O ++ (c.A ++ R))) v rr → Q v (upd H a (.lst vs'))) → r (.ref a) xs H Q
/-- a slot's own object is changed -/
theorem Rel.mut {R O : List Addr} {σ : L2.St} {H : Hp} {env : En} {i : Nat} {a : Addr} {d d' : D} {o' : HO} (r : Rel c R O σ H env) (e : env[i]? = some (.ow d)) (q : σ[i]? = some (some (V.ref a))) (m : a ∈ O) (x : Own c.K (upd H a o') (cut H (O ++ (c.A ++ R))) a d') : Rel c R O σ (upd H a o') (env.set i (.ow d')) := by
  have hi : i < env.length := (List.getElem?_eq_some_iff.mp e).1
  have l : Loose o' := by
    obtain ⟨u, eu, lu⟩ := x.there
    rw [upd_same] at eu
    cases eu; exact lu
  have ce : cut (upd H a o') (O ++ (c.A ++ R)) = cut H (O ++ (c.A ++ R)) := cut_upd (List.mem_append_left _ m)
  refine ⟨r.toHW.updO m l, by rw [List.length_set]; exact r.len, fun j e' z => ?_, fun j e' z => ?_, fun j k e1 e2 b z z' y y' => ?_, fun j S z => ?_, fun j k S b f e2 z zs z' => ?_, fun j k S T z z' => r.ghu j k S T (r.ghSet (by intro _ z; cases z) j S z) (r.ghSet (by intro _ z; cases z) k T z')⟩
  · rcases getElem?_set_cases z with ⟨rfl, w⟩ | ⟨nj, z⟩
    · cases w
    · rw [ce]; exact r.sh j e' z
  · rcases getElem?_set_cases z with ⟨rfl, w⟩ | ⟨nj, z⟩
    · cases w
      exact ⟨a, q, m, by rw [ce]; exact x⟩
    · obtain ⟨b, h1, h2, h3⟩ := r.ow j e' z
      refine ⟨b, h1, h2, ?_⟩
      rw [ce]
      exact h3.mono (fun _ _ w => w) fun u w => by
        rw [upd_ne]
        · exact w
        · rintro rfl
          exact nj (r.inj j i e' d b z e h1 q)
  · have back : ∀ (j : Nat) (e1 : D), (env.set i (.ow d'))[j]? = some (.ow e1) → ∃ e2, env[j]? = some (.ow e2) := fun j e1 z => by
      rcases getElem?_set_cases z with ⟨rfl, w⟩ | ⟨nj, z⟩
      · exact ⟨d, e⟩
      · exact ⟨e1, z⟩
    obtain ⟨f1, g1⟩ := back j e1 z
    obtain ⟨f2, g2⟩ := back k e2 z'
    exact r.inj j k f1 f2 b g1 g2 y y'
  · have z0 := r.ghSet (by intro _ z; cases z) j S z
    rw [cut_upd (List.mem_append_left _ m)]
    intro b f qs
    obtain ⟨x1, x2⟩ := r.gh j S z0 b f qs
    refine ⟨x1, x2.mono (fun _ _ z => z) fun u w => ?_⟩
    rw [upd_ne]
    · exact w
    · rintro rfl
      exact r.ghd j i S b f d z0 qs e q
  · have z0 := r.ghSet (by intro _ z; cases z) j S z
    rcases getElem?_set_cases z' with ⟨rfl, w⟩ | ⟨nk, z'⟩
    · exact r.ghd j k S b f d z0 zs e
    · exact r.ghd j k S b f e2 z0 zs z'
/-- x.m(..) of an owned list x, its value dropped -/
def s_meth (i : Nat) (mq : Mq) (ta : Ax) : Sx := fun env E => match env[i]? with
  | some (.ow (.lst ds)) => ta env fun ps => mq ds ps fun ds' _ => E.nx (env.set i (.ow (.lst ds')))
  | _ => False
/-- y = x.m(..) -/
def s_methset (j i : Nat) (mq : Mq) (ta : Ax) : Sx := fun env E => match env[i]? with
  | some (.ow (.lst ds)) => ta env fun ps => mq ds ps fun ds' rr => E.nx ((env.set i (.ow (.lst ds'))).set j (.sh rr))
  | _ => False
theorem ow_lst {R O : List Addr} {σ : L2.St} {H : Hp} {env : En} {i : Nat} {ds : List D} (q : Rel c R O σ H env) (e : env[i]? = some (.ow (.lst ds))) : ∃ a vs, σ[i]? = some (some (V.ref a)) ∧ a ∈ O ∧ H a = some (.lst vs) ∧ RepL c.K (cut H (O ++ (c.A ++ R))) vs ds := by
  obtain ⟨a, qa, ma, xa⟩ := q.ow i _ e
  cases xa with | lst h r => exact ⟨a, _, qa, ma, h, r⟩
theorem meth_l {i : Nat} {K : PySem.W.Frag} {r : V → List V → Hp → VK → Prop} {mq : Mq} {ta : Ax} {σ : L2.St} {H : Hp} {Q : VK} {R O : List Addr} {env : En} {ds : List D} {P : List D → D → Prop} (hr : MutL c r mq) (q : Rel c R O σ H env) (ed : env[i]? = some (.ow (.lst ds))) (t : ta env fun ps => mq ds ps P)
    (k : ∀ ds' rr, P ds' rr → ∀ v R' H', Rel c R' O σ H' (env.set i (.ow (.lst ds'))) → Rep c.K (cut H' (O ++ (c.A ++ R'))) v rr → Q v H') : tBM K "list" r (tVar i) (lA c ta) σ H Q := by
  obtain ⟨a, vs, qa, ma, ha, ra⟩ := ow_lst q ed
  refine ⟨_, qa, .inl ⟨rfl, _, .inl (.inl ha)⟩, R, O, env, _, q, t, fun ps t2 xs H1 R1 s1 mm => ?_⟩
  have q1 := q.step s1
  obtain ⟨a', vs', qa', ma', ha', ra'⟩ := ow_lst q1 ed
  have ea : a = a' := V.ref.inj (Option.some.inj (Option.some.inj (qa.symm.trans qa')))
  subst ea
  refine hr R1 O H1 a vs' xs ds ps _ _ q1.toHW ha' ra' (mm.rbs q1.toHW) t2 fun ds2 rr z v vs2 r2 rv => ?_
  have ce : ∀ o, cut (upd H1 a o) (O ++ (c.A ++ R1)) = cut H1 (O ++ (c.A ++ R1)) := fun o => cut_upd (List.mem_append_left _ ma)
  exact k ds2 rr z v R1 _ (q1.mut ed qa ma (.lst upd_same r2)) (by rw [ce]; exact rv)
theorem p_meth {i : Nat} {x m : Str} {id : String} {r : V → List V → Hp → VK → Prop} {mq : Mq} {ta : Ax} {e : Expr} {es : List Expr} {np ap cp pos : Pos} (slot : Slot "list" m id) (hty : typeOf (.builtin id) = pure (.type "method_descriptor")) (hm : MtR X id r) (hr : MutL c r mq)
    (ho : PE X (.Name x np) (tVar i)) (ha : PA X (e :: es) (lA c ta)) (hbase : attributeBase (.Name x np) m X.env (eval (.Name x np) X.env) = eval (.Name x np) X.env := by rfl)
    (hfew : ((backTo cp (starEach (e :: es) X.env)).all (fun x => !x.1) && (backToKw cp (keywordEach [] X.env)).all (fun x => x.1.isSome)
      && decide ((e :: es).length + ([] : List Keyword).length + (if ([] : List Keyword).isEmpty then 0 else 1) < 30)) = true := by rfl)
    (hline : (ap.endLine == cp.line) = true := by rfl) (hs : starEach (e :: es) X.env = (false, eval e X.env) :: starEach es X.env := by rfl) (hplain : (backTo cp (starEach es X.env)).any (·.1) = false := by rfl)
    (hsw : swapsWith (.Call (.Attribute (.Name x np) m ap) (e :: es) [] cp) none pos.line X.env = pure false := by rfl) : PS X (.Expr (.Call (.Attribute (.Name x np) m ap) (e :: es) [] cp) pos) (lS c (s_meth i mq ta)) :=
  PSw (ps_expr (pe_bm F.plainAttrs_list slot hty hm ho ha hbase hfew hline hs hplain) hsw) fun E σ H ⟨R, O, env, E', q, t, o⟩ => by
    unfold s_meth at t
    split at t
    · rename_i ds ed
      exact meth_l hr q ed t fun ds' rr z v R' H' q' _ => o.nx _ z _ _ _ _ q'
    · exact t.elim
theorem notBr {md : Md} (h : isBr md = false) : md ≠ .br := fun z => by rw [z] at h; cases h
def appendQ : Mq := fun ds ps P => match ps with
  | [(d, md)] => isBr md = false ∧ ds.length < sizeLine ∧ P (ds ++ [d]) (.sc .non)
  | _ => False
theorem MutL.append : MutL c rAppend appendQ := by
  intro R O H a vs xs ds ps P Q w h r b t k
  unfold appendQ at t
  split at t
  · obtain ⟨x, rfl, b, st⟩ := b.one
    obtain ⟨nb, hl, t⟩ := t
    exact ⟨a, vs, x, rfl, rfl, h, by rw [r.length]; exact hl, k _ _ t .non _ (r.append (.cons (st (notBr nb)) .nil)) (.sc rfl)⟩
  · exact t.elim
theorem RepL.dropLast {K : PySem.W.Frag} {Z : Hp} {ds : List D} {vs : List V} (r : RepL K Z vs ds) : RepL K Z vs.dropLast ds.dropLast := by
  rw [List.dropLast_eq_take, List.dropLast_eq_take, r.length]
  exact r.take _
def reverseQ : Mq := fun ds ps P => ps = [] ∧ P ds.reverse (.sc .non)
theorem MutL.reverse : MutL c rReverse reverseQ := by
  intro R O H a vs xs ds ps P Q w h r b t k
  obtain ⟨rfl, t⟩ := t
  cases b
  exact ⟨a, vs, rfl, rfl, h, k _ _ t .non _ r.reverse (.sc rfl)⟩
def setQ (s : D) (k d : D) (P : D → Prop) : Prop := match s with
  | .lst ds => (match k with | .sc (.int j) => ∃ n, ixN ds.length j = some n ∧ P (.lst (ds.set n d)) | _ => False)
  | .dic ks ds => ks.length < sizeLine ∧ ∃ j, k.key = some j ∧ P (dicOf (gPut (ks.zip ds) j d))
  | .dit ks ds => ks.length < sizeLine ∧ ∃ j, k.tkey = some j ∧ P (ditOf (gPut (ks.zip ds) j d))
  | _ => False
def s_setix (i : Nat) (tk te : Ex) : Sx := fun env E => match env[i]? with
  | some (.ow s) => te env fun d md => isBr md = false ∧ tk env fun k _ => setQ s k d fun s' => E.nx (env.set i (.ow s'))
  | _ => False
theorem gPut_ok {κ α : Type} [DecidableEq κ] {p : κ → Bool} {kvs : List (κ × α)} {k : κ} {v : α} (h : (kvs.map (·.1)).all p = true) (hk : p k = true) : ((gPut kvs k v).map (·.1)).all p = true := by
  unfold gPut
  split
  · rw [List.map_map]
    have e : ((fun x : κ × α => x.1) ∘ fun kv : κ × α => if kv.1 = k then (kv.1, v) else kv) = fun x => x.1 := by
      funext a
      show (if a.1 = k then (a.1, v) else a).1 = a.1
      split <;> rfl
    rw [e]
    exact h
  · rw [List.map_append, List.all_append, h]
    simpa using hk
theorem Rb.keyOk {R O : List Addr} {H : Hp} {x : V} {d : D} {k : Key} (b : Rb c R O H x d) (e : d.key = some k) : okK k = true := by
  unfold D.key at e
  split at e
  · cases e; rfl
  · cases e; exact b.ok
  · cases e
theorem keys_ok {Z : Hp} : ∀ {ds : List D} {vs : List V} {ks : List Key}, RepL c.K Z vs ds → D.keys ds = some ks → ks.all okK = true
  | [], _, _, h, e => by cases h; cases e; rfl
  | d :: ds, _, _, h, e => by
    cases h with
    | @cons v vs _ _ a b =>
      unfold D.keys at e
      split at e
      · rename_i k ks h1 h2
        cases e
        rw [List.all_cons, keys_ok b h2, Bool.and_true]
        unfold D.key at h1
        split at h1
        · cases h1; rfl
        · cases h1; cases a; assumption
        · cases h1
      · cases e
theorem Rb.tkeyOk {R O : List Addr} {H : Hp} {x : V} {d : D} {k : List Key} (b : Rb c R O H x d) (e : d.tkey = some k) : k.all okK = true := by
  unfold D.tkey at e
  split at e
  · obtain ⟨a, vs, rfl, h, r⟩ := b.tup
    exact keys_ok r e
  · cases e
theorem zip_fst {κ : Type} {kvs : List (κ × V)} {ds : List D} (h : kvs.length = ds.length) : ((kvs.map (·.1)).zip ds).map (·.1) = kvs.map (·.1) := by
  rw [List.map_fst_zip]
  simp [h]
theorem set_l {R O : List Addr} {H : Hp} {a : Addr} {s k d : D} {P : D → Prop} {v vk : V} {Q : Hp → Prop} (w : HW c R O H) (ma : a ∈ O) (x : Own c.K H (cut H (O ++ (c.A ++ R))) a s) (rk : Rb c R O H vk k) (rv : Rep c.K (cut H (O ++ (c.A ++ R))) v d) (t : setQ s k d P)
    (kk : ∀ s', P s' → ∀ o', Own c.K (upd H a o') (cut H (O ++ (c.A ++ R))) a s' → Q (upd H a o')) : rSetL (.ref a) vk v H Q ∨ ∃ a' H', V.ref a = .ref a' ∧ DPut H a' vk v H' ∧ Q H' := by
  unfold setQ at t
  split at t
  · split at t
    · obtain ⟨n, e, t⟩ := t
      cases x with
      | lst h r => exact .inl ⟨a, _, _, n, rfl, rk.sc, h, by rw [r.length]; exact e, kk _ t _ (.lst upd_same (r.set rv n))⟩
    · exact t.elim
  · obtain ⟨hl, j, e, t⟩ := t
    cases x with
    | @dic kvs _ _ h ek r =>
      cases rk.key e
      obtain ⟨ek, ok⟩ := ek
      subst ek
      obtain ⟨p1, p2⟩ := repPut rv j r
      exact .inr ⟨a, _, rfl, .inl ⟨kvs, j, h, rfl, by simpa using hl, rfl⟩, kk _ t _ (.dic upd_same ⟨p1, gPut_ok (by rw [zip_fst (by simpa using r.length)]; exact ok) (rk.keyOk e)⟩ p2)⟩
  · obtain ⟨hl, j, e, t⟩ := t
    cases x with
    | @dit kvs _ _ h ek r =>
      obtain ⟨ek, ok⟩ := ek
      subst ek
      have ok2 := rk.tkeyOk e
      obtain ⟨q, rfl, hq⟩ := rk.tkey e
      obtain ⟨p1, p2⟩ := repPut rv j r
      exact .inr ⟨a, _, rfl, .inr ⟨kvs, j, q, h, rfl, hq, by simpa using hl, rfl⟩, kk _ t _ (.dit upd_same ⟨p1, gPut_ok (by rw [zip_fst (by simpa using r.length)]; exact ok) ok2⟩ p2)⟩
  · exact t.elim
def rSetA : TSet := fun o i v H Q => rSetL o i v H Q ∨ ∃ a H', o = .ref a ∧ DPut H a i v H' ∧ Q H'
theorem set_A (hu : X.A.units + 1 < cLine) : PSet X rSetA := by
  intro pins s σ H o i v ov iv u Q I ro ri rv h
  rcases h with h | ⟨a, H', rfl, g, q⟩
  · exact set_list pins s σ H o i v ov iv u Q I ro ri rv h
  · cases ro
    exact d_setItem hu I g ri rv fun s' I' => ⟨H', I', q⟩
theorem p_setix {i : Nat} {x : Str} {k e : Expr} {tk te : Ex} {np sp pos : Pos} (hu : X.A.units + 1 < cLine) (ho : PE X (.Name x np) (tVar i)) (hk : PE X k (lE c tk)) (he : PE X e (lE c te)) (hs : swapsWithSole [.Subscript (.Name x np) k sp] e pos.line X.env = pure false := by rfl) (hw : swappedStores [.Subscript (.Name x np) k sp] e X.env = pure none := by rfl)
    (h1 : (assignEach [.Subscript (.Name x np) k sp] X.env).map (·.2) = [assign (.Subscript (.Name x np) k sp) X.env] := by rfl)
    (ha : ∀ v, assign (.Subscript (.Name x np) k sp) X.env v = (do
      let ov ← holding [v] (eval (.Name x np) X.env)
      let iv ← holding [v, ov] (eval k X.env)
      standAt sp
      holding [v, ov, iv] (setItem ov iv v)
      release [v, ov, iv] []) := by intro _; rfl) : PS X (.Assign [.Subscript (.Name x np) k sp] e pos) (lS c (s_setix i tk te)) :=
  PSw (ps_asg he (pg_sub ho hk (set_A hu) ha) hs hw h1) fun E σ H ⟨R, O, env, E', q, t, o⟩ => by
    unfold s_setix at t
    split at t
    · rename_i s ed
      refine ⟨R, O, env, _, q, t, fun d md ⟨nb, t⟩ v H1 R1 s1 m1 => ?_⟩
      have q1 := q.step s1
      obtain ⟨a, qa, ma, xa⟩ := q1.ow i s ed
      refine ⟨_, qa, R1, O, env, _, q1, t, fun kd _ t vk H2 R2 s2 m2 => ?_⟩
      have q2 := q1.step s2
      obtain ⟨a', qa', ma', xa'⟩ := q2.ow i s ed
      have ea : a = a' := V.ref.inj (Option.some.inj (Option.some.inj (qa.symm.trans qa')))
      subst ea
      exact set_l q2.toHW ma xa' (m2.rb q2.toHW) ((m1.step q1.toHW s2).stab (notBr nb)) t fun s' z o' x' => o.nx _ z _ _ _ _ (q2.mut ed qa ma x')
    · exact t.elim
def e_dnew : Ex := fun _ Q => Q (.dic [] []) .ow
def e_dnewT : Ex := fun _ Q => Q (.dit [] []) .ow
theorem RM.newD {R O : List Addr} {H Ha : Hp} {p : Addr} {o : HO} {d : D} (w : HW c R O H) (n : H p = none) (na : Ha p = none) (x : Own c.K (upd H p o) (cut (upd H p o) (p :: (O ++ (c.A ++ R)))) p d) : RM c Ha R O (upd H p o) (.ref p) d .ow := by
  have fr := w.fresh n
  simp only [List.mem_append, not_or] at fr
  exact ⟨p, rfl, na, fr.1, fr.2.1, fr.2.2, x⟩
theorem p_dnew {pos : Pos} : PE X (.Dict [] [] pos) (lE c e_dnew) := PEw pe_dnewK fun σ H Q ⟨R, O, env, Q', q, t, k⟩ p n => k _ _ t _ _ R (Stp.alloc q.rok n) (RM.newD q.toHW n n (.dic upd_same ⟨rfl, rfl⟩ .nil))
def isDict : D → Bool
  | .dic _ _ => true
  | .dit _ _ => true
  | _ => false
def e_get2 (td tk tx : Ex) : Ex := fun env Q => td env fun d _ => isDict d = true ∧ tk env fun k _ => tx env fun z md => isBr md = false ∧ getQ d k fun o => Q (o.getD z) .st
theorem Rb.isD {R O : List Addr} {H : Hp} {v : V} {d : D} (b : Rb c R O H v d) (h : isDict d = true) : ∃ a, v = .ref a ∧ IsD H a := by
  cases d with
  | dic ks ds => obtain ⟨a, kvs, rfl, h, _⟩ := b.dic; exact ⟨a, rfl, .inl ⟨_, h⟩⟩
  | dit ks ds => obtain ⟨a, kvs, rfl, h, _⟩ := b.dit; exact ⟨a, rfl, .inr ⟨_, h⟩⟩
  | _ => cases h
theorem p_get2 {o e f : Expr} {apos cpos : Pos} {td tk tx : Ex} (hu : X.A.units + 1 < cLine) (ho : PE X o (lE c td)) (he : PE X e (lE c tk)) (hf : PE X f (lE c tx)) (m : M2 X o "get" apos e f cpos) : PE X (.Call (.Attribute o "get" apos) [e, f] [] cpos) (lE c (e_get2 td tk tx)) :=
  PEw (pe_dget2 hu ho he hf m) fun σ H Q ⟨R, O, env, Q', q, t, k⟩ => ⟨R, O, env, _, q, t, fun d md ⟨hd, t⟩ v H1 R1 s1 m1 => by
    have q1 := q.step s1
    obtain ⟨a, e, hd'⟩ := (m1.rb q1.toHW).isD hd
    subst e
    refine ⟨a, rfl, hd', R1, O, env, _, q1, t, fun kd _ t vk H2 R2 s2 m2 => ?_⟩
    have q2 := q1.step s2
    refine ⟨R2, O, env, _, q2, t, fun z mz ⟨nb, t⟩ vz H3 R3 s3 m3 => ?_⟩
    have q3 := q2.step s3
    obtain ⟨p, e, _, ov, od, g, t, eo⟩ := get_l (((m1.step q1.toHW s2).step q2.toHW s3).rb q3.toHW) ((m2.step q2.toHW s3).rb q3.toHW) t
    cases e
    refine ⟨ov, g, k _ _ t _ H3 R3 ((s1.trans s2).trans s3) ?_⟩
    rcases eo with ⟨rfl, rfl⟩ | ⟨v, z', rfl, rfl, rz⟩
    · exact m3.stab (notBr nb)
    · exact rz⟩
end
end P
namespace P
open PySem PySem.Spec PyProof.Rows L2
section
variable {X : Cx} {c : Fc}
def rangeD (lo st : Int) : Nat → List D
  | 0 => []
  | n + 1 => .sc (.int lo) :: rangeD (lo + st) st n
theorem rangeD_length (st : Int) : ∀ (n : Nat) (lo : Int), (rangeD lo st n).length = n
  | 0, _ => rfl
  | n + 1, lo => by rw [rangeD, List.length_cons, rangeD_length]
theorem rangeD_get (st : Int) : ∀ (n : Nat) (lo : Int) (i : Nat), (rangeD lo st n)[i]? = if i < n then some (.sc (.int (lo + (i : Nat) * st))) else none
  | 0, _, _ => by simp [rangeD]
  | n + 1, lo, 0 => by simp [rangeD]
  | n + 1, lo, i + 1 => by
    rw [rangeD, List.getElem?_cons_succ, rangeD_get]
    have e : lo + st + ((i : Nat) : Int) * st = lo + ((i + 1 : Nat) : Int) * st := by
      push_cast
      rw [Int.add_mul, Int.one_mul]
      omega
    rw [e]
    simp
abbrev Iq := List (D × Md) → (List D → Bool → Prop) → Prop
def i_ps (iq : Iq) (ta : Ax) : Ix := fun env Q => ta env fun ps => iq ps Q
def r1Q : Iq := fun ps Q => match ps with
  | [(.sc (.int j), _)] => (-(2 ^ 62) ≤ j ∧ j < 2 ^ 62) ∧ Q (rangeD 0 1 j.toNat) true
  | _ => False
def r2Q : Iq := fun ps Q => match ps with
  | [(.sc (.int i), _), (.sc (.int j), _)] => (-(2 ^ 62) ≤ i ∧ i < 2 ^ 62 ∧ -(2 ^ 62) ≤ j ∧ j < 2 ^ 62) ∧ Q (rangeD i 1 (j - i).toNat) true
  | _ => False
theorem walks_r {lo : Int} {n : Nat} : Walks c (Itr lo n) [] (rangeD lo 1 n) := fun R O H w _ => by
  refine ⟨by show n ≤ _; rw [rangeD_length]; exact Nat.le_refl _, fun i d q => ?_⟩
  rw [rangeD_get] at q
  by_cases h : i < n
  · rw [if_pos h] at q
    cases q
    refine ⟨h, fun x H' ⟨e1, e2⟩ => ?_⟩
    subst e1 e2
    rw [Int.mul_one]
    exact ⟨w.refl, .sc rfl⟩
  · rw [if_neg h] at q; cases q
/-- an iterator made of arguments -/
def IteL (c : Fc) (wi : List V → Hp → (It → Hp → Prop) → Prop) (iq : Iq) : Prop := ∀ R O H vs ps Q' Q, HW c R O H → Rbs c R O H vs ps → iq ps Q' →
  (∀ ds b, Q' ds b → ∀ J g, (∀ p ∈ g, Rb c R O H p.1 p.2) → (b = true → ∀ p ∈ g, Rep c.K (cut H (O ++ (c.A ++ R))) p.1 p.2) → Walks c J g ds → Q J H) → wi vs H Q
theorem ite_l {wi : List V → Hp → (It → Hp → Prop) → Prop} {iq : Iq} {ta : Ax} {σ : L2.St} {H : Hp} {Q : It → Hp → Prop} (h : IteL c wi iq) (x : lI c (i_ps iq ta) σ H Q) : lA c ta σ H fun vs H1 => wi vs H1 Q := by
  obtain ⟨R, O, env, Q', r, t, k⟩ := x
  refine ⟨R, O, env, _, r, t, fun ps t2 vs H1 R1 s1 m => ?_⟩
  have w1 := (r.step s1).toHW
  exact h R1 O H1 vs ps Q' Q w1 (m.rbs w1) t2 fun ds b q J g g1 g2 wk => k ds b q J g H1 R1 s1 g1 g2 wk
theorem p_rng1 {tg a : Expr} {ta : Ax} {p pos : Pos} (hg : Gl X "range") (hm : X.mg "range" = none) (ha : PA X [a] (lA c ta)) (hs : starEach [a] X.env = [(false, eval a X.env)] := by rfl) : PI X tg (.Call (.Name "range" p) [a] [] pos) (lI c (i_ps r1Q ta)) :=
  PIw (pi_range1 hg hm ha hs) fun σ H Q x => ite_l (wi := fun vs H1 Q => ∃ j : Int, vs = [.int j] ∧ -(2 ^ 62) ≤ j ∧ j < 2 ^ 62 ∧ Q (Itr 0 j.toNat) H1) (fun R O H vs ps Q' Q w b t k => by
    unfold r1Q at t
    split at t
    · obtain ⟨x, rfl, b, _⟩ := b.one
      cases b.sc
      exact ⟨_, rfl, t.1.1, t.1.2, k _ _ t.2 _ [] (fun p z => nomatch z) (fun _ p z => nomatch z) walks_r⟩
    · exact t.elim) x
def enumD : Nat → List D → List D
  | _, [] => []
  | k, d :: ds => .tup [.sc (.int k), d] :: enumD (k + 1) ds
def zipD (xs ys : List D) : List D := List.zipWith (fun x y => .tup [x, y]) xs ys
def leD (a b : D) : Bool := PySem.W.dataLe false D.py a b
def sortOk (ds : List D) : Prop := PySem.W.AllAlike (ds.map D.py) ∧ PySem.W.Sortable (ds.map D.py) ∧ D.plain.plainL ds = true ∧ D.dep.depL ds ≤ 50
def rSortD (K : PySem.W.Frag) : List V → Hp → VK → Prop := fun xs H Q => ∃ (a : Addr) (bs : List (V × D)), xs = [.ref a] ∧ SqL K H a (bs.map (·.1)) ∧ (∀ b ∈ bs, Dp K H b.1 b.2.py ∧ b.2.py.depth ≤ 50) ∧ PySem.W.AllAlike (bs.map fun b => b.2.py) ∧ PySem.W.Sortable (bs.map fun b => b.2.py) ∧
  ∀ p, H p = none → Q (.ref p) (upd H p (.lst ((bs.mergeSort (PySem.W.dataLe false fun b => b.2.py)).map (·.1))))
theorem each_of {R : Value → V × D → Prop} : ∀ {bs : List (V × D)} {us : List Value}, Vals (bs.map (·.1)) us → (∀ b ∈ bs, ∀ u, RelV b.1 u → R u b) → PySem.W.EachIs R us bs
  | [], us, r, _ => by cases r; exact .nil
  | b :: bs, us, r, h => by
    cases r with
    | cons a t => exact .cons (h b List.mem_cons_self _ a) (each_of t fun b' m => h b' (List.mem_cons_of_mem _ m))
theorem of_each : ∀ {bs : List (V × D)} {us : List Value}, PySem.W.EachIs (fun u (b : V × D) => RelV b.1 u) us bs → Vals (bs.map (·.1)) us
  | [], us, r => by cases r; exact .nil
  | b :: bs, us, r => by cases r with | cons a t => exact .cons a (of_each t)
theorem call_sortD (hu : X.A.units + 64 < cLine) : CallR X (.builtin "sorted") (rSortD X.K) := by
  intro pins s σ H xs us Q I r h
  obtain ⟨a, bs, rfl, hs, hb, hal, hsrt, q⟩ := h
  obtain ⟨its, rv, hl, hz⟩ := I.list hs
  rw [Vals.ref1 r]
  have hlen : bs.length ≤ sizeLine := by simpa using hz
  refine PySem.W.sorted_data (R := fun u (b : V × D) => RelV b.1 u) (enc := fun b => b.2.py) (vs := its) (bs := bs) hl.isList (each_of rv fun b m u ru => ru) (each_of rv fun b m u ru => ?_) hal hsrt hlen (fun b m => ?_) fun out ho eo => ?_
  · exact Dp.reads I _ _ _ (hb b m).1 ru
  · have := (hb b m).2
    omega
  · obtain ⟨ep, he'⟩ := PyProof.Rows.sortedAll_at s.heap its out.toArray
    have l2 : ((bs.mergeSort (PySem.W.dataLe false fun b => b.2.py)).map (·.1)).length ≤ sizeLine := by rw [List.length_map, List.length_mergeSort]; exact hlen
    exact ⟨.ref _, upd H (s.heap.objs.size + 1) (.lst ((bs.mergeSort (PySem.W.dataLe false fun b => b.2.py)).map (·.1))), I.laid (t' := s.toks) (fun _ _ => PyProof.Rows.sortedAll_old) (Nat.le_succ _) ⟨l2, out, ep, of_each eo, he'⟩, rfl, q _ (I.hok.fresh (Nat.le_succ _))⟩
/-- sorted of a tuple -/
theorem repZ {Z : Hp} : ∀ {ds : List D} {vs : List V}, RepL c.K Z vs ds → ∃ bs : List (V × D), bs.map (·.1) = vs ∧ bs.map (·.2) = ds ∧ ∀ b ∈ bs, Rep c.K Z b.1 b.2
  | [], _, h => by cases h; exact ⟨[], rfl, rfl, fun _ z => nomatch z⟩
  | d :: ds, _, h => by
    cases h with
    | @cons v vs _ _ a b =>
      obtain ⟨bs, e1, e2, hb⟩ := repZ b
      refine ⟨(v, d) :: bs, by rw [List.map_cons, e1], by rw [List.map_cons, e2], fun b m => ?_⟩
      rcases List.mem_cons.mp m with rfl | m
      · exact a
      · exact hb b m
theorem repL_of {Z : Hp} : ∀ {bs : List (V × D)}, (∀ b ∈ bs, Rep c.K Z b.1 b.2) → RepL c.K Z (bs.map (·.1)) (bs.map (·.2))
  | [], _ => .nil
  | b :: bs, h => .cons (h b List.mem_cons_self) (repL_of fun b' m => h b' (List.mem_cons_of_mem _ m))
theorem plain_mem : ∀ {ds : List D}, D.plain.plainL ds = true → ∀ d ∈ ds, d.plain = true
  | d :: ds, p, e, m => by
    simp only [D.plain.plainL, Bool.and_eq_true] at p
    rcases List.mem_cons.mp m with rfl | m
    · exact p.1
    · exact plain_mem p.2 e m
theorem dep_mem : ∀ {ds : List D} {n : Nat}, D.dep.depL ds ≤ n → ∀ d ∈ ds, d.dep ≤ n
  | d :: ds, n, p, e, m => by
    simp only [D.dep.depL] at p
    rcases List.mem_cons.mp m with rfl | m
    · omega
    · exact dep_mem (by omega) e m
def sortedLQ : Cq := fun ps Q => match ps with
  | [(d, _)] => seqQ d fun ds => sortOk ds ∧ Q (.lst (ds.mergeSort leD)) .ow
  | _ => False
theorem seqQ_l {d : D} {Q : List D → Prop} (h : seqQ d Q) : ∃ ds, d = .lst ds ∧ Q ds := by
  unfold seqQ at h
  split at h
  · exact ⟨_, rfl, h⟩
  · exact h.elim
theorem CalL.sorted (hK : X.K = c.K) : CalL c (rSortD X.K) sortedLQ := by
  intro R O H xs ps Q' Q w b t k
  rw [hK]
  unfold sortedLQ at t
  split at t
  · obtain ⟨x, rfl, bb, stb⟩ := b.one
    obtain ⟨ds, rfl, ⟨h1, h2, h3, h4⟩, t⟩ := seqQ_l t
    obtain ⟨a, vs, rfl, h, r⟩ := bb.lst
    obtain ⟨bs, e1, e2, hb⟩ := repZ r
    have sm : Same (cut H (O ++ (c.A ++ R))) H := fun b o e => (cut_some e).2
    have em : bs.map (fun b => b.2.py) = ds.map D.py := by rw [← e2, List.map_map]; rfl
    refine ⟨a, bs, rfl, by rw [e1]; exact h, fun b m => ?_, by rw [em]; exact h1, by rw [em]; exact h2, fun p n => ?_⟩
    · have hm : b.2 ∈ ds := by rw [← e2]; exact List.mem_map_of_mem m
      have pl := plain_mem h3 _ hm
      refine ⟨Dp.mono sm ((hb b m).dp pl).1, ?_⟩
      rw [py_depth _ pl]
      exact dep_mem h4 _ hm
    · have es : (bs.mergeSort (PySem.W.dataLe false fun b => b.2.py)).map (·.2) = ds.mergeSort leD := by
        rw [← e2]
        exact List.map_mergeSort fun a _ b _ => rfl
      refine k _ _ t _ _ R (Stp.alloc w.rok n) (RM.newL w n n ?_)
      rw [← es]
      exact repL_of fun b m => hb b (List.mem_mergeSort.mp m)
  · exact t.elim
end
end P
namespace P
open PySem PySem.Spec PyProof.Rows L2
section
variable {X : Cx} {c : Fc}
def iQ (C : Int → Int → Prop) (g : Int → Int → Int) (d e : D) (Q : D → Md → Prop) : Prop := match d, e with
  | .sc (.int i), .sc (.int j) => C i j ∧ Q (.sc (.int (g i j))) .st
  | _, _ => False
theorem OpL.i {C C' : Int → Int → Prop} {g : Int → Int → Int} (w : ∀ i j, C' i j → C i j) : OpL c (rI C fun i j => .int (g i j)) (iQ C' g) := by
  intro R O H x y dx dy Q' Q w' a b t k
  unfold iQ at t
  split at t
  · exact ⟨_, _, a.sc, b.sc, w _ _ t.1, k _ _ t.2 _ H R w'.refl (.sc rfl)⟩
  · exact t.elim
def subQ : D → D → (D → Md → Prop) → Prop := iQ (fun _ _ => True) fun i j => i - j
theorem op_subA : OpR X (binaryOp .Sub) (rI (fun _ _ => True) fun i j => .int (i - j)) := fun pins s σ H x y v u Q I rx ry ⟨i, j, a, b, _, q⟩ => op_sub pins s σ H x y v u Q I rx ry ⟨i, j, a, b, q⟩
theorem OpL.sub : OpL c (rI (fun _ _ => True) fun i j => .int (i - j)) subQ := OpL.i fun _ _ h => h
def fdivQ : D → D → (D → Md → Prop) → Prop := iQ (fun _ j => 0 < j ∧ j < 10000000000000000000000000000000000000000000000000000000000000000000000000000000000000000000000000000) fun i j => i / j
theorem OpL.fdiv : OpL c (rI CDivW fun i j => .int (i / j)) fdivQ := OpL.i fun i j h => wide_div (b := 400) h.1 (by
  have e : 10000000000000000000000000000000000000000000000000000000000000000000000000000000000000000000000000000 < (2 : Nat) ^ 400 := by decide +kernel
  have h2 := h.2
  omega) (by decide) (by decide)
def modQ : D → D → (D → Md → Prop) → Prop := iQ (fun _ j => 0 < j) fun i j => i % j
theorem OpL.mod : OpL c (rI (fun _ j => 0 < j) fun i j => .int (i % j)) modQ := OpL.i fun _ _ h => h
def powQ : D → D → (D → Md → Prop) → Prop := iQ (fun i j => 0 ≤ j ∧ j ≤ 1000 ∧ 0 ≤ i ∧ i ≤ 1000) fun i j => i ^ j.toNat
theorem OpL.pow : OpL c (rI CPow fun i j => .int (i ^ j.toNat)) powQ := OpL.i fun i j h => ⟨h.1, by omega, by
  have e : (2 : Nat) ^ 64 = 18446744073709551616 := by decide
  rw [e]; omega⟩
/-- one factor below 2^64 -/
def mulQ (d e : D) (Q : D → Md → Prop) : Prop := match d, e with
  | .sc (.int i), .sc (.int j) => (i.natAbs < 18446744073709551616 ∨ j.natAbs < 18446744073709551616) ∧ Q (.sc (.int (i * j))) .st
  | _, _ => False
theorem op_mulA : OpR X (binaryOp .Mult) (rI CMul fun i j => .int (i * j)) := op_mul
theorem OpL.mul : OpL c (rI CMul fun i j => .int (i * j)) mulQ := by
  intro R O H x y dx dy Q' Q w' a b t k
  unfold mulQ at t
  split at t
  · rename_i i j
    refine ⟨_, _, a.sc, b.sc, ?_, k _ _ t.2 _ H R w'.refl (.sc rfl)⟩
    have e : (2 : Int) ^ 64 = 18446744073709551616 := by decide
    unfold CMul
    rw [e]
    rcases t.1 with h | h
    · left; omega
    · right; omega
  · exact t.elim
abbrev ltQ := cmpQ (fun i j => decide (i < j)) fun i j => decide (i.cps.toList < j.cps.toList)
abbrev leQ := cmpQ (fun i j => decide (i ≤ j)) fun i j => !decide (j.cps.toList < i.cps.toList)
abbrev gtQ := cmpQ (fun i j => decide (j < i)) fun i j => decide (j.cps.toList < i.cps.toList)
theorem op_eqA (hu : X.A.units + 64 < cLine) : OpR X (compareOp .Eq) (rEqD X.K) := op_eqD hu
theorem op_neA (hu : X.A.units + 64 < cLine) : OpR X (compareOp .NotEq) (rNeD X.K) := op_neD hu
def e_chain (oq oq' : D → D → (D → Md → Prop) → Prop) (ta tb tc : Ex) : Ex := fun env Q => ta env fun d _ => tb env fun e _ => oq d e fun z _ => blQ z fun b => if b = true then tc env fun f _ => oq' e f Q else Q (.sc (.bl false)) .st
def t_chain (oq oq' : D → D → (D → Md → Prop) → Prop) (ta tb tc : Ex) : Tx := fun env Q => e_chain oq oq' ta tb tc env fun d _ => blQ d Q
theorem chain_l {ta tb tc : Ex} {σ : L2.St} {H : Hp} {R O : List Addr} {env : En} {oq oq' : D → D → (D → Md → Prop) → Prop} {r r' : R2} {Q' : D → Md → Prop} {Q : VK} (h : OpL c r oq) (h' : OpL c r' oq') (q : Rel c R O σ H env) (t : e_chain oq oq' ta tb tc env Q')
    (k : ∀ d md, Q' d md → ∀ v H' R', Stp c.Φ R R' H H' → RM c H R' O H' v d md → Q v H') : tChain r r' (lE c ta) (lE c tb) (lE c tc) σ H Q := by
  refine ⟨R, O, env, _, q, t, fun d md t1 v1 H1 R1 s1 m1 => ?_⟩
  have q1 := q.step s1
  refine ⟨R1, O, env, _, q1, t1, fun e me t2 v2 H2 R2 s2 m2 => ?_⟩
  have q2 := q1.step s2
  refine h R2 O H2 v1 v2 d e _ _ q2.toHW ((m1.step q1.toHW s2).rb q2.toHW) (m2.rb q2.toHW) t2 fun d' md' t3 v3 H3 R3 s3 m3 => ?_
  have q3 := q2.step s3
  obtain ⟨b, e3, t4⟩ := blQ_l t3
  subst e3
  refine ⟨b, (m3.rb q3.toHW).sc, ?_⟩
  have s123 := (s1.trans s2).trans s3
  cases b with
  | false =>
    rw [if_neg Bool.false_ne_true] at t4 ⊢
    exact k _ _ t4 _ H3 R3 s123 (.sc rfl)
  | true =>
    rw [if_pos rfl] at t4 ⊢
    refine ⟨R3, O, env, _, q3, t4, fun f mf t5 v5 H5 R5 s5 m5 => ?_⟩
    have q5 := q3.step s5
    refine h' R5 O H5 v2 v5 e f Q' Q q5.toHW ((((m2.rb q2.toHW).step q2.toHW s3).step q3.toHW s5)) (m5.rb q5.toHW) t5 fun d6 md6 t6 v6 H6 R6 s6 m6 => ?_
    exact k d6 md6 t6 v6 H6 R6 ((s123.trans s5).trans s6) (m6.ahead fun a n => Stp.nn q.rok s123 (Stp.nn q3.rok s5 n))
theorem p_chain {a b e : Expr} {op op' : CmpOp} {pos : Pos} {ta tb tc : Ex} {oq oq' : D → D → (D → Md → Prop) → Prop} {r r' : R2} (ho : OpR X (compareOp op) r) (h : OpL c r oq) (ho' : OpR X (compareOp op') r') (h' : OpL c r' oq') (ha : PE X a (lE c ta)) (hb : PE X b (lE c tb)) (hc : PE X e (lE c tc))
    (hm : lastMarks [op, op'] [b, e] = false := by with_unfolding_all rfl) : PE X (.Compare a [op, op'] [b, e] pos) (lE c (e_chain oq oq' ta tb tc)) :=
  PEw (pe_chain ho ho' ha hb hc hm) fun σ H Q ⟨R, O, env, Q', q, t, k⟩ => chain_l h h' q t k
theorem p_tchain {a b e : Expr} {op op' : CmpOp} {pos : Pos} {ta tb tc : Ex} {oq oq' : D → D → (D → Md → Prop) → Prop} {r r' : R2} (ho : OpR X (compareOp op) r) (h : OpL c r oq) (ho' : OpR X (compareOp op') r') (h' : OpL c r' oq') (ha : PE X a (lE c ta)) (hb : PE X b (lE c tb)) (hc : PE X e (lE c tc))
    (hm : lastMarks [op, op'] [b, e] = false := by with_unfolding_all rfl) : PT X (.Compare a [op, op'] [b, e] pos) (lT c (t_chain oq oq' ta tb tc)) :=
  PTw (pt_chain ho ho' ha hb hc hm) fun σ H Q ⟨R, O, env, Q', q, t, k⟩ => chain_l h h' q t fun d md z v H' R' s m => by
    obtain ⟨b, e, z'⟩ := blQ_l z
    subst e
    exact ⟨b, (m.rb (q.step s).toHW).sc, k b z' H' R' s⟩
def negQ (d : D) (Q : D → Md → Prop) : Prop := match d with
  | .sc (.int i) => Q (.sc (.int (-i))) .st
  | _ => False
def e_neg (ta : Ex) : Ex := fun env Q => ta env fun d _ => negQ d Q
theorem p_neg {a : Expr} {pos : Pos} {ta : Ex} (ha : PE X a (lE c ta)) : PE X (.UnaryOp .USub a pos) (lE c (e_neg ta)) :=
  PEw (pe_un un_neg ha) fun σ H Q ⟨R, O, env, Q', q, t, k⟩ => ⟨R, O, env, _, q, t, fun d md t1 v1 H1 R1 s1 m1 => by
    unfold negQ at t1
    split at t1
    · exact ⟨_, (m1.rb (q.step s1).toHW).sc, k _ _ t1 _ H1 R1 s1 (.sc rfl)⟩
    · exact t1.elim⟩
def GlobK (K : PySem.W.Frag) (mg : Str → Option Value) (x : Str) (d : D) : Prop := ∃ v u, mg x = some u ∧ RelV v u ∧ ∀ Z, Rep K Z v d
theorem p_glob {x : Str} {d : D} {pos : Pos} (hK : X.K = c.K) (hg : Gl X x) (g : GlobK X.K X.mg x d) (hd : (x == ("__debug__" : Str)) = false := by decide) : PE X (.Name x pos) (lE c (e_k d)) := by
  obtain ⟨v, u, h1, h2, h3⟩ := g
  exact p_globK (pe_glob hg h1 h2 hd) fun Z => hK ▸ h3 Z
theorem globI {K : PySem.W.Frag} {mg : Str → Option Value} {x : Str} {i : Int} (h : ∃ t, mg x = some (.int i t)) : GlobK K mg x (.sc (.int i)) := by
  obtain ⟨t, e⟩ := h
  exact ⟨.int i, _, e, ⟨t, rfl⟩, fun Z => .sc rfl⟩
theorem globS {K : PySem.W.Frag} {mg : Str → Option Value} {x i : Str} (h : ∃ t, mg x = some (.str i t)) (o : PyData.strOk i = true) : GlobK K mg x (.sc (.str i)) := by
  obtain ⟨t, e⟩ := h
  exact ⟨.str i, _, e, ⟨t, rfl⟩, fun Z => .sc o⟩
/-- a constant tuple's parts -/
inductive RepC (K : PySem.W.Frag) : List V → List D → Prop
  | nil : RepC K [] []
  | cons {v : V} {vs : List V} {ds : List D} (o : okV v = true) : RepC K vs ds → RepC K (v :: vs) (.sc v :: ds)
theorem RepC.rep {K : PySem.W.Frag} {Z : Hp} : ∀ {vs : List V} {ds : List D}, RepC K vs ds → RepL K Z vs ds
  | _, _, .nil => .nil
  | _, _, .cons o r => .cons (.sc o) r.rep
def dvOk : He.Dv → Bool
  | .int _ => true
  | .bl _ => true
  | .non => true
  | .str x => PyData.strOk x
  | _ => false
def dvD : He.Dv → D
  | .int i => .sc (.int i)
  | .bl b => .sc (.bl b)
  | .str x => .sc (.str x)
  | _ => .sc .non
theorem repC_dv {K : PySem.W.Frag} : ∀ vs : List He.Dv, vs.all dvOk = true → RepC K (vs.map (He.Dv.v K)) (vs.map dvD)
  | [], _ => .nil
  | v :: vs, h => by
    rw [List.all_cons, Bool.and_eq_true] at h
    have ih := repC_dv (K := K) vs h.2
    cases v with
    | int i => exact .cons rfl ih
    | bl i => exact .cons rfl ih
    | non => exact .cons rfl ih
    | str x => exact .cons h.1 ih
    | _ => exact absurd h.1 Bool.false_ne_true
theorem globT {K : PySem.W.Frag} {mg : Str → Option Value} {x : Str} {a : Addr} {vs : List He.Dv} (h : mg x = some (.ref a)) (t : ∀ Z, SqT K Z a (vs.map (He.Dv.v K))) (r : vs.all dvOk = true) : GlobK K mg x (.ktp (vs.map dvD)) :=
  ⟨.ref a, .ref a, h, rfl, fun Z => .ktp t (repC_dv vs r).rep⟩
theorem p_ty {x : Str} {n : String} {pos : Pos} (hg : Gl X x) (hm : X.mg x = none) (hv : bootBuiltins x = some (.type n)) (hn : x ≠ "__name__" := by decide) (hd : (x == ("__debug__" : Str)) = false := by decide) : PE X (.Name x pos) (lE c (e_c (.ty n))) :=
  p_const (pe_bltn hg hm hv rfl hn hd)
end
def Φ0 : HO → Prop := fun _ => False
theorem hΦ0 : ∀ o, Φ0 o → Loose o := fun _ h => h.elim
section
variable {P' : Program} {w : World} {K : PySem.W.Frag} {mg : Str → Option Value} {base : Heap} {Φ : HO → Prop} {hΦ : ∀ o, Φ o → Loose o}
theorem fnD {x qual : Str} {params : Arguments} {body : List Stmt} {scope : Scope} {dvs : List V} {kws : List (Str × V)} {f : Addr} {fd : FuncData} {N ps : List Str} {k : Nat} {C : Ct} (F : FunD K x qual params body scope dvs kws f fd) (S : FnScope N ps scope)
    (hbody : ∀ (cdv : Value) (A : Around) (outer : List Env) (s : Shared) (H : Hp) (R Ao : List Addr) (E : XK), Room k (A.deeper (envOfC qual scope s.heap.objs.size f cdv)) →
      ∃ g, PSs (cxOf CX0 P' w K mg base N qual scope f cdv A outer s H E).nox body (lS (ctx K Φ hΦ H R Ao noX) g) ∧ ∀ ds Q, C ds Q → g (startE N ds) (osOf Q)) : FnOk P' w K mg base CX0 (k + 1) f fd ps (spP K Φ hΦ ps.length C) := by
  refine F.ok S (fun vs H Q E h => h.1) fun cdv A outer s H vs Q E hr h => ?_
  obtain ⟨hl, R, Ao, ds, Q', h1, h2, h3, hc, k⟩ := h
  obtain ⟨g, hg, hq⟩ := hbody cdv A outer s H R Ao E hr
  exact ⟨_, PSs.nox hg, body_l h1 h2 h3 k (hq ds Q' hc) rfl⟩
end
theorem hu_of {k : Nat} {A : Around} (r : Room k A) : A.units + 1 < cLine := by have := r.un; omega
theorem hu65_of {k : Nat} {A : Around} (r : Room k A) : A.units + 65 < cLine := by have := r.un; omega
abbrev AlP : Type := He.AlD × Bool
def obsP (fa : List He.Fa) (fn : List He.DefD) (ex : PySem.W.Frag → Bool) (K : PySem.W.Frag) : AlP := (He.obsD fa fn K, ex K)
def SaysP (fa : List He.Fa) (fn : List He.DefD) (ex : PySem.W.Frag → Bool) (K : PySem.W.Frag) : Prop := obsP fa fn ex K = (He.valD fn, true)
def obsPG (n : Nat) (fa : List He.Fa) (fn : List He.DefD) (ex : PySem.W.Frag → Bool) (g : Addr → Option Obj) : AlP := obsP fa fn ex (He.frG g (He.asD g n))
def hookP (n : Nat) (fa : List He.Fa) (fn : List He.DefD) (ex : PySem.W.Frag → Bool) : PySem.W.Hook where
  α := AlP
  obs := fun s => obsPG n fa fn ex s.heap.get?
  val := fun _ => (He.valD fn, true)
  says := fun _ h => ∃ K : PySem.W.Frag, K.In h ∧ SaysP fa fn ex K
  of := fun _ _ e => ⟨_, He.frG_in, e⟩
  keeps := fun _ _ _ ⟨K, hK, c⟩ k => ⟨K, PySem.W.Frag.In.keeps hK k, c⟩
theorem obsPG_eq {n : Nat} {fa : List He.Fa} {fn : List He.DefD} {ex : PySem.W.Frag → Bool} {g : Addr → Option Obj} {s : Shared} (h : ∀ a, g a = s.heap.get? a) : obsPG n fa fn ex g = (hookP n fa fn ex).obs s := by
  have e : g = s.heap.get? := funext h
  rw [e] <;> rfl
section
variable {fa : List He.Fa} {fn : List He.DefD} {ex : PySem.W.Frag → Bool} {K : PySem.W.Frag}
theorem SaysP.d (c : SaysP fa fn ex K) : He.SaysD fa fn K := congrArg (fun z : AlP => z.1) c
theorem SaysP.exOk (c : SaysP fa fn ex K) : ex K = true := congrArg (fun z : AlP => z.2) c
theorem SaysP.fact (c : SaysP fa fn ex K) (i : Nat) {f : He.Fa} (h : fa[i]? = some f := by rfl) : f.ok K = true := c.d.fact i h
theorem SaysP.def_ (c : SaysP fa fn ex K) (i : Nat) {d : He.DefD} (h : fn[i]? = some d := by rfl) : ∃ fd, FunD K d.name d.qual d.params d.body d.scope (d.dvs K) (d.kws K) (He.fAd K d.at_) fd := c.d.def_ i h
end
/-- the script, as data -/
def scriptD (ns : List Int) : D := .lst (ns.map fun i => .sc (.int i))
theorem rep_ints {K : PySem.W.Frag} {Z : Hp} : ∀ ns : List Int, RepL K Z (ns.map V.int) (ns.map fun i => .sc (.int i))
  | [] => .nil
  | n :: ns => .cons (.sc rfl) (rep_ints ns)
theorem walk_ofEB {l : PySem.W.OpenLaw} {n k : Nat} {q : Program} {loose : List Str} {XP : (Str → Option Value) → Heap → Prop} {YP : World → Heap → Prop} {d : DefRec} {x : Str} {C : Ct}
    (hn : l.most = some n) (hn2 : n ≤ sizeLine) (hdf : d.params.defaults = []) (hr : Room k callerA)
    (F : ∀ (w : World) (mg : Str → Option Value) (fa : Addr) (h : Heap), YP w h → h.Ns mainGlobals mg → mg d.name = some (.ref fa) →
      ∃ (K : PySem.W.Frag) (fd : FuncData), K.In h ∧ (∀ (s : Shared) (u : Value), BindsTo s fd ⟨[u], []⟩ [(x, u)]) ∧
        ∀ base : Heap, K.In base → base.Ns mainGlobals mg → FnOk l.prog w K mg base CX0 k fa fd [x] (spP K Φ0 hΦ0 1 C))
    (hC : ∀ ns : List Int, ns.length ≤ n → (∀ z ∈ ns, Builtin.Int.intBits z ≤ 1048576) → C [scriptD ns] fun d _ => d = .sc (.bl true)) :
    PySem.W.WalkO q loose XP YP l.row.toRowW d [] (fun f vs => PySem.call f vs) := by
  refine Att.attach_callB hn hdf fun w s₀ s₁ mg mb fa o pm cd doc a vs ns G Y ho hd hcd hmg hobj hints hlen hbits hg => ?_
  obtain ⟨K, fd, KX, hb, hF⟩ := F w mg fa _ Y G.T.g hmg
  refine law_call KX G.T.g G.T.b G.T.builtins G.T.nolimit hg hobj hints (Nat.le_trans hlen hn2) hr hF hb (fun H hO hS => ?_) fun H e s' z => z
  refine ⟨rfl, [], [], [scriptD ns], _, (fun _ z => nomatch z), (fun _ z => nomatch z), ?_, hC ns hlen hbits, fun d md e v H' R' st m => ?_⟩
  · refine .cons (.lst ?_ (rep_ints ns)) .nil
    have e : cut H ([] ++ []) = H := by
      funext b
      exact cut_out (by simp)
    rw [e]
    exact hS
  · subst e
    cases md with
    | st => cases (show Rep _ _ v _ from m); rfl
    | br => obtain ⟨_, _, z, _⟩ := m; cases z
    | ow => obtain ⟨_, _, _, _, _, _, z⟩ := m; cases z
end P
namespace P
open PySem PySem.Spec PyProof.Rows L2
section
variable {Q : D → Md → Prop} {d e : D} {m m' : Md} {i j : Int} {x y : Str} {a b : Bool} {ds es : List D}
theorem addQ_i : addQ (.sc (.int i)) (.sc (.int j)) Q = Q (.sc (.int (i + j))) .st := rfl
theorem addQ_s : addQ (.sc (.str x)) (.sc (.str y)) Q = (x.length + y.length ≤ sizeLine ∧ Q (.sc (.str (x ++ y))) .st) := rfl
theorem addQ_l : addQ (.lst ds) (.lst es) Q = (ds.length + es.length ≤ sizeLine ∧ Q (.lst (ds ++ es)) .ow) := rfl
theorem addQ_t : addQ (.tup ds) (.tup es) Q = (ds.length + es.length ≤ sizeLine ∧ Q (.tup (ds ++ es)) .st) := rfl
theorem iQ_i {C : Int → Int → Prop} {g : Int → Int → Int} : iQ C g (.sc (.int i)) (.sc (.int j)) Q = (C i j ∧ Q (.sc (.int (g i j))) .st) := rfl
theorem mulQ_i : mulQ (.sc (.int i)) (.sc (.int j)) Q = ((i.natAbs < 18446744073709551616 ∨ j.natAbs < 18446744073709551616) ∧ Q (.sc (.int (i * j))) .st) := rfl
theorem cmpQ_i {f : Int → Int → Bool} {g : Str → Str → Bool} : cmpQ f g (.sc (.int i)) (.sc (.int j)) Q = Q (.sc (.bl (f i j))) .st := rfl
theorem cmpQ_s {f : Int → Int → Bool} {g : Str → Str → Bool} : cmpQ f g (.sc (.str x)) (.sc (.str y)) Q = Q (.sc (.bl (g x y))) .st := rfl
theorem isQ_n {n : Bool} : isQ n d (.sc .non) Q = Q (.sc (.bl (n != isNon d))) .st := rfl
theorem isQ_b {n : Bool} : isQ n (.sc (.bl a)) (.sc (.bl b)) Q = Q (.sc (.bl (n != (a == b)))) .st := rfl
theorem isNon_b : isNon (.sc (.bl a)) = false := rfl
theorem isNon_i : isNon (.sc (.int i)) = false := rfl
theorem isNon_s : isNon (.sc (.str x)) = false := rfl
theorem isNon_l : isNon (.lst ds) = false := rfl
theorem isNon_t : isNon (.tup ds) = false := rfl
theorem isNon_n : isNon (.sc .non) = true := rfl
theorem isNon_d {ks : List Key} : isNon (.dic ks ds) = false := rfl
theorem inQ_l {n : Bool} : inQ n d (.lst ds) Q = (d.plain = true ∧ D.plain.plainL ds = true ∧ d.dep ≤ 64 ∧ D.dep.depL ds ≤ 63 ∧ Q (.sc (.bl (n != ds.any fun z => eqD z d))) .st) := rfl
theorem inQ_t {n : Bool} : inQ n d (.tup ds) Q = (d.plain = true ∧ d.dep = 0 ∧ D.plain.plainL ds = true ∧ D.dep.depL ds = 0 ∧ Q (.sc (.bl (n != ds.any fun z => eqD z d))) .st) := rfl
theorem inQ_k {n : Bool} : inQ n d (.ktp ds) Q = (d.plain = true ∧ d.dep = 0 ∧ D.plain.plainL ds = true ∧ D.dep.depL ds = 0 ∧ Q (.sc (.bl (n != ds.any fun z => eqD z d))) .st) := rfl
theorem inQ_s {n : Bool} : inQ n (.sc (.str x)) (.sc (.str y)) Q = Q (.sc (.bl (n != subS x y))) .st := rfl
theorem inQ_d {n : Bool} {ks : List Key} : inQ n d (.dic ks ds) Q = getQ (.dic ks ds) d fun o => Q (.sc (.bl (n != o.isSome))) .st := rfl
theorem inQ_dt {n : Bool} {ks : List (List Key)} : inQ n d (.dit ks ds) Q = getQ (.dit ks ds) d fun o => Q (.sc (.bl (n != o.isSome))) .st := rfl
theorem ixQ_l : ixQ (.lst ds) (.sc (.int i)) Q = ∃ d, atI ds i = some d ∧ Q d .st := rfl
theorem ixQ_t : ixQ (.tup ds) (.sc (.int i)) Q = ∃ d, atI ds i = some d ∧ Q d .st := rfl
theorem ixQ_k : ixQ (.ktp ds) (.sc (.int i)) Q = ∃ d, atI ds i = some d ∧ Q d .st := rfl
theorem ixQ_s : ixQ (.sc (.str x)) (.sc (.int i)) Q = (x.length ≤ sizeLine ∧ ∃ n, atI x.cps.toList i = some n ∧ Q (.sc (.str ⟨#[n]⟩)) .st) := rfl
theorem ixQ_d {ks : List Key} : ixQ (.dic ks ds) d Q = getQ (.dic ks ds) d fun o => ∃ z, o = some z ∧ Q z .st := rfl
theorem ixQ_dt {ks : List (List Key)} : ixQ (.dit ks ds) d Q = getQ (.dit ks ds) d fun o => ∃ z, o = some z ∧ Q z .st := rfl
theorem getQ_d {ks : List Key} {k : D} {Q : Option D → Prop} : getQ (.dic ks ds) k Q = ∃ j, k.key = some j ∧ Q (gVal (ks.zip ds) j) := rfl
theorem getQ_dt {ks : List (List Key)} {k : D} {Q : Option D → Prop} : getQ (.dit ks ds) k Q = ∃ j, k.tkey = some j ∧ Q (gVal (ks.zip ds) j) := rfl
theorem key_i : D.key (.sc (.int i)) = some (.inl i) := rfl
theorem key_s : D.key (.sc (.str x)) = some (.inr x) := rfl
theorem slQ_l {lo hi : Option Int} : slQ (.lst ds) lo hi Q = Q (.lst (cutD ds lo hi)) .ow := rfl
theorem slQ_t {lo hi : Option Int} : slQ (.tup ds) lo hi Q = Q (.tup (cutD ds lo hi)) .st := rfl
theorem slQ_s {lo hi : Option Int} : slQ (.sc (.str x)) lo hi Q = (x.length ≤ sizeLine ∧ Q (.sc (.str (cutS x lo hi))) .st) := rfl
theorem optQ_i {Q : Option Int → Prop} : optQ (.sc (.int i)) Q = Q (some i) := rfl
theorem revQ_l : revQ (.lst ds) Q = Q (.lst ds.reverse) .ow := rfl
theorem negQ_i : negQ (.sc (.int i)) Q = Q (.sc (.int (-i))) .st := rfl
theorem truth_b {Q : Bool → Prop} : truth (.sc (.bl b)) Q = Q b := rfl
theorem truth_i {Q : Bool → Prop} : truth (.sc (.int i)) Q = Q (i != 0) := rfl
theorem truth_n {Q : Bool → Prop} : truth (.sc .non) Q = Q false := rfl
theorem truth_s {Q : Bool → Prop} : truth (.sc (.str x)) Q = (x.length ≤ sizeLine ∧ Q ((x.length : Int) != 0)) := rfl
theorem truth_t {Q : Bool → Prop} : truth (.tup ds) Q = Q (!ds.isEmpty) := rfl
theorem blQ_b {Q : Bool → Prop} : blQ (.sc (.bl b)) Q = Q b := rfl
theorem bindS_st {k : Sl → Prop} : bindS d .st k = k (.sh d) := rfl
theorem bindS_ow {k : Sl → Prop} : bindS d .ow k = k (.ow d) := rfl
theorem isBr_st : isBr .st = false := rfl
theorem isBr_ow : isBr .ow = false := rfl
theorem isBr_br : isBr .br = true := rfl
theorem itemsQ_l {Q : List D → Prop} : itemsQ (.lst ds) Q = Q ds := rfl
theorem itemsQ_t {Q : List D → Prop} : itemsQ (.tup ds) Q = Q ds := rfl
theorem itemsQ_s {Q : List D → Prop} : itemsQ (.sc (.str x)) Q = Q (x.cps.toList.map fun n => .sc (.str ⟨#[n]⟩)) := rfl
theorem g_tup_t {n : Nat} {gs : List D → En → (En → Prop) → Prop} {env : En} {Q : En → Prop} : g_tup n gs (.tup ds) env Q = (ds.length = n ∧ gs ds env Q) := rfl
theorem g_cons_c {g : Gx} {gs : List D → En → (En → Prop) → Prop} {env : En} {Q : En → Prop} : g_cons g gs (d :: ds) env Q = g d env fun e => gs ds e Q := rfl
theorem g_nil_n {env : En} {Q : En → Prop} : g_nil [] env Q = Q env := by
  show ([] = [] ∧ Q env) = Q env
  simp
theorem lenQ_l : lenQ [(.lst ds, m)] Q = Q (.sc (.int ds.length)) .st := rfl
theorem lenQ_t : lenQ [(.tup ds, m)] Q = Q (.sc (.int ds.length)) .st := rfl
theorem lenQ_s : lenQ [(.sc (.str x), m)] Q = (x.length ≤ sizeLine ∧ Q (.sc (.int x.length)) .st) := rfl
theorem lenQ_d {ks : List Key} : lenQ [(.dic ks ds, m)] Q = Q (.sc (.int ks.length)) .st := rfl
theorem isiQ_t {n : String} : isiQ [(d, m), (.sc (.ty n), m')] Q = (tyOk n = true ∧ ∃ a, d.ty = some a ∧ Q (.sc (.bl (isTy a n))) .st) := rfl
theorem tyOks : tyOk "int" = true ∧ tyOk "str" = true ∧ tyOk "bool" = true ∧ tyOk "list" = true ∧ tyOk "tuple" = true ∧ tyOk "dict" = true := ⟨rfl, rfl, rfl, rfl, rfl, rfl⟩
theorem ty_i : D.ty (.sc (.int i)) = some "int" := rfl
theorem ty_s : D.ty (.sc (.str x)) = some "str" := rfl
theorem ty_b : D.ty (.sc (.bl b)) = some "bool" := rfl
theorem ty_n : D.ty (.sc .non) = some "NoneType" := rfl
theorem ty_l : D.ty (.lst ds) = some "list" := rfl
theorem ty_t : D.ty (.tup ds) = some "tuple" := rfl
theorem ty_d {ks : List Key} : D.ty (.dic ks ds) = some "dict" := rfl
theorem intQ_i : intQ [(.sc (.int i), m)] Q = Q (.sc (.int i)) .st := rfl
theorem intQ_b : intQ [(.sc (.bl b), m)] Q = Q (.sc (.int (if b then 1 else 0))) .st := rfl
theorem absQ_i : absQ [(.sc (.int i), m)] Q = Q (.sc (.int i.natAbs)) .st := rfl
theorem mmQ_i {f : Int → Int → Int} : mmQ f [(.sc (.int i), m), (.sc (.int j), m')] Q = Q (.sc (.int (f i j))) .st := rfl
theorem listQ_l : listQ [(.lst ds, m)] Q = Q (.lst ds) .ow := rfl
theorem listQ_t : listQ [(.tup ds, m)] Q = Q (.lst ds) .ow := rfl
theorem listQ_k : listQ [(.ktp ds, m)] Q = Q (.lst ds) .ow := rfl
theorem tupleQ_l : tupleQ [(.lst ds, m)] Q = Q (.tup ds) .st := rfl
theorem tupleQ_t : tupleQ [(.tup ds, m)] Q = Q (.tup ds) .st := rfl
theorem sumQ_l : sumQ [(.lst ds, m)] Q = ∃ ns, D.ints ds = some ns ∧ Q (.sc (.int ns.sum)) .st := rfl
theorem allQ_l : allQ [(.lst ds, m)] Q = ∃ bs, D.bls ds = some bs ∧ Q (.sc (.bl (bs.all id))) .st := rfl
theorem r1Q_i {Q : List D → Bool → Prop} : r1Q [(.sc (.int j), m)] Q = ((-(2 ^ 62) ≤ j ∧ j < 2 ^ 62) ∧ Q (rangeD 0 1 j.toNat) true) := rfl
theorem r2Q_i {Q : List D → Bool → Prop} : r2Q [(.sc (.int i), m), (.sc (.int j), m')] Q = ((-(2 ^ 62) ≤ i ∧ i < 2 ^ 62 ∧ -(2 ^ 62) ≤ j ∧ j < 2 ^ 62) ∧ Q (rangeD i 1 (j - i).toNat) true) := rfl
theorem bne_false_S (b : Bool) : (false != b) = b := by cases b <;> rfl
theorem bne_true_S (b : Bool) : (true != b) = !b := by cases b <;> rfl
theorem eqD_i : eqD (.sc (.int i)) (.sc (.int j)) = decide (i = j) := by
  show (i == j) = _
  by_cases h : i = j <;> simp [h]
theorem eqD_s : eqD (.sc (.str x)) (.sc (.str y)) = decide (x = y) := by
  show (x == y) = _
  by_cases h : x = y <;> simp [h]
theorem eqD_b : eqD (.sc (.bl a)) (.sc (.bl b)) = decide (a = b) := by
  show (a == b) = _
  by_cases h : a = b <;> simp [h]
theorem eqD_nn : eqD (.sc .non) (.sc .non) = true := rfl
theorem eqD_ni : eqD (.sc .non) (.sc (.int i)) = false := rfl
theorem eqD_in : eqD (.sc (.int i)) (.sc .non) = false := rfl
theorem eqD_is : eqD (.sc (.int i)) (.sc (.str x)) = false := rfl
theorem eqD_si : eqD (.sc (.str x)) (.sc (.int i)) = false := rfl
theorem eqD_ln : eqD (.lst ds) (.sc .non) = false := rfl
theorem eqD_nl : eqD (.sc .non) (.lst ds) = false := rfl
theorem eqD_ll : eqD (.lst (d :: ds)) (.lst (e :: es)) = (eqD d e && eqD (.lst ds) (.lst es)) := rfl
theorem eqD_l0 : eqD (.lst []) (.lst []) = true := rfl
theorem eqD_lc : eqD (.lst []) (.lst (e :: es)) = false := rfl
theorem eqD_cl : eqD (.lst (d :: ds)) (.lst []) = false := rfl
theorem eqD_tt : eqD (.tup (d :: ds)) (.tup (e :: es)) = (eqD d e && eqD (.tup ds) (.tup es)) := rfl
theorem eqD_t0 : eqD (.tup []) (.tup []) = true := rfl
theorem eqD_tc : eqD (.tup []) (.tup (e :: es)) = false := rfl
theorem eqD_ct : eqD (.tup (d :: ds)) (.tup []) = false := rfl
theorem plain_i : D.plain (.sc (.int i)) = true := rfl
theorem plain_s : D.plain (.sc (.str x)) = true := rfl
theorem plain_b : D.plain (.sc (.bl b)) = true := rfl
theorem plain_n : D.plain (.sc .non) = true := rfl
theorem plain_l : D.plain (.lst ds) = D.plain.plainL ds := by simp only [D.plain]
theorem plain_t : D.plain (.tup ds) = D.plain.plainL ds := by simp only [D.plain]
theorem plainL_c : D.plain.plainL (d :: ds) = (d.plain && D.plain.plainL ds) := by simp only [D.plain.plainL]
theorem plainL_n : D.plain.plainL [] = true := by simp only [D.plain.plainL]
theorem dep_sc {v : V} : D.dep (.sc v) = 0 := rfl
theorem dep_l : D.dep (.lst ds) = D.dep.depL ds + 1 := by simp only [D.dep]
theorem dep_t : D.dep (.tup ds) = D.dep.depL ds + 1 := by simp only [D.dep]
theorem depL_c : D.dep.depL (d :: ds) = max d.dep (D.dep.depL ds) := by simp only [D.dep.depL]
theorem depL_n : D.dep.depL [] = 0 := by simp only [D.dep.depL]
theorem flatR_sc {v : V} : flatR (.sc v) m = true := by cases m <;> rfl
end
/-- a loop over a list whose turns keep I -/
theorem seq_loop' {tg : Gx} {g : Sx} {E : Os} (all : List D) (I : Nat → En → Prop) (h0 : ∀ env, I all.length env → E.nx env)
    (hs : ∀ j d, all[j]? = some d → ∀ env, I j env → ∀ N : En → Prop, (∀ e, I (j + 1) e → N e) → tg d env fun e => g e { nx := N, ct := N, bk := E.nx, rt := E.rt, ro := E.ro }) : ∀ (k : Nat) (env : En) (j : Nat), all.length = j + k → I j env → loopF tg g (all.drop j) env E
  | 0, env, j, e, h => by
    rw [List.drop_of_length_le (by omega)]
    have e2 : j = all.length := by omega
    subst e2
    exact h0 env h
  | k + 1, env, j, e, h => by
    have hl : j < all.length := by omega
    rw [List.drop_eq_getElem_cons hl]
    exact hs j _ (List.getElem?_eq_getElem hl) env h _ fun e' i => seq_loop' all I h0 hs k e' (j + 1) (by omega) i
theorem seq_loop {tg : Gx} {g : Sx} {E : Os} {all : List D} (I : Nat → En → Prop) {env : En} (hi : I 0 env) (h0 : ∀ env, I all.length env → E.nx env)
    (hs : ∀ j d, all[j]? = some d → ∀ env, I j env → ∀ N : En → Prop, (∀ e, I (j + 1) e → N e) → tg d env fun e => g e { nx := N, ct := N, bk := E.nx, rt := E.rt, ro := E.ro }) : loopF tg g all env E :=
  seq_loop' all I h0 hs all.length env 0 (by omega) hi
theorem rng_loop {tg : Gx} {g : Sx} {E : Os} {lo : Int} {n : Nat} (I : Nat → En → Prop) {env : En} (hi : I 0 env) (h0 : ∀ env, I n env → E.nx env)
    (hs : ∀ j, j < n → ∀ env, I j env → ∀ N : En → Prop, (∀ e, I (j + 1) e → N e) → tg (.sc (.int (lo + (j : Nat)))) env fun e => g e { nx := N, ct := N, bk := E.nx, rt := E.rt, ro := E.ro }) : loopF tg g (rangeD lo 1 n) env E := by
  refine seq_loop I hi (fun e h => h0 e (by rw [rangeD_length] at h; exact h)) fun j d e env i N hn => ?_
  rw [rangeD_get] at e
  by_cases h : j < n
  · rw [if_pos h] at e
    cases e
    have := hs j h env i N hn
    rwa [show lo + (j : Int) * 1 = lo + j by omega]
  · rw [if_neg h] at e; cases e
theorem false_imp {p : Prop} : (False → p) = True := by simp
theorem atI_some {α : Type} {xs : List α} {i : Int} (h0 : 0 ≤ i) (h : i < xs.length) : ∃ d, atI xs i = some d ∧ d ∈ xs := by
  unfold atI ixN
  rw [if_pos h0, if_pos h]
  have hl : i.toNat < xs.length := by omega
  exact ⟨xs[i.toNat], by simp [hl], List.getElem_mem hl⟩
theorem str_app (a b : Str) : (a ++ b).length = a.length + b.length := by
  show (a.cps ++ b.cps).size = _
  rw [Array.size_append]; rfl
theorem str_one (n : Nat) : (⟨#[n]⟩ : Str).length = 1 := rfl
theorem str_len (s : Str) : s.cps.toList.length = s.length := by simp [Str.length]
theorem sizeL : sizeLine = 16777216 := by decide
theorem cutS_le (a : Str) (lo hi : Option Int) : (cutS a lo hi).length ≤ a.length := cutS_length a lo hi
theorem if_bl {p : Prop} [Decidable p] {A B : Prop} (h : (p → A) ∧ (¬p → B)) : if p then A else B := by
  by_cases h' : p
  · rw [if_pos h']; exact h.1 h'
  · rw [if_neg h']; exact h.2 h'
theorem if_b {b : Bool} {A B : Prop} (h : (b = true → A) ∧ (b = false → B)) : if b = true then A else B := by
  cases b
  · rw [if_neg Bool.false_ne_true]; exact h.2 rfl
  · rw [if_pos rfl]; exact h.1 rfl
end P
namespace P
open PySem PySem.Spec PyProof.Rows L2
/-- same, but for locks of dicts -/
def Lk (Z Z' : Hp) : Prop := ∀ b o, Z b = some o → Z' b = some o ∨ (∃ u od, (o = u ∨ ∃ od', o = .frz od' u) ∧ ((∃ kvs, u = HO.dK kvs) ∨ ∃ kvs, u = HO.dT kvs) ∧ (Z' b = some u ∨ Z' b = some (.frz od u)))
section
variable {K : PySem.W.Frag} {Z Z' : Hp}
theorem Lk.tup {a : Addr} {vs : List V} (s : Lk Z Z') (h : Z a = some (.tup vs)) : Z' a = some (.tup vs) := by
  rcases s a _ h with h | ⟨u, od, (e | ⟨o, e⟩), (⟨kvs, d⟩ | ⟨kvs, d⟩), _⟩
  · exact h
  all_goals (subst d; cases e)
theorem Lk.sqL {a : Addr} {vs : List V} (s : Lk Z Z') (h : SqL K Z a vs) : SqL K Z' a vs := by
  rcases h with (h | ⟨o, h⟩) | h
  · rcases s a _ h with h | ⟨u, od, (e | ⟨o, e⟩), (⟨kvs, d⟩ | ⟨kvs, d⟩), _⟩
    · exact .inl (.inl h)
    all_goals (subst d; cases e)
  · rcases s a _ h with h | ⟨u, od, (e | ⟨o, e⟩), (⟨kvs, d⟩ | ⟨kvs, d⟩), _⟩
    · exact .inl (.inr ⟨o, h⟩)
    all_goals (subst d; cases e)
  · exact .inr h
theorem Lk.rd {a : Addr} {u : HO} (s : Lk Z Z') (hu : (∃ kvs, u = HO.dK kvs) ∨ ∃ kvs, u = HO.dT kvs) (h : Rd Z a u) : Rd Z' a u := by
  rcases h with h | ⟨o, h⟩
  · rcases s a _ h with h | ⟨u', od, (e | ⟨o, e⟩), d, x⟩
    · exact .inl h
    · subst e
      rcases x with x | x
      · exact .inl x
      · exact .inr ⟨_, x⟩
    · subst e
      rcases hu with ⟨_, z⟩ | ⟨_, z⟩ <;> cases z
  · rcases s a _ h with h | ⟨u', od, (e | ⟨o, e⟩), d, x⟩
    · exact .inr ⟨_, h⟩
    · subst e
      rcases d with ⟨_, z⟩ | ⟨_, z⟩ <;> cases z
    · cases e
      rcases x with x | x
      · exact .inl x
      · exact .inr ⟨_, x⟩
theorem Lk.ext {a : Addr} {φ : Heap → Prop} (s : Lk Z Z') (h : Z a = some (.ext φ)) : Z' a = some (.ext φ) := by
  rcases s a _ h with x | ⟨u, od, x, y, _⟩
  · exact x
  · rcases x with rfl | ⟨_, x⟩
    · rcases y with ⟨_, y⟩ | ⟨_, y⟩ <;> cases y
    · cases x
theorem Lk.xd {a : Addr} {fs : List (Str × V)} (s : Lk Z Z') (h : Z a = some (.xd fs)) : Z' a = some (.xd fs) := by
  rcases s a _ h with x | ⟨u, od, x, y, _⟩
  · exact x
  · rcases x with rfl | ⟨_, x⟩
    · rcases y with ⟨_, y⟩ | ⟨_, y⟩ <;> cases y
    · cases x
theorem Lk.ins {a C dx : Addr} {fs : List (Str × V)} (s : Lk Z Z') (h : Z a = some (.ins C dx fs)) : Z' a = some (.ins C dx fs) := by
  rcases s a _ h with x | ⟨u, od, x, y, _⟩
  · exact x
  · rcases x with rfl | ⟨_, x⟩
    · rcases y with ⟨_, y⟩ | ⟨_, y⟩ <;> cases y
    · cases x
mutual
theorem Rep.lk (s : Lk Z Z') : ∀ {d : D} {v : V}, Rep K Z v d → Rep K Z' v d
  | .sc _, _, h => by cases h with | sc o => exact .sc o
  | .tup ds, _, h => by cases h with | tup a b => exact .tup (s.tup a) (RepL.lk s b)
  | .ktp ds, _, h => by cases h with | ktp a b => exact .ktp a (RepL.lk s b)
  | .lst ds, _, h => by cases h with | lst a b => exact .lst (s.sqL a) (RepL.lk s b)
  | .dic ks ds, _, h => by cases h with | dic a e b => exact .dic (s.rd (.inl ⟨_, rfl⟩) a) e (RepL.lk s b)
  | .dit ks ds, _, h => by cases h with | dit a e b => exact .dit (s.rd (.inr ⟨_, rfl⟩) a) e (RepL.lk s b)
  | .exc cn ns ds, _, h => by
    cases h with
    | exc0 a => exact .exc0 (s.ext a)
    | exc a b n e f => exact .exc (s.ext a) (s.xd b) n e (RepL.lk s f)
  | .cls cn, _, h => by cases h with | cls => exact .cls
  | .ob a, _, h => by cases h with | ob => exact .ob
  | .ins cn ns ds, _, h => by cases h with | ins a e f => exact .ins (s.ins a) e (RepL.lk s f)
theorem RepL.lk (s : Lk Z Z') : ∀ {ds : List D} {vs : List V}, RepL K Z vs ds → RepL K Z' vs ds
  | [], _, h => by cases h; exact .nil
  | _ :: _, _, h => by cases h with | cons a b => exact .cons (Rep.lk s a) (RepL.lk s b)
end
theorem Own.lk {H H' : Hp} {a : Addr} {d : D} (h : Own K H Z a d) (s : Lk Z Z') (e : ∀ o, H a = some o → H' a = some o) : Own K H' Z' a d := by
  cases h with
  | lst x y => exact .lst (e _ x) (y.lk s)
  | dic x y z => exact .dic (e _ x) y (z.lk s)
  | dit x y z => exact .dit (e _ x) y (z.lk s)
  | ins x y z => exact .ins (e _ x) y (z.lk s)
theorem Cel.lk {H H' : Hp} {O : List Addr} {S : Sto} (h : Cel K H Z O S) (s : Lk Z Z') (e : ∀ b o, b ∈ O → H b = some o → H' b = some o) : Cel K H' Z' O S := fun a d q => let ⟨m, x⟩ := h a d q; ⟨m, x.lk s fun o z => e a o m z⟩
end
/-- the frame in which a is locked -/
abbrev Fc.lck (c : Fc) (a : Addr) (o : HO) : Fc := { c with H0 := upd c.H0 a o }
/-- what a lock asks -/
structure LkAt (c : Fc) (a : Addr) (u : HO) : Prop where
  du : (∃ kvs, u = HO.dK kvs) ∨ ∃ kvs, u = HO.dT kvs
  nA : a ∉ c.A
  nR : a ∉ c.R0
  ha : ∀ b ∈ c.A, c.H0 b ≠ none
section
variable {c : Fc} {R O : List Addr} {H : Hp} {a : Addr} {u : HO} {od : Obj}
theorem upd_lk (du : (∃ kvs, u = HO.dK kvs) ∨ ∃ kvs, u = HO.dT kvs) (h : H a = some u) {B : List Addr} : Lk (cut H B) (cut (upd H a (.frz od u)) B) := fun b o e => by
  obtain ⟨m, e⟩ := cut_some e
  by_cases z : b = a
  · subst z
    rw [h] at e; cases e
    exact .inr ⟨u, od, .inl rfl, du, .inr (by rw [cut_out m, upd_same])⟩
  · exact .inl (by rw [cut_out m, upd_ne z]; exact e)
theorem upd_unlk (du : (∃ kvs, u = HO.dK kvs) ∨ ∃ kvs, u = HO.dT kvs) (h : H a = some (.frz od u)) {B : List Addr} : Lk (cut H B) (cut (upd H a u) B) := fun b o e => by
  obtain ⟨m, e⟩ := cut_some e
  by_cases z : b = a
  · subst z
    rw [h] at e; cases e
    exact .inr ⟨u, od, .inr ⟨_, rfl⟩, du, .inl (by rw [cut_out m, upd_same])⟩
  · exact .inl (by rw [cut_out m, upd_ne z]; exact e)
/-- locked -/
theorem Rel.lock {σ : L2.St} {env : En} (r : Rel c R O σ H env) (du : (∃ kvs, u = HO.dK kvs) ∨ ∃ kvs, u = HO.dT kvs) (h : ∀ B, Lk (cut H B) (cut (upd H a (.frz od u)) B)) (n : a ∉ O ++ (c.A ++ R)) : Rel (c.lck a (.frz od u)) R O σ (upd H a (.frz od u)) env := by
  have n2 := n
  simp only [List.mem_append, not_or] at n2
  have ne : ∀ b, b ∈ O ++ (c.A ++ R) → b ≠ a := fun b m z => n (z ▸ m)
  have lk : Lk (cut H (O ++ (c.A ++ R))) (cut (upd H a (.frz od u)) (O ++ (c.A ++ R))) := h _
  refine ⟨⟨fun b m => ?_, r.oR, fun b o e m => ?_, r.rsub, fun b m => ?_, fun b m => ?_, fun b m => ?_, fun p m => (r.pins p m).lk lk, fun b m => ?_⟩, r.len, fun i d e => ?_, fun i d e => ?_, r.inj, fun i S e => (r.gh i S e).lk lk fun b o m z => (by rw [upd_ne (ne b (List.mem_append_left _ m))]; exact z), r.ghd, r.ghu⟩
  · show upd c.H0 a _ b = none
    rw [upd_ne (ne b (List.mem_append_left _ m))]; exact r.new b m
  · by_cases z : b = a
    · subst z
      rw [show (c.lck b (.frz od u)).H0 = upd c.H0 b (.frz od u) from rfl, upd_same] at e
      cases e
      exact upd_same
    · rw [show (c.lck a (.frz od u)).H0 = upd c.H0 a (.frz od u) from rfl, upd_ne z] at e
      rw [upd_ne z]; exact r.keep b o e m
  · rcases r.rnew b m with x | x
    · exact .inl x
    · exact .inr (by show upd c.H0 a _ b = none; rw [upd_ne (ne b (List.mem_append_right _ (List.mem_append_right _ m)))]; exact x)
  · obtain ⟨o, e, f⟩ := r.rok b m
    exact ⟨o, by rw [upd_ne (ne b (List.mem_append_right _ (List.mem_append_right _ m)))]; exact e, f⟩
  · obtain ⟨o, e, f⟩ := r.aok b m
    exact ⟨o, by rw [upd_ne (ne b m)]; exact e, f⟩
  · show upd c.H0 a _ b ≠ none
    rw [upd_ne (ne b (List.mem_append_right _ (List.mem_append_left _ m)))]
    exact r.ha b m
  · obtain ⟨v, x, y⟩ := r.sh i d e
    exact ⟨v, x, y.lk lk⟩
  · obtain ⟨b, x, m, y⟩ := r.ow i d e
    exact ⟨b, x, m, y.lk lk fun o z => by rw [upd_ne (ne b (List.mem_append_left _ m))]; exact z⟩
theorem HW.lkAt (w : HW c R O H) (du : (∃ kvs, u = HO.dK kvs) ∨ ∃ kvs, u = HO.dT kvs) (n : a ∉ O ++ (c.A ++ R)) : LkAt c a u := by
  simp only [List.mem_append, not_or] at n
  exact ⟨du, n.2.1, fun z => n.2.2 (w.rsub a z), w.ha⟩
theorem HW.h0At {o' : HO} (w : HW c R O H) (h : H a = some o') (n : a ∉ O ++ (c.A ++ R)) : ∀ o, c.H0 a = some o → o = o' := fun o e => by
  simp only [List.mem_append, not_or] at n
  have := w.keep a o e fun z => n.2.2 (w.rsub a z)
  rw [h] at this
  exact (Option.some.inj this).symm
theorem lk_same (h : H a = some (.frz od u)) : ∀ B, Lk (cut H B) (cut (upd H a (.frz od u)) B) := fun B b o e => .inl (by
  have : upd H a (.frz od u) = H := by
    funext b
    by_cases z : b = a
    · subst z; rw [upd_same, h]
    · rw [upd_ne z]
  rw [this]
  exact e)
theorem upd_idem {o : HO} (h : H a = some o) : upd H a o = H := by
  funext b
  by_cases z : b = a
  · subst z; rw [upd_same, h]
  · rw [upd_ne z]
/-- it stays locked -/
theorem HW.locked (w : HW (c.lck a (.frz od u)) R O H) (l : LkAt c a u) : H a = some (.frz od u) := w.keep a _ upd_same l.nR
theorem HW.lkOut (w : HW (c.lck a (.frz od u)) R O H) (l : LkAt c a u) : a ∉ O ++ (c.A ++ R) := by
  intro z
  rcases List.mem_append.mp z with z | z
  · have := w.new a z
    rw [show (c.lck a (.frz od u)).H0 = upd c.H0 a (.frz od u) from rfl, upd_same] at this
    cases this
  · rcases List.mem_append.mp z with z | z
    · exact l.nA z
    · rcases w.rnew a z with z | z
      · exact l.nR z
      · rw [show (c.lck a (.frz od u)).H0 = upd c.H0 a (.frz od u) from rfl, upd_same] at z
        cases z
theorem lck_h0 {b : Addr} (h : (c.lck a (.frz od u)).H0 b = none) : c.H0 b = none := by
  by_cases z : b = a
  · subst z
    rw [show (c.lck b (.frz od u)).H0 = upd c.H0 b (.frz od u) from rfl, upd_same] at h
    cases h
  · rwa [show (c.lck a (.frz od u)).H0 = upd c.H0 a (.frz od u) from rfl, upd_ne z] at h
theorem HW.unlock (w : HW (c.lck a (.frz od u)) R O H) (l : LkAt c a u) (h0 : ∀ o, c.H0 a = some o → o = u) : HW c R O (upd H a u) := by
  have n := w.lkOut l
  have h := w.locked l
  have ne : ∀ b, b ∈ O ++ (c.A ++ R) → b ≠ a := fun b m z => n (z ▸ m)
  refine ⟨fun b m => lck_h0 (w.new b m), w.oR, fun b o e m => ?_, w.rsub, fun b m => (w.rnew b m).imp id lck_h0, fun b m => ?_, fun b m => ?_, fun p m => (w.pins p m).lk (upd_unlk l.du h), l.ha⟩
  · by_cases z : b = a
    · subst z
      rw [upd_same, h0 o e]
    · rw [upd_ne z]
      exact w.keep b o (by rw [show (c.lck a (.frz od u)).H0 = upd c.H0 a (.frz od u) from rfl, upd_ne z]; exact e) m
  · obtain ⟨o, e, f⟩ := w.rok b m
    exact ⟨o, by rw [upd_ne (ne b (List.mem_append_right _ (List.mem_append_right _ m)))]; exact e, f⟩
  · obtain ⟨o, e, f⟩ := w.aok b m
    exact ⟨o, by rw [upd_ne (ne b m)]; exact e, f⟩
theorem Rel.unlock {σ : L2.St} {env : En} (r : Rel (c.lck a (.frz od u)) R O σ H env) (l : LkAt c a u) (h0 : ∀ o, c.H0 a = some o → o = u) : Rel c R O σ (upd H a u) env := by
  have n := r.toHW.lkOut l
  have h := r.toHW.locked l
  have lk : Lk (cut H (O ++ (c.A ++ R))) (cut (upd H a u) (O ++ (c.A ++ R))) := upd_unlk l.du h
  refine ⟨r.toHW.unlock l h0, r.len, fun i d e => ?_, fun i d e => ?_, r.inj, fun i S e => (r.gh i S e).lk lk fun b o m z => (by rw [upd_ne (fun q => n (by rw [← q]; exact List.mem_append_left _ m) : b ≠ a)]; exact z), r.ghd, r.ghu⟩
  · obtain ⟨v, x, y⟩ := r.sh i d e
    exact ⟨v, x, y.lk lk⟩
  · obtain ⟨b, x, m, y⟩ := r.ow i d e
    exact ⟨b, x, m, y.lk lk fun o z => by rw [upd_ne (fun q => n (by rw [← q]; exact List.mem_append_left _ m) : b ≠ a)]; exact z⟩
theorem FinO.unlock {env : En} {v : V} {d : D} {md : Md} (f : FinO (c.lck a (.frz od u)) env v d md H) (l : LkAt c a u) (h0 : ∀ o, c.H0 a = some o → o = u) : FinO c env v d md (upd H a u) := by
  obtain ⟨R, O, w, g, m⟩ := f
  have n := w.lkOut l
  have ne : ∀ b ∈ O, b ≠ a := fun b m q => n (by rw [← q]; exact List.mem_append_left _ m)
  refine ⟨R, O, w.unlock l h0, fun i S e => (g i S e).lk (upd_unlk l.du (w.locked l)) fun b o m z => (by rw [upd_ne (ne b m)]; exact z), ?_⟩
  cases md with
  | st => exact Rep.lk (upd_unlk l.du (w.locked l)) m
  | br => exact m.elim
  | ow =>
    obtain ⟨b, e, mb, x, nc⟩ := m
    exact ⟨b, e, mb, x.lk (upd_unlk l.du (w.locked l)) fun o z => by rw [upd_ne (ne b mb)]; exact z, nc⟩
theorem RM.unlock {Ha Hb : Hp} {v : V} {d : D} {md : Md} (w : HW (c.lck a (.frz od u)) R O H) (l : LkAt c a u) (m : RM (c.lck a (.frz od u)) Ha R O H v d md) (hb : ∀ b, Ha b = none → Hb b = none) : RM c Hb R O (upd H a u) v d md := by
  have h := w.locked l
  have n := w.lkOut l
  cases md with
  | st => exact Rep.lk (upd_unlk l.du h) m
  | br =>
    obtain ⟨b, e, mb, x⟩ := m
    exact ⟨b, e, mb, x.lk (upd_unlk l.du h) fun o z => by rw [upd_ne (fun q => n (by rw [← q]; exact List.mem_append_left _ mb) : b ≠ a)]; exact z⟩
  | ow =>
    obtain ⟨b, e, h1, h2, h3, h4, x⟩ := m
    by_cases q : b = a
    · exfalso
      subst q
      cases x with
      | lst x _ => rw [h] at x; cases x
      | dic x _ _ => rw [h] at x; cases x
      | dit x _ _ => rw [h] at x; cases x
      | ins x _ _ => rw [h] at x; cases x
    · exact ⟨b, e, hb b h1, h2, h3, h4, x.lk (upd_unlk l.du h) fun o z => by rw [upd_ne q]; exact z⟩
end
section
variable {X : Cx} {c : Fc}
/-- the reading's own dict, locked at a -/
def lAt (i : Nat) (a : Addr) (t : TE) : TE := fun σ H Q => σ[i]? = some (some (V.ref a)) ∧ t σ H Q
def dicAt (env : En) (i : Nat) : Prop := (∃ ks ds, env[i]? = some (.sh (.dic ks ds))) ∨ ∃ ks ds, env[i]? = some (.sh (.dit ks ds))
theorem Rel.dicAt {R O : List Addr} {σ : L2.St} {H : Hp} {env : En} {i : Nat} (r : Rel c R O σ H env) (h : dicAt env i) : ∃ a u, σ[i]? = some (some (V.ref a)) ∧ a ∉ O ++ (c.A ++ R) ∧ ((∃ kvs, u = HO.dK kvs) ∨ ∃ kvs, u = HO.dT kvs) ∧ Rd H a u := by
  rcases h with ⟨ks, ds, h⟩ | ⟨ks, ds, h⟩
  · obtain ⟨v, e, x⟩ := r.sh i _ h
    cases x with
    | dic y _ _ =>
      rcases y with y | ⟨o, y⟩
      · obtain ⟨m, y⟩ := cut_some y
        exact ⟨_, _, e, m, .inl ⟨_, rfl⟩, .inl y⟩
      · obtain ⟨m, y⟩ := cut_some y
        exact ⟨_, _, e, m, .inl ⟨_, rfl⟩, .inr ⟨o, y⟩⟩
  · obtain ⟨v, e, x⟩ := r.sh i _ h
    cases x with
    | dit y _ _ =>
      rcases y with y | ⟨o, y⟩
      · obtain ⟨m, y⟩ := cut_some y
        exact ⟨_, _, e, m, .inr ⟨_, rfl⟩, .inl y⟩
      · obtain ⟨m, y⟩ := cut_some y
        exact ⟨_, _, e, m, .inr ⟨_, rfl⟩, .inr ⟨o, y⟩⟩
theorem lockE_l {te : Ex} {i : Nat} {R O : List Addr} {σ : L2.St} {H : Hp} {env : En} {Q : VK} {Q' : D → Md → Prop} (r : Rel c R O σ H env) (hd : dicAt env i) (q : te env Q')
    (k : ∀ d md, Q' d md → ∀ v H' R', Stp c.Φ R R' H H' → RM c H R' O H' v d md → Q v H')
    (T : Addr → HO → Obj → TE) (hT : ∀ a u od σ H Q, LkAt c a u → lAt i a (lE (c.lck a (.frz od u)) te) σ H Q → T a u od σ H Q) :
    (∃ a u od, T a u od σ H Q) ∨ ∃ a u, ((∃ kvs, u = HO.dK kvs) ∨ ∃ kvs, u = HO.dT kvs) ∧ H a = some u ∧ ∀ od, T a u od σ (upd H a (.frz od u)) fun v H' => H' a = some (.frz od u) ∧ Q v (upd H' a u) := by
  obtain ⟨a, u, es, n, du, rd⟩ := r.dicAt hd
  rcases rd with rd | ⟨od, rd⟩
  · right
    have l := r.toHW.lkAt du n
    have h0 := r.toHW.h0At rd n
    refine ⟨a, u, du, rd, fun od => hT a u od σ _ _ l ⟨es, R, O, env, Q', r.lock du (fun B => upd_lk du rd) n, q, fun d md z v H' R' s m => ?_⟩⟩
    have w2 := (r.lock (od := od) du (fun B => upd_lk du rd) n).toHW.step s
    have h2 := w2.locked l
    refine ⟨h2, k d md z v _ R' ⟨fun b o e nb => ?_, s.sub, fun b m => ?_, (w2.unlock l h0).rok⟩ (m.unlock w2 l fun b e => ?_)⟩
    · by_cases zz : b = a
      · subst zz; rw [rd] at e; cases e; exact upd_same
      · rw [upd_ne zz]; exact s.same b o (by rw [upd_ne zz]; exact e) nb
    · refine (s.new b m).imp id fun e => ?_
      by_cases zz : b = a
      · subst zz; rw [upd_same] at e; cases e
      · rwa [upd_ne zz] at e
    · by_cases zz : b = a
      · subst zz; rw [upd_same] at e; cases e
      · rwa [upd_ne zz] at e
  · left
    have l := r.toHW.lkAt du n
    have r2 := r.lock (od := od) du (lk_same rd) n
    rw [upd_idem rd] at r2
    exact ⟨a, u, od, hT a u od σ _ _ l ⟨es, R, O, env, Q', r2, q, fun d md z v H' R' s m => k d md z v H' R' s m⟩⟩
/-- flat results need no name's list -/
theorem RM.grow {R O O' : List Addr} {H Ha : Hp} {v : V} {d : D} {md : Md} (w : HW c R O H) (h : RM c Ha R O' H v d md) (f : flatR d md = true) (nO : ∀ b, Ha b = none → b ∉ O) (nb : isBr md = false) : RM c Ha R O H v d md := by
  cases md with
  | st => exact Rep.imm w.tupK (by simpa [flatR] using f) h
  | br => cases nb
  | ow =>
    obtain ⟨a, e, ha, _, nA, nR, o⟩ := h
    have na := nO a ha
    have tk : ∀ b xs, cut H (a :: (O' ++ (c.A ++ R))) b = some (.tup xs) → cut H (a :: (O ++ (c.A ++ R))) b = some (.tup xs) := fun b xs q => by
      obtain ⟨m, e⟩ := cut_some q
      rw [cut_out]
      · exact e
      · intro z
        rcases List.mem_cons.mp z with z | z
        · exact m (z ▸ List.mem_cons_self)
        · obtain ⟨u, e', lu⟩ := w.aok b z
          rw [e] at e'; cases e'
          exact lu.1 _ rfl
    refine ⟨a, e, ha, na, nA, nR, ?_⟩
    cases o with
    | lst x y => exact .lst x (y.imm tk (by simpa [flatR, D.imm, D.immIn] using f))
    | dic x y z => exact .dic x y (z.imm tk (by simpa [flatR, D.imm, D.immIn] using f))
    | dit x y z => exact .dit x y (z.imm tk (by simpa [flatR, D.imm, D.immIn] using f))
    | ins x y z => exact .ins x y (z.imm tk (by simpa [flatR, D.imm, D.immIn] using f))
/-- an expression that walks the dict at the name i -/
def e_lkd (i : Nat) (te : Ex) : Ex := fun env Q => match env[i]? with
  | some (.sh d) => dicAt env i ∧ te env Q
  | some (.ow d) => isDict d = true ∧ te (env.set i (.sh d)) fun d' md => flatR d' md = true ∧ isBr md = false ∧ Q d' md
  | _ => False
theorem p_lkE {e : Expr} {te : Ex} {i : Nat} {T : Addr → HO → Obj → TE} (h : ∀ a u od, PE X e (T a u od)) (hT : ∀ a u od σ H Q, LkAt c a u → lAt i a (lE (c.lck a (.frz od u)) te) σ H Q → T a u od σ H Q) : PE X e (lE c (e_lkd i te)) := by
  refine ⟨fun pins s σ H Q I ⟨R, O, env, Q', r, t, k⟩ => ?_⟩
  have fin : ∀ O' env' Q2, Rel c R O' σ H env' → dicAt env' i → te env' Q2 → (∀ d md, Q2 d md → ∀ v H' R', Stp c.Φ R R' H H' → RM c H R' O' H' v d md → Q v H') → wpAny (model X.prog X.w) X.A (eval e X.env) (EP X pins σ Q) X.xe s := fun O' env' Q2 r' hd q k' => by
    rcases lockE_l r' hd q k' T hT with ⟨a, u, od, z⟩ | ⟨a, u, du, hh, z⟩
    · exact (h a u od).run pins s σ H Q I z
    · have hmu : Mut (some u) := by rcases du with ⟨_, e⟩ | ⟨_, e⟩ <;> subst e <;> exact trivial
      exact (pe_lock (t := fun σ H Q => ∃ od, T a u od σ H Q) ⟨fun pins s σ H Q I ⟨od, z⟩ => (h a u od).run pins s σ H Q I z⟩).run pins s σ H Q I ⟨a, u, hh, hmu, fun od => ⟨od, z od⟩⟩
  unfold e_lkd at t
  split at t
  · exact fin O env Q' r t.1 t.2 k
  · rename_i d ed
    obtain ⟨O', r'⟩ := frz1_rel r ed
    have hi : i < env.length := (List.getElem?_eq_some_iff.mp ed).1
    refine fin O' _ _ r' ?_ t.2 fun d' md ⟨f, nb, z⟩ v H' R' s m => k d' md z v H' R' s (m.grow (r.toHW.step s) f (fun b hb z => ?_) nb)
    · have e1 : (env.set i (.sh d))[i]? = some (.sh d) := by simp [hi]
      cases d with
      | dic ks ds => exact .inl ⟨_, _, e1⟩
      | dit ks ds => exact .inr ⟨_, _, e1⟩
      | _ => cases t.1
    · obtain ⟨o, e, _⟩ := r.aok b (List.mem_append_left _ z)
      rw [hb] at e; cases e
  · exact t.elim
def s_lkd (i : Nat) (g : Sx) : Sx := fun env E => dicAt env i ∧ g env E
def keyD : Key → D
  | .inl i => .sc (.int i)
  | .inr x => .sc (.str x)
def tkeyD (k : List Key) : D := .tup (k.map keyD)
def pairsD (ks : List Key) (ds : List D) : List D := List.zipWith (fun k d => .tup [keyD k, d]) ks ds
def i_items (i : Nat) : Ix := fun env Q => match env[i]? with
  | some (.sh (.dic ks ds)) => Q (pairsD ks ds) true
  | _ => False
def i_keys (i : Nat) : Ix := fun env Q => match env[i]? with
  | some (.sh (.dic ks _)) => Q (ks.map keyD) true
  | some (.sh (.dit ks _)) => Q (ks.map tkeyD) true
  | _ => False
def i_vals (i : Nat) : Ix := fun env Q => match env[i]? with
  | some (.sh (.dic _ ds)) => Q ds true
  | _ => False
theorem kV_rep {K : PySem.W.Frag} {Z : Hp} {k : Key} (h : okK k = true) : Rep K Z (kV k) (keyD k) := by
  cases k with
  | inl i => exact .sc rfl
  | inr x => exact .sc h
/-- what a locked dict at a slot tells -/
theorem Rep.dic_rd {K : PySem.W.Frag} {Z : Hp} {v : V} {a : Addr} {ks : List Key} {ds : List D} (h : Rep K Z v (.dic ks ds)) (e : v = .ref a := by rfl) : ∃ kvs, Rd Z a (.dK kvs) := by
  cases h with | dic y _ _ => cases e; exact ⟨_, y⟩
theorem at_dic {R O : List Addr} {σ : L2.St} {H : Hp} {env : En} {i : Nat} {a : Addr} {u : HO} {od : Obj} {ks : List Key} {ds : List D} (r : Rel (c.lck a (.frz od u)) R O σ H env) (l : LkAt c a u) (es : σ[i]? = some (some (V.ref a))) (e : env[i]? = some (.sh (.dic ks ds))) :
    Rep c.K (cut H (O ++ (c.A ++ R))) (.ref a) (.dic ks ds) ∧ ∃ kvs, u = .dK kvs ∧ H a = some (.frz od (.dK kvs)) := by
  obtain ⟨v, ev, x⟩ := r.sh i _ e
  have ea : v = .ref a := Option.some.inj (Option.some.inj (ev.symm.trans es))
  subst ea
  refine ⟨x, ?_⟩
  have h := r.toHW.locked l
  obtain ⟨kvs, y⟩ := Rep.dic_rd x
  · rcases y with y | ⟨o, y⟩
    · rw [(cut_some y).2] at h; cases h
    · have h2 := (cut_some y).2
      rw [h] at h2
      cases h2
      exact ⟨kvs, rfl, h⟩
theorem rep_dic {a : Addr} {od : Obj} {kvs : List (Key × V)} {ks : List Key} {ds : List D} {K : PySem.W.Frag} {Z : Hp} (h : ∀ kvs', Rd Z a (.dK kvs') → kvs' = kvs) (x : Rep K Z (.ref a) (.dic ks ds)) : kvs.map (·.1) = ks ∧ ks.all okK = true ∧ RepL K Z (kvs.map (·.2)) ds := by
  cases x with
  | dic y e z =>
    cases h _ y
    exact ⟨e.1, e.2, z⟩
theorem walks_items {a : Addr} {od : Obj} {kvs : List (Key × V)} {ks : List Key} {ds : List D} (l : LkAt c a (.dK kvs)) (G : ∀ R O H, HW (c.lck a (.frz od (.dK kvs))) R O H → (∀ p ∈ [((V.ref a : V), D.dic ks ds)], Rb (c.lck a (.frz od (.dK kvs))) R O H p.1 p.2) → kvs.map (·.1) = ks ∧ ks.all okK = true ∧ RepL c.K (cut H (O ++ (c.A ++ R))) (kvs.map (·.2)) ds) :
    Walks (c.lck a (.frz od (.dK kvs))) (Iti a od kvs) [(.ref a, .dic ks ds)] (pairsD ks ds) := by
  intro R O H w rb
  obtain ⟨e1, ok, rr⟩ := G R O H w rb
  have h := w.locked l
  have hl := rr.length
  rw [List.length_map] at hl
  have hk : ks.length = kvs.length := by rw [← e1, List.length_map]
  refine ⟨⟨h, by unfold pairsD; rw [List.length_zipWith]; omega⟩, fun i d e => ?_⟩
  unfold pairsD at e
  rw [List.getElem?_zipWith_eq_some] at e
  obtain ⟨k, d', ek, ed, e⟩ := e
  subst e
  have hi : i < kvs.length := by
    have := (List.getElem?_eq_some_iff.mp ek).1
    omega
  refine ⟨⟨h, hi⟩, fun x H' y => ?_⟩
  obtain ⟨T, k', v', ekv, ex, nT, eH⟩ := y
  subst ex eH
  obtain ⟨v, ev, rv⟩ := rr.get ed
  have e3 : k' = k := by
    rw [← e1, List.getElem?_map, ekv] at ek
    exact Option.some.inj ek
  have e4 : v' = v := by
    rw [List.getElem?_map, ekv] at ev
    exact Option.some.inj ev
  subst e3 e4
  have okk : okK k' = true := List.all_eq_true.mp ok _ (List.mem_of_getElem? ek)
  exact ⟨Stp.alloc w.rok nT, RM.newT (c := c.lck a (.frz od (.dK kvs))) (Ha := H) w nT (.cons (kV_rep okk) (.cons rv .nil))⟩
theorem items_conv {i : Nat} {a : Addr} {u : HO} {od : Obj} {σ : L2.St} {H : Hp} {R : It → Hp → Prop} (l : LkAt c a u) (es : σ[i]? = some (some (V.ref a))) (h : lI (c.lck a (.frz od u)) (i_items i) σ H R) : iItems (tVar i) σ H R := by
  obtain ⟨R1, O, env, Q', r, t, k⟩ := h
  unfold i_items at t
  split at t
  · rename_i ks ds e
    obtain ⟨x, kvs, eu, h⟩ := at_dic r l es e
    subst eu
    refine ⟨_, es, a, od, kvs, rfl, h, k _ _ t (Iti a od kvs) [(.ref a, .dic ks ds)] H R1 r.toHW.refl (fun p m => by cases List.mem_singleton.mp m; exact .st x) (fun _ p m => by cases List.mem_singleton.mp m; exact x) (walks_items l fun R2 O2 H2 w2 rb => ?_)⟩
    have h2 := w2.locked l
    cases rb _ List.mem_cons_self with
    | st y => exact rep_dic (od := od) (fun u hu => by
        rcases hu with hu | ⟨o, hu⟩
        · have := (cut_some hu).2; rw [h2] at this; cases this
        · have := (cut_some hu).2; rw [h2] at this; cases this; rfl) y
    | ow o m => cases o with
      | dic y _ _ => rw [h2] at y; cases y
  · exact t.elim
theorem p_lcD {i : Nat} {elt tg iter : Expr} {ifs : List Expr} {scope : Scope} {own : List (Str × Nat)} {pos : Pos} {wi : TI} {ti : Ix} {tx : Gx} {tt : Tx} {te : Ex} (conv : ∀ {a : Addr} {u : HO} {od : Obj} {σ : L2.St} {H : Hp} {R : It → Hp → Prop}, LkAt c a u → σ[i]? = some (some (V.ref a)) → lI (c.lck a (.frz od u)) ti σ H R → wi σ H R) (hc : X.calm = true) (hN : X.N.Nodup) (hi : PI X tg iter wi) (ok : BlkOk X.N X.env.scope scope own)
    (hg : ∀ (a : Addr) (o : HO) (s : Shared) (H : Hp) (C : Addr) (cl : List (Str × Addr)) (fp : List Addr), PG (X.blk s H scope (compEnvC scope cl C X.env) fp) tg (lG (c.lck a o) tx (own.map (·.2)))) (ht : ∀ (a : Addr) (o : HO) (s : Shared) (H : Hp) (C : Addr) (cl : List (Str × Addr)) (fp : List Addr), PTs (X.blk s H scope (compEnvC scope cl C X.env) fp) ifs (lT (c.lck a o) tt))
    (he : ∀ (a : Addr) (o : HO) (s : Shared) (H : Hp) (C : Addr) (cl : List (Str × Addr)) (fp : List Addr), PE (X.blk s H scope (compEnvC scope cl C X.env) fp) elt (lE (c.lck a o) te)) (hs : ∀ x, foldedSetIterable iter X.env x = pure x := by intro _; rfl) :
    PE X (.ListComp elt [⟨tg, iter, ifs, 0⟩] scope pos) (lE c (e_lkd i (e_lc ti tx tt te (own.map (·.2))))) :=
  p_lkE (fun a u od => pe_lc (wi := wi) hc hN hi ok (hg a (.frz od u)) (ht a (.frz od u)) (he a (.frz od u)) hs) fun a u od σ H Q l ⟨es, h⟩ => conv l es (lc_l h)
end
end P
namespace P
open PySem PySem.Spec PyProof.Rows L2
section
variable {X : Cx} {c : Fc}
def stepIx (n : Nat) (lo hi : Option Int) (k : Int) : List Nat := sliceRange (sliceBounds lo hi (some k) n).1 (sliceBounds lo hi (some k) n).2.1 (sliceBounds lo hi (some k) n).2.2
def stepD {α : Type} (ds : List α) (lo hi : Option Int) (k : Int) : List α := (stepIx ds.length lo hi k).filterMap (ds[·]?)
def stepQ (k : Int) (d : D) (lo hi : Option Int) (Q : D → Md → Prop) : Prop := match d with
  | .lst ds => Q (.lst (stepD ds lo hi k)) .ow
  | _ => False
def isLst : D → Bool
  | .lst _ => true
  | _ => false
def e_step (k : Int) (te : Ex) (tl th : Px) : Ex := fun env Q => te env fun d _ => isLst d = true ∧ tl env fun lo => th env fun hi => stepQ k d lo hi Q
/-- a method of a text, with one argument -/
def SmL (c : Fc) (r : V → List V → Hp → VK → Prop) (mq : Str → D → (D → Md → Prop) → Prop) : Prop := ∀ R O H a y d Q' Q, HW c R O H → PyData.strOk a = true → Rb c R O H y d → mq a d Q' → (∀ d md, Q' d md → ∀ v H' R', Stp c.Φ R R' H H' → RM c H R' O H' v d md → Q v H') → r (.str a) [y] H Q
def strD (d : D) (Q : Str → Prop) : Prop := match d with
  | .sc (.str x) => Q x
  | _ => False
theorem strD_l {d : D} {Q : Str → Prop} (h : strD d Q) : ∃ x, d = .sc (.str x) ∧ Q x := by
  unfold strD at h
  split at h
  · exact ⟨_, rfl, h⟩
  · exact h.elim
def e_sm1 (mq : Str → D → (D → Md → Prop) → Prop) (to te : Ex) : Ex := fun env Q => to env fun d _ => strD d fun a => te env fun e _ => mq a e Q
theorem p_sm1 {id : String} {name : Str} {apos pos : Pos} {o e : Expr} {to te : Ex} {r : V → List V → Hp → VK → Prop} {mq : Str → D → (D → Md → Prop) → Prop} (slot : Slot "str" name id) (ty : typeOf (.builtin id) = pure (.type "method_descriptor")) (rule : MtR X id r) (h : SmL c r mq) (ho : PE X o (lE c to)) (he : PE X e (lE c te))
    (hs : starEach [e] X.env = [(false, eval e X.env)] := by rfl) (hbase : attributeBase o name X.env (eval o X.env) = eval o X.env := by rfl) (hline : (apos.endLine == pos.line) = true := by rfl) :
    PE X (.Call (.Attribute o name apos) [e] [] pos) (lE c (e_sm1 mq to te)) :=
  PEw (pe_m1 slot ty rule ho he hs hbase hline) fun σ H Q ⟨R, O, env, Q', q, t, k⟩ => ⟨R, O, env, _, q, t, fun d md t1 v1 H1 R1 s1 m1 => by
    have q1 := q.step s1
    obtain ⟨a, ed, t2⟩ := strD_l t1
    subst ed
    have ev := (m1.rb q1.toHW).sc
    have ok := (m1.rb q1.toHW).ok
    refine ⟨⟨a, ev⟩, R1, O, env, _, q1, t2, fun e' me t3 v2 H2 R2 s2 m2 => ?_⟩
    have q2 := q1.step s2
    rw [ev]
    exact h R2 O H2 a v2 e' Q' Q q2.toHW ok (m2.rb q2.toHW) t3 fun d' md' t4 v3 H3 R3 s3 m3 => k d' md' t4 v3 H3 R3 ((s1.trans s2).trans s3) (m3.ahead fun a n => Stp.nn q.rok s1 (Stp.nn q1.rok s2 n))⟩
/-- .. with none -/
def e_sm0 (mq : Str → (D → Md → Prop) → Prop) (to : Ex) : Ex := fun env Q => to env fun d _ => strD d fun a => mq a Q
def SmL0 (c : Fc) (r : V → List V → Hp → VK → Prop) (mq : Str → (D → Md → Prop) → Prop) : Prop := ∀ R O H a Q' Q, HW c R O H → PyData.strOk a = true → mq a Q' → (∀ d md, Q' d md → ∀ v H' R', Stp c.Φ R R' H H' → RM c H R' O H' v d md → Q v H') → r (.str a) [] H Q
theorem p_sm0 {id : String} {name : Str} {apos pos : Pos} {o : Expr} {to : Ex} {r : V → List V → Hp → VK → Prop} {mq : Str → (D → Md → Prop) → Prop} (slot : Slot "str" name id) (ty : typeOf (.builtin id) = pure (.type "method_descriptor")) (rule : MtR X id r) (h : SmL0 c r mq) (ho : PE X o (lE c to))
    (hbase : attributeBase o name X.env (eval o X.env) = eval o X.env := by rfl) (hline : (apos.endLine == pos.line) = true := by rfl) : PE X (.Call (.Attribute o name apos) [] [] pos) (lE c (e_sm0 mq to)) :=
  PEw (pe_m0 slot ty rule ho hbase hline) fun σ H Q ⟨R, O, env, Q', q, t, k⟩ => ⟨R, O, env, _, q, t, fun d md t1 v1 H1 R1 s1 m1 => by
    have q1 := q.step s1
    obtain ⟨a, ed, t2⟩ := strD_l t1
    subst ed
    have ev := (m1.rb q1.toHW).sc
    have ok := (m1.rb q1.toHW).ok
    rw [ev]
    exact ⟨⟨a, rfl⟩, h R1 O H1 a Q' Q q1.toHW ok t2 fun d' md' t4 v3 H3 R3 s3 m3 => k d' md' t4 v3 H3 R3 (s1.trans s3) (m3.ahead fun a n => Stp.nn q.rok s1 n)⟩⟩
def D.strs : List D → Option (List Str)
  | [] => some []
  | .sc (.str x) :: ds => (D.strs ds).map (x :: ·)
  | _ => none
theorem strs_map (xs : List Str) : D.strs (xs.map fun x => .sc (.str x)) = some xs := by
  induction xs with
  | nil => rfl
  | cons a b ih => simp [D.strs, ih]
theorem strs_rep {Z : Hp} : ∀ {ds : List D} {vs : List V} {xs : List Str}, RepL c.K Z vs ds → D.strs ds = some xs → vs = xs.map V.str ∧ (xs.all PyData.strOk) = true
  | [], _, _, h, e => by cases h; cases e; exact ⟨rfl, rfl⟩
  | d :: ds, _, xs, h, e => by
    cases h with
    | cons a b =>
      unfold D.strs at e
      split at e
      · rename_i h1; cases h1
      · rename_i i es h1
        cases h1
        obtain ⟨m, e1, e2⟩ := Option.map_eq_some_iff.mp e
        subst e2
        cases a with
        | sc o =>
          obtain ⟨h1, h2⟩ := strs_rep b e1
          rw [List.map_cons, h1, List.all_cons, h2, Bool.and_true]
          exact ⟨rfl, o⟩
      · cases e
def joinQ (a : Str) (d : D) (Q : D → Md → Prop) : Prop := match d with
  | .lst ds => ∃ xs, D.strs ds = some xs ∧ (xs.map (·.length)).sum + xs.length * a.length ≤ 16777216 ∧ Q (.sc (.str (Str.join a xs))) .st
  | _ => False
theorem strOk_join {a : Str} (ha : PyData.strOk a = true) : ∀ {xs : List Str}, xs.all PyData.strOk = true → PyData.strOk (Str.join a xs) = true
  | [], _ => (by decide +kernel : PyData.strOk Str.empty = true)
  | [x], h => by
    rw [List.all_cons, List.all_nil, Bool.and_true] at h
    exact h
  | x :: y :: r, h => by
    rw [List.all_cons, Bool.and_eq_true] at h
    exact strOk_append (strOk_append h.1 ha) (strOk_join ha h.2)
theorem SmL.join (hK : X.K = c.K) : SmL c (fun x xs H Q => ∃ a p, ∃ ys : List Str, x = .str a ∧ xs = [.ref p] ∧ (SqL X.K H p (ys.map V.str) ∨ SqT X.K H p (ys.map V.str)) ∧ (ys.map (·.length)).sum + ys.length * a.length ≤ 16777216 ∧ Q (.str (Txt.join a ys)) H) joinQ := by
  intro R O H a y d Q' Q w ok b t k
  unfold joinQ at t
  split at t
  · obtain ⟨xs, e, hz, t⟩ := t
    obtain ⟨p, vs, rfl, h, rr⟩ := b.lst
    obtain ⟨e1, e2⟩ := strs_rep rr e
    subst e1
    exact ⟨a, p, xs, rfl, rfl, .inl (hK ▸ h), hz, by rw [show Txt.join a xs = Str.join a xs from TL.join_eq a xs]; exact k _ _ t _ H R w.refl (.sc (strOk_join ok e2))⟩
  · exact t.elim
def strQ : Cq := fun ps Q => match ps with
  | [(.sc (.int i), _)] => i.natAbs.log2 < 1920 ∧ Q (.sc (.str (toString i))) .st
  | [(.sc (.str x), _)] => Q (.sc (.str x)) .st
  | _ => False
def rStrA : List V → Hp → VK → Prop := fun xs H Q => (∃ i, xs = [.int i] ∧ i.natAbs.log2 < 1920 ∧ Q (.str (toString i)) H) ∨ ∃ a, xs = [.str a] ∧ Q (.str a) H
theorem strOk_string (s : String) : PyData.strOk (Str.ofString s) = true := by
  rw [Str.ofString_eq_toList]
  unfold PyData.strOk
  rw [← Array.all_toList, List.all_eq_true]
  intro n m
  simp only [List.mem_map] at m
  obtain ⟨ch, _, rfl⟩ := m
  have := ch.valid
  simp only [decide_eq_true_eq]
  rcases this with h | ⟨_, h⟩
  · have : ch.val.toNat < 0xd800 := h
    show ch.val.toNat < _
    omega
  · have : ch.val.toNat < 0x110000 := h
    exact this
theorem CalL.str : CalL c rStrA strQ := by
  intro R O H xs ps Q' Q w b t k
  unfold strQ at t
  split at t
  · obtain ⟨x, rfl, b, _⟩ := b.one
    cases b.sc
    exact .inl ⟨_, rfl, t.1, k _ _ t.2 _ H R w.refl (.sc (strOk_string _))⟩
  · obtain ⟨x, rfl, b, _⟩ := b.one
    cases b.sc
    exact .inr ⟨_, rfl, k _ _ t _ H R w.refl (.sc b.ok)⟩
  · exact t.elim
def D.pair : D → Option (Key × D)
  | .tup [k, d] => k.key.map fun j => (j, d)
  | _ => none
def D.prs : List D → Option (List (Key × D))
  | [] => some []
  | d :: ds => match d.pair, D.prs ds with
    | some p, some ps => some (p :: ps)
    | _, _ => none
def dictOf (ps : List (Key × D)) : List (Key × D) := ps.foldl (fun acc kv => gPut acc kv.1 kv.2) []
def dictQ : Cq := fun ps Q => match ps with
  | [(.lst ds, _)] => ∃ kvs, D.prs ds = some kvs ∧ Q (dicOf (dictOf kvs)) .ow
  | _ => False
end
end P
namespace P
open PySem PySem.Spec PyProof.Rows L2
def slotAt : Nat → En → (Sl → Prop) → Prop
  | 0, s :: _, K => K s
  | n + 1, _ :: r, K => slotAt n r K
  | _, [], _ => False
theorem slotAt_get (i : Nat) (env : En) (K : Sl → Prop) : slotAt i env K = (match env[i]? with | some s => K s | none => False) := by
  induction env generalizing i with
  | nil => cases i <;> rfl
  | cons s r ih =>
    cases i with
    | zero => rfl
    | succ n => exact ih n
section
variable {Q : D → Md → Prop} {E : Os} {env : En} {i : Nat} {d : D} {g : Sx} {te ta' : Ex} {ta : Ax} {mq : Mq} {K : Sl → Prop} {s : Sl} {r : En} {ds : List D} {ks : List Key} {kts : List (List Key)} {P : Prop} {R : List D → Bool → Prop}
theorem slotAt_0 : slotAt 0 (s :: r) K = K s := rfl
theorem slotAt_s {n : Nat} : slotAt (n + 1) (s :: r) K = slotAt n r K := rfl
def varQ (s : Sl) (Q : D → Md → Prop) : Prop := match s with
  | .sh d => Q d .st
  | .ow d => Q d .br
  | _ => False
theorem e_var_eq : e_var i env Q = slotAt i env fun s => varQ s Q := by
  rw [slotAt_get]; unfold e_var varQ
  cases env[i]? with
  | none => rfl
  | some s => cases s <;> rfl
theorem varQ_sh : varQ (.sh d) Q = Q d .st := rfl
theorem varQ_ow : varQ (.ow d) Q = Q d .br := rfl
def retQ (s : Sl) (E : Os) : Prop := match s with
  | .sh d => E.rt d .st
  | .ow d => E.rt d .ow
  | _ => False
theorem s_retv_eq : s_retv i env E = slotAt i env fun s => retQ s E := by
  rw [slotAt_get]; unfold s_retv retQ
  cases env[i]? with
  | none => rfl
  | some s => cases s <;> rfl
theorem retQ_sh : retQ (.sh d) E = E.rt d .st := rfl
theorem retQ_ow : retQ (.ow d) E = E.rt d .ow := rfl
def frzQ (s : Sl) (i : Nat) (g : Sx) (env : En) (E : Os) : Prop := match s with
  | .ow d => g (env.set i (.sh d)) E
  | _ => g env E
theorem s_frz_eq (h : i < env.length) : s_frz i g env E = slotAt i env fun s => frzQ s i g env E := by
  rw [slotAt_get]; unfold s_frz frzQ
  rw [List.getElem?_eq_getElem h]
  cases env[i] <;> rfl
theorem frzQ_sh : frzQ (.sh d) i g env E = g env E := rfl
theorem frzQ_ow : frzQ (.ow d) i g env E = g (env.set i (.sh d)) E := rfl
def methQ (s : Sl) (i : Nat) (mq : Mq) (ta : Ax) (env : En) (E : Os) : Prop := match s with
  | .ow (.lst ds) => ta env fun ps => mq ds ps fun ds' _ => E.nx (env.set i (.ow (.lst ds')))
  | _ => False
theorem s_meth_eq : s_meth i mq ta env E = slotAt i env fun s => methQ s i mq ta env E := by
  rw [slotAt_get]; unfold s_meth methQ
  cases env[i]? with
  | none => rfl
  | some s => cases s with
    | ow d => cases d <;> rfl
    | _ => rfl
theorem methQ_l : methQ (.ow (.lst ds)) i mq ta env E = ta env fun ps => mq ds ps fun ds' _ => E.nx (env.set i (.ow (.lst ds'))) := rfl
def methsQ (s : Sl) (j i : Nat) (mq : Mq) (ta : Ax) (env : En) (E : Os) : Prop := match s with
  | .ow (.lst ds) => ta env fun ps => mq ds ps fun ds' rr => E.nx ((env.set i (.ow (.lst ds'))).set j (.sh rr))
  | _ => False
theorem s_methset_eq {j : Nat} : s_methset j i mq ta env E = slotAt i env fun s => methsQ s j i mq ta env E := by
  rw [slotAt_get]; unfold s_methset methsQ
  cases env[i]? with
  | none => rfl
  | some s => cases s with
    | ow d => cases d <;> rfl
    | _ => rfl
theorem methsQ_l {j : Nat} : methsQ (.ow (.lst ds)) j i mq ta env E = ta env fun ps => mq ds ps fun ds' rr => E.nx ((env.set i (.ow (.lst ds'))).set j (.sh rr)) := rfl
def setixQ (s : Sl) (i : Nat) (tk te : Ex) (env : En) (E : Os) : Prop := match s with
  | .ow s => te env fun d md => isBr md = false ∧ tk env fun k _ => setQ s k d fun s' => E.nx (env.set i (.ow s'))
  | _ => False
theorem s_setix_eq : s_setix i ta' te env E = slotAt i env fun s => setixQ s i ta' te env E := by
  rw [slotAt_get]; unfold s_setix setixQ
  cases env[i]? with
  | none => rfl
  | some s => cases s <;> rfl
theorem setixQ_ow : setixQ (.ow d) i ta' te env E = te env fun d' md => isBr md = false ∧ ta' env fun k _ => setQ d k d' fun s' => E.nx (env.set i (.ow s')) := rfl
def lkdQ (s : Sl) (i : Nat) (te : Ex) (env : En) (Q : D → Md → Prop) : Prop := match s with
  | .sh (.dic _ _) => te env Q
  | .sh (.dit _ _) => te env Q
  | .ow d => isDict d = true ∧ te (env.set i (.sh d)) fun d' md => flatR d' md = true ∧ isBr md = false ∧ Q d' md
  | _ => False
theorem e_lkd_eq : e_lkd i te env Q = slotAt i env fun s => lkdQ s i te env Q := by
  rw [slotAt_get]
  cases e : env[i]? with
  | none => unfold e_lkd; rw [e]
  | some s =>
    cases s with
    | no => unfold e_lkd; rw [e]; rfl
    | gh S => unfold e_lkd; rw [e]; rfl
    | ow d => unfold e_lkd; rw [e]; rfl
    | sh d =>
      have x : e_lkd i te env Q = (dicAt env i ∧ te env Q) := by unfold e_lkd; rw [e]
      rw [x]
      cases d with
      | dic ks ds => exact propext ⟨fun h => h.2, fun h => ⟨.inl ⟨_, _, e⟩, h⟩⟩
      | dit ks ds => exact propext ⟨fun h => h.2, fun h => ⟨.inr ⟨_, _, e⟩, h⟩⟩
      | _ => exact propext ⟨fun h => (by rcases h.1 with ⟨_, _, z⟩ | ⟨_, _, z⟩ <;> (rw [e] at z; cases z)), fun h => h.elim⟩
theorem lkdQ_d : lkdQ (.sh (.dic ks ds)) i te env Q = te env Q := rfl
theorem lkdQ_t : lkdQ (.sh (.dit kts ds)) i te env Q = te env Q := rfl
theorem lkdQ_od : lkdQ (.ow (.dic ks ds)) i te env Q = te (env.set i (.sh (.dic ks ds))) fun d' md => flatR d' md = true ∧ isBr md = false ∧ Q d' md := by
  show (isDict (.dic ks ds) = true ∧ _) = _
  exact propext ⟨fun h => h.2, fun h => ⟨rfl, h⟩⟩
theorem lkdQ_ot : lkdQ (.ow (.dit kts ds)) i te env Q = te (env.set i (.sh (.dit kts ds))) fun d' md => flatR d' md = true ∧ isBr md = false ∧ Q d' md := by
  show (isDict (.dit kts ds) = true ∧ _) = _
  exact propext ⟨fun h => h.2, fun h => ⟨rfl, h⟩⟩
def lkS (s : Sl) (P : Prop) : Prop := match s with
  | .sh (.dic _ _) => P
  | .sh (.dit _ _) => P
  | _ => False
theorem s_lkd_eq : s_lkd i g env E = slotAt i env fun s => lkS s (g env E) := by
  rw [slotAt_get]
  unfold s_lkd
  cases e : env[i]? with
  | none => exact propext ⟨fun h => (by rcases h.1 with ⟨_, _, z⟩ | ⟨_, _, z⟩ <;> (rw [e] at z; cases z)), fun h => h.elim⟩
  | some s =>
    cases s with
    | sh d => cases d with
      | dic ks ds => exact propext ⟨fun h => h.2, fun h => ⟨.inl ⟨_, _, e⟩, h⟩⟩
      | dit ks ds => exact propext ⟨fun h => h.2, fun h => ⟨.inr ⟨_, _, e⟩, h⟩⟩
      | _ => exact propext ⟨fun h => (by rcases h.1 with ⟨_, _, z⟩ | ⟨_, _, z⟩ <;> (rw [e] at z; cases z)), fun h => h.elim⟩
    | _ => exact propext ⟨fun h => (by rcases h.1 with ⟨_, _, z⟩ | ⟨_, _, z⟩ <;> (rw [e] at z; cases z)), fun h => h.elim⟩
theorem lkS_d : lkS (.sh (.dic ks ds)) P = P := rfl
theorem lkS_t : lkS (.sh (.dit kts ds)) P = P := rfl
def itmS (s : Sl) (R : List D → Bool → Prop) : Prop := match s with
  | .sh (.dic ks ds) => R (pairsD ks ds) true
  | _ => False
theorem i_items_eq : i_items i env R = slotAt i env fun s => itmS s R := by
  rw [slotAt_get]; unfold i_items itmS
  cases env[i]? with
  | none => rfl
  | some s => cases s with
    | sh d => cases d <;> rfl
    | _ => rfl
theorem itmS_d : itmS (.sh (.dic ks ds)) R = R (pairsD ks ds) true := rfl
def keyS (s : Sl) (R : List D → Bool → Prop) : Prop := match s with
  | .sh (.dic ks _) => R (ks.map keyD) true
  | .sh (.dit ks _) => R (ks.map tkeyD) true
  | _ => False
theorem i_keys_eq : i_keys i env R = slotAt i env fun s => keyS s R := by
  rw [slotAt_get]; unfold i_keys keyS
  cases env[i]? with
  | none => rfl
  | some s => cases s with
    | sh d => cases d <;> rfl
    | _ => rfl
theorem keyS_d : keyS (.sh (.dic ks ds)) R = R (ks.map keyD) true := rfl
theorem keyS_t : keyS (.sh (.dit kts ds)) R = R (kts.map tkeyD) true := rfl
def valS (s : Sl) (R : List D → Bool → Prop) : Prop := match s with
  | .sh (.dic _ ds) => R ds true
  | _ => False
theorem i_vals_eq : i_vals i env R = slotAt i env fun s => valS s R := by
  rw [slotAt_get]; unfold i_vals valS
  cases env[i]? with
  | none => rfl
  | some s => cases s with
    | sh d => cases d <;> rfl
    | _ => rfl
theorem valS_d : valS (.sh (.dic ks ds)) R = R ds true := rfl
theorem stepQ_l {k : Int} {lo hi : Option Int} : stepQ k (.lst ds) lo hi Q = Q (.lst (stepD ds lo hi k)) .ow := rfl
theorem isLst_l : isLst (.lst ds) = true := rfl
theorem strD_s {x : Str} {P : Str → Prop} : strD (.sc (.str x)) P = P x := rfl
theorem joinQ_l {a : Str} : joinQ a (.lst ds) Q = ∃ xs, D.strs ds = some xs ∧ (xs.map (·.length)).sum + xs.length * a.length ≤ 16777216 ∧ Q (.sc (.str (Str.join a xs))) .st := rfl
theorem strQ_i {j : Int} {m : Md} : strQ [(.sc (.int j), m)] Q = (j.natAbs.log2 < 1920 ∧ Q (.sc (.str (toString j))) .st) := rfl
theorem strQ_s {x : Str} {m : Md} : strQ [(.sc (.str x), m)] Q = Q (.sc (.str x)) .st := rfl
theorem dictQ_l {m : Md} : dictQ [(.lst ds, m)] Q = ∃ kvs, D.prs ds = some kvs ∧ Q (dicOf (dictOf kvs)) .ow := rfl
theorem sortedLQ_l {m : Md} : sortedLQ [(.lst ds, m)] Q = (sortOk ds ∧ Q (.lst (ds.mergeSort leD)) .ow) := rfl
theorem setQ_l {k : Int} {P : D → Prop} : setQ (.lst ds) (.sc (.int k)) d P = ∃ n, ixN ds.length k = some n ∧ P (.lst (ds.set n d)) := rfl
theorem setQ_d {k : D} {P : D → Prop} : setQ (.dic ks ds) k d P = (ks.length < sizeLine ∧ ∃ j, k.key = some j ∧ P (dicOf (gPut (ks.zip ds) j d))) := rfl
theorem setQ_t {k : D} {P : D → Prop} : setQ (.dit kts ds) k d P = (kts.length < sizeLine ∧ ∃ j, k.tkey = some j ∧ P (ditOf (gPut (kts.zip ds) j d))) := rfl
theorem appendQ_1 {m : Md} {P : List D → D → Prop} : appendQ ds [(d, m)] P = (isBr m = false ∧ ds.length < sizeLine ∧ P (ds ++ [d]) (.sc .non)) := rfl
end
end P
namespace P
open PySem PySem.Spec PyProof.Rows L2
section
variable {X : Cx} {c : Fc}
def enumAQ : Iq := fun ps Q => match ps with
  | [(.lst ds, md)] => Q (enumD 0 ds) (!isBr md)
  | [(.tup ds, md)] => Q (enumD 0 ds) (!isBr md)
  | _ => False
theorem enumAQ_l {ds : List D} {m : Md} {Q : List D → Bool → Prop} : enumAQ [(.lst ds, m)] Q = Q (enumD 0 ds) (!isBr m) := rfl
theorem enumAQ_t {ds : List D} {m : Md} {Q : List D → Bool → Prop} : enumAQ [(.tup ds, m)] Q = Q (enumD 0 ds) (!isBr m) := rfl
end
end P
namespace P
open PySem PySem.Spec PyProof.Rows L2
section
variable {prog : Program} {w : World} {A : Around} {E : Value → Shared → Prop} {s : Shared}
abbrev ZipF (h : Heap) (z TI TO : Addr) (f0 : Value) (f : Bool) : Prop :=
  h.get? z = some { cls := .type "zip", dict := none, data := .fields #[f0, .bool f, .bool false, .ref TI, .ref TO], slots := #[] }
def ZipG (h : Heap) (z TI TO : Addr) : Prop := ∃ f0 f, ZipF h z TI TO f0 f ∧ (f0 = .none ∨ ∃ T : Addr, f0 = rawInt T)
end
def ItK (k : Bool) (h : Heap) (it a : Addr) (i : Nat) : Prop := if k = true then h.IsTupleIter it a i else h.IsListIter it a i
theorem ItK.at {k : Bool} {h h' : Heap} {it a : Addr} {i : Nat} (x : ItK k h it a i) (e : ∀ o, h.get? it = some o → h'.get? it = some o) : ItK k h' it a i := by
  cases k
  · exact Heap.IsListIter.at x e
  · exact Heap.IsTupleIter.at x e
theorem ZipG.keep {h h' : Heap} {z TI TO : Addr} (x : ZipG h z TI TO) (e : ∀ o, h.get? z = some o → h'.get? z = some o) : ZipG h' z TI TO := by
  obtain ⟨f0, f, hz, h0⟩ := x
  exact ⟨f0, f, e _ hz, h0⟩
section
variable {X : Cx} {c : Fc}
/-- of lists and tuples -/
def zipAQ : Iq := fun ps Q => match ps with
  | [(d, md), (e, me)] => itemsQ' d fun ds => itemsQ' e fun es => Q (zipD ds es) (!isBr md && !isBr me)
  | _ => False
where itemsQ' (d : D) (Q : List D → Prop) : Prop := match d with
  | .lst ds => Q ds
  | .tup ds => Q ds
  | _ => False
theorem itemsQ'_l {ds : List D} {Q : List D → Prop} : zipAQ.itemsQ' (.lst ds) Q = Q ds := rfl
theorem itemsQ'_t {ds : List D} {Q : List D → Prop} : zipAQ.itemsQ' (.tup ds) Q = Q ds := rfl
theorem zipAQ_2 {d e : D} {md me : Md} {Q : List D → Bool → Prop} : zipAQ [(d, md), (e, me)] Q = zipAQ.itemsQ' d fun ds => zipAQ.itemsQ' e fun es => Q (zipD ds es) (!isBr md && !isBr me) := rfl
end
end P
namespace P
open PySem PySem.Spec PyProof.Rows L2
open PySem.W (AlikeAll minD maxD minD_ints maxD_ints min_list_data min_tuple_data max_list_data max_tuple_data max_list_default)
def repS (x : Str) (m : Nat) : Str := ⟨((List.replicate m x.cps.toList).flatten).toArray⟩
theorem foldl_app (m : Nat) (a : Array Nat) : ∀ acc : Array Nat, ((List.replicate m a).foldl (· ++ ·) acc).toList = acc.toList ++ (List.replicate m a.toList).flatten := by
  induction m with
  | zero => intro acc; simp
  | succ m ih => intro acc; rw [List.replicate_succ, List.foldl_cons, ih, List.replicate_succ, List.flatten_cons]; simp
theorem txt_mul (x : Str) (n : Int) : Txt.mul x n = repS x n.toNat := by
  unfold Txt.mul repS
  by_cases h : n < 1
  · rw [if_pos h]
    have e : n.toNat = 0 := by omega
    rw [e]; rfl
  · rw [if_neg h]
    by_cases h2 : (n == 1 || x.length == 0) = true
    · rw [if_pos h2]
      rw [Bool.or_eq_true] at h2
      obtain ⟨c⟩ := x
      congr 1
      rcases h2 with h2 | h2
      · have e : n.toNat = 1 := by have := eq_of_beq h2; omega
        rw [e]; simp
      · have e : c = #[] := by
          have h3 : c.size = 0 := eq_of_beq h2
          exact Array.eq_empty_of_size_eq_zero h3
        rw [e]; simp
    · rw [if_neg h2]
      congr 1
      apply Array.toList_inj.mp
      rw [foldl_app]
      simp
theorem repS_ok {x : Str} (m : Nat) (h : PyData.strOk x = true) : PyData.strOk (repS x m) = true := by
  unfold PyData.strOk at *
  unfold repS
  rw [← Array.all_toList] at *
  simp only [List.all_eq_true, List.mem_flatten, List.mem_replicate] at *
  rintro c ⟨l, ⟨_, rfl⟩, hc⟩
  exact h c hc
section
variable {X : Cx} {c : Fc}
def rMulS : R2 := fun x y H Q => ∃ a n, x = .str a ∧ y = .int n ∧ -(2 ^ 63) ≤ n ∧ n < 2 ^ 63 ∧ a.length * n.toNat ≤ 16777216 ∧ Q (.str (repS a n.toNat)) H
theorem op_mulS : OpR X (binaryOp .Mult) rMulS := by
  intro pins s σ H x y v u Q I rx ry h
  obtain ⟨a, n, rfl, rfl, h1, h2, hz, q⟩ := h
  obtain ⟨t, rfl⟩ := rx
  obtain ⟨t', rfl⟩ := ry
  refine SB.mul ⟨?_, fun hn _ => ?_, fun hn _ => ?_⟩ fun t2 k => ⟨.str (repS a n.toNat), H, I.kept (t' := k) (fun _ _ e => e), ⟨t2, by rw [txt_mul]⟩, q⟩
  · rw [decide_eq_false (by omega), decide_eq_false (by omega)]; rfl
  · have e : (a.length : Int) * n ≤ 16777216 := by
      have e1 : (n.toNat : Int) = n := by omega
      have e2 : ((a.length * n.toNat : Nat) : Int) ≤ 16777216 := by omega
      rw [Int.natCast_mul, e1] at e2
      exact e2
    intro g
    have hp : 0 < n := by omega
    have g2 := (Int.le_ediv_iff_mul_le (a := (a.length : Int)) (b := 2 ^ 63 - 1) hp).mpr (by omega)
    omega
  · unfold Builtin.Str.tooLong
    exact decide_eq_false (by
      have : sizeLine = 16777216 := by decide
      omega)
def mulAQ (d e : D) (Q : D → Md → Prop) : Prop := match d, e with
  | .sc (.int i), .sc (.int j) => (i.natAbs < 18446744073709551616 ∨ j.natAbs < 18446744073709551616) ∧ Q (.sc (.int (i * j))) .st
  | .sc (.str x), .sc (.int n) => (-(2 ^ 63) ≤ n ∧ n < 2 ^ 63 ∧ x.length * n.toNat ≤ 16777216) ∧ Q (.sc (.str (repS x n.toNat))) .st
  | _, _ => False
theorem RepL.rep {K : PySem.W.Frag} {Z : Hp} {vs : List V} {ds : List D} (r : RepL K Z vs ds) : ∀ m : Nat, RepL K Z (List.replicate m vs).flatten (List.replicate m ds).flatten
  | 0 => .nil
  | m + 1 => by
    rw [List.replicate_succ, List.replicate_succ, List.flatten_cons, List.flatten_cons]
    exact r.append (RepL.rep r m)
theorem op_mulAA : OpR X (binaryOp .Mult) (fun x y H Q => rI CMul (fun i j => .int (i * j)) x y H Q ∨ rMulS x y H Q) := OpR.or op_mulA op_mulS
theorem OpL.mulA : OpL c (fun x y H Q => rI CMul (fun i j => .int (i * j)) x y H Q ∨ rMulS x y H Q) mulAQ := by
  intro R O H x y dx dy Q' Q w' a b t k
  unfold mulAQ at t
  split at t
  · exact .inl (OpL.mul R O H x y _ _ Q' Q w' a b t k)
  · rename_i s n
    exact .inr ⟨s, n, a.sc, b.sc, t.1.1, t.1.2.1, t.1.2.2, k _ _ t.2 _ H R w'.refl (.sc (repS_ok _ a.ok))⟩
  · exact t.elim
/-- a new list times an int -/
def repQ (d : D) (md : Md) (e : D) (Q : D → Md → Prop) : Prop := match d, md, e with
  | .lst ds, .ow, .sc (.int n) => (-(2 ^ 63) ≤ n ∧ n < 2 ^ 63 ∧ ds.length * n.toNat ≤ 16777216) ∧ Q (.lst (List.replicate n.toNat ds).flatten) .ow
  | _, _, _ => False
def e_rep (ta tb : Ex) : Ex := fun env Q => ta env fun d md => tb env fun e _ => repQ d md e Q
theorem repQ_l {ds : List D} {n : Int} {Q : D → Md → Prop} : repQ (.lst ds) .ow (.sc (.int n)) Q = ((-(2 ^ 63) ≤ n ∧ n < 2 ^ 63 ∧ ds.length * n.toNat ≤ 16777216) ∧ Q (.lst (List.replicate n.toNat ds).flatten) .ow) := rfl
theorem mulAQ_i {i j : Int} {Q : D → Md → Prop} : mulAQ (.sc (.int i)) (.sc (.int j)) Q = ((i.natAbs < 18446744073709551616 ∨ j.natAbs < 18446744073709551616) ∧ Q (.sc (.int (i * j))) .st) := rfl
theorem mulAQ_s {x : Str} {n : Int} {Q : D → Md → Prop} : mulAQ (.sc (.str x)) (.sc (.int n)) Q = ((-(2 ^ 63) ≤ n ∧ n < 2 ^ 63 ∧ x.length * n.toNat ≤ 16777216) ∧ Q (.sc (.str (repS x n.toNat))) .st) := rfl
/-- the least (greatest) of one list or tuple -/
def mm1Q (f : Int → Int → Int) : Cq := fun ps Q => match ps with
  | [(d, _)] => zipAQ.itemsQ' d fun ds => ∃ n ns, D.ints ds = some (n :: ns) ∧ Q (.sc (.int (ns.foldl f n))) .st
  | _ => False
theorem mm1Q_1 {f : Int → Int → Int} {d : D} {m : Md} {Q : D → Md → Prop} : mm1Q f [(d, m)] Q = zipAQ.itemsQ' d fun ds => ∃ n ns, D.ints ds = some (n :: ns) ∧ Q (.sc (.int (ns.foldl f n))) .st := rfl
/-- max(xs, default=z) -/
def e_maxd (z : Int) (te : Ex) : Ex := fun env Q => te env fun d _ => seqQ d fun ds => ∃ ns, D.ints ds = some ns ∧ Q (.sc (.int (match ns with | [] => z | n :: ns => ns.foldl max n))) .st
theorem seqQ_l' {ds : List D} {Q : List D → Prop} : seqQ (.lst ds) Q = Q ds := rfl
def s_wip (vs : List Nat) (g : Sx) : Sx := fun env E => g (wipeE env vs) E
theorem Rel.forget {R O : List Addr} {σ : L2.St} {H : Hp} {env : En} {i : Nat} (r : Rel c R O σ H env) : Rel c R O σ H (env.set i .no) where
  toHW := r.toHW
  len := by rw [List.length_set]; exact r.len
  sh := fun j e q => by
    rcases getElem?_set_cases q with ⟨rfl, z⟩ | ⟨n, q⟩
    · cases z
    · exact r.sh j e q
  ow := fun j e q => by
    rcases getElem?_set_cases q with ⟨rfl, z⟩ | ⟨n, q⟩
    · cases z
    · exact r.ow j e q
  inj := fun j k e e' a q q' z z' => by
    rcases getElem?_set_cases q with ⟨rfl, y⟩ | ⟨n, q⟩
    · cases y
    rcases getElem?_set_cases q' with ⟨rfl, y⟩ | ⟨n', q'⟩
    · cases y
    exact r.inj j k e e' a q q' z z'
  gh := fun j S q => r.gh j S (r.ghSet (by intro _ z; cases z) j S q)
  ghd := fun j k S a e e' q qs q' z' => by
    rcases getElem?_set_cases q' with ⟨rfl, y⟩ | ⟨n', q'⟩
    · cases y
    exact r.ghd j k S a e e' (r.ghSet (by intro _ z; cases z) j S q) qs q' z'
  ghu := fun j k S T q q' => r.ghu j k S T (r.ghSet (by intro _ z; cases z) j S q) (r.ghSet (by intro _ z; cases z) k T q')
theorem Rel.forgets {R O : List Addr} {σ : L2.St} {H : Hp} {env : En} (r : Rel c R O σ H env) : ∀ vs : List Nat, Rel c R O σ H (wipeE env vs)
  | [] => r
  | v :: vs => (Rel.forgets r vs).forget
theorem wip_l {vs : List Nat} {g : Sx} {E : Ends} {σ : L2.St} {H : Hp} (h : lS c (s_wip vs g) E σ H) : lS c g E σ H := by
  obtain ⟨R, O, env, E', r, q, o⟩ := h
  exact ⟨R, O, _, E', r.forgets vs, q, o⟩
theorem p_wips (vs : List Nat) {st : List Stmt} {g : Sx} (h : PSs X st (lS c g)) : PSs X st (lS c (s_wip vs g)) := PSsw h fun _ _ _ z => wip_l z
end
section
variable {α : Type} {x y z u v : α} {xs : List α}
theorem atI_w0 : atI (x :: xs) 0 = some x := by
  unfold atI ixN
  rw [if_pos (by decide), if_pos (by simp only [List.length_cons]; omega)]
  rfl
theorem atI_w1 : atI (x :: y :: xs) 1 = some y := by
  unfold atI ixN
  rw [if_pos (by decide), if_pos (by simp only [List.length_cons]; omega)]
  rfl
theorem atI_w2 : atI (x :: y :: z :: xs) 2 = some z := by
  unfold atI ixN
  rw [if_pos (by decide), if_pos (by simp only [List.length_cons]; omega)]
  rfl
theorem atI_w3 : atI (x :: y :: z :: u :: xs) 3 = some u := by
  unfold atI ixN
  rw [if_pos (by decide), if_pos (by simp only [List.length_cons]; omega)]
  rfl
theorem atI_w4 : atI (x :: y :: z :: u :: v :: xs) 4 = some v := by
  unfold atI ixN
  rw [if_pos (by decide), if_pos (by simp only [List.length_cons]; omega)]
  rfl
theorem atI_nat {k : Nat} : atI xs (k : Int) = xs[k]? := by
  unfold atI ixN
  rw [if_pos (by omega)]
  by_cases h : k < xs.length
  · rw [if_pos (by omega)]
    simp
  · rw [if_neg (by omega)]
    rw [List.getElem?_eq_none (by omega)]; rfl
theorem atI_map {β : Type} (f : β → α) (ys : List β) (i : Int) : atI (ys.map f) i = (atI ys i).map f := by
  unfold atI
  rw [List.length_map]
  cases ixN ys.length i with
  | none => rfl
  | some k => simp
end
section
variable {α σ : Type}
theorem for_st {tg : Gx} {g : Sx} {E : Os} (enc : α → D) (xs : List α) (st : σ → En) (I : List α → σ → Prop) {s0 : σ} (hi : I [] s0) (h0 : ∀ s, I xs s → E.nx (st s))
    (hs : ∀ pre x post, xs = pre ++ x :: post → ∀ s, I pre s → ∀ N : En → Prop, (∀ s', I (pre ++ [x]) s' → N (st s')) → tg (enc x) (st s) fun e => g e { nx := N, ct := N, bk := E.nx, rt := E.rt, ro := E.ro }) : loopF tg g (xs.map enc) (st s0) E := by
  refine seq_loop (fun j env => ∃ s, env = st s ∧ I (xs.take j) s) ⟨s0, rfl, by simpa using hi⟩ ?_ ?_
  · rintro env ⟨s, rfl, h⟩
    rw [List.length_map, List.take_length] at h
    exact h0 s h
  · rintro j d hd env ⟨s, rfl, h⟩ N hN
    rw [List.getElem?_map] at hd
    obtain ⟨x, hx, rfl⟩ := Option.map_eq_some_iff.mp hd
    have hj := (List.getElem?_eq_some_iff.mp hx).1
    have hx' : xs[j] = x := (List.getElem?_eq_some_iff.mp hx).2
    refine hs (xs.take j) x (xs.drop (j + 1)) ?_ s h N fun s' h' => hN _ ⟨s', rfl, ?_⟩
    · rw [← hx', ← List.drop_eq_getElem_cons hj, List.take_append_drop]
    · rw [List.take_succ_eq_append_getElem hj, hx']
      exact h'
/-- a comprehension over what is written of some -/
theorem comp_st {tx : Gx} {tt : Tx} {te : Ex} {env : En} {Q : D → Md → Prop} (enc : α → D) (xs : List α) (p : α → Bool) (f : α → D) (hz : xs.length ≤ 16777216) (h0 : Q (.lst ((xs.filter p).map f)) .ow)
    (hs : ∀ pre x post, xs = pre ++ x :: post → ∀ (K : D → Md → Prop) (N : Prop), (p x = true → ∀ md, isBr md = false → K (f x) md) → (p x = false → N) → tx (enc x) env fun e => tt e fun b => if b = true then te e K else N) : compF tx tt te env (xs.map enc) [] Q := by
  have main : ∀ (post pre : List α), xs = pre ++ post → compF tx tt te env (post.map enc) ((pre.filter p).map f) Q := by
    intro post
    induction post with
    | nil =>
      intro pre e
      rw [List.append_nil] at e
      rw [← e]
      exact h0
    | cons x post ih =>
      intro pre e
      refine hs pre x post e (fun y md => isBr md = false ∧ ((pre.filter p).map f).length < sizeLine ∧ compF tx tt te env (post.map enc) ((pre.filter p).map f ++ [y]) Q) (compF tx tt te env (post.map enc) ((pre.filter p).map f) Q) (fun hp md nb => ⟨nb, ?_, ?_⟩) fun hp => ?_
      · rw [sizeL, List.length_map]
        refine Nat.lt_of_le_of_lt (List.length_filter_le _ _) ?_
        rw [e, List.length_append, List.length_cons] at hz
        omega
      · have := ih (pre ++ [x]) (by rw [e, List.append_assoc]; rfl)
        rw [List.filter_append, List.map_append] at this
        simpa [hp] using this
      · have := ih (pre ++ [x]) (by rw [e, List.append_assoc]; rfl)
        rw [List.filter_append, List.map_append] at this
        simpa [hp] using this
  exact main xs [] rfl
/-- two lists, part by part -/
inductive F2 {α β : Type} (R : α → β → Prop) : List α → List β → Prop
  | nil : F2 R [] []
  | cons {a : α} {b : β} {as : List α} {bs : List β} : R a b → F2 R as bs → F2 R (a :: as) (b :: bs)
theorem F2.length_eq {β : Type} {R : α → β → Prop} {as : List α} {bs : List β} (h : F2 R as bs) : as.length = bs.length := by
  induction h with
  | nil => rfl
  | cons _ _ ih => simp [ih]
theorem F2.mem {β : Type} {R : α → β → Prop} {as : List α} {bs : List β} (h : F2 R as bs) {b : β} (m : b ∈ bs) : ∃ a ∈ as, R a b := by
  induction h with
  | nil => cases m
  | cons r _ ih =>
    rcases List.mem_cons.mp m with rfl | m
    · exact ⟨_, List.mem_cons_self, r⟩
    · obtain ⟨a, ma, ra⟩ := ih m; exact ⟨a, List.mem_cons_of_mem _ ma, ra⟩
end
end P
namespace P
open PySem PySem.Spec PyProof.Rows L2
section
variable {X : Cx} {pins : List (Addr × Obj)} {σ : L2.St} {H : Hp} {s s' : Shared} {a : Addr} {oe : Obj} {vs : Array Value} {cls : Value} {d : Option Addr}
theorem suiteT (I : Inv X pins σ H s) (ha : s.heap.get? a = some oe) (hz : Zc cls d oe) (hd : oe.data = .fields vs) (na : H a = none) (nL : a ≠ X.env.locals) (n0 : X.s_0.heap.get? a = none) (np : ∀ p ∈ X.pn ++ pins, p.1 ≠ a) :
    Inv (X.suite a (X.pn ++ pins)) [] σ (upd H a (ExH cls d a)) s := by
  have nf : ∀ b xs, H b = some xs → b ≠ a := fun b xs e z => by rw [z, na] at e; cases e
  refine ⟨I.ok.suite _ _, I.os, I.bare, ⟨I.base.keep, I.base.slot, fun b u e n q => ?_, I.base.there, fun b xs e => ?_, fun b o u e => ?_, fun b ps e => ?_⟩, I.loc, I.cell, ?_, fun x c e => ?_, fun p hp => ?_, fun b u e => ?_, I.len⟩
  · rw [upd_ne]
    · exact I.base.free b u e n q
    · rintro rfl
      rw [n0] at e; cases e
  · have q := I.base.tups b xs e
    rw [upd_ne (nf _ _ q)]; exact q
  · have q := I.base.frzs b o u e
    rw [upd_ne (nf _ _ q)]; exact q
  · obtain ⟨m, q⟩ := I.base.tbls b ps e
    exact ⟨m, by rw [upd_ne (nf _ _ q)]; exact q⟩
  · rw [upd_ne (Ne.symm nL)]; exact I.free
  · rw [upd_ne]
    · exact I.freeC x c e
    · rintro rfl
      obtain ⟨v, o, ho, hc⟩ := I.cell x _ e
      rw [ha] at ho; cases ho
      rw [hd] at hc; cases hc
  · have hp' : p ∈ X.pn ++ pins := by rw [List.append_nil] at hp; exact hp
    obtain ⟨e, n, r⟩ := I.pin p hp'
    exact ⟨e, by rw [upd_ne (np p hp')]; exact n, r⟩
  · by_cases hb : b = a
    · subst hb
      rw [upd_same] at e
      cases e
      exact ⟨⟨oe, vs, ha, hz, hd⟩, ⟨oe, ha⟩, fun _ _ ⟨o, v, q, r⟩ k => ⟨o, v, k o q, r⟩⟩
    · rw [upd_ne hb] at e
      exact (I.hok b u e).stay (fun c v _ q => q) (fun c q => by rw [upd_ne (nf _ _ q)]; exact q) fun c xs q => by rw [upd_ne (nf _ _ q)]; exact q
theorem unsuiteT (I : Inv (X.suite a (X.pn ++ pins)) [] σ H s) (ok : X.Ok) : Inv X pins σ H s :=
  ⟨ok, I.os, I.bare, I.base, I.loc, I.cell, I.free, I.freeC, fun p hp => I.pin p (List.mem_append_left _ hp), I.hok, I.len⟩
end
/-- the wish within the body: the suite, the exception tracked -/
def wTr (K : PySem.W.Frag) (c : Value) (i : Nat) (ts : TS) (Wout : WX) (D : Ends) : WX := fun cls d σ H =>
  ∃ b, PySem.W.exmOne K cls c = some b ∧ (b = true → i < σ.length → ∀ a, H a = none → ts { nx := fun σ' H' => D.nx (σ'.set i none) H', rt := D.rt, bk := fun σ' H' => D.bk (σ'.set i none) H', ct := fun σ' H' => D.ct (σ'.set i none) H' } (σ.set i (some (.ref a))) (upd H a (ExH cls d a))) ∧
    (b = false → Wout cls d σ H)
section
variable {X : Cx} {x n : Str} {c : Value} {i : Nat} {body suite : List Stmt} {b₀ : Stmt} {np pos pos' : Pos} {tb : WX → TS} {ts : TS} {Wout : WX}
theorem ps_try_asT (hs : X.stack = X.env :: X.outer) (hf : X.env.frame = some X.env.locals) (hex : X.ex = []) (hN : X.N.Nodup) (hi : X.N[i]? = some n) (hln : X.env.kindOf n = some .local) (hc : Names X x c) (tk : Takes X Wout)
    (hb : ∀ (W : WX) (pn : List (Addr × Obj)) (xe : Value → Shared → Prop), Takes (X.tr pn xe) W → PassesOwn (model X.prog X.w) X.A X.env xe → PSs (X.tr pn xe) body (tb W))
    (hsu : ∀ (a : Addr) (pn : List (Addr × Obj)), PSs (X.suite a pn) (b₀ :: suite) ts) :
    PS X (.Try body [.ExceptHandler (some (.Name x np)) (some n) (b₀ :: suite) pos'] [] [] pos) (fun D σ H => tb (wTr X.K c i ts Wout D) D σ H) := by
  refine ⟨fun pins s σ H D I h => ?_⟩
  have ok := I.ok
  have hfr : X.A.frames = some (X.env :: X.outer) := by rw [ok.frames, hs]
  have hloc : Loc X.env.scope n := .inl hln
  refine wpAny_Try_except ?_
  refine wpAny_mono ((hb (wTr X.K c i ts Wout D) (X.pn ++ pins) (fun e s₁ => wpAny (model X.prog X.w) X.A (noteFrame e X.env) (fun _ s₂ => wpAny (model X.prog X.w) X.A (setFlight e none) (fun _ s₃ =>
    wpAny (model X.prog X.w) X.A (handleBy e X.env [.ExceptHandler (some (.Name x np)) (some n) (b₀ :: suite) pos']) (SP X pins D) X.xe s₃) X.xe s₂) X.xe s₁) (fun u s' xx => ?_) PassesOwn.looking).run [] s σ H D (I.toTry _) h) (fun f s1 hsp => ?_) (fun e s1 he => he)
  · -- the catch
    obtain ⟨a, B, sI, pins', σ', H', cls, d, rfl, J', nb, up, sky, na, os, ag, b, hb1, hyes, hno⟩ := xx
    have J : Inv X pins σ' H' sI := J'.ofTry ok
    have sky' : Sky B (X.env :: X.outer) a (Zc cls d) X.env.locals s'.heap := by rw [← hs]; exact sky
    show wpAny (model X.prog X.w) X.A (noteFrame (.ref a) X.env) _ _ _
    refine Sky.land Zc.steady hfr hf sky' fun h3 fl3 up3 => ?_
    have J3 : Inv X pins σ' H' { s' with heap := h3 } := J.landed nb fl3.1 (up.trans up3) os ag
    obtain ⟨oe3, vs3, he3, hz3, hd3⟩ := fl3.there
    have notFr : ∀ {h : Heap} {o : Obj} {vs : Array Value}, h.FunFrames B (X.env :: X.outer) → h.get? a = some o → o.data = .fields vs → a ∉ frs (X.env :: X.outer) := fun {h o vs} ff e dd hm => by
      obtain ⟨_, o', e', hnf⟩ := ff.mem hm
      rw [e] at e'; cases e'
      exact hnf _ dd
    have nfr := notFr fl3.2.2.1 he3 hd3
    have nL : a ≠ X.env.locals := fun z => nfr (List.mem_filterMap.mpr ⟨X.env, List.mem_cons_self, by rw [hf, z]⟩)
    have nF : a ∉ X.fs := fun hm => by
      obtain ⟨e, he, q⟩ := List.mem_filterMap.mp hm
      exact nfr (List.mem_filterMap.mpr ⟨e, List.mem_cons_of_mem _ he, q⟩)
    have nB : B.get? a = none := fl3.2.1
    have frE : frs X.stack = X.env.locals :: X.fs := by rw [hs]; unfold frs; rw [List.filterMap_cons, hf]; rfl
    have out : ∀ b o, sI.heap.get? b = some o → b ≠ X.env.locals → b ∉ X.fs → b ≠ a := fun b o e h1 h2 z => by
      have := nb b o e (by rw [frE]; exact fun m => (List.mem_cons.mp m).elim h1 h2)
      rw [z, nB] at this; cases this
    have n0 : X.s_0.heap.get? a = none := by
      cases e : X.s_0.heap.get? a with
      | none => rfl
      | some o =>
        obtain ⟨o', e'⟩ := J.base.there a o e (by rw [hex]; exact fun z => nomatch z)
        exact absurd rfl (out a o' e' nL nF)
    have npin : ∀ p ∈ X.pn ++ pins, p.1 ≠ a := fun p hp => by
      obtain ⟨e, _, h1, h2, _⟩ := J.pin p hp
      exact out _ _ e h1 h2
    have S3 := J3.suite he3 hd3 na nL nF
    refine wpAny_handleBy_cons (codeAny_handlers_test ?_) (by intro q; cases q)
    have LT : PySem.W.Looks (model X.prog X.w) h3 (typeOf (.ref a)) cls := fun A Q E s k q => wpAny_typeOf_ref (k _ _ he3) (by rw [hz3.1]; exact q)
    have LM := PySem.W.exm_one (M := model X.prog X.w) (J3.kIn) LT hb1
    have test : ∀ {Q : Value → Shared → Prop} {E : Value → Shared → Prop}, Q c { s' with heap := h3 } → wpAny (model X.prog X.w) (X.A.mark (some (.ref a))) (eval (.Name x np) X.env) Q E { s' with heap := h3 } := fun {Q E} q => by
      obtain ⟨hg, hdbg, hm | ⟨hm, hv, hnn⟩⟩ := hc
      · exact ld_glob (X := X.suite a ((a, oe3) :: (X.pn ++ pins))) S3 hg hm q hdbg
      · exact ld_blt (X := X.suite a ((a, oe3) :: (X.pn ++ pins))) S3 hg hm hv q hnn hdbg
    refine test (LM.here ?_)
    cases b with
    | true =>
      refine codeAny_handlers_suite_as ?_
      refine HandSPX.lands_againZ fl3 fun h4 fl4 up4 => ?_
      have J4 : Inv X pins σ' H' { s' with heap := h4 } := J.landed nb fl4.1 ((up.trans up3).trans up4) os ag
      obtain ⟨oe4, vs4, he4, hz4, hd4⟩ := fl4.there
      have S4 := suiteT J4 he4 hz4 hd4 na nL n0 npin
      refine store_ok (X := X.suite a (X.pn ++ pins)) (v := .ref a) S4 hN hi hloc rfl (fun s5 S5 => ?_) (.inr hln)
      refine wpAny_mono ((hsu a (X.pn ++ pins)).run [] s5 _ _ _ S5 (hyes rfl (by rw [J.len]; exact (List.getElem?_eq_some_iff.mp hi).1) a na)) (fun f s6 hsp => ?_) (fun _ _ z => False.elim z)
      have end_ : ∀ {σ6 : L2.St} {H6 : Hp} {Q : Shared → Prop}, Inv (X.suite a (X.pn ++ pins)) [] σ6 H6 s6 → (∀ s7, Inv X pins (σ6.set i none) H6 s7 → Q s7) →
          wpAny (model X.prog X.w) X.A (do bindName X.env n .none; unbindBehindTheSuite X.env n pos') (fun _ s7 => Q s7) X.xe s6 := fun {σ6 H6 Q} S6 hq => gone_ok (unsuiteT S6 ok) hN hi hln hq
      cases f with
      | next =>
        obtain ⟨σ6, H6, S6, q6⟩ := hsp
        exact end_ S6 fun s7 J7 => ⟨_, _, J7, q6⟩
      | brk =>
        obtain ⟨σ6, H6, S6, q6⟩ := hsp
        exact end_ S6 fun s7 J7 => ⟨_, _, J7, q6⟩
      | cont =>
        obtain ⟨σ6, H6, S6, q6⟩ := hsp
        exact end_ S6 fun s7 J7 => ⟨_, _, J7, q6⟩
      | ret u =>
        obtain ⟨v6, σ6, H6, S6, r6, q6⟩ := hsp
        exact end_ S6 fun s7 J7 => ⟨_, _, _, J7, r6, q6⟩
    | false =>
      show wpAny _ X.A (handleBy (.ref a) X.env []) _ _ _
      refine wpAny_handleBy_nil ?_
      obtain ⟨k1, k2, k3, oe, vs, T, oT, ts', he, hz, hd, h1, hr⟩ := id fl3
      unfold PySem.passOn
      refine wpAny_bind (wpAny_field he hd h1 ?_)
      rw [if_neg (show ¬ ((Value.ref T == Value.none) = true) from by simp)]
      have fin : wpAny (model X.prog X.w) X.A (setFlight (.ref a) X.env.frame) (fun _ s4 => wpAny (model X.prog X.w) X.A (throw (.ref a) : Sem Flow) (SP X pins D) X.xe s4) X.xe { s' with heap := h3 } := by
        rw [hf]
        refine HandSPX.setFlight_upZ fl3 fun h4 hh4 up4 => wpAny_throw (tk _ _ ?_)
        exact ⟨a, B, sI, pins, σ', H', cls, d, rfl, J, nb, (up.trans up3).trans up4, .inr (.inr (by rw [hs]; exact hh4)), na, os, ag, hno rfl⟩
      first
        | exact wpAny_bind (wpAny_pure (wpAny_bind fin))
        | exact wpAny_bind fin
  · cases f with
    | next =>
      obtain ⟨σ', H', J', q⟩ := hsp
      exact wpAny_execs_nil ⟨σ', H', J'.ofTry ok, q⟩
    | brk =>
      obtain ⟨σ', H', J', q⟩ := hsp
      exact ⟨σ', H', J'.ofTry ok, q⟩
    | cont =>
      obtain ⟨σ', H', J', q⟩ := hsp
      exact ⟨σ', H', J'.ofTry ok, q⟩
    | ret u =>
      obtain ⟨v, σ', H', J', r, q⟩ := hsp
      exact ⟨v, σ', H', J'.ofTry ok, r, q⟩
end
def excSub (n m : Str) : Bool := n == m || m == ("BookError" : Str)
/-- what the program's top must say of the classes in L -/
def exAt (K : PySem.W.Frag) (n : Str) : Value := .ref (He.ga K n)
def exOK1 (K : PySem.W.Frag) (n m : Str) : Bool := PySem.W.exmOne K (exAt K n) (exAt K m) == some (excSub n m) && PySem.W.kitOne K (exAt K n) (exAt K m) == some (excSub n m)
def exOK0 (K : PySem.W.Frag) (n : Str) : Bool :=
  PySem.W.subIn K (exAt K n) (.type "BaseException") == some true && PySem.W.typeIn K (exAt K n) == some (.type "type") && PySem.W.kitOne K (exAt K n) (.type "ValueError") == some true &&
  PySem.W.keepIn K (exAt K n) && PySem.W.findIn K (exAt K n) "__getattribute__" == some (some (.builtin "BaseException.__getattribute__")) && PySem.W.findIn K (exAt K n) "__getattr__" == some none &&
  PySem.W.hasDictIn K (He.ga K n) && PySem.W.findIn K (exAt K n) "__class__" == some (some (.builtin "object.__class__")) && PySem.W.specialIn K (.builtin "object.__class__") "__get__" == some (some (.builtin "getset_descriptor.__get__")) &&
  PySem.W.takesIn K (.builtin "object.__class__") == some true && PySem.W.mroIn K (He.ga K n) (.type "object") == some true
def exOK (K : PySem.W.Frag) (L : List Str) : Bool := L.all fun n => exOK0 K n && L.all fun m => exOK1 K n m
/-- a class without its own __init__ -/
def exOwn (K : PySem.W.Frag) (n : Str) : Bool := PySem.W.excIn K (He.ga K n) [.type "ValueError", .type "Exception", .type "BaseException", .type "object"] "ValueError.__new__"
theorem exOK_at {K : PySem.W.Frag} {L : List Str} (h : exOK K L = true) {n m : Str} (hn : n ∈ L) (hm : m ∈ L) : PySem.W.exmOne K (exAt K n) (exAt K m) = some (excSub n m) ∧ PySem.W.kitOne K (exAt K n) (exAt K m) = some (excSub n m) := by
  have h1 := List.all_eq_true.mp h n hn
  simp only [Bool.and_eq_true, List.all_eq_true] at h1
  have h2 := h1.2 m hm
  unfold exOK1 at h2
  simpa only [Bool.and_eq_true, beq_iff_eq] using h2
theorem exOK_in {K : PySem.W.Frag} {L : List Str} (h : exOK K L = true) {n : Str} (hn : n ∈ L) : ExcC K (He.ga K n) ∧ PySem.W.subIn K (exAt K n) (.type "BaseException") = some true ∧ PySem.W.typeIn K (exAt K n) = some (.type "type") ∧ PySem.W.kitOne K (exAt K n) (.type "ValueError") = some true ∧ PySem.W.keepIn K (exAt K n) = true := by
  have h1 := List.all_eq_true.mp h n hn
  simp only [Bool.and_eq_true, List.all_eq_true] at h1
  have h2 := h1.1
  unfold exOK0 at h2
  simp only [Bool.and_eq_true, beq_iff_eq] at h2
  obtain ⟨⟨⟨⟨⟨⟨⟨⟨⟨⟨a1, a2⟩, a3⟩, a4⟩, a5⟩, a6⟩, a7⟩, a8⟩, a9⟩, a10⟩, a11⟩ := h2
  exact ⟨⟨a5, a6, a1, a7, a8, a9, a10, a11⟩, a1, a2, a3, a4⟩
/-- the exception in the air: its class, its dict -/
def ExR (K : PySem.W.Frag) (Z : Hp) (cls : Value) (dd : Option Addr) (e : D) : Prop :=
  ∃ cn ns ds, e = .exc cn ns ds ∧ cls = exAt K cn ∧ ((dd = none ∧ ns = [] ∧ ds = []) ∨ ∃ d fs, dd = some d ∧ Z d = some (.xd fs) ∧ ns ≠ [] ∧ fs.map (·.1) = ns ∧ RepL K Z (fs.map (·.2)) ds)
theorem ExR.mono {K : PySem.W.Frag} {Z Z' : Hp} {cls : Value} {dd : Option Addr} {e : D} (s : Same Z Z') (h : ExR K Z cls dd e) : ExR K Z' cls dd e := by
  obtain ⟨cn, ns, ds, h1, h2, h3⟩ := h
  refine ⟨cn, ns, ds, h1, h2, ?_⟩
  rcases h3 with h3 | ⟨d, fs, a, b, n, x, y⟩
  · exact .inl h3
  · exact .inr ⟨d, fs, a, s _ _ b, n, x, y.mono s⟩
theorem ExR.rep {K : PySem.W.Frag} {Z : Hp} {cls : Value} {dd : Option Addr} {e : D} {a : Addr} (h : ExR K Z cls dd e) (ha : Z a = some (ExH cls dd a)) : Rep K Z (.ref a) e := by
  obtain ⟨cn, ns, ds, rfl, rfl, h3⟩ := h
  rcases h3 with ⟨rfl, rfl, rfl⟩ | ⟨d, fs, rfl, b, n, x, y⟩
  · exact .exc0 ha
  · exact .exc ha b n x y
/-- data of an exception without lists -/
def exFlat : D → Bool
  | .exc _ _ ds => D.imm.immL ds
  | _ => false
abbrev Xk := En → D → Prop
/-- the wish, by data -/
def wX (c : Fc) (W : Xk) : WX := fun cls d σ H => ∃ R O env e, Rel c R O σ H env ∧ ExR c.K (cut H (O ++ (c.A ++ R))) cls d e ∧ (∀ x, d = some x → c.H0 x = none) ∧ W env e
theorem wX_pin {c : Fc} {g : List (V × D)} {W : Xk} {cls : Value} {d : Option Addr} {σ : L2.St} {H : Hp} (h : wX (c.pin g) W cls d σ H) : wX c W cls d σ H := by
  obtain ⟨R, O, env, e, r, x, n, w⟩ := h
  exact ⟨R, O, env, e, r.unpin, x, n, w⟩
theorem takes_pin {X : Cx} {c : Fc} {g : List (V × D)} {W : Xk} (t : Takes X (wX c W)) : Takes X (wX (c.pin g) W) := t.imp fun _ _ _ _ h => wX_pin h
/-- try: gb / except cn as (i): gs -/
def s_try (L : List Str) (cn : Str) (i : Nat) (gb : Xk → Sx) (gs : Sx) : Sx := fun env E =>
  gb (fun env' e => (∃ n ns ds, e = .exc n ns ds ∧ n ∈ L ∧ excSub n cn = true) ∧ gs (env'.set i (.sh e)) { nx := fun e' => E.nx (e'.set i .no), rt := E.rt, bk := fun e' => E.bk (e'.set i .no), ct := fun e' => E.ct (e'.set i .no), ro := E.ro }) env E
section
variable {X : Cx} {c : Fc} {L : List Str}
theorem p_try {x n : Str} {i : Nat} {body suite : List Stmt} {b₀ : Stmt} {np pos pos' : Pos} {gb : Xk → Sx} {gs : Sx} (hK : X.K = c.K) (hs : X.stack = X.env :: X.outer) (hf : X.env.frame = some X.env.locals) (hex : X.ex = []) (hN : X.N.Nodup) (hi : X.N[i]? = some n) (hln : X.env.kindOf n = some .local)
    (hL : exOK X.K L = true) (hx : x ∈ L) (hg : Gl X x) (hdb : (x == ("__debug__" : Str)) = false) (hm : GlobK X.K X.mg x (.cls x))
    (hb : ∀ (W : Xk) (pn : List (Addr × Obj)) (xe : Value → Shared → Prop), Takes (X.tr pn xe) (wX c W) → PassesOwn (model X.prog X.w) X.A X.env xe → PSs (X.tr pn xe) body (lS c (gb W)))
    (hsu : ∀ (a : Addr) (pn : List (Addr × Obj)), PSs (X.suite a pn) (b₀ :: suite) (lS c gs)) :
    PS X (.Try body [.ExceptHandler (some (.Name x np)) (some n) (b₀ :: suite) pos'] [] [] pos) (lS c (s_try L x i gb gs)) := by
  have hmg : X.mg x = some (exAt X.K x) := by
    obtain ⟨v, u, h1, h2, h3⟩ := hm
    have h4 := h3 (fun _ => none)
    cases h4
    cases h2
    exact h1
  refine PSw (ps_try_asT (tb := fun W => fun D σ H => ∃ Xc : Xk, (∀ cls d σ H, wX c Xc cls d σ H → W cls d σ H) ∧ lS c (gb Xc) D σ H) (ts := lS c gs) (c := exAt X.K x) (Wout := fun _ _ _ _ => False) (i := i) hs hf hex hN hi hln ⟨hg, hdb, .inl hmg⟩ takes0 (fun W pn xe tk po => ⟨fun pins s σ H D I ⟨Xc, h1, h2⟩ => ?_⟩) hsu) fun D σ H h => ?_
  · exact (hb Xc pn xe (tk.imp fun _ _ _ _ z => h1 _ _ _ _ z) po).run pins s σ H D I h2
  · obtain ⟨R, O, env, E, r, t, o⟩ := h
    refine ⟨_, fun cls d σ H hw => ?_, R, O, env, E, r, t, o⟩
    obtain ⟨R1, O1, env1, e, r1, ex, nd, ⟨cn, ns, ds, rfl, hn, hsub⟩, q⟩ := hw
    obtain ⟨_, _, _, e1, rfl, e3⟩ := id ex
    cases e1
    refine ⟨true, by rw [← hK, (exOK_at hL hn hx).1, hsub], fun _ hil a ha => ?_, fun z => by cases z⟩
    have st : Stp c.Φ R1 R1 H (upd H a (ExH (exAt c.K cn) d a)) := Stp.alloc r1.rok ha
    have r2 := r1.step st
    have na : a ∉ O1 ++ (c.A ++ R1) := fun z => by
      obtain ⟨o, e, _⟩ := r1.aok a z
      rw [ha] at e; cases e
    have rp : Rep c.K (cut (upd H a (ExH (exAt c.K cn) d a)) (O1 ++ (c.A ++ R1))) (.ref a) (.exc cn ns ds) := (ex.mono (r1.toHW.cutSame st)).rep (by rw [cut_out na, upd_same])
    refine ⟨R1, O1, _, _, r2.setSh hil rp, q, ?_⟩
    exact ⟨fun e z R' O' σ' H' r' => o.nx _ z R' O' _ _ r'.setNo, o.rt, fun e z R' O' σ' H' r' => o.bk _ z R' O' _ _ r'.setNo, (fun e z R' O' σ' H' r' => o.ct _ z R' O' _ _ r'.setNo), o.ro⟩
end
/-- raise x('..') -/
def s_raise (x : Str) (W : Xk) : Sx := fun env _ => W env (.exc x [] [])
section
variable {X : Cx} {c : Fc} {L : List Str}
theorem glob_cls {K : PySem.W.Frag} {mg : Str → Option Value} {x : Str} (hm : GlobK K mg x (.cls x)) : mg x = some (exAt K x) := by
  obtain ⟨v, u, h1, h2, h3⟩ := hm
  have h4 := h3 (fun _ => none)
  cases h4
  cases h2
  exact h1
theorem globC {K : PySem.W.Frag} {mg : Str → Option Value} {x : Str} (h : mg x = some (.ref (He.ga K x))) : GlobK K mg x (.cls x) := ⟨.ref (He.ga K x), .ref (He.ga K x), h, rfl, fun Z => .cls⟩
theorem HW.h0n {R O : List Addr} {H : Hp} (w : HW c R O H) {x : Addr} (n : H x = none) : c.H0 x = none := by
  cases e : c.H0 x with
  | none => rfl
  | some o =>
    by_cases m : x ∈ c.R0
    · obtain ⟨o', e', _⟩ := w.rok x (w.rsub x m)
      rw [n] at e'; cases e'
    · have := w.keep x o e m
      rw [n] at this; cases this
theorem p_raise {x m : Str} {j : Nat} {p p2 pos pos' : Pos} {W : Xk} (hK : X.K = c.K) (hc : X.calm = true) (tk : Takes X (wX c W)) (hL : exOK X.K L = true) (hx : x ∈ L) (hw : exOwn X.K x = true) (hg : Gl X x) (hm : GlobK X.K X.mg x (.cls x)) (hdb : (x == ("__debug__" : Str)) = false := by decide) :
    PS X (.Raise (some (.Call (.Name x p) [.Constant (.str m) j p2] [] pos)) none pos') (lS c (s_raise x W)) := by
  obtain ⟨_, b1, b2, _, b4⟩ := exOK_in hL hx
  refine PSw (ps_raise hc tk (pmk_own PySem.F.excBase_ValueError hw (glob_cls hm) b4 (raises_own b1 b2) hg hdb)) fun D σ H h => ?_
  obtain ⟨R, O, env, E, r, t, o⟩ := h
  exact ⟨R, O, env, _, r, ⟨x, [], [], rfl, by rw [← hK]; rfl, .inl ⟨rfl, rfl, rfl⟩⟩, (fun _ z => nomatch z), t⟩
end
abbrev CtX := List D → (D → Md → Prop) → (D → Prop) → Prop
def spX (K : PySem.W.Frag) (Φ : HO → Prop) (hΦ : ∀ o, Φ o → Loose o) (n : Nat) (C : CtX) : Sp := fun vs H Q E => vs.length = n ∧ ∃ (R A : List Addr) (ds : List D) (Q' : D → Md → Prop) (W : D → Prop),
  (∀ a ∈ R, ∃ o, H a = some o ∧ Φ o) ∧ (∀ a ∈ A ++ R, ∃ o, H a = some o ∧ Loose o) ∧ RepL K (cut H (A ++ R)) vs ds ∧ C ds Q' W ∧
  (∀ d md, Q' d md → ∀ v H' R', Stp Φ R R' H H' → RM (ctx K Φ hΦ H R A noX) H R' [] H' v d md → Q v H') ∧
  ∀ e, W e → ∀ cls dd H' R', Stp Φ R R' H H' → ExR K (cut H' (A ++ R')) cls dd e → (∀ x, dd = some x → H x = none) → E cls dd H'
def e_callX (n : Nat) (C : CtX) (W : Xk) (ta : Ax) : Ex := fun env Q => ta env fun ps => ps.length = n ∧ C (ps.map (·.1)) (fun d md => (brs ps = true → flatR d md = true) ∧ Q d md) fun e => (brs ps = true → exFlat e = true) ∧ W env e
section
variable {X : Cx} {c : Fc}
theorem callX_l {n : Nat} {C : CtX} {W : Xk} {ta : Ax} {σ : L2.St} {H : Hp} {Q : VK} (h : lE c (e_callX n C W ta) σ H Q) : tCallS (spX c.K c.Φ c.hΦ n C) (WE (wX c W)) (lA c ta) σ H Q := by
  obtain ⟨R, O, env, Q', r, t, k⟩ := h
  refine ⟨R, O, env, _, r, t, fun ps ⟨hl, q⟩ vs H1 R1 s1 m => ?_⟩
  have r1 := r.step s1
  have w1 := r1.toHW
  refine ⟨m.length.trans hl, R1, ?_⟩
  by_cases b : brs ps = true
  · refine ⟨[], ps.map (·.1), _, _, s1.rok, fun a z => ?_, m.read w1, q, fun d md ⟨f, z⟩ v H' R' s m' => ?_, fun e ⟨f, z⟩ cls dd H' R' s x n => ?_⟩
    · obtain ⟨o, e, f⟩ := s1.rok a (by simpa using z)
      exact ⟨o, e, c.hΦ _ f⟩
    · have m2 : RM c H1 R' O H' v d md := RM.flat (c0 := ctx c.K c.Φ c.hΦ H1 R1 [] noX) rfl (w1.step s) m' (fun a ha => by
        by_cases mm : a ∈ R'
        · exact .inr mm
        · refine .inl fun z => ?_
          rcases List.mem_append.mp z with z | z
          · obtain ⟨u, e, _⟩ := w1.aok a (List.mem_append_left _ z); rw [ha] at e; cases e
          · rcases List.mem_append.mp z with z | z
            · obtain ⟨u, e, _⟩ := w1.aok a (List.mem_append_right _ (List.mem_append_left _ z)); rw [ha] at e; cases e
            · exact mm z) (f b)
      exact k d md z v H' R' (s1.trans s) (m2.ahead fun a z => Stp.nn r.rok s1 z)
    · refine ⟨R', O, env, e, r1.step s, ?_, fun y hy => w1.h0n (n y hy), z⟩
      have f := f b
      obtain ⟨cn, ns, ds, rfl, rfl, h3⟩ := x
      refine ⟨cn, ns, ds, rfl, rfl, ?_⟩
      rcases h3 with h3 | ⟨d, fs, rfl, h4, h5, h6, h7⟩
      · exact .inl h3
      · obtain ⟨nd, h4⟩ := cut_some h4
        refine .inr ⟨d, fs, rfl, ?_, h5, h6, RepL.imm (w1.step s).tupK f h7⟩
        rw [cut_out]
        · exact h4
        · intro z
          have hn := n d rfl
          rcases List.mem_append.mp z with z | z
          · obtain ⟨u, e, _⟩ := w1.aok d (List.mem_append_left _ z); rw [hn] at e; cases e
          · rcases List.mem_append.mp z with z | z
            · obtain ⟨u, e, _⟩ := w1.aok d (List.mem_append_right _ (List.mem_append_left _ z)); rw [hn] at e; cases e
            · exact nd (by simpa using z)
  · have b' : brs ps = false := by cases h : brs ps <;> first | rfl | exact absurd h b
    have e2 : ∀ R', (O ++ c.A) ++ R' = O ++ (c.A ++ R') := fun R' => List.append_assoc _ _ _
    refine ⟨O ++ c.A, ps.map (·.1), _, _, s1.rok, fun a z => w1.aok a (by rw [← e2]; exact z), by rw [e2]; exact m.stab b', q, fun d md ⟨f, z⟩ v H' R' s m' => ?_, fun e ⟨f, z⟩ cls dd H' R' s x n => ?_⟩
    · have m2 : RM c H1 R' O H' v d md := by
        cases md with
        | st =>
          have h' : Rep c.K (cut H' ([] ++ ((O ++ c.A) ++ R'))) v d := m'
          rw [List.nil_append, e2] at h'
          exact h'
        | br => obtain ⟨a, _, mm, _⟩ := m'; cases mm
        | ow =>
          obtain ⟨a, e, ha, _, nA, nR, o⟩ := m'
          have nA' : a ∉ O ++ c.A := nA
          simp only [List.mem_append, not_or] at nA'
          have o' : Own c.K H' (cut H' (a :: ([] ++ ((O ++ c.A) ++ R')))) a d := o
          rw [List.nil_append, e2] at o'
          exact ⟨a, e, ha, nA'.1, nA'.2, nR, o'⟩
      exact k d md z v H' R' (s1.trans s) (m2.ahead fun a z => Stp.nn r.rok s1 z)
    · rw [e2] at x
      exact ⟨R', O, env, e, r1.step s, x, fun y hy => w1.h0n (n y hy), z⟩
theorem p_callX {n : Nat} {C : CtX} {k : Nat} {f : Addr} {fd : FuncData} {ps : List Str} {x : Str} {p pos : Pos} {e : Expr} {es : List Expr} {ta : Ax} {W : Xk} (hK : X.K = c.K) (tk : Takes X (wX c W)) (F : FnOk X.prog X.w X.K X.mg X.base (L2.CX X.prog X.w) k f fd ps (spX X.K c.Φ c.hΦ n C)) (hr : Room k X.A) (hg : Gl X x) (hm : X.mg x = some (.ref f)) (hk : PySem.W.keepIn X.K (.ref f) = true) (hb : Binds X.K fd ps [])
    (ha : PA X (e :: es) (lA c ta)) (hdb : (x == ("__debug__" : Str)) = false := by decide) (he : starEach (e :: es) X.env = (false, eval e X.env) :: starEach es X.env := by rfl) (hpl : (backTo pos (starEach es X.env)).any (·.1) = false := by rfl) : PE X (.Call (.Name x p) (e :: es) [] pos) (lE c (e_callX n C W ta)) :=
  PEw (pe_callS F hr hg hm hk hb (fun σ => passAt tk σ) ha hdb he hpl) fun σ H Q h => by rw [hK]; exact callX_l h
end
section
variable {P' : Program} {w : World} {K : PySem.W.Frag} {mg : Str → Option Value} {base : Heap} {Φ : HO → Prop} {hΦ : ∀ o, Φ o → Loose o}
theorem fnX {x qual : Str} {params : Arguments} {body : List Stmt} {scope : Scope} {dvs : List V} {kws : List (Str × V)} {f : Addr} {fd : FuncData} {N ps : List Str} {k : Nat} {C : CtX} (F : FunD K x qual params body scope dvs kws f fd) (S : FnScope N ps scope)
    (hbody : ∀ (cdv : Value) (A : Around) (outer : List Env) (s : Shared) (H : Hp) (R Ao : List Addr) (E : XK), Room k (A.deeper (envOfC qual scope s.heap.objs.size f cdv)) →
      ∃ g : Xk → Sx, (∀ W : Xk, Takes (cxOf (L2.CX P' w) P' w K mg base N qual scope f cdv A outer s H E) (wX (ctx K Φ hΦ H R Ao noX) W) → PSs (cxOf (L2.CX P' w) P' w K mg base N qual scope f cdv A outer s H E) body (lS (ctx K Φ hΦ H R Ao noX) (g W))) ∧ ∀ ds Q W, C ds Q W → g (fun _ e => W e) (startE N ds) (osOf Q)) :
    FnOk P' w K mg base (L2.CX P' w) (k + 1) f fd ps (spX K Φ hΦ ps.length C) := by
  refine F.ok S (fun vs H Q E h => h.1) fun cdv A outer s H vs Q E hr h => ?_
  obtain ⟨hl, R, Ao, ds, Q', W, h1, h2, h3, hc, k, kx⟩ := h
  obtain ⟨g, hg, hq⟩ := hbody cdv A outer s H R Ao E hr
  refine ⟨_, hg (fun _ e => W e) ((takes_of rfl rfl rfl rfl).imp fun cls d σ H' z => ?_), body_l h1 h2 h3 k (hq ds Q' W hc) rfl⟩
  obtain ⟨R', O, env, e, r, ex, n, w⟩ := z
  exact kx e w cls d H' R' r.toHW.stp (ex.mono (cut_sub fun b m => List.mem_append_right _ m)) n
end
def isxQ (L : List Str) : Cq := fun ps Q => match ps with
  | [(.exc cn [] [], _), (.cls m, _)] => cn ∈ L ∧ m ∈ L ∧ Q (.sc (.bl (excSub cn m))) .st
  | [(.exc cn [] [], _), (.sc (.ty t), _)] => cn ∈ L ∧ t = "ValueError" ∧ Q (.sc (.bl true)) .st
  | _ => False
def rIsX (K : PySem.W.Frag) : List V → Hp → VK → Prop := fun xs H Q => ∃ (a D : Addr) (c : V) (cv : Value) (b : Bool), xs = [.ref a, c] ∧ H a = some (ExH (.ref D) none a) ∧ ExcC K D ∧ (∀ u, RelV c u → u = cv) ∧ PySem.W.kitOne K (.ref D) cv = some b ∧ Q (.bl b) H
section
variable {X : Cx} {c : Fc} {L : List Str}
theorem call_isX : CallR X (.builtin "isinstance") (rIsX X.K) := by
  intro pins s σ H xs us Q I r h
  obtain ⟨a, D, c, cv, b, rfl, ha, C, hcv, e, q⟩ := h
  cases r with
  | cons rx rr =>
    cases rr with
    | cons rt rr =>
      cases rr
      cases rx
      have ec := hcv _ rt
      subst ec
      obtain ⟨⟨oe, vs, hget, hz, hv⟩, _⟩ := I.hok a _ ha
      have J : PySem.W.InstAt s.heap a oe D none := by
        obtain ⟨oc, od, oda, osl⟩ := oe
        obtain ⟨h1, h2⟩ := hz
        dsimp only at h1 h2 hv
        subst h1 h2 hv
        exact ⟨hget, rfl, rfl, trivial⟩
      exact PySem.W.kia_one (PySem.W.handS_kitx_exc C.hg C.hk C.hs C.hd C.ha C.hn C.ht C.hm) I.kIn J e (fun z => nomatch z) fun tk => ⟨.bl b, H, I.kept (t' := tk) fun _ _ z => z, rfl, q⟩
theorem Rb.exc0 {R O : List Addr} {H : Hp} {x : V} {cn : Str} (h : Rb c R O H x (.exc cn [] [])) : ∃ a, x = .ref a ∧ H a = some (ExH (exAt c.K cn) none a) := by
  cases h with
  | st h =>
    cases h with
    | exc0 h => exact ⟨_, rfl, (cut_some h).2⟩
    | exc h1 h2 h3 h4 h5 => exact absurd rfl h3
  | ow o n => cases o
theorem Rb.cls {R O : List Addr} {H : Hp} {x : V} {m : Str} (h : Rb c R O H x (.cls m)) : x = .ref (He.ga c.K m) := by
  cases h with
  | st h => cases h; rfl
  | ow o n => cases o
end
section
variable {L : List Str} {cn m : Str} {ns : List Str} {ds : List D} {md md' : Md} {Q : D → Md → Prop} {env : En} {E : Os} {W : Xk}
theorem isxQ_c : isxQ L [(.exc cn [] [], md), (.cls m, md')] Q = (cn ∈ L ∧ m ∈ L ∧ Q (.sc (.bl (excSub cn m))) .st) := rfl
theorem isxQ_v : isxQ L [(.exc cn [] [], md), (.sc (.ty "ValueError"), md')] Q = (cn ∈ L ∧ Q (.sc (.bl true)) .st) := by
  show (cn ∈ L ∧ "ValueError" = "ValueError" ∧ _) = _
  simp only [true_and]
theorem try_c : (∃ n ns' ds', D.exc cn ns ds = .exc n ns' ds' ∧ n ∈ L ∧ excSub n m = true) = (cn ∈ L ∧ excSub cn m = true) := by
  refine propext ⟨fun ⟨n, a, b, e, h⟩ => ?_, fun h => ⟨_, _, _, rfl, h⟩⟩
  cases e
  exact h
theorem exFlat_0 : exFlat (.exc cn ns []) = true := rfl
theorem isNon_exc : isNon (.exc cn ns ds) = false := rfl
end
end P
namespace P
open PySem PySem.Spec PyProof.Rows L2
def lettersB (x : Str) : Bool := x.cps.toList.all fun n => subS ⟨#[n]⟩ "abcdefghijklmnopqrstuvwxyz"
def keptL : List D := [.sc (.str "and"), .sc (.str "or"), .sc (.str "not"), .sc (.str "if"), .sc (.str "is"), .sc (.str "some"), .sc (.str "all"), .sc (.str "for"), .sc (.str "against")]
def keptB (x : Str) : Bool := keptL.any fun z => eqD z (.sc (.str x))
def nameB (x : Str) : Bool := decide (1 ≤ x.length ∧ x.length ≤ 12) && (!keptB x && lettersB x)
theorem kept_eq : ([.sc (.str "and"), .sc (.str "or"), .sc (.str "not"), .sc (.str "if"), .sc (.str "is"), .sc (.str "some"), .sc (.str "all"), .sc (.str "for"), .sc (.str "against")] : List D) = keptL := rfl
theorem keptB_eq {x : Str} : keptB x = (decide (Str.ofString "and" = x) || (decide (Str.ofString "or" = x) || (decide (Str.ofString "not" = x) || (decide (Str.ofString "if" = x) || (decide (Str.ofString "is" = x) || (decide (Str.ofString "some" = x) || (decide (Str.ofString "all" = x) || (decide (Str.ofString "for" = x) || decide (Str.ofString "against" = x))))))))) := by
  unfold keptB keptL
  simp only [List.any_cons, List.any_nil, eqD_s, Bool.or_false]
theorem str_toList (a b : Str) : (a ++ b).cps.toList = a.cps.toList ++ b.cps.toList := by
  show (a.cps ++ b.cps).toList = _
  simp
theorem letters_app (a b : Str) : lettersB (a ++ b) = (lettersB a && lettersB b) := by
  unfold lettersB
  rw [str_toList, List.all_append]
def letL : List Nat := (Str.ofString "abcdefghijklmnopqrstuvwxyz").cps.toList
def conL : List Nat := (Str.ofString "bcdefghjklmnpqrstuvwxyz").cps.toList
theorem letL_ok : letL.all (fun n => subS ⟨#[n]⟩ "abcdefghijklmnopqrstuvwxyz") = true := by decide +kernel
theorem letter_ok {n : Nat} (h : n ∈ letL) : lettersB ⟨#[n]⟩ = true := by
  have := List.all_eq_true.mp letL_ok n h
  unfold lettersB
  simpa using this
/-- only signs of the 23 -/
def consB (x : Str) : Bool := x.cps.toList.all fun n => decide (n ∈ conL)
theorem cons_app (a b : Str) : consB (a ++ b) = (consB a && consB b) := by
  unfold consB
  rw [str_toList, List.all_append]
theorem con_let : conL.all (fun n => decide (n ∈ letL)) = true := by decide +kernel
theorem cons_letters {x : Str} (h : consB x = true) : lettersB x = true := by
  unfold consB at h
  unfold lettersB
  rw [List.all_eq_true] at h ⊢
  intro n m
  have h1 := of_decide_eq_true (h n m)
  have h2 := of_decide_eq_true (List.all_eq_true.mp con_let n h1)
  exact List.all_eq_true.mp letL_ok n h2
theorem cons_kept {x : Str} (h : consB x = true) : keptB x = false := by
  rw [keptB_eq]
  have e : ∀ z : Str, consB z = false → decide (z = x) = false := fun z hz => decide_eq_false (by rintro rfl; rw [h] at hz; cases hz)
  rw [e _ (by decide +kernel), e _ (by decide +kernel), e _ (by decide +kernel), e _ (by decide +kernel), e _ (by decide +kernel), e _ (by decide +kernel), e _ (by decide +kernel), e _ (by decide +kernel), e _ (by decide +kernel)]
  rfl
theorem cut_mem {a : Str} {lo hi : Option Int} : ∀ n ∈ (cutS a lo hi).cps.toList, n ∈ a.cps.toList := fun n m => by
  unfold cutS at m
  exact List.mem_of_mem_drop (List.mem_of_mem_take (by simpa using m))
theorem cut_upto (a : Str) (k : Nat) : (cutS a none (some (k : Int))).length = min k a.length := by
  show ((a.cps.toList.drop 0).take (HT.sIx a.length a.length (some (k : Int)) - 0)).toArray.size = _
  rw [HT.sIx_nat, List.drop_zero, Nat.sub_zero, List.size_toArray, List.length_take, str_len]
  omega
theorem letters_cut {a : Str} {lo hi : Option Int} (h : lettersB a = true) : lettersB (cutS a lo hi) = true := by
  unfold lettersB at *
  rw [List.all_eq_true] at h ⊢
  exact fun n m => h n (cut_mem n m)
theorem cons_cut {a : Str} {lo hi : Option Int} (h : consB a = true) : consB (cutS a lo hi) = true := by
  unfold consB at *
  rw [List.all_eq_true] at h ⊢
  exact fun n m => h n (cut_mem n m)
theorem con_ok {n : Nat} (h : n ∈ conL) : consB ⟨#[n]⟩ = true := by
  unfold consB
  simpa using h
theorem nameB_len {x : Str} (h : nameB x = true) : 1 ≤ x.length ∧ x.length ≤ 12 := by
  unfold nameB at h
  rw [Bool.and_eq_true] at h
  exact of_decide_eq_true h.1
theorem nameB_mk {x : Str} (h : 1 ≤ x.length ∧ x.length ≤ 12) (k : keptB x = false) (l : lettersB x = true) : nameB x = true := by
  unfold nameB
  rw [decide_eq_true h, k, l]
  rfl
/-- texts as a list -/
def strsD (xs : List Str) : D := .lst (xs.map fun x => .sc (.str x))
theorem atI_str {xs : List Nat} {i : Int} {R : Nat → Prop} (h0 : 0 ≤ i) (h : i < xs.length) (k : ∀ n, n ∈ xs → R n) : ∃ n, atI xs i = some n ∧ R n := by
  obtain ⟨d, e, m⟩ := atI_some h0 h
  exact ⟨d, e, k d m⟩
theorem comp_loop' {tx : Gx} {tt : Tx} {te : Ex} {env : En} {Q : D → Md → Prop} (all : List D) (I : Nat → List D → Prop) (hlen : ∀ j acc, I j acc → acc.length ≤ j) (hz : all.length ≤ 16777216) (h0 : ∀ acc, I all.length acc → Q (.lst acc) .ow)
    (hs : ∀ j d, all[j]? = some d → ∀ acc, I j acc → ∀ N : List D → Prop, (∀ acc', I (j + 1) acc' → N acc') → tx d env fun e => tt e fun b => if b = true then te e fun y md => isBr md = false ∧ acc.length < sizeLine ∧ N (acc ++ [y]) else N acc) :
    ∀ (k j : Nat) (acc : List D), all.length = j + k → I j acc → compF tx tt te env (all.drop j) acc Q
  | 0, j, acc, e, h => by
    rw [List.drop_of_length_le (by omega)]
    have e2 : j = all.length := by omega
    subst e2
    exact h0 acc h
  | k + 1, j, acc, e, h => by
    have hl : j < all.length := by omega
    rw [List.drop_eq_getElem_cons hl]
    exact hs j _ (List.getElem?_eq_getElem hl) acc h (fun acc' => compF tx tt te env (all.drop (j + 1)) acc' Q) fun acc' i => comp_loop' all I hlen hz h0 hs k (j + 1) acc' (by omega) i
theorem comp_loop {tx : Gx} {tt : Tx} {te : Ex} {env : En} {Q : D → Md → Prop} {all : List D} (I : Nat → List D → Prop) (hi : I 0 []) (hlen : ∀ j acc, I j acc → acc.length ≤ j) (hz : all.length ≤ 16777216) (h0 : ∀ acc, I all.length acc → Q (.lst acc) .ow)
    (hs : ∀ j d, all[j]? = some d → ∀ acc, I j acc → ∀ N : List D → Prop, (∀ acc', I (j + 1) acc' → N acc') → tx d env fun e => tt e fun b => if b = true then te e fun y md => isBr md = false ∧ acc.length < sizeLine ∧ N (acc ++ [y]) else N acc) :
    compF tx tt te env all [] Q := comp_loop' all I hlen hz h0 hs all.length 0 [] (by omega) hi
/-- no test; each part by a relation -/
theorem comp_all {tx : Gx} {te : Ex} {env : En} {Q : D → Md → Prop} {all : List D} (P : D → D → Prop) (hz : all.length ≤ 16777216) (h0 : ∀ ys : List D, ys.length = all.length → (∀ (j : Nat) (d y : D), all[j]? = some d → ys[j]? = some y → P d y) → Q (.lst ys) .ow)
    (hs : ∀ d ∈ all, ∀ N : D → Md → Prop, (∀ y md, isBr md = false → P d y → N y md) → tx d env fun e => te e N) : compF tx t_yes te env all [] Q := by
  refine comp_loop (fun j acc => acc.length = j ∧ ∀ (i : Nat) (d y : D), all[i]? = some d → acc[i]? = some y → P d y) ⟨rfl, fun i d y _ z => by simp at z⟩ (fun j acc h => by omega) hz (fun acc h => h0 acc h.1 h.2) fun j d hd acc ⟨h1, h2⟩ N hN => ?_
  have hj : j < all.length := (List.getElem?_eq_some_iff.mp hd).1
  show tx d env fun e => if true = true then te e _ else N acc
  simp only [if_true]
  refine hs d (List.mem_of_getElem? hd) _ fun y md nb p => ⟨nb, by rw [sizeL]; omega, hN _ ⟨by simp [h1], fun i d' y' e1 e2 => ?_⟩⟩
  rcases Nat.lt_trichotomy i j with z | z | z
  · rw [List.getElem?_append_left (by omega)] at e2
    exact h2 i d' y' e1 e2
  · subst z
    rw [List.getElem?_append_right (by omega), h1] at e2
    simp at e2
    rw [hd] at e1
    cases e1
    rw [← e2]
    exact p
  · rw [List.getElem?_append_right (by omega)] at e2
    rw [List.getElem?_eq_none (by simp; omega)] at e2
    cases e2
/-- a test, a function -/
theorem comp_fm {tx : Gx} {tt : Tx} {te : Ex} {env : En} {Q : D → Md → Prop} {all : List D} (p : D → Bool) (f : D → D) (hz : all.length ≤ 16777216) (h0 : Q (.lst ((all.filter p).map f)) .ow)
    (hs : ∀ d ∈ all, ∀ (K : D → Md → Prop) (N : Prop), (p d = true → ∀ md, isBr md = false → K (f d) md) → (p d = false → N) → tx d env fun e => tt e fun b => if b = true then te e K else N) : compF tx tt te env all [] Q := by
  refine comp_loop (fun j acc => acc = ((all.take j).filter p).map f) (by simp) (fun j acc h => ?_) hz (fun acc h => ?_) fun j d hd acc h N hN => ?_
  · rw [h, List.length_map]
    refine Nat.le_trans (List.length_filter_le _ _) ?_
    rw [List.length_take]; omega
  · rw [List.take_length] at h
    rw [h]; exact h0
  · have hj : j < all.length := (List.getElem?_eq_some_iff.mp hd).1
    have ej : all[j] = d := Option.some.inj ((List.getElem?_eq_getElem hj).symm.trans hd)
    have et : all.take (j + 1) = all.take j ++ [d] := by rw [List.take_succ_eq_append_getElem hj, ej]
    refine hs d (List.mem_of_getElem? hd) _ _ (fun hp md nb => ⟨nb, ?_, hN _ ?_⟩) (fun hp => hN _ ?_)
    · rw [sizeL, h, List.length_map]
      refine Nat.lt_of_le_of_lt (List.length_filter_le _ _) ?_
      rw [List.length_take]; omega
    · rw [et, List.filter_append, List.map_append, h]
      simp [hp]
    · rw [et, List.filter_append, List.map_append, h]
      simp [hp]
def g__law_good_name : Sx := s_seq (s_if (t_op (inQ false) (e_var 0) (e_lst (a_cons (e_c (.str "and")) (a_cons (e_c (.str "or")) (a_cons (e_c (.str "not")) (a_cons (e_c (.str "if")) (a_cons (e_c (.str "is")) (a_cons (e_c (.str "some")) (a_cons (e_c (.str "all")) (a_cons (e_c (.str "for")) (a_cons (e_c (.str "against")) (a_nil)))))))))))) (s_ret (e_op addQ (e_var 0) (e_c (.str "x")))) (s_nil)) (s_retv 0)
def C__law_good_name : Ct := fun ds Q => match ds with
  | [.sc (.str x)] => 1 ≤ x.length ∧ x.length ≤ 12 ∧ lettersB x = true ∧ ∀ y : Str, nameB y = true → Q (.sc (.str y)) .st
  | _ => False
theorem kept_short {x : Str} (h : keptB x = true) : x.length ≤ 7 := by
  rw [keptB_eq] at h
  simp only [Bool.or_eq_true, decide_eq_true_eq] at h
  rcases h with h | h | h | h | h | h | h | h | h <;> (rw [← h]; decide +kernel)
theorem keptx {x : Str} (h : keptB x = true) : keptB (x ++ Str.ofString "x") = false := by
  rw [keptB_eq] at h
  simp only [Bool.or_eq_true, decide_eq_true_eq] at h
  rcases h with h | h | h | h | h | h | h | h | h <;> (rw [← h]; decide +kernel)
theorem pure__law_good_name (ds : List D) (Q : D → Md → Prop) (h : C__law_good_name ds Q) : g__law_good_name (startE ["word"] ds) (osOf Q) := by
  unfold C__law_good_name at h
  split at h
  case h_2 => exact h.elim
  rename_i x
  obtain ⟨h1, h2, h3, q⟩ := h
  unfold g__law_good_name
  simp only [s_seq, s_nil, s_if, s_ret, s_retN, s_set, s_for, s_while, i_seq, i_ps, e_c, e_k, e_op, e_cb, e_call, e_and, e_or, e_not, e_chain, e_neg, e_tup, e_lst, e_sl, e_rev, e_dnew, e_dnewT, e_get2, o_none, o_some, t_of, t_op, t_and, t_or, t_not, t_chain, t_yes, a_nil, a_cons, brs, tyOks, isTy, subQ, fdivQ, modQ, powQ, eqQ, neQ, sizeL, enumAQ_l, enumAQ_t, str_one, str_app, startE, wipeE, e_lc, e_step, e_sm1, e_sm0, osOf, En.frz, P.frz, g_name, s_expr, s_asg, s_pass, s_break, s_cont, List.getElem?_cons_zero, List.getElem?_cons_succ, List.getElem?_nil, List.set_cons_zero, List.set_cons_succ, List.map_cons, List.map_nil, List.replicate_zero, List.replicate_succ, List.cons_append, List.nil_append, List.append_nil, List.length_cons, List.length_nil, List.any_cons, List.any_nil, Bool.not_true, Bool.not_false, Bool.false_or, Bool.or_false, Bool.true_or, Bool.or_true, Bool.and_true, Bool.true_and, Bool.false_and, Bool.and_false, if_true, if_false, ite_true, ite_false, Bool.false_eq_true, reduceIte, Nat.reduceAdd, Nat.reduceSub, Nat.zero_add, Nat.add_zero, true_and, and_true, Option.some.injEq, D.sc.injEq, V.bl.injEq, V.int.injEq, V.str.injEq, exists_eq_left', exists_eq_left, Bool.or_self, forall_const, imp_self, decide_eq_true_eq, Bool.not_eq_true', decide_eq_false_iff_not, Bool.not_eq_false, Decidable.not_not, implies_true, not_true_eq_false, not_false_eq_true, reduceCtorEq, false_imp, ne_eq, String.reduceBEq, Int.reducePow, Int.reduceToNat, Int.reduceLT, Int.reduceLE, Nat.reduceLeDiff, Nat.reduceLT, Nat.reduceMul, Int.reduceMul, Int.reduceAdd, Int.reduceSub, Int.reduceNeg, Nat.reducePow, or_true, true_or, List.length_map, List.isEmpty_cons, List.isEmpty_nil, addQ_i, addQ_s, addQ_l, addQ_t, iQ_i, mulQ_i, cmpQ_i, cmpQ_s, isQ_n, isQ_b, isNon_b, isNon_i, isNon_s, isNon_l, isNon_t, isNon_n, isNon_d, inQ_l, inQ_t, inQ_k, inQ_s, inQ_d, inQ_dt, ixQ_l, ixQ_t, ixQ_k, ixQ_s, ixQ_d, ixQ_dt, getQ_d, getQ_dt, key_i, key_s, slQ_l, slQ_t, slQ_s, optQ_i, revQ_l, negQ_i, truth_b, truth_i, truth_n, truth_s, truth_l, truth_t, blQ_b, bindS_st, bindS_ow, isBr_st, isBr_ow, isBr_br, itemsQ_l, itemsQ_t, itemsQ_s, g_tup_t, g_cons_c, g_nil_n, lenQ_l, lenQ_t, lenQ_s, lenQ_d, isiQ_t, ty_i, ty_s, ty_b, ty_n, ty_l, ty_t, ty_d, intQ_i, intQ_b, absQ_i, mmQ_i, listQ_l, listQ_t, listQ_k, tupleQ_l, tupleQ_t, sumQ_l, allQ_l, r1Q_i, r2Q_i, bne_false_S, bne_true_S, eqD_i, eqD_s, eqD_b, eqD_nn, eqD_ni, eqD_in, eqD_is, eqD_si, eqD_ln, eqD_nl, eqD_ll, eqD_l0, eqD_lc, eqD_cl, eqD_tt, eqD_t0, eqD_tc, eqD_ct, plain_i, plain_s, plain_b, plain_n, plain_l, plain_t, plainL_c, plainL_n, dep_sc, dep_l, dep_t, depL_c, depL_n, flatR_sc, slotAt_0, slotAt_s, e_var_eq, varQ_sh, varQ_ow, s_retv_eq, retQ_sh, retQ_ow, s_frz_eq, frzQ_sh, frzQ_ow, s_meth_eq, methQ_l, s_methset_eq, methsQ_l, s_setix_eq, setixQ_ow, e_lkd_eq, lkdQ_d, lkdQ_t, lkdQ_od, lkdQ_ot, s_lkd_eq, lkS_d, lkS_t, i_items_eq, itmS_d, i_keys_eq, keyS_d, keyS_t, i_vals_eq, valS_d, stepQ_l, isLst_l, strD_s, joinQ_l, strQ_i, strQ_s, dictQ_l, sortedLQ_l, setQ_l, setQ_d, setQ_t, appendQ_1, List.length_set, Nat.max_self, Nat.reduceLeDiff]
  rw [← keptB_eq]
  refine if_b ⟨fun hk => ?_, fun hk => q x (nameB_mk ⟨h1, h2⟩ hk h3)⟩
  have := kept_short hk
  refine ⟨by show x.length + 1 ≤ _; omega, q _ (nameB_mk ⟨?_, ?_⟩ (keptx hk) ?_)⟩
  · rw [str_app]; omega
  · rw [str_app]; show x.length + 1 ≤ 12; omega
  · rw [letters_app, h3]; decide +kernel
theorem strs_ext {ys : List D} {P : Str → Prop} (h : ∀ (j : Nat) (y : D), ys[j]? = some y → ∃ x, y = .sc (.str x) ∧ P x) : ∃ xs : List Str, ys = (xs.map fun x => .sc (.str x)) ∧ ∀ x ∈ xs, P x := by
  induction ys with
  | nil => exact ⟨[], rfl, fun _ z => nomatch z⟩
  | cons y ys ih =>
    obtain ⟨x, e, p⟩ := h 0 y rfl
    obtain ⟨xs, e2, p2⟩ := ih fun j z e => h (j + 1) z (by simpa using e)
    refine ⟨x :: xs, by rw [e, e2]; rfl, fun z m => ?_⟩
    rcases List.mem_cons.mp m with rfl | m
    · exact p
    · exact p2 z m
def C__law_free_names : Ct := fun ds Q => match ds with
  | [.sc (.int _)] => ∀ xs : List Str, xs.length = 8 → (∀ x ∈ xs, nameB x = true) → Q (strsD xs) .ow
  | _ => False
def g__law_free_names : Sx := s_seq (s_set 1 (e_c (.str "abcdefghijklmnopqrstuvwxyz"))) (s_seq (s_set 2 (e_lst (a_nil))) (s_seq (s_for (i_ps r1Q (a_cons (e_c (.int 4)) (a_nil))) (g_name 3) (s_seq (s_set 4 (e_op addQ (e_c (.int 1)) (e_op modQ (e_var 0) (e_c (.int 12))))) (s_seq (s_set 0 (e_op fdivQ (e_var 0) (e_c (.int 12)))) (s_seq (s_set 5 (e_c (.str ""))) (s_seq (s_for (i_ps r1Q (a_cons (e_var 4) (a_nil))) (g_name 6) (s_seq (s_set 5 (e_op addQ (e_var 5) (e_op ixQ (e_var 1) (e_op modQ (e_var 0) (e_c (.int 26)))))) (s_set 0 (e_op fdivQ (e_var 0) (e_c (.int 26)))))) (s_meth 2 appendQ (a_cons (e_var 5) (a_nil)))))))) (s_seq (s_set 2 (e_op addQ (e_var 2) (e_lc (i_seq (e_var 2)) (g_name 7) (t_yes) (e_sl (e_op addQ (e_var 7) (e_op ixQ (e_var 1) (e_op modQ (e_var 0) (e_c (.int 26))))) (o_none) (o_some (e_c (.int 12)))) [7]))) (s_ret (e_lc (i_seq (e_var 2)) (g_name 7) (t_yes) (e_call 1 C__law_good_name (a_cons (e_var 7) (a_nil))) [7])))))
theorem pure__law_free_names (ds : List D) (Q : D → Md → Prop) (h : C__law_free_names ds Q) : g__law_free_names (startE ["cell", "letters", "names", "k", "many", "word", "j", "name"] ds) (osOf Q) := by
  unfold C__law_free_names at h
  split at h
  case h_2 => exact h.elim
  rename_i n
  have q := h
  unfold g__law_free_names
  have hs := sizeL
  simp only [s_seq, s_nil, s_if, s_ret, s_retN, s_set, s_for, s_while, i_seq, i_ps, e_c, e_k, e_op, e_cb, e_call, e_and, e_or, e_not, e_chain, e_neg, e_tup, e_lst, e_sl, e_rev, e_dnew, e_dnewT, e_get2, o_none, o_some, t_of, t_op, t_and, t_or, t_not, t_chain, t_yes, a_nil, a_cons, brs, tyOks, isTy, subQ, fdivQ, modQ, powQ, eqQ, neQ, sizeL, enumAQ_l, enumAQ_t, str_one, str_app, startE, wipeE, e_lc, e_step, e_sm1, e_sm0, osOf, En.frz, P.frz, g_name, s_expr, s_asg, s_pass, s_break, s_cont, List.getElem?_cons_zero, List.getElem?_cons_succ, List.getElem?_nil, List.set_cons_zero, List.set_cons_succ, List.map_cons, List.map_nil, List.replicate_zero, List.replicate_succ, List.cons_append, List.nil_append, List.append_nil, List.length_cons, List.length_nil, List.any_cons, List.any_nil, Bool.not_true, Bool.not_false, Bool.false_or, Bool.or_false, Bool.true_or, Bool.or_true, Bool.and_true, Bool.true_and, Bool.false_and, Bool.and_false, if_true, if_false, ite_true, ite_false, Bool.false_eq_true, reduceIte, Nat.reduceAdd, Nat.reduceSub, Nat.zero_add, Nat.add_zero, true_and, and_true, Option.some.injEq, D.sc.injEq, V.bl.injEq, V.int.injEq, V.str.injEq, exists_eq_left', exists_eq_left, Bool.or_self, forall_const, imp_self, decide_eq_true_eq, Bool.not_eq_true', decide_eq_false_iff_not, Bool.not_eq_false, Decidable.not_not, implies_true, not_true_eq_false, not_false_eq_true, reduceCtorEq, false_imp, ne_eq, String.reduceBEq, Int.reducePow, Int.reduceToNat, Int.reduceLT, Int.reduceLE, Nat.reduceLeDiff, Nat.reduceLT, Nat.reduceMul, Int.reduceMul, Int.reduceAdd, Int.reduceSub, Int.reduceNeg, Nat.reducePow, or_true, true_or, List.length_map, List.isEmpty_cons, List.isEmpty_nil, addQ_i, addQ_s, addQ_l, addQ_t, iQ_i, mulQ_i, cmpQ_i, cmpQ_s, isQ_n, isQ_b, isNon_b, isNon_i, isNon_s, isNon_l, isNon_t, isNon_n, isNon_d, inQ_l, inQ_t, inQ_k, inQ_s, inQ_d, inQ_dt, ixQ_l, ixQ_t, ixQ_k, ixQ_s, ixQ_d, ixQ_dt, getQ_d, getQ_dt, key_i, key_s, slQ_l, slQ_t, slQ_s, optQ_i, revQ_l, negQ_i, truth_b, truth_i, truth_n, truth_s, truth_l, truth_t, blQ_b, bindS_st, bindS_ow, isBr_st, isBr_ow, isBr_br, itemsQ_l, itemsQ_t, itemsQ_s, g_tup_t, g_cons_c, g_nil_n, lenQ_l, lenQ_t, lenQ_s, lenQ_d, isiQ_t, ty_i, ty_s, ty_b, ty_n, ty_l, ty_t, ty_d, intQ_i, intQ_b, absQ_i, mmQ_i, listQ_l, listQ_t, listQ_k, tupleQ_l, tupleQ_t, sumQ_l, allQ_l, r1Q_i, r2Q_i, bne_false_S, bne_true_S, eqD_i, eqD_s, eqD_b, eqD_nn, eqD_ni, eqD_in, eqD_is, eqD_si, eqD_ln, eqD_nl, eqD_ll, eqD_l0, eqD_lc, eqD_cl, eqD_tt, eqD_t0, eqD_tc, eqD_ct, plain_i, plain_s, plain_b, plain_n, plain_l, plain_t, plainL_c, plainL_n, dep_sc, dep_l, dep_t, depL_c, depL_n, flatR_sc, slotAt_0, slotAt_s, e_var_eq, varQ_sh, varQ_ow, s_retv_eq, retQ_sh, retQ_ow, s_frz_eq, frzQ_sh, frzQ_ow, s_meth_eq, methQ_l, s_methset_eq, methsQ_l, s_setix_eq, setixQ_ow, e_lkd_eq, lkdQ_d, lkdQ_t, lkdQ_od, lkdQ_ot, s_lkd_eq, lkS_d, lkS_t, i_items_eq, itmS_d, i_keys_eq, keyS_d, keyS_t, i_vals_eq, valS_d, stepQ_l, isLst_l, strD_s, joinQ_l, strQ_i, strQ_s, dictQ_l, sortedLQ_l, setQ_l, setQ_d, setQ_t, appendQ_1, List.length_set]
  (repeat (with_reducible apply And.intro; · first | assumption | omega | decide | (left; omega) | (right; omega) | (left; decide) | (right; decide)))
  refine rng_loop (fun j env => ∃ (xs : List Str) (n1 : Int) (k a b e : Sl), env = [.sh (.sc (.int n1)), .sh (.sc (.str "abcdefghijklmnopqrstuvwxyz")), .ow (strsD xs), k, a, b, e, .no] ∧ xs.length = j ∧ ∀ x ∈ xs, 1 ≤ x.length ∧ x.length ≤ 12 ∧ lettersB x = true) ⟨[], n, .no, .no, .no, .no, rfl, rfl, fun _ z => nomatch z⟩ ?_ ?_
  · rintro env ⟨xs, n1, k, a, b, e, rfl, hl, hx⟩
    have e8 : (1 : Nat) + 1 = 2 := rfl
    simp only [s_seq, s_nil, s_if, s_ret, s_retN, s_set, s_for, s_while, i_seq, i_ps, e_c, e_k, e_op, e_cb, e_call, e_and, e_or, e_not, e_chain, e_neg, e_tup, e_lst, e_sl, e_rev, e_dnew, e_dnewT, e_get2, o_none, o_some, t_of, t_op, t_and, t_or, t_not, t_chain, t_yes, a_nil, a_cons, brs, tyOks, isTy, subQ, fdivQ, modQ, powQ, eqQ, neQ, sizeL, enumAQ_l, enumAQ_t, str_one, str_app, startE, wipeE, e_lc, e_step, e_sm1, e_sm0, osOf, En.frz, P.frz, g_name, s_expr, s_asg, s_pass, s_break, s_cont, List.getElem?_cons_zero, List.getElem?_cons_succ, List.getElem?_nil, List.set_cons_zero, List.set_cons_succ, List.map_cons, List.map_nil, List.replicate_zero, List.replicate_succ, List.cons_append, List.nil_append, List.append_nil, List.length_cons, List.length_nil, List.any_cons, List.any_nil, Bool.not_true, Bool.not_false, Bool.false_or, Bool.or_false, Bool.true_or, Bool.or_true, Bool.and_true, Bool.true_and, Bool.false_and, Bool.and_false, if_true, if_false, ite_true, ite_false, Bool.false_eq_true, reduceIte, Nat.reduceAdd, Nat.reduceSub, Nat.zero_add, Nat.add_zero, true_and, and_true, Option.some.injEq, D.sc.injEq, V.bl.injEq, V.int.injEq, V.str.injEq, exists_eq_left', exists_eq_left, Bool.or_self, forall_const, imp_self, decide_eq_true_eq, Bool.not_eq_true', decide_eq_false_iff_not, Bool.not_eq_false, Decidable.not_not, implies_true, not_true_eq_false, not_false_eq_true, reduceCtorEq, false_imp, ne_eq, String.reduceBEq, Int.reducePow, Int.reduceToNat, Int.reduceLT, Int.reduceLE, Nat.reduceLeDiff, Nat.reduceLT, Nat.reduceMul, Int.reduceMul, Int.reduceAdd, Int.reduceSub, Int.reduceNeg, Nat.reducePow, or_true, true_or, List.length_map, List.isEmpty_cons, List.isEmpty_nil, addQ_i, addQ_s, addQ_l, addQ_t, iQ_i, mulQ_i, cmpQ_i, cmpQ_s, isQ_n, isQ_b, isNon_b, isNon_i, isNon_s, isNon_l, isNon_t, isNon_n, isNon_d, inQ_l, inQ_t, inQ_k, inQ_s, inQ_d, inQ_dt, ixQ_l, ixQ_t, ixQ_k, ixQ_s, ixQ_d, ixQ_dt, getQ_d, getQ_dt, key_i, key_s, slQ_l, slQ_t, slQ_s, optQ_i, revQ_l, negQ_i, truth_b, truth_i, truth_n, truth_s, truth_l, truth_t, blQ_b, bindS_st, bindS_ow, isBr_st, isBr_ow, isBr_br, itemsQ_l, itemsQ_t, itemsQ_s, g_tup_t, g_cons_c, g_nil_n, lenQ_l, lenQ_t, lenQ_s, lenQ_d, isiQ_t, ty_i, ty_s, ty_b, ty_n, ty_l, ty_t, ty_d, intQ_i, intQ_b, absQ_i, mmQ_i, listQ_l, listQ_t, listQ_k, tupleQ_l, tupleQ_t, sumQ_l, allQ_l, r1Q_i, r2Q_i, bne_false_S, bne_true_S, eqD_i, eqD_s, eqD_b, eqD_nn, eqD_ni, eqD_in, eqD_is, eqD_si, eqD_ln, eqD_nl, eqD_ll, eqD_l0, eqD_lc, eqD_cl, eqD_tt, eqD_t0, eqD_tc, eqD_ct, plain_i, plain_s, plain_b, plain_n, plain_l, plain_t, plainL_c, plainL_n, dep_sc, dep_l, dep_t, depL_c, depL_n, flatR_sc, slotAt_0, slotAt_s, e_var_eq, varQ_sh, varQ_ow, s_retv_eq, retQ_sh, retQ_ow, s_frz_eq, frzQ_sh, frzQ_ow, s_meth_eq, methQ_l, s_methset_eq, methsQ_l, s_setix_eq, setixQ_ow, e_lkd_eq, lkdQ_d, lkdQ_t, lkdQ_od, lkdQ_ot, s_lkd_eq, lkS_d, lkS_t, i_items_eq, itmS_d, i_keys_eq, keyS_d, keyS_t, i_vals_eq, valS_d, stepQ_l, isLst_l, strD_s, joinQ_l, strQ_i, strQ_s, dictQ_l, sortedLQ_l, setQ_l, setQ_d, setQ_t, appendQ_1, List.length_set, strsD, wipeE]
    refine comp_all (fun d y => ∃ x : Str, y = .sc (.str x) ∧ 1 ≤ x.length ∧ x.length ≤ 12 ∧ lettersB x = true) (by rw [List.length_map]; omega) (fun ys hy hp => ?_) fun d m N hN => ?_
    · obtain ⟨zs, ez, hz⟩ := strs_ext (P := fun x => 1 ≤ x.length ∧ x.length ≤ 12 ∧ lettersB x = true) (ys := ys) fun j y e => by
        have hj : j < (xs.map fun x => D.sc (V.str x)).length := by
          have := (List.getElem?_eq_some_iff.mp e).1
          omega
        exact hp j _ y (List.getElem?_eq_getElem hj) e
      subst ez
      have hzl : zs.length = 4 := by simpa [hl] using hy
      simp only [s_seq, s_nil, s_if, s_ret, s_retN, s_set, s_for, s_while, i_seq, i_ps, e_c, e_k, e_op, e_cb, e_call, e_and, e_or, e_not, e_chain, e_neg, e_tup, e_lst, e_sl, e_rev, e_dnew, e_dnewT, e_get2, o_none, o_some, t_of, t_op, t_and, t_or, t_not, t_chain, t_yes, a_nil, a_cons, brs, tyOks, isTy, subQ, fdivQ, modQ, powQ, eqQ, neQ, sizeL, enumAQ_l, enumAQ_t, str_one, str_app, startE, wipeE, e_lc, e_step, e_sm1, e_sm0, osOf, En.frz, P.frz, g_name, s_expr, s_asg, s_pass, s_break, s_cont, List.getElem?_cons_zero, List.getElem?_cons_succ, List.getElem?_nil, List.set_cons_zero, List.set_cons_succ, List.map_cons, List.map_nil, List.replicate_zero, List.replicate_succ, List.cons_append, List.nil_append, List.append_nil, List.length_cons, List.length_nil, List.any_cons, List.any_nil, Bool.not_true, Bool.not_false, Bool.false_or, Bool.or_false, Bool.true_or, Bool.or_true, Bool.and_true, Bool.true_and, Bool.false_and, Bool.and_false, if_true, if_false, ite_true, ite_false, Bool.false_eq_true, reduceIte, Nat.reduceAdd, Nat.reduceSub, Nat.zero_add, Nat.add_zero, true_and, and_true, Option.some.injEq, D.sc.injEq, V.bl.injEq, V.int.injEq, V.str.injEq, exists_eq_left', exists_eq_left, Bool.or_self, forall_const, imp_self, decide_eq_true_eq, Bool.not_eq_true', decide_eq_false_iff_not, Bool.not_eq_false, Decidable.not_not, implies_true, not_true_eq_false, not_false_eq_true, reduceCtorEq, false_imp, ne_eq, String.reduceBEq, Int.reducePow, Int.reduceToNat, Int.reduceLT, Int.reduceLE, Nat.reduceLeDiff, Nat.reduceLT, Nat.reduceMul, Int.reduceMul, Int.reduceAdd, Int.reduceSub, Int.reduceNeg, Nat.reducePow, or_true, true_or, List.length_map, List.isEmpty_cons, List.isEmpty_nil, addQ_i, addQ_s, addQ_l, addQ_t, iQ_i, mulQ_i, cmpQ_i, cmpQ_s, isQ_n, isQ_b, isNon_b, isNon_i, isNon_s, isNon_l, isNon_t, isNon_n, isNon_d, inQ_l, inQ_t, inQ_k, inQ_s, inQ_d, inQ_dt, ixQ_l, ixQ_t, ixQ_k, ixQ_s, ixQ_d, ixQ_dt, getQ_d, getQ_dt, key_i, key_s, slQ_l, slQ_t, slQ_s, optQ_i, revQ_l, negQ_i, truth_b, truth_i, truth_n, truth_s, truth_l, truth_t, blQ_b, bindS_st, bindS_ow, isBr_st, isBr_ow, isBr_br, itemsQ_l, itemsQ_t, itemsQ_s, g_tup_t, g_cons_c, g_nil_n, lenQ_l, lenQ_t, lenQ_s, lenQ_d, isiQ_t, ty_i, ty_s, ty_b, ty_n, ty_l, ty_t, ty_d, intQ_i, intQ_b, absQ_i, mmQ_i, listQ_l, listQ_t, listQ_k, tupleQ_l, tupleQ_t, sumQ_l, allQ_l, r1Q_i, r2Q_i, bne_false_S, bne_true_S, eqD_i, eqD_s, eqD_b, eqD_nn, eqD_ni, eqD_in, eqD_is, eqD_si, eqD_ln, eqD_nl, eqD_ll, eqD_l0, eqD_lc, eqD_cl, eqD_tt, eqD_t0, eqD_tc, eqD_ct, plain_i, plain_s, plain_b, plain_n, plain_l, plain_t, plainL_c, plainL_n, dep_sc, dep_l, dep_t, depL_c, depL_n, flatR_sc, slotAt_0, slotAt_s, e_var_eq, varQ_sh, varQ_ow, s_retv_eq, retQ_sh, retQ_ow, s_frz_eq, frzQ_sh, frzQ_ow, s_meth_eq, methQ_l, s_methset_eq, methsQ_l, s_setix_eq, setixQ_ow, e_lkd_eq, lkdQ_d, lkdQ_t, lkdQ_od, lkdQ_ot, s_lkd_eq, lkS_d, lkS_t, i_items_eq, itmS_d, i_keys_eq, keyS_d, keyS_t, i_vals_eq, valS_d, stepQ_l, isLst_l, strD_s, joinQ_l, strQ_i, strQ_s, dictQ_l, sortedLQ_l, setQ_l, setQ_d, setQ_t, appendQ_1, List.length_set]
      refine ⟨by omega, ?_⟩
      rw [← List.map_append]
      refine comp_all (fun d y => ∃ x : Str, y = .sc (.str x) ∧ nameB x = true) (by simp; omega) (fun ys hy hp => ?_) fun d m N hN => ?_
      · obtain ⟨ws, ew, hw⟩ := strs_ext (P := fun x => nameB x = true) (ys := ys) fun j y e => by
          have hj : j < ((xs ++ zs).map fun x => D.sc (V.str x)).length := by
            have := (List.getElem?_eq_some_iff.mp e).1
            omega
          exact hp j _ y (List.getElem?_eq_getElem hj) e
        subst ew
        exact q ws (by simpa [hl, hzl] using hy) hw
      · obtain ⟨x, mx, rfl⟩ := List.mem_map.mp m
        have hx2 : 1 ≤ x.length ∧ x.length ≤ 12 ∧ lettersB x = true := by
          rcases List.mem_append.mp mx with m | m
          · exact hx x m
          · exact hz x m
        simp only [s_seq, s_nil, s_if, s_ret, s_retN, s_set, s_for, s_while, i_seq, i_ps, e_c, e_k, e_op, e_cb, e_call, e_and, e_or, e_not, e_chain, e_neg, e_tup, e_lst, e_sl, e_rev, e_dnew, e_dnewT, e_get2, o_none, o_some, t_of, t_op, t_and, t_or, t_not, t_chain, t_yes, a_nil, a_cons, brs, tyOks, isTy, subQ, fdivQ, modQ, powQ, eqQ, neQ, sizeL, enumAQ_l, enumAQ_t, str_one, str_app, startE, wipeE, e_lc, e_step, e_sm1, e_sm0, osOf, En.frz, P.frz, g_name, s_expr, s_asg, s_pass, s_break, s_cont, List.getElem?_cons_zero, List.getElem?_cons_succ, List.getElem?_nil, List.set_cons_zero, List.set_cons_succ, List.map_cons, List.map_nil, List.replicate_zero, List.replicate_succ, List.cons_append, List.nil_append, List.append_nil, List.length_cons, List.length_nil, List.any_cons, List.any_nil, Bool.not_true, Bool.not_false, Bool.false_or, Bool.or_false, Bool.true_or, Bool.or_true, Bool.and_true, Bool.true_and, Bool.false_and, Bool.and_false, if_true, if_false, ite_true, ite_false, Bool.false_eq_true, reduceIte, Nat.reduceAdd, Nat.reduceSub, Nat.zero_add, Nat.add_zero, true_and, and_true, Option.some.injEq, D.sc.injEq, V.bl.injEq, V.int.injEq, V.str.injEq, exists_eq_left', exists_eq_left, Bool.or_self, forall_const, imp_self, decide_eq_true_eq, Bool.not_eq_true', decide_eq_false_iff_not, Bool.not_eq_false, Decidable.not_not, implies_true, not_true_eq_false, not_false_eq_true, reduceCtorEq, false_imp, ne_eq, String.reduceBEq, Int.reducePow, Int.reduceToNat, Int.reduceLT, Int.reduceLE, Nat.reduceLeDiff, Nat.reduceLT, Nat.reduceMul, Int.reduceMul, Int.reduceAdd, Int.reduceSub, Int.reduceNeg, Nat.reducePow, or_true, true_or, List.length_map, List.isEmpty_cons, List.isEmpty_nil, addQ_i, addQ_s, addQ_l, addQ_t, iQ_i, mulQ_i, cmpQ_i, cmpQ_s, isQ_n, isQ_b, isNon_b, isNon_i, isNon_s, isNon_l, isNon_t, isNon_n, isNon_d, inQ_l, inQ_t, inQ_k, inQ_s, inQ_d, inQ_dt, ixQ_l, ixQ_t, ixQ_k, ixQ_s, ixQ_d, ixQ_dt, getQ_d, getQ_dt, key_i, key_s, slQ_l, slQ_t, slQ_s, optQ_i, revQ_l, negQ_i, truth_b, truth_i, truth_n, truth_s, truth_l, truth_t, blQ_b, bindS_st, bindS_ow, isBr_st, isBr_ow, isBr_br, itemsQ_l, itemsQ_t, itemsQ_s, g_tup_t, g_cons_c, g_nil_n, lenQ_l, lenQ_t, lenQ_s, lenQ_d, isiQ_t, ty_i, ty_s, ty_b, ty_n, ty_l, ty_t, ty_d, intQ_i, intQ_b, absQ_i, mmQ_i, listQ_l, listQ_t, listQ_k, tupleQ_l, tupleQ_t, sumQ_l, allQ_l, r1Q_i, r2Q_i, bne_false_S, bne_true_S, eqD_i, eqD_s, eqD_b, eqD_nn, eqD_ni, eqD_in, eqD_is, eqD_si, eqD_ln, eqD_nl, eqD_ll, eqD_l0, eqD_lc, eqD_cl, eqD_tt, eqD_t0, eqD_tc, eqD_ct, plain_i, plain_s, plain_b, plain_n, plain_l, plain_t, plainL_c, plainL_n, dep_sc, dep_l, dep_t, depL_c, depL_n, flatR_sc, slotAt_0, slotAt_s, e_var_eq, varQ_sh, varQ_ow, s_retv_eq, retQ_sh, retQ_ow, s_frz_eq, frzQ_sh, frzQ_ow, s_meth_eq, methQ_l, s_methset_eq, methsQ_l, s_setix_eq, setixQ_ow, e_lkd_eq, lkdQ_d, lkdQ_t, lkdQ_od, lkdQ_ot, s_lkd_eq, lkS_d, lkS_t, i_items_eq, itmS_d, i_keys_eq, keyS_d, keyS_t, i_vals_eq, valS_d, stepQ_l, isLst_l, strD_s, joinQ_l, strQ_i, strQ_s, dictQ_l, sortedLQ_l, setQ_l, setQ_d, setQ_t, appendQ_1, List.length_set, C__law_good_name]
        exact ⟨hx2.1, hx2.2.1, hx2.2.2, fun y hy => hN _ _ rfl ⟨y, rfl, hy⟩⟩
    · obtain ⟨x, mx, rfl⟩ := List.mem_map.mp m
      obtain ⟨x1, x2, x3⟩ := hx x mx
      simp only [s_seq, s_nil, s_if, s_ret, s_retN, s_set, s_for, s_while, i_seq, i_ps, e_c, e_k, e_op, e_cb, e_call, e_and, e_or, e_not, e_chain, e_neg, e_tup, e_lst, e_sl, e_rev, e_dnew, e_dnewT, e_get2, o_none, o_some, t_of, t_op, t_and, t_or, t_not, t_chain, t_yes, a_nil, a_cons, brs, tyOks, isTy, subQ, fdivQ, modQ, powQ, eqQ, neQ, sizeL, enumAQ_l, enumAQ_t, str_one, str_app, startE, wipeE, e_lc, e_step, e_sm1, e_sm0, osOf, En.frz, P.frz, g_name, s_expr, s_asg, s_pass, s_break, s_cont, List.getElem?_cons_zero, List.getElem?_cons_succ, List.getElem?_nil, List.set_cons_zero, List.set_cons_succ, List.map_cons, List.map_nil, List.replicate_zero, List.replicate_succ, List.cons_append, List.nil_append, List.append_nil, List.length_cons, List.length_nil, List.any_cons, List.any_nil, Bool.not_true, Bool.not_false, Bool.false_or, Bool.or_false, Bool.true_or, Bool.or_true, Bool.and_true, Bool.true_and, Bool.false_and, Bool.and_false, if_true, if_false, ite_true, ite_false, Bool.false_eq_true, reduceIte, Nat.reduceAdd, Nat.reduceSub, Nat.zero_add, Nat.add_zero, true_and, and_true, Option.some.injEq, D.sc.injEq, V.bl.injEq, V.int.injEq, V.str.injEq, exists_eq_left', exists_eq_left, Bool.or_self, forall_const, imp_self, decide_eq_true_eq, Bool.not_eq_true', decide_eq_false_iff_not, Bool.not_eq_false, Decidable.not_not, implies_true, not_true_eq_false, not_false_eq_true, reduceCtorEq, false_imp, ne_eq, String.reduceBEq, Int.reducePow, Int.reduceToNat, Int.reduceLT, Int.reduceLE, Nat.reduceLeDiff, Nat.reduceLT, Nat.reduceMul, Int.reduceMul, Int.reduceAdd, Int.reduceSub, Int.reduceNeg, Nat.reducePow, or_true, true_or, List.length_map, List.isEmpty_cons, List.isEmpty_nil, addQ_i, addQ_s, addQ_l, addQ_t, iQ_i, mulQ_i, cmpQ_i, cmpQ_s, isQ_n, isQ_b, isNon_b, isNon_i, isNon_s, isNon_l, isNon_t, isNon_n, isNon_d, inQ_l, inQ_t, inQ_k, inQ_s, inQ_d, inQ_dt, ixQ_l, ixQ_t, ixQ_k, ixQ_s, ixQ_d, ixQ_dt, getQ_d, getQ_dt, key_i, key_s, slQ_l, slQ_t, slQ_s, optQ_i, revQ_l, negQ_i, truth_b, truth_i, truth_n, truth_s, truth_l, truth_t, blQ_b, bindS_st, bindS_ow, isBr_st, isBr_ow, isBr_br, itemsQ_l, itemsQ_t, itemsQ_s, g_tup_t, g_cons_c, g_nil_n, lenQ_l, lenQ_t, lenQ_s, lenQ_d, isiQ_t, ty_i, ty_s, ty_b, ty_n, ty_l, ty_t, ty_d, intQ_i, intQ_b, absQ_i, mmQ_i, listQ_l, listQ_t, listQ_k, tupleQ_l, tupleQ_t, sumQ_l, allQ_l, r1Q_i, r2Q_i, bne_false_S, bne_true_S, eqD_i, eqD_s, eqD_b, eqD_nn, eqD_ni, eqD_in, eqD_is, eqD_si, eqD_ln, eqD_nl, eqD_ll, eqD_l0, eqD_lc, eqD_cl, eqD_tt, eqD_t0, eqD_tc, eqD_ct, plain_i, plain_s, plain_b, plain_n, plain_l, plain_t, plainL_c, plainL_n, dep_sc, dep_l, dep_t, depL_c, depL_n, flatR_sc, slotAt_0, slotAt_s, e_var_eq, varQ_sh, varQ_ow, s_retv_eq, retQ_sh, retQ_ow, s_frz_eq, frzQ_sh, frzQ_ow, s_meth_eq, methQ_l, s_methset_eq, methsQ_l, s_setix_eq, setixQ_ow, e_lkd_eq, lkdQ_d, lkdQ_t, lkdQ_od, lkdQ_ot, s_lkd_eq, lkS_d, lkS_t, i_items_eq, itmS_d, i_keys_eq, keyS_d, keyS_t, i_vals_eq, valS_d, stepQ_l, isLst_l, strD_s, joinQ_l, strQ_i, strQ_s, dictQ_l, sortedLQ_l, setQ_l, setQ_d, setQ_t, appendQ_1, List.length_set]
      have c12 : ∀ y : Str, (cutS y none (some 12)).length = min 12 y.length := fun y => cut_upto y 12
      refine ⟨by decide, atI_str (by omega) (by rw [show (Str.ofString "abcdefghijklmnopqrstuvwxyz").cps.toList.length = 26 from by decide]; omega) fun z mz => ⟨by omega, by omega, hN _ _ rfl ⟨_, rfl, ?_, ?_, ?_⟩⟩⟩
      · rw [c12, str_app, str_one]; omega
      · rw [c12, str_app, str_one]; omega
      · exact letters_cut (by rw [letters_app, x3, letter_ok mz]; rfl)
  · rintro j hj env ⟨xs, n1, k, a, b, e, rfl, hl, hx⟩ N hN
    simp only [s_seq, s_nil, s_if, s_ret, s_retN, s_set, s_for, s_while, i_seq, i_ps, e_c, e_k, e_op, e_cb, e_call, e_and, e_or, e_not, e_chain, e_neg, e_tup, e_lst, e_sl, e_rev, e_dnew, e_dnewT, e_get2, o_none, o_some, t_of, t_op, t_and, t_or, t_not, t_chain, t_yes, a_nil, a_cons, brs, tyOks, isTy, subQ, fdivQ, modQ, powQ, eqQ, neQ, sizeL, enumAQ_l, enumAQ_t, str_one, str_app, startE, wipeE, e_lc, e_step, e_sm1, e_sm0, osOf, En.frz, P.frz, g_name, s_expr, s_asg, s_pass, s_break, s_cont, List.getElem?_cons_zero, List.getElem?_cons_succ, List.getElem?_nil, List.set_cons_zero, List.set_cons_succ, List.map_cons, List.map_nil, List.replicate_zero, List.replicate_succ, List.cons_append, List.nil_append, List.append_nil, List.length_cons, List.length_nil, List.any_cons, List.any_nil, Bool.not_true, Bool.not_false, Bool.false_or, Bool.or_false, Bool.true_or, Bool.or_true, Bool.and_true, Bool.true_and, Bool.false_and, Bool.and_false, if_true, if_false, ite_true, ite_false, Bool.false_eq_true, reduceIte, Nat.reduceAdd, Nat.reduceSub, Nat.zero_add, Nat.add_zero, true_and, and_true, Option.some.injEq, D.sc.injEq, V.bl.injEq, V.int.injEq, V.str.injEq, exists_eq_left', exists_eq_left, Bool.or_self, forall_const, imp_self, decide_eq_true_eq, Bool.not_eq_true', decide_eq_false_iff_not, Bool.not_eq_false, Decidable.not_not, implies_true, not_true_eq_false, not_false_eq_true, reduceCtorEq, false_imp, ne_eq, String.reduceBEq, Int.reducePow, Int.reduceToNat, Int.reduceLT, Int.reduceLE, Nat.reduceLeDiff, Nat.reduceLT, Nat.reduceMul, Int.reduceMul, Int.reduceAdd, Int.reduceSub, Int.reduceNeg, Nat.reducePow, or_true, true_or, List.length_map, List.isEmpty_cons, List.isEmpty_nil, addQ_i, addQ_s, addQ_l, addQ_t, iQ_i, mulQ_i, cmpQ_i, cmpQ_s, isQ_n, isQ_b, isNon_b, isNon_i, isNon_s, isNon_l, isNon_t, isNon_n, isNon_d, inQ_l, inQ_t, inQ_k, inQ_s, inQ_d, inQ_dt, ixQ_l, ixQ_t, ixQ_k, ixQ_s, ixQ_d, ixQ_dt, getQ_d, getQ_dt, key_i, key_s, slQ_l, slQ_t, slQ_s, optQ_i, revQ_l, negQ_i, truth_b, truth_i, truth_n, truth_s, truth_l, truth_t, blQ_b, bindS_st, bindS_ow, isBr_st, isBr_ow, isBr_br, itemsQ_l, itemsQ_t, itemsQ_s, g_tup_t, g_cons_c, g_nil_n, lenQ_l, lenQ_t, lenQ_s, lenQ_d, isiQ_t, ty_i, ty_s, ty_b, ty_n, ty_l, ty_t, ty_d, intQ_i, intQ_b, absQ_i, mmQ_i, listQ_l, listQ_t, listQ_k, tupleQ_l, tupleQ_t, sumQ_l, allQ_l, r1Q_i, r2Q_i, bne_false_S, bne_true_S, eqD_i, eqD_s, eqD_b, eqD_nn, eqD_ni, eqD_in, eqD_is, eqD_si, eqD_ln, eqD_nl, eqD_ll, eqD_l0, eqD_lc, eqD_cl, eqD_tt, eqD_t0, eqD_tc, eqD_ct, plain_i, plain_s, plain_b, plain_n, plain_l, plain_t, plainL_c, plainL_n, dep_sc, dep_l, dep_t, depL_c, depL_n, flatR_sc, slotAt_0, slotAt_s, e_var_eq, varQ_sh, varQ_ow, s_retv_eq, retQ_sh, retQ_ow, s_frz_eq, frzQ_sh, frzQ_ow, s_meth_eq, methQ_l, s_methset_eq, methsQ_l, s_setix_eq, setixQ_ow, e_lkd_eq, lkdQ_d, lkdQ_t, lkdQ_od, lkdQ_ot, s_lkd_eq, lkS_d, lkS_t, i_items_eq, itmS_d, i_keys_eq, keyS_d, keyS_t, i_vals_eq, valS_d, stepQ_l, isLst_l, strD_s, joinQ_l, strQ_i, strQ_s, dictQ_l, sortedLQ_l, setQ_l, setQ_d, setQ_t, appendQ_1, List.length_set, strsD]
    refine ⟨by omega, ?_⟩
    refine rng_loop (fun i env => ∃ (w : Str) (n2 : Int) (e : Sl), env = [.sh (.sc (.int n2)), .sh (.sc (.str "abcdefghijklmnopqrstuvwxyz")), .ow (.lst (xs.map fun x => .sc (.str x))), .sh (.sc (.int (0 + (j : Int)))), .sh (.sc (.int (1 + n1 % 12))), .sh (.sc (.str w)), e, .no] ∧ w.length = i ∧ lettersB w = true) ⟨"", _, e, rfl, rfl, by decide +kernel⟩ ?_ ?_
    · rintro env ⟨w, n2, e2, rfl, hw, hw2⟩
      simp only [s_seq, s_nil, s_if, s_ret, s_retN, s_set, s_for, s_while, i_seq, i_ps, e_c, e_k, e_op, e_cb, e_call, e_and, e_or, e_not, e_chain, e_neg, e_tup, e_lst, e_sl, e_rev, e_dnew, e_dnewT, e_get2, o_none, o_some, t_of, t_op, t_and, t_or, t_not, t_chain, t_yes, a_nil, a_cons, brs, tyOks, isTy, subQ, fdivQ, modQ, powQ, eqQ, neQ, sizeL, enumAQ_l, enumAQ_t, str_one, str_app, startE, wipeE, e_lc, e_step, e_sm1, e_sm0, osOf, En.frz, P.frz, g_name, s_expr, s_asg, s_pass, s_break, s_cont, List.getElem?_cons_zero, List.getElem?_cons_succ, List.getElem?_nil, List.set_cons_zero, List.set_cons_succ, List.map_cons, List.map_nil, List.replicate_zero, List.replicate_succ, List.cons_append, List.nil_append, List.append_nil, List.length_cons, List.length_nil, List.any_cons, List.any_nil, Bool.not_true, Bool.not_false, Bool.false_or, Bool.or_false, Bool.true_or, Bool.or_true, Bool.and_true, Bool.true_and, Bool.false_and, Bool.and_false, if_true, if_false, ite_true, ite_false, Bool.false_eq_true, reduceIte, Nat.reduceAdd, Nat.reduceSub, Nat.zero_add, Nat.add_zero, true_and, and_true, Option.some.injEq, D.sc.injEq, V.bl.injEq, V.int.injEq, V.str.injEq, exists_eq_left', exists_eq_left, Bool.or_self, forall_const, imp_self, decide_eq_true_eq, Bool.not_eq_true', decide_eq_false_iff_not, Bool.not_eq_false, Decidable.not_not, implies_true, not_true_eq_false, not_false_eq_true, reduceCtorEq, false_imp, ne_eq, String.reduceBEq, Int.reducePow, Int.reduceToNat, Int.reduceLT, Int.reduceLE, Nat.reduceLeDiff, Nat.reduceLT, Nat.reduceMul, Int.reduceMul, Int.reduceAdd, Int.reduceSub, Int.reduceNeg, Nat.reducePow, or_true, true_or, List.length_map, List.isEmpty_cons, List.isEmpty_nil, addQ_i, addQ_s, addQ_l, addQ_t, iQ_i, mulQ_i, cmpQ_i, cmpQ_s, isQ_n, isQ_b, isNon_b, isNon_i, isNon_s, isNon_l, isNon_t, isNon_n, isNon_d, inQ_l, inQ_t, inQ_k, inQ_s, inQ_d, inQ_dt, ixQ_l, ixQ_t, ixQ_k, ixQ_s, ixQ_d, ixQ_dt, getQ_d, getQ_dt, key_i, key_s, slQ_l, slQ_t, slQ_s, optQ_i, revQ_l, negQ_i, truth_b, truth_i, truth_n, truth_s, truth_l, truth_t, blQ_b, bindS_st, bindS_ow, isBr_st, isBr_ow, isBr_br, itemsQ_l, itemsQ_t, itemsQ_s, g_tup_t, g_cons_c, g_nil_n, lenQ_l, lenQ_t, lenQ_s, lenQ_d, isiQ_t, ty_i, ty_s, ty_b, ty_n, ty_l, ty_t, ty_d, intQ_i, intQ_b, absQ_i, mmQ_i, listQ_l, listQ_t, listQ_k, tupleQ_l, tupleQ_t, sumQ_l, allQ_l, r1Q_i, r2Q_i, bne_false_S, bne_true_S, eqD_i, eqD_s, eqD_b, eqD_nn, eqD_ni, eqD_in, eqD_is, eqD_si, eqD_ln, eqD_nl, eqD_ll, eqD_l0, eqD_lc, eqD_cl, eqD_tt, eqD_t0, eqD_tc, eqD_ct, plain_i, plain_s, plain_b, plain_n, plain_l, plain_t, plainL_c, plainL_n, dep_sc, dep_l, dep_t, depL_c, depL_n, flatR_sc, slotAt_0, slotAt_s, e_var_eq, varQ_sh, varQ_ow, s_retv_eq, retQ_sh, retQ_ow, s_frz_eq, frzQ_sh, frzQ_ow, s_meth_eq, methQ_l, s_methset_eq, methsQ_l, s_setix_eq, setixQ_ow, e_lkd_eq, lkdQ_d, lkdQ_t, lkdQ_od, lkdQ_ot, s_lkd_eq, lkS_d, lkS_t, i_items_eq, itmS_d, i_keys_eq, keyS_d, keyS_t, i_vals_eq, valS_d, stepQ_l, isLst_l, strD_s, joinQ_l, strQ_i, strQ_s, dictQ_l, sortedLQ_l, setQ_l, setQ_d, setQ_t, appendQ_1, List.length_set]
      refine ⟨by omega, hN _ ⟨xs ++ [w], _, _, _, _, _, by rw [strsD, List.map_append]; rfl, by simp [hl], fun x m => ?_⟩⟩
      rcases List.mem_append.mp m with m | m
      · exact hx x m
      · rw [List.mem_singleton.mp m]
        exact ⟨by omega, by omega, hw2⟩
    · rintro i hi env ⟨w, n2, e2, rfl, hw, hw2⟩ N2 hN2
      simp only [s_seq, s_nil, s_if, s_ret, s_retN, s_set, s_for, s_while, i_seq, i_ps, e_c, e_k, e_op, e_cb, e_call, e_and, e_or, e_not, e_chain, e_neg, e_tup, e_lst, e_sl, e_rev, e_dnew, e_dnewT, e_get2, o_none, o_some, t_of, t_op, t_and, t_or, t_not, t_chain, t_yes, a_nil, a_cons, brs, tyOks, isTy, subQ, fdivQ, modQ, powQ, eqQ, neQ, sizeL, enumAQ_l, enumAQ_t, str_one, str_app, startE, wipeE, e_lc, e_step, e_sm1, e_sm0, osOf, En.frz, P.frz, g_name, s_expr, s_asg, s_pass, s_break, s_cont, List.getElem?_cons_zero, List.getElem?_cons_succ, List.getElem?_nil, List.set_cons_zero, List.set_cons_succ, List.map_cons, List.map_nil, List.replicate_zero, List.replicate_succ, List.cons_append, List.nil_append, List.append_nil, List.length_cons, List.length_nil, List.any_cons, List.any_nil, Bool.not_true, Bool.not_false, Bool.false_or, Bool.or_false, Bool.true_or, Bool.or_true, Bool.and_true, Bool.true_and, Bool.false_and, Bool.and_false, if_true, if_false, ite_true, ite_false, Bool.false_eq_true, reduceIte, Nat.reduceAdd, Nat.reduceSub, Nat.zero_add, Nat.add_zero, true_and, and_true, Option.some.injEq, D.sc.injEq, V.bl.injEq, V.int.injEq, V.str.injEq, exists_eq_left', exists_eq_left, Bool.or_self, forall_const, imp_self, decide_eq_true_eq, Bool.not_eq_true', decide_eq_false_iff_not, Bool.not_eq_false, Decidable.not_not, implies_true, not_true_eq_false, not_false_eq_true, reduceCtorEq, false_imp, ne_eq, String.reduceBEq, Int.reducePow, Int.reduceToNat, Int.reduceLT, Int.reduceLE, Nat.reduceLeDiff, Nat.reduceLT, Nat.reduceMul, Int.reduceMul, Int.reduceAdd, Int.reduceSub, Int.reduceNeg, Nat.reducePow, or_true, true_or, List.length_map, List.isEmpty_cons, List.isEmpty_nil, addQ_i, addQ_s, addQ_l, addQ_t, iQ_i, mulQ_i, cmpQ_i, cmpQ_s, isQ_n, isQ_b, isNon_b, isNon_i, isNon_s, isNon_l, isNon_t, isNon_n, isNon_d, inQ_l, inQ_t, inQ_k, inQ_s, inQ_d, inQ_dt, ixQ_l, ixQ_t, ixQ_k, ixQ_s, ixQ_d, ixQ_dt, getQ_d, getQ_dt, key_i, key_s, slQ_l, slQ_t, slQ_s, optQ_i, revQ_l, negQ_i, truth_b, truth_i, truth_n, truth_s, truth_l, truth_t, blQ_b, bindS_st, bindS_ow, isBr_st, isBr_ow, isBr_br, itemsQ_l, itemsQ_t, itemsQ_s, g_tup_t, g_cons_c, g_nil_n, lenQ_l, lenQ_t, lenQ_s, lenQ_d, isiQ_t, ty_i, ty_s, ty_b, ty_n, ty_l, ty_t, ty_d, intQ_i, intQ_b, absQ_i, mmQ_i, listQ_l, listQ_t, listQ_k, tupleQ_l, tupleQ_t, sumQ_l, allQ_l, r1Q_i, r2Q_i, bne_false_S, bne_true_S, eqD_i, eqD_s, eqD_b, eqD_nn, eqD_ni, eqD_in, eqD_is, eqD_si, eqD_ln, eqD_nl, eqD_ll, eqD_l0, eqD_lc, eqD_cl, eqD_tt, eqD_t0, eqD_tc, eqD_ct, plain_i, plain_s, plain_b, plain_n, plain_l, plain_t, plainL_c, plainL_n, dep_sc, dep_l, dep_t, depL_c, depL_n, flatR_sc, slotAt_0, slotAt_s, e_var_eq, varQ_sh, varQ_ow, s_retv_eq, retQ_sh, retQ_ow, s_frz_eq, frzQ_sh, frzQ_ow, s_meth_eq, methQ_l, s_methset_eq, methsQ_l, s_setix_eq, setixQ_ow, e_lkd_eq, lkdQ_d, lkdQ_t, lkdQ_od, lkdQ_ot, s_lkd_eq, lkS_d, lkS_t, i_items_eq, itmS_d, i_keys_eq, keyS_d, keyS_t, i_vals_eq, valS_d, stepQ_l, isLst_l, strD_s, joinQ_l, strQ_i, strQ_s, dictQ_l, sortedLQ_l, setQ_l, setQ_d, setQ_t, appendQ_1, List.length_set]
      refine ⟨by decide, atI_str (by omega) (by rw [show (Str.ofString "abcdefghijklmnopqrstuvwxyz").cps.toList.length = 26 from by decide]; omega) fun z mz => ⟨by omega, hN2 _ ⟨_, _, _, rfl, by rw [str_app, str_one, hw], by rw [letters_app, hw2, letter_ok mz]; rfl⟩⟩⟩
def C__law_names : Ct := fun ds Q => match ds with
  | [.sc (.int _)] => ∀ xs : List Str, xs.length = 8 → (∀ x ∈ xs, nameB x = true) → Q (strsD xs) .ow
  | _ => False
def g__law_names : Sx := s_seq (s_if (t_op (eqQ) (e_op modQ (e_var 0) (e_c (.int 2))) (e_c (.int 1))) (s_ret (e_call 1 C__law_free_names (a_cons (e_op fdivQ (e_var 0) (e_c (.int 2))) (a_nil)))) (s_nil)) (s_seq (s_set 1 (e_c (.str "bcdefghjklmnpqrstuvwxyz"))) (s_seq (s_set 2 (e_op modQ (e_op mulQ (e_op addQ (e_op modQ (e_var 0) (e_op powQ (e_c (.int 10)) (e_c (.int 15)))) (e_c (.int 7))) (e_c (.int 48271))) (e_c (.int 2147483647)))) (s_seq (s_set 3 (e_op modQ (e_var 2) (e_c (.int 11)))) (s_seq (s_set 5 (e_sm1 joinQ (e_c (.str "")) (e_lc (i_ps r1Q (a_cons (e_var 3) (a_nil))) (g_name 4) (t_yes) (e_op ixQ (e_var 1) (e_op modQ (e_op addQ (e_op fdivQ (e_var 2) (e_c (.int 11))) (e_op mulQ (e_op mulQ (e_c (.int 5)) (e_var 4)) (e_var 4))) (e_c (.int 23)))) [4]))) (s_seq (s_set 6 (e_op modQ (e_op fdivQ (e_var 2) (e_c (.int 276))) (e_op addQ (e_var 3) (e_c (.int 1))))) (s_seq (s_set 7 (e_lst (a_nil))) (s_seq (s_for (i_ps r1Q (a_cons (e_c (.int 4)) (a_nil))) (g_name 4) (s_seq (s_set 8 (e_op ixQ (e_var 1) (e_op modQ (e_op addQ (e_op fdivQ (e_var 2) (e_c (.int 7))) (e_op mulQ (e_c (.int 3)) (e_var 4))) (e_c (.int 23))))) (s_meth 7 appendQ (a_cons (e_op addQ (e_op addQ (e_sl (e_var 5) (o_none) (o_some (e_var 6))) (e_var 8)) (e_sl (e_var 5) (o_some (e_var 6)) (o_none))) (a_nil))))) (s_seq (s_set 9 (e_op ixQ (e_var 1) (e_op modQ (e_op fdivQ (e_var 2) (e_c (.int 13))) (e_c (.int 23))))) (s_ret (e_op addQ (e_var 7) (e_lc (i_seq (e_var 7)) (g_name 10) (t_yes) (e_op addQ (e_var 10) (e_var 9)) [10])))))))))))
theorem rangeD_mem {lo : Int} {n : Nat} {d : D} (h : d ∈ rangeD lo 1 n) : ∃ j : Nat, j < n ∧ d = .sc (.int (lo + (j : Nat))) := by
  obtain ⟨j, hj, e⟩ := List.getElem_of_mem h
  have e2 := List.getElem?_eq_getElem hj
  rw [rangeD_get, e, Int.mul_one] at e2
  rw [rangeD_length] at hj
  rw [if_pos hj] at e2
  exact ⟨j, hj, (Option.some.inj e2).symm⟩
theorem join_empty : ∀ xs : List Str, (∀ x ∈ xs, x.length = 1 ∧ consB x = true) → (Str.join (Str.ofString "") xs).length = xs.length ∧ consB (Str.join (Str.ofString "") xs) = true
  | [], _ => ⟨by decide +kernel, by decide +kernel⟩
  | [x], h => by
    obtain ⟨h1, h2⟩ := h x List.mem_cons_self
    exact ⟨h1, h2⟩
  | x :: y :: r, h => by
    obtain ⟨h1, h2⟩ := h x List.mem_cons_self
    obtain ⟨h3, h4⟩ := join_empty (y :: r) fun z m => h z (List.mem_cons_of_mem _ m)
    have e : Str.join (Str.ofString "") (x :: y :: r) = x ++ Str.ofString "" ++ Str.join (Str.ofString "") (y :: r) := rfl
    rw [e, str_app, str_app, cons_app, cons_app, h1, h2, h3, h4]
    refine ⟨?_, by decide +kernel⟩
    have : (Str.ofString "").length = 0 := by decide +kernel
    simp only [List.length_cons] at *
    omega
theorem sum_le {xs : List Str} {n : Nat} (h : ∀ x ∈ xs, x.length ≤ n) : (xs.map (·.length)).sum ≤ xs.length * n := by
  induction xs with
  | nil => simp
  | cons x xs ih =>
    have h1 := h x List.mem_cons_self
    have h2 := ih fun z m => h z (List.mem_cons_of_mem _ m)
    simp only [List.map_cons, List.sum_cons, List.length_cons, Nat.succ_mul]
    omega
theorem nameB_cons {x : Str} (h : 1 ≤ x.length ∧ x.length ≤ 12) (c : consB x = true) : nameB x = true := nameB_mk h (cons_kept c) (cons_letters c)
theorem cut_two (a : Str) (k : Nat) (h : k ≤ a.length) : (cutS a none (some (k : Int))).length + (cutS a (some (k : Int)) none).length = a.length := by
  have h1 := cut_upto a k
  have h2 : (cutS a (some (k : Int)) none).length = a.length - k := by
    show ((a.cps.toList.drop (HT.sIx a.length 0 (some (k : Int)))).take (a.length - HT.sIx a.length 0 (some (k : Int)))).toArray.size = _
    rw [HT.sIx_nat, List.size_toArray, List.length_take, List.length_drop, str_len]
    omega
  omega
theorem pure__law_names (ds : List D) (Q : D → Md → Prop) (h : C__law_names ds Q) : g__law_names (startE ["cell", "letters", "number", "many", "k", "stem", "at", "names", "sign", "more", "name"] ds) (osOf Q) := by
  unfold C__law_names at h
  split at h
  case h_2 => exact h.elim
  rename_i n
  have q := h
  unfold g__law_names
  have hs := sizeL
  have cl : (Str.ofString "bcdefghjklmnpqrstuvwxyz").cps.toList.length = 23 := by decide
  simp only [s_seq, s_nil, s_if, s_ret, s_retN, s_set, s_for, s_while, i_seq, i_ps, e_c, e_k, e_op, e_cb, e_call, e_and, e_or, e_not, e_chain, e_neg, e_tup, e_lst, e_sl, e_rev, e_dnew, e_dnewT, e_get2, o_none, o_some, t_of, t_op, t_and, t_or, t_not, t_chain, t_yes, a_nil, a_cons, brs, tyOks, isTy, subQ, fdivQ, modQ, powQ, eqQ, neQ, sizeL, enumAQ_l, enumAQ_t, str_one, str_app, startE, wipeE, e_lc, e_step, e_sm1, e_sm0, osOf, En.frz, P.frz, g_name, s_expr, s_asg, s_pass, s_break, s_cont, List.getElem?_cons_zero, List.getElem?_cons_succ, List.getElem?_nil, List.set_cons_zero, List.set_cons_succ, List.map_cons, List.map_nil, List.replicate_zero, List.replicate_succ, List.cons_append, List.nil_append, List.append_nil, List.length_cons, List.length_nil, List.any_cons, List.any_nil, Bool.not_true, Bool.not_false, Bool.false_or, Bool.or_false, Bool.true_or, Bool.or_true, Bool.and_true, Bool.true_and, Bool.false_and, Bool.and_false, if_true, if_false, ite_true, ite_false, Bool.false_eq_true, reduceIte, Nat.reduceAdd, Nat.reduceSub, Nat.zero_add, Nat.add_zero, true_and, and_true, Option.some.injEq, D.sc.injEq, V.bl.injEq, V.int.injEq, V.str.injEq, exists_eq_left', exists_eq_left, Bool.or_self, forall_const, imp_self, decide_eq_true_eq, Bool.not_eq_true', decide_eq_false_iff_not, Bool.not_eq_false, Decidable.not_not, implies_true, not_true_eq_false, not_false_eq_true, reduceCtorEq, false_imp, ne_eq, String.reduceBEq, Int.reducePow, Int.reduceToNat, Int.reduceLT, Int.reduceLE, Nat.reduceLeDiff, Nat.reduceLT, Nat.reduceMul, Int.reduceMul, Int.reduceAdd, Int.reduceSub, Int.reduceNeg, Nat.reducePow, or_true, true_or, List.length_map, List.isEmpty_cons, List.isEmpty_nil, addQ_i, addQ_s, addQ_l, addQ_t, iQ_i, mulQ_i, cmpQ_i, cmpQ_s, isQ_n, isQ_b, isNon_b, isNon_i, isNon_s, isNon_l, isNon_t, isNon_n, isNon_d, inQ_l, inQ_t, inQ_k, inQ_s, inQ_d, inQ_dt, ixQ_l, ixQ_t, ixQ_k, ixQ_s, ixQ_d, ixQ_dt, getQ_d, getQ_dt, key_i, key_s, slQ_l, slQ_t, slQ_s, optQ_i, revQ_l, negQ_i, truth_b, truth_i, truth_n, truth_s, truth_l, truth_t, blQ_b, bindS_st, bindS_ow, isBr_st, isBr_ow, isBr_br, itemsQ_l, itemsQ_t, itemsQ_s, g_tup_t, g_cons_c, g_nil_n, lenQ_l, lenQ_t, lenQ_s, lenQ_d, isiQ_t, ty_i, ty_s, ty_b, ty_n, ty_l, ty_t, ty_d, intQ_i, intQ_b, absQ_i, mmQ_i, listQ_l, listQ_t, listQ_k, tupleQ_l, tupleQ_t, sumQ_l, allQ_l, r1Q_i, r2Q_i, bne_false_S, bne_true_S, eqD_i, eqD_s, eqD_b, eqD_nn, eqD_ni, eqD_in, eqD_is, eqD_si, eqD_ln, eqD_nl, eqD_ll, eqD_l0, eqD_lc, eqD_cl, eqD_tt, eqD_t0, eqD_tc, eqD_ct, plain_i, plain_s, plain_b, plain_n, plain_l, plain_t, plainL_c, plainL_n, dep_sc, dep_l, dep_t, depL_c, depL_n, flatR_sc, slotAt_0, slotAt_s, e_var_eq, varQ_sh, varQ_ow, s_retv_eq, retQ_sh, retQ_ow, s_frz_eq, frzQ_sh, frzQ_ow, s_meth_eq, methQ_l, s_methset_eq, methsQ_l, s_setix_eq, setixQ_ow, e_lkd_eq, lkdQ_d, lkdQ_t, lkdQ_od, lkdQ_ot, s_lkd_eq, lkS_d, lkS_t, i_items_eq, itmS_d, i_keys_eq, keyS_d, keyS_t, i_vals_eq, valS_d, stepQ_l, isLst_l, strD_s, joinQ_l, strQ_i, strQ_s, dictQ_l, sortedLQ_l, setQ_l, setQ_d, setQ_t, appendQ_1, List.length_set, C__law_free_names]
  refine if_bl ⟨fun _ xs h1 h2 => q xs h1 h2, fun _ => ⟨.inr (by decide), by omega, ?_⟩⟩
  generalize hN : (n % 1000000000000000 + 7) * 48271 % 2147483647 = N
  have hN0 : 0 ≤ N ∧ N < 2147483647 := by omega
  clear hN
  refine comp_all (fun d y => ∃ x : Str, y = .sc (.str x) ∧ x.length = 1 ∧ consB x = true) (by rw [rangeD_length]; omega) (fun ys hy hp => ?_) fun d m K hK => ?_
  · obtain ⟨zs, ez, hz⟩ := strs_ext (P := fun x => x.length = 1 ∧ consB x = true) (ys := ys) fun j y e => by
      have hj : j < (rangeD 0 1 (N % 11).toNat).length := by
        have := (List.getElem?_eq_some_iff.mp e).1
        omega
      exact hp j _ y (List.getElem?_eq_getElem hj) e
    subst ez
    rw [List.length_map, rangeD_length] at hy
    obtain ⟨j1, j2⟩ := join_empty zs hz
    have j3 := sum_le (xs := zs) (n := 1) fun x m => by have := (hz x m).1; omega
    have j4 : (Str.ofString "").length = 0 := by decide +kernel
    refine ⟨zs, strs_map zs, by rw [j4]; omega, ?_⟩
    generalize hst : Str.join (Str.ofString "") zs = stem at j1 j2
    simp only [s_seq, s_nil, s_if, s_ret, s_retN, s_set, s_for, s_while, i_seq, i_ps, e_c, e_k, e_op, e_cb, e_call, e_and, e_or, e_not, e_chain, e_neg, e_tup, e_lst, e_sl, e_rev, e_dnew, e_dnewT, e_get2, o_none, o_some, t_of, t_op, t_and, t_or, t_not, t_chain, t_yes, a_nil, a_cons, brs, tyOks, isTy, subQ, fdivQ, modQ, powQ, eqQ, neQ, sizeL, enumAQ_l, enumAQ_t, str_one, str_app, startE, wipeE, e_lc, e_step, e_sm1, e_sm0, osOf, En.frz, P.frz, g_name, s_expr, s_asg, s_pass, s_break, s_cont, List.getElem?_cons_zero, List.getElem?_cons_succ, List.getElem?_nil, List.set_cons_zero, List.set_cons_succ, List.map_cons, List.map_nil, List.replicate_zero, List.replicate_succ, List.cons_append, List.nil_append, List.append_nil, List.length_cons, List.length_nil, List.any_cons, List.any_nil, Bool.not_true, Bool.not_false, Bool.false_or, Bool.or_false, Bool.true_or, Bool.or_true, Bool.and_true, Bool.true_and, Bool.false_and, Bool.and_false, if_true, if_false, ite_true, ite_false, Bool.false_eq_true, reduceIte, Nat.reduceAdd, Nat.reduceSub, Nat.zero_add, Nat.add_zero, true_and, and_true, Option.some.injEq, D.sc.injEq, V.bl.injEq, V.int.injEq, V.str.injEq, exists_eq_left', exists_eq_left, Bool.or_self, forall_const, imp_self, decide_eq_true_eq, Bool.not_eq_true', decide_eq_false_iff_not, Bool.not_eq_false, Decidable.not_not, implies_true, not_true_eq_false, not_false_eq_true, reduceCtorEq, false_imp, ne_eq, String.reduceBEq, Int.reducePow, Int.reduceToNat, Int.reduceLT, Int.reduceLE, Nat.reduceLeDiff, Nat.reduceLT, Nat.reduceMul, Int.reduceMul, Int.reduceAdd, Int.reduceSub, Int.reduceNeg, Nat.reducePow, or_true, true_or, List.length_map, List.isEmpty_cons, List.isEmpty_nil, addQ_i, addQ_s, addQ_l, addQ_t, iQ_i, mulQ_i, cmpQ_i, cmpQ_s, isQ_n, isQ_b, isNon_b, isNon_i, isNon_s, isNon_l, isNon_t, isNon_n, isNon_d, inQ_l, inQ_t, inQ_k, inQ_s, inQ_d, inQ_dt, ixQ_l, ixQ_t, ixQ_k, ixQ_s, ixQ_d, ixQ_dt, getQ_d, getQ_dt, key_i, key_s, slQ_l, slQ_t, slQ_s, optQ_i, revQ_l, negQ_i, truth_b, truth_i, truth_n, truth_s, truth_l, truth_t, blQ_b, bindS_st, bindS_ow, isBr_st, isBr_ow, isBr_br, itemsQ_l, itemsQ_t, itemsQ_s, g_tup_t, g_cons_c, g_nil_n, lenQ_l, lenQ_t, lenQ_s, lenQ_d, isiQ_t, ty_i, ty_s, ty_b, ty_n, ty_l, ty_t, ty_d, intQ_i, intQ_b, absQ_i, mmQ_i, listQ_l, listQ_t, listQ_k, tupleQ_l, tupleQ_t, sumQ_l, allQ_l, r1Q_i, r2Q_i, bne_false_S, bne_true_S, eqD_i, eqD_s, eqD_b, eqD_nn, eqD_ni, eqD_in, eqD_is, eqD_si, eqD_ln, eqD_nl, eqD_ll, eqD_l0, eqD_lc, eqD_cl, eqD_tt, eqD_t0, eqD_tc, eqD_ct, plain_i, plain_s, plain_b, plain_n, plain_l, plain_t, plainL_c, plainL_n, dep_sc, dep_l, dep_t, depL_c, depL_n, flatR_sc, slotAt_0, slotAt_s, e_var_eq, varQ_sh, varQ_ow, s_retv_eq, retQ_sh, retQ_ow, s_frz_eq, frzQ_sh, frzQ_ow, s_meth_eq, methQ_l, s_methset_eq, methsQ_l, s_setix_eq, setixQ_ow, e_lkd_eq, lkdQ_d, lkdQ_t, lkdQ_od, lkdQ_ot, s_lkd_eq, lkS_d, lkS_t, i_items_eq, itmS_d, i_keys_eq, keyS_d, keyS_t, i_vals_eq, valS_d, stepQ_l, isLst_l, strD_s, joinQ_l, strQ_i, strQ_s, dictQ_l, sortedLQ_l, setQ_l, setQ_d, setQ_t, appendQ_1, List.length_set]
    (repeat (with_reducible apply And.intro; · first | assumption | omega | decide | (left; omega) | (right; omega) | (left; decide) | (right; decide)))
    generalize hat : N / 276 % (N % 11 + 1) = at_
    have hat2 : 0 ≤ at_ ∧ at_ ≤ N % 11 := by
      have h1 := Int.emod_nonneg (N / 276) (show (N % 11 + 1) ≠ 0 by omega)
      have h2 := Int.emod_lt_of_pos (N / 276) (show 0 < N % 11 + 1 by omega)
      omega
    obtain ⟨ak, rfl⟩ : ∃ k : Nat, at_ = (k : Int) := ⟨at_.toNat, by omega⟩
    have hlen := cut_two stem ak (by omega)
    refine rng_loop (fun j env => ∃ (xs : List Str) (k a : Sl), env = [.sh (.sc (.int n)), .sh (.sc (.str "bcdefghjklmnpqrstuvwxyz")), .sh (.sc (.int N)), .sh (.sc (.int (N % 11))), k, .sh (.sc (.str stem)), .sh (.sc (.int (ak : Int))), .ow (strsD xs), a, .no, .no] ∧ xs.length = j ∧ ∀ x ∈ xs, x.length = stem.length + 1 ∧ consB x = true) ⟨[], .no, .no, rfl, rfl, fun _ z => nomatch z⟩ ?_ ?_
    · rintro env ⟨xs, k, a, rfl, hl, hx⟩
      simp only [s_seq, s_nil, s_if, s_ret, s_retN, s_set, s_for, s_while, i_seq, i_ps, e_c, e_k, e_op, e_cb, e_call, e_and, e_or, e_not, e_chain, e_neg, e_tup, e_lst, e_sl, e_rev, e_dnew, e_dnewT, e_get2, o_none, o_some, t_of, t_op, t_and, t_or, t_not, t_chain, t_yes, a_nil, a_cons, brs, tyOks, isTy, subQ, fdivQ, modQ, powQ, eqQ, neQ, sizeL, enumAQ_l, enumAQ_t, str_one, str_app, startE, wipeE, e_lc, e_step, e_sm1, e_sm0, osOf, En.frz, P.frz, g_name, s_expr, s_asg, s_pass, s_break, s_cont, List.getElem?_cons_zero, List.getElem?_cons_succ, List.getElem?_nil, List.set_cons_zero, List.set_cons_succ, List.map_cons, List.map_nil, List.replicate_zero, List.replicate_succ, List.cons_append, List.nil_append, List.append_nil, List.length_cons, List.length_nil, List.any_cons, List.any_nil, Bool.not_true, Bool.not_false, Bool.false_or, Bool.or_false, Bool.true_or, Bool.or_true, Bool.and_true, Bool.true_and, Bool.false_and, Bool.and_false, if_true, if_false, ite_true, ite_false, Bool.false_eq_true, reduceIte, Nat.reduceAdd, Nat.reduceSub, Nat.zero_add, Nat.add_zero, true_and, and_true, Option.some.injEq, D.sc.injEq, V.bl.injEq, V.int.injEq, V.str.injEq, exists_eq_left', exists_eq_left, Bool.or_self, forall_const, imp_self, decide_eq_true_eq, Bool.not_eq_true', decide_eq_false_iff_not, Bool.not_eq_false, Decidable.not_not, implies_true, not_true_eq_false, not_false_eq_true, reduceCtorEq, false_imp, ne_eq, String.reduceBEq, Int.reducePow, Int.reduceToNat, Int.reduceLT, Int.reduceLE, Nat.reduceLeDiff, Nat.reduceLT, Nat.reduceMul, Int.reduceMul, Int.reduceAdd, Int.reduceSub, Int.reduceNeg, Nat.reducePow, or_true, true_or, List.length_map, List.isEmpty_cons, List.isEmpty_nil, addQ_i, addQ_s, addQ_l, addQ_t, iQ_i, mulQ_i, cmpQ_i, cmpQ_s, isQ_n, isQ_b, isNon_b, isNon_i, isNon_s, isNon_l, isNon_t, isNon_n, isNon_d, inQ_l, inQ_t, inQ_k, inQ_s, inQ_d, inQ_dt, ixQ_l, ixQ_t, ixQ_k, ixQ_s, ixQ_d, ixQ_dt, getQ_d, getQ_dt, key_i, key_s, slQ_l, slQ_t, slQ_s, optQ_i, revQ_l, negQ_i, truth_b, truth_i, truth_n, truth_s, truth_l, truth_t, blQ_b, bindS_st, bindS_ow, isBr_st, isBr_ow, isBr_br, itemsQ_l, itemsQ_t, itemsQ_s, g_tup_t, g_cons_c, g_nil_n, lenQ_l, lenQ_t, lenQ_s, lenQ_d, isiQ_t, ty_i, ty_s, ty_b, ty_n, ty_l, ty_t, ty_d, intQ_i, intQ_b, absQ_i, mmQ_i, listQ_l, listQ_t, listQ_k, tupleQ_l, tupleQ_t, sumQ_l, allQ_l, r1Q_i, r2Q_i, bne_false_S, bne_true_S, eqD_i, eqD_s, eqD_b, eqD_nn, eqD_ni, eqD_in, eqD_is, eqD_si, eqD_ln, eqD_nl, eqD_ll, eqD_l0, eqD_lc, eqD_cl, eqD_tt, eqD_t0, eqD_tc, eqD_ct, plain_i, plain_s, plain_b, plain_n, plain_l, plain_t, plainL_c, plainL_n, dep_sc, dep_l, dep_t, depL_c, depL_n, flatR_sc, slotAt_0, slotAt_s, e_var_eq, varQ_sh, varQ_ow, s_retv_eq, retQ_sh, retQ_ow, s_frz_eq, frzQ_sh, frzQ_ow, s_meth_eq, methQ_l, s_methset_eq, methsQ_l, s_setix_eq, setixQ_ow, e_lkd_eq, lkdQ_d, lkdQ_t, lkdQ_od, lkdQ_ot, s_lkd_eq, lkS_d, lkS_t, i_items_eq, itmS_d, i_keys_eq, keyS_d, keyS_t, i_vals_eq, valS_d, stepQ_l, isLst_l, strD_s, joinQ_l, strQ_i, strQ_s, dictQ_l, sortedLQ_l, setQ_l, setQ_d, setQ_t, appendQ_1, List.length_set, strsD, cl]
      refine ⟨by decide, atI_str (by omega) (by rw [cl]; omega) fun z mz => ?_⟩
      refine comp_all (fun d y => ∃ x : Str, y = .sc (.str x) ∧ nameB x = true) (by simp; omega) (fun ys hy hp => ?_) fun d m K hK => ?_
      · obtain ⟨ws, ew, hw⟩ := strs_ext (P := fun x => nameB x = true) (ys := ys) fun j y e => by
          have hj : j < (xs.map fun x => D.sc (V.str x)).length := by
            have := (List.getElem?_eq_some_iff.mp e).1
            omega
          exact hp j _ y (List.getElem?_eq_getElem hj) e
        subst ew
        rw [List.length_map, List.length_map] at hy
        simp only [s_seq, s_nil, s_if, s_ret, s_retN, s_set, s_for, s_while, i_seq, i_ps, e_c, e_k, e_op, e_cb, e_call, e_and, e_or, e_not, e_chain, e_neg, e_tup, e_lst, e_sl, e_rev, e_dnew, e_dnewT, e_get2, o_none, o_some, t_of, t_op, t_and, t_or, t_not, t_chain, t_yes, a_nil, a_cons, brs, tyOks, isTy, subQ, fdivQ, modQ, powQ, eqQ, neQ, sizeL, enumAQ_l, enumAQ_t, str_one, str_app, startE, wipeE, e_lc, e_step, e_sm1, e_sm0, osOf, En.frz, P.frz, g_name, s_expr, s_asg, s_pass, s_break, s_cont, List.getElem?_cons_zero, List.getElem?_cons_succ, List.getElem?_nil, List.set_cons_zero, List.set_cons_succ, List.map_cons, List.map_nil, List.replicate_zero, List.replicate_succ, List.cons_append, List.nil_append, List.append_nil, List.length_cons, List.length_nil, List.any_cons, List.any_nil, Bool.not_true, Bool.not_false, Bool.false_or, Bool.or_false, Bool.true_or, Bool.or_true, Bool.and_true, Bool.true_and, Bool.false_and, Bool.and_false, if_true, if_false, ite_true, ite_false, Bool.false_eq_true, reduceIte, Nat.reduceAdd, Nat.reduceSub, Nat.zero_add, Nat.add_zero, true_and, and_true, Option.some.injEq, D.sc.injEq, V.bl.injEq, V.int.injEq, V.str.injEq, exists_eq_left', exists_eq_left, Bool.or_self, forall_const, imp_self, decide_eq_true_eq, Bool.not_eq_true', decide_eq_false_iff_not, Bool.not_eq_false, Decidable.not_not, implies_true, not_true_eq_false, not_false_eq_true, reduceCtorEq, false_imp, ne_eq, String.reduceBEq, Int.reducePow, Int.reduceToNat, Int.reduceLT, Int.reduceLE, Nat.reduceLeDiff, Nat.reduceLT, Nat.reduceMul, Int.reduceMul, Int.reduceAdd, Int.reduceSub, Int.reduceNeg, Nat.reducePow, or_true, true_or, List.length_map, List.isEmpty_cons, List.isEmpty_nil, addQ_i, addQ_s, addQ_l, addQ_t, iQ_i, mulQ_i, cmpQ_i, cmpQ_s, isQ_n, isQ_b, isNon_b, isNon_i, isNon_s, isNon_l, isNon_t, isNon_n, isNon_d, inQ_l, inQ_t, inQ_k, inQ_s, inQ_d, inQ_dt, ixQ_l, ixQ_t, ixQ_k, ixQ_s, ixQ_d, ixQ_dt, getQ_d, getQ_dt, key_i, key_s, slQ_l, slQ_t, slQ_s, optQ_i, revQ_l, negQ_i, truth_b, truth_i, truth_n, truth_s, truth_l, truth_t, blQ_b, bindS_st, bindS_ow, isBr_st, isBr_ow, isBr_br, itemsQ_l, itemsQ_t, itemsQ_s, g_tup_t, g_cons_c, g_nil_n, lenQ_l, lenQ_t, lenQ_s, lenQ_d, isiQ_t, ty_i, ty_s, ty_b, ty_n, ty_l, ty_t, ty_d, intQ_i, intQ_b, absQ_i, mmQ_i, listQ_l, listQ_t, listQ_k, tupleQ_l, tupleQ_t, sumQ_l, allQ_l, r1Q_i, r2Q_i, bne_false_S, bne_true_S, eqD_i, eqD_s, eqD_b, eqD_nn, eqD_ni, eqD_in, eqD_is, eqD_si, eqD_ln, eqD_nl, eqD_ll, eqD_l0, eqD_lc, eqD_cl, eqD_tt, eqD_t0, eqD_tc, eqD_ct, plain_i, plain_s, plain_b, plain_n, plain_l, plain_t, plainL_c, plainL_n, dep_sc, dep_l, dep_t, depL_c, depL_n, flatR_sc, slotAt_0, slotAt_s, e_var_eq, varQ_sh, varQ_ow, s_retv_eq, retQ_sh, retQ_ow, s_frz_eq, frzQ_sh, frzQ_ow, s_meth_eq, methQ_l, s_methset_eq, methsQ_l, s_setix_eq, setixQ_ow, e_lkd_eq, lkdQ_d, lkdQ_t, lkdQ_od, lkdQ_ot, s_lkd_eq, lkS_d, lkS_t, i_items_eq, itmS_d, i_keys_eq, keyS_d, keyS_t, i_vals_eq, valS_d, stepQ_l, isLst_l, strD_s, joinQ_l, strQ_i, strQ_s, dictQ_l, sortedLQ_l, setQ_l, setQ_d, setQ_t, appendQ_1, List.length_set]
        refine ⟨by omega, ?_⟩
        rw [← List.map_append]
        refine q (xs ++ ws) (by rw [List.length_append]; omega) fun x m => ?_
        rcases List.mem_append.mp m with m | m
        · obtain ⟨h1, h2⟩ := hx x m
          exact nameB_cons (by omega) h2
        · exact hw x m
      · obtain ⟨x, mx, rfl⟩ := List.mem_map.mp m
        obtain ⟨h1, h2⟩ := hx x mx
        simp only [s_seq, s_nil, s_if, s_ret, s_retN, s_set, s_for, s_while, i_seq, i_ps, e_c, e_k, e_op, e_cb, e_call, e_and, e_or, e_not, e_chain, e_neg, e_tup, e_lst, e_sl, e_rev, e_dnew, e_dnewT, e_get2, o_none, o_some, t_of, t_op, t_and, t_or, t_not, t_chain, t_yes, a_nil, a_cons, brs, tyOks, isTy, subQ, fdivQ, modQ, powQ, eqQ, neQ, sizeL, enumAQ_l, enumAQ_t, str_one, str_app, startE, wipeE, e_lc, e_step, e_sm1, e_sm0, osOf, En.frz, P.frz, g_name, s_expr, s_asg, s_pass, s_break, s_cont, List.getElem?_cons_zero, List.getElem?_cons_succ, List.getElem?_nil, List.set_cons_zero, List.set_cons_succ, List.map_cons, List.map_nil, List.replicate_zero, List.replicate_succ, List.cons_append, List.nil_append, List.append_nil, List.length_cons, List.length_nil, List.any_cons, List.any_nil, Bool.not_true, Bool.not_false, Bool.false_or, Bool.or_false, Bool.true_or, Bool.or_true, Bool.and_true, Bool.true_and, Bool.false_and, Bool.and_false, if_true, if_false, ite_true, ite_false, Bool.false_eq_true, reduceIte, Nat.reduceAdd, Nat.reduceSub, Nat.zero_add, Nat.add_zero, true_and, and_true, Option.some.injEq, D.sc.injEq, V.bl.injEq, V.int.injEq, V.str.injEq, exists_eq_left', exists_eq_left, Bool.or_self, forall_const, imp_self, decide_eq_true_eq, Bool.not_eq_true', decide_eq_false_iff_not, Bool.not_eq_false, Decidable.not_not, implies_true, not_true_eq_false, not_false_eq_true, reduceCtorEq, false_imp, ne_eq, String.reduceBEq, Int.reducePow, Int.reduceToNat, Int.reduceLT, Int.reduceLE, Nat.reduceLeDiff, Nat.reduceLT, Nat.reduceMul, Int.reduceMul, Int.reduceAdd, Int.reduceSub, Int.reduceNeg, Nat.reducePow, or_true, true_or, List.length_map, List.isEmpty_cons, List.isEmpty_nil, addQ_i, addQ_s, addQ_l, addQ_t, iQ_i, mulQ_i, cmpQ_i, cmpQ_s, isQ_n, isQ_b, isNon_b, isNon_i, isNon_s, isNon_l, isNon_t, isNon_n, isNon_d, inQ_l, inQ_t, inQ_k, inQ_s, inQ_d, inQ_dt, ixQ_l, ixQ_t, ixQ_k, ixQ_s, ixQ_d, ixQ_dt, getQ_d, getQ_dt, key_i, key_s, slQ_l, slQ_t, slQ_s, optQ_i, revQ_l, negQ_i, truth_b, truth_i, truth_n, truth_s, truth_l, truth_t, blQ_b, bindS_st, bindS_ow, isBr_st, isBr_ow, isBr_br, itemsQ_l, itemsQ_t, itemsQ_s, g_tup_t, g_cons_c, g_nil_n, lenQ_l, lenQ_t, lenQ_s, lenQ_d, isiQ_t, ty_i, ty_s, ty_b, ty_n, ty_l, ty_t, ty_d, intQ_i, intQ_b, absQ_i, mmQ_i, listQ_l, listQ_t, listQ_k, tupleQ_l, tupleQ_t, sumQ_l, allQ_l, r1Q_i, r2Q_i, bne_false_S, bne_true_S, eqD_i, eqD_s, eqD_b, eqD_nn, eqD_ni, eqD_in, eqD_is, eqD_si, eqD_ln, eqD_nl, eqD_ll, eqD_l0, eqD_lc, eqD_cl, eqD_tt, eqD_t0, eqD_tc, eqD_ct, plain_i, plain_s, plain_b, plain_n, plain_l, plain_t, plainL_c, plainL_n, dep_sc, dep_l, dep_t, depL_c, depL_n, flatR_sc, slotAt_0, slotAt_s, e_var_eq, varQ_sh, varQ_ow, s_retv_eq, retQ_sh, retQ_ow, s_frz_eq, frzQ_sh, frzQ_ow, s_meth_eq, methQ_l, s_methset_eq, methsQ_l, s_setix_eq, setixQ_ow, e_lkd_eq, lkdQ_d, lkdQ_t, lkdQ_od, lkdQ_ot, s_lkd_eq, lkS_d, lkS_t, i_items_eq, itmS_d, i_keys_eq, keyS_d, keyS_t, i_vals_eq, valS_d, stepQ_l, isLst_l, strD_s, joinQ_l, strQ_i, strQ_s, dictQ_l, sortedLQ_l, setQ_l, setQ_d, setQ_t, appendQ_1, List.length_set]
        refine ⟨by omega, hK _ _ rfl ⟨_, rfl, nameB_cons (by rw [str_app, str_one]; omega) (by rw [cons_app, h2, con_ok mz]; rfl)⟩⟩
    · rintro j hj env ⟨xs, k, a, rfl, hl, hx⟩ K hK
      simp only [s_seq, s_nil, s_if, s_ret, s_retN, s_set, s_for, s_while, i_seq, i_ps, e_c, e_k, e_op, e_cb, e_call, e_and, e_or, e_not, e_chain, e_neg, e_tup, e_lst, e_sl, e_rev, e_dnew, e_dnewT, e_get2, o_none, o_some, t_of, t_op, t_and, t_or, t_not, t_chain, t_yes, a_nil, a_cons, brs, tyOks, isTy, subQ, fdivQ, modQ, powQ, eqQ, neQ, sizeL, enumAQ_l, enumAQ_t, str_one, str_app, startE, wipeE, e_lc, e_step, e_sm1, e_sm0, osOf, En.frz, P.frz, g_name, s_expr, s_asg, s_pass, s_break, s_cont, List.getElem?_cons_zero, List.getElem?_cons_succ, List.getElem?_nil, List.set_cons_zero, List.set_cons_succ, List.map_cons, List.map_nil, List.replicate_zero, List.replicate_succ, List.cons_append, List.nil_append, List.append_nil, List.length_cons, List.length_nil, List.any_cons, List.any_nil, Bool.not_true, Bool.not_false, Bool.false_or, Bool.or_false, Bool.true_or, Bool.or_true, Bool.and_true, Bool.true_and, Bool.false_and, Bool.and_false, if_true, if_false, ite_true, ite_false, Bool.false_eq_true, reduceIte, Nat.reduceAdd, Nat.reduceSub, Nat.zero_add, Nat.add_zero, true_and, and_true, Option.some.injEq, D.sc.injEq, V.bl.injEq, V.int.injEq, V.str.injEq, exists_eq_left', exists_eq_left, Bool.or_self, forall_const, imp_self, decide_eq_true_eq, Bool.not_eq_true', decide_eq_false_iff_not, Bool.not_eq_false, Decidable.not_not, implies_true, not_true_eq_false, not_false_eq_true, reduceCtorEq, false_imp, ne_eq, String.reduceBEq, Int.reducePow, Int.reduceToNat, Int.reduceLT, Int.reduceLE, Nat.reduceLeDiff, Nat.reduceLT, Nat.reduceMul, Int.reduceMul, Int.reduceAdd, Int.reduceSub, Int.reduceNeg, Nat.reducePow, or_true, true_or, List.length_map, List.isEmpty_cons, List.isEmpty_nil, addQ_i, addQ_s, addQ_l, addQ_t, iQ_i, mulQ_i, cmpQ_i, cmpQ_s, isQ_n, isQ_b, isNon_b, isNon_i, isNon_s, isNon_l, isNon_t, isNon_n, isNon_d, inQ_l, inQ_t, inQ_k, inQ_s, inQ_d, inQ_dt, ixQ_l, ixQ_t, ixQ_k, ixQ_s, ixQ_d, ixQ_dt, getQ_d, getQ_dt, key_i, key_s, slQ_l, slQ_t, slQ_s, optQ_i, revQ_l, negQ_i, truth_b, truth_i, truth_n, truth_s, truth_l, truth_t, blQ_b, bindS_st, bindS_ow, isBr_st, isBr_ow, isBr_br, itemsQ_l, itemsQ_t, itemsQ_s, g_tup_t, g_cons_c, g_nil_n, lenQ_l, lenQ_t, lenQ_s, lenQ_d, isiQ_t, ty_i, ty_s, ty_b, ty_n, ty_l, ty_t, ty_d, intQ_i, intQ_b, absQ_i, mmQ_i, listQ_l, listQ_t, listQ_k, tupleQ_l, tupleQ_t, sumQ_l, allQ_l, r1Q_i, r2Q_i, bne_false_S, bne_true_S, eqD_i, eqD_s, eqD_b, eqD_nn, eqD_ni, eqD_in, eqD_is, eqD_si, eqD_ln, eqD_nl, eqD_ll, eqD_l0, eqD_lc, eqD_cl, eqD_tt, eqD_t0, eqD_tc, eqD_ct, plain_i, plain_s, plain_b, plain_n, plain_l, plain_t, plainL_c, plainL_n, dep_sc, dep_l, dep_t, depL_c, depL_n, flatR_sc, slotAt_0, slotAt_s, e_var_eq, varQ_sh, varQ_ow, s_retv_eq, retQ_sh, retQ_ow, s_frz_eq, frzQ_sh, frzQ_ow, s_meth_eq, methQ_l, s_methset_eq, methsQ_l, s_setix_eq, setixQ_ow, e_lkd_eq, lkdQ_d, lkdQ_t, lkdQ_od, lkdQ_ot, s_lkd_eq, lkS_d, lkS_t, i_items_eq, itmS_d, i_keys_eq, keyS_d, keyS_t, i_vals_eq, valS_d, stepQ_l, isLst_l, strD_s, joinQ_l, strQ_i, strQ_s, dictQ_l, sortedLQ_l, setQ_l, setQ_d, setQ_t, appendQ_1, List.length_set, strsD, cl]
      refine ⟨.inl (by decide), by decide, atI_str (by omega) (by rw [cl]; omega) fun z mz => ?_⟩
      have l1 := cutS_le stem none (some (ak : Int))
      have l2 := cutS_le stem (some (ak : Int)) none
      refine ⟨by omega, by omega, by omega, by omega, by omega, hK _ ⟨xs ++ [_], _, _, by rw [strsD, List.map_append]; rfl, by simp [hl], fun x m => ?_⟩⟩
      rcases List.mem_append.mp m with m | m
      · exact hx x m
      · rw [List.mem_singleton.mp m]
        rw [str_app, str_app, str_one, cons_app, cons_app, con_ok mz, cons_cut j2, cons_cut j2]
        exact ⟨by omega, rfl⟩
  · obtain ⟨j, hj, rfl⟩ := rangeD_mem m
    simp only [s_seq, s_nil, s_if, s_ret, s_retN, s_set, s_for, s_while, i_seq, i_ps, e_c, e_k, e_op, e_cb, e_call, e_and, e_or, e_not, e_chain, e_neg, e_tup, e_lst, e_sl, e_rev, e_dnew, e_dnewT, e_get2, o_none, o_some, t_of, t_op, t_and, t_or, t_not, t_chain, t_yes, a_nil, a_cons, brs, tyOks, isTy, subQ, fdivQ, modQ, powQ, eqQ, neQ, sizeL, enumAQ_l, enumAQ_t, str_one, str_app, startE, wipeE, e_lc, e_step, e_sm1, e_sm0, osOf, En.frz, P.frz, g_name, s_expr, s_asg, s_pass, s_break, s_cont, List.getElem?_cons_zero, List.getElem?_cons_succ, List.getElem?_nil, List.set_cons_zero, List.set_cons_succ, List.map_cons, List.map_nil, List.replicate_zero, List.replicate_succ, List.cons_append, List.nil_append, List.append_nil, List.length_cons, List.length_nil, List.any_cons, List.any_nil, Bool.not_true, Bool.not_false, Bool.false_or, Bool.or_false, Bool.true_or, Bool.or_true, Bool.and_true, Bool.true_and, Bool.false_and, Bool.and_false, if_true, if_false, ite_true, ite_false, Bool.false_eq_true, reduceIte, Nat.reduceAdd, Nat.reduceSub, Nat.zero_add, Nat.add_zero, true_and, and_true, Option.some.injEq, D.sc.injEq, V.bl.injEq, V.int.injEq, V.str.injEq, exists_eq_left', exists_eq_left, Bool.or_self, forall_const, imp_self, decide_eq_true_eq, Bool.not_eq_true', decide_eq_false_iff_not, Bool.not_eq_false, Decidable.not_not, implies_true, not_true_eq_false, not_false_eq_true, reduceCtorEq, false_imp, ne_eq, String.reduceBEq, Int.reducePow, Int.reduceToNat, Int.reduceLT, Int.reduceLE, Nat.reduceLeDiff, Nat.reduceLT, Nat.reduceMul, Int.reduceMul, Int.reduceAdd, Int.reduceSub, Int.reduceNeg, Nat.reducePow, or_true, true_or, List.length_map, List.isEmpty_cons, List.isEmpty_nil, addQ_i, addQ_s, addQ_l, addQ_t, iQ_i, mulQ_i, cmpQ_i, cmpQ_s, isQ_n, isQ_b, isNon_b, isNon_i, isNon_s, isNon_l, isNon_t, isNon_n, isNon_d, inQ_l, inQ_t, inQ_k, inQ_s, inQ_d, inQ_dt, ixQ_l, ixQ_t, ixQ_k, ixQ_s, ixQ_d, ixQ_dt, getQ_d, getQ_dt, key_i, key_s, slQ_l, slQ_t, slQ_s, optQ_i, revQ_l, negQ_i, truth_b, truth_i, truth_n, truth_s, truth_l, truth_t, blQ_b, bindS_st, bindS_ow, isBr_st, isBr_ow, isBr_br, itemsQ_l, itemsQ_t, itemsQ_s, g_tup_t, g_cons_c, g_nil_n, lenQ_l, lenQ_t, lenQ_s, lenQ_d, isiQ_t, ty_i, ty_s, ty_b, ty_n, ty_l, ty_t, ty_d, intQ_i, intQ_b, absQ_i, mmQ_i, listQ_l, listQ_t, listQ_k, tupleQ_l, tupleQ_t, sumQ_l, allQ_l, r1Q_i, r2Q_i, bne_false_S, bne_true_S, eqD_i, eqD_s, eqD_b, eqD_nn, eqD_ni, eqD_in, eqD_is, eqD_si, eqD_ln, eqD_nl, eqD_ll, eqD_l0, eqD_lc, eqD_cl, eqD_tt, eqD_t0, eqD_tc, eqD_ct, plain_i, plain_s, plain_b, plain_n, plain_l, plain_t, plainL_c, plainL_n, dep_sc, dep_l, dep_t, depL_c, depL_n, flatR_sc, slotAt_0, slotAt_s, e_var_eq, varQ_sh, varQ_ow, s_retv_eq, retQ_sh, retQ_ow, s_frz_eq, frzQ_sh, frzQ_ow, s_meth_eq, methQ_l, s_methset_eq, methsQ_l, s_setix_eq, setixQ_ow, e_lkd_eq, lkdQ_d, lkdQ_t, lkdQ_od, lkdQ_ot, s_lkd_eq, lkS_d, lkS_t, i_items_eq, itmS_d, i_keys_eq, keyS_d, keyS_t, i_vals_eq, valS_d, stepQ_l, isLst_l, strD_s, joinQ_l, strQ_i, strQ_s, dictQ_l, sortedLQ_l, setQ_l, setQ_d, setQ_t, appendQ_1, List.length_set]
    refine ⟨.inl (by decide), .inr (by omega), by decide, atI_str (by omega) (by rw [cl]; omega) fun z mz => hK _ _ rfl ⟨_, rfl, rfl, con_ok mz⟩⟩
def g__law_degree : Sx := s_seq (s_set 1 (e_op modQ (e_var 0) (e_c (.int 7)))) (s_seq (s_set 2 (e_op fdivQ (e_var 0) (e_c (.int 7)))) (s_seq (s_if (t_op (ltQ) (e_var 1) (e_c (.int 2))) (s_retv 1) (s_nil)) (s_seq (s_if (t_op (eqQ) (e_var 1) (e_c (.int 2))) (s_ret (e_op addQ (e_c (.int 2)) (e_op modQ (e_var 2) (e_c (.int 3))))) (s_nil)) (s_seq (s_if (t_op (eqQ) (e_var 1) (e_c (.int 3))) (s_ret (e_op subQ (e_op powQ (e_c (.int 10)) (e_c (.int 30))) (e_op modQ (e_var 2) (e_c (.int 3))))) (s_nil)) (s_ret (e_op modQ (e_var 2) (e_op addQ (e_op powQ (e_c (.int 10)) (e_c (.int 30))) (e_c (.int 1)))))))))
def C__law_degree : Ct := fun ds Q => match ds with
  | [.sc (.int n)] => 0 ≤ n ∧ ∀ m : Int, 0 ≤ m → m ≤ 1000000000000000000000000000000 → Q (.sc (.int m)) .st
  | _ => False
theorem pure__law_degree (ds : List D) (Q : D → Md → Prop) (h : C__law_degree ds Q) : g__law_degree (startE ["number", "kind", "more"] ds) (osOf Q) := by
  unfold C__law_degree at h
  split at h
  case h_2 => exact h.elim
  rename_i n
  obtain ⟨h0, q⟩ := h
  unfold g__law_degree
  simp only [s_seq, s_nil, s_if, s_ret, s_retN, s_set, s_for, s_while, i_seq, i_ps, e_c, e_k, e_op, e_cb, e_call, e_and, e_or, e_not, e_chain, e_neg, e_tup, e_lst, e_sl, e_rev, e_dnew, e_dnewT, e_get2, o_none, o_some, t_of, t_op, t_and, t_or, t_not, t_chain, t_yes, a_nil, a_cons, brs, tyOks, isTy, subQ, fdivQ, modQ, powQ, eqQ, neQ, sizeL, enumAQ_l, enumAQ_t, str_one, str_app, startE, wipeE, e_lc, e_step, e_sm1, e_sm0, osOf, En.frz, P.frz, g_name, s_expr, s_asg, s_pass, s_break, s_cont, List.getElem?_cons_zero, List.getElem?_cons_succ, List.getElem?_nil, List.set_cons_zero, List.set_cons_succ, List.map_cons, List.map_nil, List.replicate_zero, List.replicate_succ, List.cons_append, List.nil_append, List.append_nil, List.length_cons, List.length_nil, List.any_cons, List.any_nil, Bool.not_true, Bool.not_false, Bool.false_or, Bool.or_false, Bool.true_or, Bool.or_true, Bool.and_true, Bool.true_and, Bool.false_and, Bool.and_false, if_true, if_false, ite_true, ite_false, Bool.false_eq_true, reduceIte, Nat.reduceAdd, Nat.reduceSub, Nat.zero_add, Nat.add_zero, true_and, and_true, Option.some.injEq, D.sc.injEq, V.bl.injEq, V.int.injEq, V.str.injEq, exists_eq_left', exists_eq_left, Bool.or_self, forall_const, imp_self, decide_eq_true_eq, Bool.not_eq_true', decide_eq_false_iff_not, Bool.not_eq_false, Decidable.not_not, implies_true, not_true_eq_false, not_false_eq_true, reduceCtorEq, false_imp, ne_eq, String.reduceBEq, Int.reducePow, Int.reduceToNat, Int.reduceLT, Int.reduceLE, Nat.reduceLeDiff, Nat.reduceLT, Nat.reduceMul, Int.reduceMul, Int.reduceAdd, Int.reduceSub, Int.reduceNeg, Nat.reducePow, or_true, true_or, List.length_map, List.isEmpty_cons, List.isEmpty_nil, addQ_i, addQ_s, addQ_l, addQ_t, iQ_i, mulQ_i, cmpQ_i, cmpQ_s, isQ_n, isQ_b, isNon_b, isNon_i, isNon_s, isNon_l, isNon_t, isNon_n, isNon_d, inQ_l, inQ_t, inQ_k, inQ_s, inQ_d, inQ_dt, ixQ_l, ixQ_t, ixQ_k, ixQ_s, ixQ_d, ixQ_dt, getQ_d, getQ_dt, key_i, key_s, slQ_l, slQ_t, slQ_s, optQ_i, revQ_l, negQ_i, truth_b, truth_i, truth_n, truth_s, truth_l, truth_t, blQ_b, bindS_st, bindS_ow, isBr_st, isBr_ow, isBr_br, itemsQ_l, itemsQ_t, itemsQ_s, g_tup_t, g_cons_c, g_nil_n, lenQ_l, lenQ_t, lenQ_s, lenQ_d, isiQ_t, ty_i, ty_s, ty_b, ty_n, ty_l, ty_t, ty_d, intQ_i, intQ_b, absQ_i, mmQ_i, listQ_l, listQ_t, listQ_k, tupleQ_l, tupleQ_t, sumQ_l, allQ_l, r1Q_i, r2Q_i, bne_false_S, bne_true_S, eqD_i, eqD_s, eqD_b, eqD_nn, eqD_ni, eqD_in, eqD_is, eqD_si, eqD_ln, eqD_nl, eqD_ll, eqD_l0, eqD_lc, eqD_cl, eqD_tt, eqD_t0, eqD_tc, eqD_ct, plain_i, plain_s, plain_b, plain_n, plain_l, plain_t, plainL_c, plainL_n, dep_sc, dep_l, dep_t, depL_c, depL_n, flatR_sc, slotAt_0, slotAt_s, e_var_eq, varQ_sh, varQ_ow, s_retv_eq, retQ_sh, retQ_ow, s_frz_eq, frzQ_sh, frzQ_ow, s_meth_eq, methQ_l, s_methset_eq, methsQ_l, s_setix_eq, setixQ_ow, e_lkd_eq, lkdQ_d, lkdQ_t, lkdQ_od, lkdQ_ot, s_lkd_eq, lkS_d, lkS_t, i_items_eq, itmS_d, i_keys_eq, keyS_d, keyS_t, i_vals_eq, valS_d, stepQ_l, isLst_l, strD_s, joinQ_l, strQ_i, strQ_s, dictQ_l, sortedLQ_l, setQ_l, setQ_d, setQ_t, appendQ_1, List.length_set]
  exact if_bl ⟨fun _ => q _ (by omega) (by omega), fun _ => if_bl ⟨fun _ => q _ (by omega) (by omega), fun _ => if_bl ⟨fun _ => q _ (by omega) (by omega), fun _ => q _ (by omega) (by omega)⟩⟩⟩
abbrev Pr := Str × Int
def prD (p : Pr) : D := .tup [.sc (.str p.1), .sc (.int p.2)]
def packD (ps : List Pr) : D := .tup (ps.map prD)
def dicSI (ps : List Pr) : D := .dic (ps.map fun p => .inr p.1) (ps.map fun p => .sc (.int p.2))
def leP (p q : Pr) : Bool := leD (prD p) (prD q)
def sortP (ps : List Pr) : List Pr := ps.mergeSort leP
theorem pairs_SI (ps : List Pr) : pairsD (ps.map fun p => .inr p.1) (ps.map fun p => .sc (.int p.2)) = ps.map prD := by
  induction ps with
  | nil => rfl
  | cons p ps ih =>
    show D.tup [keyD (.inr p.1), .sc (.int p.2)] :: pairsD _ _ = prD p :: _
    rw [ih]
    rfl
theorem sortOk_P (ps : List Pr) : sortOk (ps.map prD) := by
  have e : (ps.map prD).map D.py = ps.map fun p => PyData.tuple [.str p.1, .int p.2] := by
    rw [List.map_map]; rfl
  refine ⟨?_, ?_, ?_, ?_⟩
  · rw [e]
    exact PySem.W.AllAlike.of fun b b' => rfl
  · rw [e]
    exact PySem.W.Sortable.tuples fun b => ⟨_, _, rfl⟩
  · clear e
    induction ps with
    | nil => rfl
    | cons p ps ih =>
      rw [List.map_cons, plainL_c, ih]
      rfl
  · clear e
    induction ps with
    | nil => decide
    | cons p ps ih =>
      rw [List.map_cons, depL_c]
      have : (prD p).dep = 1 := rfl
      omega
theorem sortP_map (ps : List Pr) : (ps.map prD).mergeSort leD = (sortP ps).map prD := (List.map_mergeSort (r := leP) (s := leD) (f := prD) (l := ps) (fun a _ b _ => rfl)).symm
theorem imm_prs (ps : List Pr) : D.imm.immL (ps.map prD) = true := by
  induction ps with
  | nil => rfl
  | cons p ps ih =>
    show ((prD p).imm && D.imm.immL (ps.map prD)) = true
    rw [ih]
    rfl
theorem flat_pack (ps : List Pr) (md : Md) : flatR (packD ps) md = true := by
  unfold flatR packD
  rw [show D.imm (.tup (ps.map prD)) = D.imm.immL (ps.map prD) by simp only [D.imm], imm_prs]
  rfl
def posP (ps : List Pr) : List Pr := ps.filter fun p => decide (0 < p.2)
def g__law_sorted : Sx := s_ret (e_cb (tupleQ) (a_cons (e_cb (sortedLQ) (a_cons (e_lkd 0 (e_lc (i_items 0) (g_tup 2 (g_cons (g_name 1) (g_cons (g_name 2) (g_nil)))) (t_op (gtQ) (e_var 2) (e_c (.int 0))) (e_tup (a_cons (e_var 1) (a_cons (e_var 2) (a_nil)))) [1, 2])) (a_nil))) (a_nil)))
def C__law_sorted : Ct := fun ds Q => ∃ ps : List Pr, ds = [dicSI ps] ∧ ps.length ≤ 1000000 ∧ Q (packD (sortP (posP ps))) .st
theorem pure__law_sorted (ds : List D) (Q : D → Md → Prop) (h : C__law_sorted ds Q) : g__law_sorted (startE ["degrees", "name", "number"] ds) (osOf Q) := by
  obtain ⟨ps, rfl, hl, q⟩ := h
  unfold g__law_sorted dicSI
  simp only [s_seq, s_nil, s_if, s_ret, s_retN, s_set, s_for, s_while, i_seq, i_ps, e_c, e_k, e_op, e_cb, e_call, e_and, e_or, e_not, e_chain, e_neg, e_tup, e_lst, e_sl, e_rev, e_dnew, e_dnewT, e_get2, o_none, o_some, t_of, t_op, t_and, t_or, t_not, t_chain, t_yes, a_nil, a_cons, brs, tyOks, isTy, subQ, fdivQ, modQ, powQ, eqQ, neQ, sizeL, enumAQ_l, enumAQ_t, str_one, str_app, startE, wipeE, e_lc, e_step, e_sm1, e_sm0, osOf, En.frz, P.frz, g_name, s_expr, s_asg, s_pass, s_break, s_cont, List.getElem?_cons_zero, List.getElem?_cons_succ, List.getElem?_nil, List.set_cons_zero, List.set_cons_succ, List.map_cons, List.map_nil, List.replicate_zero, List.replicate_succ, List.cons_append, List.nil_append, List.append_nil, List.length_cons, List.length_nil, List.any_cons, List.any_nil, Bool.not_true, Bool.not_false, Bool.false_or, Bool.or_false, Bool.true_or, Bool.or_true, Bool.and_true, Bool.true_and, Bool.false_and, Bool.and_false, if_true, if_false, ite_true, ite_false, Bool.false_eq_true, reduceIte, Nat.reduceAdd, Nat.reduceSub, Nat.zero_add, Nat.add_zero, true_and, and_true, Option.some.injEq, D.sc.injEq, V.bl.injEq, V.int.injEq, V.str.injEq, exists_eq_left', exists_eq_left, Bool.or_self, forall_const, imp_self, decide_eq_true_eq, Bool.not_eq_true', decide_eq_false_iff_not, Bool.not_eq_false, Decidable.not_not, implies_true, not_true_eq_false, not_false_eq_true, reduceCtorEq, false_imp, ne_eq, String.reduceBEq, Int.reducePow, Int.reduceToNat, Int.reduceLT, Int.reduceLE, Nat.reduceLeDiff, Nat.reduceLT, Nat.reduceMul, Int.reduceMul, Int.reduceAdd, Int.reduceSub, Int.reduceNeg, Nat.reducePow, or_true, true_or, List.length_map, List.isEmpty_cons, List.isEmpty_nil, addQ_i, addQ_s, addQ_l, addQ_t, iQ_i, mulQ_i, cmpQ_i, cmpQ_s, isQ_n, isQ_b, isNon_b, isNon_i, isNon_s, isNon_l, isNon_t, isNon_n, isNon_d, inQ_l, inQ_t, inQ_k, inQ_s, inQ_d, inQ_dt, ixQ_l, ixQ_t, ixQ_k, ixQ_s, ixQ_d, ixQ_dt, getQ_d, getQ_dt, key_i, key_s, slQ_l, slQ_t, slQ_s, optQ_i, revQ_l, negQ_i, truth_b, truth_i, truth_n, truth_s, truth_l, truth_t, blQ_b, bindS_st, bindS_ow, isBr_st, isBr_ow, isBr_br, itemsQ_l, itemsQ_t, itemsQ_s, g_tup_t, g_cons_c, g_nil_n, lenQ_l, lenQ_t, lenQ_s, lenQ_d, isiQ_t, ty_i, ty_s, ty_b, ty_n, ty_l, ty_t, ty_d, intQ_i, intQ_b, absQ_i, mmQ_i, listQ_l, listQ_t, listQ_k, tupleQ_l, tupleQ_t, sumQ_l, allQ_l, r1Q_i, r2Q_i, bne_false_S, bne_true_S, eqD_i, eqD_s, eqD_b, eqD_nn, eqD_ni, eqD_in, eqD_is, eqD_si, eqD_ln, eqD_nl, eqD_ll, eqD_l0, eqD_lc, eqD_cl, eqD_tt, eqD_t0, eqD_tc, eqD_ct, plain_i, plain_s, plain_b, plain_n, plain_l, plain_t, plainL_c, plainL_n, dep_sc, dep_l, dep_t, depL_c, depL_n, flatR_sc, slotAt_0, slotAt_s, e_var_eq, varQ_sh, varQ_ow, s_retv_eq, retQ_sh, retQ_ow, s_frz_eq, frzQ_sh, frzQ_ow, s_meth_eq, methQ_l, s_methset_eq, methsQ_l, s_setix_eq, setixQ_ow, e_lkd_eq, lkdQ_d, lkdQ_t, lkdQ_od, lkdQ_ot, s_lkd_eq, lkS_d, lkS_t, i_items_eq, itmS_d, i_keys_eq, keyS_d, keyS_t, i_vals_eq, valS_d, stepQ_l, isLst_l, strD_s, joinQ_l, strQ_i, strQ_s, dictQ_l, sortedLQ_l, setQ_l, setQ_d, setQ_t, appendQ_1, List.length_set, pairs_SI]
  refine comp_fm (fun d => match d with | .tup [_, .sc (.int n)] => decide (0 < n) | _ => false) id (by rw [List.length_map]; omega) ?_ fun d m K N h1 h2 => ?_
  · have e : (ps.map prD).filter (fun d => match d with | .tup [_, .sc (.int n)] => decide (0 < n) | _ => false) = (posP ps).map prD := by
      unfold posP
      rw [List.filter_map]
      rfl
    rw [List.map_id, e]
    simp only [s_seq, s_nil, s_if, s_ret, s_retN, s_set, s_for, s_while, i_seq, i_ps, e_c, e_k, e_op, e_cb, e_call, e_and, e_or, e_not, e_chain, e_neg, e_tup, e_lst, e_sl, e_rev, e_dnew, e_dnewT, e_get2, o_none, o_some, t_of, t_op, t_and, t_or, t_not, t_chain, t_yes, a_nil, a_cons, brs, tyOks, isTy, subQ, fdivQ, modQ, powQ, eqQ, neQ, sizeL, enumAQ_l, enumAQ_t, str_one, str_app, startE, wipeE, e_lc, e_step, e_sm1, e_sm0, osOf, En.frz, P.frz, g_name, s_expr, s_asg, s_pass, s_break, s_cont, List.getElem?_cons_zero, List.getElem?_cons_succ, List.getElem?_nil, List.set_cons_zero, List.set_cons_succ, List.map_cons, List.map_nil, List.replicate_zero, List.replicate_succ, List.cons_append, List.nil_append, List.append_nil, List.length_cons, List.length_nil, List.any_cons, List.any_nil, Bool.not_true, Bool.not_false, Bool.false_or, Bool.or_false, Bool.true_or, Bool.or_true, Bool.and_true, Bool.true_and, Bool.false_and, Bool.and_false, if_true, if_false, ite_true, ite_false, Bool.false_eq_true, reduceIte, Nat.reduceAdd, Nat.reduceSub, Nat.zero_add, Nat.add_zero, true_and, and_true, Option.some.injEq, D.sc.injEq, V.bl.injEq, V.int.injEq, V.str.injEq, exists_eq_left', exists_eq_left, Bool.or_self, forall_const, imp_self, decide_eq_true_eq, Bool.not_eq_true', decide_eq_false_iff_not, Bool.not_eq_false, Decidable.not_not, implies_true, not_true_eq_false, not_false_eq_true, reduceCtorEq, false_imp, ne_eq, String.reduceBEq, Int.reducePow, Int.reduceToNat, Int.reduceLT, Int.reduceLE, Nat.reduceLeDiff, Nat.reduceLT, Nat.reduceMul, Int.reduceMul, Int.reduceAdd, Int.reduceSub, Int.reduceNeg, Nat.reducePow, or_true, true_or, List.length_map, List.isEmpty_cons, List.isEmpty_nil, addQ_i, addQ_s, addQ_l, addQ_t, iQ_i, mulQ_i, cmpQ_i, cmpQ_s, isQ_n, isQ_b, isNon_b, isNon_i, isNon_s, isNon_l, isNon_t, isNon_n, isNon_d, inQ_l, inQ_t, inQ_k, inQ_s, inQ_d, inQ_dt, ixQ_l, ixQ_t, ixQ_k, ixQ_s, ixQ_d, ixQ_dt, getQ_d, getQ_dt, key_i, key_s, slQ_l, slQ_t, slQ_s, optQ_i, revQ_l, negQ_i, truth_b, truth_i, truth_n, truth_s, truth_l, truth_t, blQ_b, bindS_st, bindS_ow, isBr_st, isBr_ow, isBr_br, itemsQ_l, itemsQ_t, itemsQ_s, g_tup_t, g_cons_c, g_nil_n, lenQ_l, lenQ_t, lenQ_s, lenQ_d, isiQ_t, ty_i, ty_s, ty_b, ty_n, ty_l, ty_t, ty_d, intQ_i, intQ_b, absQ_i, mmQ_i, listQ_l, listQ_t, listQ_k, tupleQ_l, tupleQ_t, sumQ_l, allQ_l, r1Q_i, r2Q_i, bne_false_S, bne_true_S, eqD_i, eqD_s, eqD_b, eqD_nn, eqD_ni, eqD_in, eqD_is, eqD_si, eqD_ln, eqD_nl, eqD_ll, eqD_l0, eqD_lc, eqD_cl, eqD_tt, eqD_t0, eqD_tc, eqD_ct, plain_i, plain_s, plain_b, plain_n, plain_l, plain_t, plainL_c, plainL_n, dep_sc, dep_l, dep_t, depL_c, depL_n, flatR_sc, slotAt_0, slotAt_s, e_var_eq, varQ_sh, varQ_ow, s_retv_eq, retQ_sh, retQ_ow, s_frz_eq, frzQ_sh, frzQ_ow, s_meth_eq, methQ_l, s_methset_eq, methsQ_l, s_setix_eq, setixQ_ow, e_lkd_eq, lkdQ_d, lkdQ_t, lkdQ_od, lkdQ_ot, s_lkd_eq, lkS_d, lkS_t, i_items_eq, itmS_d, i_keys_eq, keyS_d, keyS_t, i_vals_eq, valS_d, stepQ_l, isLst_l, strD_s, joinQ_l, strQ_i, strQ_s, dictQ_l, sortedLQ_l, setQ_l, setQ_d, setQ_t, appendQ_1, List.length_set]
    refine ⟨sortOk_P _, ?_⟩
    rw [sortP_map]
    exact q
  · obtain ⟨p, mp, rfl⟩ := List.mem_map.mp m
    unfold prD at *
    simp only [s_seq, s_nil, s_if, s_ret, s_retN, s_set, s_for, s_while, i_seq, i_ps, e_c, e_k, e_op, e_cb, e_call, e_and, e_or, e_not, e_chain, e_neg, e_tup, e_lst, e_sl, e_rev, e_dnew, e_dnewT, e_get2, o_none, o_some, t_of, t_op, t_and, t_or, t_not, t_chain, t_yes, a_nil, a_cons, brs, tyOks, isTy, subQ, fdivQ, modQ, powQ, eqQ, neQ, sizeL, enumAQ_l, enumAQ_t, str_one, str_app, startE, wipeE, e_lc, e_step, e_sm1, e_sm0, osOf, En.frz, P.frz, g_name, s_expr, s_asg, s_pass, s_break, s_cont, List.getElem?_cons_zero, List.getElem?_cons_succ, List.getElem?_nil, List.set_cons_zero, List.set_cons_succ, List.map_cons, List.map_nil, List.replicate_zero, List.replicate_succ, List.cons_append, List.nil_append, List.append_nil, List.length_cons, List.length_nil, List.any_cons, List.any_nil, Bool.not_true, Bool.not_false, Bool.false_or, Bool.or_false, Bool.true_or, Bool.or_true, Bool.and_true, Bool.true_and, Bool.false_and, Bool.and_false, if_true, if_false, ite_true, ite_false, Bool.false_eq_true, reduceIte, Nat.reduceAdd, Nat.reduceSub, Nat.zero_add, Nat.add_zero, true_and, and_true, Option.some.injEq, D.sc.injEq, V.bl.injEq, V.int.injEq, V.str.injEq, exists_eq_left', exists_eq_left, Bool.or_self, forall_const, imp_self, decide_eq_true_eq, Bool.not_eq_true', decide_eq_false_iff_not, Bool.not_eq_false, Decidable.not_not, implies_true, not_true_eq_false, not_false_eq_true, reduceCtorEq, false_imp, ne_eq, String.reduceBEq, Int.reducePow, Int.reduceToNat, Int.reduceLT, Int.reduceLE, Nat.reduceLeDiff, Nat.reduceLT, Nat.reduceMul, Int.reduceMul, Int.reduceAdd, Int.reduceSub, Int.reduceNeg, Nat.reducePow, or_true, true_or, List.length_map, List.isEmpty_cons, List.isEmpty_nil, addQ_i, addQ_s, addQ_l, addQ_t, iQ_i, mulQ_i, cmpQ_i, cmpQ_s, isQ_n, isQ_b, isNon_b, isNon_i, isNon_s, isNon_l, isNon_t, isNon_n, isNon_d, inQ_l, inQ_t, inQ_k, inQ_s, inQ_d, inQ_dt, ixQ_l, ixQ_t, ixQ_k, ixQ_s, ixQ_d, ixQ_dt, getQ_d, getQ_dt, key_i, key_s, slQ_l, slQ_t, slQ_s, optQ_i, revQ_l, negQ_i, truth_b, truth_i, truth_n, truth_s, truth_l, truth_t, blQ_b, bindS_st, bindS_ow, isBr_st, isBr_ow, isBr_br, itemsQ_l, itemsQ_t, itemsQ_s, g_tup_t, g_cons_c, g_nil_n, lenQ_l, lenQ_t, lenQ_s, lenQ_d, isiQ_t, ty_i, ty_s, ty_b, ty_n, ty_l, ty_t, ty_d, intQ_i, intQ_b, absQ_i, mmQ_i, listQ_l, listQ_t, listQ_k, tupleQ_l, tupleQ_t, sumQ_l, allQ_l, r1Q_i, r2Q_i, bne_false_S, bne_true_S, eqD_i, eqD_s, eqD_b, eqD_nn, eqD_ni, eqD_in, eqD_is, eqD_si, eqD_ln, eqD_nl, eqD_ll, eqD_l0, eqD_lc, eqD_cl, eqD_tt, eqD_t0, eqD_tc, eqD_ct, plain_i, plain_s, plain_b, plain_n, plain_l, plain_t, plainL_c, plainL_n, dep_sc, dep_l, dep_t, depL_c, depL_n, flatR_sc, slotAt_0, slotAt_s, e_var_eq, varQ_sh, varQ_ow, s_retv_eq, retQ_sh, retQ_ow, s_frz_eq, frzQ_sh, frzQ_ow, s_meth_eq, methQ_l, s_methset_eq, methsQ_l, s_setix_eq, setixQ_ow, e_lkd_eq, lkdQ_d, lkdQ_t, lkdQ_od, lkdQ_ot, s_lkd_eq, lkS_d, lkS_t, i_items_eq, itmS_d, i_keys_eq, keyS_d, keyS_t, i_vals_eq, valS_d, stepQ_l, isLst_l, strD_s, joinQ_l, strQ_i, strQ_s, dictQ_l, sortedLQ_l, setQ_l, setQ_d, setQ_t, appendQ_1, List.length_set]
    exact if_bl ⟨fun hp => h1 (decide_eq_true hp) _ rfl, fun hp => h2 (decide_eq_false hp)⟩
end P
namespace P
open PySem PySem.Spec PyProof.Rows L2
theorem leP_total : PySem.W.TotalLe leP := PySem.W.sortLe_total (PyProof.Rows.listOrd PyProof.Rows.itemOrd) false fun p => PySem.W.keyToks (prD p).py
theorem keyP (p : Pr) : PySem.W.keyToks (prD p).py = [.inl 1, .inr p.1.cps.toList, .inl 1, .inl p.2, .inl 0] := rfl
theorem leP_anti {p q : Pr} (h1 : leP p q = true) (h2 : leP q p = true) : p = q := by
  have e : PySem.W.keyToks (prD p).py = PySem.W.keyToks (prD q).py := by
    refine (PyProof.Rows.listOrd PyProof.Rows.itemOrd).total _ _ ?_ ?_
    · have h : (!(PyProof.Rows.listOrd PyProof.Rows.itemOrd).blt (PySem.W.keyToks (prD p).py) (PySem.W.keyToks (prD q).py)) = true := h2
      simpa using h
    · have h : (!(PyProof.Rows.listOrd PyProof.Rows.itemOrd).blt (PySem.W.keyToks (prD q).py) (PySem.W.keyToks (prD p).py)) = true := h1
      simpa using h
  rw [keyP, keyP] at e
  simp only [List.cons.injEq, Sum.inr.injEq, Sum.inl.injEq, true_and, and_true] at e
  obtain ⟨a, b⟩ := p
  obtain ⟨a', b'⟩ := q
  simp only at e
  have ha : a = a' := by
    obtain ⟨a⟩ := a
    obtain ⟨a'⟩ := a'
    congr 1
    exact Array.toList_inj.mp e.1
  rw [ha, e.2]
theorem same_iff (c a : Pr) : PySem.W.sameRank leP c a = true ↔ a = c := by
  unfold PySem.W.sameRank
  rw [Bool.and_eq_true]
  refine ⟨fun h => leP_anti h.2 h.1, fun h => ?_⟩
  subst h
  exact ⟨leP_total.refl _, leP_total.refl _⟩
theorem filter_rep (c : Pr) (l : List Pr) : l.filter (PySem.W.sameRank leP c) = List.replicate (l.filter (PySem.W.sameRank leP c)).length c := by
  rw [List.eq_replicate_iff]
  exact ⟨rfl, fun b m => (same_iff c b).mp (List.mem_filter.mp m).2⟩
theorem sortP_perm {ps qs : List Pr} (h : ps.Perm qs) : sortP ps = sortP qs := by
  unfold sortP
  refine PySem.W.sort_unique leP_total (PySem.W.sort_pairwise leP_total _) fun c => ?_
  rw [filter_rep c (ps.mergeSort leP), filter_rep c qs]
  congr 1
  exact (((List.mergeSort_perm ps leP).trans h).filter _).length_eq
theorem sortP_idem (ps : List Pr) : sortP (sortP ps) = sortP ps := sortP_perm (List.mergeSort_perm ps leP)
/-- what a list of pairs says of a name -/
def valP (ps : List Pr) (x : Str) : Int := (gVal ps x).getD 0
def KU (ps : List Pr) : Prop := (ps.map (·.1)).Nodup
def nnP (ps : List Pr) : Prop := ∀ p ∈ ps, 0 ≤ p.2
theorem gVal_cons (p : Pr) (ps : List Pr) (x : Str) : gVal (p :: ps) x = if p.1 = x then some p.2 else gVal ps x := by
  unfold gVal
  rw [List.find?_cons]
  by_cases h : p.1 = x
  · simp [h]
  · simp [h]
theorem gVal_none {ps : List Pr} {x : Str} : gVal ps x = none ↔ x ∉ ps.map (·.1) := by
  induction ps with
  | nil => simp [gVal]
  | cons p ps ih =>
    rw [gVal_cons]
    by_cases h : p.1 = x
    · simp [h]
    · rw [if_neg h, ih]
      simp [h, Ne.symm h]
theorem gVal_mem {ps : List Pr} (k : KU ps) {x : Str} {n : Int} : gVal ps x = some n ↔ (x, n) ∈ ps := by
  induction ps with
  | nil => simp [gVal]
  | cons p ps ih =>
    obtain ⟨k1, k2⟩ := List.nodup_cons.mp (show (p.1 :: ps.map (·.1)).Nodup from k)
    rw [gVal_cons]
    by_cases h : p.1 = x
    · rw [if_pos h]
      refine ⟨fun e => ?_, fun m => ?_⟩
      · rw [← h, ← Option.some.inj e]; exact List.mem_cons_self
      · rcases List.mem_cons.mp m with e | m
        · rw [← e]
        · exact absurd (List.mem_map.mpr ⟨(x, n), m, rfl⟩) (by rw [← h] at *; exact k1)
    · rw [if_neg h, ih k2]
      refine ⟨fun m => List.mem_cons_of_mem _ m, fun m => ?_⟩
      rcases List.mem_cons.mp m with e | m
      · exact absurd (by rw [← e]) h
      · exact m
theorem valP_mem {ps : List Pr} (k : KU ps) {x : Str} {n : Int} (m : (x, n) ∈ ps) : valP ps x = n := by
  unfold valP
  rw [(gVal_mem k).mpr m]
  rfl
theorem valP_out {ps : List Pr} {x : Str} (h : x ∉ ps.map (·.1)) : valP ps x = 0 := by
  unfold valP
  rw [gVal_none.mpr h]
  rfl
theorem valP_nn {ps : List Pr} (k : KU ps) (h : nnP ps) (x : Str) : 0 ≤ valP ps x := by
  unfold valP
  cases e : gVal ps x with
  | none => exact Int.le_refl 0
  | some n => exact h _ ((gVal_mem k).mp e)
theorem put_keys (ps : List Pr) (x : Str) (n : Int) : (gPut ps x n).map (·.1) = if x ∈ ps.map (·.1) then ps.map (·.1) else ps.map (·.1) ++ [x] := by
  unfold gPut
  have e : (ps.any fun kv => decide (kv.1 = x)) = decide (x ∈ ps.map (·.1)) := by
    rw [Bool.eq_iff_iff]
    simp only [List.any_eq_true, decide_eq_true_eq, List.mem_map]
  rw [e]
  by_cases h : x ∈ ps.map (·.1)
  · rw [if_pos (by simpa using h), if_pos h, List.map_map]
    apply List.map_congr_left
    intro p _
    show (if p.1 = x then (p.1, n) else p).1 = p.1
    split <;> rfl
  · rw [if_neg (by simpa using h), if_neg h, List.map_append]
    rfl
theorem put_KU {ps : List Pr} (k : KU ps) (x : Str) (n : Int) : KU (gPut ps x n) := by
  unfold KU
  rw [put_keys]
  split
  · exact k
  · rename_i h
    refine List.nodup_append.mpr ⟨k, by simp, fun a m b m2 e => ?_⟩
    rw [List.mem_singleton.mp m2] at e
    exact h (e ▸ m)
theorem put_val {ps : List Pr} (x y : Str) (n : Int) : valP (gPut ps x n) y = if y = x then n else valP ps y := by
  unfold gPut
  by_cases h : (ps.any fun kv => decide (kv.1 = x)) = true
  · rw [if_pos h]
    unfold valP
    have hm : x ∈ ps.map (·.1) := by
      simp only [List.any_eq_true, decide_eq_true_eq] at h
      obtain ⟨p, m, e⟩ := h
      exact List.mem_map.mpr ⟨p, m, e⟩
    clear h
    induction ps with
    | nil => simp at hm
    | cons p ps ih =>
      rw [List.map_cons, gVal_cons, gVal_cons]
      by_cases e : p.1 = x
      · rw [if_pos e]
        simp only
        by_cases e2 : y = x
        · rw [if_pos e2, if_pos (by rw [e, e2])]; rfl
        · rw [if_neg e2]
          have e3 : ¬ p.1 = y := fun z => e2 (z.symm.trans e)
          rw [if_neg e3, if_neg e3]
          by_cases hm2 : x ∈ ps.map (·.1)
          · have := ih hm2
            rw [if_neg e2] at this
            exact this
          · have ee : (ps.map fun kv => if kv.1 = x then (kv.1, n) else kv) = ps := by
              conv => rhs; rw [← List.map_id ps]
              apply List.map_congr_left
              intro q mq
              show (if q.1 = x then (q.1, n) else q) = q
              rw [if_neg (fun z => hm2 (List.mem_map.mpr ⟨q, mq, z⟩))]
            rw [ee]
      · rw [if_neg e]
        have hm2 : x ∈ ps.map (·.1) := by
          rw [List.map_cons] at hm
          rcases List.mem_cons.mp hm with z | z
          · exact absurd z.symm e
          · exact z
        have := ih hm2
        by_cases e3 : p.1 = y
        · rw [if_pos e3, if_pos e3]
          rw [if_neg (fun z => e (e3.trans z))]
        · rw [if_neg e3, if_neg e3]
          exact this
  · rw [if_neg h]
    have hm : x ∉ ps.map (·.1) := fun m => h (by
      simp only [List.any_eq_true, decide_eq_true_eq]
      obtain ⟨p, m, e⟩ := List.mem_map.mp m
      exact ⟨p, m, e⟩)
    clear h
    unfold valP
    induction ps with
    | nil =>
      rw [List.nil_append, gVal_cons]
      by_cases e : y = x
      · rw [if_pos e.symm, if_pos e]; rfl
      · rw [if_neg (fun z => e z.symm), if_neg e]
    | cons p ps ih =>
      rw [List.cons_append, gVal_cons, gVal_cons]
      have h1 : ¬ p.1 = x := fun z => hm (by rw [← z]; simp)
      have h2 : x ∉ ps.map (·.1) := fun z => hm (by simpa using Or.inr (by simpa using z))
      by_cases e3 : p.1 = y
      · rw [if_pos e3, if_pos e3, if_neg (fun z => h1 (e3.trans z))]
      · rw [if_neg e3, if_neg e3]; exact ih h2
theorem pos_mem {ps : List Pr} (k : KU ps) {x : Str} {n : Int} : (x, n) ∈ posP ps ↔ 0 < n ∧ valP ps x = n := by
  unfold posP
  rw [List.mem_filter]
  simp only [decide_eq_true_eq]
  refine ⟨fun h => ⟨h.2, valP_mem k h.1⟩, fun h => ⟨?_, h.1⟩⟩
  obtain ⟨h1, h2⟩ := h
  unfold valP at h2
  cases e : gVal ps x with
  | none => rw [e] at h2; simp at h2; omega
  | some m =>
    rw [e] at h2
    have : m = n := h2
    rw [← this]
    exact (gVal_mem k).mp e
theorem nodup_of_map {α β : Type} {f : α → β} {l : List α} (h : (l.map f).Nodup) : l.Nodup := by
  rw [List.nodup_iff_pairwise_ne] at *
  exact List.Pairwise.imp (fun h e => h (by rw [e])) (List.pairwise_map.mp h)
theorem ku_nodup {ps : List Pr} (k : KU ps) : ps.Nodup := nodup_of_map k
theorem pos_KU {ps : List Pr} (k : KU ps) : KU (posP ps) := by
  unfold posP KU
  exact List.Nodup.sublist (List.Sublist.map _ List.filter_sublist) k
/-- THE LAW: packs that say the same are the same -/
theorem canon {ps qs : List Pr} (k : KU ps) (k' : KU qs) (h : ∀ x, valP ps x = valP qs x) : sortP (posP ps) = sortP (posP qs) := by
  refine sortP_perm ((List.perm_ext_iff_of_nodup (ku_nodup (pos_KU k)) (ku_nodup (pos_KU k'))).mpr fun p => ?_)
  obtain ⟨x, n⟩ := p
  rw [pos_mem k, pos_mem k', h]
/-- a pack -/
structure IsP (ps : List Pr) : Prop where
  ku : KU ps
  pos : ∀ p ∈ ps, 0 < p.2
  sorted : sortP ps = ps
theorem IsP.posE {ps : List Pr} (h : IsP ps) : posP ps = ps := by
  unfold posP
  rw [List.filter_eq_self]
  exact fun p m => decide_eq_true (h.pos p m)
theorem IsP.self {ps : List Pr} (h : IsP ps) : sortP (posP ps) = ps := by rw [h.posE, h.sorted]
theorem perm_KU {ps qs : List Pr} (h : ps.Perm qs) (k : KU ps) : KU qs := (h.map (fun p : Pr => p.1)).nodup_iff.mp k
theorem isP_mk {ps : List Pr} (k : KU ps) : IsP (sortP (posP ps)) := by
  have hp := List.mergeSort_perm (posP ps) leP
  refine ⟨perm_KU hp.symm (pos_KU k), fun p m => ?_, sortP_idem _⟩
  have m2 := hp.mem_iff.mp m
  unfold posP at m2
  exact of_decide_eq_true (List.mem_filter.mp m2).2
theorem sort_val {ps : List Pr} (k : KU ps) (h : nnP ps) (x : Str) : valP (sortP (posP ps)) x = valP ps x := by
  have kp := isP_mk k
  by_cases e : 0 < valP ps x
  · have m : (x, valP ps x) ∈ posP ps := (pos_mem k).mpr ⟨e, rfl⟩
    exact valP_mem kp.ku ((List.mergeSort_perm (posP ps) leP).mem_iff.mpr m)
  · have e0 : valP ps x = 0 := by have := valP_nn k h x; omega
    rw [e0]
    refine valP_out fun m => ?_
    obtain ⟨p, mp, ep⟩ := List.mem_map.mp m
    have m2 := (List.mergeSort_perm (posP ps) leP).mem_iff.mp mp
    obtain ⟨y, n⟩ := p
    have := (pos_mem k).mp m2
    have ey : y = x := ep
    rw [ey] at this
    omega
theorem IsP.ext {ps qs : List Pr} (h : IsP ps) (h' : IsP qs) (e : ∀ x, valP ps x = valP qs x) : ps = qs := by
  rw [← h.self, ← h'.self]
  exact canon h.ku h'.ku e
theorem IsP.key {ps : List Pr} (h : IsP ps) {x : Str} (e : valP ps x ≠ 0) : x ∈ ps.map (·.1) := by
  by_cases m : x ∈ ps.map (·.1)
  · exact m
  · exact absurd (valP_out m) e
end P
namespace P
open PySem PySem.Spec PyProof.Rows L2
def k_LONGEST : D := .sc (.int 12)
def k_TOP : D := .sc (.int 1000000000000000000000000000000)
def k_LETTERS : D := .sc (.str "abcdefghijklmnopqrstuvwxyz")
def k_KEPT_WORDS : D := .ktp [.sc (.str "and"), .sc (.str "or"), .sc (.str "not"), .sc (.str "if"), .sc (.str "is"), .sc (.str "some"), .sc (.str "all"), .sc (.str "for"), .sc (.str "against")]
def goodP (ps : List Pr) : Prop := ∀ p ∈ ps, nameB p.1 = true ∧ 0 < p.2 ∧ p.2 ≤ 1000000000000000000000000000000
def dgP (ps : List Pr) : Prop := ∀ p ∈ ps, nameB p.1 = true ∧ 0 ≤ p.2 ∧ p.2 ≤ 1000000000000000000000000000000
theorem zip_SI (ps : List Pr) : (ps.map fun p => (.inr p.1 : Key)).zip (ps.map fun p => D.sc (.int p.2)) = ps.map fun p => ((.inr p.1 : Key), D.sc (.int p.2)) := by
  induction ps with
  | nil => rfl
  | cons p ps ih => simp only [List.map_cons, List.zip_cons_cons]; rw [ih]
theorem put_SI0 (ps : List Pr) (x : Str) (n : Int) : dicOf (gPut (ps.map fun p => ((.inr p.1 : Key), D.sc (.int p.2))) (.inr x) (.sc (.int n))) = dicSI (gPut ps x n) := by
  unfold gPut dicSI dicOf
  have ha : (ps.map fun p => ((.inr p.1 : Key), D.sc (.int p.2))).any (fun kv => decide (kv.1 = .inr x)) = ps.any fun kv => decide (kv.1 = x) := by
    rw [List.any_map]
    congr 1
    funext p
    show decide ((Sum.inr p.1 : Key) = .inr x) = _
    simp
  rw [ha]
  by_cases h : (ps.any fun kv => decide (kv.1 = x)) = true
  · rw [if_pos h, if_pos h]
    simp only [List.map_map]
    congr 1
    · apply List.map_congr_left
      intro p _
      show (if (Sum.inr p.1 : Key) = .inr x then ((Sum.inr p.1 : Key), D.sc (.int n)) else _).1 = Sum.inr (if p.1 = x then (p.1, n) else p).1
      by_cases e : p.1 = x
      · rw [if_pos e, if_pos (by rw [e])]
      · rw [if_neg e, if_neg (fun z => e (Sum.inr.inj z))]
    · apply List.map_congr_left
      intro p _
      show (if (Sum.inr p.1 : Key) = .inr x then ((Sum.inr p.1 : Key), D.sc (.int n)) else _).2 = D.sc (.int (if p.1 = x then (p.1, n) else p).2)
      by_cases e : p.1 = x
      · rw [if_pos e, if_pos (by rw [e])]
      · rw [if_neg e, if_neg (fun z => e (Sum.inr.inj z))]
  · rw [if_neg h, if_neg h]
    simp only [List.map_append, List.map_cons, List.map_nil, List.map_map]
    rfl
theorem put_SI (ps : List Pr) (x : Str) (n : Int) : dicOf (gPut ((ps.map fun p => (.inr p.1 : Key)).zip (ps.map fun p => D.sc (.int p.2))) (.inr x) (.sc (.int n))) = dicSI (gPut ps x n) := by
  rw [zip_SI, put_SI0]
theorem val_SI (ps : List Pr) (x : Str) : gVal ((ps.map fun p => (.inr p.1 : Key)).zip (ps.map fun p => D.sc (.int p.2))) (.inr x) = (gVal ps x).map fun n => .sc (.int n) := by
  rw [zip_SI]
  induction ps with
  | nil => rfl
  | cons p ps ih =>
    rw [gVal_cons]
    by_cases h : p.1 = x
    · rw [if_pos h]
      unfold gVal
      rw [List.map_cons, List.find?_cons, show decide ((Sum.inr p.1 : Key) = .inr x) = true by simp [h]]
      rfl
    · rw [if_neg h, ← ih]
      unfold gVal
      rw [List.map_cons, List.find?_cons, show decide ((Sum.inr p.1 : Key) = .inr x) = false by simp [h]]
theorem getD_SI (ps : List Pr) (x : Str) : ((gVal ((ps.map fun p => (.inr p.1 : Key)).zip (ps.map fun p => D.sc (.int p.2))) (.inr x)).getD (.sc (.int 0))) = .sc (.int (valP ps x)) := by
  rw [val_SI]
  unfold valP
  cases gVal ps x <;> rfl
theorem setQ_SI {ps : List Pr} {x : Str} {n : Int} {P : D → Prop} : setQ (dicSI ps) (.sc (.str x)) (.sc (.int n)) P = (ps.length < sizeLine ∧ P (dicSI (gPut ps x n))) := by
  unfold dicSI
  rw [setQ_d, List.length_map]
  refine propext ⟨fun h => ⟨h.1, ?_⟩, fun h => ⟨h.1, .inr x, rfl, ?_⟩⟩
  · obtain ⟨j, e, p⟩ := h.2
    cases e
    rw [put_SI] at p
    exact p
  · rw [put_SI]; exact h.2
theorem getQ_SI {ps : List Pr} {x : Str} {K : Option D → Prop} : getQ (dicSI ps) (.sc (.str x)) K = K ((gVal ps x).map fun n => .sc (.int n)) := by
  unfold dicSI
  rw [getQ_d]
  refine propext ⟨fun h => ?_, fun h => ⟨.inr x, rfl, ?_⟩⟩
  · obtain ⟨j, e, p⟩ := h
    cases e
    rw [val_SI] at p
    exact p
  · rw [val_SI]; exact h
theorem getD_val (ps : List Pr) (x : Str) : ((gVal ps x).map fun n => D.sc (.int n)).getD (.sc (.int 0)) = .sc (.int (valP ps x)) := by
  unfold valP
  cases gVal ps x <;> rfl
theorem isDict_SI (ps : List Pr) : isDict (dicSI ps) = true := rfl
theorem put_dg {ps : List Pr} {x : Str} {n : Int} (h : dgP ps) (hx : nameB x = true) (h0 : 0 ≤ n) (h1 : n ≤ 1000000000000000000000000000000) : dgP (gPut ps x n) := by
  unfold gPut
  split
  · intro p m
    obtain ⟨q, mq, e⟩ := List.mem_map.mp m
    have hq := h q mq
    split at e
    · rw [← e]; exact ⟨hq.1, h0, h1⟩
    · rw [← e]; exact hq
  · intro p m
    rcases List.mem_append.mp m with m | m
    · exact h p m
    · rw [List.mem_singleton.mp m]; exact ⟨hx, h0, h1⟩
theorem put_len {ps : List Pr} {x : Str} {n : Int} : (gPut ps x n).length ≤ ps.length + 1 := by
  unfold gPut
  split
  · rw [List.length_map]; omega
  · rw [List.length_append]; simp
theorem pos_len {ps : List Pr} : (sortP (posP ps)).length ≤ ps.length := by
  unfold sortP
  rw [List.length_mergeSort]
  exact List.length_filter_le _ _
theorem eqD_packs : ∀ ps qs : List Pr, eqD (.tup (ps.map prD)) (.tup (qs.map prD)) = decide (ps = qs)
  | [], [] => rfl
  | [], q :: qs => rfl
  | p :: ps, [] => rfl
  | p :: ps, q :: qs => by
    rw [List.map_cons, List.map_cons, eqD_tt, eqD_packs ps qs]
    have e : eqD (prD p) (prD q) = decide (p = q) := by
      unfold prD
      rw [eqD_tt, eqD_tt, eqD_s, eqD_i, eqD_t0]
      obtain ⟨a, b⟩ := p
      obtain ⟨a', b'⟩ := q
      by_cases h1 : a = a' <;> by_cases h2 : b = b' <;> simp [h1, h2]
    rw [e]
    by_cases h1 : p = q <;> by_cases h2 : ps = qs <;> simp [h1, h2]
theorem plain_prs (ps : List Pr) : D.plain.plainL (ps.map prD) = true := (sortOk_P ps).2.2.1
theorem dep_prs (ps : List Pr) : D.dep.depL (ps.map prD) ≤ 1 := by
  induction ps with
  | nil => decide
  | cons p ps ih =>
    rw [List.map_cons, depL_c]
    have : (prD p).dep = 1 := rfl
    omega
def isName : D → Bool
  | .sc (.str x) => nameB x
  | _ => false
def C_is_name : Ct := fun ds Q => match ds with
  | [d] => d.ty.isSome = true ∧ (∀ x, d = .sc (.str x) → x.length ≤ 16777216) ∧ Q (.sc (.bl (isName d))) .st
  | _ => False
theorem loop_letters {E : Os} {a : Sl} (nx : Bool → Prop) (h : ∀ s, nx true → E.nx [a, s]) (hr : nx false → E.rt (.sc (.bl false)) .st) : ∀ (ns : List Nat) (s : Sl), nx (ns.all fun n => subS ⟨#[n]⟩ "abcdefghijklmnopqrstuvwxyz") →
    loopF (g_name 1) (s_if (t_op (inQ true) (e_var 1) (e_c (.str "abcdefghijklmnopqrstuvwxyz"))) (s_ret (e_c (.bl false))) s_nil) (ns.map fun n => .sc (.str ⟨#[n]⟩)) [a, s] E
  | [], s, q => h s q
  | n :: ns, s, q => by
    have ih := loop_letters nx h hr ns
    simp only [s_seq, s_nil, s_if, s_ret, s_retN, s_set, s_for, s_while, i_seq, i_ps, e_c, e_k, e_op, e_cb, e_call, e_and, e_or, e_not, e_chain, e_neg, e_tup, e_lst, e_sl, e_rev, e_dnew, e_dnewT, e_get2, o_none, o_some, t_of, t_op, t_and, t_or, t_not, t_chain, t_yes, a_nil, a_cons, brs, tyOks, isTy, subQ, fdivQ, modQ, powQ, eqQ, neQ, sizeL, enumAQ_l, enumAQ_t, str_one, str_app, startE, wipeE, e_lc, e_step, e_sm1, e_sm0, osOf, En.frz, P.frz, g_name, s_expr, s_asg, s_pass, s_break, s_cont, List.getElem?_cons_zero, List.getElem?_cons_succ, List.getElem?_nil, List.set_cons_zero, List.set_cons_succ, List.map_cons, List.map_nil, List.replicate_zero, List.replicate_succ, List.cons_append, List.nil_append, List.append_nil, List.length_cons, List.length_nil, List.any_cons, List.any_nil, Bool.not_true, Bool.not_false, Bool.false_or, Bool.or_false, Bool.true_or, Bool.or_true, Bool.and_true, Bool.true_and, Bool.false_and, Bool.and_false, if_true, if_false, ite_true, ite_false, Bool.false_eq_true, reduceIte, Nat.reduceAdd, Nat.reduceSub, Nat.zero_add, Nat.add_zero, true_and, and_true, Option.some.injEq, D.sc.injEq, V.bl.injEq, V.int.injEq, V.str.injEq, exists_eq_left', exists_eq_left, Bool.or_self, forall_const, imp_self, decide_eq_true_eq, Bool.not_eq_true', decide_eq_false_iff_not, Bool.not_eq_false, Decidable.not_not, implies_true, not_true_eq_false, not_false_eq_true, reduceCtorEq, false_imp, ne_eq, String.reduceBEq, Int.reducePow, Int.reduceToNat, Int.reduceLT, Int.reduceLE, Nat.reduceLeDiff, Nat.reduceLT, Nat.reduceMul, Int.reduceMul, Int.reduceAdd, Int.reduceSub, Int.reduceNeg, Nat.reducePow, or_true, true_or, List.length_map, List.isEmpty_cons, List.isEmpty_nil, addQ_i, addQ_s, addQ_l, addQ_t, iQ_i, mulQ_i, cmpQ_i, cmpQ_s, isQ_n, isQ_b, isNon_b, isNon_i, isNon_s, isNon_l, isNon_t, isNon_n, isNon_d, inQ_l, inQ_t, inQ_k, inQ_s, inQ_d, inQ_dt, ixQ_l, ixQ_t, ixQ_k, ixQ_s, ixQ_d, ixQ_dt, getQ_d, getQ_dt, key_i, key_s, slQ_l, slQ_t, slQ_s, optQ_i, revQ_l, negQ_i, truth_b, truth_i, truth_n, truth_s, truth_l, truth_t, blQ_b, bindS_st, bindS_ow, isBr_st, isBr_ow, isBr_br, itemsQ_l, itemsQ_t, itemsQ_s, g_tup_t, g_cons_c, g_nil_n, lenQ_l, lenQ_t, lenQ_s, lenQ_d, isiQ_t, ty_i, ty_s, ty_b, ty_n, ty_l, ty_t, ty_d, intQ_i, intQ_b, absQ_i, mmQ_i, listQ_l, listQ_t, listQ_k, tupleQ_l, tupleQ_t, sumQ_l, allQ_l, r1Q_i, r2Q_i, bne_false_S, bne_true_S, eqD_i, eqD_s, eqD_b, eqD_nn, eqD_ni, eqD_in, eqD_is, eqD_si, eqD_ln, eqD_nl, eqD_ll, eqD_l0, eqD_lc, eqD_cl, eqD_tt, eqD_t0, eqD_tc, eqD_ct, plain_i, plain_s, plain_b, plain_n, plain_l, plain_t, plainL_c, plainL_n, dep_sc, dep_l, dep_t, depL_c, depL_n, flatR_sc, slotAt_0, slotAt_s, e_var_eq, varQ_sh, varQ_ow, s_retv_eq, retQ_sh, retQ_ow, s_frz_eq, frzQ_sh, frzQ_ow, s_meth_eq, methQ_l, s_methset_eq, methsQ_l, s_setix_eq, setixQ_ow, e_lkd_eq, lkdQ_d, lkdQ_t, lkdQ_od, lkdQ_ot, s_lkd_eq, lkS_d, lkS_t, i_items_eq, itmS_d, i_keys_eq, keyS_d, keyS_t, i_vals_eq, valS_d, stepQ_l, isLst_l, strD_s, joinQ_l, strQ_i, strQ_s, dictQ_l, sortedLQ_l, setQ_l, setQ_d, setQ_t, appendQ_1, List.length_set, loopF]
    rw [List.all_cons] at q
    cases hb : subS ⟨#[n]⟩ "abcdefghijklmnopqrstuvwxyz" with
    | true =>
      rw [hb, Bool.true_and] at q
      exact ih _ q
    | false =>
      rw [hb, Bool.false_and] at q
      simp only [s_seq, s_nil, s_if, s_ret, s_retN, s_set, s_for, s_while, i_seq, i_ps, e_c, e_k, e_op, e_cb, e_call, e_and, e_or, e_not, e_chain, e_neg, e_tup, e_lst, e_sl, e_rev, e_dnew, e_dnewT, e_get2, o_none, o_some, t_of, t_op, t_and, t_or, t_not, t_chain, t_yes, a_nil, a_cons, brs, tyOks, isTy, subQ, fdivQ, modQ, powQ, eqQ, neQ, sizeL, enumAQ_l, enumAQ_t, str_one, str_app, startE, wipeE, e_lc, e_step, e_sm1, e_sm0, osOf, En.frz, P.frz, g_name, s_expr, s_asg, s_pass, s_break, s_cont, List.getElem?_cons_zero, List.getElem?_cons_succ, List.getElem?_nil, List.set_cons_zero, List.set_cons_succ, List.map_cons, List.map_nil, List.replicate_zero, List.replicate_succ, List.cons_append, List.nil_append, List.append_nil, List.length_cons, List.length_nil, List.any_cons, List.any_nil, Bool.not_true, Bool.not_false, Bool.false_or, Bool.or_false, Bool.true_or, Bool.or_true, Bool.and_true, Bool.true_and, Bool.false_and, Bool.and_false, if_true, if_false, ite_true, ite_false, Bool.false_eq_true, reduceIte, Nat.reduceAdd, Nat.reduceSub, Nat.zero_add, Nat.add_zero, true_and, and_true, Option.some.injEq, D.sc.injEq, V.bl.injEq, V.int.injEq, V.str.injEq, exists_eq_left', exists_eq_left, Bool.or_self, forall_const, imp_self, decide_eq_true_eq, Bool.not_eq_true', decide_eq_false_iff_not, Bool.not_eq_false, Decidable.not_not, implies_true, not_true_eq_false, not_false_eq_true, reduceCtorEq, false_imp, ne_eq, String.reduceBEq, Int.reducePow, Int.reduceToNat, Int.reduceLT, Int.reduceLE, Nat.reduceLeDiff, Nat.reduceLT, Nat.reduceMul, Int.reduceMul, Int.reduceAdd, Int.reduceSub, Int.reduceNeg, Nat.reducePow, or_true, true_or, List.length_map, List.isEmpty_cons, List.isEmpty_nil, addQ_i, addQ_s, addQ_l, addQ_t, iQ_i, mulQ_i, cmpQ_i, cmpQ_s, isQ_n, isQ_b, isNon_b, isNon_i, isNon_s, isNon_l, isNon_t, isNon_n, isNon_d, inQ_l, inQ_t, inQ_k, inQ_s, inQ_d, inQ_dt, ixQ_l, ixQ_t, ixQ_k, ixQ_s, ixQ_d, ixQ_dt, getQ_d, getQ_dt, key_i, key_s, slQ_l, slQ_t, slQ_s, optQ_i, revQ_l, negQ_i, truth_b, truth_i, truth_n, truth_s, truth_l, truth_t, blQ_b, bindS_st, bindS_ow, isBr_st, isBr_ow, isBr_br, itemsQ_l, itemsQ_t, itemsQ_s, g_tup_t, g_cons_c, g_nil_n, lenQ_l, lenQ_t, lenQ_s, lenQ_d, isiQ_t, ty_i, ty_s, ty_b, ty_n, ty_l, ty_t, ty_d, intQ_i, intQ_b, absQ_i, mmQ_i, listQ_l, listQ_t, listQ_k, tupleQ_l, tupleQ_t, sumQ_l, allQ_l, r1Q_i, r2Q_i, bne_false_S, bne_true_S, eqD_i, eqD_s, eqD_b, eqD_nn, eqD_ni, eqD_in, eqD_is, eqD_si, eqD_ln, eqD_nl, eqD_ll, eqD_l0, eqD_lc, eqD_cl, eqD_tt, eqD_t0, eqD_tc, eqD_ct, plain_i, plain_s, plain_b, plain_n, plain_l, plain_t, plainL_c, plainL_n, dep_sc, dep_l, dep_t, depL_c, depL_n, flatR_sc, slotAt_0, slotAt_s, e_var_eq, varQ_sh, varQ_ow, s_retv_eq, retQ_sh, retQ_ow, s_frz_eq, frzQ_sh, frzQ_ow, s_meth_eq, methQ_l, s_methset_eq, methsQ_l, s_setix_eq, setixQ_ow, e_lkd_eq, lkdQ_d, lkdQ_t, lkdQ_od, lkdQ_ot, s_lkd_eq, lkS_d, lkS_t, i_items_eq, itmS_d, i_keys_eq, keyS_d, keyS_t, i_vals_eq, valS_d, stepQ_l, isLst_l, strD_s, joinQ_l, strQ_i, strQ_s, dictQ_l, sortedLQ_l, setQ_l, setQ_d, setQ_t, appendQ_1, List.length_set]
      exact hr q
def g_is_name : Sx := s_seq (s_if (t_or (t_not (t_of (e_cb (isiQ) (a_cons (e_var 0) (a_cons (e_c (.ty "str")) (a_nil)))))) (t_or (t_not (t_chain (leQ) (leQ) (e_c (.int 1)) (e_cb (lenQ) (a_cons (e_var 0) (a_nil))) (e_k k_LONGEST))) (t_op (inQ false) (e_var 0) (e_k k_KEPT_WORDS)))) (s_ret (e_c (.bl false))) (s_nil)) (s_seq (s_frz 0 (s_for (i_seq (e_var 0)) (g_name 1) (s_if (t_op (inQ true) (e_var 1) (e_k k_LETTERS)) (s_ret (e_c (.bl false))) (s_nil)))) (s_ret (e_c (.bl true))))
def g_is_degree : Sx := s_ret (e_and (e_cb (isiQ) (a_cons (e_var 0) (a_cons (e_c (.ty "int")) (a_nil)))) (e_and (e_not (e_cb (isiQ) (a_cons (e_var 0) (a_cons (e_c (.ty "bool")) (a_nil))))) (e_chain (leQ) (leQ) (e_c (.int 0)) (e_var 0) (e_k k_TOP))))
theorem pure_is_name (ds : List D) (Q : D → Md → Prop) (h : C_is_name ds Q) : g_is_name (startE ["thing", "sign"] ds) (osOf Q) := by
  unfold C_is_name at h
  split at h
  case h_2 => exact h.elim
  rename_i d
  obtain ⟨ht, hx, q⟩ := h
  unfold g_is_name
  by_cases hd : ∃ x, d = .sc (.str x)
  · obtain ⟨x, rfl⟩ := hd
    have hl := hx x rfl
    have q' : Q (.sc (.bl (nameB x))) .st := q
    unfold nameB at q'
    simp only [s_seq, s_nil, s_if, s_ret, s_retN, s_set, s_for, s_while, i_seq, i_ps, e_c, e_k, e_op, e_cb, e_call, e_and, e_or, e_not, e_chain, e_neg, e_tup, e_lst, e_sl, e_rev, e_dnew, e_dnewT, e_get2, o_none, o_some, t_of, t_op, t_and, t_or, t_not, t_chain, t_yes, a_nil, a_cons, brs, tyOks, isTy, subQ, fdivQ, modQ, powQ, eqQ, neQ, sizeL, enumAQ_l, enumAQ_t, str_one, str_app, startE, wipeE, e_lc, e_step, e_sm1, e_sm0, osOf, En.frz, P.frz, g_name, s_expr, s_asg, s_pass, s_break, s_cont, List.getElem?_cons_zero, List.getElem?_cons_succ, List.getElem?_nil, List.set_cons_zero, List.set_cons_succ, List.map_cons, List.map_nil, List.replicate_zero, List.replicate_succ, List.cons_append, List.nil_append, List.append_nil, List.length_cons, List.length_nil, List.any_cons, List.any_nil, Bool.not_true, Bool.not_false, Bool.false_or, Bool.or_false, Bool.true_or, Bool.or_true, Bool.and_true, Bool.true_and, Bool.false_and, Bool.and_false, if_true, if_false, ite_true, ite_false, Bool.false_eq_true, reduceIte, Nat.reduceAdd, Nat.reduceSub, Nat.zero_add, Nat.add_zero, true_and, and_true, Option.some.injEq, D.sc.injEq, V.bl.injEq, V.int.injEq, V.str.injEq, exists_eq_left', exists_eq_left, Bool.or_self, forall_const, imp_self, decide_eq_true_eq, Bool.not_eq_true', decide_eq_false_iff_not, Bool.not_eq_false, Decidable.not_not, implies_true, not_true_eq_false, not_false_eq_true, reduceCtorEq, false_imp, ne_eq, String.reduceBEq, Int.reducePow, Int.reduceToNat, Int.reduceLT, Int.reduceLE, Nat.reduceLeDiff, Nat.reduceLT, Nat.reduceMul, Int.reduceMul, Int.reduceAdd, Int.reduceSub, Int.reduceNeg, Nat.reducePow, or_true, true_or, List.length_map, List.isEmpty_cons, List.isEmpty_nil, addQ_i, addQ_s, addQ_l, addQ_t, iQ_i, mulQ_i, cmpQ_i, cmpQ_s, isQ_n, isQ_b, isNon_b, isNon_i, isNon_s, isNon_l, isNon_t, isNon_n, isNon_d, inQ_l, inQ_t, inQ_k, inQ_s, inQ_d, inQ_dt, ixQ_l, ixQ_t, ixQ_k, ixQ_s, ixQ_d, ixQ_dt, getQ_d, getQ_dt, key_i, key_s, slQ_l, slQ_t, slQ_s, optQ_i, revQ_l, negQ_i, truth_b, truth_i, truth_n, truth_s, truth_l, truth_t, blQ_b, bindS_st, bindS_ow, isBr_st, isBr_ow, isBr_br, itemsQ_l, itemsQ_t, itemsQ_s, g_tup_t, g_cons_c, g_nil_n, lenQ_l, lenQ_t, lenQ_s, lenQ_d, isiQ_t, ty_i, ty_s, ty_b, ty_n, ty_l, ty_t, ty_d, intQ_i, intQ_b, absQ_i, mmQ_i, listQ_l, listQ_t, listQ_k, tupleQ_l, tupleQ_t, sumQ_l, allQ_l, r1Q_i, r2Q_i, bne_false_S, bne_true_S, eqD_i, eqD_s, eqD_b, eqD_nn, eqD_ni, eqD_in, eqD_is, eqD_si, eqD_ln, eqD_nl, eqD_ll, eqD_l0, eqD_lc, eqD_cl, eqD_tt, eqD_t0, eqD_tc, eqD_ct, plain_i, plain_s, plain_b, plain_n, plain_l, plain_t, plainL_c, plainL_n, dep_sc, dep_l, dep_t, depL_c, depL_n, flatR_sc, slotAt_0, slotAt_s, e_var_eq, varQ_sh, varQ_ow, s_retv_eq, retQ_sh, retQ_ow, s_frz_eq, frzQ_sh, frzQ_ow, s_meth_eq, methQ_l, s_methset_eq, methsQ_l, s_setix_eq, setixQ_ow, e_lkd_eq, lkdQ_d, lkdQ_t, lkdQ_od, lkdQ_ot, s_lkd_eq, lkS_d, lkS_t, i_items_eq, itmS_d, i_keys_eq, keyS_d, keyS_t, i_vals_eq, valS_d, stepQ_l, isLst_l, strD_s, joinQ_l, strQ_i, strQ_s, dictQ_l, sortedLQ_l, setQ_l, setQ_d, setQ_t, appendQ_1, List.length_set, k_LONGEST, k_KEPT_WORDS, kept_eq, k_LETTERS]
    refine ⟨hl, if_bl ⟨fun h1 => if_bl ⟨fun h2 => ?_, fun h2 => ⟨?_, ?_⟩⟩, fun h1 => ?_⟩⟩
    · rw [decide_eq_false (by omega)] at q'
      exact q'
    · decide
    · refine ⟨by decide, ?_⟩
      rw [decide_eq_true (by omega), Bool.true_and] at q'
      refine if_b ⟨fun hk => ?_, fun hk => ?_⟩
      · rw [show keptB x = true from hk] at q'; exact q'
      · rw [show keptB x = false from hk, Bool.not_false, Bool.true_and] at q'
        exact loop_letters (nx := fun b => Q (.sc (.bl b)) .st) (fun _ z => z) (fun z => z) _ _ q'
    · rw [decide_eq_false (by omega)] at q'
      exact q'
  · cases d with
    | sc v => cases v with
      | str x => exact absurd ⟨x, rfl⟩ hd
      | non => simp only [s_seq, s_nil, s_if, s_ret, s_retN, s_set, s_for, s_while, i_seq, i_ps, e_c, e_k, e_op, e_cb, e_call, e_and, e_or, e_not, e_chain, e_neg, e_tup, e_lst, e_sl, e_rev, e_dnew, e_dnewT, e_get2, o_none, o_some, t_of, t_op, t_and, t_or, t_not, t_chain, t_yes, a_nil, a_cons, brs, tyOks, isTy, subQ, fdivQ, modQ, powQ, eqQ, neQ, sizeL, enumAQ_l, enumAQ_t, str_one, str_app, startE, wipeE, e_lc, e_step, e_sm1, e_sm0, osOf, En.frz, P.frz, g_name, s_expr, s_asg, s_pass, s_break, s_cont, List.getElem?_cons_zero, List.getElem?_cons_succ, List.getElem?_nil, List.set_cons_zero, List.set_cons_succ, List.map_cons, List.map_nil, List.replicate_zero, List.replicate_succ, List.cons_append, List.nil_append, List.append_nil, List.length_cons, List.length_nil, List.any_cons, List.any_nil, Bool.not_true, Bool.not_false, Bool.false_or, Bool.or_false, Bool.true_or, Bool.or_true, Bool.and_true, Bool.true_and, Bool.false_and, Bool.and_false, if_true, if_false, ite_true, ite_false, Bool.false_eq_true, reduceIte, Nat.reduceAdd, Nat.reduceSub, Nat.zero_add, Nat.add_zero, true_and, and_true, Option.some.injEq, D.sc.injEq, V.bl.injEq, V.int.injEq, V.str.injEq, exists_eq_left', exists_eq_left, Bool.or_self, forall_const, imp_self, decide_eq_true_eq, Bool.not_eq_true', decide_eq_false_iff_not, Bool.not_eq_false, Decidable.not_not, implies_true, not_true_eq_false, not_false_eq_true, reduceCtorEq, false_imp, ne_eq, String.reduceBEq, Int.reducePow, Int.reduceToNat, Int.reduceLT, Int.reduceLE, Nat.reduceLeDiff, Nat.reduceLT, Nat.reduceMul, Int.reduceMul, Int.reduceAdd, Int.reduceSub, Int.reduceNeg, Nat.reducePow, or_true, true_or, List.length_map, List.isEmpty_cons, List.isEmpty_nil, addQ_i, addQ_s, addQ_l, addQ_t, iQ_i, mulQ_i, cmpQ_i, cmpQ_s, isQ_n, isQ_b, isNon_b, isNon_i, isNon_s, isNon_l, isNon_t, isNon_n, isNon_d, inQ_l, inQ_t, inQ_k, inQ_s, inQ_d, inQ_dt, ixQ_l, ixQ_t, ixQ_k, ixQ_s, ixQ_d, ixQ_dt, getQ_d, getQ_dt, key_i, key_s, slQ_l, slQ_t, slQ_s, optQ_i, revQ_l, negQ_i, truth_b, truth_i, truth_n, truth_s, truth_l, truth_t, blQ_b, bindS_st, bindS_ow, isBr_st, isBr_ow, isBr_br, itemsQ_l, itemsQ_t, itemsQ_s, g_tup_t, g_cons_c, g_nil_n, lenQ_l, lenQ_t, lenQ_s, lenQ_d, isiQ_t, ty_i, ty_s, ty_b, ty_n, ty_l, ty_t, ty_d, intQ_i, intQ_b, absQ_i, mmQ_i, listQ_l, listQ_t, listQ_k, tupleQ_l, tupleQ_t, sumQ_l, allQ_l, r1Q_i, r2Q_i, bne_false_S, bne_true_S, eqD_i, eqD_s, eqD_b, eqD_nn, eqD_ni, eqD_in, eqD_is, eqD_si, eqD_ln, eqD_nl, eqD_ll, eqD_l0, eqD_lc, eqD_cl, eqD_tt, eqD_t0, eqD_tc, eqD_ct, plain_i, plain_s, plain_b, plain_n, plain_l, plain_t, plainL_c, plainL_n, dep_sc, dep_l, dep_t, depL_c, depL_n, flatR_sc, slotAt_0, slotAt_s, e_var_eq, varQ_sh, varQ_ow, s_retv_eq, retQ_sh, retQ_ow, s_frz_eq, frzQ_sh, frzQ_ow, s_meth_eq, methQ_l, s_methset_eq, methsQ_l, s_setix_eq, setixQ_ow, e_lkd_eq, lkdQ_d, lkdQ_t, lkdQ_od, lkdQ_ot, s_lkd_eq, lkS_d, lkS_t, i_items_eq, itmS_d, i_keys_eq, keyS_d, keyS_t, i_vals_eq, valS_d, stepQ_l, isLst_l, strD_s, joinQ_l, strQ_i, strQ_s, dictQ_l, sortedLQ_l, setQ_l, setQ_d, setQ_t, appendQ_1, List.length_set]; exact q
      | bl => simp only [s_seq, s_nil, s_if, s_ret, s_retN, s_set, s_for, s_while, i_seq, i_ps, e_c, e_k, e_op, e_cb, e_call, e_and, e_or, e_not, e_chain, e_neg, e_tup, e_lst, e_sl, e_rev, e_dnew, e_dnewT, e_get2, o_none, o_some, t_of, t_op, t_and, t_or, t_not, t_chain, t_yes, a_nil, a_cons, brs, tyOks, isTy, subQ, fdivQ, modQ, powQ, eqQ, neQ, sizeL, enumAQ_l, enumAQ_t, str_one, str_app, startE, wipeE, e_lc, e_step, e_sm1, e_sm0, osOf, En.frz, P.frz, g_name, s_expr, s_asg, s_pass, s_break, s_cont, List.getElem?_cons_zero, List.getElem?_cons_succ, List.getElem?_nil, List.set_cons_zero, List.set_cons_succ, List.map_cons, List.map_nil, List.replicate_zero, List.replicate_succ, List.cons_append, List.nil_append, List.append_nil, List.length_cons, List.length_nil, List.any_cons, List.any_nil, Bool.not_true, Bool.not_false, Bool.false_or, Bool.or_false, Bool.true_or, Bool.or_true, Bool.and_true, Bool.true_and, Bool.false_and, Bool.and_false, if_true, if_false, ite_true, ite_false, Bool.false_eq_true, reduceIte, Nat.reduceAdd, Nat.reduceSub, Nat.zero_add, Nat.add_zero, true_and, and_true, Option.some.injEq, D.sc.injEq, V.bl.injEq, V.int.injEq, V.str.injEq, exists_eq_left', exists_eq_left, Bool.or_self, forall_const, imp_self, decide_eq_true_eq, Bool.not_eq_true', decide_eq_false_iff_not, Bool.not_eq_false, Decidable.not_not, implies_true, not_true_eq_false, not_false_eq_true, reduceCtorEq, false_imp, ne_eq, String.reduceBEq, Int.reducePow, Int.reduceToNat, Int.reduceLT, Int.reduceLE, Nat.reduceLeDiff, Nat.reduceLT, Nat.reduceMul, Int.reduceMul, Int.reduceAdd, Int.reduceSub, Int.reduceNeg, Nat.reducePow, or_true, true_or, List.length_map, List.isEmpty_cons, List.isEmpty_nil, addQ_i, addQ_s, addQ_l, addQ_t, iQ_i, mulQ_i, cmpQ_i, cmpQ_s, isQ_n, isQ_b, isNon_b, isNon_i, isNon_s, isNon_l, isNon_t, isNon_n, isNon_d, inQ_l, inQ_t, inQ_k, inQ_s, inQ_d, inQ_dt, ixQ_l, ixQ_t, ixQ_k, ixQ_s, ixQ_d, ixQ_dt, getQ_d, getQ_dt, key_i, key_s, slQ_l, slQ_t, slQ_s, optQ_i, revQ_l, negQ_i, truth_b, truth_i, truth_n, truth_s, truth_l, truth_t, blQ_b, bindS_st, bindS_ow, isBr_st, isBr_ow, isBr_br, itemsQ_l, itemsQ_t, itemsQ_s, g_tup_t, g_cons_c, g_nil_n, lenQ_l, lenQ_t, lenQ_s, lenQ_d, isiQ_t, ty_i, ty_s, ty_b, ty_n, ty_l, ty_t, ty_d, intQ_i, intQ_b, absQ_i, mmQ_i, listQ_l, listQ_t, listQ_k, tupleQ_l, tupleQ_t, sumQ_l, allQ_l, r1Q_i, r2Q_i, bne_false_S, bne_true_S, eqD_i, eqD_s, eqD_b, eqD_nn, eqD_ni, eqD_in, eqD_is, eqD_si, eqD_ln, eqD_nl, eqD_ll, eqD_l0, eqD_lc, eqD_cl, eqD_tt, eqD_t0, eqD_tc, eqD_ct, plain_i, plain_s, plain_b, plain_n, plain_l, plain_t, plainL_c, plainL_n, dep_sc, dep_l, dep_t, depL_c, depL_n, flatR_sc, slotAt_0, slotAt_s, e_var_eq, varQ_sh, varQ_ow, s_retv_eq, retQ_sh, retQ_ow, s_frz_eq, frzQ_sh, frzQ_ow, s_meth_eq, methQ_l, s_methset_eq, methsQ_l, s_setix_eq, setixQ_ow, e_lkd_eq, lkdQ_d, lkdQ_t, lkdQ_od, lkdQ_ot, s_lkd_eq, lkS_d, lkS_t, i_items_eq, itmS_d, i_keys_eq, keyS_d, keyS_t, i_vals_eq, valS_d, stepQ_l, isLst_l, strD_s, joinQ_l, strQ_i, strQ_s, dictQ_l, sortedLQ_l, setQ_l, setQ_d, setQ_t, appendQ_1, List.length_set]; exact q
      | int => simp only [s_seq, s_nil, s_if, s_ret, s_retN, s_set, s_for, s_while, i_seq, i_ps, e_c, e_k, e_op, e_cb, e_call, e_and, e_or, e_not, e_chain, e_neg, e_tup, e_lst, e_sl, e_rev, e_dnew, e_dnewT, e_get2, o_none, o_some, t_of, t_op, t_and, t_or, t_not, t_chain, t_yes, a_nil, a_cons, brs, tyOks, isTy, subQ, fdivQ, modQ, powQ, eqQ, neQ, sizeL, enumAQ_l, enumAQ_t, str_one, str_app, startE, wipeE, e_lc, e_step, e_sm1, e_sm0, osOf, En.frz, P.frz, g_name, s_expr, s_asg, s_pass, s_break, s_cont, List.getElem?_cons_zero, List.getElem?_cons_succ, List.getElem?_nil, List.set_cons_zero, List.set_cons_succ, List.map_cons, List.map_nil, List.replicate_zero, List.replicate_succ, List.cons_append, List.nil_append, List.append_nil, List.length_cons, List.length_nil, List.any_cons, List.any_nil, Bool.not_true, Bool.not_false, Bool.false_or, Bool.or_false, Bool.true_or, Bool.or_true, Bool.and_true, Bool.true_and, Bool.false_and, Bool.and_false, if_true, if_false, ite_true, ite_false, Bool.false_eq_true, reduceIte, Nat.reduceAdd, Nat.reduceSub, Nat.zero_add, Nat.add_zero, true_and, and_true, Option.some.injEq, D.sc.injEq, V.bl.injEq, V.int.injEq, V.str.injEq, exists_eq_left', exists_eq_left, Bool.or_self, forall_const, imp_self, decide_eq_true_eq, Bool.not_eq_true', decide_eq_false_iff_not, Bool.not_eq_false, Decidable.not_not, implies_true, not_true_eq_false, not_false_eq_true, reduceCtorEq, false_imp, ne_eq, String.reduceBEq, Int.reducePow, Int.reduceToNat, Int.reduceLT, Int.reduceLE, Nat.reduceLeDiff, Nat.reduceLT, Nat.reduceMul, Int.reduceMul, Int.reduceAdd, Int.reduceSub, Int.reduceNeg, Nat.reducePow, or_true, true_or, List.length_map, List.isEmpty_cons, List.isEmpty_nil, addQ_i, addQ_s, addQ_l, addQ_t, iQ_i, mulQ_i, cmpQ_i, cmpQ_s, isQ_n, isQ_b, isNon_b, isNon_i, isNon_s, isNon_l, isNon_t, isNon_n, isNon_d, inQ_l, inQ_t, inQ_k, inQ_s, inQ_d, inQ_dt, ixQ_l, ixQ_t, ixQ_k, ixQ_s, ixQ_d, ixQ_dt, getQ_d, getQ_dt, key_i, key_s, slQ_l, slQ_t, slQ_s, optQ_i, revQ_l, negQ_i, truth_b, truth_i, truth_n, truth_s, truth_l, truth_t, blQ_b, bindS_st, bindS_ow, isBr_st, isBr_ow, isBr_br, itemsQ_l, itemsQ_t, itemsQ_s, g_tup_t, g_cons_c, g_nil_n, lenQ_l, lenQ_t, lenQ_s, lenQ_d, isiQ_t, ty_i, ty_s, ty_b, ty_n, ty_l, ty_t, ty_d, intQ_i, intQ_b, absQ_i, mmQ_i, listQ_l, listQ_t, listQ_k, tupleQ_l, tupleQ_t, sumQ_l, allQ_l, r1Q_i, r2Q_i, bne_false_S, bne_true_S, eqD_i, eqD_s, eqD_b, eqD_nn, eqD_ni, eqD_in, eqD_is, eqD_si, eqD_ln, eqD_nl, eqD_ll, eqD_l0, eqD_lc, eqD_cl, eqD_tt, eqD_t0, eqD_tc, eqD_ct, plain_i, plain_s, plain_b, plain_n, plain_l, plain_t, plainL_c, plainL_n, dep_sc, dep_l, dep_t, depL_c, depL_n, flatR_sc, slotAt_0, slotAt_s, e_var_eq, varQ_sh, varQ_ow, s_retv_eq, retQ_sh, retQ_ow, s_frz_eq, frzQ_sh, frzQ_ow, s_meth_eq, methQ_l, s_methset_eq, methsQ_l, s_setix_eq, setixQ_ow, e_lkd_eq, lkdQ_d, lkdQ_t, lkdQ_od, lkdQ_ot, s_lkd_eq, lkS_d, lkS_t, i_items_eq, itmS_d, i_keys_eq, keyS_d, keyS_t, i_vals_eq, valS_d, stepQ_l, isLst_l, strD_s, joinQ_l, strQ_i, strQ_s, dictQ_l, sortedLQ_l, setQ_l, setQ_d, setQ_t, appendQ_1, List.length_set]; exact q
      | _ => cases ht
    | tup => simp only [s_seq, s_nil, s_if, s_ret, s_retN, s_set, s_for, s_while, i_seq, i_ps, e_c, e_k, e_op, e_cb, e_call, e_and, e_or, e_not, e_chain, e_neg, e_tup, e_lst, e_sl, e_rev, e_dnew, e_dnewT, e_get2, o_none, o_some, t_of, t_op, t_and, t_or, t_not, t_chain, t_yes, a_nil, a_cons, brs, tyOks, isTy, subQ, fdivQ, modQ, powQ, eqQ, neQ, sizeL, enumAQ_l, enumAQ_t, str_one, str_app, startE, wipeE, e_lc, e_step, e_sm1, e_sm0, osOf, En.frz, P.frz, g_name, s_expr, s_asg, s_pass, s_break, s_cont, List.getElem?_cons_zero, List.getElem?_cons_succ, List.getElem?_nil, List.set_cons_zero, List.set_cons_succ, List.map_cons, List.map_nil, List.replicate_zero, List.replicate_succ, List.cons_append, List.nil_append, List.append_nil, List.length_cons, List.length_nil, List.any_cons, List.any_nil, Bool.not_true, Bool.not_false, Bool.false_or, Bool.or_false, Bool.true_or, Bool.or_true, Bool.and_true, Bool.true_and, Bool.false_and, Bool.and_false, if_true, if_false, ite_true, ite_false, Bool.false_eq_true, reduceIte, Nat.reduceAdd, Nat.reduceSub, Nat.zero_add, Nat.add_zero, true_and, and_true, Option.some.injEq, D.sc.injEq, V.bl.injEq, V.int.injEq, V.str.injEq, exists_eq_left', exists_eq_left, Bool.or_self, forall_const, imp_self, decide_eq_true_eq, Bool.not_eq_true', decide_eq_false_iff_not, Bool.not_eq_false, Decidable.not_not, implies_true, not_true_eq_false, not_false_eq_true, reduceCtorEq, false_imp, ne_eq, String.reduceBEq, Int.reducePow, Int.reduceToNat, Int.reduceLT, Int.reduceLE, Nat.reduceLeDiff, Nat.reduceLT, Nat.reduceMul, Int.reduceMul, Int.reduceAdd, Int.reduceSub, Int.reduceNeg, Nat.reducePow, or_true, true_or, List.length_map, List.isEmpty_cons, List.isEmpty_nil, addQ_i, addQ_s, addQ_l, addQ_t, iQ_i, mulQ_i, cmpQ_i, cmpQ_s, isQ_n, isQ_b, isNon_b, isNon_i, isNon_s, isNon_l, isNon_t, isNon_n, isNon_d, inQ_l, inQ_t, inQ_k, inQ_s, inQ_d, inQ_dt, ixQ_l, ixQ_t, ixQ_k, ixQ_s, ixQ_d, ixQ_dt, getQ_d, getQ_dt, key_i, key_s, slQ_l, slQ_t, slQ_s, optQ_i, revQ_l, negQ_i, truth_b, truth_i, truth_n, truth_s, truth_l, truth_t, blQ_b, bindS_st, bindS_ow, isBr_st, isBr_ow, isBr_br, itemsQ_l, itemsQ_t, itemsQ_s, g_tup_t, g_cons_c, g_nil_n, lenQ_l, lenQ_t, lenQ_s, lenQ_d, isiQ_t, ty_i, ty_s, ty_b, ty_n, ty_l, ty_t, ty_d, intQ_i, intQ_b, absQ_i, mmQ_i, listQ_l, listQ_t, listQ_k, tupleQ_l, tupleQ_t, sumQ_l, allQ_l, r1Q_i, r2Q_i, bne_false_S, bne_true_S, eqD_i, eqD_s, eqD_b, eqD_nn, eqD_ni, eqD_in, eqD_is, eqD_si, eqD_ln, eqD_nl, eqD_ll, eqD_l0, eqD_lc, eqD_cl, eqD_tt, eqD_t0, eqD_tc, eqD_ct, plain_i, plain_s, plain_b, plain_n, plain_l, plain_t, plainL_c, plainL_n, dep_sc, dep_l, dep_t, depL_c, depL_n, flatR_sc, slotAt_0, slotAt_s, e_var_eq, varQ_sh, varQ_ow, s_retv_eq, retQ_sh, retQ_ow, s_frz_eq, frzQ_sh, frzQ_ow, s_meth_eq, methQ_l, s_methset_eq, methsQ_l, s_setix_eq, setixQ_ow, e_lkd_eq, lkdQ_d, lkdQ_t, lkdQ_od, lkdQ_ot, s_lkd_eq, lkS_d, lkS_t, i_items_eq, itmS_d, i_keys_eq, keyS_d, keyS_t, i_vals_eq, valS_d, stepQ_l, isLst_l, strD_s, joinQ_l, strQ_i, strQ_s, dictQ_l, sortedLQ_l, setQ_l, setQ_d, setQ_t, appendQ_1, List.length_set]; exact q
    | lst => simp only [s_seq, s_nil, s_if, s_ret, s_retN, s_set, s_for, s_while, i_seq, i_ps, e_c, e_k, e_op, e_cb, e_call, e_and, e_or, e_not, e_chain, e_neg, e_tup, e_lst, e_sl, e_rev, e_dnew, e_dnewT, e_get2, o_none, o_some, t_of, t_op, t_and, t_or, t_not, t_chain, t_yes, a_nil, a_cons, brs, tyOks, isTy, subQ, fdivQ, modQ, powQ, eqQ, neQ, sizeL, enumAQ_l, enumAQ_t, str_one, str_app, startE, wipeE, e_lc, e_step, e_sm1, e_sm0, osOf, En.frz, P.frz, g_name, s_expr, s_asg, s_pass, s_break, s_cont, List.getElem?_cons_zero, List.getElem?_cons_succ, List.getElem?_nil, List.set_cons_zero, List.set_cons_succ, List.map_cons, List.map_nil, List.replicate_zero, List.replicate_succ, List.cons_append, List.nil_append, List.append_nil, List.length_cons, List.length_nil, List.any_cons, List.any_nil, Bool.not_true, Bool.not_false, Bool.false_or, Bool.or_false, Bool.true_or, Bool.or_true, Bool.and_true, Bool.true_and, Bool.false_and, Bool.and_false, if_true, if_false, ite_true, ite_false, Bool.false_eq_true, reduceIte, Nat.reduceAdd, Nat.reduceSub, Nat.zero_add, Nat.add_zero, true_and, and_true, Option.some.injEq, D.sc.injEq, V.bl.injEq, V.int.injEq, V.str.injEq, exists_eq_left', exists_eq_left, Bool.or_self, forall_const, imp_self, decide_eq_true_eq, Bool.not_eq_true', decide_eq_false_iff_not, Bool.not_eq_false, Decidable.not_not, implies_true, not_true_eq_false, not_false_eq_true, reduceCtorEq, false_imp, ne_eq, String.reduceBEq, Int.reducePow, Int.reduceToNat, Int.reduceLT, Int.reduceLE, Nat.reduceLeDiff, Nat.reduceLT, Nat.reduceMul, Int.reduceMul, Int.reduceAdd, Int.reduceSub, Int.reduceNeg, Nat.reducePow, or_true, true_or, List.length_map, List.isEmpty_cons, List.isEmpty_nil, addQ_i, addQ_s, addQ_l, addQ_t, iQ_i, mulQ_i, cmpQ_i, cmpQ_s, isQ_n, isQ_b, isNon_b, isNon_i, isNon_s, isNon_l, isNon_t, isNon_n, isNon_d, inQ_l, inQ_t, inQ_k, inQ_s, inQ_d, inQ_dt, ixQ_l, ixQ_t, ixQ_k, ixQ_s, ixQ_d, ixQ_dt, getQ_d, getQ_dt, key_i, key_s, slQ_l, slQ_t, slQ_s, optQ_i, revQ_l, negQ_i, truth_b, truth_i, truth_n, truth_s, truth_l, truth_t, blQ_b, bindS_st, bindS_ow, isBr_st, isBr_ow, isBr_br, itemsQ_l, itemsQ_t, itemsQ_s, g_tup_t, g_cons_c, g_nil_n, lenQ_l, lenQ_t, lenQ_s, lenQ_d, isiQ_t, ty_i, ty_s, ty_b, ty_n, ty_l, ty_t, ty_d, intQ_i, intQ_b, absQ_i, mmQ_i, listQ_l, listQ_t, listQ_k, tupleQ_l, tupleQ_t, sumQ_l, allQ_l, r1Q_i, r2Q_i, bne_false_S, bne_true_S, eqD_i, eqD_s, eqD_b, eqD_nn, eqD_ni, eqD_in, eqD_is, eqD_si, eqD_ln, eqD_nl, eqD_ll, eqD_l0, eqD_lc, eqD_cl, eqD_tt, eqD_t0, eqD_tc, eqD_ct, plain_i, plain_s, plain_b, plain_n, plain_l, plain_t, plainL_c, plainL_n, dep_sc, dep_l, dep_t, depL_c, depL_n, flatR_sc, slotAt_0, slotAt_s, e_var_eq, varQ_sh, varQ_ow, s_retv_eq, retQ_sh, retQ_ow, s_frz_eq, frzQ_sh, frzQ_ow, s_meth_eq, methQ_l, s_methset_eq, methsQ_l, s_setix_eq, setixQ_ow, e_lkd_eq, lkdQ_d, lkdQ_t, lkdQ_od, lkdQ_ot, s_lkd_eq, lkS_d, lkS_t, i_items_eq, itmS_d, i_keys_eq, keyS_d, keyS_t, i_vals_eq, valS_d, stepQ_l, isLst_l, strD_s, joinQ_l, strQ_i, strQ_s, dictQ_l, sortedLQ_l, setQ_l, setQ_d, setQ_t, appendQ_1, List.length_set]; exact q
    | dic => simp only [s_seq, s_nil, s_if, s_ret, s_retN, s_set, s_for, s_while, i_seq, i_ps, e_c, e_k, e_op, e_cb, e_call, e_and, e_or, e_not, e_chain, e_neg, e_tup, e_lst, e_sl, e_rev, e_dnew, e_dnewT, e_get2, o_none, o_some, t_of, t_op, t_and, t_or, t_not, t_chain, t_yes, a_nil, a_cons, brs, tyOks, isTy, subQ, fdivQ, modQ, powQ, eqQ, neQ, sizeL, enumAQ_l, enumAQ_t, str_one, str_app, startE, wipeE, e_lc, e_step, e_sm1, e_sm0, osOf, En.frz, P.frz, g_name, s_expr, s_asg, s_pass, s_break, s_cont, List.getElem?_cons_zero, List.getElem?_cons_succ, List.getElem?_nil, List.set_cons_zero, List.set_cons_succ, List.map_cons, List.map_nil, List.replicate_zero, List.replicate_succ, List.cons_append, List.nil_append, List.append_nil, List.length_cons, List.length_nil, List.any_cons, List.any_nil, Bool.not_true, Bool.not_false, Bool.false_or, Bool.or_false, Bool.true_or, Bool.or_true, Bool.and_true, Bool.true_and, Bool.false_and, Bool.and_false, if_true, if_false, ite_true, ite_false, Bool.false_eq_true, reduceIte, Nat.reduceAdd, Nat.reduceSub, Nat.zero_add, Nat.add_zero, true_and, and_true, Option.some.injEq, D.sc.injEq, V.bl.injEq, V.int.injEq, V.str.injEq, exists_eq_left', exists_eq_left, Bool.or_self, forall_const, imp_self, decide_eq_true_eq, Bool.not_eq_true', decide_eq_false_iff_not, Bool.not_eq_false, Decidable.not_not, implies_true, not_true_eq_false, not_false_eq_true, reduceCtorEq, false_imp, ne_eq, String.reduceBEq, Int.reducePow, Int.reduceToNat, Int.reduceLT, Int.reduceLE, Nat.reduceLeDiff, Nat.reduceLT, Nat.reduceMul, Int.reduceMul, Int.reduceAdd, Int.reduceSub, Int.reduceNeg, Nat.reducePow, or_true, true_or, List.length_map, List.isEmpty_cons, List.isEmpty_nil, addQ_i, addQ_s, addQ_l, addQ_t, iQ_i, mulQ_i, cmpQ_i, cmpQ_s, isQ_n, isQ_b, isNon_b, isNon_i, isNon_s, isNon_l, isNon_t, isNon_n, isNon_d, inQ_l, inQ_t, inQ_k, inQ_s, inQ_d, inQ_dt, ixQ_l, ixQ_t, ixQ_k, ixQ_s, ixQ_d, ixQ_dt, getQ_d, getQ_dt, key_i, key_s, slQ_l, slQ_t, slQ_s, optQ_i, revQ_l, negQ_i, truth_b, truth_i, truth_n, truth_s, truth_l, truth_t, blQ_b, bindS_st, bindS_ow, isBr_st, isBr_ow, isBr_br, itemsQ_l, itemsQ_t, itemsQ_s, g_tup_t, g_cons_c, g_nil_n, lenQ_l, lenQ_t, lenQ_s, lenQ_d, isiQ_t, ty_i, ty_s, ty_b, ty_n, ty_l, ty_t, ty_d, intQ_i, intQ_b, absQ_i, mmQ_i, listQ_l, listQ_t, listQ_k, tupleQ_l, tupleQ_t, sumQ_l, allQ_l, r1Q_i, r2Q_i, bne_false_S, bne_true_S, eqD_i, eqD_s, eqD_b, eqD_nn, eqD_ni, eqD_in, eqD_is, eqD_si, eqD_ln, eqD_nl, eqD_ll, eqD_l0, eqD_lc, eqD_cl, eqD_tt, eqD_t0, eqD_tc, eqD_ct, plain_i, plain_s, plain_b, plain_n, plain_l, plain_t, plainL_c, plainL_n, dep_sc, dep_l, dep_t, depL_c, depL_n, flatR_sc, slotAt_0, slotAt_s, e_var_eq, varQ_sh, varQ_ow, s_retv_eq, retQ_sh, retQ_ow, s_frz_eq, frzQ_sh, frzQ_ow, s_meth_eq, methQ_l, s_methset_eq, methsQ_l, s_setix_eq, setixQ_ow, e_lkd_eq, lkdQ_d, lkdQ_t, lkdQ_od, lkdQ_ot, s_lkd_eq, lkS_d, lkS_t, i_items_eq, itmS_d, i_keys_eq, keyS_d, keyS_t, i_vals_eq, valS_d, stepQ_l, isLst_l, strD_s, joinQ_l, strQ_i, strQ_s, dictQ_l, sortedLQ_l, setQ_l, setQ_d, setQ_t, appendQ_1, List.length_set]; exact q
    | _ => cases ht
def isDeg : D → Bool
  | .sc (.int i) => decide (0 ≤ i ∧ i ≤ 1000000000000000000000000000000)
  | _ => false
def C_is_degree : Ct := fun ds Q => match ds with
  | [d] => d.ty.isSome = true ∧ Q (.sc (.bl (isDeg d))) .st
  | _ => False
theorem pure_is_degree (ds : List D) (Q : D → Md → Prop) (h : C_is_degree ds Q) : g_is_degree (startE ["thing"] ds) (osOf Q) := by
  unfold C_is_degree at h
  split at h
  case h_2 => exact h.elim
  rename_i d
  obtain ⟨ht, q⟩ := h
  unfold g_is_degree
  cases d with
    | sc v => cases v with
      | str x => simp only [s_seq, s_nil, s_if, s_ret, s_retN, s_set, s_for, s_while, i_seq, i_ps, e_c, e_k, e_op, e_cb, e_call, e_and, e_or, e_not, e_chain, e_neg, e_tup, e_lst, e_sl, e_rev, e_dnew, e_dnewT, e_get2, o_none, o_some, t_of, t_op, t_and, t_or, t_not, t_chain, t_yes, a_nil, a_cons, brs, tyOks, isTy, subQ, fdivQ, modQ, powQ, eqQ, neQ, sizeL, enumAQ_l, enumAQ_t, str_one, str_app, startE, wipeE, e_lc, e_step, e_sm1, e_sm0, osOf, En.frz, P.frz, g_name, s_expr, s_asg, s_pass, s_break, s_cont, List.getElem?_cons_zero, List.getElem?_cons_succ, List.getElem?_nil, List.set_cons_zero, List.set_cons_succ, List.map_cons, List.map_nil, List.replicate_zero, List.replicate_succ, List.cons_append, List.nil_append, List.append_nil, List.length_cons, List.length_nil, List.any_cons, List.any_nil, Bool.not_true, Bool.not_false, Bool.false_or, Bool.or_false, Bool.true_or, Bool.or_true, Bool.and_true, Bool.true_and, Bool.false_and, Bool.and_false, if_true, if_false, ite_true, ite_false, Bool.false_eq_true, reduceIte, Nat.reduceAdd, Nat.reduceSub, Nat.zero_add, Nat.add_zero, true_and, and_true, Option.some.injEq, D.sc.injEq, V.bl.injEq, V.int.injEq, V.str.injEq, exists_eq_left', exists_eq_left, Bool.or_self, forall_const, imp_self, decide_eq_true_eq, Bool.not_eq_true', decide_eq_false_iff_not, Bool.not_eq_false, Decidable.not_not, implies_true, not_true_eq_false, not_false_eq_true, reduceCtorEq, false_imp, ne_eq, String.reduceBEq, Int.reducePow, Int.reduceToNat, Int.reduceLT, Int.reduceLE, Nat.reduceLeDiff, Nat.reduceLT, Nat.reduceMul, Int.reduceMul, Int.reduceAdd, Int.reduceSub, Int.reduceNeg, Nat.reducePow, or_true, true_or, List.length_map, List.isEmpty_cons, List.isEmpty_nil, addQ_i, addQ_s, addQ_l, addQ_t, iQ_i, mulQ_i, cmpQ_i, cmpQ_s, isQ_n, isQ_b, isNon_b, isNon_i, isNon_s, isNon_l, isNon_t, isNon_n, isNon_d, inQ_l, inQ_t, inQ_k, inQ_s, inQ_d, inQ_dt, ixQ_l, ixQ_t, ixQ_k, ixQ_s, ixQ_d, ixQ_dt, getQ_d, getQ_dt, key_i, key_s, slQ_l, slQ_t, slQ_s, optQ_i, revQ_l, negQ_i, truth_b, truth_i, truth_n, truth_s, truth_l, truth_t, blQ_b, bindS_st, bindS_ow, isBr_st, isBr_ow, isBr_br, itemsQ_l, itemsQ_t, itemsQ_s, g_tup_t, g_cons_c, g_nil_n, lenQ_l, lenQ_t, lenQ_s, lenQ_d, isiQ_t, ty_i, ty_s, ty_b, ty_n, ty_l, ty_t, ty_d, intQ_i, intQ_b, absQ_i, mmQ_i, listQ_l, listQ_t, listQ_k, tupleQ_l, tupleQ_t, sumQ_l, allQ_l, r1Q_i, r2Q_i, bne_false_S, bne_true_S, eqD_i, eqD_s, eqD_b, eqD_nn, eqD_ni, eqD_in, eqD_is, eqD_si, eqD_ln, eqD_nl, eqD_ll, eqD_l0, eqD_lc, eqD_cl, eqD_tt, eqD_t0, eqD_tc, eqD_ct, plain_i, plain_s, plain_b, plain_n, plain_l, plain_t, plainL_c, plainL_n, dep_sc, dep_l, dep_t, depL_c, depL_n, flatR_sc, slotAt_0, slotAt_s, e_var_eq, varQ_sh, varQ_ow, s_retv_eq, retQ_sh, retQ_ow, s_frz_eq, frzQ_sh, frzQ_ow, s_meth_eq, methQ_l, s_methset_eq, methsQ_l, s_setix_eq, setixQ_ow, e_lkd_eq, lkdQ_d, lkdQ_t, lkdQ_od, lkdQ_ot, s_lkd_eq, lkS_d, lkS_t, i_items_eq, itmS_d, i_keys_eq, keyS_d, keyS_t, i_vals_eq, valS_d, stepQ_l, isLst_l, strD_s, joinQ_l, strQ_i, strQ_s, dictQ_l, sortedLQ_l, setQ_l, setQ_d, setQ_t, appendQ_1, List.length_set]; exact q
      | non => simp only [s_seq, s_nil, s_if, s_ret, s_retN, s_set, s_for, s_while, i_seq, i_ps, e_c, e_k, e_op, e_cb, e_call, e_and, e_or, e_not, e_chain, e_neg, e_tup, e_lst, e_sl, e_rev, e_dnew, e_dnewT, e_get2, o_none, o_some, t_of, t_op, t_and, t_or, t_not, t_chain, t_yes, a_nil, a_cons, brs, tyOks, isTy, subQ, fdivQ, modQ, powQ, eqQ, neQ, sizeL, enumAQ_l, enumAQ_t, str_one, str_app, startE, wipeE, e_lc, e_step, e_sm1, e_sm0, osOf, En.frz, P.frz, g_name, s_expr, s_asg, s_pass, s_break, s_cont, List.getElem?_cons_zero, List.getElem?_cons_succ, List.getElem?_nil, List.set_cons_zero, List.set_cons_succ, List.map_cons, List.map_nil, List.replicate_zero, List.replicate_succ, List.cons_append, List.nil_append, List.append_nil, List.length_cons, List.length_nil, List.any_cons, List.any_nil, Bool.not_true, Bool.not_false, Bool.false_or, Bool.or_false, Bool.true_or, Bool.or_true, Bool.and_true, Bool.true_and, Bool.false_and, Bool.and_false, if_true, if_false, ite_true, ite_false, Bool.false_eq_true, reduceIte, Nat.reduceAdd, Nat.reduceSub, Nat.zero_add, Nat.add_zero, true_and, and_true, Option.some.injEq, D.sc.injEq, V.bl.injEq, V.int.injEq, V.str.injEq, exists_eq_left', exists_eq_left, Bool.or_self, forall_const, imp_self, decide_eq_true_eq, Bool.not_eq_true', decide_eq_false_iff_not, Bool.not_eq_false, Decidable.not_not, implies_true, not_true_eq_false, not_false_eq_true, reduceCtorEq, false_imp, ne_eq, String.reduceBEq, Int.reducePow, Int.reduceToNat, Int.reduceLT, Int.reduceLE, Nat.reduceLeDiff, Nat.reduceLT, Nat.reduceMul, Int.reduceMul, Int.reduceAdd, Int.reduceSub, Int.reduceNeg, Nat.reducePow, or_true, true_or, List.length_map, List.isEmpty_cons, List.isEmpty_nil, addQ_i, addQ_s, addQ_l, addQ_t, iQ_i, mulQ_i, cmpQ_i, cmpQ_s, isQ_n, isQ_b, isNon_b, isNon_i, isNon_s, isNon_l, isNon_t, isNon_n, isNon_d, inQ_l, inQ_t, inQ_k, inQ_s, inQ_d, inQ_dt, ixQ_l, ixQ_t, ixQ_k, ixQ_s, ixQ_d, ixQ_dt, getQ_d, getQ_dt, key_i, key_s, slQ_l, slQ_t, slQ_s, optQ_i, revQ_l, negQ_i, truth_b, truth_i, truth_n, truth_s, truth_l, truth_t, blQ_b, bindS_st, bindS_ow, isBr_st, isBr_ow, isBr_br, itemsQ_l, itemsQ_t, itemsQ_s, g_tup_t, g_cons_c, g_nil_n, lenQ_l, lenQ_t, lenQ_s, lenQ_d, isiQ_t, ty_i, ty_s, ty_b, ty_n, ty_l, ty_t, ty_d, intQ_i, intQ_b, absQ_i, mmQ_i, listQ_l, listQ_t, listQ_k, tupleQ_l, tupleQ_t, sumQ_l, allQ_l, r1Q_i, r2Q_i, bne_false_S, bne_true_S, eqD_i, eqD_s, eqD_b, eqD_nn, eqD_ni, eqD_in, eqD_is, eqD_si, eqD_ln, eqD_nl, eqD_ll, eqD_l0, eqD_lc, eqD_cl, eqD_tt, eqD_t0, eqD_tc, eqD_ct, plain_i, plain_s, plain_b, plain_n, plain_l, plain_t, plainL_c, plainL_n, dep_sc, dep_l, dep_t, depL_c, depL_n, flatR_sc, slotAt_0, slotAt_s, e_var_eq, varQ_sh, varQ_ow, s_retv_eq, retQ_sh, retQ_ow, s_frz_eq, frzQ_sh, frzQ_ow, s_meth_eq, methQ_l, s_methset_eq, methsQ_l, s_setix_eq, setixQ_ow, e_lkd_eq, lkdQ_d, lkdQ_t, lkdQ_od, lkdQ_ot, s_lkd_eq, lkS_d, lkS_t, i_items_eq, itmS_d, i_keys_eq, keyS_d, keyS_t, i_vals_eq, valS_d, stepQ_l, isLst_l, strD_s, joinQ_l, strQ_i, strQ_s, dictQ_l, sortedLQ_l, setQ_l, setQ_d, setQ_t, appendQ_1, List.length_set]; exact q
      | bl => simp only [s_seq, s_nil, s_if, s_ret, s_retN, s_set, s_for, s_while, i_seq, i_ps, e_c, e_k, e_op, e_cb, e_call, e_and, e_or, e_not, e_chain, e_neg, e_tup, e_lst, e_sl, e_rev, e_dnew, e_dnewT, e_get2, o_none, o_some, t_of, t_op, t_and, t_or, t_not, t_chain, t_yes, a_nil, a_cons, brs, tyOks, isTy, subQ, fdivQ, modQ, powQ, eqQ, neQ, sizeL, enumAQ_l, enumAQ_t, str_one, str_app, startE, wipeE, e_lc, e_step, e_sm1, e_sm0, osOf, En.frz, P.frz, g_name, s_expr, s_asg, s_pass, s_break, s_cont, List.getElem?_cons_zero, List.getElem?_cons_succ, List.getElem?_nil, List.set_cons_zero, List.set_cons_succ, List.map_cons, List.map_nil, List.replicate_zero, List.replicate_succ, List.cons_append, List.nil_append, List.append_nil, List.length_cons, List.length_nil, List.any_cons, List.any_nil, Bool.not_true, Bool.not_false, Bool.false_or, Bool.or_false, Bool.true_or, Bool.or_true, Bool.and_true, Bool.true_and, Bool.false_and, Bool.and_false, if_true, if_false, ite_true, ite_false, Bool.false_eq_true, reduceIte, Nat.reduceAdd, Nat.reduceSub, Nat.zero_add, Nat.add_zero, true_and, and_true, Option.some.injEq, D.sc.injEq, V.bl.injEq, V.int.injEq, V.str.injEq, exists_eq_left', exists_eq_left, Bool.or_self, forall_const, imp_self, decide_eq_true_eq, Bool.not_eq_true', decide_eq_false_iff_not, Bool.not_eq_false, Decidable.not_not, implies_true, not_true_eq_false, not_false_eq_true, reduceCtorEq, false_imp, ne_eq, String.reduceBEq, Int.reducePow, Int.reduceToNat, Int.reduceLT, Int.reduceLE, Nat.reduceLeDiff, Nat.reduceLT, Nat.reduceMul, Int.reduceMul, Int.reduceAdd, Int.reduceSub, Int.reduceNeg, Nat.reducePow, or_true, true_or, List.length_map, List.isEmpty_cons, List.isEmpty_nil, addQ_i, addQ_s, addQ_l, addQ_t, iQ_i, mulQ_i, cmpQ_i, cmpQ_s, isQ_n, isQ_b, isNon_b, isNon_i, isNon_s, isNon_l, isNon_t, isNon_n, isNon_d, inQ_l, inQ_t, inQ_k, inQ_s, inQ_d, inQ_dt, ixQ_l, ixQ_t, ixQ_k, ixQ_s, ixQ_d, ixQ_dt, getQ_d, getQ_dt, key_i, key_s, slQ_l, slQ_t, slQ_s, optQ_i, revQ_l, negQ_i, truth_b, truth_i, truth_n, truth_s, truth_l, truth_t, blQ_b, bindS_st, bindS_ow, isBr_st, isBr_ow, isBr_br, itemsQ_l, itemsQ_t, itemsQ_s, g_tup_t, g_cons_c, g_nil_n, lenQ_l, lenQ_t, lenQ_s, lenQ_d, isiQ_t, ty_i, ty_s, ty_b, ty_n, ty_l, ty_t, ty_d, intQ_i, intQ_b, absQ_i, mmQ_i, listQ_l, listQ_t, listQ_k, tupleQ_l, tupleQ_t, sumQ_l, allQ_l, r1Q_i, r2Q_i, bne_false_S, bne_true_S, eqD_i, eqD_s, eqD_b, eqD_nn, eqD_ni, eqD_in, eqD_is, eqD_si, eqD_ln, eqD_nl, eqD_ll, eqD_l0, eqD_lc, eqD_cl, eqD_tt, eqD_t0, eqD_tc, eqD_ct, plain_i, plain_s, plain_b, plain_n, plain_l, plain_t, plainL_c, plainL_n, dep_sc, dep_l, dep_t, depL_c, depL_n, flatR_sc, slotAt_0, slotAt_s, e_var_eq, varQ_sh, varQ_ow, s_retv_eq, retQ_sh, retQ_ow, s_frz_eq, frzQ_sh, frzQ_ow, s_meth_eq, methQ_l, s_methset_eq, methsQ_l, s_setix_eq, setixQ_ow, e_lkd_eq, lkdQ_d, lkdQ_t, lkdQ_od, lkdQ_ot, s_lkd_eq, lkS_d, lkS_t, i_items_eq, itmS_d, i_keys_eq, keyS_d, keyS_t, i_vals_eq, valS_d, stepQ_l, isLst_l, strD_s, joinQ_l, strQ_i, strQ_s, dictQ_l, sortedLQ_l, setQ_l, setQ_d, setQ_t, appendQ_1, List.length_set]; exact q
      | int i =>
        simp only [s_seq, s_nil, s_if, s_ret, s_retN, s_set, s_for, s_while, i_seq, i_ps, e_c, e_k, e_op, e_cb, e_call, e_and, e_or, e_not, e_chain, e_neg, e_tup, e_lst, e_sl, e_rev, e_dnew, e_dnewT, e_get2, o_none, o_some, t_of, t_op, t_and, t_or, t_not, t_chain, t_yes, a_nil, a_cons, brs, tyOks, isTy, subQ, fdivQ, modQ, powQ, eqQ, neQ, sizeL, enumAQ_l, enumAQ_t, str_one, str_app, startE, wipeE, e_lc, e_step, e_sm1, e_sm0, osOf, En.frz, P.frz, g_name, s_expr, s_asg, s_pass, s_break, s_cont, List.getElem?_cons_zero, List.getElem?_cons_succ, List.getElem?_nil, List.set_cons_zero, List.set_cons_succ, List.map_cons, List.map_nil, List.replicate_zero, List.replicate_succ, List.cons_append, List.nil_append, List.append_nil, List.length_cons, List.length_nil, List.any_cons, List.any_nil, Bool.not_true, Bool.not_false, Bool.false_or, Bool.or_false, Bool.true_or, Bool.or_true, Bool.and_true, Bool.true_and, Bool.false_and, Bool.and_false, if_true, if_false, ite_true, ite_false, Bool.false_eq_true, reduceIte, Nat.reduceAdd, Nat.reduceSub, Nat.zero_add, Nat.add_zero, true_and, and_true, Option.some.injEq, D.sc.injEq, V.bl.injEq, V.int.injEq, V.str.injEq, exists_eq_left', exists_eq_left, Bool.or_self, forall_const, imp_self, decide_eq_true_eq, Bool.not_eq_true', decide_eq_false_iff_not, Bool.not_eq_false, Decidable.not_not, implies_true, not_true_eq_false, not_false_eq_true, reduceCtorEq, false_imp, ne_eq, String.reduceBEq, Int.reducePow, Int.reduceToNat, Int.reduceLT, Int.reduceLE, Nat.reduceLeDiff, Nat.reduceLT, Nat.reduceMul, Int.reduceMul, Int.reduceAdd, Int.reduceSub, Int.reduceNeg, Nat.reducePow, or_true, true_or, List.length_map, List.isEmpty_cons, List.isEmpty_nil, addQ_i, addQ_s, addQ_l, addQ_t, iQ_i, mulQ_i, cmpQ_i, cmpQ_s, isQ_n, isQ_b, isNon_b, isNon_i, isNon_s, isNon_l, isNon_t, isNon_n, isNon_d, inQ_l, inQ_t, inQ_k, inQ_s, inQ_d, inQ_dt, ixQ_l, ixQ_t, ixQ_k, ixQ_s, ixQ_d, ixQ_dt, getQ_d, getQ_dt, key_i, key_s, slQ_l, slQ_t, slQ_s, optQ_i, revQ_l, negQ_i, truth_b, truth_i, truth_n, truth_s, truth_l, truth_t, blQ_b, bindS_st, bindS_ow, isBr_st, isBr_ow, isBr_br, itemsQ_l, itemsQ_t, itemsQ_s, g_tup_t, g_cons_c, g_nil_n, lenQ_l, lenQ_t, lenQ_s, lenQ_d, isiQ_t, ty_i, ty_s, ty_b, ty_n, ty_l, ty_t, ty_d, intQ_i, intQ_b, absQ_i, mmQ_i, listQ_l, listQ_t, listQ_k, tupleQ_l, tupleQ_t, sumQ_l, allQ_l, r1Q_i, r2Q_i, bne_false_S, bne_true_S, eqD_i, eqD_s, eqD_b, eqD_nn, eqD_ni, eqD_in, eqD_is, eqD_si, eqD_ln, eqD_nl, eqD_ll, eqD_l0, eqD_lc, eqD_cl, eqD_tt, eqD_t0, eqD_tc, eqD_ct, plain_i, plain_s, plain_b, plain_n, plain_l, plain_t, plainL_c, plainL_n, dep_sc, dep_l, dep_t, depL_c, depL_n, flatR_sc, slotAt_0, slotAt_s, e_var_eq, varQ_sh, varQ_ow, s_retv_eq, retQ_sh, retQ_ow, s_frz_eq, frzQ_sh, frzQ_ow, s_meth_eq, methQ_l, s_methset_eq, methsQ_l, s_setix_eq, setixQ_ow, e_lkd_eq, lkdQ_d, lkdQ_t, lkdQ_od, lkdQ_ot, s_lkd_eq, lkS_d, lkS_t, i_items_eq, itmS_d, i_keys_eq, keyS_d, keyS_t, i_vals_eq, valS_d, stepQ_l, isLst_l, strD_s, joinQ_l, strQ_i, strQ_s, dictQ_l, sortedLQ_l, setQ_l, setQ_d, setQ_t, appendQ_1, List.length_set, k_TOP]
        have q' : Q (.sc (.bl (decide (0 ≤ i ∧ i ≤ 1000000000000000000000000000000)))) .st := q
        refine if_bl ⟨fun h => ?_, fun h => ?_⟩
        · rw [show decide (0 ≤ i ∧ i ≤ 1000000000000000000000000000000) = decide (i ≤ 1000000000000000000000000000000) by rw [decide_eq_decide]; omega] at q'
          exact q'
        · rw [decide_eq_false (by omega)] at q'
          exact q'
      | _ => cases ht
    | tup => simp only [s_seq, s_nil, s_if, s_ret, s_retN, s_set, s_for, s_while, i_seq, i_ps, e_c, e_k, e_op, e_cb, e_call, e_and, e_or, e_not, e_chain, e_neg, e_tup, e_lst, e_sl, e_rev, e_dnew, e_dnewT, e_get2, o_none, o_some, t_of, t_op, t_and, t_or, t_not, t_chain, t_yes, a_nil, a_cons, brs, tyOks, isTy, subQ, fdivQ, modQ, powQ, eqQ, neQ, sizeL, enumAQ_l, enumAQ_t, str_one, str_app, startE, wipeE, e_lc, e_step, e_sm1, e_sm0, osOf, En.frz, P.frz, g_name, s_expr, s_asg, s_pass, s_break, s_cont, List.getElem?_cons_zero, List.getElem?_cons_succ, List.getElem?_nil, List.set_cons_zero, List.set_cons_succ, List.map_cons, List.map_nil, List.replicate_zero, List.replicate_succ, List.cons_append, List.nil_append, List.append_nil, List.length_cons, List.length_nil, List.any_cons, List.any_nil, Bool.not_true, Bool.not_false, Bool.false_or, Bool.or_false, Bool.true_or, Bool.or_true, Bool.and_true, Bool.true_and, Bool.false_and, Bool.and_false, if_true, if_false, ite_true, ite_false, Bool.false_eq_true, reduceIte, Nat.reduceAdd, Nat.reduceSub, Nat.zero_add, Nat.add_zero, true_and, and_true, Option.some.injEq, D.sc.injEq, V.bl.injEq, V.int.injEq, V.str.injEq, exists_eq_left', exists_eq_left, Bool.or_self, forall_const, imp_self, decide_eq_true_eq, Bool.not_eq_true', decide_eq_false_iff_not, Bool.not_eq_false, Decidable.not_not, implies_true, not_true_eq_false, not_false_eq_true, reduceCtorEq, false_imp, ne_eq, String.reduceBEq, Int.reducePow, Int.reduceToNat, Int.reduceLT, Int.reduceLE, Nat.reduceLeDiff, Nat.reduceLT, Nat.reduceMul, Int.reduceMul, Int.reduceAdd, Int.reduceSub, Int.reduceNeg, Nat.reducePow, or_true, true_or, List.length_map, List.isEmpty_cons, List.isEmpty_nil, addQ_i, addQ_s, addQ_l, addQ_t, iQ_i, mulQ_i, cmpQ_i, cmpQ_s, isQ_n, isQ_b, isNon_b, isNon_i, isNon_s, isNon_l, isNon_t, isNon_n, isNon_d, inQ_l, inQ_t, inQ_k, inQ_s, inQ_d, inQ_dt, ixQ_l, ixQ_t, ixQ_k, ixQ_s, ixQ_d, ixQ_dt, getQ_d, getQ_dt, key_i, key_s, slQ_l, slQ_t, slQ_s, optQ_i, revQ_l, negQ_i, truth_b, truth_i, truth_n, truth_s, truth_l, truth_t, blQ_b, bindS_st, bindS_ow, isBr_st, isBr_ow, isBr_br, itemsQ_l, itemsQ_t, itemsQ_s, g_tup_t, g_cons_c, g_nil_n, lenQ_l, lenQ_t, lenQ_s, lenQ_d, isiQ_t, ty_i, ty_s, ty_b, ty_n, ty_l, ty_t, ty_d, intQ_i, intQ_b, absQ_i, mmQ_i, listQ_l, listQ_t, listQ_k, tupleQ_l, tupleQ_t, sumQ_l, allQ_l, r1Q_i, r2Q_i, bne_false_S, bne_true_S, eqD_i, eqD_s, eqD_b, eqD_nn, eqD_ni, eqD_in, eqD_is, eqD_si, eqD_ln, eqD_nl, eqD_ll, eqD_l0, eqD_lc, eqD_cl, eqD_tt, eqD_t0, eqD_tc, eqD_ct, plain_i, plain_s, plain_b, plain_n, plain_l, plain_t, plainL_c, plainL_n, dep_sc, dep_l, dep_t, depL_c, depL_n, flatR_sc, slotAt_0, slotAt_s, e_var_eq, varQ_sh, varQ_ow, s_retv_eq, retQ_sh, retQ_ow, s_frz_eq, frzQ_sh, frzQ_ow, s_meth_eq, methQ_l, s_methset_eq, methsQ_l, s_setix_eq, setixQ_ow, e_lkd_eq, lkdQ_d, lkdQ_t, lkdQ_od, lkdQ_ot, s_lkd_eq, lkS_d, lkS_t, i_items_eq, itmS_d, i_keys_eq, keyS_d, keyS_t, i_vals_eq, valS_d, stepQ_l, isLst_l, strD_s, joinQ_l, strQ_i, strQ_s, dictQ_l, sortedLQ_l, setQ_l, setQ_d, setQ_t, appendQ_1, List.length_set]; exact q
    | lst => simp only [s_seq, s_nil, s_if, s_ret, s_retN, s_set, s_for, s_while, i_seq, i_ps, e_c, e_k, e_op, e_cb, e_call, e_and, e_or, e_not, e_chain, e_neg, e_tup, e_lst, e_sl, e_rev, e_dnew, e_dnewT, e_get2, o_none, o_some, t_of, t_op, t_and, t_or, t_not, t_chain, t_yes, a_nil, a_cons, brs, tyOks, isTy, subQ, fdivQ, modQ, powQ, eqQ, neQ, sizeL, enumAQ_l, enumAQ_t, str_one, str_app, startE, wipeE, e_lc, e_step, e_sm1, e_sm0, osOf, En.frz, P.frz, g_name, s_expr, s_asg, s_pass, s_break, s_cont, List.getElem?_cons_zero, List.getElem?_cons_succ, List.getElem?_nil, List.set_cons_zero, List.set_cons_succ, List.map_cons, List.map_nil, List.replicate_zero, List.replicate_succ, List.cons_append, List.nil_append, List.append_nil, List.length_cons, List.length_nil, List.any_cons, List.any_nil, Bool.not_true, Bool.not_false, Bool.false_or, Bool.or_false, Bool.true_or, Bool.or_true, Bool.and_true, Bool.true_and, Bool.false_and, Bool.and_false, if_true, if_false, ite_true, ite_false, Bool.false_eq_true, reduceIte, Nat.reduceAdd, Nat.reduceSub, Nat.zero_add, Nat.add_zero, true_and, and_true, Option.some.injEq, D.sc.injEq, V.bl.injEq, V.int.injEq, V.str.injEq, exists_eq_left', exists_eq_left, Bool.or_self, forall_const, imp_self, decide_eq_true_eq, Bool.not_eq_true', decide_eq_false_iff_not, Bool.not_eq_false, Decidable.not_not, implies_true, not_true_eq_false, not_false_eq_true, reduceCtorEq, false_imp, ne_eq, String.reduceBEq, Int.reducePow, Int.reduceToNat, Int.reduceLT, Int.reduceLE, Nat.reduceLeDiff, Nat.reduceLT, Nat.reduceMul, Int.reduceMul, Int.reduceAdd, Int.reduceSub, Int.reduceNeg, Nat.reducePow, or_true, true_or, List.length_map, List.isEmpty_cons, List.isEmpty_nil, addQ_i, addQ_s, addQ_l, addQ_t, iQ_i, mulQ_i, cmpQ_i, cmpQ_s, isQ_n, isQ_b, isNon_b, isNon_i, isNon_s, isNon_l, isNon_t, isNon_n, isNon_d, inQ_l, inQ_t, inQ_k, inQ_s, inQ_d, inQ_dt, ixQ_l, ixQ_t, ixQ_k, ixQ_s, ixQ_d, ixQ_dt, getQ_d, getQ_dt, key_i, key_s, slQ_l, slQ_t, slQ_s, optQ_i, revQ_l, negQ_i, truth_b, truth_i, truth_n, truth_s, truth_l, truth_t, blQ_b, bindS_st, bindS_ow, isBr_st, isBr_ow, isBr_br, itemsQ_l, itemsQ_t, itemsQ_s, g_tup_t, g_cons_c, g_nil_n, lenQ_l, lenQ_t, lenQ_s, lenQ_d, isiQ_t, ty_i, ty_s, ty_b, ty_n, ty_l, ty_t, ty_d, intQ_i, intQ_b, absQ_i, mmQ_i, listQ_l, listQ_t, listQ_k, tupleQ_l, tupleQ_t, sumQ_l, allQ_l, r1Q_i, r2Q_i, bne_false_S, bne_true_S, eqD_i, eqD_s, eqD_b, eqD_nn, eqD_ni, eqD_in, eqD_is, eqD_si, eqD_ln, eqD_nl, eqD_ll, eqD_l0, eqD_lc, eqD_cl, eqD_tt, eqD_t0, eqD_tc, eqD_ct, plain_i, plain_s, plain_b, plain_n, plain_l, plain_t, plainL_c, plainL_n, dep_sc, dep_l, dep_t, depL_c, depL_n, flatR_sc, slotAt_0, slotAt_s, e_var_eq, varQ_sh, varQ_ow, s_retv_eq, retQ_sh, retQ_ow, s_frz_eq, frzQ_sh, frzQ_ow, s_meth_eq, methQ_l, s_methset_eq, methsQ_l, s_setix_eq, setixQ_ow, e_lkd_eq, lkdQ_d, lkdQ_t, lkdQ_od, lkdQ_ot, s_lkd_eq, lkS_d, lkS_t, i_items_eq, itmS_d, i_keys_eq, keyS_d, keyS_t, i_vals_eq, valS_d, stepQ_l, isLst_l, strD_s, joinQ_l, strQ_i, strQ_s, dictQ_l, sortedLQ_l, setQ_l, setQ_d, setQ_t, appendQ_1, List.length_set]; exact q
    | dic => simp only [s_seq, s_nil, s_if, s_ret, s_retN, s_set, s_for, s_while, i_seq, i_ps, e_c, e_k, e_op, e_cb, e_call, e_and, e_or, e_not, e_chain, e_neg, e_tup, e_lst, e_sl, e_rev, e_dnew, e_dnewT, e_get2, o_none, o_some, t_of, t_op, t_and, t_or, t_not, t_chain, t_yes, a_nil, a_cons, brs, tyOks, isTy, subQ, fdivQ, modQ, powQ, eqQ, neQ, sizeL, enumAQ_l, enumAQ_t, str_one, str_app, startE, wipeE, e_lc, e_step, e_sm1, e_sm0, osOf, En.frz, P.frz, g_name, s_expr, s_asg, s_pass, s_break, s_cont, List.getElem?_cons_zero, List.getElem?_cons_succ, List.getElem?_nil, List.set_cons_zero, List.set_cons_succ, List.map_cons, List.map_nil, List.replicate_zero, List.replicate_succ, List.cons_append, List.nil_append, List.append_nil, List.length_cons, List.length_nil, List.any_cons, List.any_nil, Bool.not_true, Bool.not_false, Bool.false_or, Bool.or_false, Bool.true_or, Bool.or_true, Bool.and_true, Bool.true_and, Bool.false_and, Bool.and_false, if_true, if_false, ite_true, ite_false, Bool.false_eq_true, reduceIte, Nat.reduceAdd, Nat.reduceSub, Nat.zero_add, Nat.add_zero, true_and, and_true, Option.some.injEq, D.sc.injEq, V.bl.injEq, V.int.injEq, V.str.injEq, exists_eq_left', exists_eq_left, Bool.or_self, forall_const, imp_self, decide_eq_true_eq, Bool.not_eq_true', decide_eq_false_iff_not, Bool.not_eq_false, Decidable.not_not, implies_true, not_true_eq_false, not_false_eq_true, reduceCtorEq, false_imp, ne_eq, String.reduceBEq, Int.reducePow, Int.reduceToNat, Int.reduceLT, Int.reduceLE, Nat.reduceLeDiff, Nat.reduceLT, Nat.reduceMul, Int.reduceMul, Int.reduceAdd, Int.reduceSub, Int.reduceNeg, Nat.reducePow, or_true, true_or, List.length_map, List.isEmpty_cons, List.isEmpty_nil, addQ_i, addQ_s, addQ_l, addQ_t, iQ_i, mulQ_i, cmpQ_i, cmpQ_s, isQ_n, isQ_b, isNon_b, isNon_i, isNon_s, isNon_l, isNon_t, isNon_n, isNon_d, inQ_l, inQ_t, inQ_k, inQ_s, inQ_d, inQ_dt, ixQ_l, ixQ_t, ixQ_k, ixQ_s, ixQ_d, ixQ_dt, getQ_d, getQ_dt, key_i, key_s, slQ_l, slQ_t, slQ_s, optQ_i, revQ_l, negQ_i, truth_b, truth_i, truth_n, truth_s, truth_l, truth_t, blQ_b, bindS_st, bindS_ow, isBr_st, isBr_ow, isBr_br, itemsQ_l, itemsQ_t, itemsQ_s, g_tup_t, g_cons_c, g_nil_n, lenQ_l, lenQ_t, lenQ_s, lenQ_d, isiQ_t, ty_i, ty_s, ty_b, ty_n, ty_l, ty_t, ty_d, intQ_i, intQ_b, absQ_i, mmQ_i, listQ_l, listQ_t, listQ_k, tupleQ_l, tupleQ_t, sumQ_l, allQ_l, r1Q_i, r2Q_i, bne_false_S, bne_true_S, eqD_i, eqD_s, eqD_b, eqD_nn, eqD_ni, eqD_in, eqD_is, eqD_si, eqD_ln, eqD_nl, eqD_ll, eqD_l0, eqD_lc, eqD_cl, eqD_tt, eqD_t0, eqD_tc, eqD_ct, plain_i, plain_s, plain_b, plain_n, plain_l, plain_t, plainL_c, plainL_n, dep_sc, dep_l, dep_t, depL_c, depL_n, flatR_sc, slotAt_0, slotAt_s, e_var_eq, varQ_sh, varQ_ow, s_retv_eq, retQ_sh, retQ_ow, s_frz_eq, frzQ_sh, frzQ_ow, s_meth_eq, methQ_l, s_methset_eq, methsQ_l, s_setix_eq, setixQ_ow, e_lkd_eq, lkdQ_d, lkdQ_t, lkdQ_od, lkdQ_ot, s_lkd_eq, lkS_d, lkS_t, i_items_eq, itmS_d, i_keys_eq, keyS_d, keyS_t, i_vals_eq, valS_d, stepQ_l, isLst_l, strD_s, joinQ_l, strQ_i, strQ_s, dictQ_l, sortedLQ_l, setQ_l, setQ_d, setQ_t, appendQ_1, List.length_set]; exact q
    | _ => cases ht
def g_sorted_pack : Sx := s_ret (e_cb (tupleQ) (a_cons (e_cb (sortedLQ) (a_cons (e_lkd 0 (e_lc (i_items 0) (g_tup 2 (g_cons (g_name 1) (g_cons (g_name 2) (g_nil)))) (t_op (gtQ) (e_var 2) (e_c (.int 0))) (e_tup (a_cons (e_var 1) (a_cons (e_var 2) (a_nil)))) [1, 2])) (a_nil))) (a_nil)))
abbrev C_sorted_pack : Ct := C__law_sorted
theorem pure_sorted_pack (ds : List D) (Q : D → Md → Prop) (h : C_sorted_pack ds Q) : g_sorted_pack (startE ["degrees", "name", "number"] ds) (osOf Q) := pure__law_sorted ds Q h
def maxV : List Pr → Str → Int
  | [], _ => 0
  | p :: ps, x => if p.1 = x then max p.2 (maxV ps x) else maxV ps x
theorem maxV_nn : ∀ (ps : List Pr) (x : Str), 0 ≤ maxV ps x
  | [], _ => Int.le_refl 0
  | p :: ps, x => by
    have := maxV_nn ps x
    unfold maxV
    split <;> omega
theorem maxV_app : ∀ (ps qs : List Pr) (x : Str), maxV (ps ++ qs) x = max (maxV ps x) (maxV qs x)
  | [], qs, x => by
    have := maxV_nn qs x
    show maxV qs x = max 0 (maxV qs x)
    omega
  | p :: ps, qs, x => by
    have ih := maxV_app ps qs x
    show (if p.1 = x then max p.2 (maxV (ps ++ qs) x) else maxV (ps ++ qs) x) = max (if p.1 = x then max p.2 (maxV ps x) else maxV ps x) (maxV qs x)
    rw [ih]
    split <;> omega
def g_pack : Sx := s_seq (s_set 1 (e_dnew)) (s_seq (s_frz 0 (s_for (i_seq (e_var 0)) (g_tup 2 (g_cons (g_name 2) (g_cons (g_name 3) (g_nil)))) (s_seq (s_if (t_or (t_not (t_of (e_call 1 C_is_name (a_cons (e_var 2) (a_nil))))) (t_not (t_of (e_call 1 C_is_degree (a_cons (e_var 3) (a_nil)))))) (s_never) (s_nil)) (s_setix 1 (e_var 2) (e_cb (mmQ max) (a_cons (e_var 3) (a_cons (e_get2 (e_var 1) (e_var 2) (e_c (.int 0))) (a_nil)))))))) (s_ret (e_call 1 C_sorted_pack (a_cons (e_var 1) (a_nil)))))
def C_pack : Ct := fun ds Q => ∃ ps : List Pr, ds = [.lst (ps.map prD)] ∧ dgP ps ∧ ps.length ≤ 10000 ∧ ∀ rs, IsP rs → rs.length ≤ ps.length → (∀ x, valP rs x = maxV ps x) → Q (packD rs) .st
theorem pure_pack (ds : List D) (Q : D → Md → Prop) (h : C_pack ds Q) : g_pack (startE ["pairs", "degrees", "name", "number"] ds) (osOf Q) := by
  obtain ⟨ps, rfl, hg, hl, q⟩ := h
  unfold g_pack
  simp only [s_seq, s_nil, s_if, s_ret, s_retN, s_set, s_for, s_while, i_seq, i_ps, e_c, e_k, e_op, e_cb, e_call, e_and, e_or, e_not, e_chain, e_neg, e_tup, e_lst, e_sl, e_rev, e_dnew, e_dnewT, e_get2, o_none, o_some, t_of, t_op, t_and, t_or, t_not, t_chain, t_yes, a_nil, a_cons, brs, tyOks, isTy, subQ, fdivQ, modQ, powQ, eqQ, neQ, sizeL, enumAQ_l, enumAQ_t, str_one, str_app, startE, wipeE, e_lc, e_step, e_sm1, e_sm0, osOf, En.frz, P.frz, g_name, s_expr, s_asg, s_pass, s_break, s_cont, List.getElem?_cons_zero, List.getElem?_cons_succ, List.getElem?_nil, List.set_cons_zero, List.set_cons_succ, List.map_cons, List.map_nil, List.replicate_zero, List.replicate_succ, List.cons_append, List.nil_append, List.append_nil, List.length_cons, List.length_nil, List.any_cons, List.any_nil, Bool.not_true, Bool.not_false, Bool.false_or, Bool.or_false, Bool.true_or, Bool.or_true, Bool.and_true, Bool.true_and, Bool.false_and, Bool.and_false, if_true, if_false, ite_true, ite_false, Bool.false_eq_true, reduceIte, Nat.reduceAdd, Nat.reduceSub, Nat.zero_add, Nat.add_zero, true_and, and_true, Option.some.injEq, D.sc.injEq, V.bl.injEq, V.int.injEq, V.str.injEq, exists_eq_left', exists_eq_left, Bool.or_self, forall_const, imp_self, decide_eq_true_eq, Bool.not_eq_true', decide_eq_false_iff_not, Bool.not_eq_false, Decidable.not_not, implies_true, not_true_eq_false, not_false_eq_true, reduceCtorEq, false_imp, ne_eq, String.reduceBEq, Int.reducePow, Int.reduceToNat, Int.reduceLT, Int.reduceLE, Nat.reduceLeDiff, Nat.reduceLT, Nat.reduceMul, Int.reduceMul, Int.reduceAdd, Int.reduceSub, Int.reduceNeg, Nat.reducePow, or_true, true_or, List.length_map, List.isEmpty_cons, List.isEmpty_nil, addQ_i, addQ_s, addQ_l, addQ_t, iQ_i, mulQ_i, cmpQ_i, cmpQ_s, isQ_n, isQ_b, isNon_b, isNon_i, isNon_s, isNon_l, isNon_t, isNon_n, isNon_d, inQ_l, inQ_t, inQ_k, inQ_s, inQ_d, inQ_dt, ixQ_l, ixQ_t, ixQ_k, ixQ_s, ixQ_d, ixQ_dt, getQ_d, getQ_dt, key_i, key_s, slQ_l, slQ_t, slQ_s, optQ_i, revQ_l, negQ_i, truth_b, truth_i, truth_n, truth_s, truth_l, truth_t, blQ_b, bindS_st, bindS_ow, isBr_st, isBr_ow, isBr_br, itemsQ_l, itemsQ_t, itemsQ_s, g_tup_t, g_cons_c, g_nil_n, lenQ_l, lenQ_t, lenQ_s, lenQ_d, isiQ_t, ty_i, ty_s, ty_b, ty_n, ty_l, ty_t, ty_d, intQ_i, intQ_b, absQ_i, mmQ_i, listQ_l, listQ_t, listQ_k, tupleQ_l, tupleQ_t, sumQ_l, allQ_l, r1Q_i, r2Q_i, bne_false_S, bne_true_S, eqD_i, eqD_s, eqD_b, eqD_nn, eqD_ni, eqD_in, eqD_is, eqD_si, eqD_ln, eqD_nl, eqD_ll, eqD_l0, eqD_lc, eqD_cl, eqD_tt, eqD_t0, eqD_tc, eqD_ct, plain_i, plain_s, plain_b, plain_n, plain_l, plain_t, plainL_c, plainL_n, dep_sc, dep_l, dep_t, depL_c, depL_n, flatR_sc, slotAt_0, slotAt_s, e_var_eq, varQ_sh, varQ_ow, s_retv_eq, retQ_sh, retQ_ow, s_frz_eq, frzQ_sh, frzQ_ow, s_meth_eq, methQ_l, s_methset_eq, methsQ_l, s_setix_eq, setixQ_ow, e_lkd_eq, lkdQ_d, lkdQ_t, lkdQ_od, lkdQ_ot, s_lkd_eq, lkS_d, lkS_t, i_items_eq, itmS_d, i_keys_eq, keyS_d, keyS_t, i_vals_eq, valS_d, stepQ_l, isLst_l, strD_s, joinQ_l, strQ_i, strQ_s, dictQ_l, sortedLQ_l, setQ_l, setQ_d, setQ_t, appendQ_1, List.length_set]
  refine seq_loop (fun j env => ∃ (rs : List Pr) (a b : Sl), env = [.sh (.lst (ps.map prD)), .ow (dicSI rs), a, b] ∧ rs.length ≤ j ∧ dgP rs ∧ KU rs ∧ ∀ x, valP rs x = maxV (ps.take j) x) ⟨[], .no, .no, rfl, Nat.le_refl _, (fun _ z => nomatch z), List.nodup_nil, fun x => rfl⟩ ?_ ?_
  · rintro env ⟨rs, a, b, rfl, hl2, hd, hk, hv⟩
    rw [List.length_map] at hl2 hv
    rw [List.take_length] at hv
    have hn : nnP rs := fun p m => (hd p m).2.1
    simp only [s_seq, s_nil, s_if, s_ret, s_retN, s_set, s_for, s_while, i_seq, i_ps, e_c, e_k, e_op, e_cb, e_call, e_and, e_or, e_not, e_chain, e_neg, e_tup, e_lst, e_sl, e_rev, e_dnew, e_dnewT, e_get2, o_none, o_some, t_of, t_op, t_and, t_or, t_not, t_chain, t_yes, a_nil, a_cons, brs, tyOks, isTy, subQ, fdivQ, modQ, powQ, eqQ, neQ, sizeL, enumAQ_l, enumAQ_t, str_one, str_app, startE, wipeE, e_lc, e_step, e_sm1, e_sm0, osOf, En.frz, P.frz, g_name, s_expr, s_asg, s_pass, s_break, s_cont, List.getElem?_cons_zero, List.getElem?_cons_succ, List.getElem?_nil, List.set_cons_zero, List.set_cons_succ, List.map_cons, List.map_nil, List.replicate_zero, List.replicate_succ, List.cons_append, List.nil_append, List.append_nil, List.length_cons, List.length_nil, List.any_cons, List.any_nil, Bool.not_true, Bool.not_false, Bool.false_or, Bool.or_false, Bool.true_or, Bool.or_true, Bool.and_true, Bool.true_and, Bool.false_and, Bool.and_false, if_true, if_false, ite_true, ite_false, Bool.false_eq_true, reduceIte, Nat.reduceAdd, Nat.reduceSub, Nat.zero_add, Nat.add_zero, true_and, and_true, Option.some.injEq, D.sc.injEq, V.bl.injEq, V.int.injEq, V.str.injEq, exists_eq_left', exists_eq_left, Bool.or_self, forall_const, imp_self, decide_eq_true_eq, Bool.not_eq_true', decide_eq_false_iff_not, Bool.not_eq_false, Decidable.not_not, implies_true, not_true_eq_false, not_false_eq_true, reduceCtorEq, false_imp, ne_eq, String.reduceBEq, Int.reducePow, Int.reduceToNat, Int.reduceLT, Int.reduceLE, Nat.reduceLeDiff, Nat.reduceLT, Nat.reduceMul, Int.reduceMul, Int.reduceAdd, Int.reduceSub, Int.reduceNeg, Nat.reducePow, or_true, true_or, List.length_map, List.isEmpty_cons, List.isEmpty_nil, addQ_i, addQ_s, addQ_l, addQ_t, iQ_i, mulQ_i, cmpQ_i, cmpQ_s, isQ_n, isQ_b, isNon_b, isNon_i, isNon_s, isNon_l, isNon_t, isNon_n, isNon_d, inQ_l, inQ_t, inQ_k, inQ_s, inQ_d, inQ_dt, ixQ_l, ixQ_t, ixQ_k, ixQ_s, ixQ_d, ixQ_dt, getQ_d, getQ_dt, key_i, key_s, slQ_l, slQ_t, slQ_s, optQ_i, revQ_l, negQ_i, truth_b, truth_i, truth_n, truth_s, truth_l, truth_t, blQ_b, bindS_st, bindS_ow, isBr_st, isBr_ow, isBr_br, itemsQ_l, itemsQ_t, itemsQ_s, g_tup_t, g_cons_c, g_nil_n, lenQ_l, lenQ_t, lenQ_s, lenQ_d, isiQ_t, ty_i, ty_s, ty_b, ty_n, ty_l, ty_t, ty_d, intQ_i, intQ_b, absQ_i, mmQ_i, listQ_l, listQ_t, listQ_k, tupleQ_l, tupleQ_t, sumQ_l, allQ_l, r1Q_i, r2Q_i, bne_false_S, bne_true_S, eqD_i, eqD_s, eqD_b, eqD_nn, eqD_ni, eqD_in, eqD_is, eqD_si, eqD_ln, eqD_nl, eqD_ll, eqD_l0, eqD_lc, eqD_cl, eqD_tt, eqD_t0, eqD_tc, eqD_ct, plain_i, plain_s, plain_b, plain_n, plain_l, plain_t, plainL_c, plainL_n, dep_sc, dep_l, dep_t, depL_c, depL_n, flatR_sc, slotAt_0, slotAt_s, e_var_eq, varQ_sh, varQ_ow, s_retv_eq, retQ_sh, retQ_ow, s_frz_eq, frzQ_sh, frzQ_ow, s_meth_eq, methQ_l, s_methset_eq, methsQ_l, s_setix_eq, setixQ_ow, e_lkd_eq, lkdQ_d, lkdQ_t, lkdQ_od, lkdQ_ot, s_lkd_eq, lkS_d, lkS_t, i_items_eq, itmS_d, i_keys_eq, keyS_d, keyS_t, i_vals_eq, valS_d, stepQ_l, isLst_l, strD_s, joinQ_l, strQ_i, strQ_s, dictQ_l, sortedLQ_l, setQ_l, setQ_d, setQ_t, appendQ_1, List.length_set, C__law_sorted]
    exact ⟨rs, rfl, by omega, q _ (isP_mk hk) (Nat.le_trans pos_len hl2) fun x => by rw [sort_val hk hn, hv]⟩
  · rintro j d hj env ⟨rs, a, b, rfl, hl2, hd, hk, hv⟩ N hN
    rw [List.getElem?_map] at hj
    obtain ⟨p, hp1, rfl⟩ := Option.map_eq_some_iff.mp hj
    have hj2 := (List.getElem?_eq_some_iff.mp hp1).1
    obtain ⟨g1, g2, g3⟩ := hg p (List.mem_of_getElem? hp1)
    have ht : ps.take (j + 1) = ps.take j ++ [p] := by
      rw [List.take_succ_eq_append_getElem hj2]
      rw [List.getElem?_eq_getElem hj2] at hp1
      rw [Option.some.inj hp1]
    have i1 : ∀ w : Str, isName (.sc (.str w)) = nameB w := fun _ => rfl
    have i2 : ∀ w : Int, isDeg (.sc (.int w)) = decide (0 ≤ w ∧ w ≤ 1000000000000000000000000000000) := fun _ => rfl
    have hl3 := (nameB_len g1).2
    clear hj
    unfold prD at *
    simp only [s_seq, s_nil, s_if, s_ret, s_retN, s_set, s_for, s_while, i_seq, i_ps, e_c, e_k, e_op, e_cb, e_call, e_and, e_or, e_not, e_chain, e_neg, e_tup, e_lst, e_sl, e_rev, e_dnew, e_dnewT, e_get2, o_none, o_some, t_of, t_op, t_and, t_or, t_not, t_chain, t_yes, a_nil, a_cons, brs, tyOks, isTy, subQ, fdivQ, modQ, powQ, eqQ, neQ, sizeL, enumAQ_l, enumAQ_t, str_one, str_app, startE, wipeE, e_lc, e_step, e_sm1, e_sm0, osOf, En.frz, P.frz, g_name, s_expr, s_asg, s_pass, s_break, s_cont, List.getElem?_cons_zero, List.getElem?_cons_succ, List.getElem?_nil, List.set_cons_zero, List.set_cons_succ, List.map_cons, List.map_nil, List.replicate_zero, List.replicate_succ, List.cons_append, List.nil_append, List.append_nil, List.length_cons, List.length_nil, List.any_cons, List.any_nil, Bool.not_true, Bool.not_false, Bool.false_or, Bool.or_false, Bool.true_or, Bool.or_true, Bool.and_true, Bool.true_and, Bool.false_and, Bool.and_false, if_true, if_false, ite_true, ite_false, Bool.false_eq_true, reduceIte, Nat.reduceAdd, Nat.reduceSub, Nat.zero_add, Nat.add_zero, true_and, and_true, Option.some.injEq, D.sc.injEq, V.bl.injEq, V.int.injEq, V.str.injEq, exists_eq_left', exists_eq_left, Bool.or_self, forall_const, imp_self, decide_eq_true_eq, Bool.not_eq_true', decide_eq_false_iff_not, Bool.not_eq_false, Decidable.not_not, implies_true, not_true_eq_false, not_false_eq_true, reduceCtorEq, false_imp, ne_eq, String.reduceBEq, Int.reducePow, Int.reduceToNat, Int.reduceLT, Int.reduceLE, Nat.reduceLeDiff, Nat.reduceLT, Nat.reduceMul, Int.reduceMul, Int.reduceAdd, Int.reduceSub, Int.reduceNeg, Nat.reducePow, or_true, true_or, List.length_map, List.isEmpty_cons, List.isEmpty_nil, addQ_i, addQ_s, addQ_l, addQ_t, iQ_i, mulQ_i, cmpQ_i, cmpQ_s, isQ_n, isQ_b, isNon_b, isNon_i, isNon_s, isNon_l, isNon_t, isNon_n, isNon_d, inQ_l, inQ_t, inQ_k, inQ_s, inQ_d, inQ_dt, ixQ_l, ixQ_t, ixQ_k, ixQ_s, ixQ_d, ixQ_dt, getQ_d, getQ_dt, key_i, key_s, slQ_l, slQ_t, slQ_s, optQ_i, revQ_l, negQ_i, truth_b, truth_i, truth_n, truth_s, truth_l, truth_t, blQ_b, bindS_st, bindS_ow, isBr_st, isBr_ow, isBr_br, itemsQ_l, itemsQ_t, itemsQ_s, g_tup_t, g_cons_c, g_nil_n, lenQ_l, lenQ_t, lenQ_s, lenQ_d, isiQ_t, ty_i, ty_s, ty_b, ty_n, ty_l, ty_t, ty_d, intQ_i, intQ_b, absQ_i, mmQ_i, listQ_l, listQ_t, listQ_k, tupleQ_l, tupleQ_t, sumQ_l, allQ_l, r1Q_i, r2Q_i, bne_false_S, bne_true_S, eqD_i, eqD_s, eqD_b, eqD_nn, eqD_ni, eqD_in, eqD_is, eqD_si, eqD_ln, eqD_nl, eqD_ll, eqD_l0, eqD_lc, eqD_cl, eqD_tt, eqD_t0, eqD_tc, eqD_ct, plain_i, plain_s, plain_b, plain_n, plain_l, plain_t, plainL_c, plainL_n, dep_sc, dep_l, dep_t, depL_c, depL_n, flatR_sc, slotAt_0, slotAt_s, e_var_eq, varQ_sh, varQ_ow, s_retv_eq, retQ_sh, retQ_ow, s_frz_eq, frzQ_sh, frzQ_ow, s_meth_eq, methQ_l, s_methset_eq, methsQ_l, s_setix_eq, setixQ_ow, e_lkd_eq, lkdQ_d, lkdQ_t, lkdQ_od, lkdQ_ot, s_lkd_eq, lkS_d, lkS_t, i_items_eq, itmS_d, i_keys_eq, keyS_d, keyS_t, i_vals_eq, valS_d, stepQ_l, isLst_l, strD_s, joinQ_l, strQ_i, strQ_s, dictQ_l, sortedLQ_l, setQ_l, setQ_d, setQ_t, appendQ_1, List.length_set, C_is_name, C_is_degree, Option.isSome_some, i1, i2, g1, g2, g3, dicSI, getD_SI, put_SI]
    refine ⟨fun x e => by rw [← e]; omega, rfl, by omega, hN _ ⟨_, _, _, rfl, Nat.le_trans put_len (by omega), ?_, put_KU hk _ _, fun x => ?_⟩⟩
    · have h1 := maxV_nn (ps.take j) p.1
      refine put_dg hd g1 (by omega) ?_
      have : valP rs p.1 ≤ 1000000000000000000000000000000 := by
        unfold valP
        cases e : gVal rs p.1 with
        | none => show (0 : Int) ≤ _; omega
        | some m => exact (hd _ ((gVal_mem hk).mp e)).2.2
      omega
    · rw [put_val, ht, maxV_app, hv, hv]
      show _ = max _ (if p.1 = x then max p.2 0 else 0)
      have := maxV_nn (ps.take j) x
      by_cases e : p.1 = x
      · rw [if_pos e.symm, if_pos e, e]; omega
      · rw [if_neg (fun z => e z.symm), if_neg e]; omega
def C_degree : Ct := fun ds Q => ∃ (ps : List Pr) (x : Str), ds = [packD ps, .sc (.str x)] ∧ Q (.sc (.int (valP ps x))) .st
end P
namespace P
open PySem PySem.Spec PyProof.Rows L2
def cutN {α : Type} (xs : List α) (lo hi : Option Int) : List α := (xs.drop (HT.sIx xs.length 0 lo)).take (HT.sIx xs.length xs.length hi - HT.sIx xs.length 0 lo)
theorem cutD_map {α : Type} (f : α → D) (xs : List α) (lo hi : Option Int) : cutD (xs.map f) lo hi = (cutN xs lo hi).map f := by
  unfold cutD cutN
  rw [List.length_map, List.map_take, List.map_drop]
end P
namespace P
open PySem PySem.Spec PyProof.Rows L2
def overL (ps qs : List Pr) : List Str := (ps.filter fun p => decide (valP qs p.1 < p.2)).map (·.1)
def excP (ps qs : List Pr) : Int := (ps.map fun p => max 0 (p.2 - valP qs p.1)).sum
def leA (ps qs : List Pr) : Prop := ∀ x, valP ps x ≤ valP qs x
def C_over : Ct := fun ds Q => ∃ ps qs : List Pr, ds = [packD ps, packD qs] ∧ ps.length ≤ 10000 ∧ Q (strsD (overL ps qs)) .ow
def C_within : Ct := fun ds Q => ∃ ps qs : List Pr, ds = [packD ps, packD qs] ∧ ps.length ≤ 10000 ∧ Q (.sc (.bl (decide (overL ps qs = [])))) .st
def C_excess : Ct := fun ds Q => ∃ ps qs : List Pr, ds = [packD ps, packD qs] ∧ ps.length ≤ 10000 ∧ Q (.sc (.int (excP ps qs))) .st
end P
namespace P
open PySem PySem.Spec PyProof.Rows L2
def C__law_pack : Ct := fun ds Q => ∃ (xs : List Str) (ns : List Int), ds = [strsD xs, scriptD ns] ∧ xs.length = 8 ∧ (∀ x ∈ xs, nameB x = true) ∧ ns.length ≤ 100 ∧ ∀ ps : List Pr, IsP ps → ps.length ≤ 100 → goodP ps → (∀ p ∈ ps, p.1 ∈ xs) → Q (packD ps) .st
def C__law_near : Ct := fun ds Q => ∃ (os : List Pr) (xs : List Str) (ns : List Int), ds = [packD os, strsD xs, scriptD ns] ∧ IsP os ∧ goodP os ∧ os.length ≤ 200 ∧ (∀ p ∈ os, p.1 ∈ xs) ∧ xs.length = 8 ∧ (∀ x ∈ xs, nameB x = true) ∧ ns.length ≤ 100 ∧ ∀ ps : List Pr, IsP ps → ps.length ≤ 300 → goodP ps → (∀ p ∈ ps, p.1 ∈ xs) → Q (packD ps) .st
def C__law_reason : Ct := fun ds Q => ∃ (os : List Pr) (ns : List Int), ds = [packD os, scriptD ns] ∧ IsP os ∧ goodP os ∧ os.length ≤ 300 ∧ ns ≠ [] ∧ ns.length ≤ 100 ∧ ∀ rs : List Pr, IsP rs → goodP rs → rs.length ≤ 300 → leA rs os → Q (packD rs) .st
def caseD (a b : List Pr) : D := .tup [packD a, packD b]
structure GP (xs : List Str) (ps : List Pr) : Prop where
  ip : IsP ps
  good : goodP ps
  len : ps.length ≤ 300
  sub : ∀ p ∈ ps, p.1 ∈ xs
def C__law_case : Ct := fun ds Q => ∃ (xs : List Str) (ns : List Int), ds = [strsD xs, scriptD ns] ∧ xs.length = 8 ∧ (∀ x ∈ xs, nameB x = true) ∧ ns.length ≤ 100 ∧ ∀ a b : List Pr, GP xs a → GP xs b → a.length ≤ 100 → b.length ≤ 100 → Q (caseD a b) .st
def sd (b : Bool) : Str := if b then Str.ofString "against" else Str.ofString "for"
def C_other_side : Ct := fun ds Q => ∃ b, ds = [.sc (.str (sd b))] ∧ Q (.sc (.str (sd (!b)))) .st
def C_side_of : Ct := fun ds Q => ∃ (d0 d1 : D) (b : Bool), ds = [.tup [d0, d1], .sc (.str (sd b))] ∧ Q (if b then d1 else d0) .st
def rulD (a b : List Pr) (s : Bool) (r : List Pr) : D := .tup [caseD a b, .sc (.str (sd s)), packD r]
def pick {α : Type} (s : Bool) (a b : α) : α := if s then b else a
def C_facing : Ct := fun ds Q => ∃ (a b : List Pr) (s : Bool) (r : List Pr), ds = [rulD a b s r] ∧ Q (packD (pick (!s) a b)) .st
def C_binds : Ct := fun ds Q => ∃ (a b : List Pr) (s : Bool) (r c d : List Pr), ds = [rulD a b s r, caseD c d] ∧ r.length ≤ 1000 ∧ c.length ≤ 1000 ∧ d.length ≤ 1000 ∧
  Q (.sc (.bl (decide (overL r (pick s c d) = []) && decide (overL (pick (!s) c d) (pick (!s) a b) = [])))) .st
def C__law_ruling : Ct := fun ds Q => ∃ (xs : List Str) (ns : List Int), ds = [strsD xs, scriptD ns] ∧ xs.length = 8 ∧ (∀ x ∈ xs, nameB x = true) ∧ ns ≠ [] ∧ ns.length ≤ 100 ∧ ∀ (a b : List Pr) (s : Bool) (r : List Pr), GP xs a → GP xs b → a.length ≤ 100 → b.length ≤ 100 → IsP r → goodP r → r.length ≤ 300 → leA r (pick s a b) → Q (rulD a b s r) .st
end P
namespace P
open PySem PySem.Spec PyProof.Rows L2
theorem imm_pack (ps : List Pr) : (packD ps).imm = true := by
  show D.imm (.tup (ps.map prD)) = true
  simp only [D.imm]
  exact imm_prs ps
end P
namespace P
open PySem PySem.Spec PyProof.Rows L2
end P
namespace P
open PySem PySem.Spec PyProof.Rows L2
local macro_rules
  | `(tactic| wide_open) => `(tactic| try simp only [s_seq, s_nil, s_if, s_ret, s_retN, s_set, s_for, s_while, i_seq, i_ps, e_c, e_k, e_op, e_cb, e_call, e_and, e_or, e_not, e_chain, e_neg, e_tup, e_lst, e_sl, e_rev, e_dnew, e_dnewT, e_get2, o_none, o_some, t_of, t_op, t_and, t_or, t_not, t_chain, t_yes, a_nil, a_cons, brs, tyOks, isTy, subQ, fdivQ, modQ, powQ, eqQ, neQ, sizeL, enumAQ_l, enumAQ_t, str_one, str_app, startE, wipeE, e_lc, e_step, e_sm1, e_sm0, osOf, En.frz, P.frz, g_name, s_expr, s_asg, s_pass, s_break, s_cont, List.getElem?_cons_zero, List.getElem?_cons_succ, List.getElem?_nil, List.set_cons_zero, List.set_cons_succ, List.map_cons, List.map_nil, List.replicate_zero, List.replicate_succ, List.cons_append, List.nil_append, List.append_nil, List.length_cons, List.length_nil, List.any_cons, List.any_nil, Bool.not_true, Bool.not_false, Bool.false_or, Bool.or_false, Bool.true_or, Bool.or_true, Bool.and_true, Bool.true_and, Bool.false_and, Bool.and_false, if_true, if_false, ite_true, ite_false, Bool.false_eq_true, reduceIte, Nat.reduceAdd, Nat.reduceSub, Nat.zero_add, Nat.add_zero, true_and, and_true, Option.some.injEq, D.sc.injEq, V.bl.injEq, V.int.injEq, V.str.injEq, exists_eq_left', exists_eq_left, Bool.or_self, forall_const, imp_self, decide_eq_true_eq, Bool.not_eq_true', decide_eq_false_iff_not, Bool.not_eq_false, Decidable.not_not, implies_true, not_true_eq_false, not_false_eq_true, reduceCtorEq, false_imp, ne_eq, String.reduceBEq, Int.reducePow, Int.reduceToNat, Int.reduceLT, Int.reduceLE, Nat.reduceLeDiff, Nat.reduceLT, Nat.reduceMul, Int.reduceMul, Int.reduceAdd, Int.reduceSub, Int.reduceNeg, Nat.reducePow, or_true, true_or, List.length_map, List.isEmpty_cons, List.isEmpty_nil, addQ_i, addQ_s, addQ_l, addQ_t, iQ_i, mulQ_i, cmpQ_i, cmpQ_s, isQ_n, isQ_b, isNon_b, isNon_i, isNon_s, isNon_l, isNon_t, isNon_n, isNon_d, inQ_l, inQ_t, inQ_k, inQ_s, inQ_d, inQ_dt, ixQ_l, ixQ_t, ixQ_k, ixQ_s, ixQ_d, ixQ_dt, getQ_d, getQ_dt, key_i, key_s, slQ_l, slQ_t, slQ_s, optQ_i, revQ_l, negQ_i, truth_b, truth_i, truth_n, truth_s, truth_l, truth_t, blQ_b, bindS_st, bindS_ow, isBr_st, isBr_ow, isBr_br, itemsQ_l, itemsQ_t, itemsQ_s, g_tup_t, g_cons_c, g_nil_n, lenQ_l, lenQ_t, lenQ_s, lenQ_d, isiQ_t, ty_i, ty_s, ty_b, ty_n, ty_l, ty_t, ty_d, intQ_i, intQ_b, absQ_i, mmQ_i, listQ_l, listQ_t, listQ_k, tupleQ_l, tupleQ_t, sumQ_l, allQ_l, r1Q_i, r2Q_i, bne_false_S, bne_true_S, eqD_i, eqD_s, eqD_b, eqD_nn, eqD_ni, eqD_in, eqD_is, eqD_si, eqD_ln, eqD_nl, eqD_ll, eqD_l0, eqD_lc, eqD_cl, eqD_tt, eqD_t0, eqD_tc, eqD_ct, plain_i, plain_s, plain_b, plain_n, plain_l, plain_t, plainL_c, plainL_n, dep_sc, dep_l, dep_t, depL_c, depL_n, flatR_sc, slotAt_0, slotAt_s, e_var_eq, varQ_sh, varQ_ow, s_retv_eq, retQ_sh, retQ_ow, s_frz_eq, frzQ_sh, frzQ_ow, s_meth_eq, methQ_l, s_methset_eq, methsQ_l, s_setix_eq, setixQ_ow, e_lkd_eq, lkdQ_d, lkdQ_t, lkdQ_od, lkdQ_ot, s_lkd_eq, lkS_d, lkS_t, i_items_eq, itmS_d, i_keys_eq, keyS_d, keyS_t, i_vals_eq, valS_d, stepQ_l, isLst_l, strD_s, joinQ_l, strQ_i, strQ_s, dictQ_l, sortedLQ_l, setQ_l, setQ_d, setQ_t, appendQ_1, List.length_set, s_try, s_raise, e_callX, isxQ_c, isxQ_v, try_c, exFlat_0, isNon_exc, atI_w0, atI_w1, atI_w2, atI_w3, atI_w4, atI_nat, mulAQ_i, mulAQ_s, repQ_l, e_rep, mm1Q_1, itemsQ'_l, itemsQ'_t, zipAQ_2, Int.zero_add, Int.cast_ofNat_Int, List.getElem?_map, Int.toNat_natCast, Option.isSome_map, e_maxd, seqQ_l', s_wip, Bool.decide_eq_true, decide_true, decide_false, Option.isSome_some, Option.isSome_none, Option.getD_some, Option.getD_none, Option.map_some, Option.map_none, and_self, or_self])
  | `(tactic| wide_open with [$xs,*]) => `(tactic| try simp only [s_seq, s_nil, s_if, s_ret, s_retN, s_set, s_for, s_while, i_seq, i_ps, e_c, e_k, e_op, e_cb, e_call, e_and, e_or, e_not, e_chain, e_neg, e_tup, e_lst, e_sl, e_rev, e_dnew, e_dnewT, e_get2, o_none, o_some, t_of, t_op, t_and, t_or, t_not, t_chain, t_yes, a_nil, a_cons, brs, tyOks, isTy, subQ, fdivQ, modQ, powQ, eqQ, neQ, sizeL, enumAQ_l, enumAQ_t, str_one, str_app, startE, wipeE, e_lc, e_step, e_sm1, e_sm0, osOf, En.frz, P.frz, g_name, s_expr, s_asg, s_pass, s_break, s_cont, List.getElem?_cons_zero, List.getElem?_cons_succ, List.getElem?_nil, List.set_cons_zero, List.set_cons_succ, List.map_cons, List.map_nil, List.replicate_zero, List.replicate_succ, List.cons_append, List.nil_append, List.append_nil, List.length_cons, List.length_nil, List.any_cons, List.any_nil, Bool.not_true, Bool.not_false, Bool.false_or, Bool.or_false, Bool.true_or, Bool.or_true, Bool.and_true, Bool.true_and, Bool.false_and, Bool.and_false, if_true, if_false, ite_true, ite_false, Bool.false_eq_true, reduceIte, Nat.reduceAdd, Nat.reduceSub, Nat.zero_add, Nat.add_zero, true_and, and_true, Option.some.injEq, D.sc.injEq, V.bl.injEq, V.int.injEq, V.str.injEq, exists_eq_left', exists_eq_left, Bool.or_self, forall_const, imp_self, decide_eq_true_eq, Bool.not_eq_true', decide_eq_false_iff_not, Bool.not_eq_false, Decidable.not_not, implies_true, not_true_eq_false, not_false_eq_true, reduceCtorEq, false_imp, ne_eq, String.reduceBEq, Int.reducePow, Int.reduceToNat, Int.reduceLT, Int.reduceLE, Nat.reduceLeDiff, Nat.reduceLT, Nat.reduceMul, Int.reduceMul, Int.reduceAdd, Int.reduceSub, Int.reduceNeg, Nat.reducePow, or_true, true_or, List.length_map, List.isEmpty_cons, List.isEmpty_nil, addQ_i, addQ_s, addQ_l, addQ_t, iQ_i, mulQ_i, cmpQ_i, cmpQ_s, isQ_n, isQ_b, isNon_b, isNon_i, isNon_s, isNon_l, isNon_t, isNon_n, isNon_d, inQ_l, inQ_t, inQ_k, inQ_s, inQ_d, inQ_dt, ixQ_l, ixQ_t, ixQ_k, ixQ_s, ixQ_d, ixQ_dt, getQ_d, getQ_dt, key_i, key_s, slQ_l, slQ_t, slQ_s, optQ_i, revQ_l, negQ_i, truth_b, truth_i, truth_n, truth_s, truth_l, truth_t, blQ_b, bindS_st, bindS_ow, isBr_st, isBr_ow, isBr_br, itemsQ_l, itemsQ_t, itemsQ_s, g_tup_t, g_cons_c, g_nil_n, lenQ_l, lenQ_t, lenQ_s, lenQ_d, isiQ_t, ty_i, ty_s, ty_b, ty_n, ty_l, ty_t, ty_d, intQ_i, intQ_b, absQ_i, mmQ_i, listQ_l, listQ_t, listQ_k, tupleQ_l, tupleQ_t, sumQ_l, allQ_l, r1Q_i, r2Q_i, bne_false_S, bne_true_S, eqD_i, eqD_s, eqD_b, eqD_nn, eqD_ni, eqD_in, eqD_is, eqD_si, eqD_ln, eqD_nl, eqD_ll, eqD_l0, eqD_lc, eqD_cl, eqD_tt, eqD_t0, eqD_tc, eqD_ct, plain_i, plain_s, plain_b, plain_n, plain_l, plain_t, plainL_c, plainL_n, dep_sc, dep_l, dep_t, depL_c, depL_n, flatR_sc, slotAt_0, slotAt_s, e_var_eq, varQ_sh, varQ_ow, s_retv_eq, retQ_sh, retQ_ow, s_frz_eq, frzQ_sh, frzQ_ow, s_meth_eq, methQ_l, s_methset_eq, methsQ_l, s_setix_eq, setixQ_ow, e_lkd_eq, lkdQ_d, lkdQ_t, lkdQ_od, lkdQ_ot, s_lkd_eq, lkS_d, lkS_t, i_items_eq, itmS_d, i_keys_eq, keyS_d, keyS_t, i_vals_eq, valS_d, stepQ_l, isLst_l, strD_s, joinQ_l, strQ_i, strQ_s, dictQ_l, sortedLQ_l, setQ_l, setQ_d, setQ_t, appendQ_1, List.length_set, s_try, s_raise, e_callX, isxQ_c, isxQ_v, try_c, exFlat_0, isNon_exc, atI_w0, atI_w1, atI_w2, atI_w3, atI_w4, atI_nat, mulAQ_i, mulAQ_s, repQ_l, e_rep, mm1Q_1, itemsQ'_l, itemsQ'_t, zipAQ_2, Int.zero_add, Int.cast_ofNat_Int, List.getElem?_map, Int.toNat_natCast, Option.isSome_map, e_maxd, seqQ_l', s_wip, Bool.decide_eq_true, decide_true, decide_false, Option.isSome_some, Option.isSome_none, Option.getD_some, Option.getD_none, Option.map_some, Option.map_none, and_self, or_self, $[$xs:term],*])
local macro_rules
  | `(tactic| w_fin) => `(tactic| repeat (with_reducible apply And.intro; · first | assumption | omega | decide | (left; omega) | (right; omega) | (left; decide) | (right; decide)))
theorem prD_inj {p q : Pr} (h : prD p = prD q) : p = q := by
  unfold prD at h
  injection h with h
  injection h with h1 h
  injection h with h2 h
  injection h1 with h1
  injection h1 with h1
  injection h2 with h2
  injection h2 with h2
  exact Prod.ext h1 h2
theorem map_inj {α β : Type} {f : α → β} (hf : ∀ a b, f a = f b → a = b) : ∀ {xs ys : List α}, xs.map f = ys.map f → xs = ys
  | [], [], _ => rfl
  | [], _ :: _, h => by cases h
  | _ :: _, [], h => by cases h
  | x :: xs, y :: ys, h => by
    rw [List.map_cons, List.map_cons] at h
    injection h with h1 h2
    rw [hf _ _ h1, map_inj hf h2]
theorem packD_inj {p q : List Pr} (h : packD p = packD q) : p = q := by
  unfold packD at h
  injection h with h
  exact map_inj (fun _ _ => prD_inj) h
theorem strs_inj {p q : List Str} (h : (p.map fun x => D.sc (.str x)) = q.map fun x => D.sc (.str x)) : p = q := map_inj (fun a b e => by injection e with e; injection e) h
theorem ints_inj {p q : List Int} (h : (p.map fun x => D.sc (.int x)) = q.map fun x => D.sc (.int x)) : p = q := map_inj (fun a b e => by injection e with e; injection e) h
theorem strsD_iff {p q : List Str} : (strsD p = strsD q) = (p = q) := propext ⟨fun h => by unfold strsD at h; injection h with h; exact strs_inj h, fun h => by rw [h]⟩
theorem scriptD_iff {p q : List Int} : (scriptD p = scriptD q) = (p = q) := propext ⟨fun h => by unfold scriptD at h; injection h with h; exact ints_inj h, fun h => by rw [h]⟩
theorem sd_inj {s t : Bool} : (sd s = sd t) = (s = t) := by
  apply propext
  cases s <;> cases t <;> decide
theorem sd_ag {s : Bool} : (sd s = Str.ofString "against") = (s = true) := by
  apply propext
  cases s <;> decide
theorem sd_fo {s : Bool} : (sd s = Str.ofString "for") = (s = false) := by
  apply propext
  cases s <;> decide
theorem sd_ag' {s : Bool} : (Str.ofString "against" = sd s) = (s = true) := by
  apply propext
  cases s <;> decide
theorem sd_fo' {s : Bool} : (Str.ofString "for" = sd s) = (s = false) := by
  apply propext
  cases s <;> decide
theorem pick_packD {s : Bool} {a b : List Pr} : pick s (packD a) (packD b) = packD (pick s a b) := by cases s <;> rfl
theorem atI_if {α : Type} {a b : α} {s : Bool} : atI [a, b] (if s = true then (1 : Int) else 0) = some (pick s a b) := by
  cases s
  · exact atI_w0
  · exact atI_w1
/-- a question whose answer is a truth of another -/
def fits (a b : List Pr) : Bool := decide (overL a b = [])
section
variable {Q : D → Md → Prop} {p q r a b f g : List Pr} {x : Str} {s : Bool} {d e : D}
theorem C_other_side_eq : C_other_side [.sc (.str (sd s))] Q = Q (.sc (.str (sd (!s)))) .st := by
  apply propext
  refine ⟨fun ⟨t, h, h2⟩ => ?_, fun h => ⟨s, rfl, h⟩⟩
  injection h with h
  injection h with h
  injection h with h
  rw [sd_inj.mp h]
  exact h2
theorem C_side_of_eq : C_side_of [.tup [d, e], .sc (.str (sd s))] Q = Q (pick s d e) .st := by
  apply propext
  refine ⟨fun ⟨d', e', t, h, h2⟩ => ?_, fun h => ⟨d, e, s, rfl, h⟩⟩
  injection h with h h3
  injection h with h
  injection h with h4 h
  injection h with h5 h
  injection h3 with h3
  injection h3 with h3
  injection h3 with h3
  subst h4 h5
  rw [sd_inj.mp h3]
  exact h2
theorem C_degree_eq : C_degree [packD p, .sc (.str x)] Q = Q (.sc (.int (valP p x))) .st := by
  apply propext
  refine ⟨fun ⟨p', x', h, h2⟩ => ?_, fun h => ⟨p, x, rfl, h⟩⟩
  injection h with h h3
  injection h3 with h3
  injection h3 with h3
  injection h3 with h3
  rw [packD_inj h, h3]
  exact h2
theorem two_packs {p q p' q' : List Pr} (h : [packD p, packD q] = [packD p', packD q']) : p = p' ∧ q = q' := by
  injection h with h h3
  injection h3 with h3
  exact ⟨packD_inj h, packD_inj h3⟩
theorem C_over_eq : C_over [packD p, packD q] Q = (p.length ≤ 10000 ∧ Q (strsD (overL p q)) .ow) := by
  apply propext
  refine ⟨fun ⟨p', q', h, h2⟩ => ?_, fun h => ⟨p, q, rfl, h⟩⟩
  obtain ⟨rfl, rfl⟩ := two_packs h
  exact h2
theorem C_within_eq : C_within [packD p, packD q] Q = (p.length ≤ 10000 ∧ Q (.sc (.bl (fits p q))) .st) := by
  apply propext
  refine ⟨fun ⟨p', q', h, h2⟩ => ?_, fun h => ⟨p, q, rfl, h⟩⟩
  obtain ⟨rfl, rfl⟩ := two_packs h
  exact h2
theorem C_excess_eq : C_excess [packD p, packD q] Q = (p.length ≤ 10000 ∧ Q (.sc (.int (excP p q))) .st) := by
  apply propext
  refine ⟨fun ⟨p', q', h, h2⟩ => ?_, fun h => ⟨p, q, rfl, h⟩⟩
  obtain ⟨rfl, rfl⟩ := two_packs h
  exact h2
theorem rul_inj {a b r a' b' r' : List Pr} {s s' : Bool} (h : rulD a b s r = rulD a' b' s' r') : a = a' ∧ b = b' ∧ s = s' ∧ r = r' := by
  unfold rulD caseD at h
  injection h with h
  injection h with h h3
  injection h with h
  obtain ⟨e1, e2⟩ := two_packs h
  injection h3 with h4 h5
  injection h4 with h4
  injection h4 with h4
  injection h5 with h5
  exact ⟨e1, e2, sd_inj.mp h4, packD_inj h5⟩
theorem C_facing_eq : C_facing [.tup [.tup [packD f, packD g], .sc (.str (sd s)), packD r]] Q = Q (packD (pick (!s) f g)) .st := by
  apply propext
  refine ⟨fun ⟨a, b, t, r', h, h2⟩ => ?_, fun h => ⟨f, g, s, r, rfl, h⟩⟩
  injection h with h
  obtain ⟨rfl, rfl, rfl, rfl⟩ := rul_inj h
  exact h2
theorem C_binds_eq : C_binds [.tup [.tup [packD f, packD g], .sc (.str (sd s)), packD r], .tup [packD a, packD b]] Q = (r.length ≤ 1000 ∧ a.length ≤ 1000 ∧ b.length ≤ 1000 ∧ Q (.sc (.bl (fits r (pick s a b) && fits (pick (!s) a b) (pick (!s) f g)))) .st) := by
  apply propext
  refine ⟨fun ⟨a', b', t, r', c', d', h, h2⟩ => ?_, fun h => ⟨f, g, s, r, a, b, rfl, h⟩⟩
  injection h with h h3
  obtain ⟨rfl, rfl, rfl, rfl⟩ := rul_inj h
  injection h3 with h3
  injection h3 with h3
  obtain ⟨rfl, rfl⟩ := two_packs h3
  exact h2
end
structure Ru where
  f : List Pr
  g : List Pr
  s : Bool
  r : List Pr
deriving DecidableEq
def ruD (x : Ru) : D := .tup [.tup [packD x.f, packD x.g], .sc (.str (sd x.s)), packD x.r]
def bookD (b : List Ru) : D := .lst (b.map ruD)
theorem ruD_inj {x y : Ru} (h : ruD x = ruD y) : x = y := by
  obtain ⟨a, b, s, r⟩ := x
  obtain ⟨a', b', s', r'⟩ := y
  obtain ⟨rfl, rfl, rfl, rfl⟩ := rul_inj h
  rfl
theorem bookD_iff {x y : List Ru} : (bookD x = bookD y) = (x = y) := propext ⟨fun h => by unfold bookD at h; injection h with h; exact map_inj (fun _ _ => ruD_inj) h, fun h => by rw [h]⟩
/-- no pack longer than n -/
def Ru.small (n : Nat) (x : Ru) : Prop := x.f.length ≤ n ∧ x.g.length ≤ n ∧ x.r.length ≤ n
/-- what faces a ruling -/
def Ru.opp (x : Ru) : List Pr := pick (!x.s) x.f x.g
def clash (x y : Ru) : Bool := !decide (x.s = y.s) && (fits x.r y.opp && fits y.r x.opp)
def bindsR (x : Ru) (a b : List Pr) : Bool := fits x.r (pick x.s a b) && fits (pick (!x.s) a b) x.opp
def C_against : Ct := fun ds Q => ∃ x y : Ru, ds = [ruD x, ruD y] ∧ (x.r.length ≤ 10000 ∧ y.r.length ≤ 10000) ∧ Q (.sc (.bl (clash x y))) .st
theorem C_against_eq {x y : Ru} {Q : D → Md → Prop} : C_against [ruD x, ruD y] Q = ((x.r.length ≤ 10000 ∧ y.r.length ≤ 10000) ∧ Q (.sc (.bl (clash x y))) .st) := by
  apply propext
  refine ⟨fun ⟨x', y', h, h2⟩ => ?_, fun h => ⟨x, y, rfl, h⟩⟩
  injection h with h h3
  injection h3 with h3
  obtain rfl := ruD_inj h
  obtain rfl := ruD_inj h3
  exact h2
def C_ruling : Ct := fun ds Q => ∃ (a b : List Pr) (s : Bool) (r : List Pr), ds = [.tup [packD a, packD b], .sc (.str (sd s)), packD r] ∧ (r.length ≤ 10000 ∧ overL r (pick s a b) = []) ∧ Q (ruD ⟨a, b, s, r⟩) .st
theorem C_ruling_eq {a b r : List Pr} {s : Bool} {Q : D → Md → Prop} : C_ruling [.tup [packD a, packD b], .sc (.str (sd s)), packD r] Q = ((r.length ≤ 10000 ∧ overL r (pick s a b) = []) ∧ Q (ruD ⟨a, b, s, r⟩) .st) := by
  apply propext
  refine ⟨fun ⟨a', b', s', r', h, h2⟩ => ?_, fun h => ⟨a, b, s, r, rfl, h⟩⟩
  have h' : rulD a b s r = rulD a' b' s' r' := by
    unfold rulD caseD
    rw [h]
  obtain ⟨rfl, rfl, rfl, rfl⟩ := rul_inj h'
  exact h2
def firstN (n : Nat) (p : Nat → Bool) : Option Nat := (List.range n).find? p
def optD {α : Type} (f : α → D) : Option α → D
  | none => .sc .non
  | some x => f x
def natD (k : Nat) : D := .sc (.int (k : Nat))
def pairNN (p : Nat × Nat) : D := .tup [.sc (.int (p.1 : Nat)), .sc (.int (p.2 : Nat))]
def smallB (n : Nat) (b : List Ru) : Prop := b.length ≤ n ∧ ∀ x ∈ b, x.small n
theorem smallB.get {n k : Nat} {b : List Ru} {x : Ru} (h : smallB n b) (e : b[k]? = some x) : x.small n := h.2 x (List.mem_of_getElem? e)
def clashAt (b : List Ru) (k j : Nat) : Bool := match b[k]?, b[j]? with
  | some x, some y => clash x y
  | _, _ => false
def tornAt (b : List Ru) (j : Nat) : Option Nat := firstN j fun k => clashAt b k j
/-- the first two that stand against each other -/
def tornL (b : List Ru) : Option (Nat × Nat) := match firstN b.length fun j => (tornAt b j).isSome with
  | none => none
  | some j => (tornAt b j).map fun k => (k, j)
def C_torn : Ct := fun ds Q => ∃ b : List Ru, ds = [bookD b] ∧ smallB 10000 b ∧ Q (optD pairNN (tornL b)) .st
theorem C_torn_eq {b : List Ru} {Q : D → Md → Prop} : C_torn [bookD b] Q = (smallB 10000 b ∧ Q (optD pairNN (tornL b)) .st) := by
  apply propext
  refine ⟨fun ⟨b', h, h2⟩ => ?_, fun h => ⟨b, rfl, h⟩⟩
  injection h with h
  obtain rfl := bookD_iff.mp h
  exact h2
def caseOf (c : List Pr × List Pr) : D := .tup [packD c.1, packD c.2]
theorem caseOf_iff {c d : List Pr × List Pr} : (caseOf c = caseOf d) = (c = d) := propext ⟨fun h => by
  unfold caseOf at h
  injection h with h
  obtain ⟨a, b⟩ := two_packs h
  exact Prod.ext a b, fun h => by rw [h]⟩
abbrev Cs := List Pr × List Pr
def bindsC (x : Ru) (c : Cs) : Bool := bindsR x c.1 c.2
def bindL (b : List Ru) (c : Cs) : Option Nat := firstN b.length fun k => (b[k]?).any fun x => bindsC x c
def boundD (b : List Ru) (k : Nat) : D := .tup [.sc (.str (sd (match b[k]? with | some x => x.s | none => false))), .sc (.int (k : Nat))]
def Cs.small (n : Nat) (c : Cs) : Prop := c.1.length ≤ n ∧ c.2.length ≤ n
def C_binding : Ct := fun ds Q => ∃ (b : List Ru) (c : Cs), ds = [bookD b, caseOf c] ∧ (smallB 1000 b ∧ Cs.small 1000 c) ∧ Q (optD (boundD b) (bindL b c)) .st
theorem C_binding_eq {b : List Ru} {c : Cs} {Q : D → Md → Prop} : C_binding [bookD b, caseOf c] Q = ((smallB 1000 b ∧ Cs.small 1000 c) ∧ Q (optD (boundD b) (bindL b c)) .st) := by
  apply propext
  refine ⟨fun ⟨b', c', h, h2⟩ => ?_, fun h => ⟨b, c, rfl, h⟩⟩
  injection h with h h3
  injection h3 with h3
  obtain rfl := bookD_iff.mp h
  obtain rfl := caseOf_iff.mp h3
  exact h2
def barL (b : List Ru) (x : Ru) : Option Nat := firstN b.length fun k => (b[k]?).any fun y => clash y x
def C_barred : Ct := fun ds Q => ∃ (b : List Ru) (x : Ru), ds = [bookD b, ruD x] ∧ (smallB 10000 b ∧ x.small 10000) ∧ Q (optD natD (barL b x)) .st
theorem C_barred_eq {b : List Ru} {x : Ru} {Q : D → Md → Prop} : C_barred [bookD b, ruD x] Q = ((smallB 10000 b ∧ x.small 10000) ∧ Q (optD natD (barL b x)) .st) := by
  apply propext
  refine ⟨fun ⟨b', c', h, h2⟩ => ?_, fun h => ⟨b, x, rfl, h⟩⟩
  injection h with h h3
  injection h3 with h3
  obtain rfl := bookD_iff.mp h
  obtain rfl := ruD_inj h3
  exact h2
def fullR (c : Cs) (s : Bool) : Ru := ⟨c.1, c.2, s, pick s c.1 c.2⟩
def C_fullest : Ct := fun ds Q => ∃ (c : Cs) (s : Bool), ds = [caseOf c, .sc (.str (sd s))] ∧ (Cs.small 10000 c ∧ KU (pick s c.1 c.2)) ∧ Q (ruD (fullR c s)) .st
theorem C_fullest_eq {c : Cs} {s : Bool} {Q : D → Md → Prop} : C_fullest [caseOf c, .sc (.str (sd s))] Q = ((Cs.small 10000 c ∧ KU (pick s c.1 c.2)) ∧ Q (ruD (fullR c s)) .st) := by
  apply propext
  refine ⟨fun ⟨c', s', h, h2⟩ => ?_, fun h => ⟨c, s, rfl, h⟩⟩
  injection h with h h3
  injection h3 with h3
  injection h3 with h3
  injection h3 with h3
  obtain rfl := caseOf_iff.mp h
  obtain rfl := sd_inj.mp h3
  exact h2
end P
namespace P
open PySem PySem.Spec PyProof.Rows L2
local macro_rules
  | `(tactic| wide_open) => `(tactic| try simp only [s_seq, s_nil, s_if, s_ret, s_retN, s_set, s_for, s_while, i_seq, i_ps, e_c, e_k, e_op, e_cb, e_call, e_and, e_or, e_not, e_chain, e_neg, e_tup, e_lst, e_sl, e_rev, e_dnew, e_dnewT, e_get2, o_none, o_some, t_of, t_op, t_and, t_or, t_not, t_chain, t_yes, a_nil, a_cons, brs, tyOks, isTy, subQ, fdivQ, modQ, powQ, eqQ, neQ, sizeL, enumAQ_l, enumAQ_t, str_one, str_app, startE, wipeE, e_lc, e_step, e_sm1, e_sm0, osOf, En.frz, P.frz, g_name, s_expr, s_asg, s_pass, s_break, s_cont, List.getElem?_cons_zero, List.getElem?_cons_succ, List.getElem?_nil, List.set_cons_zero, List.set_cons_succ, List.map_cons, List.map_nil, List.replicate_zero, List.replicate_succ, List.cons_append, List.nil_append, List.append_nil, List.length_cons, List.length_nil, List.any_cons, List.any_nil, Bool.not_true, Bool.not_false, Bool.false_or, Bool.or_false, Bool.true_or, Bool.or_true, Bool.and_true, Bool.true_and, Bool.false_and, Bool.and_false, if_true, if_false, ite_true, ite_false, Bool.false_eq_true, reduceIte, Nat.reduceAdd, Nat.reduceSub, Nat.zero_add, Nat.add_zero, true_and, and_true, Option.some.injEq, D.sc.injEq, V.bl.injEq, V.int.injEq, V.str.injEq, exists_eq_left', exists_eq_left, Bool.or_self, forall_const, imp_self, decide_eq_true_eq, Bool.not_eq_true', decide_eq_false_iff_not, Bool.not_eq_false, Decidable.not_not, implies_true, not_true_eq_false, not_false_eq_true, reduceCtorEq, false_imp, ne_eq, String.reduceBEq, Int.reducePow, Int.reduceToNat, Int.reduceLT, Int.reduceLE, Nat.reduceLeDiff, Nat.reduceLT, Nat.reduceMul, Int.reduceMul, Int.reduceAdd, Int.reduceSub, Int.reduceNeg, Nat.reducePow, or_true, true_or, List.length_map, List.isEmpty_cons, List.isEmpty_nil, addQ_i, addQ_s, addQ_l, addQ_t, iQ_i, mulQ_i, cmpQ_i, cmpQ_s, isQ_n, isQ_b, isNon_b, isNon_i, isNon_s, isNon_l, isNon_t, isNon_n, isNon_d, inQ_l, inQ_t, inQ_k, inQ_s, inQ_d, inQ_dt, ixQ_l, ixQ_t, ixQ_k, ixQ_s, ixQ_d, ixQ_dt, getQ_d, getQ_dt, key_i, key_s, slQ_l, slQ_t, slQ_s, optQ_i, revQ_l, negQ_i, truth_b, truth_i, truth_n, truth_s, truth_l, truth_t, blQ_b, bindS_st, bindS_ow, isBr_st, isBr_ow, isBr_br, itemsQ_l, itemsQ_t, itemsQ_s, g_tup_t, g_cons_c, g_nil_n, lenQ_l, lenQ_t, lenQ_s, lenQ_d, isiQ_t, ty_i, ty_s, ty_b, ty_n, ty_l, ty_t, ty_d, intQ_i, intQ_b, absQ_i, mmQ_i, listQ_l, listQ_t, listQ_k, tupleQ_l, tupleQ_t, sumQ_l, allQ_l, r1Q_i, r2Q_i, bne_false_S, bne_true_S, eqD_i, eqD_s, eqD_b, eqD_nn, eqD_ni, eqD_in, eqD_is, eqD_si, eqD_ln, eqD_nl, eqD_ll, eqD_l0, eqD_lc, eqD_cl, eqD_tt, eqD_t0, eqD_tc, eqD_ct, plain_i, plain_s, plain_b, plain_n, plain_l, plain_t, plainL_c, plainL_n, dep_sc, dep_l, dep_t, depL_c, depL_n, flatR_sc, slotAt_0, slotAt_s, e_var_eq, varQ_sh, varQ_ow, s_retv_eq, retQ_sh, retQ_ow, s_frz_eq, frzQ_sh, frzQ_ow, s_meth_eq, methQ_l, s_methset_eq, methsQ_l, s_setix_eq, setixQ_ow, e_lkd_eq, lkdQ_d, lkdQ_t, lkdQ_od, lkdQ_ot, s_lkd_eq, lkS_d, lkS_t, i_items_eq, itmS_d, i_keys_eq, keyS_d, keyS_t, i_vals_eq, valS_d, stepQ_l, isLst_l, strD_s, joinQ_l, strQ_i, strQ_s, dictQ_l, sortedLQ_l, setQ_l, setQ_d, setQ_t, appendQ_1, List.length_set, s_try, s_raise, e_callX, isxQ_c, isxQ_v, try_c, exFlat_0, isNon_exc, atI_w0, atI_w1, atI_w2, atI_w3, atI_w4, atI_nat, mulAQ_i, mulAQ_s, repQ_l, e_rep, mm1Q_1, itemsQ'_l, itemsQ'_t, zipAQ_2, Int.zero_add, Int.cast_ofNat_Int, List.getElem?_map, Int.toNat_natCast, Option.isSome_map, e_maxd, seqQ_l', s_wip, Bool.decide_eq_true, decide_true, decide_false, Option.isSome_some, Option.isSome_none, Option.getD_some, Option.getD_none, Option.map_some, Option.map_none, and_self, or_self])
  | `(tactic| wide_open with [$xs,*]) => `(tactic| try simp only [s_seq, s_nil, s_if, s_ret, s_retN, s_set, s_for, s_while, i_seq, i_ps, e_c, e_k, e_op, e_cb, e_call, e_and, e_or, e_not, e_chain, e_neg, e_tup, e_lst, e_sl, e_rev, e_dnew, e_dnewT, e_get2, o_none, o_some, t_of, t_op, t_and, t_or, t_not, t_chain, t_yes, a_nil, a_cons, brs, tyOks, isTy, subQ, fdivQ, modQ, powQ, eqQ, neQ, sizeL, enumAQ_l, enumAQ_t, str_one, str_app, startE, wipeE, e_lc, e_step, e_sm1, e_sm0, osOf, En.frz, P.frz, g_name, s_expr, s_asg, s_pass, s_break, s_cont, List.getElem?_cons_zero, List.getElem?_cons_succ, List.getElem?_nil, List.set_cons_zero, List.set_cons_succ, List.map_cons, List.map_nil, List.replicate_zero, List.replicate_succ, List.cons_append, List.nil_append, List.append_nil, List.length_cons, List.length_nil, List.any_cons, List.any_nil, Bool.not_true, Bool.not_false, Bool.false_or, Bool.or_false, Bool.true_or, Bool.or_true, Bool.and_true, Bool.true_and, Bool.false_and, Bool.and_false, if_true, if_false, ite_true, ite_false, Bool.false_eq_true, reduceIte, Nat.reduceAdd, Nat.reduceSub, Nat.zero_add, Nat.add_zero, true_and, and_true, Option.some.injEq, D.sc.injEq, V.bl.injEq, V.int.injEq, V.str.injEq, exists_eq_left', exists_eq_left, Bool.or_self, forall_const, imp_self, decide_eq_true_eq, Bool.not_eq_true', decide_eq_false_iff_not, Bool.not_eq_false, Decidable.not_not, implies_true, not_true_eq_false, not_false_eq_true, reduceCtorEq, false_imp, ne_eq, String.reduceBEq, Int.reducePow, Int.reduceToNat, Int.reduceLT, Int.reduceLE, Nat.reduceLeDiff, Nat.reduceLT, Nat.reduceMul, Int.reduceMul, Int.reduceAdd, Int.reduceSub, Int.reduceNeg, Nat.reducePow, or_true, true_or, List.length_map, List.isEmpty_cons, List.isEmpty_nil, addQ_i, addQ_s, addQ_l, addQ_t, iQ_i, mulQ_i, cmpQ_i, cmpQ_s, isQ_n, isQ_b, isNon_b, isNon_i, isNon_s, isNon_l, isNon_t, isNon_n, isNon_d, inQ_l, inQ_t, inQ_k, inQ_s, inQ_d, inQ_dt, ixQ_l, ixQ_t, ixQ_k, ixQ_s, ixQ_d, ixQ_dt, getQ_d, getQ_dt, key_i, key_s, slQ_l, slQ_t, slQ_s, optQ_i, revQ_l, negQ_i, truth_b, truth_i, truth_n, truth_s, truth_l, truth_t, blQ_b, bindS_st, bindS_ow, isBr_st, isBr_ow, isBr_br, itemsQ_l, itemsQ_t, itemsQ_s, g_tup_t, g_cons_c, g_nil_n, lenQ_l, lenQ_t, lenQ_s, lenQ_d, isiQ_t, ty_i, ty_s, ty_b, ty_n, ty_l, ty_t, ty_d, intQ_i, intQ_b, absQ_i, mmQ_i, listQ_l, listQ_t, listQ_k, tupleQ_l, tupleQ_t, sumQ_l, allQ_l, r1Q_i, r2Q_i, bne_false_S, bne_true_S, eqD_i, eqD_s, eqD_b, eqD_nn, eqD_ni, eqD_in, eqD_is, eqD_si, eqD_ln, eqD_nl, eqD_ll, eqD_l0, eqD_lc, eqD_cl, eqD_tt, eqD_t0, eqD_tc, eqD_ct, plain_i, plain_s, plain_b, plain_n, plain_l, plain_t, plainL_c, plainL_n, dep_sc, dep_l, dep_t, depL_c, depL_n, flatR_sc, slotAt_0, slotAt_s, e_var_eq, varQ_sh, varQ_ow, s_retv_eq, retQ_sh, retQ_ow, s_frz_eq, frzQ_sh, frzQ_ow, s_meth_eq, methQ_l, s_methset_eq, methsQ_l, s_setix_eq, setixQ_ow, e_lkd_eq, lkdQ_d, lkdQ_t, lkdQ_od, lkdQ_ot, s_lkd_eq, lkS_d, lkS_t, i_items_eq, itmS_d, i_keys_eq, keyS_d, keyS_t, i_vals_eq, valS_d, stepQ_l, isLst_l, strD_s, joinQ_l, strQ_i, strQ_s, dictQ_l, sortedLQ_l, setQ_l, setQ_d, setQ_t, appendQ_1, List.length_set, s_try, s_raise, e_callX, isxQ_c, isxQ_v, try_c, exFlat_0, isNon_exc, atI_w0, atI_w1, atI_w2, atI_w3, atI_w4, atI_nat, mulAQ_i, mulAQ_s, repQ_l, e_rep, mm1Q_1, itemsQ'_l, itemsQ'_t, zipAQ_2, Int.zero_add, Int.cast_ofNat_Int, List.getElem?_map, Int.toNat_natCast, Option.isSome_map, e_maxd, seqQ_l', s_wip, Bool.decide_eq_true, decide_true, decide_false, Option.isSome_some, Option.isSome_none, Option.getD_some, Option.getD_none, Option.map_some, Option.map_none, and_self, or_self, $[$xs:term],*])
local macro_rules
  | `(tactic| w_fin) => `(tactic| repeat (with_reducible apply And.intro; · first | assumption | omega | decide | (left; omega) | (right; omega) | (left; decide) | (right; decide)))
def dec {α : Type} (enc : α → D) (x : D) (k : α → Prop) : Prop := ∃ v, x = enc v ∧ k v
theorem dec_of {α : Type} {enc : α → D} (hi : ∀ a b, enc a = enc b → a = b) {v : α} {k : α → Prop} : dec enc (enc v) k = k v :=
  propext ⟨fun ⟨w, e, h⟩ => by rw [hi _ _ e]; exact h, fun h => ⟨v, rfl, h⟩⟩
def intD (i : Int) : D := .sc (.int i)
def txtD (x : Str) : D := .sc (.str x)
def truD (b : Bool) : D := .sc (.bl b)
def sdD (s : Bool) : D := .sc (.str (sd s))
def anyD (d : D) : D := d
section
variable {i : Int} {x : Str} {s b : Bool} {p q : List Pr} {ns : List Int} {ws : List Str} {u : Ru} {bk : List Ru} {d : D}
theorem dec_int {k : Int → Prop} : dec intD (.sc (.int i)) k = k i := dec_of fun a b e => by unfold intD at e; injection e with e; injection e
theorem dec_txt {k : Str → Prop} : dec txtD (.sc (.str x)) k = k x := dec_of fun a b e => by unfold txtD at e; injection e with e; injection e
theorem dec_tru {k : Bool → Prop} : dec truD (.sc (.bl b)) k = k b := dec_of fun a b e => by unfold truD at e; injection e with e; injection e
theorem dec_sd {k : Bool → Prop} : dec sdD (.sc (.str (sd s))) k = k s := dec_of fun a b e => by unfold sdD at e; injection e with e; injection e with e; exact sd_inj.mp e
theorem sdF : Str.ofString "for" = sd false := rfl
theorem sdT : Str.ofString "against" = sd true := rfl
theorem dec_sdF {k : Bool → Prop} : dec sdD (.sc (.str (Str.ofString "for"))) k = k false := by rw [sdF]; exact dec_sd
theorem dec_sdT {k : Bool → Prop} : dec sdD (.sc (.str (Str.ofString "against"))) k = k true := by rw [sdT]; exact dec_sd
theorem dec_pk {k : List Pr → Prop} : dec packD (packD p) k = k p := dec_of fun a b e => packD_inj e
theorem dec_ints {k : List Int → Prop} : dec scriptD (.lst (ns.map fun i => .sc (.int i))) k = k ns := dec_of (v := ns) fun a b e => scriptD_iff.mp e
theorem dec_strs {k : List Str → Prop} : dec strsD (.lst (ws.map fun x => .sc (.str x))) k = k ws := dec_of (v := ws) fun a b e => strsD_iff.mp e
theorem dec_ru {k : Ru → Prop} : dec ruD (ruD u) k = k u := dec_of fun a b e => ruD_inj e
theorem dec_ru' {a b r : List Pr} {k : Ru → Prop} : dec ruD (.tup [.tup [packD a, packD b], .sc (.str (sd s)), packD r]) k = k ⟨a, b, s, r⟩ := dec_ru (u := ⟨a, b, s, r⟩)
theorem dec_book {k : List Ru → Prop} : dec bookD (.lst (bk.map ruD)) k = k bk := dec_of (v := bk) fun a b e => bookD_iff.mp e
theorem dec_case {a b : List Pr} {k : Cs → Prop} : dec caseOf (.tup [packD a, packD b]) k = k (a, b) := dec_of (v := ((a, b) : Cs)) fun a b e => caseOf_iff.mp e
theorem dec_any {k : D → Prop} : dec anyD d k = k d := dec_of fun a b e => e
end
section
variable {α β γ δ : Type} {a : α → D} {b : β → D} {c : γ → D} {e : δ → D} {Q : D → Md → Prop} {ds : List D} {x y z u : D}
def args1 (a : α → D) (k : α → (D → Md → Prop) → Prop) : Ct := fun ds Q => match ds with
  | [x] => dec a x fun v => k v Q
  | _ => False
def args2 (a : α → D) (b : β → D) (k : α → β → (D → Md → Prop) → Prop) : Ct := fun ds Q => match ds with
  | [x, y] => dec a x fun v => dec b y fun w => k v w Q
  | _ => False
def args3 (a : α → D) (b : β → D) (c : γ → D) (k : α → β → γ → (D → Md → Prop) → Prop) : Ct := fun ds Q => match ds with
  | [x, y, z] => dec a x fun v => dec b y fun w => dec c z fun t => k v w t Q
  | _ => False
def args4 (a : α → D) (b : β → D) (c : γ → D) (e : δ → D) (k : α → β → γ → δ → (D → Md → Prop) → Prop) : Ct := fun ds Q => match ds with
  | [x, y, z, u] => dec a x fun v => dec b y fun w => dec c z fun t => dec e u fun r => k v w t r Q
  | _ => False
theorem args1_eq {k : α → (D → Md → Prop) → Prop} : args1 a k [x] Q = dec a x fun v => k v Q := rfl
theorem args2_eq {k : α → β → (D → Md → Prop) → Prop} : args2 a b k [x, y] Q = dec a x fun v => dec b y fun w => k v w Q := rfl
theorem args3_eq {k : α → β → γ → (D → Md → Prop) → Prop} : args3 a b c k [x, y, z] Q = dec a x fun v => dec b y fun w => dec c z fun t => k v w t Q := rfl
theorem args4_eq {k : α → β → γ → δ → (D → Md → Prop) → Prop} : args4 a b c e k [x, y, z, u] Q = dec a x fun v => dec b y fun w => dec c z fun t => dec e u fun r => k v w t r Q := rfl
theorem args1_inv {k : α → (D → Md → Prop) → Prop} (h : args1 a k ds Q) : ∃ v, ds = [a v] ∧ k v Q := by
  unfold args1 at h
  split at h
  · obtain ⟨v, rfl, h⟩ := h; exact ⟨v, rfl, h⟩
  · exact h.elim
end
theorem cutN_mid {α : Type} (xs : List α) (a b : Nat) : cutN xs (some (a : Int)) (some (b : Int)) = (xs.drop a).take (b - a) := by
  unfold cutN
  rw [HT.sIx_nat, HT.sIx_nat]
  by_cases h : a ≤ xs.length
  · rw [Nat.min_eq_left h]
    by_cases g : b ≤ xs.length
    · rw [Nat.min_eq_left g]
    · rw [Nat.min_eq_right (by omega), List.take_of_length_le (by rw [List.length_drop]; omega), List.take_of_length_le (by rw [List.length_drop]; omega)]
  · rw [Nat.min_eq_right (show xs.length ≤ a by omega), List.drop_of_length_le (Nat.le_refl _), List.drop_of_length_le (by omega)]
    simp
theorem cutN_init {α : Type} (xs : List α) : cutN xs none (some (-1)) = xs.dropLast := by
  unfold cutN
  rw [List.dropLast_eq_take]
  show (xs.drop 0).take (HT.sIx xs.length xs.length (some (-1)) - 0) = _
  rw [List.drop_zero, Nat.sub_zero]
  congr 1
  unfold HT.sIx
  simp
  omega
structure PW (ws : List Str) (p : List Pr) : Prop where
  ip : IsP p
  good : goodP p
  sub : ∀ q ∈ p, q.1 ∈ ws
  len : p.length ≤ ws.length
structure RW (ws : List Str) (x : Ru) : Prop where
  pf : PW ws x.f
  pg : PW ws x.g
  pr : PW ws x.r
  le : leA x.r (pick x.s x.f x.g)
theorem RW.small {ws : List Str} {x : Ru} (h : RW ws x) {n : Nat} (hn : ws.length ≤ n) : x.small n := ⟨Nat.le_trans h.pf.len hn, Nat.le_trans h.pg.len hn, Nat.le_trans h.pr.len hn⟩
theorem imm_ru (x : Ru) : (ruD x).imm = true := by
  unfold ruD
  simp only [D.imm, D.imm.immL, imm_pack, Bool.and_self]
theorem flat_ru (x : Ru) (m : Md) : flatR (ruD x) m = true := by
  unfold flatR
  rw [imm_ru]; rfl
theorem immL_map {α : Type} {f : α → D} (h : ∀ x, (f x).imm = true) : ∀ xs : List α, D.imm.immL (xs.map f) = true
  | [] => rfl
  | x :: xs => by rw [List.map_cons]; show ((f x).imm && _) = true; rw [h x, immL_map h xs]; rfl
theorem flat_rus {b : List Ru} : flatR (.lst (b.map ruD)) .ow = true := by
  show (D.imm (.lst _) || D.imm.immL (b.map ruD)) = true
  rw [immL_map imm_ru]
  rfl
theorem flat_ints {b : List Int} : flatR (.lst (b.map fun i => D.sc (.int i))) .ow = true := by
  show (D.imm (.lst _) || D.imm.immL (b.map fun i => D.sc (.int i))) = true
  rw [immL_map fun _ => rfl]
  rfl
theorem flat_strs {b : List Str} : flatR (.lst (b.map fun i => D.sc (.str i))) .ow = true := by
  show (D.imm (.lst _) || D.imm.immL (b.map fun i => D.sc (.str i))) = true
  rw [immL_map fun _ => rfl]
  rfl
section
variable {Q : D → Md → Prop} {b : List Ru} {x y : Ru} {p q p2 q2 r r2 : List Pr} {s t : Bool}
theorem C_torn_eq' : C_torn [.lst (b.map ruD)] Q = (smallB 10000 b ∧ Q (optD pairNN (tornL b)) .st) := C_torn_eq
theorem C_binding_eq' : C_binding [.lst (b.map ruD), .tup [packD p, packD q]] Q = ((smallB 1000 b ∧ Cs.small 1000 (p, q)) ∧ Q (optD (boundD b) (bindL b (p, q))) .st) := C_binding_eq (c := (p, q))
theorem C_barred_eq' : C_barred [.lst (b.map ruD), ruD x] Q = ((smallB 10000 b ∧ x.small 10000) ∧ Q (optD natD (barL b x)) .st) := C_barred_eq
theorem C_barred_eq2 : C_barred [.lst (b.map ruD), .tup [.tup [packD p, packD q], .sc (.str (sd s)), packD r]] Q = ((smallB 10000 b ∧ (⟨p, q, s, r⟩ : Ru).small 10000) ∧ Q (optD natD (barL b ⟨p, q, s, r⟩)) .st) := C_barred_eq (x := ⟨p, q, s, r⟩)
theorem C_fullest_eq' : C_fullest [.tup [packD p, packD q], .sc (.str (sd s))] Q = ((Cs.small 10000 (p, q) ∧ KU (pick s p q)) ∧ Q (ruD (fullR (p, q) s)) .st) := C_fullest_eq (c := (p, q))
end
theorem dec_book0 {k : List Ru → Prop} : dec bookD (.lst []) k = k [] := dec_book (bk := [])
theorem dec_ints0 {k : List Int → Prop} : dec scriptD (.lst []) k = k [] := dec_ints (ns := [])
theorem dec_strs0 {k : List Str → Prop} : dec strsD (.lst []) k = k [] := dec_strs (ws := [])
theorem dec_pk0 {k : List Pr → Prop} : dec packD (.tup []) k = k [] := dec_pk (p := [])
theorem flatR_t {ds : List D} {m : Md} : flatR (.tup ds) m = D.imm.immL ds := by
  unfold flatR
  simp only [D.imm]
  cases m <;> simp [D.immIn]
theorem immL_c {d : D} {ds : List D} : D.imm.immL (d :: ds) = (d.imm && D.imm.immL ds) := rfl
theorem immL_n : D.imm.immL [] = true := rfl
theorem imm_s {v : V} : D.imm (.sc v) = true := rfl
theorem imm_t {ds : List D} : D.imm (.tup ds) = D.imm.immL ds := by simp only [D.imm]
/-- each turn goes on to the next -/
theorem for_all {α : Type} {tg : Gx} {g : Sx} {E : Os} (enc : α → D) (xs : List α) {env : En} (h0 : E.nx env)
    (hs : ∀ x ∈ xs, ∀ N : En → Prop, N env → tg (enc x) env fun e => g e { nx := N, ct := N, bk := E.nx, rt := E.rt, ro := E.ro }) : loopF tg g (xs.map enc) env E :=
  for_st (σ := Unit) enc xs (fun _ => env) (fun _ _ => True) (s0 := ()) trivial (fun _ _ => h0) fun pre x post e _ _ N hN => hs x (by rw [e]; simp) N (hN () trivial)
end P
namespace P
open PySem PySem.Spec PyProof.Rows L2
section
variable {X : Cx} {c : Fc}
def rInsert : V → List V → Hp → VK → Prop := fun x vs H Q => ∃ (l : Addr) (xs : List V) (i : Int) (y : V), x = .ref l ∧ vs = [.int i, y] ∧ H l = some (.lst xs) ∧ xs.length < sizeLine ∧ 0 ≤ i ∧ i < 2 ^ 63 ∧ Q .non (upd H l (.lst (xs.take i.toNat ++ [y] ++ xs.drop i.toNat)))
theorem mt_insertA : MtR X "list.insert" rInsert := mt_insert
def insertQ : Mq := fun ds ps P => match ps with
  | [(.sc (.int i), _), (d, md)] => isBr md = false ∧ ds.length < sizeLine ∧ (0 ≤ i ∧ i < 2 ^ 63) ∧ P (ds.take i.toNat ++ [d] ++ ds.drop i.toNat) (.sc .non)
  | _ => False
theorem Rbs.twoR {R O : List Addr} {H : Hp} {xs : List V} {p q : D × Md} (h : Rbs c R O H xs [p, q]) : ∃ x y, xs = [x, y] ∧ Rb c R O H x p.1 ∧ (q.2 ≠ .br → Rep c.K (cut H (O ++ (c.A ++ R))) y q.1) := by
  cases h with | cons a b t => cases t with | cons a' b' t' => cases t'; exact ⟨_, _, rfl, a, b'⟩
theorem MutL.insert : MutL c rInsert insertQ := by
  intro R O H a vs xs ds ps P Q w h r b t k
  unfold insertQ at t
  split at t
  · obtain ⟨x, y, rfl, b1, st⟩ := Rbs.twoR b
    obtain ⟨nb, hl, ⟨h0, h1⟩, t⟩ := t
    cases b1.sc
    rename_i i _ _ _
    exact ⟨a, vs, i, y, rfl, rfl, h, by rw [r.length]; exact hl, h0, h1, k _ _ t .non _ (((r.take i.toNat).append (.cons (st (notBr nb)) .nil)).append (r.drop i.toNat)) (.sc rfl)⟩
  · exact t.elim
end
end P
namespace P
open PySem PySem.Spec PyProof.Rows L2
mutual
theorem eqD_self : ∀ d : D, d.plain = true → eqD d d = true
  | .sc v, h => by
    cases v with
    | non => rfl
    | bl b => rw [eqD_b]; simp
    | int i => rw [eqD_i]; simp
    | str x => rw [eqD_s]; simp
    | _ => cases h
  | .tup ds, h => eqDt_self ds h
  | .lst ds, h => (eqDt_self ds h : eqD (.tup ds) (.tup ds) = true)
  | .ktp _, h => nomatch h
  | .dic _ _, h => nomatch h
  | .dit _ _, h => nomatch h
  | .exc _ _ _, h => nomatch h
  | .cls _, h => nomatch h
  | .ob _, h => nomatch h
  | .ins _ _ _, h => nomatch h
theorem eqDt_self : ∀ ds : List D, D.plain.plainL ds = true → eqD (.tup ds) (.tup ds) = true
  | [], _ => rfl
  | d :: ds, h => by
    have h' : d.plain = true ∧ D.plain.plainL ds = true := by simpa [D.plain.plainL] using h
    rw [eqD_tt, eqD_self d h'.1, eqDt_self ds h'.2]; rfl
end
end P
namespace P
open PySem PySem.Spec PyProof.Rows L2
abbrev Exo := En → (D → Md → En → Prop) → Prop
abbrev Axo := En → (List D → En → Prop) → Prop
abbrev Txo := En → (Bool → En → Prop) → Prop
/-- no cell of the slots -/
def NoCel (env : En) (b : Addr) : Prop := ∀ (i : Nat) (S : Sto), env[i]? = some (.gh S) → S b = none
def NoSlot (env : En) (σ : L2.St) (b : Addr) : Prop := ∀ (i : Nat) (e : D), env[i]? = some (.ow e) → σ[i]? ≠ some (some (V.ref b))
/-- what stood and was not owned stays, and is not owned -/
def Eff (O O' : List Addr) (H H' : Hp) : Prop := ∀ b o, H b = some o → b ∉ O → H' b = some o ∧ b ∉ O'
theorem Eff.refl {O : List Addr} {H : Hp} : Eff O O H H := fun _ _ h n => ⟨h, n⟩
theorem Eff.trans {O O1 O2 : List Addr} {H H1 H2 : Hp} (a : Eff O O1 H H1) (b : Eff O1 O2 H1 H2) : Eff O O2 H H2 := fun x o h n =>
  let ⟨h1, i1⟩ := a x o h n
  b x o h1 i1
/-- no shared records -/
def NoR (c : Fc) : Prop := ∀ o, ¬ c.Φ o
/-- how a value is had while cells may change -/
def RMx (c : Fc) (O : List Addr) (H : Hp) (σ : L2.St) (env : En) (v : V) (d : D) : Md → Prop
  | .st => Rep c.K (cut H (O ++ (c.A ++ []))) v d
  | .br => ∃ a, v = .ref a ∧ a ∈ O ∧ Own c.K H (cut H (O ++ (c.A ++ []))) a d
  | .ow => ∃ a, v = .ref a ∧ a ∈ O ∧ Own c.K H (cut H (O ++ (c.A ++ []))) a d ∧ NoSlot env σ a ∧ NoCel env a
section
variable {c : Fc} {R R' O O' O1 : List Addr} {σ : L2.St} {H H' H1 Ha : Hp} {env env' e1 : En} {v : V} {d : D} {md : Md}
theorem NoR.nil (z : NoR c) (w : HW c R O H) : R = [] := by
  cases R with
  | nil => rfl
  | cons a r => obtain ⟨o, _, f⟩ := w.rok a List.mem_cons_self; exact absurd f (z o)
theorem Rel.noCel (r : Rel c R O σ H env) {b : Addr} (h : b ∉ O) : NoCel env b := fun i S e => by
  cases q : S b with
  | none => rfl
  | some d => exact absurd (r.gh i S e b d q).1 h
theorem Eff.same (r : Rel c [] O σ H env) (e : Eff O O' H H') : Same (cut H (O ++ (c.A ++ []))) (cut H' (O' ++ (c.A ++ []))) := fun b o q => by
  obtain ⟨m, q⟩ := cut_some q
  simp only [List.mem_append, not_or] at m
  obtain ⟨h1, h2⟩ := e b o q m.1
  rw [cut_out]
  · exact h1
  · simp only [List.mem_append, not_or]
    exact ⟨h2, m.2⟩
theorem Eff.of (r : Rel c [] O σ H env) (s : Stp c.Φ [] [] H H') : Eff O O H H' := fun b o h n => ⟨s.same b o h (fun z => nomatch z), n⟩
/-- what is owned by nobody is given up -/
theorem Rel.drop {a : Addr} (r : Rel c [] O σ H env) (m : a ∈ O) (ns : NoSlot env σ a) (nc : NoCel env a) : Rel c [] (O.filter fun z => decide (z ≠ a)) σ H env := by
  have sub : ∀ b, b ∈ O.filter (fun z => decide (z ≠ a)) ++ (c.A ++ []) → b ∈ O ++ (c.A ++ []) := fun b z => by
    rcases List.mem_append.mp z with z | z
    · exact List.mem_append_left _ (List.mem_filter.mp z).1
    · exact List.mem_append_right _ z
  have sm := cut_sub (H := H) sub
  refine ⟨⟨fun b z => r.new b (List.mem_filter.mp z).1, fun b z => r.oR b (List.mem_filter.mp z).1, r.keep, r.rsub, r.rnew, r.rok, fun b z => r.aok b (sub b z), fun p z => (r.pins p z).mono sm, r.ha⟩, r.len, fun j e z => ?_, fun j e z => ?_, r.inj, fun j S z => ?_, r.ghd, r.ghu⟩
  · obtain ⟨v, h1, h2⟩ := r.sh j e z
    exact ⟨v, h1, h2.mono sm⟩
  · obtain ⟨b, h1, h2, h3⟩ := r.ow j e z
    refine ⟨b, h1, List.mem_filter.mpr ⟨h2, decide_eq_true fun y => ?_⟩, h3.mono sm fun _ w => w⟩
    subst y
    exact ns j e z h1
  · refine (r.gh j S z).mono sm (fun _ _ _ z => z) fun b d' qs m => List.mem_filter.mpr ⟨m, decide_eq_true fun y => ?_⟩
    subst y
    rw [nc j S z] at qs; cases qs
theorem RMx.stab (r : Rel c [] O σ H env) (h : RMx c O H σ env v d md) (nb : isBr md = false) : ∃ O', Rel c [] O' σ H env ∧ Eff O O' H H ∧ Rep c.K (cut H (O' ++ (c.A ++ []))) v d := by
  cases md with
  | st => exact ⟨O, r, Eff.refl, h⟩
  | br => cases nb
  | ow =>
    obtain ⟨a, rfl, m, o, ns, nc⟩ := h
    refine ⟨_, r.drop m ns nc, fun b u q n => ⟨q, fun y => n (List.mem_filter.mp y).1⟩, o.rep (cut_sub fun b z => ?_) fun u q => ?_⟩
    · rcases List.mem_append.mp z with z | z
      · exact List.mem_append_left _ (List.mem_filter.mp z).1
      · exact List.mem_append_right _ z
    · rw [cut_out]
      · exact q
      · intro z
        rcases List.mem_append.mp z with z | z
        · have := (List.mem_filter.mp z).2
          simp at this
        · rcases List.mem_append.mp z with z | z
          · exact r.ha a z (r.new a m)
          · cases z
theorem RMx.rb (r : Rel c [] O σ H env) (h : RMx c O H σ env v d md) : Rb c [] O H v d := by
  cases md with
  | st => exact .st h
  | br => obtain ⟨a, rfl, m, o⟩ := h; exact .ow o (fun z => nomatch z)
  | ow => obtain ⟨a, rfl, m, o, _⟩ := h; exact .ow o (fun z => nomatch z)
/-- a pure step: what it makes is had -/
theorem RM.x (z : NoR c) (r : Rel c [] O σ H env) (s : Stp c.Φ [] [] H H') (h : RM c H [] O H' v d md) : ∃ O', Eff O O' H H' ∧ Rel c [] O' σ H' env ∧ RMx c O' H' σ env v d md := by
  cases md with
  | st => exact ⟨O, Eff.of r s, r.step s, h⟩
  | br => obtain ⟨a, e, m, o⟩ := h; exact ⟨O, Eff.of r s, r.step s, a, e, m, o⟩
  | ow =>
    obtain ⟨p, rfl, n, nO, nA, nR, o⟩ := h
    have sm : Same (cut H (O ++ (c.A ++ []))) (cut H' (p :: (O ++ (c.A ++ [])))) := fun b u e => by
      have e' := r.toHW.cutSame s b u e
      obtain ⟨m, e'⟩ := cut_some e'
      obtain ⟨_, e⟩ := cut_some e
      rw [cut_out]
      · exact e'
      · intro z
        rcases List.mem_cons.mp z with z | z
        · rw [z, n] at e; cases e
        · exact m z
    have ns : NoSlot env σ p := fun i e q y => by
      obtain ⟨a, b, m, x⟩ := r.ow i e q
      rw [y] at b
      cases b
      exact nO m
    have nc : NoCel env p := r.noCel nO
    refine ⟨p :: O, fun b u q n' => ⟨s.same b u q (fun z => nomatch z), fun y => ?_⟩, ⟨(r.step s).toHW.take (Ha := H) (r.toHW.h0 n) (fun q m => (r.pins q m).mono sm) nR o, r.len, fun j e q => ?_, fun j e q => ?_, r.inj, fun j S q => (r.gh j S q).mono sm (fun a u m y => s.same a u y (fun z => nomatch z)) fun _ _ _ m => List.mem_cons_of_mem _ m, r.ghd, r.ghu⟩, p, rfl, List.mem_cons_self, o, ns, nc⟩
    · rcases List.mem_cons.mp y with y | y
      · rw [y, n] at q; cases q
      · exact n' y
    · obtain ⟨u, a, b⟩ := r.sh j e q
      exact ⟨u, a, b.mono sm⟩
    · obtain ⟨a, b, m, x⟩ := r.ow j e q
      exact ⟨a, b, List.mem_cons_of_mem _ m, x.mono sm fun u z => s.same a u z (r.oR a m)⟩
def o_e (te : Ex) : Exo := fun env Q => te env fun d md => Q d md env
def o_t (tt : Tx) : Txo := fun env Q => tt env fun b => Q b env
def o_a (ta : Ax) : Axo := fun env Q => ta env fun ps => brs ps = false ∧ Q (ps.map (·.1)) env
variable {X : Cx}
def a_nilo : Axo := fun env Q => Q [] env
def a_conso (te : Exo) (ta : Axo) : Axo := fun env Q => te env fun d md e1 => isBr md = false ∧ ta e1 fun ds e2 => Q (d :: ds) e2
def e_opo (oq : D → D → (D → Md → Prop) → Prop) (ta tb : Exo) : Exo := fun env Q => ta env fun d md e1 => isBr md = false ∧ tb e1 fun e _ e2 => oq d e fun d' md' => Q d' md' e2
theorem RepL.rbs {vs : List V} {ds : List D} (h : RepL c.K (cut H (O ++ (c.A ++ []))) vs ds) : Rbs c [] O H vs (ds.map fun d => (d, .st)) := by
  induction ds generalizing vs with
  | nil => cases h; exact .nil
  | cons d ds ih =>
    cases h with
    | cons a b => exact .cons (.st a) (fun _ => a) (ih b)
end
end P
namespace P
open PySem PySem.Spec PyProof.Rows L2
def putS (S : Sto) (a : Addr) (d : D) : Sto := fun b => if b = a then some d else S b
theorem putS_same {S : Sto} {a : Addr} {d : D} : putS S a d a = some d := if_pos rfl
def ghQ (k : Nat) (env : En) (P : Sto → Prop) : Prop := match env[k]? with
  | some (.gh S) => P S
  | _ => False
section
variable {c : Fc} {R O O' : List Addr} {σ : L2.St} {H H' : Hp} {env e1 : En} {v : V} {d d0 d' : D} {md : Md} {k i : Nat} {S : Sto} {a : Addr} {o' : HO}
def frzg : Sl → Sl
  | .ow d => .sh d
  | s => s
def En.frzg (env : En) : En := env.map P.frzg
end
def e_cbo (cq : Cq) (ta : Axo) : Exo := fun env Q => ta env fun ds e1 => cq (ds.map fun d => (d, .st)) fun d md => Q d md e1
def e_tupo (ta : Axo) : Exo := fun env Q => ta env fun ds e1 => ds.length ≤ sizeLine ∧ Q (.tup ds) .st e1
def e_lsto (ta : Axo) : Exo := fun env Q => ta env fun ds e1 => ds.length ≤ sizeLine ∧ Q (.lst ds) .ow e1
def e_ando (ta tb : Exo) : Exo := fun env Q => ta env fun d _ e1 => blQ d fun b => if b = true then tb e1 Q else Q (.sc (.bl false)) .st e1
def e_oro (ta tb : Exo) : Exo := fun env Q => ta env fun d _ e1 => blQ d fun b => if b = true then Q (.sc (.bl true)) .st e1 else tb e1 Q
def e_noto (ta : Exo) : Exo := fun env Q => ta env fun d _ e1 => blQ d fun b => Q (.sc (.bl (!b))) .st e1
def t_ofo (te : Exo) : Txo := fun env Q => te env fun d _ e1 => truth d fun b => Q b e1
def t_opo (oq : D → D → (D → Md → Prop) → Prop) (ta tb : Exo) : Txo := fun env Q => e_opo oq ta tb env fun d _ e1 => ∃ b, d = .sc (.bl b) ∧ Q b e1
def t_ando (ta tb : Txo) : Txo := fun env Q => ta env fun b e1 => if b = true then tb e1 Q else Q false e1
def t_oro (ta tb : Txo) : Txo := fun env Q => ta env fun b e1 => if b = true then Q true e1 else tb e1 Q
def t_noto (ta : Txo) : Txo := fun env Q => ta env fun b e1 => Q (!b) e1
/-- a new list or dict becomes a cell -/
def e_cell (k : Nat) (te : Exo) : Exo := fun env Q => te env fun d md e1 => ghQ k e1 fun S => (match md with | .ow => True | _ => False) ∧ ∀ a, S a = none → Q (.ob a) .st (e1.set k (.gh (putS S a d)))
/-- a cell is looked into -/
def celQ (k : Nat) (env : En) (d : D) (Q : D → Prop) : Prop := match d with
  | .ob a => ghQ k env fun S => match S a with
    | some d' => Q d'
    | none => False
  | _ => False
def e_cel (k : Nat) (te : Ex) : Ex := fun env Q => te env fun d _ => celQ k env d fun d' => Q d' .br
section
variable {X : Cx} {c : Fc} {k : Nat}
theorem Rb.ob {R O : List Addr} {H : Hp} {x : V} {a : Addr} (h : Rb c R O H x (.ob a)) : x = .ref a := by
  cases h with
  | st h => cases h; rfl
  | ow o _ => cases o
end
end P
namespace P
open PySem PySem.Spec PyProof.Rows L2
def s_seto (i : Nat) (te : Exo) : Sx := fun env E => te env fun d md e1 => bindS d md fun s => E.nx (e1.set i s)
def s_expro (te : Exo) : Sx := fun env E => te env fun _ _ e1 => E.nx e1
def s_ifo (tt : Txo) (g h : Sx) : Sx := fun env E => tt env fun b e1 => if b = true then g e1 E else h e1 E
def s_asgo (te : Exo) (g : Gx) : Sx := fun env E => te env fun d md e1 => isBr md = false ∧ g d e1 E.nx
/-- return of a def that was handed no cells: the cells are gone -/
def s_reto (te : Exo) : Sx := fun env E => te env.frzg fun d md _ => isBr md = false ∧ E.rt d md
/-- return of a def that was handed cells -/
def s_ro (te : Exo) : Sx := fun env E => te env.frzg fun d md e1 => isBr md = false ∧ E.ro e1 d md
def s_rvo (i : Nat) : Sx := fun env E => match env[i]? with
  | some (.sh d) => E.ro env d .st
  | some (.ow d) => E.ro env d .ow
  | _ => False
def s_rno : Sx := fun env E => E.ro env (.sc .non) .st
/-- no cells yet -/
def s_gh0 (k : Nat) (g : Sx) : Sx := fun env E => (∀ s ∈ env, match s with | .gh _ => False | _ => True) ∧ g (env.set k (.gh fun _ => none)) E
section
variable {X : Cx} {c : Fc} {R O O' : List Addr} {σ : L2.St} {H H' : Hp} {env e1 : En} {v : V} {d : D} {md : Md} {k : Nat}
/-- what a def hands back -/
theorem FinO.of {env : En} (r : Rel c [] O σ H env) (m : RMx c O H σ env v d md) (nb : isBr md = false) : FinO c env v d md H := by
  cases md with
  | st => exact ⟨[], O, r.toHW, fun i S h => r.gh i S h, m⟩
  | br => cases nb
  | ow =>
    obtain ⟨a, e, m, x, ns, nc⟩ := m
    exact ⟨[], O, r.toHW, fun i S h => r.gh i S h, a, e, m, x, nc⟩
end
abbrev Co := List D → Sto → (D → Md → Sto → Prop) → Prop
def startO (N : List Str) (ds : List D) (S : Sto) : En := (startE N ds).set (N.length - 1) (.gh S)
def osOfo (k : Nat) (Q : D → Md → Sto → Prop) : Os := ⟨fun env => ghQ k env fun S => Q (.sc .non) .st S, fun _ _ => False, fun _ => False, fun _ => False, fun env d md => ghQ k env fun S => Q d md S⟩
end P
namespace P
open PySem PySem.Spec PyProof.Rows L2
def e_callo (k n : Nat) (C : Co) (ta : Axo) : Exo := fun env Q => ta env fun ds e1 => ds.length = n ∧ ghQ k e1 fun S => C ds S fun d md S' => Q d md (e1.set k (.gh S'))
def restE (e0 env : En) : List Nat → En
  | [] => env
  | v :: vs => (restE e0 env vs).set v (match e0[v]? with | some (.sh d) => .sh d | _ => .no)
def compFo (tx : Gx) (tt : Txo) (te : Exo) (vs : List Nat) : List D → List D → En → (List D → En → Prop) → Prop
  | [], acc, env, Q => Q acc env
  | d :: ds, acc, env, Q => tx d env fun e => tt e fun b e1 => if b = true then te e1 fun y md e2 => isBr md = false ∧ acc.length < sizeLine ∧ compFo tx tt te vs ds (acc ++ [y]) (wipeE e2 vs) Q else compFo tx tt te vs ds acc (wipeE e1 vs) Q
def e_lco (ti : Ix) (tx : Gx) (tt : Txo) (te : Exo) (vs : List Nat) : Exo := fun env Q => ti env fun ds b => b = true ∧ compFo tx tt te vs ds [] (wipeE env vs) fun acc e1 => Q (.lst acc) .ow (restE env e1 vs)
def t_yeso : Txo := fun env Q => Q true env
end P
namespace P
open PySem PySem.Spec PyProof.Rows L2
def celA (k : Nat) (env : En) (d : D) (Q : Addr → Sto → D → Prop) : Prop := match d with
  | .ob a => ghQ k env fun S => match S a with
    | some d' => Q a S d'
    | none => False
  | _ => False
def lstQ (d : D) (R : List D → Prop) : Prop := match d with
  | .lst xs => R xs
  | _ => False
/-- te[tk] = tv -/
def s_cset (k : Nat) (te tk : Ex) (tv : Exo) : Sx := fun env E => tv env fun y md e1 => isBr md = false ∧ te e1 fun d _ => tk e1 fun kd _ => celA k e1 d fun a S d' => setQ d' kd y fun s' => E.nx (e1.set k (.gh (putS S a s')))
/-- te.m(..), of a list -/
def e_cmeth (k : Nat) (mq : Mq) (te : Ex) (ta : Axo) : Exo := fun env Q => te env fun d _ => celA k env d fun _ _ d0 => isLst d0 = true ∧ ta env fun ds e1 => celA k e1 d fun a S d' => lstQ d' fun xs => mq xs (ds.map fun d => (d, .st)) fun xs' rr => Q rr .st (e1.set k (.gh (putS S a (.lst xs'))))
/-- te.f -/
def fldD (cn : Str) (flds : List Str) (j : Nat) (d : D) (P : D → Prop) : Prop := match d with
  | .ins c ns ds => (c = cn ∧ ns = flds.take ds.length) ∧ match ds[j]? with
    | some x => P x
    | none => False
  | _ => False
def e_fld (k : Nat) (cn : Str) (flds : List Str) (j : Nat) (te : Ex) : Ex := fun env Q => te env fun d _ => celA k env d fun _ _ d' => fldD cn flds j d' fun x => Q x .st
def setF (cn : Str) (flds : List Str) (j : Nat) (y : D) (d : D) (P : D → Prop) : Prop := match d with
  | .ins c ns ds => (c = cn ∧ ns = flds.take ds.length) ∧ (if j < ds.length then P (.ins c ns (ds.set j y)) else j = ds.length ∧ P (.ins c (flds.take (ds.length + 1)) (ds ++ [y])))
  | _ => False
/-- te.f = tv -/
def s_fld (k : Nat) (cn : Str) (flds : List Str) (j : Nat) (te : Ex) (tv : Exo) : Sx := fun env E => tv env fun y md e1 => isBr md = false ∧ te e1 fun d _ => celA k e1 d fun a S d' => setF cn flds j y d' fun d2 => E.nx (e1.set k (.gh (putS S a d2)))
def isIns (cn : Str) (flds : List Str) (d : D) : Prop := match d with
  | .ins c ns ds => c = cn ∧ ns = flds.take ds.length
  | _ => False
/-- te.m(..), m a method of the class -/
def e_metho (k : Nat) (cn : Str) (flds : List Str) (n : Nat) (C : Co) (dv : List D) (te : Exo) (ta : Axo) : Exo := fun env Q => te env fun d _ e0 => celA k e0 d fun _ _ d' => isIns cn flds d' ∧ ta e0 fun ds e1 => (d :: (ds ++ dv)).length = n ∧ ghQ k e1 fun S => C (d :: (ds ++ dv)) S fun d2 md S' => Q d2 md (e1.set k (.gh S'))
/-- C(..) -/
def e_newo (k : Nat) (cn : Str) (n : Nat) (C : Co) (dv : List D) (ta : Axo) : Exo := fun env Q => ta env fun ds e1 => ds.length + dv.length + 1 = n ∧ ghQ k e1 fun S => ∀ a, S a = none → C (.ob a :: (ds ++ dv)) (putS S a (.ins cn [] [])) fun d _ S' => d = .sc .non ∧ Q (.ob a) .st (e1.set k (.gh S'))
def celIs (k : Nat) (env : En) (a : Addr) (ds : List D) : Prop := ghQ k env fun S => S a = some (.lst ds)
def loopFc (k : Nat) (a : Addr) (ds0 : List D) (tg : Gx) (g : Sx) : List D → En → Os → Prop
  | [], env, E => celIs k env a ds0 ∧ E.nx env
  | d :: ds, env, E => celIs k env a ds0 ∧ tg d env fun e => g e { nx := fun e => loopFc k a ds0 tg g ds e E, ct := fun e => loopFc k a ds0 tg g ds e E, bk := E.nx, rt := E.rt, ro := E.ro }
/-- for tg in te: g, where te is a cell or a list -/
def s_forx (k : Nat) (te : Exo) (tg : Gx) (g : Sx) : Sx := fun env E => te env fun d md e1 => match d with
  | .ob a => ghQ k e1 fun S => match S a with
    | some (.lst ds) => loopFc k a ds tg g ds e1 E
    | _ => False
  | .lst ds => isBr md = false ∧ loopF tg g ds e1 E
  | .tup ds => isBr md = false ∧ loopF tg g ds e1 E
  | _ => False
/-- for tg in enumerate(te): g, te a cell -/
def s_forE (k : Nat) (te : Ex) (tg : Gx) (g : Sx) : Sx := fun env E => te env fun d _ => celA k env d fun a _ d' => lstQ d' fun ds => loopFc k a ds tg g (enumD 0 ds) env E
end P
namespace P
open PySem PySem.Spec PyProof.Rows L2
def e_callp (n : Nat) (C : Ct) (ta : Axo) : Exo := fun env Q => ta env fun ds e1 => ds.length = n ∧ C ds fun d md => Q d md e1
/-- x.m(..) of an owned list x -/
def s_metho (i : Nat) (mq : Mq) (ta : Axo) : Sx := fun env E => (∃ ds, env[i]? = some (.ow (.lst ds))) ∧ ta env fun ds e1 => match e1[i]? with
  | some (.ow (.lst xs)) => mq xs (ds.map fun d => (d, .st)) fun xs' _ => E.nx (e1.set i (.ow (.lst xs')))
  | _ => False
/-- x[tk] = tv of an owned x -/
def s_setixo (i : Nat) (tk : Ex) (tv : Exo) : Sx := fun env E => tv env fun y md e1 => isBr md = false ∧ match e1[i]? with
  | some (.ow s) => tk e1 fun kd _ => setQ s kd y fun s' => E.nx (e1.set i (.ow s'))
  | _ => False
/-- for tg in range(..): g -/
def s_fori (iq : Iq) (ta : Axo) (tg : Gx) (g : Sx) : Sx := fun env E => ta env fun ds e1 => iq (ds.map fun d => (d, .st)) fun is b => b = true ∧ loopF tg g is e1 E
section
variable {k n i : Nat} {env e1 r : En} {s : Sl} {S T : Sto} {a b : Addr} {d y : D} {ds xs is : List D} {md : Md} {Q : D → Md → En → Prop} {Qb : Bool → En → Prop} {Qa : List D → En → Prop} {PS : Sto → Prop} {te ta tb : Exo} {tt tu : Txo} {tx : Axo} {pe : Ex} {pa : Ax} {pt : Tx} {E : Os} {g h : Sx} {tg : Gx} {mq : Mq} {C : Co} {Cp : Ct} {dv : List D} {oq : D → D → (D → Md → Prop) → Prop} {cq : Cq} {cn : Str} {flds : List Str} {j : Nat} {tk : Ex} {N : List Str}
def ghS (s : Sl) (P : Sto → Prop) : Prop := match s with
  | .gh S => P S
  | _ => False
theorem ghQ_eq : ghQ k env PS = slotAt k env fun s => ghS s PS := by
  rw [slotAt_get]; unfold ghQ ghS
  cases env[k]? with
  | none => rfl
  | some s => cases s <;> rfl
theorem ghS_gh : ghS (.gh S) PS = PS S := rfl
def optS (o : Option D) (R : D → Prop) : Prop := match o with
  | some d => R d
  | none => False
theorem optS_some {R : D → Prop} : optS (some d) R = R d := rfl
theorem celQ_ob {R : D → Prop} : celQ k env (.ob a) R = ghQ k env fun S => optS (S a) R := rfl
theorem celA_ob {R : Addr → Sto → D → Prop} : celA k env (.ob a) R = ghQ k env fun S => optS (S a) fun d => R a S d := rfl
theorem o_e_eq : o_e pe env Q = pe env fun d md => Q d md env := rfl
theorem o_t_eq : o_t pt env Qb = pt env fun b => Qb b env := rfl
theorem o_a_eq : o_a pa env Qa = pa env fun ps => brs ps = false ∧ Qa (ps.map (·.1)) env := rfl
theorem a_nilo_eq : a_nilo env Qa = Qa [] env := rfl
theorem a_conso_eq : a_conso te tx env Qa = te env fun d md e1 => isBr md = false ∧ tx e1 fun ds e2 => Qa (d :: ds) e2 := rfl
theorem e_opo_eq : e_opo oq ta tb env Q = ta env fun d md e1 => isBr md = false ∧ tb e1 fun e _ e2 => oq d e fun d' md' => Q d' md' e2 := rfl
theorem e_cbo_eq : e_cbo cq tx env Q = tx env fun ds e1 => cq (ds.map fun d => (d, .st)) fun d md => Q d md e1 := rfl
theorem e_tupo_eq : e_tupo tx env Q = tx env fun ds e1 => ds.length ≤ sizeLine ∧ Q (.tup ds) .st e1 := rfl
theorem e_lsto_eq : e_lsto tx env Q = tx env fun ds e1 => ds.length ≤ sizeLine ∧ Q (.lst ds) .ow e1 := rfl
theorem e_ando_eq : e_ando ta tb env Q = ta env fun d _ e1 => blQ d fun b => if b = true then tb e1 Q else Q (.sc (.bl false)) .st e1 := rfl
theorem e_oro_eq : e_oro ta tb env Q = ta env fun d _ e1 => blQ d fun b => if b = true then Q (.sc (.bl true)) .st e1 else tb e1 Q := rfl
theorem e_noto_eq : e_noto ta env Q = ta env fun d _ e1 => blQ d fun b => Q (.sc (.bl (!b))) .st e1 := rfl
theorem t_ofo_eq : t_ofo te env Qb = te env fun d _ e1 => truth d fun b => Qb b e1 := rfl
theorem t_opo_eq : t_opo oq ta tb env Qb = e_opo oq ta tb env fun d _ e1 => ∃ b, d = .sc (.bl b) ∧ Qb b e1 := rfl
theorem t_ando_eq : t_ando tt tu env Qb = tt env fun b e1 => if b = true then tu e1 Qb else Qb false e1 := rfl
theorem t_oro_eq : t_oro tt tu env Qb = tt env fun b e1 => if b = true then Qb true e1 else tu e1 Qb := rfl
theorem t_noto_eq : t_noto tt env Qb = tt env fun b e1 => Qb (!b) e1 := rfl
theorem t_yeso_eq : t_yeso env Qb = Qb true env := rfl
theorem e_cell_eq : e_cell k te env Q = te env fun d md e1 => ghQ k e1 fun S => (match md with | .ow => True | _ => False) ∧ ∀ a, S a = none → Q (.ob a) .st (e1.set k (.gh (putS S a d))) := rfl
theorem e_cel_eq {Q : D → Md → Prop} : e_cel k pe env Q = pe env fun d _ => celQ k env d fun d' => Q d' .br := rfl
theorem e_callo_eq : e_callo k n C tx env Q = tx env fun ds e1 => ds.length = n ∧ ghQ k e1 fun S => C ds S fun d md S' => Q d md (e1.set k (.gh S')) := rfl
theorem e_callp_eq : e_callp n Cp tx env Q = tx env fun ds e1 => ds.length = n ∧ Cp ds fun d md => Q d md e1 := rfl
theorem s_seto_eq : s_seto i te env E = te env fun d md e1 => bindS d md fun s => E.nx (e1.set i s) := rfl
theorem s_expro_eq : s_expro te env E = te env fun _ _ e1 => E.nx e1 := rfl
theorem s_ifo_eq : s_ifo tt g h env E = tt env fun b e1 => if b = true then g e1 E else h e1 E := rfl
theorem s_asgo_eq : s_asgo te tg env E = te env fun d md e1 => isBr md = false ∧ tg d e1 E.nx := rfl
theorem s_reto_eq : s_reto te env E = te env.frzg fun d md _ => isBr md = false ∧ E.rt d md := rfl
theorem s_ro_eq : s_ro te env E = te env.frzg fun d md e1 => isBr md = false ∧ E.ro e1 d md := rfl
def rvS (s : Sl) (env : En) (E : Os) : Prop := match s with
  | .sh d => E.ro env d .st
  | .ow d => E.ro env d .ow
  | _ => False
theorem s_rvo_eq : s_rvo i env E = slotAt i env fun s => rvS s env E := by
  rw [slotAt_get]; unfold s_rvo rvS
  cases env[i]? with
  | none => rfl
  | some s => cases s <;> rfl
theorem rvS_sh : rvS (.sh d) env E = E.ro env d .st := rfl
theorem rvS_ow : rvS (.ow d) env E = E.ro env d .ow := rfl
theorem s_rno_eq : s_rno env E = E.ro env (.sc .non) .st := rfl
def noG (s : Sl) : Bool := match s with
  | .gh _ => false
  | _ => true
theorem s_gh0_eq : s_gh0 k g env E = (env.all noG = true ∧ g (env.set k (.gh fun _ => none)) E) := by
  apply propext
  refine and_congr ?_ Iff.rfl
  rw [List.all_eq_true]
  refine ⟨fun h s m => ?_, fun h s m => ?_⟩
  · have := h s m
    cases s <;> first | rfl | exact this.elim
  · have := h s m
    cases s <;> first | exact trivial | cases this
theorem noG_no : noG .no = true := rfl
theorem noG_sh : noG (.sh d) = true := rfl
theorem noG_ow : noG (.ow d) = true := rfl
theorem frzg_no : frzg .no = .no := rfl
theorem frzg_sh : frzg (.sh d) = .sh d := rfl
theorem frzg_ow : frzg (.ow d) = .sh d := rfl
theorem frzg_gh : frzg (.gh S) = .gh S := rfl
theorem s_cset_eq {pb : Ex} : s_cset k pe pb te env E = te env fun y md e1 => isBr md = false ∧ pe e1 fun d _ => pb e1 fun kd _ => celA k e1 d fun a S d' => setQ d' kd y fun s' => E.nx (e1.set k (.gh (putS S a s'))) := rfl
theorem lstQ_l {R : List D → Prop} : lstQ (.lst xs) R = R xs := rfl
theorem e_cmeth_eq : e_cmeth k mq pe tx env Q = pe env fun d _ => celA k env d fun _ _ d0 => isLst d0 = true ∧ tx env fun ds e1 => celA k e1 d fun a S d' => lstQ d' fun xs => mq xs (ds.map fun d => (d, .st)) fun xs' rr => Q rr .st (e1.set k (.gh (putS S a (.lst xs')))) := rfl
def owS (s : Sl) (R : D → Prop) : Prop := match s with
  | .ow d => R d
  | _ => False
theorem owS_ow {R : D → Prop} : owS (.ow d) R = R d := rfl
theorem s_metho_eq : s_metho i mq tx env E = ((slotAt i env fun s => owS s fun d => isLst d = true) ∧ tx env fun ds e1 => slotAt i e1 fun s => owS s fun d => lstQ d fun xs => mq xs (ds.map fun d => (d, .st)) fun xs' _ => E.nx (e1.set i (.ow (.lst xs')))) := by
  unfold s_metho
  congr 1
  · rw [slotAt_get]
    cases h : env[i]? with
    | none => exact propext ⟨fun ⟨_, e⟩ => (by cases e), fun h => h.elim⟩
    | some s =>
      cases s with
      | ow d =>
        cases d with
        | lst ds => exact propext ⟨fun _ => rfl, fun _ => ⟨ds, rfl⟩⟩
        | _ => exact propext ⟨fun ⟨_, e⟩ => (by cases e), fun h => (by cases h)⟩
      | _ => exact propext ⟨fun ⟨_, e⟩ => (by cases e), fun h => h.elim⟩
  · congr 1
    funext ds e1
    rw [slotAt_get]
    cases e1[i]? with
    | none => rfl
    | some s =>
      cases s with
      | ow d => cases d <;> rfl
      | _ => rfl
theorem s_setixo_eq : s_setixo i tk te env E = te env fun y md e1 => isBr md = false ∧ slotAt i e1 fun s => owS s fun s => tk e1 fun kd _ => setQ s kd y fun s' => E.nx (e1.set i (.ow s')) := by
  unfold s_setixo
  congr 1
  funext y md e1
  congr 1
  rw [slotAt_get]
  cases e1[i]? with
  | none => rfl
  | some s => cases s <;> rfl
theorem s_fori_eq {iq : Iq} : s_fori iq tx tg g env E = tx env fun ds e1 => iq (ds.map fun d => (d, .st)) fun is b => b = true ∧ loopF tg g is e1 E := rfl
def fxQ (k : Nat) (tg : Gx) (g : Sx) (d : D) (md : Md) (e1 : En) (E : Os) : Prop := match d with
  | .ob a => ghQ k e1 fun S => match S a with
    | some (.lst ds) => loopFc k a ds tg g ds e1 E
    | _ => False
  | .lst ds => isBr md = false ∧ loopF tg g ds e1 E
  | .tup ds => isBr md = false ∧ loopF tg g ds e1 E
  | _ => False
theorem s_forx_eq : s_forx k te tg g env E = te env fun d md e1 => fxQ k tg g d md e1 E := rfl
theorem fxQ_l : fxQ k tg g (.lst ds) md e1 E = (isBr md = false ∧ loopF tg g ds e1 E) := rfl
theorem fxQ_t : fxQ k tg g (.tup ds) md e1 E = (isBr md = false ∧ loopF tg g ds e1 E) := rfl
theorem fxQ_ob : fxQ k tg g (.ob a) md e1 E = ghQ k e1 fun S => optS (S a) fun d => lstQ d fun ds => loopFc k a ds tg g ds e1 E := by
  have : (fun S : Sto => match S a with | some (.lst ds) => loopFc k a ds tg g ds e1 E | _ => False) = fun S => optS (S a) fun d => lstQ d fun ds => loopFc k a ds tg g ds e1 E := by
    funext S
    cases S a with
    | none => rfl
    | some d => cases d <;> rfl
  exact congrArg (ghQ k e1) this
theorem s_forE_eq : s_forE k pe tg g env E = pe env fun d _ => celA k env d fun a _ d' => lstQ d' fun ds => loopFc k a ds tg g (enumD 0 ds) env E := rfl
theorem e_fld_eq {Q : D → Md → Prop} : e_fld k cn flds j pe env Q = pe env fun d _ => celA k env d fun _ _ d' => fldD cn flds j d' fun x => Q x .st := rfl
theorem s_fld_eq : s_fld k cn flds j pe te env E = te env fun y md e1 => isBr md = false ∧ pe e1 fun d _ => celA k e1 d fun a S d' => setF cn flds j y d' fun d2 => E.nx (e1.set k (.gh (putS S a d2))) := rfl
theorem e_metho_eq : e_metho k cn flds n C dv te tx env Q = te env fun d _ e0 => celA k e0 d fun _ _ d' => isIns cn flds d' ∧ tx e0 fun ds e1 => (d :: (ds ++ dv)).length = n ∧ ghQ k e1 fun S => C (d :: (ds ++ dv)) S fun d2 md S' => Q d2 md (e1.set k (.gh S')) := rfl
theorem e_newo_eq : e_newo k cn n C dv tx env Q = tx env fun ds e1 => ds.length + dv.length + 1 = n ∧ ghQ k e1 fun S => ∀ a, S a = none → C (.ob a :: (ds ++ dv)) (putS S a (.ins cn [] [])) fun d _ S' => d = .sc .non ∧ Q (.ob a) .st (e1.set k (.gh S')) := rfl
end
end P
namespace P
open PySem PySem.Spec PyProof.Rows L2
def tpairsD (ks : List (List Key)) (ds : List D) : List D := List.zipWith (fun k d => .tup [tkeyD k, d]) ks ds
def itmQ (d : D) (R : List D → Prop) : Prop := match d with
  | .dic ks ds => R (pairsD ks ds)
  | .dit ks ds => R (tpairsD ks ds)
  | _ => False
def e_sortedItems (te : Ex) : Ex := fun env Q => te env fun d _ => itmQ d fun ps => sortOk ps ∧ ps.length ≤ sizeLine ∧ Q (.lst (ps.mergeSort leD)) .ow
section
variable {X : Cx} {c : Fc}
variable {te : Ex} {env : En} {Q : D → Md → Prop} {ks : List Key} {kts : List (List Key)} {ds : List D} {W : List D → Prop}
theorem e_sortedItems_eq : e_sortedItems te env Q = te env fun d _ => itmQ d fun ps => sortOk ps ∧ ps.length ≤ sizeLine ∧ Q (.lst (ps.mergeSort leD)) .ow := rfl
theorem itmQ_d : itmQ (.dic ks ds) W = W (pairsD ks ds) := rfl
theorem itmQ_t : itmQ (.dit kts ds) W = W (tpairsD kts ds) := rfl
end
end P
namespace P
open PySem PySem.Spec PyProof.Rows L2
section
variable {X : Cx} {c : Fc}
def lrg1Q (d : D) (Q : D → Md → Prop) : Prop := match d with
  | .sc (.int b) => RgOk 0 b ∧ Q (.lst (rangeD 0 1 (b - 0).toNat)) .ow
  | _ => False
def e_lrg1 (te : Ex) : Ex := fun env Q => te env fun d _ => lrg1Q d Q
end
variable {te : Ex} {env : En} {Q : D → Md → Prop} {a b : Int}
theorem e_lrg1_eq : e_lrg1 te env Q = te env fun d _ => lrg1Q d Q := rfl
theorem lrg1Q_i : lrg1Q (.sc (.int b)) Q = (RgOk 0 b ∧ Q (.lst (rangeD 0 1 (b - 0).toNat)) .ow) := rfl
end P
namespace P
open PySem PySem.Spec PyProof.Rows L2
end P
namespace P
open PySem PySem.Spec PyProof.Rows L2
section
variable {ti : Ix} {tx : Gx} {tt : Txo} {te : Exo} {vs : List Nat} {env e0 : En} {v : Nat} {d : D} {S : Sto} {Q : D → Md → En → Prop}
theorem e_lco_eq : e_lco ti tx tt te vs env Q = ti env fun ds b => b = true ∧ compFo tx tt te vs ds [] (wipeE env vs) fun acc e1 => Q (.lst acc) .ow (restE env e1 vs) := rfl
end
def Pool (S : Sto) (p : Addr) : Prop := ∃ a b : Int, S p = some (.lst [.sc (.int a), .sc (.int b)])
/-- only pools change, and stay pools -/
structure Pv (S S' : Sto) : Prop where
  pool : ∀ q, Pool S q → Pool S' q
  else_ : ∀ q, ¬ Pool S q → S' q = S q
theorem Pv.refl {S : Sto} : Pv S S := ⟨fun _ h => h, fun _ _ => rfl⟩
theorem Pv.trans {S S1 S2 : Sto} (a : Pv S S1) (b : Pv S1 S2) : Pv S S2 := ⟨fun q h => b.pool q (a.pool q h), fun q h => by
  have e := a.else_ q h
  rw [← e]
  refine b.else_ q fun ⟨x, y, z⟩ => h ⟨x, y, ?_⟩
  rw [← e]; exact z⟩
def obsD (ps : List Addr) : D := .lst (ps.map D.ob)
end P
namespace P.A
open P
open PySem PySem.Spec PyProof.Rows L2
local macro_rules
  | `(tactic| wide_open) => `(tactic| try simp only [s_seq, s_nil, s_if, s_ret, s_retN, s_set, s_for, s_while, i_seq, i_ps, e_c, e_k, e_op, e_cb, e_call, e_and, e_or, e_not, e_chain, e_neg, e_tup, e_lst, e_sl, e_rev, e_dnew, e_dnewT, e_get2, o_none, o_some, t_of, t_op, t_and, t_or, t_not, t_chain, t_yes, a_nil, a_cons, brs, tyOks, isTy, subQ, fdivQ, modQ, powQ, eqQ, neQ, sizeL, enumAQ_l, enumAQ_t, str_one, str_app, startE, wipeE, e_lc, e_step, e_sm1, e_sm0, osOf, En.frz, P.frz, g_name, s_expr, s_asg, s_pass, s_break, s_cont, List.getElem?_cons_zero, List.getElem?_cons_succ, List.getElem?_nil, List.set_cons_zero, List.set_cons_succ, List.map_cons, List.map_nil, List.replicate_zero, List.replicate_succ, List.cons_append, List.nil_append, List.append_nil, List.length_cons, List.length_nil, List.any_cons, List.any_nil, Bool.not_true, Bool.not_false, Bool.false_or, Bool.or_false, Bool.true_or, Bool.or_true, Bool.and_true, Bool.true_and, Bool.false_and, Bool.and_false, if_true, if_false, ite_true, ite_false, Bool.false_eq_true, reduceIte, Nat.reduceAdd, Nat.reduceSub, Nat.zero_add, Nat.add_zero, true_and, and_true, Option.some.injEq, D.sc.injEq, V.bl.injEq, V.int.injEq, V.str.injEq, exists_eq_left', exists_eq_left, Bool.or_self, forall_const, imp_self, decide_eq_true_eq, Bool.not_eq_true', decide_eq_false_iff_not, Bool.not_eq_false, Decidable.not_not, implies_true, not_true_eq_false, not_false_eq_true, reduceCtorEq, false_imp, ne_eq, String.reduceBEq, Int.reducePow, Int.reduceToNat, Int.reduceLT, Int.reduceLE, Nat.reduceLeDiff, Nat.reduceLT, Nat.reduceMul, Int.reduceMul, Int.reduceAdd, Int.reduceSub, Int.reduceNeg, Nat.reducePow, or_true, true_or, List.length_map, List.isEmpty_cons, List.isEmpty_nil, addQ_i, addQ_s, addQ_l, addQ_t, iQ_i, mulQ_i, cmpQ_i, cmpQ_s, isQ_n, isQ_b, isNon_b, isNon_i, isNon_s, isNon_l, isNon_t, isNon_n, isNon_d, inQ_l, inQ_t, inQ_k, inQ_s, inQ_d, inQ_dt, ixQ_l, ixQ_t, ixQ_k, ixQ_s, ixQ_d, ixQ_dt, getQ_d, getQ_dt, key_i, key_s, slQ_l, slQ_t, slQ_s, optQ_i, revQ_l, negQ_i, truth_b, truth_i, truth_n, truth_s, truth_l, truth_t, blQ_b, bindS_st, bindS_ow, isBr_st, isBr_ow, isBr_br, itemsQ_l, itemsQ_t, itemsQ_s, g_tup_t, g_cons_c, g_nil_n, lenQ_l, lenQ_t, lenQ_s, lenQ_d, isiQ_t, ty_i, ty_s, ty_b, ty_n, ty_l, ty_t, ty_d, intQ_i, intQ_b, absQ_i, mmQ_i, listQ_l, listQ_t, listQ_k, tupleQ_l, tupleQ_t, sumQ_l, allQ_l, r1Q_i, r2Q_i, bne_false_S, bne_true_S, eqD_i, eqD_s, eqD_b, eqD_nn, eqD_ni, eqD_in, eqD_is, eqD_si, eqD_ln, eqD_nl, eqD_ll, eqD_l0, eqD_lc, eqD_cl, eqD_tt, eqD_t0, eqD_tc, eqD_ct, plain_i, plain_s, plain_b, plain_n, plain_l, plain_t, plainL_c, plainL_n, dep_sc, dep_l, dep_t, depL_c, depL_n, flatR_sc, slotAt_0, slotAt_s, e_var_eq, varQ_sh, varQ_ow, s_retv_eq, retQ_sh, retQ_ow, s_frz_eq, frzQ_sh, frzQ_ow, s_meth_eq, methQ_l, s_methset_eq, methsQ_l, s_setix_eq, setixQ_ow, e_lkd_eq, lkdQ_d, lkdQ_t, lkdQ_od, lkdQ_ot, s_lkd_eq, lkS_d, lkS_t, i_items_eq, itmS_d, i_keys_eq, keyS_d, keyS_t, i_vals_eq, valS_d, stepQ_l, isLst_l, strD_s, joinQ_l, strQ_i, strQ_s, dictQ_l, sortedLQ_l, setQ_l, setQ_d, setQ_t, appendQ_1, List.length_set, s_try, s_raise, e_callX, isxQ_c, isxQ_v, try_c, exFlat_0, isNon_exc, atI_w0, atI_w1, atI_w2, atI_w3, atI_w4, atI_nat, mulAQ_i, mulAQ_s, repQ_l, e_rep, mm1Q_1, itemsQ'_l, itemsQ'_t, zipAQ_2, Int.zero_add, Int.cast_ofNat_Int, List.getElem?_map, Int.toNat_natCast, Option.isSome_map, e_maxd, seqQ_l', s_wip, Bool.decide_eq_true, decide_true, decide_false, Option.isSome_some, Option.isSome_none, Option.getD_some, Option.getD_none, Option.map_some, Option.map_none, and_self, or_self, dec_int, dec_txt, dec_tru, dec_sd, dec_sdF, dec_sdT, dec_pk, dec_ints, dec_strs, dec_ru, dec_ru', dec_book, dec_case, dec_any, args1_eq, args2_eq, args3_eq, args4_eq, bookD, strsD, scriptD, caseOf, intD, txtD, truD, sdD, anyD, sd_inj, sd_ag, sd_fo, sd_ag', sd_fo', atI_if, pick_packD, C_other_side_eq, C_side_of_eq, C_degree_eq, C_over_eq, C_within_eq, C_excess_eq, C_facing_eq, C_against_eq, C_binds_eq, C_torn_eq', C_binding_eq', C_barred_eq', C_barred_eq2, C_fullest_eq', C_ruling_eq, cutD_map, cutN_init, flat_pack, flat_ru, flat_rus, flat_ints, flat_strs, flatR_t, immL_c, immL_n, imm_s, imm_t, imm_pack, imm_ru, dec_book0, dec_ints0, dec_strs0, dec_pk0])
  | `(tactic| wide_open with [$xs,*]) => `(tactic| try simp only [s_seq, s_nil, s_if, s_ret, s_retN, s_set, s_for, s_while, i_seq, i_ps, e_c, e_k, e_op, e_cb, e_call, e_and, e_or, e_not, e_chain, e_neg, e_tup, e_lst, e_sl, e_rev, e_dnew, e_dnewT, e_get2, o_none, o_some, t_of, t_op, t_and, t_or, t_not, t_chain, t_yes, a_nil, a_cons, brs, tyOks, isTy, subQ, fdivQ, modQ, powQ, eqQ, neQ, sizeL, enumAQ_l, enumAQ_t, str_one, str_app, startE, wipeE, e_lc, e_step, e_sm1, e_sm0, osOf, En.frz, P.frz, g_name, s_expr, s_asg, s_pass, s_break, s_cont, List.getElem?_cons_zero, List.getElem?_cons_succ, List.getElem?_nil, List.set_cons_zero, List.set_cons_succ, List.map_cons, List.map_nil, List.replicate_zero, List.replicate_succ, List.cons_append, List.nil_append, List.append_nil, List.length_cons, List.length_nil, List.any_cons, List.any_nil, Bool.not_true, Bool.not_false, Bool.false_or, Bool.or_false, Bool.true_or, Bool.or_true, Bool.and_true, Bool.true_and, Bool.false_and, Bool.and_false, if_true, if_false, ite_true, ite_false, Bool.false_eq_true, reduceIte, Nat.reduceAdd, Nat.reduceSub, Nat.zero_add, Nat.add_zero, true_and, and_true, Option.some.injEq, D.sc.injEq, V.bl.injEq, V.int.injEq, V.str.injEq, exists_eq_left', exists_eq_left, Bool.or_self, forall_const, imp_self, decide_eq_true_eq, Bool.not_eq_true', decide_eq_false_iff_not, Bool.not_eq_false, Decidable.not_not, implies_true, not_true_eq_false, not_false_eq_true, reduceCtorEq, false_imp, ne_eq, String.reduceBEq, Int.reducePow, Int.reduceToNat, Int.reduceLT, Int.reduceLE, Nat.reduceLeDiff, Nat.reduceLT, Nat.reduceMul, Int.reduceMul, Int.reduceAdd, Int.reduceSub, Int.reduceNeg, Nat.reducePow, or_true, true_or, List.length_map, List.isEmpty_cons, List.isEmpty_nil, addQ_i, addQ_s, addQ_l, addQ_t, iQ_i, mulQ_i, cmpQ_i, cmpQ_s, isQ_n, isQ_b, isNon_b, isNon_i, isNon_s, isNon_l, isNon_t, isNon_n, isNon_d, inQ_l, inQ_t, inQ_k, inQ_s, inQ_d, inQ_dt, ixQ_l, ixQ_t, ixQ_k, ixQ_s, ixQ_d, ixQ_dt, getQ_d, getQ_dt, key_i, key_s, slQ_l, slQ_t, slQ_s, optQ_i, revQ_l, negQ_i, truth_b, truth_i, truth_n, truth_s, truth_l, truth_t, blQ_b, bindS_st, bindS_ow, isBr_st, isBr_ow, isBr_br, itemsQ_l, itemsQ_t, itemsQ_s, g_tup_t, g_cons_c, g_nil_n, lenQ_l, lenQ_t, lenQ_s, lenQ_d, isiQ_t, ty_i, ty_s, ty_b, ty_n, ty_l, ty_t, ty_d, intQ_i, intQ_b, absQ_i, mmQ_i, listQ_l, listQ_t, listQ_k, tupleQ_l, tupleQ_t, sumQ_l, allQ_l, r1Q_i, r2Q_i, bne_false_S, bne_true_S, eqD_i, eqD_s, eqD_b, eqD_nn, eqD_ni, eqD_in, eqD_is, eqD_si, eqD_ln, eqD_nl, eqD_ll, eqD_l0, eqD_lc, eqD_cl, eqD_tt, eqD_t0, eqD_tc, eqD_ct, plain_i, plain_s, plain_b, plain_n, plain_l, plain_t, plainL_c, plainL_n, dep_sc, dep_l, dep_t, depL_c, depL_n, flatR_sc, slotAt_0, slotAt_s, e_var_eq, varQ_sh, varQ_ow, s_retv_eq, retQ_sh, retQ_ow, s_frz_eq, frzQ_sh, frzQ_ow, s_meth_eq, methQ_l, s_methset_eq, methsQ_l, s_setix_eq, setixQ_ow, e_lkd_eq, lkdQ_d, lkdQ_t, lkdQ_od, lkdQ_ot, s_lkd_eq, lkS_d, lkS_t, i_items_eq, itmS_d, i_keys_eq, keyS_d, keyS_t, i_vals_eq, valS_d, stepQ_l, isLst_l, strD_s, joinQ_l, strQ_i, strQ_s, dictQ_l, sortedLQ_l, setQ_l, setQ_d, setQ_t, appendQ_1, List.length_set, s_try, s_raise, e_callX, isxQ_c, isxQ_v, try_c, exFlat_0, isNon_exc, atI_w0, atI_w1, atI_w2, atI_w3, atI_w4, atI_nat, mulAQ_i, mulAQ_s, repQ_l, e_rep, mm1Q_1, itemsQ'_l, itemsQ'_t, zipAQ_2, Int.zero_add, Int.cast_ofNat_Int, List.getElem?_map, Int.toNat_natCast, Option.isSome_map, e_maxd, seqQ_l', s_wip, Bool.decide_eq_true, decide_true, decide_false, Option.isSome_some, Option.isSome_none, Option.getD_some, Option.getD_none, Option.map_some, Option.map_none, and_self, or_self, dec_int, dec_txt, dec_tru, dec_sd, dec_sdF, dec_sdT, dec_pk, dec_ints, dec_strs, dec_ru, dec_ru', dec_book, dec_case, dec_any, args1_eq, args2_eq, args3_eq, args4_eq, bookD, strsD, scriptD, caseOf, intD, txtD, truD, sdD, anyD, sd_inj, sd_ag, sd_fo, sd_ag', sd_fo', atI_if, pick_packD, C_other_side_eq, C_side_of_eq, C_degree_eq, C_over_eq, C_within_eq, C_excess_eq, C_facing_eq, C_against_eq, C_binds_eq, C_torn_eq', C_binding_eq', C_barred_eq', C_barred_eq2, C_fullest_eq', C_ruling_eq, cutD_map, cutN_init, flat_pack, flat_ru, flat_rus, flat_ints, flat_strs, flatR_t, immL_c, immL_n, imm_s, imm_t, imm_pack, imm_ru, dec_book0, dec_ints0, dec_strs0, dec_pk0, $[$xs:term],*])
local macro_rules
  | `(tactic| w_fin) => `(tactic| repeat (with_reducible apply And.intro; · first | assumption | omega | decide | (left; omega) | (right; omega) | (left; decide) | (right; decide)))
section
variable {xs : List Str} {ns : List Int} {os a b r : List Pr} {c : Int} {s : Bool} {Q : D → Md → Prop}
def Nm (xs : List Str) : Prop := xs.length = 8 ∧ ∀ x ∈ xs, nameB x = true
theorem strs_e {xs ys : List Str} (h : (D.lst (xs.map fun x => .sc (.str x))) = strsD ys) : xs = ys := strsD_iff.mp h
theorem ints_e {xs ys : List Int} (h : (D.lst (xs.map fun x => .sc (.int x))) = scriptD ys) : xs = ys := scriptD_iff.mp h
theorem C__law_names_eq : C__law_names [.sc (.int c)] Q = ∀ xs : List Str, Nm xs → Q (.lst (xs.map fun x => .sc (.str x))) .ow := by
  apply propext
  exact ⟨fun h xs hx => h xs hx.1 hx.2, fun h xs h1 h2 => h xs ⟨h1, h2⟩⟩
theorem C__law_degree_eq : C__law_degree [.sc (.int c)] Q = (0 ≤ c ∧ ∀ m : Int, 0 ≤ m → m ≤ 1000000000000000000000000000000 → Q (.sc (.int m)) .st) := rfl
theorem C__law_pack_eq : C__law_pack [.lst (xs.map fun x => .sc (.str x)), .lst (ns.map fun i => .sc (.int i))] Q = ((Nm xs ∧ ns.length ≤ 100) ∧ ∀ ps : List Pr, GP xs ps → ps.length ≤ 100 → Q (packD ps) .st) := by
  apply propext
  refine ⟨fun ⟨xs', ns', e, h1, h2, h3, k⟩ => ?_, fun ⟨⟨h1, h2⟩, k⟩ => ⟨xs, ns, rfl, h1.1, h1.2, h2, fun ps a b c d => k ps ⟨a, c, by omega, d⟩ b⟩⟩
  injection e with e1 e
  injection e with e2 e
  obtain rfl := strs_e e1
  obtain rfl := ints_e e2
  exact ⟨⟨⟨h1, h2⟩, h3⟩, fun ps g l => k ps g.ip l g.good g.sub⟩
theorem C__law_near_eq : C__law_near [packD os, .lst (xs.map fun x => .sc (.str x)), .lst (ns.map fun i => .sc (.int i))] Q = ((Nm xs ∧ ns.length ≤ 100 ∧ GP xs os ∧ os.length ≤ 200) ∧ ∀ ps : List Pr, GP xs ps → Q (packD ps) .st) := by
  apply propext
  refine ⟨fun ⟨os', xs', ns', e, g1, g2, g3, g4, h1, h2, h3, k⟩ => ?_, fun ⟨⟨h1, h2, h3, h4⟩, k⟩ => ⟨os, xs, ns, rfl, h3.ip, h3.good, h4, h3.sub, h1.1, h1.2, h2, fun ps a b c d => k ps ⟨a, c, b, d⟩⟩⟩
  injection e with e0 e
  injection e with e1 e
  injection e with e2 e
  obtain rfl := strs_e e1
  obtain rfl := ints_e e2
  obtain rfl := packD_inj e0
  exact ⟨⟨⟨h1, h2⟩, h3, ⟨g1, g2, by omega, g4⟩, g3⟩, fun ps g => k ps g.ip g.len g.good g.sub⟩
theorem C__law_reason_eq : C__law_reason [packD os, .lst (ns.map fun i => .sc (.int i))] Q = ((IsP os ∧ goodP os ∧ os.length ≤ 300 ∧ ns ≠ [] ∧ ns.length ≤ 100) ∧ ∀ rs : List Pr, IsP rs → goodP rs → rs.length ≤ 300 → leA rs os → Q (packD rs) .st) := by
  apply propext
  refine ⟨fun ⟨os', ns', e, h1, h2, h3, h4, h5, k⟩ => ?_, fun ⟨⟨h1, h2, h3, h4, h5⟩, k⟩ => ⟨os, ns, rfl, h1, h2, h3, h4, h5, k⟩⟩
  injection e with e0 e
  injection e with e2 e
  obtain rfl := ints_e e2
  obtain rfl := packD_inj e0
  exact ⟨⟨h1, h2, h3, h4, h5⟩, k⟩
theorem C__law_case_eq : C__law_case [.lst (xs.map fun x => .sc (.str x)), .lst (ns.map fun i => .sc (.int i))] Q = ((Nm xs ∧ ns.length ≤ 100) ∧ ∀ a b : List Pr, GP xs a → GP xs b → a.length ≤ 100 → b.length ≤ 100 → Q (.tup [packD a, packD b]) .st) := by
  apply propext
  refine ⟨fun ⟨xs', ns', e, h1, h2, h3, k⟩ => ?_, fun ⟨⟨h1, h2⟩, k⟩ => ⟨xs, ns, rfl, h1.1, h1.2, h2, k⟩⟩
  injection e with e1 e
  injection e with e2 e
  obtain rfl := strs_e e1
  obtain rfl := ints_e e2
  exact ⟨⟨⟨h1, h2⟩, h3⟩, k⟩
theorem C__law_ruling_eq : C__law_ruling [.lst (xs.map fun x => .sc (.str x)), .lst (ns.map fun i => .sc (.int i))] Q = ((Nm xs ∧ ns ≠ [] ∧ ns.length ≤ 100) ∧ ∀ (a b : List Pr) (s : Bool) (r : List Pr), GP xs a → GP xs b → a.length ≤ 100 → b.length ≤ 100 → IsP r → goodP r → r.length ≤ 300 → leA r (pick s a b) → Q (ruD ⟨a, b, s, r⟩) .st) := by
  apply propext
  refine ⟨fun ⟨xs', ns', e, h1, h2, h3, h4, k⟩ => ?_, fun ⟨⟨h1, h2, h3⟩, k⟩ => ⟨xs, ns, rfl, h1.1, h1.2, h2, h3, k⟩⟩
  injection e with e1 e
  injection e with e2 e
  obtain rfl := strs_e e1
  obtain rfl := ints_e e2
  exact ⟨⟨⟨h1, h2⟩, h3, h4⟩, k⟩
end
theorem eqD_pk {p q : List Pr} : eqD (packD p) (packD q) = decide (p = q) := eqD_packs p q
theorem plain_pk {p : List Pr} : (packD p).plain = true := by unfold packD; rw [plain_t]; exact plain_prs p
theorem inQ_SI {n : Bool} {ps : List Pr} {x : Str} {Q : D → Md → Prop} : inQ n (.sc (.str x)) (dicSI ps) Q = Q (.sc (.bl (n != (gVal ps x).isSome))) .st := by
  show getQ (dicSI ps) (.sc (.str x)) (fun o => Q (.sc (.bl (n != o.isSome))) .st) = _
  rw [getQ_SI, Option.isSome_map]
theorem pick_f {α : Type} {a b : α} : pick false a b = a := rfl
theorem pick_t {α : Type} {a b : α} : pick true a b = b := rfl
end P.A
namespace P
open PySem PySem.Spec PyProof.Rows L2
end P
namespace P
open PySem PySem.Spec PyProof.Rows L2
end P
namespace P
open PySem PySem.Spec PyProof.Rows L2
end P
namespace P
open PySem PySem.Spec PyProof.Rows L2
end P
namespace P
open PySem PySem.Spec PyProof.Rows L2
end P
namespace P
open PySem PySem.Spec PyProof.Rows L2
end P
namespace P
open PySem PySem.Spec PyProof.Rows L2
end P
namespace PySem.W
open PySem PySem.Spec PySem.Calls PyProof.Rows
section
variable {prog : Program} {w : World} {A : Around} {E : Value → Shared → Prop} {s : Shared} {K : Frag} {x D : Addr} {ox od : Obj}
theorem kin_classD {Q : Option Value → Shared → Prop} (hga : findIn K (.ref D) "__getattribute__" = some (some (.builtin "BaseException.__getattribute__"))) (hgt : findIn K (.ref D) "__getattr__" = some none) (hsub : subIn K (.ref D) (.type "BaseException") = some true)
    (hdct : hasDictIn K D = true) (ha : findIn K (.ref D) "__class__" = some (some (.builtin "object.__class__")))
    (hn : specialIn K (.builtin "object.__class__") "__get__" = some (some (.builtin "getset_descriptor.__get__"))) (htk : takesIn K (.builtin "object.__class__") = some true) (hm : mroIn K D (.type "object") = some true)
    (X : K.In s.heap) (I : InstAt s.heap x ox D (some od)) (h : Q (some (.ref D)) { s with toks := s.toks + 1 }) : wpAny (model prog w) A (getAttr? (.ref x) "__class__") Q E s := by
  have hf : findObj K D (some od) "__class__" = some (.bind (.builtin "getset_descriptor.__get__") (.builtin "object.__class__")) := findObj_data (by obtain ⟨cd, hc, _⟩ := any_some hdct; rw [hc]; rfl) ha hn htk
  obtain ⟨hp, g, d, t, os⟩ := s
  have L0 := I.type (M := model prog w)
  have L1 := looks_findIn (M := model prog w) X hga
  have L2 := looks_findIn (M := model prog w) X hgt
  have L3 := looks_find (M := model prog w) X I hf
  have sub : Looks (model prog w) hp (isInstance (.ref x) (.type "BaseException")) true := L0.andThen (looks_subIn X hsub)
  have hx0 : (false && onTheHeap (Value.builtin "BaseException.__getattribute__")) = false := rfl
  have hx2 : (Value.builtin "BaseException.__getattribute__" == Value.builtin "object.__getattribute__") = false := by decide +kernel
  have hx1 : (onTheHeap (Value.ref D) && Value.builtin "BaseException.__getattribute__" == Value.builtin "object.__getattribute__") = false := by rw [hx2]; rfl
  unfold getAttr? getAttrBy? getAttrBy
  refine wpAny_bind (wpAny_mkText (wpAny_bind (wpAny_attempt (wpAny_holding (wpAny_bind (L0.at (wpAny_bind (L1.at ?_))))))))
  show wpAny _ _ (if (onTheHeap (Value.ref D) && Value.builtin "BaseException.__getattribute__" == Value.builtin "object.__getattribute__") = true then _ else _) _ _ _
  rw [hx1, if_neg Bool.false_ne_true]
  unfold getAttrByItsOwn hookBefore
  refine wpAny_bind ?_
  rw [if_pos (show onTheHeap (Value.ref D) = true from rfl)]
  refine L2.at ?_
  refine wpAny_bind (wpAny_attempt (wpAny_holding ?_))
  unfold callGetattribute
  rw [hx0, if_neg Bool.false_ne_true]
  unfold boundAndCalled
  rw [PySem.F.excAttr_ValueError.ga.bind (.ref x)]
  refine wpAny_bind (wpAny_pure ?_)
  show wpAny _ _ (call (.builtin "BaseException.__getattribute__") [.ref x, .str "__class__" t]) _ _ _
  refine wpAny_call (codeAny_call_builtin PySem.F.excAttr_ValueError.ga.plain PySem.F.entry_bexc_ga ?_)
  refine @check_slot (model prog w) _ _ ⟨hp, g, d, t + 1, os⟩ "BaseException.__getattribute__" "BaseException" "__getattribute__" (.ref x) [.str "__class__" t] [] _ (by decide +kernel) (by decide +kernel) sub (PySem.F.args_bexc_ga (.ref x) (.str "__class__" t)) ?_
  unfold Builtin.«object.__getattribute__»
  refine wpAny_bind (wpAny_of_eq (a := ((Value.ref x : Value), [Value.str "__class__" t])) (by first | rfl | (simp only [slotArgs]; rfl)) ?_)
  refine wpAny_bind (wpAny_pure (wpAny_bind (L0.at (wpAny_bind (L3.at ?_)))))
  show wpAny _ _ (holding [Value.builtin "object.__class__"] (call (.builtin "getset_descriptor.__get__") [.builtin "object.__class__", .ref x, .ref D]) >>= ret) _ _ _
  refine wpAny_bind (wpAny_holding (wpAny_call (class_get (s := ⟨hp, g, d, t + 1, os⟩) (ox := ox) (od := some od) X I hm ?_)))
  refine wpAny_pure ?_
  show wpAny _ _ (handedOut (.ref D)) _ _ _
  rw [handedOut_of (v := .ref D) rfl]
  first
    | exact wpAny_pure (wpAny_pure h)
    | exact wpAny_pure h
    | exact wpAny_pure (wpAny_bind (wpAny_pure (wpAny_pure h)))
theorem kitx_excD (hga : findIn K (.ref D) "__getattribute__" = some (some (.builtin "BaseException.__getattribute__"))) (hgt : findIn K (.ref D) "__getattr__" = some none) (hsub : subIn K (.ref D) (.type "BaseException") = some true) (hdct : hasDictIn K D = true) (ha : findIn K (.ref D) "__class__" = some (some (.builtin "object.__class__")))
    (hn : specialIn K (.builtin "object.__class__") "__get__" = some (some (.builtin "getset_descriptor.__get__"))) (htk : takesIn K (.builtin "object.__class__") = some true) (hm : mroIn K D (.type "object") = some true) :
    KitX K (.ref x) (.ref D) (fun h => InstAt h x ox D (some od)) where
  ty := fun _ _ _ I => I.type
  it := fun _ _ X _ => by
    obtain ⟨cdD, hcD, _⟩ := any_some hdct
    unfold clsIn at hcD
    split at hcD
    · rename_i c' d' cd' sl' ho
      intro A' Q' E' s' k q
      unfold isType loadHead
      exact wpAny_bind (wpAny_loadPart (k _ _ (X _ _ ho)) (wpAny_pure q))
    · cases hcD
  ne := fun h tp dd its n sl X htp => by
    obtain ⟨cdD, hcD, _⟩ := any_some hdct
    refine Bool.eq_false_iff.mpr fun q => ?_
    have e : D = tp := Value.ref.inj (beq_iff_eq.mp q)
    subst e
    unfold clsIn at hcD
    split at hcD
    · rename_i c' d' cd' sl' ho
      have z := (X _ _ ho).symm.trans htp
      cases z
    · cases hcD
  ca := fun X I k => kin_classD hga hgt hsub hdct ha hn htk hm X I k
end
end PySem.W
namespace P
open PySem PySem.Spec PyProof.Rows L2
def isyQ (L : List Str) : Cq := fun ps Q => match ps with
  | [(.exc cn _ _, _), (.cls m, _)] => cn ∈ L ∧ m ∈ L ∧ Q (.sc (.bl (excSub cn m))) .st
  | [(.exc cn _ _, _), (.sc (.ty t), _)] => cn ∈ L ∧ t = "ValueError" ∧ Q (.sc (.bl true)) .st
  | _ => False
def rIsY (K : PySem.W.Frag) : List V → Hp → VK → Prop := fun xs H Q => ∃ (a D : Addr) (d : Option Addr) (c : V) (cv : Value) (b : Bool), xs = [.ref a, c] ∧ H a = some (ExH (.ref D) d a) ∧ (∀ dd, d = some dd → ∃ fs, H dd = some (.xd fs)) ∧ ExcC K D ∧ (∀ u, RelV c u → u = cv) ∧ PySem.W.kitOne K (.ref D) cv = some b ∧ Q (.bl b) H
section
variable {X : Cx} {c : Fc} {L : List Str}
theorem call_isY : CallR X (.builtin "isinstance") (rIsY X.K) := by
  intro pins s σ H xs us Q I r h
  obtain ⟨a, D, d, c, cv, b, rfl, ha, hdd, C, hcv, e, q⟩ := h
  cases d with
  | none => exact call_isX pins s σ H _ us Q I r ⟨a, D, c, cv, b, rfl, ha, C, hcv, e, q⟩
  | some dd =>
    cases r with
    | cons rx rr =>
      cases rr with
      | cons rt rr =>
        cases rr
        cases rx
        have ec := hcv _ rt
        subst ec
        obtain ⟨fs, ed⟩ := hdd dd rfl
        obtain ⟨⟨oe, vs, hget, hz, hv⟩, _⟩ := I.hok a _ ha
        have hx : ObjOk X.prog X.w H s.heap dd (.xd fs) := I.hok dd _ ed
        obtain ⟨mA, hns, hr⟩ := hx
        obtain ⟨od, ho, hl⟩ := lookIn_ns hns
        have J : PySem.W.InstAt s.heap a oe D (some od) := ⟨hget, hz.1, by unfold PySem.W.notCls; rw [hv] <;> rfl, by rw [hz.2]; exact ho⟩
        exact PySem.W.kia_one (PySem.W.kitx_excD C.hg C.hk C.hs C.hd C.ha C.hn C.ht C.hm) I.kIn J e (fun z => nomatch z) fun tk => ⟨.bl b, H, I.kept (t' := tk) fun _ _ z => z, rfl, q⟩
theorem Rb.excA {R O : List Addr} {H : Hp} {x : V} {cn : Str} {ns : List Str} {ds : List D} (h : Rb c R O H x (.exc cn ns ds)) : ∃ a d, x = .ref a ∧ H a = some (ExH (exAt c.K cn) d a) ∧ ∀ dd, d = some dd → ∃ fs, H dd = some (.xd fs) := by
  cases h with
  | st h =>
    cases h with
    | exc0 h => exact ⟨_, none, rfl, (cut_some h).2, fun _ z => nomatch z⟩
    | exc h1 h2 h3 h4 h5 => exact ⟨_, _, rfl, (cut_some h1).2, fun dd e => by cases e; exact ⟨_, (cut_some h2).2⟩⟩
  | ow o n => cases o
theorem CalL.isy (hK : X.K = c.K) (hL : exOK X.K L = true) : CalL c (rIsY X.K) (isyQ L) := by
  intro R O H xs ps Q' Q w b t k
  rw [hK] at hL ⊢
  unfold isyQ at t
  split at t
  · obtain ⟨x, y, rfl, b1, b2⟩ := b.two
    obtain ⟨a, d, rfl, ha, hd⟩ := b1.excA
    obtain rfl := b2.cls
    exact ⟨a, _, d, _, exAt c.K _, _, rfl, ha, hd, (exOK_in hL t.1).1, fun u ru => by cases ru; rfl, (exOK_at hL t.1 t.2.1).2, k _ _ t.2.2 _ H R w.refl (.sc rfl)⟩
  · obtain ⟨x, y, rfl, b1, b2⟩ := b.two
    obtain ⟨a, d, rfl, ha, hd⟩ := b1.excA
    cases b2.sc
    obtain ⟨t1, rfl, t2⟩ := t
    exact ⟨a, _, d, _, .type "ValueError", true, rfl, ha, hd, (exOK_in hL t1).1, fun u ru => by cases ru; rfl, (exOK_in hL t1).2.2.2.1, k _ _ t2 _ H R w.refl (.sc rfl)⟩
  · exact t.elim
end
section
variable {L : List Str} {cn m : Str} {ns : List Str} {ds : List D} {md md' : Md} {Q : D → Md → Prop}
theorem isyQ_c : isyQ L [(.exc cn ns ds, md), (.cls m, md')] Q = (cn ∈ L ∧ m ∈ L ∧ Q (.sc (.bl (excSub cn m))) .st) := rfl
theorem isyQ_v : isyQ L [(.exc cn ns ds, md), (.sc (.ty "ValueError"), md')] Q = (cn ∈ L ∧ Q (.sc (.bl true)) .st) := by
  show (cn ∈ L ∧ "ValueError" = "ValueError" ∧ _) = _
  simp only [true_and]
end
end P
namespace P
open PySem PySem.Spec PyProof.Rows L2
end P
namespace P
open PySem PySem.Spec PyProof.Rows L2
end P
namespace P
open PySem PySem.Spec PyProof.Rows L2
end P
namespace P
open PySem PySem.Spec PyProof.Rows L2
end P
namespace P
open PySem PySem.Spec PyProof.Rows L2
end P
namespace P
open PySem PySem.Spec PyProof.Rows L2
section
variable {X : Cx} {c : Fc}
theorem Rb.dic2 {R O : List Addr} {H : Hp} {x : V} {ks : List Key} {ds : List D} (h : Rb c R O H x (.dic ks ds)) : ∃ a kvs, x = .ref a ∧ Rd H a (.dK kvs) ∧ kvs.map (·.1) = ks ∧ ks.all okK = true := by
  cases h with
  | st h => cases h with | dic a e b => exact ⟨_, _, rfl, Same.rd (fun b o e => (cut_some e).2) a, e.1, e.2⟩
  | ow o _ => cases o with | dic e f b => exact ⟨_, _, rfl, .inl e, f.1, f.2⟩
end
end P
namespace P
open PySem PySem.Spec PyProof.Rows L2
section
variable {X : Cx} {c : Fc}
def rUpper : V → List V → Hp → VK → Prop := fun x xs H Q => ∃ a, x = .str a ∧ xs = [] ∧ a.length ≤ 5592405 ∧ Q (.str (Txt.upper a)) H
theorem mt_upperA : MtR X "str.upper" rUpper := mt_upper
def upS (a : Str) : Str := ⟨a.cps.map up1⟩
def upperQ (a : Str) (Q : D → Md → Prop) : Prop := (∀ n ∈ a.cps.toList, n < 128) ∧ a.length ≤ 5592405 ∧ Q (.sc (.str (upS a))) .st
theorem SmL0.upper : SmL0 c rUpper upperQ := by
  intro R O H a Q' Q w ok t k
  obtain ⟨h1, h2, t⟩ := t
  refine ⟨a, rfl, rfl, h2, ?_⟩
  rw [upper_ascii h1]
  refine k _ _ t _ H R w.refl (.sc ?_)
  show PyData.strOk ⟨a.cps.map up1⟩ = true
  unfold PyData.strOk
  rw [← Array.all_toList, List.all_eq_true]
  intro n m
  rw [Array.toList_map] at m
  obtain ⟨x, mx, rfl⟩ := List.mem_map.mp m
  have := h1 x mx
  refine decide_eq_true ?_
  unfold up1
  split <;> omega
theorem mt_popAtA : MtM X "list.pop" rPopAt := mt_popAt
def popAtQ : Mq := fun ds ps P => match ps with
  | [(.sc (.int i), _)] => ∃ (k : Nat) (d : D), i = (k : Int) ∧ k < 1000000 ∧ ds[k]? = some d ∧ P (ds.eraseIdx k) d
  | _ => False
theorem popAtQ_i {ds : List D} {i : Int} {md : Md} {P : List D → D → Prop} : popAtQ ds [(.sc (.int i), md)] P = (∃ (k : Nat) (d : D), i = (k : Int) ∧ k < 1000000 ∧ ds[k]? = some d ∧ P (ds.eraseIdx k) d) := rfl
theorem MutL.popAt : MutL c rPopAt popAtQ := by
  intro R O H a vs xs ds ps P Q w h r b t k
  unfold popAtQ at t
  split at t
  · obtain ⟨x, rfl, b, st⟩ := b.one
    obtain ⟨j, d, rfl, hj, e, t⟩ := t
    cases b.sc
    obtain ⟨v, ev, rv⟩ := r.get e
    have hlt : j < vs.length := (List.getElem?_eq_some_iff.mp ev).1
    refine ⟨a, vs, _, j, v, rfl, rfl, h, by omega, by omega, ?_, ev, ?_⟩
    · unfold seqIndex?
      have h1 : ¬ ((j : Int) < 0) := by omega
      simp only [h1, if_false]
      rw [if_pos (by simp; omega)]
      simp
    · refine k _ _ t v _ ?_ rv
      rw [List.eraseIdx_eq_take_drop_succ, List.eraseIdx_eq_take_drop_succ]
      exact (r.take j).append (r.drop (j + 1))
  · exact t.elim
/-- sorted(d), d a dict whose keys are texts -/
def rSortDk : List V → Hp → VK → Prop := fun xs H Q => ∃ (a : Addr) (kvs : List (Key × V)) (ks : List Str), xs = [.ref a] ∧ Rd H a (.dK kvs) ∧ kvs.map (·.1) = ks.map Sum.inr ∧ ks.length < 64 ∧
    ∀ ys p, ys.Perm ks → sortedS ys = true → H p = none → Q (.ref p) (upd H p (.lst (ys.map V.str)))
theorem call_sortedDA (hc : X.calm = true) : CallR X (.builtin "sorted") rSortDk := call_sortedD hc
def sortedDQ : Cq := fun ps Q => match ps with
  | [(.dic ks _, _)] => ∃ xs : List Str, ks = xs.map Sum.inr ∧ xs.length < 64 ∧ ∀ ys : List Str, ys.Perm xs → sortedS ys = true → Q (.lst (ys.map fun x => .sc (.str x))) .ow
  | _ => False
theorem sortedDQ_d {ks : List Key} {ds : List D} {md : Md} {Q : D → Md → Prop} : sortedDQ [(.dic ks ds, md)] Q = (∃ xs : List Str, ks = xs.map Sum.inr ∧ xs.length < 64 ∧ ∀ ys : List Str, ys.Perm xs → sortedS ys = true → Q (.lst (ys.map fun x => .sc (.str x))) .ow) := rfl
theorem strs_repD {K : PySem.W.Frag} {Z : Hp} : ∀ ms : List Str, (∀ m ∈ ms, PyData.strOk m = true) → RepL K Z (ms.map V.str) (ms.map fun i => .sc (.str i))
  | [], _ => .nil
  | m :: ms, h => .cons (.sc (h m List.mem_cons_self)) (strs_repD ms fun x y => h x (List.mem_cons_of_mem _ y))
theorem CalL.sortedD : CalL c rSortDk sortedDQ := by
  intro R O H xs ps Q' Q w b t k
  unfold sortedDQ at t
  split at t
  · rename_i ks ds md
    obtain ⟨x, rfl, b, _⟩ := b.one
    obtain ⟨a, kvs, rfl, h, e, ok⟩ := b.dic2
    obtain ⟨zs, rfl, hl, t⟩ := t
    refine ⟨a, kvs, zs, rfl, h, e, hl, fun ys p hp hs n => k _ _ (t ys hp hs) _ _ R (Stp.alloc w.rok n) (RM.newL w n n (strs_repD ys fun m hm => ?_))⟩
    exact List.all_eq_true.mp ok (.inr m) (List.mem_map.mpr ⟨m, hp.mem_iff.mp hm, rfl⟩)
  · exact t.elim
end
end P
namespace P.A
open P
open PySem PySem.Spec PyProof.Rows L2
local macro_rules
  | `(tactic| wide_open) => `(tactic| try simp only [s_seq, s_nil, s_if, s_ret, s_retN, s_set, s_for, s_while, i_seq, i_ps, e_c, e_k, e_op, e_cb, e_call, e_and, e_or, e_not, e_chain, e_neg, e_tup, e_lst, e_sl, e_rev, e_dnew, e_dnewT, e_get2, o_none, o_some, t_of, t_op, t_and, t_or, t_not, t_chain, t_yes, a_nil, a_cons, brs, tyOks, isTy, subQ, fdivQ, modQ, powQ, eqQ, neQ, sizeL, enumAQ_l, enumAQ_t, str_one, str_app, startE, wipeE, e_lc, e_step, e_sm1, e_sm0, osOf, En.frz, P.frz, g_name, s_expr, s_asg, s_pass, s_break, s_cont, List.getElem?_cons_zero, List.getElem?_cons_succ, List.getElem?_nil, List.set_cons_zero, List.set_cons_succ, List.map_cons, List.map_nil, List.replicate_zero, List.replicate_succ, List.cons_append, List.nil_append, List.append_nil, List.length_cons, List.length_nil, List.any_cons, List.any_nil, Bool.not_true, Bool.not_false, Bool.false_or, Bool.or_false, Bool.true_or, Bool.or_true, Bool.and_true, Bool.true_and, Bool.false_and, Bool.and_false, if_true, if_false, ite_true, ite_false, Bool.false_eq_true, reduceIte, Nat.reduceAdd, Nat.reduceSub, Nat.zero_add, Nat.add_zero, true_and, and_true, Option.some.injEq, D.sc.injEq, V.bl.injEq, V.int.injEq, V.str.injEq, exists_eq_left', exists_eq_left, Bool.or_self, forall_const, imp_self, decide_eq_true_eq, Bool.not_eq_true', decide_eq_false_iff_not, Bool.not_eq_false, Decidable.not_not, implies_true, not_true_eq_false, not_false_eq_true, reduceCtorEq, false_imp, ne_eq, String.reduceBEq, Int.reducePow, Int.reduceToNat, Int.reduceLT, Int.reduceLE, Nat.reduceLeDiff, Nat.reduceLT, Nat.reduceMul, Int.reduceMul, Int.reduceAdd, Int.reduceSub, Int.reduceNeg, Nat.reducePow, or_true, true_or, List.length_map, List.isEmpty_cons, List.isEmpty_nil, addQ_i, addQ_s, addQ_l, addQ_t, iQ_i, mulQ_i, cmpQ_i, cmpQ_s, isQ_n, isQ_b, isNon_b, isNon_i, isNon_s, isNon_l, isNon_t, isNon_n, isNon_d, inQ_l, inQ_t, inQ_k, inQ_s, inQ_d, inQ_dt, ixQ_l, ixQ_t, ixQ_k, ixQ_s, ixQ_d, ixQ_dt, getQ_d, getQ_dt, key_i, key_s, slQ_l, slQ_t, slQ_s, optQ_i, revQ_l, negQ_i, truth_b, truth_i, truth_n, truth_s, truth_l, truth_t, blQ_b, bindS_st, bindS_ow, isBr_st, isBr_ow, isBr_br, itemsQ_l, itemsQ_t, itemsQ_s, g_tup_t, g_cons_c, g_nil_n, lenQ_l, lenQ_t, lenQ_s, lenQ_d, isiQ_t, ty_i, ty_s, ty_b, ty_n, ty_l, ty_t, ty_d, intQ_i, intQ_b, absQ_i, mmQ_i, listQ_l, listQ_t, listQ_k, tupleQ_l, tupleQ_t, sumQ_l, allQ_l, r1Q_i, r2Q_i, bne_false_S, bne_true_S, eqD_i, eqD_s, eqD_b, eqD_nn, eqD_ni, eqD_in, eqD_is, eqD_si, eqD_ln, eqD_nl, eqD_ll, eqD_l0, eqD_lc, eqD_cl, eqD_tt, eqD_t0, eqD_tc, eqD_ct, plain_i, plain_s, plain_b, plain_n, plain_l, plain_t, plainL_c, plainL_n, dep_sc, dep_l, dep_t, depL_c, depL_n, flatR_sc, slotAt_0, slotAt_s, e_var_eq, varQ_sh, varQ_ow, s_retv_eq, retQ_sh, retQ_ow, s_frz_eq, frzQ_sh, frzQ_ow, s_meth_eq, methQ_l, s_methset_eq, methsQ_l, s_setix_eq, setixQ_ow, e_lkd_eq, lkdQ_d, lkdQ_t, lkdQ_od, lkdQ_ot, s_lkd_eq, lkS_d, lkS_t, i_items_eq, itmS_d, i_keys_eq, keyS_d, keyS_t, i_vals_eq, valS_d, stepQ_l, isLst_l, strD_s, joinQ_l, strQ_i, strQ_s, dictQ_l, sortedLQ_l, setQ_l, setQ_d, setQ_t, appendQ_1, List.length_set, s_try, s_raise, e_callX, isxQ_c, isxQ_v, try_c, exFlat_0, isNon_exc, atI_w0, atI_w1, atI_w2, atI_w3, atI_w4, atI_nat, mulAQ_i, mulAQ_s, repQ_l, e_rep, mm1Q_1, itemsQ'_l, itemsQ'_t, zipAQ_2, Int.zero_add, Int.cast_ofNat_Int, List.getElem?_map, Int.toNat_natCast, Option.isSome_map, e_maxd, seqQ_l', s_wip, Bool.decide_eq_true, decide_true, decide_false, Option.isSome_some, Option.isSome_none, Option.getD_some, Option.getD_none, Option.map_some, Option.map_none, and_self, or_self, e_lrg1_eq, lrg1Q_i, o_e_eq, o_t_eq, o_a_eq, a_nilo_eq, a_conso_eq, e_opo_eq, e_cbo_eq, e_tupo_eq, e_lsto_eq, e_ando_eq, e_oro_eq, e_noto_eq, t_ofo_eq, t_opo_eq, t_ando_eq, t_oro_eq, t_noto_eq, t_yeso_eq, e_cell_eq, e_cel_eq, e_callo_eq, e_callp_eq, s_seto_eq, s_expro_eq, s_ifo_eq, s_asgo_eq, s_reto_eq, s_ro_eq, s_rvo_eq, rvS_sh, rvS_ow, s_rno_eq, s_gh0_eq, noG_no, noG_sh, noG_ow, frzg_no, frzg_sh, frzg_ow, frzg_gh, En.frzg, s_cset_eq, lstQ_l, e_cmeth_eq, owS_ow, s_metho_eq, s_setixo_eq, s_fori_eq, s_forx_eq, fxQ_l, fxQ_t, fxQ_ob, s_forE_eq, e_fld_eq, s_fld_eq, e_metho_eq, e_newo_eq, ghQ_eq, ghS_gh, optS_some, celQ_ob, celA_ob, putS_same, startO, osOfo, e_sortedItems_eq, itmQ_d, itmQ_t, List.all_cons, List.all_nil, e_lco_eq, dec_int, dec_txt, dec_tru, dec_sd, dec_sdF, dec_sdT, dec_pk, dec_ints, dec_strs, dec_ru, dec_ru', dec_book, dec_case, dec_any, args1_eq, args2_eq, args3_eq, args4_eq, bookD, strsD, scriptD, caseOf, intD, txtD, truD, sdD, anyD, sd_inj, sd_ag, sd_fo, sd_ag', sd_fo', atI_if, pick_packD, C_other_side_eq, C_side_of_eq, C_degree_eq, C_over_eq, C_within_eq, C_excess_eq, C_facing_eq, C_against_eq, C_binds_eq, C_torn_eq', C_binding_eq', C_barred_eq', C_barred_eq2, C_fullest_eq', C_ruling_eq, cutD_map, cutN_init, flat_pack, flat_ru, flat_rus, flat_ints, flat_strs, flatR_t, immL_c, immL_n, imm_s, imm_t, imm_pack, imm_ru, dec_book0, dec_ints0, dec_strs0, dec_pk0, eqD_pk, plain_pk, C__law_names_eq, C__law_pack_eq, C__law_near_eq, C__law_reason_eq, C__law_case_eq, C__law_ruling_eq, sdF, sdT, inQ_SI, pick_f, pick_t, setQ_SI, isDict_SI, getD_val, getQ_SI, C__law_degree_eq])
  | `(tactic| wide_open with [$xs,*]) => `(tactic| try simp only [s_seq, s_nil, s_if, s_ret, s_retN, s_set, s_for, s_while, i_seq, i_ps, e_c, e_k, e_op, e_cb, e_call, e_and, e_or, e_not, e_chain, e_neg, e_tup, e_lst, e_sl, e_rev, e_dnew, e_dnewT, e_get2, o_none, o_some, t_of, t_op, t_and, t_or, t_not, t_chain, t_yes, a_nil, a_cons, brs, tyOks, isTy, subQ, fdivQ, modQ, powQ, eqQ, neQ, sizeL, enumAQ_l, enumAQ_t, str_one, str_app, startE, wipeE, e_lc, e_step, e_sm1, e_sm0, osOf, En.frz, P.frz, g_name, s_expr, s_asg, s_pass, s_break, s_cont, List.getElem?_cons_zero, List.getElem?_cons_succ, List.getElem?_nil, List.set_cons_zero, List.set_cons_succ, List.map_cons, List.map_nil, List.replicate_zero, List.replicate_succ, List.cons_append, List.nil_append, List.append_nil, List.length_cons, List.length_nil, List.any_cons, List.any_nil, Bool.not_true, Bool.not_false, Bool.false_or, Bool.or_false, Bool.true_or, Bool.or_true, Bool.and_true, Bool.true_and, Bool.false_and, Bool.and_false, if_true, if_false, ite_true, ite_false, Bool.false_eq_true, reduceIte, Nat.reduceAdd, Nat.reduceSub, Nat.zero_add, Nat.add_zero, true_and, and_true, Option.some.injEq, D.sc.injEq, V.bl.injEq, V.int.injEq, V.str.injEq, exists_eq_left', exists_eq_left, Bool.or_self, forall_const, imp_self, decide_eq_true_eq, Bool.not_eq_true', decide_eq_false_iff_not, Bool.not_eq_false, Decidable.not_not, implies_true, not_true_eq_false, not_false_eq_true, reduceCtorEq, false_imp, ne_eq, String.reduceBEq, Int.reducePow, Int.reduceToNat, Int.reduceLT, Int.reduceLE, Nat.reduceLeDiff, Nat.reduceLT, Nat.reduceMul, Int.reduceMul, Int.reduceAdd, Int.reduceSub, Int.reduceNeg, Nat.reducePow, or_true, true_or, List.length_map, List.isEmpty_cons, List.isEmpty_nil, addQ_i, addQ_s, addQ_l, addQ_t, iQ_i, mulQ_i, cmpQ_i, cmpQ_s, isQ_n, isQ_b, isNon_b, isNon_i, isNon_s, isNon_l, isNon_t, isNon_n, isNon_d, inQ_l, inQ_t, inQ_k, inQ_s, inQ_d, inQ_dt, ixQ_l, ixQ_t, ixQ_k, ixQ_s, ixQ_d, ixQ_dt, getQ_d, getQ_dt, key_i, key_s, slQ_l, slQ_t, slQ_s, optQ_i, revQ_l, negQ_i, truth_b, truth_i, truth_n, truth_s, truth_l, truth_t, blQ_b, bindS_st, bindS_ow, isBr_st, isBr_ow, isBr_br, itemsQ_l, itemsQ_t, itemsQ_s, g_tup_t, g_cons_c, g_nil_n, lenQ_l, lenQ_t, lenQ_s, lenQ_d, isiQ_t, ty_i, ty_s, ty_b, ty_n, ty_l, ty_t, ty_d, intQ_i, intQ_b, absQ_i, mmQ_i, listQ_l, listQ_t, listQ_k, tupleQ_l, tupleQ_t, sumQ_l, allQ_l, r1Q_i, r2Q_i, bne_false_S, bne_true_S, eqD_i, eqD_s, eqD_b, eqD_nn, eqD_ni, eqD_in, eqD_is, eqD_si, eqD_ln, eqD_nl, eqD_ll, eqD_l0, eqD_lc, eqD_cl, eqD_tt, eqD_t0, eqD_tc, eqD_ct, plain_i, plain_s, plain_b, plain_n, plain_l, plain_t, plainL_c, plainL_n, dep_sc, dep_l, dep_t, depL_c, depL_n, flatR_sc, slotAt_0, slotAt_s, e_var_eq, varQ_sh, varQ_ow, s_retv_eq, retQ_sh, retQ_ow, s_frz_eq, frzQ_sh, frzQ_ow, s_meth_eq, methQ_l, s_methset_eq, methsQ_l, s_setix_eq, setixQ_ow, e_lkd_eq, lkdQ_d, lkdQ_t, lkdQ_od, lkdQ_ot, s_lkd_eq, lkS_d, lkS_t, i_items_eq, itmS_d, i_keys_eq, keyS_d, keyS_t, i_vals_eq, valS_d, stepQ_l, isLst_l, strD_s, joinQ_l, strQ_i, strQ_s, dictQ_l, sortedLQ_l, setQ_l, setQ_d, setQ_t, appendQ_1, List.length_set, s_try, s_raise, e_callX, isxQ_c, isxQ_v, try_c, exFlat_0, isNon_exc, atI_w0, atI_w1, atI_w2, atI_w3, atI_w4, atI_nat, mulAQ_i, mulAQ_s, repQ_l, e_rep, mm1Q_1, itemsQ'_l, itemsQ'_t, zipAQ_2, Int.zero_add, Int.cast_ofNat_Int, List.getElem?_map, Int.toNat_natCast, Option.isSome_map, e_maxd, seqQ_l', s_wip, Bool.decide_eq_true, decide_true, decide_false, Option.isSome_some, Option.isSome_none, Option.getD_some, Option.getD_none, Option.map_some, Option.map_none, and_self, or_self, e_lrg1_eq, lrg1Q_i, o_e_eq, o_t_eq, o_a_eq, a_nilo_eq, a_conso_eq, e_opo_eq, e_cbo_eq, e_tupo_eq, e_lsto_eq, e_ando_eq, e_oro_eq, e_noto_eq, t_ofo_eq, t_opo_eq, t_ando_eq, t_oro_eq, t_noto_eq, t_yeso_eq, e_cell_eq, e_cel_eq, e_callo_eq, e_callp_eq, s_seto_eq, s_expro_eq, s_ifo_eq, s_asgo_eq, s_reto_eq, s_ro_eq, s_rvo_eq, rvS_sh, rvS_ow, s_rno_eq, s_gh0_eq, noG_no, noG_sh, noG_ow, frzg_no, frzg_sh, frzg_ow, frzg_gh, En.frzg, s_cset_eq, lstQ_l, e_cmeth_eq, owS_ow, s_metho_eq, s_setixo_eq, s_fori_eq, s_forx_eq, fxQ_l, fxQ_t, fxQ_ob, s_forE_eq, e_fld_eq, s_fld_eq, e_metho_eq, e_newo_eq, ghQ_eq, ghS_gh, optS_some, celQ_ob, celA_ob, putS_same, startO, osOfo, e_sortedItems_eq, itmQ_d, itmQ_t, List.all_cons, List.all_nil, e_lco_eq, dec_int, dec_txt, dec_tru, dec_sd, dec_sdF, dec_sdT, dec_pk, dec_ints, dec_strs, dec_ru, dec_ru', dec_book, dec_case, dec_any, args1_eq, args2_eq, args3_eq, args4_eq, bookD, strsD, scriptD, caseOf, intD, txtD, truD, sdD, anyD, sd_inj, sd_ag, sd_fo, sd_ag', sd_fo', atI_if, pick_packD, C_other_side_eq, C_side_of_eq, C_degree_eq, C_over_eq, C_within_eq, C_excess_eq, C_facing_eq, C_against_eq, C_binds_eq, C_torn_eq', C_binding_eq', C_barred_eq', C_barred_eq2, C_fullest_eq', C_ruling_eq, cutD_map, cutN_init, flat_pack, flat_ru, flat_rus, flat_ints, flat_strs, flatR_t, immL_c, immL_n, imm_s, imm_t, imm_pack, imm_ru, dec_book0, dec_ints0, dec_strs0, dec_pk0, eqD_pk, plain_pk, C__law_names_eq, C__law_pack_eq, C__law_near_eq, C__law_reason_eq, C__law_case_eq, C__law_ruling_eq, sdF, sdT, inQ_SI, pick_f, pick_t, setQ_SI, isDict_SI, getD_val, getQ_SI, C__law_degree_eq, $[$xs:term],*])
local macro_rules
  | `(tactic| w_fin) => `(tactic| repeat (with_reducible apply And.intro; · first | assumption | omega | decide | (left; omega) | (right; omega) | (left; decide) | (right; decide)))
theorem leP_key {x y : Str} {n m : Int} (h : leP (x, n) (y, m) = true) (hne : x ≠ y) : leP (x, 0) (y, 0) = true := by
  have hc : (Sum.inr y.cps.toList : Int ⊕ List Nat) ≠ .inr x.cps.toList := fun z => by
    have := Sum.inr.inj z
    apply hne
    obtain ⟨a⟩ := x
    obtain ⟨b⟩ := y
    congr 1
    exact (Array.toList_inj.mp this).symm
  have e : ∀ a b : Int, leP (x, a) (y, b) = !PyProof.Rows.lexLt PyProof.Rows.itemOrd [.inr y.cps.toList] [.inr x.cps.toList] := fun a b => by
    show (!PyProof.Rows.lexLt PyProof.Rows.itemOrd (PySem.W.keyToks (prD (y, b)).py) (PySem.W.keyToks (prD (x, a)).py)) = _
    rw [keyP, keyP]
    have h1 := PySem.W.lex_pre [.inl 1] [.inr y.cps.toList, .inl 1, .inl b, .inl 0] [.inr x.cps.toList, .inl 1, .inl a, .inl 0]
    have h2 := PySem.W.lex_atom hc [.inl 1, .inl b, .inl 0] [.inl 1, .inl a, .inl 0]
    have h1' : PyProof.Rows.lexLt PyProof.Rows.itemOrd [.inl 1, .inr y.cps.toList, .inl 1, .inl b, .inl 0] [.inl 1, .inr x.cps.toList, .inl 1, .inl a, .inl 0] = PyProof.Rows.lexLt PyProof.Rows.itemOrd [.inr y.cps.toList, .inl 1, .inl b, .inl 0] [.inr x.cps.toList, .inl 1, .inl a, .inl 0] := h1
    rw [h1', h2]
  rw [e] at h ⊢
  exact h
theorem leP_cps {x y : Str} (h : ltCps y.cps.toList x.cps.toList = false) : leP (x, 0) (y, 0) = true := by
  by_cases hne : x = y
  · subst hne
    exact leP_total.refl _
  have hc : (Sum.inr y.cps.toList : Int ⊕ List Nat) ≠ .inr x.cps.toList := fun z => by
    have := Sum.inr.inj z
    apply hne
    obtain ⟨a⟩ := x
    obtain ⟨b⟩ := y
    congr 1
    exact (Array.toList_inj.mp this).symm
  show (!PyProof.Rows.lexLt PyProof.Rows.itemOrd (PySem.W.keyToks (prD (y, 0)).py) (PySem.W.keyToks (prD (x, 0)).py)) = true
  rw [keyP, keyP]
  have h1 : PyProof.Rows.lexLt PyProof.Rows.itemOrd [.inl 1, .inr y.cps.toList, .inl 1, .inl 0, .inl 0] [.inl 1, .inr x.cps.toList, .inl 1, .inl 0, .inl 0] = PyProof.Rows.lexLt PyProof.Rows.itemOrd [.inr y.cps.toList, .inl 1, .inl 0, .inl 0] [.inr x.cps.toList, .inl 1, .inl 0, .inl 0] := PySem.W.lex_pre [.inl 1] [.inr y.cps.toList, .inl 1, .inl 0, .inl 0] [.inr x.cps.toList, .inl 1, .inl 0, .inl 0]
  rw [h1, PySem.W.lex_atom hc, PySem.W.lex_one]
  show (!decide (y.cps.toList < x.cps.toList)) = true
  rw [← ltCps_eq, h]
  rfl
theorem ltC_trans {p x y : Str} (h1 : ltCps x.cps.toList p.cps.toList = false) (h2 : ltCps y.cps.toList x.cps.toList = false) : ltCps y.cps.toList p.cps.toList = false := by
  rw [ltCps_eq] at *
  cases h : decide (y.cps.toList < p.cps.toList) with
  | false => rfl
  | true =>
    have := PyProof.Rows.strKind.negTrans y.cps.toList x.cps.toList p.cps.toList h
    rcases this with z | z
    · have z : decide (y.cps.toList < x.cps.toList) = true := z
      rw [z] at h2; cases h2
    · have z : decide (x.cps.toList < p.cps.toList) = true := z
      rw [z] at h1; cases h1
theorem rising_all : ∀ (l : List Str) (p : Str), risingS p l = true → (p :: l).Pairwise fun a b => ltCps b.cps.toList a.cps.toList = false
  | [], p, _ => by simp
  | x :: r, p, h => by
    have h : (!ltCps x.cps.toList p.cps.toList && risingS x r) = true := h
    rw [Bool.and_eq_true, Bool.not_eq_true'] at h
    have ih := rising_all r x h.2
    refine List.pairwise_cons.mpr ⟨fun y m => ?_, ih⟩
    rcases List.mem_cons.mp m with rfl | m
    · exact h.1
    · exact ltC_trans h.1 ((List.pairwise_cons.mp ih).1 y m)
theorem sorted_all : ∀ l : List Str, sortedS l = true → l.Pairwise fun a b => leP (a, 0) (b, 0) = true
  | [], _ => List.Pairwise.nil
  | x :: r, h => List.Pairwise.imp (fun h => leP_cps h) (rising_all r x h)
theorem names_eq {L M : List Str} (hL : L.Pairwise fun a b => leP (a, 0) (b, 0) = true) (hM : M.Pairwise fun a b => leP (a, 0) (b, 0) = true) (nL : L.Nodup) (nM : M.Nodup) (h : ∀ x, x ∈ L ↔ x ∈ M) : L = M := by
  have p : L.Perm M := (List.perm_ext_iff_of_nodup nL nM).mpr h
  have e := sortP_perm (p.map fun x => ((x, 0) : Pr))
  have s : ∀ K : List Str, K.Pairwise (fun a b => leP (a, 0) (b, 0) = true) → sortP (K.map fun x => ((x, 0) : Pr)) = K.map fun x => (x, 0) := fun K hK => by
    unfold sortP
    exact List.mergeSort_of_pairwise (List.pairwise_map.mpr hK)
  rw [s L hL, s M hM] at e
  have := congrArg (List.map Prod.fst) e
  simpa [List.map_map, Function.comp_def] using this
theorem isP_pw {ps : List Pr} (h : IsP ps) : ps.Pairwise fun a b => leP a b = true := by
  have := List.pairwise_mergeSort (le := leP) (fun a b c => leP_total.trans a b c) (fun a b => by rw [Bool.or_eq_true]; exact leP_total.total a b) ps
  rw [show ps.mergeSort leP = ps from h.sorted] at this
  exact this
theorem sub_one {n : Nat} {L : Str} (h : subS ⟨#[n]⟩ L = true) : n ∈ L.cps.toList := by
  unfold subS at h
  obtain ⟨i, hi, hs⟩ := (PySem.StrLaws.found_iff L ⟨#[n]⟩).mp h
  have e : L.cps.extract i (i + 1) = #[n] := beq_iff_eq.mp hs
  have e2 := congrArg Array.toList e
  rw [Array.toList_extract] at e2
  have m : n ∈ L.cps.toList.extract i (i + 1) := by rw [e2]; exact List.mem_singleton.mpr rfl
  rw [List.extract_eq_take_drop] at m
  exact List.mem_of_mem_drop (List.mem_of_mem_take m)
theorem let_asc : letL.all (fun n => decide (97 ≤ n ∧ n ≤ 122)) = true := by decide +kernel
theorem letters_asc {x : Str} (h : lettersB x = true) : ∀ n ∈ x.cps.toList, 97 ≤ n ∧ n ≤ 122 := fun n m => by
  unfold lettersB at h
  have := sub_one (List.all_eq_true.mp h n m)
  exact of_decide_eq_true (List.all_eq_true.mp let_asc n this)
theorem nameB_letters {x : Str} (h : nameB x = true) : lettersB x = true := by
  unfold nameB at h
  rw [Bool.and_eq_true, Bool.and_eq_true] at h
  exact h.2.2
theorem nameB_no {x : Str} (h : lettersB x = false) : nameB x = false := by
  unfold nameB
  rw [h, Bool.and_false, Bool.and_false]
theorem not_let {n : Nat} (h : ¬ (97 ≤ n ∧ n ≤ 122)) : subS ⟨#[n]⟩ "abcdefghijklmnopqrstuvwxyz" = false := by
  cases e : subS ⟨#[n]⟩ "abcdefghijklmnopqrstuvwxyz" with
  | false => rfl
  | true => exact absurd (of_decide_eq_true (List.all_eq_true.mp let_asc n (sub_one e))) h
theorem upper_no {x : Str} (h : nameB x = true) : nameB (upS x) = false := by
  refine nameB_no ?_
  have hl := letters_asc (nameB_letters h)
  have h1 := (nameB_len h).1
  unfold lettersB upS
  rw [Array.toList_map, List.all_eq_false]
  have hp : 0 < x.cps.toList.length := by rw [str_len]; omega
  obtain ⟨n, r, e⟩ : ∃ n r, x.cps.toList = n :: r := by
    cases e : x.cps.toList with
    | nil => rw [e] at hp; simp at hp
    | cons n r => exact ⟨n, r, rfl⟩
  have hn := hl n (by rw [e]; simp)
  refine ⟨up1 n, by rw [e]; simp, ?_⟩
  rw [not_let]
  · exact Bool.false_ne_true
  · unfold up1
    rw [if_pos hn]
    omega
theorem app_no {x y : Str} (h : lettersB y = false) : nameB (x ++ y) = false := nameB_no (by rw [letters_app, h, Bool.and_false])
end P.A
namespace P.A
open P
open PySem PySem.Spec PyProof.Rows L2
def EXL : List Str := ["BookError", "NoPack", "NoSide", "NoReason", "TooMuch", "NoCourt", "Late", "NotAllowed", "NoRuling", "NotYours", "NoRow", "Twice", "Unknown"]
theorem inX_BookError : ("BookError" : Str) ∈ EXL := by decide +kernel
theorem inX_NoPack : ("NoPack" : Str) ∈ EXL := by decide +kernel
theorem inX_NoSide : ("NoSide" : Str) ∈ EXL := by decide +kernel
theorem inX_NoReason : ("NoReason" : Str) ∈ EXL := by decide +kernel
theorem inX_TooMuch : ("TooMuch" : Str) ∈ EXL := by decide +kernel
theorem inX_NoCourt : ("NoCourt" : Str) ∈ EXL := by decide +kernel
theorem inX_Late : ("Late" : Str) ∈ EXL := by decide +kernel
theorem inX_NotAllowed : ("NotAllowed" : Str) ∈ EXL := by decide +kernel
theorem inX_NoRuling : ("NoRuling" : Str) ∈ EXL := by decide +kernel
theorem inX_NotYours : ("NotYours" : Str) ∈ EXL := by decide +kernel
theorem inX_NoRow : ("NoRow" : Str) ∈ EXL := by decide +kernel
theorem inX_Twice : ("Twice" : Str) ∈ EXL := by decide +kernel
theorem inX_Unknown : ("Unknown" : Str) ∈ EXL := by decide +kernel
theorem xs_NoPack_BookError : excSub "NoPack" "BookError" = true := by decide +kernel
theorem xs_NoPack_NoPack : excSub "NoPack" "NoPack" = true := by decide +kernel
theorem xs_NoPack_NoSide : excSub "NoPack" "NoSide" = false := by decide +kernel
theorem xs_NoPack_NoReason : excSub "NoPack" "NoReason" = false := by decide +kernel
theorem xs_NoPack_TooMuch : excSub "NoPack" "TooMuch" = false := by decide +kernel
theorem xs_NoPack_NoCourt : excSub "NoPack" "NoCourt" = false := by decide +kernel
theorem xs_NoPack_Late : excSub "NoPack" "Late" = false := by decide +kernel
theorem xs_NoPack_NotAllowed : excSub "NoPack" "NotAllowed" = false := by decide +kernel
theorem xs_NoPack_NoRuling : excSub "NoPack" "NoRuling" = false := by decide +kernel
theorem xs_NoPack_NotYours : excSub "NoPack" "NotYours" = false := by decide +kernel
theorem xs_NoPack_NoRow : excSub "NoPack" "NoRow" = false := by decide +kernel
theorem xs_NoPack_Twice : excSub "NoPack" "Twice" = false := by decide +kernel
theorem xs_NoPack_Unknown : excSub "NoPack" "Unknown" = false := by decide +kernel
local macro_rules
  | `(tactic| wide_open) => `(tactic| try simp only [s_seq, s_nil, s_if, s_ret, s_retN, s_set, s_for, s_while, i_seq, i_ps, e_c, e_k, e_op, e_cb, e_call, e_and, e_or, e_not, e_chain, e_neg, e_tup, e_lst, e_sl, e_rev, e_dnew, e_dnewT, e_get2, o_none, o_some, t_of, t_op, t_and, t_or, t_not, t_chain, t_yes, a_nil, a_cons, brs, tyOks, isTy, subQ, fdivQ, modQ, powQ, eqQ, neQ, sizeL, enumAQ_l, enumAQ_t, str_one, str_app, startE, wipeE, e_lc, e_step, e_sm1, e_sm0, osOf, En.frz, P.frz, g_name, s_expr, s_asg, s_pass, s_break, s_cont, List.getElem?_cons_zero, List.getElem?_cons_succ, List.getElem?_nil, List.set_cons_zero, List.set_cons_succ, List.map_cons, List.map_nil, List.replicate_zero, List.replicate_succ, List.cons_append, List.nil_append, List.append_nil, List.length_cons, List.length_nil, List.any_cons, List.any_nil, Bool.not_true, Bool.not_false, Bool.false_or, Bool.or_false, Bool.true_or, Bool.or_true, Bool.and_true, Bool.true_and, Bool.false_and, Bool.and_false, if_true, if_false, ite_true, ite_false, Bool.false_eq_true, reduceIte, Nat.reduceAdd, Nat.reduceSub, Nat.zero_add, Nat.add_zero, true_and, and_true, Option.some.injEq, D.sc.injEq, V.bl.injEq, V.int.injEq, V.str.injEq, exists_eq_left', exists_eq_left, Bool.or_self, forall_const, imp_self, decide_eq_true_eq, Bool.not_eq_true', decide_eq_false_iff_not, Bool.not_eq_false, Decidable.not_not, implies_true, not_true_eq_false, not_false_eq_true, reduceCtorEq, false_imp, ne_eq, String.reduceBEq, Int.reducePow, Int.reduceToNat, Int.reduceLT, Int.reduceLE, Nat.reduceLeDiff, Nat.reduceLT, Nat.reduceMul, Int.reduceMul, Int.reduceAdd, Int.reduceSub, Int.reduceNeg, Nat.reducePow, or_true, true_or, List.length_map, List.isEmpty_cons, List.isEmpty_nil, addQ_i, addQ_s, addQ_l, addQ_t, iQ_i, mulQ_i, cmpQ_i, cmpQ_s, isQ_n, isQ_b, isNon_b, isNon_i, isNon_s, isNon_l, isNon_t, isNon_n, isNon_d, inQ_l, inQ_t, inQ_k, inQ_s, inQ_d, inQ_dt, ixQ_l, ixQ_t, ixQ_k, ixQ_s, ixQ_d, ixQ_dt, getQ_d, getQ_dt, key_i, key_s, slQ_l, slQ_t, slQ_s, optQ_i, revQ_l, negQ_i, truth_b, truth_i, truth_n, truth_s, truth_l, truth_t, blQ_b, bindS_st, bindS_ow, isBr_st, isBr_ow, isBr_br, itemsQ_l, itemsQ_t, itemsQ_s, g_tup_t, g_cons_c, g_nil_n, lenQ_l, lenQ_t, lenQ_s, lenQ_d, isiQ_t, ty_i, ty_s, ty_b, ty_n, ty_l, ty_t, ty_d, intQ_i, intQ_b, absQ_i, mmQ_i, listQ_l, listQ_t, listQ_k, tupleQ_l, tupleQ_t, sumQ_l, allQ_l, r1Q_i, r2Q_i, bne_false_S, bne_true_S, eqD_i, eqD_s, eqD_b, eqD_nn, eqD_ni, eqD_in, eqD_is, eqD_si, eqD_ln, eqD_nl, eqD_ll, eqD_l0, eqD_lc, eqD_cl, eqD_tt, eqD_t0, eqD_tc, eqD_ct, plain_i, plain_s, plain_b, plain_n, plain_l, plain_t, plainL_c, plainL_n, dep_sc, dep_l, dep_t, depL_c, depL_n, flatR_sc, slotAt_0, slotAt_s, e_var_eq, varQ_sh, varQ_ow, s_retv_eq, retQ_sh, retQ_ow, s_frz_eq, frzQ_sh, frzQ_ow, s_meth_eq, methQ_l, s_methset_eq, methsQ_l, s_setix_eq, setixQ_ow, e_lkd_eq, lkdQ_d, lkdQ_t, lkdQ_od, lkdQ_ot, s_lkd_eq, lkS_d, lkS_t, i_items_eq, itmS_d, i_keys_eq, keyS_d, keyS_t, i_vals_eq, valS_d, stepQ_l, isLst_l, strD_s, joinQ_l, strQ_i, strQ_s, dictQ_l, sortedLQ_l, setQ_l, setQ_d, setQ_t, appendQ_1, List.length_set, s_try, s_raise, e_callX, isxQ_c, isxQ_v, try_c, exFlat_0, isNon_exc, atI_w0, atI_w1, atI_w2, atI_w3, atI_w4, atI_nat, mulAQ_i, mulAQ_s, repQ_l, e_rep, mm1Q_1, itemsQ'_l, itemsQ'_t, zipAQ_2, Int.zero_add, Int.cast_ofNat_Int, List.getElem?_map, Int.toNat_natCast, Option.isSome_map, e_maxd, seqQ_l', s_wip, Bool.decide_eq_true, decide_true, decide_false, Option.isSome_some, Option.isSome_none, Option.getD_some, Option.getD_none, Option.map_some, Option.map_none, and_self, or_self, e_lrg1_eq, lrg1Q_i, o_e_eq, o_t_eq, o_a_eq, a_nilo_eq, a_conso_eq, e_opo_eq, e_cbo_eq, e_tupo_eq, e_lsto_eq, e_ando_eq, e_oro_eq, e_noto_eq, t_ofo_eq, t_opo_eq, t_ando_eq, t_oro_eq, t_noto_eq, t_yeso_eq, e_cell_eq, e_cel_eq, e_callo_eq, e_callp_eq, s_seto_eq, s_expro_eq, s_ifo_eq, s_asgo_eq, s_reto_eq, s_ro_eq, s_rvo_eq, rvS_sh, rvS_ow, s_rno_eq, s_gh0_eq, noG_no, noG_sh, noG_ow, frzg_no, frzg_sh, frzg_ow, frzg_gh, En.frzg, s_cset_eq, lstQ_l, e_cmeth_eq, owS_ow, s_metho_eq, s_setixo_eq, s_fori_eq, s_forx_eq, fxQ_l, fxQ_t, fxQ_ob, s_forE_eq, e_fld_eq, s_fld_eq, e_metho_eq, e_newo_eq, ghQ_eq, ghS_gh, optS_some, celQ_ob, celA_ob, putS_same, startO, osOfo, e_sortedItems_eq, itmQ_d, itmQ_t, List.all_cons, List.all_nil, e_lco_eq, dec_int, dec_txt, dec_tru, dec_sd, dec_sdF, dec_sdT, dec_pk, dec_ints, dec_strs, dec_ru, dec_ru', dec_book, dec_case, dec_any, args1_eq, args2_eq, args3_eq, args4_eq, bookD, strsD, scriptD, caseOf, intD, txtD, truD, sdD, anyD, sd_inj, sd_ag, sd_fo, sd_ag', sd_fo', atI_if, pick_packD, C_other_side_eq, C_side_of_eq, C_degree_eq, C_over_eq, C_within_eq, C_excess_eq, C_facing_eq, C_against_eq, C_binds_eq, C_torn_eq', C_binding_eq', C_barred_eq', C_barred_eq2, C_fullest_eq', C_ruling_eq, cutD_map, cutN_init, flat_pack, flat_ru, flat_rus, flat_ints, flat_strs, flatR_t, immL_c, immL_n, imm_s, imm_t, imm_pack, imm_ru, dec_book0, dec_ints0, dec_strs0, dec_pk0, eqD_pk, plain_pk, C__law_names_eq, C__law_pack_eq, C__law_near_eq, C__law_reason_eq, C__law_case_eq, C__law_ruling_eq, sdF, sdT, inQ_SI, pick_f, pick_t, setQ_SI, isDict_SI, getD_val, getQ_SI, C__law_degree_eq, inX_BookError, inX_NoPack, inX_NoSide, inX_NoReason, inX_TooMuch, inX_NoCourt, inX_Late, inX_NotAllowed, inX_NoRuling, inX_NotYours, inX_NoRow, inX_Twice, inX_Unknown, xs_NoPack_BookError, xs_NoPack_NoPack, xs_NoPack_NoSide, xs_NoPack_NoReason, xs_NoPack_TooMuch, xs_NoPack_NoCourt, xs_NoPack_Late, xs_NoPack_NotAllowed, xs_NoPack_NoRuling, xs_NoPack_NotYours, xs_NoPack_NoRow, xs_NoPack_Twice, xs_NoPack_Unknown, isyQ_c, isyQ_v, sortedDQ_d, popAtQ_i])
  | `(tactic| wide_open with [$xs,*]) => `(tactic| try simp only [s_seq, s_nil, s_if, s_ret, s_retN, s_set, s_for, s_while, i_seq, i_ps, e_c, e_k, e_op, e_cb, e_call, e_and, e_or, e_not, e_chain, e_neg, e_tup, e_lst, e_sl, e_rev, e_dnew, e_dnewT, e_get2, o_none, o_some, t_of, t_op, t_and, t_or, t_not, t_chain, t_yes, a_nil, a_cons, brs, tyOks, isTy, subQ, fdivQ, modQ, powQ, eqQ, neQ, sizeL, enumAQ_l, enumAQ_t, str_one, str_app, startE, wipeE, e_lc, e_step, e_sm1, e_sm0, osOf, En.frz, P.frz, g_name, s_expr, s_asg, s_pass, s_break, s_cont, List.getElem?_cons_zero, List.getElem?_cons_succ, List.getElem?_nil, List.set_cons_zero, List.set_cons_succ, List.map_cons, List.map_nil, List.replicate_zero, List.replicate_succ, List.cons_append, List.nil_append, List.append_nil, List.length_cons, List.length_nil, List.any_cons, List.any_nil, Bool.not_true, Bool.not_false, Bool.false_or, Bool.or_false, Bool.true_or, Bool.or_true, Bool.and_true, Bool.true_and, Bool.false_and, Bool.and_false, if_true, if_false, ite_true, ite_false, Bool.false_eq_true, reduceIte, Nat.reduceAdd, Nat.reduceSub, Nat.zero_add, Nat.add_zero, true_and, and_true, Option.some.injEq, D.sc.injEq, V.bl.injEq, V.int.injEq, V.str.injEq, exists_eq_left', exists_eq_left, Bool.or_self, forall_const, imp_self, decide_eq_true_eq, Bool.not_eq_true', decide_eq_false_iff_not, Bool.not_eq_false, Decidable.not_not, implies_true, not_true_eq_false, not_false_eq_true, reduceCtorEq, false_imp, ne_eq, String.reduceBEq, Int.reducePow, Int.reduceToNat, Int.reduceLT, Int.reduceLE, Nat.reduceLeDiff, Nat.reduceLT, Nat.reduceMul, Int.reduceMul, Int.reduceAdd, Int.reduceSub, Int.reduceNeg, Nat.reducePow, or_true, true_or, List.length_map, List.isEmpty_cons, List.isEmpty_nil, addQ_i, addQ_s, addQ_l, addQ_t, iQ_i, mulQ_i, cmpQ_i, cmpQ_s, isQ_n, isQ_b, isNon_b, isNon_i, isNon_s, isNon_l, isNon_t, isNon_n, isNon_d, inQ_l, inQ_t, inQ_k, inQ_s, inQ_d, inQ_dt, ixQ_l, ixQ_t, ixQ_k, ixQ_s, ixQ_d, ixQ_dt, getQ_d, getQ_dt, key_i, key_s, slQ_l, slQ_t, slQ_s, optQ_i, revQ_l, negQ_i, truth_b, truth_i, truth_n, truth_s, truth_l, truth_t, blQ_b, bindS_st, bindS_ow, isBr_st, isBr_ow, isBr_br, itemsQ_l, itemsQ_t, itemsQ_s, g_tup_t, g_cons_c, g_nil_n, lenQ_l, lenQ_t, lenQ_s, lenQ_d, isiQ_t, ty_i, ty_s, ty_b, ty_n, ty_l, ty_t, ty_d, intQ_i, intQ_b, absQ_i, mmQ_i, listQ_l, listQ_t, listQ_k, tupleQ_l, tupleQ_t, sumQ_l, allQ_l, r1Q_i, r2Q_i, bne_false_S, bne_true_S, eqD_i, eqD_s, eqD_b, eqD_nn, eqD_ni, eqD_in, eqD_is, eqD_si, eqD_ln, eqD_nl, eqD_ll, eqD_l0, eqD_lc, eqD_cl, eqD_tt, eqD_t0, eqD_tc, eqD_ct, plain_i, plain_s, plain_b, plain_n, plain_l, plain_t, plainL_c, plainL_n, dep_sc, dep_l, dep_t, depL_c, depL_n, flatR_sc, slotAt_0, slotAt_s, e_var_eq, varQ_sh, varQ_ow, s_retv_eq, retQ_sh, retQ_ow, s_frz_eq, frzQ_sh, frzQ_ow, s_meth_eq, methQ_l, s_methset_eq, methsQ_l, s_setix_eq, setixQ_ow, e_lkd_eq, lkdQ_d, lkdQ_t, lkdQ_od, lkdQ_ot, s_lkd_eq, lkS_d, lkS_t, i_items_eq, itmS_d, i_keys_eq, keyS_d, keyS_t, i_vals_eq, valS_d, stepQ_l, isLst_l, strD_s, joinQ_l, strQ_i, strQ_s, dictQ_l, sortedLQ_l, setQ_l, setQ_d, setQ_t, appendQ_1, List.length_set, s_try, s_raise, e_callX, isxQ_c, isxQ_v, try_c, exFlat_0, isNon_exc, atI_w0, atI_w1, atI_w2, atI_w3, atI_w4, atI_nat, mulAQ_i, mulAQ_s, repQ_l, e_rep, mm1Q_1, itemsQ'_l, itemsQ'_t, zipAQ_2, Int.zero_add, Int.cast_ofNat_Int, List.getElem?_map, Int.toNat_natCast, Option.isSome_map, e_maxd, seqQ_l', s_wip, Bool.decide_eq_true, decide_true, decide_false, Option.isSome_some, Option.isSome_none, Option.getD_some, Option.getD_none, Option.map_some, Option.map_none, and_self, or_self, e_lrg1_eq, lrg1Q_i, o_e_eq, o_t_eq, o_a_eq, a_nilo_eq, a_conso_eq, e_opo_eq, e_cbo_eq, e_tupo_eq, e_lsto_eq, e_ando_eq, e_oro_eq, e_noto_eq, t_ofo_eq, t_opo_eq, t_ando_eq, t_oro_eq, t_noto_eq, t_yeso_eq, e_cell_eq, e_cel_eq, e_callo_eq, e_callp_eq, s_seto_eq, s_expro_eq, s_ifo_eq, s_asgo_eq, s_reto_eq, s_ro_eq, s_rvo_eq, rvS_sh, rvS_ow, s_rno_eq, s_gh0_eq, noG_no, noG_sh, noG_ow, frzg_no, frzg_sh, frzg_ow, frzg_gh, En.frzg, s_cset_eq, lstQ_l, e_cmeth_eq, owS_ow, s_metho_eq, s_setixo_eq, s_fori_eq, s_forx_eq, fxQ_l, fxQ_t, fxQ_ob, s_forE_eq, e_fld_eq, s_fld_eq, e_metho_eq, e_newo_eq, ghQ_eq, ghS_gh, optS_some, celQ_ob, celA_ob, putS_same, startO, osOfo, e_sortedItems_eq, itmQ_d, itmQ_t, List.all_cons, List.all_nil, e_lco_eq, dec_int, dec_txt, dec_tru, dec_sd, dec_sdF, dec_sdT, dec_pk, dec_ints, dec_strs, dec_ru, dec_ru', dec_book, dec_case, dec_any, args1_eq, args2_eq, args3_eq, args4_eq, bookD, strsD, scriptD, caseOf, intD, txtD, truD, sdD, anyD, sd_inj, sd_ag, sd_fo, sd_ag', sd_fo', atI_if, pick_packD, C_other_side_eq, C_side_of_eq, C_degree_eq, C_over_eq, C_within_eq, C_excess_eq, C_facing_eq, C_against_eq, C_binds_eq, C_torn_eq', C_binding_eq', C_barred_eq', C_barred_eq2, C_fullest_eq', C_ruling_eq, cutD_map, cutN_init, flat_pack, flat_ru, flat_rus, flat_ints, flat_strs, flatR_t, immL_c, immL_n, imm_s, imm_t, imm_pack, imm_ru, dec_book0, dec_ints0, dec_strs0, dec_pk0, eqD_pk, plain_pk, C__law_names_eq, C__law_pack_eq, C__law_near_eq, C__law_reason_eq, C__law_case_eq, C__law_ruling_eq, sdF, sdT, inQ_SI, pick_f, pick_t, setQ_SI, isDict_SI, getD_val, getQ_SI, C__law_degree_eq, inX_BookError, inX_NoPack, inX_NoSide, inX_NoReason, inX_TooMuch, inX_NoCourt, inX_Late, inX_NotAllowed, inX_NoRuling, inX_NotYours, inX_NoRow, inX_Twice, inX_Unknown, xs_NoPack_BookError, xs_NoPack_NoPack, xs_NoPack_NoSide, xs_NoPack_NoReason, xs_NoPack_TooMuch, xs_NoPack_NoCourt, xs_NoPack_Late, xs_NoPack_NotAllowed, xs_NoPack_NoRuling, xs_NoPack_NotYours, xs_NoPack_NoRow, xs_NoPack_Twice, xs_NoPack_Unknown, isyQ_c, isyQ_v, sortedDQ_d, popAtQ_i, $[$xs:term],*])
local macro_rules
  | `(tactic| w_fin) => `(tactic| repeat (with_reducible apply And.intro; · first | assumption | omega | decide | (left; omega) | (right; omega) | (left; decide) | (right; decide)))
theorem for_pre' {α σ : Type} {tg : Gx} {g : Sx} {E : Os} (enc : α → D) (xs : List α) (rest : List D) (st : σ → En) (I : List α → σ → Prop) (h0 : ∀ s, I xs s → loopF tg g rest (st s) E)
    (hs : ∀ pre x post, xs = pre ++ x :: post → ∀ s, I pre s → ∀ N : En → Prop, (∀ s', I (pre ++ [x]) s' → N (st s')) → tg (enc x) (st s) fun e => g e { nx := N, ct := N, bk := E.nx, rt := E.rt, ro := E.ro }) :
    ∀ (post pre : List α) (s : σ), xs = pre ++ post → I pre s → loopF tg g (post.map enc ++ rest) (st s) E
  | [], pre, s, e, h => by
    rw [List.append_nil] at e
    subst e
    exact h0 s h
  | x :: post, pre, s, e, h => hs pre x post e s h (fun e' => loopF tg g (post.map enc ++ rest) e' E) fun s' h' => for_pre' enc xs rest st I h0 hs post (pre ++ [x]) s' (by rw [e]; simp) h'
def Odd (x y : D) : Prop := (x.ty.isSome = true ∧ (∀ z, x = .sc (.str z) → z.length ≤ 16777216)) ∧ y.ty.isSome = true ∧ (isName x = false ∨ isDeg y = false)
def gX_pack (W : Xk) : Sx := s_seq (s_set 1 (e_dnew)) (s_seq (s_frz 0 (s_for (i_seq (e_var 0)) (g_tup 2 (g_cons (g_name 2) (g_cons (g_name 3) (g_nil)))) (s_seq (s_if (t_or (t_not (t_of (e_call 1 C_is_name (a_cons (e_var 2) (a_nil))))) (t_not (t_of (e_call 1 C_is_degree (a_cons (e_var 3) (a_nil)))))) (s_raise "NoPack" W) (s_nil)) (s_setix 1 (e_var 2) (e_cb (mmQ max) (a_cons (e_var 3) (a_cons (e_get2 (e_var 1) (e_var 2) (e_c (.int 0))) (a_nil)))))))) (s_ret (e_call 1 C_sorted_pack (a_cons (e_var 1) (a_nil)))))
def CX_pack : CtX := fun ds Q W => ∃ (pre post : List Pr) (x y : D), ds = [.lst (pre.map prD ++ .tup [x, y] :: post.map prD)] ∧ (dgP pre ∧ pre.length ≤ 1000 ∧ Odd x y) ∧ W (.exc "NoPack" [] [])
theorem pureX_pack (ds : List D) (Q : D → Md → Prop) (W : D → Prop) (h : CX_pack ds Q W) : gX_pack (fun _ e => W e) (startE ["pairs", "degrees", "name", "number"] ds) (osOf Q) := by
  obtain ⟨pre, post, x, y, rfl, ⟨hd, hl, ⟨hx1, hx2⟩, hy, ho⟩, q⟩ := h
  have hz := sizeL
  unfold gX_pack
  wide_open
  refine for_pre' (σ := List Pr × Sl × Sl) prD pre _ (fun s => [.sh (.lst (pre.map prD ++ .tup [x, y] :: post.map prD)), .ow (dicSI s.1), s.2.1, s.2.2]) (fun p s => s.1.length ≤ p.length ∧ dgP s.1 ∧ KU s.1) (fun s hs => ?_) (fun p1 p p2 e s hs N hN => ?_) pre [] ([], .no, .no) rfl ⟨Nat.le_refl _, (fun _ z => absurd z List.not_mem_nil), List.nodup_nil⟩
  · wide_open with [C_is_name, C_is_degree, loopF]
    refine ⟨hx1, hx2, ?_⟩
    by_cases hn : isName x = false
    · rw [if_pos hn]; exact q
    · rw [if_neg hn, if_pos (ho.resolve_left hn)]; exact ⟨hy, q⟩
  · have hp := hd p (by rw [e]; simp)
    obtain ⟨rs, a, b⟩ := s
    obtain ⟨g1, g2, g3⟩ := hp
    have i1 : ∀ w : Str, isName (.sc (.str w)) = nameB w := fun _ => rfl
    have i2 : ∀ w : Int, isDeg (.sc (.int w)) = decide (0 ≤ w ∧ w ≤ 1000000000000000000000000000000) := fun _ => rfl
    have hl3 := (nameB_len g1).2
    obtain ⟨b1, b2, b3⟩ := hs
    have hle : p1.length + 1 ≤ pre.length := by rw [e, List.length_append, List.length_cons]; omega
    wide_open with [C_is_name, C_is_degree, prD, i1, i2, g1, g2, g3]
    have b1 : rs.length ≤ p1.length := b1
    refine ⟨fun x e => by rw [← e]; omega, by omega, hN (_, _, _) ⟨Nat.le_trans put_len (by rw [List.length_append, List.length_singleton]; omega), ?_, put_KU b3 _ _⟩⟩
    have : 0 ≤ valP rs p.1 ∧ valP rs p.1 ≤ 1000000000000000000000000000000 := by
      unfold valP
      cases e : gVal rs p.1 with
      | none => exact ⟨Int.le_refl _, by show (0 : Int) ≤ _; omega⟩
      | some m => exact (b2 _ ((gVal_mem b3).mp e)).2
    refine put_dg b2 g1 (by omega) (by omega)
def g__law_is_pack : Sx := s_seq (s_if (t_or (t_not (t_of (e_cb (isiQ) (a_cons (e_var 0) (a_cons (e_c (.ty "tuple")) (a_nil)))))) (t_op (neQ) (e_var 0) (e_var 1))) (s_ret (e_c (.bl false))) (s_nil)) (s_seq (s_frz 0 (s_for (i_seq (e_var 0)) (g_name 2) (s_seq (s_if (t_or (t_not (t_of (e_cb (isiQ) (a_cons (e_var 2) (a_cons (e_c (.ty "tuple")) (a_nil)))))) (t_or (t_not (t_of (e_cb (isiQ) (a_cons (e_op ixQ (e_var 2) (e_c (.int 1))) (a_cons (e_c (.ty "int")) (a_nil)))))) (t_of (e_cb (isiQ) (a_cons (e_op ixQ (e_var 2) (e_c (.int 1))) (a_cons (e_c (.ty "bool")) (a_nil))))))) (s_ret (e_c (.bl false))) (s_nil)) (s_wip [2] s_nil)))) (s_wip [2] (s_ret (e_c (.bl true)))))
def C__law_is_pack : Ct := fun ds Q => ∃ p : List Pr, ds = [packD p, packD p] ∧ p.length ≤ 1000 ∧ Q (.sc (.bl true)) .st
theorem pure__law_is_pack (ds : List D) (Q : D → Md → Prop) (h : C__law_is_pack ds Q) : g__law_is_pack (startE ["found", "due", "pair"] ds) (osOf Q) := by
  obtain ⟨p, rfl, hl, q⟩ := h
  unfold g__law_is_pack
  have d1 := dep_prs p
  wide_open with [packD, plain_prs, eqD_packs]
  refine ⟨by omega, by omega, ?_⟩
  refine for_all (env := _) prD p ?_ ?_
  · exact q
  · intro x _ N hN
    wide_open with [prD]
    exact hN
def g__law_odd_pair : Sx := s_seq (s_set 2 (e_op ixQ (e_var 1) (e_op modQ (e_var 0) (e_c (.int 8))))) (s_seq (s_set 3 (e_op fdivQ (e_var 0) (e_c (.int 16)))) (s_seq (s_if (t_op (eqQ) (e_op modQ (e_op fdivQ (e_var 0) (e_c (.int 8))) (e_c (.int 2))) (e_c (.int 0))) (s_seq (s_set 4 (e_lst (a_cons (e_op addQ (e_var 2) (e_c (.str "A"))) (a_cons (e_c (.str "")) (a_cons (e_c (.str "not")) (a_cons (e_sm0 upperQ (e_var 2)) (a_cons (e_c (.int 5)) (a_cons (e_c .non) (a_cons (e_c (.bl true)) (a_cons (e_tup (a_cons (e_var 2) (a_nil))) (a_cons (e_lst (a_cons (e_var 2) (a_nil))) (a_cons (e_op addQ (e_var 2) (e_c (.str " "))) (a_cons (e_op addQ (e_var 2) (e_c (.str "\n"))) (a_nil)))))))))))))) (s_ret (e_tup (a_cons (e_op ixQ (e_var 4) (e_op modQ (e_var 3) (e_c (.int 11)))) (a_cons (e_op modQ (e_op fdivQ (e_var 3) (e_c (.int 11))) (e_c (.int 3))) (a_nil)))))) (s_nil)) (s_seq (s_set 5 (e_op addQ (e_op addQ (e_op powQ (e_c (.int 10)) (e_c (.int 30))) (e_c (.int 1))) (e_op modQ (e_op mulAQ (e_op fdivQ (e_var 3) (e_c (.int 9))) (e_c (.int 999983))) (e_op powQ (e_c (.int 10)) (e_c (.int 40)))))) (s_ret (e_tup (a_cons (e_var 2) (a_cons (e_op ixQ (e_lst (a_cons (e_neg (e_c (.int 1))) (a_cons (e_var 5) (a_cons (e_op subQ (e_c (.int 0)) (e_var 5)) (a_cons (e_c (.bl true)) (a_cons (e_c (.bl false)) (a_cons (e_c .non) (a_cons (e_c (.str "1")) (a_cons (e_tup (a_cons (e_c (.int 1)) (a_nil))) (a_cons (e_lst (a_cons (e_c (.int 1)) (a_nil))) (a_nil))))))))))) (e_op modQ (e_var 3) (e_c (.int 9)))) (a_nil))))))))
def C__law_odd_pair : Ct := fun ds Q => ∃ (c : Int) (xs : List Str), ds = [.sc (.int c), .lst (xs.map fun x => .sc (.str x))] ∧ Nm xs ∧ ∀ x y : D, Odd x y → Q (.tup [x, y]) .st
theorem pure__law_odd_pair (ds : List D) (Q : D → Md → Prop) (h : C__law_odd_pair ds Q) : g__law_odd_pair (startE ["number", "names", "name", "more", "some", "great"] ds) (osOf Q) := by
  obtain ⟨c, xs, rfl, hx, q⟩ := h
  have hz := sizeL
  unfold g__law_odd_pair
  obtain ⟨w, ew, mw⟩ := atI_some (xs := xs) (i := c % 8) (Int.emod_nonneg _ (by decide)) (by rw [hx.1]; exact Int.emod_lt_of_pos _ (by decide))
  have ew : atI (xs.map fun x => D.sc (.str x)) (c % 8) = some (.sc (.str w)) := by rw [atI_map, ew]; rfl
  have nw := hx.2 w mw
  have lw := nameB_len nw
  have asc : ∀ n ∈ w.cps.toList, n < 128 := fun n m => by have := letters_asc (nameB_letters nw) n m; omega
  have la : ∀ z : Str, (w ++ z).length = w.length + z.length := fun z => by
    have e := str_toList w z
    rw [← str_len, ← str_len, ← str_len, e, List.length_append]
  have l1 : (Str.ofString "A").length = 1 := by decide +kernel
  have l2 : (Str.ofString " ").length = 1 := by decide +kernel
  have l3 : (Str.ofString "\n").length = 1 := by decide +kernel
  have lu : (upS w).length = w.length := by rw [← str_len, ← str_len]; unfold upS; simp
  have n1 : nameB (w ++ Str.ofString "A") = false := app_no (by decide +kernel)
  have n2 : nameB (w ++ Str.ofString " ") = false := app_no (by decide +kernel)
  have n3 : nameB (w ++ Str.ofString "\n") = false := app_no (by decide +kernel)
  have n4 := upper_no nw
  have n5 : nameB (Str.ofString "") = false := by decide +kernel
  have n6 : nameB (Str.ofString "not") = false := by decide +kernel
  have l4 : (Str.ofString "").length = 0 := by decide +kernel
  have l5 : (Str.ofString "not").length = 3 := by decide +kernel
  wide_open with [ew, upperQ]
  by_cases hc : c / 8 % 2 = 0
  · rw [if_pos hc]
    refine ⟨by omega, asc, by omega, by omega, by omega, ?_⟩
    obtain ⟨d, e, m⟩ := atI_some (xs := [D.sc (V.str (w ++ Str.ofString "A")), D.sc (V.str (Str.ofString "")), D.sc (V.str (Str.ofString "not")), D.sc (V.str (upS w)), D.sc (V.int 5), D.sc V.non, D.sc (V.bl true), D.tup [D.sc (V.str w)], D.lst [D.sc (V.str w)], D.sc (V.str (w ++ Str.ofString " ")), D.sc (V.str (w ++ Str.ofString "\n"))]) (i := c / 16 % 11) (Int.emod_nonneg _ (by decide)) (Int.emod_lt_of_pos _ (by decide))
    refine ⟨d, e, q _ _ ?_⟩
    have st : ∀ z : Str, nameB z = false → z.length ≤ 16777216 → Odd (.sc (.str z)) (.sc (.int (c / 16 / 11 % 3))) := fun z h1 h2 => ⟨⟨rfl, fun z' e => by cases e; exact h2⟩, rfl, .inl h1⟩
    have ot : ∀ x : D, x.ty.isSome = true → (∀ z, x ≠ .sc (.str z)) → isName x = false → Odd x (.sc (.int (c / 16 / 11 % 3))) := fun x h1 h2 h3 => ⟨⟨h1, fun z e => absurd e (h2 z)⟩, rfl, .inl h3⟩
    simp only [List.mem_cons, List.not_mem_nil, or_false] at m
    rcases m with rfl | rfl | rfl | rfl | rfl | rfl | rfl | rfl | rfl | rfl | rfl
    · exact st _ n1 (by rw [la]; omega)
    · exact st _ n5 (by omega)
    · exact st _ n6 (by omega)
    · exact st _ n4 (by omega)
    · exact ot _ rfl (fun z => by intro h; cases h) rfl
    · exact ot _ rfl (fun z => by intro h; cases h) rfl
    · exact ot _ rfl (fun z => by intro h; cases h) rfl
    · exact ot _ rfl (fun z => by intro h; cases h) rfl
    · exact ot _ rfl (fun z => by intro h; cases h) rfl
    · exact st _ n2 (by rw [la]; omega)
    · exact st _ n3 (by rw [la]; omega)
  · rw [if_neg hc]
    refine ⟨.inr (by decide), ?_⟩
    obtain ⟨d, e, m⟩ := atI_some (xs := [D.sc (V.int (-1)), D.sc (V.int (1000000000000000000000000000001 + c / 16 / 9 * 999983 % 10000000000000000000000000000000000000000)), D.sc (V.int (0 - (1000000000000000000000000000001 + c / 16 / 9 * 999983 % 10000000000000000000000000000000000000000))), D.sc (V.bl true), D.sc (V.bl false), D.sc V.non, D.sc (V.str (Str.ofString "1")), D.tup [D.sc (V.int 1)], D.lst [D.sc (V.int 1)]]) (i := c / 16 % 9) (Int.emod_nonneg _ (by decide)) (Int.emod_lt_of_pos _ (by decide))
    refine ⟨d, e, q _ _ ?_⟩
    have hm := Int.emod_nonneg (c / 16 / 9 * 999983) (b := 10000000000000000000000000000000000000000) (by decide)
    generalize c / 16 / 9 * 999983 % 10000000000000000000000000000000000000000 = k at m hm
    have ot : ∀ y : D, y.ty.isSome = true → isDeg y = false → Odd (.sc (.str w)) y := fun y h1 h2 => ⟨⟨rfl, fun z e => by cases e; omega⟩, h1, .inr h2⟩
    have it : ∀ i : Int, ¬ (0 ≤ i ∧ i ≤ 1000000000000000000000000000000) → Odd (.sc (.str w)) (.sc (.int i)) := fun i h => ot _ rfl (decide_eq_false h)
    simp only [List.mem_cons, List.not_mem_nil, or_false] at m
    rcases m with rfl | rfl | rfl | rfl | rfl | rfl | rfl | rfl | rfl
    · exact it _ (by omega)
    · exact it _ (by omega)
    · exact it _ (by omega)
    · exact ot _ rfl rfl
    · exact ot _ rfl rfl
    · exact ot _ rfl rfl
    · exact ot _ rfl rfl
    · exact ot _ rfl rfl
    · exact ot _ rfl rfl
def g__law_refused : Sx := s_seq (s_try EXL "BookError" 1 (fun W => s_expr (e_callX 1 CX_pack W (a_cons (e_var 0) (a_nil)))) (s_seq (s_set 2 (e_lst (a_cons (e_cb (isyQ EXL) (a_cons (e_var 1) (a_cons (e_k (.cls "NoSide")) (a_nil)))) (a_cons (e_cb (isyQ EXL) (a_cons (e_var 1) (a_cons (e_k (.cls "NoReason")) (a_nil)))) (a_nil))))) (s_seq (s_set 2 (e_op addQ (e_var 2) (e_lst (a_cons (e_cb (isyQ EXL) (a_cons (e_var 1) (a_cons (e_k (.cls "TooMuch")) (a_nil)))) (a_cons (e_cb (isyQ EXL) (a_cons (e_var 1) (a_cons (e_k (.cls "NoCourt")) (a_nil)))) (a_nil)))))) (s_seq (s_set 2 (e_op addQ (e_var 2) (e_lst (a_cons (e_cb (isyQ EXL) (a_cons (e_var 1) (a_cons (e_k (.cls "Late")) (a_nil)))) (a_cons (e_cb (isyQ EXL) (a_cons (e_var 1) (a_cons (e_k (.cls "NotAllowed")) (a_nil)))) (a_cons (e_cb (isyQ EXL) (a_cons (e_var 1) (a_cons (e_k (.cls "NoRuling")) (a_nil)))) (a_nil))))))) (s_seq (s_set 2 (e_op addQ (e_var 2) (e_lst (a_cons (e_cb (isyQ EXL) (a_cons (e_var 1) (a_cons (e_k (.cls "NotYours")) (a_nil)))) (a_cons (e_cb (isyQ EXL) (a_cons (e_var 1) (a_cons (e_k (.cls "NoRow")) (a_nil)))) (a_nil)))))) (s_seq (s_set 2 (e_op addQ (e_var 2) (e_lst (a_cons (e_cb (isyQ EXL) (a_cons (e_var 1) (a_cons (e_k (.cls "Twice")) (a_nil)))) (a_cons (e_cb (isyQ EXL) (a_cons (e_var 1) (a_cons (e_k (.cls "Unknown")) (a_nil)))) (a_nil)))))) (s_ret (e_and (e_cb (isyQ EXL) (a_cons (e_var 1) (a_cons (e_k (.cls "NoPack")) (a_nil)))) (e_and (e_cb (isyQ EXL) (a_cons (e_var 1) (a_cons (e_c (.ty "ValueError")) (a_nil)))) (e_op (inQ true) (e_c (.bl true)) (e_var 2))))))))))) (s_ret (e_c (.bl false)))
def C__law_refused : Ct := fun ds Q => ∃ (pre post : List Pr) (x y : D), ds = [.lst (pre.map prD ++ .tup [x, y] :: post.map prD)] ∧ (dgP pre ∧ pre.length ≤ 1000 ∧ Odd x y) ∧ Q (.sc (.bl true)) .st
theorem pure__law_refused (ds : List D) (Q : D → Md → Prop) (h : C__law_refused ds Q) : g__law_refused (startE ["pairs", "e", "some"] ds) (osOf Q) := by
  obtain ⟨pre, post, x, y, rfl, ho, q⟩ := h
  unfold g__law_refused
  wide_open
  refine ⟨pre, post, x, y, rfl, ho, ⟨_, _, _, rfl, inX_NoPack, by decide +kernel⟩, ?_⟩
  wide_open with [xs_NoPack_NoSide]
  exact ⟨by decide, q⟩
def g_law : Sx := s_seq (s_set 1 (e_op addQ (e_var 0) (e_lst (a_cons (e_c (.int 0)) (a_cons (e_c (.int 0)) (a_nil)))))) (s_seq (s_set 2 (e_call 1 C__law_names (a_cons (e_op ixQ (e_var 1) (e_c (.int 0))) (a_nil)))) (s_seq (s_set 3 (e_lst (a_nil))) (s_seq (s_for (i_seq (e_sl (e_var 0) (o_some (e_c (.int 2))) (o_some (e_c (.int 62))))) (g_name 4) (s_seq (s_set 5 (e_op modQ (e_var 4) (e_op powQ (e_c (.int 10)) (e_c (.int 40))))) (s_seq (s_meth 3 appendQ (a_cons (e_tup (a_cons (e_op ixQ (e_var 2) (e_op modQ (e_var 5) (e_c (.int 8)))) (a_cons (e_call 1 C__law_degree (a_cons (e_op fdivQ (e_var 5) (e_c (.int 8))) (a_nil))) (a_nil)))) (a_nil))) (s_wip [4, 5] s_nil)))) (s_wip [4, 5] (s_seq (s_set 6 (e_dnew)) (s_seq (s_frz 3 (s_for (i_seq (e_var 3)) (g_tup 2 (g_cons (g_name 7) (g_cons (g_name 5) (g_nil)))) (s_seq (s_setix 6 (e_var 7) (e_cb (mmQ max) (a_cons (e_get2 (e_var 6) (e_var 7) (e_c (.int 0))) (a_cons (e_var 5) (a_nil))))) (s_wip [5] s_nil)))) (s_wip [5] (s_seq (s_set 8 (e_cb (tupleQ) (a_cons (e_lc (i_seq (e_cb (sortedDQ) (a_cons (e_var 6) (a_nil)))) (g_name 7) (t_op (gtQ) (e_op ixQ (e_var 6) (e_var 7)) (e_c (.int 0))) (e_tup (a_cons (e_var 7) (a_cons (e_op ixQ (e_var 6) (e_var 7)) (a_nil)))) [7]) (a_nil)))) (s_seq (s_set 9 (e_cb (listQ) (a_cons (e_var 3) (a_nil)))) (s_seq (s_if (t_or (t_not (t_of (e_call 2 C__law_is_pack (a_cons (e_call 1 C_pack (a_cons (e_var 9) (a_nil))) (a_cons (e_var 8) (a_nil)))))) (t_op (neQ) (e_var 9) (e_var 3))) (s_ret (e_c (.bl false))) (s_nil)) (s_seq (s_set 10 (e_op modQ (e_op mulAQ (e_op addQ (e_op modQ (e_op ixQ (e_var 1) (e_c (.int 1))) (e_op powQ (e_c (.int 10)) (e_c (.int 15)))) (e_c (.int 3))) (e_c (.int 69621))) (e_c (.int 2147483629)))) (s_seq (s_set 11 (e_op modQ (e_var 10) (e_op addQ (e_cb (lenQ) (a_cons (e_var 3) (a_nil))) (e_c (.int 1))))) (s_seq (s_frz 2 (s_meth 9 insertQ (a_cons (e_var 11) (a_cons (e_call 2 C__law_odd_pair (a_cons (e_op fdivQ (e_var 10) (e_c (.int 61))) (a_cons (e_var 2) (a_nil)))) (a_nil))))) (s_seq (s_if (t_not (t_of (e_call 1 C__law_refused (a_cons (e_var 9) (a_nil))))) (s_ret (e_c (.bl false))) (s_nil)) (s_seq (s_meth 9 popAtQ (a_cons (e_var 11) (a_nil))) (s_ret (e_call 2 C__law_is_pack (a_cons (e_call 1 C_pack (a_cons (e_var 9) (a_nil))) (a_cons (e_var 8) (a_nil))))))))))))))))))))
theorem due_eq {r rs : List Pr} {ys : List Str} (h : IsP r) (hv : ∀ x, valP r x = valP rs x) (hk : KU rs) (hp : ys.Perm (rs.map (·.1))) (hs : sortedS ys = true) : (ys.filter fun y => decide (0 < valP rs y)).map (fun y => (y, valP rs y)) = r := by
  have e1 : (ys.filter fun y => decide (0 < valP rs y)) = r.map (·.1) := by
    refine names_eq ((sorted_all ys hs).filter _) ?_ ((hp.nodup_iff.mpr hk).filter _) h.ku fun x => ?_
    · have k1 : r.Pairwise fun a b => a.1 ≠ b.1 := List.pairwise_map.mp (show (r.map (·.1)).Pairwise (· ≠ ·) from h.ku)
      refine List.pairwise_map.mpr ((List.Pairwise.and (isP_pw h) k1).imp fun {a b} z => leP_key z.1 z.2)
    · rw [List.mem_filter, decide_eq_true_iff, ← hv x, hp.mem_iff]
      refine ⟨fun z => ?_, fun z => ?_⟩
      · by_cases m : x ∈ r.map (·.1)
        · exact m
        · have := valP_out m; omega
      · obtain ⟨p, m, rfl⟩ := List.mem_map.mp z
        have e2 : valP r p.1 = p.2 := valP_mem h.ku m
        have e3 := h.pos p m
        refine ⟨?_, by omega⟩
        by_cases m2 : p.1 ∈ rs.map (·.1)
        · exact m2
        · have := valP_out m2
          have := hv p.1
          omega
  rw [e1, List.map_map]
  have : ∀ p ∈ r, ((fun y => (y, valP rs y)) ∘ fun p : Pr => p.1) p = p := fun p m => by
    have e2 : valP r p.1 = p.2 := valP_mem h.ku m
    show (p.1, valP rs p.1) = p
    rw [← hv, e2]
  rw [List.map_congr_left this, List.map_id']
def C_law : Ct := args1 scriptD fun ns Q => ns.length ≤ 63 ∧ Q (.sc (.bl true)) .st
theorem pure_law (ds : List D) (Q : D → Md → Prop) (h : C_law ds Q) : g_law (startE ["script", "cells", "names", "pairs", "cell", "number", "degrees", "name", "due", "handed", "spoil", "at"] ds) (osOf Q) := by
  obtain ⟨ns, rfl, hn, q⟩ := args1_inv h
  have hz := sizeL
  unfold g_law
  wide_open
  refine ⟨by omega, ?_⟩
  have eL : ns.map (fun c => D.sc (.int c)) ++ [D.sc (.int 0), D.sc (.int 0)] = (ns ++ [0, 0]).map fun c => .sc (.int c) := by rw [List.map_append]; rfl
  rw [eL]
  obtain ⟨c0, e0, _⟩ := atI_some (xs := ns ++ [0, 0]) (i := 0) (by decide) (by rw [List.length_append]; simp; omega)
  obtain ⟨c1, e1, _⟩ := atI_some (xs := ns ++ [0, 0]) (i := 1) (by decide) (by rw [List.length_append]; simp; omega)
  rw [atI_map, e0]
  refine ⟨_, rfl, fun xs h8 hx => ?_⟩
  have e1 : atI ((ns ++ [0, 0]).map fun c => D.sc (.int c)) 1 = some (.sc (.int c1)) := by rw [atI_map, e1]; rfl
  have lC : (cutN ns (some 2) (some 62)).length ≤ 60 := by
    rw [show cutN ns (some 2) (some 62) = (ns.drop 2).take 60 from cutN_mid ns 2 62, List.length_take]
    omega
  generalize cutN ns (some 2) (some 62) = cs at lC
  generalize (ns ++ [0, 0]).map (fun c => D.sc (.int c)) = L at e1
  unfold strsD
  wide_open
  refine for_st (fun i : Int => D.sc (.int i)) cs (fun s : List Pr => [.sh (.lst (ns.map fun c => .sc (.int c))), .ow (.lst L), .ow (.lst (xs.map fun x => .sc (.str x))), .ow (.lst (s.map prD)), .no, .no, .no, .no, .no, .no, .no, .no]) (fun p s => s.length = p.length ∧ dgP s) (s0 := []) ⟨rfl, fun _ z => absurd z List.not_mem_nil⟩ (fun ps hps => ?_) (fun p1 c p2 e ps hps N hN => ?_)
  · obtain ⟨b1, b2⟩ := hps
    wide_open
    refine for_st prD ps (fun s : List Pr × Sl => [.sh (.lst (ns.map fun c => .sc (.int c))), .ow (.lst L), .ow (.lst (xs.map fun x => .sc (.str x))), .sh (.lst (ps.map prD)), .no, .no, .ow (dicSI s.1), s.2, .no, .no, .no, .no]) (fun p s => s.1.length ≤ p.length ∧ dgP s.1 ∧ KU s.1 ∧ ∀ x, valP s.1 x = maxV p x) (s0 := ([], .no)) ⟨Nat.le_refl _, (fun _ z => absurd z List.not_mem_nil), List.nodup_nil, fun _ => rfl⟩ (fun s hs => ?_) (fun p1 p p2 e s hs N hN => ?_)
    · obtain ⟨rs, a⟩ := s
      obtain ⟨d1, d2, d3, d4⟩ := hs
      have lr : rs.length ≤ ps.length := d1
      wide_open with [dicSI]
      refine ⟨rs.map (·.1), by rw [List.map_map]; rfl, by rw [List.length_map]; omega, fun ys hp hs => ?_⟩
      have ly : ys.length ≤ 60 := by rw [hp.length_eq, List.length_map]; omega
      rw [show D.dic (rs.map fun p => .inr p.1) (rs.map fun p => .sc (.int p.2)) = dicSI rs from rfl]
      refine comp_st (fun x : Str => D.sc (.str x)) ys (fun y => decide (0 < valP rs y)) (fun y => prD (y, valP rs y)) (by omega) ?_ fun y1 x0 y2 ex K N hK hN => ?_
      · have eD : ∀ r, IsP r → (∀ x, valP r x = maxV ps x) → (ys.filter fun y => decide (0 < valP rs y)).map (fun y => prD (y, valP rs y)) = r.map prD := fun r h1 h2 => by
          rw [← due_eq h1 (fun x => (h2 x).trans (d4 x).symm) d3 hp hs, List.map_map]
          rfl
        generalize (ys.filter fun y => decide (0 < valP rs y)).map (fun y => prD (y, valP rs y)) = U at eD
        have hp2 := plain_prs ps
        have hd2 := dep_prs ps
        have eqL : eqD (.lst (ps.map prD)) (.lst (ps.map prD)) = true := eqD_self _ (by show D.plain.plainL _ = true; exact hp2)
        have ipk : ∀ r, IsP r → r.length ≤ ps.length → (∀ x, valP r x = maxV ps x) → packD r = .tup U := fun r h1 _ h3 => by rw [eD r h1 h3]; rfl
        obtain ⟨r0, ir0, rl0, rv0⟩ : ∃ r, IsP r ∧ r.length ≤ ps.length ∧ ∀ x, valP r x = maxV ps x := ⟨sortP (posP rs), isP_mk d3, Nat.le_trans pos_len lr, fun x => by rw [sort_val d3 (fun p m => (d2 p m).2.1), d4]⟩
        have eU : D.tup U = packD r0 := (ipk r0 ir0 rl0 rv0).symm
        wide_open
        refine ⟨ps, rfl, b2, by omega, fun r h1 h2 h3 => ⟨by unfold flatR; rw [imm_pack]; rfl, ?_⟩⟩
        refine ⟨r, by rw [ipk r h1 h2 h3], by omega, ?_⟩
        wide_open with [eqL]
        refine ⟨hp2, hp2, by omega, by omega, _, e1, ?_⟩
        wide_open
        refine ⟨.inr (by decide), by omega, ?_⟩
        generalize (c1 % 1000000000000000 + 3) * 69621 % 2147483629 = sp
        have k0 := Int.emod_nonneg sp (b := (ps.length : Int) + 1) (by omega)
        have k1 := Int.emod_lt_of_pos sp (b := (ps.length : Int) + 1) (by omega)
        generalize sp % ((ps.length : Int) + 1) = at' at k0 k1 ⊢
        obtain ⟨k, rfl⟩ := Int.eq_ofNat_of_zero_le k0
        have hk : k ≤ ps.length := by omega
        have lk : ((ps.take k).map prD).length = k := by rw [List.length_map, List.length_take]; omega
        refine ⟨_, xs, rfl, ⟨h8, hx⟩, fun x y hO => ?_⟩
        refine ⟨rfl, by rw [List.length_map]; omega, ⟨by omega, by omega⟩, ?_⟩
        have eI : (ps.map prD).take (Int.toNat (k : Int)) ++ [D.tup [x, y]] ++ (ps.map prD).drop (Int.toNat (k : Int)) = (ps.take k).map prD ++ .tup [x, y] :: (ps.drop k).map prD := by
          rw [Int.toNat_natCast, List.map_take, List.map_drop, List.append_assoc]
          rfl
        rw [eI]
        refine ⟨ps.take k, ps.drop k, x, y, rfl, ⟨fun p m => b2 p (List.mem_of_mem_take m), by rw [List.length_take]; omega, hO⟩, ?_⟩
        wide_open
        refine ⟨k, .tup [x, y], rfl, by omega, by rw [List.getElem?_append_right (by omega), lk, Nat.sub_self]; rfl, ?_⟩
        rw [List.eraseIdx_append_of_length_le (by omega), lk, Nat.sub_self, List.eraseIdx_cons_zero, ← List.map_append, List.take_append_drop]
        refine ⟨ps, rfl, b2, by omega, fun r h1 h2 h3 => ⟨r, by rw [ipk r h1 h2 h3], by omega, ?_⟩⟩
        exact ⟨(fun h => by cases h), q⟩
      · obtain ⟨v, ev⟩ : ∃ v, gVal rs x0 = some v := by
          cases ev : gVal rs x0 with
          | some v => exact ⟨v, rfl⟩
          | none => exact absurd (hp.mem_iff.mp (by rw [ex]; simp)) (gVal_none.mp ev)
        have ew : valP rs x0 = v := by unfold valP; rw [ev]; rfl
        have gx : ∀ Q : D → Md → Prop, ixQ (dicSI rs) (.sc (.str x0)) Q = Q (.sc (.int v)) .st := fun Q => by
          show getQ (dicSI rs) (.sc (.str x0)) (fun o => ∃ z, o = some z ∧ Q z .st) = _
          rw [getQ_SI, ev]
          exact propext ⟨fun ⟨z, h1, h2⟩ => by cases h1; exact h2, fun h => ⟨_, rfl, h⟩⟩
        wide_open with [prD, gx, ew]
        have hK : 0 < valP rs x0 → ∀ md, isBr md = false → K (.tup [.sc (.str x0), .sc (.int v)]) md := fun h md hm => ew ▸ hK (decide_eq_true h) md hm
        by_cases hv : 0 < v
        · rw [if_pos hv]; exact hK (by omega) _ rfl
        · rw [if_neg hv]; exact hN (decide_eq_false (by omega))
    · obtain ⟨rs, a⟩ := s
      obtain ⟨d1, d2, d3, d4⟩ := hs
      have d1 : rs.length ≤ p1.length := d1
      have hle : p1.length + 1 ≤ ps.length := by rw [e, List.length_append, List.length_cons]; omega
      obtain ⟨g1, g2, g3⟩ := b2 p (by rw [e]; simp)
      wide_open with [prD]
      refine ⟨by omega, hN (_, _) ⟨Nat.le_trans put_len (by rw [List.length_append, List.length_singleton]; omega), ?_, put_KU d3 _ _, fun x => ?_⟩⟩
      · have h1 := maxV_nn p1 p.1
        have h2 := d4 p.1
        refine put_dg d2 g1 ?_ ?_
        · show 0 ≤ max (valP rs p.1) p.2
          omega
        · have : valP rs p.1 ≤ 1000000000000000000000000000000 := by
            unfold valP
            cases e : gVal rs p.1 with
            | none => show (0 : Int) ≤ _; omega
            | some m => exact (d2 _ ((gVal_mem d3).mp e)).2.2
          show max (valP rs p.1) p.2 ≤ _
          omega
      · have h1 := maxV_nn p1 x
        have h2 := d4 x
        have h2 : valP rs x = maxV p1 x := h2
        show valP (gPut rs p.1 (max (valP rs p.1) p.2)) x = _
        rw [put_val, maxV_app, h2]
        show _ = max _ (if p.1 = x then max p.2 0 else 0)
        by_cases e : p.1 = x
        · rw [if_pos e.symm, if_pos e, e, h2]; omega
        · rw [if_neg (fun z => e z.symm), if_neg e]; omega
  · obtain ⟨b1, b2⟩ := hps
    have hle : p1.length + 1 ≤ cs.length := by rw [e, List.length_append, List.length_cons]; omega
    have hm := Int.emod_nonneg c (b := 10000000000000000000000000000000000000000) (by decide)
    wide_open
    obtain ⟨w, ew, mw⟩ := atI_some (xs := xs) (i := c % 10000000000000000000000000000000000000000 % 8) (Int.emod_nonneg _ (by decide)) (by rw [h8]; exact Int.emod_lt_of_pos _ (by decide))
    rw [atI_map, ew]
    refine ⟨_, rfl, by omega, fun m h0 h1 => ⟨by omega, ?_⟩⟩
    rw [show ps.map prD ++ [.tup [.sc (.str w), .sc (.int m)]] = (ps ++ [(w, m)]).map prD by rw [List.map_append]; rfl]
    refine hN (ps ++ [(w, m)]) ⟨by rw [List.length_append, List.length_append, b1]; rfl, fun p z => ?_⟩
    rcases List.mem_append.mp z with z | z
    · exact b2 p z
    · rw [List.mem_singleton.mp z]
      exact ⟨hx w mw, h0, h1⟩
theorem law_true (ns : List Int) (hl : ns.length ≤ 63) (hb : ∀ z ∈ ns, Builtin.Int.intBits z ≤ 1048576) : C_law [scriptD ns] fun d _ => d = .sc (.bl true) := ⟨ns, rfl, hl, rfl⟩
end P.A
set_option maxHeartbeats 0
namespace P.A
open P
open PySem PySem.Spec PyProof.Rows L2
def topS (i : Nat) : Stmt := PySem.Challenge.pw_likebook_k02_a_pack_made.main.body.getD i (.Pass ⟨0, 0, 0, 0⟩)
abbrev st_is_name : Stmt := topS 19
abbrev N_is_name : List Str := ["thing", "sign"]
theorem sc_is_name : FnScope N_is_name ["thing"] (defScope st_is_name) := ⟨rfl, rfl, rfl, by decide +kernel, rfl, by decide +kernel, by decide +kernel⟩
abbrev st_is_degree : Stmt := topS 20
abbrev N_is_degree : List Str := ["thing"]
theorem sc_is_degree : FnScope N_is_degree ["thing"] (defScope st_is_degree) := ⟨rfl, rfl, rfl, by decide +kernel, rfl, by decide +kernel, by decide +kernel⟩
abbrev st_sorted_pack : Stmt := topS 21
abbrev N_sorted_pack : List Str := ["degrees", "name", "number"]
theorem sc_sorted_pack : FnScope N_sorted_pack ["degrees"] (defScope st_sorted_pack) := ⟨rfl, rfl, rfl, by decide +kernel, rfl, by decide +kernel, by decide +kernel⟩
abbrev st_pack : Stmt := topS 22
abbrev N_pack : List Str := ["pairs", "degrees", "name", "number"]
theorem sc_pack : FnScope N_pack ["pairs"] (defScope st_pack) := ⟨rfl, rfl, rfl, by decide +kernel, rfl, by decide +kernel, by decide +kernel⟩
abbrev st__law_good_name : Stmt := topS 24
abbrev N__law_good_name : List Str := ["word"]
theorem sc__law_good_name : FnScope N__law_good_name ["word"] (defScope st__law_good_name) := ⟨rfl, rfl, rfl, by decide +kernel, rfl, by decide +kernel, by decide +kernel⟩
abbrev st__law_free_names : Stmt := topS 25
abbrev N__law_free_names : List Str := ["cell", "letters", "names", "k", "many", "word", "j", "name"]
theorem sc__law_free_names : FnScope N__law_free_names ["cell"] (defScope st__law_free_names) := ⟨rfl, rfl, rfl, by decide +kernel, rfl, by decide +kernel, by decide +kernel⟩
abbrev st__law_names : Stmt := topS 26
abbrev N__law_names : List Str := ["cell", "letters", "number", "many", "k", "stem", "at", "names", "sign", "more", "name"]
theorem sc__law_names : FnScope N__law_names ["cell"] (defScope st__law_names) := ⟨rfl, rfl, rfl, by decide +kernel, rfl, by decide +kernel, by decide +kernel⟩
abbrev st__law_degree : Stmt := topS 27
abbrev N__law_degree : List Str := ["number", "kind", "more"]
theorem sc__law_degree : FnScope N__law_degree ["number"] (defScope st__law_degree) := ⟨rfl, rfl, rfl, by decide +kernel, rfl, by decide +kernel, by decide +kernel⟩
abbrev st__law_is_pack : Stmt := topS 28
abbrev N__law_is_pack : List Str := ["found", "due", "pair"]
theorem sc__law_is_pack : FnScope N__law_is_pack ["found", "due"] (defScope st__law_is_pack) := ⟨rfl, rfl, rfl, by decide +kernel, rfl, by decide +kernel, by decide +kernel⟩
abbrev st__law_odd_pair : Stmt := topS 29
abbrev N__law_odd_pair : List Str := ["number", "names", "name", "more", "some", "great"]
theorem sc__law_odd_pair : FnScope N__law_odd_pair ["number", "names"] (defScope st__law_odd_pair) := ⟨rfl, rfl, rfl, by decide +kernel, rfl, by decide +kernel, by decide +kernel⟩
abbrev st__law_refused : Stmt := topS 30
abbrev N__law_refused : List Str := ["pairs", "e", "some"]
theorem sc__law_refused : FnScope N__law_refused ["pairs"] (defScope st__law_refused) := ⟨rfl, rfl, rfl, by decide +kernel, rfl, by decide +kernel, by decide +kernel⟩
abbrev st_law : Stmt := topS 31
abbrev N_law : List Str := ["script", "cells", "names", "pairs", "cell", "number", "degrees", "name", "due", "handed", "spoil", "at"]
theorem sc_law : FnScope N_law ["script"] (defScope st_law) := ⟨rfl, rfl, rfl, by decide +kernel, rfl, by decide +kernel, by decide +kernel⟩
/-- what the top has left -/
structure Txt (K : PySem.W.Frag) (mg : Str → Option Value) where
  f_is_name : Addr
  d_is_name : FuncData
  F_is_name : FunD K "is_name" "is_name" (defArgs st_is_name) (defBody st_is_name) (defScope st_is_name) [] [] f_is_name d_is_name
  g_is_name : mg "is_name" = some (.ref f_is_name)
  f_is_degree : Addr
  d_is_degree : FuncData
  F_is_degree : FunD K "is_degree" "is_degree" (defArgs st_is_degree) (defBody st_is_degree) (defScope st_is_degree) [] [] f_is_degree d_is_degree
  g_is_degree : mg "is_degree" = some (.ref f_is_degree)
  f_sorted_pack : Addr
  d_sorted_pack : FuncData
  F_sorted_pack : FunD K "sorted_pack" "sorted_pack" (defArgs st_sorted_pack) (defBody st_sorted_pack) (defScope st_sorted_pack) [] [] f_sorted_pack d_sorted_pack
  g_sorted_pack : mg "sorted_pack" = some (.ref f_sorted_pack)
  f_pack : Addr
  d_pack : FuncData
  F_pack : FunD K "pack" "pack" (defArgs st_pack) (defBody st_pack) (defScope st_pack) [] [] f_pack d_pack
  g_pack : mg "pack" = some (.ref f_pack)
  f__law_good_name : Addr
  d__law_good_name : FuncData
  F__law_good_name : FunD K "_law_good_name" "_law_good_name" (defArgs st__law_good_name) (defBody st__law_good_name) (defScope st__law_good_name) [] [] f__law_good_name d__law_good_name
  g__law_good_name : mg "_law_good_name" = some (.ref f__law_good_name)
  f__law_free_names : Addr
  d__law_free_names : FuncData
  F__law_free_names : FunD K "_law_free_names" "_law_free_names" (defArgs st__law_free_names) (defBody st__law_free_names) (defScope st__law_free_names) [] [] f__law_free_names d__law_free_names
  g__law_free_names : mg "_law_free_names" = some (.ref f__law_free_names)
  f__law_names : Addr
  d__law_names : FuncData
  F__law_names : FunD K "_law_names" "_law_names" (defArgs st__law_names) (defBody st__law_names) (defScope st__law_names) [] [] f__law_names d__law_names
  g__law_names : mg "_law_names" = some (.ref f__law_names)
  f__law_degree : Addr
  d__law_degree : FuncData
  F__law_degree : FunD K "_law_degree" "_law_degree" (defArgs st__law_degree) (defBody st__law_degree) (defScope st__law_degree) [] [] f__law_degree d__law_degree
  g__law_degree : mg "_law_degree" = some (.ref f__law_degree)
  f__law_is_pack : Addr
  d__law_is_pack : FuncData
  F__law_is_pack : FunD K "_law_is_pack" "_law_is_pack" (defArgs st__law_is_pack) (defBody st__law_is_pack) (defScope st__law_is_pack) [] [] f__law_is_pack d__law_is_pack
  g__law_is_pack : mg "_law_is_pack" = some (.ref f__law_is_pack)
  f__law_odd_pair : Addr
  d__law_odd_pair : FuncData
  F__law_odd_pair : FunD K "_law_odd_pair" "_law_odd_pair" (defArgs st__law_odd_pair) (defBody st__law_odd_pair) (defScope st__law_odd_pair) [] [] f__law_odd_pair d__law_odd_pair
  g__law_odd_pair : mg "_law_odd_pair" = some (.ref f__law_odd_pair)
  f__law_refused : Addr
  d__law_refused : FuncData
  F__law_refused : FunD K "_law_refused" "_law_refused" (defArgs st__law_refused) (defBody st__law_refused) (defScope st__law_refused) [] [] f__law_refused d__law_refused
  g__law_refused : mg "_law_refused" = some (.ref f__law_refused)
  f_law : Addr
  d_law : FuncData
  F_law : FunD K "law" "law" (defArgs st_law) (defBody st_law) (defScope st_law) [] [] f_law d_law
  g_law : mg "law" = some (.ref f_law)
  m_ValueError : mg "ValueError" = none
  m_bool : mg "bool" = none
  m_int : mg "int" = none
  m_isinstance : mg "isinstance" = none
  m_len : mg "len" = none
  m_list : mg "list" = none
  m_max : mg "max" = none
  m_range : mg "range" = none
  m_sorted : mg "sorted" = none
  m_str : mg "str" = none
  m_tuple : mg "tuple" = none
  k_KEPT_WORDS : GlobK K mg "KEPT_WORDS" k_KEPT_WORDS
  k_LETTERS : GlobK K mg "LETTERS" k_LETTERS
  k_LONGEST : GlobK K mg "LONGEST" k_LONGEST
  k_TOP : GlobK K mg "TOP" k_TOP
  k_BookError : GlobK K mg "BookError" (.cls "BookError")
  k_Late : GlobK K mg "Late" (.cls "Late")
  k_NoCourt : GlobK K mg "NoCourt" (.cls "NoCourt")
  k_NoPack : GlobK K mg "NoPack" (.cls "NoPack")
  k_NoReason : GlobK K mg "NoReason" (.cls "NoReason")
  k_NoRow : GlobK K mg "NoRow" (.cls "NoRow")
  k_NoRuling : GlobK K mg "NoRuling" (.cls "NoRuling")
  k_NoSide : GlobK K mg "NoSide" (.cls "NoSide")
  k_NotAllowed : GlobK K mg "NotAllowed" (.cls "NotAllowed")
  k_NotYours : GlobK K mg "NotYours" (.cls "NotYours")
  k_TooMuch : GlobK K mg "TooMuch" (.cls "TooMuch")
  k_Twice : GlobK K mg "Twice" (.cls "Twice")
  k_Unknown : GlobK K mg "Unknown" (.cls "Unknown")
  exc : exOK K EXL = true
  own_NoPack : exOwn K "NoPack" = true
variable {P : Program} {w : World} {K : PySem.W.Frag} {mg : Str → Option Value} {base : Heap}
theorem b_is_name (T : Txt K mg) : Binds K T.d_is_name ["thing"] [] := T.F_is_name.bindsN fun _ _ _ _ _ _ us hl => match us, hl with | [_], _ => rfl
theorem ok_is_name (T : Txt K mg) : FnOk P w K mg base CX0 1 T.f_is_name T.d_is_name ["thing"] (spP K Φ0 hΦ0 1 C_is_name) := by
  refine fnD T.F_is_name sc_is_name fun cdv A outer s H R Ao E hr => ?_
  have hu := hu_of hr
  have hu64 := hr.units
  have hu65 := hu65_of hr
  have nd := sc_is_name.nd
  exact ⟨g_is_name, p_cons (p_if (PW.pt (p_tor (p_tnot (p_tval rfl (p_cb call_isi (CalL.isi rfl) (by rfl) T.m_isinstance PyProof.Rows.boot_isinstance (p_acons (p_var 0) (p_acons (p_ty (by rfl) T.m_str PyProof.Rows.boot_str) (p_anil)))))) (p_tor (p_tnot (p_tchain (op_leA) (OpL.cmp) (op_leA) (OpL.cmp) (p_int) (p_cb call_lenA (CalL.len rfl) (by rfl) T.m_len PySem.boot_len (p_acons (p_var 0) (p_anil))) (p_glob rfl (by rfl) T.k_LONGEST))) (p_tor1 (p_tcmp (op_inA hu65) (OpL.inn rfl) (by rfl) (p_var 0) (p_glob rfl (by rfl) T.k_KEPT_WORDS)))))) (p_one (p_ret (p_bl))) (p_nil)) (p_cons (p_frz 0 (p_for (vs := [1]) PassesOwn.never rfl (p_iseq rfl (p_var 0)) (fun _ => p_gname (i := 1) (vs := [1]) nd rfl (.inl rfl)) (fun _ => p_one (p_if (p_tcmp (op_notinA hu65) (OpL.inn rfl) (by rfl) (p_var 1) (p_glob rfl (by rfl) T.k_LETTERS)) (p_one (p_ret (p_bl))) (p_nil))))) (p_one (p_ret (p_bl)))), pure_is_name⟩
theorem b_is_degree (T : Txt K mg) : Binds K T.d_is_degree ["thing"] [] := T.F_is_degree.bindsN fun _ _ _ _ _ _ us hl => match us, hl with | [_], _ => rfl
theorem ok_is_degree (T : Txt K mg) : FnOk P w K mg base CX0 1 T.f_is_degree T.d_is_degree ["thing"] (spP K Φ0 hΦ0 1 C_is_degree) := by
  refine fnD T.F_is_degree sc_is_degree fun cdv A outer s H R Ao E hr => ?_
  have hu := hu_of hr
  have hu64 := hr.units
  have hu65 := hu65_of hr
  have nd := sc_is_degree.nd
  exact ⟨g_is_degree, p_one (p_ret (p_eand (p_cb call_isi (CalL.isi rfl) (by rfl) T.m_isinstance PyProof.Rows.boot_isinstance (p_acons (p_var 0) (p_acons (p_ty (by rfl) T.m_int PyProof.Rows.boot_int) (p_anil)))) (p_eand (p_enot (p_cb call_isi (CalL.isi rfl) (by rfl) T.m_isinstance PyProof.Rows.boot_isinstance (p_acons (p_var 0) (p_acons (p_ty (by rfl) T.m_bool PyProof.Rows.boot_bool) (p_anil))))) (p_eone (p_chain (op_leA) (OpL.cmp) (op_leA) (OpL.cmp) (p_int) (p_var 0) (p_glob rfl (by rfl) T.k_TOP)))))), pure_is_degree⟩
theorem b_sorted_pack (T : Txt K mg) : Binds K T.d_sorted_pack ["degrees"] [] := T.F_sorted_pack.bindsN fun _ _ _ _ _ _ us hl => match us, hl with | [_], _ => rfl
theorem ok_sorted_pack (T : Txt K mg) : FnOk P w K mg base CX0 1 T.f_sorted_pack T.d_sorted_pack ["degrees"] (spP K Φ0 hΦ0 1 C_sorted_pack) := by
  refine fnD T.F_sorted_pack sc_sorted_pack fun cdv A outer s H R Ao E hr => ?_
  have hu := hu_of hr
  have hu64 := hr.units
  have hu65 := hu65_of hr
  have nd := sc_sorted_pack.nd
  exact ⟨g_sorted_pack, p_one (p_ret (p_ct call_tupleA (CalL.tuple rfl) (by rfl) T.m_tuple PyProof.Rows.boot_tuple (p_acons (p_cb (call_sortD hu64) (CalL.sorted rfl) (by rfl) T.m_sorted PyProof.Rows.boot_sorted (p_acons (p_lcD (own := [("name", 1), ("number", 2)]) items_conv rfl nd (pi_items (pv 0)) (blkOk_by (by kernel_rfl)) (fun _ _ _ _ _ _ _ => p_gtup rfl rfl (p_gcons (p_gname (i := 1) (vs := [1, 2]) nd rfl (.inl rfl)) (p_gcons (p_gname (i := 2) (vs := [1, 2]) nd rfl (.inl rfl)) (p_gnil)))) (fun _ _ _ _ _ _ _ => p_tsone (p_tcmp (op_gtA) (OpL.cmp) (nomark _) (p_var 2) (p_int))) (fun _ _ _ _ _ _ _ => p_etup (p_acons (p_var 1) (p_acons (p_var 2) (p_anil))))) (p_anil))) (p_anil)))), pure_sorted_pack⟩
theorem b__law_good_name (T : Txt K mg) : Binds K T.d__law_good_name ["word"] [] := T.F__law_good_name.bindsN fun _ _ _ _ _ _ us hl => match us, hl with | [_], _ => rfl
theorem ok__law_good_name (T : Txt K mg) : FnOk P w K mg base CX0 1 T.f__law_good_name T.d__law_good_name ["word"] (spP K Φ0 hΦ0 1 C__law_good_name) := by
  refine fnD T.F__law_good_name sc__law_good_name fun cdv A outer s H R Ao E hr => ?_
  have hu := hu_of hr
  have hu64 := hr.units
  have hu65 := hu65_of hr
  have nd := sc__law_good_name.nd
  exact ⟨g__law_good_name, p_cons (p_if (p_tcmp (op_inA hu65) (OpL.inn rfl) (by rfl) (p_var 0) (p_elst (p_acons (p_str) (p_acons (p_str) (p_acons (p_str) (p_acons (p_str) (p_acons (p_str) (p_acons (p_str) (p_acons (p_str) (p_acons (p_str) (p_acons (p_str) (p_anil)))))))))))) (p_one (p_ret (p_op op_addA (OpL.add rfl) (p_var 0) (p_str)))) (p_nil)) (p_one (p_retv 0)), pure__law_good_name⟩
theorem b__law_degree (T : Txt K mg) : Binds K T.d__law_degree ["number"] [] := T.F__law_degree.bindsN fun _ _ _ _ _ _ us hl => match us, hl with | [_], _ => rfl
theorem ok__law_degree (T : Txt K mg) : FnOk P w K mg base CX0 1 T.f__law_degree T.d__law_degree ["number"] (spP K Φ0 hΦ0 1 C__law_degree) := by
  refine fnD T.F__law_degree sc__law_degree fun cdv A outer s H R Ao E hr => ?_
  have hu := hu_of hr
  have hu64 := hr.units
  have hu65 := hu65_of hr
  have nd := sc__law_degree.nd
  exact ⟨g__law_degree, p_cons (p_set (i := 1) nd rfl (.inl rfl) (p_op op_mod OpL.mod (p_var 0) (p_int))) (p_cons (p_set (i := 2) nd rfl (.inl rfl) (p_op op_fdivW OpL.fdiv (p_var 0) (p_int))) (p_cons (p_if (p_tcmp (op_ltA) (OpL.cmp) (nomark _) (p_var 1) (p_int)) (p_one (p_retv 1)) (p_nil)) (p_cons (p_if (p_tcmp (op_eqA hu64) (OpL.eq rfl) (nomark _) (p_var 1) (p_int)) (p_one (p_ret (p_op op_addA (OpL.add rfl) (p_int) (p_op op_mod OpL.mod (p_var 2) (p_int))))) (p_nil)) (p_cons (p_if (p_tcmp (op_eqA hu64) (OpL.eq rfl) (nomark _) (p_var 1) (p_int)) (p_one (p_ret (p_op op_subA OpL.sub (p_op op_pow OpL.pow (p_int) (p_int)) (p_op op_mod OpL.mod (p_var 2) (p_int))))) (p_nil)) (p_one (p_ret (p_op op_mod OpL.mod (p_var 2) (p_op op_addA (OpL.add rfl) (p_op op_pow OpL.pow (p_int) (p_int)) (p_int))))))))), pure__law_degree⟩
theorem b__law_is_pack (T : Txt K mg) : Binds K T.d__law_is_pack ["found", "due"] [] := T.F__law_is_pack.bindsN fun _ _ _ _ _ _ us hl => match us, hl with | [_, _], _ => rfl
theorem ok__law_is_pack (T : Txt K mg) : FnOk P w K mg base CX0 1 T.f__law_is_pack T.d__law_is_pack ["found", "due"] (spP K Φ0 hΦ0 2 C__law_is_pack) := by
  refine fnD T.F__law_is_pack sc__law_is_pack fun cdv A outer s H R Ao E hr => ?_
  have hu := hu_of hr
  have hu64 := hr.units
  have hu65 := hu65_of hr
  have nd := sc__law_is_pack.nd
  exact ⟨g__law_is_pack, p_cons (p_if (PW.pt (p_tor (p_tnot (p_tval rfl (p_cb call_isi (CalL.isi rfl) (by rfl) T.m_isinstance PyProof.Rows.boot_isinstance (p_acons (p_var 0) (p_acons (p_ty (by rfl) T.m_tuple PyProof.Rows.boot_tuple) (p_anil)))))) (p_tor1 (p_tcmp (op_neA hu64) (OpL.ne rfl) (nomark _) (p_var 0) (p_var 1))))) (p_one (p_ret (p_bl))) (p_nil)) (p_cons (p_frz 0 (p_for (vs := [2]) PassesOwn.never rfl (p_iseq rfl (p_var 0)) (fun _ => p_gname (i := 2) (vs := [2]) nd rfl (.inl rfl)) (fun _ => p_cons (p_if (PW.pt (p_tor (p_tnot (p_tval rfl (p_cb call_isi (CalL.isi rfl) (by rfl) T.m_isinstance PyProof.Rows.boot_isinstance (p_acons (p_var 2) (p_acons (p_ty (by rfl) T.m_tuple PyProof.Rows.boot_tuple) (p_anil)))))) (p_tor (p_tnot (p_tval rfl (p_cb call_isi (CalL.isi rfl) (by rfl) T.m_isinstance PyProof.Rows.boot_isinstance (p_acons (p_ix rfl hu (p_var 2) (p_int) (fun _ _ => rfl)) (p_acons (p_ty (by rfl) T.m_int PyProof.Rows.boot_int) (p_anil)))))) (p_tor1 (p_tval rfl (p_cb call_isi (CalL.isi rfl) (by rfl) T.m_isinstance PyProof.Rows.boot_isinstance (p_acons (p_ix rfl hu (p_var 2) (p_int) (fun _ _ => rfl)) (p_acons (p_ty (by rfl) T.m_bool PyProof.Rows.boot_bool) (p_anil))))))))) (p_one (p_ret (p_bl))) (p_nil)) (p_wips [2] p_nil)))) (p_wips [2] (p_one (p_ret (p_bl))))), pure__law_is_pack⟩
theorem b__law_odd_pair (T : Txt K mg) : Binds K T.d__law_odd_pair ["number", "names"] [] := T.F__law_odd_pair.bindsN fun _ _ _ _ _ _ us hl => match us, hl with | [_, _], _ => rfl
theorem ok__law_odd_pair (T : Txt K mg) : FnOk P w K mg base CX0 1 T.f__law_odd_pair T.d__law_odd_pair ["number", "names"] (spP K Φ0 hΦ0 2 C__law_odd_pair) := by
  refine fnD T.F__law_odd_pair sc__law_odd_pair fun cdv A outer s H R Ao E hr => ?_
  have hu := hu_of hr
  have hu64 := hr.units
  have hu65 := hu65_of hr
  have nd := sc__law_odd_pair.nd
  exact ⟨g__law_odd_pair, p_cons (p_set (i := 2) nd rfl (.inl rfl) (p_ix rfl hu (p_var 1) (p_op op_mod OpL.mod (p_var 0) (p_int)) (fun _ _ => rfl))) (p_cons (p_set (i := 3) nd rfl (.inl rfl) (p_op op_fdivW OpL.fdiv (p_var 0) (p_int))) (p_cons (p_if (p_tcmp (op_eqA hu64) (OpL.eq rfl) (nomark _) (p_op op_mod OpL.mod (p_op op_fdivW OpL.fdiv (p_var 0) (p_int)) (p_int)) (p_int)) (p_cons (p_set (i := 4) nd rfl (.inl rfl) (p_elst (p_acons (p_op op_addA (OpL.add rfl) (p_var 2) (p_str)) (p_acons (p_str) (p_acons (p_str) (p_acons (p_sm0 PySem.F.slot_str_upper PySem.F.type_str_upper mt_upperA SmL0.upper (p_var 2)) (p_acons (p_int) (p_acons (p_non) (p_acons (p_bl) (p_acons (p_etup (p_acons (p_var 2) (p_anil))) (p_acons (p_elst (p_acons (p_var 2) (p_anil))) (p_acons (p_op op_addA (OpL.add rfl) (p_var 2) (p_str)) (p_acons (p_op op_addA (OpL.add rfl) (p_var 2) (p_str)) (p_anil)))))))))))))) (p_one (p_ret (p_etup (p_acons (p_ix rfl hu (p_var 4) (p_op op_mod OpL.mod (p_var 3) (p_int)) (fun _ _ => rfl)) (p_acons (p_op op_mod OpL.mod (p_op op_fdivW OpL.fdiv (p_var 3) (p_int)) (p_int)) (p_anil))))))) (p_nil)) (p_cons (p_set (i := 5) nd rfl (.inl rfl) (p_op op_addA (OpL.add rfl) (p_op op_addA (OpL.add rfl) (p_op op_pow OpL.pow (p_int) (p_int)) (p_int)) (p_op op_mod OpL.mod (p_op op_mulAA OpL.mulA (p_op op_fdivW OpL.fdiv (p_var 3) (p_int)) (p_int)) (p_op op_pow OpL.pow (p_int) (p_int))))) (p_one (p_ret (p_etup (p_acons (p_var 2) (p_acons (p_ix rfl hu (p_elst (p_acons (p_neg (p_int)) (p_acons (p_var 5) (p_acons (p_op op_subA OpL.sub (p_int) (p_var 5)) (p_acons (p_bl) (p_acons (p_bl) (p_acons (p_non) (p_acons (p_str) (p_acons (p_etup (p_acons (p_int) (p_anil))) (p_acons (p_elst (p_acons (p_int) (p_anil))) (p_anil))))))))))) (p_op op_mod OpL.mod (p_var 3) (p_int)) (fun _ _ => rfl)) (p_anil))))))))), pure__law_odd_pair⟩
theorem b_pack (T : Txt K mg) : Binds K T.d_pack ["pairs"] [] := T.F_pack.bindsN fun _ _ _ _ _ _ us hl => match us, hl with | [_], _ => rfl
theorem ok_pack (T : Txt K mg) : FnOk P w K mg base CX0 2 T.f_pack T.d_pack ["pairs"] (spP K Φ0 hΦ0 1 C_pack) := by
  refine fnD T.F_pack sc_pack fun cdv A outer s H R Ao E hr => ?_
  have hu := hu_of hr
  have hu64 := hr.units
  have hu65 := hu65_of hr
  have nd := sc_pack.nd
  exact ⟨g_pack, p_cons (p_set (i := 1) nd rfl (.inl rfl) (p_dnew)) (p_cons (p_frz 0 (p_for (vs := [2, 3]) PassesOwn.never rfl (p_iseq rfl (p_var 0)) (fun _ => p_gtup rfl rfl (p_gcons (p_gname (i := 2) (vs := [2, 3]) nd rfl (.inl rfl)) (p_gcons (p_gname (i := 3) (vs := [2, 3]) nd rfl (.inl rfl)) (p_gnil)))) (fun _ => p_cons (p_if (PW.pt (p_tor (p_tnot (p_tval rfl (p_call rfl (ok_is_name T) (hr.mono (by decide)) (by rfl) T.g_is_name T.F_is_name.kp (b_is_name T) (p_acons (p_var 2) (p_anil))))) (p_tor1 (p_tnot (p_tval rfl (p_call rfl (ok_is_degree T) (hr.mono (by decide)) (by rfl) T.g_is_degree T.F_is_degree.kp (b_is_degree T) (p_acons (p_var 3) (p_anil)))))))) (p_one (p_never)) (p_nil)) (p_one (p_setix hu (pv 1) (p_var 2) (p_cb (call_max2A rfl) CalL.mm (by rfl) T.m_max PyProof.Rows.boot_max (p_acons (p_var 3) (p_acons (p_get2 hu (p_var 1) (p_var 2) (p_int) ⟨rfl, rfl, rfl, rfl⟩) (p_anil))))))))) (p_one (p_ret (p_call rfl (ok_sorted_pack T) (hr.mono (by decide)) (by rfl) T.g_sorted_pack T.F_sorted_pack.kp (b_sorted_pack T) (p_acons (p_var 1) (p_anil)))))), pure_pack⟩
theorem okX_pack (T : Txt K mg) : FnOk P w K mg base (L2.CX P w) 2 T.f_pack T.d_pack ["pairs"] (spX K Φ0 hΦ0 1 CX_pack) := by
  refine fnX T.F_pack sc_pack fun cdv A outer s H R Ao E hr => ?_
  have hu := hu_of hr
  have hu64 := hr.units
  have hu65 := hu65_of hr
  have nd := sc_pack.nd
  exact ⟨gX_pack, fun W tk => p_cons (p_set (i := 1) nd rfl (.inl rfl) (p_dnew)) (p_cons (p_frz 0 (p_for (vs := [2, 3]) PassesOwn.leaving rfl (p_iseq rfl (p_var 0)) (fun _ => p_gtup rfl rfl (p_gcons (p_gname (i := 2) (vs := [2, 3]) nd rfl (.inl rfl)) (p_gcons (p_gname (i := 3) (vs := [2, 3]) nd rfl (.inl rfl)) (p_gnil)))) (fun _ => p_cons (p_if (PW.pt (p_tor (p_tnot (p_tval rfl (p_call rfl (ok_is_name T) (hr.mono (by decide)) (by rfl) T.g_is_name T.F_is_name.kp (b_is_name T) (p_acons (p_var 2) (p_anil))))) (p_tor1 (p_tnot (p_tval rfl (p_call rfl (ok_is_degree T) (hr.mono (by decide)) (by rfl) T.g_is_degree T.F_is_degree.kp (b_is_degree T) (p_acons (p_var 3) (p_anil)))))))) (p_one (p_raise rfl rfl (takes_pin tk) T.exc (by decide) T.own_NoPack (by rfl) T.k_NoPack)) (p_nil)) (p_one (p_setix hu (pv 1) (p_var 2) (p_cb (call_max2A rfl) CalL.mm (by rfl) T.m_max PyProof.Rows.boot_max (p_acons (p_var 3) (p_acons (p_get2 hu (p_var 1) (p_var 2) (p_int) ⟨rfl, rfl, rfl, rfl⟩) (p_anil))))))))) (p_one (p_ret (p_call rfl (ok_sorted_pack T) (hr.mono (by decide)) (by rfl) T.g_sorted_pack T.F_sorted_pack.kp (b_sorted_pack T) (p_acons (p_var 1) (p_anil)))))), pureX_pack⟩
theorem b__law_free_names (T : Txt K mg) : Binds K T.d__law_free_names ["cell"] [] := T.F__law_free_names.bindsN fun _ _ _ _ _ _ us hl => match us, hl with | [_], _ => rfl
theorem ok__law_free_names (T : Txt K mg) : FnOk P w K mg base CX0 2 T.f__law_free_names T.d__law_free_names ["cell"] (spP K Φ0 hΦ0 1 C__law_free_names) := by
  refine fnD T.F__law_free_names sc__law_free_names fun cdv A outer s H R Ao E hr => ?_
  have hu := hu_of hr
  have hu64 := hr.units
  have hu65 := hu65_of hr
  have nd := sc__law_free_names.nd
  exact ⟨g__law_free_names, p_cons (p_set (i := 1) nd rfl (.inr rfl) (p_str)) (p_cons (p_set (i := 2) nd rfl (.inl rfl) (p_elst (p_anil))) (p_cons (p_for (vs := [3]) PassesOwn.never rfl (p_rng1 (by rfl) T.m_range (p_acons (p_int) (p_anil))) (fun _ => p_gname (i := 3) (vs := [3]) nd rfl (.inl rfl)) (fun _ => p_cons (p_set (i := 4) nd rfl (.inl rfl) (p_op op_addA (OpL.add rfl) (p_int) (p_op op_mod OpL.mod (p_var 0) (p_int)))) (p_cons (p_set (i := 0) nd rfl (.inr rfl) (p_op op_fdivW OpL.fdiv (p_var 0) (p_int))) (p_cons (p_set (i := 5) nd rfl (.inl rfl) (p_str)) (p_cons (p_for (vs := [6]) PassesOwn.never rfl (p_rng1 (by rfl) T.m_range (p_acons (p_var 4) (p_anil))) (fun _ => p_gname (i := 6) (vs := [6]) nd rfl (.inl rfl)) (fun _ => p_cons (p_set (i := 5) nd rfl (.inl rfl) (p_op op_addA (OpL.add rfl) (p_var 5) (p_ix rfl hu (p_var 1) (p_op op_mod OpL.mod (p_var 0) (p_int)) (fun _ _ => rfl)))) (p_one (p_set (i := 0) nd rfl (.inr rfl) (p_op op_fdivW OpL.fdiv (p_var 0) (p_int)))))) (p_one (p_meth (i := 2) PySem.F.slot_list_append PySem.F.type_list_append mt_append MutL.append (pv 2) (p_acons (p_var 5) (p_anil))))))))) (p_cons (p_set (i := 2) nd rfl (.inl rfl) (p_op op_addA (OpL.add rfl) (p_var 2) (p_lc (own := [("name", 7)]) rfl nd (p_iseq rfl (p_var 2)) (blkOk_by (by kernel_rfl)) (fun _ _ _ _ _ => p_gname (i := 7) (vs := [7]) nd rfl (.inl rfl)) (fun _ _ _ _ _ => p_tyes) (fun _ _ _ _ _ => p_sl rfl (p_op op_addA (OpL.add rfl) (p_var 7) (p_ix rfl hu (p_var 1) (p_op op_mod OpL.mod (p_var 0) (p_int)) (fun _ _ => rfl))) (p_onone) (p_osome (p_int)))))) (p_one (p_ret (p_lc (own := [("name", 7)]) rfl nd (p_iseq rfl (p_var 2)) (blkOk_by (by kernel_rfl)) (fun _ _ _ _ _ => p_gname (i := 7) (vs := [7]) nd rfl (.inl rfl)) (fun _ _ _ _ _ => p_tyes) (fun _ _ _ _ _ => p_call rfl (ok__law_good_name T) (hr.mono (by decide)) (by rfl) T.g__law_good_name T.F__law_good_name.kp (b__law_good_name T) (p_acons (p_var 7) (p_anil))))))))), pure__law_free_names⟩
theorem b__law_names (T : Txt K mg) : Binds K T.d__law_names ["cell"] [] := T.F__law_names.bindsN fun _ _ _ _ _ _ us hl => match us, hl with | [_], _ => rfl
theorem ok__law_names (T : Txt K mg) : FnOk P w K mg base CX0 3 T.f__law_names T.d__law_names ["cell"] (spP K Φ0 hΦ0 1 C__law_names) := by
  refine fnD T.F__law_names sc__law_names fun cdv A outer s H R Ao E hr => ?_
  have hu := hu_of hr
  have hu64 := hr.units
  have hu65 := hu65_of hr
  have nd := sc__law_names.nd
  exact ⟨g__law_names, p_cons (p_if (p_tcmp (op_eqA hu64) (OpL.eq rfl) (nomark _) (p_op op_mod OpL.mod (p_var 0) (p_int)) (p_int)) (p_one (p_ret (p_call rfl (ok__law_free_names T) (hr.mono (by decide)) (by rfl) T.g__law_free_names T.F__law_free_names.kp (b__law_free_names T) (p_acons (p_op op_fdivW OpL.fdiv (p_var 0) (p_int)) (p_anil))))) (p_nil)) (p_cons (p_set (i := 1) nd rfl (.inr rfl) (p_str)) (p_cons (p_set (i := 2) nd rfl (.inr rfl) (p_op op_mod OpL.mod (p_op op_mulA OpL.mul (p_op op_addA (OpL.add rfl) (p_op op_mod OpL.mod (p_var 0) (p_op op_pow OpL.pow (p_int) (p_int))) (p_int)) (p_int)) (p_int))) (p_cons (p_set (i := 3) nd rfl (.inl rfl) (p_op op_mod OpL.mod (p_var 2) (p_int))) (p_cons (p_set (i := 5) nd rfl (.inl rfl) (p_sm1 PySem.F.slot_str_join PySem.F.type_str_join mt_join (SmL.join rfl) (p_str) (p_lc (own := [("k", 4)]) rfl nd (p_rng1 (by rfl) T.m_range (p_acons (p_var 3) (p_anil))) (blkOk_by (by kernel_rfl)) (fun _ _ _ _ _ => p_gname (i := 4) (vs := [4]) nd rfl (.inl rfl)) (fun _ _ _ _ _ => p_tyes) (fun _ _ _ _ _ => p_ix rfl hu (p_var 1) (p_op op_mod OpL.mod (p_op op_addA (OpL.add rfl) (p_op op_fdivW OpL.fdiv (p_var 2) (p_int)) (p_op op_mulA OpL.mul (p_op op_mulA OpL.mul (p_int) (p_var 4)) (p_var 4))) (p_int)) (fun _ _ => rfl))))) (p_cons (p_set (i := 6) nd rfl (.inl rfl) (p_op op_mod OpL.mod (p_op op_fdivW OpL.fdiv (p_var 2) (p_int)) (p_op op_addA (OpL.add rfl) (p_var 3) (p_int)))) (p_cons (p_set (i := 7) nd rfl (.inl rfl) (p_elst (p_anil))) (p_cons (p_for (vs := [4]) PassesOwn.never rfl (p_rng1 (by rfl) T.m_range (p_acons (p_int) (p_anil))) (fun _ => p_gname (i := 4) (vs := [4]) nd rfl (.inl rfl)) (fun _ => p_cons (p_set (i := 8) nd rfl (.inl rfl) (p_ix rfl hu (p_var 1) (p_op op_mod OpL.mod (p_op op_addA (OpL.add rfl) (p_op op_fdivW OpL.fdiv (p_var 2) (p_int)) (p_op op_mulA OpL.mul (p_int) (p_var 4))) (p_int)) (fun _ _ => rfl))) (p_one (p_meth (i := 7) PySem.F.slot_list_append PySem.F.type_list_append mt_append MutL.append (pv 7) (p_acons (p_op op_addA (OpL.add rfl) (p_op op_addA (OpL.add rfl) (p_sl rfl (p_var 5) (p_onone) (p_osome (p_var 6))) (p_var 8)) (p_sl rfl (p_var 5) (p_osome (p_var 6)) (p_onone))) (p_anil)))))) (p_cons (p_set (i := 9) nd rfl (.inr rfl) (p_ix rfl hu (p_var 1) (p_op op_mod OpL.mod (p_op op_fdivW OpL.fdiv (p_var 2) (p_int)) (p_int)) (fun _ _ => rfl))) (p_one (p_ret (p_op op_addA (OpL.add rfl) (p_var 7) (p_lc (own := [("name", 10)]) rfl nd (p_iseq rfl (p_var 7)) (blkOk_by (by kernel_rfl)) (fun _ _ _ _ _ => p_gname (i := 10) (vs := [10]) nd rfl (.inl rfl)) (fun _ _ _ _ _ => p_tyes) (fun _ _ _ _ _ => p_op op_addA (OpL.add rfl) (p_var 10) (p_var 9)))))))))))))), pure__law_names⟩
theorem b__law_refused (T : Txt K mg) : Binds K T.d__law_refused ["pairs"] [] := T.F__law_refused.bindsN fun _ _ _ _ _ _ us hl => match us, hl with | [_], _ => rfl
theorem ok__law_refused (T : Txt K mg) : FnOk P w K mg base CX0 3 T.f__law_refused T.d__law_refused ["pairs"] (spP K Φ0 hΦ0 1 C__law_refused) := by
  refine fnD T.F__law_refused sc__law_refused fun cdv A outer s H R Ao E hr => ?_
  have hu := hu_of hr
  have hu64 := hr.units
  have hu65 := hu65_of hr
  have nd := sc__law_refused.nd
  exact ⟨g__law_refused, p_cons (p_try (L := EXL) (i := 1) rfl rfl rfl rfl nd rfl rfl T.exc (by decide) (by rfl) (by decide) T.k_BookError (fun W pn xe tk po => p_one (p_expr (p_callX rfl tk (okX_pack T) (hr.mono (by decide)) (by rfl) T.g_pack T.F_pack.kp (b_pack T) (p_acons (p_var 0) (p_anil))))) (fun a pn => p_cons (p_set (i := 2) nd rfl (.inl rfl) (p_elst (p_acons (p_cb call_isY (CalL.isy rfl T.exc) (by rfl) T.m_isinstance PyProof.Rows.boot_isinstance (p_acons (p_var 1) (p_acons (p_glob rfl (by rfl) T.k_NoSide) (p_anil)))) (p_acons (p_cb call_isY (CalL.isy rfl T.exc) (by rfl) T.m_isinstance PyProof.Rows.boot_isinstance (p_acons (p_var 1) (p_acons (p_glob rfl (by rfl) T.k_NoReason) (p_anil)))) (p_anil))))) (p_cons (p_set (i := 2) nd rfl (.inl rfl) (p_op op_addA (OpL.add rfl) (p_var 2) (p_elst (p_acons (p_cb call_isY (CalL.isy rfl T.exc) (by rfl) T.m_isinstance PyProof.Rows.boot_isinstance (p_acons (p_var 1) (p_acons (p_glob rfl (by rfl) T.k_TooMuch) (p_anil)))) (p_acons (p_cb call_isY (CalL.isy rfl T.exc) (by rfl) T.m_isinstance PyProof.Rows.boot_isinstance (p_acons (p_var 1) (p_acons (p_glob rfl (by rfl) T.k_NoCourt) (p_anil)))) (p_anil)))))) (p_cons (p_set (i := 2) nd rfl (.inl rfl) (p_op op_addA (OpL.add rfl) (p_var 2) (p_elst (p_acons (p_cb call_isY (CalL.isy rfl T.exc) (by rfl) T.m_isinstance PyProof.Rows.boot_isinstance (p_acons (p_var 1) (p_acons (p_glob rfl (by rfl) T.k_Late) (p_anil)))) (p_acons (p_cb call_isY (CalL.isy rfl T.exc) (by rfl) T.m_isinstance PyProof.Rows.boot_isinstance (p_acons (p_var 1) (p_acons (p_glob rfl (by rfl) T.k_NotAllowed) (p_anil)))) (p_acons (p_cb call_isY (CalL.isy rfl T.exc) (by rfl) T.m_isinstance PyProof.Rows.boot_isinstance (p_acons (p_var 1) (p_acons (p_glob rfl (by rfl) T.k_NoRuling) (p_anil)))) (p_anil))))))) (p_cons (p_set (i := 2) nd rfl (.inl rfl) (p_op op_addA (OpL.add rfl) (p_var 2) (p_elst (p_acons (p_cb call_isY (CalL.isy rfl T.exc) (by rfl) T.m_isinstance PyProof.Rows.boot_isinstance (p_acons (p_var 1) (p_acons (p_glob rfl (by rfl) T.k_NotYours) (p_anil)))) (p_acons (p_cb call_isY (CalL.isy rfl T.exc) (by rfl) T.m_isinstance PyProof.Rows.boot_isinstance (p_acons (p_var 1) (p_acons (p_glob rfl (by rfl) T.k_NoRow) (p_anil)))) (p_anil)))))) (p_cons (p_set (i := 2) nd rfl (.inl rfl) (p_op op_addA (OpL.add rfl) (p_var 2) (p_elst (p_acons (p_cb call_isY (CalL.isy rfl T.exc) (by rfl) T.m_isinstance PyProof.Rows.boot_isinstance (p_acons (p_var 1) (p_acons (p_glob rfl (by rfl) T.k_Twice) (p_anil)))) (p_acons (p_cb call_isY (CalL.isy rfl T.exc) (by rfl) T.m_isinstance PyProof.Rows.boot_isinstance (p_acons (p_var 1) (p_acons (p_glob rfl (by rfl) T.k_Unknown) (p_anil)))) (p_anil)))))) (p_one (p_ret (p_eand (p_cb call_isY (CalL.isy rfl T.exc) (by rfl) T.m_isinstance PyProof.Rows.boot_isinstance (p_acons (p_var 1) (p_acons (p_glob rfl (by rfl) T.k_NoPack) (p_anil)))) (p_eand (p_cb call_isY (CalL.isy rfl T.exc) (by rfl) T.m_isinstance PyProof.Rows.boot_isinstance (p_acons (p_var 1) (p_acons (p_ty (by rfl) T.m_ValueError boot_ValueError) (p_anil)))) (p_eone (p_cmp (op_notinA hu65) (OpL.inn rfl) (by rfl) (p_bl) (p_var 2))))))))))))) (p_one (p_ret (p_bl))), pure__law_refused⟩
theorem ok_law (T : Txt K mg) : FnOk P w K mg base CX0 4 T.f_law T.d_law ["script"] (spP K Φ0 hΦ0 1 C_law) := by
  refine fnD T.F_law sc_law fun cdv A outer s H R Ao E hr => ?_
  have hu := hu_of hr
  have hu64 := hr.units
  have hu65 := hu65_of hr
  have nd := sc_law.nd
  exact ⟨g_law, p_cons (p_set (i := 1) nd rfl (.inl rfl) (p_op op_addA (OpL.add rfl) (p_var 0) (p_elst (p_acons (p_int) (p_acons (p_int) (p_anil)))))) (p_cons (p_set (i := 2) nd rfl (.inl rfl) (p_call rfl (ok__law_names T) (hr.mono (by decide)) (by rfl) T.g__law_names T.F__law_names.kp (b__law_names T) (p_acons (p_ix rfl hu (p_var 1) (p_int) (fun _ _ => rfl)) (p_anil)))) (p_cons (p_set (i := 3) nd rfl (.inl rfl) (p_elst (p_anil))) (p_cons (p_for (vs := [4]) PassesOwn.never rfl (p_iseq rfl (p_sl rfl (p_var 0) (p_osome (p_int)) (p_osome (p_int)))) (fun _ => p_gname (i := 4) (vs := [4]) nd rfl (.inl rfl)) (fun _ => p_cons (p_set (i := 5) nd rfl (.inl rfl) (p_op op_mod OpL.mod (p_var 4) (p_op op_pow OpL.pow (p_int) (p_int)))) (p_cons (p_meth (i := 3) PySem.F.slot_list_append PySem.F.type_list_append mt_append MutL.append (pv 3) (p_acons (p_etup (p_acons (p_ix rfl hu (p_var 2) (p_op op_mod OpL.mod (p_var 5) (p_int)) (fun _ _ => rfl)) (p_acons (p_call rfl (ok__law_degree T) (hr.mono (by decide)) (by rfl) T.g__law_degree T.F__law_degree.kp (b__law_degree T) (p_acons (p_op op_fdivW OpL.fdiv (p_var 5) (p_int)) (p_anil))) (p_anil)))) (p_anil))) (p_wips [4, 5] p_nil)))) (p_wips [4, 5] (p_cons (p_set (i := 6) nd rfl (.inr rfl) (p_dnew)) (p_cons (p_frz 3 (p_for (vs := [7, 5]) PassesOwn.never rfl (p_iseq rfl (p_var 3)) (fun _ => p_gtup rfl rfl (p_gcons (p_gname (i := 7) (vs := [7, 5]) nd rfl (.inl rfl)) (p_gcons (p_gname (i := 5) (vs := [7, 5]) nd rfl (.inl rfl)) (p_gnil)))) (fun _ => p_cons (p_setix hu (pv 6) (p_var 7) (p_cb (call_max2A rfl) CalL.mm (by rfl) T.m_max PyProof.Rows.boot_max (p_acons (p_get2 hu (p_var 6) (p_var 7) (p_int) ⟨rfl, rfl, rfl, rfl⟩) (p_acons (p_var 5) (p_anil))))) (p_wips [5] p_nil)))) (p_wips [5] (p_cons (p_set (i := 8) nd rfl (.inl rfl) (p_ct call_tupleA (CalL.tuple rfl) (by rfl) T.m_tuple PyProof.Rows.boot_tuple (p_acons (p_lc (own := [("name", 7)]) rfl nd (p_iseq rfl (p_cb (call_sortedDA (by rfl)) CalL.sortedD (by rfl) T.m_sorted PyProof.Rows.boot_sorted (p_acons (p_var 6) (p_anil)))) (blkOk_by (by kernel_rfl)) (fun _ _ _ _ _ => p_gname (i := 7) (vs := [7]) nd rfl (.inl rfl)) (fun _ _ _ _ _ => p_tsone (p_tcmp (op_gtA) (OpL.cmp) (nomark _) (p_ix rfl hu (p_var 6) (p_var 7) (fun _ _ => rfl)) (p_int))) (fun _ _ _ _ _ => p_etup (p_acons (p_var 7) (p_acons (p_ix rfl hu (p_var 6) (p_var 7) (fun _ _ => rfl)) (p_anil))))) (p_anil)))) (p_cons (p_set (i := 9) nd rfl (.inl rfl) (p_ct call_listA (CalL.list rfl) (by rfl) T.m_list PyProof.Rows.boot_list (p_acons (p_var 3) (p_anil)))) (p_cons (p_if (PW.pt (p_tor (p_tnot (p_tval rfl (p_call rfl (ok__law_is_pack T) (hr.mono (by decide)) (by rfl) T.g__law_is_pack T.F__law_is_pack.kp (b__law_is_pack T) (p_acons (p_call rfl (ok_pack T) (hr.mono (by decide)) (by rfl) T.g_pack T.F_pack.kp (b_pack T) (p_acons (p_var 9) (p_anil))) (p_acons (p_var 8) (p_anil)))))) (p_tor1 (p_tcmp (op_neA hu64) (OpL.ne rfl) (nomark _) (p_var 9) (p_var 3))))) (p_one (p_ret (p_bl))) (p_nil)) (p_cons (p_set (i := 10) nd rfl (.inl rfl) (p_op op_mod OpL.mod (p_op op_mulAA OpL.mulA (p_op op_addA (OpL.add rfl) (p_op op_mod OpL.mod (p_ix rfl hu (p_var 1) (p_int) (fun _ _ => rfl)) (p_op op_pow OpL.pow (p_int) (p_int))) (p_int)) (p_int)) (p_int))) (p_cons (p_set (i := 11) nd rfl (.inl rfl) (p_op op_mod OpL.mod (p_var 10) (p_op op_addA (OpL.add rfl) (p_cb call_lenA (CalL.len rfl) (by rfl) T.m_len PySem.boot_len (p_acons (p_var 3) (p_anil))) (p_int)))) (p_cons (p_frz 2 (p_meth (i := 9) PySem.F.slot_list_insert PySem.F.type_list_insert mt_insertA MutL.insert (pv 9) (p_acons (p_var 11) (p_acons (p_call rfl (ok__law_odd_pair T) (hr.mono (by decide)) (by rfl) T.g__law_odd_pair T.F__law_odd_pair.kp (b__law_odd_pair T) (p_acons (p_op op_fdivW OpL.fdiv (p_var 10) (p_int)) (p_acons (p_var 2) (p_anil)))) (p_anil))))) (p_cons (p_if (p_tnot (p_tval rfl (p_call rfl (ok__law_refused T) (hr.mono (by decide)) (by rfl) T.g__law_refused T.F__law_refused.kp (b__law_refused T) (p_acons (p_var 9) (p_anil))))) (p_one (p_ret (p_bl))) (p_nil)) (p_cons (p_meth (i := 9) PySem.F.slot_list_pop PySem.F.type_list_pop mt_popAtA MutL.popAt (pv 9) (p_acons (p_var 11) (p_anil))) (p_one (p_ret (p_call rfl (ok__law_is_pack T) (hr.mono (by decide)) (by rfl) T.g__law_is_pack T.F__law_is_pack.kp (b__law_is_pack T) (p_acons (p_call rfl (ok_pack T) (hr.mono (by decide)) (by rfl) T.g_pack T.F_pack.kp (b_pack T) (p_acons (p_var 9) (p_anil))) (p_acons (p_var 8) (p_anil))))))))))))))))))))), pure_law⟩
def dd_is_name : He.DefD := ⟨("is_name", none), "is_name", "is_name", defArgs st_is_name, defBody st_is_name, defScope st_is_name, [], []⟩
def dd_is_degree : He.DefD := ⟨("is_degree", none), "is_degree", "is_degree", defArgs st_is_degree, defBody st_is_degree, defScope st_is_degree, [], []⟩
def dd_sorted_pack : He.DefD := ⟨("sorted_pack", none), "sorted_pack", "sorted_pack", defArgs st_sorted_pack, defBody st_sorted_pack, defScope st_sorted_pack, [], []⟩
def dd_pack : He.DefD := ⟨("pack", none), "pack", "pack", defArgs st_pack, defBody st_pack, defScope st_pack, [], []⟩
def dd__law_good_name : He.DefD := ⟨("_law_good_name", none), "_law_good_name", "_law_good_name", defArgs st__law_good_name, defBody st__law_good_name, defScope st__law_good_name, [], []⟩
def dd__law_free_names : He.DefD := ⟨("_law_free_names", none), "_law_free_names", "_law_free_names", defArgs st__law_free_names, defBody st__law_free_names, defScope st__law_free_names, [], []⟩
def dd__law_names : He.DefD := ⟨("_law_names", none), "_law_names", "_law_names", defArgs st__law_names, defBody st__law_names, defScope st__law_names, [], []⟩
def dd__law_degree : He.DefD := ⟨("_law_degree", none), "_law_degree", "_law_degree", defArgs st__law_degree, defBody st__law_degree, defScope st__law_degree, [], []⟩
def dd__law_is_pack : He.DefD := ⟨("_law_is_pack", none), "_law_is_pack", "_law_is_pack", defArgs st__law_is_pack, defBody st__law_is_pack, defScope st__law_is_pack, [], []⟩
def dd__law_odd_pair : He.DefD := ⟨("_law_odd_pair", none), "_law_odd_pair", "_law_odd_pair", defArgs st__law_odd_pair, defBody st__law_odd_pair, defScope st__law_odd_pair, [], []⟩
def dd__law_refused : He.DefD := ⟨("_law_refused", none), "_law_refused", "_law_refused", defArgs st__law_refused, defBody st__law_refused, defScope st__law_refused, [], []⟩
def dd_law : He.DefD := ⟨("law", none), "law", "law", defArgs st_law, defBody st_law, defScope st_law, [], []⟩
def hfn : List He.DefD := [dd_is_name, dd_is_degree, dd_sorted_pack, dd_pack, dd__law_good_name, dd__law_free_names, dd__law_names, dd__law_degree, dd__law_is_pack, dd__law_odd_pair, dd__law_refused, dd_law]
def hfa : List He.Fa := [.glo "is_name", .glo "is_degree", .glo "sorted_pack", .glo "pack", .glo "_law_good_name", .glo "_law_free_names", .glo "_law_names", .glo "_law_degree", .glo "_law_is_pack", .glo "_law_odd_pair", .glo "_law_refused", .glo "law", .free "ValueError", .free "bool", .free "int", .free "isinstance", .free "len", .free "list", .free "max", .free "range", .free "sorted", .free "str", .free "tuple", .glo "KEPT_WORDS", .str "LETTERS" "abcdefghijklmnopqrstuvwxyz", .int "LONGEST" 12, .int "TOP" 1000000000000000000000000000000, .glo "BookError", .glo "Late", .glo "NoCourt", .glo "NoPack", .glo "NoReason", .glo "NoRow", .glo "NoRuling", .glo "NoSide", .glo "NotAllowed", .glo "NotYours", .glo "TooMuch", .glo "Twice", .glo "Unknown"]
def hex (K : PySem.W.Frag) : Bool := He.tupB K "KEPT_WORDS" [.str "and", .str "or", .str "not", .str "if", .str "is", .str "some", .str "all", .str "for", .str "against"] && exOK K EXL && exOwn K "NoPack"
abbrev hR : PySem.W.OpenRow := PySem.W.OpenLaw.row PySem.Challenge.rw_likebook_k02_a_pack_made
def loose : List Str := [Str.ofString "BookError", Str.ofString "NoPack", Str.ofString "NoSide", Str.ofString "NoReason", Str.ofString "TooMuch", Str.ofString "NoCourt", Str.ofString "Late", Str.ofString "NotAllowed", Str.ofString "NoRuling", Str.ofString "NotYours", Str.ofString "NoRow", Str.ofString "Twice", Str.ofString "Unknown", Str.ofString "LETTERS", Str.ofString "KEPT_WORDS", Str.ofString "LONGEST", Str.ofString "TOP", Str.ofString "is_name", Str.ofString "is_degree", Str.ofString "sorted_pack", Str.ofString "pack", Str.ofString "_law_good_name", Str.ofString "_law_free_names", Str.ofString "_law_names", Str.ofString "_law_degree", Str.ofString "_law_is_pack", Str.ofString "_law_odd_pair", Str.ofString "_law_refused"]
abbrev hk : PySem.W.Hook := hookP 6 hfa hfn hex
def ob (s : PySem.W.SharedT) : AlP := obsPG 6 hfa hfn hex (HandSHeadRun.getT s)
theorem ob_eq (s : PySem.W.SharedT) : ob s = hk.obs s.abs := obsPG_eq (HandSHeadRun.getT_eq s)
theorem run (w : World) : HandSHeadRun.RunEq hR (PySem.W.view hR.prog [31]) hk ob 40000 loose w := by
  intro os
  kernel_rfl
theorem txt {K : PySem.W.Frag} {h : Heap} {mg : Str → Option Value} (X : K.In h) (G : h.Ns mainGlobals mg) (c : SaysP hfa hfn hex K) : ∃ T : Txt K mg, T.f_law = He.ga K "law" := by
  obtain ⟨d_is_name, F_is_name⟩ := c.def_ 0 (d := dd_is_name) rfl
  obtain ⟨d_is_degree, F_is_degree⟩ := c.def_ 1 (d := dd_is_degree) rfl
  obtain ⟨d_sorted_pack, F_sorted_pack⟩ := c.def_ 2 (d := dd_sorted_pack) rfl
  obtain ⟨d_pack, F_pack⟩ := c.def_ 3 (d := dd_pack) rfl
  obtain ⟨d__law_good_name, F__law_good_name⟩ := c.def_ 4 (d := dd__law_good_name) rfl
  obtain ⟨d__law_free_names, F__law_free_names⟩ := c.def_ 5 (d := dd__law_free_names) rfl
  obtain ⟨d__law_names, F__law_names⟩ := c.def_ 6 (d := dd__law_names) rfl
  obtain ⟨d__law_degree, F__law_degree⟩ := c.def_ 7 (d := dd__law_degree) rfl
  obtain ⟨d__law_is_pack, F__law_is_pack⟩ := c.def_ 8 (d := dd__law_is_pack) rfl
  obtain ⟨d__law_odd_pair, F__law_odd_pair⟩ := c.def_ 9 (d := dd__law_odd_pair) rfl
  obtain ⟨d__law_refused, F__law_refused⟩ := c.def_ 10 (d := dd__law_refused) rfl
  obtain ⟨d_law, F_law⟩ := c.def_ 11 (d := dd_law) rfl
  exact ⟨⟨_, d_is_name, F_is_name, He.glo_ok X G (c.fact 0 (f := .glo "is_name") rfl), _, d_is_degree, F_is_degree, He.glo_ok X G (c.fact 1 (f := .glo "is_degree") rfl), _, d_sorted_pack, F_sorted_pack, He.glo_ok X G (c.fact 2 (f := .glo "sorted_pack") rfl), _, d_pack, F_pack, He.glo_ok X G (c.fact 3 (f := .glo "pack") rfl), _, d__law_good_name, F__law_good_name, He.glo_ok X G (c.fact 4 (f := .glo "_law_good_name") rfl), _, d__law_free_names, F__law_free_names, He.glo_ok X G (c.fact 5 (f := .glo "_law_free_names") rfl), _, d__law_names, F__law_names, He.glo_ok X G (c.fact 6 (f := .glo "_law_names") rfl), _, d__law_degree, F__law_degree, He.glo_ok X G (c.fact 7 (f := .glo "_law_degree") rfl), _, d__law_is_pack, F__law_is_pack, He.glo_ok X G (c.fact 8 (f := .glo "_law_is_pack") rfl), _, d__law_odd_pair, F__law_odd_pair, He.glo_ok X G (c.fact 9 (f := .glo "_law_odd_pair") rfl), _, d__law_refused, F__law_refused, He.glo_ok X G (c.fact 10 (f := .glo "_law_refused") rfl), _, d_law, F_law, He.glo_ok X G (c.fact 11 (f := .glo "law") rfl), He.free_ok X G (c.fact 12 (f := .free "ValueError") rfl), He.free_ok X G (c.fact 13 (f := .free "bool") rfl), He.free_ok X G (c.fact 14 (f := .free "int") rfl), He.free_ok X G (c.fact 15 (f := .free "isinstance") rfl), He.free_ok X G (c.fact 16 (f := .free "len") rfl), He.free_ok X G (c.fact 17 (f := .free "list") rfl), He.free_ok X G (c.fact 18 (f := .free "max") rfl), He.free_ok X G (c.fact 19 (f := .free "range") rfl), He.free_ok X G (c.fact 20 (f := .free "sorted") rfl), He.free_ok X G (c.fact 21 (f := .free "str") rfl), He.free_ok X G (c.fact 22 (f := .free "tuple") rfl), globT (He.glo_ok X G (c.fact 23 (f := .glo "KEPT_WORDS") rfl)) (He.tupB_ok (show (He.tupB K "KEPT_WORDS" [.str "and", .str "or", .str "not", .str "if", .str "is", .str "some", .str "all", .str "for", .str "against"]) = true from by have h := c.exOk; unfold hex at h; simp only [Bool.and_eq_true] at h; exact h.1.1)) (by decide +kernel), globS (He.str_ok X G (c.fact 24 (f := .str "LETTERS" "abcdefghijklmnopqrstuvwxyz") rfl)) (by decide +kernel), globI (He.int_ok X G (c.fact 25 (f := .int "LONGEST" 12) rfl)), globI (He.int_ok X G (c.fact 26 (f := .int "TOP" 1000000000000000000000000000000) rfl)), globC (He.glo_ok X G (c.fact 27 (f := .glo "BookError") rfl)), globC (He.glo_ok X G (c.fact 28 (f := .glo "Late") rfl)), globC (He.glo_ok X G (c.fact 29 (f := .glo "NoCourt") rfl)), globC (He.glo_ok X G (c.fact 30 (f := .glo "NoPack") rfl)), globC (He.glo_ok X G (c.fact 31 (f := .glo "NoReason") rfl)), globC (He.glo_ok X G (c.fact 32 (f := .glo "NoRow") rfl)), globC (He.glo_ok X G (c.fact 33 (f := .glo "NoRuling") rfl)), globC (He.glo_ok X G (c.fact 34 (f := .glo "NoSide") rfl)), globC (He.glo_ok X G (c.fact 35 (f := .glo "NotAllowed") rfl)), globC (He.glo_ok X G (c.fact 36 (f := .glo "NotYours") rfl)), globC (He.glo_ok X G (c.fact 37 (f := .glo "TooMuch") rfl)), globC (He.glo_ok X G (c.fact 38 (f := .glo "Twice") rfl)), globC (He.glo_ok X G (c.fact 39 (f := .glo "Unknown") rfl)), (show (exOK K EXL) = true from by have h := c.exOk; unfold hex at h; simp only [Bool.and_eq_true] at h; exact h.1.2), (show (exOwn K "NoPack") = true from by have h := c.exOk; unfold hex at h; simp only [Bool.and_eq_true] at h; exact h.2)⟩, rfl⟩
theorem facts {P' : Program} {w : World} {K : PySem.W.Frag} {h : Heap} {mg : Str → Option Value} {f : Addr} (X : K.In h) (G : h.Ns mainGlobals mg) (hfa' : mg ("law" : Str) = some (.ref f)) (c : SaysP hfa hfn hex K) :
    ∃ fd : FuncData, (∀ (s : Shared) (v : Value), BindsTo s fd ⟨[v], []⟩ [("script", v)]) ∧ ∀ base : Heap, K.In base → base.Ns mainGlobals mg → FnOk P' w K mg base CX0 4 f fd ["script"] (spP K Φ0 hΦ0 1 C_law) := by
  obtain ⟨T, hT⟩ := txt X G c
  have e := hfa'.symm.trans T.g_law
  cases e
  have b := FunD.bindsA (ps := ["script"]) T.F_law fun _ _ _ _ _ _ us hl => match us, hl with | [_], _ => rfl
  exact ⟨T.d_law, fun s v => b s [v] rfl, fun base _ _ => ok_law T⟩
end P.A
open PySem PySem.W PySem.Calls PyProof.Rows P P.A
theorem PySem.Challenge.cw_likebook_k02_a_pack_made_holds : PySem.Challenge.rw_likebook_k02_a_pack_made.Holds := by
  w_on; o_law
  refine HandSHeadRun.head_any (r := OpenLaw.row PySem.Challenge.rw_likebook_k02_a_pack_made) (q := view (OpenLaw.row PySem.Challenge.rw_likebook_k02_a_pack_made).prog [31]) (H := P.A.hk) (ob := P.A.ob) (M := 40000) (loose := P.A.loose) (d := HandSHeadRun.topDef (OpenLaw.row PySem.Challenge.rw_likebook_k02_a_pack_made).prog 31) (kwd := []) P.A.ob_eq
    (by kernel_rfl) (fun s => by kernel_rfl) P.A.run (by kernel_rfl) (by kernel_rfl) (by kernel_rfl) (by rfl) (by first | assumption | decide +kernel) (by decide +kernel) ⟨rfl, rfl, rfl, rfl, rfl, by decide +kernel⟩ ?hw ?hc
  case hw => w_witness2
  case hc =>
    refine P.walk_ofEB (l := PySem.Challenge.rw_likebook_k02_a_pack_made) (n := 63) (k := 4) (x := "script") (C := P.A.C_law) rfl (by decide) (by kernel_rfl) ⟨rfl, by decide, by decide⟩ ?F ?C
    case C => exact P.A.law_true
    intro w mg fa h Y G hmg0
    obtain ⟨K, KX, c⟩ := Y
    have hmg : mg ("law" : PySem.Str) = some (.ref fa) := by
      have e : (HandSHeadRun.topDef (OpenLaw.row PySem.Challenge.rw_likebook_k02_a_pack_made).prog 31).name = ("law" : PySem.Str) := by kernel_rfl
      rw [← e]
      exact hmg0
    obtain ⟨fd, hb, hF⟩ := P.A.facts (P' := (PySem.Challenge.rw_likebook_k02_a_pack_made).prog) (w := w) KX G hmg c
    exact ⟨K, fd, KX, hb, hF⟩
