import PyProof.Rows.All
import Wide.All
import OpenK.AllK
import Wide.FinOn
import KE.KStateDown
import Lean
import HandS.Head0
import HandS.Head1
import HandS.Head2
import HandS.HeadEnd
import HandS.HeadHook1
import HandS.HeadHook2
import HandS.ForMost
import HandS.Exc
import HandS.TryOnly
import HandS.ExcOwn
import HandS.WordsExc
import HandS.Wide
import KE.KEqDict
import HandS.Style
import HandS.ExcCtx
import HandS.CallSlots
import HandS.OwnEq
import HandS.Comp
import HandS.IsInst
import HandS.Text
import PyProof.ReprRoads
import HandS.HeadNt
import HandS.HotCalls
import HandS.ExcIs
import PyProof.ZipIter
import HandS.Iter
import PyProof.ExcBaseAll.ValueError
import HandS.ExcBuiltin
import PySem.Challenge.RW_backlinks_k67_texts_of_no_log
import KE.IntTextLaws
import KE.KIntText
set_option Elab.async false
set_option linter.all false
set_option maxRecDepth 100000
set_option maxHeartbeats 4000000
namespace L3
open PySem L2

mutual
inductive Rp (H : Hp) : V → PyData → Prop
  | non : Rp H .non .none
  | bl (b : Bool) : Rp H (.bl b) (.bool b)
  | int (i : Int) : Rp H (.int i) (.int i)
  | str (x : Str) : Rp H (.str x) (.str x)
  | lst {a : Addr} {vs : List V} {ds : List PyData} : H a = some (.lst vs) → RpAll H vs ds → Rp H (.ref a) (.list ds)
  | tup {a : Addr} {vs : List V} {ds : List PyData} : H a = some (.tup vs) → RpAll H vs ds → Rp H (.ref a) (.tuple ds)
  | dct {a : Addr} {ws : List (Key × V)} {kvs : List (PyData × PyData)} : H a = some (.dK ws) → RpKV H ws kvs → Rp H (.ref a) (.dict kvs)
inductive RpAll (H : Hp) : List V → List PyData → Prop
  | nil : RpAll H [] []
  | cons {v : V} {vs : List V} {d : PyData} {ds : List PyData} : Rp H v d → RpAll H vs ds → RpAll H (v :: vs) (d :: ds)
inductive RpKV (H : Hp) : List (Key × V) → List (PyData × PyData) → Prop
  | nil : RpKV H [] []
  | consI {i : Int} {v : V} {ws : List (Key × V)} {d : PyData} {kvs : List (PyData × PyData)} : Rp H v d → RpKV H ws kvs → RpKV H ((.inl i, v) :: ws) ((.int i, d) :: kvs)
  | consS {x : Str} {v : V} {ws : List (Key × V)} {d : PyData} {kvs : List (PyData × PyData)} : Rp H v d → RpKV H ws kvs → RpKV H ((.inr x, v) :: ws) ((.str x, d) :: kvs)
end
mutual
theorem Rp.mono {H H' : Hp} (e : Same H H') : ∀ {v : V} {d : PyData}, Rp H v d → Rp H' v d
  | _, _, .non => .non
  | _, _, .bl b => .bl b
  | _, _, .int i => .int i
  | _, _, .str x => .str x
  | _, _, .lst h r => .lst (e _ _ h) (RpAll.mono e r)
  | _, _, .tup h r => .tup (e _ _ h) (RpAll.mono e r)
  | _, _, .dct h r => .dct (e _ _ h) (RpKV.mono e r)
theorem RpAll.mono {H H' : Hp} (e : Same H H') : ∀ {vs : List V} {ds : List PyData}, RpAll H vs ds → RpAll H' vs ds
  | _, _, .nil => .nil
  | _, _, .cons h r => .cons (Rp.mono e h) (RpAll.mono e r)
theorem RpKV.mono {H H' : Hp} (e : Same H H') : ∀ {vs : List (Key × V)} {ds : List (PyData × PyData)}, RpKV H vs ds → RpKV H' vs ds
  | _, _, .nil => .nil
  | _, _, .consI h r => .consI (Rp.mono e h) (RpKV.mono e r)
  | _, _, .consS h r => .consS (Rp.mono e h) (RpKV.mono e r)
end
theorem RpAll.length {H : Hp} : ∀ {vs : List V} {ds : List PyData}, RpAll H vs ds → vs.length = ds.length
  | _, _, .nil => rfl
  | _, _, .cons _ r => by rw [List.length_cons, List.length_cons, RpAll.length r]
theorem RpAll.get {H : Hp} : ∀ {vs : List V} {ds : List PyData} {i : Nat} {d : PyData}, RpAll H vs ds → ds[i]? = some d → ∃ v, vs[i]? = some v ∧ Rp H v d
  | _, _, _, _, .nil, e => by simp at e
  | _, _, 0, _, .cons h _, e => by simp at e; subst e; exact ⟨_, rfl, h⟩
  | _, _, i + 1, d, .cons _ r, e => by
    obtain ⟨v, h1, h2⟩ := RpAll.get (i := i) (d := d) r (by simpa using e)
    exact ⟨v, by simpa using h1, h2⟩
theorem RpAll.append {H : Hp} : ∀ {vs ws : List V} {ds es : List PyData}, RpAll H vs ds → RpAll H ws es → RpAll H (vs ++ ws) (ds ++ es)
  | _, _, _, _, .nil, s => s
  | _, _, _, _, .cons h r, s => .cons h (RpAll.append r s)
theorem RpAll.set {H : Hp} {v : V} {d : PyData} (q : Rp H v d) : ∀ {vs : List V} {ds : List PyData} (i : Nat), RpAll H vs ds → RpAll H (vs.set i v) (ds.set i d)
  | _, _, _, .nil => .nil
  | _, _, 0, .cons _ r => .cons q r
  | _, _, i + 1, .cons h r => .cons h (RpAll.set q i r)
theorem RpAll.take {H : Hp} : ∀ {vs : List V} {ds : List PyData} (n : Nat), RpAll H vs ds → RpAll H (vs.take n) (ds.take n)
  | _, _, 0, _ => .nil
  | _, _, _ + 1, .nil => .nil
  | _, _, n + 1, .cons h r => .cons h (RpAll.take n r)
theorem RpAll.drop {H : Hp} : ∀ {vs : List V} {ds : List PyData} (n : Nat), RpAll H vs ds → RpAll H (vs.drop n) (ds.drop n)
  | _, _, 0, r => r
  | _, _, _ + 1, .nil => .nil
  | _, _, n + 1, .cons _ r => RpAll.drop n r
theorem RpAll.dropLast {H : Hp} {vs : List V} {ds : List PyData} (r : RpAll H vs ds) : RpAll H vs.dropLast ds.dropLast := by
  rw [List.dropLast_eq_take, List.dropLast_eq_take, r.length]
  exact r.take _
theorem RpAll.reverse {H : Hp} : ∀ {vs : List V} {ds : List PyData}, RpAll H vs ds → RpAll H vs.reverse ds.reverse
  | _, _, .nil => .nil
  | _, _, .cons h r => by
    rw [List.reverse_cons, List.reverse_cons]
    exact RpAll.append (RpAll.reverse r) (.cons h .nil)
theorem RpAll.eraseIdx {H : Hp} : ∀ {vs : List V} {ds : List PyData} (i : Nat), RpAll H vs ds → RpAll H (vs.eraseIdx i) (ds.eraseIdx i)
  | _, _, _, .nil => .nil
  | _, _, 0, .cons _ r => r
  | _, _, i + 1, .cons h r => .cons h (RpAll.eraseIdx i r)
theorem RpAll.getV {H : Hp} : ∀ {vs : List V} {ds : List PyData} {i : Nat} {v : V}, RpAll H vs ds → vs[i]? = some v → ∃ d, ds[i]? = some d ∧ Rp H v d
  | _, _, _, _, .nil, e => by simp at e
  | _, _, 0, _, .cons h _, e => by simp at e; subst e; exact ⟨_, rfl, h⟩
  | _, _, i + 1, d, .cons _ r, e => by
    obtain ⟨v, h1, h2⟩ := RpAll.getV (i := i) r (by simpa using e)
    exact ⟨v, by simpa using h1, h2⟩
theorem RpAll.rep {H : Hp} {vs : List V} {ds : List PyData} (r : RpAll H vs ds) : ∀ n : Nat, RpAll H (List.replicate n vs).flatten (List.replicate n ds).flatten
  | 0 => .nil
  | n + 1 => by
    rw [List.replicate_succ, List.replicate_succ, List.flatten_cons, List.flatten_cons]
    exact r.append (RpAll.rep r n)
/-- ints -/
theorem RpAll.ints {H : Hp} : ∀ {vs : List V} {ns : List Int}, RpAll H vs (ns.map PyData.int) → vs = ns.map V.int
  | _, [], .nil => rfl
  | _, n :: ns, .cons h r => by
    cases h
    rw [List.map_cons, RpAll.ints r]
theorem RpAll.ofInts {H : Hp} : ∀ (ns : List Int), RpAll H (ns.map V.int) (ns.map PyData.int)
  | [] => .nil
  | n :: ns => .cons (.int n) (RpAll.ofInts ns)
theorem RpAll.bls {H : Hp} : ∀ {vs : List V} {ns : List Bool}, RpAll H vs (ns.map PyData.bool) → vs = ns.map V.bl
  | _, [], .nil => rfl
  | _, n :: ns, .cons h r => by
    cases h
    rw [List.map_cons, RpAll.bls r]
theorem RpAll.strs {H : Hp} : ∀ {vs : List V} {ns : List Str}, RpAll H vs (ns.map PyData.str) → vs = ns.map V.str
  | _, [], .nil => rfl
  | _, n :: ns, .cons h r => by
    cases h
    rw [List.map_cons, RpAll.strs r]
theorem RpAll.ofStrs {H : Hp} : ∀ (ns : List Str), RpAll H (ns.map V.str) (ns.map PyData.str)
  | [] => .nil
  | n :: ns => .cons (.str n) (RpAll.ofStrs ns)
/- no dict within -/
mutual
theorem Rp.dp {K : PySem.W.Frag} {H : Hp} : ∀ {v : V} {d : PyData}, Rp H v d → d.canLay0 = true → Dp K H v d
  | _, _, .non, _ => .non
  | _, _, .bl b, _ => .bl b
  | _, _, .int i, _ => .int i
  | _, _, .str x, _ => .str x
  | _, _, .lst h r, z => .lst (SqL.of h) (RpAll.dp r (by simpa [PyData.canLay0] using z))
  | _, _, .tup h r, z => .tup (SqT.of h) (RpAll.dp r (by simpa [PyData.canLay0] using z))
  | _, _, .dct h r, z => by simp [PyData.canLay0] at z
theorem RpAll.dp {K : PySem.W.Frag} {H : Hp} : ∀ {vs : List V} {ds : List PyData}, RpAll H vs ds → PyData.canLayAll0 ds = true → DpAll K H vs ds
  | _, _, .nil, _ => .nil
  | _, _, .cons h r, z => by
    simp only [PyData.canLayAll0, Bool.and_eq_true] at z
    exact .cons (Rp.dp h z.1) (RpAll.dp r z.2)
end

/-- a thing of any other kind, by what it is in a heap -/
structure ExtRep where
  φ : PySem.W.Frag → Hp → Hp → V → List Addr → Prop
  frame : ∀ K HP HP' H H' v as, Same HP HP' → (∀ a ∈ as, H' a = H a) → φ K HP H v as → φ K HP' H' v as
  there : ∀ K HP H v as, φ K HP H v as → ∀ a ∈ as, H a ≠ none
/-- what a slot holds: data that never changes any more; data that this def only reads; a list, a dict that only this slot holds; the script -/
inductive Sl where
  | sh (d : PyData) | bor (d : PyData) | own (xs : List PyData) | odk (kvs : List (PyData × PyData)) | scr (ns : List Int) | ext (ρ : ExtRep)
def Sl.isD : Sl → Bool
  | .scr _ => false
  | .ext _ => false
  | _ => true
abbrev En := List (Option Sl)
inductive Vl where
  | tmp (s : Sl) | loc (i : Nat)
structure Ct where
  HB : Hp
  cls : Str → Value
  io : List Nat := []
  iv : Nat → V := fun _ => .non

def Sl.dat : Sl → PyData
  | .sh d => d
  | .bor d => d
  | .own xs => .list xs
  | .odk kvs => .dict kvs
  | .scr ns => .list (ns.map PyData.int)
  | .ext _ => .none
def dat (env : En) : Vl → Option PyData
  | .tmp (.scr _) => none
  | .tmp (.ext _) => none
  | .tmp s => some s.dat
  | .loc i => match env[i]? with
    | some (some (.scr _)) => none
    | some (some (.ext _)) => none
    | some (some s) => some s.dat
    | _ => none

def RepS (K : PySem.W.Frag) (C : Ct) (HP H : Hp) : Sl → V → List Addr → Prop
  | .sh d, v, as => Rp HP v d ∧ as = []
  | .bor d, v, as => Rp C.HB v d ∧ as = []
  | .own xs, v, as => ∃ a vs, v = .ref a ∧ as = [a] ∧ H a = some (.lst vs) ∧ RpAll HP vs xs
  | .odk kvs, v, as => ∃ a ws, v = .ref a ∧ as = [a] ∧ H a = some (.dK ws) ∧ RpKV HP ws kvs
  | .scr ns, v, as => ∃ a, v = .ref a ∧ as = [] ∧ SqL K C.HB a (ns.map V.int)
  | .ext ρ, v, as => ρ.φ K HP H v as
def RepO (K : PySem.W.Frag) (C : Ct) (HP H : Hp) : Option Sl → Option V → List Addr → Prop
  | none, _, as => as = []
  | some s, some v, as => RepS K C HP H s v as
  | some _, none, _ => False
def RepE (K : PySem.W.Frag) (C : Ct) (HP H : Hp) : En → L2.St → List Addr → Prop
  | [], [], as => as = []
  | s :: env, v :: σ, as => ∃ a1 a2, as = a1 ++ a2 ∧ RepO K C HP H s v a1 ∧ RepE K C HP H env σ a2
  | _, _, _ => False
section
variable {K : PySem.W.Frag} {C : Ct} {HP HP' H H' : Hp} {σ : L2.St} {env : En} {as ts : List Addr} {s : Sl} {v : V}
theorem RepS.frame (e : Same HP HP') (r : RepS K C HP H s v as) (k : ∀ a ∈ as, H' a = H a) : RepS K C HP' H' s v as := by
  cases s with
  | sh d => exact ⟨r.1.mono e, r.2⟩
  | bor d => exact r
  | own xs =>
    obtain ⟨a, vs, h1, rfl, h3, h4⟩ := r
    exact ⟨a, vs, h1, rfl, (k a (by simp)).trans h3, h4.mono e⟩
  | odk xs =>
    obtain ⟨a, vs, h1, rfl, h3, h4⟩ := r
    exact ⟨a, vs, h1, rfl, (k a (by simp)).trans h3, h4.mono e⟩
  | scr ns => exact r
  | ext ρ => exact ρ.frame _ _ _ _ _ _ _ e k r
theorem RepO.frame {s : Option Sl} {v : Option V} (e : Same HP HP') (r : RepO K C HP H s v as) (k : ∀ a ∈ as, H' a = H a) : RepO K C HP' H' s v as := by
  cases s with
  | none => exact r
  | some s => cases v with
    | none => exact r
    | some v => exact RepS.frame e r k
theorem RepE.frame (e : Same HP HP') : ∀ {env : En} {σ : L2.St} {as : List Addr}, RepE K C HP H env σ as → (∀ a ∈ as, H' a = H a) → RepE K C HP' H' env σ as
  | [], [], _, r, _ => r
  | _ :: _, [], _, r, _ => r
  | [], _ :: _, _, r, _ => r
  | s :: env, v :: σ, as, r, k => by
    obtain ⟨a1, a2, rfl, h1, h2⟩ := r
    exact ⟨a1, a2, rfl, h1.frame e fun a ha => k a (List.mem_append_left _ ha), RepE.frame e h2 fun a ha => k a (List.mem_append_right _ ha)⟩
theorem RepE.len : ∀ {env : En} {σ : L2.St} {as : List Addr}, RepE K C HP H env σ as → σ.length = env.length
  | [], [], _, _ => rfl
  | _ :: _, [], _, r => r.elim
  | [], _ :: _, _, r => r.elim
  | s :: env, v :: σ, as, r => by
    obtain ⟨a1, a2, rfl, h1, h2⟩ := r
    rw [List.length_cons, List.length_cons, h2.len]
theorem RepS.there (r : RepS K C HP H s v as) : ∀ a ∈ as, H a ≠ none := by
  cases s with
  | sh d => intro a ha; rw [r.2] at ha; cases ha
  | bor d => intro a ha; rw [r.2] at ha; cases ha
  | own xs =>
    obtain ⟨a, vs, h1, rfl, h3, h4⟩ := r
    intro b hb
    have e : b = a := by simpa using hb
    rw [e, h3]; exact fun q => nomatch q
  | odk xs =>
    obtain ⟨a, vs, h1, rfl, h3, h4⟩ := r
    intro b hb
    have e : b = a := by simpa using hb
    rw [e, h3]; exact fun q => nomatch q
  | scr ns =>
    obtain ⟨a, h1, h2, h3⟩ := r
    intro b hb; rw [h2] at hb; cases hb
  | ext ρ => exact ρ.there _ _ _ _ _ r
theorem RepE.there : ∀ {env : En} {σ : L2.St} {as : List Addr}, RepE K C HP H env σ as → ∀ a ∈ as, H a ≠ none
  | [], [], _, r, a, ha => by
    have e : _ = [] := r
    rw [e] at ha; cases ha
  | _ :: _, [], _, r, _, _ => r.elim
  | [], _ :: _, _, r, _, _ => r.elim
  | s :: env, v :: σ, as, r, a, ha => by
    obtain ⟨a1, a2, rfl, h1, h2⟩ := r
    rcases List.mem_append.mp ha with ha | ha
    · cases s with
      | none =>
        have e : a1 = [] := h1
        rw [e] at ha; cases ha
      | some s => cases v with
        | none => exact h1.elim
        | some v => exact RepS.there h1 a ha
    · exact h2.there a ha
/-- one slot, and what stands around it -/
theorem RepE.at : ∀ {env : En} {σ : L2.St} {as : List Addr} (i : Nat) {s : Option Sl}, RepE K C HP H env σ as → env[i]? = some s →
    ∃ (v : Option V) (pre a post : List Addr), σ[i]? = some v ∧ as = pre ++ (a ++ post) ∧ RepO K C HP H s v a ∧
      ∀ (HP' H' : Hp) (s' : Option Sl) (v' : Option V) (a' : List Addr), Same HP HP' → (∀ b ∈ pre ++ post, H' b = H b) → RepO K C HP' H' s' v' a' → RepE K C HP' H' (env.set i s') (σ.set i v') (pre ++ (a' ++ post))
  | [], _, _, i, s, _, e => by simp at e
  | _ :: _, [], _, _, _, r, _ => r.elim
  | t :: env, w :: σ, as, 0, s, r, e => by
    obtain ⟨a1, a2, rfl, h1, h2⟩ := r
    have e' : t = s := by simpa using e
    subst e'
    refine ⟨w, [], a1, a2, rfl, rfl, h1, fun HP' H' s' v' a' x k q => ⟨a', a2, rfl, q, h2.frame x fun b hb => k b (by simpa using hb)⟩⟩
  | t :: env, w :: σ, as, i + 1, s, r, e => by
    obtain ⟨a1, a2, rfl, h1, h2⟩ := r
    obtain ⟨v, pre, a, post, e1, e2, h3, h4⟩ := RepE.at i h2 (by simpa using e)
    subst e2
    refine ⟨v, a1 ++ pre, a, post, by simpa using e1, by simp, h3, fun HP' H' s' v' a' x k q => ?_⟩
    refine ⟨a1, pre ++ (a' ++ post), by simp, h1.frame x fun b hb => k b (by simp [hb]), h4 HP' H' s' v' a' x (fun b hb => k b ?_) q⟩
    rcases List.mem_append.mp hb with hb | hb
    · simp [hb]
    · simp [hb]

structure Rel (K : PySem.W.Frag) (C : Ct) (HP : Hp) (σ : L2.St) (H : Hp) (env : En) (as ts : List Addr) : Prop where
  exP : Same HP H
  exB : Same C.HB H
  rep : RepE K C HP H env σ as
  nd : (as ++ ts).Nodup
  own : ∀ a ∈ as ++ ts, HP a = none ∧ C.HB a = none ∧ H a ≠ none
  pin : ∀ k ∈ C.io, σ[k]? = some (some (C.iv k))
/-- from a state with the own addresses as to one with bs -/
structure Stp (HP H : Hp) (as : List Addr) (HP' H' : Hp) (bs : List Addr) : Prop where
  ex : Same HP HP'
  fr : ∀ a o, H a = some o → a ∉ as → H' a = some o
  sub : ∀ a ∈ bs, a ∈ as ∨ H a = none
  hp : ∀ a o, HP' a = some o → HP a = some o ∨ H a = none ∨ a ∈ as
  un : ∀ a, H' a = none → H a = none
theorem ne_none {α : Type} {o : Option α} (h : o ≠ none) : ∃ x, o = some x := by
  cases o with
  | none => exact absurd rfl h
  | some x => exact ⟨x, rfl⟩
theorem Stp.refl : Stp HP H as HP H as := ⟨Same.refl _, fun _ _ h _ => h, fun _ h => .inl h, fun _ _ h => .inl h, fun _ h => h⟩
theorem Stp.less {bs cs : List Addr} (x : Stp HP H as HP' H' bs) (h : ∀ a ∈ cs, a ∈ bs) : Stp HP H as HP' H' cs := ⟨x.ex, x.fr, fun a ha => x.sub a (h a ha), x.hp, x.un⟩
theorem Stp.from {bs cs : List Addr} (x : Stp HP H as HP' H' bs) (h : ∀ a ∈ as, a ∈ cs) : Stp HP H cs HP' H' bs :=
  ⟨x.ex, fun a o e n => x.fr a o e fun z => n (h a z), fun a ha => (x.sub a ha).elim (fun z => .inl (h a z)) .inr, fun a o e => (x.hp a o e).elim .inl fun z => z.elim (fun z => .inr (.inl z)) fun z => .inr (.inr (h a z)), x.un⟩
theorem Stp.trans {HP1 H1 HP2 H2 : Hp} {bs cs : List Addr} (x : Stp HP H as HP1 H1 bs) (y : Stp HP1 H1 bs HP2 H2 cs) : Stp HP H as HP2 H2 cs := by
  have back : ∀ a, a ∉ as → H a ≠ none → H1 a ≠ none ∧ a ∉ bs := fun a n h => by
    obtain ⟨o, e⟩ := ne_none h
    refine ⟨(by rw [x.fr a o e n]; exact fun q => (nomatch q)), fun hb => ?_⟩
    rcases x.sub a hb with z | z
    · exact n z
    · exact h z
  have dec : ∀ a, a ∈ bs ∨ H1 a = none → a ∈ as ∨ H a = none := fun a h => by
    by_cases h1 : a ∈ as
    · exact .inl h1
    · by_cases h2 : H a = none
      · exact .inr h2
      · obtain ⟨q1, q2⟩ := back a h1 h2
        rcases h with z | z
        · exact absurd z q2
        · exact absurd z q1
  refine ⟨x.ex.trans y.ex, fun a o e n => ?_, fun a ha => dec a (y.sub a ha), fun a o e => ?_, fun a h => x.un a (y.un a h)⟩
  · have q := back a n (by rw [e]; exact fun q => nomatch q)
    exact y.fr a o (x.fr a o e n) q.2
  · rcases y.hp a o e with z | z | z
    · exact x.hp a o z
    · rcases dec a (.inr z) with q | q
      · exact .inr (.inr q)
      · exact .inr (.inl q)
    · rcases dec a (.inl z) with q | q
      · exact .inr (.inr q)
      · exact .inr (.inl q)
theorem Rel.drop {ts' : List Addr} (r : Rel K C HP σ H env as ts) (h : ts'.Sublist ts) : Rel K C HP σ H env as ts' :=
  ⟨r.exP, r.exB, r.rep, r.nd.sublist (List.Sublist.append (List.Sublist.refl _) h), fun a ha => r.own a ((List.Sublist.append (List.Sublist.refl as) h).mem ha), r.pin⟩
theorem Rel.nots (r : Rel K C HP σ H env as ts) : Rel K C HP σ H env as [] := r.drop (List.nil_sublist _)
/-- pending temporaries stay -/
theorem Rel.pend {σ' : L2.St} {HP2 H2 : Hp} {env2 : En} {as2 t1 t2 : List Addr} (r : Rel K C HP σ' H env as t1) (x : Stp HP H as HP2 H2 (as2 ++ t2)) (r2 : Rel K C HP2 σ H2 env2 as2 t2) :
    Rel K C HP2 σ H2 env2 as2 (t1 ++ t2) ∧ (∀ a ∈ t1, H2 a = H a) ∧ Stp HP H (as ++ t1) HP2 H2 (as2 ++ (t1 ++ t2)) := by
  have nd := List.nodup_append.mp r.nd
  have t1a : ∀ a ∈ t1, a ∉ as := fun a h z => nd.2.2 a z a h rfl
  have stay : ∀ a ∈ t1, H2 a = H a := fun a h => by
    obtain ⟨o, e⟩ := ne_none (r.own a (List.mem_append_right _ h)).2.2
    rw [x.fr a o e (t1a a h), e]
  have fresh : ∀ a ∈ t1, a ∉ as2 ++ t2 := fun a h z => by
    rcases x.sub a z with q | q
    · exact t1a a h q
    · exact (r.own a (List.mem_append_right _ h)).2.2 q
  refine ⟨⟨r2.exP, r2.exB, r2.rep, ?_, fun a ha => ?_, r2.pin⟩, stay, x.ex, fun a o e n => x.fr a o e fun z => n (List.mem_append_left _ z), fun a ha => ?_, fun a o e => ?_, x.un⟩
  · have n2 := List.nodup_append.mp r2.nd
    refine List.nodup_append.mpr ⟨n2.1, List.nodup_append.mpr ⟨nd.2.1, n2.2.1, fun a ha b hb e => ?_⟩, fun a ha b hb e => ?_⟩
    · subst e; exact fresh a ha (List.mem_append_right _ hb)
    · subst e
      rcases List.mem_append.mp hb with hb | hb
      · exact fresh a hb (List.mem_append_left _ ha)
      · exact n2.2.2 a ha a hb rfl
  · rcases List.mem_append.mp ha with ha | ha
    · exact r2.own a (List.mem_append_left _ ha)
    · rcases List.mem_append.mp ha with ha | ha
      · have q := r.own a (List.mem_append_right _ ha)
        refine ⟨?_, q.2.1, by rw [stay a ha]; exact q.2.2⟩
        cases e : HP2 a with
        | none => rfl
        | some o =>
          rcases x.hp a o e with z | z | z
          · rw [q.1] at z; cases z
          · exact absurd z q.2.2
          · exact absurd z (t1a a ha)
      · exact r2.own a (List.mem_append_right _ ha)
  · rcases List.mem_append.mp ha with ha | ha
    · rcases x.sub a (List.mem_append_left _ ha) with z | z
      · exact .inl (List.mem_append_left _ z)
      · exact .inr z
    · rcases List.mem_append.mp ha with ha | ha
      · exact .inl (List.mem_append_right _ ha)
      · rcases x.sub a (List.mem_append_right _ ha) with z | z
        · exact .inl (List.mem_append_left _ z)
        · exact .inr z
  · rcases x.hp a o e with z | z | z
    · exact .inl z
    · exact .inr (.inl z)
    · exact .inr (.inr (List.mem_append_left _ z))
/-- a new object -/
theorem Rel.new {p : Addr} {o : HO} (r : Rel K C HP σ H env as ts) (hp : H p = none) : Rel K C HP σ (upd H p o) env as ts := by
  have ne : ∀ a, H a ≠ none → a ≠ p := fun a h e => h (by rw [e]; exact hp)
  refine ⟨fun a u e => ?_, fun a u e => ?_, r.rep.frame (Same.refl _) fun a ha => upd_ne (ne a (r.rep.there a ha)), r.nd, fun a ha => ?_, r.pin⟩
  · rw [upd_ne (ne_of_none (r.exP a u e) hp)]; exact r.exP a u e
  · rw [upd_ne (ne_of_none (r.exB a u e) hp)]; exact r.exB a u e
  · have q := r.own a ha
    exact ⟨q.1, q.2.1, by rw [upd_ne (ne a q.2.2)]; exact q.2.2⟩
theorem Rel.fresh {p : Addr} (r : Rel K C HP σ H env as ts) (hp : H p = none) : HP p = none ∧ C.HB p = none ∧ p ∉ as ++ ts := by
  refine ⟨r.exP.free hp, r.exB.free hp, fun h => (r.own p h).2.2 hp⟩
/-- .. held as a temporary -/
theorem Rel.newT {p : Addr} {o : HO} (r : Rel K C HP σ H env as ts) (hp : H p = none) : Rel K C HP σ (upd H p o) env as (p :: ts) := by
  have q := r.new (o := o) hp
  have f := r.fresh hp
  refine ⟨q.exP, q.exB, q.rep, ?_, fun a ha => ?_, q.pin⟩
  · have n := List.nodup_append.mp r.nd
    refine List.nodup_append.mpr ⟨n.1, List.nodup_cons.mpr ⟨fun h => f.2.2 (List.mem_append_right _ h), n.2.1⟩, fun a ha b hb e => ?_⟩
    subst e
    rcases List.mem_cons.mp hb with rfl | hb
    · exact f.2.2 (List.mem_append_left _ ha)
    · exact n.2.2 a ha a hb rfl
  · by_cases e : a = p
    · subst e
      exact ⟨f.1, f.2.1, by rw [upd_same]; exact fun q => nomatch q⟩
    · refine q.own a ?_
      rcases List.mem_append.mp ha with h | h
      · exact List.mem_append_left _ h
      · exact List.mem_append_right _ ((List.mem_cons.mp h).elim (fun z => absurd z e) id)
/-- .. held by no one, or frozen at once -/
theorem Same.put {p : Addr} {o : HO} (hp : HP p = none) : Same HP (upd HP p o) := fun a u e => by
  rw [upd_ne (ne_of_none e hp)]; exact e
theorem Rel.newP {p : Addr} {o : HO} (r : Rel K C HP σ H env as ts) (hp : H p = none) : Rel K C (upd HP p o) σ (upd H p o) env as ts := by
  have q := r.new (o := o) hp
  have f := r.fresh hp
  refine ⟨fun a u e => ?_, q.exB, q.rep.frame (Same.put f.1) fun _ _ => rfl, q.nd, fun a ha => ?_, q.pin⟩
  · by_cases z : a = p
    · subst z; rw [upd_same] at e ⊢; exact e
    · rw [upd_ne z] at e; exact q.exP a u e
  · have w := q.own a ha
    have z : a ≠ p := fun z => f.2.2 (by rw [← z]; exact ha)
    exact ⟨by rw [upd_ne z]; exact w.1, w.2⟩
theorem Stp.new {p : Addr} {o : HO} (hp : H p = none) : Stp HP H as HP (upd H p o) as :=
  ⟨Same.refl _, fun a u e _ => by rw [upd_ne (ne_of_none e hp)]; exact e, fun _ h => .inl h, fun _ _ h => .inl h, fun a h => by
    by_cases z : a = p
    · rw [z]; exact hp
    · rw [upd_ne z] at h; exact h⟩
theorem Stp.newT {p : Addr} {o : HO} {bs : List Addr} (hp : H p = none) (hb : ∀ a ∈ bs, a ∈ as ∨ a = p) : Stp HP H as HP (upd H p o) bs :=
  ⟨Same.refl _, (Stp.new (HP := HP) (as := as) hp).fr, fun a h => (hb a h).elim .inl fun z => .inr (by rw [z]; exact hp), fun _ _ h => .inl h, (Stp.new (HP := HP) (as := as) hp).un⟩
theorem Stp.newP {p : Addr} {o : HO} {bs : List Addr} (f : HP p = none) (hp : H p = none) (hb : ∀ a ∈ bs, a ∈ as) : Stp HP H as (upd HP p o) (upd H p o) bs :=
  ⟨Same.put f, (Stp.new (HP := HP) (as := as) hp).fr, fun a h => .inl (hb a h), fun a u e => by
    by_cases z : a = p
    · rw [z]; exact .inr (.inl hp)
    · rw [upd_ne z] at e; exact .inl e, (Stp.new (HP := HP) (as := as) hp).un⟩
end
end L3

namespace L3
open PySem L2
structure Ex3 where
  cls : Str
  fs : List (Str × PyData)
abbrev DX := Ex3 → En → Prop
abbrev DK := Vl → En → Prop
abbrev DE := DX → En → DK → Prop
abbrev DT := DX → En → (Bool → En → Prop) → Prop
abbrev DA := DX → En → (List Vl → En → Prop) → Prop

def RepV (K : PySem.W.Frag) (C : Ct) (HP H : Hp) (σ : L2.St) : Vl → V → List Addr → Prop
  | .tmp s, v, ts => RepS K C HP H s v ts
  | .loc i, v, ts => σ[i]? = some (some v) ∧ ts = []
def RepVs (K : PySem.W.Frag) (C : Ct) (HP H : Hp) (σ : L2.St) : List Vl → List V → List Addr → Prop
  | [], vs, ts => vs = [] ∧ ts = []
  | a :: as, vs, ts => ∃ v r t1 t2, vs = v :: r ∧ ts = t1 ++ t2 ∧ RepV K C HP H σ a v t1 ∧ RepVs K C HP H σ as r t2
def RpF (HP : Hp) : List (Str × V) → List (Str × PyData) → Prop := Paired fun (p : Str × V) (q : Str × PyData) => p.1 = q.1 ∧ Rp HP p.2 q.2
def ExR (HP H : Hp) (e : Ex3) (d : Option Addr) : Prop := (e.fs = [] ∧ d = none) ∨ (e.fs ≠ [] ∧ ∃ a fs, d = some a ∧ H a = some (.xd fs) ∧ RpF HP fs e.fs)
def lX (K : PySem.W.Frag) (C : Ct) (W : WX) (σ : L2.St) (HP H : Hp) (as : List Addr) : DX := fun e env' => ∀ HP' H' as' d, Rel K C HP' σ H' env' as' [] → Stp HP H as HP' H' as' → ExR HP' H' e d → W (C.cls e.cls) d σ H'
def Po (K : PySem.W.Frag) (C : Ct) (σ : L2.St) (HP H : Hp) (as : List Addr) (Q : VK) : DK := fun val env' => ∀ v HP' H' as' ts', Rel K C HP' σ H' env' as' ts' → Stp HP H as HP' H' (as' ++ ts') → RepV K C HP' H' σ val v ts' → Q v H'
def PoT (K : PySem.W.Frag) (C : Ct) (σ : L2.St) (HP H : Hp) (as : List Addr) (Q : Bool → Hp → Prop) : Bool → En → Prop := fun b env' => ∀ HP' H' as', Rel K C HP' σ H' env' as' [] → Stp HP H as HP' H' as' → Q b H'
def PoA (K : PySem.W.Frag) (C : Ct) (σ : L2.St) (HP H : Hp) (as : List Addr) (Q : List V → Hp → Prop) : List Vl → En → Prop := fun vals env' => ∀ vs HP' H' as' ts', Rel K C HP' σ H' env' as' ts' → Stp HP H as HP' H' (as' ++ ts') → RepVs K C HP' H' σ vals vs ts' → Q vs H'
def lift (K : PySem.W.Frag) (C : Ct) (W : WX) (t : DE) : TE := fun σ H Q => ∃ HP env as, Rel K C HP σ H env as [] ∧ t (lX K C W σ HP H as) env (Po K C σ HP H as Q)
def liftT (K : PySem.W.Frag) (C : Ct) (W : WX) (t : DT) : TT := fun σ H Q => ∃ HP env as, Rel K C HP σ H env as [] ∧ t (lX K C W σ HP H as) env (PoT K C σ HP H as Q)
def liftA (K : PySem.W.Frag) (C : Ct) (W : WX) (t : DA) : TA := fun σ H Q => ∃ HP env as, Rel K C HP σ H env as [] ∧ t (lX K C W σ HP H as) env (PoA K C σ HP H as Q)

def MonoE (t : DE) : Prop := ∀ (ex ex' : DX) (env : En) (Q Q' : DK), (∀ e n, ex e n → ex' e n) → (∀ v n, Q v n → Q' v n) → t ex env Q → t ex' env Q'
def MonoT (t : DT) : Prop := ∀ (ex ex' : DX) (env : En) (Q Q' : Bool → En → Prop), (∀ e n, ex e n → ex' e n) → (∀ v n, Q v n → Q' v n) → t ex env Q → t ex' env Q'
def MonoA (t : DA) : Prop := ∀ (ex ex' : DX) (env : En) (Q Q' : List Vl → En → Prop), (∀ e n, ex e n → ex' e n) → (∀ v n, Q v n → Q' v n) → t ex env Q → t ex' env Q'

structure DP (X : Cx) (C : Ct) (W : WX) (e : Expr) (t : DE) : Prop where
  run : PE X e (lift X.K C W t)
  mono : MonoE t
structure DPT (X : Cx) (C : Ct) (W : WX) (e : Expr) (t : DT) : Prop where
  run : PT X e (liftT X.K C W t)
  mono : MonoT t
structure DPA (X : Cx) (C : Ct) (W : WX) (es : List Expr) (t : DA) : Prop where
  run : PA X es (liftA X.K C W t)
  mono : MonoA t
theorem _root_.L2.PE.imp {X : Cx} {e : Expr} {t t' : TE} (h : PE X e t) (k : ∀ σ H Q, t' σ H Q → t σ H Q) : PE X e t' := ⟨fun pins s σ H Q I q => h.run pins s σ H Q I (k σ H Q q)⟩
theorem _root_.L2.PT.imp {X : Cx} {e : Expr} {t t' : TT} (h : PT X e t) (k : ∀ σ H Q, t' σ H Q → t σ H Q) : PT X e t' := ⟨fun pins s σ H Q I q => h.run pins s σ H Q I (k σ H Q q)⟩
theorem _root_.L2.PA.imp {X : Cx} {e : List Expr} {t t' : TA} (h : PA X e t) (k : ∀ σ H Q, t' σ H Q → t σ H Q) : PA X e t' := ⟨fun pos pins s σ H Q I q => h.run pos pins s σ H Q I (k σ H Q q)⟩

section
variable {K : PySem.W.Frag} {C : Ct} {W : WX} {HP HP' H H' : Hp} {σ : L2.St} {env : En} {as ts : List Addr} {s : Sl} {v : V}
theorem RepV.frame {val : Vl} (e : Same HP HP') (r : RepV K C HP H σ val v ts) (k : ∀ a ∈ ts, H' a = H a) : RepV K C HP' H' σ val v ts := by
  cases val with
  | tmp s => exact RepS.frame e r k
  | loc i => exact r
theorem RepVs.frame (e : Same HP HP') : ∀ {vals : List Vl} {vs : List V} {ts : List Addr}, RepVs K C HP H σ vals vs ts → (∀ a ∈ ts, H' a = H a) → RepVs K C HP' H' σ vals vs ts
  | [], _, _, r, _ => r
  | a :: as, vs, ts, r, k => by
    obtain ⟨v, w, t1, t2, rfl, rfl, h1, h2⟩ := r
    exact ⟨v, w, t1, t2, rfl, rfl, h1.frame e fun a ha => k a (List.mem_append_left _ ha), RepVs.frame e h2 fun a ha => k a (List.mem_append_right _ ha)⟩
/-- whatever holds it: it stands as these data -/
theorem RepS.rp (hP : Same HP H) (hB : Same C.HB H) (r : RepS K C HP H s v ts) {d : PyData} (e : dat env (.tmp s) = some d) : Rp H v d := by
  cases s with
  | sh d' => cases e; exact r.1.mono hP
  | bor d' => cases e; exact r.1.mono hB
  | own xs =>
    cases e
    obtain ⟨a, vs, rfl, _, h3, h4⟩ := r
    exact .lst h3 (h4.mono hP)
  | odk xs =>
    cases e
    obtain ⟨a, vs, rfl, _, h3, h4⟩ := r
    exact .dct h3 (h4.mono hP)
  | scr ns => cases e
  | ext ρ => cases e
theorem Rel.slot (r : Rel K C HP σ H env as ts) {i : Nat} (e : env[i]? = some (some s)) : ∃ v a, σ[i]? = some (some v) ∧ RepS K C HP H s v a ∧ ∀ b ∈ a, b ∈ as := by
  obtain ⟨v, pre, a, post, h1, h2, h3, _⟩ := r.rep.at i e
  cases v with
  | none => exact h3.elim
  | some v => exact ⟨v, a, h1, h3, fun b hb => by rw [h2]; simp [hb]⟩
theorem Rel.rp (r : Rel K C HP σ H env as ts) {val : Vl} {t : List Addr} (q : RepV K C HP H σ val v t) {d : PyData} (e : dat env val = some d) : Rp H v d := by
  cases val with
  | tmp s => exact RepS.rp r.exP r.exB q e
  | loc i =>
    cases h : env[i]? with
    | none => simp [dat, h] at e
    | some o => cases o with
      | none => simp [dat, h] at e
      | some s =>
        obtain ⟨v', a, e1, r1, _⟩ := r.slot h
        rw [q.1] at e1; cases e1
        refine RepS.rp (env := env) r.exP r.exB r1 ?_
        cases s <;> simp [dat, h] at e ⊢ <;> exact e
theorem Po.imp {Q Q' : VK} {val : Vl} {env' : En} (p : Po K C σ HP H as Q val env') (k : ∀ v H, Q v H → Q' v H) : Po K C σ HP H as Q' val env' := fun v HP' H' as' ts' r x q => k v H' (p v HP' H' as' ts' r x q)
theorem Po.sh {Q : VK} {d : PyData} {t : List Addr} (p : Po K C σ HP H t Q (.tmp (.sh d)) env) (r : Rel K C HP σ H env as ts) (h : ∀ a ∈ as, a ∈ t) (q : Rp HP v d) : Q v H :=
  p v HP H as [] r.nots (Stp.refl.less fun a ha => h a (by simpa using ha)) ⟨q, rfl⟩
theorem Po.bor {Q : VK} {d : PyData} {t : List Addr} (p : Po K C σ HP H t Q (.tmp (.bor d)) env) (r : Rel K C HP σ H env as ts) (h : ∀ a ∈ as, a ∈ t) (q : Rp C.HB v d) : Q v H :=
  p v HP H as [] r.nots (Stp.refl.less fun a ha => h a (by simpa using ha)) ⟨q, rfl⟩
theorem Po.own {Q : VK} {xs : List PyData} {vs : List V} {p : Addr} {t : List Addr} (h : Po K C σ HP H t Q (.tmp (.own xs)) env) (r : Rel K C HP σ H env as ts) (hs : ∀ a ∈ as, a ∈ t) (hp : H p = none) (q : RpAll HP vs xs) : Q (.ref p) (upd H p (.lst vs)) :=
  h (.ref p) HP _ as [p] (r.nots.newT hp) (Stp.newT hp fun a ha => by
    rcases List.mem_append.mp ha with z | z
    · exact .inl (hs a z)
    · exact .inr (by simpa using z)) ⟨p, vs, rfl, rfl, upd_same, q⟩
theorem Po.dict {Q : VK} {xs : List (PyData × PyData)} {vs : List (Key × V)} {p : Addr} {t : List Addr} (h : Po K C σ HP H t Q (.tmp (.odk xs)) env) (r : Rel K C HP σ H env as ts) (hs : ∀ a ∈ as, a ∈ t) (hp : H p = none) (q : RpKV HP vs xs) : Q (.ref p) (upd H p (.dK vs)) :=
  h (.ref p) HP _ as [p] (r.nots.newT hp) (Stp.newT hp fun a ha => by
    rcases List.mem_append.mp ha with z | z
    · exact .inl (hs a z)
    · exact .inr (by simpa using z)) ⟨p, vs, rfl, rfl, upd_same, q⟩
/-- a new tuple, frozen at once -/
theorem Po.tup {Q : VK} {xs : List PyData} {vs : List V} {p : Addr} {t : List Addr} (h : Po K C σ HP H t Q (.tmp (.sh (.tuple xs))) env) (r : Rel K C HP σ H env as ts) (hs : ∀ a ∈ as, a ∈ t) (hp : H p = none) (q : RpAll HP vs xs) : Q (.ref p) (upd H p (.tup vs)) :=
  h (.ref p) (upd HP p (.tup vs)) _ as [] (r.nots.newP hp) (Stp.newP (r.fresh hp).1 hp fun a ha => hs a (by simpa using ha)) ⟨.tup upd_same (q.mono (Same.put (r.fresh hp).1)), rfl⟩
theorem lX.imp {as1 bs : List Addr} {HP1 H1 : Hp} {e : Ex3} {n : En} (h : lX K C W σ HP H as e n) (x : Stp HP H as HP1 H1 bs) (hb : ∀ a ∈ as1, a ∈ bs) : lX K C W σ HP1 H1 as1 e n := fun HP' H' as' d r y q => h HP' H' as' d r ((x.less hb).trans y) q
end

def d2 (ta tb : DE) (k : Vl → Vl → En → DK → Prop) : DE := fun ex env Q => ta ex env fun va env1 => tb ex env1 fun vb env2 => k va vb env2 Q
def d1 (ta : DE) (k : Vl → En → DK → Prop) : DE := fun ex env Q => ta ex env fun va env1 => k va env1 Q
def MonoK2 (k : Vl → Vl → En → DK → Prop) : Prop := ∀ a b n Q Q', (∀ v n, Q v n → Q' v n) → k a b n Q → k a b n Q'
def MonoK1 (k : Vl → En → DK → Prop) : Prop := ∀ a n Q Q', (∀ v n, Q v n → Q' v n) → k a n Q → k a n Q'
theorem MonoE.d2 {ta tb : DE} {k : Vl → Vl → En → DK → Prop} (ma : MonoE ta) (mb : MonoE tb) (mk : MonoK2 k) : MonoE (d2 ta tb k) := fun ex ex' env Q Q' he hq h =>
  ma ex ex' env _ _ he (fun va n h1 => mb ex ex' n _ _ he (fun vb n2 h2 => mk va vb n2 Q Q' hq h2) h1) h
theorem MonoE.d1 {ta : DE} {k : Vl → En → DK → Prop} (ma : MonoE ta) (mk : MonoK1 k) : MonoE (d1 ta k) := fun ex ex' env Q Q' he hq h =>
  ma ex ex' env _ _ he (fun va n h1 => mk va n Q Q' hq h1) h
/-- an operation by values keeps the reading k -/
def Ok2 (K : PySem.W.Frag) (C : Ct) (r : R2) (k : Vl → Vl → En → DK → Prop) : Prop :=
  ∀ (σ : L2.St) (HP H : Hp) (env : En) (as t1 t2 : List Addr) (va vb : Vl) (x y : V) (Qd : DK) (Q : VK), Rel K C HP σ H env as (t1 ++ t2) → RepV K C HP H σ va x t1 → RepV K C HP H σ vb y t2 → k va vb env Qd →
    (∀ val n, Qd val n → Po K C σ HP H (as ++ (t1 ++ t2)) Q val n) → r x y H Q
def Ok1 (K : PySem.W.Frag) (C : Ct) (r : V → Hp → VK → Prop) (k : Vl → En → DK → Prop) : Prop :=
  ∀ (σ : L2.St) (HP H : Hp) (env : En) (as t1 : List Addr) (va : Vl) (x : V) (Qd : DK) (Q : VK), Rel K C HP σ H env as t1 → RepV K C HP H σ va x t1 → k va env Qd →
    (∀ val n, Qd val n → Po K C σ HP H (as ++ t1) Q val n) → r x H Q
section
variable {K : PySem.W.Frag} {C : Ct} {W : WX} {ta tb : DE} {k : Vl → Vl → En → DK → Prop} {k1 : Vl → En → DK → Prop} {r : R2} {r1 : V → Hp → VK → Prop} {σ : L2.St} {H : Hp} {Q : VK}
theorem lift2 (ma : MonoE ta) (mb : MonoE tb) (ok : Ok2 K C r k) (h : lift K C W (d2 ta tb k) σ H Q) : lift K C W ta σ H fun x H1 => lift K C W tb σ H1 fun y H2 => r x y H2 Q := by
  obtain ⟨HP, env, as, R, h⟩ := h
  refine ⟨HP, env, as, R, ma _ _ env _ _ (fun _ _ z => z) (fun va n h1 => ?_) h⟩
  intro x HP1 H1 as1 t1 R1 X1 V1
  refine ⟨HP1, n, as1, R1.nots, mb _ _ n _ _ (fun e n z => z.imp X1 fun a ha => List.mem_append_left _ ha) (fun vb n2 h2 => ?_) h1⟩
  intro y HP2 H2 as2 t2 R2 X2 V2
  obtain ⟨R3, st, X3⟩ := R1.pend X2 R2
  exact ok σ HP2 H2 n2 as2 t1 t2 va vb x y _ Q R3 (V1.frame X2.ex st) V2 h2 fun val m q v HP' H' as' ts' R' X' V' => q v HP' H' as' ts' R' ((X1.trans X3).trans X') V'
theorem lift1 (ma : MonoE ta) (ok : Ok1 K C r1 k1) (h : lift K C W (d1 ta k1) σ H Q) : lift K C W ta σ H fun x H1 => r1 x H1 Q := by
  obtain ⟨HP, env, as, R, h⟩ := h
  refine ⟨HP, env, as, R, ma _ _ env _ _ (fun _ _ z => z) (fun va n h1 => ?_) h⟩
  intro x HP1 H1 as1 t1 R1 X1 V1
  exact ok σ HP1 H1 n as1 t1 va x _ Q R1 V1 h1 fun val m q v HP' H' as' ts' R' X' V' => q v HP' H' as' ts' R' (X1.trans X') V'
end
section
variable {X : Cx} {C : Ct} {W : WX} {a b : Expr} {ta tb : DE} {k : Vl → Vl → En → DK → Prop} {k1 : Vl → En → DK → Prop} {r : R2} {r1 : V → Hp → VK → Prop} {pos : Pos}
theorem dp_op {op : Operator} (ho : OpR X (binaryOp op) r) (ok : Ok2 X.K C r k) (mk : MonoK2 k) (ha : DP X C W a ta) (hb : DP X C W b tb) : DP X C W (.BinOp a op b pos) (d2 ta tb k) :=
  ⟨(pe_op ho ha.run hb.run).imp fun σ H Q h => lift2 ha.mono hb.mono ok h, ha.mono.d2 hb.mono mk⟩
theorem dp_cmp {op : CmpOp} (ho : OpR X (compareOp op) r) (ok : Ok2 X.K C r k) (mk : MonoK2 k) (ha : DP X C W a ta) (hb : DP X C W b tb) (hm : behindInMarks op b = false) : DP X C W (.Compare a [op] [b] pos) (d2 ta tb k) :=
  ⟨(pe_cmpR ho ha.run hb.run hm).imp fun σ H Q h => lift2 ha.mono hb.mono ok h, ha.mono.d2 hb.mono mk⟩
theorem dp_un {op : UnaryOp} (ho : UnR X (unaryOp op) r1) (ok : Ok1 X.K C r1 k1) (mk : MonoK1 k1) (ha : DP X C W a ta) : DP X C W (.UnaryOp op a pos) (d1 ta k1) :=
  ⟨(pe_un ho ha.run).imp fun σ H Q h => lift1 ha.mono ok h, ha.mono.d1 mk⟩
theorem dp_ixR (hr : IxR X r) (ok : Ok2 X.K C r k) (mk : MonoK2 k) (ha : DP X C W a ta) (hb : DP X C W b tb) (hs : PlainIx b) : DP X C W (.Subscript a b pos) (d2 ta tb k) :=
  ⟨(pe_ix hr ha.run hb.run hs).imp fun σ H Q h => lift2 ha.mono hb.mono ok h, ha.mono.d2 hb.mono mk⟩
end

def dVar (i : Nat) : DE := fun _ env Q => ∃ s, env[i]? = some (some s) ∧ (match s with
  | .sh d => Q (.tmp (.sh d)) env
  | .bor d => Q (.tmp (.bor d)) env
  | .scr ns => Q (.tmp (.scr ns)) env
  | _ => Q (.loc i) env)
def dC (d : PyData) : DE := fun _ env Q => Q (.tmp (.sh d)) env
theorem mono_var {i : Nat} : MonoE (dVar i) := fun ex ex' env Q Q' _ hq ⟨s, e, h⟩ => ⟨s, e, by cases s <;> exact hq _ _ h⟩
theorem mono_c {d : PyData} : MonoE (dC d) := fun ex ex' env Q Q' _ hq h => hq _ _ h
section
variable {X : Cx} {C : Ct} {W : WX} {pos : Pos}
theorem lift_c {K : PySem.W.Frag} {v : V} {d : PyData} (h : ∀ H, Rp H v d) {σ : L2.St} {H : Hp} {Q : VK} (q : lift K C W (dC d) σ H Q) : Q v H := by
  obtain ⟨HP, env, as, R, p⟩ := q
  exact Po.sh p R (fun a ha => ha) (h HP)
theorem dv (i : Nat) {x : Str} (hN : X.N[i]? = some x := by rfl) (hv : Vis X.env.scope x := by first | exact Or.inl rfl | exact Or.inr (Or.inl rfl) | exact Or.inr (Or.inr rfl)) (hd : (x == ("__debug__" : Str)) = false := by decide)
    (hcd : (x == ("__classdict__" : Str)) = false := by decide) : DP X C W (.Name x pos) (dVar i) := by
  refine ⟨(pe_var hN hv hd hcd).imp fun σ H Q h => ?_, mono_var⟩
  obtain ⟨HP, env, as, R, s, e, p⟩ := h
  obtain ⟨v, a, e1, r, _⟩ := R.slot e
  refine ⟨v, e1, ?_⟩
  cases s with
  | sh d => exact Po.sh p R (fun a ha => ha) r.1
  | bor d => exact Po.bor p R (fun a ha => ha) r.1
  | own xs => exact p v HP H as [] R (Stp.refl.less fun a ha => by simpa using ha) ⟨e1, rfl⟩
  | odk xs => exact p v HP H as [] R (Stp.refl.less fun a ha => by simpa using ha) ⟨e1, rfl⟩
  | scr ns =>
    obtain ⟨b, h1, h2, h3⟩ := r
    exact p v HP H as [] R (Stp.refl.less fun a ha => by simpa using ha) ⟨b, h1, rfl, h3⟩
  | ext ρ => exact p v HP H as [] R (Stp.refl.less fun a ha => by simpa using ha) ⟨e1, rfl⟩
theorem di {i j} : DP X C W (.Constant (.int i) j pos) (dC (.int i)) := ⟨pe_int.imp fun σ H Q h => lift_c (fun H => .int i) h, mono_c⟩
theorem db {b j} : DP X C W (.Constant (.bool b) j pos) (dC (.bool b)) := ⟨pe_bl.imp fun σ H Q h => lift_c (fun H => .bl b) h, mono_c⟩
theorem dn {j} : DP X C W (.Constant .none j pos) (dC .none) := ⟨pe_non.imp fun σ H Q h => lift_c (fun H => .non) h, mono_c⟩
theorem ds {x j} : DP X C W (.Constant (.str x) j pos) (dC (.str x)) := ⟨pe_str.imp fun σ H Q h => lift_c (fun H => .str x) h, mono_c⟩
/-- a module's constant -/
theorem dg {x : Str} {u : Value} {v : V} {d : PyData} (hg : Gl X x) (hm : X.mg x = some u) (r : RelV v u) (hd : ∀ H, Rp H v d) (hdb : (x == ("__debug__" : Str)) = false := by decide) : DP X C W (.Name x pos) (dC d) :=
  ⟨(pe_glob hg hm r hdb).imp fun σ H Q h => lift_c hd h, mono_c⟩
end
end L3

namespace L3
open PySem PySem.Spec PyProof.Rows L2 PySem.SeqAt AutoSeq1 MeetsSeq
theorem str_eq_declines_dict (b : Str) (u : Tok) (l : Addr) (o : Obj) :
    Meets (Builtin.«str.__eq__» ⟨[.str b u, .ref l], []⟩) (fun _ R s => s.heap.get? l = some o ∧ o.cls = .type "dict" ∧ (∃ es ep, o.data = .dict es ep) ∧ R (.ok (.ret .notImplemented)) s) :=
  .of_wp fun prog w A R s h => by
    obtain ⟨hp, g, d, tk, os⟩ := s
    obtain ⟨hl, hc, ⟨es, ep, hd⟩, h⟩ := h
    obtain ⟨oc, od, dt, sl⟩ := o
    dsimp only at hc hd
    subst hc hd
    wp_walk using wpAny_load hl
    exact ⟨_, rfl, h⟩
theorem op_eqKS {X : Cx} (hu : X.A.units < cLine) : OpR X (compareOp .Eq) (fun x y H Q => ∃ a kvs b, x = .ref a ∧ H a = some (.dK kvs) ∧ y = .str b ∧ Q (.bl false) H) := by
  intro pins s σ H x y v u Q I rx ry h
  obtain ⟨a, kvs, b, rfl, ea, rfl, q⟩ := h
  obtain rfl : v = Value.ref a := rx
  obtain ⟨t, rfl⟩ : ∃ t, u = Value.str b t := ry
  obtain ⟨_, ya, va, ra, da⟩ := (show ObjOk X.prog X.w H s.heap a (.dK kvs) from I.hok a _ ea)
  obtain ⟨o, es, ep, ho, hx, hd, _⟩ := id da
  have hc : o.cls = .type "dict" := by
    obtain ⟨o', ho', hc'⟩ := da.typeIs
    rw [ho] at ho'; cases ho'; exact hc'
  show wpAny _ _ (richCompare .Eq (.ref a) (.str b t)) _ _ s
  refine rc_eq_decline_or (k := false) da.typeIs (typeIs_str s b t) (by decide) F.sub_str_dict F.slot_dict_eq F.slot_str_eq_refl ?_
    (fun _ hq => call_meets F.slot_str_eq_refl (typeIs_str s b t) F.entry_str_eq (F.args_str_eq_2 _ _) (str_eq_declines_dict b t a o) ⟨ho, hc, ⟨es, ep, hd⟩, hq⟩)
    (fun _ hq => wpAny_of_eq (rfl : isSame (.ref a) (.str b t) = pure false) hq) (.inr hu) ⟨.bl false, H, I, rfl, q⟩
  intro Q' hq
  refine wpAny_call_entry F.slot_dict_eq da.typeIs F.entry_dict_eq ?_ (F.args_dict_eq_2 _ _)
  show wpAny _ _ (Builtin.Dict.dictSlotArgs "__eq__" ⟨[.ref a, .str b t], []⟩ >>= _) _ _ s
  refine wpAny_bind ?_
  unfold Builtin.Dict.dictSlotArgs
  refine wpAny_bind (wpAny_notOrdered_dict da.typeIs ?_)
  show wpAny _ _ (pure (Value.ref a, Value.str b t)) _ _ s
  refine wpAny_pure ?_
  refine wpAny_bind (wpAny_isInstance (typeIs_str s b t) F.sub_str_dict ?_)
  refine wpAny_bind (wpAny_rule ?_)
  exact wpAny_pure ⟨_, rfl, hq⟩
end L3

namespace L3
open PySem L2

def scal : PyData → Bool
  | .none | .bool _ | .int _ | .str _ => true
  | _ => false
theorem scal_ints (ns : List Int) : (ns.map PyData.int).all scal = true := List.all_eq_true.mpr fun d hd => by
  obtain ⟨n, _, rfl⟩ := List.mem_map.mp hd
  rfl
theorem scal_strs (ns : List Str) : (ns.map PyData.str).all scal = true := List.all_eq_true.mpr fun d hd => by
  obtain ⟨n, _, rfl⟩ := List.mem_map.mp hd
  rfl
def permS : Sl → Bool
  | .bor (.list xs) => xs.all scal
  | .bor (.tuple xs) => xs.all scal
  | .bor d => scal d
  | _ => true
def slotOf (env : En) : Vl → Option Sl
  | .tmp s => some s
  | .loc i => (env[i]?).join
def perm (env : En) (v : Vl) : Bool := match slotOf env v with
  | some s => permS s
  | none => false
/-- the item of what s holds -/
def chS (s : Sl) (d : PyData) : Sl := match s with
  | .bor _ => .bor d
  | _ => .sh d
def ch (env : En) (v : Vl) (d : PyData) : Vl := match slotOf env v with
  | some s => .tmp (chS s d)
  | none => .tmp (.sh d)

theorem Rp.scal {H H' : Hp} : ∀ {v : V} {d : PyData}, Rp H v d → scal d = true → Rp H' v d
  | _, _, .non, _ => .non
  | _, _, .bl b, _ => .bl b
  | _, _, .int i, _ => .int i
  | _, _, .str x, _ => .str x
  | _, _, .lst _ _, z => by cases z
  | _, _, .tup _ _, z => by cases z
  | _, _, .dct _ _, z => by cases z
theorem RpAll.scal {H H' : Hp} : ∀ {vs : List V} {ds : List PyData}, RpAll H vs ds → ds.all scal = true → RpAll H' vs ds
  | _, _, .nil, _ => .nil
  | _, _, .cons h r, z => by
    rw [List.all_cons, Bool.and_eq_true] at z
    exact .cons (h.scal z.1) (r.scal z.2)
section
variable {K : PySem.W.Frag} {C : Ct} {W : WX} {HP HP' H H' : Hp} {σ : L2.St} {env : En} {as ts : List Addr} {s : Sl} {v x y : V} {va vb : Vl} {t : List Addr}
theorem dat_slot {d : PyData} (e : dat env va = some d) : ∃ s, slotOf env va = some s ∧ s.dat = d ∧ s.isD = true := by
  cases va with
  | tmp s => cases s <;> simp [dat] at e <;> exact ⟨_, rfl, e, rfl⟩
  | loc i =>
    cases h : env[i]? with
    | none => simp [dat, h] at e
    | some o => cases o with
      | none => simp [dat, h] at e
      | some s =>
        have h' : slotOf env (.loc i) = some s := by simp [slotOf, h]
        cases s <;> simp [dat, h] at e <;> exact ⟨_, h', e, rfl⟩
theorem Rel.here (r : Rel K C HP σ H env as ts) (q : RepV K C HP H σ va x t) (e : slotOf env va = some s) : ∃ a, RepS K C HP H s x a := by
  cases va with
  | tmp s' => cases e; exact ⟨t, q⟩
  | loc i =>
    have e' : env[i]? = some (some s) := by
      unfold slotOf at e
      dsimp only at e
      cases h : env[i]? with
      | none => rw [h] at e; cases e
      | some o => rw [h] at e; cases o with
        | none => cases e
        | some s' => cases e; rfl
    obtain ⟨v', a, e1, r1, _⟩ := r.slot e'
    rw [q.1] at e1; cases e1
    exact ⟨a, r1⟩
/-- a list's items, as they may be kept -/
theorem Rel.kids (r : Rel K C HP σ H env as ts) (q : RepV K C HP H σ va x t) {xs : List PyData} (e : dat env va = some (.list xs)) (p : perm env va = true) : ∃ a vs, x = .ref a ∧ H a = some (.lst vs) ∧ RpAll HP vs xs := by
  obtain ⟨s, h1, h2, h3⟩ := dat_slot e
  obtain ⟨a, rs⟩ := r.here q h1
  unfold perm at p
  rw [h1] at p
  cases s with
  | sh d =>
    cases h2
    obtain ⟨rs, _⟩ := rs
    cases rs with
    | lst g k => exact ⟨_, _, rfl, r.exP _ _ g, k⟩
  | bor d =>
    cases h2
    obtain ⟨rs, _⟩ := rs
    cases rs with
    | lst g k => exact ⟨_, _, rfl, r.exB _ _ g, k.scal p⟩
  | own ys =>
    cases h2
    obtain ⟨a, vs, e1, _, e3, e4⟩ := rs
    exact ⟨a, vs, e1, e3, e4⟩
  | odk kvs => cases h2
  | scr ns => cases h3
  | ext ρ => cases h3
theorem Rel.kidsT (r : Rel K C HP σ H env as ts) (q : RepV K C HP H σ va x t) {xs : List PyData} (e : dat env va = some (.tuple xs)) (p : perm env va = true) : ∃ a vs, x = .ref a ∧ H a = some (.tup vs) ∧ RpAll HP vs xs := by
  obtain ⟨s, h1, h2, h3⟩ := dat_slot e
  obtain ⟨a, rs⟩ := r.here q h1
  unfold perm at p
  rw [h1] at p
  cases s with
  | sh d =>
    cases h2
    obtain ⟨rs, _⟩ := rs
    cases rs with
    | tup g k => exact ⟨_, _, rfl, r.exP _ _ g, k⟩
  | bor d =>
    cases h2
    obtain ⟨rs, _⟩ := rs
    cases rs with
    | tup g k => exact ⟨_, _, rfl, r.exB _ _ g, k.scal p⟩
  | own ys => cases h2
  | odk kvs => cases h2
  | scr ns => cases h3
  | ext ρ => cases h3
/-- an item of a list or tuple -/
theorem Rel.child (r : Rel K C HP σ H env as ts) (q : RepV K C HP H σ va x t) {xs : List PyData} (e : dat env va = some (.list xs) ∨ dat env va = some (.tuple xs)) :
    ∃ a vs, x = .ref a ∧ (dat env va = some (.list xs) → H a = some (.lst vs)) ∧ (dat env va = some (.tuple xs) → H a = some (.tup vs)) ∧ vs.length = xs.length ∧
      ∀ (i : Nat) (d : PyData), xs[i]? = some d → ∃ w, vs[i]? = some w ∧ RepV K C HP H σ (ch env va d) w [] := by
  have e0 : ∃ d, dat env va = some d := e.elim (fun z => ⟨_, z⟩) fun z => ⟨_, z⟩
  obtain ⟨d0, e0⟩ := e0
  obtain ⟨s, h1, h2, h3⟩ := dat_slot e0
  obtain ⟨b, rs⟩ := r.here q h1
  have hc : ∀ d, ch env va d = .tmp (chS s d) := fun d => by unfold ch; rw [h1]
  have bor2 : ∀ {w : V} {d : PyData}, Rp C.HB w d → RepS K C HP H (chS (.bor .none) d) w [] := fun {w d} g => by
    exact ⟨g, rfl⟩
  rcases e with e | e
  · rw [e] at e0
    have e1 := Option.some.inj e0
    subst e1
    cases s with
    | sh d =>
      cases h2
      obtain ⟨rs, _⟩ := rs
      cases rs with
      | lst g k =>
        refine ⟨_, _, rfl, fun _ => r.exP _ _ g, (fun z => by rw [e] at z; cases z), k.length, fun i d hi => ?_⟩
        obtain ⟨w, w1, w2⟩ := k.get hi
        rw [hc]; exact ⟨w, w1, w2, rfl⟩
    | bor d =>
      cases h2
      obtain ⟨rs, _⟩ := rs
      cases rs with
      | lst g k =>
        refine ⟨_, _, rfl, fun _ => r.exB _ _ g, (fun z => by rw [e] at z; cases z), k.length, fun i d hi => ?_⟩
        obtain ⟨w, w1, w2⟩ := k.get hi
        rw [hc]; exact ⟨w, w1, bor2 w2⟩
    | own ys =>
      cases h2
      obtain ⟨a, vs, e1, _, e3, k⟩ := rs
      refine ⟨a, vs, e1, fun _ => e3, (fun z => by rw [e] at z; cases z), k.length, fun i d hi => ?_⟩
      obtain ⟨w, w1, w2⟩ := k.get hi
      rw [hc]; exact ⟨w, w1, w2, rfl⟩
    | odk kvs => cases h2
    | scr ns => cases h3
    | ext ρ => cases h3
  · rw [e] at e0
    have e1 := Option.some.inj e0
    subst e1
    cases s with
    | sh d =>
      cases h2
      obtain ⟨rs, _⟩ := rs
      cases rs with
      | tup g k =>
        refine ⟨_, _, rfl, (fun z => by rw [e] at z; cases z), fun _ => r.exP _ _ g, k.length, fun i d hi => ?_⟩
        obtain ⟨w, w1, w2⟩ := k.get hi
        rw [hc]; exact ⟨w, w1, w2, rfl⟩
    | bor d =>
      cases h2
      obtain ⟨rs, _⟩ := rs
      cases rs with
      | tup g k =>
        refine ⟨_, _, rfl, (fun z => by rw [e] at z; cases z), fun _ => r.exB _ _ g, k.length, fun i d hi => ?_⟩
        obtain ⟨w, w1, w2⟩ := k.get hi
        rw [hc]; exact ⟨w, w1, bor2 w2⟩
    | own ys => cases h2
    | odk kvs => cases h2
    | scr ns => cases h3
    | ext ρ => cases h3
theorem in_app {as t1 t2 : List Addr} : ∀ a ∈ as, a ∈ as ++ (t1 ++ t2) := fun a h => List.mem_append_left _ h
theorem in_app1 {as t1 : List Addr} : ∀ a ∈ as, a ∈ as ++ t1 := fun a h => List.mem_append_left _ h
end

def BIG : Nat := 2 ^ 400000
theorem big_of {n k : Nat} (h : n < 2 ^ k) (hk : k ≤ 400000) : n < BIG := Nat.lt_of_lt_of_le h (Nat.pow_le_pow_right (by decide) hk)
def MOk (i j : Int) : Prop := i.natAbs < BIG ∧ j.natAbs < BIG
theorem MOk.w {i j : Int} (h : MOk i j) : CMulW i j := wide_mul (a := 400000) (b := 400000) h.1 h.2 (by omega) (by omega) (by omega)
def DOk (j : Int) : Prop := 0 < j ∧ j < 2 ^ 1000
theorem DOk.w {i j : Int} (h : DOk j) : CDivW i j := wide_div (b := 1000) h.1 (by have := h.1; have := h.2; omega) (by omega) (by omega)
def kAdd : Vl → Vl → En → DK → Prop := fun va vb env Q => match dat env va, dat env vb with
  | some (.int i), some (.int j) => Q (.tmp (.sh (.int (i + j)))) env
  | some (.str s), some (.str t) => s.length + t.length ≤ sizeLine ∧ Q (.tmp (.sh (.str (s ++ t)))) env
  | some (.list xs), some (.list ys) => perm env va = true ∧ perm env vb = true ∧ xs.length + ys.length ≤ sizeLine ∧ Q (.tmp (.own (xs ++ ys))) env
  | _, _ => False
def kInt (P : Int → Int → Prop) (f : Int → Int → PyData) : Vl → Vl → En → DK → Prop := fun va vb env Q => match dat env va, dat env vb with
  | some (.int i), some (.int j) => P i j ∧ Q (.tmp (.sh (f i j))) env
  | _, _ => False
def kMul : Vl → Vl → En → DK → Prop := fun va vb env Q => match dat env va, dat env vb with
  | some (.int i), some (.int j) => MOk i j ∧ Q (.tmp (.sh (.int (i * j)))) env
  | some (.list xs), some (.int j) => perm env va = true ∧ 0 ≤ j ∧ j < 2 ^ 62 ∧ xs.length * j.toNat ≤ sizeLine ∧ Q (.tmp (.own (List.replicate j.toNat xs).flatten)) env
  | _, _ => False
theorem mono_add : MonoK2 kAdd := fun a b n Q Q' hq h => by
  unfold kAdd at h ⊢
  split at h
  · exact hq _ _ h
  · exact ⟨h.1, hq _ _ h.2⟩
  · exact ⟨h.1, h.2.1, h.2.2.1, hq _ _ h.2.2.2⟩
  · exact h
theorem mono_kInt {P f} : MonoK2 (kInt P f) := fun a b n Q Q' hq h => by
  unfold kInt at h ⊢
  split at h
  · exact ⟨h.1, hq _ _ h.2⟩
  · exact h
theorem mono_mul : MonoK2 kMul := fun a b n Q Q' hq h => by
  unfold kMul at h ⊢
  split at h
  · exact ⟨h.1, hq _ _ h.2⟩
  · exact ⟨h.1, h.2.1, h.2.2.1, h.2.2.2.1, hq _ _ h.2.2.2.2⟩
  · exact h
theorem ok_int {K : PySem.W.Frag} {C : Ct} {P : Int → Int → Prop} {f : Int → Int → PyData} {R : Int → Int → Prop} {g : Int → Int → V} (hP : ∀ i j, P i j → R i j) (hf : ∀ H i j, Rp H (g i j) (f i j)) : Ok2 K C (rI R g) (kInt P f) :=
  fun σ HP H env as t1 t2 va vb x y Qd Q r qa qb h k => by
    unfold kInt at h
    split at h
    · rename_i i j e1 e2
      have a := r.rp qa e1
      have b := r.rp qb e2
      cases a; cases b
      exact ⟨i, j, rfl, rfl, hP i j h.1, (k _ _ h.2).sh r in_app (hf HP i j)⟩
    · exact h.elim
theorem ok_int0 {K : PySem.W.Frag} {C : Ct} {f : Int → Int → PyData} {g : Int → Int → V} (hf : ∀ H i j, Rp H (g i j) (f i j)) : Ok2 K C (rI0 g) (kInt (fun _ _ => True) f) :=
  fun σ HP H env as t1 t2 va vb x y Qd Q r qa qb h k => by
    obtain ⟨i, j, e1, e2, _, q⟩ := ok_int (K := K) (C := C) (R := fun _ _ => True) (fun _ _ z => z) hf σ HP H env as t1 t2 va vb x y Qd Q r qa qb h k
    exact ⟨i, j, e1, e2, q⟩
theorem ok_add {K : PySem.W.Frag} {C : Ct} : Ok2 K C (fun x y H Q => (rI0 fun i j => .int (i + j)) x y H Q ∨ ((∃ i j, x = V.str i ∧ y = V.str j ∧ i.length + j.length ≤ sizeLine ∧ Q (.str (i ++ j)) H) ∨ rCat x y H Q)) kAdd :=
  fun σ HP H env as t1 t2 va vb x y Qd Q r qa qb h k => by
    unfold kAdd at h
    split at h
    · rename_i i j e1 e2
      have a := r.rp qa e1
      have b := r.rp qb e2
      cases a; cases b
      exact .inl ⟨i, j, rfl, rfl, (k _ _ h).sh r in_app (.int _)⟩
    · rename_i s t e1 e2
      have a := r.rp qa e1
      have b := r.rp qb e2
      cases a; cases b
      exact .inr (.inl ⟨s, t, rfl, rfl, h.1, (k _ _ h.2).sh r in_app (.str _)⟩)
    · rename_i xs ys e1 e2
      obtain ⟨pa, pb, hz, hq⟩ := h
      obtain ⟨a, vs, rfl, ha, ra⟩ := r.kids qa e1 pa
      obtain ⟨b, ws, rfl, hb, rb⟩ := r.kids qb e2 pb
      exact .inr (.inr ⟨a, b, vs, ws, rfl, rfl, ha, hb, by rw [ra.length, rb.length]; exact hz, fun p hp => (k _ _ hq).own r in_app hp (ra.append rb)⟩)
    · exact h.elim
theorem ok_mul {K : PySem.W.Frag} {C : Ct} : Ok2 K C (fun x y H Q => rI CMulW (fun i j => .int (i * j)) x y H Q ∨ rRep x y H Q) kMul :=
  fun σ HP H env as t1 t2 va vb x y Qd Q r qa qb h k => by
    unfold kMul at h
    split at h
    · rename_i i j e1 e2
      have a := r.rp qa e1
      have b := r.rp qb e2
      cases a; cases b
      exact .inl ⟨i, j, rfl, rfl, h.1.w, (k _ _ h.2).sh r in_app (.int _)⟩
    · rename_i xs j e1 e2
      obtain ⟨pa, h0, h1, hz, hq⟩ := h
      obtain ⟨a, vs, rfl, ha, ra⟩ := r.kids qa e1 pa
      have b := r.rp qb e2
      cases b
      exact .inr ⟨a, j, vs, rfl, rfl, ha, by omega, by omega, by rw [ra.length]; exact hz, fun p hp => (k _ _ hq).own r in_app hp (ra.rep _)⟩
    · exact h.elim
/-- ** of great numbers -/
def CPowW (i j : Int) : Prop := 0 ≤ j ∧ j ≤ 4 ∧ i.natAbs < 2 ^ 1000 ∨ CPow i j
theorem op_powW {X : Cx} : OpR X (binaryOp .Pow) (rI CPowW fun i j => .int (i ^ j.toNat)) := opI fun i j _ _ _ _ _ hc q => by
  rcases hc with ⟨h0, h1, h2⟩ | hc
  · refine PyProof.Rows.pow_int h0 ?_ q
    have hb : Builtin.Int.intBits i ≤ i.natAbs.log2 + 1 := by
      unfold Builtin.Int.intBits
      split <;> omega
    have hl : i.natAbs.log2 < 1000 := PySem.Flt.log2_lt_of (by omega) h2
    have hc : (Builtin.Int.intBits i : Int) ≤ 1000 := by omega
    have hm : (Builtin.Int.intBits i : Int) * j ≤ 1000 * 4 := Int.mul_le_mul hc h1 h0 (by omega)
    exact Int.le_trans hm (by decide)
  · exact PyProof.Rows.pow_int_small hc.1 hc.2.1 hc.2.2 q
section
variable {X : Cx} {C : Ct} {W : WX} {a b : Expr} {ta tb : DE} {pos : Pos}
abbrev dAdd (ta tb : DE) : DE := d2 ta tb kAdd
theorem do_add (ha : DP X C W a ta) (hb : DP X C W b tb) : DP X C W (.BinOp a .Add b pos) (dAdd ta tb) := dp_op (op_add.or (op_add_str.or op_cat)) ok_add mono_add ha hb
abbrev dSub (ta tb : DE) : DE := d2 ta tb (kInt (fun _ _ => True) fun i j => .int (i - j))
theorem do_sub (ha : DP X C W a ta) (hb : DP X C W b tb) : DP X C W (.BinOp a .Sub b pos) (dSub ta tb) := dp_op op_sub (ok_int0 fun _ _ _ => .int _) mono_kInt ha hb
abbrev dMul (ta tb : DE) : DE := d2 ta tb kMul
theorem do_mul (ha : DP X C W a ta) (hb : DP X C W b tb) : DP X C W (.BinOp a .Mult b pos) (dMul ta tb) := dp_op (op_mulW.or op_rep) ok_mul mono_mul ha hb
abbrev dMod (ta tb : DE) : DE := d2 ta tb (kInt (fun _ j => 0 < j) fun i j => .int (i % j))
theorem do_mod (ha : DP X C W a ta) (hb : DP X C W b tb) : DP X C W (.BinOp a .Mod b pos) (dMod ta tb) := dp_op op_mod (ok_int (fun _ _ h => h) fun _ _ _ => .int _) mono_kInt ha hb
abbrev dFdiv (ta tb : DE) : DE := d2 ta tb (kInt (fun _ j => DOk j) fun i j => .int (i / j))
theorem do_fdiv (ha : DP X C W a ta) (hb : DP X C W b tb) : DP X C W (.BinOp a .FloorDiv b pos) (dFdiv ta tb) := dp_op op_fdivW (ok_int (fun _ _ h => h.w) fun _ _ _ => .int _) mono_kInt ha hb
abbrev dPow (ta tb : DE) : DE := d2 ta tb (kInt CPowW fun i j => .int (i ^ j.toNat))
theorem do_pow (ha : DP X C W a ta) (hb : DP X C W b tb) : DP X C W (.BinOp a .Pow b pos) (dPow ta tb) := dp_op op_powW (ok_int (fun _ _ h => h) fun _ _ _ => .int _) mono_kInt ha hb
abbrev dLt (ta tb : DE) : DE := d2 ta tb (kInt (fun _ _ => True) fun i j => .bool (decide (i < j)))
theorem do_lt (ha : DP X C W a ta) (hb : DP X C W b tb) : DP X C W (.Compare a [.Lt] [b] pos) (dLt ta tb) := dp_cmp op_lt (ok_int0 fun _ _ _ => .bl _) mono_kInt ha hb (nomark _)
abbrev dLe (ta tb : DE) : DE := d2 ta tb (kInt (fun _ _ => True) fun i j => .bool (decide (i ≤ j)))
theorem do_le (ha : DP X C W a ta) (hb : DP X C W b tb) : DP X C W (.Compare a [.LtE] [b] pos) (dLe ta tb) := dp_cmp op_le (ok_int0 fun _ _ _ => .bl _) mono_kInt ha hb (nomark _)
abbrev dGt (ta tb : DE) : DE := d2 ta tb (kInt (fun _ _ => True) fun i j => .bool (decide (j < i)))
theorem do_gt (ha : DP X C W a ta) (hb : DP X C W b tb) : DP X C W (.Compare a [.Gt] [b] pos) (dGt ta tb) := dp_cmp op_gt (ok_int0 fun _ _ _ => .bl _) mono_kInt ha hb (nomark _)
abbrev dGe (ta tb : DE) : DE := d2 ta tb (kInt (fun _ _ => True) fun i j => .bool (decide (j ≤ i)))
theorem do_ge (ha : DP X C W a ta) (hb : DP X C W b tb) : DP X C W (.Compare a [.GtE] [b] pos) (dGe ta tb) := dp_cmp op_ge (ok_int0 fun _ _ _ => .bl _) mono_kInt ha hb (nomark _)
end

/-- == of data -/
def eqD (d e : PyData) : Option Bool := match d, e with
  | .int i, .int j => some (decide (i = j))
  | .str i, .str j => some (decide (i = j))
  | .bool i, .bool j => some (decide (i = j))
  | d, e => if SeqAt.shaped d = true ∧ SeqAt.shaped e = true then some (PyData.eqv d e) else none
/-- .. of a dict and a text too, where it is asked whether they are equal -/
def eqN (neg : Bool) (d e : PyData) : Option Bool := match neg, d, e with
  | false, .dict _, .str _ => some false
  | _, d, e => eqD d e
def kEq0 (neg : Bool) : Vl → Vl → En → DK → Prop := fun va vb env Q => ∃ d e c, dat env va = some d ∧ dat env vb = some e ∧ eqD d e = some c ∧ Q (.tmp (.sh (.bool (neg != c)))) env
def kEq (neg : Bool) : Vl → Vl → En → DK → Prop := fun va vb env Q => ∃ d e c, dat env va = some d ∧ dat env vb = some e ∧ eqN neg d e = some c ∧ Q (.tmp (.sh (.bool (neg != c)))) env
theorem mono_eq {neg} : MonoK2 (kEq neg) := fun a b n Q Q' hq ⟨d, e, c, h1, h2, h3, h4⟩ => ⟨d, e, c, h1, h2, h3, hq _ _ h4⟩
theorem ok_eq {K : PySem.W.Frag} {C : Ct} {neg : Bool} {r1 r2 : R2} (h1 : ∀ x y H Q, L2.scal x y = true → Q (.bl (neg != decide (x = y))) H → r1 x y H Q)
    (h2 : ∀ x y H Q d e, Dp K H x d → Dp K H y e → SeqAt.shaped d = true → SeqAt.shaped e = true → Q (.bl (neg != PyData.eqv d e)) H → r2 x y H Q) : Ok2 K C (fun x y H Q => r1 x y H Q ∨ r2 x y H Q) (kEq0 neg) :=
  fun σ HP H env as t1 t2 va vb x y Qd Q r qa qb h k => by
    obtain ⟨d, e, c, e1, e2, e3, hq⟩ := h
    have a := r.rp qa e1
    have b := r.rp qb e2
    have q : Q (.bl (neg != c)) H := (k _ _ hq).sh r in_app (.bl _)
    unfold eqD at e3
    split at e3
    · cases a; cases b
      have e4 := Option.some.inj e3
      refine .inl (h1 _ _ _ _ rfl ?_)
      rw [show decide (V.int _ = V.int _) = c by rw [← e4]; simp]
      exact q
    · cases a; cases b
      have e4 := Option.some.inj e3
      refine .inl (h1 _ _ _ _ rfl ?_)
      rw [show decide (V.str _ = V.str _) = c by rw [← e4]; simp]
      exact q
    · cases a; cases b
      have e4 := Option.some.inj e3
      refine .inl (h1 _ _ _ _ rfl ?_)
      rw [show decide (V.bl _ = V.bl _) = c by rw [← e4]; simp]
      exact q
    · split at e3
      · rename_i sh
        have e4 := Option.some.inj e3
        exact .inr (h2 _ _ _ _ d e (a.dp (SeqAt.canLay_of_shaped sh.1)) (b.dp (SeqAt.canLay_of_shaped sh.2)) sh.1 sh.2 (by rw [e4]; exact q))
      · cases e3
theorem eqN_true (d e : PyData) : eqN true d e = eqD d e := by unfold eqN; rfl
theorem ok_eqN {K : PySem.W.Frag} {C : Ct} {r1 r2 : R2} (h1 : ∀ x y H Q, L2.scal x y = true → Q (.bl (true != decide (x = y))) H → r1 x y H Q)
    (h2 : ∀ x y H Q d e, Dp K H x d → Dp K H y e → SeqAt.shaped d = true → SeqAt.shaped e = true → Q (.bl (true != PyData.eqv d e)) H → r2 x y H Q) : Ok2 K C (fun x y H Q => r1 x y H Q ∨ r2 x y H Q) (kEq true) :=
  fun σ HP H env as t1 t2 va vb x y Qd Q r qa qb ⟨d, e, c, e1, e2, e3, hq⟩ k => ok_eq h1 h2 σ HP H env as t1 t2 va vb x y Qd Q r qa qb ⟨d, e, c, e1, e2, by rw [← eqN_true]; exact e3, hq⟩ k
theorem ok_eqF {K : PySem.W.Frag} {C : Ct} {r1 r2 : R2} (h1 : ∀ x y H Q, L2.scal x y = true → Q (.bl (false != decide (x = y))) H → r1 x y H Q)
    (h2 : ∀ x y H Q d e, Dp K H x d → Dp K H y e → SeqAt.shaped d = true → SeqAt.shaped e = true → Q (.bl (false != PyData.eqv d e)) H → r2 x y H Q) :
    Ok2 K C (fun x y H Q => (∃ a kvs b, x = V.ref a ∧ H a = some (.dK kvs) ∧ y = .str b ∧ Q (.bl false) H) ∨ (r1 x y H Q ∨ r2 x y H Q)) (kEq false) :=
  fun σ HP H env as t1 t2 va vb x y Qd Q r qa qb ⟨d, e, c, e1, e2, e3, hq⟩ k => by
    by_cases hk : (∃ kvs, d = .dict kvs) ∧ ∃ b, e = .str b
    · obtain ⟨⟨kvs, rfl⟩, b, rfl⟩ := hk
      have a := r.rp qa e1
      have b' := r.rp qb e2
      cases a with
      | dct g h =>
        cases b'
        cases Option.some.inj e3
        exact .inl ⟨_, _, _, rfl, g, rfl, (k _ _ hq).sh r in_app (.bl _)⟩
    · have e4 : eqD d e = some c := by
        unfold eqN at e3
        split at e3
        · exact absurd ⟨⟨_, rfl⟩, _, rfl⟩ hk
        · exact e3
      exact .inr (ok_eq h1 h2 σ HP H env as t1 t2 va vb x y Qd Q r qa qb ⟨d, e, c, e1, e2, e4, hq⟩ k)
section
variable {X : Cx} {C : Ct} {W : WX} {a b : Expr} {ta tb : DE} {pos : Pos}
abbrev dEq (ta tb : DE) : DE := d2 ta tb (kEq false)
abbrev dNe (ta tb : DE) : DE := d2 ta tb (kEq true)
theorem do_eq {k : Nat} (hr : Room k X.A) (ha : DP X C W a ta) (hb : DP X C W b tb) : DP X C W (.Compare a [.Eq] [b] pos) (dEq ta tb) :=
  dp_cmp ((op_eqKS (by have := hr.units; omega)).or (op_eq.or (op_eqD hr.units))) (ok_eqF (fun x y H Q h q => ⟨h, by simpa using q⟩) fun x y H Q d e h1 h2 h3 h4 q => ⟨d, e, h1, h2, h3, h4, by simpa using q⟩) mono_eq ha hb (nomark _)
theorem do_ne {k : Nat} (hr : Room k X.A) (ha : DP X C W a ta) (hb : DP X C W b tb) : DP X C W (.Compare a [.NotEq] [b] pos) (dNe ta tb) :=
  dp_cmp (op_ne.or (op_neD hr.units)) (ok_eqN (fun x y H Q h q => ⟨h, by simpa using q⟩) fun x y H Q d e h1 h2 h3 h4 q => ⟨d, e, h1, h2, h3, h4, by simpa using q⟩) mono_eq ha hb (nomark _)
end
end L3

namespace L3
open PySem L2

def share (v : Vl) (env : En) : Option (PyData × En) := match v with
  | .tmp (.sh d) => some (d, env)
  | .tmp (.own xs) => some (.list xs, env)
  | .tmp (.odk kvs) => some (.dict kvs, env)
  | .tmp (.bor d) => if scal d = true then some (d, env) else none
  | .tmp (.scr _) => none
  | .tmp (.ext _) => none
  | .loc i => match env[i]? with
    | some (some (.own xs)) => some (.list xs, env.set i (some (.sh (.list xs))))
    | some (some (.odk kvs)) => some (.dict kvs, env.set i (some (.sh (.dict kvs))))
    | _ => none
def shareAll : List Vl → En → Option (List PyData × En)
  | [], env => some ([], env)
  | v :: vs, env => (share v env).bind fun p => (shareAll vs p.2).map fun q => (p.1 :: q.1, q.2)
section
variable {K : PySem.W.Frag} {C : Ct} {W : WX} {HP HP' H H' : Hp} {σ : L2.St} {env env' : En} {as ts t1 t2 : List Addr} {s : Sl} {v x y : V} {va vb : Vl} {t : List Addr}
/-- the object at a, own so far, is frozen -/
theorem Stp.freeze {a : Addr} {o : HO} {bs cs : List Addr} (h : H a = some o) (hn : HP a = none) (ha : a ∈ cs) (hb : ∀ b ∈ bs, b ∈ cs) : Stp HP H cs (upd HP a o) H bs :=
  ⟨Same.put hn, fun _ _ e _ => e, fun b z => .inl (hb b z), fun b u e => by
    by_cases z : b = a
    · rw [z]; exact .inr (.inr ha)
    · rw [upd_ne z] at e; exact .inl e, fun _ z => z⟩
theorem same_upd {a : Addr} {o : HO} (hs : Same HP H) (h : H a = some o) : Same (upd HP a o) H := fun b u e => by
  by_cases z : b = a
  · subst z; rw [upd_same] at e; cases e; exact h
  · rw [upd_ne z] at e; exact hs b u e
theorem Rel.freezeT {a : Addr} {o : HO} (r : Rel K C HP σ H env as (a :: t2)) (h : H a = some o) : Rel K C (upd HP a o) σ H env as t2 := by
  have nd := List.nodup_append.mp r.nd
  have hn := (r.own a (by simp)).1
  refine ⟨same_upd r.exP h, r.exB, r.rep.frame (Same.put hn) fun _ _ => rfl, List.nodup_append.mpr ⟨nd.1, (List.nodup_cons.mp nd.2.1).2, fun b hb c hc => nd.2.2 b hb c (List.mem_cons_of_mem _ hc)⟩, fun b hb => ?_, r.pin⟩
  have q := r.own b (by rcases List.mem_append.mp hb with z | z <;> simp [z])
  have z : b ≠ a := fun z => by
    subst z
    rcases List.mem_append.mp hb with w | w
    · exact nd.2.2 b w b (by simp) rfl
    · exact (List.nodup_cons.mp nd.2.1).1 w
  exact ⟨by rw [upd_ne z]; exact q.1, q.2⟩
theorem Rel.freezeL {i : Nat} {a : Addr} {o : HO} {pre post : List Addr} (r : Rel K C HP σ H env (pre ++ ([a] ++ post)) ts) (h : H a = some o)
    (k : RepE K C (upd HP a o) H env' σ (pre ++ ([] ++ post))) : Rel K C (upd HP a o) σ H env' (pre ++ ([] ++ post)) ts := by
  have sub : (pre ++ ([] ++ post) ++ ts).Sublist (pre ++ ([a] ++ post) ++ ts) := (List.Sublist.append (List.Sublist.append (List.Sublist.refl _) (List.Sublist.append (List.nil_sublist _) (List.Sublist.refl _))) (List.Sublist.refl _))
  refine ⟨same_upd r.exP h, r.exB, k, r.nd.sublist sub, fun b hb => ?_, r.pin⟩
  have q := r.own b (sub.mem hb)
  have z : b ≠ a := fun z => by
    subst z
    have nd := r.nd
    have e : pre ++ ([b] ++ post) ++ ts = pre ++ b :: (post ++ ts) := by simp
    rw [e] at nd
    have nd2 := List.nodup_append.mp nd
    have hb' : b ∈ pre ++ (post ++ ts) := by simpa using hb
    rcases List.mem_append.mp hb' with w | w
    · exact nd2.2.2 b w b (by simp) rfl
    · exact (List.nodup_cons.mp nd2.2.1).1 w
  exact ⟨by rw [upd_ne z]; exact q.1, q.2⟩
theorem Rel.share {d : PyData} (r : Rel K C HP σ H env as (t1 ++ t2)) (q : RepV K C HP H σ va x t1) (e : L3.share va env = some (d, env')) :
    ∃ HP' as', Rel K C HP' σ H env' as' t2 ∧ Rp HP' x d ∧ Stp HP H (as ++ (t1 ++ t2)) HP' H (as' ++ t2) := by
  have plain : ∀ {d' : PyData}, Rp HP x d' → t1 = [] → d' = d → env = env' → ∃ HP' as', Rel K C HP' σ H env' as' t2 ∧ Rp HP' x d ∧ Stp HP H (as ++ (t1 ++ t2)) HP' H (as' ++ t2) := fun {d'} g e1 e2 e3 => by
    subst e1 e2 e3
    exact ⟨HP, as, r, g, Stp.refl⟩
  cases va with
  | tmp s => cases s with
    | sh d' =>
      have e' := Option.some.inj e
      cases e'
      exact plain q.1 q.2 rfl rfl
    | bor d' =>
      unfold L3.share at e
      dsimp only at e
      split at e
      · rename_i z
        cases Option.some.inj e
        exact plain (q.1.scal z) q.2 rfl rfl
      · cases e
    | own xs =>
      cases Option.some.inj e
      obtain ⟨a, vs, rfl, rfl, h3, h4⟩ := q
      have hn := (r.own a (by simp)).1
      exact ⟨upd HP a (.lst vs), as, r.freezeT h3, .lst upd_same (h4.mono (Same.put hn)), Stp.freeze h3 hn (by simp) fun b hb => by
        rcases List.mem_append.mp hb with z | z <;> simp [z]⟩
    | odk xs =>
      cases Option.some.inj e
      obtain ⟨a, vs, rfl, rfl, h3, h4⟩ := q
      have hn := (r.own a (by simp)).1
      exact ⟨upd HP a (.dK vs), as, r.freezeT h3, .dct upd_same (h4.mono (Same.put hn)), Stp.freeze h3 hn (by simp) fun b hb => by
        rcases List.mem_append.mp hb with z | z <;> simp [z]⟩
    | scr ns => cases e
    | ext ρ => cases e
  | loc i =>
    obtain ⟨q1, rfl⟩ := q
    cases hi : env[i]? with
    | none => simp [L3.share, hi] at e
    | some o => cases o with
      | none => simp [L3.share, hi] at e
      | some s =>
        obtain ⟨w, pre, a1, post, h1, h2, h3, h4⟩ := r.rep.at i hi
        rw [q1] at h1; cases h1
        have es : σ.set i (some x) = σ := by
          have hl := (List.getElem?_eq_some_iff.mp q1)
          obtain ⟨hl, hv⟩ := hl
          rw [← hv]; exact List.set_getElem_self hl
        cases s with
        | sh d' => simp [L3.share, hi] at e
        | bor d' => simp [L3.share, hi] at e
        | scr d' => simp [L3.share, hi] at e
        | ext d' => simp [L3.share, hi] at e
        | own xs =>
          simp [L3.share, hi] at e
          obtain ⟨e1, e2⟩ := e
          subst e1 e2
          obtain ⟨a, vs, rfl, rfl, g3, g4⟩ := h3
          subst h2
          have hn := (r.own a (by simp)).1
          have k := h4 (upd HP a (.lst vs)) H (some (.sh (.list xs))) (some (.ref a)) [] (Same.put hn) (fun _ _ => rfl) ⟨.lst upd_same (g4.mono (Same.put hn)), rfl⟩
          rw [es] at k
          exact ⟨upd HP a (.lst vs), pre ++ ([] ++ post), r.freezeL (i := i) g3 k, .lst upd_same (g4.mono (Same.put hn)), Stp.freeze g3 hn (by simp) fun b hb => by
            simp at hb ⊢
            rcases hb with z | z | z <;> simp [z]⟩
        | odk xs =>
          simp [L3.share, hi] at e
          obtain ⟨e1, e2⟩ := e
          subst e1 e2
          obtain ⟨a, vs, rfl, rfl, g3, g4⟩ := h3
          subst h2
          have hn := (r.own a (by simp)).1
          have k := h4 (upd HP a (.dK vs)) H (some (.sh (.dict xs))) (some (.ref a)) [] (Same.put hn) (fun _ _ => rfl) ⟨.dct upd_same (g4.mono (Same.put hn)), rfl⟩
          rw [es] at k
          exact ⟨upd HP a (.dK vs), pre ++ ([] ++ post), r.freezeL (i := i) g3 k, .dct upd_same (g4.mono (Same.put hn)), Stp.freeze g3 hn (by simp) fun b hb => by
            simp at hb ⊢
            rcases hb with z | z | z <;> simp [z]⟩
theorem Rel.shares : ∀ {vals : List Vl} {vs : List V} {ds : List PyData} {HP : Hp} {env env' : En} {as t1 t2 : List Addr}, Rel K C HP σ H env as (t1 ++ t2) → RepVs K C HP H σ vals vs t1 → L3.shareAll vals env = some (ds, env') →
    ∃ HP' as', Rel K C HP' σ H env' as' t2 ∧ RpAll HP' vs ds ∧ Stp HP H (as ++ (t1 ++ t2)) HP' H (as' ++ t2)
  | [], vs, ds, HP, env, env', as, t1, t2, r, q, e => by
    obtain ⟨rfl, rfl⟩ := q
    cases Option.some.inj e
    exact ⟨HP, as, r, .nil, Stp.refl⟩
  | v :: vals, vs, ds, HP, env, env', as, t1, t2, r, q, e => by
    obtain ⟨x, w, u1, u2, rfl, rfl, q1, q2⟩ := q
    unfold L3.shareAll at e
    cases e1 : L3.share v env with
    | none => rw [e1] at e; cases e
    | some p =>
      obtain ⟨d, env1⟩ := p
      rw [e1] at e
      dsimp only [Option.bind] at e
      cases e2 : L3.shareAll vals env1 with
      | none => rw [e2] at e; cases e
      | some p2 =>
        obtain ⟨ds', env2⟩ := p2
        rw [e2] at e
        cases Option.some.inj e
        rw [List.append_assoc] at r
        obtain ⟨HP1, as1, r1, g1, x1⟩ := r.share q1 e1
        obtain ⟨HP2, as2, r2, g2, x2⟩ := Rel.shares (vals := vals) r1 (RepVs.frame x1.ex q2 fun _ _ => rfl) e2
        refine ⟨HP2, as2, r2, .cons (g1.mono x2.ex) g2, ?_⟩
        rw [List.append_assoc]
        exact x1.trans x2
end

def daNil : DA := fun _ env Q => Q [] env
def daCons (ta : DE) (tr : DA) : DA := fun ex env Q => ta ex env fun v env1 => tr ex env1 fun vs env2 => Q (v :: vs) env2
section
variable {X : Cx} {C : Ct} {W : WX} {e : Expr} {es : List Expr} {ta : DE} {tr : DA}
theorem da_nil : DPA X C W [] daNil := ⟨pa_nil.imp fun σ H Q ⟨HP, env, as, R, h⟩ => h [] HP H as [] R (Stp.refl.less fun a ha => by simpa using ha) ⟨rfl, rfl⟩, fun _ _ _ _ _ _ hq h => hq _ _ h⟩
theorem da_cons (ha : DP X C W e ta) (hr : DPA X C W es tr) (hs : starEach (e :: es) X.env = (false, eval e X.env) :: starEach es X.env := by rfl) : DPA X C W (e :: es) (daCons ta tr) := by
  refine ⟨(pa_cons ha.run hr.run hs).imp fun σ H Q h => ?_, fun ex ex' env Q Q' he hq h => ha.mono ex ex' env _ _ he (fun v n h1 => hr.mono ex ex' n _ _ he (fun vs n2 h2 => hq _ _ h2) h1) h⟩
  obtain ⟨HP, env, as, R, h⟩ := h
  refine ⟨HP, env, as, R, ha.mono _ _ env _ _ (fun _ _ z => z) (fun va n h1 => ?_) h⟩
  intro x HP1 H1 as1 t1 R1 X1 V1
  refine ⟨HP1, n, as1, R1.nots, hr.mono _ _ n _ _ (fun e n z => z.imp X1 fun a ha => List.mem_append_left _ ha) (fun vs n2 h2 => ?_) h1⟩
  intro ys HP2 H2 as2 t2 R2 X2 V2
  obtain ⟨R3, st, X3⟩ := R1.pend X2 R2
  exact h2 (x :: ys) HP2 H2 as2 (t1 ++ t2) R3 (X1.trans X3) ⟨x, ys, t1, t2, rfl, rfl, V1.frame X2.ex st, V2⟩
end
/-- an operation on arguments -/
def OkN (K : PySem.W.Frag) (C : Ct) (r : List V → Hp → VK → Prop) (k : List Vl → En → DK → Prop) : Prop :=
  ∀ (σ : L2.St) (HP H : Hp) (env : En) (as ts : List Addr) (vals : List Vl) (vs : List V) (Qd : DK) (Q : VK), Rel K C HP σ H env as ts → RepVs K C HP H σ vals vs ts → k vals env Qd →
    (∀ val n, Qd val n → Po K C σ HP H (as ++ ts) Q val n) → r vs H Q
def MonoN (k : List Vl → En → DK → Prop) : Prop := ∀ a n Q Q', (∀ v n, Q v n → Q' v n) → k a n Q → k a n Q'
def dN (ta : DA) (k : List Vl → En → DK → Prop) : DE := fun ex env Q => ta ex env fun vals env1 => k vals env1 Q
theorem MonoA.dN {ta : DA} {k : List Vl → En → DK → Prop} (ma : MonoA ta) (mk : MonoN k) : MonoE (dN ta k) := fun ex ex' env Q Q' he hq h =>
  ma ex ex' env _ _ he (fun va n h1 => mk va n Q Q' hq h1) h
theorem liftN {K : PySem.W.Frag} {C : Ct} {W : WX} {ta : DA} {k : List Vl → En → DK → Prop} {r : List V → Hp → VK → Prop} {σ : L2.St} {H : Hp} {Q : VK} (ma : MonoA ta) (ok : OkN K C r k) (h : lift K C W (dN ta k) σ H Q) : liftA K C W ta σ H fun xs H1 => r xs H1 Q := by
  obtain ⟨HP, env, as, R, h⟩ := h
  refine ⟨HP, env, as, R, ma _ _ env _ _ (fun _ _ z => z) (fun va n h1 => ?_) h⟩
  intro x HP1 H1 as1 t1 R1 X1 V1
  exact ok σ HP1 H1 n as1 t1 va x _ Q R1 V1 h1 fun val m q v HP' H' as' ts' R' X' V' => q v HP' H' as' ts' R' (X1.trans X') V'

def kLst : List Vl → En → DK → Prop := fun vals env Q => ∃ ds env', shareAll vals env = some (ds, env') ∧ ds.length ≤ sizeLine ∧ Q (.tmp (.own ds)) env'
def kTup : List Vl → En → DK → Prop := fun vals env Q => ∃ ds env', shareAll vals env = some (ds, env') ∧ ds.length ≤ sizeLine ∧ Q (.tmp (.sh (.tuple ds))) env'
theorem mono_lst : MonoN kLst := fun a n Q Q' hq ⟨ds, e, h1, h2, h3⟩ => ⟨ds, e, h1, h2, hq _ _ h3⟩
theorem mono_tup : MonoN kTup := fun a n Q Q' hq ⟨ds, e, h1, h2, h3⟩ => ⟨ds, e, h1, h2, hq _ _ h3⟩
theorem ok_lst {K : PySem.W.Frag} {C : Ct} : OkN K C (fun xs H1 Q => xs.length ≤ sizeLine ∧ ∀ p, H1 p = none → Q (.ref p) (upd H1 p (.lst xs))) kLst :=
  fun σ HP H env as ts vals vs Qd Q r q ⟨ds, env', e, hz, hq⟩ k => by
    have r' : Rel K C HP σ H env as (ts ++ []) := by rw [List.append_nil]; exact r
    obtain ⟨HP1, as1, r1, g1, x1⟩ := r'.shares q e
    refine ⟨by rw [g1.length]; exact hz, fun p hp => ?_⟩
    have p1 := k _ _ hq
    have p2 : Po K C σ HP1 H as1 Q (.tmp (.own ds)) env' := fun v HP' H' as' ts' R' X' V' => p1 v HP' H' as' ts' R' (((x1.less (cs := as1) fun a ha => by simpa using ha).from (cs := as ++ ts) fun a ha => by simpa using ha).trans X') V'
    exact p2.own r1 (fun a ha => ha) hp g1
theorem ok_tup {K : PySem.W.Frag} {C : Ct} : OkN K C (fun xs H1 Q => xs.length ≤ sizeLine ∧ ∀ p, H1 p = none → Q (.ref p) (upd H1 p (.tup xs))) kTup :=
  fun σ HP H env as ts vals vs Qd Q r q ⟨ds, env', e, hz, hq⟩ k => by
    have r' : Rel K C HP σ H env as (ts ++ []) := by rw [List.append_nil]; exact r
    obtain ⟨HP1, as1, r1, g1, x1⟩ := r'.shares q e
    refine ⟨by rw [g1.length]; exact hz, fun p hp => ?_⟩
    have p1 := k _ _ hq
    have p2 : Po K C σ HP1 H as1 Q (.tmp (.sh (.tuple ds))) env' := fun v HP' H' as' ts' R' X' V' => p1 v HP' H' as' ts' R' (((x1.less (cs := as1) fun a ha => by simpa using ha).from (cs := as ++ ts) fun a ha => by simpa using ha).trans X') V'
    exact p2.tup r1 (fun a ha => ha) hp g1
section
variable {X : Cx} {C : Ct} {W : WX} {es : List Expr} {ta : DA} {pos : Pos}
abbrev dLst (ta : DA) : DE := dN ta kLst
abbrev dTup (ta : DA) : DE := dN ta kTup
theorem do_lst (h : DPA X C W es ta) : DP X C W (.List es pos) (dLst ta) := ⟨(pe_lst h.run).imp fun σ H Q q => liftN h.mono ok_lst q, h.mono.dN mono_lst⟩
theorem do_tup {k} (h : DPA X C W es ta) : DP X C W (.Tuple es k pos) (dTup ta) := ⟨(pe_tup h.run).imp fun σ H Q q => liftN h.mono ok_tup q, h.mono.dN mono_tup⟩
end

def ixOf (env : En) (va : Vl) (i : Int) : Option Vl := match slotOf env va with
  | some (.scr ns) => (atI ns i).map fun n => .tmp (.sh (.int n))
  | some s => match s.dat with
    | .list xs => (atI xs i).map fun d => .tmp (chS s d)
    | .tuple xs => (atI xs i).map fun d => .tmp (chS s d)
    | .str z => if z.length ≤ sizeLine then (atI z.cps.toList i).map fun c => .tmp (.sh (.str ⟨#[c]⟩)) else none
    | _ => none
  | none => none
def kIx : Vl → Vl → En → DK → Prop := fun va vb env Q => ∃ i w, dat env vb = some (.int i) ∧ ixOf env va i = some w ∧ Q w env
theorem mono_ix : MonoK2 kIx := fun a b n Q Q' hq ⟨i, w, h1, h2, h3⟩ => ⟨i, w, h1, h2, hq _ _ h3⟩
theorem atI_len {α β : Type} {xs : List α} {ys : List β} (hl : xs.length = ys.length) {i : Int} {d : β} (h : atI ys i = some d) : ∃ j : Nat, ys[j]? = some d ∧ ∀ w : α, xs[j]? = some w → atI xs i = some w := by
  unfold atI at h ⊢
  rw [← hl] at h
  cases e : ixN xs.length i with
  | none => rw [e] at h; cases h
  | some j =>
    rw [e] at h
    exact ⟨j, h, fun w hw => hw⟩
theorem dat_of_slot {env : En} {va : Vl} {s : Sl} (h : slotOf env va = some s) (hn : s.isD = true) : dat env va = some s.dat := by
  cases va with
  | tmp s' =>
    cases h
    cases s <;> first | rfl | cases hn
  | loc i =>
    unfold slotOf at h
    cases e : env[i]? with
    | none => simp [e] at h
    | some o =>
      simp [e] at h
      subst h
      cases s <;> first | (simp [dat, e]; done) | cases hn
theorem ok_ix {K : PySem.W.Frag} {C : Ct} : Ok2 K C (fun x y H Q => rIxL K x y H Q ∨ (rIxT K x y H Q ∨ rIxS x y H Q)) kIx :=
  fun σ HP H env as t1 t2 va vb x y Qd Q r qa qb ⟨i, w, e1, e2, hq⟩ k => by
    have b := r.rp qb e1
    cases b
    unfold ixOf at e2
    cases hs : slotOf env va with
    | none => rw [hs] at e2; cases e2
    | some s =>
      rw [hs] at e2
      have fin : ∀ {u : V} {d : PyData}, w = .tmp (chS s d) → RepV K C HP H σ (ch env va d) u [] → Q u H := fun {u d} ew ru => by
        have ec : ch env va d = w := by unfold ch; rw [hs, ew]
        rw [ec] at ru
        exact (k _ _ hq) u HP H as [] r.nots (Stp.refl.less fun a ha => by simp at ha ⊢; exact .inl ha) ru
      have main : ∀ xs, (s.dat = .list xs ∨ s.dat = .tuple xs) → (s.isD = true) → (atI xs i).map (fun d => Vl.tmp (chS s d)) = some w → rIxL K x (.int i) H Q ∨ (rIxT K x (.int i) H Q ∨ rIxS x (.int i) H Q) := fun xs hd hn e3 => by
        have hdat := dat_of_slot hs hn
        cases e4 : atI xs i with
        | none => rw [e4] at e3; cases e3
        | some d =>
          rw [e4] at e3
          have ew : w = .tmp (chS s d) := (Option.some.inj e3).symm
          rcases hd with hd | hd
          · rw [hd] at hdat
            obtain ⟨a, vs, rfl, hl, _, len, get⟩ := r.child qa (.inl hdat)
            obtain ⟨j, h5, h6⟩ := atI_len (xs := vs) len e4
            obtain ⟨u, h7, h8⟩ := get j d h5
            exact .inl ⟨a, vs, i, u, rfl, rfl, SqL.of (hl hdat), h6 u h7, fin ew h8⟩
          · rw [hd] at hdat
            obtain ⟨a, vs, rfl, _, hl, len, get⟩ := r.child qa (.inr hdat)
            obtain ⟨j, h5, h6⟩ := atI_len (xs := vs) len e4
            obtain ⟨u, h7, h8⟩ := get j d h5
            exact .inr (.inl ⟨a, vs, i, u, rfl, rfl, SqT.of (hl hdat), h6 u h7, fin ew h8⟩)
      have text : ∀ z, s.dat = .str z → (s.isD = true) → (if z.length ≤ sizeLine then (atI z.cps.toList i).map fun c => Vl.tmp (.sh (.str ⟨#[c]⟩)) else none) = some w → rIxL K x (.int i) H Q ∨ (rIxT K x (.int i) H Q ∨ rIxS x (.int i) H Q) := fun z hd hn e3 => by
        have hdat := dat_of_slot hs hn
        rw [hd] at hdat
        have a := r.rp qa hdat
        cases a
        split at e3
        · rename_i hz
          cases e4 : atI z.cps.toList i with
          | none => rw [e4] at e3; cases e3
          | some c =>
            rw [e4] at e3
            have ew : w = .tmp (.sh (.str ⟨#[c]⟩)) := (Option.some.inj e3).symm
            subst ew
            exact .inr (.inr ⟨z, i, c, rfl, rfl, hz, e4, (k _ _ hq).sh r in_app (.str _)⟩)
        · cases e3
      cases s with
      | scr ns =>
        obtain ⟨a, rs⟩ := r.here qa hs
        obtain ⟨b, rfl, _, h3⟩ := rs
        dsimp only at e2
        cases e4 : atI ns i with
        | none => rw [e4] at e2; cases e2
        | some n =>
          rw [e4] at e2
          have ew : w = .tmp (.sh (.int n)) := (Option.some.inj e2).symm
          subst ew
          obtain ⟨j, h5, h6⟩ := atI_len (xs := ns.map V.int) (by rw [List.length_map]) e4
          have h3' : SqL K H b (ns.map V.int) := Same.seq r.exB h3
          exact .inl ⟨b, _, i, .int n, rfl, rfl, h3', h6 _ (by rw [List.getElem?_map, h5]; rfl), (k _ _ hq).sh r in_app (.int _)⟩
      | sh d =>
        have hn : (Sl.sh d).isD = true := rfl
        cases d <;> first | cases e2 | exact main _ (.inl rfl) hn e2 | exact main _ (.inr rfl) hn e2 | exact text _ rfl hn e2
      | bor d =>
        have hn : (Sl.bor d).isD = true := rfl
        cases d <;> first | cases e2 | exact main _ (.inl rfl) hn e2 | exact main _ (.inr rfl) hn e2 | exact text _ rfl hn e2
      | own xs => exact main xs (.inl rfl) rfl e2
      | odk kvs => cases e2
      | ext ρ => cases e2
abbrev dIx (ta tb : DE) : DE := d2 ta tb kIx
theorem do_ix {X : Cx} {C : Ct} {W : WX} {a b : Expr} {ta tb : DE} {pos : Pos} (ha : DP X C W a ta) (hb : DP X C W b tb) (hs : PlainIx b := by exact fun _ _ => rfl) : DP X C W (.Subscript a b pos) (dIx ta tb) :=
  dp_ixR (ix_list.or (ix_tup.or ix_str)) ok_ix mono_ix ha hb hs

abbrev DO := DX → En → (Option Int → En → Prop) → Prop
def liftO (K : PySem.W.Frag) (C : Ct) (W : WX) (t : DO) : TO := fun σ H Q => ∃ HP env as, Rel K C HP σ H env as [] ∧ t (lX K C W σ HP H as) env fun o env' => ∀ HP' H' as', Rel K C HP' σ H' env' as' [] → Stp HP H as HP' H' as' → Q o H'
def MonoO (t : DO) : Prop := ∀ (ex ex' : DX) (env : En) (Q Q' : Option Int → En → Prop), (∀ e n, ex e n → ex' e n) → (∀ v n, Q v n → Q' v n) → t ex env Q → t ex' env Q'
structure DPO (X : Cx) (C : Ct) (W : WX) (e : Option Expr) (t : DO) : Prop where
  run : PO X e (liftO X.K C W t)
  mono : MonoO t
def doNo : DO := fun _ env Q => Q none env
def doPart (t : DE) : DO := fun ex env Q => t ex env fun v env' => ∃ i, dat env' v = some (.int i) ∧ Q (some i) env'
theorem PO.imp {X : Cx} {e : Option Expr} {t t' : TO} (h : PO X e t) (k : ∀ σ H Q, t' σ H Q → t σ H Q) : PO X e t' := ⟨fun pins s σ H Q I q => h.run pins s σ H Q I (k σ H Q q)⟩
theorem dp_no {X : Cx} {C : Ct} {W : WX} : DPO X C W none doNo := ⟨PO.imp po_none fun σ H Q ⟨HP, env, as, R, h⟩ => h HP H as R Stp.refl, fun _ _ _ _ _ _ hq h => hq _ _ h⟩
theorem dp_part {X : Cx} {C : Ct} {W : WX} {e : Expr} {t : DE} (h : DP X C W e t) : DPO X C W (some e) (doPart t) := by
  refine ⟨PO.imp (po_some h.run) fun σ H Q ⟨HP, env, as, R, q⟩ => ⟨HP, env, as, R, h.mono _ _ env _ _ (fun _ _ z => z) (fun va n h1 => ?_) q⟩, fun ex ex' env Q Q' he hq q => h.mono ex ex' env _ _ he (fun v n ⟨i, h1, h2⟩ => ⟨i, h1, hq _ _ h2⟩) q⟩
  intro x HP1 H1 as1 t1 R1 X1 V1
  obtain ⟨i, h2, h3⟩ := h1
  have a := R1.rp V1 h2
  cases a
  exact ⟨i, rfl, h3 HP1 H1 as1 R1.nots (X1.less fun a ha => List.mem_append_left _ ha)⟩
def cutL {α : Type} (xs : List α) (lo hi : Option Int) : List α := (xs.drop (HT.sIx xs.length 0 lo)).take (HT.sIx xs.length xs.length hi - HT.sIx xs.length 0 lo)
theorem RpAll.cut {H : Hp} {vs : List V} {ds : List PyData} (r : RpAll H vs ds) (lo hi : Option Int) : RpAll H (cutV vs lo hi) (cutL ds lo hi) := by
  unfold cutV cutL
  rw [r.length]
  exact (r.drop _).take _
def kSl : Vl → Option Int → Option Int → En → DK → Prop := fun va lo hi env Q => match dat env va with
  | some (.list xs) => perm env va = true ∧ Q (.tmp (.own (cutL xs lo hi))) env
  | some (.str z) => z.length ≤ sizeLine ∧ Q (.tmp (.sh (.str (cutS z lo hi)))) env
  | _ => False
def dSl (ta : DE) (tl th : DO) : DE := fun ex env Q => ta ex env fun va env1 => tl ex env1 fun lo env2 => th ex env2 fun hi env3 => kSl va lo hi env3 Q
theorem do_sl {X : Cx} {C : Ct} {W : WX} {e : Expr} {te : DE} {lo hi : Option Expr} {tl th : DO} {p2 pos : Pos} (he : DP X C W e te) (hl : DPO X C W lo tl) (hu : DPO X C W hi th) : DP X C W (.Subscript e (.Slice lo hi none p2) pos) (dSl te tl th) := by
  refine ⟨(pe_slice (sl_list.or sl_str) he.run hl.run hu.run).imp fun σ H Q h => ?_, fun ex ex' env Q Q' hx hq h => he.mono ex ex' env _ _ hx (fun va n h1 => hl.mono ex ex' n _ _ hx (fun l n2 h2 => hu.mono ex ex' n2 _ _ hx (fun u n3 h3 => ?_) h2) h1) h⟩
  · obtain ⟨HP, env, as, R, h⟩ := h
    refine ⟨HP, env, as, R, he.mono _ _ env _ _ (fun _ _ z => z) (fun va n h1 => ?_) h⟩
    intro x HP1 H1 as1 t1 R1 X1 V1
    refine ⟨HP1, n, as1, R1.nots, hl.mono _ _ n _ _ (fun e n z => z.imp X1 fun a ha => List.mem_append_left _ ha) (fun l n2 h2 => ?_) h1⟩
    intro HP2 H2 as2 R2 X2
    have X2' : Stp HP1 H1 as1 HP2 H2 (as2 ++ []) := by rw [List.append_nil]; exact X2
    obtain ⟨R3, st, X3⟩ := R1.pend X2' R2
    rw [List.append_nil] at R3 X3
    refine ⟨HP2, n2, as2, R2, hu.mono _ _ n2 _ _ (fun e n z => z.imp (X1.trans X3) fun a ha => List.mem_append_left _ ha) (fun u n3 h3 => ?_) h2⟩
    intro HP3 H3 as3 R4 X4
    have X4' : Stp HP2 H2 as2 HP3 H3 (as3 ++ []) := by rw [List.append_nil]; exact X4
    obtain ⟨R5, st2, X5⟩ := R3.pend X4' R4
    rw [List.append_nil] at R5 X5
    have V3 := (V1.frame X2.ex st).frame X4.ex st2
    have XX := (X1.trans X3).trans X5
    unfold kSl at h3
    split at h3
    · rename_i xs e1
      obtain ⟨pa, hq⟩ := h3
      obtain ⟨a, vs, rfl, ha, ra⟩ := R5.kids V3 e1 pa
      refine .inl ⟨a, vs, rfl, SqL.of ha, fun p hp => ?_⟩
      have p2 : Po _ C σ HP3 H3 (as3 ++ t1) Q _ _ := fun v HP' H' as' ts' R' X' V' => hq v HP' H' as' ts' R' (XX.trans X') V'
      exact p2.own R5 in_app1 hp (ra.cut _ _)
    · rename_i z e1
      have a := R5.rp V3 e1
      cases a
      have p2 : Po _ C σ HP3 H3 (as3 ++ t1) Q _ _ := fun v HP' H' as' ts' R' X' V' => h3.2 v HP' H' as' ts' R' (XX.trans X') V'
      exact .inr ⟨z, rfl, h3.1, p2.sh R5 in_app1 (.str _)⟩
    · exact h3.elim
  · unfold kSl at h3 ⊢
    split at h3
    · exact ⟨h3.1, hq _ _ h3.2⟩
    · exact ⟨h3.1, hq _ _ h3.2⟩
    · exact h3
end L3

namespace L3
open PySem L2

section
variable {X : Cx} {C : Ct} {W : WX} {x : Str} {p pos : Pos} {e : Expr} {es : List Expr} {ta : DA} {id T : String} {r : List V → Hp → VK → Prop} {k : List Vl → En → DK → Prop}
theorem do_callB (hc : CallR X (.builtin id) r) (ok : OkN X.K C r k) (mk : MonoN k) (hm : X.mg x = none) (hv : bootBuiltins x = some (.builtin id)) (ha : DPA X C W (e :: es) ta) (hg : Gl X x := by rfl) (hn : x ≠ "__name__" := by decide) (hdb : (x == ("__debug__" : Str)) = false := by decide)
    (he : starEach (e :: es) X.env = (false, eval e X.env) :: starEach es X.env := by rfl) (hpl : (backTo pos (starEach es X.env)).any (·.1) = false := by rfl) : DP X C W (.Call (.Name x p) (e :: es) [] pos) (dN ta k) :=
  ⟨(pe_callB hc hg hm hv ha.run hn hdb he hpl).imp fun σ H Q q => liftN ha.mono ok q, ha.mono.dN mk⟩
theorem do_callTy (hc : CallR X (.type T) r) (ok : OkN X.K C r k) (mk : MonoN k) (hm : X.mg x = none) (hv : bootBuiltins x = some (.type T)) (ha : DPA X C W (e :: es) ta) (hg : Gl X x := by rfl) (hn : x ≠ "__name__" := by decide) (hdb : (x == ("__debug__" : Str)) = false := by decide)
    (he : starEach (e :: es) X.env = (false, eval e X.env) :: starEach es X.env := by rfl) (hpl : (backTo pos (starEach es X.env)).any (·.1) = false := by rfl) : DP X C W (.Call (.Name x p) (e :: es) [] pos) (dN ta k) :=
  ⟨(pe_callTy hc hg hm hv ha.run hn hdb he hpl).imp fun σ H Q q => liftN ha.mono ok q, ha.mono.dN mk⟩
end
section
variable {K : PySem.W.Frag} {C : Ct} {HP H : Hp} {σ : L2.St} {env : En} {as ts : List Addr} {vs : List V} {v w : Vl}
theorem RepVs.one (q : RepVs K C HP H σ [v] vs ts) : ∃ x, vs = [x] ∧ RepV K C HP H σ v x ts := by
  obtain ⟨x, r, t1, t2, rfl, rfl, h1, h2⟩ := q
  obtain ⟨rfl, rfl⟩ := h2
  exact ⟨x, rfl, by rw [List.append_nil]; exact h1⟩
theorem RepVs.two (q : RepVs K C HP H σ [v, w] vs ts) : ∃ x y t1 t2, vs = [x, y] ∧ ts = t1 ++ t2 ∧ RepV K C HP H σ v x t1 ∧ RepV K C HP H σ w y t2 := by
  obtain ⟨x, r, t1, t2, rfl, rfl, h1, h2⟩ := q
  obtain ⟨y, rfl, h3⟩ := h2.one
  exact ⟨x, y, t1, t2, rfl, rfl, h1, h3⟩
end
/-- len -/
def lenOf (env : En) (v : Vl) : Option Nat := match slotOf env v with
  | some (.scr ns) => some ns.length
  | some s => match s.dat with
    | .list xs => some xs.length
    | .tuple xs => some xs.length
    | .dict xs => some xs.length
    | .str z => if z.length ≤ sizeLine then some z.length else none
    | _ => none
  | none => none
def kLen : List Vl → En → DK → Prop := fun vals env Q => match vals with
  | [v] => ∃ n, lenOf env v = some n ∧ Q (.tmp (.sh (.int n))) env
  | _ => False
theorem mono_len : MonoN kLen := fun a n Q Q' hq h => by
  unfold kLen at h ⊢
  split at h
  · obtain ⟨n, h1, h2⟩ := h; exact ⟨n, h1, hq _ _ h2⟩
  · exact h
theorem RpKV.length {H : Hp} : ∀ {vs : List (Key × V)} {ds : List (PyData × PyData)}, RpKV H vs ds → vs.length = ds.length
  | _, _, .nil => rfl
  | _, _, .consI _ r => by rw [List.length_cons, List.length_cons, RpKV.length r]
  | _, _, .consS _ r => by rw [List.length_cons, List.length_cons, RpKV.length r]
theorem ok_len {K : PySem.W.Frag} {C : Ct} : OkN K C (fun xs H Q => (∃ x n, xs = [x] ∧ LenV K x H n ∧ Q (.int n) H) ∨ (∃ a kvs, xs = [V.ref a] ∧ H a = some (.dK kvs) ∧ Q (.int kvs.length) H)) kLen :=
  fun σ HP H env as ts vals vs Qd Q r q h k => by
    unfold kLen at h
    split at h
    · rename_i v
      obtain ⟨n, e, hq⟩ := h
      obtain ⟨x, rfl, q'⟩ := q.one
      have fin : Q (.int (n : Int)) H := (k _ _ hq).sh r in_app1 (.int _)
      unfold lenOf at e
      cases hs : slotOf env v with
      | none => rw [hs] at e; cases e
      | some s =>
        rw [hs] at e
        have main : (s.isD = true) → (match s.dat with
            | .list xs => some xs.length
            | .tuple xs => some xs.length
            | .dict xs => some xs.length
            | .str z => if z.length ≤ sizeLine then some z.length else none
            | _ => none) = some n → (∃ (x0 : V) (n : Nat), [x] = [x0] ∧ LenV K x0 H n ∧ Q (.int n) H) ∨ (∃ a kvs, [x] = [V.ref a] ∧ H a = some (.dK kvs) ∧ Q (.int kvs.length) H) := fun hn e2 => by
          have hd := dat_of_slot hs hn
          have a := r.rp q' hd
          generalize s.dat = d at e2 a
          cases d with
          | list xs =>
            cases a with
            | lst g h =>
              have e3 : xs.length = n := Option.some.inj e2
              exact Or.inl ⟨_, n, rfl, Or.inl ⟨_, SqL.of g, by rw [h.length, e3]⟩, fin⟩
          | tuple xs =>
            cases a with
            | tup g h =>
              have e3 : xs.length = n := Option.some.inj e2
              exact Or.inl ⟨_, n, rfl, Or.inr ⟨_, SqT.of g, by rw [h.length, e3]⟩, fin⟩
          | dict xs =>
            cases a with
            | dct g h =>
              have e3 : xs.length = n := Option.some.inj e2
              exact Or.inr ⟨_, _, rfl, g, by rw [h.length, e3]; exact fin⟩
          | str z =>
            cases a
            dsimp only at e2
            split at e2
            · rename_i hz
              have e3 : z.length = n := Option.some.inj e2
              exact Or.inl ⟨_, n, rfl, ⟨hz, e3.symm⟩, fin⟩
            · cases e2
          | none => cases e2
          | bool b => cases e2
          | int i => cases e2
        cases s with
        | scr ns =>
          obtain ⟨a, rs⟩ := r.here q' hs
          obtain ⟨b, rfl, _, h3⟩ := rs
          have e3 : ns.length = n := Option.some.inj e
          exact .inl ⟨_, n, rfl, .inl ⟨_, Same.seq r.exB h3, by rw [List.length_map, e3]⟩, fin⟩
        | sh d => exact main rfl e
        | bor d => exact main rfl e
        | own d => exact main rfl e
        | odk d => exact main rfl e
        | ext ρ => cases e
    · exact h.elim
/-- by the data of one argument -/
def kF1 (f : PyData → Option PyData) : List Vl → En → DK → Prop := fun vals env Q => match vals with
  | [v] => ∃ d z, dat env v = some d ∧ f d = some z ∧ Q (.tmp (.sh z)) env
  | _ => False
def kF2 (f : PyData → PyData → Option PyData) : List Vl → En → DK → Prop := fun vals env Q => match vals with
  | [v, w] => ∃ d e z, dat env v = some d ∧ dat env w = some e ∧ f d e = some z ∧ Q (.tmp (.sh z)) env
  | _ => False
theorem mono_F1 {f} : MonoN (kF1 f) := fun a n Q Q' hq h => by
  unfold kF1 at h ⊢
  split at h
  · obtain ⟨d, z, h1, h2, h3⟩ := h; exact ⟨d, z, h1, h2, hq _ _ h3⟩
  · exact h
theorem mono_F2 {f} : MonoN (kF2 f) := fun a n Q Q' hq h => by
  unfold kF2 at h ⊢
  split at h
  · obtain ⟨d, e, z, h1, h2, h3, h4⟩ := h; exact ⟨d, e, z, h1, h2, h3, hq _ _ h4⟩
  · exact h
theorem ok_F1 {K : PySem.W.Frag} {C : Ct} {f : PyData → Option PyData} {r : List V → Hp → VK → Prop} (h : ∀ H x d z Q, Rp H x d → f d = some z → (∀ v, (∀ HP, Rp HP v z) → Q v H) → r [x] H Q) : OkN K C r (kF1 f) :=
  fun σ HP H env as ts vals vs Qd Q rel q hk k => by
    unfold kF1 at hk
    split at hk
    · obtain ⟨d, z, e1, e2, hq⟩ := hk
      obtain ⟨x, rfl, q'⟩ := q.one
      exact h H x d z Q (rel.rp q' e1) e2 fun v hv => (k _ _ hq).sh rel in_app1 (hv HP)
    · exact hk.elim
theorem ok_F2 {K : PySem.W.Frag} {C : Ct} {f : PyData → PyData → Option PyData} {r : List V → Hp → VK → Prop} (h : ∀ H x y d e z Q, Rp H x d → Rp H y e → f d e = some z → (∀ v, (∀ HP, Rp HP v z) → Q v H) → r [x, y] H Q) : OkN K C r (kF2 f) :=
  fun σ HP H env as ts vals vs Qd Q rel q hk k => by
    unfold kF2 at hk
    split at hk
    · obtain ⟨d, e, z, e1, e2, e3, hq⟩ := hk
      obtain ⟨x, y, t1, t2, rfl, rfl, q1, q2⟩ := q.two
      exact h H x y d e z Q (rel.rp q1 e1) (rel.rp q2 e2) e3 fun v hv => (k _ _ hq).sh rel in_app1 (hv HP)
    · exact hk.elim
def fMax2 : PyData → PyData → Option PyData
  | .int i, .int j => some (.int (if j > i then j else i))
  | _, _ => none
def fMin2 : PyData → PyData → Option PyData
  | .int i, .int j => some (.int (if j < i then j else i))
  | _, _ => none
theorem ok_max2 {K : PySem.W.Frag} {C : Ct} : OkN K C (fun xs H Q => ∃ i j, xs = [V.int i, .int j] ∧ Q (.int (if j > i then j else i)) H) (kF2 fMax2) := ok_F2 fun H x y d e z Q a b h k => by
  unfold fMax2 at h
  split at h
  · cases a; cases b
    cases Option.some.inj h
    exact ⟨_, _, rfl, k _ fun _ => .int _⟩
  · cases h
theorem ok_min2 {K : PySem.W.Frag} {C : Ct} : OkN K C (fun xs H Q => ∃ i j, xs = [V.int i, .int j] ∧ Q (.int (if j < i then j else i)) H) (kF2 fMin2) := ok_F2 fun H x y d e z Q a b h k => by
  unfold fMin2 at h
  split at h
  · cases a; cases b
    cases Option.some.inj h
    exact ⟨_, _, rfl, k _ fun _ => .int _⟩
  · cases h
def fInt : PyData → Option PyData
  | .int i => some (.int i)
  | .bool b => some (.int (if b then 1 else 0))
  | .str s => if s.length ≤ 640 then (PySem.intText? s).map PyData.int else none
  | _ => none
theorem ok_int1 {K : PySem.W.Frag} {C : Ct} : OkN K C (fun xs H Q => ((∃ i, xs = [V.int i] ∧ Q (.int i) H) ∨ ∃ k, xs = [V.bl k] ∧ Q (.int (if k then 1 else 0)) H) ∨ (∃ a n, xs = [V.str a] ∧ PySem.intText? a = some n ∧ a.length ≤ 640 ∧ Q (.int n) H)) (kF1 fInt) := ok_F1 fun H x d z Q a h k => by
  unfold fInt at h
  split at h
  · cases a; cases Option.some.inj h
    exact .inl (.inl ⟨_, rfl, k _ fun _ => .int _⟩)
  · cases a; cases Option.some.inj h
    exact .inl (.inr ⟨_, rfl, k _ fun _ => .int _⟩)
  · cases a
    rename_i s
    split at h
    · rename_i hz
      cases e : PySem.intText? s with
      | none => rw [e] at h; cases h
      | some n =>
        rw [e] at h
        cases Option.some.inj h
        exact .inr ⟨s, n, rfl, e, hz, k _ fun _ => .int _⟩
    · cases h
  · cases h
def fStr : PyData → Option PyData
  | .int i => if i.natAbs.log2 < 1920 then some (.str (toString i)) else none
  | _ => none
theorem ok_str1 {K : PySem.W.Frag} {C : Ct} : OkN K C (fun xs H Q => ∃ i, xs = [V.int i] ∧ i.natAbs.log2 < 1920 ∧ Q (.str (toString i)) H) (kF1 fStr) := ok_F1 fun H x d z Q a h k => by
  unfold fStr at h
  split at h
  · cases a
    split at h
    · rename_i hz
      cases Option.some.inj h
      exact ⟨_, rfl, hz, k _ fun _ => .str _⟩
    · cases h
  · cases h
/-- the ints of a list -/
def intsD : List PyData → Option (List Int)
  | [] => some []
  | .int i :: r => (intsD r).map (i :: ·)
  | _ => none
theorem intsD_eq : ∀ {xs : List PyData} {ns : List Int}, intsD xs = some ns → xs = ns.map PyData.int
  | [], ns, h => by cases Option.some.inj h; rfl
  | .int i :: r, ns, h => by
    unfold intsD at h
    cases e : intsD r with
    | none => rw [e] at h; cases h
    | some ms =>
      rw [e] at h
      cases Option.some.inj h
      rw [intsD_eq e]; rfl
  | .none :: _, _, h => by cases h
  | .bool _ :: _, _, h => by cases h
  | .str _ :: _, _, h => by cases h
  | .list _ :: _, _, h => by cases h
  | .tuple _ :: _, _, h => by cases h
  | .dict _ :: _, _, h => by cases h
theorem intsD_map : ∀ ns : List Int, intsD (ns.map PyData.int) = some ns
  | [] => rfl
  | n :: ns => by rw [List.map_cons, intsD, intsD_map ns]; rfl
def blsD : List PyData → Option (List Bool)
  | [] => some []
  | .bool i :: r => (blsD r).map (i :: ·)
  | _ => none
theorem blsD_eq : ∀ {xs : List PyData} {ns : List Bool}, blsD xs = some ns → xs = ns.map PyData.bool
  | [], ns, h => by cases Option.some.inj h; rfl
  | .bool i :: r, ns, h => by
    unfold blsD at h
    cases e : blsD r with
    | none => rw [e] at h; cases h
    | some ms =>
      rw [e] at h
      cases Option.some.inj h
      rw [blsD_eq e]; rfl
  | .none :: _, _, h => by cases h
  | .int _ :: _, _, h => by cases h
  | .str _ :: _, _, h => by cases h
  | .list _ :: _, _, h => by cases h
  | .tuple _ :: _, _, h => by cases h
  | .dict _ :: _, _, h => by cases h
theorem blsD_map : ∀ ns : List Bool, blsD (ns.map PyData.bool) = some ns
  | [] => rfl
  | n :: ns => by rw [List.map_cons, blsD, blsD_map ns]; rfl
def fSum : PyData → Option PyData
  | .list xs => (intsD xs).map fun ns => .int ns.sum
  | _ => none
theorem ok_sum {K : PySem.W.Frag} {C : Ct} : OkN K C (rSum K) (kF1 fSum) := ok_F1 fun H x d z Q a h k => by
  unfold fSum at h
  split at h
  · rename_i xs
    cases e : intsD xs with
    | none => rw [e] at h; cases h
    | some ns =>
      rw [e] at h
      cases Option.some.inj h
      cases intsD_eq e
      cases a with
      | lst g r => exact ⟨_, ns, rfl, SqL.of (by rw [g, r.ints]), k _ fun _ => .int _⟩
  · cases h
def fAll : PyData → Option PyData
  | .list xs => (blsD xs).map fun ns => .bool (ns.all id)
  | _ => none
theorem ok_all {K : PySem.W.Frag} {C : Ct} : OkN K C (rAll K) (kF1 fAll) := ok_F1 fun H x d z Q a h k => by
  unfold fAll at h
  split at h
  · rename_i xs
    cases e : blsD xs with
    | none => rw [e] at h; cases h
    | some ns =>
      rw [e] at h
      cases Option.some.inj h
      cases blsD_eq e
      cases a with
      | lst g r => exact ⟨_, ns, rfl, SqL.of (by rw [g, r.bls]), k _ fun _ => .bl _⟩
  · cases h
/-- the greatest, the least of a list of ints -/
def maxI : List Int → Int
  | [] => 0
  | x :: r => r.foldl (fun a b => if b > a then b else a) x
def minI : List Int → Int
  | [] => 0
  | x :: r => r.foldl (fun a b => if b < a then b else a) x
theorem maxI_fold : ∀ (r : List Int) (x : Int), (r.foldl (fun a b => if b > a then b else a) x ∈ x :: r) ∧ ∀ y ∈ x :: r, y ≤ r.foldl (fun a b => if b > a then b else a) x
  | [], x => ⟨by simp, fun y h => by simp at h; simp [h]⟩
  | z :: r, x => by
    obtain ⟨h1, h2⟩ := maxI_fold r (if z > x then z else x)
    rw [List.foldl_cons]
    refine ⟨?_, fun y h => ?_⟩
    · rcases List.mem_cons.mp h1 with h | h
      · rw [h]; split <;> simp
      · simp [h]
    · have h3 := h2 _ (List.mem_cons_self)
      rcases List.mem_cons.mp h with rfl | h
      · refine Int.le_trans ?_ h3; split <;> omega
      · rcases List.mem_cons.mp h with rfl | h
        · refine Int.le_trans ?_ h3; split <;> omega
        · exact h2 y (List.mem_cons_of_mem _ h)
theorem minI_fold : ∀ (r : List Int) (x : Int), (r.foldl (fun a b => if b < a then b else a) x ∈ x :: r) ∧ ∀ y ∈ x :: r, r.foldl (fun a b => if b < a then b else a) x ≤ y
  | [], x => ⟨by simp, fun y h => by simp at h; simp [h]⟩
  | z :: r, x => by
    obtain ⟨h1, h2⟩ := minI_fold r (if z < x then z else x)
    rw [List.foldl_cons]
    refine ⟨?_, fun y h => ?_⟩
    · rcases List.mem_cons.mp h1 with h | h
      · rw [h]; split <;> simp
      · simp [h]
    · have h3 := h2 _ (List.mem_cons_self)
      rcases List.mem_cons.mp h with rfl | h
      · refine Int.le_trans h3 ?_; split <;> omega
      · rcases List.mem_cons.mp h with rfl | h
        · refine Int.le_trans h3 ?_; split <;> omega
        · exact h2 y (List.mem_cons_of_mem _ h)
theorem maxI_spec {ns : List Int} (h : 0 < ns.length) : maxI ns ∈ ns ∧ ∀ y ∈ ns, y ≤ maxI ns := by
  cases ns with
  | nil => simp at h
  | cons x r => exact maxI_fold r x
theorem minI_spec {ns : List Int} (h : 0 < ns.length) : minI ns ∈ ns ∧ ∀ y ∈ ns, minI ns ≤ y := by
  cases ns with
  | nil => simp at h
  | cons x r => exact minI_fold r x
theorem maxI_eq {ns : List Int} {m : Int} (h : m ∈ ns) (k : ∀ y ∈ ns, y ≤ m) : maxI ns = m := by
  have s := maxI_spec (List.length_pos_of_mem h)
  have := k _ s.1; have := s.2 _ h; omega
theorem minI_eq {ns : List Int} {m : Int} (h : m ∈ ns) (k : ∀ y ∈ ns, m ≤ y) : minI ns = m := by
  have s := minI_spec (List.length_pos_of_mem h)
  have := k _ s.1; have := s.2 _ h; omega
def fMax : PyData → Option PyData
  | .list xs => (intsD xs).bind fun ns => if 0 < ns.length then some (.int (maxI ns)) else none
  | _ => none
def fMin : PyData → Option PyData
  | .list xs => (intsD xs).bind fun ns => if 0 < ns.length then some (.int (minI ns)) else none
  | _ => none
theorem ok_max {K : PySem.W.Frag} {C : Ct} : OkN K C (rMax K) (kF1 fMax) := ok_F1 fun H x d z Q a h k => by
  unfold fMax at h
  split at h
  · rename_i xs
    cases e : intsD xs with
    | none => rw [e] at h; cases h
    | some ns =>
      rw [e] at h
      dsimp only [Option.bind] at h
      split at h
      · rename_i hp
        cases Option.some.inj h
        cases intsD_eq e
        cases a with
        | lst g r => exact ⟨_, ns, rfl, SqL.of (by rw [g, r.ints]), hp, fun m h1 h2 => by rw [← maxI_eq h1 h2]; exact k _ fun _ => .int _⟩
      · cases h
  · cases h
theorem ok_min {K : PySem.W.Frag} {C : Ct} : OkN K C (rMin K) (kF1 fMin) := ok_F1 fun H x d z Q a h k => by
  unfold fMin at h
  split at h
  · rename_i xs
    cases e : intsD xs with
    | none => rw [e] at h; cases h
    | some ns =>
      rw [e] at h
      dsimp only [Option.bind] at h
      split at h
      · rename_i hp
        cases Option.some.inj h
        cases intsD_eq e
        cases a with
        | lst g r => exact ⟨_, ns, rfl, SqL.of (by rw [g, r.ints]), hp, fun m h1 h2 => by rw [← minI_eq h1 h2]; exact k _ fun _ => .int _⟩
      · cases h
  · cases h
/-- list(x): a new list -/
def kList : List Vl → En → DK → Prop := fun vals env Q => match vals with
  | [v] => match dat env v with
    | some (.list xs) => perm env v = true ∧ Q (.tmp (.own xs)) env
    | some (.tuple xs) => perm env v = true ∧ Q (.tmp (.own xs)) env
    | _ => False
  | _ => False
theorem mono_list : MonoN kList := fun a n Q Q' hq h => by
  unfold kList at h ⊢
  split at h
  · split at h
    · exact ⟨h.1, hq _ _ h.2⟩
    · exact ⟨h.1, hq _ _ h.2⟩
    · exact h
  · exact h
theorem ok_list {K : PySem.W.Frag} {C : Ct} : OkN K C (fun xs H Q => ∃ p ys, xs = [.ref p] ∧ (SqL K H p ys ∨ SqT K H p ys) ∧ ∀ l, H l = none → Q (.ref l) (upd H l (.lst ys))) kList :=
  fun σ HP H env as ts vals vs Qd Q r q h k => by
    unfold kList at h
    split at h
    · obtain ⟨x, rfl, q'⟩ := q.one
      split at h
      · rename_i v xs e
        obtain ⟨a, ws, rfl, h1, h2⟩ := r.kids q' e h.1
        exact ⟨a, ws, rfl, .inl (SqL.of h1), fun l hl => (k _ _ h.2).own r in_app1 hl h2⟩
      · rename_i v xs e
        obtain ⟨a, ws, rfl, h1, h2⟩ := r.kidsT q' e h.1
        exact ⟨a, ws, rfl, .inr (SqT.of h1), fun l hl => (k _ _ h.2).own r in_app1 hl h2⟩
      · exact h.elim
    · exact h.elim
abbrev a1 (ta : DE) : DA := daCons ta daNil
abbrev a2 (ta tb : DE) : DA := daCons ta (daCons tb daNil)
end L3

namespace L3
open PySem L2

def tst (t : DE) : DT := fun ex env Q => t ex env fun v n => ∃ c, dat n v = some (.bool c) ∧ Q c n
theorem MonoE.tst {t : DE} (m : MonoE t) : MonoT (tst t) := fun ex ex' env Q Q' he hq h => m ex ex' env _ _ he (fun v n ⟨c, h1, h2⟩ => ⟨c, h1, hq _ _ h2⟩) h
section
variable {K : PySem.W.Frag} {C : Ct} {W : WX} {σ : L2.St} {H : Hp}
theorem lift_tst {t : DE} {te : TE} (m : MonoE t) (h : ∀ Q, lift K C W t σ H Q → te σ H Q) {Q : Bool → Hp → Prop} (q : liftT K C W (tst t) σ H Q) : te σ H fun x H' => ∃ k, x = .bl k ∧ Q k H' := by
  obtain ⟨HP, env, as, R, q⟩ := q
  refine h _ ⟨HP, env, as, R, m _ _ env _ _ (fun _ _ z => z) (fun v n h1 => ?_) q⟩
  intro x HP1 H1 as1 t1 R1 X1 V1
  obtain ⟨c, h2, h3⟩ := h1
  have a := R1.rp V1 h2
  cases a
  exact ⟨c, rfl, h3 HP1 H1 as1 R1.nots (X1.less fun a ha => List.mem_append_left _ ha)⟩
end
section
variable {X : Cx} {C : Ct} {W : WX} {a b c e : Expr} {ta tb tc t : DE} {k : Vl → Vl → En → DK → Prop} {r : R2} {pos : Pos} {rest : List Expr}
theorem dt_val (h : DP X C W e t) (he : ∀ whole, isTrue e X.env whole = (do let v ← whole; standAt e.pos; holding [v] (truthy v)) := by intro _; rfl) : DPT X C W e (tst t) :=
  ⟨(pt_val h.run he).imp fun σ H Q q => lift_tst h.mono (fun _ z => z) q, h.mono.tst⟩
theorem dt_cmp {op : CmpOp} (ho : OpR X (compareOp op) r) (ok : Ok2 X.K C r k) (mk : MonoK2 k) (ha : DP X C W a ta) (hb : DP X C W b tb) (hm : behindInMarks op b = false) : DPT X C W (.Compare a [op] [b] pos) (tst (d2 ta tb k)) :=
  ⟨(pt_cmpR ho ha.run hb.run hm).imp fun σ H Q q => lift_tst (te := tOp r (lift X.K C W ta) (lift X.K C W tb)) (ha.mono.d2 hb.mono mk) (fun Q z => lift2 ha.mono hb.mono ok z) q, (ha.mono.d2 hb.mono mk).tst⟩
theorem dt_lt (ha : DP X C W a ta) (hb : DP X C W b tb) : DPT X C W (.Compare a [.Lt] [b] pos) (tst (dLt ta tb)) := dt_cmp op_lt (ok_int0 fun _ _ _ => .bl _) mono_kInt ha hb (nomark _)
theorem dt_le (ha : DP X C W a ta) (hb : DP X C W b tb) : DPT X C W (.Compare a [.LtE] [b] pos) (tst (dLe ta tb)) := dt_cmp op_le (ok_int0 fun _ _ _ => .bl _) mono_kInt ha hb (nomark _)
theorem dt_gt (ha : DP X C W a ta) (hb : DP X C W b tb) : DPT X C W (.Compare a [.Gt] [b] pos) (tst (dGt ta tb)) := dt_cmp op_gt (ok_int0 fun _ _ _ => .bl _) mono_kInt ha hb (nomark _)
theorem dt_ge (ha : DP X C W a ta) (hb : DP X C W b tb) : DPT X C W (.Compare a [.GtE] [b] pos) (tst (dGe ta tb)) := dt_cmp op_ge (ok_int0 fun _ _ _ => .bl _) mono_kInt ha hb (nomark _)
theorem dt_eq {k : Nat} (hr : Room k X.A) (ha : DP X C W a ta) (hb : DP X C W b tb) : DPT X C W (.Compare a [.Eq] [b] pos) (tst (dEq ta tb)) :=
  dt_cmp ((op_eqKS (by have := hr.units; omega)).or (op_eq.or (op_eqD hr.units))) (ok_eqF (fun x y H Q h q => ⟨h, by simpa using q⟩) fun x y H Q d e h1 h2 h3 h4 q => ⟨d, e, h1, h2, h3, h4, by simpa using q⟩) mono_eq ha hb (nomark _)
theorem dt_ne {k : Nat} (hr : Room k X.A) (ha : DP X C W a ta) (hb : DP X C W b tb) : DPT X C W (.Compare a [.NotEq] [b] pos) (tst (dNe ta tb)) :=
  dt_cmp (op_ne.or (op_neD hr.units)) (ok_eqN (fun x y H Q h q => ⟨h, by simpa using q⟩) fun x y H Q d e h1 h2 h3 h4 q => ⟨d, e, h1, h2, h3, h4, by simpa using q⟩) mono_eq ha hb (nomark _)

structure DPW (X : Cx) (C : Ct) (W : WX) (e : Expr) (t : DT) : Prop where
  run : PW X e (liftT X.K C W t)
  mono : MonoT t
theorem DPW.pt {t : DT} (h : DPW X C W e t) : DPT X C W e t := ⟨h.run.pt, h.mono⟩
theorem _root_.L2.PW.imp {X : Cx} {e : Expr} {t t' : TT} (h : PW X e t) (k : ∀ σ H Q, t' σ H Q → t σ H Q) : PW X e t' := ⟨fun w pins s σ H Q I q => h.run w pins s σ H Q I (k σ H Q q)⟩
variable {tA tB : DT}
def dAnd (t u : DT) : DT := fun ex env Q => t ex env fun c n => if c = true then u ex n Q else Q false n
def dOr (t u : DT) : DT := fun ex env Q => t ex env fun c n => if c = true then Q true n else u ex n Q
def dNot (t : DT) : DT := fun ex env Q => t ex env fun c n => Q (!c) n
theorem MonoT.and (m : MonoT tA) (m' : MonoT tB) : MonoT (dAnd tA tB) := fun ex ex' env Q Q' he hq h => m ex ex' env _ _ he (fun c n h1 => by
  cases c with
  | true => exact m' ex ex' n Q Q' he hq h1
  | false => exact hq _ _ h1) h
theorem MonoT.or (m : MonoT tA) (m' : MonoT tB) : MonoT (dOr tA tB) := fun ex ex' env Q Q' he hq h => m ex ex' env _ _ he (fun c n h1 => by
  cases c with
  | true => exact hq _ _ h1
  | false => exact m' ex ex' n Q Q' he hq h1) h
theorem MonoT.not (m : MonoT tA) : MonoT (dNot tA) := fun ex ex' env Q Q' he hq h => m ex ex' env _ _ he (fun c n h1 => hq _ _ h1) h
theorem PoT.from {K : PySem.W.Frag} {σ : L2.St} {HP H HP1 H1 : Hp} {as as1 : List Addr} {Q : Bool → Hp → Prop} {c : Bool} {n : En} (p : PoT K C σ HP H as Q c n) (x : Stp HP H as HP1 H1 as1) : PoT K C σ HP1 H1 as1 Q c n := fun HP' H' as' R X => p HP' H' as' R (x.trans X)
theorem liftT_and {K : PySem.W.Frag} {σ : L2.St} {H : Hp} {Q : Bool → Hp → Prop} (m : MonoT tA) (m' : MonoT tB) (h : liftT K C W (dAnd tA tB) σ H Q) : tAnd (liftT K C W tA) (liftT K C W tB) σ H Q := by
  obtain ⟨HP, env, as, R, h⟩ := h
  refine ⟨HP, env, as, R, m _ _ env _ _ (fun _ _ z => z) (fun c n h1 => ?_) h⟩
  intro HP1 H1 as1 R1 X1
  cases c with
  | true => exact iteT ⟨HP1, n, as1, R1, m' _ _ n _ _ (fun e n z => z.imp X1 fun a ha => ha) (fun c n2 z => PoT.from z X1) h1⟩
  | false => exact iteF (h1 HP1 H1 as1 R1 X1)
theorem liftT_or {K : PySem.W.Frag} {σ : L2.St} {H : Hp} {Q : Bool → Hp → Prop} (m : MonoT tA) (m' : MonoT tB) (h : liftT K C W (dOr tA tB) σ H Q) : tOr (liftT K C W tA) (liftT K C W tB) σ H Q := by
  obtain ⟨HP, env, as, R, h⟩ := h
  refine ⟨HP, env, as, R, m _ _ env _ _ (fun _ _ z => z) (fun c n h1 => ?_) h⟩
  intro HP1 H1 as1 R1 X1
  cases c with
  | true => exact iteT (h1 HP1 H1 as1 R1 X1)
  | false => exact iteF ⟨HP1, n, as1, R1, m' _ _ n _ _ (fun e n z => z.imp X1 fun a ha => ha) (fun c n2 z => PoT.from z X1) h1⟩
theorem dw_and1 (ha : DPT X C W a tA) : DPW X C W (.BoolOp .And [a] pos) tA := ⟨pw_and1 ha.run, ha.mono⟩
theorem dw_or1 (ha : DPT X C W a tA) : DPW X C W (.BoolOp .Or [a] pos) tA := ⟨pw_or1 ha.run, ha.mono⟩
theorem dw_and (ha : DPT X C W a tA) (hb : DPW X C W (.BoolOp .And (b :: rest) pos) tB) : DPW X C W (.BoolOp .And (a :: b :: rest) pos) (dAnd tA tB) :=
  ⟨(pw_and ha.run hb.run).imp fun σ H Q h => liftT_and ha.mono hb.mono h, ha.mono.and hb.mono⟩
theorem dw_or (ha : DPT X C W a tA) (hb : DPW X C W (.BoolOp .Or (b :: rest) pos) tB) : DPW X C W (.BoolOp .Or (a :: b :: rest) pos) (dOr tA tB) :=
  ⟨(pw_or ha.run hb.run).imp fun σ H Q h => liftT_or ha.mono hb.mono h, ha.mono.or hb.mono⟩
theorem dt_not (ha : DPT X C W a tA) : DPT X C W (.UnaryOp .Not a pos) (dNot tA) := ⟨(pt_not ha.run).imp fun σ H Q h => h, ha.mono.not⟩
/-- as values -/
def vAnd (ta tb : DE) : DE := fun ex env Q => ta ex env fun v n => ∃ c, dat n v = some (.bool c) ∧ if c = true then tb ex n Q else Q (.tmp (.sh (.bool false))) n
def vOr (ta tb : DE) : DE := fun ex env Q => ta ex env fun v n => ∃ c, dat n v = some (.bool c) ∧ if c = true then Q (.tmp (.sh (.bool true))) n else tb ex n Q
def vNot (ta : DE) : DE := fun ex env Q => ta ex env fun v n => ∃ c, dat n v = some (.bool c) ∧ Q (.tmp (.sh (.bool (!c)))) n
theorem Po.from {K : PySem.W.Frag} {σ : L2.St} {HP H HP1 H1 : Hp} {as as1 : List Addr} {Q : VK} {c : Vl} {n : En} (p : Po K C σ HP H as Q c n) (x : Stp HP H as HP1 H1 as1) : Po K C σ HP1 H1 as1 Q c n := fun v HP' H' as' ts' R X V => p v HP' H' as' ts' R (x.trans X) V
theorem MonoE.and (m : MonoE ta) (m' : MonoE tb) : MonoE (vAnd ta tb) := fun ex ex' env Q Q' he hq h => m ex ex' env _ _ he (fun v n ⟨c, e, h1⟩ => ⟨c, e, by
  cases c with
  | true => exact m' ex ex' n Q Q' he hq h1
  | false => exact hq _ _ h1⟩) h
theorem MonoE.or (m : MonoE ta) (m' : MonoE tb) : MonoE (vOr ta tb) := fun ex ex' env Q Q' he hq h => m ex ex' env _ _ he (fun v n ⟨c, e, h1⟩ => ⟨c, e, by
  cases c with
  | true => exact hq _ _ h1
  | false => exact m' ex ex' n Q Q' he hq h1⟩) h
theorem MonoE.not (m : MonoE ta) : MonoE (vNot ta) := fun ex ex' env Q Q' he hq h => m ex ex' env _ _ he (fun v n ⟨c, e, h1⟩ => ⟨c, e, hq _ _ h1⟩) h
theorem dv_and (ha : DP X C W a ta) (hb : DP X C W (.BoolOp .And (b :: rest) pos) tb) : DP X C W (.BoolOp .And (a :: b :: rest) pos) (vAnd ta tb) := by
  refine ⟨(pe_and ha.run hb.run).imp fun σ H Q h => ?_, ha.mono.and hb.mono⟩
  obtain ⟨HP, env, as, R, h⟩ := h
  refine ⟨HP, env, as, R, ha.mono _ _ env _ _ (fun _ _ z => z) (fun v n h1 => ?_) h⟩
  intro x HP1 H1 as1 t1 R1 X1 V1
  obtain ⟨c, e, h1⟩ := h1
  have w := R1.rp V1 e
  cases w
  have X2 : Stp HP H as HP1 H1 as1 := X1.less fun a ha => List.mem_append_left _ ha
  refine ⟨c, rfl, ?_⟩
  cases c with
  | true => exact iteT ⟨HP1, n, as1, R1.nots, hb.mono _ _ n _ _ (fun e n z => z.imp X2 fun a ha => ha) (fun c n2 z => Po.from z X2) h1⟩
  | false =>
    refine iteF ?_
    exact (Po.from h1 X2).sh R1 (fun a ha => ha) (.bl _)
theorem dv_or (ha : DP X C W a ta) (hb : DP X C W (.BoolOp .Or (b :: rest) pos) tb) : DP X C W (.BoolOp .Or (a :: b :: rest) pos) (vOr ta tb) := by
  refine ⟨(pe_or ha.run hb.run).imp fun σ H Q h => ?_, ha.mono.or hb.mono⟩
  obtain ⟨HP, env, as, R, h⟩ := h
  refine ⟨HP, env, as, R, ha.mono _ _ env _ _ (fun _ _ z => z) (fun v n h1 => ?_) h⟩
  intro x HP1 H1 as1 t1 R1 X1 V1
  obtain ⟨c, e, h1⟩ := h1
  have w := R1.rp V1 e
  cases w
  have X2 : Stp HP H as HP1 H1 as1 := X1.less fun a ha => List.mem_append_left _ ha
  refine ⟨c, rfl, ?_⟩
  cases c with
  | true =>
    refine iteT ?_
    exact (Po.from h1 X2).sh R1 (fun a ha => ha) (.bl _)
  | false => exact iteF ⟨HP1, n, as1, R1.nots, hb.mono _ _ n _ _ (fun e n z => z.imp X2 fun a ha => ha) (fun c n2 z => Po.from z X2) h1⟩
theorem dv_one {op} {t : DE} (h : DP X C W a t) : DP X C W (.BoolOp op [a] pos) t := ⟨pe_one h.run, h.mono⟩
theorem dv_not (ha : DP X C W a ta) : DP X C W (.UnaryOp .Not a pos) (vNot ta) := by
  refine ⟨(pe_not ha.run).imp fun σ H Q h => ?_, ha.mono.not⟩
  obtain ⟨HP, env, as, R, h⟩ := h
  refine ⟨HP, env, as, R, ha.mono _ _ env _ _ (fun _ _ z => z) (fun v n h1 => ?_) h⟩
  intro x HP1 H1 as1 t1 R1 X1 V1
  obtain ⟨c, e, h1⟩ := h1
  have w := R1.rp V1 e
  cases w
  exact ⟨c, rfl, (Po.from h1 (X1.less fun a ha => List.mem_append_left _ ha)).sh R1 (fun a ha => ha) (.bl _)⟩
/-- a if t else b -/
def dIf (t : DT) (ta tb : DE) : DE := fun ex env Q => t ex env fun c n => if c = true then ta ex n Q else tb ex n Q
theorem do_if (hc : DPT X C W c tA) (ha : DP X C W a ta) (hb : DP X C W b tb) : DP X C W (.IfExp c a b pos) (dIf tA ta tb) := by
  refine ⟨(pe_ifExp hc.run ha.run hb.run).imp fun σ H Q h => ?_, fun ex ex' env Q Q' he hq h => hc.mono ex ex' env _ _ he (fun c n h1 => ?_) h⟩
  · obtain ⟨HP, env, as, R, h⟩ := h
    refine ⟨HP, env, as, R, hc.mono _ _ env _ _ (fun _ _ z => z) (fun c n h1 => ?_) h⟩
    intro HP1 H1 as1 R1 X1
    cases c with
    | true => exact iteT ⟨HP1, n, as1, R1, ha.mono _ _ n _ _ (fun e n z => z.imp X1 fun a ha => ha) (fun c n2 z => Po.from z X1) h1⟩
    | false => exact iteF ⟨HP1, n, as1, R1, hb.mono _ _ n _ _ (fun e n z => z.imp X1 fun a ha => ha) (fun c n2 z => Po.from z X1) h1⟩
  · cases c with
    | true => exact ha.mono ex ex' n Q Q' he hq h1
    | false => exact hb.mono ex ex' n Q Q' he hq h1

def dChain (p p' : Int → Int → Bool) (ta tb tc : DE) : DE := fun ex env Q => ta ex env fun va n1 => tb ex n1 fun vb n2 => ∃ i j, dat n2 va = some (.int i) ∧ dat n2 vb = some (.int j) ∧
  if p i j = true then tc ex n2 fun vc n3 => ∃ l, dat n3 vc = some (.int l) ∧ Q (.tmp (.sh (.bool (p' j l)))) n3 else Q (.tmp (.sh (.bool false))) n2
theorem mono_chain {p p' : Int → Int → Bool} (ma : MonoE ta) (mb : MonoE tb) (mc : MonoE tc) : MonoE (dChain p p' ta tb tc) := fun ex ex' env Q Q' he hq h =>
  ma ex ex' env _ _ he (fun va n1 h1 => mb ex ex' n1 _ _ he (fun vb n2 ⟨i, j, e1, e2, h2⟩ => ⟨i, j, e1, e2, by
    split at h2
    · rename_i hp; rw [if_pos hp]; exact mc ex ex' n2 _ _ he (fun vc n3 ⟨l, e3, h3⟩ => ⟨l, e3, hq _ _ h3⟩) h2
    · rename_i hp; rw [if_neg hp]; exact hq _ _ h2⟩) h1) h
theorem lift_chain {K : PySem.W.Frag} {σ : L2.St} {H : Hp} {Q : VK} {p p' : Int → Int → Bool} (ma : MonoE ta) (mb : MonoE tb) (mc : MonoE tc) (h : lift K C W (dChain p p' ta tb tc) σ H Q) :
    tChain (rI0 fun i j => .bl (p i j)) (rI0 fun i j => .bl (p' i j)) (lift K C W ta) (lift K C W tb) (lift K C W tc) σ H Q := by
  obtain ⟨HP, env, as, R, h⟩ := h
  refine ⟨HP, env, as, R, ma _ _ env _ _ (fun _ _ z => z) (fun va n1 h1 => ?_) h⟩
  intro x HP1 H1 as1 t1 R1 X1 V1
  refine ⟨HP1, n1, as1, R1.nots, mb _ _ n1 _ _ (fun e n z => z.imp X1 fun a ha => List.mem_append_left _ ha) (fun vb n2 h2 => ?_) h1⟩
  intro y HP2 H2 as2 t2 R2 X2 V2
  obtain ⟨R3, st, X3⟩ := R1.pend X2 R2
  obtain ⟨i, j, e1, e2, h3⟩ := h2
  have w1 := R3.rp (V1.frame X2.ex st) e1
  have w2 := R3.rp V2 e2
  cases w1; cases w2
  have X4 : Stp HP H as HP2 H2 as2 := (X1.trans X3).less fun a ha => List.mem_append_left _ ha
  refine ⟨i, j, rfl, rfl, p i j, rfl, ?_⟩
  split at h3
  · rename_i hp
    rw [if_pos hp]
    refine ⟨HP2, n2, as2, R3.nots, mc _ _ n2 _ _ (fun e n z => z.imp X4 fun a ha => ha) (fun vc n3 h4 => ?_) h3⟩
    intro z HP3 H3 as3 t3 R4 X5 V3
    obtain ⟨l, e3, h5⟩ := h4
    have w3 := R4.rp V3 e3
    cases w3
    exact ⟨j, l, rfl, rfl, (Po.from h5 (X4.trans (X5.less fun a ha => List.mem_append_left _ ha))).sh R4 (fun a ha => ha) (.bl _)⟩
  · rename_i hp
    rw [if_neg hp]
    exact (Po.from h3 X4).sh R3 (fun a ha => ha) (.bl _)
def pLt (i j : Int) : Bool := decide (i < j)
def pLe (i j : Int) : Bool := decide (i ≤ j)
theorem opLt {X : Cx} : OpR X (compareOp .Lt) (rI0 fun i j => .bl (pLt i j)) := op_lt
theorem opLe {X : Cx} : OpR X (compareOp .LtE) (rI0 fun i j => .bl (pLe i j)) := op_le
theorem do_chain {op op' : CmpOp} {p p' : Int → Int → Bool} (ho : OpR X (compareOp op) (rI0 fun i j => .bl (p i j))) (ho' : OpR X (compareOp op') (rI0 fun i j => .bl (p' i j))) (ha : DP X C W a ta) (hb : DP X C W b tb) (hc : DP X C W c tc)
    (hm : lastMarks [op, op'] [b, c] = false := by with_unfolding_all rfl) : DP X C W (.Compare a [op, op'] [b, c] pos) (dChain p p' ta tb tc) :=
  ⟨(pe_chain ho ho' ha.run hb.run hc.run hm).imp fun σ H Q h => lift_chain ha.mono hb.mono hc.mono h, mono_chain ha.mono hb.mono hc.mono⟩
theorem dt_chain {op op' : CmpOp} {p p' : Int → Int → Bool} (ho : OpR X (compareOp op) (rI0 fun i j => .bl (p i j))) (ho' : OpR X (compareOp op') (rI0 fun i j => .bl (p' i j))) (ha : DP X C W a ta) (hb : DP X C W b tb) (hc : DP X C W c tc)
    (hm : lastMarks [op, op'] [b, c] = false := by with_unfolding_all rfl) : DPT X C W (.Compare a [op, op'] [b, c] pos) (tst (dChain p p' ta tb tc)) :=
  ⟨(pt_chain ho ho' ha.run hb.run hc.run hm).imp fun σ H Q q => lift_tst (te := tChain (rI0 fun i j => .bl (p i j)) (rI0 fun i j => .bl (p' i j)) (lift X.K C W ta) (lift X.K C W tb) (lift X.K C W tc)) (mono_chain ha.mono hb.mono hc.mono) (fun Q z => lift_chain ha.mono hb.mono hc.mono z) q, (mono_chain ha.mono hb.mono hc.mono).tst⟩

theorem eqv_scal {H H' : Hp} {x y : V} {d e : PyData} (a : Rp H x d) (b : Rp H' y e) (hd : scal d = true) (he : scal e = true) : eqV x y = PyData.eqv d e := by
  cases a <;> cases b <;> first | rfl | cases hd | cases he | (simp [eqV, PyData.eqv]; done)
theorem inV_scal {H H' : Hp} {x : V} {d : PyData} (a : Rp H x d) (hd : scal d = true) : ∀ {vs : List V} {ds : List PyData}, RpAll H' vs ds → ds.all scal = true → inV x vs = ds.any fun e => PyData.eqv e d
  | _, _, .nil, _ => rfl
  | _, _, .cons h r, z => by
    rw [List.all_cons, Bool.and_eq_true] at z
    have ih := inV_scal a hd r z.2
    unfold inV at ih ⊢
    rw [List.any_cons, List.any_cons, ih, eqv_scal h a z.1 hd]
theorem flat_scal {H : Hp} {x : V} {d : PyData} (a : Rp H x d) (hd : scal d = true) : flatV x = true := by
  cases a <;> first | rfl | cases hd
theorem flat_all {H : Hp} : ∀ {vs : List V} {ds : List PyData}, RpAll H vs ds → ds.all scal = true → vs.all flatV = true
  | _, _, .nil, _ => rfl
  | _, _, .cons h r, z => by
    rw [List.all_cons, Bool.and_eq_true] at z
    rw [List.all_cons, flat_scal h z.1, flat_all r z.2]; rfl
def kIn (neg : Bool) : Vl → Vl → En → DK → Prop := fun va vb env Q => match dat env va, dat env vb with
  | some (.str s), some (.str z) => ∃ c, s = ⟨#[c]⟩ ∧ Q (.tmp (.sh (.bool (neg != decide (c ∈ z.cps.toList))))) env
  | some d, some (.list xs) => scal d = true ∧ xs.all scal = true ∧ Q (.tmp (.sh (.bool (neg != xs.any fun e => PyData.eqv e d)))) env
  | some d, some (.tuple xs) => scal d = true ∧ xs.all scal = true ∧ Q (.tmp (.sh (.bool (neg != xs.any fun e => PyData.eqv e d)))) env
  | _, _ => False
theorem mono_in {neg} : MonoK2 (kIn neg) := fun a b n Q Q' hq h => by
  unfold kIn at h ⊢
  split at h
  · obtain ⟨c, h1, h2⟩ := h; exact ⟨c, h1, hq _ _ h2⟩
  · exact ⟨h.1, h.2.1, hq _ _ h.2.2⟩
  · exact ⟨h.1, h.2.1, hq _ _ h.2.2⟩
  · exact h
theorem ok_in {K : PySem.W.Frag} {neg : Bool} {r1 : R2} (h1 : ∀ c z H Q, Q (.bl (neg != decide (c ∈ z.cps.toList))) H → r1 (.str ⟨#[c]⟩) (.str z) H Q) : Ok2 K C (fun x y H Q => r1 x y H Q ∨ rIn K neg x y H Q) (kIn neg) :=
  fun σ HP H env as t1 t2 va vb x y Qd Q r qa qb h k => by
    unfold kIn at h
    split at h
    · rename_i s z e1 e2
      obtain ⟨c, rfl, hq⟩ := h
      have a := r.rp qa e1
      have b := r.rp qb e2
      cases a; cases b
      exact .inl (h1 c z H Q ((k _ _ hq).sh r in_app (.bl _)))
    · rename_i d xs e1 e2
      obtain ⟨hd, hx, hq⟩ := h
      have a := r.rp qa e1
      have b := r.rp qb e2
      cases b with
      | @lst a' us _ g w =>
        refine .inr ⟨_, _, rfl, .inl (SqL.of g), flat_scal a hd, flat_all w hx, ?_⟩
        have e : (if neg = true then !inV x us else inV x us) = (neg != xs.any fun e => PyData.eqv e d) := by
          rw [inV_scal a hd w hx]
          cases neg <;> simp
        rw [e]
        exact (k _ _ hq).sh r in_app (.bl _)
    · rename_i d xs e1 e2
      obtain ⟨hd, hx, hq⟩ := h
      have a := r.rp qa e1
      have b := r.rp qb e2
      cases b with
      | @tup a' us _ g w =>
        refine .inr ⟨_, _, rfl, .inr (SqT.of g), flat_scal a hd, flat_all w hx, ?_⟩
        have e : (if neg = true then !inV x us else inV x us) = (neg != xs.any fun e => PyData.eqv e d) := by
          rw [inV_scal a hd w hx]
          cases neg <;> simp
        rw [e]
        exact (k _ _ hq).sh r in_app (.bl _)
    · exact h.elim
abbrev dIn (ta tb : DE) : DE := d2 ta tb (kIn false)
abbrev dNin (ta tb : DE) : DE := d2 ta tb (kIn true)
theorem okIn {K : PySem.W.Frag} : Ok2 K C (fun x y H Q => (∃ (c : Nat) (z : Str), x = .str ⟨#[c]⟩ ∧ y = .str z ∧ Q (.bl (decide (c ∈ z.cps.toList))) H) ∨ rIn K false x y H Q) (kIn false) :=
  ok_in (r1 := fun x y H Q => ∃ (c : Nat) (z : Str), x = .str ⟨#[c]⟩ ∧ y = .str z ∧ Q (.bl (decide (c ∈ z.cps.toList))) H) fun c z H Q q => ⟨c, z, rfl, rfl, by simpa using q⟩
theorem okNin {K : PySem.W.Frag} : Ok2 K C (fun x y H Q => (∃ (c : Nat) (z : Str), x = .str ⟨#[c]⟩ ∧ y = .str z ∧ Q (.bl (!decide (c ∈ z.cps.toList))) H) ∨ rIn K true x y H Q) (kIn true) :=
  ok_in (r1 := fun x y H Q => ∃ (c : Nat) (z : Str), x = .str ⟨#[c]⟩ ∧ y = .str z ∧ Q (.bl (!decide (c ∈ z.cps.toList))) H) fun c z H Q q => ⟨c, z, rfl, rfl, by simpa using q⟩
theorem do_in (ha : DP X C W a ta) (hb : DP X C W b tb) (hm : behindInMarks .In b = false := by rfl) : DP X C W (.Compare a [.In] [b] pos) (dIn ta tb) := dp_cmp (op_in_sign.or op_in_seq) okIn mono_in ha hb hm
theorem do_nin (ha : DP X C W a ta) (hb : DP X C W b tb) (hm : behindInMarks .NotIn b = false := by rfl) : DP X C W (.Compare a [.NotIn] [b] pos) (dNin ta tb) := dp_cmp (op_notIn_sign.or op_notIn_seq) okNin mono_in ha hb hm
theorem dt_in (ha : DP X C W a ta) (hb : DP X C W b tb) (hm : behindInMarks .In b = false := by rfl) : DPT X C W (.Compare a [.In] [b] pos) (tst (dIn ta tb)) := dt_cmp (op_in_sign.or op_in_seq) okIn mono_in ha hb hm
theorem dt_nin (ha : DP X C W a ta) (hb : DP X C W b tb) (hm : behindInMarks .NotIn b = false := by rfl) : DPT X C W (.Compare a [.NotIn] [b] pos) (tst (dNin ta tb)) := dt_cmp (op_notIn_sign.or op_notIn_seq) okNin mono_in ha hb hm
/-- is None, is True, is False -/
def isNoneD : PyData → Bool
  | .none => true
  | _ => false
def kIs (neg : Bool) : Vl → Vl → En → DK → Prop := fun va vb env Q => match dat env va, dat env vb with
  | some d, some .none => Q (.tmp (.sh (.bool (neg != isNoneD d)))) env
  | some (.bool a), some (.bool b) => Q (.tmp (.sh (.bool (neg != decide (a = b))))) env
  | _, _ => False
theorem mono_is {neg} : MonoK2 (kIs neg) := fun a b n Q Q' hq h => by
  unfold kIs at h ⊢
  split at h
  · exact hq _ _ h
  · exact hq _ _ h
  · exact h
theorem isNone_iff {H : Hp} {x : V} {d : PyData} (a : Rp H x d) : decide (x = .non) = isNoneD d := by cases a <;> rfl
theorem ok_is {K : PySem.W.Frag} {neg : Bool} {r1 r2 : R2} (h1 : ∀ x H Q, Q (.bl (neg != decide (x = .non))) H → r1 x .non H Q) (h2 : ∀ a b H Q, Q (.bl (neg != decide (a = b))) H → r2 (.bl a) (.bl b) H Q) : Ok2 K C (fun x y H Q => r1 x y H Q ∨ r2 x y H Q) (kIs neg) :=
  fun σ HP H env as t1 t2 va vb x y Qd Q r qa qb h k => by
    unfold kIs at h
    split at h
    · rename_i d e1 e2
      have a := r.rp qa e1
      have b := r.rp qb e2
      cases b
      exact .inl (h1 x H Q (by rw [isNone_iff a]; exact (k _ _ h).sh r in_app (.bl _)))
    · rename_i e1 e2
      have a := r.rp qa e1
      have b := r.rp qb e2
      cases a; cases b
      exact .inr (h2 _ _ H Q ((k _ _ h).sh r in_app (.bl _)))
    · exact h.elim
abbrev dIs (ta tb : DE) : DE := d2 ta tb (kIs false)
abbrev dIsn (ta tb : DE) : DE := d2 ta tb (kIs true)
theorem okIs {K : PySem.W.Frag} : Ok2 K C (fun x y H Q => (y = V.non ∧ Q (.bl (decide (x = .non))) H) ∨ rIsB x y H Q) (kIs false) :=
  ok_is (r1 := fun x y H Q => y = V.non ∧ Q (.bl (decide (x = .non))) H) (fun x H Q q => ⟨rfl, by simpa using q⟩) fun a b H Q q => ⟨a, b, rfl, rfl, by simpa using q⟩
theorem okIsn {K : PySem.W.Frag} : Ok2 K C (fun x y H Q => (y = V.non ∧ Q (.bl (!decide (x = .non))) H) ∨ rNotB x y H Q) (kIs true) :=
  ok_is (r1 := fun x y H Q => y = V.non ∧ Q (.bl (!decide (x = .non))) H) (fun x H Q q => ⟨rfl, by simpa using q⟩) fun a b H Q q => ⟨a, b, rfl, rfl, by simpa using q⟩
theorem do_is (ha : DP X C W a ta) (hb : DP X C W b tb) : DP X C W (.Compare a [.Is] [b] pos) (dIs ta tb) := dp_cmp (op_isN.or op_isBl) okIs mono_is ha hb (nomark _)
theorem do_isn (ha : DP X C W a ta) (hb : DP X C W b tb) : DP X C W (.Compare a [.IsNot] [b] pos) (dIsn ta tb) := dp_cmp (op_notN.or op_notBl) okIsn mono_is ha hb (nomark _)
theorem dt_is (ha : DP X C W a ta) (hb : DP X C W b tb) : DPT X C W (.Compare a [.Is] [b] pos) (tst (dIs ta tb)) := dt_cmp (op_isN.or op_isBl) okIs mono_is ha hb (nomark _)
theorem dt_isn (ha : DP X C W a ta) (hb : DP X C W b tb) : DPT X C W (.Compare a [.IsNot] [b] pos) (tst (dIsn ta tb)) := dt_cmp (op_notN.or op_notBl) okIsn mono_is ha hb (nomark _)
/-- -n -/
def kNeg : Vl → En → DK → Prop := fun va env Q => match dat env va with
  | some (.int i) => Q (.tmp (.sh (.int (-i)))) env
  | _ => False
theorem do_neg (ha : DP X C W a ta) : DP X C W (.UnaryOp .USub a pos) (d1 ta kNeg) := dp_un un_neg (fun σ HP H env as t1 va x Qd Q r qa h k => by
    unfold kNeg at h
    split at h
    · rename_i i e1
      have a := r.rp qa e1
      cases a
      exact ⟨i, rfl, (k _ _ h).sh r in_app1 (.int _)⟩
    · exact h.elim) (fun a n Q Q' hq h => by
    unfold kNeg at h ⊢
    split at h
    · exact hq _ _ h
    · exact h) ha
end
end L3

namespace L3
open PySem L2

structure DEnds where
  nx : En → Prop
  rt : Sl → En → Prop
  bk : En → Prop := fun _ => False
  ct : En → Prop := fun _ => False
abbrev DS := DX → En → DEnds → Prop
structure DEnds.Le (D D' : DEnds) : Prop where
  nx : ∀ n, D.nx n → D'.nx n
  rt : ∀ s n, D.rt s n → D'.rt s n
  bk : ∀ n, D.bk n → D'.bk n
  ct : ∀ n, D.ct n → D'.ct n
theorem DEnds.Le.refl (D : DEnds) : D.Le D := ⟨fun _ h => h, fun _ _ h => h, fun _ h => h, fun _ h => h⟩
def MonoS (t : DS) : Prop := ∀ (ex ex' : DX) (env : En) (D D' : DEnds), (∀ e n, ex e n → ex' e n) → D.Le D' → t ex env D → t ex' env D'
def nxL (K : PySem.W.Frag) (C : Ct) (HP H : Hp) (as : List Addr) (P : L2.St → Hp → Prop) : En → Prop := fun env' => ∀ σ' HP' H' as', Rel K C HP' σ' H' env' as' [] → Stp HP H as HP' H' as' → P σ' H'
def rtL (K : PySem.W.Frag) (C : Ct) (HP H : Hp) (as : List Addr) (P : VK) : Sl → En → Prop := fun s env' => ∀ v σ' HP' H' as' ts', Rel K C HP' σ' H' env' as' ts' → Stp HP H as HP' H' (as' ++ ts') → RepS K C HP' H' s v ts' → P v H'
def endsOf (K : PySem.W.Frag) (C : Ct) (HP H : Hp) (as : List Addr) (D : Ends) : DEnds := ⟨nxL K C HP H as D.nx, rtL K C HP H as D.rt, nxL K C HP H as D.bk, nxL K C HP H as D.ct⟩
def lXs (K : PySem.W.Frag) (C : Ct) (W : WX) (HP H : Hp) (as : List Addr) : DX := fun e env' => ∀ σ' HP' H' as' d, Rel K C HP' σ' H' env' as' [] → Stp HP H as HP' H' as' → ExR HP' H' e d → W (C.cls e.cls) d σ' H'
def liftS (K : PySem.W.Frag) (C : Ct) (W : WX) (t : DS) : TS := fun D σ H => ∃ HP env as, Rel K C HP σ H env as [] ∧ t (lXs K C W HP H as) env (endsOf K C HP H as D)
structure DPS (X : Cx) (C : Ct) (W : WX) (st : Stmt) (t : DS) : Prop where
  run : PS X st (liftS X.K C W t)
  mono : MonoS t
structure DPB (X : Cx) (C : Ct) (W : WX) (sts : List Stmt) (t : DS) : Prop where
  run : PSs X sts (liftS X.K C W t)
  mono : MonoS t
theorem _root_.L2.PS.imp {X : Cx} {st : Stmt} {t t' : TS} (h : PS X st t) (k : ∀ D σ H, t' D σ H → t D σ H) : PS X st t' := ⟨fun pins s σ H D I q => h.run pins s σ H D I (k D σ H q)⟩
theorem _root_.L2.PSs.imp {X : Cx} {st : List Stmt} {t t' : TS} (h : PSs X st t) (k : ∀ D σ H, t' D σ H → t D σ H) : PSs X st t' := ⟨fun pins s σ H D I q => h.run pins s σ H D I (k D σ H q)⟩
section
variable {K : PySem.W.Frag} {C : Ct} {W : WX} {HP HP1 H H1 : Hp} {σ : L2.St} {env n : En} {as as1 ts : List Addr}
theorem lXs.at {e : Ex3} (h : lXs K C W HP H as e n) (σ : L2.St) : lX K C W σ HP H as e n := fun HP' H' as' d r x q => h σ HP' H' as' d r x q
theorem nxL.from {P : L2.St → Hp → Prop} (h : nxL K C HP H as P n) (x : Stp HP H as HP1 H1 as1) : nxL K C HP1 H1 as1 P n := fun σ' HP' H' as' r y => h σ' HP' H' as' r (x.trans y)
theorem rtL.from {P : VK} {s : Sl} (h : rtL K C HP H as P s n) (x : Stp HP H as HP1 H1 as1) : rtL K C HP1 H1 as1 P s n := fun v σ' HP' H' as' ts' r y q => h v σ' HP' H' as' ts' r (x.trans y) q
theorem lXs.from {e : Ex3} (h : lXs K C W HP H as e n) (x : Stp HP H as HP1 H1 as1) : lXs K C W HP1 H1 as1 e n := fun σ' HP' H' as' d r y q => h σ' HP' H' as' d r (x.trans y) q
theorem endsOf.from {D : Ends} (x : Stp HP H as HP1 H1 as1) : (endsOf K C HP H as D).Le (endsOf K C HP1 H1 as1 D) := ⟨fun _ h => nxL.from h x, fun _ _ h => rtL.from h x, fun _ h => nxL.from h x, fun _ h => nxL.from h x⟩
theorem Stp.cut {bs ts : List Addr} (x : Stp HP H as HP1 H1 (bs ++ ts)) : Stp HP H as HP1 H1 bs := x.less fun a ha => List.mem_append_left _ ha
end

def dNext : DS := fun _ env D => D.nx env
def dSeq (t u : DS) : DS := fun ex env D => t ex env { D with nx := fun n => u ex n D }
def dBreak : DS := fun _ env D => D.bk env
def dCont : DS := fun _ env D => D.ct env
section
variable {X : Cx} {C : Ct} {W : WX} {st : Stmt} {rest : List Stmt} {t u : DS} {e : Expr} {te : DE} {pos : Pos}
theorem db_nil : DPB X C W [] dNext := ⟨pss_nil.imp fun D σ H ⟨HP, env, as, R, h⟩ => h σ HP H as R Stp.refl, fun ex ex' env D D' he hd h => hd.nx _ h⟩
theorem db_one (h : DPS X C W st t) : DPB X C W [st] t := ⟨pss_one h.run, h.mono⟩
theorem db_cons (h1 : DPS X C W st t) (h2 : DPB X C W rest u) : DPB X C W (st :: rest) (dSeq t u) := by
  refine ⟨(pss_cons h1.run h2.run).imp fun D σ H ⟨HP, env, as, R, h⟩ => ?_, fun ex ex' env D D' he hd h => h1.mono ex ex' env { D with nx := fun n => u ex n D } _ he ⟨fun n q => h2.mono ex ex' n _ _ he hd q, hd.rt, hd.bk, hd.ct⟩ h⟩
  refine ⟨HP, env, as, R, h1.mono _ _ env { endsOf X.K C HP H as D with nx := fun n => u (lXs X.K C W HP H as) n (endsOf X.K C HP H as D) } _ (fun _ _ z => z) ⟨fun n q => ?_, fun _ _ z => z, fun _ z => z, fun _ z => z⟩ h⟩
  intro σ' HP' H' as' R' x
  exact ⟨HP', n, as', R', h2.mono _ _ n _ _ (fun e n z => z.from x) (endsOf.from x) q⟩
theorem ds_pass : DPS X C W (.Pass pos) dNext := ⟨ps_pass.imp fun D σ H ⟨HP, env, as, R, h⟩ => h σ HP H as R Stp.refl, fun ex ex' env D D' he hd h => hd.nx _ h⟩
theorem ds_break : DPS X C W (.Break pos) dBreak := ⟨ps_break.imp fun D σ H ⟨HP, env, as, R, h⟩ => h σ HP H as R Stp.refl, fun ex ex' env D D' he hd h => hd.bk _ h⟩
theorem ds_continue : DPS X C W (.Continue pos) dCont := ⟨ps_continue.imp fun D σ H ⟨HP, env, as, R, h⟩ => h σ HP H as R Stp.refl, fun ex ex' env D D' he hd h => hd.ct _ h⟩
def dExpr (te : DE) : DS := fun ex env D => te ex env fun _ n => D.nx n
theorem ds_expr (he : DP X C W e te) (hs : swapsWith e none pos.line X.env = pure false := by rfl) : DPS X C W (.Expr e pos) (dExpr te) := by
  refine ⟨(ps_expr he.run hs).imp fun D σ H ⟨HP, env, as, R, h⟩ => ⟨HP, env, as, R, he.mono _ _ env _ _ (fun e n z => z.at σ) (fun v n q => ?_) h⟩, fun ex ex' env D D' hx hd h => he.mono ex ex' env _ _ hx (fun v n q => hd.nx _ q) h⟩
  intro v HP' H' as' ts' R' x V
  exact q σ HP' H' as' R'.nots x.cut
def dIfS (t : DT) (u w : DS) : DS := fun ex env D => t ex env fun c n => if c = true then u ex n D else w ex n D
theorem ds_if {c : Expr} {a b : List Stmt} {tc : DT} {ta tb : DS} (hc : DPT X C W c tc) (ha : DPB X C W a ta) (hb : DPB X C W b tb) : DPS X C W (.If c a b pos) (dIfS tc ta tb) := by
  refine ⟨(ps_if hc.run ha.run hb.run).imp fun D σ H ⟨HP, env, as, R, h⟩ => ⟨HP, env, as, R, hc.mono _ _ env _ _ (fun e n z => z.at σ) (fun c n q => ?_) h⟩, fun ex ex' env D D' hx hd h => hc.mono ex ex' env _ _ hx (fun c n q => ?_) h⟩
  · intro HP' H' as' R' x
    cases c with
    | true => exact iteT ⟨HP', n, as', R', ha.mono _ _ n _ _ (fun e n z => z.from x) (endsOf.from x) q⟩
    | false => exact iteF ⟨HP', n, as', R', hb.mono _ _ n _ _ (fun e n z => z.from x) (endsOf.from x) q⟩
  · cases c with
    | true => exact ha.mono ex ex' n D D' hx hd q
    | false => exact hb.mono ex ex' n D D' hx hd q

def retD (v : Vl) (n : En) (rt : Sl → En → Prop) : Prop := match v with
  | .tmp s => rt s n
  | .loc i => ∃ s, n[i]? = some (some s) ∧ rt s (n.set i none)
def dRet (te : DE) : DS := fun ex env D => te ex env fun v n => retD v n D.rt
theorem set_same {σ : L2.St} {i : Nat} {x : Option V} (h : σ[i]? = some x) : σ.set i x = σ := by
  obtain ⟨hl, hv⟩ := List.getElem?_eq_some_iff.mp h
  rw [← hv]; exact List.set_getElem_self hl
/-- a slot's holding is taken out -/
theorem Rel.take {K : PySem.W.Frag} {HP H : Hp} {σ : L2.St} {env : En} {as ts : List Addr} {i : Nat} {s : Sl} {v : V} (r : Rel K C HP σ H env as ts) (e : env[i]? = some (some s)) (hv : σ[i]? = some (some v)) :
    ∃ as' t, Rel K C HP σ H (env.set i none) as' (t ++ ts) ∧ RepS K C HP H s v t ∧ ∀ a, a ∈ as' ++ (t ++ ts) ↔ a ∈ as ++ ts := by
  obtain ⟨w, pre, a, post, h1, h2, h3, h4⟩ := r.rep.at i e
  rw [hv] at h1; cases h1
  have k := h4 HP H none (some v) [] (Same.refl _) (fun _ _ => rfl) rfl
  rw [set_same hv] at k
  subst h2
  have pm : (pre ++ ([] ++ post) ++ (a ++ ts)).Perm (pre ++ (a ++ post) ++ ts) := by
    simp only [List.append_assoc, List.nil_append]
    refine List.Perm.append_left _ ?_
    rw [← List.append_assoc, ← List.append_assoc]
    exact List.Perm.append_right _ List.perm_append_comm
  refine ⟨pre ++ ([] ++ post), a, ⟨r.exP, r.exB, k, pm.nodup_iff.mpr r.nd, fun b hb => r.own b (pm.mem_iff.mp hb), r.pin⟩, h3, fun b => pm.mem_iff⟩
theorem ds_ret (he : DP X C W e te) : DPS X C W (.Return (some e) pos) (dRet te) := by
  refine ⟨(ps_ret he.run).imp fun D σ H ⟨HP, env, as, R, h⟩ => ⟨HP, env, as, R, he.mono _ _ env _ _ (fun e n z => z.at σ) (fun v n q => ?_) h⟩, fun ex ex' env D D' hx hd h => he.mono ex ex' env _ _ hx (fun v n q => ?_) h⟩
  · intro v' HP' H' as' ts' R' x V
    cases v with
    | tmp s => exact q v' σ HP' H' as' ts' R' x V
    | loc i =>
      obtain ⟨s, e1, q⟩ := q
      obtain ⟨as2, t, R2, rs, hm⟩ := R'.nots.take e1 V.1
      rw [List.append_nil] at R2
      refine q v' σ HP' H' as2 t R2 (x.less fun a ha => ?_) rs
      have z := (hm a).mp (by simpa using ha)
      exact List.mem_append_left _ (by simpa using z)
  · cases v with
    | tmp s => exact hd.rt _ _ q
    | loc i => obtain ⟨s, e1, q⟩ := q; exact ⟨s, e1, hd.rt _ _ q⟩
def dRetN : DS := fun _ env D => D.rt (.sh .none) env
theorem ds_retN : DPS X C W (.Return none pos) dRetN := ⟨ps_retN.imp fun D σ H ⟨HP, env, as, R, h⟩ => h .non σ HP H as [] R (by rw [List.append_nil]; exact Stp.refl) ⟨.non, rfl⟩, fun ex ex' env D D' he hd h => hd.rt _ _ h⟩

def asgD (i : Nat) (v : Vl) (n : En) (nx : En → Prop) : Prop := i < n.length ∧ match v with
  | .tmp s => nx (n.set i (some s))
  | .loc j => ∃ d n', share (.loc j) n = some (d, n') ∧ nx (n'.set i (some (.sh d)))
theorem asgD.imp {i : Nat} {v : Vl} {n : En} {P Q : En → Prop} (h : asgD i v n P) (k : ∀ n, P n → Q n) : asgD i v n Q := by
  obtain ⟨hl, h⟩ := h
  refine ⟨hl, ?_⟩
  cases v with
  | tmp s => exact k _ h
  | loc j => obtain ⟨d, n', e, q⟩ := h; exact ⟨d, n', e, k _ q⟩
def dSet (i : Nat) (te : DE) : DS := fun ex env D => te ex env fun v n => asgD i v n D.nx
/-- a temporary is stored -/
theorem Rel.store {K : PySem.W.Frag} {HP H : Hp} {σ : L2.St} {env : En} {as t ts : List Addr} {i : Nat} {s : Sl} {v : V} (r : Rel K C HP σ H env as (t ++ ts)) (q : RepS K C HP H s v t) (hi : i < env.length) (hio : i ∉ C.io ∨ σ[i]? = some (some v)) :
    ∃ as', Rel K C HP (σ.set i (some v)) H (env.set i (some s)) as' ts ∧ ∀ a ∈ as', a ∈ as ++ t := by
  obtain ⟨w, pre, a, post, h1, h2, h3, h4⟩ := r.rep.at i (List.getElem?_eq_getElem hi)
  have k := h4 HP H (some s) (some v) t (Same.refl _) (fun _ _ => rfl) q
  subst h2
  have pm : (pre ++ (t ++ post) ++ ts).Sublist (pre ++ (t ++ (a ++ post)) ++ ts) := by
    refine List.Sublist.append (List.Sublist.append (List.Sublist.refl _) (List.Sublist.append (List.Sublist.refl _) (List.sublist_append_right _ _))) (List.Sublist.refl _)
  have pp : (pre ++ (t ++ (a ++ post)) ++ ts).Perm (pre ++ (a ++ post) ++ (t ++ ts)) := by
    simp only [List.append_assoc]
    refine List.Perm.append_left _ ?_
    rw [← List.append_assoc t, ← List.append_assoc (t ++ a), ← List.append_assoc a, ← List.append_assoc (a ++ post) t ts]
    refine List.Perm.append_right _ ?_
    rw [List.append_assoc, List.append_assoc]
    exact (List.perm_append_comm).trans (by rw [List.append_assoc])
  refine ⟨pre ++ (t ++ post), ⟨r.exP, r.exB, k, (pp.nodup_iff.mpr r.nd).sublist pm, fun b hb => r.own b (pp.mem_iff.mp (pm.mem hb)), fun m hm => ?_⟩, fun b hb => ?_⟩
  · rcases hio with z | z
    · rw [List.getElem?_set_ne (fun e => z (by rw [e]; exact hm))]; exact r.pin m hm
    · rw [set_same z]; exact r.pin m hm
  simp at hb ⊢
  rcases hb with z | z | z <;> simp [z]
theorem RepE.lenE {K : PySem.W.Frag} {HP H : Hp} {σ : L2.St} {env : En} {as : List Addr} (r : RepE K C HP H env σ as) : env.length = σ.length := r.len.symm
theorem share_len {v : Vl} {n n' : En} {d : PyData} (h : share v n = some (d, n')) : n'.length = n.length := by
  unfold share at h
  split at h
  · cases Option.some.inj h; rfl
  · cases Option.some.inj h; rfl
  · cases Option.some.inj h; rfl
  · split at h
    · cases Option.some.inj h; rfl
    · cases h
  · cases h
  · cases h
  · split at h
    · cases Option.some.inj h; simp
    · cases Option.some.inj h; simp
    · cases h
/-- the store of a value, whatever it is -/
theorem Rel.asg {K : PySem.W.Frag} {HP H : Hp} {σ : L2.St} {env : En} {as t ts : List Addr} {i : Nat} {v : Vl} {x : V} {P : En → Prop} (r : Rel K C HP σ H env as (t ++ ts)) (q : RepV K C HP H σ v x t) (h : asgD i v env P) (hio : i ∉ C.io) :
    ∃ HP' env' as', Rel K C HP' (σ.set i (some x)) H env' as' ts ∧ Stp HP H (as ++ (t ++ ts)) HP' H (as' ++ ts) ∧ P env' := by
  obtain ⟨hl, h⟩ := h
  cases v with
  | tmp s =>
    obtain ⟨as', r', hm⟩ := r.store q hl (.inl hio)
    exact ⟨HP, _, as', r', Stp.refl.less fun a ha => by
      rcases List.mem_append.mp ha with z | z
      · have := hm a z; simp at this ⊢; rcases this with w | w <;> simp [w]
      · simp [z], h⟩
  | loc j =>
    obtain ⟨d, n', e, h⟩ := h
    obtain ⟨HP1, as1, r1, g1, x1⟩ := r.share q e
    have r1' : Rel K C HP1 σ H n' as1 ([] ++ ts) := r1
    obtain ⟨as', r', hm⟩ := r1'.store (s := .sh d) (v := x) (t := []) ⟨g1, rfl⟩ (by rw [share_len e]; exact hl) (.inl hio)
    exact ⟨HP1, _, as', r', x1.less fun a ha => by
      rcases List.mem_append.mp ha with z | z
      · have := hm a z; simp at this ⊢; simp [this]
      · simp [z], h⟩
theorem ds_set {i : Nat} {x : Str} {pos' : Pos} (hN : X.N.Nodup) (he : DP X C W e te) (hi : X.N[i]? = some x := by rfl) (hx : Loc X.env.scope x := by first | exact Or.inl rfl | exact Or.inr rfl) (hs : swapsWith e (some (.Name x pos')) pos.line X.env = pure false := by rfl)
    (hf : X.fn x = true ∨ X.env.scope.names.lookup x = some .local := by first | exact .inl rfl | exact .inr rfl | assumption) (hio : i ∉ C.io := by exact of_decide_eq_true rfl) : DPS X C W (.Assign [.Name x pos'] e pos) (dSet i te) := by
  refine ⟨(ps_set hN hi hx he.run hs hf).imp fun D σ H ⟨HP, env, as, R, h⟩ => ⟨HP, env, as, R, he.mono _ _ env _ _ (fun e n z => z.at σ) (fun v n q => ?_) h⟩, fun ex ex' env D D' hx hd h => he.mono ex ex' env _ _ hx (fun v n q => q.imp hd.nx) h⟩
  intro v' HP' H' as' ts' R' x V
  have R2 : Rel X.K C HP' σ H' n as' (ts' ++ []) := by rw [List.append_nil]; exact R'
  obtain ⟨HP2, env2, as2, R3, x2, p⟩ := R2.asg V q hio
  rw [List.append_nil, List.append_nil] at x2
  exact p _ HP2 H' as2 R3 (x.trans x2)

end

def stA : List Nat → List Vl → En → (En → Prop) → Prop
  | [], [], n, P => P n
  | i :: is, .tmp s :: vs, n, P => i < n.length ∧ stA is vs (n.set i (some s)) P
  | _, _, _, _ => False
theorem stA.imp : ∀ {is : List Nat} {vs : List Vl} {n : En} {P Q : En → Prop}, stA is vs n P → (∀ n, P n → Q n) → stA is vs n Q
  | [], [], _, _, _, h, k => k _ h
  | i :: is, .tmp s :: vs, _, _, _, h, k => ⟨h.1, stA.imp h.2 k⟩
  | [], _ :: _, _, _, _, h, _ => h.elim
  | _ :: _, [], _, _, _, h, _ => h.elim
  | _ :: _, .loc _ :: _, _, _, _, h, _ => h.elim
def setA : List Nat → List V → L2.St → L2.St
  | i :: is, v :: vs, σ => setA is vs (σ.set i (some v))
  | _, _, σ => σ
theorem Rel.stA {K : PySem.W.Frag} {C : Ct} {HP H : Hp} : ∀ {is : List Nat} {vals : List Vl} {σ : L2.St} {env : En} {as t : List Addr} {vs : List V} {P : En → Prop}, Rel K C HP σ H env as t → RepVs K C HP H σ vals vs t → L3.stA is vals env P → (∀ i ∈ is, i ∉ C.io) →
    ∃ env' as', Rel K C HP (setA is vs σ) H env' as' [] ∧ Stp HP H (as ++ t) HP H as' ∧ P env'
  | [], [], σ, env, as, t, vs, P, r, q, h, hio => by
    obtain ⟨rfl, rfl⟩ := q
    exact ⟨env, as, r, Stp.refl.less fun a ha => by simp [ha], h⟩
  | i :: is, .tmp s :: vals, σ, env, as, t, vs, P, r, q, h, hio => by
    obtain ⟨x, w, t1, t2, rfl, rfl, q1, q2⟩ := q
    obtain ⟨as1, r1, hm⟩ := r.store q1 h.1 (.inl (hio i (by simp)))
    have q2' : ∀ {vals : List Vl} {w : List V} {t2 : List Addr} {P : En → Prop} {is : List Nat} {n : En}, RepVs K C HP H σ vals w t2 → L3.stA is vals n P → RepVs K C HP H (σ.set i (some x)) vals w t2 := by
      intro vals
      induction vals with
      | nil => intro w t2 P is n q _; exact q
      | cons a vals ih =>
        intro w t2 P is n q h
        obtain ⟨y, w', u1, u2, rfl, rfl, g1, g2⟩ := q
        cases is with
        | nil => exact h.elim
        | cons i' is => cases a with
          | loc _ => exact h.elim
          | tmp s' => exact ⟨y, w', u1, u2, rfl, rfl, g1, ih g2 h.2⟩
    obtain ⟨env', as', r2, x2, p⟩ := Rel.stA r1 (q2' q2 h.2) h.2 fun m hm => hio m (by simp [hm])
    refine ⟨env', as', r2, (Stp.refl.less fun a ha => ?_).trans x2, p⟩
    rcases List.mem_append.mp ha with z | z
    · have := hm a z; simp at this ⊢; rcases this with w | w <;> simp [w]
    · simp [z]
  | [], _ :: _, _, _, _, _, _, _, _, _, h, _ => h.elim
  | _ :: _, [], _, _, _, _, _, _, _, _, h, _ => h.elim
  | _ :: _, .loc _ :: _, _, _, _, _, _, _, _, _, h, _ => h.elim
def dPar (is : List Nat) (ta : DA) : DS := fun ex env D => ta ex env fun vals n => stA is vals n D.nx
theorem stA_len : ∀ {is : List Nat} {vals : List Vl} {n : En} {P : En → Prop}, stA is vals n P → vals.length = is.length
  | [], [], _, _, _ => rfl
  | i :: is, .tmp s :: vs, _, _, h => by rw [List.length_cons, List.length_cons, stA_len h.2]
  | [], _ :: _, _, _, h => h.elim
  | _ :: _, [], _, _, h => h.elim
  | _ :: _, .loc _ :: _, _, _, h => h.elim
theorem RepVs.length {K : PySem.W.Frag} {C : Ct} {HP H : Hp} {σ : L2.St} : ∀ {vals : List Vl} {vs : List V} {ts : List Addr}, RepVs K C HP H σ vals vs ts → vs.length = vals.length
  | [], vs, ts, q => by rw [q.1]; rfl
  | a :: as, vs, ts, q => by
    obtain ⟨v, r, t1, t2, rfl, rfl, _, h2⟩ := q
    rw [List.length_cons, List.length_cons, h2.length]
section
variable {X : Cx} {C : Ct} {W : WX} {ta : DA} {pos : Pos}
theorem lift_par {K : PySem.W.Frag} {is : List Nat} {σ : L2.St} {H : Hp} {D : Ends} {ts : TA} (ma : MonoA ta) (hr : ∀ Q, liftA K C W ta σ H Q → ts σ H Q) (h : liftS K C W (dPar is ta) D σ H) (hio : ∀ i ∈ is, i ∉ C.io) : ts σ H fun vs H1 => vs.length = is.length ∧ D.nx (setA is vs σ) H1 := by
  obtain ⟨HP, env, as, R, h⟩ := h
  refine hr _ ⟨HP, env, as, R, ma _ _ env _ _ (fun e n z => z.at σ) (fun vals n q => ?_) h⟩
  intro vs HP' H' as' ts' R' x V
  obtain ⟨env2, as2, R2, x2, p⟩ := R'.stA V q hio
  exact ⟨by rw [V.length, stA_len q], p _ HP' H' as2 R2 (x.trans x2)⟩
theorem mono_par {is : List Nat} (ma : MonoA ta) : MonoS (dPar is ta) := fun ex ex' env D D' hx hd h => ma ex ex' env _ _ hx (fun v n q => q.imp hd.nx) h
theorem ds_par2 {i j : Nat} {x y : Str} {a b : Expr} {px py pt : Pos} {kt k2 pt2} (hc : X.calm = true) (hN : X.N.Nodup) (ha : DPA X C W [a, b] ta) (hi : X.N[i]? = some x := by rfl) (hj : X.N[j]? = some y := by rfl) (hij : i ≠ j := by decide)
    (hx : X.env.scope.names.lookup x = some .local := by rfl) (hy : X.env.scope.names.lookup y = some .local := by rfl)
    (hw : swappedStores [.Tuple [.Name x px, .Name y py] kt pt] (.Tuple [a, b] k2 pt2) X.env = pure (some [x, y]) := by rfl)
    (hs : swapsWithSole [.Tuple [.Name x px, .Name y py] kt pt] (.Tuple [a, b] k2 pt2) pos.line X.env = pure false := by rfl) (hio : ∀ i' ∈ [i, j], i' ∉ C.io := by exact of_decide_eq_true rfl) :
    DPS X C W (.Assign [.Tuple [.Name x px, .Name y py] kt pt] (.Tuple [a, b] k2 pt2) pos) (dPar [i, j] ta) := by
  refine ⟨(ps_par hc hN hi hj hij hx hy ha.run hw hs).imp fun D σ H h => ?_, mono_par ha.mono⟩
  have q := lift_par (ts := liftA X.K C W ta) ha.mono (fun _ z => z) h hio
  obtain ⟨HP, env, as, R, q⟩ := q
  refine ⟨HP, env, as, R, ha.mono _ _ env _ _ (fun _ _ z => z) (fun vals n q => ?_) q⟩
  intro vs HP' H' as' ts' R' x V
  obtain ⟨hl, p⟩ := q vs HP' H' as' ts' R' x V
  match vs, hl, p with
  | [v, w], _, p => exact ⟨v, w, rfl, p⟩
theorem ds_par3 {i j l : Nat} {x y z : Str} {a b c : Expr} {px py pz pt : Pos} {kt k2 pt2} (hc : X.calm = true) (hN : X.N.Nodup) (ha : DPA X C W [a, b, c] ta) (hi : X.N[i]? = some x := by rfl) (hj : X.N[j]? = some y := by rfl) (hl : X.N[l]? = some z := by rfl) (hij : i ≠ j := by decide) (hil : i ≠ l := by decide) (hjl : j ≠ l := by decide)
    (hx : X.env.scope.names.lookup x = some .local := by rfl) (hy : X.env.scope.names.lookup y = some .local := by rfl) (hz : X.env.scope.names.lookup z = some .local := by rfl)
    (hw : swappedStores [.Tuple [.Name x px, .Name y py, .Name z pz] kt pt] (.Tuple [a, b, c] k2 pt2) X.env = pure (some [x, y, z]) := by rfl)
    (hs : swapsWithSole [.Tuple [.Name x px, .Name y py, .Name z pz] kt pt] (.Tuple [a, b, c] k2 pt2) pos.line X.env = pure false := by rfl) (hio : ∀ i' ∈ [i, j, l], i' ∉ C.io := by exact of_decide_eq_true rfl) :
    DPS X C W (.Assign [.Tuple [.Name x px, .Name y py, .Name z pz] kt pt] (.Tuple [a, b, c] k2 pt2) pos) (dPar [i, j, l] ta) := by
  refine ⟨(ps_par3 hc hN hi hj hl hij hil hjl hx hy hz ha.run hw hs).imp fun D σ H h => ?_, mono_par ha.mono⟩
  have q := lift_par (ts := liftA X.K C W ta) ha.mono (fun _ z => z) h hio
  obtain ⟨HP, env, as, R, q⟩ := q
  refine ⟨HP, env, as, R, ha.mono _ _ env _ _ (fun _ _ z => z) (fun vals n q => ?_) q⟩
  intro vs HP' H' as' ts' R' x V
  obtain ⟨hl, p⟩ := q vs HP' H' as' ts' R' x V
  match vs, hl, p with
  | [u, v, w], _, p => exact ⟨u, v, w, rfl, p⟩
end

/-- data of a tuple are stored, one name each -/
def stD : List Nat → List PyData → (PyData → Sl) → En → Option En
  | [], [], _, n => some n
  | i :: is, d :: ds, f, n => if i < n.length then stD is ds f (n.set i (some (f d))) else none
  | _, _, _, _ => none
def slS (env : En) (v : Vl) (d : PyData) : Sl := match slotOf env v with
  | some s => chS s d
  | none => .sh d
def dUnp (is : List Nat) (te : DE) : DS := fun ex env D => te ex env fun v n => ∃ xs n', dat n v = some (.tuple xs) ∧ stD is xs (slS n v) n = some n' ∧ D.nx n'
def gNames : List Nat → TGs
  | [] => gNil
  | i :: is => gCons (gName i) (gNames is)
theorem Rel.stD {K : PySem.W.Frag} {C : Ct} {HP H : Hp} {f : PyData → Sl} : ∀ {is : List Nat} {ds : List PyData} {vs : List V} {σ : L2.St} {env env' : En} {as : List Addr} {Q : L2.St → Hp → Prop}, Rel K C HP σ H env as [] → vs.length = ds.length →
    (∀ (i : Nat) d, ds[i]? = some d → ∃ w, vs[i]? = some w ∧ RepS K C HP H (f d) w []) → L3.stD is ds f env = some env' → (∀ i ∈ is, i ∉ C.io) → (∀ σ' as', Rel K C HP σ' H env' as' [] → (∀ a ∈ as', a ∈ as) → Q σ' H) → gNames is vs σ H Q
  | [], [], vs, σ, env, env', as, Q, r, hl, hg, h, hio, k => by
    cases Option.some.inj h
    have e : vs = [] := List.eq_nil_of_length_eq_zero hl
    exact ⟨e, k σ as r fun _ h => h⟩
  | i :: is, d :: ds, vs, σ, env, env', as, Q, r, hl, hg, h, hio, k => by
    unfold L3.stD at h
    split at h
    · rename_i hi
      obtain ⟨w, hw, rw_⟩ := hg 0 d rfl
      cases vs with
      | nil => cases hw
      | cons v vs =>
        cases Option.some.inj hw
        have r' : Rel K C HP σ H env as ([] ++ []) := r
        obtain ⟨as1, r1, hm⟩ := r'.store rw_ hi (.inl (hio i (by simp)))
        refine ⟨_, vs, rfl, ?_⟩
        show gNames is vs (σ.set i (some _)) H Q
        exact Rel.stD r1 (by simpa using hl) (fun j d' hj => by
          obtain ⟨u, hu, ru⟩ := hg (j + 1) d' (by simpa using hj)
          exact ⟨u, by simpa using hu, ru⟩) h (fun m hm => hio m (by simp [hm])) fun σ' as' R' hm' => k σ' as' R' fun a ha => by have := hm a (hm' a ha); simpa using this
    · cases h
  | [], _ :: _, _, _, _, _, _, _, _, _, _, h, _, _ => by cases h
  | _ :: _, [], _, _, _, _, _, _, _, _, _, h, _, _ => by cases h
theorem stD_len {f : PyData → Sl} : ∀ {is : List Nat} {ds : List PyData} {n n' : En}, stD is ds f n = some n' → ds.length = is.length
  | [], [], _, _, _ => rfl
  | i :: is, d :: ds, n, n', h => by
    unfold stD at h
    split at h
    · rw [List.length_cons, List.length_cons, stD_len h]
    · cases h
  | [], _ :: _, _, _, h => by cases h
  | _ :: _, [], _, _, h => by cases h
theorem Rel.unp {K : PySem.W.Frag} {C : Ct} {HP H : Hp} {σ : L2.St} {env env' : En} {as ts t : List Addr} {v : Vl} {x : V} {xs : List PyData} {is : List Nat} {Q : L2.St → Hp → Prop} (r : Rel K C HP σ H env as ts) (q : RepV K C HP H σ v x t) (e : dat env v = some (.tuple xs))
    (h : L3.stD is xs (slS env v) env = some env') (hio : ∀ i ∈ is, i ∉ C.io) (k : ∀ σ' as', Rel K C HP σ' H env' as' [] → (∀ a ∈ as', a ∈ as) → Q σ' H) : gTup K is.length (gNames is) x σ H Q := by
  obtain ⟨a, vs, rfl, _, h2, len, get⟩ := r.child q (.inr e)
  refine ⟨a, vs, rfl, SqT.of (h2 e), by rw [len, stD_len h], Rel.stD r.nots len (fun i d hd => ?_) h hio k⟩
  obtain ⟨w, w1, w2⟩ := get i d hd
  refine ⟨w, w1, ?_⟩
  unfold ch at w2
  unfold slS
  cases z : slotOf env v with
  | none => rw [z] at w2; exact w2
  | some s => rw [z] at w2; exact w2
section
variable {X : Cx} {C : Ct} {W : WX} {te : DE} {pos : Pos} {e : Expr}
/-- targets that are names, one slot each -/
structure NamesG (X : Cx) (es : List Expr) (is : List Nat) : Prop where
  run : PGs X es (gNames is)
theorem ng_nil : NamesG X [] [] := ⟨pgs_nil⟩
theorem ng_cons {x : Str} {p : Pos} {i : Nat} {es : List Expr} {is : List Nat} (hN : X.N.Nodup) (h : NamesG X es is) (hi : X.N[i]? = some x := by rfl) (hx : Loc X.env.scope x := by first | exact Or.inl rfl | exact Or.inr rfl) (hf : X.fn x = true ∨ X.env.scope.names.lookup x = some .local := by first | exact .inl rfl | exact .inr rfl | assumption)
    (hs : (assignEach (.Name x p :: es) X.env).map (·.2) = assign (.Name x p) X.env :: (assignEach es X.env).map (·.2) := by rfl) : NamesG X (.Name x p :: es) (i :: is) := ⟨pgs_cons (pg_name hN hi hx hf) h.run hs⟩
theorem ds_unp {es : List Expr} {is : List Nat} {k : Nat} {p : Pos} (hc : X.calm = true) (he : DP X C W e te) (hg : NamesG X es is) (hn : (assignEach es X.env).length = is.length := by rfl) (hst : (assignEach es X.env).findIdx? (·.1) = none := by rfl) (hs : swapsWithSole [.Tuple es k p] e pos.line X.env = pure false := by rfl)
    (hw : swappedStores [.Tuple es k p] e X.env = pure none := by rfl) (h1 : (assignEach [.Tuple es k p] X.env).map (·.2) = [assign (.Tuple es k p) X.env] := by rfl) (hio : ∀ i ∈ is, i ∉ C.io := by exact of_decide_eq_true rfl) : DPS X C W (.Assign [.Tuple es k p] e pos) (dUnp is te) := by
  refine ⟨(ps_asg he.run (pg_tup hc hg.run hn hst) hs hw h1).imp fun D σ H ⟨HP, env, as, R, h⟩ => ⟨HP, env, as, R, he.mono _ _ env _ _ (fun e n z => z.at σ) (fun v n q => ?_) h⟩, fun ex ex' env D D' hx hd h => he.mono ex ex' env _ _ hx (fun v n ⟨xs, n', h1, h2, h3⟩ => ⟨xs, n', h1, h2, hd.nx _ h3⟩) h⟩
  intro v' HP' H' as' ts' R' x V
  obtain ⟨xs, n', e1, e2, p⟩ := q
  exact R'.unp V e1 e2 hio fun σ2 as2 R2 hm => p σ2 HP' H' as2 R2 (x.less fun a ha => List.mem_append_left _ (hm a ha))
end
end L3

namespace L3
open PySem L2

def dWhile (t : DT) (tb : DS) : DS := fun ex env D => ∃ W : Nat → En → Prop, (∃ m, W m env) ∧ ∀ m n, W m n → t ex n fun c n1 => if c = true then ∃ N : En → Prop, (∀ n', N n' → ∃ m', m' < m ∧ W m' n') ∧ tb ex n1 { D with nx := N, ct := N, bk := D.nx } else D.nx n1
section
variable {X : Cx} {C : Ct} {W : WX} {pos : Pos}
theorem ds_while {c : Expr} {body : List Stmt} {tc : DT} {tb : DS} (hp : PassesOwn (model X.prog X.w) X.A X.env X.xe) (hc : DPT X C W c tc) (hb : DPB X C W body tb) : DPS X C W (.While c body [] pos) (dWhile tc tb) := by
  refine ⟨(ps_while hp hc.run hb.run).imp fun D σ H ⟨HP, env, as, R, h⟩ => ?_, fun ex ex' env D D' hx hd h => ?_⟩
  · obtain ⟨Wd, ⟨m0, w0⟩, turn⟩ := h
    refine ⟨fun m σ' H' => ∃ HP' env' as', Rel X.K C HP' σ' H' env' as' [] ∧ Stp HP H as HP' H' as' ∧ Wd m env', ⟨m0, HP, env, as, R, Stp.refl, w0⟩, ?_⟩
    rintro m σ1 H1 ⟨HP1, env1, as1, R1, x1, w1⟩
    refine ⟨HP1, env1, as1, R1, hc.mono _ _ env1 _ _ (fun e n z => (z.from x1).at σ1) (fun c n q => ?_) (turn m env1 w1)⟩
    intro HP2 H2 as2 R2 x2
    cases c with
    | true =>
      obtain ⟨N, hN, q⟩ := q
      refine iteT ⟨fun σ' H' => ∃ HP' env' as', Rel X.K C HP' σ' H' env' as' [] ∧ Stp HP H as HP' H' as' ∧ N env', fun σ' H' ⟨HP', env', as', R', x', n'⟩ => ?_, ?_⟩
      · obtain ⟨m', hm, w'⟩ := hN env' n'
        exact ⟨m', hm, HP', env', as', R', x', w'⟩
      · refine ⟨HP2, n, as2, R2, hb.mono _ _ n _ _ (fun e n z => z.from (x1.trans x2)) ⟨fun n3 h3 => ?_, fun s n3 h3 => rtL.from h3 (x1.trans x2), fun n3 h3 => nxL.from h3 (x1.trans x2), fun n3 h3 => ?_⟩ q⟩
        · exact fun σ' HP' H' as' R' y => ⟨HP', n3, as', R', (x1.trans x2).trans y, h3⟩
        · exact fun σ' HP' H' as' R' y => ⟨HP', n3, as', R', (x1.trans x2).trans y, h3⟩
    | false => exact iteF (q σ1 HP2 H2 as2 R2 (x1.trans x2))
  · obtain ⟨Wd, w0, turn⟩ := h
    refine ⟨Wd, w0, fun m n w => hc.mono ex ex' n _ _ hx (fun c n1 q => ?_) (turn m n w)⟩
    cases c with
    | true =>
      obtain ⟨N, hN, q⟩ := q
      exact iteT ⟨N, hN, hb.mono ex ex' n1 { D with nx := N, ct := N, bk := D.nx } _ hx ⟨fun _ z => z, hd.rt, hd.nx, fun _ z => z⟩ q⟩
    | false => exact iteF (hd.nx _ q)
end

theorem for_core {K : PySem.W.Frag} {C : Ct} {Wx : WX} {J : It} {g : TG} {tb : DS} {D : Ends} {σ : L2.St} {HP1 H1 : Hp} {env1 : En} {as1 : List Addr} {n : Nat} {st : Nat → En → En} (mb : MonoS tb) (Wd : Nat → En → Prop) (R1 : Rel K C HP1 σ H1 env1 as1 []) (w0 : Wd 0 env1)
    (good : ∀ (i : Nat) σ' H' HP' env' as', Rel K C HP' σ' H' env' as' [] → Same HP1 HP' → Wd i env' → (i < n → J.go i H') ∧ (n ≤ i → J.stop i H'))
    (turn : ∀ (i : Nat) σ' H' HP' env' as' x H'', Rel K C HP' σ' H' env' as' [] → Same HP1 HP' → i < n → Wd i env' → J.yld i H' x H'' → ∀ Q : L2.St → Hp → Prop, (∀ σ2 HP2 H2 as2, Rel K C HP2 σ2 H2 (st i env') as2 [] → Stp HP' H' as' HP2 H2 as2 → Q σ2 H2) → g x σ' H'' Q)
    (body : ∀ i n', i < n → Wd i n' → tb (lXs K C Wx HP1 H1 as1) (st i n') { endsOf K C HP1 H1 as1 D with nx := Wd (i + 1), ct := Wd (i + 1), bk := (endsOf K C HP1 H1 as1 D).nx })
    (done : ∀ n', Wd n n' → (endsOf K C HP1 H1 as1 D).nx n') :
    ∃ W : Nat → Nat → L2.St → Hp → Prop, (∃ m, W 0 m σ H1) ∧ ∀ i m σ H, W i m σ H →
      (J.stop i H ∧ D.nx σ H) ∨ (J.go i H ∧ ∃ N : L2.St → Hp → Prop, (∀ σ' H', N σ' H' → ∃ m', m' < m ∧ W (i + 1) m' σ' H') ∧ ∀ x H', J.yld i H x H' → g x σ H' fun σ2 H2 => liftS K C Wx tb { D with nx := N, ct := N, bk := D.nx } σ2 H2) := by
  refine ⟨fun i m σ' H' => m = n - i ∧ i ≤ n ∧ ∃ HP' env' as', Rel K C HP' σ' H' env' as' [] ∧ Stp HP1 H1 as1 HP' H' as' ∧ Wd i env', ⟨n, by simp, Nat.zero_le _, HP1, env1, as1, R1, Stp.refl, w0⟩, ?_⟩
  rintro i m σ' H' ⟨rfl, hi, HP', env', as', R', x', w'⟩
  obtain ⟨gd, sp⟩ := good i σ' H' HP' env' as' R' x'.ex w'
  by_cases hlt : i < n
  · refine .inr ⟨gd hlt, fun σ3 H3 => ∃ HP3 env3 as3, Rel K C HP3 σ3 H3 env3 as3 [] ∧ Stp HP1 H1 as1 HP3 H3 as3 ∧ Wd (i + 1) env3, fun σ3 H3 ⟨HP3, env3, as3, R3, x3, w3⟩ => ⟨n - (i + 1), by omega, rfl, hlt, HP3, env3, as3, R3, x3, w3⟩, fun v H'' y => ?_⟩
    refine turn i σ' H' HP' env' as' v H'' R' x'.ex hlt w' y _ fun σ2 HP2 H2 as2 R2 x2 => ?_
    refine ⟨HP2, st i env', as2, R2, mb _ _ _ { endsOf K C HP1 H1 as1 D with nx := Wd (i + 1), ct := Wd (i + 1), bk := (endsOf K C HP1 H1 as1 D).nx } _ (fun e n z => z.from (x'.trans x2)) ⟨fun n3 h3 => ?_, fun s n3 h3 => rtL.from h3 (x'.trans x2), fun n3 h3 => nxL.from h3 (x'.trans x2), fun n3 h3 => ?_⟩ (body i env' hlt w')⟩
    · exact fun σ4 HP4 H4 as4 R4 y4 => ⟨HP4, n3, as4, R4, (x'.trans x2).trans y4, h3⟩
    · exact fun σ4 HP4 H4 as4 R4 y4 => ⟨HP4, n3, as4, R4, (x'.trans x2).trans y4, h3⟩
  · have e : i = n := by omega
    subst e
    exact .inl ⟨sp (Nat.le_refl _), done env' w' σ' HP' H' as' R' x'⟩

/-- range(..) -/
def rng1 (n : En) : List Vl → Option (Int × Int)
  | [v] => match dat n v with
    | some (.int j) => some (0, j)
    | _ => none
  | _ => none
def rng2 (n : En) : List Vl → Option (Int × Int)
  | [v, w] => match dat n v, dat n w with
    | some (.int i), some (.int j) => some (i, j)
    | _, _ => none
  | _ => none
def RB (i : Int) : Prop := -(2 ^ 62) ≤ i ∧ i < 2 ^ 62
def dForR (rng : En → List Vl → Option (Int × Int)) (ta : DA) (j : Nat) (tb : DS) : DS := fun ex env D => ta ex env fun vals n0 => ∃ lo hi : Int, rng n0 vals = some (lo, hi) ∧ RB lo ∧ RB hi ∧ ∃ W : Nat → En → Prop, W 0 n0 ∧
  (∀ (i : Nat) n, lo + i < hi → W i n → j < n.length ∧ tb ex (n.set j (some (.sh (.int (lo + i))))) { D with nx := W (i + 1), ct := W (i + 1), bk := D.nx }) ∧ ∀ n, W (hi - lo).toNat n → D.nx n
theorem mono_forR {rng : En → List Vl → Option (Int × Int)} {ta : DA} {j : Nat} {tb : DS} (ma : MonoA ta) (mb : MonoS tb) : MonoS (dForR rng ta j tb) := fun ex ex' env D D' hx hd h =>
  ma ex ex' env _ _ hx (fun vals n0 ⟨lo, hi, h1, h2, h3, W, w0, hs, hd2⟩ => ⟨lo, hi, h1, h2, h3, W, w0, fun i n hl w => ⟨(hs i n hl w).1, mb ex ex' _ { D with nx := W (i + 1), ct := W (i + 1), bk := D.nx } _ hx ⟨fun _ z => z, hd.rt, hd.nx, fun _ z => z⟩ (hs i n hl w).2⟩, fun n w => hd.nx _ (hd2 n w)⟩) h
section
variable {X : Cx} {C : Ct} {W : WX} {pos : Pos} {x : Str} {px : Pos} {j : Nat} {body : List Stmt} {tb : DS} {ta : DA}
theorem lift_forR {K : PySem.W.Frag} {σ : L2.St} {HP H : Hp} {as : List Addr} {D : Ends} {lo hi : Int} {HP1 H1 : Hp} {n0 : En} {as1 : List Addr} (mb : MonoS tb) (hio : j ∉ C.io) (x1 : Stp HP H as HP1 H1 as1) (R1 : Rel K C HP1 σ H1 n0 as1 [])
    (h : ∃ Wd : Nat → En → Prop, Wd 0 n0 ∧ (∀ (i : Nat) n, lo + i < hi → Wd i n → j < n.length ∧ tb (lXs K C W HP H as) (n.set j (some (.sh (.int (lo + i))))) { endsOf K C HP H as D with nx := Wd (i + 1), ct := Wd (i + 1), bk := (endsOf K C HP H as D).nx }) ∧ ∀ n, Wd (hi - lo).toNat n → (endsOf K C HP H as D).nx n) :
    ∃ W' : Nat → Nat → L2.St → Hp → Prop, (∃ m, W' 0 m σ H1) ∧ ∀ i m σ H, W' i m σ H →
      ((Itr lo (hi - lo).toNat).stop i H ∧ D.nx σ H) ∨ ((Itr lo (hi - lo).toNat).go i H ∧ ∃ N : L2.St → Hp → Prop, (∀ σ' H', N σ' H' → ∃ m', m' < m ∧ W' (i + 1) m' σ' H') ∧ ∀ x H', (Itr lo (hi - lo).toNat).yld i H x H' → (gName j) x σ H' fun σ2 H2 => liftS K C W tb { D with nx := N, ct := N, bk := D.nx } σ2 H2) := by
  obtain ⟨Wd, w0, hs, hd⟩ := h
  refine for_core (n := (hi - lo).toNat) (st := fun i n => n.set j (some (.sh (.int (lo + i))))) mb Wd R1 w0 (fun i σ' H' HP' env' as' R' s w => ⟨fun h => h, fun h => h⟩) (fun i σ' H' HP' env' as' v H'' R' s hi' w y Q k => ?_) (fun i n hi' w => ?_) fun n w => nxL.from (hd n w) x1
  · obtain ⟨rfl, rfl⟩ := y
    obtain ⟨hl, _⟩ := hs i env' (by omega) w
    have R2 : Rel K C HP' σ' H'' env' as' ([] ++ []) := R'
    obtain ⟨as2, R3, hm⟩ := R2.store (s := .sh (.int (lo + i))) (v := .int (lo + i)) (t := []) ⟨.int _, rfl⟩ hl (.inl hio)
    exact k _ HP' H'' as2 R3 (Stp.refl.less fun a ha => by simpa using hm a ha)
  · exact mb _ _ _ { endsOf K C HP H as D with nx := Wd (i + 1), ct := Wd (i + 1), bk := (endsOf K C HP H as D).nx } _ (fun e n z => z.from x1) ⟨fun _ z => z, fun _ _ z => rtL.from z x1, fun _ z => nxL.from z x1, fun _ z => z⟩ (hs i n (by omega) w).2
theorem ds_for1 {a : Expr} {p : Pos} (hp : PassesOwn (model X.prog X.w) X.A X.env X.xe) (hc : X.calm = true) (hN : X.N.Nodup) (hm : X.mg "range" = none) (ha : DPA X C W [a] ta) (hb : DPB X C W body tb) (hg : Gl X "range" := by rfl) (hi : X.N[j]? = some x := by rfl)
    (hx : Loc X.env.scope x := by first | exact Or.inl rfl | exact Or.inr rfl) (hf : X.fn x = true ∨ X.env.scope.names.lookup x = some .local := by first | exact .inl rfl | exact .inr rfl | assumption)
    (hs : starEach [a] X.env = [(false, eval a X.env)] := by rfl) (hfs : ∀ y, foldedSetIterable (.Call (.Name "range" p) [a] [] pos) X.env y = pure y := by intro _; rfl) {fp : Pos} (hio : j ∉ C.io := by exact of_decide_eq_true rfl) : DPS X C W (.For (.Name x px) (.Call (.Name "range" p) [a] [] pos) body [] fp) (dForR rng1 ta j tb) := by
  refine ⟨(ps_for hp hc (pi_range1 hg hm ha.run hs) (pg_name hN hi hx hf) hb.run hfs).imp fun D σ H ⟨HP, env, as, R, h⟩ => ⟨HP, env, as, R, ha.mono _ _ env _ _ (fun e n z => z.at σ) (fun vals n q => ?_) h⟩, mono_forR ha.mono hb.mono⟩
  intro vs HP1 H1 as1 ts R1 x1 V
  obtain ⟨lo, hi', e, h2, h3, q⟩ := q
  unfold rng1 at e
  split at e
  · split at e
    · rename_i i e1
      cases Option.some.inj e
      obtain ⟨y, rfl, V'⟩ := V.one
      have w := R1.rp V' e1
      cases w
      refine ⟨hi', rfl, h3.1, h3.2, ?_⟩
      have z := lift_forR (K := X.K) (C := C) (W := W) (x1 := x1.cut) (R1 := R1.nots) hb.mono hio q
      simpa using z
    · cases e
  · cases e
theorem ds_for2 {a b : Expr} {p : Pos} (hp : PassesOwn (model X.prog X.w) X.A X.env X.xe) (hc : X.calm = true) (hN : X.N.Nodup) (hm : X.mg "range" = none) (ha : DPA X C W [a, b] ta) (hb : DPB X C W body tb) (hg : Gl X "range" := by rfl) (hi : X.N[j]? = some x := by rfl)
    (hx : Loc X.env.scope x := by first | exact Or.inl rfl | exact Or.inr rfl) (hf : X.fn x = true ∨ X.env.scope.names.lookup x = some .local := by first | exact .inl rfl | exact .inr rfl | assumption)
    (hs : starEach [a, b] X.env = [(false, eval a X.env), (false, eval b X.env)] := by rfl) (hs2 : starEach [b] X.env = [(false, eval b X.env)] := by rfl) (hfs : ∀ y, foldedSetIterable (.Call (.Name "range" p) [a, b] [] pos) X.env y = pure y := by intro _; rfl) {fp : Pos} (hio : j ∉ C.io := by exact of_decide_eq_true rfl) : DPS X C W (.For (.Name x px) (.Call (.Name "range" p) [a, b] [] pos) body [] fp) (dForR rng2 ta j tb) := by
  refine ⟨(ps_for hp hc (pi_range2 hg hm ha.run hs hs2) (pg_name hN hi hx hf) hb.run hfs).imp fun D σ H ⟨HP, env, as, R, h⟩ => ⟨HP, env, as, R, ha.mono _ _ env _ _ (fun e n z => z.at σ) (fun vals n q => ?_) h⟩, mono_forR ha.mono hb.mono⟩
  intro vs HP1 H1 as1 ts R1 x1 V
  obtain ⟨lo, hi', e, h2, h3, q⟩ := q
  unfold rng2 at e
  split at e
  · split at e
    · rename_i i j' e1 e2
      cases Option.some.inj e
      obtain ⟨y1, y2, t1, t2, rfl, rfl, V1, V2⟩ := V.two
      have w1 := R1.rp V1 e1
      have w2 := R1.rp V2 e2
      cases w1; cases w2
      exact ⟨lo, hi', rfl, ⟨h2.1, h2.2, h3.1, h3.2⟩, lift_forR (K := X.K) (C := C) (W := W) (x1 := x1.cut) (R1 := R1.nots) hb.mono hio q⟩
    · cases e
  · cases e
end

/-- what is walked: the items, how an item is held, the environment behind -/
def walkL (n : En) (v : Vl) : Option (List PyData × (PyData → Sl) × En) := match v with
  | .tmp (.sh (.list xs)) => some (xs, .sh, n)
  | .tmp (.own xs) => some (xs, .sh, n)
  | .tmp (.bor (.list xs)) => some (xs, chS (.bor .none), n)
  | .loc l => match n[l]? with
    | some (some (.own xs)) => some (xs, .sh, n.set l (some (.sh (.list xs))))
    | _ => none
  | _ => none
/-- a list that is walked: from the state in which it came on, its items are these -/
theorem Rel.walkT {K : PySem.W.Frag} {C : Ct} {HP H : Hp} {σ : L2.St} {n n1 : En} {as ts t2 : List Addr} {v : Vl} {x : V} {xs : List PyData} {f : PyData → Sl} (r : Rel K C HP σ H n as (ts ++ t2)) (q : RepV K C HP H σ v x ts) (e : walkL n v = some (xs, f, n1)) :
    ∃ a HP1 as1, x = .ref a ∧ Rel K C HP1 σ H n1 as1 t2 ∧ Stp HP H (as ++ (ts ++ t2)) HP1 H (as1 ++ t2) ∧ ∀ HP' σ' H' n' as' ts', Rel K C HP' σ' H' n' as' ts' → Same HP1 HP' →
      ∃ vs, H' a = some (.lst vs) ∧ vs.length = xs.length ∧ ∀ (i : Nat) d, xs[i]? = some d → ∃ w, vs[i]? = some w ∧ RepS K C HP' H' (f d) w [] := by
  have shl : ∀ {HP1 : Hp} {as1 : List Addr} {n1 : En} {a : Addr}, Rp HP1 (.ref a) (.list xs) → Rel K C HP1 σ H n1 as1 t2 → Stp HP H (as ++ (ts ++ t2)) HP1 H (as1 ++ t2) →
      ∃ a' HP1 as1, V.ref a = .ref a' ∧ Rel K C HP1 σ H n1 as1 t2 ∧ Stp HP H (as ++ (ts ++ t2)) HP1 H (as1 ++ t2) ∧ ∀ HP' σ' H' n' as' ts', Rel K C HP' σ' H' n' as' ts' → Same HP1 HP' →
      ∃ vs, H' a' = some (.lst vs) ∧ vs.length = xs.length ∧ ∀ (i : Nat) d, xs[i]? = some d → ∃ w, vs[i]? = some w ∧ RepS K C HP' H' (.sh d) w [] := fun {HP1 as1 n1 a} q r1 x1 => by
    cases q with
    | lst g k => exact ⟨_, HP1, as1, rfl, r1, x1, fun HP' σ' H' n' as' ts' r' s => ⟨_, r'.exP _ _ (s _ _ g), k.length, fun i d hd => by
        obtain ⟨w, w1, w2⟩ := k.get hd
        exact ⟨w, w1, w2.mono s, rfl⟩⟩⟩
  unfold walkL at e
  split at e
  · cases Option.some.inj e
    obtain ⟨q, rfl⟩ := q
    have q' := q
    cases q' with
    | lst g k => exact shl q r (Stp.refl.less fun a ha => by simp [ha])
  · cases Option.some.inj e
    obtain ⟨a, vs, rfl, rfl, h3, k⟩ := q
    have hn := (r.own a (by simp)).1
    exact shl (.lst upd_same (k.mono (Same.put hn))) (Rel.freezeT (t2 := t2) r h3) (Stp.freeze h3 hn (by simp) fun b hb => by simp at hb ⊢; rcases hb with z | z <;> simp [z])
  · cases Option.some.inj e
    obtain ⟨q, rfl⟩ := q
    cases q with
    | lst g k => exact ⟨_, HP, as, rfl, r, Stp.refl.less fun a ha => by simp [ha], fun HP' σ' H' n' as' ts' r' s => ⟨_, r'.exB _ _ g, k.length, fun i d hd => by
        obtain ⟨w, w1, w2⟩ := k.get hd
        exact ⟨w, w1, w2, rfl⟩⟩⟩
  · rename_i l
    split at e
    · rename_i ys e1
      cases Option.some.inj e
      have es : L3.share (.loc l) n = some (.list xs, n.set l (some (.sh (.list xs)))) := by simp [L3.share, e1]
      obtain ⟨HP1, as1, r1, g1, x1⟩ := r.share q es
      have g2 := g1
      cases g2 with
      | lst g k => exact shl g1 r1 x1
    · cases e
  · cases e
theorem Rel.walk {K : PySem.W.Frag} {C : Ct} {HP H : Hp} {σ : L2.St} {n n1 : En} {as ts : List Addr} {v : Vl} {x : V} {xs : List PyData} {f : PyData → Sl} (r : Rel K C HP σ H n as ts) (q : RepV K C HP H σ v x ts) (e : walkL n v = some (xs, f, n1)) :
    ∃ a HP1 as1, x = .ref a ∧ Rel K C HP1 σ H n1 as1 [] ∧ Stp HP H (as ++ ts) HP1 H as1 ∧ ∀ HP' σ' H' n' as' ts', Rel K C HP' σ' H' n' as' ts' → Same HP1 HP' →
      ∃ vs, H' a = some (.lst vs) ∧ vs.length = xs.length ∧ ∀ (i : Nat) d, xs[i]? = some d → ∃ w, vs[i]? = some w ∧ RepS K C HP' H' (f d) w [] := by
  have r' : Rel K C HP σ H n as (ts ++ []) := by rw [List.append_nil]; exact r
  obtain ⟨a, HP1, as1, h1, h2, h3, h4⟩ := r'.walkT q e
  exact ⟨a, HP1, as1, h1, h2, by simpa using h3, h4⟩
def dForL (te : DE) (j : Nat) (tb : DS) : DS := fun ex env D => te ex env fun v n0 => ∃ xs f n1, walkL n0 v = some (xs, f, n1) ∧ ∃ W : Nat → En → Prop, W 0 n1 ∧
  (∀ (i : Nat) d n, xs[i]? = some d → W i n → j < n.length ∧ tb ex (n.set j (some (f d))) { D with nx := W (i + 1), ct := W (i + 1), bk := D.nx }) ∧ ∀ n, W xs.length n → D.nx n
/-- for a, b in enumerate(xs) -/
def dForE (ta : DA) (j1 j2 : Nat) (tb : DS) : DS := fun ex env D => ta ex env fun vals n0 => ∃ v xs f n1, vals = [v] ∧ walkL n0 v = some (xs, f, n1) ∧ ∃ W : Nat → En → Prop, W 0 n1 ∧
  (∀ (i : Nat) d n, xs[i]? = some d → W i n → j1 < n.length ∧ j2 < n.length ∧ tb ex ((n.set j1 (some (.sh (.int i)))).set j2 (some (f d))) { D with nx := W (i + 1), ct := W (i + 1), bk := D.nx }) ∧ ∀ n, W xs.length n → D.nx n
theorem mono_forL {te : DE} {j : Nat} {tb : DS} (ma : MonoE te) (mb : MonoS tb) : MonoS (dForL te j tb) := fun ex ex' env D D' hx hd h =>
  ma ex ex' env _ _ hx (fun vals n0 ⟨xs, f, n1, h1, W, w0, hs, hd2⟩ => ⟨xs, f, n1, h1, W, w0, fun i d n hl w => ⟨(hs i d n hl w).1, mb ex ex' _ { D with nx := W (i + 1), ct := W (i + 1), bk := D.nx } _ hx ⟨fun _ z => z, hd.rt, hd.nx, fun _ z => z⟩ (hs i d n hl w).2⟩, fun n w => hd.nx _ (hd2 n w)⟩) h
theorem mono_forE {te : DA} {j1 j2 : Nat} {tb : DS} (ma : MonoA te) (mb : MonoS tb) : MonoS (dForE te j1 j2 tb) := fun ex ex' env D D' hx hd h =>
  ma ex ex' env _ _ hx (fun vals n0 ⟨v, xs, f, n1, h0, h1, W, w0, hs, hd2⟩ => ⟨v, xs, f, n1, h0, h1, W, w0, fun i d n hl w => ⟨(hs i d n hl w).1, (hs i d n hl w).2.1, mb ex ex' _ { D with nx := W (i + 1), ct := W (i + 1), bk := D.nx } _ hx ⟨fun _ z => z, hd.rt, hd.nx, fun _ z => z⟩ (hs i d n hl w).2.2⟩, fun n w => hd.nx _ (hd2 n w)⟩) h
section
variable {X : Cx} {C : Ct} {W : WX} {pos : Pos} {x : Str} {px : Pos} {j : Nat} {body : List Stmt} {tb : DS} {te : DE}
theorem ds_forL {e : Expr} (hp : PassesOwn (model X.prog X.w) X.A X.env X.xe) (hc : X.calm = true) (hN : X.N.Nodup) (he : DP X C W e te) (hb : DPB X C W body tb) (hi : X.N[j]? = some x := by rfl)
    (hx : Loc X.env.scope x := by first | exact Or.inl rfl | exact Or.inr rfl) (hf : X.fn x = true ∨ X.env.scope.names.lookup x = some .local := by first | exact .inl rfl | exact .inr rfl | assumption)
    (hfs : ∀ y, foldedSetIterable e X.env y = pure y := by intro _; rfl) {fp : Pos} (hio : j ∉ C.io := by exact of_decide_eq_true rfl) : DPS X C W (.For (.Name x px) e body [] fp) (dForL te j tb) := by
  refine ⟨(ps_for hp hc (pi_list he.run) (pg_name hN hi hx hf) hb.run hfs).imp fun D σ H ⟨HP, env, as, R, h⟩ => ⟨HP, env, as, R, he.mono _ _ env _ _ (fun e n z => z.at σ) (fun v n q => ?_) h⟩, mono_forL he.mono hb.mono⟩
  intro y HP1 H1 as1 ts R1 x1 V
  obtain ⟨xs, f, n1, e1, Wd, w0, hs, hd⟩ := q
  obtain ⟨a, HP2, as2, rfl, R2, x2, items⟩ := R1.walk V e1
  obtain ⟨vs0, g0, _, _⟩ := items HP2 σ H1 n1 as2 [] R2 (Same.refl _)
  refine ⟨a, rfl, ⟨_, SqL.of g0⟩, ?_⟩
  have xx := x1.trans x2
  refine for_core (n := xs.length) (st := fun i n => match xs[i]? with | some d => n.set j (some (f d)) | none => n) hb.mono Wd R2 w0 (fun i σ' H' HP' env' as' R' s w => ?_) (fun i σ' H' HP' env' as' v' H'' R' s hi' w y Q k => ?_) (fun i n hi' w => ?_) fun n w => nxL.from (hd n w) xx
  · obtain ⟨vs, g, len, get⟩ := items HP' σ' H' env' as' [] R' s
    refine ⟨fun hlt => ?_, fun hge => ⟨vs, SqL.of g, by omega⟩⟩
    obtain ⟨w', w1, _⟩ := get i _ (List.getElem?_eq_getElem hlt)
    exact ⟨vs, w', SqL.of g, w1⟩
  · obtain ⟨rfl, hy⟩ := y
    obtain ⟨vs, g, len, get⟩ := items HP' σ' H'' env' as' [] R' s
    have hd' := List.getElem?_eq_getElem hi'
    obtain ⟨w', w1, w2⟩ := get i _ hd'
    have ev : v' = w' := Option.some.inj ((hy vs (SqL.of g)).symm.trans w1)
    subst ev
    obtain ⟨hl, _⟩ := hs i _ env' hd' w
    have R2 : Rel X.K C HP' σ' H'' env' as' ([] ++ []) := R'
    obtain ⟨as3, R3, hm⟩ := R2.store (v := v') w2 hl (.inl hio)
    rw [hd'] at k
    exact k _ HP' H'' as3 R3 (Stp.refl.less fun a ha => by simpa using hm a ha)
  · have hd' := List.getElem?_eq_getElem hi'
    rw [hd']
    exact hb.mono _ _ _ { endsOf X.K C HP H as D with nx := Wd (i + 1), ct := Wd (i + 1), bk := (endsOf X.K C HP H as D).nx } _ (fun e n z => z.from xx) ⟨fun _ z => z, fun _ _ z => rtL.from z xx, fun _ z => nxL.from z xx, fun _ z => z⟩ (hs i _ n hd' w).2
theorem ds_forE {e : Expr} {ta : DA} {j1 j2 : Nat} {elts : List Expr} {kk : Nat} {p tpos : Pos} (hp : PassesOwn (model X.prog X.w) X.A X.env X.xe) (hc : X.calm = true) (hm : X.mg "enumerate" = none) (ha : DPA X C W [e] ta) (hg : NamesG X elts [j1, j2]) (hb : DPB X C W body tb) (hgl : Gl X "enumerate" := by rfl) (hs : starEach [e] X.env = [(false, eval e X.env)] := by rfl)
    (hn : (assignEach elts X.env).length = 2 := by rfl) (hst : (assignEach elts X.env).findIdx? (·.1) = none := by rfl) (hfs : ∀ y, foldedSetIterable (.Call (.Name "enumerate" p) [e] [] pos) X.env y = pure y := by intro _; rfl) {fp : Pos} (hio1 : j1 ∉ C.io := by exact of_decide_eq_true rfl) (hio2 : j2 ∉ C.io := by exact of_decide_eq_true rfl) :
    DPS X C W (.For (.Tuple elts kk tpos) (.Call (.Name "enumerate" p) [e] [] pos) body [] fp) (dForE ta j1 j2 tb) := by
  refine ⟨(ps_for hp hc (pi_enum hgl hm ha.run hs) (pg_tup hc hg.run hn hst) hb.run hfs).imp fun D σ H ⟨HP, env, as, R, h⟩ => ⟨HP, env, as, R, ha.mono _ _ env _ _ (fun e n z => z.at σ) (fun v n q => ?_) h⟩, mono_forE ha.mono hb.mono⟩
  intro ys HP1 H1 as1 ts R1 x1 V
  obtain ⟨v, xs, f, n1, rfl, e1, Wd, w0, hs, hd⟩ := q
  obtain ⟨y, rfl, V'⟩ := V.one
  obtain ⟨a, HP2, as2, rfl, R2, x2, items⟩ := R1.walk V' e1
  obtain ⟨vs0, g0, _, _⟩ := items HP2 σ H1 n1 as2 [] R2 (Same.refl _)
  refine ⟨a, _, rfl, SqL.of g0, ?_⟩
  have xx := x1.trans x2
  refine for_core (n := xs.length) (st := fun i n => match xs[i]? with | some d => (n.set j1 (some (.sh (.int i)))).set j2 (some (f d)) | none => n) hb.mono Wd R2 w0 (fun i σ' H' HP' env' as' R' s w => ?_) (fun i σ' H' HP' env' as' v' H'' R' s hi' w y Q k => ?_) (fun i n hi' w => ?_) fun n w => nxL.from (hd n w) xx
  · obtain ⟨vs, g, len, get⟩ := items HP' σ' H' env' as' [] R' s
    refine ⟨fun hlt => ?_, fun hge => ⟨vs, SqL.of g, by omega⟩⟩
    obtain ⟨w', w1, _⟩ := get i _ (List.getElem?_eq_getElem hlt)
    exact ⟨vs, w', SqL.of g, w1⟩
  · obtain ⟨T, x, rfl, hT, rfl, hy⟩ := y
    obtain ⟨vs, g, len, get⟩ := items HP' σ' H' env' as' [] R' s
    have hd' := List.getElem?_eq_getElem hi'
    obtain ⟨w', w1, w2⟩ := get i _ hd'
    have ev : x = w' := Option.some.inj ((hy vs (SqL.of g)).symm.trans w1)
    subst ev
    obtain ⟨hl1, hl2, _⟩ := hs i _ env' hd' w
    have R2 := R'.new (o := .tup [.int (i : Nat), x]) hT
    rw [hd'] at k
    have w3 : RepS X.K C HP' (upd H' T (.tup [.int (i : Nat), x])) (f xs[i]) x [] := RepS.frame (Same.refl _) w2 fun _ h => nomatch h
    refine ⟨T, _, rfl, SqT.of upd_same, rfl, ?_⟩
    have R3 : Rel X.K C HP' σ' (upd H' T (.tup [.int (i : Nat), x])) env' as' ([] ++ []) := R2
    obtain ⟨as4, R4, hm4⟩ := R3.store (s := .sh (.int (i : Nat))) (v := .int (i : Nat)) ⟨.int _, rfl⟩ hl1 (.inl hio1)
    have R5 : Rel X.K C HP' (σ'.set j1 (some (.int (i : Nat)))) (upd H' T (.tup [.int (i : Nat), x])) (env'.set j1 (some (.sh (.int (i : Nat))))) as4 ([] ++ []) := R4
    obtain ⟨as6, R6, hm6⟩ := R5.store w3 (by simpa using hl2) (.inl hio2)
    refine ⟨_, _, rfl, _, _, rfl, rfl, k _ HP' _ as6 R6 ((Stp.new hT).less fun a ha => ?_)⟩
    have z := hm6 a ha
    have z2 := hm4 a (by simpa using z)
    simpa using z2
  · have hd' := List.getElem?_eq_getElem hi'
    rw [hd']
    exact hb.mono _ _ _ { endsOf X.K C HP H as D with nx := Wd (i + 1), ct := Wd (i + 1), bk := (endsOf X.K C HP H as D).nx } _ (fun e n z => z.from xx) ⟨fun _ z => z, fun _ _ z => rtL.from z xx, fun _ z => nxL.from z xx, fun _ z => z⟩ (hs i _ n hd' w).2.2
end

theorem Rel.mut {K : PySem.W.Frag} {C : Ct} {HP H : Hp} {σ : L2.St} {env : En} {as ts : List Addr} {j : Nat} {xs : List PyData} (r : Rel K C HP σ H env as ts) (e : env[j]? = some (some (.own xs))) :
    ∃ a vs, σ[j]? = some (some (.ref a)) ∧ H a = some (.lst vs) ∧ RpAll HP vs xs ∧ a ∈ as ∧ ∀ vs' xs', RpAll HP vs' xs' → Rel K C HP σ (upd H a (.lst vs')) (env.set j (some (.own xs'))) as ts ∧ Stp HP H as HP (upd H a (.lst vs')) as := by
  obtain ⟨w, pre, t, post, h1, h2, h3, h4⟩ := r.rep.at j e
  cases w with
  | none => exact h3.elim
  | some w =>
    obtain ⟨a, vs, rfl, rfl, g3, g4⟩ := h3
    subst h2
    have ha : a ∈ pre ++ ([a] ++ post) := by simp
    refine ⟨a, vs, h1, g3, g4, ha, fun vs' xs' g5 => ⟨?_, ?_⟩⟩
    · have own := r.own a (by simp)
      have nd := r.nd
      have ne : ∀ b ∈ pre ++ post, b ≠ a := fun b hb z => by
        subst z
        have nd1 := (List.nodup_append.mp nd).1
        have nd2 := List.nodup_append.mp nd1
        rcases List.mem_append.mp hb with w | w
        · exact nd2.2.2 b w b (by simp) rfl
        · exact (List.nodup_cons.mp nd2.2.1).1 w
      have k := h4 HP (upd H a (.lst vs')) (some (.own xs')) (some (.ref a)) [a] (Same.refl _) (fun b hb => upd_ne (ne b hb)) ⟨a, vs', rfl, rfl, upd_same, g5⟩
      rw [set_same h1] at k
      refine ⟨fun b u e => ?_, fun b u e => ?_, k, r.nd, fun b hb => ?_, r.pin⟩
      · rw [upd_ne (fun z => by subst z; rw [own.1] at e; cases e)]; exact r.exP b u e
      · rw [upd_ne (fun z => by subst z; rw [own.2.1] at e; cases e)]; exact r.exB b u e
      · have q := r.own b hb
        refine ⟨q.1, q.2.1, ?_⟩
        by_cases z : b = a
        · rw [z, upd_same]; exact fun q => nomatch q
        · rw [upd_ne z]; exact q.2.2
    · refine ⟨Same.refl _, fun b u e n => ?_, fun b h => .inl h, fun _ _ h => .inl h, fun b h => ?_⟩
      · rw [upd_ne (fun z => n (by rw [z]; exact ha))]; exact e
      · by_cases z : b = a
        · rw [z, upd_same] at h; cases h
        · rw [upd_ne z] at h; exact h
/-- a method of the list in slot j -/
def OkM (K : PySem.W.Frag) (C : Ct) (j : Nat) (r : V → List V → Hp → VK → Prop) (k : List Vl → En → DK → Prop) : Prop :=
  ∀ (σ : L2.St) (HP H : Hp) (env : En) (as ts : List Addr) (x : V) (vals : List Vl) (vs : List V) (Qd : DK) (Q : VK), Rel K C HP σ H env as ts → σ[j]? = some (some x) → RepVs K C HP H σ vals vs ts → k vals env Qd →
    (∀ val n, Qd val n → Po K C σ HP H (as ++ ts) Q val n) → r x vs H Q
def dMut (j : Nat) (ta : DA) (k : List Vl → En → DK → Prop) : DE := fun ex env Q => (∃ xs, env[j]? = some (some (.own xs))) ∧ ta ex env fun vals n => k vals n Q
theorem mono_mut {j : Nat} {ta : DA} {k : List Vl → En → DK → Prop} (ma : MonoA ta) (mk : MonoN k) : MonoE (dMut j ta k) := fun ex ex' env Q Q' he hq ⟨h1, h2⟩ => ⟨h1, ma ex ex' env _ _ he (fun vals n h => mk vals n Q Q' hq h) h2⟩
section
variable {X : Cx} {C : Ct} {W : WX} {j : Nat} {x name : Str} {p apos cpos : Pos} {id : String} {r : V → List V → Hp → VK → Prop} {k : List Vl → En → DK → Prop} {e : Expr} {es : List Expr} {ta : DA}
theorem lift_mut {K : PySem.W.Frag} {σ : L2.St} {H : Hp} {Q : VK} (ma : MonoA ta) (ok : OkM K C j r k) (h : lift K C W (dMut j ta k) σ H Q) : ∃ v, σ[j]? = some (some v) ∧ tyV K "list" v H ∧ liftA K C W ta σ H fun xs H2 => r v xs H2 Q := by
  obtain ⟨HP, env, as, R, ⟨xs, h1⟩, h2⟩ := h
  obtain ⟨a, vs, e1, e2, _, _, _⟩ := R.mut h1
  refine ⟨.ref a, e1, .inl ⟨rfl, vs, SqL.of e2⟩, HP, env, as, R, ma _ _ env _ _ (fun _ _ z => z) (fun vals n q => ?_) h2⟩
  intro ys HP1 H1 as1 ts R1 x1 V
  exact ok σ HP1 H1 n as1 ts (.ref a) vals ys _ Q R1 e1 V q fun val m z v HP' H' as' ts' R' X' V' => z v HP' H' as' ts' R' (x1.trans X') V'
theorem do_mut (hm : MtR X id r) (ok : OkM X.K C j r k) (mk : MonoN k) (slot : Slot "list" name id) (hty : typeOf (.builtin id) = pure (.type "method_descriptor")) (ha : DPA X C W (e :: es) ta) (hN : X.N[j]? = some x := by rfl) (hv : Vis X.env.scope x := by first | exact Or.inl rfl | exact Or.inr (Or.inl rfl) | exact Or.inr (Or.inr rfl))
    (hd : (x == ("__debug__" : Str)) = false := by decide) (hcd : (x == ("__classdict__" : Str)) = false := by decide) (hbase : attributeBase (.Name x p) name X.env (eval (.Name x p) X.env) = eval (.Name x p) X.env := by rfl)
    (hfew : ((backTo cpos (starEach (e :: es) X.env)).all (fun x => !x.1) && (backToKw cpos (keywordEach [] X.env)).all (fun x => x.1.isSome)
      && decide ((e :: es).length + ([] : List Keyword).length + (if ([] : List Keyword).isEmpty then 0 else 1) < 30)) = true := by rfl)
    (hline : (apos.endLine == cpos.line) = true := by rfl) (hs : starEach (e :: es) X.env = (false, eval e X.env) :: starEach es X.env := by rfl) (hplain : (backTo cpos (starEach es X.env)).any (·.1) = false := by rfl) :
    DP X C W (.Call (.Attribute (.Name x p) name apos) (e :: es) [] cpos) (dMut j ta k) := by
  refine ⟨(pe_bm PySem.F.plainAttrs_list slot hty hm (pe_var hN hv hd hcd) ha.run hbase hfew hline hs hplain).imp fun σ H Q h => ?_, mono_mut ha.mono mk⟩
  exact lift_mut ha.mono ok h
theorem do_mut0 (hm : MtR X id r) (ok : OkM X.K C j r k) (mk : MonoN k) (slot : Slot "list" name id) (hty : typeOf (.builtin id) = pure (.type "method_descriptor")) (hN : X.N[j]? = some x := by rfl) (hv : Vis X.env.scope x := by first | exact Or.inl rfl | exact Or.inr (Or.inl rfl) | exact Or.inr (Or.inr rfl))
    (hd : (x == ("__debug__" : Str)) = false := by decide) (hcd : (x == ("__classdict__" : Str)) = false := by decide) (hbase : attributeBase (.Name x p) name X.env (eval (.Name x p) X.env) = eval (.Name x p) X.env := by rfl) (hline : (apos.endLine == cpos.line) = true := by rfl) :
    DP X C W (.Call (.Attribute (.Name x p) name apos) [] [] cpos) (dMut j daNil k) := by
  refine ⟨(pe_bm0 PySem.F.plainAttrs_list slot hty hm (pe_var hN hv hd hcd) hbase hline).imp fun σ H Q h => ?_, mono_mut (da_nil (X := X) (C := C) (W := W)).mono mk⟩
  obtain ⟨v, e1, e2, h⟩ := lift_mut (da_nil (X := X) (C := C) (W := W)).mono ok h
  refine ⟨v, e1, e2, ?_⟩
  obtain ⟨HP, env, as, R, h⟩ := h
  exact h [] HP H as [] R (Stp.refl.less fun a ha => by simpa using ha) ⟨rfl, rfl⟩
end
/-- a changed list, its method's answer -/
theorem Po.mut {K : PySem.W.Frag} {C : Ct} {HP H H' : Hp} {σ : L2.St} {env : En} {as as' ts : List Addr} {v : V} {d : PyData} {Q : VK} (p : Po K C σ HP H (as ++ ts) Q (.tmp (.sh d)) env) {HP' : Hp} (r : Rel K C HP' σ H' env as' []) (x : Stp HP H (as ++ ts) HP' H' as') (q : Rp HP' v d) : Q v H' :=
  p v HP' H' as' [] r (x.less fun a ha => by simpa using ha) ⟨q, rfl⟩
def kApp (j : Nat) : List Vl → En → DK → Prop := fun vals n Q => match vals with
  | [v] => ∃ d n' xs, share v n = some (d, n') ∧ n'[j]? = some (some (.own xs)) ∧ xs.length < sizeLine ∧ Q (.tmp (.sh .none)) (n'.set j (some (.own (xs ++ [d]))))
  | _ => False
def kPop (j : Nat) : List Vl → En → DK → Prop := fun vals n Q => match vals with
  | [] => ∃ xs d, n[j]? = some (some (.own xs)) ∧ xs[xs.length - 1]? = some d ∧ Q (.tmp (.sh d)) (n.set j (some (.own xs.dropLast)))
  | _ => False
def kPopAt (j : Nat) : List Vl → En → DK → Prop := fun vals n Q => match vals with
  | [v] => ∃ xs d i k, n[j]? = some (some (.own xs)) ∧ dat n v = some (.int i) ∧ ixN xs.length i = some k ∧ xs[k]? = some d ∧ xs.length ≤ sizeLine ∧ Q (.tmp (.sh d)) (n.set j (some (.own (xs.eraseIdx k))))
  | _ => False
def kExt (j : Nat) : List Vl → En → DK → Prop := fun vals n Q => match vals with
  | [v] => ∃ xs ys, n[j]? = some (some (.own xs)) ∧ dat n v = some (.list ys) ∧ perm n v = true ∧ xs.length + ys.length ≤ sizeLine ∧ Q (.tmp (.sh .none)) (n.set j (some (.own (xs ++ ys))))
  | _ => False
def kRev (j : Nat) : List Vl → En → DK → Prop := fun vals n Q => match vals with
  | [] => ∃ xs, n[j]? = some (some (.own xs)) ∧ Q (.tmp (.sh .none)) (n.set j (some (.own xs.reverse)))
  | _ => False
def kClr (j : Nat) : List Vl → En → DK → Prop := fun vals n Q => match vals with
  | [] => ∃ xs, n[j]? = some (some (.own xs)) ∧ Q (.tmp (.sh .none)) (n.set j (some (.own [])))
  | _ => False
theorem mono_app {j} : MonoN (kApp j) := fun a n Q Q' hq h => by
  unfold kApp at h ⊢
  split at h
  · obtain ⟨d, n', xs, h1, h2, h3, h4⟩ := h; exact ⟨d, n', xs, h1, h2, h3, hq _ _ h4⟩
  · exact h
theorem mono_pop {j} : MonoN (kPop j) := fun a n Q Q' hq h => by
  unfold kPop at h ⊢
  split at h
  · obtain ⟨xs, d, h1, h2, h3⟩ := h; exact ⟨xs, d, h1, h2, hq _ _ h3⟩
  · exact h
theorem mono_popAt {j} : MonoN (kPopAt j) := fun a n Q Q' hq h => by
  unfold kPopAt at h ⊢
  split at h
  · obtain ⟨xs, d, i, k, h1, h2, h3, h4, h5, h6⟩ := h; exact ⟨xs, d, i, k, h1, h2, h3, h4, h5, hq _ _ h6⟩
  · exact h
theorem mono_ext {j} : MonoN (kExt j) := fun a n Q Q' hq h => by
  unfold kExt at h ⊢
  split at h
  · obtain ⟨xs, ys, h1, h2, h3, h4, h5⟩ := h; exact ⟨xs, ys, h1, h2, h3, h4, hq _ _ h5⟩
  · exact h
theorem mono_rev {j} : MonoN (kRev j) := fun a n Q Q' hq h => by
  unfold kRev at h ⊢
  split at h
  · obtain ⟨xs, h1, h2⟩ := h; exact ⟨xs, h1, hq _ _ h2⟩
  · exact h
theorem mono_clr {j} : MonoN (kClr j) := fun a n Q Q' hq h => by
  unfold kClr at h ⊢
  split at h
  · obtain ⟨xs, h1, h2⟩ := h; exact ⟨xs, h1, hq _ _ h2⟩
  · exact h
section
variable {K : PySem.W.Frag} {C : Ct} {j : Nat}
theorem app_mem {as ts : List Addr} {HP H HP' H' : Hp} {bs : List Addr} (x : Stp HP H as HP' H' bs) : Stp HP H (as ++ ts) HP' H' bs := x.from fun a h => List.mem_append_left _ h
theorem ok_app : OkM K C j rAppend (kApp j) := fun σ HP H env as ts x vals vs Qd Q r hx q h k => by
  unfold kApp at h
  split at h
  · obtain ⟨d, n', xs, e1, e2, e3, hq⟩ := h
    obtain ⟨y, rfl, q'⟩ := q.one
    have r' : Rel K C HP σ H env as (ts ++ []) := by rw [List.append_nil]; exact r
    obtain ⟨HP1, as1, r1, g1, x1⟩ := r'.share q' e1
    rw [List.append_nil, List.append_nil] at x1
    obtain ⟨a, ws, f1, f2, f3, _, f4⟩ := r1.mut e2
    rw [hx] at f1; cases f1
    obtain ⟨r2, x2⟩ := f4 (ws ++ [y]) (xs ++ [d]) (f3.append (.cons g1 .nil))
    exact ⟨a, ws, y, rfl, rfl, f2, by rw [f3.length]; exact e3, (k _ _ hq).mut r2 (x1.trans x2) .non⟩
  · exact h.elim
theorem ok_pop : OkM K C j rPop (kPop j) := fun σ HP H env as ts x vals vs Qd Q r hx q h k => by
  unfold kPop at h
  split at h
  · obtain ⟨xs, d, e1, e2, hq⟩ := h
    obtain ⟨rfl, rfl⟩ := q
    obtain ⟨a, ws, f1, f2, f3, _, f4⟩ := r.mut e1
    rw [hx] at f1; cases f1
    obtain ⟨r2, x2⟩ := f4 ws.dropLast xs.dropLast f3.dropLast
    obtain ⟨w, w1, w2⟩ := f3.get e2
    exact ⟨a, ws, w, rfl, rfl, f2, by rw [f3.length]; exact w1, (k _ _ hq).mut r2 (app_mem x2) w2⟩
  · exact h.elim
theorem ok_popAt : OkM K C j rPopAt (kPopAt j) := fun σ HP H env as ts x vals vs Qd Q r hx q h k => by
  unfold kPopAt at h
  split at h
  · obtain ⟨xs, d, i, m, e1, e2, e3, e4, e5, hq⟩ := h
    obtain ⟨y, rfl, q'⟩ := q.one
    have w0 := r.rp q' e2
    cases w0
    obtain ⟨a, ws, f1, f2, f3, _, f4⟩ := r.nots.mut e1
    rw [hx] at f1; cases f1
    obtain ⟨r2, x2⟩ := f4 (ws.eraseIdx m) (xs.eraseIdx m) (f3.eraseIdx m)
    obtain ⟨w, w1, w2⟩ := f3.get e4
    obtain ⟨s1, s2, s3, s4⟩ := ixN_seq e3
    have hz := line63
    exact ⟨a, ws, i, m, w, rfl, rfl, f2, by omega, by omega, by rw [f3.length]; exact s1, w1, (k _ _ hq).mut r2 (app_mem x2) w2⟩
  · exact h.elim
theorem ok_ext : OkM K C j rExtend (kExt j) := fun σ HP H env as ts x vals vs Qd Q r hx q h k => by
  unfold kExt at h
  split at h
  · obtain ⟨xs, ys, e1, e2, e3, e4, hq⟩ := h
    obtain ⟨y, rfl, q'⟩ := q.one
    obtain ⟨b, us, rfl, g1, g2⟩ := r.kids q' e2 e3
    obtain ⟨a, ws, f1, f2, f3, _, f4⟩ := r.nots.mut e1
    rw [hx] at f1; cases f1
    obtain ⟨r2, x2⟩ := f4 (ws ++ us) (xs ++ ys) (f3.append g2)
    exact ⟨a, b, ws, us, rfl, rfl, f2, g1, by rw [f3.length, g2.length]; exact e4, (k _ _ hq).mut r2 (app_mem x2) .non⟩
  · exact h.elim
theorem ok_rev : OkM K C j rReverse (kRev j) := fun σ HP H env as ts x vals vs Qd Q r hx q h k => by
  unfold kRev at h
  split at h
  · obtain ⟨xs, e1, hq⟩ := h
    obtain ⟨rfl, rfl⟩ := q
    obtain ⟨a, ws, f1, f2, f3, _, f4⟩ := r.mut e1
    rw [hx] at f1; cases f1
    obtain ⟨r2, x2⟩ := f4 ws.reverse xs.reverse f3.reverse
    exact ⟨a, ws, rfl, rfl, f2, (k _ _ hq).mut r2 (app_mem x2) .non⟩
  · exact h.elim
theorem ok_clr : OkM K C j rClear (kClr j) := fun σ HP H env as ts x vals vs Qd Q r hx q h k => by
  unfold kClr at h
  split at h
  · obtain ⟨xs, e1, hq⟩ := h
    obtain ⟨rfl, rfl⟩ := q
    obtain ⟨a, ws, f1, f2, f3, _, f4⟩ := r.mut e1
    rw [hx] at f1; cases f1
    obtain ⟨r2, x2⟩ := f4 [] [] .nil
    exact ⟨a, ws, rfl, rfl, f2, (k _ _ hq).mut r2 (app_mem x2) .non⟩
  · exact h.elim
end
end L3

namespace L3
open PySem PySem.Spec PyProof.Rows L2
/-- as FnOk, where no repr is under way -/
structure FnG (P : Program) (w : World) (K : PySem.W.Frag) (mg : Str → Option Value) (base : Heap) (CX : CXT) (k : Nat) (f : Addr) (fd : FuncData) (ps : List Str) (sp : Sp) : Prop where
  len : ∀ vs H Q E, sp vs H Q E → vs.length = ps.length
  run : ∀ (A : Around) (outer : List Env) (s : Shared) (H : Hp) (args : Args) (us : List Value) (vs : List V) (Q : VK) (E : XK), Room k A → A.guards = some [] → Env0 P w K mg base A outer s H → BindsTo s fd args (ps.zip us) → Vals vs us → sp vs H Q E →
    codeAny (model P w) A (.call (.ref f) args) (CR CX outer P w H s Q E) s
theorem FnG.mono {P : Program} {w : World} {K : PySem.W.Frag} {mg : Str → Option Value} {base : Heap} {CX : CXT} {j k : Nat} {f : Addr} {fd : FuncData} {ps : List Str} {sp : Sp} (F : FnG P w K mg base CX j f fd ps sp) (h : j ≤ k) : FnG P w K mg base CX k f fd ps sp :=
  ⟨F.len, fun A outer s H args us vs Q E hr => F.run A outer s H args us vs Q E (hr.mono h)⟩
theorem fn_ofG {CX : CXT} {P : Program} {w : World} {K : PySem.W.Frag} {mg : Str → Option Value} {base : Heap} {k : Nat} {f : Addr} {name qual : Str} {params : Arguments} {body : List Stmt} {scope : Scope} {dV kV doc pm cdv ct oc : Value} {an od : Option Addr}
    {osl : Array (Option Value)} {N ps : List Str} {sp : Sp} (lk : K.lookup f = some ⟨oc, od, .func (PySem.W.fnOf name qual params body scope dV kV doc pm an cdv ct), osl⟩) (hcd : PySem.W.codeIn K cdv qual = true) (S : FnScope N ps scope)
    (len : ∀ vs H Q E, sp vs H Q E → vs.length = ps.length)
    (hbody : ∀ (A : Around) (outer : List Env) (s : Shared) (H : Hp) (vs : List V) (Q : VK) (E : XK), A.guards = some [] → Room k (A.deeper (envOfC qual scope s.heap.objs.size f cdv)) → sp vs H Q E →
      ∃ t, PSs (cxOf CX P w K mg base N qual scope f cdv A outer s H E) body t ∧ t { nx := fun _ H' => Q .non H', rt := Q } (L2.start N vs) H) :
    FnG P w K mg base CX (k + 1) f (PySem.W.fnOf name qual params body scope dV kV doc pm an cdv ct) ps sp := by
  refine ⟨len, fun A outer s H args us vs Q E hr gd e0 hb r hsp => ?_⟩
  have hl := len _ _ _ _ hsp
  have KX : K.In s.heap := e0.mod.kin.keeps fun b o e => (e0.bs b o e).1
  have lim : s.heap.NoLimit := e0.mod.nolimit.keeps fun b o e => (e0.bs b o e).1
  have hkind : ∀ y ∈ ps.zip us, scope.names.lookup y.1 = some .local ∨ (scope.names.lookup y.1 = some .cell ∧ ((cellsFrom (s.heap.objs.size + 1) scope.names []).lookup y.1).isSome = true) := fun ⟨n, v⟩ hy => by
    rcases S.par n (List.of_mem_zip hy).1 with q | q
    · exact .inl q
    · exact .inr ⟨q, PySem.W.cellsFrom_some _ _ _ (.inl q)⟩
  refine codeAny_call_function hr.depth (KX _ _ lk) rfl S.co S.gen rfl (PySem.W.codeRec_of KX hcd) (hb _ _ _ _ ?_)
  refine wpAny_newFunctionEnv_cells S.kind hkind fun env he s1 x => ?_
  subst he
  refine ⟨lim.keeps x.toInCall.keep, codeAny_func ?_⟩
  obtain ⟨t, ht, hq⟩ := hbody A outer s H vs Q E gd (hr.deeper _) hsp
  have I : Inv (cxOf CX P w K mg base N qual scope f cdv A outer s H E) [] (L2.start N vs) H s1 := inv_start S hr.hd e0 hl r x
  refine wpAny_mono (ht.run [] s1 (L2.start N vs) H _ I hq) (fun fl s' hs => ?_) fun e s' hs => hs
  have fin : ∀ {σ' : L2.St} {H' : Hp} {v : V} {u : Value}, Inv (cxOf CX P w K mg base N qual scope f cdv A outer s H E) [] σ' H' s' → RelV v u → Q v H' → CE outer P w H s Q u s' :=
    fun {σ' H' v u} J rv q => ⟨v, H', J.os, J.bare, J.base, J.hok, rv, q⟩
  cases fl with
  | ret u =>
    obtain ⟨v, σ', H', J, rv, q⟩ := hs
    exact fin J rv q
  | next =>
    obtain ⟨σ', H', J, q⟩ := hs
    exact fin (v := V.non) (u := Value.none) J rfl q
  | brk =>
    obtain ⟨_, _, _, q⟩ := hs
    exact False.elim q
  | cont =>
    obtain ⟨_, _, _, q⟩ := hs
    exact False.elim q

section
variable {P : Program} {w : World} {K : PySem.W.Frag} {mg : Str → Option Value} {base : Heap}
theorem okG {x qual : Str} {st : Stmt} {f : Addr} {fd : FuncData} {N ps : List Str} {k : Nat} {sp : Sp} (F : Fun K x qual st f fd) (S : FnScope N ps (defScope st)) (len : ∀ vs H Q E, sp vs H Q E → vs.length = ps.length)
    (hbody : ∀ (cdv : Value) (A : Around) (outer : List Env) (s : Shared) (H : Hp) (vs : List V) (Q : VK) (E : XK), A.guards = some [] → Room k (A.deeper (envOfC qual (defScope st) s.heap.objs.size f cdv)) → sp vs H Q E →
      ∃ t, PSs (cxOf (L2N.CX P w) P w K mg base N qual (defScope st) f cdv A outer s H E) (defBody st) t ∧ t { nx := fun _ H' => Q .non H', rt := Q } (L2.start N vs) H) : FnG P w K mg base (L2N.CX P w) (k + 1) f fd ps sp := by
  obtain ⟨oc, od, kV, doc, pm, an, cdv, ct, osl, rfl, lk, hcd⟩ := F.ex
  exact fn_ofG lk hcd S len fun A outer s H vs Q E gd hr hsp => hbody cdv A outer s H vs Q E gd hr hsp
end
section
variable {X : Cx} {CX : CXT} {k : Nat} {f : Addr} {fd : FuncData} {ps : List Str} {sp : Sp} {dvs : List V} {ds : List Value} {E : L2.St → XK} {x : Str} {p pos : Pos} {e : Expr} {es : List Expr} {t : TA}
theorem run_fnG {pins : List (Addr × Obj)} {σ : L2.St} {H : Hp} {s : Shared} {Q : VK} {us : List Value} {vs : List V} (F : FnG X.prog X.w X.K X.mg X.base CX k f fd ps sp) (hr : Room k X.A) (gd : X.A.guards = some []) (hb : Binds X.K fd ps ds) (hd : Vals dvs ds) (hx : PassesAt CX X σ (E σ))
    (I : Inv X pins σ H s) (r : Vals vs us) (h : sp (vs ++ dvs) H Q (E σ)) : wpAny (model X.prog X.w) X.A (call (.ref f) us) (EP X pins σ Q) X.xe s := by
  have r2 : Vals (vs ++ dvs) (us ++ ds) := r.append hd
  have hl : (us ++ ds).length = ps.length := by rw [← r2.length]; exact F.len _ _ _ _ h
  refine wpAny_call (codeAny_mono (F.run X.A X.stack s H ⟨us, []⟩ (us ++ ds) (vs ++ dvs) Q (E σ) hr gd I.env0 (hb s us I.kIn hl) r2 h) fun r s' hq => ?_)
  match r, hq with
  | .error e, hq => exact hx pins H s e s' I hq
  | .ok (.ret u), hq => exact I.after hq
  | .ok .next, hq => exact False.elim hq
  | .ok .brk, hq => exact False.elim hq
  | .ok .cont, hq => exact False.elim hq
theorem pe_callG (F : FnG X.prog X.w X.K X.mg X.base CX k f fd ps sp) (hr : Room k X.A) (gd : X.A.guards = some []) (hg : Gl X x) (hm : X.mg x = some (.ref f)) (hk : PySem.W.keepIn X.K (.ref f) = true) (hb : Binds X.K fd ps ds) (hd : Vals dvs ds) (hx : ∀ σ, PassesAt CX X σ (E σ))
    (ha : PA X (e :: es) t) (hdb : (x == ("__debug__" : Str)) = false := by decide) (he : starEach (e :: es) X.env = (false, eval e X.env) :: starEach es X.env := by rfl) (hpl : (backTo pos (starEach es X.env)).any (·.1) = false := by rfl) :
    PE X (.Call (.Name x p) (e :: es) [] pos) (tCallSD sp dvs E t) := by
  refine ⟨fun pins s σ H Q I h => ?_⟩
  refine wpAny_Call_Name_kw (ld_glob I hg hm ?_ hdb)
  refine PySem.W.callWith_K (h₀ := X.base) I.ok.mod.kin hk (thn (ha.run pos pins s σ H _ I h) fun us s1 ⟨vs, H1, I1, r, q⟩ => ⟨I1.kIn, ?_⟩) he hpl
  exact run_fnG F hr gd hb hd (hx σ) I1 r q
end
theorem law_callG {P : Program} {w : World} {K : PySem.W.Frag} {mg mb : Str → Option Value} {CX : CXT} {k : Nat} {fa a : Addr} {fd : FuncData} {x : Str} {sp : Sp} {s₁ : Shared} {vs : List Value} {ns : List Int}
    (KX : K.In s₁.heap) (hns : s₁.heap.Ns mainGlobals mg) (hb : s₁.heap.Ns builtinsNs mb) (hbb : ∀ x : Str, x ≠ "__name__" → mb x = bootBuiltins x) (hlim : s₁.heap.NoLimit) (hg : s₁.gens = #[])
    (ha : s₁.heap.get? a = some { cls := .type "list", data := .seq vs.toArray }) (hi : IntsAre vs ns) (hl : ns.length ≤ sizeLine) (hr : Room k callerA)
    (F : ∀ base : Heap, K.In base → base.Ns mainGlobals mg → FnG P w K mg base CX k fa fd [x] sp) (hbind : ∀ (s : Shared) (u : Value), BindsTo s fd ⟨[u], []⟩ [(x, u)])
    (hsp : ∀ H : Hp, Only H → SqL K H a (ns.map V.int) → sp [.ref a] H (fun v _ => v = .bl true) fun _ _ _ => False)
    (hCX : ∀ H e s', CX [] H s₁ (fun _ _ _ => False) e s' → False) :
    codeAny (model P w) callerA (.call (.ref fa) ⟨[.ref a], []⟩) (fun r s' => r = .ok (.ret (.bool true)) ∧ OldK s₁.heap s'.heap ∧ s'.os = s₁.os ∧ AllBare s'.gens) s₁ := by
  have rv := vals_ints hi
  have lenV := hi.length
  -- from an abstract heap in which nothing but the script may be tracked
  have core : ∀ H : Hp, Only H → SqL K H a (ns.map V.int) → HOk P w H s₁.heap → (∀ b, H b ≠ none → b = a) → (H a ≠ none → K.lookup a = none) →
      codeAny (model P w) callerA (.call (.ref fa) ⟨[.ref a], []⟩) (fun r s' => r = .ok (.ret (.bool true)) ∧ OldK s₁.heap s'.heap ∧ s'.os = s₁.os ∧ AllBare s'.gens) s₁ := by
    intro H hO hS hok hA hK
    have base_of : ∀ {b : Addr} {o : Obj}, s₁.heap.get? b = some o → H b = none → (hidT s₁.heap H).get? b = some o := fun e n => hidT_get e n
    have noA : ∀ {b : Addr} {o : Obj} {es : Array DictEntry} {ep : Nat}, s₁.heap.get? b = some o → o.data = .dict es ep → H b = none := fun {b o es ep} e d => by
      cases q : H b with
      | none => rfl
      | some u =>
        have e' : b = a := hA b (by rw [q]; simp)
        subst e'
        rw [ha] at e; cases e
        have d' : Data.seq vs.toArray _ = Data.dict es ep := d
        cases d'
    have nsK : ∀ {b : Addr} {m : Str → Option Value}, s₁.heap.Ns b m → (hidT s₁.heap H).Ns b m := fun {b m} ⟨o, es, ep, e, d, r⟩ => ⟨o, es, ep, base_of e (noA e d), d, r⟩
    have hKb : K.In (hidT s₁.heap H) := fun b o e => base_of (KX b o e) (by
      cases q : H b with
      | none => rfl
      | some u =>
        have e' : b = a := hA b (by rw [q]; simp)
        subst e'
        rw [hK (by rw [q]; simp)] at e; cases e)
    have hM : Mod K mg (hidT s₁.heap H) := ⟨hKb, nsK hns, ⟨mb, nsK hb, hbb⟩, let ⟨mc, h1, h2⟩ := hlim; ⟨mc, nsK h1, h2⟩⟩
    have e0 : Env0 P w K mg (hidT s₁.heap H) callerA [] s₁ H := ⟨rfl, hM, fun b o e => of_hidT e, Nat.le_of_eq (hidT_size _ _), trivial, fun b hb => absurd (show b ∈ ([] : List Addr) from hb) (by simp), hok, .of_eq hg⟩
    refine codeAny_mono ((F _ hKb (nsK hns)).run callerA [] s₁ H ⟨[.ref a], []⟩ [.ref a] [.ref a] _ _ hr rfl e0 (hbind s₁ (.ref a)) (.cons rfl .nil) (hsp H hO hS)) fun r s' h => ?_
    cases r with
    | error e => exact (hCX H e s' h).elim
    | ok fl =>
      cases fl with
      | next => exact False.elim h
      | brk => exact False.elim h
      | cont => exact False.elim h
      | ret u =>
        obtain ⟨v, H', os, bare, un, hok', r', q⟩ := h
        have q' : v = .bl true := q
        subst q'
        obtain rfl : u = Value.bool true := r'
        refine ⟨rfl, OldK.of_keep fun b o e => ?_, os, bare⟩
        cases q : H b with
        | none => exact un.keep b o e q (by intro z; exact absurd (show b ∈ ([] : List Addr) from z) (by simp)) (by simp)
        | some u =>
          rcases hO b with z | ⟨ob, xs, z⟩
          · rw [q] at z; cases z
          · have z2 := un.frzs b ob _ z
            obtain ⟨e1, _⟩ := hok b _ z
            obtain ⟨e2, _⟩ := hok' b _ z2
            rw [e] at e1; cases e1
            exact e2
  cases hk : K.lookup a with
  | some o =>
    -- the script is one of the module's own objects
    have e := KX a o hk
    rw [ha] at e
    cases e
    refine core (fun _ => none) (fun _ => .inl rfl) (.inr ⟨_, vs.toArray, _, hk, rfl, rfl, rfl, by rw [List.size_toArray, lenV]; exact hl, by simpa using rv⟩) (fun b u z => by have z' : (none : Option HO) = some u := z; cases z') (fun b z => absurd rfl z) fun z => absurd rfl z
  | none =>
    refine core (fun b => if b = a then some (.frz { cls := .type "list", data := .seq vs.toArray } (.lst (ns.map V.int))) else none) (fun b => ?_) (.inl (.inr ⟨{ cls := .type "list", data := .seq vs.toArray }, if_pos rfl⟩)) (fun b u z => ?_) (fun b z => ?_) fun _ => hk
    · by_cases hb : b = a
      · exact .inr ⟨_, _, if_pos hb⟩
      · exact .inl (if_neg hb)
    · by_cases hb : b = a
      · have z' := (if_pos hb).symm.trans z
        cases z'
        subst hb
        exact ⟨ha, by rw [List.length_map]; exact hl, vs, _, rv, ha⟩
      · have z' := (if_neg hb).symm.trans z
        cases z'
    · by_cases hb : b = a
      · exact hb
      · exact absurd (if_neg hb) z
theorem walk_ofEG {l : PySem.W.OpenLaw} {n k : Nat} {q : Program} {loose : List Str} {XP : (Str → Option Value) → Heap → Prop} {YP : World → Heap → Prop} {d : DefRec} {CX : World → CXT} {x : Str}
    (hn : l.most = some n) (hn2 : n ≤ sizeLine) (hdf : d.params.defaults = []) (hr : Room k callerA)
    (F : ∀ (w : World) (mg : Str → Option Value) (fa : Addr) (h : Heap), YP w h → h.Ns mainGlobals mg → mg d.name = some (.ref fa) →
      ∃ (K : PySem.W.Frag) (fd : FuncData) (sp : Sp), K.In h ∧ (∀ (s : Shared) (u : Value), BindsTo s fd ⟨[u], []⟩ [(x, u)]) ∧
        (∀ (H : Hp) (a : Addr) (ns : List Int), ns.length ≤ n → Only H → SqL K H a (ns.map V.int) → sp [.ref a] H (fun v _ => v = .bl true) fun _ _ _ => False) ∧
        ∀ base : Heap, K.In base → base.Ns mainGlobals mg → FnG l.prog w K mg base (CX w) k fa fd [x] sp)
    (hCX : ∀ (w : World) (H : Hp) (s : Shared) (e : Value) (s' : Shared), CX w [] H s (fun _ _ _ => False) e s' → False) :
    PySem.W.WalkO q loose XP YP l.row.toRowW d [] (fun f vs => PySem.call f vs) := by
  refine Att.attach_call hn hdf fun w s₀ s₁ mg mb fa o pm cd doc a vs ns G Y ho hd hcd hmg hobj hints hlen hg => ?_
  obtain ⟨K, fd, sp, KX, hb, hsp, hF⟩ := F w mg fa _ Y G.T.g hmg
  exact law_callG KX G.T.g G.T.b G.T.builtins G.T.nolimit hg hobj hints (Nat.le_trans hlen hn2) hr hF hb (fun H hO hS => hsp H a ns hlen hO hS) fun H e s' => hCX w H s₁ e s'
end L3

namespace L3
open PySem L2

def dSto (j : Nat) (te ti : DE) : DS := fun ex env D => te ex env fun v n1 => (∃ xs, n1[j]? = some (some (.own xs))) ∧ ti ex n1 fun w n2 => ∃ xs k i d n3, dat n2 w = some (.int i) ∧ share v n2 = some (d, n3) ∧ n3[j]? = some (some (.own xs)) ∧ ixN xs.length i = some k ∧ D.nx (n3.set j (some (.own (xs.set k d))))
section
variable {X : Cx} {C : Ct} {W : WX} {j : Nat} {x : Str} {p pos ppos : Pos} {e ie : Expr} {te ti : DE}
theorem ds_sub (he : DP X C W e te) (hi : DP X C W ie ti) (hN : X.N[j]? = some x := by rfl) (hv : Vis X.env.scope x := by first | exact Or.inl rfl | exact Or.inr (Or.inl rfl) | exact Or.inr (Or.inr rfl)) (hd : (x == ("__debug__" : Str)) = false := by decide)
    (hcd : (x == ("__classdict__" : Str)) = false := by decide) (ha : ∀ v, assign (.Subscript (.Name x p) ie ppos) X.env v = (do
      let ov ← holding [v] (eval (.Name x p) X.env)
      let iv ← holding [v, ov] (eval ie X.env)
      standAt ppos
      holding [v, ov, iv] (setItem ov iv v)
      release [v, ov, iv] []) := by intro _; rfl) (hs : swapsWithSole [.Subscript (.Name x p) ie ppos] e pos.line X.env = pure false := by rfl) (hw : swappedStores [.Subscript (.Name x p) ie ppos] e X.env = pure none := by rfl)
    (h1 : (assignEach [.Subscript (.Name x p) ie ppos] X.env).map (·.2) = [assign (.Subscript (.Name x p) ie ppos) X.env] := by rfl) : DPS X C W (.Assign [.Subscript (.Name x p) ie ppos] e pos) (dSto j te ti) := by
  refine ⟨(ps_asg he.run (pg_sub (pe_var hN hv hd hcd) hi.run set_list ha) hs hw h1).imp fun D σ H ⟨HP, env, as, R, h⟩ => ⟨HP, env, as, R, he.mono _ _ env _ _ (fun e n z => z.at σ) (fun v n q => ?_) h⟩, fun ex ex' env D D' hx hd h => he.mono ex ex' env _ _ hx (fun v n ⟨h1, h2⟩ => ⟨h1, hi.mono ex ex' n _ _ hx (fun w n2 ⟨xs, k, i, d, n3, g1, g2, g3, g4, g5⟩ => ⟨xs, k, i, d, n3, g1, g2, g3, g4, hd.nx _ g5⟩) h2⟩) h⟩
  intro y HP1 H1 as1 t1 R1 x1 V1
  obtain ⟨⟨xs0, e0⟩, q⟩ := q
  obtain ⟨a0, vs0, f1, _⟩ := R1.mut e0
  refine ⟨.ref a0, f1, HP1, n, as1, R1.nots, hi.mono _ _ n _ _ (fun e n z => (z.from x1.cut).at σ) (fun w n2 h2 => ?_) q⟩
  intro z HP2 H2 as2 t2 R2 x2 V2
  obtain ⟨R3, st, x3⟩ := R1.pend x2 R2
  obtain ⟨xs, k, i, d, n3, e1, e2, e3, e4, p⟩ := h2
  have w1 := R2.rp V2 e1
  cases w1
  obtain ⟨HP3, as3, R4, g1, x4⟩ := R3.share (V1.frame x2.ex st) e2
  obtain ⟨a, ws, f3, f4, f5, _, f6⟩ := R4.nots.mut e3
  rw [f1] at f3; cases f3
  obtain ⟨R5, x5⟩ := f6 (ws.set k y) (xs.set k d) (f5.set g1 k)
  refine ⟨a0, ws, i, k, rfl, rfl, f4, by rw [f5.length]; exact e4, p σ HP3 _ as3 R5 (((x1.trans x3).trans x4).cut.trans x5)⟩

def dAug (i : Nat) (P : Int → Int → Prop) (f : Int → Int → Int) (te : DE) : DS := fun ex env D => ∃ a, env[i]? = some (some (.sh (.int a))) ∧ te ex env fun v n => ∃ b, dat n v = some (.int b) ∧ P a b ∧ i < n.length ∧ D.nx (n.set i (some (.sh (.int (f a b)))))
theorem ds_aug {i : Nat} {op : Operator} {P R : Int → Int → Prop} {f : Int → Int → Int} (ho : OpR X (inplaceOp op) (rI R fun i j => .int (f i j))) (hPR : ∀ a b, P a b → R a b) (hN : X.N.Nodup) (he : DP X C W e te) (hi : X.N[i]? = some x := by rfl) (hx : Loc X.env.scope x := by first | exact Or.inl rfl | exact Or.inr rfl)
    (hf : X.fn x = true ∨ X.env.scope.names.lookup x = some .local := by first | exact .inl rfl | exact .inr rfl | assumption) (hio : i ∉ C.io := by exact of_decide_eq_true rfl) : DPS X C W (.AugAssign (.Name x p) op e pos) (dAug i P f te) := by
  refine ⟨(ps_aug hN hi hx he.run (ti := rI R fun i j => .int (f i j)) ho hf).imp fun D σ H ⟨HP, env, as, R', a, e1, h⟩ => ?_, fun ex ex' env D D' hx hd ⟨a, h1, h⟩ => ⟨a, h1, he.mono ex ex' env _ _ hx (fun v n ⟨b, g1, g2, g3, g4⟩ => ⟨b, g1, g2, g3, hd.nx _ g4⟩) h⟩⟩
  obtain ⟨v0, a0, f1, f2, _⟩ := R'.slot e1
  obtain ⟨f2, _⟩ := f2
  cases f2
  refine ⟨_, f1, HP, env, as, R', he.mono _ _ env _ _ (fun e n z => z.at σ) (fun v n q => ?_) h⟩
  intro y HP1 H1 as1 t1 R1 x1 V1
  obtain ⟨b, g1, g2, g3, g4⟩ := q
  have w1 := R1.rp V1 g1
  cases w1
  have R2 : Rel X.K C HP1 σ H1 n as1 ([] ++ []) := R1.nots
  obtain ⟨as2, R3, hm⟩ := R2.store (s := .sh (.int (f a b))) (v := .int (f a b)) ⟨.int _, rfl⟩ g3 (.inl hio)
  exact ⟨a, b, rfl, rfl, hPR a b g2, g4 _ HP1 H1 as2 R3 (x1.less fun c hc => List.mem_append_left _ (by simpa using hm c hc))⟩
theorem iop_mulW : OpR X (inplaceOp .Mult) (rI CMulW fun i j => .int (i * j)) := opI fun _ _ _ _ _ _ _ hc q => PyProof.Rows.imul_int q hc.ok
theorem iop_addT : OpR X (inplaceOp .Add) (rI (fun _ _ => True) fun i j => .int (i + j)) := opI fun _ _ _ _ _ _ _ _ q => PyProof.Rows.iadd_int q
theorem iop_subT : OpR X (inplaceOp .Sub) (rI (fun _ _ => True) fun i j => .int (i - j)) := opI fun _ _ _ _ _ _ _ _ q => PyProof.Rows.isub_int q
end

/-- from the parameters' slots: what is wanted of the answer and of the lent lists behind, of an exception -/
abbrev DSp := List Sl → (Sl → List (Option Sl) → Prop) → (Ex3 → List (Option Sl) → Prop) → Prop
def hid (H : Hp) (as : List Addr) : Hp := fun a => if a ∈ as then none else H a
theorem hid_same (H : Hp) (as : List Addr) : Same (hid H as) H := fun a o e => by
  unfold hid at e
  split at e
  · cases e
  · exact e
theorem hid_of {H : Hp} {as : List Addr} {a : Addr} {o : HO} (h : H a = some o) (n : a ∉ as) : hid H as a = some o := by unfold hid; rw [if_neg n]; exact h
theorem hid_none {H : Hp} {as : List Addr} {a : Addr} (h : a ∈ as) : hid H as a = none := by unfold hid; rw [if_pos h]
def ctOf (cls : Str → Value) (io : List Nat) (H : Hp) (as : List Addr) (vs : List V) : Ct := ⟨hid H as, cls, io, fun k => vs.getD k .non⟩
def outOk : Option Sl → Bool
  | some (.bor _) => false
  | some (.scr _) => false
  | _ => true
/-- an answer may be handed out -/
def outSl : Sl → Option Sl
  | .bor d => if scal d = true then some (.sh d) else none
  | .scr _ => none
  | s => some s
/-- what is left behind a call: the lent lists (their values iv), the answer -/
def Left (K : PySem.W.Frag) (HP H : Hp) (as : List Addr) (iv : List V) (outs : List (Option Sl)) (HP' H' : Hp) (as' ts' : List Addr) : Prop :=
  Rel K ⟨fun _ => none, fun _ => .none, [], fun _ => .non⟩ HP' (iv.map some) H' outs as' ts' ∧ outs.all outOk = true ∧ Stp HP H as HP' H' (as' ++ ts')
def liftSp (K : PySem.W.Frag) (cls : Str → Value) (io : List Nat) (sp : DSp) : Sp := fun vs H Q E => ∃ HP as ss,
  Rel K (ctOf cls io H as vs) HP (vs.map some) H (ss.map some) as [] ∧
  sp ss (fun r outs => ∀ v HP' H' as' ts', Left K HP H as (io.map fun k => vs.getD k .non) outs HP' H' as' ts' → RepS K ⟨fun _ => none, fun _ => .none, [], fun _ => .non⟩ HP' H' r v ts' → Q v H')
    (fun e outs => ∀ HP' H' as' d, Left K HP H as (io.map fun k => vs.getD k .non) outs HP' H' as' [] → ExR HP' H' e d → E (cls e.cls) d H')
/-- the lent lists at the def's end -/
def outsOf (io : List Nat) (n : En) : List (Option Sl) := io.map fun k => (n[k]?).join
def retK (io : List Nat) (Q : Sl → List (Option Sl) → Prop) : Sl → En → Prop := fun s n => ∃ s', outSl s = some s' ∧ (outsOf io n).all outOk = true ∧ Q s' (outsOf io n)
def excK (io : List Nat) (E : Ex3 → List (Option Sl) → Prop) : DX := fun e n => (outsOf io n).all outOk = true ∧ E e (outsOf io n)
section
variable {K : PySem.W.Frag} {C : Ct} {HP H : Hp} {σ : L2.St}
theorem RepE.nones : ∀ n : Nat, RepE K C HP H (List.replicate n none) (List.replicate n none) []
  | 0 => rfl
  | n + 1 => ⟨[], [], rfl, rfl, RepE.nones n⟩
theorem RepE.append : ∀ {env env2 : En} {σ σ2 : L2.St} {as as2 : List Addr}, RepE K C HP H env σ as → RepE K C HP H env2 σ2 as2 → RepE K C HP H (env ++ env2) (σ ++ σ2) (as ++ as2)
  | [], _, [], _, as, _, h, h2 => by cases h; exact h2
  | [], _, _ :: _, _, _, _, h, _ => h.elim
  | _ :: _, _, [], _, _, _, h, _ => h.elim
  | s :: env, _, v :: σ, _, as, _, h, h2 => by
    obtain ⟨a1, a2, rfl, h3, h4⟩ := h
    exact ⟨a1, a2 ++ _, by rw [List.append_assoc], h3, RepE.append h4 h2⟩
theorem outSl_rep {C' : Ct} {s s' : Sl} {v : V} {ts : List Addr} (e : outSl s = some s') (q : RepS K C HP H s v ts) : RepS K C' HP H s' v ts := by
  cases s with
  | sh d => cases e; exact q
  | bor d =>
    have e2 : (if L3.scal d = true then some (Sl.sh d) else none) = some s' := e
    by_cases hs : L3.scal d = true
    · rw [if_pos hs] at e2
      cases e2
      exact ⟨Rp.scal q.1 hs, q.2⟩
    · rw [if_neg hs] at e2
      cases e2
  | own xs => cases e; exact q
  | odk xs => cases e; exact q
  | scr ns => cases e
  | ext ρ => exact (by cases e; exact q)
/-- slots picked out -/
theorem Rel.pick : ∀ {io : List Nat} {env : En} {as ts : List Addr}, Rel K C HP σ H env as ts → io.Nodup → (outsOf io env).all outOk = true → ∀ iv : List V, (∀ (m k : Nat), io[m]? = some k → ∃ v, iv[m]? = some v ∧ σ[k]? = some (some v)) → iv.length = io.length →
    ∃ as', RepE K ⟨fun _ => none, fun _ => .none, [], fun _ => .non⟩ HP H (outsOf io env) (iv.map some) as' ∧ (as' ++ ts).Nodup ∧ ∀ a ∈ as' ++ ts, a ∈ as ++ ts
  | [], env, as, ts, r, hn, hb, iv, hv, hl => by
    have e : iv = [] := List.eq_nil_of_length_eq_zero hl
    subst e
    refine ⟨[], rfl, by simpa using (List.nodup_append.mp r.nd).2.1, fun a ha => by simp at ha ⊢; exact .inr ha⟩
  | k :: io, env, as, ts, r, hn, hb, iv, hv, hl => by
    obtain ⟨v, h1, h2⟩ := hv 0 k rfl
    cases iv with
    | nil => cases h1
    | cons w iv =>
      cases Option.some.inj h1
      have hn' := List.nodup_cons.mp hn
      have hb' : outOk (env[k]?).join = true ∧ (outsOf io env).all outOk = true := by
        simpa [outsOf] using hb
      have hv' : ∀ (m k' : Nat), io[m]? = some k' → ∃ v, iv[m]? = some v ∧ σ[k']? = some (some v) := fun m k' hm => by
        obtain ⟨v, g1, g2⟩ := hv (m + 1) k' (by simpa using hm)
        exact ⟨v, by simpa using g1, g2⟩
      cases hk : (env[k]?).join with
      | none =>
        obtain ⟨as', h3, h4, h5⟩ := Rel.pick r hn'.2 hb'.2 iv hv' (by simpa using hl)
        refine ⟨[] ++ as', ?_, by simpa using h4, by simpa using h5⟩
        show RepE _ _ _ _ ((env[k]?).join :: outsOf io env) (some _ :: iv.map some) _
        rw [hk]
        exact ⟨[], as', rfl, rfl, h3⟩
      | some s =>
        have hk' : env[k]? = some (some s) := by
          cases z : env[k]? with
          | none => rw [z] at hk; cases hk
          | some o => rw [z] at hk; have : o = some s := hk; rw [this]
        obtain ⟨as1, t, r1, rs, hm⟩ := r.take hk' h2
        have eo : outsOf io (env.set k none) = outsOf io env := by
          unfold outsOf
          refine List.map_congr_left fun m hm => ?_
          rw [List.getElem?_set_ne (fun e => hn'.1 (by rw [e]; exact hm))]
        obtain ⟨as', h3, h4, h5⟩ := Rel.pick r1 hn'.2 (by rw [eo]; exact hb'.2) iv hv' (by simpa using hl)
        rw [eo] at h3
        refine ⟨t ++ as', ?_, ?_, fun a ha => (hm a).mp (h5 a ?_)⟩
        · show RepE _ _ _ _ ((env[k]?).join :: outsOf io env) (some _ :: iv.map some) _
          rw [hk]
          refine ⟨t, as', rfl, ?_, h3⟩
          cases s with
          | bor d => rw [hk] at hb'; exact (nomatch (show false = true from hb'.1))
          | scr d => rw [hk] at hb'; exact (nomatch (show false = true from hb'.1))
          | sh d => exact rs
          | own d => exact rs
          | odk d => exact rs
          | ext d => exact rs
        · have pm : (as' ++ (t ++ ts)).Perm (t ++ as' ++ ts) := by
            rw [← List.append_assoc]
            exact List.Perm.append_right _ List.perm_append_comm
          exact pm.nodup_iff.mp h4
        · simp at ha ⊢
          rcases ha with z | z | z <;> simp [z]
theorem Rel.left {io : List Nat} {env : En} {as ts as0 : List Addr} {vs : List V} {cls : Str → Value} {H0 HP0 : Hp} (r : Rel K (ctOf cls io H0 as0 vs) HP σ H env as ts) (hn : io.Nodup) (hb : (outsOf io env).all outOk = true) (hio : ∀ k ∈ io, k < vs.length) (x : Stp HP0 H0 as0 HP H (as ++ ts)) :
    ∃ as', Left K HP0 H0 as0 (io.map fun k => vs.getD k .non) (outsOf io env) HP H as' ts := by
  obtain ⟨as', h1, h2, h3⟩ := r.pick hn hb (io.map fun k => vs.getD k .non) (fun m k hm => ⟨vs.getD k .non, by simp [hm], r.pin k (List.mem_of_getElem? hm)⟩) (by simp)
  refine ⟨as', ⟨r.exP, fun _ _ e => (nomatch e), ?_, h2, fun a ha => ?_, fun _ h => (nomatch h)⟩, hb, x.less h3⟩
  · exact h1
  · have q := r.own a (h3 a ha)
    exact ⟨q.1, rfl, q.2.2⟩
end

/-- THE RULE for a def: its body's derivation, and its reading over data -/
theorem fnD {P : Program} {w : World} {K : PySem.W.Frag} {mg : Str → Option Value} {base : Heap} {x qual : Str} {st : Stmt} {f : Addr} {fd : FuncData} {N ps : List Str} {k : Nat} {cls : Str → Value} {io : List Nat} {sp : DSp} {t : DS} (F : Fun K x qual st f fd) (S : FnScope N ps (defScope st))
    (len : ∀ ss Q E, sp ss Q E → ss.length = ps.length) (hio : io.Nodup) (hio2 : ∀ k ∈ io, k < ps.length)
    (hbody : ∀ (cdv : Value) (A : Around) (outer : List Env) (s : Shared) (H : Hp) (vs : List V) (E : XK) (as : List Addr), A.guards = some [] → Room k (A.deeper (PyProof.Rows.envOfC qual (defScope st) s.heap.objs.size f cdv)) →
      DPB (cxOf (L2N.CX P w) P w K mg base N qual (defScope st) f cdv A outer s H E) (ctOf cls io H as vs) (fun (c : Value) (d : Option Addr) (_ : L2.St) (H1 : Hp) => E c d H1) (defBody st) t)
    (hsp : ∀ ss Q E, sp ss Q E → t (excK io E) (ss.map some ++ List.replicate (N.length - ps.length) none) ⟨fun n => retK io Q (.sh .none) n, retK io Q, fun _ => False, fun _ => False⟩) :
    FnG P w K mg base (L2N.CX P w) (k + 1) f fd ps (liftSp K cls io sp) := by
  refine okG F S (fun vs H Q E h => ?_) (fun cdv A outer s H vs Q E gd hr h => ?_)
  · obtain ⟨HP, as, ss, R, h⟩ := h
    have := R.rep.len
    simp at this
    rw [this, len _ _ _ h]
  · obtain ⟨HP, as, ss, R, h⟩ := h
    have hl := R.rep.len
    simp at hl
    have hlen := len _ _ _ h
    have hd := hbody cdv A outer s H vs E as gd hr
    refine ⟨_, hd.run, ?_⟩
    have R' : Rel K (ctOf cls io H as vs) HP (L2.start N vs) H (ss.map some ++ List.replicate (N.length - ps.length) none) as [] := by
      refine ⟨R.exP, R.exB, ?_, R.nd, R.own, fun k hk => ?_⟩
      · unfold L2.start
        rw [hl, hlen]
        have := R.rep.append (RepE.nones (K := K) (C := ctOf cls io H as vs) (HP := HP) (H := H) (N.length - ps.length))
        rwa [List.append_nil] at this
      · have := R.pin k hk
        unfold L2.start
        rw [List.getElem?_append_left (by exact (List.getElem?_eq_some_iff.mp this).1)]
        exact this
    refine ⟨HP, _, as, R', hd.mono _ _ _ _ _ (fun e n z => ?_) ⟨fun n z => ?_, fun r n z => ?_, fun n z => False.elim z, fun n z => False.elim z⟩ (hsp _ _ _ h)⟩
    · intro σ' HP' H' as' d R1 x q
      obtain ⟨as2, L⟩ := Rel.left (ts := []) R1 hio z.1 (fun k hk => by rw [hl, hlen]; exact hio2 k hk) (by rw [List.append_nil]; exact x)
      exact z.2 HP' H' as2 d L q
    · intro σ' HP' H' as' R1 x
      obtain ⟨s', e1, z1, z2⟩ := z
      cases e1
      obtain ⟨as2, L⟩ := Rel.left (ts := []) R1 hio z1 (fun k hk => by rw [hl, hlen]; exact hio2 k hk) (by rw [List.append_nil]; exact x)
      exact z2 _ HP' H' as2 [] L ⟨.non, rfl⟩
    · intro v σ' HP' H' as' ts' R1 x q
      obtain ⟨s', e1, z1, z2⟩ := z
      obtain ⟨as2, L⟩ := Rel.left (ts := ts') R1 hio z1 (fun k hk => by rw [hl, hlen]; exact hio2 k hk) x
      exact z2 v HP' H' as2 ts' L (outSl_rep e1 q)
end L3

namespace L3
open PySem L2

/-- a parameter: only read; kept for good; lent and given back -/
inductive Md where
  | ro | sh | io
def lendAll : List Md → List Vl → En → Option (List (Option (Nat × Sl)) × En)
  | [], [], n => some ([], n)
  | .io :: ms, .loc i :: vs, n => match n[i]? with
    | some (some s) => if outOk (some s) = true then (lendAll ms vs (n.set i none)).map fun p => (some (i, s) :: p.1, p.2) else none
    | _ => none
  | .ro :: ms, _ :: vs, n => (lendAll ms vs n).map fun p => (none :: p.1, p.2)
  | .sh :: ms, _ :: vs, n => (lendAll ms vs n).map fun p => (none :: p.1, p.2)
  | _, _, _ => none
def roSl (v : Vl) (n : En) : Option Sl := match v with
  | .tmp (.scr ns) => some (.scr ns)
  | v => (dat n v).map fun d => .bor d
def conv : List Md → List Vl → List (Option (Nat × Sl)) → En → Option (List Sl × En)
  | [], [], [], n => some ([], n)
  | _ :: ms, _ :: vs, some (_, s) :: l, n => (conv ms vs l n).map fun p => (s :: p.1, p.2)
  | .ro :: ms, v :: vs, none :: l, n => match roSl v n with
    | some s => (conv ms vs l n).map fun p => (s :: p.1, p.2)
    | none => none
  | .sh :: ms, v :: vs, none :: l, n => match share v n with
    | some (d, n') => (conv ms vs l n').map fun p => (.sh d :: p.1, p.2)
    | none => none
  | _, _, _, _ => none
def putBack : List (Option (Nat × Sl)) → List (Option Sl) → En → En
  | [], _, n => n
  | none :: l, outs, n => putBack l outs n
  | some (i, _) :: l, o :: outs, n => putBack l outs (n.set i o)
  | some _ :: _, [], n => n
def ioOf : Nat → List Md → List Nat
  | _, [] => []
  | k, .io :: ms => k :: ioOf (k + 1) ms
  | k, _ :: ms => ioOf (k + 1) ms
/-- the call's start: what is lent, the callee's slots, our environment -/
def callD (ms : List Md) (vs : List Vl) (n : En) (k : List (Option (Nat × Sl)) → List Sl → En → Prop) : Prop := ∃ l n1 ss n2, lendAll ms vs n = some (l, n1) ∧ conv ms vs l n1 = some (ss, n2) ∧ k l ss n2
def dCall (ms : List Md) (dd : List PyData) (sp : DSp) (ta : DA) : DE := fun ex env Q => ta ex env fun vs n => callD ms vs n fun l ss n2 => sp (ss ++ dd.map Sl.sh) (fun r outs => Q (.tmp r) (putBack l outs n2)) fun e outs => ex e (putBack l outs n2)
def MonoSp (sp : DSp) : Prop := ∀ ss Q Q' E E', (∀ r o, Q r o → Q' r o) → (∀ e o, E e o → E' e o) → sp ss Q E → sp ss Q' E'
theorem mono_call {ms : List Md} {dd : List PyData} {sp : DSp} {ta : DA} (ma : MonoA ta) (hs : MonoSp sp) : MonoE (dCall ms dd sp ta) := fun ex ex' env Q Q' hx hq h =>
  ma ex ex' env _ _ hx (fun vs n ⟨l, n1, ss, n2, h1, h2, h3⟩ => ⟨l, n1, ss, n2, h1, h2, hs _ _ _ _ _ (fun r o z => hq _ _ z) (fun e o z => hx _ _ z) h3⟩) h

def LentR (K : PySem.W.Frag) (C : Ct) (HP H : Hp) (σ : L2.St) : List (Option (Nat × Sl)) → List V → List Addr → Prop
  | [], [], la => la = []
  | none :: l, _ :: vs, la => LentR K C HP H σ l vs la
  | some (i, s) :: l, v :: vs, la => outOk (some s) = true ∧ ∃ a1 a2, la = a1 ++ a2 ∧ RepS K C HP H s v a1 ∧ σ[i]? = some (some v) ∧ LentR K C HP H σ l vs a2
  | _, _, _ => False
def pickV : List (Option (Nat × Sl)) → List V → List V
  | none :: l, _ :: vs => pickV l vs
  | some _ :: l, v :: vs => v :: pickV l vs
  | _, _ => []
section
variable {K : PySem.W.Frag} {C : Ct} {σ : L2.St}
theorem Rel.perm {HP H : Hp} {env : En} {as ts ts' : List Addr} (r : Rel K C HP σ H env as ts) (h : ts.Perm ts') : Rel K C HP σ H env as ts' :=
  ⟨r.exP, r.exB, r.rep, (List.Perm.append_left as h).nodup_iff.mp r.nd, fun a ha => r.own a ((List.Perm.append_left as h).mem_iff.mpr ha), r.pin⟩
theorem outOk_rep {C' : Ct} {HP H : Hp} {s : Sl} {v : V} {ts : List Addr} (e : outOk (some s) = true) (q : RepS K C HP H s v ts) : RepS K C' HP H s v ts := by
  cases s with
  | sh d => exact q
  | bor d => cases e
  | own xs => exact q
  | odk xs => exact q
  | scr ns => cases e
  | ext ρ => exact q
/-- the lent slots are taken out -/
theorem Rel.lend {HP H : Hp} : ∀ {ms : List Md} {vals : List Vl} {vs : List V} {t : List Addr} {n n1 : En} {l : List (Option (Nat × Sl))} {as ts : List Addr}, lendAll ms vals n = some (l, n1) → RepVs K C HP H σ vals vs t → Rel K C HP σ H n as ts →
    ∃ as' la, Rel K C HP σ H n1 as' (ts ++ la) ∧ LentR K C HP H σ l vs la ∧ ∀ a, a ∈ as' ++ (ts ++ la) ↔ a ∈ as ++ ts
  | [], [], vs, t, n, n1, l, as, ts, e, q, r => by
    cases Option.some.inj e
    obtain ⟨rfl, rfl⟩ := q
    exact ⟨as, [], by rw [List.append_nil]; exact r, rfl, fun a => by simp⟩
  | .io :: ms, .loc i :: vals, vs, t, n, n1, l, as, ts, e, q, r => by
    obtain ⟨v, w, t1, t2, rfl, rfl, q1, q2⟩ := q
    unfold lendAll at e
    cases hi : n[i]? with
    | none => rw [hi] at e; cases e
    | some o => cases o with
      | none => rw [hi] at e; cases e
      | some s =>
        rw [hi] at e
        dsimp only at e
        by_cases hs : outOk (some s) = true
        · rw [if_pos hs] at e
          cases e2 : lendAll ms vals (n.set i none) with
          | none => rw [e2] at e; cases e
          | some p =>
            rw [e2] at e
            cases Option.some.inj e
            obtain ⟨as1, a1, r1, rs, hm⟩ := r.take hi q1.1
            obtain ⟨as', la, r2, h2, h3⟩ := Rel.lend e2 q2 r1
            have pm : (a1 ++ ts ++ la).Perm (ts ++ (a1 ++ la)) := by
              rw [← List.append_assoc]
              exact List.Perm.append_right _ List.perm_append_comm
            refine ⟨as', a1 ++ la, r2.perm pm, ⟨hs, a1, la, rfl, rs, q1.1, h2⟩, fun a => ?_⟩
            rw [← hm a, ← h3 a]
            have p2 : (as' ++ (ts ++ (a1 ++ la))).Perm (as' ++ (a1 ++ ts ++ la)) := List.Perm.append_left _ pm.symm
            exact p2.mem_iff
        · rw [if_neg hs] at e; cases e
  | .ro :: ms, v :: vals, vs, t, n, n1, l, as, ts, e, q, r => by
    obtain ⟨v, w, t1, t2, rfl, rfl, q1, q2⟩ := q
    unfold lendAll at e
    cases e2 : lendAll ms vals n with
    | none => rw [e2] at e; cases e
    | some p =>
      rw [e2] at e
      cases Option.some.inj e
      obtain ⟨as', la, g1, g2, g3⟩ := Rel.lend e2 q2 r
      exact ⟨as', la, g1, g2, g3⟩
  | .sh :: ms, v :: vals, vs, t, n, n1, l, as, ts, e, q, r => by
    obtain ⟨v, w, t1, t2, rfl, rfl, q1, q2⟩ := q
    unfold lendAll at e
    cases e2 : lendAll ms vals n with
    | none => rw [e2] at e; cases e
    | some p =>
      rw [e2] at e
      cases Option.some.inj e
      obtain ⟨as', la, g1, g2, g3⟩ := Rel.lend e2 q2 r
      exact ⟨as', la, g1, g2, g3⟩
  | .io :: ms, .tmp s :: vals, vs, t, n, n1, l, as, ts, e, q, r => by cases e
  | [], _ :: _, vs, t, n, n1, l, as, ts, e, q, r => by cases e
  | .io :: _, [], vs, t, n, n1, l, as, ts, e, q, r => by cases e
  | .ro :: _, [], vs, t, n, n1, l, as, ts, e, q, r => by cases e
  | .sh :: _, [], vs, t, n, n1, l, as, ts, e, q, r => by cases e
/-- seen without the lent lists -/
theorem Rel.hide {HP H : Hp} {n : En} {as ts la : List Addr} (r : Rel K C HP σ H n as (ts ++ la)) : Rel K C HP σ (hid H la) n as ts ∧ (∀ a ∈ as ++ ts, hid H la a = H a) := by
  have nd : (as ++ ts ++ la).Nodup := by rw [List.append_assoc]; exact r.nd
  have n2 := List.nodup_append.mp nd
  have out : ∀ a ∈ as ++ ts, a ∉ la := fun a ha z => n2.2.2 a ha a z rfl
  have same : ∀ a ∈ as ++ ts, hid H la a = H a := fun a ha => by unfold hid; rw [if_neg (out a ha)]
  have own : ∀ a ∈ la, HP a = none ∧ C.HB a = none ∧ H a ≠ none := fun a ha => r.own a (by simp [ha])
  refine ⟨⟨fun a o e => hid_of (r.exP a o e) fun z => ?_, fun a o e => hid_of (r.exB a o e) fun z => ?_, r.rep.frame (Same.refl _) fun a ha => same a (List.mem_append_left _ ha), n2.1, fun a ha => ?_, r.pin⟩, same⟩
  · rw [(own a z).1] at e; cases e
  · rw [(own a z).2.1] at e; cases e
  · have q := r.own a (by rw [← List.append_assoc]; exact List.mem_append_left _ ha)
    exact ⟨q.1, q.2.1, by rw [same a ha]; exact q.2.2⟩
def ParR (K : PySem.W.Frag) (Hh HP : Hp) : List (Option (Nat × Sl)) → List Sl → List V → Prop
  | [], [], [] => True
  | none :: l, s :: ss, v :: vs => (∀ (cls : Str → Value) (io : List Nat) (iv : Nat → V) (H : Hp), RepS K ⟨Hh, cls, io, iv⟩ HP H s v []) ∧ ParR K Hh HP l ss vs
  | some (_, s') :: l, s :: ss, _ :: vs => s = s' ∧ ParR K Hh HP l ss vs
  | _, _, _ => False
theorem ParR.mono {Hh HP HP' : Hp} (e : Same HP HP') : ∀ {l : List (Option (Nat × Sl))} {ss : List Sl} {vs : List V}, ParR K Hh HP l ss vs → ParR K Hh HP' l ss vs
  | [], [], [], _ => trivial
  | none :: l, s :: ss, v :: vs, h => ⟨fun cls io iv H => (h.1 cls io iv H).frame e fun _ z => (by cases z), ParR.mono e h.2⟩
  | some _ :: l, s :: ss, _ :: vs, h => ⟨h.1, ParR.mono e h.2⟩
  | [], [], _ :: _, h => h.elim
  | [], _ :: _, _, h => h.elim
  | none :: _, [], _, h => h.elim
  | none :: _, _ :: _, [], h => h.elim
  | some _ :: _, [], _, h => h.elim
  | some _ :: _, _ :: _, [], h => h.elim
theorem roSl_rep {Hh HP : Hp} {n : En} {as t : List Addr} {val : Vl} {v : V} {s : Sl} (r : Rel K C HP σ Hh n as t) {u : List Addr} (q : RepV K C HP Hh σ val v u) (e : roSl val n = some s) : ∀ (cls : Str → Value) (io : List Nat) (iv : Nat → V) (H : Hp), RepS K ⟨Hh, cls, io, iv⟩ HP H s v [] := by
  have main : ∀ {d : PyData}, dat n val = some d → Sl.bor d = s → ∀ (cls : Str → Value) (io : List Nat) (iv : Nat → V) (H : Hp), RepS K ⟨Hh, cls, io, iv⟩ HP H s v [] := fun {d} hd he cls io iv H => by
    have w := r.rp q hd
    subst he; exact ⟨w, rfl⟩
  have gen : (dat n val).map (fun d => Sl.bor d) = some s → ∀ (cls : Str → Value) (io : List Nat) (iv : Nat → V) (H : Hp), RepS K ⟨Hh, cls, io, iv⟩ HP H s v [] := fun e => by
    cases hd : dat n val with
    | none => rw [hd] at e; cases e
    | some d => rw [hd] at e; exact main hd (Option.some.inj e)
  cases val with
  | loc i => exact gen e
  | tmp s' => cases s' with
    | scr ns =>
      cases e
      intro cls io iv H
      obtain ⟨a, rfl, h2, h3⟩ := q
      exact ⟨a, rfl, rfl, SqL.ext h3 r.exB⟩
    | sh d => exact gen e
    | bor d => exact gen e
    | own d => exact gen e
    | odk d => exact gen e
    | ext d => exact gen e
theorem Rel.conv {Hh : Hp} : ∀ {ms : List Md} {vals : List Vl} {vs : List V} {HP : Hp} {t : List Addr} {n n2 : En} {l : List (Option (Nat × Sl))} {ss : List Sl} {as : List Addr}, L3.conv ms vals l n = some (ss, n2) → RepVs K C HP Hh σ vals vs t → Rel K C HP σ Hh n as t →
    ∃ HP' as', Rel K C HP' σ Hh n2 as' [] ∧ ParR K Hh HP' l ss vs ∧ Same HP HP' ∧ (∀ a ∈ as', a ∈ as ++ t) ∧ (∀ a o, HP' a = some o → HP a = some o ∨ a ∈ as ++ t)
  | [], [], vs, HP, t, n, n2, l, ss, as, e, q, r => by
    cases l with
    | cons _ _ => cases e
    | nil =>
      cases Option.some.inj e
      obtain ⟨rfl, rfl⟩ := q
      exact ⟨HP, as, r, trivial, Same.refl _, fun a ha => by simpa using ha, fun _ _ h => .inl h⟩
  | m :: ms, val :: vals, vs, HP, t, n, n2, l, ss, as, e, q, r => by
    obtain ⟨v, w, t1, t2, rfl, rfl, q1, q2⟩ := q
    have wide : ∀ a, a ∈ as ++ t2 → a ∈ as ++ (t1 ++ t2) := fun a h => (List.mem_append.mp h).elim (fun z => List.mem_append_left _ z) fun z => List.mem_append_right _ (List.mem_append_right _ z)
    cases l with
    | nil => cases m <;> cases e
    | cons o l =>
      cases o with
      | some p =>
        obtain ⟨i, s⟩ := p
        have e' : (L3.conv ms vals l n).map (fun p => (s :: p.1, p.2)) = some (ss, n2) := by cases m <;> exact e
        cases e2 : L3.conv ms vals l n with
        | none => rw [e2] at e'; cases e'
        | some p =>
          rw [e2] at e'
          cases Option.some.inj e'
          obtain ⟨HP', as', r1, h1, h2, h3, h4⟩ := Rel.conv e2 q2 (r.drop (List.sublist_append_right _ _))
          exact ⟨HP', as', r1, ⟨rfl, h1⟩, h2, fun a ha => wide a (h3 a ha), fun a o z => (h4 a o z).imp_right (wide a)⟩
      | none =>
        cases m with
        | io => cases e
        | ro =>
          unfold L3.conv at e
          cases e1 : roSl val n with
          | none => rw [e1] at e; cases e
          | some s =>
            rw [e1] at e
            dsimp only at e
            cases e2 : L3.conv ms vals l n with
            | none => rw [e2] at e; cases e
            | some p =>
              rw [e2] at e
              cases Option.some.inj e
              obtain ⟨HP', as', r1, h1, h2, h3, h4⟩ := Rel.conv e2 q2 (r.drop (List.sublist_append_right _ _))
              exact ⟨HP', as', r1, ⟨fun cls io iv H => (roSl_rep r q1 e1 cls io iv H).frame h2 fun _ z => (by cases z), h1⟩, h2, fun a ha => wide a (h3 a ha), fun a o z => (h4 a o z).imp_right (wide a)⟩
        | sh =>
          unfold L3.conv at e
          cases e1 : L3.share val n with
          | none => rw [e1] at e; cases e
          | some p0 =>
            obtain ⟨d, n'⟩ := p0
            rw [e1] at e
            dsimp only at e
            cases e2 : L3.conv ms vals l n' with
            | none => rw [e2] at e; cases e
            | some p =>
              rw [e2] at e
              cases Option.some.inj e
              obtain ⟨HP1, as1, r1, g1, x1⟩ := r.share q1 e1
              have q2' : RepVs K C HP1 Hh σ vals w t2 := q2.frame x1.ex fun _ _ => rfl
              obtain ⟨HP', as', r2, h1, h2, h3, h4⟩ := Rel.conv e2 q2' r1
              have x1s : ∀ a ∈ as1 ++ t2, a ∈ as ++ (t1 ++ t2) := fun a ha => (x1.sub a ha).elim id fun z => absurd z (r1.own a ha).2.2
              refine ⟨HP', as', r2, ⟨fun cls io iv H => ⟨g1.mono h2, rfl⟩, h1⟩, x1.ex.trans h2, fun a ha => x1s a (h3 a ha), fun a o z => ?_⟩
              rcases h4 a o z with z | z
              · rcases x1.hp a o z with y | y | y
                · exact .inl y
                · have := r1.exP a o z
                  rw [y] at this; cases this
                · exact .inr y
              · exact .inr (x1s a z)
  | [], _ :: _, vs, HP, t, n, n2, l, ss, as, e, q, r => by cases e
  | m :: _, [], vs, HP, t, n, n2, l, ss, as, e, q, r => by cases m <;> cases e

/-- behind the call: the rest stands -/
theorem Rel.behind {HP H HP2 H2 : Hp} {n : En} {as la bs : List Addr} (r : Rel K C HP σ H n as la) (x : Stp HP H la HP2 H2 bs) (eP : Same HP2 H2) (nd : bs.Nodup) (own : ∀ a ∈ bs, HP2 a = none ∧ H2 a ≠ none) : Rel K C HP2 σ H2 n as bs := by
  have n2 := List.nodup_append.mp r.nd
  have out : ∀ a ∈ as, a ∉ la := fun a ha z => n2.2.2 a ha a z rfl
  have stay : ∀ a ∈ as, H2 a = H a := fun a h => by
    obtain ⟨o, e⟩ := ne_none (r.own a (List.mem_append_left _ h)).2.2
    rw [x.fr a o e (out a h), e]
  have hB : ∀ a, (H a = none ∨ a ∈ la) → C.HB a = none := fun a h => h.elim (fun z => r.exB.free z) fun z => (r.own a (List.mem_append_right _ z)).2.1
  refine ⟨eP, fun a o e => x.fr a o (r.exB a o e) fun z => ?_, r.rep.frame x.ex stay, List.nodup_append.mpr ⟨n2.1, nd, fun a ha b hb e => ?_⟩, fun a ha => ?_, r.pin⟩
  · rw [(r.own a (List.mem_append_right _ z)).2.1] at e; cases e
  · subst e
    rcases x.sub a hb with z | z
    · exact out a ha z
    · exact (r.own a (List.mem_append_left _ ha)).2.2 z
  · rcases List.mem_append.mp ha with h | h
    · have q := r.own a (List.mem_append_left _ h)
      refine ⟨?_, q.2.1, by rw [stay a h]; exact q.2.2⟩
      cases e : HP2 a with
      | none => rfl
      | some o =>
        rcases x.hp a o e with z | z | z
        · rw [q.1] at z; cases z
        · exact absurd z q.2.2
        · exact absurd z (out a h)
    · have q := own a h
      exact ⟨q.1, hB a ((x.sub a h).symm), q.2⟩
theorem Rel.clr {HP H : Hp} {n : En} {as ts : List Addr} {i : Nat} (r : Rel K C HP σ H n as ts) : ∃ as', Rel K C HP σ H (n.set i none) as' ts ∧ ∀ a ∈ as', a ∈ as := by
  by_cases hi : i < n.length
  · obtain ⟨w, pre, a, post, h1, h2, h3, h4⟩ := r.rep.at i (List.getElem?_eq_getElem hi)
    have k := h4 HP H none w [] (Same.refl _) (fun _ _ => rfl) rfl
    rw [set_same h1] at k
    subst h2
    have sub : (pre ++ ([] ++ post) ++ ts).Sublist (pre ++ (a ++ post) ++ ts) := List.Sublist.append (List.Sublist.append (List.Sublist.refl _) (List.Sublist.append (List.nil_sublist _) (List.Sublist.refl _))) (List.Sublist.refl _)
    refine ⟨pre ++ ([] ++ post), ⟨r.exP, r.exB, k, r.nd.sublist sub, fun b hb => r.own b (sub.mem hb), r.pin⟩, fun b hb => ?_⟩
    rcases List.mem_append.mp hb with z | z
    · exact List.mem_append_left _ z
    · exact List.mem_append_right _ (List.mem_append_right _ (by simpa using z))
  · rw [List.set_eq_of_length_le (by omega)]
    exact ⟨as, r, fun _ h => h⟩
/-- given back -/
theorem Rel.back {HP0 H0 HP H : Hp} : ∀ {l : List (Option (Nat × Sl))} {vs : List V} {la : List Addr} {outs : List (Option Sl)} {n : En} {as a2 ts : List Addr}, LentR K C HP0 H0 σ l vs la → RepE K ⟨fun _ => none, fun _ => .none, [], fun _ => .non⟩ HP H outs ((pickV l vs).map some) a2 → outs.all outOk = true →
    (∀ p ∈ l, ∀ q, p = some q → q.1 < n.length) → Rel K C HP σ H n as (a2 ++ ts) → ∃ as', Rel K C HP σ H (putBack l outs n) as' ts ∧ ∀ a ∈ as', a ∈ as ++ a2
  | [], _, _, outs, n, as, a2, ts, _, _, _, _, r => ⟨as, r.drop (List.sublist_append_right _ _), fun a h => List.mem_append_left _ h⟩
  | none :: l, _ :: vs, la, outs, n, as, a2, ts, hl, ho, hk, hn, r => by
    obtain ⟨as', g1, g2⟩ := Rel.back (l := l) hl ho hk (fun p hp => hn p (List.mem_cons_of_mem _ hp)) r
    exact ⟨as', g1, g2⟩
  | some (i, s) :: l, v :: vs, la, outs, n, as, a2, ts, hl, ho, hk, hn, r => by
    obtain ⟨_, b1, b2, rfl, _, hv, hl⟩ := hl
    cases outs with
    | nil => exact ho.elim
    | cons o outs =>
      obtain ⟨c1, c2, rfl, h1, h2⟩ := ho
      have hi : i < n.length := hn _ (List.mem_cons_self ..) _ rfl
      have fin : ∀ {as1 : List Addr}, Rel K C HP σ H (n.set i o) as1 (c2 ++ ts) → (∀ a ∈ as1, a ∈ as ++ c1) → ∃ as', Rel K C HP σ H (putBack l outs (n.set i o)) as' ts ∧ ∀ a ∈ as', a ∈ as ++ (c1 ++ c2) := fun {as1} r1 m1 => by
        obtain ⟨as', g1, g2⟩ := Rel.back (l := l) hl h2 (by simp at hk ⊢; exact hk.2) (fun p hp q e => by rw [List.length_set]; exact hn p (List.mem_cons_of_mem _ hp) q e) r1
        refine ⟨as', g1, fun a ha => ?_⟩
        rw [← List.append_assoc]
        exact (List.mem_append.mp (g2 a ha)).elim (fun z => List.mem_append_left _ (m1 a z)) fun z => List.mem_append_right _ z
      cases o with
      | none =>
        cases h1
        obtain ⟨as1, r1, m1⟩ := Rel.clr (i := i) r
        exact fin r1 fun a ha => List.mem_append_left _ (m1 a ha)
      | some s' =>
        rw [List.append_assoc] at r
        have q : RepS K C HP H s' v c1 := by
          cases s' with
          | sh d => exact h1
          | bor d => exact (nomatch (show false = true from (by simp [outOk] at hk)))
          | own xs => exact h1
          | odk xs => exact h1
          | ext xs => exact h1
          | scr ns => exact (nomatch (show false = true from (by simp [outOk] at hk)))
        obtain ⟨as1, r1, m1⟩ := r.store q hi (.inr hv)
        rw [set_same hv] at r1
        exact fin r1 m1
  | none :: _, [], _, _, _, _, _, _, hl, _, _, _, _ => hl.elim
  | some _ :: _, [], _, _, _, _, _, _, hl, _, _, _, _ => hl.elim

theorem lent_lt {HP H : Hp} : ∀ {l : List (Option (Nat × Sl))} {vs : List V} {la : List Addr}, LentR K C HP H σ l vs la → ∀ p ∈ l, ∀ q, p = some q → q.1 < σ.length
  | [], _, _, _, p, hp, _, _ => by cases hp
  | none :: l, _ :: vs, la, h, p, hp, q, e => by
    rcases List.mem_cons.mp hp with rfl | hp
    · cases e
    · exact lent_lt (l := l) h p hp q e
  | some (i, s) :: l, v :: vs, la, ⟨_, a1, a2, _, _, hv, h⟩, p, hp, q, e => by
    rcases List.mem_cons.mp hp with rfl | hp
    · cases e; exact (List.getElem?_eq_some_iff.mp hv).1
    · exact lent_lt (l := l) h p hp q e
  | none :: _, [], _, h, _, _, _, _ => h.elim
  | some _ :: _, [], _, h, _, _, _, _ => h.elim
theorem lend_len {HP H : Hp} : ∀ {ms : List Md} {vals : List Vl} {vs : List V} {t : List Addr} {n n1 : En} {l : List (Option (Nat × Sl))}, lendAll ms vals n = some (l, n1) → RepVs K C HP H σ vals vs t → ∀ (pre dvs : List V),
    (∀ k ∈ ioOf pre.length ms, k < (pre ++ (vs ++ dvs)).length) ∧ (ioOf pre.length ms).map (fun k => (pre ++ (vs ++ dvs)).getD k .non) = pickV l vs ∧ (ioOf pre.length ms).Nodup ∧ ∀ k ∈ ioOf pre.length ms, pre.length ≤ k
  | [], [], vs, t, n, n1, l, e, q, pre, dvs => by
    cases Option.some.inj e
    obtain ⟨rfl, rfl⟩ := q
    exact ⟨fun k h => (by cases h), rfl, .nil, fun k h => (by cases h)⟩
  | m :: ms, val :: vals, vs, t, n, n1, l, e, q, pre, dvs => by
    obtain ⟨v, w, t1, t2, rfl, rfl, q1, q2⟩ := q
    have sw : ∀ (ws : List V), pre ++ ((v :: w) ++ ws) = (pre ++ [v]) ++ (w ++ ws) := fun ws => by simp
    have ln : (pre ++ [v]).length = pre.length + 1 := by simp
    have plain : ∀ {p : List (Option (Nat × Sl)) × En}, lendAll ms vals n = some p → l = none :: p.1 → ioOf pre.length (m :: ms) = ioOf (pre.length + 1) ms →
        (∀ k ∈ ioOf pre.length (m :: ms), k < (pre ++ ((v :: w) ++ dvs)).length) ∧ (ioOf pre.length (m :: ms)).map (fun k => (pre ++ ((v :: w) ++ dvs)).getD k .non) = pickV l (v :: w) ∧ (ioOf pre.length (m :: ms)).Nodup ∧ ∀ k ∈ ioOf pre.length (m :: ms), pre.length ≤ k := fun {p} e2 e3 e4 => by
      obtain ⟨g1, g2, g3, g4⟩ := lend_len e2 q2 (pre ++ [v]) dvs
      rw [ln] at g1 g2 g3 g4
      rw [e4, sw dvs, e3]
      exact ⟨g1, g2, g3, fun k hk => Nat.le_of_succ_le (g4 k hk)⟩
    cases m with
    | ro =>
      unfold lendAll at e
      cases e2 : lendAll ms vals n with
      | none => rw [e2] at e; cases e
      | some p => rw [e2] at e; cases Option.some.inj e; exact plain e2 rfl rfl
    | sh =>
      unfold lendAll at e
      cases e2 : lendAll ms vals n with
      | none => rw [e2] at e; cases e
      | some p => rw [e2] at e; cases Option.some.inj e; exact plain e2 rfl rfl
    | io =>
      cases val with
      | tmp s => cases e
      | loc i =>
        unfold lendAll at e
        cases hi : n[i]? with
        | none => rw [hi] at e; cases e
        | some o => cases o with
          | none => rw [hi] at e; cases e
          | some s =>
            rw [hi] at e
            dsimp only at e
            by_cases hs : outOk (some s) = true
            · rw [if_pos hs] at e
              cases e2 : lendAll ms vals (n.set i none) with
              | none => rw [e2] at e; cases e
              | some p =>
                rw [e2] at e
                cases Option.some.inj e
                obtain ⟨g1, g2, g3, g4⟩ := lend_len e2 q2 (pre ++ [v]) dvs
                rw [ln] at g1 g2 g3 g4
                rw [sw dvs]
                refine ⟨fun k hk => ?_, ?_, List.nodup_cons.mpr ⟨fun z => Nat.lt_irrefl _ (g4 _ z), g3⟩, fun k hk => ?_⟩
                · rcases List.mem_cons.mp hk with rfl | hk
                  · simp
                  · exact g1 k hk
                · show _ :: _ = _ :: _
                  rw [g2]
                  congr 1
                  simp [List.getD_eq_getElem?_getD]
                · rcases List.mem_cons.mp hk with rfl | hk
                  · exact Nat.le_refl _
                  · exact Nat.le_of_succ_le (g4 k hk)
            · rw [if_neg hs] at e; cases e
  | [], _ :: _, vs, t, n, n1, l, e, q, pre, dvs => by cases e
  | m :: _, [], vs, t, n, n1, l, e, q, pre, dvs => by cases m <;> cases e
theorem par_rep {Hh HP HP' H : Hp} {cls : Str → Value} {io : List Nat} {iv : Nat → V} (ex : Same HP HP') : ∀ {l : List (Option (Nat × Sl))} {vs : List V} {ss : List Sl} {la : List Addr}, LentR K C HP H σ l vs la → ParR K Hh HP' l ss vs → RepE K ⟨Hh, cls, io, iv⟩ HP' H (ss.map some) (vs.map some) la
  | [], [], [], la, h, _ => h
  | none :: l, v :: vs, s :: ss, la, h, p => ⟨[], la, rfl, p.1 cls io iv H, par_rep ex (l := l) h p.2⟩
  | some (i, s') :: l, v :: vs, s :: ss, la, ⟨hk, a1, a2, e, hs, _, h⟩, p => by
    obtain ⟨rfl, p2⟩ := p
    exact ⟨a1, a2, e, (outOk_rep hk hs).frame ex fun _ _ => rfl, par_rep ex (l := l) h p2⟩
  | [], [], _ :: _, _, _, p => p.elim
  | [], _ :: _, [], _, _, p => p.elim
  | [], _ :: _, _ :: _, _, _, p => p.elim
  | none :: _, [], _, _, h, _ => h.elim
  | some _ :: _, [], _, _, h, _ => h.elim
  | none :: _, _ :: _, [], _, _, p => p.elim
  | some _ :: _, _ :: _, [], _, _, p => p.elim
theorem rep_dd {C : Ct} {HP H : Hp} : ∀ {dvs : List V} {dd : List PyData}, RpAll HP dvs dd → RepE K C HP H ((dd.map Sl.sh).map some) (dvs.map some) []
  | _, _, .nil => rfl
  | _, _, .cons q r => ⟨[], [], rfl, ⟨q, rfl⟩, rep_dd r⟩
theorem retRep {C : Ct} {HP H : Hp} {s : Sl} {v : V} {ts : List Addr} (q : RepS K ⟨fun _ => none, fun _ => .none, [], fun _ => .non⟩ HP H s v ts) : RepS K C HP H s v ts := by
  cases s with
  | sh d => exact q
  | bor d => exact ⟨q.1.mono fun _ _ e => (by cases e), q.2⟩
  | own xs => exact q
  | odk xs => exact q
  | scr ns =>
    obtain ⟨a, h1, h2, h3⟩ := q
    exact ⟨a, h1, h2, SqL.ext h3 fun _ _ e => (by cases e)⟩
  | ext ρ => exact q
/-- the call's core -/
theorem call_core {W : WX} {HP H : Hp} {n n1 n2 : En} {as t : List Addr} {ms : List Md} {vals : List Vl} {vs dvs : List V} {dd : List PyData} {l : List (Option (Nat × Sl))} {ss : List Sl} {io : List Nat} {spd : DSp} {Q : VK} {Qd : Sl → List (Option Sl) → Prop} {Ed : Ex3 → List (Option Sl) → Prop}
    (R : Rel K C HP σ H n as t) (Vr : RepVs K C HP H σ vals vs t) (e1 : lendAll ms vals n = some (l, n1)) (e2 : L3.conv ms vals l n1 = some (ss, n2)) (hio : io = ioOf 0 ms) (hdd : ∀ H, RpAll H dvs dd) (msp : MonoSp spd) (hsp : spd (ss ++ dd.map Sl.sh) Qd Ed)
    (hQ : ∀ r outs, Qd r outs → Po K C σ HP H (as ++ t) Q (.tmp r) (putBack l outs n2)) (hE : ∀ e outs, Ed e outs → lX K C W σ HP H (as ++ t) e (putBack l outs n2)) : liftSp K C.cls io spd (vs ++ dvs) H Q (WE W σ) := by
  obtain ⟨as', la, R1, hl, hm⟩ := R.lend e1 Vr
  obtain ⟨Rh, same⟩ := R1.hide
  obtain ⟨HP', as2, R2, hp, ex, sub, hp2⟩ := Rel.conv e2 (Vr.frame (Same.refl _) fun a ha => same a (List.mem_append_right _ ha)) Rh
  have nd1 : (as' ++ t ++ la).Nodup := by rw [List.append_assoc]; exact R1.nd
  have nd := List.nodup_append.mp nd1
  have laO : ∀ a ∈ la, C.HB a = none ∧ H a ≠ none := fun a ha => (R1.own a (by simp [ha])).2
  have R3 : Rel K C HP' σ H n2 as2 la := by
    have r2nd : as2.Nodup := by have := R2.nd; rwa [List.append_nil] at this
    refine ⟨R2.exP.trans (hid_same H la), R.exB, R2.rep.frame (Same.refl _) fun a ha => (same a (sub a ha)).symm, List.nodup_append.mpr ⟨r2nd, nd.2.1, fun a ha b hb => nd.2.2 a (sub a ha) b hb⟩, fun a ha => ?_, R2.pin⟩
    rcases List.mem_append.mp ha with h | h
    · have q := R2.own a (List.mem_append_left _ h)
      exact ⟨q.1, q.2.1, by rw [← same a (sub a h)]; exact q.2.2⟩
    · refine ⟨?_, laO a h⟩
      cases z : HP' a with
      | none => rfl
      | some o =>
        have := R2.exP a o z
        rw [hid_none h] at this; cases this
  have x3 : Stp HP H (as ++ t) HP' H (as2 ++ la) := by
    refine ⟨ex, fun _ _ e _ => e, fun a ha => .inl ((hm a).mp ?_), fun a o e => ?_, fun _ h => h⟩
    · rcases List.mem_append.mp ha with h | h
      · have := sub a h
        rw [← List.append_assoc]; exact List.mem_append_left _ this
      · simp [h]
    · rcases hp2 a o e with z | z
      · exact .inl z
      · exact .inr (.inr ((hm a).mp (by rw [← List.append_assoc]; exact List.mem_append_left _ z)))
  obtain ⟨k1, k2, _, _⟩ := lend_len e1 Vr [] dvs
  have k1' : ∀ k ∈ io, k < (vs ++ dvs).length := fun k hk => by rw [hio] at hk; exact k1 k hk
  have k2' : (io.map fun k => (vs ++ dvs).getD k .non) = pickV l vs := by rw [hio]; exact k2
  have lt : ∀ p ∈ l, ∀ q, p = some q → q.1 < n2.length := fun p hp q e => by
    have := lent_lt hl p hp q e
    rwa [R3.rep.len] at this
  refine ⟨HP', la, ss ++ dd.map Sl.sh, ⟨R3.exP, hid_same H la, ?_, by rw [List.append_nil]; exact nd.2.1, fun a ha => ?_, fun k hk => ?_⟩, msp _ _ _ _ _ (fun r outs z => ?_) (fun e outs z => ?_) hsp⟩
  · rw [List.map_append, List.map_append]
    have := (par_rep (cls := C.cls) (io := io) (iv := fun k => (vs ++ dvs).getD k .non) ex hl hp).append (rep_dd (K := K) (C := ctOf C.cls io H la (vs ++ dvs)) (H := H) (hdd HP'))
    rwa [List.append_nil] at this
  · rw [List.append_nil] at ha
    exact ⟨(R3.own a (List.mem_append_right _ ha)).1, hid_none ha, (laO a ha).2⟩
  · show _ = some (some ((vs ++ dvs).getD k .non))
    have := k1' k hk
    rw [List.getElem?_map, List.getElem?_eq_getElem this, List.getD_eq_getElem?_getD, List.getElem?_eq_getElem this]
    rfl
  · intro v HP2 H2 as3 ts3 L rs
    obtain ⟨Rl, hk, x4⟩ := L
    have R4 := R3.behind x4 Rl.exP Rl.nd fun a ha => ⟨(Rl.own a ha).1, (Rl.own a ha).2.2⟩
    have rep := Rl.rep
    rw [k2'] at rep
    obtain ⟨as4, R5, m5⟩ := Rel.back hl rep hk lt R4
    refine hQ r outs z v HP2 H2 as4 ts3 R5 (x3.trans ⟨x4.ex, fun a o e n => x4.fr a o e fun z => n (List.mem_append_right _ z), fun a ha => ?_, fun a o e => (x4.hp a o e).elim .inl fun z => z.elim (fun z => .inr (.inl z)) fun z => .inr (.inr (List.mem_append_right _ z)), x4.un⟩) ?_
    · rcases List.mem_append.mp ha with h | h
      · rcases List.mem_append.mp (m5 a h) with h | h
        · exact .inl (List.mem_append_left _ h)
        · exact (x4.sub a (List.mem_append_left _ h)).elim (fun z => .inl (List.mem_append_right _ z)) .inr
      · exact (x4.sub a (List.mem_append_right _ h)).elim (fun z => .inl (List.mem_append_right _ z)) .inr
    · exact retRep rs
  · intro HP2 H2 as3 d L xr
    obtain ⟨Rl, hk, x4⟩ := L
    have R4 := R3.behind x4 Rl.exP Rl.nd fun a ha => ⟨(Rl.own a ha).1, (Rl.own a ha).2.2⟩
    have rep := Rl.rep
    rw [k2'] at rep
    obtain ⟨as4, R5, m5⟩ := Rel.back hl rep hk lt R4
    refine hE e outs z HP2 H2 as4 d R5 (x3.trans ⟨x4.ex, fun a o e n => x4.fr a o e fun z => n (List.mem_append_right _ z), fun a ha => ?_, fun a o e => (x4.hp a o e).elim .inl fun z => z.elim (fun z => .inr (.inl z)) fun z => .inr (.inr (List.mem_append_right _ z)), x4.un⟩) xr
    rcases List.mem_append.mp (m5 a ha) with h | h
    · exact .inl (List.mem_append_left _ h)
    · exact (x4.sub a (List.mem_append_left _ h)).elim (fun z => .inl (List.mem_append_right _ z)) .inr
end
section
variable {X : Cx} {C : Ct} {W : WX} {k : Nat} {f : Addr} {fd : FuncData} {ps : List Str} {dvs : List V} {ds : List Value} {x : Str} {p pos : Pos} {e : Expr} {es : List Expr} {ta : DA} {spd : DSp} {io : List Nat} {ms : List Md} {dd : List PyData}
theorem do_call (F : FnG X.prog X.w X.K X.mg X.base (L2N.CX X.prog X.w) k f fd ps (liftSp X.K C.cls io spd)) (hr : Room k X.A) (gd : X.A.guards = some []) (tk : L2N.Takes X W) (msp : MonoSp spd) (ha : DPA X C W (e :: es) ta) (hg : Gl X x) (hm : X.mg x = some (.ref f)) (hk : PySem.W.keepIn X.K (.ref f) = true) (hb : Binds X.K fd ps ds) (hd : Vals dvs ds) (hdd : ∀ H, RpAll H dvs dd) (hio : io = ioOf 0 ms := by rfl)
    (hdb : (x == ("__debug__" : Str)) = false := by decide) (he : starEach (e :: es) X.env = (false, eval e X.env) :: starEach es X.env := by rfl) (hpl : (backTo pos (starEach es X.env)).any (·.1) = false := by rfl) : DP X C W (.Call (.Name x p) (e :: es) [] pos) (dCall ms dd spd ta) := by
  refine ⟨(pe_callG (E := WE W) F hr gd hg hm hk hb hd (L2N.passAt tk) ha.run hdb he hpl).imp fun σ H Q ⟨HP, env, as, R, h⟩ => ⟨HP, env, as, R, ha.mono _ _ env _ _ (fun _ _ z => z) (fun vals n q => ?_) h⟩, mono_call ha.mono msp⟩
  intro vs HP1 H1 as1 t1 R1 x1 V1
  obtain ⟨l, n1, ss, n2, e1, e2, hsp⟩ := q
  exact call_core R1 V1 e1 e2 hio hdd msp hsp (fun r outs z v HP' H' as' ts' r1 y q => z v HP' H' as' ts' r1 (x1.trans y) q) fun e outs z HP' H' as' d r1 y q => z HP' H' as' d r1 (x1.trans y) q
end
end L3

namespace L3
open PySem L2

structure ItOk (K : PySem.W.Frag) (C : Ct) (J : It) (g : TG) (js : List Nat) (HP1 : Hp) (cnt : Nat) (st : Nat → En → En) : Prop where
  good : ∀ (i : Nat) (σ' : L2.St) (H' HP' : Hp) (env' : En) (as' : List Addr), Rel K C HP' σ' H' env' as' [] → Same HP1 HP' → (i < cnt → J.go i H') ∧ (cnt ≤ i → J.stop i H')
  turn : ∀ (i : Nat) (σ' : L2.St) (H' HP' : Hp) (env' : En) (as' : List Addr) (x : V) (H'' : Hp), Rel K C HP' σ' H' env' as' [] → Same HP1 HP' → i < cnt → (∀ j ∈ js, j < env'.length) → J.yld i H' x H'' → ∀ Q : L2.St → Hp → Prop,
    (∀ σ2 HP2 H2 as2, Rel K C HP2 σ2 H2 (st i env') as2 [] → Stp HP' H' as' HP2 H2 as2 → σ2.length = σ'.length → (∀ k : Nat, k ∉ js → σ2[k]? = σ'[k]?) → Q σ2 H2) → g x σ' H'' Q
abbrev DI := DX → En → (Nat → (Nat → En → En) → En → Prop) → Prop
def MonoI (t : DI) : Prop := ∀ (ex ex' : DX) (env : En) (Q Q' : Nat → (Nat → En → En) → En → Prop), (∀ e n, ex e n → ex' e n) → (∀ c s n, Q c s n → Q' c s n) → t ex env Q → t ex' env Q'
structure DPI (X : Cx) (C : Ct) (W : WX) (tg iter : Expr) (js : List Nat) (g : TG) (t : DI) : Prop where
  run : PI X tg iter fun σ H R => ∃ HP env as, Rel X.K C HP σ H env as [] ∧ t (lX X.K C W σ HP H as) env fun cnt st n1 => ∀ (J : It) (HP1 H1 : Hp) (as1 : List Addr), Rel X.K C HP1 σ H1 n1 as1 [] → Stp HP H as HP1 H1 as1 → ItOk X.K C J g js HP1 cnt st → R J H1
  mono : MonoI t
theorem _root_.L2.PI.imp {X : Cx} {tg e : Expr} {t t' : TI} (h : PI X tg e t) (k : ∀ σ H Q, t' σ H Q → t σ H Q) : PI X tg e t' := ⟨fun pins s σ H Q I q => h.run pins s σ H Q I (k σ H Q q)⟩

section
variable {K : PySem.W.Frag} {C : Ct} {HP1 : Hp} {j j1 j2 : Nat}
theorem it_range {lo : Int} {cnt : Nat} (hio : j ∉ C.io) : ItOk K C (Itr lo cnt) (gName j) [j] HP1 cnt fun i n => n.set j (some (.sh (.int (lo + i)))) :=
  ⟨fun i σ' H' HP' env' as' R' s => ⟨fun h => h, fun h => h⟩, fun i σ' H' HP' env' as' v H'' R' s hi hl y Q k => by
    obtain ⟨rfl, rfl⟩ := y
    have R2 : Rel K C HP' σ' H'' env' as' ([] ++ []) := R'
    obtain ⟨as2, R3, hm⟩ := R2.store (s := .sh (.int (lo + i))) (v := .int (lo + i)) (t := []) ⟨.int _, rfl⟩ (hl j (by simp)) (.inl hio)
    exact k _ HP' H'' as2 R3 (Stp.refl.less fun a ha => by simpa using hm a ha) (by simp) fun k hk => List.getElem?_set_ne (fun e => hk (by simp [e]))⟩
def chs (x : Str) : List Str := x.cps.toList.map fun c => ⟨#[c]⟩
theorem it_str {x : Str} (hio : j ∉ C.io) : ItOk K C (Its x) (gName j) [j] HP1 (chs x).length fun i n => n.set j (some (.sh (.str ((chs x).getD i ⟨#[]⟩)))) := by
  have hl : (chs x).length = x.cps.size := by simp [chs]
  refine ⟨fun i σ' H' HP' env' as' R' s => ⟨fun h => by rw [hl] at h; exact h, fun h => by rw [hl] at h; exact h⟩, fun i σ' H' HP' env' as' v H'' R' s hi hl y Q k => ?_⟩
  obtain ⟨rfl, c, hc, rfl⟩ := y
  have e : (chs x).getD i ⟨#[]⟩ = ⟨#[c]⟩ := by
    have : x.cps.toList[i]? = some c := by simpa using hc
    simp [chs, List.getD_eq_getElem?_getD, this]
  have R2 : Rel K C HP' σ' H'' env' as' ([] ++ []) := R'
  obtain ⟨as2, R3, hm⟩ := R2.store (s := .sh (.str ⟨#[c]⟩)) (v := .str ⟨#[c]⟩) (t := []) ⟨.str _, rfl⟩ (hl j (by simp)) (.inl hio)
  refine k _ HP' H'' as2 ?_ (Stp.refl.less fun a ha => by simpa using hm a ha) (by simp) fun k hk => List.getElem?_set_ne (fun e => hk (by simp [e]))
  rw [e]; exact R3
/-- what a walk of a list gives -/
def Items (K : PySem.W.Frag) (C : Ct) (HP1 : Hp) (a : Addr) (xs : List PyData) (f : PyData → Sl) : Prop := ∀ HP' σ' H' n' as' ts', Rel K C HP' σ' H' n' as' ts' → Same HP1 HP' →
      ∃ vs, H' a = some (.lst vs) ∧ vs.length = xs.length ∧ ∀ (i : Nat) d, xs[i]? = some d → ∃ w, vs[i]? = some w ∧ RepS K C HP' H' (f d) w []
theorem it_list {a : Addr} {xs : List PyData} {f : PyData → Sl} (hio : j ∉ C.io) (items : Items K C HP1 a xs f) : ItOk K C (Itl K a) (gName j) [j] HP1 xs.length fun i n => n.set j (some (f (xs.getD i .none))) := by
  refine ⟨fun i σ' H' HP' env' as' R' s => ?_, fun i σ' H' HP' env' as' v H'' R' s hi hl y Q k => ?_⟩
  · obtain ⟨vs, g, len, get⟩ := items HP' σ' H' env' as' [] R' s
    refine ⟨fun hlt => ?_, fun hge => ⟨vs, SqL.of g, by omega⟩⟩
    obtain ⟨w', w1, _⟩ := get i _ (List.getElem?_eq_getElem hlt)
    exact ⟨vs, w', SqL.of g, w1⟩
  · obtain ⟨rfl, hy⟩ := y
    obtain ⟨vs, g, len, get⟩ := items HP' σ' H'' env' as' [] R' s
    have hd' := List.getElem?_eq_getElem hi
    obtain ⟨w', w1, w2⟩ := get i _ hd'
    have ev : v = w' := Option.some.inj ((hy vs (SqL.of g)).symm.trans w1)
    subst ev
    have R2 : Rel K C HP' σ' H'' env' as' ([] ++ []) := R'
    obtain ⟨as3, R3, hm⟩ := R2.store (v := v) w2 (hl j (by simp)) (.inl hio)
    have e : xs.getD i .none = xs[i] := by simp [List.getD_eq_getElem?_getD, hd']
    refine k _ HP' H'' as3 ?_ (Stp.refl.less fun a ha => by simpa using hm a ha) (by simp) fun k hk => List.getElem?_set_ne (fun e => hk (by simp [e]))
    rw [e]; exact R3
/-- a new pair is made, its parts are stored -/
theorem it_pair {σ' : L2.St} {H' HP' : Hp} {env' : En} {as' : List Addr} {T : Addr} {x y : V} {s1 s2 : Sl} (hio1 : j1 ∉ C.io) (hio2 : j2 ∉ C.io) (R' : Rel K C HP' σ' H' env' as' []) (hT : H' T = none) (g1 : RepS K C HP' H' s1 x []) (g2 : RepS K C HP' H' s2 y []) (hl : ∀ j ∈ [j1, j2], j < env'.length) (Q : L2.St → Hp → Prop)
    (k : ∀ σ2 HP2 H2 as2, Rel K C HP2 σ2 H2 ((env'.set j1 (some s1)).set j2 (some s2)) as2 [] → Stp HP' H' as' HP2 H2 as2 → σ2.length = σ'.length → (∀ k : Nat, k ∉ [j1, j2] → σ2[k]? = σ'[k]?) → Q σ2 H2) : gTup K 2 (gNames [j1, j2]) (.ref T) σ' (upd H' T (.tup [x, y])) Q := by
  have R2 := R'.new (o := .tup [x, y]) hT
  have w1 : RepS K C HP' (upd H' T (.tup [x, y])) s1 x [] := RepS.frame (Same.refl _) g1 fun _ h => nomatch h
  have w2 : RepS K C HP' (upd H' T (.tup [x, y])) s2 y [] := RepS.frame (Same.refl _) g2 fun _ h => nomatch h
  refine ⟨T, _, rfl, SqT.of upd_same, rfl, ?_⟩
  have R3 : Rel K C HP' σ' (upd H' T (.tup [x, y])) env' as' ([] ++ []) := R2
  obtain ⟨as4, R4, hm4⟩ := R3.store w1 (hl j1 (by simp)) (.inl hio1)
  have R5 : Rel K C HP' (σ'.set j1 (some x)) (upd H' T (.tup [x, y])) (env'.set j1 (some s1)) as4 ([] ++ []) := R4
  obtain ⟨as6, R6, hm6⟩ := R5.store w2 (by simpa using hl j2 (by simp)) (.inl hio2)
  refine ⟨_, _, rfl, _, _, rfl, rfl, k _ HP' _ as6 R6 ((Stp.new hT).less fun a ha => ?_) (by simp) fun k hk => ?_⟩
  · have z := hm6 a ha
    have z2 := hm4 a (by simpa using z)
    simpa using z2
  · simp at hk
    rw [List.getElem?_set_ne (fun e => hk.2 e.symm), List.getElem?_set_ne (fun e => hk.1 e.symm)]
theorem it_enum {a : Addr} {xs : List PyData} {f : PyData → Sl} (hio1 : j1 ∉ C.io) (hio2 : j2 ∉ C.io) (items : Items K C HP1 a xs f) : ItOk K C (Ite K a) (gTup K 2 (gNames [j1, j2])) [j1, j2] HP1 xs.length fun i n => (n.set j1 (some (.sh (.int i)))).set j2 (some (f (xs.getD i .none))) := by
  refine ⟨fun i σ' H' HP' env' as' R' s => ?_, fun i σ' H' HP' env' as' v H'' R' s hi hl y Q k => ?_⟩
  · obtain ⟨vs, g, len, get⟩ := items HP' σ' H' env' as' [] R' s
    refine ⟨fun hlt => ?_, fun hge => ⟨vs, SqL.of g, by omega⟩⟩
    obtain ⟨w', w1, _⟩ := get i _ (List.getElem?_eq_getElem hlt)
    exact ⟨vs, w', SqL.of g, w1⟩
  · obtain ⟨T, x, rfl, hT, rfl, hy⟩ := y
    obtain ⟨vs, g, len, get⟩ := items HP' σ' H' env' as' [] R' s
    have hd' := List.getElem?_eq_getElem hi
    obtain ⟨w', w1, w2⟩ := get i _ hd'
    have ev : x = w' := Option.some.inj ((hy vs (SqL.of g)).symm.trans w1)
    subst ev
    have e : xs.getD i .none = xs[i] := by simp [List.getD_eq_getElem?_getD, hd']
    rw [e] at k
    exact it_pair (s1 := .sh (.int (i : Nat))) hio1 hio2 R' hT ⟨.int _, rfl⟩ w2 hl Q k
theorem it_zip {a b : Addr} {xs ys : List PyData} {f f2 : PyData → Sl} (hio1 : j1 ∉ C.io) (hio2 : j2 ∉ C.io) (items : Items K C HP1 a xs f) (items2 : Items K C HP1 b ys f2) :
    ItOk K C (Itz K a b) (gTup K 2 (gNames [j1, j2])) [j1, j2] HP1 (min xs.length ys.length) fun i n => (n.set j1 (some (f (xs.getD i .none)))).set j2 (some (f2 (ys.getD i .none))) := by
  refine ⟨fun i σ' H' HP' env' as' R' s => ?_, fun i σ' H' HP' env' as' v H'' R' s hi hl y Q k => ?_⟩
  · obtain ⟨vs, g, len, get⟩ := items HP' σ' H' env' as' [] R' s
    obtain ⟨ws, g', len', get'⟩ := items2 HP' σ' H' env' as' [] R' s
    refine ⟨fun hlt => ?_, fun hge => ⟨vs, ws, SqL.of g, SqL.of g', by omega⟩⟩
    obtain ⟨w, w1, _⟩ := get i _ (List.getElem?_eq_getElem (by omega))
    obtain ⟨w', w1', _⟩ := get' i _ (List.getElem?_eq_getElem (by omega))
    exact ⟨vs, ws, w, w', SqL.of g, SqL.of g', w1, w1'⟩
  · obtain ⟨T, x, y', rfl, hT, rfl, hy, hy'⟩ := y
    obtain ⟨vs, g, len, get⟩ := items HP' σ' H' env' as' [] R' s
    obtain ⟨ws, g', len', get'⟩ := items2 HP' σ' H' env' as' [] R' s
    have hd : xs[i]? = some xs[i] := List.getElem?_eq_getElem (by omega)
    have hd' : ys[i]? = some ys[i] := List.getElem?_eq_getElem (by omega)
    obtain ⟨w, w1, w2⟩ := get i _ hd
    obtain ⟨w', w1', w2'⟩ := get' i _ hd'
    have ev : x = w := Option.some.inj ((hy vs (SqL.of g)).symm.trans w1)
    have ev' : y' = w' := Option.some.inj ((hy' ws (SqL.of g')).symm.trans w1')
    subst ev ev'
    have e : xs.getD i .none = xs[i] := by simp [List.getD_eq_getElem?_getD, hd]
    have e' : ys.getD i .none = ys[i] := by simp [List.getD_eq_getElem?_getD, hd']
    rw [e, e'] at k
    exact it_pair hio1 hio2 R' hT w2 w2' hl Q k
end

def iRng (rng : En → List Vl → Option (Int × Int)) (ta : DA) (j : Nat) : DI := fun ex env R => ta ex env fun vals n0 => ∃ lo hi : Int, rng n0 vals = some (lo, hi) ∧ RB lo ∧ RB hi ∧ R (hi - lo).toNat (fun i n => n.set j (some (.sh (.int (lo + i))))) n0
def iLst (te : DE) (j : Nat) : DI := fun ex env R => te ex env fun v n0 => ∃ xs f n1, walkL n0 v = some (xs, f, n1) ∧ R xs.length (fun i n => n.set j (some (f (xs.getD i .none)))) n1
def iSt (te : DE) (j : Nat) : DI := fun ex env R => te ex env fun v n0 => ∃ x, dat n0 v = some (.str x) ∧ R (chs x).length (fun i n => n.set j (some (.sh (.str ((chs x).getD i ⟨#[]⟩))))) n0
def iEnm (ta : DA) (j1 j2 : Nat) : DI := fun ex env R => ta ex env fun vals n0 => ∃ v xs f n1, vals = [v] ∧ walkL n0 v = some (xs, f, n1) ∧ R xs.length (fun i n => (n.set j1 (some (.sh (.int i)))).set j2 (some (f (xs.getD i .none)))) n1
def iZp (ta : DA) (j1 j2 : Nat) : DI := fun ex env R => ta ex env fun vals n0 => ∃ v w xs f n1 ys f2 n2, vals = [v, w] ∧ walkL n0 v = some (xs, f, n1) ∧ walkL n1 w = some (ys, f2, n2) ∧ R (min xs.length ys.length) (fun i n => (n.set j1 (some (f (xs.getD i .none)))).set j2 (some (f2 (ys.getD i .none)))) n2
section
variable {X : Cx} {C : Ct} {W : WX} {tg : Expr} {j j1 j2 : Nat} {pos p tpos : Pos} {ta : DA} {te : DE} {a b e e2 : Expr} {elts : List Expr} {kk : Nat}
theorem di_rng1 (hm : X.mg "range" = none) (ha : DPA X C W [a] ta) (hg : Gl X "range" := by rfl) (hs : starEach [a] X.env = [(false, eval a X.env)] := by rfl) (hio : j ∉ C.io := by exact of_decide_eq_true rfl) : DPI X C W tg (.Call (.Name "range" p) [a] [] pos) [j] (gName j) (iRng rng1 ta j) := by
  refine ⟨(pi_range1 hg hm ha.run hs).imp fun σ H R ⟨HP, env, as, Rl, h⟩ => ⟨HP, env, as, Rl, ha.mono _ _ env _ _ (fun _ _ z => z) (fun vals n q => ?_) h⟩, fun ex ex' env Q Q' hx hq h => ha.mono ex ex' env _ _ hx (fun vals n ⟨lo, hi, h1, h2, h3, h4⟩ => ⟨lo, hi, h1, h2, h3, hq _ _ _ h4⟩) h⟩
  intro vs HP1 H1 as1 ts R1 x1 V
  obtain ⟨lo, hi, e, h2, h3, q⟩ := q
  unfold rng1 at e
  split at e
  · split at e
    · rename_i i e1
      cases Option.some.inj e
      obtain ⟨y, rfl, V'⟩ := V.one
      have w := R1.rp V' e1
      cases w
      have z := q (Itr 0 (hi - 0).toNat) HP1 H1 as1 R1.nots x1.cut (it_range hio)
      exact ⟨hi, rfl, h3.1, h3.2, by simpa using z⟩
    · cases e
  · cases e
theorem di_rng2 (hm : X.mg "range" = none) (ha : DPA X C W [a, b] ta) (hg : Gl X "range" := by rfl) (hs : starEach [a, b] X.env = [(false, eval a X.env), (false, eval b X.env)] := by rfl) (hs2 : starEach [b] X.env = [(false, eval b X.env)] := by rfl) (hio : j ∉ C.io := by exact of_decide_eq_true rfl) : DPI X C W tg (.Call (.Name "range" p) [a, b] [] pos) [j] (gName j) (iRng rng2 ta j) := by
  refine ⟨(pi_range2 hg hm ha.run hs hs2).imp fun σ H R ⟨HP, env, as, Rl, h⟩ => ⟨HP, env, as, Rl, ha.mono _ _ env _ _ (fun _ _ z => z) (fun vals n q => ?_) h⟩, fun ex ex' env Q Q' hx hq h => ha.mono ex ex' env _ _ hx (fun vals n ⟨lo, hi, h1, h2, h3, h4⟩ => ⟨lo, hi, h1, h2, h3, hq _ _ _ h4⟩) h⟩
  intro vs HP1 H1 as1 ts R1 x1 V
  obtain ⟨lo, hi, e, h2, h3, q⟩ := q
  unfold rng2 at e
  split at e
  · split at e
    · rename_i i j' e1 e2
      cases Option.some.inj e
      obtain ⟨y1, y2, t1, t2, rfl, rfl, V1, V2⟩ := V.two
      have w1 := R1.rp V1 e1
      have w2 := R1.rp V2 e2
      cases w1; cases w2
      exact ⟨lo, hi, rfl, ⟨h2.1, h2.2, h3.1, h3.2⟩, q _ HP1 H1 as1 R1.nots x1.cut (it_range hio)⟩
    · cases e
  · cases e
theorem di_lst (he : DP X C W e te) (hio : j ∉ C.io := by exact of_decide_eq_true rfl) : DPI X C W tg e [j] (gName j) (iLst te j) := by
  refine ⟨(pi_list he.run).imp fun σ H R ⟨HP, env, as, Rl, h⟩ => ⟨HP, env, as, Rl, he.mono _ _ env _ _ (fun _ _ z => z) (fun v n q => ?_) h⟩, fun ex ex' env Q Q' hx hq h => he.mono ex ex' env _ _ hx (fun vals n ⟨lo, hi, h1, h2, h3⟩ => ⟨lo, hi, h1, h2, hq _ _ _ h3⟩) h⟩
  intro y HP1 H1 as1 ts R1 x1 V
  obtain ⟨xs, f, n1, e1, q⟩ := q
  obtain ⟨a, HP2, as2, rfl, R2, x2, items⟩ := R1.walk V e1
  obtain ⟨vs0, g0, _, _⟩ := items HP2 σ H1 n1 as2 [] R2 (Same.refl _)
  exact ⟨a, rfl, ⟨_, SqL.of g0⟩, q _ HP2 H1 as2 R2 (x1.trans x2) (it_list hio items)⟩
theorem di_str (he : DP X C W e te) (hio : j ∉ C.io := by exact of_decide_eq_true rfl) : DPI X C W tg e [j] (gName j) (iSt te j) := by
  refine ⟨(pi_str he.run).imp fun σ H R ⟨HP, env, as, Rl, h⟩ => ⟨HP, env, as, Rl, he.mono _ _ env _ _ (fun _ _ z => z) (fun v n q => ?_) h⟩, fun ex ex' env Q Q' hx hq h => he.mono ex ex' env _ _ hx (fun vals n ⟨x, h1, h2⟩ => ⟨x, h1, hq _ _ _ h2⟩) h⟩
  intro y HP1 H1 as1 ts R1 x1 V
  obtain ⟨x, e1, q⟩ := q
  have w := R1.rp V e1
  cases w
  exact ⟨x, rfl, q _ HP1 H1 as1 R1.nots x1.cut (it_str hio)⟩
theorem di_enum (hm : X.mg "enumerate" = none) (ha : DPA X C W [e] ta) (hgl : Gl X "enumerate" := by rfl) (hs : starEach [e] X.env = [(false, eval e X.env)] := by rfl) (hio1 : j1 ∉ C.io := by exact of_decide_eq_true rfl) (hio2 : j2 ∉ C.io := by exact of_decide_eq_true rfl) :
    DPI X C W (.Tuple elts kk tpos) (.Call (.Name "enumerate" p) [e] [] pos) [j1, j2] (gTup X.K 2 (gNames [j1, j2])) (iEnm ta j1 j2) := by
  refine ⟨(pi_enum hgl hm ha.run hs).imp fun σ H R ⟨HP, env, as, Rl, h⟩ => ⟨HP, env, as, Rl, ha.mono _ _ env _ _ (fun _ _ z => z) (fun v n q => ?_) h⟩, fun ex ex' env Q Q' hx hq h => ha.mono ex ex' env _ _ hx (fun vals n ⟨v, xs, f, n1, h0, h1, h2⟩ => ⟨v, xs, f, n1, h0, h1, hq _ _ _ h2⟩) h⟩
  intro ys HP1 H1 as1 ts R1 x1 V
  obtain ⟨v, xs, f, n1, rfl, e1, q⟩ := q
  obtain ⟨y, rfl, V'⟩ := V.one
  obtain ⟨a, HP2, as2, rfl, R2, x2, items⟩ := R1.walk V' e1
  obtain ⟨vs0, g0, _, _⟩ := items HP2 σ H1 n1 as2 [] R2 (Same.refl _)
  exact ⟨a, _, rfl, SqL.of g0, q _ HP2 H1 as2 R2 (x1.trans x2) (it_enum hio1 hio2 items)⟩
theorem di_zip (hm : X.mg "zip" = none) (ha : DPA X C W [e, e2] ta) (hgl : Gl X "zip" := by rfl) (hs : starEach [e, e2] X.env = (false, eval e X.env) :: starEach [e2] X.env := by rfl) (hpl : (backTo pos (starEach [e2] X.env)).any (·.1) = false := by rfl) (hio1 : j1 ∉ C.io := by exact of_decide_eq_true rfl) (hio2 : j2 ∉ C.io := by exact of_decide_eq_true rfl) :
    DPI X C W (.Tuple elts kk tpos) (.Call (.Name "zip" p) [e, e2] [] pos) [j1, j2] (gTup X.K 2 (gNames [j1, j2])) (iZp ta j1 j2) := by
  refine ⟨(pi_zip hgl hm ha.run hs hpl).imp fun σ H R ⟨HP, env, as, Rl, h⟩ => ⟨HP, env, as, Rl, ha.mono _ _ env _ _ (fun _ _ z => z) (fun v n q => ?_) h⟩, fun ex ex' env Q Q' hx hq h => ha.mono ex ex' env _ _ hx (fun vals n ⟨v, w, xs, f, n1, ys, f2, n2, h0, h1, h2, h3⟩ => ⟨v, w, xs, f, n1, ys, f2, n2, h0, h1, h2, hq _ _ _ h3⟩) h⟩
  intro ys HP1 H1 as1 ts R1 x1 V
  obtain ⟨v, w, xs, f, n1, ys, f2, n2, rfl, e1, e2, q⟩ := q
  obtain ⟨y1, y2, t1, t2, rfl, rfl, V1, V2⟩ := V.two
  obtain ⟨a, HP2, as2, rfl, R2, x2, items⟩ := R1.walkT V1 e1
  obtain ⟨b, HP3, as3, rfl, R3, x3, items2⟩ := R2.walk (RepV.frame x2.ex V2 fun _ _ => rfl) e2
  have items' : Items X.K C HP3 a xs f := fun HP' σ' H' n' as' ts' r s => items HP' σ' H' n' as' ts' r (x3.ex.trans s)
  obtain ⟨vs0, g0, _, _⟩ := items' HP3 σ H1 n2 as3 [] R3 (Same.refl _)
  obtain ⟨vs1, g1, _, _⟩ := items2 HP3 σ H1 n2 as3 [] R3 (Same.refl _)
  exact ⟨a, b, _, _, rfl, SqL.of g0, SqL.of g1, q _ HP3 H1 as3 R3 ((x1.trans x2).trans x3) (it_zip hio1 hio2 items' items2)⟩
end

def dFor (js : List Nat) (ti : DI) (tb : DS) : DS := fun ex env D => ti ex env fun cnt st n1 => ∃ W : Nat → En → Prop, W 0 n1 ∧ (∀ i n, i < cnt → W i n → (∀ j ∈ js, j < n.length) ∧ tb ex (st i n) { D with nx := W (i + 1), ct := W (i + 1), bk := D.nx }) ∧ ∀ n, W cnt n → D.nx n
theorem ds_for {X : Cx} {C : Ct} {W : WX} {tg iter : Expr} {js : List Nat} {g : TG} {ti : DI} {body : List Stmt} {tb : DS} {fp : Pos} (hp : PassesOwn (model X.prog X.w) X.A X.env X.xe) (hc : X.calm = true) (hi : DPI X C W tg iter js g ti) (hg : PG X tg g) (hb : DPB X C W body tb)
    (hfs : ∀ y, foldedSetIterable iter X.env y = pure y := by intro _; rfl) : DPS X C W (.For tg iter body [] fp) (dFor js ti tb) := by
  refine ⟨(ps_for hp hc hi.run hg hb.run hfs).imp fun D σ H ⟨HP, env, as, R, h⟩ => ⟨HP, env, as, R, hi.mono _ _ env _ _ (fun e n z => z.at σ) (fun cnt st n1 q => ?_) h⟩, fun ex ex' env D D' hx hd h => hi.mono ex ex' env _ _ hx (fun cnt st n1 ⟨W, w0, hs, hd2⟩ => ⟨W, w0, fun i n hl w => ⟨(hs i n hl w).1, hb.mono ex ex' _ { D with nx := W (i + 1), ct := W (i + 1), bk := D.nx } _ hx ⟨fun _ z => z, hd.rt, hd.nx, fun _ z => z⟩ (hs i n hl w).2⟩, fun n w => hd.nx _ (hd2 n w)⟩) h⟩
  intro J HP1 H1 as1 R1 x1 ok
  obtain ⟨Wd, w0, hs, hd⟩ := q
  refine for_core (n := cnt) (st := st) hb.mono Wd R1 w0 (fun i σ' H' HP' env' as' R' s w => ok.good i σ' H' HP' env' as' R' s) (fun i σ' H' HP' env' as' v' H'' R' s hi' w y Q k => ?_) (fun i n hi' w => ?_) fun n w => nxL.from (hd n w) x1
  · exact ok.turn i σ' H' HP' env' as' v' H'' R' s hi' (hs i env' hi' w).1 y Q fun σ2 HP2 H2 as2 r x _ _ => k σ2 HP2 H2 as2 r x
  · exact hb.mono _ _ _ { endsOf X.K C HP H as D with nx := Wd (i + 1), ct := Wd (i + 1), bk := (endsOf X.K C HP H as D).nx } _ (fun e n z => z.from x1) ⟨fun _ z => z, fun _ _ z => rtL.from z x1, fun _ z => nxL.from z x1, fun _ z => z⟩ (hs i n hi' w).2
end L3

namespace L3
open PySem L2

def wipeE (n : En) : List Nat → En
  | [] => n
  | v :: vs => (wipeE n vs).set v none
theorem wipeE_len (n : En) : ∀ vs : List Nat, (wipeE n vs).length = n.length
  | [] => rfl
  | v :: vs => by unfold wipeE; rw [List.length_set, wipeE_len n vs]
theorem wipeE_no {n : En} {v : Nat} {s : Sl} : ∀ {vs : List Nat}, v ∈ vs → (wipeE n vs)[v]? ≠ some (some s)
  | w :: vs, h => by
    unfold wipeE
    by_cases e : w = v
    · subst e
      by_cases hl : w < (wipeE n vs).length
      · rw [List.getElem?_set_self hl]; exact fun z => (by cases z)
      · rw [List.getElem?_eq_none (by simpa using hl)]; exact fun z => (by cases z)
    · rw [List.getElem?_set_ne e]
      exact wipeE_no ((List.mem_cons.mp h).elim (fun z => absurd z.symm e) id)
theorem wipe_in {σ : L2.St} {v : Nat} (hl : v < σ.length) : ∀ {vs : List Nat}, v ∈ vs → (wipe σ vs)[v]? = some none
  | w :: vs, h => by
    unfold wipe
    by_cases e : w = v
    · subst e
      rw [List.getElem?_set_self (by rw [wipe_length]; exact hl)]
    · rw [List.getElem?_set_ne e]
      exact wipe_in hl ((List.mem_cons.mp h).elim (fun z => absurd z.symm e) id)
theorem wipe_eq {σ σ2 : L2.St} {vs : List Nat} (hl : σ2.length = σ.length) (h : ∀ k : Nat, k ∉ vs → σ2[k]? = σ[k]?) : wipe σ2 vs = wipe σ vs := by
  refine List.ext_getElem? fun k => ?_
  by_cases hk : k ∈ vs
  · by_cases hl2 : k < σ.length
    · rw [wipe_in hl2 hk, wipe_in (by rw [hl]; exact hl2) hk]
    · rw [List.getElem?_eq_none (by rw [wipe_length]; omega), List.getElem?_eq_none (by rw [wipe_length]; omega)]
  · rw [wipe_out hk, wipe_out hk]; exact h k hk
section
variable {K : PySem.W.Frag} {C : Ct} {HP H : Hp}
theorem RepE.cong : ∀ {env : En} {σ σ1 : L2.St} {as : List Addr}, RepE K C HP H env σ1 as → σ1.length = σ.length → (∀ (k : Nat) s, env[k]? = some (some s) → σ1[k]? = σ[k]?) → RepE K C HP H env σ as
  | [], σ, σ1, as, h, e, _ => by
    cases σ1 with
    | nil =>
      cases σ with
      | nil => exact h
      | cons _ _ => cases e
    | cons _ _ => exact h.elim
  | s :: env, σ, [], _, h, _, _ => h.elim
  | s :: env, [], _ :: _, _, _, e, _ => by cases e
  | s :: env, v :: σ, v1 :: σ1, as, ⟨a1, a2, e1, h1, h2⟩, e, k => by
    refine ⟨a1, a2, e1, ?_, RepE.cong h2 (by simpa using e) fun m s' hm => by have := k (m + 1) s' (by simpa using hm); simpa using this⟩
    cases s with
    | none => exact h1
    | some s =>
      have := k 0 s rfl
      have e2 : v1 = v := by simpa using this
      rw [← e2]; exact h1
theorem Rel.cong {σ σ1 : L2.St} {env : En} {as ts : List Addr} (r : Rel K C HP σ1 H env as ts) (hl : σ1.length = σ.length) (h : ∀ (k : Nat) s, env[k]? = some (some s) → σ1[k]? = σ[k]?) (hp : ∀ k ∈ C.io, σ1[k]? = σ[k]?) : Rel K C HP σ H env as ts :=
  ⟨r.exP, r.exB, r.rep.cong hl h, r.nd, r.own, fun k hk => by rw [← hp k hk]; exact r.pin k hk⟩
theorem Rel.wipeE {σ : L2.St} {n : En} : ∀ {vs : List Nat} {as ts : List Addr}, Rel K C HP σ H n as ts → ∃ as', Rel K C HP σ H (L3.wipeE n vs) as' ts ∧ ∀ a ∈ as', a ∈ as
  | [], as, ts, r => ⟨as, r, fun _ h => h⟩
  | v :: vs, as, ts, r => by
    obtain ⟨as1, r1, h1⟩ := Rel.wipeE (vs := vs) r
    obtain ⟨as2, r2, h2⟩ := Rel.clr (i := v) r1
    exact ⟨as2, r2, fun a h => h1 a (h2 a h)⟩
/-- the block's start: its own names forgotten -/
theorem Rel.blk {σ σ2 : L2.St} {n : En} {vs : List Nat} {as ts : List Addr} (r : Rel K C HP σ2 H n as ts) (hl : σ2.length = σ.length) (h : ∀ k : Nat, k ∉ vs → σ2[k]? = σ[k]?) (hio : ∀ v ∈ vs, v ∉ C.io) : ∃ as', Rel K C HP (wipe σ vs) H (L3.wipeE n vs) as' ts ∧ ∀ a ∈ as', a ∈ as := by
  obtain ⟨as', r1, m1⟩ := Rel.wipeE (vs := vs) r
  refine ⟨as', r1.cong (by rw [wipe_length]; exact hl) (fun k s e => ?_) fun k hk => ?_, m1⟩
  · have : k ∉ vs := fun z => wipeE_no z e
    rw [wipe_out this]; exact h k this
  · have : k ∉ vs := fun z => hio k z hk
    rw [wipe_out this]; exact h k this
theorem Rel.mutT {σ : L2.St} {n : En} {as : List Addr} {D : Addr} {o : HO} (r : Rel K C HP σ H n as [D]) : Rel K C HP σ (upd H D o) n as [D] ∧ Stp HP H (as ++ [D]) HP (upd H D o) (as ++ [D]) := by
  have q := r.own D (by simp)
  have ne : ∀ b ∈ as, b ≠ D := fun b hb z => (List.nodup_append.mp r.nd).2.2 b hb D (by simp) z
  refine ⟨⟨fun b u e => ?_, fun b u e => ?_, r.rep.frame (Same.refl _) fun b hb => upd_ne (ne b hb), r.nd, fun b hb => ?_, r.pin⟩, Same.refl _, fun b u e n => ?_, fun b h => .inl h, fun _ _ h => .inl h, fun b h => ?_⟩
  · rw [upd_ne (fun z => by subst z; rw [q.1] at e; cases e)]; exact r.exP b u e
  · rw [upd_ne (fun z => by subst z; rw [q.2.1] at e; cases e)]; exact r.exB b u e
  · have w := r.own b hb
    refine ⟨w.1, w.2.1, ?_⟩
    by_cases z : b = D
    · rw [z, upd_same]; exact fun q => nomatch q
    · rw [upd_ne z]; exact w.2.2
  · rw [upd_ne (fun z => n (by rw [z]; simp))]; exact e
  · by_cases z : b = D
    · rw [z, upd_same] at h; cases h
    · rw [upd_ne z] at h; exact h
end

def W0 : WX := fun _ _ _ _ => False
def exF : DX := fun _ _ => False
structure DPTs (X : Cx) (C : Ct) (ifs : List Expr) (t : DT) : Prop where
  run : PTs X ifs (liftT X.K C W0 t)
  mono : MonoT t
def dYes : DT := fun _ env Q => Q true env
theorem dts_nil {X : Cx} {C : Ct} : DPTs X C [] dYes := ⟨⟨fun _ _ σ H Q I h => wpAny_tests_nil (by
  obtain ⟨HP, env, as, R, h⟩ := h
  exact ⟨H, I, h HP H as R Stp.refl⟩)⟩, fun ex ex' env Q Q' hx hq h => hq _ _ h⟩
theorem dts_one {X : Cx} {C : Ct} {c : Expr} {t : DT} (h : DPT X C W0 c t) : DPTs X C [c] t := ⟨pts_one h.run, h.mono⟩
/-- the i-th turn, from the list so far -/
def dLc (vs js : List Nat) (ti : DI) (tt : DT) (te : DE) : DE := fun ex env Q => ti ex env fun cnt st n1 => (cnt ≤ sizeLine ∧ ∀ j ∈ js, j < n1.length) ∧ ∃ Wd : Nat → List PyData → En → Prop, Wd 0 [] (wipeE n1 vs) ∧
  (∀ (i : Nat) acc n, i < cnt → Wd i acc n → tt exF (st i n) fun b n2 => if b = true then te exF n2 fun v n3 => ∃ d n4, share v n3 = some (d, n4) ∧ Wd (i + 1) (acc ++ [d]) (wipeE n4 vs) else Wd (i + 1) acc (wipeE n2 vs)) ∧ ∀ acc n, Wd cnt acc n → Q (.tmp (.own acc)) n
section
variable {X : Cx} {C : Ct} {W : WX} {elt tg iter : Expr} {ifs : List Expr} {scope : Scope} {own : List (Str × Nat)} {pos : Pos} {js : List Nat} {g : TG} {ti : DI} {tt : DT} {te : DE}
theorem mono_lc {vs : List Nat} (mi : MonoI ti) : MonoE (dLc vs js ti tt te) := fun ex ex' env Q Q' hx hq h => mi ex ex' env _ _ hx (fun cnt st n1 ⟨h1, Wd, h2, h3, h4⟩ => ⟨h1, Wd, h2, h3, fun acc n w => hq _ _ (h4 acc n w)⟩) h
theorem lift_lc {K : PySem.W.Frag} {wi : TI} (vs : List Nat) (mi : MonoI ti) (mt : MonoT tt) (me : MonoE te) (hjs : ∀ j ∈ js, j ∈ vs) (hio : ∀ v ∈ vs, v ∉ C.io)
    (hwi : ∀ σ H R, (∃ HP env as, Rel K C HP σ H env as [] ∧ ti (lX K C W σ HP H as) env fun cnt st n1 => ∀ (J : It) (HP1 H1 : Hp) (as1 : List Addr), Rel K C HP1 σ H1 n1 as1 [] → Stp HP H as HP1 H1 as1 → ItOk K C J g js HP1 cnt st → R J H1) → wi σ H R)
    {σ : L2.St} {H : Hp} {Q : VK} (h : lift K C W (dLc vs js ti tt te) σ H Q) : tLc wi g (liftT K C W0 tt) (lift K C W0 te) vs σ H Q := by
  obtain ⟨HP, env, as, R, h⟩ := h
  refine hwi _ _ _ ⟨HP, env, as, R, mi _ _ env _ _ (fun _ _ z => z) (fun cnt st n1 q => ?_) h⟩
  intro J HP1 H1 as1 R1 x1 ok D hD
  obtain ⟨⟨hc, hl⟩, Wd, w0, turn, done⟩ := q
  obtain ⟨as1w, R1w, m1⟩ := R1.blk (σ := σ) (vs := vs) rfl (fun _ _ => rfl) hio
  have R1d := R1w.newT (o := .lst []) hD
  refine ⟨fun i m H => m = cnt - i ∧ i ≤ cnt ∧ ∃ HP' n' as' acc vacc, Rel K C HP' (wipe σ vs) H n' as' [D] ∧ H D = some (.lst vacc) ∧ RpAll HP' vacc acc ∧ acc.length ≤ i ∧ Stp HP1 H1 as1 HP' H (as' ++ [D]) ∧ (∀ v ∈ vs, ∀ s, n'[v]? ≠ some (some s)) ∧ Wd i acc n',
    ⟨cnt, by simp, Nat.zero_le _, HP1, _, as1w, [], [], R1d, upd_same, .nil, Nat.le_refl _, Stp.newT hD fun a ha => ?_, fun v hv s => wipeE_no hv, w0⟩, ?_⟩
  · rcases List.mem_append.mp ha with z | z
    · exact .inl (m1 a z)
    · exact .inr (by simpa using z)
  rintro i m H' ⟨rfl, hi, HP', n', as', acc, vacc, R', hD', ra, la, x', wn, wd⟩
  by_cases hlt : i < cnt
  · refine .inr ⟨(ok.good i _ _ _ _ _ R'.nots x'.ex).1 hlt, fun H'' => ∃ HP' n' as' acc vacc, Rel K C HP' (wipe σ vs) H'' n' as' [D] ∧ H'' D = some (.lst vacc) ∧ RpAll HP' vacc acc ∧ acc.length ≤ i + 1 ∧ Stp HP1 H1 as1 HP' H'' (as' ++ [D]) ∧ (∀ v ∈ vs, ∀ s, n'[v]? ≠ some (some s)) ∧ Wd (i + 1) acc n',
      fun H'' p => ⟨cnt - (i + 1), by omega, rfl, hlt, p⟩, fun x H'' y => ?_⟩
    have len' : n'.length = n1.length := by
      have e1 := R'.rep.len
      have e2 := R1.rep.len
      rw [wipe_length] at e1
      omega
    refine ok.turn i _ _ _ _ _ x H'' R'.nots x'.ex hlt (fun j hj => by rw [len']; exact hl j hj) y _ fun σ2 HP2 H2 as2 R2 x2 l2 k2 => ?_
    have out : ∀ k : Nat, k ∉ vs → σ2[k]? = σ[k]? := fun k hk => by rw [k2 k fun z => hk (hjs k z), wipe_out hk]
    have ls : σ2.length = σ.length := by rw [l2, wipe_length]
    obtain ⟨R2d, s2, x2d⟩ := R'.pend (σ' := wipe σ vs) (by rw [List.append_nil]; exact x2) R2
    refine ⟨wipe_eq ls out, HP2, st i n', as2, R2, mt _ _ _ _ _ (fun _ _ z => False.elim z) (fun b n2 q => ?_) (turn i acc n' hlt wd)⟩
    intro HP3 H3 as3 R3 x3
    obtain ⟨R3d, s3, x3d⟩ := R2d.pend (by rw [List.append_nil]; exact x3) R3
    have hD3 : H3 D = some (.lst vacc) := by rw [s3 D (by simp), s2 D (by simp)]; exact hD'
    have x13 := (x'.trans x2d).trans x3d
    cases b with
    | false =>
      refine iteF ?_
      obtain ⟨as4, R4, m4⟩ := R3d.blk (σ := σ) (vs := vs) ls out hio
      refine ⟨HP3, _, as4, acc, vacc, by simpa using R4, hD3, ra.mono (x2.ex.trans x3.ex), by omega, x13.less fun a ha => ?_, fun v hv s => wipeE_no hv, q⟩
      rcases List.mem_append.mp ha with z | z
      · exact List.mem_append_left _ (m4 a z)
      · exact List.mem_append_right _ (by simpa using z)
    | true =>
      refine iteT ⟨HP3, n2, as3, R3, me _ _ _ _ _ (fun _ _ z => False.elim z) (fun val n3 q => ?_) q⟩
      intro w HP4 H4 as4 ts4 R4 x4 V4
      obtain ⟨d, n4, e4, q⟩ := q
      obtain ⟨R4d, s4, x4d⟩ := R3d.pend x4 R4
      have hD4 : H4 D = some (.lst vacc) := by rw [s4 D (by simp)]; exact hD3
      have R4p : Rel K C HP4 σ2 H4 n3 as4 (ts4 ++ [D]) := R4d.perm (by simpa using (List.perm_append_comm (l₁ := [D]) (l₂ := ts4)))
      obtain ⟨HP5, as5, R5, g5, x5⟩ := R4p.share V4 e4
      obtain ⟨as6, R6, m6⟩ := R5.blk (σ := σ) (vs := vs) ls out hio
      obtain ⟨R7, x7⟩ := R6.mutT (o := .lst (vacc ++ [w]))
      have ra5 : RpAll HP5 vacc acc := ra.mono (((x2.ex.trans x3.ex).trans x4.ex).trans x5.ex)
      have x15 : Stp HP1 H1 as1 HP5 H4 (as6 ++ [D]) := ((x13.trans x4d).trans (x5.from fun a ha => by simp at ha ⊢; rcases ha with z | z | z <;> simp [z])).less fun a ha => by
        rcases List.mem_append.mp ha with z | z
        · exact List.mem_append_left _ (m6 a z)
        · exact List.mem_append_right _ z
      exact ⟨vacc, hD4, by rw [ra5.length]; omega, HP5, _, as6, acc ++ [d], vacc ++ [w], R7, upd_same, ra5.append (.cons g5 .nil), by simp; omega, x15.trans x7, fun v hv s => wipeE_no hv, q⟩
  · have e : i = cnt := by omega
    subst e
    refine .inl ⟨(ok.good i _ _ _ _ _ R'.nots x'.ex).2 (Nat.le_refl _), ?_⟩
    have Rf : Rel K C HP' σ H' n' as' [D] := R'.cong (wipe_length σ vs) (fun k s e => wipe_out fun z => wn k z s e) fun k hk => wipe_out fun z => hio k z hk
    exact done acc n' wd (.ref D) HP' H' as' [D] Rf (x1.trans x') ⟨D, vacc, rfl, rfl, hD', ra⟩
theorem do_lc (hc : X.calm = true) (hN : X.N.Nodup) (own : List (Str × Nat)) (hi : DPI X C W tg iter js g ti) (ok : BlkOk X.N X.env.scope scope own)
    (hg : ∀ (s : Shared) (H : Hp) (Cc : Addr) (cl : List (Str × Addr)) (fp : List Addr), PG (X.blk s H scope (compEnvC scope cl Cc X.env) fp) tg g) (ht : ∀ (s : Shared) (H : Hp) (Cc : Addr) (cl : List (Str × Addr)) (fp : List Addr), DPTs (X.blk s H scope (compEnvC scope cl Cc X.env) fp) C ifs tt)
    (he : ∀ (s : Shared) (H : Hp) (Cc : Addr) (cl : List (Str × Addr)) (fp : List Addr), DP (X.blk s H scope (compEnvC scope cl Cc X.env) fp) C W0 elt te) (hjs : ∀ j ∈ js, j ∈ own.map (·.2) := by exact of_decide_eq_true rfl) (hio : ∀ v ∈ own.map (·.2), v ∉ C.io := by exact of_decide_eq_true rfl) (hs : ∀ x, foldedSetIterable iter X.env x = pure x := by intro _; rfl) :
    DP X C W (.ListComp elt [⟨tg, iter, ifs, 0⟩] scope pos) (dLc (own.map (·.2)) js ti tt te) :=
  ⟨(pe_lc (tt := liftT X.K C W0 tt) (te := lift X.K C W0 te) hc hN hi.run ok hg (fun s H Cc cl fp => (ht s H Cc cl fp).run) (fun s H Cc cl fp => (he s H Cc cl fp).run) hs).imp fun σ H Q h => lift_lc _ hi.mono (ht X.s_0 X.H_0 0 [] []).mono (he X.s_0 X.H_0 0 [] []).mono hjs hio (fun _ _ _ z => z) h, mono_lc hi.mono⟩
/-- name = [..], on one line, the name no cell -/
theorem ds_setLc {i : Nat} {y : Str} {py spos : Pos} (hc : X.calm = true) (hN : X.N.Nodup) (own : List (Str × Nat)) (hi : DPI X C W tg iter js g ti) (ok : BlkOk X.N X.env.scope scope own)
    (hg : ∀ (s : Shared) (H : Hp) (Cc : Addr) (cl : List (Str × Addr)) (fp : List Addr), PG (X.blk s H scope (compEnvC scope cl Cc X.env) fp) tg g) (ht : ∀ (s : Shared) (H : Hp) (Cc : Addr) (cl : List (Str × Addr)) (fp : List Addr), DPTs (X.blk s H scope (compEnvC scope cl Cc X.env) fp) C ifs tt)
    (he : ∀ (s : Shared) (H : Hp) (Cc : Addr) (cl : List (Str × Addr)) (fp : List Addr), DP (X.blk s H scope (compEnvC scope cl Cc X.env) fp) C W0 elt te) (hsw : swapsWith (.ListComp elt [⟨tg, iter, ifs, 0⟩] scope pos) (some (.Name y py)) spos.line X.env = pure true)
    (hy : X.N[i]? = some y := by rfl) (hyl : X.env.scope.names.lookup y = some .local := by rfl) (hjs : ∀ j ∈ js, j ∈ own.map (·.2) := by exact of_decide_eq_true rfl) (hio : ∀ v ∈ own.map (·.2), v ∉ C.io := by exact of_decide_eq_true rfl) (hs : ∀ x, foldedSetIterable iter X.env x = pure x := by intro _; rfl) (hiy : i ∉ C.io := by exact of_decide_eq_true rfl) :
    DPS X C W (.Assign [.Name y py] (.ListComp elt [⟨tg, iter, ifs, 0⟩] scope pos) spos) (dSet i (dLc (own.map (·.2)) js ti tt te)) := by
  have m : MonoE (dLc (own.map (·.2)) js ti tt te) := mono_lc hi.mono
  refine ⟨(ps_setLc (tt := liftT X.K C W0 tt) (te := lift X.K C W0 te) hc hN hy hyl hsw hi.run ok hg (fun s H Cc cl fp => (ht s H Cc cl fp).run) (fun s H Cc cl fp => (he s H Cc cl fp).run) hs).imp fun D σ H ⟨HP, env, as, R, h⟩ => ?_, fun ex ex' env D D' hx hd h => m ex ex' env _ _ hx (fun v n q => q.imp hd.nx) h⟩
  refine lift_lc (W := W) (K := X.K) _ hi.mono (ht X.s_0 X.H_0 0 [] []).mono (he X.s_0 X.H_0 0 [] []).mono hjs hio (fun _ _ _ z => z) ⟨HP, env, as, R, m _ _ env _ _ (fun e n z => z.at σ) (fun v n q => ?_) h⟩
  intro v' HP' H' as' ts' R' x V
  have R2 : Rel X.K C HP' σ H' n as' (ts' ++ []) := by rw [List.append_nil]; exact R'
  obtain ⟨HP2, env2, as2, R3, x2, p⟩ := R2.asg V q hiy
  rw [List.append_nil, List.append_nil] at x2
  exact p _ HP2 H' as2 R3 (x.trans x2)
end
end L3

namespace L3
open PySem PySem.Spec PyProof.Rows L2
set_option maxRecDepth 100000 in
theorem setItem_part {prog : Program} {w : World} {A : Around} {E : Value → Shared → Prop} {s : Shared} {lo hi : Option Int} {l b sl : Addr} {items new : Array Value} {n n2 : Nat} {vl vu : Value} {a c : Nat} {Q : Unit → Shared → Prop}
    (e : s.heap.get? l = some { cls := .type "list", data := .seq items n }) (e2 : s.heap.get? b = some { cls := .type "list", data := .seq new n2 }) (hne : l ≠ b)
    (hs : s.heap.IsSliceOf sl vl vu .none) (pl : IsPart vl lo) (pu : IsPart vu hi) (hbd : sliceBounds lo hi none items.size = ((a : Int), (c : Int), 1)) (hac : a ≤ c) (hc : c ≤ items.size)
    (hsz : items.size + new.size ≤ sizeLine) (h : Q () { s with heap := s.heap.update l (Obj.mapSeq fun xs => xs.extract 0 a ++ new ++ xs.extract c xs.size) }) :
    wpAny (model prog w) A (setItem (.ref l) (.ref sl) (.ref b)) Q E s := by
  have hl : s.heap.IsList l items := PySem.IsL.isList e
  have hb : s.heap.IsList b new := PySem.IsL.isList e2
  obtain ⟨os, hos, hcs, hds⟩ := id hs
  have hTs : s.TypeIs (.ref sl) "slice" := ⟨os, hos, hcs⟩
  have hstep : ¬ ((rawPart none == rawInt 0) = true) := Bool.false_ne_true
  have hsame : Builtin.List.listSameRef (.ref l) (.ref b) = false := by
    unfold Builtin.List.listSameRef
    exact beq_eq_false_iff_ne.mpr hne
  have hmax : (max (a : Int) (c : Int)).toNat = c := by omega
  have hz' : ((fun xs : Array Value => xs.extract 0 a ++ new ++ xs.extract c xs.size) items).size ≤ sizeLine + 1 := by
    simp only [Array.size_append, Array.size_extract]
    omega
  unfold setItem
  try with_reducible refine wpAny_holding ?_
  first | refine wpAny_bind (wpAny_pure ?_) | skip
  refine wpAny_bind (wpAny_sequenceKey hl.typeIs (by decide) ?_)
  refine wpAny_bind (wpAny_callSpecial?_slot (name := Str.ofString "__setitem__") hl.typeIs slot_list_setitem
    (wpAny_call_entry slot_list_setitem hl.typeIs entry_list_setitem ?_ (args_list_setitem _ _ _)))
  show wpAny _ _ (Builtin.List.listSubscript? (.ref sl) >>= _) _ _ s
  refine wpAny_bind ?_
  unfold Builtin.List.listSubscript?
  refine wpAny_bind (wpAny_specialOf hTs slice_no_index ?_)
  simp only [Option.isNone_none, if_true]
  refine wpAny_pure ?_
  show wpAny _ _ (typeOf (.ref sl) >>= _) _ _ s
  refine wpAny_bind (wpAny_typeOf hTs ?_)
  first
    | rw [if_neg (by decide)]
    | refine PySem.W.KFB.if_not (by decide) ?_
  rw [listSliceParts_eq]
  refine wpAny_bind (wpAny_bind (wpAny_field hos hds (x := .none) rfl (wpAny_bind (wpAny_listPart .none ?_))))
  rw [if_neg hstep]
  refine wpAny_bind (wpAny_field hos hds (x := vl) rfl (wpAny_bind (wpAny_listPart pl ?_)))
  refine wpAny_bind (wpAny_field hos hds (x := vu) rfl (wpAny_bind (wpAny_listPart pu (wpAny_pure ?_))))
  first
    | simp only [hsame, Bool.false_eq_true, if_false]
    | refine PySem.W.KFB.if_not hsame ?_
    | (dsimp only
       rw [if_neg (by rw [hsame]; exact Bool.false_ne_true)])
  refine wpAny_bind (m := Builtin.List.listAllItems (.ref b) "must assign iterable to extended slice") ?_
  unfold Builtin.List.listAllItems
  refine wpAny_bind (wpAny_typeOf hb.typeIs ?_)
  first
    | refine PySem.W.KFB.if_so (by decide) ?_
    | rw [if_pos (by decide)]
    | simp only [beq_self_eq_true, Bool.true_or, if_true]
  unfold Builtin.List.listItems
  refine wpAny_bind (wpAny_seqItems e2 rfl (wpAny_pure ?_))
  refine wpAny_bind (wpAny_bind (wpAny_seqItems e rfl (wpAny_pure ?_)))
  refine wpAny_bind (wpAny_of_eq ((sliceIndices_raw lo hi none items.size (by simp)).trans (congrArg (pure : Int × Int × Int → Sem (Int × Int × Int)) hbd)) ?_)
  show wpAny _ _ (if ((1 : Int) == 1) = true then _ else _) _ _ s
  rw [if_pos (by decide)]
  refine wpAny_bind (wpAny_rule ?_)
  first
    | simp only [notLongL hsz, Bool.false_eq_true, if_false]
    | refine PySem.W.KFB.if_not (notLongL hsz) ?_
  first | refine wpAny_bind (wpAny_pure ?_) | skip
  show wpAny _ _ (updateSeq l (fun xs => xs.extract 0 ((a : Int)).toNat ++ new ++ xs.extract (max (a : Int) (c : Int)).toNat xs.size) >>= _) _ _ s
  rw [hmax, Int.toNat_natCast]
  refine wpAny_bind (wpAny_updateSeq (hz := Nat.le_trans (Nat.le_add_right _ _) hsz) (_hz' := hz') e rfl ?_)
  refine wpAny_bind (wpAny_letGo ?_)
  first
    | exact wpAny_bind (wpAny_pure (wpAny_pure ⟨.none, rfl, wpAny_pure h⟩))
    | exact wpAny_pure ⟨.none, rfl, wpAny_pure h⟩
theorem bounds_all (n : Nat) : sliceBounds none none none n = (((0 : Nat) : Int), (n : Int), 1) := by
  simp [sliceBounds]
section
variable {X : Cx}
theorem set_all {pins : List (Addr × Obj)} {s : Shared} {σ : L2.St} {H : Hp} {l b sl : Addr} {xs ys : List V} {Q : Unit → Shared → Prop} (I : Inv X pins σ H s)
    (hH : H l = some (.lst xs)) (hB : H b = some (.lst ys)) (hne : l ≠ b) (hs : s.heap.IsSliceOf sl .none .none .none)
    (hz : xs.length + ys.length ≤ sizeLine) (h : ∀ s', Inv X pins σ (upd H l (.lst ys)) s' → Q () s') :
    wpAny (model X.prog X.w) X.A (setItem (.ref l) (.ref sl) (.ref b)) Q X.xe s := by
  obtain ⟨z, its, n, r, hl, e⟩ := I.lstM hH
  obtain ⟨z2, its2, n2, r2, hl2, e2⟩ := I.lstM hB
  have hl' : its.toArray.size = xs.length := by rw [List.size_toArray]; omega
  refine setItem_part (a := 0) (c := its.toArray.size) e e2 hne hs .none .none (bounds_all _) (Nat.zero_le _) (Nat.le_refl _) (by rw [List.size_toArray, List.size_toArray]; omega) (h _ ?_)
  refine I.lset (its' := its2) (t' := s.toks) hH e ?_ r2 z2
  apply Array.toList_inj.mp
  simp
/-- the target x[:] -/
def gAll (i : Nat) : TG := fun v σ H Q => ∃ l b xs ys, σ[i]? = some (some (.ref l)) ∧ v = .ref b ∧ H l = some (.lst xs) ∧ H b = some (.lst ys) ∧ l ≠ b ∧ xs.length + ys.length ≤ sizeLine ∧ Q σ (upd H l (.lst ys))
theorem pg_all {i : Nat} {x : Str} {p p2 ppos : Pos} (hN : X.N[i]? = some x) (hv : Vis X.env.scope x) (hd : (x == ("__debug__" : Str)) = false := by decide)
    (hcd : (x == ("__classdict__" : Str)) = false := by decide) (ha : ∀ v, assign (.Subscript (.Name x p) (.Slice none none none p2) ppos) X.env v = (do
      let ov ← holding [v] (eval (.Name x p) X.env)
      let iv ← holding [v, ov] (eval (.Slice none none none p2) X.env)
      standAt ppos
      holding [v, ov, iv] (setItem ov iv v)
      release [iv, v, ov] []) := by intro _; rfl) : PG X (.Subscript (.Name x p) (.Slice none none none p2) ppos) (gAll i) := by
  refine ⟨fun pins s σ H v u Q I r h => ?_⟩
  obtain ⟨l, b, xs, ys, e1, rfl, e3, e4, e5, e6, q⟩ := h
  cases r
  rw [ha]
  refine wpAny_bind (wpAny_holding (thn ((pe_var (pos := p) hN hv hd hcd).run pins s σ H (fun z H1 => z = .ref l ∧ H1 = H) I ⟨.ref l, e1, rfl, rfl⟩) fun ov s1 ⟨z, H1, I1, r1, q1⟩ => ?_))
  obtain ⟨rfl, rfl⟩ := q1
  cases r1
  refine wpAny_bind (wpAny_holding (wpAny_Slice ?_))
  rw [evalPart_none]
  refine wpAny_pure (wpAny_pure (wpAny_pure ?_))
  have I4 : Inv X pins σ H1 { s1 with heap := s1.heap.push { cls := .type "slice", data := .fields #[.none, .none, .none] } } := I1.kept (t' := s1.toks) fun b ob q => Heap.get?_push_of_some _ q
  refine wpAny_bind (wpAny_standAt (wpAny_bind (wpAny_holding (set_all I4 e3 e4 e5 (Heap.IsSliceOf.new ..) e6 fun s3 I5 => ?_))))
  exact wpAny_release ⟨σ, _, I5, q⟩
end
end L3

namespace L3
open PySem L2

def tyD : PyData → String
  | .none => "NoneType" | .bool _ => "bool" | .int _ => "int" | .str _ => "str" | .list _ => "list" | .tuple _ => "tuple" | .dict _ => "dict"
def isiD (d : PyData) (T : String) : Bool := tyD d == T || (tyD d == "bool" && T == "int")
def isiTs : List String := ["int", "bool", "str", "list", "tuple", "dict"]
theorem isi_tab : ∀ a ∈ ["NoneType", "bool", "int", "str", "list", "tuple", "dict"], ∀ T ∈ isiTs, kitB a T = some (a == T || (a == "bool" && T == "int")) := by decide +kernel
theorem isi_kit {d : PyData} {T : String} (h : T ∈ isiTs) : kitB (tyD d) T = some (isiD d T) := isi_tab (tyD d) (by cases d <;> simp [tyD]) T h
theorem Rp.ty {K : PySem.W.Frag} {H : Hp} {v : V} {d : PyData} (r : Rp H v d) : TyX K H v (.type (tyD d)) := by
  cases r with
  | non => exact .base .non
  | bl b => exact .base (.bl b)
  | int i => exact .base (.int i)
  | str x => exact .base (.str x)
  | lst h _ => exact .base (.lst h)
  | tup h _ => exact .base (.tup h)
  | dct h _ => exact .base (.dK h)
def kIsi (T : String) : Vl → En → DK → Prop := fun v n Q => ∃ d, dat n v = some d ∧ Q (.tmp (.sh (.bool (isiD d T)))) n
theorem mono_isi {T} : MonoK1 (kIsi T) := fun a n Q Q' hq ⟨d, h1, h2⟩ => ⟨d, h1, hq _ _ h2⟩
abbrev dIsi (te : DE) (T : String) : DE := d1 te (kIsi T)
section
variable {X : Cx} {C : Ct} {W : WX} {e a b : Expr} {te ta tb : DE} {p p2 pos apos : Pos}
theorem ok_isi {K : PySem.W.Frag} {T : String} (hT : T ∈ isiTs) : Ok1 K C (fun x H Q => rIsi K [x, .ty T] H Q) (kIsi T) := fun σ HP H env as t1 va x Qd Q r q ⟨d, e, hq⟩ k => by
  have w := r.rp q e
  exact ⟨x, .ty T, _, _, isiD d T, rfl, .ty T, w.ty, kit_ty (isi_kit hT), (k _ _ hq).sh r (fun a ha => List.mem_append_left _ ha) (.bl _)⟩
theorem do_isi {T : String} (hT : T ∈ isiTs) (he : DP X C W e te) (hm : X.mg "isinstance" = none) (hmT : X.mg (Str.ofString T) = none) (hv : bootBuiltins (Str.ofString T) = some (.type T)) (hg : Gl X "isinstance" := by rfl) (hgT : Gl X (Str.ofString T) := by rfl) (hn : (Str.ofString T) ≠ "__name__" := by decide) (hd : ((Str.ofString T) == ("__debug__" : Str)) = false := by decide)
    (hs : starEach [e, .Name (Str.ofString T) p2] X.env = (false, eval e X.env) :: starEach [.Name (Str.ofString T) p2] X.env := by rfl) (hs2 : starEach [.Name (Str.ofString T) p2] X.env = (false, eval (.Name (Str.ofString T) p2) X.env) :: starEach [] X.env := by rfl) (hpl : (backTo pos (starEach [.Name (Str.ofString T) p2] X.env)).any (·.1) = false := by rfl) :
    DP X C W (.Call (.Name "isinstance" p) [e, .Name (Str.ofString T) p2] [] pos) (dIsi te T) := by
  refine ⟨(pe_callB call_isi hg hm PyProof.Rows.boot_isinstance (pa_cons he.run (pa_cons (pe_bltn (v := .ty T) hgT hmT hv rfl hn hd) pa_nil hs2) hs) (he := hs) (hpl := hpl)).imp fun σ H Q h => ?_, he.mono.d1 mono_isi⟩
  have q := lift1 he.mono (ok_isi hT) h
  obtain ⟨HP, env, as, R, q⟩ := q
  exact ⟨HP, env, as, R, he.mono _ _ env _ _ (fun _ _ z => z) (fun va n z => fun v HP' H' as' ts' r' x' V' => z v HP' H' as' ts' r' x' V') q⟩

def dTx (ta tb : DE) (k : Vl → Vl → En → DK → Prop) : DE := fun ex env Q => ta ex env fun va n1 => (∃ a, dat n1 va = some (.str a)) ∧ tb ex n1 fun vb n2 => k va vb n2 Q
theorem mono_tx {k : Vl → Vl → En → DK → Prop} (ma : MonoE ta) (mb : MonoE tb) (mk : MonoK2 k) : MonoE (dTx ta tb k) := fun ex ex' env Q Q' he hq h =>
  ma ex ex' env _ _ he (fun va n ⟨h0, h1⟩ => ⟨h0, mb ex ex' n _ _ he (fun vb n2 h2 => mk va vb n2 Q Q' hq h2) h1⟩) h
theorem lift_tx {K : PySem.W.Frag} {k : Vl → Vl → En → DK → Prop} {r : V → List V → Hp → VK → Prop} (ma : MonoE ta) (mb : MonoE tb) (ok : Ok2 K C (fun x y H Q => r x [y] H Q) k) {σ : L2.St} {H : Hp} {Q : VK} (h : lift K C W (dTx ta tb k) σ H Q) : tM1 r (lift K C W ta) (lift K C W tb) σ H Q := by
  obtain ⟨HP, env, as, R, h⟩ := h
  refine ⟨HP, env, as, R, ma _ _ env _ _ (fun _ _ z => z) (fun va n ⟨⟨a, e0⟩, h1⟩ => ?_) h⟩
  intro x HP1 H1 as1 t1 R1 X1 V1
  have w := R1.rp V1 e0
  cases w
  refine ⟨⟨_, rfl⟩, HP1, n, as1, R1.nots, mb _ _ n _ _ (fun e n z => z.imp X1 fun a ha => List.mem_append_left _ ha) (fun vb n2 h2 => ?_) h1⟩
  intro y HP2 H2 as2 t2 R2 X2 V2
  obtain ⟨R3, st, X3⟩ := R1.pend X2 R2
  exact ok σ HP2 H2 n2 as2 t1 t2 va vb _ y _ Q R3 (V1.frame X2.ex st) V2 h2 fun val m q v HP' H' as' ts' R' X' V' => q v HP' H' as' ts' R' ((X1.trans X3).trans X') V'
def kSplit : Vl → Vl → En → DK → Prop := fun va vb n Q => ∃ a b, dat n va = some (.str a) ∧ dat n vb = some (.str b) ∧ (b.length == 0) = false ∧ a.length + 2 ≤ sizeLine ∧ Q (.tmp (.own ((Txt.split a b).map PyData.str))) n
def kJoin : Vl → Vl → En → DK → Prop := fun va vb n Q => ∃ a ys, dat n va = some (.str a) ∧ dat n vb = some (.list (ys.map PyData.str)) ∧ (ys.map (·.length)).sum + ys.length * a.length ≤ 16777216 ∧ Q (.tmp (.sh (.str (Txt.join a ys)))) n
theorem ok_split {K : PySem.W.Frag} : Ok2 K C (fun x y H Q => (fun (x : V) (xs : List V) (H : Hp) (Q : VK) => ∃ a b, x = .str a ∧ xs = [.str b] ∧ (b.length == 0) = false ∧ a.length + 2 ≤ sizeLine ∧ rNewStrs (Txt.split a b) H Q) x [y] H Q) kSplit := fun σ HP H env as t1 t2 va vb x y Qd Q r qa qb ⟨a, b, e1, e2, h3, h4, hq⟩ k => by
  have w1 := r.rp qa e1
  have w2 := r.rp qb e2
  cases w1; cases w2
  exact ⟨a, b, rfl, rfl, h3, h4, fun p hp => (k _ _ hq).own r (fun a ha => List.mem_append_left _ ha) hp (RpAll.ofStrs _)⟩
theorem ok_join {K : PySem.W.Frag} : Ok2 K C (fun x y H Q => (fun (x : V) (xs : List V) (H : Hp) (Q : VK) => ∃ a p, ∃ ys : List Str, x = .str a ∧ xs = [.ref p] ∧ (SqL K H p (ys.map V.str) ∨ SqT K H p (ys.map V.str)) ∧
      (ys.map (·.length)).sum + ys.length * a.length ≤ 16777216 ∧ Q (.str (Txt.join a ys)) H) x [y] H Q) kJoin := fun σ HP H env as t1 t2 va vb x y Qd Q r qa qb ⟨a, ys, e1, e2, h3, hq⟩ k => by
  have w1 := r.rp qa e1
  have w2 := r.rp qb e2
  cases w1
  cases w2 with
  | lst g w =>
    have e := w.strs
    subst e
    exact ⟨a, _, ys, rfl, rfl, .inl (SqL.of g), h3, (k _ _ hq).sh r (fun a ha => List.mem_append_left _ ha) (.str _)⟩
theorem do_split (ha : DP X C W a ta) (hb : DP X C W b tb) (hs : starEach [b] X.env = [(false, eval b X.env)] := by rfl) (hbase : attributeBase a "split" X.env (eval a X.env) = eval a X.env := by rfl) (hline : (apos.endLine == pos.line) = true := by rfl) : DP X C W (.Call (.Attribute a "split" apos) [b] [] pos) (dTx ta tb kSplit) :=
  ⟨(pe_split ha.run hb.run hs hbase hline).imp fun σ H Q h => lift_tx ha.mono hb.mono ok_split h, mono_tx ha.mono hb.mono fun a b n Q Q' hq ⟨x, y, h1, h2, h3, h4, h5⟩ => ⟨x, y, h1, h2, h3, h4, hq _ _ h5⟩⟩
theorem do_join (ha : DP X C W a ta) (hb : DP X C W b tb) (hs : starEach [b] X.env = [(false, eval b X.env)] := by rfl) (hbase : attributeBase a "join" X.env (eval a X.env) = eval a X.env := by rfl) (hline : (apos.endLine == pos.line) = true := by rfl) : DP X C W (.Call (.Attribute a "join" apos) [b] [] pos) (dTx ta tb kJoin) :=
  ⟨(pe_join ha.run hb.run hs hbase hline).imp fun σ H Q h => lift_tx ha.mono hb.mono ok_join h, mono_tx ha.mono hb.mono fun a b n Q Q' hq ⟨x, y, h1, h2, h3, h4⟩ => ⟨x, y, h1, h2, h3, hq _ _ h4⟩⟩
end

/-- a list or a tuple that repr can show -/
def reprD (d : PyData) : Bool := (match d with | .list _ => true | .tuple _ => true | _ => false) && d.canLay0 && d.showable && decide (d.depth ≤ 64) && decide (d.shown.length ≤ sizeLine)
theorem call_reprD {X : Cx} {k : Nat} (hr : Room k X.A) (gd : X.A.guards = some []) : CallR X (.builtin "repr") (fun xs H Q => ∃ x d, xs = [x] ∧ Dp X.K H x d ∧ reprD d = true ∧ Q (.str d.shown) H) := by
  intro pins s σ H xs us Q I r h
  obtain ⟨x, d, rfl, hd, hs, q⟩ := h
  obtain ⟨u, rfl, ru⟩ := vals1 r
  unfold reprD at hs
  simp only [Bool.and_eq_true, decide_eq_true_eq] at hs
  obtain ⟨⟨⟨⟨h0, h1⟩, h2⟩, h3⟩, h4⟩ := hs
  obtain ⟨as, rd⟩ := Dp.reads I d x u hd ru
  have hu : X.A.units + (d.depth + 1) < cLine := by have := hr.un; omega
  have nd : d.hasDict = true → sysModules ∉ as := PyData.noDict_hsm (PyData.hasDict_of_canLay d h1)
  have main : ∀ a, u = .ref a → wpAny (model X.prog X.w) X.A (call (.builtin "repr") [u]) (EP X pins σ Q) X.xe s := fun a e => by
    subst e
    exact repr_of_reads' rd h2 nd gd hu (fun _ _ e => e) (fun h' u tk hk => ⟨.str _, H, I.kept (t' := tk) hk, ⟨u, rfl⟩, q⟩) h4
  cases d with
  | list xs => cases rd; exact main _ rfl
  | tuple xs => cases rd; exact main _ rfl
  | _ => cases h0
def fRepr (d : PyData) : Option PyData := if reprD d = true then some (.str d.shown) else none
def kRepr : List Vl → En → DK → Prop := kF1 fRepr
section
variable {X : Cx} {C : Ct} {W : WX} {p pos : Pos} {e : Expr} {ta : DA}
theorem do_repr {k : Nat} (hr : Room k X.A) (gd : X.A.guards = some []) (hm : X.mg "repr" = none) (ha : DPA X C W [e] ta) (hg : Gl X "repr" := by rfl) (he : starEach [e] X.env = (false, eval e X.env) :: starEach [] X.env := by rfl) (hpl : (backTo pos (starEach [] X.env)).any (·.1) = false := by rfl) :
    DP X C W (.Call (.Name "repr" p) [e] [] pos) (dN ta (kF1 fRepr)) :=
  do_callB (call_reprD hr gd) (ok_F1 fun H x d z Q a h k => by
    unfold fRepr at h
    by_cases hs : reprD d = true
    · rw [if_pos hs] at h
      cases Option.some.inj h
      have hl : d.canLay0 = true := by
        unfold reprD at hs
        simp only [Bool.and_eq_true] at hs
        exact hs.1.1.1.2
      exact ⟨x, d, rfl, a.dp hl, hs, k _ fun _ => .str _⟩
    · rw [if_neg hs] at h; cases h) mono_F1 hm PyProof.Rows.boot_repr ha hg (by decide) (by decide) he hpl
end

def dAll (i : Nat) (te : DE) : DS := fun ex env D => te ex env fun v n => ∃ xs ys, n[i]? = some (some (.own xs)) ∧ v = .tmp (.own ys) ∧ xs.length + ys.length ≤ sizeLine ∧ D.nx (n.set i (some (.own ys)))
theorem ds_all {X : Cx} {C : Ct} {W : WX} {i : Nat} {x : Str} {p p2 ppos pos : Pos} {e : Expr} {te : DE} (he : DP X C W e te) (hN : X.N[i]? = some x := by rfl) (hv : Vis X.env.scope x := by first | exact Or.inl rfl | exact Or.inr (Or.inl rfl) | exact Or.inr (Or.inr rfl)) (hd : (x == ("__debug__" : Str)) = false := by decide)
    (hcd : (x == ("__classdict__" : Str)) = false := by decide) (ha : ∀ v, assign (.Subscript (.Name x p) (.Slice none none none p2) ppos) X.env v = (do
      let ov ← holding [v] (eval (.Name x p) X.env)
      let iv ← holding [v, ov] (eval (.Slice none none none p2) X.env)
      standAt ppos
      holding [v, ov, iv] (setItem ov iv v)
      release [iv, v, ov] []) := by intro _; rfl) (hs : swapsWithSole [.Subscript (.Name x p) (.Slice none none none p2) ppos] e pos.line X.env = pure false := by rfl) (hw : swappedStores [.Subscript (.Name x p) (.Slice none none none p2) ppos] e X.env = pure none := by rfl)
    (h1 : (assignEach [.Subscript (.Name x p) (.Slice none none none p2) ppos] X.env).map (·.2) = [assign (.Subscript (.Name x p) (.Slice none none none p2) ppos) X.env] := by rfl) : DPS X C W (.Assign [.Subscript (.Name x p) (.Slice none none none p2) ppos] e pos) (dAll i te) := by
  refine ⟨(ps_asg he.run (pg_all hN hv hd hcd ha) hs hw h1).imp fun D σ H ⟨HP, env, as, R, h⟩ => ⟨HP, env, as, R, he.mono _ _ env _ _ (fun e n z => z.at σ) (fun v n q => ?_) h⟩, fun ex ex' env D D' hx hd h => he.mono ex ex' env _ _ hx (fun v n ⟨xs, ys, h1, h2, h3, h4⟩ => ⟨xs, ys, h1, h2, h3, hd.nx _ h4⟩) h⟩
  intro y HP1 H1 as1 t1 R1 x1 V1
  obtain ⟨xs, ys, e1, rfl, hz, q⟩ := q
  obtain ⟨b, vs, rfl, rfl, g3, g4⟩ := V1
  obtain ⟨a, ws, f1, f2, f3, f4, f5⟩ := R1.mut e1
  have hne : a ≠ b := (List.nodup_append.mp R1.nd).2.2 a f4 b (by simp)
  obtain ⟨R3, x3⟩ := f5 vs ys g4
  exact ⟨a, b, ws, vs, f1, rfl, f2, g3, hne, by rw [f3.length, g4.length]; exact hz, q σ HP1 _ as1 R3.nots ((x1.cut).trans x3)⟩

def dDead : DS := fun _ _ _ => False
theorem ds_dead {X : Cx} {C : Ct} {W : WX} {st : Stmt} : DPS X C W st dDead := ⟨⟨fun _ _ _ _ _ _ ⟨_, _, _, _, h⟩ => h.elim⟩, fun _ _ _ _ _ _ _ h => h.elim⟩
end L3

namespace L3
open PySem L2
section
variable {X : Cx} {C : Ct} {W : WX} {p pos : Pos} {e : Expr} {es : List Expr} {ta : DA}
theorem do_max2 (hc : X.calm = true) (hm : X.mg "max" = none) (ha : DPA X C W (e :: es) ta) (hg : Gl X "max" := by rfl) (he : starEach (e :: es) X.env = (false, eval e X.env) :: starEach es X.env := by rfl) (hpl : (backTo pos (starEach es X.env)).any (·.1) = false := by rfl) : DP X C W (.Call (.Name "max" p) (e :: es) [] pos) (dN ta (kF2 fMax2)) :=
  do_callB (call_max2 hc) ok_max2 mono_F2 hm PyProof.Rows.boot_max ha hg (by decide) (by decide) he hpl
theorem do_min2 (hc : X.calm = true) (hm : X.mg "min" = none) (ha : DPA X C W (e :: es) ta) (hg : Gl X "min" := by rfl) (he : starEach (e :: es) X.env = (false, eval e X.env) :: starEach es X.env := by rfl) (hpl : (backTo pos (starEach es X.env)).any (·.1) = false := by rfl) : DP X C W (.Call (.Name "min" p) (e :: es) [] pos) (dN ta (kF2 fMin2)) :=
  do_callB (call_min2 hc) ok_min2 mono_F2 hm PyProof.Rows.boot_min ha hg (by decide) (by decide) he hpl
theorem do_len (hm : X.mg "len" = none) (ha : DPA X C W (e :: es) ta) (hg : Gl X "len" := by rfl) (he : starEach (e :: es) X.env = (false, eval e X.env) :: starEach es X.env := by rfl) (hpl : (backTo pos (starEach es X.env)).any (·.1) = false := by rfl) : DP X C W (.Call (.Name "len" p) (e :: es) [] pos) (dN ta kLen) :=
  do_callB (call_len.or call_lenD) ok_len mono_len hm PySem.boot_len ha hg (by decide) (by decide) he hpl
theorem do_int (hm : X.mg "int" = none) (ha : DPA X C W (e :: es) ta) (hg : Gl X "int" := by rfl) (he : starEach (e :: es) X.env = (false, eval e X.env) :: starEach es X.env := by rfl) (hpl : (backTo pos (starEach es X.env)).any (·.1) = false := by rfl) : DP X C W (.Call (.Name "int" p) (e :: es) [] pos) (dN ta (kF1 fInt)) :=
  do_callTy (call_int1.or call_int_str) ok_int1 mono_F1 hm PyProof.Rows.boot_int ha hg (by decide) (by decide) he hpl
theorem do_str (hm : X.mg "str" = none) (ha : DPA X C W (e :: es) ta) (hg : Gl X "str" := by rfl) (he : starEach (e :: es) X.env = (false, eval e X.env) :: starEach es X.env := by rfl) (hpl : (backTo pos (starEach es X.env)).any (·.1) = false := by rfl) : DP X C W (.Call (.Name "str" p) (e :: es) [] pos) (dN ta (kF1 fStr)) :=
  do_callTy call_str_int ok_str1 mono_F1 hm PyProof.Rows.boot_str ha hg (by decide) (by decide) he hpl
theorem do_sum (hc : X.calm = true) (hm : X.mg "sum" = none) (ha : DPA X C W (e :: es) ta) (hg : Gl X "sum" := by rfl) (he : starEach (e :: es) X.env = (false, eval e X.env) :: starEach es X.env := by rfl) (hpl : (backTo pos (starEach es X.env)).any (·.1) = false := by rfl) : DP X C W (.Call (.Name "sum" p) (e :: es) [] pos) (dN ta (kF1 fSum)) :=
  do_callB (cr_sum hc) ok_sum mono_F1 hm PyProof.Rows.boot_sum ha hg (by decide) (by decide) he hpl
theorem do_all (hc : X.calm = true) (hm : X.mg "all" = none) (ha : DPA X C W (e :: es) ta) (hg : Gl X "all" := by rfl) (he : starEach (e :: es) X.env = (false, eval e X.env) :: starEach es X.env := by rfl) (hpl : (backTo pos (starEach es X.env)).any (·.1) = false := by rfl) : DP X C W (.Call (.Name "all" p) (e :: es) [] pos) (dN ta (kF1 fAll)) :=
  do_callB (cr_all hc) ok_all mono_F1 hm PyProof.Rows.boot_all ha hg (by decide) (by decide) he hpl
theorem do_max (hc : X.calm = true) (hm : X.mg "max" = none) (ha : DPA X C W (e :: es) ta) (hg : Gl X "max" := by rfl) (he : starEach (e :: es) X.env = (false, eval e X.env) :: starEach es X.env := by rfl) (hpl : (backTo pos (starEach es X.env)).any (·.1) = false := by rfl) : DP X C W (.Call (.Name "max" p) (e :: es) [] pos) (dN ta (kF1 fMax)) :=
  do_callB (cr_max hc) ok_max mono_F1 hm PyProof.Rows.boot_max ha hg (by decide) (by decide) he hpl
theorem do_min (hc : X.calm = true) (hm : X.mg "min" = none) (ha : DPA X C W (e :: es) ta) (hg : Gl X "min" := by rfl) (he : starEach (e :: es) X.env = (false, eval e X.env) :: starEach es X.env := by rfl) (hpl : (backTo pos (starEach es X.env)).any (·.1) = false := by rfl) : DP X C W (.Call (.Name "min" p) (e :: es) [] pos) (dN ta (kF1 fMin)) :=
  do_callB (cr_min hc) ok_min mono_F1 hm PyProof.Rows.boot_min ha hg (by decide) (by decide) he hpl
end

/-- a def at a: what it promises, how it is called -/
structure Cal (P : Program) (w : World) (K : PySem.W.Frag) (mg : Str → Option Value) (base : Heap) (a : Addr) (k : Nat) (ps : List Str) (cls : Str → Value) (io : List Nat) (sp : DSp) : Prop where
  ex : ∃ fd, FnG P w K mg base (L2N.CX P w) k a fd ps (liftSp K cls io sp) ∧ PySem.W.keepIn K (.ref a) = true ∧ Binds K fd ps []
abbrev FnP (K : PySem.W.Frag) (x : Str) (st : Stmt) (f : Addr) (fd : FuncData) : Prop := FunD K x x (defArgs st) (defBody st) (defScope st) [] [] f fd
section
variable {X : Cx} {C : Ct} {W : WX} {k : Nat} {a : Addr} {ps : List Str} {x : Str} {p pos : Pos} {e : Expr} {es : List Expr} {ta : DA} {spd : DSp} {io : List Nat}
theorem do_callC (ms : List Md) (Fc : Cal X.prog X.w X.K X.mg X.base a k ps C.cls io spd) (hr : Room k X.A) (gd : X.A.guards = some []) (tk : L2N.Takes X W) (msp : MonoSp spd) (ha : DPA X C W (e :: es) ta) (hm : X.mg x = some (.ref a)) (hio : io = ioOf 0 ms := by rfl) (hg : Gl X x := by rfl)
    (hdb : (x == ("__debug__" : Str)) = false := by decide) (he : starEach (e :: es) X.env = (false, eval e X.env) :: starEach es X.env := by rfl) (hpl : (backTo pos (starEach es X.env)).any (·.1) = false := by rfl) : DP X C W (.Call (.Name x p) (e :: es) [] pos) (dCall ms [] spd ta) := by
  obtain ⟨fd, F, hk, hb⟩ := Fc.ex
  exact do_call F hr gd tk msp ha hg hm hk hb .nil (fun _ => .nil) hio hdb he hpl
theorem calF {P : Program} {w : World} {K : PySem.W.Frag} {mg : Str → Option Value} {base : Heap} {st : Stmt} {f : Addr} {fd : FuncData} {N ps : List Str} {cls : Str → Value} {sp : DSp} {t : DS} (F : FnP K x st f fd) (S : FnScope N ps (defScope st))
    (len : ∀ ss Q E, sp ss Q E → ss.length = ps.length) (hio : io.Nodup) (hio2 : ∀ k ∈ io, k < ps.length)
    (hbody : ∀ (cdv : Value) (A : Around) (outer : List Env) (s : Shared) (H : Hp) (vs : List V) (E : XK) (as : List Addr), A.guards = some [] → Room k (A.deeper (PyProof.Rows.envOfC x (defScope st) s.heap.objs.size f cdv)) →
      L2N.Takes (cxOf (L2N.CX P w) P w K mg base N x (defScope st) f cdv A outer s H E) (fun (c : Value) (d : Option Addr) (_ : L2.St) (H1 : Hp) => E c d H1) →
      DPB (cxOf (L2N.CX P w) P w K mg base N x (defScope st) f cdv A outer s H E) (ctOf cls io H as vs) (fun (c : Value) (d : Option Addr) (_ : L2.St) (H1 : Hp) => E c d H1) (defBody st) t)
    (hsp : ∀ ss Q E, sp ss Q E → t (excK io E) (ss.map some ++ List.replicate (N.length - ps.length) none) ⟨fun n => retK io Q (.sh .none) n, retK io Q, fun _ => False, fun _ => False⟩) : FnG P w K mg base (L2N.CX P w) (k + 1) f fd ps (liftSp K cls io sp) :=
  fnD (He5.fun_of F) S len hio hio2 (fun cdv A outer s H vs E as gd hr => hbody cdv A outer s H vs E as gd hr (L2N.takes_of rfl rfl rfl rfl)) hsp
theorem calD {P : Program} {w : World} {K : PySem.W.Frag} {mg : Str → Option Value} {base : Heap} {st : Stmt} {f : Addr} {fd : FuncData} {N ps : List Str} {cls : Str → Value} {sp : DSp} {t : DS} (F : FnP K x st f fd) (hb : Binds K fd ps []) (S : FnScope N ps (defScope st))
    (len : ∀ ss Q E, sp ss Q E → ss.length = ps.length) (hio : io.Nodup) (hio2 : ∀ k ∈ io, k < ps.length)
    (hbody : ∀ (cdv : Value) (A : Around) (outer : List Env) (s : Shared) (H : Hp) (vs : List V) (E : XK) (as : List Addr), A.guards = some [] → Room k (A.deeper (PyProof.Rows.envOfC x (defScope st) s.heap.objs.size f cdv)) →
      L2N.Takes (cxOf (L2N.CX P w) P w K mg base N x (defScope st) f cdv A outer s H E) (fun (c : Value) (d : Option Addr) (_ : L2.St) (H1 : Hp) => E c d H1) →
      DPB (cxOf (L2N.CX P w) P w K mg base N x (defScope st) f cdv A outer s H E) (ctOf cls io H as vs) (fun (c : Value) (d : Option Addr) (_ : L2.St) (H1 : Hp) => E c d H1) (defBody st) t)
    (hsp : ∀ ss Q E, sp ss Q E → t (excK io E) (ss.map some ++ List.replicate (N.length - ps.length) none) ⟨fun n => retK io Q (.sh .none) n, retK io Q, fun _ => False, fun _ => False⟩) : Cal P w K mg base f (k + 1) ps cls io sp :=
  ⟨fd, fnD (He5.fun_of F) S len hio hio2 (fun cdv A outer s H vs E as gd hr => hbody cdv A outer s H vs E as gd hr (L2N.takes_of rfl rfl rfl rfl)) hsp, F.kp, hb⟩
end
theorem db_dead {X : Cx} {C : Ct} {W : WX} {sts : List Stmt} : DPB X C W sts dDead := ⟨⟨fun _ _ _ _ _ _ ⟨_, _, _, _, h⟩ => h.elim⟩, fun _ _ _ _ _ _ _ h => h.elim⟩
theorem dgI {X : Cx} {C : Ct} {W : WX} {x : Str} {i : Int} {pos : Pos} (h : ∃ t, X.mg x = some (.int i t)) (hg : Gl X x := by rfl) (hdb : (x == ("__debug__" : Str)) = false := by decide) : DP X C W (.Name x pos) (dC (.int i)) := by
  obtain ⟨t, h⟩ := h
  exact dg hg h (v := .int i) ⟨t, rfl⟩ (fun _ => .int _) hdb
theorem dgS {X : Cx} {C : Ct} {W : WX} {x z : Str} {pos : Pos} (h : ∃ t, X.mg x = some (.str z t)) (hg : Gl X x := by rfl) (hdb : (x == ("__debug__" : Str)) = false := by decide) : DP X C W (.Name x pos) (dC (.str z)) := by
  obtain ⟨t, h⟩ := h
  exact dg hg h (v := .str z) ⟨t, rfl⟩ (fun _ => .str _) hdb
theorem sqTop {K : PySem.W.Frag} {H : Hp} {a : Addr} {xs : List V} (hS : SqL K H a xs) : SqL K (hid H []) a xs := SqL.ext hS fun b o e => hid_of e (fun z => by cases z)
/-- the law's def at the top -/
theorem sp_top {K : PySem.W.Frag} {sp : DSp} {H : Hp} {a : Addr} {ns : List Int} (hS : SqL K H a (ns.map V.int)) (h : ∀ Q E, Q (.sh (.bool true)) [] → sp [.scr ns] Q E) :
    liftSp K (fun _ => Value.none) [] sp [.ref a] H (fun v _ => v = .bl true) fun _ _ _ => False := by
  refine ⟨fun _ => none, [], [.scr ns], ⟨fun _ _ e => (by cases e), hid_same H [], ⟨[], [], rfl, ⟨a, rfl, rfl, sqTop hS⟩, rfl⟩, by simp, fun b hb => (by cases hb), fun k hk => (by cases hk)⟩, h _ _ fun v HP' H' as' ts' _ q => ?_⟩
  obtain ⟨q, _⟩ := q
  cases q
  rfl
theorem cx_top {P : Program} {w : World} {H : Hp} {s : Shared} {e : Value} {s' : Shared} (h : L2N.CX P w [] H s (fun _ _ _ => False) e s') : False := by
  obtain ⟨_, _, _, _, _, _, _, _, _, _, _, _, z⟩ := h
  exact z
end L3

namespace L3
open PySem L2

def dats (n : En) : List Vl → Option (List PyData)
  | [] => some []
  | v :: vs => (dat n v).bind fun d => (dats n vs).map fun ds => d :: ds
theorem Rel.rps {K : PySem.W.Frag} {C : Ct} {HP H : Hp} {σ : L2.St} {n : En} {as ts : List Addr} (r : Rel K C HP σ H n as ts) : ∀ {vals : List Vl} {vs : List V} {t : List Addr} {ds : List PyData}, RepVs K C HP H σ vals vs t → dats n vals = some ds → RpAll H vs ds
  | [], vs, t, ds, q, e => by
    cases Option.some.inj e
    obtain ⟨rfl, rfl⟩ := q
    exact .nil
  | v :: vals, vs, t, ds, q, e => by
    obtain ⟨x, w, t1, t2, rfl, rfl, q1, q2⟩ := q
    unfold dats at e
    cases e1 : dat n v with
    | none => rw [e1] at e; cases e
    | some d =>
      rw [e1] at e
      cases e2 : dats n vals with
      | none => rw [e2] at e; cases e
      | some ds' =>
        rw [e2] at e
        cases Option.some.inj e
        exact .cons (r.rp q1 e1) (Rel.rps r q2 e2)
/-- repr([e, ..]): what is shown need not be kept -/
def dReprL (ta : DA) : DE := fun ex env Q => ta ex env fun vals n => ∃ ds, dats n vals = some ds ∧ reprD (.list ds) = true ∧ ds.length ≤ sizeLine ∧ Q (.tmp (.sh (.str (PyData.list ds).shown))) n
theorem mono_reprL {ta : DA} (ma : MonoA ta) : MonoE (dReprL ta) := fun ex ex' env Q Q' hx hq h => ma ex ex' env _ _ hx (fun vals n ⟨ds, h1, h2, h3, h4⟩ => ⟨ds, h1, h2, h3, hq _ _ h4⟩) h
theorem reprD_lay {d : PyData} (h : reprD d = true) : d.canLay0 = true := by
  unfold reprD at h
  simp only [Bool.and_eq_true] at h
  exact h.1.1.1.2
section
variable {X : Cx} {C : Ct} {W : WX} {p p2 pos : Pos} {es : List Expr} {ta : DA}
theorem do_reprL {k : Nat} (hr : Room k X.A) (gd : X.A.guards = some []) (hm : X.mg "repr" = none) (ha : DPA X C W es ta) (hg : Gl X "repr" := by rfl) (he : starEach [.List es p2] X.env = (false, eval (.List es p2) X.env) :: starEach [] X.env := by rfl) (hpl : (backTo pos (starEach [] X.env)).any (·.1) = false := by rfl) :
    DP X C W (.Call (.Name "repr" p) [.List es p2] [] pos) (dReprL ta) := by
  refine ⟨(pe_callB (call_reprD hr gd) hg hm PyProof.Rows.boot_repr (pa_cons (pe_lst ha.run) pa_nil he) (he := he) (hpl := hpl)).imp fun σ H Q h => ?_, mono_reprL ha.mono⟩
  obtain ⟨HP, env, as, R, h⟩ := h
  refine ⟨HP, env, as, R, ha.mono _ _ env _ _ (fun _ _ z => z) (fun vals n ⟨ds, e1, e2, hz, q⟩ => ?_) h⟩
  intro vs HP1 H1 as1 ts R1 x1 V
  have ra := R1.rps V e1
  refine ⟨by rw [ra.length]; exact hz, fun a hp => ?_⟩
  have rw_ : Rp (upd H1 a (.lst vs)) (.ref a) (.list ds) := .lst upd_same (ra.mono (Same.put hp))
  exact ⟨_, .list ds, rfl, rw_.dp (reprD_lay e2), e2, q _ HP1 _ as1 [] (R1.nots.new hp) (by rw [List.append_nil]; exact x1.cut.trans (Stp.new hp)) ⟨.str _, rfl⟩⟩
end
/-- an own temporary changes -/
theorem Rel.mutE {K : PySem.W.Frag} {C : Ct} {HP H : Hp} {σ : L2.St} {n : En} {as ts : List Addr} {D : Addr} {o : HO} (r : Rel K C HP σ H n as ts) (hD : D ∈ ts) : Rel K C HP σ (upd H D o) n as ts ∧ Stp HP H (as ++ ts) HP (upd H D o) (as ++ ts) := by
  have q := r.own D (List.mem_append_right _ hD)
  have ne : ∀ b ∈ as, b ≠ D := fun b hb z => (List.nodup_append.mp r.nd).2.2 b hb D hD z
  refine ⟨⟨fun b u e => ?_, fun b u e => ?_, r.rep.frame (Same.refl _) fun b hb => upd_ne (ne b hb), r.nd, fun b hb => ?_, r.pin⟩, Same.refl _, fun b u e n => ?_, fun b h => .inl h, fun _ _ h => .inl h, fun b h => ?_⟩
  · rw [upd_ne (fun z => by subst z; rw [q.1] at e; cases e)]; exact r.exP b u e
  · rw [upd_ne (fun z => by subst z; rw [q.2.1] at e; cases e)]; exact r.exB b u e
  · have w := r.own b hb
    refine ⟨w.1, w.2.1, ?_⟩
    by_cases z : b = D
    · rw [z, upd_same]; exact fun q => nomatch q
    · rw [upd_ne z]; exact w.2.2
  · rw [upd_ne (fun z => n (by rw [z]; exact List.mem_append_right _ hD))]; exact e
  · by_cases z : b = D
    · rw [z, upd_same] at h; cases h
    · rw [upd_ne z] at h; exact h

def dTold (i j : Nat) (ta : DA) : DS := fun ex env D => ta ex env fun vals n => ∃ xs ys k, vals = [.tmp (.own xs), .tmp (.own ys)] ∧ i < n.length ∧ i ≠ j ∧ n[j]? = some (some (.sh (.str k))) ∧
  reprD (.list [.list xs, .list ys]) = true ∧ (PyData.list [.list xs, .list ys]).shown = k ∧ xs.length < sizeLine ∧ ys.length < sizeLine ∧ D.nx (n.set i none)
section
variable {X : Cx} {C : Ct} {W : WX} {i j : Nat} {ta : DA} {s1 s2 s3 s4 s5 : Stmt} {u2 : TS} {es : List Expr}
abbrev rReprD (K : PySem.W.Frag) : List V → Hp → VK → Prop := fun xs H Q => ∃ x d, xs = [x] ∧ Dp K H x d ∧ reprD d = true ∧ Q (.str d.shown) H
theorem db_told (hio : i ∉ C.io) (P1 : PA X es (liftA X.K C W ta) → PS X s1 (tAsg (tLst (liftA X.K C W ta)) (gName i))) (ha : DPA X C W es ta) (P2 : PS X s2 (tIfS (tTest (tOp rNe (tCB (rReprD X.K) (tCons (tVar i) tNil)) (tVar j))) u2 tNext))
    (P3 : PS X s3 (tDrop (tBM X.K "list" rAppend (tOp (rIxL X.K) (tVar i) (tC (.int 0))) (tCons (tC (.int 9)) tNil)))) (P4 : PS X s4 (tDrop (tBM0 X.K "list" rReverse (tOp (rIxL X.K) (tVar i) (tC (.int 1))))))
    (P5 : PS X s5 (tDrop (tBM X.K "list" rAppend (tOp (rIxL X.K) (tVar i) (tC (.int 1))) (tCons (tUn (rU fun i => .int (-i)) (tC (.int 1))) tNil)))) : DPB X C W [s1, s2, s3, s4, s5] (dTold i j ta) := by
  have ma := ha.mono
  refine ⟨(pss_cons (P1 ha.run) (pss_cons P2 (pss_cons P3 (pss_cons P4 (pss_one P5))))).imp fun D σ H ⟨HP, env, as, R, h⟩ => ⟨HP, env, as, R, ma _ _ env _ _ (fun e n z => z.at σ) (fun vals n q => ?_) h⟩, fun ex ex' env D D' hx hd h => ma ex ex' env _ _ hx (fun vals n ⟨xs, ys, k, h1, h2, h3, h4, h5, h6, h7, h8, h9⟩ => ⟨xs, ys, k, h1, h2, h3, h4, h5, h6, h7, h8, hd.nx _ h9⟩) h⟩
  intro vs HP1 H1 as1 ts R1 x1 Vr
  obtain ⟨xs, ys, k, rfl, hl, hij, hk, hs, he, hzx, hzy, q⟩ := q
  obtain ⟨y1, y2, t1, t2, rfl, rfl, ⟨a, us, rfl, rfl, ha1, ra⟩, ⟨b, ws, rfl, rfl, hb1, rb⟩⟩ := Vr.two
  refine ⟨by show 2 ≤ sizeLine; decide, fun p hp => ?_⟩
  have R2 := R1.newT (o := .lst [.ref a, .ref b]) hp
  have x2 : Stp HP1 H1 (as1 ++ ([a] ++ [b])) HP1 (upd H1 p (.lst [.ref a, .ref b])) (as1 ++ (p :: ([a] ++ [b]))) := Stp.newT hp fun c hc => by
    simp at hc ⊢
    rcases hc with z | z | z | z <;> simp [z]
  have ndp : p ≠ a ∧ p ≠ b ∧ a ≠ b := by
    have := (List.nodup_append.mp R2.nd).2.1
    simp at this
    exact ⟨this.1.1, this.1.2, this.2⟩
  obtain ⟨as2, R3, m3⟩ := R2.clr (i := i)
  have hs0 : i < σ.length := by rw [R1.rep.len]; exact hl
  have R4 : Rel X.K C HP1 (σ.set i (some (.ref p))) (upd H1 p (.lst [.ref a, .ref b])) (n.set i none) as2 (p :: ([a] ++ [b])) := R3.cong (by simp) (fun m s e => by
    have : i ≠ m := fun z => by
      subst z
      rw [List.getElem?_set_self (by simpa using hl)] at e
      cases e
    rw [List.getElem?_set_ne this]) fun m hm => by rw [List.getElem?_set_ne (fun z => hio (by rw [z]; exact hm))]
  have x4 : Stp HP1 H1 (as1 ++ ([a] ++ [b])) HP1 (upd H1 p (.lst [.ref a, .ref b])) (as2 ++ (p :: ([a] ++ [b]))) := x2.less fun c hc => (List.mem_append.mp hc).elim (fun z => List.mem_append_left _ (m3 c z)) fun z => List.mem_append_right _ z
  have vi : (σ.set i (some (V.ref p)))[i]? = some (some (.ref p)) := List.getElem?_set_self hs0
  have vj : (σ.set i (some (V.ref p)))[j]? = some (some (.str k)) := by
    obtain ⟨v, aa, f1, f2, _⟩ := R4.slot (i := j) (s := .sh (.str k)) (by rw [List.getElem?_set_ne hij]; exact hk)
    obtain ⟨f2, _⟩ := f2
    cases f2
    exact f1
  have pa : (upd H1 p (.lst [.ref a, .ref b])) a = some (.lst us) := by rw [upd_ne (Ne.symm ndp.1)]; exact ha1
  have pb : (upd H1 p (.lst [.ref a, .ref b])) b = some (.lst ws) := by rw [upd_ne (Ne.symm ndp.2.1)]; exact hb1
  have rp : Rp (upd H1 p (.lst [.ref a, .ref b])) (.ref p) (.list [.list xs, .list ys]) := .lst upd_same (.cons (.lst pa (ra.mono R4.exP)) (.cons (.lst pb (rb.mono R4.exP)) .nil))
  -- the second statement
  refine ⟨.ref p, vi, ⟨_, _, rfl, rp.dp (reprD_lay hs), hs, .str k, vj, ?_⟩⟩
  refine ⟨rfl, false, ?_, ?_⟩
  · rw [he]; simp
  refine iteF ?_
  obtain ⟨R5, x5⟩ := R4.mutE (D := a) (o := .lst (us ++ [.int 9])) (by simp)
  have q0 : ∀ (H : Hp), H p = some (.lst [V.ref a, V.ref b]) → ∀ (P : V → Prop), P (.ref a) → (∃ q xs i v, V.ref p = .ref q ∧ V.int 0 = .int i ∧ SqL X.K H q xs ∧ atI xs i = some v ∧ P v) := fun H h P hP => ⟨p, _, 0, .ref a, rfl, rfl, SqL.of h, rfl, hP⟩
  refine ⟨.ref p, vi, p, _, 0, .ref a, rfl, rfl, SqL.of upd_same, rfl, .inl ⟨rfl, _, SqL.of pa⟩, a, us, .int 9, rfl, rfl, pa, by rw [ra.length]; exact hzx, ?_⟩
  have p5 : (upd (upd H1 p (.lst [.ref a, .ref b])) a (.lst (us ++ [.int 9]))) p = some (.lst [.ref a, .ref b]) := by rw [upd_ne ndp.1]; exact upd_same
  have pb5 : (upd (upd H1 p (.lst [.ref a, .ref b])) a (.lst (us ++ [.int 9]))) b = some (.lst ws) := by rw [upd_ne (Ne.symm ndp.2.2)]; exact pb
  obtain ⟨R6, x6⟩ := R5.mutE (D := b) (o := .lst ws.reverse) (by simp)
  refine ⟨.ref p, vi, p, _, 1, .ref b, rfl, rfl, SqL.of p5, rfl, .inl ⟨rfl, _, SqL.of pb5⟩, b, ws, rfl, rfl, pb5, ?_⟩
  have p6 : (upd (upd (upd H1 p (.lst [.ref a, .ref b])) a (.lst (us ++ [.int 9]))) b (.lst ws.reverse)) p = some (.lst [.ref a, .ref b]) := by rw [upd_ne ndp.2.1]; exact p5
  obtain ⟨R7, x7⟩ := R6.mutE (D := b) (o := .lst (ws.reverse ++ [.int (-1)])) (by simp)
  refine ⟨.ref p, vi, p, _, 1, .ref b, rfl, rfl, SqL.of p6, rfl, .inl ⟨rfl, _, SqL.of upd_same⟩, 1, rfl, b, _, .int (-1), rfl, rfl, upd_same, by rw [List.length_reverse, rb.length]; exact hzy, ?_⟩
  exact q _ HP1 _ as2 R7.nots (((((x1.trans x4).trans x5).trans x6).trans x7).cut)
end
end L3

namespace L3
open PySem L2
def dLcO (vs : List Nat) (l j : Nat) (tt : DT) (te : DE) : DE := fun ex env Q => ∃ xs, env[l]? = some (some (.own xs)) ∧ (xs.length ≤ sizeLine ∧ j < env.length) ∧ ∃ Wd : Nat → List PyData → En → Prop, Wd 0 [] (wipeE env vs) ∧
  (∀ (i : Nat) acc n, i < xs.length → Wd i acc n → n[l]? = some (some (.own xs)) ∧ tt exF (n.set j (some (.sh (xs.getD i .none)))) fun b n2 => if b = true then te exF n2 fun v n3 => ∃ d n4, share v n3 = some (d, n4) ∧ Wd (i + 1) (acc ++ [d]) (wipeE n4 vs) else Wd (i + 1) acc (wipeE n2 vs)) ∧
  ∀ acc n, Wd xs.length acc n → n[l]? = some (some (.own xs)) ∧ Q (.tmp (.own acc)) n
section
variable {X : Cx} {C : Ct} {W : WX} {elt tg iter : Expr} {ifs : List Expr} {scope : Scope} {own : List (Str × Nat)} {pos : Pos} {js : List Nat} {g : TG} {ti : DI} {tt : DT} {te : DE}
theorem mono_lcO {vs : List Nat} {l j : Nat} : MonoE (dLcO vs l j tt te) := fun ex ex' env Q Q' hx hq ⟨xs, h1, h2, Wd, h3, h4, h5⟩ => ⟨xs, h1, h2, Wd, h3, h4, fun acc n w => ⟨(h5 acc n w).1, hq _ _ (h5 acc n w).2⟩⟩
theorem lift_lcO {K : PySem.W.Frag} {l j : Nat} (vs : List Nat) (mt : MonoT tt) (me : MonoE te) (hj : j ∈ vs) (hl : l ∉ vs) (hio : ∀ v ∈ vs, v ∉ C.io)
    {σ : L2.St} {H1 : Hp} {Q : VK} (h : lift K C W (dLcO vs l j tt te) σ H1 Q) : tLc (iList K (tVar l)) (gName j) (liftT K C W0 tt) (lift K C W0 te) vs σ H1 Q := by
  obtain ⟨HP1, n1, as1, R1, xs, e1, ⟨hc, hl0⟩, Wd, w0, turn, done⟩ := h
  obtain ⟨a, vs0, sl, ha0, ra0, _⟩ := R1.mut e1
  refine ⟨.ref a, sl, a, rfl, ⟨_, SqL.of ha0⟩, fun D hD => ?_⟩
  have x1 : Stp HP1 H1 as1 HP1 H1 as1 := Stp.refl
  have at_ : ∀ {σ' : L2.St} {HP' H' : Hp} {n' : En} {as' ts' : List Addr}, Rel K C HP' σ' H' n' as' ts' → σ'[l]? = σ[l]? → n'[l]? = some (some (.own xs)) → ∃ ws, H' a = some (.lst ws) ∧ RpAll HP' ws xs := fun r es en => by
    obtain ⟨b, ws, f1, f2, f3, _⟩ := r.mut en
    rw [es, sl] at f1
    cases f1
    exact ⟨ws, f2, f3⟩
  obtain ⟨as1w, R1w, m1⟩ := R1.blk (σ := σ) (vs := vs) rfl (fun _ _ => rfl) hio
  have R1d := R1w.newT (o := .lst []) hD
  refine ⟨fun i m H => m = xs.length - i ∧ i ≤ xs.length ∧ ∃ HP' n' as' acc vacc, Rel K C HP' (wipe σ vs) H n' as' [D] ∧ H D = some (.lst vacc) ∧ RpAll HP' vacc acc ∧ acc.length ≤ i ∧ Stp HP1 H1 as1 HP' H (as' ++ [D]) ∧ (∀ v ∈ vs, ∀ s, n'[v]? ≠ some (some s)) ∧ Wd i acc n',
    ⟨xs.length, by simp, Nat.zero_le _, HP1, _, as1w, [], [], R1d, upd_same, .nil, Nat.le_refl _, Stp.newT hD fun a ha => ?_, fun v hv s => wipeE_no hv, w0⟩, ?_⟩
  · rcases List.mem_append.mp ha with z | z
    · exact .inl (m1 a z)
    · exact .inr (by simpa using z)
  rintro i m H' ⟨rfl, hi, HP', n', as', acc, vacc, R', hD', ra, la, x', wn, wd⟩
  by_cases hlt : i < xs.length
  · obtain ⟨tn, turn'⟩ := turn i acc n' hlt wd
    have hd' : xs[i]? = some xs[i] := List.getElem?_eq_getElem hlt
    have hgD : xs.getD i .none = xs[i] := by simp [List.getD_eq_getElem?_getD, hd']
    obtain ⟨ws, wa, wr⟩ := at_ R' (wipe_out hl) tn
    obtain ⟨wv, wi1, wi2⟩ := wr.get hd'
    refine .inr ⟨⟨ws, wv, SqL.of wa, wi1⟩, fun H'' => ∃ HP' n' as' acc vacc, Rel K C HP' (wipe σ vs) H'' n' as' [D] ∧ H'' D = some (.lst vacc) ∧ RpAll HP' vacc acc ∧ acc.length ≤ i + 1 ∧ Stp HP1 H1 as1 HP' H'' (as' ++ [D]) ∧ (∀ v ∈ vs, ∀ s, n'[v]? ≠ some (some s)) ∧ Wd (i + 1) acc n',
      fun H'' p => ⟨xs.length - (i + 1), by omega, rfl, hlt, p⟩, fun x H'' y => ?_⟩
    have len' : n'.length = n1.length := by
      have e1 := R'.rep.len
      have e2 := R1.rep.len
      rw [wipe_length] at e1
      omega
    obtain ⟨rfl, hy⟩ := y
    have ev : x = wv := Option.some.inj ((hy ws (SqL.of wa)).symm.trans wi1)
    subst ev
    have R0 : Rel K C HP' (wipe σ vs) H'' n' as' ([] ++ []) := R'.nots
    obtain ⟨as2, R2, m2⟩ := R0.store (s := .sh xs[i]) (v := x) (t := []) (i := j) ⟨wi2, rfl⟩ (by rw [len']; exact hl0) (.inl (hio j hj))
    rw [← hgD] at R2
    have x2 : Stp HP' H'' as' HP' H'' as2 := Stp.refl.less fun c hc => by simpa using m2 c hc
    have l2 : ((wipe σ vs).set j (some x)).length = (wipe σ vs).length := by simp
    have k2 : ∀ k : Nat, k ∉ [j] → ((wipe σ vs).set j (some x))[k]? = (wipe σ vs)[k]? := fun k hk => List.getElem?_set_ne (fun z => hk (by simp [z]))
    generalize eσ : (wipe σ vs).set j (some x) = σ2 at R2 l2 k2
    show (fun σ2 H2 => wipe σ2 vs = wipe σ vs ∧ _) ((wipe σ vs).set j (some x)) H''
    rw [eσ]
    have out : ∀ k : Nat, k ∉ vs → σ2[k]? = σ[k]? := fun k hk => by rw [k2 k fun z => hk (by simp at z; rw [z]; exact hj), wipe_out hk]
    have ls : σ2.length = σ.length := by rw [l2, wipe_length]
    obtain ⟨R2d, s2, x2d⟩ := R'.pend (σ' := wipe σ vs) (by rw [List.append_nil]; exact x2) R2
    refine ⟨wipe_eq ls out, HP', n'.set j (some (.sh (xs.getD i .none))), as2, R2, mt _ _ _ _ _ (fun _ _ z => False.elim z) (fun b n2 q => ?_) turn'⟩
    intro HP3 H3 as3 R3 x3
    obtain ⟨R3d, s3, x3d⟩ := R2d.pend (by rw [List.append_nil]; exact x3) R3
    have hD3 : H3 D = some (.lst vacc) := by rw [s3 D (by simp), s2 D (by simp)]; exact hD'
    have x13 := (x'.trans x2d).trans x3d
    cases b with
    | false =>
      refine iteF ?_
      obtain ⟨as4, R4, m4⟩ := R3d.blk (σ := σ) (vs := vs) ls out hio
      refine ⟨HP3, _, as4, acc, vacc, by simpa using R4, hD3, ra.mono (x2.ex.trans x3.ex), by omega, x13.less fun a ha => ?_, fun v hv s => wipeE_no hv, q⟩
      rcases List.mem_append.mp ha with z | z
      · exact List.mem_append_left _ (m4 a z)
      · exact List.mem_append_right _ (by simpa using z)
    | true =>
      refine iteT ⟨HP3, n2, as3, R3, me _ _ _ _ _ (fun _ _ z => False.elim z) (fun val n3 q => ?_) q⟩
      intro w HP4 H4 as4 ts4 R4 x4 V4
      obtain ⟨d, n4, e4, q⟩ := q
      obtain ⟨R4d, s4, x4d⟩ := R3d.pend x4 R4
      have hD4 : H4 D = some (.lst vacc) := by rw [s4 D (by simp)]; exact hD3
      have R4p : Rel K C HP4 σ2 H4 n3 as4 (ts4 ++ [D]) := R4d.perm (by simpa using (List.perm_append_comm (l₁ := [D]) (l₂ := ts4)))
      obtain ⟨HP5, as5, R5, g5, x5⟩ := R4p.share V4 e4
      obtain ⟨as6, R6, m6⟩ := R5.blk (σ := σ) (vs := vs) ls out hio
      obtain ⟨R7, x7⟩ := R6.mutT (o := .lst (vacc ++ [w]))
      have ra5 : RpAll HP5 vacc acc := ra.mono (((x2.ex.trans x3.ex).trans x4.ex).trans x5.ex)
      have x15 : Stp HP1 H1 as1 HP5 H4 (as6 ++ [D]) := ((x13.trans x4d).trans (x5.from fun a ha => by simp at ha ⊢; rcases ha with z | z | z <;> simp [z])).less fun a ha => by
        rcases List.mem_append.mp ha with z | z
        · exact List.mem_append_left _ (m6 a z)
        · exact List.mem_append_right _ z
      exact ⟨vacc, hD4, by rw [ra5.length]; omega, HP5, _, as6, acc ++ [d], vacc ++ [w], R7, upd_same, ra5.append (.cons g5 .nil), by simp; omega, x15.trans x7, fun v hv s => wipeE_no hv, q⟩
  · have e : i = xs.length := by omega
    subst e
    obtain ⟨dn, done'⟩ := done acc n' wd
    obtain ⟨ws, wa, wr⟩ := at_ R' (wipe_out hl) dn
    refine .inl ⟨⟨ws, SqL.of wa, by rw [wr.length]; exact Nat.le_refl _⟩, ?_⟩
    have Rf : Rel K C HP' σ H' n' as' [D] := R'.cong (wipe_length σ vs) (fun k s e => wipe_out fun z => wn k z s e) fun k hk => wipe_out fun z => hio k z hk
    exact done' (.ref D) HP' H' as' [D] Rf (x1.trans x') ⟨D, vacc, rfl, rfl, hD', ra⟩
theorem do_lcO {x : Str} {px ptg : Pos} {y : Str} (hc : X.calm = true) (hN : X.N.Nodup) (own : List (Str × Nat)) (l j : Nat) (ok : BlkOk X.N X.env.scope scope own)
    (hg : ∀ (s : Shared) (H : Hp) (Cc : Addr) (cl : List (Str × Addr)) (fp : List Addr), PG (X.blk s H scope (compEnvC scope cl Cc X.env) fp) (.Name y ptg) (gName j)) (ht : ∀ (s : Shared) (H : Hp) (Cc : Addr) (cl : List (Str × Addr)) (fp : List Addr), DPTs (X.blk s H scope (compEnvC scope cl Cc X.env) fp) C ifs tt)
    (he : ∀ (s : Shared) (H : Hp) (Cc : Addr) (cl : List (Str × Addr)) (fp : List Addr), DP (X.blk s H scope (compEnvC scope cl Cc X.env) fp) C W0 elt te) (hx : X.N[l]? = some x := by rfl) (hv : Vis X.env.scope x := by first | exact Or.inl rfl | exact Or.inr (Or.inl rfl) | exact Or.inr (Or.inr rfl)) (hd : (x == ("__debug__" : Str)) = false := by decide)
    (hcd : (x == ("__classdict__" : Str)) = false := by decide) (hj : j ∈ own.map (·.2) := by exact of_decide_eq_true rfl) (hl : l ∉ own.map (·.2) := by exact of_decide_eq_true rfl) (hio : ∀ v ∈ own.map (·.2), v ∉ C.io := by exact of_decide_eq_true rfl) (hs : ∀ z, foldedSetIterable (.Name x px) X.env z = pure z := by intro _; rfl) :
    DP X C W (.ListComp elt [⟨.Name y ptg, .Name x px, ifs, 0⟩] scope pos) (dLcO (own.map (·.2)) l j tt te) :=
  ⟨(pe_lc (tt := liftT X.K C W0 tt) (te := lift X.K C W0 te) hc hN (pi_list (pe_var hx hv hd hcd)) ok hg (fun s H Cc cl fp => (ht s H Cc cl fp).run) (fun s H Cc cl fp => (he s H Cc cl fp).run) hs).imp fun σ H Q h => lift_lcO _ (ht X.s_0 X.H_0 0 [] []).mono (he X.s_0 X.H_0 0 [] []).mono hj hl hio h, mono_lcO⟩
end
end L3

namespace L3
open PySem PySem.Spec PyProof.Rows L2 HotX

section
variable {prog : Program} {w : World} {A : Around} {E : Value → Shared → Prop} {s : Shared}
theorem HotAt.keep {x1 : Addr} {h h' : Heap} (hot : HotAt A x1 h) (k : ∀ o vs, h.get? x1 = some o → o.data = .fields vs → vs[2]? = some .none → h'.get? x1 = some o) : HotAt A x1 h' := by
  obtain ⟨e1, o, vs, e2, e3, e4⟩ := hot
  exact ⟨e1, o, vs, k o vs e2 e3 e4, e3, e4⟩
/-- the end of a list's iterator, hot: the new error's context is the handled one -/
theorem lst_end_hot {p l x1 : Addr} {i : Nat} {its : Array Value} {Q : Value → Shared → Prop} (hot : HotAt A x1 s.heap) (hp : x1 ≠ p) (st : s.heap.IsListIter p l i) (hl : s.heap.IsList l its) (hn : its[i]? = none)
    (k : ∀ h2 e, Heap.ExtBut p s.heap h2 → (∃ o, h2.get? e = some o ∧ o.cls = .type "StopIteration") → E (.ref e) { s with heap := h2 }) : wpAny (model prog w) A (Builtin.SmallTypes.nextOf (.ref p)) Q E s := by
  obtain ⟨op, gp, cp, dp⟩ := id st
  obtain ⟨ol, gl, _, n, dl⟩ := hl
  unfold Builtin.SmallTypes.nextOf
  refine wpAny_bind (wpAny_callSpecial?_slot (name := Str.ofString "__next__") st.typeIs slot_listiter_next (wpAny_call_entry slot_listiter_next st.typeIs entry_listiter_next ?_ (args_listiter_next _)))
  show wpAny _ _ (field (.ref p) 0 >>= _) _ E s
  refine wpAny_bind (wpAny_field gp dp (x := .ref l) rfl ?_)
  show wpAny _ _ (if (Value.ref l == Value.none) = true then _ else _) _ E s
  have nn : ¬ (Value.ref l == Value.none) = true := fun z => Bool.noConfusion (show false = true from z)
  rw [if_neg nn]
  show wpAny _ _ (field (.ref p) 1 >>= _) _ E s
  refine wpAny_bind (wpAny_field gp dp (x := .int i 0) rfl ?_)
  show wpAny _ _ (seqItems? (.ref l) >>= _) _ E s
  refine wpAny_bind (wpAny_seqItems gl dl ?_)
  simp only [Int.toNat_natCast, hn]
  refine wpAny_bind (wpAny_rule (wpAny_bind (wpAny_setField gp dp (by simp) ?_)))
  obtain ⟨hh, o1, v1, g1, d1, c1⟩ := hot
  have g1' := (Heap.get?_update_other (h := s.heap) (a := p) (b := x1) (Obj.mapFields (·.setIfInBounds 0 .none)) hp.symm)
  show wpAny _ _ (newExc (.type "StopIteration") [] >>= _) _ E _
  refine wpAny_bind ?_
  simp only [newExc, newTuple]
  refine wpAny_bind (wpAny_newObj_type ?_ (by size_fits))
  refine wpAny_bind (m := firstArgMember _ _) (wpAny_of_eq (a := Value.none) (by first | rfl | (simp only [firstArgMember]; rfl)) ?_)
  refine wpAny_newObj_type ?_ (by size_fits)
  refine raiseNew_hot (x1 := x1) ⟨hh, o1, v1, Heap.get?_push_of_some _ (Heap.get?_push_of_some _ (g1'.trans g1)), d1, c1⟩ (Nat.ne_of_lt (Heap.lt_size (Heap.get?_push_of_some _ (g1'.trans g1)))) (Heap.get?_push_size _ rfl) rfl (by first | (simp; done) | (simp; omega)) ?_
  refine k _ _ (fun b o hb e => ?_) ⟨_, Heap.get?_update_self _ (Heap.get?_push_size _ rfl) rfl, rfl⟩
  have e0 := (Heap.get?_update_other (h := s.heap) (a := p) (b := b) (Obj.mapFields (·.setIfInBounds 0 .none)) (Ne.symm hb)).trans e
  rw [Heap.get?_update_other _ _ (Nat.ne_of_gt (Heap.lt_size (Heap.get?_push_of_some _ e0)))]
  exact Heap.get?_push_of_some _ (Heap.get?_push_of_some _ e0)
/-- one of two lists is at its end, hot -/
theorem zip_end_hot {z TI TO p q l m x1 : Addr} {i j : Nat} {us vs : Array Value} {c d : Value} {Q : Fin → Shared → Prop} (hot : HotAt A x1 s.heap) (n1 : x1 ≠ z) (n2 : x1 ≠ TO) (n3 : x1 ≠ p) (n4 : x1 ≠ q) (D : ZipApart z TI TO p q l m)
    (gz : IsZip s.heap z TI TO .none) (gI : IsPair s.heap TI (.ref p) (.ref q)) (gO : IsPair s.heap TO c d) (sp : s.heap.IsListIter p l i) (sq : s.heap.IsListIter q m j) (hl : s.heap.IsList l us) (hm : s.heap.IsList m vs) (e : us[i]? = none ∨ vs[j]? = none)
    (k : ∀ h2 x, (∀ b o, b ≠ z → b ≠ TO → b ≠ p → b ≠ q → s.heap.get? b = some o → h2.get? b = some o) → (∃ o, h2.get? x = some o ∧ o.cls = .type "StopIteration") → E (.ref x) { s with heap := h2 }) :
    wpAny (model prog w) A (Builtin.«zip.__next__» ⟨[.ref z], []⟩) Q E s := by
  show wpAny _ A (field (.ref z) 2 >>= _) _ E s
  refine wpAny_bind (wpAny_field gz rfl (x := .bool false) rfl ?_)
  show wpAny _ A (field (.ref z) 3 >>= _) _ E s
  refine wpAny_bind (wpAny_field gz rfl (x := .ref TI) rfl (wpAny_bind (wpAny_seqItems gI rfl ?_)))
  show wpAny _ A (Builtin.SmallTypes.ownedTupleIsFree (.ref z) >>= _) _ E s
  unfold Builtin.SmallTypes.ownedTupleIsFree
  refine wpAny_bind (wpAny_bind (wpAny_field gz rfl (x := .none) rfl (wpAny_pure ?_)))
  simp only [if_true]
  refine wpAny_bind (wpAny_rule (wpAny_bind (wpAny_field gz rfl (x := .ref TO) rfl (wpAny_bind (wpAny_setField_rec gz (by simp) fun h1 gz1 b1 => wpAny_bind ?_)))))
  have gz1 : IsZip h1 z TI TO .ellipsis := gz1
  have hot1 : HotAt A x1 h1 := HotAt.keep hot fun o _ g _ _ => b1.extBut _ _ n1 g
  simp only [List.zipIdx_cons, List.zipIdx_nil, List.forIn_cons, List.forIn_nil]
  refine wpAny_bind (wpAny_bind (wpAny_onRaise ?_))
  show wpAny _ A (Builtin.SmallTypes.nextOf (.ref p) >>= _) _ _ _
  by_cases hi : us[i]? = none
  · refine wpAny_bind (lst_end_hot (x1 := x1) hot1 n3 (sp.extBut b1.extBut D.i1z) (hl.extBut b1.extBut D.l1z) hi fun h2 x b2 hx => ?_)
    obtain ⟨ox, gx, cx⟩ := hx
    have gz2 : IsZip h2 z TI TO .ellipsis := b2 _ _ D.i1z.symm gz1
    have nz : x ≠ z := fun y => by
      subst y
      rw [gz2] at gx
      cases gx
      simp at cx
    exact wpAny_setField_rec gz2 (by simp) fun h3 _ b3 => k h3 x (fun b o y1 _ y3 _ g => b3.extBut _ _ y1 (b2 _ _ y3 (b1.extBut _ _ y1 g))) ⟨ox, b3.extBut _ _ nz gx, cx⟩
  · obtain ⟨x, hx⟩ := Option.ne_none_iff_exists'.mp hi
    have hj : vs[j]? = none := e.resolve_left hi
    refine wpAny_bind (wpAny_nextOf_list_item (sp.extBut b1.extBut D.i1z) (hl.extBut b1.extBut D.l1z) hx fun h2 _ b2 => wpAny_pure ?_)
    have gO2 : IsPair h2 TO c d := b2.extBut _ _ D.TOi1 (b1.extBut _ _ D.TOz gO)
    refine wpAny_bind (wpAny_seqItems gO2 rfl (wpAny_bind (wpAny_updateSeq_pair gO2 fun h3 gO3 b3 => wpAny_bind (wpAny_letGo (wpAny_pure (wpAny_bind (wpAny_bind (wpAny_onRaise ?_))))))))
    have hot3 : HotAt A x1 h3 := HotAt.keep hot1 fun o _ g _ _ => b3.extBut _ _ n2 (b2.extBut _ _ n3 g)
    show wpAny _ A (Builtin.SmallTypes.nextOf (.ref q) >>= _) _ _ _
    refine wpAny_bind (lst_end_hot (x1 := x1) hot3 n4 (((sq.extBut b1.extBut D.i2z).extBut b2.extBut D.i12.symm).extBut b3.extBut D.TOi2.symm) (((hm.extBut b1.extBut D.l2z).extBut b2.extBut D.l2i1).extBut b3.extBut D.l2TO) hj fun h4 y b4 hy => ?_)
    obtain ⟨oy, gy, cy⟩ := hy
    have gz4 : IsZip h4 z TI TO .ellipsis := b4 _ _ D.i2z.symm (b3.extBut _ _ D.TOz.symm (b2.extBut _ _ D.i1z.symm gz1))
    have nz : y ≠ z := fun y => by
      subst y
      rw [gz4] at gy
      cases gy
      simp at cy
    exact wpAny_setField_rec gz4 (by simp) fun h5 _ b5 => k h5 y (fun b o y1 y2 y3 y4 g => b5.extBut _ _ y1 (b4 _ _ y4 (b3.extBut _ _ y2 (b2.extBut _ _ y3 (b1.extBut _ _ y1 g))))) ⟨oy, b5.extBut _ _ nz gy, cy⟩
theorem next_zip_end_hot {z TI TO p q l m x1 : Addr} {i j : Nat} {us vs : Array Value} {c d : Value} {Q : Option Value → Shared → Prop} (hot : HotAt A x1 s.heap) (n1 : x1 ≠ z) (n2 : x1 ≠ TO) (n3 : x1 ≠ p) (n4 : x1 ≠ q) (D : ZipApart z TI TO p q l m)
    (gz : IsZip s.heap z TI TO .none) (gI : IsPair s.heap TI (.ref p) (.ref q)) (gO : IsPair s.heap TO c d) (sp : s.heap.IsListIter p l i) (sq : s.heap.IsListIter q m j) (hl : s.heap.IsList l us) (hm : s.heap.IsList m vs) (e : us[i]? = none ∨ vs[j]? = none)
    (k : ∀ h2, (∀ b o, b ≠ z → b ≠ TO → b ≠ p → b ≠ q → s.heap.get? b = some o → h2.get? b = some o) → Q none { s with heap := h2 }) : wpAny (model prog w) A (pyNext (.ref z)) Q E s := by
  have ty : s.TypeIs (.ref z) "zip" := ⟨_, gz, rfl⟩
  unfold pyNext
  refine wpAny_bind (wpAny_attempt (wpAny_callSpecial?_slot (name := Str.ofString "__next__") ty F.slot_zip_next (wpAny_call_entry F.slot_zip_next ty F.entry_zip_next (zip_end_hot (x1 := x1) hot n1 n2 n3 n4 D gz gI gO sp sq hl hm e fun h2 x g hx => ?_) (F.args_zip_next_1 _))))
  obtain ⟨o, go, co⟩ := hx
  exact wpAny_bind (wpAny_isInstance (T := "StopIteration") (b := true) ⟨o, go, co⟩ isSubtype_stop (wpAny_pure (k _ g)))
end
end L3

namespace L3
open PySem PySem.Spec PyProof.Rows L2 HotX L2H
section
variable {prog : Program} {w : World} {A : Around} {E : Value → Shared → Prop} {s : Shared}
/-- the iterator of a tuple at its end, hot -/
theorem tup_end_hot {p l x1 : Addr} {i : Nat} {its : Array Value} {Q : Option Value → Shared → Prop} (hot : HotAt A x1 s.heap) (hp : x1 ≠ p) (st : IsTupIter s.heap p l i) (hl : IsTup s.heap l its) (hn : its[i]? = none)
    (k : ∀ h2, Heap.ExtBut p s.heap h2 → Q none { s with heap := h2 }) : wpAny (model prog w) A (pyNext (.ref p)) Q E s := by
  obtain ⟨op, gp, cp, dp⟩ := id st
  obtain ⟨ol, gl, _, n, dl⟩ := hl
  unfold pyNext
  refine wpAny_bind (wpAny_attempt (wpAny_callSpecial?_slot (name := Str.ofString "__next__") st.typeIs slot_tupleiter_next (wpAny_call_entry slot_tupleiter_next st.typeIs entry_tupleiter_next ?_ (args_tupleiter_next _))))
  show wpAny _ _ (field (.ref p) 0 >>= _) _ _ s
  refine wpAny_bind (wpAny_field gp dp (x := .ref l) rfl ?_)
  show wpAny _ _ (if (Value.ref l == Value.none) = true then _ else _) _ _ s
  have nn : ¬ (Value.ref l == Value.none) = true := fun z => Bool.noConfusion (show false = true from z)
  rw [if_neg nn]
  show wpAny _ _ (field (.ref p) 1 >>= _) _ _ s
  refine wpAny_bind (wpAny_field gp dp (x := .int i 0) rfl ?_)
  show wpAny _ _ (seqItems? (.ref l) >>= _) _ _ s
  refine wpAny_bind (wpAny_seqItems gl dl ?_)
  simp only [Int.toNat_natCast, hn]
  refine wpAny_bind (wpAny_rule (wpAny_bind (wpAny_setField gp dp (by simp) ?_)))
  obtain ⟨hh, o1, v1, g1, d1, c1⟩ := hot
  have g1' := (Heap.get?_update_other (h := s.heap) (a := p) (b := x1) (Obj.mapFields (·.setIfInBounds 0 .none)) hp.symm)
  show wpAny _ _ (newExc (.type "StopIteration") [] >>= _) _ _ _
  refine wpAny_bind ?_
  simp only [newExc, newTuple]
  refine wpAny_bind (wpAny_newObj_type ?_ (by size_fits))
  refine wpAny_bind (m := firstArgMember _ _) (wpAny_of_eq (a := Value.none) (by first | rfl | (simp only [firstArgMember]; rfl)) ?_)
  refine wpAny_newObj_type ?_ (by size_fits)
  refine raiseNew_hot (x1 := x1) ⟨hh, o1, v1, Heap.get?_push_of_some _ (Heap.get?_push_of_some _ (g1'.trans g1)), d1, c1⟩ (Nat.ne_of_lt (Heap.lt_size (Heap.get?_push_of_some _ (g1'.trans g1)))) (Heap.get?_push_size _ rfl) rfl (by first | (simp; done) | (simp; omega)) ?_
  refine wpAny_bind (wpAny_isInstance (T := "StopIteration") (b := true) ⟨_, Heap.get?_update_self _ (Heap.get?_push_size _ rfl) rfl, rfl⟩ isSubtype_stop (wpAny_pure (k _ fun b o hb e => ?_)))
  have e0 := (Heap.get?_update_other (h := s.heap) (a := p) (b := b) (Obj.mapFields (·.setIfInBounds 0 .none)) (Ne.symm hb)).trans e
  rw [Heap.get?_update_other _ _ (Nat.ne_of_gt (Heap.lt_size (Heap.get?_push_of_some _ e0)))]
  exact Heap.get?_push_of_some _ (Heap.get?_push_of_some _ e0)
theorem unpackItems_hot {t x1 : Addr} {its : Array Value} {Q : List Value → Shared → Prop} (hot : HotAt A x1 s.heap) (ht : IsTup s.heap t its) (k : ∀ h', Heap.ExtBut s.heap.objs.size s.heap h' → Q its.toList { s with heap := h' }) :
    wpAny (model prog w) A (unpackItems (.ref t) its.size none) Q E s := by
  have hlt : t ≠ s.heap.objs.size := by
    obtain ⟨o, ho, _⟩ := ht
    exact Nat.ne_of_lt (Heap.lt_size ho)
  have hx : x1 ≠ s.heap.objs.size := by
    obtain ⟨_, o1, _, g1, _⟩ := hot
    exact Nat.ne_of_lt (Heap.lt_size g1)
  unfold unpackItems notIterableAtAll
  refine wpAny_bind (wpAny_bind (wpAny_specialOf ht.typeIs slot_tuple_iter.lookup (wpAny_pure ?_)))
  simp only [Bool.false_eq_true, if_false]
  refine wpAny_bind (wpAny_holding (iter_tuple ht (wpAny_bind (wpAny_holding (draw_tuple hlt its.size 0 _ _ ⟨_, Heap.get?_push_size _ rfl, rfl, rfl⟩ (ht.push _) (by omega) fun h1 it1 b1 => ?_)))))
  have e : List.take its.size (List.drop 0 its.toList) = its.toList := by
    rw [List.drop_zero]
    exact List.take_of_length_le (by simp)
  rw [e, if_neg (by simp)]
  have hot1 : HotAt A x1 h1 := HotAt.keep hot fun o _ g _ _ => b1.extBut _ _ hx (Heap.get?_push_of_some _ g)
  refine wpAny_bind (wpAny_holding (tup_end_hot (x1 := x1) hot1 hx it1 ((ht.push _).extBut b1.extBut hlt) (by simp) fun h2 b2 => ?_))
  simp only [Option.isSome_none, Bool.false_eq_true, if_false]
  exact wpAny_pure (k h2 fun b o hb q => b2 b o hb (b1.extBut b o hb (Heap.get?_push_of_some _ q)))
end
/-- a target's assignment, with p's pin at hand -/
structure PGP (p : Addr × Obj) (X : Cx) (target : Expr) (t : TG) : Prop where
  run : ∀ (pins : List (Addr × Obj)) (s : Shared) (σ : L2.St) (H : Hp) (v : V) (u : Value) (Q : L2.St → Hp → Prop), p ∈ X.pn ++ pins → Inv X pins σ H s → RelV v u → t v σ H Q → wpAny (model X.prog X.w) X.A (assign target X.env u) (fun _ t => ∃ σ' H', Inv X pins σ' H' t ∧ Q σ' H') X.xe s
theorem PG.pp {p : Addr × Obj} {X : Cx} {e : Expr} {t : TG} (h : PG X e t) : PGP p X e t := ⟨fun pins s σ H v u Q _ I r q => h.run pins s σ H v u Q I r q⟩
theorem pg_tupP {X : Cx} {p : Addr × Obj} {es : List Expr} {k n : Nat} {pos : Pos} {t : TGs} (hot : Hot1 X.A p) (h : PGs X es t) (hn : (assignEach es X.env).length = n := by rfl) (hst : (assignEach es X.env).findIdx? (·.1) = none := by rfl) :
    PGP p X (.Tuple es k pos) (gTup X.K n t) := by
  refine ⟨fun pins s σ H v u Q hp I r hw => ?_⟩
  obtain ⟨a, xs, rfl, hq, hl, hw⟩ := hw
  cases r
  obtain ⟨its, rv, ht, hz⟩ := I.tuple hq
  have at1 := (I.pin p hp).1
  rw [assign_Tuple]
  refine wpAny_bind (wpAny_standAt ?_)
  unfold unpack
  have e : (assignEach es X.env).length = its.toArray.size := by simp [hn, ← hl, rv.length]
  rw [e, hst]
  refine wpAny_bind (wpAny_holding (unpackItems_hot (x1 := p.1) ⟨hot.1, p.2, hot.2.choose, at1, hot.2.choose_spec.1, hot.2.choose_spec.2⟩ ht fun h' hx => ?_))
  have I1 : Inv X pins σ H { s with heap := h' } := I.kept (t' := s.toks) fun b o q => hx b o (Nat.ne_of_lt (Heap.lt_size q)) q
  exact h.run pins _ σ H xs _ Q I1 (by simpa using rv) hw
end L3

namespace L3
open PySem PySem.Spec PyProof.Rows L2 HotX L2H

/-- as Turn, where p is handled -/
structure TurnP (P : Program) (w : World) (K : PySem.W.Frag) (p : Addr × Obj) (tg : Expr) (J : It) (fp : List Addr) (it : Addr) (tn : Nat → Heap → Prop) : Prop where
  obj : ∀ i h, tn i h → ∀ b ∈ fp, ∃ o, h.get? b = some o ∧ ∀ v, o.data ≠ .cell v
  keep : ∀ i h h', tn i h → (∀ b ∈ fp, ∀ o, h.get? b = some o → h'.get? b = some o) → tn i h'
  item : ∀ (X : Cx) (i : Nat) (pins : List (Addr × Obj)) (s : Shared) (σ : L2.St) (H : Hp) (E : Value → Shared → Prop), X.prog = P → X.w = w → X.K = K → Inv X pins σ H s → (∀ b ∈ fp, FpOk X pins H b) → tn i s.heap → J.go i H →
    wpAny (model P w) X.A (pyNext (.ref it)) (fun r t => ∃ u, r = some u ∧ wpAny (model P w) X.A (letOwnedTupleGo tg (.ref it) u) (fun _ t2 => ∃ x G, Inv X pins σ G t2 ∧ RelV x u ∧ J.yld i H x G ∧ tn (i + 1) t2.heap ∧ ∀ b ∈ fp, G b = none) E t) E s
  done : ∀ (X : Cx) (i : Nat) (pins : List (Addr × Obj)) (s : Shared) (σ : L2.St) (H : Hp) (E : Value → Shared → Prop), X.prog = P → X.w = w → X.K = K → Hot1 X.A p → p ∈ X.pn ++ pins → Inv X pins σ H s → (∀ b ∈ fp, FpOk X pins H b) → tn i s.heap → J.stop i H →
    wpAny (model P w) X.A (pyNext (.ref it)) (fun r t => r = none ∧ Inv X pins σ H t) E s
  self : ∀ (A : Around) (i : Nat) (s : Shared) (Q : Value → Shared → Prop) (E : Value → Shared → Prop), tn i s.heap → Q (.ref it) s → wpAny (model P w) A (pyIter (.ref it)) Q E s
theorem zip_turnP {P : Program} {w : World} {K : PySem.W.Frag} {p : Addr × Obj} {es : List Expr} {n : Nat} {ps : Pos} {l m z TI TO i1 i2 : Addr} (D : ZipApart z TI TO i1 i2 l m) :
    TurnP P w K p (.Tuple es n ps) (Itz K l m) [z, TI, TO, i1, i2] z (fun i h => IsZip h z TI TO .none ∧ IsPair h TI (.ref i1) (.ref i2) ∧ (∃ x y, IsPair h TO x y) ∧ h.IsListIter i1 l i ∧ h.IsListIter i2 m i) where
  obj := (turn_zip (P := P) (w := w) (K := K) (elts := es) (kk := n) (tpos := ps) D).obj
  keep := (turn_zip (P := P) (w := w) (K := K) (elts := es) (kk := n) (tpos := ps) D).keep
  self := (turn_zip (P := P) (w := w) (K := K) (elts := es) (kk := n) (tpos := ps) D).self
  item := by
    intro X i pins s σ H E e1 e2 e3 I ff st go
    subst e1 e2 e3
    obtain ⟨gz, gI, ⟨c, d, gO⟩, s1, s2⟩ := st
    obtain ⟨xs, ys, x, y, qx, qy, ex, ey⟩ := go
    obtain ⟨us, r1, k1, _⟩ := I.list qx
    obtain ⟨vs, r2, k2, _⟩ := I.list qy
    obtain ⟨u, eu, ru⟩ := r1.get ex
    obtain ⟨v, ev, rv⟩ := r2.get ey
    have zl : z < s.heap.objs.size := Heap.lt_size gz
    have mem5 : ∀ {b : Addr}, b ∈ [z, TI, TO, i1, i2] → b = z ∨ b = TI ∨ b = TO ∨ b = i1 ∨ b = i2 := fun h => by simpa using h
    have out : ∀ {b : Addr}, b ∉ [z, TI, TO, i1, i2] → b ≠ z ∧ b ≠ TO ∧ b ≠ i1 ∧ b ≠ i2 := fun h => ⟨fun q => h (by simp [q]), fun q => h (by simp [q]), fun q => h (by simp [q]), fun q => h (by simp [q])⟩
    refine wpAny_pyNext_zip_item D gz gI gO s1 s2 k1.isList k2.isList (x := u) (y := v) (by simpa using eu) (by simpa using ev) fun h1 z1 O1 t1 t2 gT sz kp => ⟨_, rfl, ?_⟩
    refine wpAny_letOwnedTupleGo_zip (s := { s with heap := h1 }) z1 fun h2 z2 sb => ?_
    have gT2 : h2.get? s.heap.objs.size = some { cls := .type "tuple", data := .seq #[u, v] } := (sb.2 _ (Nat.ne_of_gt zl)).trans gT
    have obj : ObjOk X.prog X.w (upd H s.heap.objs.size (.tup [x, y])) h2 s.heap.objs.size (.tup [x, y]) := ⟨(show 2 ≤ sizeLine by decide), [u, v], .cons ru (.cons rv .nil), ⟨_, gT2, rfl, _, rfl⟩⟩
    have J := I.turnedNew (h' := h2) (t' := s.toks) (ch := [z, TI, TO, i1, i2]) (fun b o hb g => (sb.2 b (out hb).1).trans (kp b o (out hb).1 (out hb).2.1 (out hb).2.2.1 (out hb).2.2.2 g)) ff (Nat.le_refl _) obj
    refine ⟨.ref s.heap.objs.size, _, J, rfl, ⟨_, x, y, rfl, I.hok.fresh (Nat.le_refl _), rfl, fun q hq => (by rw [I.list_inj hq qx]; exact ex), fun q hq => (by rw [I.list_inj hq qy]; exact ey)⟩, ⟨z2, (sb.2 _ D.TIz).trans (kp _ _ D.TIz D.TITO D.TIi1 D.TIi2 gI), ⟨u, v, (sb.2 _ D.TOz).trans O1⟩, t1.at fun o q => (sb.2 _ D.i1z).trans q, t2.at fun o q => (sb.2 _ D.i2z).trans q⟩, fun b hb => ?_⟩
    have lt : b < s.heap.objs.size := by
      rcases mem5 hb with rfl | rfl | rfl | rfl | rfl
      · exact zl
      · exact Heap.lt_size gI
      · exact Heap.lt_size gO
      · obtain ⟨_, g, _⟩ := s1; exact Heap.lt_size g
      · obtain ⟨_, g, _⟩ := s2; exact Heap.lt_size g
    exact (upd_ne (Nat.ne_of_lt lt)).trans (ff b hb).1
  done := by
    intro X i pins s σ H E e1 e2 e3 hot hp I ff st fin
    subst e1 e2 e3
    obtain ⟨gz, gI, ⟨c, d, gO⟩, s1, s2⟩ := st
    obtain ⟨xs, ys, qx, qy, en⟩ := fin
    obtain ⟨us, r1, k1, _⟩ := I.list qx
    obtain ⟨vs, r2, k2, _⟩ := I.list qy
    have n1 := r1.length
    have n2 := r2.length
    obtain ⟨hh, v1, d1, c1⟩ := hot
    have out : ∀ {b : Addr}, b ∉ [z, TI, TO, i1, i2] → b ≠ z ∧ b ≠ TO ∧ b ≠ i1 ∧ b ≠ i2 := fun h => ⟨fun q => h (by simp [q]), fun q => h (by simp [q]), fun q => h (by simp [q]), fun q => h (by simp [q])⟩
    have away : ∀ b ∈ [z, TI, TO, i1, i2], p.1 ≠ b := fun b hb => (ff b hb).2.2.2.2.2 p hp
    refine next_zip_end_hot (x1 := p.1) ⟨hh, p.2, v1, (I.pin p hp).1, d1, c1⟩ (away _ (by simp)) (away _ (by simp)) (away _ (by simp)) (away _ (by simp)) D gz gI gO s1 s2 k1.isList k2.isList ?_ fun h2 kp => ⟨rfl, I.turnedL (t' := s.toks) (ch := [z, TI, TO, i1, i2]) (fun b o hb g => kp b o (out hb).1 (out hb).2.1 (out hb).2.2.1 (out hb).2.2.2 g) ff⟩
    rcases en with q | q
    · left; simp; omega
    · right; simp; omega
end L3

namespace L3
open PySem PySem.Spec PyProof.Rows L2 HotX L2H

/-- an iterator has come, p is handled -/
def PieP (X : Cx) (p : Addr × Obj) (pins : List (Addr × Obj)) (σ : L2.St) (tg : Expr) (R : It → Hp → Prop) (v : Value) (t : Shared) : Prop :=
  ∃ (it : Addr) (fp : List Addr) (tn : Nat → Heap → Prop) (J : It) (G : Hp), v = .ref it ∧ Inv X pins σ G t ∧ TurnP X.prog X.w X.K p tg J fp it tn ∧ tn 0 t.heap ∧ (∀ b ∈ fp, FpOk X pins G b) ∧ R J G
structure PIP (X : Cx) (p : Addr × Obj) (tg iter : Expr) (wi : TI) : Prop where
  run : ∀ (pins : List (Addr × Obj)) (s : Shared) (σ : L2.St) (H : Hp) (R : It → Hp → Prop), Inv X pins σ H s → wi σ H R → wpAny (model X.prog X.w) X.A (eval iter X.env) (fun v t => wpAny (model X.prog X.w) X.A (pyIter v) (PieP X p pins σ tg R) X.xe t) X.xe s
theorem zip_pip {X : Cx} {p : Addr × Obj} {e1 e2 : Expr} {ta : TA} {pz pos ps : Pos} {es : List Expr} {n : Nat} (hg : Gl X "zip") (hm : X.mg "zip" = none) (ha : PA X [e1, e2] ta)
    (hs : starEach [e1, e2] X.env = (false, eval e1 X.env) :: starEach [e2] X.env := by rfl) (hpl : (backTo pos (starEach [e2] X.env)).any (·.1) = false := by rfl) : PIP X p (.Tuple es n ps) (.Call (.Name "zip" pz) [e1, e2] [] pos) (iZip X.K ta) := by
  refine ⟨fun pins s σ H R I h => ?_⟩
  have step : ∀ (us : List Value) (t : Shared), AP X pins σ (fun vs G => ∃ l m xs ys, vs = [.ref l, .ref m] ∧ SqL X.K G l xs ∧ SqL X.K G m ys ∧ R (Itz X.K l m) G) us t → wpAny (model X.prog X.w) X.A (call (.type "zip") us) (fun v t => wpAny (model X.prog X.w) X.A (pyIter v) (PieP X p pins σ (.Tuple es n ps) R) X.xe t) X.xe t := by
    intro us t hz
    obtain ⟨vs, G, I1, r, l, m, xs, ys, ev, qx, qy, q⟩ := hz
    subst ev
    cases r with
    | cons r1 rr => cases rr with
      | cons r2 rr =>
        cases rr
        cases r1
        cases r2
        obtain ⟨_, _, k1, _⟩ := I1.list qx
        obtain ⟨_, _, k2, _⟩ := I1.list qy
        have a1 := k1.lt
        have a2 := k2.lt
        refine call_zip_2 k1.isList k2.isList fun h2 gz gI gO s1 s2 sz kp => wpAny_pyIter_zip gz ?_
        have I2 : Inv X pins σ G { t with heap := h2 } := I1.kept (t' := t.toks) kp
        have away : ∀ b ∈ [t.heap.objs.size + 4, t.heap.objs.size + 2, t.heap.objs.size + 3, t.heap.objs.size, t.heap.objs.size + 1], FpOk X pins G b := fun b hb => by
          have le : t.heap.objs.size ≤ b := by
            simp only [List.mem_cons, List.not_mem_nil, or_false] at hb
            rcases hb with z | z | z | z | z <;> (rw [z]; first | exact Nat.le_refl _ | exact Nat.le_add_right _ _)
          exact I1.fpOk le (I1.hok.fresh le)
        exact ⟨_, _, _, _, G, rfl, I2, zip_turnP (PySem.W.ktu_apart t.heap.objs.size l m a1 a2), ⟨gz, gI, ⟨_, _, gO⟩, s1, s2⟩, away, q⟩
  refine Call_ (ld_blt I hg hm PyProof.Rows.boot_zip ?_)
  refine PyProof.Rows.callWith_type1 ?_ hs hpl
  exact thn (ha.run pos pins s σ H _ I h) step
end L3

namespace L3
open PySem PySem.Spec PyProof.Rows L2 HotX L2H

section
variable {X : Cx} {p : Addr × Obj}
theorem lc_coreP {pins : List (Addr × Obj)} {s : Shared} {σ : L2.St} {H : Hp} {Q : VK} {elt tg iter : Expr} {ifs : List Expr} {sc : Scope} {own : List (Str × Nat)} {q1 q2 : Pos} {wi : TI} {g : TG} {tt : TT} {te : TE} {use : Option (Value → Sem Unit)} {Qf : Value → Shared → Prop}
    (hot : Hot1 X.A p) (hpn : p ∈ X.pn) (hN : X.N.Nodup) (I : Inv X pins σ H s) (hi : PIP X p tg iter wi) (ok : BlkOk X.N X.env.scope sc own)
    (hg : ∀ (s : Shared) (H : Hp) (C : Addr) (cl : List (Str × Addr)) (fp : List Addr), PGP p (X.blk s H sc (compEnvC sc cl C X.env) fp) tg g)
    (ht : ∀ (s : Shared) (H : Hp) (C : Addr) (cl : List (Str × Addr)) (fp : List Addr), PTs (X.blk s H sc (compEnvC sc cl C X.env) fp) ifs tt)
    (he : ∀ (s : Shared) (H : Hp) (C : Addr) (cl : List (Str × Addr)) (fp : List Addr), PE (X.blk s H sc (compEnvC sc cl C X.env) fp) elt te)
    (hs : ∀ x, foldedSetIterable iter X.env x = pure x) (h : tLc wi g tt te (own.map (·.2)) σ H Q)
    (back : ∀ D C t m G, Inv X pins σ G t → Q (.ref D) G → t.heap.Ns C m → FpOk X pins G C → compPost (model X.prog X.w) X.A X.xe use Qf (.ref D) C (.ok .next) t) :
    wpAny (model X.prog X.w) X.A (comprehension (.ListComp elt [⟨tg, iter, ifs, 0⟩] sc q1) sc X.env q2 (newList []) false (eval iter X.env) use) Qf X.xe s := by
  have cell : ∀ y ∈ sc.names, y.2 = .free → ∃ c, X.env.cells.lookup y.1 = some c := fun y hy e => I.ok.has _ (ok.free y hy e)
  refine wpAny_comprehension_free (use := use) rfl hs (closure_ok cell) ok.kind (fun y hy e => (ok.uniq y hy).trans (congrArg some e)) (thn (hi.run pins s σ H _ I h) fun v t1 h1 => thn h1 fun w t2 h2 => ?_)
  obtain ⟨it, fp, tn, J, G2, rfl, I2, T, st2, f2, q⟩ := h2
  refine wpAny_newObj_type (newEnv_comp ?_) (show 0 ≤ sizeLine by decide)
  generalize hD : t2.heap.objs.size = D
  have dn : G2 D = none := I2.hok.fresh (Nat.le_of_eq hD)
  obtain ⟨W, ⟨m0, w0⟩, turn⟩ := q D dn
  generalize e3 : ({ t2 with heap := t2.heap.push { cls := .type "list", data := .seq ([] : List Value).toArray } } : Shared) = t3
  have p3 : t3.heap = t2.heap.push { cls := .type "list", data := .seq ([] : List Value).toArray } := by rw [← e3]
  have up3 : ∀ b o, t2.heap.get? b = some o → t3.heap.get? b = some o := fun b o e => by rw [p3]; exact Heap.get?_push_of_some _ e
  have I3 : Inv X pins σ (upd G2 D (.lst [])) t3 := by
    rw [← e3]
    refine I2.laid (t' := t2.toks) (fun b o e => Heap.get?_push_of_some _ e) (Nat.le_of_eq hD) ⟨Nat.zero_le _, [], 0, .nil, ?_⟩
    rw [← hD]
    exact Heap.get?_push_size _ rfl
  have f3 : ∀ b ∈ fp, FpOk X pins (upd G2 D (.lst [])) b ∧ b < t3.heap.objs.size := fun b hb => by
    obtain ⟨o, e, _⟩ := T.obj _ _ st2 b hb
    have lt := Heap.lt_size e
    exact ⟨⟨(upd_ne (by rw [← hD]; exact Nat.ne_of_lt lt)).trans (f2 b hb).1, (f2 b hb).2⟩, Heap.lt_size (up3 b o e)⟩
  have st3 : tn 0 t3.heap := T.keep _ _ _ st2 fun b _ o e => up3 b o e
  have ps := I3.pin p (List.mem_append_left _ hpn)
  have plt : p.1 < t3.heap.objs.size := Heap.lt_size ps.1
  have I4 := block_start I3 ok hN f3
  have pg := hg t3 (upd G2 D (.lst [])) t3.heap.objs.size (cellsFrom (t3.heap.objs.size + 1) sc.names (cloFrom X.env.cells sc.names [])) fp
  have pt := ht t3 (upd G2 D (.lst [])) t3.heap.objs.size (cellsFrom (t3.heap.objs.size + 1) sc.names (cloFrom X.env.cells sc.names [])) fp
  have pe := he t3 (upd G2 D (.lst [])) t3.heap.objs.size (cellsFrom (t3.heap.objs.size + 1) sc.names (cloFrom X.env.cells sc.names [])) fp
  show codeAny _ _ (.compStart (.ListComp elt [⟨tg, iter, ifs, 0⟩] sc q1) 0 (.ref it) (.ref D) (compEnvC sc (cellsFrom (t3.heap.objs.size + 1) sc.names (cloFrom X.env.cells sc.names [])) t3.heap.objs.size X.env)) (compPost (model X.prog X.w) X.A X.xe use Qf (.ref D) t3.heap.objs.size) { t3 with heap := pushCells (t3.heap.push { cls := .type "dict", data := .dict #[] }) sc.names }
  have none3 : ∀ b ∈ fp, (upd G2 D (.lst [])) b = none := fun b hb => (f3 b hb).1.1
  generalize ec : compEnvC sc (cellsFrom (t3.heap.objs.size + 1) sc.names (cloFrom X.env.cells sc.names [])) t3.heap.objs.size X.env = ce at I4 pg pt pe ⊢
  have cl : ce.locals = t3.heap.objs.size := by rw [← ec]; rfl
  generalize e4 : ({ t3 with heap := pushCells (t3.heap.push { cls := .type "dict", data := .dict #[] }) sc.names } : Shared) = t4 at I4 ⊢
  have up4 : ∀ b o, t3.heap.get? b = some o → t4.heap.get? b = some o := fun b o e => by rw [← e4]; exact pushCells_keeps _ _ _ _ (Heap.get?_push_of_some _ e)
  have psH := ps.2.1
  generalize eG : upd G2 D (.lst []) = G3 at I3 I4 pg pt pe w0 none3 f3 psH
  have st4 : tn 0 t4.heap := T.keep _ _ _ st3 fun b _ o e => up4 b o e
  -- the pin is carried through the block
  have I4p : Inv (X.blk t3 G3 sc ce fp) [p] (wipe σ (own.map (·.2))) G3 t4 := I4.pins_of fun q hq => by
    obtain rfl : q = p := by simpa using hq
    refine ⟨up4 _ _ ps.1, psH, ?_, ?_, ps.2.2.2.2⟩
    · show q.1 ≠ ce.locals
      rw [cl]
      exact Nat.ne_of_lt plt
    · show q.1 ∉ frs X.stack
      exact fun hm => (List.mem_cons.mp (I3.stkSub q.1 hm)).elim ps.2.2.1 ps.2.2.2.1
  have stat : ∀ {σ' : L2.St} {G : Hp} {t : Shared}, Inv (X.blk t3 G3 sc ce fp) [p] σ' G t → (∀ b ∈ fp, G b = none) → ∀ b ∈ fp, FpOk (X.blk t3 G3 sc ce fp) [p] G b := fun {σ' G t} J n b hb => by
    refine ⟨n b hb, (J.ok.exf b hb).1, J.ok.exfs b hb, .inl hb, fun x c e => (J.ok.exf b hb).2 x c e, fun q hq => ?_⟩
    obtain rfl : q = p := by simpa using (show q ∈ ([] : List (Addr × Obj)) ++ [p] from hq)
    exact (f2 b hb).2.2.2.2.2 q (List.mem_append_left _ hpn)
  have hotB : Hot1 (X.blk t3 G3 sc ce fp).A p := hot
  have loop : codeAny (model X.prog X.w) X.A (.compLoop (.ListComp elt [⟨tg, iter, ifs, 0⟩] sc q1) 0 (.ref it) (.ref D) ce) (compPost (model X.prog X.w) X.A X.xe use Qf (.ref D) t3.heap.objs.size) t4 := by
    refine compLoop_any (fun n t => ∃ i G, Inv (X.blk t3 G3 sc ce fp) [p] (wipe σ (own.map (·.2))) G t ∧ tn i t.heap ∧ (∀ b ∈ fp, G b = none) ∧ W i n G) (fun n t5 ⟨i, G5, I5, s5, n5, w5⟩ => ?_) m0 ⟨0, G3, I4p, st4, none3, w0⟩
    rcases turn i n G5 w5 with ⟨stop, fin⟩ | ⟨go, Nx, less, step⟩
    · refine thnF (T.done (X.blk t3 G3 sc ce fp) i [p] t5 _ G5 (fun _ _ => False) rfl rfl rfl hotB (List.mem_append_right _ (List.mem_cons_self ..)) I5 (stat I5 n5) s5 stop) fun r t6 ⟨er, I6⟩ => ?_
      cases er
      have I7 : Inv X pins σ G5 t6 := I3.call' (ch := fp) I6.os I6.base I6.hok I6.bare fun b hb => ⟨(f3 b hb).1.2.2.2.1, (f3 b hb).1.2.1, (f3 b hb).1.2.2.2.2.1, (f3 b hb).1.2.2.2.2.2⟩
      have fr : G5 ce.locals = none := I6.free
      obtain ⟨m, ns, _⟩ := I6.loc
      have ns : t6.heap.Ns ce.locals m := ns
      rw [cl] at fr ns
      exact back D _ t6 m G5 I7 fin ns (I3.fpOk (Nat.le_refl _) fr)
    · refine thnF (T.item (X.blk t3 G3 sc ce fp) i [p] t5 _ G5 (fun _ _ => False) rfl rfl rfl I5 (stat I5 n5) s5 go) fun r t6 ⟨u, er, h6⟩ => ?_
      cases er
      refine thnF h6 fun _ t7 ⟨x, G7, I7, r7, y7, s7, n7⟩ => ?_
      have I7p := I7.pinned (stat I7 n7) (T.obj _ _ s7)
      refine thnF (pg.run _ t7 _ G7 x u _ (List.mem_append_right _ (List.mem_append_left _ (List.mem_singleton.mpr rfl))) I7p r7 (step x G7 y7)) fun _ t8 ⟨σ8, G8, I8, w8, q8⟩ => ?_
      refine thnF (pt.run _ t8 σ8 G8 _ I8 q8) fun b t9 ⟨G9, I9, q9⟩ => ?_
      have turned : ∀ {t : Shared} {G : Hp}, Inv (X.blk t3 G3 sc ce fp) ([p] ++ pinsAt fp t7.heap) σ8 G t → Nx G → ∃ m, m < n ∧ ∃ i G, Inv (X.blk t3 G3 sc ce fp) [p] (wipe σ (own.map (·.2))) G t ∧ tn i t.heap ∧ (∀ b ∈ fp, G b = none) ∧ W i m G := fun {t G} J nx => by
        obtain ⟨m, lt, w⟩ := less G nx
        have there : ∀ b ∈ fp, ∀ o, t7.heap.get? b = some o → t.heap.get? b = some o ∧ G b = none := fun b hb o e => by
          have z := J.pin (b, o) (List.mem_append_right _ (List.mem_append_right _ (mem_pinsAt hb e)))
          exact ⟨z.1, z.2.1⟩
        refine ⟨m, lt, i + 1, G, J.unpinned.weak (by rw [← w8, wipe_length]) (fun j v e => (wipe_some (by rw [w8]; exact e)).1), T.keep _ _ _ s7 fun b hb o e => (there b hb o e).1, fun b hb => ?_, w⟩
        obtain ⟨o, e, _⟩ := T.obj _ _ s7 b hb
        exact (there b hb o e).2
      cases b with
      | false => exact turned I9 q9
      | true =>
        refine thnF (pe.run _ t9 σ8 G9 _ I9 q9) fun z t10 ⟨yv, G10, I10, r10, acc, gD, sz, nx⟩ => ?_
        exact app_ok (X := X.blk t3 G3 sc ce fp) I10 gD sz r10 fun t11 I11 => turned I11 nx
  exact codeAny_compStart_list loop (T.self X.A 0 _ _ _ st4 loop)
/-- as a value -/
theorem pe_lcP {elt tg iter : Expr} {ifs : List Expr} {sc : Scope} {own : List (Str × Nat)} {q1 : Pos} {wi : TI} {g : TG} {tt : TT} {te : TE} (hot : Hot1 X.A p) (hpn : p ∈ X.pn) (hN : X.N.Nodup) (hi : PIP X p tg iter wi) (ok : BlkOk X.N X.env.scope sc own)
    (hg : ∀ (s : Shared) (H : Hp) (C : Addr) (cl : List (Str × Addr)) (fp : List Addr), PGP p (X.blk s H sc (compEnvC sc cl C X.env) fp) tg g)
    (ht : ∀ (s : Shared) (H : Hp) (C : Addr) (cl : List (Str × Addr)) (fp : List Addr), PTs (X.blk s H sc (compEnvC sc cl C X.env) fp) ifs tt)
    (he : ∀ (s : Shared) (H : Hp) (C : Addr) (cl : List (Str × Addr)) (fp : List Addr), PE (X.blk s H sc (compEnvC sc cl C X.env) fp) elt te)
    (hs : ∀ x, foldedSetIterable iter X.env x = pure x := by intro _; rfl) : PE X (.ListComp elt [⟨tg, iter, ifs, 0⟩] sc q1) (tLc wi g tt te (own.map (·.2))) := by
  refine ⟨fun pins s σ H Q I h => ?_⟩
  rw [eval_ListComp]
  refine lc_coreP hot hpn hN I hi ok hg ht he hs h fun D C t m G J q ns ff => ⟨m, ns, fun h2 sb => ⟨.ref D, G, ?_, rfl, q⟩⟩
  exact J.turned (t' := t.toks) (fun b o hb e => (sb.2 b hb).trans e) ff.1 ff.2.1 ff.2.2.2.1 ff.2.2.2.2.1 ff.2.2.2.2.2
/-- name = [..] on one line -/
theorem ps_setLcP {i : Nat} {y : Str} {py ap : Pos} {elt tg iter : Expr} {ifs : List Expr} {sc : Scope} {own : List (Str × Nat)} {q1 : Pos} {wi : TI} {g : TG} {tt : TT} {te : TE} (hot : Hot1 X.A p) (hpn : p ∈ X.pn) (hN : X.N.Nodup) (hy : X.N[i]? = some y) (hl : X.env.scope.names.lookup y = some .local)
    (hw : swapsWith (.ListComp elt [⟨tg, iter, ifs, 0⟩] sc q1) (some (.Name y py)) ap.line X.env = pure true) (hi : PIP X p tg iter wi) (ok : BlkOk X.N X.env.scope sc own)
    (hg : ∀ (s : Shared) (H : Hp) (C : Addr) (cl : List (Str × Addr)) (fp : List Addr), PGP p (X.blk s H sc (compEnvC sc cl C X.env) fp) tg g)
    (ht : ∀ (s : Shared) (H : Hp) (C : Addr) (cl : List (Str × Addr)) (fp : List Addr), PTs (X.blk s H sc (compEnvC sc cl C X.env) fp) ifs tt)
    (he : ∀ (s : Shared) (H : Hp) (C : Addr) (cl : List (Str × Addr)) (fp : List Addr), PE (X.blk s H sc (compEnvC sc cl C X.env) fp) elt te)
    (hs : ∀ x, foldedSetIterable iter X.env x = pure x := by intro _; rfl) : PS X (.Assign [.Name y py] (.ListComp elt [⟨tg, iter, ifs, 0⟩] sc q1) ap) (tAsg (tLc wi g tt te (own.map (·.2))) (gName i)) := by
  refine ⟨fun pins s σ H D I h => ?_⟩
  rw [exec_Assign_Name_used _ _ _ _ hw]
  refine wpAny_bind (wpAny_standAt (wpAny_bind (wpAny_bind ?_)))
  have h : tLc wi g tt te (own.map (·.2)) σ H (fun x G => gName i x σ G D.nx) := h
  refine thn (lc_coreP (Qf := fun _ t => SP X pins D .next t) hot hpn hN I hi ok hg ht he hs h fun L A t m G J q ns ff => ?_) fun _ t hq => wpAny_pure (wpAny_pure hq)
  show wpAny _ _ (assign (.Name y py) X.env (.ref L)) _ _ _
  refine wpAny_assign_Name (store_ok2 (v := V.ref L) J hN hy (.inl hl) rfl (fun t2 J2 ⟨b, sb, hb⟩ => ⟨m, ns.sameBut sb ?_, fun h3 sb3 => ⟨_, G, ?_, q⟩⟩) (.inr hl))
  · rcases hb with z | z
    · rw [z]; exact ff.2.1
    · exact fun e => ff.2.2.2.2.1 y b z e.symm
  · exact J2.turned (t' := t2.toks) (fun c o hc e => (sb3.2 c hc).trans e) ff.1 ff.2.1 ff.2.2.2.1 ff.2.2.2.2.1 ff.2.2.2.2.2
end
end L3

namespace L3
open PySem PySem.Spec PyProof.Rows L2 HotX L2H

theorem isE {X : Cx} {D : Addr} {p : Addr × Obj} (hp : p ∈ X.pn) (C : ExcC X.K D) (hz : Zc (.ref D) none p.2) (hf : ∃ vs, p.2.data = .fields vs) : CallR X (.builtin "isinstance") (rIsE X.K D p.1) := by
  intro pins s σ H xs us Q I r ⟨c, cv, b, ex, hc, e, q⟩
  subst ex
  match us, r with
  | [_, _], .cons r1 (.cons r2 .nil) =>
    cases r1
    have ev := hc _ r2
    subst ev
    have at1 := (I.pin p (List.mem_append_left _ hp)).1
    obtain ⟨vs, hv⟩ := hf
    have J : PySem.W.InstAt s.heap p.1 p.2 D none := by
      obtain ⟨a, oc, od, oda, osl⟩ := p
      obtain ⟨h1, h2⟩ := hz
      dsimp only at h1 h2 hv
      subst h1 h2 hv
      exact ⟨at1, rfl, rfl, trivial⟩
    exact PySem.W.kia_one (PySem.W.handS_kitx_exc C.hg C.hk C.hs C.hd C.ha C.hn C.ht C.hm) I.kIn J e (fun z => nomatch z) fun tk => ⟨.bl b, H, I.kept (t' := tk) fun _ _ z => z, rfl, q⟩
section
variable {X : Cx} {C : Ct} {W : WX} {D : Addr} {p : Addr × Obj} {j : Nat} {x y : Str} {p1 p2 p3 pos : Pos}
/-- isinstance(caught, c): caught the name of the handled error -/
theorem do_isE {b : Bool} {c : V} {cv : Value} {ey : Expr} (hp : p ∈ X.pn) (hC : ExcC X.K D) (hz : Zc (.ref D) none p.2) (hf : ∃ vs, p.2.data = .fields vs) (hy : PE X ey (tC c)) (hcv : ∀ u, RelV c u → u = cv) (hb : PySem.W.kitOne X.K (.ref D) cv = some b)
    (hio : j ∈ C.io) (hiv : C.iv j = .ref p.1) (hm : X.mg "isinstance" = none) (hN : X.N[j]? = some x := by rfl) (hv : Vis X.env.scope x := by first | exact Or.inl rfl | exact Or.inr (Or.inl rfl) | exact Or.inr (Or.inr rfl)) (hd : (x == ("__debug__" : Str)) = false := by decide) (hcd : (x == ("__classdict__" : Str)) = false := by decide)
    (hg : Gl X "isinstance" := by rfl) (hs : starEach [.Name x p1, ey] X.env = (false, eval (.Name x p1) X.env) :: starEach [ey] X.env := by rfl) (hs2 : starEach [ey] X.env = (false, eval ey X.env) :: starEach [] X.env := by rfl) (hpl : (backTo pos (starEach [ey] X.env)).any (·.1) = false := by rfl) :
    DP X C W (.Call (.Name "isinstance" p2) [.Name x p1, ey] [] pos) (dC (.bool b)) := by
  refine ⟨(pe_callB (isE hp hC hz hf) hg hm PyProof.Rows.boot_isinstance (pa_cons (pe_var hN hv hd hcd) (pa_cons hy pa_nil hs2) hs) (he := hs) (hpl := hpl)).imp fun σ H Q h => ?_, mono_c⟩
  obtain ⟨HP, env, as, R, q⟩ := h
  refine ⟨_, (R.pin j hio).trans (congrArg (fun v => some (some v)) hiv), ?_⟩
  exact ⟨c, cv, b, rfl, hcv, hb, Po.sh q R (fun a ha => ha) (.bl b)⟩
end
end L3

namespace L3
open PySem L2 L2H

structure DPIP (X : Cx) (p : Addr × Obj) (C : Ct) (W : WX) (tg iter : Expr) (js : List Nat) (g : TG) (t : DI) : Prop where
  run : PIP X p tg iter fun σ H R => ∃ HP env as, Rel X.K C HP σ H env as [] ∧ t (lX X.K C W σ HP H as) env fun cnt st n1 => ∀ (J : It) (HP1 H1 : Hp) (as1 : List Addr), Rel X.K C HP1 σ H1 n1 as1 [] → Stp HP H as HP1 H1 as1 → ItOk X.K C J g js HP1 cnt st → R J H1
  mono : MonoI t
theorem PIP.imp {X : Cx} {p : Addr × Obj} {tg e : Expr} {t t' : TI} (h : PIP X p tg e t) (k : ∀ σ H Q, t' σ H Q → t σ H Q) : PIP X p tg e t' := ⟨fun pins s σ H Q I q => h.run pins s σ H Q I (k σ H Q q)⟩
section
variable {X : Cx} {C : Ct} {W : WX} {p : Addr × Obj} {e e2 : Expr} {ta : DA} {j1 j2 : Nat} {pz pos tpos : Pos} {elts : List Expr} {kk : Nat}
theorem di_zipP (hm : X.mg "zip" = none) (ha : DPA X C W [e, e2] ta) (hgl : Gl X "zip" := by rfl) (hs : starEach [e, e2] X.env = (false, eval e X.env) :: starEach [e2] X.env := by rfl) (hpl : (backTo pos (starEach [e2] X.env)).any (·.1) = false := by rfl) (hio1 : j1 ∉ C.io := by exact of_decide_eq_true rfl) (hio2 : j2 ∉ C.io := by exact of_decide_eq_true rfl) :
    DPIP X p C W (.Tuple elts kk tpos) (.Call (.Name "zip" pz) [e, e2] [] pos) [j1, j2] (gTup X.K 2 (gNames [j1, j2])) (iZp ta j1 j2) := by
  refine ⟨(zip_pip hgl hm ha.run hs hpl).imp fun σ H R ⟨HP, env, as, Rl, h⟩ => ⟨HP, env, as, Rl, ha.mono _ _ env _ _ (fun _ _ z => z) (fun v n q => ?_) h⟩, fun ex ex' env Q Q' hx hq h => ha.mono ex ex' env _ _ hx (fun vals n ⟨v, w, xs, f, n1, ys, f2, n2, h0, h1, h2, h3⟩ => ⟨v, w, xs, f, n1, ys, f2, n2, h0, h1, h2, hq _ _ _ h3⟩) h⟩
  intro ys HP1 H1 as1 ts R1 x1 V
  obtain ⟨v, w, xs, f, n1, ys, f2, n2, rfl, e1, e2, q⟩ := q
  obtain ⟨y1, y2, t1, t2, rfl, rfl, V1, V2⟩ := V.two
  obtain ⟨a, HP2, as2, rfl, R2, x2, items⟩ := R1.walkT V1 e1
  obtain ⟨b, HP3, as3, rfl, R3, x3, items2⟩ := R2.walk (RepV.frame x2.ex V2 fun _ _ => rfl) e2
  have items' : Items X.K C HP3 a xs f := fun HP' σ' H' n' as' ts' r s => items HP' σ' H' n' as' ts' r (x3.ex.trans s)
  obtain ⟨vs0, g0, _, _⟩ := items' HP3 σ H1 n2 as3 [] R3 (Same.refl _)
  obtain ⟨vs1, g1, _, _⟩ := items2 HP3 σ H1 n2 as3 [] R3 (Same.refl _)
  exact ⟨a, b, _, _, rfl, SqL.of g0, SqL.of g1, q _ HP3 H1 as3 R3 ((x1.trans x2).trans x3) (it_zip hio1 hio2 items' items2)⟩
end
section
variable {X : Cx} {C : Ct} {W : WX} {p : Addr × Obj} {elt tg iter : Expr} {ifs : List Expr} {scope : Scope} {pos : Pos} {js : List Nat} {g : TG} {ti : DI} {tt : DT} {te : DE}
theorem ds_setLcP {i : Nat} {y : Str} {py spos : Pos} (hot : Hot1 X.A p) (hpn : p ∈ X.pn) (hN : X.N.Nodup) (own : List (Str × Nat)) (hi : DPIP X p C W tg iter js g ti) (ok : BlkOk X.N X.env.scope scope own)
    (hg : ∀ (s : Shared) (H : Hp) (Cc : Addr) (cl : List (Str × Addr)) (fp : List Addr), PGP p (X.blk s H scope (compEnvC scope cl Cc X.env) fp) tg g) (ht : ∀ (s : Shared) (H : Hp) (Cc : Addr) (cl : List (Str × Addr)) (fp : List Addr), DPTs (X.blk s H scope (compEnvC scope cl Cc X.env) fp) C ifs tt)
    (he : ∀ (s : Shared) (H : Hp) (Cc : Addr) (cl : List (Str × Addr)) (fp : List Addr), DP (X.blk s H scope (compEnvC scope cl Cc X.env) fp) C W0 elt te) (hsw : swapsWith (.ListComp elt [⟨tg, iter, ifs, 0⟩] scope pos) (some (.Name y py)) spos.line X.env = pure true)
    (hy : X.N[i]? = some y := by rfl) (hyl : X.env.scope.names.lookup y = some .local := by rfl) (hjs : ∀ j ∈ js, j ∈ own.map (·.2) := by exact of_decide_eq_true rfl) (hio : ∀ v ∈ own.map (·.2), v ∉ C.io := by exact of_decide_eq_true rfl) (hs : ∀ x, foldedSetIterable iter X.env x = pure x := by intro _; rfl) (hiy : i ∉ C.io := by exact of_decide_eq_true rfl) :
    DPS X C W (.Assign [.Name y py] (.ListComp elt [⟨tg, iter, ifs, 0⟩] scope pos) spos) (dSet i (dLc (own.map (·.2)) js ti tt te)) := by
  have m : MonoE (dLc (own.map (·.2)) js ti tt te) := mono_lc hi.mono
  refine ⟨(ps_setLcP (tt := liftT X.K C W0 tt) (te := lift X.K C W0 te) hot hpn hN hy hyl hsw hi.run ok hg (fun s H Cc cl fp => (ht s H Cc cl fp).run) (fun s H Cc cl fp => (he s H Cc cl fp).run) hs).imp fun D σ H ⟨HP, env, as, R, h⟩ => ?_, fun ex ex' env D D' hx hd h => m ex ex' env _ _ hx (fun v n q => q.imp hd.nx) h⟩
  refine lift_lc (W := W) (K := X.K) _ hi.mono (ht X.s_0 X.H_0 0 [] []).mono (he X.s_0 X.H_0 0 [] []).mono hjs hio (fun _ _ _ z => z) ⟨HP, env, as, R, m _ _ env _ _ (fun e n z => z.at σ) (fun v n q => ?_) h⟩
  intro v' HP' H' as' ts' R' x V
  have R2 : Rel X.K C HP' σ H' n as' (ts' ++ []) := by rw [List.append_nil]; exact R'
  obtain ⟨HP2, env2, as2, R3, x2, p⟩ := R2.asg V q hiy
  rw [List.append_nil, List.append_nil] at x2
  exact p _ HP2 H' as2 R3 (x.trans x2)
end
end L3

namespace L3
open PySem PySem.Spec PyProof.Rows L2 HotX L2H

/-- what it promises where an error of class D is handled: a new list of ks -/
structure FnK (P : Program) (w : World) (K : PySem.W.Frag) (mg : Str → Option Value) (base : Heap) (k : Nat) (f : Addr) (fd : FuncData) (x : Str) (D : Addr) (ks : List Str) : Prop where
  run : ∀ (A : Around) (outer : List Env) (s : Shared) (H : Hp) (args : Args) (Q : VK) (p : Addr × Obj), RoomH k A → Hot1 A p → PinOk outer H s p → Zc (.ref D) none p.2 → (∃ vs, p.2.data = .fields vs) → Env0 P w K mg base A outer s H → BindsTo s fd args [(x, .ref p.1)] →
    (∀ (l : Addr) (G : Hp), H l = none → Same H G → (∀ a, G a = none → H a = none) → G l = some (.lst (ks.map V.str)) → Q (.ref l) G) → codeAny (model P w) A (.call (.ref f) args) (CR (L2N.CX P w) outer P w H s Q fun _ _ _ => False) s
theorem fnK {P : Program} {w : World} {K : PySem.W.Frag} {mg : Str → Option Value} {base : Heap} {x y qual : Str} {st : Stmt} {f : Addr} {fd : FuncData} {N : List Str} {k : Nat} {D : Addr} {ks : List Str} {cls : Str → Value} {t : DS} (F : Fun K x qual st f fd) (S : FnScope N [y] (defScope st))
    (hN : N.length ≠ 0) (hbody : ∀ (cdv : Value) (A : Around) (outer : List Env) (s : Shared) (H : Hp) (p : Addr × Obj), Hot1 A p → Zc (.ref D) none p.2 → (∃ vs, p.2.data = .fields vs) → RoomH k (A.deeper (envOfC qual (defScope st) s.heap.objs.size f cdv)) →
      DPB (cxH (L2N.CX P w) P w K mg base N qual (defScope st) f cdv A outer s H (fun _ _ _ => False) p) ⟨H, cls, [0], fun _ => .ref p.1⟩ (fun _ _ _ _ => False) (defBody st) t)
    (ht : t (fun _ _ => False) (List.replicate N.length none) ⟨fun _ => False, fun r _ => r = .own (ks.map PyData.str), fun _ => False, fun _ => False⟩) : FnK P w K mg base (k + 1) f fd y D ks := by
  obtain ⟨oc, od, kV, doc, pm, an, cdv, ct, osl, rfl, lk, hcd⟩ := F.ex
  refine ⟨fun A outer s H args Q p hr hot hpin hz hf e0 hb q => ?_⟩
  have kin : K.In s.heap := e0.mod.kin.keeps fun b o e => (e0.bs b o e).1
  have lim := e0.mod.nolimit.keeps fun b o e => (e0.bs b o e).1
  have kinds : ∀ z ∈ [y].zip [Value.ref p.1], (defScope st).names.lookup z.1 = some .local ∨ ((defScope st).names.lookup z.1 = some .cell ∧ ((cellsFrom (s.heap.objs.size + 1) (defScope st).names []).lookup z.1).isSome = true) := fun ⟨n, v⟩ hz => by
    rcases S.par n (List.of_mem_zip hz).1 with c | c
    · exact .inl c
    · exact .inr ⟨c, PySem.W.cellsFrom_some _ _ _ (.inl c)⟩
  refine codeAny_call_function hr.depth (kin _ _ lk) rfl S.co S.gen rfl (PySem.W.codeRec_of kin hcd) (hb _ _ _ _ ?_)
  refine wpAny_newFunctionEnv_cells S.kind kinds fun env he s1 c => ?_
  subst he
  refine ⟨lim.keeps c.toInCall.keep, codeAny_func ?_⟩
  have hd := hbody cdv A outer s H p hot hz hf (hr.deeper _)
  have I : Inv (cxH (L2N.CX P w) P w K mg base N qual (defScope st) f cdv A outer s H (fun _ _ _ => False) p) [] (L2.start N [.ref p.1]) H s1 := inv_startH (us := [.ref p.1]) (vs := [.ref p.1]) S hpin e0 rfl (.cons rfl .nil) c
  have R : Rel K ⟨H, cls, [0], fun _ => .ref p.1⟩ (fun _ => none) (L2.start N [.ref p.1]) H (List.replicate N.length none) [] [] := by
    refine ⟨fun _ _ e => (nomatch e), Same.refl _, ?_, List.nodup_nil, fun a ha => (nomatch ha), fun j hj => ?_⟩
    · have z : ∀ (σ : L2.St), RepE K ⟨H, cls, [0], fun _ => .ref p.1⟩ (fun _ => none) H (List.replicate σ.length none) σ [] := fun σ => by
        induction σ with
        | nil => exact rfl
        | cons v σ ih => exact ⟨[], [], rfl, rfl, ih⟩
      have l : (L2.start N [.ref p.1]).length = N.length := by
        unfold L2.start
        simp
        omega
      rw [← l]
      exact z _
    · obtain rfl : j = 0 := by simpa using hj
      rfl
  refine wpAny_mono (hd.run.run [] s1 (L2.start N [.ref p.1]) H ⟨fun _ _ => False, Q, fun _ _ => False, fun _ _ => False⟩ I ⟨_, _, _, R, hd.mono _ _ _ _ _ (fun _ _ z => False.elim z) ⟨fun _ z => False.elim z, fun r n e => ?_, fun _ z => False.elim z, fun _ z => False.elim z⟩ ht⟩) (fun fl s2 h => ?_) fun e s2 h => h
  · cases e
    intro v σ2 HP2 G as2 ts2 R2 x2 q2
    obtain ⟨l, vs, rfl, rfl, g1, g2⟩ := q2
    have gl := g2.strs
    subst gl
    have hl : H l = none := by
      rcases x2.sub l (by simp) with z | z
      · exact nomatch z
      · exact z
    exact q l G hl (fun a o e => x2.fr a o e (fun z => nomatch z)) x2.un g1
  · cases fl with
    | ret u =>
      obtain ⟨v, σ2, G, J, rv, qq⟩ := h
      exact ⟨v, G, J.os, J.bare, J.base, J.hok, rv, qq⟩
    | next =>
      obtain ⟨_, _, _, z⟩ := h
      exact False.elim z
    | brk =>
      obtain ⟨_, _, _, z⟩ := h
      exact False.elim z
    | cont =>
      obtain ⟨_, _, _, z⟩ := h
      exact False.elim z
end L3

namespace L3
open PySem PySem.Spec PyProof.Rows L2 HotX L2H
def tKnd (i : Nat) (p : Addr) (ks : List Str) : TE := fun σ H Q => σ[i]? = some (some (.ref p)) ∧ ∀ (l : Addr) (G : Hp), H l = none → Same H G → (∀ a, G a = none → H a = none) → G l = some (.lst (ks.map V.str)) → Q (.ref l) G
theorem pe_callK {X : Cx} {k i : Nat} {f D : Addr} {fd : FuncData} {x y e : Str} {ks : List Str} {p : Addr × Obj} {pf pe pos : Pos} (F : FnK X.prog X.w X.K X.mg X.base k f fd y D ks) (hr : RoomH k X.A) (hot : Hot1 X.A p) (hp : p ∈ X.pn) (hz : Zc (.ref D) none p.2) (hf : ∃ vs, p.2.data = .fields vs)
    (hg : Gl X x) (hm : X.mg x = some (.ref f)) (hk : PySem.W.keepIn X.K (.ref f) = true) (hb : Binds X.K fd [y] []) (hx : ∀ σ, PassesAt (L2N.CX X.prog X.w) X σ (fun _ _ _ => False)) (hN : X.N[i]? = some e) (hv : Vis X.env.scope e) (hd : (e == ("__debug__" : Str)) = false := by decide) (hcd : (e == ("__classdict__" : Str)) = false := by decide)
    (hdb : (x == ("__debug__" : Str)) = false := by decide) (he : starEach [.Name e pe] X.env = (false, eval (.Name e pe) X.env) :: starEach [] X.env := by rfl) (hpl : (backTo pos (starEach [] X.env)).any (·.1) = false := by rfl) : PE X (.Call (.Name x pf) [.Name e pe] [] pos) (tKnd i p.1 ks) := by
  refine ⟨fun pins s σ H Q I ⟨h1, h2⟩ => wpAny_Call_Name_kw (ld_glob I hg hm ?_ hdb)⟩
  have ha : PA X [.Name e pe] (tCons (tVar i) tNil) := pa_cons (pe_var hN hv hd hcd) pa_nil he
  have fin : ∀ (us : List Value) (t : Shared), AP X pins σ (fun vs G => vs = [.ref p.1] ∧ G = H) us t → X.K.In t.heap ∧ wpAny (model X.prog X.w) X.A (call (.ref f) us) (EP X pins σ Q) X.xe t := by
    intro us t z
    obtain ⟨vs, G, J, r, e1, e2⟩ := z
    refine ⟨J.kIn, ?_⟩
    subst e1
    subst e2
    cases r with
    | cons r1 rr =>
      cases rr
      cases r1
      have P1 := J.pin p (List.mem_append_left _ hp)
      have pin : PinOk X.stack G t p := ⟨P1.1, P1.2.1, fun m => (List.mem_cons.mp (J.stkSub p.1 m)).elim P1.2.2.1 P1.2.2.2.1, P1.2.2.2.2⟩
      have b := hb t [.ref p.1] J.kIn rfl
      refine wpAny_call (codeAny_mono (F.run X.A X.stack t G ⟨[.ref p.1], []⟩ Q p hr hot pin hz hf J.env0 b h2) fun r t2 q => ?_)
      cases r with
      | error z => exact hx σ pins G t z t2 J q
      | ok fl =>
        cases fl with
        | ret u => exact J.after q
        | next => exact False.elim q
        | brk => exact False.elim q
        | cont => exact False.elim q
  refine PySem.W.callWith_K (h₀ := X.base) I.ok.mod.kin hk ?_ he hpl
  exact thn (ha.run pos pins s σ H (fun vs G => vs = [.ref p.1] ∧ G = H) I ⟨_, h1, rfl, rfl⟩) fin
end L3

namespace L3
open PySem L2

inductive Wk where
  | no (i : Nat) | fr (i : Nat)
def frS : Sl → Option Sl
  | .sh d => some (.sh d)
  | .own xs => some (.sh (.list xs))
  | .odk kvs => some (.sh (.dict kvs))
  | .bor d => if scal d = true then some (.sh d) else none
  | .scr _ => none
  | .ext _ => none
def wk1 : Wk → En → Option En
  | .no i, n => some (n.set i none)
  | .fr i, n => match n[i]? with
    | some (some s) => (frS s).map fun s' => n.set i (some s')
    | _ => none
def wkE : List Wk → En → Option En
  | [], n => some n
  | w :: ws, n => (wk1 w n).bind (wkE ws)
section
variable {K : PySem.W.Frag} {C : Ct} {W : WX} {HP HP1 H H1 : Hp} {σ : L2.St} {env n n' : En} {as as1 ts : List Addr}
theorem Rel.fr1 {i : Nat} {s s' : Sl} (r : Rel K C HP σ H n as ts) (e : n[i]? = some (some s)) (h : frS s = some s') : ∃ HP' as', Rel K C HP' σ H (n.set i (some s')) as' ts ∧ Stp HP H (as ++ ts) HP' H (as' ++ ts) := by
  obtain ⟨v, pre, a1, post, h1, h2, h3, h4⟩ := r.rep.at i e
  have plain : ∀ d, RepO K C HP H (some (.sh d)) v [] → a1 = [] → ∃ HP' as', Rel K C HP' σ H (n.set i (some (.sh d))) as' ts ∧ Stp HP H (as ++ ts) HP' H (as' ++ ts) := fun d k e1 => by
    subst e1
    have k := h4 HP H (some (.sh d)) v [] (Same.refl _) (fun _ _ => rfl) k
    rw [set_same h1] at k
    subst h2
    exact ⟨HP, _, ⟨r.exP, r.exB, k, r.nd, r.own, r.pin⟩, Stp.refl⟩
  cases s with
  | sh d =>
    cases h
    cases v with
    | none => exact h3.elim
    | some v => exact plain d ⟨h3.1, rfl⟩ h3.2
  | bor d =>
    unfold frS at h
    dsimp only at h
    split at h
    · rename_i z
      cases Option.some.inj h
      cases v with
      | none => exact h3.elim
      | some v => exact plain d ⟨h3.1.scal z, rfl⟩ h3.2
    · cases h
  | scr ns => cases h
  | ext ρ => cases h
  | own xs =>
    cases h
    have es : L3.share (.loc i) n = some (.list xs, n.set i (some (.sh (.list xs)))) := by simp [L3.share, e]
    cases v with
    | none => exact h3.elim
    | some v =>
      obtain ⟨HP', as', r', _, x⟩ := Rel.share (t1 := []) (t2 := ts) (x := v) r (va := .loc i) ⟨h1, rfl⟩ es
      exact ⟨HP', as', r', x⟩
  | odk xs =>
    cases h
    have es : L3.share (.loc i) n = some (.dict xs, n.set i (some (.sh (.dict xs)))) := by simp [L3.share, e]
    cases v with
    | none => exact h3.elim
    | some v =>
      obtain ⟨HP', as', r', _, x⟩ := Rel.share (t1 := []) (t2 := ts) (x := v) r (va := .loc i) ⟨h1, rfl⟩ es
      exact ⟨HP', as', r', x⟩
theorem Rel.wk1 {w : Wk} (r : Rel K C HP σ H n as ts) (h : L3.wk1 w n = some n') : ∃ HP' as', Rel K C HP' σ H n' as' ts ∧ Stp HP H (as ++ ts) HP' H (as' ++ ts) := by
  cases w with
  | no i =>
    cases h
    obtain ⟨as', r', hm⟩ := r.clr (i := i)
    exact ⟨HP, as', r', Stp.refl.less fun a ha => by
      rcases List.mem_append.mp ha with z | z
      · exact List.mem_append_left _ (hm a z)
      · exact List.mem_append_right _ z⟩
  | fr i =>
    unfold L3.wk1 at h
    dsimp only at h
    split at h
    · rename_i s e
      cases hs : frS s with
      | none => rw [hs] at h; cases h
      | some s' =>
        rw [hs] at h
        cases h
        exact r.fr1 e hs
    · cases h
theorem Rel.wk : ∀ {ws : List Wk} {HP : Hp} {n : En} {as : List Addr}, Rel K C HP σ H n as ts → wkE ws n = some n' → ∃ HP' as', Rel K C HP' σ H n' as' ts ∧ Stp HP H (as ++ ts) HP' H (as' ++ ts)
  | [], HP, n, as, r, h => by
    cases h
    exact ⟨HP, as, r, Stp.refl⟩
  | w :: ws, HP, n, as, r, h => by
    unfold wkE at h
    cases h1 : L3.wk1 w n with
    | none => rw [h1] at h; cases h
    | some n1 =>
      rw [h1] at h
      obtain ⟨HP1, as1, r1, x1⟩ := r.wk1 h1
      obtain ⟨HP2, as2, r2, x2⟩ := Rel.wk r1 h
      exact ⟨HP2, as2, r2, x1.trans x2⟩
end
/-- ahead of t -/
def dPre (ws : List Wk) (t : DS) : DS := fun ex n D => ∃ n', wkE ws n = some n' ∧ t ex n' D
/-- behind t, where it goes on -/
def postD (ws : List Wk) (D : DEnds) : DEnds := { nx := fun m => ∃ m', wkE ws m = some m' ∧ D.nx m', rt := D.rt, bk := fun m => ∃ m', wkE ws m = some m' ∧ D.bk m', ct := fun m => ∃ m', wkE ws m = some m' ∧ D.ct m' }
def dPost (ws : List Wk) (t : DS) : DS := fun ex n D => t ex n (postD ws D)
theorem postD_le {ws : List Wk} {D D' : DEnds} (h : D.Le D') : (postD ws D).Le (postD ws D') := ⟨fun n ⟨m, h1, h2⟩ => ⟨m, h1, h.nx _ h2⟩, h.rt, fun n ⟨m, h1, h2⟩ => ⟨m, h1, h.bk _ h2⟩, fun n ⟨m, h1, h2⟩ => ⟨m, h1, h.ct _ h2⟩⟩
section
variable {X : Cx} {C : Ct} {W : WX} {st : Stmt} {sts : List Stmt} {t : DS} {ws : List Wk}
theorem MonoS.pre (m : MonoS t) : MonoS (dPre ws t) := fun ex ex' env D D' hx hd ⟨n', h1, h2⟩ => ⟨n', h1, m ex ex' n' D D' hx hd h2⟩
theorem MonoS.post (m : MonoS t) : MonoS (dPost ws t) := fun ex ex' env D D' hx hd h => m ex ex' env _ _ hx (postD_le hd) h
theorem liftS_pre {K : PySem.W.Frag} {D : Ends} {σ : L2.St} {H : Hp} (m : MonoS t) (h : liftS K C W (dPre ws t) D σ H) : liftS K C W t D σ H := by
  obtain ⟨HP, env, as, R, n', h1, h2⟩ := h
  obtain ⟨HP1, as1, R1, x⟩ := R.wk h1
  rw [List.append_nil, List.append_nil] at x
  exact ⟨HP1, n', as1, R1, m _ _ n' _ _ (fun e n z => z.from x) (endsOf.from x) h2⟩
theorem liftS_post {K : PySem.W.Frag} {D : Ends} {σ : L2.St} {H : Hp} (m : MonoS t) (h : liftS K C W (dPost ws t) D σ H) : liftS K C W t D σ H := by
  obtain ⟨HP, env, as, R, h⟩ := h
  have go : ∀ {P : L2.St → Hp → Prop} (n : En), (∃ m', wkE ws n = some m' ∧ nxL K C HP H as P m') → nxL K C HP H as P n := fun {P} n ⟨m', h1, h2⟩ σ' HP' H' as' R' x => by
    obtain ⟨HP1, as1, R1, x1⟩ := R'.wk h1
    rw [List.append_nil, List.append_nil] at x1
    exact h2 σ' HP1 H' as1 R1 (x.trans x1)
  exact ⟨HP, env, as, R, m _ _ env (postD ws (endsOf K C HP H as D)) _ (fun _ _ z => z) ⟨fun n z => go n z, fun _ _ z => z, fun n z => go n z, fun n z => go n z⟩ h⟩
theorem ds_pre (ws : List Wk) (h : DPS X C W st t) : DPS X C W st (dPre ws t) := ⟨h.run.imp fun D σ H q => liftS_pre h.mono q, h.mono.pre⟩
theorem ds_post (ws : List Wk) (h : DPS X C W st t) : DPS X C W st (dPost ws t) := ⟨h.run.imp fun D σ H q => liftS_post h.mono q, h.mono.post⟩
theorem db_pre (ws : List Wk) (h : DPB X C W sts t) : DPB X C W sts (dPre ws t) := ⟨h.run.imp fun D σ H q => liftS_pre h.mono q, h.mono.pre⟩
theorem db_post (ws : List Wk) (h : DPB X C W sts t) : DPB X C W sts (dPost ws t) := ⟨h.run.imp fun D σ H q => liftS_post h.mono q, h.mono.post⟩
end

def dMv (j : Nat) : DE := fun _ n Q => ∃ s, n[j]? = some (some s) ∧ Q (.tmp s) (n.set j none)
theorem mono_mv {j : Nat} : MonoE (dMv j) := fun ex ex' env Q Q' _ hq ⟨s, e, h⟩ => ⟨s, e, hq _ _ h⟩
section
variable {X : Cx} {C : Ct} {W : WX} {pos : Pos}
theorem dmv (i : Nat) {x : Str} (hN : X.N[i]? = some x := by rfl) (hv : Vis X.env.scope x := by first | exact Or.inl rfl | exact Or.inr (Or.inl rfl) | exact Or.inr (Or.inr rfl)) (hd : (x == ("__debug__" : Str)) = false := by decide)
    (hcd : (x == ("__classdict__" : Str)) = false := by decide) : DP X C W (.Name x pos) (dMv i) := by
  refine ⟨(pe_var hN hv hd hcd).imp fun σ H Q h => ?_, mono_mv⟩
  obtain ⟨HP, env, as, R, s, e, p⟩ := h
  obtain ⟨v, a, e1, r, _⟩ := R.slot e
  refine ⟨v, e1, ?_⟩
  obtain ⟨as2, t, R2, rs, hm⟩ := R.take e e1
  rw [List.append_nil] at R2
  exact p v HP H as2 t R2 (Stp.refl.less fun a ha => by simpa using (hm a).mp (by simpa using ha)) rs
end
def dShr (te : DE) : DE := fun ex env Q => te ex env fun v n => ∃ d n', share v n = some (d, n') ∧ Q (.tmp (.sh d)) n'
theorem mono_shr {te : DE} (m : MonoE te) : MonoE (dShr te) := fun ex ex' env Q Q' he hq h => m ex ex' env _ _ he (fun v n ⟨d, n', h1, h2⟩ => ⟨d, n', h1, hq _ _ h2⟩) h
section
variable {X : Cx} {C : Ct} {W : WX} {e : Expr} {te : DE}
theorem do_shr (h : DP X C W e te) : DP X C W e (dShr te) := by
  refine ⟨h.run.imp fun σ H Q ⟨HP, env, as, R, q⟩ => ⟨HP, env, as, R, h.mono _ _ env _ _ (fun _ _ z => z) (fun v n ⟨d, n', e1, p⟩ => ?_) q⟩, mono_shr h.mono⟩
  intro x HP1 H1 as1 t1 R1 x1 V1
  have R1' : Rel X.K C HP1 σ H1 n as1 (t1 ++ []) := by rw [List.append_nil]; exact R1
  obtain ⟨HP2, as2, R2, g, x2⟩ := R1'.share V1 e1
  rw [List.append_nil, List.append_nil] at x2
  exact p x HP2 H1 as2 [] R2 (by rw [List.append_nil]; exact x1.trans x2) ⟨g, rfl⟩
end
end L3

namespace L3
open PySem L2

inductive R (α : Type) where
  | ok (a : α) | err (e : Ex3) | bad
namespace R
variable {α β : Type}
def bind (f : R α) (k : α → R β) : R β := match f with
  | .ok a => k a
  | .err e => .err e
  | .bad => .bad
def noE (f : R α) : R α := match f with
  | .ok a => .ok a
  | .err _ => .bad
  | .bad => .bad
def sat (f : R α) (P : α → Prop) (E : Ex3 → Prop) : Prop := match f with
  | .ok a => P a
  | .err e => E e
  | .bad => False
@[simp] theorem bind_ok {a : α} {k : α → R β} : (R.ok a).bind k = k a := rfl
@[simp] theorem bind_err {e : Ex3} {k : α → R β} : (R.err e).bind k = .err e := rfl
@[simp] theorem bind_bad {k : α → R β} : (R.bad).bind k = .bad := rfl
@[simp] theorem noE_ok {a : α} : (R.ok a).noE = .ok a := rfl
theorem sat_bind {f : R α} {k : α → R β} {P : β → Prop} {E : Ex3 → Prop} (h : (f.bind k).sat P E) : f.sat (fun a => (k a).sat P E) E := by
  cases f <;> exact h
theorem sat.imp {f : R α} {P P' : α → Prop} {E E' : Ex3 → Prop} (h : f.sat P E) (hp : ∀ a, P a → P' a) (he : ∀ e, E e → E' e) : f.sat P' E' := by
  cases f with
  | ok a => exact hp _ h
  | err e => exact he _ h
  | bad => exact h
theorem sat_noE {f : R α} {P : α → Prop} {E E' : Ex3 → Prop} (h : f.noE.sat P E) : f.sat P E' := by
  cases f with
  | ok a => exact h
  | err e => exact h.elim
  | bad => exact h
end R

section
variable {α β γ : Type}
def TyE (XT : En → Prop) (t : DE) (n : En) (f : R α) (φ : α → Vl) (m : En) : Prop := ∀ (ex : DX) (Q : DK), f.sat (fun a => Q (φ a) m) (fun e => ∀ n', XT n' → ex e n') → t ex n Q
def TyT (XT : En → Prop) (t : DT) (n : En) (f : R Bool) (m : En) : Prop := ∀ (ex : DX) (Q : Bool → En → Prop), f.sat (fun b => Q b m) (fun e => ∀ n', XT n' → ex e n') → t ex n Q
def TyA (XT : En → Prop) (t : DA) (n : En) (f : R α) (φ : α → List Vl) (m : En) : Prop := ∀ (ex : DX) (Q : List Vl → En → Prop), f.sat (fun a => Q (φ a) m) (fun e => ∀ n', XT n' → ex e n') → t ex n Q
/-- an operation by values (it never raises) -/
def OpE (k : En → DK → Prop) (n : En) (g : R γ) (ψ : γ → Vl) (m : En) : Prop := ∀ (Q : DK) (E : Ex3 → Prop), g.sat (fun c => Q (ψ c) m) E → k n Q
end

section
variable {α β γ δ : Type} {XT : En → Prop} {n m m1 m2 : En} {ta tb : DE} {fa : R α} {fb : R β} {φa : α → Vl} {φb : β → Vl} {va vb : Vl}
theorem ty_d2 {k : Vl → Vl → En → DK → Prop} {g : α → β → R γ} {ψ : γ → Vl} (ha : TyE XT ta n fa φa m1) (hb : TyE XT tb m1 fb φb m2) (op : ∀ a b, OpE (k (φa a) (φb b)) m2 (g a b) ψ m) :
    TyE XT (d2 ta tb k) n (fa.bind fun a => fb.bind fun b => g a b) ψ m := fun ex Q h =>
  ha ex _ ((R.sat_bind h).imp (fun a h1 => hb ex _ ((R.sat_bind h1).imp (fun b h2 => op a b Q _ h2) fun _ z => z)) fun _ z => z)
theorem ty_d1 {k : Vl → En → DK → Prop} {g : α → R γ} {ψ : γ → Vl} (ha : TyE XT ta n fa φa m1) (op : ∀ a, OpE (k (φa a)) m1 (g a) ψ m) : TyE XT (d1 ta k) n (fa.bind g) ψ m := fun ex Q h =>
  ha ex _ ((R.sat_bind h).imp (fun a h1 => op a Q _ h1) fun _ z => z)
theorem ty_dN {t : DA} {fs : R α} {φs : α → List Vl} {k : List Vl → En → DK → Prop} {g : α → R γ} {ψ : γ → Vl} (ha : TyA XT t n fs φs m1) (op : ∀ a, OpE (k (φs a)) m1 (g a) ψ m) : TyE XT (dN t k) n (fs.bind g) ψ m := fun ex Q h =>
  ha ex _ ((R.sat_bind h).imp (fun a h1 => op a Q _ h1) fun _ z => z)
theorem ta_nil : TyA XT daNil n (.ok ()) (fun _ => []) n := fun ex Q h => h
theorem ta_cons {tr : DA} {fr : R β} {φr : β → List Vl} (ha : TyE XT ta n fa φa m1) (hr : TyA XT tr m1 fr φr m) : TyA XT (daCons ta tr) n (fa.bind fun a => fr.bind fun r => .ok (a, r)) (fun p => φa p.1 :: φr p.2) m := fun ex Q h =>
  ha ex _ ((R.sat_bind h).imp (fun a h1 => hr ex _ ((R.sat_bind h1).imp (fun b h2 => h2) fun _ z => z)) fun _ z => z)
abbrev vI (i : Int) : Vl := .tmp (.sh (.int i))
abbrev vB (b : Bool) : Vl := .tmp (.sh (.bool b))
abbrev vS (x : Str) : Vl := .tmp (.sh (.str x))
abbrev vN (_ : Unit) : Vl := .tmp (.sh .none)
abbrev vH (e : α → PyData) (a : α) : Vl := .tmp (.sh (e a))
abbrev vW (e : α → PyData) (xs : List α) : Vl := .tmp (.own (xs.map e))
theorem ty_cI {i : Int} : TyE XT (dC (.int i)) n (.ok i) vI n := fun ex Q h => h
theorem ty_cB {b : Bool} : TyE XT (dC (.bool b)) n (.ok b) vB n := fun ex Q h => h
theorem ty_cS {x : Str} : TyE XT (dC (.str x)) n (.ok x) vS n := fun ex Q h => h
theorem ty_cN : TyE XT (dC .none) n (.ok ()) vN n := fun ex Q h => h
theorem ty_v {i : Nat} (e : α → PyData) (x : α) (h : n[i]? = some (some (.sh (e x)))) : TyE XT (dVar i) n (.ok x) (fun a => .tmp (.sh (e a))) n := fun ex Q q => ⟨_, h, q⟩
theorem ty_vb {i : Nat} (e : α → PyData) (x : α) (h : n[i]? = some (some (.bor (e x)))) : TyE XT (dVar i) n (.ok x) (fun a => .tmp (.bor (e a))) n := fun ex Q q => ⟨_, h, q⟩
theorem ty_vs {i : Nat} {ns : List Int} (h : n[i]? = some (some (.scr ns))) : TyE XT (dVar i) n (.ok ()) (fun _ => .tmp (.scr ns)) n := fun ex Q q => ⟨_, h, q⟩
theorem ty_vo {i : Nat} {xs : List PyData} (h : n[i]? = some (some (.own xs))) : TyE XT (dVar i) n (.ok ()) (fun _ => .loc i) n := fun ex Q q => ⟨_, h, q⟩
theorem ty_vk {i : Nat} {xs : List (PyData × PyData)} (h : n[i]? = some (some (.odk xs))) : TyE XT (dVar i) n (.ok ()) (fun _ => .loc i) n := fun ex Q q => ⟨_, h, q⟩
theorem ty_tst {t : DE} {f : R Bool} {φ : Bool → Vl} (h : TyE XT t n f φ m) (hd : ∀ a, dat m (φ a) = some (.bool a)) : TyT XT (tst t) n f m := fun ex Q q => h ex _ (q.imp (fun a z => ⟨a, hd a, z⟩) fun _ z => z)
theorem ty_and {tc td : DT} {fc fd : R Bool} (hc : TyT XT tc n fc m1) (hd : TyT XT td m1 fd m1) : TyT XT (dAnd tc td) n (fc.bind fun c => if c = true then fd else .ok false) m1 := fun ex Q q => hc ex _ ((R.sat_bind q).imp (fun c z => by
  cases c with
  | true => exact hd ex _ z
  | false => exact z) fun _ z => z)
theorem ty_or {tc td : DT} {fc fd : R Bool} (hc : TyT XT tc n fc m1) (hd : TyT XT td m1 fd m1) : TyT XT (dOr tc td) n (fc.bind fun c => if c = true then .ok true else fd) m1 := fun ex Q q => hc ex _ ((R.sat_bind q).imp (fun c z => by
  cases c with
  | true => exact z
  | false => exact hd ex _ z) fun _ z => z)
theorem ty_andP {tc td : DT} {c d : Bool} (hc : TyT XT tc n (.ok c) m1) (hd : TyT XT td m1 (.ok d) m1) : TyT XT (dAnd tc td) n (.ok (c && d)) m1 := fun ex Q q => hc ex _ (show _ from by
  cases c with
  | true => exact hd ex _ q
  | false => exact q)
theorem ty_orP {tc td : DT} {c d : Bool} (hc : TyT XT tc n (.ok c) m1) (hd : TyT XT td m1 (.ok d) m1) : TyT XT (dOr tc td) n (.ok (c || d)) m1 := fun ex Q q => hc ex _ (show _ from by
  cases c with
  | true => exact q
  | false => exact hd ex _ q)
theorem ty_not {tc : DT} {fc : R Bool} (hc : TyT XT tc n fc m) : TyT XT (dNot tc) n (fc.bind fun c => .ok (!c)) m := fun ex Q q => hc ex _ ((R.sat_bind q).imp (fun c z => z) fun _ z => z)
theorem ty_vand {φ : Bool → Vl} {fa' fb' : R Bool} (hc : TyE XT ta n fa' φ m1) (hv : ∀ a, dat m1 (φ a) = some (.bool a)) (hd : TyE XT tb m1 fb' vB m1) : TyE XT (vAnd ta tb) n (fa'.bind fun c => if c = true then fb' else .ok false) vB m1 := fun ex Q q => hc ex _ ((R.sat_bind q).imp (fun c z => ⟨c, hv c, by
  cases c with
  | true => exact hd ex _ z
  | false => exact z⟩) fun _ z => z)
theorem ty_vor {φ : Bool → Vl} {fa' fb' : R Bool} (hc : TyE XT ta n fa' φ m1) (hv : ∀ a, dat m1 (φ a) = some (.bool a)) (hd : TyE XT tb m1 fb' vB m1) : TyE XT (vOr ta tb) n (fa'.bind fun c => if c = true then .ok true else fb') vB m1 := fun ex Q q => hc ex _ ((R.sat_bind q).imp (fun c z => ⟨c, hv c, by
  cases c with
  | true => exact z
  | false => exact hd ex _ z⟩) fun _ z => z)
theorem ty_vandP {c d : Bool} {φ : Bool → Vl} (hc : TyE XT ta n (.ok c) φ m1) (hv : ∀ a, dat m1 (φ a) = some (.bool a)) (hd : TyE XT tb m1 (.ok d) vB m1) : TyE XT (vAnd ta tb) n (.ok (c && d)) vB m1 := fun ex Q q => hc ex _ ⟨c, hv c, by
  cases c with
  | true => exact hd ex _ q
  | false => exact q⟩
theorem ty_vorP {c d : Bool} {φ : Bool → Vl} (hc : TyE XT ta n (.ok c) φ m1) (hv : ∀ a, dat m1 (φ a) = some (.bool a)) (hd : TyE XT tb m1 (.ok d) vB m1) : TyE XT (vOr ta tb) n (.ok (c || d)) vB m1 := fun ex Q q => hc ex _ ⟨c, hv c, by
  cases c with
  | true => exact q
  | false => exact hd ex _ q⟩
theorem ty_vnot {φ : Bool → Vl} {fa' : R Bool} (hc : TyE XT ta n fa' φ m1) (hv : ∀ a, dat m1 (φ a) = some (.bool a)) : TyE XT (vNot ta) n (fa'.bind fun c => .ok (!c)) vB m1 := fun ex Q q => hc ex _ ((R.sat_bind q).imp (fun c z => ⟨c, hv c, z⟩) fun _ z => z)
theorem ty_if {tc : DT} {fc : R Bool} {f1 f2 : R α} (hc : TyT XT tc n fc m1) (h1 : TyE XT ta m1 f1 φa m) (h2 : TyE XT tb m1 f2 φa m) : TyE XT (dIf tc ta tb) n (fc.bind fun c => if c = true then f1 else f2) φa m := fun ex Q q => hc ex _ ((R.sat_bind q).imp (fun c z => by
  cases c with
  | true => exact h1 ex _ z
  | false => exact h2 ex _ z) fun _ z => z)
theorem ty_ifP {tc : DT} {c : Bool} {x y : α} (hc : TyT XT tc n (.ok c) m1) (h1 : TyE XT ta m1 (.ok x) φa m) (h2 : TyE XT tb m1 (.ok y) φa m) : TyE XT (dIf tc ta tb) n (.ok (if c = true then x else y)) φa m := fun ex Q q => hc ex _ (show _ from by
  cases c with
  | true => exact h1 ex _ q
  | false => exact h2 ex _ q)
/-- the same value in another dress -/
theorem TyE.as {φ : α → Vl} {f : β → α} {y : β} (h : TyE XT ta n (.ok (f y)) φ m) : TyE XT ta n (.ok y) (fun b => φ (f b)) m := h
theorem TyE.mp {f : R α} {φ : α → Vl} {ψ : β → Vl} (h : TyE XT ta n f φ m) (g : α → β) (e : ∀ a, φ a = ψ (g a)) : TyE XT ta n (f.bind fun a => .ok (g a)) ψ m := fun ex Q q => h ex _ ((R.sat_bind q).imp (fun a z => (by rw [e a]; exact z)) fun _ z => z)
end

section
variable {α β γ : Type} {n m : En} {va vb : Vl} {a b : Int} {x y : Str} {e : α → PyData} {xs ys : List α}
@[irreducible] noncomputable def chk (c : Prop) (a : α) : R α := @ite _ c (Classical.propDecidable c) (.ok a) .bad
theorem chk_ok {c : Prop} {a : α} (h : c) : chk c a = .ok a := by unfold chk; exact if_pos h
theorem chk_sat {c : Prop} {a : α} {P : α → Prop} {E : Ex3 → Prop} (h : (chk c a).sat P E) : c ∧ P a := by
  unfold chk at h
  by_cases hc : c
  · rw [if_pos hc] at h; exact ⟨hc, h⟩
  · rw [if_neg hc] at h; exact h.elim
@[irreducible] def opt (o : Option α) : R α := match o with
  | some a => .ok a
  | none => .bad
@[simp] theorem opt_some {a : α} : opt (some a) = .ok a := by unfold opt; rfl
@[simp] theorem opt_none : opt (none : Option α) = .bad := by unfold opt; rfl
theorem opt_sat {o : Option α} {P : α → Prop} {E : Ex3 → Prop} (h : (opt o).sat P E) : ∃ a, o = some a ∧ P a := by
  cases o with
  | some a => rw [opt_some] at h; exact ⟨a, rfl, h⟩
  | none => rw [opt_none] at h; exact h.elim
noncomputable def catS (a b : Str) : R Str := chk (a.length + b.length ≤ sizeLine) (a ++ b)
noncomputable def catL (xs ys : List α) : R (List α) := chk (xs.length + ys.length ≤ sizeLine) (xs ++ ys)
noncomputable def mulI (a b : Int) : R Int := chk (MOk a b) (a * b)
noncomputable def powI (a b : Int) : R Int := chk (CPowW a b) (a ^ b.toNat)
noncomputable def modI (a b : Int) : R Int := chk (0 < b) (a % b)
noncomputable def divI (a b : Int) : R Int := chk (DOk b) (a / b)
noncomputable def repL (xs : List α) (j : Int) : R (List α) := chk (0 ≤ j ∧ j < 2 ^ 62 ∧ xs.length * j.toNat ≤ sizeLine) (List.replicate j.toNat xs).flatten
theorem o_addI (ha : dat n va = some (.int a)) (hb : dat n vb = some (.int b)) : OpE (kAdd va vb) n (.ok (a + b)) vI n := fun Q E h => by unfold kAdd; rw [ha, hb]; exact h
theorem o_addS (ha : dat n va = some (.str x)) (hb : dat n vb = some (.str y)) : OpE (kAdd va vb) n (catS x y) vS n := fun Q E h => by unfold kAdd; rw [ha, hb]; have h := chk_sat h; exact h
theorem o_addL (ha : dat n va = some (.list (xs.map e))) (hb : dat n vb = some (.list (ys.map e))) (pa : perm n va = true) (pb : perm n vb = true) : OpE (kAdd va vb) n (catL xs ys) (vW e) n := fun Q E h => by
  unfold kAdd; rw [ha, hb]
  have h := chk_sat h
  refine ⟨pa, pb, by simpa using h.1, ?_⟩
  rw [← List.map_append]; exact h.2
theorem o_int {P : Int → Int → Prop} {f : Int → Int → PyData} {g : Int → Int → R γ} {ψ : γ → Vl} (h : ∀ a b (Q : DK) (E : Ex3 → Prop), (g a b).sat (fun c => Q (ψ c) n) E → P a b ∧ Q (.tmp (.sh (f a b))) n) (ha : dat n va = some (.int a)) (hb : dat n vb = some (.int b)) : OpE (kInt P f va vb) n (g a b) ψ n := fun Q E q => by
  unfold kInt; rw [ha, hb]; exact h a b Q E q
theorem o_sub (ha : dat n va = some (.int a)) (hb : dat n vb = some (.int b)) : OpE (kInt (fun _ _ => True) (fun i j => .int (i - j)) va vb) n (.ok (a - b)) vI n := o_int (g := fun a b => .ok (a - b)) (fun _ _ _ _ h => ⟨trivial, h⟩) ha hb
theorem o_mod (ha : dat n va = some (.int a)) (hb : dat n vb = some (.int b)) : OpE (kInt (fun _ j => 0 < j) (fun i j => .int (i % j)) va vb) n (modI a b) vI n := o_int (g := modI) (fun _ _ _ _ h => (by have h := chk_sat h; exact h)) ha hb
theorem o_fdiv (ha : dat n va = some (.int a)) (hb : dat n vb = some (.int b)) : OpE (kInt (fun _ j => DOk j) (fun i j => .int (i / j)) va vb) n (divI a b) vI n := o_int (g := divI) (fun _ _ _ _ h => (by have h := chk_sat h; exact h)) ha hb
theorem o_pow (ha : dat n va = some (.int a)) (hb : dat n vb = some (.int b)) : OpE (kInt CPowW (fun i j => .int (i ^ j.toNat)) va vb) n (powI a b) vI n := o_int (g := powI) (fun _ _ _ _ h => (by have h := chk_sat h; exact h)) ha hb
theorem o_lt (ha : dat n va = some (.int a)) (hb : dat n vb = some (.int b)) : OpE (kInt (fun _ _ => True) (fun i j => .bool (decide (i < j))) va vb) n (.ok (decide (a < b))) vB n := o_int (g := fun a b => .ok (decide (a < b))) (fun _ _ _ _ h => ⟨trivial, h⟩) ha hb
theorem o_le (ha : dat n va = some (.int a)) (hb : dat n vb = some (.int b)) : OpE (kInt (fun _ _ => True) (fun i j => .bool (decide (i ≤ j))) va vb) n (.ok (decide (a ≤ b))) vB n := o_int (g := fun a b => .ok (decide (a ≤ b))) (fun _ _ _ _ h => ⟨trivial, h⟩) ha hb
theorem o_gt (ha : dat n va = some (.int a)) (hb : dat n vb = some (.int b)) : OpE (kInt (fun _ _ => True) (fun i j => .bool (decide (j < i))) va vb) n (.ok (decide (b < a))) vB n := o_int (g := fun a b => .ok (decide (b < a))) (fun _ _ _ _ h => ⟨trivial, h⟩) ha hb
theorem o_ge (ha : dat n va = some (.int a)) (hb : dat n vb = some (.int b)) : OpE (kInt (fun _ _ => True) (fun i j => .bool (decide (j ≤ i))) va vb) n (.ok (decide (b ≤ a))) vB n := o_int (g := fun a b => .ok (decide (b ≤ a))) (fun _ _ _ _ h => ⟨trivial, h⟩) ha hb
theorem o_mulI (ha : dat n va = some (.int a)) (hb : dat n vb = some (.int b)) : OpE (kMul va vb) n (mulI a b) vI n := fun Q E h => by unfold kMul; rw [ha, hb]; have h := chk_sat h; exact h
theorem flat_rep {f : α → β} (xs : List α) : ∀ k : Nat, (List.replicate k (xs.map f)).flatten = ((List.replicate k xs).flatten).map f
  | 0 => rfl
  | k + 1 => by rw [List.replicate_succ, List.replicate_succ, List.flatten_cons, List.flatten_cons, List.map_append, flat_rep xs k]
theorem o_mulL (ha : dat n va = some (.list (xs.map e))) (hb : dat n vb = some (.int b)) (pa : perm n va = true) : OpE (kMul va vb) n (repL xs b) (vW e) n := fun Q E h => by
  unfold kMul; rw [ha, hb]
  have h := chk_sat h
  refine ⟨pa, h.1.1, h.1.2.1, by simpa using h.1.2.2, ?_⟩
  rw [flat_rep]; exact h.2
theorem o_neg (ha : dat n va = some (.int a)) : OpE (kNeg va) n (.ok (-a)) vI n := fun Q E h => by unfold kNeg; rw [ha]; exact h
def eqR (d d' : PyData) : R Bool := opt (eqN false d d')
def neR (d d' : PyData) : R Bool := opt ((eqN true d d').map fun c => !c)
theorem o_eq {d d' : PyData} (ha : dat n va = some d) (hb : dat n vb = some d') : OpE (kEq false va vb) n (eqR d d') vB n := fun Q E h => by
  obtain ⟨c, e1, q⟩ := opt_sat h
  exact ⟨d, d', c, ha, hb, e1, by cases c <;> exact q⟩
theorem o_ne {d d' : PyData} (ha : dat n va = some d) (hb : dat n vb = some d') : OpE (kEq true va vb) n (neR d d') vB n := fun Q E h => by
  obtain ⟨c, e1, q⟩ := opt_sat h
  cases hc : eqN true d d' with
  | none => rw [hc] at e1; cases e1
  | some k => rw [hc] at e1; cases e1; exact ⟨d, d', k, ha, hb, hc, by cases k <;> exact q⟩
/-- encodings whose == is equality -/
structure EqOk (e : α → PyData) [DecidableEq α] : Prop where
  eq : ∀ a b, eqD (e a) (e b) = some (decide (a = b))
def eqB {α : Type} [DecidableEq α] (a b : α) : Bool := decide (a = b)
def memB {α : Type} [DecidableEq α] (a : α) (xs : List α) : Bool := decide (a ∈ xs)
@[simp] theorem eqB_iff {α : Type} [DecidableEq α] {a b : α} : eqB a b = true ↔ a = b := by unfold eqB; exact decide_eq_true_iff
@[simp] theorem memB_iff {α : Type} [DecidableEq α] {a : α} {xs : List α} : memB a xs = true ↔ a ∈ xs := by unfold memB; exact decide_eq_true_iff
@[simp] theorem eqB_nf {α : Type} [DecidableEq α] {a b : α} : eqB a b = false ↔ ¬ a = b := by unfold eqB; exact decide_eq_false_iff_not
@[simp] theorem memB_nf {α : Type} [DecidableEq α] {a : α} {xs : List α} : memB a xs = false ↔ ¬ a ∈ xs := by unfold memB; exact decide_eq_false_iff_not
theorem EqOk.eqF {α : Type} [DecidableEq α] {e : α → PyData} (h : EqOk e) (a b : α) : eqN false (e a) (e b) = some (decide (a = b)) := by
  have k := h.eq a b
  unfold eqN
  split
  · rename_i h1 h2 h3
    rw [h2, h3] at k
    unfold eqD at k
    split at k
    · rename_i z _; cases z
    · rename_i z _; cases z
    · rename_i z _; cases z
    · split at k
      · rename_i z; exact absurd z.1 (by simp [SeqAt.shaped, PyData.canLay0])
      · cases k
  · exact k
theorem o_eqT [DecidableEq γ] {e : γ → PyData} {x y : γ} (he : EqOk e) (ha : dat n va = some (e x)) (hb : dat n vb = some (e y)) : OpE (kEq false va vb) n (.ok (eqB x y)) vB n := fun Q E h => by
  unfold eqB at h
  exact ⟨_, _, _, ha, hb, he.eqF x y, by cases hx : decide (x = y) <;> rw [hx] at h <;> exact h⟩
theorem o_neT [DecidableEq γ] {e : γ → PyData} {x y : γ} (he : EqOk e) (ha : dat n va = some (e x)) (hb : dat n vb = some (e y)) : OpE (kEq true va vb) n (.ok (!eqB x y)) vB n := fun Q E h => by
  unfold eqB at h
  exact ⟨_, _, _, ha, hb, by rw [eqN_true]; exact he.eq x y, by cases hx : decide (x = y) <;> rw [hx] at h <;> exact h⟩
/-- .. of any depth -/
structure Lay (e : α → PyData) (k : Nat) [DecidableEq α] : Prop where
  can : ∀ a, (e a).canLay0 = true
  dep : ∀ a, (e a).depth ≤ k
  eqv : ∀ a b, PyData.eqv (e a) (e b) = decide (a = b)
abbrev eL (e : α → PyData) (xs : List α) : PyData := .list (xs.map e)
def eO (e : α → PyData) (o : Option α) : PyData := match o with
  | none => .none
  | some a => e a
abbrev eT2 (e : α → PyData) (f : β → PyData) (p : α × β) : PyData := .tuple [e p.1, f p.2]
abbrev eT3 (e : α → PyData) (f : β → PyData) (g : γ → PyData) (p : α × β × γ) : PyData := .tuple [e p.1, f p.2.1, g p.2.2]
abbrev eU (_ : Unit) : PyData := .none
theorem layI : Lay PyData.int 0 := ⟨fun _ => rfl, fun a => Nat.le_refl _, fun a b => rfl⟩
theorem layB : Lay PyData.bool 0 := ⟨fun _ => rfl, fun a => Nat.le_refl _, fun a b => by cases a <;> cases b <;> rfl⟩
end
end L3

namespace L3
open PySem L2
section
variable {α β γ δ : Type} {XT : En → Prop} {n m m1 m2 : En} {ta tb : DE} {va vb v w : Vl} {a b i : Int} {x y z : Str} {e : α → PyData} {f : β → PyData} {g : γ → PyData} {xs ys : List α} {vals : List Vl} {d d' : PyData}
theorem le_line {xs : List α} (k : Nat) (h : xs.length = k) (hk : k ≤ 4096 := by decide) : xs.length ≤ sizeLine := by
  rw [h]; exact Nat.le_trans hk (by decide)
theorem o_lst (xs : List α) (h : shareAll vals n = some (xs.map e, m)) (hl : xs.length ≤ sizeLine) : OpE (kLst vals) n (.ok xs) (vW e) m := fun Q E q => ⟨_, _, h, by simpa using hl, q⟩
theorem o_tup0 (h : shareAll vals n = some ([], m)) : OpE (kTup vals) n (.ok ()) (vH fun _ : Unit => .tuple []) m := fun Q E q => ⟨_, _, h, by simp, q⟩
theorem o_tup1 (e : α → PyData) (x : α) (h : shareAll vals n = some ([e x], m)) : OpE (kTup vals) n (.ok x) (vH fun x => .tuple [e x]) m := fun Q E q => ⟨_, _, h, le_line 1 rfl, q⟩
theorem o_tup2 (e : α → PyData) (f : β → PyData) (x : α) (y : β) (h : shareAll vals n = some ([e x, f y], m)) : OpE (kTup vals) n (.ok (x, y)) (vH (eT2 e f)) m := fun Q E q => ⟨_, _, h, le_line 2 rfl, q⟩
theorem o_tup3 (e : α → PyData) (f : β → PyData) (g : γ → PyData) (x : α) (y : β) (z : γ) (h : shareAll vals n = some ([e x, f y, g z], m)) : OpE (kTup vals) n (.ok (x, y, z)) (vH (eT3 e f g)) m := fun Q E q => ⟨_, _, h, le_line 3 rfl, q⟩
def atR (xs : List α) (i : Int) : R α := opt (atI xs i)
theorem atI_map {h : α → β} (xs : List α) (i : Int) : atI (xs.map h) i = (atI xs i).map h := by
  unfold atI ixN
  rw [List.length_map]
  have go : ∀ o : Option Nat, (o.bind fun j => (xs.map h)[j]?) = (o.bind fun j => xs[j]?).map h := fun o => by
    cases o with
    | none => rfl
    | some j => simp
  exact go _
theorem ix_go {k : Option Vl} {w' : γ → Vl} {r : Option γ} (hi : dat n vb = some (.int i)) (hk : ixOf n va i = r.map w') : OpE (kIx va vb) n (opt r) w' n := fun Q E q => by
  obtain ⟨c, e1, q⟩ := opt_sat q
  refine ⟨i, w' c, hi, ?_, q⟩
  rw [hk, e1]; rfl
theorem o_ix_sh (e : α → PyData) (xs : List α) (hs : slotOf n va = some (.sh (.list (xs.map e)))) (hi : dat n vb = some (.int i)) : OpE (kIx va vb) n (atR xs i) (vH e) n := ix_go (k := none) hi (by
  unfold ixOf; rw [hs]; dsimp only [Sl.dat]; rw [atI_map, Option.map_map]; rfl)
theorem o_ix_own (e : α → PyData) (xs : List α) (hs : slotOf n va = some (.own (xs.map e))) (hi : dat n vb = some (.int i)) : OpE (kIx va vb) n (atR xs i) (vH e) n := ix_go (k := none) hi (by
  unfold ixOf; rw [hs]; dsimp only [Sl.dat]; rw [atI_map, Option.map_map]; rfl)
theorem o_ix_bor (e : α → PyData) (xs : List α) (hs : slotOf n va = some (.bor (.list (xs.map e)))) (hi : dat n vb = some (.int i)) : OpE (kIx va vb) n (atR xs i) (fun a => .tmp (.bor (e a))) n := ix_go (k := none) hi (by
  unfold ixOf; rw [hs]; dsimp only [Sl.dat]; rw [atI_map, Option.map_map]; rfl)
theorem o_ix_scr (ns : List Int) (hs : slotOf n va = some (.scr ns)) (hi : dat n vb = some (.int i)) : OpE (kIx va vb) n (atR ns i) vI n := ix_go (k := none) hi (by
  unfold ixOf; rw [hs])
theorem o_ix_tup (g : γ → PyData) (y : γ) {ds : List PyData} (hs : slotOf n va = some (.sh (.tuple ds))) (hi : dat n vb = some (.int i)) (h : atI ds i = some (g y)) : OpE (kIx va vb) n (.ok y) (vH g) n := fun Q E q => ⟨i, _, hi, (by
  unfold ixOf; rw [hs]; dsimp only [Sl.dat]; rw [h]; rfl), q⟩
theorem o_ix_tupb (g : γ → PyData) (y : γ) {ds : List PyData} (hs : slotOf n va = some (.bor (.tuple ds))) (hi : dat n vb = some (.int i)) (h : atI ds i = some (g y)) : OpE (kIx va vb) n (.ok y) (fun a => .tmp (.bor (g a))) n := fun Q E q => ⟨i, _, hi, (by
  unfold ixOf; rw [hs]; dsimp only [Sl.dat]; rw [h]; rfl), q⟩
noncomputable def atS (z : Str) (i : Int) : R Str := if z.length ≤ sizeLine then opt ((atI z.cps.toList i).map fun c => (⟨#[c]⟩ : Str)) else .bad
theorem ixOf_str (hd : dat n va = some (.str z)) : ixOf n va i = if z.length ≤ sizeLine then (atI z.cps.toList i).map fun c => .tmp (.sh (.str ⟨#[c]⟩)) else none := by
  obtain ⟨s, h1, h2, h3⟩ := dat_slot hd
  unfold ixOf; rw [h1]
  cases s with
  | scr ns => cases h3
  | ext ρ => cases h3
  | sh d => cases h2; rfl
  | bor d => cases h2; rfl
  | own d => cases h2
  | odk d => cases h2
theorem o_ix_str (hd : dat n va = some (.str z)) (hi : dat n vb = some (.int i)) : OpE (kIx va vb) n (atS z i) vS n := fun Q E q => by
  unfold atS at q
  split at q
  · rename_i hz
    obtain ⟨c, e1, q⟩ := opt_sat q
    refine ⟨i, _, hi, ?_, q⟩
    rw [ixOf_str hd, if_pos hz]
    cases h : atI z.cps.toList i with
    | none => rw [h] at e1; cases e1
    | some u => rw [h] at e1; cases e1; rfl
  · exact q.elim
/-- of any value -/
def ixD (d : PyData) (i : Int) : R PyData := match d with
  | .list xs => opt (atI xs i)
  | .tuple xs => opt (atI xs i)
  | _ => .bad
theorem o_ixD_sh (hs : slotOf n va = some (.sh d)) (hi : dat n vb = some (.int i)) : OpE (kIx va vb) n (ixD d i) (vH fun d => d) n := fun Q E q => by
  unfold ixD at q
  split at q
  · obtain ⟨c, e1, q⟩ := opt_sat q
    exact ⟨i, _, hi, (by unfold ixOf; rw [hs]; dsimp only [Sl.dat]; rw [e1]; rfl), q⟩
  · obtain ⟨c, e1, q⟩ := opt_sat q
    exact ⟨i, _, hi, (by unfold ixOf; rw [hs]; dsimp only [Sl.dat]; rw [e1]; rfl), q⟩
  · exact q.elim
theorem o_ixD_bor (hs : slotOf n va = some (.bor d)) (hi : dat n vb = some (.int i)) : OpE (kIx va vb) n (ixD d i) (fun d => .tmp (.bor d)) n := fun Q E q => by
  unfold ixD at q
  split at q
  · obtain ⟨c, e1, q⟩ := opt_sat q
    exact ⟨i, _, hi, (by unfold ixOf; rw [hs]; dsimp only [Sl.dat]; rw [e1]; rfl), q⟩
  · obtain ⟨c, e1, q⟩ := opt_sat q
    exact ⟨i, _, hi, (by unfold ixOf; rw [hs]; dsimp only [Sl.dat]; rw [e1]; rfl), q⟩
  · exact q.elim
theorem lenOf_dat (hd : dat n v = some d) : lenOf n v = match d with
    | .list xs => some xs.length
    | .tuple xs => some xs.length
    | .dict xs => some xs.length
    | .str z => if z.length ≤ sizeLine then some z.length else none
    | _ => none := by
  obtain ⟨s, h1, h2, h3⟩ := dat_slot hd
  unfold lenOf; rw [h1]
  cases s with
  | scr ns => cases h3
  | ext ρ => cases h3
  | sh d => cases h2; cases d <;> rfl
  | bor d => cases h2; cases d <;> rfl
  | own d => cases h2; rfl
  | odk d => cases h2; rfl
theorem o_lenL (hd : dat n v = some (.list (xs.map e))) : OpE (kLen [v]) n (.ok (xs.length : Int)) vI n := fun Q E q => ⟨_, lenOf_dat hd, by
  rw [List.length_map]; exact q⟩
theorem o_lenK {kvs : List (PyData × PyData)} {ks : List γ} {h : γ → PyData × PyData} (hd : dat n v = some (.dict (ks.map h))) : OpE (kLen [v]) n (.ok (ks.length : Int)) vI n := fun Q E q => ⟨_, lenOf_dat hd, by
  rw [List.length_map]; exact q⟩
theorem o_lenScr {ns : List Int} (hs : slotOf n v = some (.scr ns)) : OpE (kLen [v]) n (.ok (ns.length : Int)) vI n := fun Q E q => ⟨_, (by unfold lenOf; rw [hs]), q⟩
noncomputable def lenS (z : Str) : R Int := chk (z.length ≤ sizeLine) (z.length : Int)
theorem o_lenS (hd : dat n v = some (.str z)) : OpE (kLen [v]) n (lenS z) vI n := fun Q E q => by
  have q := chk_sat q
  exact ⟨_, by rw [lenOf_dat hd]; exact if_pos q.1, q.2⟩
noncomputable def lenD (d : PyData) : R Int := match d with
  | .list xs => .ok (xs.length : Int)
  | .tuple xs => .ok (xs.length : Int)
  | .dict xs => .ok (xs.length : Int)
  | .str z => lenS z
  | _ => .bad
theorem o_lenD (hd : dat n v = some d) : OpE (kLen [v]) n (lenD d) vI n := fun Q E q => by
  cases d with
  | list xs => exact ⟨_, lenOf_dat hd, q⟩
  | tuple xs => exact ⟨_, lenOf_dat hd, q⟩
  | dict xs => exact ⟨_, lenOf_dat hd, q⟩
  | str z => exact o_lenS hd Q E q
  | none => exact q.elim
  | bool b => exact q.elim
  | int b => exact q.elim
theorem o_isi {T : String} (hd : dat n v = some d) : OpE (kIsi T v) n (.ok (isiD d T)) vB n := fun Q E q => ⟨d, hd, q⟩
def inS (x z : Str) : R Bool := match x.cps.toList with
  | [c] => .ok (decide (c ∈ z.cps.toList))
  | _ => .bad
theorem inS_sat {P : Bool → Prop} {E : Ex3 → Prop} (h : (inS x z).sat P E) : ∃ c, x = ⟨#[c]⟩ ∧ P (decide (c ∈ z.cps.toList)) := by
  unfold inS at h
  split at h
  · rename_i c hc
    refine ⟨c, ?_, h⟩
    cases x with
    | mk a => cases a with
      | mk l => cases hc; rfl
  · exact h.elim
theorem o_inS (ha : dat n va = some (.str x)) (hb : dat n vb = some (.str z)) : OpE (kIn false va vb) n (inS x z) vB n := fun Q E q => by
  obtain ⟨c, rfl, q'⟩ := inS_sat q
  unfold kIn; rw [ha, hb]
  refine ⟨c, rfl, ?_⟩
  generalize decide (c ∈ z.cps.toList) = k at q'
  cases k <;> exact q'
theorem o_ninS (ha : dat n va = some (.str x)) (hb : dat n vb = some (.str z)) : OpE (kIn true va vb) n ((inS x z).bind fun c => .ok (!c)) vB n := fun Q E q => by
  obtain ⟨c, rfl, q'⟩ := inS_sat (R.sat_bind q)
  unfold kIn; rw [ha, hb]
  refine ⟨c, rfl, ?_⟩
  generalize decide (c ∈ z.cps.toList) = k at q'
  cases k <;> exact q'
/-- values that are no lists, tuples, dicts -/
structure Scl (e : α → PyData) [DecidableEq α] : Prop where
  sc : ∀ a, scal (e a) = true
  eqv : ∀ a b, PyData.eqv (e a) (e b) = decide (a = b)
theorem sclI : Scl PyData.int := ⟨fun _ => rfl, fun _ _ => rfl⟩
theorem sclB : Scl PyData.bool := ⟨fun _ => rfl, layB.eqv⟩
theorem sclS : Scl PyData.str := ⟨fun _ => rfl, fun a b => by
  show (a == b) = _
  rw [Bool.eq_iff_iff]; simp⟩
theorem sclOI : Scl (eO PyData.int) := ⟨fun a => by cases a <;> rfl, fun a b => by
  rw [Bool.eq_iff_iff]; cases a <;> cases b <;> simp [eO, PyData.eqv]⟩
theorem sclOS : Scl (eO PyData.str) := ⟨fun a => by cases a <;> rfl, fun a b => by
  rw [Bool.eq_iff_iff]; cases a <;> cases b <;> simp [eO, PyData.eqv]⟩
theorem Scl.all [DecidableEq α] {e : α → PyData} (h : Scl e) (xs : List α) : (xs.map e).all L3.scal = true := List.all_eq_true.mpr fun d hd => by
  obtain ⟨a, _, rfl⟩ := List.mem_map.mp hd
  exact h.sc a
theorem Scl.mem [DecidableEq α] {e : α → PyData} (h : Scl e) (c : α) : ∀ xs : List α, ((xs.map e).any fun d => PyData.eqv d (e c)) = decide (c ∈ xs)
  | [] => rfl
  | x :: xs => by
    rw [List.map_cons, List.any_cons, Scl.mem h c xs, h.eqv, Bool.eq_iff_iff]
    simp only [Bool.or_eq_true, decide_eq_true_eq, List.mem_cons]
    exact or_congr_left eq_comm
theorem o_inL [DecidableEq α] {c : α} (h : Scl e) (ha : dat n va = some (e c)) (hb : dat n vb = some (.list (xs.map e))) : OpE (kIn false va vb) n (.ok (memB c xs)) vB n := fun Q E q => by
  unfold memB at q
  have z := h.sc c
  unfold kIn; rw [ha, hb]
  have main : L3.scal (e c) = true ∧ (xs.map e).all L3.scal = true ∧ Q (.tmp (.sh (.bool (false != (xs.map e).any fun d => PyData.eqv d (e c))))) n := ⟨h.sc c, h.all xs, by
    rw [h.mem]; cases hx : decide (c ∈ xs) <;> rw [hx] at q <;> exact q⟩
  split
  · rename_i h1 h2; cases h2
  · rename_i h1 h2; cases h1; cases h2; exact main
  · rename_i h1 h2; cases h2
  · rename_i h0 h1; exact (h0 _ _ rfl rfl).elim
theorem o_ninL [DecidableEq α] {c : α} (h : Scl e) (ha : dat n va = some (e c)) (hb : dat n vb = some (.list (xs.map e))) : OpE (kIn true va vb) n (.ok (!memB c xs)) vB n := fun Q E q => by
  unfold memB at q
  have z := h.sc c
  unfold kIn; rw [ha, hb]
  have main : L3.scal (e c) = true ∧ (xs.map e).all L3.scal = true ∧ Q (.tmp (.sh (.bool (true != (xs.map e).any fun d => PyData.eqv d (e c))))) n := ⟨h.sc c, h.all xs, by
    rw [h.mem]; cases hx : decide (c ∈ xs) <;> rw [hx] at q <;> exact q⟩
  split
  · rename_i h1 h2; cases h2
  · rename_i h1 h2; cases h1; cases h2; exact main
  · rename_i h1 h2; cases h2
  · rename_i h0 h1; exact (h0 _ _ rfl rfl).elim
theorem o_inT [DecidableEq α] {c : α} (h : Scl e) (xs : List α) (ha : dat n va = some (e c)) (hb : dat n vb = some (.tuple (xs.map e))) : OpE (kIn false va vb) n (.ok (memB c xs)) vB n := fun Q E q => by
  unfold memB at q
  have z := h.sc c
  unfold kIn; rw [ha, hb]
  have main : L3.scal (e c) = true ∧ (xs.map e).all L3.scal = true ∧ Q (.tmp (.sh (.bool (false != (xs.map e).any fun d => PyData.eqv d (e c))))) n := ⟨h.sc c, h.all xs, by
    rw [h.mem]; cases hx : decide (c ∈ xs) <;> rw [hx] at q <;> exact q⟩
  split
  · rename_i h1 h2; cases h2
  · rename_i h1 h2; cases h2
  · rename_i h1 h2; cases h1; cases h2; exact main
  · rename_i h0 h1; exact (h1 _ _ rfl rfl).elim
theorem o_ninT [DecidableEq α] {c : α} (h : Scl e) (xs : List α) (ha : dat n va = some (e c)) (hb : dat n vb = some (.tuple (xs.map e))) : OpE (kIn true va vb) n (.ok (!memB c xs)) vB n := fun Q E q => by
  unfold memB at q
  have z := h.sc c
  unfold kIn; rw [ha, hb]
  have main : L3.scal (e c) = true ∧ (xs.map e).all L3.scal = true ∧ Q (.tmp (.sh (.bool (true != (xs.map e).any fun d => PyData.eqv d (e c))))) n := ⟨h.sc c, h.all xs, by
    rw [h.mem]; cases hx : decide (c ∈ xs) <;> rw [hx] at q <;> exact q⟩
  split
  · rename_i h1 h2; cases h2
  · rename_i h1 h2; cases h2
  · rename_i h1 h2; cases h1; cases h2; exact main
  · rename_i h0 h1; exact (h1 _ _ rfl rfl).elim
theorem o_isN (ha : dat n va = some d) (hb : dat n vb = some .none) : OpE (kIs false va vb) n (.ok (isNoneD d)) vB n := fun Q E q => by
  unfold kIs; rw [ha, hb]; dsimp only
  cases hx : isNoneD d <;> rw [hx] at q <;> exact q
theorem o_isnN (ha : dat n va = some d) (hb : dat n vb = some .none) : OpE (kIs true va vb) n (.ok (!isNoneD d)) vB n := fun Q E q => by
  unfold kIs; rw [ha, hb]; dsimp only
  cases hx : isNoneD d <;> rw [hx] at q <;> exact q
theorem o_isB {p q : Bool} (ha : dat n va = some (.bool p)) (hb : dat n vb = some (.bool q)) : OpE (kIs false va vb) n (.ok (decide (p = q))) vB n := fun Q E h => by
  unfold kIs; rw [ha, hb]; dsimp only
  cases hx : decide (p = q) <;> rw [hx] at h <;> exact h
theorem o_isnB {p q : Bool} (ha : dat n va = some (.bool p)) (hb : dat n vb = some (.bool q)) : OpE (kIs true va vb) n (.ok (!decide (p = q))) vB n := fun Q E h => by
  unfold kIs; rw [ha, hb]; dsimp only
  cases hx : decide (p = q) <;> rw [hx] at h <;> exact h
def TyO (XT : En → Prop) (t : DO) (n : En) (f : R (Option Int)) (m : En) : Prop := ∀ (ex : DX) (Q : Option Int → En → Prop), f.sat (fun o => Q o m) (fun e => ∀ n', XT n' → ex e n') → t ex n Q
theorem to_no : TyO XT doNo n (.ok none) n := fun ex Q q => q
theorem to_part {f : R Int} {φ : Int → Vl} (h : TyE XT ta n f φ m) (hd : ∀ a, dat m (φ a) = some (.int a)) : TyO XT (doPart ta) n (f.bind fun i => .ok (some i)) m := fun ex Q q => h ex _ ((R.sat_bind q).imp (fun a z => ⟨a, hd a, z⟩) fun _ z => z)
theorem cutL_map {h : α → β} (xs : List α) (lo hi : Option Int) : cutL (xs.map h) lo hi = (cutL xs lo hi).map h := by
  unfold cutL
  rw [List.length_map, List.map_take, List.map_drop]
def OpS (n : En) (v : Vl) (g : Option Int → Option Int → R γ) (ψ : γ → Vl) : Prop := ∀ lo hi Q E, (g lo hi).sat (fun c => Q (ψ c) n) E → kSl v lo hi n Q
theorem ty_sl {f : R α} {φ : α → Vl} {tl th : DO} {fl fh : R (Option Int)} {k : α → Option Int → Option Int → R γ} {ψ : γ → Vl} (ha : TyE XT ta n f φ m) (hl : TyO XT tl m fl m1) (hh : TyO XT th m1 fh m2) (op : ∀ a, OpS m2 (φ a) (k a) ψ) :
    TyE XT (dSl ta tl th) n (f.bind fun a => fl.bind fun lo => fh.bind fun hi => k a lo hi) ψ m2 := fun ex Q q =>
  ha ex _ ((R.sat_bind q).imp (fun a z => hl ex _ ((R.sat_bind z).imp (fun lo z => hh ex _ ((R.sat_bind z).imp (fun hi z => op a lo hi Q _ z) fun _ z => z)) fun _ z => z)) fun _ z => z)
theorem o_slL (e : α → PyData) (xs : List α) (hd : dat n v = some (.list (xs.map e))) (hp : perm n v = true) : OpS n v (fun lo hi => .ok (cutL xs lo hi)) (vW e) := fun lo hi Q E q => by
  unfold kSl; rw [hd]; dsimp only; rw [cutL_map]; exact ⟨hp, q⟩
noncomputable def cutR (z : Str) (lo hi : Option Int) : R Str := chk (z.length ≤ sizeLine) (cutS z lo hi)
theorem o_slS (hd : dat n v = some (.str z)) : OpS n v (cutR z) vS := fun lo hi Q E q => by
  unfold kSl; rw [hd]; have q := chk_sat q; exact q
theorem perm_bor [DecidableEq α] (h : Scl e) (hs : slotOf n v = some (.bor (.list (xs.map e)))) : perm n v = true := by
  unfold perm; rw [hs]; exact h.all xs
theorem o_max2 (ha : dat n v = some (.int a)) (hb : dat n w = some (.int b)) : OpE (kF2 fMax2 [v, w]) n (.ok (max a b)) vI n := fun Q E q => ⟨_, _, _, ha, hb, rfl, by
  have : (if b > a then b else a) = max a b := by split <;> omega
  rw [this]; exact q⟩
theorem o_min2 (ha : dat n v = some (.int a)) (hb : dat n w = some (.int b)) : OpE (kF2 fMin2 [v, w]) n (.ok (min a b)) vI n := fun Q E q => ⟨_, _, _, ha, hb, rfl, by
  have : (if b < a then b else a) = min a b := by split <;> omega
  rw [this]; exact q⟩
noncomputable def maxR (xs : List Int) : R Int := chk (0 < xs.length) (maxI xs)
noncomputable def minR (xs : List Int) : R Int := chk (0 < xs.length) (minI xs)
variable {ns : List Int} {bs : List Bool}
theorem o_maxL (hd : dat n v = some (.list (ns.map PyData.int))) : OpE (kF1 fMax [v]) n (maxR ns) vI n := fun Q E q => by
  have q := chk_sat q
  exact ⟨_, _, hd, (by show (intsD _).bind _ = _; rw [intsD_map]; exact if_pos q.1), q.2⟩
theorem o_minL (hd : dat n v = some (.list (ns.map PyData.int))) : OpE (kF1 fMin [v]) n (minR ns) vI n := fun Q E q => by
  have q := chk_sat q
  exact ⟨_, _, hd, (by show (intsD _).bind _ = _; rw [intsD_map]; exact if_pos q.1), q.2⟩
theorem o_sum (hd : dat n v = some (.list (ns.map PyData.int))) : OpE (kF1 fSum [v]) n (.ok ns.sum) vI n := fun Q E q => ⟨_, _, hd, (by show (intsD _).map _ = _; rw [intsD_map]; rfl), q⟩
theorem o_all (hd : dat n v = some (.list (bs.map PyData.bool))) : OpE (kF1 fAll [v]) n (.ok (bs.all id)) vB n := fun Q E q => ⟨_, _, hd, (by show (blsD _).map _ = _; rw [blsD_map]; rfl), q⟩
theorem o_intI (hd : dat n v = some (.int a)) : OpE (kF1 fInt [v]) n (.ok a) vI n := fun Q E q => ⟨_, _, hd, rfl, q⟩
theorem o_intB {p : Bool} (hd : dat n v = some (.bool p)) : OpE (kF1 fInt [v]) n (.ok (if p then 1 else 0)) vI n := fun Q E q => ⟨_, _, hd, rfl, q⟩
def intR (x : Str) : R Int := if x.length ≤ 640 then opt (PySem.intText? x) else .bad
theorem o_intS (hd : dat n v = some (.str x)) : OpE (kF1 fInt [v]) n (intR x) vI n := fun Q E q => by
  unfold intR at q
  split at q
  · rename_i hl
    obtain ⟨c, e1, q⟩ := opt_sat q
    exact ⟨_, _, hd, (by show (if _ then _ else _) = _; rw [if_pos hl, e1]; rfl), q⟩
  · exact q.elim
noncomputable def strR (a : Int) : R Str := chk (a.natAbs.log2 < 1920) (toString a : Str)
theorem o_str (hd : dat n v = some (.int a)) : OpE (kF1 fStr [v]) n (strR a) vS n := fun Q E q => by
  have q := chk_sat q
  exact ⟨_, _, hd, if_pos q.1, q.2⟩
noncomputable def reprR (d : PyData) : R Str := chk (reprD d = true) d.shown
theorem o_repr (hd : dat n v = some d) : OpE (kF1 fRepr [v]) n (reprR d) vS n := fun Q E q => by
  have q := chk_sat q
  exact ⟨_, _, hd, if_pos q.1, q.2⟩
theorem ty_reprL {t : DA} {fs : R α} {φs : α → List Vl} {ds : α → List PyData} (ha : TyA XT t n fs φs m) (hd : ∀ a, dats m (φs a) = some (ds a)) (hl : ∀ a, (ds a).length ≤ sizeLine) : TyE XT (dReprL t) n (fs.bind fun a => reprR (.list (ds a))) vS m := fun ex Q q =>
  ha ex _ ((R.sat_bind q).imp (fun a z => (by
    have z := chk_sat z
    exact ⟨_, hd a, z.1, hl a, z.2⟩)) fun _ z => z)
noncomputable def splitR (x y : Str) : R (List Str) := chk ((y.length == 0) = false ∧ x.length + 2 ≤ sizeLine) (Txt.split x y)
noncomputable def joinR (x : Str) (ys : List Str) : R Str := chk ((ys.map (·.length)).sum + ys.length * x.length ≤ 16777216) (Txt.join x ys)
theorem ty_tx {fa : R Str} {fb : R β} {φa : Str → Vl} {φb : β → Vl} {k : Vl → Vl → En → DK → Prop} {g : Str → β → R γ} {ψ : γ → Vl} (ha : TyE XT ta n fa φa m1) (hx : ∀ a, dat m1 (φa a) = some (.str a)) (hb : TyE XT tb m1 fb φb m2) (op : ∀ a b, OpE (k (φa a) (φb b)) m2 (g a b) ψ m) :
    TyE XT (dTx ta tb k) n (fa.bind fun a => fb.bind fun b => g a b) ψ m := fun ex Q h =>
  ha ex _ ((R.sat_bind h).imp (fun a h1 => ⟨⟨a, hx a⟩, hb ex _ ((R.sat_bind h1).imp (fun b h2 => op a b Q _ h2) fun _ z => z)⟩) fun _ z => z)
theorem o_split (ha : dat n va = some (.str x)) (hb : dat n vb = some (.str y)) : OpE (kSplit va vb) n (splitR x y) (vW PyData.str) n := fun Q E q => by
  have q := chk_sat q
  exact ⟨x, y, ha, hb, q.1.1, q.1.2, q.2⟩
theorem o_join {ss : List Str} (ha : dat n va = some (.str x)) (hb : dat n vb = some (.list (ss.map PyData.str))) : OpE (kJoin va vb) n (joinR x ss) vS n := fun Q E q => by
  have q := chk_sat q
  exact ⟨x, ss, ha, hb, q.1, q.2⟩
theorem o_list (e : α → PyData) (xs : List α) (hd : dat n v = some (.list (xs.map e))) (hp : perm n v = true) : OpE (kList [v]) n (.ok xs) (vW e) n := fun Q E q => by
  unfold kList; dsimp only; rw [hd]; exact ⟨hp, q⟩
theorem o_listT (e : α → PyData) (xs : List α) (hd : dat n v = some (.tuple (xs.map e))) (hp : perm n v = true) : OpE (kList [v]) n (.ok xs) (vW e) n := fun Q E q => by
  unfold kList; dsimp only; rw [hd]; exact ⟨hp, q⟩
theorem ty_chain {p p' : Int → Int → Bool} {tc : DE} {f1 f2 f3 : R Int} {φ1 φ2 φ3 : Int → Vl} (h1 : TyE XT ta n f1 φ1 m) (h2 : TyE XT tb m f2 φ2 m1) (h3 : TyE XT tc m1 f3 φ3 m1) (d1 : ∀ a, dat m1 (φ1 a) = some (.int a)) (d2 : ∀ a, dat m1 (φ2 a) = some (.int a)) (d3 : ∀ a, dat m1 (φ3 a) = some (.int a)) :
    TyE XT (dChain p p' ta tb tc) n (f1.bind fun i => f2.bind fun j => if p i j = true then f3.bind fun l => .ok (p' j l) else .ok false) vB m1 := fun ex Q q =>
  h1 ex _ ((R.sat_bind q).imp (fun i z => h2 ex _ ((R.sat_bind z).imp (fun j z => ⟨i, j, d1 i, d2 j, by
    by_cases hp : p i j = true
    · rw [if_pos hp] at z ⊢
      exact h3 ex _ ((R.sat_bind z).imp (fun l z => ⟨l, d3 l, z⟩) fun _ z => z)
    · rw [if_neg hp] at z ⊢; exact z⟩) fun _ z => z)) fun _ z => z)
theorem ty_chainP {p p' : Int → Int → Bool} {tc : DE} {i j l : Int} {φ1 φ2 φ3 : Int → Vl} (h1 : TyE XT ta n (.ok i) φ1 m) (h2 : TyE XT tb m (.ok j) φ2 m1) (h3 : TyE XT tc m1 (.ok l) φ3 m1) (d1 : ∀ a, dat m1 (φ1 a) = some (.int a)) (d2 : ∀ a, dat m1 (φ2 a) = some (.int a)) (d3 : ∀ a, dat m1 (φ3 a) = some (.int a)) :
    TyE XT (dChain p p' ta tb tc) n (.ok (p i j && p' j l)) vB m1 := fun ex Q q => (ty_chain h1 h2 h3 d1 d2 d3) ex Q (by
  show R.sat (if p i j = true then _ else _) _ _
  by_cases hp : p i j = true
  · rw [if_pos hp]; rw [hp] at q; exact q
  · rw [if_neg hp]
    have : p i j = false := by cases h : p i j with
      | true => exact absurd h hp
      | false => rfl
    rw [this] at q; exact q)
end
end L3

namespace L3
open PySem L2
inductive SR (ρ κ : Type) where
  | nx (s : κ) | ct (s : κ) | bk (s : κ) | rt (r : ρ) | err (e : Ex3) | bad
def SR.sat {ρ κ : Type} (f : SR ρ κ) (N C B : κ → Prop) (P : ρ → Prop) (E : Ex3 → Prop) : Prop := match f with
  | .nx s => N s
  | .ct s => C s
  | .bk s => B s
  | .rt r => P r
  | .err e => E e
  | .bad => False
def R.bindSR {α ρ κ : Type} (f : R α) (k : α → SR ρ κ) : SR ρ κ := match f with
  | .ok a => k a
  | .err e => .err e
  | .bad => .bad
def SR.bindT {ρ κ : Type} (f : SR ρ κ) (k : κ → R ρ) : R ρ := match f with
  | .nx s => k s
  | .rt p => .ok p
  | .err e => .err e
  | _ => .bad
def SR.bindN {ρ κ κ' : Type} (f : SR ρ κ) (k : κ → R κ') : R κ' := match f with
  | .nx s => k s
  | .err e => .err e
  | _ => .bad
def SR.bindS {ρ κ κ' : Type} (f : SR ρ κ) (k : κ → SR ρ κ') : SR ρ κ' := match f with
  | .nx s => k s
  | .rt p => .rt p
  | .err e => .err e
  | _ => .bad
@[simp] theorem R.bindSR_ok {α ρ κ : Type} {a : α} {k : α → SR ρ κ} : (R.ok a).bindSR k = k a := rfl
@[simp] theorem SR.bindT_nx {ρ κ : Type} {a : κ} {k : κ → R ρ} : (SR.nx a).bindT k = k a := rfl
@[simp] theorem SR.bindT_rt {ρ κ : Type} {p : ρ} {k : κ → R ρ} : (SR.rt p).bindT k = .ok p := rfl
@[simp] theorem SR.bindN_nx {ρ κ κ' : Type} {a : κ} {k : κ → R κ'} : (SR.nx (ρ := ρ) a).bindN k = k a := rfl
@[simp] theorem SR.bindS_nx {ρ κ κ' : Type} {a : κ} {k : κ → SR ρ κ'} : (SR.nx a).bindS k = k a := rfl
@[simp] theorem SR.bindS_rt {ρ κ κ' : Type} {p : ρ} {k : κ → SR ρ κ'} : (SR.rt p).bindS k = .rt p := rfl
/-- how a block's code is meant -/
structure Mode (ρ : Type) where
  X : Type
  XT : En → Prop
  RT : ρ → Sl → En → Prop
  sat : X → DX → DEnds → Prop
  bnd : {α : Type} → R α → (α → X) → X
  bndS : {κ : Type} → SR ρ κ → (κ → X) → X
  ret : ρ → X
  rai : Ex3 → X
  hb : ∀ {α : Type} (f : R α) (k : α → X) (ex : DX) (D : DEnds), sat (bnd f k) ex D → f.sat (fun a => sat (k a) ex D) (fun e => ∀ n', XT n' → ex e n')
  hs : ∀ {κ : Type} (f : SR ρ κ) (k : κ → X) (ex : DX) (D : DEnds), sat (bndS f k) ex D → f.sat (fun s => sat (k s) ex D) (fun _ => False) (fun _ => False) (fun p => ∀ s n, RT p s n → D.rt s n) (fun e => ∀ n', XT n' → ex e n')
  hr : ∀ (p : ρ) (ex : DX) (D : DEnds), sat (ret p) ex D → ∀ s n, RT p s n → D.rt s n
  he : ∀ (e : Ex3) (ex : DX) (D : DEnds), sat (rai e) ex D → ∀ n', XT n' → ex e n'
/-- a def's body, up to its end -/
def mT {ρ : Type} (RT : ρ → Sl → En → Prop) (XT : En → Prop) : Mode ρ where
  X := R ρ
  XT := XT
  RT := RT
  sat := fun r ex D => r.sat (fun p => (∀ s n, RT p s n → D.rt s n) ∧ ∀ n, RT p (.sh .none) n → D.nx n) fun e => ∀ n', XT n' → ex e n'
  bnd := fun f k => f.bind k
  bndS := fun f k => f.bindT k
  ret := .ok
  rai := .err
  hb := fun f k ex D h => R.sat_bind h
  hs := fun f k ex D h => by cases f <;> first | exact h | exact h.1
  hr := fun p ex D h => h.1
  he := fun e ex D h => h
/-- a block behind which it goes on -/
def mN {ρ κ : Type} (RT : ρ → Sl → En → Prop) (XT : En → Prop) (N : κ → En → Prop) : Mode ρ where
  X := R κ
  XT := XT
  RT := RT
  sat := fun r ex D => r.sat (fun s => ∀ n, N s n → D.nx n) fun e => ∀ n', XT n' → ex e n'
  bnd := fun f k => f.bind k
  bndS := fun f k => f.bindN k
  ret := fun _ => .bad
  rai := .err
  hb := fun f k ex D h => R.sat_bind h
  hs := fun f k ex D h => by cases f <;> first | exact h | exact h.elim
  hr := fun p ex D h => h.elim
  he := fun e ex D h => h
/-- a loop's body -/
def mS {ρ κ : Type} (RT : ρ → Sl → En → Prop) (XT : En → Prop) (N : κ → En → Prop) : Mode ρ where
  X := SR ρ κ
  XT := XT
  RT := RT
  sat := fun r ex D => r.sat (fun s => ∀ n, N s n → D.nx n) (fun s => ∀ n, N s n → D.ct n) (fun s => ∀ n, N s n → D.bk n) (fun p => ∀ s n, RT p s n → D.rt s n) fun e => ∀ n', XT n' → ex e n'
  bnd := fun f k => f.bindSR k
  bndS := fun f k => f.bindS k
  ret := .rt
  rai := .err
  hb := fun f k ex D h => by cases f <;> exact h
  hs := fun f k ex D h => by cases f <;> first | exact h | exact h.elim
  hr := fun p ex D h => h
  he := fun e ex D h => h
def TyB {ρ : Type} (M : Mode ρ) (t : DS) (n : En) (r : M.X) : Prop := ∀ (ex : DX) (D : DEnds), M.sat r ex D → t ex n D
def setS (n : En) : List (Nat × Option Sl) → En
  | [] => n
  | p :: l => setS (n.set p.1 p.2) l
theorem setS_len : ∀ {n : En} {l : List (Nat × Option Sl)}, (setS n l).length = n.length
  | n, [] => rfl
  | n, p :: l => by unfold setS; rw [setS_len, List.length_set]
def asgE (i : Nat) (v : Vl) (m : En) : Option En := match Nat.blt i m.length with
  | true => (match v with
    | .tmp s => some (m.set i (some s))
    | .loc j => (share (.loc j) m).map fun p => p.2.set i (some (.sh p.1)))
  | false => none
theorem asgE_d {i : Nat} {v : Vl} {m m' : En} {P : En → Prop} (h : asgE i v m = some m') (p : P m') : asgD i v m P := by
  unfold asgE at h
  cases hb : Nat.blt i m.length with
  | false => rw [hb] at h; cases h
  | true =>
    rw [hb] at h
    dsimp only at h
    have hl : i < m.length := by rw [Nat.blt_eq] at hb; exact hb
    refine ⟨hl, ?_⟩
    cases v with
    | tmp s => cases h; exact p
    | loc j =>
      dsimp only at h ⊢
      cases hs : share (.loc j) m with
      | none => rw [hs] at h; cases h
      | some q => rw [hs] at h; cases h; exact ⟨q.1, q.2, rfl, p⟩
def retE (v : Vl) (m : En) : Option (Sl × En) := match v with
  | .tmp s => some (s, m)
  | .loc i => match m[i]? with
    | some (some s) => some (s, m.set i none)
    | _ => none
theorem retE_d {v : Vl} {m m' : En} {s : Sl} {rt : Sl → En → Prop} (h : retE v m = some (s, m')) (p : rt s m') : retD v m rt := by
  cases v with
  | tmp s => cases h; exact p
  | loc i =>
    unfold retE at h
    dsimp only at h
    split at h
    · rename_i s' e
      cases h
      exact ⟨s, e, p⟩
    · cases h
section
variable {ρ α β ι κ : Type} {M : Mode ρ} {te : DE} {n m m1 : En} {f : R α} {φ : α → Vl} {rest ta tb : DS} {i : Nat}
theorem ty_assoc {a b : DS} {r : M.X} (h : TyB M (dSeq a (dSeq b rest)) n r) : TyB M (dSeq (dSeq a b) rest) n r := h
theorem ty_nx {r : M.X} (h : TyB M rest n r) : TyB M (dSeq dNext rest) n r := h
theorem ty_set {m' : α → En} {r : α → M.X} (h : TyE M.XT te n f φ m) (ha : ∀ a, asgE i (φ a) m = some (m' a)) (k : ∀ a, TyB M rest (m' a) (r a)) : TyB M (dSeq (dSet i te) rest) n (M.bnd f r) := fun ex D q =>
  h ex _ ((M.hb f r ex D q).imp (fun a z => asgE_d (ha a) (k a ex D z)) fun _ z => z)
theorem ty_expr {r : α → M.X} (h : TyE M.XT te n f φ m) (k : ∀ a, TyB M rest m (r a)) : TyB M (dSeq (dExpr te) rest) n (M.bnd f r) := fun ex D q =>
  h ex _ ((M.hb f r ex D q).imp (fun a z => k a ex D z) fun _ z => z)
theorem ty_ret {s : α → Sl} {m' : α → En} (g : α → ρ) (h : TyE M.XT te n f φ m) (hr : ∀ a, retE (φ a) m = some (s a, m' a)) (hR : ∀ a, M.RT (g a) (s a) (m' a)) : TyB M (dSeq (dRet te) rest) n (M.bnd f fun a => M.ret (g a)) := fun ex D q =>
  h ex _ ((M.hb f _ ex D q).imp (fun a z => retE_d (hr a) (M.hr _ ex D z _ _ (hR a))) fun _ z => z)
theorem ty_retT {RT : ρ → Sl → En → Prop} {XT : En → Prop} {f : R ρ} {φ : ρ → Vl} {s : ρ → Sl} {m' : ρ → En} (h : TyE XT te n f φ m) (hr : ∀ a, retE (φ a) m = some (s a, m' a)) (hR : ∀ a, RT a (s a) (m' a)) : TyB (mT RT XT) (dSeq (dRet te) rest) n f := fun ex D q =>
  h ex _ (q.imp (fun a z => retE_d (hr a) (z.1 _ _ (hR a))) fun _ z => z)
theorem ty_retN (p : ρ) (hR : M.RT p (.sh .none) n) : TyB M (dSeq dRetN rest) n (M.ret p) := fun ex D q => M.hr _ ex D q _ _ hR
theorem ty_endT {RT : ρ → Sl → En → Prop} {XT : En → Prop} (p : ρ) (hR : RT p (.sh .none) n) : TyB (mT RT XT) dNext n (.ok p) := fun ex D q => q.2 _ hR
theorem ty_endN {RT : ρ → Sl → En → Prop} {XT : En → Prop} {N : κ → En → Prop} (s : κ) (h : N s n) : TyB (mN RT XT N) dNext n (.ok s) := fun ex D q => q _ h
theorem ty_endS {RT : ρ → Sl → En → Prop} {XT : En → Prop} {N : κ → En → Prop} (s : κ) (h : N s n) : TyB (mS RT XT N) dNext n (.nx s) := fun ex D q => q _ h
theorem ty_break {RT : ρ → Sl → En → Prop} {XT : En → Prop} {N : κ → En → Prop} (s : κ) (h : N s n) : TyB (mS RT XT N) (dSeq dBreak rest) n (.bk s) := fun ex D q => q _ h
theorem ty_cont {RT : ρ → Sl → En → Prop} {XT : En → Prop} {N : κ → En → Prop} (s : κ) (h : N s n) : TyB (mS RT XT N) (dSeq dCont rest) n (.ct s) := fun ex D q => q _ h
theorem ty_sifD {tc : DT} {fc : R Bool} {ra rb : M.X} (hc : TyT M.XT tc n fc m) (h1 : TyB M (dSeq ta rest) m ra) (h2 : TyB M (dSeq tb rest) m rb) : TyB M (dSeq (dIfS tc ta tb) rest) n (M.bnd fc fun c => if c = true then ra else rb) := fun ex D q =>
  hc ex _ ((M.hb fc _ ex D q).imp (fun c z => (by
    cases c with
    | true => exact h1 ex D z
    | false => exact h2 ex D z)) fun _ z => z)
/-- joined -/
theorem ty_sifN {tc : DT} {fc : R Bool} {ws : List Wk} {ra rb : R κ} {r : κ → M.X} (u : κ → List (Nat × Option Sl)) (hc : TyT M.XT tc n fc m) (h1 : TyB (mN M.RT M.XT fun s k => wkE ws k = some (setS m (u s))) ta m ra)
    (h2 : TyB (mN M.RT M.XT fun s k => wkE ws k = some (setS m (u s))) tb m rb) (k : ∀ s, TyB M rest (setS m (u s)) (r s)) :
    TyB M (dSeq (dPost ws (dIfS tc ta tb)) rest) n (M.bnd fc fun c => M.bnd (if c = true then ra else rb) r) := fun ex D q =>
  hc ex _ ((M.hb fc _ ex D q).imp (fun c z => (by
    cases c with
    | true => exact h1 ex _ ((M.hb ra _ ex D z).imp (fun s z n' hn => ⟨_, hn, k s ex D z⟩) fun _ z => z)
    | false => exact h2 ex _ ((M.hb rb _ ex D z).imp (fun s z n' hn => ⟨_, hn, k s ex D z⟩) fun _ z => z))) fun _ z => z)
theorem ty_sifP {tc : DT} {fc : R Bool} {ws : List Wk} {sa sb : κ} {r : κ → M.X} (u : κ → List (Nat × Option Sl)) (hc : TyT M.XT tc n fc m) (h1 : TyB (mN M.RT M.XT fun s k => wkE ws k = some (setS m (u s))) ta m (.ok sa))
    (h2 : TyB (mN M.RT M.XT fun s k => wkE ws k = some (setS m (u s))) tb m (.ok sb)) (k : ∀ s, TyB M rest (setS m (u s)) (r s)) :
    TyB M (dSeq (dPost ws (dIfS tc ta tb)) rest) n (M.bnd fc fun c => r (if c = true then sa else sb)) := fun ex D q =>
  hc ex _ ((M.hb fc _ ex D q).imp (fun c z => (by
    cases c with
    | true => exact h1 ex _ (fun n' hn => ⟨_, hn, k sa ex D z⟩)
    | false => exact h2 ex _ (fun n' hn => ⟨_, hn, k sb ex D z⟩))) fun _ z => z)
def forL (b : ι → κ → SR ρ κ) : List ι → κ → SR ρ κ
  | [], s => .nx s
  | x :: xs, s => match b x s with
    | .nx s' => forL b xs s'
    | .ct s' => forL b xs s'
    | .bk s' => .nx s'
    | .rt p => .rt p
    | .err e => .err e
    | .bad => .bad
def foldR (b : ι → κ → R κ) : List ι → κ → R κ
  | [], s => .ok s
  | x :: xs, s => (b x s).bind fun s' => foldR b xs s'
def TyI (XT : En → Prop) (ti : DI) (n : En) (f : R (List ι)) (asg : ι → En → En) (n1 : En) : Prop := ∀ (ex : DX) (Q : Nat → (Nat → En → En) → En → Prop),
  f.sat (fun xs => ∀ st : Nat → En → En, (∀ i x, xs[i]? = some x → ∀ m, st i m = asg x m) → Q xs.length st n1) (fun e => ∀ n', XT n' → ex e n') → ti ex n Q
theorem for_go {ti : DI} {js : List Nat} {n0 n1 : En} {fi : R (List ι)} {asg : ι → En → En} {u : κ → List (Nat × Option Sl)} {s0 : κ} {b : ι → κ → SR ρ κ} {ws : List Wk} {ex : DX} {D : DEnds} {RT : ρ → Sl → En → Prop} {XT : En → Prop}
    (hi : TyI XT ti n0 fi asg n1) (hj : (js.all fun j => Nat.blt j n1.length) = true) (h0 : setS n1 (u s0) = n1) (hb : ∀ x s, TyB (mS RT XT fun s k => wkE ws k = some (setS n1 (u s))) tb (asg x (setS n1 (u s))) (b x s))
    (q : fi.sat (fun xs => (forL b xs s0).sat (fun s => D.nx (setS n1 (u s))) (fun _ => False) (fun _ => False) (fun p => ∀ s n, RT p s n → D.rt s n) (fun e => ∀ n', XT n' → ex e n')) (fun e => ∀ n', XT n' → ex e n')) : dFor js ti (dPost ws tb) ex n0 D := by
  refine hi ex _ (q.imp (fun xs q st hst => ?_) fun _ z => z)
  let G : SR ρ κ → Prop := fun r => r.sat (fun s => D.nx (setS n1 (u s))) (fun _ => False) (fun _ => False) (fun p => ∀ s n, RT p s n → D.rt s n) (fun e => ∀ n', XT n' → ex e n')
  refine ⟨fun i k => ∃ s, k = setS n1 (u s) ∧ G (forL b (xs.drop i) s), ⟨s0, h0.symm, q⟩, fun i k hl ⟨s, e, g⟩ => ⟨fun j hm => ?_, ?_⟩, fun k ⟨s, e, g⟩ => ?_⟩
  · have := List.all_eq_true.mp hj j hm
    rw [Nat.blt_eq] at this
    rw [e, setS_len]; exact this
  · have hx : xs[i]? = some xs[i] := List.getElem?_eq_getElem hl
    rw [hst i _ hx, e]
    refine hb xs[i] s ex _ ?_
    rw [List.drop_eq_getElem_cons hl] at g
    unfold forL at g
    show SR.sat (b xs[i] s) _ _ _ _ _
    cases hbx : b xs[i] s with
    | nx s' =>
      rw [hbx] at g
      exact fun n' hn => ⟨_, hn, s', rfl, g⟩
    | ct s' =>
      rw [hbx] at g
      exact fun n' hn => ⟨_, hn, s', rfl, g⟩
    | bk s' =>
      rw [hbx] at g
      exact fun n' hn => ⟨_, hn, g⟩
    | rt p => rw [hbx] at g; exact g
    | err e => rw [hbx] at g; exact g
    | bad => rw [hbx] at g; exact g
  · rw [List.drop_length] at g
    rw [e]; exact g
theorem ty_for {ti : DI} {js : List Nat} {n0 n1 : En} {fi : R (List ι)} {asg : ι → En → En} {ws0 ws : List Wk} {b : ι → κ → SR ρ κ} {r : κ → M.X} (u : κ → List (Nat × Option Sl)) (s0 : κ) (h : wkE ws0 n = some n0) (hi : TyI M.XT ti n0 fi asg n1) (hj : (js.all fun j => Nat.blt j n1.length) = true) (h0 : setS n1 (u s0) = n1)
    (hb : ∀ x s, TyB (mS M.RT M.XT fun s k => wkE ws k = some (setS n1 (u s))) tb (asg x (setS n1 (u s))) (b x s)) (k : ∀ s, TyB M rest (setS n1 (u s)) (r s)) :
    TyB M (dSeq (dPre ws0 (dFor js ti (dPost ws tb))) rest) n (M.bnd fi fun xs => M.bndS (forL b xs s0) r) := fun ex D q =>
  ⟨n0, h, for_go hi hj h0 hb ((M.hb fi _ ex D q).imp (fun xs z => (by
    have z := M.hs _ _ ex D z
    cases hf : forL b xs s0 with
    | nx s => rw [hf] at z; exact k s ex D z
    | ct s => rw [hf] at z; exact z
    | bk s => rw [hf] at z; exact z
    | rt p => rw [hf] at z; exact z
    | err e => rw [hf] at z; exact z
    | bad => rw [hf] at z; exact z)) fun _ z => z)⟩
def SR.of {ρ κ : Type} (f : R κ) : SR ρ κ := match f with
  | .ok s => .nx s
  | .err e => .err e
  | .bad => .bad
theorem forL_of (b : ι → κ → R κ) : ∀ (xs : List ι) (s : κ), forL (ρ := ρ) (fun x s => SR.of (b x s)) xs s = SR.of (foldR b xs s)
  | [], s => rfl
  | x :: xs, s => by
    unfold forL foldR
    cases h : b x s with
    | ok s' => exact forL_of b xs s'
    | err e => rfl
    | bad => rfl
theorem TyB.of {RT : ρ → Sl → En → Prop} {XT : En → Prop} {N : κ → En → Prop} {t : DS} {r : R κ} (h : TyB (mN RT XT N) t n r) : TyB (mS RT XT N) t n (SR.of r) := fun ex D q => h ex D (by
  cases r with
  | ok s => exact q
  | err e => exact q
  | bad => exact q)
theorem ty_forN {ti : DI} {js : List Nat} {n0 n1 : En} {fi : R (List ι)} {asg : ι → En → En} {ws0 ws : List Wk} {b : ι → κ → R κ} {r : κ → M.X} (u : κ → List (Nat × Option Sl)) (s0 : κ) (h : wkE ws0 n = some n0) (hi : TyI M.XT ti n0 fi asg n1) (hj : (js.all fun j => Nat.blt j n1.length) = true) (h0 : setS n1 (u s0) = n1)
    (hb : ∀ x s, TyB (mN M.RT M.XT fun s k => wkE ws k = some (setS n1 (u s))) tb (asg x (setS n1 (u s))) (b x s)) (k : ∀ s, TyB M rest (setS n1 (u s)) (r s)) :
    TyB M (dSeq (dPre ws0 (dFor js ti (dPost ws tb))) rest) n (M.bnd fi fun xs => M.bnd (foldR b xs s0) r) := fun ex D q =>
  ⟨n0, h, for_go (b := fun x s => SR.of (b x s)) hi hj h0 (fun x s => (hb x s).of) ((M.hb fi _ ex D q).imp (fun xs z => (by
    have z := M.hb _ _ ex D z
    rw [forL_of]
    cases hf : foldR b xs s0 with
    | ok s => rw [hf] at z; exact k s ex D z
    | err e => rw [hf] at z; exact z
    | bad => rw [hf] at z; exact z)) fun _ z => z)⟩
def whileN (c : κ → R Bool) (b : κ → SR ρ κ) : Nat → κ → Option (SR ρ κ)
  | 0, _ => none
  | k + 1, s => match c s with
    | .ok true => (match b s with
      | .nx s' => whileN c b k s'
      | .ct s' => whileN c b k s'
      | .bk s' => some (.nx s')
      | .rt p => some (.rt p)
      | .err e => some (.err e)
      | .bad => some .bad)
    | .ok false => some (.nx s)
    | .err e => some (.err e)
    | .bad => some .bad
theorem whileN_succ {c : κ → R Bool} {b : κ → SR ρ κ} : ∀ {k : Nat} {s : κ} {r : SR ρ κ}, whileN c b k s = some r → whileN c b (k + 1) s = some r
  | k + 1, s, r, h => by
    unfold whileN at h ⊢
    cases hc : c s with
    | ok v =>
      rw [hc] at h
      cases v with
      | true =>
        dsimp only at h ⊢
        cases hb : b s with
        | nx s' => rw [hb] at h; exact whileN_succ h
        | ct s' => rw [hb] at h; exact whileN_succ h
        | bk s' => rw [hb] at h; exact h
        | rt p => rw [hb] at h; exact h
        | err e => rw [hb] at h; exact h
        | bad => rw [hb] at h; exact h
      | false => exact h
    | err e => rw [hc] at h; exact h
    | bad => rw [hc] at h; exact h
theorem whileN_le {c : κ → R Bool} {b : κ → SR ρ κ} {k : Nat} {s : κ} {r : SR ρ κ} (h : whileN c b k s = some r) : ∀ d : Nat, whileN c b (k + d) s = some r
  | 0 => h
  | d + 1 => whileN_succ (whileN_le h d)
open Classical in
noncomputable def whileS (c : κ → R Bool) (b : κ → SR ρ κ) (s : κ) : SR ρ κ := if h : ∃ r k, whileN c b k s = some r then Classical.choose h else .bad
theorem whileS_eq {c : κ → R Bool} {b : κ → SR ρ κ} {s : κ} {k : Nat} {r : SR ρ κ} (h : whileN c b k s = some r) : whileS c b s = r := by
  have hx : ∃ r k, whileN c b k s = some r := ⟨r, k, h⟩
  unfold whileS
  rw [dif_pos hx]
  obtain ⟨k', h'⟩ := Classical.choose_spec hx
  have e1 := whileN_le h k'
  have e2 := whileN_le h' k
  rw [Nat.add_comm, e1] at e2
  exact (Option.some.inj e2).symm
/-- one turn -/
theorem whileS_go {c : κ → R Bool} {b : κ → SR ρ κ} {s : κ} : whileS c b s = (match c s with
    | .ok true => (match b s with
      | .nx s' => whileS c b s'
      | .ct s' => whileS c b s'
      | .bk s' => .nx s'
      | .rt p => .rt p
      | .err e => .err e
      | .bad => .bad)
    | .ok false => .nx s
    | .err e => .err e
    | .bad => .bad) := by
  have step : ∀ s', (∀ k, whileN c b (k + 1) s = whileN c b k s') → whileS c b s = whileS c b s' := fun s' h => by
    by_cases hx : ∃ r k, whileN c b k s' = some r
    · obtain ⟨r, k, h2⟩ := hx
      rw [whileS_eq h2]
      exact whileS_eq (k := k + 1) (by rw [h]; exact h2)
    · have hy : ¬ ∃ r k, whileN c b k s = some r := fun ⟨r, k, h2⟩ => hx ⟨r, k, by
        rw [← h]; exact whileN_succ h2⟩
      unfold whileS
      rw [dif_neg hx, dif_neg hy]
  cases hc : c s with
  | ok v =>
    cases v with
    | true =>
      cases hb : b s with
      | nx s' => exact step s' fun k => by rw [whileN, hc]; dsimp only; rw [hb]
      | ct s' => exact step s' fun k => by rw [whileN, hc]; dsimp only; rw [hb]
      | bk s' => exact whileS_eq (k := 1) (by rw [whileN, hc]; dsimp only; rw [hb])
      | rt p => exact whileS_eq (k := 1) (by rw [whileN, hc]; dsimp only; rw [hb])
      | err e => exact whileS_eq (k := 1) (by rw [whileN, hc]; dsimp only; rw [hb])
      | bad => exact whileS_eq (k := 1) (by rw [whileN, hc]; dsimp only; rw [hb])
    | false => exact whileS_eq (k := 1) (by rw [whileN, hc])
  | err e => exact whileS_eq (k := 1) (by rw [whileN, hc])
  | bad => exact whileS_eq (k := 1) (by rw [whileN, hc])
theorem ty_while {tc : DT} {n0 : En} {ws0 ws : List Wk} {c : κ → R Bool} {b : κ → SR ρ κ} {r : κ → M.X} (u : κ → List (Nat × Option Sl)) (s0 : κ) (h : wkE ws0 n = some n0) (h0 : setS n0 (u s0) = n0) (hc : ∀ s, TyT M.XT tc (setS n0 (u s)) (c s) (setS n0 (u s)))
    (hb : ∀ s, TyB (mS M.RT M.XT fun s k => wkE ws k = some (setS n0 (u s))) tb (setS n0 (u s)) (b s)) (k : ∀ s, TyB M rest (setS n0 (u s)) (r s)) :
    TyB M (dSeq (dPre ws0 (dWhile tc (dPost ws tb))) rest) n (M.bndS (whileS c b s0) r) := fun ex D q => by
  refine ⟨n0, h, ?_⟩
  have z := M.hs _ _ ex D q
  by_cases hx : ∃ r k, whileN c b k s0 = some r
  · obtain ⟨r1, k1, e1⟩ := hx
    rw [whileS_eq e1] at z
    let G : SR ρ κ → Prop := fun x => x.sat (fun s => M.sat (r s) ex D) (fun _ => False) (fun _ => False) (fun p => ∀ s n, M.RT p s n → D.rt s n) (fun e => ∀ n', M.XT n' → ex e n')
    refine ⟨fun m n' => ∃ s x, n' = setS n0 (u s) ∧ whileN c b m s = some x ∧ G x, ⟨k1, s0, r1, h0.symm, e1, z⟩, ?_⟩
    rintro m n' ⟨s, x, rfl, e2, g⟩
    refine hc s ex _ ?_
    cases m with
    | zero => cases e2
    | succ m =>
      unfold whileN at e2
      cases hcs : c s with
      | ok v =>
        rw [hcs] at e2
        cases v with
        | true =>
          dsimp only at e2
          refine ⟨fun n'' => ∃ m', m' < m + 1 ∧ ∃ s x, n'' = setS n0 (u s) ∧ whileN c b m' s = some x ∧ G x, fun _ z => z, hb s ex _ ?_⟩
          show SR.sat (b s) _ _ _ _ _
          cases hbs : b s with
          | nx s' => rw [hbs] at e2; exact fun n'' hn => ⟨_, hn, m, Nat.lt_succ_self m, s', x, rfl, e2, g⟩
          | ct s' => rw [hbs] at e2; exact fun n'' hn => ⟨_, hn, m, Nat.lt_succ_self m, s', x, rfl, e2, g⟩
          | bk s' => rw [hbs] at e2; cases e2; exact fun n'' hn => ⟨_, hn, k s' ex D g⟩
          | rt p => rw [hbs] at e2; cases e2; exact g
          | err e => rw [hbs] at e2; cases e2; exact g
          | bad => rw [hbs] at e2; cases e2; exact g
        | false => cases e2; exact k s ex D g
      | err e => rw [hcs] at e2; cases e2; exact g
      | bad => rw [hcs] at e2; cases e2; exact g
  · unfold whileS at z
    rw [dif_neg hx] at z
    exact z.elim
end
end L3

namespace L3
open PySem L2
def xt0 : En → Prop := fun _ => True
section
variable {ρ α β ι κ ω : Type} {XT : En → Prop} {te ta : DE} {tA : DA} {n n0 m m1 n1 : En} {f : R α} {φ : α → Vl} {φs : α → List Vl} {i j j1 j2 : Nat} {e : α → PyData}
instance {i : Int} : Decidable (RB i) := by unfold RB; exact inferInstance
def rangeI (lo hi : Int) : List Int := (List.range (hi - lo).toNat).map fun (i : Nat) => lo + (i : Int)
theorem rangeI_len {lo hi : Int} : (rangeI lo hi).length = (hi - lo).toNat := by simp [rangeI]
theorem rangeI_get {lo hi : Int} {i : Nat} {x : Int} (h : (rangeI lo hi)[i]? = some x) : x = lo + i ∧ lo ≤ x ∧ x < hi := by
  unfold rangeI at h
  rw [List.getElem?_map] at h
  cases hr : (List.range (hi - lo).toNat)[i]? with
  | none => rw [hr] at h; cases h
  | some k =>
    rw [hr] at h
    obtain ⟨hl, hv⟩ := List.getElem?_eq_some_iff.mp hr
    rw [List.getElem_range] at hv
    rw [List.length_range] at hl
    cases h
    subst hv
    refine ⟨rfl, ?_, ?_⟩ <;> dsimp only <;> omega
theorem mem_rangeI {lo hi x : Int} : x ∈ rangeI lo hi ↔ lo ≤ x ∧ x < hi := by
  unfold rangeI
  rw [List.mem_map]
  constructor
  · rintro ⟨i, hi', rfl⟩
    rw [List.mem_range] at hi'
    omega
  · intro h
    exact ⟨(x - lo).toNat, by rw [List.mem_range]; omega, by omega⟩
noncomputable def rngR (lo hi : Int) : R (List Int) := chk (RB lo ∧ RB hi) (rangeI lo hi)
def putI (j : Nat) (x : Int) (m : En) : En := m.set j (some (.sh (.int x)))
theorem ti_go {rng : En → List Vl → Option (Int × Int)} {lo hi : α → Int} (ha : TyA XT tA n f φs n0) (hd : ∀ a, rng n0 (φs a) = some (lo a, hi a)) : TyI XT (iRng rng tA j) n (f.bind fun a => rngR (lo a) (hi a)) (putI j) n0 := fun ex Q q =>
  ha ex _ ((R.sat_bind q).imp (fun a z => (by
    have z := chk_sat z
    refine ⟨lo a, hi a, hd a, z.1.1, z.1.2, ?_⟩
    have := z.2 (fun i n => n.set j (some (.sh (.int (lo a + i))))) (fun i x hx m => by rw [(rangeI_get hx).1]; rfl)
    rw [rangeI_len] at this
    exact this)) fun _ z => z)
theorem ti_rng1 {hi : α → Int} (ha : TyA XT tA n f φs n0) (hd : ∀ a, rng1 n0 (φs a) = some (0, hi a)) : TyI XT (iRng rng1 tA j) n (f.bind fun a => rngR 0 (hi a)) (putI j) n0 := ti_go (lo := fun _ => 0) ha hd
theorem ti_rng2 {lo hi : α → Int} (ha : TyA XT tA n f φs n0) (hd : ∀ a, rng2 n0 (φs a) = some (lo a, hi a)) : TyI XT (iRng rng2 tA j) n (f.bind fun a => rngR (lo a) (hi a)) (putI j) n0 := ti_go ha hd
theorem getD_map' {e : β → PyData} {xs : List β} {i : Nat} {x : β} (h : xs[i]? = some x) : (xs.map e).getD i .none = e x := by
  rw [List.getD_eq_getElem?_getD, List.getElem?_map, h]; rfl
/-- a list's items -/
def putH (e : β → PyData) (j : Nat) (x : β) (m : En) : En := m.set j (some (.sh (e x)))
def putB (e : β → PyData) (j : Nat) (x : β) (m : En) : En := m.set j (some (.bor (e x)))
theorem ti_lst (e : β → PyData) (xs : α → List β) (ha : TyE XT te n f φ n0) (hd : ∀ a, walkL n0 (φ a) = some ((xs a).map e, Sl.sh, n1)) : TyI XT (iLst te j) n (f.bind fun a => .ok (xs a)) (putH e j) n1 := fun ex Q q =>
  ha ex _ ((R.sat_bind q).imp (fun a z => ⟨_, _, _, hd a, by
    have := z (fun i n => n.set j (some (.sh (((xs a).map e).getD i .none)))) (fun i x hx m => by rw [getD_map' hx]; rfl)
    rw [List.length_map]; exact this⟩) fun _ z => z)
theorem ti_lstb (e : β → PyData) (xs : α → List β) (ha : TyE XT te n f φ n0) (hd : ∀ a, walkL n0 (φ a) = some ((xs a).map e, chS (.bor .none), n1)) : TyI XT (iLst te j) n (f.bind fun a => .ok (xs a)) (putB e j) n1 := fun ex Q q =>
  ha ex _ ((R.sat_bind q).imp (fun a z => ⟨_, _, _, hd a, by
    have := z (fun i n => n.set j (some (chS (.bor .none) (((xs a).map e).getD i .none)))) (fun i x hx m => by rw [getD_map' hx]; rfl)
    rw [List.length_map]; exact this⟩) fun _ z => z)
theorem ti_str {x : α → Str} (ha : TyE XT te n f φ n0) (hd : ∀ a, dat n0 (φ a) = some (.str (x a))) : TyI XT (iSt te j) n (f.bind fun a => .ok (chs (x a))) (putH PyData.str j) n0 := fun ex Q q =>
  ha ex _ ((R.sat_bind q).imp (fun a z => ⟨_, hd a, by
    exact z (fun i n => n.set j (some (.sh (.str ((chs (x a)).getD i ⟨#[]⟩))))) (fun i c hx m => by rw [List.getD_eq_getElem?_getD, hx]; rfl)⟩) fun _ z => z)
def enumI (xs : List β) : List (Int × β) := (List.range xs.length).zipWith (fun (i : Nat) x => ((i : Int), x)) xs
theorem enumI_len {xs : List β} : (enumI xs).length = xs.length := by simp [enumI]
theorem enumI_get {xs : List β} {i : Nat} {p : Int × β} (h : (enumI xs)[i]? = some p) : p.1 = i ∧ xs[i]? = some p.2 := by
  unfold enumI at h
  rw [List.getElem?_zipWith] at h
  cases hx : xs[i]? with
  | none =>
    rw [hx] at h
    cases hr : (List.range xs.length)[i]? <;> rw [hr] at h <;> cases h
  | some x =>
    have hl := (List.getElem?_eq_some_iff.mp hx).1
    rw [hx, List.getElem?_range hl] at h
    cases h
    exact ⟨rfl, rfl⟩
def put2 (f : Int → Sl) (g : β → Sl) (j1 j2 : Nat) (p : Int × β) (m : En) : En := (m.set j1 (some (f p.1))).set j2 (some (g p.2))
theorem ti_enum {fs : PyData → Sl} (e : β → PyData) (xs : α → List β) {v : α → Vl} (ha : TyA XT tA n f φs n0) (hv : ∀ a, φs a = [v a]) (hd : ∀ a, walkL n0 (v a) = some ((xs a).map e, fs, n1)) : TyI XT (iEnm tA j1 j2) n (f.bind fun a => .ok (enumI (xs a))) (fun p m => (m.set j1 (some (.sh (.int p.1)))).set j2 (some (fs (e p.2)))) n1 := fun ex Q q =>
  ha ex _ ((R.sat_bind q).imp (fun a z => ⟨_, _, _, _, hv a, hd a, by
    have := z (fun i n => (n.set j1 (some (.sh (.int i)))).set j2 (some (fs (((xs a).map e).getD i .none)))) (fun i p hx m => by
      obtain ⟨h1, h2⟩ := enumI_get hx
      dsimp only
      rw [getD_map' h2, h1])
    rw [enumI_len] at this
    rw [List.length_map]; exact this⟩) fun _ z => z)
theorem ti_zip {γ : Type} {fs gs : PyData → Sl} {n2 : En} (e : β → PyData) (e' : γ → PyData) (xs : α → List β) (ys : α → List γ) {v w : α → Vl} (ha : TyA XT tA n f φs n0) (hv : ∀ a, φs a = [v a, w a]) (hd : ∀ a, walkL n0 (v a) = some ((xs a).map e, fs, n1)) (hd2 : ∀ a, walkL n1 (w a) = some ((ys a).map e', gs, n2)) :
    TyI XT (iZp tA j1 j2) n (f.bind fun a => .ok ((xs a).zip (ys a))) (fun p m => (m.set j1 (some (fs (e p.1)))).set j2 (some (gs (e' p.2)))) n2 := fun ex Q q =>
  ha ex _ ((R.sat_bind q).imp (fun a z => ⟨_, _, _, _, _, _, _, _, hv a, hd a, hd2 a, by
    have := z (fun i n => (n.set j1 (some (fs (((xs a).map e).getD i .none)))).set j2 (some (gs (((ys a).map e').getD i .none)))) (fun i p hx m => by
      have hz := List.getElem?_zip_eq_some.mp hx
      rw [getD_map' hz.1, getD_map' hz.2])
    rw [List.length_zip] at this
    rw [List.length_map, List.length_map]; exact this⟩) fun _ z => z)
theorem iteT2 {a b : Prop} (h : a) : (if true = true then a else b) := h
theorem iteF2 {a b : Prop} (h : b) : (if false = true then a else b) := h
def lcR (c : ι → R Bool) (g : ι → R β) : List ι → R (List β)
  | [] => .ok []
  | x :: xs => match c x with
    | .ok true => (match g x with
      | .ok y => (lcR c g xs).bind fun ys => .ok (y :: ys)
      | _ => .bad)
    | .ok false => lcR c g xs
    | _ => .bad
theorem lcR_pure (c : ι → Bool) (g : ι → β) : ∀ xs : List ι, lcR (fun x => .ok (c x)) (fun x => .ok (g x)) xs = .ok ((xs.filter c).map g)
  | [] => rfl
  | x :: xs => by
    unfold lcR
    dsimp only
    cases h : c x with
    | true => rw [List.filter_cons_of_pos h, lcR_pure c g xs]; rfl
    | false => rw [List.filter_cons_of_neg (by rw [h]; simp), lcR_pure c g xs]
theorem ty_lc {vs js : List Nat} {ti : DI} {tt : DT} {fi : R (List ι)} {asg : ι → En → En} {mc me ms : ι → En} {c : ι → R Bool} {g : ι → R β} {ψ : β → Vl} (e : β → PyData) (m0 : En) (hi : TyI XT ti n fi asg n1) (hm : wipeE n1 vs = m0) (hj : (js.all fun j => Nat.blt j n1.length) = true)
    (hc : ∀ x, TyT xt0 tt (asg x m0) (c x) (mc x)) (he : ∀ x, TyE xt0 te (mc x) (g x) ψ (me x)) (hs : ∀ x y, share (ψ y) (me x) = some (e y, ms x)) (hw : ∀ x, wipeE (ms x) vs = m0) (hw2 : ∀ x, wipeE (mc x) vs = m0) :
    TyE XT (dLc vs js ti tt te) n (fi.bind fun xs => (chk (xs.length ≤ sizeLine) xs).bind fun xs => lcR c g xs) (vW e) m0 := fun ex Q q => by
  refine hi ex _ ((R.sat_bind q).imp (fun xs q st hst => ?_) fun _ z => z)
  obtain ⟨hl, q⟩ := chk_sat (R.sat_bind q)
  refine ⟨⟨hl, fun j hjm => by have := List.all_eq_true.mp hj j hjm; rwa [Nat.blt_eq] at this⟩, ?_⟩
  rw [hm]
  let G : R (List β) → Prop := fun r => r.sat (fun a => Q (vW e a) m0) fun e => ∀ n', XT n' → ex e n'
  refine ⟨fun i acc k => k = m0 ∧ ∃ ys : List β, acc = ys.map e ∧ G ((lcR c g (xs.drop i)).bind fun zs => .ok (ys ++ zs)), ⟨rfl, [], rfl, by
      show G _
      have : (lcR c g (xs.drop 0)).bind (fun zs => R.ok ([] ++ zs)) = lcR c g xs := by
        rw [List.drop_zero]; cases lcR c g xs <;> rfl
      rw [this]; exact q⟩, fun i acc k hlt ⟨e1, ys, e2, g1⟩ => ?_, fun acc k ⟨e1, ys, e2, g1⟩ => ?_⟩
  · subst e1 e2
    have hx : xs[i]? = some xs[i] := List.getElem?_eq_getElem hlt
    rw [hst i _ hx]
    rw [List.drop_eq_getElem_cons hlt] at g1
    unfold lcR at g1
    refine hc xs[i] exF _ ?_
    cases hcx : c xs[i] with
    | ok b =>
      rw [hcx] at g1
      cases b with
      | true =>
        dsimp only at g1
        show te exF (mc xs[i]) (fun v n3 => ∃ d n4, share v n3 = some (d, n4) ∧ (wipeE n4 vs = k ∧ ∃ ys' : List β, ys.map e ++ [d] = ys'.map e ∧ G ((lcR c g (xs.drop (i + 1))).bind fun zs => .ok (ys' ++ zs))))
        refine he xs[i] exF _ ?_
        cases hgx : g xs[i] with
        | ok y =>
          rw [hgx] at g1
          refine ⟨_, _, hs xs[i] y, hw xs[i], ys ++ [y], by simp, ?_⟩
          dsimp only at g1
          show G _
          have : ∀ r : R (List β), ((r.bind fun ys => R.ok (y :: ys)).bind fun zs => R.ok (ys ++ zs)) = r.bind fun zs => R.ok (ys ++ [y] ++ zs) := fun r => by cases r <;> simp
          rw [← this]; exact g1
        | err z => rw [hgx] at g1; exact g1.elim
        | bad => rw [hgx] at g1; exact g1.elim
      | false =>
        show wipeE (mc xs[i]) vs = k ∧ ∃ ys' : List β, ys.map e = ys'.map e ∧ G ((lcR c g (xs.drop (i + 1))).bind fun zs => .ok (ys' ++ zs))
        exact ⟨hw2 xs[i], ys, rfl, g1⟩
    | err z => rw [hcx] at g1; exact g1.elim
    | bad => rw [hcx] at g1; exact g1.elim
  · subst e1 e2
    rw [List.drop_length] at g1
    have g2 : Q (vW e (ys ++ [])) k := by exact g1
    rw [List.append_nil] at g2
    exact g2
theorem ty_lcP {vs js : List Nat} {ti : DI} {tt : DT} {fi : R (List ι)} {asg : ι → En → En} {mc me ms : ι → En} {c : ι → Bool} {g : ι → β} {ψ : β → Vl} (e : β → PyData) (m0 : En) (hi : TyI XT ti n fi asg n1) (hm : wipeE n1 vs = m0) (hj : (js.all fun j => Nat.blt j n1.length) = true)
    (hc : ∀ x, TyT xt0 tt (asg x m0) (.ok (c x)) (mc x)) (he : ∀ x, TyE xt0 te (mc x) (.ok (g x)) ψ (me x)) (hs : ∀ x y, share (ψ y) (me x) = some (e y, ms x)) (hw : ∀ x, wipeE (ms x) vs = m0) (hw2 : ∀ x, wipeE (mc x) vs = m0) :
    TyE XT (dLc vs js ti tt te) n (fi.bind fun xs => chk (xs.length ≤ sizeLine) ((xs.filter c).map g)) (vW e) m0 := fun ex Q q =>
  ty_lc (c := fun x => .ok (c x)) (g := fun x => .ok (g x)) e m0 hi hm hj hc he hs hw hw2 ex Q (by
    cases fi with
    | ok xs =>
      obtain ⟨h1, h2⟩ := chk_sat q
      show R.sat ((chk (xs.length ≤ sizeLine) xs).bind fun xs => lcR _ _ xs) _ _
      rw [chk_ok h1, R.bind_ok, lcR_pure]; exact h2
    | err z => exact q
    | bad => exact q)
theorem ty_yes : TyT XT dYes n (.ok true) n := fun ex Q q => q
theorem ty_lcM {vs js : List Nat} {ti : DI} {fi : R (List ι)} {asg : ι → En → En} {me ms : ι → En} {g : ι → β} {ψ : β → Vl} (e : β → PyData) (m0 : En) (hi : TyI XT ti n fi asg n1) (hm : wipeE n1 vs = m0) (hj : (js.all fun j => Nat.blt j n1.length) = true)
    (he : ∀ x, TyE xt0 te (asg x m0) (.ok (g x)) ψ (me x)) (hs : ∀ x y, share (ψ y) (me x) = some (e y, ms x)) (hw : ∀ x, wipeE (ms x) vs = m0) (hw2 : ∀ x, wipeE (asg x m0) vs = m0) :
    TyE XT (dLc vs js ti dYes te) n (fi.bind fun xs => chk (xs.length ≤ sizeLine) (xs.map g)) (vW e) m0 := fun ex Q q =>
  ty_lcP (c := fun _ => true) e m0 hi hm hj (fun x => ty_yes) he hs hw hw2 ex Q (by
    cases fi with
    | ok xs =>
      show R.sat (chk (xs.length ≤ sizeLine) _) _ _
      rw [List.filter_eq_self.mpr (fun _ _ => rfl)]; exact q
    | err z => exact q
    | bad => exact q)
theorem ty_lcMR {vs js : List Nat} {ti : DI} {fi : R (List ι)} {asg : ι → En → En} {me ms : ι → En} {g : ι → R β} {ψ : β → Vl} (e : β → PyData) (m0 : En) (hi : TyI XT ti n fi asg n1) (hm : wipeE n1 vs = m0) (hj : (js.all fun j => Nat.blt j n1.length) = true)
    (he : ∀ x, TyE xt0 te (asg x m0) (g x) ψ (me x)) (hs : ∀ x y, share (ψ y) (me x) = some (e y, ms x)) (hw : ∀ x, wipeE (ms x) vs = m0) (hw2 : ∀ x, wipeE (asg x m0) vs = m0) :
    TyE XT (dLc vs js ti dYes te) n (fi.bind fun xs => (chk (xs.length ≤ sizeLine) xs).bind fun xs => lcR (fun _ => .ok true) g xs) (vW e) m0 :=
  ty_lc (c := fun _ => .ok true) e m0 hi hm hj (fun x => ty_yes) he hs hw hw2
def spT {A : Type} (enc : A → List Sl) (eR : ρ → Sl) (g : A → R ρ) : DSp := fun ss Q E => ∃ a, ss = enc a ∧ (g a).sat (fun r => Q (eR r) []) (fun e => E e [])
theorem spT_mono {A : Type} {enc : A → List Sl} {eR : ρ → Sl} {g : A → R ρ} : MonoSp (spT enc eR g) := fun ss Q Q' E E' hq he ⟨a, h1, h2⟩ => ⟨a, h1, h2.imp (fun r z => hq _ _ z) fun e z => he _ _ z⟩
theorem spT_len {A : Type} {enc : A → List Sl} {eR : ρ → Sl} {g : A → R ρ} {k : Nat} (h : ∀ a, (enc a).length = k) : ∀ ss Q E, spT enc eR g ss Q E → ss.length = k := fun ss Q E ⟨a, h1, _⟩ => by rw [h1, h a]
def rt0 (eR : ρ → Sl) : ρ → Sl → En → Prop := fun p s _ => outSl s = some (eR p)
theorem pureT {A : Type} {enc : A → List Sl} {eR : ρ → Sl} {g : A → R ρ} {t : DS} {k : Nat} (h : ∀ a, TyB (mT (rt0 eR) xt0) t ((enc a).map some ++ List.replicate k none) (g a)) :
    ∀ ss Q E, spT enc eR g ss Q E → t (excK [] E) (ss.map some ++ List.replicate k none) ⟨fun n => retK [] Q (.sh .none) n, retK [] Q, fun _ => False, fun _ => False⟩ := by
  rintro ss Q E ⟨a, rfl, q⟩
  exact h a _ _ (q.imp (fun r z => ⟨fun s n hr => ⟨_, hr, rfl, z⟩, fun n hr => ⟨_, hr, rfl, z⟩⟩) fun e z n' _ => ⟨rfl, z⟩)
theorem ty_call {A : Type} {ms : List Md} {l : List (Option (Nat × Sl))} {enc : A → List Sl} {eR : ρ → Sl} {g : A → R ρ} {sp : DSp} (hsp : sp = spT enc eR g) (arg : α → A) (ha : TyA XT tA n f φs m) (hc : ∀ a, lendAll ms (φs a) m = some (l, m) ∧ conv ms (φs a) l m = some (enc (arg a), m1)) (hp : ∀ o, putBack l o m1 = m1) (hx : XT m1) :
    TyE XT (dCall ms [] sp tA) n (f.bind fun a => g (arg a)) (fun r => .tmp (eR r)) m1 := by
  subst hsp
  exact fun ex Q q => ha ex _ ((R.sat_bind q).imp (fun a z => ⟨l, m, _, _, (hc a).1, (hc a).2, arg a, by rw [List.map_nil, List.append_nil], z.imp (fun r z => by dsimp only; rw [hp]; exact z) fun e z => by dsimp only; rw [hp]; exact z _ hx⟩) fun _ z => z)
theorem ty_callN {A : Type} {ms : List Md} {l : List (Option (Nat × Sl))} {enc : A → List Sl} {eR : ρ → Sl} {g : A → R ρ} {sp : DSp} (hsp : sp = spT enc eR g) (arg : α → A) (ha : TyA XT tA n f φs m) (hc : ∀ a, lendAll ms (φs a) m = some (l, m) ∧ conv ms (φs a) l m = some (enc (arg a), m1)) (hp : ∀ o, putBack l o m1 = m1) :
    TyE XT (dCall ms [] sp tA) n (f.bind fun a => (g (arg a)).noE) (fun r => .tmp (eR r)) m1 := by
  subst hsp
  exact fun ex Q q => ha ex _ ((R.sat_bind q).imp (fun a z => ⟨l, m, _, _, (hc a).1, (hc a).2, arg a, by rw [List.map_nil, List.append_nil], R.sat_noE (R.sat.imp z (fun r z => by dsimp only; rw [hp]; exact z) fun e z => z)⟩) fun _ z => z)
end
end L3

namespace L3
open PySem L2
section
variable {ρ α β γ ι κ ω : Type}
def TyW (XT : En → Prop) (t : DE) (n m : En) (u : ω → List (Nat × Option Sl)) (w : ω) (f : R (α × ω)) (φ : α → Vl) : Prop := ∀ (ex : DX) (Q : DK), f.sat (fun p => Q (φ p.1) (setS m (u p.2))) (fun e => ∀ n', XT n' → ex e n') → t ex (setS n (u w)) Q
def TyTW (XT : En → Prop) (t : DT) (n m : En) (u : ω → List (Nat × Option Sl)) (w : ω) (f : R (Bool × ω)) : Prop := ∀ (ex : DX) (Q : Bool → En → Prop), f.sat (fun p => Q p.1 (setS m (u p.2))) (fun e => ∀ n', XT n' → ex e n') → t ex (setS n (u w)) Q
def TyAW (XT : En → Prop) (t : DA) (n m : En) (u : ω → List (Nat × Option Sl)) (w : ω) (f : R (α × ω)) (φ : α → List Vl) : Prop := ∀ (ex : DX) (Q : List Vl → En → Prop), f.sat (fun p => Q (φ p.1) (setS m (u p.2))) (fun e => ∀ n', XT n' → ex e n') → t ex (setS n (u w)) Q
end
section
variable {ρ α β γ ι κ ω : Type} {XT : En → Prop} {te ta tb : DE} {tA : DA} {n m m1 m2 : En} {u : ω → List (Nat × Option Sl)} {w : ω} {fa : R (α × ω)} {φa : α → Vl} {φb : β → Vl} {fb : ω → R (β × ω)}
theorem tw_of {f : R α} {φ : α → Vl} {m' : En} (h : TyE XT te (setS n (u w)) f φ m') (hm : m' = setS m (u w)) : TyW XT te n m u w (f.bind fun a => .ok (a, w)) φ := fun ex Q q =>
  h ex _ ((R.sat_bind q).imp (fun a z => by rw [hm]; exact z) fun _ z => z)
theorem tw_ofS {f : R α} {φ : α → Vl} (h : TyE XT te (setS n (u w)) f φ (setS n (u w))) : TyW XT te n n u w (f.bind fun a => .ok (a, w)) φ := tw_of h rfl
theorem tw_d2 {k : Vl → Vl → En → DK → Prop} {g : α → β → R γ} {ψ : γ → Vl} (ha : TyW XT ta n m1 u w fa φa) (hb : ∀ w1, TyW XT tb m1 m2 u w1 (fb w1) φb) (op : ∀ a b w2, OpE (k (φa a) (φb b)) (setS m2 (u w2)) (g a b) ψ (setS m (u w2))) :
    TyW XT (d2 ta tb k) n m u w (fa.bind fun p => (fb p.2).bind fun q => (g p.1 q.1).bind fun c => .ok (c, q.2)) ψ := fun ex Q h =>
  ha ex _ ((R.sat_bind h).imp (fun p h1 => hb p.2 ex _ ((R.sat_bind h1).imp (fun q h2 => op p.1 q.1 q.2 Q _ (R.sat_bind h2)) fun _ z => z)) fun _ z => z)
theorem tw_d1 {k : Vl → En → DK → Prop} {g : α → R γ} {ψ : γ → Vl} (ha : TyW XT ta n m1 u w fa φa) (op : ∀ a w2, OpE (k (φa a)) (setS m1 (u w2)) (g a) ψ (setS m (u w2))) :
    TyW XT (d1 ta k) n m u w (fa.bind fun p => (g p.1).bind fun c => .ok (c, p.2)) ψ := fun ex Q h =>
  ha ex _ ((R.sat_bind h).imp (fun p h1 => op p.1 p.2 Q _ (R.sat_bind h1)) fun _ z => z)
theorem tw_dN {k : List Vl → En → DK → Prop} {fs : R (α × ω)} {φs : α → List Vl} {g : α → R γ} {ψ : γ → Vl} (ha : TyAW XT tA n m1 u w fs φs) (op : ∀ a w2, OpE (k (φs a)) (setS m1 (u w2)) (g a) ψ (setS m (u w2))) :
    TyW XT (dN tA k) n m u w (fs.bind fun p => (g p.1).bind fun c => .ok (c, p.2)) ψ := fun ex Q h =>
  ha ex _ ((R.sat_bind h).imp (fun p h1 => op p.1 p.2 Q _ (R.sat_bind h1)) fun _ z => z)
theorem taw_nil : TyAW XT daNil n n u w (.ok ((), w)) (fun _ => []) := fun ex Q h => h
theorem taw_cons {tr : DA} {fr : ω → R (β × ω)} {φr : β → List Vl} (ha : TyW XT ta n m1 u w fa φa) (hr : ∀ w1, TyAW XT tr m1 m u w1 (fr w1) φr) : TyAW XT (daCons ta tr) n m u w (fa.bind fun p => (fr p.2).bind fun q => .ok ((p.1, q.1), q.2)) (fun p => φa p.1 :: φr p.2) := fun ex Q h =>
  ha ex _ ((R.sat_bind h).imp (fun p h1 => hr p.2 ex _ ((R.sat_bind h1).imp (fun q h2 => h2) fun _ z => z)) fun _ z => z)
theorem taw_of {fs : R α} {φs : α → List Vl} {m' : En} (h : TyA XT tA (setS n (u w)) fs φs m') (hm : m' = setS m (u w)) : TyAW XT tA n m u w (fs.bind fun a => .ok (a, w)) φs := fun ex Q q =>
  h ex _ ((R.sat_bind q).imp (fun a z => by rw [hm]; exact z) fun _ z => z)
theorem taw_ofS {fs : R α} {φs : α → List Vl} (h : TyA XT tA (setS n (u w)) fs φs (setS n (u w))) : TyAW XT tA n n u w (fs.bind fun a => .ok (a, w)) φs := taw_of h rfl
theorem ttw_of {t : DT} {f : R Bool} {m' : En} (h : TyT XT t (setS n (u w)) f m') (hm : m' = setS m (u w)) : TyTW XT t n m u w (f.bind fun a => .ok (a, w)) := fun ex Q q =>
  h ex _ ((R.sat_bind q).imp (fun a z => by rw [hm]; exact z) fun _ z => z)
theorem ttw_ofS {t : DT} {f : R Bool} (h : TyT XT t (setS n (u w)) f (setS n (u w))) : TyTW XT t n n u w (f.bind fun a => .ok (a, w)) := ttw_of h rfl
theorem ttw_tst {f : R (Bool × ω)} {φ : Bool → Vl} (h : TyW XT te n m u w f φ) (hd : ∀ a w1, dat (setS m (u w1)) (φ a) = some (.bool a)) : TyTW XT (tst te) n m u w f := fun ex Q q => h ex _ (q.imp (fun p z => ⟨p.1, hd p.1 p.2, z⟩) fun _ z => z)
theorem ttw_and {tc td : DT} {fc : R (Bool × ω)} {fd : ω → R (Bool × ω)} (hc : TyTW XT tc n m u w fc) (hd : ∀ w1, TyTW XT td m m u w1 (fd w1)) : TyTW XT (dAnd tc td) n m u w (fc.bind fun p => if p.1 = true then fd p.2 else .ok (false, p.2)) := fun ex Q q => hc ex _ ((R.sat_bind q).imp (fun p z => by
  obtain ⟨c, w1⟩ := p
  cases c with
  | true => exact hd w1 ex _ z
  | false => exact z) fun _ z => z)
theorem ttw_or {tc td : DT} {fc : R (Bool × ω)} {fd : ω → R (Bool × ω)} (hc : TyTW XT tc n m u w fc) (hd : ∀ w1, TyTW XT td m m u w1 (fd w1)) : TyTW XT (dOr tc td) n m u w (fc.bind fun p => if p.1 = true then .ok (true, p.2) else fd p.2) := fun ex Q q => hc ex _ ((R.sat_bind q).imp (fun p z => by
  obtain ⟨c, w1⟩ := p
  cases c with
  | true => exact z
  | false => exact hd w1 ex _ z) fun _ z => z)
theorem ttw_not {tc : DT} {fc : R (Bool × ω)} (hc : TyTW XT tc n m u w fc) : TyTW XT (dNot tc) n m u w (fc.bind fun p => .ok (!p.1, p.2)) := fun ex Q q => hc ex _ ((R.sat_bind q).imp (fun c z => z) fun _ z => z)
theorem tw_if {tc : DT} {fc : R (Bool × ω)} {f1 f2 : ω → R (α × ω)} (hc : TyTW XT tc n m1 u w fc) (h1 : ∀ w1, TyW XT ta m1 m u w1 (f1 w1) φa) (h2 : ∀ w1, TyW XT tb m1 m u w1 (f2 w1) φa) : TyW XT (dIf tc ta tb) n m u w (fc.bind fun p => if p.1 = true then f1 p.2 else f2 p.2) φa := fun ex Q q => hc ex _ ((R.sat_bind q).imp (fun p z => by
  obtain ⟨c, w1⟩ := p
  cases c with
  | true => exact h1 w1 ex _ z
  | false => exact h2 w1 ex _ z) fun _ z => z)
theorem tw_vand {f : R (Bool × ω)} {g : ω → R (Bool × ω)} {φ : Bool → Vl} (hc : TyW XT ta n m u w f φ) (hv : ∀ a w1, dat (setS m (u w1)) (φ a) = some (.bool a)) (hd : ∀ w1, TyW XT tb m m u w1 (g w1) vB) : TyW XT (vAnd ta tb) n m u w (f.bind fun p => if p.1 = true then g p.2 else .ok (false, p.2)) vB := fun ex Q q => hc ex _ ((R.sat_bind q).imp (fun p z => ⟨p.1, hv p.1 p.2, by
  obtain ⟨c, w1⟩ := p
  cases c with
  | true => exact hd w1 ex _ z
  | false => exact z⟩) fun _ z => z)
theorem tw_vor {f : R (Bool × ω)} {g : ω → R (Bool × ω)} {φ : Bool → Vl} (hc : TyW XT ta n m u w f φ) (hv : ∀ a w1, dat (setS m (u w1)) (φ a) = some (.bool a)) (hd : ∀ w1, TyW XT tb m m u w1 (g w1) vB) : TyW XT (vOr ta tb) n m u w (f.bind fun p => if p.1 = true then .ok (true, p.2) else g p.2) vB := fun ex Q q => hc ex _ ((R.sat_bind q).imp (fun p z => ⟨p.1, hv p.1 p.2, by
  obtain ⟨c, w1⟩ := p
  cases c with
  | true => exact z
  | false => exact hd w1 ex _ z⟩) fun _ z => z)
theorem tw_vnot {f : R (Bool × ω)} {φ : Bool → Vl} (hc : TyW XT ta n m u w f φ) (hv : ∀ a w1, dat (setS m (u w1)) (φ a) = some (.bool a)) : TyW XT (vNot ta) n m u w (f.bind fun p => .ok (!p.1, p.2)) vB := fun ex Q q => hc ex _ ((R.sat_bind q).imp (fun p z => ⟨p.1, hv p.1 p.2, z⟩) fun _ z => z)
theorem tw_chain {p p' : Int → Int → Bool} {tc : DE} {f1 : R (Int × ω)} {f2 f3 : ω → R (Int × ω)} {φ1 φ2 φ3 : Int → Vl} (h1 : TyW XT ta n m u w f1 φ1) (h2 : ∀ w1, TyW XT tb m m u w1 (f2 w1) φ2) (h3 : ∀ w1, TyW XT tc m m u w1 (f3 w1) φ3) (d1 : ∀ a w1, dat (setS m (u w1)) (φ1 a) = some (.int a)) (d2 : ∀ a w1, dat (setS m (u w1)) (φ2 a) = some (.int a)) (d3 : ∀ a w1, dat (setS m (u w1)) (φ3 a) = some (.int a)) :
    TyW XT (dChain p p' ta tb tc) n m u w (f1.bind fun i => (f2 i.2).bind fun j => if p i.1 j.1 = true then (f3 j.2).bind fun l => .ok (p' j.1 l.1, l.2) else .ok (false, j.2)) vB := fun ex Q q =>
  h1 ex _ ((R.sat_bind q).imp (fun i z => h2 i.2 ex _ ((R.sat_bind z).imp (fun j z => ⟨i.1, j.1, d1 i.1 j.2, d2 j.1 j.2, by
    by_cases hp : p i.1 j.1 = true
    · rw [if_pos hp] at z ⊢
      exact h3 j.2 ex _ ((R.sat_bind z).imp (fun l z => ⟨l.1, d3 l.1 l.2, z⟩) fun _ z => z)
    · rw [if_neg hp] at z ⊢; exact z⟩) fun _ z => z)) fun _ z => z)
theorem tw_mp {f : R (α × ω)} {φ : α → Vl} {ψ : β → Vl} (h : TyW XT te n m u w f φ) (g : α → β) (e : ∀ a, φ a = ψ (g a)) : TyW XT te n m u w (f.bind fun p => .ok (g p.1, p.2)) ψ := fun ex Q q => h ex _ ((R.sat_bind q).imp (fun a z => (by rw [e a.1]; exact z)) fun _ z => z)
noncomputable def appR (xs : List β) (y : β) : R (List β) := chk (xs.length < sizeLine) (xs ++ [y])
def popR (xs : List β) : R (β × List β) := match xs[xs.length - 1]? with
  | some y => .ok (y, xs.dropLast)
  | none => .bad
noncomputable def popAtR (xs : List β) (i : Int) : R (β × List β) := match ixN xs.length i with
  | some k => (match xs[k]? with
    | some y => if xs.length ≤ sizeLine then .ok (y, xs.eraseIdx k) else .bad
    | none => .bad)
  | none => .bad
noncomputable def extR (xs ys : List β) : R (List β) := chk (xs.length + ys.length ≤ sizeLine) (xs ++ ys)
abbrev uL (e : β → PyData) (j : Nat) (w : List β) : List (Nat × Option Sl) := [(j, some (.own (w.map e)))]
theorem tw_app {j : Nat} {e : β → PyData} {xs : List β} {f : R α} {φ : α → Vl} {m1 : En} (y : α → β) (h0 : (setS n (uL e j xs))[j]? = some (some (.own (xs.map e)))) (ha : TyE XT ta (setS n (uL e j xs)) f φ m1) (hs : ∀ a, share (φ a) m1 = some (e (y a), m2)) (hj : m2[j]? = some (some (.own (xs.map e)))) :
    TyW XT (dMut j (daCons ta daNil) (kApp j)) n m2 (uL e j) xs (f.bind fun a => (appR xs (y a)).bind fun xs' => .ok ((), xs')) vN := fun ex Q q =>
  ⟨⟨_, h0⟩, ha ex _ ((R.sat_bind q).imp (fun a z => (by
    obtain ⟨hl, z⟩ := chk_sat (R.sat_bind z)
    refine ⟨_, _, _, hs a, hj, by rw [List.length_map]; exact hl, ?_⟩
    have z : Q (vN ()) (m2.set j (some (.own ((xs ++ [y a]).map e)))) := z
    rw [List.map_append] at z
    exact z)) fun _ z => z)⟩
theorem tw_pop {j : Nat} {e : β → PyData} {xs : List β} (h0 : n[j]? ≠ none) : TyW XT (dMut j daNil (kPop j)) n n (uL e j) xs (popR xs) (vH e) := fun ex Q q => by
  have hl : j < n.length := by
    rcases Nat.lt_or_ge j n.length with h | h
    · exact h
    · exact absurd (List.getElem?_eq_none h) h0
  have h1 : (setS n (uL e j xs))[j]? = some (some (.own (xs.map e))) := by
    show (n.set j _)[j]? = _
    rw [List.getElem?_set_self hl]
  refine ⟨⟨_, h1⟩, ?_⟩
  unfold popR at q
  cases hx : xs[xs.length - 1]? with
  | none => rw [hx] at q; exact q.elim
  | some y =>
    rw [hx] at q
    refine ⟨xs.map e, e y, h1, by rw [List.length_map, List.getElem?_map, hx]; rfl, ?_⟩
    have q : Q (vH e y) (n.set j (some (.own (xs.dropLast.map e)))) := q
    show Q _ ((n.set j _).set j _)
    rw [List.set_set, ← List.map_dropLast]; exact q
theorem tw_popAt {j : Nat} {e : β → PyData} {xs : List β} {f : R Int} {φ : Int → Vl} (h0 : (setS n (uL e j xs))[j]? = some (some (.own (xs.map e)))) (ha : TyE XT ta (setS n (uL e j xs)) f φ (setS n (uL e j xs))) (hd : ∀ i, dat (setS n (uL e j xs)) (φ i) = some (.int i)) :
    TyW XT (dMut j (daCons ta daNil) (kPopAt j)) n n (uL e j) xs (f.bind fun i => popAtR xs i) (vH e) := fun ex Q q =>
  ⟨⟨_, h0⟩, ha ex _ ((R.sat_bind q).imp (fun i z => (by
    unfold popAtR at z
    cases hi : ixN xs.length i with
    | none => rw [hi] at z; exact z.elim
    | some k =>
      rw [hi] at z
      dsimp only at z
      cases hx : xs[k]? with
      | none => rw [hx] at z; exact z.elim
      | some y =>
        rw [hx] at z
        dsimp only at z
        by_cases hl : xs.length ≤ sizeLine
        · rw [if_pos hl] at z
          refine ⟨xs.map e, e y, i, k, h0, hd i, by rw [List.length_map]; exact hi, by rw [List.getElem?_map, hx]; rfl, by rw [List.length_map]; exact hl, ?_⟩
          have z : Q (vH e y) (n.set j (some (.own ((xs.eraseIdx k).map e)))) := z
          show Q _ ((n.set j _).set j _)
          have em : (xs.map e).eraseIdx k = (xs.eraseIdx k).map e := by
            simp [List.eraseIdx_eq_take_drop_succ, List.map_take, List.map_drop]
          rw [List.set_set, em]; exact z
        · rw [if_neg hl] at z; exact z.elim)) fun _ z => z)⟩
theorem tw_ext {j : Nat} {e : β → PyData} {xs : List β} {f : R α} {φ : α → Vl} (ys : α → List β) (h0 : (setS n (uL e j xs))[j]? = some (some (.own (xs.map e)))) (ha : TyE XT ta (setS n (uL e j xs)) f φ (setS n (uL e j xs))) (hd : ∀ a, dat (setS n (uL e j xs)) (φ a) = some (.list ((ys a).map e))) (hp : ∀ a, perm (setS n (uL e j xs)) (φ a) = true) :
    TyW XT (dMut j (daCons ta daNil) (kExt j)) n n (uL e j) xs (f.bind fun a => (extR xs (ys a)).bind fun xs' => .ok ((), xs')) vN := fun ex Q q =>
  ⟨⟨_, h0⟩, ha ex _ ((R.sat_bind q).imp (fun a z => (by
    obtain ⟨hl, z⟩ := chk_sat (R.sat_bind z)
    refine ⟨_, _, h0, hd a, hp a, by rw [List.length_map, List.length_map]; exact hl, ?_⟩
    have z : Q (vN ()) (n.set j (some (.own ((xs ++ ys a).map e)))) := z
    show Q _ ((n.set j _).set j _)
    rw [List.set_set, ← List.map_append]; exact z)) fun _ z => z)⟩
theorem tw_rev {j : Nat} {e : β → PyData} {xs : List β} (h0 : (setS n (uL e j xs))[j]? = some (some (.own (xs.map e)))) : TyW XT (dMut j daNil (kRev j)) n n (uL e j) xs (.ok ((), xs.reverse)) vN := fun ex Q q => by
  refine ⟨⟨_, h0⟩, _, h0, ?_⟩
  have q : Q (vN ()) (n.set j (some (.own (xs.reverse.map e)))) := q
  show Q _ ((n.set j _).set j _)
  rw [List.set_set, ← List.map_reverse]; exact q
theorem tw_clr {j : Nat} {e : β → PyData} {xs : List β} (h0 : (setS n (uL e j xs))[j]? = some (some (.own (xs.map e)))) : TyW XT (dMut j daNil (kClr j)) n n (uL e j) xs (.ok ((), [])) vN := fun ex Q q => by
  refine ⟨⟨_, h0⟩, _, h0, ?_⟩
  have q : Q (vN ()) (n.set j (some (.own []))) := q
  show Q _ ((n.set j _).set j _)
  rw [List.set_set]; exact q
def spW {A : Type} (enc : A → List Sl) (eR : ρ → Sl) (eO : ω → List (Option Sl)) (o0 : A → List (Option Sl)) (g : A → R (ρ × ω)) : DSp := fun ss Q E => ∃ a, ss = enc a ∧ (g a).sat (fun r => Q (eR r.1) (eO r.2)) (fun e => E e (o0 a))
theorem spW_mono {A : Type} {enc : A → List Sl} {eR : ρ → Sl} {eO : ω → List (Option Sl)} {o0 : A → List (Option Sl)} {g : A → R (ρ × ω)} : MonoSp (spW enc eR eO o0 g) := fun ss Q Q' E E' hq he ⟨a, h1, h2⟩ => ⟨a, h1, h2.imp (fun r z => hq _ _ z) fun e z => he _ _ z⟩
theorem spW_len {A : Type} {enc : A → List Sl} {eR : ρ → Sl} {eO : ω → List (Option Sl)} {o0 : A → List (Option Sl)} {g : A → R (ρ × ω)} {k : Nat} (h : ∀ a, (enc a).length = k) : ∀ ss Q E, spW enc eR eO o0 g ss Q E → ss.length = k := fun ss Q E ⟨a, h1, _⟩ => by rw [h1, h a]
def rtW (io : List Nat) (eR : ρ → Sl) (eO : ω → List (Option Sl)) : ρ × ω → Sl → En → Prop := fun p s n => outSl s = some (eR p.1) ∧ outsOf io n = eO p.2
def xtW (io : List Nat) (o : List (Option Sl)) : En → Prop := fun n => outsOf io n = o
theorem pureW {A : Type} {enc : A → List Sl} {eR : ρ → Sl} {eO : ω → List (Option Sl)} {o0 : A → List (Option Sl)} {g : A → R (ρ × ω)} {t : DS} {k : Nat} {io : List Nat} (ho : ∀ w, (eO w).all outOk = true) (ho0 : ∀ a, (o0 a).all outOk = true) (h : ∀ a, TyB (mT (rtW io eR eO) (xtW io (o0 a))) t ((enc a).map some ++ List.replicate k none) (g a)) :
    ∀ ss Q E, spW enc eR eO o0 g ss Q E → t (excK io E) (ss.map some ++ List.replicate k none) ⟨fun n => retK io Q (.sh .none) n, retK io Q, fun _ => False, fun _ => False⟩ := by
  rintro ss Q E ⟨a, rfl, q⟩
  have go : ∀ (r : ρ × ω) s n, rtW io eR eO r s n → Q (eR r.1) (eO r.2) → retK io Q s n := fun r s n hr z => ⟨_, hr.1, by rw [hr.2]; exact ho _, by rw [hr.2]; exact z⟩
  exact h a _ _ (q.imp (fun r z => ⟨fun s n hr => go r s n hr z, fun n hr => go r _ n hr z⟩) fun e z n' hn => ⟨by rw [show outsOf io n' = o0 a from hn]; exact ho0 a, by rw [show outsOf io n' = o0 a from hn]; exact z⟩)
theorem tw_callW {A ω' : Type} {ms : List Md} {fs : R (α × ω)} {φs : α → List Vl} {l : α → ω → List (Option (Nat × Sl))} {n1 n2 : α → ω → En} {enc : A → List Sl} {eR : ρ → Sl} {eO : ω' → List (Option Sl)} {o0 : A → List (Option Sl)} {g : A → R (ρ × ω')} {sp : DSp} (hsp : sp = spW enc eR eO o0 g) (arg : α → ω → A) (back : ω → ω' → ω) (ha : TyAW XT tA n m1 u w fs φs)
    (hc : ∀ a w1, lendAll ms (φs a) (setS m1 (u w1)) = some (l a w1, n1 a w1) ∧ conv ms (φs a) (l a w1) (n1 a w1) = some (enc (arg a w1), n2 a w1)) (hp : ∀ a w1 o, putBack (l a w1) (eO o) (n2 a w1) = setS m1 (u (back w1 o))) (hx : ∀ a w1, XT (putBack (l a w1) (o0 (arg a w1)) (n2 a w1))) :
    TyW XT (dCall ms [] sp tA) n m1 u w (fs.bind fun p => (g (arg p.1 p.2)).bind fun q => .ok (q.1, back p.2 q.2)) (fun r => .tmp (eR r)) := by
  subst hsp
  exact fun ex Q q => ha ex _ ((R.sat_bind q).imp (fun p z => ⟨_, _, _, _, (hc p.1 p.2).1, (hc p.1 p.2).2, arg p.1 p.2, by rw [List.map_nil, List.append_nil], (R.sat_bind z).imp (fun r z => by dsimp only; rw [hp]; exact z) fun e z => z _ (hx _ _)⟩) fun _ z => z)
theorem tw_callWN {A ω' : Type} {ms : List Md} {fs : R (α × ω)} {φs : α → List Vl} {l : α → ω → List (Option (Nat × Sl))} {n1 n2 : α → ω → En} {enc : A → List Sl} {eR : ρ → Sl} {eO : ω' → List (Option Sl)} {o0 : A → List (Option Sl)} {g : A → R (ρ × ω')} {sp : DSp} (hsp : sp = spW enc eR eO o0 g) (arg : α → ω → A) (back : ω → ω' → ω) (ha : TyAW XT tA n m1 u w fs φs)
    (hc : ∀ a w1, lendAll ms (φs a) (setS m1 (u w1)) = some (l a w1, n1 a w1) ∧ conv ms (φs a) (l a w1) (n1 a w1) = some (enc (arg a w1), n2 a w1)) (hp : ∀ a w1 o, putBack (l a w1) (eO o) (n2 a w1) = setS m1 (u (back w1 o))) :
    TyW XT (dCall ms [] sp tA) n m1 u w (fs.bind fun p => (g (arg p.1 p.2)).noE.bind fun q => .ok (q.1, back p.2 q.2)) (fun r => .tmp (eR r)) := by
  subst hsp
  exact fun ex Q q => ha ex _ ((R.sat_bind q).imp (fun p z => ⟨_, _, _, _, (hc p.1 p.2).1, (hc p.1 p.2).2, arg p.1 p.2, by rw [List.map_nil, List.append_nil], R.sat_noE (R.sat.imp (R.sat_bind z) (fun r z => by dsimp only; rw [hp]; exact z) fun e z => z)⟩) fun _ z => z)
/-- a call that changes nothing, among others -/
theorem tw_callE {A : Type} {ms : List Md} {fs : R (α × ω)} {φs : α → List Vl} {l : List (Option (Nat × Sl))} {enc : A → List Sl} {eR : ρ → Sl} {g : A → R ρ} {sp : DSp} (hsp : sp = spT enc eR g) (arg : α → ω → A) (ha : TyAW XT tA n m1 u w fs φs) (hc : ∀ a w1, lendAll ms (φs a) (setS m1 (u w1)) = some (l, setS m1 (u w1)) ∧ conv ms (φs a) l (setS m1 (u w1)) = some (enc (arg a w1), setS m1 (u w1))) (hp : ∀ o k, putBack l o k = k) (hx : ∀ w1, XT (setS m1 (u w1))) :
    TyW XT (dCall ms [] sp tA) n m1 u w (fs.bind fun p => (g (arg p.1 p.2)).bind fun r => .ok (r, p.2)) (fun r => .tmp (eR r)) := by
  subst hsp
  exact fun ex Q q => ha ex _ ((R.sat_bind q).imp (fun p z => ⟨l, _, _, _, (hc p.1 p.2).1, (hc p.1 p.2).2, arg p.1 p.2, by rw [List.map_nil, List.append_nil], (R.sat_bind z).imp (fun r z => by dsimp only; rw [hp]; exact z) fun e z => by dsimp only; rw [hp]; exact z _ (hx _)⟩) fun _ z => z)
theorem tw_callEN {A : Type} {ms : List Md} {fs : R (α × ω)} {φs : α → List Vl} {l : List (Option (Nat × Sl))} {enc : A → List Sl} {eR : ρ → Sl} {g : A → R ρ} {sp : DSp} (hsp : sp = spT enc eR g) (arg : α → ω → A) (ha : TyAW XT tA n m1 u w fs φs) (hc : ∀ a w1, lendAll ms (φs a) (setS m1 (u w1)) = some (l, setS m1 (u w1)) ∧ conv ms (φs a) l (setS m1 (u w1)) = some (enc (arg a w1), setS m1 (u w1))) (hp : ∀ o k, putBack l o k = k) :
    TyW XT (dCall ms [] sp tA) n m1 u w (fs.bind fun p => (g (arg p.1 p.2)).noE.bind fun r => .ok (r, p.2)) (fun r => .tmp (eR r)) := by
  subst hsp
  exact fun ex Q q => ha ex _ ((R.sat_bind q).imp (fun p z => ⟨l, _, _, _, (hc p.1 p.2).1, (hc p.1 p.2).2, arg p.1 p.2, by rw [List.map_nil, List.append_nil], R.sat_noE (R.sat.imp (R.sat_bind z) (fun r z => by dsimp only; rw [hp]; exact z) fun e z => z)⟩) fun _ z => z)
end
section
variable {ρ α β γ ι κ ω : Type} {M : Mode ρ} {te ta : DE} {tA : DA} {n m m1 m2 : En} {u : ω → List (Nat × Option Sl)} {w : ω} {f : R (α × ω)} {φ : α → Vl} {rest tb tb' : DS} {i j : Nat}
theorem ty_setW {m' : α → ω → En} {r : α × ω → M.X} (hn : setS n (u w) = n) (h : TyW M.XT te n m u w f φ) (ha : ∀ a w1, asgE i (φ a) (setS m (u w1)) = some (m' a w1)) (k : ∀ p : α × ω, TyB M rest (m' p.1 p.2) (r p)) : TyB M (dSeq (dSet i te) rest) n (M.bnd f r) := fun ex D q => by
  rw [← hn]
  exact h ex _ ((M.hb f r ex D q).imp (fun p z => asgE_d (ha p.1 p.2) (k p ex D z)) fun _ z => z)
theorem ty_exprW {r : α × ω → M.X} (hn : setS n (u w) = n) (h : TyW M.XT te n m u w f φ) (k : ∀ p : α × ω, TyB M rest (setS m (u p.2)) (r p)) : TyB M (dSeq (dExpr te) rest) n (M.bnd f r) := fun ex D q => by
  rw [← hn]
  exact h ex _ ((M.hb f r ex D q).imp (fun p z => k p ex D z) fun _ z => z)
theorem ty_retW {s : α → ω → Sl} {m' : α → ω → En} (g : α × ω → ρ) (hn : setS n (u w) = n) (h : TyW M.XT te n m u w f φ) (hr : ∀ a w1, retE (φ a) (setS m (u w1)) = some (s a w1, m' a w1)) (hR : ∀ p : α × ω, M.RT (g p) (s p.1 p.2) (m' p.1 p.2)) : TyB M (dSeq (dRet te) rest) n (M.bnd f fun p => M.ret (g p)) := fun ex D q => by
  rw [← hn]
  exact h ex _ ((M.hb f _ ex D q).imp (fun p z => retE_d (hr p.1 p.2) (M.hr _ ex D z _ _ (hR p))) fun _ z => z)
theorem ty_sifDW {tc : DT} {fc : R (Bool × ω)} {ra rb : ω → M.X} (hn : setS n (u w) = n) (hc : TyTW M.XT tc n m u w fc) (h1 : ∀ w1, TyB M (dSeq tb rest) (setS m (u w1)) (ra w1)) (h2 : ∀ w1, TyB M (dSeq tb' rest) (setS m (u w1)) (rb w1)) : TyB M (dSeq (dIfS tc tb tb') rest) n (M.bnd fc fun p => if p.1 = true then ra p.2 else rb p.2) := fun ex D q => by
  rw [← hn]
  exact hc ex _ ((M.hb fc _ ex D q).imp (fun p z => (by
    obtain ⟨c, w1⟩ := p
    cases c with
    | true => exact h1 w1 ex D z
    | false => exact h2 w1 ex D z)) fun _ z => z)
/-- xs.append(e), where e changes something -/
theorem ty_appW {e : β → PyData} {xs : List β} {m' : α → ω → En} {r : α × ω → List β → M.X} (y : α × ω → β) (hn : setS n (u w) = n) (h0 : n[j]? = some (some (.own (xs.map e)))) (h : TyW M.XT te n m u w f φ) (hs : ∀ a w1, share (φ a) (setS m (u w1)) = some (e (y (a, w1)), m' a w1)) (hj : ∀ a w1, (m' a w1)[j]? = some (some (.own (xs.map e))))
    (k : ∀ (p : α × ω) (xs' : List β), TyB M rest ((m' p.1 p.2).set j (some (.own (xs'.map e)))) (r p xs')) : TyB M (dSeq (dExpr (dMut j (daCons te daNil) (kApp j))) rest) n (M.bnd f fun p => M.bnd (appR xs (y p)) fun xs' => r p xs') := fun ex D q => by
  refine ⟨⟨_, h0⟩, ?_⟩
  have q := M.hb f _ ex D q
  have h := h ex (fun v k => daNil ex k fun vs env2 => kApp j (v :: vs) env2 fun v n => dSeq (fun ex env D => D.nx env) rest ex n D)
  rw [hn] at h
  refine h (q.imp (fun p z => ?_) fun _ z => z)
  obtain ⟨hl, z⟩ := chk_sat (M.hb _ _ ex D z)
  refine ⟨_, _, _, hs p.1 p.2, hj p.1 p.2, by rw [List.length_map]; exact hl, ?_⟩
  have := k p (xs ++ [y p]) ex D z
  rw [List.map_append] at this
  exact this
def setR (xs : List β) (i : Int) (y : β) : R (List β) := opt ((ixN xs.length i).map fun k => xs.set k y)
theorem ty_sto {f : R α} {φ : α → Vl} {fi : R Int} {φi : Int → Vl} {ti : DE} {e : β → PyData} {xs : List β} {r : List β → M.X} (y : α → β) (h : TyE M.XT te n f φ m1) (h1 : m1[j]? = some (some (.own (xs.map e)))) (hi : TyE M.XT ti m1 fi φi m2) (hd : ∀ i, dat m2 (φi i) = some (.int i)) (hs : ∀ a, share (φ a) m2 = some (e (y a), m)) (h3 : m[j]? = some (some (.own (xs.map e))))
    (k : ∀ xs' : List β, TyB M rest (m.set j (some (.own (xs'.map e)))) (r xs')) : TyB M (dSeq (dSto j te ti) rest) n (M.bnd (f.bind fun a => fi.bind fun i => setR xs i (y a)) r) := fun ex D q => by
  have q := M.hb _ _ ex D q
  refine h ex _ ((R.sat_bind q).imp (fun a z => ⟨⟨_, h1⟩, hi ex _ ((R.sat_bind z).imp (fun i z => ?_) fun _ z => z)⟩) fun _ z => z)
  obtain ⟨xs', e1, z⟩ := opt_sat z
  cases hk : ixN xs.length i with
  | none => rw [hk] at e1; cases e1
  | some k' =>
    rw [hk] at e1
    cases e1
    refine ⟨_, k', i, _, _, hd i, hs a, h3, by rw [List.length_map]; exact hk, ?_⟩
    rw [← List.map_set]
    exact k _ ex D z
theorem ty_augA {a : Int} {fe : R Int} {φe : Int → Vl} {r : Int → M.X} (h0 : n[i]? = some (some (.sh (.int a)))) (h : TyE M.XT te n fe φe m) (hd : ∀ b, dat m (φe b) = some (.int b)) (hl : Nat.blt i m.length = true) (k : ∀ c : Int, TyB M rest (m.set i (some (.sh (.int c)))) (r c)) :
    TyB M (dSeq (dAug i (fun _ _ => True) (fun i j => i + j) te) rest) n (M.bnd (fe.bind fun b => .ok (a + b)) r) := fun ex D q =>
  ⟨a, h0, h ex _ ((R.sat_bind (M.hb _ _ ex D q)).imp (fun b z => ⟨b, hd b, trivial, by rwa [Nat.blt_eq] at hl, k _ ex D z⟩) fun _ z => z)⟩
theorem ty_augS {a : Int} {fe : R Int} {φe : Int → Vl} {r : Int → M.X} (h0 : n[i]? = some (some (.sh (.int a)))) (h : TyE M.XT te n fe φe m) (hd : ∀ b, dat m (φe b) = some (.int b)) (hl : Nat.blt i m.length = true) (k : ∀ c : Int, TyB M rest (m.set i (some (.sh (.int c)))) (r c)) :
    TyB M (dSeq (dAug i (fun _ _ => True) (fun i j => i - j) te) rest) n (M.bnd (fe.bind fun b => .ok (a - b)) r) := fun ex D q =>
  ⟨a, h0, h ex _ ((R.sat_bind (M.hb _ _ ex D q)).imp (fun b z => ⟨b, hd b, trivial, by rwa [Nat.blt_eq] at hl, k _ ex D z⟩) fun _ z => z)⟩
theorem ty_augM {a : Int} {fe : R Int} {φe : Int → Vl} {r : Int → M.X} (h0 : n[i]? = some (some (.sh (.int a)))) (h : TyE M.XT te n fe φe m) (hd : ∀ b, dat m (φe b) = some (.int b)) (hl : Nat.blt i m.length = true) (k : ∀ c : Int, TyB M rest (m.set i (some (.sh (.int c)))) (r c)) :
    TyB M (dSeq (dAug i MOk (fun i j => i * j) te) rest) n (M.bnd (fe.bind fun b => mulI a b) r) := fun ex D q =>
  ⟨a, h0, h ex _ ((R.sat_bind (M.hb _ _ ex D q)).imp (fun b z => (by
    have z := chk_sat z
    exact ⟨b, hd b, z.1, by rwa [Nat.blt_eq] at hl, k _ ex D z.2⟩)) fun _ z => z)⟩
theorem ty_unp {is : List Nat} {f : R α} {φ : α → Vl} {ds : α → List PyData} {m' : α → En} {r : α → M.X} (h : TyE M.XT te n f φ m) (hd : ∀ a, dat m (φ a) = some (.tuple (ds a))) (hs : ∀ a, stD is (ds a) (slS m (φ a)) m = some (m' a)) (k : ∀ a, TyB M rest (m' a) (r a)) : TyB M (dSeq (dUnp is te) rest) n (M.bnd f r) := fun ex D q =>
  h ex _ ((M.hb f r ex D q).imp (fun a z => ⟨_, _, hd a, hs a, k a ex D z⟩) fun _ z => z)
theorem ty_unpW {is : List Nat} {ds : α → List PyData} {m' : α → ω → En} {r : α × ω → M.X} (hn : setS n (u w) = n) (h : TyW M.XT te n m u w f φ) (hd : ∀ a w1, dat (setS m (u w1)) (φ a) = some (.tuple (ds a))) (hs : ∀ a w1, stD is (ds a) (slS (setS m (u w1)) (φ a)) (setS m (u w1)) = some (m' a w1)) (k : ∀ p : α × ω, TyB M rest (m' p.1 p.2) (r p)) : TyB M (dSeq (dUnp is te) rest) n (M.bnd f r) := fun ex D q => by
  rw [← hn]
  exact h ex _ ((M.hb f r ex D q).imp (fun p z => ⟨_, _, hd p.1 p.2, hs p.1 p.2, k p ex D z⟩) fun _ z => z)
/-- the stores of a, b = x, y -/
def stE : List Nat → List Vl → En → Option En
  | [], [], n => some n
  | i :: is, .tmp s :: vs, n => match Nat.blt i n.length with
    | true => stE is vs (n.set i (some s))
    | false => none
  | _, _, _ => none
theorem stE_d : ∀ {is : List Nat} {vs : List Vl} {n n' : En} {P : En → Prop}, stE is vs n = some n' → P n' → stA is vs n P
  | [], [], n, n', P, h, p => by cases h; exact p
  | i :: is, .tmp s :: vs, n, n', P, h, p => by
    unfold stE at h
    cases hb : Nat.blt i n.length with
    | false => rw [hb] at h; cases h
    | true =>
      rw [hb] at h
      rw [Nat.blt_eq] at hb
      exact ⟨hb, stE_d h p⟩
  | [], _ :: _, _, _, _, h, _ => by cases h
  | _ :: _, [], _, _, _, h, _ => by cases h
  | _ :: _, .loc _ :: _, _, _, _, h, _ => by cases h
theorem ty_par {is : List Nat} {fs : R α} {φs : α → List Vl} {m' : α → En} {r : α → M.X} (h : TyA M.XT tA n fs φs m) (hs : ∀ a, stE is (φs a) m = some (m' a)) (k : ∀ a, TyB M rest (m' a) (r a)) : TyB M (dSeq (dPar is tA) rest) n (M.bnd fs r) := fun ex D q =>
  h ex _ ((M.hb fs r ex D q).imp (fun a z => stE_d (hs a) (k a ex D z)) fun _ z => z)
theorem ty_parW {is : List Nat} {φs : α → List Vl} {m' : α → ω → En} {r : α × ω → M.X} (hn : setS n (u w) = n) (h : TyAW M.XT tA n m u w f φs) (hs : ∀ a w1, stE is (φs a) (setS m (u w1)) = some (m' a w1)) (k : ∀ p : α × ω, TyB M rest (m' p.1 p.2) (r p)) : TyB M (dSeq (dPar is tA) rest) n (M.bnd f r) := fun ex D q => by
  rw [← hn]
  exact h ex _ ((M.hb f r ex D q).imp (fun p z => stE_d (hs p.1 p.2) (k p ex D z)) fun _ z => z)
end
end L3

namespace L3
open PySem L2
section
variable {α β γ δ ε : Type}
abbrev eD (d : PyData) : PyData := d
abbrev eT0 (_ : Unit) : PyData := .tuple []
abbrev eT1 (e : α → PyData) (p : α) : PyData := .tuple [e p]
abbrev eT4 (e : α → PyData) (f : β → PyData) (g : γ → PyData) (h : δ → PyData) (p : α × β × γ × δ) : PyData := .tuple [e p.1, f p.2.1, g p.2.2.1, h p.2.2.2]
abbrev eT5 (e : α → PyData) (f : β → PyData) (g : γ → PyData) (h : δ → PyData) (k : ε → PyData) (p : α × β × γ × δ × ε) : PyData := .tuple [e p.1, f p.2.1, g p.2.2.1, h p.2.2.2.1, k p.2.2.2.2]
abbrev eP (e : α → PyData) (f : β → PyData) (p : α × β) : PyData × PyData := (e p.1, f p.2)
abbrev eK (e : α → PyData) (f : β → PyData) (xs : List (α × β)) : PyData := .dict (xs.map (eP e f))
abbrev vR (e : α → PyData) (a : α) : Vl := .tmp (.bor (e a))
theorem canAll {e : α → PyData} (h : ∀ a, (e a).canLay0 = true) : ∀ xs : List α, PyData.canLayAll0 (xs.map e) = true
  | [] => rfl
  | x :: xs => by rw [List.map_cons]; unfold PyData.canLayAll0; rw [h x, canAll h xs]; rfl
theorem depAll {e : α → PyData} {k : Nat} (h : ∀ a, (e a).depth ≤ k) : ∀ xs : List α, PyData.depthAll (xs.map e) ≤ k
  | [] => by simp [PyData.depthAll]
  | x :: xs => by rw [List.map_cons]; simp only [PyData.depthAll]; exact Nat.max_le.mpr ⟨h x, depAll h xs⟩
theorem eqvAll_map [DecidableEq α] {e : α → PyData} (h : ∀ a b, PyData.eqv (e a) (e b) = decide (a = b)) : ∀ xs ys : List α, PyData.eqvAll (xs.map e) (ys.map e) = decide (xs = ys)
  | [], [] => by simp [PyData.eqvAll]
  | [], _ :: _ => by simp [PyData.eqvAll]
  | _ :: _, [] => by simp [PyData.eqvAll]
  | x :: xs, y :: ys => by
    rw [Bool.eq_iff_iff]
    simp [PyData.eqvAll, h, eqvAll_map h xs ys]
theorem layL [DecidableEq α] {e : α → PyData} {k : Nat} (h : Lay e k) : Lay (eL e) (k + 1) := ⟨fun xs => by
    show PyData.canLay0 (.list _) = true
    unfold PyData.canLay0; exact canAll h.can xs, fun xs => by
    show PyData.depth (.list _) ≤ _
    unfold PyData.depth; have := depAll h.dep xs; omega, fun xs ys => by
    show PyData.eqv (.list _) (.list _) = _
    unfold PyData.eqv; exact eqvAll_map h.eqv xs ys⟩
theorem layT2 [DecidableEq α] [DecidableEq β] {e : α → PyData} {f : β → PyData} {k l : Nat} (h : Lay e k) (h' : Lay f l) : Lay (eT2 e f) (max k l + 1) := ⟨fun p => by
    show PyData.canLay0 (.tuple _) = true
    simp [PyData.canLay0, PyData.canLayAll0, h.can, h'.can], fun p => by
    show PyData.depth (.tuple _) ≤ _
    simp only [PyData.depth, PyData.depthAll]
    have := h.dep p.1; have := h'.dep p.2; omega, fun p q => by
    show PyData.eqv (.tuple _) (.tuple _) = _
    simp only [PyData.eqv, PyData.eqvAll, h.eqv, h'.eqv]
    rw [Bool.eq_iff_iff]
    simp [Prod.ext_iff]⟩
theorem layT3 [DecidableEq α] [DecidableEq β] [DecidableEq γ] {e : α → PyData} {f : β → PyData} {g : γ → PyData} {k l m : Nat} (h : Lay e k) (h' : Lay f l) (h2 : Lay g m) : Lay (eT3 e f g) (max k (max l m) + 1) := ⟨fun p => by
    show PyData.canLay0 (.tuple _) = true
    simp [PyData.canLay0, PyData.canLayAll0, h.can, h'.can, h2.can], fun p => by
    show PyData.depth (.tuple _) ≤ _
    simp only [PyData.depth, PyData.depthAll]
    have := h.dep p.1; have := h'.dep p.2.1; have := h2.dep p.2.2; omega, fun p q => by
    show PyData.eqv (.tuple _) (.tuple _) = _
    simp only [PyData.eqv, PyData.eqvAll, h.eqv, h'.eqv, h2.eqv]
    rw [Bool.eq_iff_iff]
    simp [Prod.ext_iff]⟩
theorem layO [DecidableEq α] {e : α → PyData} {k : Nat} (h : Lay e k) (hn : ∀ a, PyData.eqv .none (e a) = false) : Lay (eO e) k := ⟨fun o => by cases o <;> simp [eO, PyData.canLay0, h.can], fun o => by cases o <;> simp [eO, PyData.depth, h.dep], fun a b => by
  cases a with
  | none => cases b with
    | none => simp [eO, PyData.eqv]
    | some y => simp [eO, hn]
  | some x => cases b with
    | none =>
      have hx := hn x
      simp only [eO]
      cases hx2 : e x <;> simp [PyData.eqv] <;> rw [hx2] at hx <;> simp [PyData.eqv] at hx
    | some y => simp [eO, h.eqv]⟩
theorem layOI : Lay (eO PyData.int) 0 := layO layI fun _ => rfl
theorem layOB : Lay (eO PyData.bool) 0 := layO layB fun _ => rfl
theorem eqL [DecidableEq α] {e : α → PyData} {k : Nat} (h : Lay e k) (hk : k ≤ 64) : EqOk e := ⟨fun a b => by
  have ha : SeqAt.shaped (e a) = true := by
    unfold SeqAt.shaped; rw [h.can a]; simp; exact Nat.le_trans (h.dep a) hk
  have hb : SeqAt.shaped (e b) = true := by
    unfold SeqAt.shaped; rw [h.can b]; simp; exact Nat.le_trans (h.dep b) hk
  have he := h.eqv a b
  unfold eqD
  split
  · rename_i x y h1 h2; rw [h1, h2] at he; rw [← he]; exact congrArg some (by show decide (x = y) = (x == y); rw [Bool.eq_iff_iff]; simp)
  · rename_i x y h1 h2; rw [h1, h2] at he; rw [← he]; exact congrArg some (by show decide (x = y) = (x == y); rw [Bool.eq_iff_iff]; simp)
  · rename_i x y h1 h2; rw [h1, h2] at he; rw [← he]; exact congrArg some (by show decide (x = y) = (x == y); rw [Bool.eq_iff_iff]; simp)
  · rw [if_pos ⟨ha, hb⟩, he]⟩
theorem eqS : EqOk PyData.str := ⟨fun a b => rfl⟩
end
section
variable {α β γ : Type} {XT : En → Prop} {t te : DE} {n m m' : En}
def asI : PyData → R Int
  | .int i => .ok i
  | _ => .bad
def asB : PyData → R Bool
  | .bool i => .ok i
  | _ => .bad
def asS : PyData → R Str
  | .str i => .ok i
  | _ => .bad
def asL : PyData → R (List PyData)
  | .list xs => .ok xs
  | _ => .bad
theorem ty_asI {f : R PyData} (h : TyE XT t n f (fun d => .tmp (.sh d)) m) : TyE XT t n (f.bind asI) vI m := fun ex Q q => h ex _ ((R.sat_bind q).imp (fun d z => by cases d <;> first | exact z | exact z.elim) fun _ z => z)
theorem ty_asIb {f : R PyData} (h : TyE XT t n f (fun d => .tmp (.bor d)) m) : TyE XT t n (f.bind asI) (vR PyData.int) m := fun ex Q q => h ex _ ((R.sat_bind q).imp (fun d z => by cases d <;> first | exact z | exact z.elim) fun _ z => z)
theorem ty_asB {f : R PyData} (h : TyE XT t n f (fun d => .tmp (.sh d)) m) : TyE XT t n (f.bind asB) vB m := fun ex Q q => h ex _ ((R.sat_bind q).imp (fun d z => by cases d <;> first | exact z | exact z.elim) fun _ z => z)
theorem ty_asBb {f : R PyData} (h : TyE XT t n f (fun d => .tmp (.bor d)) m) : TyE XT t n (f.bind asB) (vR PyData.bool) m := fun ex Q q => h ex _ ((R.sat_bind q).imp (fun d z => by cases d <;> first | exact z | exact z.elim) fun _ z => z)
theorem ty_asS {f : R PyData} (h : TyE XT t n f (fun d => .tmp (.sh d)) m) : TyE XT t n (f.bind asS) vS m := fun ex Q q => h ex _ ((R.sat_bind q).imp (fun d z => by cases d <;> first | exact z | exact z.elim) fun _ z => z)
theorem ty_asSb {f : R PyData} (h : TyE XT t n f (fun d => .tmp (.bor d)) m) : TyE XT t n (f.bind asS) (vR PyData.str) m := fun ex Q q => h ex _ ((R.sat_bind q).imp (fun d z => by cases d <;> first | exact z | exact z.elim) fun _ z => z)
theorem ty_asL {f : R PyData} (h : TyE XT t n f (fun d => .tmp (.sh d)) m) : TyE XT t n (f.bind asL) (vH (eL eD)) m := fun ex Q q => h ex _ ((R.sat_bind q).imp (fun d z => by
  cases d with
  | list xs =>
    have z : Q (.tmp (.sh (.list (xs.map fun d => d)))) m := z
    rw [List.map_id'] at z; exact z
  | _ => exact z.elim) fun _ z => z)
theorem ty_asLb {f : R PyData} (h : TyE XT t n f (fun d => .tmp (.bor d)) m) : TyE XT t n (f.bind asL) (vR (eL eD)) m := fun ex Q q => h ex _ ((R.sat_bind q).imp (fun d z => by
  cases d with
  | list xs =>
    have z : Q (.tmp (.bor (.list (xs.map fun d => d)))) m := z
    rw [List.map_id'] at z; exact z
  | _ => exact z.elim) fun _ z => z)
theorem ty_un {e : α → PyData} {f : R (Option α)} {φ : Option α → Vl} (h : TyE XT t n f φ m) (hp : ∀ o, φ o = vH (eO e) o := by exact fun _ => rfl) : TyE XT t n (f.bind opt) (vH e) m := fun ex Q q => h ex _ ((R.sat_bind q).imp (fun d z => by
  cases d with
  | none => rw [opt_none] at z; exact z.elim
  | some x => rw [opt_some] at z; rw [hp]; exact z) fun _ z => z)
theorem ty_unb {e : α → PyData} {f : R (Option α)} {φ : Option α → Vl} (h : TyE XT t n f φ m) (hp : ∀ o, φ o = vR (eO e) o := by exact fun _ => rfl) : TyE XT t n (f.bind opt) (vR e) m := fun ex Q q => h ex _ ((R.sat_bind q).imp (fun d z => by
  cases d with
  | none => rw [opt_none] at z; exact z.elim
  | some x => rw [opt_some] at z; rw [hp]; exact z) fun _ z => z)
/-- a known value in another dress -/
theorem ty_to {x : α} {φ : α → Vl} (y : β) (ψ : β → Vl) (h : TyE XT t n (.ok x) φ m) (e : φ x = ψ y) : TyE XT t n (.ok y) ψ m := fun ex Q q => h ex _ (by
  show Q (φ x) m
  rw [e]; exact q)
theorem ty_shrO (e : α → PyData) {f : R (List α)} {φ : List α → Vl} (h : TyE XT te n f φ m) (hp : ∀ xs, φ xs = vW e xs := by exact fun _ => rfl) : TyE XT (dShr te) n f (vH (eL e)) m := fun ex Q q => h ex _ (q.imp (fun a z => ⟨_, _, by rw [hp]; rfl, z⟩) fun _ z => z)
theorem ty_shrB (e : α → PyData) {f : R α} {φ : α → Vl} (h : TyE XT te n f φ m) (hs : ∀ a, share (φ a) m = some (e a, m)) : TyE XT (dShr te) n f (vH e) m := fun ex Q q => h ex _ (q.imp (fun a z => ⟨_, _, hs a, z⟩) fun _ z => z)
theorem ty_shrL (e : β → PyData) (x : β) {φ : Unit → Vl} (h : TyE XT te n (.ok ()) φ m) (hs : share (φ ()) m = some (e x, m')) : TyE XT (dShr te) n (.ok x) (vH e) m' := fun ex Q q => h ex _ ⟨_, _, hs, q⟩
theorem ty_mv {i : Nat} {e : α → PyData} {xs : List α} (h : n[i]? = some (some (.own (xs.map e)))) : TyE XT (dMv i) n (.ok xs) (vW e) (n.set i none) := fun ex Q q => ⟨_, h, q⟩
end
section
variable {ρ α β : Type} {M : Mode ρ} {n n' : En} {t rest : DS}
theorem ty_pre {ws : List Wk} {r : M.X} (h : wkE ws n = some n') (k : TyB M (dSeq t rest) n' r) : TyB M (dSeq (dPre ws t) rest) n r := fun ex D q => ⟨n', h, k ex D q⟩
theorem ty_dead {RT : ρ → Sl → En → Prop} {XT : En → Prop} : TyB (mT RT XT) (dSeq dDead rest) n .bad := fun ex D q => q.elim
theorem ty_deadN {κ : Type} {RT : ρ → Sl → En → Prop} {XT : En → Prop} {N : κ → En → Prop} : TyB (mN RT XT N) (dSeq dDead rest) n .bad := fun ex D q => q.elim
theorem ty_deadS {κ : Type} {RT : ρ → Sl → En → Prop} {XT : En → Prop} {N : κ → En → Prop} : TyB (mS RT XT N) (dSeq dDead rest) n .bad := fun ex D q => q.elim
end
end L3
namespace L3
open PySem L2
section
variable {α : Type} {XT : En → Prop} {t : DE} {n m : En}
noncomputable def asLI : PyData → R (List Int)
  | .list xs => opt (intsD xs)
  | _ => .bad
theorem asLI_map (ns : List Int) : asLI (.list (ns.map PyData.int)) = .ok ns := by show opt (intsD (ns.map PyData.int)) = _; rw [intsD_map, opt_some]
theorem asLI_sat {d : PyData} {P : List Int → Prop} {E : Ex3 → Prop} (h : (asLI d).sat P E) : ∃ ns, d = .list (ns.map PyData.int) ∧ P ns := by
  cases d with
  | list xs =>
    obtain ⟨ns, e, q⟩ := opt_sat h
    exact ⟨ns, by rw [intsD_eq e], q⟩
  | _ => exact h.elim
theorem ty_asLI {f : R PyData} (h : TyE XT t n f (fun d => .tmp (.sh d)) m) : TyE XT t n (f.bind asLI) (vH (eL PyData.int)) m := fun ex Q q => h ex _ ((R.sat_bind q).imp (fun d z => by
  obtain ⟨ns, rfl, z2⟩ := asLI_sat z
  exact z2) fun _ z => z)
theorem ty_asLIb {f : R PyData} (h : TyE XT t n f (fun d => .tmp (.bor d)) m) : TyE XT t n (f.bind asLI) (vR (eL PyData.int)) m := fun ex Q q => h ex _ ((R.sat_bind q).imp (fun d z => by
  obtain ⟨ns, rfl, z2⟩ := asLI_sat z
  exact z2) fun _ z => z)
end
end L3

namespace L3
open PySem PySem.Spec PyProof.Rows L2 HotX L2H
/-- the value itself, an address that is not tracked -/
def rawRep (a : Addr) : ExtRep := ⟨fun _ _ _ v as => v = .ref a ∧ as = [], fun _ _ _ _ _ _ _ _ _ h => h, fun _ _ _ _ _ h b hb => by rw [h.2] at hb; cases hb⟩
/-- a class of errors that is made with one text -/
structure ECls (K : PySem.W.Frag) (mg : Str → Option Value) (x : Str) (D : Addr) : Prop where
  glo : mg x = some (.ref D)
  exc : PySem.W.excIn K D He.veBase "ValueError.__new__" = true
  keep : PySem.W.keepIn K (.ref D) = true
  sub : PySem.W.subIn K (.ref D) (.type "BaseException") = some true
  ty : PySem.W.typeIn K (.ref D) = some (.type "type")
def dRaise (c : Str) : DS := fun ex n _ => ex ⟨c, []⟩ n
theorem ds_raise {X : Cx} {C : Ct} {W : WX} {x m : Str} {D : Addr} {j : Nat} {p p2 pos pos2 : Pos} (F : ECls X.K X.mg x D) (hcls : C.cls x = .ref D) (hc : X.calm = true) (tk : L2N.Takes X W) (hg : Gl X x := by rfl) (hdb : (x == ("__debug__" : Str)) = false := by decide) :
    DPS X C W (.Raise (some (.Call (.Name x p) [.Constant (.str m) j p2] [] pos)) none pos2) (dRaise x) := by
  refine ⟨(L2N.ps_raise hc tk (L2N.pmk_own PySem.F.excBase_ValueError F.exc F.glo F.keep (raises_own F.sub F.ty) hg hdb)).imp fun D' σ H ⟨HP, env, as, R, h⟩ => ?_, fun ex ex' env D D' hx hd h => hx _ _ h⟩
  have := h σ HP H as none R Stp.refl (.inl ⟨rfl, rfl⟩)
  rw [hcls] at this
  exact this
def hD (i : Nat) (D : DEnds) : DEnds := { nx := fun m => D.nx (m.set i none), rt := D.rt, bk := fun m => D.bk (m.set i none), ct := fun m => D.ct (m.set i none) }
theorem hD_le {i : Nat} {D D' : DEnds} (h : D.Le D') : (hD i D).Le (hD i D') := ⟨fun _ z => h.nx _ z, h.rt, fun _ z => h.bk _ z, fun _ z => h.ct _ z⟩
def dTry (i : Nat) (ws : List Wk) (mt : Str → Option Bool) (tb : DS) (th : Str → Addr → DS) : DS := fun ex n D =>
  tb (fun e m => ∃ b, mt e.cls = some b ∧ (b = true → e.fs = [] ∧ ∃ m', wkE ws m = some m' ∧ i < m'.length ∧ ∀ a, th e.cls a exF (m'.set i (some (.ext (rawRep a)))) (hD i D)) ∧ (b = false → ex e m)) n D
theorem Rel.clr2 {K : PySem.W.Frag} {C : Ct} {HP H : Hp} {σ : L2.St} {n : En} {as ts : List Addr} {i : Nat} (r : Rel K C HP σ H n as ts) (hio : i ∉ C.io) : ∃ as', Rel K C HP (σ.set i none) H (n.set i none) as' ts ∧ ∀ a ∈ as', a ∈ as := by
  by_cases hi : i < n.length
  · obtain ⟨w, pre, a, post, h1, h2, h3, h4⟩ := r.rep.at i (List.getElem?_eq_getElem hi)
    have k := h4 HP H none none [] (Same.refl _) (fun _ _ => rfl) rfl
    subst h2
    have sub : (pre ++ ([] ++ post) ++ ts).Sublist (pre ++ (a ++ post) ++ ts) := List.Sublist.append (List.Sublist.append (List.Sublist.refl _) (List.Sublist.append (List.nil_sublist _) (List.Sublist.refl _))) (List.Sublist.refl _)
    refine ⟨pre ++ ([] ++ post), ⟨r.exP, r.exB, k, r.nd.sublist sub, fun b hb => r.own b (sub.mem hb), fun m hm => ?_⟩, fun b hb => ?_⟩
    · rw [List.getElem?_set_ne (fun e => hio (by rw [e]; exact hm))]; exact r.pin m hm
    · rcases List.mem_append.mp hb with z | z
      · exact List.mem_append_left _ z
      · exact List.mem_append_right _ (List.mem_append_right _ (by simpa using z))
  · have hl : n.length = σ.length := r.rep.len.symm
    rw [List.set_eq_of_length_le (by omega), List.set_eq_of_length_le (by omega)]
    exact ⟨as, r, fun _ h => h⟩
theorem nxL_clr {K : PySem.W.Frag} {C : Ct} {HP H : Hp} {as : List Addr} {i : Nat} {P : L2.St → Hp → Prop} {m : En} (hio : i ∉ C.io) (h : nxL K C HP H as P (m.set i none)) : nxL K C HP H as (fun σ' H' => P (σ'.set i none) H') m := fun σ' HP' H' as' r x => by
  obtain ⟨as2, r2, hm⟩ := r.clr2 hio
  exact h _ HP' H' as2 r2 (x.less hm)
theorem ds_try {X : Cx} {C : Ct} {W : WX} {x n : Str} {c : Value} {i : Nat} {body suite : List Stmt} {b₀ : Stmt} {np pos pos' : Pos} {tb : DS} {th : Str → Addr → DS} (ws : List Wk) (mt : Str → Option Bool) (hs : X.stack = X.env :: X.outer) (hf : X.env.frame = some X.env.locals) (hN : X.N.Nodup) (hi : X.N[i]? = some n) (hln : X.env.kindOf n = some .local) (hc : Names X x c) (tk : L2N.Takes X W)
    (hm : ∀ cl b, mt cl = some b → PySem.W.exmOne X.K (C.cls cl) c = some b) (hio : i ∉ C.io)
    (hb : ∀ (W' : WX) (pn : List (Addr × Obj)) (xe : Value → Shared → Prop), L2N.Takes (X.tr pn xe) W' → PassesOwn (model X.prog X.w) X.A X.env xe → DPB (X.tr pn xe) C W' body tb)
    (hsu : ∀ (cl : Str) (a : Addr) (oe : Obj) (pn : List (Addr × Obj)), L2N.Zn (C.cls cl) none oe → (∃ vs, oe.data = .fields vs) → DPB (X.suite a ((a, oe) :: pn)) C (fun _ _ _ _ => False) (b₀ :: suite) (th cl a)) :
    DPS X C W (.Try body [.ExceptHandler (some (.Name x np)) (some n) (b₀ :: suite) pos'] [] [] pos) (dTry i ws mt tb th) := by
  have mb : MonoS tb := (hb (fun _ _ _ _ => False) [] (fun _ _ => False) (fun u s' ⟨_, _, _, _, _, _, _, _, _, _, _, _, _, _, _, _, w⟩ => w) PassesOwn.never).mono
  let ts : Addr → Value → Option Addr → TS := fun a cls d D σ H => ∃ cl, cls = C.cls cl ∧ d = none ∧ liftS X.K C (fun _ _ _ _ => False) (th cl a) D σ H
  refine ⟨(L2N.ps_try_as (tb := fun W' => liftS X.K C W' tb) (ts := ts) hs hf hN hi hln hc tk (fun W' pn xe t p => (hb W' pn xe t p).run) fun a oe cls d pn hz hv => ?_).imp fun D σ H ⟨HP, env, as, R, h⟩ => ?_, fun ex ex' env D D' hx hd h => ?_⟩
  · refine ⟨fun pins s σ H D I ⟨cl, e1, e2, q⟩ => ?_⟩
    subst e1 e2
    exact (hsu cl a oe pn hz hv).run.run pins s σ H D I q
  · refine ⟨HP, env, as, R, mb _ _ env _ _ (fun e m ⟨b, hb1, ht, hfl⟩ => ?_) (DEnds.Le.refl _) h⟩
    intro σ' HP' H' as' d R' x' er
    refine ⟨b, hm _ _ hb1, fun hbt a ha => ?_, fun hbf => (hfl hbf) σ' HP' H' as' d R' x' er⟩
    obtain ⟨e0, m', hwk, hl, hth⟩ := ht hbt
    have ed : d = none := er.elim (·.2) fun z => absurd e0 z.1
    obtain ⟨HPw, asw, Rw, xw⟩ := R'.wk hwk
    rw [List.append_nil, List.append_nil] at xw
    obtain ⟨as2, R2, hm2⟩ := Rel.store (t := []) (s := .ext (rawRep a)) (v := .ref a) (i := i) Rw ⟨rfl, rfl⟩ hl (.inl hio)
    refine ⟨e.cls, rfl, ed, HPw, _, as2, R2, ?_⟩
    have x2 : Stp HP H as HPw H' as2 := (x'.trans xw).less fun b hb => by simpa using hm2 b hb
    have k := (hsu e.cls a)
    have mth : MonoS (th e.cls a) := by
      by_cases hz : ∃ oe : Obj, L2N.Zn (C.cls e.cls) none oe ∧ ∃ vs, oe.data = .fields vs
      · obtain ⟨oe, hz, hv⟩ := hz
        exact (hsu e.cls a oe [] hz hv).mono
      · exact absurd ⟨{ cls := C.cls e.cls, dict := none, data := .fields #[.none, .none, .none] }, ⟨rfl, rfl, fun vs e => by cases e; rfl⟩, _, rfl⟩ hz
    refine mth _ _ _ (hD i (endsOf X.K C HP H as D)) _ (fun _ _ z => False.elim z) ⟨fun m z => ?_, fun s m z => rtL.from z x2, fun m z => ?_, fun m z => ?_⟩ (hth a)
    · exact nxL_clr hio (nxL.from z x2)
    · exact nxL_clr hio (nxL.from z x2)
    · exact nxL_clr hio (nxL.from z x2)
  · refine mb _ _ env _ _ (fun e m ⟨b, hb1, ht, hfl⟩ => ⟨b, hb1, fun hbt => ⟨(ht hbt).1, (let ⟨m', h1, h2, h3⟩ := (ht hbt).2; ⟨m', h1, h2, fun a => ?_⟩)⟩, fun hbf => hx _ _ (hfl hbf)⟩) hd h
    have mth : MonoS (th e.cls a) := (hsu e.cls a { cls := C.cls e.cls, dict := none, data := .fields #[.none, .none, .none] } [] ⟨rfl, rfl, fun vs e => by cases e; rfl⟩ ⟨_, rfl⟩).mono
    exact mth _ _ _ _ _ (fun _ _ z => z) (hD_le hd) (h3 a)
structure Knd (P : Program) (w : World) (K : PySem.W.Frag) (mg : Str → Option Value) (base : Heap) (k : Nat) (f : Addr) (D : Addr) (ks : List Str) : Prop where
  ex : ∃ fd y, FnK P w K mg base k f fd y D ks ∧ PySem.W.keepIn K (.ref f) = true ∧ Binds K fd [y] []
def dKnd (i : Nat) (kf : Str → Option (List Str)) (c : Str) (a : Addr) : DE := fun _ n Q => ∃ ks, kf c = some ks ∧ n[i]? = some (some (.ext (rawRep a))) ∧ Q (.tmp (.own (ks.map PyData.str))) n
theorem do_knd {X : Cx} {C : Ct} {W : WX} {k i : Nat} {f : Addr} {x e : Str} {kf : Str → Option (List Str)} {cl : Str} {p : Addr × Obj} {pf pe pos : Pos} (F : ∀ ks, kf cl = some ks → ∃ D, C.cls cl = .ref D ∧ Knd X.prog X.w X.K X.mg X.base k f D ks) (hr : RoomH k X.A) (hot : Hot1 X.A p) (hp : p ∈ X.pn) (hz : Zc (C.cls cl) none p.2) (hf : ∃ vs, p.2.data = .fields vs)
    (hm : X.mg x = some (.ref f)) (hN : X.N[i]? = some e := by rfl) (hg : Gl X x := by rfl) (hv : Vis X.env.scope e := by first | exact Or.inl rfl | exact Or.inr (Or.inl rfl) | exact Or.inr (Or.inr rfl)) (hd : (e == ("__debug__" : Str)) = false := by decide) (hcd : (e == ("__classdict__" : Str)) = false := by decide)
    (hdb : (x == ("__debug__" : Str)) = false := by decide) (he : starEach [.Name e pe] X.env = (false, eval (.Name e pe) X.env) :: starEach [] X.env := by rfl) (hpl : (backTo pos (starEach [.Name e pe] X.env)).any (·.1) = false := by rfl) : DP X C W (.Call (.Name x pf) [.Name e pe] [] pos) (dKnd i kf cl p.1) := by
  refine ⟨?_, fun ex ex' env Q Q' _ hq ⟨ks, h1, h2, h3⟩ => ⟨ks, h1, h2, hq _ _ h3⟩⟩
  cases hk : kf cl with
  | none => exact ⟨fun pins s σ H Q I ⟨_, _, _, _, ks, e1, _⟩ => by rw [hk] at e1; cases e1⟩
  | some ks =>
    obtain ⟨D, eD, ⟨fd, y, F1, hk1, hb1⟩⟩ := F ks hk
    rw [eD] at hz
    refine (pe_callK (e := e) F1 hr hot hp hz hf hg hm hk1 hb1 (fun σ pins H s e s' I c => by
      obtain ⟨_, _, _, _, _, _, _, _, _, _, _, _, z⟩ := c
      exact False.elim z) hN hv hd hcd hdb (he := he) (hpl := hpl)).imp fun σ H Q ⟨HP, env, as, R, ks', e1, e2, q⟩ => ?_
    rw [hk] at e1
    cases Option.some.inj e1
    obtain ⟨v, t, e3, rs, _⟩ := R.slot e2
    obtain ⟨rfl, rfl⟩ : v = .ref p.1 ∧ t = [] := rs
    refine ⟨e3, fun l G hl hS hU hG => ?_⟩
    have ne : ∀ a, H a ≠ none → a ≠ l := fun a h z => h (by rw [z]; exact hl)
    have fr : ∀ a ∈ as, G a = H a := fun a ha => by
      obtain ⟨o, eo⟩ := ne_none (R.own a (List.mem_append_left _ ha)).2.2
      rw [hS a o eo, eo]
    refine q (.ref l) HP G as [l] ⟨fun a o z => hS _ _ (R.exP a o z), fun a o z => hS _ _ (R.exB a o z), R.rep.frame (Same.refl _) fr, ?_, fun a ha => ?_, R.pin⟩ ⟨Same.refl _, fun a o z _ => hS a o z, fun a ha => ?_, fun _ _ z => .inl z, fun a z => hU a z⟩ ⟨l, _, rfl, rfl, hG, RpAll.ofStrs ks⟩
    · have nd : as.Nodup := by simpa using R.nd
      exact List.nodup_append.mpr ⟨nd, by simp, fun a ha b hb e => by
        have : b = l := by simpa using hb
        subst e
        exact ne a (R.own a (List.mem_append_left _ ha)).2.2 this⟩
    · rcases List.mem_append.mp ha with z | z
      · have w := R.own a (List.mem_append_left _ z)
        exact ⟨w.1, w.2.1, by rw [fr a z]; exact w.2.2⟩
      · have z : a = l := by simpa using z
        subst z
        exact ⟨R.exP.free hl, R.exB.free hl, by rw [hG]; exact fun q => nomatch q⟩
    · rcases List.mem_append.mp ha with z | z
      · exact .inl z
      · have z : a = l := by simpa using z
        exact .inr (by rw [z]; exact hl)
end L3

namespace L3
open PySem L2
def SR.tryS {ρ κ : Type} (rb : SR ρ κ) (mt : Str → Option Bool) (h : Str → SR ρ Unit) : SR ρ κ := match rb with
  | .err e => (match mt e.cls, e.fs with
    | some true, [] => (match h e.cls with
      | .rt p => .rt p
      | _ => .bad)
    | _, _ => .bad)
  | .nx s => .nx s
  | .ct s => .ct s
  | .bk s => .bk s
  | .rt p => .rt p
  | .bad => .bad
section
variable {ρ α β κ : Type} {M : Mode ρ} {n n' : En} {t tb rest : DS}
theorem ty_raise {c : Str} (hx : M.XT n) : TyB M (dSeq (dRaise c) rest) n (M.rai ⟨c, []⟩) := fun ex D q => M.he _ ex D q _ hx
theorem ty_try {i : Nat} {ws wsN : List Wk} {mt : Str → Option Bool} {th : Str → Addr → DS} {nh : En} {rb : SR ρ κ} {h : Str → SR ρ Unit} {r : κ → M.X} (u : κ → List (Nat × Option Sl))
    (hb : TyB (mS M.RT (fun m => wkE ws m = some nh) fun s k => wkE wsN k = some (setS n (u s))) tb n rb) (hl : Nat.blt i nh.length = true)
    (hh : ∀ c a, TyB (mS M.RT (fun _ => False) fun (_ : Unit) _ => False) (th c a) (nh.set i (some (.ext (rawRep a)))) (h c)) (k : ∀ s, TyB M rest (setS n (u s)) (r s)) :
    TyB M (dSeq (dTry i ws mt (dPost wsN tb) th) rest) n (M.bndS (rb.tryS mt h) r) := fun ex D q => by
  have z := M.hs _ _ ex D q
  refine hb _ _ ?_
  cases rb with
  | nx s => exact fun m hm => ⟨_, hm, k s ex D z⟩
  | ct s => exact z.elim
  | bk s => exact z.elim
  | rt p => exact z
  | bad => exact z
  | err e =>
    intro m hm
    unfold SR.tryS at z
    dsimp only at z
    cases hmt : mt e.cls with
    | none => rw [hmt] at z; exact z.elim
    | some b =>
      rw [hmt] at z
      cases b with
      | false => exact z.elim
      | true =>
        cases hfs : e.fs with
        | cons _ _ => rw [hfs] at z; exact z.elim
        | nil =>
          rw [hfs] at z
          dsimp only at z
          refine ⟨true, rfl, fun _ => ⟨rfl, nh, hm, by rwa [Nat.blt_eq] at hl, fun a => hh e.cls a _ _ ?_⟩, fun q => (nomatch q)⟩
          cases hhc : h e.cls with
          | rt p => rw [hhc] at z; exact z
          | nx s => rw [hhc] at z; exact z.elim
          | ct s => rw [hhc] at z; exact z.elim
          | bk s => rw [hhc] at z; exact z.elim
          | err e => rw [hhc] at z; exact z.elim
          | bad => rw [hhc] at z; exact z.elim
theorem ty_knd {XT : En → Prop} {i : Nat} {kf : Str → Option (List Str)} {c : Str} {a : Addr} (h : n[i]? = some (some (.ext (rawRep a)))) : TyE XT (dKnd i kf c a) n (opt (kf c)) (vW PyData.str) n := fun ex Q q => by
  obtain ⟨ks, e1, q⟩ := opt_sat q
  exact ⟨ks, e1, h, q⟩
end
end L3

namespace L3
open PySem L2
def kD : Key → PyData
  | .inl i => .int i
  | .inr x => .str x
abbrev kp (p : Key × PyData) : PyData × PyData := (kD p.1, p.2)
def putD {α : Type} (kvs : List (Key × α)) (k : Key) (v : α) : List (Key × α) :=
  if kvs.any (fun kv => decide (kv.1 = k)) then kvs.map (fun kv => if kv.1 = k then (kv.1, v) else kv) else kvs ++ [(k, v)]
def mergeD {α : Type} (kvs more : List (Key × α)) : List (Key × α) := more.foldl (fun acc kv => putD acc kv.1 kv.2) kvs
def KP (H : Hp) : List (Key × V) → List (Key × PyData) → Prop := Paired fun p q => p.1 = q.1 ∧ Rp H p.2 q.2
section
variable {H H' : Hp}
theorem KP.rp : ∀ {ws : List (Key × V)} {kvs : List (Key × PyData)}, KP H ws kvs → RpKV H ws (kvs.map kp)
  | _, _, .nil => .nil
  | (k, v) :: _, (k', d) :: _, .cons h t => by
    obtain ⟨h1, h2⟩ := h
    dsimp only at h1; subst h1
    cases k with
    | inl i => exact .consI h2 (KP.rp t)
    | inr x => exact .consS h2 (KP.rp t)
theorem KP.of : ∀ {ws : List (Key × V)} {kvs : List (Key × PyData)}, RpKV H ws (kvs.map kp) → KP H ws kvs
  | _, [], .nil => .nil
  | _, (.inl i, d) :: kvs, .consI h t => .cons ⟨rfl, h⟩ (KP.of t)
  | _, (.inr i, d) :: kvs, .consS h t => .cons ⟨rfl, h⟩ (KP.of t)
theorem KP.any (k : Key) : ∀ {ws : List (Key × V)} {kvs : List (Key × PyData)}, KP H ws kvs → (ws.any fun kv => decide (kv.1 = k)) = kvs.any fun kv => decide (kv.1 = k)
  | _, _, .nil => rfl
  | _ :: _, _ :: _, .cons h t => by rw [List.any_cons, List.any_cons, KP.any k t, h.1]
theorem KP.repl (k : Key) {v : V} {d : PyData} (q : Rp H v d) : ∀ {ws : List (Key × V)} {kvs : List (Key × PyData)}, KP H ws kvs → KP H (ws.map fun kv => if kv.1 = k then (kv.1, v) else kv) (kvs.map fun kv => if kv.1 = k then (kv.1, d) else kv)
  | _, _, .nil => .nil
  | p :: _, q' :: _, .cons h t => by
    rw [List.map_cons, List.map_cons]
    refine .cons ?_ (KP.repl k q t)
    by_cases e : p.1 = k
    · rw [if_pos e, if_pos (h.1 ▸ e)]; exact ⟨h.1, q⟩
    · rw [if_neg e, if_neg (h.1 ▸ e)]; exact h
theorem KP.snoc (k : Key) {v : V} {d : PyData} (q : Rp H v d) : ∀ {ws : List (Key × V)} {kvs : List (Key × PyData)}, KP H ws kvs → KP H (ws ++ [(k, v)]) (kvs ++ [(k, d)])
  | _, _, .nil => .cons ⟨rfl, q⟩ .nil
  | _ :: _, _ :: _, .cons h t => .cons h (KP.snoc k q t)
theorem KP.put (k : Key) {v : V} {d : PyData} (q : Rp H v d) {ws : List (Key × V)} {kvs : List (Key × PyData)} (r : KP H ws kvs) : KP H (putK ws k v) (putD kvs k d) := by
  unfold putK putD
  rw [r.any k]
  split
  · exact r.repl k q
  · exact r.snoc k q
theorem KP.merge : ∀ {ms : List (Key × V)} {more : List (Key × PyData)} {ws : List (Key × V)} {kvs : List (Key × PyData)}, KP H ms more → KP H ws kvs → KP H (mergeK ws ms) (mergeD kvs more) := by
  intro ms more ws kvs h
  unfold KP at h
  induction h generalizing ws kvs with
  | nil => exact fun r => r
  | @cons p q ps qs h t ih =>
    intro r
    have e : KP H (putK ws p.1 p.2) (putD kvs q.1 q.2) := by rw [← h.1]; exact r.put p.1 h.2
    exact ih e
def flatP {α : Type} : List (α × α) → List α
  | [] => []
  | p :: r => p.1 :: p.2 :: flatP r
theorem flatP_inj {α : Type} : ∀ {a b : List (α × α)}, flatP a = flatP b → a = b
  | [], [], _ => rfl
  | [], _ :: _, e => by cases e
  | _ :: _, [], e => by cases e
  | (a1, a2) :: a, (b1, b2) :: b, e => by
    simp only [flatP, List.cons.injEq] at e
    obtain ⟨rfl, rfl, e⟩ := e
    rw [flatP_inj e]
theorem flat_keys : ∀ {vs : List V} (kvs : List (Key × PyData)), RpAll H vs (flatP (kvs.map kp)) → ∃ ws : List (Key × V), vs = flatP (ws.map fun p => (kV p.1, p.2)) ∧ KP H ws kvs
  | _, [], .nil => ⟨[], rfl, .nil⟩
  | _, (.inl i, d) :: kvs, .cons h (.cons h2 t) => by
    obtain ⟨ws, rfl, q⟩ := flat_keys kvs t
    cases h
    exact ⟨(.inl i, _) :: ws, rfl, .cons ⟨rfl, h2⟩ q⟩
  | _, (.inr i, d) :: kvs, .cons h (.cons h2 t) => by
    obtain ⟨ws, rfl, q⟩ := flat_keys kvs t
    cases h
    exact ⟨(.inr i, _) :: ws, rfl, .cons ⟨rfl, h2⟩ q⟩
end
section
variable {K : PySem.W.Frag} {C : Ct} {HP H : Hp} {σ : L2.St} {env : En} {as ts : List Addr} {p : Addr} {o : HO}
theorem Rel.permT {ts' : List Addr} (r : Rel K C HP σ H env as ts) (h : ts'.Perm ts) : Rel K C HP σ H env as ts' :=
  ⟨r.exP, r.exB, r.rep, ((List.Perm.append_left as h).nodup_iff).mpr r.nd, fun a ha => r.own a ((List.Perm.append_left as h).mem_iff.mp ha), r.pin⟩
theorem Rel.reT (r : Rel K C HP σ H env as (p :: ts)) : Rel K C HP σ (upd H p o) env as (p :: ts) ∧ Stp HP H (as ++ p :: ts) HP (upd H p o) (as ++ p :: ts) := by
  have hp := r.own p (List.mem_append_right _ List.mem_cons_self)
  have hn : p ∉ as := fun z => (List.nodup_append.mp r.nd).2.2 p z p List.mem_cons_self rfl
  have ne : ∀ {G : Hp} {a u}, G p = none → G a = some u → a ≠ p := fun h e z => by rw [z, h] at e; cases e
  refine ⟨⟨fun a u e => ?_, fun a u e => ?_, r.rep.frame (Same.refl _) fun a ha => upd_ne fun z => hn (z ▸ ha), r.nd, fun a ha => ?_, r.pin⟩, Same.refl _, fun a u e n => ?_, fun a ha => .inl ha, fun a u e => .inl e, fun a e => ?_⟩
  · rw [upd_ne (ne hp.1 e)]; exact r.exP a u e
  · rw [upd_ne (ne hp.2.1 e)]; exact r.exB a u e
  · have q := r.own a ha
    refine ⟨q.1, q.2.1, ?_⟩
    by_cases z : a = p
    · rw [z, upd_same]; exact fun q => nomatch q
    · rw [upd_ne z]; exact q.2.2
  · rw [upd_ne fun z => n (by rw [z]; exact List.mem_append_right _ List.mem_cons_self)]; exact e
  · by_cases z : a = p
    · rw [z, upd_same] at e; cases e
    · rwa [upd_ne z] at e
end
def daP : List (DE × DE) → DA
  | [] => daNil
  | p :: r => daCons p.1 (daCons p.2 (daP r))
abbrev liftP (K : PySem.W.Frag) (C : Ct) (W : WX) (ds : List (DE × DE)) : List (TE × TE) := ds.map fun p => (lift K C W p.1, lift K C W p.2)
theorem mono_daCons {ta : DE} {tr : DA} (h : MonoE ta) (r : MonoA tr) : MonoA (daCons ta tr) := fun ex ex' env Q Q' he hq z => h ex ex' env _ _ he (fun v n h1 => r ex ex' n _ _ he (fun vs n2 h2 => hq _ _ h2) h1) z
theorem mono_daP : ∀ {ds : List (DE × DE)}, (∀ p ∈ ds, MonoE p.1 ∧ MonoE p.2) → MonoA (daP ds)
  | [], _ => fun _ _ _ _ _ _ hq h => hq _ _ h
  | p :: r, h => mono_daCons (h p List.mem_cons_self).1 (mono_daCons (h p List.mem_cons_self).2 (mono_daP fun q hq => h q (List.mem_cons_of_mem _ hq)))
theorem lift_pairs {K : PySem.W.Frag} {C : Ct} {W : WX} {σ : L2.St} : ∀ {ds : List (DE × DE)} {H : Hp} {P : List (V × V) → Hp → Prop}, (∀ p ∈ ds, MonoE p.1 ∧ MonoE p.2) → liftA K C W (daP ds) σ H (fun vs H' => ∀ ps, vs = flatP ps → P ps H') → tPairs (liftP K C W ds) σ H P
  | [], H, P, _, ⟨HP, env, as, R, h⟩ => h [] HP H as [] R (Stp.refl.less fun a ha => by simpa using ha) ⟨rfl, rfl⟩ [] rfl
  | p :: r, H, P, m, ⟨HP, env, as, R, h⟩ => by
    have m1 := m p List.mem_cons_self
    have mr : ∀ q ∈ r, MonoE q.1 ∧ MonoE q.2 := fun q hq => m q (List.mem_cons_of_mem _ hq)
    refine ⟨HP, env, as, R, m1.1 _ _ env _ _ (fun _ _ z => z) (fun va n h1 => ?_) h⟩
    intro x HP1 H1 as1 t1 R1 X1 V1
    refine ⟨HP1, n, as1, R1.nots, m1.2 _ _ n _ _ (fun e n z => z.imp X1 fun a ha => List.mem_append_left _ ha) (fun vb n2 h2 => ?_) h1⟩
    intro y HP2 H2 as2 t2 R2 X2 V2
    refine lift_pairs (P := fun ps H' => P ((x, y) :: ps) H') mr ⟨HP2, n2, as2, R2.nots, mono_daP mr _ _ n2 _ _ (fun e n z => z.imp (X1.trans (R1.pend X2 R2).2.2) fun a ha => List.mem_append_left _ ha) (fun vs n3 h3 => ?_) h2⟩
    intro ys HP3 H3 as3 t3 R3 X3 V3 ps eps
    obtain ⟨R4, st4, X4⟩ := R2.pend X3 R3
    obtain ⟨R5, st5, X5⟩ := R1.pend (X2.trans X4) R4
    exact h3 (x :: y :: ys) HP3 H3 as3 (t1 ++ (t2 ++ t3)) R5 (X1.trans X5) ⟨x, _, t1, t2 ++ t3, rfl, rfl, V1.frame (X2.trans X4).ex st5, y, ys, t2, t3, rfl, rfl, V2.frame X3.ex st4, V3⟩ _ (by rw [eps]; rfl)
structure DPP (X : Cx) (C : Ct) (W : WX) (pos : Pos) (ks : List (Option Expr)) (vs : List Expr) (ds : List (DE × DE)) : Prop where
  run : PPs X pos ks vs (liftP X.K C W ds)
  mono : ∀ p ∈ ds, MonoE p.1 ∧ MonoE p.2
section
variable {X : Cx} {C : Ct} {W : WX} {pos : Pos}
theorem dpp_nil : DPP X C W pos [] [] [] := ⟨pps_nil, fun _ h => nomatch h⟩
theorem dpp_cons {k v : Expr} {ks : List (Option Expr)} {vs : List Expr} {tk tv : DE} {ds : List (DE × DE)} (hk : DP X C W k tk) (hv : DP X C W v tv) (hr : DPP X C W pos ks vs ds) : DPP X C W pos (some k :: ks) (v :: vs) ((tk, tv) :: ds) :=
  ⟨pps_cons hk.run hv.run hr.run, fun p hp => (List.mem_cons.mp hp).elim (fun e => by subst e; exact ⟨hk.mono, hv.mono⟩) fun z => hr.mono p z⟩
def kDct : List Vl → En → DK → Prop := fun vals env Q => ∃ ds env', shareAll vals env = some (ds, env') ∧ ∃ kvs : List (Key × PyData), ds = flatP (kvs.map kp) ∧ kvs.length ≤ 15 ∧ Q (.tmp (.odk ((mergeD [] kvs).map kp))) env'
theorem mono_dct : MonoN kDct := fun a n Q Q' hq ⟨ds, e, h1, kvs, h2, h3, h4⟩ => ⟨ds, e, h1, kvs, h2, h3, hq _ _ h4⟩
abbrev dDct (ds : List (DE × DE)) : DE := dN (daP ds) kDct
theorem do_dct {ks : List (Option Expr)} {vs : List Expr} {ds : List (DE × DE)} (h : DPP X C W pos ks vs ds) (hall : ks.all (·.isSome) = true := by rfl) (hl : ks.length = vs.length := by rfl) (h0 : ks ≠ [] := by exact fun h => nomatch h) (h15 : Nat.ble ks.length 15 = true := by rfl) :
    DP X C W (.Dict ks vs pos) (dDct ds) := by
  refine ⟨(pe_disp h.run hall hl h0 (by rwa [Nat.ble_eq] at h15)).imp fun σ H Q q => ?_, (mono_daP h.mono).dN mono_dct⟩
  obtain ⟨HP, env, as, R, q⟩ := q
  intro p hp
  have R0 : Rel X.K C HP σ (upd H p (.dK [])) env as [p] := R.newT hp
  have X0 : Stp HP H as HP (upd H p (.dK [])) (as ++ [p]) := Stp.newT hp fun a ha => by
    rcases List.mem_append.mp ha with z | z
    · exact .inl z
    · exact .inr (by simpa using z)
  refine lift_pairs h.mono ⟨HP, env, as, R0.nots, mono_daP h.mono _ _ env _ _ (fun e n z => z.imp (Stp.new hp) fun a ha => ha) (fun vals n hk => ?_) q⟩
  · intro vs1 HP1 H1 as1 t1 R1 X1 V1 ps eps
    obtain ⟨R2, st, X2⟩ := R0.pend X1 R1
    obtain ⟨ds', env', e1, kvs, e2, e3, hq⟩ := hk
    have R3 : Rel X.K C HP1 σ H1 n as1 (t1 ++ [p]) := R2.permT List.perm_append_comm
    obtain ⟨HP2, as2, R4, g, x4⟩ := R3.shares V1 e1
    subst e2
    obtain ⟨ws, e4, kp⟩ := flat_keys kvs g
    rw [eps] at e4
    have e5 := flatP_inj e4
    obtain ⟨R5, x5⟩ := R4.reT (o := .dK (mergeK [] ws))
    refine ⟨by rw [st p (by simp), upd_same], ws, e5, by rw [Paired.length kp]; exact e3, ?_⟩
    have hx : Stp HP H as HP2 (upd H1 p (.dK (mergeK [] ws))) (as2 ++ [p]) := by
      refine (X0.trans (X2.less (cs := as1 ++ (t1 ++ [p])) fun a ha => ?_)).trans ((x4.from fun a ha => ?_).trans x5)
      · simp at ha ⊢; rcases ha with z | z | z
        · exact .inl z
        · exact .inr (.inr z)
        · exact .inr (.inl z)
      · first
        | exact ha
        | (simp at ha ⊢; exact ha)
    exact hq (.ref p) HP2 _ as2 [p] R5 hx ⟨p, mergeK [] ws, rfl, rfl, upd_same, (kp.merge .nil).rp⟩
def dDct0 : DE := fun _ env Q => Q (.tmp (.odk [])) env
theorem do_dct0 : DP X C W (.Dict [] [] pos) dDct0 := ⟨pe_dnewK.imp fun σ H Q ⟨HP, env, as, R, q⟩ p hp =>
  Po.dict (HP := HP) (K := X.K) (C := C) (σ := σ) (t := as) (fun v HP' H' as' ts' R' X' V' => q v HP' H' as' ts' R' X' V') R (fun a ha => ha) hp .nil, fun _ _ _ _ _ _ hq h => hq _ _ h⟩
def kRevS : Vl → En → DK → Prop := fun va env Q => match dat env va with
  | some (.list xs) => perm env va = true ∧ Q (.tmp (.own xs.reverse)) env
  | _ => False
def dRevS (ta : DE) : DE := d1 ta kRevS
theorem do_revS {e : Expr} {te : DE} {k : Nat} {p1 p2 p3 : Pos} (he : DP X C W e te) : DP X C W (.Subscript e (.Slice none none (some (.UnaryOp .USub (.Constant (.int 1) k p1) p2)) p3) pos) (dRevS te) := by
  refine ⟨(pe_revL he.run).imp fun σ H Q h => ?_, he.mono.d1 fun a n Q Q' hq h => ?_⟩
  · obtain ⟨HP, env, as, R, h⟩ := h
    refine ⟨HP, env, as, R, he.mono _ _ env _ _ (fun _ _ z => z) (fun va n h1 => ?_) h⟩
    intro x HP1 H1 as1 t1 R1 X1 V1
    unfold kRevS at h1
    split at h1
    · rename_i xs e1
      obtain ⟨pa, hq⟩ := h1
      obtain ⟨a, vs, rfl, ha, ra⟩ := R1.kids V1 e1 pa
      refine ⟨a, vs, rfl, SqL.of ha, fun p hp => ?_⟩
      have p2 : Po X.K C σ HP1 H1 (as1 ++ t1) Q _ _ := fun v HP' H' as' ts' R' X' V' => hq v HP' H' as' ts' R' (X1.trans X') V'
      exact p2.own R1 in_app1 hp ra.reverse
    · exact h1.elim
  · unfold kRevS at h ⊢
    split at h
    · exact ⟨h.1, hq _ _ h.2⟩
    · exact h
end
end L3

namespace L3
open PySem L2
section
variable {α β : Type}
structure KeyOk (e : α → PyData) (tk : α → Key) : Prop where
  dat : ∀ a, kD (tk a) = e a
  inj : ∀ a b, tk a = tk b → a = b
theorem keyI : KeyOk PyData.int (fun i : Int => (.inl i : Key)) := ⟨fun _ => rfl, fun a b h => by cases h; rfl⟩
theorem keyS : KeyOk PyData.str (fun i : Str => (.inr i : Key)) := ⟨fun _ => rfl, fun a b h => by cases h; rfl⟩
def putT [DecidableEq α] (kvs : List (α × β)) (k : α) (v : β) : List (α × β) :=
  if kvs.any (fun kv => decide (kv.1 = k)) then kvs.map (fun kv => if kv.1 = k then (kv.1, v) else kv) else kvs ++ [(k, v)]
def mergeT [DecidableEq α] (kvs more : List (α × β)) : List (α × β) := more.foldl (fun acc kv => putT acc kv.1 kv.2) kvs
abbrev kq (tk : α → Key) (ev : β → PyData) (p : α × β) : Key × PyData := (tk p.1, ev p.2)
variable [DecidableEq α] {ek : α → PyData} {tk : α → Key} {ev : β → PyData}
theorem putT_map (h : KeyOk ek tk) (kvs : List (α × β)) (k : α) (v : β) : putD (kvs.map (kq tk ev)) (tk k) (ev v) = (putT kvs k v).map (kq tk ev) := by
  have e : ∀ x : α, decide (tk x = tk k) = decide (x = k) := fun x => by
    by_cases z : x = k
    · simp [z]
    · rw [decide_eq_false z, decide_eq_false fun q => z (h.inj _ _ q)]
  unfold putD putT
  rw [List.any_map]
  have e2 : ((fun kv : Key × PyData => decide (kv.1 = tk k)) ∘ kq tk ev) = fun kv : α × β => decide (kv.1 = k) := funext fun kv => e kv.1
  rw [e2]
  split
  · rw [List.map_map, List.map_map]
    apply List.map_congr_left
    intro p _
    show (if tk p.1 = tk k then (tk p.1, ev v) else (tk p.1, ev p.2)) = kq tk ev (if p.1 = k then (p.1, v) else p)
    by_cases z : p.1 = k
    · rw [if_pos z, if_pos (congrArg tk z)]
    · rw [if_neg z, if_neg fun q => z (h.inj _ _ q)]
  · rw [List.map_append]; rfl
theorem mergeT_map (h : KeyOk ek tk) : ∀ (more kvs : List (α × β)), mergeD (kvs.map (kq tk ev)) (more.map (kq tk ev)) = (mergeT kvs more).map (kq tk ev)
  | [], _ => rfl
  | p :: r, kvs => by
    show mergeD (putD (kvs.map (kq tk ev)) (tk p.1) (ev p.2)) (r.map (kq tk ev)) = _
    rw [putT_map h, mergeT_map h r]; rfl
theorem kp_map (h : KeyOk ek tk) (xs : List (α × β)) : (xs.map (kq tk ev)).map kp = xs.map (eP ek ev) := by
  rw [List.map_map]
  apply List.map_congr_left
  intro p _
  exact Prod.ext (h.dat p.1) rfl
end
section
variable {α β γ : Type} {n m m1 : En}
abbrev vK (ek : α → PyData) (ev : β → PyData) (xs : List (α × β)) : Vl := .tmp (.odk (xs.map (eP ek ev)))
theorem o_dct [DecidableEq α] {ek : α → PyData} {tk : α → Key} {ev : β → PyData} {vals : List Vl} (h : KeyOk ek tk) (xs : List (α × β)) (hs : shareAll vals n = some (flatP (xs.map (eP ek ev)), m)) (hl : Nat.ble xs.length 15 = true) :
    OpE (kDct vals) n (.ok (mergeT [] xs)) (vK ek ev) m := fun Q E q => by
  refine ⟨_, _, hs, xs.map (kq tk ev), by rw [kp_map h], by rw [List.length_map]; rwa [Nat.ble_eq] at hl, ?_⟩
  have e := mergeT_map (ev := ev) h xs []
  rw [List.map_nil] at e
  rw [e, kp_map h]; exact q
theorem ty_dct0 (ek : α → PyData) (ev : β → PyData) {XT : En → Prop} : TyE XT dDct0 n (.ok []) (vK ek ev) n := fun ex Q q => q
theorem ty_shrK (ek : α → PyData) (ev : β → PyData) {XT : En → Prop} {te : DE} {f : R (List (α × β))} (h : TyE XT te n f (vK ek ev) m) : TyE XT (dShr te) n f (vH (eK ek ev)) m := fun ex Q q => h ex _ (q.imp (fun a z => ⟨_, _, rfl, z⟩) fun _ z => z)
theorem o_revL {v : Vl} (e : α → PyData) (xs : List α) (hd : dat n v = some (.list (xs.map e))) (hp : perm n v = true) : OpE (kRevS v) n (.ok xs.reverse) (vW e) n := fun Q E q => by
  unfold kRevS; rw [hd]; dsimp only; rw [← List.map_reverse]; exact ⟨hp, q⟩
end
section
variable {ρ α β γ ω : Type} {XT : En → Prop} {te ta ti : DE} {n m m1 m2 : En} {u : ω → List (Nat × Option Sl)} {w : ω}
theorem tw_sl {f : R (α × ω)} {φ : α → Vl} {tl th : DO} {fl fh : ω → R (Option Int)} {k : α → Option Int → Option Int → R γ} {ψ : γ → Vl} (ha : TyW XT ta n m u w f φ) (hl : ∀ w1, TyO XT tl (setS m (u w1)) (fl w1) (setS m (u w1))) (hh : ∀ w1, TyO XT th (setS m (u w1)) (fh w1) (setS m (u w1)))
    (op : ∀ a w1, OpS (setS m (u w1)) (φ a) (k a) ψ) : TyW XT (dSl ta tl th) n m u w (f.bind fun p => (fl p.2).bind fun lo => (fh p.2).bind fun hi => (k p.1 lo hi).bind fun c => .ok (c, p.2)) ψ := fun ex Q q =>
  ha ex _ ((R.sat_bind q).imp (fun p z => hl p.2 ex _ ((R.sat_bind z).imp (fun lo z => hh p.2 ex _ ((R.sat_bind z).imp (fun hi z => op p.1 p.2 lo hi Q _ (R.sat_bind z)) fun _ z => z)) fun _ z => z)) fun _ z => z)
variable {M : Mode ρ} {rest : DS} {j : Nat}
theorem ty_stoW {f : R (α × ω)} {φ : α → Vl} {fi : ω → R Int} {φi : Int → Vl} {e : β → PyData} {xs : List β} {r : List β × ω → M.X} (y : α → β) (hn : setS n (u w) = n) (h : TyW M.XT te n m1 u w f φ) (h1 : ∀ w1, (setS m1 (u w1))[j]? = some (some (.own (xs.map e))))
    (hi : ∀ w1, TyE M.XT ti (setS m1 (u w1)) (fi w1) φi (setS m1 (u w1))) (hd : ∀ i w1, dat (setS m1 (u w1)) (φi i) = some (.int i)) (hs : ∀ a w1, share (φ a) (setS m1 (u w1)) = some (e (y a), setS m1 (u w1)))
    (k : ∀ p : List β × ω, TyB M rest ((setS m1 (u p.2)).set j (some (.own (p.1.map e)))) (r p)) : TyB M (dSeq (dSto j te ti) rest) n (M.bnd (f.bind fun p => (fi p.2).bind fun i => (setR xs i (y p.1)).bind fun xs' => .ok (xs', p.2)) r) := fun ex D q => by
  have q := M.hb _ _ ex D q
  rw [← hn]
  refine h ex _ ((R.sat_bind q).imp (fun p z => ⟨⟨_, h1 p.2⟩, hi p.2 ex _ ((R.sat_bind z).imp (fun i z => ?_) fun _ z => z)⟩) fun _ z => z)
  have z := R.sat_bind z
  obtain ⟨xs', e1, z⟩ := opt_sat z
  cases hk : ixN xs.length i with
  | none => rw [hk] at e1; cases e1
  | some k' =>
    rw [hk] at e1
    cases e1
    refine ⟨_, k', i, _, _, hd i p.2, hs p.1 p.2, h1 p.2, by rw [List.length_map]; exact hk, ?_⟩
    have z := k (xs.set k' (y p.1), p.2) ex D z
    rw [← List.map_set]; exact z
theorem ty_env {t : DS} {r : M.X} (n' : En) (h : n = n') (d : TyB M t n' r) : TyB M t n r := h ▸ d
end
end L3

namespace L3
open PySem PySem.Spec PyProof.Rows L2
abbrev clsOf (ad : Str → Addr) (x : Str) : Value := .ref (ad x)
def excB (K : PySem.W.Frag) (D : Addr) : Bool :=
  He.eqO (PySem.W.findIn K (.ref D) "__getattribute__") (some (some (.builtin "BaseException.__getattribute__"))) &&
  (He.eqO (PySem.W.findIn K (.ref D) "__getattr__") (some none) &&
  (decide (PySem.W.subIn K (.ref D) (.type "BaseException") = some true) &&
  (PySem.W.hasDictIn K D &&
  (He.eqO (PySem.W.findIn K (.ref D) "__class__") (some (some (.builtin "object.__class__"))) &&
  (He.eqO (PySem.W.specialIn K (.builtin "object.__class__") "__get__") (some (some (.builtin "getset_descriptor.__get__"))) &&
  (decide (PySem.W.takesIn K (.builtin "object.__class__") = some true) &&
  decide (PySem.W.mroIn K D (.type "object") = some true)))))))
theorem excB_ok {K : PySem.W.Frag} {D : Addr} (h : excB K D = true) : ExcC K D := by
  obtain ⟨h1, h⟩ := He.ba h
  obtain ⟨h2, h⟩ := He.ba h
  obtain ⟨h3, h⟩ := He.ba h
  obtain ⟨h4, h⟩ := He.ba h
  obtain ⟨h5, h⟩ := He.ba h
  obtain ⟨h6, h⟩ := He.ba h
  obtain ⟨h7, h8⟩ := He.ba h
  exact ⟨He.eqO_ok h1, He.eqO_ok h2, of_decide_eq_true h3, h4, He.eqO_ok h5, He.eqO_ok h6, of_decide_eq_true h7, of_decide_eq_true h8⟩
def kitB (K : PySem.W.Frag) (D : Addr) (c : Value) (b : Bool) : Bool := decide (PySem.W.kitOne K (.ref D) c = some b)
/-- of the raised classes: isinstance of each with each -/
def errB (rs kn : List Str) (kb : Str → Str → Bool) (K : PySem.W.Frag) : Bool := rs.all fun c => excB K (He.ga K c) && ((kn.all fun x => kitB K (He.ga K c) (.ref (He.ga K x)) (kb c x)) && kitB K (He.ga K c) (.type "ValueError") true)
theorem errB_ok {rs kn : List Str} {kb : Str → Str → Bool} {K : PySem.W.Frag} (h : errB rs kn kb K = true) : ∀ c ∈ rs, ExcC K (He.ga K c) ∧ (∀ x ∈ kn, PySem.W.kitOne K (.ref (He.ga K c)) (.ref (He.ga K x)) = some (kb c x)) ∧ PySem.W.kitOne K (.ref (He.ga K c)) (.type "ValueError") = some true := fun c hc => by
  obtain ⟨h1, h2⟩ := He.ba (List.all_eq_true.mp h c hc)
  obtain ⟨h2, h3⟩ := He.ba h2
  exact ⟨excB_ok h1, fun x hx => of_decide_eq_true (List.all_eq_true.mp h2 x hx), of_decide_eq_true h3⟩
abbrev AlX : Type := Bool × He.AlD
def obsX (n : Nat) (bx : PySem.W.Frag → Bool) (fa : List He.Fa) (fn : List He.DefD) (g : Addr → Option Obj) : AlX := (bx (He.frG g (He.asD g n)), He.obsD fa fn (He.frG g (He.asD g n)))
def hookX (n : Nat) (bx : PySem.W.Frag → Bool) (fa : List He.Fa) (fn : List He.DefD) : PySem.W.Hook :=
  ⟨AlX, fun s => obsX n bx fa fn s.heap.get?, fun _ => (true, He.valD fn), fun _ h => ∃ K : PySem.W.Frag, K.In h ∧ bx K = true ∧ He.SaysD fa fn K, fun _ _ e => ⟨_, He.frG_in, congrArg (fun z : AlX => z.1) e, congrArg (fun z : AlX => z.2) e⟩,
    fun _ _ _ ⟨K, hK, b, c⟩ k => ⟨K, PySem.W.Frag.In.keeps hK k, b, c⟩⟩
theorem obsX_eq {n : Nat} {bx : PySem.W.Frag → Bool} {fa : List He.Fa} {fn : List He.DefD} {g : Addr → Option Obj} {s : Shared} (h : ∀ a, g a = s.heap.get? a) : obsX n bx fa fn g = (hookX n bx fa fn).obs s := by
  obtain rfl : g = s.heap.get? := funext h
  exact rfl
theorem ecls_of {K : PySem.W.Frag} {mg : Str → Option Value} {x : Str} (g : mg x = some (.ref (He.ga K x))) (c : (He.Fa.exc x).ok K = true) : ECls K mg x (He.ga K x) := by
  obtain ⟨h1, h2, h3, h4⟩ := He.exc_ok c
  exact ⟨g, h1, h2, h3, h4⟩
theorem sp_topC {K : PySem.W.Frag} {cls : Str → Value} {sp : DSp} {H : Hp} {a : Addr} {ns : List Int} (hS : SqL K H a (ns.map V.int)) (h : ∀ Q E, Q (.sh (.bool true)) [] → sp [.scr ns] Q E) :
    liftSp K cls [] sp [.ref a] H (fun v _ => v = .bl true) fun _ _ _ => False := by
  refine ⟨fun _ => none, [], [.scr ns], ⟨fun _ _ e => (by cases e), hid_same H [], ⟨[], [], rfl, ⟨a, rfl, rfl, sqTop hS⟩, rfl⟩, by simp, fun b hb => (by cases hb), fun k hk => (by cases hk)⟩, h _ _ fun v HP' H' as' ts' _ q => ?_⟩
  obtain ⟨q, _⟩ := q
  cases q
  rfl
theorem takesN {X : Cx} : L2N.Takes X (fun _ _ _ _ => False) := fun _ _ z => by
  obtain ⟨_, _, _, _, _, _, _, _, _, _, _, _, _, _, _, _, w⟩ := z
  exact False.elim w
end L3

namespace L3
open PySem L2
section
variable {α β γ ρ κ ι : Type}
def R.yes (f : R α) (P : α → Prop) : Prop := f.sat P fun _ => False
def SR.yes (f : SR ρ κ) (N : κ → Prop) (P : ρ → Prop) : Prop := match f with
  | .nx s => N s
  | .rt p => P p
  | _ => False
theorem R.yes_ok {a : α} {P : α → Prop} (h : P a) : (R.ok a).yes P := h
theorem R.yes_bind {f : R α} {k : α → R β} {P : β → Prop} (h : f.yes fun a => (k a).yes P) : (f.bind k).yes P := by cases f <;> exact h
theorem R.yes.imp {f : R α} {P Q : α → Prop} (h : f.yes P) (k : ∀ a, P a → Q a) : f.yes Q := by cases f with | ok a => exact k a h | err e => exact h | bad => exact h
theorem R.yes_noE {f : R α} {P : α → Prop} (h : f.yes P) : f.noE.yes P := by cases f <;> exact h
theorem R.yes_chk {c : Prop} {a : α} {P : α → Prop} (hc : c) (h : P a) : (chk c a).yes P := by rw [chk_ok hc]; exact h
theorem R.yes_opt {o : Option α} {a : α} {P : α → Prop} (ho : o = some a) (h : P a) : (opt o).yes P := by rw [ho, opt_some]; exact h
theorem R.yes_if {c : Bool} {f g : R α} {P : α → Prop} (h1 : c = true → f.yes P) (h2 : c = false → g.yes P) : (if c = true then f else g).yes P := by
  cases c with
  | true => exact h1 rfl
  | false => exact h2 rfl
theorem R.eq_of_yes {f : R α} {b : α} (h : f.yes fun a => a = b) : f = .ok b := by cases f with | ok a => exact congrArg R.ok h | err e => exact h.elim | bad => exact h.elim
theorem R.yes_eq {f : R α} {b : α} {P : α → Prop} (e : f = .ok b) (h : P b) : f.yes P := by rw [e]; exact h
theorem R.yes_bindSR {f : R α} {k : α → SR ρ κ} {N : κ → Prop} {P : ρ → Prop} (h : f.yes fun a => (k a).yes N P) : (f.bindSR k).yes N P := by cases f <;> exact h
theorem SR.yes_nx {s : κ} {N : κ → Prop} {P : ρ → Prop} (h : N s) : (SR.nx s : SR ρ κ).yes N P := h
theorem SR.yes_rt {p : ρ} {N : κ → Prop} {P : ρ → Prop} (h : P p) : (SR.rt p : SR ρ κ).yes N P := h
theorem SR.yes_if {c : Bool} {f g : SR ρ κ} {N : κ → Prop} {P : ρ → Prop} (h1 : c = true → f.yes N P) (h2 : c = false → g.yes N P) : (if c = true then f else g).yes N P := by
  cases c with
  | true => exact h1 rfl
  | false => exact h2 rfl
theorem SR.yes_bindT {f : SR ρ κ} {k : κ → R ρ} {P : ρ → Prop} (h : f.yes (fun s => (k s).yes P) P) : (f.bindT k).yes P := by cases f <;> exact h
theorem SR.yes_bindS {κ' : Type} {f : SR ρ κ} {k : κ → SR ρ κ'} {N : κ' → Prop} {P : ρ → Prop} (h : f.yes (fun s => (k s).yes N P) P) : (f.bindS k).yes N P := by cases f <;> exact h
theorem SR.yes.imp {f : SR ρ κ} {N N' : κ → Prop} {P P' : ρ → Prop} (h : f.yes N P) (k : ∀ s, N s → N' s) (l : ∀ p, P p → P' p) : f.yes N' P' := by
  cases f with
  | nx s => exact k s h
  | rt p => exact l p h
  | _ => exact h
theorem forL_yes {b : ι → κ → SR ρ κ} {P : ρ → Prop} (I : Nat → κ → Prop) : ∀ (xs : List ι) (i : Nat) (s : κ), (∀ j x s, xs[j]? = some x → I (i + j) s → (b x s).yes (I (i + j + 1)) P) → I i s → (forL b xs s).yes (I (i + xs.length)) P
  | [], i, s, _, h => h
  | x :: xs, i, s, hs, h => by
    have h1 := hs 0 x s rfl h
    unfold forL
    cases hb : b x s with
    | nx s' =>
      rw [hb] at h1
      have := forL_yes I xs (i + 1) s' (fun j y t hy ht => by
        have e : i + 1 + j = i + (j + 1) := by omega
        rw [e] at ht ⊢
        exact hs (j + 1) y t (by simpa using hy) ht) h1
      have e : i + 1 + xs.length = i + (x :: xs).length := by rw [List.length_cons]; omega
      rw [e] at this
      exact this
    | rt p => rw [hb] at h1; exact h1
    | ct s' => rw [hb] at h1; exact h1.elim
    | bk s' => rw [hb] at h1; exact h1.elim
    | err e => rw [hb] at h1; exact h1.elim
    | bad => rw [hb] at h1; exact h1.elim
/-- an invariant that does not count -/
theorem forL_inv {b : ι → κ → SR ρ κ} {P : ρ → Prop} (I : κ → Prop) {xs : List ι} {s : κ} (h : I s) (hs : ∀ x s, x ∈ xs → I s → (b x s).yes I P) : (forL b xs s).yes I P :=
  forL_yes (fun _ => I) xs 0 s (fun j x s hx hi => hs x s (List.mem_of_getElem? hx) hi) h
theorem foldR_yes {b : ι → κ → R κ} (I : Nat → κ → Prop) : ∀ (xs : List ι) (i : Nat) (s : κ), (∀ j x s, xs[j]? = some x → I (i + j) s → (b x s).yes (I (i + j + 1))) → I i s → (foldR b xs s).yes (I (i + xs.length))
  | [], i, s, _, h => h
  | x :: xs, i, s, hs, h => by
    have h1 := hs 0 x s rfl h
    unfold foldR
    refine R.yes_bind (h1.imp fun s' h2 => ?_)
    have := foldR_yes I xs (i + 1) s' (fun j y t hy ht => by
      have e : i + 1 + j = i + (j + 1) := by omega
      rw [e] at ht ⊢
      exact hs (j + 1) y t (by simpa using hy) ht) h2
    have e : i + 1 + xs.length = i + (x :: xs).length := by rw [List.length_cons]; omega
    rw [e] at this
    exact this
theorem foldR_inv {b : ι → κ → R κ} (I : κ → Prop) {xs : List ι} {s : κ} (h : I s) (hs : ∀ x s, x ∈ xs → I s → (b x s).yes I) : (foldR b xs s).yes I :=
  foldR_yes (fun _ => I) xs 0 s (fun j x s hx hi => hs x s (List.mem_of_getElem? hx) hi) h
theorem lcR_map {g : ι → R β} {G : ι → β} : ∀ {xs : List ι}, (∀ x ∈ xs, g x = .ok (G x)) → lcR (fun _ => .ok true) g xs = .ok (xs.map G)
  | [], _ => rfl
  | x :: xs, h => by
    unfold lcR
    rw [h x List.mem_cons_self]
    dsimp only
    rw [lcR_map fun y hy => h y (List.mem_cons_of_mem _ hy)]
    rfl
theorem lcR_filter {c : ι → R Bool} {C : ι → Bool} {g : ι → R β} {G : ι → β} : ∀ {xs : List ι}, (∀ x ∈ xs, c x = .ok (C x)) → (∀ x ∈ xs, C x = true → g x = .ok (G x)) → lcR c g xs = .ok ((xs.filter C).map G)
  | [], _, _ => rfl
  | x :: xs, hc, h => by
    have ih := lcR_filter (c := c) (g := g) (C := C) (G := G) (xs := xs) (fun y hy => hc y (List.mem_cons_of_mem _ hy)) fun y hy => h y (List.mem_cons_of_mem _ hy)
    unfold lcR
    rw [hc x List.mem_cons_self]
    cases e : C x with
    | true =>
      dsimp only
      rw [h x List.mem_cons_self e, ih, List.filter_cons_of_pos e]
      rfl
    | false =>
      dsimp only
      rw [ih, List.filter_cons_of_neg (by rw [e]; exact Bool.false_ne_true)]
theorem line_of {n : Nat} (h : n ≤ 16777216) : n ≤ sizeLine := by rw [PySem.sizeLine_eq]; exact h
theorem rngR_ok {lo hi : Int} (h1 : -1000000 ≤ lo) (h2 : lo ≤ 1000000) (h3 : -1000000 ≤ hi) (h4 : hi ≤ 1000000) : rngR lo hi = .ok (rangeI lo hi) := by
  unfold rngR
  exact chk_ok ⟨⟨by omega, by omega⟩, ⟨by omega, by omega⟩⟩
theorem rangeI_mem {lo hi x : Int} : x ∈ rangeI lo hi ↔ lo ≤ x ∧ x < hi := by
  unfold rangeI
  simp only [List.mem_map, List.mem_range]
  constructor
  · rintro ⟨i, hi, rfl⟩; omega
  · intro h; exact ⟨(x - lo).toNat, by omega, by omega⟩
theorem forL_find {b : ι → Unit → SR ρ Unit} {C : ι → Bool} {F : ι → ρ} : ∀ {xs : List ι}, (∀ x ∈ xs, b x () = if C x = true then .rt (F x) else .nx ()) → forL b xs () = match xs.find? C with
    | some x => .rt (F x)
    | none => .nx ()
  | [], _ => rfl
  | x :: xs, h => by
    have h1 := h x List.mem_cons_self
    have ih := forL_find (b := b) (C := C) (F := F) (xs := xs) fun y hy => h y (List.mem_cons_of_mem _ hy)
    unfold forL
    rw [h1]
    cases e : C x with
    | true => rw [List.find?_cons_of_pos e]; rfl
    | false =>
      rw [List.find?_cons_of_neg (by rw [e]; exact Bool.false_ne_true)]
      exact ih
theorem find_any {C : ι → Bool} {xs : List ι} {p : ρ} : (match xs.find? C with
    | some _ => (.rt p : SR ρ Unit)
    | none => .nx ()) = if xs.any C = true then .rt p else .nx () := by
  cases h : xs.find? C with
  | none =>
    have : xs.any C = false := by
      rw [List.find?_eq_none] at h
      rw [Bool.eq_false_iff]
      intro z
      obtain ⟨x, hx, hc⟩ := List.any_eq_true.mp z
      exact h x hx hc
    rw [this]; rfl
  | some x =>
    have : xs.any C = true := List.any_eq_true.mpr ⟨x, List.mem_of_find?_eq_some h, List.find?_some h⟩
    rw [this]; rfl
theorem forL_any {b : ι → Unit → SR ρ Unit} {C : ι → Bool} {p : ρ} {xs : List ι} (h : ∀ x ∈ xs, b x () = if C x = true then .rt p else .nx ()) : forL b xs () = if xs.any C = true then .rt p else .nx () :=
  (forL_find (F := fun _ => p) h).trans find_any
theorem atR_get {α : Type} {xs : List α} {k : Int} {x : α} (h0 : 0 ≤ k) (h : xs[k.toNat]? = some x) : atR xs k = .ok x := by
  have hl := (List.getElem?_eq_some_iff.mp h).1
  unfold atR atI ixN
  rw [if_pos h0, if_pos (by omega)]
  show opt (xs[k.toNat]?) = _
  rw [h, opt_some]
end
end L3

namespace T
open PySem L2 L3
def rs : List PySem.Str := ["InvalidText", "InvalidLog"]
def kbl (cl x : PySem.Str) : Bool := decide (cl = x) || decide (x = "BacklinkError")
def kf (cl : PySem.Str) : Option (List PySem.Str) := if cl ∈ rs then some [cl] else none
def mt_BacklinkError (cl : PySem.Str) : Option Bool := if cl ∈ rs then some (kbl cl "BacklinkError") else none
def ms_is_integer : List Md := [.ro, .ro, .ro]
noncomputable def f_is_integer (value : PyData) (low : Int) (high : Int) : R Bool := (if (isiD (eD value) "int") = true then (if (!(isiD (eD value) "bool")) = true then (asI value).bind fun a1 => (if pLe low a1 = true then .ok (pLe a1 high) else .ok false) else .ok false) else .ok false)
def sp_is_integer : DSp := spT (fun a : PyData × Int × Int => [.bor (eD a.1), .bor (PyData.int a.2.1), .bor (PyData.int a.2.2)]) (fun r : Bool => .sh (PyData.bool r)) fun a => f_is_integer a.1 a.2.1 a.2.2
theorem mono_is_integer : MonoSp sp_is_integer := spT_mono
theorem len_is_integer : ∀ ss Q E, sp_is_integer ss Q E → ss.length = 3 := spT_len fun _ => rfl
def t_is_integer : DS := (dSeq (dRet (vAnd (dIsi (dVar 0) "int") (vAnd (vNot (dIsi (dVar 0) "bool")) (dChain pLe pLe (dVar 1) (dVar 0) (dVar 2))))) dNext)
theorem T_is_integer (value : PyData) (low : Int) (high : Int) : TyB (mT (rt0 (fun r : Bool => .sh (PyData.bool r))) xt0) t_is_integer [some (.bor (eD value)), some (.bor (PyData.int low)), some (.bor (PyData.int high))] (f_is_integer value low high) := by
  have h : TyB (mT (rt0 (fun r : Bool => .sh (PyData.bool r))) xt0) t_is_integer [some (.bor (eD value)), some (.bor (PyData.int low)), some (.bor (PyData.int high))] _ :=
    (ty_retT (ty_vand (ty_d1 (ty_vb eD value rfl) (fun _ => o_isi rfl)) (fun _ => rfl) (ty_vand (ty_vnot (ty_d1 (ty_vb eD value rfl) (fun _ => o_isi rfl)) (fun _ => rfl)) (fun _ => rfl) (ty_chain (ty_vb PyData.int low rfl) (ty_asIb (ty_vb eD value rfl)) (ty_vb PyData.int high rfl) (fun _ => rfl) (fun _ => rfl) (fun _ => rfl)))) (fun _ => rfl) (fun _ => rfl))
  exact h
theorem pure_is_integer : ∀ ss Q E, sp_is_integer ss Q E → t_is_integer (excK [] E) (ss.map some ++ List.replicate (3 - 3) none) ⟨fun n => retK [] Q (.sh .none) n, retK [] Q, fun _ => False, fun _ => False⟩ := pureT fun a => T_is_integer a.1 a.2.1 a.2.2

def ms_have_form : List Md := [.ro]
noncomputable def f_have_form (value : PyData) : R Bool := ((if (!(isiD (eD value) "list")) = true then .ok true else ((lenD value).bind fun a1 => (if pLe (1 : Int) a1 = true then .ok (pLe a1 (150 : Int)) else .ok false)).bind fun a2 => .ok (!a2))).bind fun c3 => (if c3 = true then .ok false else (((((asL value).bind fun a5 => .ok (a5, ())).bind fun p7 => .ok (enumI p7.1)).bind fun l11 => (chk (List.length l11 ≤ sizeLine) l11).bind fun l10 => lcR (fun _ => .ok true) (fun x8 : Int × PyData => (f_is_integer x8.2 (0 : Int) (max (0 : Int) (x8.1 - (1 : Int)))).noE) l10).bind fun a12 => .ok (a12, ())).bind fun p13 => .ok (List.all p13.1 id))
def sp_have_form : DSp := spT (fun a : PyData => [.bor (eD a)]) (fun r : Bool => .sh (PyData.bool r)) fun a => f_have_form a
theorem mono_have_form : MonoSp sp_have_form := spT_mono
theorem len_have_form : ∀ ss Q E, sp_have_form ss Q E → ss.length = 1 := spT_len fun _ => rfl
def t_have_form : DS := (dSeq (dIfS (dOr (dNot (tst (dIsi (dVar 0) "list"))) (dNot (tst (dChain pLe pLe (dC (.int 1)) (dN (daCons (dVar 0) daNil) kLen) (dC (.int 150)))))) (dSeq (dRet (dC (.bool false))) dNext) dNext) (dSeq (dRet (dN (daCons (dLc [1, 2] [1, 2] (iEnm (daCons (dVar 0) daNil) 1 2) dYes (dCall ms_is_integer [] sp_is_integer (daCons (dVar 2) (daCons (dC (.int 0)) (daCons (dN (daCons (dC (.int 0)) (daCons (dSub (dVar 1) (dC (.int 1))) daNil)) (kF2 fMax2)) daNil))))) daNil) (kF1 fAll))) dNext))
theorem T_have_form (value : PyData) : TyB (mT (rt0 (fun r : Bool => .sh (PyData.bool r))) xt0) t_have_form [some (.bor (eD value)), none, none] (f_have_form value) := by
  have h : TyB (mT (rt0 (fun r : Bool => .sh (PyData.bool r))) xt0) t_have_form [some (.bor (eD value)), none, none] _ :=
    (ty_sifD (ty_or (ty_not (ty_tst (ty_d1 (ty_vb eD value rfl) (fun _ => o_isi rfl)) (fun _ => rfl))) (ty_not (ty_tst (ty_chain ty_cI (ty_dN (ta_cons (ty_vb eD value rfl) ta_nil) (fun _ => o_lenD rfl)) ty_cI (fun _ => rfl) (fun _ => rfl) (fun _ => rfl)) (fun _ => rfl)))) (ty_assoc (ty_retT ty_cB (fun _ => rfl) (fun _ => rfl))) (ty_nx (ty_retT (ty_dN (ta_cons (ty_lcMR PyData.bool [some (.bor (eD value)), none, none] (ti_enum eD (fun p6 => p6.1) (ta_cons (ty_asLb (ty_vb eD value rfl)) ta_nil) (fun _ => rfl) (fun _ => rfl)) rfl rfl (fun x8 => (ty_callN (l := [none, none, none]) (sp := sp_is_integer) rfl (fun p9 : PyData × Int × Int × Unit => (p9.1, p9.2.1, p9.2.2.1)) (ta_cons (ty_vb eD x8.2 rfl) (ta_cons ty_cI (ta_cons (ty_dN (ta_cons ty_cI (ta_cons (ty_d2 (ty_v PyData.int x8.1 rfl) ty_cI (fun _ _ => o_sub rfl rfl)) ta_nil)) (fun _ => o_max2 rfl rfl)) ta_nil))) (fun _ => ⟨rfl, rfl⟩) (fun _ => rfl))) (fun _ _ => rfl) (fun _ => rfl) (fun _ => rfl)) ta_nil) (fun _ => o_all rfl)) (fun _ => rfl) (fun _ => rfl))))
  exact h
theorem pure_have_form : ∀ ss Q E, sp_have_form ss Q E → t_have_form (excK [] E) (ss.map some ++ List.replicate (3 - 1) none) ⟨fun n => retK [] Q (.sh .none) n, retK [] Q, fun _ => False, fun _ => False⟩ := pureT fun a => T_have_form a

def ms_least_crossing : List Md := [.ro]
noncomputable def f_least_crossing (links : (List Int)) : R (Option (Int × Int)) := (forL (fun (x3 : Int × Int) (s2 : Unit) => (rngR (x3.1 + (1 : Int)) (List.length links : Int)).bindSR fun l12 => (forL (fun (x5 : Int) (s4 : Unit) => ((atR links x5).bind fun a7 => (if pLt x3.2 a7 = true then .ok (pLt a7 x3.1) else .ok false)).bindSR fun c8 => (if c8 = true then (let a10 := (some (x3.1, x5)); .rt a10) else .nx ())) l12 ()).bindS fun s11 => .nx ()) (enumI links) ()).bindT fun s13 => .ok none
def sp_least_crossing : DSp := spT (fun a : (List Int) => [.bor ((eL PyData.int) a)]) (fun r : (Option (Int × Int)) => .sh ((eO (eT2 PyData.int PyData.int)) r)) fun a => f_least_crossing a
theorem mono_least_crossing : MonoSp sp_least_crossing := spT_mono
theorem len_least_crossing : ∀ ss Q E, sp_least_crossing ss Q E → ss.length = 1 := spT_len fun _ => rfl
def t_least_crossing : DS := (dSeq (dPre [] (dFor [1, 2] (iEnm (daCons (dVar 0) daNil) 1 2) (dPost [.no 1, .no 2, .no 3] (dSeq (dPre [] (dFor [3] (iRng rng2 (daCons (dAdd (dVar 1) (dC (.int 1))) (daCons (dN (daCons (dVar 0) daNil) kLen) daNil)) 3) (dPost [.no 3] (dSeq (dIfS (tst (dChain pLt pLt (dVar 2) (dIx (dVar 0) (dVar 3)) (dVar 1))) (dSeq (dRet (dTup (daCons (dVar 1) (daCons (dVar 3) daNil)))) dNext) dNext) dNext)))) dNext)))) (dSeq (dRet (dC .none)) dNext))
theorem T_least_crossing (links : (List Int)) : TyB (mT (rt0 (fun r : (Option (Int × Int)) => .sh ((eO (eT2 PyData.int PyData.int)) r))) xt0) t_least_crossing [some (.bor ((eL PyData.int) links)), none, none, none] (f_least_crossing links) := by
  have h : TyB (mT (rt0 (fun r : (Option (Int × Int)) => .sh ((eO (eT2 PyData.int PyData.int)) r))) xt0) t_least_crossing [some (.bor ((eL PyData.int) links)), none, none, none] _ :=
    (ty_env [some (.bor ((eL PyData.int) links)), none, none, none] rfl (ty_for (fun _ : Unit => [(1, none), (2, none), (3, none)]) () rfl (ti_enum PyData.int (fun p1 => p1.1) (ta_cons (ty_vb (eL PyData.int) links rfl) ta_nil) (fun _ => rfl) (fun _ => rfl)) rfl rfl (fun x3 s2 => (ty_env [some (.bor ((eL PyData.int) links)), some (.sh (PyData.int x3.1)), some (.bor (PyData.int x3.2)), none] rfl (ty_for (fun _ : Unit => [(3, none)]) () rfl (ti_rng2 (ta_cons (ty_d2 (ty_v PyData.int x3.1 rfl) ty_cI (fun _ _ => o_addI rfl rfl)) (ta_cons (ty_dN (ta_cons (ty_vb (eL PyData.int) links rfl) ta_nil) (fun _ => o_lenL (e := PyData.int) rfl)) ta_nil)) (fun _ => rfl)) rfl rfl (fun x5 s4 => (ty_env [some (.bor ((eL PyData.int) links)), some (.sh (PyData.int x3.1)), some (.bor (PyData.int x3.2)), some (.sh (PyData.int x5))] rfl (ty_sifD (ty_tst (ty_chain (ty_vb PyData.int x3.2 rfl) (ty_d2 (ty_vb (eL PyData.int) links rfl) (ty_v PyData.int x5 rfl) (fun v6 _ => o_ix_bor PyData.int v6 rfl rfl)) (ty_v PyData.int x3.1 rfl) (fun _ => rfl) (fun _ => rfl) (fun _ => rfl)) (fun _ => rfl)) (ty_env [some (.bor ((eL PyData.int) links)), some (.sh (PyData.int x3.1)), some (.bor (PyData.int x3.2)), some (.sh (PyData.int x5))] rfl (ty_assoc (ty_ret (fun a10 => a10) (ty_to (some (x3.1, x5)) (vH (eO (eT2 PyData.int PyData.int))) (ty_dN (ta_cons (ty_v PyData.int x3.1 rfl) (ta_cons (ty_v PyData.int x5 rfl) ta_nil)) (fun p9 => o_tup2 PyData.int PyData.int p9.1 p9.2.1 rfl)) rfl) (fun _ => rfl) (fun _ => rfl)))) (ty_nx (ty_endS () rfl))))) (fun s11 => (ty_endS () rfl))))) (fun s13 => (ty_env [some (.bor ((eL PyData.int) links)), none, none, none] rfl (ty_retT (ty_to none (vH (eO (eT2 PyData.int PyData.int))) ty_cN rfl) (fun _ => rfl) (fun _ => rfl))))))
  exact h
theorem pure_least_crossing : ∀ ss Q E, sp_least_crossing ss Q E → t_least_crossing (excK [] E) (ss.map some ++ List.replicate (4 - 1) none) ⟨fun n => retK [] Q (.sh .none) n, retK [] Q, fun _ => False, fun _ => False⟩ := pureT fun a => T_least_crossing a

noncomputable def f_least_crossingD (links : PyData) : R (Option (Int × Int)) := (((asL links).bind fun a1 => .ok (a1, ())).bind fun p3 => .ok (enumI p3.1)).bind fun l21 => (forL (fun (x5 : Int × PyData) (s4 : Unit) => ((((lenD links).bind fun a6 => .ok (a6, ())).bind fun r7 => .ok ((x5.1 + (1 : Int)), r7)).bind fun p8 => rngR p8.1 p8.2.1).bindSR fun l18 => (forL (fun (x10 : Int) (s9 : Unit) => ((asI x5.2).bind fun a12 => ((ixD links x10).bind asI).bind fun a13 => (if pLt a12 a13 = true then .ok (pLt a13 x5.1) else .ok false)).bindSR fun c14 => (if c14 = true then (let a16 := (some (x5.1, x10)); .rt a16) else .nx ())) l18 ()).bindS fun s17 => .nx ()) l21 ()).bindT fun s19 => .ok none
def sp_least_crossingD : DSp := spT (fun a : PyData => [.bor (eD a)]) (fun r : (Option (Int × Int)) => .sh ((eO (eT2 PyData.int PyData.int)) r)) fun a => f_least_crossingD a
theorem mono_least_crossingD : MonoSp sp_least_crossingD := spT_mono
theorem len_least_crossingD : ∀ ss Q E, sp_least_crossingD ss Q E → ss.length = 1 := spT_len fun _ => rfl
def t_least_crossingD : DS := (dSeq (dPre [] (dFor [1, 2] (iEnm (daCons (dVar 0) daNil) 1 2) (dPost [.no 1, .no 2, .no 3] (dSeq (dPre [] (dFor [3] (iRng rng2 (daCons (dAdd (dVar 1) (dC (.int 1))) (daCons (dN (daCons (dVar 0) daNil) kLen) daNil)) 3) (dPost [.no 3] (dSeq (dIfS (tst (dChain pLt pLt (dVar 2) (dIx (dVar 0) (dVar 3)) (dVar 1))) (dSeq (dRet (dTup (daCons (dVar 1) (daCons (dVar 3) daNil)))) dNext) dNext) dNext)))) dNext)))) (dSeq (dRet (dC .none)) dNext))
theorem T_least_crossingD (links : PyData) : TyB (mT (rt0 (fun r : (Option (Int × Int)) => .sh ((eO (eT2 PyData.int PyData.int)) r))) xt0) t_least_crossingD [some (.bor (eD links)), none, none, none] (f_least_crossingD links) := by
  have h : TyB (mT (rt0 (fun r : (Option (Int × Int)) => .sh ((eO (eT2 PyData.int PyData.int)) r))) xt0) t_least_crossingD [some (.bor (eD links)), none, none, none] _ :=
    (ty_env [some (.bor (eD links)), none, none, none] rfl (ty_for (fun _ : Unit => [(1, none), (2, none), (3, none)]) () rfl (ti_enum eD (fun p2 => p2.1) (ta_cons (ty_asLb (ty_vb eD links rfl)) ta_nil) (fun _ => rfl) (fun _ => rfl)) rfl rfl (fun x5 s4 => (ty_env [some (.bor (eD links)), some (.sh (PyData.int x5.1)), some (.bor (eD x5.2)), none] rfl (ty_for (fun _ : Unit => [(3, none)]) () rfl (ti_rng2 (ta_cons (ty_d2 (ty_v PyData.int x5.1 rfl) ty_cI (fun _ _ => o_addI rfl rfl)) (ta_cons (ty_dN (ta_cons (ty_vb eD links rfl) ta_nil) (fun _ => o_lenD rfl)) ta_nil)) (fun _ => rfl)) rfl rfl (fun x10 s9 => (ty_env [some (.bor (eD links)), some (.sh (PyData.int x5.1)), some (.bor (eD x5.2)), some (.sh (PyData.int x10))] rfl (ty_sifD (ty_tst (ty_chain (ty_asIb (ty_vb eD x5.2 rfl)) (ty_asIb (ty_d2 (ty_vb eD links rfl) (ty_v PyData.int x10 rfl) (fun v11 _ => o_ixD_bor rfl rfl))) (ty_v PyData.int x5.1 rfl) (fun _ => rfl) (fun _ => rfl) (fun _ => rfl)) (fun _ => rfl)) (ty_env [some (.bor (eD links)), some (.sh (PyData.int x5.1)), some (.bor (eD x5.2)), some (.sh (PyData.int x10))] rfl (ty_assoc (ty_ret (fun a16 => a16) (ty_to (some (x5.1, x10)) (vH (eO (eT2 PyData.int PyData.int))) (ty_dN (ta_cons (ty_v PyData.int x5.1 rfl) (ta_cons (ty_v PyData.int x10 rfl) ta_nil)) (fun p15 => o_tup2 PyData.int PyData.int p15.1 p15.2.1 rfl)) rfl) (fun _ => rfl) (fun _ => rfl)))) (ty_nx (ty_endS () rfl))))) (fun s17 => (ty_endS () rfl))))) (fun s19 => (ty_env [some (.bor (eD links)), none, none, none] rfl (ty_retT (ty_to none (vH (eO (eT2 PyData.int PyData.int))) ty_cN rfl) (fun _ => rfl) (fun _ => rfl))))))
  exact h
theorem pure_least_crossingD : ∀ ss Q E, sp_least_crossingD ss Q E → t_least_crossingD (excK [] E) (ss.map some ++ List.replicate (4 - 1) none) ⟨fun n => retK [] Q (.sh .none) n, retK [] Q, fun _ => False, fun _ => False⟩ := pureT fun a => T_least_crossingD a

def ms_is_log : List Md := [.ro]
noncomputable def f_is_log (value : (List Int)) : R Bool := ((f_have_form ((eL PyData.int) value)).noE).bind fun a4 => (if a4 = true then ((f_least_crossing value).noE).bind fun a3 => .ok (isNoneD ((eO (eT2 PyData.int PyData.int)) a3)) else .ok false)
def sp_is_log : DSp := spT (fun a : (List Int) => [.bor ((eL PyData.int) a)]) (fun r : Bool => .sh (PyData.bool r)) fun a => f_is_log a
theorem mono_is_log : MonoSp sp_is_log := spT_mono
theorem len_is_log : ∀ ss Q E, sp_is_log ss Q E → ss.length = 1 := spT_len fun _ => rfl
def t_is_log : DS := (dSeq (dRet (vAnd (dCall ms_have_form [] sp_have_form (daCons (dVar 0) daNil)) (dIs (dCall ms_least_crossing [] sp_least_crossing (daCons (dVar 0) daNil)) (dC .none)))) dNext)
theorem T_is_log (value : (List Int)) : TyB (mT (rt0 (fun r : Bool => .sh (PyData.bool r))) xt0) t_is_log [some (.bor ((eL PyData.int) value))] (f_is_log value) := by
  have h : TyB (mT (rt0 (fun r : Bool => .sh (PyData.bool r))) xt0) t_is_log [some (.bor ((eL PyData.int) value))] _ :=
    (ty_retT (ty_vand (ty_callN (l := [none]) (sp := sp_have_form) rfl (fun p1 : (List Int) × Unit => ((eL PyData.int) p1.1)) (ta_cons (ty_vb (eL PyData.int) value rfl) ta_nil) (fun _ => ⟨rfl, rfl⟩) (fun _ => rfl)) (fun _ => rfl) (ty_d2 (ty_callN (l := [none]) (sp := sp_least_crossing) rfl (fun p2 : (List Int) × Unit => p2.1) (ta_cons (ty_vb (eL PyData.int) value rfl) ta_nil) (fun _ => ⟨rfl, rfl⟩) (fun _ => rfl)) ty_cN (fun _ _ => o_isN rfl rfl))) (fun _ => rfl) (fun _ => rfl))
  exact h
theorem pure_is_log : ∀ ss Q E, sp_is_log ss Q E → t_is_log (excK [] E) (ss.map some ++ List.replicate (1 - 1) none) ⟨fun n => retK [] Q (.sh .none) n, retK [] Q, fun _ => False, fun _ => False⟩ := pureT fun a => T_is_log a

noncomputable def f_is_logD (value : PyData) : R Bool := ((f_have_form value).noE).bind fun a4 => (if a4 = true then ((f_least_crossingD value).noE).bind fun a3 => .ok (isNoneD ((eO (eT2 PyData.int PyData.int)) a3)) else .ok false)
def sp_is_logD : DSp := spT (fun a : PyData => [.bor (eD a)]) (fun r : Bool => .sh (PyData.bool r)) fun a => f_is_logD a
theorem mono_is_logD : MonoSp sp_is_logD := spT_mono
theorem len_is_logD : ∀ ss Q E, sp_is_logD ss Q E → ss.length = 1 := spT_len fun _ => rfl
def t_is_logD : DS := (dSeq (dRet (vAnd (dCall ms_have_form [] sp_have_form (daCons (dVar 0) daNil)) (dIs (dCall ms_least_crossing [] sp_least_crossingD (daCons (dVar 0) daNil)) (dC .none)))) dNext)
theorem T_is_logD (value : PyData) : TyB (mT (rt0 (fun r : Bool => .sh (PyData.bool r))) xt0) t_is_logD [some (.bor (eD value))] (f_is_logD value) := by
  have h : TyB (mT (rt0 (fun r : Bool => .sh (PyData.bool r))) xt0) t_is_logD [some (.bor (eD value))] _ :=
    (ty_retT (ty_vand (ty_callN (l := [none]) (sp := sp_have_form) rfl (fun p1 : PyData × Unit => p1.1) (ta_cons (ty_vb eD value rfl) ta_nil) (fun _ => ⟨rfl, rfl⟩) (fun _ => rfl)) (fun _ => rfl) (ty_d2 (ty_callN (l := [none]) (sp := sp_least_crossingD) rfl (fun p2 : PyData × Unit => p2.1) (ta_cons (ty_vb eD value rfl) ta_nil) (fun _ => ⟨rfl, rfl⟩) (fun _ => rfl)) ty_cN (fun _ _ => o_isN rfl rfl))) (fun _ => rfl) (fun _ => rfl))
  exact h
theorem pure_is_logD : ∀ ss Q E, sp_is_logD ss Q E → t_is_logD (excK [] E) (ss.map some ++ List.replicate (1 - 1) none) ⟨fun n => retK [] Q (.sh .none) n, retK [] Q, fun _ => False, fun _ => False⟩ := pureT fun a => T_is_logD a

def ms_need_log : List Md := [.ro]
noncomputable def f_need_log (value : (List Int)) : R Unit := ((f_is_log value).bind fun a2 => .ok (!a2)).bind fun c3 => (if c3 = true then .err ⟨"InvalidLog", []⟩ else .ok ())
def sp_need_log : DSp := spT (fun a : (List Int) => [.bor ((eL PyData.int) a)]) (fun r : Unit => .sh (eU r)) fun a => f_need_log a
theorem mono_need_log : MonoSp sp_need_log := spT_mono
theorem len_need_log : ∀ ss Q E, sp_need_log ss Q E → ss.length = 1 := spT_len fun _ => rfl
def t_need_log : DS := (dSeq (dIfS (dNot (tst (dCall ms_is_log [] sp_is_log (daCons (dVar 0) daNil)))) (dSeq (dRaise "InvalidLog") dNext) dNext) dNext)
theorem T_need_log (value : (List Int)) : TyB (mT (rt0 (fun r : Unit => .sh (eU r))) xt0) t_need_log [some (.bor ((eL PyData.int) value))] (f_need_log value) := by
  have h : TyB (mT (rt0 (fun r : Unit => .sh (eU r))) xt0) t_need_log [some (.bor ((eL PyData.int) value))] _ :=
    (ty_sifD (ty_not (ty_tst (ty_call (l := [none]) (sp := sp_is_log) rfl (fun p1 : (List Int) × Unit => p1.1) (ta_cons (ty_vb (eL PyData.int) value rfl) ta_nil) (fun _ => ⟨rfl, rfl⟩) (fun _ => rfl) trivial) (fun _ => rfl))) (ty_assoc (ty_raise trivial)) (ty_nx (ty_endT () rfl)))
  exact h
theorem pure_need_log : ∀ ss Q E, sp_need_log ss Q E → t_need_log (excK [] E) (ss.map some ++ List.replicate (1 - 1) none) ⟨fun n => retK [] Q (.sh .none) n, retK [] Q, fun _ => False, fun _ => False⟩ := pureT fun a => T_need_log a

noncomputable def f_need_logD (value : PyData) : R Unit := ((f_is_logD value).bind fun a2 => .ok (!a2)).bind fun c3 => (if c3 = true then .err ⟨"InvalidLog", []⟩ else .ok ())
def sp_need_logD : DSp := spT (fun a : PyData => [.bor (eD a)]) (fun r : Unit => .sh (eU r)) fun a => f_need_logD a
theorem mono_need_logD : MonoSp sp_need_logD := spT_mono
theorem len_need_logD : ∀ ss Q E, sp_need_logD ss Q E → ss.length = 1 := spT_len fun _ => rfl
def t_need_logD : DS := (dSeq (dIfS (dNot (tst (dCall ms_is_log [] sp_is_logD (daCons (dVar 0) daNil)))) (dSeq (dRaise "InvalidLog") dNext) dNext) dNext)
theorem T_need_logD (value : PyData) : TyB (mT (rt0 (fun r : Unit => .sh (eU r))) xt0) t_need_logD [some (.bor (eD value))] (f_need_logD value) := by
  have h : TyB (mT (rt0 (fun r : Unit => .sh (eU r))) xt0) t_need_logD [some (.bor (eD value))] _ :=
    (ty_sifD (ty_not (ty_tst (ty_call (l := [none]) (sp := sp_is_logD) rfl (fun p1 : PyData × Unit => p1.1) (ta_cons (ty_vb eD value rfl) ta_nil) (fun _ => ⟨rfl, rfl⟩) (fun _ => rfl) trivial) (fun _ => rfl))) (ty_assoc (ty_raise trivial)) (ty_nx (ty_endT () rfl)))
  exact h
theorem pure_need_logD : ∀ ss Q E, sp_need_logD ss Q E → t_need_logD (excK [] E) (ss.map some ++ List.replicate (1 - 1) none) ⟨fun n => retK [] Q (.sh .none) n, retK [] Q, fun _ => False, fun _ => False⟩ := pureT fun a => T_need_logD a

def ms_number_in : List Md := [.ro, .ro]
noncomputable def f_number_in (word : PySem.Str) (most : Int) : R (Option Int) := ((((lenS word).bind fun a1 => (if pLe (1 : Int) a1 = true then .ok (pLe a1 most) else .ok false)).bind fun a2 => .ok (!a2)).bind fun a9 => (if a9 = true then .ok true else ((((chk (List.length (chs word) ≤ sizeLine) (chs word)).bind fun l5 => lcR (fun _ => .ok true) (fun x4 : PySem.Str => inS x4 ("0123456789")) l5).bind fun a6 => .ok (a6, ())).bind fun p7 => .ok (List.all p7.1 id)).bind fun a8 => .ok (!a8))).bind fun c10 => (if c10 = true then .ok none else (((atS word (0 : Int)).bind fun a13 => .ok (eqB a13 ("0" : PySem.Str))).bind fun a15 => (if a15 = true then (lenS word).bind fun a14 => .ok (decide ((1 : Int) < a14)) else .ok false)).bind fun a17 => (if a17 = true then .ok none else (intR word).bind fun a16 => .ok (some a16)))
def sp_number_in : DSp := spT (fun a : PySem.Str × Int => [.bor (PyData.str a.1), .bor (PyData.int a.2)]) (fun r : (Option Int) => .sh ((eO PyData.int) r)) fun a => f_number_in a.1 a.2
theorem mono_number_in : MonoSp sp_number_in := spT_mono
theorem len_number_in : ∀ ss Q E, sp_number_in ss Q E → ss.length = 2 := spT_len fun _ => rfl
def t_number_in : DS := (dSeq (dIfS (dOr (dNot (tst (dChain pLe pLe (dC (.int 1)) (dN (daCons (dVar 0) daNil) kLen) (dVar 1)))) (dNot (tst (dN (daCons (dLc [2] [2] (iSt (dVar 0) 2) dYes (dIn (dVar 2) (dC (.str "0123456789")))) daNil) (kF1 fAll))))) (dSeq (dRet (dC .none)) dNext) dNext) (dSeq (dRet (dIf (dAnd (tst (dEq (dIx (dVar 0) (dC (.int 0))) (dC (.str "0")))) (tst (dGt (dN (daCons (dVar 0) daNil) kLen) (dC (.int 1))))) (dC .none) (dN (daCons (dVar 0) daNil) (kF1 fInt)))) dNext))
theorem T_number_in (word : PySem.Str) (most : Int) : TyB (mT (rt0 (fun r : (Option Int) => .sh ((eO PyData.int) r))) xt0) t_number_in [some (.bor (PyData.str word)), some (.bor (PyData.int most)), none] (f_number_in word most) := by
  have h : TyB (mT (rt0 (fun r : (Option Int) => .sh ((eO PyData.int) r))) xt0) t_number_in [some (.bor (PyData.str word)), some (.bor (PyData.int most)), none] _ :=
    (ty_sifD (ty_or (ty_not (ty_tst (ty_chain ty_cI (ty_dN (ta_cons (ty_vb PyData.str word rfl) ta_nil) (fun _ => o_lenS rfl)) (ty_vb PyData.int most rfl) (fun _ => rfl) (fun _ => rfl) (fun _ => rfl)) (fun _ => rfl))) (ty_not (ty_tst (ty_dN (ta_cons (ty_lcMR PyData.bool [some (.bor (PyData.str word)), some (.bor (PyData.int most)), none] (ti_str (ty_vb PyData.str word rfl) (fun _ => rfl)) rfl rfl (fun x4 => (ty_d2 (ty_v PyData.str x4 rfl) ty_cS (fun _ _ => o_inS rfl rfl))) (fun _ _ => rfl) (fun _ => rfl) (fun _ => rfl)) ta_nil) (fun _ => o_all rfl)) (fun _ => rfl)))) (ty_assoc (ty_retT (ty_to none (vH (eO PyData.int)) ty_cN rfl) (fun _ => rfl) (fun _ => rfl))) (ty_nx (ty_retT (ty_if (ty_and (ty_tst (ty_d2 (ty_d2 (ty_vb PyData.str word rfl) ty_cI (fun v12 _ => o_ix_str rfl rfl)) ty_cS (fun _ _ => o_eqT (e := PyData.str) eqS rfl rfl)) (fun _ => rfl)) (ty_tst (ty_d2 (ty_dN (ta_cons (ty_vb PyData.str word rfl) ta_nil) (fun _ => o_lenS rfl)) ty_cI (fun _ _ => o_gt rfl rfl)) (fun _ => rfl))) (ty_to none (vH (eO PyData.int)) ty_cN rfl) (TyE.mp (ψ := (vH (eO PyData.int))) (ty_dN (ta_cons (ty_vb PyData.str word rfl) ta_nil) (fun _ => o_intS rfl)) (fun a16 => (some a16)) (fun _ => rfl))) (fun _ => rfl) (fun _ => rfl))))
  exact h
theorem pure_number_in : ∀ ss Q E, sp_number_in ss Q E → t_number_in (excK [] E) (ss.map some ++ List.replicate (3 - 2) none) ⟨fun n => retK [] Q (.sh .none) n, retK [] Q, fun _ => False, fun _ => False⟩ := pureT fun a => T_number_in a.1 a.2

def ms_numbers_in : List Md := [.ro]
noncomputable def f_numbers_in (words : (List PySem.Str)) : R (Option (List (Option Int))) := ((chk (List.length words ≤ sizeLine) words).bind fun l4 => lcR (fun _ => .ok true) (fun x2 : PySem.Str => (f_number_in x2 (3 : Int)).noE) l4).bind fun found_5 => .ok (if (memB none found_5) = true then none else (some found_5))
def sp_numbers_in : DSp := spT (fun a : (List PySem.Str) => [.bor ((eL PyData.str) a)]) (fun r : (Option (List (Option Int))) => .sh ((eO (eL (eO PyData.int))) r)) fun a => f_numbers_in a
theorem mono_numbers_in : MonoSp sp_numbers_in := spT_mono
theorem len_numbers_in : ∀ ss Q E, sp_numbers_in ss Q E → ss.length = 1 := spT_len fun _ => rfl
def t_numbers_in : DS := (dSeq (dSet 1 (dLc [2] [2] (iLst (dVar 0) 2) dYes (dCall ms_number_in [] sp_number_in (daCons (dVar 2) (daCons (dC (.int 3)) daNil))))) (dSeq (dPre [.fr 1] (dRet (dIf (tst (dIn (dC .none) (dVar 1))) (dC .none) (dVar 1)))) dNext))
theorem T_numbers_in (words : (List PySem.Str)) : TyB (mT (rt0 (fun r : (Option (List (Option Int))) => .sh ((eO (eL (eO PyData.int))) r))) xt0) t_numbers_in [some (.bor ((eL PyData.str) words)), none, none] (f_numbers_in words) := by
  have h : TyB (mT (rt0 (fun r : (Option (List (Option Int))) => .sh ((eO (eL (eO PyData.int))) r))) xt0) t_numbers_in [some (.bor ((eL PyData.str) words)), none, none] _ :=
    (ty_set (ty_lcMR (eO PyData.int) [some (.bor ((eL PyData.str) words)), none, none] (ti_lstb PyData.str (fun x1 => x1) (ty_vb (eL PyData.str) words rfl) (fun _ => rfl)) rfl rfl (fun x2 => (ty_callN (l := [none, none]) (sp := sp_number_in) rfl (fun p3 : PySem.Str × Int × Unit => (p3.1, p3.2.1)) (ta_cons (ty_vb PyData.str x2 rfl) (ta_cons ty_cI ta_nil)) (fun _ => ⟨rfl, rfl⟩) (fun _ => rfl))) (fun _ _ => rfl) (fun _ => rfl) (fun _ => rfl)) (fun _ => rfl) (fun found_5 => (ty_pre rfl (ty_retT (ty_ifP (ty_tst (ty_d2 (ty_to none (vH (eO PyData.int)) ty_cN rfl) (ty_v (eL (eO PyData.int)) found_5 rfl) (fun _ _ => o_inL sclOI rfl rfl)) (fun _ => rfl)) (ty_to none (vH (eO (eL (eO PyData.int)))) ty_cN rfl) (ty_to (some found_5) (vH (eO (eL (eO PyData.int)))) (ty_v (eL (eO PyData.int)) found_5 rfl) rfl)) (fun _ => rfl) (fun _ => rfl)))))
  exact h
theorem pure_numbers_in : ∀ ss Q E, sp_numbers_in ss Q E → t_numbers_in (excK [] E) (ss.map some ++ List.replicate (3 - 1) none) ⟨fun n => retK [] Q (.sh .none) n, retK [] Q, fun _ => False, fun _ => False⟩ := pureT fun a => T_numbers_in a

def ms_log_text : List Md := [.ro]
noncomputable def f_log_text (links : (List Int)) : R PySem.Str := (if (decide ((1 : Int) < (List.length links : Int))) = true then ((chk (List.length (cutL links (some (1 : Int)) none) ≤ sizeLine) (cutL links (some (1 : Int)) none)).bind fun l5 => lcR (fun _ => .ok true) (fun x4 : Int => strR x4) l5).bind fun a6 => joinR (" " : PySem.Str) a6 else .ok ("-"))
def sp_log_text : DSp := spT (fun a : (List Int) => [.bor ((eL PyData.int) a)]) (fun r : PySem.Str => .sh (PyData.str r)) fun a => f_log_text a
theorem mono_log_text : MonoSp sp_log_text := spT_mono
theorem len_log_text : ∀ ss Q E, sp_log_text ss Q E → ss.length = 1 := spT_len fun _ => rfl
def t_log_text : DS := (dSeq (dRet (dIf (tst (dGt (dN (daCons (dVar 0) daNil) kLen) (dC (.int 1)))) (dTx (dC (.str " ")) (dLc [1] [1] (iLst (dSl (dVar 0) (doPart (dC (.int 1))) doNo) 1) dYes (dN (daCons (dVar 1) daNil) (kF1 fStr))) kJoin) (dC (.str "-")))) dNext)
theorem T_log_text (links : (List Int)) : TyB (mT (rt0 (fun r : PySem.Str => .sh (PyData.str r))) xt0) t_log_text [some (.bor ((eL PyData.int) links)), none] (f_log_text links) := by
  have h : TyB (mT (rt0 (fun r : PySem.Str => .sh (PyData.str r))) xt0) t_log_text [some (.bor ((eL PyData.int) links)), none] _ :=
    (ty_retT (ty_if (ty_tst (ty_d2 (ty_dN (ta_cons (ty_vb (eL PyData.int) links rfl) ta_nil) (fun _ => o_lenL (e := PyData.int) rfl)) ty_cI (fun _ _ => o_gt rfl rfl)) (fun _ => rfl)) (ty_tx ty_cS (fun _ => rfl) (ty_lcMR PyData.str [some (.bor ((eL PyData.int) links)), none] (ti_lst PyData.int (fun x3 => x3) (ty_sl (ty_vb (eL PyData.int) links rfl) (to_part ty_cI (fun _ => rfl)) to_no (fun v2 => o_slL PyData.int v2 rfl (perm_bor sclI rfl))) (fun _ => rfl)) rfl rfl (fun x4 => (ty_dN (ta_cons (ty_v PyData.int x4 rfl) ta_nil) (fun _ => o_str rfl))) (fun _ _ => rfl) (fun _ => rfl) (fun _ => rfl)) (fun _ _ => o_join rfl rfl)) ty_cS) (fun _ => rfl) (fun _ => rfl))
  exact h
theorem pure_log_text : ∀ ss Q E, sp_log_text ss Q E → t_log_text (excK [] E) (ss.map some ++ List.replicate (2 - 1) none) ⟨fun n => retK [] Q (.sh .none) n, retK [] Q, fun _ => False, fun _ => False⟩ := pureT fun a => T_log_text a

def ms_show_log : List Md := [.ro]
noncomputable def f_show_log (links : (List Int)) : R PySem.Str := (f_need_log links).bind fun _ => f_log_text links
def sp_show_log : DSp := spT (fun a : (List Int) => [.bor ((eL PyData.int) a)]) (fun r : PySem.Str => .sh (PyData.str r)) fun a => f_show_log a
theorem mono_show_log : MonoSp sp_show_log := spT_mono
theorem len_show_log : ∀ ss Q E, sp_show_log ss Q E → ss.length = 1 := spT_len fun _ => rfl
def t_show_log : DS := (dSeq (dExpr (dCall ms_need_log [] sp_need_log (daCons (dVar 0) daNil))) (dSeq (dRet (dCall ms_log_text [] sp_log_text (daCons (dVar 0) daNil))) dNext))
theorem T_show_log (links : (List Int)) : TyB (mT (rt0 (fun r : PySem.Str => .sh (PyData.str r))) xt0) t_show_log [some (.bor ((eL PyData.int) links))] (f_show_log links) := by
  have h : TyB (mT (rt0 (fun r : PySem.Str => .sh (PyData.str r))) xt0) t_show_log [some (.bor ((eL PyData.int) links))] _ :=
    (ty_expr (ty_call (l := [none]) (sp := sp_need_log) rfl (fun p1 : (List Int) × Unit => p1.1) (ta_cons (ty_vb (eL PyData.int) links rfl) ta_nil) (fun _ => ⟨rfl, rfl⟩) (fun _ => rfl) trivial) (fun _ => (ty_retT (ty_call (l := [none]) (sp := sp_log_text) rfl (fun p2 : (List Int) × Unit => p2.1) (ta_cons (ty_vb (eL PyData.int) links rfl) ta_nil) (fun _ => ⟨rfl, rfl⟩) (fun _ => rfl) trivial) (fun _ => rfl) (fun _ => rfl))))
  exact h
theorem pure_show_log : ∀ ss Q E, sp_show_log ss Q E → t_show_log (excK [] E) (ss.map some ++ List.replicate (1 - 1) none) ⟨fun n => retK [] Q (.sh .none) n, retK [] Q, fun _ => False, fun _ => False⟩ := pureT fun a => T_show_log a

def ms_read_log : List Md := [.ro]
noncomputable def f_read_log (text : PyData) : R (List (Option Int)) := (eqR (eD text) (PyData.str ("-"))).bind fun c1 => (if c1 = true then .ok [(some (0 : Int))] else ((if (isiD (eD text) "str") = true then (((asS text).bind fun a5 => splitR a5 (" " : PySem.Str)).bind fun a6 => .ok (a6, ())).bind fun p8 => f_numbers_in p8.1 else .ok none)).bind fun links_9 => ((if (isNoneD ((eO (eL (eO PyData.int))) links_9)) = true then .ok true else ((((opt links_9).bind fun a15 => catL [(some (0 : Int))] a15).bind fun a16 => .ok (a16, ())).bind fun p18 => f_is_logD ((eL (eO PyData.int)) p18.1)).bind fun a19 => .ok (!a19))).bind fun c20 => (if c20 = true then .err ⟨"InvalidText", []⟩ else (opt links_9).bind fun a22 => catL [(some (0 : Int))] a22))
def sp_read_log : DSp := spT (fun a : PyData => [.bor (eD a)]) (fun r : (List (Option Int)) => .own (List.map (eO PyData.int) r)) fun a => f_read_log a
theorem mono_read_log : MonoSp sp_read_log := spT_mono
theorem len_read_log : ∀ ss Q E, sp_read_log ss Q E → ss.length = 1 := spT_len fun _ => rfl
def t_read_log : DS := (dSeq (dIfS (tst (dEq (dVar 0) (dC (.str "-")))) (dSeq (dRet (dLst (daCons (dC (.int 0)) daNil))) dNext) dNext) (dSeq (dSet 1 (dIf (tst (dIsi (dVar 0) "str")) (dCall ms_numbers_in [] sp_numbers_in (daCons (dTx (dVar 0) (dC (.str " ")) kSplit) daNil)) (dC .none))) (dSeq (dIfS (dOr (tst (dIs (dVar 1) (dC .none))) (dNot (tst (dCall ms_is_log [] sp_is_logD (daCons (dAdd (dLst (daCons (dC (.int 0)) daNil)) (dVar 1)) daNil))))) (dSeq (dRaise "InvalidText") dNext) dNext) (dSeq (dRet (dAdd (dLst (daCons (dC (.int 0)) daNil)) (dVar 1))) dNext))))
theorem T_read_log (text : PyData) : TyB (mT (rt0 (fun r : (List (Option Int)) => .own (List.map (eO PyData.int) r))) xt0) t_read_log [some (.bor (eD text)), none] (f_read_log text) := by
  have h : TyB (mT (rt0 (fun r : (List (Option Int)) => .own (List.map (eO PyData.int) r))) xt0) t_read_log [some (.bor (eD text)), none] _ :=
    (ty_sifD (ty_tst (ty_d2 (ty_vb eD text rfl) ty_cS (fun _ _ => o_eq rfl rfl)) (fun _ => rfl)) (ty_assoc (ty_retT (ty_dN (ta_cons (ty_to (some (0 : Int)) (vH (eO PyData.int)) ty_cI rfl) ta_nil) (fun p2 => o_lst (e := (eO PyData.int)) [p2.1] rfl (le_line 1 rfl))) (fun _ => rfl) (fun _ => rfl))) (ty_nx (ty_set (ty_if (ty_tst (ty_d1 (ty_vb eD text rfl) (fun _ => o_isi rfl)) (fun _ => rfl)) (ty_call (l := [none]) (sp := sp_numbers_in) rfl (fun p7 : (List PySem.Str) × Unit => p7.1) (ta_cons (ty_tx (ty_asSb (ty_vb eD text rfl)) (fun _ => rfl) ty_cS (fun _ _ => o_split rfl rfl)) ta_nil) (fun _ => ⟨rfl, rfl⟩) (fun _ => rfl) trivial) (ty_to none (vH (eO (eL (eO PyData.int)))) ty_cN rfl)) (fun _ => rfl) (fun links_9 => (ty_sifD (ty_or (ty_tst (ty_d2 (ty_v (eO (eL (eO PyData.int))) links_9 rfl) ty_cN (fun _ _ => o_isN rfl rfl)) (fun _ => rfl)) (ty_not (ty_tst (ty_call (l := [none]) (sp := sp_is_logD) rfl (fun p17 : (List (Option Int)) × Unit => ((eL (eO PyData.int)) p17.1)) (ta_cons (ty_d2 (ty_dN (ta_cons (ty_to (some (0 : Int)) (vH (eO PyData.int)) ty_cI rfl) ta_nil) (fun p14 => o_lst (e := (eO PyData.int)) [p14.1] rfl (le_line 1 rfl))) (ty_un (e := (eL (eO PyData.int))) (ty_v (eO (eL (eO PyData.int))) links_9 rfl)) (fun _ _ => o_addL (e := (eO PyData.int)) rfl rfl rfl rfl)) ta_nil) (fun _ => ⟨rfl, rfl⟩) (fun _ => rfl) trivial) (fun _ => rfl)))) (ty_assoc (ty_raise trivial)) (ty_nx (ty_retT (ty_d2 (ty_dN (ta_cons (ty_to (some (0 : Int)) (vH (eO PyData.int)) ty_cI rfl) ta_nil) (fun p21 => o_lst (e := (eO PyData.int)) [p21.1] rfl (le_line 1 rfl))) (ty_un (e := (eL (eO PyData.int))) (ty_v (eO (eL (eO PyData.int))) links_9 rfl)) (fun _ _ => o_addL (e := (eO PyData.int)) rfl rfl rfl rfl)) (fun _ => rfl) (fun _ => rfl))))))))
  exact h
theorem pure_read_log : ∀ ss Q E, sp_read_log ss Q E → t_read_log (excK [] E) (ss.map some ++ List.replicate (2 - 1) none) ⟨fun n => retK [] Q (.sh .none) n, retK [] Q, fun _ => False, fun _ => False⟩ := pureT fun a => T_read_log a

def ms__law_reel : List Md := [.ro, .ro]
noncomputable def f__law_reel (script : (List Int)) (k : Int) : R (List Int) := (let cell_1 : Int := (0 : Int); ((if (decide (k < (List.length script : Int))) = true then (atR script k).bind fun cell_5 => .ok cell_5 else .ok cell_1)).bind fun j3 => ((((((powI (10 : Int) (18 : Int)).bind fun a6 => .ok (j3 - a6)).bind fun a7 => .ok (a7, ())).bind fun r8 => .ok ((0 : Int), r8)).bind fun p9 => .ok (max p9.1 p9.2.1)).bind fun a17 => (((((((powI (10 : Int) (40 : Int)).bind fun a10 => .ok (a10 + (177 : Int))).bind fun a11 => modI j3 a11).bind fun a12 => mulI a12 (512 : Int)).bind fun a13 => (mulI (31 : Int) k).bind fun a14 => .ok (a13 + a14)).bind fun a15 => .ok (a15 + (9 : Int))).bind fun a16 => .ok (a16, ((0 : Int), ()))).bind fun r18 => .ok (a17, r18)).bind fun p20 => .ok [p20.1, p20.2.1, p20.2.2.1])
def sp__law_reel : DSp := spT (fun a : (List Int) × Int => [.scr a.1, .bor (PyData.int a.2)]) (fun r : (List Int) => .own (List.map PyData.int r)) fun a => f__law_reel a.1 a.2
theorem mono__law_reel : MonoSp sp__law_reel := spT_mono
theorem len__law_reel : ∀ ss Q E, sp__law_reel ss Q E → ss.length = 2 := spT_len fun _ => rfl
def t__law_reel : DS := (dSeq (dSet 2 (dC (.int 0))) (dSeq (dPost [] (dIfS (tst (dLt (dVar 1) (dN (daCons (dVar 0) daNil) kLen))) (dSeq (dSet 2 (dIx (dVar 0) (dVar 1))) dNext) dNext)) (dSeq (dRet (dLst (daCons (dN (daCons (dC (.int 0)) (daCons (dSub (dVar 2) (dPow (dC (.int 10)) (dC (.int 18)))) daNil)) (kF2 fMax2)) (daCons (dAdd (dAdd (dMul (dMod (dVar 2) (dAdd (dPow (dC (.int 10)) (dC (.int 40))) (dC (.int 177)))) (dC (.int 512))) (dMul (dC (.int 31)) (dVar 1))) (dC (.int 9))) (daCons (dC (.int 0)) daNil))))) dNext)))
theorem T__law_reel (script : (List Int)) (k : Int) : TyB (mT (rt0 (fun r : (List Int) => .own (List.map PyData.int r))) xt0) t__law_reel [some (.scr script), some (.bor (PyData.int k)), none] (f__law_reel script k) := by
  have h : TyB (mT (rt0 (fun r : (List Int) => .own (List.map PyData.int r))) xt0) t__law_reel [some (.scr script), some (.bor (PyData.int k)), none] _ :=
    (ty_set ty_cI (fun _ => rfl) (fun cell_1 => (ty_sifN (fun j3 : Int => [(2, some (.sh (PyData.int j3)))]) (ty_tst (ty_d2 (ty_vb PyData.int k rfl) (ty_dN (ta_cons (ty_vs rfl) ta_nil) (fun _ => o_lenScr rfl)) (fun _ _ => o_lt rfl rfl)) (fun _ => rfl)) (ty_set (ty_d2 (ty_vs rfl) (ty_vb PyData.int k rfl) (fun v4 _ => o_ix_scr script rfl rfl)) (fun _ => rfl) (fun cell_5 => (ty_endN cell_5 rfl))) (ty_endN cell_1 rfl) (fun j3 => (ty_retT (ty_dN (ta_cons (ty_dN (ta_cons ty_cI (ta_cons (ty_d2 (ty_v PyData.int j3 rfl) (ty_d2 ty_cI ty_cI (fun _ _ => o_pow rfl rfl)) (fun _ _ => o_sub rfl rfl)) ta_nil)) (fun _ => o_max2 rfl rfl)) (ta_cons (ty_d2 (ty_d2 (ty_d2 (ty_d2 (ty_v PyData.int j3 rfl) (ty_d2 (ty_d2 ty_cI ty_cI (fun _ _ => o_pow rfl rfl)) ty_cI (fun _ _ => o_addI rfl rfl)) (fun _ _ => o_mod rfl rfl)) ty_cI (fun _ _ => o_mulI rfl rfl)) (ty_d2 ty_cI (ty_vb PyData.int k rfl) (fun _ _ => o_mulI rfl rfl)) (fun _ _ => o_addI rfl rfl)) ty_cI (fun _ _ => o_addI rfl rfl)) (ta_cons ty_cI ta_nil))) (fun p19 => o_lst (e := PyData.int) [p19.1, p19.2.1, p19.2.2.1] rfl (le_line 3 rfl))) (fun _ => rfl) (fun _ => rfl))))))
  exact h
theorem pure__law_reel : ∀ ss Q E, sp__law_reel ss Q E → t__law_reel (excK [] E) (ss.map some ++ List.replicate (3 - 2) none) ⟨fun n => retK [] Q (.sh .none) n, retK [] Q, fun _ => False, fun _ => False⟩ := pureT fun a => T__law_reel a.1 a.2

def ms__law_turn : List Md := [.io, .ro]
noncomputable def f__law_turn (reel : (List Int)) (size : Int) : R (Int × (List Int)) := ((atR reel (0 : Int)).bind fun a2 => .ok (decide ((0 : Int) < a2))).bind fun c3 => (if c3 = true then ((atR reel (0 : Int)).bind fun a5 => modI a5 size).bind fun found_6 => (((atR reel (0 : Int)).bind fun a8 => divI a8 size).bind fun a11 => setR reel (0 : Int) a11).bind fun reel_9 => .ok (found_6, reel_9) else (((atR reel (2 : Int)).bind fun a14 => .ok (a14 + (1 : Int))).bind fun a17 => setR reel (2 : Int) a17).bind fun reel_15 => ((((atR reel_15 (1 : Int)).bind fun a21 => ((atR reel_15 (2 : Int)).bind fun a20 => mulI (2860486313 : Int) a20).bind fun a22 => .ok (a21 + a22)).bind fun a23 => powI a23 (3 : Int)).bind fun a25 => ((powI (10 : Int) (43 : Int)).bind fun a24 => .ok (a24 + (57 : Int))).bind fun a26 => modI a25 a26).bind fun mixed_27 => (((mulI mixed_27 mixed_27).bind fun a30 => ((atR reel_15 (2 : Int)).bind fun a29 => mulI (1073676287 : Int) a29).bind fun a31 => .ok (a30 + a31)).bind fun a33 => ((powI (10 : Int) (42 : Int)).bind fun a32 => .ok (a32 + (63 : Int))).bind fun a34 => modI a33 a34).bind fun mixed_35 => ((divI mixed_35 (524347 : Int)).bind fun a36 => modI a36 size).bind fun a37 => .ok (a37, reel_15))
def sp__law_turn : DSp := spW (fun a : (List Int) × Int => [.own (List.map PyData.int a.1), .bor (PyData.int a.2)]) (fun r : Int => .sh (PyData.int r)) (fun w : (List Int) => [some (.own (List.map PyData.int w))]) (fun a : (List Int) × Int => [some (.own (List.map PyData.int a.1))]) fun a => f__law_turn a.1 a.2
theorem mono__law_turn : MonoSp sp__law_turn := spW_mono
theorem len__law_turn : ∀ ss Q E, sp__law_turn ss Q E → ss.length = 2 := spW_len fun _ => rfl
def t__law_turn : DS := (dSeq (dIfS (tst (dGt (dIx (dVar 0) (dC (.int 0))) (dC (.int 0)))) (dSeq (dSet 2 (dMod (dIx (dVar 0) (dC (.int 0))) (dVar 1))) (dSeq (dSto 0 (dFdiv (dIx (dVar 0) (dC (.int 0))) (dVar 1)) (dC (.int 0))) (dSeq (dRet (dVar 2)) dNext))) dNext) (dSeq (dSto 0 (dAdd (dIx (dVar 0) (dC (.int 2))) (dC (.int 1))) (dC (.int 2))) (dSeq (dSet 3 (dMod (dPow (dAdd (dIx (dVar 0) (dC (.int 1))) (dMul (dC (.int 2860486313)) (dIx (dVar 0) (dC (.int 2))))) (dC (.int 3))) (dAdd (dPow (dC (.int 10)) (dC (.int 43))) (dC (.int 57))))) (dSeq (dSet 3 (dMod (dAdd (dMul (dVar 3) (dVar 3)) (dMul (dC (.int 1073676287)) (dIx (dVar 0) (dC (.int 2))))) (dAdd (dPow (dC (.int 10)) (dC (.int 42))) (dC (.int 63))))) (dSeq (dRet (dMod (dFdiv (dVar 3) (dC (.int 524347))) (dVar 1))) dNext)))))
theorem T__law_turn (reel : (List Int)) (size : Int) : TyB (mT (rtW [0] (fun r : Int => .sh (PyData.int r)) (fun w : (List Int) => [some (.own (List.map PyData.int w))])) (xtW [0] [some (.own (List.map PyData.int reel))])) t__law_turn [some (.own (List.map PyData.int reel)), some (.bor (PyData.int size)), none, none] (f__law_turn reel size) := by
  have h : TyB (mT (rtW [0] (fun r : Int => .sh (PyData.int r)) (fun w : (List Int) => [some (.own (List.map PyData.int w))])) (xtW [0] [some (.own (List.map PyData.int reel))])) t__law_turn [some (.own (List.map PyData.int reel)), some (.bor (PyData.int size)), none, none] _ :=
    (ty_env [some (.own (List.map PyData.int reel)), some (.bor (PyData.int size)), none, none] rfl (ty_sifD (ty_tst (ty_d2 (ty_d2 (ty_vo rfl) ty_cI (fun v1 _ => o_ix_own PyData.int reel rfl rfl)) ty_cI (fun _ _ => o_gt rfl rfl)) (fun _ => rfl)) (ty_env [some (.own (List.map PyData.int reel)), some (.bor (PyData.int size)), none, none] rfl (ty_assoc (ty_set (ty_d2 (ty_d2 (ty_vo rfl) ty_cI (fun v4 _ => o_ix_own PyData.int reel rfl rfl)) (ty_vb PyData.int size rfl) (fun _ _ => o_mod rfl rfl)) (fun _ => rfl) (fun found_6 => (ty_env [some (.own (List.map PyData.int reel)), some (.bor (PyData.int size)), some (.sh (PyData.int found_6)), none] rfl (ty_assoc (ty_sto (e := PyData.int) (fun a10 => a10) (ty_d2 (ty_d2 (ty_vo rfl) ty_cI (fun v7 _ => o_ix_own PyData.int reel rfl rfl)) (ty_vb PyData.int size rfl) (fun _ _ => o_fdiv rfl rfl)) rfl ty_cI (fun _ => rfl) (fun _ => rfl) rfl (fun reel_9 => (ty_env [some (.own (List.map PyData.int reel_9)), some (.bor (PyData.int size)), some (.sh (PyData.int found_6)), none] rfl (ty_assoc (ty_ret (fun a12 => (a12, reel_9)) (ty_v PyData.int found_6 rfl) (fun _ => rfl) (fun _ => ⟨rfl, rfl⟩)))))))))))) (ty_nx (ty_env [some (.own (List.map PyData.int reel)), some (.bor (PyData.int size)), none, none] rfl (ty_sto (e := PyData.int) (fun a16 => a16) (ty_d2 (ty_d2 (ty_vo rfl) ty_cI (fun v13 _ => o_ix_own PyData.int reel rfl rfl)) ty_cI (fun _ _ => o_addI rfl rfl)) rfl ty_cI (fun _ => rfl) (fun _ => rfl) rfl (fun reel_15 => (ty_env [some (.own (List.map PyData.int reel_15)), some (.bor (PyData.int size)), none, none] rfl (ty_set (ty_d2 (ty_d2 (ty_d2 (ty_d2 (ty_vo rfl) ty_cI (fun v18 _ => o_ix_own PyData.int reel_15 rfl rfl)) (ty_d2 ty_cI (ty_d2 (ty_vo rfl) ty_cI (fun v19 _ => o_ix_own PyData.int reel_15 rfl rfl)) (fun _ _ => o_mulI rfl rfl)) (fun _ _ => o_addI rfl rfl)) ty_cI (fun _ _ => o_pow rfl rfl)) (ty_d2 (ty_d2 ty_cI ty_cI (fun _ _ => o_pow rfl rfl)) ty_cI (fun _ _ => o_addI rfl rfl)) (fun _ _ => o_mod rfl rfl)) (fun _ => rfl) (fun mixed_27 => (ty_env [some (.own (List.map PyData.int reel_15)), some (.bor (PyData.int size)), none, some (.sh (PyData.int mixed_27))] rfl (ty_set (ty_d2 (ty_d2 (ty_d2 (ty_v PyData.int mixed_27 rfl) (ty_v PyData.int mixed_27 rfl) (fun _ _ => o_mulI rfl rfl)) (ty_d2 ty_cI (ty_d2 (ty_vo rfl) ty_cI (fun v28 _ => o_ix_own PyData.int reel_15 rfl rfl)) (fun _ _ => o_mulI rfl rfl)) (fun _ _ => o_addI rfl rfl)) (ty_d2 (ty_d2 ty_cI ty_cI (fun _ _ => o_pow rfl rfl)) ty_cI (fun _ _ => o_addI rfl rfl)) (fun _ _ => o_mod rfl rfl)) (fun _ => rfl) (fun mixed_35 => (ty_env [some (.own (List.map PyData.int reel_15)), some (.bor (PyData.int size)), none, some (.sh (PyData.int mixed_35))] rfl (ty_ret (fun a38 => (a38, reel_15)) (ty_d2 (ty_d2 (ty_v PyData.int mixed_35 rfl) ty_cI (fun _ _ => o_fdiv rfl rfl)) (ty_vb PyData.int size rfl) (fun _ _ => o_mod rfl rfl)) (fun _ => rfl) (fun _ => ⟨rfl, rfl⟩)))))))))))))))
  exact h
theorem pure__law_turn : ∀ ss Q E, sp__law_turn ss Q E → t__law_turn (excK [0] E) (ss.map some ++ List.replicate (4 - 2) none) ⟨fun n => retK [0] Q (.sh .none) n, retK [0] Q, fun _ => False, fun _ => False⟩ := pureW (io := [0]) (fun _ => rfl) (fun _ => rfl) fun a => T__law_turn a.1 a.2

def ms__law_grown : List Md := [.io, .ro]
noncomputable def f__law_grown (reel : (List Int)) (size : Int) : R ((List Int) × (List Int)) := ((((f__law_turn reel (6 : Int)).noE).bind fun q4 => .ok (q4.1, q4.2)).bind fun q5 => .ok ((q5.1, ([(0 : Int)], ([(0 : Int)], ()))), q5.2)).bind fun p1 => (rngR (1 : Int) size).bind fun l62 => (foldR (fun (x9 : Int) (s8 : (List Int) × (List Int) × (List Int)) => (let many_10 : Int := (List.length s8.2.2 : Int); ((((f__law_turn s8.1 (min (2 : Int) many_10)).noE).bind fun q14 => .ok (q14.1, q14.2)).bind fun q15 => (((((f__law_turn q15.2 (min (3 : Int) many_10)).noE).bind fun q18 => .ok (q18.1, q18.2)).bind fun q19 => .ok (((many_10 - (1 : Int)) - q19.1), q19.2)).bind fun q20 => .ok ((q20.1, ()), q20.2)).bind fun r21 => .ok ((q15.1, r21.1), r21.2)).bind fun p11 => (((((f__law_turn p11.2 (6 : Int)).noE).bind fun q24 => .ok (q24.1, q24.2)).bind fun q25 => .ok ((eqB q25.1 (0 : Int)), q25.2)).bind fun q26 => (if q26.1 = true then ((f__law_turn q26.2 many_10).noE).bind fun q29 => .ok (q29.1, q29.2) else .ok ((many_10 - (1 : Int)), q26.2))).bind fun p30 => ((((((f__law_turn p30.2 many_10).noE).bind fun q33 => .ok (q33.1, q33.2)).bind fun q34 => ((((((divI many_10 (2 : Int)).bind fun a35 => .ok (a35, q34.2)).bind fun q36 => ((((f__law_turn q36.2 many_10).noE).bind fun q39 => .ok (q39.1, q39.2)).bind fun q40 => .ok ((q40.1, ()), q40.2)).bind fun r41 => .ok ((q36.1, r41.1), r41.2)).bind fun r42 => .ok ((p30.1, r42.1), r42.2)).bind fun r43 => .ok ((p11.1.2.1, r43.1), r43.2)).bind fun r44 => .ok ((p11.1.1, r44.1), r44.2)).bind fun r45 => .ok ((q34.1, r45.1), r45.2)).bind fun p47 => .ok ([p47.1.1, p47.1.2.1, p47.1.2.2.1, p47.1.2.2.2.1, p47.1.2.2.2.2.1, p47.1.2.2.2.2.2.1], p47.2)).bind fun q48 => (atR q48.1 p1.1.1).bind fun c50 => .ok (c50, q48.2)).bind fun p51 => ((atR s8.2.2 p51.1).bind fun a54 => (appR s8.2.1 a54).bind fun xs55 => .ok ((), xs55)).bind fun p56 => (catL (cutL s8.2.2 none (some (p51.1 + (1 : Int)))) [x9]).bind fun some_59 => .ok (p51.2, p56.2, some_59))) l62 (p1.2, p1.1.2.1, p1.1.2.2.1)).bind fun s60 => .ok (s60.2.1, s60.1)
def sp__law_grown : DSp := spW (fun a : (List Int) × Int => [.own (List.map PyData.int a.1), .bor (PyData.int a.2)]) (fun r : (List Int) => .own (List.map PyData.int r)) (fun w : (List Int) => [some (.own (List.map PyData.int w))]) (fun a : (List Int) × Int => [some (.own (List.map PyData.int a.1))]) fun a => f__law_grown a.1 a.2
theorem mono__law_grown : MonoSp sp__law_grown := spW_mono
theorem len__law_grown : ∀ ss Q E, sp__law_grown ss Q E → ss.length = 2 := spW_len fun _ => rfl
def t__law_grown : DS := (dSeq (dPar [2, 3, 4] (daCons (dCall ms__law_turn [] sp__law_turn (daCons (dVar 0) (daCons (dC (.int 6)) daNil))) (daCons (dLst (daCons (dC (.int 0)) daNil)) (daCons (dLst (daCons (dC (.int 0)) daNil)) daNil)))) (dSeq (dPre [] (dFor [5] (iRng rng2 (daCons (dC (.int 1)) (daCons (dVar 1) daNil)) 5) (dPost [.no 5, .no 6, .no 7, .no 8, .no 9, .no 10] (dSeq (dSet 6 (dN (daCons (dVar 4) daNil) kLen)) (dSeq (dPar [7, 8] (daCons (dCall ms__law_turn [] sp__law_turn (daCons (dVar 0) (daCons (dN (daCons (dC (.int 2)) (daCons (dVar 6) daNil)) (kF2 fMin2)) daNil))) (daCons (dSub (dSub (dVar 6) (dC (.int 1))) (dCall ms__law_turn [] sp__law_turn (daCons (dVar 0) (daCons (dN (daCons (dC (.int 3)) (daCons (dVar 6) daNil)) (kF2 fMin2)) daNil)))) daNil))) (dSeq (dSet 9 (dIf (tst (dEq (dCall ms__law_turn [] sp__law_turn (daCons (dVar 0) (daCons (dC (.int 6)) daNil))) (dC (.int 0)))) (dCall ms__law_turn [] sp__law_turn (daCons (dVar 0) (daCons (dVar 6) daNil))) (dSub (dVar 6) (dC (.int 1))))) (dSeq (dSet 10 (dIx (dLst (daCons (dCall ms__law_turn [] sp__law_turn (daCons (dVar 0) (daCons (dVar 6) daNil))) (daCons (dVar 7) (daCons (dVar 8) (daCons (dVar 9) (daCons (dFdiv (dVar 6) (dC (.int 2))) (daCons (dCall ms__law_turn [] sp__law_turn (daCons (dVar 0) (daCons (dVar 6) daNil))) daNil))))))) (dVar 2))) (dSeq (dExpr (dMut 3 (daCons (dIx (dVar 4) (dVar 10)) daNil) (kApp 3))) (dSeq (dSet 4 (dAdd (dSl (dVar 4) doNo (doPart (dAdd (dVar 10) (dC (.int 1))))) (dLst (daCons (dVar 5) daNil)))) dNext))))))))) (dSeq (dRet (dVar 3)) dNext)))
theorem T__law_grown (reel : (List Int)) (size : Int) : TyB (mT (rtW [0] (fun r : (List Int) => .own (List.map PyData.int r)) (fun w : (List Int) => [some (.own (List.map PyData.int w))])) (xtW [0] [some (.own (List.map PyData.int reel))])) t__law_grown [some (.own (List.map PyData.int reel)), some (.bor (PyData.int size)), none, none, none, none, none, none, none, none, none] (f__law_grown reel size) := by
  have h : TyB (mT (rtW [0] (fun r : (List Int) => .own (List.map PyData.int r)) (fun w : (List Int) => [some (.own (List.map PyData.int w))])) (xtW [0] [some (.own (List.map PyData.int reel))])) t__law_grown [some (.own (List.map PyData.int reel)), some (.bor (PyData.int size)), none, none, none, none, none, none, none, none, none] _ :=
    (ty_env [some (.own (List.map PyData.int reel)), some (.bor (PyData.int size)), none, none, none, none, none, none, none, none, none] rfl (ty_parW (u := (uL PyData.int 0)) (w := reel) rfl (taw_cons (tw_callWN (sp := sp__law_turn) rfl (fun (p2 : Unit × Int × Unit) (w3 : (List Int)) => (w3, p2.2.1)) (fun _ o => o) (taw_cons (tw_ofS (ty_vo rfl)) (fun _ => (taw_cons (tw_ofS ty_cI) (fun _ => taw_nil)))) (fun _ _ => ⟨rfl, rfl⟩) (fun _ _ _ => rfl)) (fun _ => (taw_cons (tw_ofS (ty_dN (ta_cons ty_cI ta_nil) (fun p6 => o_lst (e := PyData.int) [p6.1] rfl (le_line 1 rfl)))) (fun _ => (taw_cons (tw_ofS (ty_dN (ta_cons ty_cI ta_nil) (fun p7 => o_lst (e := PyData.int) [p7.1] rfl (le_line 1 rfl)))) (fun _ => taw_nil)))))) (fun _ _ => rfl) (fun p1 => (ty_env [some (.own (List.map PyData.int p1.2)), some (.bor (PyData.int size)), some (.sh (PyData.int p1.1.1)), some (.own (List.map PyData.int p1.1.2.1)), some (.own (List.map PyData.int p1.1.2.2.1)), none, none, none, none, none, none] rfl (ty_forN (fun s8 : (List Int) × (List Int) × (List Int) => [(0, some (.own (List.map PyData.int s8.1))), (3, some (.own (List.map PyData.int s8.2.1))), (4, some (.own (List.map PyData.int s8.2.2))), (5, none), (6, none), (7, none), (8, none), (9, none), (10, none)]) (p1.2, p1.1.2.1, p1.1.2.2.1) rfl (ti_rng2 (ta_cons ty_cI (ta_cons (ty_vb PyData.int size rfl) ta_nil)) (fun _ => rfl)) rfl rfl (fun x9 s8 => (ty_env [some (.own (List.map PyData.int s8.1)), some (.bor (PyData.int size)), some (.sh (PyData.int p1.1.1)), some (.own (List.map PyData.int s8.2.1)), some (.own (List.map PyData.int s8.2.2)), some (.sh (PyData.int x9)), none, none, none, none, none] rfl (ty_set (ty_dN (ta_cons (ty_vo rfl) ta_nil) (fun _ => o_lenL (e := PyData.int) rfl)) (fun _ => rfl) (fun many_10 => (ty_env [some (.own (List.map PyData.int s8.1)), some (.bor (PyData.int size)), some (.sh (PyData.int p1.1.1)), some (.own (List.map PyData.int s8.2.1)), some (.own (List.map PyData.int s8.2.2)), some (.sh (PyData.int x9)), some (.sh (PyData.int many_10)), none, none, none, none] rfl (ty_parW (u := (uL PyData.int 0)) (w := s8.1) rfl (taw_cons (tw_callWN (sp := sp__law_turn) rfl (fun (p12 : Unit × Int × Unit) (w13 : (List Int)) => (w13, p12.2.1)) (fun _ o => o) (taw_cons (tw_ofS (ty_vo rfl)) (fun _ => (taw_cons (tw_ofS (ty_dN (ta_cons ty_cI (ta_cons (ty_v PyData.int many_10 rfl) ta_nil)) (fun _ => o_min2 rfl rfl))) (fun _ => taw_nil)))) (fun _ _ => ⟨rfl, rfl⟩) (fun _ _ _ => rfl)) (fun _ => (taw_cons (tw_d2 (tw_ofS (ty_d2 (ty_v PyData.int many_10 rfl) ty_cI (fun _ _ => o_sub rfl rfl))) (fun _ => (tw_callWN (sp := sp__law_turn) rfl (fun (p16 : Unit × Int × Unit) (w17 : (List Int)) => (w17, p16.2.1)) (fun _ o => o) (taw_cons (tw_ofS (ty_vo rfl)) (fun _ => (taw_cons (tw_ofS (ty_dN (ta_cons ty_cI (ta_cons (ty_v PyData.int many_10 rfl) ta_nil)) (fun _ => o_min2 rfl rfl))) (fun _ => taw_nil)))) (fun _ _ => ⟨rfl, rfl⟩) (fun _ _ _ => rfl))) (fun _ _ _ => o_sub rfl rfl)) (fun _ => taw_nil)))) (fun _ _ => rfl) (fun p11 => (ty_env [some (.own (List.map PyData.int p11.2)), some (.bor (PyData.int size)), some (.sh (PyData.int p1.1.1)), some (.own (List.map PyData.int s8.2.1)), some (.own (List.map PyData.int s8.2.2)), some (.sh (PyData.int x9)), some (.sh (PyData.int many_10)), some (.sh (PyData.int p11.1.1)), some (.sh (PyData.int p11.1.2.1)), none, none] rfl (ty_setW (u := (uL PyData.int 0)) (w := p11.2) rfl (tw_if (ttw_tst (tw_d2 (tw_callWN (sp := sp__law_turn) rfl (fun (p22 : Unit × Int × Unit) (w23 : (List Int)) => (w23, p22.2.1)) (fun _ o => o) (taw_cons (tw_ofS (ty_vo rfl)) (fun _ => (taw_cons (tw_ofS ty_cI) (fun _ => taw_nil)))) (fun _ _ => ⟨rfl, rfl⟩) (fun _ _ _ => rfl)) (fun _ => (tw_ofS ty_cI)) (fun _ _ _ => o_eqT (e := PyData.int) (eqL layI (by decide)) rfl rfl)) (fun _ _ => rfl)) (fun _ => (tw_callWN (sp := sp__law_turn) rfl (fun (p27 : Unit × Int × Unit) (w28 : (List Int)) => (w28, p27.2.1)) (fun _ o => o) (taw_cons (tw_ofS (ty_vo rfl)) (fun _ => (taw_cons (tw_ofS (ty_v PyData.int many_10 rfl)) (fun _ => taw_nil)))) (fun _ _ => ⟨rfl, rfl⟩) (fun _ _ _ => rfl))) (fun _ => (tw_ofS (ty_d2 (ty_v PyData.int many_10 rfl) ty_cI (fun _ _ => o_sub rfl rfl))))) (fun _ _ => rfl) (fun p30 => (ty_env [some (.own (List.map PyData.int p30.2)), some (.bor (PyData.int size)), some (.sh (PyData.int p1.1.1)), some (.own (List.map PyData.int s8.2.1)), some (.own (List.map PyData.int s8.2.2)), some (.sh (PyData.int x9)), some (.sh (PyData.int many_10)), some (.sh (PyData.int p11.1.1)), some (.sh (PyData.int p11.1.2.1)), some (.sh (PyData.int p30.1)), none] rfl (ty_setW (u := (uL PyData.int 0)) (w := p30.2) rfl (tw_d2 (tw_dN (taw_cons (tw_callWN (sp := sp__law_turn) rfl (fun (p31 : Unit × Int × Unit) (w32 : (List Int)) => (w32, p31.2.1)) (fun _ o => o) (taw_cons (tw_ofS (ty_vo rfl)) (fun _ => (taw_cons (tw_ofS (ty_v PyData.int many_10 rfl)) (fun _ => taw_nil)))) (fun _ _ => ⟨rfl, rfl⟩) (fun _ _ _ => rfl)) (fun _ => (taw_cons (tw_ofS (ty_v PyData.int p11.1.1 rfl)) (fun _ => (taw_cons (tw_ofS (ty_v PyData.int p11.1.2.1 rfl)) (fun _ => (taw_cons (tw_ofS (ty_v PyData.int p30.1 rfl)) (fun _ => (taw_cons (tw_ofS (ty_d2 (ty_v PyData.int many_10 rfl) ty_cI (fun _ _ => o_fdiv rfl rfl))) (fun _ => (taw_cons (tw_callWN (sp := sp__law_turn) rfl (fun (p37 : Unit × Int × Unit) (w38 : (List Int)) => (w38, p37.2.1)) (fun _ o => o) (taw_cons (tw_ofS (ty_vo rfl)) (fun _ => (taw_cons (tw_ofS (ty_v PyData.int many_10 rfl)) (fun _ => taw_nil)))) (fun _ _ => ⟨rfl, rfl⟩) (fun _ _ _ => rfl)) (fun _ => taw_nil)))))))))))) (fun p46 _ => o_lst (e := PyData.int) [p46.1, p46.2.1, p46.2.2.1, p46.2.2.2.1, p46.2.2.2.2.1, p46.2.2.2.2.2.1] rfl (le_line 6 rfl))) (fun _ => (tw_ofS (ty_v PyData.int p1.1.1 rfl))) (fun v49 _ _ => o_ix_own PyData.int v49 rfl rfl)) (fun _ _ => rfl) (fun p51 => (ty_env [some (.own (List.map PyData.int p51.2)), some (.bor (PyData.int size)), some (.sh (PyData.int p1.1.1)), some (.own (List.map PyData.int s8.2.1)), some (.own (List.map PyData.int s8.2.2)), some (.sh (PyData.int x9)), some (.sh (PyData.int many_10)), some (.sh (PyData.int p11.1.1)), some (.sh (PyData.int p11.1.2.1)), some (.sh (PyData.int p30.1)), some (.sh (PyData.int p51.1))] rfl (ty_exprW (u := (uL PyData.int 3)) (w := s8.2.1) rfl (tw_app (e := PyData.int) (fun a53 => a53) rfl (ty_d2 (ty_vo rfl) (ty_v PyData.int p51.1 rfl) (fun v52 _ => o_ix_own PyData.int s8.2.2 rfl rfl)) (fun _ => rfl) rfl) (fun p56 => (ty_env [some (.own (List.map PyData.int p51.2)), some (.bor (PyData.int size)), some (.sh (PyData.int p1.1.1)), some (.own (List.map PyData.int p56.2)), some (.own (List.map PyData.int s8.2.2)), some (.sh (PyData.int x9)), some (.sh (PyData.int many_10)), some (.sh (PyData.int p11.1.1)), some (.sh (PyData.int p11.1.2.1)), some (.sh (PyData.int p30.1)), some (.sh (PyData.int p51.1))] rfl (ty_set (ty_d2 (ty_sl (ty_vo rfl) to_no (to_part (ty_d2 (ty_v PyData.int p51.1 rfl) ty_cI (fun _ _ => o_addI rfl rfl)) (fun _ => rfl)) (fun v57 => o_slL PyData.int s8.2.2 rfl rfl)) (ty_dN (ta_cons (ty_v PyData.int x9 rfl) ta_nil) (fun p58 => o_lst (e := PyData.int) [p58.1] rfl (le_line 1 rfl))) (fun _ _ => o_addL (e := PyData.int) rfl rfl rfl rfl)) (fun _ => rfl) (fun some_59 => (ty_endN (p51.2, p56.2, some_59) rfl)))))))))))))))))))) (fun s60 => (ty_env [some (.own (List.map PyData.int s60.1)), some (.bor (PyData.int size)), some (.sh (PyData.int p1.1.1)), some (.own (List.map PyData.int s60.2.1)), some (.own (List.map PyData.int s60.2.2)), none, none, none, none, none, none] rfl (ty_ret (fun a61 => (s60.2.1, s60.1)) (ty_vo rfl) (fun _ => rfl) (fun _ => ⟨rfl, rfl⟩)))))))))
  exact h
theorem pure__law_grown : ∀ ss Q E, sp__law_grown ss Q E → t__law_grown (excK [0] E) (ss.map some ++ List.replicate (11 - 2) none) ⟨fun n => retK [0] Q (.sh .none) n, retK [0] Q, fun _ => False, fun _ => False⟩ := pureW (io := [0]) (fun _ => rfl) (fun _ => rfl) fun a => T__law_grown a.1 a.2

def ms__law_log_text : List Md := [.ro]
noncomputable def f__law_log_text (links : (List Int)) : R PySem.Str := (if (decide ((1 : Int) < (List.length links : Int))) = true then ((chk (List.length (cutL links (some (1 : Int)) none) ≤ sizeLine) (cutL links (some (1 : Int)) none)).bind fun l5 => lcR (fun _ => .ok true) (fun x4 : Int => strR x4) l5).bind fun a6 => joinR (" " : PySem.Str) a6 else .ok ("-" : PySem.Str))
def sp__law_log_text : DSp := spT (fun a : (List Int) => [.bor ((eL PyData.int) a)]) (fun r : PySem.Str => .sh (PyData.str r)) fun a => f__law_log_text a
theorem mono__law_log_text : MonoSp sp__law_log_text := spT_mono
theorem len__law_log_text : ∀ ss Q E, sp__law_log_text ss Q E → ss.length = 1 := spT_len fun _ => rfl
def t__law_log_text : DS := (dSeq (dRet (dIf (tst (dGt (dN (daCons (dVar 0) daNil) kLen) (dC (.int 1)))) (dTx (dC (.str " ")) (dLc [1] [1] (iLst (dSl (dVar 0) (doPart (dC (.int 1))) doNo) 1) dYes (dN (daCons (dVar 1) daNil) (kF1 fStr))) kJoin) (dC (.str "-")))) dNext)
theorem T__law_log_text (links : (List Int)) : TyB (mT (rt0 (fun r : PySem.Str => .sh (PyData.str r))) xt0) t__law_log_text [some (.bor ((eL PyData.int) links)), none] (f__law_log_text links) := by
  have h : TyB (mT (rt0 (fun r : PySem.Str => .sh (PyData.str r))) xt0) t__law_log_text [some (.bor ((eL PyData.int) links)), none] _ :=
    (ty_retT (ty_if (ty_tst (ty_d2 (ty_dN (ta_cons (ty_vb (eL PyData.int) links rfl) ta_nil) (fun _ => o_lenL (e := PyData.int) rfl)) ty_cI (fun _ _ => o_gt rfl rfl)) (fun _ => rfl)) (ty_tx ty_cS (fun _ => rfl) (ty_lcMR PyData.str [some (.bor ((eL PyData.int) links)), none] (ti_lst PyData.int (fun x3 => x3) (ty_sl (ty_vb (eL PyData.int) links rfl) (to_part ty_cI (fun _ => rfl)) to_no (fun v2 => o_slL PyData.int v2 rfl (perm_bor sclI rfl))) (fun _ => rfl)) rfl rfl (fun x4 => (ty_dN (ta_cons (ty_v PyData.int x4 rfl) ta_nil) (fun _ => o_str rfl))) (fun _ _ => rfl) (fun _ => rfl) (fun _ => rfl)) (fun _ _ => o_join rfl rfl)) ty_cS) (fun _ => rfl) (fun _ => rfl))
  exact h
theorem pure__law_log_text : ∀ ss Q E, sp__law_log_text ss Q E → t__law_log_text (excK [] E) (ss.map some ++ List.replicate (2 - 1) none) ⟨fun n => retK [] Q (.sh .none) n, retK [] Q, fun _ => False, fun _ => False⟩ := pureT fun a => T__law_log_text a

def ms__law_number : List Md := [.ro]
noncomputable def f__law_number (word : PySem.Str) : R (Option Int) := ((((lenS word).bind fun a1 => (if pLe (1 : Int) a1 = true then .ok (pLe a1 (4 : Int)) else .ok false)).bind fun a2 => .ok (!a2)).bind fun a12 => (if a12 = true then .ok true else ((((chk (List.length (chs word) ≤ sizeLine) (chs word)).bind fun l8 => lcR (fun _ => .ok true) (fun x4 : PySem.Str => (((inS x4 ("0123456789" : PySem.Str)).bind fun c5 => .ok (!c5)).bind fun a6 => .ok (a6, ())).bind fun p7 => .ok (if p7.1 = true then (1 : Int) else 0)) l8).bind fun a9 => .ok (a9, ())).bind fun p10 => .ok (List.sum p10.1)).bind fun a11 => .ok (decide ((0 : Int) < a11)))).bind fun c13 => (if c13 = true then .ok none else ((((intR word).bind fun a15 => .ok (a15, ())).bind fun p16 => strR p16.1).bind fun a17 => .ok (eqB a17 word)).bind fun a19 => (if a19 = true then (intR word).bind fun a18 => .ok (some a18) else .ok none))
def sp__law_number : DSp := spT (fun a : PySem.Str => [.bor (PyData.str a)]) (fun r : (Option Int) => .sh ((eO PyData.int) r)) fun a => f__law_number a
theorem mono__law_number : MonoSp sp__law_number := spT_mono
theorem len__law_number : ∀ ss Q E, sp__law_number ss Q E → ss.length = 1 := spT_len fun _ => rfl
def t__law_number : DS := (dSeq (dIfS (dOr (dNot (tst (dChain pLe pLe (dC (.int 1)) (dN (daCons (dVar 0) daNil) kLen) (dC (.int 4))))) (tst (dGt (dN (daCons (dLc [1] [1] (iSt (dVar 0) 1) dYes (dN (daCons (dNin (dVar 1) (dC (.str "0123456789"))) daNil) (kF1 fInt))) daNil) (kF1 fSum)) (dC (.int 0))))) (dSeq (dRet (dC .none)) dNext) dNext) (dSeq (dRet (dIf (tst (dEq (dN (daCons (dN (daCons (dVar 0) daNil) (kF1 fInt)) daNil) (kF1 fStr)) (dVar 0))) (dN (daCons (dVar 0) daNil) (kF1 fInt)) (dC .none))) dNext))
theorem T__law_number (word : PySem.Str) : TyB (mT (rt0 (fun r : (Option Int) => .sh ((eO PyData.int) r))) xt0) t__law_number [some (.bor (PyData.str word)), none] (f__law_number word) := by
  have h : TyB (mT (rt0 (fun r : (Option Int) => .sh ((eO PyData.int) r))) xt0) t__law_number [some (.bor (PyData.str word)), none] _ :=
    (ty_sifD (ty_or (ty_not (ty_tst (ty_chain ty_cI (ty_dN (ta_cons (ty_vb PyData.str word rfl) ta_nil) (fun _ => o_lenS rfl)) ty_cI (fun _ => rfl) (fun _ => rfl) (fun _ => rfl)) (fun _ => rfl))) (ty_tst (ty_d2 (ty_dN (ta_cons (ty_lcMR PyData.int [some (.bor (PyData.str word)), none] (ti_str (ty_vb PyData.str word rfl) (fun _ => rfl)) rfl rfl (fun x4 => (ty_dN (ta_cons (ty_d2 (ty_v PyData.str x4 rfl) ty_cS (fun _ _ => o_ninS rfl rfl)) ta_nil) (fun _ => o_intB rfl))) (fun _ _ => rfl) (fun _ => rfl) (fun _ => rfl)) ta_nil) (fun _ => o_sum rfl)) ty_cI (fun _ _ => o_gt rfl rfl)) (fun _ => rfl))) (ty_assoc (ty_retT (ty_to none (vH (eO PyData.int)) ty_cN rfl) (fun _ => rfl) (fun _ => rfl))) (ty_nx (ty_retT (ty_if (ty_tst (ty_d2 (ty_dN (ta_cons (ty_dN (ta_cons (ty_vb PyData.str word rfl) ta_nil) (fun _ => o_intS rfl)) ta_nil) (fun _ => o_str rfl)) (ty_vb PyData.str word rfl) (fun _ _ => o_eqT (e := PyData.str) eqS rfl rfl)) (fun _ => rfl)) (TyE.mp (ψ := (vH (eO PyData.int))) (ty_dN (ta_cons (ty_vb PyData.str word rfl) ta_nil) (fun _ => o_intS rfl)) (fun a18 => (some a18)) (fun _ => rfl)) (ty_to none (vH (eO PyData.int)) ty_cN rfl)) (fun _ => rfl) (fun _ => rfl))))
  exact h
theorem pure__law_number : ∀ ss Q E, sp__law_number ss Q E → t__law_number (excK [] E) (ss.map some ++ List.replicate (2 - 1) none) ⟨fun n => retK [] Q (.sh .none) n, retK [] Q, fun _ => False, fun _ => False⟩ := pureT fun a => T__law_number a

def ms__law_whole : List Md := [.ro, .ro, .ro]
noncomputable def f__law_whole (value : PyData) (least : Int) (most : Int) : R Bool := (if (isiD (eD value) "int") = true then (if (!(isiD (eD value) "bool")) = true then (asI value).bind fun a1 => (if pLe least a1 = true then .ok (pLe a1 most) else .ok false) else .ok false) else .ok false)
def sp__law_whole : DSp := spT (fun a : PyData × Int × Int => [.bor (eD a.1), .bor (PyData.int a.2.1), .bor (PyData.int a.2.2)]) (fun r : Bool => .sh (PyData.bool r)) fun a => f__law_whole a.1 a.2.1 a.2.2
theorem mono__law_whole : MonoSp sp__law_whole := spT_mono
theorem len__law_whole : ∀ ss Q E, sp__law_whole ss Q E → ss.length = 3 := spT_len fun _ => rfl
def t__law_whole : DS := (dSeq (dRet (vAnd (dIsi (dVar 0) "int") (vAnd (vNot (dIsi (dVar 0) "bool")) (dChain pLe pLe (dVar 1) (dVar 0) (dVar 2))))) dNext)
theorem T__law_whole (value : PyData) (least : Int) (most : Int) : TyB (mT (rt0 (fun r : Bool => .sh (PyData.bool r))) xt0) t__law_whole [some (.bor (eD value)), some (.bor (PyData.int least)), some (.bor (PyData.int most))] (f__law_whole value least most) := by
  have h : TyB (mT (rt0 (fun r : Bool => .sh (PyData.bool r))) xt0) t__law_whole [some (.bor (eD value)), some (.bor (PyData.int least)), some (.bor (PyData.int most))] _ :=
    (ty_retT (ty_vand (ty_d1 (ty_vb eD value rfl) (fun _ => o_isi rfl)) (fun _ => rfl) (ty_vand (ty_vnot (ty_d1 (ty_vb eD value rfl) (fun _ => o_isi rfl)) (fun _ => rfl)) (fun _ => rfl) (ty_chain (ty_vb PyData.int least rfl) (ty_asIb (ty_vb eD value rfl)) (ty_vb PyData.int most rfl) (fun _ => rfl) (fun _ => rfl) (fun _ => rfl)))) (fun _ => rfl) (fun _ => rfl))
  exact h
theorem pure__law_whole : ∀ ss Q E, sp__law_whole ss Q E → t__law_whole (excK [] E) (ss.map some ++ List.replicate (3 - 3) none) ⟨fun n => retK [] Q (.sh .none) n, retK [] Q, fun _ => False, fun _ => False⟩ := pureT fun a => T__law_whole a.1 a.2.1 a.2.2

def ms__law_is_log : List Md := [.ro]
noncomputable def f__law_is_log (value : (List (Option Int))) : R Bool := (if ((!(isiD ((eL (eO PyData.int)) value) "list")) || ((decide ((List.length value : Int) < (1 : Int))) || (decide ((150 : Int) < (List.length value : Int))))) = true then .ok false else (forL (fun (x5 : Int × (Option Int)) (s4 : Unit) => (((f__law_whole ((eO PyData.int) x5.2) (0 : Int) (max (0 : Int) (x5.1 - (1 : Int)))).noE).bind fun a7 => .ok (!a7)).bindSR fun c8 => (if c8 = true then (let a9 := false; .rt a9) else .nx ())) (enumI value) ()).bindT fun s10 => (rngR (1 : Int) (List.length value : Int)).bind fun l31 => (forL (fun (x12 : Int) (s11 : Unit) => (atR value x12).bindSR fun link_14 => ((((((opt link_14).bind fun a15 => .ok (a15 + (1 : Int))).bind fun a16 => .ok (a16, (x12, ()))).bind fun p17 => rngR p17.1 p17.2.1).bind fun l23 => (chk (List.length l23 ≤ sizeLine) l23).bind fun l22 => lcR (fun x18 : Int => ((atR value x18).bind opt).bind fun a20 => (opt link_14).bind fun a21 => .ok (decide (a20 < a21))) (fun x18 : Int => .ok x18) l22).bind fun a26 => .ok (!eqB a26 [])).bindSR fun c27 => (if c27 = true then (let a28 := false; .rt a28) else .nx ())) l31 ()).bindT fun s29 => .ok true)
def sp__law_is_log : DSp := spT (fun a : (List (Option Int)) => [.bor ((eL (eO PyData.int)) a)]) (fun r : Bool => .sh (PyData.bool r)) fun a => f__law_is_log a
theorem mono__law_is_log : MonoSp sp__law_is_log := spT_mono
theorem len__law_is_log : ∀ ss Q E, sp__law_is_log ss Q E → ss.length = 1 := spT_len fun _ => rfl
def t__law_is_log : DS := (dSeq (dIfS (dOr (dNot (tst (dIsi (dVar 0) "list"))) (dOr (tst (dLt (dN (daCons (dVar 0) daNil) kLen) (dC (.int 1)))) (tst (dGt (dN (daCons (dVar 0) daNil) kLen) (dC (.int 150)))))) (dSeq (dRet (dC (.bool false))) dNext) dNext) (dSeq (dPre [] (dFor [1, 2] (iEnm (daCons (dVar 0) daNil) 1 2) (dPost [.no 1, .no 2] (dSeq (dIfS (dNot (tst (dCall ms__law_whole [] sp__law_whole (daCons (dVar 2) (daCons (dC (.int 0)) (daCons (dN (daCons (dC (.int 0)) (daCons (dSub (dVar 1) (dC (.int 1))) daNil)) (kF2 fMax2)) daNil)))))) (dSeq (dRet (dC (.bool false))) dNext) dNext) dNext)))) (dSeq (dPre [] (dFor [1] (iRng rng2 (daCons (dC (.int 1)) (daCons (dN (daCons (dVar 0) daNil) kLen) daNil)) 1) (dPost [.no 1, .no 2] (dSeq (dSet 2 (dIx (dVar 0) (dVar 1))) (dSeq (dIfS (tst (dNe (dLc [3] [3] (iRng rng2 (daCons (dAdd (dVar 2) (dC (.int 1))) (daCons (dVar 1) daNil)) 3) (tst (dLt (dIx (dVar 0) (dVar 3)) (dVar 2))) (dVar 3)) (dLst daNil))) (dSeq (dRet (dC (.bool false))) dNext) dNext) dNext))))) (dSeq (dRet (dC (.bool true))) dNext))))
theorem T__law_is_log (value : (List (Option Int))) : TyB (mT (rt0 (fun r : Bool => .sh (PyData.bool r))) xt0) t__law_is_log [some (.bor ((eL (eO PyData.int)) value)), none, none, none] (f__law_is_log value) := by
  have h : TyB (mT (rt0 (fun r : Bool => .sh (PyData.bool r))) xt0) t__law_is_log [some (.bor ((eL (eO PyData.int)) value)), none, none, none] _ :=
    (ty_env [some (.bor ((eL (eO PyData.int)) value)), none, none, none] rfl (ty_sifD (ty_orP (ty_not (ty_tst (ty_d1 (ty_vb (eL (eO PyData.int)) value rfl) (fun _ => o_isi rfl)) (fun _ => rfl))) (ty_orP (ty_tst (ty_d2 (ty_dN (ta_cons (ty_vb (eL (eO PyData.int)) value rfl) ta_nil) (fun _ => o_lenL (e := (eO PyData.int)) rfl)) ty_cI (fun _ _ => o_lt rfl rfl)) (fun _ => rfl)) (ty_tst (ty_d2 (ty_dN (ta_cons (ty_vb (eL (eO PyData.int)) value rfl) ta_nil) (fun _ => o_lenL (e := (eO PyData.int)) rfl)) ty_cI (fun _ _ => o_gt rfl rfl)) (fun _ => rfl)))) (ty_env [some (.bor ((eL (eO PyData.int)) value)), none, none, none] rfl (ty_assoc (ty_retT ty_cB (fun _ => rfl) (fun _ => rfl)))) (ty_nx (ty_env [some (.bor ((eL (eO PyData.int)) value)), none, none, none] rfl (ty_for (fun _ : Unit => [(1, none), (2, none)]) () rfl (ti_enum (eO PyData.int) (fun p3 => p3.1) (ta_cons (ty_vb (eL (eO PyData.int)) value rfl) ta_nil) (fun _ => rfl) (fun _ => rfl)) rfl rfl (fun x5 s4 => (ty_env [some (.bor ((eL (eO PyData.int)) value)), some (.sh (PyData.int x5.1)), some (.bor ((eO PyData.int) x5.2)), none] rfl (ty_sifD (ty_not (ty_tst (ty_callN (l := [none, none, none]) (sp := sp__law_whole) rfl (fun p6 : (Option Int) × Int × Int × Unit => (((eO PyData.int) p6.1), p6.2.1, p6.2.2.1)) (ta_cons (ty_vb (eO PyData.int) x5.2 rfl) (ta_cons ty_cI (ta_cons (ty_dN (ta_cons ty_cI (ta_cons (ty_d2 (ty_v PyData.int x5.1 rfl) ty_cI (fun _ _ => o_sub rfl rfl)) ta_nil)) (fun _ => o_max2 rfl rfl)) ta_nil))) (fun _ => ⟨rfl, rfl⟩) (fun _ => rfl)) (fun _ => rfl))) (ty_env [some (.bor ((eL (eO PyData.int)) value)), some (.sh (PyData.int x5.1)), some (.bor ((eO PyData.int) x5.2)), none] rfl (ty_assoc (ty_ret (fun a9 => a9) ty_cB (fun _ => rfl) (fun _ => rfl)))) (ty_nx (ty_endS () rfl))))) (fun s10 => (ty_env [some (.bor ((eL (eO PyData.int)) value)), none, none, none] rfl (ty_for (fun _ : Unit => [(1, none), (2, none)]) () rfl (ti_rng2 (ta_cons ty_cI (ta_cons (ty_dN (ta_cons (ty_vb (eL (eO PyData.int)) value rfl) ta_nil) (fun _ => o_lenL (e := (eO PyData.int)) rfl)) ta_nil)) (fun _ => rfl)) rfl rfl (fun x12 s11 => (ty_env [some (.bor ((eL (eO PyData.int)) value)), some (.sh (PyData.int x12)), none, none] rfl (ty_set (ty_d2 (ty_vb (eL (eO PyData.int)) value rfl) (ty_v PyData.int x12 rfl) (fun v13 _ => o_ix_bor (eO PyData.int) v13 rfl rfl)) (fun _ => rfl) (fun link_14 => (ty_env [some (.bor ((eL (eO PyData.int)) value)), some (.sh (PyData.int x12)), some (.bor ((eO PyData.int) link_14)), none] rfl (ty_sifD (ty_tst (ty_d2 (ty_lc PyData.int [some (.bor ((eL (eO PyData.int)) value)), some (.sh (PyData.int x12)), some (.bor ((eO PyData.int) link_14)), none] (ti_rng2 (ta_cons (ty_d2 (ty_unb (e := PyData.int) (ty_vb (eO PyData.int) link_14 rfl)) ty_cI (fun _ _ => o_addI rfl rfl)) (ta_cons (ty_v PyData.int x12 rfl) ta_nil)) (fun _ => rfl)) rfl rfl (fun x18 => (ty_tst (ty_d2 (ty_unb (e := PyData.int) (ty_d2 (ty_vb (eL (eO PyData.int)) value rfl) (ty_v PyData.int x18 rfl) (fun v19 _ => o_ix_bor (eO PyData.int) v19 rfl rfl))) (ty_unb (e := PyData.int) (ty_vb (eO PyData.int) link_14 rfl)) (fun _ _ => o_lt rfl rfl)) (fun _ => rfl))) (fun x18 => (ty_v PyData.int x18 rfl)) (fun _ _ => rfl) (fun _ => rfl) (fun _ => rfl)) (ty_dN ta_nil (fun p25 => o_lst (e := PyData.int) [] rfl (le_line 0 rfl))) (fun _ _ => o_neT (e := (eL PyData.int)) (eqL (layL layI) (by decide)) rfl rfl)) (fun _ => rfl)) (ty_env [some (.bor ((eL (eO PyData.int)) value)), some (.sh (PyData.int x12)), some (.bor ((eO PyData.int) link_14)), none] rfl (ty_assoc (ty_ret (fun a28 => a28) ty_cB (fun _ => rfl) (fun _ => rfl)))) (ty_nx (ty_endS () rfl)))))))) (fun s29 => (ty_env [some (.bor ((eL (eO PyData.int)) value)), none, none, none] rfl (ty_retT ty_cB (fun _ => rfl) (fun _ => rfl))))))))))))
  exact h
theorem pure__law_is_log : ∀ ss Q E, sp__law_is_log ss Q E → t__law_is_log (excK [] E) (ss.map some ++ List.replicate (4 - 1) none) ⟨fun n => retK [] Q (.sh .none) n, retK [] Q, fun _ => False, fun _ => False⟩ := pureT fun a => T__law_is_log a

def ms__law_log_of : List Md := [.ro]
noncomputable def f__law_log_of (text : PySem.Str) : R (Option (List (Option Int))) := (if (eqB text ("-" : PySem.Str)) = true then .ok (some (List.map (fun q => (some q)) [(0 : Int)])) else ((((splitR text (" " : PySem.Str)).bind fun a6 => .ok a6).bind fun l10 => (chk (List.length l10 ≤ sizeLine) l10).bind fun l9 => lcR (fun _ => .ok true) (fun x7 : PySem.Str => (f__law_number x7).noE) l9).bind fun a12 => catL [(some (0 : Int))] a12).bind fun links_13 => ((f__law_is_log links_13).noE).bind fun a16 => (if a16 = true then .ok (some links_13) else .ok none))
def sp__law_log_of : DSp := spT (fun a : PySem.Str => [.bor (PyData.str a)]) (fun r : (Option (List (Option Int))) => .sh ((eO (eL (eO PyData.int))) r)) fun a => f__law_log_of a
theorem mono__law_log_of : MonoSp sp__law_log_of := spT_mono
theorem len__law_log_of : ∀ ss Q E, sp__law_log_of ss Q E → ss.length = 1 := spT_len fun _ => rfl
def t__law_log_of : DS := (dSeq (dIfS (tst (dEq (dVar 0) (dC (.str "-")))) (dSeq (dRet (dShr (dLst (daCons (dC (.int 0)) daNil)))) dNext) dNext) (dSeq (dSet 1 (dAdd (dLst (daCons (dC (.int 0)) daNil)) (dLc [2] [2] (iLst (dTx (dVar 0) (dC (.str " ")) kSplit) 2) dYes (dCall ms__law_number [] sp__law_number (daCons (dVar 2) daNil))))) (dSeq (dPre [.fr 1] (dRet (dIf (tst (dCall ms__law_is_log [] sp__law_is_log (daCons (dVar 1) daNil))) (dVar 1) (dC .none)))) dNext)))
theorem T__law_log_of (text : PySem.Str) : TyB (mT (rt0 (fun r : (Option (List (Option Int))) => .sh ((eO (eL (eO PyData.int))) r))) xt0) t__law_log_of [some (.bor (PyData.str text)), none, none] (f__law_log_of text) := by
  have h : TyB (mT (rt0 (fun r : (Option (List (Option Int))) => .sh ((eO (eL (eO PyData.int))) r))) xt0) t__law_log_of [some (.bor (PyData.str text)), none, none] _ :=
    (ty_sifD (ty_tst (ty_d2 (ty_vb PyData.str text rfl) ty_cS (fun _ _ => o_eqT (e := PyData.str) eqS rfl rfl)) (fun _ => rfl)) (ty_assoc (ty_retT (ty_to (some (List.map (fun q => (some q)) [(0 : Int)])) (vH (eO (eL (eO PyData.int)))) (ty_shrO PyData.int (ty_dN (ta_cons ty_cI ta_nil) (fun p2 => o_lst (e := PyData.int) [p2.1] rfl (le_line 1 rfl)))) rfl) (fun _ => rfl) (fun _ => rfl))) (ty_nx (ty_set (ty_d2 (ty_dN (ta_cons (ty_to (some (0 : Int)) (vH (eO PyData.int)) ty_cI rfl) ta_nil) (fun p11 => o_lst (e := (eO PyData.int)) [p11.1] rfl (le_line 1 rfl))) (ty_lcMR (eO PyData.int) [some (.bor (PyData.str text)), none, none] (ti_lst PyData.str (fun x5 => x5) (ty_tx (ty_vb PyData.str text rfl) (fun _ => rfl) ty_cS (fun _ _ => o_split rfl rfl)) (fun _ => rfl)) rfl rfl (fun x7 => (ty_callN (l := [none]) (sp := sp__law_number) rfl (fun p8 : PySem.Str × Unit => p8.1) (ta_cons (ty_v PyData.str x7 rfl) ta_nil) (fun _ => ⟨rfl, rfl⟩) (fun _ => rfl))) (fun _ _ => rfl) (fun _ => rfl) (fun _ => rfl)) (fun _ _ => o_addL (e := (eO PyData.int)) rfl rfl rfl rfl)) (fun _ => rfl) (fun links_13 => (ty_pre rfl (ty_retT (ty_if (ty_tst (ty_callN (l := [none]) (sp := sp__law_is_log) rfl (fun p15 : (List (Option Int)) × Unit => p15.1) (ta_cons (ty_v (eL (eO PyData.int)) links_13 rfl) ta_nil) (fun _ => ⟨rfl, rfl⟩) (fun _ => rfl)) (fun _ => rfl)) (ty_to (some links_13) (vH (eO (eL (eO PyData.int)))) (ty_v (eL (eO PyData.int)) links_13 rfl) rfl) (ty_to none (vH (eO (eL (eO PyData.int)))) ty_cN rfl)) (fun _ => rfl) (fun _ => rfl)))))))
  exact h
theorem pure__law_log_of : ∀ ss Q E, sp__law_log_of ss Q E → t__law_log_of (excK [] E) (ss.map some ++ List.replicate (3 - 1) none) ⟨fun n => retK [] Q (.sh .none) n, retK [] Q, fun _ => False, fun _ => False⟩ := pureT fun a => T__law_log_of a

def ms__law_odd : List Md := [.io]
noncomputable def f__law_odd (reel : (List Int)) : R (PyData × (List Int)) := (((((((((powI (10 : Int) (60 : Int)).bind fun a6 => .ok (PyData.int a6)).bind fun a7 => .ok (a7, ((PyData.str ("" : PySem.Str)), ((PyData.str ("0" : PySem.Str)), ((PyData.str ("a" : PySem.Str)), ((PyData.str ("0 1 9" : PySem.Str)), ((PyData.str ("-1" : PySem.Str)), ((PyData.str ("0 " : PySem.Str)), ((eT0 ()), ((PyData.dict []), (((eL eD) []), (((eL eU) [()]), (((eL PyData.bool) [true]), (((eL PyData.int) [(1 : Int)]), ())))))))))))))).bind fun r8 => .ok ((PyData.int (151 : Int)), r8)).bind fun r9 => .ok ((PyData.int (-(1 : Int))), r9)).bind fun r10 => .ok ((PyData.bool false), r10)).bind fun r11 => .ok ((PyData.bool true), r11)).bind fun r12 => .ok ((eU ()), r12)).bind fun p14 => .ok [p14.1, p14.2.1, p14.2.2.1, p14.2.2.2.1, p14.2.2.2.2.1, p14.2.2.2.2.2.1, p14.2.2.2.2.2.2.1, p14.2.2.2.2.2.2.2.1, p14.2.2.2.2.2.2.2.2.1, p14.2.2.2.2.2.2.2.2.2.1, p14.2.2.2.2.2.2.2.2.2.2.1, p14.2.2.2.2.2.2.2.2.2.2.2.1, p14.2.2.2.2.2.2.2.2.2.2.2.2.1, p14.2.2.2.2.2.2.2.2.2.2.2.2.2.1, p14.2.2.2.2.2.2.2.2.2.2.2.2.2.2.1, p14.2.2.2.2.2.2.2.2.2.2.2.2.2.2.2.1, p14.2.2.2.2.2.2.2.2.2.2.2.2.2.2.2.2.1, p14.2.2.2.2.2.2.2.2.2.2.2.2.2.2.2.2.2.1]).bind fun some_15 => (catL some_15 [((eL eD) [(PyData.int (0 : Int)), (PyData.bool true)]), ((eL PyData.int) [(0 : Int), (-(1 : Int))]), ((eL PyData.int) [(0 : Int), (1 : Int)]), ((eL PyData.str) [("0" : PySem.Str)]), ((eL PyData.int) [(0 : Int), (0 : Int), (0 : Int), (1 : Int)]), ((eT1 PyData.int) (0 : Int)), ((eL eD) [(PyData.int (0 : Int)), ((eL PyData.int) [(0 : Int)])]), ((eL (eO PyData.int)) [(some (0 : Int)), none]), ((eK PyData.str PyData.int) (mergeT [] [(("0" : PySem.Str), (0 : Int))])), ((eL (eL PyData.int)) [[(0 : Int)]])]).bind fun some_29 => (((((repL [(0 : Int)] (151 : Int)).bind fun a35 => .ok ((eL PyData.int) a35)).bind fun a36 => .ok (a36, (((eL eD) [(PyData.int (0 : Int)), (PyData.int (0 : Int)), (PyData.str ("1" : PySem.Str))]), (((eL PyData.bool) [false]), ((PyData.str ("0 0 1" : PySem.Str)), ((PyData.str ("00" : PySem.Str)), ((PyData.str (">" : PySem.Str)), ((PyData.str ("-0" : PySem.Str)), ((PyData.str ("+1" : PySem.Str)), (((eK PyData.int PyData.int) (mergeT [] [((0 : Int), (0 : Int))])), (((eL PyData.int) [(0 : Int), (0 : Int), (2 : Int), (1 : Int)]), ()))))))))))).bind fun p38 => .ok [p38.1, p38.2.1, p38.2.2.1, p38.2.2.2.1, p38.2.2.2.2.1, p38.2.2.2.2.2.1, p38.2.2.2.2.2.2.1, p38.2.2.2.2.2.2.2.1, p38.2.2.2.2.2.2.2.2.1, p38.2.2.2.2.2.2.2.2.2.1]).bind fun a39 => catL some_29 a39).bind fun some_40 => ((((f__law_turn reel (List.length some_40 : Int)).noE).bind fun q43 => .ok (q43.1, q43.2)).bind fun q44 => (atR some_40 q44.1).bind fun c46 => .ok (c46, q44.2)).bind fun p47 => .ok (p47.1, p47.2)
def sp__law_odd : DSp := spW (fun a : (List Int) => [.own (List.map PyData.int a)]) (fun r : PyData => .sh (eD r)) (fun w : (List Int) => [some (.own (List.map PyData.int w))]) (fun a : (List Int) => [some (.own (List.map PyData.int a))]) fun a => f__law_odd a
theorem mono__law_odd : MonoSp sp__law_odd := spW_mono
theorem len__law_odd : ∀ ss Q E, sp__law_odd ss Q E → ss.length = 1 := spW_len fun _ => rfl
def t__law_odd : DS := (dSeq (dSet 1 (dLst (daCons (dC .none) (daCons (dC (.bool true)) (daCons (dC (.bool false)) (daCons (d1 (dC (.int 1)) kNeg) (daCons (dC (.int 151)) (daCons (dPow (dC (.int 10)) (dC (.int 60))) (daCons (dC (.str "")) (daCons (dC (.str "0")) (daCons (dC (.str "a")) (daCons (dC (.str "0 1 9")) (daCons (dC (.str "-1")) (daCons (dC (.str "0 ")) (daCons (dTup daNil) (daCons (dShr dDct0) (daCons (dShr (dLst daNil)) (daCons (dShr (dLst (daCons (dC .none) daNil))) (daCons (dShr (dLst (daCons (dC (.bool true)) daNil))) (daCons (dShr (dLst (daCons (dC (.int 1)) daNil))) daNil)))))))))))))))))))) (dSeq (dSet 1 (dAdd (dVar 1) (dLst (daCons (dShr (dLst (daCons (dC (.int 0)) (daCons (dC (.bool true)) daNil)))) (daCons (dShr (dLst (daCons (dC (.int 0)) (daCons (d1 (dC (.int 1)) kNeg) daNil)))) (daCons (dShr (dLst (daCons (dC (.int 0)) (daCons (dC (.int 1)) daNil)))) (daCons (dShr (dLst (daCons (dC (.str "0")) daNil))) (daCons (dShr (dLst (daCons (dC (.int 0)) (daCons (dC (.int 0)) (daCons (dC (.int 0)) (daCons (dC (.int 1)) daNil)))))) (daCons (dTup (daCons (dC (.int 0)) daNil)) (daCons (dShr (dLst (daCons (dC (.int 0)) (daCons (dShr (dLst (daCons (dC (.int 0)) daNil))) daNil)))) (daCons (dShr (dLst (daCons (dC (.int 0)) (daCons (dC .none) daNil)))) (daCons (dShr (dDct [((dC (.str "0")), (dC (.int 0)))])) (daCons (dShr (dLst (daCons (dLst (daCons (dC (.int 0)) daNil)) daNil))) daNil))))))))))))) (dSeq (dSet 1 (dAdd (dVar 1) (dLst (daCons (dShr (dMul (dLst (daCons (dC (.int 0)) daNil)) (dC (.int 151)))) (daCons (dShr (dLst (daCons (dC (.int 0)) (daCons (dC (.int 0)) (daCons (dC (.str "1")) daNil))))) (daCons (dShr (dLst (daCons (dC (.bool false)) daNil))) (daCons (dC (.str "0 0 1")) (daCons (dC (.str "00")) (daCons (dC (.str ">")) (daCons (dC (.str "-0")) (daCons (dC (.str "+1")) (daCons (dShr (dDct [((dC (.int 0)), (dC (.int 0)))])) (daCons (dShr (dLst (daCons (dC (.int 0)) (daCons (dC (.int 0)) (daCons (dC (.int 2)) (daCons (dC (.int 1)) daNil)))))) daNil))))))))))))) (dSeq (dRet (dIx (dVar 1) (dCall ms__law_turn [] sp__law_turn (daCons (dVar 0) (daCons (dN (daCons (dVar 1) daNil) kLen) daNil))))) dNext))))
theorem T__law_odd (reel : (List Int)) : TyB (mT (rtW [0] (fun r : PyData => .sh (eD r)) (fun w : (List Int) => [some (.own (List.map PyData.int w))])) (xtW [0] [some (.own (List.map PyData.int reel))])) t__law_odd [some (.own (List.map PyData.int reel)), none] (f__law_odd reel) := by
  have h : TyB (mT (rtW [0] (fun r : PyData => .sh (eD r)) (fun w : (List Int) => [some (.own (List.map PyData.int w))])) (xtW [0] [some (.own (List.map PyData.int reel))])) t__law_odd [some (.own (List.map PyData.int reel)), none] _ :=
    (ty_set (ty_dN (ta_cons (ty_to (eU ()) (vH eD) ty_cN rfl) (ta_cons (ty_to (PyData.bool true) (vH eD) ty_cB rfl) (ta_cons (ty_to (PyData.bool false) (vH eD) ty_cB rfl) (ta_cons (ty_to (PyData.int (-(1 : Int))) (vH eD) (ty_d1 ty_cI (fun _ => o_neg rfl)) rfl) (ta_cons (ty_to (PyData.int (151 : Int)) (vH eD) ty_cI rfl) (ta_cons (TyE.mp (ψ := (vH eD)) (ty_d2 ty_cI ty_cI (fun _ _ => o_pow rfl rfl)) (fun a6 => (PyData.int a6)) (fun _ => rfl)) (ta_cons (ty_to (PyData.str ("" : PySem.Str)) (vH eD) ty_cS rfl) (ta_cons (ty_to (PyData.str ("0" : PySem.Str)) (vH eD) ty_cS rfl) (ta_cons (ty_to (PyData.str ("a" : PySem.Str)) (vH eD) ty_cS rfl) (ta_cons (ty_to (PyData.str ("0 1 9" : PySem.Str)) (vH eD) ty_cS rfl) (ta_cons (ty_to (PyData.str ("-1" : PySem.Str)) (vH eD) ty_cS rfl) (ta_cons (ty_to (PyData.str ("0 " : PySem.Str)) (vH eD) ty_cS rfl) (ta_cons (ty_to (eT0 ()) (vH eD) (ty_dN ta_nil (fun p1 => o_tup0 rfl)) rfl) (ta_cons (ty_to (PyData.dict []) (vH eD) (ty_shrK PyData.int eD (ty_dct0 PyData.int eD)) rfl) (ta_cons (ty_to ((eL eD) []) (vH eD) (ty_shrO eD (ty_dN ta_nil (fun p2 => o_lst (e := eD) [] rfl (le_line 0 rfl)))) rfl) (ta_cons (ty_to ((eL eU) [()]) (vH eD) (ty_shrO eU (ty_dN (ta_cons ty_cN ta_nil) (fun p3 => o_lst (e := eU) [p3.1] rfl (le_line 1 rfl)))) rfl) (ta_cons (ty_to ((eL PyData.bool) [true]) (vH eD) (ty_shrO PyData.bool (ty_dN (ta_cons ty_cB ta_nil) (fun p4 => o_lst (e := PyData.bool) [p4.1] rfl (le_line 1 rfl)))) rfl) (ta_cons (ty_to ((eL PyData.int) [(1 : Int)]) (vH eD) (ty_shrO PyData.int (ty_dN (ta_cons ty_cI ta_nil) (fun p5 => o_lst (e := PyData.int) [p5.1] rfl (le_line 1 rfl)))) rfl) ta_nil)))))))))))))))))) (fun p13 => o_lst (e := eD) [p13.1, p13.2.1, p13.2.2.1, p13.2.2.2.1, p13.2.2.2.2.1, p13.2.2.2.2.2.1, p13.2.2.2.2.2.2.1, p13.2.2.2.2.2.2.2.1, p13.2.2.2.2.2.2.2.2.1, p13.2.2.2.2.2.2.2.2.2.1, p13.2.2.2.2.2.2.2.2.2.2.1, p13.2.2.2.2.2.2.2.2.2.2.2.1, p13.2.2.2.2.2.2.2.2.2.2.2.2.1, p13.2.2.2.2.2.2.2.2.2.2.2.2.2.1, p13.2.2.2.2.2.2.2.2.2.2.2.2.2.2.1, p13.2.2.2.2.2.2.2.2.2.2.2.2.2.2.2.1, p13.2.2.2.2.2.2.2.2.2.2.2.2.2.2.2.2.1, p13.2.2.2.2.2.2.2.2.2.2.2.2.2.2.2.2.2.1] rfl (le_line 18 rfl))) (fun _ => rfl) (fun some_15 => (ty_set (ty_d2 (ty_vo rfl) (ty_dN (ta_cons (ty_to ((eL eD) [(PyData.int (0 : Int)), (PyData.bool true)]) (vH eD) (ty_shrO eD (ty_dN (ta_cons (ty_to (PyData.int (0 : Int)) (vH eD) ty_cI rfl) (ta_cons (ty_to (PyData.bool true) (vH eD) ty_cB rfl) ta_nil)) (fun p16 => o_lst (e := eD) [p16.1, p16.2.1] rfl (le_line 2 rfl)))) rfl) (ta_cons (ty_to ((eL PyData.int) [(0 : Int), (-(1 : Int))]) (vH eD) (ty_shrO PyData.int (ty_dN (ta_cons ty_cI (ta_cons (ty_d1 ty_cI (fun _ => o_neg rfl)) ta_nil)) (fun p17 => o_lst (e := PyData.int) [p17.1, p17.2.1] rfl (le_line 2 rfl)))) rfl) (ta_cons (ty_to ((eL PyData.int) [(0 : Int), (1 : Int)]) (vH eD) (ty_shrO PyData.int (ty_dN (ta_cons ty_cI (ta_cons ty_cI ta_nil)) (fun p18 => o_lst (e := PyData.int) [p18.1, p18.2.1] rfl (le_line 2 rfl)))) rfl) (ta_cons (ty_to ((eL PyData.str) [("0" : PySem.Str)]) (vH eD) (ty_shrO PyData.str (ty_dN (ta_cons ty_cS ta_nil) (fun p19 => o_lst (e := PyData.str) [p19.1] rfl (le_line 1 rfl)))) rfl) (ta_cons (ty_to ((eL PyData.int) [(0 : Int), (0 : Int), (0 : Int), (1 : Int)]) (vH eD) (ty_shrO PyData.int (ty_dN (ta_cons ty_cI (ta_cons ty_cI (ta_cons ty_cI (ta_cons ty_cI ta_nil)))) (fun p20 => o_lst (e := PyData.int) [p20.1, p20.2.1, p20.2.2.1, p20.2.2.2.1] rfl (le_line 4 rfl)))) rfl) (ta_cons (ty_to ((eT1 PyData.int) (0 : Int)) (vH eD) (ty_dN (ta_cons ty_cI ta_nil) (fun p21 => o_tup1 PyData.int p21.1 rfl)) rfl) (ta_cons (ty_to ((eL eD) [(PyData.int (0 : Int)), ((eL PyData.int) [(0 : Int)])]) (vH eD) (ty_shrO eD (ty_dN (ta_cons (ty_to (PyData.int (0 : Int)) (vH eD) ty_cI rfl) (ta_cons (ty_to ((eL PyData.int) [(0 : Int)]) (vH eD) (ty_shrO PyData.int (ty_dN (ta_cons ty_cI ta_nil) (fun p22 => o_lst (e := PyData.int) [p22.1] rfl (le_line 1 rfl)))) rfl) ta_nil)) (fun p23 => o_lst (e := eD) [p23.1, p23.2.1] rfl (le_line 2 rfl)))) rfl) (ta_cons (ty_to ((eL (eO PyData.int)) [(some (0 : Int)), none]) (vH eD) (ty_shrO (eO PyData.int) (ty_dN (ta_cons (ty_to (some (0 : Int)) (vH (eO PyData.int)) ty_cI rfl) (ta_cons (ty_to none (vH (eO PyData.int)) ty_cN rfl) ta_nil)) (fun p24 => o_lst (e := (eO PyData.int)) [p24.1, p24.2.1] rfl (le_line 2 rfl)))) rfl) (ta_cons (ty_to ((eK PyData.str PyData.int) (mergeT [] [(("0" : PySem.Str), (0 : Int))])) (vH eD) (ty_shrK PyData.str PyData.int (ty_dN (ta_cons ty_cS (ta_cons ty_cI ta_nil)) (fun p25 => o_dct (ek := PyData.str) (ev := PyData.int) keyS [(p25.1, p25.2.1)] rfl rfl))) rfl) (ta_cons (ty_to ((eL (eL PyData.int)) [[(0 : Int)]]) (vH eD) (ty_shrO (eL PyData.int) (ty_dN (ta_cons (ty_dN (ta_cons ty_cI ta_nil) (fun p26 => o_lst (e := PyData.int) [p26.1] rfl (le_line 1 rfl))) ta_nil) (fun p27 => o_lst (e := (eL PyData.int)) [p27.1] rfl (le_line 1 rfl)))) rfl) ta_nil)))))))))) (fun p28 => o_lst (e := eD) [p28.1, p28.2.1, p28.2.2.1, p28.2.2.2.1, p28.2.2.2.2.1, p28.2.2.2.2.2.1, p28.2.2.2.2.2.2.1, p28.2.2.2.2.2.2.2.1, p28.2.2.2.2.2.2.2.2.1, p28.2.2.2.2.2.2.2.2.2.1] rfl (le_line 10 rfl))) (fun _ _ => o_addL (e := eD) rfl rfl rfl rfl)) (fun _ => rfl) (fun some_29 => (ty_set (ty_d2 (ty_vo rfl) (ty_dN (ta_cons (TyE.mp (ψ := (vH eD)) (ty_shrO PyData.int (ty_d2 (ty_dN (ta_cons ty_cI ta_nil) (fun p30 => o_lst (e := PyData.int) [p30.1] rfl (le_line 1 rfl))) ty_cI (fun _ _ => o_mulL (e := PyData.int) rfl rfl rfl))) (fun a35 => ((eL PyData.int) a35)) (fun _ => rfl)) (ta_cons (ty_to ((eL eD) [(PyData.int (0 : Int)), (PyData.int (0 : Int)), (PyData.str ("1" : PySem.Str))]) (vH eD) (ty_shrO eD (ty_dN (ta_cons (ty_to (PyData.int (0 : Int)) (vH eD) ty_cI rfl) (ta_cons (ty_to (PyData.int (0 : Int)) (vH eD) ty_cI rfl) (ta_cons (ty_to (PyData.str ("1" : PySem.Str)) (vH eD) ty_cS rfl) ta_nil))) (fun p31 => o_lst (e := eD) [p31.1, p31.2.1, p31.2.2.1] rfl (le_line 3 rfl)))) rfl) (ta_cons (ty_to ((eL PyData.bool) [false]) (vH eD) (ty_shrO PyData.bool (ty_dN (ta_cons ty_cB ta_nil) (fun p32 => o_lst (e := PyData.bool) [p32.1] rfl (le_line 1 rfl)))) rfl) (ta_cons (ty_to (PyData.str ("0 0 1" : PySem.Str)) (vH eD) ty_cS rfl) (ta_cons (ty_to (PyData.str ("00" : PySem.Str)) (vH eD) ty_cS rfl) (ta_cons (ty_to (PyData.str (">" : PySem.Str)) (vH eD) ty_cS rfl) (ta_cons (ty_to (PyData.str ("-0" : PySem.Str)) (vH eD) ty_cS rfl) (ta_cons (ty_to (PyData.str ("+1" : PySem.Str)) (vH eD) ty_cS rfl) (ta_cons (ty_to ((eK PyData.int PyData.int) (mergeT [] [((0 : Int), (0 : Int))])) (vH eD) (ty_shrK PyData.int PyData.int (ty_dN (ta_cons ty_cI (ta_cons ty_cI ta_nil)) (fun p33 => o_dct (ek := PyData.int) (ev := PyData.int) keyI [(p33.1, p33.2.1)] rfl rfl))) rfl) (ta_cons (ty_to ((eL PyData.int) [(0 : Int), (0 : Int), (2 : Int), (1 : Int)]) (vH eD) (ty_shrO PyData.int (ty_dN (ta_cons ty_cI (ta_cons ty_cI (ta_cons ty_cI (ta_cons ty_cI ta_nil)))) (fun p34 => o_lst (e := PyData.int) [p34.1, p34.2.1, p34.2.2.1, p34.2.2.2.1] rfl (le_line 4 rfl)))) rfl) ta_nil)))))))))) (fun p37 => o_lst (e := eD) [p37.1, p37.2.1, p37.2.2.1, p37.2.2.2.1, p37.2.2.2.2.1, p37.2.2.2.2.2.1, p37.2.2.2.2.2.2.1, p37.2.2.2.2.2.2.2.1, p37.2.2.2.2.2.2.2.2.1, p37.2.2.2.2.2.2.2.2.2.1] rfl (le_line 10 rfl))) (fun _ _ => o_addL (e := eD) rfl rfl rfl rfl)) (fun _ => rfl) (fun some_40 => (ty_retW (u := (uL PyData.int 0)) (w := reel) (fun p47 => (p47.1, p47.2)) rfl (tw_d2 (tw_ofS (ty_vo rfl)) (fun _ => (tw_callWN (sp := sp__law_turn) rfl (fun (p41 : Unit × Int × Unit) (w42 : (List Int)) => (w42, p41.2.1)) (fun _ o => o) (taw_cons (tw_ofS (ty_vo rfl)) (fun _ => (taw_cons (tw_ofS (ty_dN (ta_cons (ty_vo rfl) ta_nil) (fun _ => o_lenL (e := eD) rfl))) (fun _ => taw_nil)))) (fun _ _ => ⟨rfl, rfl⟩) (fun _ _ _ => rfl))) (fun v45 _ _ => o_ix_own eD some_40 rfl rfl)) (fun _ _ => rfl) (fun _ => ⟨rfl, rfl⟩))))))))
  exact h
theorem pure__law_odd : ∀ ss Q E, sp__law_odd ss Q E → t__law_odd (excK [0] E) (ss.map some ++ List.replicate (2 - 1) none) ⟨fun n => retK [0] Q (.sh .none) n, retK [0] Q, fun _ => False, fun _ => False⟩ := pureW (io := [0]) (fun _ => rfl) (fun _ => rfl) fun a => T__law_odd a

def ms__law_kinds : List Md := []
noncomputable def f__law_kinds (cl : PySem.Str) : R (List PySem.Str) := (let kinds_2 : (List Bool) := [(kbl cl "Crossing"), (kbl cl "Different"), (kbl cl "InvalidBase")]; (catL kinds_2 [(kbl cl "InvalidChain"), (kbl cl "InvalidChange")]).bind fun kinds_4 => (catL kinds_4 [(kbl cl "InvalidCommand"), (kbl cl "InvalidEntry")]).bind fun kinds_6 => (catL kinds_6 [(kbl cl "InvalidKnown"), (kbl cl "InvalidLog")]).bind fun kinds_8 => (catL kinds_8 [(kbl cl "InvalidNumber"), (kbl cl "InvalidPrices")]).bind fun kinds_10 => (catL kinds_10 [(kbl cl "InvalidSize"), (kbl cl "InvalidTag")]).bind fun kinds_12 => (catL kinds_12 [(kbl cl "InvalidTarget"), (kbl cl "InvalidText")]).bind fun kinds_14 => (catL kinds_14 [(kbl cl "NothingToUndo")]).bind fun kinds_16 => (let names_18 : (List PySem.Str) := [("Crossing" : PySem.Str), ("Different" : PySem.Str), ("InvalidBase" : PySem.Str), ("InvalidChain" : PySem.Str), ("InvalidChange" : PySem.Str), ("InvalidCommand" : PySem.Str)]; (catL names_18 [("InvalidEntry" : PySem.Str), ("InvalidKnown" : PySem.Str), ("InvalidLog" : PySem.Str), ("InvalidNumber" : PySem.Str), ("InvalidPrices" : PySem.Str)]).bind fun names_20 => (catL names_20 [("InvalidSize" : PySem.Str), ("InvalidTag" : PySem.Str), ("InvalidTarget" : PySem.Str), ("InvalidText" : PySem.Str), ("NothingToUndo" : PySem.Str)]).bind fun names_22 => (chk (List.length (List.zip names_22 kinds_16) ≤ sizeLine) (List.map (fun x24 : PySem.Str × Bool => x24.1) (List.filter (fun x24 : PySem.Str × Bool => x24.2) (List.zip names_22 kinds_16)))).bind fun found_25 => ((if ((!(kbl cl "BacklinkError")) || (!true)) = true then ((appR found_25 ("odd" : PySem.Str)).bind fun xs29 => .ok ((), xs29)).bind fun p30 => .ok p30.2 else .ok found_25)).bind fun j27 => .ok j27))
def t__law_kinds (cl : PySem.Str) : DS := (dSeq (dSet 1 (dLst (daCons (dC (.bool (kbl cl "Crossing"))) (daCons (dC (.bool (kbl cl "Different"))) (daCons (dC (.bool (kbl cl "InvalidBase"))) daNil))))) (dSeq (dSet 1 (dAdd (dVar 1) (dLst (daCons (dC (.bool (kbl cl "InvalidChain"))) (daCons (dC (.bool (kbl cl "InvalidChange"))) daNil))))) (dSeq (dSet 1 (dAdd (dVar 1) (dLst (daCons (dC (.bool (kbl cl "InvalidCommand"))) (daCons (dC (.bool (kbl cl "InvalidEntry"))) daNil))))) (dSeq (dSet 1 (dAdd (dVar 1) (dLst (daCons (dC (.bool (kbl cl "InvalidKnown"))) (daCons (dC (.bool (kbl cl "InvalidLog"))) daNil))))) (dSeq (dSet 1 (dAdd (dVar 1) (dLst (daCons (dC (.bool (kbl cl "InvalidNumber"))) (daCons (dC (.bool (kbl cl "InvalidPrices"))) daNil))))) (dSeq (dSet 1 (dAdd (dVar 1) (dLst (daCons (dC (.bool (kbl cl "InvalidSize"))) (daCons (dC (.bool (kbl cl "InvalidTag"))) daNil))))) (dSeq (dSet 1 (dAdd (dVar 1) (dLst (daCons (dC (.bool (kbl cl "InvalidTarget"))) (daCons (dC (.bool (kbl cl "InvalidText"))) daNil))))) (dSeq (dSet 1 (dAdd (dVar 1) (dLst (daCons (dC (.bool (kbl cl "NothingToUndo"))) daNil)))) (dSeq (dSet 2 (dLst (daCons (dC (.str "Crossing")) (daCons (dC (.str "Different")) (daCons (dC (.str "InvalidBase")) (daCons (dC (.str "InvalidChain")) (daCons (dC (.str "InvalidChange")) (daCons (dC (.str "InvalidCommand")) daNil)))))))) (dSeq (dSet 2 (dAdd (dVar 2) (dLst (daCons (dC (.str "InvalidEntry")) (daCons (dC (.str "InvalidKnown")) (daCons (dC (.str "InvalidLog")) (daCons (dC (.str "InvalidNumber")) (daCons (dC (.str "InvalidPrices")) daNil)))))))) (dSeq (dSet 2 (dAdd (dVar 2) (dLst (daCons (dC (.str "InvalidSize")) (daCons (dC (.str "InvalidTag")) (daCons (dC (.str "InvalidTarget")) (daCons (dC (.str "InvalidText")) (daCons (dC (.str "NothingToUndo")) daNil)))))))) (dSeq (dSet 3 (dLc [4, 5] [4, 5] (iZp (daCons (dVar 2) (daCons (dVar 1) daNil)) 4 5) (tst (dVar 5)) (dVar 4))) (dSeq (dPost [] (dIfS (dOr (dNot (tst (dC (.bool (kbl cl "BacklinkError"))))) (dNot (tst (dC (.bool true))))) (dSeq (dExpr (dMut 3 (daCons (dC (.str "odd")) daNil) (kApp 3))) dNext) dNext)) (dSeq (dRet (dVar 3)) dNext))))))))))))))
theorem T__law_kinds (cl : PySem.Str) : TyB (mT (rt0 (fun r : List PySem.Str => Sl.own (List.map PyData.str r))) xt0) (t__law_kinds cl) [none, none, none, none, none, none] (f__law_kinds cl) := by
  have h : TyB (mT (rt0 (fun r : List PySem.Str => Sl.own (List.map PyData.str r))) xt0) (t__law_kinds cl) [none, none, none, none, none, none] _ :=
    (ty_env [none, none, none, none, none, none] rfl (ty_set (ty_dN (ta_cons ty_cB (ta_cons ty_cB (ta_cons ty_cB ta_nil))) (fun p1 => o_lst (e := PyData.bool) [p1.1, p1.2.1, p1.2.2.1] rfl (le_line 3 rfl))) (fun _ => rfl) (fun kinds_2 => (ty_env [none, some (.own (List.map PyData.bool kinds_2)), none, none, none, none] rfl (ty_set (ty_d2 (ty_vo rfl) (ty_dN (ta_cons ty_cB (ta_cons ty_cB ta_nil)) (fun p3 => o_lst (e := PyData.bool) [p3.1, p3.2.1] rfl (le_line 2 rfl))) (fun _ _ => o_addL (e := PyData.bool) rfl rfl rfl rfl)) (fun _ => rfl) (fun kinds_4 => (ty_env [none, some (.own (List.map PyData.bool kinds_4)), none, none, none, none] rfl (ty_set (ty_d2 (ty_vo rfl) (ty_dN (ta_cons ty_cB (ta_cons ty_cB ta_nil)) (fun p5 => o_lst (e := PyData.bool) [p5.1, p5.2.1] rfl (le_line 2 rfl))) (fun _ _ => o_addL (e := PyData.bool) rfl rfl rfl rfl)) (fun _ => rfl) (fun kinds_6 => (ty_env [none, some (.own (List.map PyData.bool kinds_6)), none, none, none, none] rfl (ty_set (ty_d2 (ty_vo rfl) (ty_dN (ta_cons ty_cB (ta_cons ty_cB ta_nil)) (fun p7 => o_lst (e := PyData.bool) [p7.1, p7.2.1] rfl (le_line 2 rfl))) (fun _ _ => o_addL (e := PyData.bool) rfl rfl rfl rfl)) (fun _ => rfl) (fun kinds_8 => (ty_env [none, some (.own (List.map PyData.bool kinds_8)), none, none, none, none] rfl (ty_set (ty_d2 (ty_vo rfl) (ty_dN (ta_cons ty_cB (ta_cons ty_cB ta_nil)) (fun p9 => o_lst (e := PyData.bool) [p9.1, p9.2.1] rfl (le_line 2 rfl))) (fun _ _ => o_addL (e := PyData.bool) rfl rfl rfl rfl)) (fun _ => rfl) (fun kinds_10 => (ty_env [none, some (.own (List.map PyData.bool kinds_10)), none, none, none, none] rfl (ty_set (ty_d2 (ty_vo rfl) (ty_dN (ta_cons ty_cB (ta_cons ty_cB ta_nil)) (fun p11 => o_lst (e := PyData.bool) [p11.1, p11.2.1] rfl (le_line 2 rfl))) (fun _ _ => o_addL (e := PyData.bool) rfl rfl rfl rfl)) (fun _ => rfl) (fun kinds_12 => (ty_env [none, some (.own (List.map PyData.bool kinds_12)), none, none, none, none] rfl (ty_set (ty_d2 (ty_vo rfl) (ty_dN (ta_cons ty_cB (ta_cons ty_cB ta_nil)) (fun p13 => o_lst (e := PyData.bool) [p13.1, p13.2.1] rfl (le_line 2 rfl))) (fun _ _ => o_addL (e := PyData.bool) rfl rfl rfl rfl)) (fun _ => rfl) (fun kinds_14 => (ty_env [none, some (.own (List.map PyData.bool kinds_14)), none, none, none, none] rfl (ty_set (ty_d2 (ty_vo rfl) (ty_dN (ta_cons ty_cB ta_nil) (fun p15 => o_lst (e := PyData.bool) [p15.1] rfl (le_line 1 rfl))) (fun _ _ => o_addL (e := PyData.bool) rfl rfl rfl rfl)) (fun _ => rfl) (fun kinds_16 => (ty_env [none, some (.own (List.map PyData.bool kinds_16)), none, none, none, none] rfl (ty_set (ty_dN (ta_cons ty_cS (ta_cons ty_cS (ta_cons ty_cS (ta_cons ty_cS (ta_cons ty_cS (ta_cons ty_cS ta_nil)))))) (fun p17 => o_lst (e := PyData.str) [p17.1, p17.2.1, p17.2.2.1, p17.2.2.2.1, p17.2.2.2.2.1, p17.2.2.2.2.2.1] rfl (le_line 6 rfl))) (fun _ => rfl) (fun names_18 => (ty_env [none, some (.own (List.map PyData.bool kinds_16)), some (.own (List.map PyData.str names_18)), none, none, none] rfl (ty_set (ty_d2 (ty_vo rfl) (ty_dN (ta_cons ty_cS (ta_cons ty_cS (ta_cons ty_cS (ta_cons ty_cS (ta_cons ty_cS ta_nil))))) (fun p19 => o_lst (e := PyData.str) [p19.1, p19.2.1, p19.2.2.1, p19.2.2.2.1, p19.2.2.2.2.1] rfl (le_line 5 rfl))) (fun _ _ => o_addL (e := PyData.str) rfl rfl rfl rfl)) (fun _ => rfl) (fun names_20 => (ty_env [none, some (.own (List.map PyData.bool kinds_16)), some (.own (List.map PyData.str names_20)), none, none, none] rfl (ty_set (ty_d2 (ty_vo rfl) (ty_dN (ta_cons ty_cS (ta_cons ty_cS (ta_cons ty_cS (ta_cons ty_cS (ta_cons ty_cS ta_nil))))) (fun p21 => o_lst (e := PyData.str) [p21.1, p21.2.1, p21.2.2.1, p21.2.2.2.1, p21.2.2.2.2.1] rfl (le_line 5 rfl))) (fun _ _ => o_addL (e := PyData.str) rfl rfl rfl rfl)) (fun _ => rfl) (fun names_22 => (ty_env [none, some (.own (List.map PyData.bool kinds_16)), some (.own (List.map PyData.str names_22)), none, none, none] rfl (ty_set (ty_lcP PyData.str [none, some (.sh ((eL PyData.bool) kinds_16)), some (.sh ((eL PyData.str) names_22)), none, none, none] (ti_zip PyData.str PyData.bool (fun p23 => names_22) (fun p23 => kinds_16) (ta_cons (ty_vo rfl) (ta_cons (ty_vo rfl) ta_nil)) (fun _ => rfl) (fun _ => rfl) (fun _ => rfl)) rfl rfl (fun x24 => (ty_tst (ty_v PyData.bool x24.2 rfl) (fun _ => rfl))) (fun x24 => (ty_v PyData.str x24.1 rfl)) (fun _ _ => rfl) (fun _ => rfl) (fun _ => rfl)) (fun _ => rfl) (fun found_25 => (ty_env [none, some (.sh ((eL PyData.bool) kinds_16)), some (.sh ((eL PyData.str) names_22)), some (.own (List.map PyData.str found_25)), none, none] rfl (ty_sifN (fun j27 : (List PySem.Str) => [(3, some (.own (List.map PyData.str j27)))]) (ty_orP (ty_not (ty_tst ty_cB (fun _ => rfl))) (ty_not (ty_tst ty_cB (fun _ => rfl)))) (ty_env [none, some (.sh ((eL PyData.bool) kinds_16)), some (.sh ((eL PyData.str) names_22)), some (.own (List.map PyData.str found_25)), none, none] rfl (ty_exprW (u := (uL PyData.str 3)) (w := found_25) rfl (tw_app (e := PyData.str) (fun a28 => a28) rfl ty_cS (fun _ => rfl) rfl) (fun p30 => (ty_endN p30.2 rfl)))) (ty_endN found_25 rfl) (fun j27 => (ty_env [none, some (.sh ((eL PyData.bool) kinds_16)), some (.sh ((eL PyData.str) names_22)), some (.own (List.map PyData.str j27)), none, none] rfl (ty_ret (fun _ => j27) (ty_vo rfl) (fun _ => rfl) (fun _ => rfl))))))))))))))))))))))))))))))))))))))))))
  exact h
def ms__law_changed : List Md := [.io, .ro]
noncomputable def f__law_changed (reel : (List Int)) (text : PySem.Str) : R (PySem.Str × (List Int)) := ((((((lenS text).bind fun a2 => .ok (a2 + (1 : Int))).bind fun a3 => .ok (a3, reel)).bind fun q4 => .ok ((q4.1, ()), q4.2)).bind fun r5 => .ok (((), r5.1), r5.2)).bind fun p8 => ((f__law_turn p8.2 p8.1.2.1).noE).bind fun q9 => .ok (q9.1, q9.2)).bind fun p10 => (let signs_12 : (List PySem.Str) := [(" 0123456789->'\"\\" : PySem.Str), (" !#$&()*+,./:;<=>?@ABCDEFGHIJKLMNOPQRSTUVWXYZ[]^_`{|}~az" : PySem.Str)]; ((((f__law_turn p10.2 (2 : Int)).noE).bind fun q15 => .ok (q15.1, q15.2)).bind fun q16 => (atR signs_12 q16.1).bind fun c18 => .ok (c18, q16.2)).bind fun p19 => (((((((lenS p19.1).bind fun a21 => .ok (a21, p19.2)).bind fun q22 => .ok ((q22.1, ()), q22.2)).bind fun r23 => .ok (((), r23.1), r23.2)).bind fun p26 => ((f__law_turn p26.2 p26.1.2.1).noE).bind fun q27 => .ok (q27.1, q27.2)).bind fun q28 => (atS p19.1 q28.1).bind fun c30 => .ok (c30, q28.2)).bind fun q31 => (((splitR text (" " : PySem.Str)).bind fun a32 => .ok (a32, q31.2)).bind fun q33 => .ok ((q33.1, ()), q33.2)).bind fun r34 => .ok ((q31.1, r34.1), r34.2)).bind fun p20 => (((f__law_turn p20.2 (List.length p20.1.2.1 : Int)).noE).bind fun q37 => .ok (q37.1, q37.2)).bind fun p38 => (((((cutR text none (some p10.1)).bind fun a40 => catS a40 p20.1.1).bind fun a42 => (cutR text (some p10.1) none).bind fun a43 => catS a42 a43).bind fun a56 => (((cutR text none (some p10.1)).bind fun a46 => (cutR text (some (p10.1 + (1 : Int))) none).bind fun a47 => catS a46 a47).bind fun a54 => ((((cutR text none (some p10.1)).bind fun a49 => catS a49 p20.1.1).bind fun a51 => (cutR text (some (p10.1 + (1 : Int))) none).bind fun a52 => catS a51 a52).bind fun a53 => .ok (a53, ())).bind fun r55 => .ok (a54, r55)).bind fun r57 => .ok (a56, r57)).bind fun p59 => .ok [p59.1, p59.2.1, p59.2.2.1]).bind fun some_60 => ((((catS text (" " : PySem.Str)).bind fun a64 => ((catS (" " : PySem.Str) text).bind fun a62 => ((catS text text).bind fun a61 => .ok (a61, ())).bind fun r63 => .ok (a62, r63)).bind fun r65 => .ok (a64, r65)).bind fun p67 => .ok [p67.1, p67.2.1, p67.2.2.1]).bind fun a68 => catL some_60 a68).bind fun some_69 => (((((catL (cutL p20.1.2.1 none (some p38.1)) (cutL p20.1.2.1 (some (p38.1 + (1 : Int))) none)).bind fun a72 => joinR (" " : PySem.Str) a72).bind fun a77 => (((catL (cutL p20.1.2.1 none (some (p38.1 + (1 : Int)))) (cutL p20.1.2.1 (some p38.1) none)).bind fun a75 => joinR (" " : PySem.Str) a75).bind fun a76 => .ok (a76, ())).bind fun r78 => .ok (a77, r78)).bind fun p80 => .ok [p80.1, p80.2.1]).bind fun a81 => catL some_69 a81).bind fun some_82 => ((joinR (" " : PySem.Str) (List.reverse p20.1.2.1)).bind fun a85 => (appR some_82 a85).bind fun xs86 => .ok ((), xs86)).bind fun p87 => ((((((atR p20.1.2.1 (0 : Int)).bind fun a89 => .ok (a89, (("-" : PySem.Str), (("" : PySem.Str), (("00" : PySem.Str), (("01" : PySem.Str), (("149" : PySem.Str), (("150" : PySem.Str), (("-0" : PySem.Str), (("+1" : PySem.Str), (("1000" : PySem.Str), ()))))))))))).bind fun p91 => .ok [p91.1, p91.2.1, p91.2.2.1, p91.2.2.2.1, p91.2.2.2.2.1, p91.2.2.2.2.2.1, p91.2.2.2.2.2.2.1, p91.2.2.2.2.2.2.2.1, p91.2.2.2.2.2.2.2.2.1, p91.2.2.2.2.2.2.2.2.2.1]).bind fun a92 => .ok (a92, p38.2)).bind fun q93 => (((f__law_turn q93.2 (10 : Int)).noE).bind fun q96 => .ok (q96.1, q96.2)).bind fun q97 => (atR q93.1 q97.1).bind fun c99 => .ok (c99, q97.2)).bind fun q100 => (setR p20.1.2.1 p38.1 q100.1).bind fun v104 => .ok (v104, q100.2)).bind fun p103 => (((((((joinR (" " : PySem.Str) p103.1).bind fun a105 => .ok (a105, ())).bind fun p107 => .ok [p107.1]).bind fun a108 => repL a108 (3 : Int)).bind fun a109 => catL p87.2 a109).bind fun a110 => .ok (a110, p103.2)).bind fun q111 => (((f__law_turn q111.2 (12 : Int)).noE).bind fun q114 => .ok (q114.1, q114.2)).bind fun q115 => (atR q111.1 q115.1).bind fun c117 => .ok (c117, q115.2)).bind fun p118 => .ok (p118.1, p118.2))
def sp__law_changed : DSp := spW (fun a : (List Int) × PySem.Str => [.own (List.map PyData.int a.1), .bor (PyData.str a.2)]) (fun r : PySem.Str => .sh (PyData.str r)) (fun w : (List Int) => [some (.own (List.map PyData.int w))]) (fun a : (List Int) × PySem.Str => [some (.own (List.map PyData.int a.1))]) fun a => f__law_changed a.1 a.2
theorem mono__law_changed : MonoSp sp__law_changed := spW_mono
theorem len__law_changed : ∀ ss Q E, sp__law_changed ss Q E → ss.length = 2 := spW_len fun _ => rfl
def t__law_changed : DS := (dSeq (dSet 2 (dCall ms__law_turn [] sp__law_turn (daCons (dVar 0) (daCons (dAdd (dN (daCons (dVar 1) daNil) kLen) (dC (.int 1))) daNil)))) (dSeq (dSet 3 (dLst (daCons (dC (.str " 0123456789->'\"\\")) (daCons (dC (.str " !#$&()*+,./:;<=>?@ABCDEFGHIJKLMNOPQRSTUVWXYZ[]^_`{|}~az")) daNil)))) (dSeq (dSet 4 (dIx (dVar 3) (dCall ms__law_turn [] sp__law_turn (daCons (dVar 0) (daCons (dC (.int 2)) daNil))))) (dSeq (dPar [5, 6] (daCons (dIx (dVar 4) (dCall ms__law_turn [] sp__law_turn (daCons (dVar 0) (daCons (dN (daCons (dVar 4) daNil) kLen) daNil)))) (daCons (dTx (dVar 1) (dC (.str " ")) kSplit) daNil))) (dSeq (dSet 7 (dCall ms__law_turn [] sp__law_turn (daCons (dVar 0) (daCons (dN (daCons (dVar 6) daNil) kLen) daNil)))) (dSeq (dSet 8 (dLst (daCons (dAdd (dAdd (dSl (dVar 1) doNo (doPart (dVar 2))) (dVar 5)) (dSl (dVar 1) (doPart (dVar 2)) doNo)) (daCons (dAdd (dSl (dVar 1) doNo (doPart (dVar 2))) (dSl (dVar 1) (doPart (dAdd (dVar 2) (dC (.int 1)))) doNo)) (daCons (dAdd (dAdd (dSl (dVar 1) doNo (doPart (dVar 2))) (dVar 5)) (dSl (dVar 1) (doPart (dAdd (dVar 2) (dC (.int 1)))) doNo)) daNil))))) (dSeq (dSet 8 (dAdd (dVar 8) (dLst (daCons (dAdd (dVar 1) (dC (.str " "))) (daCons (dAdd (dC (.str " ")) (dVar 1)) (daCons (dAdd (dVar 1) (dVar 1)) daNil)))))) (dSeq (dSet 8 (dAdd (dVar 8) (dLst (daCons (dTx (dC (.str " ")) (dAdd (dSl (dVar 6) doNo (doPart (dVar 7))) (dSl (dVar 6) (doPart (dAdd (dVar 7) (dC (.int 1)))) doNo)) kJoin) (daCons (dTx (dC (.str " ")) (dAdd (dSl (dVar 6) doNo (doPart (dAdd (dVar 7) (dC (.int 1))))) (dSl (dVar 6) (doPart (dVar 7)) doNo)) kJoin) daNil))))) (dSeq (dExpr (dMut 8 (daCons (dTx (dC (.str " ")) (dRevS (dVar 6)) kJoin) daNil) (kApp 8))) (dSeq (dSto 6 (dIx (dLst (daCons (dIx (dVar 6) (dC (.int 0))) (daCons (dC (.str "-")) (daCons (dC (.str "")) (daCons (dC (.str "00")) (daCons (dC (.str "01")) (daCons (dC (.str "149")) (daCons (dC (.str "150")) (daCons (dC (.str "-0")) (daCons (dC (.str "+1")) (daCons (dC (.str "1000")) daNil))))))))))) (dCall ms__law_turn [] sp__law_turn (daCons (dVar 0) (daCons (dC (.int 10)) daNil)))) (dVar 7)) (dSeq (dRet (dIx (dAdd (dVar 8) (dMul (dLst (daCons (dTx (dC (.str " ")) (dVar 6) kJoin) daNil)) (dC (.int 3)))) (dCall ms__law_turn [] sp__law_turn (daCons (dVar 0) (daCons (dC (.int 12)) daNil))))) dNext)))))))))))
theorem T__law_changed (reel : (List Int)) (text : PySem.Str) : TyB (mT (rtW [0] (fun r : PySem.Str => .sh (PyData.str r)) (fun w : (List Int) => [some (.own (List.map PyData.int w))])) (xtW [0] [some (.own (List.map PyData.int reel))])) t__law_changed [some (.own (List.map PyData.int reel)), some (.bor (PyData.str text)), none, none, none, none, none, none, none] (f__law_changed reel text) := by
  have h : TyB (mT (rtW [0] (fun r : PySem.Str => .sh (PyData.str r)) (fun w : (List Int) => [some (.own (List.map PyData.int w))])) (xtW [0] [some (.own (List.map PyData.int reel))])) t__law_changed [some (.own (List.map PyData.int reel)), some (.bor (PyData.str text)), none, none, none, none, none, none, none] _ :=
    (ty_env [some (.own (List.map PyData.int reel)), some (.bor (PyData.str text)), none, none, none, none, none, none, none] rfl (ty_setW (u := (uL PyData.int 0)) (w := reel) rfl (tw_callWN (sp := sp__law_turn) rfl (fun (p6 : Unit × Int × Unit) (w7 : (List Int)) => (w7, p6.2.1)) (fun _ o => o) (taw_cons (tw_ofS (ty_vo rfl)) (fun _ => (taw_cons (tw_ofS (ty_d2 (ty_dN (ta_cons (ty_vb PyData.str text rfl) ta_nil) (fun _ => o_lenS rfl)) ty_cI (fun _ _ => o_addI rfl rfl))) (fun _ => taw_nil)))) (fun _ _ => ⟨rfl, rfl⟩) (fun _ _ _ => rfl)) (fun _ _ => rfl) (fun p10 => (ty_env [some (.own (List.map PyData.int p10.2)), some (.bor (PyData.str text)), some (.sh (PyData.int p10.1)), none, none, none, none, none, none] rfl (ty_set (ty_dN (ta_cons ty_cS (ta_cons ty_cS ta_nil)) (fun p11 => o_lst (e := PyData.str) [p11.1, p11.2.1] rfl (le_line 2 rfl))) (fun _ => rfl) (fun signs_12 => (ty_env [some (.own (List.map PyData.int p10.2)), some (.bor (PyData.str text)), some (.sh (PyData.int p10.1)), some (.own (List.map PyData.str signs_12)), none, none, none, none, none] rfl (ty_setW (u := (uL PyData.int 0)) (w := p10.2) rfl (tw_d2 (tw_ofS (ty_vo rfl)) (fun _ => (tw_callWN (sp := sp__law_turn) rfl (fun (p13 : Unit × Int × Unit) (w14 : (List Int)) => (w14, p13.2.1)) (fun _ o => o) (taw_cons (tw_ofS (ty_vo rfl)) (fun _ => (taw_cons (tw_ofS ty_cI) (fun _ => taw_nil)))) (fun _ _ => ⟨rfl, rfl⟩) (fun _ _ _ => rfl))) (fun v17 _ _ => o_ix_own PyData.str signs_12 rfl rfl)) (fun _ _ => rfl) (fun p19 => (ty_env [some (.own (List.map PyData.int p19.2)), some (.bor (PyData.str text)), some (.sh (PyData.int p10.1)), some (.own (List.map PyData.str signs_12)), some (.sh (PyData.str p19.1)), none, none, none, none] rfl (ty_parW (u := (uL PyData.int 0)) (w := p19.2) rfl (taw_cons (tw_d2 (tw_ofS (ty_v PyData.str p19.1 rfl)) (fun _ => (tw_callWN (sp := sp__law_turn) rfl (fun (p24 : Unit × Int × Unit) (w25 : (List Int)) => (w25, p24.2.1)) (fun _ o => o) (taw_cons (tw_ofS (ty_vo rfl)) (fun _ => (taw_cons (tw_ofS (ty_dN (ta_cons (ty_v PyData.str p19.1 rfl) ta_nil) (fun _ => o_lenS rfl))) (fun _ => taw_nil)))) (fun _ _ => ⟨rfl, rfl⟩) (fun _ _ _ => rfl))) (fun v29 _ _ => o_ix_str rfl rfl)) (fun _ => (taw_cons (tw_ofS (ty_tx (ty_vb PyData.str text rfl) (fun _ => rfl) ty_cS (fun _ _ => o_split rfl rfl))) (fun _ => taw_nil)))) (fun _ _ => rfl) (fun p20 => (ty_env [some (.own (List.map PyData.int p20.2)), some (.bor (PyData.str text)), some (.sh (PyData.int p10.1)), some (.own (List.map PyData.str signs_12)), some (.sh (PyData.str p19.1)), some (.sh (PyData.str p20.1.1)), some (.own (List.map PyData.str p20.1.2.1)), none, none] rfl (ty_setW (u := (uL PyData.int 0)) (w := p20.2) rfl (tw_callWN (sp := sp__law_turn) rfl (fun (p35 : Unit × Int × Unit) (w36 : (List Int)) => (w36, p35.2.1)) (fun _ o => o) (taw_cons (tw_ofS (ty_vo rfl)) (fun _ => (taw_cons (tw_ofS (ty_dN (ta_cons (ty_vo rfl) ta_nil) (fun _ => o_lenL (e := PyData.str) rfl))) (fun _ => taw_nil)))) (fun _ _ => ⟨rfl, rfl⟩) (fun _ _ _ => rfl)) (fun _ _ => rfl) (fun p38 => (ty_env [some (.own (List.map PyData.int p38.2)), some (.bor (PyData.str text)), some (.sh (PyData.int p10.1)), some (.own (List.map PyData.str signs_12)), some (.sh (PyData.str p19.1)), some (.sh (PyData.str p20.1.1)), some (.own (List.map PyData.str p20.1.2.1)), some (.sh (PyData.int p38.1)), none] rfl (ty_set (ty_dN (ta_cons (ty_d2 (ty_d2 (ty_sl (ty_vb PyData.str text rfl) to_no (to_part (ty_v PyData.int p10.1 rfl) (fun _ => rfl)) (fun _ => o_slS rfl)) (ty_v PyData.str p20.1.1 rfl) (fun _ _ => o_addS rfl rfl)) (ty_sl (ty_vb PyData.str text rfl) (to_part (ty_v PyData.int p10.1 rfl) (fun _ => rfl)) to_no (fun _ => o_slS rfl)) (fun _ _ => o_addS rfl rfl)) (ta_cons (ty_d2 (ty_sl (ty_vb PyData.str text rfl) to_no (to_part (ty_v PyData.int p10.1 rfl) (fun _ => rfl)) (fun _ => o_slS rfl)) (ty_sl (ty_vb PyData.str text rfl) (to_part (ty_d2 (ty_v PyData.int p10.1 rfl) ty_cI (fun _ _ => o_addI rfl rfl)) (fun _ => rfl)) to_no (fun _ => o_slS rfl)) (fun _ _ => o_addS rfl rfl)) (ta_cons (ty_d2 (ty_d2 (ty_sl (ty_vb PyData.str text rfl) to_no (to_part (ty_v PyData.int p10.1 rfl) (fun _ => rfl)) (fun _ => o_slS rfl)) (ty_v PyData.str p20.1.1 rfl) (fun _ _ => o_addS rfl rfl)) (ty_sl (ty_vb PyData.str text rfl) (to_part (ty_d2 (ty_v PyData.int p10.1 rfl) ty_cI (fun _ _ => o_addI rfl rfl)) (fun _ => rfl)) to_no (fun _ => o_slS rfl)) (fun _ _ => o_addS rfl rfl)) ta_nil))) (fun p58 => o_lst (e := PyData.str) [p58.1, p58.2.1, p58.2.2.1] rfl (le_line 3 rfl))) (fun _ => rfl) (fun some_60 => (ty_env [some (.own (List.map PyData.int p38.2)), some (.bor (PyData.str text)), some (.sh (PyData.int p10.1)), some (.own (List.map PyData.str signs_12)), some (.sh (PyData.str p19.1)), some (.sh (PyData.str p20.1.1)), some (.own (List.map PyData.str p20.1.2.1)), some (.sh (PyData.int p38.1)), some (.own (List.map PyData.str some_60))] rfl (ty_set (ty_d2 (ty_vo rfl) (ty_dN (ta_cons (ty_d2 (ty_vb PyData.str text rfl) ty_cS (fun _ _ => o_addS rfl rfl)) (ta_cons (ty_d2 ty_cS (ty_vb PyData.str text rfl) (fun _ _ => o_addS rfl rfl)) (ta_cons (ty_d2 (ty_vb PyData.str text rfl) (ty_vb PyData.str text rfl) (fun _ _ => o_addS rfl rfl)) ta_nil))) (fun p66 => o_lst (e := PyData.str) [p66.1, p66.2.1, p66.2.2.1] rfl (le_line 3 rfl))) (fun _ _ => o_addL (e := PyData.str) rfl rfl rfl rfl)) (fun _ => rfl) (fun some_69 => (ty_env [some (.own (List.map PyData.int p38.2)), some (.bor (PyData.str text)), some (.sh (PyData.int p10.1)), some (.own (List.map PyData.str signs_12)), some (.sh (PyData.str p19.1)), some (.sh (PyData.str p20.1.1)), some (.own (List.map PyData.str p20.1.2.1)), some (.sh (PyData.int p38.1)), some (.own (List.map PyData.str some_69))] rfl (ty_set (ty_d2 (ty_vo rfl) (ty_dN (ta_cons (ty_tx ty_cS (fun _ => rfl) (ty_d2 (ty_sl (ty_vo rfl) to_no (to_part (ty_v PyData.int p38.1 rfl) (fun _ => rfl)) (fun v70 => o_slL PyData.str p20.1.2.1 rfl rfl)) (ty_sl (ty_vo rfl) (to_part (ty_d2 (ty_v PyData.int p38.1 rfl) ty_cI (fun _ _ => o_addI rfl rfl)) (fun _ => rfl)) to_no (fun v71 => o_slL PyData.str p20.1.2.1 rfl rfl)) (fun _ _ => o_addL (e := PyData.str) rfl rfl rfl rfl)) (fun _ _ => o_join rfl rfl)) (ta_cons (ty_tx ty_cS (fun _ => rfl) (ty_d2 (ty_sl (ty_vo rfl) to_no (to_part (ty_d2 (ty_v PyData.int p38.1 rfl) ty_cI (fun _ _ => o_addI rfl rfl)) (fun _ => rfl)) (fun v73 => o_slL PyData.str p20.1.2.1 rfl rfl)) (ty_sl (ty_vo rfl) (to_part (ty_v PyData.int p38.1 rfl) (fun _ => rfl)) to_no (fun v74 => o_slL PyData.str p20.1.2.1 rfl rfl)) (fun _ _ => o_addL (e := PyData.str) rfl rfl rfl rfl)) (fun _ _ => o_join rfl rfl)) ta_nil)) (fun p79 => o_lst (e := PyData.str) [p79.1, p79.2.1] rfl (le_line 2 rfl))) (fun _ _ => o_addL (e := PyData.str) rfl rfl rfl rfl)) (fun _ => rfl) (fun some_82 => (ty_env [some (.own (List.map PyData.int p38.2)), some (.bor (PyData.str text)), some (.sh (PyData.int p10.1)), some (.own (List.map PyData.str signs_12)), some (.sh (PyData.str p19.1)), some (.sh (PyData.str p20.1.1)), some (.own (List.map PyData.str p20.1.2.1)), some (.sh (PyData.int p38.1)), some (.own (List.map PyData.str some_82))] rfl (ty_exprW (u := (uL PyData.str 8)) (w := some_82) rfl (tw_app (e := PyData.str) (fun a84 => a84) rfl (ty_tx ty_cS (fun _ => rfl) (ty_d1 (ty_vo rfl) (fun v83 => o_revL PyData.str p20.1.2.1 rfl rfl)) (fun _ _ => o_join rfl rfl)) (fun _ => rfl) rfl) (fun p87 => (ty_env [some (.own (List.map PyData.int p38.2)), some (.bor (PyData.str text)), some (.sh (PyData.int p10.1)), some (.own (List.map PyData.str signs_12)), some (.sh (PyData.str p19.1)), some (.sh (PyData.str p20.1.1)), some (.own (List.map PyData.str p20.1.2.1)), some (.sh (PyData.int p38.1)), some (.own (List.map PyData.str p87.2))] rfl (ty_stoW (e := PyData.str) (u := (uL PyData.int 0)) (w := p38.2) (fun a102 => a102) rfl (tw_d2 (tw_ofS (ty_dN (ta_cons (ty_d2 (ty_vo rfl) ty_cI (fun v88 _ => o_ix_own PyData.str p20.1.2.1 rfl rfl)) (ta_cons ty_cS (ta_cons ty_cS (ta_cons ty_cS (ta_cons ty_cS (ta_cons ty_cS (ta_cons ty_cS (ta_cons ty_cS (ta_cons ty_cS (ta_cons ty_cS ta_nil)))))))))) (fun p90 => o_lst (e := PyData.str) [p90.1, p90.2.1, p90.2.2.1, p90.2.2.2.1, p90.2.2.2.2.1, p90.2.2.2.2.2.1, p90.2.2.2.2.2.2.1, p90.2.2.2.2.2.2.2.1, p90.2.2.2.2.2.2.2.2.1, p90.2.2.2.2.2.2.2.2.2.1] rfl (le_line 10 rfl)))) (fun _ => (tw_callWN (sp := sp__law_turn) rfl (fun (p94 : Unit × Int × Unit) (w95 : (List Int)) => (w95, p94.2.1)) (fun _ o => o) (taw_cons (tw_ofS (ty_vo rfl)) (fun _ => (taw_cons (tw_ofS ty_cI) (fun _ => taw_nil)))) (fun _ _ => ⟨rfl, rfl⟩) (fun _ _ _ => rfl))) (fun v98 _ _ => o_ix_own PyData.str v98 rfl rfl)) (fun _ => rfl) (fun w101 => (ty_v PyData.int p38.1 rfl)) (fun _ _ => rfl) (fun _ _ => rfl) (fun p103 => (ty_env [some (.own (List.map PyData.int p103.2)), some (.bor (PyData.str text)), some (.sh (PyData.int p10.1)), some (.own (List.map PyData.str signs_12)), some (.sh (PyData.str p19.1)), some (.sh (PyData.str p20.1.1)), some (.own (List.map PyData.str p103.1)), some (.sh (PyData.int p38.1)), some (.own (List.map PyData.str p87.2))] rfl (ty_retW (u := (uL PyData.int 0)) (w := p103.2) (fun p118 => (p118.1, p118.2)) rfl (tw_d2 (tw_ofS (ty_d2 (ty_vo rfl) (ty_d2 (ty_dN (ta_cons (ty_tx ty_cS (fun _ => rfl) (ty_vo rfl) (fun _ _ => o_join rfl rfl)) ta_nil) (fun p106 => o_lst (e := PyData.str) [p106.1] rfl (le_line 1 rfl))) ty_cI (fun _ _ => o_mulL (e := PyData.str) rfl rfl rfl)) (fun _ _ => o_addL (e := PyData.str) rfl rfl rfl rfl))) (fun _ => (tw_callWN (sp := sp__law_turn) rfl (fun (p112 : Unit × Int × Unit) (w113 : (List Int)) => (w113, p112.2.1)) (fun _ o => o) (taw_cons (tw_ofS (ty_vo rfl)) (fun _ => (taw_cons (tw_ofS ty_cI) (fun _ => taw_nil)))) (fun _ _ => ⟨rfl, rfl⟩) (fun _ _ _ => rfl))) (fun v116 _ _ => o_ix_own PyData.str v116 rfl rfl)) (fun _ _ => rfl) (fun _ => ⟨rfl, rfl⟩)))))))))))))))))))))))))))))))))
  exact h
theorem pure__law_changed : ∀ ss Q E, sp__law_changed ss Q E → t__law_changed (excK [0] E) (ss.map some ++ List.replicate (9 - 2) none) ⟨fun n => retK [0] Q (.sh .none) n, retK [0] Q, fun _ => False, fun _ => False⟩ := pureW (io := [0]) (fun _ => rfl) (fun _ => rfl) fun a => T__law_changed a.1 a.2

def ms__law_told : List Md := [.ro]
noncomputable def f__law_told (value : PyData) : R PyData := (SR.tryS (((f_read_log value).bind fun a3 => .ok ((eL (eO PyData.int)) a3)).bindSR fun a5 => .rt a5) mt_BacklinkError (fun cl : PySem.Str => ((opt (kf cl)).bind fun a6 => .ok ((eL PyData.str) a6)).bindSR fun a8 => .rt a8)).bindT fun (s1 : Empty) => s1.elim
def sp__law_told : DSp := spT (fun a : PyData => [.bor (eD a)]) (fun r : PyData => .sh (eD r)) fun a => f__law_told a
theorem mono__law_told : MonoSp sp__law_told := spT_mono
theorem len__law_told : ∀ ss Q E, sp__law_told ss Q E → ss.length = 1 := spT_len fun _ => rfl
def t__law_told : DS := (dSeq (dTry 1 [] mt_BacklinkError (dPost [] (dSeq (dRet (dShr (dCall ms_read_log [] sp_read_log (daCons (dVar 0) daNil)))) dNext)) (fun cl a => (dSeq (dRet (dShr (dKnd 1 kf cl a))) dNext))) dNext)
theorem T__law_told (value : PyData) : TyB (mT (rt0 (fun r : PyData => .sh (eD r))) xt0) t__law_told [some (.bor (eD value)), none] (f__law_told value) := by
  have h : TyB (mT (rt0 (fun r : PyData => .sh (eD r))) xt0) t__law_told [some (.bor (eD value)), none] _ :=
    (ty_try (r := fun s1 : Empty => s1.elim) (nh := [some (.bor (eD value)), none]) (fun s1 : Empty => s1.elim) (ty_ret (fun a5 => a5) (TyE.mp (ψ := (vH eD)) (ty_shrO (eO PyData.int) (ty_call (l := [none]) (sp := sp_read_log) rfl (fun p2 : PyData × Unit => p2.1) (ta_cons (ty_vb eD value rfl) ta_nil) (fun _ => ⟨rfl, rfl⟩) (fun _ => rfl) (by exact rfl))) (fun a3 => ((eL (eO PyData.int)) a3)) (fun _ => rfl)) (fun _ => rfl) (fun _ => rfl)) rfl (fun cl a => (ty_ret (fun a8 => a8) (TyE.mp (ψ := (vH eD)) (ty_shrO PyData.str (ty_knd rfl)) (fun a6 => ((eL PyData.str) a6)) (fun _ => rfl)) (fun _ => rfl) (fun _ => rfl))) (fun (s1 : Empty) => s1.elim))
  exact h
theorem pure__law_told : ∀ ss Q E, sp__law_told ss Q E → t__law_told (excK [] E) (ss.map some ++ List.replicate (2 - 1) none) ⟨fun n => retK [] Q (.sh .none) n, retK [] Q, fun _ => False, fun _ => False⟩ := pureT fun a => T__law_told a

def ms__law_right : List Md := [.ro]
noncomputable def f__law_right (value : PyData) : R Bool := (((f__law_told value).noE).bind fun a3 => .ok (a3, ((), ()))).bind fun p1 => ((if (isiD (eD value) "str") = true then (((asS value).bind fun a6 => .ok (a6, ())).bind fun p8 => (f__law_log_of p8.1).noE).bind fun due_9 => .ok due_9 else .ok none)).bind fun j5 => (if (isNoneD ((eO (eL (eO PyData.int))) j5)) = true then eqR (eD p1.1) ((eL PyData.str) [("InvalidText" : PySem.Str)]) else ((reprR (eD p1.1)).bind fun a14 => (reprR ((eO (eL (eO PyData.int))) j5)).bind fun a15 => .ok (eqB a14 a15)).bind fun a20 => (if a20 = true then (((asLI p1.1).bind fun a16 => .ok (a16, ())).bind fun p18 => (f_show_log p18.1).noE).bind fun a19 => eqR (PyData.str a19) (eD value) else .ok false))
def sp__law_right : DSp := spT (fun a : PyData => [.bor (eD a)]) (fun r : Bool => .sh (PyData.bool r)) fun a => f__law_right a
theorem mono__law_right : MonoSp sp__law_right := spT_mono
theorem len__law_right : ∀ ss Q E, sp__law_right ss Q E → ss.length = 1 := spT_len fun _ => rfl
def t__law_right : DS := (dSeq (dPar [1, 2] (daCons (dCall ms__law_told [] sp__law_told (daCons (dVar 0) daNil)) (daCons (dC .none) daNil))) (dSeq (dPost [] (dIfS (tst (dIsi (dVar 0) "str")) (dSeq (dSet 2 (dCall ms__law_log_of [] sp__law_log_of (daCons (dVar 0) daNil))) dNext) dNext)) (dSeq (dIfS (tst (dIs (dVar 2) (dC .none))) (dSeq (dRet (dEq (dVar 1) (dLst (daCons (dC (.str "InvalidText")) daNil)))) dNext) dNext) (dSeq (dRet (vAnd (dEq (dN (daCons (dVar 1) daNil) (kF1 fRepr)) (dN (daCons (dVar 2) daNil) (kF1 fRepr))) (dEq (dCall ms_show_log [] sp_show_log (daCons (dVar 1) daNil)) (dVar 0)))) dNext))))
theorem T__law_right (value : PyData) : TyB (mT (rt0 (fun r : Bool => .sh (PyData.bool r))) xt0) t__law_right [some (.bor (eD value)), none, none] (f__law_right value) := by
  have h : TyB (mT (rt0 (fun r : Bool => .sh (PyData.bool r))) xt0) t__law_right [some (.bor (eD value)), none, none] _ :=
    (ty_par (ta_cons (ty_callN (l := [none]) (sp := sp__law_told) rfl (fun p2 : PyData × Unit => p2.1) (ta_cons (ty_vb eD value rfl) ta_nil) (fun _ => ⟨rfl, rfl⟩) (fun _ => rfl)) (ta_cons ty_cN ta_nil)) (fun _ => rfl) (fun p1 => (ty_sifN (fun j5 : (Option (List (Option Int))) => [(2, some (.sh ((eO (eL (eO PyData.int))) j5)))]) (ty_tst (ty_d1 (ty_vb eD value rfl) (fun _ => o_isi rfl)) (fun _ => rfl)) (ty_set (ty_callN (l := [none]) (sp := sp__law_log_of) rfl (fun p7 : PySem.Str × Unit => p7.1) (ta_cons (ty_asSb (ty_vb eD value rfl)) ta_nil) (fun _ => ⟨rfl, rfl⟩) (fun _ => rfl)) (fun _ => rfl) (fun due_9 => (ty_endN due_9 rfl))) (ty_endN none rfl) (fun j5 => (ty_sifD (ty_tst (ty_d2 (ty_v (eO (eL (eO PyData.int))) j5 rfl) ty_cN (fun _ _ => o_isN rfl rfl)) (fun _ => rfl)) (ty_assoc (ty_retT (ty_d2 (ty_v eD p1.1 rfl) (ty_dN (ta_cons ty_cS ta_nil) (fun p11 => o_lst (e := PyData.str) [p11.1] rfl (le_line 1 rfl))) (fun _ _ => o_eq rfl rfl)) (fun _ => rfl) (fun _ => rfl))) (ty_nx (ty_retT (ty_vand (ty_d2 (ty_dN (ta_cons (ty_v eD p1.1 rfl) ta_nil) (fun _ => o_repr rfl)) (ty_dN (ta_cons (ty_v (eO (eL (eO PyData.int))) j5 rfl) ta_nil) (fun _ => o_repr rfl)) (fun _ _ => o_eqT (e := PyData.str) eqS rfl rfl)) (fun _ => rfl) (ty_d2 (ty_callN (l := [none]) (sp := sp_show_log) rfl (fun p17 : (List Int) × Unit => p17.1) (ta_cons (ty_asLI (ty_v eD p1.1 rfl)) ta_nil) (fun _ => ⟨rfl, rfl⟩) (fun _ => rfl)) (ty_vb eD value rfl) (fun _ _ => o_eq rfl rfl))) (fun _ => rfl) (fun _ => rfl))))))))
  exact h
theorem pure__law_right : ∀ ss Q E, sp__law_right ss Q E → t__law_right (excK [] E) (ss.map some ++ List.replicate (3 - 1) none) ⟨fun n => retK [] Q (.sh .none) n, retK [] Q, fun _ => False, fun _ => False⟩ := pureT fun a => T__law_right a

def ms_law : List Md := [.ro]
noncomputable def f_law (script : (List Int)) : R Bool := (rngR 0 (max (1 : Int) (min (8 : Int) ((List.length script : Int) + (1 : Int))))).bind fun l93 => (forL (fun (x2 : Int) (s1 : Unit) => ((f__law_reel script x2).noE).bindSR fun reel_4 => (rngR 0 (10 : Int)).bindSR fun l81 => (forL (fun (x6 : Int) (s5 : (List Int)) => (((((((((((atR [(20 : Int), (150 : Int)] (if (eqB x2 (0 : Int)) = true then (1 : Int) else 0)).bind fun a24 => .ok (a24, ())).bind fun r25 => .ok ((20 : Int), r25)).bind fun r26 => .ok ((4 : Int), r26)).bind fun p28 => .ok [p28.1, p28.2.1, p28.2.2.1]).bind fun a29 => .ok (a29, s5)).bind fun q30 => (((f__law_turn q30.2 (3 : Int)).noE).bind fun q33 => .ok (q33.1, q33.2)).bind fun q34 => (atR q30.1 q34.1).bind fun c36 => .ok (c36, q34.2)).bind fun q37 => .ok ((q37.1, ()), q37.2)).bind fun r38 => .ok (((), r38.1), r38.2)).bind fun p41 => ((f__law_turn p41.2 p41.1.2.1).noE).bind fun q42 => .ok (q42.1, q42.2)).bind fun q43 => .ok (((1 : Int) + q43.1), q43.2)).bindSR fun p44 => (((((f__law_grown p44.2 p44.1).noE).bind fun q50 => .ok (q50.1, q50.2)).bind fun q51 => .ok ((q51.1, ()), q51.2)).bind fun p54 => ((f__law_log_text p54.1.1).noE).bind fun c55 => .ok (c55, p54.2)).bindSR fun p56 => (rngR 0 (min x6 (3 : Int))).bindSR fun l79 => (foldR (fun (x58 : Int) (s57 : (List Int) × PySem.Str) => ((((f__law_changed s57.1 s57.2).noE).bind fun q61 => .ok (q61.1, q61.2)).bind fun q62 => (cutR q62.1 none (some (3900 : Int))).bind fun c65 => .ok (c65, q62.2)).bind fun p66 => .ok (p66.2, p66.1)) l79 (p56.2, p56.1)).bindSR fun s67 => (((f__law_odd s67.1).noE).bind fun q70 => .ok (q70.1, q70.2)).bindSR fun p71 => ((((f__law_right (PyData.str s67.2)).noE).bind fun a73 => .ok (!a73)).bind fun a76 => (if a76 = true then .ok true else ((f__law_right p71.1).noE).bind fun a75 => .ok (!a75))).bindSR fun c77 => (if c77 = true then (let a78 := false; .rt a78) else .nx p71.2)) l81 reel_4).bindS fun s80 => .nx ()) l93 ()).bindT fun s82 => ((repL [("0" : PySem.Str)] (149 : Int)).bind fun a84 => joinR (" " : PySem.Str) a84).bind fun text_85 => ((f__law_right (PyData.str text_85)).noE).bind fun a90 => (if a90 = true then ((catS text_85 (" 0" : PySem.Str)).bind fun a87 => .ok (a87, ())).bind fun p89 => (f__law_right (PyData.str p89.1)).noE else .ok false)
def sp_law : DSp := spT (fun a : (List Int) => [.scr a]) (fun r : Bool => .sh (PyData.bool r)) fun a => f_law a
theorem mono_law : MonoSp sp_law := spT_mono
theorem len_law : ∀ ss Q E, sp_law ss Q E → ss.length = 1 := spT_len fun _ => rfl
def t_law : DS := (dSeq (dPre [] (dFor [1] (iRng rng1 (daCons (dN (daCons (dC (.int 1)) (daCons (dN (daCons (dC (.int 8)) (daCons (dAdd (dN (daCons (dVar 0) daNil) kLen) (dC (.int 1))) daNil)) (kF2 fMin2)) daNil)) (kF2 fMax2)) daNil) 1) (dPost [.no 1, .no 2, .no 3, .no 4, .no 5, .no 6, .no 7] (dSeq (dSet 2 (dCall ms__law_reel [] sp__law_reel (daCons (dVar 0) (daCons (dVar 1) daNil)))) (dSeq (dPre [] (dFor [3] (iRng rng1 (daCons (dC (.int 10)) daNil) 3) (dPost [.no 3, .no 4, .no 5, .no 6, .no 7] (dSeq (dSet 4 (dAdd (dC (.int 1)) (dCall ms__law_turn [] sp__law_turn (daCons (dVar 2) (daCons (dIx (dLst (daCons (dC (.int 4)) (daCons (dC (.int 20)) (daCons (dIx (dLst (daCons (dC (.int 20)) (daCons (dC (.int 150)) daNil))) (dN (daCons (dEq (dVar 1) (dC (.int 0))) daNil) (kF1 fInt))) daNil)))) (dCall ms__law_turn [] sp__law_turn (daCons (dVar 2) (daCons (dC (.int 3)) daNil)))) daNil))))) (dSeq (dSet 5 (dCall ms__law_log_text [] sp__law_log_text (daCons (dCall ms__law_grown [] sp__law_grown (daCons (dVar 2) (daCons (dVar 4) daNil))) daNil))) (dSeq (dPre [] (dFor [6] (iRng rng1 (daCons (dN (daCons (dVar 3) (daCons (dC (.int 3)) daNil)) (kF2 fMin2)) daNil) 6) (dPost [.no 6] (dSeq (dSet 5 (dSl (dCall ms__law_changed [] sp__law_changed (daCons (dVar 2) (daCons (dVar 5) daNil))) doNo (doPart (dC (.int 3900))))) dNext)))) (dSeq (dSet 7 (dCall ms__law_odd [] sp__law_odd (daCons (dVar 2) daNil))) (dSeq (dIfS (dOr (dNot (tst (dCall ms__law_right [] sp__law_right (daCons (dVar 5) daNil)))) (dNot (tst (dCall ms__law_right [] sp__law_right (daCons (dVar 7) daNil))))) (dSeq (dRet (dC (.bool false))) dNext) dNext) dNext)))))))) dNext))))) (dSeq (dSet 8 (dTx (dC (.str " ")) (dMul (dLst (daCons (dC (.str "0")) daNil)) (dC (.int 149))) kJoin)) (dSeq (dRet (vAnd (dCall ms__law_right [] sp__law_right (daCons (dVar 8) daNil)) (dCall ms__law_right [] sp__law_right (daCons (dAdd (dVar 8) (dC (.str " 0"))) daNil)))) dNext)))
theorem T_law (script : (List Int)) : TyB (mT (rt0 (fun r : Bool => .sh (PyData.bool r))) xt0) t_law [some (.scr script), none, none, none, none, none, none, none, none] (f_law script) := by
  have h : TyB (mT (rt0 (fun r : Bool => .sh (PyData.bool r))) xt0) t_law [some (.scr script), none, none, none, none, none, none, none, none] _ :=
    (ty_env [some (.scr script), none, none, none, none, none, none, none, none] rfl (ty_for (fun _ : Unit => [(1, none), (2, none), (3, none), (4, none), (5, none), (6, none), (7, none)]) () rfl (ti_rng1 (ta_cons (ty_dN (ta_cons ty_cI (ta_cons (ty_dN (ta_cons ty_cI (ta_cons (ty_d2 (ty_dN (ta_cons (ty_vs rfl) ta_nil) (fun _ => o_lenScr rfl)) ty_cI (fun _ _ => o_addI rfl rfl)) ta_nil)) (fun _ => o_min2 rfl rfl)) ta_nil)) (fun _ => o_max2 rfl rfl)) ta_nil) (fun _ => rfl)) rfl rfl (fun x2 s1 => (ty_env [some (.scr script), some (.sh (PyData.int x2)), none, none, none, none, none, none, none] rfl (ty_set (ty_callN (l := [none, none]) (sp := sp__law_reel) rfl (fun p3 : Unit × Int × Unit => (script, p3.2.1)) (ta_cons (ty_vs rfl) (ta_cons (ty_v PyData.int x2 rfl) ta_nil)) (fun _ => ⟨rfl, rfl⟩) (fun _ => rfl)) (fun _ => rfl) (fun reel_4 => (ty_env [some (.scr script), some (.sh (PyData.int x2)), some (.own (List.map PyData.int reel_4)), none, none, none, none, none, none] rfl (ty_for (fun s5 : (List Int) => [(2, some (.own (List.map PyData.int s5))), (3, none), (4, none), (5, none), (6, none), (7, none)]) reel_4 rfl (ti_rng1 (ta_cons ty_cI ta_nil) (fun _ => rfl)) rfl rfl (fun x6 s5 => (ty_env [some (.scr script), some (.sh (PyData.int x2)), some (.own (List.map PyData.int s5)), some (.sh (PyData.int x6)), none, none, none, none, none] rfl (ty_setW (u := (uL PyData.int 2)) (w := s5) rfl (tw_d2 (tw_ofS ty_cI) (fun _ => (tw_callWN (sp := sp__law_turn) rfl (fun (p39 : Unit × Int × Unit) (w40 : (List Int)) => (w40, p39.2.1)) (fun _ o => o) (taw_cons (tw_ofS (ty_vo rfl)) (fun _ => (taw_cons (tw_d2 (tw_ofS (ty_dN (ta_cons ty_cI (ta_cons ty_cI (ta_cons (ty_d2 (ty_dN (ta_cons ty_cI (ta_cons ty_cI ta_nil)) (fun p22 => o_lst (e := PyData.int) [p22.1, p22.2.1] rfl (le_line 2 rfl))) (ty_dN (ta_cons (ty_d2 (ty_v PyData.int x2 rfl) ty_cI (fun _ _ => o_eqT (e := PyData.int) (eqL layI (by decide)) rfl rfl)) ta_nil) (fun _ => o_intB rfl)) (fun v23 _ => o_ix_own PyData.int v23 rfl rfl)) ta_nil))) (fun p27 => o_lst (e := PyData.int) [p27.1, p27.2.1, p27.2.2.1] rfl (le_line 3 rfl)))) (fun _ => (tw_callWN (sp := sp__law_turn) rfl (fun (p31 : Unit × Int × Unit) (w32 : (List Int)) => (w32, p31.2.1)) (fun _ o => o) (taw_cons (tw_ofS (ty_vo rfl)) (fun _ => (taw_cons (tw_ofS ty_cI) (fun _ => taw_nil)))) (fun _ _ => ⟨rfl, rfl⟩) (fun _ _ _ => rfl))) (fun v35 _ _ => o_ix_own PyData.int v35 rfl rfl)) (fun _ => taw_nil)))) (fun _ _ => ⟨rfl, rfl⟩) (fun _ _ _ => rfl))) (fun _ _ _ => o_addI rfl rfl)) (fun _ _ => rfl) (fun p44 => (ty_env [some (.scr script), some (.sh (PyData.int x2)), some (.own (List.map PyData.int p44.2)), some (.sh (PyData.int x6)), some (.sh (PyData.int p44.1)), none, none, none, none] rfl (ty_setW (u := (uL PyData.int 2)) (w := p44.2) rfl (tw_callEN (l := [none]) (sp := sp__law_log_text) rfl (fun (p52 : (List Int) × Unit) (w53 : (List Int)) => p52.1) (taw_cons (tw_callWN (sp := sp__law_grown) rfl (fun (p48 : Unit × Int × Unit) (w49 : (List Int)) => (w49, p48.2.1)) (fun _ o => o) (taw_cons (tw_ofS (ty_vo rfl)) (fun _ => (taw_cons (tw_ofS (ty_v PyData.int p44.1 rfl)) (fun _ => taw_nil)))) (fun _ _ => ⟨rfl, rfl⟩) (fun _ _ _ => rfl)) (fun _ => taw_nil)) (fun _ _ => ⟨rfl, rfl⟩) (fun _ _ => rfl)) (fun _ _ => rfl) (fun p56 => (ty_env [some (.scr script), some (.sh (PyData.int x2)), some (.own (List.map PyData.int p56.2)), some (.sh (PyData.int x6)), some (.sh (PyData.int p44.1)), some (.sh (PyData.str p56.1)), none, none, none] rfl (ty_forN (fun s57 : (List Int) × PySem.Str => [(2, some (.own (List.map PyData.int s57.1))), (5, some (.sh (PyData.str s57.2))), (6, none)]) (p56.2, p56.1) rfl (ti_rng1 (ta_cons (ty_dN (ta_cons (ty_v PyData.int x6 rfl) (ta_cons ty_cI ta_nil)) (fun _ => o_min2 rfl rfl)) ta_nil) (fun _ => rfl)) rfl rfl (fun x58 s57 => (ty_env [some (.scr script), some (.sh (PyData.int x2)), some (.own (List.map PyData.int s57.1)), some (.sh (PyData.int x6)), some (.sh (PyData.int p44.1)), some (.sh (PyData.str s57.2)), some (.sh (PyData.int x58)), none, none] rfl (ty_setW (u := (uL PyData.int 2)) (w := s57.1) rfl (tw_sl (tw_callWN (sp := sp__law_changed) rfl (fun (p59 : Unit × PySem.Str × Unit) (w60 : (List Int)) => (w60, p59.2.1)) (fun _ o => o) (taw_cons (tw_ofS (ty_vo rfl)) (fun _ => (taw_cons (tw_ofS (ty_v PyData.str s57.2 rfl)) (fun _ => taw_nil)))) (fun _ _ => ⟨rfl, rfl⟩) (fun _ _ _ => rfl)) (fun w63 => to_no) (fun w63 => (to_part ty_cI (fun _ => rfl))) (fun v64 _ => o_slS rfl)) (fun _ _ => rfl) (fun p66 => (ty_endN (p66.2, p66.1) rfl))))) (fun s67 => (ty_env [some (.scr script), some (.sh (PyData.int x2)), some (.own (List.map PyData.int s67.1)), some (.sh (PyData.int x6)), some (.sh (PyData.int p44.1)), some (.sh (PyData.str s67.2)), none, none, none] rfl (ty_setW (u := (uL PyData.int 2)) (w := s67.1) rfl (tw_callWN (sp := sp__law_odd) rfl (fun (p68 : Unit × Unit) (w69 : (List Int)) => w69) (fun _ o => o) (taw_cons (tw_ofS (ty_vo rfl)) (fun _ => taw_nil)) (fun _ _ => ⟨rfl, rfl⟩) (fun _ _ _ => rfl)) (fun _ _ => rfl) (fun p71 => (ty_env [some (.scr script), some (.sh (PyData.int x2)), some (.own (List.map PyData.int p71.2)), some (.sh (PyData.int x6)), some (.sh (PyData.int p44.1)), some (.sh (PyData.str s67.2)), none, some (.sh (eD p71.1)), none] rfl (ty_sifD (ty_or (ty_not (ty_tst (ty_callN (l := [none]) (sp := sp__law_right) rfl (fun p72 : PySem.Str × Unit => (PyData.str p72.1)) (ta_cons (ty_v PyData.str s67.2 rfl) ta_nil) (fun _ => ⟨rfl, rfl⟩) (fun _ => rfl)) (fun _ => rfl))) (ty_not (ty_tst (ty_callN (l := [none]) (sp := sp__law_right) rfl (fun p74 : PyData × Unit => p74.1) (ta_cons (ty_v eD p71.1 rfl) ta_nil) (fun _ => ⟨rfl, rfl⟩) (fun _ => rfl)) (fun _ => rfl)))) (ty_env [some (.scr script), some (.sh (PyData.int x2)), some (.own (List.map PyData.int p71.2)), some (.sh (PyData.int x6)), some (.sh (PyData.int p44.1)), some (.sh (PyData.str s67.2)), none, some (.sh (eD p71.1)), none] rfl (ty_assoc (ty_ret (fun a78 => a78) ty_cB (fun _ => rfl) (fun _ => rfl)))) (ty_nx (ty_endS p71.2 rfl))))))))))))))))) (fun s80 => (ty_endS () rfl)))))))) (fun s82 => (ty_env [some (.scr script), none, none, none, none, none, none, none, none] rfl (ty_set (ty_tx ty_cS (fun _ => rfl) (ty_d2 (ty_dN (ta_cons ty_cS ta_nil) (fun p83 => o_lst (e := PyData.str) [p83.1] rfl (le_line 1 rfl))) ty_cI (fun _ _ => o_mulL (e := PyData.str) rfl rfl rfl)) (fun _ _ => o_join rfl rfl)) (fun _ => rfl) (fun text_85 => (ty_env [some (.scr script), none, none, none, none, none, none, none, some (.sh (PyData.str text_85))] rfl (ty_retT (ty_vand (ty_callN (l := [none]) (sp := sp__law_right) rfl (fun p86 : PySem.Str × Unit => (PyData.str p86.1)) (ta_cons (ty_v PyData.str text_85 rfl) ta_nil) (fun _ => ⟨rfl, rfl⟩) (fun _ => rfl)) (fun _ => rfl) (ty_callN (l := [none]) (sp := sp__law_right) rfl (fun p88 : PySem.Str × Unit => (PyData.str p88.1)) (ta_cons (ty_d2 (ty_v PyData.str text_85 rfl) ty_cS (fun _ _ => o_addS rfl rfl)) ta_nil) (fun _ => ⟨rfl, rfl⟩) (fun _ => rfl))) (fun _ => rfl) (fun _ => rfl)))))))))
  exact h
theorem pure_law : ∀ ss Q E, sp_law ss Q E → t_law (excK [] E) (ss.map some ++ List.replicate (9 - 1) none) ⟨fun n => retK [] Q (.sh .none) n, retK [] Q, fun _ => False, fun _ => False⟩ := pureT fun a => T_law a

end T

namespace T
open PySem L2 L3
theorem line4 {n : Nat} (h : Nat.ble n 4096 = true) : n ≤ sizeLine := by
  have := le_line (xs := List.replicate 4096 ()) 4096 (by simp) (by decide)
  rw [List.length_replicate] at this
  rw [Nat.ble_eq] at h
  omega
theorem catB {α β : Type} {xs ys : List α} {k : List α → R β} (h : Nat.ble (xs.length + ys.length) 4096 = true) : (catL xs ys).bind k = k (xs ++ ys) := by
  unfold catL
  rw [chk_ok (line4 h)]; rfl
theorem chkB {α β : Type} {n : Nat} {x : α} {k : α → R β} (h : Nat.ble n 4096 = true) : (chk (n ≤ sizeLine) x).bind k = k x := by
  rw [chk_ok (line4 h)]; rfl
theorem kinds_val (cl : PySem.Str) (h : cl ∈ rs) : f__law_kinds cl = .ok [cl] := by
  unfold f__law_kinds
  dsimp only
  iterate 9 refine (catB rfl).trans ?_
  refine (chkB rfl).trans ?_
  simp only [rs, List.mem_cons, List.not_mem_nil, or_false] at h
  rcases h with rfl | rfl <;> rfl
theorem out_own {s : Sl} {xs : List PyData} (h : outSl s = some (.own xs)) : s = .own xs := by
  cases s with
  | bor d =>
    have h : (if L3.scal d = true then some (Sl.sh d) else none) = some (.own xs) := h
    by_cases e : L3.scal d = true
    · rw [if_pos e] at h
      exact nomatch h
    · rw [if_neg e] at h
      exact nomatch h
  | own ys => exact Option.some.inj h
  | scr ns => exact nomatch h
  | sh d => exact nomatch (Option.some.inj h)
  | odk d => exact nomatch (Option.some.inj h)
  | ext d => exact nomatch (Option.some.inj h)
end T

namespace T
open PySem L2 L3
section
def top (i : Nat) : Stmt := PySem.Challenge.pw_backlinks_k67_texts_of_no_log.main.body.getD i (.Pass ⟨0, 0, 0, 0⟩)
abbrev s_is_integer : Stmt := top 20
abbrev s_have_form : Stmt := top 21
abbrev s_least_crossing : Stmt := top 22
abbrev s_is_log : Stmt := top 23
abbrev s_need_log : Stmt := top 24
abbrev s_number_in : Stmt := top 29
abbrev s_numbers_in : Stmt := top 30
abbrev s_log_text : Stmt := top 31
abbrev s_show_log : Stmt := top 32
abbrev s_read_log : Stmt := top 33
abbrev s__law_reel : Stmt := top 35
abbrev s__law_turn : Stmt := top 36
abbrev s__law_grown : Stmt := top 37
abbrev s__law_log_text : Stmt := top 38
abbrev s__law_number : Stmt := top 39
abbrev s__law_whole : Stmt := top 41
abbrev s__law_is_log : Stmt := top 42
abbrev s__law_log_of : Stmt := top 40
abbrev s__law_odd : Stmt := top 43
abbrev s__law_kinds : Stmt := top 44
abbrev s__law_changed : Stmt := top 45
abbrev s__law_told : Stmt := top 46
abbrev s__law_right : Stmt := top 47
abbrev s_law : Stmt := top 48
theorem sc_is_integer : FnScope ["value", "low", "high"] ["value", "low", "high"] (defScope s_is_integer) := ⟨rfl, rfl, rfl, by decide +kernel, rfl, by decide +kernel, by decide +kernel⟩
theorem sc_have_form : FnScope ["value", "entry", "link"] ["value"] (defScope s_have_form) := ⟨rfl, rfl, rfl, by decide +kernel, rfl, by decide +kernel, by decide +kernel⟩
theorem sc_least_crossing : FnScope ["links", "entry", "link", "other"] ["links"] (defScope s_least_crossing) := ⟨rfl, rfl, rfl, by decide +kernel, rfl, by decide +kernel, by decide +kernel⟩
theorem sc_is_log : FnScope ["value"] ["value"] (defScope s_is_log) := ⟨rfl, rfl, rfl, by decide +kernel, rfl, by decide +kernel, by decide +kernel⟩
theorem sc_need_log : FnScope ["value"] ["value"] (defScope s_need_log) := ⟨rfl, rfl, rfl, by decide +kernel, rfl, by decide +kernel, by decide +kernel⟩
theorem sc_number_in : FnScope ["word", "most", "sign"] ["word", "most"] (defScope s_number_in) := ⟨rfl, rfl, rfl, by decide +kernel, rfl, by decide +kernel, by decide +kernel⟩
theorem sc_numbers_in : FnScope ["words", "found", "word"] ["words"] (defScope s_numbers_in) := ⟨rfl, rfl, rfl, by decide +kernel, rfl, by decide +kernel, by decide +kernel⟩
theorem sc_log_text : FnScope ["links", "link"] ["links"] (defScope s_log_text) := ⟨rfl, rfl, rfl, by decide +kernel, rfl, by decide +kernel, by decide +kernel⟩
theorem sc_show_log : FnScope ["links"] ["links"] (defScope s_show_log) := ⟨rfl, rfl, rfl, by decide +kernel, rfl, by decide +kernel, by decide +kernel⟩
theorem sc_read_log : FnScope ["text", "links"] ["text"] (defScope s_read_log) := ⟨rfl, rfl, rfl, by decide +kernel, rfl, by decide +kernel, by decide +kernel⟩
theorem sc__law_reel : FnScope ["script", "k", "cell"] ["script", "k"] (defScope s__law_reel) := ⟨rfl, rfl, rfl, by decide +kernel, rfl, by decide +kernel, by decide +kernel⟩
theorem sc__law_turn : FnScope ["reel", "size", "found", "mixed"] ["reel", "size"] (defScope s__law_turn) := ⟨rfl, rfl, rfl, by decide +kernel, rfl, by decide +kernel, by decide +kernel⟩
theorem sc__law_grown : FnScope ["reel", "size", "style", "found", "some", "entry", "many", "low", "high", "rare", "at"] ["reel", "size"] (defScope s__law_grown) := ⟨rfl, rfl, rfl, by decide +kernel, rfl, by decide +kernel, by decide +kernel⟩
theorem sc__law_log_text : FnScope ["links", "link"] ["links"] (defScope s__law_log_text) := ⟨rfl, rfl, rfl, by decide +kernel, rfl, by decide +kernel, by decide +kernel⟩
theorem sc__law_number : FnScope ["word", "sign"] ["word"] (defScope s__law_number) := ⟨rfl, rfl, rfl, by decide +kernel, rfl, by decide +kernel, by decide +kernel⟩
theorem sc__law_whole : FnScope ["value", "least", "most"] ["value", "least", "most"] (defScope s__law_whole) := ⟨rfl, rfl, rfl, by decide +kernel, rfl, by decide +kernel, by decide +kernel⟩
theorem sc__law_is_log : FnScope ["value", "entry", "link", "other"] ["value"] (defScope s__law_is_log) := ⟨rfl, rfl, rfl, by decide +kernel, rfl, by decide +kernel, by decide +kernel⟩
theorem sc__law_log_of : FnScope ["text", "links", "word"] ["text"] (defScope s__law_log_of) := ⟨rfl, rfl, rfl, by decide +kernel, rfl, by decide +kernel, by decide +kernel⟩
theorem sc__law_odd : FnScope ["reel", "some"] ["reel"] (defScope s__law_odd) := ⟨rfl, rfl, rfl, by decide +kernel, rfl, by decide +kernel, by decide +kernel⟩
theorem sc__law_kinds : FnScope ["caught", "kinds", "names", "found", "name", "kind"] ["caught"] (defScope s__law_kinds) := ⟨rfl, rfl, rfl, by decide +kernel, rfl, by decide +kernel, by decide +kernel⟩
theorem sc__law_changed : FnScope ["reel", "text", "at", "signs", "chosen", "sign", "words", "spot", "some"] ["reel", "text"] (defScope s__law_changed) := ⟨rfl, rfl, rfl, by decide +kernel, rfl, by decide +kernel, by decide +kernel⟩
theorem sc__law_told : FnScope ["value", "e"] ["value"] (defScope s__law_told) := ⟨rfl, rfl, rfl, by decide +kernel, rfl, by decide +kernel, by decide +kernel⟩
theorem sc__law_right : FnScope ["value", "told", "due"] ["value"] (defScope s__law_right) := ⟨rfl, rfl, rfl, by decide +kernel, rfl, by decide +kernel, by decide +kernel⟩
theorem sc_law : FnScope ["script", "k", "reel", "turn", "size", "value", "again", "odd", "text"] ["script"] (defScope s_law) := ⟨rfl, rfl, rfl, by decide +kernel, rfl, by decide +kernel, by decide +kernel⟩
def kn : List Str := ["Crossing", "Different", "InvalidBase", "InvalidChain", "InvalidChange", "InvalidCommand", "InvalidEntry", "InvalidKnown", "InvalidLog", "InvalidNumber", "InvalidPrices", "InvalidSize", "InvalidTag", "InvalidTarget", "InvalidText", "NothingToUndo", "BacklinkError"]
/-- what holds of the module -/
structure Mo (K : PySem.W.Frag) (mg : Str → Option Value) (ad : Str → Addr) : Prop where
  b_ValueError : mg "ValueError" = none
  b_all : mg "all" = none
  b_bool : mg "bool" = none
  b_enumerate : mg "enumerate" = none
  b_int : mg "int" = none
  b_isinstance : mg "isinstance" = none
  b_len : mg "len" = none
  b_list : mg "list" = none
  b_max : mg "max" = none
  b_min : mg "min" = none
  b_range : mg "range" = none
  b_repr : mg "repr" = none
  b_str : mg "str" = none
  b_sum : mg "sum" = none
  b_zip : mg "zip" = none
  g_MOST_ENTRIES : ∃ t, mg "MOST_ENTRIES" = some (.int 150 t)
  g_NO_LINKS : ∃ t, mg "NO_LINKS" = some (.str "-" t)
  g_DIGITS : ∃ t, mg "DIGITS" = some (.str "0123456789" t)
  g_MOST_DIGITS : ∃ t, mg "MOST_DIGITS" = some (.int 3 t)
  f_is_integer : mg "is_integer" = some (.ref (ad "is_integer"))
  f_have_form : mg "have_form" = some (.ref (ad "have_form"))
  f_least_crossing : mg "least_crossing" = some (.ref (ad "least_crossing"))
  f_is_log : mg "is_log" = some (.ref (ad "is_log"))
  f_need_log : mg "need_log" = some (.ref (ad "need_log"))
  f_number_in : mg "number_in" = some (.ref (ad "number_in"))
  f_numbers_in : mg "numbers_in" = some (.ref (ad "numbers_in"))
  f_log_text : mg "log_text" = some (.ref (ad "log_text"))
  f_show_log : mg "show_log" = some (.ref (ad "show_log"))
  f_read_log : mg "read_log" = some (.ref (ad "read_log"))
  f__law_reel : mg "_law_reel" = some (.ref (ad "_law_reel"))
  f__law_turn : mg "_law_turn" = some (.ref (ad "_law_turn"))
  f__law_grown : mg "_law_grown" = some (.ref (ad "_law_grown"))
  f__law_log_text : mg "_law_log_text" = some (.ref (ad "_law_log_text"))
  f__law_number : mg "_law_number" = some (.ref (ad "_law_number"))
  f__law_whole : mg "_law_whole" = some (.ref (ad "_law_whole"))
  f__law_is_log : mg "_law_is_log" = some (.ref (ad "_law_is_log"))
  f__law_log_of : mg "_law_log_of" = some (.ref (ad "_law_log_of"))
  f__law_odd : mg "_law_odd" = some (.ref (ad "_law_odd"))
  f__law_kinds : mg "_law_kinds" = some (.ref (ad "_law_kinds"))
  f__law_changed : mg "_law_changed" = some (.ref (ad "_law_changed"))
  f__law_told : mg "_law_told" = some (.ref (ad "_law_told"))
  f__law_right : mg "_law_right" = some (.ref (ad "_law_right"))
  f_law : mg "law" = some (.ref (ad "law"))
  d_is_integer : ∃ fd, FnP K "is_integer" s_is_integer (ad "is_integer") fd
  d_have_form : ∃ fd, FnP K "have_form" s_have_form (ad "have_form") fd
  d_least_crossing : ∃ fd, FnP K "least_crossing" s_least_crossing (ad "least_crossing") fd
  d_is_log : ∃ fd, FnP K "is_log" s_is_log (ad "is_log") fd
  d_need_log : ∃ fd, FnP K "need_log" s_need_log (ad "need_log") fd
  d_number_in : ∃ fd, FnP K "number_in" s_number_in (ad "number_in") fd
  d_numbers_in : ∃ fd, FnP K "numbers_in" s_numbers_in (ad "numbers_in") fd
  d_log_text : ∃ fd, FnP K "log_text" s_log_text (ad "log_text") fd
  d_show_log : ∃ fd, FnP K "show_log" s_show_log (ad "show_log") fd
  d_read_log : ∃ fd, FnP K "read_log" s_read_log (ad "read_log") fd
  d__law_reel : ∃ fd, FnP K "_law_reel" s__law_reel (ad "_law_reel") fd
  d__law_turn : ∃ fd, FnP K "_law_turn" s__law_turn (ad "_law_turn") fd
  d__law_grown : ∃ fd, FnP K "_law_grown" s__law_grown (ad "_law_grown") fd
  d__law_log_text : ∃ fd, FnP K "_law_log_text" s__law_log_text (ad "_law_log_text") fd
  d__law_number : ∃ fd, FnP K "_law_number" s__law_number (ad "_law_number") fd
  d__law_whole : ∃ fd, FnP K "_law_whole" s__law_whole (ad "_law_whole") fd
  d__law_is_log : ∃ fd, FnP K "_law_is_log" s__law_is_log (ad "_law_is_log") fd
  d__law_log_of : ∃ fd, FnP K "_law_log_of" s__law_log_of (ad "_law_log_of") fd
  d__law_odd : ∃ fd, FnP K "_law_odd" s__law_odd (ad "_law_odd") fd
  d__law_kinds : ∃ fd, FnP K "_law_kinds" s__law_kinds (ad "_law_kinds") fd
  d__law_changed : ∃ fd, FnP K "_law_changed" s__law_changed (ad "_law_changed") fd
  d__law_told : ∃ fd, FnP K "_law_told" s__law_told (ad "_law_told") fd
  d__law_right : ∃ fd, FnP K "_law_right" s__law_right (ad "_law_right") fd
  d_law : ∃ fd, FnP K "law" s_law (ad "law") fd
  gl_BacklinkError : mg "BacklinkError" = some (.ref (ad "BacklinkError"))
  gl_Crossing : mg "Crossing" = some (.ref (ad "Crossing"))
  gl_Different : mg "Different" = some (.ref (ad "Different"))
  gl_InvalidBase : mg "InvalidBase" = some (.ref (ad "InvalidBase"))
  gl_InvalidChain : mg "InvalidChain" = some (.ref (ad "InvalidChain"))
  gl_InvalidChange : mg "InvalidChange" = some (.ref (ad "InvalidChange"))
  gl_InvalidCommand : mg "InvalidCommand" = some (.ref (ad "InvalidCommand"))
  gl_InvalidEntry : mg "InvalidEntry" = some (.ref (ad "InvalidEntry"))
  gl_InvalidKnown : mg "InvalidKnown" = some (.ref (ad "InvalidKnown"))
  gl_InvalidLog : mg "InvalidLog" = some (.ref (ad "InvalidLog"))
  gl_InvalidNumber : mg "InvalidNumber" = some (.ref (ad "InvalidNumber"))
  gl_InvalidPrices : mg "InvalidPrices" = some (.ref (ad "InvalidPrices"))
  gl_InvalidSize : mg "InvalidSize" = some (.ref (ad "InvalidSize"))
  gl_InvalidTag : mg "InvalidTag" = some (.ref (ad "InvalidTag"))
  gl_InvalidTarget : mg "InvalidTarget" = some (.ref (ad "InvalidTarget"))
  gl_InvalidText : mg "InvalidText" = some (.ref (ad "InvalidText"))
  gl_NothingToUndo : mg "NothingToUndo" = some (.ref (ad "NothingToUndo"))
  ec : ∀ c, c ∈ rs → ECls K mg c (ad c)
  mt_BacklinkError : ∀ cl b, mt_BacklinkError cl = some b → PySem.W.exmOne K (clsOf ad cl) (.ref (ad "BacklinkError")) = some b
  xk : ∀ cl ∈ rs, ExcC K (ad cl) ∧ (∀ x ∈ kn, PySem.W.kitOne K (.ref (ad cl)) (.ref (ad x)) = some (kbl cl x)) ∧ PySem.W.kitOne K (.ref (ad cl)) (.type "ValueError") = some true
variable {P : Program} {w : World} {K : PySem.W.Frag} {mg : Str → Option Value} {base : Heap} {ad : Str → Addr}
theorem F_is_integer (M : Mo K mg ad) : Cal P w K mg base (ad "is_integer") 1 ["value", "low", "high"] (clsOf ad) [] sp_is_integer := by
  obtain ⟨fd, FD⟩ := M.d_is_integer
  exact calD (k := 0) (t := t_is_integer) FD (FD.bindsN fun _ _ _ _ _ _ us hl => match us, hl with | [_, _, _], _ => rfl) sc_is_integer len_is_integer (by decide) (by decide)
    (fun cdv A outer s H vs E as gd hr tk => (db_cons (ds_ret (dv_and (do_isi (T := "int") (by decide) (dv 0) M.b_isinstance M.b_int PyProof.Rows.boot_int) (dv_and (dv_not (do_isi (T := "bool") (by decide) (dv 0) M.b_isinstance M.b_bool PyProof.Rows.boot_bool)) (dv_one (do_chain opLe opLe (dv 1) (dv 0) (dv 2)))))) db_nil))
    pure_is_integer
theorem F_have_form (M : Mo K mg ad) : Cal P w K mg base (ad "have_form") 2 ["value"] (clsOf ad) [] sp_have_form := by
  obtain ⟨fd, FD⟩ := M.d_have_form
  exact calD (k := 1) (t := t_have_form) FD (FD.bindsN fun _ _ _ _ _ _ us hl => match us, hl with | [_], _ => rfl) sc_have_form len_have_form (by decide) (by decide)
    (fun cdv A outer s H vs E as gd hr tk => (db_cons (ds_if (dw_or (dt_not (dt_val (do_isi (T := "list") (by decide) (dv 0) M.b_isinstance M.b_list PyProof.Rows.boot_list))) (dw_or1 (dt_not (dt_chain opLe opLe di (do_len M.b_len (da_cons (dv 0) da_nil)) (dgI M.g_MOST_ENTRIES))))).pt (db_cons (ds_ret db) db_nil) db_nil) (db_cons (ds_ret (do_all rfl M.b_all (da_cons (do_lc rfl sc_have_form.nd [("entry", 1), ("link", 2)] (di_enum M.b_enumerate (da_cons (dv 0) da_nil)) (blkOk_by rfl) (fun _ _ _ _ _ => (pg_tup rfl (ng_cons sc_have_form.nd (ng_cons sc_have_form.nd ng_nil)).run)) (fun _ _ _ _ _ => dts_nil) (fun _ _ _ _ _ => (do_callC ms_is_integer (F_is_integer M) (hr.mono (by decide)) gd takesN mono_is_integer (da_cons (dv 2) (da_cons di (da_cons (do_max2 rfl M.b_max (da_cons di (da_cons (do_sub (dv 1) di) da_nil))) da_nil))) M.f_is_integer))) da_nil))) db_nil)))
    pure_have_form
theorem F_least_crossing (M : Mo K mg ad) : Cal P w K mg base (ad "least_crossing") 1 ["links"] (clsOf ad) [] sp_least_crossing := by
  obtain ⟨fd, FD⟩ := M.d_least_crossing
  exact calD (k := 0) (t := t_least_crossing) FD (FD.bindsN fun _ _ _ _ _ _ us hl => match us, hl with | [_], _ => rfl) sc_least_crossing len_least_crossing (by decide) (by decide)
    (fun cdv A outer s H vs E as gd hr tk => (db_cons (ds_pre [] (ds_for (passes_of rfl) rfl (di_enum M.b_enumerate (da_cons (dv 0) da_nil)) (pg_tup rfl (ng_cons sc_least_crossing.nd (ng_cons sc_least_crossing.nd ng_nil)).run) (db_post [.no 1, .no 2, .no 3] (db_cons (ds_pre [] (ds_for (passes_of rfl) rfl (di_rng2 M.b_range (da_cons (do_add (dv 1) di) (da_cons (do_len M.b_len (da_cons (dv 0) da_nil)) da_nil))) (pg_name sc_least_crossing.nd rfl (Or.inl rfl)) (db_post [.no 3] (db_cons (ds_if (dt_chain opLt opLt (dv 2) (do_ix (dv 0) (dv 3)) (dv 1)) (db_cons (ds_ret (do_tup (da_cons (dv 1) (da_cons (dv 3) da_nil)))) db_nil) db_nil) db_nil)))) db_nil)))) (db_cons (ds_ret dn) db_nil)))
    pure_least_crossing
theorem F_least_crossingD (M : Mo K mg ad) : Cal P w K mg base (ad "least_crossing") 1 ["links"] (clsOf ad) [] sp_least_crossingD := by
  obtain ⟨fd, FD⟩ := M.d_least_crossing
  exact calD (k := 0) (t := t_least_crossingD) FD (FD.bindsN fun _ _ _ _ _ _ us hl => match us, hl with | [_], _ => rfl) sc_least_crossing len_least_crossingD (by decide) (by decide)
    (fun cdv A outer s H vs E as gd hr tk => (db_cons (ds_pre [] (ds_for (passes_of rfl) rfl (di_enum M.b_enumerate (da_cons (dv 0) da_nil)) (pg_tup rfl (ng_cons sc_least_crossing.nd (ng_cons sc_least_crossing.nd ng_nil)).run) (db_post [.no 1, .no 2, .no 3] (db_cons (ds_pre [] (ds_for (passes_of rfl) rfl (di_rng2 M.b_range (da_cons (do_add (dv 1) di) (da_cons (do_len M.b_len (da_cons (dv 0) da_nil)) da_nil))) (pg_name sc_least_crossing.nd rfl (Or.inl rfl)) (db_post [.no 3] (db_cons (ds_if (dt_chain opLt opLt (dv 2) (do_ix (dv 0) (dv 3)) (dv 1)) (db_cons (ds_ret (do_tup (da_cons (dv 1) (da_cons (dv 3) da_nil)))) db_nil) db_nil) db_nil)))) db_nil)))) (db_cons (ds_ret dn) db_nil)))
    pure_least_crossingD
theorem F_is_log (M : Mo K mg ad) : Cal P w K mg base (ad "is_log") 3 ["value"] (clsOf ad) [] sp_is_log := by
  obtain ⟨fd, FD⟩ := M.d_is_log
  exact calD (k := 2) (t := t_is_log) FD (FD.bindsN fun _ _ _ _ _ _ us hl => match us, hl with | [_], _ => rfl) sc_is_log len_is_log (by decide) (by decide)
    (fun cdv A outer s H vs E as gd hr tk => (db_cons (ds_ret (dv_and (do_callC ms_have_form (F_have_form M) (hr.mono (by decide)) gd tk mono_have_form (da_cons (dv 0) da_nil) M.f_have_form) (dv_one (do_is (do_callC ms_least_crossing (F_least_crossing M) (hr.mono (by decide)) gd tk mono_least_crossing (da_cons (dv 0) da_nil) M.f_least_crossing) dn)))) db_nil))
    pure_is_log
theorem F_is_logD (M : Mo K mg ad) : Cal P w K mg base (ad "is_log") 3 ["value"] (clsOf ad) [] sp_is_logD := by
  obtain ⟨fd, FD⟩ := M.d_is_log
  exact calD (k := 2) (t := t_is_logD) FD (FD.bindsN fun _ _ _ _ _ _ us hl => match us, hl with | [_], _ => rfl) sc_is_log len_is_logD (by decide) (by decide)
    (fun cdv A outer s H vs E as gd hr tk => (db_cons (ds_ret (dv_and (do_callC ms_have_form (F_have_form M) (hr.mono (by decide)) gd tk mono_have_form (da_cons (dv 0) da_nil) M.f_have_form) (dv_one (do_is (do_callC ms_least_crossing (F_least_crossingD M) (hr.mono (by decide)) gd tk mono_least_crossingD (da_cons (dv 0) da_nil) M.f_least_crossing) dn)))) db_nil))
    pure_is_logD
theorem F_need_log (M : Mo K mg ad) : Cal P w K mg base (ad "need_log") 4 ["value"] (clsOf ad) [] sp_need_log := by
  obtain ⟨fd, FD⟩ := M.d_need_log
  exact calD (k := 3) (t := t_need_log) FD (FD.bindsN fun _ _ _ _ _ _ us hl => match us, hl with | [_], _ => rfl) sc_need_log len_need_log (by decide) (by decide)
    (fun cdv A outer s H vs E as gd hr tk => (db_cons (ds_if (dt_not (dt_val (do_callC ms_is_log (F_is_log M) (hr.mono (by decide)) gd tk mono_is_log (da_cons (dv 0) da_nil) M.f_is_log))) (db_cons (ds_raise (M.ec "InvalidLog" (by decide)) rfl rfl tk) db_nil) db_nil) db_nil))
    pure_need_log
theorem F_need_logD (M : Mo K mg ad) : Cal P w K mg base (ad "need_log") 4 ["value"] (clsOf ad) [] sp_need_logD := by
  obtain ⟨fd, FD⟩ := M.d_need_log
  exact calD (k := 3) (t := t_need_logD) FD (FD.bindsN fun _ _ _ _ _ _ us hl => match us, hl with | [_], _ => rfl) sc_need_log len_need_logD (by decide) (by decide)
    (fun cdv A outer s H vs E as gd hr tk => (db_cons (ds_if (dt_not (dt_val (do_callC ms_is_log (F_is_logD M) (hr.mono (by decide)) gd tk mono_is_logD (da_cons (dv 0) da_nil) M.f_is_log))) (db_cons (ds_raise (M.ec "InvalidLog" (by decide)) rfl rfl tk) db_nil) db_nil) db_nil))
    pure_need_logD
theorem F_number_in (M : Mo K mg ad) : Cal P w K mg base (ad "number_in") 1 ["word", "most"] (clsOf ad) [] sp_number_in := by
  obtain ⟨fd, FD⟩ := M.d_number_in
  exact calD (k := 0) (t := t_number_in) FD (FD.bindsN fun _ _ _ _ _ _ us hl => match us, hl with | [_, _], _ => rfl) sc_number_in len_number_in (by decide) (by decide)
    (fun cdv A outer s H vs E as gd hr tk => (db_cons (ds_if (dw_or (dt_not (dt_chain opLe opLe di (do_len M.b_len (da_cons (dv 0) da_nil)) (dv 1))) (dw_or1 (dt_not (dt_val (do_all rfl M.b_all (da_cons (do_lc rfl sc_number_in.nd [("sign", 2)] (di_str (dv 0)) (blkOk_by rfl) (fun _ _ _ _ _ => (pg_name sc_number_in.nd rfl (Or.inl rfl))) (fun _ _ _ _ _ => dts_nil) (fun _ _ _ _ _ => (do_in (dv 2) (dgS M.g_DIGITS)))) da_nil)))))).pt (db_cons (ds_ret dn) db_nil) db_nil) (db_cons (ds_ret (do_if (dw_and (dt_eq hr (do_ix (dv 0) di) ds) (dw_and1 (dt_gt (do_len M.b_len (da_cons (dv 0) da_nil)) di))).pt dn (do_int M.b_int (da_cons (dv 0) da_nil)))) db_nil)))
    pure_number_in
theorem F_numbers_in (M : Mo K mg ad) : Cal P w K mg base (ad "numbers_in") 2 ["words"] (clsOf ad) [] sp_numbers_in := by
  obtain ⟨fd, FD⟩ := M.d_numbers_in
  exact calD (k := 1) (t := t_numbers_in) FD (FD.bindsN fun _ _ _ _ _ _ us hl => match us, hl with | [_], _ => rfl) sc_numbers_in len_numbers_in (by decide) (by decide)
    (fun cdv A outer s H vs E as gd hr tk => (db_cons (ds_setLc rfl sc_numbers_in.nd [("word", 2)] (di_lst (dv 0)) (blkOk_by rfl) (fun _ _ _ _ _ => (pg_name sc_numbers_in.nd rfl (Or.inl rfl))) (fun _ _ _ _ _ => dts_nil) (fun _ _ _ _ _ => (do_callC ms_number_in (F_number_in M) (hr.mono (by decide)) gd takesN mono_number_in (da_cons (dv 2) (da_cons (dgI M.g_MOST_DIGITS) da_nil)) M.f_number_in)) (sw_true rfl rfl rfl rfl)) (db_cons (ds_pre [.fr 1] (ds_ret (do_if (dt_in dn (dv 1)) dn (dv 1)))) db_nil)))
    pure_numbers_in
theorem F_log_text (M : Mo K mg ad) : Cal P w K mg base (ad "log_text") 1 ["links"] (clsOf ad) [] sp_log_text := by
  obtain ⟨fd, FD⟩ := M.d_log_text
  exact calD (k := 0) (t := t_log_text) FD (FD.bindsN fun _ _ _ _ _ _ us hl => match us, hl with | [_], _ => rfl) sc_log_text len_log_text (by decide) (by decide)
    (fun cdv A outer s H vs E as gd hr tk => (db_cons (ds_ret (do_if (dt_gt (do_len M.b_len (da_cons (dv 0) da_nil)) di) (do_join ds (do_lc rfl sc_log_text.nd [("link", 1)] (di_lst (do_sl (dv 0) (dp_part di) dp_no)) (blkOk_by rfl) (fun _ _ _ _ _ => (pg_name sc_log_text.nd rfl (Or.inl rfl))) (fun _ _ _ _ _ => dts_nil) (fun _ _ _ _ _ => (do_str M.b_str (da_cons (dv 1) da_nil))))) (dgS M.g_NO_LINKS))) db_nil))
    pure_log_text
theorem F_show_log (M : Mo K mg ad) : Cal P w K mg base (ad "show_log") 5 ["links"] (clsOf ad) [] sp_show_log := by
  obtain ⟨fd, FD⟩ := M.d_show_log
  exact calD (k := 4) (t := t_show_log) FD (FD.bindsN fun _ _ _ _ _ _ us hl => match us, hl with | [_], _ => rfl) sc_show_log len_show_log (by decide) (by decide)
    (fun cdv A outer s H vs E as gd hr tk => (db_cons (ds_expr (do_callC ms_need_log (F_need_log M) (hr.mono (by decide)) gd tk mono_need_log (da_cons (dv 0) da_nil) M.f_need_log)) (db_cons (ds_ret (do_callC ms_log_text (F_log_text M) (hr.mono (by decide)) gd tk mono_log_text (da_cons (dv 0) da_nil) M.f_log_text)) db_nil)))
    pure_show_log
theorem F_read_log (M : Mo K mg ad) : Cal P w K mg base (ad "read_log") 4 ["text"] (clsOf ad) [] sp_read_log := by
  obtain ⟨fd, FD⟩ := M.d_read_log
  exact calD (k := 3) (t := t_read_log) FD (FD.bindsN fun _ _ _ _ _ _ us hl => match us, hl with | [_], _ => rfl) sc_read_log len_read_log (by decide) (by decide)
    (fun cdv A outer s H vs E as gd hr tk => (db_cons (ds_if (dt_eq hr (dv 0) (dgS M.g_NO_LINKS)) (db_cons (ds_ret (do_lst (da_cons di da_nil))) db_nil) db_nil) (db_cons (ds_set sc_read_log.nd (do_if (dt_val (do_isi (T := "str") (by decide) (dv 0) M.b_isinstance M.b_str PyProof.Rows.boot_str)) (do_callC ms_numbers_in (F_numbers_in M) (hr.mono (by decide)) gd tk mono_numbers_in (da_cons (do_split (dv 0) ds) da_nil) M.f_numbers_in) dn)) (db_cons (ds_if (dw_or (dt_is (dv 1) dn) (dw_or1 (dt_not (dt_val (do_callC ms_is_log (F_is_logD M) (hr.mono (by decide)) gd tk mono_is_logD (da_cons (do_add (do_lst (da_cons di da_nil)) (dv 1)) da_nil) M.f_is_log))))).pt (db_cons (ds_raise (M.ec "InvalidText" (by decide)) rfl rfl tk) db_nil) db_nil) (db_cons (ds_ret (do_add (do_lst (da_cons di da_nil)) (dv 1))) db_nil)))))
    pure_read_log
theorem F__law_reel (M : Mo K mg ad) : Cal P w K mg base (ad "_law_reel") 1 ["script", "k"] (clsOf ad) [] sp__law_reel := by
  obtain ⟨fd, FD⟩ := M.d__law_reel
  exact calD (k := 0) (t := t__law_reel) FD (FD.bindsN fun _ _ _ _ _ _ us hl => match us, hl with | [_, _], _ => rfl) sc__law_reel len__law_reel (by decide) (by decide)
    (fun cdv A outer s H vs E as gd hr tk => (db_cons (ds_set sc__law_reel.nd di) (db_cons (ds_post [] (ds_if (dt_lt (dv 1) (do_len M.b_len (da_cons (dv 0) da_nil))) (db_cons (ds_set sc__law_reel.nd (do_ix (dv 0) (dv 1))) db_nil) db_nil)) (db_cons (ds_ret (do_lst (da_cons (do_max2 rfl M.b_max (da_cons di (da_cons (do_sub (dv 2) (do_pow di di)) da_nil))) (da_cons (do_add (do_add (do_mul (do_mod (dv 2) (do_add (do_pow di di) di)) di) (do_mul di (dv 1))) di) (da_cons di da_nil))))) db_nil))))
    pure__law_reel
theorem F__law_turn (M : Mo K mg ad) : Cal P w K mg base (ad "_law_turn") 1 ["reel", "size"] (clsOf ad) [0] sp__law_turn := by
  obtain ⟨fd, FD⟩ := M.d__law_turn
  exact calD (k := 0) (t := t__law_turn) FD (FD.bindsN fun _ _ _ _ _ _ us hl => match us, hl with | [_, _], _ => rfl) sc__law_turn len__law_turn (by decide) (by decide)
    (fun cdv A outer s H vs E as gd hr tk => (db_cons (ds_if (dt_gt (do_ix (dv 0) di) di) (db_cons (ds_set sc__law_turn.nd (do_mod (do_ix (dv 0) di) (dv 1))) (db_cons (ds_sub (do_fdiv (do_ix (dv 0) di) (dv 1)) di) (db_cons (ds_ret (dv 2)) db_nil))) db_nil) (db_cons (ds_sub (do_add (do_ix (dv 0) di) di) di) (db_cons (ds_set sc__law_turn.nd (do_mod (do_pow (do_add (do_ix (dv 0) di) (do_mul di (do_ix (dv 0) di))) di) (do_add (do_pow di di) di))) (db_cons (ds_set sc__law_turn.nd (do_mod (do_add (do_mul (dv 3) (dv 3)) (do_mul di (do_ix (dv 0) di))) (do_add (do_pow di di) di))) (db_cons (ds_ret (do_mod (do_fdiv (dv 3) di) (dv 1))) db_nil))))))
    pure__law_turn
theorem F__law_grown (M : Mo K mg ad) : Cal P w K mg base (ad "_law_grown") 2 ["reel", "size"] (clsOf ad) [0] sp__law_grown := by
  obtain ⟨fd, FD⟩ := M.d__law_grown
  exact calD (k := 1) (t := t__law_grown) FD (FD.bindsN fun _ _ _ _ _ _ us hl => match us, hl with | [_, _], _ => rfl) sc__law_grown len__law_grown (by decide) (by decide)
    (fun cdv A outer s H vs E as gd hr tk => (db_cons (ds_par3 rfl sc__law_grown.nd (da_cons (do_callC ms__law_turn (F__law_turn M) (hr.mono (by decide)) gd tk mono__law_turn (da_cons (dv 0) (da_cons di da_nil)) M.f__law_turn) (da_cons (do_lst (da_cons di da_nil)) (da_cons (do_lst (da_cons di da_nil)) da_nil)))) (db_cons (ds_pre [] (ds_for (passes_of rfl) rfl (di_rng2 M.b_range (da_cons di (da_cons (dv 1) da_nil))) (pg_name sc__law_grown.nd rfl (Or.inl rfl)) (db_post [.no 5, .no 6, .no 7, .no 8, .no 9, .no 10] (db_cons (ds_set sc__law_grown.nd (do_len M.b_len (da_cons (dv 4) da_nil))) (db_cons (ds_par2 rfl sc__law_grown.nd (da_cons (do_callC ms__law_turn (F__law_turn M) (hr.mono (by decide)) gd tk mono__law_turn (da_cons (dv 0) (da_cons (do_min2 rfl M.b_min (da_cons di (da_cons (dv 6) da_nil))) da_nil)) M.f__law_turn) (da_cons (do_sub (do_sub (dv 6) di) (do_callC ms__law_turn (F__law_turn M) (hr.mono (by decide)) gd tk mono__law_turn (da_cons (dv 0) (da_cons (do_min2 rfl M.b_min (da_cons di (da_cons (dv 6) da_nil))) da_nil)) M.f__law_turn)) da_nil))) (db_cons (ds_set sc__law_grown.nd (do_if (dt_eq hr (do_callC ms__law_turn (F__law_turn M) (hr.mono (by decide)) gd tk mono__law_turn (da_cons (dv 0) (da_cons di da_nil)) M.f__law_turn) di) (do_callC ms__law_turn (F__law_turn M) (hr.mono (by decide)) gd tk mono__law_turn (da_cons (dv 0) (da_cons (dv 6) da_nil)) M.f__law_turn) (do_sub (dv 6) di))) (db_cons (ds_set sc__law_grown.nd (do_ix (do_lst (da_cons (do_callC ms__law_turn (F__law_turn M) (hr.mono (by decide)) gd tk mono__law_turn (da_cons (dv 0) (da_cons (dv 6) da_nil)) M.f__law_turn) (da_cons (dv 7) (da_cons (dv 8) (da_cons (dv 9) (da_cons (do_fdiv (dv 6) di) (da_cons (do_callC ms__law_turn (F__law_turn M) (hr.mono (by decide)) gd tk mono__law_turn (da_cons (dv 0) (da_cons (dv 6) da_nil)) M.f__law_turn) da_nil))))))) (dv 2))) (db_cons (ds_expr (do_mut mt_append ok_app mono_app PySem.F.slot_list_append PySem.F.type_list_append (da_cons (do_ix (dv 4) (dv 10)) da_nil))) (db_cons (ds_set sc__law_grown.nd (do_add (do_sl (dv 4) dp_no (dp_part (do_add (dv 10) di))) (do_lst (da_cons (dv 5) da_nil)))) db_nil))))))))) (db_cons (ds_ret (dv 3)) db_nil))))
    pure__law_grown
theorem F__law_log_text (M : Mo K mg ad) : Cal P w K mg base (ad "_law_log_text") 1 ["links"] (clsOf ad) [] sp__law_log_text := by
  obtain ⟨fd, FD⟩ := M.d__law_log_text
  exact calD (k := 0) (t := t__law_log_text) FD (FD.bindsN fun _ _ _ _ _ _ us hl => match us, hl with | [_], _ => rfl) sc__law_log_text len__law_log_text (by decide) (by decide)
    (fun cdv A outer s H vs E as gd hr tk => (db_cons (ds_ret (do_if (dt_gt (do_len M.b_len (da_cons (dv 0) da_nil)) di) (do_join ds (do_lc rfl sc__law_log_text.nd [("link", 1)] (di_lst (do_sl (dv 0) (dp_part di) dp_no)) (blkOk_by rfl) (fun _ _ _ _ _ => (pg_name sc__law_log_text.nd rfl (Or.inl rfl))) (fun _ _ _ _ _ => dts_nil) (fun _ _ _ _ _ => (do_str M.b_str (da_cons (dv 1) da_nil))))) ds)) db_nil))
    pure__law_log_text
theorem F__law_number (M : Mo K mg ad) : Cal P w K mg base (ad "_law_number") 1 ["word"] (clsOf ad) [] sp__law_number := by
  obtain ⟨fd, FD⟩ := M.d__law_number
  exact calD (k := 0) (t := t__law_number) FD (FD.bindsN fun _ _ _ _ _ _ us hl => match us, hl with | [_], _ => rfl) sc__law_number len__law_number (by decide) (by decide)
    (fun cdv A outer s H vs E as gd hr tk => (db_cons (ds_if (dw_or (dt_not (dt_chain opLe opLe di (do_len M.b_len (da_cons (dv 0) da_nil)) di)) (dw_or1 (dt_gt (do_sum rfl M.b_sum (da_cons (do_lc rfl sc__law_number.nd [("sign", 1)] (di_str (dv 0)) (blkOk_by rfl) (fun _ _ _ _ _ => (pg_name sc__law_number.nd rfl (Or.inl rfl))) (fun _ _ _ _ _ => dts_nil) (fun _ _ _ _ _ => (do_int M.b_int (da_cons (do_nin (dv 1) ds) da_nil)))) da_nil)) di))).pt (db_cons (ds_ret dn) db_nil) db_nil) (db_cons (ds_ret (do_if (dt_eq hr (do_str M.b_str (da_cons (do_int M.b_int (da_cons (dv 0) da_nil)) da_nil)) (dv 0)) (do_int M.b_int (da_cons (dv 0) da_nil)) dn)) db_nil)))
    pure__law_number
theorem F__law_whole (M : Mo K mg ad) : Cal P w K mg base (ad "_law_whole") 1 ["value", "least", "most"] (clsOf ad) [] sp__law_whole := by
  obtain ⟨fd, FD⟩ := M.d__law_whole
  exact calD (k := 0) (t := t__law_whole) FD (FD.bindsN fun _ _ _ _ _ _ us hl => match us, hl with | [_, _, _], _ => rfl) sc__law_whole len__law_whole (by decide) (by decide)
    (fun cdv A outer s H vs E as gd hr tk => (db_cons (ds_ret (dv_and (do_isi (T := "int") (by decide) (dv 0) M.b_isinstance M.b_int PyProof.Rows.boot_int) (dv_and (dv_not (do_isi (T := "bool") (by decide) (dv 0) M.b_isinstance M.b_bool PyProof.Rows.boot_bool)) (dv_one (do_chain opLe opLe (dv 1) (dv 0) (dv 2)))))) db_nil))
    pure__law_whole
theorem F__law_is_log (M : Mo K mg ad) : Cal P w K mg base (ad "_law_is_log") 2 ["value"] (clsOf ad) [] sp__law_is_log := by
  obtain ⟨fd, FD⟩ := M.d__law_is_log
  exact calD (k := 1) (t := t__law_is_log) FD (FD.bindsN fun _ _ _ _ _ _ us hl => match us, hl with | [_], _ => rfl) sc__law_is_log len__law_is_log (by decide) (by decide)
    (fun cdv A outer s H vs E as gd hr tk => (db_cons (ds_if (dw_or (dt_not (dt_val (do_isi (T := "list") (by decide) (dv 0) M.b_isinstance M.b_list PyProof.Rows.boot_list))) (dw_or (dt_lt (do_len M.b_len (da_cons (dv 0) da_nil)) di) (dw_or1 (dt_gt (do_len M.b_len (da_cons (dv 0) da_nil)) di)))).pt (db_cons (ds_ret db) db_nil) db_nil) (db_cons (ds_pre [] (ds_for (passes_of rfl) rfl (di_enum M.b_enumerate (da_cons (dv 0) da_nil)) (pg_tup rfl (ng_cons sc__law_is_log.nd (ng_cons sc__law_is_log.nd ng_nil)).run) (db_post [.no 1, .no 2] (db_cons (ds_if (dt_not (dt_val (do_callC ms__law_whole (F__law_whole M) (hr.mono (by decide)) gd tk mono__law_whole (da_cons (dv 2) (da_cons di (da_cons (do_max2 rfl M.b_max (da_cons di (da_cons (do_sub (dv 1) di) da_nil))) da_nil))) M.f__law_whole))) (db_cons (ds_ret db) db_nil) db_nil) db_nil)))) (db_cons (ds_pre [] (ds_for (passes_of rfl) rfl (di_rng2 M.b_range (da_cons di (da_cons (do_len M.b_len (da_cons (dv 0) da_nil)) da_nil))) (pg_name sc__law_is_log.nd rfl (Or.inl rfl)) (db_post [.no 1, .no 2] (db_cons (ds_set sc__law_is_log.nd (do_ix (dv 0) (dv 1))) (db_cons (ds_if (dt_ne hr (do_lc rfl sc__law_is_log.nd [("other", 3)] (di_rng2 M.b_range (da_cons (do_add (dv 2) di) (da_cons (dv 1) da_nil))) (blkOk_by rfl) (fun _ _ _ _ _ => (pg_name sc__law_is_log.nd rfl (Or.inl rfl))) (fun _ _ _ _ _ => (dts_one (dt_lt (do_ix (dv 0) (dv 3)) (dv 2)))) (fun _ _ _ _ _ => (dv 3))) (do_lst da_nil)) (db_cons (ds_ret db) db_nil) db_nil) db_nil))))) (db_cons (ds_ret db) db_nil)))))
    pure__law_is_log
theorem F__law_log_of (M : Mo K mg ad) : Cal P w K mg base (ad "_law_log_of") 3 ["text"] (clsOf ad) [] sp__law_log_of := by
  obtain ⟨fd, FD⟩ := M.d__law_log_of
  exact calD (k := 2) (t := t__law_log_of) FD (FD.bindsN fun _ _ _ _ _ _ us hl => match us, hl with | [_], _ => rfl) sc__law_log_of len__law_log_of (by decide) (by decide)
    (fun cdv A outer s H vs E as gd hr tk => (db_cons (ds_if (dt_eq hr (dv 0) ds) (db_cons (ds_ret (do_shr (do_lst (da_cons di da_nil)))) db_nil) db_nil) (db_cons (ds_set sc__law_log_of.nd (do_add (do_lst (da_cons di da_nil)) (do_lc rfl sc__law_log_of.nd [("word", 2)] (di_lst (do_split (dv 0) ds)) (blkOk_by rfl) (fun _ _ _ _ _ => (pg_name sc__law_log_of.nd rfl (Or.inl rfl))) (fun _ _ _ _ _ => dts_nil) (fun _ _ _ _ _ => (do_callC ms__law_number (F__law_number M) (hr.mono (by decide)) gd takesN mono__law_number (da_cons (dv 2) da_nil) M.f__law_number))))) (db_cons (ds_pre [.fr 1] (ds_ret (do_if (dt_val (do_callC ms__law_is_log (F__law_is_log M) (hr.mono (by decide)) gd tk mono__law_is_log (da_cons (dv 1) da_nil) M.f__law_is_log)) (dv 1) dn))) db_nil))))
    pure__law_log_of
theorem F__law_odd (M : Mo K mg ad) : Cal P w K mg base (ad "_law_odd") 2 ["reel"] (clsOf ad) [0] sp__law_odd := by
  obtain ⟨fd, FD⟩ := M.d__law_odd
  exact calD (k := 1) (t := t__law_odd) FD (FD.bindsN fun _ _ _ _ _ _ us hl => match us, hl with | [_], _ => rfl) sc__law_odd len__law_odd (by decide) (by decide)
    (fun cdv A outer s H vs E as gd hr tk => (db_cons (ds_set sc__law_odd.nd (do_lst (da_cons dn (da_cons db (da_cons db (da_cons (do_neg di) (da_cons di (da_cons (do_pow di di) (da_cons ds (da_cons ds (da_cons ds (da_cons ds (da_cons ds (da_cons ds (da_cons (do_tup da_nil) (da_cons (do_shr do_dct0) (da_cons (do_shr (do_lst da_nil)) (da_cons (do_shr (do_lst (da_cons dn da_nil))) (da_cons (do_shr (do_lst (da_cons db da_nil))) (da_cons (do_shr (do_lst (da_cons di da_nil))) da_nil)))))))))))))))))))) (db_cons (ds_set sc__law_odd.nd (do_add (dv 1) (do_lst (da_cons (do_shr (do_lst (da_cons di (da_cons db da_nil)))) (da_cons (do_shr (do_lst (da_cons di (da_cons (do_neg di) da_nil)))) (da_cons (do_shr (do_lst (da_cons di (da_cons di da_nil)))) (da_cons (do_shr (do_lst (da_cons ds da_nil))) (da_cons (do_shr (do_lst (da_cons di (da_cons di (da_cons di (da_cons di da_nil)))))) (da_cons (do_tup (da_cons di da_nil)) (da_cons (do_shr (do_lst (da_cons di (da_cons (do_shr (do_lst (da_cons di da_nil))) da_nil)))) (da_cons (do_shr (do_lst (da_cons di (da_cons dn da_nil)))) (da_cons (do_shr (do_dct (dpp_cons ds di dpp_nil))) (da_cons (do_shr (do_lst (da_cons (do_lst (da_cons di da_nil)) da_nil))) da_nil))))))))))))) (db_cons (ds_set sc__law_odd.nd (do_add (dv 1) (do_lst (da_cons (do_shr (do_mul (do_lst (da_cons di da_nil)) di)) (da_cons (do_shr (do_lst (da_cons di (da_cons di (da_cons ds da_nil))))) (da_cons (do_shr (do_lst (da_cons db da_nil))) (da_cons ds (da_cons ds (da_cons ds (da_cons ds (da_cons ds (da_cons (do_shr (do_dct (dpp_cons di di dpp_nil))) (da_cons (do_shr (do_lst (da_cons di (da_cons di (da_cons di (da_cons di da_nil)))))) da_nil))))))))))))) (db_cons (ds_ret (do_ix (dv 1) (do_callC ms__law_turn (F__law_turn M) (hr.mono (by decide)) gd tk mono__law_turn (da_cons (dv 0) (da_cons (do_len M.b_len (da_cons (dv 1) da_nil)) da_nil)) M.f__law_turn))) db_nil)))))
    pure__law_odd
theorem K__law_kinds (M : Mo K mg ad) (cl : Str) (ks : List Str) (h : kf cl = some ks) : ∃ D, clsOf ad cl = .ref D ∧ Knd P w K mg base 1 (ad "_law_kinds") D ks := by
  have hcl : cl ∈ rs := by
    unfold kf at h
    split at h
    · assumption
    · cases h
  have e : ks = [cl] := by
    unfold kf at h
    rw [if_pos hcl] at h
    exact (Option.some.inj h).symm
  subst e
  obtain ⟨fd, FD⟩ := M.d__law_kinds
  have hb := FD.bindsN (ps := ["caught"]) fun _ _ _ _ _ _ us hl => match us, hl with | [_], _ => rfl
  refine ⟨_, rfl, fd, _, fnK (t := t__law_kinds cl) (cls := clsOf ad) (He5.fun_of FD) sc__law_kinds (by decide) (fun cdv A outer s H p hot hz hv hr => (db_cons (ds_set sc__law_kinds.nd (do_lst (da_cons (do_isE (b := kbl cl "Crossing") (c := .ref (ad "Crossing")) (cv := .ref (ad "Crossing")) (by exact List.mem_singleton.mpr rfl) (M.xk cl hcl).1 hz hv (pe_glob (by exact rfl) M.gl_Crossing (by exact rfl)) (fun _ h => h) ((M.xk cl hcl).2.1 "Crossing" (by decide)) (by exact List.mem_singleton.mpr rfl) (by exact rfl) M.b_isinstance) (da_cons (do_isE (b := kbl cl "Different") (c := .ref (ad "Different")) (cv := .ref (ad "Different")) (by exact List.mem_singleton.mpr rfl) (M.xk cl hcl).1 hz hv (pe_glob (by exact rfl) M.gl_Different (by exact rfl)) (fun _ h => h) ((M.xk cl hcl).2.1 "Different" (by decide)) (by exact List.mem_singleton.mpr rfl) (by exact rfl) M.b_isinstance) (da_cons (do_isE (b := kbl cl "InvalidBase") (c := .ref (ad "InvalidBase")) (cv := .ref (ad "InvalidBase")) (by exact List.mem_singleton.mpr rfl) (M.xk cl hcl).1 hz hv (pe_glob (by exact rfl) M.gl_InvalidBase (by exact rfl)) (fun _ h => h) ((M.xk cl hcl).2.1 "InvalidBase" (by decide)) (by exact List.mem_singleton.mpr rfl) (by exact rfl) M.b_isinstance) da_nil))))) (db_cons (ds_set sc__law_kinds.nd (do_add (dv 1) (do_lst (da_cons (do_isE (b := kbl cl "InvalidChain") (c := .ref (ad "InvalidChain")) (cv := .ref (ad "InvalidChain")) (by exact List.mem_singleton.mpr rfl) (M.xk cl hcl).1 hz hv (pe_glob (by exact rfl) M.gl_InvalidChain (by exact rfl)) (fun _ h => h) ((M.xk cl hcl).2.1 "InvalidChain" (by decide)) (by exact List.mem_singleton.mpr rfl) (by exact rfl) M.b_isinstance) (da_cons (do_isE (b := kbl cl "InvalidChange") (c := .ref (ad "InvalidChange")) (cv := .ref (ad "InvalidChange")) (by exact List.mem_singleton.mpr rfl) (M.xk cl hcl).1 hz hv (pe_glob (by exact rfl) M.gl_InvalidChange (by exact rfl)) (fun _ h => h) ((M.xk cl hcl).2.1 "InvalidChange" (by decide)) (by exact List.mem_singleton.mpr rfl) (by exact rfl) M.b_isinstance) da_nil))))) (db_cons (ds_set sc__law_kinds.nd (do_add (dv 1) (do_lst (da_cons (do_isE (b := kbl cl "InvalidCommand") (c := .ref (ad "InvalidCommand")) (cv := .ref (ad "InvalidCommand")) (by exact List.mem_singleton.mpr rfl) (M.xk cl hcl).1 hz hv (pe_glob (by exact rfl) M.gl_InvalidCommand (by exact rfl)) (fun _ h => h) ((M.xk cl hcl).2.1 "InvalidCommand" (by decide)) (by exact List.mem_singleton.mpr rfl) (by exact rfl) M.b_isinstance) (da_cons (do_isE (b := kbl cl "InvalidEntry") (c := .ref (ad "InvalidEntry")) (cv := .ref (ad "InvalidEntry")) (by exact List.mem_singleton.mpr rfl) (M.xk cl hcl).1 hz hv (pe_glob (by exact rfl) M.gl_InvalidEntry (by exact rfl)) (fun _ h => h) ((M.xk cl hcl).2.1 "InvalidEntry" (by decide)) (by exact List.mem_singleton.mpr rfl) (by exact rfl) M.b_isinstance) da_nil))))) (db_cons (ds_set sc__law_kinds.nd (do_add (dv 1) (do_lst (da_cons (do_isE (b := kbl cl "InvalidKnown") (c := .ref (ad "InvalidKnown")) (cv := .ref (ad "InvalidKnown")) (by exact List.mem_singleton.mpr rfl) (M.xk cl hcl).1 hz hv (pe_glob (by exact rfl) M.gl_InvalidKnown (by exact rfl)) (fun _ h => h) ((M.xk cl hcl).2.1 "InvalidKnown" (by decide)) (by exact List.mem_singleton.mpr rfl) (by exact rfl) M.b_isinstance) (da_cons (do_isE (b := kbl cl "InvalidLog") (c := .ref (ad "InvalidLog")) (cv := .ref (ad "InvalidLog")) (by exact List.mem_singleton.mpr rfl) (M.xk cl hcl).1 hz hv (pe_glob (by exact rfl) M.gl_InvalidLog (by exact rfl)) (fun _ h => h) ((M.xk cl hcl).2.1 "InvalidLog" (by decide)) (by exact List.mem_singleton.mpr rfl) (by exact rfl) M.b_isinstance) da_nil))))) (db_cons (ds_set sc__law_kinds.nd (do_add (dv 1) (do_lst (da_cons (do_isE (b := kbl cl "InvalidNumber") (c := .ref (ad "InvalidNumber")) (cv := .ref (ad "InvalidNumber")) (by exact List.mem_singleton.mpr rfl) (M.xk cl hcl).1 hz hv (pe_glob (by exact rfl) M.gl_InvalidNumber (by exact rfl)) (fun _ h => h) ((M.xk cl hcl).2.1 "InvalidNumber" (by decide)) (by exact List.mem_singleton.mpr rfl) (by exact rfl) M.b_isinstance) (da_cons (do_isE (b := kbl cl "InvalidPrices") (c := .ref (ad "InvalidPrices")) (cv := .ref (ad "InvalidPrices")) (by exact List.mem_singleton.mpr rfl) (M.xk cl hcl).1 hz hv (pe_glob (by exact rfl) M.gl_InvalidPrices (by exact rfl)) (fun _ h => h) ((M.xk cl hcl).2.1 "InvalidPrices" (by decide)) (by exact List.mem_singleton.mpr rfl) (by exact rfl) M.b_isinstance) da_nil))))) (db_cons (ds_set sc__law_kinds.nd (do_add (dv 1) (do_lst (da_cons (do_isE (b := kbl cl "InvalidSize") (c := .ref (ad "InvalidSize")) (cv := .ref (ad "InvalidSize")) (by exact List.mem_singleton.mpr rfl) (M.xk cl hcl).1 hz hv (pe_glob (by exact rfl) M.gl_InvalidSize (by exact rfl)) (fun _ h => h) ((M.xk cl hcl).2.1 "InvalidSize" (by decide)) (by exact List.mem_singleton.mpr rfl) (by exact rfl) M.b_isinstance) (da_cons (do_isE (b := kbl cl "InvalidTag") (c := .ref (ad "InvalidTag")) (cv := .ref (ad "InvalidTag")) (by exact List.mem_singleton.mpr rfl) (M.xk cl hcl).1 hz hv (pe_glob (by exact rfl) M.gl_InvalidTag (by exact rfl)) (fun _ h => h) ((M.xk cl hcl).2.1 "InvalidTag" (by decide)) (by exact List.mem_singleton.mpr rfl) (by exact rfl) M.b_isinstance) da_nil))))) (db_cons (ds_set sc__law_kinds.nd (do_add (dv 1) (do_lst (da_cons (do_isE (b := kbl cl "InvalidTarget") (c := .ref (ad "InvalidTarget")) (cv := .ref (ad "InvalidTarget")) (by exact List.mem_singleton.mpr rfl) (M.xk cl hcl).1 hz hv (pe_glob (by exact rfl) M.gl_InvalidTarget (by exact rfl)) (fun _ h => h) ((M.xk cl hcl).2.1 "InvalidTarget" (by decide)) (by exact List.mem_singleton.mpr rfl) (by exact rfl) M.b_isinstance) (da_cons (do_isE (b := kbl cl "InvalidText") (c := .ref (ad "InvalidText")) (cv := .ref (ad "InvalidText")) (by exact List.mem_singleton.mpr rfl) (M.xk cl hcl).1 hz hv (pe_glob (by exact rfl) M.gl_InvalidText (by exact rfl)) (fun _ h => h) ((M.xk cl hcl).2.1 "InvalidText" (by decide)) (by exact List.mem_singleton.mpr rfl) (by exact rfl) M.b_isinstance) da_nil))))) (db_cons (ds_set sc__law_kinds.nd (do_add (dv 1) (do_lst (da_cons (do_isE (b := kbl cl "NothingToUndo") (c := .ref (ad "NothingToUndo")) (cv := .ref (ad "NothingToUndo")) (by exact List.mem_singleton.mpr rfl) (M.xk cl hcl).1 hz hv (pe_glob (by exact rfl) M.gl_NothingToUndo (by exact rfl)) (fun _ h => h) ((M.xk cl hcl).2.1 "NothingToUndo" (by decide)) (by exact List.mem_singleton.mpr rfl) (by exact rfl) M.b_isinstance) da_nil)))) (db_cons (ds_set sc__law_kinds.nd (do_lst (da_cons ds (da_cons ds (da_cons ds (da_cons ds (da_cons ds (da_cons ds da_nil)))))))) (db_cons (ds_set sc__law_kinds.nd (do_add (dv 2) (do_lst (da_cons ds (da_cons ds (da_cons ds (da_cons ds (da_cons ds da_nil)))))))) (db_cons (ds_set sc__law_kinds.nd (do_add (dv 2) (do_lst (da_cons ds (da_cons ds (da_cons ds (da_cons ds (da_cons ds da_nil)))))))) (db_cons (ds_setLcP hot (by exact List.mem_singleton.mpr rfl) sc__law_kinds.nd [("name", 4), ("kind", 5)] (di_zipP M.b_zip (da_cons (dv 2) (da_cons (dv 1) da_nil))) (blkOk_by rfl) (fun _ _ _ _ _ => (pg_tupP hot (ng_cons sc__law_kinds.nd (ng_cons sc__law_kinds.nd ng_nil)).run)) (fun _ _ _ _ _ => (dts_one (dt_val (dv 5)))) (fun _ _ _ _ _ => (dv 4)) (sw_true rfl rfl rfl rfl)) (db_cons (ds_post [] (ds_if (dw_or (dt_not (dt_val (do_isE (b := kbl cl "BacklinkError") (c := .ref (ad "BacklinkError")) (cv := .ref (ad "BacklinkError")) (by exact List.mem_singleton.mpr rfl) (M.xk cl hcl).1 hz hv (pe_glob (by exact rfl) M.gl_BacklinkError (by exact rfl)) (fun _ h => h) ((M.xk cl hcl).2.1 "BacklinkError" (by decide)) (by exact List.mem_singleton.mpr rfl) (by exact rfl) M.b_isinstance))) (dw_or1 (dt_not (dt_val (do_isE (b := true) (by exact List.mem_singleton.mpr rfl) (M.xk cl hcl).1 hz hv (pe_bltn (v := .ty "ValueError") (by exact rfl) M.b_ValueError L2.boot_ValueError (by exact rfl) (by decide) (by decide)) (fun _ h => h) (M.xk cl hcl).2.2 (by exact List.mem_singleton.mpr rfl) (by exact rfl) M.b_isinstance))))).pt (db_cons (ds_expr (do_mut mt_append ok_app mono_app PySem.F.slot_list_append PySem.F.type_list_append (da_cons ds da_nil))) db_nil) db_nil)) (db_cons (ds_ret (dv 3)) db_nil))))))))))))))) ?_, FD.kp, hb⟩
  have T := T__law_kinds cl
  have z := T (fun _ _ => False) ⟨fun _ => False, fun r _ => r = .own ([cl].map PyData.str), fun _ => False, fun _ => False⟩
  refine z ?_
  rw [kinds_val cl hcl]
  exact ⟨fun s n q => out_own q, fun n q => nomatch (Option.some.inj (show some (Sl.sh .none) = some (.own _) from q))⟩
theorem F__law_changed (M : Mo K mg ad) : Cal P w K mg base (ad "_law_changed") 2 ["reel", "text"] (clsOf ad) [0] sp__law_changed := by
  obtain ⟨fd, FD⟩ := M.d__law_changed
  exact calD (k := 1) (t := t__law_changed) FD (FD.bindsN fun _ _ _ _ _ _ us hl => match us, hl with | [_, _], _ => rfl) sc__law_changed len__law_changed (by decide) (by decide)
    (fun cdv A outer s H vs E as gd hr tk => (db_cons (ds_set sc__law_changed.nd (do_callC ms__law_turn (F__law_turn M) (hr.mono (by decide)) gd tk mono__law_turn (da_cons (dv 0) (da_cons (do_add (do_len M.b_len (da_cons (dv 1) da_nil)) di) da_nil)) M.f__law_turn)) (db_cons (ds_set sc__law_changed.nd (do_lst (da_cons ds (da_cons ds da_nil)))) (db_cons (ds_set sc__law_changed.nd (do_ix (dv 3) (do_callC ms__law_turn (F__law_turn M) (hr.mono (by decide)) gd tk mono__law_turn (da_cons (dv 0) (da_cons di da_nil)) M.f__law_turn))) (db_cons (ds_par2 rfl sc__law_changed.nd (da_cons (do_ix (dv 4) (do_callC ms__law_turn (F__law_turn M) (hr.mono (by decide)) gd tk mono__law_turn (da_cons (dv 0) (da_cons (do_len M.b_len (da_cons (dv 4) da_nil)) da_nil)) M.f__law_turn)) (da_cons (do_split (dv 1) ds) da_nil))) (db_cons (ds_set sc__law_changed.nd (do_callC ms__law_turn (F__law_turn M) (hr.mono (by decide)) gd tk mono__law_turn (da_cons (dv 0) (da_cons (do_len M.b_len (da_cons (dv 6) da_nil)) da_nil)) M.f__law_turn)) (db_cons (ds_set sc__law_changed.nd (do_lst (da_cons (do_add (do_add (do_sl (dv 1) dp_no (dp_part (dv 2))) (dv 5)) (do_sl (dv 1) (dp_part (dv 2)) dp_no)) (da_cons (do_add (do_sl (dv 1) dp_no (dp_part (dv 2))) (do_sl (dv 1) (dp_part (do_add (dv 2) di)) dp_no)) (da_cons (do_add (do_add (do_sl (dv 1) dp_no (dp_part (dv 2))) (dv 5)) (do_sl (dv 1) (dp_part (do_add (dv 2) di)) dp_no)) da_nil))))) (db_cons (ds_set sc__law_changed.nd (do_add (dv 8) (do_lst (da_cons (do_add (dv 1) ds) (da_cons (do_add ds (dv 1)) (da_cons (do_add (dv 1) (dv 1)) da_nil)))))) (db_cons (ds_set sc__law_changed.nd (do_add (dv 8) (do_lst (da_cons (do_join ds (do_add (do_sl (dv 6) dp_no (dp_part (dv 7))) (do_sl (dv 6) (dp_part (do_add (dv 7) di)) dp_no))) (da_cons (do_join ds (do_add (do_sl (dv 6) dp_no (dp_part (do_add (dv 7) di))) (do_sl (dv 6) (dp_part (dv 7)) dp_no))) da_nil))))) (db_cons (ds_expr (do_mut mt_append ok_app mono_app PySem.F.slot_list_append PySem.F.type_list_append (da_cons (do_join ds (do_revS (dv 6))) da_nil))) (db_cons (ds_sub (do_ix (do_lst (da_cons (do_ix (dv 6) di) (da_cons ds (da_cons ds (da_cons ds (da_cons ds (da_cons ds (da_cons ds (da_cons ds (da_cons ds (da_cons ds da_nil))))))))))) (do_callC ms__law_turn (F__law_turn M) (hr.mono (by decide)) gd tk mono__law_turn (da_cons (dv 0) (da_cons di da_nil)) M.f__law_turn)) (dv 7)) (db_cons (ds_ret (do_ix (do_add (dv 8) (do_mul (do_lst (da_cons (do_join ds (dv 6)) da_nil)) di)) (do_callC ms__law_turn (F__law_turn M) (hr.mono (by decide)) gd tk mono__law_turn (da_cons (dv 0) (da_cons di da_nil)) M.f__law_turn))) db_nil))))))))))))
    pure__law_changed
theorem F__law_told (M : Mo K mg ad) : Cal P w K mg base (ad "_law_told") 5 ["value"] (clsOf ad) [] sp__law_told := by
  obtain ⟨fd, FD⟩ := M.d__law_told
  exact calD (k := 4) (t := t__law_told) FD (FD.bindsN fun _ _ _ _ _ _ us hl => match us, hl with | [_], _ => rfl) sc__law_told len__law_told (by decide) (by decide)
    (fun cdv A outer s H vs E as gd hr tk => (db_cons (ds_try [] mt_BacklinkError rfl rfl sc__law_told.nd rfl rfl ⟨rfl, by decide, .inl M.gl_BacklinkError⟩ tk (M.mt_BacklinkError) (by exact of_decide_eq_true rfl) (fun W' pn xe tk hp => db_post [] (db_cons (ds_ret (do_shr (do_callC ms_read_log (F_read_log M) (hr.mono (by decide)) gd tk mono_read_log (da_cons (dv 0) da_nil) M.f_read_log))) db_nil)) (fun cl a oe pn hz hv => (db_cons (ds_ret (do_shr (do_knd (p := (a, oe)) (fun ks h => K__law_kinds M cl ks h) ⟨(hr.mono (j := 1) (by decide)).dp, (hr.mono (j := 1) (by decide)).un⟩ ⟨rfl, hv.elim fun vs e => ⟨vs, e, hz.2.2 vs e⟩⟩ List.mem_cons_self ⟨hz.1, hz.2.1⟩ hv M.f__law_kinds))) db_nil))) db_nil))
    pure__law_told
theorem F__law_right (M : Mo K mg ad) : Cal P w K mg base (ad "_law_right") 6 ["value"] (clsOf ad) [] sp__law_right := by
  obtain ⟨fd, FD⟩ := M.d__law_right
  exact calD (k := 5) (t := t__law_right) FD (FD.bindsN fun _ _ _ _ _ _ us hl => match us, hl with | [_], _ => rfl) sc__law_right len__law_right (by decide) (by decide)
    (fun cdv A outer s H vs E as gd hr tk => (db_cons (ds_par2 rfl sc__law_right.nd (da_cons (do_callC ms__law_told (F__law_told M) (hr.mono (by decide)) gd tk mono__law_told (da_cons (dv 0) da_nil) M.f__law_told) (da_cons dn da_nil))) (db_cons (ds_post [] (ds_if (dt_val (do_isi (T := "str") (by decide) (dv 0) M.b_isinstance M.b_str PyProof.Rows.boot_str)) (db_cons (ds_set sc__law_right.nd (do_callC ms__law_log_of (F__law_log_of M) (hr.mono (by decide)) gd tk mono__law_log_of (da_cons (dv 0) da_nil) M.f__law_log_of)) db_nil) db_nil)) (db_cons (ds_if (dt_is (dv 2) dn) (db_cons (ds_ret (do_eq hr (dv 1) (do_lst (da_cons ds da_nil)))) db_nil) db_nil) (db_cons (ds_ret (dv_and (do_eq hr (do_repr hr gd M.b_repr (da_cons (dv 1) da_nil)) (do_repr hr gd M.b_repr (da_cons (dv 2) da_nil))) (dv_one (do_eq hr (do_callC ms_show_log (F_show_log M) (hr.mono (by decide)) gd tk mono_show_log (da_cons (dv 1) da_nil) M.f_show_log) (dv 0))))) db_nil)))))
    pure__law_right
theorem F_law (M : Mo K mg ad) : Cal P w K mg base (ad "law") 7 ["script"] (clsOf ad) [] sp_law := by
  obtain ⟨fd, FD⟩ := M.d_law
  exact calD (k := 6) (t := t_law) FD (FD.bindsN fun _ _ _ _ _ _ us hl => match us, hl with | [_], _ => rfl) sc_law len_law (by decide) (by decide)
    (fun cdv A outer s H vs E as gd hr tk => (db_cons (ds_pre [] (ds_for (passes_of rfl) rfl (di_rng1 M.b_range (da_cons (do_max2 rfl M.b_max (da_cons di (da_cons (do_min2 rfl M.b_min (da_cons di (da_cons (do_add (do_len M.b_len (da_cons (dv 0) da_nil)) di) da_nil))) da_nil))) da_nil)) (pg_name sc_law.nd rfl (Or.inl rfl)) (db_post [.no 1, .no 2, .no 3, .no 4, .no 5, .no 6, .no 7] (db_cons (ds_set sc_law.nd (do_callC ms__law_reel (F__law_reel M) (hr.mono (by decide)) gd tk mono__law_reel (da_cons (dv 0) (da_cons (dv 1) da_nil)) M.f__law_reel)) (db_cons (ds_pre [] (ds_for (passes_of rfl) rfl (di_rng1 M.b_range (da_cons di da_nil)) (pg_name sc_law.nd rfl (Or.inl rfl)) (db_post [.no 3, .no 4, .no 5, .no 6, .no 7] (db_cons (ds_set sc_law.nd (do_add di (do_callC ms__law_turn (F__law_turn M) (hr.mono (by decide)) gd tk mono__law_turn (da_cons (dv 2) (da_cons (do_ix (do_lst (da_cons di (da_cons di (da_cons (do_ix (do_lst (da_cons di (da_cons di da_nil))) (do_int M.b_int (da_cons (do_eq hr (dv 1) di) da_nil))) da_nil)))) (do_callC ms__law_turn (F__law_turn M) (hr.mono (by decide)) gd tk mono__law_turn (da_cons (dv 2) (da_cons di da_nil)) M.f__law_turn)) da_nil)) M.f__law_turn))) (db_cons (ds_set sc_law.nd (do_callC ms__law_log_text (F__law_log_text M) (hr.mono (by decide)) gd tk mono__law_log_text (da_cons (do_callC ms__law_grown (F__law_grown M) (hr.mono (by decide)) gd tk mono__law_grown (da_cons (dv 2) (da_cons (dv 4) da_nil)) M.f__law_grown) da_nil) M.f__law_log_text)) (db_cons (ds_pre [] (ds_for (passes_of rfl) rfl (di_rng1 M.b_range (da_cons (do_min2 rfl M.b_min (da_cons (dv 3) (da_cons di da_nil))) da_nil)) (pg_name sc_law.nd rfl (Or.inl rfl)) (db_post [.no 6] (db_cons (ds_set sc_law.nd (do_sl (do_callC ms__law_changed (F__law_changed M) (hr.mono (by decide)) gd tk mono__law_changed (da_cons (dv 2) (da_cons (dv 5) da_nil)) M.f__law_changed) dp_no (dp_part di))) db_nil)))) (db_cons (ds_set sc_law.nd (do_callC ms__law_odd (F__law_odd M) (hr.mono (by decide)) gd tk mono__law_odd (da_cons (dv 2) da_nil) M.f__law_odd)) (db_cons (ds_if (dw_or (dt_not (dt_val (do_callC ms__law_right (F__law_right M) (hr.mono (by decide)) gd tk mono__law_right (da_cons (dv 5) da_nil) M.f__law_right))) (dw_or1 (dt_not (dt_val (do_callC ms__law_right (F__law_right M) (hr.mono (by decide)) gd tk mono__law_right (da_cons (dv 7) da_nil) M.f__law_right))))).pt (db_cons (ds_ret db) db_nil) db_nil) db_nil)))))))) db_nil))))) (db_cons (ds_set sc_law.nd (do_join ds (do_mul (do_lst (da_cons ds da_nil)) di))) (db_cons (ds_ret (dv_and (do_callC ms__law_right (F__law_right M) (hr.mono (by decide)) gd tk mono__law_right (da_cons (dv 8) da_nil) M.f__law_right) (dv_one (do_callC ms__law_right (F__law_right M) (hr.mono (by decide)) gd tk mono__law_right (da_cons (do_add (dv 8) ds) da_nil) M.f__law_right)))) db_nil))))
    pure_law
theorem L_law (M : Mo K mg ad) : ∃ fd : FuncData, (∀ (s : Shared) (v : Value), BindsTo s fd ⟨[v], []⟩ [("script", v)]) ∧ ∀ base : Heap, FnG P w K mg base (L2N.CX P w) 7 (ad "law") fd ["script"] (liftSp K (clsOf ad) [] sp_law) := by
  obtain ⟨fd, FD⟩ := M.d_law
  have b := FunD.bindsA (ps := ["script"]) FD fun _ _ _ _ _ _ us hl => match us, hl with | [_], _ => rfl
  refine ⟨fd, fun s v => b s [v] rfl, fun base => ?_⟩
  exact calF (k := 6) (t := t_law) FD sc_law len_law (by decide) (by decide)
    (fun cdv A outer s H vs E as gd hr tk => (db_cons (ds_pre [] (ds_for (passes_of rfl) rfl (di_rng1 M.b_range (da_cons (do_max2 rfl M.b_max (da_cons di (da_cons (do_min2 rfl M.b_min (da_cons di (da_cons (do_add (do_len M.b_len (da_cons (dv 0) da_nil)) di) da_nil))) da_nil))) da_nil)) (pg_name sc_law.nd rfl (Or.inl rfl)) (db_post [.no 1, .no 2, .no 3, .no 4, .no 5, .no 6, .no 7] (db_cons (ds_set sc_law.nd (do_callC ms__law_reel (F__law_reel M) (hr.mono (by decide)) gd tk mono__law_reel (da_cons (dv 0) (da_cons (dv 1) da_nil)) M.f__law_reel)) (db_cons (ds_pre [] (ds_for (passes_of rfl) rfl (di_rng1 M.b_range (da_cons di da_nil)) (pg_name sc_law.nd rfl (Or.inl rfl)) (db_post [.no 3, .no 4, .no 5, .no 6, .no 7] (db_cons (ds_set sc_law.nd (do_add di (do_callC ms__law_turn (F__law_turn M) (hr.mono (by decide)) gd tk mono__law_turn (da_cons (dv 2) (da_cons (do_ix (do_lst (da_cons di (da_cons di (da_cons (do_ix (do_lst (da_cons di (da_cons di da_nil))) (do_int M.b_int (da_cons (do_eq hr (dv 1) di) da_nil))) da_nil)))) (do_callC ms__law_turn (F__law_turn M) (hr.mono (by decide)) gd tk mono__law_turn (da_cons (dv 2) (da_cons di da_nil)) M.f__law_turn)) da_nil)) M.f__law_turn))) (db_cons (ds_set sc_law.nd (do_callC ms__law_log_text (F__law_log_text M) (hr.mono (by decide)) gd tk mono__law_log_text (da_cons (do_callC ms__law_grown (F__law_grown M) (hr.mono (by decide)) gd tk mono__law_grown (da_cons (dv 2) (da_cons (dv 4) da_nil)) M.f__law_grown) da_nil) M.f__law_log_text)) (db_cons (ds_pre [] (ds_for (passes_of rfl) rfl (di_rng1 M.b_range (da_cons (do_min2 rfl M.b_min (da_cons (dv 3) (da_cons di da_nil))) da_nil)) (pg_name sc_law.nd rfl (Or.inl rfl)) (db_post [.no 6] (db_cons (ds_set sc_law.nd (do_sl (do_callC ms__law_changed (F__law_changed M) (hr.mono (by decide)) gd tk mono__law_changed (da_cons (dv 2) (da_cons (dv 5) da_nil)) M.f__law_changed) dp_no (dp_part di))) db_nil)))) (db_cons (ds_set sc_law.nd (do_callC ms__law_odd (F__law_odd M) (hr.mono (by decide)) gd tk mono__law_odd (da_cons (dv 2) da_nil) M.f__law_odd)) (db_cons (ds_if (dw_or (dt_not (dt_val (do_callC ms__law_right (F__law_right M) (hr.mono (by decide)) gd tk mono__law_right (da_cons (dv 5) da_nil) M.f__law_right))) (dw_or1 (dt_not (dt_val (do_callC ms__law_right (F__law_right M) (hr.mono (by decide)) gd tk mono__law_right (da_cons (dv 7) da_nil) M.f__law_right))))).pt (db_cons (ds_ret db) db_nil) db_nil) db_nil)))))))) db_nil))))) (db_cons (ds_set sc_law.nd (do_join ds (do_mul (do_lst (da_cons ds da_nil)) di))) (db_cons (ds_ret (dv_and (do_callC ms__law_right (F__law_right M) (hr.mono (by decide)) gd tk mono__law_right (da_cons (dv 8) da_nil) M.f__law_right) (dv_one (do_callC ms__law_right (F__law_right M) (hr.mono (by decide)) gd tk mono__law_right (da_cons (do_add (dv 8) ds) da_nil) M.f__law_right)))) db_nil))))
    pure_law
end
end T

namespace T
open PySem L2 L3
namespace Hd
def d_is_integer : He.DefD := ⟨("is_integer", none), "is_integer", "is_integer", defArgs s_is_integer, defBody s_is_integer, defScope s_is_integer, [], []⟩
def d_have_form : He.DefD := ⟨("have_form", none), "have_form", "have_form", defArgs s_have_form, defBody s_have_form, defScope s_have_form, [], []⟩
def d_least_crossing : He.DefD := ⟨("least_crossing", none), "least_crossing", "least_crossing", defArgs s_least_crossing, defBody s_least_crossing, defScope s_least_crossing, [], []⟩
def d_is_log : He.DefD := ⟨("is_log", none), "is_log", "is_log", defArgs s_is_log, defBody s_is_log, defScope s_is_log, [], []⟩
def d_need_log : He.DefD := ⟨("need_log", none), "need_log", "need_log", defArgs s_need_log, defBody s_need_log, defScope s_need_log, [], []⟩
def d_number_in : He.DefD := ⟨("number_in", none), "number_in", "number_in", defArgs s_number_in, defBody s_number_in, defScope s_number_in, [], []⟩
def d_numbers_in : He.DefD := ⟨("numbers_in", none), "numbers_in", "numbers_in", defArgs s_numbers_in, defBody s_numbers_in, defScope s_numbers_in, [], []⟩
def d_log_text : He.DefD := ⟨("log_text", none), "log_text", "log_text", defArgs s_log_text, defBody s_log_text, defScope s_log_text, [], []⟩
def d_show_log : He.DefD := ⟨("show_log", none), "show_log", "show_log", defArgs s_show_log, defBody s_show_log, defScope s_show_log, [], []⟩
def d_read_log : He.DefD := ⟨("read_log", none), "read_log", "read_log", defArgs s_read_log, defBody s_read_log, defScope s_read_log, [], []⟩
def d__law_reel : He.DefD := ⟨("_law_reel", none), "_law_reel", "_law_reel", defArgs s__law_reel, defBody s__law_reel, defScope s__law_reel, [], []⟩
def d__law_turn : He.DefD := ⟨("_law_turn", none), "_law_turn", "_law_turn", defArgs s__law_turn, defBody s__law_turn, defScope s__law_turn, [], []⟩
def d__law_grown : He.DefD := ⟨("_law_grown", none), "_law_grown", "_law_grown", defArgs s__law_grown, defBody s__law_grown, defScope s__law_grown, [], []⟩
def d__law_log_text : He.DefD := ⟨("_law_log_text", none), "_law_log_text", "_law_log_text", defArgs s__law_log_text, defBody s__law_log_text, defScope s__law_log_text, [], []⟩
def d__law_number : He.DefD := ⟨("_law_number", none), "_law_number", "_law_number", defArgs s__law_number, defBody s__law_number, defScope s__law_number, [], []⟩
def d__law_whole : He.DefD := ⟨("_law_whole", none), "_law_whole", "_law_whole", defArgs s__law_whole, defBody s__law_whole, defScope s__law_whole, [], []⟩
def d__law_is_log : He.DefD := ⟨("_law_is_log", none), "_law_is_log", "_law_is_log", defArgs s__law_is_log, defBody s__law_is_log, defScope s__law_is_log, [], []⟩
def d__law_log_of : He.DefD := ⟨("_law_log_of", none), "_law_log_of", "_law_log_of", defArgs s__law_log_of, defBody s__law_log_of, defScope s__law_log_of, [], []⟩
def d__law_odd : He.DefD := ⟨("_law_odd", none), "_law_odd", "_law_odd", defArgs s__law_odd, defBody s__law_odd, defScope s__law_odd, [], []⟩
def d__law_kinds : He.DefD := ⟨("_law_kinds", none), "_law_kinds", "_law_kinds", defArgs s__law_kinds, defBody s__law_kinds, defScope s__law_kinds, [], []⟩
def d__law_changed : He.DefD := ⟨("_law_changed", none), "_law_changed", "_law_changed", defArgs s__law_changed, defBody s__law_changed, defScope s__law_changed, [], []⟩
def d__law_told : He.DefD := ⟨("_law_told", none), "_law_told", "_law_told", defArgs s__law_told, defBody s__law_told, defScope s__law_told, [], []⟩
def d__law_right : He.DefD := ⟨("_law_right", none), "_law_right", "_law_right", defArgs s__law_right, defBody s__law_right, defScope s__law_right, [], []⟩
def d_law : He.DefD := ⟨("law", none), "law", "law", defArgs s_law, defBody s_law, defScope s_law, [], []⟩
def fn : List He.DefD := ([d_is_integer, d_have_form, d_least_crossing, d_is_log, d_need_log, d_number_in, d_numbers_in, d_log_text, d_show_log, d_read_log, d__law_reel, d__law_turn, d__law_grown, d__law_log_text, d__law_number, d__law_whole, d__law_is_log, d__law_log_of, d__law_odd, d__law_kinds] : List He.DefD) ++ ([d__law_changed, d__law_told, d__law_right, d_law] : List He.DefD)
def fa : List He.Fa := ([.glo "is_integer", .glo "have_form", .glo "least_crossing", .glo "is_log", .glo "need_log", .glo "number_in", .glo "numbers_in", .glo "log_text", .glo "show_log", .glo "read_log", .glo "_law_reel", .glo "_law_turn", .glo "_law_grown", .glo "_law_log_text", .glo "_law_number", .glo "_law_whole", .glo "_law_is_log", .glo "_law_log_of", .glo "_law_odd", .glo "_law_kinds"] : List He.Fa) ++ ([.glo "_law_changed", .glo "_law_told", .glo "_law_right", .glo "law", .free "ValueError", .free "all", .free "bool", .free "enumerate", .free "int", .free "isinstance", .free "len", .free "list", .free "max", .free "min", .free "range", .free "repr", .free "str", .free "sum", .free "zip", .int "MOST_ENTRIES" 150] : List He.Fa) ++ ([.str "NO_LINKS" "-", .str "DIGITS" "0123456789", .int "MOST_DIGITS" 3, .glo "BacklinkError", .glo "Crossing", .glo "Different", .glo "InvalidBase", .glo "InvalidChain", .glo "InvalidChange", .glo "InvalidCommand", .glo "InvalidEntry", .glo "InvalidKnown", .glo "InvalidLog", .glo "InvalidNumber", .glo "InvalidPrices", .glo "InvalidSize", .glo "InvalidTag", .glo "InvalidTarget", .glo "InvalidText", .glo "NothingToUndo"] : List He.Fa) ++ ([.exc "InvalidText", .exc "InvalidLog", .exm "InvalidText" "BacklinkError" (kbl "InvalidText" "BacklinkError"), .exm "InvalidLog" "BacklinkError" (kbl "InvalidLog" "BacklinkError")] : List He.Fa)
def names : List PySem.Str := (["BacklinkError", "InvalidLog", "InvalidEntry", "InvalidTarget", "InvalidChain", "InvalidNumber", "InvalidSize", "InvalidKnown", "InvalidPrices", "InvalidBase", "InvalidTag", "InvalidText", "InvalidCommand", "Different", "NothingToUndo", "Crossing", "InvalidChange", "MOST_ENTRIES", "is_integer", "have_form"] : List PySem.Str) ++ (["least_crossing", "is_log", "need_log", "NO_LINKS", "DIGITS", "MOST_DIGITS", "number_in", "numbers_in", "log_text", "show_log", "read_log", "_law_reel", "_law_turn", "_law_grown", "_law_log_text", "_law_number", "_law_log_of", "_law_whole", "_law_is_log", "_law_odd"] : List PySem.Str) ++ (["_law_kinds", "_law_changed", "_law_told", "_law_right"] : List PySem.Str)
def bx (K : PySem.W.Frag) : Bool := errB rs kn kbl K
abbrev R : PySem.W.OpenRow := PySem.W.OpenLaw.row PySem.Challenge.rw_backlinks_k67_texts_of_no_log
abbrev hk : PySem.W.Hook := hookX 4 bx fa fn
def ob (s : PySem.W.SharedT) : AlX := obsX 4 bx fa fn (HandSHeadRun.getT s)
theorem ob_eq (s : PySem.W.SharedT) : ob s = hk.obs s.abs := obsX_eq (HandSHeadRun.getT_eq s)
theorem run (w : World) : HandSHeadRun.RunEq R (PySem.W.view R.prog [48]) hk ob 6000 names w := by
  intro os
  kernel_rfl
end Hd
section
open PySem.Spec PyProof.Rows
theorem says {K : PySem.W.Frag} {h : Heap} {mg : PySem.Str → Option Value} (X : K.In h) (G : h.Ns mainGlobals mg) (hb : Hd.bx K = true) (c : He.SaysD Hd.fa Hd.fn K) : Mo K mg (He.ga K) where
  b_ValueError := He.free_ok X G (c.fact 24 (f := .free "ValueError") rfl)
  b_all := He.free_ok X G (c.fact 25 (f := .free "all") rfl)
  b_bool := He.free_ok X G (c.fact 26 (f := .free "bool") rfl)
  b_enumerate := He.free_ok X G (c.fact 27 (f := .free "enumerate") rfl)
  b_int := He.free_ok X G (c.fact 28 (f := .free "int") rfl)
  b_isinstance := He.free_ok X G (c.fact 29 (f := .free "isinstance") rfl)
  b_len := He.free_ok X G (c.fact 30 (f := .free "len") rfl)
  b_list := He.free_ok X G (c.fact 31 (f := .free "list") rfl)
  b_max := He.free_ok X G (c.fact 32 (f := .free "max") rfl)
  b_min := He.free_ok X G (c.fact 33 (f := .free "min") rfl)
  b_range := He.free_ok X G (c.fact 34 (f := .free "range") rfl)
  b_repr := He.free_ok X G (c.fact 35 (f := .free "repr") rfl)
  b_str := He.free_ok X G (c.fact 36 (f := .free "str") rfl)
  b_sum := He.free_ok X G (c.fact 37 (f := .free "sum") rfl)
  b_zip := He.free_ok X G (c.fact 38 (f := .free "zip") rfl)
  g_MOST_ENTRIES := He.int_ok X G (c.fact 39 (f := .int "MOST_ENTRIES" 150) rfl)
  g_NO_LINKS := He.str_ok X G (c.fact 40 (f := .str "NO_LINKS" "-") rfl)
  g_DIGITS := He.str_ok X G (c.fact 41 (f := .str "DIGITS" "0123456789") rfl)
  g_MOST_DIGITS := He.int_ok X G (c.fact 42 (f := .int "MOST_DIGITS" 3) rfl)
  f_is_integer := He.glo_ok X G (c.fact 0 (f := .glo "is_integer") rfl)
  f_have_form := He.glo_ok X G (c.fact 1 (f := .glo "have_form") rfl)
  f_least_crossing := He.glo_ok X G (c.fact 2 (f := .glo "least_crossing") rfl)
  f_is_log := He.glo_ok X G (c.fact 3 (f := .glo "is_log") rfl)
  f_need_log := He.glo_ok X G (c.fact 4 (f := .glo "need_log") rfl)
  f_number_in := He.glo_ok X G (c.fact 5 (f := .glo "number_in") rfl)
  f_numbers_in := He.glo_ok X G (c.fact 6 (f := .glo "numbers_in") rfl)
  f_log_text := He.glo_ok X G (c.fact 7 (f := .glo "log_text") rfl)
  f_show_log := He.glo_ok X G (c.fact 8 (f := .glo "show_log") rfl)
  f_read_log := He.glo_ok X G (c.fact 9 (f := .glo "read_log") rfl)
  f__law_reel := He.glo_ok X G (c.fact 10 (f := .glo "_law_reel") rfl)
  f__law_turn := He.glo_ok X G (c.fact 11 (f := .glo "_law_turn") rfl)
  f__law_grown := He.glo_ok X G (c.fact 12 (f := .glo "_law_grown") rfl)
  f__law_log_text := He.glo_ok X G (c.fact 13 (f := .glo "_law_log_text") rfl)
  f__law_number := He.glo_ok X G (c.fact 14 (f := .glo "_law_number") rfl)
  f__law_whole := He.glo_ok X G (c.fact 15 (f := .glo "_law_whole") rfl)
  f__law_is_log := He.glo_ok X G (c.fact 16 (f := .glo "_law_is_log") rfl)
  f__law_log_of := He.glo_ok X G (c.fact 17 (f := .glo "_law_log_of") rfl)
  f__law_odd := He.glo_ok X G (c.fact 18 (f := .glo "_law_odd") rfl)
  f__law_kinds := He.glo_ok X G (c.fact 19 (f := .glo "_law_kinds") rfl)
  f__law_changed := He.glo_ok X G (c.fact 20 (f := .glo "_law_changed") rfl)
  f__law_told := He.glo_ok X G (c.fact 21 (f := .glo "_law_told") rfl)
  f__law_right := He.glo_ok X G (c.fact 22 (f := .glo "_law_right") rfl)
  f_law := He.glo_ok X G (c.fact 23 (f := .glo "law") rfl)
  d_is_integer := c.def_ 0 (d := Hd.d_is_integer) rfl
  d_have_form := c.def_ 1 (d := Hd.d_have_form) rfl
  d_least_crossing := c.def_ 2 (d := Hd.d_least_crossing) rfl
  d_is_log := c.def_ 3 (d := Hd.d_is_log) rfl
  d_need_log := c.def_ 4 (d := Hd.d_need_log) rfl
  d_number_in := c.def_ 5 (d := Hd.d_number_in) rfl
  d_numbers_in := c.def_ 6 (d := Hd.d_numbers_in) rfl
  d_log_text := c.def_ 7 (d := Hd.d_log_text) rfl
  d_show_log := c.def_ 8 (d := Hd.d_show_log) rfl
  d_read_log := c.def_ 9 (d := Hd.d_read_log) rfl
  d__law_reel := c.def_ 10 (d := Hd.d__law_reel) rfl
  d__law_turn := c.def_ 11 (d := Hd.d__law_turn) rfl
  d__law_grown := c.def_ 12 (d := Hd.d__law_grown) rfl
  d__law_log_text := c.def_ 13 (d := Hd.d__law_log_text) rfl
  d__law_number := c.def_ 14 (d := Hd.d__law_number) rfl
  d__law_whole := c.def_ 15 (d := Hd.d__law_whole) rfl
  d__law_is_log := c.def_ 16 (d := Hd.d__law_is_log) rfl
  d__law_log_of := c.def_ 17 (d := Hd.d__law_log_of) rfl
  d__law_odd := c.def_ 18 (d := Hd.d__law_odd) rfl
  d__law_kinds := c.def_ 19 (d := Hd.d__law_kinds) rfl
  d__law_changed := c.def_ 20 (d := Hd.d__law_changed) rfl
  d__law_told := c.def_ 21 (d := Hd.d__law_told) rfl
  d__law_right := c.def_ 22 (d := Hd.d__law_right) rfl
  d_law := c.def_ 23 (d := Hd.d_law) rfl
  gl_BacklinkError := He.glo_ok X G (c.fact 43 (f := .glo "BacklinkError") rfl)
  gl_Crossing := He.glo_ok X G (c.fact 44 (f := .glo "Crossing") rfl)
  gl_Different := He.glo_ok X G (c.fact 45 (f := .glo "Different") rfl)
  gl_InvalidBase := He.glo_ok X G (c.fact 46 (f := .glo "InvalidBase") rfl)
  gl_InvalidChain := He.glo_ok X G (c.fact 47 (f := .glo "InvalidChain") rfl)
  gl_InvalidChange := He.glo_ok X G (c.fact 48 (f := .glo "InvalidChange") rfl)
  gl_InvalidCommand := He.glo_ok X G (c.fact 49 (f := .glo "InvalidCommand") rfl)
  gl_InvalidEntry := He.glo_ok X G (c.fact 50 (f := .glo "InvalidEntry") rfl)
  gl_InvalidKnown := He.glo_ok X G (c.fact 51 (f := .glo "InvalidKnown") rfl)
  gl_InvalidLog := He.glo_ok X G (c.fact 52 (f := .glo "InvalidLog") rfl)
  gl_InvalidNumber := He.glo_ok X G (c.fact 53 (f := .glo "InvalidNumber") rfl)
  gl_InvalidPrices := He.glo_ok X G (c.fact 54 (f := .glo "InvalidPrices") rfl)
  gl_InvalidSize := He.glo_ok X G (c.fact 55 (f := .glo "InvalidSize") rfl)
  gl_InvalidTag := He.glo_ok X G (c.fact 56 (f := .glo "InvalidTag") rfl)
  gl_InvalidTarget := He.glo_ok X G (c.fact 57 (f := .glo "InvalidTarget") rfl)
  gl_InvalidText := He.glo_ok X G (c.fact 58 (f := .glo "InvalidText") rfl)
  gl_NothingToUndo := He.glo_ok X G (c.fact 59 (f := .glo "NothingToUndo") rfl)
  ec := fun x hx => by
    simp only [rs, List.mem_cons, List.not_mem_nil, or_false] at hx
    rcases hx with rfl | rfl
    · exact ecls_of (He.glo_ok X G (c.fact 58 (f := .glo "InvalidText") rfl)) (c.fact 60 (f := .exc "InvalidText") rfl)
    · exact ecls_of (He.glo_ok X G (c.fact 52 (f := .glo "InvalidLog") rfl)) (c.fact 61 (f := .exc "InvalidLog") rfl)
  mt_BacklinkError := fun x b h => by
    unfold mt_BacklinkError at h
    split at h
    · rename_i hx
      simp only [rs, List.mem_cons, List.not_mem_nil, or_false] at hx
      cases h
      rcases hx with rfl | rfl
      · exact He.exm_ok (c.fact 62 (f := .exm "InvalidText" "BacklinkError" (kbl "InvalidText" "BacklinkError")) rfl)
      · exact He.exm_ok (c.fact 63 (f := .exm "InvalidLog" "BacklinkError" (kbl "InvalidLog" "BacklinkError")) rfl)
    · cases h
  xk := errB_ok hb
end
end T

namespace T
open PySem L2 L3
theorem p10 : (10 : Nat) ^ 60 ≤ 2 ^ 1000 := by decide +kernel
theorem p10b : (10 : Nat) ^ 120 ≤ 2 ^ 1000 := by decide +kernel
theorem p10i : (10 : Int) ^ 9 ≤ 2 ^ 1000 := by decide +kernel
theorem mok {i j : Int} (hi : i.natAbs < 10 ^ 120) (hj : j.natAbs < 10 ^ 120) : MOk i j := ⟨big_of (Nat.lt_of_lt_of_le hi p10b) (by decide), big_of (Nat.lt_of_lt_of_le hj p10b) (by decide)⟩
theorem modI_ok {a b : Int} (h : 0 < b) : modI a b = .ok (a % b) := chk_ok h
theorem divI_ok {a b : Int} (h : 0 < b) (h1 : b < 10 ^ 9) : divI a b = .ok (a / b) := chk_ok ⟨h, Int.lt_of_lt_of_le h1 p10i⟩
theorem mulI_ok {a b : Int} (h : a.natAbs < 10 ^ 120) (h1 : b.natAbs < 10 ^ 120) : mulI a b = .ok (a * b) := chk_ok (mok h h1)
theorem powI_ok {a b : Int} (h0 : 0 ≤ b) (h1 : b ≤ 4) (h : a.natAbs < 10 ^ 60) : powI a b = .ok (a ^ b.toNat) := chk_ok (.inl ⟨h0, h1, Nat.lt_of_lt_of_le h p10⟩)
theorem pow10 {b : Int} (h0 : 0 ≤ b) (h1 : b ≤ 100) : powI 10 b = .ok (10 ^ b.toNat) := chk_ok (.inr ⟨h0, by omega, by decide⟩)
theorem at_ok {α : Type} {xs : List α} {k : Int} {x : α} (h0 : 0 ≤ k) (h : xs[k.toNat]? = some x) : atR xs k = .ok x := by
  unfold atR atI ixN
  have hl : k.toNat < xs.length := (List.getElem?_eq_some_iff.mp h).1
  rw [if_pos h0, if_pos (by omega)]
  show opt (xs[k.toNat]?) = _
  rw [h, opt_some]
theorem set_ok {α : Type} {xs : List α} {k : Int} {y : α} (h0 : 0 ≤ k) (h : k.toNat < xs.length) : setR xs k y = .ok (xs.set k.toNat y) := by
  unfold setR ixN
  rw [if_pos h0, if_pos (by omega)]
  exact opt_some
def Reel (m : Int) (r : List Int) : Prop := ∃ a b c : Int, r = [a, b, c] ∧ 0 ≤ a ∧ 0 ≤ b ∧ b < 10 ^ 50 ∧ 0 ≤ c ∧ c ≤ m
theorem Reel.up {m m' : Int} {r : List Int} (h : Reel m r) (hm : m ≤ m') : Reel m' r := by
  obtain ⟨a, b, c, h0, h1, h2, h3, h4, h5⟩ := h
  exact ⟨a, b, c, h0, h1, h2, h3, h4, by omega⟩
theorem reel_yes {ns : List Int} {k : Int} (h0 : 0 ≤ k) (h1 : k < 100) : (f__law_reel ns k).yes (Reel 0) := by
  have go : ∀ cell : Int, ((((((powI (10 : Int) (18 : Int)).bind fun a6 => .ok (cell - a6)).bind fun a7 => .ok (a7, ())).bind fun r8 => .ok ((0 : Int), r8)).bind fun p9 => .ok (max p9.1 p9.2.1)).bind fun a17 => (((((((powI (10 : Int) (40 : Int)).bind fun a10 => .ok (a10 + (177 : Int))).bind fun a11 => modI cell a11).bind fun a12 => mulI a12 (512 : Int)).bind fun a13 => (mulI (31 : Int) k).bind fun a14 => .ok (a13 + a14)).bind fun a15 => .ok (a15 + (9 : Int))).bind fun a16 => .ok (a16, ((0 : Int), ()))).bind fun r18 => .ok (a17, r18)).bind (fun p20 => .ok [p20.1, p20.2.1, p20.2.2.1]) |>.yes (Reel 0) := by
    intro cell
    rw [pow10 (by omega) (by omega), pow10 (by omega) (by omega)]
    simp only [R.bind]
    have h40 : (0 : Int) < 10 ^ (40 : Int).toNat + 177 := by decide
    rw [modI_ok h40]
    have m0 := Int.emod_nonneg cell (Int.ne_of_gt h40)
    have m1 := Int.emod_lt_of_pos cell h40
    generalize cell % (10 ^ (40 : Int).toNat + 177) = m at m0 m1 ⊢
    have m2 : m < 10 ^ 41 := Int.lt_of_lt_of_le m1 (by decide)
    simp only [R.bind]
    rw [mulI_ok (by omega) (by omega)]
    simp only [R.bind]
    rw [mulI_ok (by omega) (by omega)]
    simp only [R.bind]
    refine R.yes_ok ⟨_, _, _, rfl, Int.le_max_left _ _, by omega, by omega, by omega, by omega⟩
  unfold f__law_reel
  dsimp only
  refine R.yes_bind ?_
  refine R.yes_if (fun h => ?_) fun h => R.yes_ok (go _)
  have h : k < (ns.length : Int) := of_decide_eq_true h
  have hk : k.toNat < ns.length := by omega
  rw [at_ok h0 (List.getElem?_eq_getElem hk)]
  exact R.yes_ok (go _)
theorem turn_yes {r : List Int} {size m : Int} (h : Reel m r) (hm : m < 10 ^ 15) (h0 : 0 < size) (h1 : size < 10 ^ 9) : (f__law_turn r size).yes fun p => (0 ≤ p.1 ∧ p.1 < size) ∧ Reel (m + 1) p.2 := by
  obtain ⟨a, b, c, rfl, a0, b0, b1, c0, c1⟩ := h
  unfold f__law_turn
  have e0 : ∀ x y z : Int, atR [x, y, z] 0 = .ok x := fun x y z => at_ok (by decide) rfl
  have e1 : ∀ x y z : Int, atR [x, y, z] 1 = .ok y := fun x y z => at_ok (by decide) rfl
  have e2 : ∀ x y z : Int, atR [x, y, z] 2 = .ok z := fun x y z => at_ok (by decide) rfl
  rw [e0]
  simp only [R.bind]
  refine R.yes_if (fun h => ?_) fun h => ?_
  · rw [modI_ok h0]
    simp only [R.bind]
    rw [divI_ok h0 h1]
    simp only [R.bind]
    rw [set_ok (by decide) (by simp)]
    refine R.yes_ok ⟨⟨Int.emod_nonneg _ (Int.ne_of_gt h0), Int.emod_lt_of_pos _ h0⟩, _, b, c, rfl, Int.ediv_nonneg a0 (Int.le_of_lt h0), b0, b1, c0, by omega⟩
  · rw [e2]
    simp only [R.bind]
    rw [set_ok (by decide) (by simp)]
    have es : [a, b, c].set (2 : Int).toNat (c + 1) = [a, b, c + 1] := rfl
    rw [es]
    simp only [R.bind]
    rw [e1, e2]
    simp only [R.bind]
    rw [mulI_ok (by omega) (by omega)]
    simp only [R.bind]
    rw [powI_ok (by omega) (by omega) (by omega), pow10 (by omega) (by omega)]
    simp only [R.bind]
    have h43 : (0 : Int) < 10 ^ (43 : Int).toNat + 57 := by decide
    rw [modI_ok h43]
    generalize (b + 2860486313 * (c + 1)) ^ (3 : Int).toNat = u
    have m0 := Int.emod_nonneg u (Int.ne_of_gt h43)
    have m1 := Int.emod_lt_of_pos u h43
    generalize u % (10 ^ (43 : Int).toNat + 57) = v at m0 m1 ⊢
    have m2 : v < 10 ^ 44 := Int.lt_of_lt_of_le m1 (by decide)
    simp only [R.bind]
    rw [mulI_ok (by omega) (by omega), mulI_ok (by omega) (by omega), pow10 (by omega) (by omega)]
    simp only [R.bind]
    have h42 : (0 : Int) < 10 ^ (42 : Int).toNat + 63 := by decide
    rw [modI_ok h42]
    simp only [R.bind]
    rw [divI_ok (by decide) (by decide)]
    simp only [R.bind]
    rw [modI_ok h0]
    exact R.yes_ok ⟨⟨Int.emod_nonneg _ (Int.ne_of_gt h0), Int.emod_lt_of_pos _ h0⟩, a, b, c + 1, rfl, a0, b0, b1, by omega, by omega⟩
end T

namespace T
open PySem L2 L3
theorem cutTo {α : Type} (xs : List α) {k : Int} (h : 0 ≤ k) : cutL xs none (some k) = xs.take k.toNat := by
  obtain ⟨n, rfl⟩ := Int.eq_ofNat_of_zero_le h
  unfold cutL
  rw [HT.sIx_none]
  show (xs.drop 0).take (HT.sIx xs.length xs.length (some (n : Int)) - 0) = _
  rw [HT.sIx_nat, Int.toNat_natCast, List.drop_zero, Nat.sub_zero]
  by_cases hn : n ≤ xs.length
  · rw [Nat.min_eq_left hn]
  · rw [Nat.min_eq_right (by omega), List.take_length, List.take_of_length_le (by omega)]
def Sm (xs : List Int) : Prop := ∀ x ∈ xs, 0 ≤ x ∧ x < 150
theorem Sm.app {xs ys : List Int} (h : Sm xs) (k : Sm ys) : Sm (xs ++ ys) := fun x hx => (List.mem_append.mp hx).elim (h x) (k x)
theorem Sm.one {x : Int} (h0 : 0 ≤ x) (h1 : x < 150) : Sm [x] := fun y hy => by
  rw [List.mem_singleton.mp hy]; exact ⟨h0, h1⟩
theorem catL_yes {α : Type} {xs ys : List α} {P : List α → Prop} (h : xs.length + ys.length ≤ 16777216) (k : P (xs ++ ys)) : (catL xs ys).yes P := R.yes_chk (line_of h) k
theorem appR_yes {α : Type} {xs : List α} {y : α} {P : List α → Prop} (h : xs.length + 1 ≤ 16777216) (k : P (xs ++ [y])) : (appR xs y).yes P := R.yes_chk (Nat.lt_of_lt_of_le (Nat.lt_succ_self _) (line_of h)) k
theorem atR_yes {α : Type} {xs : List α} {i : Int} {P : α → Prop} (h0 : 0 ≤ i) (h1 : i < (xs.length : Int)) (k : ∀ x ∈ xs, P x) : (atR xs i).yes P := by
  have hl : i.toNat < xs.length := by omega
  rw [at_ok h0 (List.getElem?_eq_getElem hl)]
  exact k _ (List.getElem_mem hl)
theorem grown_yes {r : List Int} {size m : Int} (h : Reel m r) (hm : m < 10 ^ 12) (h0 : 1 ≤ size) (h1 : size ≤ 150) : (f__law_grown r size).yes fun p => (Sm p.1 ∧ (p.1.length : Int) = size) ∧ Reel (m + 2000) p.2 := by
  unfold f__law_grown
  repeat (first | (with_reducible refine R.yes_bind ?_) | (with_reducible refine R.yes_noE ?_) | (with_reducible refine R.yes_bindSR ?_) | (with_reducible refine SR.yes_bindT ?_) | (with_reducible refine SR.yes_bindS ?_) | (with_reducible refine R.yes_ok ?_; try dsimp only) | (with_reducible refine SR.yes_nx ?_; try dsimp only))
  refine (turn_yes h (by omega) (by omega) (by omega)).imp fun q ⟨hq, hr⟩ => ?_
  repeat (first | (with_reducible refine R.yes_bind ?_) | (with_reducible refine R.yes_noE ?_) | (with_reducible refine R.yes_bindSR ?_) | (with_reducible refine SR.yes_bindT ?_) | (with_reducible refine SR.yes_bindS ?_) | (with_reducible refine R.yes_ok ?_; try dsimp only) | (with_reducible refine SR.yes_nx ?_; try dsimp only))
  refine R.yes_eq (rngR_ok (by omega) (by omega) (by omega) (by omega)) ?_
  refine R.yes_bind ((foldR_yes (fun i (s : List Int × List Int × List Int) => Reel (m + 1 + 7 * i) s.1 ∧ (Sm s.2.1 ∧ s.2.1.length = 1 + i) ∧ Sm s.2.2 ∧ 1 ≤ s.2.2.length ∧ s.2.2.length ≤ 1 + i) (rangeI 1 size) 0 _ (fun j x s hx ⟨i1, ⟨i2, i3⟩, i4, i5, i6⟩ => ?_) ?_).imp fun s ⟨i1, ⟨i2, i3⟩, _⟩ => ?_)
  · obtain ⟨ex, x0, x1⟩ := rangeI_get hx
    have hj : (j : Int) < 149 := by omega
    rw [Nat.zero_add] at i1 i3 i6
    repeat (first | (with_reducible refine R.yes_bind ?_) | (with_reducible refine R.yes_noE ?_) | (with_reducible refine R.yes_bindSR ?_) | (with_reducible refine SR.yes_bindT ?_) | (with_reducible refine SR.yes_bindS ?_) | (with_reducible refine R.yes_ok ?_; try dsimp only) | (with_reducible refine SR.yes_nx ?_; try dsimp only))
    generalize hk : (s.2.2.length : Int) = many
    have k0 : 1 ≤ many := by omega
    have k1 : many ≤ 150 := by omega
    repeat (first | (with_reducible refine R.yes_bind ?_) | (with_reducible refine R.yes_noE ?_) | (with_reducible refine R.yes_bindSR ?_) | (with_reducible refine SR.yes_bindT ?_) | (with_reducible refine SR.yes_bindS ?_) | (with_reducible refine R.yes_ok ?_; try dsimp only) | (with_reducible refine SR.yes_nx ?_; try dsimp only))
    refine (turn_yes i1 (by omega) (by omega) (by omega)).imp fun p1 ⟨a1, b1⟩ => ?_
    repeat (first | (with_reducible refine R.yes_bind ?_) | (with_reducible refine R.yes_noE ?_) | (with_reducible refine R.yes_bindSR ?_) | (with_reducible refine SR.yes_bindT ?_) | (with_reducible refine SR.yes_bindS ?_) | (with_reducible refine R.yes_ok ?_; try dsimp only) | (with_reducible refine SR.yes_nx ?_; try dsimp only))
    refine (turn_yes b1 (by omega) (by omega) (by omega)).imp fun p2 ⟨a2, b2⟩ => ?_
    repeat (first | (with_reducible refine R.yes_bind ?_) | (with_reducible refine R.yes_noE ?_) | (with_reducible refine R.yes_bindSR ?_) | (with_reducible refine SR.yes_bindT ?_) | (with_reducible refine SR.yes_bindS ?_) | (with_reducible refine R.yes_ok ?_; try dsimp only) | (with_reducible refine SR.yes_nx ?_; try dsimp only))
    refine (turn_yes b2 (by omega) (by omega) (by omega)).imp fun p3 ⟨a3, b3⟩ => ?_
    repeat (first | (with_reducible refine R.yes_bind ?_) | (with_reducible refine R.yes_noE ?_) | (with_reducible refine R.yes_bindSR ?_) | (with_reducible refine SR.yes_bindT ?_) | (with_reducible refine SR.yes_bindS ?_) | (with_reducible refine R.yes_ok ?_; try dsimp only) | (with_reducible refine SR.yes_nx ?_; try dsimp only))
    have rare : ∀ (P : Int × List Int → Prop), (∀ v r, 0 ≤ v → v < many → Reel (m + 1 + 7 * j + 1 + 1 + 1 + 1) r → P (v, r)) → (if eqB p3.1 0 = true then (f__law_turn p3.2 many).noE.bind fun q29 => R.ok (q29.1, q29.2) else R.ok (many - 1, p3.2)).yes P := fun P hP => by
      refine R.yes_if (fun _ => ?_) fun _ => ?_
      · repeat (first | (with_reducible refine R.yes_bind ?_) | (with_reducible refine R.yes_noE ?_) | (with_reducible refine R.yes_bindSR ?_) | (with_reducible refine SR.yes_bindT ?_) | (with_reducible refine SR.yes_bindS ?_) | (with_reducible refine R.yes_ok ?_; try dsimp only) | (with_reducible refine SR.yes_nx ?_; try dsimp only))
        refine (turn_yes b3 (by omega) (by omega) (by omega)).imp fun q ⟨c, d⟩ => ?_
        repeat (first | (with_reducible refine R.yes_bind ?_) | (with_reducible refine R.yes_noE ?_) | (with_reducible refine R.yes_bindSR ?_) | (with_reducible refine SR.yes_bindT ?_) | (with_reducible refine SR.yes_bindS ?_) | (with_reducible refine R.yes_ok ?_; try dsimp only) | (with_reducible refine SR.yes_nx ?_; try dsimp only))
        exact hP _ _ c.1 c.2 d
      · exact hP _ _ (by omega) (by omega) (b3.up (by omega))
    refine rare _ fun v r v0 v1 hr2 => ?_
    dsimp only
    repeat (first | (with_reducible refine R.yes_bind ?_) | (with_reducible refine R.yes_noE ?_) | (with_reducible refine R.yes_bindSR ?_) | (with_reducible refine SR.yes_bindT ?_) | (with_reducible refine SR.yes_bindS ?_) | (with_reducible refine R.yes_ok ?_; try dsimp only) | (with_reducible refine SR.yes_nx ?_; try dsimp only))
    refine (turn_yes hr2 (by omega) (by omega) (by omega)).imp fun p4 ⟨a4, b4⟩ => ?_
    repeat (first | (with_reducible refine R.yes_bind ?_) | (with_reducible refine R.yes_noE ?_) | (with_reducible refine R.yes_bindSR ?_) | (with_reducible refine SR.yes_bindT ?_) | (with_reducible refine SR.yes_bindS ?_) | (with_reducible refine R.yes_ok ?_; try dsimp only) | (with_reducible refine SR.yes_nx ?_; try dsimp only))
    refine R.yes_eq (divI_ok (by decide) (by decide)) ?_
    repeat (first | (with_reducible refine R.yes_bind ?_) | (with_reducible refine R.yes_noE ?_) | (with_reducible refine R.yes_bindSR ?_) | (with_reducible refine SR.yes_bindT ?_) | (with_reducible refine SR.yes_bindS ?_) | (with_reducible refine R.yes_ok ?_; try dsimp only) | (with_reducible refine SR.yes_nx ?_; try dsimp only))
    refine (turn_yes b4 (by omega) (by omega) (by omega)).imp fun p5 ⟨a5, b5⟩ => ?_
    repeat (first | (with_reducible refine R.yes_bind ?_) | (with_reducible refine R.yes_noE ?_) | (with_reducible refine R.yes_bindSR ?_) | (with_reducible refine SR.yes_bindT ?_) | (with_reducible refine SR.yes_bindS ?_) | (with_reducible refine R.yes_ok ?_; try dsimp only) | (with_reducible refine SR.yes_nx ?_; try dsimp only))
    have d0 : 0 ≤ many / 2 := by omega
    have d1 : many / 2 < many := by omega
    refine atR_yes hq.1 (by simpa using hq.2) fun w hw => ?_
    have hw2 : 0 ≤ w ∧ w < many := by
      simp only [List.mem_cons, List.not_mem_nil, or_false] at hw
      rcases hw with rfl | rfl | rfl | rfl | rfl | rfl <;> omega
    repeat (first | (with_reducible refine R.yes_bind ?_) | (with_reducible refine R.yes_noE ?_) | (with_reducible refine R.yes_bindSR ?_) | (with_reducible refine SR.yes_bindT ?_) | (with_reducible refine SR.yes_bindS ?_) | (with_reducible refine R.yes_ok ?_; try dsimp only) | (with_reducible refine SR.yes_nx ?_; try dsimp only))
    refine atR_yes hw2.1 (by omega) fun y hy => ?_
    refine R.yes_bind (appR_yes (by omega) ?_)
    repeat (first | (with_reducible refine R.yes_bind ?_) | (with_reducible refine R.yes_noE ?_) | (with_reducible refine R.yes_bindSR ?_) | (with_reducible refine SR.yes_bindT ?_) | (with_reducible refine SR.yes_bindS ?_) | (with_reducible refine R.yes_ok ?_; try dsimp only) | (with_reducible refine SR.yes_nx ?_; try dsimp only))
    refine catL_yes (by rw [cutTo _ (by omega), List.length_take, List.length_singleton]; omega) ?_
    repeat (first | (with_reducible refine R.yes_bind ?_) | (with_reducible refine R.yes_noE ?_) | (with_reducible refine R.yes_bindSR ?_) | (with_reducible refine SR.yes_bindT ?_) | (with_reducible refine SR.yes_bindS ?_) | (with_reducible refine R.yes_ok ?_; try dsimp only) | (with_reducible refine SR.yes_nx ?_; try dsimp only))
    rw [cutTo _ (by omega)]
    refine ⟨b5.up (by push_cast; omega), ⟨i2.app (fun z hz => by rw [List.mem_singleton.mp hz]; exact i4 y hy), by rw [List.length_append, i3, List.length_singleton]; omega⟩, Sm.app (fun z hz => i4 z (List.mem_of_mem_take hz)) (Sm.one (by omega) (by omega)), by simp, by rw [List.length_append, List.length_take, List.length_singleton]; omega⟩
  · exact ⟨by simpa using hr, ⟨Sm.one (by decide) (by decide), rfl⟩, Sm.one (by decide) (by decide), by simp, by simp⟩
  · rw [Nat.zero_add, rangeI_len] at i1 i3
    exact R.yes_ok ⟨⟨i2, by rw [i3]; omega⟩, i1.up (by omega)⟩
end T

namespace T
open PySem L2 L3
theorem tl_sp : TL.tl (" " : Str) = [32] := by decide +kernel
theorem parts_of (s : Nat) : ∀ l : List Nat, ∃ ps : List (List Nat), ps ≠ [] ∧ (∀ p ∈ ps, s ∉ p) ∧ l = TL.joinL [s] ps
  | [] => ⟨[[]], by simp, by simp, rfl⟩
  | c :: l => by
    obtain ⟨ps, h1, h2, h3⟩ := parts_of s l
    cases ps with
    | nil => exact absurd rfl h1
    | cons p r =>
      by_cases e : c = s
      · subst e
        exact ⟨[] :: p :: r, by simp, fun q hq => (List.mem_cons.mp hq).elim (fun z => by rw [z]; simp) (h2 q), by rw [h3]; rfl⟩
      · refine ⟨(c :: p) :: r, by simp, fun q hq => (List.mem_cons.mp hq).elim (fun z => ?_) fun z => h2 q (List.mem_cons_of_mem _ z), ?_⟩
        · rw [z]
          intro m
          rcases List.mem_cons.mp m with z | z
          · exact e z.symm
          · exact h2 p List.mem_cons_self z
        · rw [h3]
          cases r <;> rfl
theorem str_of (l : List Nat) : TL.tl (⟨l.toArray⟩ : Str) = l := rfl
structure Wd (x : Str) (ws : List Str) : Prop where
  ne : ws ≠ []
  free : ∀ w ∈ ws, 32 ∉ TL.tl w
  split : Txt.split x " " = ws
  join : Txt.join " " ws = x
theorem words_of (x : Str) : ∃ ws, Wd x ws := by
  obtain ⟨ps, h1, h2, h3⟩ := parts_of 32 (TL.tl x)
  have e : ∀ ps : List (List Nat), (ps.map fun p => (⟨p.toArray⟩ : Str)).map TL.tl = ps := fun ps => by
    rw [List.map_map]
    exact (List.map_congr_left fun p _ => str_of p).trans (List.map_id _)
  have j : Txt.join " " (ps.map fun p => (⟨p.toArray⟩ : Str)) = x := by
    refine TL.ext_tl ?_
    rw [TL.join_eq, TL.tl_join, tl_sp, e, h3]
  refine ⟨ps.map fun p => ⟨p.toArray⟩, by simpa using h1, fun w hw => ?_, ?_, j⟩
  · obtain ⟨p, hp, rfl⟩ := List.mem_map.mp hw
    exact h2 p hp
  · have := TL.split_join (y := " ") tl_sp (by decide +kernel) (parts := ps.map fun p => (⟨p.toArray⟩ : Str)) (by simpa using h1) fun w hw => by
      obtain ⟨p, hp, rfl⟩ := List.mem_map.mp hw
      exact h2 p hp
    rw [j] at this
    exact this
theorem len_app (x y : Str) : (x ++ y).length = x.length + y.length := by
  rw [TL.len_tl, TL.len_tl, TL.len_tl, TL.tl_append, List.length_append]
def sumL (ws : List Str) : Nat := (ws.map (·.length)).sum
theorem join_len1 : ∀ ws : List Str, ws ≠ [] → (Str.join " " ws).length + 1 = sumL ws + ws.length
  | [], h => absurd rfl h
  | [x], _ => by simp [Str.join, sumL]
  | x :: y :: r, _ => by
    have ih := join_len1 (y :: r) (by simp)
    have e1 : ((" " : Str)).length = 1 := by decide +kernel
    show (x ++ " " ++ Str.join " " (y :: r)).length + 1 = _
    rw [len_app, len_app, e1]
    unfold sumL at ih ⊢
    rw [List.map_cons, List.sum_cons, List.length_cons]
    omega
theorem Wd.len {x : Str} {ws : List Str} (h : Wd x ws) : x.length + 1 = sumL ws + ws.length := by
  have := join_len1 ws h.ne
  rw [← TL.join_eq, h.join] at this
  exact this
theorem sumL_app (a b : List Str) : sumL (a ++ b) = sumL a + sumL b := by simp [sumL]
theorem joinR_yes {ws : List Str} {P : Str → Prop} (h : sumL ws + ws.length ≤ 1000000) (k : ∀ x, x.length ≤ sumL ws + ws.length → P x) : (joinR " " ws).yes P := by
  have e1 : ((" " : Str)).length = 1 := by decide +kernel
  refine R.yes_chk (by rw [e1]; show sumL ws + _ ≤ _; omega) (k _ ?_)
  rw [TL.join_eq]
  cases ws with
  | nil => simp [Str.join, Str.empty, Str.length]
  | cons w r => have := join_len1 (w :: r) (by simp); omega
theorem splitR_yes {x : Str} {P : List Str → Prop} (h : x.length ≤ 1000000) (k : ∀ ws, Wd x ws → P ws) : (splitR x " ").yes P := by
  obtain ⟨ws, hw⟩ := words_of x
  have e1 : ((" " : Str)).length = 1 := by decide +kernel
  refine R.yes_chk ⟨by rw [e1]; rfl, line_of (by omega)⟩ ?_
  rw [hw.split]; exact k ws hw
theorem lenS_yes {x : Str} {P : Int → Prop} (h : x.length ≤ 16777216) (k : P x.length) : (lenS x).yes P := R.yes_chk (line_of h) k
theorem catS_yes {x y : Str} {P : Str → Prop} (h : x.length + y.length ≤ 16777216) (k : P (x ++ y)) : (catS x y).yes P := R.yes_chk (line_of h) k
theorem cutS_len (z : Str) (lo hi : Option Int) : (cutS z lo hi).length ≤ z.length := by
  unfold cutS
  rw [TL.len_tl, TL.len_tl]
  simp
  omega
theorem cutR_yes {z : Str} {lo hi : Option Int} {P : Str → Prop} (h : z.length ≤ 16777216) (k : ∀ x, x.length ≤ z.length → P x) : (cutR z lo hi).yes P := R.yes_chk (line_of h) (k _ (cutS_len z lo hi))
theorem atS_yes {z : Str} {i : Int} {P : Str → Prop} (h : z.length ≤ 16777216) (h0 : 0 ≤ i) (h1 : i < z.length) (k : ∀ x, x.length = 1 → P x) : (atS z i).yes P := by
  unfold atS
  rw [if_pos (line_of h)]
  have hl : i.toNat < z.cps.toList.length := by
    have := TL.len_tl z
    show i.toNat < (TL.tl z).length
    omega
  have e : atI z.cps.toList i = some z.cps.toList[i.toNat] := by
    unfold atI ixN
    rw [if_pos h0, if_pos (by omega)]
    exact List.getElem?_eq_getElem hl
  rw [e]
  exact R.yes_opt rfl (k _ rfl)
end T

namespace T
open PySem L2 L3
theorem sumL_take (ws : List Str) (k : Nat) : sumL (ws.take k) ≤ sumL ws := by
  have e : sumL ws = sumL (ws.take k) + sumL (ws.drop k) := by rw [← sumL_app, List.take_append_drop]
  omega
theorem sumL_drop (ws : List Str) (k : Nat) : sumL (ws.drop k) ≤ sumL ws := by
  have e : sumL ws = sumL (ws.take k) + sumL (ws.drop k) := by rw [← sumL_app, List.take_append_drop]
  omega
theorem sumL_cut (ws : List Str) (lo hi : Option Int) : sumL (cutL ws lo hi) ≤ sumL ws ∧ (cutL ws lo hi).length ≤ ws.length := by
  unfold cutL
  refine ⟨Nat.le_trans (sumL_take _ _) (sumL_drop _ _), ?_⟩
  rw [List.length_take, List.length_drop]
  omega
theorem sumL_rev (ws : List Str) : sumL ws.reverse = sumL ws := by simp [sumL]
theorem sumL_set (y : Str) : ∀ (ws : List Str) (k : Nat), sumL (ws.set k y) ≤ sumL ws + y.length
  | [], k => by simp [sumL]
  | w :: ws, 0 => by simp [sumL]; omega
  | w :: ws, k + 1 => by
    have := sumL_set y ws k
    unfold sumL at this ⊢
    rw [List.set_cons_succ, List.map_cons, List.sum_cons, List.map_cons, List.sum_cons]
    omega
theorem le_sumL {w : Str} : ∀ {ws : List Str}, w ∈ ws → w.length ≤ sumL ws
  | x :: ws, h => by
    unfold sumL
    rw [List.map_cons, List.sum_cons]
    rcases List.mem_cons.mp h with rfl | h
    · omega
    · have : w.length ≤ (ws.map (·.length)).sum := le_sumL h
      omega
def Lts (xs : List Str) : Prop := ∀ x ∈ xs, x.length ≤ 100000
theorem Lts.app {xs ys : List Str} (h : Lts xs) (k : Lts ys) : Lts (xs ++ ys) := fun x hx => (List.mem_append.mp hx).elim (h x) (k x)
theorem Lts.nil : Lts [] := fun _ h => nomatch h
theorem Lts.cons {x : Str} {xs : List Str} (h : x.length ≤ 100000) (k : Lts xs) : Lts (x :: xs) := fun y hy => (List.mem_cons.mp hy).elim (fun e => by rw [e]; exact h) (k y)
theorem changed_yes {r : List Int} {m : Int} {x : Str} (h : Reel m r) (hm : m < 10 ^ 12) (hx : x.length ≤ 5000) : (f__law_changed r x).yes fun p => p.1.length ≤ 100000 ∧ Reel (m + 10) p.2 := by
  have sp1 : ((" " : Str)).length = 1 := by decide +kernel
  have s0 : ((" 0123456789->'\"\\" : Str)).length ≤ 60 ∧ 1 ≤ ((" 0123456789->'\"\\" : Str)).length := by decide +kernel
  have s1 : ((" !#$&()*+,./:;<=>?@ABCDEFGHIJKLMNOPQRSTUVWXYZ[]^_`{|}~az" : Str)).length ≤ 60 ∧ 1 ≤ ((" !#$&()*+,./:;<=>?@ABCDEFGHIJKLMNOPQRSTUVWXYZ[]^_`{|}~az" : Str)).length := by decide +kernel
  unfold f__law_changed
  repeat (first | (with_reducible refine R.yes_bind ?_) | (with_reducible refine R.yes_noE ?_) | (with_reducible refine R.yes_bindSR ?_) | (with_reducible refine SR.yes_bindT ?_) | (with_reducible refine SR.yes_bindS ?_) | (with_reducible refine R.yes_ok ?_; try dsimp only) | (with_reducible refine SR.yes_nx ?_; try dsimp only))
  refine lenS_yes (by omega) ?_
  repeat (first | (with_reducible refine R.yes_bind ?_) | (with_reducible refine R.yes_noE ?_) | (with_reducible refine R.yes_bindSR ?_) | (with_reducible refine SR.yes_bindT ?_) | (with_reducible refine SR.yes_bindS ?_) | (with_reducible refine R.yes_ok ?_; try dsimp only) | (with_reducible refine SR.yes_nx ?_; try dsimp only))
  refine (turn_yes h (by omega) (by omega) (by omega)).imp fun p1 ⟨a1, h1⟩ => ?_
  repeat (first | (with_reducible refine R.yes_bind ?_) | (with_reducible refine R.yes_noE ?_) | (with_reducible refine R.yes_bindSR ?_) | (with_reducible refine SR.yes_bindT ?_) | (with_reducible refine SR.yes_bindS ?_) | (with_reducible refine R.yes_ok ?_; try dsimp only) | (with_reducible refine SR.yes_nx ?_; try dsimp only))
  refine (turn_yes h1 (by omega) (by omega) (by omega)).imp fun p2 ⟨a2, h2⟩ => ?_
  repeat (first | (with_reducible refine R.yes_bind ?_) | (with_reducible refine R.yes_noE ?_) | (with_reducible refine R.yes_bindSR ?_) | (with_reducible refine SR.yes_bindT ?_) | (with_reducible refine SR.yes_bindS ?_) | (with_reducible refine R.yes_ok ?_; try dsimp only) | (with_reducible refine SR.yes_nx ?_; try dsimp only))
  refine atR_yes a2.1 (by simpa using a2.2) fun chosen hc => ?_
  have hcl : 1 ≤ chosen.length ∧ chosen.length ≤ 60 := by
    simp only [List.mem_cons, List.not_mem_nil, or_false] at hc
    rcases hc with rfl | rfl
    · exact ⟨s0.2, s0.1⟩
    · exact ⟨s1.2, s1.1⟩
  repeat (first | (with_reducible refine R.yes_bind ?_) | (with_reducible refine R.yes_noE ?_) | (with_reducible refine R.yes_bindSR ?_) | (with_reducible refine SR.yes_bindT ?_) | (with_reducible refine SR.yes_bindS ?_) | (with_reducible refine R.yes_ok ?_; try dsimp only) | (with_reducible refine SR.yes_nx ?_; try dsimp only))
  refine lenS_yes (by omega) ?_
  repeat (first | (with_reducible refine R.yes_bind ?_) | (with_reducible refine R.yes_noE ?_) | (with_reducible refine R.yes_bindSR ?_) | (with_reducible refine SR.yes_bindT ?_) | (with_reducible refine SR.yes_bindS ?_) | (with_reducible refine R.yes_ok ?_; try dsimp only) | (with_reducible refine SR.yes_nx ?_; try dsimp only))
  refine (turn_yes h2 (by omega) (by omega) (by omega)).imp fun p3 ⟨a3, h3⟩ => ?_
  repeat (first | (with_reducible refine R.yes_bind ?_) | (with_reducible refine R.yes_noE ?_) | (with_reducible refine R.yes_bindSR ?_) | (with_reducible refine SR.yes_bindT ?_) | (with_reducible refine SR.yes_bindS ?_) | (with_reducible refine R.yes_ok ?_; try dsimp only) | (with_reducible refine SR.yes_nx ?_; try dsimp only))
  refine atS_yes (by omega) a3.1 a3.2 fun sign hs => ?_
  repeat (first | (with_reducible refine R.yes_bind ?_) | (with_reducible refine R.yes_noE ?_) | (with_reducible refine R.yes_bindSR ?_) | (with_reducible refine SR.yes_bindT ?_) | (with_reducible refine SR.yes_bindS ?_) | (with_reducible refine R.yes_ok ?_; try dsimp only) | (with_reducible refine SR.yes_nx ?_; try dsimp only))
  refine splitR_yes (by omega) fun ws hw => ?_
  repeat (first | (with_reducible refine R.yes_bind ?_) | (with_reducible refine R.yes_noE ?_) | (with_reducible refine R.yes_bindSR ?_) | (with_reducible refine SR.yes_bindT ?_) | (with_reducible refine SR.yes_bindS ?_) | (with_reducible refine R.yes_ok ?_; try dsimp only) | (with_reducible refine SR.yes_nx ?_; try dsimp only))
  have wl := hw.len
  have wn : 1 ≤ ws.length := List.length_pos_iff.mpr hw.ne
  refine (turn_yes h3 (by omega) (by omega) (by omega)).imp fun p4 ⟨a4, h4⟩ => ?_
  repeat (first | (with_reducible refine R.yes_bind ?_) | (with_reducible refine R.yes_noE ?_) | (with_reducible refine R.yes_bindSR ?_) | (with_reducible refine SR.yes_bindT ?_) | (with_reducible refine SR.yes_bindS ?_) | (with_reducible refine R.yes_ok ?_; try dsimp only) | (with_reducible refine SR.yes_nx ?_; try dsimp only))
  refine cutR_yes (by omega) fun y1 l1 => ?_
  repeat (first | (with_reducible refine R.yes_bind ?_) | (with_reducible refine R.yes_noE ?_) | (with_reducible refine R.yes_bindSR ?_) | (with_reducible refine SR.yes_bindT ?_) | (with_reducible refine SR.yes_bindS ?_) | (with_reducible refine R.yes_ok ?_; try dsimp only) | (with_reducible refine SR.yes_nx ?_; try dsimp only))
  refine catS_yes (by omega) ?_
  repeat (first | (with_reducible refine R.yes_bind ?_) | (with_reducible refine R.yes_noE ?_) | (with_reducible refine R.yes_bindSR ?_) | (with_reducible refine SR.yes_bindT ?_) | (with_reducible refine SR.yes_bindS ?_) | (with_reducible refine R.yes_ok ?_; try dsimp only) | (with_reducible refine SR.yes_nx ?_; try dsimp only))
  refine cutR_yes (by omega) fun y2 l2 => ?_
  repeat (first | (with_reducible refine R.yes_bind ?_) | (with_reducible refine R.yes_noE ?_) | (with_reducible refine R.yes_bindSR ?_) | (with_reducible refine SR.yes_bindT ?_) | (with_reducible refine SR.yes_bindS ?_) | (with_reducible refine R.yes_ok ?_; try dsimp only) | (with_reducible refine SR.yes_nx ?_; try dsimp only))
  refine catS_yes (by rw [len_app]; omega) ?_
  repeat (first | (with_reducible refine R.yes_bind ?_) | (with_reducible refine R.yes_noE ?_) | (with_reducible refine R.yes_bindSR ?_) | (with_reducible refine SR.yes_bindT ?_) | (with_reducible refine SR.yes_bindS ?_) | (with_reducible refine R.yes_ok ?_; try dsimp only) | (with_reducible refine SR.yes_nx ?_; try dsimp only))
  refine cutR_yes (by omega) fun y3 l3 => ?_
  repeat (first | (with_reducible refine R.yes_bind ?_) | (with_reducible refine R.yes_noE ?_) | (with_reducible refine R.yes_bindSR ?_) | (with_reducible refine SR.yes_bindT ?_) | (with_reducible refine SR.yes_bindS ?_) | (with_reducible refine R.yes_ok ?_; try dsimp only) | (with_reducible refine SR.yes_nx ?_; try dsimp only))
  refine cutR_yes (by omega) fun y4 l4 => ?_
  repeat (first | (with_reducible refine R.yes_bind ?_) | (with_reducible refine R.yes_noE ?_) | (with_reducible refine R.yes_bindSR ?_) | (with_reducible refine SR.yes_bindT ?_) | (with_reducible refine SR.yes_bindS ?_) | (with_reducible refine R.yes_ok ?_; try dsimp only) | (with_reducible refine SR.yes_nx ?_; try dsimp only))
  refine catS_yes (by omega) ?_
  repeat (first | (with_reducible refine R.yes_bind ?_) | (with_reducible refine R.yes_noE ?_) | (with_reducible refine R.yes_bindSR ?_) | (with_reducible refine SR.yes_bindT ?_) | (with_reducible refine SR.yes_bindS ?_) | (with_reducible refine R.yes_ok ?_; try dsimp only) | (with_reducible refine SR.yes_nx ?_; try dsimp only))
  refine cutR_yes (by omega) fun y5 l5 => ?_
  repeat (first | (with_reducible refine R.yes_bind ?_) | (with_reducible refine R.yes_noE ?_) | (with_reducible refine R.yes_bindSR ?_) | (with_reducible refine SR.yes_bindT ?_) | (with_reducible refine SR.yes_bindS ?_) | (with_reducible refine R.yes_ok ?_; try dsimp only) | (with_reducible refine SR.yes_nx ?_; try dsimp only))
  refine catS_yes (by omega) ?_
  repeat (first | (with_reducible refine R.yes_bind ?_) | (with_reducible refine R.yes_noE ?_) | (with_reducible refine R.yes_bindSR ?_) | (with_reducible refine SR.yes_bindT ?_) | (with_reducible refine SR.yes_bindS ?_) | (with_reducible refine R.yes_ok ?_; try dsimp only) | (with_reducible refine SR.yes_nx ?_; try dsimp only))
  refine cutR_yes (by omega) fun y6 l6 => ?_
  repeat (first | (with_reducible refine R.yes_bind ?_) | (with_reducible refine R.yes_noE ?_) | (with_reducible refine R.yes_bindSR ?_) | (with_reducible refine SR.yes_bindT ?_) | (with_reducible refine SR.yes_bindS ?_) | (with_reducible refine R.yes_ok ?_; try dsimp only) | (with_reducible refine SR.yes_nx ?_; try dsimp only))
  refine catS_yes (by rw [len_app]; omega) ?_
  repeat (first | (with_reducible refine R.yes_bind ?_) | (with_reducible refine R.yes_noE ?_) | (with_reducible refine R.yes_bindSR ?_) | (with_reducible refine SR.yes_bindT ?_) | (with_reducible refine SR.yes_bindS ?_) | (with_reducible refine R.yes_ok ?_; try dsimp only) | (with_reducible refine SR.yes_nx ?_; try dsimp only))
  refine catS_yes (by omega) ?_
  repeat (first | (with_reducible refine R.yes_bind ?_) | (with_reducible refine R.yes_noE ?_) | (with_reducible refine R.yes_bindSR ?_) | (with_reducible refine SR.yes_bindT ?_) | (with_reducible refine SR.yes_bindS ?_) | (with_reducible refine R.yes_ok ?_; try dsimp only) | (with_reducible refine SR.yes_nx ?_; try dsimp only))
  refine catS_yes (by omega) ?_
  repeat (first | (with_reducible refine R.yes_bind ?_) | (with_reducible refine R.yes_noE ?_) | (with_reducible refine R.yes_bindSR ?_) | (with_reducible refine SR.yes_bindT ?_) | (with_reducible refine SR.yes_bindS ?_) | (with_reducible refine R.yes_ok ?_; try dsimp only) | (with_reducible refine SR.yes_nx ?_; try dsimp only))
  refine catS_yes (by omega) ?_
  repeat (first | (with_reducible refine R.yes_bind ?_) | (with_reducible refine R.yes_noE ?_) | (with_reducible refine R.yes_bindSR ?_) | (with_reducible refine SR.yes_bindT ?_) | (with_reducible refine SR.yes_bindS ?_) | (with_reducible refine R.yes_ok ?_; try dsimp only) | (with_reducible refine SR.yes_nx ?_; try dsimp only))
  refine catL_yes (by simp) ?_
  have t1 : Lts ([y1 ++ sign ++ y2, y3 ++ y4, y5 ++ sign ++ y6] ++ [x ++ " ", " " ++ x, x ++ x]) := by
    refine Lts.app (.cons ?_ (.cons ?_ (.cons ?_ .nil))) (.cons ?_ (.cons ?_ (.cons ?_ .nil))) <;> simp only [len_app] <;> omega
  have n1 : ([y1 ++ sign ++ y2, y3 ++ y4, y5 ++ sign ++ y6] ++ [x ++ " ", " " ++ x, x ++ x]).length = 6 := rfl
  generalize ([y1 ++ sign ++ y2, y3 ++ y4, y5 ++ sign ++ y6] ++ [x ++ " ", " " ++ x, x ++ x]) = u1 at t1 n1 ⊢
  repeat (first | (with_reducible refine R.yes_bind ?_) | (with_reducible refine R.yes_noE ?_) | (with_reducible refine R.yes_bindSR ?_) | (with_reducible refine SR.yes_bindT ?_) | (with_reducible refine SR.yes_bindS ?_) | (with_reducible refine R.yes_ok ?_; try dsimp only) | (with_reducible refine SR.yes_nx ?_; try dsimp only))
  have c1 := sumL_cut ws none (some p4.1)
  have c2 := sumL_cut ws (some (p4.1 + 1)) none
  have c3 := sumL_cut ws none (some (p4.1 + 1))
  have c4 := sumL_cut ws (some p4.1) none
  refine catL_yes (by omega) ?_
  refine joinR_yes (by rw [sumL_app, List.length_append]; omega) fun z1 k1 => ?_
  rw [sumL_app, List.length_append] at k1
  repeat (first | (with_reducible refine R.yes_bind ?_) | (with_reducible refine R.yes_noE ?_) | (with_reducible refine R.yes_bindSR ?_) | (with_reducible refine SR.yes_bindT ?_) | (with_reducible refine SR.yes_bindS ?_) | (with_reducible refine R.yes_ok ?_; try dsimp only) | (with_reducible refine SR.yes_nx ?_; try dsimp only))
  refine catL_yes (by omega) ?_
  refine joinR_yes (by rw [sumL_app, List.length_append]; omega) fun z2 k2 => ?_
  rw [sumL_app, List.length_append] at k2
  repeat (first | (with_reducible refine R.yes_bind ?_) | (with_reducible refine R.yes_noE ?_) | (with_reducible refine R.yes_bindSR ?_) | (with_reducible refine SR.yes_bindT ?_) | (with_reducible refine SR.yes_bindS ?_) | (with_reducible refine R.yes_ok ?_; try dsimp only) | (with_reducible refine SR.yes_nx ?_; try dsimp only))
  refine catL_yes (by rw [n1]; simp) ?_
  have t2 : Lts (u1 ++ [z1, z2]) := t1.app (.cons (by omega) (.cons (by omega) .nil))
  have n2 : (u1 ++ [z1, z2]).length = 8 := by rw [List.length_append, n1]; rfl
  generalize u1 ++ [z1, z2] = u2 at t2 n2 ⊢
  repeat (first | (with_reducible refine R.yes_bind ?_) | (with_reducible refine R.yes_noE ?_) | (with_reducible refine R.yes_bindSR ?_) | (with_reducible refine SR.yes_bindT ?_) | (with_reducible refine SR.yes_bindS ?_) | (with_reducible refine R.yes_ok ?_; try dsimp only) | (with_reducible refine SR.yes_nx ?_; try dsimp only))
  refine joinR_yes (by rw [sumL_rev, List.length_reverse]; omega) fun z3 k3 => ?_
  rw [sumL_rev, List.length_reverse] at k3
  repeat (first | (with_reducible refine R.yes_bind ?_) | (with_reducible refine R.yes_noE ?_) | (with_reducible refine R.yes_bindSR ?_) | (with_reducible refine SR.yes_bindT ?_) | (with_reducible refine SR.yes_bindS ?_) | (with_reducible refine R.yes_ok ?_; try dsimp only) | (with_reducible refine SR.yes_nx ?_; try dsimp only))
  refine appR_yes (by rw [n2]; omega) ?_
  have t3 : Lts (u2 ++ [z3]) := t2.app (.cons (by omega) .nil)
  have n3 : (u2 ++ [z3]).length = 9 := by rw [List.length_append, n2]; rfl
  generalize u2 ++ [z3] = u3 at t3 n3 ⊢
  repeat (first | (with_reducible refine R.yes_bind ?_) | (with_reducible refine R.yes_noE ?_) | (with_reducible refine R.yes_bindSR ?_) | (with_reducible refine SR.yes_bindT ?_) | (with_reducible refine SR.yes_bindS ?_) | (with_reducible refine R.yes_ok ?_; try dsimp only) | (with_reducible refine SR.yes_nx ?_; try dsimp only))
  refine atR_yes (by decide) (by omega) fun w0 hw0 => ?_
  have lw0 := le_sumL hw0
  repeat (first | (with_reducible refine R.yes_bind ?_) | (with_reducible refine R.yes_noE ?_) | (with_reducible refine R.yes_bindSR ?_) | (with_reducible refine SR.yes_bindT ?_) | (with_reducible refine SR.yes_bindS ?_) | (with_reducible refine R.yes_ok ?_; try dsimp only) | (with_reducible refine SR.yes_nx ?_; try dsimp only))
  refine (turn_yes h4 (by omega) (by omega) (by omega)).imp fun p5 ⟨a5, h5⟩ => ?_
  repeat (first | (with_reducible refine R.yes_bind ?_) | (with_reducible refine R.yes_noE ?_) | (with_reducible refine R.yes_bindSR ?_) | (with_reducible refine SR.yes_bindT ?_) | (with_reducible refine SR.yes_bindS ?_) | (with_reducible refine R.yes_ok ?_; try dsimp only) | (with_reducible refine SR.yes_nx ?_; try dsimp only))
  refine atR_yes a5.1 (by simpa using a5.2) fun w1 hw1 => ?_
  have lw1 : w1.length ≤ 6000 := by
    simp only [List.mem_cons, List.not_mem_nil, or_false] at hw1
    rcases hw1 with rfl | rfl | rfl | rfl | rfl | rfl | rfl | rfl | rfl | rfl
    · omega
    all_goals decide +kernel
  repeat (first | (with_reducible refine R.yes_bind ?_) | (with_reducible refine R.yes_noE ?_) | (with_reducible refine R.yes_bindSR ?_) | (with_reducible refine SR.yes_bindT ?_) | (with_reducible refine SR.yes_bindS ?_) | (with_reducible refine R.yes_ok ?_; try dsimp only) | (with_reducible refine SR.yes_nx ?_; try dsimp only))
  refine R.yes_eq (set_ok a4.1 (by omega)) ?_
  repeat (first | (with_reducible refine R.yes_bind ?_) | (with_reducible refine R.yes_noE ?_) | (with_reducible refine R.yes_bindSR ?_) | (with_reducible refine SR.yes_bindT ?_) | (with_reducible refine SR.yes_bindS ?_) | (with_reducible refine R.yes_ok ?_; try dsimp only) | (with_reducible refine SR.yes_nx ?_; try dsimp only))
  have c5 := sumL_set w1 ws p4.1.toNat
  refine joinR_yes (by rw [List.length_set]; omega) fun z4 k4 => ?_
  rw [List.length_set] at k4
  repeat (first | (with_reducible refine R.yes_bind ?_) | (with_reducible refine R.yes_noE ?_) | (with_reducible refine R.yes_bindSR ?_) | (with_reducible refine SR.yes_bindT ?_) | (with_reducible refine SR.yes_bindS ?_) | (with_reducible refine R.yes_ok ?_; try dsimp only) | (with_reducible refine SR.yes_nx ?_; try dsimp only))
  refine R.yes_chk ⟨by decide, by decide, line_of (by show 1 * 3 ≤ 16777216; decide)⟩ ?_
  have e3 : (List.replicate (3 : Int).toNat [z4]).flatten = [z4, z4, z4] := rfl
  rw [e3]
  refine catL_yes (by rw [n3]; simp) ?_
  have t4 : Lts (u3 ++ [z4, z4, z4]) := t3.app (.cons (by omega) (.cons (by omega) (.cons (by omega) .nil)))
  have n4 : (u3 ++ [z4, z4, z4]).length = 12 := by rw [List.length_append, n3]; rfl
  generalize u3 ++ [z4, z4, z4] = u4 at t4 n4 ⊢
  repeat (first | (with_reducible refine R.yes_bind ?_) | (with_reducible refine R.yes_noE ?_) | (with_reducible refine R.yes_bindSR ?_) | (with_reducible refine SR.yes_bindT ?_) | (with_reducible refine SR.yes_bindS ?_) | (with_reducible refine R.yes_ok ?_; try dsimp only) | (with_reducible refine SR.yes_nx ?_; try dsimp only))
  refine (turn_yes h5 (by omega) (by omega) (by omega)).imp fun p6 ⟨a6, h6⟩ => ?_
  repeat (first | (with_reducible refine R.yes_bind ?_) | (with_reducible refine R.yes_noE ?_) | (with_reducible refine R.yes_bindSR ?_) | (with_reducible refine SR.yes_bindT ?_) | (with_reducible refine SR.yes_bindS ?_) | (with_reducible refine R.yes_ok ?_; try dsimp only) | (with_reducible refine SR.yes_nx ?_; try dsimp only))
  refine atR_yes a6.1 (by rw [n4]; exact a6.2) fun v hv => ?_
  repeat (first | (with_reducible refine R.yes_bind ?_) | (with_reducible refine R.yes_noE ?_) | (with_reducible refine R.yes_bindSR ?_) | (with_reducible refine SR.yes_bindT ?_) | (with_reducible refine SR.yes_bindS ?_) | (with_reducible refine R.yes_ok ?_; try dsimp only) | (with_reducible refine SR.yes_nx ?_; try dsimp only))
  exact ⟨t4 v hv, h6.up (by omega)⟩
end T

namespace T
open PySem L2 L3
def okE (p : Int × Int) : Bool := decide (0 ≤ p.2) && decide (p.2 ≤ max 0 (p.1 - 1))
def formB (xs : List Int) : Bool := (decide (1 ≤ xs.length) && decide (xs.length ≤ 150)) && (enumI xs).all okE
theorem enumI_map {α β : Type} (f : α → β) (xs : List α) : enumI (xs.map f) = (enumI xs).map fun p => (p.1, f p.2) := by
  unfold enumI
  rw [List.length_map, List.zipWith_map_right, List.map_zipWith]
theorem enumI_mem {α : Type} {xs : List α} {p : Int × α} (h : p ∈ enumI xs) : 0 ≤ p.1 ∧ p.1 < xs.length ∧ xs[p.1.toNat]? = some p.2 := by
  obtain ⟨i, hi⟩ := List.getElem?_of_mem h
  obtain ⟨e, q⟩ := enumI_get hi
  have := (List.getElem?_eq_some_iff.mp q).1
  refine ⟨by omega, by omega, ?_⟩
  rw [show p.1.toNat = i by omega]; exact q
theorem isint_ok (n lo hi : Int) : f_is_integer (.int n) lo hi = .ok (decide (lo ≤ n) && decide (n ≤ hi)) := by
  unfold f_is_integer
  show (if pLe lo n = true then R.ok (pLe n hi) else .ok false) = _
  unfold pLe
  by_cases h : lo ≤ n <;> simp [h]
theorem have_form_ok (xs : List Int) : f_have_form (.list (xs.map PyData.int)) = .ok (formB xs) := by
  unfold f_have_form
  show (((if pLe 1 ((xs.map PyData.int).length : Int) = true then R.ok (pLe ((xs.map PyData.int).length : Int) 150) else .ok false).bind fun a2 => .ok (!a2)).bind fun c3 => (if c3 = true then R.ok false else ((((R.ok (enumI (xs.map PyData.int))).bind fun l11 => (chk (List.length l11 ≤ sizeLine) l11).bind fun l10 => lcR (fun _ => .ok true) (fun x8 : Int × PyData => (f_is_integer x8.2 (0 : Int) (max (0 : Int) (x8.1 - (1 : Int)))).noE) l10).bind fun a12 => .ok (a12, ())).bind fun p13 => .ok (List.all p13.1 id)))) = _
  rw [List.length_map]
  have nope : ¬ (1 ≤ xs.length ∧ xs.length ≤ 150) → formB xs = false := fun h => by
    unfold formB
    have : (decide (1 ≤ xs.length) && decide (xs.length ≤ 150)) = false := by
      rw [Bool.and_eq_false_iff]
      rcases Decidable.not_and_iff_or_not.mp h with z | z
      · exact .inl (decide_eq_false z)
      · exact .inr (decide_eq_false z)
    rw [this, Bool.false_and]
  by_cases h1 : 1 ≤ xs.length ∧ xs.length ≤ 150
  · have e1 : pLe 1 (xs.length : Int) = true := decide_eq_true (by omega)
    have e2 : pLe (xs.length : Int) 150 = true := decide_eq_true (by omega)
    rw [if_pos e1, e2]
    simp only [R.bind, Bool.not_true, Bool.false_eq_true, if_false]
    rw [chk_ok (line_of (by rw [enumI_len, List.length_map]; omega))]
    simp only [R.bind]
    let G : Int × PyData → Bool := fun q => match q.2 with
      | .int n => okE (q.1, n)
      | _ => false
    rw [lcR_map (G := G) fun q hq => by
      rw [enumI_map] at hq
      obtain ⟨p, hp, rfl⟩ := List.mem_map.mp hq
      dsimp only
      rw [isint_ok]; rfl]
    simp only [R.bind]
    have e3 : ((enumI (xs.map PyData.int)).map G).all id = (enumI xs).all okE := by
      rw [enumI_map, List.map_map, List.all_map]
      rfl
    rw [e3]
    unfold formB
    rw [decide_eq_true h1.1, decide_eq_true h1.2]
    rfl
  · rw [nope h1]
    by_cases h2 : 1 ≤ xs.length
    · have e1 : pLe 1 (xs.length : Int) = true := decide_eq_true (by omega)
      have e2 : pLe (xs.length : Int) 150 = false := decide_eq_false (by omega)
      rw [if_pos e1, e2]; rfl
    · have e1 : pLe 1 (xs.length : Int) = false := decide_eq_false (by omega)
      rw [e1]; rfl
/-- two loops that look for a pair -/
theorem nest {ι : Type} (L : List ι) {rg : ι → R (List Int)} {body : ι → Int → R Bool} {rgv : ι → List Int} {bv : ι → Int → Bool} {key : ι → Int} (h1 : ∀ x ∈ L, rg x = .ok (rgv x)) (h2 : ∀ x ∈ L, ∀ o ∈ rgv x, body x o = .ok (bv x o)) :
    ∃ r, (forL (fun (x : ι) (_ : Unit) => (rg x).bindSR fun l => (forL (fun (o : Int) (_ : Unit) => (body x o).bindSR fun c => if c = true then (.rt (some (key x, o)) : SR (Option (Int × Int)) Unit) else .nx ()) l ()).bindS fun _ => (.nx () : SR (Option (Int × Int)) Unit)) L ()).bindT (fun _ => .ok none) = .ok r ∧
      r.isNone = !(L.any fun x => (rgv x).any (bv x)) := by
  have outer : ∀ x ∈ L, ((rg x).bindSR fun l => (forL (fun (o : Int) (_ : Unit) => (body x o).bindSR fun c => if c = true then (.rt (some (key x, o)) : SR (Option (Int × Int)) Unit) else .nx ()) l ()).bindS fun _ => (.nx () : SR (Option (Int × Int)) Unit)) = if ((rgv x).find? (bv x)).isSome = true then .rt (((rgv x).find? (bv x)).map fun o => (key x, o)) else .nx () := fun x hx => by
    rw [h1 x hx]
    show (forL _ (rgv x) ()).bindS _ = _
    rw [forL_find (C := bv x) (F := fun o => some (key x, o)) fun o ho => by rw [h2 x hx o ho]; rfl]
    cases (rgv x).find? (bv x) <;> rfl
  rw [forL_find (C := fun x => ((rgv x).find? (bv x)).isSome) (F := fun x => ((rgv x).find? (bv x)).map fun o => (key x, o)) outer]
  have e : (L.any fun x => (rgv x).any (bv x)) = L.any fun x => ((rgv x).find? (bv x)).isSome := by
    congr 1
    funext x
    rw [Bool.eq_iff_iff, List.find?_isSome, List.any_eq_true]
  rw [e]
  cases hf : L.find? fun x => ((rgv x).find? (bv x)).isSome with
  | none =>
    refine ⟨none, rfl, ?_⟩
    rw [List.find?_eq_none] at hf
    have : (L.any fun x => ((rgv x).find? (bv x)).isSome) = false := by
      rw [Bool.eq_false_iff]
      intro z
      obtain ⟨x, hx, hc⟩ := List.any_eq_true.mp z
      exact hf x hx hc
    rw [this]; rfl
  | some x =>
    refine ⟨_, rfl, ?_⟩
    have h3 := List.find?_some hf
    have : (L.any fun x => ((rgv x).find? (bv x)).isSome) = true := List.any_eq_true.mpr ⟨x, List.mem_of_find?_eq_some hf, h3⟩
    rw [this]
    cases hh : (rgv x).find? (bv x) with
    | none => rw [hh] at h3; cases h3
    | some o => rfl
def crossB (xs : List Int) : Bool := (enumI xs).any fun p => (rangeI (p.1 + 1) xs.length).any fun o => decide (p.2 < xs.getD o.toNat 0) && decide (xs.getD o.toNat 0 < p.1)
theorem get_in {xs : List Int} {o : Int} (h0 : 0 ≤ o) (h1 : o < xs.length) : xs[o.toNat]? = some (xs.getD o.toNat 0) := by
  have hl : o.toNat < xs.length := by omega
  rw [List.getElem?_eq_getElem hl, List.getD_eq_getElem?_getD, List.getElem?_eq_getElem hl]; rfl
theorem two_lt (a b c d : Int) : (if pLt a b = true then R.ok (pLt c d) else .ok false) = .ok (decide (a < b) && decide (c < d)) := by
  unfold pLt
  by_cases h : a < b <;> simp [h]
theorem lc_ok {xs : List Int} (hl : xs.length ≤ 1000) : ∃ r, f_least_crossing xs = .ok r ∧ r.isNone = !crossB xs := by
  unfold f_least_crossing crossB
  refine nest (enumI xs) (rgv := fun p => rangeI (p.1 + 1) xs.length) (bv := fun p o => decide (p.2 < xs.getD o.toNat 0) && decide (xs.getD o.toNat 0 < p.1)) (key := fun p => p.1) (fun p hp => ?_) fun p hp o ho => ?_
  · have := enumI_mem hp
    exact rngR_ok (by omega) (by omega) (by omega) (by omega)
  · have h1 := enumI_mem hp
    have h2 := rangeI_mem.mp ho
    rw [at_ok (by omega) (get_in (by omega) h2.2)]
    exact two_lt _ _ _ _
theorem lcD_ok {xs : List Int} (hl : xs.length ≤ 1000) : ∃ r, f_least_crossingD (.list (xs.map PyData.int)) = .ok r ∧ r.isNone = !crossB xs := by
  let rv : Int × PyData → List Int := fun p => rangeI (p.1 + 1) xs.length
  let bv : Int × PyData → Int → Bool := fun p o => match p.2 with
    | .int n => decide (n < xs.getD o.toNat 0) && decide (xs.getD o.toNat 0 < p.1)
    | _ => false
  have e : crossB xs = (enumI (xs.map PyData.int)).any fun x => (rv x).any (bv x) := by
    rw [enumI_map, List.any_map]; rfl
  rw [e]
  unfold f_least_crossingD
  refine nest (enumI (xs.map PyData.int)) (rgv := rv) (bv := bv) (key := fun p => p.1) (fun p hp => ?_) fun p hp o ho => ?_
  · have := enumI_mem hp
    rw [List.length_map] at this
    show rngR (p.1 + 1) ((xs.map PyData.int).length : Int) = _
    rw [List.length_map]
    exact rngR_ok (by omega) (by omega) (by omega) (by omega)
  · rw [enumI_map] at hp
    obtain ⟨q, hq, rfl⟩ := List.mem_map.mp hp
    have h1 := enumI_mem hq
    have h2 := rangeI_mem.mp ho
    have e2 : ixD (.list (xs.map PyData.int)) o = .ok (.int (xs.getD o.toNat 0)) := at_ok (by omega) (by rw [List.getElem?_map, get_in (by omega) h2.2]; rfl)
    rw [e2]
    exact two_lt _ _ _ _
def logB (xs : List Int) : Bool := formB xs && !crossB xs
theorem formB_len {xs : List Int} (h : formB xs = true) : xs.length ≤ 150 := by
  unfold formB at h
  simp only [Bool.and_eq_true, decide_eq_true_eq] at h
  exact h.1.2
theorem isNone_o (r : Option (Int × Int)) : isNoneD (eO (eT2 PyData.int PyData.int) r) = r.isNone := by cases r <;> rfl
theorem is_logD_ok (xs : List Int) : f_is_logD (.list (xs.map PyData.int)) = .ok (logB xs) := by
  unfold f_is_logD logB
  rw [have_form_ok]
  cases h : formB xs with
  | false => rfl
  | true =>
    obtain ⟨r, h1, h2⟩ := lcD_ok (xs := xs) (by have := formB_len h; omega)
    show ((f_least_crossingD (.list (xs.map PyData.int))).noE.bind fun a3 => R.ok (isNoneD (eO (eT2 PyData.int PyData.int) a3))) = _
    rw [h1]
    show R.ok (isNoneD (eO (eT2 PyData.int PyData.int) r)) = _
    rw [isNone_o, h2, Bool.true_and]
theorem is_log_ok (xs : List Int) : f_is_log xs = .ok (logB xs) := by
  unfold f_is_log logB
  show ((f_have_form (.list (xs.map PyData.int))).noE.bind _) = _
  rw [have_form_ok]
  cases h : formB xs with
  | false => rfl
  | true =>
    obtain ⟨r, h1, h2⟩ := lc_ok (xs := xs) (by have := formB_len h; omega)
    show ((f_least_crossing xs).noE.bind fun a3 => R.ok (isNoneD (eO (eT2 PyData.int PyData.int) a3))) = _
    rw [h1]
    show R.ok (isNoneD (eO (eT2 PyData.int PyData.int) r)) = _
    rw [isNone_o, h2, Bool.true_and]
end T

namespace T
open PySem L2 L3
def wholeO (p : Int × Option Int) : Bool := match p.2 with
  | some n => okE (p.1, n)
  | none => false
theorem lwhole_int (n lo hi : Int) : f__law_whole (.int n) lo hi = .ok (decide (lo ≤ n) && decide (n ≤ hi)) := by
  unfold f__law_whole
  show (if pLe lo n = true then R.ok (pLe n hi) else .ok false) = _
  unfold pLe
  by_cases h : lo ≤ n <;> simp [h]
theorem lwhole_o (p : Int × Option Int) : f__law_whole (eO PyData.int p.2) 0 (max 0 (p.1 - 1)) = .ok (wholeO p) := by
  obtain ⟨i, o⟩ := p
  cases o with
  | none => rfl
  | some n => exact lwhole_int n _ _
def crossL (xs : List Int) : Bool := (rangeI 1 xs.length).any fun e => (rangeI (xs.getD e.toNat 0 + 1) e).any fun o => decide (xs.getD o.toNat 0 < xs.getD e.toNat 0)
def lenB (n : Nat) : Bool := decide (1 ≤ n) && decide (n ≤ 150)
theorem len_guard {α : Type} (e : α → PyData) (ys : List α) : ((!(isiD (eL e ys) "list")) || ((decide ((List.length ys : Int) < (1 : Int))) || (decide ((150 : Int) < (List.length ys : Int))))) = !lenB ys.length := by
  show (false || _) = _
  unfold lenB
  rw [Bool.eq_iff_iff]
  simp only [Bool.false_or, Bool.or_eq_true, decide_eq_true_eq, Bool.not_eq_true', Bool.and_eq_false_iff, decide_eq_false_iff_not]
  omega
theorem first_loop (ys : List (Option Int)) : (forL (fun (x5 : Int × (Option Int)) (s4 : Unit) => (((f__law_whole ((eO PyData.int) x5.2) (0 : Int) (max (0 : Int) (x5.1 - (1 : Int)))).noE).bind fun a7 => .ok (!a7)).bindSR fun c8 => (if c8 = true then (let a9 := false; .rt a9) else .nx ())) (enumI ys) () : SR Bool Unit) = if (enumI ys).any (fun p => !wholeO p) = true then .rt false else .nx () :=
  forL_any (C := fun p => !wholeO p) fun p hp => by
    rw [lwhole_o]; rfl
theorem law_not {ys : List (Option Int)} (h : ∃ p ∈ enumI ys, wholeO p = false) : f__law_is_log ys = .ok false := by
  unfold f__law_is_log
  rw [len_guard, first_loop]
  cases lenB ys.length with
  | false => rfl
  | true =>
    obtain ⟨p, hp, hw⟩ := h
    have : (enumI ys).any (fun p => !wholeO p) = true := List.any_eq_true.mpr ⟨p, hp, by rw [hw]; rfl⟩
    rw [this]; rfl
theorem formB_eq (xs : List Int) : formB xs = (lenB xs.length && !((enumI (xs.map some)).any fun p => !wholeO p)) := by
  unfold formB lenB
  congr 1
  rw [enumI_map, List.any_map, List.all_eq_not_any_not]
  rfl
theorem okE_of {xs : List Int} (h : formB xs = true) {i : Int} (h0 : 0 ≤ i) (h1 : i < xs.length) : 0 ≤ xs.getD i.toNat 0 ∧ xs.getD i.toNat 0 ≤ max 0 (i - 1) := by
  unfold formB at h
  obtain ⟨_, h⟩ := Bool.and_eq_true_iff.mp h
  have hl : i.toNat < xs.length := by omega
  have hm : (i, xs.getD i.toNat 0) ∈ enumI xs := by
    refine List.mem_of_getElem? (i := i.toNat) ?_
    unfold enumI
    rw [List.getElem?_zipWith, List.getElem?_range hl, get_in h0 h1]
    show some (((i.toNat : Nat) : Int), xs.getD i.toNat 0) = _
    rw [Int.toNat_of_nonneg h0]
  have := List.all_eq_true.mp h _ hm
  unfold okE at this
  simpa using this
theorem second_loop {xs : List Int} (hf : formB xs = true) : (forL (fun (x12 : Int) (s11 : Unit) => (atR (xs.map some) x12).bindSR fun link_14 => ((((((opt link_14).bind fun a15 => .ok (a15 + (1 : Int))).bind fun a16 => .ok (a16, (x12, ()))).bind fun p17 => rngR p17.1 p17.2.1).bind fun l23 => (chk (List.length l23 ≤ sizeLine) l23).bind fun l22 => lcR (fun x18 : Int => ((atR (xs.map some) x18).bind opt).bind fun a20 => (opt link_14).bind fun a21 => .ok (decide (a20 < a21))) (fun x18 : Int => .ok x18) l22).bind fun a26 => .ok (!eqB a26 [])).bindSR fun c27 => (if c27 = true then (let a28 := false; .rt a28) else .nx ())) (rangeI 1 xs.length) () : SR Bool Unit) = if crossL xs = true then .rt false else .nx () := by
  have hlen := formB_len hf
  refine forL_any (C := fun e => (rangeI (xs.getD e.toNat 0 + 1) e).any fun o => decide (xs.getD o.toNat 0 < xs.getD e.toNat 0)) fun e he => ?_
  have h1 := rangeI_mem.mp he
  have hk := okE_of hf (i := e) (by omega) h1.2
  have at2 : ∀ o : Int, 0 ≤ o → o < xs.length → atR (xs.map some) o = .ok (some (xs.getD o.toNat 0)) := fun o h0 h2 => at_ok h0 (by rw [List.getElem?_map, get_in h0 h2]; rfl)
  rw [at2 e (by omega) h1.2]
  show (((R.bind (R.bind (R.bind (opt (some _)) _) _) _).bind _).bind _).bindSR _ = _
  rw [opt_some]
  show (((rngR (xs.getD e.toNat 0 + 1) e).bind _).bind _).bindSR _ = _
  rw [rngR_ok (by omega) (by omega) (by omega) (by omega)]
  show (((chk _ (rangeI (xs.getD e.toNat 0 + 1) e)).bind _).bind _).bindSR _ = _
  rw [chk_ok (line_of (by rw [rangeI_len]; omega))]
  show ((lcR _ _ (rangeI (xs.getD e.toNat 0 + 1) e)).bind _).bindSR _ = _
  rw [lcR_filter (C := fun o => decide (xs.getD o.toNat 0 < xs.getD e.toNat 0)) (G := fun o => o) (fun o ho => by
    have h2 := rangeI_mem.mp ho
    rw [at2 o (by omega) (by omega)]
    show (R.bind (opt (some _)) _) = _
    rw [opt_some]; rfl) fun _ _ _ => rfl]
  show (if (!eqB (((rangeI (xs.getD e.toNat 0 + 1) e).filter fun o => decide (xs.getD o.toNat 0 < xs.getD e.toNat 0)).map fun o => o) []) = true then (SR.rt false : SR Bool Unit) else .nx ()) = _
  have e3 : (!eqB (((rangeI (xs.getD e.toNat 0 + 1) e).filter fun o => decide (xs.getD o.toNat 0 < xs.getD e.toNat 0)).map fun o => o) []) = (rangeI (xs.getD e.toNat 0 + 1) e).any fun o => decide (xs.getD o.toNat 0 < xs.getD e.toNat 0) := by
    rw [Bool.eq_iff_iff]
    simp only [Bool.not_eq_true', eqB_nf, List.map_id', List.any_eq_true]
    constructor
    · intro h
      obtain ⟨o, ho⟩ := List.exists_mem_of_ne_nil _ h
      have := List.mem_filter.mp ho
      exact ⟨o, this.1, this.2⟩
    · rintro ⟨o, h1, h2⟩ h
      have : o ∈ (rangeI (xs.getD e.toNat 0 + 1) e).filter fun o => decide (xs.getD o.toNat 0 < xs.getD e.toNat 0) := List.mem_filter.mpr ⟨h1, h2⟩
      rw [h] at this
      cases this
  rw [e3]
theorem law_some (xs : List Int) : f__law_is_log (xs.map some) = .ok (formB xs && !crossL xs) := by
  have hq := formB_eq xs
  unfold f__law_is_log
  rw [len_guard, first_loop, List.length_map]
  cases hl : lenB xs.length with
  | false =>
    rw [hl] at hq
    rw [hq]; rfl
  | true =>
    rw [hl, Bool.true_and] at hq
    cases ha : (enumI (xs.map some)).any fun p => !wholeO p with
    | true =>
      rw [ha] at hq
      rw [hq]; rfl
    | false =>
      rw [ha] at hq
      have hf : formB xs = true := hq
      rw [hf]
      have := formB_len hf
      show ((rngR 1 (xs.length : Int)).bind fun l31 => (forL _ l31 ()).bindT fun _ => R.ok true) = _
      rw [rngR_ok (by omega) (by omega) (by omega) (by omega)]
      show (forL _ (rangeI 1 xs.length) ()).bindT (fun _ => R.ok true) = _
      rw [second_loop hf]
      cases crossL xs <;> rfl
theorem cross_eq {xs : List Int} (hf : formB xs = true) : crossL xs = crossB xs := by
  rw [Bool.eq_iff_iff]
  unfold crossL crossB
  simp only [List.any_eq_true, Bool.and_eq_true, decide_eq_true_eq]
  constructor
  · rintro ⟨e, he, o, ho, h⟩
    have h1 := rangeI_mem.mp he
    have h2 := rangeI_mem.mp ho
    have hk := okE_of hf (i := e) (by omega) h1.2
    have hm : (o, xs.getD o.toNat 0) ∈ enumI xs := by
      refine List.mem_of_getElem? (i := o.toNat) ?_
      unfold enumI
      rw [List.getElem?_zipWith, List.getElem?_range (show o.toNat < xs.length by omega), get_in (by omega) (by omega)]
      show some (((o.toNat : Nat) : Int), xs.getD o.toNat 0) = _
      rw [Int.toNat_of_nonneg (by omega)]
    exact ⟨_, hm, e, rangeI_mem.mpr ⟨by show o + 1 ≤ e; omega, h1.2⟩, h, by show xs.getD e.toNat 0 < o; omega⟩
  · rintro ⟨p, hp, o, ho, h3, h4⟩
    have h1 := enumI_mem hp
    have h2 := rangeI_mem.mp ho
    have e1 : xs.getD p.1.toNat 0 = p.2 := by
      rw [List.getD_eq_getElem?_getD, h1.2.2]; rfl
    exact ⟨o, rangeI_mem.mpr ⟨by omega, h2.2⟩, p.1, rangeI_mem.mpr ⟨by omega, by omega⟩, by rw [e1]; exact h3⟩
theorem law_log (xs : List Int) : f__law_is_log (xs.map some) = .ok (logB xs) := by
  rw [law_some]
  unfold logB
  cases h : formB xs with
  | false => rfl
  | true => rw [cross_eq h]
end T

namespace T
open PySem L2 L3
def nt (n : Int) : Str := Str.ofString (toString n)
theorem tab1 : ((List.range 10).all fun a => decide (PySem.intText? ⟨#[48 + a]⟩ = some (a : Int)) && decide (nt (a : Int) = (⟨#[48 + a]⟩ : Str))) = true := by decide +kernel
theorem tab2 : ((List.range 100).all fun k => decide (PySem.intText? ⟨#[48 + k / 10, 48 + k % 10]⟩ = some (k : Int)) && (decide (k < 10) == !decide (nt (k : Int) = (⟨#[48 + k / 10, 48 + k % 10]⟩ : Str)))) = true := by decide +kernel
theorem tab3 : ((List.range 1000).all fun k => decide (PySem.intText? ⟨#[48 + k / 100, 48 + k / 10 % 10, 48 + k % 10]⟩ = some (k : Int)) && (decide (k < 100) == !decide (nt (k : Int) = (⟨#[48 + k / 100, 48 + k / 10 % 10, 48 + k % 10]⟩ : Str)))) = true := by decide +kernel
theorem tab4 : ((List.range 150).all fun k => decide ((nt (k : Int)).length ≤ 3)) = true := by decide +kernel
abbrev dgs : List Nat := ("0123456789" : Str).cps.toList
def dgB (w : Str) : Bool := w.cps.toList.all fun c => decide (c ∈ dgs)
theorem dg_iff (c : Nat) : c ∈ dgs ↔ 48 ≤ c ∧ c ≤ 57 := by
  have e : dgs = [48, 49, 50, 51, 52, 53, 54, 55, 56, 57] := by decide +kernel
  rw [e]
  simp only [List.mem_cons, List.not_mem_nil, or_false]
  omega
theorem len_c (w : Str) : w.length = w.cps.toList.length := TL.len_tl w
theorem lcs_in (w : Str) : lcR (fun _ => .ok true) (fun x4 : PySem.Str => inS x4 ("0123456789")) (chs w) = .ok (w.cps.toList.map fun c => decide (c ∈ dgs)) := by
  rw [lcR_map (G := fun x => decide (x.cps.toList.headD 0 ∈ dgs)) fun x hx => by
    obtain ⟨c, hc, rfl⟩ := List.mem_map.mp hx
    rfl]
  unfold chs
  rw [List.map_map]; rfl
theorem lcs_law (w : Str) : lcR (fun _ => .ok true) (fun x4 : PySem.Str => (((inS x4 ("0123456789" : PySem.Str)).bind fun c5 => .ok (!c5)).bind fun a6 => .ok (a6, ())).bind fun p7 => .ok (if p7.1 = true then (1 : Int) else 0)) (chs w) = .ok (w.cps.toList.map fun c => if (!decide (c ∈ dgs)) = true then (1 : Int) else 0) := by
  rw [lcR_map (G := fun x => if (!decide (x.cps.toList.headD 0 ∈ dgs)) = true then (1 : Int) else 0) fun x hx => by
    obtain ⟨c, hc, rfl⟩ := List.mem_map.mp hx
    rfl]
  unfold chs
  rw [List.map_map]; rfl
theorem sum_dg : ∀ l : List Nat, decide (0 < (l.map fun c => if (!decide (c ∈ dgs)) = true then (1 : Int) else 0).sum) = !(l.all fun c => decide (c ∈ dgs)) ∧ 0 ≤ (l.map fun c => if (!decide (c ∈ dgs)) = true then (1 : Int) else 0).sum
  | [] => ⟨rfl, by simp⟩
  | c :: l => by
    obtain ⟨h1, h2⟩ := sum_dg l
    rw [List.map_cons, List.sum_cons, List.all_cons]
    cases hc : decide (c ∈ dgs) with
    | true =>
      simp only [Bool.not_true, Bool.false_eq_true, if_false, Int.zero_add, Bool.true_and]
      exact ⟨h1, h2⟩
    | false =>
      simp only [Bool.not_false, if_true, Bool.false_and]
      exact ⟨decide_eq_true (by omega), by omega⟩
theorem prog_none {w : Str} (hl : w.length ≤ 10000) (h : ¬ (1 ≤ w.length ∧ w.length ≤ 3) ∨ dgB w = false) : f_number_in w 3 = .ok none := by
  refine R.eq_of_yes ?_
  unfold f_number_in
  repeat (first | (with_reducible refine R.yes_bind ?_) | (with_reducible refine R.yes_noE ?_) | (with_reducible refine R.yes_bindSR ?_) | (with_reducible refine SR.yes_bindT ?_) | (with_reducible refine SR.yes_bindS ?_) | (with_reducible refine R.yes_ok ?_; try dsimp only) | (with_reducible refine SR.yes_nx ?_; try dsimp only))
  refine lenS_yes (by omega) ?_
  have fin : ((if (1 ≤ w.length ∧ w.length ≤ 3) ∧ dgB w = true then False else True)) := by
    split
    · rename_i z
      rcases h with h | h
      · exact h z.1
      · rw [z.2] at h; cases h
    · trivial
  have go : ∀ b : Bool, (b = decide (1 ≤ w.length ∧ w.length ≤ 3)) → (if (!b) = true then R.ok true else ((((chk (List.length (chs w) ≤ sizeLine) (chs w)).bind fun l5 => lcR (fun _ => .ok true) (fun x4 : PySem.Str => inS x4 ("0123456789")) l5).bind fun a6 => .ok (a6, ())).bind fun p7 => .ok (List.all p7.1 id)).bind fun a8 => .ok (!a8)) = .ok true := fun b hb => by
    cases b with
    | false => rfl
    | true =>
      have z := of_decide_eq_true hb.symm
      rw [if_neg (by simp)]
      have e : (chs w).length = w.length := by simp [chs, Str.length]
      rw [chk_ok (line_of (by rw [e]; omega))]
      show ((((lcR _ _ (chs w)).bind _).bind _).bind _) = _
      rw [lcs_in]
      show R.ok (!((w.cps.toList.map fun c => decide (c ∈ dgs)).all id)) = _
      rw [List.all_map]
      rcases h with h | h
      · exact absurd z h
      · show R.ok (!dgB w) = _
        rw [h]; rfl
  have e1 : (if pLe (1 : Int) (w.length : Int) = true then R.ok (pLe (w.length : Int) 3) else .ok false) = .ok (decide (1 ≤ w.length ∧ w.length ≤ 3)) := by
    unfold pLe
    by_cases h1 : 1 ≤ w.length
    · rw [if_pos (decide_eq_true (by omega))]
      congr 1
      rw [Bool.eq_iff_iff]; simp; omega
    · rw [if_neg (by simp; omega)]
      congr 1
      rw [Bool.eq_iff_iff]; simp; omega
  rw [e1]
  repeat (first | (with_reducible refine R.yes_bind ?_) | (with_reducible refine R.yes_noE ?_) | (with_reducible refine R.yes_bindSR ?_) | (with_reducible refine SR.yes_bindT ?_) | (with_reducible refine SR.yes_bindS ?_) | (with_reducible refine R.yes_ok ?_; try dsimp only) | (with_reducible refine SR.yes_nx ?_; try dsimp only))
  rw [go _ rfl]
  repeat (first | (with_reducible refine R.yes_bind ?_) | (with_reducible refine R.yes_noE ?_) | (with_reducible refine R.yes_bindSR ?_) | (with_reducible refine SR.yes_bindT ?_) | (with_reducible refine SR.yes_bindS ?_) | (with_reducible refine R.yes_ok ?_; try dsimp only) | (with_reducible refine SR.yes_nx ?_; try dsimp only))
  rfl
theorem prog_some {w : Str} {n : Int} {c : Nat} (hl : 1 ≤ w.length ∧ w.length ≤ 3) (hd : dgB w = true) (hi : PySem.intText? w = some n) (hc : w.cps.toList[0]? = some c) : f_number_in w 3 = .ok (if c = 48 ∧ 1 < w.length then none else some n) := by
  refine R.eq_of_yes ?_
  unfold f_number_in
  repeat (first | (with_reducible refine R.yes_bind ?_) | (with_reducible refine R.yes_noE ?_) | (with_reducible refine R.yes_bindSR ?_) | (with_reducible refine SR.yes_bindT ?_) | (with_reducible refine SR.yes_bindS ?_) | (with_reducible refine R.yes_ok ?_; try dsimp only) | (with_reducible refine SR.yes_nx ?_; try dsimp only))
  refine lenS_yes (by omega) ?_
  have e1 : (if pLe (1 : Int) (w.length : Int) = true then R.ok (pLe (w.length : Int) 3) else .ok false) = .ok true := by
    unfold pLe
    rw [if_pos (decide_eq_true (by omega)), decide_eq_true (by omega)]
  rw [e1]
  repeat (first | (with_reducible refine R.yes_bind ?_) | (with_reducible refine R.yes_noE ?_) | (with_reducible refine R.yes_bindSR ?_) | (with_reducible refine SR.yes_bindT ?_) | (with_reducible refine SR.yes_bindS ?_) | (with_reducible refine R.yes_ok ?_; try dsimp only) | (with_reducible refine SR.yes_nx ?_; try dsimp only))
  rw [if_neg (by simp)]
  have e : (chs w).length = w.length := by simp [chs, Str.length]
  repeat (first | (with_reducible refine R.yes_bind ?_) | (with_reducible refine R.yes_noE ?_) | (with_reducible refine R.yes_bindSR ?_) | (with_reducible refine SR.yes_bindT ?_) | (with_reducible refine SR.yes_bindS ?_) | (with_reducible refine R.yes_ok ?_; try dsimp only) | (with_reducible refine SR.yes_nx ?_; try dsimp only))
  refine R.yes_chk (line_of (by rw [e]; omega)) ?_
  rw [lcs_in]
  repeat (first | (with_reducible refine R.yes_bind ?_) | (with_reducible refine R.yes_noE ?_) | (with_reducible refine R.yes_bindSR ?_) | (with_reducible refine SR.yes_bindT ?_) | (with_reducible refine SR.yes_bindS ?_) | (with_reducible refine R.yes_ok ?_; try dsimp only) | (with_reducible refine SR.yes_nx ?_; try dsimp only))
  have e2 : ((w.cps.toList.map fun c => decide (c ∈ dgs)).all id) = true := by
    rw [List.all_map]; exact hd
  rw [e2]
  rw [if_neg (by simp)]
  repeat (first | (with_reducible refine R.yes_bind ?_) | (with_reducible refine R.yes_noE ?_) | (with_reducible refine R.yes_bindSR ?_) | (with_reducible refine SR.yes_bindT ?_) | (with_reducible refine SR.yes_bindS ?_) | (with_reducible refine R.yes_ok ?_; try dsimp only) | (with_reducible refine SR.yes_nx ?_; try dsimp only))
  have e3 : atS w 0 = .ok (⟨#[c]⟩ : Str) := by
    unfold atS
    rw [if_pos (line_of (by omega))]
    have : atI w.cps.toList 0 = some c := by
      unfold atI ixN
      have := (List.getElem?_eq_some_iff.mp hc).1
      rw [if_pos (by decide), if_pos (by omega)]
      exact hc
    rw [this]; exact opt_some
  rw [e3]
  have e4 : intR w = .ok n := by
    unfold intR
    rw [if_pos (by omega), hi]; exact opt_some
  repeat (first | (with_reducible refine R.yes_bind ?_) | (with_reducible refine R.yes_noE ?_) | (with_reducible refine R.yes_bindSR ?_) | (with_reducible refine SR.yes_bindT ?_) | (with_reducible refine SR.yes_bindS ?_) | (with_reducible refine R.yes_ok ?_; try dsimp only) | (with_reducible refine SR.yes_nx ?_; try dsimp only))
  have e5 : eqB (⟨#[c]⟩ : Str) ("0" : PySem.Str) = decide (c = 48) := by
    have : ("0" : PySem.Str) = ⟨#[48]⟩ := by decide +kernel
    rw [this, Bool.eq_iff_iff, eqB_iff]
    simp
  rw [e5]
  by_cases h48 : c = 48
  · rw [if_pos (decide_eq_true h48)]
    repeat (first | (with_reducible refine R.yes_bind ?_) | (with_reducible refine R.yes_noE ?_) | (with_reducible refine R.yes_bindSR ?_) | (with_reducible refine SR.yes_bindT ?_) | (with_reducible refine SR.yes_bindS ?_) | (with_reducible refine R.yes_ok ?_; try dsimp only) | (with_reducible refine SR.yes_nx ?_; try dsimp only))
    refine lenS_yes (by omega) ?_
    repeat (first | (with_reducible refine R.yes_bind ?_) | (with_reducible refine R.yes_noE ?_) | (with_reducible refine R.yes_bindSR ?_) | (with_reducible refine SR.yes_bindT ?_) | (with_reducible refine SR.yes_bindS ?_) | (with_reducible refine R.yes_ok ?_; try dsimp only) | (with_reducible refine SR.yes_nx ?_; try dsimp only))
    by_cases h1 : 1 < w.length
    · rw [if_pos (decide_eq_true (by omega)), if_pos ⟨h48, h1⟩]; rfl
    · rw [if_neg (by simp; omega), if_neg fun z => h1 z.2, e4]; rfl
  · rw [if_neg (by simp [h48])]
    repeat (first | (with_reducible refine R.yes_bind ?_) | (with_reducible refine R.yes_noE ?_) | (with_reducible refine R.yes_bindSR ?_) | (with_reducible refine SR.yes_bindT ?_) | (with_reducible refine SR.yes_bindS ?_) | (with_reducible refine R.yes_ok ?_; try dsimp only) | (with_reducible refine SR.yes_nx ?_; try dsimp only))
    rw [if_neg (by simp), if_neg fun z => h48 z.1, e4]; rfl
theorem law_none {w : Str} (hl : w.length ≤ 10000) (h : ¬ (1 ≤ w.length ∧ w.length ≤ 4) ∨ dgB w = false) : f__law_number w = .ok none := by
  refine R.eq_of_yes ?_
  unfold f__law_number
  repeat (first | (with_reducible refine R.yes_bind ?_) | (with_reducible refine R.yes_noE ?_) | (with_reducible refine R.yes_bindSR ?_) | (with_reducible refine SR.yes_bindT ?_) | (with_reducible refine SR.yes_bindS ?_) | (with_reducible refine R.yes_ok ?_; try dsimp only) | (with_reducible refine SR.yes_nx ?_; try dsimp only))
  refine lenS_yes (by omega) ?_
  have go : ∀ b : Bool, (b = decide (1 ≤ w.length ∧ w.length ≤ 4)) → (if (!b) = true then R.ok true else ((((chk (List.length (chs w) ≤ sizeLine) (chs w)).bind fun l8 => lcR (fun _ => .ok true) (fun x4 : PySem.Str => (((inS x4 ("0123456789" : PySem.Str)).bind fun c5 => .ok (!c5)).bind fun a6 => .ok (a6, ())).bind fun p7 => .ok (if p7.1 = true then (1 : Int) else 0)) l8).bind fun a9 => .ok (a9, ())).bind fun p10 => .ok (List.sum p10.1)).bind fun a11 => .ok (decide ((0 : Int) < a11))) = .ok true := fun b hb => by
    cases b with
    | false => rfl
    | true =>
      have z := of_decide_eq_true hb.symm
      rw [if_neg (by simp)]
      have e : (chs w).length = w.length := by simp [chs, Str.length]
      rw [chk_ok (line_of (by rw [e]; omega))]
      show ((((lcR _ _ (chs w)).bind _).bind _).bind _) = _
      rw [lcs_law]
      show R.ok (decide (0 < (w.cps.toList.map fun c => if (!decide (c ∈ dgs)) = true then (1 : Int) else 0).sum)) = _
      rw [(sum_dg _).1]
      rcases h with h | h
      · exact absurd z h
      · show R.ok (!dgB w) = _
        rw [h]; rfl
  have e1 : (if pLe (1 : Int) (w.length : Int) = true then R.ok (pLe (w.length : Int) 4) else .ok false) = .ok (decide (1 ≤ w.length ∧ w.length ≤ 4)) := by
    unfold pLe
    by_cases h1 : 1 ≤ w.length
    · rw [if_pos (decide_eq_true (by omega))]
      congr 1
      rw [Bool.eq_iff_iff]; simp; omega
    · rw [if_neg (by simp; omega)]
      congr 1
      rw [Bool.eq_iff_iff]; simp; omega
  rw [e1]
  repeat (first | (with_reducible refine R.yes_bind ?_) | (with_reducible refine R.yes_noE ?_) | (with_reducible refine R.yes_bindSR ?_) | (with_reducible refine SR.yes_bindT ?_) | (with_reducible refine SR.yes_bindS ?_) | (with_reducible refine R.yes_ok ?_; try dsimp only) | (with_reducible refine SR.yes_nx ?_; try dsimp only))
  rw [go _ rfl]
  repeat (first | (with_reducible refine R.yes_bind ?_) | (with_reducible refine R.yes_noE ?_) | (with_reducible refine R.yes_bindSR ?_) | (with_reducible refine SR.yes_bindT ?_) | (with_reducible refine SR.yes_bindS ?_) | (with_reducible refine R.yes_ok ?_; try dsimp only) | (with_reducible refine SR.yes_nx ?_; try dsimp only))
  rfl
theorem law_num {w : Str} {n : Int} (hl : 1 ≤ w.length ∧ w.length ≤ 4) (hd : dgB w = true) (hi : PySem.intText? w = some n) (hn : n.natAbs.log2 < 1920) : f__law_number w = .ok (if nt n = w then some n else none) := by
  refine R.eq_of_yes ?_
  unfold f__law_number
  repeat (first | (with_reducible refine R.yes_bind ?_) | (with_reducible refine R.yes_noE ?_) | (with_reducible refine R.yes_bindSR ?_) | (with_reducible refine SR.yes_bindT ?_) | (with_reducible refine SR.yes_bindS ?_) | (with_reducible refine R.yes_ok ?_; try dsimp only) | (with_reducible refine SR.yes_nx ?_; try dsimp only))
  refine lenS_yes (by omega) ?_
  have e1 : (if pLe (1 : Int) (w.length : Int) = true then R.ok (pLe (w.length : Int) 4) else .ok false) = .ok true := by
    unfold pLe
    rw [if_pos (decide_eq_true (by omega)), decide_eq_true (by omega)]
  rw [e1]
  repeat (first | (with_reducible refine R.yes_bind ?_) | (with_reducible refine R.yes_noE ?_) | (with_reducible refine R.yes_bindSR ?_) | (with_reducible refine SR.yes_bindT ?_) | (with_reducible refine SR.yes_bindS ?_) | (with_reducible refine R.yes_ok ?_; try dsimp only) | (with_reducible refine SR.yes_nx ?_; try dsimp only))
  rw [if_neg (by simp)]
  have e : (chs w).length = w.length := by simp [chs, Str.length]
  repeat (first | (with_reducible refine R.yes_bind ?_) | (with_reducible refine R.yes_noE ?_) | (with_reducible refine R.yes_bindSR ?_) | (with_reducible refine SR.yes_bindT ?_) | (with_reducible refine SR.yes_bindS ?_) | (with_reducible refine R.yes_ok ?_; try dsimp only) | (with_reducible refine SR.yes_nx ?_; try dsimp only))
  refine R.yes_chk (line_of (by rw [e]; omega)) ?_
  rw [lcs_law]
  repeat (first | (with_reducible refine R.yes_bind ?_) | (with_reducible refine R.yes_noE ?_) | (with_reducible refine R.yes_bindSR ?_) | (with_reducible refine SR.yes_bindT ?_) | (with_reducible refine SR.yes_bindS ?_) | (with_reducible refine R.yes_ok ?_; try dsimp only) | (with_reducible refine SR.yes_nx ?_; try dsimp only))
  rw [(sum_dg _).1]
  have e2 : (w.cps.toList.all fun c => decide (c ∈ dgs)) = true := hd
  rw [e2, if_neg (by simp)]
  have e4 : intR w = .ok n := by
    unfold intR
    rw [if_pos (by omega), hi]; exact opt_some
  have e5 : strR n = .ok (nt n) := chk_ok hn
  repeat (first | (with_reducible refine R.yes_bind ?_) | (with_reducible refine R.yes_noE ?_) | (with_reducible refine R.yes_bindSR ?_) | (with_reducible refine SR.yes_bindT ?_) | (with_reducible refine SR.yes_bindS ?_) | (with_reducible refine R.yes_ok ?_; try dsimp only) | (with_reducible refine SR.yes_nx ?_; try dsimp only))
  rw [e4]
  repeat (first | (with_reducible refine R.yes_bind ?_) | (with_reducible refine R.yes_noE ?_) | (with_reducible refine R.yes_bindSR ?_) | (with_reducible refine SR.yes_bindT ?_) | (with_reducible refine SR.yes_bindS ?_) | (with_reducible refine R.yes_ok ?_; try dsimp only) | (with_reducible refine SR.yes_nx ?_; try dsimp only))
  rw [e5]
  repeat (first | (with_reducible refine R.yes_bind ?_) | (with_reducible refine R.yes_noE ?_) | (with_reducible refine R.yes_bindSR ?_) | (with_reducible refine SR.yes_bindT ?_) | (with_reducible refine SR.yes_bindS ?_) | (with_reducible refine R.yes_ok ?_; try dsimp only) | (with_reducible refine SR.yes_nx ?_; try dsimp only))
  by_cases hw : nt n = w
  · rw [if_pos (eqB_iff.mpr hw), if_pos hw]
    rfl
  · rw [if_neg (fun z => hw (eqB_iff.mp z)), if_neg hw]
    rfl
end T

namespace T
open PySem L2 L3
def NumRel (w : Str) (p q : Option Int) : Prop := (p = q ∧ ∀ n, q = some n → 0 ≤ n ∧ n < 1000 ∧ nt n = w) ∨ (p = none ∧ ∃ n, q = some n ∧ 150 ≤ n)
theorem dg_all {w : Str} (h : dgB w = true) : ∀ c ∈ w.cps.toList, 48 ≤ c ∧ c ≤ 57 := fun c hc => (dg_iff c).mp (of_decide_eq_true (List.all_eq_true.mp h c hc))
theorem mk_of {w : Str} {l : List Nat} (h : w.cps.toList = l) : w = ⟨l.toArray⟩ := TL.ext_tl h
theorem log_small {n : Int} (h0 : 0 ≤ n) (h1 : n < 100000) : n.natAbs.log2 < 1920 := by
  have hn : n.natAbs < 2 ^ 17 := by omega
  by_cases z : n.natAbs = 0
  · rw [z]; decide
  · have := (Nat.log2_lt z).mpr hn
    omega
theorem num_spec (w : Str) (hw : w.length ≤ 10000) : ∃ p q, f_number_in w 3 = .ok p ∧ f__law_number w = .ok q ∧ NumRel w p q := by
  have none_both : (f_number_in w 3 = .ok none ∧ f__law_number w = .ok none) → ∃ p q, f_number_in w 3 = .ok p ∧ f__law_number w = .ok q ∧ NumRel w p q := fun h => ⟨_, _, h.1, h.2, .inl ⟨rfl, fun n e => nomatch e⟩⟩
  by_cases hd : dgB w = true
  · have dg := dg_all hd
    have hlen := len_c w
    cases hl : w.cps.toList with
    | nil =>
      rw [hl] at hlen
      exact none_both ⟨prog_none hw (.inl (by rw [hlen]; simp)), law_none hw (.inl (by rw [hlen]; simp))⟩
    | cons a l1 =>
      have da := dg a (by rw [hl]; simp)
      have short : ∀ n : Int, 0 ≤ n → n < 1000 → w.length ≤ 3 → PySem.intText? w = some n → ((a = 48 ∧ 1 < w.length) ↔ ¬ nt n = w) → ∃ p q, f_number_in w 3 = .ok p ∧ f__law_number w = .ok q ∧ NumRel w p q := fun n n0 n1 l3 hi hz => by
        have l1 : 1 ≤ w.length := by rw [hlen, hl]; simp
        refine ⟨_, _, prog_some ⟨l1, l3⟩ hd hi (by rw [hl]; rfl), law_num ⟨l1, by omega⟩ hd hi (log_small n0 (by omega)), .inl ⟨?_, fun m hm => ?_⟩⟩
        · by_cases e : nt n = w
          · rw [if_pos e, if_neg fun z => hz.mp z e]
          · rw [if_neg e, if_pos (hz.mpr e)]
        · by_cases e : nt n = w
          · rw [if_pos e] at hm
            cases hm
            exact ⟨n0, n1, e⟩
          · rw [if_neg e] at hm
            cases hm
      cases l1 with
      | nil =>
        rw [hl] at hlen
        have ew : w = ⟨#[48 + (a - 48)]⟩ := by rw [show 48 + (a - 48) = a by omega]; exact mk_of hl
        have t := List.all_eq_true.mp tab1 (a - 48) (by simp; omega)
        simp only [Bool.and_eq_true, decide_eq_true_eq] at t
        rw [← ew] at t
        have h1 : w.length = 1 := by rw [hlen]; rfl
        refine short _ (by omega) (by omega) (by omega) t.1 ⟨fun z => absurd z.2 (by omega), fun z => absurd t.2 z⟩
      | cons b l2 =>
        have db := dg b (by rw [hl]; simp)
        cases l2 with
        | nil =>
          rw [hl] at hlen
          have e1 : 48 + (10 * (a - 48) + (b - 48)) / 10 = a := by omega
          have e2 : 48 + (10 * (a - 48) + (b - 48)) % 10 = b := by omega
          have t := List.all_eq_true.mp tab2 (10 * (a - 48) + (b - 48)) (by simp; omega)
          rw [e1, e2] at t
          have ew : w = ⟨#[a, b]⟩ := mk_of hl
          rw [← ew] at t
          simp only [Bool.and_eq_true, decide_eq_true_eq, beq_iff_eq] at t
          have h1 : w.length = 2 := by rw [hlen]; rfl
          refine short _ (by omega) (by omega) (by omega) t.1 ?_
          have t2 := t.2
          rw [Bool.eq_iff_iff] at t2
          simp only [decide_eq_true_eq, Bool.not_eq_true', decide_eq_false_iff_not] at t2
          rw [← t2]
          constructor
          · intro z; omega
          · intro z; exact ⟨by omega, by omega⟩
        | cons c l3 =>
          have dc := dg c (by rw [hl]; simp)
          cases l3 with
          | nil =>
            rw [hl] at hlen
            have e1 : 48 + (100 * (a - 48) + 10 * (b - 48) + (c - 48)) / 100 = a := by omega
            have e2 : 48 + (100 * (a - 48) + 10 * (b - 48) + (c - 48)) / 10 % 10 = b := by omega
            have e3 : 48 + (100 * (a - 48) + 10 * (b - 48) + (c - 48)) % 10 = c := by omega
            have t := List.all_eq_true.mp tab3 (100 * (a - 48) + 10 * (b - 48) + (c - 48)) (by simp; omega)
            rw [e1, e2, e3] at t
            have ew : w = ⟨#[a, b, c]⟩ := mk_of hl
            rw [← ew] at t
            simp only [Bool.and_eq_true, decide_eq_true_eq, beq_iff_eq] at t
            have h1 : w.length = 3 := by rw [hlen]; rfl
            refine short _ (by omega) (by omega) (by omega) t.1 ?_
            have t2 := t.2
            rw [Bool.eq_iff_iff] at t2
            simp only [decide_eq_true_eq, Bool.not_eq_true', decide_eq_false_iff_not] at t2
            rw [← t2]
            constructor
            · intro z; omega
            · intro z; exact ⟨by omega, by omega⟩
          | cons d l4 =>
            have dd := dg d (by rw [hl]; simp)
            rw [hl] at hlen
            have pn : f_number_in w 3 = .ok none := prog_none hw (.inl (by rw [hlen]; simp))
            cases l4 with
            | cons e l5 => exact none_both ⟨pn, law_none hw (.inl (by rw [hlen]; simp))⟩
            | nil =>
              have h4 : w.length = 4 := by rw [hlen]; rfl
              have hi := PySem.intText_digits (x := w) dg (by rw [hl]; simp) (by omega)
              have hv : PySem.NumText.digitsVal w.cps.toList = (((a - 48) * 10 + (b - 48)) * 10 + (c - 48)) * 10 + (d - 48) := by
                rw [hl]
                unfold PySem.NumText.digitsVal
                simp
              rw [hv] at hi
              refine ⟨_, _, pn, law_num ⟨by omega, by omega⟩ hd hi (log_small (by omega) (by omega)), ?_⟩
              by_cases hn : nt (((((a - 48) * 10 + (b - 48)) * 10 + (c - 48)) * 10 + (d - 48) : Nat) : Int) = w
              · rw [if_pos hn]
                refine .inr ⟨rfl, _, rfl, ?_⟩
                by_cases h150 : (((a - 48) * 10 + (b - 48)) * 10 + (c - 48)) * 10 + (d - 48) < 150
                · have t := of_decide_eq_true (List.all_eq_true.mp tab4 _ (by simp; exact h150))
                  rw [hn] at t
                  omega
                · omega
              · rw [if_neg hn]
                exact .inl ⟨rfl, fun n e => nomatch e⟩
  · have hd : dgB w = false := Bool.eq_false_iff.mpr hd
    exact none_both ⟨prog_none hw (.inr hd), law_none hw (.inr hd)⟩
end T

namespace T
open PySem L2 L3
theorem textFrom_le : ∀ (ts : List Str) (k : Nat) (acc : Str), (textFrom k acc ts).length ≤ acc.length + (ts.map fun t => t.length + 2).sum
  | [], _, _ => by simp [textFrom]
  | t :: ts, k, acc => by
    have ih := textFrom_le ts (k + 1) (acc ++ (if k > 0 then ", " else "" : String) ++ t)
    show (textFrom (k + 1) (acc ++ (if k > 0 then ", " else "" : String) ++ t) ts).length ≤ _
    rw [len_app, len_app] at ih
    have e : (((if k > 0 then ", " else "" : String) : Str)).length ≤ 2 := by split <;> decide
    simp only [List.map_cons, List.sum_cons]
    omega
theorem listText_le (ts : List Str) : (listText ts).length ≤ 2 + (ts.map fun t => t.length + 2).sum := by
  have := textFrom_le ts 0 "["
  unfold listText
  rw [len_app]
  have e1 : (("[" : Str)).length = 1 := rfl
  have e2 : (("]" : Str)).length = 1 := rfl
  omega
theorem shownAll_ints : ∀ xs : List Int, PyData.shownAll (xs.map PyData.int) = xs.map nt
  | [] => rfl
  | x :: xs => by rw [List.map_cons]; show PyData.shown (.int x) :: PyData.shownAll (xs.map PyData.int) = _; rw [shownAll_ints xs]; rfl
theorem lay_ints : ∀ xs : List Int, PyData.canLayAll0 (xs.map PyData.int) = true
  | [] => rfl
  | x :: xs => by rw [List.map_cons]; unfold PyData.canLayAll0; rw [lay_ints xs]; rfl
theorem depthAll_ints : ∀ xs : List Int, PyData.depthAll (xs.map PyData.int) = 0
  | [] => by simp [PyData.depthAll]
  | x :: xs => by rw [List.map_cons]; simp [PyData.depthAll, depthAll_ints xs, PyData.depth]
theorem showable_ints : ∀ {xs : List Int}, (∀ n ∈ xs, 0 ≤ n ∧ n < 1000) → PyData.showableAll (xs.map PyData.int) = true
  | [], _ => rfl
  | x :: xs, h => by
    rw [List.map_cons]
    unfold PyData.showableAll
    rw [showable_ints fun m hm => h m (List.mem_cons_of_mem _ hm)]
    have hx := h x List.mem_cons_self
    have : x.natAbs.log2 < 1920 := log_small hx.1 (by omega)
    simp [PyData.showable, this]
theorem repr_ok {xs : List Int} (hx : ∀ n ∈ xs, 0 ≤ n ∧ n < 1000) (hl : ((xs.map nt).map fun t => t.length + 2).sum ≤ 1000000) : reprD (.list (xs.map PyData.int)) = true := by
  have h3 : (PyData.list (xs.map PyData.int)).shown.length ≤ sizeLine := by
    show (listText (PyData.shownAll (xs.map PyData.int))).length ≤ _
    rw [shownAll_ints]
    have := listText_le (xs.map nt)
    exact line_of (by omega)
  unfold reprD
  simp only [Bool.and_eq_true, decide_eq_true_eq]
  refine ⟨⟨⟨⟨trivial, ?_⟩, ?_⟩, ?_⟩, h3⟩
  · simp [PyData.canLay0, lay_ints]
  · simp [PyData.showable, showable_ints hx]
  · simp [PyData.depth, depthAll_ints]
theorem map_some (xs : List Int) : (xs.map some).map (eO PyData.int) = xs.map PyData.int := by rw [List.map_map]; rfl
theorem told_ok {d : PyData} {l : List (Option Int)} (h : f_read_log d = .ok l) : f__law_told d = .ok (.list (l.map (eO PyData.int))) := by
  unfold f__law_told
  rw [h]; rfl
theorem told_err {d : PyData} (h : f_read_log d = .err ⟨"InvalidText", []⟩) : f__law_told d = .ok (.list [.str "InvalidText"]) := by
  unfold f__law_told
  rw [h]
  have e1 : mt_BacklinkError "InvalidText" = some true := by decide +kernel
  have e2 : kf "InvalidText" = some [("InvalidText" : Str)] := by decide +kernel
  show (SR.tryS (.err ⟨"InvalidText", []⟩) mt_BacklinkError _).bindT _ = _
  unfold SR.tryS
  dsimp only
  rw [e1, e2]
  dsimp only
  rw [opt_some]; rfl
theorem eq_it : eqR (.list [.str "InvalidText"]) (.list [.str "InvalidText"]) = .ok true := by
  have : eqN false (.list [.str "InvalidText"]) (.list [.str "InvalidText"]) = some true := by decide +kernel
  unfold eqR
  rw [this, opt_some]
theorem right_bad {d : PyData} (h : f_read_log d = .err ⟨"InvalidText", []⟩) (hd : isiD d "str" = false ∨ ∃ s, d = .str s ∧ f__law_log_of s = .ok none) : f__law_right d = .ok true := by
  unfold f__law_right
  rw [told_err h]
  have fin : ∀ o : Option (List (Option Int)), o = none → (if (isNoneD ((eO (eL (eO PyData.int))) o)) = true then eqR (eD (.list [.str "InvalidText"])) ((eL PyData.str) [("InvalidText" : PySem.Str)]) else R.bad) = .ok true := fun o e => by
    subst e
    exact eq_it
  rcases hd with hd | ⟨s, rfl, hs⟩
  · show ((if (isiD d "str") = true then _ else R.ok none).bind _) = _
    rw [hd]
    exact eq_it
  · show (((f__law_log_of s).noE.bind fun due_9 => R.ok due_9).bind _) = _
    rw [hs]
    exact eq_it
theorem right_good {s : Str} {ns : List Int} (h : f_read_log (.str s) = .ok (ns.map some)) (h2 : f__law_log_of s = .ok (some (ns.map some))) (h3 : f_show_log ns = .ok s) (h4 : reprD (.list (ns.map PyData.int)) = true) : f__law_right (.str s) = .ok true := by
  unfold f__law_right
  rw [told_ok h, map_some]
  show (((f__law_log_of s).noE.bind fun due_9 => R.ok due_9).bind _) = _
  rw [h2]
  show ((R.bind (reprR (.list (ns.map PyData.int))) _).bind _) = _
  have e1 : reprR (.list (ns.map PyData.int)) = .ok (PyData.list (ns.map PyData.int)).shown := chk_ok h4
  rw [e1]
  show ((R.bind (reprR (.list ((ns.map some).map (eO PyData.int)))) _).bind _) = _
  rw [map_some, e1]
  show (if eqB (PyData.list (ns.map PyData.int)).shown (PyData.list (ns.map PyData.int)).shown = true then _ else R.ok false) = _
  rw [if_pos (eqB_iff.mpr rfl)]
  show (R.bind (R.bind (R.bind (asLI (.list (ns.map PyData.int))) _) _) _) = _
  rw [asLI_map]
  show (R.bind (f_show_log ns).noE _) = _
  rw [h3]
  show opt (some (decide (s = s))) = _
  rw [opt_some, decide_eq_true rfl]
theorem law_len {ys : List (Option Int)} (h : lenB ys.length = false) : f__law_is_log ys = .ok false := by
  unfold f__law_is_log
  rw [len_guard, h]; rfl
theorem cut1 {α : Type} (xs : List α) : cutL xs (some 1) none = xs.drop 1 := by
  have h1 : HT.sIx xs.length 0 (some 1) = min 1 xs.length := HT.sIx_nat _ 0 1
  unfold cutL
  rw [h1]
  show (xs.drop (min 1 xs.length)).take (xs.length - min 1 xs.length) = _
  rw [List.take_of_length_le (by rw [List.length_drop]; omega)]
  by_cases h : 1 ≤ xs.length
  · rw [Nat.min_eq_left h]
  · have : xs = [] := List.eq_nil_of_length_eq_zero (by omega)
    subst this; rfl
theorem right_dash : f__law_right (.str "-") = .ok true := by
  have e0 : (opt (some (decide (("-" : Str) = "-"))) : R Bool) = .ok true := by rw [opt_some, decide_eq_true rfl]
  refine right_good (ns := [0]) ?_ ?_ ?_ ?_
  · unfold f_read_log
    show (R.bind (opt (some (decide (("-" : Str) = "-")))) _) = _
    rw [e0]; rfl
  · unfold f__law_log_of
    exact if_pos (eqB_iff.mpr rfl)
  · unfold f_show_log f_need_log
    rw [is_log_ok]
    have : logB [0] = true := by decide +kernel
    rw [this]; rfl
  · exact repr_ok (xs := [0]) (by simp) (by decide +kernel)
end T
namespace T
open PySem L2 L3
theorem eq_strs (s t : Str) : eqR (.str s) (.str t) = .ok (decide (s = t)) := by
  show opt (some (decide (s = t))) = _
  rw [opt_some]
theorem right_str (s : Str) (hs : s.length ≤ 5000) : f__law_right (.str s) = .ok true := by
  by_cases hd : s = "-"
  · rw [hd]; exact right_dash
  obtain ⟨ws, hw⟩ := words_of s
  have wl := hw.len
  have sp1 : ((" " : Str)).length = 1 := by decide +kernel
  have wlen : ∀ w ∈ ws, w.length ≤ 10000 := fun w hm => by have := le_sumL hm; omega
  have spec : ∀ w : Str, ∃ pq : Option Int × Option Int, w.length ≤ 10000 → f_number_in w 3 = .ok pq.1 ∧ f__law_number w = .ok pq.2 ∧ NumRel w pq.1 pq.2 := fun w => by
    by_cases h : w.length ≤ 10000
    · obtain ⟨p, q, h1⟩ := num_spec w h
      exact ⟨(p, q), fun _ => h1⟩
    · exact ⟨(none, none), fun z => absurd z h⟩
  let P : Str → Option Int × Option Int := fun w => (spec w).choose
  have hP : ∀ w ∈ ws, f_number_in w 3 = .ok (P w).1 ∧ f__law_number w = .ok (P w).2 ∧ NumRel w (P w).1 (P w).2 := fun w hm => (spec w).choose_spec (wlen w hm)
  have sp : splitR s " " = .ok ws := by
    unfold splitR
    rw [chk_ok ⟨by rw [sp1]; rfl, line_of (by omega)⟩, hw.split]
  have nin : f_numbers_in ws = .ok (if memB none (ws.map fun w => (P w).1) = true then none else some (ws.map fun w => (P w).1)) := by
    unfold f_numbers_in
    rw [chk_ok (line_of (by omega))]
    show ((lcR _ _ ws).bind _) = _
    rw [lcR_map (G := fun w => (P w).1) fun w hm => by rw [(hP w hm).1]; rfl]
    rfl
  have read0 : f_read_log (.str s) = ((R.ok (if memB none (ws.map fun w => (P w).1) = true then none else some (ws.map fun w => (P w).1))).bind fun links_9 => ((if (isNoneD ((eO (eL (eO PyData.int))) links_9)) = true then .ok true else ((((opt links_9).bind fun a15 => catL [(some (0 : Int))] a15).bind fun a16 => .ok (a16, ())).bind fun p18 => f_is_logD ((eL (eO PyData.int)) p18.1)).bind fun a19 => .ok (!a19))).bind fun c20 => (if c20 = true then .err ⟨"InvalidText", []⟩ else (opt links_9).bind fun a22 => catL [(some (0 : Int))] a22)) := by
    unfold f_read_log
    show ((eqR (.str s) (.str "-")).bind _) = _
    rw [eq_strs, decide_eq_false hd]
    show (R.bind (R.bind (R.bind (splitR s " ") _) _) _) = _
    rw [sp]
    show ((f_numbers_in ws).bind _) = _
    rw [nin]
  have law0 : f__law_log_of s = ((catL [some (0 : Int)] (ws.map fun w => (P w).2)).bind fun links_13 => ((f__law_is_log links_13).noE).bind fun a16 => (if a16 = true then .ok (some links_13) else .ok none)) := by
    unfold f__law_log_of
    rw [if_neg (fun z => hd (eqB_iff.mp z))]
    show ((R.bind (R.bind (R.bind (splitR s " ") _) _) _).bind _) = _
    rw [sp]
    show ((R.bind (R.bind (chk (ws.length ≤ sizeLine) ws) _) _).bind _) = _
    rw [chk_ok (line_of (by omega))]
    show ((R.bind (lcR _ _ ws) _).bind _) = _
    rw [lcR_map (G := fun w => (P w).2) fun w hm => by rw [(hP w hm).2.1]; rfl]
    rfl
  have cat : ∀ l : List (Option Int), l.length = ws.length → catL [some (0 : Int)] l = .ok (some 0 :: l) := fun l hl => chk_ok (line_of (by rw [List.length_singleton, hl]; omega))
  by_cases hn : none ∈ ws.map fun w => (P w).1
  · have hr : f_read_log (.str s) = .err ⟨"InvalidText", []⟩ := by
      rw [read0, if_pos (memB_iff.mpr hn)]; rfl
    refine right_bad hr (.inr ⟨s, rfl, ?_⟩)
    rw [law0, cat _ (by rw [List.length_map])]
    have hf : f__law_is_log (some 0 :: ws.map fun w => (P w).2) = .ok false := by
      by_cases hlen : lenB (some 0 :: ws.map fun w => (P w).2).length = true
      · obtain ⟨w, hm, e⟩ := List.mem_map.mp hn
        obtain ⟨_, _, rel⟩ := hP w hm
        have hq : (P w).2 = none ∨ ∃ n, (P w).2 = some n ∧ 150 ≤ n := by
          rcases rel with ⟨h1, _⟩ | ⟨_, h2⟩
          · exact .inl (by rw [← h1]; exact e)
          · exact .inr h2
        have hmem : (P w).2 ∈ (some (0 : Int) :: ws.map fun w => (P w).2) := List.mem_cons_of_mem _ (List.mem_map.mpr ⟨w, hm, rfl⟩)
        obtain ⟨i, hi⟩ := List.getElem?_of_mem hmem
        have hil := (List.getElem?_eq_some_iff.mp hi).1
        have hin : ((i : Int), (P w).2) ∈ enumI (some (0 : Int) :: ws.map fun w => (P w).2) := by
          refine List.mem_of_getElem? (i := i) ?_
          unfold enumI
          rw [List.getElem?_zipWith, List.getElem?_range hil, hi]
        refine law_not ⟨_, hin, ?_⟩
        unfold lenB at hlen
        simp only [Bool.and_eq_true, decide_eq_true_eq] at hlen
        rcases hq with h | ⟨n, h, hb⟩
        · rw [h]; rfl
        · rw [h]
          show (decide (0 ≤ n) && decide (n ≤ max 0 ((i : Int) - 1))) = false
          rw [decide_eq_false (show ¬ n ≤ max 0 ((i : Int) - 1) by omega), Bool.and_false]
      · exact law_len (Bool.eq_false_iff.mpr hlen)
    show ((f__law_is_log (some 0 :: ws.map fun w => (P w).2)).noE.bind _) = _
    rw [hf]; rfl
  · have good : ∀ w ∈ ws, ∃ n, (P w).1 = some n ∧ (P w).2 = some n ∧ 0 ≤ n ∧ n < 1000 ∧ nt n = w := fun w hm => by
      obtain ⟨_, _, rel⟩ := hP w hm
      rcases rel with ⟨h1, h2⟩ | ⟨h1, _⟩
      · cases hq : (P w).2 with
        | none => exact absurd (List.mem_map.mpr ⟨w, hm, h1.trans hq⟩) hn
        | some n =>
          obtain ⟨n0, n1, n2⟩ := h2 n hq
          exact ⟨n, h1.trans hq, rfl, n0, n1, n2⟩
      · exact absurd (List.mem_map.mpr ⟨w, hm, h1⟩) hn
    let N : Str → Int := fun w => (P w).1.getD 0
    have hN : ∀ w ∈ ws, (P w).1 = some (N w) ∧ (P w).2 = some (N w) ∧ 0 ≤ N w ∧ N w < 1000 ∧ nt (N w) = w := fun w hm => by
      obtain ⟨n, h1, h2, h3⟩ := good w hm
      have e : N w = n := by show (P w).1.getD 0 = n; rw [h1]; rfl
      rw [e]
      exact ⟨h1, h2, h3⟩
    have m1 : (ws.map fun w => (P w).1) = (ws.map N).map some := by
      rw [List.map_map]; exact List.map_congr_left fun w hm => (hN w hm).1
    have m2 : (ws.map fun w => (P w).2) = (ws.map N).map some := by
      rw [List.map_map]; exact List.map_congr_left fun w hm => (hN w hm).2.1
    have m3 : (ws.map N).map nt = ws := by
      rw [List.map_map]
      exact (List.map_congr_left fun w hm => (hN w hm).2.2.2.2).trans (List.map_id _)
    have read1 : f_read_log (.str s) = ((f_is_logD (.list ((0 :: ws.map N).map PyData.int))).bind fun a19 => R.ok (!a19)).bind fun c20 => (if c20 = true then .err ⟨"InvalidText", []⟩ else .ok ((0 :: ws.map N).map some)) := by
      rw [read0, if_neg (fun z => hn (memB_iff.mp z)), m1]
      show ((R.bind (R.bind (R.bind (R.bind (opt (some ((ws.map N).map some))) _) _) _) _).bind _) = _
      rw [opt_some]
      show ((R.bind (R.bind (R.bind (catL [some 0] ((ws.map N).map some)) _) _) _).bind fun c20 => (if c20 = true then .err ⟨"InvalidText", []⟩ else catL [some 0] ((ws.map N).map some))) = _
      rw [cat _ (by rw [List.length_map, List.length_map])]
      show ((R.bind (f_is_logD (.list (((0 :: ws.map N).map some).map (eO PyData.int)))) _).bind _) = _
      rw [map_some]; rfl
    rw [is_logD_ok] at read1
    have law1 : f__law_log_of s = if logB (0 :: ws.map N) = true then .ok (some ((0 :: ws.map N).map some)) else .ok none := by
      rw [law0, m2, cat _ (by rw [List.length_map, List.length_map])]
      show ((f__law_is_log ((0 :: ws.map N).map some)).noE.bind _) = _
      rw [law_log]; rfl
    cases hb : logB (0 :: ws.map N) with
    | false =>
      rw [hb] at read1 law1
      exact right_bad read1 (.inr ⟨s, rfl, law1⟩)
    | true =>
      rw [hb] at read1 law1
      have small : ∀ n ∈ (0 :: ws.map N), 0 ≤ n ∧ n < 1000 := fun n hm => by
        rcases List.mem_cons.mp hm with rfl | hm
        · decide
        · obtain ⟨w, hw2, rfl⟩ := List.mem_map.mp hm
          exact ⟨(hN w hw2).2.2.1, (hN w hw2).2.2.2.1⟩
      refine right_good read1 law1 ?_ (repr_ok small ?_)
      · unfold f_show_log f_need_log
        rw [is_log_ok, hb]
        show f_log_text (0 :: ws.map N) = _
        unfold f_log_text
        have wn : 1 ≤ ws.length := List.length_pos_iff.mpr hw.ne
        rw [if_pos (decide_eq_true (by rw [List.length_cons, List.length_map]; omega)), cut1]
        show ((R.bind (chk ((ws.map N).length ≤ sizeLine) (ws.map N)) _).bind _) = _
        rw [chk_ok (line_of (by rw [List.length_map]; omega))]
        show ((lcR _ _ (ws.map N)).bind _) = _
        rw [lcR_map (G := nt) fun n hm => by
          have := small n (List.mem_cons_of_mem _ hm)
          exact chk_ok (log_small this.1 (by omega)), m3]
        show joinR " " ws = _
        unfold joinR
        rw [chk_ok (by rw [sp1]; show sumL ws + _ ≤ _; omega), hw.join]
      · rw [List.map_cons, m3, List.map_cons, List.sum_cons]
        have e0 : (nt 0).length = 1 := by decide +kernel
        have e1 : ∀ l : List Str, (l.map fun t => t.length + 2).sum = sumL l + 2 * l.length := fun l => by
          induction l with
          | nil => rfl
          | cons x l ih =>
            unfold sumL at ih ⊢
            rw [List.map_cons, List.sum_cons, List.map_cons, List.sum_cons, List.length_cons, ih]
            omega
        rw [e0, e1]
        omega
end T

namespace T
open PySem L2 L3
def oddB (d : PyData) : Bool := match d with
  | .str s => decide (s.length ≤ 100)
  | d => decide (eqN false d (.str "-") = some false) && !(isiD d "str")
def Odds (xs : List PyData) : Prop := ∀ x ∈ xs, oddB x = true
theorem Odds.app {xs ys : List PyData} (h : Odds xs) (k : Odds ys) : Odds (xs ++ ys) := fun x hx => (List.mem_append.mp hx).elim (h x) (k x)
theorem right_odd {d : PyData} (h : oddB d = true) : f__law_right d = .ok true := by
  have non : (∀ s, d ≠ .str s) → f__law_right d = .ok true := fun hn => by
    have h2 : eqN false d (.str "-") = some false ∧ isiD d "str" = false := by
      unfold oddB at h
      split at h
      · rename_i s; exact absurd rfl (hn s)
      · simpa using h
    refine right_bad ?_ (.inl h2.2)
    unfold f_read_log
    show ((opt (eqN false d (.str "-"))).bind _) = _
    rw [h2.1, opt_some]
    show ((if isiD d "str" = true then _ else R.ok none).bind _) = _
    rw [h2.2]; rfl
  cases d with
  | str s => exact right_str s (by have : s.length ≤ 100 := of_decide_eq_true h; omega)
  | _ => exact non fun s e => nomatch e
theorem odd_yes {r : List Int} {m : Int} (h : Reel m r) (hm : m < 10 ^ 12) : (f__law_odd r).yes fun p => oddB p.1 = true ∧ Reel (m + 1) p.2 := by
  unfold f__law_odd
  rw [pow10 (by omega) (by omega)]
  repeat (first | (with_reducible refine R.yes_bind ?_) | (with_reducible refine R.yes_noE ?_) | (with_reducible refine R.yes_bindSR ?_) | (with_reducible refine SR.yes_bindT ?_) | (with_reducible refine SR.yes_bindS ?_) | (with_reducible refine R.yes_ok ?_; try dsimp only) | (with_reducible refine SR.yes_nx ?_; try dsimp only))
  refine catL_yes (by simp) ?_
  repeat (first | (with_reducible refine R.yes_bind ?_) | (with_reducible refine R.yes_noE ?_) | (with_reducible refine R.yes_bindSR ?_) | (with_reducible refine SR.yes_bindT ?_) | (with_reducible refine SR.yes_bindS ?_) | (with_reducible refine R.yes_ok ?_; try dsimp only) | (with_reducible refine SR.yes_nx ?_; try dsimp only))
  refine R.yes_chk ⟨by decide, by decide, line_of (by show 1 * 151 ≤ 16777216; decide)⟩ ?_
  repeat (first | (with_reducible refine R.yes_bind ?_) | (with_reducible refine R.yes_noE ?_) | (with_reducible refine R.yes_bindSR ?_) | (with_reducible refine SR.yes_bindT ?_) | (with_reducible refine SR.yes_bindS ?_) | (with_reducible refine R.yes_ok ?_; try dsimp only) | (with_reducible refine SR.yes_nx ?_; try dsimp only))
  refine catL_yes (by simp) ?_
  repeat (first | (with_reducible refine R.yes_bind ?_) | (with_reducible refine R.yes_noE ?_) | (with_reducible refine R.yes_bindSR ?_) | (with_reducible refine SR.yes_bindT ?_) | (with_reducible refine SR.yes_bindS ?_) | (with_reducible refine R.yes_ok ?_; try dsimp only) | (with_reducible refine SR.yes_nx ?_; try dsimp only))
  refine (turn_yes h (by omega) (show (0 : Int) < ((38 : Nat) : Int) by decide) (show ((38 : Nat) : Int) < 10 ^ 9 by decide)).imp fun p1 ⟨a1, h1⟩ => ?_
  repeat (first | (with_reducible refine R.yes_bind ?_) | (with_reducible refine R.yes_noE ?_) | (with_reducible refine R.yes_bindSR ?_) | (with_reducible refine SR.yes_bindT ?_) | (with_reducible refine SR.yes_bindS ?_) | (with_reducible refine R.yes_ok ?_; try dsimp only) | (with_reducible refine SR.yes_nx ?_; try dsimp only))
  refine atR_yes a1.1 a1.2 fun v hv => ?_
  repeat (first | (with_reducible refine R.yes_bind ?_) | (with_reducible refine R.yes_noE ?_) | (with_reducible refine R.yes_bindSR ?_) | (with_reducible refine SR.yes_bindT ?_) | (with_reducible refine SR.yes_bindS ?_) | (with_reducible refine R.yes_ok ?_; try dsimp only) | (with_reducible refine SR.yes_nx ?_; try dsimp only))
  refine ⟨?_, h1⟩
  rcases List.mem_append.mp hv with hv | hv
  · rcases List.mem_append.mp hv with hv | hv
    · simp only [List.mem_cons, List.not_mem_nil, or_false] at hv
      rcases hv with rfl | rfl | rfl | rfl | rfl | rfl | rfl | rfl | rfl | rfl | rfl | rfl | rfl | rfl | rfl | rfl | rfl | rfl <;> decide +kernel
    · simp only [List.mem_cons, List.not_mem_nil, or_false] at hv
      rcases hv with rfl | rfl | rfl | rfl | rfl | rfl | rfl | rfl | rfl | rfl <;> decide +kernel
  · simp only [List.mem_cons, List.not_mem_nil, or_false] at hv
    rcases hv with rfl | rfl | rfl | rfl | rfl | rfl | rfl | rfl | rfl | rfl <;> decide +kernel
theorem log_text_yes {xs : List Int} (h : Sm xs) (hl : xs.length ≤ 150) : (f__law_log_text xs).yes fun x => x.length ≤ 5000 := by
  unfold f__law_log_text
  refine R.yes_if (fun _ => ?_) fun _ => ?_
  · rw [cut1]
    repeat (first | (with_reducible refine R.yes_bind ?_) | (with_reducible refine R.yes_noE ?_) | (with_reducible refine R.yes_bindSR ?_) | (with_reducible refine SR.yes_bindT ?_) | (with_reducible refine SR.yes_bindS ?_) | (with_reducible refine R.yes_ok ?_; try dsimp only) | (with_reducible refine SR.yes_nx ?_; try dsimp only))
    refine R.yes_chk (line_of (by rw [List.length_drop]; omega)) ?_
    rw [lcR_map (G := nt) fun n hn => by
      have := h n (List.mem_of_mem_drop hn)
      exact chk_ok (log_small this.1 (by omega))]
    repeat (first | (with_reducible refine R.yes_bind ?_) | (with_reducible refine R.yes_noE ?_) | (with_reducible refine R.yes_bindSR ?_) | (with_reducible refine SR.yes_bindT ?_) | (with_reducible refine SR.yes_bindS ?_) | (with_reducible refine R.yes_ok ?_; try dsimp only) | (with_reducible refine SR.yes_nx ?_; try dsimp only))
    have hs : ∀ l : List Int, Sm l → sumL (l.map nt) ≤ 3 * l.length := fun l hl => by
      induction l with
      | nil => simp [sumL]
      | cons n l ih =>
        have h0 := hl n List.mem_cons_self
        have t := of_decide_eq_true (List.all_eq_true.mp tab4 n.toNat (by simp; omega))
        rw [Int.toNat_of_nonneg h0.1] at t
        have := ih fun m hm => hl m (List.mem_cons_of_mem _ hm)
        unfold sumL at this ⊢
        rw [List.map_cons, List.map_cons, List.sum_cons, List.length_cons]
        omega
    have h2 := hs (xs.drop 1) fun n hn => h n (List.mem_of_mem_drop hn)
    rw [List.length_drop] at h2
    refine joinR_yes (by rw [List.length_map, List.length_drop]; omega) fun x hx => ?_
    rw [List.length_map, List.length_drop] at hx
    omega
  · refine R.yes_ok ?_
    decide +kernel
theorem cut3900 {z : Str} {P : Str → Prop} (h : z.length ≤ 16777216) (k : ∀ x, x.length ≤ 3900 → P x) : (cutR z none (some 3900)).yes P := by
  refine R.yes_chk (line_of h) (k _ ?_)
  unfold cutS
  rw [TL.len_tl]
  have e : HT.sIx z.length z.length (some 3900) = min 3900 z.length := HT.sIx_nat _ _ 3900
  simp
  omega
theorem law_true (ns : List Int) (h : ns.length ≤ 63) : f_law ns = .ok true := by
  refine R.eq_of_yes ?_
  unfold f_law
  repeat (first | (with_reducible refine R.yes_bind ?_) | (with_reducible refine R.yes_noE ?_) | (with_reducible refine R.yes_bindSR ?_) | (with_reducible refine SR.yes_bindT ?_) | (with_reducible refine SR.yes_bindS ?_) | (with_reducible refine R.yes_ok ?_; try dsimp only) | (with_reducible refine SR.yes_nx ?_; try dsimp only))
  refine R.yes_eq (rngR_ok (by omega) (by omega) (by omega) (by omega)) ?_
  repeat (first | (with_reducible refine R.yes_bind ?_) | (with_reducible refine R.yes_noE ?_) | (with_reducible refine R.yes_bindSR ?_) | (with_reducible refine SR.yes_bindT ?_) | (with_reducible refine SR.yes_bindS ?_) | (with_reducible refine R.yes_ok ?_; try dsimp only) | (with_reducible refine SR.yes_nx ?_; try dsimp only))
  refine (forL_inv (fun _ => True) trivial fun x s hx _ => ?_).imp (fun _ _ => ?_) fun p hp => hp
  · have hx := rangeI_mem.mp hx
    repeat (first | (with_reducible refine R.yes_bind ?_) | (with_reducible refine R.yes_noE ?_) | (with_reducible refine R.yes_bindSR ?_) | (with_reducible refine SR.yes_bindT ?_) | (with_reducible refine SR.yes_bindS ?_) | (with_reducible refine R.yes_ok ?_; try dsimp only) | (with_reducible refine SR.yes_nx ?_; try dsimp only))
    refine (reel_yes (by omega) (by omega)).imp fun r hr => ?_
    repeat (first | (with_reducible refine R.yes_bind ?_) | (with_reducible refine R.yes_noE ?_) | (with_reducible refine R.yes_bindSR ?_) | (with_reducible refine SR.yes_bindT ?_) | (with_reducible refine SR.yes_bindS ?_) | (with_reducible refine R.yes_ok ?_; try dsimp only) | (with_reducible refine SR.yes_nx ?_; try dsimp only))
    refine R.yes_eq (rngR_ok (by omega) (by omega) (by omega) (by omega)) ?_
    repeat (first | (with_reducible refine R.yes_bind ?_) | (with_reducible refine R.yes_noE ?_) | (with_reducible refine R.yes_bindSR ?_) | (with_reducible refine SR.yes_bindT ?_) | (with_reducible refine SR.yes_bindS ?_) | (with_reducible refine R.yes_ok ?_; try dsimp only) | (with_reducible refine SR.yes_nx ?_; try dsimp only))
    refine (forL_yes (fun j s => Reel (3000 * j) s) (rangeI 0 10) 0 r (fun j t s ht hs => ?_) (by simpa using hr)).imp (fun _ _ => trivial) fun p hp => hp
    obtain ⟨et, t0, t1⟩ := rangeI_get ht
    rw [Nat.zero_add] at hs ⊢
    repeat (first | (with_reducible refine R.yes_bind ?_) | (with_reducible refine R.yes_noE ?_) | (with_reducible refine R.yes_bindSR ?_) | (with_reducible refine SR.yes_bindT ?_) | (with_reducible refine SR.yes_bindS ?_) | (with_reducible refine R.yes_ok ?_; try dsimp only) | (with_reducible refine SR.yes_nx ?_; try dsimp only))
    refine atR_yes (by split <;> decide) (by split <;> decide) fun v hv => ?_
    have hv2 : 20 ≤ v ∧ v ≤ 150 := by
      simp only [List.mem_cons, List.not_mem_nil, or_false] at hv
      omega
    repeat (first | (with_reducible refine R.yes_bind ?_) | (with_reducible refine R.yes_noE ?_) | (with_reducible refine R.yes_bindSR ?_) | (with_reducible refine SR.yes_bindT ?_) | (with_reducible refine SR.yes_bindS ?_) | (with_reducible refine R.yes_ok ?_; try dsimp only) | (with_reducible refine SR.yes_nx ?_; try dsimp only))
    refine (turn_yes hs (by omega) (by omega) (by omega)).imp fun p1 ⟨a1, h1⟩ => ?_
    repeat (first | (with_reducible refine R.yes_bind ?_) | (with_reducible refine R.yes_noE ?_) | (with_reducible refine R.yes_bindSR ?_) | (with_reducible refine SR.yes_bindT ?_) | (with_reducible refine SR.yes_bindS ?_) | (with_reducible refine R.yes_ok ?_; try dsimp only) | (with_reducible refine SR.yes_nx ?_; try dsimp only))
    refine atR_yes a1.1 (by simpa using a1.2) fun u hu => ?_
    have hu2 : 4 ≤ u ∧ u ≤ 150 := by
      simp only [List.mem_cons, List.not_mem_nil, or_false] at hu
      omega
    repeat (first | (with_reducible refine R.yes_bind ?_) | (with_reducible refine R.yes_noE ?_) | (with_reducible refine R.yes_bindSR ?_) | (with_reducible refine SR.yes_bindT ?_) | (with_reducible refine SR.yes_bindS ?_) | (with_reducible refine R.yes_ok ?_; try dsimp only) | (with_reducible refine SR.yes_nx ?_; try dsimp only))
    refine (turn_yes h1 (by omega) (by omega) (by omega)).imp fun p2 ⟨a2, h2⟩ => ?_
    repeat (first | (with_reducible refine R.yes_bind ?_) | (with_reducible refine R.yes_noE ?_) | (with_reducible refine R.yes_bindSR ?_) | (with_reducible refine SR.yes_bindT ?_) | (with_reducible refine SR.yes_bindS ?_) | (with_reducible refine R.yes_ok ?_; try dsimp only) | (with_reducible refine SR.yes_nx ?_; try dsimp only))
    refine (grown_yes h2 (by omega) (by omega) (by omega)).imp fun p3 ⟨⟨a3, b3⟩, h3⟩ => ?_
    repeat (first | (with_reducible refine R.yes_bind ?_) | (with_reducible refine R.yes_noE ?_) | (with_reducible refine R.yes_bindSR ?_) | (with_reducible refine SR.yes_bindT ?_) | (with_reducible refine SR.yes_bindS ?_) | (with_reducible refine R.yes_ok ?_; try dsimp only) | (with_reducible refine SR.yes_nx ?_; try dsimp only))
    refine (log_text_yes a3 (by omega)).imp fun txt ltxt => ?_
    repeat (first | (with_reducible refine R.yes_bind ?_) | (with_reducible refine R.yes_noE ?_) | (with_reducible refine R.yes_bindSR ?_) | (with_reducible refine SR.yes_bindT ?_) | (with_reducible refine SR.yes_bindS ?_) | (with_reducible refine R.yes_ok ?_; try dsimp only) | (with_reducible refine SR.yes_nx ?_; try dsimp only))
    refine R.yes_eq (rngR_ok (by omega) (by omega) (by omega) (by omega)) ?_
    repeat (first | (with_reducible refine R.yes_bind ?_) | (with_reducible refine R.yes_noE ?_) | (with_reducible refine R.yes_bindSR ?_) | (with_reducible refine SR.yes_bindT ?_) | (with_reducible refine SR.yes_bindS ?_) | (with_reducible refine R.yes_ok ?_; try dsimp only) | (with_reducible refine SR.yes_nx ?_; try dsimp only))
    refine (foldR_yes (fun i (s : List Int × Str) => Reel (3000 * j + 2002 + 10 * i) s.1 ∧ s.2.length ≤ 5000) (rangeI 0 (min t 3)) 0 (p3.2, txt) (fun i x s hx ⟨i1, i2⟩ => ?_) ⟨h3.up (by omega), ltxt⟩).imp fun s4 ⟨h4, l4⟩ => ?_
    · have hi := rangeI_get hx
      rw [Nat.zero_add] at i1 ⊢
      repeat (first | (with_reducible refine R.yes_bind ?_) | (with_reducible refine R.yes_noE ?_) | (with_reducible refine R.yes_bindSR ?_) | (with_reducible refine SR.yes_bindT ?_) | (with_reducible refine SR.yes_bindS ?_) | (with_reducible refine R.yes_ok ?_; try dsimp only) | (with_reducible refine SR.yes_nx ?_; try dsimp only))
      refine (changed_yes i1 (by omega) i2).imp fun p5 ⟨l5, h5⟩ => ?_
      repeat (first | (with_reducible refine R.yes_bind ?_) | (with_reducible refine R.yes_noE ?_) | (with_reducible refine R.yes_bindSR ?_) | (with_reducible refine SR.yes_bindT ?_) | (with_reducible refine SR.yes_bindS ?_) | (with_reducible refine R.yes_ok ?_; try dsimp only) | (with_reducible refine SR.yes_nx ?_; try dsimp only))
      refine cut3900 (by omega) fun y ly => ?_
      repeat (first | (with_reducible refine R.yes_bind ?_) | (with_reducible refine R.yes_noE ?_) | (with_reducible refine R.yes_bindSR ?_) | (with_reducible refine SR.yes_bindT ?_) | (with_reducible refine SR.yes_bindS ?_) | (with_reducible refine R.yes_ok ?_; try dsimp only) | (with_reducible refine SR.yes_nx ?_; try dsimp only))
      exact ⟨h5.up (by push_cast; omega), by omega⟩
    · rw [Nat.zero_add, rangeI_len] at h4
      repeat (first | (with_reducible refine R.yes_bind ?_) | (with_reducible refine R.yes_noE ?_) | (with_reducible refine R.yes_bindSR ?_) | (with_reducible refine SR.yes_bindT ?_) | (with_reducible refine SR.yes_bindS ?_) | (with_reducible refine R.yes_ok ?_; try dsimp only) | (with_reducible refine SR.yes_nx ?_; try dsimp only))
      refine (odd_yes h4 (by omega)).imp fun p6 ⟨o6, h6⟩ => ?_
      repeat (first | (with_reducible refine R.yes_bind ?_) | (with_reducible refine R.yes_noE ?_) | (with_reducible refine R.yes_bindSR ?_) | (with_reducible refine SR.yes_bindT ?_) | (with_reducible refine SR.yes_bindS ?_) | (with_reducible refine R.yes_ok ?_; try dsimp only) | (with_reducible refine SR.yes_nx ?_; try dsimp only))
      rw [right_str _ l4]
      repeat (first | (with_reducible refine R.yes_bind ?_) | (with_reducible refine R.yes_noE ?_) | (with_reducible refine R.yes_bindSR ?_) | (with_reducible refine SR.yes_bindT ?_) | (with_reducible refine SR.yes_bindS ?_) | (with_reducible refine R.yes_ok ?_; try dsimp only) | (with_reducible refine SR.yes_nx ?_; try dsimp only))
      rw [if_neg (by simp), right_odd o6]
      repeat (first | (with_reducible refine R.yes_bind ?_) | (with_reducible refine R.yes_noE ?_) | (with_reducible refine R.yes_bindSR ?_) | (with_reducible refine SR.yes_bindT ?_) | (with_reducible refine SR.yes_bindS ?_) | (with_reducible refine R.yes_ok ?_; try dsimp only) | (with_reducible refine SR.yes_nx ?_; try dsimp only))
      rw [if_neg (by simp)]
      exact h6.up (by push_cast; omega)
  · repeat (first | (with_reducible refine R.yes_bind ?_) | (with_reducible refine R.yes_noE ?_) | (with_reducible refine R.yes_bindSR ?_) | (with_reducible refine SR.yes_bindT ?_) | (with_reducible refine SR.yes_bindS ?_) | (with_reducible refine R.yes_ok ?_; try dsimp only) | (with_reducible refine SR.yes_nx ?_; try dsimp only))
    refine R.yes_chk ⟨by decide, by decide, line_of (by show 1 * 149 ≤ 16777216; decide)⟩ ?_
    have e1 : sumL (List.replicate (149 : Int).toNat [("0" : Str)]).flatten + (List.replicate (149 : Int).toNat [("0" : Str)]).flatten.length ≤ 1000 := by decide +kernel
    refine joinR_yes (by omega) fun y ly => ?_
    have sp0 : ((" 0" : Str)).length = 2 := by decide +kernel
    repeat (first | (with_reducible refine R.yes_bind ?_) | (with_reducible refine R.yes_noE ?_) | (with_reducible refine R.yes_bindSR ?_) | (with_reducible refine SR.yes_bindT ?_) | (with_reducible refine SR.yes_bindS ?_) | (with_reducible refine R.yes_ok ?_; try dsimp only) | (with_reducible refine SR.yes_nx ?_; try dsimp only))
    rw [right_str y (by omega)]
    repeat (first | (with_reducible refine R.yes_bind ?_) | (with_reducible refine R.yes_noE ?_) | (with_reducible refine R.yes_bindSR ?_) | (with_reducible refine SR.yes_bindT ?_) | (with_reducible refine SR.yes_bindS ?_) | (with_reducible refine R.yes_ok ?_; try dsimp only) | (with_reducible refine SR.yes_nx ?_; try dsimp only))
    rw [if_pos rfl]
    repeat (first | (with_reducible refine R.yes_bind ?_) | (with_reducible refine R.yes_noE ?_) | (with_reducible refine R.yes_bindSR ?_) | (with_reducible refine SR.yes_bindT ?_) | (with_reducible refine SR.yes_bindS ?_) | (with_reducible refine R.yes_ok ?_; try dsimp only) | (with_reducible refine SR.yes_nx ?_; try dsimp only))
    refine catS_yes (by omega) ?_
    repeat (first | (with_reducible refine R.yes_bind ?_) | (with_reducible refine R.yes_noE ?_) | (with_reducible refine R.yes_bindSR ?_) | (with_reducible refine SR.yes_bindT ?_) | (with_reducible refine SR.yes_bindS ?_) | (with_reducible refine R.yes_ok ?_; try dsimp only) | (with_reducible refine SR.yes_nx ?_; try dsimp only))
    rw [right_str _ (by rw [len_app]; omega)]
    rfl
end T

open PySem PySem.W PySem.Calls PyProof.Rows
theorem PySem.Challenge.cw_backlinks_k67_texts_of_no_log_holds : PySem.Challenge.rw_backlinks_k67_texts_of_no_log.Holds := by
  w_on; o_law
  refine HandSHeadRun.head_any (r := OpenLaw.row PySem.Challenge.rw_backlinks_k67_texts_of_no_log) (q := view (OpenLaw.row PySem.Challenge.rw_backlinks_k67_texts_of_no_log).prog [48]) (H := T.Hd.hk) (ob := T.Hd.ob) (M := 6000) (loose := T.Hd.names) (d := HandSHeadRun.topDef (OpenLaw.row PySem.Challenge.rw_backlinks_k67_texts_of_no_log).prog 48) (kwd := []) T.Hd.ob_eq
    (by kernel_rfl) (fun s => by kernel_rfl) T.Hd.run (by kernel_rfl) (by kernel_rfl) (by kernel_rfl) (by rfl) (by first | assumption | decide +kernel) (by decide +kernel) ⟨rfl, rfl, rfl, rfl, rfl, by decide +kernel⟩ ?hw ?hc
  case hw => w_witness2
  case hc =>
    refine L3.walk_ofEG (l := PySem.Challenge.rw_backlinks_k67_texts_of_no_log) (n := 63) (k := 7) (x := "script") (CX := fun w => L2N.CX (PySem.Challenge.rw_backlinks_k67_texts_of_no_log).prog w) rfl (by decide) (by kernel_rfl) ⟨rfl, by decide, by decide⟩ ?F (fun _ _ _ _ _ z => L3.cx_top z)
    intro w mg fa h Y G hmg0
    obtain ⟨K, KX, hbx, c⟩ := Y
    have hmg : mg ("law" : PySem.Str) = some (.ref fa) := by
      have e : (HandSHeadRun.topDef (OpenLaw.row PySem.Challenge.rw_backlinks_k67_texts_of_no_log).prog 48).name = ("law" : PySem.Str) := by kernel_rfl
      rw [← e]
      exact hmg0
    have M : T.Mo K mg (He.ga K) := T.says KX G hbx c
    have ef : fa = He.ga K "law" := by
      have z := hmg.symm.trans M.f_law
      cases z
      rfl
    obtain ⟨fd, hb, hF⟩ := T.L_law (P := (PySem.Challenge.rw_backlinks_k67_texts_of_no_log).prog) (w := w) M
    refine ⟨K, fd, L3.liftSp K (L3.clsOf (He.ga K)) [] T.sp_law, KX, hb, fun H a ns hl hm hS => L3.sp_topC hS fun Q E z => ⟨ns, rfl, by show (T.f_law ns).sat _ _; rw [T.law_true ns hl]; exact z⟩, fun base _ _ => ?_⟩
    rw [ef]
    exact hF base

